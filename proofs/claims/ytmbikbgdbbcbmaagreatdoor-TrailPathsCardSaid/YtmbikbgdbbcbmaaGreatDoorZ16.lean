/- Part 16 of the proof. -/
import Derived.Test.YtmbikbgdbbcbmaaGreatDoorY
import Derived.Test.YtmbikbgdbbcbmaaGreatDoorZ15
import Derived.Test.YtmbikbgdbbcbmaaGreatDoorZ2
import Derived.Deep.Slices
import Derived.Test.YtmbikbgdbbcbmaaGreatDoorZ3
import Derived.Deep.SlicePairs
set_option maxHeartbeats 8000000
set_option linter.unusedVariables false
set_option maxRecDepth 100000
open Nat (reduceLT reduceAdd reduceEqDiff reduceLeDiff reduceMul)
open List (map_nil)
open Int (reduceNeg)
section
namespace Go.Proofs.YtmbikbgdbbcbmaaGreatDoor
open Go Go.Ax Go.AxS
section
section
variable {E:Env}{Z:Sg}{K:V->Sg->Prop}
def lY (n:Nat) (g:Nat->Bool):List V:=(List.range n).map λk=>V.bool (g k)
def sW (n i:Nat):List V:=(List.range i).map (λj=>V.sl (j+1) 0 n none)++List.replicate (n-i) .aF
def qK (ex:Bool) (n i:Nat) (c:Nat->Nat->Bool):Sg:=.cells 105 (sW n i) true::(List.range i).map λj=>O.cells 4 (lY n (c j)) ex
def Jn (n:Nat) (c:Nat->Nat->Bool):List (List Bool):=(List.range n).map λi=>(List.range n).map (c i)
def ID (c:Nat->Nat->Bool) (i k:Nat) (b:Bool):Nat->Nat->Bool:=λx y=>if x=i/\y=k then b else c x y
theorem mF {n:Nat}{g:Nat->Bool}:(lY n g).length=n:=by simp[lY]
theorem pT {n i:Nat}(h:i<=n):(sW n i).length=n:=by simp[sW];omega
theorem uY {n i j:Nat}(h:j<i):(sW n i)[j]?=some (.sl (j+1) 0 n none):=by
 unfold sW;rw[b8 (by simpa using h)];simp[h]
theorem yU {n k:Nat}{g:Nat->Bool}(h:k<n):(lY n g)[k]?=some (.bool (g k)):=by simp[lY,h]
theorem Dx {ex:Bool}{n i:Nat}{c:Nat->Nat->Bool}:(qK ex n i c).length=i+1:=by simp[qK]
theorem aa0 {ex:Bool}{n i:Nat}{c:Nat->Nat->Bool}:(qK ex n i c)[0]?=some (.cells 105 (sW n i) true):=rfl
theorem Dw {ex:Bool}{n i j:Nat}{c:Nat->Nat->Bool}(h:j<i):(qK ex n i c)[j+1]?=some (.cells 4 (lY n (c j)) ex):=by
 simp[qK,h]
theorem GF (h:bE E) {n j:Nat}(hj:j<n):indexAddr E 68 (.sl 0 0 n none) (.int .i64 (j:Int))=some (.ref 0 j):=by
 have hneg:¬ ((j:Int)<0):=by omega
 unfold indexAddr;simp only[hneg,ay,h.Ov,h.rG,dz,hj,bf,dh,po]
theorem Dp (h:bE E) {n j k:Nat}(hk:k<n):indexAddr E 105 (.sl (j+1) 0 n none) (.int .i64 (k:Int))=some (.ref (j+1) k):=by
 have hneg:¬ ((k:Int)<0):=by omega
 unfold indexAddr;simp only[hneg,ay,h.rG,h.Ee,dz,hk,bf,dh,po]
theorem Gw (h:bE E) {ex:Bool}{n i j:Nat}{c:Nat->Nat->Bool}(hj:j<i):loadAt E (qK ex n i c) 105 (.ref 0 j)=some (.sl (j+1) 0 n none):=by
 unfold loadAt;simp only[h.rG,aa0,Ax.isAgg,ah,ay,uY hj]
theorem Kc (h:bE E) {ex:Bool}{n i j k:Nat}{c:Nat->Nat->Bool}(hj:j<i)(hk:k<n):loadAt E (qK ex n i c) 4 (.ref (j+1) k)=some (.bool (c j k)):=by
 unfold loadAt;simp only[h.Ee,Dw hj,Ax.isAgg,ah,ay,yU hk]
theorem Pf {n k:Nat}{g:Nat->Bool}{b:Bool}(hk:k<n):setCells (lY n g) k [.bool b]=lY n (λy=>if y=k then b else g y):=by
 have e:setCells (lY n g) k [.bool b]=(lY n g).set k (.bool b):=by
  unfold setCells;rw[List.set_eq_take_append_cons_drop,az (by rw[mF];exact hk)];simp
 rw[e];apply jx;intro i;by_cases hi:i<n
 ·by_cases hik:k=i
  ·subst hik;rw[bt (by rw[mF];exact hk),yU hk,az rfl]
  ·rw[No hik,yU hi,yU hi,an (λe=>hik e.symm)]
 ·rw[j8 (by rw[ec,mF];omega),j8 (by rw[mF];omega)]
theorem JE (h:bE E) {ex:Bool}{n i j k:Nat}{c:Nat->Nat->Bool}{b:Bool}(hj:j<i)(hk:k<n):storeAt E (qK ex n i c) 4 (.ref (j+1) k) (.bool b)=some (qK ex n i (ID c j k b)):=by
 unfold storeAt;simp only[h.Ee,Dw hj];rw[az (by simp only[V.cells,V.aY,af,b9,j9,l5,mF,mh,ai,aa];exact⟨rfl,by omega⟩)];refine au some ?_;rw[show V.cells (.bool b)=[.bool b] from rfl,Pf hk];apply jx;intro q;cases q with
 |zero=>rw[No (by omega)];rfl
 |succ q=>
  by_cases hq:q<i
  ·rw[Dw hq];by_cases hjq:j=q
   ·subst hjq;rw[bt (by rw[Dx];omega)];congr 2;unfold lY;refine jo λy _=>?_;simp[ID]
   ·rw[No (by omega),Dw hq];congr 2;unfold lY;refine jo λy _=>?_;have:¬ (q=j/\y=k):=λe=>hjq e.1.symm;simp[ID,this]
  ·rw[j8 (by rw[ec,Dx];omega),j8 (by rw[Dx];omega)]
theorem OG (h:bE E) {ex:Bool}{n i:Nat}{c:Nat->Nat->Bool}(hi:i<n):storeAt E (qK ex n i c++[.cells 4 (lY n (c i)) ex]) 105 (.ref 0 i) (.sl (i+1) 0 n none)=some (qK ex n (i+1) c):=by
 unfold storeAt;have h0:(qK ex n i c++[O.cells 4 (lY n (c i)) ex])[0]?=some (.cells 105 (sW n i) true):=rfl;simp only[h.rG,h0];rw[az (by simp only[V.cells,V.aY,af,b9,j9,l5,pT (Nat.le_of_lt hi),mh,ai,aa];exact⟨rfl,by omega⟩)];refine au some ?_
 have e:setCells (sW n i) i [.sl (i+1) 0 n none]=sW n (i+1):=by
  unfold setCells;apply jx;intro q;have hl:((sW n i).take i).length=i:=by rw[bw,pT (Nat.le_of_lt hi)];omega
  rcases jz q i with hq | rfl | hq
  ·rw[cw,b8 (by omega),j7,az hq,uY hq,uY (by omega)]
  ·rw[cw,br (by omega),hl,jl,uY (by omega)];rfl
  ·have e1:(sW n (i+1))[q]?=if q<n then some .aF else none:=by
    unfold sW;rw[br (by simp;omega),bj,qg,List.getElem?_replicate];by_cases g:q<n
    ·rw[az (by omega),az g]
    ·rw[an (by omega),an g]
   rw[e1,cw,br (by omega),hl,br (by simp;omega),dm,mc];unfold sW;rw[br (by simp;omega),bj,qg,List.getElem?_replicate];by_cases g:q<n
   ·rw[az (by omega),az g]
   ·rw[an (by omega),an g]
 rw[show V.cells (.sl (i+1) 0 n none)=[.sl (i+1) 0 n none] from rfl,e];unfold qK;rw[eu,l6,List.range_succ,gp];rfl
theorem LL {n:Nat}{c:Nat->Nat->Bool}{i:Nat}(hi:i<n):(Jn n c)[i]?=some ((List.range n).map (c i)):=by simp[Jn,hi]
theorem Sv {n:Nat}{c:Nat->Nat->Bool}:(Jn n c).length=n:=by simp[Jn]
theorem Sf {n:Nat}{g:Nat->Bool}{k:Nat}(hk:k<n):((List.range n).map g)[k]?=some (g k):=by simp[hk]
theorem Lw:∀l:List V,Ax.rows 1 l.length l=l.map λv=>[v]
 | []=>rfl
 |x::l=>by
  show ((x::l).take 1)::Ax.rows 1 l.length ((x::l).drop 1)=_;rw[show (x::l).drop 1=l from rfl,Lw l];rfl
theorem LM {α β:Type}{f:α->Option β}:∀{l:List α}{m:List β},l.length=m.length->(∀(i:Nat) (a:α) (b:β),l[i]?=some a->m[i]?=some b->f a=some b)->aX f l=some m
 | [],[],_,_=>rfl
 |a::l,b::m,hl,h=>by
  rw[aX,h 0 a b rfl rfl,LM (l:=l) (m:=m) (by simpa using hl) λi x y hx hy=>h (i+1) x y hx hy]
 | [],_::_,hl,_=>by simp at hl
 |_::_,[],hl,_=>by simp at hl
theorem HA (h:bE E) {ex:Bool}{n:Nat}{c:Nat->Nat->Bool}:∃v,cG (qK ex n n c) E.ty false (.sl 0 0 n none)=some v/\kI uR v (Jn n c):=by
 let rv:Nat->V:=λi=>.bS false ((lY n (c i)).map λv=>[v]) (ex&&decide (0<1)&&(0+n*1==n))
 have hrow:∀i,i<n->∀m,bG (qK ex n n c) E.ty false (m+2) (.sl (i+1) 0 n none)=some (rv i):=λi hi m=>by
  have hm:aX (λv=>match bG (qK ex n n c) E.ty false (m+1) v with
    |some v=>if cL false v then some v else no "snap: borrowed"
    |none=>none) (lY n (c i))=some (lY n (c i)):=by
   refine f_ λx hx=>?_;obtain⟨k,_,rfl⟩:=cv.1 hx;rfl
  rw[bG];simp only[Dw hi,h.Ee];rw[az (by rw[mF];omega),fc,ak (by rw[mF];omega)]
  refine (au (λo=>match o with
   |some l=>some (V.bS false (Ax.rows 1 n l) (ex&&decide (0<1)&&(0+n*1==(lY n (c i)).length)))
   |none=>none) hm).trans ?_
  show some (V.bS false (Ax.rows 1 n (lY n (c i))) (ex&&decide (0<1)&&(0+n*1==(lY n (c i)).length)))=_
  have:Ax.rows 1 n (lY n (c i))=(lY n (c i)).map λv=>[v]:=by
   have:=Lw (lY n (c i));rwa [mF]at this
  rw[this,mF]
 have hout:bG (qK ex n n c) E.ty false 12 (.sl 0 0 n none)=some (.bS false (((List.range n).map rv).map λv=>[v]) (true&&decide (0<1)&&(0+n*1==n))):=by
  have hm:aX (λv=>match bG (qK ex n n c) E.ty false 11 v with
    |some v=>if cL false v then some v else no "snap: borrowed"
    |none=>none) (sW n n)=some ((List.range n).map rv):=by
   refine LM (by rw[pT (OF n)];simp) λi a b ha hb=>?_
   have hi:i<n:=by
    have:=(AI.1 ha).1
    rwa [pT (OF n)]at this
   rw[uY hi]at ha;cases ha;have hb:some (rv i)=some b:=by rw[<- hb];simp[hi]
   cases hb;rw[hrow i hi 9];rfl
  rw[bG];simp only[aa0,h.rG];rw[az (by rw[pT (OF n)];omega),fc,ak (by rw[pT (OF n)];omega)]
  refine (au (λo=>match o with
   |some l=>some (V.bS false (Ax.rows 1 n l) (true&&decide (0<1)&&(0+n*1==(sW n n).length)))
   |none=>none) hm).trans ?_
  show some (V.bS false (Ax.rows 1 n ((List.range n).map rv)) (true&&decide (0<1)&&(0+n*1==(sW n n).length)))=_
  have:Ax.rows 1 n ((List.range n).map rv)=((List.range n).map rv).map λv=>[v]:=by
   have:=Lw ((List.range n).map rv);rwa [show ((List.range n).map rv).length=n by simp]at this
  rw[this,pT (OF n)]
 refine⟨.bS false (((List.range n).map rv).map λv=>[v]) (true&&decide (0<1)&&(0+n*1==n)),?_,.inr ⟨((List.range n).map rv).map λv=>[v],true&&decide (0<1)&&(0+n*1==n),rfl,?_⟩⟩
 ·show (match bG (qK ex n n c) E.ty false 12 (.sl 0 0 n none) with
   |some v=>if cL false v then some v else no "snap: borrowed"
   |none=>none)=_
  rw[hout];rfl
 ·unfold Jn;rw[jv];refine eJ.map (P:=uR.P) (f:=(λv=>[v]) ∘ rv) (g:=λi=>(List.range n).map (c i)) (λi=>⟨rv i,rfl,.inr ⟨false,(lY n (c i)).map λv=>[v],ex&&decide (0<1)&&(0+n*1==n),rfl,?_⟩⟩) _;unfold lY;rw[jv];exact eJ.map (P:=DY.P) (f:=(λv=>[v]) ∘ λk=>V.bool (c i k)) (g:=c i) (λk=>rfl) _
end
end
section
section
variable {E:Env}{Z:Sg}{K:V->Sg->Prop}
def AW (c:Nat->Nat->Bool) (i:Nat) (g:Nat->Bool):Nat->Nat->Bool:=λx=>if x=i then g else c x
theorem IB {ex:Bool}{n i:Nat}{c c':Nat->Nat->Bool}(h:∀j,j<i->c j=c' j):qK ex n i c=qK ex n i c':=by
 unfold qK;refine au _ (jo λj hj=>?_);rw[h j (kj.1 hj)]
theorem U7 (h:bE E) {ex:Bool}{n i:Nat}{c:Nat->Nat->Bool}{g:Nat->Bool}(hi:i<n):storeAt E (qK ex n i c++[.cells 4 (lY n g) ex]) 105 (.ref 0 i) (.sl (i+1) 0 n none)=some (qK ex n (i+1) (AW c i g)):=by
 have:=OG (ex:=ex) (c:=AW c i g) h hi;rw[IB (c:=AW c i g) (c':=c) (λj hj=>by unfold AW;rw[an (by omega)]),show AW c i g i=g from az rfl]at this;exact this
theorem IE {c:Nat->Nat->Bool}{i k:Nat}{g:Nat->Bool}{b:Bool}:ID (AW c i g) i k b=AW c i (λy=>if y=k then b else g y):=by
 funext x y;unfold ID AW;by_cases hx:x=i
 ·simp[hx]
 ·simp[hx]
theorem MX (n:Nat):gX n [V.bool false]=lY n λ_=>false:=by
 have:∀n:Nat,gX n [V.bool false]=List.replicate n (V.bool false):=by
  intro n
  induction n with
  |zero=>rfl
  |succ n ih=>rw[gX,ih];rfl
 rw[this];unfold lY;rw[List.map_const',qg]
theorem EU (n:Nat):gX n [V.aF]=sW n 0:=by
 have:∀n:Nat,gX n [V.aF]=List.replicate n V.aF:=by
  intro n
  induction n with
  |zero=>rfl
  |succ n ih=>rw[gX,ih];rfl
 rw[this];rfl
theorem Db {rs:List aD}{f:bC}{k:Nat}(h:fI rs f=some k):k<rs.length:=by
 unfold fI at h;generalize (λr:aD=>decide (f∈r.outs))=p at h
 induction rs generalizing k with
 |nil=>cases h
 |cons r rs ih=>
  rw[bQ]at h;split at h
  ·cases h;simp
  ·obtain⟨j,hj,rfl⟩:=Option.map_eq_some_iff.1 h;have:=ih hj;simp only[af];omega
theorem ET {rs:List aD}{f:bC}{k:Nat}(h:gE rs f=some k):k<rs.length:=by
 unfold gE at h;generalize (λr:aD=>decide (r.name=f))=p at h
 induction rs generalizing k with
 |nil=>cases h
 |cons r rs ih=>
  rw[bQ]at h;split at h
  ·cases h;simp
  ·obtain⟨j,hj,rfl⟩:=Option.map_eq_some_iff.1 h;have:=ih hj;simp only[af];omega
theorem qG {α:Type}{p:α->Bool}{l:List α}{j:Nat}{x:α}(hx:l[j]?=some x):(l.take (j+1)).any p=((l.take j).any p||p x):=by
 rw[ek,hx,List.any_append];simp
structure yC (rs:List aD):Prop where
 len:rs.length<=64
 all:∀x∈rs,Small x
theorem oA:idx none = -1:=rfl
theorem fC {k:Nat}:idx (some k)=(k:Int):=rfl
theorem T9 (h:bE E) {a:V}{rs:List aD}(ha:LS dN 46 Z a rs)(hs:yC rs) (data:Bool):aB E 84 [a,.bool data] Z λv σ'=>σ'=Z/\kI uR v (Jn rs.length (iO rs data)):=by
 obtain⟨a',ea,ia⟩:=fE h ha;rw[aI h.hs84 h.sp84 h.fn84 h.md84 (args':=[a',.bool data]) (by simp only[aX,ea,show aU Z E.ty true (.bool data)=some (.bool data) from rfl]),aW (by kernel_rfl)];have la:=dA h ia;have hn:=hs.len;generalize hN:rs.length=n at *;have c2:decide ((n:Int)*((24:Nat):Int)<=1099511627776)=true:=BY (by omega);have c3:decide ((n:Int)<=1099511627776)=true:=BY (by omega);have c4:decide ((n:Int)*((1:Nat):Int)<=1099511627776)=true:=BY (by omega);have hinit:([O.cells 105 (sW n 0) true]:Sg)=qK true n 0 (iO rs data):=rfl;simp only[aA,Tryz.f84,KP,↓reduceIte,reduceLT,reduceAdd,reduceCtorEq,h.Ov,h.rG,la,c2,c3,EU,dz,Int.le_refl,hinit];refine aV (λi F Y=>Y=qK true n i (iO rs data)/\F.get 0=a'/\F.get 1=.bool data/\F.get 5=.sl 0 0 n none/\F.get 6=.int .i64 (i:Int)) n ?_ ?_ n 0 _ _ (by omega) ⟨rfl,(by simp +decide only[GS,aj])⟩
 ·rintro i F Y hi ⟨rfl,g0,g1,g5,g6⟩ next
  obtain⟨r,hr⟩:∃y,rs[i]?=some y:=⟨_,AT (by omega)⟩;have hsr:=hs.all r (ag hr);have a1:=hsr.ins;have a3:=hsr.after;obtain⟨g,p1,p2,p3,p4,e1,i1,i2,i3,i4⟩:=fL h ia hr;have l1:=bP h i1;have l3:=bP h i3;have hlt:=dP hi;have hadd:=bW i (by omega);have x1:=GF h hi;have s1:=U7 (ex:=true) (c:=iO rs data) (g:=λ_=>false) h hi;rw[aG];simp only[KP,↓reduceIte,reduceEqDiff,reduceLT,reduceCtorEq,LW h,h.Ee,h.a_,h.bM,h.rG,g0,g5,g6,la,hlt,e1,l1,c3,c4,MX,dz,Int.le_refl,Dx,x1,s1];generalize hc:iO rs data=c at *;have hmem:∀x∈rs,x.outs.length<=4294967296:=λx hx=>by have:=(hs.all x hx).outs;omega
  refine aV (λj F Y=>Y=qK true n (i+1) (AW c i λk=>(r.ins.take j).any λf=>decide (fI rs f=some k))/\F.get 0=a'/\F.get 1=.bool data/\F.get 5=.sl 0 0 n none/\F.get 6=.int .i64 (i:Int)/\F.get 32=p1/\F.get 33=.int .i64 (r.ins.length:Int)/\F.get 34=.int .i64 (j:Int)) r.ins.length ?_ ?_ r.ins.length 0 _ _ (by omega) ⟨by simp,(by simp +decide only[GS,g0,g1,g5,g6,aj])⟩
  ·rintro j F Y hj ⟨rfl,g0,g1,g5,g6,g32,g33,g34⟩ next2;obtain⟨f,hf⟩:∃y,r.ins[j]?=some y:=⟨_,AT hj⟩;obtain⟨g,e2⟩:=gP h i1 hf;have hlt2:=dP hj;have hadd2:=bW j (by omega);generalize hC:(AW c i λk=>(r.ins.take j).any λf=>decide (fI rs f=some k))=C;have km:=L5 (Z:=qK true n (i+1) C) h (s:=f) (ia.ls _ 46) hmem (by omega);rw[aG];cases hm:fI rs f with
   |none=>
    simp only[KP,↓reduceIte,reduceEqDiff,reduceLT,reduceCtorEq,Int.reduceLE,reduceNeg,tD h,g0,g32,g33,g34,hlt2,e2,km,hm,oA,hadd2];refine next2 _ _ ⟨?_,(by simp +decide only[GS,g0,g1,g5,g6,g32,g33,aj])⟩;rw[<- hC];refine au _ (au _ (funext λk=>?_));rw[qG hf,hm];simp
   |some k=>
    have hk:=Db hm;rw[hN]at hk;have c0:decide ((0:Int)<=(k:Int))=true:=BY (by omega);have x2:=Gw (ex:=true) (c:=C) h (show i<i+1 by omega) (n:=n);have x3:=Dp h (j:=i) hk;have x4:=JE (ex:=true) (c:=C) (b:=true) h (show i<i+1 by omega) hk;simp only[KP,↓reduceIte,reduceEqDiff,reduceLT,reduceCtorEq,tD h,g0,g5,g6,g32,g33,g34,hlt2,e2,km,hm,fC,x1,x2,x3,x4,hadd2];refine next2 _ _ ⟨?_,(by simp +decide only[GS,g0,g1,g5,g6,g32,g33,aj])⟩;rw[<- hC,IE];refine au _ (au _ (funext λy=>?_));rw[qG hf,hm];by_cases hy:y=k
    ·subst hy;simp
    ·rw[an hy,AS (λe=>hy (dc e).symm),Bool.or_false]
  ·rintro F Y ⟨rfl,g0,g1,g5,g6,g32,g33,g34⟩;have hlt2:=dZ (bl r.ins.length);rw[ak (OF _)];rw[aG];simp only[KP,↓reduceIte,reduceEqDiff,reduceLT,reduceCtorEq,LW h,h.a_,h.bM,g0,g6,g33,g34,hlt2,e1,l3];refine aV (λj F Y=>Y=qK true n (i+1) (AW c i λk=>(r.ins.any λf=>decide (fI rs f=some k))||(!data&&(r.after.take j).any λm=>decide (gE rs m=some k)))/\F.get 0=a'/\F.get 1=.bool data/\F.get 5=.sl 0 0 n none/\F.get 6=.int .i64 (i:Int)/\F.get 54=p3/\F.get 55=.int .i64 (r.after.length:Int)/\F.get 56=.int .i64 (j:Int)) r.after.length ?_ ?_ r.after.length 0 _ _ (by omega) ⟨by simp,(by simp +decide only[GS,g0,g1,g5,g6,aj])⟩
   ·rintro j F Y hj ⟨rfl,g0,g1,g5,g6,g32,g33,g34⟩ next2;obtain⟨f,hf⟩:∃y,r.after[j]?=some y:=⟨_,AT hj⟩;obtain⟨g,e2⟩:=gP h i3 hf;have hlt2:=dP hj;have hadd2:=bW j (by omega);generalize hC:(AW c i λk=>(r.ins.any λf=>decide (fI rs f=some k))||(!data&&(r.after.take j).any λm=>decide (gE rs m=some k)))=C;have km:=Wq (Z:=qK true n (i+1) C) h (s:=f) (ia.ls _ 46) (by omega);rw[aG];cases hm:gE rs f with
    |none=>
     simp only[KP,↓reduceIte,reduceEqDiff,reduceLT,reduceCtorEq,Int.reduceLE,reduceNeg,tD h,g0,g32,g33,g34,hlt2,e2,km,hm,oA,hadd2];refine next2 _ _ ⟨?_,(by simp +decide only[GS,g0,g1,g5,g6,g32,g33,aj])⟩;rw[<- hC];refine au _ (au _ (funext λk=>?_));rw[qG hf,hm];simp
    |some k=>
     have hk:=ET hm;rw[hN]at hk;have c0:decide ((0:Int)<=(k:Int))=true:=BY (by omega);cases data with
     |true=>
      simp only[KP,↓reduceIte,reduceEqDiff,reduceLT,reduceCtorEq,tD h,g0,g1,g32,g33,g34,hlt2,e2,km,hm,fC,hadd2];refine next2 _ _ ⟨?_,(by simp +decide only[GS,g0,g1,g5,g6,g32,g33,aj])⟩;rw[<- hC];refine au _ (au _ (funext λk=>?_));simp
     |false=>
      have x2:=Gw (ex:=true) (c:=C) h (show i<i+1 by omega) (n:=n);have x3:=Dp h (j:=i) hk;have x4:=JE (ex:=true) (c:=C) (b:=true) h (show i<i+1 by omega) hk;simp only[KP,↓reduceIte,reduceEqDiff,reduceLT,reduceCtorEq,tD h,g0,g1,g5,g6,g32,g33,g34,hlt2,e2,km,hm,fC,x1,x2,x3,x4,hadd2];refine next2 _ _ ⟨?_,(by simp +decide only[GS,g0,g1,g5,g6,g32,g33,aj])⟩;rw[<- hC,IE];refine au _ (au _ (funext λy=>?_));rw[qG hf,hm];by_cases hy:y=k
      ·subst hy;simp
      ·rw[an hy,AS (λe=>hy (dc e).symm),Bool.or_false]
   ·rintro F Y ⟨rfl,g0,g1,g5,g6,g32,g33,g34⟩;have hlt2:=dZ (bl r.after.length);rw[ak (OF _)];rw[aG];simp only[KP,↓reduceIte,reduceEqDiff,reduceLT,g6,g33,g34,hlt2,hadd];refine next _ _ ⟨IB λj hj=>?_,(by simp +decide only[GS,g0,g1,g5,aj])⟩
    unfold AW;by_cases hji:j=i
    ·subst hji;rw[az rfl,<- hc];funext k;unfold iO wF;rw[hr]
    ·rw[an hji]
 ·rintro F Y ⟨rfl,g0,g1,g5,g6⟩;have hlt:=dZ (bl n);rw[aG];obtain⟨v,e1,hv⟩:=HA (ex:=true) (n:=n) (c:=iO rs data) h;simp only[KP,↓reduceIte,reduceEqDiff,reduceLT,reduceCtorEq,g0,g5,g6,la,hlt,e1];exact hv
end
end
section
section
variable {E:Env}{Z:Sg}{K:V->Sg->Prop}
theorem KM {rs:List (List V)}{n:Nat}{g:Nat->Bool}(h:eJ DY.P rs ((List.range n).map g)):rs.flatten=lY n g:=by
 have:∀{rs:List (List V)}{l:List Bool},eJ DY.P rs l->rs.flatten=l.map V.bool:=by
  intro rs l h
  induction h with
  |nil=>rfl
  |cons p _ ih=>rw[dw,ih,show _=[V.bool _] from p];rfl
 rw[this h,jv];rfl
theorem Uh (h:bE E) {Y:Sg}{v:V}{n:Nat}{g:Nat->Bool}(hn:0<n)(hn2:n<=64) (iv:IS DY v ((List.range n).map g)):Ax.append E Y #[105,105] .aF v=some (.sl Y.length 0 n none,Y++[.cells 4 (lY n g) false]):=by
 obtain⟨rs,e,ha⟩:=rV iv Y;have hn0:¬ n=0:=by omega
 have e:elems Y 1 v=some (rs.flatten,n):=by rw[bj,qg]at e;exact e
 have hr:pO n 1=true:=AA (b:=64) (by decide) hn2;unfold Ax.append;simp only[show (#[105,105]:Array Nat)[0]?=some 105 from rfl,h.rG,h.Ee,HV h,e,hn0,hr,bf,ay,dj,je,ah,KM ha,Nat.reduceBEq]
def xC (m:Nat->Nat->Bool) (k i j:Nat):Nat->Nat->Bool:=λx y=>if x<i\/(x=i/\y<j) then wk m (k+1) x y else wk m k x y
theorem WW {m:Nat->Nat->Bool}{k i j:Nat}:xC m k i j i k=wk m k i k:=by
 unfold xC;split
 ·exact Ol k i
 ·rfl
theorem WV {m:Nat->Nat->Bool}{k i j y:Nat}:xC m k i j k y=wk m k k y:=by
 unfold xC;split
 ·exact Oi k y
 ·rfl
theorem WX {m:Nat->Nat->Bool}{k i j:Nat}:xC m k i j i j=wk m k i j:=by
 unfold xC;rw[an (by omega)]
theorem TR {m:Nat->Nat->Bool}{k i j:Nat}{b:Bool}(hb:b=wk m (k+1) i j):ID (xC m k i j) i j b=xC m k i (j+1):=by
 funext x y;unfold ID xC;by_cases h1:x=i
 ·subst h1;by_cases h2:y=j
  ·subst h2;rw[az ⟨rfl,rfl⟩,az (by omega),hb]
  ·rw[an (by omega)];by_cases h3:y<j
   ·rw[az (by omega),az (by omega)]
   ·rw[an (by omega),an (by omega)]
 ·rw[an (by omega)];by_cases h3:x<i
  ·rw[az (by omega),az (by omega)]
  ·rw[an (by omega),an (by omega)]
theorem wH {ex:Bool}{n i:Nat}{c c':Nat->Nat->Bool}(h:∀j,j<i->∀y,y<n->c j y=c' j y):qK ex n i c=qK ex n i c':=by
 unfold qK;refine au _ (jo λj hj=>?_);refine au (λl=>O.cells 4 l ex) (jo λy hy=>?_);rw[h j (kj.1 hj) y (kj.1 hy)]
theorem Q9 (h:bE E) {a:V}{n:Nat}{m:Nat->Nat->Bool}(hn:n<=64) (ia:IS uR a (Jn n m)):aB E 96 [a] Z λv σ'=>σ'=Z/\kI uR v (Jn n (wk m n)):=by
 rw[aI h.hs96 h.sp96 h.fn96 h.md96 (args':=[a]) (by simp only[aX,pK ia Z]),aW (by kernel_rfl)];have la:=P4 h ia;rw[Sv]at la;have c2:decide ((n:Int)*((24:Nat):Int)<=1099511627776)=true:=BY (by omega);have c3:decide ((n:Int)<=1099511627776)=true:=BY (by omega);have hinit:([O.cells 105 (sW n 0) true]:Sg)=qK false n 0 m:=rfl;have d16:=h.WI;simp only[aA,Tryz.f96,cutAt,aq]at d16;simp only[aA,Tryz.f96,KP,↓reduceIte,reduceLT,reduceCtorEq,h.Ov,h.rG,la,c2,c3,EU,dz,Int.le_refl,hinit];refine aV (λi F Y=>Y=qK false n i m/\F.get 0=a/\F.get 3=.int .i64 (n:Int)/\F.get 4=.sl 0 0 n none/\F.get 5=.int .i64 (i:Int)) n ?_ ?_ n 0 _ _ (by omega) ⟨rfl,(by simp +decide only[GS,aj])⟩
 ·rintro i F Y hi ⟨rfl,g0,g3,g4,g5⟩ next
  obtain⟨g,r,e1,rv,hr,irv⟩:=Mt h ia (LL hi);have e1:indexAddr E 68 a (.int .i64 (i:Int))=some (.cZ g [rv]):=by rw[e1,hr]
  have hlt:=dP hi;have hadd:=bW i (by omega);have x1:=GF h hi;have ha:=Uh (Y:=qK false n i m) h (by omega) hn irv;rw[Dx]at ha;have s1:=OG (ex:=false) (c:=m) h hi;rw[aG];simp only[KP,↓reduceIte,reduceEqDiff,reduceLT,reduceCtorEq,jQ h,g0,g3,g4,g5,hlt,e1,x1,ha,s1,hadd];exact next _ _ ⟨rfl,(by simp +decide only[GS,g0,g3,g4,aj])⟩
 ·rintro F Y ⟨rfl,g0,g3,g4,g5⟩;have hlt:=dZ (bl n);rw[aG];simp only[KP,↓reduceIte,reduceEqDiff,reduceLT,g3,g5,hlt];refine aV (λk F Y=>Y=qK false n n (wk m k)/\F.get 3=.int .i64 (n:Int)/\F.get 4=.sl 0 0 n none/\F.get 6=.int .i64 (k:Int)) n ?_ ?_ n 0 _ _ (by omega) ⟨rfl,(by simp +decide only[GS,g3,g4,aj])⟩
  ·rintro k F Y hk ⟨rfl,g3,g4,g6⟩ next
   have hlt:=dP hk;have haddk:=bW k (by omega);rw[aG];simp only[KP,↓reduceIte,reduceEqDiff,reduceLT,g3,g6,hlt];refine aV (λi F Y=>Y=qK false n n (xC m k i 0)/\F.get 3=.int .i64 (n:Int)/\F.get 4=.sl 0 0 n none/\F.get 6=.int .i64 (k:Int)/\F.get 7=.int .i64 (i:Int)) n ?_ ?_ n 0 _ _ (by omega) ⟨wH λx hx y hy=>by unfold xC;rw[an (by omega)],(by simp +decide only[GS,g3,g4,g6,aj])⟩
   ·rintro i F Y hi ⟨rfl,g3,g4,g6,g7⟩ next2;have hlt:=dP hi;have haddi:=bW i (by omega);rw[aG];simp only[KP,↓reduceIte,reduceEqDiff,reduceLT,g3,g7,hlt];refine aV (λj F Y=>Y=qK false n n (xC m k i j)/\F.get 3=.int .i64 (n:Int)/\F.get 4=.sl 0 0 n none/\F.get 6=.int .i64 (k:Int)/\F.get 7=.int .i64 (i:Int)/\F.get 8=.int .i64 (j:Int)) n ?_ ?_ n 0 _ _ (by omega) ⟨rfl,(by simp +decide only[GS,g3,g4,g6,g7,aj])⟩
    ·rintro j F Y hj ⟨rfl,g3,g4,g6,g7,g8⟩ next3;have hlt:=dP hj;have haddj:=bW j (by omega);have v1:=WW (m:=m) (k:=k) (i:=i) (j:=j);have v2:=WV (m:=m) (k:=k) (i:=i) (j:=j) (y:=j);have v3:=WX (m:=m) (k:=k) (i:=i) (j:=j);have v4:=λb hb=>TR (m:=m) (k:=k) (i:=i) (j:=j) (b:=b) hb
     have v5:wk m k i k=false->qK false n n (xC m k i j)=qK false n n (xC m k (i+1) 0):=λhb=>wH λx hx y hy=>by
      unfold xC;by_cases h1:x=i
      ·subst h1;rw[az (show x<x+1\/x=x+1/\y<0 by omega)];split
       ·rfl
       ·rw[wk,hb];simp
      ·by_cases h3:x<i
       ·rw[az (by omega),az (by omega)]
       ·rw[an (by omega),an (by omega)]
     generalize hC:xC m k i j=C at *;have y1:=GF h hi;have y2:=Gw (ex:=false) (c:=C) h hi (n:=n);have y3:=Dp h (j:=i) hk;have y4:=Kc (ex:=false) (c:=C) h hi hk;have y5:=Dp h (j:=i) hj;have y6:=Kc (ex:=false) (c:=C) h hi hj;have z1:=GF h hk;have z2:=Gw (ex:=false) (c:=C) h hk (n:=n);have z3:=Dp h (j:=k) hj;have z4:=Kc (ex:=false) (c:=C) h hk hj;have st1:=λb=>JE (ex:=false) (c:=C) (b:=b) h hi hj;rw[v1]at y4;rw[v3]at y6;rw[v2]at z4;rw[aG];cases w1:wk m k i k with
     |false=>
      simp only[KP,↓reduceIte,reduceEqDiff,reduceLT,g3,g4,g6,g7,g8,hlt,y1,y2,y3,y4,w1,haddi];rw[v5 w1];exact next2 _ _ ⟨rfl,(by simp +decide only[GS,g3,g4,g6,aj])⟩
     |true=>
      have w3:∀b,b=(wk m k i j||wk m k k j)->ID C i j b=xC m k i (j+1):=λb hb=>v4 b (by rw[hb,wk,w1,jh]);cases w2:wk m k i j with
      |true=>
       simp only[KP,↓reduceIte,reduceEqDiff,reduceLT,g3,g4,g6,g7,g8,hlt,y1,y2,y3,y4,y5,y6,w1,w2,st1,haddj,aT d16,bK];rw[w3 true (by rw[w2];rfl)];exact next3 _ _ ⟨rfl,(by simp +decide only[GS,g3,g4,g6,g7,aj])⟩
      |false=>
       simp only[KP,↓reduceIte,reduceEqDiff,reduceLT,g3,g4,g6,g7,g8,hlt,y1,y2,y3,y4,y5,y6,z1,z2,z3,z4,w1,w2,st1,haddj,aT d16,bK];rw[w3 _ (by rw[w2,Bool.false_or])];exact next3 _ _ ⟨rfl,(by simp +decide only[GS,g3,g4,g6,g7,aj])⟩
    ·rintro F Y ⟨rfl,g3,g4,g6,g7,g8⟩;have hlt:=dZ (bl n)
     have v5:qK false n n (xC m k i n)=qK false n n (xC m k (i+1) 0):=wH λx hx y hy=>by
      unfold xC;by_cases h3:x<i+1
      ·rw[az (by omega),az (by omega)]
      ·rw[an (by omega),an (by omega)]
     rw[aG];simp only[KP,↓reduceIte,reduceEqDiff,reduceLT,g3,g7,g8,hlt,haddi];rw[v5];exact next2 _ _ ⟨rfl,(by simp +decide only[GS,g3,g4,g6,aj])⟩
   ·rintro F Y ⟨rfl,g3,g4,g6,g7⟩;have hlt:=dZ (bl n)
    have v5:qK false n n (xC m k n 0)=qK false n n (wk m (k+1)):=wH λx hx y hy=>by
     unfold xC;rw[az (by omega)]
    rw[aG];simp only[KP,↓reduceIte,reduceEqDiff,reduceLT,g3,g6,g7,hlt,haddk];rw[v5];exact next _ _ ⟨rfl,(by simp +decide only[GS,g3,g4,aj])⟩
  ·rintro F Y ⟨rfl,g3,g4,g6⟩;have hlt:=dZ (bl n);obtain⟨v,e1,hv⟩:=HA (ex:=false) (n:=n) (c:=wk m n) h;rw[aG];simp only[KP,↓reduceIte,reduceEqDiff,reduceLT,g3,g4,g6,hlt,e1];exact hv
end
end
section
section
variable {E:Env}{Z:Sg}{K:V->Sg->Prop}
theorem Gq (h:bE E) {v:V}{n:Nat}{c:Nat->Nat->Bool} (iv:IS uR v (Jn n c)) {i k:Nat}(hi:i<n)(hk:k<n):∃g rv g2,indexAddr E 68 v (.int .i64 (i:Int))=some (.cZ g [rv])/\indexAddr E 105 rv (.int .i64 (k:Int))=some (.cZ g2 [.bool (c i k)]):=by
 obtain⟨g,r,e1,rv,hr,irv⟩:=Mt h iv (LL hi);obtain⟨g2,r2,e2,hr2⟩:=Rj h irv (Sf hk);exact⟨g,rv,g2,by rw[e1,hr],by rw[e2,show r2=[.bool (c i k)] from hr2]⟩
theorem AP (h:bE E) {n i:Nat}(hi:i<n):indexAddr E 115 (.sl 0 0 n none) (.int .i64 (i:Int))=some (.ref 0 i):=by
 have hneg:¬ ((i:Int)<0):=by omega
 unfold indexAddr;simp only[hneg,ay,h.Ox,h.mB,dz,hi,bf,dh,po]
theorem Gx (h:bE E) {Y:Sg}{bN:List Int}{i:Nat}(hb:Y[0]?=some (O.cells 3 (bN.map (V.int .i64)) true))(hi:i<bN.length):loadAt E Y 3 (.ref 0 i)=some (.int .i64 (eM bN i)):=by
 unfold loadAt;simp only[h.mB,hb,Ax.isAgg,ah,ay,jr,AT hi,cg];unfold eM;rw[AT hi];rfl
theorem Ci (x:Int)(h1:-9223372036854775808<=x)(h2:x<=9223372036854775807):wr .i64 x=x:=by
 rw[Al,az];have h3:lo .i64 = -9223372036854775808:=rfl;have h4:hi .i64=9223372036854775807:=rfl;rw[h3,h4,ai,aa,aa];exact⟨h1,h2⟩
structure acz (rs:List aD) (n first:Nat) (m:Nat->Nat->Bool) (bN:List Int):Prop where
 cnt:rs.length=n
 le:n<=64
 bN:mV m n first (n+1) 0 0 bN
theorem Sl {Y:Sg}{w:V}{l:List bC}{bN:List Int}(hb:Y[0]?=some (O.cells 3 (bN.map (V.int .i64)) true)) (ow:bB aO 9 Y w l):aQ w≠some 0:=by
 refine lM hb (by decide) ow
theorem Qz (h:bE E) {a vm:V}{rs:List aD}{n first:Nat}{m:Nat->Nat->Bool}{bN:List Int} (t:acz rs n first m bN) (ia:IS dN a rs) (im:IS uR vm (Jn n m)) {Y:Sg}{w:V}{l:List bC}{at_ left:Nat} (b0:Y[0]?=some (O.cells 3 (bN.map (V.int .i64)) true)) (ow:bB aO 9 Y w l)(hl:l≠[]/\l.length+left<=100)(hat:at_<n)(hle:0<left->∃k,k<n/\m at_ k=true/\eM bN k=(left:Int))
  (F:FT) (g0:F.get 0=a) (g3:F.get 3=vm) (g7:F.get 7=.sl 0 0 n none) (g14:F.get 14=w) (g15:F.get 15=.int .i64 (at_:Int)) (g16:F.get 16=.int .i64 (left:Int))
  (hk:∀Y w l,l≠[]->bB aO 9 Y w l->K w Y):R E (.loop (cutAt [1,1,1,1,1,1,1,1,1,1,1,1,1,1,0,1,2,2] (aA Tryz.f112).code)) [.blk 12,.k (cutAt [1,1,1,1,1,1,1,1,1,1,1,1,1,1,1] (aA Tryz.f112).code)] ⟨216,F⟩ Y (nL E (aA Tryz.f112).results K):=by
 have tn:=t.cnt;have tl:=t.le;have tfl:=t.bN.len;have la:=dA h ia;rw[tn]at la;have d44:=h.TK;simp only[aA,Tryz.f112,cutAt,aq]at d44;refine aV (λi F Y=>Y[0]?=some (O.cells 3 (bN.map (V.int .i64)) true)/\F.get 0=a/\F.get 3=vm/\F.get 7=.sl 0 0 n none/\F.get 16=.int .i64 ((left-i:Nat):Int)/\(∃w l,F.get 14=w/\bB aO 9 Y w l/\l≠[]/\l.length+(left-i)<=100)/\∃q:Nat,F.get 15=.int .i64 (q:Int)/\q<n/\(0<left-i->∃k,k<n/\m q k=true/\eM bN k=((left-i:Nat):Int))) left ?_ ?_ left 0 _ _ (by omega) ⟨b0,g0,g3,g7,g16,⟨w,l,g14,ow,hl⟩,at_,g15,hat,hle⟩
 ·rintro i F Y hi ⟨b0,g0,g3,g7,g16,⟨w,l,g14,ow,hl1,hl2⟩,q,g15,hq,hex⟩ next
  obtain⟨k0,hk0,hm0,hf0⟩:=hex (by omega);generalize hL:left-i=L at *;have hgt:decide ((0:Int)<(L:Int))=true:=BY (by omega);have hdn:=Ex L (by omega) (by omega);rw[aG];simp only[aA,Tryz.f112,KP,↓reduceIte,reduceLT,reduceNeg,cutAt,g16,hgt];refine aV (λk F τ'=>τ'=Y/\F.get 0=a/\F.get 3=vm/\F.get 7=.sl 0 0 n none/\F.get 14=w/\F.get 15=.int .i64 (q:Int)/\F.get 16=.int .i64 (L:Int)/\F.get 18=.int .i64 (k:Int)/\∃o:Option Nat,F.get 17=.int .i64 (idx o)/\((o=none/\∀j,j<k->¬ (m q j=true/\eM bN j=(L:Int)))\/∃p,o=some p/\p<n/\m q p=true/\eM bN p=(L:Int))) n ?_ ?_ n 0 _ _ (by omega) ⟨rfl,(FB (by simp +decide only[GS,g0,g3,g7,g14,g15,g16,aj]) ⟨none,(by simp +decide only[GS,oA]),.inl ⟨rfl,λj hj=>by omega⟩⟩)⟩
  ·rintro k F τ' hk ⟨rfl,g0,g3,g7,g14,g15,g16,g18,o,g17,ho⟩ next2;have hlt:=dP hk;have hadd:=bW k (by omega);obtain⟨u1,rv,u2,e1,e2⟩:=Gq h im hq hk;have e3:=AP h hk;have e4:=Gx h b0 (i:=k) (by omega);obtain⟨rk,hrk⟩:∃y,rs[k]?=some y:=⟨_,AT (by omega)⟩;obtain⟨v1,p1,p2,p3,p4,e5,-⟩:=fL h ia hrk;rw[aG];cases c1:m q k with
   |false=>
    simp only[KP,↓reduceIte,reduceEqDiff,reduceLT,reduceCtorEq,reduceNeg,vE h,jQ h,g0,g3,g15,g18,la,hlt,e1,e2,c1,hadd,aT d44,bK];refine next2 _ _ ⟨rfl,(FB (by simp +decide only[GS,g0,g3,g7,g14,g15,g16,aj]) ⟨o,(by simp +decide only[GS,g17]),ho.imp (λ⟨h1,h2⟩=>⟨h1,λj hj=>?_⟩) id⟩)⟩;rcases cj j k with g | g
    ·exact h2 j g
    ·obtain rfl:j=k:=by omega
     rw[c1];simp
   |true=>
    by_cases c2:eM bN k=(L:Int)
    case neg=>
     have d2:decide (eM bN k=(L:Int))=false:=AS c2;simp only[KP,↓reduceIte,reduceEqDiff,reduceLT,reduceCtorEq,reduceNeg,vE h,jQ h,g0,g3,g7,g15,g16,g18,la,hlt,e1,e2,e3,e4,c1,d2,hadd,aT d44,bK];refine next2 _ _ ⟨rfl,(FB (by simp +decide only[GS,g0,g3,g7,g14,g15,g16,aj]) ⟨o,(by simp +decide only[GS,g17]),ho.imp (λ⟨h1,h2⟩=>⟨h1,λj hj=>?_⟩) id⟩)⟩;rcases cj j k with g | g
     ·exact h2 j g
     ·obtain rfl:j=k:=by omega
      exact λe=>c2 e.2
    have d2:decide (eM bN k=(L:Int))=true:=BY c2;rcases ho with⟨rfl,-⟩ | ⟨p,rfl,hp,hmp,hfp⟩
    ·simp only[KP,↓reduceIte,reduceEqDiff,reduceLT,reduceCtorEq,Int.reduceLT,reduceNeg,vE h,jQ h,g0,g3,g7,g15,g16,g17,g18,la,hlt,e1,e2,e3,e4,c1,d2,hadd,oA,aT d44,bK];exact next2 _ _ ⟨rfl,(FB (by simp +decide only[GS,g0,g3,g7,g14,g15,g16,aj]) ⟨some k,(by simp +decide only[GS,fC]),.inr ⟨k,rfl,hk,c1,c2⟩⟩)⟩
    ·have c0:decide ((p:Int)<0)=false:=AS (by omega);obtain⟨rp,hrp⟩:∃y,rs[p]?=some y:=⟨_,AT (by omega)⟩;obtain⟨v2,q1,q2,q3,q4,e6,-⟩:=fL h ia hrp;cases c3:Ax.slt rk.name rp.name with
     |true=>
      simp only[KP,↓reduceIte,reduceEqDiff,reduceLT,reduceCtorEq,reduceNeg,vE h,tD h,jQ h,h.dG,h.bM,g0,g3,g7,g15,g16,g17,g18,la,hlt,e1,e2,e3,e4,e5,e6,c1,d2,c0,c3,hadd,fC,aT d44,bK];exact next2 _ _ ⟨rfl,(FB (by simp +decide only[GS,g0,g3,g7,g14,g15,g16,aj]) ⟨some k,(by simp +decide only[GS,fC]),.inr ⟨k,rfl,hk,c1,c2⟩⟩)⟩
     |false=>
      simp only[KP,↓reduceIte,reduceEqDiff,reduceLT,reduceCtorEq,reduceNeg,vE h,tD h,jQ h,h.dG,h.bM,g0,g3,g7,g15,g16,g17,g18,la,hlt,e1,e2,e3,e4,e5,e6,c1,d2,c0,c3,hadd,fC,aT d44,bK];exact next2 _ _ ⟨rfl,(FB (by simp +decide only[GS,g0,g3,g7,g14,g15,g16,aj]) ⟨some p,(by simp +decide only[GS,g17]),.inr ⟨p,rfl,hp,hmp,hfp⟩⟩)⟩
  ·rintro F τ' ⟨rfl,g0,g3,g7,g14,g15,g16,g18,o,g17,ho⟩;have hlt:=dZ (bl n);rcases ho with⟨rfl,hno⟩ | ⟨p,rfl,hp,hmp,hfp⟩
   ·exact absurd ⟨hm0,hf0⟩ (hno k0 hk0)
   ·obtain⟨rp,hrp⟩:∃y,rs[p]?=some y:=⟨_,AT (by omega)⟩;obtain⟨v2,q1,q2,q3,q4,e6,-⟩:=fL h ia hrp;obtain⟨w2,τ2,ha2,o2,k2,n2⟩:=GZ (s:=rp.name) (ex:=true) h ow (by omega);rw[aG];simp only[KP,↓reduceIte,reduceEqDiff,reduceLT,reduceLeDiff,reduceMul,reduceCtorEq,reduceNeg,tD h,h.dG,h.a_,h.bM,g0,g14,g16,g17,g18,la,hlt,e6,fC,lD,ha2,hdn];clear hex;have hLi:L-1=left-(i+1):=by rw[<- hL,Nat.sub_sub]
    have b2:=k2 0 _ (aJ b0) (Sl b0 ow);refine next _ _ ⟨b2,(iU (by simp +decide only[GS,g0,g3,g7,aj]) ⟨?_,⟨w2,_,(by simp +decide only[GS]),o2,by simp,?_⟩,p,(by simp +decide only[GS]),hp,λhpos=>?_⟩)⟩
    ·rw[hLi];exact (by simp +decide only[GS])
    ·simp only[By,af,b9];omega
    ·obtain⟨e,he⟩:∃e:Nat,L=e+1:=⟨L-1,by omega⟩;obtain⟨k',h1,h2,h3⟩:=t.bN.down p e hp (by rw[hfp,he];omega);exact⟨k',h1,h2,by rw[h3];omega⟩
 ·rintro F Y ⟨b0,g0,g3,g7,g16,⟨w,l,g14,ow,hl1,hl2⟩,-⟩;rw[jl]at g16;rw[aG];simp only[aA,Tryz.f112,KP,↓reduceIte,reduceEqDiff,reduceLT,Int.reduceLT,reduceNeg,cutAt,g16,g14];exact hk _ _ _ hl1 ow
end
end
section
section
variable {E:Env}{Z:Sg}{K:V->Sg->Prop}
theorem QB (h:bE E) {a vm:V}{rs:List aD}{n first:Nat}{m:Nat->Nat->Bool}{bN:List Int} (t:acz rs n first m bN) (ia:IS dN a rs) (im:IS uR vm (Jn n m))(hf:first<n)(hex:∃k,k<n/\m first k=true/\0<=eM bN k)
  (F:FT) (g0:F.get 0=a) (g3:F.get 3=vm) (g5:F.get 5=.int .i64 (first:Int)) (g7:F.get 7=.sl 0 0 n none)
  (hk:∀Y w l,l≠[]->bB aO 9 Y w l->K w Y):R E (cutAt [1,1,1,1,1,1,1,1,1,1] (aA Tryz.f112).code) [] ⟨216,F⟩ [O.cells 3 (bN.map (V.int .i64)) true] (nL E (aA Tryz.f112).results K):=by
 have tn:=t.cnt;have tl:=t.le;have tfl:=t.bN.len;have la:=dA h ia;rw[tn]at la;have b0:([O.cells 3 (bN.map (V.int .i64)) true]:Sg)[0]?=some (O.cells 3 (bN.map (V.int .i64)) true):=rfl;have key:=λY w l at_ left b0 ow hl hat hle F g0 g3 g7 g14 g15 g16=>Qz (K:=K) h t ia im (Y:=Y) (w:=w) (l:=l) (at_:=at_) (left:=left) b0 ow hl hat hle F g0 g3 g7 g14 g15 g16 hk;rw[show cutAt [1,1,1,1,1,1,1,1,1,1] (aA Tryz.f112).code=.seq (cutAt [1,1,1,1,1,1,1,1,1,1,0] (aA Tryz.f112).code) (.seq (.seq (cutAt [1,1,1,1,1,1,1,1,1,1,1,0,0] (aA Tryz.f112).code) (.block 10 (.loop (cutAt [1,1,1,1,1,1,1,1,1,1,1,0,1,2,2] (aA Tryz.f112).code)))) (.seq (cutAt [1,1,1,1,1,1,1,1,1,1,1,1,0] (aA Tryz.f112).code) (.seq (cutAt [1,1,1,1,1,1,1,1,1,1,1,1,1,0] (aA Tryz.f112).code) (.seq (.seq (cutAt [1,1,1,1,1,1,1,1,1,1,1,1,1,1,0,0] (aA Tryz.f112).code) (.block 12 (.loop (cutAt [1,1,1,1,1,1,1,1,1,1,1,1,1,1,0,1,2,2] (aA Tryz.f112).code)))) (cutAt [1,1,1,1,1,1,1,1,1,1,1,1,1,1,1] (aA Tryz.f112).code))))) from rfl];generalize cutAt [1,1,1,1,1,1,1,1,1,1,1,1,1,1,0,1,2,2] (aA Tryz.f112).code=D at *;generalize cutAt [1,1,1,1,1,1,1,1,1,1,1,1,1,1,1] (aA Tryz.f112).code=C at *;simp only[aA,Tryz.f112,KP,↓reduceIte,reduceLT,reduceNeg,cutAt];refine aV (λk F Y=>Y=[O.cells 3 (bN.map (V.int .i64)) true]/\F.get 0=a/\F.get 3=vm/\F.get 5=.int .i64 (first:Int)/\F.get 7=.sl 0 0 n none/\F.get 13=.int .i64 (k:Int)/\((F.get 12=.int .i64 0/\∀j,j<k->¬ (m first j=true/\0<=eM bN j))\/∃(q e:Nat),F.get 12=.int .i64 ((e+1:Nat):Int)/\q<n/\m first q=true/\eM bN q=(e:Int))) n ?_ ?_ n 0 _ _ (by omega) ⟨rfl,(iT (by simp +decide only[GS,g0,g3,g5,g7,aj]) (.inl ⟨(by simp +decide only[GS]),λj hj=>by omega⟩))⟩
 ·rintro k F Y hk2 ⟨rfl,g0,g3,g5,g7,g13,ho⟩ next
  have hlt:=dP hk2;have hadd:=bW k (by omega);obtain⟨u1,rv,u2,e1,e2⟩:=Gq h im hf hk2;have e3:=AP h hk2;have e4:=Gx h b0 (i:=k) (by omega);rw[aG]
  have hno:¬ (m first k=true/\0<=eM bN k)->((F.get 12=.int .i64 0/\∀j,j<k+1->¬ (m first j=true/\0<=eM bN j))\/∃(q e:Nat),F.get 12=.int .i64 ((e+1:Nat):Int)/\q<n/\m first q=true/\eM bN q=(e:Int)):=λhn=>ho.imp (λ⟨h1,h2⟩=>⟨h1,λj hj=>by
   rcases cj j k with g | g
   ·exact h2 j g
   ·obtain rfl:j=k:=by omega
    exact hn⟩) id
  have tr:∀{F':FT},F'.get 12=F.get 12->¬ (m first k=true/\0<=eM bN k)->((F'.get 12=.int .i64 0/\∀j,j<k+1->¬ (m first j=true/\0<=eM bN j))\/∃(q e:Nat),F'.get 12=.int .i64 ((e+1:Nat):Int)/\q<n/\m first q=true/\eM bN q=(e:Int)):=λhF hn=>by rw[hF];exact hno hn
  cases c1:m first k with
  |false=>
   simp only[KP,↓reduceIte,reduceEqDiff,reduceLT,reduceCtorEq,vE h,jQ h,g0,g3,g5,g13,la,hlt,e1,e2,c1,hadd];exact next _ _ ⟨rfl,(iT (by simp +decide only[GS,g0,g3,g5,g7,aj]) (tr (by simp +decide only[GS]) (λe=>by rw[c1]at e;cases e.1)))⟩
  |true=>
   by_cases c2:0<=eM bN k
   case neg=>
    have d2:decide (0<=eM bN k)=false:=AS c2;simp only[KP,↓reduceIte,reduceEqDiff,reduceLT,reduceCtorEq,vE h,jQ h,g0,g3,g5,g7,g13,la,hlt,e1,e2,e3,e4,c1,d2,hadd];exact next _ _ ⟨rfl,(iT (by simp +decide only[GS,g0,g3,g5,g7,aj]) (tr (by simp +decide only[GS]) (λe=>c2 e.2)))⟩
   obtain⟨e,he⟩:=Int.eq_ofNat_of_zero_le c2;have hsm:=t.bN.small hk2;have d2:decide ((0:Int)<=(e:Int))=true:=BY (by omega);have hw:=bW e (by omega);rw[he]at e4;rcases ho with⟨g12,-⟩ | ⟨q,e',g12,hq,hm,hfq⟩
   ·simp only[KP,↓reduceIte,reduceEqDiff,reduceLT,reduceCtorEq,vE h,jQ h,g0,g3,g5,g7,g13,g12,la,hlt,e1,e2,e3,e4,c1,hw,hadd];exact next _ _ ⟨rfl,(iT (by simp +decide only[GS,g0,g3,g5,g7,aj]) (.inr ⟨k,e,(by simp +decide only[GS]),hk2,c1,he⟩))⟩
   ·have d3:decide (((e'+1:Nat):Int)=0)=false:=AS (by omega);cases c3:decide (((e+1:Nat):Int)<((e'+1:Nat):Int)) with
    |true=>
     simp only[KP,↓reduceIte,reduceEqDiff,reduceLT,reduceCtorEq,vE h,jQ h,g0,g3,g5,g7,g13,g12,la,hlt,e1,e2,e3,e4,c1,d3,hw,c3,hadd];exact next _ _ ⟨rfl,(iT (by simp +decide only[GS,g0,g3,g5,g7,aj]) (.inr ⟨k,e,(by simp +decide only[GS]),hk2,c1,he⟩))⟩
    |false=>
     simp only[KP,↓reduceIte,reduceEqDiff,reduceLT,reduceCtorEq,vE h,jQ h,g0,g3,g5,g7,g13,g12,la,hlt,e1,e2,e3,e4,c1,d3,hw,c3,hadd];exact next _ _ ⟨rfl,(iT (by simp +decide only[GS,g0,g3,g5,g7,aj]) (.inr ⟨q,e',(by simp +decide only[GS,g12]),hq,hm,hfq⟩))⟩
 ·rintro F Y ⟨rfl,g0,g3,g5,g7,g13,ho⟩;have hlt:=dZ (bl n);rcases ho with⟨-,hno⟩ | ⟨q,e,g12,hq,hm,hfq⟩
  ·obtain⟨k,h1,h2,h3⟩:=hex;exact absurd ⟨h2,h3⟩ (hno k h1)
  ·have hsm:=t.bN.small hq;have hw:=Ex (e+1) (by omega) (by omega);obtain⟨rf,hrf⟩:∃y,rs[first]?=some y:=⟨_,AT (by omega)⟩;obtain⟨v1,p1,p2,p3,p4,e5,-⟩:=fL h ia hrf;rw[aG];simp only[KP,↓reduceIte,reduceEqDiff,reduceLT,reduceLeDiff,reduceMul,reduceCtorEq,tD h,h.dG,h.a_,h.bM,g0,g5,g13,g12,la,hlt,e5,lD,hw];refine key [O.cells 3 (bN.map (V.int .i64)) true,.cells 9 [.str rf.name] true] (.sl 1 0 1 none) [rf.name] first e rfl (.inr ⟨1,[[.str rf.name]],true,rfl,rfl,.one rfl⟩) ⟨by simp,by simp only[af,b9];omega⟩ hf (λ_=>⟨q,hq,hm,hfq⟩) _ ?_ ?_ ?_ ?_ ?_ ?_
   ·exact (by simp +decide only[GS,g0])
   ·exact (by simp +decide only[GS,g3])
   ·exact (by simp +decide only[GS,g7])
   ·exact (by simp +decide only[GS])
   ·exact (by simp +decide only[GS])
   ·exact (by simp +decide only[GS,o5])
theorem JF (h:bE E) {bN:List Int}{i:Nat}{d:Int}(hi:i<bN.length):storeAt E [O.cells 3 (bN.map (V.int .i64)) true] 3 (.ref 0 i) (.int .i64 d)=some [O.cells 3 ((bN.set i d).map (V.int .i64)) true]:=by
 unfold storeAt;have h0:([O.cells 3 (bN.map (V.int .i64)) true]:Sg)[0]?=some (O.cells 3 (bN.map (V.int .i64)) true):=rfl;simp only[h.mB,h0];rw[az (by simp only[V.cells,V.aY,af,b9,j9,l5,bj,mh,ai,aa];exact⟨rfl,by omega⟩)];refine au some ?_;show [O.cells 3 (setCells (bN.map (V.int .i64)) i [V.int .i64 d]) true]=_
 have:setCells (bN.map (V.int .i64)) i [V.int .i64 d]=(bN.set i d).map (V.int .i64):=by
  unfold setCells;rw[List.map_set,List.set_eq_take_append_cons_drop,az (by simpa using hi)];simp
 rw[this]
theorem TO (h:bE E) {a vm:V}{rs:List aD}{n first:Nat}{m:Nat->Nat->Bool}(hn:rs.length=n)(hle:n<=64) (ia:IS dN a rs) (im:IS uR vm (Jn n m))(hf:first<n)(hmn:∀i j,m i j=true->i<n/\j<n)(hw:AxS.Way m first first) {bN:List Int}(hfar:mV m n first 1 0 0 bN)
  (F:FT) (g0:F.get 0=a) (g3:F.get 3=vm) (g5:F.get 5=.int .i64 (first:Int)) (g7:F.get 7=.sl 0 0 n none)
  (hk:∀Y w l,l≠[]->bB aO 9 Y w l->K w Y):R E (cutAt [1,1,1,1,1,1,1,1,1] (aA Tryz.f112).code) [] ⟨216,F⟩ [O.cells 3 (bN.map (V.int .i64)) true] (nL E (aA Tryz.f112).results K):=by
 have la:=dA h ia;rw[hn]at la;have key:=λbN (hfar:mV m n first (n+1) 0 0 bN) F g0 g3 g5 g7=>QB (K:=K) h ⟨hn,hle,hfar⟩ ia im hf (hfar.first hmn hf hw) F g0 g3 g5 g7 hk;rw[show cutAt [1,1,1,1,1,1,1,1,1] (aA Tryz.f112).code=.seq (cutAt [1,1,1,1,1,1,1,1,1,0] (aA Tryz.f112).code) (cutAt [1,1,1,1,1,1,1,1,1,1] (aA Tryz.f112).code) from rfl];generalize cutAt [1,1,1,1,1,1,1,1,1,1] (aA Tryz.f112).code=C at *;simp only[aA,Tryz.f112,KP,↓reduceIte,reduceLT,reduceNeg,cutAt];refine aV (λd F Y=>∃bN,Y=[O.cells 3 (bN.map (V.int .i64)) true]/\mV m n first (d+1) 0 0 bN/\F.get 0=a/\F.get 3=vm/\F.get 5=.int .i64 (first:Int)/\F.get 7=.sl 0 0 n none/\F.get 9=.int .i64 ((d+1:Nat):Int)) n ?_ ?_ n 0 _ _ (by omega) ⟨bN,rfl,hfar,(fK (by simp +decide only[GS,g0,g3,g5,g7,aj]) (by simp +decide only[GS];rfl))⟩
 ·rintro d F Y hd ⟨bN,rfl,hfar,g0,g3,g5,g7,g9⟩ next
  have hle1:decide (((d+1:Nat):Int)<=(n:Int))=true:=BY (by omega);have haddd:=bW (d+1) (by omega);have hsub:=Ex (d+1) (by omega) (by omega);rw[aG];simp only[KP,↓reduceIte,reduceEqDiff,reduceLT,reduceCtorEq,g0,g9,la,hle1];refine aV (λi F Y=>∃bN,Y=[O.cells 3 (bN.map (V.int .i64)) true]/\mV m n first (d+1) i 0 bN/\F.get 0=a/\F.get 3=vm/\F.get 5=.int .i64 (first:Int)/\F.get 7=.sl 0 0 n none/\F.get 9=.int .i64 ((d+1:Nat):Int)/\F.get 10=.int .i64 (i:Int)) n ?_ ?_ n 0 _ _ (by omega) ⟨bN,rfl,hfar,(by simp +decide only[GS,g0,g3,g5,g7,g9,aj])⟩
  ·rintro i F Y hi ⟨bN,rfl,hfar,g0,g3,g5,g7,g9,g10⟩ next2;have hlt:=dP hi;have haddi:=bW i (by omega);rw[aG];simp only[KP,↓reduceIte,reduceEqDiff,reduceLT,reduceCtorEq,g0,g10,la,hlt];refine aV (λk F Y=>∃bN,Y=[O.cells 3 (bN.map (V.int .i64)) true]/\mV m n first (d+1) i k bN/\F.get 0=a/\F.get 3=vm/\F.get 5=.int .i64 (first:Int)/\F.get 7=.sl 0 0 n none/\F.get 9=.int .i64 ((d+1:Nat):Int)/\F.get 10=.int .i64 (i:Int)/\F.get 11=.int .i64 (k:Int)) n ?_ ?_ n 0 _ _ (by omega) ⟨bN,rfl,hfar,(by simp +decide only[GS,g0,g3,g5,g7,g9,g10,aj])⟩
   ·rintro k F Y hk2 ⟨bN,rfl,hfar,g0,g3,g5,g7,g9,g10,g11⟩ next3;have tfl:=hfar.len;have b0:([O.cells 3 (bN.map (V.int .i64)) true]:Sg)[0]?=some (O.cells 3 (bN.map (V.int .i64)) true):=rfl;have hlt:=dP hk2;have haddk:=bW k (by omega);obtain⟨u1,rv,u2,e1,e2⟩:=Gq h im hi hk2;have e3:=AP h hi;have e4:=Gx h b0 (i:=i) (by omega);have e5:=AP h hk2;have e6:=Gx h b0 (i:=k) (by omega);rw[aG];by_cases c0:eM bN i<0
    case neg=>
     have d0:decide (eM bN i<0)=false:=AS c0;simp only[KP,↓reduceIte,reduceEqDiff,reduceLT,reduceCtorEq,g0,g7,g10,g11,la,hlt,e3,e4,d0,haddi];exact next2 _ _ ⟨bN,rfl,hfar.next (.inr (by omega)) hi,(by simp +decide only[GS,g0,g3,g5,g7,g9,aj])⟩
    have d0:decide (eM bN i<0)=true:=BY c0;cases c1:m i k with
    |false=>
     simp only[KP,↓reduceIte,reduceEqDiff,reduceLT,reduceCtorEq,vE h,jQ h,g0,g3,g7,g10,g11,la,hlt,e1,e2,e3,e4,d0,c1,haddk];exact next3 _ _ ⟨bN,rfl,hfar.skip (λe=>by rw[c1]at e;cases e.1),(by simp +decide only[GS,g0,g3,g5,g7,g9,g10,aj])⟩
    |true=>
     by_cases c2:eM bN k=(d:Int)
     ·have d2:decide (eM bN k=((d+1-1:Nat):Int))=true:=BY (by rw[c2];rfl);have s1:=JF h (bN:=bN) (i:=i) (d:=((d+1:Nat):Int)) (by omega);simp only[KP,↓reduceIte,reduceEqDiff,reduceLT,reduceCtorEq,vE h,jQ h,g0,g3,g7,g9,g10,g11,la,hlt,e1,e2,e3,e4,e5,e6,d0,c1,hsub,d2,s1,haddk];exact next3 _ _ ⟨_,rfl,hfar.put hi hk2 (by omega) c0 c1 (by rw[c2];omega),(by simp +decide only[GS,g0,g3,g5,g7,g9,g10,aj])⟩
     ·have d2:decide (eM bN k=((d+1-1:Nat):Int))=false:=AS (by rw[o5];exact c2);simp only[KP,↓reduceIte,reduceEqDiff,reduceLT,reduceCtorEq,vE h,jQ h,g0,g3,g7,g9,g10,g11,la,hlt,e1,e2,e3,e4,e5,e6,d0,c1,hsub,d2,haddk];exact next3 _ _ ⟨bN,rfl,hfar.skip (λe=>c2 (by rw[e.2];omega)),(by simp +decide only[GS,g0,g3,g5,g7,g9,g10,aj])⟩
   ·rintro F Y ⟨bN,rfl,hfar,g0,g3,g5,g7,g9,g10,g11⟩;have hlt:=dZ (bl n);rw[aG];simp only[KP,↓reduceIte,reduceEqDiff,reduceLT,reduceCtorEq,g0,g10,g11,la,hlt,haddi];exact next2 _ _ ⟨bN,rfl,hfar.next (.inl rfl) hi,(by simp +decide only[GS,g0,g3,g5,g7,g9,aj])⟩
  ·rintro F Y ⟨bN,rfl,hfar,g0,g3,g5,g7,g9,g10⟩;have hlt:=dZ (bl n);rw[aG];simp only[KP,↓reduceIte,reduceEqDiff,reduceLT,reduceCtorEq,g0,g9,g10,la,hlt,haddd];exact next _ _ ⟨bN,rfl,hfar.round,(by simp +decide only[GS,g0,g3,g5,g7,aj])⟩
 ·rintro F Y ⟨bN,rfl,hfar,g0,g3,g5,g7,g9⟩;have hle1:decide (((n+1:Nat):Int)<=(n:Int))=false:=AS (by omega);rw[aG];simp only[KP,↓reduceIte,reduceEqDiff,reduceLT,reduceCtorEq,g0,g9,la,hle1];refine key bN hfar _ ?_ ?_ ?_ ?_
  ·exact (by simp +decide only[GS,g0])
  ·exact (by simp +decide only[GS,g3])
  ·exact (by simp +decide only[GS,g5])
  ·exact (by simp +decide only[GS,g7])
end
end
section
section
variable {E:Env}{Z:Sg}{K:V->Sg->Prop}
theorem Ph (n:Nat):gX n [V.int .i64 0]=(List.replicate n (0:Int)).map (V.int .i64):=by
 induction n with
 |zero=>rfl
 |succ n ih=>rw[gX,ih];rfl
theorem Sa {n i:Nat}(hi:i<n):(List.replicate i (-1:Int)++List.replicate (n-i) 0).set i (-1)=List.replicate (i+1) (-1)++List.replicate (n-(i+1)) 0:=by
 obtain⟨d,rfl⟩:∃d,n=i+(d+1):=⟨n-i-1,by omega⟩;rw[o6 _ _ (by simp),List.length_replicate,jl,show i+(d+1)-i=d+1 by omega,List.replicate_succ,l6,show i+(d+1)-(i+1)=d by omega,List.replicate_succ'];simp
theorem QA (h:bE E) {a vm:V}{rs:List aD}{n:Nat}{m:Nat->Nat->Bool}(hn:rs.length=n)(hle:n<=64) (ia:IS dN a rs) (im:IS uR vm (Jn n m))(hmn:∀i j,m i j=true->i<n/\j<n) {o:Option Nat}(ho:∀f,o=some f->f<n/\AxS.Way m f f)
  (F:FT) (g0:F.get 0=a) (g3:F.get 3=vm) (g5:F.get 5=.int .i64 (idx o))
  (hk:o≠none->∀Y w l,l≠[]->bB aO 9 Y w l->K w Y)(hk0:o=none->K .aF []):R E (cutAt [1,1,1,1,1] (aA Tryz.f112).code) [] ⟨216,F⟩ [] (nL E (aA Tryz.f112).results K):=by
 have la:=dA h ia;rw[hn]at la;cases o with
 |none=>
  simp only[aA,Tryz.f112,KP,↓reduceIte,reduceLT,Int.reduceLT,reduceNeg,cutAt,g5,oA];exact hk0 rfl
 |some first=>
  obtain⟨hf,hw⟩:=ho first rfl
  have key:=λbN hfar F g0 g3 g5 g7=>TO (K:=K) h hn hle ia im hf hmn hw (bN:=bN) hfar F g0 g3 g5 g7 (hk (by simp));have c0:decide ((first:Int)<0)=false:=AS (by omega);have c2:decide ((n:Int)*((8:Nat):Int)<=1099511627776)=true:=BY (by omega);have c3:decide ((n:Int)<=1099511627776)=true:=BY (by omega);have lf:∀Z,lenOf E Z 115 (.sl 0 0 n none)=some n:=λZ=>by unfold lenOf;rw[h.Ox]
  rw[show cutAt [1,1,1,1,1] (aA Tryz.f112).code=.seq (cutAt [1,1,1,1,1,0] (aA Tryz.f112).code) (.seq (cutAt [1,1,1,1,1,1,0] (aA Tryz.f112).code) (.seq (cutAt [1,1,1,1,1,1,1,0] (aA Tryz.f112).code) (.seq (cutAt [1,1,1,1,1,1,1,1,0] (aA Tryz.f112).code) (cutAt [1,1,1,1,1,1,1,1,1] (aA Tryz.f112).code)))) from rfl];generalize cutAt [1,1,1,1,1,1,1,1,1] (aA Tryz.f112).code=C at *;simp only[aA,Tryz.f112,KP,↓reduceIte,reduceLT,reduceCtorEq,reduceNeg,h.mB,h.Ox,cutAt,g0,g5,fC,c0,la,c2,c3,dz,Int.le_refl,Ph,lf];refine aV (λi F Y=>∃bN,Y=[O.cells 3 (bN.map (V.int .i64)) true]/\bN=List.replicate i (-1)++List.replicate (n-i) 0/\F.get 0=a/\F.get 3=vm/\F.get 5=.int .i64 (first:Int)/\F.get 7=.sl 0 0 n none/\F.get 60=.int .i64 (n:Int)/\F.get 61=.int .i64 (i:Int)) n ?_ ?_ n 0 _ _ (by omega) ⟨_,rfl,by simp,(by simp +decide only[GS,g0,g3,g5,fC,aj])⟩
  ·rintro i F Y hi ⟨bN,rfl,hfar,g0,g3,g5,g7,g60,g61⟩ next
   have hlt:=dP hi;have hadd:=bW i (by omega);have hfl:bN.length=n:=by rw[hfar];simp;omega
   have e1:=AP h hi;have s1:=JF h (bN:=bN) (i:=i) (d:=-1) (by omega);rw[aG];simp only[KP,↓reduceIte,reduceEqDiff,reduceLT,reduceNeg,g7,g60,g61,hlt,e1,s1,hadd];exact next _ _ ⟨_,rfl,by rw[hfar,Sa hi],(by simp +decide only[GS,g0,g3,g5,g7,g60,aj])⟩
  ·rintro F Y ⟨bN,rfl,hfar,g0,g3,g5,g7,g60,g61⟩;have hlt:=dZ (bl n);have hfar:bN=List.replicate n (-1):=by rw[hfar];simp
   have e1:=AP h hf;have s1:=JF h (bN:=bN) (i:=first) (d:=0) (by rw[hfar];simpa using hf);rw[aG];simp only[KP,↓reduceIte,reduceEqDiff,reduceLT,reduceNeg,g5,g7,g60,g61,hlt,e1,s1];refine key (bN.set first 0) ?_ _ ?_ ?_ ?_ ?_
   ·rw[hfar];exact mV.init hf
   ·exact (by simp +decide only[GS,g0])
   ·exact (by simp +decide only[GS,g3])
   ·exact (by simp +decide only[GS,g5])
   ·exact (by simp +decide only[GS,g7])
theorem Pz {rs:List aD}{d:Bool}:∀i j,iO rs d i j=true->i<rs.length/\j<rs.length:=by
 intro i j hij;unfold iO at hij;split at hij
 ·rename_i r hr;refine⟨(AI.1 hr).1,?_⟩;unfold wF at hij;rw[fl]at hij;rcases hij with hij | hij
  ·obtain⟨f,_,hf⟩:=fg.1 hij;exact Db (ej hf)
  ·rw[ai]at hij;obtain⟨f,_,hf⟩:=fg.1 hij.2;exact ET (ej hf)
 ·cases hij
theorem TP (h:bE E) {a:V}{rs:List aD}(hs:yC rs) (ia:IS dN a rs) (F:FT) (g0:F.get 0=a)
  (hk:(∃i,i<rs.length/\AxS.Way (iO rs false) i i)->∀Y w l,l≠[]->bB aO 9 Y w l->K w Y)(hk0:(∀i,i<rs.length->¬ AxS.Way (iO rs false) i i)->K .aF []):R E (aA Tryz.f112).code [] ⟨216,F⟩ [] (nL E (aA Tryz.f112).results K):=by
 have la:=dA h ia;have hle:=hs.len;have hmn:=Pz (rs:=rs) (d:=false);have bn:=T9 (Z:=[]) h (a:=a) (ia.ls [] 46) hs false;generalize hm:iO rs false=m at *;generalize hn:rs.length=n at *;have key:=λvm (im:IS uR vm (Jn n m)) o ho F g0 g3 g5 hk hk0=>QA (K:=K) h hn hle ia im hmn (o:=o) ho F g0 g3 g5 hk hk0;have d7:=h.WU;simp only[aA,Tryz.f112,cutAt,aq]at d7;rw[show (aA Tryz.f112).code=.seq (cutAt [0] (aA Tryz.f112).code) (.seq (cutAt [1,0] (aA Tryz.f112).code) (.seq (cutAt [1,1,0] (aA Tryz.f112).code) (.seq (cutAt [1,1,1,0] (aA Tryz.f112).code) (.seq (cutAt [1,1,1,1,0] (aA Tryz.f112).code) (cutAt [1,1,1,1,1] (aA Tryz.f112).code))))) from rfl];generalize cutAt [1,1,1,1,1] (aA Tryz.f112).code=C at *;simp only[aA,Tryz.f112,KP,↓reduceIte,reduceLT,reduceCtorEq,reduceNeg,cutAt,g0];refine aN bn ?_;rintro vm σ' ⟨rfl,im⟩;simp only[KP,↓reduceIte,reduceLT,reduceNeg];refine aN (Q9 (Z:=[]) h hle im.is) ?_;rintro vc σ' ⟨rfl,ic⟩;have im:=im.is;have ic:=ic.is;simp only[KP,↓reduceIte,reduceLT,reduceNeg];refine aV (λi F Y=>Y=[]/\F.get 0=a/\F.get 3=vm/\F.get 4=vc/\F.get 6=.int .i64 (i:Int)/\∃o:Option Nat,F.get 5=.int .i64 (idx o)/\((o=none/\∀j,j<i->wk m n j j=false)\/∃f,o=some f/\f<n/\wk m n f f=true)) n ?_ ?_ n 0 _ _ (by omega) ⟨rfl,(fK (by simp +decide only[GS,g0,aj]) ⟨none,(by simp +decide only[GS,oA]),.inl ⟨rfl,λj hj=>by omega⟩⟩)⟩
 ·rintro i F Y hi ⟨rfl,g0,g3,g4,g6,o,g5,ho⟩ next
  have hlt:=dP hi;have hadd:=bW i (by omega);obtain⟨u1,rv,u2,e1,e2⟩:=Gq h ic hi hi;obtain⟨ri,hri⟩:∃y,rs[i]?=some y:=⟨_,AT (by omega)⟩;obtain⟨v1,p1,p2,p3,p4,e3,-⟩:=fL h ia hri;rw[aG];cases c1:wk m n i i with
  |false=>
   simp only[KP,↓reduceIte,reduceEqDiff,reduceLT,reduceCtorEq,vE h,jQ h,g0,g4,g6,la,hlt,e1,e2,c1,hadd,aT d7,bK];refine next _ _ ⟨rfl,(fK (by simp +decide only[GS,g0,g3,g4,aj]) ⟨o,(by simp +decide only[GS,g5]),ho.imp (λ⟨h1,h2⟩=>⟨h1,λj hj=>?_⟩) id⟩)⟩
   rcases cj j i with g | g
   ·exact h2 j g
   ·obtain rfl:j=i:=by omega
    exact c1
  |true=>
   rcases ho with⟨rfl,-⟩ | ⟨f,rfl,hf,hwf⟩
   ·simp only[KP,↓reduceIte,reduceEqDiff,reduceLT,reduceCtorEq,Int.reduceLT,reduceNeg,vE h,jQ h,g0,g4,g5,g6,la,hlt,e1,e2,c1,oA,hadd,aT d7,bK];exact next _ _ ⟨rfl,(fK (by simp +decide only[GS,g0,g3,g4,aj]) ⟨some i,(by simp +decide only[GS,fC]),.inr ⟨i,rfl,hi,c1⟩⟩)⟩
   ·have c0:decide ((f:Int)<0)=false:=AS (by omega);obtain⟨rf,hrf⟩:∃y,rs[f]?=some y:=⟨_,AT (by omega)⟩;obtain⟨v2,q1,q2,q3,q4,e4,-⟩:=fL h ia hrf;cases c3:Ax.slt ri.name rf.name with
    |true=>
     simp only[KP,↓reduceIte,reduceEqDiff,reduceLT,reduceCtorEq,vE h,tD h,jQ h,h.dG,h.bM,g0,g4,g5,g6,la,hlt,e1,e2,e3,e4,c1,c0,c3,fC,hadd,aT d7,bK];exact next _ _ ⟨rfl,(fK (by simp +decide only[GS,g0,g3,g4,aj]) ⟨some i,(by simp +decide only[GS,fC]),.inr ⟨i,rfl,hi,c1⟩⟩)⟩
    |false=>
     simp only[KP,↓reduceIte,reduceEqDiff,reduceLT,reduceCtorEq,vE h,tD h,jQ h,h.dG,h.bM,g0,g4,g5,g6,la,hlt,e1,e2,e3,e4,c1,c0,c3,fC,hadd,aT d7,bK];exact next _ _ ⟨rfl,(fK (by simp +decide only[GS,g0,g3,g4,aj]) ⟨some f,(by simp +decide only[GS,g5]),.inr ⟨f,rfl,hf,hwf⟩⟩)⟩
 ·rintro F Y ⟨rfl,g0,g3,g4,g6,o,g5,ho⟩;have hlt:=dZ (bl n);rw[aG];simp only[KP,↓reduceIte,reduceEqDiff,reduceLT,reduceCtorEq,g0,g6,la,hlt];refine key vm im o (λf hf=>?_) _ ?_ ?_ ?_ (λho2=>hk ?_) (λho2=>hk0 λi hi hw=>?_)
  ·rcases ho with⟨e,-⟩ | ⟨f',e,h1,h2⟩
   ·rw[e]at hf;cases hf
   ·rw[e]at hf;cases hf;exact⟨h1,Co h2⟩
  ·exact (by simp +decide only[GS,g0])
  ·exact (by simp +decide only[GS,g3])
  ·exact (by simp +decide only[GS,g5])
  ·rcases ho with⟨e,-⟩ | ⟨f',e,h1,h2⟩
   ·exact absurd e ho2
   ·exact⟨f',h1,Co h2⟩
  ·rcases ho with⟨-,h1⟩ | ⟨f',e,-⟩
   ·have:=UY hmn hw;rw[h1 i hi]at this;cases this
   ·rw[e]at ho2;cases ho2
theorem KA (h:bE E) {a:V}{rs:List aD}(ha:LS dN 46 Z a rs)(hs:yC rs):aB E 112 [a] Z λv σ'=>σ'=Z/\∃l,kI aO v l/\((l≠[]/\∃i,i<rs.length/\AxS.Way (iO rs false) i i)\/(l=[]/\∀i,i<rs.length->¬ AxS.Way (iO rs false) i i)):=by
 obtain⟨a',ea,ia⟩:=fE h ha;rw[aI h.aaR h.Yq h.abI h.ZV (args':=[a']) (by simp only[aX,ea]),aW (by kernel_rfl)];refine TP h hs ia _ (by simp +decide only[GS]) (λhc Y w l hl ow=>?_) λhc=>?_
 ·obtain⟨v',e1,hv⟩:=pJ h.dG rfl (λr x hr c hc=>by rw[show r=[.str x] from hr]at hc;cases hc with | head=>rfl | tail _ h=>cases h) ow
  show (match cG Y E.ty false w with
   |some v=>(λv σ'=>σ'=Z/\∃l,kI aO v l/\((l≠[]/\∃i,i<rs.length/\AxS.Way (iO rs false) i i)\/(l=[]/\∀i,i<rs.length->¬ AxS.Way (iO rs false) i i))) v Z
   |none=>False)
  rw[e1];exact⟨rfl,l,hv,.inl ⟨hl,hc⟩⟩
 ·exact⟨rfl,[],.inl ⟨rfl,rfl⟩,.inr ⟨rfl,hc⟩⟩
end
end
section
section
variable {E:Env}{Z:Sg}{K:V->Sg->Prop}
theorem Pe {x:aD}{a b c d:V}(h1:IS aO a x.ins)(h2:IS aO b x.outs)(h3:IS aO c x.after)(h4:IS eZ d x.steps):Jd (.agg [.str x.name,a,b,c,d]) x:=⟨a,b,c,d,rfl,h1,h2,h3,h4⟩
theorem A2 {rs:List aD}{i:Nat}{r:aD}(hr:rs[i]?=some r)(h:bA r≠0)(hp:∀(j:Nat) (s:aD),j<i->rs[j]?=some s->bA s=0):gO rs=bA r:=by
 have:rs.find? (λr=>decide (bA r≠0))=some r:=by
  rw[List.find?_eq_some_iff_getElem];refine⟨BY h,i,(AI.1 hr).1,(AI.1 hr).2,λj hj=>?_⟩;have hjl:j<rs.length:=by have:=(AI.1 hr).1;omega
  simpa using hp j _ hj (AT hjl)
 unfold gO;rw[this]
theorem zY {rs:List aD}(hp:∀(j:Nat) (s:aD),rs[j]?=some s->bA s=0):gO rs=if 40<rs.length then 4 else if tQ rs=true then 2 else if gT rs=true then 2 else 0:=by
 have:rs.find? (λr=>decide (bA r≠0))=none:=by
  rw[me];intro x hx;obtain⟨j,hj,e⟩:=fm hx;simpa using hp j x (by rw[AT hj,e])
 unfold gO;rw[this]
theorem Xi (h:bE E) {a:V}{rs:List aD}(hs:yC rs) (ia:IS dN a rs)(hp0:∀(j:Nat) (s:aD),rs[j]?=some s->bA s=0)(h40:¬ 40<rs.length)(hcl:tQ rs=false) (F:FT) (g0:F.get 0=a)(hk:∀e nm,Ji rs e->K (.fM [.int .i64 e,.str nm]) []):R E (cutAt [1,1,1,1] (aA Tryz.f46).code) [] ⟨110,F⟩ [] (nL E (aA Tryz.f46).results K):=by
 have la:=dA h ia;have bc:=KA (Z:=[]) h (a:=a) (ia.ls [] 46) hs;have hE:=zY hp0;rw[an h40,an (by rw[hcl];simp)]at hE;have d27:=h.WK;simp only[aA,Tryz.f46,cutAt,aq]at d27;have d31:=h.WJ;simp only[aA,Tryz.f46,cutAt,aq]at d31;rw[show cutAt [1,1,1,1] (aA Tryz.f46).code=.seq (.seq (cutAt [1,1,1,1,0,0] (aA Tryz.f46).code) (.block 6 (.loop (cutAt [1,1,1,1,0,1,2,2] (aA Tryz.f46).code)))) (cutAt [1,1,1,1,1] (aA Tryz.f46).code) from rfl]
 have key:gT rs=false->∀F:FT,F.get 0=a->R E (cutAt [1,1,1,1,1] (aA Tryz.f46).code) [] ⟨110,F⟩ [] (nL E (aA Tryz.f46).results K):=λhst F g0=>by
  rw[an (by rw[hst];simp)]at hE;simp only[aA,Tryz.f46,KP,↓reduceIte,reduceLT,cutAt,g0];refine aN bc ?_;rintro v σ' ⟨rfl,l,il,hl⟩;have il:=il.is;have ll:=bP h il;rcases hl with⟨hl,hring⟩ | ⟨rfl,hring⟩
  ·obtain⟨y,r,rfl⟩:=nu hl;obtain⟨g,e1⟩:=gP h il (i:=0) (x:=y) rfl;have e1:indexAddr E 24 v (.int .i64 0)=some (.cZ g [.str y]):=e1;have c0:decide ((0:Int)<((r.length+1:Nat):Int))=true:=BY (by omega);simp only[KP,↓reduceIte,reduceEqDiff,reduceLT,tD h,ll,c0,e1,aT d31,bK];exact hk 3 y (.inr ⟨hE,.inl ⟨hring,rfl⟩⟩)
  ·have c0:decide ((0:Int)<((([]:List bC).length:Nat):Int))=false:=rfl;simp only[KP,↓reduceIte,reduceEqDiff,reduceLT,Int.reduceLT,lP,ll];exact hk 0 [] (.inr ⟨hE,.inr ⟨λ⟨i,h1,h2⟩=>hring i h1 h2,rfl⟩⟩)
 generalize cutAt [1,1,1,1,1] (aA Tryz.f46).code=C at *;simp only[aA,Tryz.f46,KP,↓reduceIte,reduceLT,cutAt];refine aV (λi F Y=>Y=[]/\F.get 0=a/\F.get 10=.int .i64 (i:Int)/\∀j s,j<i->rs[j]?=some s->∀m∈s.after,gE rs m≠none) rs.length ?_ ?_ rs.length 0 _ _ (by omega) ⟨rfl,(lX (by simp +decide only[GS,g0,aj]) (λj s hj=>by omega))⟩
 ·rintro i F Y hi ⟨rfl,g0,g10,hp⟩ next
  obtain⟨r,hr⟩:∃y,rs[i]?=some y:=⟨_,AT hi⟩;have a3:=(hs.all r (ag hr)).after;obtain⟨g,p1,p2,p3,p4,e1,i1,i2,i3,i4⟩:=fL h ia hr;have l3:=bP h i3;have hlt:=dP hi;have hadd:=bW i (by omega);rw[aG];simp only[KP,↓reduceIte,reduceEqDiff,reduceLT,reduceCtorEq,LW h,h.a_,h.bM,g0,g10,la,hlt,e1,l3];refine aV (λj F Y=>Y=[]/\F.get 0=a/\F.get 10=.int .i64 (i:Int)/\F.get 86=p3/\F.get 87=.int .i64 (r.after.length:Int)/\F.get 88=.int .i64 (j:Int)/\∀q m,q<j->r.after[q]?=some m->gE rs m≠none) r.after.length ?_ ?_ r.after.length 0 _ _ (by omega) ⟨rfl,(iT (by simp +decide only[GS,g0,g10,aj]) (λq m hq=>by omega))⟩
  ·rintro j F Y hj ⟨rfl,g0,g10,g86,g87,g88,hq⟩ next2;obtain⟨m,hm⟩:∃y,r.after[j]?=some y:=⟨_,AT hj⟩;obtain⟨g,e2⟩:=gP h i3 hm;have hlt2:=dP hj;have hadd2:=bW j (by omega);have km:=Wq (Z:=[]) h (s:=m) (ia.ls _ 46) (by omega);rw[aG];cases hat:gE rs m with
   |none=>
    simp only[KP,↓reduceIte,reduceEqDiff,reduceLT,reduceCtorEq,Int.reduceLT,reduceNeg,tD h,h.dG,h.bM,g0,g10,g86,g87,g88,hlt2,e1,e2,km,hat,oA,aT d27,bK];refine hk 2 _ (.inl ?_)
    have hst:gT rs=true:=by
     unfold gT;rw[fg];exact⟨r,ag hr,fg.2 ⟨m,ag hm,BY hat⟩⟩
    rw[az hst]at hE;rw[hE];exact⟨by decide,rfl⟩
   |some k=>
    have c0:decide ((k:Int)<0)=false:=AS (by omega);simp only[KP,↓reduceIte,reduceEqDiff,reduceLT,reduceCtorEq,tD h,g0,g86,g87,g88,hlt2,e2,km,hat,fC,c0,hadd2];refine next2 _ _ ⟨rfl,(iT (by simp +decide only[GS,g0,g10,g86,g87,aj]) (λq m' hq2 hm'=>?_))⟩;rcases cj q j with g | g
    ·exact hq q m' g hm'
    ·obtain rfl:q=j:=by omega
     rw[hm]at hm';cases hm';rw[hat];simp
  ·rintro F Y ⟨rfl,g0,g10,g86,g87,g88,hq⟩;have hlt2:=dZ (bl r.after.length);rw[aG];simp only[KP,↓reduceIte,reduceEqDiff,reduceLT,g10,g87,g88,hlt2,hadd];refine next _ _ ⟨rfl,(lX (by simp +decide only[GS,g0,aj]) (λj s hj hs2 m hm=>?_))⟩
   rcases cj j i with g | g
   ·exact hp j s g hs2 m hm
   ·obtain rfl:j=i:=by omega
    rw[hr]at hs2;cases hs2;obtain⟨q,hq2,e⟩:=fm hm;exact hq q m hq2 (by rw[AT hq2,e])
 ·rintro F Y ⟨rfl,g0,g10,hp⟩;have hlt:=dZ (bl rs.length);rw[aG];simp only[KP,↓reduceIte,reduceEqDiff,reduceLT,reduceCtorEq,g0,g10,la,hlt];refine key ?_ _ (by simp +decide only[GS,g0]);unfold gT;rw[mu];intro s hs2;rw[fg];rintro⟨m,hm,e⟩;obtain⟨j,hj,e2⟩:=fm hs2;exact hp j s hj (by rw[AT hj,e2]) m hm (ej e)
theorem NO {rs:List aD}{i:Nat}{r:aD}(hr:rs[i]?=some r):oW rs i=(decide (∃k,gE rs r.name=some k/\k<i)||r.outs.any λo=>decide (∃k,fI rs o=some k/\k<i)):=by
 have first_lt:∀(p:aD->Bool) (rs:List aD) (i:Nat),(∃k,bQ p rs=some k/\k<i) ↔ ∃q∈rs.take i,p q=true:=by
  intro p rs
  induction rs with
  |nil=>intro i;simp[bQ]
  |cons r rs ih=>
   intro i;rw[bQ];by_cases hp:p r=true
   ·rw[az hp];cases i with
    |zero=>simp
    |succ i=>simp[hp]
   ·rw[an hp];cases i with
    |zero=>simp
    |succ i=>
     rw[List.take_succ_cons];simp only[IT,Option.map_eq_some_iff];constructor
     ·rintro⟨k,⟨k',h1,rfl⟩,h2⟩;obtain⟨q,hq,hpq⟩:=(ih i).1 ⟨k',h1,by omega⟩;exact⟨q,.inr hq,hpq⟩
     ·rintro⟨q,rfl | hq,hpq⟩
      ·exact absurd hpq hp
      ·obtain⟨k,h1,h2⟩:=(ih i).2 ⟨q,hq,hpq⟩;exact⟨k+1,⟨k,h1,rfl⟩,by omega⟩
 unfold oW gE fI;rw[hr];rw[e8];simp only[fg,fl,aa,first_lt];constructor
 ·rintro⟨q,hq,h1 | ⟨o,ho,h2⟩⟩
  ·exact .inl ⟨q,hq,h1⟩
  ·exact .inr ⟨o,ho,q,hq,h2⟩
 ·rintro (⟨q,hq,h1⟩ | ⟨o,ho,q,hq,h2⟩)
  ·exact⟨q,hq,.inl h1⟩
  ·exact⟨q,hq,.inr ⟨o,ho,h2⟩⟩
theorem oC {α:Type}{p:α->Bool}{l:List α}{x:α}(hx:x∈l)(hp:p x=true):∃k,bQ p l=some k:=by
 cases h:bQ p l with
 |some k=>exact⟨k,rfl⟩
 |none=>
  have h2:(bQ p l).isSome=true:=by rw[cF,fg];exact⟨x,hx,hp⟩
  rw[h]at h2;cases h2
theorem Xj (h:bE E) {a:V}{rs:List aD}(hs:yC rs) (ia:IS dN a rs)(hp0:∀(j:Nat) (s:aD),rs[j]?=some s->bA s=0)(h40:¬ 40<rs.length) (F:FT) (g0:F.get 0=a)(hk:∀e nm,Ji rs e->K (.fM [.int .i64 e,.str nm]) []):R E (cutAt [1,1,1] (aA Tryz.f46).code) [] ⟨110,F⟩ [] (nL E (aA Tryz.f46).results K):=by
 have la:=dA h ia;have hE:=zY hp0;have hmem:∀x∈rs,x.outs.length<=4294967296:=λx hx=>by have:=(hs.all x hx).outs;omega
 rw[an h40]at hE;have d19:=h.WL;simp only[aA,Tryz.f46,cutAt,aq]at d19;have key:=λhcl F g0=>Xi (K:=K) h hs ia hp0 h40 hcl F g0 hk;rw[show cutAt [1,1,1] (aA Tryz.f46).code=.seq (.seq (cutAt [1,1,1,0,0] (aA Tryz.f46).code) (.block 2 (.loop (cutAt [1,1,1,0,1,2,2] (aA Tryz.f46).code)))) (cutAt [1,1,1,1] (aA Tryz.f46).code) from rfl];generalize cutAt [1,1,1,1] (aA Tryz.f46).code=C at *;simp only[aA,Tryz.f46,KP,↓reduceIte,reduceLT,cutAt];refine aV (λi F Y=>Y=[]/\F.get 0=a/\F.get 6=.int .i64 (i:Int)/\∀j,j<i->oW rs j=false) rs.length ?_ ?_ rs.length 0 _ _ (by omega) ⟨rfl,(lX (by simp +decide only[GS,g0,aj]) (λj hj=>by omega))⟩
 ·rintro i F Y hi ⟨rfl,g0,g6,hp⟩ next
  obtain⟨r,hr⟩:∃y,rs[i]?=some y:=⟨_,AT hi⟩;have hrm:=ag hr;have a3:=(hs.all r hrm).outs;obtain⟨g,p1,p2,p3,p4,e1,i1,i2,i3,i4⟩:=fL h ia hr;have l2:=bP h i2;have hlt:=dP hi;have hadd:=bW i (by omega);obtain⟨k1,hk1⟩:=oC (p:=λq:aD=>decide (q.name=r.name)) hrm (BY rfl);have hk1:gE rs r.name=some k1:=hk1;have km:=Wq (Z:=[]) h (s:=r.name) (ia.ls _ 46) (by omega);have hcl:=NO hr;rw[show decide (∃k,gE rs r.name=some k/\k<i)=decide (k1<i) by rw[hk1];simp]at hcl;have hb:decide ((k1:Int)<(i:Int))=decide (k1<i):=by rw[e8,aa,aa];omega
  rw[aG];simp only[KP,↓reduceIte,reduceEqDiff,reduceLT,reduceCtorEq,tD h,LW h,h.dG,h.a_,h.bM,g0,g6,la,hlt,e1,l2,km,hk1,fC,hb];refine aV (λj F Y=>Y=[]/\F.get 0=a/\F.get 6=.int .i64 (i:Int)/\F.get 55=p2/\F.get 56=.int .i64 (r.outs.length:Int)/\F.get 57=.int .i64 (j:Int)/\F.get 7=.bool (decide (k1<i)||(r.outs.take j).any λo=>decide (∃k,fI rs o=some k/\k<i))) r.outs.length ?_ ?_ r.outs.length 0 _ _ (by omega) ⟨rfl,(iT (by simp +decide only[GS,g0,g6,aj]) (by simp[FT.cI]))⟩
  ·rintro j F Y hj ⟨rfl,g0,g6,g55,g56,g57,g7⟩ next2;obtain⟨m,hm⟩:∃y,r.outs[j]?=some y:=⟨_,AT hj⟩;have hmm:=ag hm;obtain⟨g,e2⟩:=gP h i2 hm;have hlt2:=dP hj;have hadd2:=bW j (by omega);obtain⟨k2,hk2⟩:=oC (p:=λq:aD=>decide (m∈q.outs)) hrm (BY hmm);have hk2:fI rs m=some k2:=hk2;have kk:=L5 (Z:=[]) h (s:=m) (ia.ls _ 46) hmem (by omega);have hb2:decide ((k2:Int)<(i:Int))=decide (k2<i):=by rw[e8,aa,aa];omega
   have hnew:=qG (p:=λo=>decide (∃k,fI rs o=some k/\k<i)) hm;rw[show decide (∃k,fI rs m=some k/\k<i)=decide (k2<i) by rw[hk2];simp]at hnew;rw[aG];cases hbad:(decide (k1<i)||(r.outs.take j).any λo=>decide (∃k,fI rs o=some k/\k<i)) with
   |true=>
    rw[hbad]at g7;simp only[KP,↓reduceIte,reduceEqDiff,reduceLT,tD h,g55,g56,g57,g7,hlt2,e2,hadd2];refine next2 _ _ ⟨rfl,(iT (by simp +decide only[GS,g0,g6,g55,g56,aj]) ?_)⟩;rw[hnew,<- Bool.or_assoc,hbad];simp only[FT.cI,reduceEqDiff,↓reduceIte,Bool.true_or]
   |false=>
    rw[hbad]at g7;simp only[KP,↓reduceIte,reduceEqDiff,reduceLT,reduceCtorEq,tD h,g0,g6,g55,g56,g57,g7,hlt2,e2,kk,hk2,fC,hb2,hadd2];refine next2 _ _ ⟨rfl,(iT (by simp +decide only[GS,g0,g6,g55,g56,aj]) ?_)⟩;rw[hnew,<- Bool.or_assoc,hbad];simp only[FT.cI,reduceEqDiff,↓reduceIte,Bool.false_or]
  ·rintro F Y ⟨rfl,g0,g6,g55,g56,g57,g7⟩;have hlt2:=dZ (bl r.outs.length);rw[ak (OF _),<- hcl]at g7;rw[aG];cases hc:oW rs i with
   |true=>
    rw[hc]at g7;simp only[KP,↓reduceIte,reduceEqDiff,reduceLT,reduceCtorEq,tD h,h.dG,h.bM,g0,g6,g56,g57,g7,hlt2,e1,aT d19,bK];refine hk 2 _ (.inl ?_)
    have hst:tQ rs=true:=by
     unfold tQ;rw[fg];exact⟨i,kj.2 hi,hc⟩
    rw[az hst]at hE;rw[hE];exact⟨by decide,rfl⟩
   |false=>
    rw[hc]at g7;simp only[KP,↓reduceIte,reduceEqDiff,reduceLT,g6,g56,g57,g7,hlt2,hadd];refine next _ _ ⟨rfl,(lX (by simp +decide only[GS,g0,aj]) (λj hj=>?_))⟩
    rcases cj j i with g | g
    ·exact hp j g
    ·obtain rfl:j=i:=by omega
     exact hc
 ·rintro F Y ⟨rfl,g0,g6,hp⟩;have hlt:=dZ (bl rs.length);rw[aG];simp only[KP,↓reduceIte,reduceEqDiff,reduceLT,reduceCtorEq,g0,g6,la,hlt];refine key ?_ _ (by simp +decide only[GS,g0]);unfold tQ;rw[mu];intro i hi;rw[hp i (kj.1 hi)];simp
theorem Uj (h:bE E) {a:V}{rs:List aD}(hs:yC rs) (ia:IS dN a rs) (F:FT) (g0:F.get 0=a)(hk:∀e nm,Ji rs e->K (.fM [.int .i64 e,.str nm]) []):R E (aA Tryz.f46).code [] ⟨110,F⟩ [] (nL E (aA Tryz.f46).results K):=by
 have la:=dA h ia;have hle:=hs.len;have d6:=h.aci;simp only[aA,Tryz.f46,cutAt,aq]at d6;have key:=λhp0 h40 F g0=>Xj (K:=K) h hs ia hp0 h40 F g0 hk;rw[show (aA Tryz.f46).code=.seq (cutAt [0] (aA Tryz.f46).code) (.seq (cutAt [1,0] (aA Tryz.f46).code) (.seq (cutAt [1,1,0] (aA Tryz.f46).code) (cutAt [1,1,1] (aA Tryz.f46).code))) from rfl];generalize cutAt [1,1,1] (aA Tryz.f46).code=C at *;simp only[aA,Tryz.f46,KP,↓reduceIte,reduceLT,lP,cutAt];refine aV (λi F Y=>Y=[]/\F.get 0=a/\F.get 4=.int .i64 (i:Int)/\∀(j:Nat) (s:aD),j<i->rs[j]?=some s->bA s=0) rs.length ?_ ?_ rs.length 0 _ _ (by omega) ⟨rfl,(lX (by simp +decide only[GS,g0,aj]) (λj s hj=>by omega))⟩
 ·rintro i F Y hi ⟨rfl,g0,g4,hp⟩ next
  obtain⟨r,hr⟩:∃y,rs[i]?=some y:=⟨_,AT hi⟩;have hrs:=hs.all r (ag hr);obtain⟨g,p1,p2,p3,p4,e1,i1,i2,i3,i4⟩:=fL h ia hr;have hlt:=dP hi;have hadd:=bW i (by omega);have kr:=Nl (Z:=[]) h (Pe i1 i2 i3 i4) hrs;rw[aG];by_cases he:bA r=0
  ·have c0:decide (bA r=0)=true:=BY he;simp only[KP,↓reduceIte,reduceEqDiff,reduceLT,reduceCtorEq,UB h,g0,g4,la,hlt,e1,kr,c0,hadd];refine next _ _ ⟨rfl,(lX (by simp +decide only[GS,g0,aj]) (λj s hj hs2=>?_))⟩
   rcases cj j i with g | g
   ·exact hp j s g hs2
   ·obtain rfl:j=i:=by omega
    rw[hr]at hs2;cases hs2;exact he
  ·have c0:decide (bA r=0)=false:=AS he;simp only[KP,↓reduceIte,reduceEqDiff,reduceLT,reduceCtorEq,tD h,UB h,h.dG,h.bM,g0,g4,la,hlt,e1,kr,c0,aT d6,bK];exact hk _ _ (.inl ⟨by rw[A2 hr he hp];exact he,(A2 hr he hp).symm⟩)
 ·rintro F Y ⟨rfl,g0,g4,hp⟩;have hlt:=dZ (bl rs.length);have hp0:∀(j:Nat) (s:aD),rs[j]?=some s->bA s=0:=λj s hs2=>hp j s (AI.1 hs2).1 hs2;rw[aG];by_cases h40:40<rs.length
  ·have c0:decide ((40:Int)<(rs.length:Int))=true:=BY (by omega);simp only[KP,↓reduceIte,reduceEqDiff,reduceLT,reduceCtorEq,lP,g0,g4,la,hlt,c0];refine hk 4 _ (.inl ?_);rw[zY hp0,az h40];exact⟨by decide,rfl⟩
  ·have c0:decide ((40:Int)<(rs.length:Int))=false:=AS (by omega);simp only[KP,↓reduceIte,reduceEqDiff,reduceLT,reduceCtorEq,g0,g4,la,hlt,c0];exact key hp0 h40 _ (by simp +decide only[GS,g0])
theorem QN (h:bE E) {a:V}{rs:List aD}(ha:LS dN 46 Z a rs)(hs:yC rs):aB E 46 [a] Z λv σ'=>σ'=Z/\∃e nm,v=.fM [.int .i64 e,.str nm]/\Ji rs e:=by
 obtain⟨a',ea,ia⟩:=fE h ha;rw[aI h.hs46 h.sp46 h.fn46 h.md46 (args':=[a']) (by simp only[aX,ea]),aW (by kernel_rfl)];exact Uj h hs ia _ (by simp +decide only[GS]) λe nm he=>⟨rfl,e,nm,rfl,he⟩
end
end
section
section
variable {E:Env}{Z:Sg}{K:V->Sg->Prop}
def gD:Lay AxS.Step:=⟨λr x=>∃a l,r=[.str x.out,.int .i64 x.op,a,l,.int .i64 x.n]/\kI aO a x.args/\kI aO l x.lits,5,λ_ _ ⟨_,_,h,_⟩=>by rw[h];rfl,λ_ _ ⟨a,l,h,h1,h2⟩ c hc=>by
 rw[h]at hc;simp only[IT,cr,fu]at hc;rcases hc with rfl | rfl | rfl | rfl | rfl
 ·rfl
 ·rfl
 ·exact h1.is.bD
 ·exact h2.is.bD
 ·rfl⟩
theorem JD:∀r x,gD.P r x->∀c∈r,cL false c=true:=λr x ⟨a,l,h,h1,h2⟩ c hc=>by
 rw[h]at hc;simp only[IT,cr,fu]at hc;rcases hc with rfl | rfl | rfl | rfl | rfl
 ·rfl
 ·rfl
 ·exact h1.tag
 ·exact h2.tag
 ·rfl
theorem OA:∀r x,aO.P r x->∀c∈r,cL false c=true:=λr x hr c hc=>by
 rw[show r=[.str x] from hr]at hc;cases hc with
 |head=>rfl
 |tail _ h=>cases h
theorem Af (h:bE E) {v:V}{l:List bC} (iv:IS aO v l)(hl:l.length<=8796093022208):∃w Y v',Ax.append E [] #[24,24] .aF v=some (w,Y)/\cG Y E.ty false w=some v'/\kI aO v' l:=by
 obtain⟨rs,e,ha⟩:=rV iv []
 have hr:pO l.length 16=true:=by
  unfold pO;rw[aa];exact fh (gq 17 hl) (by decide)
 obtain⟨w,Y,h1,h2⟩:=Ro (ats:=#[24,24]) h.a_ rfl h.dG rfl (by decide) (jZ h) rfl e ha hr;obtain⟨v',h3,h4⟩:=pJ h.dG rfl OA h2;exact⟨w,Y,v',h1,h3,h4⟩
theorem jO {c:V}(h:Ax.bD c=true):c.cells=[c]:=by cases c <;> first | rfl | cases h
theorem EI (Z:Sg):aU Z E.ty true .aF=some .aF:=rfl
theorem TV (h:bE E) {x:aD}{a b c d:V} (ia:IS aO a x.ins) (ib:IS aO b x.outs) (ic:IS aO c x.after)(hx:Mid x) {Y:Sg}{n0:Nat} (b0:Y[n0]?=some (O.cells 46 [.str x.name,a,b,c,d] true)) (F:FT) (g1:F.get 1=.ref n0 0) (g2:F.get 2=.ref (n0+1) 0) :
  ∃F' a' b' c',cO E (ev E 0) (opsOf (cutAt [1,0] (aA Tryz.f74).code)) ⟨45,F⟩ Y=some (⟨45,F'⟩,Y++[O.cells 46 [.str x.name,a',b',c',.aF] true])/\F'.get 1=.ref n0 0/\F'.get 2=.ref (n0+1) 0/\F'.get 3=.ref Y.length 0/\kI aO a' x.ins/\kI aO b' x.outs/\kI aO c' x.after:=by
 have a1:=hx.ins;have a2:=hx.outs;have a3:=hx.after;obtain⟨w1,τ1,a',h1,k1,i1⟩:=Af h ia (by omega);obtain⟨w2,τ2,b',h2,k2,i2⟩:=Af h ib (by omega);obtain⟨w3,τ3,c',h3,k3,i3⟩:=Af h ic (by omega);have s1:=λZ=>pK (E:=E) ia Z;have s2:=λZ=>pK (E:=E) ib Z;have s3:=λZ=>pK (E:=E) ic Z;have v1:=cK 10 ia;have v2:=cK 10 ib;have v3:=cK 10 ic;have u1:=cK 10 i1.is;have u2:=cK 10 i2.is;have u3:=cK 10 i3.is;have o1:=aP i1.is.bD;have o2:=aP i2.is.bD;have o3:=aP i3.is.bD;have n1:=jO i1.is.bD;have n2:=jO i2.is.bD;have n3:=jO i3.is.bD;have b0':=aJ (x:=O.cells 46 [.str [],.aF,.aF,.aF,.aF] true) b0;have vs:=Be 11 x.name;unfold cO;rw[h.Xv,h.Y8];simp only[aA,Tryz.f74,KP,Ax.loadAt,Ax.storeAt,↓reduceIte,reduceEqDiff,reduceLT,reduceAdd,reduceCtorEq,h.dG,h.a_,h.fS,h.bM,opsOf,cutAt,Fz.apps,iL,bL,cA,kY,Ax.comp,Ax.last,iN,Ax.again,vS,aX,Ax.fill,Ax.placeOf,g1,b0,b0',h1,h2,h3,k1,k2,k3,s1,s2,s3,v1,v2,v3,u1,u2,u3,o1,o2,o3,vs,n1,n2,n3,EI,aL,bR];exact⟨_,a',b',c',rfl,(iU (by simp +decide only[GS,g1,g2,aj]) ⟨i1,i2,i3⟩)⟩
def Kp (Z Y:Sg):Prop:=∀(c:Nat) (o:O),Z[c]?=some o->Y[c]?=some o
theorem TW (h:bE E) {x:aD}{a b c d:V} (ia:IS aO a x.ins) (ib:IS aO b x.outs) (ic:IS aO c x.after)(hx:Mid x) {Y:Sg}{n0:Nat} (b0:Y[n0]?=some (O.cells 46 [.str x.name,a,b,c,d] true)) (F:FT) (g1:F.get 1=.ref n0 0) (g2:F.get 2=.ref (n0+1) 0) {st:List kH}{Q:Ax.X->Fr->Sg->Prop}
  (hk:∀F' a' b' c',F'.get 1=.ref n0 0->F'.get 2=.ref (n0+1) 0->F'.get 3=.ref Y.length 0->kI aO a' x.ins->kI aO b' x.outs->kI aO c' x.after->M E st .normal ⟨45,F'⟩ (Y++[O.cells 46 [.str x.name,a',b',c',.aF] true]) Q) :
  R E (.region 1 (opsOf (cutAt [1,0] (aA Tryz.f74).code)) true) st ⟨45,F⟩ Y Q:=by
 obtain⟨F',a',b',c',hE,h1,h2,h3,h4,h5,h6⟩:=TV h ia ib ic hx b0 F g1 g2;exact Eq.mpr (i_ hE) (hk F' a' b' c' h1 h2 h3 h4 h5 h6)
end
end
section
section
variable {E:Env}{Z:Sg}{K:V->Sg->Prop}
theorem uW {α:Type}{L:Lay α}{t u k:Nat}{Y:Sg}{w:V}{l:List α}{cs:List V}{ex:Bool}(hb:Y[k]?=some (.cells u cs ex))(hu:u≠t) (ow:bB L t Y w l):aQ w≠some k:=by
 rcases ow with⟨rfl,-⟩ | ⟨b,rs,ex,rfl,hc,-⟩
 ·intro e;cases e
 ·intro e;cases e;rw[hb]at hc;cases hc;exact hu rfl
theorem rK {α:Type}{L:Lay α}{t:Nat}{Y:Sg}{w:V}{l:List α} (ow:bB L t Y w l):w.cells=[w]/\w.aY=true:=by
 rcases ow with⟨rfl,-⟩ | ⟨b,rs,ex,rfl,-⟩ <;> exact⟨rfl,rfl⟩
theorem wA {Y:Sg}{i:Nat}{x y:O}(h:Y[i]?=some y):(Y.set i x)[i]?=some x:=bt (AI.1 h).1
theorem qX {Y:Sg}{i j:Nat}{x y:O}(h:Y[j]?=some y)(hij:i≠j):(Y.set i x)[j]?=some y:=by rw[No hij];exact h
theorem TU (h:bE E) {s:AxS.Step}{p q:V} (ip:IS aO p s.args) (iq:IS aO q s.lits)(hp:s.args.length<=8796093022208)(hq:s.lits.length<=8796093022208) {Y:Sg} (F:FT) (g5:F.get 5=.ref Y.length 0) {st:List kH}{Q:Ax.X->Fr->Sg->Prop}
  (hk:∀F' p' q',(∀i,i<30->F'.get i=F.get i)->kI aO p' s.args->kI aO q' s.lits->M E st .normal ⟨45,F'⟩ (Y++[O.cells 82 [.str s.out,.int .i64 s.op,p',q',.int .i64 s.n] true]) Q):R E (.region 6 (opsOf (cutAt [1,1,0,1,2,2,1,0,2,1,0] (aA Tryz.f74).code)) true) st ⟨45,F⟩ (Y++[O.cells 82 [.str s.out,.int .i64 s.op,p,q,.int .i64 s.n] true]) Q:=by
 obtain⟨w1,τ1,p',h1,k1,i1⟩:=Af h ip (by omega);obtain⟨w2,τ2,q',h2,k2,i2⟩:=Af h iq (by omega);have s1:=λZ=>pK (E:=E) ip Z;have s2:=λZ=>pK (E:=E) iq Z;have o1:=aP i1.is.bD;have o2:=aP i2.is.bD;have n1:=jO i1.is.bD;have n2:=jO i2.is.bD
 have key:∃F',cO E (ev E 0) (opsOf (cutAt [1,1,0,1,2,2,1,0,2,1,0] (aA Tryz.f74).code)) ⟨45,F⟩ (Y++[O.cells 82 [.str s.out,.int .i64 s.op,p,q,.int .i64 s.n] true])=some (⟨45,F'⟩,Y++[O.cells 82 [.str s.out,.int .i64 s.op,p',q',.int .i64 s.n] true])/\∀i,i<30->F'.get i=F.get i:=by
  unfold cO;rw[h.Xu,h.Y7];simp only[aA,Tryz.f74,KP,Ax.loadAt,Ax.storeAt,↓reduceIte,reduceEqDiff,reduceLT,reduceLeDiff,reduceAdd,reduceCtorEq,h.a_,h.dB,opsOf,cutAt,Fz.apps,bL,cA,kY,Ax.comp,vS,gN,aX,g5,h1,h2,k1,k2,s1,s2,o1,o2,n1,n2,EI,aL,bR];refine⟨_,rfl,λi hi=>?_⟩;simp only[FT.cI]
  repeat rw[an (by omega)]
 obtain⟨F',hE,hF⟩:=key;exact Eq.mpr (i_ hE) (hk F' p' q' hF i1 i2)
theorem Rm (h:bE E) {Y:Sg}{w:V}{l:List AxS.Step}{s:AxS.Step}{p q:V} (ow:bB gD 82 Y w l) (ip:kI aO p s.args) (iq:kI aO q s.lits)(hb:l.length<=1000):∃w' τ',Ax.append E (Y++[O.cells 82 [.str s.out,.int .i64 s.op,p,q,.int .i64 s.n] true]) #[44,44] w (.sl Y.length 0 1 none)=some (w',τ')/\bB gD 82 τ' w' (l++[s])/\Sp (Y++[O.cells 82 [.str s.out,.int .i64 s.op,p,q,.int .i64 s.n] true]) τ' w/\Y.length<=τ'.length/\∀b,aQ w'=some b->aQ w=some b\/Y.length<=b:=by
 obtain⟨w',τ',h1,h2,h3,h4,h5⟩:=kP (m:=[s]) (new:=[[.str s.out,.int .i64 s.op,p,q,.int .i64 s.n]]) h.fS rfl h.dB rfl (by decide) (Bn h) rfl (ow.app [O.cells 82 [.str s.out,.int .i64 s.op,p,q,.int .i64 s.n] true]) (lW rfl) (.one ⟨p,q,rfl,ip,iq⟩) (dQ (b:=1001) (by decide) (by simp only[af,b9];omega));refine⟨w',τ',h1,h2,h3,?_,λb e=>?_⟩
 ·simp only[By,af,b9]at h4;omega
 ·rcases h5 b e with g | g
  ·exact .inl g
  ·simp only[By,af,b9]at g;exact .inr (by omega)
def acD (Y:Sg) (lo:Nat) (v:V) (x:aD):Prop:=∃a b c w,v=.agg [.str x.name,a,b,c,w]/\kI aO a x.ins/\kI aO b x.outs/\kI aO c x.after/\bB gD 82 Y w x.steps/\∀b,aQ w=some b->lo<=b
theorem Xf (h:bE E) {v:V}{x:aD}(hv:Jd v x)(hx:Mid x):aB E 74 [v] Z λv' Y=>acD Y Z.length v' x/\Kp Z Y:=by
 obtain⟨a,b,c,d,rfl,ia,ib,ic,id⟩:=hv;have a4:=hx.steps;have ha:=aP ia.bD;have hb:=aP ib.bD;have hc:=aP ic.bD;have hd:=aP id.bD;have ld:=lT h id;rw[cN h.hs74 h.sp74 h.fn74 h.md74,aW (by kernel_rfl)];simp only[aA,Tryz.f74,KP,↓reduceIte,reduceLT,reduceAdd,h.bM,ha,hb,hc,hd];have hlen:(Z++[O.cells 46 [.str x.name,a,b,c,d] true]).length=Z.length+1:=by simp
 have b0:(Z++[O.cells 46 [.str x.name,a,b,c,d] true]++[O.cells 46 [.str [],.aF,.aF,.aF,.aF] true])[Z.length]?=some (O.cells 46 [.str x.name,a,b,c,d] true):=aJ aL;have z0:(Z++[O.cells 46 [.str x.name,a,b,c,d] true]++[O.cells 46 [.str [],.aF,.aF,.aF,.aF] true])[Z.length+1]?=some (O.cells 46 [.str [],.aF,.aF,.aF,.aF] true):=by rw[<- hlen];exact aL
 have kp:Kp Z (Z++[O.cells 46 [.str x.name,a,b,c,d] true]++[O.cells 46 [.str [],.aF,.aF,.aF,.aF] true]):=λc o e=>aJ (aJ e);have hl2:(Z++[O.cells 46 [.str x.name,a,b,c,d] true]++[O.cells 46 [.str [],.aF,.aF,.aF,.aF] true]).length=Z.length+2:=by simp
 simp only[hlen];generalize Z++[O.cells 46 [.str x.name,a,b,c,d] true]++[O.cells 46 [.str [],.aF,.aF,.aF,.aF] true]=Y at *;refine TW h ia ib ic hx b0 _ ?_ ?_ ?_
 ·exact (by simp +decide only[GS])
 ·exact (by simp +decide only[GS])
 intro F1 a' b' c' g1 g2 g3 i1 i2 i3;simp only[KP,↓reduceIte,reduceLT];have b1:=aJ (x:=O.cells 46 [.str x.name,a',b',c',.aF] true) b0;have z1:=aJ (x:=O.cells 46 [.str x.name,a',b',c',.aF] true) z0;have kp1:Kp Z (Y++[O.cells 46 [.str x.name,a',b',c',.aF] true]):=λc o e=>aJ (kp c o e);have x1:(Y++[O.cells 46 [.str x.name,a',b',c',.aF] true])[Y.length]?=some (O.cells 46 [.str x.name,a',b',c',.aF] true):=aL;rw[hl2]at x1 g3;generalize Y++[O.cells 46 [.str x.name,a',b',c',.aF] true]=Y at *;refine aV (λi F Y=>Y[Z.length]?=some (O.cells 46 [.str x.name,a,b,c,d] true)/\Y[Z.length+1]?=some (O.cells 46 [.str [],.aF,.aF,.aF,.aF] true)/\Kp Z Y/\F.get 1=.ref Z.length 0/\F.get 2=.ref (Z.length+1) 0/\F.get 3=.ref (Z.length+2) 0/\F.get 4=.int .i64 (i:Int)/\∃w,Y[Z.length+2]?=some (O.cells 46 [.str x.name,a',b',c',w] true)/\bB gD 82 Y w (x.steps.take i)/\∀b,aQ w=some b->Z.length<=b) x.steps.length ?_ ?_ x.steps.length 0 _ _ (by omega) ⟨b1,z1,kp1,(fK (by simp +decide only[GS,g1,g2,g3,aj]) ⟨.aF,x1,.inl ⟨rfl,rfl⟩,λb e=>by cases e⟩)⟩
 ·rintro i F Y hi ⟨b0,z0,kp,g1,g2,g3,g4,w,x0,ow,hw⟩ next
  obtain⟨s,hst⟩:∃y,x.steps[i]?=some y:=⟨_,AT hi⟩;have hmem:=ag hst;have a5:=hx.args s hmem;have a6:=hx.lits s hmem;obtain⟨g,p,q,e1,ip,iq⟩:=wN h id hst;have hop:=aP ip.bD;have hoq:=aP iq.bD;have hlt:=dP hi;have hadd:=bW i (by omega);rw[aG];simp only[KP,Ax.loadAt,Ax.storeAt,↓reduceIte,reduceEqDiff,reduceLT,reduceAdd,reduceCtorEq,h.fS,h.bM,h.dB,g1,g4,b0,ld,hlt,e1,hop,hoq,aL,bR];refine TU h ip iq (by omega) (by omega) _ ?_ ?_
  ·exact (by simp +decide only[GS])
  intro F2 p' q' hF ip' iq';have k1:F2.get 1=.ref Z.length 0:=by rw[hF 1 (by omega)];exact (by simp +decide only[GS,g1])
  have k2:F2.get 2=.ref (Z.length+1) 0:=by rw[hF 2 (by omega)];exact (by simp +decide only[GS,g2])
  have k3:F2.get 3=.ref (Z.length+2) 0:=by rw[hF 3 (by omega)];exact (by simp +decide only[GS,g3])
  have k4:F2.get 4=.int .i64 (i:Int):=by rw[hF 4 (by omega)];exact (by simp +decide only[GS,g4])
  have k5:F2.get 5=.ref Y.length 0:=by rw[hF 5 (by omega)];exact (by simp +decide only[GS])
  have hop':=aP ip'.is.bD;have hoq':=aP iq'.is.bD;have b1:=aJ (x:=O.cells 82 [.str s.out,.int .i64 s.op,p',q',.int .i64 s.n] true) b0;have z1:=aJ (x:=O.cells 82 [.str s.out,.int .i64 s.op,p',q',.int .i64 s.n] true) z0;have x1:=aJ (x:=O.cells 82 [.str s.out,.int .i64 s.op,p',q',.int .i64 s.n] true) x0;have s1:(Y++[O.cells 82 [.str s.out,.int .i64 s.op,p',q',.int .i64 s.n] true])[Y.length]?=some (O.cells 82 [.str s.out,.int .i64 s.op,p',q',.int .i64 s.n] true):=aL;have ow1:=ow.app [O.cells 82 [.str s.out,.int .i64 s.op,p',q',.int .i64 s.n] true];have kp1:Kp Z (Y++[O.cells 82 [.str s.out,.int .i64 s.op,p',q',.int .i64 s.n] true]):=λc o e=>aJ (kp c o e)
  have hle:Z.length<=(Y++[O.cells 82 [.str s.out,.int .i64 s.op,p',q',.int .i64 s.n] true]).length:=by
   have:=(AI.1 b1).1;omega
  generalize Y++[O.cells 82 [.str s.out,.int .i64 s.op,p',q',.int .i64 s.n] true]=τ2 at *;generalize Y.length=y at *;obtain⟨w',τ3,ha3,ow3,RA,hl3,hb3⟩:=Rm (s:=s) h ow1 ip' iq' (by rw[bw];omega);have x3:=RA _ _ (aJ x1) (uW x1 (by decide) ow1);have b3:=RA _ _ (aJ b1) (uW b1 (by decide) ow1);have z3:=RA _ _ (aJ z1) (uW z1 (by decide) ow1)
  have kp3:Kp Z τ3:=λc o e=>RA _ _ (aJ (kp1 c o e)) (λe2=>by
   have:=hw c e2;have:=(AI.1 e).1;omega)
  obtain⟨hc1,hc2⟩:=rK ow3;simp only[KP,Ax.loadAt,Ax.storeAt,↓reduceIte,reduceEqDiff,reduceLT,reduceLeDiff,reduceAdd,reduceMul,reduceCtorEq,h.fS,h.bM,h.dB,k3,k4,k5,x1,x3,s1,ha3,hadd,hc1,hc2,hop',hoq',Ax.fill,gX,iz];refine next _ _ ⟨qX b3 (by omega),qX z3 (by omega),λc o e=>qX (kp3 c o e) (by have:=(AI.1 e).1;omega),(fK (by simp +decide only[GS,k1,k2,k3,aj]) ⟨w',wA x3,?_,λb e=>?_⟩)⟩
  ·have e:x.steps.take (i+1)=x.steps.take i++[s]:=by rw[ek,hst];rfl
   rw[e];refine ow3.keep λc o hc ho=>qX ho ?_;intro e2;rw[<- e2]at hc;exact uW x3 (by decide) ow3 hc
  ·rcases hb3 b e with g | g
   ·exact hw b g
   ·omega
 ·rintro F Y ⟨b0,z0,kp,g1,g2,g3,g4,w,x0,ow,hw⟩;have hlt:=dZ (bl x.steps.length);obtain⟨hc1,hc2⟩:=rK ow;have o1:=aP i1.is.bD;have o2:=aP i2.is.bD;have o3:=aP i3.is.bD;have zz:=wA (x:=O.cells 46 [.str x.name,a',b',c',w] true) z0;rw[ak (OF _)]at ow;rw[aG];simp only[KP,Ax.loadAt,Ax.storeAt,↓reduceIte,reduceEqDiff,reduceLT,reduceAdd,reduceCtorEq,h.fS,h.bM,g1,g2,g3,g4,b0,x0,z0,zz,ld,hlt,hc2,o1,o2,o3];refine⟨⟨a',b',c',w,rfl,i1,i2,i3,ow.keep λc o hc ho=>qX ho ?_,hw⟩,λc o e=>qX (kp c o e) (by have:=(AI.1 e).1;omega)⟩;intro e2;rw[<- e2]at hc;exact uW z0 (by decide) ow hc
end
end
section
section
variable {E:Env}{Z:Sg}{K:V->Sg->Prop}
theorem E_ (n k:Nat):gF false .i64 (n:Int) [.int .i64 (k:Int)]=some ((min n k:Nat):Int):=by
 rw[min2];by_cases g:(k:Int)<(n:Int)
 ·rw[az g,Nat.min_eq_right (by omega)]
 ·rw[an g,ju (by omega)]
theorem yM {α:Type} (l:List α) (k:Nat):l.take (min l.length k)=l.take k:=by
 rw[List.take_eq_take_iff];omega
theorem DO (h:bE E) {v:V}{l:List bC} (iv:IS aO v l) (k:Nat):∃w,(∀Z,Ax.slice E Z 24 v none (some (.int .i64 ((min l.length k:Nat):Int))) none=some w)/\IS aO w (l.take k):=by
 obtain⟨w,h1,h2⟩:=xL h iv (b:=min l.length k) (Nat.min_le_left _ _);exact⟨w,h1,by rwa [yM]at h2⟩
theorem FA (h:bE E) {v:V}{l:List bC} (iv:kI aO v l) (k:Nat):∃w,(∀Z,Ax.slice E Z 24 v none (some (.int .i64 ((min l.length k:Nat):Int))) none=some w)/\kI aO w (l.take k):=by
 obtain⟨w,h1,-,h2⟩:=yO (lo:=none) (hi:=some (.int .i64 ((min l.length k:Nat):Int))) (a:=0) (b:=min l.length k) h.a_ rfl h.dG rfl iv.is (.inr rfl) (.inl ⟨rfl,rfl⟩) (ij _) (Nat.min_le_left _ _);refine⟨w,h1,?_⟩;have:=h2 iv;rw[fc,yM]at this;exact this
theorem NH (h:bE E) {v:V}{l:List AxS.Step} (iv:IS eZ v l) (k:Nat):∃w,(∀Z,Ax.slice E Z 44 v none (some (.int .i64 ((min l.length k:Nat):Int))) none=some w)/\IS eZ w (l.take k):=by
 obtain⟨w,h1,h2,-⟩:=yO (lo:=none) (hi:=some (.int .i64 ((min l.length k:Nat):Int))) (a:=0) (b:=min l.length k) h.fS rfl h.dB rfl iv (.inr rfl) (.inl ⟨rfl,rfl⟩) (ij _) (Nat.min_le_left _ _);refine⟨w,h1,?_⟩;rw[fc,yM]at h2;exact h2
def rX (x:aD):aD:={ x with ins:=x.ins.take 10,outs:=x.outs.take 6,after:=x.after.take 10,steps:=x.steps.take 14 }
def BX (s:AxS.Step):AxS.Step:={ s with args:=s.args.take 8,lits:=s.lits.take 3 }
def cut (x:aD):aD:={ rX x with steps:=(x.steps.take 14).map BX }
theorem NI (x:aD):Small (cut x):=by
 refine⟨?_,?_,?_,?_,λs hs=>?_,λs hs=>?_⟩
 ·show (x.ins.take 10).length<=10;rw[bw];omega
 ·show (x.outs.take 6).length<=6;rw[bw];omega
 ·show (x.after.take 10).length<=10;rw[bw];omega
 ·show ((x.steps.take 14).map BX).length<=14;rw[bj,bw];omega
 ·obtain⟨q,_,rfl⟩:=cv.1 hs;show (q.args.take 8).length<=8;rw[bw];omega
 ·obtain⟨q,_,rfl⟩:=cv.1 hs;show (q.lits.take 3).length<=3;rw[bw];omega
structure Raw (x:aD):Prop where
 args:∀s∈x.steps,s.args.length<=8796093022208
 lits:∀s∈x.steps,s.lits.length<=8796093022208
theorem Raw.mid {x:aD}(h:Raw x):Mid (rX x):=by
 refine⟨?_,?_,?_,?_,λs hs=>h.args s (ji hs),λs hs=>h.lits s (ji hs)⟩
 ·show (x.ins.take 10).length<=10;rw[bw];omega
 ·show (x.outs.take 6).length<=6;rw[bw];omega
 ·show (x.after.take 10).length<=10;rw[bw];omega
 ·show (x.steps.take 14).length<=14;rw[bw];omega
theorem PT (h:bE E) {x:aD}{a b c d:V} (ia:IS aO a x.ins) (ib:IS aO b x.outs) (ic:IS aO c x.after) (id:IS eZ d x.steps) (F:FT) (g1:F.get 1=.ref 0 0) (g2:F.get 2=.ref 1 0) {st:List kH}{Q:Ax.X->Fr->Sg->Prop}
  (hk:∀F' a' b' c' d',F'.get 1=.ref 0 0->F'.get 2=.ref 1 0->F'.get 3=.ref 2 0->IS aO a' (x.ins.take 10)->IS aO b' (x.outs.take 6)->IS aO c' (x.after.take 10)->IS eZ d' (x.steps.take 14) ->
   M E st .normal ⟨86,F'⟩ [O.cells 46 [.str x.name,a,b,c,d] true,O.cells 46 [.str [],.aF,.aF,.aF,.aF] true,O.cells 46 [.str x.name,a',b',c',d'] true] Q) :
  R E (.region 1 (opsOf (cutAt [1,0] (aA Tryz.f110).code)) true) st ⟨86,F⟩ [O.cells 46 [.str x.name,a,b,c,d] true,O.cells 46 [.str [],.aF,.aF,.aF,.aF] true] Q:=by
 obtain⟨a',sa,ia'⟩:=DO h ia 10;obtain⟨b',sb,ib'⟩:=DO h ib 6;obtain⟨c',sc,ic'⟩:=DO h ic 10;obtain⟨d',sd,id'⟩:=NH h id 14;have la:=bP h ia;have lb:=bP h ib;have lc:=bP h ic;have ld:=lT h id;have m1:=E_ x.ins.length 10;have m2:=E_ x.outs.length 6;have m3:=E_ x.after.length 10;have m4:=E_ x.steps.length 14;have o1:=aP ia'.bD;have o2:=aP ib'.bD;have o3:=aP ic'.bD;have o4:=aP id'.bD;have n1:=jO ia'.bD;have n2:=jO ib'.bD;have n3:=jO ic'.bD;have n4:=jO id'.bD;have v1:=cK 10 ia;have v2:=cK 10 ib;have v3:=cK 10 ic;have v4:=pD 9 id;have u1:=cK 10 ia';have u2:=cK 10 ib';have u3:=cK 10 ic';have u4:=pD 9 id';have vs:=Be 11 x.name;have vi:=λk i=>KY 11 k i;have m1:gF false .i64 (x.ins.length:Int) [.int .i64 10]=some ((min x.ins.length 10:Nat):Int):=m1;have m2:gF false .i64 (x.outs.length:Int) [.int .i64 6]=some ((min x.outs.length 6:Nat):Int):=m2;have m3:gF false .i64 (x.after.length:Int) [.int .i64 10]=some ((min x.after.length 10:Nat):Int):=m3;have m4:gF false .i64 (x.steps.length:Int) [.int .i64 14]=some ((min x.steps.length 14:Nat):Int):=m4
 have key:∃F',cO E (ev E 0) (opsOf (cutAt [1,0] (aA Tryz.f110).code)) ⟨86,F⟩ [O.cells 46 [.str x.name,a,b,c,d] true,O.cells 46 [.str [],.aF,.aF,.aF,.aF] true]=some (⟨86,F'⟩,[O.cells 46 [.str x.name,a,b,c,d] true,O.cells 46 [.str [],.aF,.aF,.aF,.aF] true,O.cells 46 [.str x.name,a',b',c',d'] true])/\F'.get 1=.ref 0 0/\F'.get 2=.ref 1 0/\F'.get 3=.ref 2 0:=by
  unfold cO;rw[h.UU,h.VS];simp only[aA,Tryz.f110,KP,Ax.loadAt,Ax.storeAt,↓reduceIte,reduceEqDiff,reduceLT,reduceAdd,reduceCtorEq,h.dG,h.a_,h.fS,h.bM,opsOf,cutAt,iL,bL,cA,kY,Ax.comp,Ax.last,iN,Ax.again,aS,Ax.fill,Ax.placeOf,g1,la,lb,lc,ld,sa,sb,sc,sd,m1,m2,m3,m4,o1,o2,o3,o4,n1,n2,n3,n4,v1,v2,v3,v4,u1,u2,u3,u4,vs,vi];exact⟨_,rfl,(by simp +decide only[GS,g1,g2,aj])⟩
 obtain⟨F',hE,k1,k2,k3⟩:=key;exact Eq.mpr (i_ hE) (hk F' a' b' c' d' k1 k2 k3 ia' ib' ic' id')
theorem qC {sz:Nat}:∀(rs:List (List V)),(∀r∈rs,r.length=sz)->∀(i:Nat) (r:List V),rs[i]?=some r->∀k,k<sz->rs.flatten[i*sz+k]?=r[k]?
 | [],_,i,r,e,_,_=>by cases e
 |x::rs,h,0,r,e,k,hk=>by
  cases e;have hr:=h x (IN ..);rw[dw,iz,dh,b8 (by omega)]
 |x::rs,h,i+1,r,e,k,hk=>by
  have hr:=h x (IN ..);rw[dw,br (by rw[jk];omega),show (i+1)*sz+k-x.length=i*sz+k by rw[jk];omega];exact qC rs (λy hy=>h y (ae _ hy)) i r e k hk
theorem O8 {sz:Nat}{rs:List (List V)}(h:∀r∈rs,r.length=sz) {i:Nat}{r:List V} (e:rs[i]?=some r) {k:Nat}(hk:k<sz) (u:V):setCells rs.flatten (i*sz+k) [u]=(rs.set i (r.set k u)).flatten:=by
 have hil:=(AI.1 e).1;have hrl:r.length=sz:=h r (ag e);have hfl:rs.flatten.length=rs.length*sz:=oB rs h;have him:(i+1)*sz<=rs.length*sz:=gq _ hil;rw[jk]at him;rw[<- CN rs i (r.set k u) h (by rw[ec];exact hrl) hil];apply jx;intro q;unfold setCells;have l1:(rs.flatten.take (i*sz+k)).length=i*sz+k:=by rw[bw];omega
 have l2:(rs.flatten.take (i*sz)).length=i*sz:=by rw[bw];omega
 rw[cw,cw,dm,ec,hrl];rcases jz q (i*sz+k) with hq | rfl | hq
 ·rw[b8 (by omega),j7,az hq];by_cases g:q<i*sz
  ·rw[b8 (by omega),j7,az g]
  ·rw[br (by omega),l2,b8 (by rw[ec];omega),No (by omega)];obtain⟨d,rfl⟩:∃d,q=i*sz+d:=⟨q-i*sz,by omega⟩;rw[mw];exact qC rs h i r e d (by omega)
 ·have e0:([u]++rs.flatten.drop (i*sz+k+1))[0]?=some u:=rfl;rw[br (by omega),l1,jl,e0,br (by omega),l2,mw,b8 (by rw[ec];omega),bt (by omega)]
 ·rw[br (by omega),l1,br (by rw[dm];omega),dm,mc,show i*sz+k+1+(q-(i*sz+k)-1)=q by omega];rw[br (by omega),l2];by_cases g:q-i*sz<sz
  ·rw[b8 (by rw[ec];omega),No (by omega)];obtain⟨d,rfl⟩:∃d,q=i*sz+d:=⟨q-i*sz,by omega⟩;rw[mw];exact qC rs h i r e d (by omega)
  ·rw[br (by rw[ec];omega),ec,hrl,mc,show i*sz+sz+(q-i*sz-sz)=q by omega]
end
end
end Go.Proofs.YtmbikbgdbbcbmaaGreatDoor
end
section
namespace Go.Proofs.YtmbikbgdbbcbmaaGreatDoor
open Go Go.Ax Go.AxS Go.ChangeShapes Go.WideShapes Go.ChangeAt Go.RowKit
section
theorem Ac (s:ByteArray):(Ax.bytes s).length=s.size:=by
 unfold Ax.bytes;rw[bj];rfl
section
variable {W:World}{I:Bool->Nat->Prop}{blk:Nat}
theorem QH {r:List V}{cs:List Value}:∀{off:Nat},B1 W I r cs->(∀j,j<cs.length->W.cell? ⟨blk,off+j,none⟩=cs[j]?)->dO W I r blk off:=by
 induction r generalizing cs with
 |nil=>intro off h hc;exact .nil
 |cons v r ih=>
  intro off h hc;cases h with
  |cons _ x _ xs hv hr=>
   have h0:=hc 0 (by simp);refine .cons v x r (by simpa using h0) hv (ih hr λj hj=>?_);have:=hc (j+1) (by simpa using hj);rw[show off+1+j=off+(j+1) by omega,this];rfl
theorem Lv {sz off:Nat}{R:Nat->List V}{C:Nat->List Value}:∀(n k:Nat),(∀i,k<=i->i<k+n->(R i).length=sz/\(C i).length=sz/\B1 W I (R i) (C i)/\∀j,j<sz->W.cell? ⟨blk,off+i*sz+j,none⟩=(C i)[j]?) ->
  eI W I sz ((List.range' k n).map R) blk (off+k*sz)
 |0,k,_=>.nil
 |n+1,k,h=>by
  rw[List.range'_succ,bh];obtain⟨h1,h2,h3,h4⟩:=h k (OF _) (by omega);refine .cons _ _ h1 (QH h3 λj hj=>h4 j (by omega)) ?_;have:=Lv (off:=off) n (k+1) λi hi hn=>h i (by omega) (by omega);rw[show off+(k+1)*sz=off+k*sz+sz by rw[jk];omega]at this;exact this
end
def Reads (W:World) (t n:Nat) (Q:List V->Prop):Prop:=∀{H:Type} (enc:TypeId × Value->H) (fuel:Nat) (cs:List Value) (d:DataW H) (p:List MemPlace),DataW.trod enc Tryz.prog W 0 (λ_=>true) true fuel t cs=some (d,p)->(DataW.weights Tryz.prog t d).all (· <= reachBytes)=true->cs.length=n/\∃r:List V,r.length=n/\Q r/\B1 W (wV W).bD r cs
theorem Reads.mono {W:World}{t n:Nat}{Q Q':List V->Prop}(h:Reads W t n Q) (k:∀r,Q r->Q' r):Reads W t n Q':=λenc fuel cs d p h1 h2=>by
 obtain⟨a,r,b,c,e⟩:=h enc fuel cs d p h1 h2;exact⟨a,r,b,k r c,e⟩
def Gd (s:bC):Prop:=s.length<=9223372036854775806
theorem AB (W:World):Reads W 9 1 λr=>∃s,r=[.str s]/\Gd s:=λenc fuel cs d p h hw=>by
 obtain⟨s,rfl,hx,hl⟩:=DataW.trod_string Tryz.underlying9 h;refine⟨rfl,[.str (Ax.bytes s)],rfl,⟨_,rfl,?_⟩,.cons _ _ _ _ (.str _) .nil⟩;unfold Gd;rw[Ac];rw[show d=.lit (.string s.data.toList) from au Prod.fst hx,DataW.weights]at hw;simp only[j9,l5,mh,aa]at hw;have e:reachBytes=140737488351232:=by decide
 have e1:s.size=s.data.toList.length:=rfl;omega
theorem EV (W:World):Reads W 3 1 λr=>∃n:Int,r=[.int .i64 n]:=λenc fuel cs d p h hw=>by
 obtain⟨n,rfl,hx,-⟩:=DataW.trod_int Tryz.underlying3 h;exact⟨rfl,[.int .i64 n],rfl,⟨n,rfl⟩,.cons _ _ _ _ (.int _ _) .nil⟩
theorem vC {H:Type}{e w:Nat}{d:DataW H}:∀{l:List (DataW H)},d∈l->w∈DataW.weights Tryz.prog e d->w∈DataW.weightsAll Tryz.prog e l
 |x::l,hd,hw=>by
  rw[DataW.weightsAll,cq];rcases IT.1 hd with rfl | hd
  ·exact .inl hw
  ·exact .inr (vC hd hw)
theorem uS {W:World}{α:Type} [Inhabited α] {L:Lay α}{B:α->Prop}{t e n bb:Nat}(ht:Tryz.prog.underlying t=some (.slice e)) (ce:Tryz.prog.cellsOf e=n)(hb:Tryz.prog.bytesOf e=bb)(hn:0<n)(he:Reads W e n λr=>∃x,L.P r x/\B x) :
  Reads W t 1 λr=>∃v l,r=[v]/\IS L v l/\(∀x∈l,B x)/\l.length*bb<=reachBytes:=λ{H} enc fuel cs d p h hw=>by
 rcases Go.Deep.open_slice ht h with⟨rfl,hx⟩ | ⟨a,len,cap,m,k,D,Pl,rfl,hbase,hlc,hcm,hm,hx,hel⟩
 ·exact⟨rfl,[.aF],rfl,⟨.aF,[],rfl,.inl ⟨rfl,rfl⟩,λx hx=>(by cases hx),by simp⟩,.cons _ _ _ _ .aF .nil⟩
 ·have hm:m=cap:=by rw[hm];rfl
  subst hm;have hd:d=_:=au Prod.fst hx;dsimp only at hd
  have hwl:len*bb<=reachBytes/\∀i,i<len->(DataW.weights Tryz.prog e (D i)).all (· <= reachBytes)=true:=by
   rw[hd]at hw;unfold DataW.weights at hw;rw[ht]at hw;simp only[j9,kz,ai,ez,aa,bj,qg]at hw;refine⟨?_,λi hi=>?_⟩
   ·have h1:=hw.1;rw[hb]at h1;refine fh (gq _ (by omega)) h1
   ·rw[ez];intro w hwi;rw[aa];exact hw.2.1 w (vC (cv.2 ⟨i,kj.2 hi,rfl⟩) hwi)
  by_cases hc:m=0
  ·subst hc;obtain rfl:len=0:=by omega
   exact⟨rfl,[.bS true [] false],rfl,⟨_,[],rfl,.inr ⟨true,[],false,rfl,.nil⟩,λx hx=>(by cases hx),by simp⟩,.cons _ _ _ _ (.emp _ _ a) .nil⟩
  ·obtain⟨cs0,h0,-⟩:=hel 0 (by omega);obtain⟨-,hl0,hc0⟩:=World.cells?_some h0;rw[ce]at hl0 hc0;have hcell:=hc0 0 hn;obtain⟨blk,off,sp⟩:=a;have hadd:((⟨blk,off,sp⟩:Addr).add (0*n)).add 0=⟨blk,off,sp⟩:=by rw[iz];rfl
   rw[hadd]at hcell;have hsome:∃v,W.cell? ⟨blk,off,sp⟩=some v:=⟨_,hcell.trans (AT (by omega))⟩;obtain⟨v0,hv0⟩:=hsome
   have hsp:sp=none/\blk<W.heap.size:=by
    unfold World.cell? at hv0;split at hv0
    ·rename_i c u f hblk;refine⟨?_,(bz.1 hblk).1⟩;cases sp with
     |none=>rfl
     |some q=>simp at hv0
    ·cases hv0
   obtain⟨rfl,hlt⟩:=hsp
   have each:∀i,i<len->∃q:List V × List Value × α,q.1.length=n/\q.2.1.length=n/\L.P q.1 q.2.2/\B q.2.2/\B1 W (wV W).bD q.1 q.2.1/\∀j,j<n->W.cell? ⟨blk,off+i*n+j,none⟩=q.2.1[j]?:=λi hi=>by
    obtain⟨cs',h1,h2⟩:=hel i (by omega);obtain⟨h3,r,h4,⟨x,h5,h5'⟩,h6⟩:=he enc k cs' (D i) (Pl i) h2 (hwl.2 i hi);obtain⟨-,hl1,hc1⟩:=World.cells?_some h1;rw[ce]at hc1;refine⟨(r,cs',x),h4,h3,h5,h5',h6,λj hj=>?_⟩;have:=hc1 j hj
    have ea:((⟨blk,off,none⟩:Addr).add (i*n)).add j=⟨blk,off+i*n+j,none⟩:=by
     rw[Go.Deep.add_add];unfold Addr.add;split
     ·rename_i h0;rw[show off+i*n+j=off by omega]
     ·rw[qn]
    rw[ea]at this;exact this
   obtain⟨q,hq⟩:=Go.Deep.choose_lt each;refine⟨rfl,[.bS true ((List.range' 0 len).map λi=>(q i).1) false],rfl,⟨_,(List.range' 0 len).map λi=>(q i).2.2,rfl,.inr ⟨true,_,false,rfl,?_⟩,λx hx=>?_,by simpa using hwl.1⟩,.cons _ _ _ _ (.bS true _ false blk off len m n (RP W blk hlt) (by simp) hlc (λh=>by cases h) ?_) .nil⟩
   ·have hall:∀(c k:Nat),(∀i,k<=i->i<k+c->L.P (q i).1 (q i).2.2)->eJ L.P ((List.range' k c).map λi=>(q i).1) ((List.range' k c).map λi=>(q i).2.2):=by
     intro c
     induction c with
     |zero=>intro k _;exact .nil
     |succ c ih=>
      intro k hk;rw[List.range'_succ,bh,bh];exact .cons (hk k (OF _) (by omega)) (ih (k+1) λi h1 h2=>hk i (by omega) (by omega))
    exact hall len 0 λi _ hi=>(hq i (by omega)).2.2.1
   ·obtain⟨i,hi,rfl⟩:=cv.1 hx;rw[List.mem_range'_1]at hi;exact (hq i (by omega)).2.2.2.1
   ·have:=Lv (W:=W) (I:=Ax.sub true (wV W).bD) (blk:=blk) (off:=off) (sz:=n) (R:=λi=>(q i).1) (C:=λi=>(q i).2.1) len 0 λi _ hi=>⟨(hq i (by omega)).1,(hq i (by omega)).2.1,(hq i (by omega)).2.2.2.2.1,(hq i (by omega)).2.2.2.2.2⟩;rw[iz,lg]at this;exact this
theorem tF {W:World}{I:Bool->Nat->Prop}{a:List V}{x:List Value}(h:B1 W I a x) {b:List V}{y:List Value} (k:B1 W I b y):B1 W I (a++b) (x++y):=by
 induction a generalizing x with
 |nil=>cases h;exact k
 |cons v a ih=>cases h with | cons _ z _ zs hv hr=>exact .cons _ _ _ _ hv (ih hr)
theorem Kn {β:Type}{l:List β}(h:l.length=5):∃a b c d e,l=[a,b,c,d,e]:=by
 match l,h with
 | [a,b,c,d,e],_=>exact⟨a,b,c,d,e,rfl⟩
theorem one {β:Type}{l:List β}(h:l.length=1):∃a,l=[a]:=by
 match l,h with
 | [a],_=>exact⟨a,rfl⟩
theorem CV {W:World}{t:Nat}{f0 f1 f2 f3 f4:Field}{Q0 Q1 Q2 Q3 Q4:List V->Prop}(ht:Tryz.prog.underlying t=some (.struct #[f0,f1,f2,f3,f4])) (ct:Tryz.prog.cellsOf t=5) (o0:f0.offset=0) (o1:f1.offset=1) (o2:f2.offset=2) (o3:f3.offset=3) (o4:f4.offset=4)
  (c0:Tryz.prog.cellsOf f0.type=1) (c1:Tryz.prog.cellsOf f1.type=1) (c2:Tryz.prog.cellsOf f2.type=1) (c3:Tryz.prog.cellsOf f3.type=1) (c4:Tryz.prog.cellsOf f4.type=1)
  (h0:Reads W f0.type 1 Q0)(h1:Reads W f1.type 1 Q1)(h2:Reads W f2.type 1 Q2)(h3:Reads W f3.type 1 Q3)(h4:Reads W f4.type 1 Q4) :
  Reads W t 5 λr=>∃a b c d e,r=[a,b,c,d,e]/\Q0 [a]/\Q1 [b]/\Q2 [c]/\Q3 [d]/\Q4 [e]:=λ{H} enc fuel cs d p h hw=>by
 obtain⟨xs,k,-,hx,hl,hxl,hf⟩:=DataW.trod_struct ht h;rw[ct]at hl;obtain⟨v0,v1,v2,v3,v4,rfl⟩:=Kn hl;have hxl:xs.length=5:=hxl;obtain⟨y0,y1,y2,y3,y4,rfl⟩:=Kn hxl;have hd:d=_:=au Prod.fst hx;dsimp only at hd;rw[hd]at hw;unfold DataW.weights at hw;rw[ht]at hw;simp only[bh,map_nil,DataW.weightsEach,kz,ai]at hw;obtain⟨w0,w1,w2,w3,w4,-⟩:=hw;have g0:=hf 0 f0 rfl;have g1:=hf 1 f1 rfl;have g2:=hf 2 f2 rfl;have g3:=hf 3 f3 rfl;have g4:=hf 4 f4 rfl;rw[o0,c0]at g0;rw[o1,c1]at g1;rw[o2,c2]at g2;rw[o3,c3]at g3;rw[o4,c4]at g4;obtain⟨-,r0,l0,q0,i0⟩:=h0 enc k [v0] y0.1 y0.2 g0 w0;obtain⟨-,r1,l1,q1,i1⟩:=h1 enc k [v1] y1.1 y1.2 g1 w1;obtain⟨-,r2,l2,q2,i2⟩:=h2 enc k [v2] y2.1 y2.2 g2 w2;obtain⟨-,r3,l3,q3,i3⟩:=h3 enc k [v3] y3.1 y3.2 g3 w3;obtain⟨-,r4,l4,q4,i4⟩:=h4 enc k [v4] y4.1 y4.2 g4 w4;obtain⟨a,rfl⟩:=one l0;obtain⟨b,rfl⟩:=one l1;obtain⟨c,rfl⟩:=one l2;obtain⟨d',rfl⟩:=one l3;obtain⟨e,rfl⟩:=one l4;exact⟨hl,[a,b,c,d',e],rfl,⟨a,b,c,d',e,rfl,q0,q1,q2,q3,q4⟩,tF i0 (tF i1 (tF i2 (tF i3 i4)))⟩
theorem pQ (W:World):Reads W 24 1 λr=>∃v l,r=[v]/\IS aO v l/\(∀x∈l,Gd x)/\l.length*16<=reachBytes:=
 uS (L:=aO) Tryz.underlying24 (by kernel_rfl) (by kernel_rfl) (by decide) (Reads.mono (AB W) λr ⟨s,h1,h2⟩=>⟨s,h1,h2⟩)
instance:Inhabited AxS.Step:=⟨⟨[],0,[],[],0⟩⟩
instance:Inhabited aD:=⟨⟨[],[],[],[],[]⟩⟩
def acA (s:AxS.Step):Prop:=s.args.length<=8796093022208/\s.lits.length<=8796093022208
theorem Z9 {n:Nat}(h:n*16<=reachBytes):n<=8796093022208:=by
 have e:reachBytes=140737488351232:=by decide
 omega
theorem JU (W:World):Reads W 82 5 λr=>∃x,eZ.P r x/\acA x:=
 Reads.mono (CV Tryz.underlying82 (by kernel_rfl) rfl rfl rfl rfl rfl (by kernel_rfl) (by kernel_rfl) (by kernel_rfl) (by kernel_rfl) (by kernel_rfl) (AB W) (EV W) (pQ W) (pQ W) (EV W)) λr ⟨a,b,c,d,e,hr,⟨s,h0,_⟩,⟨n,h1⟩,⟨v2,l2,h2,i2,_,b2⟩,⟨v3,l3,h3,i3,_,b3⟩,⟨m,h4⟩⟩=>by
  cases h0;cases h1;cases h2;cases h3;cases h4;exact⟨⟨s,n,l2,l3,m⟩,⟨_,_,hr,i2,i3⟩,Z9 b2,Z9 b3⟩
theorem JV (W:World):Reads W 46 5 λr=>∃x,dN.P r x/\Raw x:=
 Reads.mono (CV Tryz.underlying46 (by kernel_rfl) rfl rfl rfl rfl rfl (by kernel_rfl) (by kernel_rfl) (by kernel_rfl) (by kernel_rfl) (by kernel_rfl) (AB W) (pQ W) (pQ W) (pQ W) (uS (L:=eZ) Tryz.underlying44 (by kernel_rfl) rfl (by decide) (JU W))) λr ⟨a,b,c,d,e,hr,⟨s,h0,_⟩,⟨v1,l1,h1,i1,_⟩,⟨v2,l2,h2,i2,_⟩,⟨v3,l3,h3,i3,_⟩,⟨v4,l4,h4,i4,hB,_⟩⟩=>by
  cases h0;cases h1;cases h2;cases h3;cases h4;exact⟨⟨s,l1,l2,l3,l4⟩,⟨_,_,_,_,hr,i1,i2,i3,i4⟩,⟨λs hs=>(hB s hs).1,λs hs=>(hB s hs).2⟩⟩
theorem HO (W:World):Reads W 22 1 λr=>∃v l,r=[v]/\IS dN v l/\(∀x∈l,Raw x)/\l.length*Tryz.prog.bytesOf 46<=reachBytes:=
 uS (L:=dN) Tryz.underlying22 (by kernel_rfl) rfl (by decide) (JV W)
section
variable {H:Type}{enc:TypeId × Value->H}{W:World}{base:Nat}{v:Value}{d:DataW H}{p:List MemPlace}
theorem Uf {t:Nat}{Q:List V->Prop}(hr:Reads W t 1 Q)(hc:v.cells = #[v])(h:DataW.Trod enc Tryz.prog W 0 (λ_=>true) true t v d p)(hw:(DataW.weights Tryz.prog t d).all (· <= reachBytes)=true):∃a,Q [a]/\VR (wV W) a v:=by
 obtain⟨fuel,h⟩:=h;rw[hc]at h;obtain⟨-,r,h1,h2,h3⟩:=hr enc fuel _ d p h hw;obtain⟨a,rfl⟩:=one h1;cases h3 with
 |cons _ _ _ _ hv _=>exact⟨a,h2,.inl hv⟩
theorem HF {t e:Nat}(ht:Tryz.prog.underlying t=some (.slice e))(hv:Value.okWide Tryz.prog W .any base t v):v.cells = #[v]:=by
 unfold Value.okWide at hv;rw[ht]at hv;have hv:Cell.okWide Tryz.prog W .any base t v:=hv;unfold Cell.okWide Cell.ok at hv;rw[ht]at hv;cases v with
 |slice q len cap=>rfl
 |_=>exact hv.elim
theorem N9 (hv:Value.okWide Tryz.prog W .any base 22 v)(h:DataW.Trod enc Tryz.prog W 0 (λ_=>true) true 22 v d p)(hw:(DataW.weights Tryz.prog 22 d).all (· <= reachBytes)=true):∃a l,IS dN a l/\(∀x∈l,Raw x)/\VR (wV W) a v:=by
 obtain⟨a,⟨v',l,e,h1,h2,-⟩,h3⟩:=Uf (HO W) (HF Tryz.underlying22 hv) h hw;cases e;exact⟨a,l,h1,h2,h3⟩
end
end
end Go.Proofs.YtmbikbgdbbcbmaaGreatDoor
end
section
namespace Go.Proofs.YtmbikbgdbbcbmaaGreatDoor.Lb
open Go Go.Ax Go.AxS
section
structure bY (E:Env):Prop where
 mB:E.ty 3=some { kd:=.int .i64,size:=1,bytes:=8,zero:=.int .i64 0 }
 Ee:E.ty 4=some { kd:=.bool,size:=1,bytes:=1,zero:=.bool false }
 dG:E.ty 9=some { kd:=.str,size:=1,bytes:=16,zero:=.str [] }
 iI:E.ty 23=some { kd:=.sl 51,size:=1,bytes:=24,zero:=.aF }
 uH:E.ty 84=some { kd:=.ptr 92,size:=1,bytes:=8,zero:=.fP }
 sJ:E.ty 88=some { kd:=.map 51 4,size:=1,bytes:=8,zero:=.bX }
 uG:E.ty 90=some { kd:=.jT [(0,88)],size:=1,bytes:=8,zero:=.agg [.bX] }
 Am:E.ty 92=some { kd:=.jT [(0,90)],size:=1,bytes:=8,zero:=.agg [.bX] }
 cE:E.ty 51=some { kd:=.jT [(0,4),(1,9)],size:=2,bytes:=24,zero:=.agg [.bool false,.str []] }
 Ho:E.ty 140=some { kd:=.ptr 90,size:=1,bytes:=8,zero:=.fP }
 TB:E.eqs 51=some [.bool,.str]
 Ql:E.hspec 116=some (kF 51 [154] [] 118)
 hs15:E.hspec 15=none
 R3:E.spec 15=none
 fn15:E.fn 15=some (aA Tryz.f15)
 md15:E.mode 15=.shared
 hs58:E.hspec 58=none
 sp58:E.spec 58=none
 fn58:E.fn 58=some (aA Tryz.f58)
 md58:E.mode 58=.eS
 hs57:E.hspec 57=none
 sp57:E.spec 57=none
 fn57:E.fn 57=some (aA Tryz.f57)
 md57:E.mode 57=.eS
 hs60:E.hspec 60=none
 sp60:E.spec 60=none
 fn60:E.fn 60=some (aA Tryz.f60)
 md60:E.mode 60=.shared
 aad:E.hspec 70=none
 XL:E.spec 70=none
 aa5:E.fn 70=some (aA Tryz.f70)
 Zk:E.mode 70=.shared
 hs114:E.hspec 114=none
 sp114:E.spec 114=none
 fn114:E.fn 114=some (aA Tryz.f114)
 md114:E.mode 114=.shared
 Ws:E.hspec 65=none
 Va:E.spec 65=none
 Wz:E.fn 65=some (aA Tryz.f65)
 V3:E.mode 65=.shared
 hs63:E.hspec 63=none
 sp63:E.spec 63=none
 fn63:E.fn 63=some (aA Tryz.f63)
 md63:E.mode 63=.eS
 hs64:E.hspec 64=none
 sp64:E.spec 64=none
 fn64:E.fn 64=some (aA Tryz.f64)
 md64:E.mode 64=.eS
 hs135:E.hspec 135=none
 sp135:E.spec 135=none
 fn135:E.fn 135=some (aA Tryz.f135)
 md135:E.mode 135=.eS
 hs67:E.hspec 67=none
 sp67:E.spec 67=none
 fn67:E.fn 67=some (aA Tryz.f67)
 md67:E.mode 67=.eS
 hs66:E.hspec 66=none
 sp66:E.spec 66=none
 fn66:E.fn 66=some (aA Tryz.f66)
 md66:E.mode 66=.eS
 hs118:E.hspec 118=none
 sp118:E.spec 118=none
 fn118:E.fn 118=some (aA Tryz.f118)
 md118:E.mode 118=.eS
 hs155:E.hspec 155=none
 sp155:E.spec 155=none
 fn155:E.fn 155=some (aA Tryz.f155)
 md155:E.mode 155=.eS
 hs189:E.hspec 189=none
 sp189:E.spec 189=none
 fn189:E.fn 189=some (aA Tryz.f189)
 md189:E.mode 189=.eS
 Qk:E.hspec 117=none
 OW:E.spec 117=none
 Qw:E.fn 117=some (aA Tryz.f117)
 PD:E.mode 117=.shared
 hs75:E.hspec 75=none
 sp75:E.spec 75=none
 fn75:E.fn 75=some (aA Tryz.f75)
 md75:E.mode 75=.eS
 hs16:E.hspec 16=none
 R2:E.spec 16=none
 fn16:E.fn 16=some (aA Tryz.f16)
 md16:E.mode 16=.eS
 hs43:E.hspec 43=none
 sp43:E.spec 43=none
 fn43:E.fn 43=some (aA Tryz.f43)
 md43:E.mode 43=.eS
 aaU:E.hspec 109=none
 Yt:E.spec 109=none
 abL:E.fn 109=some (aA Tryz.f109)
 ZY:E.mode 109=.eS
 hs105:E.hspec 105=none
 sp105:E.spec 105=none
 fn105:E.fn 105=some (aA Tryz.f105)
 md105:E.mode 105=.eS
 hs134:E.hspec 134=none
 sp134:E.spec 134=none
 fn134:E.fn 134=some (aA Tryz.f134)
 md134:E.mode 134=.eS
 hs133:E.hspec 133=none
 sp133:E.spec 133=none
 fn133:E.fn 133=some (aA Tryz.f133)
 md133:E.mode 133=.shared
 UE:E.hspec 102=none
 Uu:E.spec 102=none
 UG:E.fn 102=some (aA Tryz.f102)
 Uz:E.mode 102=.eS
 ab8:aM E (cutAt [1,1,1,1,0,1,2,2,1,1,0,2,1] (aA Tryz.f70).code)=true
 acd:aM E (cutAt [1,0] (aA Tryz.f63).code)=true
 d135_1:aM E (cutAt [1,0] (aA Tryz.f135).code)=true
 d75_2:aM E (cutAt [1,1,0,2,2,0,0] (aA Tryz.f75).code)=true
 d75_4:aM E (cutAt [1,1,1,0,0] (aA Tryz.f75).code)=true
 z75_6:fJ E (opsOf (cutAt [1,1,1,1,0] (aA Tryz.f75).code))=.lit
 p75_6:cH E .lit (opsOf (cutAt [1,1,1,1,0] (aA Tryz.f75).code))=some [⟨3,4,true,false⟩,⟨3,9,true,false⟩,⟨6,9,true,false⟩]
 d16_6:aM E (cutAt [1,1,0,1,2,2,1,0,2,0] (aA Tryz.f16).code)=true
 d43_4:aM E (cutAt [1,0,1,2,2,1,0,2,0] (aA Tryz.f43).code)=true
def dY (Z σ':Sg):Prop:=∀(b t:Nat) (cs:List V) (ex:Bool),Z[b]?=some (.cells t cs ex)->σ'[b]?=some (.cells t cs ex)
theorem dY.refl (Z:Sg):dY Z Z:=λ_ _ _ _ h=>h
theorem dY.trans {Z Y ρ:Sg}(h:dY Z Y) (k:dY Y ρ):dY Z ρ:=λb t cs ex e=>k b t cs ex (h b t cs ex e)
theorem jD {Z:Sg}{b:Nat}{o:O}(h:Z[b]?=some o) (Y:Sg):(Z++Y)[b]?=some o:=by
 rw[b8 (AI.1 h).1];exact h
theorem dY.app (Z Y:Sg):dY Z (Z++Y):=λ_ _ _ _ h=>jD h Y
theorem dY.Ge {Z:Sg}{m:Nat}{es es':List (V × V)}(h:Z[m]?=some (.map es)):dY Z (Z.set m (.map es')):=λb t cs ex e=>by
 by_cases hb:m=b
 ·subst hb;rw[h]at e;cases e
 ·rw[No hb];exact e
def SV (Z:Sg) (v:V) (l:List aC):Prop:=
 (v=.aF/\l=[])\/(∃g full,v=.bS g (l.map row) full)\/∃b cs ex,v=.sl b 0 l.length none/\Z[b]?=some (.cells 51 cs ex)/\cs.take (l.length*2)=l.flatMap row
def LV (v:V) (l:List aC):Prop:=(v=.aF/\l=[])\/∃g full,v=.bS g (l.map row) full
theorem LV.sv {v:V}{l:List aC}(h:LV v l) (Z:Sg):SV Z v l:=h.imp id .inl
theorem SV.keep {Z σ':Sg}{v:V}{l:List aC}(h:SV Z v l) (k:dY Z σ'):SV σ' v l:=by
 rcases h with h | h | ⟨b,cs,ex,h1,h2,h3⟩
 ·exact .inl h
 ·exact .inr (.inl h)
 ·exact .inr (.inr ⟨b,cs,ex,h1,k _ _ _ _ h2,h3⟩)
theorem qS:∀l:List aC,(l.flatMap row).length=l.length*2
 | []=>rfl
 |x::l=>by rw[j6,By,qS l,af];show 2+_=_;omega
theorem DD (l:List aC):(l.map row).flatten=l.flatMap row:=by rw[List.flatMap_def]
theorem Mf:∀(l:List aC) (i:Nat) (x:aC),l[i]?=some x->((l.flatMap row).drop (i*2)).take 2=row x
 | [],i,x,h=>by simp at h
 |y::l,0,x,h=>by cases h;rfl
 |y::l,i+1,x,h=>by
  rw[show (i+1)*2=i*2+2 by omega];show ((row y++l.flatMap row).drop (i*2+2)).take 2=_;rw[mg,<- List.drop_drop];exact Mf l i x h
theorem zN {f:V->Option V}:∀l:List V,(∀x∈l,f x=some x)->aX f l=some l
 | [],_=>rfl
 |x::l,h=>by
  rw[aX,h x (IN ..),zN l λy hy=>h y (ae _ hy)]
section
variable {E:Env}{Z:Sg}{K:V->Sg->Prop}
theorem V5 (h:bY E) {v:V}{l:List aC}(hv:SV Z v l):lenOf E Z 23 v=some l.length:=by
 unfold lenOf;rw[h.iI];rcases hv with⟨rfl,rfl⟩ | ⟨g,full,rfl⟩ | ⟨b,cs,ex,rfl,hb,hc⟩
 ·rfl
 ·simp
 ·rfl
theorem TD (h:bY E) {v:V}{l:List aC}(hv:SV Z v l) {i:Nat}{x:aC}(hx:l[i]?=some x) :
  ∃a,indexAddr E 23 v (.int .i64 (i:Int))=some a/\∀σ',dY Z σ'->loadAt E σ' 51 a=some (.agg [.bool x.1,.str x.2]):=by
 have hi:=(AI.1 hx).1;rcases hv with⟨rfl,rfl⟩ | ⟨g,full,rfl⟩ | ⟨b,cs,ex,rfl,hb,hc⟩
 ·simp at hx
 ·have hr:(l.map row)[((i:Nat):Int).toNat]?=some (row x):=by
   rw[dz,jr,hx];rfl
  refine⟨.cZ g (row x),?_,λσ' _=>?_⟩
  ·unfold indexAddr;simp only[h.iI,h.cE,hr];rw[an (by omega)];rfl
  ·unfold loadAt;simp only[h.cE];rfl
 ·refine⟨.ref b (0+i*2),?_,λσ' k=>?_⟩
  ·unfold indexAddr;simp only[h.iI,h.cE,dz];rw[an (by omega),az hi]
  ·have hlen:l.length*2<=cs.length:=by
    have:=au List.length hc;rw[bw,qS]at this;omega
   unfold loadAt;simp only[h.cE,k _ _ _ _ hb]
   have e:(cs.drop (0+i*2)).take 2=row x:=by
    have:=Mf l i x hx;rw[<- hc,List.drop_take,nq]at this;rw[show min 2 (l.length*2-i*2)=2 by omega]at this;rw[dh];exact this
   rw[show Ax.isAgg (Kd.jT [(0,4),(1,9)])=true from rfl];simp only[bf];rw[az (by omega),e];rfl
end
end
end Go.Proofs.YtmbikbgdbbcbmaaGreatDoor.Lb
end
section
namespace Go.Proofs.YtmbikbgdbbcbmaaGreatDoor
open Go Go.Ax Go.ChangeShapes Go.WideShapes Go.ChangeAt Go.RowKit
section
section
variable {H:Type}{enc:TypeId × Value->H}{W:World}{base:Nat}{v:Value}{d:DataW H}{p:List MemPlace}
theorem Ug (hv:Value.okWide Tryz.prog W .any base 3 v):∃x:Int,v=.int .i64 x/\IntKind.has .i64 x:=by
 have e2:Tryz.prog.underlying 3=some (.int .i64):=Tryz.underlying3;unfold Value.okWide Cell.okWide Cell.ok at hv;rw[e2]at hv;cases v with
 |int k n=>exact⟨n,by rw[show k=IntKind.i64 from hv.1],hv.2⟩
 |_=>exact hv.elim
theorem FH (hv:Value.okWide Tryz.prog W .any base 51 v)(h:DataW.Trod enc Tryz.prog W 0 (λ_=>true) true 51 v d p)(hw:(DataW.weights Tryz.prog 51 d).all (· <= reachBytes)=true) :
  ∃(x:Bool) (s:ByteArray),v=.agg #[.bool x,.string s]/\(Ax.bytes s).length<=9223372036854775806:=by
 obtain⟨cs,rfl⟩:∃cs,v=.agg cs:=by
  unfold Value.okWide at hv;rw[Tryz.underlying51]at hv;obtain⟨cs,h1,_⟩:=hv;exact⟨cs,h1⟩
 obtain⟨fuel,h⟩:=h;obtain⟨y0,y1,n,he,hl,u0,u1⟩:=trod_struct2 Tryz.underlying51 h;have hl':cs.toList.length=2:=hl.trans (by kernel_rfl);obtain⟨l⟩:=cs
 match l,hl' with
 | [c0,c1],_=>
  obtain⟨x,e0,_⟩:=DataW.trod_bool Tryz.underlying4 u0;obtain⟨s,e1,e1',_⟩:=DataW.trod_string Tryz.underlying9 u1;have k0:Tryz.prog.cellsOf 4=1:=by kernel_rfl
  have k1:Tryz.prog.cellsOf 9=1:=by kernel_rfl
  have f0:[c0]=[Value.bool x]:=by rw[<- e0];rw[k0];rfl
  have f1:[c1]=[Value.string s]:=by rw[<- e1];rw[k1];rfl
  cases f0;cases f1;refine⟨x,s,rfl,?_⟩;have hd:d=.agg [y0.1,y1.1]:=au Prod.fst he;rw[hd,e1']at hw;unfold DataW.weights at hw;rw[Tryz.underlying51]at hw;simp only[bh,map_nil,DataW.weightsEach,DataW.weights,kz,ai,j9,aa]at hw;rw[Ac];have:s.size=s.data.toList.length:=rfl;have e:reachBytes=140737488351232:=by decide
  omega
end
theorem He (W:World) (x:Bool) (s:ByteArray):VR (wV W) (.agg [.bool x,.str (Ax.bytes s)]) (.agg #[.bool x,.string s]):=
 .agg _ [_,_] (.cons _ _ _ _ (.inl (.bool _)) (.cons _ _ _ _ (.inl (.str _)) .nil))
end
end Go.Proofs.YtmbikbgdbbcbmaaGreatDoor
end
section
namespace Go.Proofs.YtmbikbgdbbcbmaaGreatDoor
open Go Go.Ax Go.AxS
section
section
variable {E:Env}{Z:Sg}{K:V->Sg->Prop}
theorem On (m b o n:Nat):tX (m+1) (.sl b o n none) (.sl b o n none)=true:=by
 show (decide (b=b)&&decide (o=o)&&decide (n=n))=true;simp
theorem K4 (h:bE E) {Y:Sg}{b:Nat}{ex:Bool}{rs:List (List V)}(hl:∀r∈rs,r.length=5)(hb:Y[b]?=some (.cells 82 rs.flatten ex)) {i:Nat}{r:List V}(hr:rs[i]?=some r) {k:Nat}(hk:k<5) {u:V}(hu:Ax.bD u=true) :
  storeAt E Y 24 (.ref b (i*5+k)) u=some (Y.set b (.cells 82 (rs.set i (r.set k u)).flatten ex)):=by
 have hil:=(AI.1 hr).1;have hfl:rs.flatten.length=rs.length*5:=oB rs hl;unfold storeAt;simp only[h.a_,hb];rw[jO hu,az (by simp only[af,b9,j9,l5,aP hu,mh,ai,aa];exact⟨rfl,by omega⟩),O8 hl hr hk]
theorem LY (h:bE E) {Y:Sg}{b:Nat}{ex:Bool}{rs:List (List V)}(hl:∀r∈rs,r.length=5)(hb:Y[b]?=some (.cells 82 rs.flatten ex)) {i:Nat}{r:List V}(hr:rs[i]?=some r) {k:Nat}(hk:k<5) {u:V}(hu:r[k]?=some u):loadAt E Y 24 (.ref b (i*5+k))=some u:=by
 unfold loadAt;simp only[h.a_,hb,Ax.isAgg,ah,ay];rw[qC rs hl i r hr k hk,hu]
theorem PS (h:bE E) {l:List AxS.Step}{s:AxS.Step}{nm:bC}{a' b' c' w:V}{Y:Sg}{i:Nat}(hi:l[i]?=some s) (x0:Y[2]?=some (O.cells 46 [.str nm,a',b',c',w] true)) (ow:bB gD 82 Y w l) (F:FT) (g1:F.get 2=.ref 1 0) (g3:F.get 3=.ref 2 0) (g4:F.get 4=.int .i64 (i:Int)) {st:List kH}{Q:Ax.X->Fr->Sg->Prop}
  (hk:∀F' τ',(∀k,k<44->F'.get k=F.get k)->bB gD 82 τ' w (l.set i (BX s))->Sp Y τ' w->M E st .normal ⟨86,F'⟩ τ' Q):R E (.region 6 (opsOf (cutAt [1,1,1,0,1,2,2,1,1,0,2,1] (aA Tryz.f110).code)) true) st ⟨86,F⟩ Y Q:=by
 have hil:=(AI.1 hi).1;rcases ow with⟨rfl,rfl⟩ | ⟨b,rs,ex,rfl,hb,ha⟩
 ·cases hi
 obtain⟨r,hr,hP⟩:=ha.get i s hi;obtain⟨p,q,rfl,ip,iq⟩:=hP;have hls:=Lay.lens ha;have hls:∀r∈rs,r.length=5:=hls;obtain⟨p1,e1,ip1⟩:=FA h ip 8;obtain⟨q1,e2,iq1⟩:=FA h iq 3;have lp:=bP h ip.is;have lq:=bP h iq.is;have m1:=E_ s.args.length 8;have m2:=E_ s.lits.length 3;have m1:gF false .i64 (s.args.length:Int) [.int .i64 8]=some ((min s.args.length 8:Nat):Int):=m1;have m2:gF false .i64 (s.lits.length:Int) [.int .i64 3]=some ((min s.lits.length 3:Nat):Int):=m2
 have ix:indexAddr E 44 (.sl b 0 l.length none) (.int .i64 (i:Int))=some (.ref b (i*5)):=by
  have hneg:¬ ((i:Int)<0):=by omega
  unfold indexAddr;simp only[hneg,ay,h.fS,h.dB,dz,hil,bf,dh]
 have d1:=LY h hls hb hr (k:=2) (by omega) (u:=p) rfl;have d2:=LY h hls hb hr (k:=3) (by omega) (u:=q) rfl;have s1:=K4 h hls hb hr (k:=2) (by omega) (u:=p1) ip1.is.bD;have hbl:=(AI.1 hb).1;have hrl:=(AI.1 hr).1;have hr1:(rs.set i [.str s.out,.int .i64 s.op,p1,q,.int .i64 s.n])[i]?=some [.str s.out,.int .i64 s.op,p1,q,.int .i64 s.n]:=bt hrl;have ha1:eJ gD.P (rs.set i [.str s.out,.int .i64 s.op,p1,q,.int .i64 s.n]) (l.set i { s with args:=s.args.take 8 }):=ha.set (y:={ s with args:=s.args.take 8 }) ⟨p1,q,rfl,ip1,iq⟩ i;have hls1:∀r∈rs.set i [.str s.out,.int .i64 s.op,p1,q,.int .i64 s.n],r.length=5:=Lay.lens ha1;have s1:storeAt E Y 24 (.ref b (i*5+2)) p1=some (Y.set b (.cells 82 (rs.set i [.str s.out,.int .i64 s.op,p1,q,.int .i64 s.n]).flatten ex)):=s1;have hb1:(Y.set b (.cells 82 (rs.set i [.str s.out,.int .i64 s.op,p1,q,.int .i64 s.n]).flatten ex))[b]?=some (.cells 82 (rs.set i [.str s.out,.int .i64 s.op,p1,q,.int .i64 s.n]).flatten ex):=wA hb;have s2:=K4 h hls1 hb1 hr1 (k:=3) (by omega) (u:=q1) iq1.is.bD;have hb2:b≠2:=λe=>by subst e;rw[hb]at x0;cases x0
 have x1:(Y.set b (.cells 82 (rs.set i [.str s.out,.int .i64 s.op,p1,q,.int .i64 s.n]).flatten ex))[2]?=some (O.cells 46 [.str nm,a',b',c',.sl b 0 l.length none] true):=qX x0 hb2
 have ldx:∀Y:Sg,Y[2]?=some (O.cells 46 [.str nm,a',b',c',.sl b 0 l.length none] true)->loadAt E Y 44 (.ref 2 4)=some (.sl b 0 l.length none):=λY hx=>by
  unfold loadAt;simp only[h.fS,hx,Ax.isAgg,ah,ay];rfl
 have w0:=ldx _ x0;have w1:=ldx _ x1;have v1:=On 11 b 0 l.length;have v2:=λk i=>KY 11 k i;have v3:=cK 10 iq1.is;generalize hτ1:Y.set b (.cells 82 (rs.set i [.str s.out,.int .i64 s.op,p1,q,.int .i64 s.n]).flatten ex)=τ1 at *
 have key:∃F',cO E (ev E 0) (opsOf (cutAt [1,1,1,0,1,2,2,1,1,0,2,1] (aA Tryz.f110).code)) ⟨86,F⟩ Y=some (⟨86,F'⟩,τ1.set b (.cells 82 ((rs.set i [.str s.out,.int .i64 s.op,p1,q,.int .i64 s.n]).set i ([V.str s.out,.int .i64 s.op,p1,q,.int .i64 s.n].set 3 q1)).flatten ex))/\∀k,k<44->F'.get k=F.get k:=by
  unfold cO;rw[h.UT,h.VQ];simp only[aA,Tryz.f110,KP,↓reduceIte,reduceEqDiff,reduceLT,reduceAdd,reduceCtorEq,h.a_,h.fS,h.bM,h.dB,opsOf,cutAt,iL,bL,cA,kY,Ax.comp,Ax.last,iN,Ax.again,aS,g3,g4,w0,w1,ix,d1,d2,lp,lq,m1,m2,e1,e2,s1,s2,v1,v2,v3];refine⟨_,rfl,λk hk=>?_⟩;simp only[FT.cI]
  repeat rw[an (by omega)]
 obtain⟨F',hE,hF⟩:=key;refine Eq.mpr (i_ hE) (hk F' _ hF ?_ ?_)
 ·have hn:(l.set i (BX s)).length=l.length:=ec;refine .inr ⟨b,_,ex,by rw[hn],wA hb1,?_⟩;rw[List.set_set];exact ha.set (y:=BX s) ⟨p1,q1,rfl,ip1,iq1⟩ i
 ·intro c o e hne;have hcb:b≠c:=λe2=>hne (by rw[e2];rfl);rw[<- hτ1,List.set_set,No hcb];exact e
theorem Gr {l:List AxS.Step}{i:Nat}{s:AxS.Step}(hi:l[i]?=some s):((l.take i).map BX++l.drop i).set i (BX s)=(l.take (i+1)).map BX++l.drop (i+1):=by
 have hil:=(AI.1 hi).1;have h1:((l.take i).map BX).length=i:=by rw[bj,bw];omega
 rw[o6 _ _ (by omega),h1,jl,o9 hil,l6,ek,hi];simp
theorem N0 (h:bE E) {v:V}{x:aD}(hv:Jd v x)(hx:Raw x):aB E 110 [v] Z λv' σ'=>σ'=Z/\∃a b c d,v'=.agg [.str x.name,a,b,c,d]/\kI aO a (cut x).ins/\kI aO b (cut x).outs/\kI aO c (cut x).after/\kI gD d (cut x).steps:=by
 have ev:=hv.snap (E:=E) Z;obtain⟨a,b,c,d,rfl,ia,ib,ic,id⟩:=hv;rw[aI h.aaT h.Ys h.abK h.ZX (args':=[.agg [.str x.name,a,b,c,d]]) (by simp only[aX,ev]),aW (by kernel_rfl)];have ha:=aP ia.bD;have hb:=aP ib.bD;have hc:=aP ic.bD;have hd:=aP id.bD;simp only[aA,Tryz.f110,KP,↓reduceIte,reduceLT,reduceAdd,h.bM,ha,hb,hc,hd];refine PT h ia ib ic id _ ?_ ?_ ?_
 ·exact (by simp +decide only[GS])
 ·exact (by simp +decide only[GS])
 intro F1 a1 b1 c1 d1 g1 g2 g3 i1 i2 i3 i4;simp only[KP,Ax.loadAt,↓reduceIte,reduceLT,reduceAdd,h.bM,g3];refine aN (Xf h (x:=rX x) ⟨a1,b1,c1,d1,rfl,i1,i2,i3,i4⟩ hx.mid) ?_;rintro v1 Y ⟨⟨a2,b2,c2,w,rfl,j1,j2,j3,ow,hw⟩,kp⟩;have o1:=aP j1.is.bD;have o2:=aP j2.is.bD;have o3:=aP j3.is.bD;obtain⟨hc1,hc2⟩:=rK ow;have z0:Y[1]?=some (O.cells 46 [.str [],.aF,.aF,.aF,.aF] true):=kp 1 _ rfl;have x0:=kp 2 _ (show ([O.cells 46 [.str x.name,a,b,c,d] true,O.cells 46 [.str [],.aF,.aF,.aF,.aF] true,O.cells 46 [.str x.name,a1,b1,c1,d1] true]:Sg)[2]?=_ from rfl);have hw3:∀k,aQ w=some k->3<=k:=hw;have x1:=wA (x:=O.cells 46 [.str x.name,a2,b2,c2,w] true) x0;have z1:=qX (x:=O.cells 46 [.str x.name,a2,b2,c2,w] true) z0 (show (2:Nat)≠1 by omega);have ow1:bB gD 82 (Y.set 2 (O.cells 46 [.str x.name,a2,b2,c2,w] true)) w (rX x).steps:=ow.keep λk o hk ho=>qX ho (λe=>by have:=hw3 k hk;omega);have nm0:(rX x).name=x.name:=rfl;have lw:∀l:List AxS.Step,l.length=(rX x).steps.length->∀Z,bB gD 82 Z w l->lenOf E Z 44 w=some (rX x).steps.length:=λl hl Z o=>by rw[<- hl];exact nD h.fS rfl o.ls
 have lw1:=lw _ rfl _ ow1;simp only[KP,Ax.loadAt,Ax.storeAt,↓reduceIte,reduceEqDiff,reduceLT,reduceAdd,reduceCtorEq,h.fS,h.bM,g3,nm0,x0,x1,lw1,o1,o2,o3,hc2];generalize Y.set 2 (O.cells 46 [.str x.name,a2,b2,c2,w] true)=Y at *;refine aV (λi F Y=>Y[1]?=some (O.cells 46 [.str [],.aF,.aF,.aF,.aF] true)/\Y[2]?=some (O.cells 46 [.str x.name,a2,b2,c2,w] true)/\bB gD 82 Y w (((rX x).steps.take i).map BX++(rX x).steps.drop i)/\F.get 2=.ref 1 0/\F.get 3=.ref 2 0/\F.get 40=.int .i64 ((rX x).steps.length:Int)/\F.get 41=.int .i64 (i:Int)) (rX x).steps.length ?_ ?_ (rX x).steps.length 0 _ _ (by omega) ⟨z1,x1,by simpa using ow1,(by simp +decide only[GS,g2,g3,aj])⟩
 ·rintro i F Y hi ⟨z0,x0,ow,g2,g3,g40,g41⟩ next
  obtain⟨s,hst⟩:∃y,(rX x).steps[i]?=some y:=⟨_,AT hi⟩;have hlt:=dP hi;have hsz:(rX x).steps.length<=14:=by show (x.steps.take 14).length<=14;rw[bw];omega
  have hadd:=bW i (by omega)
  have hli:(((rX x).steps.take i).map BX++(rX x).steps.drop i)[i]?=some s:=by
   rw[br (by rw[bj,bw];omega),bj,bw,show i-min i (rX x).steps.length=0 by omega,mc,lg,hst]
  rw[aG];simp only[KP,↓reduceIte,reduceEqDiff,reduceLT,g40,g41,hlt];refine PS h hli x0 ow _ ?_ ?_ ?_ ?_
  ·exact (by simp +decide only[GS,g2])
  ·exact (by simp +decide only[GS,g3])
  ·exact (by simp +decide only[GS])
  intro F2 τ2 hF ow2 sp;have k2:F2.get 2=.ref 1 0:=by rw[hF 2 (by omega)];exact (by simp +decide only[GS,g2])
  have k3:F2.get 3=.ref 2 0:=by rw[hF 3 (by omega)];exact (by simp +decide only[GS,g3])
  have k40:F2.get 40=.int .i64 ((rX x).steps.length:Int):=by rw[hF 40 (by omega)];exact (by simp +decide only[GS,g40])
  have k41:F2.get 41=.int .i64 (i:Int):=by rw[hF 41 (by omega)];exact (by simp +decide only[GS,g41])
  simp only[KP,↓reduceIte,reduceLT,k41,hadd];rw[Gr hst]at ow2;exact next _ _ ⟨sp _ _ z0 (uW z0 (by decide) ow),sp _ _ x0 (uW x0 (by decide) ow),ow2,(by simp +decide only[GS,k2,k3,k40,aj])⟩
 ·rintro F Y ⟨z0,x0,ow,g2,g3,g40,g41⟩;have hlt:=dZ (bl (rX x).steps.length);rw[ak (OF _),nf (OF _),ig]at ow;have hne:=uW z0 (show 46≠82 by decide) ow;have zz:=wA (x:=O.cells 46 [.str x.name,a2,b2,c2,w] true) z0;have ow3:bB gD 82 (Y.set 1 (O.cells 46 [.str x.name,a2,b2,c2,w] true)) w ((rX x).steps.map BX):=ow.keep λk o hk ho=>qX ho (λe=>by rw[<- e]at hk;exact hne hk);rw[aG];simp only[KP,Ax.loadAt,Ax.storeAt,↓reduceIte,reduceEqDiff,reduceLT,reduceAdd,h.bM,g2,g3,g40,g41,hlt,x0,z0,zz,o1,o2,o3,hc2];generalize Y.set 1 (O.cells 46 [.str x.name,a2,b2,c2,w] true)=Y at *;obtain⟨d',e1,id'⟩:=pJ h.dB rfl JD ow3
  have one:∀{u:V},Ax.bD u=true->cL false u=true->aU.one Y E.ty false u=some u:=λ{u} h1 h2=>by
   have h3:=cJ (Z:=Y) (ty:=E.ty) (g:=false) h1 h2;cases u <;> first | exact h3 | cases h1
  have oned:aU.one Y E.ty false w=some d':=by
   rcases ow3 with⟨rfl,-⟩ | ⟨b,rs,ex,rfl,-⟩
   ·exact e1
   ·exact e1
  have hsn:cG Y E.ty false (.agg [.str x.name,a2,b2,c2,w])=some (.agg [.str x.name,a2,b2,c2,d']):=by
   show (match aX (aU.one Y E.ty false) [.str x.name,a2,b2,c2,w] with
    |some l=>some (V.agg l)
    |none=>none)=_
   simp only[aX,one (u:=.str x.name) rfl rfl,one j1.is.bD j1.tag,one j2.is.bD j2.tag,one j3.is.bD j3.tag,oned]
  rw[hsn];exact⟨a2,b2,c2,d',rfl,j1,j2,j3,id'⟩
end
end
section
section
variable {E:Env}{Z:Sg}{K:V->Sg->Prop}
def m_:Lay aD:=⟨λr x=>∃a b c d,r=[.str x.name,a,b,c,d]/\kI aO a x.ins/\kI aO b x.outs/\kI aO c x.after/\kI gD d x.steps,5,λ_ _ ⟨_,_,_,_,h,_⟩=>by rw[h];rfl,λ_ _ ⟨a,b,c,d,h,h1,h2,h3,h4⟩ k hk=>by
 rw[h]at hk;simp only[IT,cr,fu]at hk;rcases hk with rfl | rfl | rfl | rfl | rfl
 ·rfl
 ·exact h1.is.bD
 ·exact h2.is.bD
 ·exact h3.is.bD
 ·exact h4.is.bD⟩
theorem CS:∀r x,m_.P r x->∀k∈r,cL false k=true:=λr x ⟨a,b,c,d,h,h1,h2,h3,h4⟩ k hk=>by
 rw[h]at hk;simp only[IT,cr,fu]at hk;rcases hk with rfl | rfl | rfl | rfl | rfl
 ·rfl
 ·exact h1.tag
 ·exact h2.tag
 ·exact h3.tag
 ·exact h4.tag
theorem qR {α:Type}{L M:Lay α}{v:V}{l:List α}(h:IS L v l) (k:∀r x,L.P r x->M.P r x):IS M v l:=h.imp id λ⟨g,rs,full,e,ha⟩=>⟨g,rs,full,e,ha.imp k⟩
theorem Sy {α:Type}{L M:Lay α}{t:Nat}{Z:Sg}{v:V}{l:List α}(h:LS L t Z v l)(hn:L.n=M.n) (k:∀r x,L.P r x->M.P r x):LS M t Z v l:=h.imp (λh=>qR h k) λ⟨b,cs,ex,rs,e,hb,ha,hc⟩=>⟨b,cs,ex,rs,e,hb,ha.imp k,by rw[<- hn];exact hc⟩
theorem sK:∀r x,gD.P r x->eZ.P r x:=λr x ⟨a,l,h,h1,h2⟩=>⟨a,l,h,h1.is,h2.is⟩
theorem sP:∀r x,m_.P r x->dN.P r x:=λr x ⟨a,b,c,d,h,h1,h2,h3,h4⟩=>⟨a,b,c,d,h,h1.is,h2.is,h3.is,qR h4.is sK⟩
theorem I6 (h:bE E) {Y:Sg}{w a b c d:V}{l:List aD}{r:aD}{ex:Bool} (ow:bB m_ 46 Y w l)(h1:kI aO a r.ins)(h2:kI aO b r.outs)(h3:kI aO c r.after)(h4:kI gD d r.steps)(hb:l.length<=1000) :
  ∃w' τ',Ax.append E (Y++[.cells 46 [.str r.name,a,b,c,d] ex]) #[22,22] w (.sl Y.length 0 1 none)=some (w',τ')/\bB m_ 46 τ' w' (l++[r])/\Sp (Y++[.cells 46 [.str r.name,a,b,c,d] ex]) τ' w/\Y.length<=τ'.length:=by
 obtain⟨w',τ',q1,q2,q3,q4,-⟩:=kP (m:=[r]) (new:=[[.str r.name,a,b,c,d]]) h.BN rfl h.bM rfl (by decide) (uV h) rfl (ow.app [.cells 46 [.str r.name,a,b,c,d] ex]) (lW rfl) (.one ⟨a,b,c,d,rfl,h1,h2,h3,h4⟩) (dQ (b:=1001) (by decide) (by simp only[af,b9];omega));exact⟨w',τ',q1,q2,q3,by simp only[By,af,b9]at q4;omega⟩
theorem KB (h:bE E) {a:V}{rs:List aD}(ha:LS dN 46 Z a rs)(hr:∀x∈rs,Raw x):aB E 45 [a] Z λv σ'=>σ'=Z/\kI m_ v ((rs.take 42).map cut):=by
 obtain⟨a',ea,ia⟩:=fE h ha;rw[aI h.hs45 h.sp45 h.fn45 h.md45 (args':=[a']) (by simp only[aX,ea]),aW (by kernel_rfl)];have la:=dA h ia;simp only[aA,Tryz.f45,KP,↓reduceIte,reduceLT];refine aV (λi F Y=>F.get 0=a'/\F.get 4=.int .i64 (i:Int)/\∃w,F.get 3=w/\bB m_ 46 Y w ((rs.take i).map cut)) (min rs.length 42) ?_ ?_ (min rs.length 42) 0 _ _ (by omega) (lX (by simp +decide only[GS,aj]) ⟨.aF,(by simp +decide only[GS]),.inl ⟨rfl,rfl⟩⟩)
 ·rintro i F Y hi ⟨g0,g4,w,g3,ow⟩ next
  obtain⟨r,hri⟩:∃y,rs[i]?=some y:=⟨_,AT (by omega)⟩;have hraw:=hr r (ag hri);obtain⟨g,p1,p2,p3,p4,e1,i1,i2,i3,i4⟩:=fL h ia hri;have hlt:=dP (show i<rs.length by omega);have hlt2:decide ((i:Int)<42)=true:=BY (by omega);have hadd:=bW i (by omega);rw[aG];simp only[KP,Ax.loadAt,↓reduceIte,reduceEqDiff,reduceLT,reduceAdd,reduceCtorEq,h.bM,g0,g3,g4,la,hlt,hlt2,e1];refine aN (N0 h (Pe i1 i2 i3 i4) hraw) ?_;rintro v σ' ⟨rfl,a1,b1,c1,d1,rfl,j1,j2,j3,j4⟩;have o1:=aP j1.is.bD;have o2:=aP j2.is.bD;have o3:=aP j3.is.bD;have o4:=aP j4.is.bD;have hnm:r.name=(cut r).name:=rfl;obtain⟨w',τ',ha2,ow2,-,-⟩:=I6 (r:=cut r) (ex:=true) h ow j1 j2 j3 j4 (by rw[bj,bw];omega);rw[<- hnm]at ha2;simp only[KP,↓reduceIte,reduceEqDiff,reduceLT,reduceLeDiff,reduceAdd,reduceMul,h.BN,h.bM,g4,ha2,hadd,o1,o2,o3,o4,Ax.fill,gX,iz];refine next _ _ (lX (by simp +decide only[GS,g0,aj]) ⟨w',(by simp +decide only[GS]),?_⟩)
  have e:(rs.take (i+1)).map cut=(rs.take i).map cut++[cut r]:=by rw[ek,hri];simp
  rw[e];exact ow2
 ·rintro F Y ⟨g0,g4,w,g3,ow⟩;obtain⟨v',e1,iv⟩:=pJ h.bM rfl CS ow;have ht:rs.take (min rs.length 42)=rs.take 42:=yM rs 42;rw[ht]at iv;rw[aG];by_cases hlen:rs.length<=42
  ·have hm:min rs.length 42=rs.length:=ju hlen;rw[hm]at g4;have hlt:=dZ (bl rs.length);simp only[KP,↓reduceIte,reduceEqDiff,reduceLT,reduceCtorEq,g0,g3,g4,la,hlt,e1];exact iv
  ·have hm:min rs.length 42=42:=Nat.min_eq_right (by omega);rw[hm]at g4;have hlt:decide (((42:Nat):Int)<(rs.length:Int))=true:=BY (by omega);have hlt2:decide (((42:Nat):Int)<42)=false:=rfl;simp only[KP,↓reduceIte,reduceEqDiff,reduceLT,reduceCtorEq,g0,g3,g4,la,hlt,hlt2,e1];exact iv
end
end
section
section
variable {E:Env}{Z:Sg}{K:V->Sg->Prop}
theorem Tm (h:bE E) {Y:Sg}{w a b c d:V}{l:List aD}{r:aD}{y:Nat} (ow:bB m_ 46 Y w l)(hy:Y[y]?=some (.cells 46 [.str r.name,a,b,c,d] true)) (j1:kI aO a r.ins) (j2:kI aO b r.outs) (j3:kI aO c r.after) (j4:kI gD d r.steps)(hs:∀x∈l++[r],Small x)(hl:l.length<=14)
  (F:FT) (g3:F.get 3=w) (g5:F.get 5=.ref y 0) {st:List kH}{Q:Ax.X->Fr->Sg->Prop}
  (hk:∀F' τ' e,(∀k,k∈[0,3,5,9,10,11]->F'.get k=F.get k)->F'.get 6=.int .i64 e->Ji (l++[r]) e->(∀(k:Nat) (o:O),Y[k]?=some o->τ'[k]?=some o)->M E st .normal ⟨37,F'⟩ τ' Q):R E (.region 5 (opsOf (cutAt [1,1,0,1,2,2,1,1,0,2,1,0] (aA Tryz.f12).code)) true) st ⟨37,F⟩ Y Q:=by
 obtain⟨rs,ee,hee⟩:=Qy (t:=46) (Z:=Y) ow.ls;obtain⟨w1,τ1,ha1,ow1,Xp,-,fb⟩:=kP (ats:=#[22,22]) (Z:=Y) (w:=.aF) (l:=[]) (L:=m_) (x:=w) (m:=l) h.BN rfl h.bM rfl (by decide) (uV h) rfl (.inl ⟨rfl,rfl⟩) ee hee (dQ (b:=1000) (by decide) (by simp only[b9];omega));obtain⟨w2,τ2,ha2,ow2,Us,-,-⟩:=kP (ats:=#[22,22]) (Z:=τ1) (x:=.bS false [[.str r.name,a,b,c,d]] true) (m:=[r]) (new:=[[.str r.name,a,b,c,d]]) h.BN rfl h.bM rfl (by decide) (uV h) rfl ow1 rfl (.one ⟨a,b,c,d,rfl,j1,j2,j3,j4⟩) (dQ (b:=1000) (by decide) (by simp only[cz,af,b9];omega));rw[cz]at ow2;have hy1:τ1[y]?=some (.cells 46 [.str r.name,a,b,c,d] true):=Xp _ _ hy (by intro e;cases e);have hall:=QN (Z:=τ2) h (Sy ow2.ls rfl sP) ⟨by simp only[By,af,b9];omega,hs⟩;obtain⟨n,v,σ',hcall,hσ,e,nm,rfl,hE⟩:=hall;rw[hσ]at hcall;clear hσ σ';have o1:=aP j1.is.bD;have o2:=aP j2.is.bD;have o3:=aP j3.is.bD;have o4:=aP j4.is.bD;have t1:=j1.tag;have t2:=j2.tag;have t3:=j3.tag;have t4:=j4.tag;have ts:cL false (.str r.name)=true:=rfl;have v1:=cK 10 j1.is;have v2:=cK 10 j2.is;have v3:=cK 10 j3.is;have v4:=pD 9 (qR j4.is sK);have vs:=Be 10 r.name
 have va:tX 12 (.agg [.str r.name,a,b,c,d]) (.agg [.str r.name,a,b,c,d])=true:=qI λx hx=>by
  simp only[IT,cr,fu]at hx;rcases hx with rfl | rfl | rfl | rfl | rfl
  ·exact vs
  ·exact cK 9 j1.is
  ·exact cK 9 j2.is
  ·exact cK 9 j3.is
  ·exact pD 8 (qR j4.is sK)
 have key:∃F',cO E (ev E n) (opsOf (cutAt [1,1,0,1,2,2,1,1,0,2,1,0] (aA Tryz.f12).code)) ⟨37,F⟩ Y=some (⟨37,F'⟩,τ2)/\(∀k,k∈[0,3,5,9,10,11]->F'.get k=F.get k)/\F'.get 6=.int .i64 e:=by
  unfold cO;rw[h.XC,h.Ze];simp only[aA,Tryz.f12,KP,Ax.loadAt,↓reduceIte,reduceEqDiff,reduceLT,reduceLeDiff,reduceAdd,reduceMul,h.BN,h.bM,opsOf,cutAt,Fz.lits,Fz.apps,iL,bL,cA,kY,Ax.comp,Ax.last,iN,Ax.again,Dg,Ax.fill,gX,Ax.rows,iz,g3,g5,hy,hy1,ha1,ha2,hcall,o1,o2,o3,o4,t1,t2,t3,t4,ts,va];refine⟨_,rfl,λk hk=>?_,(by simp +decide only[GS])⟩;simp only[IT,cr,fu]at hk;rcases hk with rfl | rfl | rfl | rfl | rfl | rfl <;> simp +decide only[GS]
 obtain⟨F',hD,h1,h2⟩:=key;refine Eq.mpr (i_ hD) (hk F' τ2 e h1 h2 hE λk o ho=>?_);have h1':=Xp _ _ ho (by intro e;cases e);refine Us _ _ h1' λe=>?_;rcases fb _ e with hb | hb
 ·cases hb
 ·exact absurd (AI.mp ho).1 (by omega)
theorem Rh (h:bE E) {v:V}{l:List aD} (ia:IS m_ v l) {i:Nat}{x:aD}(hx:l[i]?=some x):∃g a b c d,indexAddr E 22 v (.int .i64 (i:Int))=some (.cZ g [.str x.name,a,b,c,d])/\kI aO a x.ins/\kI aO b x.outs/\kI aO c x.after/\kI gD d x.steps:=by
 obtain⟨g,r,e,a,b,c,d,hr,h1⟩:=IS.at h.BN rfl h.bM rfl ia hx;exact⟨g,a,b,c,d,by rw[e,hr],h1⟩
theorem HJ:nV []:=⟨rfl,λ⟨i,hi,_⟩=>absurd hi (by simp)⟩
theorem Q7 (h:bE E) {a:V}{rs:List aD}(ha:LS dN 46 Z a rs)(hr:∀x∈rs,Raw x):aB E 12 [a] Z λv σ'=>σ'=Z/\∃l,kI m_ v l/\nV l/\l.length<=14/\∀x∈l,Small x:=by
 obtain⟨a',ea,ia⟩:=fE h ha;rw[aI h.hs12 h.OV h.fn12 h.md12 (args':=[a']) (by simp only[aX,ea]),aW (by kernel_rfl)];simp only[aA,Tryz.f12,KP,↓reduceIte,reduceLT,reduceCtorEq];refine aN (KB h (ia.ls [] 46) hr) ?_;rintro v σ' ⟨rfl,iv⟩
 have sm:∀x∈(rs.take 42).map cut,Small x:=λx hx=>by
  obtain⟨y,-,rfl⟩:=cv.1 hx;exact NI y
 have hl42:((rs.take 42).map cut).length<=42:=by rw[bj,bw];omega
 generalize (rs.take 42).map cut=ls at iv sm hl42;have la:=dA h (qR iv.is sP);simp only[KP,↓reduceIte,reduceLT,la];refine aV (λi F Y=>F.get 9=v/\F.get 10=.int .i64 (ls.length:Int)/\F.get 11=.int .i64 (i:Int)/\∃w l,F.get 3=w/\bB m_ 46 Y w l/\nV l/\l.length<=14/\∀x∈l,Small x) ls.length ?_ ?_ ls.length 0 _ _ (by omega) (iU (by simp +decide only[GS,aj]) ⟨.aF,[],(by simp +decide only[GS]),.inl ⟨rfl,rfl⟩,HJ,by simp,λx hx=>by cases hx⟩)
 ·rintro i F Y hi ⟨g9,g10,g11,w,l,g3,ow,hok,hlen,hsm⟩ next
  obtain⟨r,hri⟩:∃y,ls[i]?=some y:=⟨_,AT (by omega)⟩;have hrs:=sm r (ag hri);obtain⟨g,p1,p2,p3,p4,e1,i1,i2,i3,i4⟩:=Rh h iv.is hri;have hlt:=dP hi;have hadd:=bW i (by omega);rw[aG];have o1:=aP i1.is.bD;have o2:=aP i2.is.bD;have o3:=aP i3.is.bD;have o4:=aP i4.is.bD;simp only[KP,Ax.loadAt,Ax.storeAt,↓reduceIte,reduceEqDiff,reduceLT,reduceAdd,h.bM,g9,g10,g11,hlt,e1,o1,o2,o3,o4,aL,bR];refine Tm h (ow.app _) (y:=Y.length) ?_ i1 i2 i3 i4 ?_ hlen _ ?_ ?_ ?_
  ·simp
  ·intro x hx;rcases cq.1 hx with hx | hx
   ·exact hsm x hx
   ·rw[cn.1 hx];exact hrs
  ·exact (by simp +decide only[GS,g3])
  ·exact (by simp +decide only[GS])
  intro F' τ' e hF h6 hE hT;have q3:F'.get 3=w:=(hF 3 (by simp)).trans (show _=w by simp only[FT.cI,reduceEqDiff,↓reduceIte,g3]);have q5:F'.get 5=.ref Y.length 0:=(hF 5 (by simp)).trans (by simp +decide only[GS]);have q9:F'.get 9=v:=(hF 9 (by simp)).trans (by simp +decide only[GS,g9]);have G4:F'.get 10=.int .i64 (ls.length:Int):=(hF 10 (by simp)).trans (by simp +decide only[GS,g10]);have Jm:F'.get 11=.int .i64 (i:Int):=(hF 11 (by simp)).trans (by simp +decide only[GS,g11]);have ow':bB m_ 46 τ' w l:=(ow.app [O.cells 46 [.str r.name,p1,p2,p3,p4] true]).keep λc o _ hc=>hT c o hc;have hy:τ'[Y.length]?=some (O.cells 46 [.str r.name,p1,p2,p3,p4] true):=hT _ _ (by simp);have lw:=nD h.BN rfl ow'.ls;have hz:=hE.zero;by_cases he:e=0
  ·have c1:decide (e=0)=true:=BY he;by_cases h14:l.length<14
   ·have c2:decide ((l.length:Int)<14)=true:=BY (by omega);obtain⟨w2,τ2,ha2,ow2,-,-⟩:=I6 (ex:=true) h ow' i1 i2 i3 i4 (by omega);simp only[KP,Ax.loadAt,↓reduceIte,reduceEqDiff,reduceLT,reduceLeDiff,reduceAdd,reduceMul,h.BN,h.bM,q3,q5,Jm,h6,lw,c1,c2,hy,hadd,ha2,o1,o2,o3,o4,Ax.fill,gX,iz];refine next _ _ (iU (by simp +decide only[GS,q9,G4,aj]) ⟨w2,l++[r],(by simp +decide only[GS]),ow2,hz.1 he,?_,?_⟩)
    ·rw[By,dm];omega
    ·intro x hx;rcases cq.1 hx with hx | hx
     ·exact hsm x hx
     ·rw[cn.1 hx];exact hrs
   ·have c2:decide ((l.length:Int)<14)=false:=AS (by omega);simp only[KP,↓reduceIte,reduceEqDiff,reduceLT,q3,Jm,h6,lw,c1,c2,hadd];exact next _ _ (iU (by simp +decide only[GS,q9,G4,aj]) ⟨w,l,(by simp +decide only[GS,q3]),ow',hok,hlen,hsm⟩)
  ·have c1:decide (e=0)=false:=AS he;simp only[KP,↓reduceIte,reduceEqDiff,reduceLT,Jm,h6,c1,hadd];exact next _ _ (iU (by simp +decide only[GS,q9,G4,aj]) ⟨w,l,(by simp +decide only[GS,q3]),ow',hok,hlen,hsm⟩)
 ·rintro F Y ⟨g9,g10,g11,w,l,g3,ow,hok,hlen,hsm⟩;obtain⟨v',e1,iv⟩:=pJ h.bM rfl CS ow;have hlt:=dZ (bl ls.length);rw[aG];simp only[KP,↓reduceIte,reduceEqDiff,reduceLT,g3,g10,g11,hlt,e1];exact⟨l,iv,hok,hlen,hsm⟩
end
end
section
section
variable {E:Env}{Z:Sg}{K:V->Sg->Prop}
theorem sM {k:Nat}{caps:List V}(hc:∀c∈caps,Ax.bD c=true) (Z:Sg):aU Z E.ty true (.fn k [] caps)=some (.fn k [] caps):=by
 have e:aX (aU.one Z E.ty true) caps=some caps:=f_ λc hx=>by
  have:=cJ (Z:=Z) (ty:=E.ty) (g:=true) (hc c hx) (bV (hc c hx));have h2:=hc c hx;cases c <;> first | exact this | cases h2
 simp only[aU,e,aX]
theorem Ua (h:bE E) {a:V}{l:List bC}{k:Nat}{caps:List V}{P:bC->Bool}(ha:LS aO 9 Z a l)(hsm:l.length<=4294967296)(hc:∀c∈caps,Ax.bD c=true)(hP:∀(y:bC) (v:V),y∈l->v=.str y->aB E k ([v]++caps) [] λu Y=>Y=[]/\u=.bool (P y)) {fv:V} (ef:aU Z E.ty true fv=some (.fn k [] caps)):aB E 80 [a,fv] Z K=K (.int .i64 (idx (bQ P l))) Z:=by
 refine aB.of ?_;obtain⟨a',ea,ia⟩:=kK h ha;rw[aI h.hs80 h.sp80 h.fn80 h.md80 (args':=[a',.fn k [] caps]) (by simp only[aX,ea,ef]),aW (by kernel_rfl)];have la:=bP h ia;simp only[aA,Tryz.f80,KP,↓reduceIte,reduceLT,reduceAdd,reduceCtorEq,reduceNeg,la];refine aV (λi F Y=>Y=[]/\F.get 0=a'/\F.get 1=.fn k [] caps/\F.get 8=.int .i64 (i:Int)/\F.get 7=.int .i64 (l.length:Int)/\∀j y,j<i->l[j]?=some y->P y=false) l.length ?_ ?_ l.length 0 _ _ (by omega) ⟨rfl,(fK (by simp +decide only[GS,aj]) (λj y hj=>by omega))⟩
 ·rintro i F Y hi ⟨rfl,g0,g1,g8,g7,hp⟩ next
  obtain⟨x,hx⟩:∃x,l[i]?=some x:=⟨_,AT hi⟩;obtain⟨g,e1⟩:=gP h ia hx;have hv:V.str x=.str x:=rfl;have hlt:=dP hi;have hadd:=bW i (by omega);rw[aG];simp only[KP,Ax.loadAt,↓reduceIte,reduceEqDiff,reduceLT,reduceCtorEq,reduceNeg,h.dG,g0,g1,g7,g8,hlt,e1];refine aN (hP x _ (ag hx) hv) ?_;rintro u Y ⟨rfl,rfl⟩;by_cases hxs:P x=true
  ·simp only[KP,↓reduceIte,reduceEqDiff,reduceLT,reduceNeg,hxs];rw[fU (i:=i) (x:=x) hp hx hxs];exact rfl
  ·have hxs:P x=false:=by simpa using hxs
   simp only[KP,↓reduceIte,reduceEqDiff,reduceLT,reduceNeg,g8,hxs,hadd];refine next _ _ ⟨rfl,(fK (by simp +decide only[GS,g0,g1,g7,aj]) (λj y hj hy=>?_))⟩
   rcases cj j i with g | g
   ·exact hp j y g hy
   ·obtain rfl:j=i:=by omega
    rw[hx]at hy;cases hy;exact hxs
 ·rintro F Y ⟨rfl,g0,g1,g8,g7,hp⟩;have hlt:=dZ (bl l.length);rw[aG];simp only[KP,↓reduceIte,reduceLT,reduceNeg,g7,g8,hlt]
  rw[fV λx hx=>by
   obtain⟨j,hj,e⟩:=fm hx;exact hp j x hj (by rw[AT hj,e])]
  exact rfl
theorem Xc (h:bE E) {a:V}{l:List bC}{k:Nat}{caps:List V}{P:bC->Bool}(ha:LS aO 9 Z a l)(hsm:l.length<=4294967296)(hc:∀c∈caps,Ax.bD c=true)(hP:∀(y:bC) (v:V),y∈l->v=.str y->aB E k ([v]++caps) [] λu Y=>Y=[]/\u=.bool (P y)):aB E 80 [a,.fn k [] caps] Z K=K (.int .i64 (idx (bQ P l))) Z:=Ua h ha hsm hc hP (sM hc Z)
theorem rZ (h:bE E) {a:V}{l:List bC}{k:Nat}{caps:List V}{P:bC->Bool}(ha:LS aO 9 Z a l)(hsm:l.length<=4294967296)(hc:∀c∈caps,Ax.bD c=true)(hP:∀(y:bC) (v:V),y∈l->v=.str y->aB E k ([v]++caps) [] λu Y=>Y=[]/\u=.bool (P y)) {fv:V} (ef:aU Z E.ty true fv=some (.fn k [] caps)):aB E 82 [a,fv] Z K=K (.bool (l.any P)) Z:=by
 refine aB.of ?_;obtain⟨a',ea,ia⟩:=kK h ha;rw[aI h.hs82 h.sp82 h.fn82 h.md82 (args':=[a',.fn k [] caps]) (by simp only[aX,ea,ef]),aW (by kernel_rfl)];have key:=λK=>Xc (Z:=[]) (K:=K) h (ia.ls [] 9) hsm hc hP;have kk:=dD key;simp only[aA,Tryz.f82,KP,↓reduceIte,reduceEqDiff,reduceLT,reduceAdd,reduceCtorEq,kk,kW,cF];exact rfl
theorem Mr (h:bE E) {a:V}{l:List bC}{k:Nat}{caps:List V}{P:bC->Bool}(ha:LS aO 9 Z a l)(hsm:l.length<=4294967296)(hc:∀c∈caps,Ax.bD c=true)(hP:∀(y:bC) (v:V),y∈l->v=.str y->aB E k ([v]++caps) [] λu Y=>Y=[]/\u=.bool (P y)):aB E 82 [a,.fn k [] caps] Z K=K (.bool (l.any P)) Z:=rZ h ha hsm hc hP (sM hc Z)
theorem L6 (h:bE E) {a:V}{l:List bC}{k:Nat}{caps:List V}{P:bC->Bool}(ha:LS aO 9 Z a l)(hsm:l.length<=4294967296)(hc:∀c∈caps,Ax.bD c=true)(hP:∀(y:bC) (v:V),y∈l->v=.str y->aB E k ([v]++caps) [] λu Y=>Y=[]/\u=.bool (P y)):KC E 82 [a,.fn k [] caps] Z (.bool (l.any P)) Z:=dD λ_=>Mr h ha hsm hc hP
theorem N5 (h:bE E) {a:V}{l:List AxS.Step}{k:Nat}{caps:List V}{P:AxS.Step->Bool}(ha:LS eZ 82 Z a l)(hsm:l.length<=4294967296)(hc:∀c∈caps,Ax.bD c=true)(hP:∀(y:AxS.Step) (v:V),y∈l->Ob v y->aB E k ([v]++caps) [] λu Y=>Y=[]/\u=.bool (P y)) {fv:V} (ef:aU Z E.ty true fv=some (.fn k [] caps)):aB E 250 [a,fv] Z K=K (.int .i64 (idx (bQ P l))) Z:=by
 refine aB.of ?_;obtain⟨a',ea,ia⟩:=CE h ha;rw[aI h.aak h.XT h.abb h.Zq (args':=[a',.fn k [] caps]) (by simp only[aX,ea,ef]),aW (by kernel_rfl)];have la:=lT h ia;simp only[aA,Tryz.f250,KP,↓reduceIte,reduceLT,reduceAdd,reduceCtorEq,reduceNeg,la];refine aV (λi F Y=>Y=[]/\F.get 0=a'/\F.get 1=.fn k [] caps/\F.get 8=.int .i64 (i:Int)/\F.get 7=.int .i64 (l.length:Int)/\∀j y,j<i->l[j]?=some y->P y=false) l.length ?_ ?_ l.length 0 _ _ (by omega) ⟨rfl,(fK (by simp +decide only[GS,aj]) (λj y hj=>by omega))⟩
 ·rintro i F Y hi ⟨rfl,g0,g1,g8,g7,hp⟩ next
  obtain⟨x,hx⟩:∃x,l[i]?=some x:=⟨_,AT hi⟩;obtain⟨g,p1,p2,e1,i1,i2⟩:=wN h ia hx;have hv:Ob (.agg [.str x.out,.int .i64 x.op,p1,p2,.int .i64 x.n]) x:=⟨p1,p2,rfl,i1,i2⟩;have hlt:=dP hi;have hadd:=bW i (by omega);rw[aG];simp only[KP,Ax.loadAt,↓reduceIte,reduceEqDiff,reduceLT,reduceAdd,reduceCtorEq,reduceNeg,h.dB,g0,g1,g7,g8,hlt,e1];refine aN (hP x _ (ag hx) hv) ?_;rintro u Y ⟨rfl,rfl⟩;by_cases hxs:P x=true
  ·simp only[KP,↓reduceIte,reduceEqDiff,reduceLT,reduceNeg,hxs];rw[fU (i:=i) (x:=x) hp hx hxs];exact rfl
  ·have hxs:P x=false:=by simpa using hxs
   simp only[KP,↓reduceIte,reduceEqDiff,reduceLT,reduceNeg,g8,hxs,hadd];refine next _ _ ⟨rfl,(fK (by simp +decide only[GS,g0,g1,g7,aj]) (λj y hj hy=>?_))⟩
   rcases cj j i with g | g
   ·exact hp j y g hy
   ·obtain rfl:j=i:=by omega
    rw[hx]at hy;cases hy;exact hxs
 ·rintro F Y ⟨rfl,g0,g1,g8,g7,hp⟩;have hlt:=dZ (bl l.length);rw[aG];simp only[KP,↓reduceIte,reduceLT,reduceNeg,g7,g8,hlt]
  rw[fV λx hx=>by
   obtain⟨j,hj,e⟩:=fm hx;exact hp j x hj (by rw[AT hj,e])]
  exact rfl
theorem Q6 (h:bE E) {a:V}{l:List AxS.Step}{k:Nat}{caps:List V}{P:AxS.Step->Bool}(ha:LS eZ 82 Z a l)(hsm:l.length<=4294967296)(hc:∀c∈caps,Ax.bD c=true)(hP:∀(y:AxS.Step) (v:V),y∈l->Ob v y->aB E k ([v]++caps) [] λu Y=>Y=[]/\u=.bool (P y)):aB E 250 [a,.fn k [] caps] Z K=K (.int .i64 (idx (bQ P l))) Z:=N5 h ha hsm hc hP (sM hc Z)
theorem KE (h:bE E) {a:V}{l:List AxS.Step}{k:Nat}{caps:List V}{P:AxS.Step->Bool}(ha:LS eZ 82 Z a l)(hsm:l.length<=4294967296)(hc:∀c∈caps,Ax.bD c=true)(hP:∀(y:AxS.Step) (v:V),y∈l->Ob v y->aB E k ([v]++caps) [] λu Y=>Y=[]/\u=.bool (P y)) {fv:V} (ef:aU Z E.ty true fv=some (.fn k [] caps)):aB E 213 [a,fv] Z K=K (.bool (l.any P)) Z:=by
 refine aB.of ?_;obtain⟨a',ea,ia⟩:=CE h ha;rw[aI h.aar h.X0 h.abj h.Zx (args':=[a',.fn k [] caps]) (by simp only[aX,ea,ef]),aW (by kernel_rfl)];have key:=λK=>Q6 (Z:=[]) (K:=K) h (ia.ls [] 82) hsm hc hP;have kk:=dD key;simp only[aA,Tryz.f213,KP,↓reduceIte,reduceEqDiff,reduceLT,reduceAdd,reduceCtorEq,kk,kW,cF];exact rfl
theorem N6 (h:bE E) {a:V}{l:List AxS.Step}{k:Nat}{caps:List V}{P:AxS.Step->Bool}(ha:LS eZ 82 Z a l)(hsm:l.length<=4294967296)(hc:∀c∈caps,Ax.bD c=true)(hP:∀(y:AxS.Step) (v:V),y∈l->Ob v y->aB E k ([v]++caps) [] λu Y=>Y=[]/\u=.bool (P y)):aB E 213 [a,.fn k [] caps] Z K=K (.bool (l.any P)) Z:=KE h ha hsm hc hP (sM hc Z)
theorem Nt (h:bE E) {a:V}{l:List AxS.Step}{k:Nat}{caps:List V}{P:AxS.Step->Bool}(ha:LS eZ 82 Z a l)(hsm:l.length<=4294967296)(hc:∀c∈caps,Ax.bD c=true)(hP:∀(y:AxS.Step) (v:V),y∈l->Ob v y->aB E k ([v]++caps) [] λu Y=>Y=[]/\u=.bool (P y)):KC E 213 [a,.fn k [] caps] Z (.bool (l.any P)) Z:=dD λ_=>N6 h ha hsm hc hP
theorem acw (h:bE E) {a:V}{l:List bC}{s:bC}(ha:LS aO 9 Z a l)(hsm:l.length<=4294967296):aB E 132 [a,.str s] Z K=K (.int .i64 (idx (bQ (λx=>decide (x=s)) l))) Z:=by
 refine aB.of ?_;obtain⟨a',ea,ia⟩:=kK h ha;rw[aI h.aaM h.Yl h.abD h.ZQ (args':=[a',.str s]) (by simp only[aX,ea,dK]),aW (by kernel_rfl)];have la:=bP h ia;simp only[aA,Tryz.f132,KP,↓reduceIte,reduceLT,reduceAdd,reduceCtorEq,reduceNeg,la];refine aV (λi F Y=>Y=[]/\F.get 0=a'/\F.get 1=.str s/\F.get 8=.int .i64 (i:Int)/\F.get 7=.int .i64 (l.length:Int)/\∀j y,j<i->l[j]?=some y->y≠s) l.length ?_ ?_ l.length 0 _ _ (by omega) ⟨rfl,(fK (by simp +decide only[GS,aj]) (λj y hj=>by omega))⟩
 ·rintro i F Y hi ⟨rfl,g0,g1,g8,g7,hp⟩ next
  obtain⟨x,hx⟩:∃x,l[i]?=some x:=⟨_,AT hi⟩;obtain⟨g,e1⟩:=gP h ia hx;have hlt:=dP hi;have hadd:=bW i (by omega);rw[aG];by_cases hxs:x=s
  ·have hs:=iM hxs.symm;simp only[KP,Ax.loadAt,↓reduceIte,reduceEqDiff,reduceLT,reduceCtorEq,reduceNeg,h.dG,g0,g1,g7,g8,hlt,e1,hs];rw[fU (i:=i) (x:=x) (λj y hj hy=>AS (hp j y hj hy)) hx (BY hxs)];exact rfl
  ·have hs:=gL (jy hxs);simp only[KP,Ax.loadAt,↓reduceIte,reduceEqDiff,reduceLT,reduceCtorEq,reduceNeg,h.dG,g0,g1,g7,g8,hlt,e1,hs,hadd];refine next _ _ ⟨rfl,(fK (by simp +decide only[GS,g0,g1,g7,aj]) (λj y hj hy=>?_))⟩
   rcases cj j i with g | g
   ·exact hp j y g hy
   ·obtain rfl:j=i:=by omega
    rw[hx]at hy;cases hy;exact hxs
 ·rintro F Y ⟨rfl,g0,g1,g8,g7,hp⟩;have hlt:=dZ (bl l.length);rw[aG];simp only[KP,↓reduceIte,reduceLT,reduceNeg,g7,g8,hlt]
  rw[fV λx hx=>by
   obtain⟨j,hj,e⟩:=fm hx;exact AS (hp j x hj (by rw[AT hj,e]))]
  exact rfl
theorem Xg (h:bE E) {a:V}{l:List bC}{s:bC}(ha:LS aO 9 Z a l)(hsm:l.length<=4294967296):aB E 99 [a,.str s] Z K=K (.bool (decide (s∈l))) Z:=by
 refine aB.of ?_;obtain⟨a',ea,ia⟩:=kK h ha;rw[aI h.hs99 h.sp99 h.fn99 h.md99 (args':=[a',.str s]) (by simp only[aX,ea,dK]),aW (by kernel_rfl)];have kk:=dD (λK=>acw (Z:=[]) (s:=s) (K:=K) h (ia.ls [] 9) hsm);simp only[aA,Tryz.f99,KP,↓reduceIte,reduceEqDiff,reduceLT,reduceAdd,reduceCtorEq,kk,kW,cF,any_eq];exact rfl
theorem Dn (h:bE E) {a:V}{l:List bC}{s:bC}(ha:LS aO 9 Z a l)(hsm:l.length<=4294967296):KC E 99 [a,.str s] Z (.bool (decide (s∈l))) Z:=dD λ_=>Xg h ha hsm
end
end
end Go.Proofs.YtmbikbgdbbcbmaaGreatDoor
end
