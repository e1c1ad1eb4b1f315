/- Part 16 of the proof. -/
import Derived.Test.YtmbikbgdbbcbmaaGreatDoorY
import Derived.Test.YtmbikbgdbbcbmaaGreatDoorZ15
import Derived.Test.YtmbikbgdbbcbmaaGreatDoorZ2
import Derived.Deep.Slices
import Derived.Test.YtmbikbgdbbcbmaaGreatDoorZ3
import Derived.Deep.SlicePairs
import Derived.Test.YtmbikbgdbbcbmaaGreatDoorZ14
set_option maxHeartbeats 8000000
set_option linter.unusedVariables false
set_option maxRecDepth 100000
open Nat (reduceLT reduceEqDiff reduceAdd reduceLeDiff reduceMul)
open List (map_nil)
open Int (reduceNeg)
section
namespace Go.Proofs.YtmbikbgdbbcbmaaGreatDoor
open Go Go.Ax Go.AxS
section
section
variable {E:Env}{Z:Sg}{K:V->Sg->Prop}
theorem vE {α:Type}{p:α->Bool}{l:List α}:(bN p l).isNone = !l.any p:=by
 rw[<- cG (p:=p) (l:=l)]
 cases bN p l <;> rfl
theorem LX {l:List bD}{s:bD}(h:s∈l):(bN (λy=>decide (y=s)) l).isSome=true:=by rw[cG,any_eq];exact AT h
theorem LY {l:List bD}{s:bD}(h:s ∉ l):(bN (λy=>decide (y=s)) l).isSome=false:=by rw[cG,any_eq];exact AI h
theorem Qq {l:List bD}{s:bD}(h:s ∉ l):(bN (λy=>decide (y=s)) l).isNone=true:=by rw[vE,any_eq,AI h];rfl
theorem Qr {l:List bD}{s:bD}(h:s∈l):(bN (λy=>decide (y=s)) l).isNone=false:=by rw[vE,any_eq,AT h];rfl
theorem aR {U:Sg}{x:O}:(U++[x])[U.length]?=some x:=by simp
theorem dR {U:Sg}{x y:O}:(U++[x]).set U.length y=U++[y]:=by simp
theorem aP {U:Sg}{x y:O}{i:Nat}(h:U[i]?=some y):(U++[x])[i]?=some y:=by rw[bq (AS.1 h).1];exact h
theorem kV {U:Sg}{w:V}{l:List bD}{k u:Nat}{cs:List V}(hb:U[k]?=some (.cells u cs true))(hu:u≠9) (ow:bH aM 9 U w l):aZ w≠some k:=by
 rcases ow with⟨rfl,-⟩ | ⟨b,rs,ex,rfl,hc,-⟩
 ·intro e;cases e
 ·intro e;cases e;rw[hb]at hc;cases hc;exact hu rfl
theorem Pb (h:bJ E) {x:aD}{a b c d w:V}{U:Sg}{Ks:List bD} (ia:IS aM a x.ins) (ib:IS aM b x.outs)(hx:Small x)(hK:Ks.length<=14) (b0:U[0]?=some (.cells 46 [.str x.name,a,b,c,d] true)) (ow:bH aM 9 U w Ks) (F:FT) (g1:F.get 1=.ref 0 0) (g3:F.get 3=w)
  (hk:K (.int .i64 (if (x.outs.all λo=>!decide (o∈x.ins)&&decide (o∈Ks))=true then 0 else 2)) U):R E (cutAt [1,1,1,1] (aA Tryz.f111).code) [] ⟨139,F⟩ U (mQ E (aA Tryz.f111).results K):=by
 have a1:=hx.ins
 have a2:=hx.outs
 have lb:=bP h ib
 have d23:=h.Tv
 simp only[aA,Tryz.f111,cutAt,ag]at d23
 simp only[aA,Tryz.f111,KP,↓reduceIte,reduceLT,cutAt]
 refine aV (λi F σ1=>σ1=U/\F.get 1=.ref 0 0/\F.get 3=w/\F.get 7=.int .i64 (i:Int)/\∀j y,j<i->x.outs[j]?=some y->y ∉ x.ins/\y∈Ks) x.outs.length ?_ ?_ x.outs.length 0 _ _ (by omega) ⟨rfl,(gE (by simp +decide only[GS,g1,g3,aj]) (λj y hj=>by omega))⟩
 ·rintro i F σ1 hi ⟨rfl,g1,g3,g7,hp⟩ next
  obtain⟨y,hy⟩:∃y,x.outs[i]?=some y:=⟨_,BY hi⟩
  obtain⟨g,e1⟩:=gI h ib hy
  have hlt:=eC hi
  have hadd:=bY i (by omega)
  have k1:=sX (Z:=σ1) h (a:=a) (l:=x.ins) (s:=y) (ia.ls σ1 9) (by omega)
  have k2:=sX (Z:=σ1) h (a:=w) (l:=Ks) (s:=y) ow.ls (by omega)
  rw[aF]
  by_cases h1:y∈x.ins
  ·have s1:=LX h1
   rw[ay (by rw[iF hy (by rw[AT h1];rfl)];simp)]at hk
   simp only[KP,Ax.loadAt,↓reduceIte,reduceEqDiff,reduceLT,reduceCtorEq,h.cM,h.aY,h.bC,g1,g7,lb,hlt,b0,e1,k1,lH,s1,aK d23,a_]
   exact hk
  have s1:=LY h1
  by_cases h2:y∈Ks
  ·have s2:=Qr h2
   simp only[KP,Ax.loadAt,↓reduceIte,reduceEqDiff,reduceLT,reduceCtorEq,h.cM,h.aY,h.bC,g1,g3,g7,lb,hlt,b0,e1,k1,k2,lH,Dj,s1,s2,hadd,aK d23,a_]
   refine next _ _ ⟨rfl,(gE (by simp +decide only[GS,g1,g3,aj]) (λj z hj hz=>?_))⟩
   rcases cj j i with g | g
   ·exact hp j z g hz
   ·obtain rfl:j=i:=by omega
    rw[hy]at hz;cases hz;exact⟨h1,h2⟩
  ·have s2:=Qq h2
   rw[ay (by rw[iF hy (by rw[AI h2];simp)];simp)]at hk
   simp only[KP,Ax.loadAt,↓reduceIte,reduceEqDiff,reduceLT,reduceCtorEq,h.cM,h.aY,h.bC,g1,g3,g7,lb,hlt,b0,e1,k1,k2,lH,Dj,s1,s2,aK d23,a_]
   exact hk
 ·rintro F σ1 ⟨rfl,g1,g3,g7,hp⟩
  have hlt:=eG (bg x.outs.length)
  rw[aF]
  rw[b8 (AX λj y _ hy=>by
   obtain⟨h1,h2⟩:=hp j y (AS.1 hy).1 hy
   rw[AI h1,AT h2];rfl)]at hk
  simp only[KP,Ax.loadAt,↓reduceIte,reduceEqDiff,reduceLT,reduceCtorEq,h.aY,h.bC,g1,g7,lb,hlt,b0]
  exact hk
def Oz (x:aD) (i:Nat) (s:AxS.Step):Prop:=s.out ∉ x.ins++(x.steps.take i).map Step.out/\∀y∈s.args,y∈x.ins++(x.steps.take i).map Step.out
theorem uI:∀(l:List AxS.Step) (known:List bD),iM known l=true ↔ ∀i s,l[i]?=some s->s.out ∉ known++(l.take i).map Step.out/\∀y∈s.args,y∈known++(l.take i).map Step.out
 | [],known=>by simp[iM]
 |s::l,known=>by
  rw[iM,ah,ah,uI l]
  simp only[fm,decide_eq_false_iff_not,dw,IT]
  constructor
  ·rintro⟨⟨h1,h2⟩,h3⟩ i t ht
   cases i with
   |zero=>cases ht;simpa using ⟨h1,h2⟩
   |succ i=>have:=h3 i t ht;simpa using this
  ·intro h0
   refine⟨by simpa using h0 0 s rfl,λi t ht=>?_⟩
   have:=h0 (i+1) t ht
   simpa using this
theorem JO (h:bJ E) {x:aD}{a b c d:V} (ia:IS aM a x.ins) (ib:IS aM b x.outs) (id:IS eK d x.steps)(hx:Small x) (F:FT) (g1:F.get 1=.ref 0 0)
  (hk:∀U,K (.int .i64 (if iM x.ins x.steps=true/\(x.outs.all λo=>!decide (o∈x.ins)&&decide (o∈x.steps.map Step.out))=true then 0 else 2)) U):R E (cutAt [1,1] (aA Tryz.f111).code) [] ⟨139,F⟩ [.cells 46 [.str x.name,a,b,c,d] true] (mQ E (aA Tryz.f111).results K):=by
 have a1:=hx.ins
 have a4:=hx.steps
 have ld:=jJ h id
 have fin:=λU w b0 ow F g1 g3 hk=>Pb (K:=K) h ia ib hx (c:=c) (d:=d) (w:=w) (U:=U) (Ks:=x.steps.map Step.out) (by rw[az];omega) b0 ow F g1 g3 hk
 have d17:=h.Tw
 simp only[aA,Tryz.f111,cutAt,ag]at d17
 rw[show cutAt [1,1] (aA Tryz.f111).code=.seq (cutAt [1,1,0] (aA Tryz.f111).code) (.seq (cutAt [1,1,1,0] (aA Tryz.f111).code) (cutAt [1,1,1,1] (aA Tryz.f111).code)) from rfl]
 generalize cutAt [1,1,1,1] (aA Tryz.f111).code=C at *
 simp only[aA,Tryz.f111,KP,↓reduceIte,reduceLT,cutAt]
 refine aV (λi F U=>U[0]?=some (.cells 46 [.str x.name,a,b,c,d] true)/\F.get 1=.ref 0 0/\F.get 4=.int .i64 (i:Int)/\(∃w,F.get 3=w/\bH aM 9 U w ((x.steps.take i).map Step.out))/\∀j s,j<i->x.steps[j]?=some s->Oz x j s) x.steps.length ?_ ?_ x.steps.length 0 _ _ (by omega) ⟨rfl,(lT (by simp +decide only[GS,g1,aj]) ⟨⟨.aB,(by simp +decide only[GS]),.inl ⟨rfl,rfl⟩⟩,λj y hj=>by omega⟩)⟩
 ·rintro i F U hi ⟨b0,g1,g4,⟨w,g3,ow⟩,hp⟩ next
  obtain⟨st,hst⟩:∃y,x.steps[i]?=some y:=⟨_,BY hi⟩
  have hmem:=af hst
  have a5:=hx.args st hmem
  obtain⟨g,p,q,e1,ip,iq⟩:=qM h id hst
  have hop:=aL ip.bF
  have hoq:=aL iq.bF
  have hlt:=eC hi
  have hadd:=bY i (by omega)
  have lp:=bP h ip
  have hKl:((x.steps.take i).map Step.out).length<=14:=by rw[az,bl];omega
  have bx:(U++[O.cells 82 [.str st.out,.int .i64 st.op,p,q,.int .i64 st.n] true])[U.length]?=some (.cells 82 [.str st.out,.int .i64 st.op,p,q,.int .i64 st.n] true):=aR
  have b1:=aP (x:=O.cells 82 [.str st.out,.int .i64 st.op,p,q,.int .i64 st.n] true) b0
  have o1:=ow.app [O.cells 82 [.str st.out,.int .i64 st.op,p,q,.int .i64 st.n] true]
  have hbad:∀U,¬ Oz x i st->K (.int .i64 2) U:=λU hn=>by
   have:=hk U
   rwa [ay (λe=>hn ((uI _ _).1 e.1 i st hst))]at this
  have k1:=sX (Z:=U++[O.cells 82 [.str st.out,.int .i64 st.op,p,q,.int .i64 st.n] true]) h (a:=a) (l:=x.ins) (s:=st.out) (ia.ls _ 9) (by omega)
  have k2:=sX (Z:=U++[O.cells 82 [.str st.out,.int .i64 st.op,p,q,.int .i64 st.n] true]) h (a:=w) (l:=(x.steps.take i).map Step.out) (s:=st.out) o1.ls (by omega)
  rw[aF]
  by_cases h1:st.out∈x.ins
  ·have s1:=LX h1
   simp only[KP,Ax.loadAt,Ax.storeAt,↓reduceIte,reduceEqDiff,reduceLT,reduceAdd,reduceCtorEq,h.cM,h.aY,h.fN,h.bC,h.cN,g1,g4,ld,hlt,b0,e1,hop,hoq,aR,dR,b1,bx,k1,lH,s1]
   exact hbad _ λe=>e.1 (List.mem_append_left _ h1)
  have s1:=LY h1
  by_cases h2:st.out∈(x.steps.take i).map Step.out
  ·have s2:=LX h2
   simp only[KP,Ax.loadAt,Ax.storeAt,↓reduceIte,reduceEqDiff,reduceLT,reduceAdd,reduceCtorEq,h.cM,h.aY,h.fN,h.bC,h.cN,g1,g3,g4,ld,hlt,b0,e1,hop,hoq,aR,dR,b1,bx,k1,k2,lH,s1,s2]
   exact hbad _ λe=>e.1 (jr _ h2)
  have s2:=LY h2
  simp only[KP,Ax.loadAt,Ax.storeAt,↓reduceIte,reduceEqDiff,reduceLT,reduceAdd,reduceCtorEq,h.cM,h.aY,h.fN,h.bC,h.cN,g1,g3,g4,ld,hlt,b0,e1,hop,hoq,aR,dR,b1,bx,k1,k2,lH,s1,s2]
  generalize hτ:U++[O.cells 82 [.str st.out,.int .i64 st.op,p,q,.int .i64 st.n] true]=τ1 at *
  generalize U.length=nx at *
  refine aV (λk F σ1=>σ1=τ1/\F.get 1=.ref 0 0/\F.get 3=w/\F.get 4=.int .i64 (i:Int)/\F.get 5=.ref nx 0/\F.get 6=.int .i64 (k:Int)/\∀j y,j<k->st.args[j]?=some y->y∈x.ins++(x.steps.take i).map Step.out) st.args.length ?_ ?_ st.args.length 0 _ _ (by omega) ⟨rfl,(mT (by simp +decide only[GS,g1,g3,g4,aj]) (λj y hj=>by omega))⟩
  ·rintro k F σ1 hk2 ⟨rfl,g1,g3,g4,g5,g6,hq⟩ next2
   obtain⟨y,hy⟩:∃y,st.args[k]?=some y:=⟨_,BY hk2⟩
   obtain⟨g,e2⟩:=gI h ip hy
   have hlt2:=eC hk2
   have hadd2:=bY k (by omega)
   have k3:=sX (Z:=σ1) h (a:=a) (l:=x.ins) (s:=y) (ia.ls _ 9) (by omega)
   have k4:=sX (Z:=σ1) h (a:=w) (l:=(x.steps.take i).map Step.out) (s:=y) o1.ls (by omega)
   rw[aF]
   by_cases h3:y∈x.ins
   ·have s3:=Qr h3
    simp only[KP,Ax.loadAt,↓reduceIte,reduceEqDiff,reduceLT,reduceCtorEq,h.cM,h.aY,h.bC,h.cN,g1,g5,g6,lp,hlt2,b1,bx,e2,k3,Dj,s3,hadd2,aK d17,a_]
    refine next2 _ _ ⟨rfl,(mT (by simp +decide only[GS,g1,g3,g4,g5,aj]) (λj z hj hz=>?_))⟩
    rcases cj j k with g | g
    ·exact hq j z g hz
    ·obtain rfl:j=k:=by omega
     rw[hy]at hz;cases hz;exact List.mem_append_left _ h3
   have s3:=Qq h3
   by_cases h4:y∈(x.steps.take i).map Step.out
   ·have s4:=Qr h4
    simp only[KP,Ax.loadAt,↓reduceIte,reduceEqDiff,reduceLT,reduceCtorEq,h.cM,h.aY,h.bC,h.cN,g1,g3,g5,g6,lp,hlt2,b1,bx,e2,k3,k4,Dj,s3,s4,hadd2,aK d17,a_]
    refine next2 _ _ ⟨rfl,(mT (by simp +decide only[GS,g1,g3,g4,g5,aj]) (λj z hj hz=>?_))⟩
    rcases cj j k with g | g
    ·exact hq j z g hz
    ·obtain rfl:j=k:=by omega
     rw[hy]at hz;cases hz;exact jr _ h4
   ·have s4:=Qq h4
    simp only[KP,Ax.loadAt,↓reduceIte,reduceEqDiff,reduceLT,reduceCtorEq,h.cM,h.aY,h.bC,h.cN,g1,g3,g5,g6,lp,hlt2,b1,bx,e2,k3,k4,Dj,s3,s4,aK d17,a_]
    exact hbad _ λe=>(bw.1 (e.2 y (af hy))).elim h3 h4
  ·rintro F σ1 ⟨rfl,g1,g3,g4,g5,g6,hq⟩
   have hlt2:=eG (bg st.args.length)
   obtain⟨w2,τ2,ha2,o2,k2',n2⟩:=GP (s:=st.out) (ex:=true) h o1 (by omega)
   rw[aF]
   simp only[KP,Ax.loadAt,↓reduceIte,reduceEqDiff,reduceLT,reduceLeDiff,reduceMul,reduceCtorEq,h.cM,h.aY,h.cN,g3,g4,g5,g6,lp,hlt2,bx,lB,ha2,hadd]
   have b2:τ2[0]?=some (.cells 46 [.str x.name,a,b,c,d] true):=k2' 0 _ (aP b1) (kV b1 (by decide) o1)
   refine next _ _ ⟨b2,(lT (by simp +decide only[GS,g1,aj]) ⟨⟨w2,(by simp +decide only[GS]),?_⟩,λj s hj hs=>?_⟩)⟩
   ·have e:(x.steps.take (i+1)).map Step.out=(x.steps.take i).map Step.out++[st.out]:=by rw[dh,hst];simp
    rw[e];exact o2
   ·rcases cj j i with g | g
    ·exact hp j s g hs
    ·obtain rfl:j=i:=by omega
     rw[hst]at hs;cases hs
     exact⟨λe=>(bw.1 e).elim h1 h2,λy hy=>by
      obtain⟨n,hn,e⟩:=fg hy
      exact hq n y hn (by rw[BY hn,e])⟩
 ·rintro F U ⟨b0,g1,g4,⟨w,g3,ow⟩,hp⟩
  have hlt:=eG (bg x.steps.length)
  rw[ak (ae _)]at ow
  have hst:iM x.ins x.steps=true:=(uI _ _).2 λi s hs=>hp i s (AS.1 hs).1 hs
  have hk:=hk U
  rw[hst]at hk
  simp only[true_and]at hk
  rw[aF]
  simp only[KP,Ax.loadAt,↓reduceIte,reduceEqDiff,reduceLT,reduceCtorEq,h.fN,h.bC,g1,g4,ld,hlt,b0]
  exact fin U w b0 ow _ (by simp +decide only[GS,g1]) (by simp +decide only[GS,g3]) hk
end
end
section
section
variable {E:Env}{Z:Sg}{K:V->Sg->Prop}
theorem PF (x:aD):fV x=(!kZ x.ins&&(!kZ x.outs&&(!kZ x.after&&(!decide (x.name∈x.after)&&(iM x.ins x.steps&&x.outs.all λo=>!decide (o∈x.ins)&&decide (o∈x.steps.map Step.out)))))):=by
 unfold fV
 rw[dn]
 simp only[ah,dw,IT,fm,decide_eq_false_iff_not,bw]
 constructor
 ·rintro⟨⟨⟨⟨⟨⟨h1,h2⟩,h3⟩,h4⟩,h5⟩,h6⟩,h7⟩
  exact⟨h1,h2,h3,h4,h6,λo ho=>⟨h5 o ho,(h7 o ho).resolve_left (h5 o ho)⟩⟩
 ·rintro⟨h1,h2,h3,h4,h6,h7⟩
  exact⟨⟨⟨⟨⟨⟨h1,h2⟩,h3⟩,h4⟩,λo ho=>(h7 o ho).1⟩,h6⟩,λo ho=>.inr (h7 o ho).2⟩
theorem NT (h:bJ E) {v:V}{x:aD}(hv:I9 v x)(hx:Small x):aC E 111 [v] Z K=K (.int .i64 (bE x)) Z:=by
 refine aC.of ?_
 have ev:=hv.snap (E:=E) Z
 obtain⟨a,b,c,d,rfl,ia,ib,ic,id⟩:=hv
 have a1:=hx.ins
 have a2:=hx.outs
 have a3:=hx.after
 have a4:=hx.steps
 rw[aH h.aaf h.XR h.aa1 h.Zl (args':=[.agg [.str x.name,a,b,c,d]]) (by simp only[aU,ev]),aX (by kernel_rfl)]
 have ha:=aL ia.bF
 have hb:=aL ib.bF
 have hc:=aL ic.bF
 have hd:=aL id.bF
 have la:=bP h ia
 have lb:=bP h ib
 have lc:=bP h ic
 have ld:=jJ h id
 have kf:=λ(U:Sg)=>VO (Z:=U) h (v:=.agg [.str x.name,a,b,c,d]) (x:=x) ⟨a,b,c,d,rfl,ia,ib,ic,id⟩ hx
 have key:=λF g1 hk=>JO (K:=λv σ1=>match bW σ1 E.ty false v with
    |some v=>v=.int .i64 (bE x)
    |none=>False) h ia ib id hx (c:=c) F g1 hk
 rw[show (aA Tryz.f111).code=.seq (cutAt [0] (aA Tryz.f111).code) (.seq (cutAt [1,0] (aA Tryz.f111).code) (cutAt [1,1] (aA Tryz.f111).code)) from rfl]
 generalize cutAt [1,1] (aA Tryz.f111).code=C at *
 by_cases f:kW x=true
 case neg=>
  have f:kW x=false:=by simpa using f
  rw[show bE x=1 from b8 f]
  simp only[aA,Tryz.f111,KP,Ax.loadAt,↓reduceIte,reduceEqDiff,reduceLT,reduceAdd,h.bC,cutAt,ha,hb,hc,hd,kf,f]
  exact rfl
 have r1:bE x=if long x=true then 4 else if fV x=false then 2 else 0:=ay (by simp[f])
 have q1:decide ((8:Int)<(x.ins.length:Int))=decide (8<x.ins.length):=by rw[dn];simp only[IT];omega
 have q2:decide ((4:Int)<(x.outs.length:Int))=decide (4<x.outs.length):=by rw[dn];simp only[IT];omega
 have q3:decide ((8:Int)<(x.after.length:Int))=decide (8<x.after.length):=by rw[dn];simp only[IT];omega
 have q4:decide ((12:Int)<(x.steps.length:Int))=decide (12<x.steps.length):=by rw[dn];simp only[IT];omega
 by_cases hl:long x=true
 ·rw[r1,b8 hl]
  unfold long at hl
  cases l1:decide (8<x.ins.length) with
  |true=>
   simp only[aA,Tryz.f111,KP,Ax.loadAt,↓reduceIte,reduceEqDiff,reduceLT,reduceAdd,reduceCtorEq,h.aY,h.bC,cutAt,ha,hb,hc,hd,kf,f,la,q1,l1]
   exact rfl
  |false=>
   cases l2:decide (4<x.outs.length) with
   |true=>
    simp only[aA,Tryz.f111,KP,Ax.loadAt,↓reduceIte,reduceEqDiff,reduceLT,reduceAdd,reduceCtorEq,h.aY,h.bC,cutAt,ha,hb,hc,hd,kf,f,la,lb,q1,q2,l1,l2]
    exact rfl
   |false=>
    cases l3:decide (8<x.after.length) with
    |true=>
     simp only[aA,Tryz.f111,KP,Ax.loadAt,↓reduceIte,reduceEqDiff,reduceLT,reduceAdd,reduceCtorEq,h.aY,h.bC,cutAt,ha,hb,hc,hd,kf,f,la,lb,lc,q1,q2,q3,l1,l2,l3]
     exact rfl
    |false=>
     have l4:decide (12<x.steps.length)=true:=by rw[l1,l2,l3]at hl;simpa using hl
     simp only[aA,Tryz.f111,KP,Ax.loadAt,↓reduceIte,reduceEqDiff,reduceLT,reduceAdd,reduceCtorEq,h.aY,h.fN,h.bC,cutAt,ha,hb,hc,hd,kf,f,la,lb,lc,ld,q1,q2,q3,q4,l1,l2,l3,l4]
     exact rfl
 rw[ay hl,PF]at r1
 have hl:long x=false:=by simpa using hl
 unfold long at hl
 simp only[Bool.or_eq_false_iff]at hl
 obtain⟨⟨⟨l1,l2⟩,l3⟩,l4⟩:=hl
 have t1:=λ(U:Sg)=>Gu (Z:=U) h (a:=a) (l:=x.ins) (ia.ls U 9) (by omega)
 have t2:=λ(U:Sg)=>Gu (Z:=U) h (a:=b) (l:=x.outs) (ib.ls U 9) (by omega)
 have t3:=λ(U:Sg)=>Gu (Z:=U) h (a:=c) (l:=x.after) (ic.ls U 9) (by omega)
 have t4:=λ(U:Sg)=>sX (Z:=U) h (a:=c) (l:=x.after) (s:=x.name) (ic.ls U 9) (by omega)
 cases w1:kZ x.ins with
 |true=>
  rw[show bE x=2 from by rw[r1,w1];rfl]
  simp only[aA,Tryz.f111,KP,Ax.loadAt,↓reduceIte,reduceEqDiff,reduceLT,reduceAdd,reduceCtorEq,h.aY,h.fN,h.bC,cutAt,ha,hb,hc,hd,kf,f,la,lb,lc,ld,q1,q2,q3,q4,l1,l2,l3,l4,t1,w1]
  exact rfl
 |false=>
 cases w2:kZ x.outs with
 |true=>
  rw[show bE x=2 from by rw[r1,w1,w2];rfl]
  simp only[aA,Tryz.f111,KP,Ax.loadAt,↓reduceIte,reduceEqDiff,reduceLT,reduceAdd,reduceCtorEq,h.aY,h.fN,h.bC,cutAt,ha,hb,hc,hd,kf,f,la,lb,lc,ld,q1,q2,q3,q4,l1,l2,l3,l4,t1,w1,t2,w2]
  exact rfl
 |false=>
 cases w3:kZ x.after with
 |true=>
  rw[show bE x=2 from by rw[r1,w1,w2,w3];rfl]
  simp only[aA,Tryz.f111,KP,Ax.loadAt,↓reduceIte,reduceEqDiff,reduceLT,reduceAdd,reduceCtorEq,h.aY,h.fN,h.bC,cutAt,ha,hb,hc,hd,kf,f,la,lb,lc,ld,q1,q2,q3,q4,l1,l2,l3,l4,t1,w1,t2,w2,t3,w3]
  exact rfl
 |false=>
 by_cases w4:x.name∈x.after
 ·have s4:=LX w4
  rw[show bE x=2 from by rw[r1,w1,w2,w3,AT w4];rfl]
  simp only[aA,Tryz.f111,KP,Ax.loadAt,↓reduceIte,reduceEqDiff,reduceLT,reduceAdd,reduceCtorEq,h.cM,h.aY,h.fN,h.bC,cutAt,ha,hb,hc,hd,kf,f,la,lb,lc,ld,q1,q2,q3,q4,l1,l2,l3,l4,t1,w1,t2,w2,t3,w3,t4,lH,s4]
  exact rfl
 ·have s4:=LY w4
  rw[w1,w2,w3,AI w4]at r1
  simp only[aA,Tryz.f111,KP,Ax.loadAt,↓reduceIte,reduceEqDiff,reduceLT,reduceAdd,reduceCtorEq,h.cM,h.aY,h.fN,h.bC,cutAt,ha,hb,hc,hd,kf,f,la,lb,lc,ld,q1,q2,q3,q4,l1,l2,l3,l4,t1,w1,t2,w2,t3,w3,t4,lH,s4]
  refine key _ (by simp +decide only[GS]) λU=>?_
  show V.int .i64 _=V.int .i64 (bE x)
  rw[r1]
  refine au _ ?_
  by_cases e:iM x.ins x.steps=true/\(x.outs.all λo=>!decide (o∈x.ins)&&decide (o∈x.steps.map Step.out))=true
  ·rw[b8 e,e.1,e.2];rfl
  ·rw[ay e,b8]
   simp only[mh,iz]
   cases u1:iM x.ins x.steps with
   |false=>rfl
   |true=>
    cases u2:(x.outs.all λo=>!decide (o∈x.ins)&&decide (o∈x.steps.map Step.out)) with
    |false=>rfl
    |true=>exact absurd ⟨u1,u2⟩ e
theorem Nh (h:bJ E) {v:V}{x:aD}(hv:I9 v x)(hx:Small x):KC E 111 [v] Z (.int .i64 (bE x)) Z:=cH λ_=>NT h hv hx
end
end
section
section
variable {E:Env}{Z:Sg}{K:V->Sg->Prop}
def lU (n:Nat) (g:Nat->Bool):List V:=(List.range n).map λk=>V.bool (g k)
def sQ (n i:Nat):List V:=(List.range i).map (λj=>V.sl (j+1) 0 n none)++List.replicate (n-i) .aB
def qB (ex:Bool) (n i:Nat) (c:Nat->Nat->Bool):Sg:=.cells 105 (sQ n i) true::(List.range i).map λj=>O.cells 4 (lU n (c j)) ex
def HV (n:Nat) (c:Nat->Nat->Bool):List (List Bool):=(List.range n).map λi=>(List.range n).map (c i)
def Ir (c:Nat->Nat->Bool) (i k:Nat) (b:Bool):Nat->Nat->Bool:=λx y=>if x=i/\y=k then b else c x y
theorem lY {n:Nat}{g:Nat->Bool}:(lU n g).length=n:=by simp[lU]
theorem pH {n i:Nat}(h:i<=n):(sQ n i).length=n:=by simp[sQ];omega
theorem uP {n i j:Nat}(h:j<i):(sQ n i)[j]?=some (.sl (j+1) 0 n none):=by
 unfold sQ
 rw[bq (by simpa using h)]
 simp[h]
theorem yX {n k:Nat}{g:Nat->Bool}(h:k<n):(lU n g)[k]?=some (.bool (g k)):=by simp[lU,h]
theorem Dl {ex:Bool}{n i:Nat}{c:Nat->Nat->Bool}:(qB ex n i c).length=i+1:=by simp[qB]
theorem aak {ex:Bool}{n i:Nat}{c:Nat->Nat->Bool}:(qB ex n i c)[0]?=some (.cells 105 (sQ n i) true):=rfl
theorem Dk {ex:Bool}{n i j:Nat}{c:Nat->Nat->Bool}(h:j<i):(qB ex n i c)[j+1]?=some (.cells 4 (lU n (c j)) ex):=by
 simp[qB,h]
theorem Gw (h:bJ E) {n j:Nat}(hj:j<n):indexAddr E 68 (.sl 0 0 n none) (.int .i64 (j:Int))=some (.ref 0 j):=by
 have hneg:¬ ((j:Int)<0):=by omega
 unfold indexAddr
 simp only[hneg,aq,h.uH,h.lO,dj,hj,b9,cz,nf]
theorem De (h:bJ E) {n j k:Nat}(hk:k<n):indexAddr E 105 (.sl (j+1) 0 n none) (.int .i64 (k:Int))=some (.ref (j+1) k):=by
 have hneg:¬ ((k:Int)<0):=by omega
 unfold indexAddr
 simp only[hneg,aq,h.lO,h.uC,dj,hk,b9,cz,nf]
theorem Gp (h:bJ E) {ex:Bool}{n i j:Nat}{c:Nat->Nat->Bool}(hj:j<i):loadAt E (qB ex n i c) 105 (.ref 0 j)=some (.sl (j+1) 0 n none):=by
 unfold loadAt
 simp only[h.lO,aak,Ax.isAgg,ai,aq,uP hj]
theorem J4 (h:bJ E) {ex:Bool}{n i j k:Nat}{c:Nat->Nat->Bool}(hj:j<i)(hk:k<n):loadAt E (qB ex n i c) 4 (.ref (j+1) k)=some (.bool (c j k)):=by
 unfold loadAt
 simp only[h.uC,Dk hj,Ax.isAgg,ai,aq,yX hk]
theorem Pd {n k:Nat}{g:Nat->Bool}{b:Bool}(hk:k<n):setCells (lU n g) k [.bool b]=lU n (λy=>if y=k then b else g y):=by
 have e:setCells (lU n g) k [.bool b]=(lU n g).set k (.bool b):=by
  unfold setCells
  rw[List.set_eq_take_append_cons_drop,b8 (by rw[lY];exact hk)]
  simp
 rw[e]
 apply jn
 intro i
 by_cases hi:i<n
 ·by_cases hik:k=i
  ·subst hik
   rw[bp (by rw[lY];exact hk),yX hk,b8 rfl]
  ·rw[OF hik,yX hi,yX hi,ay (λe=>hik e.symm)]
 ·rw[gu (by rw[fc,lY];omega),gu (by rw[lY];omega)]
theorem Jz (h:bJ E) {ex:Bool}{n i j k:Nat}{c:Nat->Nat->Bool}{b:Bool}(hj:j<i)(hk:k<n):storeAt E (qB ex n i c) 4 (.ref (j+1) k) (.bool b)=some (qB ex n i (Ir c j k b)):=by
 unfold storeAt
 simp only[h.uC,Dk hj]
 rw[b8 (by simp only[V.cells,V.aW,aa,bf,ig,jm,lY,mg,ah,IT];exact⟨rfl,by omega⟩)]
 refine au some ?_
 rw[show V.cells (.bool b)=[.bool b] from rfl,Pd hk]
 apply jn
 intro q
 cases q with
 |zero=>rw[OF (by omega)];rfl
 |succ q=>
  by_cases hq:q<i
  ·rw[Dk hq]
   by_cases hjq:j=q
   ·subst hjq
    rw[bp (by rw[Dl];omega)]
    congr 2
    unfold lU
    refine jd λy _=>?_
    simp[Ir]
   ·rw[OF (by omega),Dk hq]
    congr 2
    unfold lU
    refine jd λy _=>?_
    have:¬ (q=j/\y=k):=λe=>hjq e.1.symm
    simp[Ir,this]
  ·rw[gu (by rw[fc,Dl];omega),gu (by rw[Dl];omega)]
theorem OB (h:bJ E) {ex:Bool}{n i:Nat}{c:Nat->Nat->Bool}(hi:i<n):storeAt E (qB ex n i c++[.cells 4 (lU n (c i)) ex]) 105 (.ref 0 i) (.sl (i+1) 0 n none)=some (qB ex n (i+1) c):=by
 unfold storeAt
 have h0:(qB ex n i c++[O.cells 4 (lU n (c i)) ex])[0]?=some (.cells 105 (sQ n i) true):=rfl
 simp only[h.lO,h0]
 rw[b8 (by simp only[V.cells,V.aW,aa,bf,ig,jm,pH (Nat.le_of_lt hi),mg,ah,IT];exact⟨rfl,by omega⟩)]
 refine au some ?_
 have e:setCells (sQ n i) i [.sl (i+1) 0 n none]=sQ n (i+1):=by
  unfold setCells
  apply jn
  intro q
  have hl:((sQ n i).take i).length=i:=by rw[bl,pH (Nat.le_of_lt hi)];omega
  rcases jq q i with hq | rfl | hq
  ·rw[cm,bq (by omega),gw,b8 hq,uP hq,uP (by omega)]
  ·rw[cm,ck (by omega),hl,ju,uP (by omega)];rfl
  ·have e1:(sQ n (i+1))[q]?=if q<n then some .aB else none:=by
    unfold sQ
    rw[ck (by simp;omega),az,l7,List.getElem?_replicate]
    by_cases g:q<n
    ·rw[b8 (by omega),b8 g]
    ·rw[ay (by omega),ay g]
   rw[e1,cm,ck (by omega),hl,ck (by simp;omega),jf,me]
   unfold sQ
   rw[ck (by simp;omega),az,l7,List.getElem?_replicate]
   by_cases g:q<n
   ·rw[b8 (by omega),b8 g]
   ·rw[ay (by omega),ay g]
 rw[show V.cells (.sl (i+1) 0 n none)=[.sl (i+1) 0 n none] from rfl,e]
 unfold qB
 rw[dy,jk,List.range_succ,gp]
 rfl
theorem Lu {n:Nat}{c:Nat->Nat->Bool}{i:Nat}(hi:i<n):(HV n c)[i]?=some ((List.range n).map (c i)):=by simp[HV,hi]
theorem Sk {n:Nat}{c:Nat->Nat->Bool}:(HV n c).length=n:=by simp[HV]
theorem R6 {n:Nat}{g:Nat->Bool}{k:Nat}(hk:k<n):((List.range n).map g)[k]?=some (g k):=by simp[hk]
theorem Pc:∀l:List V,Ax.rows 1 l.length l=l.map λv=>[v]
 | []=>rfl
 |x::l=>by
  show ((x::l).take 1)::Ax.rows 1 l.length ((x::l).drop 1)=_
  rw[show (x::l).drop 1=l from rfl,Pc l];rfl
theorem Lv {α β:Type}{f:α->Option β}:∀{l:List α}{m:List β},l.length=m.length->(∀(i:Nat) (a:α) (b:β),l[i]?=some a->m[i]?=some b->f a=some b)->aU f l=some m
 | [],[],_,_=>rfl
 |a::l,b::m,hl,h=>by
  rw[aU,h 0 a b rfl rfl,Lv (l:=l) (m:=m) (by simpa using hl) λi x y hx hy=>h (i+1) x y hx hy]
 | [],_::_,hl,_=>by simp at hl
 |_::_,[],hl,_=>by simp at hl
theorem Ho (h:bJ E) {ex:Bool}{n:Nat}{c:Nat->Nat->Bool}:∃v,bW (qB ex n n c) E.ty false (.sl 0 0 n none)=some v/\iO rE v (HV n c):=by
 let rv:Nat->V:=λi=>.bT false ((lU n (c i)).map λv=>[v]) (ex&&decide (0<1)&&(0+n*1==n))
 have hrow:∀i,i<n->∀m,bI (qB ex n n c) E.ty false (m+2) (.sl (i+1) 0 n none)=some (rv i):=λi hi m=>by
  have hm:aU (λv=>match bI (qB ex n n c) E.ty false (m+1) v with
    |some v=>if bU false v then some v else no "snap: borrowed"
    |none=>none) (lU n (c i))=some (lU n (c i)):=by
   refine iS λx hx=>?_
   obtain⟨k,_,rfl⟩:=cg.1 hx
   rfl
  rw[bI]
  simp only[Dk hi,h.uC]
  rw[b8 (by rw[lY];omega),eu,ak (by rw[lY];omega)]
  refine (au (λo=>match o with
   |some l=>some (V.bT false (Ax.rows 1 n l) (ex&&decide (0<1)&&(0+n*1==(lU n (c i)).length)))
   |none=>none) hm).trans ?_
  show some (V.bT false (Ax.rows 1 n (lU n (c i))) (ex&&decide (0<1)&&(0+n*1==(lU n (c i)).length)))=_
  have:Ax.rows 1 n (lU n (c i))=(lU n (c i)).map λv=>[v]:=by
   have:=Pc (lU n (c i));rwa [lY]at this
  rw[this,lY]
 have hout:bI (qB ex n n c) E.ty false 12 (.sl 0 0 n none)=some (.bT false (((List.range n).map rv).map λv=>[v]) (true&&decide (0<1)&&(0+n*1==n))):=by
  have hm:aU (λv=>match bI (qB ex n n c) E.ty false 11 v with
    |some v=>if bU false v then some v else no "snap: borrowed"
    |none=>none) (sQ n n)=some ((List.range n).map rv):=by
   refine Lv (by rw[pH (ae n)];simp) λi a b ha hb=>?_
   have hi:i<n:=by
    have:=(AS.1 ha).1
    rwa [pH (ae n)]at this
   rw[uP hi]at ha
   cases ha
   have hb:some (rv i)=some b:=by rw[<- hb];simp[hi]
   cases hb
   rw[hrow i hi 9]
   rfl
  rw[bI]
  simp only[aak,h.lO]
  rw[b8 (by rw[pH (ae n)];omega),eu,ak (by rw[pH (ae n)];omega)]
  refine (au (λo=>match o with
   |some l=>some (V.bT false (Ax.rows 1 n l) (true&&decide (0<1)&&(0+n*1==(sQ n n).length)))
   |none=>none) hm).trans ?_
  show some (V.bT false (Ax.rows 1 n ((List.range n).map rv)) (true&&decide (0<1)&&(0+n*1==(sQ n n).length)))=_
  have:Ax.rows 1 n ((List.range n).map rv)=((List.range n).map rv).map λv=>[v]:=by
   have:=Pc ((List.range n).map rv);rwa [show ((List.range n).map rv).length=n by simp]at this
  rw[this,pH (ae n)]
 refine⟨.bT false (((List.range n).map rv).map λv=>[v]) (true&&decide (0<1)&&(0+n*1==n)),?_,.inr ⟨((List.range n).map rv).map λv=>[v],true&&decide (0<1)&&(0+n*1==n),rfl,?_⟩⟩
 ·show (match bI (qB ex n n c) E.ty false 12 (.sl 0 0 n none) with
   |some v=>if bU false v then some v else no "snap: borrowed"
   |none=>none)=_
  rw[hout]
  rfl
 ·unfold HV
  rw[ku]
  refine dS.map (P:=rE.P) (f:=(λv=>[v]) ∘ rv) (g:=λi=>(List.range n).map (c i)) (λi=>⟨rv i,rfl,.inr ⟨false,(lU n (c i)).map λv=>[v],ex&&decide (0<1)&&(0+n*1==n),rfl,?_⟩⟩) _
  unfold lU
  rw[ku]
  exact dS.map (P:=rV.P) (f:=(λv=>[v]) ∘ λk=>V.bool (c i k)) (g:=c i) (λk=>rfl) _
end
end
section
section
variable {E:Env}{Z:Sg}{K:V->Sg->Prop}
def AH (c:Nat->Nat->Bool) (i:Nat) (g:Nat->Bool):Nat->Nat->Bool:=λx=>if x=i then g else c x
theorem Im {ex:Bool}{n i:Nat}{c c':Nat->Nat->Bool}(h:∀j,j<i->c j=c' j):qB ex n i c=qB ex n i c':=by
 unfold qB
 refine au _ (jd λj hj=>?_)
 rw[h j (js.1 hj)]
theorem UH (h:bJ E) {ex:Bool}{n i:Nat}{c:Nat->Nat->Bool}{g:Nat->Bool}(hi:i<n):storeAt E (qB ex n i c++[.cells 4 (lU n g) ex]) 105 (.ref 0 i) (.sl (i+1) 0 n none)=some (qB ex n (i+1) (AH c i g)):=by
 have:=OB (ex:=ex) (c:=AH c i g) h hi
 rw[Im (c:=AH c i g) (c':=c) (λj hj=>by unfold AH;rw[ay (by omega)]),show AH c i g i=g from b8 rfl]at this
 exact this
theorem Is {c:Nat->Nat->Bool}{i k:Nat}{g:Nat->Bool}{b:Bool}:Ir (AH c i g) i k b=AH c i (λy=>if y=k then b else g y):=by
 funext x y
 unfold Ir AH
 by_cases hx:x=i
 ·simp[hx]
 ·simp[hx]
theorem MT (n:Nat):fG n [V.bool false]=lU n λ_=>false:=by
 have:∀n:Nat,fG n [V.bool false]=List.replicate n (V.bool false):=by
  intro n
  induction n with
  |zero=>rfl
  |succ n ih=>rw[fG,ih];rfl
 rw[this]
 unfold lU
 rw[List.map_const',l7]
theorem EH (n:Nat):fG n [V.aB]=sQ n 0:=by
 have:∀n:Nat,fG n [V.aB]=List.replicate n V.aB:=by
  intro n
  induction n with
  |zero=>rfl
  |succ n ih=>rw[fG,ih];rfl
 rw[this];rfl
theorem C4 {rs:List aD}{f:bD}{k:Nat}(h:c_ rs f=some k):k<rs.length:=by
 unfold c_ at h
 generalize (λr:aD=>decide (f∈r.outs))=p at h
 induction rs generalizing k with
 |nil=>cases h
 |cons r rs ih=>
  rw[bN]at h
  split at h
  ·cases h;simp
  ·obtain⟨j,hj,rfl⟩:=ou.1 h
   have:=ih hj;simp only[aa];omega
theorem EE {rs:List aD}{f:bD}{k:Nat}(h:fF rs f=some k):k<rs.length:=by
 unfold fF at h
 generalize (λr:aD=>decide (r.name=f))=p at h
 induction rs generalizing k with
 |nil=>cases h
 |cons r rs ih=>
  rw[bN]at h
  split at h
  ·cases h;simp
  ·obtain⟨j,hj,rfl⟩:=ou.1 h
   have:=ih hj;simp only[aa];omega
theorem pZ {α:Type}{p:α->Bool}{l:List α}{j:Nat}{x:α}(hx:l[j]?=some x):(l.take (j+1)).any p=((l.take j).any p||p x):=by
 rw[dh,hx,List.any_append];simp
structure vO (rs:List aD):Prop where
 len:rs.length<=64
 all:∀x∈rs,Small x
theorem nT:idx none = -1:=rfl
theorem dI {k:Nat}:idx (some k)=(k:Int):=rfl
theorem TU (h:bJ E) {a:V}{rs:List aD}(ha:LS bS 46 Z a rs)(hs:vO rs) (data:Bool):aC E 84 [a,.bool data] Z λv σ'=>σ'=Z/\iO rE v (HV rs.length (jU rs data)):=by
 obtain⟨a',ea,ia⟩:=dQ h ha
 rw[aH h.hs84 h.sp84 h.fn84 h.md84 (args':=[a',.bool data]) (by simp only[aU,ea,show aQ Z E.ty true (.bool data)=some (.bool data) from rfl]),aX (by kernel_rfl)]
 have la:=cI h ia
 have hn:=hs.len
 generalize hN:rs.length=n at *
 have c2:decide ((n:Int)*((24:Nat):Int)<=1099511627776)=true:=AT (by omega)
 have c3:decide ((n:Int)<=1099511627776)=true:=AT (by omega)
 have c4:decide ((n:Int)*((1:Nat):Int)<=1099511627776)=true:=AT (by omega)
 have hinit:([O.cells 105 (sQ n 0) true]:Sg)=qB true n 0 (jU rs data):=rfl
 simp only[aA,Tryz.f84,KP,↓reduceIte,reduceLT,reduceAdd,reduceCtorEq,h.uH,h.lO,la,c2,c3,EH,dj,Int.le_refl,hinit]
 refine aV (λi F U=>U=qB true n i (jU rs data)/\F.get 0=a'/\F.get 1=.bool data/\F.get 5=.sl 0 0 n none/\F.get 6=.int .i64 (i:Int)) n ?_ ?_ n 0 _ _ (by omega) ⟨rfl,(by simp +decide only[GS,aj])⟩
 ·rintro i F U hi ⟨rfl,g0,g1,g5,g6⟩ next
  obtain⟨r,hr⟩:∃y,rs[i]?=some y:=⟨_,BY (by omega)⟩
  have hsr:=hs.all r (af hr)
  have a1:=hsr.ins
  have a3:=hsr.after
  obtain⟨g,p1,p2,p3,p4,e1,i1,i2,i3,i4⟩:=dK h ia hr
  have l1:=bP h i1
  have l3:=bP h i3
  have hlt:=eC hi
  have hadd:=bY i (by omega)
  have x1:=Gw h hi
  have s1:=UH (ex:=true) (c:=jU rs data) (g:=λ_=>false) h hi
  rw[aF]
  simp only[KP,↓reduceIte,reduceEqDiff,reduceLT,reduceCtorEq,LG h,h.uC,h.aY,h.bC,h.lO,g0,g5,g6,la,hlt,e1,l1,c3,c4,MT,dj,Int.le_refl,Dl,x1,s1]
  generalize hc:jU rs data=c at *
  have hmem:∀x∈rs,x.outs.length<=4294967296:=λx hx=>by have:=(hs.all x hx).outs;omega
  refine aV (λj F U=>U=qB true n (i+1) (AH c i λk=>(r.ins.take j).any λf=>decide (c_ rs f=some k))/\F.get 0=a'/\F.get 1=.bool data/\F.get 5=.sl 0 0 n none/\F.get 6=.int .i64 (i:Int)/\F.get 32=p1/\F.get 33=.int .i64 (r.ins.length:Int)/\F.get 34=.int .i64 (j:Int)) r.ins.length ?_ ?_ r.ins.length 0 _ _ (by omega) ⟨by simp,(by simp +decide only[GS,g0,g1,g5,g6,aj])⟩
  ·rintro j F U hj ⟨rfl,g0,g1,g5,g6,g32,g33,g34⟩ next2
   obtain⟨f,hf⟩:∃y,r.ins[j]?=some y:=⟨_,BY hj⟩
   obtain⟨g,e2⟩:=gI h i1 hf
   have hlt2:=eC hj
   have hadd2:=bY j (by omega)
   generalize hC:(AH c i λk=>(r.ins.take j).any λf=>decide (c_ rs f=some k))=C
   have km:=LO (Z:=qB true n (i+1) C) h (s:=f) (ia.ls _ 46) hmem (by omega)
   rw[aF]
   cases hm:c_ rs f with
   |none=>
    simp only[KP,↓reduceIte,reduceEqDiff,reduceLT,reduceCtorEq,Int.reduceLE,reduceNeg,qW h,g0,g32,g33,g34,hlt2,e2,km,hm,nT,hadd2]
    refine next2 _ _ ⟨?_,(by simp +decide only[GS,g0,g1,g5,g6,g32,g33,aj])⟩
    rw[<- hC]
    refine au _ (au _ (funext λk=>?_))
    rw[pZ hf,hm];simp
   |some k=>
    have hk:=C4 hm
    rw[hN]at hk
    have c0:decide ((0:Int)<=(k:Int))=true:=AT (by omega)
    have x2:=Gp (ex:=true) (c:=C) h (show i<i+1 by omega) (n:=n)
    have x3:=De h (j:=i) hk
    have x4:=Jz (ex:=true) (c:=C) (b:=true) h (show i<i+1 by omega) hk
    simp only[KP,↓reduceIte,reduceEqDiff,reduceLT,reduceCtorEq,qW h,g0,g5,g6,g32,g33,g34,hlt2,e2,km,hm,dI,x1,x2,x3,x4,hadd2]
    refine next2 _ _ ⟨?_,(by simp +decide only[GS,g0,g1,g5,g6,g32,g33,aj])⟩
    rw[<- hC,Is]
    refine au _ (au _ (funext λy=>?_))
    rw[pZ hf,hm]
    by_cases hy:y=k
    ·subst hy;simp
    ·rw[ay hy,AI (λe=>hy (cv e).symm),Bool.or_false]
  ·rintro F U ⟨rfl,g0,g1,g5,g6,g32,g33,g34⟩
   have hlt2:=eG (bg r.ins.length)
   rw[ak (ae _)]
   rw[aF]
   simp only[KP,↓reduceIte,reduceEqDiff,reduceLT,reduceCtorEq,LG h,h.aY,h.bC,g0,g6,g33,g34,hlt2,e1,l3]
   refine aV (λj F U=>U=qB true n (i+1) (AH c i λk=>(r.ins.any λf=>decide (c_ rs f=some k))||(!data&&(r.after.take j).any λm=>decide (fF rs m=some k)))/\F.get 0=a'/\F.get 1=.bool data/\F.get 5=.sl 0 0 n none/\F.get 6=.int .i64 (i:Int)/\F.get 54=p3/\F.get 55=.int .i64 (r.after.length:Int)/\F.get 56=.int .i64 (j:Int)) r.after.length ?_ ?_ r.after.length 0 _ _ (by omega) ⟨by simp,(by simp +decide only[GS,g0,g1,g5,g6,aj])⟩
   ·rintro j F U hj ⟨rfl,g0,g1,g5,g6,g32,g33,g34⟩ next2
    obtain⟨f,hf⟩:∃y,r.after[j]?=some y:=⟨_,BY hj⟩
    obtain⟨g,e2⟩:=gI h i3 hf
    have hlt2:=eC hj
    have hadd2:=bY j (by omega)
    generalize hC:(AH c i λk=>(r.ins.any λf=>decide (c_ rs f=some k))||(!data&&(r.after.take j).any λm=>decide (fF rs m=some k)))=C
    have km:=VT (Z:=qB true n (i+1) C) h (s:=f) (ia.ls _ 46) (by omega)
    rw[aF]
    cases hm:fF rs f with
    |none=>
     simp only[KP,↓reduceIte,reduceEqDiff,reduceLT,reduceCtorEq,Int.reduceLE,reduceNeg,qW h,g0,g32,g33,g34,hlt2,e2,km,hm,nT,hadd2]
     refine next2 _ _ ⟨?_,(by simp +decide only[GS,g0,g1,g5,g6,g32,g33,aj])⟩
     rw[<- hC]
     refine au _ (au _ (funext λk=>?_))
     rw[pZ hf,hm];simp
    |some k=>
     have hk:=EE hm
     rw[hN]at hk
     have c0:decide ((0:Int)<=(k:Int))=true:=AT (by omega)
     cases data with
     |true=>
      simp only[KP,↓reduceIte,reduceEqDiff,reduceLT,reduceCtorEq,qW h,g0,g1,g32,g33,g34,hlt2,e2,km,hm,dI,hadd2]
      refine next2 _ _ ⟨?_,(by simp +decide only[GS,g0,g1,g5,g6,g32,g33,aj])⟩
      rw[<- hC]
      refine au _ (au _ (funext λk=>?_))
      simp
     |false=>
      have x2:=Gp (ex:=true) (c:=C) h (show i<i+1 by omega) (n:=n)
      have x3:=De h (j:=i) hk
      have x4:=Jz (ex:=true) (c:=C) (b:=true) h (show i<i+1 by omega) hk
      simp only[KP,↓reduceIte,reduceEqDiff,reduceLT,reduceCtorEq,qW h,g0,g1,g5,g6,g32,g33,g34,hlt2,e2,km,hm,dI,x1,x2,x3,x4,hadd2]
      refine next2 _ _ ⟨?_,(by simp +decide only[GS,g0,g1,g5,g6,g32,g33,aj])⟩
      rw[<- hC,Is]
      refine au _ (au _ (funext λy=>?_))
      rw[pZ hf,hm]
      by_cases hy:y=k
      ·subst hy;simp
      ·rw[ay hy,AI (λe=>hy (cv e).symm),Bool.or_false]
   ·rintro F U ⟨rfl,g0,g1,g5,g6,g32,g33,g34⟩
    have hlt2:=eG (bg r.after.length)
    rw[ak (ae _)]
    rw[aF]
    simp only[KP,↓reduceIte,reduceEqDiff,reduceLT,g6,g33,g34,hlt2,hadd]
    refine next _ _ ⟨Im λj hj=>?_,(by simp +decide only[GS,g0,g1,g5,aj])⟩
    unfold AH
    by_cases hji:j=i
    ·subst hji
     rw[b8 rfl,<- hc]
     funext k
     unfold jU zI
     rw[hr]
    ·rw[ay hji]
 ·rintro F U ⟨rfl,g0,g1,g5,g6⟩
  have hlt:=eG (bg n)
  rw[aF]
  obtain⟨v,e1,hv⟩:=Ho (ex:=true) (n:=n) (c:=jU rs data) h
  simp only[KP,↓reduceIte,reduceEqDiff,reduceLT,reduceCtorEq,g0,g5,g6,la,hlt,e1]
  exact hv
end
end
section
section
variable {E:Env}{Z:Sg}{K:V->Sg->Prop}
theorem KE {rs:List (List V)}{n:Nat}{g:Nat->Bool}(h:dS rV.P rs ((List.range n).map g)):rs.flatten=lU n g:=by
 have:∀{rs:List (List V)}{l:List Bool},dS rV.P rs l->rs.flatten=l.map V.bool:=by
  intro rs l h
  induction h with
  |nil=>rfl
  |cons p _ ih=>rw[da,ih,show _=[V.bool _] from p];rfl
 rw[this h,ku];rfl
theorem T0 (h:bJ E) {U:Sg}{v:V}{n:Nat}{g:Nat->Bool}(hn:0<n)(hn2:n<=64) (iv:IS rV v ((List.range n).map g)):Ax.append E U #[105,105] .aB v=some (.sl U.length 0 n none,U++[.cells 4 (lU n g) false]):=by
 obtain⟨rs,e,ha⟩:=mI iv U
 have hn0:¬ n=0:=by omega
 have e:elems U 1 v=some (rs.flatten,n):=by rw[az,l7]at e;exact e
 have hr:lF n 1=true:=Am (b:=64) (by decide) hn2
 unfold Ax.append
 simp only[show (#[105,105]:Array Nat)[0]?=some 105 from rfl,h.lO,h.uC,HI h,e,hn0,hr,b9,aq,di,j9,ai,KE ha,Nat.reduceBEq]
def xD (m:Nat->Nat->Bool) (k i j:Nat):Nat->Nat->Bool:=λx y=>if x<i\/(x=i/\y<j) then wk m (k+1) x y else wk m k x y
theorem Wo {m:Nat->Nat->Bool}{k i j:Nat}:xD m k i j i k=wk m k i k:=by
 unfold xD;split
 ·exact Of k i
 ·rfl
theorem Wn {m:Nat->Nat->Bool}{k i j y:Nat}:xD m k i j k y=wk m k k y:=by
 unfold xD;split
 ·exact Oe k y
 ·rfl
theorem Wq {m:Nat->Nat->Bool}{k i j:Nat}:xD m k i j i j=wk m k i j:=by
 unfold xD;rw[ay (by omega)]
theorem TD {m:Nat->Nat->Bool}{k i j:Nat}{b:Bool}(hb:b=wk m (k+1) i j):Ir (xD m k i j) i j b=xD m k i (j+1):=by
 funext x y
 unfold Ir xD
 by_cases h1:x=i
 ·subst h1
  by_cases h2:y=j
  ·subst h2
   rw[b8 ⟨rfl,rfl⟩,b8 (by omega),hb]
  ·rw[ay (by omega)]
   by_cases h3:y<j
   ·rw[b8 (by omega),b8 (by omega)]
   ·rw[ay (by omega),ay (by omega)]
 ·rw[ay (by omega)]
  by_cases h3:x<i
  ·rw[b8 (by omega),b8 (by omega)]
  ·rw[ay (by omega),ay (by omega)]
theorem wG {ex:Bool}{n i:Nat}{c c':Nat->Nat->Bool}(h:∀j,j<i->∀y,y<n->c j y=c' j y):qB ex n i c=qB ex n i c':=by
 unfold qB
 refine au _ (jd λj hj=>?_)
 refine au (λl=>O.cells 4 l ex) (jd λy hy=>?_)
 rw[h j (js.1 hj) y (js.1 hy)]
theorem Re (h:bJ E) {a:V}{n:Nat}{m:Nat->Nat->Bool}(hn:n<=64) (ia:IS rE a (HV n m)):aC E 96 [a] Z λv σ'=>σ'=Z/\iO rE v (HV n (wk m n)):=by
 rw[aH h.hs96 h.sp96 h.fn96 h.md96 (args':=[a]) (by simp only[aU,oW ia Z]),aX (by kernel_rfl)]
 have la:=P5 h ia
 rw[Sk]at la
 have c2:decide ((n:Int)*((24:Nat):Int)<=1099511627776)=true:=AT (by omega)
 have c3:decide ((n:Int)<=1099511627776)=true:=AT (by omega)
 have hinit:([O.cells 105 (sQ n 0) true]:Sg)=qB false n 0 m:=rfl
 have d16:=h.Wa
 simp only[aA,Tryz.f96,cutAt,ag]at d16
 simp only[aA,Tryz.f96,KP,↓reduceIte,reduceLT,reduceCtorEq,h.uH,h.lO,la,c2,c3,EH,dj,Int.le_refl,hinit]
 refine aV (λi F U=>U=qB false n i m/\F.get 0=a/\F.get 3=.int .i64 (n:Int)/\F.get 4=.sl 0 0 n none/\F.get 5=.int .i64 (i:Int)) n ?_ ?_ n 0 _ _ (by omega) ⟨rfl,(by simp +decide only[GS,aj])⟩
 ·rintro i F U hi ⟨rfl,g0,g3,g4,g5⟩ next
  obtain⟨g,r,e1,rv,hr,irv⟩:=Mm h ia (Lu hi)
  have e1:indexAddr E 68 a (.int .i64 (i:Int))=some (.dH g [rv]):=by rw[e1,hr]
  have hlt:=eC hi
  have hadd:=bY i (by omega)
  have x1:=Gw h hi
  have ha:=T0 (U:=qB false n i m) h (by omega) hn irv
  rw[Dl]at ha
  have s1:=OB (ex:=false) (c:=m) h hi
  rw[aF]
  simp only[KP,↓reduceIte,reduceEqDiff,reduceLT,reduceCtorEq,jO h,g0,g3,g4,g5,hlt,e1,x1,ha,s1,hadd]
  exact next _ _ ⟨rfl,(by simp +decide only[GS,g0,g3,g4,aj])⟩
 ·rintro F U ⟨rfl,g0,g3,g4,g5⟩
  have hlt:=eG (bg n)
  rw[aF]
  simp only[KP,↓reduceIte,reduceEqDiff,reduceLT,g3,g5,hlt]
  refine aV (λk F U=>U=qB false n n (wk m k)/\F.get 3=.int .i64 (n:Int)/\F.get 4=.sl 0 0 n none/\F.get 6=.int .i64 (k:Int)) n ?_ ?_ n 0 _ _ (by omega) ⟨rfl,(by simp +decide only[GS,g3,g4,aj])⟩
  ·rintro k F U hk ⟨rfl,g3,g4,g6⟩ next
   have hlt:=eC hk
   have haddk:=bY k (by omega)
   rw[aF]
   simp only[KP,↓reduceIte,reduceEqDiff,reduceLT,g3,g6,hlt]
   refine aV (λi F U=>U=qB false n n (xD m k i 0)/\F.get 3=.int .i64 (n:Int)/\F.get 4=.sl 0 0 n none/\F.get 6=.int .i64 (k:Int)/\F.get 7=.int .i64 (i:Int)) n ?_ ?_ n 0 _ _ (by omega) ⟨wG λx hx y hy=>by unfold xD;rw[ay (by omega)],(by simp +decide only[GS,g3,g4,g6,aj])⟩
   ·rintro i F U hi ⟨rfl,g3,g4,g6,g7⟩ next2
    have hlt:=eC hi
    have haddi:=bY i (by omega)
    rw[aF]
    simp only[KP,↓reduceIte,reduceEqDiff,reduceLT,g3,g7,hlt]
    refine aV (λj F U=>U=qB false n n (xD m k i j)/\F.get 3=.int .i64 (n:Int)/\F.get 4=.sl 0 0 n none/\F.get 6=.int .i64 (k:Int)/\F.get 7=.int .i64 (i:Int)/\F.get 8=.int .i64 (j:Int)) n ?_ ?_ n 0 _ _ (by omega) ⟨rfl,(by simp +decide only[GS,g3,g4,g6,g7,aj])⟩
    ·rintro j F U hj ⟨rfl,g3,g4,g6,g7,g8⟩ next3
     have hlt:=eC hj
     have haddj:=bY j (by omega)
     have v1:=Wo (m:=m) (k:=k) (i:=i) (j:=j)
     have v2:=Wn (m:=m) (k:=k) (i:=i) (j:=j) (y:=j)
     have v3:=Wq (m:=m) (k:=k) (i:=i) (j:=j)
     have v4:=λb hb=>TD (m:=m) (k:=k) (i:=i) (j:=j) (b:=b) hb
     have v5:wk m k i k=false->qB false n n (xD m k i j)=qB false n n (xD m k (i+1) 0):=λhb=>wG λx hx y hy=>by
      unfold xD
      by_cases h1:x=i
      ·subst h1
       rw[b8 (show x<x+1\/x=x+1/\y<0 by omega)]
       split
       ·rfl
       ·rw[wk,hb];simp
      ·by_cases h3:x<i
       ·rw[b8 (by omega),b8 (by omega)]
       ·rw[ay (by omega),ay (by omega)]
     generalize hC:xD m k i j=C at *
     have y1:=Gw h hi
     have y2:=Gp (ex:=false) (c:=C) h hi (n:=n)
     have y3:=De h (j:=i) hk
     have y4:=J4 (ex:=false) (c:=C) h hi hk
     have y5:=De h (j:=i) hj
     have y6:=J4 (ex:=false) (c:=C) h hi hj
     have z1:=Gw h hk
     have z2:=Gp (ex:=false) (c:=C) h hk (n:=n)
     have z3:=De h (j:=k) hj
     have z4:=J4 (ex:=false) (c:=C) h hk hj
     have st1:=λb=>Jz (ex:=false) (c:=C) (b:=b) h hi hj
     rw[v1]at y4
     rw[v3]at y6
     rw[v2]at z4
     rw[aF]
     cases w1:wk m k i k with
     |false=>
      simp only[KP,↓reduceIte,reduceEqDiff,reduceLT,g3,g4,g6,g7,g8,hlt,y1,y2,y3,y4,w1,haddi]
      rw[v5 w1]
      exact next2 _ _ ⟨rfl,(by simp +decide only[GS,g3,g4,g6,aj])⟩
     |true=>
      have w3:∀b,b=(wk m k i j||wk m k k j)->Ir C i j b=xD m k i (j+1):=λb hb=>v4 b (by rw[hb,wk,w1,iz])
      cases w2:wk m k i j with
      |true=>
       simp only[KP,↓reduceIte,reduceEqDiff,reduceLT,g3,g4,g6,g7,g8,hlt,y1,y2,y3,y4,y5,y6,w1,w2,st1,haddj,aK d16,a_]
       rw[w3 true (by rw[w2];rfl)]
       exact next3 _ _ ⟨rfl,(by simp +decide only[GS,g3,g4,g6,g7,aj])⟩
      |false=>
       simp only[KP,↓reduceIte,reduceEqDiff,reduceLT,g3,g4,g6,g7,g8,hlt,y1,y2,y3,y4,y5,y6,z1,z2,z3,z4,w1,w2,st1,haddj,aK d16,a_]
       rw[w3 _ (by rw[w2,Bool.false_or])]
       exact next3 _ _ ⟨rfl,(by simp +decide only[GS,g3,g4,g6,g7,aj])⟩
    ·rintro F U ⟨rfl,g3,g4,g6,g7,g8⟩
     have hlt:=eG (bg n)
     have v5:qB false n n (xD m k i n)=qB false n n (xD m k (i+1) 0):=wG λx hx y hy=>by
      unfold xD
      by_cases h3:x<i+1
      ·rw[b8 (by omega),b8 (by omega)]
      ·rw[ay (by omega),ay (by omega)]
     rw[aF]
     simp only[KP,↓reduceIte,reduceEqDiff,reduceLT,g3,g7,g8,hlt,haddi]
     rw[v5]
     exact next2 _ _ ⟨rfl,(by simp +decide only[GS,g3,g4,g6,aj])⟩
   ·rintro F U ⟨rfl,g3,g4,g6,g7⟩
    have hlt:=eG (bg n)
    have v5:qB false n n (xD m k n 0)=qB false n n (wk m (k+1)):=wG λx hx y hy=>by
     unfold xD
     rw[b8 (by omega)]
    rw[aF]
    simp only[KP,↓reduceIte,reduceEqDiff,reduceLT,g3,g6,g7,hlt,haddk]
    rw[v5]
    exact next _ _ ⟨rfl,(by simp +decide only[GS,g3,g4,aj])⟩
  ·rintro F U ⟨rfl,g3,g4,g6⟩
   have hlt:=eG (bg n)
   obtain⟨v,e1,hv⟩:=Ho (ex:=false) (n:=n) (c:=wk m n) h
   rw[aF]
   simp only[KP,↓reduceIte,reduceEqDiff,reduceLT,g3,g4,g6,hlt,e1]
   exact hv
end
end
section
section
variable {E:Env}{Z:Sg}{K:V->Sg->Prop}
theorem Az (h:bJ E) {v:V}{n:Nat}{c:Nat->Nat->Bool} (iv:IS rE v (HV n c)) {i k:Nat}(hi:i<n)(hk:k<n):∃g rv g2,indexAddr E 68 v (.int .i64 (i:Int))=some (.dH g [rv])/\indexAddr E 105 rv (.int .i64 (k:Int))=some (.dH g2 [.bool (c i k)]):=by
 obtain⟨g,r,e1,rv,hr,irv⟩:=Mm h iv (Lu hi)
 obtain⟨g2,r2,e2,hr2⟩:=Rp h irv (R6 hk)
 exact⟨g,rv,g2,by rw[e1,hr],by rw[e2,show r2=[.bool (c i k)] from hr2]⟩
theorem AD (h:bJ E) {n i:Nat}(hi:i<n):indexAddr E 115 (.sl 0 0 n none) (.int .i64 (i:Int))=some (.ref 0 i):=by
 have hneg:¬ ((i:Int)<0):=by omega
 unfold indexAddr
 simp only[hneg,aq,h.Oo,h.oU,dj,hi,b9,cz,nf]
theorem Gq (h:bJ E) {U:Sg}{bR:List Int}{i:Nat}(hb:U[0]?=some (O.cells 3 (bR.map (V.int .i64)) true))(hi:i<bR.length):loadAt E U 3 (.ref 0 i)=some (.int .i64 (eS bR i)):=by
 unfold loadAt
 simp only[h.oU,hb,Ax.isAgg,ai,aq,kq,BY hi,bt]
 unfold eS
 rw[BY hi];rfl
structure abW (rs:List aD) (n first:Nat) (m:Nat->Nat->Bool) (bR:List Int):Prop where
 cnt:rs.length=n
 le:n<=64
 bR:mN m n first (n+1) 0 0 bR
theorem Sa {U:Sg}{w:V}{l:List bD}{bR:List Int}(hb:U[0]?=some (O.cells 3 (bR.map (V.int .i64)) true)) (ow:bH aM 9 U w l):aZ w≠some 0:=by
 refine kV hb (by decide) ow
theorem QB (h:bJ E) {a vm:V}{rs:List aD}{n first:Nat}{m:Nat->Nat->Bool}{bR:List Int} (t:abW rs n first m bR) (ia:IS bS a rs) (im:IS rE vm (HV n m)) {U:Sg}{w:V}{l:List bD}{at_ left:Nat} (b0:U[0]?=some (O.cells 3 (bR.map (V.int .i64)) true)) (ow:bH aM 9 U w l)(hl:l≠[]/\l.length+left<=100)(hat:at_<n)(hle:0<left->∃k,k<n/\m at_ k=true/\eS bR k=(left:Int))
  (F:FT) (g0:F.get 0=a) (g3:F.get 3=vm) (g7:F.get 7=.sl 0 0 n none) (g14:F.get 14=w) (g15:F.get 15=.int .i64 (at_:Int)) (g16:F.get 16=.int .i64 (left:Int))
  (hk:∀U w l,l≠[]->bH aM 9 U w l->K w U):R E (.loop (cutAt [1,1,1,1,1,1,1,1,1,1,1,1,1,1,0,1,2,2] (aA Tryz.f112).code)) [.blk 12,.k (cutAt [1,1,1,1,1,1,1,1,1,1,1,1,1,1,1] (aA Tryz.f112).code)] ⟨216,F⟩ U (mQ E (aA Tryz.f112).results K):=by
 have tn:=t.cnt
 have tl:=t.le
 have tfl:=t.bR.len
 have la:=cI h ia
 rw[tn]at la
 have d44:=h.Tu
 simp only[aA,Tryz.f112,cutAt,ag]at d44
 refine aV (λi F U=>U[0]?=some (O.cells 3 (bR.map (V.int .i64)) true)/\F.get 0=a/\F.get 3=vm/\F.get 7=.sl 0 0 n none/\F.get 16=.int .i64 ((left-i:Nat):Int)/\(∃w l,F.get 14=w/\bH aM 9 U w l/\l≠[]/\l.length+(left-i)<=100)/\∃q:Nat,F.get 15=.int .i64 (q:Int)/\q<n/\(0<left-i->∃k,k<n/\m q k=true/\eS bR k=((left-i:Nat):Int))) left ?_ ?_ left 0 _ _ (by omega) ⟨b0,g0,g3,g7,g16,⟨w,l,g14,ow,hl⟩,at_,g15,hat,hle⟩
 ·rintro i F U hi ⟨b0,g0,g3,g7,g16,⟨w,l,g14,ow,hl1,hl2⟩,q,g15,hq,hex⟩ next
  obtain⟨k0,hk0,hm0,hf0⟩:=hex (by omega)
  generalize hL:left-i=L at *
  have hgt:decide ((0:Int)<(L:Int))=true:=AT (by omega)
  have hdn:=Ek L (by omega) (by omega)
  rw[aF]
  simp only[aA,Tryz.f112,KP,↓reduceIte,reduceLT,reduceNeg,cutAt,g16,hgt]
  refine aV (λk F τ'=>τ'=U/\F.get 0=a/\F.get 3=vm/\F.get 7=.sl 0 0 n none/\F.get 14=w/\F.get 15=.int .i64 (q:Int)/\F.get 16=.int .i64 (L:Int)/\F.get 18=.int .i64 (k:Int)/\∃o:Option Nat,F.get 17=.int .i64 (idx o)/\((o=none/\∀j,j<k->¬ (m q j=true/\eS bR j=(L:Int)))\/∃p,o=some p/\p<n/\m q p=true/\eS bR p=(L:Int))) n ?_ ?_ n 0 _ _ (by omega) ⟨rfl,(Fp (by simp +decide only[GS,g0,g3,g7,g14,g15,g16,aj]) ⟨none,(by simp +decide only[GS,nT]),.inl ⟨rfl,λj hj=>by omega⟩⟩)⟩
  ·rintro k F τ' hk ⟨rfl,g0,g3,g7,g14,g15,g16,g18,o,g17,ho⟩ next2
   have hlt:=eC hk
   have hadd:=bY k (by omega)
   obtain⟨u1,rv,u2,e1,e2⟩:=Az h im hq hk
   have e3:=AD h hk
   have e4:=Gq h b0 (i:=k) (by omega)
   obtain⟨rk,hrk⟩:∃y,rs[k]?=some y:=⟨_,BY (by omega)⟩
   obtain⟨v1,p1,p2,p3,p4,e5,-⟩:=dK h ia hrk
   rw[aF]
   cases c1:m q k with
   |false=>
    simp only[KP,↓reduceIte,reduceEqDiff,reduceLT,reduceCtorEq,reduceNeg,uX h,jO h,g0,g3,g15,g18,la,hlt,e1,e2,c1,hadd,aK d44,a_]
    refine next2 _ _ ⟨rfl,(Fp (by simp +decide only[GS,g0,g3,g7,g14,g15,g16,aj]) ⟨o,(by simp +decide only[GS,g17]),ho.imp (λ⟨h1,h2⟩=>⟨h1,λj hj=>?_⟩) id⟩)⟩
    rcases cj j k with g | g
    ·exact h2 j g
    ·obtain rfl:j=k:=by omega
     rw[c1];simp
   |true=>
    by_cases c2:eS bR k=(L:Int)
    case neg=>
     have d2:decide (eS bR k=(L:Int))=false:=AI c2
     simp only[KP,↓reduceIte,reduceEqDiff,reduceLT,reduceCtorEq,reduceNeg,uX h,jO h,g0,g3,g7,g15,g16,g18,la,hlt,e1,e2,e3,e4,c1,d2,hadd,aK d44,a_]
     refine next2 _ _ ⟨rfl,(Fp (by simp +decide only[GS,g0,g3,g7,g14,g15,g16,aj]) ⟨o,(by simp +decide only[GS,g17]),ho.imp (λ⟨h1,h2⟩=>⟨h1,λj hj=>?_⟩) id⟩)⟩
     rcases cj j k with g | g
     ·exact h2 j g
     ·obtain rfl:j=k:=by omega
      exact λe=>c2 e.2
    have d2:decide (eS bR k=(L:Int))=true:=AT c2
    rcases ho with⟨rfl,-⟩ | ⟨p,rfl,hp,hmp,hfp⟩
    ·simp only[KP,↓reduceIte,reduceEqDiff,reduceLT,reduceCtorEq,Int.reduceLT,reduceNeg,uX h,jO h,g0,g3,g7,g15,g16,g17,g18,la,hlt,e1,e2,e3,e4,c1,d2,hadd,nT,aK d44,a_]
     exact next2 _ _ ⟨rfl,(Fp (by simp +decide only[GS,g0,g3,g7,g14,g15,g16,aj]) ⟨some k,(by simp +decide only[GS,dI]),.inr ⟨k,rfl,hk,c1,c2⟩⟩)⟩
    ·have c0:decide ((p:Int)<0)=false:=AI (by omega)
     obtain⟨rp,hrp⟩:∃y,rs[p]?=some y:=⟨_,BY (by omega)⟩
     obtain⟨v2,q1,q2,q3,q4,e6,-⟩:=dK h ia hrp
     cases c3:Ax.slt rk.name rp.name with
     |true=>
      simp only[KP,↓reduceIte,reduceEqDiff,reduceLT,reduceCtorEq,reduceNeg,uX h,qW h,jO h,h.cM,h.bC,g0,g3,g7,g15,g16,g17,g18,la,hlt,e1,e2,e3,e4,e5,e6,c1,d2,c0,c3,hadd,dI,aK d44,a_]
      exact next2 _ _ ⟨rfl,(Fp (by simp +decide only[GS,g0,g3,g7,g14,g15,g16,aj]) ⟨some k,(by simp +decide only[GS,dI]),.inr ⟨k,rfl,hk,c1,c2⟩⟩)⟩
     |false=>
      simp only[KP,↓reduceIte,reduceEqDiff,reduceLT,reduceCtorEq,reduceNeg,uX h,qW h,jO h,h.cM,h.bC,g0,g3,g7,g15,g16,g17,g18,la,hlt,e1,e2,e3,e4,e5,e6,c1,d2,c0,c3,hadd,dI,aK d44,a_]
      exact next2 _ _ ⟨rfl,(Fp (by simp +decide only[GS,g0,g3,g7,g14,g15,g16,aj]) ⟨some p,(by simp +decide only[GS,g17]),.inr ⟨p,rfl,hp,hmp,hfp⟩⟩)⟩
  ·rintro F τ' ⟨rfl,g0,g3,g7,g14,g15,g16,g18,o,g17,ho⟩
   have hlt:=eG (bg n)
   rcases ho with⟨rfl,hno⟩ | ⟨p,rfl,hp,hmp,hfp⟩
   ·exact absurd ⟨hm0,hf0⟩ (hno k0 hk0)
   ·obtain⟨rp,hrp⟩:∃y,rs[p]?=some y:=⟨_,BY (by omega)⟩
    obtain⟨v2,q1,q2,q3,q4,e6,-⟩:=dK h ia hrp
    obtain⟨w2,τ2,ha2,o2,k2,n2⟩:=GP (s:=rp.name) (ex:=true) h ow (by omega)
    rw[aF]
    simp only[KP,↓reduceIte,reduceEqDiff,reduceLT,reduceLeDiff,reduceMul,reduceCtorEq,reduceNeg,qW h,h.cM,h.aY,h.bC,g0,g14,g16,g17,g18,la,hlt,e6,dI,lB,ha2,hdn]
    clear hex
    have hLi:L-1=left-(i+1):=by rw[<- hL,Nat.sub_sub]
    have b2:=k2 0 _ (aP b0) (Sa b0 ow)
    refine next _ _ ⟨b2,(gE (by simp +decide only[GS,g0,g3,g7,aj]) ⟨?_,⟨w2,_,(by simp +decide only[GS]),o2,by simp,?_⟩,p,(by simp +decide only[GS]),hp,λhpos=>?_⟩)⟩
    ·rw[hLi];exact (by simp +decide only[GS])
    ·simp only[an,aa,bf];omega
    ·obtain⟨e,he⟩:∃e:Nat,L=e+1:=⟨L-1,by omega⟩
     obtain⟨k',h1,h2,h3⟩:=t.bR.down p e hp (by rw[hfp,he];omega)
     exact⟨k',h1,h2,by rw[h3];omega⟩
 ·rintro F U ⟨b0,g0,g3,g7,g16,⟨w,l,g14,ow,hl1,hl2⟩,-⟩
  rw[ju]at g16
  rw[aF]
  simp only[aA,Tryz.f112,KP,↓reduceIte,reduceEqDiff,reduceLT,Int.reduceLT,reduceNeg,cutAt,g16,g14]
  exact hk _ _ _ hl1 ow
end
end
section
section
variable {E:Env}{Z:Sg}{K:V->Sg->Prop}
theorem QD (h:bJ E) {a vm:V}{rs:List aD}{n first:Nat}{m:Nat->Nat->Bool}{bR:List Int} (t:abW rs n first m bR) (ia:IS bS a rs) (im:IS rE vm (HV n m))(hf:first<n)(hex:∃k,k<n/\m first k=true/\0<=eS bR k)
  (F:FT) (g0:F.get 0=a) (g3:F.get 3=vm) (g5:F.get 5=.int .i64 (first:Int)) (g7:F.get 7=.sl 0 0 n none)
  (hk:∀U w l,l≠[]->bH aM 9 U w l->K w U):R E (cutAt [1,1,1,1,1,1,1,1,1,1] (aA Tryz.f112).code) [] ⟨216,F⟩ [O.cells 3 (bR.map (V.int .i64)) true] (mQ E (aA Tryz.f112).results K):=by
 have tn:=t.cnt
 have tl:=t.le
 have tfl:=t.bR.len
 have la:=cI h ia
 rw[tn]at la
 have b0:([O.cells 3 (bR.map (V.int .i64)) true]:Sg)[0]?=some (O.cells 3 (bR.map (V.int .i64)) true):=rfl
 have key:=λU w l at_ left b0 ow hl hat hle F g0 g3 g7 g14 g15 g16=>QB (K:=K) h t ia im (U:=U) (w:=w) (l:=l) (at_:=at_) (left:=left) b0 ow hl hat hle F g0 g3 g7 g14 g15 g16 hk
 rw[show cutAt [1,1,1,1,1,1,1,1,1,1] (aA Tryz.f112).code=.seq (cutAt [1,1,1,1,1,1,1,1,1,1,0] (aA Tryz.f112).code) (.seq (.seq (cutAt [1,1,1,1,1,1,1,1,1,1,1,0,0] (aA Tryz.f112).code) (.block 10 (.loop (cutAt [1,1,1,1,1,1,1,1,1,1,1,0,1,2,2] (aA Tryz.f112).code)))) (.seq (cutAt [1,1,1,1,1,1,1,1,1,1,1,1,0] (aA Tryz.f112).code) (.seq (cutAt [1,1,1,1,1,1,1,1,1,1,1,1,1,0] (aA Tryz.f112).code) (.seq (.seq (cutAt [1,1,1,1,1,1,1,1,1,1,1,1,1,1,0,0] (aA Tryz.f112).code) (.block 12 (.loop (cutAt [1,1,1,1,1,1,1,1,1,1,1,1,1,1,0,1,2,2] (aA Tryz.f112).code)))) (cutAt [1,1,1,1,1,1,1,1,1,1,1,1,1,1,1] (aA Tryz.f112).code))))) from rfl]
 generalize cutAt [1,1,1,1,1,1,1,1,1,1,1,1,1,1,0,1,2,2] (aA Tryz.f112).code=D at *
 generalize cutAt [1,1,1,1,1,1,1,1,1,1,1,1,1,1,1] (aA Tryz.f112).code=C at *
 simp only[aA,Tryz.f112,KP,↓reduceIte,reduceLT,reduceNeg,cutAt]
 refine aV (λk F U=>U=[O.cells 3 (bR.map (V.int .i64)) true]/\F.get 0=a/\F.get 3=vm/\F.get 5=.int .i64 (first:Int)/\F.get 7=.sl 0 0 n none/\F.get 13=.int .i64 (k:Int)/\((F.get 12=.int .i64 0/\∀j,j<k->¬ (m first j=true/\0<=eS bR j))\/∃(q e:Nat),F.get 12=.int .i64 ((e+1:Nat):Int)/\q<n/\m first q=true/\eS bR q=(e:Int))) n ?_ ?_ n 0 _ _ (by omega) ⟨rfl,(mT (by simp +decide only[GS,g0,g3,g5,g7,aj]) (.inl ⟨(by simp +decide only[GS]),λj hj=>by omega⟩))⟩
 ·rintro k F U hk2 ⟨rfl,g0,g3,g5,g7,g13,ho⟩ next
  have hlt:=eC hk2
  have hadd:=bY k (by omega)
  obtain⟨u1,rv,u2,e1,e2⟩:=Az h im hf hk2
  have e3:=AD h hk2
  have e4:=Gq h b0 (i:=k) (by omega)
  rw[aF]
  have hno:¬ (m first k=true/\0<=eS bR k)->((F.get 12=.int .i64 0/\∀j,j<k+1->¬ (m first j=true/\0<=eS bR j))\/∃(q e:Nat),F.get 12=.int .i64 ((e+1:Nat):Int)/\q<n/\m first q=true/\eS bR q=(e:Int)):=λhn=>ho.imp (λ⟨h1,h2⟩=>⟨h1,λj hj=>by
   rcases cj j k with g | g
   ·exact h2 j g
   ·obtain rfl:j=k:=by omega
    exact hn⟩) id
  have tr:∀{F':FT},F'.get 12=F.get 12->¬ (m first k=true/\0<=eS bR k)->((F'.get 12=.int .i64 0/\∀j,j<k+1->¬ (m first j=true/\0<=eS bR j))\/∃(q e:Nat),F'.get 12=.int .i64 ((e+1:Nat):Int)/\q<n/\m first q=true/\eS bR q=(e:Int)):=λhF hn=>by rw[hF];exact hno hn
  cases c1:m first k with
  |false=>
   simp only[KP,↓reduceIte,reduceEqDiff,reduceLT,reduceCtorEq,uX h,jO h,g0,g3,g5,g13,la,hlt,e1,e2,c1,hadd]
   exact next _ _ ⟨rfl,(mT (by simp +decide only[GS,g0,g3,g5,g7,aj]) (tr (by simp +decide only[GS]) (λe=>by rw[c1]at e;cases e.1)))⟩
  |true=>
   by_cases c2:0<=eS bR k
   case neg=>
    have d2:decide (0<=eS bR k)=false:=AI c2
    simp only[KP,↓reduceIte,reduceEqDiff,reduceLT,reduceCtorEq,uX h,jO h,g0,g3,g5,g7,g13,la,hlt,e1,e2,e3,e4,c1,d2,hadd]
    exact next _ _ ⟨rfl,(mT (by simp +decide only[GS,g0,g3,g5,g7,aj]) (tr (by simp +decide only[GS]) (λe=>c2 e.2)))⟩
   obtain⟨e,he⟩:=Int.eq_ofNat_of_zero_le c2
   have hsm:=t.bR.small hk2
   have d2:decide ((0:Int)<=(e:Int))=true:=AT (by omega)
   have hw:=bY e (by omega)
   rw[he]at e4
   rcases ho with⟨g12,-⟩ | ⟨q,e',g12,hq,hm,hfq⟩
   ·simp only[KP,↓reduceIte,reduceEqDiff,reduceLT,reduceCtorEq,uX h,jO h,g0,g3,g5,g7,g13,g12,la,hlt,e1,e2,e3,e4,c1,hw,hadd]
    exact next _ _ ⟨rfl,(mT (by simp +decide only[GS,g0,g3,g5,g7,aj]) (.inr ⟨k,e,(by simp +decide only[GS]),hk2,c1,he⟩))⟩
   ·have d3:decide (((e'+1:Nat):Int)=0)=false:=AI (by omega)
    cases c3:decide (((e+1:Nat):Int)<((e'+1:Nat):Int)) with
    |true=>
     simp only[KP,↓reduceIte,reduceEqDiff,reduceLT,reduceCtorEq,uX h,jO h,g0,g3,g5,g7,g13,g12,la,hlt,e1,e2,e3,e4,c1,d3,hw,c3,hadd]
     exact next _ _ ⟨rfl,(mT (by simp +decide only[GS,g0,g3,g5,g7,aj]) (.inr ⟨k,e,(by simp +decide only[GS]),hk2,c1,he⟩))⟩
    |false=>
     simp only[KP,↓reduceIte,reduceEqDiff,reduceLT,reduceCtorEq,uX h,jO h,g0,g3,g5,g7,g13,g12,la,hlt,e1,e2,e3,e4,c1,d3,hw,c3,hadd]
     exact next _ _ ⟨rfl,(mT (by simp +decide only[GS,g0,g3,g5,g7,aj]) (.inr ⟨q,e',(by simp +decide only[GS,g12]),hq,hm,hfq⟩))⟩
 ·rintro F U ⟨rfl,g0,g3,g5,g7,g13,ho⟩
  have hlt:=eG (bg n)
  rcases ho with⟨-,hno⟩ | ⟨q,e,g12,hq,hm,hfq⟩
  ·obtain⟨k,h1,h2,h3⟩:=hex
   exact absurd ⟨h2,h3⟩ (hno k h1)
  ·have hsm:=t.bR.small hq
   have hw:=Ek (e+1) (by omega) (by omega)
   obtain⟨rf,hrf⟩:∃y,rs[first]?=some y:=⟨_,BY (by omega)⟩
   obtain⟨v1,p1,p2,p3,p4,e5,-⟩:=dK h ia hrf
   rw[aF]
   simp only[KP,↓reduceIte,reduceEqDiff,reduceLT,reduceLeDiff,reduceMul,reduceCtorEq,qW h,h.cM,h.aY,h.bC,g0,g5,g13,g12,la,hlt,e5,lB,hw]
   refine key [O.cells 3 (bR.map (V.int .i64)) true,.cells 9 [.str rf.name] true] (.sl 1 0 1 none) [rf.name] first e rfl (.inr ⟨1,[[.str rf.name]],true,rfl,rfl,.one rfl⟩) ⟨by simp,by simp only[aa,bf];omega⟩ hf (λ_=>⟨q,hq,hm,hfq⟩) _ ?_ ?_ ?_ ?_ ?_ ?_
   ·exact (by simp +decide only[GS,g0])
   ·exact (by simp +decide only[GS,g3])
   ·exact (by simp +decide only[GS,g7])
   ·exact (by simp +decide only[GS])
   ·exact (by simp +decide only[GS])
   ·exact (by simp +decide only[GS,Nat.add_sub_cancel])
theorem JA (h:bJ E) {bR:List Int}{i:Nat}{d:Int}(hi:i<bR.length):storeAt E [O.cells 3 (bR.map (V.int .i64)) true] 3 (.ref 0 i) (.int .i64 d)=some [O.cells 3 ((bR.set i d).map (V.int .i64)) true]:=by
 unfold storeAt
 have h0:([O.cells 3 (bR.map (V.int .i64)) true]:Sg)[0]?=some (O.cells 3 (bR.map (V.int .i64)) true):=rfl
 simp only[h.oU,h0]
 rw[b8 (by simp only[V.cells,V.aW,aa,bf,ig,jm,az,mg,ah,IT];exact⟨rfl,by omega⟩)]
 refine au some ?_
 show [O.cells 3 (setCells (bR.map (V.int .i64)) i [V.int .i64 d]) true]=_
 have:setCells (bR.map (V.int .i64)) i [V.int .i64 d]=(bR.set i d).map (V.int .i64):=by
  unfold setCells
  rw[List.map_set,List.set_eq_take_append_cons_drop,b8 (by simpa using hi)]
  simp
 rw[this]
theorem Tx (h:bJ E) {a vm:V}{rs:List aD}{n first:Nat}{m:Nat->Nat->Bool}(hn:rs.length=n)(hle:n<=64) (ia:IS bS a rs) (im:IS rE vm (HV n m))(hf:first<n)(hmn:∀i j,m i j=true->i<n/\j<n)(hw:AxS.Way m first first) {bR:List Int}(hfar:mN m n first 1 0 0 bR)
  (F:FT) (g0:F.get 0=a) (g3:F.get 3=vm) (g5:F.get 5=.int .i64 (first:Int)) (g7:F.get 7=.sl 0 0 n none)
  (hk:∀U w l,l≠[]->bH aM 9 U w l->K w U):R E (cutAt [1,1,1,1,1,1,1,1,1] (aA Tryz.f112).code) [] ⟨216,F⟩ [O.cells 3 (bR.map (V.int .i64)) true] (mQ E (aA Tryz.f112).results K):=by
 have la:=cI h ia
 rw[hn]at la
 have key:=λbR (hfar:mN m n first (n+1) 0 0 bR) F g0 g3 g5 g7=>QD (K:=K) h ⟨hn,hle,hfar⟩ ia im hf (hfar.first hmn hf hw) F g0 g3 g5 g7 hk
 rw[show cutAt [1,1,1,1,1,1,1,1,1] (aA Tryz.f112).code=.seq (cutAt [1,1,1,1,1,1,1,1,1,0] (aA Tryz.f112).code) (cutAt [1,1,1,1,1,1,1,1,1,1] (aA Tryz.f112).code) from rfl]
 generalize cutAt [1,1,1,1,1,1,1,1,1,1] (aA Tryz.f112).code=C at *
 simp only[aA,Tryz.f112,KP,↓reduceIte,reduceLT,reduceNeg,cutAt]
 refine aV (λd F U=>∃bR,U=[O.cells 3 (bR.map (V.int .i64)) true]/\mN m n first (d+1) 0 0 bR/\F.get 0=a/\F.get 3=vm/\F.get 5=.int .i64 (first:Int)/\F.get 7=.sl 0 0 n none/\F.get 9=.int .i64 ((d+1:Nat):Int)) n ?_ ?_ n 0 _ _ (by omega) ⟨bR,rfl,hfar,(fZ (by simp +decide only[GS,g0,g3,g5,g7,aj]) (by simp +decide only[GS];rfl))⟩
 ·rintro d F U hd ⟨bR,rfl,hfar,g0,g3,g5,g7,g9⟩ next
  have hle1:decide (((d+1:Nat):Int)<=(n:Int))=true:=AT (by omega)
  have haddd:=bY (d+1) (by omega)
  have hsub:=Ek (d+1) (by omega) (by omega)
  rw[aF]
  simp only[KP,↓reduceIte,reduceEqDiff,reduceLT,reduceCtorEq,g0,g9,la,hle1]
  refine aV (λi F U=>∃bR,U=[O.cells 3 (bR.map (V.int .i64)) true]/\mN m n first (d+1) i 0 bR/\F.get 0=a/\F.get 3=vm/\F.get 5=.int .i64 (first:Int)/\F.get 7=.sl 0 0 n none/\F.get 9=.int .i64 ((d+1:Nat):Int)/\F.get 10=.int .i64 (i:Int)) n ?_ ?_ n 0 _ _ (by omega) ⟨bR,rfl,hfar,(by simp +decide only[GS,g0,g3,g5,g7,g9,aj])⟩
  ·rintro i F U hi ⟨bR,rfl,hfar,g0,g3,g5,g7,g9,g10⟩ next2
   have hlt:=eC hi
   have haddi:=bY i (by omega)
   rw[aF]
   simp only[KP,↓reduceIte,reduceEqDiff,reduceLT,reduceCtorEq,g0,g10,la,hlt]
   refine aV (λk F U=>∃bR,U=[O.cells 3 (bR.map (V.int .i64)) true]/\mN m n first (d+1) i k bR/\F.get 0=a/\F.get 3=vm/\F.get 5=.int .i64 (first:Int)/\F.get 7=.sl 0 0 n none/\F.get 9=.int .i64 ((d+1:Nat):Int)/\F.get 10=.int .i64 (i:Int)/\F.get 11=.int .i64 (k:Int)) n ?_ ?_ n 0 _ _ (by omega) ⟨bR,rfl,hfar,(by simp +decide only[GS,g0,g3,g5,g7,g9,g10,aj])⟩
   ·rintro k F U hk2 ⟨bR,rfl,hfar,g0,g3,g5,g7,g9,g10,g11⟩ next3
    have tfl:=hfar.len
    have b0:([O.cells 3 (bR.map (V.int .i64)) true]:Sg)[0]?=some (O.cells 3 (bR.map (V.int .i64)) true):=rfl
    have hlt:=eC hk2
    have haddk:=bY k (by omega)
    obtain⟨u1,rv,u2,e1,e2⟩:=Az h im hi hk2
    have e3:=AD h hi
    have e4:=Gq h b0 (i:=i) (by omega)
    have e5:=AD h hk2
    have e6:=Gq h b0 (i:=k) (by omega)
    rw[aF]
    by_cases c0:eS bR i<0
    case neg=>
     have d0:decide (eS bR i<0)=false:=AI c0
     simp only[KP,↓reduceIte,reduceEqDiff,reduceLT,reduceCtorEq,g0,g7,g10,g11,la,hlt,e3,e4,d0,haddi]
     exact next2 _ _ ⟨bR,rfl,hfar.next (.inr (by omega)) hi,(by simp +decide only[GS,g0,g3,g5,g7,g9,aj])⟩
    have d0:decide (eS bR i<0)=true:=AT c0
    cases c1:m i k with
    |false=>
     simp only[KP,↓reduceIte,reduceEqDiff,reduceLT,reduceCtorEq,uX h,jO h,g0,g3,g7,g10,g11,la,hlt,e1,e2,e3,e4,d0,c1,haddk]
     exact next3 _ _ ⟨bR,rfl,hfar.skip (λe=>by rw[c1]at e;cases e.1),(by simp +decide only[GS,g0,g3,g5,g7,g9,g10,aj])⟩
    |true=>
     by_cases c2:eS bR k=(d:Int)
     ·have d2:decide (eS bR k=((d+1-1:Nat):Int))=true:=AT (by rw[c2];rfl)
      have s1:=JA h (bR:=bR) (i:=i) (d:=((d+1:Nat):Int)) (by omega)
      simp only[KP,↓reduceIte,reduceEqDiff,reduceLT,reduceCtorEq,uX h,jO h,g0,g3,g7,g9,g10,g11,la,hlt,e1,e2,e3,e4,e5,e6,d0,c1,hsub,d2,s1,haddk]
      exact next3 _ _ ⟨_,rfl,hfar.put hi hk2 (by omega) c0 c1 (by rw[c2];omega),(by simp +decide only[GS,g0,g3,g5,g7,g9,g10,aj])⟩
     ·have d2:decide (eS bR k=((d+1-1:Nat):Int))=false:=AI (by rw[Nat.add_sub_cancel];exact c2)
      simp only[KP,↓reduceIte,reduceEqDiff,reduceLT,reduceCtorEq,uX h,jO h,g0,g3,g7,g9,g10,g11,la,hlt,e1,e2,e3,e4,e5,e6,d0,c1,hsub,d2,haddk]
      exact next3 _ _ ⟨bR,rfl,hfar.skip (λe=>c2 (by rw[e.2];omega)),(by simp +decide only[GS,g0,g3,g5,g7,g9,g10,aj])⟩
   ·rintro F U ⟨bR,rfl,hfar,g0,g3,g5,g7,g9,g10,g11⟩
    have hlt:=eG (bg n)
    rw[aF]
    simp only[KP,↓reduceIte,reduceEqDiff,reduceLT,reduceCtorEq,g0,g10,g11,la,hlt,haddi]
    exact next2 _ _ ⟨bR,rfl,hfar.next (.inl rfl) hi,(by simp +decide only[GS,g0,g3,g5,g7,g9,aj])⟩
  ·rintro F U ⟨bR,rfl,hfar,g0,g3,g5,g7,g9,g10⟩
   have hlt:=eG (bg n)
   rw[aF]
   simp only[KP,↓reduceIte,reduceEqDiff,reduceLT,reduceCtorEq,g0,g9,g10,la,hlt,haddd]
   exact next _ _ ⟨bR,rfl,hfar.round,(by simp +decide only[GS,g0,g3,g5,g7,aj])⟩
 ·rintro F U ⟨bR,rfl,hfar,g0,g3,g5,g7,g9⟩
  have hle1:decide (((n+1:Nat):Int)<=(n:Int))=false:=AI (by omega)
  rw[aF]
  simp only[KP,↓reduceIte,reduceEqDiff,reduceLT,reduceCtorEq,g0,g9,la,hle1]
  refine key bR hfar _ ?_ ?_ ?_ ?_
  ·exact (by simp +decide only[GS,g0])
  ·exact (by simp +decide only[GS,g3])
  ·exact (by simp +decide only[GS,g5])
  ·exact (by simp +decide only[GS,g7])
end
end
section
section
variable {E:Env}{Z:Sg}{K:V->Sg->Prop}
theorem Pj (n:Nat):fG n [V.int .i64 0]=(List.replicate n (0:Int)).map (V.int .i64):=by
 induction n with
 |zero=>rfl
 |succ n ih=>rw[fG,ih];rfl
theorem R2 {n i:Nat}(hi:i<n):(List.replicate i (-1:Int)++List.replicate (n-i) 0).set i (-1)=List.replicate (i+1) (-1)++List.replicate (n-(i+1)) 0:=by
 obtain⟨d,rfl⟩:∃d,n=i+(d+1):=⟨n-i-1,by omega⟩
 rw[mc _ _ (by simp),List.length_replicate,ju,show i+(d+1)-i=d+1 by omega,List.replicate_succ,jk,show i+(d+1)-(i+1)=d by omega,List.replicate_succ']
 simp
theorem QC (h:bJ E) {a vm:V}{rs:List aD}{n:Nat}{m:Nat->Nat->Bool}(hn:rs.length=n)(hle:n<=64) (ia:IS bS a rs) (im:IS rE vm (HV n m))(hmn:∀i j,m i j=true->i<n/\j<n) {o:Option Nat}(ho:∀f,o=some f->f<n/\AxS.Way m f f)
  (F:FT) (g0:F.get 0=a) (g3:F.get 3=vm) (g5:F.get 5=.int .i64 (idx o))
  (hk:o≠none->∀U w l,l≠[]->bH aM 9 U w l->K w U)(hk0:o=none->K .aB []):R E (cutAt [1,1,1,1,1] (aA Tryz.f112).code) [] ⟨216,F⟩ [] (mQ E (aA Tryz.f112).results K):=by
 have la:=cI h ia
 rw[hn]at la
 cases o with
 |none=>
  simp only[aA,Tryz.f112,KP,↓reduceIte,reduceLT,Int.reduceLT,reduceNeg,cutAt,g5,nT]
  exact hk0 rfl
 |some first=>
  obtain⟨hf,hw⟩:=ho first rfl
  have key:=λbR hfar F g0 g3 g5 g7=>Tx (K:=K) h hn hle ia im hf hmn hw (bR:=bR) hfar F g0 g3 g5 g7 (hk (by simp))
  have c0:decide ((first:Int)<0)=false:=AI (by omega)
  have c2:decide ((n:Int)*((8:Nat):Int)<=1099511627776)=true:=AT (by omega)
  have c3:decide ((n:Int)<=1099511627776)=true:=AT (by omega)
  have lf:∀Z,lenOf E Z 115 (.sl 0 0 n none)=some n:=λZ=>by unfold lenOf;rw[h.Oo]
  rw[show cutAt [1,1,1,1,1] (aA Tryz.f112).code=.seq (cutAt [1,1,1,1,1,0] (aA Tryz.f112).code) (.seq (cutAt [1,1,1,1,1,1,0] (aA Tryz.f112).code) (.seq (cutAt [1,1,1,1,1,1,1,0] (aA Tryz.f112).code) (.seq (cutAt [1,1,1,1,1,1,1,1,0] (aA Tryz.f112).code) (cutAt [1,1,1,1,1,1,1,1,1] (aA Tryz.f112).code)))) from rfl]
  generalize cutAt [1,1,1,1,1,1,1,1,1] (aA Tryz.f112).code=C at *
  simp only[aA,Tryz.f112,KP,↓reduceIte,reduceLT,reduceCtorEq,reduceNeg,h.oU,h.Oo,cutAt,g0,g5,dI,c0,la,c2,c3,dj,Int.le_refl,Pj,lf]
  refine aV (λi F U=>∃bR,U=[O.cells 3 (bR.map (V.int .i64)) true]/\bR=List.replicate i (-1)++List.replicate (n-i) 0/\F.get 0=a/\F.get 3=vm/\F.get 5=.int .i64 (first:Int)/\F.get 7=.sl 0 0 n none/\F.get 60=.int .i64 (n:Int)/\F.get 61=.int .i64 (i:Int)) n ?_ ?_ n 0 _ _ (by omega) ⟨_,rfl,by simp,(by simp +decide only[GS,g0,g3,g5,dI,aj])⟩
  ·rintro i F U hi ⟨bR,rfl,hfar,g0,g3,g5,g7,g60,g61⟩ next
   have hlt:=eC hi
   have hadd:=bY i (by omega)
   have hfl:bR.length=n:=by rw[hfar];simp;omega
   have e1:=AD h hi
   have s1:=JA h (bR:=bR) (i:=i) (d:=-1) (by omega)
   rw[aF]
   simp only[KP,↓reduceIte,reduceEqDiff,reduceLT,reduceNeg,g7,g60,g61,hlt,e1,s1,hadd]
   exact next _ _ ⟨_,rfl,by rw[hfar,R2 hi],(by simp +decide only[GS,g0,g3,g5,g7,g60,aj])⟩
  ·rintro F U ⟨bR,rfl,hfar,g0,g3,g5,g7,g60,g61⟩
   have hlt:=eG (bg n)
   have hfar:bR=List.replicate n (-1):=by rw[hfar];simp
   have e1:=AD h hf
   have s1:=JA h (bR:=bR) (i:=first) (d:=0) (by rw[hfar];simpa using hf)
   rw[aF]
   simp only[KP,↓reduceIte,reduceEqDiff,reduceLT,reduceNeg,g5,g7,g60,g61,hlt,e1,s1]
   refine key (bR.set first 0) ?_ _ ?_ ?_ ?_ ?_
   ·rw[hfar];exact mN.init hf
   ·exact (by simp +decide only[GS,g0])
   ·exact (by simp +decide only[GS,g3])
   ·exact (by simp +decide only[GS,g5])
   ·exact (by simp +decide only[GS,g7])
theorem PD {rs:List aD}{d:Bool}:∀i j,jU rs d i j=true->i<rs.length/\j<rs.length:=by
 intro i j hij
 unfold jU at hij
 split at hij
 ·rename_i r hr
  refine⟨(AS.1 hr).1,?_⟩
  unfold zI at hij
  rw[ez]at hij
  rcases hij with hij | hij
  ·obtain⟨f,_,hf⟩:=ek.1 hij
   exact C4 (dx hf)
  ·rw[ah]at hij
   obtain⟨f,_,hf⟩:=ek.1 hij.2
   exact EE (dx hf)
 ·cases hij
theorem Tz (h:bJ E) {a:V}{rs:List aD}(hs:vO rs) (ia:IS bS a rs) (F:FT) (g0:F.get 0=a)
  (hk:(∃i,i<rs.length/\AxS.Way (jU rs false) i i)->∀U w l,l≠[]->bH aM 9 U w l->K w U)(hk0:(∀i,i<rs.length->¬ AxS.Way (jU rs false) i i)->K .aB []):R E (aA Tryz.f112).code [] ⟨216,F⟩ [] (mQ E (aA Tryz.f112).results K):=by
 have la:=cI h ia
 have hle:=hs.len
 have hmn:=PD (rs:=rs) (d:=false)
 have bn:=TU (Z:=[]) h (a:=a) (ia.ls [] 46) hs false
 generalize hm:jU rs false=m at *
 generalize hn:rs.length=n at *
 have key:=λvm (im:IS rE vm (HV n m)) o ho F g0 g3 g5 hk hk0=>QC (K:=K) h hn hle ia im hmn (o:=o) ho F g0 g3 g5 hk hk0
 have d7:=h.Wm
 simp only[aA,Tryz.f112,cutAt,ag]at d7
 rw[show (aA Tryz.f112).code=.seq (cutAt [0] (aA Tryz.f112).code) (.seq (cutAt [1,0] (aA Tryz.f112).code) (.seq (cutAt [1,1,0] (aA Tryz.f112).code) (.seq (cutAt [1,1,1,0] (aA Tryz.f112).code) (.seq (cutAt [1,1,1,1,0] (aA Tryz.f112).code) (cutAt [1,1,1,1,1] (aA Tryz.f112).code))))) from rfl]
 generalize cutAt [1,1,1,1,1] (aA Tryz.f112).code=C at *
 simp only[aA,Tryz.f112,KP,↓reduceIte,reduceLT,reduceCtorEq,reduceNeg,cutAt,g0]
 refine aO bn ?_
 rintro vm σ' ⟨rfl,im⟩
 simp only[KP,↓reduceIte,reduceLT,reduceNeg]
 refine aO (Re (Z:=[]) h hle im.is) ?_
 rintro vc σ' ⟨rfl,ic⟩
 have im:=im.is
 have ic:=ic.is
 simp only[KP,↓reduceIte,reduceLT,reduceNeg]
 refine aV (λi F U=>U=[]/\F.get 0=a/\F.get 3=vm/\F.get 4=vc/\F.get 6=.int .i64 (i:Int)/\∃o:Option Nat,F.get 5=.int .i64 (idx o)/\((o=none/\∀j,j<i->wk m n j j=false)\/∃f,o=some f/\f<n/\wk m n f f=true)) n ?_ ?_ n 0 _ _ (by omega) ⟨rfl,(fZ (by simp +decide only[GS,g0,aj]) ⟨none,(by simp +decide only[GS,nT]),.inl ⟨rfl,λj hj=>by omega⟩⟩)⟩
 ·rintro i F U hi ⟨rfl,g0,g3,g4,g6,o,g5,ho⟩ next
  have hlt:=eC hi
  have hadd:=bY i (by omega)
  obtain⟨u1,rv,u2,e1,e2⟩:=Az h ic hi hi
  obtain⟨ri,hri⟩:∃y,rs[i]?=some y:=⟨_,BY (by omega)⟩
  obtain⟨v1,p1,p2,p3,p4,e3,-⟩:=dK h ia hri
  rw[aF]
  cases c1:wk m n i i with
  |false=>
   simp only[KP,↓reduceIte,reduceEqDiff,reduceLT,reduceCtorEq,uX h,jO h,g0,g4,g6,la,hlt,e1,e2,c1,hadd,aK d7,a_]
   refine next _ _ ⟨rfl,(fZ (by simp +decide only[GS,g0,g3,g4,aj]) ⟨o,(by simp +decide only[GS,g5]),ho.imp (λ⟨h1,h2⟩=>⟨h1,λj hj=>?_⟩) id⟩)⟩
   rcases cj j i with g | g
   ·exact h2 j g
   ·obtain rfl:j=i:=by omega
    exact c1
  |true=>
   rcases ho with⟨rfl,-⟩ | ⟨f,rfl,hf,hwf⟩
   ·simp only[KP,↓reduceIte,reduceEqDiff,reduceLT,reduceCtorEq,Int.reduceLT,reduceNeg,uX h,jO h,g0,g4,g5,g6,la,hlt,e1,e2,c1,nT,hadd,aK d7,a_]
    exact next _ _ ⟨rfl,(fZ (by simp +decide only[GS,g0,g3,g4,aj]) ⟨some i,(by simp +decide only[GS,dI]),.inr ⟨i,rfl,hi,c1⟩⟩)⟩
   ·have c0:decide ((f:Int)<0)=false:=AI (by omega)
    obtain⟨rf,hrf⟩:∃y,rs[f]?=some y:=⟨_,BY (by omega)⟩
    obtain⟨v2,q1,q2,q3,q4,e4,-⟩:=dK h ia hrf
    cases c3:Ax.slt ri.name rf.name with
    |true=>
     simp only[KP,↓reduceIte,reduceEqDiff,reduceLT,reduceCtorEq,uX h,qW h,jO h,h.cM,h.bC,g0,g4,g5,g6,la,hlt,e1,e2,e3,e4,c1,c0,c3,dI,hadd,aK d7,a_]
     exact next _ _ ⟨rfl,(fZ (by simp +decide only[GS,g0,g3,g4,aj]) ⟨some i,(by simp +decide only[GS,dI]),.inr ⟨i,rfl,hi,c1⟩⟩)⟩
    |false=>
     simp only[KP,↓reduceIte,reduceEqDiff,reduceLT,reduceCtorEq,uX h,qW h,jO h,h.cM,h.bC,g0,g4,g5,g6,la,hlt,e1,e2,e3,e4,c1,c0,c3,dI,hadd,aK d7,a_]
     exact next _ _ ⟨rfl,(fZ (by simp +decide only[GS,g0,g3,g4,aj]) ⟨some f,(by simp +decide only[GS,g5]),.inr ⟨f,rfl,hf,hwf⟩⟩)⟩
 ·rintro F U ⟨rfl,g0,g3,g4,g6,o,g5,ho⟩
  have hlt:=eG (bg n)
  rw[aF]
  simp only[KP,↓reduceIte,reduceEqDiff,reduceLT,reduceCtorEq,g0,g6,la,hlt]
  refine key vm im o (λf hf=>?_) _ ?_ ?_ ?_ (λho2=>hk ?_) (λho2=>hk0 λi hi hw=>?_)
  ·rcases ho with⟨e,-⟩ | ⟨f',e,h1,h2⟩
   ·rw[e]at hf;cases hf
   ·rw[e]at hf;cases hf;exact⟨h1,Cj h2⟩
  ·exact (by simp +decide only[GS,g0])
  ·exact (by simp +decide only[GS,g3])
  ·exact (by simp +decide only[GS,g5])
  ·rcases ho with⟨e,-⟩ | ⟨f',e,h1,h2⟩
   ·exact absurd e ho2
   ·exact⟨f',h1,Cj h2⟩
  ·rcases ho with⟨-,h1⟩ | ⟨f',e,-⟩
   ·have:=UA hmn hw
    rw[h1 i hi]at this;cases this
   ·rw[e]at ho2;cases ho2
theorem Kv (h:bJ E) {a:V}{rs:List aD}(ha:LS bS 46 Z a rs)(hs:vO rs):aC E 112 [a] Z λv σ'=>σ'=Z/\∃l,iO aM v l/\((l≠[]/\∃i,i<rs.length/\AxS.Way (jU rs false) i i)\/(l=[]/\∀i,i<rs.length->¬ AxS.Way (jU rs false) i i)):=by
 obtain⟨a',ea,ia⟩:=dQ h ha
 rw[aH h.aae h.XQ h.aa0 h.Zk (args':=[a']) (by simp only[aU,ea]),aX (by kernel_rfl)]
 refine Tz h hs ia _ (by simp +decide only[GS]) (λhc U w l hl ow=>?_) λhc=>?_
 ·obtain⟨v',e1,hv⟩:=oV h.cM rfl (λr x hr c hc=>by rw[show r=[.str x] from hr]at hc;cases hc with | head=>rfl | tail _ h=>cases h) ow
  show (match bW U E.ty false w with
   |some v=>(λv σ'=>σ'=Z/\∃l,iO aM v l/\((l≠[]/\∃i,i<rs.length/\AxS.Way (jU rs false) i i)\/(l=[]/\∀i,i<rs.length->¬ AxS.Way (jU rs false) i i))) v Z
   |none=>False)
  rw[e1]
  exact⟨rfl,l,hv,.inl ⟨hl,hc⟩⟩
 ·exact⟨rfl,[],.inl ⟨rfl,rfl⟩,.inr ⟨rfl,hc⟩⟩
end
end
section
section
variable {E:Env}{Z:Sg}{K:V->Sg->Prop}
theorem JP {x:aD}{a b c d:V}(h1:IS aM a x.ins)(h2:IS aM b x.outs)(h3:IS aM c x.after)(h4:IS eK d x.steps):I9 (.agg [.str x.name,a,b,c,d]) x:=⟨a,b,c,d,rfl,h1,h2,h3,h4⟩
theorem AM {rs:List aD}{i:Nat}{r:aD}(hr:rs[i]?=some r)(h:bE r≠0)(hp:∀(j:Nat) (s:aD),j<i->rs[j]?=some s->bE s=0):gU rs=bE r:=by
 have:rs.find? (λr=>decide (bE r≠0))=some r:=by
  rw[List.find?_eq_some_iff_getElem]
  refine⟨AT h,i,(AS.1 hr).1,(AS.1 hr).2,λj hj=>?_⟩
  have hjl:j<rs.length:=by have:=(AS.1 hr).1;omega
  simpa using hp j _ hj (BY hjl)
 unfold gU
 rw[this]
theorem zT {rs:List aD}(hp:∀(j:Nat) (s:aD),rs[j]?=some s->bE s=0):gU rs=if 40<rs.length then 4 else if tK rs=true then 2 else if gY rs=true then 2 else 0:=by
 have:rs.find? (λr=>decide (bE r≠0))=none:=by
  rw[jx]
  intro x hx
  obtain⟨j,hj,e⟩:=fg hx
  simpa using hp j x (by rw[BY hj,e])
 unfold gU
 rw[this]
theorem WH (h:bJ E) {a:V}{rs:List aD}(hs:vO rs) (ia:IS bS a rs)(hp0:∀(j:Nat) (s:aD),rs[j]?=some s->bE s=0)(h40:¬ 40<rs.length)(hcl:tK rs=false) (F:FT) (g0:F.get 0=a)(hk:∀e nm,Jb rs e->K (.gB [.int .i64 e,.str nm]) []):R E (cutAt [1,1,1,1] (aA Tryz.f46).code) [] ⟨110,F⟩ [] (mQ E (aA Tryz.f46).results K):=by
 have la:=cI h ia
 have bc:=Kv (Z:=[]) h (a:=a) (ia.ls [] 46) hs
 have hE:=zT hp0
 rw[ay h40,ay (by rw[hcl];simp)]at hE
 have d27:=h.Wc
 simp only[aA,Tryz.f46,cutAt,ag]at d27
 have d31:=h.Wb
 simp only[aA,Tryz.f46,cutAt,ag]at d31
 rw[show cutAt [1,1,1,1] (aA Tryz.f46).code=.seq (.seq (cutAt [1,1,1,1,0,0] (aA Tryz.f46).code) (.block 6 (.loop (cutAt [1,1,1,1,0,1,2,2] (aA Tryz.f46).code)))) (cutAt [1,1,1,1,1] (aA Tryz.f46).code) from rfl]
 have key:gY rs=false->∀F:FT,F.get 0=a->R E (cutAt [1,1,1,1,1] (aA Tryz.f46).code) [] ⟨110,F⟩ [] (mQ E (aA Tryz.f46).results K):=λhst F g0=>by
  rw[ay (by rw[hst];simp)]at hE
  simp only[aA,Tryz.f46,KP,↓reduceIte,reduceLT,cutAt,g0]
  refine aO bc ?_
  rintro v σ' ⟨rfl,l,il,hl⟩
  have il:=il.is
  have ll:=bP h il
  rcases hl with⟨hl,hring⟩ | ⟨rfl,hring⟩
  ·obtain⟨y,r,rfl⟩:=nj hl
   obtain⟨g,e1⟩:=gI h il (i:=0) (x:=y) rfl
   have e1:indexAddr E 24 v (.int .i64 0)=some (.dH g [.str y]):=e1
   have c0:decide ((0:Int)<((r.length+1:Nat):Int))=true:=AT (by omega)
   simp only[KP,↓reduceIte,reduceEqDiff,reduceLT,qW h,ll,c0,e1,aK d31,a_]
   exact hk 3 y (.inr ⟨hE,.inl ⟨hring,rfl⟩⟩)
  ·have c0:decide ((0:Int)<((([]:List bD).length:Nat):Int))=false:=rfl
   simp only[KP,↓reduceIte,reduceEqDiff,reduceLT,Int.reduceLT,kX,ll]
   exact hk 0 [] (.inr ⟨hE,.inr ⟨λ⟨i,h1,h2⟩=>hring i h1 h2,rfl⟩⟩)
 generalize cutAt [1,1,1,1,1] (aA Tryz.f46).code=C at *
 simp only[aA,Tryz.f46,KP,↓reduceIte,reduceLT,cutAt]
 refine aV (λi F U=>U=[]/\F.get 0=a/\F.get 10=.int .i64 (i:Int)/\∀j s,j<i->rs[j]?=some s->∀m∈s.after,fF rs m≠none) rs.length ?_ ?_ rs.length 0 _ _ (by omega) ⟨rfl,(lT (by simp +decide only[GS,g0,aj]) (λj s hj=>by omega))⟩
 ·rintro i F U hi ⟨rfl,g0,g10,hp⟩ next
  obtain⟨r,hr⟩:∃y,rs[i]?=some y:=⟨_,BY hi⟩
  have a3:=(hs.all r (af hr)).after
  obtain⟨g,p1,p2,p3,p4,e1,i1,i2,i3,i4⟩:=dK h ia hr
  have l3:=bP h i3
  have hlt:=eC hi
  have hadd:=bY i (by omega)
  rw[aF]
  simp only[KP,↓reduceIte,reduceEqDiff,reduceLT,reduceCtorEq,LG h,h.aY,h.bC,g0,g10,la,hlt,e1,l3]
  refine aV (λj F U=>U=[]/\F.get 0=a/\F.get 10=.int .i64 (i:Int)/\F.get 86=p3/\F.get 87=.int .i64 (r.after.length:Int)/\F.get 88=.int .i64 (j:Int)/\∀q m,q<j->r.after[q]?=some m->fF rs m≠none) r.after.length ?_ ?_ r.after.length 0 _ _ (by omega) ⟨rfl,(mT (by simp +decide only[GS,g0,g10,aj]) (λq m hq=>by omega))⟩
  ·rintro j F U hj ⟨rfl,g0,g10,g86,g87,g88,hq⟩ next2
   obtain⟨m,hm⟩:∃y,r.after[j]?=some y:=⟨_,BY hj⟩
   obtain⟨g,e2⟩:=gI h i3 hm
   have hlt2:=eC hj
   have hadd2:=bY j (by omega)
   have km:=VT (Z:=[]) h (s:=m) (ia.ls _ 46) (by omega)
   rw[aF]
   cases hat:fF rs m with
   |none=>
    simp only[KP,↓reduceIte,reduceEqDiff,reduceLT,reduceCtorEq,Int.reduceLT,reduceNeg,qW h,h.cM,h.bC,g0,g10,g86,g87,g88,hlt2,e1,e2,km,hat,nT,aK d27,a_]
    refine hk 2 _ (.inl ?_)
    have hst:gY rs=true:=by
     unfold gY
     rw[ek]
     exact⟨r,af hr,ek.2 ⟨m,af hm,AT hat⟩⟩
    rw[b8 hst]at hE
    rw[hE]
    exact⟨by decide,rfl⟩
   |some k=>
    have c0:decide ((k:Int)<0)=false:=AI (by omega)
    simp only[KP,↓reduceIte,reduceEqDiff,reduceLT,reduceCtorEq,qW h,g0,g86,g87,g88,hlt2,e2,km,hat,dI,c0,hadd2]
    refine next2 _ _ ⟨rfl,(mT (by simp +decide only[GS,g0,g10,g86,g87,aj]) (λq m' hq2 hm'=>?_))⟩
    rcases cj q j with g | g
    ·exact hq q m' g hm'
    ·obtain rfl:q=j:=by omega
     rw[hm]at hm';cases hm';rw[hat];simp
  ·rintro F U ⟨rfl,g0,g10,g86,g87,g88,hq⟩
   have hlt2:=eG (bg r.after.length)
   rw[aF]
   simp only[KP,↓reduceIte,reduceEqDiff,reduceLT,g10,g87,g88,hlt2,hadd]
   refine next _ _ ⟨rfl,(lT (by simp +decide only[GS,g0,aj]) (λj s hj hs2 m hm=>?_))⟩
   rcases cj j i with g | g
   ·exact hp j s g hs2 m hm
   ·obtain rfl:j=i:=by omega
    rw[hr]at hs2;cases hs2
    obtain⟨q,hq2,e⟩:=fg hm
    exact hq q m hq2 (by rw[BY hq2,e])
 ·rintro F U ⟨rfl,g0,g10,hp⟩
  have hlt:=eG (bg rs.length)
  rw[aF]
  simp only[KP,↓reduceIte,reduceEqDiff,reduceLT,reduceCtorEq,g0,g10,la,hlt]
  refine key ?_ _ (by simp +decide only[GS,g0])
  unfold gY
  rw[mq]
  intro s hs2
  rw[ek]
  rintro⟨m,hm,e⟩
  obtain⟨j,hj,e2⟩:=fg hs2
  exact hp j s hj (by rw[BY hj,e2]) m hm (dx e)
theorem NJ {rs:List aD}{i:Nat}{r:aD}(hr:rs[i]?=some r):oK rs i=(decide (∃k,fF rs r.name=some k/\k<i)||r.outs.any λo=>decide (∃k,c_ rs o=some k/\k<i)):=by
 have first_lt:∀(p:aD->Bool) (rs:List aD) (i:Nat),(∃k,bN p rs=some k/\k<i) ↔ ∃q∈rs.take i,p q=true:=by
  intro p rs
  induction rs with
  |nil=>intro i;simp[bN]
  |cons r rs ih=>
   intro i
   rw[bN]
   by_cases hp:p r=true
   ·rw[b8 hp]
    cases i with
    |zero=>simp
    |succ i=>simp[hp]
   ·rw[ay hp]
    cases i with
    |zero=>simp
    |succ i=>
     rw[og]
     simp only[By,ou]
     constructor
     ·rintro⟨k,⟨k',h1,rfl⟩,h2⟩
      obtain⟨q,hq,hpq⟩:=(ih i).1 ⟨k',h1,by omega⟩
      exact⟨q,.inr hq,hpq⟩
     ·rintro⟨q,rfl | hq,hpq⟩
      ·exact absurd hpq hp
      ·obtain⟨k,h1,h2⟩:=(ih i).2 ⟨q,hq,hpq⟩
       exact⟨k+1,⟨k,h1,rfl⟩,by omega⟩
 unfold oK fF c_
 rw[hr]
 rw[dn]
 simp only[ek,ez,IT,first_lt]
 constructor
 ·rintro⟨q,hq,h1 | ⟨o,ho,h2⟩⟩
  ·exact .inl ⟨q,hq,h1⟩
  ·exact .inr ⟨o,ho,q,hq,h2⟩
 ·rintro (⟨q,hq,h1⟩ | ⟨o,ho,q,hq,h2⟩)
  ·exact⟨q,hq,.inl h1⟩
  ·exact⟨q,hq,.inr ⟨o,ho,h2⟩⟩
theorem iY {α:Type}{p:α->Bool}{l:List α}{x:α}(hx:x∈l)(hp:p x=true):∃k,bN p l=some k:=by
 cases h:bN p l with
 |some k=>exact⟨k,rfl⟩
 |none=>
  have h2:(bN p l).isSome=true:=by rw[cG,ek];exact⟨x,hx,hp⟩
  rw[h]at h2;cases h2
theorem WI (h:bJ E) {a:V}{rs:List aD}(hs:vO rs) (ia:IS bS a rs)(hp0:∀(j:Nat) (s:aD),rs[j]?=some s->bE s=0)(h40:¬ 40<rs.length) (F:FT) (g0:F.get 0=a)(hk:∀e nm,Jb rs e->K (.gB [.int .i64 e,.str nm]) []):R E (cutAt [1,1,1] (aA Tryz.f46).code) [] ⟨110,F⟩ [] (mQ E (aA Tryz.f46).results K):=by
 have la:=cI h ia
 have hE:=zT hp0
 have hmem:∀x∈rs,x.outs.length<=4294967296:=λx hx=>by have:=(hs.all x hx).outs;omega
 rw[ay h40]at hE
 have d19:=h.Wd
 simp only[aA,Tryz.f46,cutAt,ag]at d19
 have key:=λhcl F g0=>WH (K:=K) h hs ia hp0 h40 hcl F g0 hk
 rw[show cutAt [1,1,1] (aA Tryz.f46).code=.seq (.seq (cutAt [1,1,1,0,0] (aA Tryz.f46).code) (.block 2 (.loop (cutAt [1,1,1,0,1,2,2] (aA Tryz.f46).code)))) (cutAt [1,1,1,1] (aA Tryz.f46).code) from rfl]
 generalize cutAt [1,1,1,1] (aA Tryz.f46).code=C at *
 simp only[aA,Tryz.f46,KP,↓reduceIte,reduceLT,cutAt]
 refine aV (λi F U=>U=[]/\F.get 0=a/\F.get 6=.int .i64 (i:Int)/\∀j,j<i->oK rs j=false) rs.length ?_ ?_ rs.length 0 _ _ (by omega) ⟨rfl,(lT (by simp +decide only[GS,g0,aj]) (λj hj=>by omega))⟩
 ·rintro i F U hi ⟨rfl,g0,g6,hp⟩ next
  obtain⟨r,hr⟩:∃y,rs[i]?=some y:=⟨_,BY hi⟩
  have hrm:=af hr
  have a3:=(hs.all r hrm).outs
  obtain⟨g,p1,p2,p3,p4,e1,i1,i2,i3,i4⟩:=dK h ia hr
  have l2:=bP h i2
  have hlt:=eC hi
  have hadd:=bY i (by omega)
  obtain⟨k1,hk1⟩:=iY (p:=λq:aD=>decide (q.name=r.name)) hrm (AT rfl)
  have hk1:fF rs r.name=some k1:=hk1
  have km:=VT (Z:=[]) h (s:=r.name) (ia.ls _ 46) (by omega)
  have hcl:=NJ hr
  rw[show decide (∃k,fF rs r.name=some k/\k<i)=decide (k1<i) by rw[hk1];simp]at hcl
  have hb:decide ((k1:Int)<(i:Int))=decide (k1<i):=by rw[dn,IT,IT];omega
  rw[aF]
  simp only[KP,↓reduceIte,reduceEqDiff,reduceLT,reduceCtorEq,qW h,LG h,h.cM,h.aY,h.bC,g0,g6,la,hlt,e1,l2,km,hk1,dI,hb]
  refine aV (λj F U=>U=[]/\F.get 0=a/\F.get 6=.int .i64 (i:Int)/\F.get 55=p2/\F.get 56=.int .i64 (r.outs.length:Int)/\F.get 57=.int .i64 (j:Int)/\F.get 7=.bool (decide (k1<i)||(r.outs.take j).any λo=>decide (∃k,c_ rs o=some k/\k<i))) r.outs.length ?_ ?_ r.outs.length 0 _ _ (by omega) ⟨rfl,(mT (by simp +decide only[GS,g0,g6,aj]) (by simp[FT.dJ]))⟩
  ·rintro j F U hj ⟨rfl,g0,g6,g55,g56,g57,g7⟩ next2
   obtain⟨m,hm⟩:∃y,r.outs[j]?=some y:=⟨_,BY hj⟩
   have hmm:=af hm
   obtain⟨g,e2⟩:=gI h i2 hm
   have hlt2:=eC hj
   have hadd2:=bY j (by omega)
   obtain⟨k2,hk2⟩:=iY (p:=λq:aD=>decide (m∈q.outs)) hrm (AT hmm)
   have hk2:c_ rs m=some k2:=hk2
   have kk:=LO (Z:=[]) h (s:=m) (ia.ls _ 46) hmem (by omega)
   have hb2:decide ((k2:Int)<(i:Int))=decide (k2<i):=by rw[dn,IT,IT];omega
   have hnew:=pZ (p:=λo=>decide (∃k,c_ rs o=some k/\k<i)) hm
   rw[show decide (∃k,c_ rs m=some k/\k<i)=decide (k2<i) by rw[hk2];simp]at hnew
   rw[aF]
   cases hbad:(decide (k1<i)||(r.outs.take j).any λo=>decide (∃k,c_ rs o=some k/\k<i)) with
   |true=>
    rw[hbad]at g7
    simp only[KP,↓reduceIte,reduceEqDiff,reduceLT,qW h,g55,g56,g57,g7,hlt2,e2,hadd2]
    refine next2 _ _ ⟨rfl,(mT (by simp +decide only[GS,g0,g6,g55,g56,aj]) ?_)⟩
    rw[hnew,<- Bool.or_assoc,hbad]
    simp only[FT.dJ,reduceEqDiff,↓reduceIte,Bool.true_or]
   |false=>
    rw[hbad]at g7
    simp only[KP,↓reduceIte,reduceEqDiff,reduceLT,reduceCtorEq,qW h,g0,g6,g55,g56,g57,g7,hlt2,e2,kk,hk2,dI,hb2,hadd2]
    refine next2 _ _ ⟨rfl,(mT (by simp +decide only[GS,g0,g6,g55,g56,aj]) ?_)⟩
    rw[hnew,<- Bool.or_assoc,hbad]
    simp only[FT.dJ,reduceEqDiff,↓reduceIte,Bool.false_or]
  ·rintro F U ⟨rfl,g0,g6,g55,g56,g57,g7⟩
   have hlt2:=eG (bg r.outs.length)
   rw[ak (ae _),<- hcl]at g7
   rw[aF]
   cases hc:oK rs i with
   |true=>
    rw[hc]at g7
    simp only[KP,↓reduceIte,reduceEqDiff,reduceLT,reduceCtorEq,qW h,h.cM,h.bC,g0,g6,g56,g57,g7,hlt2,e1,aK d19,a_]
    refine hk 2 _ (.inl ?_)
    have hst:tK rs=true:=by
     unfold tK
     rw[ek]
     exact⟨i,js.2 hi,hc⟩
    rw[b8 hst]at hE
    rw[hE]
    exact⟨by decide,rfl⟩
   |false=>
    rw[hc]at g7
    simp only[KP,↓reduceIte,reduceEqDiff,reduceLT,g6,g56,g57,g7,hlt2,hadd]
    refine next _ _ ⟨rfl,(lT (by simp +decide only[GS,g0,aj]) (λj hj=>?_))⟩
    rcases cj j i with g | g
    ·exact hp j g
    ·obtain rfl:j=i:=by omega
     exact hc
 ·rintro F U ⟨rfl,g0,g6,hp⟩
  have hlt:=eG (bg rs.length)
  rw[aF]
  simp only[KP,↓reduceIte,reduceEqDiff,reduceLT,reduceCtorEq,g0,g6,la,hlt]
  refine key ?_ _ (by simp +decide only[GS,g0])
  unfold tK
  rw[mq]
  intro i hi
  rw[hp i (js.1 hi)];simp
theorem T2 (h:bJ E) {a:V}{rs:List aD}(hs:vO rs) (ia:IS bS a rs) (F:FT) (g0:F.get 0=a)(hk:∀e nm,Jb rs e->K (.gB [.int .i64 e,.str nm]) []):R E (aA Tryz.f46).code [] ⟨110,F⟩ [] (mQ E (aA Tryz.f46).results K):=by
 have la:=cI h ia
 have hle:=hs.len
 have d6:=h.abH
 simp only[aA,Tryz.f46,cutAt,ag]at d6
 have key:=λhp0 h40 F g0=>WI (K:=K) h hs ia hp0 h40 F g0 hk
 rw[show (aA Tryz.f46).code=.seq (cutAt [0] (aA Tryz.f46).code) (.seq (cutAt [1,0] (aA Tryz.f46).code) (.seq (cutAt [1,1,0] (aA Tryz.f46).code) (cutAt [1,1,1] (aA Tryz.f46).code))) from rfl]
 generalize cutAt [1,1,1] (aA Tryz.f46).code=C at *
 simp only[aA,Tryz.f46,KP,↓reduceIte,reduceLT,kX,cutAt]
 refine aV (λi F U=>U=[]/\F.get 0=a/\F.get 4=.int .i64 (i:Int)/\∀(j:Nat) (s:aD),j<i->rs[j]?=some s->bE s=0) rs.length ?_ ?_ rs.length 0 _ _ (by omega) ⟨rfl,(lT (by simp +decide only[GS,g0,aj]) (λj s hj=>by omega))⟩
 ·rintro i F U hi ⟨rfl,g0,g4,hp⟩ next
  obtain⟨r,hr⟩:∃y,rs[i]?=some y:=⟨_,BY hi⟩
  have hrs:=hs.all r (af hr)
  obtain⟨g,p1,p2,p3,p4,e1,i1,i2,i3,i4⟩:=dK h ia hr
  have hlt:=eC hi
  have hadd:=bY i (by omega)
  have kr:=Nh (Z:=[]) h (JP i1 i2 i3 i4) hrs
  rw[aF]
  by_cases he:bE r=0
  ·have c0:decide (bE r=0)=true:=AT he
   simp only[KP,↓reduceIte,reduceEqDiff,reduceLT,reduceCtorEq,LF h,g0,g4,la,hlt,e1,kr,c0,hadd]
   refine next _ _ ⟨rfl,(lT (by simp +decide only[GS,g0,aj]) (λj s hj hs2=>?_))⟩
   rcases cj j i with g | g
   ·exact hp j s g hs2
   ·obtain rfl:j=i:=by omega
    rw[hr]at hs2;cases hs2;exact he
  ·have c0:decide (bE r=0)=false:=AI he
   simp only[KP,↓reduceIte,reduceEqDiff,reduceLT,reduceCtorEq,qW h,LF h,h.cM,h.bC,g0,g4,la,hlt,e1,kr,c0,aK d6,a_]
   exact hk _ _ (.inl ⟨by rw[AM hr he hp];exact he,(AM hr he hp).symm⟩)
 ·rintro F U ⟨rfl,g0,g4,hp⟩
  have hlt:=eG (bg rs.length)
  have hp0:∀(j:Nat) (s:aD),rs[j]?=some s->bE s=0:=λj s hs2=>hp j s (AS.1 hs2).1 hs2
  rw[aF]
  by_cases h40:40<rs.length
  ·have c0:decide ((40:Int)<(rs.length:Int))=true:=AT (by omega)
   simp only[KP,↓reduceIte,reduceEqDiff,reduceLT,reduceCtorEq,kX,g0,g4,la,hlt,c0]
   refine hk 4 _ (.inl ?_)
   rw[zT hp0,b8 h40]
   exact⟨by decide,rfl⟩
  ·have c0:decide ((40:Int)<(rs.length:Int))=false:=AI (by omega)
   simp only[KP,↓reduceIte,reduceEqDiff,reduceLT,reduceCtorEq,g0,g4,la,hlt,c0]
   exact key hp0 h40 _ (by simp +decide only[GS,g0])
theorem IV (h:bJ E) {a:V}{rs:List aD}(ha:LS bS 46 Z a rs)(hs:vO rs):aC E 46 [a] Z λv σ'=>σ'=Z/\∃e nm,v=.gB [.int .i64 e,.str nm]/\Jb rs e:=by
 obtain⟨a',ea,ia⟩:=dQ h ha
 rw[aH h.hs46 h.sp46 h.fn46 h.md46 (args':=[a']) (by simp only[aU,ea]),aX (by kernel_rfl)]
 exact T2 h hs ia _ (by simp +decide only[GS]) λe nm he=>⟨rfl,e,nm,rfl,he⟩
end
end
section
section
variable {E:Env}{Z:Sg}{K:V->Sg->Prop}
def fE:Lay AxS.Step:=⟨λr x=>∃a l,r=[.str x.out,.int .i64 x.op,a,l,.int .i64 x.n]/\iO aM a x.args/\iO aM l x.lits,5,λ_ _ ⟨_,_,h,_⟩=>by rw[h];rfl,λ_ _ ⟨a,l,h,h1,h2⟩ c hc=>by
 rw[h]at hc
 simp only[By,br,dz]at hc
 rcases hc with rfl | rfl | rfl | rfl | rfl
 ·rfl
 ·rfl
 ·exact h1.is.bF
 ·exact h2.is.bF
 ·rfl⟩
theorem Ct:∀r x,fE.P r x->∀c∈r,bU false c=true:=λr x ⟨a,l,h,h1,h2⟩ c hc=>by
 rw[h]at hc
 simp only[By,br,dz]at hc
 rcases hc with rfl | rfl | rfl | rfl | rfl
 ·rfl
 ·rfl
 ·exact h1.tag
 ·exact h2.tag
 ·rfl
theorem Ow:∀r x,aM.P r x->∀c∈r,bU false c=true:=λr x hr c hc=>by
 rw[show r=[.str x] from hr]at hc
 cases hc with
 |head=>rfl
 |tail _ h=>cases h
theorem Ac (h:bJ E) {v:V}{l:List bD} (iv:IS aM v l)(hl:l.length<=8796093022208):∃w U v',Ax.append E [] #[24,24] .aB v=some (w,U)/\bW U E.ty false w=some v'/\iO aM v' l:=by
 obtain⟨rs,e,ha⟩:=mI iv []
 have hr:lF l.length 16=true:=by
  unfold lF
  rw[IT]
  exact gh (gr 17 hl) (by decide)
 obtain⟨w,U,h1,h2⟩:=Rs (ats:=#[24,24]) h.aY rfl h.cM rfl (by decide) (iD h) rfl e ha hr
 obtain⟨v',h3,h4⟩:=oV h.cM rfl Ow h2
 exact⟨w,U,v',h1,h3,h4⟩
theorem jK {c:V}(h:Ax.bF c=true):c.cells=[c]:=by cases c <;> first | rfl | cases h
theorem Ev (Z:Sg):aQ Z E.ty true .aB=some .aB:=rfl
theorem TG (h:bJ E) {x:aD}{a b c d:V} (ia:IS aM a x.ins) (ib:IS aM b x.outs) (ic:IS aM c x.after)(hx:Mid x) {U:Sg}{n0:Nat} (b0:U[n0]?=some (O.cells 46 [.str x.name,a,b,c,d] true)) (F:FT) (g1:F.get 1=.ref n0 0) (g2:F.get 2=.ref (n0+1) 0) :
  ∃F' a' b' c',bG E (ev E 0) (opsOf (cutAt [1,0] (aA Tryz.f74).code)) ⟨45,F⟩ U=some (⟨45,F'⟩,U++[O.cells 46 [.str x.name,a',b',c',.aB] true])/\F'.get 1=.ref n0 0/\F'.get 2=.ref (n0+1) 0/\F'.get 3=.ref U.length 0/\iO aM a' x.ins/\iO aM b' x.outs/\iO aM c' x.after:=by
 have a1:=hx.ins
 have a2:=hx.outs
 have a3:=hx.after
 obtain⟨w1,τ1,a',h1,k1,i1⟩:=Ac h ia (by omega)
 obtain⟨w2,τ2,b',h2,k2,i2⟩:=Ac h ib (by omega)
 obtain⟨w3,τ3,c',h3,k3,i3⟩:=Ac h ic (by omega)
 have s1:=λZ=>oW (E:=E) ia Z
 have s2:=λZ=>oW (E:=E) ib Z
 have s3:=λZ=>oW (E:=E) ic Z
 have v1:=bV 10 ia
 have v2:=bV 10 ib
 have v3:=bV 10 ic
 have u1:=bV 10 i1.is
 have u2:=bV 10 i2.is
 have u3:=bV 10 i3.is
 have o1:=aL i1.is.bF
 have o2:=aL i2.is.bF
 have o3:=aL i3.is.bF
 have n1:=jK i1.is.bF
 have n2:=jK i2.is.bF
 have n3:=jK i3.is.bF
 have b0':=aP (x:=O.cells 46 [.str [],.aB,.aB,.aB,.aB] true) b0
 have vs:=wU 11 x.name
 unfold bG
 rw[h.WS,h.Yv]
 simp only[aA,Tryz.f74,KP,Ax.loadAt,Ax.storeAt,↓reduceIte,reduceEqDiff,reduceLT,reduceAdd,reduceCtorEq,h.cM,h.aY,h.fN,h.bC,opsOf,cutAt,Fz.apps,eJ,bB,bQ,iX,Ax.comp,Ax.last,dM,Ax.again,vM,aU,Ax.fill,Ax.placeOf,g1,b0,b0',h1,h2,h3,k1,k2,k3,s1,s2,s3,v1,v2,v3,u1,u2,u3,o1,o2,o3,vs,n1,n2,n3,Ev,aR,dR]
 exact⟨_,a',b',c',rfl,(gE (by simp +decide only[GS,g1,g2,aj]) ⟨i1,i2,i3⟩)⟩
def Kp (Z U:Sg):Prop:=∀(c:Nat) (o:O),Z[c]?=some o->U[c]?=some o
theorem TH (h:bJ E) {x:aD}{a b c d:V} (ia:IS aM a x.ins) (ib:IS aM b x.outs) (ic:IS aM c x.after)(hx:Mid x) {U:Sg}{n0:Nat} (b0:U[n0]?=some (O.cells 46 [.str x.name,a,b,c,d] true)) (F:FT) (g1:F.get 1=.ref n0 0) (g2:F.get 2=.ref (n0+1) 0) {st:List iW}{Q:Ax.X->Fr->Sg->Prop}
  (hk:∀F' a' b' c',F'.get 1=.ref n0 0->F'.get 2=.ref (n0+1) 0->F'.get 3=.ref U.length 0->iO aM a' x.ins->iO aM b' x.outs->iO aM c' x.after->M E st .normal ⟨45,F'⟩ (U++[O.cells 46 [.str x.name,a',b',c',.aB] true]) Q) :
  R E (.region 1 (opsOf (cutAt [1,0] (aA Tryz.f74).code)) true) st ⟨45,F⟩ U Q:=by
 obtain⟨F',a',b',c',hE,h1,h2,h3,h4,h5,h6⟩:=TG h ia ib ic hx b0 F g1 g2
 exact Eq.mpr (fP hE) (hk F' a' b' c' h1 h2 h3 h4 h5 h6)
end
end
section
section
variable {E:Env}{Z:Sg}{K:V->Sg->Prop}
theorem uN {α:Type}{L:Lay α}{t u k:Nat}{U:Sg}{w:V}{l:List α}{cs:List V}{ex:Bool}(hb:U[k]?=some (.cells u cs ex))(hu:u≠t) (ow:bH L t U w l):aZ w≠some k:=by
 rcases ow with⟨rfl,-⟩ | ⟨b,rs,ex,rfl,hc,-⟩
 ·intro e;cases e
 ·intro e;cases e;rw[hb]at hc;cases hc;exact hu rfl
theorem rG {α:Type}{L:Lay α}{t:Nat}{U:Sg}{w:V}{l:List α} (ow:bH L t U w l):w.cells=[w]/\w.aW=true:=by
 rcases ow with⟨rfl,-⟩ | ⟨b,rs,ex,rfl,-⟩ <;> exact⟨rfl,rfl⟩
theorem vX {U:Sg}{i:Nat}{x y:O}(h:U[i]?=some y):(U.set i x)[i]?=some x:=bp (AS.1 h).1
theorem qQ {U:Sg}{i j:Nat}{x y:O}(h:U[j]?=some y)(hij:i≠j):(U.set i x)[j]?=some y:=by rw[OF hij];exact h
theorem TF (h:bJ E) {s:AxS.Step}{p q:V} (ip:IS aM p s.args) (iq:IS aM q s.lits)(hp:s.args.length<=8796093022208)(hq:s.lits.length<=8796093022208) {U:Sg} (F:FT) (g5:F.get 5=.ref U.length 0) {st:List iW}{Q:Ax.X->Fr->Sg->Prop}
  (hk:∀F' p' q',(∀i,i<30->F'.get i=F.get i)->iO aM p' s.args->iO aM q' s.lits->M E st .normal ⟨45,F'⟩ (U++[O.cells 82 [.str s.out,.int .i64 s.op,p',q',.int .i64 s.n] true]) Q):R E (.region 6 (opsOf (cutAt [1,1,0,1,2,2,1,0,2,1,0] (aA Tryz.f74).code)) true) st ⟨45,F⟩ (U++[O.cells 82 [.str s.out,.int .i64 s.op,p,q,.int .i64 s.n] true]) Q:=by
 obtain⟨w1,τ1,p',h1,k1,i1⟩:=Ac h ip (by omega)
 obtain⟨w2,τ2,q',h2,k2,i2⟩:=Ac h iq (by omega)
 have s1:=λZ=>oW (E:=E) ip Z
 have s2:=λZ=>oW (E:=E) iq Z
 have o1:=aL i1.is.bF
 have o2:=aL i2.is.bF
 have n1:=jK i1.is.bF
 have n2:=jK i2.is.bF
 have key:∃F',bG E (ev E 0) (opsOf (cutAt [1,1,0,1,2,2,1,0,2,1,0] (aA Tryz.f74).code)) ⟨45,F⟩ (U++[O.cells 82 [.str s.out,.int .i64 s.op,p,q,.int .i64 s.n] true])=some (⟨45,F'⟩,U++[O.cells 82 [.str s.out,.int .i64 s.op,p',q',.int .i64 s.n] true])/\∀i,i<30->F'.get i=F.get i:=by
  unfold bG
  rw[h.WR,h.Yu]
  simp only[aA,Tryz.f74,KP,Ax.loadAt,Ax.storeAt,↓reduceIte,reduceEqDiff,reduceLT,reduceLeDiff,reduceAdd,reduceCtorEq,h.aY,h.cN,opsOf,cutAt,Fz.apps,bB,bQ,iX,Ax.comp,vM,gR,aU,g5,h1,h2,k1,k2,s1,s2,o1,o2,n1,n2,Ev,aR,dR]
  refine⟨_,rfl,λi hi=>?_⟩
  simp only[FT.dJ]
  repeat rw[ay (by omega)]
 obtain⟨F',hE,hF⟩:=key
 exact Eq.mpr (fP hE) (hk F' p' q' hF i1 i2)
theorem Rr (h:bJ E) {U:Sg}{w:V}{l:List AxS.Step}{s:AxS.Step}{p q:V} (ow:bH fE 82 U w l) (ip:iO aM p s.args) (iq:iO aM q s.lits)(hb:l.length<=1000):∃w' τ',Ax.append E (U++[O.cells 82 [.str s.out,.int .i64 s.op,p,q,.int .i64 s.n] true]) #[44,44] w (.sl U.length 0 1 none)=some (w',τ')/\bH fE 82 τ' w' (l++[s])/\Sp (U++[O.cells 82 [.str s.out,.int .i64 s.op,p,q,.int .i64 s.n] true]) τ' w/\U.length<=τ'.length/\∀b,aZ w'=some b->aZ w=some b\/U.length<=b:=by
 obtain⟨w',τ',h1,h2,h3,h4,h5⟩:=iB (m:=[s]) (new:=[[.str s.out,.int .i64 s.op,p,q,.int .i64 s.n]]) h.fN rfl h.cN rfl (by decide) (Bb h) rfl (ow.app [O.cells 82 [.str s.out,.int .i64 s.op,p,q,.int .i64 s.n] true]) (kO rfl) (.one ⟨p,q,rfl,ip,iq⟩) (cZ (b:=1001) (by decide) (by simp only[aa,bf];omega))
 refine⟨w',τ',h1,h2,h3,?_,λb e=>?_⟩
 ·simp only[an,aa,bf]at h4;omega
 ·rcases h5 b e with g | g
  ·exact .inl g
  ·simp only[an,aa,bf]at g;exact .inr (by omega)
def abZ (U:Sg) (lo:Nat) (v:V) (x:aD):Prop:=∃a b c w,v=.agg [.str x.name,a,b,c,w]/\iO aM a x.ins/\iO aM b x.outs/\iO aM c x.after/\bH fE 82 U w x.steps/\∀b,aZ w=some b->lo<=b
theorem Rc (h:bJ E) {v:V}{x:aD}(hv:I9 v x)(hx:Mid x):aC E 74 [v] Z λv' U=>abZ U Z.length v' x/\Kp Z U:=by
 obtain⟨a,b,c,d,rfl,ia,ib,ic,id⟩:=hv
 have a4:=hx.steps
 have ha:=aL ia.bF
 have hb:=aL ib.bF
 have hc:=aL ic.bF
 have hd:=aL id.bF
 have ld:=jJ h id
 rw[eD h.hs74 h.sp74 h.fn74 h.md74,aX (by kernel_rfl)]
 simp only[aA,Tryz.f74,KP,↓reduceIte,reduceLT,reduceAdd,h.bC,ha,hb,hc,hd]
 have hlen:(Z++[O.cells 46 [.str x.name,a,b,c,d] true]).length=Z.length+1:=by simp
 have b0:(Z++[O.cells 46 [.str x.name,a,b,c,d] true]++[O.cells 46 [.str [],.aB,.aB,.aB,.aB] true])[Z.length]?=some (O.cells 46 [.str x.name,a,b,c,d] true):=aP aR
 have z0:(Z++[O.cells 46 [.str x.name,a,b,c,d] true]++[O.cells 46 [.str [],.aB,.aB,.aB,.aB] true])[Z.length+1]?=some (O.cells 46 [.str [],.aB,.aB,.aB,.aB] true):=by rw[<- hlen];exact aR
 have kp:Kp Z (Z++[O.cells 46 [.str x.name,a,b,c,d] true]++[O.cells 46 [.str [],.aB,.aB,.aB,.aB] true]):=λc o e=>aP (aP e)
 have hl2:(Z++[O.cells 46 [.str x.name,a,b,c,d] true]++[O.cells 46 [.str [],.aB,.aB,.aB,.aB] true]).length=Z.length+2:=by simp
 simp only[hlen]
 generalize Z++[O.cells 46 [.str x.name,a,b,c,d] true]++[O.cells 46 [.str [],.aB,.aB,.aB,.aB] true]=U at *
 refine TH h ia ib ic hx b0 _ ?_ ?_ ?_
 ·exact (by simp +decide only[GS])
 ·exact (by simp +decide only[GS])
 intro F1 a' b' c' g1 g2 g3 i1 i2 i3
 simp only[KP,↓reduceIte,reduceLT]
 have b1:=aP (x:=O.cells 46 [.str x.name,a',b',c',.aB] true) b0
 have z1:=aP (x:=O.cells 46 [.str x.name,a',b',c',.aB] true) z0
 have kp1:Kp Z (U++[O.cells 46 [.str x.name,a',b',c',.aB] true]):=λc o e=>aP (kp c o e)
 have x1:(U++[O.cells 46 [.str x.name,a',b',c',.aB] true])[U.length]?=some (O.cells 46 [.str x.name,a',b',c',.aB] true):=aR
 rw[hl2]at x1 g3
 generalize U++[O.cells 46 [.str x.name,a',b',c',.aB] true]=U at *
 refine aV (λi F U=>U[Z.length]?=some (O.cells 46 [.str x.name,a,b,c,d] true)/\U[Z.length+1]?=some (O.cells 46 [.str [],.aB,.aB,.aB,.aB] true)/\Kp Z U/\F.get 1=.ref Z.length 0/\F.get 2=.ref (Z.length+1) 0/\F.get 3=.ref (Z.length+2) 0/\F.get 4=.int .i64 (i:Int)/\∃w,U[Z.length+2]?=some (O.cells 46 [.str x.name,a',b',c',w] true)/\bH fE 82 U w (x.steps.take i)/\∀b,aZ w=some b->Z.length<=b) x.steps.length ?_ ?_ x.steps.length 0 _ _ (by omega) ⟨b1,z1,kp1,(fZ (by simp +decide only[GS,g1,g2,g3,aj]) ⟨.aB,x1,.inl ⟨rfl,rfl⟩,λb e=>by cases e⟩)⟩
 ·rintro i F U hi ⟨b0,z0,kp,g1,g2,g3,g4,w,x0,ow,hw⟩ next
  obtain⟨s,hst⟩:∃y,x.steps[i]?=some y:=⟨_,BY hi⟩
  have hmem:=af hst
  have a5:=hx.args s hmem
  have a6:=hx.lits s hmem
  obtain⟨g,p,q,e1,ip,iq⟩:=qM h id hst
  have hop:=aL ip.bF
  have hoq:=aL iq.bF
  have hlt:=eC hi
  have hadd:=bY i (by omega)
  rw[aF]
  simp only[KP,Ax.loadAt,Ax.storeAt,↓reduceIte,reduceEqDiff,reduceLT,reduceAdd,reduceCtorEq,h.fN,h.bC,h.cN,g1,g4,b0,ld,hlt,e1,hop,hoq,aR,dR]
  refine TF h ip iq (by omega) (by omega) _ ?_ ?_
  ·exact (by simp +decide only[GS])
  intro F2 p' q' hF ip' iq'
  have k1:F2.get 1=.ref Z.length 0:=by rw[hF 1 (by omega)];exact (by simp +decide only[GS,g1])
  have k2:F2.get 2=.ref (Z.length+1) 0:=by rw[hF 2 (by omega)];exact (by simp +decide only[GS,g2])
  have k3:F2.get 3=.ref (Z.length+2) 0:=by rw[hF 3 (by omega)];exact (by simp +decide only[GS,g3])
  have k4:F2.get 4=.int .i64 (i:Int):=by rw[hF 4 (by omega)];exact (by simp +decide only[GS,g4])
  have k5:F2.get 5=.ref U.length 0:=by rw[hF 5 (by omega)];exact (by simp +decide only[GS])
  have hop':=aL ip'.is.bF
  have hoq':=aL iq'.is.bF
  have b1:=aP (x:=O.cells 82 [.str s.out,.int .i64 s.op,p',q',.int .i64 s.n] true) b0
  have z1:=aP (x:=O.cells 82 [.str s.out,.int .i64 s.op,p',q',.int .i64 s.n] true) z0
  have x1:=aP (x:=O.cells 82 [.str s.out,.int .i64 s.op,p',q',.int .i64 s.n] true) x0
  have s1:(U++[O.cells 82 [.str s.out,.int .i64 s.op,p',q',.int .i64 s.n] true])[U.length]?=some (O.cells 82 [.str s.out,.int .i64 s.op,p',q',.int .i64 s.n] true):=aR
  have ow1:=ow.app [O.cells 82 [.str s.out,.int .i64 s.op,p',q',.int .i64 s.n] true]
  have kp1:Kp Z (U++[O.cells 82 [.str s.out,.int .i64 s.op,p',q',.int .i64 s.n] true]):=λc o e=>aP (kp c o e)
  have hle:Z.length<=(U++[O.cells 82 [.str s.out,.int .i64 s.op,p',q',.int .i64 s.n] true]).length:=by
   have:=(AS.1 b1).1;omega
  generalize U++[O.cells 82 [.str s.out,.int .i64 s.op,p',q',.int .i64 s.n] true]=τ2 at *
  generalize U.length=y at *
  obtain⟨w',τ3,ha3,ow3,Jd,hl3,hb3⟩:=Rr (s:=s) h ow1 ip' iq' (by rw[bl];omega)
  have x3:=Jd _ _ (aP x1) (uN x1 (by decide) ow1)
  have b3:=Jd _ _ (aP b1) (uN b1 (by decide) ow1)
  have z3:=Jd _ _ (aP z1) (uN z1 (by decide) ow1)
  have kp3:Kp Z τ3:=λc o e=>Jd _ _ (aP (kp1 c o e)) (λe2=>by
   have:=hw c e2
   have:=(AS.1 e).1
   omega)
  obtain⟨hc1,hc2⟩:=rG ow3
  simp only[KP,Ax.loadAt,Ax.storeAt,↓reduceIte,reduceEqDiff,reduceLT,reduceLeDiff,reduceAdd,reduceMul,reduceCtorEq,h.fN,h.bC,h.cN,k3,k4,k5,x1,x3,s1,ha3,hadd,hc1,hc2,hop',hoq',Ax.fill,fG,fl]
  refine next _ _ ⟨qQ b3 (by omega),qQ z3 (by omega),λc o e=>qQ (kp3 c o e) (by have:=(AS.1 e).1;omega),(fZ (by simp +decide only[GS,k1,k2,k3,aj]) ⟨w',vX x3,?_,λb e=>?_⟩)⟩
  ·have e:x.steps.take (i+1)=x.steps.take i++[s]:=by rw[dh,hst];rfl
   rw[e]
   refine ow3.keep λc o hc ho=>qQ ho ?_
   intro e2
   rw[<- e2]at hc
   exact uN x3 (by decide) ow3 hc
  ·rcases hb3 b e with g | g
   ·exact hw b g
   ·omega
 ·rintro F U ⟨b0,z0,kp,g1,g2,g3,g4,w,x0,ow,hw⟩
  have hlt:=eG (bg x.steps.length)
  obtain⟨hc1,hc2⟩:=rG ow
  have o1:=aL i1.is.bF
  have o2:=aL i2.is.bF
  have o3:=aL i3.is.bF
  have zz:=vX (x:=O.cells 46 [.str x.name,a',b',c',w] true) z0
  rw[ak (ae _)]at ow
  rw[aF]
  simp only[KP,Ax.loadAt,Ax.storeAt,↓reduceIte,reduceEqDiff,reduceLT,reduceAdd,reduceCtorEq,h.fN,h.bC,g1,g2,g3,g4,b0,x0,z0,zz,ld,hlt,hc2,o1,o2,o3]
  refine⟨⟨a',b',c',w,rfl,i1,i2,i3,ow.keep λc o hc ho=>qQ ho ?_,hw⟩,λc o e=>qQ (kp c o e) (by have:=(AS.1 e).1;omega)⟩
  intro e2
  rw[<- e2]at hc
  exact uN z0 (by decide) ow hc
end
end
section
section
variable {E:Env}{Z:Sg}{K:V->Sg->Prop}
theorem EX (n k:Nat):jM false .i64 (n:Int) [.int .i64 (k:Int)]=some ((min n k:Nat):Int):=by
 rw[min2]
 by_cases g:(k:Int)<(n:Int)
 ·rw[b8 g,Nat.min_eq_right (by omega)]
 ·rw[ay g,mw (by omega)]
theorem yR {α:Type} (l:List α) (k:Nat):l.take (min l.length k)=l.take k:=by
 rw[List.take_eq_take_iff];omega
theorem DF (h:bJ E) {v:V}{l:List bD} (iv:IS aM v l) (k:Nat):∃w,(∀Z,Ax.slice E Z 24 v none (some (.int .i64 ((min l.length k:Nat):Int))) none=some w)/\IS aM w (l.take k):=by
 obtain⟨w,h1,h2⟩:=xQ h iv (b:=min l.length k) (Nat.min_le_left _ _)
 exact⟨w,h1,by rwa [yR]at h2⟩
theorem Fm (h:bJ E) {v:V}{l:List bD} (iv:iO aM v l) (k:Nat):∃w,(∀Z,Ax.slice E Z 24 v none (some (.int .i64 ((min l.length k:Nat):Int))) none=some w)/\iO aM w (l.take k):=by
 obtain⟨w,h1,-,h2⟩:=rD (lo:=none) (hi:=some (.int .i64 ((min l.length k:Nat):Int))) (a:=0) (b:=min l.length k) h.aY rfl h.cM rfl iv.is (.inr rfl) (.inl ⟨rfl,rfl⟩) (gz _) (Nat.min_le_left _ _)
 refine⟨w,h1,?_⟩
 have:=h2 iv
 rw[eu,yR]at this
 exact this
theorem ND (h:bJ E) {v:V}{l:List AxS.Step} (iv:IS eK v l) (k:Nat):∃w,(∀Z,Ax.slice E Z 44 v none (some (.int .i64 ((min l.length k:Nat):Int))) none=some w)/\IS eK w (l.take k):=by
 obtain⟨w,h1,h2,-⟩:=rD (lo:=none) (hi:=some (.int .i64 ((min l.length k:Nat):Int))) (a:=0) (b:=min l.length k) h.fN rfl h.cN rfl iv (.inr rfl) (.inl ⟨rfl,rfl⟩) (gz _) (Nat.min_le_left _ _)
 refine⟨w,h1,?_⟩
 rw[eu,yR]at h2
 exact h2
def rT (x:aD):aD:={ x with ins:=x.ins.take 10,outs:=x.outs.take 6,after:=x.after.take 10,steps:=x.steps.take 14 }
def BN (s:AxS.Step):AxS.Step:={ s with args:=s.args.take 8,lits:=s.lits.take 3 }
def cut (x:aD):aD:={ rT x with steps:=(x.steps.take 14).map BN }
theorem Fo (x:aD):Small (cut x):=by
 refine⟨?_,?_,?_,?_,λs hs=>?_,λs hs=>?_⟩
 ·show (x.ins.take 10).length<=10;rw[bl];omega
 ·show (x.outs.take 6).length<=6;rw[bl];omega
 ·show (x.after.take 10).length<=10;rw[bl];omega
 ·show ((x.steps.take 14).map BN).length<=14;rw[az,bl];omega
 ·obtain⟨q,_,rfl⟩:=cg.1 hs
  show (q.args.take 8).length<=8;rw[bl];omega
 ·obtain⟨q,_,rfl⟩:=cg.1 hs
  show (q.lits.take 3).length<=3;rw[bl];omega
structure Raw (x:aD):Prop where
 args:∀s∈x.steps,s.args.length<=8796093022208
 lits:∀s∈x.steps,s.lits.length<=8796093022208
theorem Raw.mid {x:aD}(h:Raw x):Mid (rT x):=by
 refine⟨?_,?_,?_,?_,λs hs=>h.args s (ji hs),λs hs=>h.lits s (ji hs)⟩
 ·show (x.ins.take 10).length<=10;rw[bl];omega
 ·show (x.outs.take 6).length<=6;rw[bl];omega
 ·show (x.after.take 10).length<=10;rw[bl];omega
 ·show (x.steps.take 14).length<=14;rw[bl];omega
theorem PX (h:bJ E) {x:aD}{a b c d:V} (ia:IS aM a x.ins) (ib:IS aM b x.outs) (ic:IS aM c x.after) (id:IS eK d x.steps) (F:FT) (g1:F.get 1=.ref 0 0) (g2:F.get 2=.ref 1 0) {st:List iW}{Q:Ax.X->Fr->Sg->Prop}
  (hk:∀F' a' b' c' d',F'.get 1=.ref 0 0->F'.get 2=.ref 1 0->F'.get 3=.ref 2 0->IS aM a' (x.ins.take 10)->IS aM b' (x.outs.take 6)->IS aM c' (x.after.take 10)->IS eK d' (x.steps.take 14) ->
   M E st .normal ⟨86,F'⟩ [O.cells 46 [.str x.name,a,b,c,d] true,O.cells 46 [.str [],.aB,.aB,.aB,.aB] true,O.cells 46 [.str x.name,a',b',c',d'] true] Q) :
  R E (.region 1 (opsOf (cutAt [1,0] (aA Tryz.f110).code)) true) st ⟨86,F⟩ [O.cells 46 [.str x.name,a,b,c,d] true,O.cells 46 [.str [],.aB,.aB,.aB,.aB] true] Q:=by
 obtain⟨a',sa,ia'⟩:=DF h ia 10
 obtain⟨b',sb,ib'⟩:=DF h ib 6
 obtain⟨c',sc,ic'⟩:=DF h ic 10
 obtain⟨d',sd,id'⟩:=ND h id 14
 have la:=bP h ia
 have lb:=bP h ib
 have lc:=bP h ic
 have ld:=jJ h id
 have m1:=EX x.ins.length 10
 have m2:=EX x.outs.length 6
 have m3:=EX x.after.length 10
 have m4:=EX x.steps.length 14
 have o1:=aL ia'.bF
 have o2:=aL ib'.bF
 have o3:=aL ic'.bF
 have o4:=aL id'.bF
 have n1:=jK ia'.bF
 have n2:=jK ib'.bF
 have n3:=jK ic'.bF
 have n4:=jK id'.bF
 have v1:=bV 10 ia
 have v2:=bV 10 ib
 have v3:=bV 10 ic
 have v4:=lN 9 id
 have u1:=bV 10 ia'
 have u2:=bV 10 ib'
 have u3:=bV 10 ic'
 have u4:=lN 9 id'
 have vs:=wU 11 x.name
 have vi:=λk i=>KN 11 k i
 have m1:jM false .i64 (x.ins.length:Int) [.int .i64 10]=some ((min x.ins.length 10:Nat):Int):=m1
 have m2:jM false .i64 (x.outs.length:Int) [.int .i64 6]=some ((min x.outs.length 6:Nat):Int):=m2
 have m3:jM false .i64 (x.after.length:Int) [.int .i64 10]=some ((min x.after.length 10:Nat):Int):=m3
 have m4:jM false .i64 (x.steps.length:Int) [.int .i64 14]=some ((min x.steps.length 14:Nat):Int):=m4
 have key:∃F',bG E (ev E 0) (opsOf (cutAt [1,0] (aA Tryz.f110).code)) ⟨86,F⟩ [O.cells 46 [.str x.name,a,b,c,d] true,O.cells 46 [.str [],.aB,.aB,.aB,.aB] true]=some (⟨86,F'⟩,[O.cells 46 [.str x.name,a,b,c,d] true,O.cells 46 [.str [],.aB,.aB,.aB,.aB] true,O.cells 46 [.str x.name,a',b',c',d'] true])/\F'.get 1=.ref 0 0/\F'.get 2=.ref 1 0/\F'.get 3=.ref 2 0:=by
  unfold bG
  rw[h.Uy,h.Vr]
  simp only[aA,Tryz.f110,KP,Ax.loadAt,Ax.storeAt,↓reduceIte,reduceEqDiff,reduceLT,reduceAdd,reduceCtorEq,h.cM,h.aY,h.fN,h.bC,opsOf,cutAt,eJ,bB,bQ,iX,Ax.comp,Ax.last,dM,Ax.again,aS,Ax.fill,Ax.placeOf,g1,la,lb,lc,ld,sa,sb,sc,sd,m1,m2,m3,m4,o1,o2,o3,o4,n1,n2,n3,n4,v1,v2,v3,v4,u1,u2,u3,u4,vs,vi]
  exact⟨_,rfl,(by simp +decide only[GS,g1,g2,aj])⟩
 obtain⟨F',hE,k1,k2,k3⟩:=key
 exact Eq.mpr (fP hE) (hk F' a' b' c' d' k1 k2 k3 ia' ib' ic' id')
theorem pU {sz:Nat}:∀(rs:List (List V)),(∀r∈rs,r.length=sz)->∀(i:Nat) (r:List V),rs[i]?=some r->∀k,k<sz->rs.flatten[i*sz+k]?=r[k]?
 | [],_,i,r,e,_,_=>by cases e
 |x::rs,h,0,r,e,k,hk=>by
  cases e
  have hr:=h x (IN ..)
  rw[da,fl,cz,bq (by omega)]
 |x::rs,h,i+1,r,e,k,hk=>by
  have hr:=h x (IN ..)
  rw[da,ck (by rw[j8];omega),show (i+1)*sz+k-x.length=i*sz+k by rw[j8];omega]
  exact pU rs (λy hy=>h y (No _ hy)) i r e k hk
theorem O8 {sz:Nat}{rs:List (List V)}(h:∀r∈rs,r.length=sz) {i:Nat}{r:List V} (e:rs[i]?=some r) {k:Nat}(hk:k<sz) (u:V):setCells rs.flatten (i*sz+k) [u]=(rs.set i (r.set k u)).flatten:=by
 have hil:=(AS.1 e).1
 have hrl:r.length=sz:=h r (af e)
 have hfl:rs.flatten.length=rs.length*sz:=lS rs h
 have him:(i+1)*sz<=rs.length*sz:=gr _ hil
 rw[j8]at him
 rw[<- CE rs i (r.set k u) h (by rw[fc];exact hrl) hil]
 apply jn
 intro q
 unfold setCells
 have l1:(rs.flatten.take (i*sz+k)).length=i*sz+k:=by rw[bl];omega
 have l2:(rs.flatten.take (i*sz)).length=i*sz:=by rw[bl];omega
 rw[cm,cm,jf,fc,hrl]
 rcases jq q (i*sz+k) with hq | rfl | hq
 ·rw[bq (by omega),gw,b8 hq]
  by_cases g:q<i*sz
  ·rw[bq (by omega),gw,b8 g]
  ·rw[ck (by omega),l2,bq (by rw[fc];omega),OF (by omega)]
   obtain⟨d,rfl⟩:∃d,q=i*sz+d:=⟨q-i*sz,by omega⟩
   rw[mu]
   exact pU rs h i r e d (by omega)
 ·have e0:([u]++rs.flatten.drop (i*sz+k+1))[0]?=some u:=rfl
  rw[ck (by omega),l1,ju,e0,ck (by omega),l2,mu,bq (by rw[fc];omega),bp (by omega)]
 ·rw[ck (by omega),l1,ck (by rw[jf];omega),jf,me,show i*sz+k+1+(q-(i*sz+k)-1)=q by omega]
  rw[ck (by omega),l2]
  by_cases g:q-i*sz<sz
  ·rw[bq (by rw[fc];omega),OF (by omega)]
   obtain⟨d,rfl⟩:∃d,q=i*sz+d:=⟨q-i*sz,by omega⟩
   rw[mu]
   exact pU rs h i r e d (by omega)
  ·rw[ck (by rw[fc];omega),fc,hrl,me,show i*sz+sz+(q-i*sz-sz)=q by omega]
end
end
end Go.Proofs.YtmbikbgdbbcbmaaGreatDoor
end
section
namespace Go.Proofs.YtmbikbgdbbcbmaaGreatDoor
open Go Go.Ax Go.AxS Go.ChangeShapes Go.WideShapes Go.ChangeAt Go.RowKit
section
theorem z_ (s:ByteArray):(Ax.bytes s).length=s.size:=by
 unfold Ax.bytes
 rw[az]
 rfl
section
variable {W:World}{I:Bool->Nat->Prop}{blk:Nat}
theorem QJ {r:List V}{cs:List Value}:∀{off:Nat},BQ W I r cs->(∀j,j<cs.length->W.cell? ⟨blk,off+j,none⟩=cs[j]?)->dW W I r blk off:=by
 induction r generalizing cs with
 |nil=>intro off h hc;exact .nil
 |cons v r ih=>
  intro off h hc
  cases h with
  |cons _ x _ xs hv hr=>
   have h0:=hc 0 (by simp)
   refine .cons v x r (by simpa using h0) hv (ih hr λj hj=>?_)
   have:=hc (j+1) (by simpa using hj)
   rw[show off+1+j=off+(j+1) by omega,this]
   rfl
theorem Lj {sz off:Nat}{R:Nat->List V}{C:Nat->List Value}:∀(n k:Nat),(∀i,k<=i->i<k+n->(R i).length=sz/\(C i).length=sz/\BQ W I (R i) (C i)/\∀j,j<sz->W.cell? ⟨blk,off+i*sz+j,none⟩=(C i)[j]?) ->
  eN W I sz ((List.range' k n).map R) blk (off+k*sz)
 |0,k,_=>.nil
 |n+1,k,h=>by
  rw[List.range'_succ,bj]
  obtain⟨h1,h2,h3,h4⟩:=h k (ae _) (by omega)
  refine .cons _ _ h1 (QJ h3 λj hj=>h4 j (by omega)) ?_
  have:=Lj (off:=off) n (k+1) λi hi hn=>h i (by omega) (by omega)
  rw[show off+(k+1)*sz=off+k*sz+sz by rw[j8];omega]at this
  exact this
end
def Reads (W:World) (t n:Nat) (Q:List V->Prop):Prop:=∀{H:Type} (enc:TypeId × Value->H) (fuel:Nat) (cs:List Value) (d:DataW H) (p:List MemPlace),DataW.trod enc Tryz.prog W 0 (λ_=>true) true fuel t cs=some (d,p)->(DataW.weights Tryz.prog t d).all (· <= reachBytes)=true->cs.length=n/\∃r:List V,r.length=n/\Q r/\BQ W (wW W).bF r cs
theorem Reads.mono {W:World}{t n:Nat}{Q Q':List V->Prop}(h:Reads W t n Q) (k:∀r,Q r->Q' r):Reads W t n Q':=λenc fuel cs d p h1 h2=>by
 obtain⟨a,r,b,c,e⟩:=h enc fuel cs d p h1 h2
 exact⟨a,r,b,k r c,e⟩
def F0 (s:bD):Prop:=s.length<=9223372036854775806
theorem An (W:World):Reads W 9 1 λr=>∃s,r=[.str s]/\F0 s:=λenc fuel cs d p h hw=>by
 obtain⟨s,rfl,hx,hl⟩:=DataW.trod_string Tryz.underlying9 h
 refine⟨rfl,[.str (Ax.bytes s)],rfl,⟨_,rfl,?_⟩,.cons _ _ _ _ (.str _) .nil⟩
 unfold F0
 rw[z_]
 rw[show d=.lit (.string s.data.toList) from au Prod.fst hx,DataW.weights]at hw
 simp only[ig,jm,mg,IT]at hw
 have e:reachBytes=140737488351232:=by decide
 have e1:s.size=s.data.toList.length:=rfl
 omega
theorem EI (W:World):Reads W 3 1 λr=>∃n:Int,r=[.int .i64 n]:=λenc fuel cs d p h hw=>by
 obtain⟨n,rfl,hx,-⟩:=DataW.trod_int Tryz.underlying3 h
 exact⟨rfl,[.int .i64 n],rfl,⟨n,rfl⟩,.cons _ _ _ _ (.int _ _) .nil⟩
theorem uS {H:Type}{e w:Nat}{d:DataW H}:∀{l:List (DataW H)},d∈l->w∈DataW.weights Tryz.prog e d->w∈DataW.weightsAll Tryz.prog e l
 |x::l,hd,hw=>by
  rw[DataW.weightsAll,bw]
  rcases By.1 hd with rfl | hd
  ·exact .inl hw
  ·exact .inr (uS hd hw)
theorem uM {W:World}{α:Type} [Inhabited α] {L:Lay α}{B:α->Prop}{t e n bb:Nat}(ht:Tryz.prog.underlying t=some (.slice e)) (ce:Tryz.prog.cellsOf e=n)(hb:Tryz.prog.bytesOf e=bb)(hn:0<n)(he:Reads W e n λr=>∃x,L.P r x/\B x) :
  Reads W t 1 λr=>∃v l,r=[v]/\IS L v l/\(∀x∈l,B x)/\l.length*bb<=reachBytes:=λ{H} enc fuel cs d p h hw=>by
 rcases Go.Deep.open_slice ht h with⟨rfl,hx⟩ | ⟨a,len,cap,m,k,D,Pl,rfl,hbase,hlc,hcm,hm,hx,hel⟩
 ·exact⟨rfl,[.aB],rfl,⟨.aB,[],rfl,.inl ⟨rfl,rfl⟩,λx hx=>(by cases hx),by simp⟩,.cons _ _ _ _ .aB .nil⟩
 ·have hm:m=cap:=by rw[hm];rfl
  subst hm
  have hd:d=_:=au Prod.fst hx
  dsimp only at hd
  have hwl:len*bb<=reachBytes/\∀i,i<len->(DataW.weights Tryz.prog e (D i)).all (· <= reachBytes)=true:=by
   rw[hd]at hw
   unfold DataW.weights at hw
   rw[ht]at hw
   simp only[ig,my,ah,dw,IT,az,l7]at hw
   refine⟨?_,λi hi=>?_⟩
   ·have h1:=hw.1
    rw[hb]at h1
    refine gh (gr _ (by omega)) h1
   ·rw[dw]
    intro w hwi
    rw[IT]
    exact hw.2.1 w (uS (cg.2 ⟨i,js.2 hi,rfl⟩) hwi)
  by_cases hc:m=0
  ·subst hc
   obtain rfl:len=0:=by omega
   exact⟨rfl,[.bT true [] false],rfl,⟨_,[],rfl,.inr ⟨true,[],false,rfl,.nil⟩,λx hx=>(by cases hx),by simp⟩,.cons _ _ _ _ (.emp _ _ a) .nil⟩
  ·obtain⟨cs0,h0,-⟩:=hel 0 (by omega)
   obtain⟨-,hl0,hc0⟩:=World.cells?_some h0
   rw[ce]at hl0 hc0
   have hcell:=hc0 0 hn
   obtain⟨blk,off,sp⟩:=a
   have hadd:((⟨blk,off,sp⟩:Addr).add (0*n)).add 0=⟨blk,off,sp⟩:=by rw[fl];rfl
   rw[hadd]at hcell
   have hsome:∃v,W.cell? ⟨blk,off,sp⟩=some v:=⟨_,hcell.trans (BY (by omega))⟩
   obtain⟨v0,hv0⟩:=hsome
   have hsp:sp=none/\blk<W.heap.size:=by
    unfold World.cell? at hv0
    split at hv0
    ·rename_i c u f hblk
     refine⟨?_,(bh.1 hblk).1⟩
     cases sp with
     |none=>rfl
     |some q=>simp at hv0
    ·cases hv0
   obtain⟨rfl,hlt⟩:=hsp
   have each:∀i,i<len->∃q:List V × List Value × α,q.1.length=n/\q.2.1.length=n/\L.P q.1 q.2.2/\B q.2.2/\BQ W (wW W).bF q.1 q.2.1/\∀j,j<n->W.cell? ⟨blk,off+i*n+j,none⟩=q.2.1[j]?:=λi hi=>by
    obtain⟨cs',h1,h2⟩:=hel i (by omega)
    obtain⟨h3,r,h4,⟨x,h5,h5'⟩,h6⟩:=he enc k cs' (D i) (Pl i) h2 (hwl.2 i hi)
    obtain⟨-,hl1,hc1⟩:=World.cells?_some h1
    rw[ce]at hc1
    refine⟨(r,cs',x),h4,h3,h5,h5',h6,λj hj=>?_⟩
    have:=hc1 j hj
    have ea:((⟨blk,off,none⟩:Addr).add (i*n)).add j=⟨blk,off+i*n+j,none⟩:=by
     rw[Go.Deep.add_add]
     unfold Addr.add
     split
     ·rename_i h0
      rw[show off+i*n+j=off by omega]
     ·rw[qh]
    rw[ea]at this
    exact this
   obtain⟨q,hq⟩:=Go.Deep.choose_lt each
   refine⟨rfl,[.bT true ((List.range' 0 len).map λi=>(q i).1) false],rfl,⟨_,(List.range' 0 len).map λi=>(q i).2.2,rfl,.inr ⟨true,_,false,rfl,?_⟩,λx hx=>?_,by simpa using hwl.1⟩,.cons _ _ _ _ (.bT true _ false blk off len m n (RP W blk hlt) (by simp) hlc (λh=>by cases h) ?_) .nil⟩
   ·have hall:∀(c k:Nat),(∀i,k<=i->i<k+c->L.P (q i).1 (q i).2.2)->dS L.P ((List.range' k c).map λi=>(q i).1) ((List.range' k c).map λi=>(q i).2.2):=by
     intro c
     induction c with
     |zero=>intro k _;exact .nil
     |succ c ih=>
      intro k hk
      rw[List.range'_succ,bj,bj]
      exact .cons (hk k (ae _) (by omega)) (ih (k+1) λi h1 h2=>hk i (by omega) (by omega))
    exact hall len 0 λi _ hi=>(hq i (by omega)).2.2.1
   ·obtain⟨i,hi,rfl⟩:=cg.1 hx
    rw[List.mem_range'_1]at hi
    exact (hq i (by omega)).2.2.2.1
   ·have:=Lj (W:=W) (I:=Ax.sub true (wW W).bF) (blk:=blk) (off:=off) (sz:=n) (R:=λi=>(q i).1) (C:=λi=>(q i).2.1) len 0 λi _ hi=>⟨(hq i (by omega)).1,(hq i (by omega)).2.1,(hq i (by omega)).2.2.2.2.1,(hq i (by omega)).2.2.2.2.2⟩
    rw[fl,kj]at this
    exact this
theorem sY {W:World}{I:Bool->Nat->Prop}{a:List V}{x:List Value}(h:BQ W I a x) {b:List V}{y:List Value} (k:BQ W I b y):BQ W I (a++b) (x++y):=by
 induction a generalizing x with
 |nil=>cases h;exact k
 |cons v a ih=>cases h with | cons _ z _ zs hv hr=>exact .cons _ _ _ _ hv (ih hr)
theorem Ke {β:Type}{l:List β}(h:l.length=5):∃a b c d e,l=[a,b,c,d,e]:=by
 match l,h with
 | [a,b,c,d,e],_=>exact⟨a,b,c,d,e,rfl⟩
theorem one {β:Type}{l:List β}(h:l.length=1):∃a,l=[a]:=by
 match l,h with
 | [a],_=>exact⟨a,rfl⟩
theorem CM {W:World}{t:Nat}{f0 f1 f2 f3 f4:Field}{Q0 Q1 Q2 Q3 Q4:List V->Prop}(ht:Tryz.prog.underlying t=some (.struct #[f0,f1,f2,f3,f4])) (ct:Tryz.prog.cellsOf t=5) (o0:f0.offset=0) (o1:f1.offset=1) (o2:f2.offset=2) (o3:f3.offset=3) (o4:f4.offset=4)
  (c0:Tryz.prog.cellsOf f0.type=1) (c1:Tryz.prog.cellsOf f1.type=1) (c2:Tryz.prog.cellsOf f2.type=1) (c3:Tryz.prog.cellsOf f3.type=1) (c4:Tryz.prog.cellsOf f4.type=1)
  (h0:Reads W f0.type 1 Q0)(h1:Reads W f1.type 1 Q1)(h2:Reads W f2.type 1 Q2)(h3:Reads W f3.type 1 Q3)(h4:Reads W f4.type 1 Q4) :
  Reads W t 5 λr=>∃a b c d e,r=[a,b,c,d,e]/\Q0 [a]/\Q1 [b]/\Q2 [c]/\Q3 [d]/\Q4 [e]:=λ{H} enc fuel cs d p h hw=>by
 obtain⟨xs,k,-,hx,hl,hxl,hf⟩:=DataW.trod_struct ht h
 rw[ct]at hl
 obtain⟨v0,v1,v2,v3,v4,rfl⟩:=Ke hl
 have hxl:xs.length=5:=hxl
 obtain⟨y0,y1,y2,y3,y4,rfl⟩:=Ke hxl
 have hd:d=_:=au Prod.fst hx
 dsimp only at hd
 rw[hd]at hw
 unfold DataW.weights at hw
 rw[ht]at hw
 simp only[bj,map_nil,DataW.weightsEach,my,ah]at hw
 obtain⟨w0,w1,w2,w3,w4,-⟩:=hw
 have g0:=hf 0 f0 rfl
 have g1:=hf 1 f1 rfl
 have g2:=hf 2 f2 rfl
 have g3:=hf 3 f3 rfl
 have g4:=hf 4 f4 rfl
 rw[o0,c0]at g0
 rw[o1,c1]at g1
 rw[o2,c2]at g2
 rw[o3,c3]at g3
 rw[o4,c4]at g4
 obtain⟨-,r0,l0,q0,i0⟩:=h0 enc k [v0] y0.1 y0.2 g0 w0
 obtain⟨-,r1,l1,q1,i1⟩:=h1 enc k [v1] y1.1 y1.2 g1 w1
 obtain⟨-,r2,l2,q2,i2⟩:=h2 enc k [v2] y2.1 y2.2 g2 w2
 obtain⟨-,r3,l3,q3,i3⟩:=h3 enc k [v3] y3.1 y3.2 g3 w3
 obtain⟨-,r4,l4,q4,i4⟩:=h4 enc k [v4] y4.1 y4.2 g4 w4
 obtain⟨a,rfl⟩:=one l0
 obtain⟨b,rfl⟩:=one l1
 obtain⟨c,rfl⟩:=one l2
 obtain⟨d',rfl⟩:=one l3
 obtain⟨e,rfl⟩:=one l4
 exact⟨hl,[a,b,c,d',e],rfl,⟨a,b,c,d',e,rfl,q0,q1,q2,q3,q4⟩,sY i0 (sY i1 (sY i2 (sY i3 i4)))⟩
theorem pE (W:World):Reads W 24 1 λr=>∃v l,r=[v]/\IS aM v l/\(∀x∈l,F0 x)/\l.length*16<=reachBytes:=
 uM (L:=aM) Tryz.underlying24 (by kernel_rfl) (by kernel_rfl) (by decide) (Reads.mono (An W) λr ⟨s,h1,h2⟩=>⟨s,h1,h2⟩)
instance:Inhabited AxS.Step:=⟨⟨[],0,[],[],0⟩⟩
instance:Inhabited aD:=⟨⟨[],[],[],[],[]⟩⟩
def abX (s:AxS.Step):Prop:=s.args.length<=8796093022208/\s.lits.length<=8796093022208
theorem Zw {n:Nat}(h:n*16<=reachBytes):n<=8796093022208:=by
 have e:reachBytes=140737488351232:=by decide
 omega
theorem JQ (W:World):Reads W 82 5 λr=>∃x,eK.P r x/\abX x:=
 Reads.mono (CM Tryz.underlying82 (by kernel_rfl) rfl rfl rfl rfl rfl (by kernel_rfl) (by kernel_rfl) (by kernel_rfl) (by kernel_rfl) (by kernel_rfl) (An W) (EI W) (pE W) (pE W) (EI W)) λr ⟨a,b,c,d,e,hr,⟨s,h0,_⟩,⟨n,h1⟩,⟨v2,l2,h2,i2,_,b2⟩,⟨v3,l3,h3,i3,_,b3⟩,⟨m,h4⟩⟩=>by
  cases h0;cases h1;cases h2;cases h3;cases h4
  exact⟨⟨s,n,l2,l3,m⟩,⟨_,_,hr,i2,i3⟩,Zw b2,Zw b3⟩
theorem JR (W:World):Reads W 46 5 λr=>∃x,bS.P r x/\Raw x:=
 Reads.mono (CM Tryz.underlying46 (by kernel_rfl) rfl rfl rfl rfl rfl (by kernel_rfl) (by kernel_rfl) (by kernel_rfl) (by kernel_rfl) (by kernel_rfl) (An W) (pE W) (pE W) (pE W) (uM (L:=eK) Tryz.underlying44 (by kernel_rfl) rfl (by decide) (JQ W))) λr ⟨a,b,c,d,e,hr,⟨s,h0,_⟩,⟨v1,l1,h1,i1,_⟩,⟨v2,l2,h2,i2,_⟩,⟨v3,l3,h3,i3,_⟩,⟨v4,l4,h4,i4,hB,_⟩⟩=>by
  cases h0;cases h1;cases h2;cases h3;cases h4
  exact⟨⟨s,l1,l2,l3,l4⟩,⟨_,_,_,_,hr,i1,i2,i3,i4⟩,⟨λs hs=>(hB s hs).1,λs hs=>(hB s hs).2⟩⟩
theorem HD (W:World):Reads W 22 1 λr=>∃v l,r=[v]/\IS bS v l/\(∀x∈l,Raw x)/\l.length*Tryz.prog.bytesOf 46<=reachBytes:=
 uM (L:=bS) Tryz.underlying22 (by kernel_rfl) rfl (by decide) (JR W)
section
variable {H:Type}{enc:TypeId × Value->H}{W:World}{base:Nat}{v:Value}{d:DataW H}{p:List MemPlace}
theorem TZ {t:Nat}{Q:List V->Prop}(hr:Reads W t 1 Q)(hc:v.cells = #[v])(h:DataW.Trod enc Tryz.prog W 0 (λ_=>true) true t v d p)(hw:(DataW.weights Tryz.prog t d).all (· <= reachBytes)=true):∃a,Q [a]/\VR (wW W) a v:=by
 obtain⟨fuel,h⟩:=h
 rw[hc]at h
 obtain⟨-,r,h1,h2,h3⟩:=hr enc fuel _ d p h hw
 obtain⟨a,rfl⟩:=one h1
 cases h3 with
 |cons _ _ _ _ hv _=>exact⟨a,h2,.inl hv⟩
theorem Hu {t e:Nat}(ht:Tryz.prog.underlying t=some (.slice e))(hv:Value.okWide Tryz.prog W .any base t v):v.cells = #[v]:=by
 unfold Value.okWide at hv
 rw[ht]at hv
 have hv:Cell.okWide Tryz.prog W .any base t v:=hv
 unfold Cell.okWide Cell.ok at hv
 rw[ht]at hv
 cases v with
 |slice q len cap=>rfl
 |_=>exact hv.elim
theorem N6 (hv:Value.okWide Tryz.prog W .any base 22 v)(h:DataW.Trod enc Tryz.prog W 0 (λ_=>true) true 22 v d p)(hw:(DataW.weights Tryz.prog 22 d).all (· <= reachBytes)=true):∃a l,IS bS a l/\(∀x∈l,Raw x)/\VR (wW W) a v:=by
 obtain⟨a,⟨v',l,e,h1,h2,-⟩,h3⟩:=TZ (HD W) (Hu Tryz.underlying22 hv) h hw
 cases e
 exact⟨a,l,h1,h2,h3⟩
end
end
end Go.Proofs.YtmbikbgdbbcbmaaGreatDoor
end
section
namespace Go.Proofs.YtmbikbgdbbcbmaaGreatDoor.Lb
open Go Go.Ax Go.AxS
section
structure cK (E:Env):Prop where
 oU:E.ty 3=some { kd:=.int .i64,size:=1,bytes:=8,zero:=.int .i64 0 }
 uC:E.ty 4=some { kd:=.bool,size:=1,bytes:=1,zero:=.bool false }
 cM:E.ty 9=some { kd:=.str,size:=1,bytes:=16,zero:=.str [] }
 fO:E.ty 23=some { kd:=.sl 51,size:=1,bytes:=24,zero:=.aB }
 uB:E.ty 84=some { kd:=.ptr 92,size:=1,bytes:=8,zero:=.fJ }
 yP:E.ty 88=some { kd:=.map 51 4,size:=1,bytes:=8,zero:=.b_ }
 xL:E.ty 90=some { kd:=.jR [(0,88)],size:=1,bytes:=8,zero:=.agg [.b_] }
 BA:E.ty 92=some { kd:=.jR [(0,90)],size:=1,bytes:=8,zero:=.agg [.b_] }
 cL:E.ty 51=some { kd:=.jR [(0,4),(1,9)],size:=2,bytes:=24,zero:=.agg [.bool false,.str []] }
 On:E.ty 140=some { kd:=.ptr 90,size:=1,bytes:=8,zero:=.fJ }
 To:E.eqs 51=some [.bool,.str]
 aad:E.hspec 116=some (mZ 51 [154] [] 118)
 hs15:E.hspec 15=none
 OT:E.spec 15=none
 fn15:E.fn 15=some (aA Tryz.f15)
 md15:E.mode 15=.shared
 hs58:E.hspec 58=none
 sp58:E.spec 58=none
 fn58:E.fn 58=some (aA Tryz.f58)
 md58:E.mode 58=.fD
 hs57:E.hspec 57=none
 sp57:E.spec 57=none
 fn57:E.fn 57=some (aA Tryz.f57)
 md57:E.mode 57=.fD
 hs60:E.hspec 60=none
 sp60:E.spec 60=none
 fn60:E.fn 60=some (aA Tryz.f60)
 md60:E.mode 60=.shared
 ZB:E.hspec 70=none
 Xc:E.spec 70=none
 aap:E.fn 70=some (aA Tryz.f70)
 YK:E.mode 70=.shared
 hs114:E.hspec 114=none
 sp114:E.spec 114=none
 fn114:E.fn 114=some (aA Tryz.f114)
 md114:E.mode 114=.shared
 hs65:E.hspec 65=none
 sp65:E.spec 65=none
 fn65:E.fn 65=some (aA Tryz.f65)
 md65:E.mode 65=.shared
 hs63:E.hspec 63=none
 sp63:E.spec 63=none
 fn63:E.fn 63=some (aA Tryz.f63)
 md63:E.mode 63=.fD
 hs64:E.hspec 64=none
 sp64:E.spec 64=none
 fn64:E.fn 64=some (aA Tryz.f64)
 md64:E.mode 64=.fD
 hs135:E.hspec 135=none
 sp135:E.spec 135=none
 fn135:E.fn 135=some (aA Tryz.f135)
 md135:E.mode 135=.fD
 hs67:E.hspec 67=none
 sp67:E.spec 67=none
 fn67:E.fn 67=some (aA Tryz.f67)
 md67:E.mode 67=.fD
 hs66:E.hspec 66=none
 sp66:E.spec 66=none
 fn66:E.fn 66=some (aA Tryz.f66)
 md66:E.mode 66=.fD
 hs118:E.hspec 118=none
 sp118:E.spec 118=none
 fn118:E.fn 118=some (aA Tryz.f118)
 md118:E.mode 118=.fD
 hs155:E.hspec 155=none
 sp155:E.spec 155=none
 fn155:E.fn 155=some (aA Tryz.f155)
 md155:E.mode 155=.fD
 hs189:E.hspec 189=none
 sp189:E.spec 189=none
 fn189:E.fn 189=some (aA Tryz.f189)
 md189:E.mode 189=.fD
 aac:E.hspec 117=none
 XP:E.spec 117=none
 aaZ:E.fn 117=some (aA Tryz.f117)
 Zj:E.mode 117=.shared
 hs75:E.hspec 75=none
 sp75:E.spec 75=none
 fn75:E.fn 75=some (aA Tryz.f75)
 md75:E.mode 75=.fD
 hs16:E.hspec 16=none
 OQ:E.spec 16=none
 fn16:E.fn 16=some (aA Tryz.f16)
 md16:E.mode 16=.fD
 hs43:E.hspec 43=none
 sp43:E.spec 43=none
 fn43:E.fn 43=some (aA Tryz.f43)
 md43:E.mode 43=.fD
 aah:E.hspec 109=none
 XT:E.spec 109=none
 aa3:E.fn 109=some (aA Tryz.f109)
 Zn:E.mode 109=.fD
 hs105:E.hspec 105=none
 sp105:E.spec 105=none
 fn105:E.fn 105=some (aA Tryz.f105)
 md105:E.mode 105=.fD
 hs134:E.hspec 134=none
 sp134:E.spec 134=none
 fn134:E.fn 134=some (aA Tryz.f134)
 md134:E.mode 134=.fD
 hs133:E.hspec 133=none
 sp133:E.spec 133=none
 fn133:E.fn 133=some (aA Tryz.f133)
 md133:E.mode 133=.shared
 aai:E.hspec 102=none
 XU:E.spec 102=none
 aa4:E.fn 102=some (aA Tryz.f102)
 Zo:E.mode 102=.fD
 abx:aI E (cutAt [1,1,1,1,0,1,2,2,1,1,0,2,1] (aA Tryz.f70).code)=true
 abz:aI E (cutAt [1,0] (aA Tryz.f63).code)=true
 d135_1:aI E (cutAt [1,0] (aA Tryz.f135).code)=true
 abv:aI E (cutAt [1,1,0,2,2,0,0] (aA Tryz.f75).code)=true
 abu:aI E (cutAt [1,1,1,0,0] (aA Tryz.f75).code)=true
 T_:eL E (opsOf (cutAt [1,1,1,1,0] (aA Tryz.f75).code))=.lit
 Uf:cB E .lit (opsOf (cutAt [1,1,1,1,0] (aA Tryz.f75).code))=some [⟨3,4,true,false⟩,⟨3,9,true,false⟩,⟨6,9,true,false⟩]
 abK:aI E (cutAt [1,1,0,1,2,2,1,0,2,0] (aA Tryz.f16).code)=true
 abI:aI E (cutAt [1,0,1,2,2,1,0,2,0] (aA Tryz.f43).code)=true
def dL (Z σ':Sg):Prop:=∀(b t:Nat) (cs:List V) (ex:Bool),Z[b]?=some (.cells t cs ex)->σ'[b]?=some (.cells t cs ex)
theorem dL.refl (Z:Sg):dL Z Z:=λ_ _ _ _ h=>h
theorem dL.trans {Z U ρ:Sg}(h:dL Z U) (k:dL U ρ):dL Z ρ:=λb t cs ex e=>k b t cs ex (h b t cs ex e)
theorem nJ {Z:Sg}{b:Nat}{o:O}(h:Z[b]?=some o) (U:Sg):(Z++U)[b]?=some o:=by
 rw[bq (AS.1 h).1];exact h
theorem dL.app (Z U:Sg):dL Z (Z++U):=λ_ _ _ _ h=>nJ h U
theorem dL.F6 {Z:Sg}{m:Nat}{es es':List (V × V)}(h:Z[m]?=some (.map es)):dL Z (Z.set m (.map es')):=λb t cs ex e=>by
 by_cases hb:m=b
 ·subst hb;rw[h]at e;cases e
 ·rw[OF hb];exact e
def SV (Z:Sg) (v:V) (l:List aJ):Prop:=
 (v=.aB/\l=[])\/(∃g full,v=.bT g (l.map row) full)\/∃b cs ex,v=.sl b 0 l.length none/\Z[b]?=some (.cells 51 cs ex)/\cs.take (l.length*2)=l.flatMap row
def LV (v:V) (l:List aJ):Prop:=(v=.aB/\l=[])\/∃g full,v=.bT g (l.map row) full
theorem LV.sv {v:V}{l:List aJ}(h:LV v l) (Z:Sg):SV Z v l:=h.imp id .inl
theorem SV.keep {Z σ':Sg}{v:V}{l:List aJ}(h:SV Z v l) (k:dL Z σ'):SV σ' v l:=by
 rcases h with h | h | ⟨b,cs,ex,h1,h2,h3⟩
 ·exact .inl h
 ·exact .inr (.inl h)
 ·exact .inr (.inr ⟨b,cs,ex,h1,k _ _ _ _ h2,h3⟩)
theorem kF:∀l:List aJ,(l.flatMap row).length=l.length*2
 | []=>rfl
 |x::l=>by rw[j7,an,kF l,aa];show 2+_=_;omega
theorem Iv (l:List aJ):(l.map row).flatten=l.flatMap row:=by rw[List.flatMap_def]
theorem EG:∀l:List aJ,rows 2 l.length (l.flatMap row)=l.map row
 | []=>rfl
 |x::l=>by
  show ((row x++l.flatMap row).take 2)::rows 2 l.length ((row x++l.flatMap row).drop 2)=_
  rw[show (row x++l.flatMap row).take 2=row x from rfl,show (row x++l.flatMap row).drop 2=l.flatMap row from rfl,EG l]
  rfl
theorem L5:∀(l:List aJ) (i:Nat) (x:aJ),l[i]?=some x->((l.flatMap row).drop (i*2)).take 2=row x
 | [],i,x,h=>by simp at h
 |y::l,0,x,h=>by cases h;rfl
 |y::l,i+1,x,h=>by
  rw[show (i+1)*2=i*2+2 by omega]
  show ((row y++l.flatMap row).drop (i*2+2)).take 2=_
  rw[ki,<- List.drop_drop]
  exact L5 l i x h
theorem wE {f:V->Option V}:∀l:List V,(∀x∈l,f x=some x)->aU f l=some l
 | [],_=>rfl
 |x::l,h=>by
  rw[aU,h x (IN ..),wE l λy hy=>h y (No _ hy)]
theorem MQ {l:List aJ}{v:V}(h:v∈l.flatMap row):(∃b,v=.bool b)\/∃s,v=.str s:=by
 rw[ik]at h
 obtain⟨x,_,hx⟩:=h
 simp only[row,By,br,dz]at hx
 rcases hx with rfl | rfl
 ·exact .inl ⟨_,rfl⟩
 ·exact .inr ⟨_,rfl⟩
section
variable {E:Env}{Z:Sg}{K:V->Sg->Prop}
theorem Le (h:cK E) (g:Bool) {b:Nat}{cs:List V}{ex:Bool}{l:List aJ}(hb:Z[b]?=some (.cells 51 cs ex))(hc:cs.take (l.length*2)=l.flatMap row) :
  ∃full,aQ Z E.ty g (.sl b 0 l.length none)=some (.bT g (l.map row) full):=by
 have hlen:l.length*2<=cs.length:=by
  have:=au List.length hc
  rw[bl,kF]at this
  omega
 have hm:aU (λv=>match bI Z E.ty g 11 v with
   |some v=>if bU g v then some v else no "snap: borrowed"
   |none=>none) (l.flatMap row)=some (l.flatMap row):=by
  refine wE _ λx hx=>?_
  rcases MQ hx with⟨b,rfl⟩ | ⟨s,rfl⟩
  ·cases g <;> rfl
  ·cases g <;> rfl
 refine⟨(match (none:Option Nat) with
  |some k=>k==l.length
  |none=>ex&&decide (0<2)&&(0+l.length*2==cs.length)),?_⟩
 have e:bI Z E.ty g 12 (.sl b 0 l.length none)=some (.bT g (l.map row) (ex&&decide (0<2)&&(0+l.length*2==cs.length))):=by
  rw[bI]
  simp only[hb,h.cL]
  rw[b8 (by omega),eu,hc]
  show (match aU (λv=>match bI Z E.ty g 11 v with
   |some v=>if bU g v then some v else no "snap: borrowed"
   |none=>none) (l.flatMap row) with
   |some l'=>some (V.bT g (rows 2 l.length l') (ex&&decide (0<2)&&(0+l.length*2==cs.length)))
   |none=>none)=_
  rw[hm]
  simp only[EG]
 show (match bI Z E.ty g 12 (.sl b 0 l.length none) with
  |some v=>if bU g v then some v else no "snap: borrowed"
  |none=>none)=_
 rw[e]
 cases g <;> rfl
theorem Lf (h:cK E) {v:V}{l:List aJ}(hv:SV Z v l):∃v',aQ Z E.ty true v=some v'/\LV v' l:=by
 rcases hv with⟨rfl,rfl⟩ | ⟨g,full,rfl⟩ | ⟨b,cs,ex,rfl,hb,hc⟩
 ·exact⟨.aB,rfl,.inl ⟨rfl,rfl⟩⟩
 ·exact⟨_,rfl,.inr ⟨g,full,rfl⟩⟩
 ·obtain⟨full,e⟩:=Le h true hb hc
  exact⟨_,e,.inr ⟨true,full,rfl⟩⟩
theorem Mg (h:cK E) {v:V}{l:List aJ}(hv:(v=.aB/\l=[])\/(∃full,v=.bT false (l.map row) full)\/∃b cs ex,v=.sl b 0 l.length none/\Z[b]?=some (.cells 51 cs ex)/\cs.take (l.length*2)=l.flatMap row) :
  ∃v',bW Z E.ty false v=some v'/\((v'=.aB/\l=[])\/∃full,v'=.bT false (l.map row) full):=by
 rcases hv with⟨rfl,rfl⟩ | ⟨full,rfl⟩ | ⟨b,cs,ex,rfl,hb,hc⟩
 ·exact⟨.aB,rfl,.inl ⟨rfl,rfl⟩⟩
 ·exact⟨_,rfl,.inr ⟨full,rfl⟩⟩
 ·obtain⟨full,e⟩:=Le h false hb hc
  exact⟨_,e,.inr ⟨full,rfl⟩⟩
theorem AA (h:cK E) {v:V}{l:List aJ}(hv:SV Z v l):lenOf E Z 23 v=some l.length:=by
 unfold lenOf
 rw[h.fO]
 rcases hv with⟨rfl,rfl⟩ | ⟨g,full,rfl⟩ | ⟨b,cs,ex,rfl,hb,hc⟩
 ·rfl
 ·simp
 ·rfl
theorem wM (h:cK E) {v:V}{l:List aJ}(hv:SV Z v l) {i:Nat}{x:aJ}(hx:l[i]?=some x) :
  ∃a,indexAddr E 23 v (.int .i64 (i:Int))=some a/\∀σ',dL Z σ'->loadAt E σ' 51 a=some (.agg [.bool x.1,.str x.2]):=by
 have hi:=(AS.1 hx).1
 rcases hv with⟨rfl,rfl⟩ | ⟨g,full,rfl⟩ | ⟨b,cs,ex,rfl,hb,hc⟩
 ·simp at hx
 ·have hr:(l.map row)[((i:Nat):Int).toNat]?=some (row x):=by
   rw[dj,kq,hx];rfl
  refine⟨.dH g (row x),?_,λσ' _=>?_⟩
  ·unfold indexAddr
   simp only[h.fO,h.cL,hr]
   rw[ay (by omega)]
   rfl
  ·unfold loadAt
   simp only[h.cL]
   rfl
 ·refine⟨.ref b (0+i*2),?_,λσ' k=>?_⟩
  ·unfold indexAddr
   simp only[h.fO,h.cL,dj]
   rw[ay (by omega),b8 hi]
  ·have hlen:l.length*2<=cs.length:=by
    have:=au List.length hc
    rw[bl,kF]at this
    omega
   unfold loadAt
   simp only[h.cL,k _ _ _ _ hb]
   have e:(cs.drop (0+i*2)).take 2=row x:=by
    have:=L5 l i x hx
    rw[<- hc,List.drop_take,qa]at this
    rw[show min 2 (l.length*2-i*2)=2 by omega]at this
    rw[cz]
    exact this
   rw[show Ax.isAgg (Kd.jR [(0,4),(1,9)])=true from rfl]
   simp only[b9]
   rw[b8 (by omega),e]
   rfl
end
end
end Go.Proofs.YtmbikbgdbbcbmaaGreatDoor.Lb
end
section
namespace Go.Proofs.YtmbikbgdbbcbmaaGreatDoor
open Go Go.Ax Go.ChangeShapes Go.WideShapes Go.ChangeAt Go.RowKit
section
section
variable {H:Type}{enc:TypeId × Value->H}{W:World}{base:Nat}{v:Value}{d:DataW H}{p:List MemPlace}
theorem N7 (hv:Value.okWide Tryz.prog W .any base 51 v)(h:DataW.Trod enc Tryz.prog W 0 (λ_=>true) true 51 v d p)(hw:(DataW.weights Tryz.prog 51 d).all (· <= reachBytes)=true) :
  ∃(x:Bool) (s:ByteArray),v=.agg #[.bool x,.string s]/\(Ax.bytes s).length<=9223372036854775806:=by
 obtain⟨cs,rfl⟩:∃cs,v=.agg cs:=by
  unfold Value.okWide at hv
  rw[Tryz.underlying51]at hv
  obtain⟨cs,h1,_⟩:=hv
  exact⟨cs,h1⟩
 obtain⟨fuel,h⟩:=h
 obtain⟨y0,y1,n,he,hl,u0,u1⟩:=trod_struct2 Tryz.underlying51 h
 have hl':cs.toList.length=2:=hl.trans (by kernel_rfl)
 obtain⟨l⟩:=cs
 match l,hl' with
 | [c0,c1],_=>
  obtain⟨x,e0,_⟩:=DataW.trod_bool Tryz.underlying4 u0
  obtain⟨s,e1,e1',_⟩:=DataW.trod_string Tryz.underlying9 u1
  have k0:Tryz.prog.cellsOf 4=1:=by kernel_rfl
  have k1:Tryz.prog.cellsOf 9=1:=by kernel_rfl
  have f0:[c0]=[Value.bool x]:=by rw[<- e0];rw[k0];rfl
  have f1:[c1]=[Value.string s]:=by rw[<- e1];rw[k1];rfl
  cases f0;cases f1
  refine⟨x,s,rfl,?_⟩
  have hd:d=.agg [y0.1,y1.1]:=au Prod.fst he
  rw[hd,e1']at hw
  unfold DataW.weights at hw
  rw[Tryz.underlying51]at hw
  simp only[bj,map_nil,DataW.weightsEach,DataW.weights,my,ah,ig,IT]at hw
  rw[z_]
  have:s.size=s.data.toList.length:=rfl
  have e:reachBytes=140737488351232:=by decide
  omega
end
theorem Og (W:World) (x:Bool) (s:ByteArray):VR (wW W) (.agg [.bool x,.str (Ax.bytes s)]) (.agg #[.bool x,.string s]):=
 .agg _ [_,_] (.cons _ _ _ _ (.inl (.bool _)) (.cons _ _ _ _ (.inl (.str _)) .nil))
end
end Go.Proofs.YtmbikbgdbbcbmaaGreatDoor
end
section
namespace Go.Proofs.YtmbikbgdbbcbmaaGreatDoor
open Go Go.Ax Go.AxS
section
structure T7 (E:Env):Prop where
 hs20:E.hspec 20=none
 OO:E.spec 20=none
 fn20:E.fn 20=some (aA Tryz.f20)
 md20:E.mode 20=.fD
 abJ:aI E (cutAt [1,1,0,1,2,2,1,0,2,0] (aA Tryz.f20).code)=true
 hs87:E.hspec 87=none
 sp87:E.spec 87=none
 fn87:E.fn 87=some (aA Tryz.f87)
 md87:E.mode 87=.fD
 fn27:E.fn 27=some (aA Tryz.f27)
 md27:E.mode 27=.fD
 zA:eL E (Ax.two id (opsOf (cutAt [1,1,0,1,2,2,1,0,2,0] (aA Tryz.f27).code)) 8)=.no
 zB:eL E (Ax.two (sw 8) (opsOf (cutAt [1,1,0,1,2,2,1,0,2,0] (aA Tryz.f27).code)) 8)=.no
 pA:cB E .no (Ax.two id (opsOf (cutAt [1,1,0,1,2,2,1,0,2,0] (aA Tryz.f27).code)) 8)=some [⟨3,8,false,true⟩,⟨3,9,false,true⟩,⟨7,8,false,true⟩,⟨7,9,false,true⟩,⟨7,10,false,true⟩]
 pB:cB E .no (Ax.two (sw 8) (opsOf (cutAt [1,1,0,1,2,2,1,0,2,0] (aA Tryz.f27).code)) 8)=some [⟨3,8,false,true⟩,⟨3,9,false,true⟩,⟨7,8,false,true⟩,⟨7,9,false,true⟩,⟨7,10,false,true⟩]
 We:aI E (cutAt [1,1,0,1,2,2,1,0,2,1,1,1,2,2,1,0,2,0] (aA Tryz.f27).code)=true
section
variable {E:Env}{Z:Sg}{K:V->Sg->Prop}
theorem Fl {α:Type}{l m:List α}(hl:l.length=m.length)(h:∀j x y,j<l.length->l[j]?=some x->m[j]?=some y->x=y):l=m:=by
 refine List.ext_getElem hl λi h1 h2=>?_
 exact h i _ _ h1 (BY h1) (BY h2)
theorem IZ (h:bJ E) (q:T7 E) {a b:V}{l m:List bD}(ha:LS aM 9 Z a l)(hb:LS aM 9 Z b m)(hsm:l.length<=1000000000000):aC E 20 [a,b] Z K=K (.bool (decide (l=m))) Z:=by
 refine aC.of ?_
 obtain⟨a',ea,ia⟩:=iP h ha
 obtain⟨b',eb,ib⟩:=iP h hb
 have d6:=q.abJ
 simp only[aA,Tryz.f20,cutAt,ag]at d6
 rw[aH q.hs20 q.OO q.fn20 q.md20 (args':=[a',b']) (by simp only[aU,ea,eb]),aX (by kernel_rfl)]
 have la:=bP h ia
 have lb:=bP h ib
 by_cases hlen:l.length=m.length
 ·have hd:decide ((l.length:Int)=(m.length:Int))=true:=AT (by omega)
  simp only[aA,Tryz.f20,KP,↓reduceIte,reduceEqDiff,reduceLT,reduceAdd,reduceCtorEq,la,lb,hd]
  refine aV (λi F U=>F.get 0=a'/\F.get 1=b'/\F.get 5=.int .i64 (i:Int)/\∀(j:Nat) (x y:bD),j<i->l[j]?=some x->m[j]?=some y->x=y) l.length ?_ ?_ l.length 0 _ _ (by omega) (gE (by simp +decide only[GS,aj]) (λj x y hj=>by omega))
  ·rintro i F U hi ⟨g0,g1,g5,hall⟩ next
   obtain⟨x,hx⟩:∃x,l[i]?=some x:=⟨_,BY hi⟩
   obtain⟨y,hy⟩:∃y,m[i]?=some y:=⟨_,BY (by omega)⟩
   obtain⟨gi,ei⟩:=gI h ia hx
   obtain⟨gj,ej⟩:=gI h ib hy
   have hlt:=eC hi
   have hadd:=bY i (by omega)
   rw[aF]
   by_cases hxy:x=y
   ·have hs:=gC hxy
    simp only[KP,↓reduceIte,reduceEqDiff,reduceLT,reduceCtorEq,g0,g1,g5,la,hlt,ei,ej,hs,hadd,qW h,aK d6,a_]
    refine next _ _ (gE (by simp +decide only[GS,g0,g1,aj]) (λj x' y' hj hx' hy'=>?_))
    rcases cj j i with g | g
    ·exact hall j x' y' g hx' hy'
    ·obtain rfl:j=i:=by omega
     rw[hx]at hx';rw[hy]at hy';cases hx';cases hy';exact hxy
   ·have hs:=fU hxy
    simp only[KP,↓reduceIte,reduceEqDiff,reduceLT,reduceCtorEq,g0,g1,g5,la,hlt,ei,ej,hs,bW,aQ,qW h,aK d6,a_]
    rw[AI (λe=>by subst e;rw[hx]at hy;exact hxy (cv hy))]
    exact rfl
  ·rintro F U ⟨g0,g1,g5,hall⟩
   have hlt:=eG (bg l.length)
   rw[aF]
   simp only[KP,↓reduceIte,reduceEqDiff,reduceLT,reduceCtorEq,g0,g5,hlt,la,bW,aQ]
   rw[AT (Fl hlen hall)]
   exact rfl
 ·have hd:decide ((l.length:Int)=(m.length:Int))=false:=AI (by omega)
  simp only[aA,Tryz.f20,KP,↓reduceIte,reduceEqDiff,reduceLT,reduceAdd,reduceCtorEq,la,lb,hd,bW,aQ]
  rw[AI (λe=>hlen (by rw[e]))]
  exact rfl
def iG (x y:Step):Bool:=decide (x.out=y.out)&&(decide (x.op=y.op)&&(decide (x.n=y.n)&&(decide (x.args=y.args)&&decide (x.lits=y.lits))))
theorem Ki {x y:Step}:iG x y=true ↔ x=y:=by
 simp only[iG,ah,IT]
 constructor
 ·rintro⟨h1,h2,h3,h4,h5⟩
  cases x;cases y
  dsimp only at h1 h2 h3 h4 h5
  subst h1 h2 h3 h4 h5
  rfl
 ·rintro rfl
  exact⟨rfl,rfl,rfl,rfl,rfl⟩
theorem lR {α:Type}{L:Lay α}{v:V}{l:List α}(h:IS L v l):v.aW=true:=by rcases h with⟨rfl,-⟩ | ⟨g,rs,full,rfl,-⟩ <;> rfl
theorem abV (h:bJ E) (q:T7 E) {a b:V}{x y:Step}(ha:KG a x)(hb:KG b y)(hs1:x.args.length<=1000000000000)(hs2:x.lits.length<=1000000000000):aC E 87 [a,b] Z K=K (.bool (iG x y)) Z:=by
 refine aC.of ?_
 have ea:=ha.snap (E:=E) Z
 have eb:=hb.snap (E:=E) Z
 rw[aH q.hs87 q.sp87 q.fn87 q.md87 (args':=[a,b]) (by simp only[aU,ea,eb]),aX (by kernel_rfl)]
 obtain⟨a1,a2,rfl,i1,i2⟩:=ha
 obtain⟨b1,b2,rfl,j1,j2⟩:=hb
 have o1:=lR i1
 have o2:=lR i2
 have o3:=lR j1
 have o4:=lR j2
 have k1:=λ(U:Sg)=>cH λK=>IZ (Z:=U) (K:=K) h q (i1.ls U 9) (j1.ls U 9) hs1
 have k2:=λ(U:Sg)=>cH λK=>IZ (Z:=U) (K:=K) h q (i2.ls U 9) (j2.ls U 9) hs2
 by_cases h1:x.out=y.out
 ·have s1:=gC h1
  by_cases h2:x.op=y.op
  ·have s2:=AT h2
   by_cases h3:x.n=y.n
   ·have s3:=AT h3
    by_cases h4:x.args=y.args
    ·have s4:=AT h4
     by_cases h5:x.lits=y.lits
     ·have s5:=AT h5
      simp only[aA,Tryz.f87,KP,Ax.loadAt,↓reduceIte,reduceEqDiff,reduceLT,reduceAdd,reduceCtorEq,h.oU,h.cM,h.aY,h.cN,k1,k2,o1,o2,o3,o4,s1,s2,s3,s4,s5,bW,aQ]
      rw[show iG x y=true by simp[iG,h1,h2,h3,h4,h5]]
      exact rfl
     ·have s5:=AI h5
      simp only[aA,Tryz.f87,KP,Ax.loadAt,↓reduceIte,reduceEqDiff,reduceLT,reduceAdd,reduceCtorEq,h.oU,h.cM,h.aY,h.cN,k1,k2,o1,o2,o3,o4,s1,s2,s3,s4,s5,bW,aQ]
      rw[show iG x y=false by simp[iG,h5]]
      exact rfl
    ·have s4:=AI h4
     simp only[aA,Tryz.f87,KP,Ax.loadAt,↓reduceIte,reduceEqDiff,reduceLT,reduceAdd,reduceCtorEq,h.oU,h.cM,h.aY,h.cN,k1,o1,o2,o3,o4,s1,s2,s3,s4,bW,aQ]
     rw[show iG x y=false by simp[iG,h4]]
     exact rfl
   ·have s3:=AI h3
    simp only[aA,Tryz.f87,KP,Ax.loadAt,↓reduceIte,reduceEqDiff,reduceLT,reduceAdd,reduceCtorEq,h.oU,h.cM,h.cN,o1,o2,o3,o4,s1,s2,s3,bW,aQ]
    rw[show iG x y=false by simp[iG,h3]]
    exact rfl
  ·have s2:=AI h2
   simp only[aA,Tryz.f87,KP,Ax.loadAt,↓reduceIte,reduceEqDiff,reduceLT,reduceAdd,reduceCtorEq,h.oU,h.cM,h.cN,o1,o2,o3,o4,s1,s2,bW,aQ]
   rw[show iG x y=false by simp[iG,h2]]
   exact rfl
 ·have s1:=fU h1
  simp only[aA,Tryz.f87,KP,Ax.loadAt,↓reduceIte,reduceEqDiff,reduceLT,reduceAdd,reduceCtorEq,h.cM,h.cN,o1,o2,o3,o4,s1,bW,aQ]
  rw[show iG x y=false by simp[iG,h1]]
  exact rfl
end
end
section
section
variable {E:Env}{Z:Sg}{K:V->Sg->Prop}
theorem W7 (o0 o1 o2 o3 o4 o5 o6 o7 o8 o9 o10 o11:Oper):Ax.two id #[o0,o1,o2,o3,o4,o5,o6,o7,o8,o9,o10,o11] 8 = #[tw id 8 0 o0,tw id 8 1 o1,tw id 8 2 o2,tw id 8 3 o3,tw id 8 4 o4,tw id 8 5 o5,tw id 8 6 o6,tw id 8 7 o7,tw id 8 8 o8,tw id 8 9 o9,tw id 8 10 o10,tw id 8 11 o11]:=rfl
theorem UE (o0 o1 o2 o3 o4 o5 o6 o7 o8 o9 o10 o11:Oper):Ax.two (sw 8) #[o0,o1,o2,o3,o4,o5,o6,o7,o8,o9,o10,o11] 8 = #[tw (sw 8) 8 0 o0,tw (sw 8) 8 1 o1,tw (sw 8) 8 2 o2,tw (sw 8) 8 3 o3,tw (sw 8) 8 4 o4,tw (sw 8) 8 5 o5,tw (sw 8) 8 6 o6,tw (sw 8) 8 7 o7,tw (sw 8) 8 8 o9,tw (sw 8) 8 9 o8,tw (sw 8) 8 10 o10,tw (sw 8) 8 11 o11]:=rfl
def abY (x:aD) (r:List V):Prop:=∃a b c d,r=[.str x.name,a,b,c,d]/\IS aM a x.ins/\IS aM b x.outs/\IS aM c x.after/\IS eK d x.steps
structure T9 (F:FT) (x y:aD) (F':FT) (U:Sg):Prop where
 g0:F'.get 0=F.get 0
 g1:F'.get 1=F.get 1
 g5:F'.get 5=F.get 5
 bx:∃p r,F'.get 6=.ref p 0/\abY x r/\U[p]?=some (.cells 46 r true)
 by':∃p r,F'.get 7=.ref p 0/\abY y r/\U[p]?=some (.cells 46 r true)
theorem abc (h:bJ E) (q:T7 E) {n:Nat}{a b:V}{l m:List aD} (ia:IS bS a l) (ib:IS bS b m) {i:Nat}{x y:aD}(hx:l[i]?=some x)(hy:m[i]?=some y) (F:FT) (g0:F.get 0=a) (g1:F.get 1=b) (g5:F.get 5=.int .i64 (i:Int)) :
  (∃F' U,bG E (ev E n) (Ax.two id (opsOf (cutAt [1,1,0,1,2,2,1,0,2,0] (aA Tryz.f27).code)) 8) ⟨85,F⟩ Z=some (⟨85,F'⟩,U)/\T9 F x y F' U)/\(∃F' U,bG E (ev E n) (Ax.two (sw 8) (opsOf (cutAt [1,1,0,1,2,2,1,0,2,0] (aA Tryz.f27).code)) 8) ⟨85,F⟩ Z=some (⟨85,F'⟩,U)/\T9 F x y F' U):=by
 obtain⟨gi,a1,a2,a3,a4,ei,i1,i2,i3,i4⟩:=dK h ia hx
 obtain⟨gj,b1,b2,b3,b4,ej,j1,j2,j3,j4⟩:=dK h ib hy
 have lr:∀(U:Sg) g (r0 r1 r2 r3 r4:V),loadAt E U 46 (.dH g [r0,r1,r2,r3,r4])=some (.agg [r0,r1,r2,r3,r4]):=λU g r0 r1 r2 r3 r4=>LF h
 have ok1:=lR i1
 have ok2:=lR i2
 have ok3:=lR i3
 have ok4:=lR i4
 have pk1:=lR j1
 have pk2:=lR j2
 have pk3:=lR j3
 have pk4:=lR j4
 have agg:∀{x:aD}{c1 c2 c3 c4:V},IS aM c1 x.ins->IS aM c2 x.outs->IS aM c3 x.after->IS eK c4 x.steps->oO 12 (.agg [.str x.name,c1,c2,c3,c4]) (.agg [.str x.name,c1,c2,c3,c4])=true:=λ{x c1 c2 c3 c4} k1 k2 k3 k4=>by
  show nD (oO 11) [.str x.name,c1,c2,c3,c4] [.str x.name,c1,c2,c3,c4]=true
  simp only[nD,wU 10,bV 9 k1,bV 9 k2,bV 9 k3,lN 8 k4,oz]
 have vx:=agg i1 i2 i3 i4
 have vy:=agg j1 j2 j3 j4
 have ne:Z.length≠(Z++[O.cells 46 [.str [],.aB,.aB,.aB,.aB] true]).length:=by rw[an];simp
 have l0:(Z++[O.cells 46 [.str [],.aB,.aB,.aB,.aB] true]++[O.cells 46 [.str [],.aB,.aB,.aB,.aB] true])[Z.length]?=some (O.cells 46 [.str [],.aB,.aB,.aB,.aB] true):=aP aR
 have l1:(Z++[O.cells 46 [.str [],.aB,.aB,.aB,.aB] true]++[O.cells 46 [.str [],.aB,.aB,.aB,.aB] true])[(Z++[O.cells 46 [.str [],.aB,.aB,.aB,.aB] true]).length]?=some (O.cells 46 [.str [],.aB,.aB,.aB,.aB] true):=aR
 have m0:∀X,((Z++[O.cells 46 [.str [],.aB,.aB,.aB,.aB] true]++[O.cells 46 [.str [],.aB,.aB,.aB,.aB] true]).set Z.length X)[(Z++[O.cells 46 [.str [],.aB,.aB,.aB,.aB] true]).length]?=some (O.cells 46 [.str [],.aB,.aB,.aB,.aB] true):=λX=>by rw[OF ne];exact l1
 have m1:∀X,((Z++[O.cells 46 [.str [],.aB,.aB,.aB,.aB] true]++[O.cells 46 [.str [],.aB,.aB,.aB,.aB] true]).set (Z++[O.cells 46 [.str [],.aB,.aB,.aB,.aB] true]).length X)[Z.length]?=some (O.cells 46 [.str [],.aB,.aB,.aB,.aB] true):=λX=>by rw[OF ne.symm];exact l0
 have s0:∀X,((Z++[O.cells 46 [.str [],.aB,.aB,.aB,.aB] true]++[O.cells 46 [.str [],.aB,.aB,.aB,.aB] true]).set Z.length X)[Z.length]?=some X:=λX=>bp (AS.1 l0).1
 have s1:∀X,((Z++[O.cells 46 [.str [],.aB,.aB,.aB,.aB] true]++[O.cells 46 [.str [],.aB,.aB,.aB,.aB] true]).set (Z++[O.cells 46 [.str [],.aB,.aB,.aB,.aB] true]).length X)[(Z++[O.cells 46 [.str [],.aB,.aB,.aB,.aB] true]).length]?=some X:=λX=>bp (AS.1 l1).1
 have t0:∀X Y,(((Z++[O.cells 46 [.str [],.aB,.aB,.aB,.aB] true]++[O.cells 46 [.str [],.aB,.aB,.aB,.aB] true]).set Z.length X).set (Z++[O.cells 46 [.str [],.aB,.aB,.aB,.aB] true]).length Y)[(Z++[O.cells 46 [.str [],.aB,.aB,.aB,.aB] true]).length]?=some Y:=λX Y=>bp (AS.1 (m0 X)).1
 have t1:∀X Y,(((Z++[O.cells 46 [.str [],.aB,.aB,.aB,.aB] true]++[O.cells 46 [.str [],.aB,.aB,.aB,.aB] true]).set (Z++[O.cells 46 [.str [],.aB,.aB,.aB,.aB] true]).length X).set Z.length Y)[Z.length]?=some Y:=λX Y=>bp (AS.1 (m1 X)).1
 constructor
 ·unfold bG
  rw[q.zA,q.pA]
  simp only[aA,Tryz.f27,KP,Ax.storeAt,↓reduceIte,reduceEqDiff,reduceLT,reduceAdd,reduceCtorEq,h.bC,opsOf,cutAt,W7,tw,eJ,bB,bQ,iX,Ax.comp,Ax.last,dM,Ax.again,g0,g1,g5,ei,ej,lr,ok1,ok2,ok3,ok4,pk1,pk2,pk3,pk4,vx,vy,l0,m0]
  refine⟨_,_,rfl,(by simp +decide only[GS]),(by simp +decide only[GS]),(by simp +decide only[GS]),⟨Z.length,_,(by simp +decide only[GS]),⟨a1,a2,a3,a4,rfl,i1,i2,i3,i4⟩,?_⟩,⟨(Z++[O.cells 46 [.str [],.aB,.aB,.aB,.aB] true]).length,_,(by simp +decide only[GS]),⟨b1,b2,b3,b4,rfl,j1,j2,j3,j4⟩,t0 _ _⟩⟩
  rw[OF ne.symm]
  exact s0 _
 ·unfold bG
  rw[q.zB,q.pB]
  simp only[aA,Tryz.f27,KP,Ax.storeAt,↓reduceIte,reduceEqDiff,reduceLT,reduceAdd,reduceCtorEq,h.bC,opsOf,cutAt,UE,tw,eJ,bB,bQ,iX,Ax.comp,Ax.last,dM,Ax.again,g0,g1,g5,ei,ej,lr,ok1,ok2,ok3,ok4,pk1,pk2,pk3,pk4,vx,vy,l1,m1]
  refine⟨_,_,rfl,(by simp +decide only[GS]),(by simp +decide only[GS]),(by simp +decide only[GS]),⟨(Z++[O.cells 46 [.str [],.aB,.aB,.aB,.aB] true]).length,_,(by simp +decide only[GS]),⟨a1,a2,a3,a4,rfl,i1,i2,i3,i4⟩,?_⟩,⟨Z.length,_,(by simp +decide only[GS]),⟨b1,b2,b3,b4,rfl,j1,j2,j3,j4⟩,t1 _ _⟩⟩
  rw[OF ne]
  exact s1 _
end
end
section
section
variable {E:Env}{Z:Sg}{K:V->Sg->Prop}
def zU (l m:List Step):Bool:=decide (l.length=m.length)&&(l.zip m).all λp=>iG p.1 p.2
def jQ (x y:aD):Bool:=decide (x.name=y.name)&&(decide (x.ins=y.ins)&&(decide (x.outs=y.outs)&&(decide (x.after=y.after)&&zU x.steps y.steps)))
def kN (l m:List aD):Bool:=decide (l.length=m.length)&&(l.zip m).all λp=>jQ p.1 p.2
theorem FH {α:Type}{p:α->α->Bool}{l m:List α}(h:∀(j:Nat) (x y:α),l[j]?=some x->m[j]?=some y->p x y=true):((l.zip m).all λq=>p q.1 q.2)=true:=by
 rw[dw]
 intro q hq
 obtain⟨i,hi,e⟩:=fg hq
 have e':(l.zip m)[i]?=some q:=by rw[BY hi,e]
 rw[List.getElem?_zip_eq_some]at e'
 exact h i _ _ e'.1 e'.2
theorem FG {α:Type}{p:α->α->Bool}{l m:List α}{j:Nat}{x y:α}(hx:l[j]?=some x)(hy:m[j]?=some y)(hp:p x y=false):((l.zip m).all λq=>p q.1 q.2)=false:=by
 rw[List.all_eq_false]
 refine⟨(x,y),af (i:=j) (List.getElem?_zip_eq_some.2 ⟨hx,hy⟩),by rw[hp];simp⟩
theorem KJ {α:Type}{p:α->α->Bool}(hp:∀x y,p x y=true ↔ x=y) {l m:List α}:(decide (l.length=m.length)&&(l.zip m).all λq=>p q.1 q.2)=true ↔ l=m:=by
 rw[ah,IT]
 constructor
 ·rintro⟨h1,h2⟩
  refine Fl h1 λj x y _ hx hy=>(hp x y).1 ?_
  cases hq:p x y with
  |true=>rfl
  |false=>rw[FG (p:=p) hx hy hq]at h2;cases h2
 ·rintro rfl
  exact⟨rfl,FH λj x y hx hy=>(hp x y).2 (by rw[hx]at hy;exact cv hy)⟩
theorem Kj {x y:aD}:jQ x y=true ↔ x=y:=by
 have hs:∀l m,zU l m=true ↔ l=m:=λl m=>KJ (p:=iG) λx y=>Ki
 simp only[jQ,ah,IT,hs]
 constructor
 ·rintro⟨h1,h2,h3,h4,h5⟩
  cases x;cases y
  dsimp only at h1 h2 h3 h4 h5
  subst h1 h2 h3 h4 h5
  rfl
 ·rintro rfl
  exact⟨rfl,rfl,rfl,rfl,rfl⟩
theorem IG {l m:List aD}:kN l m=true ↔ l=m:=KJ (p:=jQ) λx y=>Kj
def RA (a b:V) (i:Nat) (x y:aD) (z:Ax.X) (fr:Fr):Prop:=∃F,fr=⟨85,F⟩/\((z=.normal/\F.get 0=a/\F.get 1=b/\F.get 5=.int .i64 (i:Int)/\jQ x y=true)\/(z=.ret/\F.get 4=.bool false/\jQ x y=false))
theorem Tm (h:bJ E) (q:T7 E) {a b:V}{i:Nat}{x y:aD}(hx:Small x) {F:FT} (g0:F.get 0=a) (g1:F.get 1=b) (g5:F.get 5=.int .i64 (i:Int)) {F':FT}(hb:T9 F x y F' Z):Ax.R E (cutAt [1,1,0,1,2,2,1,0,2,1] (aA Tryz.f27).code) [] ⟨85,F'⟩ Z λz fr _=>RA a b i x y z fr:=by
 obtain⟨p0,p1,p5,⟨p,rp,g6,⟨a1,a2,a3,a4,rfl,i1,i2,i3,i4⟩,hp⟩,⟨r,rr,g7,⟨b1,b2,b3,b4,rfl,j1,j2,j3,j4⟩,hr⟩⟩:=hb
 rw[g0]at p0
 rw[g1]at p1
 rw[g5]at p5
 clear g0 g1 g5
 have g0:=p0
 have g1:=p1
 have g5:=p5
 have q1:=hx.ins
 have q2:=hx.outs
 have q3:=hx.after
 have q4:=hx.steps
 have k1:=λ(U:Sg)=>cH λK=>IZ (Z:=U) (K:=K) h q (i1.ls U 9) (j1.ls U 9) (by omega)
 have k2:=λ(U:Sg)=>cH λK=>IZ (Z:=U) (K:=K) h q (i2.ls U 9) (j2.ls U 9) (by omega)
 have k3:=λ(U:Sg)=>cH λK=>IZ (Z:=U) (K:=K) h q (i3.ls U 9) (j3.ls U 9) (by omega)
 have d12:=q.We
 simp only[aA,Tryz.f27,cutAt,ag]at d12
 have la:=jJ h i4
 have lb:=jJ h j4
 by_cases h1:x.name=y.name
 ·have s1:=gC h1
  by_cases h2:x.ins=y.ins
  ·have s2:=AT h2
   by_cases h3:x.outs=y.outs
   ·have s3:=AT h3
    by_cases h4:x.after=y.after
    ·have s4:=AT h4
     by_cases h5:x.steps.length=y.steps.length
     ·have s5:decide ((x.steps.length:Int)=(y.steps.length:Int))=true:=AT (by omega)
      simp only[aA,Tryz.f27,KP,Ax.loadAt,↓reduceIte,reduceEqDiff,reduceLT,reduceCtorEq,h.cM,h.aY,h.fN,h.bC,k1,k2,k3,g6,g7,hp,hr,la,lb,s1,s2,s3,s4,s5,cutAt]
      refine aV (λk F U=>F.get 0=a/\F.get 1=b/\F.get 5=.int .i64 (i:Int)/\F.get 6=.ref p 0/\F.get 7=.ref r 0/\F.get 8=.int .i64 (k:Int)/\U[p]?=some (.cells 46 [.str x.name,a1,a2,a3,a4] true)/\U[r]?=some (.cells 46 [.str y.name,b1,b2,b3,b4] true)/\∀(j:Nat) (s t:Step),j<k->x.steps[j]?=some s->y.steps[j]?=some t->iG s t=true) x.steps.length ?_ ?_ x.steps.length 0 _ _ (by omega) (Bt (by simp +decide only[GS,g0,g1,g5,g6,g7,aj]) ⟨hp,hr,λj s t hj=>by omega⟩)
      ·clear g0 g1 g5 g6 g7 hp hr
       rintro k F U hk ⟨g0,g1,g5,g6,g7,g8,hp,hr,hall⟩ next
       obtain⟨s,hs⟩:∃s,x.steps[k]?=some s:=⟨_,BY hk⟩
       obtain⟨t,ht⟩:∃t,y.steps[k]?=some t:=⟨_,BY (by omega)⟩
       obtain⟨gs,sa,sb,es,u1,u2⟩:=qM h i4 hs
       obtain⟨gt,ta,tb,et,w1,w2⟩:=qM h j4 ht
       have hlt:=eC hk
       have hadd:=bY k (by omega)
       have c1:=hx.args s (af hs)
       have c2:=hx.lits s (af hs)
       have ke:=λ(U:Sg)=>cH λK=>abV (Z:=U) (K:=K) h q ⟨sa,sb,rfl,u1,u2⟩ ⟨ta,tb,rfl,w1,w2⟩ (by omega) (by omega)
       rw[aF]
       cases heq:iG s t with
       |true=>
        simp only[heq]at ke
        simp only[KP,Ax.loadAt,↓reduceIte,reduceEqDiff,reduceLT,reduceAdd,reduceCtorEq,h.fN,h.bC,h.cN,g6,g7,g8,hp,hr,la,hlt,es,et,ke,hadd,aK d12,a_]
        refine next _ _ (Bt (by simp +decide only[GS,g0,g1,g5,g6,g7,aj]) ⟨hp,hr,λj s' t' hj hs' ht'=>?_⟩)
        rcases cj j k with g | g
        ·exact hall j s' t' g hs' ht'
        ·obtain rfl:j=k:=by omega
         rw[hs]at hs';rw[ht]at ht';cases hs';cases ht';exact heq
       |false=>
        simp only[heq]at ke
        simp only[KP,Ax.loadAt,↓reduceIte,reduceEqDiff,reduceLT,reduceAdd,reduceCtorEq,h.fN,h.bC,h.cN,g6,g7,g8,hp,hr,la,hlt,es,et,ke,aK d12,a_]
        exact⟨_,rfl,.inr ⟨rfl,(by simp +decide only[GS]),by simp[jQ,zU,FG (p:=iG) hs ht heq]⟩⟩
      ·clear g0 g1 g5 g6 g7 hp hr
       rintro F U ⟨g0,g1,g5,g6,g7,g8,hp,hr,hall⟩
       have hlt:=eG (bg x.steps.length)
       rw[aF]
       simp only[KP,Ax.loadAt,↓reduceIte,reduceEqDiff,reduceLT,reduceCtorEq,h.fN,h.bC,g6,g8,hp,la,hlt]
       exact⟨_,rfl,.inl ⟨rfl,(gE (by simp +decide only[GS,g0,g1,g5,aj]) (by simp[jQ,zU,h1,h2,h3,h4,h5,FH (p:=iG) λj s t hs ht=>hall j s t (AS.1 hs).1 hs ht]))⟩⟩
     ·have s5:decide ((x.steps.length:Int)=(y.steps.length:Int))=false:=AI (by omega)
      simp only[aA,Tryz.f27,KP,Ax.loadAt,↓reduceIte,reduceEqDiff,reduceLT,reduceCtorEq,h.cM,h.aY,h.fN,h.bC,k1,k2,k3,g6,g7,hp,hr,la,lb,s1,s2,s3,s4,s5,cutAt]
      exact⟨_,rfl,.inr ⟨rfl,(by simp +decide only[GS]),by simp[jQ,zU,h5]⟩⟩
    ·have s4:=AI h4
     simp only[aA,Tryz.f27,KP,Ax.loadAt,↓reduceIte,reduceEqDiff,reduceLT,reduceCtorEq,h.cM,h.aY,h.bC,k1,k2,k3,g6,g7,hp,hr,s1,s2,s3,s4,cutAt]
     exact⟨_,rfl,.inr ⟨rfl,(by simp +decide only[GS]),by simp[jQ,h4]⟩⟩
   ·have s3:=AI h3
    simp only[aA,Tryz.f27,KP,Ax.loadAt,↓reduceIte,reduceEqDiff,reduceLT,reduceCtorEq,h.cM,h.aY,h.bC,k1,k2,g6,g7,hp,hr,s1,s2,s3,cutAt]
    exact⟨_,rfl,.inr ⟨rfl,(by simp +decide only[GS]),by simp[jQ,h3]⟩⟩
  ·have s2:=AI h2
   simp only[aA,Tryz.f27,KP,Ax.loadAt,↓reduceIte,reduceEqDiff,reduceLT,reduceCtorEq,h.cM,h.aY,h.bC,k1,g6,g7,hp,hr,s1,s2,cutAt]
   exact⟨_,rfl,.inr ⟨rfl,(by simp +decide only[GS]),by simp[jQ,h2]⟩⟩
 ·have s1:=fU h1
  simp only[aA,Tryz.f27,KP,Ax.loadAt,↓reduceIte,reduceEqDiff,reduceLT,reduceCtorEq,h.cM,h.bC,g6,g7,hp,hr,s1,cutAt]
  exact⟨_,rfl,.inr ⟨rfl,(by simp +decide only[GS]),by simp[jQ,h1]⟩⟩
end
end
end Go.Proofs.YtmbikbgdbbcbmaaGreatDoor
end
