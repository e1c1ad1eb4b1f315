/- Part 19 of the proof. -/
import Derived.Test.YtmbikbgdbbcbmaaGreatDoorY
import Derived.Test.YtmbikbgdbbcbmaaGreatDoorZ18
import Derived.Test.YtmbikbgdbbcbmaaGreatDoorZ17
import Derived.Test.YtmbikbgdbbcbmaaGreatDoorZ14
import Derived.Test.YtmbikbgdbbcbmaaGreatDoorZ15
import Derived.Test.YtmbikbgdbbcbmaaGreatDoorZ16
import Derived.Test.YtmbikbgdbbcbmaaGreatDoorZ3
import Derived.KernelRfl
set_option maxHeartbeats 8000000
set_option linter.unusedVariables false
set_option maxRecDepth 10000
open Nat (reduceLT reduceEqDiff reduceAdd reduceLeDiff reduceMul)
open Int (reduceNeg)
section
namespace Go.Proofs.YtmbikbgdbbcbmaaGreatDoor
open Go Go.Ax Go.AxS
section
section
variable {E:Env}{Z:Sg}{K:V->Sg->Prop}
theorem TE (h:bE E)(h':oF E)(hl:Lb.bY E) (q:yF E) (tr:Ak E) {g:V}{rs:List aD}(hg:BL E rs g)(hf:Fits rs) {b:Nat}{lv:V}{ls:List aC} (iv:IS eW lv ls)(hls:ls.length<=1000000) {Y:Sg}(hb:Y[b]?=some (.map []))
  (F:FT) (g0:F.get 0=g) (g1:F.get 1=lv) (g5:F.get 5=.mp b) (g6:F.get 6=.aF) {st:List kH}{Q:Ax.X->Fr->Sg->Prop}
  (hk:∀F' τ' wn D now,F'.get 0=g->F'.get 5=.mp b->F'.get 6=wn->τ'[b]?=some (.map (D.map dV))->(D.map Prod.fst).Nodup->bB eW 51 τ' wn now->Sd rs ls (D.map Prod.fst) now->(∀x,x∈D.map Prod.fst->kZ D x=some 0)->M E st .normal ⟨85,F'⟩ τ' Q):Ax.R E (cutAt [1,1,1,0] (aA Tryz.f101).code) st ⟨85,F⟩ Y Q:=by
 have la:=lC h iv;simp only[aA,Tryz.f101,KP,↓reduceIte,reduceLT,cutAt,g1,la];refine aV (λi F2 τ2=>F2.get 0=g/\F2.get 5=.mp b/\F2.get 19=lv/\F2.get 20=.int .i64 (ls.length:Int)/\F2.get 21=.int .i64 (i:Int)/\∃D now wn,F2.get 6=wn/\τ2[b]?=some (.map (D.map dV))/\(D.map Prod.fst).Nodup/\bB eW 51 τ2 wn now/\Sd rs (ls.take i) (D.map Prod.fst) now/\∀x,x∈D.map Prod.fst->kZ D x=some 0) ls.length ?_ ?_ ls.length 0 _ _ (by omega) (iT (by simp +decide only[GS,g0,g5,aj]) ⟨[],[],.aF,(by simp +decide only[GS,g6]),hb,List.nodup_nil,.inl ⟨rfl,rfl⟩,⟨(λx=>by simp),(λx=>by simp),OF _⟩,λx hx=>by cases hx⟩)
 ·rintro j F2 τ2 hj ⟨g0,g5,g19,g20,g21,D,now,wn,g6,hb,hnd,on,sd,h0⟩ next
  obtain⟨x,hx⟩:∃x,ls[j]?=some x:=⟨_,AT hj⟩;obtain⟨gi,e1⟩:=oK h iv hx;have hlt:=dP hj;have hadd:=bW j (by omega);have hAl:(D.map Prod.fst).length<=2000:=fh (jG hnd λy hy=>((sd.mem y).1 hy).2) (qH hf);have hnl:=sd.len;have kk:=λ(Y:Sg)=>dD λK=>GU (Z:=Y) (K:=K) h h' hl q hg hf x;have hz2:(τ2++[O.cells 51 [.bool x.1,.str x.2] true])[τ2.length]?=some (O.cells 51 [.bool x.1,.str x.2] true):=aL;have hb2:(τ2++[O.cells 51 [.bool x.1,.str x.2] true])[b]?=some (.map (D.map dV)):=aJ hb;have on2:=on.app [O.cells 51 [.bool x.1,.str x.2] true];have lk:=zP (Z:=τ2++[O.cells 51 [.bool x.1,.str x.2] true]) (v:=.mp b) h hl tr (show entriesOf _ (.mp b)=some (D.map dV) by unfold entriesOf;simp only[hb2]) x;rw[aG];by_cases hxA:x∈D.map Prod.fst
  ·have hxs:(kZ D x).isSome=true:=by rw[h0 x hxA];rfl
   rw[hxs]at lk;simp only[KP,Ax.loadAt,Ax.storeAt,↓reduceIte,reduceEqDiff,reduceLT,reduceAdd,h.cE,g5,g19,g20,g21,hlt,hadd,e1,lk,aL,bR];exact next _ _ (iT (by simp +decide only[GS,g0,g5,g19,g20,aj]) ⟨D,now,wn,(by simp +decide only[GS,g6]),hb2,hnd,on2,sd.old hx λ_=>hxA,h0⟩)
  ·have hxs:(kZ D x).isSome=false:=by rw[rW.2 hxA];rfl
   rw[hxs]at lk;by_cases hxa:x∈eE rs
   ·have hkd:=GB hxa;generalize kindOf rs x=kd at kk hkd;have hkd:decide (kd=0)=false:=AS hkd;have hup:=Pq hl tr hb2 hxA 0;have hb3:((τ2++[O.cells 51 [.bool x.1,.str x.2] true]).set b (.map ((D++[(x,0)]).map dV)))[b]?=some (.map ((D++[(x,0)]).map dV)):=bt (AI.1 hb2).1;have on3:=J6 (y:=.map ((D++[(x,0)]).map dV)) on2 hb2;have hy2b:τ2.length≠b:=λe=>by rw[e,hb2]at hz2;cases hz2
    have hz4:((τ2++[O.cells 51 [.bool x.1,.str x.2] true]).set b (.map ((D++[(x,0)]).map dV)))[τ2.length]?=some (O.cells 51 [.bool x.1,.str x.2] true):=by rw[No (jy hy2b)];exact hz2
    generalize hτ3:(τ2++[O.cells 51 [.bool x.1,.str x.2] true]).set b (.map ((D++[(x,0)]).map dV))=τ3 at *;obtain⟨w',τ5,ha5,ow5,Oc,-⟩:=G0 (x:=x) (ex:=true) hl on3 (by omega);rw[show (((0:Nat):Int))=0 from rfl]at hup;simp only[KP,Ax.loadAt,Ax.storeAt,↓reduceIte,reduceEqDiff,reduceLT,reduceLeDiff,reduceAdd,reduceMul,reduceCtorEq,h.iI,h.cE,g0,g5,g6,g19,g20,g21,hlt,hadd,e1,lk,kk,hkd,hup,hz4,ha5,aL,bR,mM];refine next _ _ (iT (by simp +decide only[GS,g0,g5,g19,g20,aj]) ⟨D++[(x,0)],now++[x],w',(by simp +decide only[GS]),PF (aJ hb3) (on3.app _) Oc,?_,ow5,?_,λy hy=>?_⟩)
    ·rw[gp,k8];exact⟨hnd,List.pairwise_singleton ..,λa ha c hc e=>hxA (by have e2:c=x:=cn.1 hc;rw[<- e2,<- e];exact ha)⟩
    ·rw[gp];exact sd.fresh hx hxa
    ·rw[IQ hxA];by_cases hyx:y=x
     ·rw[az hyx]
     ·rw[an hyx];rw[gp,cq]at hy;exact h0 y (hy.resolve_right λhm=>hyx (cn.1 hm))
   ·have hkd:=Dl hxa;rw[hkd]at kk;simp only[KP,Ax.loadAt,Ax.storeAt,↓reduceIte,reduceEqDiff,reduceLT,reduceAdd,reduceCtorEq,h.cE,g0,g5,g19,g20,g21,hlt,hadd,e1,lk,kk,aL,bR];exact next _ _ (iT (by simp +decide only[GS,g0,g5,g19,g20,aj]) ⟨D,now,wn,(by simp +decide only[GS,g6]),hb2,hnd,on2,sd.old hx λe=>absurd e hxa,h0⟩)
 ·rintro F2 τ2 ⟨g0,g5,g19,g20,g21,D,now,wn,g6,hb,hnd,on,sd,h0⟩;have hlt:=dZ (bl ls.length);rw[ak (OF _)]at sd;rw[aG];simp only[KP,↓reduceIte,reduceLT,g20,g21,hlt];exact hk _ _ wn D now (by simp +decide only[GS,g0]) (by simp +decide only[GS,g5]) (by simp +decide only[GS,g6]) hb hnd on sd h0
theorem Di.le {nx:aC->List aC}{s0:aC->Prop}{k M:Nat}{A now:List aC}{f:aC->Option Nat}(h:Di nx s0 k A now f)(hk:k<=M) (x:aC) (d:Nat)(hd:f x=some d):d<=M:=by
 by_cases hA:x∈A
 ·obtain⟨e,h1,h2⟩:=h.is x hA;rw[hd]at h1;cases h1;have hr:=(h.rd.all x).1 hA;exact pn λhlt=>h2.2 k (by omega) hr
 ·rw[h.no x hA]at hd;cases hd
theorem NF (h:bE E)(h':oF E)(hl:Lb.bY E) (q:yF E) (tr:Ak E) {b:Nat}{g:V}{rs:List aD}(hg:BL E rs g)(hf:Fits rs) {s0:aC->Prop}{D:List (aC × Nat)}{now:List aC}{wn:V}{Y:Sg}(hb:Y[b]?=some (.map (D.map dV)))(hnd:(D.map Prod.fst).Nodup) (on:bB eW 51 Y wn now) (di:Di (gC rs) s0 0 (D.map Prod.fst) now (kZ D))(hsub:∀x,x∈D.map Prod.fst->x∈eE rs)(hnlen:now.length<=(D.map Prod.fst).length)
  (F:FT) (g0:F.get 0=g) (g5:F.get 5=.mp b) (g6:F.get 6=wn) {st:List kH}{Q:Ax.X->Fr->Sg->Prop}
  (hk:∀F' τ' D',F'.get 5=.mp b->τ'[b]?=some (.map (D'.map dV))->(∀x d,kZ D' x=some d ↔ FP (gC rs) s0 d x)->(∀x d,kZ D' x=some d->d<=2001)->M E st .normal ⟨85,F'⟩ τ' Q):Ax.R E (cutAt [1,1,1,1,0] (aA Tryz.f101).code) st ⟨85,F⟩ Y Q:=by
 have hlen:=qH hf;have one:=λ{D0 D k more now P P' wn wm i y Y} hb on om hne hy ri fi hy0 hkb hP F g0 g5 g11 g49 g51 st Q hk=>WH (b:=b) (k:=k) (D0:=D0) (D:=D) (more:=more) (now:=now) (P:=P) (P':=P') (wn:=wn) (wm:=wm) (i:=i) (y:=y) (Y:=Y) h h' hl q tr hg hf hb on om hne hy ri fi hy0 hkb hP F g0 g5 g11 g49 g51 (st:=st) (Q:=Q) hk;rw[show (cutAt [1,1,1,1,0] (aA Tryz.f101).code)=.block 2 (.loop (.seq (cutAt [1,1,1,1,0,2,2,0] (aA Tryz.f101).code) (.block 3 (.seq (cutAt [1,1,1,1,0,2,2,1,2,0] (aA Tryz.f101).code) (.seq (.seq (cutAt [1,1,1,1,0,2,2,1,2,1,0,0] (aA Tryz.f101).code) (.block 4 (.loop (.seq (cutAt [1,1,1,1,0,2,2,1,2,1,0,1,2,2,0] (aA Tryz.f101).code) (.seq (cutAt [1,1,1,1,0,2,2,1,2,1,0,1,2,2,1,0] (aA Tryz.f101).code) (.seq (.block 5 (cutAt [1,1,1,1,0,2,2,1,2,1,0,1,2,2,1,1,0,2] (aA Tryz.f101).code)) (cutAt [1,1,1,1,0,2,2,1,2,1,0,1,2,2,1,1,1] (aA Tryz.f101).code))))))) (cutAt [1,1,1,1,0,2,2,1,2,1,1] (aA Tryz.f101).code)))))) from rfl];generalize cutAt [1,1,1,1,0,2,2,1,2,1,0,1,2,2,1,1,0,2] (aA Tryz.f101).code=B at one ⊢;simp only[aA,Tryz.f101,KP,cutAt];refine Sz (λn F Y=>∃(k:Nat) (D:List (aC × Nat)) (now:List aC) (wn:V),F.get 0=g/\F.get 5=.mp b/\F.get 6=wn/\Y[b]?=some (.map (D.map dV))/\(D.map Prod.fst).Nodup/\bB eW 51 Y wn now/\Di (gC rs) s0 k (D.map Prod.fst) now (kZ D)/\(∀x,x∈D.map Prod.fst->x∈eE rs)/\now.length<=(D.map Prod.fst).length/\(k<=(D.map Prod.fst).length+1/\(now≠[]->k<=(D.map Prod.fst).length))/\((now=[]/\n=2*(2001-(D.map Prod.fst).length))\/(now≠[]/\n=2*(2001-(D.map Prod.fst).length)+1))) ?_ (2*(2001-(D.map Prod.fst).length)+(if now=[] then 0 else 1)) _ _ ⟨0,D,now,wn,(by simp +decide only[g0]),(by simp +decide only[g5]),(by simp +decide only[g6]),hb,hnd,on,di,hsub,hnlen,⟨by omega,λ_=>by omega⟩,?_⟩
 ·clear hb hnd on di hsub hnlen g0 g5 g6;rintro n F Y ⟨k,D,now,wn,g0,g5,g6,hb,hnd,on,di,hsub,hnlen,hkl,hn⟩ next
  have hAl:(D.map Prod.fst).length<=2000:=fh (jG hnd hsub) hlen;have ln:=nD hl.iI rfl on.ls;rw[aG];by_cases h0:now=[]
  ·subst h0;rw[b9]at ln;simp only[KP,↓reduceIte,reduceLT,Int.reduceLT,g6,ln];exact hk _ _ D (by simp +decide only[GS,g5]) hb di.fin (di.le (by omega))
  have hgt:decide ((0:Int)<(now.length:Int))=true:=BY (by have:=iy.2 h0;omega);simp only[KP,↓reduceIte,reduceEqDiff,reduceLT,g6,ln,hgt];refine aV (λi F2 τ2=>F2.get 0=g/\F2.get 5=.mp b/\F2.get 49=wn/\F2.get 50=.int .i64 (now.length:Int)/\F2.get 51=.int .i64 (i:Int)/\∃D' more wm,F2.get 11=wm/\τ2[b]?=some (.map (D'.map dV))/\bB eW 51 τ2 wn now/\bB eW 51 τ2 wm more/\(∀c,aQ wm=some c->aQ wn≠some c)/\Ri (gC rs) (eE rs) (D.map Prod.fst) (λx=>∃y∈now.take i,x∈gC rs y) (D'.map Prod.fst) more/\Fi D D' more k) now.length ?_ ?_ now.length 0 _ _ (by omega) (iT (by simp +decide only[GS,g0,g5,aj]) ⟨D,[],.aF,(by simp +decide only[GS]),hb,on,.inl ⟨rfl,rfl⟩,(λc hc=>by cases hc),⟨λx=>by simp,(λx=>by simp),hsub,ij _,hnd,OF _,λe=>absurd rfl e⟩,Fi.start _ _⟩)
  ·clear hb on g0 g5;rintro i F2 τ2 hi ⟨g0,g5,g49,g50,g51,D',more,wm,g11,hb,on,om,hne,ri,fi⟩ next2;obtain⟨y,hy⟩:∃y,now[i]?=some y:=⟨_,AT hi⟩;have hlt:=dP hi;have hadd:=bW i (by omega);have hyn:=ag hy
   have hy0:kZ D y=some k:=by
    obtain⟨d,h1,h2⟩:=di.is y (di.rd.sub y hyn);rw[h1,h2.uniq (di.last y hyn)]
   rw[aG];simp only[KP,↓reduceIte,reduceLT,g50,g51,hlt];refine one hb on om hne hy ri fi hy0 (by omega) (P':=λx=>∃y∈now.take (i+1),x∈gC rs y) (λx=>?_) _ ?_ ?_ ?_ ?_ ?_ _ _ (λF3 τ3 wm' D3 more' hF g11' hb' on' om' hne' ri' fi'=>?_)
   ·constructor
    ·rintro⟨z,hz,hx⟩;rcases (nB hy z).1 hz with h1 | rfl
     ·exact .inl ⟨z,h1,hx⟩
     ·exact .inr hx
    ·rintro (⟨z,hz,hx⟩ | hx)
     ·exact⟨z,(nB hy z).2 (.inl hz),hx⟩
     ·exact⟨y,(nB hy y).2 (.inr rfl),hx⟩
   ·simp +decide only[GS,g0]
   ·simp +decide only[GS,g5]
   ·simp +decide only[GS,g11]
   ·simp +decide only[GS,g49]
   ·simp +decide only[GS,g51]
   have q0:F3.get 0=g:=(hF 0 (by simp)).trans (by simp +decide only[GS,g0]);have q5:F3.get 5=.mp b:=(hF 5 (by simp)).trans (by simp +decide only[GS,g5]);have q49:F3.get 49=wn:=(hF 49 (by simp)).trans (by simp +decide only[GS,g49]);have Xr:F3.get 50=.int .i64 (now.length:Int):=(hF 50 (by simp)).trans (by simp +decide only[GS,g50]);have q51:F3.get 51=.int .i64 (i:Int):=(hF 51 (by simp)).trans (by simp +decide only[GS,g51]);simp only[KP,↓reduceIte,reduceLT,q51,hadd];exact next2 _ _ (iT (by simp +decide only[GS,q0,q5,q49,Xr,aj]) ⟨D3,more',wm',(by simp +decide only[GS,g11']),hb',on',om',hne',ri',fi'⟩)
  ·clear hb on g0 g5;rintro F2 τ2 ⟨g0,g5,g49,g50,g51,D',more,wm,g11,hb,on,om,hne,ri,fi⟩;have hlt:=dZ (bl now.length);rw[ak (OF _)]at ri;have hA'l:=ri.le hlen;rw[aG];simp only[KP,↓reduceIte,reduceEqDiff,reduceLT,g11,g50,g51,hlt];have hup:=ri.up;refine next (2*(2001-(D'.map Prod.fst).length)+(if more=[] then 0 else 1)) _ _ ?_ ⟨k+1,D',more,wm,(iU (by simp +decide only[GS,g0,g5,aj]) ⟨hb,ri.nd,om,di.next ri.mem ri.new (λx hx=>by rw[fi x,az hx]) (λx hx=>by rw[fi x,an hx]),ri.sub,ri.len,?_,?_⟩)⟩
   ·rcases hn with⟨h1,-⟩ | ⟨-,rfl⟩
    ·exact absurd h1 h0
    ·by_cases hm:more=[]
     ·rw[az hm];omega
     ·rw[an hm];have:=hup.2 hm;omega
   ·have:=hkl.2 h0;exact⟨by omega,λhm=>by have:=hup.2 hm;omega⟩
   ·by_cases hm:more=[]
    ·exact .inl ⟨hm,by rw[az hm];rfl⟩
    ·exact .inr ⟨hm,by rw[an hm]⟩
 ·by_cases h0:now=[]
  ·exact .inl ⟨h0,by rw[az h0];rfl⟩
  ·exact .inr ⟨h0,by rw[an h0]⟩
structure D_ (rs:List aD) (ls:List aC) (D:List (aC × Nat)):Prop where
 is:∀x d,kZ D x=some d ↔ FP (gC rs) (λx=>x∈ls/\x∈eE rs) d x
 le:∀x d,kZ D x=some d->d<=2001
def acC (rs:List aD) (ls:List aC) (v:V):Prop:=∃D,v=.imp false (D.map dV)/\D_ rs ls D
theorem BI (h:bE E)(h':oF E)(hl:Lb.bY E) (q:yF E) (tr:Ak E) {g:V}{rs:List aD}(hg:BL E rs g)(hf:Fits rs) {a:V}{ls:List aC}(ha:LS eW 51 Z a ls)(hls:ls.length<=1000000):aB E 101 [g,a] Z λv σ'=>σ'=Z/\acC rs ls v:=by
 obtain⟨a',ea,ia⟩:=iZ h ha;have e1:=cJ (Z:=Z) (ty:=E.ty) hg.bD (bV hg.bD);rw[aI tr.aaY tr.Yx tr.abQ tr.Z2 (args':=[g,a']) (by simp only[aX,e1,ea]),aW (by kernel_rfl)];have kseed:=λ{Y} hb F g0 g1 g5 g6 st Q hk=>TE (b:=0) (Y:=Y) h h' hl q tr hg hf ia hls hb F g0 g1 g5 g6 (st:=st) (Q:=Q) hk;have krounds:=λ{D now wn Y} hb hnd on di hsub hnlen F g0 g5 g6 st Q hk=>NF (b:=0) (s0:=λx=>x∈ls/\x∈eE rs) (D:=D) (now:=now) (wn:=wn) (Y:=Y) h h' hl q tr hg hf hb hnd on di hsub hnlen F g0 g5 g6 (st:=st) (Q:=Q) hk;rw[show (aA Tryz.f101).code=.seq (cutAt [0] (aA Tryz.f101).code) (.seq (cutAt [1,0] (aA Tryz.f101).code) (.seq (cutAt [1,1,0] (aA Tryz.f101).code) (.seq (cutAt [1,1,1,0] (aA Tryz.f101).code) (.seq (cutAt [1,1,1,1,0] (aA Tryz.f101).code) (cutAt [1,1,1,1,1] (aA Tryz.f101).code))))) from rfl];generalize cutAt [1,1,1,0] (aA Tryz.f101).code=SS at kseed ⊢;generalize cutAt [1,1,1,1,0] (aA Tryz.f101).code=BB at krounds ⊢;simp only[aA,Tryz.f101,KP,↓reduceIte,reduceLT,reduceAdd,cutAt];refine kseed rfl _ ?_ ?_ ?_ ?_ _ _ (λF1 τ1 wn D now q0 q5 q6 hb hnd on sd h0=>?_)
 ·simp +decide only[GS]
 ·simp +decide only[GS]
 ·simp +decide only[GS]
 ·simp +decide only[GS]
 rw[PO];simp only[KP];refine krounds hb hnd on (Di.start sd.mem sd.nw h0 λx hx=>rW.2 hx) (λx hx=>((sd.mem x).1 hx).2) sd.len _ q0 q5 q6 _ _ (λF2 τ2 D2 p5 hb2 hd hd2=>?_)
 have es:cG τ2 E.ty false (.mp 0)=some (.imp false (D2.map dV)):=by
  show aU.one τ2 E.ty false (.mp 0)=_;unfold aU.one;rw[show dL=10+2 from rfl,R_ hb2];rfl
 rw[PO];simp only[KP,↓reduceIte,reduceLT,p5,es];exact⟨D2,rfl,hd,hd2⟩
end
end
section
section
variable {E:Env}{Z:Sg}{K:V->Sg->Prop}
theorem Ub (h:bE E)(hl:Lb.bY E) (tr:Ak E) {a:V}{l:List aC}{k:Nat}{caps:List V}{P:aC->Bool}(ha:LS eW 51 Z a l)(hsm:l.length<=4294967296)(hP:∀y:aC,y∈l->aB E k ([.agg [.bool y.1,.str y.2]]++caps) [] λu Y=>Y=[]/\u=.bool (P y)) {fv:V} (ef:aU Z E.ty true fv=some (.fn k [] caps)):aB E 102 [a,fv] Z K=K (.int .i64 (idx (bQ P l))) Z:=by
 refine aB.of ?_;obtain⟨a',ea,ia⟩:=iZ h ha;rw[aI tr.UE tr.Uu tr.UG tr.Uz (args':=[a',.fn k [] caps]) (by simp only[aX,ea,ef]),aW (by kernel_rfl)];have la:=lC h ia;simp only[aA,Tryz.f102,KP,↓reduceIte,reduceLT,reduceAdd,reduceCtorEq,reduceNeg,la];refine aV (λi F Y=>Y=[]/\F.get 0=a'/\F.get 1=.fn k [] caps/\F.get 8=.int .i64 (i:Int)/\F.get 7=.int .i64 (l.length:Int)/\∀j y,j<i->l[j]?=some y->P y=false) l.length ?_ ?_ l.length 0 _ _ (by omega) ⟨rfl,(fK (by simp +decide only[GS,aj]) (λj y hj=>by omega))⟩
 ·rintro i F Y hi ⟨rfl,g0,g1,g8,g7,hp⟩ next
  obtain⟨x,hx⟩:∃x,l[i]?=some x:=⟨_,AT hi⟩;obtain⟨g,e1⟩:=oK h ia hx;have hlt:=dP hi;have hadd:=bW i (by omega);rw[aG];simp only[KP,Ax.loadAt,↓reduceIte,reduceEqDiff,reduceLT,reduceAdd,reduceCtorEq,reduceNeg,h.cE,g0,g1,g7,g8,hlt,e1];refine aN (hP x (ag hx)) ?_;rintro u Y ⟨rfl,rfl⟩;by_cases hxs:P x=true
  ·simp only[KP,↓reduceIte,reduceEqDiff,reduceLT,reduceNeg,hxs];rw[fU (i:=i) (x:=x) hp hx hxs];exact rfl
  ·have hxs:P x=false:=by simpa using hxs
   simp only[KP,↓reduceIte,reduceEqDiff,reduceLT,reduceNeg,g8,hxs,hadd];refine next _ _ ⟨rfl,(fK (by simp +decide only[GS,g0,g1,g7,aj]) (λj y hj hy=>?_))⟩
   rcases cj j i with g | g
   ·exact hp j y g hy
   ·obtain rfl:j=i:=by omega
    rw[hx]at hy;cases hy;exact hxs
 ·rintro F Y ⟨rfl,g0,g1,g8,g7,hp⟩;have hlt:=dZ (bl l.length);rw[aG];simp only[KP,↓reduceIte,reduceLT,reduceNeg,g7,g8,hlt]
  rw[fV λx hx=>by
   obtain⟨j,hj,e⟩:=fm hx;exact hp j x hj (by rw[AT hj,e])]
  exact rfl
theorem Xb (h:bE E)(hl:Lb.bY E) (tr:Ak E) {a:V}{l:List aC}{s:aC}(ha:LS eW 51 Z a l)(hsm:l.length<=4294967296):aB E 136 [a,.agg [.bool s.1,.str s.2]] Z K=K (.int .i64 (idx (bQ (λx=>decide (x=s)) l))) Z:=by
 refine aB.of ?_;obtain⟨a',ea,ia⟩:=iZ h ha;have es:=CG (E:=E) Z s;have d4:=tr.WR;simp only[aA,Tryz.f136,cutAt,aq]at d4;rw[aI tr.aaL tr.Yk tr.abC tr.ZP (args':=[a',.agg [.bool s.1,.str s.2]]) (by simp only[aX,ea,es]),aW (by kernel_rfl)];have la:=lC h ia;simp only[aA,Tryz.f136,KP,↓reduceIte,reduceLT,reduceAdd,reduceCtorEq,reduceNeg,h.cE,la];refine aV (λi F Y=>Y[0]?=some (O.cells 51 [.bool s.1,.str s.2] true)/\F.get 0=a'/\F.get 3=.ref 0 0/\F.get 8=.int .i64 (i:Int)/\F.get 7=.int .i64 (l.length:Int)/\∀j y,j<i->l[j]?=some y->y≠s) l.length ?_ ?_ l.length 0 _ _ (by omega) ⟨rfl,(fK (by simp +decide only[GS,aj]) (λj y hj=>by omega))⟩
 ·rintro i F Y hi ⟨hb,g0,g3,g8,g7,hp⟩ next
  obtain⟨x,hx⟩:∃x,l[i]?=some x:=⟨_,AT hi⟩;obtain⟨g,e1⟩:=oK h ia hx;have hlt:=dP hi;have hadd:=bW i (by omega);have ev:=λb=>wK (b:=b) hl s x;rw[aG];by_cases hxs:x=s
  ·rw[BY hxs.symm]at ev;simp only[KP,Ax.loadAt,↓reduceIte,reduceEqDiff,reduceLT,reduceAdd,reduceCtorEq,reduceNeg,h.cE,g0,g3,g7,g8,hlt,e1,hb,ev,aT d4,bK];rw[fU (i:=i) (x:=x) (λj y hj hy=>AS (hp j y hj hy)) hx (BY hxs)];exact rfl
  ·rw[AS (jy hxs)]at ev;simp only[KP,Ax.loadAt,↓reduceIte,reduceEqDiff,reduceLT,reduceAdd,reduceCtorEq,reduceNeg,h.cE,g0,g3,g7,g8,hlt,e1,hb,ev,hadd,aT d4,bK];refine next _ _ ⟨hb,(fK (by simp +decide only[GS,g0,g3,g7,aj]) (λj y hj hy=>?_))⟩
   rcases cj j i with g | g
   ·exact hp j y g hy
   ·obtain rfl:j=i:=by omega
    rw[hx]at hy;cases hy;exact hxs
 ·rintro F Y ⟨hb,g0,g3,g8,g7,hp⟩;have hlt:=dZ (bl l.length);rw[aG];simp only[KP,↓reduceIte,reduceLT,reduceNeg,g7,g8,hlt]
  rw[fV λx hx=>by
   obtain⟨j,hj,e⟩:=fm hx;exact AS (hp j x hj (by rw[AT hj,e]))]
  exact rfl
theorem Ui {l:List aC}{s:aC}:(l.any λx=>decide (x=s))=decide (s∈l):=by
 rw[e8,fg,aa];exact⟨λ⟨x,hx,e⟩=>by rw[<- ej e];exact hx,λhs=>⟨s,hs,BY rfl⟩⟩
theorem Ud (h:bE E)(hl:Lb.bY E) (tr:Ak E) {a:V}{l:List aC}{s:aC}(ha:LS eW 51 Z a l)(hsm:l.length<=4294967296):aB E 108 [a,.agg [.bool s.1,.str s.2]] Z K=K (.bool (decide (s∈l))) Z:=by
 refine aB.of ?_;obtain⟨a',ea,ia⟩:=iZ h ha;have es:=CG (E:=E) Z s;rw[aI tr.aaV tr.Yu tr.abM tr.ZZ (args':=[a',.agg [.bool s.1,.str s.2]]) (by simp only[aX,ea,es]),aW (by kernel_rfl)];have kk:=λ(Y:Sg)=>dD (λK=>Xb (Z:=Y) (s:=s) (K:=K) h hl tr (ia.ls Y 51) hsm);simp only[aA,Tryz.f108,KP,Ax.loadAt,↓reduceIte,reduceEqDiff,reduceLT,reduceAdd,reduceCtorEq,h.cE,kk,kW,cF,Ui];exact rfl
def Eo (D:List (aC × Nat)) (n:Int) (x:aC):Bool:=match kZ D x with
 |some d=>decide ((d:Int)=n)
 |none=>false
theorem b_S1 (h:bE E)(hl:Lb.bY E) (tr:Ak E) {D:List (aC × Nat)}{n:Int}{g g2 g3:Bool}{x:aC}(hn:wr .i64 (n-1)=n-1):aB E 103 [.agg [.bool x.1,.str x.2],.cZ g [.imp g2 (D.map dV)],.cZ g3 [.int .i64 n]] [] K=K (.bool (Eo D (n-1) x)) []:=by
 refine aB.of ?_;have hi:Ax.bD (.cZ g [.imp g2 (D.map dV)])=true:=rfl;have hi2:Ax.bD (.cZ g3 [.int .i64 n])=true:=rfl;have ew:=cJ (Z:=[]) (ty:=E.ty) hi (bV hi);have ew2:=cJ (Z:=[]) (ty:=E.ty) hi2 (bV hi2);have es:=CG (E:=E) [] x;rw[aI tr.aaX tr.Yw tr.abP tr.Z1 (args':=[.agg [.bool x.1,.str x.2],.cZ g [.imp g2 (D.map dV)],.cZ g3 [.int .i64 n]]) (by simp only[aX,es,ew,ew2]),aW (by kernel_rfl)];have lk:=λ(Y:Sg)=>zP (Z:=Y) (v:=.imp g2 (D.map dV)) h hl tr rfl x;unfold Eo;cases hd:kZ D x with
 |none=>
  rw[hd]at lk;simp only[aA,Tryz.f103,KP,Ax.loadAt,↓reduceIte,reduceEqDiff,reduceLT,reduceAdd,reduceCtorEq,h.cE,tr.qN,lk];exact rfl
 |some d=>
  rw[hd]at lk;simp only[aA,Tryz.f103,KP,Ax.loadAt,↓reduceIte,reduceEqDiff,reduceLT,reduceAdd,reduceCtorEq,h.mB,h.cE,tr.qN,lk,hn];exact rfl
end
end
section
section
variable {E:Env}{Z:Sg}{K:V->Sg->Prop}
def Rz (D:List (aC × Nat)) (S:List aC) (i:Nat) (left:Int) (p:List aC):Prop:=
 (left = -1/\p=[]/\∀(j:Nat) (x:aC),j<i->S[j]?=some x->kZ D x=none) \/
 ∃(j:Nat) (x0:aC) (d:Nat),j<i/\S[j]?=some x0/\kZ D x0=some d/\left=(d:Int)/\p=[x0]/\∀(j':Nat) (x:aC) (e:Nat),j'<i->S[j']?=some x->kZ D x=some e->d<=e/\(j'<j->d<e)
theorem Rz.none {D:List (aC × Nat)}{S:List aC}{i:Nat}{left:Int}{p:List aC}(h:Rz D S i left p) {x:aC}(hx:S[i]?=some x)(hd:kZ D x=none):Rz D S (i+1) left p:=by
 rcases h with⟨h1,h2,h3⟩ | ⟨j,x0,d,h1,h2,h3,h4,h5,h6⟩
 ·refine .inl ⟨h1,h2,λj y hj hy=>?_⟩;rcases cj j i with g | g
  ·exact h3 j y g hy
  ·obtain rfl:j=i:=by omega
   rw[hx]at hy;cases hy;exact hd
 ·refine .inr ⟨j,x0,d,by omega,h2,h3,h4,h5,λj' y e hj' hy he=>?_⟩;rcases cj j' i with g | g
  ·exact h6 j' y e g hy he
  ·obtain rfl:j'=i:=by omega
   rw[hx]at hy;cases hy;rw[hd]at he;cases he
theorem Rz.take {D:List (aC × Nat)}{S:List aC}{i:Nat}{left:Int}{p:List aC}(h:Rz D S i left p) {x:aC}{d:Nat}(hx:S[i]?=some x)(hd:kZ D x=some d)(hlt:left<0\/(d:Int)<left):Rz D S (i+1) (d:Int) [x]:=by
 refine .inr ⟨i,x,d,by omega,hx,hd,rfl,rfl,λj' y e hj' hy he=>?_⟩;rcases cj j' i with g | g
 ·rcases h with⟨h1,h2,h3⟩ | ⟨j,x0,d0,h1,h2,h3,h4,h5,h6⟩
  ·rw[h3 j' y g hy]at he;cases he
  ·have:=(h6 j' y e g hy he).1;exact⟨by omega,λ_=>by omega⟩
 ·obtain rfl:j'=i:=by omega
  rw[hx]at hy;cases hy;rw[hd]at he;cases he;exact⟨OF _,λhh=>absurd hh (bl _)⟩
theorem Rz.skip {D:List (aC × Nat)}{S:List aC}{i:Nat}{left:Int}{p:List aC}(h:Rz D S i left p) {x:aC}{d:Nat}(hx:S[i]?=some x)(hd:kZ D x=some d)(hlt:0<=left)(hge:left<=(d:Int)):Rz D S (i+1) left p:=by
 rcases h with⟨h1,h2,h3⟩ | ⟨j,x0,d0,h1,h2,h3,h4,h5,h6⟩
 ·omega
 ·refine .inr ⟨j,x0,d0,by omega,h2,h3,h4,h5,λj' y e hj' hy he=>?_⟩;rcases cj j' i with g | g
  ·exact h6 j' y e g hy he
  ·obtain rfl:j'=i:=by omega
   rw[hx]at hy;cases hy;rw[hd]at he;cases he;exact⟨by omega,λhh=>by omega⟩
theorem zC {Y:Sg}{w:V}{l:List aC}{b u:Nat}{cs:List V}{ex:Bool}{y:O} (ow:bB eW 51 Y w l)(hb:Y[b]?=some (.cells u cs ex))(hu:u≠51):bB eW 51 (Y.set b y) w l:=ow.keep λc o hc ho=>by
 rw[No (λe=>?_)]
 ·exact ho
 ·subst e;exact HW ow (λu' ex' e=>by rw[hb]at e;cases e;exact hu rfl) hc
theorem R8 (h:bE E)(h':oF E)(hl:Lb.bY E) (q:yF E) (tr:Ak E) {D:List (aC × Nat)}{Sx:List aC}{r g:V}{Y:Sg}(hlen:Sx.length<=1000000) (on:bB eW 51 Y r Sx) (b0:Y[0]?=some (.cells 131 [.imp false (D.map dV)] true)) (b1:Y[1]?=some (.cells 3 [.int .i64 (-1)] true))
  (F:FT) (g0:F.get 0=g) (g7:F.get 7=.ref 0 0) (g8:F.get 8=.aF) (g9:F.get 9=.ref 1 0) (g23:F.get 23=r) (g24:F.get 24=.int .i64 (Sx.length:Int)) (g25:F.get 25=.int .i64 0) {st:List kH}{Q:Ax.X->Fr->Sg->Prop}
  (hk:∀F' τ' w p left,F'.get 0=g->F'.get 7=.ref 0 0->F'.get 8=w->F'.get 9=.ref 1 0->bB eW 51 τ' w p->τ'[0]?=some (.cells 131 [.imp false (D.map dV)] true)->τ'[1]?=some (.cells 3 [.int .i64 left] true)->Rz D Sx Sx.length left p->M E st .normal ⟨72,F'⟩ τ' Q):Ax.R E (cutAt [1,1,1,1,0,1] (aA Tryz.f34).code) st ⟨72,F⟩ Y Q:=by
 simp only[aA,Tryz.f34,KP,reduceNeg,cutAt];refine aV (λi F Y=>F.get 0=g/\F.get 7=.ref 0 0/\F.get 9=.ref 1 0/\F.get 23=r/\F.get 24=.int .i64 (Sx.length:Int)/\F.get 25=.int .i64 (i:Int)/\bB eW 51 Y r Sx/\Y[0]?=some (.cells 131 [.imp false (D.map dV)] true)/\∃w p left,F.get 8=w/\bB eW 51 Y w p/\Y[1]?=some (.cells 3 [.int .i64 left] true)/\Rz D Sx i left p) Sx.length ?_ ?_ Sx.length 0 _ _ (by omega) ⟨(by simp +decide only[g0]),(by simp +decide only[g7]),(by simp +decide only[g9]),(by simp +decide only[g23]),(by simp +decide only[g24]),(by simp +decide only[GS,g25]),on,b0,.aF,[],-1,(by simp +decide only[g8]),.inl ⟨rfl,rfl⟩,b1,.inl ⟨rfl,rfl,λj x hj=>by omega⟩⟩
 ·clear on b0 b1 g0 g7 g8 g9 g23 g24 g25;rintro i F Y hi ⟨g0,g7,g9,g23,g24,g25,on,b0,w,p,left,g8,ow,b1,bs⟩ next
  obtain⟨x,hx⟩:∃x,Sx[i]?=some x:=⟨_,AT hi⟩;obtain⟨c,o,u,cs,ex,e1,hc,hle,hrow⟩:=J3 hl on hx;have hlt:=dP hi;have hadd:=bW i (by omega);have lk:=λ(Y:Sg)=>zP (Z:=Y) (v:=.imp false (D.map dV)) h hl tr rfl x;have b0':(Y++[O.cells 51 [.bool x.1,.str x.2] true])[0]?=some (.cells 131 [.imp false (D.map dV)] true):=aJ b0;have b1':(Y++[O.cells 51 [.bool x.1,.str x.2] true])[1]?=some (.cells 3 [.int .i64 left] true):=aJ b1;have on1:=on.app [O.cells 51 [.bool x.1,.str x.2] true];have ow1:=ow.app [O.cells 51 [.bool x.1,.str x.2] true];have b1'':(Y++[O.cells 51 [.bool x.1,.str x.2] true]++[O.cells 51 [.bool x.1,.str x.2] true])[1]?=some (.cells 3 [.int .i64 left] true):=aJ b1';have b0'':(Y++[O.cells 51 [.bool x.1,.str x.2] true]++[O.cells 51 [.bool x.1,.str x.2] true])[0]?=some (.cells 131 [.imp false (D.map dV)] true):=aJ b0';have on2:=on1.app [O.cells 51 [.bool x.1,.str x.2] true];have s2:(Y++[O.cells 51 [.bool x.1,.str x.2] true]++[O.cells 51 [.bool x.1,.str x.2] true])[(Y++[O.cells 51 [.bool x.1,.str x.2] true]).length]?=some (O.cells 51 [.bool x.1,.str x.2] true):=aL;have s1:(Y++[O.cells 51 [.bool x.1,.str x.2] true])[Y.length]?=some (O.cells 51 [.bool x.1,.str x.2] true):=aL;rw[aG];cases hd:kZ D x with
  |none=>
   rw[hd]at lk;simp only[KP,Ax.loadAt,Ax.storeAt,↓reduceIte,reduceEqDiff,reduceLT,reduceAdd,reduceCtorEq,h.cE,tr.qN,g7,g23,g24,g25,hlt,hadd,e1,hc,hle,hrow,row,lk,b0',aL,bR];exact next _ _ (Ab (by simp +decide only[GS,g0,g7,g9,g23,g24,aj]) ⟨on1,b0',w,p,left,(by simp +decide only[GS,g8]),ow1,b1',bs.none hx hd⟩)
  |some d=>
   rw[hd]at lk;by_cases hl0:left<0
   ·have q0:=BY hl0;simp only[KP,Ax.loadAt,Ax.storeAt,↓reduceIte,reduceEqDiff,reduceLT,reduceLeDiff,reduceAdd,reduceMul,h.mB,h.iI,h.cE,tr.qN,g7,g9,g23,g24,g25,hlt,hadd,e1,hc,hle,hrow,row,lk,b0',b1',b1'',q0,aL,bR,mM];refine next _ _ (Ab (by simp +decide only[GS,g0,g7,g9,g23,g24,aj]) ⟨zC on2 b1'' (by decide),(by rw[No (by decide)];exact b0''),.sl (Y++[O.cells 51 [.bool x.1,.str x.2] true]).length 0 1 none,[x],(d:Int),(by simp +decide only[GS]),zC (.inr ⟨_,[row x],true,rfl,s2,.one rfl⟩) b1'' (by decide),(by rw[bt (AI.1 b1'').1]),bs.take hx hd (.inl hl0)⟩)
   ·have q0:=AS hl0;by_cases hdl:(d:Int)<left
    ·have q1:=BY hdl;simp only[KP,Ax.loadAt,Ax.storeAt,↓reduceIte,reduceEqDiff,reduceLT,reduceLeDiff,reduceAdd,reduceMul,h.mB,h.iI,h.cE,tr.qN,g7,g9,g23,g24,g25,hlt,hadd,e1,hc,hle,hrow,row,lk,b0',b1',b1'',q0,q1,aL,bR,mM];refine next _ _ (Ab (by simp +decide only[GS,g0,g7,g9,g23,g24,aj]) ⟨zC on2 b1'' (by decide),(by rw[No (by decide)];exact b0''),.sl (Y++[O.cells 51 [.bool x.1,.str x.2] true]).length 0 1 none,[x],(d:Int),(by simp +decide only[GS]),zC (.inr ⟨_,[row x],true,rfl,s2,.one rfl⟩) b1'' (by decide),(by rw[bt (AI.1 b1'').1]),bs.take hx hd (.inr hdl)⟩)
    ·have q1:=AS hdl;simp only[KP,Ax.loadAt,Ax.storeAt,↓reduceIte,reduceEqDiff,reduceLT,reduceAdd,h.mB,h.cE,tr.qN,g7,g9,g23,g24,g25,hlt,hadd,e1,hc,hle,hrow,row,lk,b0',b1',q0,q1,aL,bR];exact next _ _ (Ab (by simp +decide only[GS,g0,g7,g9,g23,g24,aj]) ⟨on1,b0',w,p,left,(by simp +decide only[GS,g8]),ow1,b1',bs.skip hx hd (by omega) (by omega)⟩)
 ·rintro F Y ⟨g0,g7,g9,g23,g24,g25,on,b0,w,p,left,g8,ow,b1,bs⟩;have hlt:=dZ (bl Sx.length);rw[aG];simp only[KP,↓reduceIte,reduceLT,g24,g25,hlt];exact hk _ _ w p left (by simp +decide only[GS,g0]) (by simp +decide only[GS,g7]) (by simp +decide only[GS,g8]) (by simp +decide only[GS,g9]) ow b0 b1 bs
end
end
section
section
variable {E:Env}{Z:Sg}{K:V->Sg->Prop}
theorem E4 {rs:List aD} (x y:aC):x∈bH rs y ↔ y∈gC rs x:=by rw[nC,wG]
end
end
section
section
variable {E:Env}{Z:Sg}{K:V->Sg->Prop}
structure Wy (D:List (aC × Nat)) (rs:List aD) (d:Nat) (p:List aC):Prop where
 bN:∀(i:Nat) (y:aC),p[i]?=some y->i<=d/\kZ D y=some (d-i)
 nx:∀(i:Nat) (y x:aC),p[i]?=some y->p[i+1]?=some x->∃m,bQ (Eo D ((d:Int)-(i:Int)-1)) (bH rs y)=some m/\(bH rs y)[m]?=some x
theorem Iv {D:List (aC × Nat)}{n:Int}{x:aC}:Eo D n x=true ↔ ∃d:Nat,kZ D x=some d/\(d:Int)=n:=by
 unfold Eo;cases kZ D x with
 |none=>simp
 |some d=>simp
theorem Wy.snoc {D:List (aC × Nat)}{rs:List aD}{d i m:Nat}{p:List aC}{y x:aC}(h:Wy D rs d p)(hp:p.length=i+1)(hid:i<d)(hy:p[i]?=some y)(hm:bQ (Eo D ((d:Int)-(i:Int)-1)) (bH rs y)=some m)(hx:(bH rs y)[m]?=some x):Wy D rs d (p++[x]):=by
 have hxa:Eo D ((d:Int)-(i:Int)-1) x=true:=by
  obtain⟨x',h1,h2⟩:=iE hm;rw[hx]at h1;cases h1;exact h2
 refine⟨λj z hz=>?_,λj z u hz hu=>?_⟩
 ·rcases cj j p.length with g | g
  ·rw[b8 g]at hz;exact h.bN j z hz
  ·rw[br g]at hz;obtain⟨h0,e⟩:=AI.1 hz;have hj:j=i+1:=by rw[dm]at h0;omega
   subst hj;have hzx:z=x:=by rw[<- e];simp[hp]
   subst hzx;obtain⟨e',h1,h2⟩:=Iv.1 hxa;exact⟨by omega,by rw[h1];congr 1;omega⟩
 ·rcases cj (j+1) p.length with g | g
  ·rw[b8 (by omega)]at hz;rw[b8 g]at hu;exact h.nx j z u hz hu
  ·have hj:j=i:=by
    have:=(AI.1 hu).1;rw[By,dm]at this;omega
   subst hj;rw[b8 (by omega),hy]at hz;cases hz;rw[br (by omega),hp,jl]at hu;cases hu;exact⟨m,hm,hx⟩
theorem VX {rs:List aD}{ls:List aC}{D:List (aC × Nat)} (dd:D_ rs ls D) {y:aC}{d i:Nat}(hid:i<d)(hy:kZ D y=some (d-i)):∃m x,bQ (Eo D ((d:Int)-(i:Int)-1)) (bH rs y)=some m/\(bH rs y)[m]?=some x:=by
 have h1:FP (gC rs) (λx=>x∈ls/\x∈eE rs) ((d-i-1)+1) y:=by
  rw[show d-i-1+1=d-i by omega];exact (dd.is y _).1 hy
 obtain⟨z,hz,hyz⟩:=h1.back;obtain⟨m,hm⟩:=oC (p:=Eo D ((d:Int)-(i:Int)-1)) ((E4 z y).2 hyz) (Iv.2 ⟨d-i-1,(dd.is z _).2 hz,by omega⟩);obtain⟨x,hx,-⟩:=iE hm;exact⟨m,x,hm,hx⟩
theorem R9 {Y:Sg}{es:List (V × V)}{n:Int}{f:Nat} (b0:Y[0]?=some (.cells 131 [.imp false es] true)) (b1:Y[1]?=some (.cells 3 [.int .i64 n] true)) :
  aU Y E.ty true (.fn f [] [.ref 0 0,.ref 1 0])=some (.fn f [] [.cZ true [.imp false es],.cZ true [.int .i64 n]]):=by
 have h1:=LD (E:=E) b0 (cs':=[.imp false es]) (f_ λx hx=>by
  rw[cn.1 hx];rfl)
 have h2:=LD (E:=E) b1 (cs':=[.int .i64 n]) (f_ λx hx=>by
  rw[cn.1 hx];rfl)
 simp only[aU,aX,h1,h2]
theorem R7 (h:bE E)(h':oF E)(hl:Lb.bY E) (q:yF E) (tr:Ak E) {g:V}{rs:List aD}(hg:BL E rs g)(hf:Fits rs) {ls:List aC}{D:List (aC × Nat)} (dd:D_ rs ls D) {x0:aC}{d:Nat}(hx0:kZ D x0=some d) {w:V}{Y:Sg} (ow:bB eW 51 Y w [x0]) (b0:Y[0]?=some (.cells 131 [.imp false (D.map dV)] true)) (b1:Y[1]?=some (.cells 3 [.int .i64 (d:Int)] true))
  (F:FT) (g0:F.get 0=g) (g7:F.get 7=.ref 0 0) (g8:F.get 8=w) (g9:F.get 9=.ref 1 0) {st:List kH}{Q:Ax.X->Fr->Sg->Prop}
  (hk:∀F' τ' w' p,F'.get 8=w'->bB eW 51 τ' w' p->p.length=d+1->p[0]?=some x0->Wy D rs d p->M E st .normal ⟨72,F'⟩ τ' Q):Ax.R E (cutAt [1,1,1,1,1,0] (aA Tryz.f34).code) st ⟨72,F⟩ Y Q:=by
 have hd2:=dd.le x0 d hx0;simp only[aA,Tryz.f34,KP,reduceNeg,cutAt]
 refine aV (λi F Y=>F.get 0=g/\F.get 7=.ref 0 0/\F.get 9=.ref 1 0/\Y[0]?=some (.cells 131 [.imp false (D.map dV)] true)/\Y[1]?=some (.cells 3 [.int .i64 ((d:Int)-(i:Int))] true)/\∃w p,F.get 8=w/\bB eW 51 Y w p/\p.length=i+1/\p[0]?=some x0/\Wy D rs d p) d ?_ ?_ d 0 _ _ (by omega) ⟨(by simp +decide only[g0]),(by simp +decide only[g7]),(by simp +decide only[g9]),b0,by rw[show ((d:Int)-((0:Nat):Int))=(d:Int) by omega];exact b1,w,[x0],(by simp +decide only[g8]),ow,rfl,rfl,⟨λi y hy=>by
  obtain⟨hi,e⟩:=AI.1 hy;rw[dm]at hi;obtain rfl:i=0:=by omega
  cases e;exact⟨ij _,hx0⟩,λi y x hy hx=>by
  have:=(AI.1 hx).1;rw[dm]at this;omega⟩⟩
 ·clear ow b0 b1 g0 g7 g8 g9;rintro i F Y hi ⟨g0,g7,g9,b0,b1,w,p,g8,ow,hpl,hp0,wy⟩ next
  obtain⟨y,hy⟩:∃y,p[i]?=some y:=⟨_,AT (by omega)⟩;obtain⟨c,o,u,cs,ex,e1,hc,hle,hrow⟩:=J3 hl ow hy;obtain⟨m,x,hm,hx⟩:=VX dd hi (wy.bN i y hy).2;have lw:=nD hl.iI rfl ow.ls;rw[hpl]at lw;have hgt:decide ((0:Int)<(d:Int)-(i:Int))=true:=BY (by omega);have hw1:wr .i64 (((i+1:Nat):Int)-1)=(i:Int):=by rw[Ci _ (by omega) (by omega)];omega
  have hw2:wr .i64 ((d:Int)-(i:Int)-1)=(d:Int)-(i:Int)-1:=Ci _ (by omega) (by omega);rw[aG];simp only[KP,Ax.loadAt,↓reduceIte,reduceEqDiff,reduceLT,reduceCtorEq,h.mB,h.cE,g0,g8,g9,b1,hgt,lw,hw1,e1,hc,hle,hrow,row];refine aN (vR h h' hl q hg hf y) ?_;rintro v σ' ⟨rfl,hv⟩;have hvi:=hv.UC.is;have hdl:(bH rs y).length<=2000:=fh (jG (vA rs y).nodup λx hx=>zK y x hx) (qH hf);have ef:=R9 (E:=E) (f:=103) b0 b1
  have kf:=dD (λK=>Ub (Z:=σ') (K:=K) (k:=103) (caps:=[.cZ true [.imp false (D.map dV)],.cZ true [.int .i64 ((d:Int)-(i:Int))]]) (P:=Eo D ((d:Int)-(i:Int)-1)) h hl tr (hvi.ls σ' 51) (by omega) (λz _=>by
   show aB E 103 [.agg [.bool z.1,.str z.2],.cZ true [.imp false (D.map dV)],.cZ true [.int .i64 ((d:Int)-(i:Int))]] [] _;rw[b_S1 h hl tr hw2];exact⟨rfl,rfl⟩) ef)
  rw[hm,fC]at kf;obtain⟨gi,e2⟩:=oK h hvi hx;obtain⟨w',τ5,ha5,ow5,Oc,-⟩:=G0 (x:=x) (ex:=true) hl ow (by omega);have n0:aQ w≠some 0:=HW ow λu ex e=>by rw[b0]at e;cases e
  have n1:aQ w≠some 1:=HW ow λu ex e=>by rw[b1]at e;cases e
  have b05:=Oc _ _ (aJ b0) n0;have b15:=Oc _ _ (aJ b1) n1;simp only[KP,Ax.loadAt,Ax.storeAt,↓reduceIte,reduceEqDiff,reduceLT,reduceLeDiff,reduceAdd,reduceMul,h.mB,h.iI,h.cE,g7,g8,g9,kf,e2,mM,ha5,b15,hw2];refine next _ _ (iU (by simp +decide only[GS,g0,g7,g9,aj]) ⟨(by rw[No (by decide)];exact b05),(by rw[bt (AI.1 b15).1,show ((d:Int)-((i+1:Nat):Int))=(d:Int)-(i:Int)-1 by omega]),w',p++[x],(by simp +decide only[GS]),zC ow5 b15 (by decide),by rw[By,dm,hpl],by rw[b8 (by omega)];exact hp0,wy.snoc hpl hi hy hm hx⟩)
 ·rintro F Y ⟨g0,g7,g9,b0,b1,w,p,g8,ow,hpl,hp0,wy⟩;rw[show ((d:Int)-(d:Int))=0 by omega]at b1;rw[aG];simp only[KP,Ax.loadAt,↓reduceIte,reduceLT,Int.reduceLT,h.mB,g9,b1];exact hk _ _ w p (by simp +decide only[GS,g8]) ow hpl hp0 wy
def UM (rs:List aD) (D:List (aC × Nat)) (Sx p:List aC):Prop:=
 (p=[]/\∀x,x∈Sx->kZ D x=none) \/
 ∃(j:Nat) (x0:aC) (d:Nat),Sx[j]?=some x0/\kZ D x0=some d/\(∀(j':Nat) (x:aC) (e:Nat),Sx[j']?=some x->kZ D x=some e->d<=e/\(j'<j->d<e))/\p.length=d+1/\p[0]?=some x0/\Wy D rs d p
theorem SQ:∀r x,eW.P r x->∀c∈r,cL false c=true:=λr x hr c hc=>by
 rw[show r=row x from hr]at hc;simp only[row,IT,cr,fu]at hc;rcases hc with rfl | rfl <;> rfl
theorem uO (hl:Lb.bY E) {Y:Sg}{r:V}{l:List aC} (ow:bB eW 51 Y r l):∃v',cG Y E.ty false r=some v'/\Ch v' l:=by
 obtain⟨v',h1,h2⟩:=pJ hl.cE rfl SQ ow;exact⟨v',h1,h2.imp id λ⟨rs,f,e,a⟩=>⟨f,by rw[e,sQ a]⟩⟩
theorem W6 (h:bE E)(h':oF E)(hl:Lb.bY E) (q:yF E) (tr:Ak E) {g:V}{rs:List aD}(hg:BL E rs g)(hf:Fits rs) {a b:V}{fr tto:List aC}(ha:LS eW 51 Z a fr)(hb:LS eW 51 Z b tto)(hfr:fr.length<=1000000)(hto:tto.length<=1000000)(hstr:∀x∈fr,x.2.length<=9223372036854775806) :
  aB E 34 [g,a,b] Z λv σ'=>σ'=Z/\∃D Sx p,D_ rs tto D/\Ch v p/\Up Sx/\(∀x,x∈Sx ↔ x∈fr)/\UM rs D Sx p:=by
 obtain⟨a',ea,ia⟩:=iZ h ha;obtain⟨b',eb,ib⟩:=iZ h hb;have e1:=cJ (Z:=Z) (ty:=E.ty) hg.bD (bV hg.bD);rw[aI tr.hs34 tr.sp34 tr.fn34 tr.md34 (args':=[g,a',b']) (by simp only[aX,e1,ea,eb]),aW (by kernel_rfl)];have kpick:=λ{D Sx r Y} hlen on b0 b1 F g0 g7 g8 g9 g23 g24 g25 st Q hk=>R8 (D:=D) (Sx:=Sx) (r:=r) (g:=g) (Y:=Y) h h' hl q tr hlen on b0 b1 F g0 g7 g8 g9 g23 g24 g25 (st:=st) (Q:=Q) hk;have kwalk:=λ{D x0 d w Y} dd hx0 ow b0 b1 F g0 g7 g8 g9 st Q hk=>R7 (ls:=tto) (D:=D) (x0:=x0) (d:=d) (w:=w) (Y:=Y) h h' hl q tr hg hf dd hx0 ow b0 b1 F g0 g7 g8 g9 (st:=st) (Q:=Q) hk;rw[show (aA Tryz.f34).code=.seq (cutAt [0] (aA Tryz.f34).code) (.seq (cutAt [1,0] (aA Tryz.f34).code) (.seq (cutAt [1,1,0] (aA Tryz.f34).code) (.seq (cutAt [1,1,1,0] (aA Tryz.f34).code) (.seq (.seq (cutAt [1,1,1,1,0,0] (aA Tryz.f34).code) (cutAt [1,1,1,1,0,1] (aA Tryz.f34).code)) (.seq (cutAt [1,1,1,1,1,0] (aA Tryz.f34).code) (cutAt [1,1,1,1,1,1] (aA Tryz.f34).code)))))) from rfl];generalize cutAt [1,1,1,1,0,1] (aA Tryz.f34).code=PP at kpick ⊢;generalize hBB:cutAt [1,1,1,1,1,0] (aA Tryz.f34).code=BB at kwalk ⊢;simp only[aA,Tryz.f34,KP,↓reduceIte,reduceEqDiff,reduceLT,reduceAdd,reduceCtorEq,reduceNeg,cutAt];refine aN (BI h h' hl q tr hg hf (ib.ls _ 51) hto) ?_;rintro v σ' ⟨rfl,D,rfl,dd⟩;simp only[KP,Ax.storeAt,↓reduceIte,reduceEqDiff,reduceLT,reduceNeg,h.mB,tr.qN];refine aN (Lb.Q5 hl ((IS.lv ia).sv _) (by omega)) ?_;rintro r σ2 ⟨m,rfl,hs,-,ka⟩;have b0:=ka 0 _ rfl;have b1:=ka 1 _ rfl;have hkl:(keys [] fr).length<=1000000:=fh n_ (by rw[b9];omega);simp only[KP,↓reduceIte,reduceLT,reduceAdd,reduceCtorEq,reduceNeg,hl.uG,hl.Am]
 refine aN (Lb.acy hl hs hkl (λx hx=>by
  have:=hstr x ((mem_keys.1 hx).resolve_left (by simp));omega)) ?_
 rintro r Y ⟨ho,ka2⟩;have b0:=ka2 _ _ b0;have b1:=ka2 _ _ b1;have hmS:∀x,x∈setOf (keys [] fr) ↔ x∈fr:=λx=>by rw[gR,mem_keys];simp
 have hup:=nY (keys [] fr);have hSl:(setOf (keys [] fr)).length<=1000000:=fh (jG hup.nodup λx hx=>(gR.1 hx)) hkl;generalize setOf (keys [] fr)=Sx at ho hmS hup hSl
 have on:bB eW 51 Y r Sx:=by
  rcases ho with h0 | ⟨j,-,h1,h2⟩
  ·exact .inl h0
  ·exact .inr ⟨j,Sx.map row,false,h1,h2,vU Sx⟩
 have lr:=nD hl.iI rfl on.ls;simp only[KP,↓reduceIte,reduceLT,lr];refine kpick hSl on b0 b1 _ ?_ ?_ ?_ ?_ ?_ ?_ ?_ _ _ (λF1 τ1 w p left q0 q7 q8 q9 ow c0 c1 bs=>?_)
 ·simp +decide only[GS]
 ·simp +decide only[GS]
 ·simp +decide only[GS]
 ·simp +decide only[GS]
 ·simp +decide only[GS]
 ·simp +decide only[GS]
 ·simp +decide only[GS]
 rcases bs with⟨rfl,rfl,hno⟩ | ⟨j,x0,d,hj,hx0,hd,rfl,rfl,hmin⟩
 ·have hgt:decide ((0:Int) < -1)=false:=rfl;obtain⟨v',f1,iv⟩:=uO hl ow;rw[PO];subst hBB;simp only[aA,Tryz.f34,KP,reduceNeg,cutAt];rw[aG];simp only[KP,Ax.loadAt,↓reduceIte,reduceEqDiff,reduceLT,Int.reduceLT,reduceNeg,h.mB,q8,q9,c1,f1]
  exact⟨D,Sx,[],dd,iv,hup,hmS,.inl ⟨rfl,λx hx=>by
   obtain⟨j,hj⟩:=gv.1 hx;exact hno j x (AI.1 hj).1 hj⟩⟩
 ·rw[PO];simp only[KP];refine kwalk dd hd ow c0 c1 F1 q0 q7 q8 q9 _ _ (λF2 τ2 w' p p8 ow2 hpl hp0 wy=>?_);obtain⟨v',f1,iv⟩:=uO hl ow2;rw[PO];simp only[KP,↓reduceIte,reduceLT,p8,f1];exact⟨D,Sx,p,dd,iv,hup,hmS,.inr ⟨j,x0,d,hx0,hd,λj' x e hj' he=>hmin j' x e (AI.1 hj').1 hj' he,hpl,hp0,wy⟩⟩
end
end
section
section
variable {E:Env}{Z:Sg}{K:V->Sg->Prop}
structure Way (rs:List aD) (p:List aC):Prop where
 ne:p≠[]
 all:∀x∈p,x∈eE rs
 nx:∀(i:Nat) (y x:aC),p[i]?=some y->p[i+1]?=some x->x∈bH rs y
theorem W_ (h:bE E)(h':oF E)(hl:Lb.bY E) (q:yF E) (tr:Ak E) {g:V}{rs:List aD}(hg:BL E rs g)(hf:Fits rs) {a:V}{p:List aC}(ha:LS eW 51 Z a p)(hp:p.length<=1000000):aB E 40 [g,a] Z λv σ'=>σ'=Z/\∃b:Bool,v=.bool b/\(b=true ↔ Way rs p):=by
 obtain⟨a',ea,ia⟩:=iZ h ha;have e1:=cJ (Z:=Z) (ty:=E.ty) hg.bD (bV hg.bD);have d4:=tr.acm;simp only[aA,Tryz.f40,cutAt,aq]at d4;rw[aI tr.hs40 tr.sp40 tr.fn40 tr.md40 (args':=[g,a']) (by simp only[aX,e1,ea]),aW (by kernel_rfl)];have la:=lC h ia;simp only[aA,Tryz.f40,KP,↓reduceIte,reduceEqDiff,reduceLT,reduceAdd,la];refine aV (λi F Y=>F.get 0=g/\F.get 1=a'/\F.get 7=a'/\F.get 8=.int .i64 (p.length:Int)/\F.get 9=.int .i64 (i:Int)/\(∀(j:Nat) (x:aC),j<i->p[j]?=some x->x∈eE rs)/\∀(j:Nat) (y x:aC),j+1<i->p[j]?=some y->p[j+1]?=some x->x∈bH rs y) p.length ?_ ?_ p.length 0 _ _ (by omega) (iT (by simp +decide only[GS,aj]) ⟨λj x hj=>by omega,λj y x hj=>by omega⟩)
 ·rintro i F Y hi ⟨g0,g1,g7,g8,g9,hall,hnx⟩ next
  obtain⟨x,hx⟩:∃x,p[i]?=some x:=⟨_,AT hi⟩;obtain⟨gi,e1⟩:=oK h ia hx;have hlt:=dP hi;have hadd:=bW i (by omega);have kk:=λ(Y:Sg)=>dD λK=>GU (Z:=Y) (K:=K) h h' hl q hg hf x
  have hstep:x∈eE rs->∀(j:Nat) (z:aC),j<i+1->p[j]?=some z->z∈eE rs:=λhxa j z hj hz=>by
   rcases cj j i with g | g
   ·exact hall j z g hz
   ·obtain rfl:j=i:=by omega
    rw[hx]at hz;cases hz;exact hxa
  rw[aG];by_cases hxa:x∈eE rs
  ·have hkd:=GB hxa;generalize kindOf rs x=kd at kk hkd;have hkd:decide (kd=0)=false:=AS hkd;by_cases hi0:i=0
   ·have hgt:decide ((0:Int)<(i:Int))=false:=AS (by omega);simp only[KP,Ax.loadAt,Ax.storeAt,↓reduceIte,reduceEqDiff,reduceLT,reduceAdd,reduceCtorEq,h.cE,g0,g7,g8,g9,hlt,e1,kk,hkd,hgt,hadd,aL,bR,aT d4,bK];exact next _ _ (iT (by simp +decide only[GS,g0,g1,g7,g8,aj]) ⟨hstep hxa,λj y z hj=>by omega⟩)
   ·obtain⟨y,hy⟩:∃y,p[i-1]?=some y:=⟨_,AT (by omega)⟩;obtain⟨gj,e2⟩:=oK h ia hy;have hgt:decide ((0:Int)<(i:Int))=true:=BY (by omega);have hw1:wr .i64 ((i:Int)-1)=((i-1:Nat):Int):=by rw[Ci _ (by omega) (by omega)];omega
    simp only[KP,Ax.loadAt,Ax.storeAt,↓reduceIte,reduceEqDiff,reduceLT,reduceAdd,reduceCtorEq,h.cE,g0,g1,g7,g8,g9,hlt,e1,e2,kk,hkd,hgt,hw1,aL,bR,aT d4,bK];refine aN (vR h h' hl q hg hf y) ?_;rintro v τ' ⟨e,hv⟩;subst e;have hvi:=hv.UC.is;have hdl:(bH rs y).length<=2000:=fh (jG (vA rs y).nodup λx hx=>zK y x hx) (qH hf);have kc:=λ(Y:Sg)=>dD λK=>Ud (Z:=Y) (K:=K) (s:=x) h hl tr (hvi.ls Y 51) (by omega);by_cases hxn:x∈bH rs y
    ·rw[BY hxn]at kc;simp only[KP,Ax.loadAt,↓reduceIte,reduceEqDiff,reduceLT,reduceAdd,h.cE,g9,kc,hadd,aL];refine next _ _ (iT (by simp +decide only[GS,g0,g1,g7,g8,aj]) ⟨hstep hxa,λj y' z hj hy' hz=>?_⟩)
     rcases cj (j+1) i with g | g
     ·exact hnx j y' z g hy' hz
     ·obtain rfl:i=j+1:=by omega
      rw[o5,hy']at hy;cases hy;rw[hx]at hz;cases hz;exact hxn
    ·rw[AS hxn]at kc;simp only[KP,Ax.loadAt,↓reduceIte,reduceEqDiff,reduceLT,reduceAdd,h.cE,kc,aL,cG,aU];exact⟨false,rfl,⟨λe=>(by cases e),λhw=>absurd (hw.nx (i-1) y x hy (by rw[Nat.sub_add_cancel (by omega)];exact hx)) hxn⟩⟩
  ·have hkd:=Dl hxa;rw[hkd]at kk;simp only[KP,Ax.loadAt,Ax.storeAt,↓reduceIte,reduceEqDiff,reduceLT,reduceAdd,reduceCtorEq,h.cE,g0,g7,g8,g9,hlt,e1,kk,aL,bR,aT d4,bK];exact⟨false,rfl,⟨λe=>(by cases e),λhw=>absurd (hw.all x (ag hx)) hxa⟩⟩
 ·rintro F Y ⟨g0,g1,g7,g8,g9,hall,hnx⟩;have hlt:=dZ (bl p.length);rw[aG];by_cases h0:p.length=0
  ·have hgt:decide ((0:Int)<(p.length:Int))=false:=AS (by omega);simp only[KP,↓reduceIte,reduceEqDiff,reduceLT,g1,g8,g9,hlt,la,hgt,cG,aU];exact⟨false,rfl,⟨λe=>(by cases e),λhw=>absurd (ik.1 h0) hw.ne⟩⟩
  ·have hgt:decide ((0:Int)<(p.length:Int))=true:=BY (by omega);simp only[KP,↓reduceIte,reduceEqDiff,reduceLT,g1,g8,g9,hlt,la,hgt,cG,aU]
   exact⟨true,rfl,⟨λ_=>⟨λe=>h0 (by rw[e];rfl),λx hx=>by
    obtain⟨j,hj⟩:=gv.1 hx;exact hall j x (AI.1 hj).1 hj,λj y x hy hx=>hnx j y x (AI.1 hx).1 hy hx⟩,λ_=>rfl⟩⟩
end
end
section
section
variable {E:Env}{Z:Sg}{K:V->Sg->Prop}
theorem sZ {rs:List aD}{n:bC}{y:aC}(h:y∈bH rs (true,n)):∃r∈rs,r.name=n/\∃f∈r.ins,y=(false,f):=by
 obtain⟨r,hr,⟨f,hf,e⟩ | ⟨f,hf,e⟩⟩:=Fb.1 (nC.1 h)
 ·cases e;exact⟨r,hr,rfl,f,hf,rfl⟩
 ·cases e
theorem zJ {rs:List aD}{f:bC}{y:aC}(h:y∈bH rs (false,f)):∃r∈rs,f∈r.outs/\y=(true,r.name):=by
 obtain⟨r,hr,⟨g,hg,e⟩ | ⟨g,hg,e⟩⟩:=Fb.1 (nC.1 h)
 ·cases e
 ·cases e;exact⟨r,hr,hg,rfl⟩
end
end
section
section
variable {E:Env}{Z:Sg}{K:V->Sg->Prop}
def KO (rs:List aD):Nat->aC->aC->Prop
 |0,x,y=>x=y
 |n+1,x,y=>∃z,z∈bH rs x/\KO rs n z y
theorem KO.snoc {rs:List aD}:∀{n:Nat}{x y z:aC},KO rs n x y->z∈bH rs y->KO rs (n+1) x z
 |0,_,_,z,h,hz=>⟨z,by rw[show _=_ from h];exact hz,rfl⟩
 |n+1,_,_,_,⟨u,hu,h⟩,hz=>⟨u,hu,KO.snoc h hz⟩
theorem ML {rs:List aD}(hf:Fits rs) {i:Nat}{p:aD}(hp:rs[i]?=some p) {y z:aC}(h1:y∈bH rs (true,p.name))(h2:z∈bH rs y):∃k r,rs[k]?=some r/\z=(true,r.name)/\iO rs false i k=true:=by
 obtain⟨r0,hr0,hn0,f,hfi,rfl⟩:=sZ h1;obtain rfl:=MU hf hr0 (ag hp) hn0;obtain⟨r1,hr1,hfo,rfl⟩:=zJ h2;obtain⟨k,hk⟩:=oC (p:=λr:aD=>decide (f∈r.outs)) hr1 (BY hfo);obtain⟨r,hr,hro⟩:=iE hk;have hro:=ej hro;have hn:=(tJ hf.ok.1).short.jP f r.name r1.name ⟨r,ag hr,hro,rfl⟩ ⟨r1,hr1,hfo,rfl⟩;refine⟨k,r,hr,by rw[hn],?_⟩;unfold iO;rw[hp];unfold wF;rw[fl];exact .inl (fg.2 ⟨f,hfi,BY hk⟩)
theorem Si {rs:List aD}(hf:Fits rs) (n:Nat):∀{i:Nat}{p:aD}{m:bC},rs[i]?=some p->KO rs n (true,p.name) (true,m)->n=0\/∃k r,rs[k]?=some r/\r.name=m/\AxS.Way (iO rs false) i k:=by
 induction n using Nat.strongRecOn with
 |_ n ih=>
  intro i p m hp h
  match n,h with
  |0,_=>exact .inl rfl
  |1,⟨z,hz,hzm⟩=>
   obtain⟨r,-,-,f,-,rfl⟩:=sZ hz;cases hzm
  |n+2,⟨y,hy,z,hz,h⟩=>
   obtain⟨k,r,hr,rfl,hn⟩:=ML hf hp hy hz;rcases ih n (by omega) hr h with rfl | ⟨k',r',h1,h2,h3⟩
   ·cases h;exact .inr ⟨k,r,hr,rfl,.one hn⟩
   ·exact .inr ⟨k',r',h1,h2,.cons hn h3⟩
theorem Sn {rs:List aD}(hf:Fits rs) {n:Nat}{x:aC}(h:KO rs (n+1) x x):False:=by
 have hnd:(rs.map aD.name).Nodup:=vB (tJ hf.ok.1).short.nodup
 have key:∀(n:Nat) (p:aD),p∈rs->KO rs (n+1) (true,p.name) (true,p.name)->False:=λn p hp h=>by
  obtain⟨i,hi⟩:=gv.1 hp;rcases Si hf (n+1) hi h with h0 | ⟨k,r,hr,hrn,hw⟩
  ·omega
  ·have hik:i=k:=by
    have h1:(rs.map aD.name)[i]?=some p.name:=by rw[jr,hi];rfl
    have h2:(rs.map aD.name)[k]?=some p.name:=by rw[jr,hr,<- hrn];rfl
    obtain⟨hil,e1⟩:=AI.1 h1;obtain⟨hkl,e2⟩:=AI.1 h2;exact (List.getElem_inj hnd).1 (e1.trans e2.symm)
   subst hik;exact hf.ok.2 ⟨i,(AI.1 hi).1,hw⟩
 obtain⟨z,hz,hzx⟩:=h;obtain⟨b,s⟩:=x;cases b with
 |true=>
  obtain⟨r,hr,rfl,-⟩:=sZ hz;exact key n r hr ⟨z,hz,hzx⟩
 |false=>
  obtain⟨r,hr,-,rfl⟩:=zJ hz;exact key n r hr (hzx.snoc hz)
theorem Way.pth {rs:List aD}{p:List aC}(h:Way rs p):∀(n i:Nat) {y z:aC},p[i]?=some y->p[i+n]?=some z->KO rs n y z
 |0,i,y,z,hy,hz=>by rw[lg,hy]at hz;cases hz;rfl
 |n+1,i,y,z,hy,hz=>by
  obtain⟨u,hu⟩:∃u,p[i+1]?=some u:=⟨_,AT (by have:=(AI.1 hz).1;omega)⟩;exact⟨u,h.nx i y u hy hu,h.pth n (i+1) hu (by rw[show i+1+n=i+(n+1) by omega];exact hz)⟩
theorem Way.take {rs:List aD}{p:List aC}(h:Way rs p) (k:Nat):Way rs (p.take (k+1)):=by
 refine⟨λe=>?_,λx hx=>h.all x (ji hx),λi y x hy hx=>?_⟩
 ·have:=au List.length e;rw[bw,b9]at this;have:=iy.2 h.ne;omega
 ·have hl:=(AI.1 hx).1;rw[bw]at hl;rw[gh (by omega)]at hy hx;exact h.nx i y x hy hx
theorem Way.drop {rs:List aD}{p:List aC}(h:Way rs p) {k:Nat}(hk:k<p.length):Way rs (p.drop k):=by
 refine⟨λe=>?_,λx hx=>h.all x (List.mem_of_mem_drop hx),λi y x hy hx=>?_⟩
 ·have:=au List.length e;rw[qi,b9]at this;omega
 ·rw[mc]at hy hx;exact h.nx (k+i) y x hy (by rw[show k+i+1=k+(i+1) by omega];exact hx)
theorem Way.bN {rs:List aD}{p:List aC}(h:Way rs p) {c:aC}(hc:p[p.length-1]?=some c):∀(n i:Nat) {y:aC},i+n+1=p.length->p[i]?=some y->Rk (gC rs) (λx=>x∈[c]/\x∈eE rs) n y
 |0,i,y,hl,hy=>by
  rw[show p.length-1=i by omega,hy]at hc;cases hc;exact⟨cn.2 rfl,h.all _ (ag hy)⟩
 |n+1,i,y,hl,hy=>by
  obtain⟨u,hu⟩:∃u,p[i+1]?=some u:=⟨_,AT (by omega)⟩;exact .inr ⟨u,h.bN hc n (i+1) (by omega) hu,(E4 u y).1 (h.nx i y u hy hu)⟩
theorem TG {rs:List aD}{ls:List aC}{D:List (aC × Nat)} (dd:D_ rs ls D) {x:aC}{d:Nat}(hd:kZ D x=some d):x∈eE rs:=
 Rk.sub (P:=λx=>x∈eE rs) (λ_ hx=>hx.2) (λy x hx=>Hg y x hx) d ((dd.is x d).1 hd).1
structure Told (rs:List aD) (a b:aC) (p:List aC):Prop where
 way:p≠[]->Way rs p/\p[0]?=some a/\p[p.length-1]?=some b
 short:∀w,Way rs w->w[0]?=some a->w[w.length-1]?=some b->p.length<=w.length
 some:∀w,Way rs w->w[0]?=some a->w[w.length-1]?=some b->p≠[]
theorem RQ {rs:List aD}{a b:aC}{D:List (aC × Nat)}{Sx p:List aC} (dd:D_ rs [b] D)(hS:∀x,x∈Sx ↔ x∈[a])(h:UM rs D Sx p):Told rs a b p:=by
 have hnear:∀w,Way rs w->w[0]?=some a->w[w.length-1]?=some b->∃d,d+1<=w.length/\kZ D a=some d:=λw hw ha hb=>by
  have hl:=iy.2 hw.ne;obtain⟨d,hd,hi⟩:=FP.some (hw.bN hb (w.length-1) 0 (by omega) ha);exact⟨d,by omega,(dd.is a d).2 hi⟩
 rcases h with⟨rfl,hno⟩ | ⟨j,x0,d,hj,hx0,hmin,hpl,hp0,wy⟩
 ·refine⟨λe=>absurd rfl e,λw hw ha hb=>ij _,λw hw ha hb=>?_⟩;obtain⟨d,-,hd⟩:=hnear w hw ha hb;rw[hno a ((hS a).2 (cn.2 rfl))]at hd;cases hd
 ·have hxa:x0=a:=cn.1 ((hS x0).1 (ag hj));subst hxa;have hne:p≠[]:=λe=>by rw[e]at hpl;simp at hpl
  refine⟨λ_=>⟨⟨hne,λx hx=>?_,λi y x hy hx=>?_⟩,hp0,?_⟩,λw hw ha hb=>?_,λ_ _ _ _=>hne⟩
  ·obtain⟨i,hi⟩:=gv.1 hx;exact TG dd (wy.bN i x hi).2
  ·obtain⟨m,-,hm⟩:=wy.nx i y x hy hx;exact ag hm
  ·obtain⟨z,hz⟩:∃z,p[p.length-1]?=some z:=⟨_,AT (by omega)⟩;have h0:=(wy.bN _ z hz).2;rw[show d-(p.length-1)=0 by omega]at h0;have h1:z∈[b]:=((dd.is z 0).1 h0).1.1;rw[hz,cn.1 h1]
  ·obtain⟨e,he,hd⟩:=hnear w hw ha hb;rw[hx0]at hd;cases hd;omega
end
end
section
section
variable {E:Env}{Z:Sg}{K:V->Sg->Prop}
theorem Way.nodup {rs:List aD}(hf:Fits rs) {p:List aC}(h:Way rs p):p.Nodup:=by
 rw[List.nodup_iff_pairwise_ne,List.pairwise_iff_getElem];intro i j hi hj hij e;have h1:=h.pth (j-i) i (y:=p[i]) (z:=p[j]) (AT hi) (by rw[Nat.add_sub_cancel' (Nat.le_of_lt hij)];exact AT hj);rw[<- e,show j-i=(j-i-1)+1 by omega]at h1;exact Sn hf h1
theorem Way.len {rs:List aD}(hf:Fits rs) {p:List aC}(h:Way rs p):p.length<=2000:=fh (jG (h.nodup hf) h.all) (qH hf)
theorem Way.one {rs:List aD}{x:aC}(hx:x∈eE rs):Way rs [x]:=⟨by simp,λy hy=>by rw[cn.1 hy];exact hx,λi y z hy hz=>by
 have:=(AI.1 hz).1;rw[dm]at this;omega⟩
theorem Way.cons {rs:List aD}{x y:aC}{p:List aC}(hx:x∈eE rs)(h:Way rs p)(h0:p[0]?=some y)(hy:y∈bH rs x):Way rs (x::p):=⟨by simp,λz hz=>by
 rcases IT.1 hz with rfl | hz
 ·exact hx
 ·exact h.all z hz,λi u v hu hv=>by
 cases i with
 |zero=>cases hu;rw[ck,h0]at hv;cases hv;exact hy
 |succ i=>exact h.nx i u v hu hv⟩
theorem HR {rs:List aD}:∀(n:Nat) {x y:aC},x∈eE rs->KO rs n x y->∃w,Way rs w/\w[0]?=some x/\w.length=n+1
 |0,x,_,hx,_=>⟨[x],.one hx,rfl,rfl⟩
 |n+1,x,y,hx,⟨z,hz,h⟩=>by
  obtain⟨w,h1,h2,h3⟩:=HR n (zK x z hz) h;exact⟨x::w,h1.cons hx h2 hz,rfl,by rw[af,h3]⟩
open Classical in
noncomputable def Hr (p:Nat->Prop):Nat->Nat
 |0=>0
 |n+1=>if p (n+1) then n+1 else Hr p n
theorem K2 (p:Nat->Prop):∀n,Hr p n<=n
 |0=>OF _
 |n+1=>by
  unfold Hr;split
  ·exact OF _
  ·exact Nat.le_succ_of_le (K2 p n)
theorem K3 {p:Nat->Prop}(h0:p 0):∀n,p (Hr p n)
 |0=>h0
 |n+1=>by
  unfold Hr;split
  ·rename_i h;exact h
  ·exact K3 h0 n
theorem Hq {p:Nat->Prop}{m:Nat}(hm:p m):∀n,m<=n->m<=Hr p n
 |0,h=>h
 |n+1,h=>by
  unfold Hr;split
  ·exact h
  ·rename_i hn;refine Hq hm n (Nat.lt_succ_iff.1 (Nat.lt_of_le_of_ne h λe=>?_));rw[e]at hm;exact hn hm
noncomputable def deep (rs:List aD) (x:aC):Nat:=Hr (λn=>∃y,KO rs n x y) 2000
theorem Cg (rs:List aD) (x:aC):deep rs x<=2000:=K2 _ _
theorem AN {rs:List aD}{x y:aC}(hy:y∈bH rs x):x∈eE rs:=(Gl (nC.1 hy)).1
theorem GM {rs:List aD}(hf:Fits rs) {x y:aC}(hy:y∈bH rs x):deep rs y<deep rs x:=by
 have h0:∃z,KO rs (deep rs y) y z:=K3 (p:=λn=>∃z,KO rs n y z) ⟨y,rfl⟩ 2000;obtain⟨z,hz⟩:=h0;have h1:KO rs (deep rs y+1) x z:=⟨y,hy,hz⟩;obtain⟨w,h2,-,h3⟩:=HR _ (AN hy) h1;have:=h2.len hf;exact Hq (p:=λn=>∃z,KO rs n x z) ⟨z,h1⟩ 2000 (by omega)
def lS (ok:aC->Bool) (nx:aC->List aC) (b:aC) (many:Nat):Nat->List aC->aC->List (List aC)->List (List aC)
 |0,_,_,out=>out
 |d+1,p,x,out=>if ok x=false\/many<=out.length then out else if x=b then out++[p] else (nx x).foldl (λout y=>lS ok nx b many d (p++[y]) y out) out
theorem Fq {α:Type}{f:List α->aC->List α}{M:Nat}(h:∀o y,o.length<=M->(f o y).length<=M):∀(l:List aC) (o:List α),o.length<=M->(l.foldl f o).length<=M
 | [],o,ho=>ho
 |y::l,o,ho=>Fq h l _ (h o y ho)
theorem EB (ok:aC->Bool) (nx:aC->List aC) (b:aC) (many:Nat):∀(d:Nat) (p:List aC) (x:aC) (out:List (List aC)),out.length<=many->(lS ok nx b many d p x out).length<=many
 |0,_,_,_,h=>h
 |d+1,p,x,out,h=>by
  unfold lS;split
  ·exact h
  ·rename_i hn;split
   ·rw[By,dm];omega
   ·exact Fq (λo y ho=>EB ok nx b many d _ y o ho) _ _ h
end
end
end Go.Proofs.YtmbikbgdbbcbmaaGreatDoor
end
section
namespace Go.Ax
open Go
section
section
variable (P:Program) (E:Env)
def mT (code:Code) (fr:Fr) (Z:Sg) (Q:X->Fr->Sg->Prop):Prop:=∀(c:Cx) (a:Act),SR E c->c.Z=Z->FR c fr a.tmps->a.defers=[]->code.wp P (vW E c Q) a c.w
def Um (code:Code) (fr:Fr) (Z:Sg) (Q:X->Fr->Sg->Prop):Prop:=∀(c:Cx) (a:Act),SR E c->c.Z=Z->FR c fr a.tmps->a.defers=[]->∀c0,Ext c0 c->Ah P code (vW E c0 Q) a c.w
def qV (f:Nat) (args:List V) (Z:Sg) (R:V->Sg->Prop):Prop:=∀(c:Cx) (xs:List Value),SR E c->c.Z=Z->fD c args xs->sE P f xs c.w λx w'=>∃v σ',R v σ'/\jI E c v σ' x w'
def sD (ops:Array Oper) (l:List Nat) (fr:Fr) (Z:Sg) (Q:Fr->Sg->Prop):Prop:=∀(c:Cx) (a:Act),SR E c->c.Z=Z->FR c fr a.tmps->a.defers=[]->∀c0,Ext c0 c->wpOps P ops (vW E c0 λx fr Z=>x=.normal/\Q fr Z) l a c.w
end
section
variable {P:Program}{E:Env}{fr:Fr}{Z:Sg}{Q Q1:X->Fr->Sg->Prop}
theorem t_ (he:cB P E)(hfs:fR P E)(hmix:P.follows .mixedOrders=true) {code:Code}(h:R E code [] fr Z Q):mT P E code fr Z Q:=by
 obtain⟨n,x,fr',σ',h1,h2⟩:=h;exact λc a hs hσ hf hd=>wp_mono ((rT he hfs hmix n).1 _ _ _ _ _ _ h1 c a hs hσ hf hd) λe a w hp=>⟨x,fr',σ',h2,hp⟩
theorem CP {code:Code}(h:mT P E code fr Z Q1)(hq:∀x fr Z,Q1 x fr Z->Q x fr Z):mT P E code fr Z Q:=λc a h1 h2 h3 h4=>wp_mono (h c a h1 h2 h3 h4) λe a w ⟨x,fr,Z,k,p⟩=>⟨x,fr,Z,hq _ _ _ k,p⟩
theorem nN {a b:Code} (Q1:X->Fr->Sg->Prop)(h1:mT P E a fr Z Q1)(h2:∀x fr Z,Q1 x fr Z->x≠.normal->Q x fr Z)(h3:∀fr Z,Q1 .normal fr Z->mT P E b fr Z Q):mT P E (.seq a b) fr Z Q:=λc act hs hσ hf hd=>by
 refine _root_.Go.wp_seq (wp_mono (h1 c act hs hσ hf hd) ?_);rintro e a1 w1 ⟨x,fr1,σ1,hq,hx1,hd1,c',rfl,hσ1,k1,k2,k3⟩;cases x with
 |normal=>
  cases hx1;exact wp_mono (h3 _ _ hq c' a1 k2 hσ1 k3 hd1) λe a w hp=>hp.trans k1
 |exit id=>cases hx1;exact⟨.exit id,fr1,σ1,h2 _ _ _ hq (by simp),rfl,hd1,c',rfl,hσ1,k1,k2,k3⟩
 |ret=>cases hx1;exact⟨.ret,fr1,σ1,h2 _ _ _ hq (by simp),rfl,hd1,c',rfl,hσ1,k1,k2,k3⟩
theorem Ls {o:Operand}{a b:Code}(hx:aR fr o=some (.bool true))(h:mT P E a fr Z Q):mT P E (.cond o a b) fr Z Q:=λc act hs hσ hf hd=>wp_cond_true (aK hf hx).gH (h c act hs hσ hf hd)
theorem VH {o:Operand}{a b:Code}(hx:aR fr o=some (.bool false))(h:mT P E b fr Z Q):mT P E (.cond o a b) fr Z Q:=λc act hs hσ hf hd=>wp_cond_false (aK hf hx).gH (h c act hs hσ hf hd)
theorem ER {id:Nat}{code:Code} (Q1:X->Fr->Sg->Prop)(h1:mT P E code fr Z Q1)(h2:∀x fr Z,Q1 x fr Z->x≠.exit id->Q x fr Z)(h3:∀fr Z,Q1 (.exit id) fr Z->Q .normal fr Z):mT P E (.block id code) fr Z Q:=λc act hs hσ hf hd=>by
 refine _root_.Go.wp_block (wp_mono (h1 c act hs hσ hf hd) ?_);rintro e a1 w1 ⟨x,fr1,σ1,hq,hx1,hp⟩;cases x with
 |normal=>cases hx1;exact⟨.normal,fr1,σ1,h2 _ _ _ hq (by simp),rfl,hp⟩
 |ret=>cases hx1;exact⟨.ret,fr1,σ1,h2 _ _ _ hq (by simp),rfl,hp⟩
 |exit id'=>
  cases hx1;simp only[Exit.inBlock];split
  ·rename_i heq;subst heq;exact⟨.normal,fr1,σ1,h3 _ _ hq,rfl,hp⟩
  ·rename_i heq;exact⟨.exit id',fr1,σ1,h2 _ _ _ hq (λh=>heq (by injection h)),rfl,hp⟩
theorem O_ {code:Code}(h:Um P E code fr Z Q):mT P E (.loop code) fr Z Q:=λc act hs hσ hf hd=>G6 (h c act hs hσ hf hd c (Ext.refl c))
theorem EO {code:Code} (Q1:X->Fr->Sg->Prop)(h1:mT P E code fr Z Q1)(h2:∀x fr Z,Q1 x fr Z->x≠.normal->Q x fr Z)(h3:∀fr Z,Q1 .normal fr Z->Um P E code fr Z Q):Um P E code fr Z Q:=λd act hs hσ hf hd c0 hx=>by
 refine Ii (wp_mono (h1 d act hs hσ hf hd) ?_);rintro e a1 w1 ⟨x,fr1,σ1,hq,hx1,hd1,c',rfl,hσ1,k1,k2,k3⟩;cases x with
 |normal=>
  cases hx1;exact h3 _ _ hq c' a1 k2 hσ1 k3 hd1 c0 (hx.trans k1)
 |exit id=>cases hx1;exact⟨.exit id,fr1,σ1,h2 _ _ _ hq (by simp),rfl,hd1,c',rfl,hσ1,hx.trans k1,k2,k3⟩
 |ret=>cases hx1;exact⟨.ret,fr1,σ1,h2 _ _ _ hq (by simp),rfl,hd1,c',rfl,hσ1,hx.trans k1,k2,k3⟩
theorem EP (he:cB P E)(hfs:fR P E) {f:Nat}{F:Fn}(hF:E.fn f=some F) {args:List V}{R:V->Sg->Prop}{fr0:Fr}(hfr0:Fr.init F.ntmps args=some fr0)
  (h:mT P E F.code fr0 Z λx fr Z=>(x=.normal\/x=.ret)/\∃vs,results E fr Z F.results=some vs/\R (match vs with | [v]=>v | vs=>.fM vs) Z):qV P E f args Z R:=λc xs hs hσ hv=>by
 refine (qY hfs hF (R:=λx w'=>∃v σ',R v σ'/\jI E c v σ' x w') ?_);obtain⟨fn,h1,h2,h3,h4,h5⟩:=hfs.fn f F hF;refine calls_of_wp h1 h2 ?_
 have:=h c { tmps:=xs.toArray++Array.replicate (fn.ntmps-xs.toArray.size) undef,defers:=[] } hs hσ (by
  have:=FR.init hv hfr0;simpa [h3]using this) rfl
 refine wp_mono this ?_;rintro e a w ⟨x,fr1,σ1,⟨hq1,us,hu,hR⟩,hx,hd,c',rfl,rfl,k1,k2,k3⟩
 have fin:a.defers=[]/\∃v',(Go.results fn a.tmps).run P c'.w=.ok v' c'.w/\∃x,Ending.returned v'=.returned x/\∃v σ',R v σ'/\jI E c v σ' x c'.w:=by
  refine⟨hd,?_⟩;obtain⟨ys,g1,g2⟩:=jL he k2 k3 hu
  have run:∀v',(if h:ys.toArray.size=1 then ys.toArray[0] else .tuple ys.toArray)=v'->(Go.results fn a.tmps).run P c'.w=.ok v' c'.w:=by
   rintro v' rfl;rw[sS,o8,h4];simp only[Sem.run_bind,Sem.run_map];rw[g1];simp
  cases g2 with
  |nil=>exact⟨_,run _ rfl,_,rfl,_,_,hR,c',rfl,rfl,k1,k2,.fM [] [] .nil⟩
  |cons u y us ys hy hr=>
   cases hr with
   |nil=>exact⟨y,run _ (by simp),_,rfl,_,_,hR,c',rfl,rfl,k1,k2,hy⟩
   |cons u' y' us ys hy' hr=>
    refine⟨.tuple (y::y'::ys).toArray,run _ ?_,_,rfl,_,_,hR,c',rfl,rfl,k1,k2,.fM _ _ (.cons _ _ _ _ hy (.cons _ _ _ _ hy' hr))⟩;rw[dif_neg (by simp)]
 rcases hq1 with rfl | rfl
 ·cases hx;exact fin
 ·cases hx;exact fin
variable {ops:Array Oper}{l:List Nat}{QO:Fr->Sg->Prop}
theorem CQ (h:QO fr Z):sD P E ops [] fr Z QO:=λc a hs hσ hf hd c0 hx=>⟨.normal,fr,Z,⟨rfl,h⟩,rfl,hd,c,rfl,hσ,hx,hs,hf⟩
theorem Gg {i:Nat}{o:Oper}(ho:ops[i]?=some o)(hw:cA ops o fr=true) (S:V->Sg->Prop)
  (hop:∀(c:Cx) (a:Act),SR E c->c.Z=Z->FR c fr a.tmps->∀(next:Act->World->Prop) (Q':Exit->Act->World->Prop),(∀x w' v σ',S v σ'->jI E c v σ' x w'->next (a.put o.dst x) w')->o.wp P a c.w next Q')
  (h:∀v σ',S v σ'->sD P E ops l (cT fr o.dst v) σ' QO):sD P E ops (i::l) fr Z QO:=λc a hs hσ hf hd c0 hx=>by
 simp only[wpOps,ho];rw[Cq hf,az hw]
 left
 refine hop c a hs hσ hf _ _ ?_;rintro x w' v σ' hS ⟨c',rfl,hσ',k1,k2,k3⟩;exact h v σ' hS c' (a.put o.dst x) k2 hσ' (FR.put (FR.mono k1 hf) k3 o.dst) (by rw[put_defers];exact hd) c0 (hx.trans k1)
theorem pM (he:cB P E)(hfs:fR P E)(hmix:P.follows .mixedOrders=true) {n i:Nat}{frz:Fz}{o:Oper}{v:V}{σ1:Sg}(ho:ops[i]?=some o)(hw:cA ops o fr=true)(hv:lG E (ev E n) frz o.op fr Z=some (v,σ1))
  (h:sD P E ops l (cT fr o.dst v) σ1 QO):sD P E ops (i::l) fr Z QO:=
 Gg ho hw (λu Y=>u=v/\Y=σ1) (λc a hs hσ hf next Q' hn=>CZ he hfs (rT he hfs hmix n).1 hs hf (by rw[hσ];exact hv) λx w' hb=>hn x w' v σ1 ⟨rfl,rfl⟩ hb) (by rintro u Y ⟨rfl,rfl⟩;exact h)
theorem ES {i k:Nat}{o:Oper}{f:Operand}{args:Array Operand}{ats:Array Nat}{first cap l':List V}{R:V->Sg->Prop}(ho:ops[i]?=some o)(hop:o.op=.call { callee:=.value f,args:=args,argTypes:=ats })(hw:cA ops o fr=true)
  (hf0:aR fr f=some (.fn k first cap))(ha:eH fr args.toList=some l')(hc:qV P E k (first++l'++cap) Z R)(h:∀v σ',R v σ'->sD P E ops l (cT fr o.dst v) σ' QO):sD P E ops (i::l) fr Z QO:=by
 refine Gg ho hw R (λc a hs hσ hf next Q' hn=>?_) h;have hfv:=aK hf hf0;obtain⟨xs,ys,hx,h1,h2⟩:=hfv.AX;have h3:=jE hf ha;have hrun:=hc c _ hs hσ ((h1.append h3).append h2)
 have hex:(execOp a.eval o).run P c.w=(callFunc k (xs++List.map a.eval args.toList++ys).toArray).run P c.w:=by
  have e:xs.toArray++Array.map a.eval args++ys.toArray=(xs++List.map a.eval args.toList++ys).toArray:=by apply pq;simp
  simp only[execOp,hop,resolve,hx,Deferred.ofValue,invoke,Sem.run_bind,Sem.run_pure,Result.andThen_ok,e]
 unfold Oper.wp;rw[hex];rcases hrun with⟨r1,r2⟩ | ⟨x,w',r1,r2⟩
 ·rw[r1,Oper.upon_enter];refine r2.mono ?_;rintro e w' ⟨x,rfl,v,σ',hR,hb⟩;exact hn _ _ v σ' hR hb
 ·rw[r1];obtain⟨v,σ',hR,hb⟩:=r2;exact hn _ _ v σ' hR hb
theorem Pb (he:cB P E) {j st e n b off len:Nat}{o:Oper}{x y:Operand}{ats:Array Nat}{si i:Ty}{cs new:List V}{ex:Bool}{yv:V}(ho:ops[j]?=some o)(hop:o.op=.call { callee:=.builtin .append,args:=#[x,y],argTypes:=ats })(hw:cA ops o fr=true)
  (hx:aR fr x=some (.sl b off len none))(hy:aR fr y=some yv)(hat:ats[0]?=some st)(hsi:E.ty st=some si)(hkd:si.kd=.sl e)(hi:E.ty e=some i)(hpl:eA E ats=true)(hi0:i.size≠0)
  (hel:elems Z i.size yv=some (new,n))(hob:Z[b]?=some (.cells e cs ex))(hle:off+len*i.size<=cs.length)(hrm:roomy (len+n) i.bytes=true)
  (hA:sD P E ops l (cT fr o.dst (.sl b off (len+n) none)) (Z.set b (.cells e (cs.take (off+len*i.size)++new) false)) QO)
  (hB:sD P E ops l (cT fr o.dst (.sl Z.length 0 (len+n) none)) (Z++[.cells e ((cs.drop off).take (len*i.size)++new) false]) QO):sD P E ops (j::l) fr Z QO:=by
 refine Gg ho hw (λv σ'=>(v=.sl b off (len+n) none/\σ'=Z.set b (.cells e (cs.take (off+len*i.size)++new) false))\/(v=.sl Z.length 0 (len+n) none/\σ'=Z++[.cells e ((cs.drop off).take (len*i.size)++new) false])) (λc a hs hσ hf next Q' hn=>?_) ?_
 ·subst hσ;have h1:=aK hf hx;have h2:=aK hf hy;have lift:∀{m:Sem Value}{u:Value}{w':World},m.run P c.w=.ok u w'->(do pure (Next.value (<- m)):Sem Next).run P c.w=.ok (.value u) w':=λh=>by simp[h]
  have key:∀{r:V}{σ':Sg},gI E c ((Builtin.append_ ats o.type #[a.eval x,a.eval y]).run P c.w) r σ'->∃c' u,(execOp a.eval o).run P c.w=.ok (.value u) c'.w/\c'.Z=σ'/\Ext c c'/\SR E c'/\VR c' r u:=by
   rintro r σ' ⟨c',u,g1,g2⟩;refine⟨c',u,?_,g2⟩;simp only[execOp,hop,resolve,invoke,Sem.run_bind,Sem.run_pure,Result.andThen_ok];have e:Array.map a.eval #[x,y] = #[a.eval x,a.eval y]:=by simp
   rw[e];exact lift g1
  rcases KG he hs (ty:=o.type) hat hsi hkd hi hpl hi0 hel hob hle hrm h1 h2 with g | g
  ·obtain⟨c',u,hex,q1,q2,q3,q4⟩:=key g;unfold Oper.wp;rw[hex];exact hn _ _ _ _ (.inl ⟨rfl,rfl⟩) ⟨c',rfl,q1,q2,q3,q4⟩
  ·obtain⟨c',u,hex,q1,q2,q3,q4⟩:=key g;unfold Oper.wp;rw[hex];exact hn _ _ _ _ (.inr ⟨rfl,rfl⟩) ⟨c',rfl,q1,q2,q3,q4⟩
 ·rintro v σ' (⟨rfl,rfl⟩ | ⟨rfl,rfl⟩)
  ·exact hA
  ·exact hB
theorem JR {id:Nat}(h:sD P E ops (List.range ops.size) fr Z λfr Z=>Q .normal fr Z):mT P E (.region id ops false) fr Z Q:=λc a hs hσ hf hd=>
 wp_mono (wp_region (h c a hs hσ hf hd c (Ext.refl c))) (by rintro e a w ⟨x,fr,Z,⟨rfl,hq⟩,p⟩;exact⟨.normal,fr,Z,hq,p⟩)
theorem Pa (hmix:P.follows .mixedOrders=true) {id:Nat}(h:∀t,sD P E ops (Region.linearise .any ops t) fr Z λfr Z=>Q .normal fr Z):mT P E (.region id ops true) fr Z Q:=λc a hs hσ hf hd=>by
 refine wp_mono (wp_region_draw (Q:=vW E c λx fr Z=>x=.normal/\Q .normal fr Z) λt=>?_) (by rintro e a w ⟨x,fr,Z,⟨rfl,hq⟩,p⟩;exact⟨.normal,fr,Z,hq,p⟩);rw[hmix];simp only[Region.schedule,Bool.true_or,bf];exact h t c.drew a (Cx.wM hs) hσ (FR.mono c.kG hf) hd c c.kG
theorem go_sem {J:Array Bool->Fr->Sg->Prop}
  (hsize:∀L fr Z,J L fr Z->L.size=ops.size)
  (hlt:∀i o,ops[i]?=some o->∀e∈o.after.toList,Region.binds .any e=true->e.on<i)
  (hstep:∀L fr Z i o (l:List Nat),J L fr Z->ops[i]?=some o->L[i]?=some false->(∀e∈o.after.toList,Region.binds .any e=true->L[e.on]?=some true)->(∀fr' σ',J (L.setIfInBounds i true) fr' σ'->sD P E ops l fr' σ' QO)->sD P E ops (i::l) fr Z QO)
  (hdone:∀L fr Z,J L fr Z->(∀k,k<ops.size->L[k]?=some true)->QO fr Z):∀(fuel t:Nat) (L:Array Bool) (acc:List Nat),L.size=ops.size->L.toList.count false<=fuel ->
  ∃l,Region.linearise.go .any ops fuel t L acc=acc.reverse++l/\∀fr Z,J L fr Z->sD P E ops l fr Z QO
 |0,t,L,acc,hz,hc=>by
  refine⟨[],by simp[Region.linearise.go],λfr Z hi=>CQ (hdone _ _ _ hi λk hk=>?_)⟩;have hk':k<L.size:=by rw[hz];exact hk
  have h0:false ∉ L.toList:=List.count_eq_zero.1 (by omega);rw[gu hk'];cases hx:L[k] with
  |true=>rfl
  |false=>exact (h0 (by rw[<- hx];simp)).elim
 |fuel+1,t,L,acc,hz,hc=>by
  simp only[Region.linearise.go]
  generalize hrs:(List.range ops.size).filter (λi=>
    !L.getD i true&&((ops[i]?).map (λ(x:Oper)=>x.after.all λe=>!Region.binds .any e||L.getD e.on false)).getD false)=rs
  have mem:∀i,i∈rs ↔ i<ops.size/\L[i]?=some false/\∃o,ops[i]?=some o/\∀e∈o.after.toList,Region.binds .any e=true->L[e.on]?=some true:=by
   intro i;rw[<- hrs];simp only[od,kj,ai];refine and_congr qj (and_congr ?_ ?_)
   ·rw[mz];cases hx:L[i]? with
    |none=>simp
    |some b=>cases b <;> simp
   ·cases ho:ops[i]? with
    |none=>simp
    |some o=>
     simp only[cg,aq,jd,exists_eq_left'];rw[<- Array.all_toList];simp only[ez,fl,gw];refine forall_congr' λe=>forall_congr' λhe=>?_;rw[mz];cases hb:Region.binds .any e with
     |false=>simp
     |true=>
      cases hx:L[e.on]? with
      |none=>simp
      |some b=>cases b <;> simp
  cases hget:rs[t % rs.length]? with
  |none=>
   dsimp only;refine⟨[],by simp,λfr Z hi=>?_⟩
   have hemp:rs=[]:=by
    cases rs with
    |nil=>rfl
    |cons a r=>
     have:=List.getElem?_eq_none_iff.1 hget;have:=Nat.mod_lt t (show 0<(a::r).length by simp);omega
   have:∀k,k<ops.size->L[k]?=some true:=λk hk=>by
    rcases DE (λk=>L[k]?≠some true) 0 ops.size (by omega) with hn | ⟨a,_,a2,a3,a4⟩
    ·have:=hn k (by omega) hk;exact Decidable.not_not.1 this
    ·obtain⟨o,ho⟩:=wE a2 (OF ops.size);have hal:a<L.size:=by rw[hz];exact a2
     have ha:a∈rs:=(mem a).2 ⟨a2,by
      rw[gu hal]at a3 ⊢;cases hx:L[a] with
      |true=>rw[hx]at a3;exact (a3 rfl).elim
      |false=>rfl,o,ho,λe he hb=>by
      have:=hlt a o ho e he hb;exact Decidable.not_not.1 (a4 e.on (by omega) this)⟩
     rw[hemp]at ha;cases ha
   exact CQ (hdone _ _ _ hi this)
  |some i=>
   dsimp only;obtain⟨m1,m2,o,ho,m3⟩:=(mem i).1 (ag hget)
   have hcnt:(L.setIfInBounds i true).toList.count false<=fuel:=by
    have:=count_set L.toList i (by simpa using m2);rw[Array.toList_setIfInBounds];omega
   obtain⟨l,h1,h2⟩:=go_sem hsize hlt hstep hdone fuel (t / rs.length) (L.setIfInBounds i true) (i::acc) (by rw[kq];exact hz) hcnt;exact⟨i::l,by rw[h1];simp,λfr Z hi=>hstep _ _ _ _ _ _ hi ho m2 m3 λfr' σ' hi'=>h2 fr' σ' hi'⟩
theorem MT (hmix:P.follows .mixedOrders=true) {id:Nat}{J:Array Bool->Fr->Sg->Prop}
  (hsize:∀L fr Z,J L fr Z->L.size=ops.size)
  (hlt:wL 0 ops.toList=true)
  (hstep:∀L fr Z i o (l:List Nat),J L fr Z->ops[i]?=some o->L[i]?=some false->(∀e∈o.after.toList,Region.binds .any e=true->L[e.on]?=some true)->(∀fr' σ',J (L.setIfInBounds i true) fr' σ'->sD P E ops l fr' σ' λfr Z=>Q .normal fr Z)->sD P E ops (i::l) fr Z λfr Z=>Q .normal fr Z)
  (hdone:∀L fr Z,J L fr Z->(∀k,k<ops.size->L[k]?=some true)->Q .normal fr Z)(h0:J (Array.replicate ops.size false) fr Z):mT P E (.region id ops true) fr Z Q:=by
 refine Pa hmix λt=>?_
 have hlt':∀i o,ops[i]?=some o->∀e∈o.after.toList,Region.binds .any e=true->e.on<i:=λi o ho e he hb=>by
  have:=oV ops.toList 0 hlt i o (by simpa using ho) e he hb;omega
 obtain⟨l,h1,h2⟩:=go_sem hsize hlt' hstep hdone ops.size t (Array.replicate ops.size false) [] (by simp) (by simp)
 have e:Region.linearise .any ops t=l:=by
  unfold Region.linearise;rw[h1];simp
 rw[e];exact h2 _ _ h0
end
end
end Go.Ax
end
section
namespace Go.Proofs.YtmbikbgdbbcbmaaGreatDoor
open Go Go.Ax Go.AxS
section
structure Jo (E:Env):Prop where
 aae:E.hspec 38=none
 XM:E.spec 38=none
 fn38:E.fn 38=some (aA Tryz.f38)
 md38:E.mode 38=.eS
 hs106:E.hspec 106=none
 sp106:E.spec 106=none
 abO:E.fn 106=some (aA Tryz.f106)
 md106:E.mode 106=.shared
 aaW:E.hspec 107=none
 Yv:E.spec 107=none
 abN:E.fn 107=some (aA Tryz.f107)
 Z0:E.mode 107=.shared
 An:E.ty 54=some { kd:=.sl 23,size:=1,bytes:=24,zero:=.aF }
 K1:E.ty 136=some { kd:=.func,size:=1,bytes:=8,zero:=.rC }
 Ef:E.ty 27=some { kd:=.ptr 100,size:=1,bytes:=8,zero:=.fP }
 UW:fJ E (opsOf (cutAt [1,1,0,1,0,0] (aA Tryz.f106).code))=.no
 VT:cH E .no (opsOf (cutAt [1,1,0,1,0,0] (aA Tryz.f106).code))=some [⟨0,2,false,true⟩,  ⟨0,3,false,true⟩]
section
variable {E:Env}{Z:Sg}{K:V->Sg->Prop}
def W8 (Z:Sg) (y:aC) (bp:Nat) (p:List aC) (q:V) (Y:Sg):Prop:=
 (q=.sl bp 0 (p.length+1) none/\Y=(Z++[O.cells 51 [.bool y.1,.str y.2] true]).set bp (.cells 51 (p.flatMap row++row y) false)) \/
 (q=.sl (Z.length+1) 0 (p.length+1) none/\Y=Z++[O.cells 51 [.bool y.1,.str y.2] true]++[.cells 51 (p.flatMap row++row y) false])
def J8 (Z : Sg) (y : aC) (bp : Nat) (p : List aC) (F : FT) (Rr : Sg -> Prop) (L : Array Bool) (fr : Fr) (Y : Sg) : Prop :=
  L.size = 6 /\ ∃ F', fr = ⟨56, F'⟩ /\ (∀ k, k < 49 -> F'.get k = F.get k) /\ (L[0]? = some true -> F'.get 49 = (V.fn 106 [] [.ref 5 0, .ref 6 0, .ref 3 0, .ref 2 0, .ref 0 0, .ref 7 0])) /\ (L[1]? = some true -> F'.get 50 = .sl bp 0 p.length none) /\ (L[2]? = some true -> F'.get 51 = iD y) /\
  ((L[3]? = some false /\ L[4]? = some false /\ L[5]? = some false /\ Y = Z) \/
   (L[2]? = some true /\ L[3]? = some true /\ L[4]? = some false /\ L[5]? = some false /\ F'.get 52 = .sl Z.length 0 1 none /\ Y = Z ++ [O.cells 51 [.bool y.1, .str y.2] true]) \/
   (L[1]? = some true /\ L[2]? = some true /\ L[3]? = some true /\ L[4]? = some true /\ L[5]? = some false /\ W8 Z y bp p (F'.get 53) Y) \/
   (L[0]? = some true /\ L[1]? = some true /\ L[2]? = some true /\ L[3]? = some true /\ L[4]? = some true /\ L[5]? = some true /\ Rr Y))
theorem rI {F F':FT}{t:Nat}{v:V}(h:∀k,k<49->F'.get k=F.get k)(ht:49<=t):∀k,k<49->(FT.set F' t v).get k=F.get k:=λk hk=>by
 rw[FT.cI,an (by omega)];exact h k hk
theorem Cr {Z Y:Sg}{y:aC}{bp:Nat}{p:List aC}{q:V}(hw:W8 Z y bp p q Y) {k:Nat}{o:O}(hk:Z[k]?=some o)(hne:k≠bp):Y[k]?=some o:=by
 rcases hw with⟨-,rfl⟩ | ⟨-,rfl⟩
 ·rw[No (λe=>hne e.symm)];exact aJ hk
 ·exact aJ (aJ hk)
theorem nF (p:List aC):(p.flatMap row).length=p.length*2:=by
 induction p with
 |nil=>rfl
 |cons x p ih=>rw[j6,By,ih,af,jk];exact mg _ _
theorem XD (h:bE E)(hl:Lb.bY E) (pt:Jo E)(he:cB Tryz.prog E)(hfs:fR Tryz.prog E)(hmix:Tryz.prog.follows .mixedOrders=true) {Z:Sg}{y:aC}{bp n12:Nat}{p:List aC}{cs:List V}{ex:Bool}{Rr:Sg->Prop} (b7:Z[7]?=some (.cells 136 [(V.fn 106 [] [.ref 5 0,.ref 6 0,.ref 3 0,.ref 2 0,.ref 0 0,.ref 7 0])] true)) (b12:Z[n12]?=some (O.cells 51 [.bool y.1,.str y.2] true))(hbp:Z[bp]?=some (.cells 51 cs ex))(hcs:cs.take (p.length*2)=p.flatMap row)(h8:8<=bp)(hn:n12≠bp)(hpl:p.length<=100000)
  (F:FT) (g0:F.get 0=.sl bp 0 p.length none) (g6:F.get 6=.ref 7 0) (g12:F.get 12=.ref n12 0)
  (hcall:∀q Y,W8 Z y bp p q Y->qV Tryz.prog E 106 [q,.ref 5 0,.ref 6 0,.ref 3 0,.ref 2 0,.ref 0 0,.ref 7 0] Y λv τ'=>v=.fM []/\Rr τ') :
  mT Tryz.prog E (.region 8 (opsOf (cutAt [1,1,1,1,2,2,1,1,0,2,1] (aA Tryz.f106).code)) true) ⟨56,F⟩ Z λx fr Y=>x=.normal/\∃F',fr=⟨56,F'⟩/\(∀k,k<49->F'.get k=F.get k)/\Rr Y:=by
 have hsz:(opsOf (cutAt [1,1,1,1,2,2,1,1,0,2,1] (aA Tryz.f106).code)).size=6:=by kernel_rfl
 refine MT hmix (J:=J8 Z y bp p F Rr) (λL fr Y hj=>by rw[hsz];exact hj.1) (by kernel_rfl) ?_ ?_ ?_
 ·rintro L fr Y i o l ⟨hz,F',rfl,hF,k0,k1,k2,kk⟩ ho hL hE hnx;have hi:i<6:=by rw[<- hsz];exact LC ho
  have ho':=ho;have q0:F'.get 0=.sl bp 0 p.length none:=(hF 0 (by omega)).trans g0;have q6:F'.get 6=.ref 7 0:=(hF 6 (by omega)).trans g6;have LB:F'.get 12=.ref n12 0:=(hF 12 (by omega)).trans g12
  have gt:∀(k:Nat) (o:O),k≠bp->(∃j,j<6/\L[j]?=some false)->Z[k]?=some o->Y[k]?=some o:=λk o hk h5 hs=>by
   rcases kk with⟨-,-,-,rfl⟩ | ⟨-,-,-,-,-,rfl⟩ | ⟨-,-,-,-,-,hw⟩ | ⟨a0,a1,a2,a3,a4,a5,-⟩
   ·exact hs
   ·exact aJ hs
   ·exact Cr hw hs hk
   ·obtain⟨j,hj,hf⟩:=h5;have:j=0\/j=1\/j=2\/j=3\/j=4\/j=5:=by omega
    rcases this with rfl | rfl | rfl | rfl | rfl | rfl
    ·rw[a0]at hf;cases hf
    ·rw[a1]at hf;cases hf
    ·rw[a2]at hf;cases hf
    ·rw[a3]at hf;cases hf
    ·rw[a4]at hf;cases hf
    ·rw[a5]at hf;cases hf
  have t7:=gt 7 _ (by omega) ⟨i,hi,hL⟩ b7;have t12:=gt n12 _ hn ⟨i,hi,hL⟩ b12;have hi':i=0\/i=1\/i=2\/i=3\/i=4\/i=5:=by omega
  rcases hi' with rfl | rfl | rfl | rfl | rfl | rfl
  ·simp only[aA,Tryz.f106,cutAt,opsOf,aq,cm,bg]at ho;obtain rfl:=dc ho;refine pM he hfs hmix (n:=0) (frz:=.no) (v:=(V.fn 106 [] [.ref 5 0,.ref 6 0,.ref 3 0,.ref 2 0,.ref 0 0,.ref 7 0])) (σ1:=Y) ho' rfl ?_ (hnx _ _ ?_)
   ·simp only[KP,Ax.loadAt,↓reduceIte,reduceLT,lG,aS,pt.K1,q6,t7]
   ·have e49:(FT.set F' 49 (V.fn 106 [] [.ref 5 0,.ref 6 0,.ref 3 0,.ref 2 0,.ref 0 0,.ref 7 0])).get 49=(V.fn 106 [] [.ref 5 0,.ref 6 0,.ref 3 0,.ref 2 0,.ref 0 0,.ref 7 0]):=by rw[FT.cI,az rfl]
    have e:∀t,t≠49->(FT.set F' 49 (V.fn 106 [] [.ref 5 0,.ref 6 0,.ref 3 0,.ref 2 0,.ref 0 0,.ref 7 0])).get t=F'.get t:=λt ht=>by rw[FT.cI,an ht]
    refine⟨by rw[kq];exact hz,FT.set F' 49 (V.fn 106 [] [.ref 5 0,.ref 6 0,.ref 3 0,.ref 2 0,.ref 0 0,.ref 7 0]),by simp only[cT,Ax.Fr.uU,reduceLT,bf],rI hF (by omega),?_⟩;simp only[ja,hz,reduceLT,reduceEqDiff,↓reduceIte];rw[e 50 (by omega),e 51 (by omega),e 52 (by omega),e 53 (by omega)];exact⟨λ_=>e49,k1,k2,kk.elim (λa=>.inl a) λa=>a.elim (λa=>.inr (.inl a)) λa=>a.elim (λa=>.inr (.inr (.inl a))) λ⟨a,_⟩=>(by rw[hL]at a;cases a)⟩
  ·simp only[aA,Tryz.f106,cutAt,opsOf,aq,cm,bg,ck]at ho;obtain rfl:=dc ho;refine pM he hfs hmix (n:=0) (frz:=.no) (v:=(.sl bp 0 p.length none)) (σ1:=Y) ho' rfl ?_ (hnx _ _ ?_)
   ·simp only[KP,↓reduceIte,reduceLT,lG,aS,q0]
   ·have e50:(FT.set F' 50 (.sl bp 0 p.length none)).get 50=(.sl bp 0 p.length none):=by rw[FT.cI,az rfl]
    have e:∀t,t≠50->(FT.set F' 50 (.sl bp 0 p.length none)).get t=F'.get t:=λt ht=>by rw[FT.cI,an ht]
    refine⟨by rw[kq];exact hz,FT.set F' 50 (.sl bp 0 p.length none),by simp only[cT,Ax.Fr.uU,reduceLT,bf],rI hF (by omega),?_⟩;simp only[ja,hz,reduceLT,reduceEqDiff,↓reduceIte];rw[e 49 (by omega),e 51 (by omega),e 52 (by omega),e 53 (by omega)];exact⟨k0,λ_=>e50,k2,kk.elim (λa=>.inl a) λa=>a.elim (λa=>.inr (.inl a)) λa=>a.elim (λ⟨a,_⟩=>(by rw[hL]at a;cases a)) λ⟨_,a,_⟩=>(by rw[hL]at a;cases a)⟩
  ·simp only[aA,Tryz.f106,cutAt,opsOf,aq,cm,bg,ck]at ho;obtain rfl:=dc ho;refine pM he hfs hmix (n:=0) (frz:=.no) (v:=(iD y)) (σ1:=Y) ho' rfl ?_ (hnx _ _ ?_)
   ·simp only[KP,Ax.loadAt,↓reduceIte,reduceLT,reduceAdd,h.cE,lG,aS,LB,t12,iD]
   ·have e51:(FT.set F' 51 (iD y)).get 51=(iD y):=by rw[FT.cI,az rfl]
    have e:∀t,t≠51->(FT.set F' 51 (iD y)).get t=F'.get t:=λt ht=>by rw[FT.cI,an ht]
    refine⟨by rw[kq];exact hz,FT.set F' 51 (iD y),by simp only[cT,Ax.Fr.uU,reduceLT,bf],rI hF (by omega),?_⟩;simp only[ja,hz,reduceLT,reduceEqDiff,↓reduceIte];rw[e 49 (by omega),e 50 (by omega),e 52 (by omega),e 53 (by omega)];exact⟨k0,k1,λ_=>e51,kk.elim (λa=>.inl a) λa=>a.elim (λ⟨a,_⟩=>(by rw[hL]at a;cases a)) λa=>a.elim (λ⟨_,a,_⟩=>(by rw[hL]at a;cases a)) λ⟨_,_,a,_⟩=>(by rw[hL]at a;cases a)⟩
  ·simp only[aA,Tryz.f106,cutAt,opsOf,aq,cm,bg,ck]at ho;obtain rfl:=dc ho;have a2:=hE ⟨2,.data⟩ (by simp) rfl;have q51:=k2 a2
   have hk:L[4]?=some false/\L[5]?=some false/\Y=Z:=by
    rcases kk with⟨-,b1,b2,b3⟩ | ⟨-,a,-⟩ | ⟨-,-,a,-⟩ | ⟨-,-,-,a,-⟩
    ·exact⟨b1,b2,b3⟩
    ·rw[hL]at a;cases a
    ·rw[hL]at a;cases a
    ·rw[hL]at a;cases a
   obtain⟨h4,h5,rfl⟩:=hk;refine pM he hfs hmix (n:=0) (frz:=.no) (v:=.sl Y.length 0 1 none) (σ1:=Y++[O.cells 51 [.bool y.1,.str y.2] true]) ho' rfl ?_ (hnx _ _ ?_)
   ·simp only[KP,↓reduceIte,reduceLT,reduceLeDiff,reduceMul,h.iI,h.cE,lG,aS,q51,iD,mM,Fz.lits]
   ·have e52:(FT.set F' 52 (.sl Y.length 0 1 none)).get 52=.sl Y.length 0 1 none:=by rw[FT.cI,az rfl]
    have e:∀t,t≠52->(FT.set F' 52 (.sl Y.length 0 1 none)).get t=F'.get t:=λt ht=>by rw[FT.cI,an ht]
    refine⟨by rw[kq];exact hz,FT.set F' 52 (.sl Y.length 0 1 none),by simp only[cT,Ax.Fr.uU,reduceLT,bf],rI hF (by omega),?_⟩;simp only[ja,hz,reduceLT,reduceEqDiff,↓reduceIte];rw[e 49 (by omega),e 50 (by omega),e 51 (by omega),e 53 (by omega),e52];exact⟨k0,k1,k2,.inr (.inl ⟨a2,trivial,h4,h5,rfl,trivial⟩)⟩
  ·simp only[aA,Tryz.f106,cutAt,opsOf,aq,cm,bg,ck]at ho;obtain rfl:=dc ho;have a1:=hE ⟨1,.data⟩ (by simp) rfl;have a3:=hE ⟨3,.data⟩ (by simp) rfl;have Xr:=k1 a1
   have hk:L[2]?=some true/\L[5]?=some false/\F'.get 52=.sl Z.length 0 1 none/\Y=Z++[O.cells 51 [.bool y.1,.str y.2] true]:=by
    rcases kk with⟨a,-⟩ | ⟨b0,-,-,b2,b3,b4⟩ | ⟨-,-,-,a,-⟩ | ⟨-,-,-,-,a,-⟩
    ·rw[a3]at a;cases a
    ·exact⟨b0,b2,b3,b4⟩
    ·rw[hL]at a;cases a
    ·rw[hL]at a;cases a
   obtain⟨a2,h5,q52,rfl⟩:=hk
   have hcl:p.length*2<=cs.length:=by
    have:=au List.length hcs;rw[bw,nF]at this;omega
   have hel:elems (Z++[O.cells 51 [.bool y.1,.str y.2] true]) 2 (.sl Z.length 0 1 none)=some (row y,1):=by
    simp only[elems,aL];rfl
   have nx:∀q τ',W8 Z y bp p q τ'->sD Tryz.prog E (opsOf (cutAt [1,1,1,1,2,2,1,1,0,2,1] (aA Tryz.f106).code)) l (cT ⟨56,F'⟩ (some 53) q) τ' λfr Y=>(λx fr Y=>x=Ax.X.normal/\∃F',fr=⟨56,F'⟩/\(∀k,k<49->F'.get k=F.get k)/\Rr Y) Ax.X.normal fr Y:=λq τ' hw=>by
    refine hnx _ _ ?_;have e53:(FT.set F' 53 q).get 53=q:=by rw[FT.cI,az rfl]
    have e:∀t,t≠53->(FT.set F' 53 q).get t=F'.get t:=λt ht=>by rw[FT.cI,an ht]
    refine⟨by rw[kq];exact hz,FT.set F' 53 q,by simp only[cT,Ax.Fr.uU,reduceLT,bf],rI hF (by omega),?_⟩;simp only[ja,hz,reduceLT,reduceEqDiff,↓reduceIte];rw[e 49 (by omega),e 50 (by omega),e 51 (by omega),e 52 (by omega),e53];exact⟨k0,k1,k2,.inr (.inr (.inl ⟨a1,a2,a3,trivial,h5,hw⟩))⟩
   refine Pb he (st:=23) (e:=51) (n:=1) (b:=bp) (off:=0) (len:=p.length) (x:=.tmp 50) (y:=.tmp 52) (cs:=cs) (new:=row y) ho' rfl rfl ?_ ?_ rfl hl.iI rfl hl.cE ?_ (by decide) hel (aJ hbp) ?_ ?_ ?_ ?_
   ·simp only[aR,Ax.Fr.vI,reduceLT,bf,Xr]
   ·simp only[aR,Ax.Fr.vI,reduceLT,bf,q52]
   ·unfold eA;simp only[cm,ck,bg,hl.iI];rfl
   ·show 0+p.length*2<=cs.length;omega
   ·exact dQ (b:=100001) (by decide) (by omega)
   ·have e:cs.take (0+p.length*2)=p.flatMap row:=by rw[dh];exact hcs
    show sD _ _ _ _ _ ((Z++[O.cells 51 [.bool y.1,.str y.2] true]).set bp (.cells 51 (cs.take (0+p.length*2)++row y) false)) _;rw[e];exact nx _ _ (.inl ⟨rfl,rfl⟩)
   ·have e:(cs.drop 0).take (p.length*2)=p.flatMap row:=hcs;show sD _ _ _ _ _ ((Z++[O.cells 51 [.bool y.1,.str y.2] true])++[.cells 51 ((cs.drop 0).take (p.length*2)++row y) false]) _;rw[e];refine nx _ _ (.inr ⟨?_,rfl⟩);rw[By];rfl
  ·simp only[aA,Tryz.f106,cutAt,opsOf,aq,cm,bg,ck]at ho;obtain rfl:=dc ho;have a0:=hE ⟨0,.data⟩ (by simp) rfl;have a4:=hE ⟨4,.data⟩ (by simp) rfl;have q49:=k0 a0
   have hk:L[1]?=some true/\L[2]?=some true/\L[3]?=some true/\W8 Z y bp p (F'.get 53) Y:=by
    rcases kk with⟨-,a,-⟩ | ⟨-,-,a,-⟩ | ⟨b1,b2,b3,-,-,b4⟩ | ⟨-,-,-,-,-,a,-⟩
    ·rw[a4]at a;cases a
    ·rw[a4]at a;cases a
    ·exact⟨b1,b2,b3,b4⟩
    ·rw[hL]at a;cases a
   obtain⟨a1,a2,a3,hw⟩:=hk;refine ES (f:=.tmp 49) (args:=#[.tmp 53]) (l':=[F'.get 53]) ho' rfl rfl (k:=106) (first:=[]) (cap:=[.ref 5 0,.ref 6 0,.ref 3 0,.ref 2 0,.ref 0 0,.ref 7 0]) ?_ ?_ (hcall _ _ hw) ?_
   ·simp only[aR,Ax.Fr.vI,reduceLT,bf,q49]
   ·simp only[eH,aR,Ax.Fr.vI,reduceLT,bf]
   ·rintro v τ' ⟨rfl,hR⟩;refine hnx _ _ ?_;have e:∀t,t≠54->(FT.set F' 54 (.fM [])).get t=F'.get t:=λt ht=>by rw[FT.cI,an ht]
    refine⟨by rw[kq];exact hz,FT.set F' 54 (.fM []),by simp only[cT,Ax.Fr.uU,reduceLT,bf],rI hF (by omega),?_⟩;simp only[ja,hz,reduceLT,reduceEqDiff,↓reduceIte];rw[e 49 (by omega),e 50 (by omega),e 51 (by omega),e 52 (by omega),e 53 (by omega)];exact⟨k0,k1,k2,.inr (.inr (.inr ⟨a0,a1,a2,a3,a4,trivial,hR⟩))⟩
 ·rintro L fr Y ⟨hz,F',rfl,hF,k0,k1,k2,kk⟩ hall;have h5:=hall 5 (by rw[hsz];omega);rcases kk with⟨-,-,a,-⟩ | ⟨-,-,-,a,-⟩ | ⟨-,-,-,-,a,-⟩ | ⟨-,-,-,-,-,-,hR⟩
  ·rw[h5]at a;cases a
  ·rw[h5]at a;cases a
  ·rw[h5]at a;cases a
  ·exact⟨rfl,F',rfl,hF,hR⟩
 ·rw[hsz];exact⟨rfl,F,rfl,λ_ _=>rfl,λe=>(by cases e),λe=>(by cases e),λe=>(by cases e),.inl ⟨rfl,rfl,rfl,rfl⟩⟩
end
end
section
section
variable {E:Env}{Z:Sg}{K:V->Sg->Prop}
def KR (t:Nat) (Z:Sg) (w:V) (vs:List V):Prop:=(w=.aF/\vs=[])\/vs≠[]/\∃b,w=.sl b 0 vs.length none/\Z[b]?=some (.cells t vs false)
theorem KR.keep {t:Nat}{Z σ':Sg}{w:V}{vs:List V}(h:KR t Z w vs) (k:∀c o,aQ w=some c->Z[c]?=some o->σ'[c]?=some o):KR t σ' w vs:=by
 rcases h with h | ⟨hn,b,rfl,hb⟩
 ·exact .inl h
 ·exact .inr ⟨hn,b,rfl,k b _ rfl hb⟩
theorem Rn {si ei:Ty}{ts t:Nat}{ats:Array Nat}{w x u:V}{vs:List V}(hts:E.ty ts=some si)(hk:si.kd=.sl t)(ht:E.ty t=some ei)(hn:ei.size=1)(hpl:eA E ats=true)(hats:ats[0]?=some ts)(h:KR t Z w vs)
  (hx:elems Z 1 x=some ([u],1))(hr:roomy (vs.length+1) ei.bytes=true) :
  ∃w' σ',append E Z ats w x=some (w',σ')/\KR t σ' w' (vs++[u])/\Sp Z σ' w/\Z.length<=σ'.length/\∀b,aQ w'=some b->Z.length<=b:=by
 obtain⟨kd,size,bytes,zero⟩:=si;replace hk:kd=.sl t:=hk;subst hk;have hne:(ei.size==0)=false:=by rw[hn];rfl
 have hr2:pO 1 ei.bytes=true:=AA hr (by omega);have hx:elems Z ei.size x=some ([u],1):=by rw[hn];exact hx
 unfold append;simp only[hats,hts,ht,hpl,hne,hx,dj,je,ah,ay];rcases h with⟨rfl,rfl⟩ | ⟨hn0,b,rfl,hbk⟩
 ·simp only[Nat.one_ne_zero,ay,hr2,bf];refine⟨_,_,rfl,.inr ⟨by simp,Z.length,rfl,by simp⟩,λc o e _=>?_,by simp,λb e=>by cases e;exact OF _⟩;rw[b8 (AI.1 e).1];exact e
 ·have hlt:=(AI.1 hbk).1
  have hform:(t==t&&decide (vs.length*ei.size<=vs.length)&&roomy (vs.length+1) ei.bytes)=true:=by
   rw[hr,hn];simp
  have hbig:¬ (vs.length+1)*ei.size<=vs.length:=by rw[hn];omega
  have htk:vs.take (vs.length*ei.size)=vs:=ak (by rw[hn];omega);simp only[hbk,dh,hform,dj,ah,ay,hbig,bf,htk,fc];refine⟨_,_,rfl,.inr ⟨by simp,Z.length,by simp,by simp⟩,λc o e hne=>?_,by simp,λb e=>by cases e;exact OF _⟩;have hc:=(AI.1 e).1;rw[b8 (by simpa using hc),No (λe2=>hne (by rw[e2];rfl))];exact e
def Jf (Z:Sg) (w:V) (U:Nat->Prop) (l:List (List aC)):Prop:=∃us,KR 23 Z w us/\(∀b,aQ w=some b->U b)/\eJ (λu p=>∃bu,u=.sl bu 0 p.length none/\U bu/\p≠[]/\Z[bu]?=some (.cells 51 (p.flatMap row) false)) us l
theorem Jf.keep {Z σ':Sg}{w:V}{U U':Nat->Prop}{l:List (List aC)}(h:Jf Z w U l) (k:∀c o,U c->Z[c]?=some o->σ'[c]?=some o)(hu:∀c,U c->U' c):Jf σ' w U' l:=by
 obtain⟨us,h1,h2,h3⟩:=h;exact⟨us,h1.keep λc o hc=>k c o (h2 c hc),λb hb=>hu b (h2 b hb),h3.imp λu p ⟨bu,e1,e2,e3,e4⟩=>⟨bu,e1,hu _ e2,e3,k _ _ e2 e4⟩⟩
structure Bx (Z:Sg) (M:List (aC × Nat)) (many:Nat) (b:aC) (g:V):Prop where
 b5:Z[5]?=some (.cells 131 [.imp false (M.map dV)] true)
 b3:Z[3]?=some (.cells 3 [.int .i64 (many:Int)] true)
 b2:Z[2]?=some (O.cells 51 [.bool b.1,.str b.2] true)
 b0:Z[0]?=some (.cells 27 [g] true)
 b7:Z[7]?=some (.cells 136 [(V.fn 106 [] [.ref 5 0,.ref 6 0,.ref 3 0,.ref 2 0,.ref 0 0,.ref 7 0])] true)
theorem Bx.keep {Z σ':Sg}{M:List (aC × Nat)}{many:Nat}{b:aC}{g:V}(h:Bx Z M many b g) (k:∀c o,c<8->c≠6->Z[c]?=some o->σ'[c]?=some o):Bx σ' M many b g:=
 ⟨k _ _ (by omega) (by omega) h.b5,k _ _ (by omega) (by omega) h.b3,k _ _ (by omega) (by omega) h.b2,k _ _ (by omega) (by omega) h.b0,k _ _ (by omega) (by omega) h.b7⟩
def KQ (Z:Sg) (bp:Nat) (p:List aC):Prop:=∃cs ex,Z[bp]?=some (.cells 51 cs ex)/\cs.take (p.length*2)=p.flatMap row
theorem KQ.ls {Z:Sg}{bp:Nat}{p:List aC}(h:KQ Z bp p):LS eW 51 Z (.sl bp 0 p.length none) p:=by
 obtain⟨cs,ex,h1,h2⟩:=h;have e:p.flatMap row=(p.map row).flatten:=by rw[List.flatMap_def]
 exact .inr ⟨bp,cs,ex,p.map row,rfl,h1,vU p,by rw[<- e];exact h2⟩
structure Jb (Z:Sg) (M:List (aC × Nat)) (many:Nat) (b:aC) (g:V) (bp:Nat) (p:List aC) (w:V) (U:Nat->Prop) (out:List (List aC)):Prop where
 bx:Bx Z M many b g
 b6:Z[6]?=some (.cells 54 [w] true)
 ou:Jf Z w U out
 hp:KQ Z bp p
 h8:8<=bp
 nU:¬ U bp
 U8:∀k,U k->8<=k/\k<Z.length
theorem Jb.app {Z:Sg}{M:List (aC × Nat)}{many:Nat}{b:aC}{g:V}{bp:Nat}{p:List aC}{w:V}{U:Nat->Prop}{out:List (List aC)}(h:Jb Z M many b g bp p w U out) (Y:Sg):Jb (Z++Y) M many b g bp p w U out:=by
 have k:∀(c:Nat) (o:O),Z[c]?=some o->(Z++Y)[c]?=some o:=λc o e=>by
  rw[b8 (AI.1 e).1];exact e
 obtain⟨cs,ex,h1,h2⟩:=h.hp;exact⟨h.bx.keep λc o _ _=>k c o,k _ _ h.b6,h.ou.keep (λc o _=>k c o) λ_=>id,⟨cs,ex,k _ _ h1,h2⟩,h.h8,h.nU,λc hc=>⟨(h.U8 c hc).1,by rw[By];have:=(h.U8 c hc).2;omega⟩⟩
def Rw (Z:Sg) (M:List (aC × Nat)) (many:Nat) (b:aC) (g:V) (U:Nat->Prop) (bp:Nat) (p:List aC) (out:List (List aC)) (Y:Sg):Prop:=
 Z.length<=Y.length/\(∀k o,Z[k]?=some o->k≠6->k≠bp->¬ U k->Y[k]?=some o)/\∃w' U',Jb Y M many b g bp p w' U' out/\∀k,U' k->U k\/Z.length<=k
theorem Rw.refl {Z:Sg}{M:List (aC × Nat)}{many:Nat}{b:aC}{g:V}{bp:Nat}{p:List aC}{w:V}{U:Nat->Prop}{out:List (List aC)}(h:Jb Z M many b g bp p w U out):Rw Z M many b g U bp p out Z:=⟨OF _,λ_ _ h _ _ _=>h,w,U,h,λk hk=>.inl hk⟩
theorem Rw.trans {Z Y ρ:Sg}{M:List (aC × Nat)}{many:Nat}{b:aC}{g:V}{bp:Nat}{p:List aC}{U U':Nat->Prop}{out:List (List aC)}(hlen:Z.length<=Y.length)(hfr:∀k o,Z[k]?=some o->k≠6->k≠bp->¬ U k->Y[k]?=some o)(hU:∀k,U' k->U k\/Z.length<=k)(h:Rw Y M many b g U' bp p out ρ):Rw Z M many b g U bp p out ρ:=by
 obtain⟨h1,h2,w,U2,h3,h4⟩:=h;refine⟨fh hlen h1,λk o hk k6 kb kU=>h2 k o (hfr k o hk k6 kb kU) k6 kb λhu=>?_,w,U2,h3,λk hk=>?_⟩
 ·rcases hU k hu with g | g
  ·exact kU g
  ·have:=(AI.1 hk).1;omega
 ·rcases h4 k hk with g | g
  ·exact hU k g
  ·exact .inr (by omega)
theorem TA (hl:Lb.bY E) {b n:Nat}{c:Option Nat}:mP E 23 true (.sl b 0 n c) .aF=some false:=by unfold mP;rw[hl.iI]
theorem HT (hl:Lb.bY E):eA E #[23,23]=true:=by
 unfold eA;simp only[hl.iI,cm,ck,bg];rfl
theorem Q_ (h:bE E)(hl:Lb.bY E) (pt:Jo E) {bp:Nat}{p:List aC}(hp:KQ Z bp p)(hne:p≠[])(hpl:p.length<=100000):aB E 107 [.sl bp 0 p.length none] Z K=K (.sl (Z.length+1) 0 p.length none) (Z++[.cells 51 [] true]++[.cells 51 (p.flatMap row) false]):=by
 refine aB.of ?_;rw[cN pt.aaW pt.Yv pt.abN pt.Z0,aW (by kernel_rfl)];obtain⟨cs,ex,hb,hcs⟩:=hp;have hp1:=iy.2 hne
 have hcl:p.length*2<=cs.length:=by
  have:=au List.length hcs;rw[bw,nF]at this;omega
 have hb1:(Z++[O.cells 51 [] true])[bp]?=some (.cells 51 cs ex):=aJ hb
 have hel:elems (Z++[O.cells 51 [] true]) 2 (.sl bp 0 p.length none)=some (p.flatMap row,p.length):=by
  unfold elems;simp only[hb1,dh,fc];rw[az hcl,hcs]
 have hr:roomy (0+p.length) 24=true:=dQ (b:=100000) (by decide) (by omega)
 have happ:append E (Z++[O.cells 51 [] true]) #[23,23] (.sl Z.length 0 0 none) (.sl bp 0 p.length none)=some (.sl (Z.length+1) 0 p.length none,Z++[.cells 51 [] true]++[.cells 51 (p.flatMap row) false]):=by
  unfold append;simp only[cm,bg,hl.iI,hl.cE,HT hl,hel,dj,aL,iz,lg,OF,hr,qo,qh,qc,ah,ay,b9];have e0:((2:Nat)==0)=false:=rfl;simp only[e0,bf,ot,List.take_nil,cz,dh,By,af,b9];have e2:¬ (p.length*2<=0):=by omega
  simp only[je,ah,ay,e2]
 simp only[aA,Tryz.f107,KP,↓reduceIte,reduceEqDiff,reduceLT,reduceLeDiff,reduceCtorEq,h.iI,h.cE,TA hl,happ,Ax.fill,gX,iz]
end
end
section
section
variable {E:Env}{Z:Sg}{K:V->Sg->Prop}
theorem M0 (pt:Jo E):eA E #[54,54]=true:=by
 unfold eA;simp only[pt.An,cm,ck,bg];rfl
theorem WA {b n:Nat}:Ax.fill (λj=>some (j*1,1)) (gX 1 [V.aF]) [(0,V.sl b 0 n none)]=some [V.sl b 0 n none]:=rfl
theorem zU {Z:Sg}{y:O}{k:Nat}{o:O}(h:Z[k]?=some o)(hk:k≠6):(Z.set 6 y)[k]?=some o:=by
 rw[No (λe=>hk e.symm)];exact h
theorem XE (h:bE E)(hl:Lb.bY E) (pt:Jo E) {Z:Sg}{M:List (aC × Nat)}{many:Nat}{b:aC}{g:V}{bp:Nat}{p:List aC}{w:V}{U:Nat->Prop}{out:List (List aC)} (s:Jb Z M many b g bp p w U out)(hne:p≠[])(hpl:p.length<=100000)(hout:out.length<=1000)
  (F:FT) (g0:F.get 0=.sl bp 0 p.length none) (g2:F.get 2=.ref 6 0) {st:List kH}{Q:Ax.X->Fr->Sg->Prop}(hk:∀F' Y,Rw Z M many b g U bp p (out++[p]) Y->Ax.M E st .normal ⟨56,F'⟩ Y Q):Ax.R E (.region 4 (opsOf (cutAt [1,1,0,1,0,0] (aA Tryz.f106).code)) true) st ⟨56,F⟩ Z Q:=by
 obtain⟨us,ow,hwU,hus⟩:=s.ou;have hul:=hus.len;have b6:=s.b6;have h8:=s.h8;obtain⟨n,v,Y,⟨e1,e2⟩,c1⟩:=aB.up (show aB E 107 [.sl bp 0 p.length none] Z λv Y=>v=(V.sl (Z.length+1) 0 p.length none)/\Y=(Z++[O.cells 51 [] true]++[O.cells 51 (p.flatMap row) false]) by rw[Q_ h hl pt s.hp hne hpl];exact⟨rfl,rfl⟩);have c1:=c1 n (OF _);rw[e1,e2]at c1;clear e1 e2;have k1:∀(c:Nat) (o:O),Z[c]?=some o->((Z++[O.cells 51 [] true]++[O.cells 51 (p.flatMap row) false]))[c]?=some o:=λc o e=>aJ (aJ e);have k2:∀(c:Nat) (o:O),Z[c]?=some o->(((Z++[O.cells 51 [] true]++[O.cells 51 (p.flatMap row) false])++[O.cells 23 [(V.sl (Z.length+1) 0 p.length none)] true]))[c]?=some o:=λc o e=>aJ (k1 c o e);have hlen:((Z++[O.cells 51 [] true]++[O.cells 51 (p.flatMap row) false])).length=Z.length+2:=by simp only[By,af,b9]
 have hclone:((Z++[O.cells 51 [] true]++[O.cells 51 (p.flatMap row) false]))[Z.length+1]?=some (.cells 51 (p.flatMap row) false):=by
  rw[br (by rw[By];exact OF _),By];simp
 obtain⟨w',τ',h1,h2,h3,h4,h5⟩:=Rn (E:=E) (ats:=#[54,54]) (Z:=((Z++[O.cells 51 [] true]++[O.cells 51 (p.flatMap row) false])++[O.cells 23 [(V.sl (Z.length+1) 0 p.length none)] true])) (w:=w) (x:=.sl ((Z++[O.cells 51 [] true]++[O.cells 51 (p.flatMap row) false])).length 0 1 none) (u:=(V.sl (Z.length+1) 0 p.length none)) (vs:=us) pt.An rfl hl.iI rfl (M0 pt) rfl (ow.keep λc o _ e=>k2 c o e) (lW (r:=[(V.sl (Z.length+1) 0 p.length none)]) rfl) (dQ (b:=1001) (by decide) (by omega));have b61:=k1 _ _ b6;have b62:=k2 _ _ b6;have w6:aQ w≠some 6:=λe=>by have:=s.U8 6 (hwU 6 e);omega
 have b63:=h3 _ _ b62 w6;have hlt6:=(AI.1 b63).1
 have vw:tX 12 w w=true:=by
  rcases ow with⟨rfl,-⟩ | ⟨-,bo,rfl,-⟩
  ·rfl
  ·exact On 11 _ _ _
 have wok:w'.aY=true/\w'.cells=[w']:=by
  rcases h2 with⟨rfl,-⟩ | ⟨-,bo,rfl,-⟩ <;> exact⟨rfl,rfl⟩
 obtain⟨wk1,wk2⟩:=wok
 have key:∃F',cO E (ev E n) (opsOf (cutAt [1,1,0,1,0,0] (aA Tryz.f106).code)) ⟨56,F⟩ Z=some (⟨56,F'⟩,τ'.set 6 (.cells 54 [w'] true)):=by
  unfold cO;rw[pt.UW,pt.VT];simp only[aA,Tryz.f106,KP,Ax.loadAt,Ax.storeAt,↓reduceIte,reduceEqDiff,reduceLT,reduceLeDiff,reduceAdd,reduceMul,reduceCtorEq,h.iI,opsOf,cutAt,Fz.lits,Fz.apps,iL,bL,cA,kY,Ax.comp,Ax.last,iN,Ax.again,pt.An,g0,g2,b6,b61,b62,b63,c1,WA,h1,vw,wk1,wk2];exact⟨_,rfl⟩
 obtain⟨F',hD⟩:=key;refine Eq.mpr (i_ hD) (hk F' _ ?_)
 have keep:∀(k:Nat) (o:O),Z[k]?=some o->k≠6->¬ U k->(τ'.set 6 (.cells 54 [w'] true))[k]?=some o:=λk o hk k6 kU=>
  zU (h3 _ _ (k2 _ _ hk) λe=>kU (hwU k e)) k6
 have hcl2:(τ'.set 6 (.cells 54 [w'] true))[Z.length+1]?=some (.cells 51 (p.flatMap row) false):=by
  have h6:=(AI.1 b6).1;refine zU (h3 _ _ (aJ hclone) λe=>?_) (by omega);have:=(s.U8 _ (hwU _ e)).2;omega
 obtain⟨cs,ex,p1,p2⟩:=s.hp;refine⟨?_,λk o hk k6 _ kU=>keep k o hk k6 kU,w',λk=>U k\/Z.length<=k/\k<τ'.length,⟨s.bx.keep λc o hc c6 e=>keep c o e c6 λhu=>by have:=s.U8 c hu;omega,by rw[bt hlt6],⟨us++[(V.sl (Z.length+1) 0 p.length none)],?_,?_,?_⟩,⟨cs,ex,keep _ _ p1 (by omega) s.nU,p2⟩,h8,?_,?_⟩,?_⟩
 ·rw[ec];have:=h4;rw[By,hlen]at this;omega
 ·refine h2.keep λc o hc e=>zU e λe6=>?_;have:=h5 c hc;rw[By,hlen]at this;have h6:=(AI.1 b6).1;omega
 ·intro c hc;have:=h5 c hc;rw[By,hlen]at this;refine .inr ⟨by omega,?_⟩;rcases h2 with⟨rfl,-⟩ | ⟨-,bo,rfl,hbo⟩
  ·cases hc
  ·cases hc;exact (AI.1 hbo).1
 ·refine eJ.append ?_ (.one ⟨_,rfl,.inr ⟨by omega,?_⟩,hne,hcl2⟩)
  ·refine hus.imp λu q ⟨bu,e1,e2,e3,e4⟩=>⟨bu,e1,.inl e2,e3,?_⟩;refine zU (h3 _ _ (k2 _ _ e4) λe=>?_) (by have:=s.U8 bu e2;omega);rcases ow with⟨rfl,-⟩ | ⟨-,bo,rfl,hbo⟩
   ·cases e
   ·cases e;rw[hbo]at e4;cases e4
  ·have:=(AI.1 hcl2).1;rw[ec]at this;exact this
 ·rintro (hu | hu)
  ·exact s.nU hu
  ·have:=(AI.1 p1).1;omega
 ·rintro k (hu | ⟨hu,hu2⟩)
  ·have:=s.U8 k hu;rw[ec];have h4':=h4;rw[By,hlen]at h4';omega
  ·have h6:=(AI.1 s.bx.b7).1;rw[ec];omega
 ·rintro k (hu | ⟨hu,-⟩)
  ·exact .inl hu
  ·exact .inr hu
end
end
section
section
variable {E:Env}{Z:Sg}{K:V->Sg->Prop}
theorem P5 (pt:Jo E) {Z:Sg}{w:V}{us:List V}(hl:Lb.bY E)(h:KR 23 Z w us):lenOf E Z 54 w=some us.length:=by
 unfold lenOf;simp only[pt.An];rcases h with⟨rfl,rfl⟩ | ⟨-,b,rfl,-⟩ <;> rfl
structure WF (F:FT) (bp n:Nat):Prop where
 g0:F.get 0=.sl bp 0 n none
 g1:F.get 1=.ref 5 0
 g2:F.get 2=.ref 6 0
 g3:F.get 3=.ref 3 0
 g4:F.get 4=.ref 2 0
 g5:F.get 5=.ref 0 0
 g6:F.get 6=.ref 7 0
theorem WF.keep {F F':FT}{bp n:Nat}(h:WF F bp n) (k:∀t,t<49->F'.get t=F.get t):WF F' bp n:=⟨(k 0 (by omega)).trans h.g0,(k 1 (by omega)).trans h.g1,(k 2 (by omega)).trans h.g2,(k 3 (by omega)).trans h.g3,(k 4 (by omega)).trans h.g4,(k 5 (by omega)).trans h.g5,(k 6 (by omega)).trans h.g6⟩
theorem SP {p:List aC}(hne:p≠[]) {x:aC}(hx:p[p.length-1]?=some x)(h:bE E)(hl:Lb.bY E) {Z:Sg}{bp:Nat}(hp:KQ Z bp p):∃pa,indexAddr E 23 (.sl bp 0 p.length none) (.int .i64 ((p.length-1:Nat):Int))=some pa/\loadAt E Z 51 pa=some (.agg [.bool x.1,.str x.2]):=by
 obtain⟨pa,r,e1,e2,e3,-,-⟩:=FG hl.iI rfl hl.cE rfl hp.ls hx;refine⟨pa,e1,?_⟩;have e2:r=row x:=e2;rw[e3 rfl,e2];rfl
theorem Oh (h:bE E)(h':oF E)(hl:Lb.bY E) (q:yF E) (tr:Ak E) (pt:Jo E)(he:cB Tryz.prog E)(hfs:fR Tryz.prog E)(hmix:Tryz.prog.follows .mixedOrders=true) {M:List (aC × Nat)}{many:Nat}{b:aC}{g:V}{bp:Nat}{p:List aC}{w:V}{U:Nat->Prop}{out:List (List aC)}{Z:Sg} (s:Jb Z M many b g bp p w U out)(hne:p≠[])(hpl:p.length<=100000) {x:aC}(hx:p[p.length-1]?=some x) (F:FT) (wf:WF F bp p.length) {Q:Ax.X->Fr->Sg->Prop}
  (hk:∀F',WF F' bp p.length->F'.get 8=.ref Z.length 0->Q .normal ⟨56,F'⟩ (Z++[O.cells 51 [.bool x.1,.str x.2] true])):mT Tryz.prog E (cutAt [0] (aA Tryz.f106).code) ⟨56,F⟩ Z Q:=by
 obtain⟨g0,g1,g2,g3,g4,g5,g6⟩:=wf;obtain⟨pa,e1,e2⟩:=SP hne hx h hl s.hp;have hp1:=iy.2 hne;have hlen:lenOf E Z 23 (.sl bp 0 p.length none)=some p.length:=nD hl.iI rfl s.hp.ls;have hw1:wr .i64 ((p.length:Int)-1)=((p.length-1:Nat):Int):=by rw[Ci _ (by omega) (by omega)];omega
 refine t_ he hfs hmix ?_;simp only[aA,Tryz.f106,KP,Ax.storeAt,↓reduceIte,reduceEqDiff,reduceLT,reduceAdd,reduceCtorEq,h.cE,cutAt,g0,hlen,hw1,e1,e2,aL,bR];exact hk _ ⟨(by simp +decide only[GS,g0]),(by simp +decide only[GS,g1]),(by simp +decide only[GS,g2]),(by simp +decide only[GS,g3]),(by simp +decide only[GS,g4]),(by simp +decide only[GS,g5]),(by simp +decide only[GS,g6])⟩ (by simp +decide only[GS])
theorem RE (h:bE E)(h':oF E)(hl:Lb.bY E) (q:yF E) (tr:Ak E) (pt:Jo E)(he:cB Tryz.prog E)(hfs:fR Tryz.prog E)(hmix:Tryz.prog.follows .mixedOrders=true) {M:List (aC × Nat)}{many:Nat}{b:aC}{g:V}{bp:Nat}{p:List aC}{w:V}{U:Nat->Prop}{out:List (List aC)}{Z:Sg} (s:Jb Z M many b g bp p w U out)(hm:many<=1000) {x:aC}{nx:Nat}(hnx:Z[nx]?=some (O.cells 51 [.bool x.1,.str x.2] true)) (F:FT) (wf:WF F bp p.length) (g8:F.get 8=.ref nx 0)(hout:out.length<=1000) {Q:Ax.X->Fr->Sg->Prop}
  (hr:∀F',(kZ M x).isSome=false\/many<=out.length->Q .ret ⟨56,F'⟩ Z)(hk:∀F',(kZ M x).isSome=true->¬ many<=out.length->WF F' bp p.length->F'.get 8=.ref nx 0->Q .normal ⟨56,F'⟩ Z):mT Tryz.prog E (cutAt [1,0] (aA Tryz.f106).code) ⟨56,F⟩ Z Q:=by
 obtain⟨g0,g1,g2,g3,g4,g5,g6⟩:=wf;obtain⟨b5,b3,b2,b0,b7⟩:=s.bx;have b6:=s.b6;obtain⟨us,ow,-,hus⟩:=s.ou;have hul:=hus.len;have lo:=P5 pt hl ow;rw[hul]at lo;have hlk:=zP h hl tr (Z:=Z) (v:=.imp false (M.map dV)) rfl x;refine t_ he hfs hmix ?_;cases hd:(kZ M x).isSome with
 |false=>
  rw[hd]at hlk;simp only[aA,Tryz.f106,KP,Ax.loadAt,↓reduceIte,reduceEqDiff,reduceLT,reduceAdd,h.cE,cutAt,tr.qN,g1,g8,b5,hnx,hlk];exact hr _ (.inl hd)
 |true=>
  rw[hd]at hlk;by_cases hge:many<=out.length
  ·have z1:decide ((many:Int)<=(out.length:Int))=true:=BY (by omega);simp only[aA,Tryz.f106,KP,Ax.loadAt,↓reduceIte,reduceEqDiff,reduceLT,reduceAdd,h.mB,h.cE,cutAt,pt.An,tr.qN,g1,g2,g3,g8,b5,b6,b3,hnx,hlk,lo,z1];exact hr _ (.inr hge)
  ·have z1:decide ((many:Int)<=(out.length:Int))=false:=AS (by omega);simp only[aA,Tryz.f106,KP,Ax.loadAt,↓reduceIte,reduceEqDiff,reduceLT,reduceAdd,h.mB,h.cE,cutAt,pt.An,tr.qN,g1,g2,g3,g8,b5,b6,b3,hnx,hlk,lo,z1];exact hk _ hd hge ⟨(by simp +decide only[GS,g0]),(by simp +decide only[GS,g1]),(by simp +decide only[GS,g2]),(by simp +decide only[GS,g3]),(by simp +decide only[GS,g4]),(by simp +decide only[GS,g5]),(by simp +decide only[GS,g6])⟩ (by simp +decide only[GS,g8])
theorem Og (h:bE E)(h':oF E)(hl:Lb.bY E) (q:yF E) (tr:Ak E) (pt:Jo E)(he:cB Tryz.prog E)(hfs:fR Tryz.prog E)(hmix:Tryz.prog.follows .mixedOrders=true) {M:List (aC × Nat)}{many:Nat}{b:aC}{g:V}{bp:Nat}{p:List aC}{w:V}{U:Nat->Prop}{out:List (List aC)}{Z:Sg} (s:Jb Z M many b g bp p w U out)(hne:p≠[])(hpl:p.length<=100000)(hout:out.length<=1000) {x:aC}{nx:Nat}(hnx:Z[nx]?=some (O.cells 51 [.bool x.1,.str x.2] true)) (F:FT) (wf:WF F bp p.length) (g8:F.get 8=.ref nx 0) {Q:Ax.X->Fr->Sg->Prop}
  (hr:∀F' Y,x=b->Rw Z M many b g U bp p (out++[p]) Y->Q .ret ⟨56,F'⟩ Y)(hk:∀F',x≠b->WF F' bp p.length->F'.get 8=.ref nx 0->Q .normal ⟨56,F'⟩ Z):mT Tryz.prog E (cutAt [1,1,0] (aA Tryz.f106).code) ⟨56,F⟩ Z Q:=by
 have r4:=λF g0 g2 st Q hk=>XE h hl pt s hne hpl hout F g0 g2 (st:=st) (Q:=Q) hk;obtain⟨g0,g1,g2,g3,g4,g5,g6⟩:=wf;have b2:=s.bx.b2;have e0:=λc=>wK hl (b:=c) x b;refine t_ he hfs hmix ?_;rw[show (cutAt [1,1,0] (aA Tryz.f106).code)=.seq (cutAt [1,1,0,0] (aA Tryz.f106).code) (.cond (.tmp 35) (.seq (.region 4 (opsOf (cutAt [1,1,0,1,0,0] (aA Tryz.f106).code)) true) .ret) .skip) from rfl];generalize (opsOf (cutAt [1,1,0,1,0,0] (aA Tryz.f106).code))=O4 at r4 ⊢;by_cases hxb:x=b
 ·rw[BY hxb]at e0;simp only[aA,Tryz.f106,KP,Ax.loadAt,↓reduceIte,reduceEqDiff,reduceLT,reduceAdd,h.cE,cutAt,g4,g8,b2,hnx,e0];refine r4 _ ?_ ?_ _ _ (λF' Y hR=>?_)
  ·simp +decide only[GS,g0]
  ·simp +decide only[GS,g2]
  rw[PO];simp only[KP];exact hr _ _ hxb hR
 ·rw[AS hxb]at e0;simp only[aA,Tryz.f106,KP,Ax.loadAt,↓reduceIte,reduceEqDiff,reduceLT,reduceAdd,h.cE,cutAt,g4,g8,b2,hnx,e0];exact hk _ hxb ⟨(by simp +decide only[GS,g0]),(by simp +decide only[GS,g1]),(by simp +decide only[GS,g2]),(by simp +decide only[GS,g3]),(by simp +decide only[GS,g4]),(by simp +decide only[GS,g5]),(by simp +decide only[GS,g6])⟩ (by simp +decide only[GS,g8])
theorem Oj (h:bE E)(h':oF E)(hl:Lb.bY E) (q:yF E) (tr:Ak E) (pt:Jo E)(he:cB Tryz.prog E)(hfs:fR Tryz.prog E)(hmix:Tryz.prog.follows .mixedOrders=true) {M:List (aC × Nat)}{many:Nat}{b:aC}{g:V}{bp:Nat}{p:List aC}{w:V}{U:Nat->Prop}{out:List (List aC)}{Z:Sg} (s:Jb Z M many b g bp p w U out) {rs:List aD}(hg:BL E rs g)(hf:Fits rs) {x:aC}{nx:Nat}(hnx:Z[nx]?=some (O.cells 51 [.bool x.1,.str x.2] true)) (F:FT) (wf:WF F bp p.length) (g8:F.get 8=.ref nx 0) {Q:Ax.X->Fr->Sg->Prop}
  (hk:∀F' v,WF F' bp p.length->Ch v (bH rs x)->F'.get 43=v->F'.get 44=.int .i64 ((bH rs x).length:Int)->F'.get 45=.int .i64 ((0:Nat):Int)->Q .normal ⟨56,F'⟩ Z):mT Tryz.prog E (cutAt [1,1,1,0] (aA Tryz.f106).code) ⟨56,F⟩ Z Q:=by
 obtain⟨g0,g1,g2,g3,g4,g5,g6⟩:=wf;have b0:=s.bx.b0;refine t_ he hfs hmix ?_;simp only[aA,Tryz.f106,KP,Ax.loadAt,↓reduceIte,reduceEqDiff,reduceLT,reduceAdd,h.cE,cutAt,pt.Ef,g5,g8,b0,hnx];refine aN (vR h h' hl q hg hf x) ?_;rintro v Y ⟨rfl,hv⟩;have lv:=lC h hv.UC.is;simp only[KP,↓reduceIte,reduceLT,lv];exact hk _ v ⟨(by simp +decide only[GS,g0]),(by simp +decide only[GS,g1]),(by simp +decide only[GS,g2]),(by simp +decide only[GS,g3]),(by simp +decide only[GS,g4]),(by simp +decide only[GS,g5]),(by simp +decide only[GS,g6])⟩ hv (by simp +decide only[GS]) (by simp +decide only[GS]) (by simp +decide only[GS])
end
end
section
section
variable {E:Env}{Z:Sg}{K:V->Sg->Prop}
theorem Dt {n:Nat}{args:List V}(h:Nat.ble args.length n=true):Fr.init n args=some ⟨n,FT.fill .leaf 0 args⟩:=by
 unfold Fr.init;rw[h];dsimp only;rw[fill_eq _ _ _ (by rw[dh];exact jq h)]
theorem Gf {f:Nat}{args:List V}{Z:Sg}{R R':V->Sg->Prop}(h:qV Tryz.prog E f args Z R) (k:∀v Y,R v Y->R' v Y):qV Tryz.prog E f args Z R':=λc xs h1 h2 h3=>(h c xs h1 h2 h3).mono λx w' ⟨v,Y,hr,hb⟩=>⟨v,Y,k v Y hr,hb⟩
theorem Pr {Z:Sg}{bq:Nat}{p:List aC}{y:aC}(h:KQ Z bq (p++[y])):KQ Z bq p:=by
 obtain⟨cs,ex,h1,h2⟩:=h;refine⟨cs,ex,h1,?_⟩;have:=au (List.take (p.length*2)) h2;rw[nq,By,dm,ju (by omega),List.flatMap_append,mm (by rw[nF];exact OF _)]at this;rw[this];exact ak (by rw[nF];exact OF _)
theorem XF {Z Y:Sg}{M:List (aC × Nat)}{many:Nat}{b:aC}{g:V}{bp:Nat}{p:List aC}{w:V}{U:Nat->Prop}{out:List (List aC)}{y:aC}{qv:V} (s:Jb Z M many b g bp p w U out)(hw:W8 Z y bp p qv Y):∃bq,qv=.sl bq 0 (p++[y]).length none/\Jb Y M many b g bq (p++[y]) w U out/\Z.length<=Y.length/\(bq=bp\/Z.length<=bq/\Y[bp]?=Z[bp]?):=by
 have hn7:=(AI.1 s.bx.b7).1;have h8:=s.h8;have hfl:(p++[y]).flatMap row=p.flatMap row++row y:=by rw[List.flatMap_append];simp
 obtain⟨cs,ex,hb,hcs⟩:=s.hp;have hbl:=(AI.1 hb).1;have kb:∀(c:Nat) (o:O),c<8->c≠6->Z[c]?=some o->Y[c]?=some o:=λc o hc _ e=>Cr hw e (by omega);have k6:=Cr hw s.b6 (by omega);have ku:∀(c:Nat) (o:O),U c->Z[c]?=some o->Y[c]?=some o:=λc o hu e=>Cr hw e λe2=>s.nU (by rw[<- e2];exact hu);rcases hw with⟨rfl,rfl⟩ | ⟨rfl,rfl⟩
 ·refine⟨bp,by rw[By];rfl,⟨s.bx.keep kb,k6,s.ou.keep ku λ_=>id,⟨_,false,bt (by rw[By];omega),?_⟩,h8,s.nU,λk hk=>⟨(s.U8 k hk).1,?_⟩⟩,?_,.inl rfl⟩
  ·rw[hfl,By,dm];refine ak ?_;rw[By,nF];show p.length*2+2<=_;omega
  ·rw[ec,By];have:=(s.U8 k hk).2;omega
  ·rw[ec,By];omega
 ·refine⟨Z.length+1,by rw[By];rfl,⟨s.bx.keep kb,k6,s.ou.keep ku λ_=>id,⟨p.flatMap row++row y,false,?_,?_⟩,by omega,λhu=>by have:=(s.U8 _ hu).2;omega,λk hk=>⟨(s.U8 k hk).1,?_⟩⟩,?_,.inr ⟨by omega,?_⟩⟩
  ·rw[br (by rw[By];exact OF _),By];simp
  ·rw[hfl,By,dm];refine ak ?_;rw[By,nF];show p.length*2+2<=_;omega
  ·rw[By,By];have:=(s.U8 k hk).2;omega
  ·rw[By,By];omega
  ·rw[b8 (by rw[By];omega),b8 hbl]
theorem RG {Z Y ρ:Sg}{M:List (aC × Nat)}{many:Nat}{b:aC}{g:V}{bp:Nat}{p:List aC}{w:V}{U:Nat->Prop}{out:List (List aC)}{y:aC}{qv:V}{bq:Nat}{out':List (List aC)} (s:Jb Z M many b g bp p w U out)(hw:W8 Z y bp p qv Y)(hlen:Z.length<=Y.length)(hq:bq=bp\/Z.length<=bq/\Y[bp]?=Z[bp]?)(h:Rw Y M many b g U bq (p++[y]) out' ρ):Rw Z M many b g U bp p out' ρ:=by
 obtain⟨h1,h2,w',U',h3,h4⟩:=h;have h8:=s.h8
 have fr:∀k o,Z[k]?=some o->k≠6->k≠bp->¬ U k->ρ[k]?=some o:=λk o hk k6 kb kU=>h2 k o (Cr hw hk kb) k6 (λe=>by
  rcases hq with rfl | ⟨hq,-⟩
  ·exact kb e
  ·have:=(AI.1 hk).1;omega) kU
 have hU:∀k,U' k->U k\/Z.length<=k:=λk hk=>(h4 k hk).imp id λg=>by omega
 obtain⟨cs,ex,hb,hcs⟩:=s.hp;have hbl:=(AI.1 hb).1;refine⟨by omega,fr,w',U',⟨h3.bx,h3.b6,h3.ou,?_,h8,λhu=>?_,h3.U8⟩,hU⟩
 ·rcases hq with rfl | ⟨hq,hqe⟩
  ·exact Pr h3.hp
  ·exact⟨cs,ex,h2 bp _ (by rw[hqe];exact hb) (by omega) (by omega) s.nU,hcs⟩
 ·rcases hU _ hu with g | g
  ·exact s.nU g
  ·omega
section
variable {rs:List aD}{M:List (aC × Nat)}{many:Nat}{b:aC}{g:V}
def Xo {E:Env} (rs:List aD) (M:List (aC × Nat)) (many:Nat) (b:aC) (g:V) (d:Nat):Prop:=∀(x:aC) (p:List aC) (Z:Sg) (bp:Nat) (w:V) (U:Nat->Prop) (out:List (List aC)),deep rs x<d->p≠[]->p[p.length-1]?=some x->p.length+deep rs x<=50000->out.length<=many->Jb Z M many b g bp p w U out ->
 qV Tryz.prog E 106 [.sl bp 0 p.length none,.ref 5 0,.ref 6 0,.ref 3 0,.ref 2 0,.ref 0 0,.ref 7 0] Z λv Y=>v=.fM []/\Rw Z M many b g U bp p (lS (λy=>(kZ M y).isSome) (bH rs) b many d p x out) Y
theorem RD (h:bE E)(h':oF E)(hl:Lb.bY E) (q:yF E) (tr:Ak E) (pt:Jo E)(he:cB Tryz.prog E)(hfs:fR Tryz.prog E)(hmix:Tryz.prog.follows .mixedOrders=true)(hf:Fits rs) {d:Nat} (ih:Xo (E:=E) rs M many b g d) {Z:Sg}{bp:Nat}{p:List aC}{w:V}{U:Nat->Prop}{out:List (List aC)} (s:Jb Z M many b g bp p w U out)(hne:p≠[]) {x:aC}(hd:deep rs x<=d)(hpl:p.length+deep rs x<=50000)(hout:out.length<=many) {v:V}(hv:Ch v (bH rs x)) {i:Nat}{y:aC}(hy:(bH rs x)[i]?=some y)(hnl:(bH rs x).length<=1000000)
  (F:FT) (wf:WF F bp p.length) (g43:F.get 43=v) (g44:F.get 44=.int .i64 ((bH rs x).length:Int)) (g45:F.get 45=.int .i64 (i:Int)) {Q:Ax.X->Fr->Sg->Prop}
  (hk:∀F' Y,WF F' bp p.length->F'.get 43=v->F'.get 44=.int .i64 ((bH rs x).length:Int)->F'.get 45=.int .i64 ((i+1:Nat):Int)->Rw Z M many b g U bp p (lS (λy=>(kZ M y).isSome) (bH rs) b many d (p++[y]) y out) Y->Q .normal ⟨56,F'⟩ Y):mT Tryz.prog E (cutAt [1,1,1,1,2,2] (aA Tryz.f106).code) ⟨56,F⟩ Z Q:=by
 have hyx:=ag hy;have hdy:=GM hf hyx;have hi:=(AI.1 hy).1;have hlt:=dP hi;have hadd:=bW i (by omega);obtain⟨gi,ei⟩:=oK h hv.UC.is hy;rw[show (cutAt [1,1,1,1,2,2] (aA Tryz.f106).code)=.seq (cutAt [1,1,1,1,2,2,0] (aA Tryz.f106).code) (.seq (.cond (.tmp 46) .skip (.exit 0)) (.seq (.block 1 (.seq (cutAt [1,1,1,1,2,2,1,1,0,2,0] (aA Tryz.f106).code) (.region 8 (opsOf (cutAt [1,1,1,1,2,2,1,1,0,2,1] (aA Tryz.f106).code)) true))) (cutAt [1,1,1,1,2,2,1,1,1] (aA Tryz.f106).code))) from rfl];refine nN (λz fr Y=>z=.normal/\Y=Z/\∃F',fr=⟨56,F'⟩/\WF F' bp p.length/\F'.get 43=v/\F'.get 44=.int .i64 ((bH rs x).length:Int)/\F'.get 45=.int .i64 (i:Int)/\F'.get 46=.bool true) (CP (t_ he hfs hmix (Q:=λz fr Y=>∃F',z=.normal/\Y=Z/\fr=⟨56,F'⟩/\F'=FT.set F 46 (.bool true)) ?_) ?_) (λz fr Y hz hn=>absurd hz.1 hn) ?_
 ·generalize hQ:(λ(z:Ax.X) (fr:Fr) (Y:Sg)=>∃F',z=.normal/\Y=Z/\fr=⟨56,F'⟩/\F'=FT.set F 46 (.bool true))=QQ;simp only[aA,Tryz.f106,KP,↓reduceIte,reduceLT,cutAt,g44,g45,hlt];rw[<- hQ];exact⟨_,rfl,rfl,rfl,rfl⟩
 ·rintro z fr Y ⟨F',rfl,rfl,rfl,rfl⟩;have e:∀t,t≠46->(FT.set F 46 (.bool true)).get t=F.get t:=λt ht=>by rw[FT.cI,an ht]
  exact⟨rfl,rfl,_,rfl,⟨(e 0 (by omega)).trans wf.g0,(e 1 (by omega)).trans wf.g1,(e 2 (by omega)).trans wf.g2,(e 3 (by omega)).trans wf.g3,(e 4 (by omega)).trans wf.g4,(e 5 (by omega)).trans wf.g5,(e 6 (by omega)).trans wf.g6⟩,(e 43 (by omega)).trans g43,(e 44 (by omega)).trans g44,(e 45 (by omega)).trans g45,by rw[FT.cI,az rfl]⟩
 clear wf g43 g44 g45 F;rintro fr Y ⟨-,rfl,F,rfl,wf,g43,g44,g45,g46⟩;refine nN (λz fr τ'=>z=.normal/\τ'=Y/\fr=⟨56,F⟩) (Ls (by simp only[aR,Ax.Fr.vI,reduceLT,bf,g46]) (t_ he hfs hmix ?_)) (λz fr Y hz hn=>absurd hz.1 hn) ?_
 ·rw[JW,PL];exact⟨rfl,rfl,rfl⟩
 rintro fr τ' ⟨-,rfl,rfl⟩;have wf':=wf;obtain⟨g0,g1,g2,g3,g4,g5,g6⟩:=wf';have s1:=s.app [O.cells 51 [.bool y.1,.str y.2] true];have n12:(τ'++[O.cells 51 [.bool y.1,.str y.2] true])[τ'.length]?=some (O.cells 51 [.bool y.1,.str y.2] true):=aL;have hbp:=s.hp;obtain⟨cs,ex,hb,hcs⟩:=s1.hp
 have hbl:bp<τ'.length:=by
  obtain⟨cs,ex,hb,-⟩:=hbp;exact (AI.1 hb).1
 refine nN (λz fr Y=>z=.normal/\∃F',fr=⟨56,F'⟩/\WF F' bp p.length/\F'.get 43=v/\F'.get 44=.int .i64 ((bH rs x).length:Int)/\F'.get 45=.int .i64 (i:Int)/\Rw τ' M many b g U bp p (lS (λy=>(kZ M y).isSome) (bH rs) b many d (p++[y]) y out) Y) (ER (λz fr Y=>z=.normal/\∃F',fr=⟨56,F'⟩/\WF F' bp p.length/\F'.get 43=v/\F'.get 44=.int .i64 ((bH rs x).length:Int)/\F'.get 45=.int .i64 (i:Int)/\Rw τ' M many b g U bp p (lS (λy=>(kZ M y).isSome) (bH rs) b many d (p++[y]) y out) Y) (nN (λz fr Y=>z=.normal/\∃F',fr=⟨56,F'⟩/\WF F' bp p.length/\F'.get 43=v/\F'.get 44=.int .i64 ((bH rs x).length:Int)/\F'.get 45=.int .i64 (i:Int)/\F'.get 12=.ref τ'.length 0/\Y=τ'++[O.cells 51 [.bool y.1,.str y.2] true]) (t_ he hfs hmix ?_) (λz fr Y hz hn=>absurd hz.1 hn) ?_) (λz fr Y hz _=>hz) (λfr Y hz=>by cases hz.1)) (λz fr Y hz hn=>absurd hz.1 hn) ?_
 ·generalize hQ:(λ(z:Ax.X) (fr:Fr) (Y:Sg)=>z=.normal/\∃F',fr=⟨56,F'⟩/\WF F' bp p.length/\F'.get 43=v/\F'.get 44=.int .i64 ((bH rs x).length:Int)/\F'.get 45=.int .i64 (i:Int)/\F'.get 12=.ref τ'.length 0/\Y=τ'++[O.cells 51 [.bool y.1,.str y.2] true])=QQ;simp only[aA,Tryz.f106,KP,Ax.loadAt,Ax.storeAt,↓reduceIte,reduceEqDiff,reduceLT,reduceAdd,h.cE,cutAt,g43,g45,ei,aL,bR];rw[<- hQ];exact⟨rfl,_,rfl,⟨(by simp +decide only[GS,g0]),(by simp +decide only[GS,g1]),(by simp +decide only[GS,g2]),(by simp +decide only[GS,g3]),(by simp +decide only[GS,g4]),(by simp +decide only[GS,g5]),(by simp +decide only[GS,g6])⟩,(by simp +decide only[GS,g43]),(by simp +decide only[GS,g44]),(by simp +decide only[GS,g45]),(by simp +decide only[GS]),rfl⟩
 ·clear g0 g1 g2 g3 g4 g5 g6 wf g43 g44 g45 g46 F;rintro fr Y ⟨-,F,rfl,wf,g43,g44,g45,g12,rfl⟩;refine CP (XD h hl pt he hfs hmix (Rr:=λρ=>Rw (τ'++[O.cells 51 [.bool y.1,.str y.2] true]) M many b g U bp p (lS (λy=>(kZ M y).isSome) (bH rs) b many d (p++[y]) y out) ρ) s1.bx.b7 n12 hb hcs s.h8 (by omega) (by omega) F wf.g0 wf.g6 g12 (λqv Y hw=>?_)) ?_
  ·obtain⟨bq,rfl,st,hlen,hq⟩:=XF s1 hw;have hc:=ih y (p++[y]) Y bq w U out (by omega) (by simp) (by rw[By,dm,o5,br (OF _),jl];rfl) (by rw[By,dm];omega) hout st;exact Gf hc λv ρ ⟨e1,hR⟩=>⟨e1,RG s1 hw hlen hq hR⟩
  ·rintro z fr Y ⟨rfl,F',rfl,hF,hR⟩;refine⟨rfl,F',rfl,wf.keep hF,(hF 43 (by omega)).trans g43,(hF 44 (by omega)).trans g44,(hF 45 (by omega)).trans g45,hR.trans (by rw[By];omega) (λk o hk _ _ _=>aJ hk) λk hk=>.inl hk⟩
 ·clear g0 g1 g2 g3 g4 g5 g6 wf g43 g44 g45 g46 F;rintro fr Y ⟨-,F,rfl,wf,g43,g44,g45,hR⟩;have wf':=wf;obtain⟨g0,g1,g2,g3,g4,g5,g6⟩:=wf';refine t_ he hfs hmix ?_;simp only[aA,Tryz.f106,KP,↓reduceIte,reduceLT,cutAt,g45,hadd];exact hk _ _ ⟨(by simp +decide only[GS,g0]),(by simp +decide only[GS,g1]),(by simp +decide only[GS,g2]),(by simp +decide only[GS,g3]),(by simp +decide only[GS,g4]),(by simp +decide only[GS,g5]),(by simp +decide only[GS,g6])⟩ (by simp +decide only[GS,g43]) (by simp +decide only[GS,g44]) (by simp +decide only[GS]) hR
theorem KW (h:bE E)(h':oF E)(hl:Lb.bY E) (q:yF E) (tr:Ak E) (pt:Jo E)(he:cB Tryz.prog E)(hfs:fR Tryz.prog E)(hmix:Tryz.prog.follows .mixedOrders=true)(hf:Fits rs) {d:Nat} (ih:Xo (E:=E) rs M many b g d) {bp:Nat}{p:List aC}(hne:p≠[]) {x:aC}(hd:deep rs x<=d)(hpl:p.length+deep rs x<=50000) {v:V}(hv:Ch v (bH rs x))(hnl:(bH rs x).length<=1000000) {σ0:Sg}{U0:Nat->Prop}{out0:List (List aC)}:∀(k i:Nat) (F:FT) (Z:Sg) (w:V) (U:Nat->Prop) (out:List (List aC)),i+k=(bH rs x).length->Jb Z M many b g bp p w U out->out.length<=many->WF F bp p.length->F.get 43=v->F.get 44=.int .i64 ((bH rs x).length:Int)->F.get 45=.int .i64 (i:Int) ->
  out=((bH rs x).take i).foldl (λout y=>lS (λy=>(kZ M y).isSome) (bH rs) b many d (p++[y]) y out) out0->(∀ρ o,Rw Z M many b g U bp p o ρ->Rw σ0 M many b g U0 bp p o ρ) ->
  Um Tryz.prog E (cutAt [1,1,1,1,2,2] (aA Tryz.f106).code) ⟨56,F⟩ Z λz fr Y=>z=.exit 0/\Rw σ0 M many b g U0 bp p ((bH rs x).foldl (λout y=>lS (λy=>(kZ M y).isSome) (bH rs) b many d (p++[y]) y out) out0) Y
 |0,i,F,Z,w,U,out,hk,s,hout,wf,g43,g44,g45,ho,ht=>by
  have hlt:decide ((i:Int)<((bH rs x).length:Int))=false:=AS (by omega);refine EO (λz fr Y=>z=.exit 0/\Y=Z) (t_ he hfs hmix ?_) ?_ (λfr Y hz=>by cases hz.1)
  ·generalize hQ:(λ(z:Ax.X) (fr:Fr) (Y:Sg)=>z=.exit 0/\Y=Z)=QQ;rw[show (cutAt [1,1,1,1,2,2] (aA Tryz.f106).code)=.seq (cutAt [1,1,1,1,2,2,0] (aA Tryz.f106).code) (.seq (.cond (.tmp 46) .skip (.exit 0)) (cutAt [1,1,1,1,2,2,1,1] (aA Tryz.f106).code)) from rfl];simp only[aA,Tryz.f106,KP,↓reduceIte,reduceLT,cutAt,g44,g45,hlt];rw[<- hQ];exact⟨rfl,rfl⟩
  ·rintro z fr Y ⟨rfl,rfl⟩ -;refine⟨rfl,?_⟩;rw[ak (by omega)]at ho;rw[<- ho];exact ht _ _ (Rw.refl s)
 |k+1,i,F,Z,w,U,out,hk,s,hout,wf,g43,g44,g45,ho,ht=>by
  obtain⟨y,hy⟩:∃y,(bH rs x)[i]?=some y:=⟨_,AT (by omega)⟩;refine EO (λz fr Y=>z=.normal/\∃F',fr=⟨56,F'⟩/\WF F' bp p.length/\F'.get 43=v/\F'.get 44=.int .i64 ((bH rs x).length:Int)/\F'.get 45=.int .i64 ((i+1:Nat):Int)/\Rw Z M many b g U bp p (lS (λy=>(kZ M y).isSome) (bH rs) b many d (p++[y]) y out) Y) (RD h h' hl q tr pt he hfs hmix hf ih s hne hd hpl hout hv hy hnl F wf g43 g44 g45 λF' Y k1 k2 k3 k4 k5=>⟨rfl,F',rfl,k1,k2,k3,k4,k5⟩) (λz fr Y hz hn=>absurd hz.1 hn) ?_;rintro fr Y ⟨-,F',rfl,wf,g43,g44,g45,hR⟩;have hR':=hR;obtain⟨h1,h2,w',U',s',h4⟩:=hR';refine KW h h' hl q tr pt he hfs hmix hf ih hne hd hpl hv hnl k (i+1) F' Y w' U' _ (by omega) s' (EB _ _ _ _ _ _ _ _ hout) wf g43 g44 g45 ?_ λρ o hρ=>ht ρ o (hρ.trans h1 h2 h4);rw[ek,hy,List.foldl_append,<- ho];rfl
theorem Om (h:bE E)(h':oF E)(hl:Lb.bY E) (q:yF E) (tr:Ak E) (pt:Jo E)(he:cB Tryz.prog E)(hfs:fR Tryz.prog E)(hmix:Tryz.prog.follows .mixedOrders=true)(hf:Fits rs)(hg:BL E rs g)(hm:many<=1000):∀d,Xo (E:=E) rs M many b g d
 |0=>λx p Z bp w U out hd=>by omega
 |d+1=>λx p Z bp w U out hd hne hx hpl hout s=>by
  have ih:=Om h h' hl q tr pt he hfs hmix hf hg hm d;have hal:=qH hf;have hnl:(bH rs x).length<=1000000:=fh (jG (vA rs x).nodup λy hy=>zK x y hy) (by omega);refine EP he hfs pt.abO (Dt (by kernel_rfl)) ?_;have wf:WF (FT.fill .leaf 0 [.sl bp 0 p.length none,.ref 5 0,.ref 6 0,.ref 3 0,.ref 2 0,.ref 0 0,.ref 7 0]) bp p.length:=⟨(by simp +decide only[GS]),(by simp +decide only[GS]),(by simp +decide only[GS]),(by simp +decide only[GS]),(by simp +decide only[GS]),(by simp +decide only[GS]),(by simp +decide only[GS])⟩;generalize FT.fill .leaf 0 [.sl bp 0 p.length none,.ref 5 0,.ref 6 0,.ref 3 0,.ref 2 0,.ref 0 0,.ref 7 0]=F at wf;have fin:∀(z:Ax.X) (fr:Fr) (Y:Sg),((z=.normal\/z=.ret)/\Rw Z M many b g U bp p (lS (λy=>(kZ M y).isSome) (bH rs) b many (d+1) p x out) Y)->(z=.normal\/z=.ret)/\∃vs,Ax.results E fr Y (aA Tryz.f106).results=some vs/\((match vs with | [v]=>v | vs=>V.fM vs)=V.fM []/\Rw Z M many b g U bp p (lS (λy=>(kZ M y).isSome) (bH rs) b many (d+1) p x out) Y):=λz fr Y ⟨h1,h2⟩=>⟨h1,[],rfl,rfl,h2⟩;refine CP ?_ fin;show mT Tryz.prog E (aA Tryz.f106).code _ _ _;rw[show (aA Tryz.f106).code=.seq (cutAt [0] (aA Tryz.f106).code) (.seq (cutAt [1,0] (aA Tryz.f106).code) (.seq (cutAt [1,1,0] (aA Tryz.f106).code) (.seq (cutAt [1,1,1,0] (aA Tryz.f106).code) (.block 0 (.loop (cutAt [1,1,1,1,2,2] (aA Tryz.f106).code)))))) from rfl];refine nN (λz fr Y=>z=.normal/\∃F',fr=⟨56,F'⟩/\WF F' bp p.length/\F'.get 8=.ref Z.length 0/\Y=Z++[O.cells 51 [.bool x.1,.str x.2] true]) (Oh h h' hl q tr pt he hfs hmix s hne (by omega) hx F wf λF' k1 k2=>⟨rfl,F',rfl,k1,k2,rfl⟩) (λz fr Y hz hn=>absurd hz.1 hn) ?_;rintro fr Y ⟨-,F1,rfl,wf1,g8,rfl⟩;have s1:=s.app [O.cells 51 [.bool x.1,.str x.2] true];have nx:(Z++[O.cells 51 [.bool x.1,.str x.2] true])[Z.length]?=some (O.cells 51 [.bool x.1,.str x.2] true):=aL;have up:∀{o ρ},Rw (Z++[O.cells 51 [.bool x.1,.str x.2] true]) M many b g U bp p o ρ->Rw Z M many b g U bp p o ρ:=λhR=>hR.trans (by rw[By];omega) (λk o hk _ _ _=>aJ hk) λk hk=>.inl hk;refine nN (λz fr Y=>Y=Z++[O.cells 51 [.bool x.1,.str x.2] true]/\((z=.ret/\((kZ M x).isSome=false\/many<=out.length))\/(z=.normal/\(kZ M x).isSome=true/\¬ many<=out.length/\∃F',fr=⟨56,F'⟩/\WF F' bp p.length/\F'.get 8=.ref Z.length 0))) (RE h h' hl q tr pt he hfs hmix s1 hm nx F1 wf1 g8 (by omega) (λF' hc=>⟨rfl,.inl ⟨rfl,hc⟩⟩) λF' k1 k2 k3 k4=>⟨rfl,.inr ⟨rfl,k1,k2,F',rfl,k3,k4⟩⟩) ?_ ?_
  ·rintro z fr Y ⟨rfl,⟨rfl,hc⟩ | ⟨rfl,-⟩⟩ hn
   ·refine⟨.inr rfl,?_⟩;unfold lS;rw[az hc];exact up (Rw.refl s1)
   ·exact absurd rfl hn
  rintro fr Y ⟨rfl,⟨hz,-⟩ | ⟨-,hdm,hnm,F2,rfl,wf2,g8⟩⟩
  ·cases hz
  have hgo:¬ ((kZ M x).isSome=false\/many<=out.length):=λhc=>hc.elim (λe=>by rw[hdm]at e;cases e) hnm;refine nN (λz fr Y=>(z=.ret/\x=b/\Rw (Z++[O.cells 51 [.bool x.1,.str x.2] true]) M many b g U bp p (out++[p]) Y)\/(z=.normal/\x≠b/\Y=Z++[O.cells 51 [.bool x.1,.str x.2] true]/\∃F',fr=⟨56,F'⟩/\WF F' bp p.length/\F'.get 8=.ref Z.length 0)) (Og h h' hl q tr pt he hfs hmix s1 hne (by omega) (by omega) nx F2 wf2 g8 (λF' Y k1 k2=>.inl ⟨rfl,k1,k2⟩) λF' k1 k2 k3=>.inr ⟨rfl,k1,rfl,F',rfl,k2,k3⟩) ?_ ?_
  ·rintro z fr Y (⟨rfl,hxb,hR⟩ | ⟨rfl,-⟩) hn
   ·refine⟨.inr rfl,?_⟩;unfold lS;rw[an hgo,az hxb];exact up hR
   ·exact absurd rfl hn
  rintro fr Y (⟨hz,-⟩ | ⟨-,hxb,rfl,F3,rfl,wf3,g8⟩)
  ·cases hz
  refine nN (λz fr Y=>z=.normal/\Y=Z++[O.cells 51 [.bool x.1,.str x.2] true]/\∃F' v,fr=⟨56,F'⟩/\WF F' bp p.length/\Ch v (bH rs x)/\F'.get 43=v/\F'.get 44=.int .i64 ((bH rs x).length:Int)/\F'.get 45=.int .i64 ((0:Nat):Int)) (Oj h h' hl q tr pt he hfs hmix s1 hg hf nx F3 wf3 g8 λF' v k1 k2 k3 k4 k5=>⟨rfl,rfl,F',v,rfl,k1,k2,k3,k4,k5⟩) (λz fr Y hz hn=>absurd hz.1 hn) ?_;rintro fr Y ⟨-,rfl,F4,v,rfl,wf4,hv,g43,g44,g45⟩;refine ER _ (O_ (KW h h' hl q tr pt he hfs hmix hf ih hne (by omega) (by omega) hv hnl (bH rs x).length 0 F4 _ w U out (by omega) s1 hout wf4 g43 g44 g45 (by rw[ki];rfl) λρ o hR=>hR)) ?_ ?_
  ·rintro z fr Y ⟨rfl,-⟩ hn;exact absurd rfl hn
  ·rintro fr Y ⟨-,hR⟩;refine⟨.inl rfl,?_⟩;unfold lS;rw[an hgo,an hxb];exact up hR
end
end
end
structure EqE (E:Env):Prop where
 hs20:E.hspec 20=none
 RX:E.spec 20=none
 fn20:E.fn 20=some (aA Tryz.f20)
 md20:E.mode 20=.eS
 d20_6:aM E (cutAt [1,1,0,1,2,2,1,0,2,0] (aA Tryz.f20).code)=true
 hs87:E.hspec 87=none
 sp87:E.spec 87=none
 fn87:E.fn 87=some (aA Tryz.f87)
 md87:E.mode 87=.eS
 fn27:E.fn 27=some (aA Tryz.f27)
 md27:E.mode 27=.eS
 zA:fJ E (Ax.two id (opsOf (cutAt [1,1,0,1,2,2,1,0,2,0] (aA Tryz.f27).code)) 8)=.no
 zB:fJ E (Ax.two (sw 8) (opsOf (cutAt [1,1,0,1,2,2,1,0,2,0] (aA Tryz.f27).code)) 8)=.no
 pA:cH E .no (Ax.two id (opsOf (cutAt [1,1,0,1,2,2,1,0,2,0] (aA Tryz.f27).code)) 8)=some [⟨3,8,false,true⟩,⟨3,9,false,true⟩,⟨7,8,false,true⟩,⟨7,9,false,true⟩,⟨7,10,false,true⟩]
 pB:cH E .no (Ax.two (sw 8) (opsOf (cutAt [1,1,0,1,2,2,1,0,2,0] (aA Tryz.f27).code)) 8)=some [⟨3,8,false,true⟩,⟨3,9,false,true⟩,⟨7,8,false,true⟩,⟨7,9,false,true⟩,⟨7,10,false,true⟩]
 d27_12:aM E (cutAt [1,1,0,1,2,2,1,0,2,1,1,1,2,2,1,0,2,0] (aA Tryz.f27).code)=true
section
section
variable {E:Env}{Z:Sg}{K:V->Sg->Prop}
def acB (x:aD) (r:List V):Prop:=∃a b c d,r=[.str x.name,a,b,c,d]/\IS aO a x.ins/\IS aO b x.outs/\IS aO c x.after/\IS eZ d x.steps
structure Box2 (F:FT) (x y:aD) (F':FT) (Y:Sg):Prop where
 g0:F'.get 0=F.get 0
 g1:F'.get 1=F.get 1
 g5:F'.get 5=F.get 5
 bx:∃p r,F'.get 6=.ref p 0/\acB x r/\Y[p]?=some (.cells 46 r true)
 by':∃p r,F'.get 7=.ref p 0/\acB y r/\Y[p]?=some (.cells 46 r true)
end
end
section
section
variable {E:Env}{Z:Sg}{K:V->Sg->Prop}
theorem Rs {α:Type}{P:List V->α->Prop}(hp:∀r x y,P r x->P r y->x=y):∀{rs:List (List V)}{l m:List α},eJ P rs l->eJ P rs m->l=m:=by
 intro rs
 induction rs with
 |nil=>intro l m h1 h2;cases h1;cases h2;rfl
 |cons r rs ih=>
  intro l m h1 h2;cases h1 with
  |cons a1 a2=>cases h2 with
   |cons b1 b2=>rw[hp _ _ _ a1 b1,ih a2 b2]
theorem vH {α:Type}{L:Lay α}(hp:∀r x y,L.P r x->L.P r y->x=y) {v:V}{l m:List α}(h1:IS L v l)(h2:IS L v m):l=m:=by
 rcases h1 with⟨rfl,rfl⟩ | ⟨g,rs,f,rfl,a1⟩
 ·rcases h2 with⟨-,rfl⟩ | ⟨g,rs,f,e,-⟩
  ·rfl
  ·cases e
 ·rcases h2 with⟨e,-⟩ | ⟨g',rs',f',e,a2⟩
  ·cases e
  ·cases e;exact Rs hp a1 a2
theorem str_inj:∀r x y,aO.P r x->aO.P r y->x=y:=λr x y h1 h2=>by
 have e:[V.str x]=[V.str y]:=Eq.trans (Eq.symm h1) h2;cases e;rfl
theorem OC:∀r x y,eZ.P r x->eZ.P r y->x=y:=λr x y h1 h2=>by
 obtain⟨a,b,rfl,h3,h4⟩:=h1;obtain⟨a',b',e,h5,h6⟩:=h2;obtain⟨x1,x2,x3,x4,x5⟩:=x;obtain⟨y1,y2,y3,y4,y5⟩:=y;dsimp only at e h3 h4 h5 h6;injection e with e1 e;injection e with e2 e;injection e with e3 e;injection e with e4 e;injection e with e5 e;injection e1 with e1;injection e2 with _ e2;injection e5 with _ e5;subst e1 e2 e3 e4 e5;rw[vH str_inj h3 h5,vH str_inj h4 h6]
theorem HK:∀r x y,dN.P r x->dN.P r y->x=y:=λr x y h1 h2=>by
 obtain⟨a,b,c,d,rfl,h3,h4,h5,h6⟩:=h1;obtain⟨a',b',c',d',e,k3,k4,k5,k6⟩:=h2;obtain⟨x1,x2,x3,x4,x5⟩:=x;obtain⟨y1,y2,y3,y4,y5⟩:=y;dsimp only at e h3 h4 h5 h6 k3 k4 k5 k6;injection e with e1 e;injection e with e2 e;injection e with e3 e;injection e with e4 e;injection e with e5 e;injection e1 with e1;subst e1 e2 e3 e4 e5;rw[vH str_inj h3 k3,vH str_inj h4 k4,vH str_inj h5 k5,vH OC h6 k6]
def KU (vs:List V) (p:List aD × List aD):Prop:=∃a b,vs=[a,b]/\IS dN a p.1/\IS dN b p.2/\(∀x∈p.1,Small x)/\p.1.length<=1000
theorem KU.inj {vs:List V}{p r:List aD × List aD}(h1:KU vs p)(h2:KU vs r):p=r:=by
 obtain⟨a,b,rfl,k1,k2,-⟩:=h1;obtain⟨a',b',e,m1,m2,-⟩:=h2;injection e with e1 e;injection e with e2 e;subst e1 e2;exact Prod.ext (vH HK k1 m1) (vH HK k2 m2)
open Classical in
end
end
section
section
variable {E:Env}{Z:Sg}{K:V->Sg->Prop}
structure UO (E:Env) (b:Code) (Q:Ax.X->Fr->Sg->Prop) (x:Ax.X) (fr:Fr) (Y:Sg):Prop where
 n:x=.normal
 s:mT Tryz.prog E b fr Y Q
theorem pL (he:cB Tryz.prog E)(hfs:fR Tryz.prog E)(hmix:Tryz.prog.follows .mixedOrders=true) {a b:Code}{fr:Fr}{Q:Ax.X->Fr->Sg->Prop}(h:Ax.R E a [] fr Z (UO E b Q)):mT Tryz.prog E (.seq a b) fr Z Q:=
 nN (UO E b Q) (t_ he hfs hmix h) (λx fr Y hx hn=>absurd hx.n hn) λfr Y hx=>hx.s
theorem Hw {f:Nat}{s:List V->Option V}(h:∀vs v,s vs=some v->qV Tryz.prog E f vs [] λu Z=>cG Z E.ty false u=some v):fF Tryz.prog E f s:=by
 intro d vs xs v hd hs hv hm;have hi:=rR hs []
 have hvi:fD (d.inner (d.fQ [])) vs xs:=by
  refine fD.mono ?_ hv
  have ho:∀k,¬ d.own k:=by
   rintro k ⟨b,⟨o,ho,_⟩,_⟩;rw[hd]at ho;cases ho
  have hanc:(d.inner (d.fQ [])).nJ=d.nJ:=by
   funext k;exact propext ⟨λh=>h.resolve_right (ho k),λh=>.inl h⟩
  exact⟨OF _,λk _ _=>⟨rfl,nE⟩,by rw[hd];exact OF _,λ_ _=>rfl,λ_ _=>rfl,λ_ _=>rfl,hanc,rfl,rfl,rfl⟩
 refine (h vs v hm _ xs hi rfl hvi).mono ?_;rintro x w' ⟨u,σ1,hR,d1,rfl,hσ,hx,hsd,hxv⟩;rw[<- hσ]at hR;obtain⟨g1,g2,g3⟩:=pE hs hx hsd hxv hR;exact⟨(d.fQ []).outer d1.w,rfl,hd,g1,g2,g3⟩
def xH (p:List aC):V:=.bS false (p.map row) false
def jS (l:List (List aC)):V:=if l=[] then .aF else .bS false (l.map λp=>[xH p]) false
theorem OY (hl:Lb.bY E) {Z:Sg}{j n:Nat}{p:List aC}(hj:Z[j]?=some (.cells 51 (p.flatMap row) false)):bG Z E.ty false (n+2) (.sl j 0 p.length none)=some (xH p):=by
 have hlen:(p.flatMap row).length=p.length*2:=nF p;have htk:((p.flatMap row).drop 0).take (p.length*2)=p.flatMap row:=by rw[fc,ak (by omega)]
 have hm:aX (λv=>match bG Z E.ty false (n+1) v with
   |some v=>if cL false v then some v else Ax.no "snap: borrowed"
   |none=>none) (((p.flatMap row).drop 0).take (p.length*2))=some (p.flatMap row):=by
  rw[htk];refine f_ λx hx=>?_;obtain⟨y,-,hy⟩:=jb.1 hx;unfold row at hy;simp only[IT,cr,fu]at hy;rcases hy with rfl | rfl <;> rfl
 rw[bG];simp only[hj,hl.cE];rw[az (by omega)]
 refine Eq.trans (au (λo=>match o with
  |some l=>some (V.bS false (Ax.rows 2 p.length l) (false&&decide (0<2)&&(0+p.length*2==(p.flatMap row).length)))
  |none=>none) hm) ?_
 show some (V.bS false (Ax.rows 2 p.length (p.flatMap row)) _)=_;rw[Aw];rfl
theorem OZ (hl:Lb.bY E) {Z:Sg}{w:V}{U:Nat->Prop}{l:List (List aC)}(ho:Jf Z w U l):cG Z E.ty false w=some (jS l):=by
 obtain⟨us,hv,-,ha⟩:=ho;rcases hv with⟨rfl,rfl⟩ | ⟨hn,b,rfl,hb⟩
 ·cases ha;rfl
 ·have key:∀(us:List V) (l:List (List aC)),eJ (λu p=>∃bu,u=.sl bu 0 p.length none/\U bu/\p≠[]/\Z[bu]?=some (.cells 51 (p.flatMap row) false)) us l->aX (λv=>match bG Z E.ty false 11 v with
    |some v=>if cL false v then some v else Ax.no "snap: borrowed"
    |none=>none) us=some (l.map xH):=by
   intro us l ha
   induction ha with
   |nil=>rfl
   |cons p _ ih=>
    obtain⟨bu,rfl,-,-,hbu⟩:=p;simp only[aX,OY hl (n:=9) hbu,show ∀p,cL false (xH p)=true from λ_=>rfl,bf,ih];rfl
  have hul:=ha.len;have htk:(us.drop 0).take (us.length*1)=us:=by rw[fc,ak (by omega)]
  have m2:aX (λv=>match bG Z E.ty false 11 v with
   |some v=>if cL false v then some v else Ax.no "snap: borrowed"
   |none=>none) ((us.drop 0).take (us.length*1))=some (l.map xH):=by rw[htk];exact key us l ha
  have h0:l≠[]:=λe=>hn (ik.1 (by rw[hul,e];rfl))
  have e:bG Z E.ty false 12 (.sl b 0 us.length none)=some (jS l):=by
   rw[bG];simp only[hb,hl.iI];rw[az (by omega)]
   refine Eq.trans (au (λo=>match o with
    |some l=>some (V.bS false (Ax.rows 1 us.length l) (false&&decide (0<1)&&(0+us.length*1==us.length)))
    |none=>none) m2) ?_
   show some (V.bS false (Ax.rows 1 us.length (l.map xH)) _)=_
   have:Ax.rows 1 us.length (l.map xH)=l.map λp=>[xH p]:=by
    rw[hul,show l.length=(l.map xH).length by rw[bj],Lw,jv];rfl
   rw[this,jS,an h0];rfl
  show aU.one Z E.ty false _=_;unfold aU.one;rw[show dL=12 from rfl,e];have ht:cL false (jS l)=true:=by rw[jS,an h0];rfl
  simp only[ht,bf]
end
end
section
section
variable {E:Env}{Z:Sg}{K:V->Sg->Prop}
def manyN (m:Int):Nat:=(min (max m 0) 200).toNat
theorem PK (m:Int):manyN m<=200:=by unfold manyN;omega
open Classical in
noncomputable def E1 (rs:List aD) (b y:aC):Bool:=decide (∃n,Rk (gC rs) (λx=>x∈[b]/\x∈eE rs) n y)
open Classical in
theorem TF {rs:List aD}{b:aC}{M:List (aC × Nat)} (dd:D_ rs [b] M):(λy=>(kZ M y).isSome)=E1 rs b:=by
 funext y;unfold E1;by_cases hy:∃n,Rk (gC rs) (λx=>x∈[b]/\x∈eE rs) n y
 ·rw[BY hy];obtain⟨n,hn⟩:=hy;obtain⟨d,-,hd⟩:=FP.some hn;rw[(dd.is y d).2 hd];rfl
 ·rw[AS hy];cases hd:kZ M y with
  |none=>rfl
  |some d=>exact absurd ⟨d,((dd.is y d).1 hd).1⟩ hy
noncomputable def jA (rs:List aD) (a b:aC) (m:Int):List (List aC):=if a∈eE rs then lS (E1 rs b) (bH rs) b (manyN m) 2001 [a] a [] else []
theorem Su (m:Int):(if (200:Int)<(if m<0 then 0 else m) then (200:Int) else (if m<0 then 0 else m))=((manyN m:Nat):Int):=by
 unfold manyN;by_cases h1:m<0
 ·rw[az h1,an (by omega)];omega
 ·rw[an h1];by_cases h2:200<m
  ·rw[az h2];omega
  ·rw[an h2];omega
theorem p_r1 (h:bE E)(h':oF E)(hl:Lb.bY E) (q:yF E) (tr:Ak E) (pt:Jo E)(he:cB Tryz.prog E)(hfs:fR Tryz.prog E)(hmix:Tryz.prog.follows .mixedOrders=true) {g:V}{a b:aC}{m:Int} (F:FT) (g7:F.get 7=.ref 3 0) {Q:Ax.X->Fr->Sg->Prop}(hk:∀F',(∀k,k≠12->k≠13->k≠14->F'.get k=F.get k)->Q .normal ⟨29,F'⟩ [.cells 27 [g] true,O.cells 51 [.bool a.1,.str a.2] true,O.cells 51 [.bool b.1,.str b.2] true,.cells 3 [.int .i64 ((manyN m:Nat):Int)] true]) :
  Ax.R E (cutAt [1,0] (aA Tryz.f38).code) [] ⟨29,F⟩ [.cells 27 [g] true,O.cells 51 [.bool a.1,.str a.2] true,O.cells 51 [.bool b.1,.str b.2] true,.cells 3 [.int .i64 m] true] Q:=by
 have hm:=Su m
 have fin:∀v1 v2 v3,(∀k,k≠12->k≠13->k≠14->(FT.set (FT.set (FT.set F 12 v1) 13 v2) 14 v3).get k=F.get k):=λv1 v2 v3 k h1 h2 h3=>by
  rw[FT.cI,an h3,FT.cI,an h2,FT.cI,an h1]
 by_cases h1:m<0
 ·rw[az h1,an (by decide)]at hm;have e1:((200:Int)<0)=False:=by simp
  simp only[aA,Tryz.f38,KP,Ax.loadAt,Ax.storeAt,↓reduceIte,reduceEqDiff,reduceLT,cutAt,h.mB,g7,gF,h1,e1];rw[hm];exact hk _ (fin _ _ _)
 ·rw[an h1]at hm;by_cases h2:200<m
  ·rw[az h2]at hm;simp only[aA,Tryz.f38,KP,Ax.loadAt,Ax.storeAt,↓reduceIte,reduceEqDiff,reduceLT,cutAt,h.mB,g7,gF,h1,h2];rw[hm];exact hk _ (fin _ _ _)
  ·rw[an h2]at hm;simp only[aA,Tryz.f38,KP,Ax.loadAt,Ax.storeAt,↓reduceIte,reduceEqDiff,reduceLT,cutAt,h.mB,g7,gF,h1,h2];rw[<- hm]at hk;exact hk _ (fin _ _ _)
theorem M3 (h:bE E)(h':oF E)(hl:Lb.bY E) (q:yF E) (tr:Ak E) (pt:Jo E)(he:cB Tryz.prog E)(hfs:fR Tryz.prog E)(hmix:Tryz.prog.follows .mixedOrders=true) {g:V}{rs:List aD}(hg:BL E rs g)(hf:Fits rs) (a b:aC) (m:Int):qV Tryz.prog E 38 [g,.agg [.bool a.1,.str a.2],.agg [.bool b.1,.str b.2],.int .i64 m] [] λu Y=>cG Y E.ty false u=some (jS (jA rs a b m)):=by
 have hgk:g.aY=true/\g.cells=[g]:=by
  obtain⟨es0,es1,get,A,L3,L4,rfl,hi⟩:=hg;exact⟨rfl,rfl⟩
 obtain⟨gk1,gk2⟩:=hgk;refine EP he hfs pt.fn38 (Dt (by kernel_rfl)) ?_;generalize hQ:(λ(x:Ax.X) (fr:Fr) (Z:Sg)=>(x=.normal\/x=.ret)/\∃vs,Ax.results E fr Z (aA Tryz.f38).results=some vs/\cG Z E.ty false (match vs with | [v]=>v | vs=>V.fM vs)=some (jS (jA rs a b m)))=Q;show mT Tryz.prog E (aA Tryz.f38).code ⟨29,FT.fill .leaf 0 [g,.agg [.bool a.1,.str a.2],.agg [.bool b.1,.str b.2],.int .i64 m]⟩ [] Q;have f0:(FT.fill .leaf 0 [g,.agg [.bool a.1,.str a.2],.agg [.bool b.1,.str b.2],.int .i64 m]).get 0=g:=(by simp +decide only[GS]);have f1:(FT.fill .leaf 0 [g,.agg [.bool a.1,.str a.2],.agg [.bool b.1,.str b.2],.int .i64 m]).get 1=.agg [.bool a.1,.str a.2]:=(by simp +decide only[GS]);have f2:(FT.fill .leaf 0 [g,.agg [.bool a.1,.str a.2],.agg [.bool b.1,.str b.2],.int .i64 m]).get 2=.agg [.bool b.1,.str b.2]:=(by simp +decide only[GS]);have f3:(FT.fill .leaf 0 [g,.agg [.bool a.1,.str a.2],.agg [.bool b.1,.str b.2],.int .i64 m]).get 3=.int .i64 m:=(by simp +decide only[GS]);generalize FT.fill .leaf 0 [g,.agg [.bool a.1,.str a.2],.agg [.bool b.1,.str b.2],.int .i64 m]=F at f0 f1 f2 f3;rw[show (aA Tryz.f38).code=.seq (cutAt [0] (aA Tryz.f38).code) (.seq (cutAt [1,0] (aA Tryz.f38).code) (.seq (cutAt [1,1,0] (aA Tryz.f38).code) (.seq (cutAt [1,1,1,0] (aA Tryz.f38).code) (.seq (cutAt [1,1,1,1,0] (aA Tryz.f38).code) (.seq (cutAt [1,1,1,1,1,0] (aA Tryz.f38).code) (.seq (.seq (cutAt [1,1,1,1,1,1,0,0] (aA Tryz.f38).code) (.cond (.tmp 23) (.region 7 (opsOf (cutAt [1,1,1,1,1,1,0,1,0] (aA Tryz.f38).code)) false) .skip)) (cutAt [1,1,1,1,1,1,1] (aA Tryz.f38).code))))))) from rfl];have k1:=λF g7 Q hk=>p_r1 h h' hl q tr pt he hfs hmix (g:=g) (a:=a) (b:=b) (m:=m) F g7 (Q:=Q) hk;refine pL he hfs hmix ?_;generalize hN:UO E _ Q=NX;simp only[aA,Tryz.f38,KP,↓reduceIte,reduceEqDiff,reduceLT,reduceAdd,h.cE,cutAt,pt.Ef,h.mB,f0,f1,f2,f3,gk1,gk2];rw[<- hN];refine⟨rfl,?_⟩;clear hN;refine pL he hfs hmix (k1 _ ?_ _ λF1 hF=>⟨rfl,?_⟩)
 ·simp +decide only[GS]
 have q4:F1.get 4=.ref 0 0:=(hF 4 (by omega) (by omega) (by omega)).trans (by simp +decide only[GS]);have q5:F1.get 5=.ref 1 0:=(hF 5 (by omega) (by omega) (by omega)).trans (by simp +decide only[GS]);have q6:F1.get 6=.ref 2 0:=(hF 6 (by omega) (by omega) (by omega)).trans (by simp +decide only[GS]);have q7:F1.get 7=.ref 3 0:=(hF 7 (by omega) (by omega) (by omega)).trans (by simp +decide only[GS]);clear hF f0 f1 f2 f3 k1 F;have sb:LS eW 51 [.cells 27 [g] true,O.cells 51 [.bool a.1,.str a.2] true,O.cells 51 [.bool b.1,.str b.2] true,.cells 3 [.int .i64 ((manyN m:Nat):Int)] true,O.cells 51 [.bool b.1,.str b.2] true] (.sl 4 0 1 none) [b]:=.inr ⟨4,_,_,[row b],rfl,rfl,.one rfl,rfl⟩;refine pL he hfs hmix ?_;generalize hN:UO E _ Q=NX;simp only[aA,Tryz.f38,KP,Ax.loadAt,↓reduceIte,reduceEqDiff,reduceLT,reduceLeDiff,reduceAdd,reduceMul,h.iI,h.cE,cutAt,pt.Ef,q4,q6,mM];refine aN (BI h h' hl q tr hg hf sb (by simp)) ?_;rintro v Y ⟨rfl,M,rfl,dd⟩;simp only[KP,Ax.storeAt,↓reduceIte,reduceEqDiff,reduceLT,reduceAdd,tr.qN];rw[<- hN];refine⟨rfl,?_⟩;clear hN;refine pL he hfs hmix ?_;generalize hN:UO E _ Q=NX;simp only[aA,Tryz.f38,KP,↓reduceIte,reduceLT,reduceAdd,cutAt,pt.An];rw[<- hN];refine⟨rfl,?_⟩;clear hN;refine pL he hfs hmix ?_;generalize hN:UO E _ Q=NX;simp only[aA,Tryz.f38,KP,↓reduceIte,reduceLT,reduceAdd,cutAt,pt.K1];rw[<- hN];refine⟨rfl,?_⟩;clear hN;refine pL he hfs hmix ?_;generalize hN:UO E _ Q=NX;simp only[aA,Tryz.f38,KP,Ax.storeAt,↓reduceIte,reduceEqDiff,reduceLT,cutAt,pt.K1,q4,q6,q7];rw[<- hN];refine⟨rfl,?_⟩;clear hN
 have fin:∀(z:Ax.X) (fr:Fr) (Y:Sg),(z=.normal/\∃F' w U,fr=⟨29,F'⟩/\F'.get 10=.ref 6 0/\Y[6]?=some (.cells 54 [w] true)/\Jf Y w U (jA rs a b m))->mT Tryz.prog E (cutAt [1,1,1,1,1,1,1] (aA Tryz.f38).code) fr Y Q:=by
  rintro z fr Y ⟨-,F',w,U,rfl,g10,h6,ho⟩;refine t_ he hfs hmix ?_;simp only[aA,Tryz.f38,KP,Ax.loadAt,↓reduceIte,reduceLT,cutAt,pt.An,g10,h6];rw[<- hQ];refine⟨.inr rfl,[w],?_,OZ hl ho⟩;simp only[aA,Tryz.f38,KP,↓reduceIte,reduceLT]
 generalize hFF:FT.set _ 19 _=F2;have p4:F2.get 4=.ref 0 0:=by rw[<- hFF];simp +decide only[GS,q4]
 have p5:F2.get 5=.ref 1 0:=by rw[<- hFF];simp +decide only[GS,q5]
 have p10:F2.get 10=.ref 6 0:=by rw[<- hFF];simp +decide only[GS]
 have p11:F2.get 11=.ref 7 0:=by rw[<- hFF];simp +decide only[GS]
 clear hFF q4 q5 q6 q7 F1;refine nN (λz fr Y=>z=.normal/\∃F' w U,fr=⟨29,F'⟩/\F'.get 10=.ref 6 0/\Y[6]?=some (.cells 54 [w] true)/\Jf Y w U (jA rs a b m)) ?_ (λz fr Y hz hn=>absurd hz.1 hn) λfr Y hz=>fin _ _ _ hz;clear fin;generalize hQ2:(λ(z:Ax.X) (fr:Fr) (Y:Sg)=>z=.normal/\∃F' w U,fr=⟨29,F'⟩/\F'.get 10=.ref 6 0/\Y[6]?=some (.cells 54 [w] true)/\Jf Y w U (jA rs a b m))=Q2;refine pL he hfs hmix ?_;generalize hN:UO E _ Q2=NX;have kk:=λY=>dD λK=>GU (Z:=Y) (K:=K) h h' hl q hg hf a;by_cases ha:a∈eE rs
 ·have z1:decide (kindOf rs a=0)=false:=AS (GB ha);simp only[aA,Tryz.f38,KP,Ax.loadAt,↓reduceIte,reduceEqDiff,reduceLT,reduceAdd,h.cE,cutAt,pt.Ef,p4,p5,kk,z1];rw[<- hN];refine⟨rfl,?_⟩;clear hN;have e:∀t v1 v2 v3 v4,t≠20->t≠21->t≠22->t≠23->(FT.set (FT.set (FT.set (FT.set F2 20 v1) 21 v2) 22 v3) 23 v4).get t=F2.get t:=λt v1 v2 v3 v4 h1 h2 h3 h4=>by rw[FT.cI,an h4,FT.cI,an h3,FT.cI,an h2,FT.cI,an h1]
  refine Ls (by simp only[aR,Ax.Fr.vI,reduceLT,bf,FT.cI]) (JR ?_);generalize hFF:FT.set _ 23 _=F3;have r5:F3.get 5=.ref 1 0:=by rw[<- hFF,e _ _ _ _ _ (by omega) (by omega) (by omega) (by omega)];exact p5
  have r10:F3.get 10=.ref 6 0:=by rw[<- hFF,e _ _ _ _ _ (by omega) (by omega) (by omega) (by omega)];exact p10
  have r11:F3.get 11=.ref 7 0:=by rw[<- hFF,e _ _ _ _ _ (by omega) (by omega) (by omega) (by omega)];exact p11
  clear hFF e p4 p5 p10 p11 F2;rw[show List.range ((opsOf (cutAt [1,1,1,1,1,1,0,1,0] (aA Tryz.f38).code))).size=[0,1,2,3] from by kernel_rfl];refine pM he hfs hmix (n:=0) (frz:=.no) (v:=(V.fn 106 [] [.ref 5 0,.ref 6 0,.ref 3 0,.ref 2 0,.ref 0 0,.ref 7 0])) (σ1:=[.cells 27 [g] true,O.cells 51 [.bool a.1,.str a.2] true,O.cells 51 [.bool b.1,.str b.2] true,.cells 3 [.int .i64 ((manyN m:Nat):Int)] true,O.cells 51 [.bool b.1,.str b.2] true,.cells 131 [.imp false (M.map dV)] true,.cells 54 [.aF] true,.cells 136 [(V.fn 106 [] [.ref 5 0,.ref 6 0,.ref 3 0,.ref 2 0,.ref 0 0,.ref 7 0])] true]) (show ((opsOf (cutAt [1,1,1,1,1,1,0,1,0] (aA Tryz.f38).code)))[0]?=some _ from rfl) rfl ?_ ?_
  ·simp only[aA,Tryz.f38,KP,Ax.loadAt,↓reduceIte,reduceLT,lG,aS,cutAt,opsOf,oh,nh,pt.K1,r11]
  refine pM he hfs hmix (n:=0) (frz:=.no) (v:=.agg [.bool a.1,.str a.2]) (σ1:=[.cells 27 [g] true,O.cells 51 [.bool a.1,.str a.2] true,O.cells 51 [.bool b.1,.str b.2] true,.cells 3 [.int .i64 ((manyN m:Nat):Int)] true,O.cells 51 [.bool b.1,.str b.2] true,.cells 131 [.imp false (M.map dV)] true,.cells 54 [.aF] true,.cells 136 [(V.fn 106 [] [.ref 5 0,.ref 6 0,.ref 3 0,.ref 2 0,.ref 0 0,.ref 7 0])] true]) (show ((opsOf (cutAt [1,1,1,1,1,1,0,1,0] (aA Tryz.f38).code)))[1]?=some _ from rfl) rfl ?_ ?_
  ·simp only[aA,Tryz.f38,KP,Ax.loadAt,↓reduceIte,reduceEqDiff,reduceLT,reduceAdd,h.cE,lG,aS,cutAt,opsOf,oh,nh,qa,cT,r5]
  refine pM he hfs hmix (n:=0) (frz:=.no) (v:=.sl 8 0 1 none) (σ1:=[.cells 27 [g] true,O.cells 51 [.bool a.1,.str a.2] true,O.cells 51 [.bool b.1,.str b.2] true,.cells 3 [.int .i64 ((manyN m:Nat):Int)] true,O.cells 51 [.bool b.1,.str b.2] true,.cells 131 [.imp false (M.map dV)] true,.cells 54 [.aF] true,.cells 136 [(V.fn 106 [] [.ref 5 0,.ref 6 0,.ref 3 0,.ref 2 0,.ref 0 0,.ref 7 0])] true]++[O.cells 51 [.bool a.1,.str a.2] true]) (show ((opsOf (cutAt [1,1,1,1,1,1,0,1,0] (aA Tryz.f38).code)))[2]?=some _ from rfl) rfl ?_ ?_
  ·simp only[aA,Tryz.f38,KP,↓reduceIte,reduceLT,reduceLeDiff,reduceAdd,reduceMul,h.iI,h.cE,lG,aS,cutAt,opsOf,oh,nh,qa,cT,mM,Fz.lits]
  have st:Jb ([.cells 27 [g] true,O.cells 51 [.bool a.1,.str a.2] true,O.cells 51 [.bool b.1,.str b.2] true,.cells 3 [.int .i64 ((manyN m:Nat):Int)] true,O.cells 51 [.bool b.1,.str b.2] true,.cells 131 [.imp false (M.map dV)] true,.cells 54 [.aF] true,.cells 136 [(V.fn 106 [] [.ref 5 0,.ref 6 0,.ref 3 0,.ref 2 0,.ref 0 0,.ref 7 0])] true]++[O.cells 51 [.bool a.1,.str a.2] true]) M (manyN m) b g 8 [a] .aF (λ_=>False) []:=⟨⟨rfl,rfl,rfl,rfl,rfl⟩,rfl,⟨[],.inl ⟨rfl,rfl⟩,λb hb=>(by cases hb),.nil⟩,⟨_,_,rfl,rfl⟩,OF _,λhf=>hf,λk hk=>hk.elim⟩;have hc:=Om (rs:=rs) (M:=M) (many:=manyN m) (b:=b) (g:=g) h h' hl q tr pt he hfs hmix hf hg (fh (PK m) (by omega)) 2001 a [a] _ 8 .aF (λ_=>False) [] (Nat.lt_succ_of_le (Cg rs a)) (by simp) rfl (by have:=Cg rs a;rw[dm];omega) (ij _) st;refine ES (f:=.tmp 24) (args:=#[.tmp 26]) (l':=[.sl 8 0 1 none]) (first:=[]) (cap:=[.ref 5 0,.ref 6 0,.ref 3 0,.ref 2 0,.ref 0 0,.ref 7 0]) (show ((opsOf (cutAt [1,1,1,1,1,1,0,1,0] (aA Tryz.f38).code)))[3]?=some _ from rfl) rfl rfl ?_ ?_ hc ?_
  ·simp only[aA,Tryz.f38,KP,↓reduceIte,reduceEqDiff,reduceLT,cutAt,opsOf,oh,nh,qa,cT]
  ·simp only[aA,Tryz.f38,KP,↓reduceIte,reduceLT,cutAt,opsOf,oh,nh,qa,cT]
  ·rintro v Y ⟨rfl,-,-,w,U,s,-⟩;refine CQ ?_;simp only[aA,Tryz.f38,KP,↓reduceIte,reduceLT,cutAt,opsOf,oh,nh,qa,cT];rw[<- hQ2];refine⟨rfl,_,w,U,rfl,(by simp +decide only[GS,r10]),s.b6,?_⟩;have:=s.ou;rw[TF dd]at this;unfold jA;rw[az ha];exact this
 ·have z1:decide (kindOf rs a=0)=true:=BY (Dl ha);simp only[aA,Tryz.f38,KP,Ax.loadAt,↓reduceIte,reduceEqDiff,reduceLT,reduceAdd,h.cE,cutAt,pt.Ef,p4,p5,kk,z1];rw[<- hN];refine⟨rfl,?_⟩;clear hN;refine VH (by simp only[aR,Ax.Fr.vI,reduceLT,bf,FT.cI]) (t_ he hfs hmix ?_);rw[JW,PL,<- hQ2];refine⟨rfl,_,.aF,λ_=>False,rfl,(by simp +decide only[GS,p10]),rfl,[],.inl ⟨rfl,rfl⟩,λb hb=>(by cases hb),?_⟩;unfold jA;rw[an ha];exact .nil
end
end
section
section
variable {E:Env}{Z:Sg}{K:V->Sg->Prop}
theorem WE {E E':Env}(h:bE E)(h':bE E') (x y:V):dF E 9 x y=dF E' 9 x y:=by
 unfold dF;rw[h.dG,h'.dG]
theorem BL.env {E E':Env}(h:bE E)(h':bE E') {rs:List aD}{v:V}(hg:BL E rs v):BL E' rs v:=by
 obtain⟨es0,es1,get,A,L3,L4,e,hi⟩:=hg;refine⟨es0,es1,get,A,L3,L4,e,⟨hi.rules,⟨hi.sm.1,λk=>?_⟩,hi.sv,hi.LN,hi.li,hi.nA,hi.n3,hi.n4,hi.k3,hi.k4⟩⟩;rw[<- hi.sm.2 k,show dF E' 9=dF E 9 from funext λx=>funext λy=>WE h' h x y]
theorem Ch.inj {v:V}{l m:List aC}(h1:Ch v l)(h2:Ch v m):l=m:=by
 have inj:∀(l m:List aC),l.map row=m.map row->l=m:=by
  intro l
  induction l with
  |nil=>intro m e;cases m with
   |nil=>rfl
   |cons y m=>cases e
  |cons x l ih=>intro m e;cases m with
   |nil=>cases e
   |cons y m=>
    rw[bh,bh]at e;injection e with e1 e2;unfold row at e1;injection e1 with e1 e3;injection e3 with e3 _;injection e1 with e1;injection e3 with e3;rw[ih m e2,Prod.ext e1 e3]
 rcases h1 with⟨rfl,rfl⟩ | ⟨f,rfl⟩
 ·rcases h2 with⟨-,rfl⟩ | ⟨f,e⟩
  ·rfl
  ·cases e
 ·rcases h2 with⟨e,-⟩ | ⟨f',e⟩
  ·cases e
  ·injection e with _ e _;exact inj _ _ e
theorem DV {E:Env}{f:Nat}{args:List V}{Z:Sg}{P R:V->Sg->Prop}(h1:aB E f args Z P)(h2:aB E f args Z R):∃v Y,P v Y/\R v Y:=by
 obtain⟨n1,v1,τ1,p,c1⟩:=aB.up h1;obtain⟨n2,v2,τ2,r,c2⟩:=aB.up h2;have e:=(c1 (max n1 n2) (Nat.le_max_left ..)).symm.trans (c2 (max n1 n2) (ql ..));injection e with e;injection e with e1 e2;subst e1 e2;exact⟨v1,τ1,p,r⟩
section
variable (h:bE E)(h':oF E)(hl:Lb.bY E) (q:yF E) {g:V}{rs rs':List aD}(hg:BL E rs g)(hf:Fits rs)(hg':BL E rs' g)(hf':Fits rs')
include h h' hl q hg hf hg' hf'
theorem Qq (x:aC):bH rs x=bH rs' x:=by
 obtain⟨v,Y,⟨-,a⟩,-,b⟩:=DV (vR (Z:=[]) h h' hl q hg hf x) (vR (Z:=[]) h h' hl q hg' hf' x);exact a.inj b
theorem Qo (x:aC):gC rs x=gC rs' x:=by
 obtain⟨v,Y,⟨-,a⟩,-,b⟩:=DV (D5 (Z:=[]) h h' hl q hg hf x) (D5 (Z:=[]) h h' hl q hg' hf' x);exact a.inj b
theorem Wx:eE rs=eE rs':=by
 obtain⟨v,Y,⟨-,a⟩,-,b⟩:=DV (QW (Z:=[]) h h' hl q hg hf) (QW (Z:=[]) h h' hl q hg' hf');exact a.inj b
theorem Qp (a b:aC) (m:Int):jA rs a b m=jA rs' a b m:=by
 have e1:bH rs=bH rs':=funext (Qq h h' hl q hg hf hg' hf');have e2:gC rs=gC rs':=funext (Qo h h' hl q hg hf hg' hf');have e3:=Wx h h' hl q hg hf hg' hf'
 have e4:E1 rs b=E1 rs' b:=by
  funext y;unfold E1;rw[e2,e3]
 unfold jA;rw[e1,e3,e4]
end
def Je (vs:List V) (p:List aD × aC × aC × Int):Prop:=∃g E,vs=[g,.agg [.bool p.2.1.1,.str p.2.1.2],.agg [.bool p.2.2.1.1,.str p.2.2.1.2],.int .i64 p.2.2.2]/\bE E/\BL E p.1 g/\Fits p.1
open Classical in
noncomputable def mZ (vs:List V):Option V:=if h:∃p,Je vs p then some (jS (jA (Classical.choose h).1 (Classical.choose h).2.1 (Classical.choose h).2.2.1 (Classical.choose h).2.2.2)) else none
theorem Gb (h:bE E)(h':oF E)(hl:Lb.bY E) (q:yF E) {g:V}{rs:List aD}(hg:BL E rs g)(hf:Fits rs) (a b:aC) (m:Int):mZ [g,.agg [.bool a.1,.str a.2],.agg [.bool b.1,.str b.2],.int .i64 m]=some (jS (jA rs a b m)):=by
 have hx:∃p,Je [g,.agg [.bool a.1,.str a.2],.agg [.bool b.1,.str b.2],.int .i64 m] p:=⟨(rs,a,b,m),g,E,rfl,h,hg,hf⟩;unfold mZ;rw[dif_pos hx];have hp:=Classical.choose_spec hx;generalize Classical.choose hx=p at hp;obtain⟨rs',a',b',m'⟩:=p;obtain⟨g',E',e,r',hg',hf'⟩:=hp;dsimp only at e hg' hf' ⊢;injection e with e1 e;injection e with e2 e;injection e with e3 e;injection e with e4 e;subst e1
 have lab:∀{x y:aC},V.agg [.bool x.1,.str x.2]=V.agg [.bool y.1,.str y.2]->x=y:=λ{x y} e=>by
  injection e with e;injection e with e1 e;injection e with e2 e;injection e1 with e1;injection e2 with e2;exact Prod.ext e1 e2
 obtain rfl:=lab e2;obtain rfl:=lab e3;injection e4 with _ e4;subst e4;rw[Qp h h' hl q hg hf (hg'.env r' h) hf']
theorem Ga (h:bE E)(h':oF E)(hl:Lb.bY E) (q:yF E) (tr:Ak E) (pt:Jo E)(he:cB Tryz.prog E)(hfs:fR Tryz.prog E)(hmix:Tryz.prog.follows .mixedOrders=true):fF Tryz.prog E 38 mZ:=by
 refine Hw λvs v hv=>?_;unfold mZ at hv;split at hv
 case isFalse=>cases hv
 rename_i hx;injection hv with hv;subst hv;generalize Classical.choose hx=p,Classical.choose_spec hx=hp;obtain⟨rs',a',b',m'⟩:=p;obtain⟨g',E',e,r',hg',hf'⟩:=hp;dsimp only at e hg' hf' ⊢;subst e;exact M3 h h' hl q tr pt he hfs hmix (hg'.env r' h) hf' a' b' m'
structure PsE (E:Env):Prop where
 aae:E.hspec 38=none
 XM:E.spec 38=some mZ
theorem MF (l:List (List aC)):Ax.bD (jS l)=true:=by
 unfold jS;split <;> rfl
theorem JO (l:List (List aC)):cG [] E.ty false (jS l)=some (jS l):=by
 have hi:=MF l;have ht:cL false (jS l)=true:=by unfold jS;split <;> rfl
 have e:cG [] E.ty false (jS l)=aU [] E.ty false (jS l):=by unfold jS;split <;> rfl
 rw[e];exact cJ hi ht
theorem T7 (h:bE E)(h':oF E)(hl:Lb.bY E) (q:yF E) (ps:PsE E) {g:V}{rs:List aD}(hg:BL E rs g)(hf:Fits rs) (a b:aC) (m:Int):aB E 38 [g,.agg [.bool a.1,.str a.2],.agg [.bool b.1,.str b.2],.int .i64 m] Z K=K (jS (jA rs a b m)) Z:=by
 have e1:=cJ (Z:=Z) (ty:=E.ty) hg.bD (bV hg.bD);have e2:∀x:aC,aU Z E.ty true (.agg [.bool x.1,.str x.2])=some (.agg [.bool x.1,.str x.2]):=λx=>rfl;exact qL (args':=[g,.agg [.bool a.1,.str a.2],.agg [.bool b.1,.str b.2],.int .i64 m]) ps.aae ps.XM (by simp only[aX,e1,e2,show aU Z E.ty true (.int .i64 m)=some (.int .i64 m) from rfl]) (Gb h h' hl q hg hf a b m) (JO _)
end
end
end Go.Proofs.YtmbikbgdbbcbmaaGreatDoor
end
section
namespace Go.Proofs.YtmbikbgdbbcbmaaGreatDoor
open Go Go.Ax
noncomputable def XJ:BT (List V->Option V):=(.node 185 (.node 159 (.leaf 11 (bJ t11)) (.leaf 159 nX)) (.node 267 (.leaf 185 kJ) (.node 308 (.leaf 267 jJ) (.leaf 308 vZ))))
noncomputable def Uq:Env:=ground.env XJ
noncomputable def spL:BT (List V->Option V):=(.node 185 (.node 38 (.leaf 11 (bJ t11)) (.node 159 (.leaf 38 mZ) (.leaf 159 nX))) (.node 267 (.leaf 185 kJ) (.node 308 (.leaf 267 jJ) (.leaf 308 vZ))))
noncomputable def LE:Env:=ground.env spL
end Go.Proofs.YtmbikbgdbbcbmaaGreatDoor
end
section
namespace Go.Proofs.YtmbikbgdbbcbmaaGreatDoor.Lb
open Go Go.Ax Go.AxS
section
def IV (v:V) (ks:List aC):Prop:=ks.Nodup/\∃g g',v=.cZ g [.imp g' (kO ks)]
def Small (ks:List aC):Prop:=ks.length<=3000/\∀k∈ks,k.2.length<=9223372036854775807
section
variable {E:Env}{Z:Sg}{K:V->Sg->Prop}
theorem PY (h:bY E) (g g':Bool) (es:List (V × V)):loadAt E Z 88 (.cZ g [.imp g' es])=some (.imp g' es):=by
 unfold loadAt;rw[h.sJ];rfl
theorem xJ {ks:List aC}(hn:ks.Nodup)(hlen:ks.length<=1000000)(hstr:∀k∈ks,k.2.length<=9223372036854775807) {j:Nat}{g:Bool}(hj:Z[j]?=some (.cells 88 [.imp g (kO ks)] true)) :
  kF 51 [154] [] 118 [.fn 154 [] [.ref j 0],.fn 118 [] []] Z=some (if ks=[] then (.aF,Z) else (.sl Z.length 0 ks.length none,Z++[.cells 51 ((setOf ks).flatMap row) false])):=by
 have hk:keysOf Z [154] [] (.fn 154 [] [.ref j 0])=some (ks.map row):=by
  unfold keysOf;simp only[hj];exact au some (Ay ks)
 show nQ 51 [154] [] kD pY (.fn 154 [] [.ref j 0]) Z=_;unfold nQ;rw[hk];cases hks:ks with
 |nil=>rfl
 |cons k r=>
  have ha:=tU ks hstr;have hs:=As hn;rw[hks]at ha hs hlen;rw[bh]at ha hs ⊢;rw[an (by simp)]
  show (match allRows kD (row k::r.map row),Nat.ble (row k::r.map row).length 1000000 with
   |true,true=>some (V.sl Z.length 0 (row k::r.map row).length none,Z++[O.cells 51 (kS pY (row k::r.map row)).flatten false])
   |_,_=>none)=_
  rw[ha,kg (by simpa using hlen),hs,DD];simp
theorem GW (h:bY E) {g:Bool}{es:List (V × V)}:aB E 117 [.imp g es] Z K=K (.fn 154 [] [.ref Z.length 0]) (Z++[.cells 88 [.imp g es] true]):=by
 refine aB.of ?_;rw[cN h.Qk h.OW h.Qw h.PD,aW (by kernel_rfl)];simp only[aA,Tryz.f117,KP,↓reduceIte,reduceEqDiff,reduceLT,h.sJ]
theorem Ta (h:bY E) {g:Bool}{es:List (V × V)}{ops:Array Oper}{l:List Oper}{dst:Option Nat}{st:List kH}{Q:Ax.X->Fr->Sg->Prop}{fr:Fr}:Ai E 117 [.imp g es] Z dst fr ops l st Q=dM E ops l (some (cT fr dst (.fn 154 [] [.ref Z.length 0]),Z++[.cells 88 [.imp g es] true])) st Q:=IX λ_=>GW h
theorem KF (h:bY E) {v:V}{ks:List aC}(hv:IV v ks)(hsm:Small ks):aB E 65 [v] Z λr σ'=>Own Z σ' r (setOf ks)/\qJ Z σ':=by
 obtain⟨hn,g,g',rfl⟩:=hv;rw[cN h.Ws h.Va h.Wz h.V3,aW (by kernel_rfl)];simp only[aA,Tryz.f65,KP,↓reduceIte,reduceLT,reduceCtorEq,h.sJ,h.uG,h.Ho,PY h,mP,Ta h]
 have hj:(Z++[O.cells 88 [.imp g' (kO ks)] true])[Z.length]?=some (.cells 88 [.imp g' (kO ks)] true):=by
  rw[br (OF _),jl];rfl
 have hsk:=xJ hn (by have:=hsm.1;omega) hsm.2 hj;unfold Ai;rw[l_ h.Ql,hsk];by_cases hks:ks=[]
 ·rw[az hks,zT];simp only[KP,↓reduceIte,reduceLT];subst hks;exact⟨.inl ⟨rfl,rfl⟩,qJ.app _ _⟩
 ·rw[an hks,zT];simp only[KP,↓reduceIte,reduceLT];refine⟨.inr ⟨_,?_,by rw[sO hn],?_⟩,λj o e=>jD (jD e _) _⟩
  ·rw[By];omega
  ·rw[br (OF _),jl];rfl
structure UnionI (E:Env):Prop where
 hs:E.hspec 61=none
 sp:E.spec 61=none
 fn:E.fn 61=some (aA Tryz.f61)
 md:E.mode 61=.eS
end
end
section
section
variable {E:Env}{Z:Sg}{K:V->Sg->Prop}
def idx (p:aC->Bool):List aC->Nat->Int
 | [],_=>-1
 |x::l,k=>if p x=true then (k:Int) else idx p l (k+1)
end
end
section
section
variable {E:Env}{Z:Sg}{K:V->Sg->Prop}
theorem EG (h:bY E) {j o:Nat}{cs:List V}{ex:Bool}(hj:Z[j]?=some (.cells 51 cs ex))(ho:o+2<=cs.length) (a:Bool) (s:List Nat):storeAt E Z 51 (.ref j o) (.agg [.bool a,.str s])=some (Z.set j (.cells 51 (setCells cs o [.bool a,.str s]) ex)):=by
 unfold storeAt;simp only[h.cE,hj];refine (az ?_).trans rfl;rw[BY ho];rfl
structure Del (Z σ':Sg) (j n:Nat) (l:List aC) (p:aC->Bool) (i jj:Nat) (cs:List V):Prop where
 at_:σ'[j]?=some (.cells 51 cs false)
 len:cs.length=n*2
 lt:i<jj
 le:jj<=n
 cnt:((l.take jj).filter λx=>!p x).length=i
 left:cs.take (i*2)=((l.take jj).filter λx=>!p x).flatMap row
 right:cs.drop (jj*2)=(l.drop jj).flatMap row
 kp:∀j' o,j'≠j->Z[j']?=some o->σ'[j']?=some o
end
end
section
section
variable {E:Env}{Z:Sg}{K:V->Sg->Prop}
theorem CI {b:Nat}{w:V}{ks:List aC}{ex:Bool}(hw:IV w ks)(hb:Z[b]?=some (.cells 84 [w] ex)):aU Z E.ty true (.ref b 0)=some (.cZ true [w]):=by
 obtain⟨hn,g,g',rfl⟩:=hw
 have e2:bG Z E.ty true 12 (.ref b 0)=some (.cZ true [.cZ g [.imp g' (kO ks)]]):=by
  rw[bG];simp only[hb];rfl
 show (match bG Z E.ty true 12 (.ref b 0) with
  |some v=>if cL true v then some v else no "snap: borrowed"
  |none=>none)=_
 rw[e2];rfl
end
end
end Go.Proofs.YtmbikbgdbbcbmaaGreatDoor.Lb
end
section
namespace Go.Proofs.YtmbikbgdbbcbmaaGreatDoor
open Go Go.Ax Go.AxS
structure RgE (E:Env):Prop where
 ty70:E.ty 70=some { kd:=.jT [(0,22),(1,23),(2,68)],size:=3,bytes:=72,zero:=.agg [.aF,.aF,.aF] }
 ty29:E.ty 29=some { kd:=.ptr 70,size:=1,bytes:=8,zero:=.fP }
 hs76:E.hspec 76=none
 sp76:E.spec 76=none
 fn76:E.fn 76=some (aA Tryz.f76)
 md76:E.mode 76=.eS
 d76_4:aM E (cutAt [1,1,0,1,0,0] (aA Tryz.f76).code)=true
 d76_6:aM E (cutAt [1,1,1,1,0] (aA Tryz.f76).code)=true
 hs14:E.hspec 14=none
 R4:E.spec 14=none
 fn14:E.fn 14=some (aA Tryz.f14)
 md14:E.mode 14=.eS
 z14_5:fJ E (opsOf (cutAt [1,1,0,1,2,2,1,0,2,0] (aA Tryz.f14).code))=.no
 p14_5:cH E .no (opsOf (cutAt [1,1,0,1,2,2,1,0,2,0] (aA Tryz.f14).code))=some [⟨4,9,false,true⟩,  ⟨4,10,false,true⟩]
 d14_6:aM E (cutAt [1,1,0,1,2,2,1,0,2,1,0] (aA Tryz.f14).code)=true
 z14_7:fJ E (opsOf (cutAt [1,1,0,1,2,2,1,0,2,1,1,0] (aA Tryz.f14).code))=.no
 p14_7:cH E .no (opsOf (cutAt [1,1,0,1,2,2,1,0,2,1,1,0] (aA Tryz.f14).code))=some [⟨5,10,true,false⟩]
 z14_15:fJ E (opsOf (cutAt [1,1,1,0,1,2,2,1,0,2,0] (aA Tryz.f14).code))=.no
 p14_15:cH E .no (opsOf (cutAt [1,1,1,0,1,2,2,1,0,2,0] (aA Tryz.f14).code))=some [⟨4,10,false,true⟩,  ⟨4,11,false,true⟩]
 d14_19:aM E (cutAt [1,1,1,0,1,2,2,1,0,2,1,1,2,2,1,0,2] (aA Tryz.f14).code)=true
 hs18:E.hspec 18=none
 RZ:E.spec 18=none
 fn18:E.fn 18=some (aA Tryz.f18)
 md18:E.mode 18=.eS
 d18_5:aM E (cutAt [1,1,0,1,2,2,1,0,2,0] (aA Tryz.f18).code)=true
 hs41:E.hspec 41=none
 sp41:E.spec 41=none
 fn41:E.fn 41=some (aA Tryz.f41)
 md41:E.mode 41=.eS
 d41_4:aM E (cutAt [1,0,1,2,2,1,0,2,0] (aA Tryz.f41).code)=true
 d41_5:aM E (cutAt [1,0,1,2,2,1,0,2,1,0] (aA Tryz.f41).code)=true
end Go.Proofs.YtmbikbgdbbcbmaaGreatDoor
end
section
namespace Go.Proofs.YtmbikbgdbbcbmaaGreatDoor.Lb
open Go Go.Ax Go.AxS
def pos:List aC->aC->Nat
 | [],_=>0
 |y::r,x=>if lt y x=true then pos r x+1 else 0
end Go.Proofs.YtmbikbgdbbcbmaaGreatDoor.Lb
end
section
namespace Go.Proofs.YtmbikbgdbbcbmaaGreatDoor
open Go Go.Ax Go.AxS
section
section
variable {E:Env}{Z:Sg}{K:V->Sg->Prop}
def Uo (t:Nat) (Z:Sg) (w:V) (R:List (List V)):Prop:=(w=.aF/\R=[])\/∃b ex,w=.sl b 0 R.length none/\Z[b]?=some (.cells t R.flatten ex)
theorem Uo.keep {t:Nat}{Z σ':Sg}{w:V}{R:List (List V)}(h:Uo t Z w R) (k:∀c o,aQ w=some c->Z[c]?=some o->σ'[c]?=some o):Uo t σ' w R:=by
 rcases h with h | ⟨b,ex,rfl,hb⟩
 ·exact .inl h
 ·exact .inr ⟨b,ex,rfl,k b _ rfl hb⟩
def Xm (Y:Sg) (r:List V) (x:aD):Prop:=∃a b c w,r=[.str x.name,a,b,c,w]/\kI aO a x.ins/\kI aO b x.outs/\kI aO c x.after/\bB gD 82 Y w x.steps
def RlO (Y:Sg) (w:V) (rs:List aD):Prop:=∃R,Uo 46 Y w R/\eJ (Xm Y) R rs
theorem JT {Y τ':Sg}{R:List (List V)}{rs:List aD}(h2:eJ (Xm Y) R rs) (k:∀(c:Nat) (cs:List V) (ex:Bool),Y[c]?=some (.cells 82 cs ex)->τ'[c]?=some (.cells 82 cs ex)):eJ (Xm τ') R rs:=by
 induction h2 with
 |nil=>exact .nil
 |cons p _ ih=>
  obtain⟨a,b,c,u,e,i1,i2,i3,ow⟩:=p;refine .cons ⟨a,b,c,u,e,i1,i2,i3,?_⟩ ih;rcases ow with h0 | ⟨d,q,ex,rfl,hb,ha⟩
  ·exact .inl h0
  ·exact .inr ⟨d,q,ex,rfl,k _ _ _ hb,ha⟩
theorem RlO.keep {Y τ':Sg}{w:V}{rs:List aD}(h:RlO Y w rs) (k:∀(c:Nat) (cs:List V) (ex:Bool) (t:Nat),t=46\/t=82->Y[c]?=some (.cells t cs ex)->τ'[c]?=some (.cells t cs ex)):RlO τ' w rs:=by
 obtain⟨R,h1,h2⟩:=h;refine⟨R,?_,?_⟩
 ·rcases h1 with h1 | ⟨b,ex,rfl,hb⟩
  ·exact .inl h1
  ·exact .inr ⟨b,ex,rfl,k _ _ _ _ (.inl rfl) hb⟩
 ·exact JT h2 λc cs ex e=>k c cs ex _ (.inr rfl) e
end
end
section
section
variable {E:Env}{Z:Sg}{K:V->Sg->Prop}
def nd (rs:List aD) (i k:Nat):Bool:=match (eE rs)[i]?,(eE rs)[k]? with
 |some x,some y=>decide (y∈bH rs x)
 |_,_=>false
end
end
section
section
variable {E:Env}{Z:Sg}{K:V->Sg->Prop}
def RgV (rs:List aD) (v:V):Prop:=∃rv lv nv,v=.cZ false [rv,lv,nv]/\kI m_ rv rs/\Ch lv (eE rs)/\kI uR nv (Jn (eE rs).length (nd rs))
end
end
section
section
variable {E:Env}{Z:Sg}{K:V->Sg->Prop}
def UP (rs:List aD) (v:List Bool) (P:aC->Prop):Prop:=v.length=(eE rs).length/\∀(k:Nat) (x:aC) (b:Bool),(eE rs)[k]?=some x->v[k]?=some b->(b=true ↔ P x)
theorem UP.congr {rs:List aD}{v:List Bool}{P Q:aC->Prop}(h:UP rs v P) (e:∀x,x∈eE rs->(P x ↔ Q x)):UP rs v Q:=⟨h.1,λk x b hx hb=>(h.2 k x b hx hb).trans (e x (ag hx))⟩
theorem UP.at {rs:List aD}{v:List Bool}{P:aC->Prop}(h:UP rs v P) {k:Nat}{x:aC}(hx:(eE rs)[k]?=some x):∃b,v[k]?=some b/\(b=true ↔ P x):=by
 have hk:=(AI.1 hx).1;have hv:v[k]?=some (v[k]'(by rw[h.1];exact hk)):=AT _;exact⟨_,hv,h.2 k x _ hx hv⟩
theorem UP.set {rs:List aD}{v:List Bool}{P Q:aC->Prop}(h:UP rs v P) {k:Nat}{x:aC}{c:Bool}(hx:(eE rs)[k]?=some x)(hc:c=true ↔ Q x) (e:∀y,y∈eE rs->y≠x->(P y ↔ Q y)):UP rs (v.set k c) Q:=by
 refine⟨by rw[ec];exact h.1,λj y b hy hb=>?_⟩;have hk:=(AI.1 hx).1;by_cases hjk:k=j
 ·subst hjk;rw[bt (by rw[h.1];exact hk)]at hb;cases hb;rw[hx]at hy;cases hy;exact hc
 ·rw[No hjk]at hb;refine (h.2 j y b hy hb).trans (e y (ag hy) λe2=>hjk ?_);subst e2;have hnd:=(Mu rs).nodup;obtain⟨h1,e1⟩:=AI.1 hx;obtain⟨h2,e2⟩:=AI.1 hy;exact (List.getElem_inj hnd).1 (e1.trans e2.symm)
end
end
end Go.Proofs.YtmbikbgdbbcbmaaGreatDoor
end
