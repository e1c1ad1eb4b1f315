/- Part 19 of the proof. -/
import Derived.Test.YtmhchflckonklaaGreatDoorY
import Derived.Test.YtmhchflckonklaaGreatDoorZ18
import Derived.Test.YtmhchflckonklaaGreatDoorZ17
import Derived.Test.YtmhchflckonklaaGreatDoorZ16
import Derived.Test.YtmhchflckonklaaGreatDoorZ15
set_option maxHeartbeats 8000000
set_option linter.unusedVariables false
set_option maxRecDepth 100000
open Nat (reduceLT reduceEqDiff reduceAdd reduceLeDiff reduceMul)
open Int (reduceNeg reduceLE)
section
namespace Go.Proofs.YtmhchflckonklaaGreatDoor
open Go Go.Ax Go.AxS
section
section
variable {E:Env}{Z:Sg}{K:V->Sg->Prop}
theorem SN (h:bK E)(h':tP E)(hl:Lb.cH E) (q:Kh E) (tr:IL E) {g:V}{rs:List aD}(hg:LW E rs g)(hf:Fits rs) {b:Nat}{lv:V}{ls:List aG} (iv:IS eS lv ls)(hls:ls.length<=1000000) {Y:Sg}(hb:Y[b]?=some (.map []))
  (F:FT) (g0:F.get 0=g) (g1:F.get 1=lv) (g5:F.get 5=.mp b) (g6:F.get 6=.aF) {st:List gT}{Q:Ax.X->Fr->Sg->Prop}
  (hk:∀F' τ' wn D now,F'.get 0=g->F'.get 5=.mp b->F'.get 6=wn->τ'[b]?=some (.map (D.map dV))->(D.map Prod.fst).Nodup->aV eS 51 τ' wn now->Sd rs ls (D.map Prod.fst) now->(∀x,x∈D.map Prod.fst->oZ D x=some 0)->M E st .normal ⟨85,F'⟩ τ' Q):Ax.R E (cutAt [1,1,1,0] (aA Tryz.f96).code) st ⟨85,F⟩ Y Q:=by
 have la:=f_ h iv
 simp only[aA,Tryz.f96,KP,↓reduceIte,reduceLT,cutAt,g1,la]
 refine aS (λi F2 τ2=>F2.get 0=g/\F2.get 5=.mp b/\F2.get 19=lv/\F2.get 20=.int .i64 (ls.length:Int)/\F2.get 21=.int .i64 (i:Int)/\∃D now wn,F2.get 6=wn/\τ2[b]?=some (.map (D.map dV))/\(D.map Prod.fst).Nodup/\aV eS 51 τ2 wn now/\Sd rs (ls.take i) (D.map Prod.fst) now/\∀x,x∈D.map Prod.fst->oZ D x=some 0) ls.length ?_ ?_ ls.length 0 _ _ (by omega) (iY (by simp +decide only[GS,g0,g5,ag]) ⟨[],[],.aF,(by simp +decide only[GS,g6]),hb,List.nodup_nil,.inl ⟨rfl,rfl⟩,⟨(λx=>by simp),(λx=>by simp),ae _⟩,λx hx=>by cases hx⟩)
 ·rintro j F2 τ2 hj ⟨g0,g5,g19,g20,g21,D,now,wn,g6,hb,hnd,on,sd,h0⟩ next
  obtain⟨x,hx⟩:∃x,ls[j]?=some x:=⟨_,BY hj⟩
  obtain⟨gi,e1⟩:=kU h iv hx
  have hlt:=dG hj
  have hadd:=bQ j (by omega)
  have hAl:(D.map Prod.fst).length<=2000:=e8 (iT hnd λy hy=>((sd.mem y).1 hy).2) (gN hf)
  have hnl:=sd.len
  have kk:=λ(Y:Sg)=>cU λK=>LO (Z:=Y) (K:=K) h h' hl q hg hf x
  have hz2:(τ2++[O.cells 51 [.bool x.1,.str x.2] true])[τ2.length]?=some (O.cells 51 [.bool x.1,.str x.2] true):=aL
  have hb2:(τ2++[O.cells 51 [.bool x.1,.str x.2] true])[b]?=some (.map (D.map dV)):=aJ hb
  have on2:=on.app [O.cells 51 [.bool x.1,.str x.2] true]
  have lk:=BM (Z:=τ2++[O.cells 51 [.bool x.1,.str x.2] true]) (v:=.mp b) h hl tr (show entriesOf _ (.mp b)=some (D.map dV) by unfold entriesOf;simp only[hb2]) x
  rw[aC]
  by_cases hxA:x∈D.map Prod.fst
  ·have hxs:(oZ D x).isSome=true:=by rw[h0 x hxA];rfl
   rw[hxs]at lk
   simp only[KP,Ax.loadAt,Ax.storeAt,↓reduceIte,reduceEqDiff,reduceLT,reduceAdd,h.cF,g5,g19,g20,g21,hlt,hadd,e1,lk,aL,cA]
   exact next _ _ (iY (by simp +decide only[GS,g0,g5,g19,g20,ag]) ⟨D,now,wn,(by simp +decide only[GS,g6]),hb2,hnd,on2,sd.old hx λ_=>hxA,h0⟩)
  ·have hxs:(oZ D x).isSome=false:=by rw[rK.2 hxA];rfl
   rw[hxs]at lk
   by_cases hxa:x∈a_ rs
   ·have hkd:=Ll hxa
    generalize kindOf rs x=kd at kk hkd
    have hkd:decide (kd=0)=false:=AS hkd
    have hup:=OP hl tr hb2 hxA 0
    have hb3:((τ2++[O.cells 51 [.bool x.1,.str x.2] true]).set b (.map ((D++[(x,0)]).map dV)))[b]?=some (.map ((D++[(x,0)]).map dV)):=bj (AI.1 hb2).1
    have on3:=JC (y:=.map ((D++[(x,0)]).map dV)) on2 hb2
    have hy2b:τ2.length≠b:=λe=>by rw[e,hb2]at hz2;cases hz2
    have hz4:((τ2++[O.cells 51 [.bool x.1,.str x.2] true]).set b (.map ((D++[(x,0)]).map dV)))[τ2.length]?=some (O.cells 51 [.bool x.1,.str x.2] true):=by rw[IT (ju hy2b)];exact hz2
    generalize hτ3:(τ2++[O.cells 51 [.bool x.1,.str x.2] true]).set b (.map ((D++[(x,0)]).map dV))=τ3 at *
    obtain⟨w',τ5,ha5,ow5,Kt,-⟩:=B0 (x:=x) (ex:=true) hl on3 (by omega)
    rw[show (((0:Nat):Int))=0 from rfl]at hup
    simp only[KP,Ax.loadAt,Ax.storeAt,↓reduceIte,reduceEqDiff,reduceLT,reduceLeDiff,reduceAdd,reduceMul,reduceCtorEq,h.dB,h.cF,g0,g5,g6,g19,g20,g21,hlt,hadd,e1,lk,kk,hkd,hup,hz4,ha5,aL,cA,lB]
    refine next _ _ (iY (by simp +decide only[GS,g0,g5,g19,g20,ag]) ⟨D++[(x,0)],now++[x],w',(by simp +decide only[GS]),Pb (aJ hb3) (on3.app _) Kt,?_,ow5,?_,λy hy=>?_⟩)
    ·rw[eu,jv]
     exact⟨hnd,List.pairwise_singleton ..,λa ha c hc e=>hxA (by have e2:c=x:=cj.1 hc;rw[<- e2,<- e];exact ha)⟩
    ·rw[eu]
     exact sd.fresh hx hxa
    ·rw[Io hxA]
     by_cases hyx:y=x
     ·rw[bf hyx]
     ·rw[az hyx]
      rw[eu,bt]at hy
      exact h0 y (hy.resolve_right λhm=>hyx (cj.1 hm))
   ·have hkd:=HL hxa
    rw[hkd]at kk
    simp only[KP,Ax.loadAt,Ax.storeAt,↓reduceIte,reduceEqDiff,reduceLT,reduceAdd,reduceCtorEq,h.cF,g0,g5,g19,g20,g21,hlt,hadd,e1,lk,kk,aL,cA]
    exact next _ _ (iY (by simp +decide only[GS,g0,g5,g19,g20,ag]) ⟨D,now,wn,(by simp +decide only[GS,g6]),hb2,hnd,on2,sd.old hx λe=>absurd e hxa,h0⟩)
 ·rintro F2 τ2 ⟨g0,g5,g19,g20,g21,D,now,wn,g6,hb,hnd,on,sd,h0⟩
  have hlt:=dH (b9 ls.length)
  rw[ah (ae _)]at sd
  rw[aC]
  simp only[KP,↓reduceIte,reduceLT,g20,g21,hlt]
  exact hk _ _ wn D now (by simp +decide only[GS,g0]) (by simp +decide only[GS,g5]) (by simp +decide only[GS,g6]) hb hnd on sd h0
theorem Di.le {nx:aG->List aG}{s0:aG->Prop}{k M:Nat}{A now:List aG}{f:aG->Option Nat}(h:Di nx s0 k A now f)(hk:k<=M) (x:aG) (d:Nat)(hd:f x=some d):d<=M:=by
 by_cases hA:x∈A
 ·obtain⟨e,h1,h2⟩:=h.is x hA
  rw[hd]at h1
  cases h1
  have hr:=(h.rd.all x).1 hA
  exact oe λhlt=>h2.2 k (by omega) hr
 ·rw[h.no x hA]at hd;cases hd
theorem M4 (h:bK E)(h':tP E)(hl:Lb.cH E) (q:Kh E) (tr:IL E) {b:Nat}{g:V}{rs:List aD}(hg:LW E rs g)(hf:Fits rs) {s0:aG->Prop}{D:List (aG × Nat)}{now:List aG}{wn:V}{Y:Sg}(hb:Y[b]?=some (.map (D.map dV)))(hnd:(D.map Prod.fst).Nodup) (on:aV eS 51 Y wn now) (di:Di (jO rs) s0 0 (D.map Prod.fst) now (oZ D))(hsub:∀x,x∈D.map Prod.fst->x∈a_ rs)(hnlen:now.length<=(D.map Prod.fst).length)
  (F:FT) (g0:F.get 0=g) (g5:F.get 5=.mp b) (g6:F.get 6=wn) {st:List gT}{Q:Ax.X->Fr->Sg->Prop}
  (hk:∀F' τ' D',F'.get 5=.mp b->τ'[b]?=some (.map (D'.map dV))->(∀x d,oZ D' x=some d ↔ GB (jO rs) s0 d x)->(∀x d,oZ D' x=some d->d<=2001)->M E st .normal ⟨85,F'⟩ τ' Q):Ax.R E (cutAt [1,1,1,1,0] (aA Tryz.f96).code) st ⟨85,F⟩ Y Q:=by
 have hlen:=gN hf
 have one:=λ{D0 D k more now P P' wn wm i y Y} hb on om hne hy ri fi hy0 hkb hP F g0 g5 g11 g49 g51 st Q hk=>Vx (b:=b) (k:=k) (D0:=D0) (D:=D) (more:=more) (now:=now) (P:=P) (P':=P') (wn:=wn) (wm:=wm) (i:=i) (y:=y) (Y:=Y) h h' hl q tr hg hf hb on om hne hy ri fi hy0 hkb hP F g0 g5 g11 g49 g51 (st:=st) (Q:=Q) hk
 rw[show (cutAt [1,1,1,1,0] (aA Tryz.f96).code)=.block 2 (.loop (.seq (cutAt [1,1,1,1,0,2,2,0] (aA Tryz.f96).code) (.block 3 (.seq (cutAt [1,1,1,1,0,2,2,1,2,0] (aA Tryz.f96).code) (.seq (.seq (cutAt [1,1,1,1,0,2,2,1,2,1,0,0] (aA Tryz.f96).code) (.block 4 (.loop (.seq (cutAt [1,1,1,1,0,2,2,1,2,1,0,1,2,2,0] (aA Tryz.f96).code) (.seq (cutAt [1,1,1,1,0,2,2,1,2,1,0,1,2,2,1,0] (aA Tryz.f96).code) (.seq (.block 5 (cutAt [1,1,1,1,0,2,2,1,2,1,0,1,2,2,1,1,0,2] (aA Tryz.f96).code)) (cutAt [1,1,1,1,0,2,2,1,2,1,0,1,2,2,1,1,1] (aA Tryz.f96).code))))))) (cutAt [1,1,1,1,0,2,2,1,2,1,1] (aA Tryz.f96).code)))))) from rfl]
 generalize cutAt [1,1,1,1,0,2,2,1,2,1,0,1,2,2,1,1,0,2] (aA Tryz.f96).code=B at one ⊢
 simp only[aA,Tryz.f96,KP,cutAt]
 refine RS (λn F Y=>∃(k:Nat) (D:List (aG × Nat)) (now:List aG) (wn:V),F.get 0=g/\F.get 5=.mp b/\F.get 6=wn/\Y[b]?=some (.map (D.map dV))/\(D.map Prod.fst).Nodup/\aV eS 51 Y wn now/\Di (jO rs) s0 k (D.map Prod.fst) now (oZ D)/\(∀x,x∈D.map Prod.fst->x∈a_ rs)/\now.length<=(D.map Prod.fst).length/\(k<=(D.map Prod.fst).length+1/\(now≠[]->k<=(D.map Prod.fst).length))/\((now=[]/\n=2*(2001-(D.map Prod.fst).length))\/(now≠[]/\n=2*(2001-(D.map Prod.fst).length)+1))) ?_ (2*(2001-(D.map Prod.fst).length)+(if now=[] then 0 else 1)) _ _ ⟨0,D,now,wn,(by simp +decide only[g0]),(by simp +decide only[g5]),(by simp +decide only[g6]),hb,hnd,on,di,hsub,hnlen,⟨by omega,λ_=>by omega⟩,?_⟩
 ·clear hb hnd on di hsub hnlen g0 g5 g6
  rintro n F Y ⟨k,D,now,wn,g0,g5,g6,hb,hnd,on,di,hsub,hnlen,hkl,hn⟩ next
  have hAl:(D.map Prod.fst).length<=2000:=e8 (iT hnd hsub) hlen
  have ln:=mZ hl.dB rfl on.ls
  rw[aC]
  by_cases h0:now=[]
  ·subst h0
   rw[b8]at ln
   simp only[KP,↓reduceIte,reduceLT,Int.reduceLT,g6,ln]
   exact hk _ _ D (by simp +decide only[GS,g5]) hb di.fin (di.le (by omega))
  have hgt:decide ((0:Int)<(now.length:Int))=true:=AT (by have:=jd.2 h0;omega)
  simp only[KP,↓reduceIte,reduceEqDiff,reduceLT,g6,ln,hgt]
  refine aS (λi F2 τ2=>F2.get 0=g/\F2.get 5=.mp b/\F2.get 49=wn/\F2.get 50=.int .i64 (now.length:Int)/\F2.get 51=.int .i64 (i:Int)/\∃D' more wm,F2.get 11=wm/\τ2[b]?=some (.map (D'.map dV))/\aV eS 51 τ2 wn now/\aV eS 51 τ2 wm more/\(∀c,aR wm=some c->aR wn≠some c)/\Ri (jO rs) (a_ rs) (D.map Prod.fst) (λx=>∃y∈now.take i,x∈jO rs y) (D'.map Prod.fst) more/\Fi D D' more k) now.length ?_ ?_ now.length 0 _ _ (by omega) (iY (by simp +decide only[GS,g0,g5,ag]) ⟨D,[],.aF,(by simp +decide only[GS]),hb,on,.inl ⟨rfl,rfl⟩,(λc hc=>by cases hc),⟨λx=>by simp,(λx=>by simp),hsub,ij _,hnd,ae _,λe=>absurd rfl e⟩,Fi.start _ _⟩)
  ·clear hb on g0 g5
   rintro i F2 τ2 hi ⟨g0,g5,g49,g50,g51,D',more,wm,g11,hb,on,om,hne,ri,fi⟩ next2
   obtain⟨y,hy⟩:∃y,now[i]?=some y:=⟨_,BY hi⟩
   have hlt:=dG hi
   have hadd:=bQ i (by omega)
   have hyn:=aa hy
   have hy0:oZ D y=some k:=by
    obtain⟨d,h1,h2⟩:=di.is y (di.rd.sub y hyn)
    rw[h1,h2.uniq (di.last y hyn)]
   rw[aC]
   simp only[KP,↓reduceIte,reduceLT,g50,g51,hlt]
   refine one hb on om hne hy ri fi hy0 (by omega) (P':=λx=>∃y∈now.take (i+1),x∈jO rs y) (λx=>?_) _ ?_ ?_ ?_ ?_ ?_ _ _ (λF3 τ3 wm' D3 more' hF g11' hb' on' om' hne' ri' fi'=>?_)
   ·constructor
    ·rintro⟨z,hz,hx⟩
     rcases (dI hy z).1 hz with h1 | rfl
     ·exact .inl ⟨z,h1,hx⟩
     ·exact .inr hx
    ·rintro (⟨z,hz,hx⟩ | hx)
     ·exact⟨z,(dI hy z).2 (.inl hz),hx⟩
     ·exact⟨y,(dI hy y).2 (.inr rfl),hx⟩
   ·simp +decide only[GS,g0]
   ·simp +decide only[GS,g5]
   ·simp +decide only[GS,g11]
   ·simp +decide only[GS,g49]
   ·simp +decide only[GS,g51]
   have q0:F3.get 0=g:=(hF 0 (by simp)).trans (by simp +decide only[GS,g0])
   have q5:F3.get 5=.mp b:=(hF 5 (by simp)).trans (by simp +decide only[GS,g5])
   have q49:F3.get 49=wn:=(hF 49 (by simp)).trans (by simp +decide only[GS,g49])
   have q50:F3.get 50=.int .i64 (now.length:Int):=(hF 50 (by simp)).trans (by simp +decide only[GS,g50])
   have q51:F3.get 51=.int .i64 (i:Int):=(hF 51 (by simp)).trans (by simp +decide only[GS,g51])
   simp only[KP,↓reduceIte,reduceLT,q51,hadd]
   exact next2 _ _ (iY (by simp +decide only[GS,q0,q5,q49,q50,ag]) ⟨D3,more',wm',(by simp +decide only[GS,g11']),hb',on',om',hne',ri',fi'⟩)
  ·clear hb on g0 g5
   rintro F2 τ2 ⟨g0,g5,g49,g50,g51,D',more,wm,g11,hb,on,om,hne,ri,fi⟩
   have hlt:=dH (b9 now.length)
   rw[ah (ae _)]at ri
   have hA'l:=ri.le hlen
   rw[aC]
   simp only[KP,↓reduceIte,reduceEqDiff,reduceLT,g11,g50,g51,hlt]
   have hup:=ri.up
   refine next (2*(2001-(D'.map Prod.fst).length)+(if more=[] then 0 else 1)) _ _ ?_ ⟨k+1,D',more,wm,(fJ (by simp +decide only[GS,g0,g5,ag]) ⟨hb,ri.nd,om,di.next ri.mem ri.new (λx hx=>by rw[fi x,bf hx]) (λx hx=>by rw[fi x,az hx]),ri.sub,ri.len,?_,?_⟩)⟩
   ·rcases hn with⟨h1,-⟩ | ⟨-,rfl⟩
    ·exact absurd h1 h0
    ·by_cases hm:more=[]
     ·rw[bf hm];omega
     ·rw[az hm];have:=hup.2 hm;omega
   ·have:=hkl.2 h0
    exact⟨by omega,λhm=>by have:=hup.2 hm;omega⟩
   ·by_cases hm:more=[]
    ·exact .inl ⟨hm,by rw[bf hm];rfl⟩
    ·exact .inr ⟨hm,by rw[az hm]⟩
 ·by_cases h0:now=[]
  ·exact .inl ⟨h0,by rw[bf h0];rfl⟩
  ·exact .inr ⟨h0,by rw[az h0]⟩
structure Ft (rs:List aD) (ls:List aG) (D:List (aG × Nat)):Prop where
 is:∀x d,oZ D x=some d ↔ GB (jO rs) (λx=>x∈ls/\x∈a_ rs) d x
 le:∀x d,oZ D x=some d->d<=2001
def abw (rs:List aD) (ls:List aG) (v:V):Prop:=∃D,v=.imp false (D.map dV)/\Ft rs ls D
theorem IB (h:bK E)(h':tP E)(hl:Lb.cH E) (q:Kh E) (tr:IL E) {g:V}{rs:List aD}(hg:LW E rs g)(hf:Fits rs) {a:V}{ls:List aG}(ha:LS eS 51 Z a ls)(hls:ls.length<=1000000):aB E 96 [g,a] Z λv σ'=>σ'=Z/\abw rs ls v:=by
 obtain⟨a',ea,ia⟩:=iH h ha
 have e1:=cN (Z:=Z) (ty:=E.ty) hg.bF (bZ hg.bF)
 rw[aI tr.hs96 tr.sp96 tr.fn96 tr.md96 (args':=[g,a']) (by simp only[aW,e1,ea]),aY (by kernel_rfl)]
 have kseed:=λ{Y} hb F g0 g1 g5 g6 st Q hk=>SN (b:=0) (Y:=Y) h h' hl q tr hg hf ia hls hb F g0 g1 g5 g6 (st:=st) (Q:=Q) hk
 have krounds:=λ{D now wn Y} hb hnd on di hsub hnlen F g0 g5 g6 st Q hk=>M4 (b:=0) (s0:=λx=>x∈ls/\x∈a_ rs) (D:=D) (now:=now) (wn:=wn) (Y:=Y) h h' hl q tr hg hf hb hnd on di hsub hnlen F g0 g5 g6 (st:=st) (Q:=Q) hk
 rw[show (aA Tryz.f96).code=.seq (cutAt [0] (aA Tryz.f96).code) (.seq (cutAt [1,0] (aA Tryz.f96).code) (.seq (cutAt [1,1,0] (aA Tryz.f96).code) (.seq (cutAt [1,1,1,0] (aA Tryz.f96).code) (.seq (cutAt [1,1,1,1,0] (aA Tryz.f96).code) (cutAt [1,1,1,1,1] (aA Tryz.f96).code))))) from rfl]
 generalize cutAt [1,1,1,0] (aA Tryz.f96).code=SS at kseed ⊢
 generalize cutAt [1,1,1,1,0] (aA Tryz.f96).code=BB at krounds ⊢
 simp only[aA,Tryz.f96,KP,↓reduceIte,reduceLT,reduceAdd,cutAt]
 refine kseed rfl _ ?_ ?_ ?_ ?_ _ _ (λF1 τ1 wn D now q0 q5 q6 hb hnd on sd h0=>?_)
 ·simp +decide only[GS]
 ·simp +decide only[GS]
 ·simp +decide only[GS]
 ·simp +decide only[GS]
 rw[EU]
 simp only[KP]
 refine krounds hb hnd on (Di.start sd.mem sd.nw h0 λx hx=>rK.2 hx) (λx hx=>((sd.mem x).1 hx).2) sd.len _ q0 q5 q6 _ _ (λF2 τ2 D2 p5 hb2 hd hd2=>?_)
 have es:cG τ2 E.ty false (.mp 0)=some (.imp false (D2.map dV)):=by
  show aT.one τ2 E.ty false (.mp 0)=_
  unfold aT.one
  rw[show dN=10+2 from rfl,Rr hb2]
  rfl
 rw[EU]
 simp only[KP,↓reduceIte,reduceLT,p5,es]
 exact⟨D2,rfl,hd,hd2⟩
end
end
section
section
variable {E:Env}{Z:Sg}{K:V->Sg->Prop}
theorem Tl (h:bK E)(hl:Lb.cH E) (tr:IL E) {a:V}{l:List aG}{k:Nat}{caps:List V}{P:aG->Bool}(ha:LS eS 51 Z a l)(hsm:l.length<=4294967296)(hP:∀y:aG,y∈l->aB E k ([.agg [.bool y.1,.str y.2]]++caps) [] λu Y=>Y=[]/\u=.bool (P y)) {fv:V} (ef:aT Z E.ty true fv=some (.fn k [] caps)):aB E 97 [a,fv] Z K=K (.int .i64 (idx (bI P l))) Z:=by
 refine aB.of ?_
 obtain⟨a',ea,ia⟩:=iH h ha
 rw[aI tr.Y_ tr.Wv tr.Z0 tr.Yg (args':=[a',.fn k [] caps]) (by simp only[aW,ea,ef]),aY (by kernel_rfl)]
 have la:=f_ h ia
 simp only[aA,Tryz.f97,KP,↓reduceIte,reduceLT,reduceAdd,reduceCtorEq,reduceNeg,la]
 refine aS (λi F Y=>Y=[]/\F.get 0=a'/\F.get 1=.fn k [] caps/\F.get 8=.int .i64 (i:Int)/\F.get 7=.int .i64 (l.length:Int)/\∀j y,j<i->l[j]?=some y->P y=false) l.length ?_ ?_ l.length 0 _ _ (by omega) ⟨rfl,(fM (by simp +decide only[GS,ag]) (λj y hj=>by omega))⟩
 ·rintro i F Y hi ⟨rfl,g0,g1,g8,g7,hp⟩ next
  obtain⟨x,hx⟩:∃x,l[i]?=some x:=⟨_,BY hi⟩
  obtain⟨g,e1⟩:=kU h ia hx
  have hlt:=dG hi
  have hadd:=bQ i (by omega)
  rw[aC]
  simp only[KP,Ax.loadAt,↓reduceIte,reduceEqDiff,reduceLT,reduceAdd,reduceCtorEq,reduceNeg,h.cF,g0,g1,g7,g8,hlt,e1]
  refine aP (hP x (aa hx)) ?_
  rintro u Y ⟨rfl,rfl⟩
  by_cases hxs:P x=true
  ·simp only[KP,↓reduceIte,reduceEqDiff,reduceLT,reduceNeg,hxs]
   rw[fP (i:=i) (x:=x) hp hx hxs]
   exact rfl
  ·have hxs:P x=false:=by simpa using hxs
   simp only[KP,↓reduceIte,reduceEqDiff,reduceLT,reduceNeg,g8,hxs,hadd]
   refine next _ _ ⟨rfl,(fM (by simp +decide only[GS,g0,g1,g7,ag]) (λj y hj hy=>?_))⟩
   rcases bz j i with g | g
   ·exact hp j y g hy
   ·obtain rfl:j=i:=by omega
    rw[hx]at hy;cases hy;exact hxs
 ·rintro F Y ⟨rfl,g0,g1,g8,g7,hp⟩
  have hlt:=dH (b9 l.length)
  rw[aC]
  simp only[KP,↓reduceIte,reduceLT,reduceNeg,g7,g8,hlt]
  rw[dS λx hx=>by
   obtain⟨j,hj,e⟩:=ez hx
   exact hp j x hj (by rw[BY hj,e])]
  exact rfl
theorem VZ (h:bK E)(hl:Lb.cH E) (tr:IL E) {a:V}{l:List aG}{s:aG}(ha:LS eS 51 Z a l)(hsm:l.length<=4294967296):aB E 132 [a,.agg [.bool s.1,.str s.2]] Z K=K (.int .i64 (idx (bI (λx=>decide (x=s)) l))) Z:=by
 refine aB.of ?_
 obtain⟨a',ea,ia⟩:=iH h ha
 have es:=qW (E:=E) Z s
 have d4:=tr.VI
 simp only[aA,Tryz.f132,cutAt,an]at d4
 rw[aI tr.ZI tr.Xc tr.aaw tr.YN (args':=[a',.agg [.bool s.1,.str s.2]]) (by simp only[aW,ea,es]),aY (by kernel_rfl)]
 have la:=f_ h ia
 simp only[aA,Tryz.f132,KP,↓reduceIte,reduceLT,reduceAdd,reduceCtorEq,reduceNeg,h.cF,la]
 refine aS (λi F Y=>Y[0]?=some (O.cells 51 [.bool s.1,.str s.2] true)/\F.get 0=a'/\F.get 3=.ref 0 0/\F.get 8=.int .i64 (i:Int)/\F.get 7=.int .i64 (l.length:Int)/\∀j y,j<i->l[j]?=some y->y≠s) l.length ?_ ?_ l.length 0 _ _ (by omega) ⟨rfl,(fM (by simp +decide only[GS,ag]) (λj y hj=>by omega))⟩
 ·rintro i F Y hi ⟨hb,g0,g3,g8,g7,hp⟩ next
  obtain⟨x,hx⟩:∃x,l[i]?=some x:=⟨_,BY hi⟩
  obtain⟨g,e1⟩:=kU h ia hx
  have hlt:=dG hi
  have hadd:=bQ i (by omega)
  have ev:=λb=>qH (b:=b) hl s x
  rw[aC]
  by_cases hxs:x=s
  ·rw[AT hxs.symm]at ev
   simp only[KP,Ax.loadAt,↓reduceIte,reduceEqDiff,reduceLT,reduceAdd,reduceCtorEq,reduceNeg,h.cF,g0,g3,g7,g8,hlt,e1,hb,ev,aK d4,bB]
   rw[fP (i:=i) (x:=x) (λj y hj hy=>AS (hp j y hj hy)) hx (AT hxs)]
   exact rfl
  ·rw[AS (ju hxs)]at ev
   simp only[KP,Ax.loadAt,↓reduceIte,reduceEqDiff,reduceLT,reduceAdd,reduceCtorEq,reduceNeg,h.cF,g0,g3,g7,g8,hlt,e1,hb,ev,hadd,aK d4,bB]
   refine next _ _ ⟨hb,(fM (by simp +decide only[GS,g0,g3,g7,ag]) (λj y hj hy=>?_))⟩
   rcases bz j i with g | g
   ·exact hp j y g hy
   ·obtain rfl:j=i:=by omega
    rw[hx]at hy;cases hy;exact hxs
 ·rintro F Y ⟨hb,g0,g3,g8,g7,hp⟩
  have hlt:=dH (b9 l.length)
  rw[aC]
  simp only[KP,↓reduceIte,reduceLT,reduceNeg,g7,g8,hlt]
  rw[dS λx hx=>by
   obtain⟨j,hj,e⟩:=ez hx
   exact AS (hp j x hj (by rw[BY hj,e]))]
  exact rfl
theorem Tr {l:List aG}{s:aG}:(l.any λx=>decide (x=s))=decide (s∈l):=by
 rw[dw,fc,OF]
 exact⟨λ⟨x,hx,e⟩=>by rw[<- dx e];exact hx,λhs=>⟨s,hs,AT rfl⟩⟩
theorem Tn (h:bK E)(hl:Lb.cH E) (tr:IL E) {a:V}{l:List aG}{s:aG}(ha:LS eS 51 Z a l)(hsm:l.length<=4294967296):aB E 103 [a,.agg [.bool s.1,.str s.2]] Z K=K (.bool (decide (s∈l))) Z:=by
 refine aB.of ?_
 obtain⟨a',ea,ia⟩:=iH h ha
 have es:=qW (E:=E) Z s
 rw[aI tr.ZT tr.Xn tr.aaH tr.YY (args':=[a',.agg [.bool s.1,.str s.2]]) (by simp only[aW,ea,es]),aY (by kernel_rfl)]
 have kk:=λ(Y:Sg)=>cU (λK=>VZ (Z:=Y) (s:=s) (K:=K) h hl tr (ia.ls Y 51) hsm)
 simp only[aA,Tryz.f103,KP,Ax.loadAt,↓reduceIte,reduceEqDiff,reduceLT,reduceAdd,reduceCtorEq,h.cF,kk,kS,cI,Tr]
 exact rfl
def D8 (D:List (aG × Nat)) (n:Int) (x:aG):Bool:=match oZ D x with
 |some d=>decide ((d:Int)=n)
 |none=>false
theorem b_S1 (h:bK E)(hl:Lb.cH E) (tr:IL E) {D:List (aG × Nat)}{n:Int}{g g2 g3:Bool}{x:aG}(hn:wr .i64 (n-1)=n-1):aB E 98 [.agg [.bool x.1,.str x.2],.cL g [.imp g2 (D.map dV)],.cL g3 [.int .i64 n]] [] K=K (.bool (D8 D (n-1) x)) []:=by
 refine aB.of ?_
 have hi:Ax.bF (.cL g [.imp g2 (D.map dV)])=true:=rfl
 have hi2:Ax.bF (.cL g3 [.int .i64 n])=true:=rfl
 have ew:=cN (Z:=[]) (ty:=E.ty) hi (bZ hi)
 have ew2:=cN (Z:=[]) (ty:=E.ty) hi2 (bZ hi2)
 have es:=qW (E:=E) [] x
 rw[aI tr.hs98 tr.sp98 tr.fn98 tr.md98 (args':=[.agg [.bool x.1,.str x.2],.cL g [.imp g2 (D.map dV)],.cL g3 [.int .i64 n]]) (by simp only[aW,es,ew,ew2]),aY (by kernel_rfl)]
 have lk:=λ(Y:Sg)=>BM (Z:=Y) (v:=.imp g2 (D.map dV)) h hl tr rfl x
 unfold D8
 cases hd:oZ D x with
 |none=>
  rw[hd]at lk
  simp only[aA,Tryz.f98,KP,Ax.loadAt,↓reduceIte,reduceEqDiff,reduceLT,reduceAdd,reduceCtorEq,h.cF,tr.vV,lk]
  exact rfl
 |some d=>
  rw[hd]at lk
  simp only[aA,Tryz.f98,KP,Ax.loadAt,↓reduceIte,reduceEqDiff,reduceLT,reduceAdd,reduceCtorEq,h.nQ,h.cF,tr.vV,lk,hn]
  exact rfl
end
end
section
section
variable {E:Env}{Z:Sg}{K:V->Sg->Prop}
def QO (D:List (aG × Nat)) (S:List aG) (i:Nat) (left:Int) (p:List aG):Prop:=
 (left = -1/\p=[]/\∀(j:Nat) (x:aG),j<i->S[j]?=some x->oZ D x=none) \/
 ∃(j:Nat) (x0:aG) (d:Nat),j<i/\S[j]?=some x0/\oZ D x0=some d/\left=(d:Int)/\p=[x0]/\∀(j':Nat) (x:aG) (e:Nat),j'<i->S[j']?=some x->oZ D x=some e->d<=e/\(j'<j->d<e)
theorem QO.none {D:List (aG × Nat)}{S:List aG}{i:Nat}{left:Int}{p:List aG}(h:QO D S i left p) {x:aG}(hx:S[i]?=some x)(hd:oZ D x=none):QO D S (i+1) left p:=by
 rcases h with⟨h1,h2,h3⟩ | ⟨j,x0,d,h1,h2,h3,h4,h5,h6⟩
 ·refine .inl ⟨h1,h2,λj y hj hy=>?_⟩
  rcases bz j i with g | g
  ·exact h3 j y g hy
  ·obtain rfl:j=i:=by omega
   rw[hx]at hy;cases hy;exact hd
 ·refine .inr ⟨j,x0,d,by omega,h2,h3,h4,h5,λj' y e hj' hy he=>?_⟩
  rcases bz j' i with g | g
  ·exact h6 j' y e g hy he
  ·obtain rfl:j'=i:=by omega
   rw[hx]at hy;cases hy;rw[hd]at he;cases he
theorem QO.take {D:List (aG × Nat)}{S:List aG}{i:Nat}{left:Int}{p:List aG}(h:QO D S i left p) {x:aG}{d:Nat}(hx:S[i]?=some x)(hd:oZ D x=some d)(hlt:left<0\/(d:Int)<left):QO D S (i+1) (d:Int) [x]:=by
 refine .inr ⟨i,x,d,by omega,hx,hd,rfl,rfl,λj' y e hj' hy he=>?_⟩
 rcases bz j' i with g | g
 ·rcases h with⟨h1,h2,h3⟩ | ⟨j,x0,d0,h1,h2,h3,h4,h5,h6⟩
  ·rw[h3 j' y g hy]at he;cases he
  ·have:=(h6 j' y e g hy he).1
   exact⟨by omega,λ_=>by omega⟩
 ·obtain rfl:j'=i:=by omega
  rw[hx]at hy;cases hy;rw[hd]at he;cases he
  exact⟨ae _,λhh=>absurd hh (b9 _)⟩
theorem QO.skip {D:List (aG × Nat)}{S:List aG}{i:Nat}{left:Int}{p:List aG}(h:QO D S i left p) {x:aG}{d:Nat}(hx:S[i]?=some x)(hd:oZ D x=some d)(hlt:0<=left)(hge:left<=(d:Int)):QO D S (i+1) left p:=by
 rcases h with⟨h1,h2,h3⟩ | ⟨j,x0,d0,h1,h2,h3,h4,h5,h6⟩
 ·omega
 ·refine .inr ⟨j,x0,d0,by omega,h2,h3,h4,h5,λj' y e hj' hy he=>?_⟩
  rcases bz j' i with g | g
  ·exact h6 j' y e g hy he
  ·obtain rfl:j'=i:=by omega
   rw[hx]at hy;cases hy;rw[hd]at he;cases he
   exact⟨by omega,λhh=>by omega⟩
theorem yJ {Y:Sg}{w:V}{l:List aG}{b u:Nat}{cs:List V}{ex:Bool}{y:O} (ow:aV eS 51 Y w l)(hb:Y[b]?=some (.cells u cs ex))(hu:u≠51):aV eS 51 (Y.set b y) w l:=ow.keep λc o hc ho=>by
 rw[IT (λe=>?_)]
 ·exact ho
 ·subst e
  exact EI ow (λu' ex' e=>by rw[hb]at e;cases e;exact hu rfl) hc
theorem Ro (h:bK E)(h':tP E)(hl:Lb.cH E) (q:Kh E) (tr:IL E) {D:List (aG × Nat)}{Sx:List aG}{r g:V}{Y:Sg}(hlen:Sx.length<=1000000) (on:aV eS 51 Y r Sx) (b0:Y[0]?=some (.cells 128 [.imp false (D.map dV)] true)) (b1:Y[1]?=some (.cells 3 [.int .i64 (-1)] true))
  (F:FT) (g0:F.get 0=g) (g7:F.get 7=.ref 0 0) (g8:F.get 8=.aF) (g9:F.get 9=.ref 1 0) (g23:F.get 23=r) (g24:F.get 24=.int .i64 (Sx.length:Int)) (g25:F.get 25=.int .i64 0) {st:List gT}{Q:Ax.X->Fr->Sg->Prop}
  (hk:∀F' τ' w p left,F'.get 0=g->F'.get 7=.ref 0 0->F'.get 8=w->F'.get 9=.ref 1 0->aV eS 51 τ' w p->τ'[0]?=some (.cells 128 [.imp false (D.map dV)] true)->τ'[1]?=some (.cells 3 [.int .i64 left] true)->QO D Sx Sx.length left p->M E st .normal ⟨72,F'⟩ τ' Q):Ax.R E (cutAt [1,1,1,1,0,1] (aA Tryz.f34).code) st ⟨72,F⟩ Y Q:=by
 simp only[aA,Tryz.f34,KP,reduceNeg,cutAt]
 refine aS (λi F Y=>F.get 0=g/\F.get 7=.ref 0 0/\F.get 9=.ref 1 0/\F.get 23=r/\F.get 24=.int .i64 (Sx.length:Int)/\F.get 25=.int .i64 (i:Int)/\aV eS 51 Y r Sx/\Y[0]?=some (.cells 128 [.imp false (D.map dV)] true)/\∃w p left,F.get 8=w/\aV eS 51 Y w p/\Y[1]?=some (.cells 3 [.int .i64 left] true)/\QO D Sx i left p) Sx.length ?_ ?_ Sx.length 0 _ _ (by omega) ⟨(by simp +decide only[g0]),(by simp +decide only[g7]),(by simp +decide only[g9]),(by simp +decide only[g23]),(by simp +decide only[g24]),(by simp +decide only[GS,g25]),on,b0,.aF,[],-1,(by simp +decide only[g8]),.inl ⟨rfl,rfl⟩,b1,.inl ⟨rfl,rfl,λj x hj=>by omega⟩⟩
 ·clear on b0 b1 g0 g7 g8 g9 g23 g24 g25
  rintro i F Y hi ⟨g0,g7,g9,g23,g24,g25,on,b0,w,p,left,g8,ow,b1,bs⟩ next
  obtain⟨x,hx⟩:∃x,Sx[i]?=some x:=⟨_,BY hi⟩
  obtain⟨c,o,u,cs,ex,e1,hc,hle,hrow⟩:=Jz hl on hx
  have hlt:=dG hi
  have hadd:=bQ i (by omega)
  have lk:=λ(Y:Sg)=>BM (Z:=Y) (v:=.imp false (D.map dV)) h hl tr rfl x
  have b0':(Y++[O.cells 51 [.bool x.1,.str x.2] true])[0]?=some (.cells 128 [.imp false (D.map dV)] true):=aJ b0
  have b1':(Y++[O.cells 51 [.bool x.1,.str x.2] true])[1]?=some (.cells 3 [.int .i64 left] true):=aJ b1
  have on1:=on.app [O.cells 51 [.bool x.1,.str x.2] true]
  have ow1:=ow.app [O.cells 51 [.bool x.1,.str x.2] true]
  have b1'':(Y++[O.cells 51 [.bool x.1,.str x.2] true]++[O.cells 51 [.bool x.1,.str x.2] true])[1]?=some (.cells 3 [.int .i64 left] true):=aJ b1'
  have b0'':(Y++[O.cells 51 [.bool x.1,.str x.2] true]++[O.cells 51 [.bool x.1,.str x.2] true])[0]?=some (.cells 128 [.imp false (D.map dV)] true):=aJ b0'
  have on2:=on1.app [O.cells 51 [.bool x.1,.str x.2] true]
  have s2:(Y++[O.cells 51 [.bool x.1,.str x.2] true]++[O.cells 51 [.bool x.1,.str x.2] true])[(Y++[O.cells 51 [.bool x.1,.str x.2] true]).length]?=some (O.cells 51 [.bool x.1,.str x.2] true):=aL
  have s1:(Y++[O.cells 51 [.bool x.1,.str x.2] true])[Y.length]?=some (O.cells 51 [.bool x.1,.str x.2] true):=aL
  rw[aC]
  cases hd:oZ D x with
  |none=>
   rw[hd]at lk
   simp only[KP,Ax.loadAt,Ax.storeAt,↓reduceIte,reduceEqDiff,reduceLT,reduceAdd,reduceCtorEq,h.cF,tr.vV,g7,g23,g24,g25,hlt,hadd,e1,hc,hle,hrow,row,lk,b0',aL,cA]
   exact next _ _ (oG (by simp +decide only[GS,g0,g7,g9,g23,g24,ag]) ⟨on1,b0',w,p,left,(by simp +decide only[GS,g8]),ow1,b1',bs.none hx hd⟩)
  |some d=>
   rw[hd]at lk
   by_cases hl0:left<0
   ·have q0:=AT hl0
    simp only[KP,Ax.loadAt,Ax.storeAt,↓reduceIte,reduceEqDiff,reduceLT,reduceLeDiff,reduceAdd,reduceMul,h.nQ,h.dB,h.cF,tr.vV,g7,g9,g23,g24,g25,hlt,hadd,e1,hc,hle,hrow,row,lk,b0',b1',b1'',q0,aL,cA,lB]
    refine next _ _ (oG (by simp +decide only[GS,g0,g7,g9,g23,g24,ag]) ⟨yJ on2 b1'' (by decide),(by rw[IT (by decide)];exact b0''),.sl (Y++[O.cells 51 [.bool x.1,.str x.2] true]).length 0 1 none,[x],(d:Int),(by simp +decide only[GS]),yJ (.inr ⟨_,[row x],true,rfl,s2,.one rfl⟩) b1'' (by decide),(by rw[bj (AI.1 b1'').1]),bs.take hx hd (.inl hl0)⟩)
   ·have q0:=AS hl0
    by_cases hdl:(d:Int)<left
    ·have q1:=AT hdl
     simp only[KP,Ax.loadAt,Ax.storeAt,↓reduceIte,reduceEqDiff,reduceLT,reduceLeDiff,reduceAdd,reduceMul,h.nQ,h.dB,h.cF,tr.vV,g7,g9,g23,g24,g25,hlt,hadd,e1,hc,hle,hrow,row,lk,b0',b1',b1'',q0,q1,aL,cA,lB]
     refine next _ _ (oG (by simp +decide only[GS,g0,g7,g9,g23,g24,ag]) ⟨yJ on2 b1'' (by decide),(by rw[IT (by decide)];exact b0''),.sl (Y++[O.cells 51 [.bool x.1,.str x.2] true]).length 0 1 none,[x],(d:Int),(by simp +decide only[GS]),yJ (.inr ⟨_,[row x],true,rfl,s2,.one rfl⟩) b1'' (by decide),(by rw[bj (AI.1 b1'').1]),bs.take hx hd (.inr hdl)⟩)
    ·have q1:=AS hdl
     simp only[KP,Ax.loadAt,Ax.storeAt,↓reduceIte,reduceEqDiff,reduceLT,reduceAdd,h.nQ,h.cF,tr.vV,g7,g9,g23,g24,g25,hlt,hadd,e1,hc,hle,hrow,row,lk,b0',b1',q0,q1,aL,cA]
     exact next _ _ (oG (by simp +decide only[GS,g0,g7,g9,g23,g24,ag]) ⟨on1,b0',w,p,left,(by simp +decide only[GS,g8]),ow1,b1',bs.skip hx hd (by omega) (by omega)⟩)
 ·rintro F Y ⟨g0,g7,g9,g23,g24,g25,on,b0,w,p,left,g8,ow,b1,bs⟩
  have hlt:=dH (b9 Sx.length)
  rw[aC]
  simp only[KP,↓reduceIte,reduceLT,g24,g25,hlt]
  exact hk _ _ w p left (by simp +decide only[GS,g0]) (by simp +decide only[GS,g7]) (by simp +decide only[GS,g8]) (by simp +decide only[GS,g9]) ow b0 b1 bs
end
end
section
section
variable {E:Env}{Z:Sg}{K:V->Sg->Prop}
theorem An {rs:List aD} (x y:aG):x∈eR rs y ↔ y∈jO rs x:=by rw[mY,Ao]
end
end
section
section
variable {E:Env}{Z:Sg}{K:V->Sg->Prop}
structure Wy (D:List (aG × Nat)) (rs:List aD) (d:Nat) (p:List aG):Prop where
 bD:∀(i:Nat) (y:aG),p[i]?=some y->i<=d/\oZ D y=some (d-i)
 nx:∀(i:Nat) (y x:aG),p[i]?=some y->p[i+1]?=some x->∃m,bI (D8 D ((d:Int)-(i:Int)-1)) (eR rs y)=some m/\(eR rs y)[m]?=some x
theorem HV {D:List (aG × Nat)}{n:Int}{x:aG}:D8 D n x=true ↔ ∃d:Nat,oZ D x=some d/\(d:Int)=n:=by
 unfold D8
 cases oZ D x with
 |none=>simp
 |some d=>simp
theorem Wy.snoc {D:List (aG × Nat)}{rs:List aD}{d i m:Nat}{p:List aG}{y x:aG}(h:Wy D rs d p)(hp:p.length=i+1)(hid:i<d)(hy:p[i]?=some y)(hm:bI (D8 D ((d:Int)-(i:Int)-1)) (eR rs y)=some m)(hx:(eR rs y)[m]?=some x):Wy D rs d (p++[x]):=by
 have hxa:D8 D ((d:Int)-(i:Int)-1) x=true:=by
  obtain⟨x',h1,h2⟩:=fL hm
  rw[hx]at h1;cases h1;exact h2
 refine⟨λj z hz=>?_,λj z u hz hu=>?_⟩
 ·rcases bz j p.length with g | g
  ·rw[aq g]at hz
   exact h.bD j z hz
  ·rw[bp g]at hz
   obtain⟨h0,e⟩:=AI.1 hz
   have hj:j=i+1:=by rw[dz]at h0;omega
   subst hj
   have hzx:z=x:=by rw[<- e];simp[hp]
   subst hzx
   obtain⟨e',h1,h2⟩:=HV.1 hxa
   exact⟨by omega,by rw[h1];congr 1;omega⟩
 ·rcases bz (j+1) p.length with g | g
  ·rw[aq (by omega)]at hz
   rw[aq g]at hu
   exact h.nx j z u hz hu
  ·have hj:j=i:=by
    have:=(AI.1 hu).1
    rw[ak,dz]at this
    omega
   subst hj
   rw[aq (by omega),hy]at hz
   cases hz
   rw[bp (by omega),hp,jc]at hu
   cases hu
   exact⟨m,hm,hx⟩
theorem UZ {rs:List aD}{ls:List aG}{D:List (aG × Nat)} (dd:Ft rs ls D) {y:aG}{d i:Nat}(hid:i<d)(hy:oZ D y=some (d-i)):∃m x,bI (D8 D ((d:Int)-(i:Int)-1)) (eR rs y)=some m/\(eR rs y)[m]?=some x:=by
 have h1:GB (jO rs) (λx=>x∈ls/\x∈a_ rs) ((d-i-1)+1) y:=by
  rw[show d-i-1+1=d-i by omega]
  exact (dd.is y _).1 hy
 obtain⟨z,hz,hyz⟩:=h1.back
 obtain⟨m,hm⟩:=iE (p:=D8 D ((d:Int)-(i:Int)-1)) ((An z y).2 hyz) (HV.2 ⟨d-i-1,(dd.is z _).2 hz,by omega⟩)
 obtain⟨x,hx,-⟩:=fL hm
 exact⟨m,x,hm,hx⟩
theorem Rp {Y:Sg}{es:List (V × V)}{n:Int}{f:Nat} (b0:Y[0]?=some (.cells 128 [.imp false es] true)) (b1:Y[1]?=some (.cells 3 [.int .i64 n] true)) :
  aT Y E.ty true (.fn f [] [.ref 0 0,.ref 1 0])=some (.fn f [] [.cL true [.imp false es],.cL true [.int .i64 n]]):=by
 have h1:=K3 (E:=E) b0 (cs':=[.imp false es]) (gH λx hx=>by
  rw[cj.1 hx]
  rfl)
 have h2:=K3 (E:=E) b1 (cs':=[.int .i64 n]) (gH λx hx=>by
  rw[cj.1 hx]
  rfl)
 simp only[aT,aW,h1,h2]
theorem Rn (h:bK E)(h':tP E)(hl:Lb.cH E) (q:Kh E) (tr:IL E) {g:V}{rs:List aD}(hg:LW E rs g)(hf:Fits rs) {ls:List aG}{D:List (aG × Nat)} (dd:Ft rs ls D) {x0:aG}{d:Nat}(hx0:oZ D x0=some d) {w:V}{Y:Sg} (ow:aV eS 51 Y w [x0]) (b0:Y[0]?=some (.cells 128 [.imp false (D.map dV)] true)) (b1:Y[1]?=some (.cells 3 [.int .i64 (d:Int)] true))
  (F:FT) (g0:F.get 0=g) (g7:F.get 7=.ref 0 0) (g8:F.get 8=w) (g9:F.get 9=.ref 1 0) {st:List gT}{Q:Ax.X->Fr->Sg->Prop}
  (hk:∀F' τ' w' p,F'.get 8=w'->aV eS 51 τ' w' p->p.length=d+1->p[0]?=some x0->Wy D rs d p->M E st .normal ⟨72,F'⟩ τ' Q):Ax.R E (cutAt [1,1,1,1,1,0] (aA Tryz.f34).code) st ⟨72,F⟩ Y Q:=by
 have hd2:=dd.le x0 d hx0
 simp only[aA,Tryz.f34,KP,reduceNeg,cutAt]
 refine aS (λi F Y=>F.get 0=g/\F.get 7=.ref 0 0/\F.get 9=.ref 1 0/\Y[0]?=some (.cells 128 [.imp false (D.map dV)] true)/\Y[1]?=some (.cells 3 [.int .i64 ((d:Int)-(i:Int))] true)/\∃w p,F.get 8=w/\aV eS 51 Y w p/\p.length=i+1/\p[0]?=some x0/\Wy D rs d p) d ?_ ?_ d 0 _ _ (by omega) ⟨(by simp +decide only[g0]),(by simp +decide only[g7]),(by simp +decide only[g9]),b0,by rw[show ((d:Int)-((0:Nat):Int))=(d:Int) by omega];exact b1,w,[x0],(by simp +decide only[g8]),ow,rfl,rfl,⟨λi y hy=>by
  obtain⟨hi,e⟩:=AI.1 hy
  rw[dz]at hi
  obtain rfl:i=0:=by omega
  cases e
  exact⟨ij _,hx0⟩,λi y x hy hx=>by
  have:=(AI.1 hx).1
  rw[dz]at this
  omega⟩⟩
 ·clear ow b0 b1 g0 g7 g8 g9
  rintro i F Y hi ⟨g0,g7,g9,b0,b1,w,p,g8,ow,hpl,hp0,wy⟩ next
  obtain⟨y,hy⟩:∃y,p[i]?=some y:=⟨_,BY (by omega)⟩
  obtain⟨c,o,u,cs,ex,e1,hc,hle,hrow⟩:=Jz hl ow hy
  obtain⟨m,x,hm,hx⟩:=UZ dd hi (wy.bD i y hy).2
  have lw:=mZ hl.dB rfl ow.ls
  rw[hpl]at lw
  have hgt:decide ((0:Int)<(d:Int)-(i:Int))=true:=AT (by omega)
  have hw1:wr .i64 (((i+1:Nat):Int)-1)=(i:Int):=by rw[Ef _ (by omega) (by omega)];omega
  have hw2:wr .i64 ((d:Int)-(i:Int)-1)=(d:Int)-(i:Int)-1:=Ef _ (by omega) (by omega)
  rw[aC]
  simp only[KP,Ax.loadAt,↓reduceIte,reduceEqDiff,reduceLT,reduceCtorEq,h.nQ,h.cF,g0,g8,g9,b1,hgt,lw,hw1,e1,hc,hle,hrow,row]
  refine aP (IA h h' hl q hg hf y) ?_
  rintro v σ' ⟨rfl,hv⟩
  have hvi:=hv.BQ.is
  have hdl:(eR rs y).length<=2000:=e8 (iT (CO rs y).nodup λx hx=>yR y x hx) (gN hf)
  have ef:=Rp (E:=E) (f:=98) b0 b1
  have kf:=cU (λK=>Tl (Z:=σ') (K:=K) (k:=98) (caps:=[.cL true [.imp false (D.map dV)],.cL true [.int .i64 ((d:Int)-(i:Int))]]) (P:=D8 D ((d:Int)-(i:Int)-1)) h hl tr (hvi.ls σ' 51) (by omega) (λz _=>by
   show aB E 98 [.agg [.bool z.1,.str z.2],.cL true [.imp false (D.map dV)],.cL true [.int .i64 ((d:Int)-(i:Int))]] [] _
   rw[b_S1 h hl tr hw2];exact⟨rfl,rfl⟩) ef)
  rw[hm,dD]at kf
  obtain⟨gi,e2⟩:=kU h hvi hx
  obtain⟨w',τ5,ha5,ow5,Kt,-⟩:=B0 (x:=x) (ex:=true) hl ow (by omega)
  have n0:aR w≠some 0:=EI ow λu ex e=>by rw[b0]at e;cases e
  have n1:aR w≠some 1:=EI ow λu ex e=>by rw[b1]at e;cases e
  have b05:=Kt _ _ (aJ b0) n0
  have b15:=Kt _ _ (aJ b1) n1
  simp only[KP,Ax.loadAt,Ax.storeAt,↓reduceIte,reduceEqDiff,reduceLT,reduceLeDiff,reduceAdd,reduceMul,h.nQ,h.dB,h.cF,g7,g8,g9,kf,e2,lB,ha5,b15,hw2]
  refine next _ _ (fJ (by simp +decide only[GS,g0,g7,g9,ag]) ⟨(by rw[IT (by decide)];exact b05),(by rw[bj (AI.1 b15).1,show ((d:Int)-((i+1:Nat):Int))=(d:Int)-(i:Int)-1 by omega]),w',p++[x],(by simp +decide only[GS]),yJ ow5 b15 (by decide),by rw[ak,dz,hpl],by rw[aq (by omega)];exact hp0,wy.snoc hpl hi hy hm hx⟩)
 ·rintro F Y ⟨g0,g7,g9,b0,b1,w,p,g8,ow,hpl,hp0,wy⟩
  rw[show ((d:Int)-(d:Int))=0 by omega]at b1
  rw[aC]
  simp only[KP,Ax.loadAt,↓reduceIte,reduceLT,Int.reduceLT,h.nQ,g9,b1]
  exact hk _ _ w p (by simp +decide only[GS,g8]) ow hpl hp0 wy
def TS (rs:List aD) (D:List (aG × Nat)) (Sx p:List aG):Prop:=
 (p=[]/\∀x,x∈Sx->oZ D x=none) \/
 ∃(j:Nat) (x0:aG) (d:Nat),Sx[j]?=some x0/\oZ D x0=some d/\(∀(j':Nat) (x:aG) (e:Nat),Sx[j']?=some x->oZ D x=some e->d<=e/\(j'<j->d<e))/\p.length=d+1/\p[0]?=some x0/\Wy D rs d p
theorem RZ:∀r x,eS.P r x->∀c∈r,bT false c=true:=λr x hr c hc=>by
 rw[show r=row x from hr]at hc
 simp only[row,IN,ck,fh]at hc
 rcases hc with rfl | rfl <;> rfl
theorem pC (hl:Lb.cH E) {Y:Sg}{r:V}{l:List aG} (ow:aV eS 51 Y r l):∃v',cG Y E.ty false r=some v'/\xJ v' l:=by
 obtain⟨v',h1,h2⟩:=pD hl.cF rfl RZ ow
 exact⟨v',h1,h2.imp id λ⟨rs,f,e,a⟩=>⟨f,by rw[e,rX a]⟩⟩
theorem VV (h:bK E)(h':tP E)(hl:Lb.cH E) (q:Kh E) (tr:IL E) {g:V}{rs:List aD}(hg:LW E rs g)(hf:Fits rs) {a b:V}{fr tto:List aG}(ha:LS eS 51 Z a fr)(hb:LS eS 51 Z b tto)(hfr:fr.length<=1000000)(hto:tto.length<=1000000)(hstr:∀x∈fr,x.2.length<=9223372036854775806) :
  aB E 34 [g,a,b] Z λv σ'=>σ'=Z/\∃D Sx p,Ft rs tto D/\xJ v p/\Up Sx/\(∀x,x∈Sx ↔ x∈fr)/\TS rs D Sx p:=by
 obtain⟨a',ea,ia⟩:=iH h ha
 obtain⟨b',eb,ib⟩:=iH h hb
 have e1:=cN (Z:=Z) (ty:=E.ty) hg.bF (bZ hg.bF)
 rw[aI tr.hs34 tr.sp34 tr.fn34 tr.md34 (args':=[g,a',b']) (by simp only[aW,e1,ea,eb]),aY (by kernel_rfl)]
 have kpick:=λ{D Sx r Y} hlen on b0 b1 F g0 g7 g8 g9 g23 g24 g25 st Q hk=>Ro (D:=D) (Sx:=Sx) (r:=r) (g:=g) (Y:=Y) h h' hl q tr hlen on b0 b1 F g0 g7 g8 g9 g23 g24 g25 (st:=st) (Q:=Q) hk
 have kwalk:=λ{D x0 d w Y} dd hx0 ow b0 b1 F g0 g7 g8 g9 st Q hk=>Rn (ls:=tto) (D:=D) (x0:=x0) (d:=d) (w:=w) (Y:=Y) h h' hl q tr hg hf dd hx0 ow b0 b1 F g0 g7 g8 g9 (st:=st) (Q:=Q) hk
 rw[show (aA Tryz.f34).code=.seq (cutAt [0] (aA Tryz.f34).code) (.seq (cutAt [1,0] (aA Tryz.f34).code) (.seq (cutAt [1,1,0] (aA Tryz.f34).code) (.seq (cutAt [1,1,1,0] (aA Tryz.f34).code) (.seq (.seq (cutAt [1,1,1,1,0,0] (aA Tryz.f34).code) (cutAt [1,1,1,1,0,1] (aA Tryz.f34).code)) (.seq (cutAt [1,1,1,1,1,0] (aA Tryz.f34).code) (cutAt [1,1,1,1,1,1] (aA Tryz.f34).code)))))) from rfl]
 generalize cutAt [1,1,1,1,0,1] (aA Tryz.f34).code=PP at kpick ⊢
 generalize hBB:cutAt [1,1,1,1,1,0] (aA Tryz.f34).code=BB at kwalk ⊢
 simp only[aA,Tryz.f34,KP,↓reduceIte,reduceEqDiff,reduceLT,reduceAdd,reduceCtorEq,reduceNeg,cutAt]
 refine aP (IB h h' hl q tr hg hf (ib.ls _ 51) hto) ?_
 rintro v σ' ⟨rfl,D,rfl,dd⟩
 simp only[KP,Ax.storeAt,↓reduceIte,reduceEqDiff,reduceLT,reduceNeg,h.nQ,tr.vV]
 refine aP (Lb.Qr hl ((IS.lv ia).sv _) (by omega)) ?_
 rintro r σ2 ⟨m,rfl,hs,-,ka⟩
 have b0:=ka 0 _ rfl
 have b1:=ka 1 _ rfl
 have hkl:(keys [] fr).length<=1000000:=e8 nT (by rw[b8];omega)
 simp only[KP,↓reduceIte,reduceLT,reduceAdd,reduceCtorEq,reduceNeg,hl.vP,hl.Bp]
 refine aP (Lb.abt hl hs hkl (λx hx=>by
  have:=hstr x ((mem_keys.1 hx).resolve_left (by simp))
  omega)) ?_
 rintro r Y ⟨ho,ka2⟩
 have b0:=ka2 _ _ b0
 have b1:=ka2 _ _ b1
 have hmS:∀x,x∈setOf (keys [] fr) ↔ x∈fr:=λx=>by rw[iW,mem_keys];simp
 have hup:=nR (keys [] fr)
 have hSl:(setOf (keys [] fr)).length<=1000000:=e8 (iT hup.nodup λx hx=>(iW.1 hx)) hkl
 generalize setOf (keys [] fr)=Sx at ho hmS hup hSl
 have on:aV eS 51 Y r Sx:=by
  rcases ho with h0 | ⟨j,-,h1,h2⟩
  ·exact .inl h0
  ·exact .inr ⟨j,Sx.map row,false,h1,h2,zO Sx⟩
 have lr:=mZ hl.dB rfl on.ls
 simp only[KP,↓reduceIte,reduceLT,lr]
 refine kpick hSl on b0 b1 _ ?_ ?_ ?_ ?_ ?_ ?_ ?_ _ _ (λF1 τ1 w p left q0 q7 q8 q9 ow c0 c1 bs=>?_)
 ·simp +decide only[GS]
 ·simp +decide only[GS]
 ·simp +decide only[GS]
 ·simp +decide only[GS]
 ·simp +decide only[GS]
 ·simp +decide only[GS]
 ·simp +decide only[GS]
 rcases bs with⟨rfl,rfl,hno⟩ | ⟨j,x0,d,hj,hx0,hd,rfl,rfl,hmin⟩
 ·have hgt:decide ((0:Int) < -1)=false:=rfl
  obtain⟨v',f1,iv⟩:=pC hl ow
  rw[EU]
  subst hBB
  simp only[aA,Tryz.f34,KP,reduceNeg,cutAt]
  rw[aC]
  simp only[KP,Ax.loadAt,↓reduceIte,reduceEqDiff,reduceLT,Int.reduceLT,reduceNeg,h.nQ,q8,q9,c1,f1]
  exact⟨D,Sx,[],dd,iv,hup,hmS,.inl ⟨rfl,λx hx=>by
   obtain⟨j,hj⟩:=gp.1 hx
   exact hno j x (AI.1 hj).1 hj⟩⟩
 ·rw[EU]
  simp only[KP]
  refine kwalk dd hd ow c0 c1 F1 q0 q7 q8 q9 _ _ (λF2 τ2 w' p p8 ow2 hpl hp0 wy=>?_)
  obtain⟨v',f1,iv⟩:=pC hl ow2
  rw[EU]
  simp only[KP,↓reduceIte,reduceLT,p8,f1]
  exact⟨D,Sx,p,dd,iv,hup,hmS,.inr ⟨j,x0,d,hx0,hd,λj' x e hj' he=>hmin j' x e (AI.1 hj').1 hj' he,hpl,hp0,wy⟩⟩
end
end
section
section
variable {E:Env}{Z:Sg}{K:V->Sg->Prop}
structure Way (rs:List aD) (p:List aG):Prop where
 ne:p≠[]
 all:∀x∈p,x∈a_ rs
 nx:∀(i:Nat) (y x:aG),p[i]?=some y->p[i+1]?=some x->x∈eR rs y
theorem b_Is (h:bK E)(h':tP E)(hl:Lb.cH E) (q:Kh E) (tr:IL E) {g:V}{rs:List aD}(hg:LW E rs g)(hf:Fits rs) {a:V}{p:List aG}(ha:LS eS 51 Z a p)(hp:p.length<=1000000):aB E 40 [g,a] Z λv σ'=>σ'=Z/\∃b:Bool,v=.bool b/\(b=true ↔ Way rs p):=by
 obtain⟨a',ea,ia⟩:=iH h ha
 have e1:=cN (Z:=Z) (ty:=E.ty) hg.bF (bZ hg.bF)
 have d4:=tr.abd
 simp only[aA,Tryz.f40,cutAt,an]at d4
 rw[aI tr.hs40 tr.sp40 tr.fn40 tr.md40 (args':=[g,a']) (by simp only[aW,e1,ea]),aY (by kernel_rfl)]
 have la:=f_ h ia
 simp only[aA,Tryz.f40,KP,↓reduceIte,reduceEqDiff,reduceLT,reduceAdd,la]
 refine aS (λi F Y=>F.get 0=g/\F.get 1=a'/\F.get 7=a'/\F.get 8=.int .i64 (p.length:Int)/\F.get 9=.int .i64 (i:Int)/\(∀(j:Nat) (x:aG),j<i->p[j]?=some x->x∈a_ rs)/\∀(j:Nat) (y x:aG),j+1<i->p[j]?=some y->p[j+1]?=some x->x∈eR rs y) p.length ?_ ?_ p.length 0 _ _ (by omega) (iY (by simp +decide only[GS,ag]) ⟨λj x hj=>by omega,λj y x hj=>by omega⟩)
 ·rintro i F Y hi ⟨g0,g1,g7,g8,g9,hall,hnx⟩ next
  obtain⟨x,hx⟩:∃x,p[i]?=some x:=⟨_,BY hi⟩
  obtain⟨gi,e1⟩:=kU h ia hx
  have hlt:=dG hi
  have hadd:=bQ i (by omega)
  have kk:=λ(Y:Sg)=>cU λK=>LO (Z:=Y) (K:=K) h h' hl q hg hf x
  have hstep:x∈a_ rs->∀(j:Nat) (z:aG),j<i+1->p[j]?=some z->z∈a_ rs:=λhxa j z hj hz=>by
   rcases bz j i with g | g
   ·exact hall j z g hz
   ·obtain rfl:j=i:=by omega
    rw[hx]at hz;cases hz;exact hxa
  rw[aC]
  by_cases hxa:x∈a_ rs
  ·have hkd:=Ll hxa
   generalize kindOf rs x=kd at kk hkd
   have hkd:decide (kd=0)=false:=AS hkd
   by_cases hi0:i=0
   ·have hgt:decide ((0:Int)<(i:Int))=false:=AS (by omega)
    simp only[KP,Ax.loadAt,Ax.storeAt,↓reduceIte,reduceEqDiff,reduceLT,reduceAdd,reduceCtorEq,h.cF,g0,g7,g8,g9,hlt,e1,kk,hkd,hgt,hadd,aL,cA,aK d4,bB]
    exact next _ _ (iY (by simp +decide only[GS,g0,g1,g7,g8,ag]) ⟨hstep hxa,λj y z hj=>by omega⟩)
   ·obtain⟨y,hy⟩:∃y,p[i-1]?=some y:=⟨_,BY (by omega)⟩
    obtain⟨gj,e2⟩:=kU h ia hy
    have hgt:decide ((0:Int)<(i:Int))=true:=AT (by omega)
    have hw1:wr .i64 ((i:Int)-1)=((i-1:Nat):Int):=by rw[Ef _ (by omega) (by omega)];omega
    simp only[KP,Ax.loadAt,Ax.storeAt,↓reduceIte,reduceEqDiff,reduceLT,reduceAdd,reduceCtorEq,h.cF,g0,g1,g7,g8,g9,hlt,e1,e2,kk,hkd,hgt,hw1,aL,cA,aK d4,bB]
    refine aP (IA h h' hl q hg hf y) ?_
    rintro v τ' ⟨e,hv⟩
    subst e
    have hvi:=hv.BQ.is
    have hdl:(eR rs y).length<=2000:=e8 (iT (CO rs y).nodup λx hx=>yR y x hx) (gN hf)
    have kc:=λ(Y:Sg)=>cU λK=>Tn (Z:=Y) (K:=K) (s:=x) h hl tr (hvi.ls Y 51) (by omega)
    by_cases hxn:x∈eR rs y
    ·rw[AT hxn]at kc
     simp only[KP,Ax.loadAt,↓reduceIte,reduceEqDiff,reduceLT,reduceAdd,h.cF,g9,kc,hadd,aL]
     refine next _ _ (iY (by simp +decide only[GS,g0,g1,g7,g8,ag]) ⟨hstep hxa,λj y' z hj hy' hz=>?_⟩)
     rcases bz (j+1) i with g | g
     ·exact hnx j y' z g hy' hz
     ·obtain rfl:i=j+1:=by omega
      rw[nq,hy']at hy
      cases hy
      rw[hx]at hz;cases hz;exact hxn
    ·rw[AS hxn]at kc
     simp only[KP,Ax.loadAt,↓reduceIte,reduceEqDiff,reduceLT,reduceAdd,h.cF,kc,aL,cG,aT]
     exact⟨false,rfl,⟨λe=>(by cases e),λhw=>absurd (hw.nx (i-1) y x hy (by rw[Nat.sub_add_cancel (by omega)];exact hx)) hxn⟩⟩
  ·have hkd:=HL hxa
   rw[hkd]at kk
   simp only[KP,Ax.loadAt,Ax.storeAt,↓reduceIte,reduceEqDiff,reduceLT,reduceAdd,reduceCtorEq,h.cF,g0,g7,g8,g9,hlt,e1,kk,aL,cA,aK d4,bB]
   exact⟨false,rfl,⟨λe=>(by cases e),λhw=>absurd (hw.all x (aa hx)) hxa⟩⟩
 ·rintro F Y ⟨g0,g1,g7,g8,g9,hall,hnx⟩
  have hlt:=dH (b9 p.length)
  rw[aC]
  by_cases h0:p.length=0
  ·have hgt:decide ((0:Int)<(p.length:Int))=false:=AS (by omega)
   simp only[KP,↓reduceIte,reduceEqDiff,reduceLT,g1,g8,g9,hlt,la,hgt,cG,aT]
   exact⟨false,rfl,⟨λe=>(by cases e),λhw=>absurd (iy.1 h0) hw.ne⟩⟩
  ·have hgt:decide ((0:Int)<(p.length:Int))=true:=AT (by omega)
   simp only[KP,↓reduceIte,reduceEqDiff,reduceLT,g1,g8,g9,hlt,la,hgt,cG,aT]
   exact⟨true,rfl,⟨λ_=>⟨λe=>h0 (by rw[e];rfl),λx hx=>by
    obtain⟨j,hj⟩:=gp.1 hx
    exact hall j x (AI.1 hj).1 hj,λj y x hy hx=>hnx j y x (AI.1 hx).1 hy hx⟩,λ_=>rfl⟩⟩
end
end
section
section
variable {E:Env}{Z:Sg}{K:V->Sg->Prop}
def Pth (rs:List aD):Nat->aG->aG->Prop
 |0,x,y=>x=y
 |n+1,x,y=>∃z,z∈eR rs x/\Pth rs n z y
theorem Pth.snoc {rs:List aD}:∀{n:Nat}{x y z:aG},Pth rs n x y->z∈eR rs y->Pth rs (n+1) x z
 |0,_,_,z,h,hz=>⟨z,by rw[show _=_ from h];exact hz,rfl⟩
 |n+1,_,_,_,⟨u,hu,h⟩,hz=>⟨u,hu,Pth.snoc h hz⟩
theorem yQ {rs:List aD}{n:bH}{y:aG}(h:y∈eR rs (true,n)):∃r∈rs,r.name=n/\∃f∈r.ins,y=(false,f):=by
 obtain⟨r,hr,⟨f,hf,e⟩ | ⟨f,hf,e⟩⟩:=lR.1 (mY.1 h)
 ·cases e;exact⟨r,hr,rfl,f,hf,rfl⟩
 ·cases e
theorem sF {rs:List aD}{f:bH}{y:aG}(h:y∈eR rs (false,f)):∃r∈rs,f∈r.outs/\y=(true,r.name):=by
 obtain⟨r,hr,⟨g,hg,e⟩ | ⟨g,hg,e⟩⟩:=lR.1 (mY.1 h)
 ·cases e
 ·cases e;exact⟨r,hr,hg,rfl⟩
theorem Way.take {rs:List aD}{p:List aG}(h:Way rs p) (k:Nat):Way rs (p.take (k+1)):=by
 refine⟨λe=>?_,λx hx=>h.all x (jh hx),λi y x hy hx=>?_⟩
 ·have:=au List.length e
  rw[br,b8]at this
  have:=jd.2 h.ne
  omega
 ·have hl:=(AI.1 hx).1
  rw[br]at hl
  rw[fu (by omega)]at hy hx
  exact h.nx i y x hy hx
theorem Way.drop {rs:List aD}{p:List aG}(h:Way rs p) {k:Nat}(hk:k<p.length):Way rs (p.drop k):=by
 refine⟨λe=>?_,λx hx=>h.all x (List.mem_of_mem_drop hx),λi y x hy hx=>?_⟩
 ·have:=au List.length e
  rw[od,b8]at this
  omega
 ·rw[ji]at hy hx
  exact h.nx (k+i) y x hy (by rw[show k+i+1=k+(i+1) by omega];exact hx)
theorem Way.join {rs:List aD}{p r:List aG}{b:aG}(h:Way rs p)(h':Way rs r)(hp:p[p.length-1]?=some b)(hr:r[0]?=some b):Way rs (p++r.drop 1):=by
 have hpl:=jd.2 h.ne
 refine⟨λe=>h.ne (List.append_eq_nil_iff.1 e).1,λx hx=>?_,λi y x hy hx=>?_⟩
 ·rcases bt.1 hx with hx | hx
  ·exact h.all x hx
  ·exact h'.all x (List.mem_of_mem_drop hx)
 ·rcases jn (i+1) p.length with g | g | g
  ·rw[aq (by omega)]at hy hx
   exact h.nx i y x hy hx
  ·rw[aq (by omega),show i=p.length-1 by omega,hp]at hy
   cases hy
   rw[bp (by omega),ji,show 1+(i+1-p.length)=0+1 by omega]at hx
   exact h'.nx 0 b x hr hx
  ·rw[bp (by omega),ji]at hy hx
   exact h'.nx (1+(i-p.length)) y x hy (by rw[show 1+(i-p.length)+1=1+(i+1-p.length) by omega];exact hx)
theorem Way.bD {rs:List aD}{p:List aG}(h:Way rs p) {c:aG}(hc:p[p.length-1]?=some c):∀(n i:Nat) {y:aG},i+n+1=p.length->p[i]?=some y->Rk (jO rs) (λx=>x∈[c]/\x∈a_ rs) n y
 |0,i,y,hl,hy=>by
  rw[show p.length-1=i by omega,hy]at hc
  cases hc
  exact⟨cj.2 rfl,h.all _ (aa hy)⟩
 |n+1,i,y,hl,hy=>by
  obtain⟨u,hu⟩:∃u,p[i+1]?=some u:=⟨_,BY (by omega)⟩
  exact .inr ⟨u,h.bD hc n (i+1) (by omega) hu,(An u y).1 (h.nx i y u hy hu)⟩
theorem SO {rs:List aD}{ls:List aG}{D:List (aG × Nat)} (dd:Ft rs ls D) {x:aG}{d:Nat}(hd:oZ D x=some d):x∈a_ rs:=
 Rk.sub (P:=λx=>x∈a_ rs) (λ_ hx=>hx.2) (λy x hx=>Cb y x hx) d ((dd.is x d).1 hd).1
structure Told (rs:List aD) (a b:aG) (p:List aG):Prop where
 way:p≠[]->Way rs p/\p[0]?=some a/\p[p.length-1]?=some b
 short:∀w,Way rs w->w[0]?=some a->w[w.length-1]?=some b->p.length<=w.length
 some:∀w,Way rs w->w[0]?=some a->w[w.length-1]?=some b->p≠[]
theorem Q7 {rs:List aD}{a b:aG}{D:List (aG × Nat)}{Sx p:List aG} (dd:Ft rs [b] D)(hS:∀x,x∈Sx ↔ x∈[a])(h:TS rs D Sx p):Told rs a b p:=by
 have hnear:∀w,Way rs w->w[0]?=some a->w[w.length-1]?=some b->∃d,d+1<=w.length/\oZ D a=some d:=λw hw ha hb=>by
  have hl:=jd.2 hw.ne
  obtain⟨d,hd,hi⟩:=GB.some (hw.bD hb (w.length-1) 0 (by omega) ha)
  exact⟨d,by omega,(dd.is a d).2 hi⟩
 rcases h with⟨rfl,hno⟩ | ⟨j,x0,d,hj,hx0,hmin,hpl,hp0,wy⟩
 ·refine⟨λe=>absurd rfl e,λw hw ha hb=>ij _,λw hw ha hb=>?_⟩
  obtain⟨d,-,hd⟩:=hnear w hw ha hb
  rw[hno a ((hS a).2 (cj.2 rfl))]at hd
  cases hd
 ·have hxa:x0=a:=cj.1 ((hS x0).1 (aa hj))
  subst hxa
  have hne:p≠[]:=λe=>by rw[e]at hpl;simp at hpl
  refine⟨λ_=>⟨⟨hne,λx hx=>?_,λi y x hy hx=>?_⟩,hp0,?_⟩,λw hw ha hb=>?_,λ_ _ _ _=>hne⟩
  ·obtain⟨i,hi⟩:=gp.1 hx
   exact SO dd (wy.bD i x hi).2
  ·obtain⟨m,-,hm⟩:=wy.nx i y x hy hx
   exact aa hm
  ·obtain⟨z,hz⟩:∃z,p[p.length-1]?=some z:=⟨_,BY (by omega)⟩
   have h0:=(wy.bD _ z hz).2
   rw[show d-(p.length-1)=0 by omega]at h0
   have h1:z∈[b]:=((dd.is z 0).1 h0).1.1
   rw[hz,cj.1 h1]
  ·obtain⟨e,he,hd⟩:=hnear w hw ha hb
   rw[hx0]at hd
   cases hd
   omega
end
end
structure TcE (E:Env):Prop where
 hs10:E.hspec 10=none
 Rj:E.spec 10=none
 fn10:E.fn 10=some (aA Tryz.f10)
 md10:E.mode 10=.fK
 z10_6:fT E (opsOf (cutAt [1,1,1,1,1,0] (aA Tryz.f10).code))=.lit
 p10_6:cJ E .lit (opsOf (cutAt [1,1,1,1,1,0] (aA Tryz.f10).code))=some []
 z10_9:fT E (opsOf (cutAt [1,1,1,1,1,1,0,1,0,1,0] (aA Tryz.f10).code))=.no
 p10_9:cJ E .no (opsOf (cutAt [1,1,1,1,1,1,0,1,0,1,0] (aA Tryz.f10).code))=some [⟨28,31,true,false⟩]
 z10_13:fT E (opsOf (cutAt [1,1,1,1,1,1,1,1,0] (aA Tryz.f10).code))=.lit
 p10_13:cJ E .lit (opsOf (cutAt [1,1,1,1,1,1,1,1,0] (aA Tryz.f10).code))=some [⟨2,4,true,false⟩]
 beg:∀{Z:Sg}{K:V->Sg->Prop},aB E 11 [] Z K=K (.bool true) Z
section
structure GF (E:Env):Prop where
 kV:E.ty 63=some { kd:=.jP [(0,22),(1,23),(2,61)],size:=3,bytes:=72,zero:=.agg [.aF,.aF,.aF] }
 ty29:E.ty 29=some { kd:=.ptr 63,size:=1,bytes:=8,zero:=.gG }
 hs69:E.hspec 69=none
 sp69:E.spec 69=none
 fn69:E.fn 69=some (aA Tryz.f69)
 md69:E.mode 69=.fK
 aaZ:aO E (cutAt [1,1,0,1,0,0] (aA Tryz.f69).code)=true
 aaY:aO E (cutAt [1,1,1,1,0] (aA Tryz.f69).code)=true
 hs14:E.hspec 14=none
 Od:E.spec 14=none
 fn14:E.fn 14=some (aA Tryz.f14)
 md14:E.mode 14=.fK
 Wo:fT E (opsOf (cutAt [1,1,0,1,2,2,1,0,2,0] (aA Tryz.f14).code))=.no
 X8:cJ E .no (opsOf (cutAt [1,1,0,1,2,2,1,0,2,0] (aA Tryz.f14).code))=some [⟨4,9,false,true⟩,  ⟨4,10,false,true⟩]
 abf:aO E (cutAt [1,1,0,1,2,2,1,0,2,1,0] (aA Tryz.f14).code)=true
 Wn:fT E (opsOf (cutAt [1,1,0,1,2,2,1,0,2,1,1,0] (aA Tryz.f14).code))=.no
 X7:cJ E .no (opsOf (cutAt [1,1,0,1,2,2,1,0,2,1,1,0] (aA Tryz.f14).code))=some [⟨5,10,true,false⟩]
 TZ:fT E (opsOf (cutAt [1,1,1,0,1,2,2,1,0,2,0] (aA Tryz.f14).code))=.no
 UT:cJ E .no (opsOf (cutAt [1,1,1,0,1,2,2,1,0,2,0] (aA Tryz.f14).code))=some [⟨4,10,false,true⟩,  ⟨4,11,false,true⟩]
 VF:aO E (cutAt [1,1,1,0,1,2,2,1,0,2,1,1,2,2,1,0,2] (aA Tryz.f14).code)=true
 hs18:E.hspec 18=none
 Oc:E.spec 18=none
 fn18:E.fn 18=some (aA Tryz.f18)
 md18:E.mode 18=.fK
 abe:aO E (cutAt [1,1,0,1,2,2,1,0,2,0] (aA Tryz.f18).code)=true
 hs41:E.hspec 41=none
 sp41:E.spec 41=none
 fn41:E.fn 41=some (aA Tryz.f41)
 md41:E.mode 41=.fK
 abc:aO E (cutAt [1,0,1,2,2,1,0,2,0] (aA Tryz.f41).code)=true
 abb:aO E (cutAt [1,0,1,2,2,1,0,2,1,0] (aA Tryz.f41).code)=true
section
variable {E:Env}{Z:Sg}{K:V->Sg->Prop}
theorem PG {l:List bH}{s:bH}:decide (0<=idx (bI (λx=>decide (x=s)) l))=decide (s∈l):=by
 by_cases hs:s∈l
 ·obtain⟨j,hj⟩:=iE (p:=λx:bH=>decide (x=s)) hs (AT rfl)
  rw[hj,AT hs]
  exact AT (by show (0:Int)<=(j:Int);omega)
 ·rw[dS (p:=λx:bH=>decide (x=s)) λx hx=>AS λe:x=s=>hs (by rw[<- e];exact hx),AS hs]
  rfl
theorem Ox {rs:List aD}{n:bH}(hx:((true,n):aG)∈a_ rs):∃r∈rs,r.name=n:=by
 rcases yT.1 hx with hx | ⟨p,hp,hx⟩
 ·obtain⟨r,hr,e⟩:=cm.1 hx
  exact⟨r,hr,au Prod.snd e⟩
 ·obtain⟨r,hr,⟨f,-,rfl⟩ | ⟨f,-,rfl⟩⟩:=lR.1 hp
  ·rcases hx with e | e
   ·cases e;exact⟨r,hr,rfl⟩
   ·cases e
  ·rcases hx with e | e
   ·cases e
   ·cases e;exact⟨r,hr,rfl⟩
theorem Qe (h:bK E)(hl:Lb.cH E) (rg:GF E) {a:V}{rs:List aD}(ha:LS dO 46 Z a rs)(hf:Fits rs) {x y:aG}(hx:x∈a_ rs):aB E 69 [a,.agg [.bool x.1,.str x.2],.agg [.bool y.1,.str y.2]] Z K=K (.bool (decide (y∈eR rs x))) Z:=by
 refine aB.of ?_
 obtain⟨a',ea,ia⟩:=eJ h ha
 have ex:=qW (E:=E) Z x
 have ey:=qW (E:=E) Z y
 have hlen:=hf.len
 have d4:=rg.aaZ
 simp only[aA,Tryz.f69,cutAt,an]at d4
 have d6:=rg.aaY
 simp only[aA,Tryz.f69,cutAt,an]at d6
 rw[aI rg.hs69 rg.sp69 rg.fn69 rg.md69 (args':=[a',.agg [.bool x.1,.str x.2],.agg [.bool y.1,.str y.2]]) (by simp only[aW,ea,ex,ey]),aY (by kernel_rfl)]
 have e4:∀c x y,m_ E 4 c (.bool x) (.bool y)=some (x==y):=λc x y=>by unfold m_;simp only[h.tR]
 obtain⟨bx,sx⟩:=x
 obtain⟨cy,sy⟩:=y
 dsimp only
 cases bx with
 |true=>
  cases cy with
  |true=>
   have hn:((true,sy):aG) ∉ eR rs (true,sx):=λhm=>by
    obtain⟨r,-,-,f,-,e⟩:=yQ hm
    cases e
   rw[AS hn]
   simp only[aA,Tryz.f69,KP,Ax.loadAt,↓reduceIte,reduceEqDiff,reduceLT,reduceAdd,reduceCtorEq,h.tR,h.cF,e4,cG,aT]
   exact rfl
  |false=>
   obtain⟨r,hr,hrn⟩:=Ox hx
   obtain⟨i,hi⟩:=iE (p:=λr:aD=>decide (r.name=sx)) hr (AT hrn)
   obtain⟨r',hr',hrn'⟩:=fL hi
   obtain rfl:=Ew hf (aa hr') hr ((dx hrn').trans hrn.symm)
   obtain⟨g,p1,p2,p3,p4,e1,i1,-⟩:=eH h ia hr'
   have hil:=e8 (hf.small r' hr).ins (show 10<=4294967296 by decide)
   have ka:=λ(Y:Sg)=>cU λK=>abr (Z:=Y) (K:=K) h (s:=sx) (ia.ls Y 46) (by omega)
   have kf:=λ(Y:Sg)=>cU λK=>Qt (Z:=Y) (K:=K) h (s:=sy) (i1.ls Y 9) hil
   rw[show gB rs sx=some i from hi,dD]at ka
   have hd:=PG (l:=r'.ins) (s:=sy)
   have hiff:decide (((false,sy):aG)∈eR rs (true,sx))=decide (sy∈r'.ins):=me.2 ⟨λhm=>by
    obtain⟨r0,hr0,hn0,f,hf0,e⟩:=yQ hm
    cases e
    rw[Ew hf hr0 hr (hn0.trans hrn.symm)]at hf0
    exact hf0,λhm=>mY.2 (lR.2 ⟨r',hr,.inl ⟨sy,hm,by rw[hrn]⟩⟩)⟩
   rw[hiff]
   simp only[aA,Tryz.f69,KP,Ax.loadAt,↓reduceIte,reduceEqDiff,reduceLT,reduceAdd,reduceCtorEq,h.tR,h.c_,h.bC,h.bM,h.cF,e4,ka,kf,e1,hd,cG,aT,aK d4,bB]
   exact rfl
 |false=>
  cases cy with
  |false=>
   have hn:((false,sy):aG) ∉ eR rs (false,sx):=λhm=>by
    obtain⟨r,-,-,e⟩:=sF hm
    cases e
   rw[AS hn]
   simp only[aA,Tryz.f69,KP,Ax.loadAt,↓reduceIte,reduceEqDiff,reduceLT,reduceAdd,reduceCtorEq,h.tR,h.cF,e4,cG,aT]
   exact rfl
  |true=>
   have km:=λ(Y:Sg)=>cU λK=>LP (Z:=Y) (K:=K) h (s:=sx) (ia.ls Y 46) (λx hx=>e8 (hf.small x hx).outs (by decide)) (by omega)
   cases hm:eW rs sx with
   |none=>
    have hn:((true,sy):aG) ∉ eR rs (false,sx):=λhq=>by
     obtain⟨r,hr,hro,-⟩:=sF hq
     obtain⟨k,hk⟩:=iE (p:=λr:aD=>decide (sx∈r.outs)) hr (AT hro)
     unfold eW at hm
     rw[hk]at hm
     cases hm
    rw[AS hn]
    rw[hm]at km
    have hz:decide (0<=idx (none:Option Nat))=false:=rfl
    simp only[aA,Tryz.f69,KP,Ax.loadAt,↓reduceIte,reduceEqDiff,reduceLT,reduceAdd,reduceCtorEq,h.tR,h.c_,h.cF,e4,km,hz,cG,aT,aK d6,bB]
    exact rfl
   |some k=>
    unfold eW at hm
    obtain⟨r,hr,hro⟩:=fL hm
    have hro:=dx hro
    obtain⟨g,p1,p2,p3,p4,e1,-⟩:=eH h ia hr
    have hiff:decide (((true,sy):aG)∈eR rs (false,sx))=decide (r.name=sy):=me.2 ⟨λhq=>by
     obtain⟨r',hr',hro',e⟩:=sF hq
     cases e
     exact (vH hf.ok.1).short.jM sx r.name r'.name ⟨r,aa hr,hro,rfl⟩ ⟨r',hr',hro',rfl⟩,λe=>mY.2 (lR.2 ⟨r,aa hr,.inr ⟨sx,hro,by rw[e]⟩⟩)⟩
    rw[hiff]
    have hm:eW rs sx=some k:=hm
    rw[hm,dD]at km
    simp only[aA,Tryz.f69,KP,Ax.loadAt,↓reduceIte,reduceEqDiff,reduceLT,reduceAdd,reduceCtorEq,h.tR,h.c_,h.bM,h.cF,e4,km,e1,vA,cG,aT,aK d6,bB]
    exact rfl
end
end
end Go.Proofs.YtmhchflckonklaaGreatDoor
end
section
namespace Go.Proofs.YtmhchflckonklaaGreatDoor.Lb
open Go Go.Ax Go.AxS
section
def pos:List aG->aG->Nat
 | [],_=>0
 |y::r,x=>if lt y x=true then pos r x+1 else 0
theorem FU:∀(l:List aG) (x:aG),pos l x<=l.length
 | [],_=>ae _
 |y::r,x=>by
  simp only[pos,af]
  have:=FU r x
  split <;> omega
theorem OQ:∀(l:List aG) (x:aG) (i:Nat),i<pos l x->∃y,l[i]?=some y/\lt y x=true
 | [],_,i,h=>by simp[pos]at h
 |y::r,x,0,h=>by
  simp only[pos]at h
  split at h
  ·rename_i hy;exact⟨y,rfl,hy⟩
  ·omega
 |y::r,x,i+1,h=>by
  simp only[pos]at h
  split at h
  ·obtain⟨z,h1,h2⟩:=OQ r x i (by omega)
   exact⟨z,h1,h2⟩
  ·omega
theorem pos_at:∀(l:List aG) (x y:aG),l[pos l x]?=some y->lt y x=false
 | [],_,_,h=>by simp[pos]at h
 |z::r,x,y,h=>by
  simp only[pos]at h
  split at h
  ·exact pos_at r x y h
  ·rename_i hz
   have:z=y:=by simpa using h
   subst this
   simpa using hz
theorem FO:∀(l:List aG) (x:aG),put l x=if l[pos l x]?=some x then l else l.take (pos l x)++x::l.drop (pos l x)
 | [],x=>by simp[put,pos]
 |y::r,x=>by
  by_cases hy:lt y x=true
  ·have e:pos (y::r) x=pos r x+1:=by simp only[pos,hy,bh]
   have p:put (y::r) x=y::put r x:=by simp only[put,hy,bh]
   rw[p,FO r x]
   simp only[e,cw,o8,nf,dy]
   split <;> rfl
  ·have e:pos (y::r) x=0:=by simp only[pos,hy];rfl
   have p:put (y::r) x=if y=x then y::r else x::y::r:=by simp only[put,hy];rfl
   rw[p]
   simp only[e,cg,j8,jy,fg,cq]
theorem Kl (x:aG):nE (pA 11) (row x) (row x)=true:=by
 show ((x.1==x.1)&&(Ax.seq x.2 x.2&&true))=true
 rw[(kE x.2 x.2).2 rfl]
 simp
theorem Fm {g:List V->List V->Bool}:∀l:List aG,(∀x,g (row x) (row x)=true)->nE g (l.map row) (l.map row)=true
 | [],_=>rfl
 |x::l,h=>by
  show (g (row x) (row x)&&nE g (l.map row) (l.map row))=true
  rw[h,Fm l h];rfl
theorem xM (a:Bool) (s:List Nat):pA 12 (.agg [.bool a,.str s]) (.agg [.bool a,.str s])=true:=Kl (a,s)
theorem FC (g full:Bool) (l:List aG):pA 12 (.bS g (l.map row) full) (.bS g (l.map row) full)=true:=by
 show (g==g&&nE (nE (pA 11)) (l.map row) (l.map row)&&full==full)=true
 rw[Fm l Kl];simp
section
variable {E:Env}{Z:Sg}{K:V->Sg->Prop}
theorem mG (h:cH E) (a:Bool) (s:List Nat) (ex:Bool) (Y:Sg):loadAt E (.cells 51 [.bool a,.str s] ex::Y) 51 (.ref 0 0)=some (.agg [.bool a,.str s]):=by
 unfold loadAt
 rw[h.cF]
 rfl
theorem Ms (h:cH E) {v:V}{l:List aG}{x:aG}(hv:LV v l)(hsm:l.length<=1000000000000) {s:List gT}{Q:Ax.X->Fr->Sg->Prop}
  (hQ:∀F':FT,F'.get 0=v->F'.get 3=.ref 0 0->F'.get 5=.int .i64 (pos l x:Int)->M E s .normal ⟨44,F'⟩ [.cells 51 [.bool x.1,.str x.2] true] Q) :
  ∀(k i:Nat) (F:FT),i+k=pos l x->F.get 0=v->F.get 3=.ref 0 0->F.get 5=.int .i64 (i:Int)->R E (.loop (cutAt [1,1,0,2,2] (aA Tryz.f68).code)) (.blk 0::s) ⟨44,F⟩ [.cells 51 [.bool x.1,.str x.2] true] Q:=by
 have la:∀Z,lenOf E Z 23 v=some l.length:=λZ=>JI h (hv.sv Z)
 have hk:pos l x<=l.length:=FU l x
 have d2:=h.aa1
 simp only[aA,Tryz.f68,cutAt,an]at d2
 intro k
 induction k with
 |zero=>
  intro i F hi g0 g3 g5
  rw[aC]
  by_cases hil:i<l.length
  ·have hlt:decide ((i:Int)<(l.length:Int))=true:=AT (by omega)
   obtain⟨y,hy⟩:∃y,l[i]?=some y:=⟨_,BY hil⟩
   obtain⟨pa,e1,e2⟩:=BX h (hv.sv [.cells 51 [.bool x.1,.str x.2] true]) hy
   have e2:=e2 _ (dQ.refl _)
   have hm:lt (y.1,y.2) (x.1,x.2)=false:=pos_at l x y (by rw[<- hi];exact hy)
   simp only[aA,Tryz.f68,KP,↓reduceIte,reduceEqDiff,reduceLT,reduceCtorEq,cutAt,g0,g3,g5,la,hlt,aK d2,bB,e1,e2,mG h,Lp h,hm]
   refine hQ _ ?_ ?_ ?_ <;> simp only[FT.eB,g0,g3,g5,↓reduceIte,reduceEqDiff,reduceCtorEq]
   rw[<- hi,kq]
  ·have hlt:decide ((i:Int)<(l.length:Int))=false:=AS (by omega)
   simp only[aA,Tryz.f68,KP,↓reduceIte,reduceEqDiff,reduceLT,reduceCtorEq,cutAt,g0,g5,la,hlt,aK d2,bB]
   refine hQ _ ?_ ?_ ?_ <;> simp only[FT.eB,g0,g3,g5,↓reduceIte,reduceEqDiff,reduceCtorEq]
   rw[<- hi,kq]
 |succ k ih=>
  intro i F hi g0 g3 g5
  obtain⟨y,hy,hn⟩:=OQ l x i (by omega)
  have hlt:decide ((i:Int)<(l.length:Int))=true:=AT (by omega)
  obtain⟨pa,e1,e2⟩:=BX h (hv.sv [.cells 51 [.bool x.1,.str x.2] true]) hy
  have e2:=e2 _ (dQ.refl _)
  have hm:lt (y.1,y.2) (x.1,x.2)=true:=hn
  have hadd:=Kj i (by omega)
  rw[aC]
  simp only[aA,Tryz.f68,KP,↓reduceIte,reduceEqDiff,reduceLT,reduceCtorEq,cutAt,g0,g3,g5,la,hlt,aK d2,bB,e1,e2,mG h,Lp h,hm,hadd]
  refine ih (i+1) _ (by omega) ?_ ?_ ?_ <;> simp only[FT.eB,g0,g3,↓reduceIte,reduceEqDiff,reduceCtorEq]
end
end
section
section
variable {E:Env}{Z:Sg}{K:V->Sg->Prop}
theorem rJ (Z:Sg) (g full:Bool) (a:Bool) (s:List Nat):elems Z 2 (.bS g [[.bool a,.str s]] full)=some ([.bool a,.str s],1):=rfl
theorem AD (Z:Sg) (g full:Bool):elems Z 2 (.bS g [] full)=some ([],0):=rfl
theorem NT:Br 2 []=true:=rfl
theorem AQ (g full:Bool):pA 12 (.bS g [] full) (.bS g [] full)=true:=FC g full []
theorem OC:roomy 1 24=true:=by decide
theorem FM:lG 1 24=true:=by decide
theorem OJ (h:cH E) {l:List aG}{x:aG}{g full:Bool}(hsm:l.length<=100000000000) (F:FT) (g0:F.get 0=.bS g (l.map row) full) (g3:F.get 3=.ref 0 0) (g5:F.get 5=.int .i64 (pos l x:Int)) :
  ∃F' b cs σ',bW E (ev E 0) (opsOf (cutAt [1,1,1,1,0] (aA Tryz.f68).code)) ⟨44,F⟩ [.cells 51 [.bool x.1,.str x.2] true]=some (⟨44,F'⟩,σ')/\F'.get 4=.sl b 0 (l.length+1) none/\σ'[b]?=some (.cells 51 cs false)/\cs=(l.take (pos l x)++x::l.drop (pos l x)).flatMap row:=by
 have hk:pos l x<=l.length:=FU l x
 generalize pos l x=k at *
 have hd1:decide ((0:Int)<=(k:Int))=true:=AT (by omega)
 have hd2:decide ((k:Int)<=(l.length:Int))=true:=AT (by omega)
 have hm1:(l.map row).take k=(l.take k).map row:=by rw[List.map_take]
 have hm2:((l.map row).drop k).take (l.length-k)=(l.drop k).map row:=by
  rw[ah (by simp),List.map_drop]
 have n1:(l.take k).length=k:=by rw[br];omega
 have n2:(l.drop k).length=l.length-k:=od
 have f1:((l.take k).flatMap row).length=k*2:=by rw[kC,n1]
 have f2:((k+1)*2<=k*2)=False:=by simp only[eq_iff_iff,iff_false];omega
 have f3:((l.take k).flatMap row).take (k*2)=(l.take k).flatMap row:=ah (by omega)
 have f4:((l.take k).flatMap row++[V.bool x.1,V.str x.2]).length=(k+1)*2:=by rw[ak,f1];show _+2=_;omega
 have f6:((l.take k).flatMap row++[V.bool x.1,V.str x.2]).take ((k+1)*2)=(l.take k).flatMap row++[V.bool x.1,V.str x.2]:=ah (by omega)
 have r1:lG k 24=true:=Mn k (by omega)
 have r2:roomy (k+1) 24=true:=CD _ (by omega)
 have r3:roomy (k+1+(l.length-k)) 24=true:=CD _ (by omega)
 have f7:k+1+(l.length-k)=l.length+1:=by omega
 have f8:(l.take k++x::l.drop k).flatMap row=(l.take k).flatMap row++[V.bool x.1,V.str x.2]++(l.drop k).flatMap row:=by simp[List.flatMap_append,jg,row]
 unfold bW
 rw[h.Tx,h.TC]
 by_cases hp:k=0
 ·subst hp
  by_cases hq:l.length=0
  ·obtain rfl:=iy.1 hq
   simp only[opsOf,cutAt,aA,Tryz.f68,Fz.lits,Fz.apps,fF,bJ,bV,jF,Ax.comp,tK,Ax.last,eL,Ax.again,Ax.slice,Ax.bound,Ax.append,fA,oC,Ax.fill,fR,Ax.rows,bT,qQ,KP,↓reduceIte,reduceEqDiff,reduceLT,reduceLeDiff,reduceAdd,reduceMul,Nat.reduceBEq,reduceCtorEq,reduceLE,h.cF,h.dB,g0,g3,g5,o5,rJ,mG h,List.map_nil,AD,NT,OC,FM,xM,AQ]
   exact⟨_,1,_,_,rfl,by simp only[FT.eB,↓reduceIte],rfl,rfl⟩
  ·have hm3:(l.map row).take l.length=l.map row:=ah (by simp)
   have f10:((1+l.length)*2<=2)=False:=by simp only[eq_iff_iff,iff_false];omega
   have r4:roomy (1+l.length) 24=true:=CD _ (by omega)
   simp only[opsOf,cutAt,aA,Tryz.f68,Fz.lits,Fz.apps,fF,bJ,bV,jF,Ax.comp,tK,Ax.last,eL,Ax.again,Ax.slice,Ax.bound,Ax.append,fA,oC,Ax.fill,fR,Ax.rows,bT,qQ,KP,↓reduceIte,reduceEqDiff,reduceLT,reduceLeDiff,reduceAdd,reduceMul,Nat.reduceBEq,reduceCtorEq,reduceLE,h.cF,h.dB,g0,g3,g5,bg,uW,o5,AE,rJ,mG h,AD,FM,hm3,f10,r4,xM,FC]
   exact⟨_,2,_,_,rfl,by simp only[FT.eB,kj 1 l.length,↓reduceIte],rfl,rfl⟩
 ·by_cases hq:l.length-k=0
  ·have f9:((l.take k).flatMap row++[V.bool x.1,V.str x.2]).drop ((k+1)*2)=[]:=jk (by omega)
   simp only[opsOf,cutAt,aA,Tryz.f68,Fz.lits,Fz.apps,fF,bJ,bV,jF,Ax.comp,tK,Ax.last,eL,Ax.again,Ax.slice,Ax.bound,Ax.append,fA,oC,Ax.fill,fR,Ax.rows,bT,qQ,KP,↓reduceIte,reduceEqDiff,reduceLT,reduceLeDiff,reduceAdd,reduceMul,Nat.reduceBEq,reduceCtorEq,h.cF,h.dB,g0,g3,g5,bg,uW,hd2,cv,o5,hm1,AE,rJ,mG h,n1,hp,hq,r1,r2,f1,f2,f3,f4,f6,xM,AQ,AD,f9]
   have f12:l.drop k=[]:=jk (by omega)
   have f11:l.length=k:=by omega
   exact⟨_,2,_,_,rfl,by simp only[FT.eB,f11,KP,↓reduceIte],rfl,by rw[f8];simp[f12]⟩
  ·have f5:((k+1+(l.length-k))*2<=(k+1)*2)=False:=by simp only[eq_iff_iff,iff_false];omega
   simp only[opsOf,cutAt,aA,Tryz.f68,Fz.lits,Fz.apps,fF,bJ,bV,jF,Ax.comp,tK,Ax.last,eL,Ax.again,Ax.slice,Ax.bound,Ax.append,fA,oC,Ax.fill,fR,Ax.rows,bT,qQ,KP,↓reduceIte,reduceEqDiff,reduceLT,reduceLeDiff,reduceAdd,reduceMul,Nat.reduceBEq,reduceCtorEq,h.cF,h.dB,g0,g3,g5,bg,uW,hd2,cv,o5,hm1,hm2,AE,rJ,mG h,n1,n2,hp,r1,r2,r3,f1,f2,f3,f4,f5,f6,xM,FC]
   exact⟨_,3,_,_,rfl,by simp only[FT.eB,f7,↓reduceIte],rfl,f8.symm⟩
end
end
section
section
variable {E:Env}{Z:Sg}{K:V->Sg->Prop}
theorem NJ:pA 12 .aF .aF=true:=rfl
theorem JZ (Z:Sg):elems Z 2 .aF=some ([],0):=rfl
theorem Mr (h:cH E) {x:aG} (F:FT) (g0:F.get 0=.aF) (g3:F.get 3=.ref 0 0) (g5:F.get 5=.int .i64 0) :
  ∃F' σ',bW E (ev E 0) (opsOf (cutAt [1,1,1,1,0] (aA Tryz.f68).code)) ⟨44,F⟩ [.cells 51 [.bool x.1,.str x.2] true]=some (⟨44,F'⟩,σ')/\F'.get 4=.sl 1 0 1 none/\σ'[1]?=some (.cells 51 [.bool x.1,.str x.2] false):=by
 unfold bW
 rw[h.Tx,h.TC]
 simp only[opsOf,cutAt,aA,Tryz.f68,Fz.lits,Fz.apps,fF,bJ,bV,jF,Ax.comp,tK,Ax.last,eL,Ax.again,Ax.slice,Ax.bound,Ax.append,fA,oC,Ax.fill,fR,Ax.rows,bT,qQ,KP,↓reduceIte,reduceEqDiff,reduceLT,reduceLeDiff,reduceAdd,reduceMul,Nat.reduceBEq,reduceCtorEq,reduceLE,h.cF,h.dB,g0,g3,g5,JZ,rJ,mG h,OC,FM,xM,NJ]
 exact⟨_,_,rfl,by simp only[FT.eB,↓reduceIte],rfl⟩
theorem Qi (h:cH E) {v:V}{l:List aG}{x:aG}(hv:Wb v l)(hsm:l.length<=100000000000):aB E 68 [v,.agg [.bool x.1,.str x.2]] Z λv' σ'=>σ'=Z/\Wb v' (put l x):=by
 have e1:aT Z E.ty true v=some v:=by rcases hv with⟨rfl,_⟩ | ⟨full,rfl⟩ <;> rfl
 have e2:aT Z E.ty true (.agg [.bool x.1,.str x.2])=some (.agg [.bool x.1,.str x.2]):=rfl
 have la:∀Z,lenOf E Z 23 v=some l.length:=λZ=>JI h (hv.lv.sv Z)
 have hk:pos l x<=l.length:=FU l x
 have d4:=h.aa0
 simp only[aA,Tryz.f68,cutAt,an]at d4
 rw[aI h.hs68 h.sp68 h.fn68 h.md68 (args':=[v,.agg [.bool x.1,.str x.2]]) (by simp only[aW,e1,e2]),aY (by kernel_rfl)]
 simp only[aA,Tryz.f68,KP,↓reduceIte,reduceLT,reduceAdd,h.cF]
 refine Ms h hv.lv (by omega) (λF' g0 g3 g5=>?_) (pos l x) 0 _ (by omega) ?_ ?_ ?_
 rotate_left
 ·simp only[FT.eB,↓reduceIte,reduceCtorEq]
 ·simp only[FT.eB,↓reduceIte,reduceEqDiff]
 ·simp only[FT.eB,KP,↓reduceIte]
  try rfl
 have fin:l[pos l x]?≠some x->∀(F2:FT),F2.get 0=v->F2.get 3=.ref 0 0->F2.get 5=.int .i64 (pos l x:Int) ->
   R E (.region 6 (opsOf (cutAt [1,1,1,1,0] (aA Tryz.f68).code)) true) [.k .ret] ⟨44,F2⟩ [.cells 51 [.bool x.1,.str x.2] true] (mS E (aA Tryz.f68).results λv σ1=>match cG σ1 E.ty false v with
    |some v=>Z=Z/\Wb v (put l x)
    |none=>False):=by
  intro hne F2 k0 k3 k5
  have hp:=FO l x
  rw[az hne]at hp
  rcases hv with⟨rfl,rfl⟩ | ⟨full,rfl⟩
  ·obtain⟨F3,σ3,hE,q4,qb⟩:=Mr h (x:=x) F2 k0 k3 k5
   refine Eq.mpr (fO hE) ?_
   simp only[aA,Tryz.f68,KP,↓reduceIte,reduceLT,q4]
   obtain⟨v',e,hv'⟩:=LM (Z:=σ3) (l:=[x]) h (.inr (.inr ⟨1,_,_,rfl,qb,rfl⟩))
   have e:cG σ3 E.ty false (.sl 1 0 1 none)=some v':=e
   rw[e]
   exact hv'
  ·obtain⟨F3,b,cs,σ3,hE,q4,qb,qc⟩:=OJ h hsm F2 k0 k3 k5
   refine Eq.mpr (fO hE) ?_
   simp only[aA,Tryz.f68,KP,↓reduceIte,reduceLT,q4]
   have hl:(put l x).length=l.length+1:=by rw[hp,ak,br,af,od];omega
   obtain⟨v',e,hv'⟩:=LM (Z:=σ3) (l:=put l x) h (.inr (.inr ⟨b,cs,false,rfl,qb,by rw[qc,<- hp];exact ah (by rw[kC];omega)⟩))
   rw[<- hl,e]
   exact hv'
 by_cases hil:pos l x<l.length
 ·have hlt:decide ((pos l x:Int)<(l.length:Int))=true:=AT (by omega)
  obtain⟨y,hy⟩:∃y,l[pos l x]?=some y:=⟨_,BY hil⟩
  obtain⟨pa,p1,p2⟩:=BX h (hv.lv.sv [.cells 51 [.bool x.1,.str x.2] true]) hy
  have p2:=p2 _ (dQ.refl _)
  by_cases hyx:y=x
  ·have hd:decide (((y.1,y.2):aG)=(x.1,x.2))=true:=AT hyx
   simp only[KP,↓reduceIte,reduceEqDiff,reduceLT,reduceCtorEq,g0,g3,g5,la,hlt,aK d4,bB,p1,p2,mG h,qH h,hd]
   have hp:=FO l x
   rw[bf (by rw[hy,hyx])]at hp
   rw[hp]
   rcases hv with⟨rfl,rfl⟩ | ⟨full,rfl⟩
   ·exact .inl ⟨rfl,rfl⟩
   ·exact .inr ⟨full,rfl⟩
  ·have hd:decide (((y.1,y.2):aG)=(x.1,x.2))=false:=AS hyx
   simp only[KP,↓reduceIte,reduceEqDiff,reduceLT,reduceCtorEq,g0,g3,g5,la,hlt,aK d4,bB,p1,p2,mG h,qH h,hd]
   have:=fin (by rw[hy];exact λe=>hyx (dc e))
   simp only[true_and]at this
   refine this _ ?_ ?_ ?_ <;> simp only[FT.eB,g0,g3,g5,↓reduceIte,reduceEqDiff,reduceCtorEq]
 ·have hlt:decide ((pos l x:Int)<(l.length:Int))=false:=AS (by omega)
  simp only[KP,↓reduceIte,reduceEqDiff,reduceLT,reduceCtorEq,g0,g5,la,hlt,aK d4,bB]
  have:=fin (by rw[gv (by omega)];simp)
  simp only[true_and]at this
  refine this _ ?_ ?_ ?_ <;> simp only[FT.eB,g0,g3,g5,↓reduceIte,reduceEqDiff,reduceCtorEq]
end
end
end Go.Proofs.YtmhchflckonklaaGreatDoor.Lb
end
section
namespace Go.Proofs.YtmhchflckonklaaGreatDoor
open Go Go.Ax Go.AxS
section
section
variable {E:Env}{Z:Sg}{K:V->Sg->Prop}
def tS (t:Nat) (Z:Sg) (w:V) (R:List (List V)):Prop:=(w=.aF/\R=[])\/∃b ex,w=.sl b 0 R.length none/\Z[b]?=some (.cells t R.flatten ex)
theorem tS.keep {t:Nat}{Z σ':Sg}{w:V}{R:List (List V)}(h:tS t Z w R) (k:∀c o,aR w=some c->Z[c]?=some o->σ'[c]?=some o):tS t σ' w R:=by
 rcases h with h | ⟨b,ex,rfl,hb⟩
 ·exact .inl h
 ·exact .inr ⟨b,ex,rfl,k b _ rfl hb⟩
theorem r_ {t:Nat}{Z:Sg}{w:V}{R:List (List V)}(h:tS t Z w R) {c:Nat}{o:O}(hc:Z[c]?=some o)(ho:∀cs ex,o≠.cells t cs ex):aR w≠some c:=by
 rcases h with⟨rfl,-⟩ | ⟨b',ex',rfl,hb'⟩
 ·intro e;cases e
 ·intro e
  cases e
  rw[hc]at hb'
  cases hb'
  exact ho _ _ rfl
theorem IE {si ei:Ty}{ts t n:Nat}{ats:Array Nat}{w x:V}{u:List V}{R:List (List V)}(hts:E.ty ts=some si)(hk:si.kd=.sl t)(ht:E.ty t=some ei)(hn:ei.size=n)(hn0:0<n)(hpl:fA E ats=true)(hats:ats[0]?=some ts)(hw:tS t Z w R)(hR:∀r∈R,r.length=n)(hu:u.length=n)
  (hx:elems Z n x=some (u,1))(hr:roomy (R.length+1) ei.bytes=true) :
  ∃w' σ',append E Z ats w x=some (w',σ')/\tS t σ' w' (R++[u])/\Sp Z σ' w/\Z.length<=σ'.length:=by
 obtain⟨kd,size,bytes,zero⟩:=si
 replace hk:kd=.sl t:=hk
 subst hk
 have hne:(ei.size==0)=false:=by rw[hn];simp;omega
 have hr2:lG 1 ei.bytes=true:=Ab hr (by omega)
 have hx:elems Z ei.size x=some (u,1):=by rw[hn];exact hx
 have hfl:R.flatten.length=R.length*n:=by
  clear hw hr
  induction R with
  |nil=>simp
  |cons r R ih=>rw[da,ak,hR r (By ..),ih λq hq=>hR q (No _ hq),af,jj,kj]
 have hjoin:R.flatten++u=(R++[u]).flatten:=by simp
 unfold append
 simp only[hats,hts,ht,hpl,hne,hx,dh,iu,ai,ay]
 rcases hw with⟨rfl,rfl⟩ | ⟨b,ex,rfl,hbk⟩
 ·simp only[Nat.one_ne_zero,ay,hr2,bh]
  refine⟨_,_,rfl,.inr ⟨Z.length,false,rfl,by simp⟩,λc o e _=>?_,by simp⟩
  rw[aq (AI.1 e).1];exact e
 ·have hform:(t==t&&decide (R.length*ei.size<=R.flatten.length)&&roomy (R.length+1) ei.bytes)=true:=by
   rw[hr,hn,hfl];simp
  have hbig:¬ (R.length+1)*ei.size<=R.flatten.length:=by rw[hn,hfl,og];omega
  have htk:R.flatten.take (R.length*ei.size)=R.flatten:=ah (by rw[hn,hfl];exact ae _)
  simp only[hbk,dj,hform,dh,ai,ay,hbig,bh,htk,fg,hjoin]
  cases ex with
  |true=>
   refine⟨_,_,rfl,.inr ⟨Z.length,false,by simp,by simp⟩,λc o e _=>?_,by simp⟩
   rw[aq (AI.1 e).1];exact e
  |false=>
   refine⟨_,_,rfl,.inr ⟨Z.length,false,by simp,by simp⟩,λc o e hne=>?_,by simp⟩
   have hc:=(AI.1 e).1
   rw[aq (by simpa using hc),IT (λe2=>hne (by rw[e2];rfl))];exact e
def Tv (Y:Sg) (r:List V) (x:aD):Prop:=∃a b c w,r=[.str x.name,a,b,c,w]/\jG aQ a x.ins/\jG aQ b x.outs/\jG aQ c x.after/\aV gK 113 Y w x.steps
def GD (Y:Sg) (w:V) (rs:List aD):Prop:=∃R,tS 46 Y w R/\dZ (Tv Y) R rs
theorem Hi {Y:Sg}{R:List (List V)}{rs:List aD}(h:dZ (Tv Y) R rs):∀r∈R,r.length=5:=by
 induction h with
 |nil=>intro r hr;cases hr
 |cons p _ ih=>
  intro r hr
  rcases IN.1 hr with rfl | hr
  ·obtain⟨a,b,c,w,e,-⟩:=p
   rw[e];rfl
  ·exact ih r hr
theorem CC {Y τ':Sg}{R:List (List V)}{rs:List aD}(h2:dZ (Tv Y) R rs) (k:∀(c:Nat) (cs:List V) (ex:Bool),Y[c]?=some (.cells 113 cs ex)->τ'[c]?=some (.cells 113 cs ex)):dZ (Tv τ') R rs:=by
 induction h2 with
 |nil=>exact .nil
 |cons p _ ih=>
  obtain⟨a,b,c,u,e,i1,i2,i3,ow⟩:=p
  refine .cons ⟨a,b,c,u,e,i1,i2,i3,?_⟩ ih
  rcases ow with h0 | ⟨d,q,ex,rfl,hb,ha⟩
  ·exact .inl h0
  ·exact .inr ⟨d,q,ex,rfl,k _ _ _ hb,ha⟩
theorem GD.keep {Y τ':Sg}{w:V}{rs:List aD}(h:GD Y w rs) (k:∀(c:Nat) (cs:List V) (ex:Bool) (t:Nat),t=46\/t=113->Y[c]?=some (.cells t cs ex)->τ'[c]?=some (.cells t cs ex)):GD τ' w rs:=by
 obtain⟨R,h1,h2⟩:=h
 refine⟨R,?_,?_⟩
 ·rcases h1 with h1 | ⟨b,ex,rfl,hb⟩
  ·exact .inl h1
  ·exact .inr ⟨b,ex,rfl,k _ _ _ _ (.inl rfl) hb⟩
 ·exact CC h2 λc cs ex e=>k c cs ex _ (.inr rfl) e
theorem XC (h:bK E)(hl:Lb.cH E) (rg:GF E) {va:V}{rs:List aD} (ia:IS dO va rs)(hf:Fits rs) {i:Nat}{x:aD}(hx:rs[i]?=some x) {Y:Sg}{rw_ lw nw:V}(h0:Y[0]?=some (O.cells 63 [rw_,lw,nw] true))(hR:GD Y rw_ (rs.take i))
  (F:FT) (g0:F.get 0=va) (g3:F.get 3=.ref 0 0) (g4:F.get 4=.int .i64 (i:Int)) {st:List gT}{Q:Ax.X->Fr->Sg->Prop}
  (hk:∀F' τ' rw',F'.get 0=va->F'.get 3=.ref 0 0->F'.get 4=.int .i64 (i:Int)->τ'[0]?=some (O.cells 63 [rw',lw,nw] true)->GD τ' rw' (rs.take (i+1))->M E st .normal ⟨132,F'⟩ τ' Q):Ax.R E (.region 5 (opsOf (cutAt [1,1,0,1,2,2,1,0,2,0] (aA Tryz.f14).code)) true) st ⟨132,F⟩ Y Q:=by
 have hsm:=hf.small x (aa hx)
 obtain⟨g,q1,q2,q3,q4,e1,i1,i2,i3,i4⟩:=eH h ia hx
 obtain⟨n,v,τ1,⟨⟨a,b,c,w,rfl,j1,j2,j3,j4,jb⟩,kp⟩,cc⟩:=aB.up (Qv h (Z:=Y) (Jq i1 i2 i3 i4) hsm.mid)
 have cc:=cc n (ae _)
 have h1:=kp _ _ h0
 obtain⟨R,hw,hA⟩:=hR
 have k1:=nJ j4
 have o1:=aN j1.is.bF
 have o2:=aN j2.is.bF
 have o3:=aN j3.is.bF
 have h2:(τ1++[O.cells 46 [.str x.name,a,b,c,w] true])[0]?=some (O.cells 63 [rw_,lw,nw] true):=aJ h1
 have hw2:tS 46 (τ1++[O.cells 46 [.str x.name,a,b,c,w] true]) rw_ R:=hw.keep λc o _ e=>aJ (kp _ _ e)
 have hRl:R.length<=40:=by
  rw[hA.len,br]
  have:=hf.len
  omega
 obtain⟨w',τ2,ap,hw3,IX,hle3⟩:=IE (ats:=#[22,22]) h.xP rfl h.bM rfl (by decide) (qB h) rfl hw2 (Hi hA) rfl (kL (r:=[.str x.name,a,b,c,w]) (ex:=true) (n:=5) rfl) (dA (b:=1001) (by decide) (by omega))
 have h3:=IX _ _ h2 (r_ hw2 h2 (by intro cs ex e;cases e))
 have hvq:pA 12 rw_ rw_=true:=by
  rcases hw with⟨rfl,-⟩ | ⟨b,ex,rfl,-⟩
  ·rfl
  ·exact I_ 11 _ _ _
 have hok:w'.aZ=true/\w'.cells=[w']:=by
  rcases hw3 with⟨rfl,-⟩ | ⟨b,ex,rfl,-⟩ <;> exact⟨rfl,rfl⟩
 have key:∃F',bW E (ev E n) (opsOf (cutAt [1,1,0,1,2,2,1,0,2,0] (aA Tryz.f14).code)) ⟨132,F⟩ Y=some (⟨132,F'⟩,τ2.set 0 (O.cells 63 [w',lw,nw] true))/\F'.get 0=va/\F'.get 3=.ref 0 0/\F'.get 4=.int .i64 (i:Int):=by
  unfold bW
  rw[rg.Wo,rg.X8]
  simp only[aA,Tryz.f14,KP,Ax.loadAt,Ax.storeAt,↓reduceIte,reduceEqDiff,reduceLT,reduceLeDiff,reduceAdd,reduceMul,reduceCtorEq,h.xP,h.bM,opsOf,cutAt,Fz.lits,Fz.apps,fF,bJ,bV,jF,Ax.comp,Ax.last,eL,Ax.again,ir,rg.kV,g0,g3,g4,h0,h1,h2,h3,e1,cc,ap,hvq,k1.1,o1,o2,o3,hok.1,hok.2,Ax.fill,fR]
  exact⟨_,rfl,(by simp +decide only[GS,g0,g3,g4,ag])⟩
 obtain⟨F',hD,p0,p3,p4⟩:=key
 have hl0:=(AI.1 h3).1
 have ks:∀(e9:Nat) (cs:List V) (ex:Bool),(τ1++[O.cells 46 [.str x.name,a,b,c,w] true])[e9]?=some (.cells 113 cs ex)->(τ2.set 0 (O.cells 63 [w',lw,nw] true))[e9]?=some (.cells 113 cs ex):=λe9 cs ex e=>by
  have e2:=IX _ _ e (r_ hw2 e (by intro cs' ex' e';cases e'))
  rw[IT (λe0=>by rw[<- e0,h3]at e2;cases e2)]
  exact e2
 refine Eq.mpr (fO hD) (hk F' _ w' p0 p3 p4 (bj hl0) ⟨R++[[.str x.name,a,b,c,w]],hw3.keep λc o' hc e=>?_,?_⟩)
 ·rw[IT (λe0=>?_)]
  ·exact e
  ·exact r_ hw3 h3 (by intro cs ex e;cases e) (by rw[e0];exact hc)
 ·rw[dn,hx]
  refine dZ.append (CC hA λc cs ex e=>ks c cs ex (aJ (kp _ _ e))) (.one ⟨a,b,c,w,rfl,j1,j2,j3,?_⟩)
  rcases j4 with j4 | ⟨d,q,ex,rfl,hb,ha⟩
  ·exact .inl j4
  ·exact .inr ⟨d,q,ex,rfl,ks _ _ _ (aJ hb),ha⟩
end
end
section
section
variable {E:Env}{Z:Sg}{K:V->Sg->Prop}
def mH (r:aD):List aG:=(true,r.name)::(r.ins++r.outs).map λf=>((false,f):aG)
theorem HK {rs:List aD}{x:aG}:x∈rs.flatMap mH ↔ x∈a_ rs:=by
 rw[yT,j6]
 unfold mH
 constructor
 ·rintro⟨r,hr,hx⟩
  rcases IN.1 hx with rfl | hx
  ·exact .inl (cm.2 ⟨r,hr,rfl⟩)
  ·obtain⟨f,hf,rfl⟩:=cm.1 hx
   rcases bt.1 hf with hf | hf
   ·exact .inr ⟨_,lR.2 ⟨r,hr,.inl ⟨f,hf,rfl⟩⟩,.inr rfl⟩
   ·exact .inr ⟨_,lR.2 ⟨r,hr,.inr ⟨f,hf,rfl⟩⟩,.inl rfl⟩
 ·rintro (hx | ⟨p,hp,hx⟩)
  ·obtain⟨r,hr,rfl⟩:=cm.1 hx
   exact⟨r,hr,By ..⟩
  ·obtain⟨r,hr,⟨f,hf,rfl⟩ | ⟨f,hf,rfl⟩⟩:=lR.1 hp
   ·rcases hx with rfl | rfl
    ·exact⟨r,hr,By ..⟩
    ·exact⟨r,hr,No _ (cm.2 ⟨f,bt.2 (.inl hf),rfl⟩)⟩
   ·rcases hx with rfl | rfl
    ·exact⟨r,hr,No _ (cm.2 ⟨f,bt.2 (.inr hf),rfl⟩)⟩
    ·exact⟨r,hr,By ..⟩
theorem XB (h:bK E)(hl:Lb.cH E) (rg:GF E) {va:V}{rs:List aD} (ia:IS dO va rs)(hf:Fits rs) {i:Nat}{x:aD}(hx:rs[i]?=some x) {Y:Sg}
  (F:FT) (g0:F.get 0=va) (g3:F.get 3=.ref 0 0) (g4:F.get 4=.int .i64 (i:Int)) {st:List gT}{Q:Ax.X->Fr->Sg->Prop}
  (hk:∀F' τ' w,F'.get 0=va->F'.get 3=.ref 0 0->F'.get 4=.int .i64 (i:Int)->F'.get 56=w->F'.get 57=.int .i64 ((x.ins++x.outs).length:Int)->F'.get 58=.int .i64 0->aV aQ 9 τ' w (x.ins++x.outs)->Kp Y τ'->M E st .normal ⟨132,F'⟩ τ' Q):Ax.R E (.region 7 (opsOf (cutAt [1,1,0,1,2,2,1,0,2,1,1,0] (aA Tryz.f14).code)) true) st ⟨132,F⟩ Y Q:=by
 have hsm:=hf.small x (aa hx)
 have s1:=hsm.ins
 have s2:=hsm.outs
 obtain⟨g,q1,q2,q3,q4,e1,i1,i2,-⟩:=eH h ia hx
 obtain⟨r1,el1,a1⟩:=nW i1 Y
 obtain⟨y1,τ1,ap1,ow1,QS,hle1,fr1⟩:=iR (w:=.aF) (l:=[]) (ats:=#[24,24]) h.bC rfl h.c_ rfl (by decide) (iI h) rfl (.inl ⟨rfl,rfl⟩:aV aQ 9 Y .aF []) el1 a1 (dA (b:=1000) (by decide) (by rw[b8];omega))
 rw[cq]at ow1
 obtain⟨r2,el2,a2⟩:=nW i2 τ1
 obtain⟨y2,τ2,ap2,ow2,GC,hle2,fr2⟩:=iR (ats:=#[24,24]) h.bC rfl h.c_ rfl (by decide) (iI h) rfl ow1 el2 a2 (dA (b:=1000) (by decide) (by omega))
 have kp:Kp Y τ2:=λc o e=>GC c o (QS c o e (by intro e2;cases e2)) λe2=>by
  rcases fr1 c e2 with e3 | e3
  ·cases e3
  ·have:=(AI.1 e).1
   omega
 have lw:=mZ h.bC rfl ow2.ls
 have hvq:=cK 10 i2
 have key:∃F',bW E (ev E 0) (opsOf (cutAt [1,1,0,1,2,2,1,0,2,1,1,0] (aA Tryz.f14).code)) ⟨132,F⟩ Y=some (⟨132,F'⟩,τ2)/\F'.get 0=va/\F'.get 3=.ref 0 0/\F'.get 4=.int .i64 (i:Int)/\F'.get 56=y2/\F'.get 57=.int .i64 ((x.ins++x.outs).length:Int)/\F'.get 58=.int .i64 0:=by
  unfold bW
  rw[rg.Wn,rg.X7]
  simp only[aA,Tryz.f14,KP,Ax.loadAt,↓reduceIte,reduceEqDiff,reduceLT,reduceAdd,reduceCtorEq,h.bC,h.bM,opsOf,cutAt,Fz.apps,fF,bJ,bV,jF,Ax.comp,Ax.last,eL,Ax.again,aU,g0,g4,e1,ap1,ap2,hvq,lw]
  exact⟨_,rfl,(by simp +decide only[GS,g0,g3,g4,ag])⟩
 obtain⟨F',hD,p0,p3,p4,p56,p57,p58⟩:=key
 exact Eq.mpr (fO hD) (hk F' τ2 y2 p0 p3 p4 p56 p57 p58 ow2 kp)
theorem KV {Y:Sg}{w:V}{rs:List aD}{cs:List V}{y:O}(h:GD Y w rs)(h0:Y[0]?=some (.cells 63 cs true)):GD (Y.set 0 y) w rs:=h.keep λc cs' ex t ht e=>by
 rw[IT (λe0=>?_)]
 ·exact e
 ·rw[<- e0,h0]at e
  rcases ht with rfl | rfl <;> cases e
theorem L_ {Y:Sg}{w:V}{l:List bH}{cs:List V}{y:O} (ow:aV aQ 9 Y w l)(h0:Y[0]?=some (.cells 63 cs true)):aV aQ 9 (Y.set 0 y) w l:=ow.keep λc o hc e=>by
 rw[IT (λe0=>kR h0 (by decide) ow (by rw[e0];exact hc))]
 exact e
theorem Pj {v:V}{l:List aG}(hv:xJ v l):v.aZ=true/\v.cells=[v]:=by rcases hv with⟨rfl,-⟩ | ⟨f,rfl⟩ <;> exact⟨rfl,rfl⟩
theorem OD (h:bK E)(hl:Lb.cH E) (rg:GF E) {va:V}{rs:List aD} (ia:IS dO va rs)(hf:Fits rs) {Y:Sg}{nw:V}(h0:Y[0]?=some (O.cells 63 [.aF,.aF,nw] true))(hno:nw.aZ=true)
  (F:FT) (g0:F.get 0=va) (g3:F.get 3=.ref 0 0) {st:List gT}{Q:Ax.X->Fr->Sg->Prop}
  (hk:∀F' τ' w lv,F'.get 0=va->F'.get 3=.ref 0 0->τ'[0]?=some (O.cells 63 [w,lv,nw] true)->GD τ' w rs->xJ lv (a_ rs)->M E st .normal ⟨132,F'⟩ τ' Q):Ax.R E (cutAt [1,1,0] (aA Tryz.f14).code) st ⟨132,F⟩ Y Q:=by
 have la:=cZ h ia
 have hlen:=hf.len
 have hal:=gN hf
 have r5:=λ{i x} hx {Y rw_ lw} h0 hR F g0 g3 g4 st Q hk=>XC (i:=i) (x:=x) (Y:=Y) (rw_:=rw_) (lw:=lw) (nw:=nw) h hl rg ia hf hx h0 hR F g0 g3 g4 (st:=st) (Q:=Q) hk
 have r7:=λ{i x} hx {Y} F g0 g3 g4 st Q hk=>XB (i:=i) (x:=x) (Y:=Y) h hl rg ia hf hx F g0 g3 g4 (st:=st) (Q:=Q) hk
 have d6:=rg.abf
 simp only[aA,Tryz.f14,cutAt,an]at d6
 rw[show (cutAt [1,1,0] (aA Tryz.f14).code)=.seq (cutAt [1,1,0,0] (aA Tryz.f14).code) (.block 0 (.loop (.seq (cutAt [1,1,0,1,2,2,0] (aA Tryz.f14).code) (.seq (.block 1 (.seq (cutAt [1,1,0,1,2,2,1,0,2,0] (aA Tryz.f14).code) (.seq (cutAt [1,1,0,1,2,2,1,0,2,1,0] (aA Tryz.f14).code) (.seq (cutAt [1,1,0,1,2,2,1,0,2,1,1,0] (aA Tryz.f14).code) (cutAt [1,1,0,1,2,2,1,0,2,1,1,1] (aA Tryz.f14).code))))) (cutAt [1,1,0,1,2,2,1,1] (aA Tryz.f14).code))))) from rfl]
 rw[show cutAt [1,1,0,1,2,2,1,0,2,0] (aA Tryz.f14).code=.region 5 (opsOf (cutAt [1,1,0,1,2,2,1,0,2,0] (aA Tryz.f14).code)) true from rfl,show cutAt [1,1,0,1,2,2,1,0,2,1,1,0] (aA Tryz.f14).code=.region 7 (opsOf (cutAt [1,1,0,1,2,2,1,0,2,1,1,0] (aA Tryz.f14).code)) true from rfl]
 generalize opsOf (cutAt [1,1,0,1,2,2,1,0,2,0] (aA Tryz.f14).code)=O5 at r5 ⊢
 generalize opsOf (cutAt [1,1,0,1,2,2,1,0,2,1,1,0] (aA Tryz.f14).code)=O7 at r7 ⊢
 simp only[aA,Tryz.f14,KP,↓reduceIte,reduceLT,cutAt]
 refine aS (λi F Y=>F.get 0=va/\F.get 3=.ref 0 0/\F.get 4=.int .i64 (i:Int)/\∃w lv L,Y[0]?=some (O.cells 63 [w,lv,nw] true)/\GD Y w (rs.take i)/\xJ lv L/\Up L/\∀x,x∈L ↔ x∈(rs.take i).flatMap mH) rs.length ?_ ?_ rs.length 0 _ _ (by omega) (fJ (by simp +decide only[GS,g0,g3,ag]) ⟨.aF,.aF,[],h0,⟨[],.inl ⟨rfl,rfl⟩,.nil⟩,.inl ⟨rfl,rfl⟩,List.Pairwise.nil,λx=>by simp⟩)
 ·clear h0 g0 g3
  rintro i F Y hi ⟨g0,g3,g4,w,lv,L,h0,hR,hL,hup,hmem⟩ next
  obtain⟨x,hx⟩:∃y,rs[i]?=some y:=⟨_,BY hi⟩
  have hxm:=aa hx
  obtain⟨g,q1,q2,q3,q4,e1,-⟩:=eH h ia hx
  have hlt:=dG hi
  have hadd:=bQ i (by omega)
  have hsub:∀(P:List aG),(∀y,y∈P->y∈rs.flatMap mH)->P.Nodup->P.length<=2000:=λP hP hn=>e8 (iT hn λy hy=>HK.1 (hP y hy)) hal
  have htk:∀y,y∈(rs.take i).flatMap mH->y∈rs.flatMap mH:=λy hy=>by
   obtain⟨r,hr,hy⟩:=j6.1 hy
   exact j6.2 ⟨r,jh hr,hy⟩
  have hxl:∀y,y∈mH x->y∈rs.flatMap mH:=λy hy=>j6.2 ⟨x,hxm,hy⟩
  rw[aC]
  simp only[KP,↓reduceIte,reduceEqDiff,reduceLT,reduceCtorEq,g0,g4,la,hlt]
  refine r5 hx h0 hR _ ?_ ?_ ?_ _ _ (λF1 τ1 w1 p0 p3 p4 h1 hR1=>?_)
  ·simp +decide only[GS,g0]
  ·simp +decide only[GS,g3]
  ·simp +decide only[GS,g4]
  clear hR h0 g0 g3 g4
  rw[EU]
  simp only[KP,Ax.loadAt,↓reduceIte,reduceEqDiff,reduceLT,reduceAdd,reduceCtorEq,h.tR,h.c_,h.dB,h.bM,h.cF,rg.kV,p0,p3,p4,h1,e1,Ax.fill,Ax.placeOf,aK d6,bB]
  refine aP (Lb.Qi hl (x:=((true,x.name):aG)) (show Lb.Wb lv L from hL) (by have:=hsub L (λy hy=>htk y ((hmem y).1 hy)) hup.nodup;omega)) ?_
  rintro lv1 τ' ⟨e,hL1⟩
  subst e
  have hL1:xJ lv1 (put L (true,x.name)):=hL1
  have k1:=Pj hL1
  have hup1:Up (put L (true,x.name)):=CI hup
  have hmem1:∀y,y∈put L (true,x.name) ↔ y∈(rs.take i).flatMap mH\/y=(true,x.name):=λy=>by rw[sH,hmem]
  generalize put L (true,x.name)=L1 at hL1 hup1 hmem1
  simp only[KP,Ax.storeAt,↓reduceIte,reduceEqDiff,reduceLT,reduceLeDiff,reduceAdd,reduceCtorEq,h.dB,rg.kV,h1,k1.1,k1.2]
  have h2:(τ'.set 0 (O.cells 63 [w1,lv1,nw] true))[0]?=some (O.cells 63 [w1,lv1,nw] true):=bj (AI.1 h1).1
  have hR2:GD (τ'.set 0 (O.cells 63 [w1,lv1,nw] true)) w1 (rs.take (i+1)):=KV hR1 h1
  generalize τ'.set 0 (O.cells 63 [w1,lv1,nw] true)=τ2 at h2 hR2 ⊢
  refine r7 hx _ ?_ ?_ ?_ _ _ (λF2 τ3 wf z0 z3 z4 z56 z57 z58 ow kp=>?_)
  ·simp +decide only[GS,p0]
  ·simp +decide only[GS,p3]
  ·simp +decide only[GS,p4]
  have h3:=kp _ _ h2
  have hR3:GD τ3 w1 (rs.take (i+1)):=hR2.keep λc cs ex t _ e=>kp _ _ e
  have hxf:∀f,f∈x.ins++x.outs->((false,f):aG)∈mH x:=λf hf=>No _ (cm.2 ⟨f,hf,rfl⟩)
  have hfl:(x.ins++x.outs).length<=100:=by
   have:=(hf.small x hxm).ins
   have:=(hf.small x hxm).outs
   rw[ak]
   omega
  have hlabs:mH x=(true,x.name)::(x.ins++x.outs).map λf=>((false,f):aG):=rfl
  generalize x.ins++x.outs=fs at z57 ow hxf hfl hlabs
  rw[EU]
  simp only[KP]
  refine aS (λj F Y=>F.get 0=va/\F.get 3=.ref 0 0/\F.get 4=.int .i64 (i:Int)/\F.get 56=wf/\F.get 57=.int .i64 (fs.length:Int)/\F.get 58=.int .i64 (j:Int)/\∃lv L,Y[0]?=some (O.cells 63 [w1,lv,nw] true)/\GD Y w1 (rs.take (i+1))/\aV aQ 9 Y wf fs/\xJ lv L/\Up L/\∀y,y∈L ↔ (y∈(rs.take i).flatMap mH\/y=(true,x.name))\/y∈(fs.take j).map λf=>((false,f):aG)) fs.length ?_ ?_ fs.length 0 _ _ (by omega) ⟨(by simp +decide only[z0]),(by simp +decide only[z3]),(by simp +decide only[z4]),(by simp +decide only[z56]),(by simp +decide only[z57]),(by simp +decide only[GS,z58]),lv1,L1,h3,hR3,ow,hL1,hup1,λy=>by rw[hmem1];simp⟩
  ·clear h3 hR3 ow hup1 hmem1 k1
   rintro j F Y hj ⟨g0,g3,g4,g56,g57,g58,lv,L,h0,hR,ow,hL,hup,hmem⟩ next2
   obtain⟨f,hfj⟩:∃y,fs[j]?=some y:=⟨_,BY hj⟩
   obtain⟨pp,r,f1,f2,-,f3,-⟩:=DJ (Z:=Y) h.bC rfl h.c_ rfl ow.ls hfj
   have f3:=f3 rfl (by decide)
   rw[show r=[.str f] from f2]at f3
   have f3:loadAt E Y 9 pp=some (.str f):=f3
   have hlt2:=dG hj
   have hadd2:=bQ j (by omega)
   have lg:loadAt E Y 23 (.ref 0 1)=some lv:=by unfold Ax.loadAt;simp only[hl.dB,h0];rfl
   rw[aC]
   simp only[KP,↓reduceIte,reduceEqDiff,reduceLT,reduceAdd,reduceCtorEq,h.tR,h.c_,h.dB,h.cF,rg.kV,g3,g56,g57,g58,hlt2,f1,f3,lg,Ax.fill,Ax.placeOf]
   refine aP (Lb.Qi hl (x:=((false,f):aG)) (show Lb.Wb lv L from hL) (by
    have:=hsub L (λy hy=>?_) hup.nodup
    ·omega
    ·rcases (hmem y).1 hy with (h1 | rfl) | h1
     ·exact htk y h1
     ·exact hxl _ (By ..)
     ·obtain⟨f',hf',rfl⟩:=cm.1 h1
      exact hxl _ (hxf f' (jh hf')))) ?_
   rintro lv2 τ4 ⟨e,hL2⟩
   subst e
   have hL2:xJ lv2 (put L (false,f)):=hL2
   have k2:=Pj hL2
   simp only[KP,Ax.storeAt,↓reduceIte,reduceEqDiff,reduceLT,reduceLeDiff,reduceAdd,reduceCtorEq,h.dB,rg.kV,g58,h0,hadd2,k2.1,k2.2]
   refine next2 _ _ (oG (by simp +decide only[GS,g0,g3,g4,g56,g57,ag]) ⟨lv2,put L (false,f),bj (AI.1 h0).1,KV hR h0,L_ ow h0,hL2,CI hup,λy=>?_⟩)
   rw[sH,hmem,dn,hfj,eu,bt,or_assoc]
   simp
  ·clear h3 hR3 ow hup1 hmem1 k1
   rintro F Y ⟨g0,g3,g4,g56,g57,g58,lv,L,h0,hR,ow,hL,hup,hmem⟩
   rw[ah (ae _)]at hmem
   have hlt2:=dH (b9 fs.length)
   rw[aC]
   simp only[KP,↓reduceIte,reduceEqDiff,reduceLT,g4,g57,g58,hlt2,hadd]
   refine next _ _ (fJ (by simp +decide only[GS,g0,g3,ag]) ⟨w1,lv,L,h0,hR,hL,hup,λy=>?_⟩)
   rw[hmem,dn,hx,List.flatMap_append,bt,or_assoc]
   refine or_congr mh ?_
   rw[show (some x).toList.flatMap mH=mH x by simp,hlabs,IN]
 ·rintro F Y ⟨g0,g3,g4,w,lv,L,h0,hR,hL,hup,hmem⟩
  rw[ah (ae _)]at hR hmem
  have hlt:=dH (b9 rs.length)
  rw[aC]
  simp only[KP,↓reduceIte,reduceEqDiff,reduceLT,reduceCtorEq,g0,g4,la,hlt]
  have hLa:L=a_ rs:=Cc hup (B4 rs) λy=>by rw[hmem];exact HK
  rw[hLa]at hL
  exact hk _ _ w lv (by simp +decide only[GS,g0]) (by simp +decide only[GS,g3]) h0 hR hL
end
end
section
section
variable {E:Env}{Z:Sg}{K:V->Sg->Prop}
def KT (Y τ':Sg):Prop:=∀(c t:Nat) (cs:List V) (ex:Bool),t≠63->t≠99->Y[c]?=some (.cells t cs ex)->τ'[c]?=some (.cells t cs ex)
theorem Ho (n:Nat):fR n [V.bool false]=((List.replicate n false).map λb=>[V.bool b]).flatten:=by
 induction n with
 |zero=>rfl
 |succ n ih=>rw[fR,ih];rfl
theorem Gz:∀l:List Bool,dZ fN.P (l.map λb=>[V.bool b]) l
 | []=>.nil
 |b::l=>.cons rfl (Gz l)
theorem PX {u:V}(ho:u.aZ=true)(hc:u.cells=[u]):Ax.fill (λj=>some (j*1,1)) (fR 1 [V.aF]) [(0,u)]=some [u]:=by
 unfold Ax.fill
 simp only[hc]
 simp only[ig,js,ho]
 rfl
theorem UK (h:bK E)(hl:Lb.cH E) (rg:GF E) {Y:Sg}{rw_ lv nw:V}{L:List aG}{R:List (List V)}(hL:xJ lv L)(hn:L.length<=2000)(h0:Y[0]?=some (O.cells 63 [rw_,lv,nw] true))(hw:tS 99 Y nw R)(hR:∀r∈R,r.length=1)(hRl:R.length<=2000)
  {va:V}{i:Nat} (F:FT) (g0:F.get 0=va) (g3:F.get 3=.ref 0 0) (g7:F.get 7=.int .i64 (i:Int)) {st:List gT}{Q:Ax.X->Fr->Sg->Prop}
  (hk:∀F' τ' nw',F'.get 0=va->F'.get 3=.ref 0 0->F'.get 7=.int .i64 (i:Int)->τ'[0]?=some (O.cells 63 [rw_,lv,nw'] true)->tS 99 τ' nw' (R++[[.sl Y.length 0 L.length none]])->aV fN 4 τ' (.sl Y.length 0 L.length none) (List.replicate L.length false)->KT Y τ'->Y.length<=τ'.length->M E st .normal ⟨132,F'⟩ τ' Q):Ax.R E (.region 15 (opsOf (cutAt [1,1,1,0,1,2,2,1,0,2,0] (aA Tryz.f14).code)) true) st ⟨132,F⟩ Y Q:=by
 have ll:=f_ h hL.BQ.is
 have m2:decide ((L.length:Int)<=(L.length:Int))=true:=AT (by omega)
 have m3:decide ((L.length:Int)*((1:Nat):Int)<=1099511627776)=true:=AT (by omega)
 have m3'':decide ((L.length:Int)<=1099511627776)=true:=AT (by omega)
 generalize hB:O.cells 4 (fR L.length [V.bool false]) true=B1
 generalize hu:V.sl Y.length 0 L.length none=u at hk
 have h1:(Y++[B1])[0]?=some (O.cells 63 [rw_,lv,nw] true):=aJ h0
 have h2:(Y++[B1]++[O.cells 99 [u] true])[0]?=some (O.cells 63 [rw_,lv,nw] true):=aJ h1
 have hw2:tS 99 (Y++[B1]++[O.cells 99 [u] true]) nw R:=hw.keep λc o _ e=>aJ (aJ e)
 obtain⟨w',τ2,ap,hw3,IX,hle3⟩:=IE (ats:=#[61,61]) h.tQ rfl h.oB rfl (by decide) (Ju h) rfl hw2 hR (show [u].length=1 from rfl) (kL (r:=[u]) (ex:=true) (n:=1) rfl) (dA (b:=3000) (by decide) (by omega))
 have h3:=IX _ _ h2 (r_ hw2 h2 (by intro cs ex e;cases e))
 have hvq:pA 12 nw nw=true:=by
  rcases hw with⟨rfl,-⟩ | ⟨b,ex,rfl,-⟩
  ·rfl
  ·exact I_ 11 _ _ _
 have hok:w'.aZ=true/\w'.cells=[w']:=by
  rcases hw3 with⟨rfl,-⟩ | ⟨b,ex,rfl,-⟩ <;> exact⟨rfl,rfl⟩
 have huo:u.aZ=true/\u.cells=[u]:=by rw[<- hu];exact⟨rfl,rfl⟩
 have ff:=PX huo.1 huo.2
 have key:∃F',bW E (ev E 0) (opsOf (cutAt [1,1,1,0,1,2,2,1,0,2,0] (aA Tryz.f14).code)) ⟨132,F⟩ Y=some (⟨132,F'⟩,τ2.set 0 (O.cells 63 [rw_,lv,w'] true))/\F'.get 0=va/\F'.get 3=.ref 0 0/\F'.get 7=.int .i64 (i:Int):=by
  unfold bW
  rw[rg.TZ,rg.UT]
  simp only[aA,Tryz.f14,KP,Ax.loadAt,Ax.storeAt,↓reduceIte,reduceEqDiff,reduceLT,reduceLeDiff,reduceAdd,reduceMul,reduceCtorEq,h.tR,h.dB,h.tQ,h.oB,opsOf,cutAt,Fz.lits,Fz.apps,fF,bJ,bV,jF,Ax.comp,Ax.last,eL,Ax.again,aU,rg.kV,g3,h0,h1,h2,h3,ll,m2,m3,m3'',cv,hB,hu,ff,ap,hvq,hok.1,hok.2]
  exact⟨_,rfl,(by simp +decide only[GS,g0,g3,g7,ag])⟩
 obtain⟨F',hD,p0,p3,p7⟩:=key
 have hl0:=(AI.1 h3).1
 have ks:∀(c t:Nat) (cs:List V) (ex:Bool),t≠63->t≠99->(Y++[B1]++[O.cells 99 [u] true])[c]?=some (.cells t cs ex)->(τ2.set 0 (O.cells 63 [rw_,lv,w'] true))[c]?=some (.cells t cs ex):=λc t cs ex t1 t2 e=>by
  have e2:=IX _ _ e (r_ hw2 e (by intro cs' ex' e';cases e';exact t2 rfl))
  rw[IT (λe0=>by rw[<- e0,h3]at e2;cases e2;exact t1 rfl)]
  exact e2
 refine Eq.mpr (fO hD) (hk F' _ w' p0 p3 p7 (bj hl0) (hw3.keep λc o' hc e=>?_) ?_ (λc t cs ex t1 t2 e=>ks c t cs ex t1 t2 (aJ (aJ e))) (by rw[ec];exact e8 (by rw[ak,ak];omega) hle3))
 ·rw[IT (λe0=>r_ hw3 h3 (by intro cs ex e;cases e) (by rw[e0];exact hc))]
  exact e
 ·rw[<- hu]
  refine .inr ⟨Y.length,(List.replicate L.length false).map λb=>[V.bool b],true,by rw[oz],?_,Gz _⟩
  rw[<- Ho]
  exact ks _ 4 _ _ (by decide) (by decide) (aJ (by rw[<- hB];exact aL))
theorem Si (h:bK E) {Y:Sg}{w u:V}{R:List (List V)}(hw:tS 99 Y w (R++[[u]]))(hR:∀r∈R,r.length=1):∃b,indexAddr E 61 w (.int .i64 (R.length:Int))=some (.ref b R.length)/\loadAt E Y 99 (.ref b R.length)=some u:=by
 rcases hw with⟨-,e⟩ | ⟨b,ex,rfl,hb⟩
 ·simp at e
 ·have hfl:R.flatten.length=R.length:=by
   clear hb
   induction R with
   |nil=>rfl
   |cons r R ih=>rw[da,ak,hR r (By ..),ih λq hq=>hR q (No _ hq),af];omega
  have hneg:¬ ((R.length:Int)<0):=by omega
  refine⟨b,?_,?_⟩
  ·unfold indexAddr
   simp only[hneg,ay,h.tQ,h.oB,cv,ak,dz,je,bh,dj,mj]
  ·unfold Ax.loadAt
   have hd:(R++[[u]]).flatten.drop R.length=[u]:=by
    rw[List.flatten_append,List.drop_append,hfl,jc,jk (by rw[hfl];exact ae _)]
    simp
   simp only[h.oB,hb]
   have h0:((R++[[u]]).flatten.drop R.length)[0]?=some u:=by rw[hd];rfl
   rw[ji,kq]at h0
   exact h0
end
end
section
section
variable {E:Env}{Z:Sg}{K:V->Sg->Prop}
def nd (rs:List aD) (i k:Nat):Bool:=match (a_ rs)[i]?,(a_ rs)[k]? with
 |some x,some y=>decide (y∈eR rs x)
 |_,_=>false
theorem K6 {rs:List aD}{i k:Nat}{x y:aG}(hx:(a_ rs)[i]?=some x)(hy:(a_ rs)[k]?=some y):nd rs i k=decide (y∈eR rs x):=by unfold nd;rw[hx,hy]
def TV (Y:Sg) (R:List (List V)) (m:List (List Bool)) (bd:Nat):Prop:=dZ (λr l=>∃u,r=[u]/\aV fN 4 Y u l/\∀b,aR u=some b->b<bd) R m
theorem JF {Y:Sg}{R:List (List V)}{m:List (List Bool)}{bd:Nat}(h:TV Y R m bd):∀r∈R,r.length=1:=by
 induction h with
 |nil=>intro r hr;cases hr
 |cons p _ ih=>
  intro r hr
  rcases IN.1 hr with rfl | hr
  ·obtain⟨u,e,-⟩:=p
   rw[e];rfl
  ·exact ih r hr
theorem FX {Y τ':Sg}{R:List (List V)}{m:List (List Bool)}{bd bd':Nat}(h:TV Y R m bd)(hb:bd<=bd') (k:∀(c:Nat) (cs:List V) (ex:Bool),c<bd->Y[c]?=some (.cells 4 cs ex)->τ'[c]?=some (.cells 4 cs ex)):TV τ' R m bd':=by
 induction h with
 |nil=>exact .nil
 |cons p _ ih=>
  obtain⟨u,e,ow,hlt⟩:=p
  refine .cons ⟨u,e,?_,λb hb'=>gw (hlt b hb') hb⟩ ih
  rcases ow with h0 | ⟨d,q,ex,rfl,hc,ha⟩
  ·exact .inl h0
  ·exact .inr ⟨d,q,ex,rfl,k _ _ _ (hlt d rfl) hc,ha⟩
theorem Rx {f:Nat->Bool}{n k:Nat}(hk:k<n):((List.range k).map f++List.replicate (n-k) false).set k (f k)=(List.range (k+1)).map f++List.replicate (n-(k+1)) false:=by
 rw[lu _ _ (by simp),bg,l6,jc,show n-k=(n-(k+1))+1 by omega,List.replicate_succ,jq,List.range_succ,eu,cn]
 rfl
theorem Rz (h:bK E)(hl:Lb.cH E) (rg:GF E) {va:V}{rs:List aD} (ia:IS dO va rs)(hf:Fits rs) {Y:Sg}{rw_ lv:V}(h0:Y[0]?=some (O.cells 63 [rw_,lv,.aF] true))(hR:GD Y rw_ rs)(hL:xJ lv (a_ rs))
  (F:FT) (g0:F.get 0=va) (g3:F.get 3=.ref 0 0) {st:List gT}{Q:Ax.X->Fr->Sg->Prop}
  (hk:∀F' τ' nw R bd,F'.get 0=va->F'.get 3=.ref 0 0->τ'[0]?=some (O.cells 63 [rw_,lv,nw] true)->GD τ' rw_ rs->tS 99 τ' nw R->TV τ' R (FZ (a_ rs).length (nd rs)) bd->M E st .normal ⟨132,F'⟩ τ' Q):Ax.R E (cutAt [1,1,1,0] (aA Tryz.f14).code) st ⟨132,F⟩ Y Q:=by
 have hal:=gN hf
 have ll:=f_ h hL.BQ.is
 have r15:=λ{Y nw R} (i:Nat) h0 hw hR hRl F g0 g3 g7 st Q hk=>UK (Y:=Y) (rw_:=rw_) (lv:=lv) (nw:=nw) (L:=a_ rs) (R:=R) (va:=va) (i:=i) h hl rg hL hal h0 hw hR hRl F g0 g3 g7 (st:=st) (Q:=Q) hk
 have d19:=rg.VF
 simp only[aA,Tryz.f14,cutAt,an]at d19
 rw[show (cutAt [1,1,1,0] (aA Tryz.f14).code)=.seq (cutAt [1,1,1,0,0] (aA Tryz.f14).code) (.block 4 (.loop (.seq (cutAt [1,1,1,0,1,2,2,0] (aA Tryz.f14).code) (.seq (.block 5 (.seq (cutAt [1,1,1,0,1,2,2,1,0,2,0] (aA Tryz.f14).code) (cutAt [1,1,1,0,1,2,2,1,0,2,1] (aA Tryz.f14).code))) (cutAt [1,1,1,0,1,2,2,1,1] (aA Tryz.f14).code))))) from rfl]
 rw[show cutAt [1,1,1,0,1,2,2,1,0,2,0] (aA Tryz.f14).code=.region 15 (opsOf (cutAt [1,1,1,0,1,2,2,1,0,2,0] (aA Tryz.f14).code)) true from rfl]
 generalize opsOf (cutAt [1,1,1,0,1,2,2,1,0,2,0] (aA Tryz.f14).code)=O15 at r15 ⊢
 simp only[aA,Tryz.f14,KP,↓reduceIte,reduceLT,cutAt]
 refine aS (λi F Y=>F.get 0=va/\F.get 3=.ref 0 0/\F.get 7=.int .i64 (i:Int)/\∃nw R bd,Y[0]?=some (O.cells 63 [rw_,lv,nw] true)/\GD Y rw_ rs/\tS 99 Y nw R/\TV Y R ((List.range i).map λi=>(List.range (a_ rs).length).map (nd rs i)) bd/\bd<=Y.length) (a_ rs).length ?_ ?_ (a_ rs).length 0 _ _ (by omega) (fJ (by simp +decide only[GS,g0,g3,ag]) ⟨.aF,[],0,h0,hR,.inl ⟨rfl,rfl⟩,.nil,ij _⟩)
 ·clear h0 hR g0 g3
  rintro i F Y hi ⟨g0,g3,g7,nw,R,bd,h0,hR,hw,hm,hbd⟩ next
  obtain⟨x,hx⟩:∃y,(a_ rs)[i]?=some y:=⟨_,BY hi⟩
  have hRi:R.length=i:=by have:=hm.len;rw[this,bg,l6]
  have hlt:=dG hi
  have hadd:=bQ i (by omega)
  have lg:loadAt E Y 23 (.ref 0 1)=some lv:=by unfold Ax.loadAt;simp only[hl.dB,h0];rfl
  rw[aC]
  simp only[KP,↓reduceIte,reduceEqDiff,reduceLT,reduceCtorEq,h.dB,rg.kV,g3,g7,lg,ll,hlt]
  refine r15 i h0 hw (JF hm) (by omega) _ ?_ ?_ ?_ _ _ (λF1 τ1 nw1 p0 p3 p7 h1 hw1 ow1 kt hle=>?_)
  ·simp +decide only[GS,g0]
  ·simp +decide only[GS,g3]
  ·simp +decide only[GS,g7]
  have hR1:GD τ1 rw_ rs:=hR.keep λc cs ex t ht e=>kt c t cs ex (by rcases ht with rfl | rfl <;> decide) (by rcases ht with rfl | rfl <;> decide) e
  have hm1:TV τ1 R ((List.range i).map λi=>(List.range (a_ rs).length).map (nd rs i)) Y.length:=FX hm hbd λc cs ex _ e=>kt c 4 cs ex (by decide) (by decide) e
  have hlen1:Y.length<τ1.length:=by
   rcases ow1 with⟨e,-⟩ | ⟨b,q,ex,e,hb,-⟩
   ·cases e
   ·have e2:some Y.length=some b:=au aR e
    rw[dc e2]
    exact (AI.1 hb).1
  have hR1len:=JF hm1
  clear hR hw hm h0 kt g0 g3 g7 lg
  generalize hbu:Y.length=bu at *
  rw[EU]
  simp only[KP,↓reduceIte,reduceLT]
  refine aS (λk F Y=>F.get 0=va/\F.get 3=.ref 0 0/\F.get 7=.int .i64 (i:Int)/\F.get 8=.int .i64 (k:Int)/\Y[0]?=some (O.cells 63 [rw_,lv,nw1] true)/\GD Y rw_ rs/\tS 99 Y nw1 (R++[[.sl bu 0 (a_ rs).length none]])/\TV Y R ((List.range i).map λi=>(List.range (a_ rs).length).map (nd rs i)) bu/\aV fN 4 Y (.sl bu 0 (a_ rs).length none) ((List.range k).map (nd rs i)++List.replicate ((a_ rs).length-k) false)/\bu<Y.length) (a_ rs).length ?_ ?_ (a_ rs).length 0 _ _ (by omega) (fM (by simp +decide only[GS,p0,p3,p7,ag]) ⟨h1,hR1,hw1,hm1,by simpa using ow1,hlen1⟩)
  ·clear h1 hR1 hw1 hm1 ow1 p0 p3 p7
   rintro k F Y hk2 ⟨g0,g3,g7,g8,h0,hR,hw,hm,ow,hlen⟩ next2
   obtain⟨y,hy⟩:∃y,(a_ rs)[k]?=some y:=⟨_,BY hk2⟩
   obtain⟨gx,ex⟩:=kU h hL.BQ.is hx
   obtain⟨gy,ey⟩:=kU h hL.BQ.is hy
   have kn:=cU λK=>Qe (Z:=Y) (K:=K) (y:=y) h hl rg (ia.ls Y 46) hf (aa hx)
   obtain⟨b,ix,ld⟩:=Si h hw hR1len
   rw[hRi]at ix ld
   have hln:((List.range k).map (nd rs i)++List.replicate ((a_ rs).length-k) false).length=(a_ rs).length:=by rw[ak,bg,l6,oz];omega
   obtain⟨b2,ix2,hb2,τ2,st2,ow2,GC,hl2⟩:=zV (i:=k) (u:=.bool (decide (y∈eR rs x))) (y:=decide (y∈eR rs x)) h.oB rfl h.tR rfl ow (by rw[hln];exact hk2) rfl rfl
   have hb2e:b2=bu:=by cases hb2;rfl
   subst hb2e
   rw[show k*fN.n=k from mj k]at ix2 st2
   have hlt2:=dG hk2
   have hadd2:=bQ k (by omega)
   have lg1:loadAt E Y 23 (.ref 0 1)=some lv:=by unfold Ax.loadAt;simp only[hl.dB,h0];rfl
   have lg2:loadAt E Y 61 (.ref 0 2)=some nw1:=by unfold Ax.loadAt;simp only[h.tQ,h0];rfl
   have lx:loadAt E Y 51 (.cL gx [.bool x.1,.str x.2])=some (.agg [.bool x.1,.str x.2]):=by unfold Ax.loadAt;simp only[hl.cF];rfl
   have ly:loadAt E Y 51 (.cL gy [.bool y.1,.str y.2])=some (.agg [.bool y.1,.str y.2]):=by unfold Ax.loadAt;simp only[hl.cF];rfl
   rw[aC]
   simp only[KP,↓reduceIte,reduceEqDiff,reduceLT,reduceCtorEq,h.dB,h.tQ,rg.kV,g0,g3,g7,g8,lg1,lg2,lx,ly,ll,hlt2,ex,ey,kn,ix,ld,ix2,st2,hadd2,aK d19,bB]
   obtain⟨cs4,ex4,hb4⟩:∃cs ex,Y[b2]?=some (.cells 4 cs ex):=by
    rcases ow with⟨e,-⟩ | ⟨b,q,ex,e,hb,-⟩
    ·cases e
    ·have e2:some b2=some b:=au aR e
     rw[dc e2]
     exact⟨_,_,hb⟩
   have hne:∀(c:Nat) (o:O),Y[c]?=some o->(∀cs ex,o≠.cells 4 cs ex)->aR (.sl b2 0 (a_ rs).length none)≠some c:=λc o e ho e2=>by
    cases e2
    rw[hb4]at e
    cases e
    exact ho _ _ rfl
   rw[<- K6 hx hy,Rx hk2]at ow2
   refine next2 _ _ (fM (by simp +decide only[GS,g0,g3,g7,ag]) ⟨GC _ _ h0 (hne _ _ h0 (by intro cs ex e;cases e)),hR.keep λc cs ex t ht e=>GC _ _ e (hne _ _ e (by intro cs' ex' e';cases e';rcases ht with ht | ht <;> cases ht)),hw.keep λc o hc e=>GC _ _ e (λe2=>?_),FX hm (ae _) λc cs ex hc e=>GC _ _ e (λe2=>by cases e2;exact absurd hc (b9 _)),ow2,by rw[hl2];exact hlen⟩)
   cases e2
   exact r_ hw hb4 (by intro cs' ex' e';cases e') hc
  ·clear h1 hR1 hw1 hm1 ow1 p0 p3 p7
   rintro F Y ⟨g0,g3,g7,g8,h0,hR,hw,hm,ow,hlen⟩
   rw[jc,List.replicate_zero,gz]at ow
   have hlt2:=dH (b9 (a_ rs).length)
   have lg1:loadAt E Y 23 (.ref 0 1)=some lv:=by unfold Ax.loadAt;simp only[hl.dB,h0];rfl
   rw[aC]
   simp only[KP,↓reduceIte,reduceEqDiff,reduceLT,reduceCtorEq,h.dB,rg.kV,g3,g7,g8,lg1,ll,hlt2,hadd]
   refine next _ _ (fJ (by simp +decide only[GS,g0,g3,ag]) ⟨nw1,_,bu+1,h0,hR,hw,?_,hlen⟩)
   rw[List.range_succ,eu]
   exact dZ.append (FX hm (Nat.le_succ _) λc cs ex _ e=>e) (.one ⟨_,rfl,ow,λb hb=>by cases hb;exact je _⟩)
 ·rintro F Y ⟨g0,g3,g7,nw,R,bd,h0,hR,hw,hm,hbd⟩
  have hlt:=dH (b9 (a_ rs).length)
  have lg:loadAt E Y 23 (.ref 0 1)=some lv:=by unfold Ax.loadAt;simp only[hl.dB,h0];rfl
  rw[aC]
  simp only[KP,↓reduceIte,reduceEqDiff,reduceLT,reduceCtorEq,h.dB,rg.kV,g3,g7,lg,ll,hlt]
  exact hk _ _ nw R bd (by simp +decide only[GS,g0]) (by simp +decide only[GS,g3]) h0 hR hw hm
end
end
section
section
variable {E:Env}{Z:Sg}{K:V->Sg->Prop}
theorem yU {α:Type}{f:V->Option V}{P Q:List V->α->Prop}(hf:∀r x,P r x->∃r',aW f r=some r'/\Q r' x):∀{R:List (List V)}{l:List α},dZ P R l->∃R',aW f R.flatten=some R'.flatten/\dZ Q R' l
 |_,_,.nil=>⟨[],rfl,.nil⟩
 |_,_,.cons p t=>by
  obtain⟨r',h1,h2⟩:=hf _ _ p
  obtain⟨R',h3,h4⟩:=yU hf t
  exact⟨r'::R',by rw[da,da];exact CX h1 h3,.cons h2 h4⟩
theorem wK {α:Type}{L:Lay α}{t n:Nat}{ei:Ty}{Y:Sg}{w:V}{R R':List (List V)}{l:List α}(ht:E.ty t=some ei)(hn:ei.size=L.n)(hw:tS t Y w R)(hR:∀r∈R,r.length=L.n)(hl:R.length=l.length)
  (hm:aW (λv=>match bG Y E.ty false n v with
   |some v=>if bT false v then some v else Ax.no "snap: borrowed"
   |none=>none) R.flatten=some R'.flatten)(ha:dZ L.P R' l):∃v',bG Y E.ty false (n+1) w=some v'/\bT false v'=true/\jG L v' l:=by
 rcases hw with⟨rfl,rfl⟩ | ⟨b,ex,rfl,hb⟩
 ·have hl0:l=[]:=List.eq_nil_of_length_eq_zero hl.symm
  subst hl0
  exact⟨.aF,rfl,rfl,.inl ⟨rfl,rfl⟩⟩
 ·have hfl:R.flatten.length=R.length*L.n:=lU R hR
  have htk:(R.flatten.drop 0).take (R.length*ei.size)=R.flatten:=by rw[fg,ah (by rw[hn,hfl];exact ae _)]
  refine⟨.bS false R' (ex&&decide (0<ei.size)&&(0+R.length*ei.size==R.flatten.length)),?_,rfl,.inr ⟨R',_,rfl,ha⟩⟩
  rw[bG]
  simp only[hb,ht]
  rw[bf (by rw[hn,hfl];omega)]
  have m2:aW (λv=>match bG Y E.ty false n v with
   |some v=>if bT false v then some v else Ax.no "snap: borrowed"
   |none=>none) ((R.flatten.drop 0).take (R.length*ei.size))=some R'.flatten:=by rw[htk];exact hm
  refine Eq.trans (au (λo=>match o with
   |some l=>some (V.bS false (Ax.rows ei.size R.length l) (ex&&decide (0<ei.size)&&(0+R.length*ei.size==R.flatten.length)))
   |none=>none) m2) ?_
  show some (V.bS false (Ax.rows ei.size R.length R'.flatten) _)=_
  have hl':R.length=R'.length:=by rw[hl,ha.len]
  rw[hl',hn,show Ax.rows L.n R'.length R'.flatten=R' from kG (sz:=L.n) R' (Lay.lens (L:=L) ha)]
theorem OW {α:Type}{L:Lay α}{t:Nat}{Y:Sg}{w:V}{l:List α} (ow:aV L t Y w l):∃R,tS t Y w R/\dZ L.P R l:=by
 rcases ow with⟨rfl,rfl⟩ | ⟨b,rs,ex,rfl,hb,ha⟩
 ·exact⟨[],.inl ⟨rfl,rfl⟩,.nil⟩
 ·exact⟨rs,.inr ⟨b,ex,by rw[ha.len],hb⟩,ha⟩
theorem Pe {Y:Sg}{n:Nat}{r:List V}(h1:∀c∈r,Ax.bF c=true)(h2:∀c∈r,bT false c=true):aW (λv=>match bG Y E.ty false (n+1) v with
   |some v=>if bT false v then some v else Ax.no "snap: borrowed"
   |none=>none) r=some r:=gH λc hc=>by
 rw[gF (h1 c hc)]
 simp only[h2 c hc,bh]
theorem Es {α:Type}{L:Lay α}{t n:Nat}{ei:Ty}{Y:Sg}{w:V}{l:List α}(ht:E.ty t=some ei)(hn:ei.size=L.n)(hF:∀r x,L.P r x->∀c∈r,bT false c=true) (ow:aV L t Y w l):∃v',bG Y E.ty false (n+2) w=some v'/\bT false v'=true/\jG L v' l:=by
 obtain⟨R,hw,ha⟩:=OW ow
 obtain⟨R',hm,ha'⟩:=yU (f:=(λv=>match bG Y E.ty false (n+1) v with
   |some v=>if bT false v then some v else Ax.no "snap: borrowed"
   |none=>none)) (Q:=L.P) (λr x p=>⟨r,Pe (L.im r x p) (hF r x p),p⟩) ha
 exact wK ht hn hw (Lay.lens ha) ha.len hm ha'
theorem Ng:∀r x,fN.P r x->∀c∈r,bT false c=true:=λr x hr c hc=>by
 rw[show r=[.bool x] from hr]at hc
 rw[cj.1 hc]
 rfl
theorem Oo (h:bK E) {Y:Sg}{w:V}{rs:List aD}(hR:GD Y w rs):∃v',bG Y E.ty false 11 w=some v'/\bT false v'=true/\jG lF v' rs:=by
 obtain⟨R,hw,ha⟩:=hR
 obtain⟨R',hm,ha'⟩:=yU (f:=(λv=>match bG Y E.ty false 10 v with
   |some v=>if bT false v then some v else Ax.no "snap: borrowed"
   |none=>none)) (Q:=lF.P) (λr x p=>by
  obtain⟨a,b,c,u,rfl,i1,i2,i3,ow⟩:=p
  obtain⟨d,e1,t1,i4⟩:=Es (n:=8) h.bR rfl Cm ow
  refine⟨[.str x.name,a,b,c,d],?_,a,b,c,d,rfl,i1,i2,i3,i4⟩
  have q:∀c:V,Ax.bF c=true->bG Y E.ty false 10 c=some c:=λc h1=>gF h1
  have t0:bT false (V.str x.name)=true:=rfl
  simp only[aW,q (.str x.name) rfl,q a i1.is.bF,q b i2.is.bF,q c i3.is.bF,e1,t0,i1.tag,i2.tag,i3.tag,t1,bh]) ha
 exact wK h.bM rfl hw (Hi ha) ha.len hm ha'
theorem Oq (h:bK E) {Y:Sg}{w:V}{R:List (List V)}{m:List (List Bool)}{bd:Nat}(hw:tS 99 Y w R)(hm:TV Y R m bd):∃v',bG Y E.ty false 11 w=some v'/\bT false v'=true/\jG pZ v' m:=by
 obtain⟨R',hm',ha'⟩:=yU (f:=(λv=>match bG Y E.ty false 10 v with
   |some v=>if bT false v then some v else Ax.no "snap: borrowed"
   |none=>none)) (Q:=pZ.P) (λr x p=>by
  obtain⟨u,rfl,ow,-⟩:=p
  obtain⟨d,e1,t1,i4⟩:=Es (n:=8) h.tR rfl Ng ow
  refine⟨[d],?_,d,rfl,i4.is⟩
  simp only[aW,e1,t1,bh]) hm
 exact wK (L:=pZ) h.oB rfl hw (JF hm) hm.len hm' ha'
def TU (rs:List aD) (v:V):Prop:=∃rv lv nv,v=.cL false [rv,lv,nv]/\jG lF rv rs/\xJ lv (a_ rs)/\jG pZ nv (FZ (a_ rs).length (nd rs))
theorem VT (h:bK E)(hl:Lb.cH E) (rg:GF E) {a:V}{rs:List aD}(ha:LS dO 46 Z a rs)(hf:Fits rs):aB E 14 [a] Z λv σ'=>σ'=Z/\TU rs v:=by
 obtain⟨a',ea,ia⟩:=eJ h ha
 rw[aI rg.hs14 rg.Od rg.fn14 rg.md14 (args':=[a']) (by simp only[aW,ea]),aY (by kernel_rfl)]
 have k1:=λ{Y nw} h0 hno F g0 g3 st Q hk=>OD (Y:=Y) (nw:=nw) h hl rg ia hf h0 hno F g0 g3 (st:=st) (Q:=Q) hk
 have k2:=λ{Y rw_ lv} h0 hR hL F g0 g3 st Q hk=>Rz (Y:=Y) (rw_:=rw_) (lv:=lv) h hl rg ia hf h0 hR hL F g0 g3 (st:=st) (Q:=Q) hk
 rw[show (aA Tryz.f14).code=.seq (cutAt [0] (aA Tryz.f14).code) (.seq (cutAt [1,0] (aA Tryz.f14).code) (.seq (cutAt [1,1,0] (aA Tryz.f14).code) (.seq (cutAt [1,1,1,0] (aA Tryz.f14).code) (cutAt [1,1,1,1] (aA Tryz.f14).code)))) from rfl]
 generalize cutAt [1,1,0] (aA Tryz.f14).code=B1 at k1 ⊢
 generalize cutAt [1,1,1,0] (aA Tryz.f14).code=B2 at k2 ⊢
 simp only[aA,Tryz.f14,KP,↓reduceIte,reduceLT,reduceAdd,h.xP,h.dB,h.tQ,cutAt,rg.kV,Ax.fill]
 refine k1 rfl rfl _ ?_ ?_ _ _ (λF1 τ1 w lv p0 p3 h1 hR hL=>?_)
 ·simp +decide only[GS]
 ·simp +decide only[GS]
 rw[EU]
 simp only[KP]
 refine k2 h1 hR hL F1 p0 p3 _ _ (λF2 τ2 nw R bd q0 q3 h2 hR2 hw hm=>?_)
 obtain⟨rv,e1,t1,i1⟩:=Oo h hR2
 obtain⟨nv,e3,t3,i3⟩:=Oq h hw hm
 have e2:bG τ2 E.ty false 11 lv=some lv:=gF hL.BQ.is.bF
 have t2:bT false lv=true:=hL.BQ.tag
 have es:cG τ2 E.ty false (.ref 0 0)=some (.cL false [rv,lv,nv]):=by
  show aT.one τ2 E.ty false (.ref 0 0)=_
  unfold aT.one
  rw[show dN=11+1 from rfl,bG]
  simp only[h2,fg,aW,e1,e2,e3,t1,t2,t3,bh]
  rfl
 rw[EU]
 simp only[KP,↓reduceIte,reduceLT,q3,es]
 exact⟨rv,lv,nv,rfl,i1,hL,i3⟩
end
end
section
section
variable {E:Env}{Z:Sg}{K:V->Sg->Prop}
section
variable {nx:aG->List aG}{s0:aG->Prop}
theorem RC {k:Nat}{x:aG}:vT nx s0 (k:Int) x ↔ Rk nx s0 k x:=by
 unfold vT
 constructor
 ·rintro (⟨h,-⟩ | ⟨-,h⟩)
  ·omega
  ·rw[cv]at h;exact h
 ·exact λh=>.inr ⟨by omega,by rw[cv];exact h⟩
theorem KZ {x:aG}:vT nx s0 (-1) x ↔ ∃n,Rk nx s0 n x:=by
 unfold vT
 constructor
 ·rintro (⟨-,h⟩ | ⟨h,-⟩)
  ·exact h
  ·omega
 ·exact λh=>.inl ⟨by omega,h⟩
theorem RB (n:Nat):(∃m,m<n/\∀x,Rk nx s0 (m+1) x->Rk nx s0 m x)\/∃L:List aG,L.Nodup/\n<=L.length/\∀x∈L,Rk nx s0 n x:=by
 induction n with
 |zero=>exact .inr ⟨[],List.nodup_nil,ij _,λx hx=>by cases hx⟩
 |succ n ih=>
  rcases ih with⟨m,hm,h⟩ | ⟨L,h1,h2,h3⟩
  ·exact .inl ⟨m,by omega,h⟩
  ·by_cases hs:∃x,Rk nx s0 (n+1) x/\¬ Rk nx s0 n x
   ·obtain⟨x,hx,hn⟩:=hs
    exact .inr ⟨x::L,dm.2 ⟨λh=>hn (h3 x h),h1⟩,by rw[af];omega,λy hy=>by
     rcases IN.1 hy with rfl | hy
     ·exact hx
     ·exact .inl (h3 y hy)⟩
   ·exact .inl ⟨n,je n,λx hx=>nt λhn=>hs ⟨x,hx,hn⟩⟩
theorem KW {all:List aG}(hsub:∀n x,Rk nx s0 n x->x∈all) {N:Nat}(hN:all.length<N) {n:Nat}{x:aG}(hx:Rk nx s0 n x):Rk nx s0 N x:=by
 rcases RB (nx:=nx) (s0:=s0) N with⟨m,hm,h⟩ | ⟨L,h1,h2,h3⟩
 ·exact Rk.mono (Nat.le_of_lt hm) (Rk.closed (λy z hy hz=>h z (.inr ⟨y,hy,hz⟩)) n hx)
 ·have:=iT h1 λy hy=>hsub N y (h3 y hy)
  omega
end
end
end
section
section
variable {E:Env}{Z:Sg}{K:V->Sg->Prop}
def DQ (rs:List aD) (back:Bool) (x:aG):List aG:=if back=true then jO rs x else eR rs x
theorem JD {rs:List aD}{back:Bool}{x y:aG}(hy:y∈DQ rs back x):y∈a_ rs:=by
 unfold DQ at hy
 cases back with
 |true=>exact Cb x y hy
 |false=>exact yR x y hy
def DS (rs:List aD) (v:List Bool) (P:aG->Prop):Prop:=v.length=(a_ rs).length/\∀(k:Nat) (x:aG) (b:Bool),(a_ rs)[k]?=some x->v[k]?=some b->(b=true ↔ P x)
theorem DS.congr {rs:List aD}{v:List Bool}{P Q:aG->Prop}(h:DS rs v P) (e:∀x,x∈a_ rs->(P x ↔ Q x)):DS rs v Q:=⟨h.1,λk x b hx hb=>(h.2 k x b hx hb).trans (e x (aa hx))⟩
theorem DS.at {rs:List aD}{v:List Bool}{P:aG->Prop}(h:DS rs v P) {k:Nat}{x:aG}(hx:(a_ rs)[k]?=some x):∃b,v[k]?=some b/\(b=true ↔ P x):=by
 have hk:=(AI.1 hx).1
 have hv:v[k]?=some (v[k]'(by rw[h.1];exact hk)):=BY _
 exact⟨_,hv,h.2 k x _ hx hv⟩
theorem DS.set {rs:List aD}{v:List Bool}{P Q:aG->Prop}(h:DS rs v P) {k:Nat}{x:aG}{c:Bool}(hx:(a_ rs)[k]?=some x)(hc:c=true ↔ Q x) (e:∀y,y∈a_ rs->y≠x->(P y ↔ Q y)):DS rs (v.set k c) Q:=by
 refine⟨by rw[ec];exact h.1,λj y b hy hb=>?_⟩
 have hk:=(AI.1 hx).1
 by_cases hjk:k=j
 ·subst hjk
  rw[bj (by rw[h.1];exact hk)]at hb
  cases hb
  rw[hx]at hy
  cases hy
  exact hc
 ·rw[IT hjk]at hb
  refine (h.2 j y b hy hb).trans (e y (aa hy) λe2=>hjk ?_)
  subst e2
  have hnd:=(B4 rs).nodup
  obtain⟨h1,e1⟩:=AI.1 hx
  obtain⟨h2,e2⟩:=AI.1 hy
  exact (List.getElem_inj hnd).1 (e1.trans e2.symm)
theorem BO (h:bK E) {Y:Sg}{w:V}{v:List Bool} (ow:aV fN 4 Y w v) {k:Nat}{b:Bool}(hb:v[k]?=some b):∃p,indexAddr E 99 w (.int .i64 (k:Int))=some p/\loadAt E Y 4 p=some (.bool b):=by
 obtain⟨p,r,f1,f2,-,f3,-⟩:=DJ (Z:=Y) h.oB rfl h.tR rfl ow.ls hb
 have f3:=f3 rfl (by decide)
 rw[show r=[.bool b] from f2]at f3
 exact⟨p,f1,f3⟩
theorem Kq (h:bK E) {Y:Sg}{w:V}{v:List Bool} (ow:aV fN 4 Y w v) {k:Nat}(hk:k<v.length) (c:Bool):∃b,indexAddr E 99 w (.int .i64 (k:Int))=some (.ref b k)/\aR w=some b/\∃σ',storeAt E Y 4 (.ref b k) (.bool c)=some σ'/\aV fN 4 σ' w (v.set k c)/\Sp Y σ' w/\σ'.length=Y.length:=by
 obtain⟨b,h1,h2,σ',h3,h4,h5,h6⟩:=zV (i:=k) (u:=.bool c) (y:=c) h.oB rfl h.tR rfl ow hk rfl rfl
 rw[show k*fN.n=k from mj k]at h1 h3
 exact⟨b,h1,h2,σ',h3,h4,h5,h6⟩
theorem Yd {rs:List aD}{i k:Nat}{x y:aG}(hx:(a_ rs)[i]?=some x)(hy:(a_ rs)[k]?=some y):nd rs i k=decide (y∈DQ rs false x)/\nd rs k i=decide (y∈DQ rs true x):=by
 refine⟨K6 hx hy,?_⟩
 rw[K6 hy hx]
 exact me.2 (An x y)
theorem Oz (h:bK E)(hl:Lb.cH E) (rg:GF E) {rs:List aD}(hf:Fits rs) {rv lv nv:V}(hL:xJ lv (a_ rs))(hN:jG pZ nv (FZ (a_ rs).length (nd rs))) {back:Bool}{P:aG->Prop}{v:List Bool}(hm:DS rs v P) {w:V}{Y:Sg} (ow:aV fN 4 Y w v)
  {x1 x2 x12:V} (F:FT) (g0:F.get 0=.cL false [rv,lv,nv]) (g1:F.get 1=x1) (g2:F.get 2=x2) (g3:F.get 3=.bool back) (g9:F.get 9=w) (g12:F.get 12=x12) {st:List gT}{Q:Ax.X->Fr->Sg->Prop}
  (hk:∀F' τ' v',F'.get 0=.cL false [rv,lv,nv]->F'.get 1=x1->F'.get 2=x2->F'.get 3=.bool back->F'.get 9=w->F'.get 12=x12->aV fN 4 τ' w v'->DS rs v' (λx=>P x\/∃y,y∈a_ rs/\P y/\x∈DQ rs back y)->M E st .normal ⟨150,F'⟩ τ' Q):Ax.R E (cutAt [1,1,1,0,1,2,2,1,0,2] (aA Tryz.f18).code) st ⟨150,F⟩ Y Q:=by
 have hal:=gN hf
 have ll:=f_ h hL.BQ.is
 obtain⟨r1,el1,a1⟩:=Im ow.ls
 obtain⟨wn,τ1,ap1,own,QS,hle1,fr1⟩:=iR (w:=.aF) (l:=[]) (ats:=#[99,99]) h.oB rfl h.tR rfl (by decide) (A2 h) rfl (.inl ⟨rfl,rfl⟩:aV fN 4 Y .aF []) el1 a1 (dA (b:=3000) (by decide) (by rw[b8,hm.1];omega))
 rw[cq]at own
 have ow1:aV fN 4 τ1 w v:=ow.keep λc o _ e=>QS c o e (by intro e2;cases e2)
 have hne:∀b,aR w=some b->aR wn≠some b:=λb hb e=>by
  rcases fr1 b e with e3 | e3
  ·cases e3
  ·rcases ow with⟨rfl,-⟩ | ⟨b',q,ex,rfl,hc,-⟩
   ·cases hb
   ·cases hb
    have:=(AI.1 hc).1
    omega
 simp only[aA,Tryz.f18,KP,↓reduceIte,reduceLT,cutAt,g9,ap1]
 refine aS (λi F Y=>F.get 0=.cL false [rv,lv,nv]/\F.get 1=x1/\F.get 2=x2/\F.get 3=.bool back/\F.get 9=w/\F.get 12=x12/\F.get 13=wn/\F.get 14=.int .i64 (i:Int)/\aV fN 4 Y wn v/\∃u,aV fN 4 Y w u/\DS rs u (λx=>P x\/∃y,y∈(a_ rs).take i/\P y/\x∈DQ rs back y)) (a_ rs).length ?_ ?_ (a_ rs).length 0 _ _ (by omega) (Qb (by simp +decide only[GS,g0,g1,g2,g3,g9,g12,ag]) ⟨own,v,ow1,hm.congr λx _=>by simp⟩)
 ·clear g0 g1 g2 g3 g9 g12 ow ow1 own
  rintro i F Y hi ⟨g0,g1,g2,g3,g9,g12,g13,g14,own,u,ow,hu⟩ next
  obtain⟨y,hy⟩:∃y,(a_ rs)[i]?=some y:=⟨_,BY hi⟩
  obtain⟨bn,hbn,hbP⟩:=hm.at hy
  have hlt:=dG hi
  have hadd:=bQ i (by omega)
  rw[aC]
  simp only[KP,Ax.loadAt,↓reduceIte,reduceEqDiff,reduceLT,reduceCtorEq,h.dB,rg.kV,g0,g14,ll,hlt]
  refine aS (λk F Y=>F.get 0=.cL false [rv,lv,nv]/\F.get 1=x1/\F.get 2=x2/\F.get 3=.bool back/\F.get 9=w/\F.get 12=x12/\F.get 13=wn/\F.get 14=.int .i64 (i:Int)/\F.get 15=.int .i64 (k:Int)/\aV fN 4 Y wn v/\∃u,aV fN 4 Y w u/\DS rs u (λx=>(P x\/∃y,y∈(a_ rs).take i/\P y/\x∈DQ rs back y)\/(P y/\x∈(a_ rs).take k/\x∈DQ rs back y))) (if bn=true then (a_ rs).length else 0) ?_ ?_ (if bn=true then (a_ rs).length else 0) 0 _ _ (by omega) (zJ (by simp +decide only[GS,g0,g1,g2,g3,g9,g12,g13,g14,ag]) ⟨own,u,ow,hu.congr λx _=>by simp⟩)
  ·clear g0 g1 g2 g3 g9 g12 g13 g14 ow own hu u
   rintro k F Y hk2 ⟨g0,g1,g2,g3,g9,g12,g13,g14,g15,own,u,ow,hu⟩ next2
   have hbt:bn=true:=nt λe=>by rw[az e]at hk2;omega
   subst hbt
   rw[bf rfl]at hk2
   obtain⟨x,hx⟩:∃y,(a_ rs)[k]?=some y:=⟨_,BY hk2⟩
   obtain⟨p1,ix1,ld1⟩:=BO h own hbn
   obtain⟨c,hc,hcP⟩:=hu.at hx
   obtain⟨gm,vr,gb,em,eb⟩:=wX h hN.is hi hk2
   obtain⟨gm',vr',gb',em',eb'⟩:=wX h hN.is hk2 hi
   have hnx:=Yd hy hx
   obtain⟨b2,ix2,hb2,τ2,st2,ow2,GC,hl2⟩:=Kq h ow (show k<u.length by rw[hu.1];exact hk2) (c||decide (x∈DQ rs back y))
   obtain⟨p3,ix3,ld3⟩:=BO h ow hc
   rw[ix2]at ix3
   cases ix3
   have hlt2:=dG hk2
   have hadd2:=bQ k (by omega)
   have lm:∀g u,loadAt E Y 99 (.cL g [u])=some u:=λg u=>by unfold Ax.loadAt;simp only[h.oB];rfl
   have lb:∀g u,loadAt E Y 4 (.cL g [u])=some u:=λg u=>by unfold Ax.loadAt;simp only[h.tR];rfl
   have lg1:loadAt E Y 23 (.cL false [lv,nv])=some lv:=by unfold Ax.loadAt;simp only[hl.dB];rfl
   have lg2:loadAt E Y 61 (.cL false [nv])=some nv:=by unfold Ax.loadAt;simp only[h.tQ];rfl
   have nxt:∀F',F'.get 0=.cL false [rv,lv,nv]->F'.get 1=x1->F'.get 2=x2->F'.get 3=.bool back->F'.get 9=w->F'.get 12=x12->F'.get 13=wn->F'.get 14=.int .i64 (i:Int)->F'.get 15=.int .i64 ((k+1:Nat):Int)->Ax.R E (.loop _) _ ⟨150,F'⟩ τ2 Q:=λF' q0 q1 q2 q3 q9 K1 q13 q14 q15=>next2 F' τ2 ⟨q0,q1,q2,q3,q9,K1,q13,q14,q15,own.keep λd o hd e=>GC d o e (λe2=>hne d e2 hd),_,ow2,hu.set hx (by
    rw[fq,OF,hcP]
    constructor
    ·rintro (h1 | h1)
     ·rcases h1 with h1 | ⟨h1,h2,h3⟩
      ·exact .inl h1
      ·exact .inr ⟨h1,(dI hx x).2 (.inl h2),h3⟩
     ·exact .inr ⟨hbP.1 rfl,(dI hx x).2 (.inr rfl),h1⟩
    ·rintro (h1 | ⟨h1,h2,h3⟩)
     ·exact .inl (.inl h1)
     ·exact .inr h3) (λz _ hz=>by
    refine or_congr mh (po mh (po ?_ mh))
    rw[dI hx]
    exact⟨.inl,λh1=>h1.resolve_right hz⟩)⟩
   have ldn:loadAt E Y 23 (.cL false [lv,nv])=some lv:=lg1
   rw[aC]
   cases back with
   |false=>
    rw[hnx.1]at eb
    generalize decide (x∈DQ rs false y)=d at eb st2
    cases c <;> cases d <;> simp only[iu,Bool.or_true,ou]at st2
    all_goals simp only[KP,↓reduceIte,reduceEqDiff,reduceLT,reduceCtorEq,h.dB,h.tQ,rg.kV,g0,g3,g9,g13,g14,g15,ll,hlt2,ix1,ld1,ix2,ld3,lg1,lg2,em,lm,eb,lb,st2,hadd2]
    all_goals exact nxt _ (by simp +decide only[GS,g0]) (by simp +decide only[GS,g1]) (by simp +decide only[GS,g2]) (by simp +decide only[GS,g3]) (by simp +decide only[GS,g9]) (by simp +decide only[GS,g12]) (by simp +decide only[GS,g13]) (by simp +decide only[GS,g14]) (by simp +decide only[GS])
   |true=>
    rw[hnx.2]at eb'
    generalize decide (x∈DQ rs true y)=d at eb' st2
    cases c <;> cases d <;> simp only[iu,Bool.or_true,ou]at st2
    all_goals simp only[KP,↓reduceIte,reduceEqDiff,reduceLT,reduceCtorEq,h.dB,h.tQ,rg.kV,g0,g3,g9,g13,g14,g15,ll,hlt2,ix1,ld1,ix2,ld3,lg1,lg2,lm,lb,em',eb',st2,hadd2]
    all_goals exact nxt _ (by simp +decide only[GS,g0]) (by simp +decide only[GS,g1]) (by simp +decide only[GS,g2]) (by simp +decide only[GS,g3]) (by simp +decide only[GS,g9]) (by simp +decide only[GS,g12]) (by simp +decide only[GS,g13]) (by simp +decide only[GS,g14]) (by simp +decide only[GS])
  ·clear g0 g1 g2 g3 g9 g12 g13 g14 ow own hu u
   rintro F Y ⟨g0,g1,g2,g3,g9,g12,g13,g14,g15,own,u,ow,hu⟩
   obtain⟨p1,ix1,ld1⟩:=BO h own hbn
   have lg1:loadAt E Y 23 (.cL false [lv,nv])=some lv:=by unfold Ax.loadAt;simp only[hl.dB];rfl
   rw[aC]
   cases bn with
   |true=>
    rw[bf rfl]at g15 hu
    have hlt2:=dH (b9 (a_ rs).length)
    simp only[KP,↓reduceIte,reduceEqDiff,reduceLT,reduceCtorEq,h.dB,rg.kV,g0,g14,g15,ll,hlt2,lg1,hadd]
    refine next _ _ (Qb (by simp +decide only[GS,g0,g1,g2,g3,g9,g12,g13,ag]) ⟨own,u,ow,hu.congr λx hx=>?_⟩)
    rw[ah (ae _),or_assoc]
    refine or_congr mh ⟨?_,?_⟩
    ·rintro (⟨z,hz,hp,hn⟩ | ⟨hp,-,hn⟩)
     ·exact⟨z,(dI hy z).2 (.inl hz),hp,hn⟩
     ·exact⟨y,(dI hy y).2 (.inr rfl),hp,hn⟩
    ·rintro⟨z,hz,hp,hn⟩
     rcases (dI hy z).1 hz with hz | rfl
     ·exact .inl ⟨z,hz,hp,hn⟩
     ·exact .inr ⟨hp,hx,hn⟩
   |false=>
    rw[az (by decide)]at g15 hu
    have hlt2:decide ((0:Int)<((a_ rs).length:Int))=true:=AT (by omega)
    have hz0:((0:Nat):Int)=0:=rfl
    rw[hz0]at g15
    simp only[KP,↓reduceIte,reduceEqDiff,reduceLT,reduceCtorEq,h.dB,rg.kV,g0,g13,g14,g15,ll,hlt2,lg1,ix1,ld1,hadd]
    refine next _ _ (Qb (by simp +decide only[GS,g0,g1,g2,g3,g9,g12,g13,ag]) ⟨own,u,ow,hu.congr λx hx=>?_⟩)
    have hyP:¬ P y:=λhp=>by cases hbP.2 hp
    rw[jy,or_assoc]
    refine or_congr mh ⟨?_,?_⟩
    ·rintro (⟨z,hz,hp,hn⟩ | ⟨hp,-,hn⟩)
     ·exact⟨z,(dI hy z).2 (.inl hz),hp,hn⟩
     ·exact absurd hp hyP
    ·rintro⟨z,hz,hp,hn⟩
     rcases (dI hy z).1 hz with hz | rfl
     ·exact .inl ⟨z,hz,hp,hn⟩
     ·exact absurd hp hyP
 ·clear g0 g1 g2 g3 g9 g12 ow ow1 own
  rintro F Y ⟨g0,g1,g2,g3,g9,g12,g13,g14,own,u,ow,hu⟩
  have hlt:=dH (b9 (a_ rs).length)
  rw[ah (ae _)]at hu
  rw[aC]
  simp only[KP,Ax.loadAt,↓reduceIte,reduceEqDiff,reduceLT,reduceCtorEq,h.dB,rg.kV,g0,g14,ll,hlt]
  exact hk _ _ u (by simp +decide only[GS,g0]) (by simp +decide only[GS,g1]) (by simp +decide only[GS,g2]) (by simp +decide only[GS,g3]) (by simp +decide only[GS,g9]) (by simp +decide only[GS,g12]) ow hu
end
end
section
section
variable {E:Env}{Z:Sg}{K:V->Sg->Prop}
theorem RN {rs:List aD}:DS rs (List.replicate (a_ rs).length false) λ_=>False:=by
 refine⟨oz,λk x b hx hb=>?_⟩
 obtain⟨hk,e⟩:=AI.1 hb
 rw[List.getElem_replicate]at e
 rw[<- e]
 simp
theorem Rw (h:bK E)(hl:Lb.cH E) (rg:GF E) {rs:List aD}(hf:Fits rs) {rv lv nv va:V}(hL:xJ lv (a_ rs)) {ls:List aG} (ia:IS eS va ls)(hls:ls.length<=1000000) {w:V}{Y:Sg}{v:List Bool}(hv:DS rs v λ_=>False) (ow:aV fN 4 Y w v)
  {x2 x3:V} (F:FT) (g0:F.get 0=.cL false [rv,lv,nv]) (g1:F.get 1=va) (g2:F.get 2=x2) (g3:F.get 3=x3) (g9:F.get 9=w) {st:List gT}{Q:Ax.X->Fr->Sg->Prop}
  (hk:∀F' τ' v',F'.get 0=.cL false [rv,lv,nv]->F'.get 2=x2->F'.get 3=x3->F'.get 9=w->aV fN 4 τ' w v'->DS rs v' (λx=>x∈ls/\x∈a_ rs)->M E st .normal ⟨150,F'⟩ τ' Q):Ax.R E (cutAt [1,1,0] (aA Tryz.f18).code) st ⟨150,F⟩ Y Q:=by
 have hal:=gN hf
 have la:=f_ h ia
 have d5:=rg.abe
 simp only[aA,Tryz.f18,cutAt,an]at d5
 simp only[aA,Tryz.f18,KP,↓reduceIte,reduceLT,cutAt]
 refine aS (λi F Y=>F.get 0=.cL false [rv,lv,nv]/\F.get 1=va/\F.get 2=x2/\F.get 3=x3/\F.get 9=w/\F.get 10=.int .i64 (i:Int)/\∃u,aV fN 4 Y w u/\DS rs u (λx=>x∈ls.take i/\x∈a_ rs)) ls.length ?_ ?_ ls.length 0 _ _ (by omega) (oG (by simp +decide only[GS,g0,g1,g2,g3,g9,ag]) ⟨v,ow,hv.congr λx _=>by simp⟩)
 ·clear g0 g1 g2 g3 g9 ow
  rintro i F Y hi ⟨g0,g1,g2,g3,g9,g10,u,ow,hu⟩ next
  obtain⟨x,hx⟩:∃x,ls[i]?=some x:=⟨_,BY hi⟩
  obtain⟨gi,e1⟩:=kU h ia hx
  have hlt:=dG hi
  have hadd:=bQ i (by omega)
  have kf:=cU λK=>BZ (Z:=Y) (K:=K) (s:=x) h hl (hL.BQ.is.ls Y 51) (by omega)
  have lg1:loadAt E Y 23 (.cL false [lv,nv])=some lv:=by unfold Ax.loadAt;simp only[hl.dB];rfl
  have lx:loadAt E Y 51 (.cL gi [.bool x.1,.str x.2])=some (.agg [.bool x.1,.str x.2]):=by unfold Ax.loadAt;simp only[hl.cF];rfl
  rw[aC]
  by_cases hxa:x∈a_ rs
  ·obtain⟨k,hk1⟩:=iE (p:=λy:aG=>decide (y=x)) hxa (AT rfl)
   obtain⟨x',hx',hxx⟩:=fL hk1
   obtain rfl:=dx hxx
   rw[hk1,dD]at kf
   have hkl:=(AI.1 hx').1
   obtain⟨b2,ix2,hb2,τ2,st2,ow2,GC,hl2⟩:=Kq h ow (show k<u.length by rw[hu.1];exact hkl) true
   simp only[KP,↓reduceIte,reduceEqDiff,reduceLT,reduceCtorEq,h.dB,rg.kV,g0,g1,g9,g10,la,hlt,e1,lg1,lx,kf,ix2,st2,hadd,aK d5,bB]
   refine next _ _ (oG (by simp +decide only[GS,g0,g1,g2,g3,g9,ag]) ⟨_,ow2,hu.set hx' (by
    rw[dI hx]
    exact⟨λ_=>⟨.inr rfl,hxa⟩,λ_=>rfl⟩) (λz _ hz=>po ?_ mh)⟩)
   rw[dI hx]
   exact⟨.inl,λh1=>h1.resolve_right hz⟩
  ·rw[dS (p:=λy:aG=>decide (y=x)) λy hy=>AS λe:y=x=>hxa (by rw[<- e];exact hy)]at kf
   have hge:decide (0<=idx (none:Option Nat))=false:=rfl
   simp only[KP,↓reduceIte,reduceEqDiff,reduceLT,reduceCtorEq,h.dB,rg.kV,g0,g1,g10,la,hlt,e1,lg1,lx,kf,hge,hadd,aK d5,bB]
   refine next _ _ (oG (by simp +decide only[GS,g0,g1,g2,g3,g9,ag]) ⟨u,ow,hu.congr λz hz=>po ?_ mh⟩)
   rw[dI hx]
   exact⟨.inl,λh1=>h1.resolve_right λe=>hxa (by rw[<- e];exact hz)⟩
 ·clear g0 g1 g2 g3 g9 ow
  rintro F Y ⟨g0,g1,g2,g3,g9,g10,u,ow,hu⟩
  rw[ah (ae _)]at hu
  have hlt:=dH (b9 ls.length)
  rw[aC]
  simp only[KP,↓reduceIte,reduceEqDiff,reduceLT,g1,g10,la,hlt]
  exact hk _ _ u (by simp +decide only[GS,g0]) (by simp +decide only[GS,g2]) (by simp +decide only[GS,g3]) (by simp +decide only[GS,g9]) ow hu
theorem Rv (h:bK E)(hl:Lb.cH E) (rg:GF E) {rs:List aD}(hf:Fits rs) {rv lv nv:V}(hL:xJ lv (a_ rs)) {P:aG->Prop}{w:V}{Y:Sg}{v:List Bool}(hv:DS rs v P) (ow:aV fN 4 Y w v)
  (F:FT) (g0:F.get 0=.cL false [rv,lv,nv]) (g9:F.get 9=w) (g16:F.get 16=.aF) {st:List gT}{Q:Ax.X->Fr->Sg->Prop}
  (hk:∀F' τ' wo l,F'.get 16=wo->aV eS 51 τ' wo l->Up l->(∀x,x∈l ↔ x∈a_ rs/\P x)->M E st .normal ⟨150,F'⟩ τ' Q):Ax.R E (cutAt [1,1,1,1,1,0] (aA Tryz.f18).code) st ⟨150,F⟩ Y Q:=by
 have hal:=gN hf
 have ll:=f_ h hL.BQ.is
 simp only[aA,Tryz.f18,KP,↓reduceIte,reduceLT,cutAt]
 refine aS (λi F Y=>F.get 0=.cL false [rv,lv,nv]/\F.get 9=w/\F.get 17=.int .i64 (i:Int)/\aV fN 4 Y w v/\∃wo l,F.get 16=wo/\aV eS 51 Y wo l/\l.Sublist ((a_ rs).take i)/\∀x,x∈l ↔ x∈(a_ rs).take i/\P x) (a_ rs).length ?_ ?_ (a_ rs).length 0 _ _ (by omega) (fJ (by simp +decide only[GS,g0,g9,ag]) ⟨ow,.aF,[],(by simp +decide only[GS,g16]),.inl ⟨rfl,rfl⟩,List.nil_sublist _,λx=>by simp⟩)
 ·clear g0 g9 g16 ow
  rintro i F Y hi ⟨g0,g9,g17,ow,wo,l,g16,ol,hs,hm⟩ next
  obtain⟨x,hx⟩:∃x,(a_ rs)[i]?=some x:=⟨_,BY hi⟩
  obtain⟨b,hb,hbP⟩:=hv.at hx
  obtain⟨p1,ix1,ld1⟩:=BO h ow hb
  obtain⟨gi,e1⟩:=kU h hL.BQ.is hx
  have hlt:=dG hi
  have hadd:=bQ i (by omega)
  have hll:l.length<=2000:=e8 hs.length_le (by rw[br];omega)
  have lg1:loadAt E Y 23 (.cL false [lv,nv])=some lv:=by unfold Ax.loadAt;simp only[hl.dB];rfl
  have lx:loadAt E Y 51 (.cL gi [.bool x.1,.str x.2])=some (.agg [.bool x.1,.str x.2]):=by unfold Ax.loadAt;simp only[hl.cF];rfl
  rw[aC]
  cases b with
  |false=>
   have hnp:¬ P x:=λhp=>by cases hbP.2 hp
   simp only[KP,↓reduceIte,reduceEqDiff,reduceLT,reduceCtorEq,h.dB,rg.kV,g0,g9,g17,ll,hlt,lg1,ix1,ld1,hadd]
   refine next _ _ (fJ (by simp +decide only[GS,g0,g9,ag]) ⟨ow,wo,l,(by simp +decide only[GS,g16]),ol,hs.trans (by rw[dn];exact List.sublist_append_left _ _),λz=>?_⟩)
   rw[hm,dI hx]
   exact⟨λ⟨h1,h2⟩=>⟨.inl h1,h2⟩,λ⟨h1,h2⟩=>⟨h1.resolve_right λe=>hnp (by rw[<- e];exact h2),h2⟩⟩
  |true=>
   obtain⟨w',τ5,ha5,ow5,Kt,-⟩:=B0 (x:=x) (ex:=true) hl ol (by omega)
   have k5:aV fN 4 τ5 w v:=(ow.app [O.cells 51 [.bool x.1,.str x.2] true]).keep λc o hc e=>Kt c o e (λe2=>by
    rcases ow with⟨rfl,-⟩ | ⟨b',q,ex,rfl,hc',-⟩
    ·cases hc
    ·cases hc
     exact EI (ol.app [O.cells 51 [.bool x.1,.str x.2] true]) (λu' ex' e'=>by rw[aJ hc']at e';cases e') e2)
   simp only[KP,↓reduceIte,reduceEqDiff,reduceLT,reduceLeDiff,reduceMul,reduceCtorEq,h.dB,h.cF,rg.kV,g0,g9,g16,g17,ll,hlt,lg1,ix1,ld1,e1,lx,lB,ha5,hadd]
   refine next _ _ (fJ (by simp +decide only[GS,g0,g9,ag]) ⟨k5,w',l++[x],(by simp +decide only[GS]),ow5,?_,λz=>?_⟩)
   ·rw[dn,hx]
    exact hs.append (List.Sublist.refl _)
   ·rw[bt,cj,hm,dI hx]
    constructor
    ·rintro (⟨h1,h2⟩ | rfl)
     ·exact⟨.inl h1,h2⟩
     ·exact⟨.inr rfl,hbP.1 rfl⟩
    ·rintro⟨h1 | h1,h2⟩
     ·exact .inl ⟨h1,h2⟩
     ·exact .inr h1
 ·clear g0 g9 g16 ow
  rintro F Y ⟨g0,g9,g17,ow,wo,l,g16,ol,hs,hm⟩
  rw[ah (ae _)]at hs hm
  have hlt:=dH (b9 (a_ rs).length)
  rw[aC]
  simp only[KP,Ax.loadAt,↓reduceIte,reduceEqDiff,reduceLT,reduceCtorEq,h.dB,rg.kV,g0,g17,ll,hlt]
  exact hk _ _ wo l (by simp +decide only[GS,g16]) ol (List.Pairwise.sublist hs (B4 rs)) hm
end
end
section
section
variable {E:Env}{Z:Sg}{K:V->Sg->Prop}
theorem TU.bF {rs:List aD}{v:V}(hg:TU rs v):Ax.bF v=true:=by
 obtain⟨rv,lv,nv,rfl,-⟩:=hg
 rfl
def Ac (n:Nat) (bD:Int):Nat:=if bD<0 then n+1 else min bD.toNat (n+1)
theorem RA {rs:List aD}{back:Bool}{ls:List aG}{bD:Int} (x:aG):Rk (DQ rs back) (λx=>x∈ls/\x∈a_ rs) (Ac (a_ rs).length bD) x ↔ vT (DQ rs back) (λx=>x∈ls/\x∈a_ rs) bD x:=by
 have hsub:∀n x,Rk (DQ rs back) (λx=>x∈ls/\x∈a_ rs) n x->x∈a_ rs:=λn x hx=>Rk.sub (P:=λx=>x∈a_ rs) (λ_ h=>h.2) (λy x hx=>JD hx) n hx
 unfold Ac vT
 by_cases hf:bD<0
 ·rw[bf hf]
  exact⟨λhx=>.inl ⟨hf,_,hx⟩,λhx=>hx.elim (λ⟨_,n,hn⟩=>KW hsub (je _) hn) λ⟨h0,_⟩=>by omega⟩
 ·rw[az hf]
  rcases Nat.le_total bD.toNat ((a_ rs).length+1) with g | g
  ·rw[my g]
   exact⟨λhx=>.inr ⟨by omega,hx⟩,λhx=>hx.elim (λ⟨h0,_⟩=>absurd h0 hf) λ⟨_,hx⟩=>hx⟩
  ·rw[Nat.min_eq_right g]
   exact⟨λhx=>.inr ⟨by omega,hx.mono g⟩,λhx=>hx.elim (λ⟨h0,_⟩=>absurd h0 hf) λ⟨_,hx⟩=>KW hsub (je _) hx⟩
theorem Ml (h:bK E)(hl:Lb.cH E) (rg:GF E) {rs:List aD}(hf:Fits rs) {rv lv nv:V}(hL:xJ lv (a_ rs))(hN:jG pZ nv (FZ (a_ rs).length (nd rs))) {back:Bool}{ls:List aG}{bD:Int}{v:List Bool}(hm:DS rs v (λx=>x∈ls/\x∈a_ rs)) {w:V}{Y:Sg} (ow:aV fN 4 Y w v)
  {x1:V} (F:FT) (g0:F.get 0=.cL false [rv,lv,nv]) (g1:F.get 1=x1) (g2:F.get 2=.int .i64 bD) (g3:F.get 3=.bool back) (g9:F.get 9=w) {st:List gT}{Q:Ax.X->Fr->Sg->Prop}
  (hk:∀F' τ' v',F'.get 0=.cL false [rv,lv,nv]->F'.get 9=w->aV fN 4 τ' w v'->DS rs v' (vT (DQ rs back) (λx=>x∈ls/\x∈a_ rs) bD)->M E st .normal ⟨150,F'⟩ τ' Q):Ax.R E (cutAt [1,1,1,0] (aA Tryz.f18).code) st ⟨150,F⟩ Y Q:=by
 have hal:=gN hf
 have ll:=f_ h hL.BQ.is
 have rd:=λ{P v Y} (x12:V) hm ow F g0 g1 g2 g3 g9 g12 st Q hk=>Oz (rv:=rv) (back:=back) (P:=P) (v:=v) (w:=w) (Y:=Y) (x1:=x1) (x2:=.int .i64 bD) (x12:=x12) h hl rg hf hL hN hm ow F g0 g1 g2 g3 g9 g12 (st:=st) (Q:=Q) hk
 rw[show (cutAt [1,1,1,0] (aA Tryz.f18).code)=.seq (cutAt [1,1,1,0,0] (aA Tryz.f18).code) (.block 2 (.loop (.seq (cutAt [1,1,1,0,1,2,2,0] (aA Tryz.f18).code) (.seq (.block 3 (cutAt [1,1,1,0,1,2,2,1,0,2] (aA Tryz.f18).code)) (cutAt [1,1,1,0,1,2,2,1,1] (aA Tryz.f18).code))))) from rfl]
 generalize cutAt [1,1,1,0,1,2,2,1,0,2] (aA Tryz.f18).code=B at rd ⊢
 simp only[aA,Tryz.f18,KP,↓reduceIte,reduceLT,cutAt]
 refine aS (λd F Y=>F.get 0=.cL false [rv,lv,nv]/\F.get 1=x1/\F.get 2=.int .i64 bD/\F.get 3=.bool back/\F.get 9=w/\F.get 12=.int .i64 (d:Int)/\∃u,aV fN 4 Y w u/\DS rs u (Rk (DQ rs back) (λx=>x∈ls/\x∈a_ rs) d)) (Ac (a_ rs).length bD) ?_ ?_ (Ac (a_ rs).length bD) 0 _ _ (by omega) (oG (by simp +decide only[GS,g0,g1,g2,g3,g9,ag]) ⟨v,ow,hm⟩)
 ·clear g0 g1 g2 g3 g9 ow hm
  rintro d F Y hd ⟨g0,g1,g2,g3,g9,g12,u,ow,hu⟩ next
  have hdn:d<=(a_ rs).length/\(bD<0\/(d:Int)<bD):=by
   unfold Ac at hd
   by_cases hf0:bD<0
   ·rw[bf hf0]at hd;exact⟨by omega,.inl hf0⟩
   ·rw[az hf0]at hd;exact⟨by omega,.inr (by omega)⟩
  have q3:decide ((d:Int)<=((a_ rs).length:Int))=true:=AT (by omega)
  have hadd:=bQ d (by omega)
  have lg1:loadAt E Y 23 (.cL false [lv,nv])=some lv:=by unfold Ax.loadAt;simp only[hl.dB];rfl
  have fin:∀F1:FT,F1.get 0=.cL false [rv,lv,nv]->F1.get 1=x1->F1.get 2=.int .i64 bD->F1.get 3=.bool back->F1.get 9=w->F1.get 12=.int .i64 (d:Int)->∀τ' u',aV fN 4 τ' w u'->DS rs u' (λx=>Rk (DQ rs back) (λx=>x∈ls/\x∈a_ rs) d x\/∃y,y∈a_ rs/\Rk (DQ rs back) (λx=>x∈ls/\x∈a_ rs) d y/\x∈DQ rs back y)->DS rs u' (Rk (DQ rs back) (λx=>x∈ls/\x∈a_ rs) (d+1)):=λF1 _ _ _ _ _ _ τ' u' _ hu'=>hu'.congr λx _=>or_congr mh ⟨λ⟨y,_,h1,h2⟩=>⟨y,h1,h2⟩,λ⟨y,h1,h2⟩=>⟨y,Rk.sub (P:=λx=>x∈a_ rs) (λ_ h=>h.2) (λy x hx=>JD hx) d h1,h1,h2⟩⟩
  rw[aC]
  by_cases hf0:bD<0
  ·have q1:decide (bD<0)=true:=AT hf0
   simp only[KP,↓reduceIte,reduceEqDiff,reduceLT,reduceCtorEq,h.dB,rg.kV,g0,g2,g12,q1,q3,ll,lg1]
   refine rd (.int .i64 (d:Int)) hu ow _ ?_ ?_ ?_ ?_ ?_ ?_ _ _ (λF1 τ1 u1 p0 p1 p2 p3 p9 p12 ow1 hu1=>?_)
   ·simp +decide only[GS,g0]
   ·simp +decide only[GS,g1]
   ·simp +decide only[GS,g2]
   ·simp +decide only[GS,g3]
   ·simp +decide only[GS,g9]
   ·simp +decide only[GS,g12]
   simp only[KP,↓reduceIte,reduceLT,p12,hadd]
   exact next _ _ (oG (by simp +decide only[GS,p0,p1,p2,p3,p9,ag]) ⟨u1,ow1,fin F1 p0 p1 p2 p3 p9 p12 τ1 u1 ow1 hu1⟩)
  ·have q1:decide (bD<0)=false:=AS hf0
   have q2:decide ((d:Int)<bD)=true:=AT (hdn.2.resolve_left hf0)
   simp only[KP,↓reduceIte,reduceEqDiff,reduceLT,reduceCtorEq,h.dB,rg.kV,g0,g2,g12,q1,q2,q3,ll,lg1]
   refine rd (.int .i64 (d:Int)) hu ow _ ?_ ?_ ?_ ?_ ?_ ?_ _ _ (λF1 τ1 u1 p0 p1 p2 p3 p9 p12 ow1 hu1=>?_)
   ·simp +decide only[GS,g0]
   ·simp +decide only[GS,g1]
   ·simp +decide only[GS,g2]
   ·simp +decide only[GS,g3]
   ·simp +decide only[GS,g9]
   ·simp +decide only[GS,g12]
   simp only[KP,↓reduceIte,reduceLT,p12,hadd]
   exact next _ _ (oG (by simp +decide only[GS,p0,p1,p2,p3,p9,ag]) ⟨u1,ow1,fin F1 p0 p1 p2 p3 p9 p12 τ1 u1 ow1 hu1⟩)
 ·clear g0 g1 g2 g3 g9 ow hm
  rintro F Y ⟨g0,g1,g2,g3,g9,g12,u,ow,hu⟩
  have hu2:=hu.congr λx _=>RA (bD:=bD) x
  have lg1:loadAt E Y 23 (.cL false [lv,nv])=some lv:=by unfold Ax.loadAt;simp only[hl.dB];rfl
  rw[aC]
  by_cases hf0:bD<0
  ·have q1:decide (bD<0)=true:=AT hf0
   have q3:decide (((Ac (a_ rs).length bD:Nat):Int)<=((a_ rs).length:Int))=false:=AS (by unfold Ac;rw[bf hf0];omega)
   simp only[KP,↓reduceIte,reduceEqDiff,reduceLT,reduceCtorEq,h.dB,rg.kV,g0,g2,g12,q1,q3,ll,lg1]
   exact hk _ _ u (by simp +decide only[GS,g0]) (by simp +decide only[GS,g9]) ow hu2
  ·have q1:decide (bD<0)=false:=AS hf0
   by_cases hle:bD.toNat<=(a_ rs).length+1
   ·have q2:decide (((Ac (a_ rs).length bD:Nat):Int)<bD)=false:=AS (by unfold Ac;rw[az hf0,my hle];omega)
    simp only[KP,↓reduceIte,reduceEqDiff,reduceLT,g2,g12,q1,q2]
    exact hk _ _ u (by simp +decide only[GS,g0]) (by simp +decide only[GS,g9]) ow hu2
   ·have q2:decide (((Ac (a_ rs).length bD:Nat):Int)<bD)=true:=AT (by unfold Ac;rw[az hf0,Nat.min_eq_right (by omega)];omega)
    have q3:decide (((Ac (a_ rs).length bD:Nat):Int)<=((a_ rs).length:Int))=false:=AS (by unfold Ac;rw[az hf0,Nat.min_eq_right (by omega)];omega)
    simp only[KP,↓reduceIte,reduceEqDiff,reduceLT,reduceCtorEq,h.dB,rg.kV,g0,g2,g12,q1,q2,q3,ll,lg1]
    exact hk _ _ u (by simp +decide only[GS,g0]) (by simp +decide only[GS,g9]) ow hu2
theorem Qh (h:bK E)(hl:Lb.cH E) (rg:GF E) {g:V}{rs:List aD}(hg:TU rs g)(hf:Fits rs) {a:V}{ls:List aG}(ha:LS eS 51 Z a ls)(hls:ls.length<=1000000) (bD:Int) (back:Bool) :
  aB E 18 [g,a,.int .i64 bD,.bool back] Z λv σ'=>σ'=Z/\∃l,xJ v l/\Up l/\(∀x,x∈l->x∈a_ rs)/\∀x,x∈l ↔ vT (DQ rs back) (λx=>x∈ls/\x∈a_ rs) bD x:=by
 obtain⟨a',ea,ia⟩:=iH h ha
 have e1:=cN (Z:=Z) (ty:=E.ty) hg.bF (bZ hg.bF)
 have e3:aT Z E.ty true (.int .i64 bD)=some (.int .i64 bD):=rfl
 have e4:aT Z E.ty true (.bool back)=some (.bool back):=rfl
 obtain⟨rv,lv,nv,rfl,-,hL,hN⟩:=hg
 have hal:=gN hf
 have ll:=f_ h hL.BQ.is
 rw[aI rg.hs18 rg.Oc rg.fn18 rg.md18 (args':=[.cL false [rv,lv,nv],a',.int .i64 bD,.bool back]) (by simp only[aW,e1,ea,e3,e4]),aY (by kernel_rfl)]
 have k1:=λ{w Y v} hv ow F g0 g1 g2 g3 g9 st Q hk=>Rw (w:=w) (Y:=Y) (v:=v) (x2:=.int .i64 bD) (x3:=.bool back) (nv:=nv) (rv:=rv) h hl rg hf hL ia hls hv ow F g0 g1 g2 g3 g9 (st:=st) (Q:=Q) hk
 have k2:=λ{w Y v} (x1:V) hm ow F g0 g1 g2 g3 g9 st Q hk=>Ml (w:=w) (Y:=Y) (v:=v) (ls:=ls) (bD:=bD) (back:=back) (x1:=x1) (rv:=rv) h hl rg hf hL hN hm ow F g0 g1 g2 g3 g9 (st:=st) (Q:=Q) hk
 have k3:=λ{P w Y v} hv ow F g0 g9 g16 st Q hk=>Rv (P:=P) (w:=w) (Y:=Y) (v:=v) (nv:=nv) (rv:=rv) h hl rg hf hL hv ow F g0 g9 g16 (st:=st) (Q:=Q) hk
 rw[show (aA Tryz.f18).code=.seq (cutAt [0] (aA Tryz.f18).code) (.seq (cutAt [1,0] (aA Tryz.f18).code) (.seq (cutAt [1,1,0] (aA Tryz.f18).code) (.seq (cutAt [1,1,1,0] (aA Tryz.f18).code) (.seq (cutAt [1,1,1,1,0] (aA Tryz.f18).code) (.seq (cutAt [1,1,1,1,1,0] (aA Tryz.f18).code) (cutAt [1,1,1,1,1,1] (aA Tryz.f18).code)))))) from rfl]
 generalize cutAt [1,1,0] (aA Tryz.f18).code=B2 at k1 ⊢
 generalize cutAt [1,1,1,0] (aA Tryz.f18).code=B3 at k2 ⊢
 generalize cutAt [1,1,1,1,1,0] (aA Tryz.f18).code=B5 at k3 ⊢
 have m2:decide (((a_ rs).length:Int)<=((a_ rs).length:Int))=true:=AT (by omega)
 have m3:decide (((a_ rs).length:Int)*((1:Nat):Int)<=1099511627776)=true:=AT (by omega)
 have m4:decide (((a_ rs).length:Int)<=1099511627776)=true:=AT (by omega)
 simp only[aA,Tryz.f18,KP,Ax.loadAt,↓reduceIte,reduceLT,reduceAdd,reduceCtorEq,h.tR,h.dB,h.oB,cutAt,rg.kV,ll,m2,m3,m4,cv]
 have ow0:aV fN 4 [O.cells 4 (fR (a_ rs).length [V.bool false]) true] (.sl 0 0 (a_ rs).length none) (List.replicate (a_ rs).length false):=.inr ⟨0,(List.replicate (a_ rs).length false).map λb=>[V.bool b],true,by rw[oz],by rw[<- Ho];rfl,Gz _⟩
 refine k1 RN ow0 _ ?_ ?_ ?_ ?_ ?_ _ _ (λF1 τ1 v1 p0 p2 p3 p9 ow1 hm1=>?_)
 ·simp +decide only[GS]
 ·simp +decide only[GS]
 ·simp +decide only[GS]
 ·simp +decide only[GS]
 ·simp +decide only[GS]
 rw[EU]
 simp only[KP]
 refine k2 (F1.get 1) hm1 ow1 F1 p0 rfl p2 p3 p9 _ _ (λF2 τ2 v2 q0 q9 ow2 hm2=>?_)
 rw[EU]
 simp only[KP,↓reduceIte,reduceLT]
 refine k3 hm2 ow2 _ ?_ ?_ ?_ _ _ (λF3 τ3 wo l h16 ol hup hmem=>?_)
 ·simp +decide only[GS,q0]
 ·simp +decide only[GS,q9]
 ·simp +decide only[GS]
 obtain⟨v',f1,iv⟩:=pC hl ol
 rw[EU]
 simp only[KP,↓reduceIte,reduceLT,h16,f1]
 refine⟨l,iv,hup,λx hx=>((hmem x).1 hx).1,λx=>?_⟩
 rw[hmem]
 refine⟨λh1=>h1.2,λh1=>⟨?_,h1⟩⟩
 obtain⟨n,hn⟩:∃n,Rk (DQ rs back) (λx=>x∈ls/\x∈a_ rs) n x:=h1.elim (λ⟨_,n,hn⟩=>⟨n,hn⟩) λ⟨_,hn⟩=>⟨_,hn⟩
 exact Rk.sub (P:=λx=>x∈a_ rs) (λ_ h=>h.2) (λy x hx=>JD hx) n hn
end
end
section
section
variable {E:Env}{Z:Sg}{K:V->Sg->Prop}
theorem Gk {l:List aG}{x:aG}(hx:x∈l):∃k,bI (λy=>decide (y=x)) l=some k/\l[k]?=some x:=by
 obtain⟨k,hk⟩:=iE (p:=λy:aG=>decide (y=x)) hx (AT rfl)
 obtain⟨x',h1,h2⟩:=fL hk
 rw[dx h2]at h1
 exact⟨k,hk,h1⟩
theorem LD {l:List aG}{x:aG}(hx:x ∉ l):bI (λy=>decide (y=x)) l=none:=dS (p:=λy:aG=>decide (y=x)) λy hy=>AS λe:y=x=>hx (by rw[<- e];exact hy)
theorem abm (h:bK E)(hl:Lb.cH E) (rg:GF E) {g:V}{rs:List aD}(hg:TU rs g)(hf:Fits rs) {a:V}{p:List aG}(ha:LS eS 51 Z a p)(hp:p.length<=1000000):aB E 41 [g,a] Z λv σ'=>σ'=Z/\∃b:Bool,v=.bool b/\(b=true ↔ Way rs p):=by
 obtain⟨a',ea,ia⟩:=iH h ha
 have e1:=cN (Z:=Z) (ty:=E.ty) hg.bF (bZ hg.bF)
 obtain⟨rv,lv,nv,rfl,-,hL,hN⟩:=hg
 have hal:=gN hf
 have d4:=rg.abc
 simp only[aA,Tryz.f41,cutAt,an]at d4
 have d5:=rg.abb
 simp only[aA,Tryz.f41,cutAt,an]at d5
 rw[aI rg.hs41 rg.sp41 rg.fn41 rg.md41 (args':=[.cL false [rv,lv,nv],a']) (by simp only[aW,e1,ea]),aY (by kernel_rfl)]
 have la:=f_ h ia
 have lg1:∀Y,loadAt E Y 23 (.cL false [lv,nv])=some lv:=λY=>by unfold Ax.loadAt;simp only[hl.dB];rfl
 have lg2:∀Y,loadAt E Y 61 (.cL false [nv])=some nv:=λY=>by unfold Ax.loadAt;simp only[h.tQ];rfl
 have lx:∀Y gi (x:aG),loadAt E Y 51 (.cL gi [.bool x.1,.str x.2])=some (.agg [.bool x.1,.str x.2]):=λY gi x=>by unfold Ax.loadAt;simp only[hl.cF];rfl
 have lm:∀Y g u,loadAt E Y 99 (.cL g [u])=some u:=λY g u=>by unfold Ax.loadAt;simp only[h.oB];rfl
 have lb:∀Y g u,loadAt E Y 4 (.cL g [u])=some u:=λY g u=>by unfold Ax.loadAt;simp only[h.tR];rfl
 simp only[aA,Tryz.f41,KP,↓reduceIte,reduceLT,reduceAdd]
 refine aS (λi F Y=>F.get 0=.cL false [rv,lv,nv]/\F.get 1=a'/\F.get 5=.int .i64 (i:Int)/\(∀(j:Nat) (x:aG),j<i->p[j]?=some x->x∈a_ rs)/\∀(j:Nat) (y x:aG),j+1<i->p[j]?=some y->p[j+1]?=some x->x∈eR rs y) p.length ?_ ?_ p.length 0 _ _ (by omega) (fJ (by simp +decide only[GS,ag]) ⟨λj x hj=>by omega,λj y x hj=>by omega⟩)
 ·rintro i F Y hi ⟨g0,g1,g5,hall,hnx⟩ next
  obtain⟨x,hx⟩:∃x,p[i]?=some x:=⟨_,BY hi⟩
  obtain⟨gi,ei⟩:=kU h ia hx
  have hlt:=dG hi
  have hadd:=bQ i (by omega)
  have kf:=λ(z:aG)=>cU λK=>BZ (Z:=Y) (K:=K) (s:=z) h hl (hL.BQ.is.ls Y 51) (by omega)
  have kx:=kf x
  have hstep:x∈a_ rs->∀(j:Nat) (z:aG),j<i+1->p[j]?=some z->z∈a_ rs:=λhxa j z hj hz=>by
   rcases bz j i with g | g
   ·exact hall j z g hz
   ·obtain rfl:j=i:=by omega
    rw[hx]at hz;cases hz;exact hxa
  rw[aC]
  by_cases hxa:x∈a_ rs
  ·obtain⟨k,hk,hkx⟩:=Gk hxa
   rw[hk,dD]at kx
   have hkl:=(AI.1 hkx).1
   have hneg:decide ((k:Int)<0)=false:=AS (by omega)
   by_cases hi0:i=0
   ·have hgt:decide ((0:Int)<(i:Int))=false:=AS (by omega)
    simp only[KP,↓reduceIte,reduceEqDiff,reduceLT,reduceCtorEq,h.dB,rg.kV,g0,g1,g5,la,hlt,ei,lg1,lx,kx,hneg,hgt,hadd,aK d4,aK d5,bB]
    exact next _ _ (fJ (by simp +decide only[GS,g0,g1,ag]) ⟨hstep hxa,λj y z hj=>by omega⟩)
   ·obtain⟨y,hy⟩:∃y,p[i-1]?=some y:=⟨_,BY (by omega)⟩
    obtain⟨gj,ej⟩:=kU h ia hy
    have hya:=hall (i-1) y (by omega) hy
    obtain⟨j,hj,hjy⟩:=Gk hya
    have ky:=kf y
    rw[hj,dD]at ky
    have hjl:=(AI.1 hjy).1
    obtain⟨gm,vr,gb,em,eb⟩:=wX h hN.is hjl hkl
    rw[K6 hjy hkx]at eb
    have hgt:decide ((0:Int)<(i:Int))=true:=AT (by omega)
    have hw1:wr .i64 ((i:Int)-1)=((i-1:Nat):Int):=by rw[Ef _ (by omega) (by omega)];omega
    by_cases hxn:x∈eR rs y
    ·rw[AT hxn]at eb
     simp only[KP,↓reduceIte,reduceEqDiff,reduceLT,reduceCtorEq,h.dB,h.tQ,rg.kV,g0,g1,g5,la,hlt,ei,ej,lg1,lg2,lx,lm,lb,kx,ky,em,eb,hneg,hgt,hw1,hadd,aK d4,aK d5,bB]
     refine next _ _ (fJ (by simp +decide only[GS,g0,g1,ag]) ⟨hstep hxa,λj' y' z hj' hy' hz=>?_⟩)
     rcases bz (j'+1) i with g | g
     ·exact hnx j' y' z g hy' hz
     ·obtain rfl:i=j'+1:=by omega
      rw[nq,hy']at hy
      cases hy
      rw[hx]at hz;cases hz;exact hxn
    ·rw[AS hxn]at eb
     simp only[KP,↓reduceIte,reduceEqDiff,reduceLT,reduceCtorEq,h.dB,h.tQ,rg.kV,g0,g1,g5,la,hlt,ei,ej,lg1,lg2,lx,lm,lb,kx,ky,em,eb,hneg,hgt,hw1,cG,aT,aK d4,aK d5,bB]
     exact⟨false,rfl,⟨λe=>(by cases e),λhw=>absurd (hw.nx (i-1) y x hy (by rw[Nat.sub_add_cancel (by omega)];exact hx)) hxn⟩⟩
  ·rw[LD hxa]at kx
   have hneg:decide (idx (none:Option Nat)<0)=true:=rfl
   simp only[KP,↓reduceIte,reduceEqDiff,reduceLT,reduceCtorEq,h.dB,rg.kV,g0,g1,g5,la,hlt,ei,lg1,lx,kx,hneg,cG,aT,aK d4,aK d5,bB]
   exact⟨false,rfl,⟨λe=>(by cases e),λhw=>absurd (hw.all x (aa hx)) hxa⟩⟩
 ·rintro F Y ⟨g0,g1,g5,hall,hnx⟩
  have hlt:=dH (b9 p.length)
  rw[aC]
  by_cases h0:p.length=0
  ·have hgt:decide ((0:Int)<(p.length:Int))=false:=AS (by omega)
   simp only[KP,↓reduceIte,reduceEqDiff,reduceLT,g1,g5,hlt,la,hgt,cG,aT]
   exact⟨false,rfl,⟨λe=>(by cases e),λhw=>absurd (iy.1 h0) hw.ne⟩⟩
  ·have hgt:decide ((0:Int)<(p.length:Int))=true:=AT (by omega)
   simp only[KP,↓reduceIte,reduceEqDiff,reduceLT,g1,g5,hlt,la,hgt,cG,aT]
   exact⟨true,rfl,⟨λ_=>⟨λe=>h0 (by rw[e];rfl),λx hx=>by
    obtain⟨j,hj⟩:=gp.1 hx
    exact hall j x (AI.1 hj).1 hj,λj y x hy hx=>hnx j y x (AI.1 hx).1 hy hx⟩,λ_=>rfl⟩⟩
theorem CE {rs:List aD}{a:aG}:∀(n:Nat) {b:aG},Rk (eR rs) (λx=>x∈[a]/\x∈a_ rs) n b->∃w,Way rs w/\w[0]?=some a/\w[w.length-1]?=some b/\w.length<=n+1
 |0,b,⟨h1,h2⟩=>by
  obtain rfl:=cj.1 h1
  exact⟨[b],⟨by simp,λx hx=>by rw[cj.1 hx];exact h2,λi y x hy hx=>by
   have:=(AI.1 hx).1
   rw[dz]at this
   omega⟩,rfl,rfl,ae _⟩
 |n+1,b,.inl h=>by
  obtain⟨w,h1,h2,h3,h4⟩:=CE n h
  exact⟨w,h1,h2,h3,by omega⟩
 |n+1,b,.inr ⟨y,hy,hb⟩=>by
  obtain⟨w,h1,h2,h3,h4⟩:=CE n hy
  have hl:=jd.2 h1.ne
  have hwb:Way rs [y,b]:=⟨by simp,λx hx=>by
   rcases IN.1 hx with rfl | hx
   ·exact h1.all _ (aa h3)
   ·rw[cj.1 hx];exact yR y b hb,λi u x hu hx=>by
   have:=(AI.1 hx).1
   have hi0:i=0:=by simp only[af,b8]at this;omega
   subst hi0
   cases hu
   cases hx
   exact hb⟩
  refine⟨w++[b],h1.join hwb h3 rfl,by rw[aq hl];exact h2,?_,by rw[ak,dz];omega⟩
  rw[ak,dz,nq,bp (ae _),jc]
  rfl
theorem NI {rs:List aD}{a:aG}{w:List aG}(h:Way rs w)(ha:w[0]?=some a):∀(i:Nat) {x:aG},w[i]?=some x->Rk (eR rs) (λx=>x∈[a]/\x∈a_ rs) i x
 |0,x,hx=>by rw[ha]at hx;cases hx;exact⟨cj.2 rfl,h.all _ (aa ha)⟩
 |i+1,x,hx=>by
  obtain⟨y,hy⟩:∃y,w[i]?=some y:=⟨_,BY (by have:=(AI.1 hx).1;omega)⟩
  exact .inr ⟨y,NI h ha i hy,h.nx i y x hy hx⟩
theorem Jb {rs:List aD}{a b:aG}{p:List aG} (t:Told rs a b p):p≠[] ↔ vT (eR rs) (λx=>x∈[a]/\x∈a_ rs) (-1) b:=by
 rw[KZ]
 constructor
 ·intro hp
  obtain⟨hw,ha,hb⟩:=t.way hp
  exact⟨_,NI hw ha _ hb⟩
 ·rintro⟨n,hn⟩
  obtain⟨w,h1,h2,h3,-⟩:=CE n hn
  exact t.some w h1 h2 h3
theorem Jc {rs:List aD}{a b:aG}{p:List aG} (t:Told rs a b p) {bD:Nat}(hl:bD+2=p.length):¬ vT (eR rs) (λx=>x∈[a]/\x∈a_ rs) (bD:Int) b:=λhr=>by
 obtain⟨w,h1,h2,h3,h4⟩:=CE bD (RC.1 hr)
 have:=t.short w h1 h2 h3
 omega
end
end
section
structure TtE (E:Env):Prop where
 hs7:E.hspec 7=none
 Ww:E.spec 7=none
 fn7:E.fn 7=some (aA Tryz.f7)
 md7:E.mode 7=.fK
 z7_7:fT E (opsOf (cutAt [1,1,1,1,1,1,0] (aA Tryz.f7).code))=.no
 p7_7:cJ E .no (opsOf (cutAt [1,1,1,1,1,1,0] (aA Tryz.f7).code))=some [⟨2,4,true,false⟩]
 aaW:aO E (cutAt [1,1,1,1,1,1,1,1,0,0] (aA Tryz.f7).code)=true
 Wf:fT E (opsOf (cutAt [1,1,1,1,1,1,1,1,1,0] (aA Tryz.f7).code))=.no
 XY:cJ E .no (opsOf (cutAt [1,1,1,1,1,1,1,1,1,0] (aA Tryz.f7).code))=some [⟨11,13,true,false⟩,  ⟨11,16,true,false⟩]
 beg:∀{Z:Sg}{K:V->Sg->Prop},aB E 11 [] Z K=K (.bool true) Z
section
variable {E:Env}{Z:Sg}{K:V->Sg->Prop}
theorem GP (h:bK E)(hl:Lb.cH E) (rg:GF E) {g:V}{rs:List aD}(hg:TU rs g)(hf:Fits rs) {v:V}{a:aG}{Z:Sg}(hv:LS eS 51 Z v [a]) (bD:Int) (b:aG):∃w l,xJ w l/\(b∈l ↔ vT (eR rs) (λx=>x∈[a]/\x∈a_ rs) bD b)/\(∃n,∀m,n<=m->gM E (ev E m) 18 [g,v,.int .i64 bD,.bool false] Z=some (w,Z))/\∃n,∀m,n<=m->gM E (ev E m) 42 [w,.agg [.bool b.1,.str b.2]] Z=some (.int .i64 (idx (bI (λx=>decide (x=b)) l)),Z):=by
 obtain⟨n,w,Y,⟨e,l,hw,hup,hsub,hm⟩,c⟩:=aB.up (Qh h hl rg hg hf hv (by simp) bD false)
 rw[e]at c
 have hll:=e8 (iT hup.nodup hsub) (gN hf)
 obtain⟨n2,v2,τ2,⟨e2,e3⟩,c2⟩:=aB.up (show aB E 42 [w,.agg [.bool b.1,.str b.2]] Z λv σ'=>v=.int .i64 (idx (bI (λx=>decide (x=b)) l))/\σ'=Z by rw[BZ h hl (hw.BQ.is.ls Z 51) (by omega)];exact⟨rfl,rfl⟩)
 rw[e2,e3]at c2
 exact⟨w,l,hw,hm b,⟨n,c⟩,n2,c2⟩
theorem Dx {l:List aG}{s:aG}:decide (0<=idx (bI (λx=>decide (x=s)) l))=decide (s∈l)/\decide (idx (bI (λx=>decide (x=s)) l)<0) = !decide (s∈l):=by
 by_cases hs:s∈l
 ·obtain⟨k,hk,-⟩:=Gk hs
  rw[hk,dD,AT hs]
  exact⟨AT (by omega),AS (by omega)⟩
 ·rw[LD hs,AS hs]
  exact⟨rfl,rfl⟩
theorem NK (a:aG):pA 12 (.agg [.bool a.1,.str a.2]) (.agg [.bool a.1,.str a.2])=true:=by
 show nE (pA 11) [.bool a.1,.str a.2] [.bool a.1,.str a.2]=true
 simp only[nE,xL,ki]
 cases a.1 <;> rfl
theorem Wt (h:bK E)(hl:Lb.cH E) (rg:GF E) (tt:TtE E) {g:V}{rs:List aD}(hg:TU rs g)(hf:Fits rs) {Y:Sg}{a b:aG}{na nb:Nat}(ha:Y[na]?=some (O.cells 51 [.bool a.1,.str a.2] true))(hb:Y[nb]?=some (O.cells 51 [.bool b.1,.str b.2] true))
  (F:FT) (g4:F.get 4=.ref na 0) (g5:F.get 5=.ref nb 0) (g9:F.get 9=g) {st:List gT}{Q:Ax.X->Fr->Sg->Prop}
  (hk:∀F' τ' (r:Bool),(∀k,k∈[4,5,8,9,10]->F'.get k=F.get k)->F'.get 11=.bool r->(r=true ↔ vT (eR rs) (λx=>x∈[a]/\x∈a_ rs) (-1) b)->(∀(c:Nat) (o:O),Y[c]?=some o->τ'[c]?=some o)->M E st .normal ⟨99,F'⟩ τ' Q):Ax.R E (.region 7 (opsOf (cutAt [1,1,1,1,1,1,0] (aA Tryz.f7).code)) true) st ⟨99,F⟩ Y Q:=by
 have hsv:LS eS 51 (Y++[O.cells 51 [.bool a.1,.str a.2] true]) (.sl Y.length 0 1 none) [a]:=.inr ⟨Y.length,_,_,[row a],rfl,aL,.one rfl,rfl⟩
 obtain⟨w,l,hw,hbl,⟨n1,c1⟩,n2,c2⟩:=GP h hl rg hg hf hsv (-1) b
 obtain⟨rv,lv,nv,rfl,-,hL,hN⟩:=hg
 have hal:=gN hf
 obtain⟨n3,v3,τ3,⟨e3,e3'⟩,c3⟩:=aB.up (show aB E 42 [lv,.agg [.bool a.1,.str a.2]] (Y++[O.cells 51 [.bool a.1,.str a.2] true]) λv σ'=>v=.int .i64 (idx (bI (λx=>decide (x=a)) (a_ rs)))/\σ'=Y++[O.cells 51 [.bool a.1,.str a.2] true] by rw[BZ h hl (hL.BQ.is.ls _ 51) (by omega)];exact⟨rfl,rfl⟩)
 rw[e3,e3']at c3
 have c1:=c1 (n1+n2+n3) (by omega)
 have c2:=c2 (n1+n2+n3) (by omega)
 have c3:=c3 (n1+n2+n3) (by omega)
 generalize n1+n2+n3=n at c1 c2 c3
 have i1:=(Dx (l:=l) (s:=b)).1
 have i2:=(Dx (l:=a_ rs) (s:=a)).1
 have hin:b∈l->a∈a_ rs:=λhx=>by
  obtain⟨n,hn⟩:=KZ.1 (hbl.1 hx)
  obtain⟨w,h1,h2,-,-⟩:=CE n hn
  exact h1.all _ (aa h2)
 generalize idx (bI (λx=>decide (x=b)) l)=k1 at c2 i1
 generalize idx (bI (λx=>decide (x=a)) (a_ rs))=k2 at c3 i2
 have ha1:=aJ (x:=O.cells 51 [.bool a.1,.str a.2] true) ha
 have hb1:=aJ (x:=O.cells 51 [.bool a.1,.str a.2] true) hb
 have vb:=NK b
 have key:∃F' τ' r,bW E (ev E n) (opsOf (cutAt [1,1,1,1,1,1,0] (aA Tryz.f7).code)) ⟨99,F⟩ Y=some (⟨99,F'⟩,τ')/\(∀k,k∈[4,5,8,9,10]->F'.get k=F.get k)/\F'.get 11=.bool r/\(r=true ↔ b∈l)/\(∀(c:Nat) (o:O),Y[c]?=some o->τ'[c]?=some o):=by
  unfold bW
  rw[tt.z7_7,tt.p7_7]
  by_cases hx:b∈l
  ·rw[AT hx]at i1
   rw[AT (hin hx)]at i2
   simp only[aA,Tryz.f7,KP,Ax.loadAt,↓reduceIte,reduceEqDiff,reduceLT,reduceLeDiff,reduceAdd,reduceMul,reduceCtorEq,reduceNeg,h.dB,h.cF,opsOf,cutAt,Fz.lits,fF,bJ,bV,jF,Ax.comp,Ax.last,eL,Ax.again,rg.kV,g4,g5,g9,ha,hb,ha1,hb1,c1,c2,c3,i1,i2,vb,lB]
   refine⟨_,_,true,rfl,?_,(by simp +decide only[GS]),⟨λ_=>hx,λ_=>rfl⟩,λc o e=>aJ e⟩
   intro k hk
   simp only[IN,ck,fh]at hk
   rcases hk with rfl | rfl | rfl | rfl | rfl <;> simp +decide only[GS]
  ·rw[AS hx]at i1
   simp only[aA,Tryz.f7,KP,Ax.loadAt,↓reduceIte,reduceEqDiff,reduceLT,reduceLeDiff,reduceAdd,reduceMul,reduceNeg,h.dB,h.cF,opsOf,cutAt,Fz.lits,fF,bJ,bV,jF,Ax.comp,Ax.last,eL,Ax.again,g4,g5,g9,ha,hb,hb1,c1,c2,i1,vb,lB]
   refine⟨_,_,false,rfl,?_,(by simp +decide only[GS]),⟨λe=>(by cases e),λe=>absurd e hx⟩,λc o e=>aJ e⟩
   intro k hk
   simp only[IN,ck,fh]at hk
   rcases hk with rfl | rfl | rfl | rfl | rfl <;> simp +decide only[GS]
 obtain⟨F',τ',r,hD,hF,h11,hr,hka⟩:=key
 exact Eq.mpr (fO hD) (hk F' τ' r hF h11 (hr.trans hbl) hka)
theorem T9 (h:bK E)(hl:Lb.cH E) (rg:GF E) (tt:TtE E) {g:V}{rs:List aD}(hg:TU rs g)(hf:Fits rs) {Y:Sg}{a b:aG}{na nb:Nat}(ha:Y[na]?=some (O.cells 51 [.bool a.1,.str a.2] true))(hb:Y[nb]?=some (O.cells 51 [.bool b.1,.str b.2] true)) {v:V}{p:List aG}(hv:xJ v p)(hpl:p.length<=2002) (t:Told rs a b p)(hp:p≠[])
  (F:FT) (g4:F.get 4=.ref na 0) (g5:F.get 5=.ref nb 0) (g9:F.get 9=g) (g10:F.get 10=v) {st:List gT}{Q:Ax.X->Fr->Sg->Prop}
  (hk:∀F' τ',F'.get 6=.bool true->M E st .normal ⟨99,F'⟩ τ' Q):Ax.R E (.region 12 (opsOf (cutAt [1,1,1,1,1,1,1,1,1,0] (aA Tryz.f7).code)) true) st ⟨99,F⟩ Y Q:=by
 have lv:=f_ h hv.BQ.is
 have hp1:=jd.2 hp
 obtain⟨hway,hp0,hpe⟩:=t.way hp
 have hsv:LS eS 51 (Y++[O.cells 51 [.bool a.1,.str a.2] true]) (.sl Y.length 0 1 none) [a]:=.inr ⟨Y.length,_,_,[row a],rfl,aL,.one rfl,rfl⟩
 obtain⟨w,l,hw,hbl,⟨n1,c1⟩,n2,c2⟩:=GP h hl rg hg hf hsv ((p.length:Int)-2) b
 have c1:=c1 (n1+n2) (by omega)
 have c2:=c2 (n1+n2) (by omega)
 generalize n1+n2=n at c1 c2
 have ha1:=aJ (x:=O.cells 51 [.bool a.1,.str a.2] true) ha
 have hb1:=aJ (x:=O.cells 51 [.bool a.1,.str a.2] true) hb
 have vb:=NK b
 have vi:=GM 11 .i64 (p.length:Int)
 have ev1:∀c,m_ E 51 c (.agg [.bool a.1,.str a.2]) (.agg [.bool b.1,.str b.2])=some (decide (a=b)):=λc=>qH hl a b
 have hw1:wr .i64 ((p.length:Int)-2)=(p.length:Int)-2:=Ef _ (by omega) (by omega)
 have key:∃F' τ',bW E (ev E n) (opsOf (cutAt [1,1,1,1,1,1,1,1,1,0] (aA Tryz.f7).code)) ⟨99,F⟩ Y=some (⟨99,F'⟩,τ')/\F'.get 6=.bool true:=by
  unfold bW
  rw[tt.Wf,tt.XY]
  by_cases h1:p.length=1
  ·have z1:decide ((p.length:Int)=1)=true:=AT (by omega)
   have hab:a=b:=by
    rw[h1]at hpe
    rw[hp0]at hpe
    exact dc hpe
   rw[AT hab]at ev1
   simp only[aA,Tryz.f7,KP,Ax.loadAt,↓reduceIte,reduceEqDiff,reduceLT,reduceLeDiff,reduceAdd,reduceMul,reduceNeg,h.dB,h.cF,opsOf,cutAt,Fz.lits,fF,bJ,bV,jF,Ax.comp,Ax.last,eL,Ax.again,aU,g4,g5,g10,ha,hb,lv,z1,ev1]
   exact⟨_,_,rfl,(by simp +decide only[GS])⟩
  ·have z1:decide ((p.length:Int)=1)=false:=AS (by omega)
   have hnl:b ∉ l:=λhx=>Jc t (bD:=p.length-2) (by omega) (by
    rw[show ((p.length-2:Nat):Int)=(p.length:Int)-2 by omega]
    exact hbl.1 hx)
   have i1:=(Dx (l:=l) (s:=b)).2
   rw[AS hnl,kz]at i1
   simp only[aA,Tryz.f7,KP,Ax.loadAt,↓reduceIte,reduceEqDiff,reduceLT,reduceLeDiff,reduceAdd,reduceMul,reduceNeg,h.dB,h.cF,opsOf,cutAt,Fz.lits,fF,bJ,bV,jF,Ax.comp,Ax.last,eL,Ax.again,aU,g4,g5,g9,g10,ha,hb,hb1,lv,z1,hw1,c1,c2,i1,vb,vi,lB]
   exact⟨_,_,rfl,(by simp +decide only[GS])⟩
 obtain⟨F',τ',hD,h6⟩:=key
 exact Eq.mpr (fO hD) (hk F' τ' h6)
end
end
end Go.Proofs.YtmhchflckonklaaGreatDoor
end
section
namespace Go.Proofs.YtmhchflckonklaaGreatDoor
open Go Go.Ax
theorem begL {Z:Sg}{K:V->Sg->Prop}:aB LE 11 [] Z K=K (.bool true) Z:=tU (s:=bO t11) (args':=[]) (v:=.bool true) (by kernel_rfl) (by kernel_rfl) rfl (by kernel_rfl) rfl
theorem U5:bK LE:=by constructor <;> kernel_rfl
theorem U7:tP LE:=by constructor <;> kernel_rfl
theorem RX:Lb.cH LE:=by constructor <;> kernel_rfl
theorem U8:Kh LE:=by constructor <;> kernel_rfl
theorem U4:IL LE:=by constructor <;> kernel_rfl
theorem U6:GF LE:=by constructor <;> kernel_rfl
theorem U3:TtE LE:=by constructor <;> first | kernel_rfl | exact begL
end Go.Proofs.YtmhchflckonklaaGreatDoor
end
