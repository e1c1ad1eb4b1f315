/- Part 20 of the proof. -/
import Derived.Test.YtmhchflckonklaaGreatDoorY
import Derived.Test.YtmhchflckonklaaGreatDoorZ19
set_option maxHeartbeats 8000000
set_option linter.unusedVariables false
set_option maxRecDepth 10000
open Nat (reduceEqDiff reduceLT reduceAdd)
section
namespace Go.Proofs.YtmhchflckonklaaGreatDoor
open Go Go.Ax Go.AxS
section
section
variable {E:Env}{Z:Sg}{K:V->Sg->Prop}
theorem Gt (h:bK E)(h':tP E)(hl:Lb.cH E) (q:Kh E) (tr:IL E) (rg:GF E) (tt:TtE E) {a:V}{rs:List aD}(ha:LS dO 46 Z a rs)(hraw:∀x∈rs,Raw x) {x1:Bool}{s1:bH}(h1:s1.length<=9223372036854775806) {x2:Bool}{s2:bH}(h2:s2.length<=9223372036854775806):aB E 7 [a,.agg [.bool x1,.str s1],.agg [.bool x2,.str s2]] Z K=K (.bool true) Z:=by
 refine aB.of ?_
 obtain⟨a',ea,ia⟩:=eJ h ha
 have e1:aT Z E.ty true (.agg [.bool x1,.str s1])=some (.agg [.bool x1,.str s1]):=rfl
 have e2:aT Z E.ty true (.agg [.bool x2,.str s2])=some (.agg [.bool x2,.str s2]):=rfl
 rw[aI tt.hs7 tt.Ww tt.fn7 tt.md7 (args':=[a',.agg [.bool x1,.str s1],.agg [.bool x2,.str s2]]) (by simp only[aW,ea,e1,e2]),aY (by kernel_rfl)]
 have kb:=λ(Y:Sg)=>cU λK=>tt.beg (Z:=Y) (K:=K)
 have d10:=tt.aaW
 simp only[aA,Tryz.f7,cutAt,an]at d10
 have r7:=λ{g} {l} hg hf {Y} ha hb F g4 g5 g9 st Q hk=>Wt (g:=g) (rs:=l) (Y:=Y) (a:=(x1,s1)) (b:=(x2,s2)) (na:=0) (nb:=1) h hl rg tt hg hf ha hb F g4 g5 g9 (st:=st) (Q:=Q) hk
 have r12:=λ{g} {l} hg hf {Y} ha hb {v p} hv hpl t hp F g4 g5 g9 g10 st Q hk=>T9 (g:=g) (rs:=l) (Y:=Y) (a:=(x1,s1)) (b:=(x2,s2)) (na:=0) (nb:=1) (v:=v) (p:=p) h hl rg tt hg hf ha hb hv hpl t hp F g4 g5 g9 g10 (st:=st) (Q:=Q) hk
 rw[show (aA Tryz.f7).code=.seq (cutAt [0] (aA Tryz.f7).code) (.seq (cutAt [1,0] (aA Tryz.f7).code) (.seq (cutAt [1,1,0] (aA Tryz.f7).code) (.seq (cutAt [1,1,1,0] (aA Tryz.f7).code) (.seq (cutAt [1,1,1,1,0] (aA Tryz.f7).code) (.seq (cutAt [1,1,1,1,1,0] (aA Tryz.f7).code) (.seq (cutAt [1,1,1,1,1,1,0] (aA Tryz.f7).code) (.seq (cutAt [1,1,1,1,1,1,1,0] (aA Tryz.f7).code) (.seq (cutAt [1,1,1,1,1,1,1,1,0] (aA Tryz.f7).code) (.seq (cutAt [1,1,1,1,1,1,1,1,1,0] (aA Tryz.f7).code) (cutAt [1,1,1,1,1,1,1,1,1,1] (aA Tryz.f7).code)))))))))) from rfl]
 rw[show cutAt [1,1,1,1,1,1,0] (aA Tryz.f7).code=.region 7 (opsOf (cutAt [1,1,1,1,1,1,0] (aA Tryz.f7).code)) true from rfl,show cutAt [1,1,1,1,1,1,1,1,1,0] (aA Tryz.f7).code=.region 12 (opsOf (cutAt [1,1,1,1,1,1,1,1,1,0] (aA Tryz.f7).code)) true from rfl]
 generalize opsOf (cutAt [1,1,1,1,1,1,0] (aA Tryz.f7).code)=O7 at r7 ⊢
 generalize opsOf (cutAt [1,1,1,1,1,1,1,1,1,0] (aA Tryz.f7).code)=O12 at r12 ⊢
 simp only[aA,Tryz.f7,KP,↓reduceIte,reduceEqDiff,reduceLT,reduceAdd,reduceCtorEq,Int.reduceNeg,h.cF,cutAt,kb]
 refine aP (V4 h (ia.ls _ 46) hraw) ?_
 rintro v σ' ⟨rfl,l,iv,hok,hl14,hsm⟩
 have iv':IS dO v l:=sL iv.is wN
 have hf:Fits l:=⟨hok,hsm⟩
 simp only[KP,↓reduceIte,reduceLT]
 refine aP (J8 h h' hl (iv'.ls _ 46) hsm (by omega)) ?_
 rintro g σ' ⟨rfl,⟨hno,-⟩ | ⟨-,hg⟩⟩
 ·exact absurd hok hno
 simp only[KP,↓reduceIte,reduceLT,reduceCtorEq]
 refine aP (VT h hl rg (iv'.ls _ 46) hf) ?_
 rintro w σ' ⟨rfl,hw⟩
 simp only[KP,Ax.loadAt,↓reduceIte,reduceEqDiff,reduceLT,Nat.reduceLeDiff,reduceAdd,Nat.reduceMul,reduceCtorEq,h.dB,h.cF,lB]
 have sa:LS eS 51 [O.cells 51 [.bool x1,.str s1] true,O.cells 51 [.bool x2,.str s2] true,O.cells 51 [.bool x1,.str s1] true,O.cells 51 [.bool x2,.str s2] true] (.sl 2 0 1 none) [((x1,s1):aG)]:=.inr ⟨2,_,_,[row (x1,s1)],rfl,rfl,.one rfl,rfl⟩
 have sb:LS eS 51 [O.cells 51 [.bool x1,.str s1] true,O.cells 51 [.bool x2,.str s2] true,O.cells 51 [.bool x1,.str s1] true,O.cells 51 [.bool x2,.str s2] true] (.sl 3 0 1 none) [((x2,s2):aG)]:=.inr ⟨3,_,_,[row (x2,s2)],rfl,rfl,.one rfl,rfl⟩
 refine aP (VV h h' hl q tr hg hf sa sb (by simp) (by simp) (λx hx=>by rw[cj.1 hx];exact h1)) ?_
 rintro pv Y ⟨rfl,D,Sx,p,dd,hp,hup,hS,hR⟩
 have hpl:p.length<=2002:=by
  rcases hR with⟨rfl,-⟩ | ⟨j,x0,d,-,hx0,-,hpl,-,-⟩
  ·simp
  ·have:=dd.le x0 d hx0
   omega
 have t:=Q7 (a:=(x1,s1)) (b:=(x2,s2)) dd hS hR
 clear hR hS dd hup
 have lp:=f_ h hp.BQ.is
 simp only[KP,↓reduceIte,reduceLT]
 refine r7 hw hf rfl rfl _ ?_ ?_ ?_ _ _ (λF1 τ1 r hF h11 hr hka=>?_)
 ·simp +decide only[GS]
 ·simp +decide only[GS]
 ·simp +decide only[GS]
 have q4:F1.get 4=.ref 0 0:=(hF 4 (by simp)).trans (by simp +decide only[GS])
 have q5:F1.get 5=.ref 1 0:=(hF 5 (by simp)).trans (by simp +decide only[GS])
 have q8:F1.get 8=g:=(hF 8 (by simp)).trans (by simp +decide only[GS])
 have q9:F1.get 9=w:=(hF 9 (by simp)).trans (by simp +decide only[GS])
 have CH:F1.get 10=pv:=(hF 10 (by simp)).trans (by simp +decide only[GS])
 have b0:=hka 0 _ rfl
 have b1:=hka 1 _ rfl
 have hrp:r=true ↔ p≠[]:=hr.trans (Jb t).symm
 clear hka hF hr
 rw[EU]
 by_cases hp0:p=[]
 ·have hl0:p.length=0:=by rw[hp0];rfl
  have z1:decide ((p.length:Int)=0)=true:=AT (by omega)
  have hrf:r=false:=by
   cases r with
   |false=>rfl
   |true=>exact absurd hp0 (hrp.1 rfl)
  subst hrf
  simp only[KP,↓reduceIte,reduceEqDiff,reduceLT,CH,h11,lp,z1,cG,aT]
  exact rfl
 ·have hl0:=jd.2 hp0
  have z1:decide ((p.length:Int)=0)=false:=AS (by omega)
  obtain rfl:=hrp.2 hp0
  obtain⟨hway,ha0,hbe⟩:=t.way hp0
  obtain⟨ga,ea0⟩:=kU h hp.BQ.is ha0
  obtain⟨gb,eb0⟩:=kU h hp.BQ.is hbe
  have ea0:indexAddr E 23 pv (.int .i64 0)=some (.cL ga [.bool x1,.str s1]):=ea0
  have hw1:wr .i64 ((p.length:Int)-1)=((p.length-1:Nat):Int):=by rw[Ef _ (by omega) (by omega)];omega
  have eqa:∀c,m_ E 51 c (.agg [.bool x1,.str s1]) (.agg [.bool x1,.str s1])=some true:=λc=>(qH hl (x1,s1) (x1,s1)).trans (by rw[AT rfl])
  have eqb:∀c,m_ E 51 c (.agg [.bool x2,.str s2]) (.agg [.bool x2,.str s2])=some true:=λc=>(qH hl (x2,s2) (x2,s2)).trans (by rw[AT rfl])
  simp only[KP,↓reduceIte,reduceEqDiff,reduceLT,q9,CH,h11,lp,z1,aK d10,bB]
  refine aP (abm h hl rg hw hf (hp.BQ.is.ls _ 51) (by omega)) ?_
  rintro v1 τ2 ⟨e,b,rfl,hb⟩
  subst e
  obtain rfl:=hb.2 hway
  simp only[KP,Ax.loadAt,↓reduceIte,reduceEqDiff,reduceLT,reduceAdd,h.cF,q4,q5,q8,CH,b0,b1,ea0,eb0,hw1,eqa,eqb,lp]
  refine aP (b_Is h h' hl q tr hg hf (hp.BQ.is.ls _ 51) (by omega)) ?_
  rintro v1 τ3 ⟨e,b,rfl,hb⟩
  subst e
  obtain rfl:=hb.2 hway
  simp only[KP,↓reduceIte,reduceEqDiff,reduceLT]
  refine r12 hw hf b0 b1 hp hpl t hp0 _ ?_ ?_ ?_ ?_ _ _ (λF2 τ2 h6=>?_)
  ·simp +decide only[GS,q4]
  ·simp +decide only[GS,q5]
  ·simp +decide only[GS,q9]
  ·simp +decide only[GS,CH]
  rw[EU]
  simp only[KP,↓reduceIte,reduceLT,h6,cG,aT]
  exact rfl
end
end
theorem Cz (a0:V) (l0:List aD) (i0:IS dO a0 l0) (r0:∀x∈l0,Raw x) (x1:Bool) (s1:bH)(h1:s1.length<=9223372036854775806) (x2:Bool) (s2:bH)(h2:s2.length<=9223372036854775806):∃k,Ax.call LE k 7 [a0,.agg [.bool x1,.str s1],.agg [.bool x2,.str s2]]=some (.bool true):=by
 have h:aB LE 7 [a0,.agg [.bool x1,.str s1],.agg [.bool x2,.str s2]] [] (λv _=>v=.bool true):=by
  rw[Gt U5 U7 RX U8 U4 U6 U3 (i0.ls [] 46) r0 (x1:=x1) (s1:=s1) h1 (x2:=x2) (s2:=s2) h2]
 obtain⟨n,v,σ',hc,rfl⟩:=h
 refine⟨n,?_⟩
 have hm:aW (aT [] LE.ty true) [a0,.agg [.bool x1,.str s1],.agg [.bool x2,.str s2]]=some [a0,.agg [.bool x1,.str s1],.agg [.bool x2,.str s2]]:=by
  simp only[aW,pE i0 [],(show aT [] LE.ty true (.agg [.bool x1,.str s1])=some (.agg [.bool x1,.str s1]) from rfl),(show aT [] LE.ty true (.agg [.bool x2,.str s2])=some (.agg [.bool x2,.str s2]) from rfl)]
 unfold gM at hc
 rw[show LE.hspec 7=none by kernel_rfl,show LE.spec 7=none by kernel_rfl,show LE.fn 7=some (aA Tryz.f7) by kernel_rfl,show LE.mode 7=.fK by kernel_rfl]at hc
 simp only[hm]at hc
 unfold Ax.call
 rw[show LE.fn 7=some (aA Tryz.f7) by kernel_rfl]
 dsimp only
 cases he:enter LE (ev LE n) (aA Tryz.f7) [a0,.agg [.bool x1,.str s1],.agg [.bool x2,.str s2]] [] with
 |none=>rw[he]at hc;cases hc
 |some y=>
  rw[he]at hc
  dsimp only at hc ⊢
  cases hs:cG y.2 LE.ty false y.1 with
  |none=>rw[hs]at hc;cases hc
  |some z=>rw[hs]at hc;cases hc;rfl
end Go.Proofs.YtmhchflckonklaaGreatDoor
end
