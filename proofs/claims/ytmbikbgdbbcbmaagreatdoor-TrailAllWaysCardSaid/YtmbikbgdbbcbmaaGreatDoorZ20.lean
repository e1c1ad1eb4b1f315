/- Part 20 of the proof. -/
import Derived.Test.YtmbikbgdbbcbmaaGreatDoorY
import Derived.Test.YtmbikbgdbbcbmaaGreatDoorZ19
import Derived.Test.YtmbikbgdbbcbmaaGreatDoorZ3
import Derived.Test.YtmbikbgdbbcbmaaGreatDoorZ15
import Derived.KernelRfl
import Derived.Test.YtmbikbgdbbcbmaaGreatDoorZ18
import Derived.Test.YtmbikbgdbbcbmaaGreatDoorZ16
import Derived.Test.YtmbikbgdbbcbmaaGreatDoorZ17
import Derived.Test.YtmbikbgdbbcbmaaGreatDoorZ2
import Derived.Test.YtmbikbgdbbcbmaaGreatDoorZ14
set_option maxHeartbeats 8000000
set_option linter.unusedVariables false
set_option maxRecDepth 100000
open Nat renaming reduceEqDiff→δ,reduceLT→ε,reduceAdd→μ,reduceLeDiff→ω,reduceMul→ap
open Go.Ax.O renaming cells→ζ
open Go.Ax renaming cutAt→η,loadAt→ι,storeAt→Ξ,opsOf→Φ,setCells→ac,X→io,lookup→pj,entriesOf→bm
open Go.Proofs.Tryz renaming prog→κ,f38→ci,f7→dg
open Int renaming reduceNeg→φ
open Go.Proofs.YtmbikbgdbbcbmaaGreatDoor.Lb renaming bK→bv
open Go.Ax.V renaming bool→du
open Classical renaming choose→mv
open List renaming exists_mem_of_ne_nil→qw
open List (take_nil take_append)
section
namespace Go.Proofs.YtmbikbgdbbcbmaaGreatDoor
open Go Go.Ax Go.AxS
section
section
variable {E:Env}{Z:Sg}{K:V->Sg->Prop}
def manyN(m:Int):Nat:=(min (max m 0) 200).toNat
theorem Qz(m:Int):manyN m<=200:=by unfold manyN;omega
open Classical in
noncomputable def Fp (rs:List aD) (b y:aC):Bool:=decide (∃n,Rk (fE rs) (λx=>x∈[b]/\x∈c_ rs) n y)
open Classical in
theorem Ut{rs:List aD}{b:aC}{M:List (aC × Nat)}(dd:Ev rs [b] M):(λy=>(lG M y).isSome)=Fp rs b:=by
 funext y;unfold Fp;by_cases hy:∃n,Rk (fE rs) (λx=>x∈[b]/\x∈c_ rs) n y
 ·rw[BY hy];obtain⟨n,hn⟩:=hy;obtain⟨d,-,hd⟩:=Gj.some hn;rw[(dd.is y d).2 hd];rfl
 ·rw[AS hy];cases hd:lG M y with
  |none=>rfl
  |some d=>exact absurd ⟨d,((dd.is y d).1 hd).1⟩ hy
noncomputable def iY (rs:List aD) (a b:aC) (m:Int):List (List aC):=if a∈c_ rs then mC (Fp rs b) (bH rs) b (manyN m) 2001 [a] a [] else []
theorem Tp(m:Int):(if (200:Int)<(if m<0 then 0 else m) then (200:Int) else (if m<0 then 0 else m))=((manyN m:Nat):Int):=by
 unfold manyN;by_cases h1:m<0
 ·rw[az h1,an (by omega)];omega
 ·rw[an h1];by_cases h2:200<m
  ·rw[az h2];omega
  ·rw[an h2];omega
theorem p_r1(h:bG E)(h':mL E)(hl:bv E)(q:uM E)(tr:Bo E)(pt:JO E)(he:cG κ E)(hfs:f_ κ E)(hmix:Tryz.prog.follows .mixedOrders=true){g:V}{a b:aC}{m:Int}(F:FT)(g7:F.get 7=.ref 3 0){Q:io->Fr->Sg->Prop}(hk:∀F',(∀k,k≠12->k≠13->k≠14->F'.get k=F.get k)->Q .normal ⟨29,F'⟩ [.cells 27 [g] true,ζ 51 [.bool a.1,.str a.2] true,ζ 51 [.bool b.1,.str b.2] true,.cells 3 [.int .i64 ((manyN m:Nat):Int)] true]) :
  Ax.R E (η [1,0] (aA ci).code) [] ⟨29,F⟩ [.cells 27 [g] true,ζ 51 [.bool a.1,.str a.2] true,ζ 51 [.bool b.1,.str b.2] true,.cells 3 [.int .i64 m] true] Q:=by
 have hm:=Tp m
 have fin:∀v1 v2 v3,(∀k,k≠12->k≠13->k≠14->(FT.set (FT.set (FT.set F 12 v1) 13 v2) 14 v3).get k=F.get k):=λv1 v2 v3 k h1 h2 h3=>by
  rw[FT.bX,an h3,FT.bX,an h2,FT.bX,an h1]
 by_cases h1:m<0
 ·rw[az h1,an (by decide)]at hm;have e1:((200:Int)<0)=False:=by simp
  simp only[aA,ci,KP,ι,Ξ,↓reduceIte,δ,ε,η,h.mP,g7,iN,h1,e1];rw[hm];exact hk _ (fin _ _ _)
 ·rw[an h1]at hm;by_cases h2:200<m
  ·rw[az h2]at hm;simp only[aA,ci,KP,ι,Ξ,↓reduceIte,δ,ε,η,h.mP,g7,iN,h1,h2];rw[hm];exact hk _ (fin _ _ _)
  ·rw[an h2]at hm;simp only[aA,ci,KP,ι,Ξ,↓reduceIte,δ,ε,η,h.mP,g7,iN,h1,h2];rw[<- hm]at hk;exact hk _ (fin _ _ _)
theorem NF(h:bG E)(h':mL E)(hl:bv E)(q:uM E)(tr:Bo E)(pt:JO E)(he:cG κ E)(hfs:f_ κ E)(hmix:Tryz.prog.follows .mixedOrders=true){g:V}{rs:List aD}(hg:xD E rs g)(hf:Fits rs)(a b:aC)(m:Int):qZ κ E 38 [g,.agg [.bool a.1,.str a.2],.agg [.bool b.1,.str b.2],.int .i64 m] [] λu Y=>cQ Y E.ty false u=some (iB (iY rs a b m)):=by
 have hgk:g.aZ=true/\g.cells=[g]:=by
  obtain⟨es0,es1,get,A,L3,L4,rfl,hi⟩:=hg;exact⟨rfl,rfl⟩
 obtain⟨gk1,gk2⟩:=hgk;refine E_ he hfs pt.fn38 (DJ (by kernel_rfl)) ?_;generalize hQ:(λ(x:io) (fr:Fr) (Z:Sg)=>(x=.normal\/x=.ret)/\∃vs,Ax.results E fr Z (aA ci).results=some vs/\cQ Z E.ty false (match vs with | [v]=>v | vs=>V.fR vs)=some (iB (iY rs a b m)))=Q;show nF κ E (aA ci).code ⟨29,FT.fill .leaf 0 [g,.agg [.bool a.1,.str a.2],.agg [.bool b.1,.str b.2],.int .i64 m]⟩ [] Q;have f0:(FT.fill .leaf 0 [g,.agg [.bool a.1,.str a.2],.agg [.bool b.1,.str b.2],.int .i64 m]).get 0=g:=(by simp+decide only[GS]);have f1:(FT.fill .leaf 0 [g,.agg [.bool a.1,.str a.2],.agg [.bool b.1,.str b.2],.int .i64 m]).get 1=.agg [.bool a.1,.str a.2]:=(by simp+decide only[GS]);have f2:(FT.fill .leaf 0 [g,.agg [.bool a.1,.str a.2],.agg [.bool b.1,.str b.2],.int .i64 m]).get 2=.agg [.bool b.1,.str b.2]:=(by simp+decide only[GS]);have f3:(FT.fill .leaf 0 [g,.agg [.bool a.1,.str a.2],.agg [.bool b.1,.str b.2],.int .i64 m]).get 3=.int .i64 m:=(by simp+decide only[GS]);generalize FT.fill .leaf 0 [g,.agg [.bool a.1,.str a.2],.agg [.bool b.1,.str b.2],.int .i64 m]=F at f0 f1 f2 f3;rw[show (aA ci).code=.seq (η [0] (aA ci).code) (.seq (η [1,0] (aA ci).code) (.seq (η [1,1,0] (aA ci).code) (.seq (η [1,1,1,0] (aA ci).code) (.seq (η [1,1,1,1,0] (aA ci).code) (.seq (η [1,1,1,1,1,0] (aA ci).code) (.seq (.seq (η [1,1,1,1,1,1,0,0] (aA ci).code) (.cond (.tmp 23) (.region 7 (Φ (η [1,1,1,1,1,1,0,1,0] (aA ci).code)) false) .skip)) (η [1,1,1,1,1,1,1] (aA ci).code))))))) from rfl];have k1:=λF g7 Q hk=>p_r1 h h' hl q tr pt he hfs hmix (g:=g) (a:=a) (b:=b) (m:=m) F g7 (Q:=Q) hk;refine pS he hfs hmix ?_;generalize hN:Vz E _ Q=NX;simp only[aA,ci,KP,↓reduceIte,δ,ε,μ,h.bU,η,pt.EB,h.mP,f0,f1,f2,f3,gk1,gk2];rw[<- hN];refine⟨rfl,?_⟩;clear hN;refine pS he hfs hmix (k1 _ ?_ _ λF1 hF=>⟨rfl,?_⟩)
 ·simp+decide only[GS]
 have q4:F1.get 4=.ref 0 0:=(hF 4 (by omega) (by omega) (by omega)).trans (by simp+decide only[GS]);have q5:F1.get 5=.ref 1 0:=(hF 5 (by omega) (by omega) (by omega)).trans (by simp+decide only[GS]);have q6:F1.get 6=.ref 2 0:=(hF 6 (by omega) (by omega) (by omega)).trans (by simp+decide only[GS]);have q7:F1.get 7=.ref 3 0:=(hF 7 (by omega) (by omega) (by omega)).trans (by simp+decide only[GS]);clear hF f0 f1 f2 f3 k1 F;have sb:LS cN 51 [.cells 27 [g] true,ζ 51 [.bool a.1,.str a.2] true,ζ 51 [.bool b.1,.str b.2] true,.cells 3 [.int .i64 ((manyN m:Nat):Int)] true,ζ 51 [.bool b.1,.str b.2] true] (.sl 4 0 1 none) [b]:=.inr ⟨4,_,_,[row b],rfl,rfl,.one rfl,rfl⟩;refine pS he hfs hmix ?_;generalize hN:Vz E _ Q=NX;simp only[aA,ci,KP,ι,↓reduceIte,δ,ε,ω,μ,ap,h.fF,h.bU,η,pt.EB,q4,q6,fM];refine aK (BZ h h' hl q tr hg hf sb (by simp)) ?_;rintro v Y ⟨rfl,M,rfl,dd⟩;simp only[KP,Ξ,↓reduceIte,δ,ε,μ,tr.qT];rw[<- hN];refine⟨rfl,?_⟩;clear hN;refine pS he hfs hmix ?_;generalize hN:Vz E _ Q=NX;simp only[aA,ci,KP,↓reduceIte,ε,μ,η,pt.B6];rw[<- hN];refine⟨rfl,?_⟩;clear hN;refine pS he hfs hmix ?_;generalize hN:Vz E _ Q=NX;simp only[aA,ci,KP,↓reduceIte,ε,μ,η,pt.Lu];rw[<- hN];refine⟨rfl,?_⟩;clear hN;refine pS he hfs hmix ?_;generalize hN:Vz E _ Q=NX;simp only[aA,ci,KP,Ξ,↓reduceIte,δ,ε,η,pt.Lu,q4,q6,q7];rw[<- hN];refine⟨rfl,?_⟩;clear hN
 have fin:∀(z:io)(fr:Fr)(Y:Sg),(z=.normal/\∃F' w U,fr=⟨29,F'⟩/\F'.get 10=.ref 6 0/\Y[6]?=some (.cells 54 [w] true)/\JE Y w U (iY rs a b m))->nF κ E (η [1,1,1,1,1,1,1] (aA ci).code) fr Y Q:=by
  rintro z fr Y ⟨-,F',w,U,rfl,g10,h6,ho⟩;refine uF he hfs hmix ?_;simp only[aA,ci,KP,ι,↓reduceIte,ε,η,pt.B6,g10,h6];rw[<- hQ];refine⟨.inr rfl,[w],?_,PM hl ho⟩;simp only[aA,ci,KP,↓reduceIte,ε]
 generalize hFF:FT.set _ 19 _=F2;have p4:F2.get 4=.ref 0 0:=by rw[<- hFF];simp+decide only[GS,q4]
 have p5:F2.get 5=.ref 1 0:=by rw[<- hFF];simp+decide only[GS,q5]
 have p10:F2.get 10=.ref 6 0:=by rw[<- hFF];simp+decide only[GS]
 have p11:F2.get 11=.ref 7 0:=by rw[<- hFF];simp+decide only[GS]
 clear hFF q4 q5 q6 q7 F1;refine nX (λz fr Y=>z=.normal/\∃F' w U,fr=⟨29,F'⟩/\F'.get 10=.ref 6 0/\Y[6]?=some (.cells 54 [w] true)/\JE Y w U (iY rs a b m)) ?_ (λz fr Y hz hn=>absurd hz.1 hn) λfr Y hz=>fin _ _ _ hz;clear fin;generalize hQ2:(λ(z:io) (fr:Fr) (Y:Sg)=>z=.normal/\∃F' w U,fr=⟨29,F'⟩/\F'.get 10=.ref 6 0/\Y[6]?=some (.cells 54 [w] true)/\JE Y w U (iY rs a b m))=Q2;refine pS he hfs hmix ?_;generalize hN:Vz E _ Q2=NX;have kk:=λY=>dX λK=>Ht (Z:=Y) (K:=K) h h' hl q hg hf a;by_cases ha:a∈c_ rs
 ·have z1:decide (kindOf rs a=0)=false:=AS (G5 ha);simp only[aA,ci,KP,ι,↓reduceIte,δ,ε,μ,h.bU,η,pt.EB,p4,p5,kk,z1];rw[<- hN];refine⟨rfl,?_⟩;clear hN;have e:∀t v1 v2 v3 v4,t≠20->t≠21->t≠22->t≠23->(FT.set (FT.set (FT.set (FT.set F2 20 v1) 21 v2) 22 v3) 23 v4).get t=F2.get t:=λt v1 v2 v3 v4 h1 h2 h3 h4=>by rw[FT.bX,an h4,FT.bX,an h3,FT.bX,an h2,FT.bX,an h1]
  refine LY (by simp only[aS,Ax.Fr.vO,ε,bf,FT.bX]) (Kh ?_);generalize hFF:FT.set _ 23 _=F3;have r5:F3.get 5=.ref 1 0:=by rw[<- hFF,e _ _ _ _ _ (by omega) (by omega) (by omega) (by omega)];exact p5
  have r10:F3.get 10=.ref 6 0:=by rw[<- hFF,e _ _ _ _ _ (by omega) (by omega) (by omega) (by omega)];exact p10
  have r11:F3.get 11=.ref 7 0:=by rw[<- hFF,e _ _ _ _ _ (by omega) (by omega) (by omega) (by omega)];exact p11
  clear hFF e p4 p5 p10 p11 F2;rw[show List.range ((Φ (η [1,1,1,1,1,1,0,1,0] (aA ci).code))).size=[0,1,2,3] from by kernel_rfl];refine pT he hfs hmix (n:=0) (frz:=.no) (v:=(V.fn 106 [] [.ref 5 0,.ref 6 0,.ref 3 0,.ref 2 0,.ref 0 0,.ref 7 0])) (σ1:=[.cells 27 [g] true,ζ 51 [.bool a.1,.str a.2] true,ζ 51 [.bool b.1,.str b.2] true,.cells 3 [.int .i64 ((manyN m:Nat):Int)] true,ζ 51 [.bool b.1,.str b.2] true,.cells 131 [.imp false (M.map dV)] true,.cells 54 [.aG] true,.cells 136 [(V.fn 106 [] [.ref 5 0,.ref 6 0,.ref 3 0,.ref 2 0,.ref 0 0,.ref 7 0])] true]) (show ((Φ (η [1,1,1,1,1,1,0,1,0] (aA ci).code)))[0]?=some _ from rfl) rfl ?_ ?_
  ·simp only[aA,ci,KP,ι,↓reduceIte,ε,lP,aT,η,Φ,og,ni,pt.Lu,r11]
  refine pT he hfs hmix (n:=0) (frz:=.no) (v:=.agg [.bool a.1,.str a.2]) (σ1:=[.cells 27 [g] true,ζ 51 [.bool a.1,.str a.2] true,ζ 51 [.bool b.1,.str b.2] true,.cells 3 [.int .i64 ((manyN m:Nat):Int)] true,ζ 51 [.bool b.1,.str b.2] true,.cells 131 [.imp false (M.map dV)] true,.cells 54 [.aG] true,.cells 136 [(V.fn 106 [] [.ref 5 0,.ref 6 0,.ref 3 0,.ref 2 0,.ref 0 0,.ref 7 0])] true]) (show ((Φ (η [1,1,1,1,1,1,0,1,0] (aA ci).code)))[1]?=some _ from rfl) rfl ?_ ?_
  ·simp only[aA,ci,KP,ι,↓reduceIte,δ,ε,μ,h.bU,lP,aT,η,Φ,og,ni,po,cW,r5]
  refine pT he hfs hmix (n:=0) (frz:=.no) (v:=.sl 8 0 1 none) (σ1:=[.cells 27 [g] true,ζ 51 [.bool a.1,.str a.2] true,ζ 51 [.bool b.1,.str b.2] true,.cells 3 [.int .i64 ((manyN m:Nat):Int)] true,ζ 51 [.bool b.1,.str b.2] true,.cells 131 [.imp false (M.map dV)] true,.cells 54 [.aG] true,.cells 136 [(V.fn 106 [] [.ref 5 0,.ref 6 0,.ref 3 0,.ref 2 0,.ref 0 0,.ref 7 0])] true]++[ζ 51 [.bool a.1,.str a.2] true]) (show ((Φ (η [1,1,1,1,1,1,0,1,0] (aA ci).code)))[2]?=some _ from rfl) rfl ?_ ?_
  ·simp only[aA,ci,KP,↓reduceIte,ε,ω,μ,ap,h.fF,h.bU,lP,aT,η,Φ,og,ni,po,cW,fM,Fz.lits]
  have st:JA ([.cells 27 [g] true,ζ 51 [.bool a.1,.str a.2] true,ζ 51 [.bool b.1,.str b.2] true,.cells 3 [.int .i64 ((manyN m:Nat):Int)] true,ζ 51 [.bool b.1,.str b.2] true,.cells 131 [.imp false (M.map dV)] true,.cells 54 [.aG] true,.cells 136 [(V.fn 106 [] [.ref 5 0,.ref 6 0,.ref 3 0,.ref 2 0,.ref 0 0,.ref 7 0])] true]++[ζ 51 [.bool a.1,.str a.2] true]) M (manyN m) b g 8 [a] .aG (λ_=>False) []:=⟨⟨rfl,rfl,rfl,rfl,rfl⟩,rfl,⟨[],.inl ⟨rfl,rfl⟩,λb hb=>(by cases hb),.nil⟩,⟨_,_,rfl,rfl⟩,OF _,λhf=>hf,λk hk=>hk.elim⟩;have hc:=O2 (rs:=rs) (M:=M) (many:=manyN m) (b:=b) (g:=g) h h' hl q tr pt he hfs hmix hf hg (e8 (Qz m) (by omega)) 2001 a [a] _ 8 .aG (λ_=>False) [] (Nat.lt_succ_of_le (Ah rs a)) (by simp) rfl (by have:=Ah rs a;rw[dj];omega) (gv _) st;refine Fc (f:=.tmp 24) (args:=#[.tmp 26]) (l':=[.sl 8 0 1 none]) (first:=[]) (cap:=[.ref 5 0,.ref 6 0,.ref 3 0,.ref 2 0,.ref 0 0,.ref 7 0]) (show ((Φ (η [1,1,1,1,1,1,0,1,0] (aA ci).code)))[3]?=some _ from rfl) rfl rfl ?_ ?_ hc ?_
  ·simp only[aA,ci,KP,↓reduceIte,δ,ε,η,Φ,og,ni,po,cW]
  ·simp only[aA,ci,KP,↓reduceIte,ε,η,Φ,og,ni,po,cW]
  ·rintro v Y ⟨rfl,-,-,w,U,s,-⟩;refine C7 ?_;simp only[aA,ci,KP,↓reduceIte,ε,η,Φ,og,ni,po,cW];rw[<- hQ2];refine⟨rfl,_,w,U,rfl,(by simp+decide only[GS,r10]),s.b6,?_⟩;have:=s.ou;rw[Ut dd]at this;unfold iY;rw[az ha];exact this
 ·have z1:decide (kindOf rs a=0)=true:=BY (DD ha);simp only[aA,ci,KP,ι,↓reduceIte,δ,ε,μ,h.bU,η,pt.EB,p4,p5,kk,z1];rw[<- hN];refine⟨rfl,?_⟩;clear hN;refine Wv (by simp only[aS,Ax.Fr.vO,ε,bf,FT.bX]) (uF he hfs hmix ?_);rw[Kn,QA,<- hQ2];refine⟨rfl,_,.aG,λ_=>False,rfl,(by simp+decide only[GS,p10]),rfl,[],.inl ⟨rfl,rfl⟩,λb hb=>(by cases hb),?_⟩;unfold iY;rw[an ha];exact .nil
end
section
variable {E:Env}{Z:Sg}{K:V->Sg->Prop}
theorem Xx{E E':Env}(h:bG E)(h':bG E')(x y:V):dG E 9 x y=dG E' 9 x y:=by
 unfold dG;rw[h.dJ,h'.dJ]
theorem xD.env{E E':Env}(h:bG E)(h':bG E'){rs:List aD}{v:V}(hg:xD E rs v):xD E' rs v:=by
 obtain⟨es0,es1,get,A,L3,L4,e,hi⟩:=hg;refine⟨es0,es1,get,A,L3,L4,e,⟨hi.rules,⟨hi.sm.1,λk=>?_⟩,hi.sv,hi.Mj,hi.li,hi.nA,hi.n3,hi.n4,hi.k3,hi.k4⟩⟩;rw[<- hi.sm.2 k,show dG E' 9=dG E 9 from funext λx=>funext λy=>Xx h' h x y]
theorem xP.inj{v:V}{l m:List aC}(h1:xP v l)(h2:xP v m):l=m:=by
 have inj:∀(l m:List aC),l.map row=m.map row->l=m:=by
  intro l
  induction l with
  |nil=>intro m e;cases m with
   |nil=>rfl
   |cons y m=>cases e
  |cons x l ih=>intro m e;cases m with
   |nil=>cases e
   |cons y m=>
    rw[bj,bj]at e;injection e with e1 e2;unfold row at e1;injection e1 with e1 e3;injection e3 with e3 _;injection e1 with e1;injection e3 with e3;rw[ih m e2,Prod.ext e1 e3]
 rcases h1 with⟨rfl,rfl⟩ | ⟨f,rfl⟩
 ·rcases h2 with⟨-,rfl⟩ | ⟨f,e⟩
  ·rfl
  ·cases e
 ·rcases h2 with⟨e,-⟩ | ⟨f',e⟩
  ·cases e
  ·injection e with _ e _;exact inj _ _ e
theorem Ee{E:Env}{f:Nat}{args:List V}{Z:Sg}{P R:V->Sg->Prop}(h1:aB E f args Z P)(h2:aB E f args Z R):∃v Y,P v Y/\R v Y:=by
 obtain⟨n1,v1,τ1,p,c1⟩:=aB.up h1;obtain⟨n2,v2,τ2,r,c2⟩:=aB.up h2;have e:=(c1 (max n1 n2) (Nat.le_max_left ..)).symm.trans (c2 (max n1 n2) (qj ..));injection e with e;injection e with e1 e2;subst e1 e2;exact⟨v1,τ1,p,r⟩
section
variable (h:bG E)(h':mL E)(hl:bv E) (q:uM E) {g:V}{rs rs':List aD}(hg:xD E rs g)(hf:Fits rs)(hg':xD E rs' g)(hf':Fits rs')
include h h' hl q hg hf hg' hf'
theorem Rp(x:aC):bH rs x=bH rs' x:=by
 obtain⟨v,Y,⟨-,a⟩,-,b⟩:=Ee (vX (Z:=[]) h h' hl q hg hf x) (vX (Z:=[]) h h' hl q hg' hf' x);exact a.inj b
theorem Rn(x:aC):fE rs x=fE rs' x:=by
 obtain⟨v,Y,⟨-,a⟩,-,b⟩:=Ee (An (Z:=[]) h h' hl q hg hf x) (An (Z:=[]) h h' hl q hg' hf' x);exact a.inj b
theorem Xr:c_ rs=c_ rs':=by
 obtain⟨v,Y,⟨-,a⟩,-,b⟩:=Ee (RU (Z:=[]) h h' hl q hg hf) (RU (Z:=[]) h h' hl q hg' hf');exact a.inj b
theorem Ro(a b:aC)(m:Int):iY rs a b m=iY rs' a b m:=by
 have e1:bH rs=bH rs':=funext (Rp h h' hl q hg hf hg' hf');have e2:fE rs=fE rs':=funext (Rn h h' hl q hg hf hg' hf');have e3:=Xr h h' hl q hg hf hg' hf'
 have e4:Fp rs b=Fp rs' b:=by
  funext y;unfold Fp;rw[e2,e3]
 unfold iY;rw[e1,e3,e4]
end
def JD(vs:List V)(p:List aD × aC × aC × Int):Prop:=∃g E,vs=[g,.agg [.bool p.2.1.1,.str p.2.1.2],.agg [.bool p.2.2.1.1,.str p.2.2.1.2],.int .i64 p.2.2.2]/\bG E/\xD E p.1 g/\Fits p.1
open Classical in
noncomputable def nL (vs:List V):Option V:=if h:∃p,JD vs p then some (iB (iY (mv h).1 (mv h).2.1 (mv h).2.2.1 (mv h).2.2.2)) else none
theorem GB(h:bG E)(h':mL E)(hl:bv E)(q:uM E){g:V}{rs:List aD}(hg:xD E rs g)(hf:Fits rs)(a b:aC)(m:Int):nL [g,.agg [.bool a.1,.str a.2],.agg [.bool b.1,.str b.2],.int .i64 m]=some (iB (iY rs a b m)):=by
 have hx:∃p,JD [g,.agg [.bool a.1,.str a.2],.agg [.bool b.1,.str b.2],.int .i64 m] p:=⟨(rs,a,b,m),g,E,rfl,h,hg,hf⟩;unfold nL;rw[dif_pos hx];have hp:=Classical.choose_spec hx;generalize mv hx=p at hp;obtain⟨rs',a',b',m'⟩:=p;obtain⟨g',E',e,r',hg',hf'⟩:=hp;dsimp only at e hg' hf' ⊢;injection e with e1 e;injection e with e2 e;injection e with e3 e;injection e with e4 e;subst e1
 have lab:∀{x y:aC},V.agg [.bool x.1,.str x.2]=V.agg [.bool y.1,.str y.2]->x=y:=λ{x y} e=>by
  injection e with e;injection e with e1 e;injection e with e2 e;injection e1 with e1;injection e2 with e2;exact Prod.ext e1 e2
 obtain rfl:=lab e2;obtain rfl:=lab e3;injection e4 with _ e4;subst e4;rw[Ro h h' hl q hg hf (hg'.env r' h) hf']
theorem GA(h:bG E)(h':mL E)(hl:bv E)(q:uM E)(tr:Bo E)(pt:JO E)(he:cG κ E)(hfs:f_ κ E)(hmix:Tryz.prog.follows .mixedOrders=true):fJ κ E 38 nL:=by
 refine HT λvs v hv=>?_;unfold nL at hv;split at hv
 case isFalse=>cases hv
 rename_i hx;cases hv;generalize mv hx=p,Classical.choose_spec hx=hp;obtain⟨rs',a',b',m'⟩:=p;obtain⟨g',E',e,r',hg',hf'⟩:=hp;dsimp only at e hg' hf' ⊢;subst e;exact NF h h' hl q tr pt he hfs hmix (hg'.env r' h) hf' a' b' m'
structure PsE (E:Env):Prop where
 abb:E.hspec 38=none
 YD:E.spec 38=some nL
theorem EU(l:List (List aC)):Ax.bE (iB l)=true:=by
 unfold iB;split <;> rfl
theorem Ke(l:List (List aC)):cQ [] E.ty false (iB l)=some (iB l):=by
 have hi:=EU l;have ht:cI false (iB l)=true:=by unfold iB;split <;> rfl
 have e:cQ [] E.ty false (iB l)=aR [] E.ty false (iB l):=by unfold iB;split <;> rfl
 rw[e];exact bZ hi ht
theorem UU(h:bG E)(h':mL E)(hl:bv E)(q:uM E)(ps:PsE E){g:V}{rs:List aD}(hg:xD E rs g)(hf:Fits rs)(a b:aC)(m:Int):aB E 38 [g,.agg [.bool a.1,.str a.2],.agg [.bool b.1,.str b.2],.int .i64 m] Z K=K (iB (iY rs a b m)) Z:=by
 have e1:=bZ (Z:=Z) (ty:=E.ty) hg.bE (bJ hg.bE);have e2:∀x:aC,aR Z E.ty true (.agg [.bool x.1,.str x.2])=some (.agg [.bool x.1,.str x.2]):=λx=>rfl;exact qR (args':=[g,.agg [.bool a.1,.str a.2],.agg [.bool b.1,.str b.2],.int .i64 m]) ps.abb ps.YD (by simp only[aW,e1,e2,show aR Z E.ty true (.int .i64 m)=some (.int .i64 m) from rfl]) (GB h h' hl q hg hf a b m) (Ke _)
end
end
end Go.Proofs.YtmbikbgdbbcbmaaGreatDoor
namespace Go.Proofs.YtmbikbgdbbcbmaaGreatDoor
open Go Go.Ax
noncomputable def Yz:BT (List V->Option V):=(.node 185 (.node 159 (.leaf 11 (bM t11)) (.leaf 159 oF)) (.node 267 (.leaf 185 kR) (.node 308 (.leaf 267 jP) (.leaf 308 wE))))
noncomputable def Vd:Env:=ground.env Yz
noncomputable def spL:BT (List V->Option V):=(.node 185 (.node 38 (.leaf 11 (bM t11)) (.node 159 (.leaf 38 nL) (.leaf 159 oF))) (.node 267 (.leaf 185 kR) (.node 308 (.leaf 267 jP) (.leaf 308 wE))))
noncomputable def LE:Env:=ground.env spL
end Go.Proofs.YtmbikbgdbbcbmaaGreatDoor
namespace Go.Proofs.YtmbikbgdbbcbmaaGreatDoor.Lb
open Go Go.Ax Go.AxS
section
def TV(Z:Sg)(v:V)(ks:List aC):Prop:=ks.Nodup/\((∃b m,v=.ref b 0/\cF Z b m ks)\/∃g g',v=.cR g [.imp g' (gU ks)])
def IV(v:V)(ks:List aC):Prop:=ks.Nodup/\∃g g',v=.cR g [.imp g' (gU ks)]
def Small(ks:List aC):Prop:=ks.length<=3000/\∀k∈ks,k.2.length<=9223372036854775807
section
variable {E:Env}{Z:Sg}{K:V->Sg->Prop}
theorem IV.tv{v:V}{ks:List aC}(h:IV v ks)(Z:Sg):TV Z v ks:=⟨h.1,.inr h.2⟩
theorem Ck{v:V}{ks:List aC}(hv:TV Z v ks):∃v',aR Z E.ty true v=some v'/\IV v' ks:=by
 obtain⟨hn,⟨b,m,rfl,hs⟩ | ⟨g,g',rfl⟩⟩:=hv
 ·exact⟨_,PL hs,hn,_,_,rfl⟩
 ·exact⟨_,rfl,hn,_,_,rfl⟩
theorem Nj{b m:Nat}{ks:List aC}(hs:cF Z b m ks):cQ Z E.ty false (.ref b 0)=some (.cR false [.imp false (gU ks)]):=by
 have e1:bA Z E.ty false 11 (.mp m)=some (.imp false (gU ks)):=by
  rw[bA];simp only[hs.map];rw[zW (gU ks)];intro e he;obtain⟨k,_,rfl⟩:=cv.1 he;rfl
 have e2:bA Z E.ty false 12 (.ref b 0)=some (.cR false [.imp false (gU ks)]):=by
  rw[bA];simp only[hs.obj,ez]
  show (match aW (λv=>match bA Z E.ty false 11 v with
   |some v=>if cI false v then some v else no "snap: borrowed"
   |none=>none) [V.mp m] with
   |some l=>some (V.cR false l)
   |none=>none)=_
  simp only[aW,e1];rfl
 show (match bA Z E.ty false 12 (.ref b 0) with
  |some v=>if cI false v then some v else no "snap: borrowed"
  |none=>none)=_
 rw[e2];rfl
theorem QJ(h:bK E)(g g':Bool)(es:List (V × V)):loadAt E Z 88 (.cR g [.imp g' es])=some (.imp g' es):=by
 unfold loadAt;rw[h.q_];rfl
theorem xT{ks:List aC}(hn:ks.Nodup)(hlen:ks.length<=1000000)(hstr:∀k∈ks,k.2.length<=9223372036854775807){j:Nat}{g:Bool}(hj:Z[j]?=some (.cells 88 [.imp g (gU ks)] true)) :
  kM 51 [154] [] 118 [.fn 154 [] [.ref j 0],.fn 118 [] []] Z=some (if ks=[] then (.aG,Z) else (.sl Z.length 0 ks.length none,Z++[.cells 51 ((setOf ks).flatMap row) false])):=by
 have hk:keysOf Z [154] [] (.fn 154 [] [.ref j 0])=some (ks.map row):=by
  unfold keysOf;simp only[hj];exact b8 some (AL ks)
 show n_ 51 [154] [] kK qE (.fn 154 [] [.ref j 0]) Z=_;unfold n_;rw[hk];cases hks:ks with
 |nil=>rfl
 |cons k r=>
  have ha:=uA ks hstr;have hs:=AF hn;rw[hks]at ha hs hlen;rw[bj]at ha hs ⊢;rw[an (by simp)]
  show (match allRows kK (row k::r.map row),Nat.ble (row k::r.map row).length 1000000 with
   |true,true=>some (V.sl Z.length 0 (row k::r.map row).length none,Z++[ζ 51 (lA qE (row k::r.map row)).flatten false])
   |_,_=>none)=_
  rw[ha,jz (by simpa using hlen),hs,DT];simp
theorem Hu(h:bK E){g:Bool}{es:List (V × V)}:aB E 117 [.imp g es] Z K=K (.fn 154 [] [.ref Z.length 0]) (Z++[.cells 88 [.imp g es] true]):=by
 refine aB.of ?_;rw[cJ h.Rf h.PG h.Rx h.Qt,aU (by kernel_rfl)];simp only[aA,Tryz.f117,KP,↓reduceIte,δ,ε,h.q_]
theorem T0(h:bK E){g:Bool}{es:List (V × V)}{ops:Array Oper}{l:List Oper}{dst:Option Nat}{st:List iT}{Q:io->Fr->Sg->Prop}{fr:Fr}:Au E 117 [.imp g es] Z dst fr ops l st Q=dP E ops l (some (cW fr dst (.fn 154 [] [.ref Z.length 0]),Z++[.cells 88 [.imp g es] true])) st Q:=oK λ_=>Hu h
theorem En(h:bK E){v:V}{ks:List aC}(hv:IV v ks)(hsm:Small ks):aB E 65 [v] Z λr σ'=>Own Z σ' r (setOf ks)/\lF Z σ':=by
 obtain⟨hn,g,g',rfl⟩:=hv;rw[cJ h.Xm h.VV h.Xs h.WS,aU (by kernel_rfl)];simp only[aA,Tryz.f65,KP,↓reduceIte,ε,reduceCtorEq,h.q_,h.oW,h.CL,QJ h,mM,T0 h]
 have hj:(Z++[ζ 88 [.imp g' (gU ks)] true])[Z.length]?=some (.cells 88 [.imp g' (gU ks)] true):=by
  rw[bg (OF _),j9];rfl
 have hsk:=xT hn (by have:=hsm.1;omega) hsm.2 hj;unfold Au;rw[mO h.Rh,hsk];by_cases hks:ks=[]
 ·rw[az hks,Ab];simp only[KP,↓reduceIte,ε];subst hks;exact⟨.inl ⟨rfl,rfl⟩,lF.app _ _⟩
 ·rw[an hks,Ab];simp only[KP,↓reduceIte,ε];refine⟨.inr ⟨_,?_,by rw[oZ hn],?_⟩,λj o e=>gR (gR e _) _⟩
  ·rw[By];omega
  ·rw[bg (OF _),j9];rfl
theorem XV(h:bK E){v:V}{ks:List aC}(hv:IV v ks)(hsm:Small ks):aB E 114 [v] Z λr σ'=>Own Z σ' r (setOf ks)/\lF Z σ':=by
 have hv0:=hv;obtain⟨hn,g,g',rfl⟩:=hv;rw[cJ h.abS h.Zi h.acQ h.aaR,aU (by kernel_rfl)];simp only[aA,Tryz.f114,KP,↓reduceIte,ε,reduceCtorEq,h.qP,h.oW,h.uQ,mM];refine aK (En h hv0 hsm) ?_;rintro r σ' ⟨h1,h2⟩;simp only[KP,↓reduceIte,ε];exact⟨h1,h2⟩
structure UnionI (E:Env):Prop where
 hs:E.hspec 61=none
 sp:E.spec 61=none
 fn:E.fn 61=some (aA Tryz.f61)
 md:E.mode 61=.eW
theorem Mp(h:bK E)(a:Bool)(s:List Nat)(ex:Bool)(Y:Sg):loadAt E (.cells 51 [.bool a,.str s] ex::Y) 51 (.ref 0 0)=some (.agg [.bool a,.str s]):=by
 unfold loadAt;rw[h.bU];rfl
theorem X1(h:bK E){v:V}{ks:List aC}(hv:TV Z v ks)(x:aC):aB E 63 [v,.agg [.bool x.1,.str x.2]] Z K=K (.bool (decide (x∈ks))) Z:=by
 refine aB.of ?_;obtain⟨a,e1,hn,g,g',rfl⟩:=Ck (E:=E) hv;have e2:aR Z E.ty true (.agg [.bool x.1,.str x.2])=some (.agg [.bool x.1,.str x.2]):=rfl;have d1:=h.Vs;simp only[aA,Tryz.f63,η,ay]at d1;rw[aH h.aba h.YC h.ab7 h.aae (args':=[.cR g [.imp g' (gU ks)],.agg [.bool x.1,.str x.2]]) (by simp only[aW,e1,e2]),aU (by kernel_rfl)];by_cases hx:x∈ks
 ·simp only[aA,Tryz.f63,KP,↓reduceIte,δ,ε,μ,reduceCtorEq,h.Ex,h.bU,h.q_,h.oW,h.CL,mM,aX d1,bS,pj,jU h,bm,tG h,hx,ι];exact rfl
 ·simp only[aA,Tryz.f63,KP,↓reduceIte,δ,ε,μ,reduceCtorEq,h.Ex,h.bU,h.q_,h.oW,h.CL,mM,aX d1,bS,pj,jU h,bm,tG h,hx,ι];exact rfl
theorem adv(h:bK E){v:V}{ks:List aC}(hv:TV Z v ks)(x:aC):aB E 135 [v,.agg [.bool x.1,.str x.2]] Z K=K (.bool (decide (x∈ks))) Z:=by
 refine aB.of ?_;obtain⟨a,e1,hn,g,g',rfl⟩:=Ck (E:=E) hv;have e2:aR Z E.ty true (.agg [.bool x.1,.str x.2])=some (.agg [.bool x.1,.str x.2]):=rfl;have d1:=h.XI;simp only[aA,Tryz.f135,η,ay]at d1;rw[aH h.abK h.Za h.acI h.aaJ (args':=[.cR g [.imp g' (gU ks)],.agg [.bool x.1,.str x.2]]) (by simp only[aW,e1,e2]),aU (by kernel_rfl)];simp only[aA,Tryz.f135,KP,↓reduceIte,δ,ε,μ,reduceCtorEq,h.bU,h.qP,h.oW,h.uQ,mM,aX d1,bS,Mp h];have q:=λK=>X1 (Z:=[ζ 51 [.bool x.1,.str x.2] true]) (K:=K) h (v:=.cR g [.imp g' (gU ks)]) ⟨hn,.inr ⟨g,g',rfl⟩⟩ x;rw[oK q];simp only[KP,↓reduceIte,δ,ε];exact rfl
theorem MX(h:bK E){c sv:V}{g0:Bool}{ks:List aC}(hc:aR Z E.ty true c=some (.cR g0 [sv]))(hs:IV sv ks)(x:aC):aB E 134 [.agg [.bool x.1,.str x.2],c] Z K=K (.bool (!decide (x∈ks))) Z:=by
 refine aB.of ?_;have e2:aR Z E.ty true (.agg [.bool x.1,.str x.2])=some (.agg [.bool x.1,.str x.2]):=rfl
 have lp:∀Y,loadAt E Y 84 (.cR g0 [sv])=some sv:=λY=>by
  unfold loadAt;rw[h.qP];rfl
 rw[aH h.abL h.Zb h.acJ h.aaK (args':=[.agg [.bool x.1,.str x.2],.cR g0 [sv]]) (by simp only[aW,hc,e2]),aU (by kernel_rfl)];simp only[aA,Tryz.f134,KP,↓reduceIte,δ,ε,μ,reduceCtorEq,h.bU,lp,Mp h];have q:=λK=>adv (Z:=[ζ 51 [.bool x.1,.str x.2] true]) (K:=K) h (hs.tv _) x;rw[oK q];simp only[KP,↓reduceIte,ε];exact rfl
def idx(p:aC->Bool):List aC->Nat->Int
 | [],_=>-1
 |x::l,k=>if p x=true then (k:Int) else idx p l (k+1)
theorem Ra(p:aC->Bool)(l:List aC)(i:Nat)(x:aC)(hx:l[i]?=some x):idx p (l.drop i) i=if p x=true then (i:Int) else idx p (l.drop (i+1)) (i+1):=by
 have hi:=(AI.1 hx).1;rw[jv hi,idx];have:l[i]=x:=(AI.1 hx).2;rw[this]
theorem Lh(h:bK E){f:Nat}{first cap:List V}{p:aC->Bool}(hp:∀(x:aC)(K:V->Sg->Prop),aB E f (first++[.agg [.bool x.1,.str x.2]]++cap) [] K=K (.bool (p x)) [])
  {a:V}{l:List aC}(ha:LV a l)(hsm:l.length<=1000000000000){s:List iT}{Q:io->Fr->Sg->Prop}
  (hN:idx p l 0 = -1->∀F',M E s .normal ⟨19,F'⟩ [] Q)(hR:∀(i:Nat)(F':FT),idx p l 0=(i:Int)->F'.get 4=.int .i64 (i:Int)->M E s .ret ⟨19,F'⟩ [] Q) :
  ∀(k i:Nat)(F:FT),i+k=l.length->idx p l 0=idx p (l.drop i) i->F.get 0=a->F.get 1=.fn f first cap->F.get 7=.int .i64 (l.length:Int)->F.get 8=.int .i64 (i:Int)->R E (.loop (η [1,0,1,2,2] (aA Tryz.f102).code)) (.blk 0::s) ⟨19,F⟩ [] Q:=by
 intro k
 induction k with
 |zero=>
  intro i F hi hd g0 g1 g7 g8;have hlt:decide ((i:Int)<(l.length:Int))=false:=AS (by omega);rw[aF];simp only[aA,Tryz.f102,KP,↓reduceIte,ε,φ,η,g7,g8,hlt];refine hN ?_ _;rw[hd,ju (by omega)];rfl
 |succ k ih=>
  intro i F hi hd g0 g1 g7 g8;have hlt:decide ((i:Int)<(l.length:Int))=true:=BY (by omega);obtain⟨x,hx⟩:∃x,l[i]?=some x:=⟨_,AT (by omega)⟩;obtain⟨pa,e1,e2⟩:=MR h (ha.sv []) hx;have e2:=e2 [] (dY.refl []);have hadd:=yR i (by omega);rw[Ra p l i x hx]at hd;rw[aF];simp only[aA,Tryz.f102,KP,↓reduceIte,δ,ε,reduceCtorEq,φ,η,g0,g1,g7,g8,hlt,e1,e2];rw[oK (hp x)];cases hpx:p x with
  |true=>
   rw[az hpx]at hd;simp only[KP,↓reduceIte,δ,ε];refine hR i _ hd ?_;simp only[FT.bX,↓reduceIte]
  |false=>
   rw[an (by rw[hpx];simp)]at hd;simp only[KP,↓reduceIte,δ,ε,g8,hadd];refine ih (i+1) _ (by omega) hd ?_ ?_ ?_ ?_ <;> simp only[FT.bX,g0,g1,g7,↓reduceIte,δ,reduceCtorEq]
theorem MY(h:bK E){f:Nat}{first cap first' cap':List V}{p:aC->Bool}(hs:aR Z E.ty true (.fn f first cap)=some (.fn f first' cap'))
  (hp:∀(x:aC)(K:V->Sg->Prop),aB E f (first'++[.agg [.bool x.1,.str x.2]]++cap') [] K=K (.bool (p x)) []){v:V}{l:List aC}(hv:SV Z v l)(hsm:l.length<=1000000000000) :
  aB E 102 [v,.fn f first cap] Z K=K (.int .i64 (idx p l 0)) Z:=by
 refine aB.of ?_;obtain⟨a,e1,ha⟩:=S8 h hv;rw[aH h.Rj h.PI h.Ry h.Qu (args':=[a,.fn f first' cap']) (by simp only[aW,e1,hs]),aU (by kernel_rfl)];have la:lenOf E [] 23 a=some l.length:=QS h (ha.sv []);simp only[aA,Tryz.f102,KP,↓reduceIte,ε,μ,reduceCtorEq,φ,la];refine Lh h hp ha hsm (λe F'=>?_) (λi F' e g4=>?_) l.length 0 _ (by omega) rfl ?_ ?_ ?_ ?_
 ·simp only[KP,↓reduceIte,ε,φ];rw[e];exact rfl
 ·simp only[KP,↓reduceIte,ε,φ,g4];rw[e];exact rfl
 all_goals simp only[FT.bX,KP,↓reduceIte,δ,reduceCtorEq]
 all_goals rfl
theorem FI(h:bK E){j n i:Nat}(hi:i<n):indexAddr E 23 (.sl j 0 n none) (.int .i64 (i:Int))=some (.ref j (i*2)):=by
 unfold indexAddr;simp only[h.fF,h.bU,dx];rw[an (by omega),az hi,dc]
theorem QH(h:bK E){j o:Nat}{cs:List V}{ex:Bool}{x:aC}(hj:Z[j]?=some (.cells 51 cs ex))(ho:o+2<=cs.length)(hx:(cs.drop o).take 2=row x):loadAt E Z 51 (.ref j o)=some (.agg [.bool x.1,.str x.2]):=by
 unfold loadAt;simp only[h.bU,hj];rw[show Ax.isAgg (Kd.jL [(0,4),(1,9)])=true from rfl];simp only[bf];rw[az ho,hx];rfl
theorem AB(h:bK E){j o:Nat}{cs:List V}{ex:Bool}(hj:Z[j]?=some (.cells 51 cs ex))(ho:o+2<=cs.length)(a:Bool)(s:List Nat):storeAt E Z 51 (.ref j o) (.agg [.bool a,.str s])=some (Z.set j (.cells 51 (ac cs o [.bool a,.str s]) ex)):=by
 unfold storeAt;simp only[h.bU,hj];refine(az ?_).trans rfl;rw[BY ho];rfl
structure Del (Z σ':Sg) (j n:Nat) (l:List aC) (p:aC->Bool) (i jj:Nat) (cs:List V):Prop where
 at_:σ'[j]?=some (.cells 51 cs false)
 len:cs.length=n*2
 lt:i<jj
 le:jj<=n
 cnt:((l.take jj).filter λx=>!p x).length=i
 left:cs.take (i*2)=((l.take jj).filter λx=>!p x).flatMap row
 right:cs.drop (jj*2)=(l.drop jj).flatMap row
 kp:∀j' o,j'≠j->Z[j']?=some o->σ'[j']?=some o
theorem JF(h:bK E){f:Nat}{first cap:List V}{p:aC->Bool}{j:Nat}{l:List aC}(hsm:l.length<=1000000000000)
  (hp:∀(σ':Sg)(x:aC)(K:V->Sg->Prop),(∀j' o,j'≠j->Z[j']?=some o->σ'[j']?=some o)->aB E f (first++[.agg [.bool x.1,.str x.2]]++cap) σ' K=K (.bool (p x)) σ')
  {s:List iT}{Q:io->Fr->Sg->Prop}(hQ:∀(F':FT)(σ':Sg)(i:Nat)(cs:List V),Del Z σ' j l.length l p i l.length cs->F'.get 0=.sl j 0 l.length none->F'.get 5=.int .i64 (i:Int)->M E s .normal ⟨42,F'⟩ σ' Q) :
  ∀(k jj:Nat)(F:FT)(σ':Sg)(i:Nat)(cs:List V),jj+k=l.length->Del Z σ' j l.length l p i jj cs->F.get 0=.sl j 0 l.length none->F.get 1=.fn f first cap->F.get 5=.int .i64 (i:Int)->F.get 6=.int .i64 (jj:Int) ->
   R E (.loop (η [1,1,1,0,1,2,2] (aA Tryz.f133).code)) (.blk 0::s) ⟨42,F⟩ σ' Q:=by
 have la:∀Z,lenOf E Z 23 (.sl j 0 l.length none)=some l.length:=λZ=>by
  unfold lenOf;rw[h.fF]
 intro k
 induction k with
 |zero=>
  intro jj F σ' i cs hi hd g0 g1 g5 g6;have e:jj=l.length:=by omega
  subst e;have hlt:decide ((l.length:Int)<(l.length:Int))=false:=AS (by omega);rw[aF];simp only[aA,Tryz.f133,KP,↓reduceIte,δ,ε,reduceCtorEq,φ,η,g0,g6,la,hlt];refine hQ _ _ i cs hd ?_ ?_ <;> simp only[FT.bX,g0,g5,↓reduceIte,δ,reduceCtorEq]
 |succ k ih=>
  intro jj F σ' i cs hi hd g0 g1 g5 g6;have hlt:decide ((jj:Int)<(l.length:Int))=true:=BY (by omega);obtain⟨x,hx⟩:∃x,l[jj]?=some x:=⟨_,AT (by omega)⟩;have hjl:=(AI.1 hd.at_).1;have hlen:=hd.len;have hij:=hd.lt;have e1:=FI h (j:=j) (show jj<l.length by omega);have e2:=QH h (o:=jj*2) (x:=x) hd.at_ (by omega) (by rw[hd.right];have:=Hg l jj x hx;rw[jv (AI.1 hx).1,fg,(AI.1 hx).2];rfl);have hadd:=yR jj (by omega);have haddi:=yR i (by omega);have kp1:∀j' o,j'≠j->Z[j']?=some o->(σ'++[ζ 51 [.bool x.1,.str x.2] true])[j']?=some o:=λj' o hj' e=>gR (hd.kp j' o hj' e) _;have t1:l.take (jj+1)=l.take jj++[x]:=by rw[dz,hx];rfl
  have dr:cs.drop ((jj+1)*2)=(l.drop (jj+1)).flatMap row:=by
   rw[show (jj+1)*2=jj*2+2 by omega,<- List.drop_drop,hd.right,jv (AI.1 hx).1,fg];rfl
  rw[aF];simp only[aA,Tryz.f133,KP,↓reduceIte,δ,ε,reduceCtorEq,φ,h.bU,η,g0,g1,g6,la,hlt,e1,e2,E1 h,Dx h];rw[oK (λK=>hp _ x K kp1)];cases hpx:p x with
  |true=>
   simp only[KP,↓reduceIte,δ,ε,g6,hadd];refine ih (jj+1) _ _ i cs (by omega) ⟨gR hd.at_ _,hd.len,by omega,by omega,?_,?_,dr,kp1⟩ ?_ ?_ ?_ ?_
   ·rw[t1,nu,By,hd.cnt];simp[hpx]
   ·rw[t1,nu,hd.left];simp[hpx]
   all_goals simp only[FT.bX,g0,g1,g5,↓reduceIte,δ,reduceCtorEq]
  |false=>
   have e3:=FI h (j:=j) (show i<l.length by omega);have hat1:(σ'++[ζ 51 [.bool x.1,.str x.2] true])[j]?=some (.cells 51 cs false):=gR hd.at_ _;have e4:=AB h (o:=i*2) hat1 (by omega) x.1 x.2;simp only[KP,↓reduceIte,δ,ε,μ,reduceCtorEq,g0,g5,g6,hadd,haddi,e3,e4,Dx h];have el:(cs.take (i*2)).length=i*2:=by rw[bl];omega
   have en:(ac cs (i*2) [du x.1,.str x.2]).length=l.length*2:=by
    unfold ac;simp only[By,bl,nj,IT,aq];omega
   refine ih (jj+1) _ _ (i+1) (ac cs (i*2) [du x.1,.str x.2]) (by omega) ⟨?_,en,by omega,by omega,?_,?_,?_,?_⟩ ?_ ?_ ?_ ?_
   ·rw[br (by rw[By];omega)];rfl
   ·rw[t1,nu,By,hd.cnt];simp[hpx]
   ·rw[t1,nu,List.flatMap_append,<- hd.left];unfold ac;rw[je (by simp only[By,el,IT,aq];omega),ah (by simp only[By,el,IT,aq];omega)];simp[hpx,row]
   ·rw[<- dr];unfold ac;rw[List.drop_append,ju (by simp only[By,el,IT,aq];omega),cz,List.drop_drop];congr 1;simp only[By,el,IT,aq];omega
   ·intro j' o hj' e;rw[aa (λh=>hj' h.symm)];exact kp1 j' o hj' e
   all_goals simp only[FT.bX,g0,g1,↓reduceIte,δ,reduceCtorEq]
end
theorem FL(p:aC->Bool):∀(l:List aC)(k:Nat),(idx p l k = -1/\∀y∈l,p y=false)\/∃a x b,l=a++x::b/\idx p l k=((k+a.length:Nat):Int)/\p x=true/\∀y∈a,p y=false
 | [],k=>.inl ⟨rfl,λ_ h=>nomatch h⟩
 |x::l,k=>by
  cases hx:p x with
  |true=>exact .inr ⟨[],x,l,rfl,by rw[idx,az hx];rfl,hx,λ_ h=>nomatch h⟩
  |false=>
   rw[idx,an (by rw[hx];exact Bool.false_ne_true)];rcases FL p l (k+1) with⟨h1,h2⟩ | ⟨a,y,b,rfl,h1,h2,h3⟩
   ·refine .inl ⟨h1,λy hy=>?_⟩;rcases IN.1 hy with rfl | hy
    ·exact hx
    ·exact h2 y hy
   ·refine .inr ⟨x::a,y,b,rfl,by rw[h1,IT];congr 1;omega,h2,λz hz=>?_⟩;rcases IN.1 hz with rfl | hz
    ·exact hx
    ·exact h3 z hz
theorem F5{p:aC->Bool}{l:List aC}(h:∀y∈l,p y=false):(l.filter λx=>!p x)=l:=my.2 λy hy=>by rw[h y hy];rfl
theorem FX:∀(l:List aC)(k:Nat),(l.flatMap row).take (k*2)=(l.take k).flatMap row
 | [],k=>by rw[take_nil];exact take_nil
 |x::l,0=>rfl
 |x::l,k+1=>by
  rw[show (k+1)*2=k*2+1+1 by omega,oo,fg,fg,<- FX l k];rfl
theorem F0:∀(l:List aC)(k:Nat),(l.flatMap row).drop (k*2)=(l.drop k).flatMap row
 | [],k=>by rw[mc];exact mc
 |x::l,0=>rfl
 |x::l,k+1=>by
  rw[show (k+1)*2=k*2+1+1 by omega,mz,fg,<- F0 l k];rfl
theorem BD(a b:V):∀n,(gG n [a,b]).length=n*2
 |0=>rfl
 |n+1=>by
  show ([a,b]++gG n [a,b]).length=_;rw[By,BD a b n];show 2+n*2=_;omega
section
variable {E:Env}{Z:Sg}{K:V->Sg->Prop}
theorem PS(h:bK E){j n i:Nat}{cs:List V}(hj:Z[j]?=some (.cells 51 cs false))(hl:cs.length=n*2)(hi:i<n):slice E Z 23 (.sl j 0 n none) (some (.int .i64 (i:Int))) none none=some (.sl j (i*2) (n-i) none):=by
 unfold slice;have t:yW cs.length 0 2 none=n:=by unfold yW;show (cs.length-0) / 2=n;omega
 have b1:bound n none n=some n:=rfl
 have b2:bound n (some (.int .i64 (i:Int))) 0=some i:=by
  show (if decide ((0:Int)<=(i:Int))&&decide ((i:Int)<=(n:Int)) then some (i:Int).toNat else none)=some i;rw[BY (by omega),BY (by omega)];rfl
 simp only[h.fF,h.bU,hj,ja,l8,t,b1,b2,dc,qi,dm,ai,b9,δ];rw[az (by omega)]
theorem PT(h:bK E){j n i:Nat}{cs:List V}(hj:Z[j]?=some (.cells 51 cs false))(hl:cs.length=n*2)(hi:i<n):slice E Z 23 (.sl j 0 n none) none (some (.int .i64 (i:Int))) none=some (.sl j 0 i none):=by
 unfold slice;have t:yW cs.length 0 2 none=n:=by unfold yW;show (cs.length-0) / 2=n;omega
 have b1:bound i none 0=some 0:=rfl
 have b2:bound n (some (.int .i64 (i:Int))) n=some i:=by
  show (if decide ((0:Int)<=(i:Int))&&decide ((i:Int)<=(n:Int)) then some (i:Int).toNat else none)=some i;rw[BY (by omega),BY (by omega)];rfl
 simp only[h.fF,h.bU,hj,ja,l8,t,b1,b2,dc,gz,qi,dm,ai,b9,δ,qg];rw[az (by omega)]
theorem RZ(h:bK E){f:Nat}{first cap first' cap':List V}{p:aC->Bool}(hs:aR Z E.ty true (.fn f first cap)=some (.fn f first' cap'))
  (hp1:∀(x:aC)(K:V->Sg->Prop),aB E f (first'++[.agg [.bool x.1,.str x.2]]++cap') [] K=K (.bool (p x)) []){v:V}{l:List aC}{σ0:Sg}(hv:Own σ0 Z v l)(hsm:l.length<=1000000000000)
  (hp:∀(σ':Sg)(x:aC)(K:V->Sg->Prop),(∀j' o,j'<σ0.length->Z[j']?=some o->σ'[j']?=some o)->aB E f (first++[.agg [.bool x.1,.str x.2]]++cap) σ' K=K (.bool (p x)) σ') :
  aB E 133 [v,.fn f first cap] Z λr σ'=>SV σ' r (l.filter λx=>!p x)/\∀j' o,j'<σ0.length->Z[j']?=some o->σ'[j']?=some o:=by
 rw[cJ h.abM h.Zc h.acK h.aaL,aU (by kernel_rfl)];rcases FL p l 0 with⟨hi,hall⟩ | ⟨a,x,b,hl,hi,hx,ha⟩
 ·simp only[aA,Tryz.f133,KP,↓reduceIte,δ,ε,μ,reduceCtorEq,φ];rw[oK λK=>MY h hs hp1 hv.sv hsm];simp only[KP,↓reduceIte,ε,reduceCtorEq,φ,hi];rw[F5 hall];exact⟨hv.sv,λ_ _ _ e=>e⟩
 ·rcases hv with⟨-,hl2⟩ | ⟨j,hj0,rfl,hj⟩
  ·rw[hl2]at hl;cases a <;> cases hl
  have hlen:l.length=a.length+1+b.length:=by rw[hl,By,IT];omega
  have hv:SV Z (.sl j 0 l.length none) l:=.inr (.inr ⟨j,_,_,rfl,hj,ah (by rw[kN];exact OF _)⟩);simp only[aA,Tryz.f133,KP,↓reduceIte,δ,ε,μ,reduceCtorEq,φ];rw[oK λK=>MY h hs hp1 hv hsm];rw[dc]at hi;have hne:((a.length:Int) = -1)=False:=eq_false (by omega);have hadd:=yR a.length (by omega);have t1:l.take (a.length+1)=a++[x]:=by rw[hl,take_append,ah (by omega),show a.length+1-a.length=1 by omega];rfl
  have t2:l.take a.length=a:=by rw[hl,take_append,ah (by omega),j9,jq,gy]
  have ff:((l.take (a.length+1)).filter λy=>!p y)=a:=by
   rw[t1,nu,F5 ha];simp[hx]
  have ne:∀j' o,j'≠j->Z[j']?=some o->Z[j']?=some o:=λ_ _ _ e=>e;simp only[KP,↓reduceIte,δ,ε,φ,hi,hne,hadd];refine JF h (p:=p) (j:=j) (l:=l) hsm (λσ' y K k=>hp σ' y K λj' o hj' e=>k j' o (by omega) e) (λF' σ' i cs hd g0 g5=>?_) (l.length-(a.length+1)) (a.length+1) _ Z a.length (l.flatMap row) (by omega) ⟨hj,kN l,by omega,by omega,by rw[ff],by rw[ff,FX,t2],F0 _ _,ne⟩ ?_ ?_ ?_ ?_
  ·have cl:=hd.len;have il:=hd.lt;have hjl:=(AI.1 hd.at_).1;have s1:=PS h hd.at_ cl il;obtain⟨cc,hcc⟩:∃c,List.take (i*2) cs++gG (l.length-i) [du false,.str []]++List.drop (i*2+(gG (l.length-i) [du false,.str []]).length) cs=c:=⟨_,rfl⟩
   have en:cc.length=l.length*2:=by
    rw[<- hcc];simp only[By,bl,nj,BD];omega
   have s2:=PT (i:=i) (n:=l.length) h (Z:=σ'.set j (.cells 51 cc false)) (br hjl) en il;have c1:(l.length-i=0)=False:=eq_false (by omega);have c2:decide (i*2+(l.length-i)*2<=cs.length)=true:=BY (by omega);have at1:=hd.at_;simp only[KP,↓reduceIte,δ,ε,reduceCtorEq,h.bU,h.fF,g0,g5,s1,s2,c1,c2,at1,hcc];refine⟨.inr (.inr ⟨j,_,_,?_,br hjl,?_⟩),λj' o hj' e=>?_⟩
   ·have:=hd.cnt;rw[List.take_length]at this;rw[this]
   ·have:=hd.cnt;have hlft:=hd.left;rw[List.take_length]at this hlft;rw[this,<- hlft];rw[<- hcc,cw,je (by rw[bl];omega),ah (by rw[bl];omega)]
   ·rw[aa (by omega)];exact hd.kp j' o (by omega) e
  all_goals simp only[FT.bX,↓reduceIte,δ,reduceCtorEq]
  all_goals rfl
theorem uU{b:Nat}{w:V}{ks:List aC}{ex:Bool}(hw:IV w ks)(hb:Z[b]?=some (.cells 84 [w] ex)):aR Z E.ty true (.ref b 0)=some (.cR true [w]):=by
 obtain⟨hn,g,g',rfl⟩:=hw
 have e2:bA Z E.ty true 12 (.ref b 0)=some (.cR true [.cR g [.imp g' (gU ks)]]):=by
  rw[bA];simp only[hb];rfl
 show (match bA Z E.ty true 12 (.ref b 0) with
  |some v=>if cI true v then some v else no "snap: borrowed"
  |none=>none)=_
 rw[e2];rfl
theorem Nl{f b:Nat}{w:V}{ks:List aC}{ex:Bool}(hw:IV w ks)(hb:Z[b]?=some (.cells 84 [w] ex)):aR Z E.ty true (.fn f [] [.ref b 0])=some (.fn f [] [.cR true [w]]):=by
 have e:=uU (E:=E) hw hb;have e':aR.one Z E.ty true (.ref b 0)=some (.cR true [w]):=e;unfold aR;simp only[aW,e']
theorem XX(h:bK E){v w:V}{ks ks2:List aC}(hv:TV Z v ks)(hw:TV Z w ks2)(sm:Small ks) :
  aB E 105 [v,w] Z λr σ'=>σ'=Z/\IV r (keys [] ((setOf ks).filter λx=>decide (x∈ks2))):=by
 obtain⟨a,e1,ha⟩:=Ck (E:=E) hv;obtain⟨b,e2,hb⟩:=Ck (E:=E) hw;rw[aH h.abX h.Zn h.acW h.aaW (args':=[a,b]) (by simp only[aW,e1,e2]),aU (by kernel_rfl)];have cb:b.cells=[b]:=by obtain⟨_,_,_,rfl⟩:=hb;rfl
 have ob:V.aZ b=true:=by obtain⟨_,_,_,rfl⟩:=hb;rfl
 simp only[aA,Tryz.f105,KP,↓reduceIte,ε,μ,reduceCtorEq,h.qP,cb,ob];refine aK (XV h ha sm) ?_;have hlen1:(setOf ks).length=ks.length:=oZ ha.1;have:=sm.1;rintro r1 σ1 ⟨o1,k1⟩;simp only[KP,↓reduceIte,δ,ε];have b0:σ1[0]?=some (.cells 84 [b] true):=k1 0 _ rfl
 have q:=RZ h (f:=134) (first:=[]) (cap:=[.ref 0 0]) (p:=λx=>!decide (x∈ks2)) (Nl hb b0) (λx K=>MX h (show aR [] E.ty true (.cR true [b])=some (.cR true [b]) by obtain⟨_,_,_,rfl⟩:=hb;rfl) hb x) o1 (by omega)
  (λσ' x K k=>MX h (uU hb (k 0 _ (by show 0<1;omega) b0)) hb x)
 refine aK q ?_;rintro r2 σ2 ⟨s2,-⟩;simp only[KP,↓reduceIte,ε]
 have ef:((setOf ks).filter λx=>!(!decide (x∈ks2)))=(setOf ks).filter λx=>decide (x∈ks2):=by
  congr 1;funext x;exact Bool.not_not _
 rw[ef]at s2;have hl:=List.length_filter_le (λx=>decide (x∈ks2)) (setOf ks);refine aK (Em h s2 (by omega)) ?_;rintro r3 σ3 ⟨m3,rfl,s3,-,-⟩;simp only[KP,↓reduceIte,ε];rw[Nj s3];exact⟨s3.nodup,_,_,rfl⟩
end
end
end Go.Proofs.YtmbikbgdbbcbmaaGreatDoor.Lb
namespace Go.Proofs.YtmbikbgdbbcbmaaGreatDoor
open Go Go.Ax Go.AxS
section
section
variable {E:Env}{Z:Sg}{K:V->Sg->Prop}
section
variable {nx:aC->List aC}{s0:aC->Prop}
theorem L7{x:aC}:EO nx s0 (-1) x ↔ ∃n,Rk nx s0 n x:=by
 unfold EO;constructor
 ·rintro (⟨-,h⟩ | ⟨h,-⟩)
  ·exact h
  ·omega
 ·exact λh=>.inl ⟨by omega,h⟩
end
end
structure TaE (E:Env):Prop where
 hs36:E.hspec 36=none
 sp36:E.spec 36=none
 fn36:E.fn 36=some (aA Tryz.f36)
 md36:E.mode 36=.eW
section
variable {E:Env}{Z:Sg}{K:V->Sg->Prop}
def OnL(rs:List aD)(fr tto l:List aC):Prop:=Up l/\(∀x,x∈l->x∈c_ rs)/\∀x,x∈l ↔ (∃n,Rk (bH rs) (λx=>x∈fr/\x∈c_ rs) n x)/\∃n,Rk (fE rs) (λx=>x∈tto/\x∈c_ rs) n x
theorem XR(h:bG E)(h':mL E)(hl:bv E)(q:uM E)(rc:Sq E)(ta:TaE E){g:V}{rs:List aD}(hg:xD E rs g)(hf:Fits rs){a b:V}{fr tto:List aC}(ha:LS cN 51 Z a fr)(hb:LS cN 51 Z b tto)(hfr:fr.length<=1000000)(hto:tto.length<=1000000) :
  aB E 36 [g,a,b] Z λv σ'=>σ'=Z/\∃l,xP v l/\OnL rs fr tto l:=by
 obtain⟨a',ea,ia⟩:=iJ h ha;obtain⟨b',eb,ib⟩:=iJ h hb;have e1:=bZ (Z:=Z) (ty:=E.ty) hg.bE (bJ hg.bE);have hal:=kP hf;rw[aH ta.hs36 ta.sp36 ta.fn36 ta.md36 (args':=[g,a',b']) (by simp only[aW,e1,ea,eb]),aU (by kernel_rfl)];simp only[aA,Tryz.f36,KP,↓reduceIte,δ,ε,μ,reduceCtorEq,φ];refine aK (X6 h h' hl q rc hg hf (bC:=-1) (by decide) (by decide) (ia.ls _ 51) hfr) ?_;rintro v σ' ⟨rfl,l1,hv1,hup1,hsub1,hr1⟩;rw[show (if (-1:Int) < -1 then (-1:Int) else -1) = -1 from rfl]at hr1;have hl1:=e8 (eO hup1.nodup hsub1) hal;simp only[KP,↓reduceIte,ε,φ];refine aK (Lb.Em hl (hv1.lv.sv _) (by omega)) ?_;rintro r σ1 ⟨m1,rfl,hs1,-,ka1⟩;simp only[KP,↓reduceIte,δ,ε,reduceCtorEq,φ];refine aK (UT h h' hl q rc hg hf (ib.ls _ 51) hto) ?_;rintro v2 σ2 ⟨rfl,l2,hv2,hup2,hsub2,hr2⟩;have hl2:=e8 (eO hup2.nodup hsub2) hal;simp only[KP,↓reduceIte,ε,φ];refine aK (Lb.Em hl (hv2.lv.sv _) (by omega)) ?_;rintro r2 σ3 ⟨m2,rfl,hs2,-,ka2⟩;have hs1':=hs1.kY ka2;have t1:Lb.TV σ3 (.ref ([]:Sg).length 0) (keys [] l1):=⟨hs1.nodup,.inl ⟨_,m1,rfl,hs1'⟩⟩;have t2:Lb.TV σ3 (.ref σ2.length 0) (keys [] l2):=⟨hs2.nodup,.inl ⟨_,m2,rfl,hs2⟩⟩;have k1:=mF (xs:=l1) (l:=[]);rw[aq,dc]at k1;have m1:∀x,x∈keys [] l1 ↔ x∈l1:=λx=>by rw[mem_keys];simp
 have m2:∀x,x∈keys [] l2 ↔ x∈l2:=λx=>by rw[mem_keys];simp
 have str:∀x,x∈l1->x.2.length<=9223372036854775807:=λx hx=>by have:=mD (hf.lab (hsub1 x hx));omega
 simp only[KP,↓reduceIte,δ,ε,φ];refine aK (Lb.XX hl t1 t2 ⟨by omega,λx hx=>str x ((m1 x).1 hx)⟩) ?_;rintro r3 σ4 ⟨rfl,hn,g1,g2,rfl⟩;simp only[KP,↓reduceIte,ε,reduceCtorEq,φ,hl.oW,hl.uQ]
 have hmem:∀x,x∈keys [] ((setOf (keys [] l1)).filter λx=>decide (x∈keys [] l2)) ↔ x∈l1/\x∈l2:=λx=>by
  rw[mem_keys,mu,eP,m1,decide_eq_true_iff,m2];simp
 have hlen:=eO hn λx hx=>((hmem x).1 hx).1;refine aK (En hl h hn ⟨by omega,λx hx=>str x ((hmem x).1 hx).1⟩) ?_;rintro r4 σ5 ho;obtain⟨v',hv,hlv⟩:=nW hl ho;simp only[KP,↓reduceIte,ε,φ,hv];refine⟨_,hlv,lI _,λx hx=>hsub1 x ((hmem x).1 (eP.1 hx)).1,λx=>?_⟩;rw[eP,hmem,hr1,hr2,L7,L7]
end
end
structure RgE (E:Env):Prop where
 ty70:E.ty 70=some { kd:=.jL [(0,22),(1,23),(2,68)],size:=3,bytes:=72,zero:=.agg [.aG,.aG,.aG] }
 ty29:E.ty 29=some { kd:=.ptr 70,size:=1,bytes:=8,zero:=.fV }
 hs76:E.hspec 76=none
 sp76:E.spec 76=none
 fn76:E.fn 76=some (aA Tryz.f76)
 md76:E.mode 76=.eW
 d76_4:aN E (η [1,1,0,1,0,0] (aA Tryz.f76).code)=true
 d76_6:aN E (η [1,1,1,1,0] (aA Tryz.f76).code)=true
 hs14:E.hspec 14=none
 S0:E.spec 14=none
 fn14:E.fn 14=some (aA Tryz.f14)
 md14:E.mode 14=.eW
 z14_5:fP E (Φ (η [1,1,0,1,2,2,1,0,2,0] (aA Tryz.f14).code))=.no
 p14_5:cK E .no (Φ (η [1,1,0,1,2,2,1,0,2,0] (aA Tryz.f14).code))=some [⟨4,9,false,true⟩,  ⟨4,10,false,true⟩]
 d14_6:aN E (η [1,1,0,1,2,2,1,0,2,1,0] (aA Tryz.f14).code)=true
 z14_7:fP E (Φ (η [1,1,0,1,2,2,1,0,2,1,1,0] (aA Tryz.f14).code))=.no
 p14_7:cK E .no (Φ (η [1,1,0,1,2,2,1,0,2,1,1,0] (aA Tryz.f14).code))=some [⟨5,10,true,false⟩]
 z14_15:fP E (Φ (η [1,1,1,0,1,2,2,1,0,2,0] (aA Tryz.f14).code))=.no
 p14_15:cK E .no (Φ (η [1,1,1,0,1,2,2,1,0,2,0] (aA Tryz.f14).code))=some [⟨4,10,false,true⟩,  ⟨4,11,false,true⟩]
 d14_19:aN E (η [1,1,1,0,1,2,2,1,0,2,1,1,2,2,1,0,2] (aA Tryz.f14).code)=true
 hs18:E.hspec 18=none
 SX:E.spec 18=none
 fn18:E.fn 18=some (aA Tryz.f18)
 md18:E.mode 18=.eW
 d18_5:aN E (η [1,1,0,1,2,2,1,0,2,0] (aA Tryz.f18).code)=true
 hs41:E.hspec 41=none
 sp41:E.spec 41=none
 fn41:E.fn 41=some (aA Tryz.f41)
 md41:E.mode 41=.eW
 d41_4:aN E (η [1,0,1,2,2,1,0,2,0] (aA Tryz.f41).code)=true
 d41_5:aN E (η [1,0,1,2,2,1,0,2,1,0] (aA Tryz.f41).code)=true
end Go.Proofs.YtmbikbgdbbcbmaaGreatDoor
namespace Go.Proofs.YtmbikbgdbbcbmaaGreatDoor.Lb
open Go Go.Ax Go.AxS
def pos:List aC->aC->Nat
 | [],_=>0
 |y::r,x=>if lt y x=true then pos r x+1 else 0
theorem SC(x:aC):rL (sO 11) (row x) (row x)=true:=by
 show ((x.1==x.1)&&(Ax.seq x.2 x.2&&true))=true;rw[(kT x.2 x.2).2 rfl];simp
theorem Lr(a:Bool)(s:List Nat):sO 12 (.agg [.bool a,.str s]) (.agg [.bool a,.str s])=true:=SC (a,s)
end Go.Proofs.YtmbikbgdbbcbmaaGreatDoor.Lb
namespace Go.Proofs.YtmbikbgdbbcbmaaGreatDoor
open Go Go.Ax Go.AxS
section
section
variable {E:Env}{Z:Sg}{K:V->Sg->Prop}
def Vc(t:Nat)(Z:Sg)(w:V)(R:List (List V)):Prop:=(w=.aG/\R=[])\/∃b ex,w=.sl b 0 R.length none/\Z[b]?=some (.cells t R.flatten ex)
theorem Vc.keep{t:Nat}{Z σ':Sg}{w:V}{R:List (List V)}(h:Vc t Z w R)(k:∀c o,aO w=some c->Z[c]?=some o->σ'[c]?=some o):Vc t σ' w R:=by
 rcases h with h | ⟨b,ex,rfl,hb⟩
 ·exact .inl h
 ·exact .inr ⟨b,ex,rfl,k b _ rfl hb⟩
def Yd(Y:Sg)(r:List V)(x:aD):Prop:=∃a b c w,r=[.str x.name,a,b,c,w]/\kQ aP a x.ins/\kQ aP b x.outs/\kQ aP c x.after/\aY gK 82 Y w x.steps
def RlO(Y:Sg)(w:V)(rs:List aD):Prop:=∃R,Vc 46 Y w R/\eL (Yd Y) R rs
theorem Kj{Y τ':Sg}{R:List (List V)}{rs:List aD}(h2:eL (Yd Y) R rs)(k:∀(c:Nat)(cs:List V)(ex:Bool),Y[c]?=some (.cells 82 cs ex)->τ'[c]?=some (.cells 82 cs ex)):eL (Yd τ') R rs:=by
 induction h2 with
 |nil=>exact .nil
 |cons p _ ih=>
  obtain⟨a,b,c,u,e,i1,i2,i3,ow⟩:=p;refine .cons ⟨a,b,c,u,e,i1,i2,i3,?_⟩ ih;rcases ow with h0 | ⟨d,q,ex,rfl,hb,ha⟩
  ·exact .inl h0
  ·exact .inr ⟨d,q,ex,rfl,k _ _ _ hb,ha⟩
theorem RlO.keep{Y τ':Sg}{w:V}{rs:List aD}(h:RlO Y w rs)(k:∀(c:Nat)(cs:List V)(ex:Bool)(t:Nat),t=46\/t=82->Y[c]?=some (.cells t cs ex)->τ'[c]?=some (.cells t cs ex)):RlO τ' w rs:=by
 obtain⟨R,h1,h2⟩:=h;refine⟨R,?_,?_⟩
 ·rcases h1 with h1 | ⟨b,ex,rfl,hb⟩
  ·exact .inl h1
  ·exact .inr ⟨b,ex,rfl,k _ _ _ _ (.inl rfl) hb⟩
 ·exact Kj h2 λc cs ex e=>k c cs ex _ (.inr rfl) e
def nd(rs:List aD)(i k:Nat):Bool:=match (c_ rs)[i]?,(c_ rs)[k]? with
 |some x,some y=>decide (y∈bH rs x)
 |_,_=>false
def RgV(rs:List aD)(v:V):Prop:=∃rv lv nv,v=.cR false [rv,lv,nv]/\kQ nM rv rs/\xP lv (c_ rs)/\kQ uX nv (JN (c_ rs).length (nd rs))
def VA(rs:List aD)(v:List Bool)(P:aC->Prop):Prop:=v.length=(c_ rs).length/\∀(k:Nat)(x:aC)(b:Bool),(c_ rs)[k]?=some x->v[k]?=some b->(b=true ↔ P x)
theorem VA.congr{rs:List aD}{v:List Bool}{P Q:aC->Prop}(h:VA rs v P)(e:∀x,x∈c_ rs->(P x ↔ Q x)):VA rs v Q:=⟨h.1,λk x b hx hb=>(h.2 k x b hx hb).trans (e x (ag hx))⟩
theorem VA.at{rs:List aD}{v:List Bool}{P:aC->Prop}(h:VA rs v P){k:Nat}{x:aC}(hx:(c_ rs)[k]?=some x):∃b,v[k]?=some b/\(b=true ↔ P x):=by
 have hk:=(AI.1 hx).1;have hv:v[k]?=some (v[k]'(by rw[h.1];exact hk)):=AT _;exact⟨_,hv,h.2 k x _ hx hv⟩
theorem VA.set{rs:List aD}{v:List Bool}{P Q:aC->Prop}(h:VA rs v P){k:Nat}{x:aC}{c:Bool}(hx:(c_ rs)[k]?=some x)(hc:c=true ↔ Q x)(e:∀y,y∈c_ rs->y≠x->(P y ↔ Q y)):VA rs (v.set k c) Q:=by
 refine⟨by rw[dy];exact h.1,λj y b hy hb=>?_⟩;have hk:=(AI.1 hx).1;by_cases hjk:k=j
 ·subst hjk;rw[br (by rw[h.1];exact hk)]at hb;cases hb;rw[hx]at hy;cases hy;exact hc
 ·rw[aa hjk]at hb;refine(h.2 j y b hy hb).trans (e y (ag hy) λe2=>hjk ?_);subst e2;have hnd:=(M1 rs).nodup;obtain⟨h1,e1⟩:=AI.1 hx;obtain⟨h2,e2⟩:=AI.1 hy;exact(List.getElem_inj hnd).1 (e1.trans e2.symm)
theorem RgV.bE{rs:List aD}{v:V}(hg:RgV rs v):Ax.bE v=true:=by
 obtain⟨rv,lv,nv,rfl,-⟩:=hg;rfl
theorem Ub{l:List aC}{x:aC}(hx:x∈l):∃k,bR (λy=>decide (y=x)) l=some k/\l[k]?=some x:=by
 obtain⟨k,hk⟩:=mG (p:=λy:aC=>decide (y=x)) hx (BY rfl);obtain⟨x',h1,h2⟩:=gM hk;rw[er h2]at h1;exact⟨k,hk,h1⟩
theorem Kk{rs:List aD}{a:aC}:∀(n:Nat) {b:aC},Rk (bH rs) (λx=>x∈[a]/\x∈c_ rs) n b->∃w,Way rs w/\w[0]?=some a/\w[w.length-1]?=some b/\w.length<=n+1
 |0,b,⟨h1,h2⟩=>by
  obtain rfl:=cj.1 h1
  exact⟨[b],⟨by simp,λx hx=>by rw[cj.1 hx];exact h2,λi y x hy hx=>by
   have:=(AI.1 hx).1;rw[dj]at this;omega⟩,rfl,rfl,OF _⟩
 |n+1,b,.inl h=>by
  obtain⟨w,h1,h2,h3,h4⟩:=Kk n h;exact⟨w,h1,h2,h3,by omega⟩
 |n+1,b,.inr ⟨y,hy,hb⟩=>by
  obtain⟨w,h1,h2,h3,h4⟩:=Kk n hy;have hl:=ej.2 h1.ne
  have hwb:Way rs [y,b]:=⟨by simp,λx hx=>by
   rcases IN.1 hx with rfl | hx
   ·exact h1.all _ (ag h3)
   ·rw[cj.1 hx];exact vG y b hb,λi u x hu hx=>by
   have:=(AI.1 hx).1;have hi0:i=0:=by simp only[IT,aq]at this;omega
   subst hi0;cases hu;cases hx;exact hb⟩
  refine⟨w++[b],h1.join hwb h3 rfl,by rw[au hl];exact h2,?_,by rw[By,dj];omega⟩;rw[By,dj,o6,bg (OF _),j9];rfl
theorem O5{rs:List aD}{a:aC}{w:List aC}(h:Way rs w)(ha:w[0]?=some a):∀(i:Nat) {x:aC},w[i]?=some x->Rk (bH rs) (λx=>x∈[a]/\x∈c_ rs) i x
 |0,x,hx=>by rw[ha]at hx;cases hx;exact⟨cj.2 rfl,h.all _ (ag ha)⟩
 |i+1,x,hx=>by
  obtain⟨y,hy⟩:∃y,w[i]?=some y:=⟨_,AT (by have:=(AI.1 hx).1;omega)⟩;exact .inr ⟨y,O5 h ha i hy,h.nx i y x hy hx⟩
def pN(ok:aC->Bool)(nx:aC->List aC)(b:aC):Nat->aC->List (List aC)
 |0,_=>[]
 |d+1,x=>if ok x=false then [] else if x=b then [[x]] else (nx x).flatMap λy=>(pN ok nx b d y).map (x :: ·)
theorem FQ{α:Type}{g:aC->List α}{M:Nat}:∀(l:List aC)(out:List α),out.length<=M->l.foldl (λout y=>out++(g y).take (M-out.length)) out=out++(l.flatMap g).take (M-out.length)
 | [],out,_=>by simp
 |y::l,out,h=>by
  rw[jh,FQ l _ (by rw[By,bl];omega),fg,cw,take_append,By,bl];congr 3;omega
theorem EV{rs:List aD}(hf:Fits rs){ok:aC->Bool}{b:aC}{many:Nat}:∀(d:Nat)(p:List aC)(x:aC)(out:List (List aC)),deep rs x<d->out.length<=many->mC ok (bH rs) b many d (p++[x]) x out=out++((pN ok (bH rs) b d x).map (p ++ ·)).take (many-out.length)
 |0,_,_,_,h,_=>by omega
 |d+1,p,x,out,hd,hout=>by
  unfold mC pN;by_cases hge:many<=out.length
  ·rw[az (.inr hge),show many-out.length=0 by omega,jq,gy]
  ·cases hok:ok x with
   |false=>
    rw[az (.inl rfl),az rfl];simp
   |true=>
    have hn:¬ (true=false\/many<=out.length):=λh=>h.elim (λe=>by cases e) hge;rw[an hn,an (show ¬ (true=false) by decide)];by_cases hxb:x=b
    ·rw[az hxb,az hxb];simp only[bj,List.map_nil];rw[ah (by rw[dj];omega)]
    ·rw[an hxb,an hxb]
     have e:∀(l:List aC),(∀y∈l,y∈bH rs x)->∀out:List (List aC),out.length<=many->l.foldl (λout y=>mC ok (bH rs) b many d (p++[x]++[y]) y out) out=l.foldl (λout y=>out++((pN ok (bH rs) b d y).map ((p++[x]) ++ ·)).take (many-out.length)) out:=by
      intro l
      induction l with
      |nil=>intro _ out _;rfl
      |cons y l ih=>
       intro hl out ho;have hdy:=Hl hf (hl y (No ..));rw[jh,jh,EV hf d (p++[x]) y out (by omega) ho];exact ih (λz hz=>hl z (ae _ hz)) _ (by rw[By,bl];omega)
     rw[e _ (λy hy=>hy) out hout,FQ (g:=λy=>(pN ok (bH rs) b d y).map ((p++[x]) ++ ·)) _ _ hout];congr 2;rw[List.map_flatMap];congr 1;funext y;rw[js];congr 1;funext z;simp
theorem Kt{rs:List aD}(hf:Fits rs){a b:aC}{m:Int}(ha:a∈c_ rs):iY rs a b m=(pN (Fp rs b) (bH rs) b 2001 a).take (manyN m):=by
 unfold iY;rw[az ha];have h:=EV hf (ok:=Fp rs b) (b:=b) (many:=manyN m) 2001 [] a [] (Nat.lt_succ_of_le (Ah rs a)) (gv _);rw[cz]at h;rw[h,cz,aq,qg];congr 1;simp
section
variable {rs:List aD}{b:aC}
theorem WR{x y:aC}:x∈fE rs y ↔ y∈bH rs x:=by rw[wM,nN]
open Classical in
theorem GP{y:aC}:Fp rs b y=true ↔ ∃n,Rk (fE rs) (λx=>x∈[b]/\x∈c_ rs) n y:=by
 unfold Fp;exact decide_eq_true_iff
theorem Mc{x:aC}(h:Fp rs b x=true):x=b/\b∈c_ rs\/∃y,y∈bH rs x/\Fp rs b y=true:=by
 obtain⟨n,hn⟩:=GP.1 h
 induction n with
 |zero=>exact .inl ⟨cj.1 hn.1,by have:=cj.1 hn.1;rw[<- this];exact hn.2⟩
 |succ n ih=>
  rcases hn with hn | ⟨y,hy,hxy⟩
  ·exact ih hn
  ·exact .inr ⟨y,WR.1 hxy,GP.2 ⟨n,hy⟩⟩
theorem WM{x:aC}(h:Fp rs b x=true):x∈c_ rs:=by
 rcases Mc h with⟨rfl,hb⟩ | ⟨y,hy,-⟩
 ·exact hb
 ·exact A1 hy
theorem CE:∀(d:Nat) {x:aC}{p:List aC},p∈pN (Fp rs b) (bH rs) b d x->Way rs p/\p[0]?=some x/\p[p.length-1]?=some b
 |0,_,_,h=>by cases h
 |d+1,x,p,h=>by
  unfold pN at h;split at h
  ·cases h
  ·rename_i hok
   have hok:Fp rs b x=true:=by cases ho:Fp rs b x with
    |true=>rfl
    |false=>exact absurd ho hok
   split at h
   ·rename_i hxb;rw[cj.1 h];exact⟨.one (WM hok),rfl,by rw[hxb];rfl⟩
   ·obtain⟨y,hy,hp⟩:=ij.1 h;obtain⟨r,hr,rfl⟩:=cv.1 hp;obtain⟨h1,h2,h3⟩:=CE d hr;have hl:=ej.2 h1.ne;refine⟨h1.cons (A1 hy) h2 hy,rfl,?_⟩;rw[IT,o6];rw[show r.length=(r.length-1)+1 by omega,cm];exact h3
theorem Ay(hf:Fits rs):∀(d:Nat) {x:aC},deep rs x<d->Fp rs b x=true->pN (Fp rs b) (bH rs) b d x≠[]
 |0,_,h,_=>by omega
 |d+1,x,hd,hok=>by
  unfold pN;rw[hok,an (show ¬ (true=false) by decide)];split
  ·simp
  ·rename_i hxb;rcases Mc hok with⟨e,-⟩ | ⟨y,hy,hoy⟩
   ·exact absurd e hxb
   ·intro he;have hdy:=Hl hf hy;obtain⟨p,hp⟩:=qw _ (Ay hf d (by omega) hoy);have:x::p∈(bH rs x).flatMap λy=>(pN (Fp rs b) (bH rs) b d y).map (x :: ·):=ij.2 ⟨y,hy,cv.2 ⟨p,hp,rfl⟩⟩;rw[he]at this;cases this
end
def yN:List aC->List aC->Bool
 | [],[]=>false
 | [],_::_=>true
 |_::_,[]=>false
 |x::p,y::r=>if x=y then yN p r else lt x y
theorem Es(x:aC)(p r:List aC):yN (x::p) (x::r)=yN p r:=by rw[yN,az rfl]
theorem CF{rs:List aD}(ok:aC->Bool)(b:aC):∀(d:Nat)(x:aC),(pN ok (bH rs) b d x).Pairwise λp r=>yN p r=true
 |0,_=>.nil
 |d+1,x=>by
  unfold pN;split
  ·exact .nil
  ·split
   ·exact List.pairwise_singleton ..
   ·have hup:Up (bH rs x):=vH rs x
    have head:∀(d:Nat)(y:aC)(p:List aC),p∈pN ok (bH rs) b d y->∃r,p=y::r:=by
     intro d y p hp;cases d with
     |zero=>cases hp
     |succ d=>
      unfold pN at hp;split at hp
      ·cases hp
      ·split at hp
       ·exact⟨[],cj.1 hp⟩
       ·obtain⟨z,hz,hq⟩:=ij.1 hp;obtain⟨r,hr,rfl⟩:=cv.1 hq;exact⟨r,rfl⟩
    generalize bH rs x=l at hup
    induction l with
    |nil=>exact .nil
    |cons y l ih=>
     rw[fg,List.pairwise_append];obtain⟨h1,h2⟩:=jr.1 hup;refine⟨?_,ih h2,?_⟩
     ·refine List.pairwise_map.2 ((CF ok b d y).imp ?_);intro p r hpr;rw[Es];exact hpr
     ·intro p hp r hr;obtain⟨p',hp',rfl⟩:=cv.1 hp;obtain⟨z,hz,hr2⟩:=ij.1 hr;obtain⟨r',hr',rfl⟩:=cv.1 hr2;obtain⟨p'',rfl⟩:=head d y p' hp';obtain⟨r'',rfl⟩:=head d z r' hr';have hlt:=h1 z hz;rw[Es,yN,an]
      ·exact hlt
      ·rintro rfl;rw[lt_irrefl]at hlt;cases hlt
end
structure TpE (E:Env):Prop where
 hs8:E.hspec 8=none
 sp8:E.spec 8=none
 fn8:E.fn 8=some (aA Tryz.f8)
 md8:E.mode 8=.eW
 d8_16:aN E (η [1,1,1,1,1,1,1,1,1,1,1,0,1,2,2,1,1,0,2,1,0] (aA Tryz.f8).code)=true
 hs44:E.hspec 44=none
 sp44:E.spec 44=none
 fn44:E.fn 44=some (aA Tryz.f44)
 md44:E.mode 44=.eW
 d44_4:aN E (η [1,0,1,2,2,1,0,2,0] (aA Tryz.f44).code)=true
 d44_5:aN E (η [1,0,1,2,2,1,0,2,1,0,0] (aA Tryz.f44).code)=true
 B6:E.ty 54=some { kd:=.sl 23,size:=1,bytes:=24,zero:=.aG }
 beg:∀{Z:Sg}{K:V->Sg->Prop},aB E 11 [] Z K=K (.bool true) Z
section
variable {E:Env}{Z:Sg}{K:V->Sg->Prop}
theorem Sz(p:List aC):xP (B5 p) p:=.inr ⟨false,rfl⟩
theorem QK(tp:E.ty 54=some { kd:=.sl 23,size:=1,bytes:=24,zero:=.aG })(l:List (List aC))(Z:Sg):lenOf E Z 54 (iB l)=some l.length:=by
 unfold lenOf iB;simp only[tp];by_cases h:l=[]
 ·rw[az h,h];rfl
 ·rw[an h];show some (l.map λp=>[B5 p]).length=_;rw[bw]
theorem U4(tp:E.ty 54=some { kd:=.sl 23,size:=1,bytes:=24,zero:=.aG })(hl:bv E){l:List (List aC)}{i:Nat}{p:List aC}(hp:l[i]?=some p):indexAddr E 54 (iB l) (.int .i64 (i:Int))=some (.cR false [B5 p]):=by
 have hne:l≠[]:=λe=>by rw[e]at hp;cases hp
 unfold iB;rw[an hne];unfold indexAddr;have hneg:¬ ((i:Int)<0):=by omega
 simp only[hneg,b9,tp,hl.fF,dx,jm,hp,ck];rfl
end
structure TwE (E:Env):Prop where
 hs7:E.hspec 7=none
 YB:E.spec 7=none
 fn7:E.fn 7=some (aA dg)
 md7:E.mode 7=.eW
 hs42:E.hspec 42=none
 sp42:E.spec 42=none
 fn42:E.fn 42=some (aA Tryz.f42)
 md42:E.mode 42=.eW
 Yj:fP E (Φ (η [1,1,1,1,1,1,1,1,0,0] (aA dg).code))=.no
 Z0:cK E .no (Φ (η [1,1,1,1,1,1,1,1,0,0] (aA dg).code))=some [⟨1,3,true,false⟩,  ⟨1,4,true,false⟩]
 B6:E.ty 54=some { kd:=.sl 23,size:=1,bytes:=24,zero:=.aG }
 beg:∀{Z:Sg}{K:V->Sg->Prop},aB E 11 [] Z K=K (.bool true) Z
section
variable {E:Env}{Z:Sg}{K:V->Sg->Prop}
theorem Ep(hl:bv E){w x:V}{l m:List aC}(ow:aY cN 51 Z w l)(ix:LS cN 51 Z x m)(hr:l.length+m.length<=1000000):∃w' σ',Ax.append E Z #[23,23] w x=some (w',σ')/\aY cN 51 σ' w' (l++m)/\Sp Z σ' w/\Z.length<=σ'.length/\∀b,aO w'=some b->aO w=some b\/Z.length<=b:=by
 obtain⟨rs,e,ha⟩:=Jg (L:=cN) ix;obtain⟨w',σ',h1,h2,h3,h4,h5⟩:=kB (ats:=#[23,23]) (L:=cN) (m:=m) hl.fF rfl hl.bU rfl (by decide) (BF hl) rfl ow e ha (dO (b:=1000000) (by decide) hr);exact⟨w',σ',h1,h2,h3,h4,h5⟩
theorem XU(h:bG E)(hl:bv E)(tw:TwE E){W:List (List aC)}(hW:W.flatten.length<=1000000)(hWl:W.length<=1000000):aB E 42 [iB W] Z λv σ'=>σ'=Z/\xP v W.flatten:=by
 have hi:=EU W;have e1:aR Z E.ty true (iB W)=some (iB W):=bZ hi (bJ hi);rw[aH tw.hs42 tw.sp42 tw.fn42 tw.md42 (args':=[iB W]) (by simp only[aW,e1]),aU (by kernel_rfl)];have lw:=QK tw.B6 W;simp only[aA,Tryz.f42,KP,↓reduceIte,ε,reduceCtorEq,lw];refine aV (λi F Y=>F.get 0=iB W/\F.get 6=.int .i64 (W.length:Int)/\F.get 7=.int .i64 (i:Int)/\∃w,F.get 3=w/\aY cN 51 Y w (W.take i).flatten) W.length ?_ ?_ W.length 0 _ _ (by omega) (fK (by simp+decide only[GS,aj]) ⟨.aG,(by simp+decide only[GS]),.inl ⟨rfl,by simp⟩⟩)
 ·rintro i F Y hi ⟨g0,g6,g7,w,g3,ow⟩ next
  obtain⟨p,hp⟩:∃p,W[i]?=some p:=⟨_,AT hi⟩;have hlt:=dR hi;have hadd:=bW i (by omega);have ew:=U4 tw.B6 hl hp
  have hfl:(W.take i).flatten.length+p.length<=1000000:=by
   have e:=b8 (λl=>(List.flatten l).length) (List.take_append_drop i W);obtain⟨hlt,hx⟩:=AI.1 hp;rw[jv hlt,hx,List.flatten_append,dn,By,By]at e;omega
  obtain⟨w',τ',h1,h2,-⟩:=Ep (E:=E) hl ow ((Sz p).KL.is.ls Y 51) hfl;rw[aF];simp only[KP,ι,↓reduceIte,δ,ε,reduceCtorEq,h.fF,g0,g3,g6,g7,hlt,hadd,ew,h1];refine next _ _ (fK (by simp+decide only[GS,g0,g6,aj]) ⟨w',(by simp+decide only[GS]),?_⟩)
  rw[dz,hp,List.flatten_append];simpa using h2
 ·rintro F Y ⟨g0,g6,g7,w,g3,ow⟩;have hlt:=dW (bt W.length);rw[ah (OF _)]at ow;obtain⟨v',hv,hi'⟩:=pP hl ow;rw[aF];simp only[KP,↓reduceIte,δ,ε,g3,g6,g7,hlt,hv];exact hi'
section
variable {rs:List aD}{a b:aC}
theorem VJ{w:List aC}(h:Way rs w)(ha:w[0]?=some a)(hb:w[w.length-1]?=some b){x:aC}(hx:x∈w):(∃n,Rk (bH rs) (λx=>x∈[a]/\x∈c_ rs) n x)/\∃n,Rk (fE rs) (λx=>x∈[b]/\x∈c_ rs) n x:=by
 obtain⟨i,hi⟩:=gr.1 hx;have hlt:=(AI.1 hi).1;exact⟨⟨i,O5 h ha i hi⟩,w.length-1-i,h.bC hb (w.length-1-i) i (by omega) hi⟩
theorem O3{x:aC}(h:∃n,Rk (bH rs) (λx=>x∈[a]/\x∈c_ rs) n x):∃w,Way rs w/\w[0]?=some a/\w[w.length-1]?=some x:=by
 obtain⟨n,hn⟩:=h;obtain⟨w,h1,h2,h3,-⟩:=Kk n hn;exact⟨w,h1,h2,h3⟩
theorem HG(hf:Fits rs){x:aC}(h:∃n,Rk (fE rs) (λx=>x∈[b]/\x∈c_ rs) n x):∃w,Way rs w/\w[0]?=some x/\w[w.length-1]?=some b:=by
 obtain⟨w,hw⟩:=qw _ (Ay (b:=b) hf 2001 (Nat.lt_succ_of_le (Ah rs x)) (GP.2 h));exact⟨w,CE _ hw⟩
theorem O8(hf:Fits rs){x:aC}(h1:∃n,Rk (bH rs) (λx=>x∈[a]/\x∈c_ rs) n x)(h2:∃n,Rk (fE rs) (λx=>x∈[b]/\x∈c_ rs) n x):∃w,Way rs w/\w[0]?=some a/\w[w.length-1]?=some b:=by
 obtain⟨p,p1,p2,p3⟩:=O3 h1;obtain⟨r,r1,r2,r3⟩:=HG hf h2;have hpl:=ej.2 p1.ne;have hrl:=ej.2 r1.ne;refine⟨p++r.drop 1,p1.join r1 p3 r2,by rw[au hpl];exact p2,?_⟩;rw[By,nj];by_cases h1:r.length=1
 ·rw[show p.length+(r.length-1)-1=p.length-1 by omega,au (by omega),p3];rw[h1]at r3;rw[show (1:Nat)-1=0 from rfl,r2]at r3;exact r3
 ·rw[bg (by omega),jf,show 1+(p.length+(r.length-1)-1-p.length)=r.length-1 by omega];exact r3
end
end
end
end Go.Proofs.YtmbikbgdbbcbmaaGreatDoor
namespace Go.Proofs.YtmbikbgdbbcbmaaGreatDoor
open Go Go.Ax
theorem begL{Z:Sg}{K:V->Sg->Prop}:aB LE 11 [] Z K=K (.bool true) Z:=qR (s:=bM t11) (args':=[]) (v:=.bool true) (by kernel_rfl) (by kernel_rfl) rfl (by kernel_rfl) rfl
theorem WX:bG LE:=by constructor <;> kernel_rfl
theorem W4:mL LE:=by constructor <;> kernel_rfl
theorem Tx:bv LE:=by constructor <;> kernel_rfl
theorem W5:uM LE:=by constructor <;> kernel_rfl
theorem WY:Sq LE:=by constructor <;> kernel_rfl
theorem WV:Bo LE:=by constructor <;> kernel_rfl
theorem WZ:PsE LE:=by constructor <;> kernel_rfl
theorem WW:TaE LE:=by constructor <;> kernel_rfl
theorem WU:TwE LE:=by constructor <;> first | kernel_rfl | exact begL
theorem TC:bG Vd:=by constructor <;> kernel_rfl
theorem TE:mL Vd:=by constructor <;> kernel_rfl
theorem QW:bv Vd:=by constructor <;> kernel_rfl
theorem TF:uM Vd:=by constructor <;> kernel_rfl
theorem TB:Bo Vd:=by constructor <;> kernel_rfl
theorem TD:JO Vd:=by constructor <;> kernel_rfl
end Go.Proofs.YtmbikbgdbbcbmaaGreatDoor
namespace Go.Proofs.YtmbikbgdbbcbmaaGreatDoor
open Go Go.Ax Go.ChangeShapes Go.WideShapes Go.ChangeAt Go.RowKit
theorem SN:Yz.Av (fJ κ (ground.env .nil)):=⟨⟨Vh,Ka⟩,⟨J_,⟨J9,J7⟩⟩⟩
theorem TA:cG κ Vd:=Aa.MQ _
theorem Tz:f_ κ Vd:=Aa.MI SN
theorem Yb:Ax.Alike Vd (ground.env .nil):=⟨rfl,rfl⟩
theorem Zx:fJ κ (ground.env .nil) 38 nL:=(GA TC TE QW TF TB TD TA Tz mixed).alike Yb
theorem VU:spL.Av (fJ κ (ground.env .nil)):=⟨⟨Vh,⟨Zx,Ka⟩⟩,⟨J_,⟨J9,J7⟩⟩⟩
theorem R5{G:Ax.Ground κ}(hG:nG G)(hgl:G.gl=FN){s:BT (List V->Option V)}(hs:s.Av (fJ κ (G.env .nil))){n f:Nat}{vs:List V}{W:World}(hW:W.ShapedOpen κ)(h:Ax.call (G.env s) n f vs=some (.bool true)){xs:List Value}(hv:fH (xE W) vs xs) :
  Calls κ f xs.toArray W λe W'=>e=.returned (.bool true)/\Below W.heap.size W W':=by
 refine(Ed (hG.MQ s) (hG.MI hs) mixed h (d:=xE W) rfl (VP hW hgl) hv).mono ?_;rintro e w' ⟨x,d',rfl,rfl,h1,h2,h3,h4⟩;have hx:=h4.gO;subst hx;exact⟨rfl,h2.os,h2.tape,h2.output,h2.size,λk hk=>(h2.keep k hk λ⟨b,⟨o,ho,_⟩,_⟩=>by cases ho).1⟩
end Go.Proofs.YtmbikbgdbbcbmaaGreatDoor
namespace Go.Proofs.YtmbikbgdbbcbmaaGreatDoor
open Go Go.Ax Go.AxS
section
section
variable {E:Env}{Z:Sg}{K:V->Sg->Prop}
theorem VO(h:bG E)(h':mL E)(hl:bv E)(q:uM E)(rc:Sq E)(tr:Bo E)(ta:TaE E)(ps:PsE E)(tw:TwE E){g:V}{rs:List aD}(hg:xD E rs g)(hf:Fits rs){Y:Sg}{a b:aC}{na nb:Nat}(ha:Y[na]?=some (ζ 51 [.bool a.1,.str a.2] true))(hb:Y[nb]?=some (ζ 51 [.bool b.1,.str b.2] true)){sv:V}{p0:List aC}(hsv:xP sv p0)(hpl:p0.length<=2002)
  {W:List (List aC)}(hW:W=iY rs a b 10)(hWf:W.flatten.length<=100000)(hWl:W.length<=100000)(F:FT)(g4:F.get 4=.ref na 0)(g5:F.get 5=.ref nb 0)(g8:F.get 8=g)(g10:F.get 10=sv){st:List iT}{Q:io->Fr->Sg->Prop}
  (hk:∀F' τ' w,(∀k,k∈[4,5,8,9,10]->F'.get k=F.get k)->F'.get 48=w->F'.get 49=.int .i64 ((p0++W.flatten).length:Int)->F'.get 50=.int .i64 ((0:Nat):Int)->aY cN 51 τ' w (p0++W.flatten)->(∀(c:Nat)(o:O),Y[c]?=some o->τ'[c]?=some o)->M E st .normal ⟨84,F'⟩ τ' Q):Ax.R E (.region 10 (Φ (η [1,1,1,1,1,1,1,1,0,0] (aA dg).code)) true) st ⟨84,F⟩ Y Q:=by
 obtain⟨w1,τ1,a1,ow1,Vg,hl1,nb1⟩:=Ep (E:=E) (Z:=Y) (w:=.aG) (l:=[]) hl (.inl ⟨rfl,rfl⟩) (hsv.KL.is.ls Y 51) (by simp only[aq];omega);rw[cz]at ow1;have k1:∀(c:Nat)(o:O),Y[c]?=some o->τ1[c]?=some o:=λc o e=>Vg c o e (λe=>by cases e);obtain⟨n1,v1,σ1,⟨e1,e1'⟩,c1⟩:=aB.up (show aB E 38 [g,.agg [.bool a.1,.str a.2],.agg [.bool b.1,.str b.2],.int .i64 10] τ1 λv σ'=>v=iB W/\σ'=τ1 by rw[UU h h' hl q ps hg hf a b 10];exact⟨by rw[hW],rfl⟩);rw[e1,e1']at c1;obtain⟨n2,fv,σ2,⟨e2,hfv⟩,c2⟩:=aB.up (XU (Z:=τ1) h hl tw (W:=W) (by omega) (by omega));rw[e2]at c2;have c1:=c1 (n1+n2) (by omega);have c2:=c2 (n1+n2) (by omega);generalize n1+n2=n at c1 c2;obtain⟨w2,τ2,a2,ow2,St,hl2,-⟩:=Ep (E:=E) (Z:=τ1) hl ow1 (hfv.KL.is.ls τ1 51) (by omega)
 have k2:∀(c:Nat)(o:O),Y[c]?=some o->τ2[c]?=some o:=λc o e=>St c o (k1 c o e) λe2=>by
  rcases nb1 c e2 with g | g
  ·cases g
  ·have:=(AI.1 e).1;omega
 have ha1:=k1 _ _ ha;have hb1:=k1 _ _ hb;have va:=Lb.Lr a.1 a.2;have vb:=Lb.Lr b.1 b.2;have lw2:=lV hl.fF rfl ow2.ls
 have key:∃F',cP E (ev E n) (Φ (η [1,1,1,1,1,1,1,1,0,0] (aA dg).code)) ⟨84,F⟩ Y=some (⟨84,F'⟩,τ2)/\(∀k,k∈[4,5,8,9,10]->F'.get k=F.get k)/\F'.get 48=w2/\F'.get 49=.int .i64 ((p0++W.flatten).length:Int)/\F'.get 50=.int .i64 ((0:Nat):Int):=by
  unfold cP;rw[tw.Yj,tw.Z0];simp only[aA,dg,KP,ι,↓reduceIte,δ,ε,μ,h.bU,Φ,η,Fz.apps,iQ,bN,cE,lD,Ax.comp,Ax.last,iM,Ax.again,aT,g4,g5,g8,g10,ha,hb,ha1,hb1,a1,a2,c1,c2,va,vb,lw2];refine⟨_,rfl,?_,(by simp+decide only[GS,aj])⟩;intro k hk;simp only[IN,bz,ek]at hk;rcases hk with rfl | rfl | rfl | rfl | rfl <;> simp+decide only[GS]
 obtain⟨F',hD,hF,h48,h49,h50⟩:=key;exact Eq.mpr (iW hD) (hk F' τ2 w2 hF h48 h49 h50 ow2 k2)
structure PwL (rs:List aD) (a b:aC) (j:Nat) (l:List (List aC)):Prop where
 len:l.length<=j
 way:∀p∈l,Way rs p/\p[0]?=some a/\p[p.length-1]?=some b
 ord:l.Pairwise λp r=>yN p r=true
 some:0<j->(∃w,Way rs w/\w[0]?=some a/\w[w.length-1]?=some b)->l≠[]
theorem Wx{rs:List aD}{a b:aC}{w:List aC}(h:Way rs w)(ha:w[0]?=some a)(hb:w[w.length-1]?=some b):Fp rs b a=true:=by
 have hl:=ej.2 h.ne;obtain⟨n,hn⟩:∃n,n+1=w.length:=⟨w.length-1,by omega⟩;have:=h.bC hb n 0 (y:=a) (by omega) ha;exact GP.2 ⟨n,this⟩
theorem ZX{rs:List aD}(hf:Fits rs)(a b:aC){m:Int}{j:Nat}(hm:manyN m=j):PwL rs a b j (iY rs a b m):=by
 by_cases ha:a∈c_ rs
 ·rw[Kt hf ha,hm];refine⟨by rw[bl];omega,λp hp=>CE _ (jo hp),(CF _ _ _ _).sublist (List.take_sublist ..),λhj ⟨w,h1,h2,h3⟩=>?_⟩;have hne:=Ay (b:=b) hf 2001 (Nat.lt_succ_of_le (Ah rs a)) (Wx h1 h2 h3);intro e;have:=b8 List.length e;rw[bl,aq]at this;have:=ej.2 hne;omega
 ·have e:iY rs a b m=[]:=by unfold iY;rw[an ha]
  rw[e];refine⟨gv _,λp hp=>(by cases hp),.nil,λ_ ⟨w,h1,h2,_⟩=>absurd (h1.all _ (ag h2)) ha⟩
theorem Yx(h:bG E)(h':mL E)(hl:bv E)(q:uM E)(rc:Sq E)(tr:Bo E)(ta:TaE E)(ps:PsE E)(tw:TwE E){g:V}{rs:List aD}(hg:xD E rs g)(hf:Fits rs){a b:aC}{na nb:Nat}(la:a.2.length<=9223372036854775806){av:V}{A:List aC}(hav:xP av A)(hA:OnL rs [a] [b] A){Y:Sg}(ha:Y[na]?=some (ζ 51 [.bool a.1,.str a.2] true))(hb:Y[nb]?=some (ζ 51 [.bool b.1,.str b.2] true))
  (F:FT)(g4:F.get 4=.ref na 0)(g5:F.get 5=.ref nb 0)(g8:F.get 8=g)(g9:F.get 9=av){st:List iT}{Q:io->Fr->Sg->Prop}(hk:∀F' τ',M E st .normal ⟨84,F'⟩ τ' Q):Ax.R E (η [1,1,1,1,1,1,1,1,1,0] (aA dg).code) st ⟨84,F⟩ Y Q:=by
 have lav:=jM h hav.KL.is;have hAl:A.length<=2000:=e8 (eO hA.1.nodup hA.2.1) (kP hf);simp only[aA,dg,KP,↓reduceIte,ε,η,g9,lav];refine aV (λi F Y=>F.get 4=.ref na 0/\F.get 5=.ref nb 0/\F.get 8=g/\F.get 59=av/\F.get 60=.int .i64 (A.length:Int)/\F.get 61=.int .i64 (i:Int)/\Y[na]?=some (ζ 51 [.bool a.1,.str a.2] true)/\Y[nb]?=some (ζ 51 [.bool b.1,.str b.2] true)) A.length ?_ ?_ A.length 0 _ _ (by omega) (sF (by simp+decide only[GS,g4,g5,g8,aj]) ⟨ha,hb⟩)
 ·clear g4 g5 g8 g9 ha hb;rintro i F Y hi ⟨g4,g5,g8,g59,g60,g61,ha,hb⟩ next
  obtain⟨x,hx⟩:∃x,A[i]?=some x:=⟨_,AT hi⟩;have hxm:=ag hx;obtain⟨hto,hfrom⟩:=(hA.2.2 x).1 hxm;obtain⟨gi,ei⟩:=t_ h hav.KL.is hx;have hlt:=dR hi;have hadd:=bW i (by omega);have ha1:=aI (x:=ζ 51 [.bool x.1,.str x.2] true) ha;have hb1:=aI (x:=ζ 51 [.bool x.1,.str x.2] true) hb;have hx1:(Y++[ζ 51 [.bool x.1,.str x.2] true])[Y.length]?=some (ζ 51 [.bool x.1,.str x.2] true):=aL;rw[aF];simp only[KP,ι,Ξ,↓reduceIte,δ,ε,ω,μ,ap,h.fF,h.bU,g8,g4,g59,g60,g61,hlt,ei,aL,bP,fM,ha1];have ha2:=aI (x:=ζ 51 [.bool a.1,.str a.2] true) ha1;have hb2:=aI (x:=ζ 51 [.bool a.1,.str a.2] true) hb1;have hx2:=aI (x:=ζ 51 [.bool a.1,.str a.2] true) hx1;simp only[KP,↓reduceIte,δ,ε,ω,μ,ap,h.fF,h.bU,hx2,fM];generalize hτ:Y++[ζ 51 [.bool x.1,.str x.2] true]=τ1 at *;have sa:LS cN 51 (τ1++[ζ 51 [.bool a.1,.str a.2] true]++[ζ 51 [.bool x.1,.str x.2] true]) (.sl τ1.length 0 1 none) [a]:=.inr ⟨τ1.length,_,_,[row a],rfl,aI aL,.one rfl,rfl⟩;have sx:LS cN 51 (τ1++[ζ 51 [.bool a.1,.str a.2] true]++[ζ 51 [.bool x.1,.str x.2] true]) (.sl (τ1++[ζ 51 [.bool a.1,.str a.2] true]).length 0 1 none) [x]:=.inr ⟨_,_,_,[row x],rfl,aL,.one rfl,rfl⟩;refine aK (K4 h h' hl q tr hg hf sa sx (by simp) (by simp) (λy hy=>by rw[cj.1 hy];exact la)) ?_;rintro sv τ2 ⟨rfl,D,Sx,p,dd,hsv,hup,hS,hR⟩;have t:=Gv (a:=a) (b:=x) dd hS hR
  have hpl:p.length<=2002:=by
   rcases hR with⟨rfl,-⟩ | ⟨j,x0,d,-,hx0,-,hpl,-,-⟩
   ·simp
   ·have:=dd.le x0 d hx0;omega
  clear hR hS dd hup sa sx
  have hpne:p≠[]:=by
   obtain⟨w,h1,h2,h3⟩:=O3 hto;exact t.some w h1 h2 h3
  have hp1:=ej.2 hpne;have z1:decide ((p.length:Int)=0)=false:=AS (by omega);have lp:=jM h hsv.KL.is;have hb3:=aI (x:=ζ 51 [.bool x.1,.str x.2] true) hb2;have hx3:=aI (x:=ζ 51 [.bool x.1,.str x.2] true) hx2;have ha3:=aI (x:=ζ 51 [.bool x.1,.str x.2] true) ha2;generalize τ1++[ζ 51 [.bool a.1,.str a.2] true]++[ζ 51 [.bool x.1,.str x.2] true]=τ2 at *;have hb4:=aI (x:=ζ 51 [.bool x.1,.str x.2] true) hb3;have ha4:=aI (x:=ζ 51 [.bool x.1,.str x.2] true) ha3;simp only[KP,ι,↓reduceIte,δ,ε,ω,μ,ap,h.fF,h.bU,g8,g5,lp,z1,hx3,hb4,fM];have sx:LS cN 51 (τ2++[ζ 51 [.bool x.1,.str x.2] true]++[ζ 51 [.bool b.1,.str b.2] true]) (.sl τ2.length 0 1 none) [x]:=.inr ⟨τ2.length,_,_,[row x],rfl,aI aL,.one rfl,rfl⟩;have sb:LS cN 51 (τ2++[ζ 51 [.bool x.1,.str x.2] true]++[ζ 51 [.bool b.1,.str b.2] true]) (.sl (τ2++[ζ 51 [.bool x.1,.str x.2] true]).length 0 1 none) [b]:=.inr ⟨_,_,_,[row b],rfl,aL,.one rfl,rfl⟩;have lx:x.2.length<=9223372036854775806:=by have:=mD (hf.lab (hA.2.1 x hxm));omega
  refine aK (K4 h h' hl q tr hg hf sx sb (by simp) (by simp) (λy hy=>by rw[cj.1 hy];exact lx)) ?_;rintro sv2 τ3 ⟨rfl,D,Sx,p2,dd,hsv2,hup,hS,hR⟩;have t2:=Gv (a:=x) (b:=b) dd hS hR;clear hR hS dd hup sx sb
  have hpne2:p2≠[]:=by
   obtain⟨w,h1,h2,h3⟩:=HG hf hfrom;exact t2.some w h1 h2 h3
  have hp2:=ej.2 hpne2;have z2:decide ((p2.length:Int)=0)=false:=AS (by omega);have lp2:=jM h hsv2.KL.is;simp only[KP,↓reduceIte,δ,ε,g61,lp2,z2,hadd];exact next _ _ (sF (by simp+decide only[GS,g4,g5,g8,g59,g60,aj]) ⟨aI ha4,aI hb4⟩)
 ·rintro F Y ⟨g4,g5,g8,g59,g60,g61,ha,hb⟩;have hlt:=dW (bt A.length);rw[aF];simp only[KP,↓reduceIte,ε,g60,g61,hlt];exact hk _ _
theorem El(h:bG E)(h':mL E)(hl:bv E)(q:uM E)(rc:Sq E)(tr:Bo E)(ta:TaE E)(ps:PsE E)(tw:TwE E){a:V}{rs:List aD}(ha:LS dU 46 Z a rs)(hraw:∀x∈rs,Raw x){x1:Bool}{s1:bF}(h1:s1.length<=9223372036854775806){x2:Bool}{s2:bF}(h2:s2.length<=9223372036854775806):aB E 7 [a,.agg [.bool x1,.str s1],.agg [.bool x2,.str s2]] Z K=K (.bool true) Z:=by
 refine aB.of ?_;obtain⟨a',ea,ia⟩:=fI h ha;have e1:aR Z E.ty true (.agg [.bool x1,.str s1])=some (.agg [.bool x1,.str s1]):=rfl;have e2:aR Z E.ty true (.agg [.bool x2,.str s2])=some (.agg [.bool x2,.str s2]):=rfl;rw[aH tw.hs7 tw.YB tw.fn7 tw.md7 (args':=[a',.agg [.bool x1,.str s1],.agg [.bool x2,.str s2]]) (by simp only[aW,ea,e1,e2]),aU (by kernel_rfl)];have kb:=λ(Y:Sg)=>dX λK=>tw.beg (Z:=Y) (K:=K);have r10:=λ{g} {l} hg hf {Y} ha hb {sv p0} hsv hpl {W} hW hWf hWl F g4 g5 g8 g10 st Q hk=>VO (g:=g) (rs:=l) (Y:=Y) (a:=(x1,s1)) (b:=(x2,s2)) (na:=0) (nb:=1) (sv:=sv) (p0:=p0) (W:=W) h h' hl q rc tr ta ps tw hg hf ha hb hsv hpl hW hWf hWl F g4 g5 g8 g10 (st:=st) (Q:=Q) hk;have l2:=λ{g} {l} hg hf {av A} hav hA {Y} ha hb F g4 g5 g8 g9 st Q hk=>Yx (g:=g) (rs:=l) (a:=(x1,s1)) (b:=(x2,s2)) (na:=0) (nb:=1) h h' hl q rc tr ta ps tw hg hf h1 (av:=av) (A:=A) hav hA (Y:=Y) ha hb F g4 g5 g8 g9 (st:=st) (Q:=Q) hk;rw[show (aA dg).code=.seq (η [0] (aA dg).code) (.seq (η [1,0] (aA dg).code) (.seq (η [1,1,0] (aA dg).code) (.seq (η [1,1,1,0] (aA dg).code) (.seq (η [1,1,1,1,0] (aA dg).code) (.seq (η [1,1,1,1,1,0] (aA dg).code) (.seq (η [1,1,1,1,1,1,0] (aA dg).code) (.seq (η [1,1,1,1,1,1,1,0] (aA dg).code) (.seq (.seq (.region 10 (Φ (η [1,1,1,1,1,1,1,1,0,0] (aA dg).code)) true) (.block 0 (.loop (η [1,1,1,1,1,1,1,1,0,1,2,2] (aA dg).code)))) (.seq (η [1,1,1,1,1,1,1,1,1,0] (aA dg).code) (η [1,1,1,1,1,1,1,1,1,1] (aA dg).code)))))))))) from rfl];generalize (Φ (η [1,1,1,1,1,1,1,1,0,0] (aA dg).code))=O10 at r10 ⊢;generalize (η [1,1,1,1,1,1,1,1,1,0] (aA dg).code)=C9 at l2 ⊢;generalize hBB:(η [1,1,1,1,1,1,1,1,0,1,2,2] (aA dg).code)=BB;generalize hTT:(η [1,1,1,1,1,1,1,1,1,1] (aA dg).code)=TT;simp only[aA,dg,KP,↓reduceIte,δ,ε,μ,reduceCtorEq,h.bU,η,kb];refine aK (X4 h (ia.ls _ 46) hraw) ?_;rintro v σ' ⟨rfl,l,iv,hok,hl14,hsm⟩;have iv':IS dU v l:=tK iv.is xX;have hf:Fits l:=⟨hok,hsm⟩;simp only[KP,↓reduceIte,ε];refine aK (K3 h h' hl (iv'.ls _ 46) hsm (by omega)) ?_;rintro g σ' ⟨rfl,⟨hno,-⟩ | ⟨-,hg⟩⟩
 ·exact absurd hok hno
 simp only[KP,ι,↓reduceIte,δ,ε,ω,μ,ap,reduceCtorEq,h.fF,h.bU,fM];have sa:LS cN 51 [ζ 51 [.bool x1,.str s1] true,ζ 51 [.bool x2,.str s2] true,ζ 51 [.bool x1,.str s1] true,ζ 51 [.bool x2,.str s2] true] (.sl 2 0 1 none) [((x1,s1):aC)]:=.inr ⟨2,_,_,[row (x1,s1)],rfl,rfl,.one rfl,rfl⟩;have sb:LS cN 51 [ζ 51 [.bool x1,.str s1] true,ζ 51 [.bool x2,.str s2] true,ζ 51 [.bool x1,.str s1] true,ζ 51 [.bool x2,.str s2] true] (.sl 3 0 1 none) [((x2,s2):aC)]:=.inr ⟨3,_,_,[row (x2,s2)],rfl,rfl,.one rfl,rfl⟩;refine aK (XR h h' hl q rc ta hg hf sa sb (by simp) (by simp)) ?_;rintro av Y ⟨rfl,A,hav,hA⟩;simp only[KP,ι,↓reduceIte,δ,ε,ω,μ,ap,reduceCtorEq,h.fF,h.bU,fM];have sa:LS cN 51 [ζ 51 [.bool x1,.str s1] true,ζ 51 [.bool x2,.str s2] true,ζ 51 [.bool x1,.str s1] true,ζ 51 [.bool x2,.str s2] true,ζ 51 [.bool x1,.str s1] true,ζ 51 [.bool x2,.str s2] true] (.sl 4 0 1 none) [((x1,s1):aC)]:=.inr ⟨4,_,_,[row (x1,s1)],rfl,rfl,.one rfl,rfl⟩;have sb:LS cN 51 [ζ 51 [.bool x1,.str s1] true,ζ 51 [.bool x2,.str s2] true,ζ 51 [.bool x1,.str s1] true,ζ 51 [.bool x2,.str s2] true,ζ 51 [.bool x1,.str s1] true,ζ 51 [.bool x2,.str s2] true] (.sl 5 0 1 none) [((x2,s2):aC)]:=.inr ⟨5,_,_,[row (x2,s2)],rfl,rfl,.one rfl,rfl⟩;refine aK (K4 h h' hl q tr hg hf sa sb (by simp) (by simp) (λy hy=>by rw[cj.1 hy];exact h1)) ?_;rintro sv Y ⟨rfl,D,Sx,p0,dd,hsv,hup,hS,hR⟩;have t:=Gv (a:=(x1,s1)) (b:=(x2,s2)) dd hS hR
 have hpl:p0.length<=2002:=by
  rcases hR with⟨rfl,-⟩ | ⟨j,x0,d,-,hx0,-,hpl,-,-⟩
  ·simp
  ·have:=dd.le x0 d hx0;omega
 clear hR hS dd hup sa sb;have lp:=jM h hsv.KL.is;have lav:=jM h hav.KL.is;have hAl:A.length<=2000:=e8 (eO hA.1.nodup hA.2.1) (kP hf);have on:∀w,Way l w->w[0]?=some ((x1,s1):aC)->w[w.length-1]?=some ((x2,s2):aC)->∀x∈w,x∈A:=λw k1 k2 k3 x hx=>(hA.2.2 x).2 (VJ k1 k2 k3 hx)
 have hsame:decide ((A.length:Int)=0)=decide ((p0.length:Int)=0):=by
  refine pc.2 ?_;constructor
  ·intro e;have hA0:A=[]:=iu.1 (by omega)
   have:p0=[]:=oc λhne=>by
    obtain⟨k1,k2,k3⟩:=t.way hne;have:=on p0 k1 k2 k3 _ (ag k2);rw[hA0]at this;cases this
   rw[this];rfl
  ·intro e;have hp0:p0=[]:=iu.1 (by omega)
   have:A=[]:=oc λhne=>by
    obtain⟨x,hx⟩:=qw _ hne;obtain⟨k1,k2⟩:=(hA.2.2 x).1 hx;obtain⟨w,w1,w2,w3⟩:=O8 hf k1 k2;exact t.some w w1 w2 w3 hp0
   rw[this];rfl
 have eqs:∀(c:Bool)(x:Bool),mM E 4 c (.bool x) (.bool x)=some true:=λc x=>by unfold mM;rw[h.Ex];simp
 simp only[KP,↓reduceIte,δ,ε,lp,lav,hsame,eqs];have pw:=ZX (m:=10) hf (x1,s1) (x2,s2) (j:=10) (by decide);generalize hW:iY l (x1,s1) (x2,s2) 10=W at pw
 have hWf:W.flatten.length<=100000:=by
  have:∀(W:List (List aC)),(∀p∈W,p.length<=2000)->W.flatten.length<=2000*W.length:=by
   intro W
   induction W with
   |nil=>intro _;simp
   |cons p W ih=>
    intro hp;have k1:=ih λr hr=>hp r (ae _ hr);have k2:=hp p (No ..);rw[dn,By,IT];omega
  have k:=this W λp hp=>(pw.way p hp).1.len hf;have:=pw.len;omega
 have hLA:∀x∈p0++W.flatten,x∈A:=λx hx=>by
  rcases cq.1 hx with hx | hx
  ·obtain⟨k1,k2,k3⟩:=t.way (List.ne_nil_of_mem hx);exact on p0 k1 k2 k3 x hx
  ·obtain⟨p,hp,hxp⟩:=List.mem_flatten.1 hx;obtain⟨k1,k2,k3⟩:=pw.way p hp;exact on p k1 k2 k3 x hxp
 have hLl:(p0++W.flatten).length<=200000:=by rw[By];omega
 refine r10 hg hf rfl rfl hsv hpl hW.symm hWf (by have:=pw.len;omega) _ ?_ ?_ ?_ ?_ _ _ (λF1 τ1 w hF h48 h49 h50 ow hka=>?_)
 ·simp+decide only[GS]
 ·simp+decide only[GS]
 ·simp+decide only[GS]
 ·simp+decide only[GS]
 have q4:F1.get 4=.ref 0 0:=(hF 4 (by simp)).trans (by simp+decide only[GS]);have q5:F1.get 5=.ref 1 0:=(hF 5 (by simp)).trans (by simp+decide only[GS]);have q8:F1.get 8=g:=(hF 8 (by simp)).trans (by simp+decide only[GS]);have q9:F1.get 9=av:=(hF 9 (by simp)).trans (by simp+decide only[GS]);have b0:=hka 0 _ rfl;have b1:=hka 1 _ rfl;clear hka hF hsame r10;generalize p0++W.flatten=L at h49 ow hLA hLl;rw[NS];simp only[KP];refine aV (λi F Y=>F.get 4=.ref 0 0/\F.get 5=.ref 1 0/\F.get 8=g/\F.get 9=av/\F.get 48=w/\F.get 49=.int .i64 (L.length:Int)/\F.get 50=.int .i64 (i:Int)/\Y[0]?=some (ζ 51 [.bool x1,.str s1] true)/\Y[1]?=some (ζ 51 [.bool x2,.str s2] true)/\aY cN 51 Y w L) L.length ?_ ?_ L.length 0 _ _ (by omega) ⟨q4,q5,q8,q9,h48,h49,h50,b0,b1,ow⟩
 ·clear q4 q5 q8 q9 h48 h49 h50 b0 b1 ow;rintro i F Y hi ⟨g4,g5,g8,g9,g48,g49,g50,b0,b1,ow⟩ next
  obtain⟨x,hx⟩:∃x,L[i]?=some x:=⟨_,AT hi⟩;have hxA:=hLA x (ag hx);obtain⟨pa,r,k1,k2,k3,-,-⟩:=Eo hl.fF rfl hl.bU rfl ow.ls hx;have k2:r=row x:=k2;have k4:loadAt E Y 51 pa=some (.agg [.bool x.1,.str x.2]):=by rw[k3 rfl,k2];rfl
  have hlt:=dR hi;have hadd:=bW i (by omega);obtain⟨kf,hkf,-⟩:=Ub hxA;have kfind:=λY=>dX λK=>UO (Z:=Y) (K:=K) (s:=x) h hl (hav.KL.is.ls Y 51) (by omega);rw[hkf,e_]at kfind;have hneg:decide ((kf:Int)<0)=false:=AS (by omega);subst hBB;rw[aF];simp only[aA,dg,KP,Ξ,↓reduceIte,δ,ε,μ,h.bU,η,g9,g48,g49,g50,hlt,k1,k4,aL,bP];simp only[KP,ι,↓reduceIte,δ,ε,μ,h.bU,g50,aL,kfind,hneg,hadd];exact next _ _ (Ef (by simp+decide only[GS,g4,g5,g8,g9,g48,g49,aj]) ⟨aI b0,aI b1,ow.app _⟩)
 ·clear q4 q5 q8 q9 h48 h49 h50 b0 b1 ow;rintro F Y ⟨g4,g5,g8,g9,g48,g49,g50,b0,b1,ow⟩;have hlt:=dW (bt L.length);subst hBB hTT;rw[aF];simp only[aA,dg,KP,↓reduceIte,ε,η,g49,g50,hlt];refine l2 hg hf hav hA b0 b1 _ ?_ ?_ ?_ ?_ _ _ (λF2 τ2=>?_)
  ·simp+decide only[GS,g4]
  ·simp+decide only[GS,g5]
  ·simp+decide only[GS,g8]
  ·simp+decide only[GS,g9]
  rw[NS];simp only[KP,↓reduceIte,ε,cQ,aR];exact rfl
end
end
theorem AJ(a0:V)(l0:List aD)(i0:IS dU a0 l0)(r0:∀x∈l0,Raw x)(x1:Bool)(s1:bF)(h1:s1.length<=9223372036854775806)(x2:Bool)(s2:bF)(h2:s2.length<=9223372036854775806):∃k,Ax.call LE k 7 [a0,.agg [.bool x1,.str s1],.agg [.bool x2,.str s2]]=some (.bool true):=by
 have h:aB LE 7 [a0,.agg [.bool x1,.str s1],.agg [.bool x2,.str s2]] [] (λv _=>v=.bool true):=by
  rw[El WX W4 Tx W5 WY WV WW WZ WU (i0.ls [] 46) r0 (x1:=x1) (s1:=s1) h1 (x2:=x2) (s2:=s2) h2]
 obtain⟨n,v,σ',hc,rfl⟩:=h;refine⟨n,?_⟩
 have hm:aW (aR [] LE.ty true) [a0,.agg [.bool x1,.str s1],.agg [.bool x2,.str s2]]=some [a0,.agg [.bool x1,.str s1],.agg [.bool x2,.str s2]]:=by
  simp only[aW,pR i0 [],(show aR [] LE.ty true (.agg [.bool x1,.str s1])=some (.agg [.bool x1,.str s1]) from rfl),(show aR [] LE.ty true (.agg [.bool x2,.str s2])=some (.agg [.bool x2,.str s2]) from rfl)]
 unfold iH at hc;rw[show LE.hspec 7=none by kernel_rfl,show LE.spec 7=none by kernel_rfl,show LE.fn 7=some (aA dg) by kernel_rfl,show LE.mode 7=.eW by kernel_rfl]at hc;simp only[hm]at hc;unfold Ax.call;rw[show LE.fn 7=some (aA dg) by kernel_rfl];dsimp only;cases he:enter LE (ev LE n) (aA dg) [a0,.agg [.bool x1,.str s1],.agg [.bool x2,.str s2]] [] with
 |none=>rw[he]at hc;cases hc
 |some y=>
  rw[he]at hc;dsimp only at hc ⊢;cases hs:cQ y.2 LE.ty false y.1 with
  |none=>rw[hs]at hc;cases hc
  |some z=>rw[hs]at hc;cases hc;rfl
end Go.Proofs.YtmbikbgdbbcbmaaGreatDoor
end
