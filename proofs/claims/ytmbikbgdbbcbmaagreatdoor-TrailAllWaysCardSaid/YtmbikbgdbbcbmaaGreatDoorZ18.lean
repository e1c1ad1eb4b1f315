/- Part 18 of the proof. -/
import Derived.Test.YtmbikbgdbbcbmaaGreatDoorY
import Derived.Test.YtmbikbgdbbcbmaaGreatDoorZ17
import Derived.Test.YtmbikbgdbbcbmaaGreatDoorZ16
import Derived.Test.YtmbikbgdbbcbmaaGreatDoorZ15
set_option maxHeartbeats 8000000
set_option linter.unusedVariables false
set_option maxRecDepth 10000
open Nat renaming reduceEqDiff→δ,reduceLT→ε,reduceAdd→μ,reduceLeDiff→ω,reduceMul→ap,ble→gd
open Go.Ax.O renaming cells→ζ,map→qe
open Go.Ax renaming cutAt→η,loadAt→ι,storeAt→Ξ,opsOf→Φ,entriesOf→bm,bE→ge,rows→gn,fill→hZ,X→io,again→ly,comp→nz,plainCell→n7,lookup→pj,last→pu,mapUpdate→c9,indexAddr→Θ
open Int renaming reduceNeg→φ,reduceLT→dv
open Go.Proofs.Tryz renaming f72→Δ,f13→cf,f77→dq
open Go.Ax.V renaming str→ab,bool→du
open Go.AxS renaming Step→am
open Go.Proofs.YtmbikbgdbbcbmaaGreatDoor.Lb renaming bK→bv
open Eq renaming mpr→rl
open List (nodup_nil find?_some map_nil)
section
namespace Go.Proofs.YtmbikbgdbbcbmaaGreatDoor
open Go Go.Ax Go.AxS
section
section
variable {E:Env}{Z:Sg}{K:V->Sg->Prop}
theorem Jw{β γ:Type}{P:β->γ->Prop}:∀{a:List β}{b:List γ},eL P a b->∀{j:Nat}{y:γ},b[j]?=some y->∃x,a[j]?=some x/\P x y
 |_,_,.nil,_,_,h=>by cases h
 |_::_,_::_,.cons h t,0,_,e=>by cases e;exact⟨_,rfl,h⟩
 |_::_,_::_,.cons h t,j+1,_,e=>by
  obtain⟨x,h1,h2⟩:=Jw t (j:=j) e;exact⟨x,h1,h2⟩
structure Sn (Y:Sg) (b i:Nat) (R:List (List V)) (ex:Bool) (steps:List am):Prop where
 hb:Y[b]?=some (.cells 82 R.flatten ex)
 len:R.length=steps.length
 KQ:∀x∈R,x.length=5
 row:∀(j:Nat)(s:am),steps[j]?=some s->∃p q,R[j]?=some ([.str s.out,.int .i64 s.op,p,q,.int .i64 s.n])/\(j<i->aY aP 9 Y p s.args/\aY aP 9 Y q s.lits/\aO p≠some b/\aO q≠some b)/\(i<=j->IS aP p s.args/\IS aP q s.lits)
theorem Sn.start{Y:Sg}{b:Nat}{rs:List (List V)}{ex:Bool}{steps:List am}(hb:Y[b]?=some (.cells 82 rs.flatten ex))(ha:eL fB.P rs steps):Sn Y b 0 rs ex steps:=by
 refine⟨hb,ha.len,Lay.lens ha,λj s hj=>?_⟩;obtain⟨r,h1,a,l,rfl,h2,h3⟩:=Jw ha hj;exact⟨a,l,h1,λh=>by omega,λ_=>⟨h2,h3⟩⟩
theorem Sn.step{Y τ':Sg}{b i:Nat}{R:List (List V)}{ex:Bool}{steps:List am}{s:am}{wp wq:V}(h:Sn Y b i R ex steps)(hs:steps[i]?=some s)(hb:τ'[b]?=some (.cells 82 (R.set i ([.str s.out,.int .i64 s.op,wp,wq,.int .i64 s.n])).flatten ex))(o1:aY aP 9 τ' wp s.args)(o2:aY aP 9 τ' wq s.lits)(k:∀(c:Nat)(o:O),Y[c]?=some o->c≠b->τ'[c]?=some o)(f1:∀c,aO wp=some c->Y.length<=c)(f2:∀c,aO wq=some c->Y.length<=c):Sn τ' b (i+1) (R.set i ([.str s.out,.int .i64 s.op,wp,wq,.int .i64 s.n])) ex steps:=by
 have hbl:=(AI.1 h.hb).1;have hil:i<R.length:=by rw[h.len];exact(AI.1 hs).1
 refine⟨hb,by rw[dy];exact h.len,λx hx=>?_,λj t hj=>?_⟩
 ·rcases List.mem_or_eq_of_mem_set hx with hx | rfl
  ·exact h.KQ x hx
  ·rfl
 ·by_cases hij:i=j
  ·subst hij;rw[hs]at hj;cases hj;refine⟨wp,wq,br hil,λ_=>⟨o1,o2,λe=>?_,λe=>?_⟩,λh=>by omega⟩
   ·have:=f1 b e;omega
   ·have:=f2 b e;omega
  ·obtain⟨p,q,h1,h2,h3⟩:=h.row j t hj;refine⟨p,q,by rw[aa hij];exact h1,λhlt=>?_,λhle=>h3 (by omega)⟩;obtain⟨a1,a2,a3,a4⟩:=h2 (by omega);exact⟨a1.keep λc o hc ho=>k c o ho (λe=>a3 (by rw[hc,e])),a2.keep λc o hc ho=>k c o ho (λe=>a4 (by rw[hc,e])),a3,a4⟩
theorem WK{Y:Sg}{w:V}{l:List bF}(ow:aY aP 9 Y w l):OL Y w l:=by
 rcases ow with h | ⟨b,rs,ex,rfl,hb,ha⟩
 ·exact .inl h
 ·obtain rfl:=Co ha;rw[DS]at hb;exact .inr ⟨b,_,ex,rfl,hb,ah (by rw[bw];exact OF _)⟩
theorem SK{v:V}{l:List bF}(h:Vy v l):kQ aP v l:=by
 rcases h with h | ⟨full,rfl⟩
 ·exact .inl h
 ·exact .inr ⟨_,full,rfl,AM l⟩
theorem CW(h:bG E){Y:Sg}{w:V}{l:List bF}{m:Nat}(ow:aY aP 9 Y w l):∃v',bA Y E.ty false (m+2) w=some v'/\cI false v'=true/\kQ aP v' l:=by
 obtain⟨v',h1,h2⟩:=(WK ow).snap (m:=m) h;exact⟨v',h1,h2.tag,SK h2⟩
theorem IE{α β:Type}{f:α->Option β}:∀{a:List α}{a':List β}{b:List α}{b':List β},aW f a=some a'->aW f b=some b'->aW f (a++b)=some (a'++b')
 | [],a',b,b',h1,h2=>by cases h1;exact h2
 |x::a,a',b,b',h1,h2=>by
  rw[aW]at h1;cases hx:f x with
  |none=>rw[hx]at h1;cases h1
  |some y=>
   cases hm:aW f a with
   |none=>rw[hx,hm]at h1;cases h1
   |some l=>
    rw[hx,hm]at h1;cases h1;rw[ey,aW,hx,IE hm h2];rfl
theorem HX(h:bG E){Y:Sg}{b n:Nat}{R:List (List V)}{ex:Bool}{steps:List am}(hs:Sn Y b n R ex steps)(hn:n=steps.length):∃v',bA Y E.ty false 12 (.sl b 0 n none)=some v'/\cI false v'=true/\kQ gK v' steps:=by
 have key:∀(R:List (List V)) (steps:List am),R.length=steps.length->(∀(j:Nat)(s:am),steps[j]?=some s->∃p q,R[j]?=some ([.str s.out,.int .i64 s.op,p,q,.int .i64 s.n])/\aY aP 9 Y p s.args/\aY aP 9 Y q s.lits)->∃R',aW (λv=>match bA Y E.ty false 11 v with
   |some v=>if cI false v then some v else Ax.no "snap: borrowed"
   |none=>none) R.flatten=some R'.flatten/\eL gK.P R' steps:=by
  intro R
  induction R with
  |nil=>
   intro steps hl _;have:steps=[]:=List.eq_nil_of_length_eq_zero hl.symm;subst this;exact⟨[],rfl,.nil⟩
  |cons r R ih=>
   intro steps hl hr;cases steps with
   |nil=>cases hl
   |cons s steps=>
    obtain⟨R',m1,a1⟩:=ih steps (by simpa using hl) λj t hj=>hr (j+1) t hj;obtain⟨p,q,h1,h2,h3⟩:=hr 0 s rfl;cases h1;obtain⟨p',e1,t1,i1⟩:=CW (m:=9) h h2;obtain⟨q',e2,t2,i2⟩:=CW (m:=9) h h3;refine⟨([.str s.out,.int .i64 s.op,p',q',.int .i64 s.n])::R',?_,.cons ⟨p',q',rfl,i1,i2⟩ a1⟩;rw[dn,dn];refine IE ?_ m1;have es:∀z:bF,bA Y E.ty false 11 (.str z)=some (.str z):=λz=>jQ rfl;have ei:∀z:Int,bA Y E.ty false 11 (.int .i64 z)=some (.int .i64 z):=λz=>jQ rfl;have ts:∀z:bF,cI false (.str z)=true:=λ_=>rfl;have ti:∀z:Int,cI false (.int .i64 z)=true:=λ_=>rfl;simp only[aW,es,ei,ts,ti,e1,e2,t1,t2,bf]
 obtain⟨R',m1,a1⟩:=key R steps hs.len λj s hj=>by
  obtain⟨p,q,h1,h2,-⟩:=hs.row j s hj;obtain⟨a1,a2,-⟩:=h2 (by have:=(AI.1 hj).1;omega);exact⟨p,q,h1,a1,a2⟩
 have hfl:R.flatten.length=n*5:=by rw[oI R hs.KQ,hs.len,hn]
 have htk:(R.flatten.drop 0).take (n*5)=R.flatten:=by rw[ez,ah (by omega)]
 refine⟨.bV false R' (ex&&decide (0<5)&&(0+n*5==R.flatten.length)),?_,rfl,.inr ⟨R',_,rfl,a1⟩⟩;rw[bA];simp only[hs.hb,h.dF];rw[az (by omega)]
 have m2:aW (λv=>match bA Y E.ty false 11 v with
   |some v=>if cI false v then some v else Ax.no "snap: borrowed"
   |none=>none) ((R.flatten.drop 0).take (n*5))=some R'.flatten:=by rw[htk];exact m1
 refine Eq.trans (b8 (λo=>match o with
  |some l=>some (V.bV false (gn 5 n l) (ex&&decide (0<5)&&(0+n*5==R.flatten.length)))
  |none=>none) m2) ?_
 show some (V.bV false (gn 5 n R'.flatten) _)=_;have hl':n=R'.length:=by rw[a1.len,hn]
 rw[hl',show gn 5 R'.length R'.flatten=R' from mS (sz:=5) R' (Lay.lens (L:=gK) a1)]
def Ve(v:V)(x:aD):Prop:=∃a b c d,v=.agg [.str x.name,a,b,c,d]/\kQ aP a x.ins/\kQ aP b x.outs/\kQ aP c x.after/\kQ gK d x.steps
theorem rN(h:bG E){Y:Sg}{w:V}{l:List bF}(ow:aY aP 9 Y w l):∃v',aR.one Y E.ty false w=some v'/\kQ aP v' l:=by
 obtain⟨v',h1,h2,h3⟩:=CW (m:=10) h ow;refine⟨v',?_,h3⟩;unfold aR.one;rw[show dN=10+2 from rfl,h1];simp only[h2,bf]
theorem Sn.aa5{Y:Sg}{b i u:Nat}{R:List (List V)}{ex:Bool}{steps:List am}{cs:List V}{y:O}(h:Sn Y b i R ex steps)(hz:Y[1]?=some (.cells u cs true))(hu:u≠9)(hb:2<=b):Sn (Y.set 1 y) b i R ex steps:=by
 refine⟨by rw[aa (by omega)];exact h.hb,h.len,h.KQ,λj s hj=>?_⟩;obtain⟨p,q,h1,h2,h3⟩:=h.row j s hj;refine⟨p,q,h1,λhlt=>?_,h3⟩;obtain⟨a1,a2,a3,a4⟩:=h2 hlt;exact⟨aY.set a1 (lU hz hu a1),aY.set a2 (lU hz hu a2),a3,a4⟩
theorem RW(h:bG E)(h':mL E){v:V}{x:aD}(hv:JC v x)(hs:Small x):aB E 69 [v] Z λv σ'=>σ'=Z/\Ve v x:=by
 have ev:=hv.snap (E:=E) Z;obtain⟨a,b,c,d,rfl,ia,ib,ic,id⟩:=hv;have o1:=aQ ia.bE;have o2:=aQ ib.bE;have o3:=aQ ic.bE;have o4:=aQ id.bE;have l4:=hs.steps;rw[aH h'.hs69 h'.sp69 h'.fn69 h'.md69 (args':=[.agg [.str x.name,a,b,c,d]]) (by simp only[aW,ev]),aU (by kernel_rfl)];simp only[aA,Tryz.f69,KP,↓reduceIte,ε,μ,h.bO,o1,o2,o3,o4];refine ads h h' ia ib ic id hs _ ?_ ?_
 ·simp+decide only[GS]
 intro F1 τ1 w1 w2 w3 w4 g1 g2 b0 z0 ow1 ow2 ow3 ow4 sep;have g2:F1.get 2=.ref 1 0:=g2.trans (by simp+decide only[GS]);obtain⟨k1,t1⟩:=o_ ow1;obtain⟨k2,t2⟩:=o_ ow2;obtain⟨k3,t3⟩:=o_ ow3;rcases ow4 with⟨rfl,hst⟩ | ⟨b4,rs,ex,rfl,hb,ha⟩
 ·have ln:∀Z,lenOf E Z 44 .aG=some 0:=λZ=>by unfold lenOf;rw[h.gA]
  simp only[KP,ι,↓reduceIte,ε,reduceCtorEq,h.gA,h.bO,g1,b0,ln];rw[aF];have hz1:=(AI.1 z0).1;have s1:∀y,(τ1.set 1 y)[1]?=some y:=λy=>br hz1;obtain⟨a',e1,j1⟩:=rN h (aY.set (y:=ζ 46 [.str x.name,w1,w2,w3,.aG] true) ow1 (lU z0 (by decide) ow1));obtain⟨b',e2,j2⟩:=rN h (aY.set (y:=ζ 46 [.str x.name,w1,w2,w3,.aG] true) ow2 (lU z0 (by decide) ow2));obtain⟨c',e3,j3⟩:=rN h (aY.set (y:=ζ 46 [.str x.name,w1,w2,w3,.aG] true) ow3 (lU z0 (by decide) ow3));have e0:∀Y (z:bF),aR.one Y E.ty false (.str z)=some (.str z):=λY z=>rfl;have e5:∀Y,aR.one Y E.ty false .aG=some .aG:=λY=>rfl;simp only[KP,ι,Ξ,↓reduceIte,δ,ε,μ,dv,h.bO,g1,g2,b0,z0,k1,k2,k3,s1,e0,e1,e2,e3,e5,cQ,aR,aW];exact⟨a',b',c',.aG,rfl,j1,j2,j3,.inl ⟨rfl,hst⟩⟩
 ·generalize hn:x.steps.length=n at *;obtain⟨hb2,d1,d2,d3⟩:=sep b4 rfl;have ln:∀Z,lenOf E Z 44 (.sl b4 0 n none)=some n:=λZ=>by unfold lenOf;rw[h.gA]
  simp only[KP,ι,↓reduceIte,ε,reduceCtorEq,h.gA,h.bO,g1,b0,ln];refine aV (λi F Y=>F.get 1=.ref 0 0/\F.get 2=.ref 1 0/\F.get 22=.int .i64 (n:Int)/\F.get 23=.int .i64 (i:Int)/\Y[0]?=some (ζ 46 [.str x.name,w1,w2,w3,.sl b4 0 n none] true)/\Y[1]?=some (ζ 46 [.str [],.aG,.aG,.aG,.aG] true)/\aY aP 9 Y w1 x.ins/\aY aP 9 Y w2 x.outs/\aY aP 9 Y w3 x.after/\∃R,Sn Y b4 i R ex x.steps) n ?_ ?_ n 0 _ _ (by omega) (fZ (by simp+decide only[GS,g1,g2,aj]) ⟨b0,z0,ow1,ow2,ow3,rs,Sn.start hb ha⟩)
  ·rintro i F Y hi ⟨g1,g2,g22,g23,b0,z0,ow1,ow2,ow3,R,sa⟩ next
   obtain⟨s,hsi⟩:∃y,x.steps[i]?=some y:=⟨_,AT (by omega)⟩;obtain⟨p,q,hr,-,hpq⟩:=sa.row i s hsi;obtain⟨ip,iq⟩:=hpq (OF _);have hsm:=ag hsi;have hlt:=dR hi;have hadd:=bW i (by omega);rw[aF];simp only[KP,↓reduceIte,δ,ε,g22,g23,hlt];refine adr h h' b0 sa.hb sa.KQ hr hi ip iq (hs.args s hsm) (hs.lits s hsm) hb2 _ ?_ ?_ ?_
   ·simp+decide only[GS,g1]
   ·simp+decide only[GS]
   intro F' τ' wp wq hF hb' op oq hk f1 f2;have q1:F'.get 1=.ref 0 0:=(hF 1 (by simp)).trans (by simp+decide only[GS,g1]);have q2:F'.get 2=.ref 1 0:=(hF 2 (by simp)).trans (by simp+decide only[GS,g2]);have q22:F'.get 22=.int .i64 (n:Int):=(hF 22 (by simp)).trans (by simp+decide only[GS,g22]);have q23:F'.get 23=.int .i64 (i:Int):=(hF 23 (by simp)).trans (by simp+decide only[GS,g23]);simp only[KP,↓reduceIte,ε,q23,hadd];exact next _ _ (fZ (by simp+decide only[GS,q1,q2,q22,aj]) ⟨hk 0 _ b0 (by omega),hk 1 _ z0 (by omega),ow1.keep λc o hc ho=>hk c o ho (λe=>d1 (by rw[hc,e])),ow2.keep λc o hc ho=>hk c o ho (λe=>d2 (by rw[hc,e])),ow3.keep λc o hc ho=>hk c o ho (λe=>d3 (by rw[hc,e])),_,sa.step hsi hb' op oq hk f1 f2⟩)
  ·rintro F Y ⟨g1,g2,g22,g23,b0,z0,ow1,ow2,ow3,R,sa⟩;have hlt:=dW (bt n);have hz1:=(AI.1 z0).1;have s1:∀y,(Y.set 1 y)[1]?=some y:=λy=>br hz1;obtain⟨a',e1,j1⟩:=rN h (aY.set (y:=ζ 46 [.str x.name,w1,w2,w3,.sl b4 0 n none] true) ow1 (lU z0 (by decide) ow1));obtain⟨b',e2,j2⟩:=rN h (aY.set (y:=ζ 46 [.str x.name,w1,w2,w3,.sl b4 0 n none] true) ow2 (lU z0 (by decide) ow2));obtain⟨c',e3,j3⟩:=rN h (aY.set (y:=ζ 46 [.str x.name,w1,w2,w3,.sl b4 0 n none] true) ow3 (lU z0 (by decide) ow3));obtain⟨d',e4,t4,j4⟩:=HX h (sa.aa5 (y:=ζ 46 [.str x.name,w1,w2,w3,.sl b4 0 n none] true) z0 (by decide) hb2) hn.symm
   have e4:aR.one (Y.set 1 (ζ 46 [.str x.name,w1,w2,w3,.sl b4 0 n none] true)) E.ty false (.sl b4 0 n none)=some d':=by
    unfold aR.one;rw[show dN=12 from rfl,e4];simp only[t4,bf]
   have e0:∀Y (z:bF),aR.one Y E.ty false (.str z)=some (.str z):=λY z=>rfl;rw[aF];simp only[KP,ι,Ξ,↓reduceIte,δ,ε,μ,h.bO,g1,g2,g22,g23,hlt,b0,z0,k1,k2,k3,s1,e0,e1,e2,e3,e4,cQ,aR,aW];exact⟨a',b',c',d',rfl,j1,j2,j3,j4⟩
end
end
end Go.Proofs.YtmbikbgdbbcbmaaGreatDoor
namespace Go.Proofs.YtmbikbgdbbcbmaaGreatDoor.Lb
open Go Go.Ax Go.AxS
def LVf(v:V)(l:List aC):Prop:=(v=.aG/\l=[])\/∃full,v=.bV false (l.map row) full
theorem LVf.lv{v:V}{l:List aC}(h:LVf v l):LV v l:=h.imp id λ⟨full,e⟩=>⟨false,full,e⟩
section
section
variable {E:Env}{Z:Sg}{K:V->Sg->Prop}
theorem yR(n:Nat)(h:n<=10000000000000):wr .i64 ((n:Int)+1)=((n+1:Nat):Int):=by
 rw[Aw,az]
 ·rfl
 ·rw[ak,af,af];exact⟨show (-9223372036854775808:Int)<=(n:Int)+1 by omega,show (n:Int)+1<=(9223372036854775807:Int) by omega⟩
theorem Hh(h:bK E)(c:Bool)(a b:Bool)(s t:List Nat):mM E 51 c (.agg [.bool a,.str s]) (.agg [.bool b,.str t])=some (decide (((a,s):aC)=(b,t))):=by
 unfold mM;simp only[h.bU,h.Uq,Ax.eqs];rw[zF];cases a <;> cases b <;> simp
end
def gU(ks:List aC):List (V × V):=ks.map λk=>(V.agg [.bool k.1,.str k.2],du true)
structure cF (Z:Sg) (b m:Nat) (ks:List aC):Prop where
 obj:Z[b]?=some (.cells 92 [.mp m] true)
 map:Z[m]?=some (.map (gU ks))
 nodup:ks.Nodup
def Kp(Z σ':Sg)(m:Nat):Prop:=∀(j:Nat)(o:O),j≠m->Z[j]?=some o->σ'[j]?=some o
def lF(Z σ':Sg):Prop:=∀(j:Nat)(o:O),Z[j]?=some o->σ'[j]?=some o
theorem lF.refl(Z:Sg):lF Z Z:=λ_ _ h=>h
theorem lF.trans{Z Y ρ:Sg}(h:lF Z Y)(k:lF Y ρ):lF Z ρ:=λj o e=>k j o (h j o e)
theorem lF.app(Z Y:Sg):lF Z (Z++Y):=λ_ _ h=>gR h Y
theorem lF.vM{Z σ':Sg}(h:lF Z σ'):dY Z σ':=λb t cs ex e=>h _ _ e
theorem Kp.refl(Z:Sg)(m:Nat):Kp Z Z m:=λ_ _ _ h=>h
theorem Kp.trans{Z Y ρ:Sg}{m:Nat}(h:Kp Z Y m)(k:Kp Y ρ m):Kp Z ρ m:=λj o hj e=>k j o hj (h j o hj e)
theorem Kp.vM{Z σ':Sg}{m:Nat}{es:List (V × V)}(h:Kp Z σ' m)(hm:Z[m]?=some (.map es)):dY Z σ':=λb t cs ex e=>h _ _ (λhb=>by subst hb;rw[hm]at e;cases e) e
theorem lF.kp{Z σ':Sg}(h:lF Z σ')(m:Nat):Kp Z σ' m:=λj o _ e=>h j o e
theorem cF.ne{Z:Sg}{b m:Nat}{ks:List aC}(h:cF Z b m ks):b≠m:=λe=>by
 subst e;have:=h.obj;rw[h.map]at this;cases this
theorem cF.kY{Z σ':Sg}{b m:Nat}{ks:List aC}(h:cF Z b m ks)(k:lF Z σ'):cF σ' b m ks:=⟨k _ _ h.obj,k _ _ h.map,h.nodup⟩
theorem cF.kp{Z σ':Sg}{b m m':Nat}{ks ks':List aC}{b':Nat}(h:cF Z b m ks)(h':cF Z b' m' ks')(hm:m≠m')(k:Kp Z σ' m'):cF σ' b m ks:=
 ⟨k _ _ (λe=>by subst e;have:=h.obj;rw[h'.map]at this;cases this) h.obj,k _ _ hm h.map,h.nodup⟩
section
variable {E:Env}{Z:Sg}{K:V->Sg->Prop}
theorem nQ(h:bK E)(a b:Bool)(s t:List Nat):dG E 51 (.agg [.bool a,.str s]) (.agg [.bool b,.str t])=some (decide (((a,s):aC)=(b,t))):=by
 unfold dG;simp only[h.bU,h.Uq,Ax.eqs];rw[zF];cases a <;> cases b <;> simp
theorem jU(h:bK E)(a:Bool)(s:List Nat):eH E 51 (.agg [.bool a,.str s])=true:=by
 unfold eH;simp only[h.bU,h.Uq,Ax.eqs];rfl
theorem KI(y:aC)(r:List aC)(x:aC)(hxy:x≠y):kL (y::r) x=y::kL r x:=by
 unfold kL;by_cases hx:x∈r
 ·rw[az hx,az (ae _ hx)]
 ·rw[an hx,an (by simp[hxy,hx])];rfl
theorem Fv(h:bK E)(x:aC):∀ks:List aC,kX (dG E 51) (.agg [.bool x.1,.str x.2]) (.bool true) (gU ks)=some (gU (kL ks x))
 | []=>rfl
 |y::r=>by
  show (match dG E 51 (.agg [.bool x.1,.str x.2]) (.agg [.bool y.1,.str y.2]) with
   |some true=>some ((V.agg [.bool x.1,.str x.2],du true)::gU r)
   |some false=>(match kX (dG E 51) (.agg [.bool x.1,.str x.2]) (.bool true) (gU r) with
    |some r'=>some ((V.agg [.bool y.1,.str y.2],du true)::r')
    |none=>none)
   |none=>none)=_
  rw[nQ h,Fv h x r];by_cases hxy:x=y
  ·rw[BY (show ((x.1,x.2):aC)=(y.1,y.2) from hxy)];subst hxy;unfold kL;rw[az (No ..)];rfl
  ·rw[AS (show ¬ ((x.1,x.2):aC)=(y.1,y.2) from hxy),KI y r x hxy];rfl
theorem E1(h:bK E)(a:Bool)(s:List Nat):storeAt E (Z++[.cells 51 [.bool false,.str []] true]) 51 (.ref Z.length 0) (.agg [.bool a,.str s])=some (Z++[.cells 51 [.bool a,.str s] true]):=by
 unfold storeAt;simp only[h.bU];rw[bg (OF _),j9];refine(az rfl).trans ?_;rw[o7 _ _ (OF _),j9];rfl
theorem Dx(h:bK E)(a:Bool)(s:List Nat):loadAt E (Z++[.cells 51 [.bool a,.str s] true]) 51 (.ref Z.length 0)=some (.agg [.bool a,.str s]):=by
 unfold loadAt;simp only[h.bU];rw[bg (OF _),j9];rfl
theorem rV(h:bK E){b m:Nat}(hb:Z[b]?=some (.cells 92 [.mp m] true)):loadAt E Z 88 (.ref b 0)=some (.mp m):=by
 unfold loadAt;simp only[h.q_,hb];rfl
theorem GK(h:bK E){m:Nat}{ks:List aC}(hm:Z[m]?=some (.map (gU ks)))(x:aC):mapUpdate E Z 88 (.mp m) (.agg [.bool x.1,.str x.2]) (.bool true)=some (Z.set m (.map (gU (kL ks x)))):=by
 unfold mapUpdate;simp only[h.q_,jU h,hm,Fv h];rfl
theorem Cq(h:bK E){m:Nat}{ks:List aC}(hm:Z[m]?=some (.map (gU ks))):lenOf E Z 88 (.mp m)=some ks.length:=by
 unfold lenOf;simp only[h.q_,hm];simp[gU]
theorem JJ(h:bK E){b m:Nat}{ks l:List aC}{v:V}{n0:Int}(hsm:l.length<=10000000000){σ0:Sg}{s:List iT}{Q:io->Fr->Sg->Prop}
  (hQ:∀(F':FT)(σ':Sg),cF σ' b m (keys ks l)->Kp σ0 σ' m->F'.get 0=.ref b 0->F'.get 5=.int .i64 n0->M E s .normal ⟨48,F'⟩ σ' Q) :
  ∀(k i:Nat)(F:FT)(σ':Sg),i+k=l.length->cF σ' b m (keys ks (l.take i))->SV σ' v l->Kp σ0 σ' m->F.get 0=.ref b 0->F.get 5=.int .i64 n0->F.get 27=v->F.get 28=.int .i64 (l.length:Int)->F.get 29=.int .i64 (i:Int) ->
   R E (.loop (η [1,1,1,1,0,1,2,2] (aA Tryz.f70).code)) (.blk 0::s) ⟨48,F⟩ σ' Q:=by
 have d9:=h.adh;simp only[aA,Tryz.f70,η,ay]at d9;intro k
 induction k with
 |zero=>
  intro i F σ' hi hs hv hk g0 g5 g27 g28 g29;have hlt:decide ((i:Int)<(l.length:Int))=false:=AS (by omega);rw[aF];simp only[aA,Tryz.f70,KP,↓reduceIte,ε,η,g28,g29,hlt];rw[ah (by omega)]at hs;refine hQ _ _ hs hk ?_ ?_ <;> simp only[FT.bX,g0,g5,↓reduceIte,δ,reduceCtorEq]
 |succ k ih=>
  intro i F σ' hi hs hv hk g0 g5 g27 g28 g29;have hlt:decide ((i:Int)<(l.length:Int))=true:=BY (by omega);obtain⟨x,hx⟩:∃x,l[i]?=some x:=⟨_,AT (by omega)⟩;obtain⟨pa,e1,e2⟩:=MR h hv hx;have e2:=e2 _ (dY.refl _);have hadd:=yR i (by omega);have lm:=rV h (gR hs.obj [.cells 51 [.bool x.1,.str x.2] true]);have pm:=GK h (gR hs.map [.cells 51 [.bool x.1,.str x.2] true]) x;rw[aF];simp only[aA,Tryz.f70,KP,↓reduceIte,δ,ε,reduceCtorEq,h.bU,h.q_,h.oW,h.uQ,η,g0,g27,g28,g29,hlt,e1,e2,E1 h,Dx h,lm,pm,aX d9,bS,hadd];have hml:=(AI.1 hs.map).1;refine ih (i+1) _ _ (by omega) ⟨?_,?_,?_⟩ ?_ ?_ ?_ ?_ ?_ ?_ ?_
  ·rw[aa hs.ne.symm];exact gR hs.obj _
  ·rw[br (by rw[By];omega)];rw[dz,hx];show some (qe (gU (kL (keys ks (l.take i)) x)))=some (qe (gU (List.foldl kL ks (l.take i++[x]))));rw[List.foldl_append];rfl
  ·rw[dz,hx];show (List.foldl kL ks (l.take i++[x])).Nodup;rw[List.foldl_append];exact IQ hs.nodup
  ·refine hv.keep λj t cs ex e=>?_;rw[aa (λhj=>by subst hj;rw[hs.map]at e;cases e)];exact gR e _
  ·refine hk.trans λj o hj e=>?_;rw[aa (λh=>hj h.symm)];exact gR e _
  all_goals simp only[FT.bX,g0,g5,g27,g28,↓reduceIte,δ,reduceCtorEq]
theorem VH(a b:Nat)(ha:a<=1000000000000)(hb:b<=1000000000000):wr .i64 ((a:Int)-(b:Int))=(a:Int)-(b:Int):=by
 rw[Aw,az];rw[ak,af,af];exact⟨show (-9223372036854775808:Int)<=_ by omega,show _<=(9223372036854775807:Int) by omega⟩
theorem Jr(h:bK E){b m:Nat}{ks l:List aC}{v:V}(hs:cF Z b m ks)(hv:SV Z v l)(hsm:l.length<=10000000000)(hks:ks.length<=10000000000) :
  aB E 70 [.ref b 0,v] Z λr σ'=>r=.int .i64 (((keys ks l).length:Int)-(ks.length:Int))/\cF σ' b m (keys ks l)/\Kp Z σ' m:=by
 rw[cJ h.aa9 h.YA h.ab6 h.aad,aU (by kernel_rfl)];have lm:=rV h hs.obj;have lk:=Cq h hs.map;have lv:lenOf E Z 23 v=some l.length:=QS h hv;simp only[aA,Tryz.f70,KP,↓reduceIte,δ,ε,μ,reduceCtorEq,h.qP,h.q_,h.oW,h.uQ,lm,lk,lv,mM];refine JJ h hsm (σ0:=Z) (n0:=(ks.length:Int)) (λF' σ' hs' hk' g0 g5=>?_) l.length 0 _ Z (by omega) hs hv (Kp.refl _ _) ?_ ?_ ?_ ?_ ?_
 ·have lm2:=rV h hs'.obj;have lk2:=Cq h hs'.map;have hl:=mF (xs:=l) (l:=ks);have hsub:=VH (keys ks l).length ks.length (by omega) (by omega);simp only[KP,↓reduceIte,δ,ε,reduceCtorEq,h.q_,h.oW,h.uQ,lm2,lk2,g0,g5,hsub];exact⟨hs',hk'⟩
 all_goals simp only[FT.bX,KP,↓reduceIte,δ,reduceCtorEq]
 all_goals rfl
theorem QI(h:bK E){b:Nat}(hb:Z[b]?=some (.cells 92 [.cA] true)):loadAt E Z 88 (.ref b 0)=some .cA:=by
 unfold loadAt;simp only[h.q_,hb];rfl
theorem Nf(h:bK E){b m:Nat}{u:V}(hb:Z[b]?=some (.cells 92 [u] true)):storeAt E Z 88 (.ref b 0) (.mp m)=some (Z.set b (.cells 92 [.mp m] true)):=by
 unfold storeAt;simp only[h.q_,hb];rfl
theorem R4(h:bK E){b:Nat}{l:List aC}{v:V}(hb:Z[b]?=some (.cells 92 [.cA] true))(hv:SV Z v l)(hsm:l.length<=10000000000) :
  aB E 70 [.ref b 0,v] Z λr σ'=>∃m,cF σ' b m (keys [] l)/\Z.length<=m/\∀j o,j≠b->Z[j]?=some o->σ'[j]?=some o:=by
 rw[cJ h.aa9 h.YA h.ab6 h.aad,aU (by kernel_rfl)];have hbl:=(AI.1 hb).1;have ln:=QI h hb;have st:=Nf h (m:=Z.length) (gR hb [.map []])
 have hs1:cF ((Z++[qe []]).set b (.cells 92 [.mp Z.length] true)) b Z.length []:=by
  refine⟨br (by rw[By];omega),?_,nodup_nil⟩;rw[aa (by omega),bg (OF _),j9];rfl
 have hk1:∀j o,j≠b->Z[j]?=some o->((Z++[qe []]).set b (.cells 92 [.mp Z.length] true))[j]?=some o:=λj o hj e=>by
  rw[aa (λe=>hj e.symm)];exact gR e _
 have hv1:SV ((Z++[qe []]).set b (.cells 92 [.mp Z.length] true)) v l:=by
  rcases hv with hv | hv | ⟨j,cs,ex,e1,e2,e3⟩
  ·exact .inl hv
  ·exact .inr (.inl hv)
  ·refine .inr (.inr ⟨j,cs,ex,e1,hk1 j _ (λe=>?_) e2,e3⟩);subst e;rw[hb]at e2;cases e2
 have lm:=rV h hs1.obj;have lk:=Cq h hs1.map
 have lv:∀σ',lenOf E σ' 23 v=some l.length:=λσ'=>by
  unfold lenOf;rw[h.fF];rcases hv with⟨rfl,rfl⟩ | ⟨g,full,rfl⟩ | ⟨j,cs,ex,rfl,e2,e3⟩
  ·rfl
  ·simp
  ·rfl
 simp only[aA,Tryz.f70,KP,↓reduceIte,δ,ε,μ,reduceCtorEq,h.qP,h.q_,h.oW,h.uQ,ln,st,lm,lk,lv,mM];refine JJ h hsm (σ0:=(Z++[qe []]).set b (.cells 92 [.mp Z.length] true)) (n0:=0) (λF' σ' hs' hk' g0 g5=>?_) l.length 0 _ _ (by omega) hs1 hv1 (Kp.refl _ _) ?_ ?_ ?_ ?_ ?_
 ·have lm2:=rV h hs'.obj;have lk2:=Cq h hs'.map;simp only[KP,↓reduceIte,δ,ε,reduceCtorEq,h.q_,h.oW,h.uQ,lm2,lk2,g0,g5];refine⟨Z.length,hs',OF _,λj o hj e=>?_⟩;have hjl:=(AI.1 e).1;exact hk' j o (by omega) (hk1 j o hj e)
 all_goals simp only[FT.bX,KP,↓reduceIte,δ,reduceCtorEq]
 all_goals rfl
theorem Em(h:bK E){l:List aC}{v:V}(hv:SV Z v l)(hsm:l.length<=10000000000) :
  aB E 60 [v] Z λr σ'=>∃m,r=.ref Z.length 0/\cF σ' Z.length m (keys [] l)/\Z.length<m/\lF Z σ':=by
 rw[cJ h.hs60 h.sp60 h.fn60 h.md60,aU (by kernel_rfl)];simp only[aA,Tryz.f60,KP,↓reduceIte,δ,ε,reduceCtorEq,h.oW,h.uQ,hZ]
 have hb:(Z++[ζ 92 [.cA] true])[Z.length]?=some (.cells 92 [.cA] true):=by
  rw[bg (OF _),j9];rfl
 refine aK (R4 h hb (hv.keep (dY.app _ _)) hsm) ?_;rintro r σ' ⟨m,hs,hm,hk⟩;simp only[KP,↓reduceIte,δ,ε];rw[By]at hm;refine⟨m,hs,by simp at hm;omega,λj o e=>?_⟩;have hjl:=(AI.1 e).1;exact hk j o (by omega) (gR e _)
theorem AL(ks:List aC):(gU ks).map (λ(e:V × V)=>rowOf e.1)=ks.map row:=by
 unfold gU;rw[js];rfl
theorem uA:∀ks:List aC,(∀k∈ks,k.2.length<=9223372036854775807)->allRows kK (ks.map row)=true
 | [],_=>rfl
 |k::ks,hk=>by
  show (match gd k.2.length 9223372036854775807 with
   |true=>allRows kK (ks.map row)
   |false=>false)=true
  rw[jz (hk k (No ..))];exact uA ks λx hx=>hk x (ae _ hx)
theorem Ni{ks:List aC}(hn:ks.Nodup)(hlen:ks.length<=1000000)(hstr:∀k∈ks,k.2.length<=9223372036854775807){j m:Nat}(hj:Z[j]?=some (.cells 88 [.mp m] true))(hm:Z[m]?=some (.map (gU ks))) :
  kM 51 [154] [] 118 [.fn 154 [] [.ref j 0],.fn 118 [] []] Z=some (if ks=[] then (.aG,Z) else (.sl Z.length 0 ks.length none,Z++[.cells 51 ((setOf ks).flatMap row) false])):=by
 have hk:keysOf Z [154] [] (.fn 154 [] [.ref j 0])=some (ks.map row):=by
  unfold keysOf;simp only[hj]
  show (match Z[m]? with
   |some (.map es)=>some (es.map λ(e:V × V)=>rowOf e.1)
   |_=>none)=_
  rw[hm];exact b8 some (AL ks)
 show n_ 51 [154] [] kK qE (.fn 154 [] [.ref j 0]) Z=_;unfold n_;rw[hk];cases hks:ks with
 |nil=>rfl
 |cons k r=>
  have ha:=uA ks hstr;have hs:=AF hn;rw[hks]at ha hs hlen;rw[bj]at ha hs ⊢;rw[an (by simp)]
  show (match allRows kK (row k::r.map row),gd (row k::r.map row).length 1000000 with
   |true,true=>some (V.sl Z.length 0 (row k::r.map row).length none,Z++[ζ 51 (lA qE (row k::r.map row)).flatten false])
   |_,_=>none)=_
  rw[ha,jz (by simpa using hlen),hs,DT];simp
theorem XY(h:bK E){m:Nat}:aB E 117 [.mp m] Z K=K (.fn 154 [] [.ref Z.length 0]) (Z++[.cells 88 [.mp m] true]):=by
 refine aB.of ?_;rw[cJ h.Rf h.PG h.Rx h.Qt,aU (by kernel_rfl)];simp only[aA,Tryz.f117,KP,↓reduceIte,δ,ε,h.q_]
theorem Xj(h:bK E){m:Nat}{ops:Array Oper}{l:List Oper}{dst:Option Nat}{st:List iT}{Q:io->Fr->Sg->Prop}{fr:Fr}:Au E 117 [.mp m] Z dst fr ops l st Q=dP E ops l (some (cW fr dst (.fn 154 [] [.ref Z.length 0]),Z++[.cells 88 [.mp m] true])) st Q:=oK λ_=>XY h
def Own(Z σ':Sg)(r:V)(l:List aC):Prop:=(r=.aG/\l=[])\/∃j,Z.length<=j/\r=.sl j 0 l.length none/\σ'[j]?=some (.cells 51 (l.flatMap row) false)
theorem Own.sv{Z σ':Sg}{r:V}{l:List aC}(h:Own Z σ' r l):SV σ' r l:=by
 rcases h with h | ⟨j,_,h1,h2⟩
 ·exact .inl h
 ·exact .inr (.inr ⟨j,_,_,h1,h2,ah (by rw[kN];exact OF _)⟩)
theorem Vw(h:bK E){b m:Nat}{ks:List aC}(hs:cF Z b m ks)(hlen:ks.length<=1000000)(hstr:∀k∈ks,k.2.length<=9223372036854775807) :
  aB E 65 [.ref b 0] Z λr σ'=>Own Z σ' r (setOf ks)/\lF Z σ':=by
 rw[cJ h.Xm h.VV h.Xs h.WS,aU (by kernel_rfl)];have lm:=rV h hs.obj;simp only[aA,Tryz.f65,KP,↓reduceIte,ε,reduceCtorEq,h.q_,h.oW,h.CL,lm,mM,Xj h]
 have hj:(Z++[ζ 88 [.mp m] true])[Z.length]?=some (.cells 88 [.mp m] true):=by
  rw[bg (OF _),j9];rfl
 have hsk:=Ni hs.nodup hlen hstr hj (gR hs.map _);unfold Au;rw[mO h.Rh,hsk];by_cases hks:ks=[]
 ·rw[az hks,Ab];simp only[KP,↓reduceIte,ε];subst hks;exact⟨.inl ⟨rfl,rfl⟩,lF.app _ _⟩
 ·rw[an hks,Ab];simp only[KP,↓reduceIte,ε];refine⟨.inr ⟨_,?_,by rw[oZ hs.nodup],?_⟩,λj o e=>gR (gR e _) _⟩
  ·rw[By];omega
  ·rw[bg (OF _),j9];rfl
theorem zW{α:Type}{f:α->Option α}:∀l:List α,(∀x∈l,f x=some x)->aW f l=some l
 | [],_=>rfl
 |x::l,h=>by rw[aW,h x (No ..),zW l λy hy=>h y (ae _ hy)]
theorem PL{b m:Nat}{ks:List aC}(hs:cF Z b m ks):aR Z E.ty true (.ref b 0)=some (.cR true [.imp true (gU ks)]):=by
 have e1:bA Z E.ty true 11 (.mp m)=some (.imp true (gU ks)):=by
  rw[bA];simp only[hs.map];rw[zW (gU ks)];intro e he;obtain⟨k,_,rfl⟩:=cv.1 he;rfl
 have e2:bA Z E.ty true 12 (.ref b 0)=some (.cR true [.imp true (gU ks)]):=by
  rw[bA];simp only[hs.obj,ez]
  show (match aW (λv=>match bA Z E.ty true 11 v with
   |some v=>if cI true v then some v else no "snap: borrowed"
   |none=>none) [V.mp m] with
   |some l=>some (V.cR true l)
   |none=>none)=_
  simp only[aW,e1];rfl
 show (match bA Z E.ty true 12 (.ref b 0) with
  |some v=>if cI true v then some v else no "snap: borrowed"
  |none=>none)=_
 rw[e2];rfl
theorem tG(h:bK E)(x:aC):∀ks:List aC,jA (dG E 51) (.agg [.bool x.1,.str x.2]) (gU ks)=some (if x∈ks then some (.bool true) else none)
 | []=>rfl
 |y::r=>by
  show (match dG E 51 (.agg [.bool x.1,.str x.2]) (.agg [.bool y.1,.str y.2]) with
   |some true=>some (some (du true))
   |some false=>jA (dG E 51) (.agg [.bool x.1,.str x.2]) (gU r)
   |none=>none)=_
  rw[nQ h,tG h x r];by_cases hxy:x=y
  ·rw[BY (show ((x.1,x.2):aC)=(y.1,y.2) from hxy)];show some (some (du true))=some (if x∈y::r then some (du true) else none);rw[az (by rw[hxy];exact No ..)]
  ·rw[AS (show ¬ ((x.1,x.2):aC)=(y.1,y.2) from hxy)];by_cases hx:x∈r
   ·rw[az hx,az (ae _ hx)]
   ·rw[an hx,an (by simp[hxy,hx])]
structure UnionE (E:Env):Prop where
 hs:E.hspec 61=none
 sp:E.spec 61=none
 fn:E.fn 61=some (aA Tryz.f61)
 md:E.mode 61=.shared
end
end
end Go.Proofs.YtmbikbgdbbcbmaaGreatDoor.Lb
namespace Go.Proofs.YtmbikbgdbbcbmaaGreatDoor
open Go Go.Ax Go.AxS
section
section
variable {E:Env}{Z:Sg}{K:V->Sg->Prop}
structure dL where
 key:aC
 s:Nat
 m:Nat
 ks:List aC
def iO(x:aC):V:=.agg [.bool x.1,.str x.2]
def pD(e:dL):V × V:=(iO e.key,.ref e.s 0)
structure jG (Z:Sg) (b:Nat) (L:List dL):Prop where
 map:Z[b]?=some (.map (L.map pD))
 sets:∀e∈L,Lb.cF Z e.s e.m e.ks
 nodup:(L.map dL.key).Nodup
theorem Dk(hl:bv E)(x:aC):∀L:List dL,jA (dG E 51) (iO x) (L.map pD)=some ((L.find? λe=>decide (x=e.key)).map λe=>.ref e.s 0)
 | []=>rfl
 |e::L=>by
  show (match dG E 51 (.agg [.bool x.1,.str x.2]) (.agg [.bool e.key.1,.str e.key.2]) with
   |some true=>some (some (V.ref e.s 0))
   |some false=>jA (dG E 51) (iO x) (L.map pD)
   |none=>none)=_
  rw[Lb.nQ hl,mw];by_cases h:x=e.key
  ·rw[BY (show ((x.1,x.2):aC)=(e.key.1,e.key.2) from h)];rfl
  ·rw[AS (show ¬ ((x.1,x.2):aC)=(e.key.1,e.key.2) from h)];exact Dk hl x L
theorem Fw(hl:bv E)(x:aC)(s m:Nat)(ks:List aC):∀L:List dL,(∀e∈L,x≠e.key)->kX (dG E 51) (iO x) (.ref s 0) (L.map pD)=some ((L++[dL.mk x s m ks]).map pD)
 | [],_=>rfl
 |e::L,h=>by
  have hx:=h e (No ..)
  show (match dG E 51 (.agg [.bool x.1,.str x.2]) (.agg [.bool e.key.1,.str e.key.2]) with
   |some true=>some ((iO x,V.ref s 0)::L.map pD)
   |some false=>(match kX (dG E 51) (iO x) (.ref s 0) (L.map pD) with
    |some r=>some (pD e::r)
    |none=>none)
   |none=>none)=_
  rw[Lb.nQ hl,AS (show ¬ ((x.1,x.2):aC)=(e.key.1,e.key.2) from hx),Fw hl x s m ks L λy hy=>h y (ae _ hy)];rfl
def bQ(L:List dL)(x:aC):Option dL:=L.find? λe=>decide (x=e.key)
theorem FF(h':mL E)(hl:bv E){Z:Sg}{b:Nat}{L:List dL}(hm:Z[b]?=some (.map (L.map pD)))(x:aC):lookup E Z 98 (.mp b) (iO x) false=some (match bQ L x with | some e=>.ref e.s 0 | none=>.fV):=by
 have hk:=Lb.jU hl x.1 x.2;unfold pj;simp only[h'.xR,hl.qP,iO,hk,bm,hm,dm,ai,b9];have:=Dk hl x L;unfold iO at this;rw[this];unfold bQ;cases L.find? λe=>decide (x=e.key) <;> rfl
theorem zX(h':mL E)(hl:bv E){Z:Sg}{b:Nat}{L:List dL}(hm:jG Z b L)(x:aC):lookup E Z 98 (.mp b) (iO x) false=some (match bQ L x with | some e=>.ref e.s 0 | none=>.fV):=FF h' hl hm.map x
theorem GK(h':mL E)(hl:bv E){Z:Sg}{b:Nat}{L:List dL}(hm:jG Z b L){x:aC}(hx:bQ L x=none){s m:Nat}{ks:List aC}:mapUpdate E Z 98 (.mp b) (iO x) (.ref s 0)=some (Z.set b (.map ((L++[dL.mk x s m ks]).map pD))):=by
 have hk:=Lb.jU hl x.1 x.2
 have hne:∀e∈L,x≠e.key:=λe he hxe=>by
  have:=lj.1 hx e he;simp[hxe]at this
 have:=Fw hl x s m ks L hne;unfold iO at this;unfold c9;simp only[h'.xR,iO,hk,hm.map,this,fG,V.aZ,dm,j8,ai,b9,ck]
theorem cF.keep{Z σ':Sg}{s m x:Nat}{ks:List aC}{es:List (V × V)}(h:Lb.cF Z s m ks)(hx:Z[x]?=some (.map es))(hm:m≠x)(k:∀(j:Nat)(o:O),j≠x->Z[j]?=some o->σ'[j]?=some o):Lb.cF σ' s m ks:=by
 refine⟨k _ _ (λe=>?_) h.obj,k _ _ hm h.map,h.nodup⟩;have:=h.obj;rw[e,hx]at this;cases this
theorem jG.keep{Z σ':Sg}{b x:Nat}{L:List dL}{es:List (V × V)}(h:jG Z b L)(hx:Z[x]?=some (.map es))(hb:b≠x)(hm:x ∉ L.map dL.m)(k:∀(j:Nat)(o:O),j≠x->Z[j]?=some o->σ'[j]?=some o):jG σ' b L:=
 ⟨k _ _ hb h.map,λe he=>cF.keep (h.sets e he) hx (λe'=>hm (cv.2 ⟨e,he,e'⟩)) k,h.nodup⟩
def qS(L:List dL)(x:aC)(ks:List aC):List dL:=L.map λe=>if e.key=x then { e with ks:=ks } else e
theorem Nd(L:List dL)(x:aC)(ks:List aC):(qS L x ks).map pD=L.map pD:=by
 unfold qS;rw[js];refine jk λe _=>?_;show pD (if e.key=x then _ else e)=pD e;by_cases h:e.key=x
 ·rw[az h];rfl
 ·rw[an h]
theorem EX(L:List dL)(x:aC)(ks:List aC):(qS L x ks).map dL.key=L.map dL.key:=by
 unfold qS;rw[js];refine jk λe _=>?_;show dL.key (if e.key=x then _ else e)=e.key;by_cases h:e.key=x
 ·rw[az h]
 ·rw[an h]
theorem Ls(L:List dL)(x:aC)(ks:List aC):(qS L x ks).map dL.m=L.map dL.m:=by
 unfold qS;rw[js];refine jk λe _=>?_;show dL.m (if e.key=x then _ else e)=e.m;by_cases h:e.key=x
 ·rw[az h]
 ·rw[an h]
theorem AY{β:Type}{f:dL->β}:∀{L:List dL},(L.map f).Nodup->∀e∈L,∀e'∈L,f e=f e'->e=e'
 | [],_,e,he,_,_,_=>by cases he
 |a::L,h,e,he,e',he',hm=>by
  rw[bj,dw]at h;rcases IN.1 he with h1 | h1 <;> rcases IN.1 he' with h2 | h2
  ·rw[h1,h2]
  ·exact absurd (cv.2 ⟨e',h2,by rw[<- hm,h1]⟩) h.1
  ·exact absurd (cv.2 ⟨e,h1,by rw[hm,h2]⟩) h.1
  ·exact AY h.2 e h1 e' h2 hm
theorem jG.up{Z σ':Sg}{b:Nat}{L:List dL}{e:dL}{ks:List aC}(h:jG Z b L)(he:e∈L)(hnd:(L.map dL.m).Nodup)(hb:b≠e.m)(hs:Lb.cF σ' e.s e.m ks)(k:∀(j:Nat)(o:O),j≠e.m->Z[j]?=some o->σ'[j]?=some o):jG σ' b (qS L e.key ks):=by
 refine⟨by rw[Nd];exact k _ _ hb h.map,λa ha=>?_,by rw[EX];exact h.nodup⟩;obtain⟨a0,ha0,rfl⟩:=cv.1 ha;by_cases hk:a0.key=e.key
 ·have hae:a0=e:=AY h.nodup a0 ha0 e he hk;subst hae;rw[az rfl];exact hs
 ·rw[an hk];exact cF.keep (h.sets a0 ha0) (h.sets e he).map (λe'=>hk (by rw[AY hnd a0 ha0 e he e'])) k
structure oN (E:Env) (Z:Sg) (gb m0 m1 sa ma b3 b4:Nat) (es0 es1:List (V × V)) (A:List aC) (L3 L4:List dL):Prop where
 g:Z[gb]?=some (.cells 100 [.mp m0,.mp m1,.ref sa 0,.mp b3,.mp b4] true)
 rules:Z[m0]?=some (.map es0)
 jW:Z[m1]?=some (.map es1)
 all:Lb.cF Z sa ma A
 kJ:jG Z b3 L3
 kC:jG Z b4 L4
 sep:(m0::m1::ma::b3::b4::(L3.map dL.m++L4.map dL.m)).Nodup
theorem cF.app{Z:Sg}{s m:Nat}{ks:List aC}(h:Lb.cF Z s m ks)(y:O):Lb.cF (Z++[y]) s m ks:=⟨aI h.obj,aI h.map,h.nodup⟩
theorem jG.app{Z:Sg}{b:Nat}{L:List dL}(h:jG Z b L)(y:O):jG (Z++[y]) b L:=⟨aI h.map,λe he=>cF.app (h.sets e he) y,h.nodup⟩
theorem oN.app{{Z:Sg}}{{gb m0 m1 sa ma b3 b4:Nat}}{{es0 es1:List (V × V)}}{{A:List aC}}{{L3 L4:List dL}}(h:oN E Z gb m0 m1 sa ma b3 b4 es0 es1 A L3 L4)(y:O):oN E (Z++[y]) gb m0 m1 sa ma b3 b4 es0 es1 A L3 L4:=
 ⟨aI h.g,aI h.rules,aI h.jW,cF.app h.all y,h.kJ.app y,h.kC.app y,h.sep⟩
theorem oN.more{{Z σ':Sg}}{{gb m0 m1 sa ma b3 b4:Nat}}{{es0 es1:List (V × V)}}{{A:List aC}}{{L3 L4:List dL}}(h:oN E Z gb m0 m1 sa ma b3 b4 es0 es1 A L3 L4){A':List aC}(hs:Lb.cF σ' sa ma A')(k:∀(j:Nat)(o:O),j≠ma->Z[j]?=some o->σ'[j]?=some o):oN E σ' gb m0 m1 sa ma b3 b4 es0 es1 A' L3 L4:=by
 have sep:=h.sep;simp only[dw,IN,cq,ql]at sep;obtain⟨⟨-,n0,-⟩,⟨n1,-⟩,⟨n3,n4,n5,n6⟩,-⟩:=sep;have hx:=h.all.map
 have ng:gb≠ma:=λe=>by
  have:=h.g;rw[e,hx]at this;cases this
 exact⟨k _ _ ng h.g,k _ _ n0 h.rules,k _ _ n1 h.jW,hs,h.kJ.keep hx (λe=>n3 e.symm) n5 k,h.kC.keep hx (λe=>n4 e.symm) n6 k,h.sep⟩
theorem oN.rule{{Z:Sg}}{{gb m0 m1 sa ma b3 b4:Nat}}{{es0 es1:List (V × V)}}{{A:List aC}}{{L3 L4:List dL}}(h:oN E Z gb m0 m1 sa ma b3 b4 es0 es1 A L3 L4)(es:List (V × V)):oN E (Z.set m0 (.map es)) gb m0 m1 sa ma b3 b4 es es1 A L3 L4:=by
 have sep:=h.sep;simp only[dw,IN,cq,ql]at sep;obtain⟨⟨n1,na,n3,n4,n5,n6⟩,-⟩:=sep;have hx:=h.rules
 have ng:gb≠m0:=λe=>by
  have:=h.g;rw[e,hx]at this;cases this
 have k:∀(j:Nat)(o:O),j≠m0->Z[j]?=some o->(Z.set m0 (.map es))[j]?=some o:=λj o hj ho=>by
  rw[aa (kg hj)];exact ho
 exact⟨k _ _ ng h.g,br (AI.1 hx).1,k _ _ (kg n1) h.jW,cF.keep h.all hx (kg na) k,h.kJ.keep hx (kg n3) n5 k,h.kC.keep hx (kg n4) n6 k,h.sep⟩
theorem oN.Mj{{Z:Sg}}{{gb m0 m1 sa ma b3 b4:Nat}}{{es0 es1:List (V × V)}}{{A:List aC}}{{L3 L4:List dL}}(h:oN E Z gb m0 m1 sa ma b3 b4 es0 es1 A L3 L4)(es:List (V × V)):oN E (Z.set m1 (.map es)) gb m0 m1 sa ma b3 b4 es0 es A L3 L4:=by
 have sep:=h.sep;simp only[dw,IN,cq,ql]at sep;obtain⟨⟨n1,-⟩,⟨na,n3,n4,n5,n6⟩,-⟩:=sep;have hx:=h.jW
 have ng:gb≠m1:=λe=>by
  have:=h.g;rw[e,hx]at this;cases this
 have k:∀(j:Nat)(o:O),j≠m1->Z[j]?=some o->(Z.set m1 (.map es))[j]?=some o:=λj o hj ho=>by
  rw[aa (kg hj)];exact ho
 exact⟨k _ _ ng h.g,k _ _ n1 h.rules,br (AI.1 hx).1,cF.keep h.all hx (kg na) k,h.kJ.keep hx (kg n3) n5 k,h.kC.keep hx (kg n4) n6 k,h.sep⟩
theorem oN.facts{Z:Sg}{gb m0 m1 sa ma b3 b4:Nat}{es0 es1:List (V × V)}{A:List aC}{L3 L4:List dL}(h:oN E Z gb m0 m1 sa ma b3 b4 es0 es1 A L3 L4):(L3.map dL.m).Nodup/\(L4.map dL.m).Nodup/\∀x,x∈L3.map dL.m\/x∈L4.map dL.m->m0≠x/\m1≠x/\ma≠x/\b3≠x/\b4≠x:=by
 have sep:=h.sep;simp only[dw,IN,cq,ql,jx]at sep;obtain⟨⟨-,-,-,-,a5,a6⟩,⟨-,-,-,b5,b6⟩,⟨-,-,c5,c6⟩,⟨-,d5,d6⟩,⟨e5,e6⟩,f1,f2,-⟩:=sep;refine⟨f1,f2,λx hx=>?_⟩;rcases hx with hx | hx
 ·exact⟨λe=>a5 (by rw[e];exact hx),λe=>b5 (by rw[e];exact hx),λe=>c5 (by rw[e];exact hx),λe=>d5 (by rw[e];exact hx),λe=>e5 (by rw[e];exact hx)⟩
 ·exact⟨λe=>a6 (by rw[e];exact hx),λe=>b6 (by rw[e];exact hx),λe=>c6 (by rw[e];exact hx),λe=>d6 (by rw[e];exact hx),λe=>e6 (by rw[e];exact hx)⟩
theorem oN.Vt{Z:Sg}{gb m0 m1 sa ma b3 b4:Nat}{es0 es1:List (V × V)}{A:List aC}{L3 L4:List dL}(h:oN E Z gb m0 m1 sa ma b3 b4 es0 es1 A L3 L4):∀x∈L3.map dL.m,x ∉ L4.map dL.m:=by
 have sep:=h.sep;simp only[dw,IN,cq,ql,jx]at sep;obtain⟨-,-,-,-,-,-,-,f3⟩:=sep;exact λx hx hy=>f3 x hx x hy rfl
theorem oN.Qo{{Z σ':Sg}}{{gb m0 m1 sa ma b3 b4:Nat}}{{es0 es1:List (V × V)}}{{A:List aC}}{{L3 L4:List dL}}(h:oN E Z gb m0 m1 sa ma b3 b4 es0 es1 A L3 L4){e:dL}(he:e∈L3){ks:List aC}(hs:Lb.cF σ' e.s e.m ks)(k:∀(j:Nat)(o:O),j≠e.m->Z[j]?=some o->σ'[j]?=some o):oN E σ' gb m0 m1 sa ma b3 b4 es0 es1 A (qS L3 e.key ks) L4:=by
 obtain⟨f1,f2,f3⟩:=h.facts;have hm:e.m∈L3.map dL.m:=cv.2 ⟨e,he,rfl⟩;obtain⟨n1,n2,n3,n4,n5⟩:=f3 e.m (Or.inl hm);have hx:=(h.kJ.sets e he).map
 have ng:gb≠e.m:=λe'=>by
  have:=h.g;rw[e',hx]at this;cases this
 have nb:=n4;exact⟨k _ _ ng h.g,k _ _ n1 h.rules,k _ _ n2 h.jW,cF.keep h.all hx n3 k,jG.up h.kJ he f1 nb hs k,h.kC.keep hx n5 (λhx'=>h.Vt _ hm hx') k,by rw[Ls];exact h.sep⟩
theorem oN.Pb{{Z σ':Sg}}{{gb m0 m1 sa ma b3 b4:Nat}}{{es0 es1:List (V × V)}}{{A:List aC}}{{L3 L4:List dL}}(h:oN E Z gb m0 m1 sa ma b3 b4 es0 es1 A L3 L4){e:dL}(he:e∈L4){ks:List aC}(hs:Lb.cF σ' e.s e.m ks)(k:∀(j:Nat)(o:O),j≠e.m->Z[j]?=some o->σ'[j]?=some o):oN E σ' gb m0 m1 sa ma b3 b4 es0 es1 A L3 (qS L4 e.key ks):=by
 obtain⟨f1,f2,f3⟩:=h.facts;have hm:e.m∈L4.map dL.m:=cv.2 ⟨e,he,rfl⟩;obtain⟨n1,n2,n3,n4,n5⟩:=f3 e.m (Or.inr hm);have hx:=(h.kC.sets e he).map
 have ng:gb≠e.m:=λe'=>by
  have:=h.g;rw[e',hx]at this;cases this
 have nb:=n5;exact⟨k _ _ ng h.g,k _ _ n1 h.rules,k _ _ n2 h.jW,cF.keep h.all hx n3 k,h.kJ.keep hx n4 (λhx'=>h.Vt _ hx' hm) k,jG.up h.kC he f2 nb hs k,by rw[Ls];exact h.sep⟩
theorem jG.kY{Z σ1:Sg}{b:Nat}{L:List dL}(h:jG Z b L)(k:Lb.lF Z σ1):jG σ1 b L:=⟨k _ _ h.map,λe he=>⟨k _ _ (h.sets e he).obj,k _ _ (h.sets e he).map,(h.sets e he).nodup⟩,h.nodup⟩
theorem oN.kY{{Z σ1:Sg}}{{gb m0 m1 sa ma b3 b4:Nat}}{{es0 es1:List (V × V)}}{{A:List aC}}{{L3 L4:List dL}}(h:oN E Z gb m0 m1 sa ma b3 b4 es0 es1 A L3 L4)(k:Lb.lF Z σ1):oN E σ1 gb m0 m1 sa ma b3 b4 es0 es1 A L3 L4:=
 ⟨k _ _ h.g,k _ _ h.rules,k _ _ h.jW,⟨k _ _ h.all.obj,k _ _ h.all.map,h.all.nodup⟩,h.kJ.kY k,h.kC.kY k,h.sep⟩
theorem oN.below{Z:Sg}{gb m0 m1 sa ma b3 b4:Nat}{es0 es1:List (V × V)}{A:List aC}{L3 L4:List dL}(h:oN E Z gb m0 m1 sa ma b3 b4 es0 es1 A L3 L4){m:Nat}(hm:Z.length<=m):m ∉ m0::m1::ma::b3::b4::(L3.map dL.m++L4.map dL.m):=by
 have lt:∀{i:Nat}{o:O},Z[i]?=some o->i<m:=λe=>ig (AI.1 e).1 hm;have h0:=lt h.rules;have h1:=lt h.jW;have h2:=lt h.all.map;have h3:=lt h.kJ.map;have h4:=lt h.kC.map;intro hx;simp only[IN,cq,cv]at hx;rcases hx with e | e | e | e | e | ⟨e,he,e'⟩ | ⟨e,he,e'⟩
 ·omega
 ·omega
 ·omega
 ·omega
 ·omega
 ·have:=lt (h.kJ.sets e he).map;omega
 ·have:=lt (h.kC.sets e he).map;omega
theorem jG.new{Z:Sg}{b:Nat}{L:List dL}{x:aC}{s m:Nat}(h:jG Z b L)(hx:bQ L x=none)(hs:Lb.cF Z s m [])(hb:b ∉ L.map dL.m)(hm:m≠b):jG (Z.set b (.map ((L++[dL.mk x s m []]).map pD))) b (L++[dL.mk x s m []]):=by
 have k:∀(j:Nat)(o:O),j≠b->Z[j]?=some o->(Z.set b (.map ((L++[dL.mk x s m []]).map pD)))[j]?=some o:=λj o hj ho=>by
  rw[aa (kg hj)];exact ho
 refine⟨br (AI.1 h.map).1,λe he=>?_,?_⟩
 ·rcases cq.1 he with he | he
  ·exact cF.keep (h.sets e he) h.map (λe'=>hb (cv.2 ⟨e,he,e'⟩)) k
  ·rw[cj.1 he];exact cF.keep hs h.map hm k
 ·rw[gj,jx];refine⟨h.nodup,by simp,λy hy z hz e=>?_⟩;obtain⟨a,ha,rfl⟩:=cv.1 hy;have hz:z=x:=by simpa using hz
  have:=lj.1 hx a ha;simp[<- hz,<- e]at this
theorem oN.Tl{{Z σ1:Sg}}{{gb m0 m1 sa ma b3 b4:Nat}}{{es0 es1:List (V × V)}}{{A:List aC}}{{L3 L4:List dL}}(h:oN E Z gb m0 m1 sa ma b3 b4 es0 es1 A L3 L4){x:aC}(hx:bQ L3 x=none){s m:Nat}(k1:Lb.lF Z σ1)(hs:Lb.cF σ1 s m [])(hm:Z.length<=m):oN E (σ1.set b3 (.map ((L3++[dL.mk x s m []]).map pD))) gb m0 m1 sa ma b3 b4 es0 es1 A (L3++[dL.mk x s m []]) L4:=by
 have h1:=h.kY k1;have fresh:=h.below hm;have hx1:=h1.kJ.map;have sep:=h.sep;simp only[dw,IN,cq,ql]at sep;obtain⟨⟨-,-,a3,-⟩,⟨-,b3',-⟩,⟨c3,-⟩,⟨n3,n4,n5⟩,-⟩:=sep;have hmb:m≠b3:=λe=>fresh (by rw[e];simp);have new:=jG.new h1.kJ hx hs n4 hmb
 have ng:gb≠b3:=λe=>by
  have:=h1.g;rw[e,hx1]at this;cases this
 have k:∀(j:Nat)(o:O),j≠b3->σ1[j]?=some o->(σ1.set b3 (.map ((L3++[dL.mk x s m []]).map pD)))[j]?=some o:=λj o hj ho=>by
  rw[aa (kg hj)];exact ho
 have hp:(m0::m1::ma::b3::b4::((L3++[dL.mk x s m []]).map dL.m++L4.map dL.m)).Perm (m::(m0::m1::ma::b3::b4::(L3.map dL.m++L4.map dL.m))):=by simpa using jt (l₁:=m0::m1::ma::b3::b4::L3.map dL.m) (a:=m) (l₂:=L4.map dL.m)
 exact⟨k _ _ ng h1.g,k _ _ a3 h1.rules,k _ _ b3' h1.jW,cF.keep h1.all hx1 c3 k,new,h1.kC.keep hx1 (λe=>n3 e.symm) n5 k,hp.nodup_iff.2 (dw.2 ⟨fresh,h.sep⟩)⟩
theorem oN.SD{{Z σ1:Sg}}{{gb m0 m1 sa ma b3 b4:Nat}}{{es0 es1:List (V × V)}}{{A:List aC}}{{L3 L4:List dL}}(h:oN E Z gb m0 m1 sa ma b3 b4 es0 es1 A L3 L4){x:aC}(hx:bQ L4 x=none){s m:Nat}(k1:Lb.lF Z σ1)(hs:Lb.cF σ1 s m [])(hm:Z.length<=m):oN E (σ1.set b4 (.map ((L4++[dL.mk x s m []]).map pD))) gb m0 m1 sa ma b3 b4 es0 es1 A L3 (L4++[dL.mk x s m []]):=by
 have h1:=h.kY k1;have fresh:=h.below hm;have hx1:=h1.kC.map;have sep:=h.sep;simp only[dw,IN,cq,ql]at sep;obtain⟨⟨-,-,-,a3,-⟩,⟨-,-,b3',-⟩,⟨-,c3,-⟩,⟨n3,-,-⟩,⟨n4,n5⟩,-⟩:=sep;have hmb:m≠b4:=λe=>fresh (by rw[e];simp);have new:=jG.new h1.kC hx hs n5 hmb
 have ng:gb≠b4:=λe=>by
  have:=h1.g;rw[e,hx1]at this;cases this
 have k:∀(j:Nat)(o:O),j≠b4->σ1[j]?=some o->(σ1.set b4 (.map ((L4++[dL.mk x s m []]).map pD)))[j]?=some o:=λj o hj ho=>by
  rw[aa (kg hj)];exact ho
 have hp:(m0::m1::ma::b3::b4::(L3.map dL.m++(L4++[dL.mk x s m []]).map dL.m)).Perm (m::(m0::m1::ma::b3::b4::(L3.map dL.m++L4.map dL.m))):=by simpa using jt (l₁:=m0::m1::ma::b3::b4::(L3.map dL.m++L4.map dL.m)) (a:=m) (l₂:=[])
 exact⟨k _ _ ng h1.g,k _ _ a3 h1.rules,k _ _ b3' h1.jW,cF.keep h1.all hx1 c3 k,h1.kJ.keep hx1 n3 n4 k,new,hp.nodup_iff.2 (dw.2 ⟨fresh,h.sep⟩)⟩
theorem aa2(h:bG E)(h':mL E)(hl:bv E){Y:Sg}{{gb m0 m1 sa ma b3 b4:Nat}}{{es0 es1:List (V × V)}}{{A:List aC}}{{L3 L4:List dL}}(ga:oN E Y gb m0 m1 sa ma b3 b4 es0 es1 A L3 L4){x y:aC}{n0 n1:Nat}(hx:Y[n0]?=some (ζ 51 [.bool x.1,.str x.2] true))(hy:Y[n1]?=some (ζ 51 [.bool y.1,.str y.2] true))(hA:A.length<=1000000)(F:FT)(g0:F.get 0=.ref gb 0)(g4:F.get 4=.ref n0 0)(g5:F.get 5=.ref n1 0){st:List iT}{Q:io->Fr->Sg->Prop}
  (hk:∀F' τ',(∀k,k∈[0,4,5]->F'.get k=F.get k)->oN E τ' gb m0 m1 sa ma b3 b4 es0 es1 (keys A [x,y]) L3 L4->τ'[n0]?=some (ζ 51 [.bool x.1,.str x.2] true)->τ'[n1]?=some (ζ 51 [.bool y.1,.str y.2] true)->Lb.dY Y τ'->M E st .normal ⟨57,F'⟩ τ' Q):Ax.R E (.region 1 (Φ (η [1,0] (aA Δ).code)) true) st ⟨57,F⟩ Y Q:=by
 have ga1:=ga.app (ζ 51 [.bool x.1,.str x.2,.bool y.1,.str y.2] true);have hx1:=aI (x:=ζ 51 [.bool x.1,.str x.2,.bool y.1,.str y.2] true) hx;have hy1:=aI (x:=ζ 51 [.bool x.1,.str x.2,.bool y.1,.str y.2] true) hy;have hsv:Lb.SV (Y++[ζ 51 [.bool x.1,.str x.2,.bool y.1,.str y.2] true]) (.sl Y.length 0 2 none) [x,y]:=.inr (.inr ⟨Y.length,_,true,rfl,aL,rfl⟩);obtain⟨n,r,τ2,hcall,hr,hset,hkp⟩:=Lb.Jr hl ga1.all hsv (show 2<=10000000000 by omega) (by omega);have ga2:=ga1.more hset hkp;have hma:=ga1.all.map
 have ne:∀{k:Nat}{t:Nat}{cs:List V}{ex:Bool},(Y++[ζ 51 [.bool x.1,.str x.2,.bool y.1,.str y.2] true])[k]?=some (.cells t cs ex)->k≠ma:=λhk e=>by
  rw[e,hma]at hk;cases hk
 have hx2:=hkp _ _ (ne hx1) hx1;have hy2:=hkp _ _ (ne hy1) hy1;have g:=ga.g;have g1:=ga1.g;have vr:sO 12 (.ref sa 0) (.ref sa 0)=true:=by unfold sO;simp
 have key:∃F',cP E (ev E n) (Φ (η [1,0] (aA Δ).code)) ⟨57,F⟩ Y=some (⟨57,F'⟩,τ2)/\(∀k,k∈[0,4,5]->F'.get k=F.get k):=by
  unfold cP;rw[h'.Yo,h'.Z5];simp only[aA,Δ,KP,ι,↓reduceIte,δ,ε,ω,μ,ap,reduceCtorEq,h.fF,h.bU,Φ,η,Fz.lits,iQ,bN,cE,lD,nz,pu,iM,ly,hZ,gG,gz,hl.qP,h'.pO,g0,g4,g5,hx,hy,g,g1,hcall,vr];refine⟨_,rfl,λk hk=>?_⟩;simp only[IN,bz,ek]at hk;rcases hk with rfl | rfl | rfl <;> simp+decide only[GS]
 obtain⟨F',hD,hF⟩:=key;exact rl (iW hD) (hk F' τ2 hF ga2 hx2 hy2 ((Lb.dY.app Y _).trans (Lb.Kp.vM hkp hma)))
theorem gN{L:List dL}{x:aC}{e:dL}(h:bQ L x=some e):e∈L/\x=e.key:=by
 unfold bQ at h;exact⟨List.mem_of_find?_eq_some h,by have:=find?_some h;simpa using this⟩
theorem Mq(h:bG E)(h':mL E)(hl:bv E){Y:Sg}{nb mb:Nat}{L:List dL}{x y:aC}{e:dL}(hm:jG Y mb L)(he:bQ L x=some e)(hb:Y[nb]?=some (ζ 147 [.mp mb,.bool x.1,.str x.2,.bool y.1,.str y.2] true))(hks:e.ks.length<=1000000)(hmb:mb≠e.m)(F:FT)(g7:F.get 7=.ref nb 0){st:List iT}{Q:io->Fr->Sg->Prop}
  (hk:∀F' τ',(∀k,k∈[0,4,5,7,30,31,32]->F'.get k=F.get k)->Lb.cF τ' e.s e.m (keys e.ks [y])->Lb.Kp (Y++[ζ 51 [.bool y.1,.str y.2] true]) τ' e.m->M E st .normal ⟨57,F'⟩ τ' Q):Ax.R E (.region 7 (Φ (η [1,1,1,2,2,1,1,0,2,1,1] (aA Δ).code)) true) st ⟨57,F⟩ Y Q:=by
 obtain⟨hme,hxe⟩:=gN he;have hm1:=hm.app (ζ 51 [.bool y.1,.str y.2] true);have hb1:=aI (x:=ζ 51 [.bool y.1,.str y.2] true) hb;have hs1:=hm1.sets e hme;have hsv:Lb.SV (Y++[ζ 51 [.bool y.1,.str y.2] true]) (.sl Y.length 0 1 none) [y]:=.inr (.inr ⟨Y.length,_,true,rfl,aL,rfl⟩);obtain⟨n,r,τ2,hcall,hr,hset,hkp⟩:=Lb.Jr hl hs1 hsv (show 1<=10000000000 by omega) (by omega)
 have ne:nb≠e.m:=λe'=>by
  have:=hs1.map;rw[<- e',hb1]at this;cases this
 have lk:lookup E Y 98 (.mp mb) (.agg [.bool x.1,.str x.2]) false=some (.ref e.s 0):=by
  have:=zX h' hl hm x;rw[he]at this;exact this
 have lk1:lookup E (Y++[ζ 51 [.bool y.1,.str y.2] true]) 98 (.mp mb) (.agg [.bool x.1,.str x.2]) false=some (.ref e.s 0):=by
  have:=zX h' hl hm1 x;rw[he]at this;exact this
 have lk2:lookup E τ2 98 (.mp mb) (.agg [.bool x.1,.str x.2]) false=some (.ref e.s 0):=by
  have:=FF h' hl (hkp _ _ hmb hm1.map) x;rw[he]at this;exact this
 have vr:sO 12 (.ref e.s 0) (.ref e.s 0)=true:=by unfold sO;simp
 have vm:sO 12 (.mp mb) (.mp mb)=true:=by unfold sO;simp
 have vl:sO 12 (.agg [.bool x.1,.str x.2]) (.agg [.bool x.1,.str x.2])=true:=qO λz hz=>by
  simp only[IN,bz,ek]at hz;rcases hz with rfl | rfl
  ·show decide (x.1=x.1)=true;simp
  ·exact Br 10 x.2
 have key:∃F',cP E (ev E n) (Φ (η [1,1,1,2,2,1,1,0,2,1,1] (aA Δ).code)) ⟨57,F⟩ Y=some (⟨57,F'⟩,τ2)/\(∀k,k∈[0,4,5,7,30,31,32]->F'.get k=F.get k):=by
  unfold cP;rw[h'.Ym,h'.Z3];simp only[aA,Δ,KP,ι,↓reduceIte,δ,ε,ω,μ,ap,reduceCtorEq,h.fF,h.bU,Φ,η,Fz.lits,iQ,bN,cE,lD,nz,pu,iM,ly,hZ,gG,gz,h'.xR,h'.yU,g7,hb,hb1,lk,lk1,hcall,vr,vm,vl];refine⟨_,rfl,λk hk=>?_⟩;simp only[IN,bz,ek]at hk;rcases hk with rfl | rfl | rfl | rfl | rfl | rfl | rfl <;> simp+decide only[GS]
 obtain⟨F',hD,hF⟩:=key;exact rl (iW hD) (hk F' τ2 hF hset hkp)
theorem Vm(h:bG E)(h':mL E)(hl:bv E){Y:Sg}{nb mb:Nat}{L:List dL}{x y:aC}(hm:jG Y mb L)(he:bQ L x=none)(hb:Y[nb]?=some (ζ 147 [.mp mb,.bool x.1,.str x.2,.bool y.1,.str y.2] true))(F:FT)(g7:F.get 7=.ref nb 0){st:List iT}{Q:io->Fr->Sg->Prop}
  (hk:∀F' τ1 m,(∀k,k∈[0,4,5,7,30,31,32]->F'.get k=F.get k)->Lb.lF Y τ1->Lb.cF τ1 Y.length m []->Y.length<m->M E st .normal ⟨57,F'⟩ (τ1.set mb (.map ((L++[dL.mk x Y.length m []]).map pD))) Q):Ax.R E (.region 6 (Φ (η [1,1,1,2,2,1,1,0,2,1,0,1,0] (aA Δ).code)) true) st ⟨57,F⟩ Y Q:=by
 obtain⟨n,r,τ1,hcall,m,rfl,hset,hlt,kY⟩:=Lb.Em hl (Z:=Y) (v:=.aG) (l:=[]) (.inl ⟨rfl,rfl⟩) (by simp);have hb1:=kY _ _ hb;have put:=GK h' hl (hm.kY kY) he (s:=Y.length) (m:=m) (ks:=[]);unfold iO at put;have vm:sO 12 (.mp mb) (.mp mb)=true:=by unfold sO;simp
 have vl:sO 12 (.agg [.bool x.1,.str x.2]) (.agg [.bool x.1,.str x.2])=true:=qO λz hz=>by
  simp only[IN,bz,ek]at hz;rcases hz with rfl | rfl
  ·show decide (x.1=x.1)=true;simp
  ·exact Br 10 x.2
 have key:∃F',cP E (ev E n) (Φ (η [1,1,1,2,2,1,1,0,2,1,0,1,0] (aA Δ).code)) ⟨57,F⟩ Y=some (⟨57,F'⟩,τ1.set mb (.map ((L++[dL.mk x Y.length m []]).map pD)))/\(∀k,k∈[0,4,5,7,30,31,32]->F'.get k=F.get k):=by
  unfold cP;rw[h'.Yn,h'.Z4];simp only[aA,Δ,KP,ι,↓reduceIte,δ,ε,ω,μ,reduceCtorEq,h.bU,Φ,η,iQ,bN,cE,lD,nz,pu,iM,ly,aT,h'.xR,h'.yU,g7,hb,hb1,hcall,put,vm,vl];refine⟨_,rfl,λk hk=>?_⟩;simp only[IN,bz,ek]at hk;rcases hk with rfl | rfl | rfl | rfl | rfl | rfl | rfl <;> simp+decide only[GS]
 obtain⟨F',hD,hF⟩:=key;exact rl (iW hD) (hk F' τ1 m hF kY hset hlt)
def rW(L:List dL)(z:aC):List aC:=match bQ L z with
 |some e=>e.ks
 |none=>[]
theorem Ib(L:List dL)(x:aC)(ks:List aC)(z:aC):bQ (qS L x ks) z=(bQ L z).map λe=>if e.key=x then { e with ks:=ks } else e:=by
 unfold bQ qS
 induction L with
 |nil=>rfl
 |cons e L ih=>
  rw[bj,mw,mw]
  have hk:(if e.key=x then { e with ks:=ks } else e).key=e.key:=by
   by_cases h:e.key=x
   ·rw[az h]
   ·rw[an h]
  rw[hk];by_cases hz:z=e.key
  ·rw[BY hz];rfl
  ·rw[AS hz];exact ih
theorem TJ{L:List dL}{e:dL}{x:aC}(he:bQ L x=some e)(ks:List aC)(z:aC):rW (qS L e.key ks) z=if z=x then ks else rW L z:=by
 obtain⟨hme,hxe⟩:=gN he;unfold rW;rw[Ib];by_cases hz:z=x
 ·rw[az hz,hz,he]
  show (match (some (if e.key=e.key then { e with ks:=ks } else e):Option dL) with
   |some e=>e.ks
   |none=>[])=ks
  rw[az rfl]
 ·rw[an hz];cases hq:bQ L z with
  |none=>rfl
  |some q=>
   obtain⟨-,hzq⟩:=gN hq;show (if q.key=e.key then { q with ks:=ks } else q).ks=q.ks;rw[an (λe'=>hz (by rw[hzq,e',hxe]))]
theorem y_(L:List dL)(e:dL)(hx:bQ L e.key=none)(z:aC):bQ (L++[e]) z=if z=e.key then some e else bQ L z:=by
 unfold bQ at *;rw[List.find?_append];by_cases hz:z=e.key
 ·rw[az hz,hz,hx,mw,BY rfl];rfl
 ·rw[an hz,mw,AS hz,List.find?_nil];cases List.find? (λe=>decide (z=e.key)) L <;> rfl
structure Grow (L:List dL) (x y:aC) (L':List dL):Prop where
 mem:∀z w,w∈rW L' z ↔ w∈rW L z\/(z=x/\w=y)
 len:∀n,(∀e∈L,e.ks.length<=n)->∀e∈L',e.ks.length<=n+1
 key:∀z,z∈L'.map dL.key ↔ z∈L.map dL.key\/z=x
theorem W6{L:List dL}{x:aC}:x∈L.map dL.key ↔ ∃e,bQ L x=some e:=by
 constructor
 ·intro h;obtain⟨e,he,rfl⟩:=cv.1 h;cases hq:bQ L e.key with
  |some q=>exact⟨q,rfl⟩
  |none=>
   have:=lj.1 hq e he;simp at this
 ·rintro⟨e,he⟩;obtain⟨h1,h2⟩:=gN he;exact cv.2 ⟨e,h1,h2.symm⟩
theorem Q5(l:List aC)(y:aC):keys l [y]=kL l y:=rfl
theorem NY(l:List aC)(y:aC):(kL l y).length<=l.length+1:=by
 unfold kL;by_cases h:y∈l
 ·rw[az h];omega
 ·rw[an h,By];exact OF _
theorem Grow.up{L:List dL}{e:dL}{x:aC}(he:bQ L x=some e)(y:aC):Grow L x y (qS L e.key (keys e.ks [y])):=by
 obtain⟨hme,hxe⟩:=gN he;refine⟨λz w=>?_,λn hn a ha=>?_,λz=>?_⟩
 ·rw[TJ he];by_cases hz:z=x
  ·have:rW L z=e.ks:=by unfold rW;rw[hz,he]
   rw[az hz,this,Q5,FC];exact⟨λh=>h.imp id λh=>⟨hz,h⟩,λh=>h.imp id And.right⟩
  ·rw[an hz];exact⟨.inl,λh=>h.elim id λh=>absurd h.1 hz⟩
 ·obtain⟨a0,ha0,rfl⟩:=cv.1 ha;by_cases hk:a0.key=e.key
  ·rw[az hk];have:=NY e.ks y;have:=hn e hme;show (kL e.ks y).length<=n+1;omega
  ·rw[an hk];have:=hn a0 ha0;omega
 ·rw[EX];refine⟨.inl,λh=>h.elim id λh=>?_⟩;rw[h];exact W6.2 ⟨e,he⟩
theorem Grow.new{L:List dL}{x:aC}{s m:Nat}(hx:bQ L x=none)(y:aC):bQ (L++[dL.mk x s m []]) x=some (dL.mk x s m [])/\Grow L x y (qS (L++[dL.mk x s m []]) x (keys [] [y])):=by
 have he:bQ (L++[dL.mk x s m []]) x=some (dL.mk x s m []):=by rw[y_ _ _ hx,az rfl]
 have g:=Grow.up he y;refine⟨he,λz w=>?_,λn hn a ha=>?_,λz=>?_⟩
 ·rw[g.mem]
  have:rW (L++[dL.mk x s m []]) z=rW L z:=by
   unfold rW;rw[y_ _ _ hx];by_cases hz:z=x
   ·rw[az hz,hz,hx]
   ·rw[an hz]
  rw[this]
 ·refine g.len n (λe he=>?_) a ha;rcases cq.1 he with he | he
  ·exact hn e he
  ·rw[cj.1 he];exact gv _
 ·rw[g.key,gj,cq];constructor
  ·rintro ((h | h) | h)
   ·exact .inl h
   ·exact .inr (by simpa using h)
   ·exact .inr h
  ·exact λh=>h.imp .inl id
theorem Kp.vM{Z σ':Sg}{m:Nat}{es:List (V × V)}(h:Lb.Kp Z σ' m)(hm:Z[m]?=some (.map es)):Lb.dY Z σ':=Lb.Kp.vM h hm
theorem dY.Ch(Z:Sg)(y:O):Lb.dY Z (Z++[y]):=Lb.dY.app Z [y]
theorem map_lt{Z:Sg}{b:Nat}{o:O}(h:Z[b]?=some o):b<Z.length:=(AI.1 h).1
theorem Tv(h:bG E)(h':mL E)(hl:bv E){Y:Sg}{gb m0 m1 sa ma b3 b4:Nat}{es0 es1:List (V × V)}{A:List aC}{L3 L4:List dL}(ga:oN E Y gb m0 m1 sa ma b3 b4 es0 es1 A L3 L4){x y:aC}{blk:Nat}(hb:Y[blk]?=some (ζ 147 [.mp b3,.bool x.1,.str x.2,.bool y.1,.str y.2,.mp b4,.bool y.1,.str y.2,.bool x.1,.str x.2] true))(hks:∀e∈L3,e.ks.length<=1000000)(F:FT)(g30:F.get 30=.sl blk 0 2 none)(g32:F.get 32=.int .i64 0){st:List iT}{Q:io->Fr->Sg->Prop}
  (hk:∀F' τ' L',(∀k,k∈[0,4,5,30,31,32]->F'.get k=F.get k)->oN E τ' gb m0 m1 sa ma b3 b4 es0 es1 A L' L4->Grow L3 x y L'->Lb.dY Y τ'->M E st .normal ⟨57,F'⟩ τ' Q):Ax.R E (η [1,1,1,2,2,1,1,0,2] (aA Δ).code) st ⟨57,F⟩ Y Q:=by
 have ia:indexAddr E 148 (.sl blk 0 2 none) (.int .i64 0)=some (.ref blk 0):=by unfold Θ;simp only[h'.Lt,h'.yU];rfl
 have ga1:=ga.app (ζ 147 [.mp b3,.bool x.1,.str x.2,.bool y.1,.str y.2] true);have hnb:(Y++[ζ 147 [.mp b3,.bool x.1,.str x.2,.bool y.1,.str y.2] true])[Y.length]?=some (ζ 147 [.mp b3,.bool x.1,.str x.2,.bool y.1,.str y.2] true):=aL;have lk:=zX h' hl ga1.kJ x;unfold iO at lk;rcases hq:bQ L3 x with _ | e
 ·rw[hq]at lk;have r7:=λ(ρ:Sg) (m:Nat) gm he hbx hln hne F g7 st Q hk=>Mq (Y:=ρ) (nb:=Y.length) (mb:=b3) (L:=L3++[dL.mk x (Y++[ζ 147 [.mp b3,.bool x.1,.str x.2,.bool y.1,.str y.2] true]).length m []]) (x:=x) (y:=y) (e:=dL.mk x (Y++[ζ 147 [.mp b3,.bool x.1,.str x.2,.bool y.1,.str y.2] true]).length m []) h h' hl gm he hbx hln hne F g7 (st:=st) (Q:=Q) hk;have r6:=λF g7 st Q hk=>Vm (Y:=Y++[ζ 147 [.mp b3,.bool x.1,.str x.2,.bool y.1,.str y.2] true]) (nb:=Y.length) (mb:=b3) (L:=L3) (x:=x) (y:=y) h h' hl ga1.kJ hq hnb F g7 (st:=st) (Q:=Q) hk;rw[show η [1,1,1,2,2,1,1,0,2] (aA Δ).code=.seq (η [1,1,1,2,2,1,1,0,2,0] (aA Δ).code) (.seq (.seq (η [1,1,1,2,2,1,1,0,2,1,0,0] (aA Δ).code) (.cond (.tmp 41) (η [1,1,1,2,2,1,1,0,2,1,0,1,0] (aA Δ).code) .skip)) (η [1,1,1,2,2,1,1,0,2,1,1] (aA Δ).code)) from rfl];rw[show η [1,1,1,2,2,1,1,0,2,1,0,1,0] (aA Δ).code=.region 6 (Φ (η [1,1,1,2,2,1,1,0,2,1,0,1,0] (aA Δ).code)) true from rfl,show η [1,1,1,2,2,1,1,0,2,1,1] (aA Δ).code=.region 7 (Φ (η [1,1,1,2,2,1,1,0,2,1,1] (aA Δ).code)) true from rfl];generalize Φ (η [1,1,1,2,2,1,1,0,2,1,0,1,0] (aA Δ).code)=O6 at r6 ⊢;generalize Φ (η [1,1,1,2,2,1,1,0,2,1,1] (aA Δ).code)=O7 at r7 ⊢;have e77:mM E 84 true .fV .fV=some true:=by unfold mM;rw[hl.qP]
  simp only[aA,Δ,KP,ι,Ξ,↓reduceIte,δ,ε,ω,μ,reduceCtorEq,h.bU,e77,η,h'.yU,h'.xR,g30,g32,ia,hb,hnb,lk,aL,bP];refine r6 _ ?_ _ _ (λF1 τ1 m hF1 kY hset hlt=>?_)
  ·simp+decide only[GS]
  have hx1:=ga1.kJ.map;have ga2:=ga1.Tl hq kY hset (Nat.le_of_lt hlt);have hmb:b3<(Y++[ζ 147 [.mp b3,.bool x.1,.str x.2,.bool y.1,.str y.2] true]).length:=map_lt hx1
  have hnb2:(τ1.set b3 (.map ((L3++[dL.mk x (Y++[ζ 147 [.mp b3,.bool x.1,.str x.2,.bool y.1,.str y.2] true]).length m []]).map pD)))[Y.length]?=some (ζ 147 [.mp b3,.bool x.1,.str x.2,.bool y.1,.str y.2] true):=by
   rw[aa]
   ·exact kY _ _ hnb
   ·intro e;have q:=hx1.symm.trans ((b8 (λi=>(Y++[ζ 147 [.mp b3,.bool x.1,.str x.2,.bool y.1,.str y.2] true])[i]?) e).trans hnb);cases q
  rw[NS];refine r7 _ m ga2.kJ (Grow.new hq y).1 hnb2 (gv _) (show b3≠m by omega) _ ?_ _ _ (λF2 τ2 hF2 hset2 kp=>?_)
  ·exact(hF1 7 (by simp)).trans (by simp+decide only[GS])
  have gb2:=ga2.app (ζ 51 [.bool y.1,.str y.2] true);have ga3:=gb2.Qo (gN (Grow.new hq y).1).1 hset2 kp;refine hk _ _ _ (λk hk=>?_) ga3 (Grow.new hq y).2 ?_
  ·have h7:k∈[0,4,5,7,30,31,32]:=by
    simp only[IN,bz,ek]at hk ⊢;omega
   refine(hF2 k h7).trans ((hF1 k h7).trans ?_);simp only[IN,bz,ek]at hk;rcases hk with rfl | rfl | rfl | rfl | rfl | rfl <;> simp+decide only[GS]
  ·exact((((dY.Ch Y _).trans kY.vM).trans (Lb.dY.GF (kY _ _ hx1))).trans (dY.Ch _ _)).trans (Lb.Kp.vM kp (gb2.kJ.sets _ (gN (Grow.new hq y).1).1).map)
 ·rw[hq]at lk;have e77:mM E 84 true (.ref e.s 0) .fV=some false:=by unfold mM;rw[hl.qP]
  obtain⟨hme,hxe⟩:=gN hq;obtain⟨-,-,f3⟩:=ga1.facts;have hmb:=f3 e.m (by first | exact .inl (cv.2 ⟨e,hme,rfl⟩) | exact .inr (cv.2 ⟨e,hme,rfl⟩));have r7:=λF g7 st Q hk=>Mq (Y:=Y++[ζ 147 [.mp b3,.bool x.1,.str x.2,.bool y.1,.str y.2] true]) (nb:=Y.length) (mb:=b3) (L:=L3) (x:=x) (y:=y) (e:=e) h h' hl ga1.kJ hq hnb (hks e hme) (by first | exact hmb.2.2.2.1 | exact hmb.2.2.2.2) F g7 (st:=st) (Q:=Q) hk;rw[show η [1,1,1,2,2,1,1,0,2] (aA Δ).code=.seq (η [1,1,1,2,2,1,1,0,2,0] (aA Δ).code) (.seq (.seq (η [1,1,1,2,2,1,1,0,2,1,0,0] (aA Δ).code) (.cond (.tmp 41) (η [1,1,1,2,2,1,1,0,2,1,0,1,0] (aA Δ).code) .skip)) (η [1,1,1,2,2,1,1,0,2,1,1] (aA Δ).code)) from rfl];rw[show η [1,1,1,2,2,1,1,0,2,1,0,1,0] (aA Δ).code=.region 6 (Φ (η [1,1,1,2,2,1,1,0,2,1,0,1,0] (aA Δ).code)) true from rfl,show η [1,1,1,2,2,1,1,0,2,1,1] (aA Δ).code=.region 7 (Φ (η [1,1,1,2,2,1,1,0,2,1,1] (aA Δ).code)) true from rfl];generalize Φ (η [1,1,1,2,2,1,1,0,2,1,0,1,0] (aA Δ).code)=O6 at ⊢;generalize Φ (η [1,1,1,2,2,1,1,0,2,1,1] (aA Δ).code)=O7 at r7 ⊢;simp only[aA,Δ,KP,ι,Ξ,↓reduceIte,δ,ε,ω,μ,reduceCtorEq,h.bU,e77,η,h'.yU,h'.xR,g30,g32,ia,hb,hnb,lk,aL,bP];refine r7 _ ?_ _ _ (λF2 τ2 hF2 hset2 kp=>?_)
  ·simp+decide only[GS]
  have gb2:=ga1.app (ζ 51 [.bool y.1,.str y.2] true);have ga3:=gb2.Qo hme hset2 kp;refine hk _ _ _ (λk hk=>?_) ga3 (Grow.up hq y) ?_
  ·have h7:k∈[0,4,5,7,30,31,32]:=by
    simp only[IN,bz,ek]at hk ⊢;omega
   refine(hF2 k h7).trans ?_;simp only[IN,bz,ek]at hk;rcases hk with rfl | rfl | rfl | rfl | rfl | rfl <;> simp+decide only[GS]
  ·exact((dY.Ch Y _).trans (dY.Ch _ _)).trans (Lb.Kp.vM kp (gb2.kJ.sets e hme).map)
theorem Tu(h:bG E)(h':mL E)(hl:bv E){Y:Sg}{gb m0 m1 sa ma b3 b4:Nat}{es0 es1:List (V × V)}{A:List aC}{L3 L4:List dL}(ga:oN E Y gb m0 m1 sa ma b3 b4 es0 es1 A L3 L4){x y:aC}{blk:Nat}(hb:Y[blk]?=some (ζ 147 [.mp b3,.bool x.1,.str x.2,.bool y.1,.str y.2,.mp b4,.bool y.1,.str y.2,.bool x.1,.str x.2] true))(hks:∀e∈L4,e.ks.length<=1000000)(F:FT)(g30:F.get 30=.sl blk 0 2 none)(g32:F.get 32=.int .i64 1){st:List iT}{Q:io->Fr->Sg->Prop}
  (hk:∀F' τ' L',(∀k,k∈[0,4,5,30,31,32]->F'.get k=F.get k)->oN E τ' gb m0 m1 sa ma b3 b4 es0 es1 A L3 L'->Grow L4 y x L'->Lb.dY Y τ'->M E st .normal ⟨57,F'⟩ τ' Q):Ax.R E (η [1,1,1,2,2,1,1,0,2] (aA Δ).code) st ⟨57,F⟩ Y Q:=by
 have ia:indexAddr E 148 (.sl blk 0 2 none) (.int .i64 1)=some (.ref blk 5):=by unfold Θ;simp only[h'.Lt,h'.yU];rfl
 have ga1:=ga.app (ζ 147 [.mp b4,.bool y.1,.str y.2,.bool x.1,.str x.2] true);have hnb:(Y++[ζ 147 [.mp b4,.bool y.1,.str y.2,.bool x.1,.str x.2] true])[Y.length]?=some (ζ 147 [.mp b4,.bool y.1,.str y.2,.bool x.1,.str x.2] true):=aL;have lk:=zX h' hl ga1.kC y;unfold iO at lk;rcases hq:bQ L4 y with _ | e
 ·rw[hq]at lk;have r7:=λ(ρ:Sg) (m:Nat) gm he hbx hln hne F g7 st Q hk=>Mq (Y:=ρ) (nb:=Y.length) (mb:=b4) (L:=L4++[dL.mk y (Y++[ζ 147 [.mp b4,.bool y.1,.str y.2,.bool x.1,.str x.2] true]).length m []]) (x:=y) (y:=x) (e:=dL.mk y (Y++[ζ 147 [.mp b4,.bool y.1,.str y.2,.bool x.1,.str x.2] true]).length m []) h h' hl gm he hbx hln hne F g7 (st:=st) (Q:=Q) hk;have r6:=λF g7 st Q hk=>Vm (Y:=Y++[ζ 147 [.mp b4,.bool y.1,.str y.2,.bool x.1,.str x.2] true]) (nb:=Y.length) (mb:=b4) (L:=L4) (x:=y) (y:=x) h h' hl ga1.kC hq hnb F g7 (st:=st) (Q:=Q) hk;rw[show η [1,1,1,2,2,1,1,0,2] (aA Δ).code=.seq (η [1,1,1,2,2,1,1,0,2,0] (aA Δ).code) (.seq (.seq (η [1,1,1,2,2,1,1,0,2,1,0,0] (aA Δ).code) (.cond (.tmp 41) (η [1,1,1,2,2,1,1,0,2,1,0,1,0] (aA Δ).code) .skip)) (η [1,1,1,2,2,1,1,0,2,1,1] (aA Δ).code)) from rfl];rw[show η [1,1,1,2,2,1,1,0,2,1,0,1,0] (aA Δ).code=.region 6 (Φ (η [1,1,1,2,2,1,1,0,2,1,0,1,0] (aA Δ).code)) true from rfl,show η [1,1,1,2,2,1,1,0,2,1,1] (aA Δ).code=.region 7 (Φ (η [1,1,1,2,2,1,1,0,2,1,1] (aA Δ).code)) true from rfl];generalize Φ (η [1,1,1,2,2,1,1,0,2,1,0,1,0] (aA Δ).code)=O6 at r6 ⊢;generalize Φ (η [1,1,1,2,2,1,1,0,2,1,1] (aA Δ).code)=O7 at r7 ⊢;have e77:mM E 84 true .fV .fV=some true:=by unfold mM;rw[hl.qP]
  simp only[aA,Δ,KP,ι,Ξ,↓reduceIte,δ,ε,ω,μ,reduceCtorEq,h.bU,e77,η,h'.yU,h'.xR,g30,g32,ia,hb,hnb,lk,aL,bP];refine r6 _ ?_ _ _ (λF1 τ1 m hF1 kY hset hlt=>?_)
  ·simp+decide only[GS]
  have hx1:=ga1.kC.map;have ga2:=ga1.SD hq kY hset (Nat.le_of_lt hlt);have hmb:b4<(Y++[ζ 147 [.mp b4,.bool y.1,.str y.2,.bool x.1,.str x.2] true]).length:=map_lt hx1
  have hnb2:(τ1.set b4 (.map ((L4++[dL.mk y (Y++[ζ 147 [.mp b4,.bool y.1,.str y.2,.bool x.1,.str x.2] true]).length m []]).map pD)))[Y.length]?=some (ζ 147 [.mp b4,.bool y.1,.str y.2,.bool x.1,.str x.2] true):=by
   rw[aa]
   ·exact kY _ _ hnb
   ·intro e;have q:=hx1.symm.trans ((b8 (λi=>(Y++[ζ 147 [.mp b4,.bool y.1,.str y.2,.bool x.1,.str x.2] true])[i]?) e).trans hnb);cases q
  rw[NS];refine r7 _ m ga2.kC (Grow.new hq x).1 hnb2 (gv _) (show b4≠m by omega) _ ?_ _ _ (λF2 τ2 hF2 hset2 kp=>?_)
  ·exact(hF1 7 (by simp)).trans (by simp+decide only[GS])
  have gb2:=ga2.app (ζ 51 [.bool x.1,.str x.2] true);have ga3:=gb2.Pb (gN (Grow.new hq x).1).1 hset2 kp;refine hk _ _ _ (λk hk=>?_) ga3 (Grow.new hq x).2 ?_
  ·have h7:k∈[0,4,5,7,30,31,32]:=by
    simp only[IN,bz,ek]at hk ⊢;omega
   refine(hF2 k h7).trans ((hF1 k h7).trans ?_);simp only[IN,bz,ek]at hk;rcases hk with rfl | rfl | rfl | rfl | rfl | rfl <;> simp+decide only[GS]
  ·exact((((dY.Ch Y _).trans kY.vM).trans (Lb.dY.GF (kY _ _ hx1))).trans (dY.Ch _ _)).trans (Lb.Kp.vM kp (gb2.kC.sets _ (gN (Grow.new hq x).1).1).map)
 ·rw[hq]at lk;have e77:mM E 84 true (.ref e.s 0) .fV=some false:=by unfold mM;rw[hl.qP]
  obtain⟨hme,hxe⟩:=gN hq;obtain⟨-,-,f3⟩:=ga1.facts;have hmb:=f3 e.m (by first | exact .inl (cv.2 ⟨e,hme,rfl⟩) | exact .inr (cv.2 ⟨e,hme,rfl⟩));have r7:=λF g7 st Q hk=>Mq (Y:=Y++[ζ 147 [.mp b4,.bool y.1,.str y.2,.bool x.1,.str x.2] true]) (nb:=Y.length) (mb:=b4) (L:=L4) (x:=y) (y:=x) (e:=e) h h' hl ga1.kC hq hnb (hks e hme) (by first | exact hmb.2.2.2.1 | exact hmb.2.2.2.2) F g7 (st:=st) (Q:=Q) hk;rw[show η [1,1,1,2,2,1,1,0,2] (aA Δ).code=.seq (η [1,1,1,2,2,1,1,0,2,0] (aA Δ).code) (.seq (.seq (η [1,1,1,2,2,1,1,0,2,1,0,0] (aA Δ).code) (.cond (.tmp 41) (η [1,1,1,2,2,1,1,0,2,1,0,1,0] (aA Δ).code) .skip)) (η [1,1,1,2,2,1,1,0,2,1,1] (aA Δ).code)) from rfl];rw[show η [1,1,1,2,2,1,1,0,2,1,0,1,0] (aA Δ).code=.region 6 (Φ (η [1,1,1,2,2,1,1,0,2,1,0,1,0] (aA Δ).code)) true from rfl,show η [1,1,1,2,2,1,1,0,2,1,1] (aA Δ).code=.region 7 (Φ (η [1,1,1,2,2,1,1,0,2,1,1] (aA Δ).code)) true from rfl];generalize Φ (η [1,1,1,2,2,1,1,0,2,1,0,1,0] (aA Δ).code)=O6 at ⊢;generalize Φ (η [1,1,1,2,2,1,1,0,2,1,1] (aA Δ).code)=O7 at r7 ⊢;simp only[aA,Δ,KP,ι,Ξ,↓reduceIte,δ,ε,ω,μ,reduceCtorEq,h.bU,e77,η,h'.yU,h'.xR,g30,g32,ia,hb,hnb,lk,aL,bP];refine r7 _ ?_ _ _ (λF2 τ2 hF2 hset2 kp=>?_)
  ·simp+decide only[GS]
  have gb2:=ga1.app (ζ 51 [.bool x.1,.str x.2] true);have ga3:=gb2.Pb hme hset2 kp;refine hk _ _ _ (λk hk=>?_) ga3 (Grow.up hq x) ?_
  ·have h7:k∈[0,4,5,7,30,31,32]:=by
    simp only[IN,bz,ek]at hk ⊢;omega
   refine(hF2 k h7).trans ?_;simp only[IN,bz,ek]at hk;rcases hk with rfl | rfl | rfl | rfl | rfl | rfl <;> simp+decide only[GS]
  ·exact((dY.Ch Y _).trans (dY.Ch _ _)).trans (Lb.Kp.vM kp (gb2.kC.sets e hme).map)
theorem RT(h:bG E)(h':mL E)(hl:bv E){Y:Sg}{gb m0 m1 sa ma b3 b4:Nat}{es0 es1:List (V × V)}{A:List aC}{L3 L4:List dL}(ga:oN E Y gb m0 m1 sa ma b3 b4 es0 es1 A L3 L4){x y:aC}(hA:A.length<=1000000)(hk3:∀e∈L3,e.ks.length<=1000000)(hk4:∀e∈L4,e.ks.length<=1000000):aB E 72 [.ref gb 0,.agg [.bool x.1,.str x.2],.agg [.bool y.1,.str y.2]] Y λv τ'=>v=.fR []/\∃L3' L4',oN E τ' gb m0 m1 sa ma b3 b4 es0 es1 (keys A [x,y]) L3' L4'/\Grow L3 x y L3'/\Grow L4 y x L4'/\Lb.dY Y τ':=by
 rw[cJ h'.hs72 h'.sp72 h'.fn72 h'.md72,aU (by kernel_rfl)];have rn:=λ{Y} {L3 L4} {blk} A ga hb hks F g30 g32 st Q hk=>Tv (Y:=Y) (L3:=L3) (L4:=L4) (A:=A) (x:=x) (y:=y) (blk:=blk) (gb:=gb) (m0:=m0) (m1:=m1) (sa:=sa) (ma:=ma) (b3:=b3) (b4:=b4) (es0:=es0) (es1:=es1) h h' hl ga hb hks F g30 g32 (st:=st) (Q:=Q) hk;have ru:=λ{Y} {L3 L4} {blk} A ga hb hks F g30 g32 st Q hk=>Tu (Y:=Y) (L3:=L3) (L4:=L4) (A:=A) (x:=x) (y:=y) (blk:=blk) (gb:=gb) (m0:=m0) (m1:=m1) (sa:=sa) (ma:=ma) (b3:=b3) (b4:=b4) (es0:=es0) (es1:=es1) h h' hl ga hb hks F g30 g32 (st:=st) (Q:=Q) hk;have r1:=λ{Y} {n0 n1} ga hx hy F g0 g4 g5 st Q hk=>aa2 (Y:=Y) (n0:=n0) (n1:=n1) (A:=A) (L3:=L3) (L4:=L4) (x:=x) (y:=y) (gb:=gb) (m0:=m0) (m1:=m1) (sa:=sa) (ma:=ma) (b3:=b3) (b4:=b4) (es0:=es0) (es1:=es1) h h' hl ga hx hy hA F g0 g4 g5 (st:=st) (Q:=Q) hk;have d2:=h'.adg;rw[show (aA Δ).code=.seq (η [0] (aA Δ).code) (.seq (η [1,0] (aA Δ).code) (.seq (η [1,1,0] (aA Δ).code) (.block 0 (.loop (.seq (η [1,1,1,2,2,0] (aA Δ).code) (.seq (η [1,1,1,2,2,1,0] (aA Δ).code) (.seq (.block 1 (η [1,1,1,2,2,1,1,0,2] (aA Δ).code)) (η [1,1,1,2,2,1,1,1] (aA Δ).code)))))))) from rfl];rw[show η [1,0] (aA Δ).code=.region 1 (Φ (η [1,0] (aA Δ).code)) true from rfl];generalize Φ (η [1,0] (aA Δ).code)=O1 at r1 ⊢;generalize η [1,1,1,2,2,1,1,0,2] (aA Δ).code=B at rn ru ⊢;generalize hD2:η [1,1,0] (aA Δ).code=D2 at d2 ⊢;simp only[aA,Δ,KP,↓reduceIte,δ,ε,μ,h.bU,η];have gx:oN E (Y++[ζ 51 [.bool x.1,.str x.2] true]++[ζ 51 [.bool y.1,.str y.2] true]) gb m0 m1 sa ma b3 b4 es0 es1 A L3 L4:=(ga.app _).app _;refine r1 gx (aI aL) aL _ ?_ ?_ ?_ _ _ (λF1 τ1 hF1 ga1 hx1 hy1 kc1=>?_)
 ·simp+decide only[GS]
 ·simp+decide only[GS]
 ·simp+decide only[GS]
 have q0:F1.get 0=.ref gb 0:=(hF1 0 (by simp)).trans (by simp+decide only[GS]);have q4:F1.get 4=.ref Y.length 0:=(hF1 4 (by simp)).trans (by simp+decide only[GS]);have q5:F1.get 5=.ref (Y++[ζ 51 [.bool x.1,.str x.2] true]).length 0:=(hF1 5 (by simp)).trans (by simp+decide only[GS]);have hg:=ga1.g;have kc0:Lb.dY Y τ1:=(((dY.Ch Y _).trans (dY.Ch _ _)).trans kc1);generalize (Y++[ζ 51 [.bool x.1,.str x.2] true]).length=n1 at *;generalize Y.length=n0 at *;rw[NS];subst hD2;simp only[aA,Δ,η,ay]at d2;have lz:∀(Z:Sg)(b:Nat),lenOf E Z 148 (.sl b 0 2 none)=some 2:=λZ b=>by unfold lenOf;rw[h'.Lt]
 have d0:decide ((0:Int)<((2:Nat):Int))=true:=rfl;have d1:decide ((1:Int)<((2:Nat):Int))=true:=rfl;have d2':decide ((2:Int)<((2:Nat):Int))=false:=rfl;have w1:wr .i64 1=1:=rfl;have w2:wr .i64 2=2:=rfl;simp only[aA,Δ,KP,ι,↓reduceIte,δ,ε,ω,μ,ap,reduceCtorEq,h.bU,lz,η,aX d2,bS,h'.xR,h'.yU,h'.Lt,h'.pO,hg,hx1,hy1,q0,q4,q5,hZ,Ax.placeOf,gG,gz];have ga2:=ga1.app (ζ 147 [.mp b3,.bool x.1,.str x.2,.bool y.1,.str y.2,.mp b4,.bool y.1,.str y.2,.bool x.1,.str x.2] true);have hb2:(τ1++[ζ 147 [.mp b3,.bool x.1,.str x.2,.bool y.1,.str y.2,.mp b4,.bool y.1,.str y.2,.bool x.1,.str x.2] true])[τ1.length]?=some (ζ 147 [.mp b3,.bool x.1,.str x.2,.bool y.1,.str y.2,.mp b4,.bool y.1,.str y.2,.bool x.1,.str x.2] true):=aL;have kc2:Lb.dY Y (τ1++[ζ 147 [.mp b3,.bool x.1,.str x.2,.bool y.1,.str y.2,.mp b4,.bool y.1,.str y.2,.bool x.1,.str x.2] true]):=kc0.trans (dY.Ch _ _);generalize τ1++[ζ 147 [.mp b3,.bool x.1,.str x.2,.bool y.1,.str y.2,.mp b4,.bool y.1,.str y.2,.bool x.1,.str x.2] true]=τ2 at *;generalize τ1.length=blk at *;rw[aF];simp only[KP,↓reduceIte,δ,ε,d0];refine rn _ ga2 hb2 hk3 _ ?_ ?_ _ _ (λF3 τ3 L3' hF3 ga3 gr3 kc3=>?_)
 ·simp+decide only[GS]
 ·simp+decide only[GS]
 have q30:F3.get 30=.sl blk 0 2 none:=(hF3 30 (by simp)).trans (by simp+decide only[GS]);have q31:F3.get 31=.int .i64 ((2:Nat):Int):=(hF3 31 (by simp)).trans (by simp+decide only[GS]);have q32:F3.get 32=.int .i64 0:=(hF3 32 (by simp)).trans (by simp+decide only[GS]);simp only[KP,↓reduceIte,ε,Int.reduceAdd,w1,q32];rw[aF];simp only[KP,↓reduceIte,δ,ε,d1,q31];refine ru _ ga3 (kc3 _ _ _ _ hb2) hk4 _ ?_ ?_ _ _ (λF4 τ4 L4' hF4 ga4 gr4 kc4=>?_)
 ·simp+decide only[GS,q30]
 ·simp+decide only[GS]
 have q31':F4.get 31=.int .i64 ((2:Nat):Int):=(hF4 31 (by simp)).trans (by simp+decide only[GS,q31]);have q32':F4.get 32=.int .i64 1:=(hF4 32 (by simp)).trans (by simp+decide only[GS]);simp only[KP,↓reduceIte,ε,Int.reduceAdd,w2,q32'];rw[aF];simp only[KP,↓reduceIte,δ,ε,d2',q31'];exact⟨_,_,ga4,gr3,gr4,(kc2.trans kc3).trans kc4⟩
def eF(r:aD):List (aC × aC):=r.ins.map (λf=>(((true,r.name):aC),((false,f):aC)))++r.outs.map (λf=>(((false,f):aC),((true,r.name):aC)))
def iE(r:aD):aC:=(true,r.name)
structure xC (X:List aC) (P:List (aC × aC)) (A:List aC) (L3 L4:List dL):Prop where
 all:∀x,x∈A ↔ x∈X\/∃p∈P,x=p.1\/x=p.2
 need:∀z w,w∈rW L3 z ↔ (z,w)∈P
 user:∀z w,w∈rW L4 z ↔ (w,z)∈P
 NV:A.length<=X.length+2*P.length
 QU:∀e∈L3,e.ks.length<=P.length
 QT:∀e∈L4,e.ks.length<=P.length
theorem xC.nil:xC [] [] [] [] []:=⟨λx=>by simp,λz w=>by simp[rW,bQ],λz w=>by simp[rW,bQ],OF _,(λe he=>by cases he),(λe he=>by cases he)⟩
theorem xC.link{X:List aC}{P:List (aC × aC)}{A:List aC}{L3 L4 L3' L4':List dL}{x y:aC}(h:xC X P A L3 L4)(g3:Grow L3 x y L3')(g4:Grow L4 y x L4'):xC X (P++[(x,y)]) (keys A [x,y]) L3' L4':=by
 refine⟨λz=>?_,λz w=>?_,λz w=>?_,?_,λe he=>?_,λe he=>?_⟩
 ·rw[mem_keys,h.all];constructor
  ·rintro ((h1 | ⟨p,hp,h1⟩) | h1)
   ·exact .inl h1
   ·exact .inr ⟨p,List.mem_append_left _ hp,h1⟩
   ·refine .inr ⟨(x,y),by simp,by simpa using h1⟩
  ·rintro (h1 | ⟨p,hp,h1⟩)
   ·exact .inl (.inl h1)
   ·rcases cq.1 hp with hp | hp
    ·exact .inl (.inr ⟨p,hp,h1⟩)
    ·rw[cj.1 hp]at h1;exact .inr (by simpa using h1)
 ·rw[g3.mem,h.need,cq,cj];exact or_congr qh ⟨λq=>by rw[q.1,q.2],λq=>⟨b8 Prod.fst q,b8 Prod.snd q⟩⟩
 ·rw[g4.mem,h.user,cq,cj];exact or_congr qh ⟨λq=>by rw[q.1,q.2],λq=>⟨b8 Prod.snd q,b8 Prod.fst q⟩⟩
 ·have:=mF (xs:=[x,y]) (l:=A);have:=h.NV;simp only[By,IT,aq]at *;omega
 ·rw[By];exact g3.len _ h.QU e he
 ·rw[By];exact g4.len _ h.QT e he
theorem xC.rule{X:List aC}{P:List (aC × aC)}{A:List aC}{L3 L4:List dL}(x:aC)(h:xC X P A L3 L4):xC (X++[x]) P (keys A [x]) L3 L4:=by
 refine⟨λz=>?_,h.need,h.user,?_,h.QU,h.QT⟩
 ·rw[mem_keys,h.all,cq];constructor
  ·rintro ((h1 | h1) | h1)
   ·exact .inl (.inl h1)
   ·exact .inr h1
   ·exact .inl (.inr h1)
  ·rintro ((h1 | h1) | h1)
   ·exact .inl (.inl h1)
   ·exact .inr h1
   ·exact .inl (.inr h1)
 ·have:=mF (xs:=[x]) (l:=A);have:=h.NV;simp only[By,IT,aq]at *;omega
theorem NH(r:aD)(hs:Small r):(eF r).length<=16:=by
 unfold eF;rw[By,bw,bw];have:=hs.ins;have:=hs.outs;omega
theorem qI:∀(rs:List aD),(∀r∈rs,Small r)->(rs.flatMap eF).length<=16*rs.length
 | [],_=>OF _
 |r::rs,h=>by
  rw[fg,By,IT];have:=NH r (h r (No ..));have:=qI rs λq hq=>h q (ae _ hq);omega
def RM(es:List (V × V))(rs:List aD):Prop:=eL (λe r=>e.1=ab r.name/\Ve e.2 r) es rs
theorem Ve.ok{v:V}{r:aD}(h:Ve v r):fG v=true:=by
 obtain⟨a,b,c,d,rfl,h1,h2,h3,h4⟩:=h;simp only[fG,iy,ki,aQ h1.is.bE,aQ h2.is.bE,aQ h3.is.bE,aQ h4.is.bE,me];rfl
theorem Nc(h:bG E)(h':mL E){Y:Sg}{b:Nat}{es:List (V × V)}{rs:List aD}{r:aD}{v:V}(hb:Y[b]?=some (.map es))(ha:RM es rs)(hn:∀q∈rs,q.name≠r.name)(hv:Ve v r) :
  mapUpdate E Y 96 (.mp b) (.str r.name) v=some (Y.set b (.map (es++[(.str r.name,v)])))/\RM (es++[(.str r.name,v)]) (rs++[r]):=by
 refine⟨?_,ha.append (.one ⟨rfl,hv⟩)⟩;have hk:eH E 9 (.str r.name)=true:=by unfold eH;rw[h.dJ]
 have hp:=Dj h (k:=r.name) (v:=v) (es:=es) λe he=>by
  obtain⟨q,hq,h1,-⟩:=ha.mem he;exact⟨q.name,h1,hn q hq⟩
 unfold c9;simp only[h'.VN,hk,hv.ok,hb,hp,dm,j8,ai,b9,ck]
theorem Fu{eq:V->V->Option Bool}{k v:V}:∀{es es':List (V × V)},kX eq k v es=some es'->∀e∈es',e∈es\/e=(k,v)
 | [],es',h,e,he=>by
  cases h;exact .inr (cj.1 he)
 |(k0,v0)::r,es',h,e,he=>by
  unfold kX at h;cases hq:eq k k0 with
  |none=>rw[hq]at h;cases h
  |some b=>
   rw[hq]at h;cases b with
   |true=>
    cases h;rcases IN.1 he with h1 | h1
    ·exact .inr h1
    ·exact .inl (ae _ h1)
   |false=>
    dsimp only at h;cases hr:kX eq k v r with
    |none=>rw[hr]at h;cases h
    |some r'=>
     rw[hr]at h;cases h;rcases IN.1 he with h1 | h1
     ·exact .inl (by rw[h1];exact No ..)
     ·exact(Fu hr e h1).imp (ae _) id
def EN(es:List (V × V)):Prop:=∀e∈es,∃n,e.2=ab n
theorem SF(h:bG E){Z:Sg}{b:Nat}{es:List (V × V)}{get:bF->Option V}(hb:Z[b]?=some (.map es))(hs:SM E es get)(hv:EN es)(k n:bF):∃es',mapUpdate E Z 97 (.mp b) (.str k) (.str n)=some (Z.set b (.map es'))/\SM E es' (λq=>if q=k then some (.str n) else get q)/\EN es':=by
 obtain⟨es',h1,h2⟩:=GC h (v:=.str n) k rfl hs;have hk:eH E 9 (.str k)=true:=by unfold eH;rw[h.dJ]
 refine⟨es',?_,h2,λe he=>?_⟩
 ·unfold c9;simp only[h.HM,hk,hb,h1,fG,V.aZ,dm,j8,ai,b9,ck]
 ·rcases Fu h1 e he with h3 | h3
  ·exact hv e h3
  ·exact⟨n,by rw[h3]⟩
theorem Hs(h:bG E)(h':mL E){s:bF}:aB E 71 [.str s] Z K=K (.agg [.bool true,.str s]) Z:=by
 refine aB.of ?_;rw[aH h'.hs71 h'.sp71 h'.fn71 h'.md71 (args':=[.str s]) (by simp only[aW,dM]),aU (by kernel_rfl)];simp only[aA,Tryz.f71,KP,ι,Ξ,↓reduceIte,δ,ε,μ,reduceCtorEq,h.Ex,h.dJ,h.bU,hZ,Ax.placeOf];exact rfl
theorem TR(h:bG E)(h':mL E){s:bF}:KC E 71 [.str s] Z (.agg [.bool true,.str s]) Z:=dX λ_=>Hs h h'
theorem UP(h:bG E)(h':mL E){s:bF}:aB E 73 [.str s] Z K=K (.agg [.bool false,.str s]) Z:=by
 refine aB.of ?_;rw[aH h'.hs73 h'.sp73 h'.fn73 h'.md73 (args':=[.str s]) (by simp only[aW,dM]),aU (by kernel_rfl)];simp only[aA,Tryz.f73,KP,ι,Ξ,↓reduceIte,δ,ε,μ,reduceCtorEq,h.Ex,h.dJ,h.bU,hZ,Ax.placeOf];exact rfl
theorem My(h:bG E)(h':mL E){s:bF}:KC E 73 [.str s] Z (.agg [.bool false,.str s]) Z:=dX λ_=>UP h h'
theorem Z_(h:bG E)(h':mL E)(hl:bv E){Y:Sg}{gb m0 m1 sa ma b3 b4:Nat}{es0 es1:List (V × V)}{A:List aC}{L3 L4:List dL}(ga:oN E Y gb m0 m1 sa ma b3 b4 es0 es1 A L3 L4){r:aD}{p1 p2 p3 p4:V}{y:Nat}(hy:Y[y]?=some (ζ 46 [.str r.name,p1,p2,p3,p4] true))(hA:A.length<=1000000)(F:FT)(g5:F.get 5=.ref gb 0)(g7:F.get 7=.ref y 0){st:List iT}{Q:io->Fr->Sg->Prop}
  (hk:∀F' τ',(∀k,k∈[0,5,7,26,27,28]->F'.get k=F.get k)->oN E τ' gb m0 m1 sa ma b3 b4 es0 es1 (keys A [iE r]) L3 L4->Lb.dY Y τ'->M E st .normal ⟨88,F'⟩ τ' Q):Ax.R E (.region 9 (Φ (η [1,1,1,0,1,2,2,1,1,0,2,1,1,0] (aA cf).code)) true) st ⟨88,F⟩ Y Q:=by
 have ga1:=ga.app (ζ 51 [.bool true,.str r.name] true);have hsv:Lb.SV (Y++[ζ 51 [.bool true,.str r.name] true]) (.sl Y.length 0 1 none) [iE r]:=.inr (.inr ⟨Y.length,_,true,rfl,aL,rfl⟩);obtain⟨n1,v1,τ2,⟨hr,hset,hkp⟩,c1⟩:=aB.up (Lb.Jr hl ga1.all hsv (show 1<=10000000000 by omega) (by omega));obtain⟨n2,v2,ρ2,⟨e2,e2'⟩,c2⟩:=aB.up (show aB E 71 [.str r.name] Y λv σ'=>v=.agg [.bool true,.str r.name]/\σ'=Y by rw[Hs h h'];exact⟨rfl,rfl⟩);obtain⟨n3,v3,ρ3,⟨e3,e3'⟩,c3⟩:=aB.up (show aB E 71 [.str r.name] (Y++[ζ 51 [.bool true,.str r.name] true]) λv σ'=>v=.agg [.bool true,.str r.name]/\σ'=Y++[ζ 51 [.bool true,.str r.name] true] by rw[Hs h h'];exact⟨rfl,rfl⟩);rw[e2,e2']at c2;rw[e3,e3']at c3;have c1:=c1 (n1+n2+n3) (by omega);have c2:=c2 (n1+n2+n3) (by omega);have c3:=c3 (n1+n2+n3) (by omega);generalize n1+n2+n3=n at c1 c2 c3;have ga2:=ga1.more hset hkp;have hma:=ga1.all.map
 have ne:∀{k:Nat}{t:Nat}{cs:List V}{ex:Bool},(Y++[ζ 51 [.bool true,.str r.name] true])[k]?=some (.cells t cs ex)->k≠ma:=λhk e=>by
  rw[e,hma]at hk;cases hk
 have g:=ga.g;have g1:=ga1.g;have vr:sO 12 (.ref sa 0) (.ref sa 0)=true:=by unfold sO;simp
 have key:∃F',cP E (ev E n) (Φ (η [1,1,1,0,1,2,2,1,1,0,2,1,1,0] (aA cf).code)) ⟨88,F⟩ Y=some (⟨88,F'⟩,τ2)/\(∀k,k∈[0,5,7,26,27,28]->F'.get k=F.get k):=by
  unfold cP;rw[h'.Yr,h'.Z8];simp only[aA,cf,KP,ι,↓reduceIte,δ,ε,ω,μ,ap,reduceCtorEq,h.dJ,h.fF,h.bO,h.bU,Φ,η,Fz.lits,iQ,bN,cE,lD,nz,pu,iM,ly,hZ,gG,gz,hl.qP,h'.pO,g5,g7,hy,g,g1,c1,c2,vr];refine⟨_,rfl,λk hk=>?_⟩;simp only[IN,bz,ek]at hk;rcases hk with rfl | rfl | rfl | rfl | rfl | rfl <;> simp+decide only[GS]
 obtain⟨F',hD,hF⟩:=key;exact rl (iW hD) (hk F' τ2 hF ga2 ((dY.Ch Y _).trans (Lb.Kp.vM hkp hma)))
theorem JZ{r:aD}{j:Nat}{s:bF}(hj:r.ins[j]?=some s):(r.ins.take (j+1)).map (λf=>(((true,r.name):aC),((false,f):aC)))=(r.ins.take j).map (λf=>(((true,r.name):aC),((false,f):aC)))++[(((true,r.name):aC),((false,s):aC))]:=by
 rw[dz,hj,gj];rfl
theorem HP{r:aD}{j:Nat}{s:bF}(hj:r.outs[j]?=some s):(r.outs.take (j+1)).map (λf=>(((false,f):aC),((true,r.name):aC)))=(r.outs.take j).map (λf=>(((false,f):aC),((true,r.name):aC)))++[(((false,s):aC),((true,r.name):aC))]:=by
 rw[dz,hj,gj];rfl
theorem Qm(h:bG E)(h':mL E)(hl:bv E){Y:Sg}{gb m0 m1 sa ma b3 b4:Nat}{es0 es1:List (V × V)}{A:List aC}{L3 L4:List dL}(ga:oN E Y gb m0 m1 sa ma b3 b4 es0 es1 A L3 L4){X:List aC}{P:List (aC × aC)}(li:xC X P A L3 L4)(hX:X.length<=1000)(hP:P.length<=100000){a c27:V}{i:Nat}{r:aD}{g:Bool}{p1 p2 p3 p4:V}(e1:indexAddr E 22 a (.int .i64 (i:Int))=some (.cR g [.str r.name,p1,p2,p3,p4]))(i1:IS aP p1 r.ins)(i2:IS aP p2 r.outs)(i3:IS aP p3 r.after)(i4:IS fB p4 r.steps)(hs:Small r){rs:List aD}(ha:RM es0 rs)(hn:∀q∈rs,q.name≠r.name){get:bF->Option V}{Pm:bF->bF->Prop}(hsm:SM E es1 get)(hsv:EN es1)(hmk:MK get Pm)
  (F:FT)(g0:F.get 0=a)(g5:F.get 5=.ref gb 0)(g26:F.get 26=a)(g27:F.get 27=c27)(g28:F.get 28=.int .i64 (i:Int)){st:List iT}{Q:io->Fr->Sg->Prop}
  (hk:∀F' τ' es0' es1' get' A' L3' L4',F'.get 0=a->F'.get 5=.ref gb 0->F'.get 26=a->F'.get 27=c27->F'.get 28=.int .i64 (i:Int)->oN E τ' gb m0 m1 sa ma b3 b4 es0' es1' A' L3' L4'->xC (X++[iE r]) (P++eF r) A' L3' L4'->RM es0' (rs++[r])->SM E es1' get'->EN es1'->MK get' (λk n=>Pm k n\/(k∈r.outs/\n=r.name))->M E st .normal ⟨88,F'⟩ τ' Q):Ax.R E (η [1,1,1,0,1,2,2,1,1,0,2] (aA cf).code) st ⟨88,F⟩ Y Q:=by
 have o1:=aQ i1.bE;have o2:=aQ i2.bE;have o3:=aQ i3.bE;have o4:=aQ i4.bE;have a1:=hs.ins;have a2:=hs.outs;have l1:=bT h i1;have l2:=bT h i2;have d8:=h'.adp;simp only[aA,cf,η,ay]at d8;have d18:=h'.XG;simp only[aA,cf,η,ay]at d18;have d19:=h'.XF;simp only[aA,cf,η,ay]at d19;have r9:=λ{Y} {es0} {y} ga hy hA F g5 g7 st Q hk=>Z_ (Y:=Y) (y:=y) (r:=r) (p1:=p1) (p2:=p2) (p3:=p3) (p4:=p4) (A:=A) (L3:=L3) (L4:=L4) (gb:=gb) (m0:=m0) (m1:=m1) (sa:=sa) (ma:=ma) (b3:=b3) (b4:=b4) (es0:=es0) (es1:=es1) h h' hl ga hy hA F g5 g7 (st:=st) (Q:=Q) hk;rw[show η [1,1,1,0,1,2,2,1,1,0,2] (aA cf).code=.seq (η [1,1,1,0,1,2,2,1,1,0,2,0] (aA cf).code) (.seq (η [1,1,1,0,1,2,2,1,1,0,2,1,0] (aA cf).code) (.seq (.region 9 (Φ (η [1,1,1,0,1,2,2,1,1,0,2,1,1,0] (aA cf).code)) true) (η [1,1,1,0,1,2,2,1,1,0,2,1,1,1] (aA cf).code))) from rfl];generalize Φ (η [1,1,1,0,1,2,2,1,1,0,2,1,1,0] (aA cf).code)=O9 at r9 ⊢;generalize hREST:η [1,1,1,0,1,2,2,1,1,0,2,1,1,1] (aA cf).code=REST;have ga1:=ga.app (ζ 46 [.str r.name,p1,p2,p3,p4] true);have hy1:(Y++[ζ 46 [.str r.name,p1,p2,p3,p4] true])[Y.length]?=some (ζ 46 [.str r.name,p1,p2,p3,p4] true):=aL;have gg1:=ga1.g;simp only[aA,cf,KP,ι,Ξ,↓reduceIte,δ,ε,μ,reduceCtorEq,h.dJ,h.bO,η,aX d8,bS,h'.pO,h'.VN,g5,g26,g28,e1,o1,o2,o3,o4,gg1,hy1,aL,bP];generalize Y++[ζ 46 [.str r.name,p1,p2,p3,p4] true]=τ1 at *;generalize Y.length=y at *;refine aK (RW h h' (v:=.agg [.str r.name,p1,p2,p3,p4]) ⟨p1,p2,p3,p4,rfl,i1,i2,i3,i4⟩ hs) ?_;rintro v σ' ⟨rfl,hv⟩;obtain⟨hu,hrm⟩:=Nc h h' ga1.rules ha hn hv;have ga2:=ga1.rule (es0++[(.str r.name,v)]);have hy2:(σ'.set m0 (.map (es0++[(.str r.name,v)])))[y]?=some (ζ 46 [.str r.name,p1,p2,p3,p4] true):=Lb.dY.GF ga1.rules _ _ _ _ hy1;simp only[KP,↓reduceIte,δ,ε,hu];generalize σ'.set m0 (.map (es0++[(.str r.name,v)]))=τ2 at *;refine r9 ga2 hy2 (by have:=li.NV;omega) _ ?_ ?_ _ _ (λF3 τ3 hF3 ga3 kc3=>?_)
 ·simp+decide only[GS,g5]
 ·simp+decide only[GS]
 have li3:=li.rule (iE r);have hy3:=kc3 _ _ _ _ hy2;have q0:F3.get 0=a:=(hF3 0 (by simp)).trans (by simp+decide only[GS,g0]);have q5:F3.get 5=.ref gb 0:=(hF3 5 (by simp)).trans (by simp+decide only[GS,g5]);have JL:F3.get 26=a:=(hF3 26 (by simp)).trans (by simp+decide only[GS,g26]);have ZQ:F3.get 27=c27:=(hF3 27 (by simp)).trans (by simp+decide only[GS,g27]);have ZP:F3.get 28=.int .i64 (i:Int):=(hF3 28 (by simp)).trans (by simp+decide only[GS,g28]);have q7:F3.get 7=.ref y 0:=(hF3 7 (by simp)).trans (by simp+decide only[GS]);have hX3:(X++[iE r]).length<=1001:=by rw[By];simp only[IT,aq];omega
 subst hREST;generalize X++[iE r]=X3 at *;generalize keys A [iE r]=A3 at *;have kr:=λ(Y:Sg)=>TR (Z:=Y) h h' (s:=r.name);rw[NS];simp only[aA,cf,KP,ι,↓reduceIte,ε,reduceCtorEq,h.bB,h.bO,η,q7,hy3,l1];refine aV (λj F Y=>F.get 0=a/\F.get 5=.ref gb 0/\F.get 26=a/\F.get 27=c27/\F.get 28=.int .i64 (i:Int)/\F.get 7=.ref y 0/\F.get 50=p1/\F.get 51=.int .i64 (r.ins.length:Int)/\F.get 52=.int .i64 (j:Int)/\Y[y]?=some (ζ 46 [.str r.name,p1,p2,p3,p4] true)/\∃A L3 L4,oN E Y gb m0 m1 sa ma b3 b4 (es0++[(.str r.name,v)]) es1 A L3 L4/\xC X3 (P++(r.ins.take j).map (λf=>(((true,r.name):aC),((false,f):aC)))) A L3 L4) r.ins.length ?_ ?_ r.ins.length 0 _ _ (by omega) (BV (by simp+decide only[GS,q0,q5,JL,ZQ,ZP,q7,aj]) ⟨hy3,A3,L3,L4,ga3,by rw[jq,map_nil,gy];exact li3⟩)
 ·rintro j F Y hj ⟨g0,g5,g26,g27,g28,g7,g50,g51,g52,hy,A,L3,L4,ga,li⟩ next
  obtain⟨s,hsj⟩:∃y,r.ins[j]?=some y:=⟨_,AT hj⟩;obtain⟨g',e2⟩:=g_ h i1 hsj;have hlt:=dR hj;have hadd:=bW j (by omega);have hPl:(P++(r.ins.take j).map (λf=>(((true,r.name):aC),((false,f):aC)))).length<=100010:=by rw[By,bw,bl];omega
  have kf:=λ(Y:Sg)=>My (Z:=Y) h h' (s:=s);rw[aF];simp only[KP,ι,↓reduceIte,δ,ε,reduceCtorEq,h.dJ,h.bO,g5,g7,g50,g51,g52,hlt,e2,hy,kr,kf];refine aK (RT h h' hl ga (x:=(true,r.name)) (y:=(false,s)) (by have:=li.NV;omega) (λe he=>by have:=li.QU e he;omega) (λe he=>by have:=li.QT e he;omega)) ?_;rintro v2 τ' ⟨rfl,L3',L4',ga',gr3,gr4,kc⟩;simp only[KP,↓reduceIte,δ,ε,g52,hadd];refine next _ _ (BV (by simp+decide only[GS,g0,g5,g26,g27,g28,g7,g50,g51,aj]) ⟨kc _ _ _ _ hy,_,L3',L4',ga',?_⟩)
  rw[JZ hsj,<- cw];exact li.link gr3 gr4
 rintro F Y ⟨g0,g5,g26,g27,g28,g7,g50,g51,g52,hy,A,L3,L4,ga,li⟩;rw[ah (OF _)]at li;have hPl:(P++r.ins.map (λf=>(((true,r.name):aC),((false,f):aC)))).length<=100010:=by rw[By,bw];omega
 rw[aF];have hlt:=dW (bt r.ins.length);simp only[KP,ι,↓reduceIte,δ,ε,reduceCtorEq,h.bB,h.bO,g51,g52,hlt,g7,hy,l2];generalize hP2:P++r.ins.map (λf=>(((true,r.name):aC),((false,f):aC)))=P2 at *;refine aV (λj F Y=>F.get 0=a/\F.get 5=.ref gb 0/\F.get 26=a/\F.get 27=c27/\F.get 28=.int .i64 (i:Int)/\F.get 7=.ref y 0/\F.get 65=p2/\F.get 66=.int .i64 (r.outs.length:Int)/\F.get 67=.int .i64 (j:Int)/\Y[y]?=some (ζ 46 [.str r.name,p1,p2,p3,p4] true)/\∃es1 get A L3 L4,oN E Y gb m0 m1 sa ma b3 b4 (es0++[(.str r.name,v)]) es1 A L3 L4/\xC X3 (P2++(r.outs.take j).map (λf=>(((false,f):aC),((true,r.name):aC)))) A L3 L4/\SM E es1 get/\EN es1/\MK get (λk n=>Pm k n\/(k∈r.outs.take j/\n=r.name))) r.outs.length ?_ ?_ r.outs.length 0 _ _ (by omega) (BV (by simp+decide only[GS,g0,g5,g26,g27,g28,g7,aj]) ⟨hy,es1,get,A,L3,L4,ga,by rw[jq,map_nil,gy];exact li,hsm,hsv,hmk.congr λk n=>by simp⟩)
 ·rintro j F Y hj ⟨g0,g5,g26,g27,g28,g7,g65,g66,g67,hy,es1,get,A,L3,L4,ga,li,hsm,hsv,hmk⟩ next
  obtain⟨s,hsj⟩:∃y,r.outs[j]?=some y:=⟨_,AT hj⟩;obtain⟨g',e2⟩:=g_ h i2 hsj;have hlt:=dR hj;have hadd:=bW j (by omega);have hPl2:(P2++(r.outs.take j).map (λf=>(((false,f):aC),((true,r.name):aC)))).length<=100020:=by rw[By,bw,bl];omega
  have kf:=λ(Y:Sg)=>My (Z:=Y) h h' (s:=s);rw[aF];simp only[KP,ι,↓reduceIte,δ,ε,reduceCtorEq,h.dJ,h.bO,aX d18,bS,g5,g7,g65,g66,g67,hlt,e2,hy,kr,kf];refine aK (RT h h' hl ga (x:=(false,s)) (y:=(true,r.name)) (by have:=li.NV;omega) (λe he=>by have:=li.QU e he;omega) (λe he=>by have:=li.QT e he;omega)) ?_;rintro v2 τ' ⟨rfl,L3',L4',ga',gr3,gr4,kc⟩;have hy':=kc _ _ _ _ hy;have hg':=ga'.g;obtain⟨es1',hu,hsm',hsv'⟩:=SF h ga'.jW hsm hsv s r.name;have ga2:=ga'.Mj es1';simp only[KP,ι,↓reduceIte,δ,ε,reduceCtorEq,h.dJ,h.bO,h.HM,aX d19,bS,h'.pO,g5,g7,g67,hadd,hy',hg',hu];refine next _ _ (BV (by simp+decide only[GS,g0,g5,g26,g27,g28,g7,g65,g66,aj]) ⟨Lb.dY.GF ga'.jW _ _ _ _ hy',es1',_,_,L3',L4',ga2,?_,hsm',hsv',(hmk.put s r.name).congr λk n=>?_⟩)
  ·rw[HP hsj,<- cw];exact li.link gr3 gr4
  ·rw[gF hsj k];constructor
   ·rintro ((h1 | h1) | h1)
    ·exact .inl h1
    ·exact .inr ⟨.inl h1.1,h1.2⟩
    ·exact .inr ⟨.inr h1.1,h1.2⟩
   ·rintro (h1 | ⟨h1 | h1,h2⟩)
    ·exact .inl (.inl h1)
    ·exact .inl (.inr ⟨h1,h2⟩)
    ·exact .inr ⟨h1,h2⟩
 rintro F Y ⟨g0,g5,g26,g27,g28,g7,g65,g66,g67,hy,es1,get,A,L3,L4,ga,li,hsm,hsv,hmk⟩;rw[ah (OF _)]at li hmk;rw[aF];have hlt:=dW (bt r.outs.length);simp only[KP,↓reduceIte,ε,g66,g67,hlt];refine hk _ _ _ _ _ _ _ _ (by simp+decide only[GS,g0]) (by simp+decide only[GS,g5]) (by simp+decide only[GS,g26]) (by simp+decide only[GS,g27]) (by simp+decide only[GS,g28]) ga ?_ hrm hsm hsv hmk;unfold eF;rw[<- cw,hP2];exact li
theorem FY{rs:List aD}{i:Nat}{r:aD}(hr:rs[i]?=some r):(rs.take (i+1)).flatMap eF=(rs.take i).flatMap eF++eF r/\(rs.take (i+1)).map iE=(rs.take i).map iE++[iE r]:=by
 rw[dz,hr];simp
theorem nw_c(h:bG E)(h':mL E)(hl:bv E){a:V}{rs:List aD}(ia:IS dU a rs)(hs:∀x∈rs,Small x)(hsh:Gh rs)(hlen:rs.length<=1000)(F:FT)(g0:F.get 0=a){K:V->Sg->Prop}
  (hk:∀Y gb ma b3 b4 es0 es1 get A L3 L4,oN E Y gb 0 1 2 ma b3 b4 es0 es1 A L3 L4->xC (rs.map iE) (rs.flatMap eF) A L3 L4->RM es0 rs->SM E es1 get->EN es1->MK get (Mk rs)->K (.ref gb 0) Y):Ax.R E (η [1,1] (aA cf).code) [] ⟨88,F⟩ [] (nV E (aA cf).results K):=by
 have la:=dH h ia;have inner:=λ{Y gb ma b3 b4 es0 es1 A L3 L4} ga {X P} li hX hP {i r g p1 p2 p3 p4} e1 i1 i2 i3 i4 hs {rs2} ha hn {get Pm} hsm hsv hmk F g0 g5 g26 g27 g28 st Q hk=>Qm (Y:=Y) (gb:=gb) (m0:=0) (m1:=1) (sa:=2) (ma:=ma) (b3:=b3) (b4:=b4) (es0:=es0) (es1:=es1) (A:=A) (L3:=L3) (L4:=L4) (X:=X) (P:=P) (a:=a) (c27:=.int .i64 (rs.length:Int)) (i:=i) (r:=r) (g:=g) (p1:=p1) (p2:=p2) (p3:=p3) (p4:=p4) (rs:=rs2) (get:=get) (Pm:=Pm) h h' hl ga li hX hP e1 i1 i2 i3 i4 hs ha hn hsm hsv hmk F g0 g5 g26 g27 g28 (st:=st) (Q:=Q) hk;rw[show η [1,1] (aA cf).code=.seq (η [1,1,0] (aA cf).code) (.seq (.seq (η [1,1,1,0,0] (aA cf).code) (.block 0 (.loop (.seq (η [1,1,1,0,1,2,2,0] (aA cf).code) (.seq (η [1,1,1,0,1,2,2,1,0] (aA cf).code) (.seq (.block 1 (η [1,1,1,0,1,2,2,1,1,0,2] (aA cf).code)) (η [1,1,1,0,1,2,2,1,1,1] (aA cf).code))))))) (η [1,1,1,1] (aA cf).code)) from rfl];generalize η [1,1,1,0,1,2,2,1,1,0,2] (aA cf).code=B at inner ⊢;simp only[aA,cf,KP,↓reduceIte,ε,η];refine aK (Lb.Em hl (Z:=[.map [],.map []]) (v:=.aG) (l:=[]) (.inl ⟨rfl,rfl⟩) (by simp)) ?_;rintro v τ1 ⟨m,rfl,hset,hlt,kY⟩;have k0:=kY 0 _ rfl;have k1:=kY 1 _ rfl;have hs2:Lb.cF τ1 2 m []:=hset;have hlt:2<m:=hlt;have hml:=(AI.1 hs2.map).1;simp only[KP,↓reduceIte,δ,ε,μ,reduceCtorEq,h.HM,hZ,Ax.placeOf,hl.qP,h'.pO,h'.VN,h'.xR,g0,la]
 have ga0:oN E (τ1++[.map []]++[.map []]++[.cells 100 [.mp 0,.mp 1,.ref 2 0,.mp τ1.length,.mp (τ1++[qe []]).length] true]) (τ1++[qe []]++[qe []]).length 0 1 2 m τ1.length (τ1++[qe []]).length [] [] [] [] []:=by
  refine⟨aL,aI (aI (aI k0)),aI (aI (aI k1)),cF.app (cF.app (cF.app hs2 _) _) _,⟨aI (aI aL),(λe he=>by cases he),nodup_nil⟩,⟨aI aL,(λe he=>by cases he),nodup_nil⟩,?_⟩;rw[By];simp only[map_nil,gy,dw,IN,bz,ek,ql,IT,aq,od,nodup_nil,da];omega
 generalize τ1++[.map []]++[.map []]++[.cells 100 [.mp 0,.mp 1,.ref 2 0,.mp τ1.length,.mp (τ1++[qe []]).length] true]=τ2 at *;generalize (τ1++[qe []]++[qe []]).length=gb at *;generalize (τ1++[qe []]).length=b4 at *;generalize τ1.length=b3 at *;refine aV (λi F Y=>F.get 0=a/\F.get 5=.ref gb 0/\F.get 26=a/\F.get 27=.int .i64 (rs.length:Int)/\F.get 28=.int .i64 (i:Int)/\∃es0 es1 get A L3 L4,oN E Y gb 0 1 2 m b3 b4 es0 es1 A L3 L4/\xC ((rs.take i).map iE) ((rs.take i).flatMap eF) A L3 L4/\RM es0 (rs.take i)/\SM E es1 get/\EN es1/\MK get (Mk (rs.take i))) rs.length ?_ ?_ rs.length 0 _ _ (by omega) (kA (by simp+decide only[GS,g0,aj]) ⟨[],[],λ_=>none,[],[],[],ga0,xC.nil,.nil,Kg,(λe he=>by cases he),MK.nil.congr λk n=>⟨λh=>h.elim,λ⟨q,hq,_⟩=>by cases hq⟩⟩)
 ·rintro i F Y hi ⟨g0,g5,g26,g27,g28,es0,es1,get,A,L3,L4,ga,li,ha,hsm,hsv,hmk⟩ next
  obtain⟨r,hr⟩:∃y,rs[i]?=some y:=⟨_,AT hi⟩;obtain⟨g,p1,p2,p3,p4,e1,i1,i2,i3,i4⟩:=fQ h ia hr;have hrm:=ag hr;have hlt:=dR hi;have hadd:=bW i (by omega)
  have hnn:∀q∈rs.take i,q.name≠r.name:=λq hq e=>by
   obtain⟨j,hj⟩:=gr.1 hq;have hji:j<i:=by have:=(AI.1 hj).1;rw[bl]at this;omega
   rw[fu hji]at hj;have:=hsh.nodup j i q r hj hr e;omega
  have hXl:((rs.take i).map iE).length<=1000:=by rw[bw,bl];omega
  have hPl:((rs.take i).flatMap eF).length<=100000:=by
   have:=qI (rs.take i) λq hq=>hs q (jo hq);rw[bl]at this;omega
  rw[aF];simp only[KP,↓reduceIte,ε,g27,g28,hlt];refine inner ga li hXl hPl e1 i1 i2 i3 i4 (hs r hrm) ha hnn hsm hsv hmk _ ?_ ?_ ?_ ?_ ?_ _ _ (λF2 τ2 es0' es1' get' A' L3' L4' q0 q5 JL ZQ ZP ga' li' ha' hsm' hsv' hmk'=>?_)
  ·simp+decide only[GS,g0]
  ·simp+decide only[GS,g5]
  ·simp+decide only[GS,g26]
  ·simp+decide only[GS,g27]
  ·simp+decide only[GS,g28]
  simp only[KP,↓reduceIte,ε,ZP,hadd];refine next _ _ (kA (by simp+decide only[GS,q0,q5,JL,ZQ,aj]) ⟨es0',es1',get',A',L3',L4',ga',?_,?_,hsm',hsv',hmk'.congr λk n=>(M3 hr k n).symm⟩)
  ·rw[(FY hr).1,(FY hr).2];exact li'
  ·rw[dz,hr];exact ha'
 ·rintro F Y ⟨g0,g5,g26,g27,g28,es0,es1,get,A,L3,L4,ga,li,ha,hsm,hsv,hmk⟩;rw[ah (OF _)]at li ha hmk;have hlt:=dW (bt rs.length);rw[aF];simp only[KP,↓reduceIte,δ,ε,g5,g27,g28,hlt];exact hk _ _ _ _ _ _ _ _ _ _ _ ga li ha hsm hsv hmk
def uV(ks:List aC):V:=.cR false [.imp false (Lb.gU ks)]
def yJ(e:dL):V × V:=(iO e.key,uV e.ks)
def gV(es0 es1:List (V × V))(A:List aC)(L3 L4:List dL):V:=.cR false [.imp false es0,.imp false es1,uV A,.imp false (L3.map yJ),.imp false (L4.map yJ)]
structure Li (E:Env) (rs:List aD) (es0 es1:List (V × V)) (get:bF->Option V) (A:List aC) (L3 L4:List dL):Prop where
 rules:RM es0 rs
 sm:SM E es1 get
 sv:EN es1
 Mj:MK get (Mk rs)
 li:xC (rs.map iE) (rs.flatMap eF) A L3 L4
 nA:A.Nodup
 n3:(L3.map dL.key).Nodup
 n4:(L4.map dL.key).Nodup
 k3:∀e∈L3,e.ks.Nodup
 k4:∀e∈L4,e.ks.Nodup
def xD(E:Env)(rs:List aD)(v:V):Prop:=∃es0 es1 get A L3 L4,v=gV es0 es1 A L3 L4/\Li E rs es0 es1 get A L3 L4
theorem Dq{α β γ:Type}{f:β->Option γ}{g:α->β}{k:α->γ}:∀{l:List α},(∀x∈l,f (g x)=some (k x))->aW f (l.map g)=some (l.map k)
 | [],_=>rfl
 |x::l,h=>by rw[bj,aW,h x (No ..),Dq λy hy=>h y (ae _ hy)];rfl
theorem C0{Z:Sg}{b m n:Nat}{ks:List aC}(hs:Lb.cF Z b m ks):bA Z E.ty false (n+3) (.ref b 0)=some (uV ks):=by
 have e1:bA Z E.ty false (n+2) (.mp m)=some (.imp false (Lb.gU ks)):=by
  rw[bA];simp only[hs.map];rw[Lb.zW (Lb.gU ks)];intro e he;obtain⟨k,_,rfl⟩:=cv.1 he;rfl
 rw[bA];simp only[hs.obj,ez]
 show (match aW (λv=>match bA Z E.ty false (n+2) v with
  |some v=>if cI false v then some v else no "snap: borrowed"
  |none=>none) [V.mp m] with
  |some l=>some (V.cR false l)
  |none=>none)=_
 simp only[aW,e1];rfl
theorem CZ{Z:Sg}{b n:Nat}{L:List dL}(hm:jG Z b L):bA Z E.ty false (n+4) (.mp b)=some (.imp false (L.map yJ)):=by
 rw[bA];simp only[hm.map];rw[Dq (k:=yJ) λe he=>?_];have h1:=C0 (E:=E) (n:=n) (hm.sets e he);have hp:(iO e.key).cells.all n7=true:=rfl
 show (if (iO e.key).cells.all n7=true then (match (match bA Z E.ty false (n+3) (.ref e.s 0) with
   |some v=>if cI false v then some v else no "snap: borrowed"
   |none=>none) with
   |some v=>some (iO e.key,v)
   |none=>none) else none)=_
 rw[az hp,h1];rfl
theorem H8{Z:Sg}{b n:Nat}{es:List (V × V)}{rs:List aD}(hb:Z[b]?=some (.map es))(ha:RM es rs):bA Z E.ty false (n+2) (.mp b)=some (.imp false es):=by
 rw[bA];simp only[hb];rw[gH λe he=>?_];obtain⟨r,-,e1,a,b,c,d,e2,i1,i2,i3,i4⟩:=ha.mem he;obtain⟨k,v⟩:=e;dsimp only at e1 e2;subst e1 e2;have hp:(ab r.name).cells.all n7=true:=rfl;have q:∀c:V,ge c=true->bA Z E.ty false (n+1) c=some c:=λc h1=>jQ h1;have t0:cI false (ab r.name)=true:=rfl;simp only[hp,bf,aW,q (.str r.name) rfl,q a i1.is.bE,q b i2.is.bE,q c i3.is.bE,q d i4.is.bE,t0,i1.tag,i2.tag,i3.tag,i4.tag]
theorem Kf{Z:Sg}{b n:Nat}{es:List (V × V)}{get:bF->Option V}(hb:Z[b]?=some (.map es))(hs:SM E es get)(hv:EN es):bA Z E.ty false (n+2) (.mp b)=some (.imp false es):=by
 rw[bA];simp only[hb];rw[gH λe he=>?_];obtain⟨k,e1⟩:=(hs.1 e he).1;obtain⟨m,e2⟩:=hv e he;obtain⟨a,v⟩:=e;dsimp only at e1 e2;subst e1 e2;rfl
theorem Kc{Z:Sg}{gb m0 m1 sa ma b3 b4:Nat}{es0 es1:List (V × V)}{get:bF->Option V}{A:List aC}{L3 L4:List dL}{rs:List aD}(ga:oN E Z gb m0 m1 sa ma b3 b4 es0 es1 A L3 L4)(ha:RM es0 rs)(hs:SM E es1 get)(hv:EN es1):cQ Z E.ty false (.ref gb 0)=some (gV es0 es1 A L3 L4):=by
 have s0:=H8 (E:=E) (n:=9) ga.rules ha;have s1:=Kf (E:=E) (n:=9) ga.jW hs hv;have s2:=C0 (E:=E) (n:=8) ga.all;have s3:=CZ (E:=E) (n:=7) ga.kJ;have s4:=CZ (E:=E) (n:=7) ga.kC
 have e:bA Z E.ty false 12 (.ref gb 0)=some (gV es0 es1 A L3 L4):=by
  rw[bA];simp only[ga.g,ez]
  show (match aW (λv=>match bA Z E.ty false 11 v with
   |some v=>if cI false v then some v else no "snap: borrowed"
   |none=>none) [V.mp m0,V.mp m1,V.ref sa 0,V.mp b3,V.mp b4] with
   |some l=>some (V.cR false l)
   |none=>none)=_
  simp only[aW,s0,s1,s2,s3,s4];rfl
 show (match bA Z E.ty false 12 (.ref gb 0) with
  |some v=>if cI false v then some v else no "snap: borrowed"
  |none=>none)=_
 rw[e];rfl
theorem K3(h:bG E)(h':mL E)(hl:bv E){a:V}{rs:List aD}(ha:LS dU 46 Z a rs)(hs:∀x∈rs,Small x)(hlen:rs.length<=4294967296):aB E 13 [a] Z λv σ'=>σ'=Z/\((¬ oD rs/\v=.fV)\/(oD rs/\xD E rs v)):=by
 obtain⟨a',ea,ia⟩:=fI h ha;rw[aH h'.hs13 h'.PE h'.fn13 h'.md13 (args':=[a']) (by simp only[aW,ea]),aU (by kernel_rfl)]
 have key:=λhsh hlen F g0 hk=>nw_c (a:=a') (rs:=rs) h h' hl ia hs hsh hlen F g0 (K:=λv σ1=>match cQ σ1 E.ty false v with
   |some v=>((¬ oD rs/\v=.fV)\/(oD rs/\xD E rs v))
   |none=>False) hk
 rw[show (aA cf).code=.seq (η [0] (aA cf).code) (.seq (η [1,0] (aA cf).code) (η [1,1] (aA cf).code)) from rfl];generalize η [1,1] (aA cf).code=C at key ⊢;simp only[aA,cf,KP,↓reduceIte,ε,reduceCtorEq,η];refine aK (X9 h (ia.ls _ 46) hs hlen) ?_;rintro v σ' ⟨rfl,e,nm,rfl,hE⟩;by_cases he:e=0
 ·have q:=BY he;have hr:=hE.zero.1 he;have hg:=tP hr.1;have h40:=hg.len;simp only[KP,↓reduceIte,δ,ε,q];refine key hg.short (e8 h40 (by decide)) _ ?_ ?_
  ·simp+decide only[GS]
  intro Y gb ma b3 b4 es0 es1 get A L3 L4 ga li ha hsm hsv hmk;rw[Kc ga ha hsm hsv];exact .inr ⟨hr,es0,es1,get,A,L3,L4,rfl,ha,hsm,hsv,hmk,li,ga.all.nodup,ga.kJ.nodup,ga.kC.nodup,λe he=>(ga.kJ.sets e he).nodup,λe he=>(ga.kC.sets e he).nodup⟩
 ·have q:=AS he;simp only[KP,↓reduceIte,δ,ε,q];exact .inl ⟨mt hE.zero.2 he,rfl⟩
end
structure uM (E:Env):Prop where
 hs50:E.hspec 50=none
 sp50:E.spec 50=none
 fn50:E.fn 50=some (aA Tryz.f50)
 md50:E.mode 50=.eW
 hs52:E.hspec 52=none
 sp52:E.spec 52=none
 fn52:E.fn 52=some (aA Tryz.f52)
 md52:E.mode 52=.eW
 hs48:E.hspec 48=none
 sp48:E.spec 48=none
 fn48:E.fn 48=some (aA Tryz.f48)
 md48:E.mode 48=.eW
 hs47:E.hspec 47=none
 sp47:E.spec 47=none
 fn47:E.fn 47=some (aA Tryz.f47)
 md47:E.mode 47=.eW
 hs55:E.hspec 55=none
 sp55:E.spec 55=none
 fn55:E.fn 55=some (aA Tryz.f55)
 md55:E.mode 55=.eW
 Vo:E.hspec 113=none
 Vf:E.spec 113=none
 Vp:E.fn 113=some (aA Tryz.f113)
 Vl:E.mode 113=.eW
 adk:aN E (η [1,1,0] (aA Tryz.f50).code)=true
 adj:aN E (η [1,1,0] (aA Tryz.f52).code)=true
 adm:aN E (η [1,0,2,0] (aA Tryz.f48).code)=true
 adl:aN E (η [1,0,2,1,1,1,1,0] (aA Tryz.f48).code)=true
section
variable {E:Env}{Z:Sg}{K:V->Sg->Prop}
def xP(v:V)(l:List aC):Prop:=(v=.aG/\l=[])\/∃full,v=.bV false (l.map row) full
theorem xP.lv{v:V}{l:List aC}(h:xP v l):Lb.LV v l:=h.imp id λ⟨f,e⟩=>⟨false,f,e⟩
def Bp(ks:List aC):Prop:=ks.length<=1000000/\∀k∈ks,k.2.length<=9223372036854775807
theorem AK:∀l:List aC,gn 2 l.length (l.flatMap row)=l.map row
 | []=>rfl
 |x::l=>by
  rw[IT,fg,gn,bj];have h1:(row x++l.flatMap row).take 2=row x:=rfl;have h2:(row x++l.flatMap row).drop 2=l.flatMap row:=rfl;rw[h1,h2,AK l]
theorem Nk(hl:bv E){Z:Sg}{j:Nat}{l:List aC}{ex:Bool}(hj:Z[j]?=some (.cells 51 (l.flatMap row) ex)):∃v',cQ Z E.ty false (.sl j 0 l.length none)=some v'/\xP v' l:=by
 have hlen:(l.flatMap row).length=l.length*2:=Lb.kN l
 obtain⟨full,e⟩:=CY (g:=false) (n:=l.length) hj hl.bU (show l.length*2<=_ by omega) (λc hc=>by
  rw[show (l.flatMap row).take (l.length*2)=l.flatMap row from ah (by omega)]at hc;obtain⟨x,-,hx⟩:=ij.1 hc;unfold row at hx;simp only[IN,bz,ek]at hx;rcases hx with rfl | rfl <;> exact⟨rfl,rfl⟩)
 refine⟨_,e,.inr ⟨full,?_⟩⟩;show V.bV false (gn 2 l.length ((l.flatMap row).take (l.length*2))) full=_;rw[ah (by omega),AK]
theorem nW(hl:bv E){Z σ':Sg}{r:V}{l:List aC}(h:Lb.Own Z σ' r l):∃v',cQ σ' E.ty false r=some v'/\xP v' l:=by
 rcases h with⟨rfl,rfl⟩ | ⟨j,-,rfl,hj⟩
 ·exact⟨.aG,rfl,.inl ⟨rfl,rfl⟩⟩
 ·exact Nk hl hj
theorem xT{ks:List aC}(hn:ks.Nodup)(hs:Bp ks){j:Nat}{g:Bool}(hj:Z[j]?=some (.cells 88 [.imp g (Lb.gU ks)] true)) :
  kM 51 [154] [] 118 [.fn 154 [] [.ref j 0],.fn 118 [] []] Z=some (if ks=[] then (.aG,Z) else (.sl Z.length 0 ks.length none,Z++[.cells 51 ((setOf ks).flatMap row) false])):=by
 have hk:keysOf Z [154] [] (.fn 154 [] [.ref j 0])=some (ks.map row):=by
  unfold keysOf;simp only[hj];exact b8 some (Lb.AL ks)
 show n_ 51 [154] [] kK qE (.fn 154 [] [.ref j 0]) Z=_;unfold n_;rw[hk];cases hks:ks with
 |nil=>rfl
 |cons k r=>
  have ha:=Lb.uA ks hs.2;have hk2:=AF hn;have hlen:=hs.1;rw[hks]at ha hk2 hlen;rw[bj]at ha hk2 ⊢;rw[an (by simp)]
  show (match allRows kK (row k::r.map row),gd (row k::r.map row).length 1000000 with
   |true,true=>some (V.sl Z.length 0 (row k::r.map row).length none,Z++[ζ 51 (lA qE (row k::r.map row)).flatten false])
   |_,_=>none)=_
  rw[ha,jz (by simpa using hlen),hk2,Lb.DT];simp
theorem Hu(hl:bv E)(h:bG E){g:Bool}{es:List (V × V)}:aB E 117 [.imp g es] Z K=K (.fn 154 [] [.ref Z.length 0]) (Z++[.cells 88 [.imp g es] true]):=by
 refine aB.of ?_;rw[cJ hl.Rf hl.PG hl.Rx hl.Qt,aU (by kernel_rfl)];simp only[aA,Tryz.f117,KP,↓reduceIte,δ,ε,hl.q_]
theorem En(hl:bv E)(h:bG E){g g':Bool}{ks:List aC}(hn:ks.Nodup)(hsm:Bp ks):aB E 65 [.cR g [.imp g' (Lb.gU ks)]] Z λr σ'=>Lb.Own Z σ' r (setOf ks):=by
 rw[cJ hl.Xm hl.VV hl.Xs hl.WS,aU (by kernel_rfl)];have kk:=dX λK=>Hu (Z:=Z) (K:=K) hl h (g:=g') (es:=Lb.gU ks);simp only[aA,Tryz.f65,KP,ι,↓reduceIte,ε,reduceCtorEq,hl.q_,hl.oW,hl.CL,mM,kk];have hj:(Z++[ζ 88 [.imp g' (Lb.gU ks)] true])[Z.length]?=some (.cells 88 [.imp g' (Lb.gU ks)] true):=aL;have hsk:=xT hn hsm hj;unfold Au;rw[mO hl.Rh,hsk];by_cases hks:ks=[]
 ·rw[az hks];simp only[dK];simp only[KP,↓reduceIte,ε];subst hks;exact .inl ⟨rfl,rfl⟩
 ·rw[an hks];simp only[dK];simp only[KP,↓reduceIte,ε];refine .inr ⟨_,?_,by rw[oZ hn],?_⟩
  ·rw[By];omega
  ·exact aL
theorem X2(hl:bv E)(h:bG E){g g':Bool}{ks:List aC}(x:aC):aB E 63 [.cR g [.imp g' (Lb.gU ks)],.agg [.bool x.1,.str x.2]] Z K=K (.bool (decide (x∈ks))) Z:=by
 refine aB.of ?_;have hi:ge (.cR g [.imp g' (Lb.gU ks)])=true:=rfl;have e1:=bZ (Z:=Z) (ty:=E.ty) hi (bJ hi);have e2:aR Z E.ty true (.agg [.bool x.1,.str x.2])=some (.agg [.bool x.1,.str x.2]):=rfl;have d1:=hl.Vs;simp only[aA,Tryz.f63,η,ay]at d1;rw[aH hl.aba hl.YC hl.ab7 hl.aae (args':=[.cR g [.imp g' (Lb.gU ks)],.agg [.bool x.1,.str x.2]]) (by simp only[aW,e1,e2]),aU (by kernel_rfl)];have hk:=Lb.jU hl x.1 x.2;have hf:=Lb.tG hl x ks;by_cases hx:x∈ks
 ·simp only[aA,Tryz.f63,KP,ι,↓reduceIte,δ,ε,μ,reduceCtorEq,h.Ex,h.bU,hl.q_,hl.oW,hl.CL,mM,aX d1,bS,pj,hk,bm,hf,hx];exact rfl
 ·simp only[aA,Tryz.f63,KP,ι,↓reduceIte,δ,ε,μ,reduceCtorEq,h.Ex,h.bU,hl.q_,hl.oW,hl.CL,mM,aX d1,bS,pj,hk,bm,hf,hx];exact rfl
def c_(rs:List aD):List aC:=setOf (rs.map iE++(rs.flatMap eF).flatMap λp=>[p.1,p.2])
def bH(rs:List aD)(x:aC):List aC:=setOf (((rs.flatMap eF).filter λp=>decide (p.1=x)).map Prod.snd)
def fE(rs:List aD)(x:aC):List aC:=setOf (((rs.flatMap eF).filter λp=>decide (p.2=x)).map Prod.fst)
theorem nN{rs:List aD}{x w:aC}:w∈bH rs x ↔ (x,w)∈rs.flatMap eF:=by
 unfold bH;rw[eP,cv];constructor
 ·rintro⟨⟨a,b⟩,h1,rfl⟩;obtain⟨h1,h2⟩:=mu.1 h1;rw[<- er h2];exact h1
 ·exact λh1=>⟨(x,w),mu.2 ⟨h1,BY rfl⟩,rfl⟩
theorem wM{rs:List aD}{x w:aC}:w∈fE rs x ↔ (w,x)∈rs.flatMap eF:=by
 unfold fE;rw[eP,cv];constructor
 ·rintro⟨⟨a,b⟩,h1,rfl⟩;obtain⟨h1,h2⟩:=mu.1 h1;rw[<- er h2];exact h1
 ·exact λh1=>⟨(w,x),mu.2 ⟨h1,BY rfl⟩,rfl⟩
theorem Dp{rs:List aD}{x:aC}:x∈c_ rs ↔ x∈rs.map iE\/∃p∈rs.flatMap eF,x=p.1\/x=p.2:=by
 unfold c_;rw[eP,cq,ij];refine or_congr qh (exists_congr λp=>and_congr qh ?_);simp
theorem M1(rs:List aD):Up (c_ rs):=lI _
theorem vH(rs:List aD)(x:aC):Up (bH rs x):=lI _
theorem CJ(rs:List aD)(x:aC):Up (fE rs x):=lI _
structure Fits (rs:List aD):Prop where
 ok:oD rs
 small:∀x∈rs,Small x
theorem mD{s:bF}(h:bL s=true):s.length<=40:=by
 unfold bL at h;simp only[ak,af]at h;exact h.1.2
theorem KA{s:bF}(h:bL s=true):s≠[]:=by
 rintro rfl;revert h
 decide
theorem Fits.form{rs:List aD}(h:Fits rs):∀r∈rs,lE r=true:=λr hr=>by
 have h0:=h.ok.1;unfold gZ at h0;cases hf:rs.find? (λr=>decide (bD r≠0)) with
 |some q=>
  rw[hf]at h0;have:=find?_some hf;exact absurd h0 (er this)
 |none=>
  have:=lj.1 hf r hr
  have h1:bD r=0:=by
   refine oc λhne=>this (BY hne)
  unfold bD at h1;by_cases hq:lE r=false
  ·rw[az hq]at h1;cases h1
  ·simpa using hq
theorem Fits.names{rs:List aD}(h:Fits rs):∀r∈rs,bL r.name=true/\(∀f∈r.ins,bL f=true)/\∀f∈r.outs,bL f=true:=λr hr=>by
 have:=h.form r hr;rw[FO]at this;simp only[ak,eu]at this;exact⟨this.1.1.1.1.1,this.1.1.1.2,this.1.1.2⟩
theorem Fits.pair{rs:List aD}(h:Fits rs){p:aC × aC}(hp:p∈rs.flatMap eF):bL p.1.2=true/\bL p.2.2=true:=by
 obtain⟨r,hr,hp⟩:=ij.1 hp;obtain⟨h1,h2,h3⟩:=h.names r hr;unfold eF at hp;rcases cq.1 hp with hp | hp
 ·obtain⟨f,hf,rfl⟩:=cv.1 hp;exact⟨h1,h2 f hf⟩
 ·obtain⟨f,hf,rfl⟩:=cv.1 hp;exact⟨h3 f hf,h1⟩
theorem Fits.lab{rs:List aD}(h:Fits rs){x:aC}(hx:x∈c_ rs):bL x.2=true:=by
 rcases Dp.1 hx with hx | ⟨p,hp,rfl | rfl⟩
 ·obtain⟨r,hr,rfl⟩:=cv.1 hx;exact(h.names r hr).1
 ·exact(h.pair hp).1
 ·exact(h.pair hp).2
theorem Fits.len{rs:List aD}(h:Fits rs):rs.length<=40:=(tP h.ok.1).len
theorem Fits.Tg{rs:List aD}(h:Fits rs):(rs.flatMap eF).length<=640:=by
 have:=qI rs h.small;have:=h.len;omega
section
variable {rs:List aD}{es0 es1:List (V × V)}{get:bF->Option V}{A:List aC}{L3 L4:List dL}
theorem Li.all(hi:Li E rs es0 es1 get A L3 L4):setOf A=c_ rs:=Ia λx=>by
 rw[hi.li.all,cq,ij];refine or_congr qh (exists_congr λp=>and_congr qh ?_);simp
theorem Li.Wr(hi:Li E rs es0 es1 get A L3 L4)(hf:Fits rs):Bp A:=by
 refine⟨?_,λk hk=>?_⟩
 ·have h1:=hi.li.NV;have h2:=hf.Tg;have h3:=hf.len;rw[bw]at h1;omega
 ·have h1:k∈c_ rs:=by rw[<- hi.all,eP];exact hk
  have:=mD (hf.lab h1);omega
theorem G3{L:List dL}{e:dL}{x:aC}(he:bQ L x=some e):rW L x=e.ks:=by unfold rW;rw[he]
theorem Mv{L:List dL}{x:aC}(he:bQ L x=none):rW L x=[]:=by unfold rW;rw[he]
theorem Li.need(hi:Li E rs es0 es1 get A L3 L4)(x:aC):setOf (rW L3 x)=bH rs x:=Gt (lI _) (vH rs x) λw=>by rw[eP,hi.li.need,nN]
theorem Li.user(hi:Li E rs es0 es1 get A L3 L4)(x:aC):setOf (rW L4 x)=fE rs x:=Gt (lI _) (CJ rs x) λw=>by rw[eP,hi.li.user,wM]
theorem Li.Wt(hi:Li E rs es0 es1 get A L3 L4)(hf:Fits rs){e:dL}{x:aC}(he:bQ L3 x=some e):Bp e.ks:=by
 refine⟨?_,λk hk=>?_⟩
 ·have h1:=hi.li.QU e (gN he).1;have h2:=hf.Tg;omega
 ·rw[<- G3 he,hi.li.need]at hk;have h2:k.2.length<=40:=mD (hf.pair hk).2;omega
theorem Li.Ws(hi:Li E rs es0 es1 get A L3 L4)(hf:Fits rs){e:dL}{x:aC}(he:bQ L4 x=some e):Bp e.ks:=by
 refine⟨?_,λk hk=>?_⟩
 ·have h1:=hi.li.QT e (gN he).1;have h2:=hf.Tg;omega
 ·rw[<- G3 he,hi.li.user]at hk;have h2:k.2.length<=40:=mD (hf.pair hk).1;omega
end
theorem Dl(hl:bv E)(x:aC):∀L:List dL,jA (dG E 51) (iO x) (L.map yJ)=some ((L.find? λe=>decide (x=e.key)).map λe=>uV e.ks)
 | []=>rfl
 |e::L=>by
  show (match dG E 51 (.agg [.bool x.1,.str x.2]) (.agg [.bool e.key.1,.str e.key.2]) with
   |some true=>some (some (uV e.ks))
   |some false=>jA (dG E 51) (iO x) (L.map yJ)
   |none=>none)=_
  rw[Lb.nQ hl,mw];by_cases h:x=e.key
  ·rw[BY (show ((x.1,x.2):aC)=(e.key.1,e.key.2) from h)];rfl
  ·rw[AS (show ¬ ((x.1,x.2):aC)=(e.key.1,e.key.2) from h)];exact Dl hl x L
theorem FE(h':mL E)(hl:bv E){Z:Sg}{g:Bool}{L:List dL}(x:aC):lookup E Z 98 (.imp g (L.map yJ)) (.agg [.bool x.1,.str x.2]) false=some (match bQ L x with | some e=>uV e.ks | none=>.fV):=by
 have hk:=Lb.jU hl x.1 x.2;unfold pj;simp only[h'.xR,hl.qP,hk,bm,dm,ai,b9];have:=Dl hl x L;unfold iO at this;rw[this];unfold bQ;cases L.find? λe=>decide (x=e.key) <;> rfl
theorem adu(h:bG E)(h':mL E)(hl:bv E)(q:uM E){ks:List aC}(hn:ks.Nodup)(hs:Bp ks):aB E 113 [uV ks] Z λv σ'=>σ'=Z/\xP v (setOf ks):=by
 have hi:ge (uV ks)=true:=rfl;have e1:=bZ (Z:=Z) (ty:=E.ty) hi (bJ hi);rw[aH q.Vo q.Vf q.Vp q.Vl (args':=[uV ks]) (by simp only[aW,e1]),aU (by kernel_rfl)];simp only[aA,Tryz.f113,KP,↓reduceIte,ε,reduceCtorEq,hl.qP,hl.oW,hl.uQ,mM,uV];refine aK (En hl h hn hs) ?_;intro r σ' ho;obtain⟨v',hv,hlv⟩:=nW hl ho;simp only[KP,↓reduceIte,ε,hv];exact hlv
theorem Vv(h:bG E)(h':mL E)(hl:bv E)(q:uM E):aB E 113 [.fV] Z λv σ'=>σ'=Z/\xP v []:=by
 have e1:aR Z E.ty true .fV=some .fV:=rfl;rw[aH q.Vo q.Vf q.Vp q.Vl (args':=[.fV]) (by simp only[aW,e1]),aU (by kernel_rfl)];simp only[aA,Tryz.f113,KP,↓reduceIte,ε,reduceCtorEq,hl.qP,mM];exact .inl ⟨rfl,rfl⟩
theorem vX(h:bG E)(h':mL E)(hl:bv E)(q:uM E){g:V}{rs:List aD}(hg:xD E rs g)(hf:Fits rs)(x:aC):aB E 50 [g,.agg [.bool x.1,.str x.2]] Z λv σ'=>σ'=Z/\xP v (bH rs x):=by
 obtain⟨es0,es1,get,A,L3,L4,rfl,hi⟩:=hg;have him:ge (gV es0 es1 A L3 L4)=true:=rfl;have e1:=bZ (Z:=Z) (ty:=E.ty) him (bJ him);have e2:aR Z E.ty true (.agg [.bool x.1,.str x.2])=some (.agg [.bool x.1,.str x.2]):=rfl;have d3:=q.adk;simp only[aA,Tryz.f50,η,ay]at d3;rw[aH q.hs50 q.sp50 q.fn50 q.md50 (args':=[gV es0 es1 A L3 L4,.agg [.bool x.1,.str x.2]]) (by simp only[aW,e1,e2]),aU (by kernel_rfl)];have en:mM E 27 true (.cR false [.imp false es0,.imp false es1,uV A,.imp false (L3.map yJ),.imp false (L4.map yJ)]) .fV=some false:=by unfold mM;rw[h'.EB]
 have lk:=λZ g=>FE (Z:=Z) (g:=g) (L:=L3) h' hl x;rw[<- hi.need];cases hk:bQ L3 x with
 |none=>
  rw[hk]at lk;rw[Mv hk];simp only[aA,Tryz.f50,KP,ι,↓reduceIte,δ,ε,μ,reduceCtorEq,h.bU,h'.pO,h'.xR,gV,en,lk,aX d3,bS];refine aK (Vv h h' hl q) ?_;rintro r σ' ⟨rfl,hr⟩;rcases hr with⟨rfl,-⟩ | ⟨full,rfl⟩
  ·simp only[KP,↓reduceIte,ε];exact .inl ⟨rfl,rfl⟩
  ·simp only[KP,↓reduceIte,ε];exact .inr ⟨full,rfl⟩
 |some e=>
  rw[hk]at lk;rw[G3 hk];simp only[aA,Tryz.f50,KP,ι,↓reduceIte,δ,ε,μ,reduceCtorEq,h.bU,h'.pO,h'.xR,gV,en,lk,aX d3,bS];refine aK (adu h h' hl q (hi.k3 e (gN hk).1) (hi.Wt hf hk)) ?_;rintro r σ' ⟨rfl,hr⟩;rcases hr with⟨rfl,h0⟩ | ⟨full,rfl⟩
  ·simp only[KP,↓reduceIte,ε];exact .inl ⟨rfl,h0⟩
  ·simp only[KP,↓reduceIte,ε];exact .inr ⟨full,rfl⟩
theorem An(h:bG E)(h':mL E)(hl:bv E)(q:uM E){g:V}{rs:List aD}(hg:xD E rs g)(hf:Fits rs)(x:aC):aB E 52 [g,.agg [.bool x.1,.str x.2]] Z λv σ'=>σ'=Z/\xP v (fE rs x):=by
 obtain⟨es0,es1,get,A,L3,L4,rfl,hi⟩:=hg;have him:ge (gV es0 es1 A L3 L4)=true:=rfl;have e1:=bZ (Z:=Z) (ty:=E.ty) him (bJ him);have e2:aR Z E.ty true (.agg [.bool x.1,.str x.2])=some (.agg [.bool x.1,.str x.2]):=rfl;have d3:=q.adj;simp only[aA,Tryz.f52,η,ay]at d3;rw[aH q.hs52 q.sp52 q.fn52 q.md52 (args':=[gV es0 es1 A L3 L4,.agg [.bool x.1,.str x.2]]) (by simp only[aW,e1,e2]),aU (by kernel_rfl)];have en:mM E 27 true (.cR false [.imp false es0,.imp false es1,uV A,.imp false (L3.map yJ),.imp false (L4.map yJ)]) .fV=some false:=by unfold mM;rw[h'.EB]
 have lk:=λZ g=>FE (Z:=Z) (g:=g) (L:=L4) h' hl x;rw[<- hi.user];cases hk:bQ L4 x with
 |none=>
  rw[hk]at lk;rw[Mv hk];simp only[aA,Tryz.f52,KP,ι,↓reduceIte,δ,ε,μ,reduceCtorEq,h.bU,h'.pO,h'.xR,gV,en,lk,aX d3,bS];refine aK (Vv h h' hl q) ?_;rintro r σ' ⟨rfl,hr⟩;rcases hr with⟨rfl,-⟩ | ⟨full,rfl⟩
  ·simp only[KP,↓reduceIte,ε];exact .inl ⟨rfl,rfl⟩
  ·simp only[KP,↓reduceIte,ε];exact .inr ⟨full,rfl⟩
 |some e=>
  rw[hk]at lk;rw[G3 hk];simp only[aA,Tryz.f52,KP,ι,↓reduceIte,δ,ε,μ,reduceCtorEq,h.bU,h'.pO,h'.xR,gV,en,lk,aX d3,bS];refine aK (adu h h' hl q (hi.k4 e (gN hk).1) (hi.Ws hf hk)) ?_;rintro r σ' ⟨rfl,hr⟩;rcases hr with⟨rfl,h0⟩ | ⟨full,rfl⟩
  ·simp only[KP,↓reduceIte,ε];exact .inl ⟨rfl,h0⟩
  ·simp only[KP,↓reduceIte,ε];exact .inr ⟨full,rfl⟩
theorem RU(h:bG E)(h':mL E)(hl:bv E)(q:uM E){g:V}{rs:List aD}(hg:xD E rs g)(hf:Fits rs):aB E 47 [g] Z λv σ'=>σ'=Z/\xP v (c_ rs):=by
 obtain⟨es0,es1,get,A,L3,L4,rfl,hi⟩:=hg;have him:ge (gV es0 es1 A L3 L4)=true:=rfl;have e1:=bZ (Z:=Z) (ty:=E.ty) him (bJ him);rw[aH q.hs47 q.sp47 q.fn47 q.md47 (args':=[gV es0 es1 A L3 L4]) (by simp only[aW,e1]),aU (by kernel_rfl)];have en:mM E 27 true (.cR false [.imp false es0,.imp false es1,.cR false [.imp false (Lb.gU A)],.imp false (L3.map yJ),.imp false (L4.map yJ)]) .fV=some false:=by unfold mM;rw[h'.EB]
 rw[<- hi.all];simp only[aA,Tryz.f47,KP,ι,↓reduceIte,ε,reduceCtorEq,hl.qP,hl.oW,hl.uQ,h'.pO,gV,uV,en];refine aK (En hl h hi.nA (hi.Wr hf)) ?_;intro r σ' ho;obtain⟨v',hv,hlv⟩:=nW hl ho;simp only[KP,↓reduceIte,ε,hv];exact hlv
def tH(rs:List aD)(f:bF):Option aD:=rs.find? λr=>decide (f∈r.outs)
def kindOf(rs:List aD)(x:aC):Int:=if x∈c_ rs then (if x.1=true then 1 else if (tH rs x.2).isSome=true then 2 else 3) else 0
theorem mZ{rs:List aD}{f:bF}{r:aD}(h:tH rs f=some r):r∈rs/\f∈r.outs:=⟨List.mem_of_find?_eq_some h,by have:=find?_some h;exact er this⟩
theorem GW{rs:List aD}{f:bF}(h:tH rs f=none):∀r∈rs,f ∉ r.outs:=λr hr hf=>by
 have:=lj.1 h r hr;exact this (BY hf)
theorem Li.get{rs:List aD}{es0 es1:List (V × V)}{get:bF->Option V}{A:List aC}{L3 L4:List dL}(hi:Li E rs es0 es1 get A L3 L4)(hf:Fits rs)(f:bF):get f=(tH rs f).map λr=>ab r.name:=by
 rcases hi.Mj f with⟨h1,h2⟩ | ⟨n,⟨r,hr,hfr,rfl⟩,h2⟩
 ·rw[h1];cases hm:tH rs f with
  |none=>rfl
  |some r=>exact absurd ⟨r,(mZ hm).1,(mZ hm).2,rfl⟩ (h2 r.name)
 ·rw[h2];cases hm:tH rs f with
  |none=>exact absurd hfr (GW hm r hr)
  |some r'=>
   have:=(tP hf.ok.1).short.jW f r.name r'.name ⟨r,hr,hfr,rfl⟩ ⟨r',(mZ hm).1,(mZ hm).2,rfl⟩;rw[this];rfl
theorem QF(h:bG E){Z:Sg}{x:V}{es:List (V × V)}{get:bF->Option V}(hx:bm Z x=some es)(hs:SM E es get)(k:bF):lookup E Z 97 x (.str k) false=some (match get k with | some v=>v | none=>.str []):=by
 have hk:eH E 9 (.str k)=true:=by unfold eH;rw[h.dJ]
 unfold pj;simp only[h.HM,h.dJ,hk,hx,hs.2 k,dm,ai,b9];cases get k <;> rfl
theorem Ht(h:bG E)(h':mL E)(hl:bv E)(q:uM E){g:V}{rs:List aD}(hg:xD E rs g)(hf:Fits rs)(x:aC):aB E 48 [g,.agg [.bool x.1,.str x.2]] Z K=K (.int .i64 (kindOf rs x)) Z:=by
 refine aB.of ?_;obtain⟨es0,es1,get,A,L3,L4,rfl,hi⟩:=hg;have him:ge (gV es0 es1 A L3 L4)=true:=rfl;have e1:=bZ (Z:=Z) (ty:=E.ty) him (bJ him);have e2:aR Z E.ty true (.agg [.bool x.1,.str x.2])=some (.agg [.bool x.1,.str x.2]):=rfl;have d1:=q.adm;simp only[aA,Tryz.f48,η,ay]at d1;have d5:=q.adl;simp only[aA,Tryz.f48,η,ay]at d5;rw[aH q.hs48 q.sp48 q.fn48 q.md48 (args':=[gV es0 es1 A L3 L4,.agg [.bool x.1,.str x.2]]) (by simp only[aW,e1,e2]),aU (by kernel_rfl)];have en:mM E 27 true (.cR false [.imp false es0,.imp false es1,.cR false [.imp false (Lb.gU A)],.imp false (L3.map yJ),.imp false (L4.map yJ)]) .fV=some false:=by unfold mM;rw[h'.EB]
 have kh:=λ(Y:Sg)=>dX λK=>X2 (Z:=Y) (K:=K) hl h (g:=false) (g':=false) (ks:=A) x;have hA:decide (x∈A)=decide (x∈c_ rs):=by rw[<- hi.all];simp only[eP]
 rw[hA]at kh;have lk:=λZ=>QF (Z:=Z) (x:=.imp false es1) h rfl hi.sm x.2;rw[hi.get hf]at lk;have s0:∀a b:bF,uE .neq a b=some (.bool (!Ax.seq a b)):=λa b=>rfl;unfold kindOf;by_cases hx:x∈c_ rs
 ·rw[BY hx]at kh;rw[az hx];cases hb:x.1 with
  |true=>
   rw[hb]at kh;simp only[aA,Tryz.f48,KP,ι,↓reduceIte,δ,ε,μ,reduceCtorEq,h.Ex,h.bU,hl.qP,hl.oW,hl.uQ,h'.pO,gV,uV,en,kh,aX d1,bS];exact rfl
  |false=>
   rw[hb]at kh;cases hm:tH rs x.2 with
   |none=>
    rw[hm]at lk;have z:Ax.seq ([]:bF) []=true:=rfl;simp only[aA,Tryz.f48,KP,ι,↓reduceIte,δ,ε,μ,reduceCtorEq,h.Ex,h.dJ,h.bU,h.HM,lZ,hl.qP,hl.oW,hl.uQ,h'.pO,gV,uV,en,kh,lk,s0,z,aX d1,aX d5,bS];exact rfl
   |some r=>
    rw[hm]at lk;have z:Ax.seq r.name []=false:=gW (KA (hf.names r (mZ hm).1).1);simp only[aA,Tryz.f48,KP,ι,↓reduceIte,δ,ε,μ,reduceCtorEq,h.Ex,h.dJ,h.bU,h.HM,lZ,hl.qP,hl.oW,hl.uQ,h'.pO,gV,uV,en,kh,lk,s0,z,aX d1,aX d5,bS];exact rfl
 ·rw[AS hx]at kh;rw[an hx];simp only[aA,Tryz.f48,KP,ι,↓reduceIte,δ,ε,μ,reduceCtorEq,h.bU,hl.qP,hl.oW,hl.uQ,h'.pO,gV,uV,en,kh,aX d1,bS];exact rfl
theorem Ve.ru{v:V}{x:aD}(h:Ve v x):JC v x:=by
 obtain⟨a,b,c,d,rfl,h1,h2,h3,h4⟩:=h;exact⟨a,b,c,d,rfl,h1.is,h2.is,h3.is,tK h4.is sQ⟩
def cN:Lay aC:=⟨λr x=>r=row x,2,λ_ _ h=>by rw[h];rfl,λ_ _ h c hc=>by
 rw[h]at hc;unfold row at hc;simp only[IN,bz,ek]at hc;rcases hc with rfl | rfl <;> rfl⟩
theorem v_:∀l:List aC,eL cN.P (l.map row) l
 | []=>.nil
 |x::l=>.cons rfl (v_ l)
theorem xP.KL{v:V}{l:List aC}(h:xP v l):kQ cN v l:=h.imp id λ⟨f,e⟩=>⟨_,f,e,v_ l⟩
theorem LV.is{v:V}{l:List aC}(h:Lb.LV v l):IS cN v l:=h.imp id λ⟨g,f,e⟩=>⟨g,_,f,e,v_ l⟩
theorem sV:∀{rs:List (List V)}{l:List aC},eL cN.P rs l->rs=l.map row
 |_,_,.nil=>rfl
 |_,_,.cons h t=>by rw[bj,<- sV t,show _=_ from h]
theorem IS.lv{v:V}{l:List aC}(h:IS cN v l):Lb.LV v l:=h.imp id λ⟨g,rs,f,e,a⟩=>⟨g,f,by rw[e,sV a]⟩
theorem jM(h:bG E){v:V}{l}(ia:IS cN v l)(Z:Sg):lenOf E Z 23 v=some l.length:=lV h.fF rfl (ia.ls Z 51)
theorem t_(h:bG E){v:V}{l}(ia:IS cN v l){i:Nat}{x}(hx:l[i]?=some x):∃g,indexAddr E 23 v (.int .i64 (i:Int))=some (.cR g [.bool x.1,.str x.2]):=by
 obtain⟨g,r,h1,h2⟩:=IS.at h.fF rfl h.bU rfl ia hx;exact⟨g,by rw[h1,show r=row x from h2];rfl⟩
theorem iJ(h:bG E){v:V}{l}(ha:LS cN 51 Z v l):∃v',aR Z E.ty true v=some v'/\IS cN v' l:=Cl h.bU rfl ha
theorem Hh(hl:bv E){b:Bool}(x y:aC):mM E 51 b (.agg [.bool x.1,.str x.2]) (.agg [.bool y.1,.str y.2])=some (decide (x=y)):=by
 unfold mM;rw[hl.bU];simp only[hl.Uq,Ax.eqs,zF,me,j7];rw[ec];simp only[ak,gp,af];exact⟨λ⟨h1,h2⟩=>Prod.ext h1 h2,λh=>by rw[h];exact⟨rfl,rfl⟩⟩
theorem HZ(Z:Sg)(x:aC):aR Z E.ty true (.agg [.bool x.1,.str x.2])=some (.agg [.bool x.1,.str x.2]):=rfl
theorem UO(h:bG E)(hl:bv E){a:V}{l:List aC}{s:aC}(ha:LS cN 51 Z a l)(hsm:l.length<=4294967296):aB E 43 [a,.agg [.bool s.1,.str s.2]] Z K=K (.int .i64 (idx (bR (λx=>decide (x=s)) l))) Z:=by
 refine aB.of ?_;obtain⟨a',ea,ia⟩:=iJ h ha;have es:=HZ (E:=E) Z s;have d4:=hl.ado;simp only[aA,Tryz.f43,η,ay]at d4;rw[aH hl.hs43 hl.sp43 hl.fn43 hl.md43 (args':=[a',.agg [.bool s.1,.str s.2]]) (by simp only[aW,ea,es]),aU (by kernel_rfl)];simp only[aA,Tryz.f43,KP,↓reduceIte,ε,μ,φ,h.bU];have la:=jM h ia;refine aV (λi F Y=>Y[0]?=some (ζ 51 [.bool s.1,.str s.2] true)/\F.get 0=a'/\F.get 3=.ref 0 0/\F.get 5=.int .i64 (i:Int)/\∀j y,j<i->l[j]?=some y->y≠s) l.length ?_ ?_ l.length 0 _ _ (by omega) ⟨rfl,(fK (by simp+decide only[GS,aj]) (λj y hj=>by omega))⟩
 ·rintro i F Y hi ⟨hb,g0,g3,g5,hp⟩ next
  obtain⟨x,hx⟩:∃x,l[i]?=some x:=⟨_,AT hi⟩;obtain⟨g,e1⟩:=t_ h ia hx;have hlt:=dR hi;have hadd:=bW i (by omega);have ev:=λb=>Hh (b:=b) hl x s;rw[aF];by_cases hxs:x=s
  ·rw[BY hxs]at ev;simp only[KP,ι,↓reduceIte,δ,ε,μ,reduceCtorEq,φ,h.bU,g0,g3,g5,la,hlt,e1,hb,ev,aX d4,bS];rw[gC (i:=i) (x:=x) (λj y hj hy=>AS (hp j y hj hy)) hx (BY hxs)];exact rfl
  ·rw[AS hxs]at ev;simp only[KP,ι,↓reduceIte,δ,ε,μ,reduceCtorEq,φ,h.bU,g0,g3,g5,la,hlt,e1,hb,ev,hadd,aX d4,bS];refine next _ _ ⟨hb,(fK (by simp+decide only[GS,g0,g3,aj]) (λj y hj hy=>?_))⟩
   rcases cr j i with g | g
   ·exact hp j y g hy
   ·obtain rfl:j=i:=by omega
    rw[hx]at hy;cases hy;exact hxs
 ·rintro F Y ⟨hb,g0,g3,g5,hp⟩;have hlt:=dW (bt l.length);rw[aF];simp only[KP,↓reduceIte,δ,ε,reduceCtorEq,φ,g0,g5,la,hlt]
  rw[gD λx hx=>by
   obtain⟨j,hj,e⟩:=fm hx;exact AS (hp j x hj (by rw[AT hj,e]))]
  exact rfl
theorem Ve.snap{Y:Sg}{v:V}{x:aD}(hv:Ve v x):aR Y E.ty false v=some v:=by
 obtain⟨a,b,c,d,rfl,h1,h2,h3,h4⟩:=hv
 have q:∀c:V,ge c=true->cI false c=true->aR.one Y E.ty false c=some c:=λc h1 h2=>by
  unfold aR.one;rw[show dN=11+1 from rfl,jQ h1];simp only[h2,bf]
 show (match aW (aR.one Y E.ty false) [.str x.name,a,b,c,d] with
  |some l=>some (V.agg l)
  |none=>none)=_
 simp only[aW,q (.str x.name) rfl rfl,q a h1.is.bE h1.tag,q b h2.is.bE h2.tag,q c h3.is.bE h3.tag,q d h4.is.bE h4.tag]
theorem FB{rs:List aD}{p:aC × aC}:p∈rs.flatMap eF ↔ ∃r∈rs,(∃f∈r.ins,p=(((true,r.name):aC),((false,f):aC)))\/∃f∈r.outs,p=(((false,f):aC),((true,r.name):aC)):=by
 rw[ij];refine exists_congr λr=>and_congr qh ?_;unfold eF;rw[cq,cv,cv];exact or_congr (exists_congr λf=>and_congr qh eq_comm) (exists_congr λf=>and_congr qh eq_comm)
theorem GM{rs:List aD}{a b:aC}(hp:(a,b)∈rs.flatMap eF):a∈c_ rs/\b∈c_ rs:=⟨Dp.2 (.inr ⟨_,hp,.inl rfl⟩),Dp.2 (.inr ⟨_,hp,.inr rfl⟩)⟩
theorem Nt{rs:List aD}(hf:Fits rs){r r':aD}(h1:r∈rs)(h2:r'∈rs)(he:r.name=r'.name):r=r':=by
 obtain⟨i,hi⟩:=gr.1 h1;obtain⟨j,hj⟩:=gr.1 h2;have:=(tP hf.ok.1).short.nodup i j r r' hi hj he;subst this;rw[hi]at hj;exact dh hj
theorem kP{rs:List aD}(hf:Fits rs):(c_ rs).length<=2000:=by
 have h1:=hf.Tg;have h2:=hf.len;refine e8 (eO (b:=rs.map iE++(rs.flatMap eF).flatMap λp=>[p.1,p.2]) (M1 rs).nodup λx hx=>eP.1 hx) ?_
 have h3:∀P:List (aC × aC),(P.flatMap λp=>[p.1,p.2]).length=2*P.length:=λP=>by
  induction P with
  |nil=>rfl
  |cons p P ih=>rw[fg,By,ih];simp only[IT,aq];omega
 rw[By,bw,h3];omega
end
structure Sq (E:Env):Prop where
 hs77:E.hspec 77=none
 sp77:E.spec 77=none
 fn77:E.fn 77=some (aA dq)
 md77:E.mode 77=.eW
 hs17:E.hspec 17=none
 PD:E.spec 17=none
 fn17:E.fn 17=some (aA Tryz.f17)
 md17:E.mode 17=.eW
 hs19:E.hspec 19=none
 PC:E.spec 19=none
 fn19:E.fn 19=some (aA Tryz.f19)
 md19:E.mode 19=.eW
section
variable {E:Env}{Z:Sg}{K:V->Sg->Prop}
theorem Mm{c:Code}{s:List iT}{w:Nat}{Q:io->Fr->Sg->Prop}(I:Nat->FT->Sg->Prop)
  (step:∀n F Y,I n F Y->(∀n' F' τ',n'<n->I n' F' τ'->Ax.R E (.loop c) s ⟨w,F'⟩ τ' Q)->Ax.R E (.loop c) s ⟨w,F⟩ Y Q):∀(n:Nat)(F:FT)(Y:Sg),I n F Y->Ax.R E (.loop c) s ⟨w,F⟩ Y Q:=by
 intro n
 induction n using Nat.strongRecOn with
 |_ n ih=>exact λF Y h=>step n F Y h λn' F' τ' hn h'=>ih n' hn F' τ' h'
theorem Og{Y:Sg}{x:aC}{ex:Bool}:elems (Y++[.cells 51 [.bool x.1,.str x.2] ex]) 2 (.sl Y.length 0 1 none)=some ([row x].flatten,[x].length):=by
 simp only[elems,aL];rfl
theorem Kr(hl:bv E):eD E #[23,23]=true:=by
 unfold eD;simp only[hl.fF,cn,cm,bh];rfl
theorem Aq(hl:bv E){Y:Sg}{w:V}{l:List aC}{x:aC}{ex:Bool}(ow:aY cN 51 Y w l)(hb:l.length<=1000000):∃w' τ',Ax.append E (Y++[.cells 51 [.bool x.1,.str x.2] ex]) #[23,23] w (.sl Y.length 0 1 none)=some (w',τ')/\aY cN 51 τ' w' (l++[x])/\Sp (Y++[.cells 51 [.bool x.1,.str x.2] ex]) τ' w/\∀c,aO w'=some c->aO w=some c\/Y.length<=c:=by
 obtain⟨w',τ',h1,h2,h3,-,h5⟩:=kB (m:=[x]) (new:=[row x]) hl.fF rfl hl.bU rfl (by decide) (Kr hl) rfl (ow.app [.cells 51 [.bool x.1,.str x.2] ex]) Og (.one rfl) (dO (b:=1000001) (by decide) (by simp only[IT,aq];omega));exact⟨w',τ',h1,h2,h3,λc hc=>(h5 c hc).imp id λh=>by rw[By]at h;omega⟩
def Rk(nx:aC->List aC)(s0:aC->Prop):Nat->aC->Prop
 |0,x=>s0 x
 |k+1,x=>Rk nx s0 k x\/∃y,Rk nx s0 k y/\x∈nx y
def EO(nx:aC->List aC)(s0:aC->Prop)(bC:Int)(x:aC):Prop:=(bC<0/\∃n,Rk nx s0 n x)\/(0<=bC/\Rk nx s0 bC.toNat x)
section
variable {nx:aC->List aC}{s0:aC->Prop}
theorem Rk.mono{x : aC} : ∀ {k n : Nat}, k <= n -> Rk nx s0 k x -> Rk nx s0 n x
  | k, 0, h, hx => by obtain rfl : k = 0 := by omega
                      exact hx
  | k, n + 1, h, hx => by
    rcases cr n k with h1 | h1
    · obtain rfl : k = n + 1 := by omega
      exact hx
    · exact .inl (Rk.mono h1 hx)
theorem Rk.closed{k:Nat}(hc:∀y x,Rk nx s0 k y->x∈nx y->Rk nx s0 k x):∀(n:Nat) {x:aC},Rk nx s0 n x->Rk nx s0 k x
 |0,_,hx=>Rk.mono (gv k) hx
 |n+1,_,.inl hx=>Rk.closed hc n hx
 |n+1,_,.inr ⟨y,hy,hx⟩=>hc y _ (Rk.closed hc n hy) hx
structure Rd (nx:aC->List aC) (s0:aC->Prop) (k:Nat) (A now:List aC):Prop where
 all:∀x,x∈A ↔ Rk nx s0 k x
 sub:∀x,x∈now->x∈A
 rest:∀y,y∈A->y ∉ now->∀x,x∈nx y->x∈A
theorem Rd.start{A now:List aC}(h1:∀x,x∈A ↔ s0 x)(h2:∀x,x∈now ↔ x∈A):Rd nx s0 0 A now:=⟨h1,λx h=>(h2 x).1 h,λy h h'=>absurd ((h2 y).2 h) h'⟩
theorem Rd.next{k:Nat}{A now A' more:List aC}(h:Rd nx s0 k A now)(h1:∀x,x∈A' ↔ x∈A\/∃y∈now,x∈nx y)(h2:∀x,x∈more ↔ x∈A'/\x ∉ A):Rd nx s0 (k+1) A' more:=by
 have key:∀y x,y∈A->x∈nx y->x∈A':=λy x hy hx=>by
  by_cases hn:y∈now
  ·exact(h1 x).2 (.inr ⟨y,hn,hx⟩)
  ·exact(h1 x).2 (.inl (h.rest y hy hn x hx))
 refine⟨λx=>?_,λx hx=>((h2 x).1 hx).1,λy hy hn x hx=>?_⟩
 ·constructor
  ·intro hx;rcases (h1 x).1 hx with hx | ⟨y,hy,hx⟩
   ·exact .inl ((h.all x).1 hx)
   ·exact .inr ⟨y,(h.all y).1 (h.sub y hy),hx⟩
  ·rintro (hx | ⟨y,hy,hx⟩)
   ·exact(h1 x).2 (.inl ((h.all x).2 hx))
   ·exact key y x ((h.all y).2 hy) hx
 ·by_cases hA:y∈A
  ·exact key y x hA hx
  ·exact absurd ((h2 y).2 ⟨hy,hA⟩) hn
theorem Rd.bC{k:Nat}{A now:List aC}(h:Rd nx s0 k A now)(x:aC):x∈A ↔ EO nx s0 (k:Int) x:=by
 rw[h.all];unfold EO;constructor
 ·exact λhx=>.inr ⟨by omega,by rw[dx];exact hx⟩
 ·rintro (⟨h1,-⟩ | ⟨-,hx⟩)
  ·omega
  ·rw[dx]at hx;exact hx
theorem Rd.still{k:Nat}{A:List aC}{bC:Int}(h:Rd nx s0 k A [])(hk:0<=bC->(k:Int)<=bC)(x:aC):x∈A ↔ EO nx s0 bC x:=by
 have hc:∀y x,Rk nx s0 k y->x∈nx y->Rk nx s0 k x:=λy x hy hx=>(h.all x).1 (h.rest y ((h.all y).2 hy) (by simp) x hx);rw[h.all];unfold EO;constructor
 ·intro hx;by_cases hf:bC<0
  ·exact .inl ⟨hf,k,hx⟩
  ·exact .inr ⟨by omega,Rk.mono (by have:=hk (by omega);omega) hx⟩
 ·rintro (⟨-,n,hx⟩ | ⟨-,hx⟩)
  ·exact Rk.closed hc n hx
  ·exact Rk.closed hc _ hx
theorem Rk.sub{P:aC->Prop}(h0:∀x,s0 x->P x)(hn:∀y x,x∈nx y->P x):∀(n:Nat) {x:aC},Rk nx s0 n x->P x
 |0,_,hx=>h0 _ hx
 |n+1,_,.inl hx=>Rk.sub h0 hn n hx
 |n+1,_,.inr ⟨y,_,hx⟩=>hn y _ hx
end
theorem keys_in{A:List aC}{x:aC}(hx:x∈A):keys A [x]=A:=az hx
theorem IK{A:List aC}{x:aC}(hx:x ∉ A):keys A [x]=A++[x]:=an hx
theorem Qj{Y:Sg}{w:V}{l:List aC}{c:Nat}(ow:aY cN 51 Y w l)(h:aO w=some c):c<Y.length:=by
 rcases ow with⟨rfl,-⟩ | ⟨b,rs,ex,rfl,hb,-⟩
 ·cases h
 ·cases h;exact(AI.1 hb).1
theorem BH{Y:Sg}{w:V}{l:List aC}{c:Nat}(ow:aY cN 51 Y w l)(h:∀u ex,Y[c]?≠some (.cells 51 u ex)):aO w≠some c:=by
 rcases ow with⟨rfl,-⟩ | ⟨b,rs,ex,rfl,hb,-⟩
 ·intro e;cases e
 ·intro e;cases e;exact h _ _ hb
theorem Qk{Y τ':Sg}{w:V}{l:List aC}{b m:Nat}{A:List aC}(ow:aY cN 51 Y w l)(hs:Lb.cF Y b m A)(hk:Lb.Kp Y τ' m):aY cN 51 τ' w l:=ow.keep λc o hc ho=>hk c o (λe=>by
 subst e;exact BH ow (λu ex e=>by rw[hs.map]at e;cases e) hc) ho
theorem Vk{Y τ':Sg}{w v:V}{l:List aC}(ow:aY cN 51 Y w l)(hne:∀c,aO v=some c->aO w≠some c)(hk:Sp Y τ' v):aY cN 51 τ' w l:=ow.keep λc o hc ho=>hk c o ho λe=>hne c e hc
theorem PU{Y τ':Sg}{w:V}{l:List aC}{b m:Nat}{A:List aC}(hs:Lb.cF Y b m A)(ow:aY cN 51 Y w l)(hk:Sp Y τ' w):Lb.cF τ' b m A:=by
 refine⟨hk _ _ hs.obj (BH ow λu ex e=>?_),hk _ _ hs.map (BH ow λu ex e=>?_),hs.nodup⟩
 ·rw[hs.obj]at e;cases e
 ·rw[hs.map]at e;cases e
theorem QY{Y:Sg}{x:aC}:Lb.SV (Y++[.cells 51 [.bool x.1,.str x.2] true]) (.sl Y.length 0 1 none) [x]:=.inr (.inr ⟨Y.length,_,true,rfl,aL,rfl⟩)
def NxL(E:Env)(k:Nat)(g:V)(nx:aC->List aC):Prop:=∀(Z:Sg)(x:aC),aB E k [g,.agg [.bool x.1,.str x.2]] Z λv σ'=>σ'=Z/\xP v (nx x)
structure Ri (nx:aC->List aC) (all A0:List aC) (P:aC->Prop) (A more:List aC):Prop where
 mem:∀x,x∈A ↔ x∈A0\/P x
 new:∀x,x∈more ↔ x∈A/\x ∉ A0
 sub:∀x,x∈A->x∈all
 len:more.length<=A.length
 nd:A.Nodup
 up:A0.length<=A.length/\(more≠[]->A0.length<A.length)
theorem Ri.le{nx:aC->List aC}{all A0 A more:List aC}{P:aC->Prop}(h:Ri nx all A0 P A more)(hal:all.length<=2000):A.length<=2000:=e8 (eO h.nd h.sub) hal
theorem Ri.old{nx:aC->List aC}{all A0 A more:List aC}{P P':aC->Prop}(h:Ri nx all A0 P A more){x:aC}(hx:x∈A)(hP:∀y,P' y ↔ P y\/y=x):Ri nx all A0 P' A more:=⟨λy=>by
 rw[hP,<- or_assoc,<- h.mem];exact⟨.inl,λh=>h.elim id λe=>by rw[e];exact hx⟩,h.new,h.sub,h.len,h.nd,h.up⟩
theorem Ri.fresh{nx:aC->List aC}{all A0 A more:List aC}{P P':aC->Prop}(h:Ri nx all A0 P A more){x:aC}(hx:x ∉ A)(ha:x∈all)(hP:∀y,P' y ↔ P y\/y=x):Ri nx all A0 P' (A++[x]) (more++[x]):=by
 have hx0:x ∉ A0:=λe=>hx ((h.mem x).2 (.inl e));refine⟨λy=>?_,λy=>?_,λy hy=>?_,by simp only[By,IT,aq];have:=h.len;omega,jx.2 ⟨h.nd,List.pairwise_singleton ..,λa ha b hb e=>hx (by rw[cj]at hb;rw[<- hb,<- e];exact ha)⟩,?_⟩
 ·rw[hP,<- or_assoc,<- h.mem,cq,cj]
 ·rw[cq,cq,cj,h.new];constructor
  ·rintro (⟨h1,h2⟩ | rfl)
   ·exact⟨.inl h1,h2⟩
   ·exact⟨.inr rfl,hx0⟩
  ·rintro⟨h1 | h1,h2⟩
   ·exact .inl ⟨h1,h2⟩
   ·exact .inr h1
 ·rcases cq.1 hy with h1 | h1
  ·exact h.sub y h1
  ·rw[cj.1 h1];exact ha
 ·have:=h.up.1;simp only[By,IT,aq];exact⟨by omega,λ_=>by omega⟩
theorem Ri.congr{nx:aC->List aC}{all A0 A more:List aC}{P P':aC->Prop}(h:Ri nx all A0 P A more)(hP:∀y,P' y ↔ P y):Ri nx all A0 P' A more:=⟨λy=>by rw[hP];exact h.mem y,h.new,h.sub,h.len,h.nd,h.up⟩
theorem iA{l:List aC}{j:Nat}{x:aC}(hj:l[j]?=some x)(y:aC):y∈l.take (j+1) ↔ y∈l.take j\/y=x:=by
 rw[dz,hj];simp
theorem fM(a:Bool)(s:bF):hZ (λj=>some (j*2,2)) (gG 1 [du false,ab []]) [(0,V.agg [du a,ab s])]=some [.bool a,.str s]:=rfl
theorem GN(hl:bv E){Y:Sg}{w:V}{l:List aC}(on:aY cN 51 Y w l){i:Nat}{y:aC}(hy:l[i]?=some y):∃b o u cs ex,indexAddr E 23 w (.int .i64 (i:Int))=some (.ref b o)/\Y[b]?=some (.cells u cs ex)/\o+2<=cs.length/\(cs.drop o).take 2=row y:=by
 obtain⟨p,r0,e1,hr0,-,-,hp⟩:=Eo hl.fF rfl hl.bU rfl on.ls hy;obtain rfl:r0=row y:=hr0;rcases hp with⟨g,rfl⟩ | ⟨b,o,rfl,u,cs,ex,hb,hle,hrow⟩
 ·exfalso;rcases on with⟨rfl,rfl⟩ | ⟨b,rs,ex,rfl,hb,-⟩
  ·cases hy
  ·unfold indexAddr at e1;simp only[hl.fF,hl.bU]at e1
   repeat' split at e1
   all_goals cases e1
 ·exact⟨b,o,u,cs,ex,e1,hb,hle,hrow⟩
theorem WA(h:bG E)(h':mL E)(hl:bv E)(q:uM E)(rc:Sq E){k b m:Nat}{g:V}{nx:aC->List aC}(hnx:NxL E k g nx){all:List aC}(hall:∀x y,y∈nx x->y∈all)(hlen:all.length<=2000)(hnl:∀x,(nx x).length<=2000){A0 A more now:List aC}{P P':aC->Prop}{wn wm:V}{i:Nat}{y:aC}
  {Y:Sg}(hs:Lb.cF Y b m A)(on:aY cN 51 Y wn now)(om:aY cN 51 Y wm more)(hne:∀c,aO wm=some c->aO wn≠some c)(hy:now[i]?=some y)(ri:Ri nx all A0 P A more)(hP:∀x,P' x ↔ P x\/x∈nx y)
  (F:FT)(g2:F.get 2=.fn k [g] [])(g9:F.get 9=.ref b 0)(g13:F.get 13=wm)(g50:F.get 50=wn)(g52:F.get 52=.int .i64 (i:Int)){st:List iT}{Q:io->Fr->Sg->Prop}
  (hk:∀F' τ' wm' A' more',(∀k,k∈[1,2,9,50,51,52]->F'.get k=F.get k)->F'.get 13=wm'->Lb.cF τ' b m A'->aY cN 51 τ' wn now->aY cN 51 τ' wm' more'->(∀c,aO wm'=some c->aO wn≠some c)->Ri nx all A0 P' A' more'->M E st .normal ⟨80,F'⟩ τ' Q):Ax.R E (η [1,1,1,1,0,2,2,1,0,2,1,0,1,2,2,1,1,0,2] (aA dq).code) st ⟨80,F⟩ Y Q:=by
 obtain⟨c,o,u,cs,ex,e1,hc,hle,hrow⟩:=GN hl on hy;simp only[aA,dq,KP,ι,Ξ,↓reduceIte,δ,ε,μ,h.bU,η,g2,g50,g52,e1,hc,hle,hrow,row,aL,bP];refine aK (hnx _ y) ?_;rintro v σ' ⟨rfl,hv⟩;have hvi:=hv.KL.is;have la:=jM h hvi;have hnl:=hnl y;have hs1:=hs.kY (Lb.lF.app Y [ζ 51 [.bool y.1,.str y.2] true]);have on1:=on.app [ζ 51 [.bool y.1,.str y.2] true];have om1:=om.app [ζ 51 [.bool y.1,.str y.2] true];generalize Y++[ζ 51 [.bool y.1,.str y.2] true]=τ1 at hs1 on1 om1 ⊢;simp only[KP,↓reduceIte,ε,la];have hadl:nx y ⊆ all:=λx hx=>hall y x hx;generalize nx y=L at hvi hv la hnl hP hadl;refine aV (λj F2 τ2=>(∀k,k∈[1,2,9,50,51,52]->F2.get k=F.get k)/\F2.get 58=v/\F2.get 59=.int .i64 (L.length:Int)/\F2.get 60=.int .i64 (j:Int)/\∃A more wm,F2.get 13=wm/\Lb.cF τ2 b m A/\aY cN 51 τ2 wn now/\aY cN 51 τ2 wm more/\(∀c,aO wm=some c->aO wn≠some c)/\Ri nx all A0 (λx=>P x\/x∈L.take j) A more) L.length ?_ ?_ L.length 0 _ _ (by omega) ⟨?_,(fK (by simp+decide only[GS,aj]) ⟨A,more,wm,(by simp+decide only[GS,g13]),hs1,on1,om1,hne,ri.congr λx=>by simp⟩)⟩
 ·rintro j F2 τ2 hj ⟨hF,g58,g59,g60,A,more,wm,g13,hs,on,om,hne,ri⟩ next
  obtain⟨x,hx⟩:∃x,L[j]?=some x:=⟨_,AT hj⟩;obtain⟨gi,e1⟩:=t_ h hvi hx;have hlt:=dR hj;have hadd:=bW j (by omega);have f9:F2.get 9=.ref b 0:=(hF 9 (by simp)).trans g9;have hAl:=ri.le hlen;have hml:=ri.len;rw[aF];simp only[KP,ι,Ξ,↓reduceIte,δ,ε,ω,μ,ap,h.fF,h.bU,f9,g58,g59,g60,hlt,e1,aL,bP,fM];have hs2:=hs.kY (Lb.lF.app τ2 [ζ 51 [.bool x.1,.str x.2] true]);have on2:=on.app [ζ 51 [.bool x.1,.str x.2] true];have om2:=om.app [ζ 51 [.bool x.1,.str x.2] true];have hz2:(τ2++[ζ 51 [.bool x.1,.str x.2] true])[τ2.length]?=some (ζ 51 [.bool x.1,.str x.2] true):=aL;generalize τ2++[ζ 51 [.bool x.1,.str x.2] true]=τ3 at hs2 on2 om2 hz2 ⊢;generalize τ2.length=z at hz2 ⊢;refine aK (Lb.Jr hl (hs2.kY (Lb.lF.app τ3 [ζ 51 [.bool x.1,.str x.2] true])) QY (show 1<=10000000000 by omega) (by omega)) ?_;rintro v4 τ4 ⟨rfl,hs4,hk4⟩;have hs3:=hs2.kY (Lb.lF.app τ3 [ζ 51 [.bool x.1,.str x.2] true]);have on4:=Qk (on2.app _) hs3 hk4;have om4:=Qk (om2.app _) hs3 hk4
  have hz4:=hk4 _ _ (λe=>by
   have:=hs2.map;rw[<- e,hz2]at this;cases this) (aI (x:=ζ 51 [.bool x.1,.str x.2] true) hz2)
  by_cases hxA:x∈A
  ·rw[keys_in hxA]at hs4 ⊢;have hd:((A.length:Int)-(A.length:Int))=0:=by omega
   rw[hd];simp only[KP,↓reduceIte,δ,ε,dv,g60,hadd];refine next _ _ ⟨?_,(fK (by simp+decide only[GS,g58,g59,aj]) ⟨A,more,wm,(by simp+decide only[GS,g13]),hs4,on4.keep λc o _ hc=>hc,om4,hne,ri.old hxA λy=>?_⟩)⟩
   ·intro k hk;rw[<- hF k hk];simp only[IN,bz,ek]at hk;rcases hk with rfl | rfl | rfl | rfl | rfl | rfl <;> simp+decide only[GS]
   ·rw[or_assoc,iA hx]
  ·rw[IK hxA]at hs4 ⊢;have hd:(((A++[x]).length:Int)-(A.length:Int))=1:=by rw[By,IT,aq];omega
   rw[hd];obtain⟨w',τ5,ha5,ow5,HV,fr5⟩:=Aq (x:=x) (ex:=true) hl om4 (by omega);simp only[KP,ι,↓reduceIte,δ,ε,ω,μ,ap,dv,h.fF,h.bU,hz4,g13,fM,ha5,g60,hadd];refine next _ _ ⟨?_,(fK (by simp+decide only[GS,g58,g59,aj]) ⟨A++[x],more++[x],w',(by simp+decide only[GS]),PU (hs4.kY (Lb.lF.app τ4 _)) (om4.app _) HV,Vk (on4.app _) (λc hc=>hne c hc) HV,ow5,λc hc=>?_,ri.fresh hxA (hadl (ag hx)) λy=>?_⟩)⟩
   ·intro k hk;rw[<- hF k hk];simp only[IN,bz,ek]at hk;rcases hk with rfl | rfl | rfl | rfl | rfl | rfl <;> simp+decide only[GS]
   ·rcases fr5 c hc with hc | hc
    ·exact hne c hc
    ·exact λe=>by have:=Qj on4 e;omega
   ·rw[or_assoc,iA hx]
 ·rintro F2 τ2 ⟨hF,g58,g59,g60,A,more,wm,g13,hs,on,om,hne,ri⟩;have hlt:=dW (bt L.length);rw[ah (OF _)]at ri;rw[aF];simp only[KP,↓reduceIte,ε,g59,g60,hlt];refine hk _ _ wm A more ?_ (by simp+decide only[GS,g13]) hs on om hne (ri.congr hP);intro k hk;rw[<- hF k hk];simp only[IN,bz,ek]at hk;rcases hk with rfl | rfl | rfl | rfl | rfl | rfl <;> simp+decide only[GS]
 ·intro k hk;simp only[IN,bz,ek]at hk;rcases hk with rfl | rfl | rfl | rfl | rfl | rfl <;> simp+decide only[GS]
structure Sd (rs:List aD) (l A now:List aC):Prop where
 mem:∀x,x∈A ↔ x∈l/\x∈c_ rs
 nw:∀x,x∈now ↔ x∈A
 len:now.length<=A.length
theorem Sd.old{rs:List aD}{ls A now:List aC}{j:Nat}{x:aC}(h:Sd rs (ls.take j) A now)(hx:ls[j]?=some x)(hA:x∈c_ rs->x∈A):Sd rs (ls.take (j+1)) A now:=⟨λy=>by
 rw[h.mem,iA hx];constructor
 ·exact λe=>⟨.inl e.1,e.2⟩
 ·rintro⟨e | rfl,e2⟩
  ·exact⟨e,e2⟩
  ·exact(h.mem _).1 (hA e2),h.nw,h.len⟩
theorem Sd.fresh{rs:List aD}{ls A now:List aC}{j:Nat}{x:aC}(h:Sd rs (ls.take j) A now)(hx:ls[j]?=some x)(ha:x∈c_ rs):Sd rs (ls.take (j+1)) (A++[x]) (now++[x]):=⟨λy=>by
 rw[cq,h.mem,iA hx,cj];constructor
 ·rintro (e | rfl)
  ·exact⟨.inl e.1,e.2⟩
  ·exact⟨.inr rfl,ha⟩
 ·rintro⟨e | rfl,e2⟩
  ·exact .inl ⟨e,e2⟩
  ·exact .inr rfl,λy=>by rw[cq,cq,h.nw],by have:=h.len;rw[By,By];omega⟩
theorem G5{rs:List aD}{x:aC}(hx:x∈c_ rs):kindOf rs x≠0:=by
 unfold kindOf;rw[az hx];split
 ·decide
 ·split <;> decide
theorem DD{rs:List aD}{x:aC}(hx:x ∉ c_ rs):kindOf rs x=0:=an hx
theorem Td(h:bG E)(h':mL E)(hl:bv E)(q:uM E)(rc:Sq E){g:V}{rs:List aD}(hg:xD E rs g)(hf:Fits rs){b m:Nat}{lv bC nf:V}{ls:List aC}(iv:IS cN lv ls)(hls:ls.length<=1000000){Y:Sg}(hs:Lb.cF Y b m [])
  (F:FT)(g0:F.get 0=g)(g3:F.get 3=lv)(g9:F.get 9=.ref b 0)(g10:F.get 10=.aG){st:List iT}{Q:io->Fr->Sg->Prop}
  (hk:∀F' τ' wn A now,(∀k,k∈[0,1,2,9]->F'.get k=F.get k)->F'.get 10=wn->Lb.cF τ' b m A->aY cN 51 τ' wn now->Sd rs ls A now->M E st .normal ⟨80,F'⟩ τ' Q):Ax.R E (η [1,1,1,0] (aA dq).code) st ⟨80,F⟩ Y Q:=by
 have la:=jM h iv;simp only[aA,dq,KP,↓reduceIte,ε,η,g3,la];refine aV (λi F2 τ2=>(∀k,k∈[0,1,2,9]->F2.get k=F.get k)/\F2.get 19=lv/\F2.get 20=.int .i64 (ls.length:Int)/\F2.get 21=.int .i64 (i:Int)/\∃A now wn,F2.get 10=wn/\Lb.cF τ2 b m A/\aY cN 51 τ2 wn now/\Sd rs (ls.take i) A now) ls.length ?_ ?_ ls.length 0 _ _ (by omega) ⟨?_,(fK (by simp+decide only[GS,aj]) ⟨[],[],.aG,(by simp+decide only[GS,g10]),hs,.inl ⟨rfl,rfl⟩,(λx=>by simp),(λx=>by simp),OF _⟩)⟩
 ·rintro j F2 τ2 hj ⟨hF,g19,g20,g21,A,now,wn,g10,hs,on,sd⟩ next
  obtain⟨x,hx⟩:∃x,ls[j]?=some x:=⟨_,AT hj⟩;obtain⟨gi,e1⟩:=t_ h iv hx;have hlt:=dR hj;have hadd:=bW j (by omega);have f0:F2.get 0=g:=(hF 0 (by simp)).trans g0;have f9:F2.get 9=.ref b 0:=(hF 9 (by simp)).trans g9;have hAl:A.length<=2000:=e8 (eO hs.nodup λy hy=>((sd.mem y).1 hy).2) (kP hf);have hnl:=sd.len;have kk:=λ(Y:Sg)=>dX λK=>Ht (Z:=Y) (K:=K) h h' hl q hg hf x;rw[aF];by_cases hxa:x∈c_ rs
  ·have hkd:=G5 hxa;generalize kindOf rs x=kd at kk hkd;have hkd:decide (kd=0)=false:=AS hkd;simp only[KP,ι,Ξ,↓reduceIte,δ,ε,ω,μ,ap,reduceCtorEq,h.fF,h.bU,f0,f9,g19,g20,g21,hlt,e1,kk,hkd,aL,bP,fM];have hs2:=hs.kY (Lb.lF.app τ2 [ζ 51 [.bool x.1,.str x.2] true]);have on2:=on.app [ζ 51 [.bool x.1,.str x.2] true];have hz2:(τ2++[ζ 51 [.bool x.1,.str x.2] true])[τ2.length]?=some (ζ 51 [.bool x.1,.str x.2] true):=aL;generalize τ2++[ζ 51 [.bool x.1,.str x.2] true]=τ3 at hs2 on2 hz2 ⊢;generalize τ2.length=z at hz2 ⊢;have hs3:=hs2.kY (Lb.lF.app τ3 [ζ 51 [.bool x.1,.str x.2] true]);refine aK (Lb.Jr hl hs3 QY (show 1<=10000000000 by omega) (by omega)) ?_;rintro v4 τ4 ⟨rfl,hs4,hk4⟩;have on4:=Qk (on2.app _) hs3 hk4
   have hz4:=hk4 _ _ (λe=>by
    have:=hs2.map;rw[<- e,hz2]at this;cases this) (aI (x:=ζ 51 [.bool x.1,.str x.2] true) hz2)
   by_cases hxA:x∈A
   ·rw[keys_in hxA]at hs4 ⊢;have hd:((A.length:Int)-(A.length:Int))=0:=by omega
    rw[hd];simp only[KP,↓reduceIte,δ,ε,dv,g21,hadd];refine next _ _ ⟨?_,(fK (by simp+decide only[GS,g19,g20,aj]) ⟨A,now,wn,(by simp+decide only[GS,g10]),hs4,on4,sd.old hx λ_=>hxA⟩)⟩
    intro k hk;rw[<- hF k hk];simp only[IN,bz,ek]at hk;rcases hk with rfl | rfl | rfl | rfl <;> simp+decide only[GS]
   ·rw[IK hxA]at hs4 ⊢;have hd:(((A++[x]).length:Int)-(A.length:Int))=1:=by rw[By,IT,aq];omega
    rw[hd];obtain⟨w',τ5,ha5,ow5,HV,-⟩:=Aq (x:=x) (ex:=true) hl on4 (by omega);simp only[KP,ι,↓reduceIte,δ,ε,ω,μ,ap,dv,h.fF,h.bU,hz4,g10,fM,ha5,g21,hadd];refine next _ _ ⟨?_,(fK (by simp+decide only[GS,g19,g20,aj]) ⟨A++[x],now++[x],w',(by simp+decide only[GS]),PU (hs4.kY (Lb.lF.app τ4 _)) (on4.app _) HV,ow5,sd.fresh hx hxa⟩)⟩
    intro k hk;rw[<- hF k hk];simp only[IN,bz,ek]at hk;rcases hk with rfl | rfl | rfl | rfl <;> simp+decide only[GS]
  ·have hkd:=DD hxa;rw[hkd]at kk;simp only[KP,ι,Ξ,↓reduceIte,δ,ε,μ,reduceCtorEq,h.bU,f0,g19,g20,g21,hlt,e1,kk,hadd,aL,bP];refine next _ _ ⟨?_,(fK (by simp+decide only[GS,g19,g20,aj]) ⟨A,now,wn,(by simp+decide only[GS,g10]),hs.kY (Lb.lF.app τ2 _),on.app _,sd.old hx λe=>absurd e hxa⟩)⟩
   intro k hk;rw[<- hF k hk];simp only[IN,bz,ek]at hk;rcases hk with rfl | rfl | rfl | rfl <;> simp+decide only[GS]
 ·rintro F2 τ2 ⟨hF,g19,g20,g21,A,now,wn,g10,hs,on,sd⟩;have hlt:=dW (bt ls.length);rw[ah (OF _)]at sd;rw[aF];simp only[KP,↓reduceIte,ε,g20,g21,hlt];refine hk _ _ wn A now ?_ (by simp+decide only[GS,g10]) hs on sd;intro k hk;rw[<- hF k hk];simp only[IN,bz,ek]at hk;rcases hk with rfl | rfl | rfl | rfl <;> simp+decide only[GS]
 ·intro k hk;simp only[IN,bz,ek]at hk;rcases hk with rfl | rfl | rfl | rfl <;> simp+decide only[GS]
theorem Nz(h:bG E)(h':mL E)(hl:bv E)(q:uM E)(rc:Sq E){k0 b m:Nat}{g:V}{nx:aC->List aC}(hnx:NxL E k0 g nx){all:List aC}(hall:∀x y,y∈nx x->y∈all)(hlen:all.length<=2000)(hnl:∀x,(nx x).length<=2000){s0:aC->Prop}{bC:Int}(hf1:-1<=bC)(hf2:bC<=9223372036854775807)
  {A now:List aC}{wn:V}{Y:Sg}(hs:Lb.cF Y b m A)(on:aY cN 51 Y wn now)(hA:∀x,x∈A ↔ s0 x)(hn:∀x,x∈now ↔ x∈A)(hsub:∀x,x∈A->x∈all)(hnlen:now.length<=A.length)
  (F:FT)(g1:F.get 1=.int .i64 bC)(g2:F.get 2=.fn k0 [g] [])(g9:F.get 9=.ref b 0)(g10:F.get 10=wn){st:List iT}{Q:io->Fr->Sg->Prop}
  (hk:∀F' τ' A',F'.get 9=.ref b 0->Lb.cF τ' b m A'->(∀x,x∈A'->x∈all)->(∀x,x∈A' ↔ EO nx s0 bC x)->M E st .normal ⟨80,F'⟩ τ' Q):Ax.R E (η [1,1,1,1,0] (aA dq).code) st ⟨80,F⟩ Y Q:=by
 have one:=λ{A0 A more now P P' wn wm i y Y} hs on om hne hy ri hP F g2 g9 g13 g50 g52 st Q hk=>WA (k:=k0) (b:=b) (m:=m) (A0:=A0) (A:=A) (more:=more) (now:=now) (P:=P) (P':=P') (wn:=wn) (wm:=wm) (i:=i) (y:=y) (Y:=Y) h h' hl q rc hnx hall hlen hnl hs on om hne hy ri hP F g2 g9 g13 g50 g52 (st:=st) (Q:=Q) hk;rw[show (η [1,1,1,1,0] (aA dq).code)=.block 2 (.loop (.seq (η [1,1,1,1,0,2,2,0] (aA dq).code) (.seq (.block 3 (.seq (η [1,1,1,1,0,2,2,1,0,2,0] (aA dq).code) (.seq (.seq (η [1,1,1,1,0,2,2,1,0,2,1,0,0] (aA dq).code) (.block 4 (.loop (.seq (η [1,1,1,1,0,2,2,1,0,2,1,0,1,2,2,0] (aA dq).code) (.seq (η [1,1,1,1,0,2,2,1,0,2,1,0,1,2,2,1,0] (aA dq).code) (.seq (.block 5 (η [1,1,1,1,0,2,2,1,0,2,1,0,1,2,2,1,1,0,2] (aA dq).code)) (η [1,1,1,1,0,2,2,1,0,2,1,0,1,2,2,1,1,1] (aA dq).code))))))) (η [1,1,1,1,0,2,2,1,0,2,1,1] (aA dq).code)))) (η [1,1,1,1,0,2,2,1,1] (aA dq).code)))) from rfl];generalize η [1,1,1,1,0,2,2,1,0,2,1,0,1,2,2,1,1,0,2] (aA dq).code=B at one ⊢;simp only[aA,dq,KP,η];refine Mm (λn F Y=>∃(k:Nat) (A now:List aC) (wn:V),F.get 1=.int .i64 (bC-(k:Int))/\F.get 2=.fn k0 [g] []/\F.get 9=.ref b 0/\F.get 10=wn/\Lb.cF Y b m A/\aY cN 51 Y wn now/\Rd nx s0 k A now/\(∀x,x∈A->x∈all)/\now.length<=A.length/\(k<=A.length+1/\(now≠[]->k<=A.length))/\(0<=bC->(k:Int)<=bC)/\((now=[]/\n=2*(2001-A.length))\/(now≠[]/\n=2*(2001-A.length)+1))) ?_ (2*(2001-A.length)+(if now=[] then 0 else 1)) _ _ ⟨0,A,now,wn,?_,(by simp+decide only[g2]),(by simp+decide only[g9]),(by simp+decide only[g10]),hs,on,Rd.start hA hn,hsub,hnlen,⟨by omega,λ_=>by omega⟩,λ_=>by omega,?_⟩
 ·clear hs on hA hn hsub hnlen g1 g2 g9 g10;rintro n F Y ⟨k,A,now,wn,g1,g2,g9,g10,hs,on,rd,hsub,hnlen,hkl,hkf,hn⟩ next
  have hAl:A.length<=2000:=e8 (eO hs.nodup hsub) hlen;have la:=λ(Z:Sg) (o:aY cN 51 Z wn now)=>lV hl.fF rfl o.ls;have ln:=la _ on;rw[aF];by_cases h0:now=[]
  ·subst h0;rw[aq]at ln;simp only[KP,↓reduceIte,δ,ε,dv,g10,ln];exact hk _ _ A (by simp+decide only[GS,g9]) hs hsub (rd.still hkf)
  by_cases hz:bC-(k:Int)=0
  ·have hgt:decide ((0:Int)<(now.length:Int))=true:=BY (by have:=ej.2 h0;omega);rw[hz]at g1;simp only[KP,↓reduceIte,δ,ε,g1,g10,ln,hgt];refine hk _ _ A (by simp+decide only[GS,g9]) hs hsub λx=>?_;rw[rd.bC,show (k:Int)=bC by omega]
  have hgt:decide ((0:Int)<(now.length:Int))=true:=BY (by have:=ej.2 h0;omega);have hzd:decide (bC-(k:Int)=0)=false:=AS hz;simp only[KP,↓reduceIte,δ,ε,g1,g10,ln,hgt,hzd];have hnl2:now.length<=2000:=by omega
  refine aV (λi F2 τ2=>F2.get 1=.int .i64 (bC-(k:Int))/\F2.get 2=.fn k0 [g] []/\F2.get 9=.ref b 0/\F2.get 50=wn/\F2.get 51=.int .i64 (now.length:Int)/\F2.get 52=.int .i64 (i:Int)/\∃A' more wm,F2.get 13=wm/\Lb.cF τ2 b m A'/\aY cN 51 τ2 wn now/\aY cN 51 τ2 wm more/\(∀c,aO wm=some c->aO wn≠some c)/\Ri nx all A (λx=>∃y∈now.take i,x∈nx y) A' more) now.length ?_ ?_ now.length 0 _ _ (by omega) (sF (by simp+decide only[GS,g1,g2,g9,aj]) ⟨A,[],.aG,(by simp+decide only[GS]),hs,on,.inl ⟨rfl,rfl⟩,(λc hc=>by cases hc),⟨λx=>by simp,(λx=>by simp),hsub,gv _,hs.nodup,OF _,λe=>absurd rfl e⟩⟩)
  ·clear hs on g1 g2 g9;rintro i F2 τ2 hi ⟨g1,g2,g9,g50,g51,g52,A',more,wm,g13,hs,on,om,hne,ri⟩ next2;obtain⟨y,hy⟩:∃y,now[i]?=some y:=⟨_,AT hi⟩;have hlt:=dR hi;have hadd:=bW i (by omega);rw[aF];simp only[KP,↓reduceIte,ε,g51,g52,hlt];refine one hs on om hne hy ri (P':=λx=>∃y∈now.take (i+1),x∈nx y) (λx=>?_) _ ?_ ?_ ?_ ?_ ?_ _ _ (λF3 τ3 wm' A3 more' hF g13' hs' on' om' hne' ri'=>?_)
   ·constructor
    ·rintro⟨z,hz,hx⟩;rcases (iA hy z).1 hz with h1 | rfl
     ·exact .inl ⟨z,h1,hx⟩
     ·exact .inr hx
    ·rintro (⟨z,hz,hx⟩ | hx)
     ·exact⟨z,(iA hy z).2 (.inl hz),hx⟩
     ·exact⟨y,(iA hy y).2 (.inr rfl),hx⟩
   ·simp+decide only[GS,g2]
   ·simp+decide only[GS,g9]
   ·simp+decide only[GS,g13]
   ·simp+decide only[GS,g50]
   ·simp+decide only[GS,g52]
   have q1:F3.get 1=.int .i64 (bC-(k:Int)):=(hF 1 (by simp)).trans (by simp+decide only[GS,g1]);have q2:F3.get 2=.fn k0 [g] []:=(hF 2 (by simp)).trans (by simp+decide only[GS,g2]);have q9:F3.get 9=.ref b 0:=(hF 9 (by simp)).trans (by simp+decide only[GS,g9]);have Vj:F3.get 50=wn:=(hF 50 (by simp)).trans (by simp+decide only[GS,g50]);have q51:F3.get 51=.int .i64 (now.length:Int):=(hF 51 (by simp)).trans (by simp+decide only[GS,g51]);have ZO:F3.get 52=.int .i64 (i:Int):=(hF 52 (by simp)).trans (by simp+decide only[GS,g52]);simp only[KP,↓reduceIte,ε,ZO,hadd];exact next2 _ _ (sF (by simp+decide only[GS,q1,q2,q9,Vj,q51,aj]) ⟨A3,more',wm',(by simp+decide only[GS,g13']),hs',on',om',hne',ri'⟩)
  ·clear hs on g1 g2 g9;rintro F2 τ2 ⟨g1,g2,g9,g50,g51,g52,A',more,wm,g13,hs,on,om,hne,ri⟩;have hlt:=dW (bt now.length);rw[ah (OF _)]at ri;have hA'l:=ri.le hlen
   have hw:wr .i64 (bC-(k:Int)-1)=bC-((k+1:Nat):Int):=by
    rw[Lm _ (by omega) (by omega)];omega
   rw[aF];simp only[KP,↓reduceIte,δ,ε,g1,g13,g51,g52,hlt,hw];have hup:=ri.up;refine next (2*(2001-A'.length)+(if more=[] then 0 else 1)) _ _ ?_ ⟨k+1,A',more,wm,(fZ (by simp+decide only[GS,g2,g9,aj]) ⟨hs,om,rd.next ri.mem ri.new,ri.sub,ri.len,?_,?_,?_⟩)⟩
   ·rcases hn with⟨h1,-⟩ | ⟨-,rfl⟩
    ·exact absurd h1 h0
    ·by_cases hm:more=[]
     ·rw[az hm];omega
     ·rw[an hm];have:=hup.2 hm;omega
   ·have:=hkl.2 h0;exact⟨by omega,λhm=>by have:=hup.2 hm;omega⟩
   ·intro hf;have:=hkf hf;omega
   ·by_cases hm:more=[]
    ·exact .inl ⟨hm,by rw[az hm];rfl⟩
    ·exact .inr ⟨hm,by rw[an hm]⟩
 ·rw[show bC-((0:Nat):Int)=bC from by omega];simp+decide only[g1]
 ·by_cases h0:now=[]
  ·exact .inl ⟨h0,by rw[az h0];rfl⟩
  ·exact .inr ⟨h0,by rw[an h0]⟩
end
end
end Go.Proofs.YtmbikbgdbbcbmaaGreatDoor
end
