/- Part 18 of the proof. -/
import Derived.Test.YtmbikbgdbbcbmaaGreatDoorY
import Derived.Test.YtmbikbgdbbcbmaaGreatDoorZ17
import Derived.Test.YtmbikbgdbbcbmaaGreatDoorZ16
import Derived.Test.YtmbikbgdbbcbmaaGreatDoorZ15
set_option maxHeartbeats 8000000
set_option linter.unusedVariables false
set_option maxRecDepth 10000
open Nat (reduceLT reduceAdd reduceEqDiff reduceLeDiff reduceMul)
open List (nodup_nil find?_some map_nil)
section
namespace Go.Proofs.YtmbikbgdbbcbmaaGreatDoor
open Go Go.Ax Go.AxS
section
section
variable {E:Env}{Z:Sg}{K:V->Sg->Prop}
theorem I9 {β γ:Type}{P:β->γ->Prop}:∀{a:List β}{b:List γ},eJ P a b->∀{j:Nat}{y:γ},b[j]?=some y->∃x,a[j]?=some x/\P x y
 |_,_,.nil,_,_,h=>by cases h
 |_::_,_::_,.cons h t,0,_,e=>by cases e;exact⟨_,rfl,h⟩
 |_::_,_::_,.cons h t,j+1,_,e=>by
  obtain⟨x,h1,h2⟩:=I9 t (j:=j) e;exact⟨x,h1,h2⟩
structure Ry (Y:Sg) (b i:Nat) (R:List (List V)) (ex:Bool) (steps:List AxS.Step):Prop where
 hb:Y[b]?=some (.cells 82 R.flatten ex)
 len:R.length=steps.length
 Kn:∀x∈R,x.length=5
 row:∀(j:Nat) (s:AxS.Step),steps[j]?=some s->∃p q,R[j]?=some ([.str s.out,.int .i64 s.op,p,q,.int .i64 s.n])/\(j<i->bB aO 9 Y p s.args/\bB aO 9 Y q s.lits/\aQ p≠some b/\aQ q≠some b)/\(i<=j->IS aO p s.args/\IS aO q s.lits)
theorem Ry.start {Y:Sg}{b:Nat}{rs:List (List V)}{ex:Bool}{steps:List AxS.Step}(hb:Y[b]?=some (.cells 82 rs.flatten ex))(ha:eJ eZ.P rs steps):Ry Y b 0 rs ex steps:=by
 refine⟨hb,ha.len,Lay.lens ha,λj s hj=>?_⟩;obtain⟨r,h1,a,l,rfl,h2,h3⟩:=I9 ha hj;exact⟨a,l,h1,λh=>by omega,λ_=>⟨h2,h3⟩⟩
theorem Ry.step {Y τ':Sg}{b i:Nat}{R:List (List V)}{ex:Bool}{steps:List AxS.Step}{s:AxS.Step}{wp wq:V}(h:Ry Y b i R ex steps)(hs:steps[i]?=some s)(hb:τ'[b]?=some (.cells 82 (R.set i ([.str s.out,.int .i64 s.op,wp,wq,.int .i64 s.n])).flatten ex)) (o1:bB aO 9 τ' wp s.args) (o2:bB aO 9 τ' wq s.lits) (k:∀(c:Nat) (o:O),Y[c]?=some o->c≠b->τ'[c]?=some o) (f1:∀c,aQ wp=some c->Y.length<=c) (f2:∀c,aQ wq=some c->Y.length<=c):Ry τ' b (i+1) (R.set i ([.str s.out,.int .i64 s.op,wp,wq,.int .i64 s.n])) ex steps:=by
 have hbl:=(AI.1 h.hb).1;have hil:i<R.length:=by rw[h.len];exact (AI.1 hs).1
 refine⟨hb,by rw[ec];exact h.len,λx hx=>?_,λj t hj=>?_⟩
 ·rcases List.mem_or_eq_of_mem_set hx with hx | rfl
  ·exact h.Kn x hx
  ·rfl
 ·by_cases hij:i=j
  ·subst hij;rw[hs]at hj;cases hj;refine⟨wp,wq,bt hil,λ_=>⟨o1,o2,λe=>?_,λe=>?_⟩,λh=>by omega⟩
   ·have:=f1 b e;omega
   ·have:=f2 b e;omega
  ·obtain⟨p,q,h1,h2,h3⟩:=h.row j t hj;refine⟨p,q,by rw[No hij];exact h1,λhlt=>?_,λhle=>h3 (by omega)⟩;obtain⟨a1,a2,a3,a4⟩:=h2 (by omega);exact⟨a1.keep λc o hc ho=>k c o ho (λe=>a3 (by rw[hc,e])),a2.keep λc o hc ho=>k c o ho (λe=>a4 (by rw[hc,e])),a3,a4⟩
theorem VU {Y:Sg}{w:V}{l:List bC} (ow:bB aO 9 Y w l):OL Y w l:=by
 rcases ow with h | ⟨b,rs,ex,rfl,hb,ha⟩
 ·exact .inl h
 ·obtain rfl:=B8 ha;rw[DC]at hb;exact .inr ⟨b,_,ex,rfl,hb,ak (by rw[bj];exact OF _)⟩
theorem RR {v:V}{l:List bC}(h:UN v l):kI aO v l:=by
 rcases h with h | ⟨full,rfl⟩
 ·exact .inl h
 ·exact .inr ⟨_,full,rfl,Az l⟩
theorem CF (h:bE E) {Y:Sg}{w:V}{l:List bC}{m:Nat} (ow:bB aO 9 Y w l):∃v',bG Y E.ty false (m+2) w=some v'/\cL false v'=true/\kI aO v' l:=by
 obtain⟨v',h1,h2⟩:=(VU ow).snap (m:=m) h;exact⟨v',h1,h2.tag,RR h2⟩
theorem Ig {α β:Type}{f:α->Option β}:∀{a:List α}{a':List β}{b:List α}{b':List β},aX f a=some a'->aX f b=some b'->aX f (a++b)=some (a'++b')
 | [],a',b,b',h1,h2=>by cases h1;exact h2
 |x::a,a',b,b',h1,h2=>by
  rw[aX]at h1;cases hx:f x with
  |none=>rw[hx]at h1;cases h1
  |some y=>
   cases hm:aX f a with
   |none=>rw[hx,hm]at h1;cases h1
   |some l=>
    rw[hx,hm]at h1;cases h1;rw[eu,aX,hx,Ig hm h2];rfl
theorem Hz (h:bE E) {Y:Sg}{b n:Nat}{R:List (List V)}{ex:Bool}{steps:List AxS.Step}(hs:Ry Y b n R ex steps)(hn:n=steps.length):∃v',bG Y E.ty false 12 (.sl b 0 n none)=some v'/\cL false v'=true/\kI gD v' steps:=by
 have key:∀(R:List (List V)) (steps:List AxS.Step),R.length=steps.length->(∀(j:Nat) (s:AxS.Step),steps[j]?=some s->∃p q,R[j]?=some ([.str s.out,.int .i64 s.op,p,q,.int .i64 s.n])/\bB aO 9 Y p s.args/\bB aO 9 Y q s.lits)->∃R',aX (λv=>match bG Y E.ty false 11 v with
   |some v=>if cL false v then some v else Ax.no "snap: borrowed"
   |none=>none) R.flatten=some R'.flatten/\eJ gD.P R' steps:=by
  intro R
  induction R with
  |nil=>
   intro steps hl _;have:steps=[]:=List.eq_nil_of_length_eq_zero hl.symm;subst this;exact⟨[],rfl,.nil⟩
  |cons r R ih=>
   intro steps hl hr;cases steps with
   |nil=>cases hl
   |cons s steps=>
    obtain⟨R',m1,a1⟩:=ih steps (by simpa using hl) λj t hj=>hr (j+1) t hj;obtain⟨p,q,h1,h2,h3⟩:=hr 0 s rfl;cases h1;obtain⟨p',e1,t1,i1⟩:=CF (m:=9) h h2;obtain⟨q',e2,t2,i2⟩:=CF (m:=9) h h3;refine⟨([.str s.out,.int .i64 s.op,p',q',.int .i64 s.n])::R',?_,.cons ⟨p',q',rfl,i1,i2⟩ a1⟩;rw[dw,dw];refine Ig ?_ m1;have es:∀z:bC,bG Y E.ty false 11 (.str z)=some (.str z):=λz=>jK rfl;have ei:∀z:Int,bG Y E.ty false 11 (.int .i64 z)=some (.int .i64 z):=λz=>jK rfl;have ts:∀z:bC,cL false (.str z)=true:=λ_=>rfl;have ti:∀z:Int,cL false (.int .i64 z)=true:=λ_=>rfl;simp only[aX,es,ei,ts,ti,e1,e2,t1,t2,bf]
 obtain⟨R',m1,a1⟩:=key R steps hs.len λj s hj=>by
  obtain⟨p,q,h1,h2,-⟩:=hs.row j s hj;obtain⟨a1,a2,-⟩:=h2 (by have:=(AI.1 hj).1;omega);exact⟨p,q,h1,a1,a2⟩
 have hfl:R.flatten.length=n*5:=by rw[oB R hs.Kn,hs.len,hn]
 have htk:(R.flatten.drop 0).take (n*5)=R.flatten:=by rw[fc,ak (by omega)]
 refine⟨.bS false R' (ex&&decide (0<5)&&(0+n*5==R.flatten.length)),?_,rfl,.inr ⟨R',_,rfl,a1⟩⟩;rw[bG];simp only[hs.hb,h.dB];rw[az (by omega)]
 have m2:aX (λv=>match bG Y E.ty false 11 v with
   |some v=>if cL false v then some v else Ax.no "snap: borrowed"
   |none=>none) ((R.flatten.drop 0).take (n*5))=some R'.flatten:=by rw[htk];exact m1
 refine Eq.trans (au (λo=>match o with
  |some l=>some (V.bS false (Ax.rows 5 n l) (ex&&decide (0<5)&&(0+n*5==R.flatten.length)))
  |none=>none) m2) ?_
 show some (V.bS false (Ax.rows 5 n R'.flatten) _)=_;have hl':n=R'.length:=by rw[a1.len,hn]
 rw[hl',show Ax.rows 5 R'.length R'.flatten=R' from mE (sz:=5) R' (Lay.lens (L:=gD) a1)]
end
end
section
section
variable {E:Env}{Z:Sg}{K:V->Sg->Prop}
def Ur (v:V) (x:aD):Prop:=∃a b c d,v=.agg [.str x.name,a,b,c,d]/\kI aO a x.ins/\kI aO b x.outs/\kI aO c x.after/\kI gD d x.steps
theorem rH (h:bE E) {Y:Sg}{w:V}{l:List bC} (ow:bB aO 9 Y w l):∃v',aU.one Y E.ty false w=some v'/\kI aO v' l:=by
 obtain⟨v',h1,h2,h3⟩:=CF (m:=10) h ow;refine⟨v',?_,h3⟩;unfold aU.one;rw[show dL=10+2 from rfl,h1];simp only[h2,bf]
theorem Ry.Z_ {Y:Sg}{b i u:Nat}{R:List (List V)}{ex:Bool}{steps:List AxS.Step}{cs:List V}{y:O}(h:Ry Y b i R ex steps)(hz:Y[1]?=some (.cells u cs true))(hu:u≠9)(hb:2<=b):Ry (Y.set 1 y) b i R ex steps:=by
 refine⟨by rw[No (by omega)];exact h.hb,h.len,h.Kn,λj s hj=>?_⟩;obtain⟨p,q,h1,h2,h3⟩:=h.row j s hj;refine⟨p,q,h1,λhlt=>?_,h3⟩;obtain⟨a1,a2,a3,a4⟩:=h2 hlt;exact⟨bB.set a1 (lM hz hu a1),bB.set a2 (lM hz hu a2),a3,a4⟩
theorem QY (h:bE E)(h':oF E) {v:V}{x:aD}(hv:Jd v x)(hs:Small x):aB E 69 [v] Z λv σ'=>σ'=Z/\Ur v x:=by
 have ev:=hv.snap (E:=E) Z;obtain⟨a,b,c,d,rfl,ia,ib,ic,id⟩:=hv;have o1:=aP ia.bD;have o2:=aP ib.bD;have o3:=aP ic.bD;have o4:=aP id.bD;have l4:=hs.steps;rw[aI h'.hs69 h'.sp69 h'.fn69 h'.md69 (args':=[.agg [.str x.name,a,b,c,d]]) (by simp only[aX,ev]),aW (by kernel_rfl)];simp only[aA,Tryz.f69,KP,↓reduceIte,reduceLT,reduceAdd,h.bM,o1,o2,o3,o4];refine acq h h' ia ib ic id hs _ ?_ ?_
 ·exact (by simp +decide only[GS])
 intro F1 τ1 w1 w2 w3 w4 g1 g2 b0 z0 ow1 ow2 ow3 ow4 sep;have g2:F1.get 2=.ref 1 0:=g2.trans (by simp +decide only[GS]);obtain⟨k1,t1⟩:=oP ow1;obtain⟨k2,t2⟩:=oP ow2;obtain⟨k3,t3⟩:=oP ow3;rcases ow4 with⟨rfl,hst⟩ | ⟨b4,rs,ex,rfl,hb,ha⟩
 ·have ln:∀Z,lenOf E Z 44 .aF=some 0:=λZ=>by unfold lenOf;rw[h.fS]
  simp only[KP,Ax.loadAt,↓reduceIte,reduceLT,reduceCtorEq,h.fS,h.bM,g1,b0,ln];rw[aG];have hz1:=(AI.1 z0).1;have s1:∀y,(τ1.set 1 y)[1]?=some y:=λy=>bt hz1;obtain⟨a',e1,j1⟩:=rH h (bB.set (y:=O.cells 46 [.str x.name,w1,w2,w3,.aF] true) ow1 (lM z0 (by decide) ow1));obtain⟨b',e2,j2⟩:=rH h (bB.set (y:=O.cells 46 [.str x.name,w1,w2,w3,.aF] true) ow2 (lM z0 (by decide) ow2));obtain⟨c',e3,j3⟩:=rH h (bB.set (y:=O.cells 46 [.str x.name,w1,w2,w3,.aF] true) ow3 (lM z0 (by decide) ow3));have e0:∀Y (z:bC),aU.one Y E.ty false (.str z)=some (.str z):=λY z=>rfl;have e5:∀Y,aU.one Y E.ty false .aF=some .aF:=λY=>rfl;simp only[KP,Ax.loadAt,Ax.storeAt,↓reduceIte,reduceEqDiff,reduceLT,reduceAdd,Int.reduceLT,h.bM,g1,g2,b0,z0,k1,k2,k3,s1,e0,e1,e2,e3,e5,cG,aU,aX];exact⟨a',b',c',.aF,rfl,j1,j2,j3,.inl ⟨rfl,hst⟩⟩
 ·generalize hn:x.steps.length=n at *;obtain⟨hb2,d1,d2,d3⟩:=sep b4 rfl;have ln:∀Z,lenOf E Z 44 (.sl b4 0 n none)=some n:=λZ=>by unfold lenOf;rw[h.fS]
  simp only[KP,Ax.loadAt,↓reduceIte,reduceLT,reduceCtorEq,h.fS,h.bM,g1,b0,ln];refine aV (λi F Y=>F.get 1=.ref 0 0/\F.get 2=.ref 1 0/\F.get 22=.int .i64 (n:Int)/\F.get 23=.int .i64 (i:Int)/\Y[0]?=some (O.cells 46 [.str x.name,w1,w2,w3,.sl b4 0 n none] true)/\Y[1]?=some (O.cells 46 [.str [],.aF,.aF,.aF,.aF] true)/\bB aO 9 Y w1 x.ins/\bB aO 9 Y w2 x.outs/\bB aO 9 Y w3 x.after/\∃R,Ry Y b4 i R ex x.steps) n ?_ ?_ n 0 _ _ (by omega) (fK (by simp +decide only[GS,g1,g2,aj]) ⟨b0,z0,ow1,ow2,ow3,rs,Ry.start hb ha⟩)
  ·rintro i F Y hi ⟨g1,g2,g22,g23,b0,z0,ow1,ow2,ow3,R,sa⟩ next
   obtain⟨s,hsi⟩:∃y,x.steps[i]?=some y:=⟨_,AT (by omega)⟩;obtain⟨p,q,hr,-,hpq⟩:=sa.row i s hsi;obtain⟨ip,iq⟩:=hpq (OF _);have hsm:=ag hsi;have hlt:=dP hi;have hadd:=bW i (by omega);rw[aG];simp only[KP,↓reduceIte,reduceEqDiff,reduceLT,g22,g23,hlt];refine acp h h' b0 sa.hb sa.Kn hr hi ip iq (hs.args s hsm) (hs.lits s hsm) hb2 _ ?_ ?_ ?_
   ·exact (by simp +decide only[GS,g1])
   ·exact (by simp +decide only[GS])
   intro F' τ' wp wq hF hb' op oq hk f1 f2;have q1:F'.get 1=.ref 0 0:=(hF 1 (by simp)).trans (by simp +decide only[GS,g1]);have q2:F'.get 2=.ref 1 0:=(hF 2 (by simp)).trans (by simp +decide only[GS,g2]);have q22:F'.get 22=.int .i64 (n:Int):=(hF 22 (by simp)).trans (by simp +decide only[GS,g22]);have q23:F'.get 23=.int .i64 (i:Int):=(hF 23 (by simp)).trans (by simp +decide only[GS,g23]);simp only[KP,↓reduceIte,reduceLT,q23,hadd];exact next _ _ (fK (by simp +decide only[GS,q1,q2,q22,aj]) ⟨hk 0 _ b0 (by omega),hk 1 _ z0 (by omega),ow1.keep λc o hc ho=>hk c o ho (λe=>d1 (by rw[hc,e])),ow2.keep λc o hc ho=>hk c o ho (λe=>d2 (by rw[hc,e])),ow3.keep λc o hc ho=>hk c o ho (λe=>d3 (by rw[hc,e])),_,sa.step hsi hb' op oq hk f1 f2⟩)
  ·rintro F Y ⟨g1,g2,g22,g23,b0,z0,ow1,ow2,ow3,R,sa⟩;have hlt:=dZ (bl n);have hz1:=(AI.1 z0).1;have s1:∀y,(Y.set 1 y)[1]?=some y:=λy=>bt hz1;obtain⟨a',e1,j1⟩:=rH h (bB.set (y:=O.cells 46 [.str x.name,w1,w2,w3,.sl b4 0 n none] true) ow1 (lM z0 (by decide) ow1));obtain⟨b',e2,j2⟩:=rH h (bB.set (y:=O.cells 46 [.str x.name,w1,w2,w3,.sl b4 0 n none] true) ow2 (lM z0 (by decide) ow2));obtain⟨c',e3,j3⟩:=rH h (bB.set (y:=O.cells 46 [.str x.name,w1,w2,w3,.sl b4 0 n none] true) ow3 (lM z0 (by decide) ow3));obtain⟨d',e4,t4,j4⟩:=Hz h (sa.Z_ (y:=O.cells 46 [.str x.name,w1,w2,w3,.sl b4 0 n none] true) z0 (by decide) hb2) hn.symm
   have e4:aU.one (Y.set 1 (O.cells 46 [.str x.name,w1,w2,w3,.sl b4 0 n none] true)) E.ty false (.sl b4 0 n none)=some d':=by
    unfold aU.one;rw[show dL=12 from rfl,e4];simp only[t4,bf]
   have e0:∀Y (z:bC),aU.one Y E.ty false (.str z)=some (.str z):=λY z=>rfl;rw[aG];simp only[KP,Ax.loadAt,Ax.storeAt,↓reduceIte,reduceEqDiff,reduceLT,reduceAdd,h.bM,g1,g2,g22,g23,hlt,b0,z0,k1,k2,k3,s1,e0,e1,e2,e3,e4,cG,aU,aX];exact⟨a',b',c',d',rfl,j1,j2,j3,j4⟩
end
end
end Go.Proofs.YtmbikbgdbbcbmaaGreatDoor
end
section
namespace Go.Proofs.YtmbikbgdbbcbmaaGreatDoor.Lb
open Go Go.Ax Go.AxS
def LVf (v:V) (l:List aC):Prop:=(v=.aF/\l=[])\/∃full,v=.bS false (l.map row) full
theorem LVf.lv {v:V}{l:List aC}(h:LVf v l):LV v l:=h.imp id λ⟨full,e⟩=>⟨false,full,e⟩
section
section
variable {E:Env}{Z:Sg}{K:V->Sg->Prop}
theorem RC (n:Nat)(h:n<=10000000000000):wr .i64 ((n:Int)+1)=((n+1:Nat):Int):=by
 rw[Al,az]
 ·rfl
 ·rw[ai,aa,aa];exact⟨show (-9223372036854775808:Int)<=(n:Int)+1 by omega,show (n:Int)+1<=(9223372036854775807:Int) by omega⟩
theorem wK (h:bY E) (c:Bool) (a b:Bool) (s t:List Nat):mP E 51 c (.agg [.bool a,.str s]) (.agg [.bool b,.str t])=some (decide (((a,s):aC)=(b,t))):=by
 unfold mP;simp only[h.cE,h.TB,Ax.eqs];rw[yT];cases a <;> cases b <;> simp
theorem TZ (h:bY E) (a b:Bool) (s t:List Nat):aB E 109 [.agg [.bool a,.str s],.agg [.bool b,.str t]] Z K=K (.bool (lt (a,s) (b,t))) Z:=by
 refine aB.of ?_;rw[aI h.aaU h.Yt h.abL h.ZY (args':=[.agg [.bool a,.str s],.agg [.bool b,.str t]]) (rfl),aW (by kernel_rfl)];cases a <;> cases b
 all_goals simp only[aA,Tryz.f109,KP,Ax.loadAt,↓reduceIte,reduceEqDiff,reduceLT,reduceAdd,reduceCtorEq,h.Ee,h.dG,h.cE,mP]
 all_goals exact rfl
end
end
section
def kO (ks:List aC):List (V × V):=ks.map λk=>(V.agg [.bool k.1,.str k.2],V.bool true)
structure cW (Z:Sg) (b m:Nat) (ks:List aC):Prop where
 obj:Z[b]?=some (.cells 92 [.mp m] true)
 map:Z[m]?=some (.map (kO ks))
 nodup:ks.Nodup
def Kp (Z σ':Sg) (m:Nat):Prop:=∀(j:Nat) (o:O),j≠m->Z[j]?=some o->σ'[j]?=some o
def qJ (Z σ':Sg):Prop:=∀(j:Nat) (o:O),Z[j]?=some o->σ'[j]?=some o
theorem qJ.refl (Z:Sg):qJ Z Z:=λ_ _ h=>h
theorem qJ.trans {Z Y ρ:Sg}(h:qJ Z Y) (k:qJ Y ρ):qJ Z ρ:=λj o e=>k j o (h j o e)
theorem qJ.app (Z Y:Sg):qJ Z (Z++Y):=λ_ _ h=>jD h Y
theorem qJ.vG {Z σ':Sg}(h:qJ Z σ'):dY Z σ':=λb t cs ex e=>h _ _ e
theorem Kp.refl (Z:Sg) (m:Nat):Kp Z Z m:=λ_ _ _ h=>h
theorem Kp.trans {Z Y ρ:Sg}{m:Nat}(h:Kp Z Y m) (k:Kp Y ρ m):Kp Z ρ m:=λj o hj e=>k j o hj (h j o hj e)
theorem Kp.vG {Z σ':Sg}{m:Nat}{es:List (V × V)}(h:Kp Z σ' m)(hm:Z[m]?=some (.map es)):dY Z σ':=λb t cs ex e=>h _ _ (λhb=>by subst hb;rw[hm]at e;cases e) e
theorem qJ.kp {Z σ':Sg}(h:qJ Z σ') (m:Nat):Kp Z σ' m:=λj o _ e=>h j o e
theorem cW.ne {Z:Sg}{b m:Nat}{ks:List aC}(h:cW Z b m ks):b≠m:=λe=>by
 subst e;have:=h.obj;rw[h.map]at this;cases this
theorem cW.oQ {Z σ':Sg}{b m:Nat}{ks:List aC}(h:cW Z b m ks) (k:qJ Z σ'):cW σ' b m ks:=⟨k _ _ h.obj,k _ _ h.map,h.nodup⟩
theorem cW.kp {Z σ':Sg}{b m m':Nat}{ks ks':List aC}{b':Nat}(h:cW Z b m ks)(h':cW Z b' m' ks')(hm:m≠m') (k:Kp Z σ' m'):cW σ' b m ks:=
 ⟨k _ _ (λe=>by subst e;have:=h.obj;rw[h'.map]at this;cases this) h.obj,k _ _ hm h.map,h.nodup⟩
section
variable {E:Env}{Z:Sg}{K:V->Sg->Prop}
theorem nG (h:bY E) (a b:Bool) (s t:List Nat):dF E 51 (.agg [.bool a,.str s]) (.agg [.bool b,.str t])=some (decide (((a,s):aC)=(b,t))):=by
 unfold dF;simp only[h.cE,h.TB,Ax.eqs];rw[yT];cases a <;> cases b <;> simp
theorem lU (h:bY E) (a:Bool) (s:List Nat):eF E 51 (.agg [.bool a,.str s])=true:=by
 unfold eF;simp only[h.cE,h.TB,Ax.eqs];rfl
theorem Kh (y:aC) (r:List aC) (x:aC)(hxy:x≠y):kE (y::r) x=y::kE r x:=by
 unfold kE;by_cases hx:x∈r
 ·rw[az hx,az (ae _ hx)]
 ·rw[an hx,an (by simp[hxy,hx])];rfl
theorem E6 (h:bY E) (x:aC):∀ks:List aC,kN (dF E 51) (.agg [.bool x.1,.str x.2]) (.bool true) (kO ks)=some (kO (kE ks x))
 | []=>rfl
 |y::r=>by
  show (match dF E 51 (.agg [.bool x.1,.str x.2]) (.agg [.bool y.1,.str y.2]) with
   |some true=>some ((V.agg [.bool x.1,.str x.2],V.bool true)::kO r)
   |some false=>(match kN (dF E 51) (.agg [.bool x.1,.str x.2]) (.bool true) (kO r) with
    |some r'=>some ((V.agg [.bool y.1,.str y.2],V.bool true)::r')
    |none=>none)
   |none=>none)=_
  rw[nG h,E6 h x r];by_cases hxy:x=y
  ·rw[BY (show ((x.1,x.2):aC)=(y.1,y.2) from hxy)];subst hxy;unfold kE;rw[az (IN ..)];rfl
  ·rw[AS (show ¬ ((x.1,x.2):aC)=(y.1,y.2) from hxy),Kh y r x hxy];rfl
theorem MI (h:bY E) (a:Bool) (s:List Nat):storeAt E (Z++[.cells 51 [.bool false,.str []] true]) 51 (.ref Z.length 0) (.agg [.bool a,.str s])=some (Z++[.cells 51 [.bool a,.str s] true]):=by
 unfold storeAt;simp only[h.cE];rw[br (OF _),jl];refine (az rfl).trans ?_;rw[o6 _ _ (OF _),jl];rfl
theorem PX (h:bY E) (a:Bool) (s:List Nat):loadAt E (Z++[.cells 51 [.bool a,.str s] true]) 51 (.ref Z.length 0)=some (.agg [.bool a,.str s]):=by
 unfold loadAt;simp only[h.cE];rw[br (OF _),jl];rfl
theorem rP (h:bY E) {b m:Nat}(hb:Z[b]?=some (.cells 92 [.mp m] true)):loadAt E Z 88 (.ref b 0)=some (.mp m):=by
 unfold loadAt;simp only[h.sJ,hb];rfl
theorem Gj (h:bY E) {m:Nat}{ks:List aC}(hm:Z[m]?=some (.map (kO ks))) (x:aC):mapUpdate E Z 88 (.mp m) (.agg [.bool x.1,.str x.2]) (.bool true)=some (Z.set m (.map (kO (kE ks x)))):=by
 unfold mapUpdate;simp only[h.sJ,lU h,hm,E6 h];rfl
theorem B_ (h:bY E) {m:Nat}{ks:List aC}(hm:Z[m]?=some (.map (kO ks))):lenOf E Z 88 (.mp m)=some ks.length:=by
 unfold lenOf;simp only[h.sJ,hm];simp[kO]
theorem Jj (h:bY E) {b m:Nat}{ks l:List aC}{v:V}{n0:Int}(hsm:l.length<=10000000000) {σ0:Sg}{s:List kH}{Q:Ax.X->Fr->Sg->Prop}
  (hQ:∀(F':FT) (σ':Sg),cW σ' b m (keys ks l)->Kp σ0 σ' m->F'.get 0=.ref b 0->F'.get 5=.int .i64 n0->M E s .normal ⟨48,F'⟩ σ' Q) :
  ∀(k i:Nat) (F:FT) (σ':Sg),i+k=l.length->cW σ' b m (keys ks (l.take i))->SV σ' v l->Kp σ0 σ' m->F.get 0=.ref b 0->F.get 5=.int .i64 n0->F.get 27=v->F.get 28=.int .i64 (l.length:Int)->F.get 29=.int .i64 (i:Int) ->
   R E (.loop (cutAt [1,1,1,1,0,1,2,2] (aA Tryz.f70).code)) (.blk 0::s) ⟨48,F⟩ σ' Q:=by
 have d9:=h.ab8;simp only[aA,Tryz.f70,cutAt,aq]at d9;intro k
 induction k with
 |zero=>
  intro i F σ' hi hs hv hk g0 g5 g27 g28 g29;have hlt:decide ((i:Int)<(l.length:Int))=false:=AS (by omega);rw[aG];simp only[aA,Tryz.f70,KP,↓reduceIte,reduceLT,cutAt,g28,g29,hlt];rw[ak (by omega)]at hs;refine hQ _ _ hs hk ?_ ?_ <;> simp only[FT.cI,g0,g5,↓reduceIte,reduceEqDiff,reduceCtorEq]
 |succ k ih=>
  intro i F σ' hi hs hv hk g0 g5 g27 g28 g29;have hlt:decide ((i:Int)<(l.length:Int))=true:=BY (by omega);obtain⟨x,hx⟩:∃x,l[i]?=some x:=⟨_,AT (by omega)⟩;obtain⟨pa,e1,e2⟩:=TD h hv hx;have e2:=e2 _ (dY.refl _);have hadd:=RC i (by omega);have lm:=rP h (jD hs.obj [.cells 51 [.bool x.1,.str x.2] true]);have pm:=Gj h (jD hs.map [.cells 51 [.bool x.1,.str x.2] true]) x;rw[aG];simp only[aA,Tryz.f70,KP,↓reduceIte,reduceEqDiff,reduceLT,reduceCtorEq,h.cE,h.sJ,h.uG,h.Am,cutAt,g0,g27,g28,g29,hlt,e1,e2,MI h,PX h,lm,pm,aT d9,bK,hadd];have hml:=(AI.1 hs.map).1;refine ih (i+1) _ _ (by omega) ⟨?_,?_,?_⟩ ?_ ?_ ?_ ?_ ?_ ?_ ?_
  ·rw[No hs.ne.symm];exact jD hs.obj _
  ·rw[bt (by rw[By];omega)];rw[ek,hx];show some (O.map (kO (kE (keys ks (l.take i)) x)))=some (O.map (kO (List.foldl kE ks (l.take i++[x]))));rw[List.foldl_append];rfl
  ·rw[ek,hx];show (List.foldl kE ks (l.take i++[x])).Nodup;rw[List.foldl_append];exact Ip hs.nodup
  ·refine hv.keep λj t cs ex e=>?_;rw[No (λhj=>by subst hj;rw[hs.map]at e;cases e)];exact jD e _
  ·refine hk.trans λj o hj e=>?_;rw[No (λh=>hj h.symm)];exact jD e _
  all_goals simp only[FT.cI,g0,g5,g27,g28,↓reduceIte,reduceEqDiff,reduceCtorEq]
theorem UX (a b:Nat)(ha:a<=1000000000000)(hb:b<=1000000000000):wr .i64 ((a:Int)-(b:Int))=(a:Int)-(b:Int):=by
 rw[Al,az];rw[ai,aa,aa];exact⟨show (-9223372036854775808:Int)<=_ by omega,show _<=(9223372036854775807:Int) by omega⟩
theorem Rb (h:bY E) {b m:Nat}{ks l:List aC}{v:V}(hs:cW Z b m ks)(hv:SV Z v l)(hsm:l.length<=10000000000)(hks:ks.length<=10000000000) :
  aB E 70 [.ref b 0,v] Z λr σ'=>r=.int .i64 (((keys ks l).length:Int)-(ks.length:Int))/\cW σ' b m (keys ks l)/\Kp Z σ' m:=by
 rw[cN h.aad h.XL h.aa5 h.Zk,aW (by kernel_rfl)];have lm:=rP h hs.obj;have lk:=B_ h hs.map;have lv:lenOf E Z 23 v=some l.length:=V5 h hv;simp only[aA,Tryz.f70,KP,↓reduceIte,reduceEqDiff,reduceLT,reduceAdd,reduceCtorEq,h.uH,h.sJ,h.uG,h.Am,lm,lk,lv,mP];refine Jj h hsm (σ0:=Z) (n0:=(ks.length:Int)) (λF' σ' hs' hk' g0 g5=>?_) l.length 0 _ Z (by omega) hs hv (Kp.refl _ _) ?_ ?_ ?_ ?_ ?_
 ·have lm2:=rP h hs'.obj;have lk2:=B_ h hs'.map;have hl:=n_ (xs:=l) (l:=ks);have hsub:=UX (keys ks l).length ks.length (by omega) (by omega);simp only[KP,↓reduceIte,reduceEqDiff,reduceLT,reduceCtorEq,h.sJ,h.uG,h.Am,lm2,lk2,g0,g5,hsub];exact⟨hs',hk'⟩
 all_goals simp only[FT.cI,KP,↓reduceIte,reduceEqDiff,reduceCtorEq]
 all_goals rfl
end
end
section
section
variable {E:Env}{Z:Sg}{K:V->Sg->Prop}
theorem PW (h:bY E) {b:Nat}(hb:Z[b]?=some (.cells 92 [.bX] true)):loadAt E Z 88 (.ref b 0)=some .bX:=by
 unfold loadAt;simp only[h.sJ,hb];rfl
theorem MJ (h:bY E) {b m:Nat}{u:V}(hb:Z[b]?=some (.cells 92 [u] true)):storeAt E Z 88 (.ref b 0) (.mp m)=some (Z.set b (.cells 92 [.mp m] true)):=by
 unfold storeAt;simp only[h.sJ,hb];rfl
theorem Ra (h:bY E) {b:Nat}{l:List aC}{v:V}(hb:Z[b]?=some (.cells 92 [.bX] true))(hv:SV Z v l)(hsm:l.length<=10000000000) :
  aB E 70 [.ref b 0,v] Z λr σ'=>∃m,cW σ' b m (keys [] l)/\Z.length<=m/\∀j o,j≠b->Z[j]?=some o->σ'[j]?=some o:=by
 rw[cN h.aad h.XL h.aa5 h.Zk,aW (by kernel_rfl)];have hbl:=(AI.1 hb).1;have ln:=PW h hb;have st:=MJ h (m:=Z.length) (jD hb [.map []])
 have hs1:cW ((Z++[O.map []]).set b (.cells 92 [.mp Z.length] true)) b Z.length []:=by
  refine⟨bt (by rw[By];omega),?_,nodup_nil⟩;rw[No (by omega),br (OF _),jl];rfl
 have hk1:∀j o,j≠b->Z[j]?=some o->((Z++[O.map []]).set b (.cells 92 [.mp Z.length] true))[j]?=some o:=λj o hj e=>by
  rw[No (λe=>hj e.symm)];exact jD e _
 have hv1:SV ((Z++[O.map []]).set b (.cells 92 [.mp Z.length] true)) v l:=by
  rcases hv with hv | hv | ⟨j,cs,ex,e1,e2,e3⟩
  ·exact .inl hv
  ·exact .inr (.inl hv)
  ·refine .inr (.inr ⟨j,cs,ex,e1,hk1 j _ (λe=>?_) e2,e3⟩);subst e;rw[hb]at e2;cases e2
 have lm:=rP h hs1.obj;have lk:=B_ h hs1.map
 have lv:∀σ',lenOf E σ' 23 v=some l.length:=λσ'=>by
  unfold lenOf;rw[h.iI];rcases hv with⟨rfl,rfl⟩ | ⟨g,full,rfl⟩ | ⟨j,cs,ex,rfl,e2,e3⟩
  ·rfl
  ·simp
  ·rfl
 simp only[aA,Tryz.f70,KP,↓reduceIte,reduceEqDiff,reduceLT,reduceAdd,reduceCtorEq,h.uH,h.sJ,h.uG,h.Am,ln,st,lm,lk,lv,mP];refine Jj h hsm (σ0:=(Z++[O.map []]).set b (.cells 92 [.mp Z.length] true)) (n0:=0) (λF' σ' hs' hk' g0 g5=>?_) l.length 0 _ _ (by omega) hs1 hv1 (Kp.refl _ _) ?_ ?_ ?_ ?_ ?_
 ·have lm2:=rP h hs'.obj;have lk2:=B_ h hs'.map;simp only[KP,↓reduceIte,reduceEqDiff,reduceLT,reduceCtorEq,h.sJ,h.uG,h.Am,lm2,lk2,g0,g5];refine⟨Z.length,hs',OF _,λj o hj e=>?_⟩;have hjl:=(AI.1 e).1;exact hk' j o (by omega) (hk1 j o hj e)
 all_goals simp only[FT.cI,KP,↓reduceIte,reduceEqDiff,reduceCtorEq]
 all_goals rfl
theorem Q5 (h:bY E) {l:List aC}{v:V}(hv:SV Z v l)(hsm:l.length<=10000000000) :
  aB E 60 [v] Z λr σ'=>∃m,r=.ref Z.length 0/\cW σ' Z.length m (keys [] l)/\Z.length<m/\qJ Z σ':=by
 rw[cN h.hs60 h.sp60 h.fn60 h.md60,aW (by kernel_rfl)];simp only[aA,Tryz.f60,KP,↓reduceIte,reduceEqDiff,reduceLT,reduceCtorEq,h.uG,h.Am,Ax.fill]
 have hb:(Z++[O.cells 92 [.bX] true])[Z.length]?=some (.cells 92 [.bX] true):=by
  rw[br (OF _),jl];rfl
 refine aN (Ra h hb (hv.keep (dY.app _ _)) hsm) ?_;rintro r σ' ⟨m,hs,hm,hk⟩;simp only[KP,↓reduceIte,reduceEqDiff,reduceLT];rw[By]at hm;refine⟨m,hs,by simp at hm;omega,λj o e=>?_⟩;have hjl:=(AI.1 e).1;exact hk j o (by omega) (jD e _)
theorem Ay (ks:List aC):(kO ks).map (λ(e:V × V)=>rowOf e.1)=ks.map row:=by
 unfold kO;rw[jv];rfl
theorem tU:∀ks:List aC,(∀k∈ks,k.2.length<=9223372036854775807)->allRows kD (ks.map row)=true
 | [],_=>rfl
 |k::ks,hk=>by
  show (match Nat.ble k.2.length 9223372036854775807 with
   |true=>allRows kD (ks.map row)
   |false=>false)=true
  rw[kg (hk k (IN ..))];exact tU ks λx hx=>hk x (ae _ hx)
theorem MN {ks:List aC}(hn:ks.Nodup)(hlen:ks.length<=1000000)(hstr:∀k∈ks,k.2.length<=9223372036854775807) {j m:Nat}(hj:Z[j]?=some (.cells 88 [.mp m] true))(hm:Z[m]?=some (.map (kO ks))) :
  kF 51 [154] [] 118 [.fn 154 [] [.ref j 0],.fn 118 [] []] Z=some (if ks=[] then (.aF,Z) else (.sl Z.length 0 ks.length none,Z++[.cells 51 ((setOf ks).flatMap row) false])):=by
 have hk:keysOf Z [154] [] (.fn 154 [] [.ref j 0])=some (ks.map row):=by
  unfold keysOf;simp only[hj]
  show (match Z[m]? with
   |some (.map es)=>some (es.map λ(e:V × V)=>rowOf e.1)
   |_=>none)=_
  rw[hm];exact au some (Ay ks)
 show nQ 51 [154] [] kD pY (.fn 154 [] [.ref j 0]) Z=_;unfold nQ;rw[hk];cases hks:ks with
 |nil=>rfl
 |cons k r=>
  have ha:=tU ks hstr;have hs:=As hn;rw[hks]at ha hs hlen;rw[bh]at ha hs ⊢;rw[an (by simp)]
  show (match allRows kD (row k::r.map row),Nat.ble (row k::r.map row).length 1000000 with
   |true,true=>some (V.sl Z.length 0 (row k::r.map row).length none,Z++[O.cells 51 (kS pY (row k::r.map row)).flatten false])
   |_,_=>none)=_
  rw[ha,kg (by simpa using hlen),hs,DD];simp
theorem W9 (h:bY E) {m:Nat}:aB E 117 [.mp m] Z K=K (.fn 154 [] [.ref Z.length 0]) (Z++[.cells 88 [.mp m] true]):=by
 refine aB.of ?_;rw[cN h.Qk h.OW h.Qw h.PD,aW (by kernel_rfl)];simp only[aA,Tryz.f117,KP,↓reduceIte,reduceEqDiff,reduceLT,h.sJ]
theorem Wo (h:bY E) {m:Nat}{ops:Array Oper}{l:List Oper}{dst:Option Nat}{st:List kH}{Q:Ax.X->Fr->Sg->Prop}{fr:Fr}:Ai E 117 [.mp m] Z dst fr ops l st Q=dM E ops l (some (cT fr dst (.fn 154 [] [.ref Z.length 0]),Z++[.cells 88 [.mp m] true])) st Q:=IX λ_=>W9 h
def Own (Z σ':Sg) (r:V) (l:List aC):Prop:=(r=.aF/\l=[])\/∃j,Z.length<=j/\r=.sl j 0 l.length none/\σ'[j]?=some (.cells 51 (l.flatMap row) false)
theorem Own.sv {Z σ':Sg}{r:V}{l:List aC}(h:Own Z σ' r l):SV σ' r l:=by
 rcases h with h | ⟨j,_,h1,h2⟩
 ·exact .inl h
 ·exact .inr (.inr ⟨j,_,_,h1,h2,ak (by rw[qS];exact OF _)⟩)
theorem acy (h:bY E) {b m:Nat}{ks:List aC}(hs:cW Z b m ks)(hlen:ks.length<=1000000)(hstr:∀k∈ks,k.2.length<=9223372036854775807) :
  aB E 65 [.ref b 0] Z λr σ'=>Own Z σ' r (setOf ks)/\qJ Z σ':=by
 rw[cN h.Ws h.Va h.Wz h.V3,aW (by kernel_rfl)];have lm:=rP h hs.obj;simp only[aA,Tryz.f65,KP,↓reduceIte,reduceLT,reduceCtorEq,h.sJ,h.uG,h.Ho,lm,mP,Wo h]
 have hj:(Z++[O.cells 88 [.mp m] true])[Z.length]?=some (.cells 88 [.mp m] true):=by
  rw[br (OF _),jl];rfl
 have hsk:=MN hs.nodup hlen hstr hj (jD hs.map _);unfold Ai;rw[l_ h.Ql,hsk];by_cases hks:ks=[]
 ·rw[az hks,zT];simp only[KP,↓reduceIte,reduceLT];subst hks;exact⟨.inl ⟨rfl,rfl⟩,qJ.app _ _⟩
 ·rw[an hks,zT];simp only[KP,↓reduceIte,reduceLT];refine⟨.inr ⟨_,?_,by rw[sO hs.nodup],?_⟩,λj o e=>jD (jD e _) _⟩
  ·rw[By];omega
  ·rw[br (OF _),jl];rfl
end
end
section
section
variable {E:Env}{Z:Sg}{K:V->Sg->Prop}
theorem Ie {α:Type}{f:α->Option α}:∀l:List α,(∀x∈l,f x=some x)->aX f l=some l
 | [],_=>rfl
 |x::l,h=>by rw[aX,h x (IN ..),Ie l λy hy=>h y (ae _ hy)]
theorem C4 (h:bY E) (x:aC):∀ks:List aC,iQ (dF E 51) (.agg [.bool x.1,.str x.2]) (kO ks)=some (if x∈ks then some (.bool true) else none)
 | []=>rfl
 |y::r=>by
  show (match dF E 51 (.agg [.bool x.1,.str x.2]) (.agg [.bool y.1,.str y.2]) with
   |some true=>some (some (V.bool true))
   |some false=>iQ (dF E 51) (.agg [.bool x.1,.str x.2]) (kO r)
   |none=>none)=_
  rw[nG h,C4 h x r];by_cases hxy:x=y
  ·rw[BY (show ((x.1,x.2):aC)=(y.1,y.2) from hxy)];show some (some (V.bool true))=some (if x∈y::r then some (V.bool true) else none);rw[az (by rw[hxy];exact IN ..)]
  ·rw[AS (show ¬ ((x.1,x.2):aC)=(y.1,y.2) from hxy)];by_cases hx:x∈r
   ·rw[az hx,az (ae _ hx)]
   ·rw[an hx,an (by simp[hxy,hx])]
structure UnionE (E:Env):Prop where
 hs:E.hspec 61=none
 sp:E.spec 61=none
 fn:E.fn 61=some (aA Tryz.f61)
 md:E.mode 61=.shared
end
end
end Go.Proofs.YtmbikbgdbbcbmaaGreatDoor.Lb
end
section
namespace Go.Proofs.YtmbikbgdbbcbmaaGreatDoor
open Go Go.Ax Go.AxS
section
section
variable {E:Env}{Z:Sg}{K:V->Sg->Prop}
structure dJ where
 key:aC
 s:Nat
 m:Nat
 ks:List aC
def iD (x:aC):V:=.agg [.bool x.1,.str x.2]
def oU (e:dJ):V × V:=(iD e.key,.ref e.s 0)
structure iY (Z:Sg) (b:Nat) (L:List dJ):Prop where
 map:Z[b]?=some (.map (L.map oU))
 sets:∀e∈L,Lb.cW Z e.s e.m e.ks
 nodup:(L.map dJ.key).Nodup
theorem C5 (hl:Lb.bY E) (x:aC):∀L:List dJ,iQ (dF E 51) (iD x) (L.map oU)=some ((L.find? λe=>decide (x=e.key)).map λe=>.ref e.s 0)
 | []=>rfl
 |e::L=>by
  show (match dF E 51 (.agg [.bool x.1,.str x.2]) (.agg [.bool e.key.1,.str e.key.2]) with
   |some true=>some (some (V.ref e.s 0))
   |some false=>iQ (dF E 51) (iD x) (L.map oU)
   |none=>none)=_
  rw[Lb.nG hl,my];by_cases h:x=e.key
  ·rw[BY (show ((x.1,x.2):aC)=(e.key.1,e.key.2) from h)];rfl
  ·rw[AS (show ¬ ((x.1,x.2):aC)=(e.key.1,e.key.2) from h)];exact C5 hl x L
theorem E7 (hl:Lb.bY E) (x:aC) (s m:Nat) (ks:List aC):∀L:List dJ,(∀e∈L,x≠e.key)->kN (dF E 51) (iD x) (.ref s 0) (L.map oU)=some ((L++[dJ.mk x s m ks]).map oU)
 | [],_=>rfl
 |e::L,h=>by
  have hx:=h e (IN ..)
  show (match dF E 51 (.agg [.bool x.1,.str x.2]) (.agg [.bool e.key.1,.str e.key.2]) with
   |some true=>some ((iD x,V.ref s 0)::L.map oU)
   |some false=>(match kN (dF E 51) (iD x) (.ref s 0) (L.map oU) with
    |some r=>some (oU e::r)
    |none=>none)
   |none=>none)=_
  rw[Lb.nG hl,AS (show ¬ ((x.1,x.2):aC)=(e.key.1,e.key.2) from hx),E7 hl x s m ks L λy hy=>h y (ae _ hy)];rfl
def bO (L:List dJ) (x:aC):Option dJ:=L.find? λe=>decide (x=e.key)
theorem Fg (h':oF E)(hl:Lb.bY E) {Z:Sg}{b:Nat}{L:List dJ}(hm:Z[b]?=some (.map (L.map oU))) (x:aC):lookup E Z 98 (.mp b) (iD x) false=some (match bO L x with | some e=>.ref e.s 0 | none=>.fP):=by
 have hk:=Lb.lU hl x.1 x.2;unfold Ax.lookup;simp only[h'.xI,hl.uH,iD,hk,entriesOf,hm,dj,ah,ay];have:=C5 hl x L;unfold iD at this;rw[this];unfold bO;cases L.find? λe=>decide (x=e.key) <;> rfl
theorem zO (h':oF E)(hl:Lb.bY E) {Z:Sg}{b:Nat}{L:List dJ}(hm:iY Z b L) (x:aC):lookup E Z 98 (.mp b) (iD x) false=some (match bO L x with | some e=>.ref e.s 0 | none=>.fP):=Fg h' hl hm.map x
theorem Gj (h':oF E)(hl:Lb.bY E) {Z:Sg}{b:Nat}{L:List dJ}(hm:iY Z b L) {x:aC}(hx:bO L x=none) {s m:Nat}{ks:List aC}:mapUpdate E Z 98 (.mp b) (iD x) (.ref s 0)=some (Z.set b (.map ((L++[dJ.mk x s m ks]).map oU))):=by
 have hk:=Lb.lU hl x.1 x.2
 have hne:∀e∈L,x≠e.key:=λe he hxe=>by
  have:=me.1 hx e he;simp[hxe]at this
 have:=E7 hl x s m ks L hne;unfold iD at this;unfold Ax.mapUpdate;simp only[h'.xI,iD,hk,hm.map,this,fB,V.aY,dj,je,ah,ay,cg]
end
end
section
section
variable {E:Env}{Z:Sg}{K:V->Sg->Prop}
theorem cW.keep {Z σ':Sg}{s m x:Nat}{ks:List aC}{es:List (V × V)}(h:Lb.cW Z s m ks)(hx:Z[x]?=some (.map es))(hm:m≠x) (k:∀(j:Nat) (o:O),j≠x->Z[j]?=some o->σ'[j]?=some o):Lb.cW σ' s m ks:=by
 refine⟨k _ _ (λe=>?_) h.obj,k _ _ hm h.map,h.nodup⟩;have:=h.obj;rw[e,hx]at this;cases this
theorem iY.keep {Z σ':Sg}{b x:Nat}{L:List dJ}{es:List (V × V)}(h:iY Z b L)(hx:Z[x]?=some (.map es))(hb:b≠x)(hm:x ∉ L.map dJ.m) (k:∀(j:Nat) (o:O),j≠x->Z[j]?=some o->σ'[j]?=some o):iY σ' b L:=
 ⟨k _ _ hb h.map,λe he=>cW.keep (h.sets e he) hx (λe'=>hm (cv.2 ⟨e,he,e'⟩)) k,h.nodup⟩
def qM (L:List dJ) (x:aC) (ks:List aC):List dJ:=L.map λe=>if e.key=x then { e with ks:=ks } else e
theorem MH (L:List dJ) (x:aC) (ks:List aC):(qM L x ks).map oU=L.map oU:=by
 unfold qM;rw[jv];refine jo λe _=>?_;show oU (if e.key=x then _ else e)=oU e;by_cases h:e.key=x
 ·rw[az h];rfl
 ·rw[an h]
theorem EC (L:List dJ) (x:aC) (ks:List aC):(qM L x ks).map dJ.key=L.map dJ.key:=by
 unfold qM;rw[jv];refine jo λe _=>?_;show dJ.key (if e.key=x then _ else e)=e.key;by_cases h:e.key=x
 ·rw[az h]
 ·rw[an h]
theorem KZ (L:List dJ) (x:aC) (ks:List aC):(qM L x ks).map dJ.m=L.map dJ.m:=by
 unfold qM;rw[jv];refine jo λe _=>?_;show dJ.m (if e.key=x then _ else e)=e.m;by_cases h:e.key=x
 ·rw[az h]
 ·rw[an h]
theorem AL {β:Type}{f:dJ->β}:∀{L:List dJ},(L.map f).Nodup->∀e∈L,∀e'∈L,f e=f e'->e=e'
 | [],_,e,he,_,_,_=>by cases he
 |a::L,h,e,he,e',he',hm=>by
  rw[bh,dn]at h;rcases IT.1 he with h1 | h1 <;> rcases IT.1 he' with h2 | h2
  ·rw[h1,h2]
  ·exact absurd (cv.2 ⟨e',h2,by rw[<- hm,h1]⟩) h.1
  ·exact absurd (cv.2 ⟨e,h1,by rw[hm,h2]⟩) h.1
  ·exact AL h.2 e h1 e' h2 hm
theorem iY.up {Z σ':Sg}{b:Nat}{L:List dJ}{e:dJ}{ks:List aC}(h:iY Z b L)(he:e∈L)(hnd:(L.map dJ.m).Nodup)(hb:b≠e.m)(hs:Lb.cW σ' e.s e.m ks) (k:∀(j:Nat) (o:O),j≠e.m->Z[j]?=some o->σ'[j]?=some o):iY σ' b (qM L e.key ks):=by
 refine⟨by rw[MH];exact k _ _ hb h.map,λa ha=>?_,by rw[EC];exact h.nodup⟩;obtain⟨a0,ha0,rfl⟩:=cv.1 ha;by_cases hk:a0.key=e.key
 ·have hae:a0=e:=AL h.nodup a0 ha0 e he hk;subst hae;rw[az rfl];exact hs
 ·rw[an hk];exact cW.keep (h.sets a0 ha0) (h.sets e he).map (λe'=>hk (by rw[AL hnd a0 ha0 e he e'])) k
structure oH (E:Env) (Z:Sg) (gb m0 m1 sa ma b3 b4:Nat) (es0 es1:List (V × V)) (A:List aC) (L3 L4:List dJ):Prop where
 g:Z[gb]?=some (.cells 100 [.mp m0,.mp m1,.ref sa 0,.mp b3,.mp b4] true)
 rules:Z[m0]?=some (.map es0)
 jP:Z[m1]?=some (.map es1)
 all:Lb.cW Z sa ma A
 kC:iY Z b3 L3
 jW:iY Z b4 L4
 sep:(m0::m1::ma::b3::b4::(L3.map dJ.m++L4.map dJ.m)).Nodup
end
end
section
section
variable {E:Env}{Z:Sg}{K:V->Sg->Prop}
theorem cW.app {Z:Sg}{s m:Nat}{ks:List aC}(h:Lb.cW Z s m ks) (y:O):Lb.cW (Z++[y]) s m ks:=⟨aJ h.obj,aJ h.map,h.nodup⟩
theorem iY.app {Z:Sg}{b:Nat}{L:List dJ}(h:iY Z b L) (y:O):iY (Z++[y]) b L:=⟨aJ h.map,λe he=>cW.app (h.sets e he) y,h.nodup⟩
theorem oH.app {{Z:Sg}} {{gb m0 m1 sa ma b3 b4:Nat}} {{es0 es1:List (V × V)}} {{A:List aC}} {{L3 L4:List dJ}}(h:oH E Z gb m0 m1 sa ma b3 b4 es0 es1 A L3 L4) (y:O):oH E (Z++[y]) gb m0 m1 sa ma b3 b4 es0 es1 A L3 L4:=
 ⟨aJ h.g,aJ h.rules,aJ h.jP,cW.app h.all y,h.kC.app y,h.jW.app y,h.sep⟩
theorem oH.more {{Z σ':Sg}} {{gb m0 m1 sa ma b3 b4:Nat}} {{es0 es1:List (V × V)}} {{A:List aC}} {{L3 L4:List dJ}}(h:oH E Z gb m0 m1 sa ma b3 b4 es0 es1 A L3 L4) {A':List aC}(hs:Lb.cW σ' sa ma A') (k:∀(j:Nat) (o:O),j≠ma->Z[j]?=some o->σ'[j]?=some o):oH E σ' gb m0 m1 sa ma b3 b4 es0 es1 A' L3 L4:=by
 have sep:=h.sep;simp only[dn,IT,cq,qm]at sep;obtain⟨⟨-,n0,-⟩,⟨n1,-⟩,⟨n3,n4,n5,n6⟩,-⟩:=sep;have hx:=h.all.map
 have ng:gb≠ma:=λe=>by
  have:=h.g;rw[e,hx]at this;cases this
 exact⟨k _ _ ng h.g,k _ _ n0 h.rules,k _ _ n1 h.jP,hs,h.kC.keep hx (λe=>n3 e.symm) n5 k,h.jW.keep hx (λe=>n4 e.symm) n6 k,h.sep⟩
theorem oH.rule {{Z:Sg}} {{gb m0 m1 sa ma b3 b4:Nat}} {{es0 es1:List (V × V)}} {{A:List aC}} {{L3 L4:List dJ}}(h:oH E Z gb m0 m1 sa ma b3 b4 es0 es1 A L3 L4) (es:List (V × V)):oH E (Z.set m0 (.map es)) gb m0 m1 sa ma b3 b4 es es1 A L3 L4:=by
 have sep:=h.sep;simp only[dn,IT,cq,qm]at sep;obtain⟨⟨n1,na,n3,n4,n5,n6⟩,-⟩:=sep;have hx:=h.rules
 have ng:gb≠m0:=λe=>by
  have:=h.g;rw[e,hx]at this;cases this
 have k:∀(j:Nat) (o:O),j≠m0->Z[j]?=some o->(Z.set m0 (.map es))[j]?=some o:=λj o hj ho=>by
  rw[No (jy hj)];exact ho
 exact⟨k _ _ ng h.g,bt (AI.1 hx).1,k _ _ (jy n1) h.jP,cW.keep h.all hx (jy na) k,h.kC.keep hx (jy n3) n5 k,h.jW.keep hx (jy n4) n6 k,h.sep⟩
theorem oH.LN {{Z:Sg}} {{gb m0 m1 sa ma b3 b4:Nat}} {{es0 es1:List (V × V)}} {{A:List aC}} {{L3 L4:List dJ}}(h:oH E Z gb m0 m1 sa ma b3 b4 es0 es1 A L3 L4) (es:List (V × V)):oH E (Z.set m1 (.map es)) gb m0 m1 sa ma b3 b4 es0 es A L3 L4:=by
 have sep:=h.sep;simp only[dn,IT,cq,qm]at sep;obtain⟨⟨n1,-⟩,⟨na,n3,n4,n5,n6⟩,-⟩:=sep;have hx:=h.jP
 have ng:gb≠m1:=λe=>by
  have:=h.g;rw[e,hx]at this;cases this
 have k:∀(j:Nat) (o:O),j≠m1->Z[j]?=some o->(Z.set m1 (.map es))[j]?=some o:=λj o hj ho=>by
  rw[No (jy hj)];exact ho
 exact⟨k _ _ ng h.g,k _ _ n1 h.rules,bt (AI.1 hx).1,cW.keep h.all hx (jy na) k,h.kC.keep hx (jy n3) n5 k,h.jW.keep hx (jy n4) n6 k,h.sep⟩
end
end
section
section
variable {E:Env}{Z:Sg}{K:V->Sg->Prop}
theorem oH.facts {Z:Sg}{gb m0 m1 sa ma b3 b4:Nat}{es0 es1:List (V × V)}{A:List aC}{L3 L4:List dJ}(h:oH E Z gb m0 m1 sa ma b3 b4 es0 es1 A L3 L4):(L3.map dJ.m).Nodup/\(L4.map dJ.m).Nodup/\∀x,x∈L3.map dJ.m\/x∈L4.map dJ.m->m0≠x/\m1≠x/\ma≠x/\b3≠x/\b4≠x:=by
 have sep:=h.sep;simp only[dn,IT,cq,qm,k8]at sep;obtain⟨⟨-,-,-,-,a5,a6⟩,⟨-,-,-,b5,b6⟩,⟨-,-,c5,c6⟩,⟨-,d5,d6⟩,⟨e5,e6⟩,f1,f2,-⟩:=sep;refine⟨f1,f2,λx hx=>?_⟩;rcases hx with hx | hx
 ·exact⟨λe=>a5 (by rw[e];exact hx),λe=>b5 (by rw[e];exact hx),λe=>c5 (by rw[e];exact hx),λe=>d5 (by rw[e];exact hx),λe=>e5 (by rw[e];exact hx)⟩
 ·exact⟨λe=>a6 (by rw[e];exact hx),λe=>b6 (by rw[e];exact hx),λe=>c6 (by rw[e];exact hx),λe=>d6 (by rw[e];exact hx),λe=>e6 (by rw[e];exact hx)⟩
theorem oH.UJ {Z:Sg}{gb m0 m1 sa ma b3 b4:Nat}{es0 es1:List (V × V)}{A:List aC}{L3 L4:List dJ}(h:oH E Z gb m0 m1 sa ma b3 b4 es0 es1 A L3 L4):∀x∈L3.map dJ.m,x ∉ L4.map dJ.m:=by
 have sep:=h.sep;simp only[dn,IT,cq,qm,k8]at sep;obtain⟨-,-,-,-,-,-,-,f3⟩:=sep;exact λx hx hy=>f3 x hx x hy rfl
theorem oH.Py {{Z σ':Sg}} {{gb m0 m1 sa ma b3 b4:Nat}} {{es0 es1:List (V × V)}} {{A:List aC}} {{L3 L4:List dJ}}(h:oH E Z gb m0 m1 sa ma b3 b4 es0 es1 A L3 L4) {e:dJ}(he:e∈L3) {ks:List aC}(hs:Lb.cW σ' e.s e.m ks) (k:∀(j:Nat) (o:O),j≠e.m->Z[j]?=some o->σ'[j]?=some o):oH E σ' gb m0 m1 sa ma b3 b4 es0 es1 A (qM L3 e.key ks) L4:=by
 obtain⟨f1,f2,f3⟩:=h.facts;have hm:e.m∈L3.map dJ.m:=cv.2 ⟨e,he,rfl⟩;obtain⟨n1,n2,n3,n4,n5⟩:=f3 e.m (Or.inl hm);have hx:=(h.kC.sets e he).map
 have ng:gb≠e.m:=λe'=>by
  have:=h.g;rw[e',hx]at this;cases this
 have nb:=n4;exact⟨k _ _ ng h.g,k _ _ n1 h.rules,k _ _ n2 h.jP,cW.keep h.all hx n3 k,iY.up h.kC he f1 nb hs k,h.jW.keep hx n5 (λhx'=>h.UJ _ hm hx') k,by rw[KZ];exact h.sep⟩
theorem oH.Oq {{Z σ':Sg}} {{gb m0 m1 sa ma b3 b4:Nat}} {{es0 es1:List (V × V)}} {{A:List aC}} {{L3 L4:List dJ}}(h:oH E Z gb m0 m1 sa ma b3 b4 es0 es1 A L3 L4) {e:dJ}(he:e∈L4) {ks:List aC}(hs:Lb.cW σ' e.s e.m ks) (k:∀(j:Nat) (o:O),j≠e.m->Z[j]?=some o->σ'[j]?=some o):oH E σ' gb m0 m1 sa ma b3 b4 es0 es1 A L3 (qM L4 e.key ks):=by
 obtain⟨f1,f2,f3⟩:=h.facts;have hm:e.m∈L4.map dJ.m:=cv.2 ⟨e,he,rfl⟩;obtain⟨n1,n2,n3,n4,n5⟩:=f3 e.m (Or.inr hm);have hx:=(h.jW.sets e he).map
 have ng:gb≠e.m:=λe'=>by
  have:=h.g;rw[e',hx]at this;cases this
 have nb:=n5;exact⟨k _ _ ng h.g,k _ _ n1 h.rules,k _ _ n2 h.jP,cW.keep h.all hx n3 k,h.kC.keep hx n4 (λhx'=>h.UJ _ hx' hm) k,iY.up h.jW he f2 nb hs k,by rw[KZ];exact h.sep⟩
end
end
section
section
variable {E:Env}{Z:Sg}{K:V->Sg->Prop}
theorem iY.oQ {Z σ1:Sg}{b:Nat}{L:List dJ}(h:iY Z b L) (k:Lb.qJ Z σ1):iY σ1 b L:=⟨k _ _ h.map,λe he=>⟨k _ _ (h.sets e he).obj,k _ _ (h.sets e he).map,(h.sets e he).nodup⟩,h.nodup⟩
theorem oH.oQ {{Z σ1:Sg}} {{gb m0 m1 sa ma b3 b4:Nat}} {{es0 es1:List (V × V)}} {{A:List aC}} {{L3 L4:List dJ}}(h:oH E Z gb m0 m1 sa ma b3 b4 es0 es1 A L3 L4) (k:Lb.qJ Z σ1):oH E σ1 gb m0 m1 sa ma b3 b4 es0 es1 A L3 L4:=
 ⟨k _ _ h.g,k _ _ h.rules,k _ _ h.jP,⟨k _ _ h.all.obj,k _ _ h.all.map,h.all.nodup⟩,h.kC.oQ k,h.jW.oQ k,h.sep⟩
theorem oH.below {Z:Sg}{gb m0 m1 sa ma b3 b4:Nat}{es0 es1:List (V × V)}{A:List aC}{L3 L4:List dJ}(h:oH E Z gb m0 m1 sa ma b3 b4 es0 es1 A L3 L4) {m:Nat}(hm:Z.length<=m):m ∉ m0::m1::ma::b3::b4::(L3.map dJ.m++L4.map dJ.m):=by
 have lt:∀{i:Nat}{o:O},Z[i]?=some o->i<m:=λe=>iu (AI.1 e).1 hm;have h0:=lt h.rules;have h1:=lt h.jP;have h2:=lt h.all.map;have h3:=lt h.kC.map;have h4:=lt h.jW.map;intro hx;simp only[IT,cq,cv]at hx;rcases hx with e | e | e | e | e | ⟨e,he,e'⟩ | ⟨e,he,e'⟩
 ·omega
 ·omega
 ·omega
 ·omega
 ·omega
 ·have:=lt (h.kC.sets e he).map;omega
 ·have:=lt (h.jW.sets e he).map;omega
theorem iY.new {Z:Sg}{b:Nat}{L:List dJ}{x:aC}{s m:Nat}(h:iY Z b L)(hx:bO L x=none)(hs:Lb.cW Z s m [])(hb:b ∉ L.map dJ.m)(hm:m≠b):iY (Z.set b (.map ((L++[dJ.mk x s m []]).map oU))) b (L++[dJ.mk x s m []]):=by
 have k:∀(j:Nat) (o:O),j≠b->Z[j]?=some o->(Z.set b (.map ((L++[dJ.mk x s m []]).map oU)))[j]?=some o:=λj o hj ho=>by
  rw[No (jy hj)];exact ho
 refine⟨bt (AI.1 h.map).1,λe he=>?_,?_⟩
 ·rcases cq.1 he with he | he
  ·exact cW.keep (h.sets e he) h.map (λe'=>hb (cv.2 ⟨e,he,e'⟩)) k
  ·rw[cn.1 he];exact cW.keep hs h.map hm k
 ·rw[gp,k8];refine⟨h.nodup,by simp,λy hy z hz e=>?_⟩;obtain⟨a,ha,rfl⟩:=cv.1 hy;have hz:z=x:=by simpa using hz
  have:=me.1 hx a ha;simp[<- hz,<- e]at this
theorem oH.Sq {{Z σ1:Sg}} {{gb m0 m1 sa ma b3 b4:Nat}} {{es0 es1:List (V × V)}} {{A:List aC}} {{L3 L4:List dJ}}(h:oH E Z gb m0 m1 sa ma b3 b4 es0 es1 A L3 L4) {x:aC}(hx:bO L3 x=none) {s m:Nat} (k1:Lb.qJ Z σ1)(hs:Lb.cW σ1 s m [])(hm:Z.length<=m):oH E (σ1.set b3 (.map ((L3++[dJ.mk x s m []]).map oU))) gb m0 m1 sa ma b3 b4 es0 es1 A (L3++[dJ.mk x s m []]) L4:=by
 have h1:=h.oQ k1;have fresh:=h.below hm;have hx1:=h1.kC.map;have sep:=h.sep;simp only[dn,IT,cq,qm]at sep;obtain⟨⟨-,-,a3,-⟩,⟨-,b3',-⟩,⟨c3,-⟩,⟨n3,n4,n5⟩,-⟩:=sep;have hmb:m≠b3:=λe=>fresh (by rw[e];simp);have new:=iY.new h1.kC hx hs n4 hmb
 have ng:gb≠b3:=λe=>by
  have:=h1.g;rw[e,hx1]at this;cases this
 have k:∀(j:Nat) (o:O),j≠b3->σ1[j]?=some o->(σ1.set b3 (.map ((L3++[dJ.mk x s m []]).map oU)))[j]?=some o:=λj o hj ho=>by
  rw[No (jy hj)];exact ho
 have hp:(m0::m1::ma::b3::b4::((L3++[dJ.mk x s m []]).map dJ.m++L4.map dJ.m)).Perm (m::(m0::m1::ma::b3::b4::(L3.map dJ.m++L4.map dJ.m))):=by simpa using jw (l₁:=m0::m1::ma::b3::b4::L3.map dJ.m) (a:=m) (l₂:=L4.map dJ.m)
 exact⟨k _ _ ng h1.g,k _ _ a3 h1.rules,k _ _ b3' h1.jP,cW.keep h1.all hx1 c3 k,new,h1.jW.keep hx1 (λe=>n3 e.symm) n5 k,hp.nodup_iff.2 (dn.2 ⟨fresh,h.sep⟩)⟩
theorem oH.RH {{Z σ1:Sg}} {{gb m0 m1 sa ma b3 b4:Nat}} {{es0 es1:List (V × V)}} {{A:List aC}} {{L3 L4:List dJ}}(h:oH E Z gb m0 m1 sa ma b3 b4 es0 es1 A L3 L4) {x:aC}(hx:bO L4 x=none) {s m:Nat} (k1:Lb.qJ Z σ1)(hs:Lb.cW σ1 s m [])(hm:Z.length<=m):oH E (σ1.set b4 (.map ((L4++[dJ.mk x s m []]).map oU))) gb m0 m1 sa ma b3 b4 es0 es1 A L3 (L4++[dJ.mk x s m []]):=by
 have h1:=h.oQ k1;have fresh:=h.below hm;have hx1:=h1.jW.map;have sep:=h.sep;simp only[dn,IT,cq,qm]at sep;obtain⟨⟨-,-,-,a3,-⟩,⟨-,-,b3',-⟩,⟨-,c3,-⟩,⟨n3,-,-⟩,⟨n4,n5⟩,-⟩:=sep;have hmb:m≠b4:=λe=>fresh (by rw[e];simp);have new:=iY.new h1.jW hx hs n5 hmb
 have ng:gb≠b4:=λe=>by
  have:=h1.g;rw[e,hx1]at this;cases this
 have k:∀(j:Nat) (o:O),j≠b4->σ1[j]?=some o->(σ1.set b4 (.map ((L4++[dJ.mk x s m []]).map oU)))[j]?=some o:=λj o hj ho=>by
  rw[No (jy hj)];exact ho
 have hp:(m0::m1::ma::b3::b4::(L3.map dJ.m++(L4++[dJ.mk x s m []]).map dJ.m)).Perm (m::(m0::m1::ma::b3::b4::(L3.map dJ.m++L4.map dJ.m))):=by simpa using jw (l₁:=m0::m1::ma::b3::b4::(L3.map dJ.m++L4.map dJ.m)) (a:=m) (l₂:=[])
 exact⟨k _ _ ng h1.g,k _ _ a3 h1.rules,k _ _ b3' h1.jP,cW.keep h1.all hx1 c3 k,h1.kC.keep hx1 n3 n4 k,new,hp.nodup_iff.2 (dn.2 ⟨fresh,h.sep⟩)⟩
end
end
section
section
variable {E:Env}{Z:Sg}{K:V->Sg->Prop}
theorem Z7 (h:bE E)(h':oF E)(hl:Lb.bY E) {Y:Sg} {{gb m0 m1 sa ma b3 b4:Nat}} {{es0 es1:List (V × V)}} {{A:List aC}} {{L3 L4:List dJ}} (ga:oH E Y gb m0 m1 sa ma b3 b4 es0 es1 A L3 L4) {x y:aC}{n0 n1:Nat}(hx:Y[n0]?=some (O.cells 51 [.bool x.1,.str x.2] true))(hy:Y[n1]?=some (O.cells 51 [.bool y.1,.str y.2] true))(hA:A.length<=1000000) (F:FT) (g0:F.get 0=.ref gb 0) (g4:F.get 4=.ref n0 0) (g5:F.get 5=.ref n1 0) {st:List kH}{Q:Ax.X->Fr->Sg->Prop}
  (hk:∀F' τ',(∀k,k∈[0,4,5]->F'.get k=F.get k)->oH E τ' gb m0 m1 sa ma b3 b4 es0 es1 (keys A [x,y]) L3 L4->τ'[n0]?=some (O.cells 51 [.bool x.1,.str x.2] true)->τ'[n1]?=some (O.cells 51 [.bool y.1,.str y.2] true)->Lb.dY Y τ'->M E st .normal ⟨57,F'⟩ τ' Q):Ax.R E (.region 1 (opsOf (cutAt [1,0] (aA Tryz.f72).code)) true) st ⟨57,F⟩ Y Q:=by
 have ga1:=ga.app (O.cells 51 [.bool x.1,.str x.2,.bool y.1,.str y.2] true);have hx1:=aJ (x:=O.cells 51 [.bool x.1,.str x.2,.bool y.1,.str y.2] true) hx;have hy1:=aJ (x:=O.cells 51 [.bool x.1,.str x.2,.bool y.1,.str y.2] true) hy;have hsv:Lb.SV (Y++[O.cells 51 [.bool x.1,.str x.2,.bool y.1,.str y.2] true]) (.sl Y.length 0 2 none) [x,y]:=.inr (.inr ⟨Y.length,_,true,rfl,aL,rfl⟩);obtain⟨n,r,τ2,hcall,hr,hset,hkp⟩:=Lb.Rb hl ga1.all hsv (show 2<=10000000000 by omega) (by omega);have ga2:=ga1.more hset hkp;have hma:=ga1.all.map
 have ne:∀{k:Nat}{t:Nat}{cs:List V}{ex:Bool},(Y++[O.cells 51 [.bool x.1,.str x.2,.bool y.1,.str y.2] true])[k]?=some (.cells t cs ex)->k≠ma:=λhk e=>by
  rw[e,hma]at hk;cases hk
 have hx2:=hkp _ _ (ne hx1) hx1;have hy2:=hkp _ _ (ne hy1) hy1;have g:=ga.g;have g1:=ga1.g;have vr:tX 12 (.ref sa 0) (.ref sa 0)=true:=by unfold tX;simp
 have key:∃F',cO E (ev E n) (opsOf (cutAt [1,0] (aA Tryz.f72).code)) ⟨57,F⟩ Y=some (⟨57,F'⟩,τ2)/\(∀k,k∈[0,4,5]->F'.get k=F.get k):=by
  unfold cO;rw[h'.Xy,h'.Za];simp only[aA,Tryz.f72,KP,Ax.loadAt,↓reduceIte,reduceEqDiff,reduceLT,reduceLeDiff,reduceAdd,reduceMul,reduceCtorEq,h.iI,h.cE,opsOf,cutAt,Fz.lits,iL,bL,cA,kY,Ax.comp,Ax.last,iN,Ax.again,Ax.fill,gX,iz,hl.uH,h'.pI,g0,g4,g5,hx,hy,g,g1,hcall,vr];refine⟨_,rfl,λk hk=>?_⟩;simp only[IT,cr,fu]at hk;rcases hk with rfl | rfl | rfl <;> simp +decide only[GS]
 obtain⟨F',hD,hF⟩:=key;exact Eq.mpr (i_ hD) (hk F' τ2 hF ga2 hx2 hy2 ((Lb.dY.app Y _).trans (Lb.Kp.vG hkp hma)))
end
end
section
section
variable {E:Env}{Z:Sg}{K:V->Sg->Prop}
theorem gG {L:List dJ}{x:aC}{e:dJ}(h:bO L x=some e):e∈L/\x=e.key:=by
 unfold bO at h;exact⟨List.mem_of_find?_eq_some h,by have:=find?_some h;simpa using this⟩
theorem LR (h:bE E)(h':oF E)(hl:Lb.bY E) {Y:Sg}{nb mb:Nat}{L:List dJ}{x y:aC}{e:dJ}(hm:iY Y mb L)(he:bO L x=some e)(hb:Y[nb]?=some (O.cells 147 [.mp mb,.bool x.1,.str x.2,.bool y.1,.str y.2] true))(hks:e.ks.length<=1000000)(hmb:mb≠e.m) (F:FT) (g7:F.get 7=.ref nb 0) {st:List kH}{Q:Ax.X->Fr->Sg->Prop}
  (hk:∀F' τ',(∀k,k∈[0,4,5,7,30,31,32]->F'.get k=F.get k)->Lb.cW τ' e.s e.m (keys e.ks [y])->Lb.Kp (Y++[O.cells 51 [.bool y.1,.str y.2] true]) τ' e.m->M E st .normal ⟨57,F'⟩ τ' Q):Ax.R E (.region 7 (opsOf (cutAt [1,1,1,2,2,1,1,0,2,1,1] (aA Tryz.f72).code)) true) st ⟨57,F⟩ Y Q:=by
 obtain⟨hme,hxe⟩:=gG he;have hm1:=hm.app (O.cells 51 [.bool y.1,.str y.2] true);have hb1:=aJ (x:=O.cells 51 [.bool y.1,.str y.2] true) hb;have hs1:=hm1.sets e hme;have hsv:Lb.SV (Y++[O.cells 51 [.bool y.1,.str y.2] true]) (.sl Y.length 0 1 none) [y]:=.inr (.inr ⟨Y.length,_,true,rfl,aL,rfl⟩);obtain⟨n,r,τ2,hcall,hr,hset,hkp⟩:=Lb.Rb hl hs1 hsv (show 1<=10000000000 by omega) (by omega)
 have ne:nb≠e.m:=λe'=>by
  have:=hs1.map;rw[<- e',hb1]at this;cases this
 have lk:lookup E Y 98 (.mp mb) (.agg [.bool x.1,.str x.2]) false=some (.ref e.s 0):=by
  have:=zO h' hl hm x;rw[he]at this;exact this
 have lk1:lookup E (Y++[O.cells 51 [.bool y.1,.str y.2] true]) 98 (.mp mb) (.agg [.bool x.1,.str x.2]) false=some (.ref e.s 0):=by
  have:=zO h' hl hm1 x;rw[he]at this;exact this
 have lk2:lookup E τ2 98 (.mp mb) (.agg [.bool x.1,.str x.2]) false=some (.ref e.s 0):=by
  have:=Fg h' hl (hkp _ _ hmb hm1.map) x;rw[he]at this;exact this
 have vr:tX 12 (.ref e.s 0) (.ref e.s 0)=true:=by unfold tX;simp
 have vm:tX 12 (.mp mb) (.mp mb)=true:=by unfold tX;simp
 have vl:tX 12 (.agg [.bool x.1,.str x.2]) (.agg [.bool x.1,.str x.2])=true:=qI λz hz=>by
  simp only[IT,cr,fu]at hz;rcases hz with rfl | rfl
  ·show decide (x.1=x.1)=true;simp
  ·exact Be 10 x.2
 have key:∃F',cO E (ev E n) (opsOf (cutAt [1,1,1,2,2,1,1,0,2,1,1] (aA Tryz.f72).code)) ⟨57,F⟩ Y=some (⟨57,F'⟩,τ2)/\(∀k,k∈[0,4,5,7,30,31,32]->F'.get k=F.get k):=by
  unfold cO;rw[h'.Xw,h'.Y9];simp only[aA,Tryz.f72,KP,Ax.loadAt,↓reduceIte,reduceEqDiff,reduceLT,reduceLeDiff,reduceAdd,reduceMul,reduceCtorEq,h.iI,h.cE,opsOf,cutAt,Fz.lits,iL,bL,cA,kY,Ax.comp,Ax.last,iN,Ax.again,Ax.fill,gX,iz,h'.xI,h'.yI,g7,hb,hb1,lk,lk1,hcall,vr,vm,vl];refine⟨_,rfl,λk hk=>?_⟩;simp only[IT,cr,fu]at hk;rcases hk with rfl | rfl | rfl | rfl | rfl | rfl | rfl <;> simp +decide only[GS]
 obtain⟨F',hD,hF⟩:=key;exact Eq.mpr (i_ hD) (hk F' τ2 hF hset hkp)
end
end
section
section
variable {E:Env}{Z:Sg}{K:V->Sg->Prop}
theorem UA (h:bE E)(h':oF E)(hl:Lb.bY E) {Y:Sg}{nb mb:Nat}{L:List dJ}{x y:aC}(hm:iY Y mb L)(he:bO L x=none)(hb:Y[nb]?=some (O.cells 147 [.mp mb,.bool x.1,.str x.2,.bool y.1,.str y.2] true)) (F:FT) (g7:F.get 7=.ref nb 0) {st:List kH}{Q:Ax.X->Fr->Sg->Prop}
  (hk:∀F' τ1 m,(∀k,k∈[0,4,5,7,30,31,32]->F'.get k=F.get k)->Lb.qJ Y τ1->Lb.cW τ1 Y.length m []->Y.length<m->M E st .normal ⟨57,F'⟩ (τ1.set mb (.map ((L++[dJ.mk x Y.length m []]).map oU))) Q):Ax.R E (.region 6 (opsOf (cutAt [1,1,1,2,2,1,1,0,2,1,0,1,0] (aA Tryz.f72).code)) true) st ⟨57,F⟩ Y Q:=by
 obtain⟨n,r,τ1,hcall,m,rfl,hset,hlt,oQ⟩:=Lb.Q5 hl (Z:=Y) (v:=.aF) (l:=[]) (.inl ⟨rfl,rfl⟩) (by simp);have hb1:=oQ _ _ hb;have put:=Gj h' hl (hm.oQ oQ) he (s:=Y.length) (m:=m) (ks:=[]);unfold iD at put;have vm:tX 12 (.mp mb) (.mp mb)=true:=by unfold tX;simp
 have vl:tX 12 (.agg [.bool x.1,.str x.2]) (.agg [.bool x.1,.str x.2])=true:=qI λz hz=>by
  simp only[IT,cr,fu]at hz;rcases hz with rfl | rfl
  ·show decide (x.1=x.1)=true;simp
  ·exact Be 10 x.2
 have key:∃F',cO E (ev E n) (opsOf (cutAt [1,1,1,2,2,1,1,0,2,1,0,1,0] (aA Tryz.f72).code)) ⟨57,F⟩ Y=some (⟨57,F'⟩,τ1.set mb (.map ((L++[dJ.mk x Y.length m []]).map oU)))/\(∀k,k∈[0,4,5,7,30,31,32]->F'.get k=F.get k):=by
  unfold cO;rw[h'.Xx,h'.Y_];simp only[aA,Tryz.f72,KP,Ax.loadAt,↓reduceIte,reduceEqDiff,reduceLT,reduceLeDiff,reduceAdd,reduceCtorEq,h.cE,opsOf,cutAt,iL,bL,cA,kY,Ax.comp,Ax.last,iN,Ax.again,aS,h'.xI,h'.yI,g7,hb,hb1,hcall,put,vm,vl];refine⟨_,rfl,λk hk=>?_⟩;simp only[IT,cr,fu]at hk;rcases hk with rfl | rfl | rfl | rfl | rfl | rfl | rfl <;> simp +decide only[GS]
 obtain⟨F',hD,hF⟩:=key;exact Eq.mpr (i_ hD) (hk F' τ1 m hF oQ hset hlt)
end
end
section
section
variable {E:Env}{Z:Sg}{K:V->Sg->Prop}
def rQ (L:List dJ) (z:aC):List aC:=match bO L z with
 |some e=>e.ks
 |none=>[]
theorem HH (L:List dJ) (x:aC) (ks:List aC) (z:aC):bO (qM L x ks) z=(bO L z).map λe=>if e.key=x then { e with ks:=ks } else e:=by
 unfold bO qM
 induction L with
 |nil=>rfl
 |cons e L ih=>
  rw[bh,my,my]
  have hk:(if e.key=x then { e with ks:=ks } else e).key=e.key:=by
   by_cases h:e.key=x
   ·rw[az h]
   ·rw[an h]
  rw[hk];by_cases hz:z=e.key
  ·rw[BY hz];rfl
  ·rw[AS hz];exact ih
theorem SU {L:List dJ}{e:dJ}{x:aC}(he:bO L x=some e) (ks:List aC) (z:aC):rQ (qM L e.key ks) z=if z=x then ks else rQ L z:=by
 obtain⟨hme,hxe⟩:=gG he;unfold rQ;rw[HH];by_cases hz:z=x
 ·rw[az hz,hz,he]
  show (match (some (if e.key=e.key then { e with ks:=ks } else e):Option dJ) with
   |some e=>e.ks
   |none=>[])=ks
  rw[az rfl]
 ·rw[an hz];cases hq:bO L z with
  |none=>rfl
  |some q=>
   obtain⟨-,hzq⟩:=gG hq;show (if q.key=e.key then { q with ks:=ks } else q).ks=q.ks;rw[an (λe'=>hz (by rw[hzq,e',hxe]))]
theorem yQ (L:List dJ) (e:dJ)(hx:bO L e.key=none) (z:aC):bO (L++[e]) z=if z=e.key then some e else bO L z:=by
 unfold bO at *;rw[List.find?_append];by_cases hz:z=e.key
 ·rw[az hz,hz,hx,my,BY rfl];rfl
 ·rw[an hz,my,AS hz,List.find?_nil];cases List.find? (λe=>decide (z=e.key)) L <;> rfl
structure Grow (L:List dJ) (x y:aC) (L':List dJ):Prop where
 mem:∀z w,w∈rQ L' z ↔ w∈rQ L z\/(z=x/\w=y)
 len:∀n,(∀e∈L,e.ks.length<=n)->∀e∈L',e.ks.length<=n+1
 key:∀z,z∈L'.map dJ.key ↔ z∈L.map dJ.key\/z=x
theorem Wb {L:List dJ}{x:aC}:x∈L.map dJ.key ↔ ∃e,bO L x=some e:=by
 constructor
 ·intro h;obtain⟨e,he,rfl⟩:=cv.1 h;cases hq:bO L e.key with
  |some q=>exact⟨q,rfl⟩
  |none=>
   have:=me.1 hq e he;simp at this
 ·rintro⟨e,he⟩;obtain⟨h1,h2⟩:=gG he;exact cv.2 ⟨e,h1,h2.symm⟩
theorem Qb (l:List aC) (y:aC):keys l [y]=kE l y:=rfl
theorem Nj (l:List aC) (y:aC):(kE l y).length<=l.length+1:=by
 unfold kE;by_cases h:y∈l
 ·rw[az h];omega
 ·rw[an h,By];exact OF _
theorem Grow.up {L:List dJ}{e:dJ}{x:aC}(he:bO L x=some e) (y:aC):Grow L x y (qM L e.key (keys e.ks [y])):=by
 obtain⟨hme,hxe⟩:=gG he;refine⟨λz w=>?_,λn hn a ha=>?_,λz=>?_⟩
 ·rw[SU he];by_cases hz:z=x
  ·have:rQ L z=e.ks:=by unfold rQ;rw[hz,he]
   rw[az hz,this,Qb,Fc];exact⟨λh=>h.imp id λh=>⟨hz,h⟩,λh=>h.imp id And.right⟩
  ·rw[an hz];exact⟨.inl,λh=>h.elim id λh=>absurd h.1 hz⟩
 ·obtain⟨a0,ha0,rfl⟩:=cv.1 ha;by_cases hk:a0.key=e.key
  ·rw[az hk];have:=Nj e.ks y;have:=hn e hme;show (kE e.ks y).length<=n+1;omega
  ·rw[an hk];have:=hn a0 ha0;omega
 ·rw[EC];refine⟨.inl,λh=>h.elim id λh=>?_⟩;rw[h];exact Wb.2 ⟨e,he⟩
theorem Grow.new {L:List dJ}{x:aC}{s m:Nat}(hx:bO L x=none) (y:aC):bO (L++[dJ.mk x s m []]) x=some (dJ.mk x s m [])/\Grow L x y (qM (L++[dJ.mk x s m []]) x (keys [] [y])):=by
 have he:bO (L++[dJ.mk x s m []]) x=some (dJ.mk x s m []):=by rw[yQ _ _ hx,az rfl]
 have g:=Grow.up he y;refine⟨he,λz w=>?_,λn hn a ha=>?_,λz=>?_⟩
 ·rw[g.mem]
  have:rQ (L++[dJ.mk x s m []]) z=rQ L z:=by
   unfold rQ;rw[yQ _ _ hx];by_cases hz:z=x
   ·rw[az hz,hz,hx]
   ·rw[an hz]
  rw[this]
 ·refine g.len n (λe he=>?_) a ha;rcases cq.1 he with he | he
  ·exact hn e he
  ·rw[cn.1 he];exact ij _
 ·rw[g.key,gp,cq];constructor
  ·rintro ((h | h) | h)
   ·exact .inl h
   ·exact .inr (by simpa using h)
   ·exact .inr h
  ·exact λh=>h.imp .inl id
end
end
section
section
variable {E:Env}{Z:Sg}{K:V->Sg->Prop}
theorem Kp.vG {Z σ':Sg}{m:Nat}{es:List (V × V)}(h:Lb.Kp Z σ' m)(hm:Z[m]?=some (.map es)):Lb.dY Z σ':=Lb.Kp.vG h hm
theorem dY.B0 (Z:Sg) (y:O):Lb.dY Z (Z++[y]):=Lb.dY.app Z [y]
theorem map_lt {Z:Sg}{b:Nat}{o:O}(h:Z[b]?=some o):b<Z.length:=(AI.1 h).1
theorem SD (h:bE E)(h':oF E)(hl:Lb.bY E) {Y:Sg}{gb m0 m1 sa ma b3 b4:Nat}{es0 es1:List (V × V)}{A:List aC}{L3 L4:List dJ} (ga:oH E Y gb m0 m1 sa ma b3 b4 es0 es1 A L3 L4) {x y:aC}{blk:Nat}(hb:Y[blk]?=some (O.cells 147 [.mp b3,.bool x.1,.str x.2,.bool y.1,.str y.2,.mp b4,.bool y.1,.str y.2,.bool x.1,.str x.2] true))(hks:∀e∈L3,e.ks.length<=1000000) (F:FT) (g30:F.get 30=.sl blk 0 2 none) (g32:F.get 32=.int .i64 0) {st:List kH}{Q:Ax.X->Fr->Sg->Prop}
  (hk:∀F' τ' L',(∀k,k∈[0,4,5,30,31,32]->F'.get k=F.get k)->oH E τ' gb m0 m1 sa ma b3 b4 es0 es1 A L' L4->Grow L3 x y L'->Lb.dY Y τ'->M E st .normal ⟨57,F'⟩ τ' Q):Ax.R E (cutAt [1,1,1,2,2,1,1,0,2] (aA Tryz.f72).code) st ⟨57,F⟩ Y Q:=by
 have ia:indexAddr E 148 (.sl blk 0 2 none) (.int .i64 0)=some (.ref blk 0):=by unfold Ax.indexAddr;simp only[h'.K0,h'.yI];rfl
 have ga1:=ga.app (O.cells 147 [.mp b3,.bool x.1,.str x.2,.bool y.1,.str y.2] true);have hnb:(Y++[O.cells 147 [.mp b3,.bool x.1,.str x.2,.bool y.1,.str y.2] true])[Y.length]?=some (O.cells 147 [.mp b3,.bool x.1,.str x.2,.bool y.1,.str y.2] true):=aL;have lk:=zO h' hl ga1.kC x;unfold iD at lk;rcases hq:bO L3 x with _ | e
 ·rw[hq]at lk;have r7:=λ(ρ:Sg) (m:Nat) gm he hbx hln hne F g7 st Q hk=>LR (Y:=ρ) (nb:=Y.length) (mb:=b3) (L:=L3++[dJ.mk x (Y++[O.cells 147 [.mp b3,.bool x.1,.str x.2,.bool y.1,.str y.2] true]).length m []]) (x:=x) (y:=y) (e:=dJ.mk x (Y++[O.cells 147 [.mp b3,.bool x.1,.str x.2,.bool y.1,.str y.2] true]).length m []) h h' hl gm he hbx hln hne F g7 (st:=st) (Q:=Q) hk;have r6:=λF g7 st Q hk=>UA (Y:=Y++[O.cells 147 [.mp b3,.bool x.1,.str x.2,.bool y.1,.str y.2] true]) (nb:=Y.length) (mb:=b3) (L:=L3) (x:=x) (y:=y) h h' hl ga1.kC hq hnb F g7 (st:=st) (Q:=Q) hk;rw[show cutAt [1,1,1,2,2,1,1,0,2] (aA Tryz.f72).code=.seq (cutAt [1,1,1,2,2,1,1,0,2,0] (aA Tryz.f72).code) (.seq (.seq (cutAt [1,1,1,2,2,1,1,0,2,1,0,0] (aA Tryz.f72).code) (.cond (.tmp 41) (cutAt [1,1,1,2,2,1,1,0,2,1,0,1,0] (aA Tryz.f72).code) .skip)) (cutAt [1,1,1,2,2,1,1,0,2,1,1] (aA Tryz.f72).code)) from rfl];rw[show cutAt [1,1,1,2,2,1,1,0,2,1,0,1,0] (aA Tryz.f72).code=.region 6 (opsOf (cutAt [1,1,1,2,2,1,1,0,2,1,0,1,0] (aA Tryz.f72).code)) true from rfl,show cutAt [1,1,1,2,2,1,1,0,2,1,1] (aA Tryz.f72).code=.region 7 (opsOf (cutAt [1,1,1,2,2,1,1,0,2,1,1] (aA Tryz.f72).code)) true from rfl];generalize opsOf (cutAt [1,1,1,2,2,1,1,0,2,1,0,1,0] (aA Tryz.f72).code)=O6 at r6 ⊢;generalize opsOf (cutAt [1,1,1,2,2,1,1,0,2,1,1] (aA Tryz.f72).code)=O7 at r7 ⊢;have e77:mP E 84 true .fP .fP=some true:=by unfold mP;rw[hl.uH]
  simp only[aA,Tryz.f72,KP,Ax.loadAt,Ax.storeAt,↓reduceIte,reduceEqDiff,reduceLT,reduceLeDiff,reduceAdd,reduceCtorEq,h.cE,e77,cutAt,h'.yI,h'.xI,g30,g32,ia,hb,hnb,lk,aL,bR];refine r6 _ ?_ _ _ (λF1 τ1 m hF1 oQ hset hlt=>?_)
  ·simp +decide only[GS]
  have hx1:=ga1.kC.map;have ga2:=ga1.Sq hq oQ hset (Nat.le_of_lt hlt);have hmb:b3<(Y++[O.cells 147 [.mp b3,.bool x.1,.str x.2,.bool y.1,.str y.2] true]).length:=map_lt hx1
  have hnb2:(τ1.set b3 (.map ((L3++[dJ.mk x (Y++[O.cells 147 [.mp b3,.bool x.1,.str x.2,.bool y.1,.str y.2] true]).length m []]).map oU)))[Y.length]?=some (O.cells 147 [.mp b3,.bool x.1,.str x.2,.bool y.1,.str y.2] true):=by
   rw[No]
   ·exact oQ _ _ hnb
   ·intro e;have q:=hx1.symm.trans ((au (λi=>(Y++[O.cells 147 [.mp b3,.bool x.1,.str x.2,.bool y.1,.str y.2] true])[i]?) e).trans hnb);cases q
  rw[PO];refine r7 _ m ga2.kC (Grow.new hq y).1 hnb2 (ij _) (show b3≠m by omega) _ ?_ _ _ (λF2 τ2 hF2 hset2 kp=>?_)
  ·exact (hF1 7 (by simp)).trans (by simp +decide only[GS])
  have gb2:=ga2.app (O.cells 51 [.bool y.1,.str y.2] true);have ga3:=gb2.Py (gG (Grow.new hq y).1).1 hset2 kp;refine hk _ _ _ (λk hk=>?_) ga3 (Grow.new hq y).2 ?_
  ·have h7:k∈[0,4,5,7,30,31,32]:=by
    simp only[IT,cr,fu]at hk ⊢;omega
   refine (hF2 k h7).trans ((hF1 k h7).trans ?_);simp only[IT,cr,fu]at hk;rcases hk with rfl | rfl | rfl | rfl | rfl | rfl <;> simp +decide only[GS]
  ·exact ((((dY.B0 Y _).trans oQ.vG).trans (Lb.dY.Ge (oQ _ _ hx1))).trans (dY.B0 _ _)).trans (Lb.Kp.vG kp (gb2.kC.sets _ (gG (Grow.new hq y).1).1).map)
 ·rw[hq]at lk;have e77:mP E 84 true (.ref e.s 0) .fP=some false:=by unfold mP;rw[hl.uH]
  obtain⟨hme,hxe⟩:=gG hq;obtain⟨-,-,f3⟩:=ga1.facts;have hmb:=f3 e.m (by first | exact .inl (cv.2 ⟨e,hme,rfl⟩) | exact .inr (cv.2 ⟨e,hme,rfl⟩));have r7:=λF g7 st Q hk=>LR (Y:=Y++[O.cells 147 [.mp b3,.bool x.1,.str x.2,.bool y.1,.str y.2] true]) (nb:=Y.length) (mb:=b3) (L:=L3) (x:=x) (y:=y) (e:=e) h h' hl ga1.kC hq hnb (hks e hme) (by first | exact hmb.2.2.2.1 | exact hmb.2.2.2.2) F g7 (st:=st) (Q:=Q) hk;rw[show cutAt [1,1,1,2,2,1,1,0,2] (aA Tryz.f72).code=.seq (cutAt [1,1,1,2,2,1,1,0,2,0] (aA Tryz.f72).code) (.seq (.seq (cutAt [1,1,1,2,2,1,1,0,2,1,0,0] (aA Tryz.f72).code) (.cond (.tmp 41) (cutAt [1,1,1,2,2,1,1,0,2,1,0,1,0] (aA Tryz.f72).code) .skip)) (cutAt [1,1,1,2,2,1,1,0,2,1,1] (aA Tryz.f72).code)) from rfl];rw[show cutAt [1,1,1,2,2,1,1,0,2,1,0,1,0] (aA Tryz.f72).code=.region 6 (opsOf (cutAt [1,1,1,2,2,1,1,0,2,1,0,1,0] (aA Tryz.f72).code)) true from rfl,show cutAt [1,1,1,2,2,1,1,0,2,1,1] (aA Tryz.f72).code=.region 7 (opsOf (cutAt [1,1,1,2,2,1,1,0,2,1,1] (aA Tryz.f72).code)) true from rfl];generalize opsOf (cutAt [1,1,1,2,2,1,1,0,2,1,0,1,0] (aA Tryz.f72).code)=O6 at ⊢;generalize opsOf (cutAt [1,1,1,2,2,1,1,0,2,1,1] (aA Tryz.f72).code)=O7 at r7 ⊢;simp only[aA,Tryz.f72,KP,Ax.loadAt,Ax.storeAt,↓reduceIte,reduceEqDiff,reduceLT,reduceLeDiff,reduceAdd,reduceCtorEq,h.cE,e77,cutAt,h'.yI,h'.xI,g30,g32,ia,hb,hnb,lk,aL,bR];refine r7 _ ?_ _ _ (λF2 τ2 hF2 hset2 kp=>?_)
  ·simp +decide only[GS]
  have gb2:=ga1.app (O.cells 51 [.bool y.1,.str y.2] true);have ga3:=gb2.Py hme hset2 kp;refine hk _ _ _ (λk hk=>?_) ga3 (Grow.up hq y) ?_
  ·have h7:k∈[0,4,5,7,30,31,32]:=by
    simp only[IT,cr,fu]at hk ⊢;omega
   refine (hF2 k h7).trans ?_;simp only[IT,cr,fu]at hk;rcases hk with rfl | rfl | rfl | rfl | rfl | rfl <;> simp +decide only[GS]
  ·exact ((dY.B0 Y _).trans (dY.B0 _ _)).trans (Lb.Kp.vG kp (gb2.kC.sets e hme).map)
theorem SC (h:bE E)(h':oF E)(hl:Lb.bY E) {Y:Sg}{gb m0 m1 sa ma b3 b4:Nat}{es0 es1:List (V × V)}{A:List aC}{L3 L4:List dJ} (ga:oH E Y gb m0 m1 sa ma b3 b4 es0 es1 A L3 L4) {x y:aC}{blk:Nat}(hb:Y[blk]?=some (O.cells 147 [.mp b3,.bool x.1,.str x.2,.bool y.1,.str y.2,.mp b4,.bool y.1,.str y.2,.bool x.1,.str x.2] true))(hks:∀e∈L4,e.ks.length<=1000000) (F:FT) (g30:F.get 30=.sl blk 0 2 none) (g32:F.get 32=.int .i64 1) {st:List kH}{Q:Ax.X->Fr->Sg->Prop}
  (hk:∀F' τ' L',(∀k,k∈[0,4,5,30,31,32]->F'.get k=F.get k)->oH E τ' gb m0 m1 sa ma b3 b4 es0 es1 A L3 L'->Grow L4 y x L'->Lb.dY Y τ'->M E st .normal ⟨57,F'⟩ τ' Q):Ax.R E (cutAt [1,1,1,2,2,1,1,0,2] (aA Tryz.f72).code) st ⟨57,F⟩ Y Q:=by
 have ia:indexAddr E 148 (.sl blk 0 2 none) (.int .i64 1)=some (.ref blk 5):=by unfold Ax.indexAddr;simp only[h'.K0,h'.yI];rfl
 have ga1:=ga.app (O.cells 147 [.mp b4,.bool y.1,.str y.2,.bool x.1,.str x.2] true);have hnb:(Y++[O.cells 147 [.mp b4,.bool y.1,.str y.2,.bool x.1,.str x.2] true])[Y.length]?=some (O.cells 147 [.mp b4,.bool y.1,.str y.2,.bool x.1,.str x.2] true):=aL;have lk:=zO h' hl ga1.jW y;unfold iD at lk;rcases hq:bO L4 y with _ | e
 ·rw[hq]at lk;have r7:=λ(ρ:Sg) (m:Nat) gm he hbx hln hne F g7 st Q hk=>LR (Y:=ρ) (nb:=Y.length) (mb:=b4) (L:=L4++[dJ.mk y (Y++[O.cells 147 [.mp b4,.bool y.1,.str y.2,.bool x.1,.str x.2] true]).length m []]) (x:=y) (y:=x) (e:=dJ.mk y (Y++[O.cells 147 [.mp b4,.bool y.1,.str y.2,.bool x.1,.str x.2] true]).length m []) h h' hl gm he hbx hln hne F g7 (st:=st) (Q:=Q) hk;have r6:=λF g7 st Q hk=>UA (Y:=Y++[O.cells 147 [.mp b4,.bool y.1,.str y.2,.bool x.1,.str x.2] true]) (nb:=Y.length) (mb:=b4) (L:=L4) (x:=y) (y:=x) h h' hl ga1.jW hq hnb F g7 (st:=st) (Q:=Q) hk;rw[show cutAt [1,1,1,2,2,1,1,0,2] (aA Tryz.f72).code=.seq (cutAt [1,1,1,2,2,1,1,0,2,0] (aA Tryz.f72).code) (.seq (.seq (cutAt [1,1,1,2,2,1,1,0,2,1,0,0] (aA Tryz.f72).code) (.cond (.tmp 41) (cutAt [1,1,1,2,2,1,1,0,2,1,0,1,0] (aA Tryz.f72).code) .skip)) (cutAt [1,1,1,2,2,1,1,0,2,1,1] (aA Tryz.f72).code)) from rfl];rw[show cutAt [1,1,1,2,2,1,1,0,2,1,0,1,0] (aA Tryz.f72).code=.region 6 (opsOf (cutAt [1,1,1,2,2,1,1,0,2,1,0,1,0] (aA Tryz.f72).code)) true from rfl,show cutAt [1,1,1,2,2,1,1,0,2,1,1] (aA Tryz.f72).code=.region 7 (opsOf (cutAt [1,1,1,2,2,1,1,0,2,1,1] (aA Tryz.f72).code)) true from rfl];generalize opsOf (cutAt [1,1,1,2,2,1,1,0,2,1,0,1,0] (aA Tryz.f72).code)=O6 at r6 ⊢;generalize opsOf (cutAt [1,1,1,2,2,1,1,0,2,1,1] (aA Tryz.f72).code)=O7 at r7 ⊢;have e77:mP E 84 true .fP .fP=some true:=by unfold mP;rw[hl.uH]
  simp only[aA,Tryz.f72,KP,Ax.loadAt,Ax.storeAt,↓reduceIte,reduceEqDiff,reduceLT,reduceLeDiff,reduceAdd,reduceCtorEq,h.cE,e77,cutAt,h'.yI,h'.xI,g30,g32,ia,hb,hnb,lk,aL,bR];refine r6 _ ?_ _ _ (λF1 τ1 m hF1 oQ hset hlt=>?_)
  ·simp +decide only[GS]
  have hx1:=ga1.jW.map;have ga2:=ga1.RH hq oQ hset (Nat.le_of_lt hlt);have hmb:b4<(Y++[O.cells 147 [.mp b4,.bool y.1,.str y.2,.bool x.1,.str x.2] true]).length:=map_lt hx1
  have hnb2:(τ1.set b4 (.map ((L4++[dJ.mk y (Y++[O.cells 147 [.mp b4,.bool y.1,.str y.2,.bool x.1,.str x.2] true]).length m []]).map oU)))[Y.length]?=some (O.cells 147 [.mp b4,.bool y.1,.str y.2,.bool x.1,.str x.2] true):=by
   rw[No]
   ·exact oQ _ _ hnb
   ·intro e;have q:=hx1.symm.trans ((au (λi=>(Y++[O.cells 147 [.mp b4,.bool y.1,.str y.2,.bool x.1,.str x.2] true])[i]?) e).trans hnb);cases q
  rw[PO];refine r7 _ m ga2.jW (Grow.new hq x).1 hnb2 (ij _) (show b4≠m by omega) _ ?_ _ _ (λF2 τ2 hF2 hset2 kp=>?_)
  ·exact (hF1 7 (by simp)).trans (by simp +decide only[GS])
  have gb2:=ga2.app (O.cells 51 [.bool x.1,.str x.2] true);have ga3:=gb2.Oq (gG (Grow.new hq x).1).1 hset2 kp;refine hk _ _ _ (λk hk=>?_) ga3 (Grow.new hq x).2 ?_
  ·have h7:k∈[0,4,5,7,30,31,32]:=by
    simp only[IT,cr,fu]at hk ⊢;omega
   refine (hF2 k h7).trans ((hF1 k h7).trans ?_);simp only[IT,cr,fu]at hk;rcases hk with rfl | rfl | rfl | rfl | rfl | rfl <;> simp +decide only[GS]
  ·exact ((((dY.B0 Y _).trans oQ.vG).trans (Lb.dY.Ge (oQ _ _ hx1))).trans (dY.B0 _ _)).trans (Lb.Kp.vG kp (gb2.jW.sets _ (gG (Grow.new hq x).1).1).map)
 ·rw[hq]at lk;have e77:mP E 84 true (.ref e.s 0) .fP=some false:=by unfold mP;rw[hl.uH]
  obtain⟨hme,hxe⟩:=gG hq;obtain⟨-,-,f3⟩:=ga1.facts;have hmb:=f3 e.m (by first | exact .inl (cv.2 ⟨e,hme,rfl⟩) | exact .inr (cv.2 ⟨e,hme,rfl⟩));have r7:=λF g7 st Q hk=>LR (Y:=Y++[O.cells 147 [.mp b4,.bool y.1,.str y.2,.bool x.1,.str x.2] true]) (nb:=Y.length) (mb:=b4) (L:=L4) (x:=y) (y:=x) (e:=e) h h' hl ga1.jW hq hnb (hks e hme) (by first | exact hmb.2.2.2.1 | exact hmb.2.2.2.2) F g7 (st:=st) (Q:=Q) hk;rw[show cutAt [1,1,1,2,2,1,1,0,2] (aA Tryz.f72).code=.seq (cutAt [1,1,1,2,2,1,1,0,2,0] (aA Tryz.f72).code) (.seq (.seq (cutAt [1,1,1,2,2,1,1,0,2,1,0,0] (aA Tryz.f72).code) (.cond (.tmp 41) (cutAt [1,1,1,2,2,1,1,0,2,1,0,1,0] (aA Tryz.f72).code) .skip)) (cutAt [1,1,1,2,2,1,1,0,2,1,1] (aA Tryz.f72).code)) from rfl];rw[show cutAt [1,1,1,2,2,1,1,0,2,1,0,1,0] (aA Tryz.f72).code=.region 6 (opsOf (cutAt [1,1,1,2,2,1,1,0,2,1,0,1,0] (aA Tryz.f72).code)) true from rfl,show cutAt [1,1,1,2,2,1,1,0,2,1,1] (aA Tryz.f72).code=.region 7 (opsOf (cutAt [1,1,1,2,2,1,1,0,2,1,1] (aA Tryz.f72).code)) true from rfl];generalize opsOf (cutAt [1,1,1,2,2,1,1,0,2,1,0,1,0] (aA Tryz.f72).code)=O6 at ⊢;generalize opsOf (cutAt [1,1,1,2,2,1,1,0,2,1,1] (aA Tryz.f72).code)=O7 at r7 ⊢;simp only[aA,Tryz.f72,KP,Ax.loadAt,Ax.storeAt,↓reduceIte,reduceEqDiff,reduceLT,reduceLeDiff,reduceAdd,reduceCtorEq,h.cE,e77,cutAt,h'.yI,h'.xI,g30,g32,ia,hb,hnb,lk,aL,bR];refine r7 _ ?_ _ _ (λF2 τ2 hF2 hset2 kp=>?_)
  ·simp +decide only[GS]
  have gb2:=ga1.app (O.cells 51 [.bool x.1,.str x.2] true);have ga3:=gb2.Oq hme hset2 kp;refine hk _ _ _ (λk hk=>?_) ga3 (Grow.up hq x) ?_
  ·have h7:k∈[0,4,5,7,30,31,32]:=by
    simp only[IT,cr,fu]at hk ⊢;omega
   refine (hF2 k h7).trans ?_;simp only[IT,cr,fu]at hk;rcases hk with rfl | rfl | rfl | rfl | rfl | rfl <;> simp +decide only[GS]
  ·exact ((dY.B0 Y _).trans (dY.B0 _ _)).trans (Lb.Kp.vG kp (gb2.jW.sets e hme).map)
end
end
section
section
variable {E:Env}{Z:Sg}{K:V->Sg->Prop}
theorem QV (h:bE E)(h':oF E)(hl:Lb.bY E) {Y:Sg}{gb m0 m1 sa ma b3 b4:Nat}{es0 es1:List (V × V)}{A:List aC}{L3 L4:List dJ} (ga:oH E Y gb m0 m1 sa ma b3 b4 es0 es1 A L3 L4) {x y:aC}(hA:A.length<=1000000)(hk3:∀e∈L3,e.ks.length<=1000000)(hk4:∀e∈L4,e.ks.length<=1000000):aB E 72 [.ref gb 0,.agg [.bool x.1,.str x.2],.agg [.bool y.1,.str y.2]] Y λv τ'=>v=.fM []/\∃L3' L4',oH E τ' gb m0 m1 sa ma b3 b4 es0 es1 (keys A [x,y]) L3' L4'/\Grow L3 x y L3'/\Grow L4 y x L4'/\Lb.dY Y τ':=by
 rw[cN h'.hs72 h'.sp72 h'.fn72 h'.md72,aW (by kernel_rfl)];have rn:=λ{Y} {L3 L4} {blk} A ga hb hks F g30 g32 st Q hk=>SD (Y:=Y) (L3:=L3) (L4:=L4) (A:=A) (x:=x) (y:=y) (blk:=blk) (gb:=gb) (m0:=m0) (m1:=m1) (sa:=sa) (ma:=ma) (b3:=b3) (b4:=b4) (es0:=es0) (es1:=es1) h h' hl ga hb hks F g30 g32 (st:=st) (Q:=Q) hk;have ru:=λ{Y} {L3 L4} {blk} A ga hb hks F g30 g32 st Q hk=>SC (Y:=Y) (L3:=L3) (L4:=L4) (A:=A) (x:=x) (y:=y) (blk:=blk) (gb:=gb) (m0:=m0) (m1:=m1) (sa:=sa) (ma:=ma) (b3:=b3) (b4:=b4) (es0:=es0) (es1:=es1) h h' hl ga hb hks F g30 g32 (st:=st) (Q:=Q) hk;have r1:=λ{Y} {n0 n1} ga hx hy F g0 g4 g5 st Q hk=>Z7 (Y:=Y) (n0:=n0) (n1:=n1) (A:=A) (L3:=L3) (L4:=L4) (x:=x) (y:=y) (gb:=gb) (m0:=m0) (m1:=m1) (sa:=sa) (ma:=ma) (b3:=b3) (b4:=b4) (es0:=es0) (es1:=es1) h h' hl ga hx hy hA F g0 g4 g5 (st:=st) (Q:=Q) hk;have d2:=h'.ab7;rw[show (aA Tryz.f72).code=.seq (cutAt [0] (aA Tryz.f72).code) (.seq (cutAt [1,0] (aA Tryz.f72).code) (.seq (cutAt [1,1,0] (aA Tryz.f72).code) (.block 0 (.loop (.seq (cutAt [1,1,1,2,2,0] (aA Tryz.f72).code) (.seq (cutAt [1,1,1,2,2,1,0] (aA Tryz.f72).code) (.seq (.block 1 (cutAt [1,1,1,2,2,1,1,0,2] (aA Tryz.f72).code)) (cutAt [1,1,1,2,2,1,1,1] (aA Tryz.f72).code)))))))) from rfl];rw[show cutAt [1,0] (aA Tryz.f72).code=.region 1 (opsOf (cutAt [1,0] (aA Tryz.f72).code)) true from rfl];generalize opsOf (cutAt [1,0] (aA Tryz.f72).code)=O1 at r1 ⊢;generalize cutAt [1,1,1,2,2,1,1,0,2] (aA Tryz.f72).code=B at rn ru ⊢;generalize hD2:cutAt [1,1,0] (aA Tryz.f72).code=D2 at d2 ⊢;simp only[aA,Tryz.f72,KP,↓reduceIte,reduceEqDiff,reduceLT,reduceAdd,h.cE,cutAt];have gx:oH E (Y++[O.cells 51 [.bool x.1,.str x.2] true]++[O.cells 51 [.bool y.1,.str y.2] true]) gb m0 m1 sa ma b3 b4 es0 es1 A L3 L4:=(ga.app _).app _;refine r1 gx (aJ aL) aL _ ?_ ?_ ?_ _ _ (λF1 τ1 hF1 ga1 hx1 hy1 kc1=>?_)
 ·simp +decide only[GS]
 ·simp +decide only[GS]
 ·simp +decide only[GS]
 have q0:F1.get 0=.ref gb 0:=(hF1 0 (by simp)).trans (by simp +decide only[GS]);have q4:F1.get 4=.ref Y.length 0:=(hF1 4 (by simp)).trans (by simp +decide only[GS]);have q5:F1.get 5=.ref (Y++[O.cells 51 [.bool x.1,.str x.2] true]).length 0:=(hF1 5 (by simp)).trans (by simp +decide only[GS]);have hg:=ga1.g;have kc0:Lb.dY Y τ1:=(((dY.B0 Y _).trans (dY.B0 _ _)).trans kc1);generalize (Y++[O.cells 51 [.bool x.1,.str x.2] true]).length=n1 at *;generalize Y.length=n0 at *;rw[PO];subst hD2;simp only[aA,Tryz.f72,cutAt,aq]at d2;have lz:∀(Z:Sg) (b:Nat),lenOf E Z 148 (.sl b 0 2 none)=some 2:=λZ b=>by unfold lenOf;rw[h'.K0]
 have d0:decide ((0:Int)<((2:Nat):Int))=true:=rfl;have d1:decide ((1:Int)<((2:Nat):Int))=true:=rfl;have d2':decide ((2:Int)<((2:Nat):Int))=false:=rfl;have w1:wr .i64 1=1:=rfl;have w2:wr .i64 2=2:=rfl;simp only[aA,Tryz.f72,KP,Ax.loadAt,↓reduceIte,reduceEqDiff,reduceLT,reduceLeDiff,reduceAdd,reduceMul,reduceCtorEq,h.cE,lz,cutAt,aT d2,bK,h'.xI,h'.yI,h'.K0,h'.pI,hg,hx1,hy1,q0,q4,q5,Ax.fill,Ax.placeOf,gX,iz];have ga2:=ga1.app (O.cells 147 [.mp b3,.bool x.1,.str x.2,.bool y.1,.str y.2,.mp b4,.bool y.1,.str y.2,.bool x.1,.str x.2] true);have hb2:(τ1++[O.cells 147 [.mp b3,.bool x.1,.str x.2,.bool y.1,.str y.2,.mp b4,.bool y.1,.str y.2,.bool x.1,.str x.2] true])[τ1.length]?=some (O.cells 147 [.mp b3,.bool x.1,.str x.2,.bool y.1,.str y.2,.mp b4,.bool y.1,.str y.2,.bool x.1,.str x.2] true):=aL;have kc2:Lb.dY Y (τ1++[O.cells 147 [.mp b3,.bool x.1,.str x.2,.bool y.1,.str y.2,.mp b4,.bool y.1,.str y.2,.bool x.1,.str x.2] true]):=kc0.trans (dY.B0 _ _);generalize τ1++[O.cells 147 [.mp b3,.bool x.1,.str x.2,.bool y.1,.str y.2,.mp b4,.bool y.1,.str y.2,.bool x.1,.str x.2] true]=τ2 at *;generalize τ1.length=blk at *;rw[aG];simp only[KP,↓reduceIte,reduceEqDiff,reduceLT,d0];refine rn _ ga2 hb2 hk3 _ ?_ ?_ _ _ (λF3 τ3 L3' hF3 ga3 gr3 kc3=>?_)
 ·simp +decide only[GS]
 ·simp +decide only[GS]
 have q30:F3.get 30=.sl blk 0 2 none:=(hF3 30 (by simp)).trans (by simp +decide only[GS]);have q31:F3.get 31=.int .i64 ((2:Nat):Int):=(hF3 31 (by simp)).trans (by simp +decide only[GS]);have q32:F3.get 32=.int .i64 0:=(hF3 32 (by simp)).trans (by simp +decide only[GS]);simp only[KP,↓reduceIte,reduceLT,Int.reduceAdd,w1,q32];rw[aG];simp only[KP,↓reduceIte,reduceEqDiff,reduceLT,d1,q31];refine ru _ ga3 (kc3 _ _ _ _ hb2) hk4 _ ?_ ?_ _ _ (λF4 τ4 L4' hF4 ga4 gr4 kc4=>?_)
 ·simp +decide only[GS,q30]
 ·simp +decide only[GS]
 have q31':F4.get 31=.int .i64 ((2:Nat):Int):=(hF4 31 (by simp)).trans (by simp +decide only[GS,q31]);have q32':F4.get 32=.int .i64 1:=(hF4 32 (by simp)).trans (by simp +decide only[GS]);simp only[KP,↓reduceIte,reduceLT,Int.reduceAdd,w2,q32'];rw[aG];simp only[KP,↓reduceIte,reduceEqDiff,reduceLT,d2',q31'];exact⟨_,_,ga4,gr3,gr4,(kc2.trans kc3).trans kc4⟩
end
end
section
section
variable {E:Env}{Z:Sg}{K:V->Sg->Prop}
def eC (r:aD):List (aC × aC):=r.ins.map (λf=>(((true,r.name):aC),((false,f):aC)))++r.outs.map (λf=>(((false,f):aC),((true,r.name):aC)))
def gW (r:aD):aC:=(true,r.name)
structure wU (X:List aC) (P:List (aC × aC)) (A:List aC) (L3 L4:List dJ):Prop where
 all:∀x,x∈A ↔ x∈X\/∃p∈P,x=p.1\/x=p.2
 need:∀z w,w∈rQ L3 z ↔ (z,w)∈P
 user:∀z w,w∈rQ L4 z ↔ (w,z)∈P
 Nh:A.length<=X.length+2*P.length
 P7:∀e∈L3,e.ks.length<=P.length
 P6:∀e∈L4,e.ks.length<=P.length
theorem wU.nil:wU [] [] [] [] []:=⟨λx=>by simp,λz w=>by simp[rQ,bO],λz w=>by simp[rQ,bO],OF _,(λe he=>by cases he),(λe he=>by cases he)⟩
theorem wU.link {X:List aC}{P:List (aC × aC)}{A:List aC}{L3 L4 L3' L4':List dJ}{x y:aC}(h:wU X P A L3 L4) (g3:Grow L3 x y L3') (g4:Grow L4 y x L4'):wU X (P++[(x,y)]) (keys A [x,y]) L3' L4':=by
 refine⟨λz=>?_,λz w=>?_,λz w=>?_,?_,λe he=>?_,λe he=>?_⟩
 ·rw[mem_keys,h.all];constructor
  ·rintro ((h1 | ⟨p,hp,h1⟩) | h1)
   ·exact .inl h1
   ·exact .inr ⟨p,List.mem_append_left _ hp,h1⟩
   ·refine .inr ⟨(x,y),by simp,by simpa using h1⟩
  ·rintro (h1 | ⟨p,hp,h1⟩)
   ·exact .inl (.inl h1)
   ·rcases cq.1 hp with hp | hp
    ·exact .inl (.inr ⟨p,hp,h1⟩)
    ·rw[cn.1 hp]at h1;exact .inr (by simpa using h1)
 ·rw[g3.mem,h.need,cq,cn];exact or_congr qj ⟨λq=>by rw[q.1,q.2],λq=>⟨au Prod.fst q,au Prod.snd q⟩⟩
 ·rw[g4.mem,h.user,cq,cn];exact or_congr qj ⟨λq=>by rw[q.1,q.2],λq=>⟨au Prod.snd q,au Prod.fst q⟩⟩
 ·have:=n_ (xs:=[x,y]) (l:=A);have:=h.Nh;simp only[By,af,b9]at *;omega
 ·rw[By];exact g3.len _ h.P7 e he
 ·rw[By];exact g4.len _ h.P6 e he
theorem wU.rule {X:List aC}{P:List (aC × aC)}{A:List aC}{L3 L4:List dJ} (x:aC)(h:wU X P A L3 L4):wU (X++[x]) P (keys A [x]) L3 L4:=by
 refine⟨λz=>?_,h.need,h.user,?_,h.P7,h.P6⟩
 ·rw[mem_keys,h.all,cq];constructor
  ·rintro ((h1 | h1) | h1)
   ·exact .inl (.inl h1)
   ·exact .inr h1
   ·exact .inl (.inr h1)
  ·rintro ((h1 | h1) | h1)
   ·exact .inl (.inl h1)
   ·exact .inr h1
   ·exact .inl (.inr h1)
 ·have:=n_ (xs:=[x]) (l:=A);have:=h.Nh;simp only[By,af,b9]at *;omega
theorem M5 (r:aD)(hs:Small r):(eC r).length<=16:=by
 unfold eC;rw[By,bj,bj];have:=hs.ins;have:=hs.outs;omega
theorem qB:∀(rs:List aD),(∀r∈rs,Small r)->(rs.flatMap eC).length<=16*rs.length
 | [],_=>OF _
 |r::rs,h=>by
  rw[j6,By,af];have:=M5 r (h r (IN ..));have:=qB rs λq hq=>h q (ae _ hq);omega
def RM (es:List (V × V)) (rs:List aD):Prop:=eJ (λe r=>e.1=V.str r.name/\Ur e.2 r) es rs
theorem Ur.ok {v:V}{r:aD}(h:Ur v r):fB v=true:=by
 obtain⟨a,b,c,d,rfl,h1,h2,h3,h4⟩:=h;simp only[fB,j9,l5,aP h1.is.bD,aP h2.is.bD,aP h3.is.bD,aP h4.is.bD,mh];rfl
theorem MG (h:bE E)(h':oF E) {Y:Sg}{b:Nat}{es:List (V × V)}{rs:List aD}{r:aD}{v:V}(hb:Y[b]?=some (.map es))(ha:RM es rs)(hn:∀q∈rs,q.name≠r.name)(hv:Ur v r) :
  mapUpdate E Y 96 (.mp b) (.str r.name) v=some (Y.set b (.map (es++[(.str r.name,v)])))/\RM (es++[(.str r.name,v)]) (rs++[r]):=by
 refine⟨?_,ha.append (.one ⟨rfl,hv⟩)⟩;have hk:eF E 9 (.str r.name)=true:=by unfold eF;rw[h.dG]
 have hp:=C3 h (k:=r.name) (v:=v) (es:=es) λe he=>by
  obtain⟨q,hq,h1,-⟩:=ha.mem he;exact⟨q.name,h1,hn q hq⟩
 unfold Ax.mapUpdate;simp only[h'.U4,hk,hv.ok,hb,hp,dj,je,ah,ay,cg]
theorem E5 {eq:V->V->Option Bool}{k v:V}:∀{es es':List (V × V)},kN eq k v es=some es'->∀e∈es',e∈es\/e=(k,v)
 | [],es',h,e,he=>by
  cases h;exact .inr (cn.1 he)
 |(k0,v0)::r,es',h,e,he=>by
  unfold kN at h;cases hq:eq k k0 with
  |none=>rw[hq]at h;cases h
  |some b=>
   rw[hq]at h;cases b with
   |true=>
    cases h;rcases IT.1 he with h1 | h1
    ·exact .inr h1
    ·exact .inl (ae _ h1)
   |false=>
    dsimp only at h;cases hr:kN eq k v r with
    |none=>rw[hr]at h;cases h
    |some r'=>
     rw[hr]at h;cases h;rcases IT.1 he with h1 | h1
     ·exact .inl (by rw[h1];exact IN ..)
     ·exact (E5 hr e h1).imp (ae _) id
def Eu (es:List (V × V)):Prop:=∀e∈es,∃n,e.2=V.str n
theorem RJ (h:bE E) {Z:Sg}{b:Nat}{es:List (V × V)}{get:bC->Option V}(hb:Z[b]?=some (.map es))(hs:SM E es get)(hv:Eu es) (k n:bC):∃es',mapUpdate E Z 97 (.mp b) (.str k) (.str n)=some (Z.set b (.map es'))/\SM E es' (λq=>if q=k then some (.str n) else get q)/\Eu es':=by
 obtain⟨es',h1,h2⟩:=Gc h (v:=.str n) k rfl hs;have hk:eF E 9 (.str k)=true:=by unfold eF;rw[h.dG]
 refine⟨es',?_,h2,λe he=>?_⟩
 ·unfold Ax.mapUpdate;simp only[h.Hl,hk,hb,h1,fB,V.aY,dj,je,ah,ay,cg]
 ·rcases E5 h1 e he with h3 | h3
  ·exact hv e h3
  ·exact⟨n,by rw[h3]⟩
theorem GR (h:bE E)(h':oF E) {s:bC}:aB E 71 [.str s] Z K=K (.agg [.bool true,.str s]) Z:=by
 refine aB.of ?_;rw[aI h'.hs71 h'.sp71 h'.fn71 h'.md71 (args':=[.str s]) (by simp only[aX,dK]),aW (by kernel_rfl)];simp only[aA,Tryz.f71,KP,Ax.loadAt,Ax.storeAt,↓reduceIte,reduceEqDiff,reduceLT,reduceAdd,reduceCtorEq,h.Ee,h.dG,h.cE,Ax.fill,Ax.placeOf];exact rfl
theorem S4 (h:bE E)(h':oF E) {s:bC}:KC E 71 [.str s] Z (.agg [.bool true,.str s]) Z:=dD λ_=>GR h h'
theorem T2 (h:bE E)(h':oF E) {s:bC}:aB E 73 [.str s] Z K=K (.agg [.bool false,.str s]) Z:=by
 refine aB.of ?_;rw[aI h'.hs73 h'.sp73 h'.fn73 h'.md73 (args':=[.str s]) (by simp only[aX,dK]),aW (by kernel_rfl)];simp only[aA,Tryz.f73,KP,Ax.loadAt,Ax.storeAt,↓reduceIte,reduceEqDiff,reduceLT,reduceAdd,reduceCtorEq,h.Ee,h.dG,h.cE,Ax.fill,Ax.placeOf];exact rfl
theorem L2 (h:bE E)(h':oF E) {s:bC}:KC E 73 [.str s] Z (.agg [.bool false,.str s]) Z:=dD λ_=>T2 h h'
end
end
section
section
variable {E:Env}{Z:Sg}{K:V->Sg->Prop}
theorem Zg (h:bE E)(h':oF E)(hl:Lb.bY E) {Y:Sg}{gb m0 m1 sa ma b3 b4:Nat}{es0 es1:List (V × V)}{A:List aC}{L3 L4:List dJ} (ga:oH E Y gb m0 m1 sa ma b3 b4 es0 es1 A L3 L4) {r:aD}{p1 p2 p3 p4:V}{y:Nat}(hy:Y[y]?=some (O.cells 46 [.str r.name,p1,p2,p3,p4] true))(hA:A.length<=1000000) (F:FT) (g5:F.get 5=.ref gb 0) (g7:F.get 7=.ref y 0) {st:List kH}{Q:Ax.X->Fr->Sg->Prop}
  (hk:∀F' τ',(∀k,k∈[0,5,7,26,27,28]->F'.get k=F.get k)->oH E τ' gb m0 m1 sa ma b3 b4 es0 es1 (keys A [gW r]) L3 L4->Lb.dY Y τ'->M E st .normal ⟨88,F'⟩ τ' Q):Ax.R E (.region 9 (opsOf (cutAt [1,1,1,0,1,2,2,1,1,0,2,1,1,0] (aA Tryz.f13).code)) true) st ⟨88,F⟩ Y Q:=by
 have ga1:=ga.app (O.cells 51 [.bool true,.str r.name] true);have hsv:Lb.SV (Y++[O.cells 51 [.bool true,.str r.name] true]) (.sl Y.length 0 1 none) [gW r]:=.inr (.inr ⟨Y.length,_,true,rfl,aL,rfl⟩);obtain⟨n1,v1,τ2,⟨hr,hset,hkp⟩,c1⟩:=aB.up (Lb.Rb hl ga1.all hsv (show 1<=10000000000 by omega) (by omega));obtain⟨n2,v2,ρ2,⟨e2,e2'⟩,c2⟩:=aB.up (show aB E 71 [.str r.name] Y λv σ'=>v=.agg [.bool true,.str r.name]/\σ'=Y by rw[GR h h'];exact⟨rfl,rfl⟩);obtain⟨n3,v3,ρ3,⟨e3,e3'⟩,c3⟩:=aB.up (show aB E 71 [.str r.name] (Y++[O.cells 51 [.bool true,.str r.name] true]) λv σ'=>v=.agg [.bool true,.str r.name]/\σ'=Y++[O.cells 51 [.bool true,.str r.name] true] by rw[GR h h'];exact⟨rfl,rfl⟩);rw[e2,e2']at c2;rw[e3,e3']at c3;have c1:=c1 (n1+n2+n3) (by omega);have c2:=c2 (n1+n2+n3) (by omega);have c3:=c3 (n1+n2+n3) (by omega);generalize n1+n2+n3=n at c1 c2 c3;have ga2:=ga1.more hset hkp;have hma:=ga1.all.map
 have ne:∀{k:Nat}{t:Nat}{cs:List V}{ex:Bool},(Y++[O.cells 51 [.bool true,.str r.name] true])[k]?=some (.cells t cs ex)->k≠ma:=λhk e=>by
  rw[e,hma]at hk;cases hk
 have g:=ga.g;have g1:=ga1.g;have vr:tX 12 (.ref sa 0) (.ref sa 0)=true:=by unfold tX;simp
 have key:∃F',cO E (ev E n) (opsOf (cutAt [1,1,1,0,1,2,2,1,1,0,2,1,1,0] (aA Tryz.f13).code)) ⟨88,F⟩ Y=some (⟨88,F'⟩,τ2)/\(∀k,k∈[0,5,7,26,27,28]->F'.get k=F.get k):=by
  unfold cO;rw[h'.XB,h'.Zd];simp only[aA,Tryz.f13,KP,Ax.loadAt,↓reduceIte,reduceEqDiff,reduceLT,reduceLeDiff,reduceAdd,reduceMul,reduceCtorEq,h.dG,h.iI,h.bM,h.cE,opsOf,cutAt,Fz.lits,iL,bL,cA,kY,Ax.comp,Ax.last,iN,Ax.again,Ax.fill,gX,iz,hl.uH,h'.pI,g5,g7,hy,g,g1,c1,c2,vr];refine⟨_,rfl,λk hk=>?_⟩;simp only[IT,cr,fu]at hk;rcases hk with rfl | rfl | rfl | rfl | rfl | rfl <;> simp +decide only[GS]
 obtain⟨F',hD,hF⟩:=key;exact Eq.mpr (i_ hD) (hk F' τ2 hF ga2 ((dY.B0 Y _).trans (Lb.Kp.vG hkp hma)))
end
end
section
section
variable {E:Env}{Z:Sg}{K:V->Sg->Prop}
theorem JA {r:aD}{j:Nat}{s:bC}(hj:r.ins[j]?=some s):(r.ins.take (j+1)).map (λf=>(((true,r.name):aC),((false,f):aC)))=(r.ins.take j).map (λf=>(((true,r.name):aC),((false,f):aC)))++[(((true,r.name):aC),((false,s):aC))]:=by
 rw[ek,hj,gp];rfl
theorem Hs {r:aD}{j:Nat}{s:bC}(hj:r.outs[j]?=some s):(r.outs.take (j+1)).map (λf=>(((false,f):aC),((true,r.name):aC)))=(r.outs.take j).map (λf=>(((false,f):aC),((true,r.name):aC)))++[(((false,s):aC),((true,r.name):aC))]:=by
 rw[ek,hj,gp];rfl
theorem Pw (h:bE E)(h':oF E)(hl:Lb.bY E) {Y:Sg}{gb m0 m1 sa ma b3 b4:Nat}{es0 es1:List (V × V)}{A:List aC}{L3 L4:List dJ} (ga:oH E Y gb m0 m1 sa ma b3 b4 es0 es1 A L3 L4) {X:List aC}{P:List (aC × aC)} (li:wU X P A L3 L4)(hX:X.length<=1000)(hP:P.length<=100000) {a c27:V}{i:Nat}{r:aD}{g:Bool}{p1 p2 p3 p4:V} (e1:indexAddr E 22 a (.int .i64 (i:Int))=some (.cZ g [.str r.name,p1,p2,p3,p4])) (i1:IS aO p1 r.ins) (i2:IS aO p2 r.outs) (i3:IS aO p3 r.after) (i4:IS eZ p4 r.steps)(hs:Small r) {rs:List aD}(ha:RM es0 rs)(hn:∀q∈rs,q.name≠r.name) {get:bC->Option V}{Pm:bC->bC->Prop}(hsm:SM E es1 get)(hsv:Eu es1)(hmk:MK get Pm)
  (F:FT) (g0:F.get 0=a) (g5:F.get 5=.ref gb 0) (g26:F.get 26=a) (g27:F.get 27=c27) (g28:F.get 28=.int .i64 (i:Int)) {st:List kH}{Q:Ax.X->Fr->Sg->Prop}
  (hk:∀F' τ' es0' es1' get' A' L3' L4',F'.get 0=a->F'.get 5=.ref gb 0->F'.get 26=a->F'.get 27=c27->F'.get 28=.int .i64 (i:Int)->oH E τ' gb m0 m1 sa ma b3 b4 es0' es1' A' L3' L4'->wU (X++[gW r]) (P++eC r) A' L3' L4'->RM es0' (rs++[r])->SM E es1' get'->Eu es1'->MK get' (λk n=>Pm k n\/(k∈r.outs/\n=r.name))->M E st .normal ⟨88,F'⟩ τ' Q):Ax.R E (cutAt [1,1,1,0,1,2,2,1,1,0,2] (aA Tryz.f13).code) st ⟨88,F⟩ Y Q:=by
 have o1:=aP i1.bD;have o2:=aP i2.bD;have o3:=aP i3.bD;have o4:=aP i4.bD;have a1:=hs.ins;have a2:=hs.outs;have l1:=bP h i1;have l2:=bP h i2;have d8:=h'.acn;simp only[aA,Tryz.f13,cutAt,aq]at d8;have d18:=h'.WO;simp only[aA,Tryz.f13,cutAt,aq]at d18;have d19:=h'.WN;simp only[aA,Tryz.f13,cutAt,aq]at d19;have r9:=λ{Y} {es0} {y} ga hy hA F g5 g7 st Q hk=>Zg (Y:=Y) (y:=y) (r:=r) (p1:=p1) (p2:=p2) (p3:=p3) (p4:=p4) (A:=A) (L3:=L3) (L4:=L4) (gb:=gb) (m0:=m0) (m1:=m1) (sa:=sa) (ma:=ma) (b3:=b3) (b4:=b4) (es0:=es0) (es1:=es1) h h' hl ga hy hA F g5 g7 (st:=st) (Q:=Q) hk;rw[show cutAt [1,1,1,0,1,2,2,1,1,0,2] (aA Tryz.f13).code=.seq (cutAt [1,1,1,0,1,2,2,1,1,0,2,0] (aA Tryz.f13).code) (.seq (cutAt [1,1,1,0,1,2,2,1,1,0,2,1,0] (aA Tryz.f13).code) (.seq (.region 9 (opsOf (cutAt [1,1,1,0,1,2,2,1,1,0,2,1,1,0] (aA Tryz.f13).code)) true) (cutAt [1,1,1,0,1,2,2,1,1,0,2,1,1,1] (aA Tryz.f13).code))) from rfl];generalize opsOf (cutAt [1,1,1,0,1,2,2,1,1,0,2,1,1,0] (aA Tryz.f13).code)=O9 at r9 ⊢;generalize hREST:cutAt [1,1,1,0,1,2,2,1,1,0,2,1,1,1] (aA Tryz.f13).code=REST;have ga1:=ga.app (O.cells 46 [.str r.name,p1,p2,p3,p4] true);have hy1:(Y++[O.cells 46 [.str r.name,p1,p2,p3,p4] true])[Y.length]?=some (O.cells 46 [.str r.name,p1,p2,p3,p4] true):=aL;have gg1:=ga1.g;simp only[aA,Tryz.f13,KP,Ax.loadAt,Ax.storeAt,↓reduceIte,reduceEqDiff,reduceLT,reduceAdd,reduceCtorEq,h.dG,h.bM,cutAt,aT d8,bK,h'.pI,h'.U4,g5,g26,g28,e1,o1,o2,o3,o4,gg1,hy1,aL,bR];generalize Y++[O.cells 46 [.str r.name,p1,p2,p3,p4] true]=τ1 at *;generalize Y.length=y at *;refine aN (QY h h' (v:=.agg [.str r.name,p1,p2,p3,p4]) ⟨p1,p2,p3,p4,rfl,i1,i2,i3,i4⟩ hs) ?_;rintro v σ' ⟨rfl,hv⟩;obtain⟨hu,hrm⟩:=MG h h' ga1.rules ha hn hv;have ga2:=ga1.rule (es0++[(.str r.name,v)]);have hy2:(σ'.set m0 (.map (es0++[(.str r.name,v)])))[y]?=some (O.cells 46 [.str r.name,p1,p2,p3,p4] true):=Lb.dY.Ge ga1.rules _ _ _ _ hy1;simp only[KP,↓reduceIte,reduceEqDiff,reduceLT,hu];generalize σ'.set m0 (.map (es0++[(.str r.name,v)]))=τ2 at *;refine r9 ga2 hy2 (by have:=li.Nh;omega) _ ?_ ?_ _ _ (λF3 τ3 hF3 ga3 kc3=>?_)
 ·simp +decide only[GS,g5]
 ·simp +decide only[GS]
 have li3:=li.rule (gW r);have hy3:=kc3 _ _ _ _ hy2;have q0:F3.get 0=a:=(hF3 0 (by simp)).trans (by simp +decide only[GS,g0]);have q5:F3.get 5=.ref gb 0:=(hF3 5 (by simp)).trans (by simp +decide only[GS,g5]);have Jl:F3.get 26=a:=(hF3 26 (by simp)).trans (by simp +decide only[GS,g26]);have YX:F3.get 27=c27:=(hF3 27 (by simp)).trans (by simp +decide only[GS,g27]);have YW:F3.get 28=.int .i64 (i:Int):=(hF3 28 (by simp)).trans (by simp +decide only[GS,g28]);have q7:F3.get 7=.ref y 0:=(hF3 7 (by simp)).trans (by simp +decide only[GS]);have hX3:(X++[gW r]).length<=1001:=by rw[By];simp only[af,b9];omega
 subst hREST;generalize X++[gW r]=X3 at *;generalize keys A [gW r]=A3 at *;have kr:=λ(Y:Sg)=>S4 (Z:=Y) h h' (s:=r.name);rw[PO];simp only[aA,Tryz.f13,KP,Ax.loadAt,↓reduceIte,reduceLT,reduceCtorEq,h.a_,h.bM,cutAt,q7,hy3,l1];refine aV (λj F Y=>F.get 0=a/\F.get 5=.ref gb 0/\F.get 26=a/\F.get 27=c27/\F.get 28=.int .i64 (i:Int)/\F.get 7=.ref y 0/\F.get 50=p1/\F.get 51=.int .i64 (r.ins.length:Int)/\F.get 52=.int .i64 (j:Int)/\Y[y]?=some (O.cells 46 [.str r.name,p1,p2,p3,p4] true)/\∃A L3 L4,oH E Y gb m0 m1 sa ma b3 b4 (es0++[(.str r.name,v)]) es1 A L3 L4/\wU X3 (P++(r.ins.take j).map (λf=>(((true,r.name):aC),((false,f):aC)))) A L3 L4) r.ins.length ?_ ?_ r.ins.length 0 _ _ (by omega) (BF (by simp +decide only[GS,q0,q5,Jl,YX,YW,q7,aj]) ⟨hy3,A3,L3,L4,ga3,by rw[ki,map_nil,ig];exact li3⟩)
 ·rintro j F Y hj ⟨g0,g5,g26,g27,g28,g7,g50,g51,g52,hy,A,L3,L4,ga,li⟩ next
  obtain⟨s,hsj⟩:∃y,r.ins[j]?=some y:=⟨_,AT hj⟩;obtain⟨g',e2⟩:=gP h i1 hsj;have hlt:=dP hj;have hadd:=bW j (by omega);have hPl:(P++(r.ins.take j).map (λf=>(((true,r.name):aC),((false,f):aC)))).length<=100010:=by rw[By,bj,bw];omega
  have kf:=λ(Y:Sg)=>L2 (Z:=Y) h h' (s:=s);rw[aG];simp only[KP,Ax.loadAt,↓reduceIte,reduceEqDiff,reduceLT,reduceCtorEq,h.dG,h.bM,g5,g7,g50,g51,g52,hlt,e2,hy,kr,kf];refine aN (QV h h' hl ga (x:=(true,r.name)) (y:=(false,s)) (by have:=li.Nh;omega) (λe he=>by have:=li.P7 e he;omega) (λe he=>by have:=li.P6 e he;omega)) ?_;rintro v2 τ' ⟨rfl,L3',L4',ga',gr3,gr4,kc⟩;simp only[KP,↓reduceIte,reduceEqDiff,reduceLT,g52,hadd];refine next _ _ (BF (by simp +decide only[GS,g0,g5,g26,g27,g28,g7,g50,g51,aj]) ⟨kc _ _ _ _ hy,_,L3',L4',ga',?_⟩)
  rw[JA hsj,<- cw];exact li.link gr3 gr4
 rintro F Y ⟨g0,g5,g26,g27,g28,g7,g50,g51,g52,hy,A,L3,L4,ga,li⟩;rw[ak (OF _)]at li;have hPl:(P++r.ins.map (λf=>(((true,r.name):aC),((false,f):aC)))).length<=100010:=by rw[By,bj];omega
 rw[aG];have hlt:=dZ (bl r.ins.length);simp only[KP,Ax.loadAt,↓reduceIte,reduceEqDiff,reduceLT,reduceCtorEq,h.a_,h.bM,g51,g52,hlt,g7,hy,l2];generalize hP2:P++r.ins.map (λf=>(((true,r.name):aC),((false,f):aC)))=P2 at *;refine aV (λj F Y=>F.get 0=a/\F.get 5=.ref gb 0/\F.get 26=a/\F.get 27=c27/\F.get 28=.int .i64 (i:Int)/\F.get 7=.ref y 0/\F.get 65=p2/\F.get 66=.int .i64 (r.outs.length:Int)/\F.get 67=.int .i64 (j:Int)/\Y[y]?=some (O.cells 46 [.str r.name,p1,p2,p3,p4] true)/\∃es1 get A L3 L4,oH E Y gb m0 m1 sa ma b3 b4 (es0++[(.str r.name,v)]) es1 A L3 L4/\wU X3 (P2++(r.outs.take j).map (λf=>(((false,f):aC),((true,r.name):aC)))) A L3 L4/\SM E es1 get/\Eu es1/\MK get (λk n=>Pm k n\/(k∈r.outs.take j/\n=r.name))) r.outs.length ?_ ?_ r.outs.length 0 _ _ (by omega) (BF (by simp +decide only[GS,g0,g5,g26,g27,g28,g7,aj]) ⟨hy,es1,get,A,L3,L4,ga,by rw[ki,map_nil,ig];exact li,hsm,hsv,hmk.congr λk n=>by simp⟩)
 ·rintro j F Y hj ⟨g0,g5,g26,g27,g28,g7,g65,g66,g67,hy,es1,get,A,L3,L4,ga,li,hsm,hsv,hmk⟩ next
  obtain⟨s,hsj⟩:∃y,r.outs[j]?=some y:=⟨_,AT hj⟩;obtain⟨g',e2⟩:=gP h i2 hsj;have hlt:=dP hj;have hadd:=bW j (by omega);have hPl2:(P2++(r.outs.take j).map (λf=>(((false,f):aC),((true,r.name):aC)))).length<=100020:=by rw[By,bj,bw];omega
  have kf:=λ(Y:Sg)=>L2 (Z:=Y) h h' (s:=s);rw[aG];simp only[KP,Ax.loadAt,↓reduceIte,reduceEqDiff,reduceLT,reduceCtorEq,h.dG,h.bM,aT d18,bK,g5,g7,g65,g66,g67,hlt,e2,hy,kr,kf];refine aN (QV h h' hl ga (x:=(false,s)) (y:=(true,r.name)) (by have:=li.Nh;omega) (λe he=>by have:=li.P7 e he;omega) (λe he=>by have:=li.P6 e he;omega)) ?_;rintro v2 τ' ⟨rfl,L3',L4',ga',gr3,gr4,kc⟩;have hy':=kc _ _ _ _ hy;have hg':=ga'.g;obtain⟨es1',hu,hsm',hsv'⟩:=RJ h ga'.jP hsm hsv s r.name;have ga2:=ga'.LN es1';simp only[KP,Ax.loadAt,↓reduceIte,reduceEqDiff,reduceLT,reduceCtorEq,h.dG,h.bM,h.Hl,aT d19,bK,h'.pI,g5,g7,g67,hadd,hy',hg',hu];refine next _ _ (BF (by simp +decide only[GS,g0,g5,g26,g27,g28,g7,g65,g66,aj]) ⟨Lb.dY.Ge ga'.jP _ _ _ _ hy',es1',_,_,L3',L4',ga2,?_,hsm',hsv',(hmk.put s r.name).congr λk n=>?_⟩)
  ·rw[Hs hsj,<- cw];exact li.link gr3 gr4
  ·rw[fZ hsj k];constructor
   ·rintro ((h1 | h1) | h1)
    ·exact .inl h1
    ·exact .inr ⟨.inl h1.1,h1.2⟩
    ·exact .inr ⟨.inr h1.1,h1.2⟩
   ·rintro (h1 | ⟨h1 | h1,h2⟩)
    ·exact .inl (.inl h1)
    ·exact .inl (.inr ⟨h1,h2⟩)
    ·exact .inr ⟨h1,h2⟩
 rintro F Y ⟨g0,g5,g26,g27,g28,g7,g65,g66,g67,hy,es1,get,A,L3,L4,ga,li,hsm,hsv,hmk⟩;rw[ak (OF _)]at li hmk;rw[aG];have hlt:=dZ (bl r.outs.length);simp only[KP,↓reduceIte,reduceLT,g66,g67,hlt];refine hk _ _ _ _ _ _ _ _ (by simp +decide only[GS,g0]) (by simp +decide only[GS,g5]) (by simp +decide only[GS,g26]) (by simp +decide only[GS,g27]) (by simp +decide only[GS,g28]) ga ?_ hrm hsm hsv hmk;unfold eC;rw[<- cw,hP2];exact li
end
end
section
section
variable {E:Env}{Z:Sg}{K:V->Sg->Prop}
theorem Fw {rs:List aD}{i:Nat}{r:aD}(hr:rs[i]?=some r):(rs.take (i+1)).flatMap eC=(rs.take i).flatMap eC++eC r/\(rs.take (i+1)).map gW=(rs.take i).map gW++[gW r]:=by
 rw[ek,hr];simp
theorem nw_c (h:bE E)(h':oF E)(hl:Lb.bY E) {a:V}{rs:List aD} (ia:IS dN a rs)(hs:∀x∈rs,Small x)(hsh:FN rs)(hlen:rs.length<=1000) (F:FT) (g0:F.get 0=a) {K:V->Sg->Prop}
  (hk:∀Y gb ma b3 b4 es0 es1 get A L3 L4,oH E Y gb 0 1 2 ma b3 b4 es0 es1 A L3 L4->wU (rs.map gW) (rs.flatMap eC) A L3 L4->RM es0 rs->SM E es1 get->Eu es1->MK get (Mk rs)->K (.ref gb 0) Y):Ax.R E (cutAt [1,1] (aA Tryz.f13).code) [] ⟨88,F⟩ [] (nL E (aA Tryz.f13).results K):=by
 have la:=dA h ia;have inner:=λ{Y gb ma b3 b4 es0 es1 A L3 L4} ga {X P} li hX hP {i r g p1 p2 p3 p4} e1 i1 i2 i3 i4 hs {rs2} ha hn {get Pm} hsm hsv hmk F g0 g5 g26 g27 g28 st Q hk=>Pw (Y:=Y) (gb:=gb) (m0:=0) (m1:=1) (sa:=2) (ma:=ma) (b3:=b3) (b4:=b4) (es0:=es0) (es1:=es1) (A:=A) (L3:=L3) (L4:=L4) (X:=X) (P:=P) (a:=a) (c27:=.int .i64 (rs.length:Int)) (i:=i) (r:=r) (g:=g) (p1:=p1) (p2:=p2) (p3:=p3) (p4:=p4) (rs:=rs2) (get:=get) (Pm:=Pm) h h' hl ga li hX hP e1 i1 i2 i3 i4 hs ha hn hsm hsv hmk F g0 g5 g26 g27 g28 (st:=st) (Q:=Q) hk;rw[show cutAt [1,1] (aA Tryz.f13).code=.seq (cutAt [1,1,0] (aA Tryz.f13).code) (.seq (.seq (cutAt [1,1,1,0,0] (aA Tryz.f13).code) (.block 0 (.loop (.seq (cutAt [1,1,1,0,1,2,2,0] (aA Tryz.f13).code) (.seq (cutAt [1,1,1,0,1,2,2,1,0] (aA Tryz.f13).code) (.seq (.block 1 (cutAt [1,1,1,0,1,2,2,1,1,0,2] (aA Tryz.f13).code)) (cutAt [1,1,1,0,1,2,2,1,1,1] (aA Tryz.f13).code))))))) (cutAt [1,1,1,1] (aA Tryz.f13).code)) from rfl];generalize cutAt [1,1,1,0,1,2,2,1,1,0,2] (aA Tryz.f13).code=B at inner ⊢;simp only[aA,Tryz.f13,KP,↓reduceIte,reduceLT,cutAt];refine aN (Lb.Q5 hl (Z:=[.map [],.map []]) (v:=.aF) (l:=[]) (.inl ⟨rfl,rfl⟩) (by simp)) ?_;rintro v τ1 ⟨m,rfl,hset,hlt,oQ⟩;have k0:=oQ 0 _ rfl;have k1:=oQ 1 _ rfl;have hs2:Lb.cW τ1 2 m []:=hset;have hlt:2<m:=hlt;have hml:=(AI.1 hs2.map).1;simp only[KP,↓reduceIte,reduceEqDiff,reduceLT,reduceAdd,reduceCtorEq,h.Hl,Ax.fill,Ax.placeOf,hl.uH,h'.pI,h'.U4,h'.xI,g0,la]
 have ga0:oH E (τ1++[.map []]++[.map []]++[.cells 100 [.mp 0,.mp 1,.ref 2 0,.mp τ1.length,.mp (τ1++[O.map []]).length] true]) (τ1++[O.map []]++[O.map []]).length 0 1 2 m τ1.length (τ1++[O.map []]).length [] [] [] [] []:=by
  refine⟨aL,aJ (aJ (aJ k0)),aJ (aJ (aJ k1)),cW.app (cW.app (cW.app hs2 _) _) _,⟨aJ (aJ aL),(λe he=>by cases he),nodup_nil⟩,⟨aJ aL,(λe he=>by cases he),nodup_nil⟩,?_⟩;rw[By];simp only[map_nil,ig,dn,IT,cr,fu,qm,af,b9,oe,nodup_nil,da];omega
 generalize τ1++[.map []]++[.map []]++[.cells 100 [.mp 0,.mp 1,.ref 2 0,.mp τ1.length,.mp (τ1++[O.map []]).length] true]=τ2 at *;generalize (τ1++[O.map []]++[O.map []]).length=gb at *;generalize (τ1++[O.map []]).length=b4 at *;generalize τ1.length=b3 at *;refine aV (λi F Y=>F.get 0=a/\F.get 5=.ref gb 0/\F.get 26=a/\F.get 27=.int .i64 (rs.length:Int)/\F.get 28=.int .i64 (i:Int)/\∃es0 es1 get A L3 L4,oH E Y gb 0 1 2 m b3 b4 es0 es1 A L3 L4/\wU ((rs.take i).map gW) ((rs.take i).flatMap eC) A L3 L4/\RM es0 (rs.take i)/\SM E es1 get/\Eu es1/\MK get (Mk (rs.take i))) rs.length ?_ ?_ rs.length 0 _ _ (by omega) (iT (by simp +decide only[GS,g0,aj]) ⟨[],[],λ_=>none,[],[],[],ga0,wU.nil,.nil,JQ,(λe he=>by cases he),MK.nil.congr λk n=>⟨λh=>h.elim,λ⟨q,hq,_⟩=>by cases hq⟩⟩)
 ·rintro i F Y hi ⟨g0,g5,g26,g27,g28,es0,es1,get,A,L3,L4,ga,li,ha,hsm,hsv,hmk⟩ next
  obtain⟨r,hr⟩:∃y,rs[i]?=some y:=⟨_,AT hi⟩;obtain⟨g,p1,p2,p3,p4,e1,i1,i2,i3,i4⟩:=fL h ia hr;have hrm:=ag hr;have hlt:=dP hi;have hadd:=bW i (by omega)
  have hnn:∀q∈rs.take i,q.name≠r.name:=λq hq e=>by
   obtain⟨j,hj⟩:=gv.1 hq;have hji:j<i:=by have:=(AI.1 hj).1;rw[bw]at this;omega
   rw[gh hji]at hj;have:=hsh.nodup j i q r hj hr e;omega
  have hXl:((rs.take i).map gW).length<=1000:=by rw[bj,bw];omega
  have hPl:((rs.take i).flatMap eC).length<=100000:=by
   have:=qB (rs.take i) λq hq=>hs q (ji hq);rw[bw]at this;omega
  rw[aG];simp only[KP,↓reduceIte,reduceLT,g27,g28,hlt];refine inner ga li hXl hPl e1 i1 i2 i3 i4 (hs r hrm) ha hnn hsm hsv hmk _ ?_ ?_ ?_ ?_ ?_ _ _ (λF2 τ2 es0' es1' get' A' L3' L4' q0 q5 Jl YX YW ga' li' ha' hsm' hsv' hmk'=>?_)
  ·simp +decide only[GS,g0]
  ·simp +decide only[GS,g5]
  ·simp +decide only[GS,g26]
  ·simp +decide only[GS,g27]
  ·simp +decide only[GS,g28]
  simp only[KP,↓reduceIte,reduceLT,YW,hadd];refine next _ _ (iT (by simp +decide only[GS,q0,q5,Jl,YX,aj]) ⟨es0',es1',get',A',L3',L4',ga',?_,?_,hsm',hsv',hmk'.congr λk n=>(Mv hr k n).symm⟩)
  ·rw[(Fw hr).1,(Fw hr).2];exact li'
  ·rw[ek,hr];exact ha'
 ·rintro F Y ⟨g0,g5,g26,g27,g28,es0,es1,get,A,L3,L4,ga,li,ha,hsm,hsv,hmk⟩;rw[ak (OF _)]at li ha hmk;have hlt:=dZ (bl rs.length);rw[aG];simp only[KP,↓reduceIte,reduceEqDiff,reduceLT,g5,g27,g28,hlt];exact hk _ _ _ _ _ _ _ _ _ _ _ ga li ha hsm hsv hmk
end
end
section
section
variable {E:Env}{Z:Sg}{K:V->Sg->Prop}
def uP (ks:List aC):V:=.cZ false [.imp false (Lb.kO ks)]
def xZ (e:dJ):V × V:=(iD e.key,uP e.ks)
def gV (es0 es1:List (V × V)) (A:List aC) (L3 L4:List dJ):V:=.cZ false [.imp false es0,.imp false es1,uP A,.imp false (L3.map xZ),.imp false (L4.map xZ)]
structure KS (E:Env) (rs:List aD) (es0 es1:List (V × V)) (get:bC->Option V) (A:List aC) (L3 L4:List dJ):Prop where
 rules:RM es0 rs
 sm:SM E es1 get
 sv:Eu es1
 LN:MK get (Mk rs)
 li:wU (rs.map gW) (rs.flatMap eC) A L3 L4
 nA:A.Nodup
 n3:(L3.map dJ.key).Nodup
 n4:(L4.map dJ.key).Nodup
 k3:∀e∈L3,e.ks.Nodup
 k4:∀e∈L4,e.ks.Nodup
def BL (E:Env) (rs:List aD) (v:V):Prop:=∃es0 es1 get A L3 L4,v=gV es0 es1 A L3 L4/\KS E rs es0 es1 get A L3 L4
theorem C_ {α β γ:Type}{f:β->Option γ}{g:α->β}{k:α->γ}:∀{l:List α},(∀x∈l,f (g x)=some (k x))->aX f (l.map g)=some (l.map k)
 | [],_=>rfl
 |x::l,h=>by rw[bh,aX,h x (IN ..),C_ λy hy=>h y (ae _ hy)];rfl
theorem CL {Z:Sg}{b m n:Nat}{ks:List aC}(hs:Lb.cW Z b m ks):bG Z E.ty false (n+3) (.ref b 0)=some (uP ks):=by
 have e1:bG Z E.ty false (n+2) (.mp m)=some (.imp false (Lb.kO ks)):=by
  rw[bG];simp only[hs.map];rw[Lb.Ie (Lb.kO ks)];intro e he;obtain⟨k,_,rfl⟩:=cv.1 he;rfl
 rw[bG];simp only[hs.obj,fc]
 show (match aX (λv=>match bG Z E.ty false (n+2) v with
  |some v=>if cL false v then some v else no "snap: borrowed"
  |none=>none) [V.mp m] with
  |some l=>some (V.cZ false l)
  |none=>none)=_
 simp only[aX,e1];rfl
theorem CK {Z:Sg}{b n:Nat}{L:List dJ}(hm:iY Z b L):bG Z E.ty false (n+4) (.mp b)=some (.imp false (L.map xZ)):=by
 rw[bG];simp only[hm.map];rw[C_ (k:=xZ) λe he=>?_];have h1:=CL (E:=E) (n:=n) (hm.sets e he);have hp:(iD e.key).cells.all Ax.plainCell=true:=rfl
 show (if (iD e.key).cells.all Ax.plainCell=true then (match (match bG Z E.ty false (n+3) (.ref e.s 0) with
   |some v=>if cL false v then some v else no "snap: borrowed"
   |none=>none) with
   |some v=>some (iD e.key,v)
   |none=>none) else none)=_
 rw[az hp,h1];rfl
theorem HD {Z:Sg}{b n:Nat}{es:List (V × V)}{rs:List aD}(hb:Z[b]?=some (.map es))(ha:RM es rs):bG Z E.ty false (n+2) (.mp b)=some (.imp false es):=by
 rw[bG];simp only[hb];rw[f_ λe he=>?_];obtain⟨r,-,e1,a,b,c,d,e2,i1,i2,i3,i4⟩:=ha.mem he;obtain⟨k,v⟩:=e;dsimp only at e1 e2;subst e1 e2;have hp:(V.str r.name).cells.all Ax.plainCell=true:=rfl;have q:∀c:V,Ax.bD c=true->bG Z E.ty false (n+1) c=some c:=λc h1=>jK h1;have t0:cL false (V.str r.name)=true:=rfl;simp only[hp,bf,aX,q (.str r.name) rfl,q a i1.is.bD,q b i2.is.bD,q c i3.is.bD,q d i4.is.bD,t0,i1.tag,i2.tag,i3.tag,i4.tag]
theorem JP {Z:Sg}{b n:Nat}{es:List (V × V)}{get:bC->Option V}(hb:Z[b]?=some (.map es))(hs:SM E es get)(hv:Eu es):bG Z E.ty false (n+2) (.mp b)=some (.imp false es):=by
 rw[bG];simp only[hb];rw[f_ λe he=>?_];obtain⟨k,e1⟩:=(hs.1 e he).1;obtain⟨m,e2⟩:=hv e he;obtain⟨a,v⟩:=e;dsimp only at e1 e2;subst e1 e2;rfl
theorem JN {Z:Sg}{gb m0 m1 sa ma b3 b4:Nat}{es0 es1:List (V × V)}{get:bC->Option V}{A:List aC}{L3 L4:List dJ}{rs:List aD} (ga:oH E Z gb m0 m1 sa ma b3 b4 es0 es1 A L3 L4)(ha:RM es0 rs)(hs:SM E es1 get)(hv:Eu es1):cG Z E.ty false (.ref gb 0)=some (gV es0 es1 A L3 L4):=by
 have s0:=HD (E:=E) (n:=9) ga.rules ha;have s1:=JP (E:=E) (n:=9) ga.jP hs hv;have s2:=CL (E:=E) (n:=8) ga.all;have s3:=CK (E:=E) (n:=7) ga.kC;have s4:=CK (E:=E) (n:=7) ga.jW
 have e:bG Z E.ty false 12 (.ref gb 0)=some (gV es0 es1 A L3 L4):=by
  rw[bG];simp only[ga.g,fc]
  show (match aX (λv=>match bG Z E.ty false 11 v with
   |some v=>if cL false v then some v else no "snap: borrowed"
   |none=>none) [V.mp m0,V.mp m1,V.ref sa 0,V.mp b3,V.mp b4] with
   |some l=>some (V.cZ false l)
   |none=>none)=_
  simp only[aX,s0,s1,s2,s3,s4];rfl
 show (match bG Z E.ty false 12 (.ref gb 0) with
  |some v=>if cL false v then some v else no "snap: borrowed"
  |none=>none)=_
 rw[e];rfl
theorem KD (h:bE E)(h':oF E)(hl:Lb.bY E) {a:V}{rs:List aD}(ha:LS dN 46 Z a rs)(hs:∀x∈rs,Small x)(hlen:rs.length<=4294967296):aB E 13 [a] Z λv σ'=>σ'=Z/\((¬ nV rs/\v=.fP)\/(nV rs/\BL E rs v)):=by
 obtain⟨a',ea,ia⟩:=fE h ha;rw[aI h'.hs13 h'.OU h'.fn13 h'.md13 (args':=[a']) (by simp only[aX,ea]),aW (by kernel_rfl)]
 have key:=λhsh hlen F g0 hk=>nw_c (a:=a') (rs:=rs) h h' hl ia hs hsh hlen F g0 (K:=λv σ1=>match cG σ1 E.ty false v with
   |some v=>((¬ nV rs/\v=.fP)\/(nV rs/\BL E rs v))
   |none=>False) hk
 rw[show (aA Tryz.f13).code=.seq (cutAt [0] (aA Tryz.f13).code) (.seq (cutAt [1,0] (aA Tryz.f13).code) (cutAt [1,1] (aA Tryz.f13).code)) from rfl];generalize cutAt [1,1] (aA Tryz.f13).code=C at key ⊢;simp only[aA,Tryz.f13,KP,↓reduceIte,reduceLT,reduceCtorEq,cutAt];refine aN (Xh h (ia.ls _ 46) hs hlen) ?_;rintro v σ' ⟨rfl,e,nm,rfl,hE⟩;by_cases he:e=0
 ·have q:=BY he;have hr:=hE.zero.1 he;have hg:=tJ hr.1;have h40:=hg.len;simp only[KP,↓reduceIte,reduceEqDiff,reduceLT,q];refine key hg.short (fh h40 (by decide)) _ ?_ ?_
  ·simp +decide only[GS]
  intro Y gb ma b3 b4 es0 es1 get A L3 L4 ga li ha hsm hsv hmk;rw[JN ga ha hsm hsv];exact .inr ⟨hr,es0,es1,get,A,L3,L4,rfl,ha,hsm,hsv,hmk,li,ga.all.nodup,ga.kC.nodup,ga.jW.nodup,λe he=>(ga.kC.sets e he).nodup,λe he=>(ga.jW.sets e he).nodup⟩
 ·have q:=AS he;simp only[KP,↓reduceIte,reduceEqDiff,reduceLT,q];exact .inl ⟨mt hE.zero.2 he,rfl⟩
end
end
section
structure yF (E:Env):Prop where
 hs50:E.hspec 50=none
 sp50:E.spec 50=none
 fn50:E.fn 50=some (aA Tryz.f50)
 md50:E.mode 50=.eS
 hs52:E.hspec 52=none
 sp52:E.spec 52=none
 fn52:E.fn 52=some (aA Tryz.f52)
 md52:E.mode 52=.eS
 hs48:E.hspec 48=none
 sp48:E.spec 48=none
 fn48:E.fn 48=some (aA Tryz.f48)
 md48:E.mode 48=.eS
 hs47:E.hspec 47=none
 sp47:E.spec 47=none
 fn47:E.fn 47=some (aA Tryz.f47)
 md47:E.mode 47=.eS
 hs55:E.hspec 55=none
 sp55:E.spec 55=none
 fn55:E.fn 55=some (aA Tryz.f55)
 md55:E.mode 55=.eS
 UD:E.hspec 113=none
 Ut:E.spec 113=none
 UF:E.fn 113=some (aA Tryz.f113)
 Uy:E.mode 113=.eS
 acf:aM E (cutAt [1,1,0] (aA Tryz.f50).code)=true
 ace:aM E (cutAt [1,1,0] (aA Tryz.f52).code)=true
 ach:aM E (cutAt [1,0,2,0] (aA Tryz.f48).code)=true
 acg:aM E (cutAt [1,0,2,1,1,1,1,0] (aA Tryz.f48).code)=true
section
variable {E:Env}{Z:Sg}{K:V->Sg->Prop}
def Ch (v:V) (l:List aC):Prop:=(v=.aF/\l=[])\/∃full,v=.bS false (l.map row) full
theorem Ch.lv {v:V}{l:List aC}(h:Ch v l):Lb.LV v l:=h.imp id λ⟨f,e⟩=>⟨false,f,e⟩
def Bc (ks:List aC):Prop:=ks.length<=1000000/\∀k∈ks,k.2.length<=9223372036854775807
theorem Aw:∀l:List aC,Ax.rows 2 l.length (l.flatMap row)=l.map row
 | []=>rfl
 |x::l=>by
  rw[af,j6,Ax.rows,bh];have h1:(row x++l.flatMap row).take 2=row x:=rfl;have h2:(row x++l.flatMap row).drop 2=l.flatMap row:=rfl;rw[h1,h2,Aw l]
theorem MO (hl:Lb.bY E) {Z:Sg}{j:Nat}{l:List aC}{ex:Bool}(hj:Z[j]?=some (.cells 51 (l.flatMap row) ex)):∃v',cG Z E.ty false (.sl j 0 l.length none)=some v'/\Ch v' l:=by
 have hlen:(l.flatMap row).length=l.length*2:=Lb.qS l
 obtain⟨full,e⟩:=CJ (g:=false) (n:=l.length) hj hl.cE (show l.length*2<=_ by omega) (λc hc=>by
  rw[show (l.flatMap row).take (l.length*2)=l.flatMap row from ak (by omega)]at hc;obtain⟨x,-,hx⟩:=jb.1 hc;unfold row at hx;simp only[IT,cr,fu]at hx;rcases hx with rfl | rfl <;> exact⟨rfl,rfl⟩)
 refine⟨_,e,.inr ⟨full,?_⟩⟩;show V.bS false (Ax.rows 2 l.length ((l.flatMap row).take (l.length*2))) full=_;rw[ak (by omega),Aw]
theorem wW (hl:Lb.bY E) {Z σ':Sg}{r:V}{l:List aC}(h:Lb.Own Z σ' r l):∃v',cG σ' E.ty false r=some v'/\Ch v' l:=by
 rcases h with⟨rfl,rfl⟩ | ⟨j,-,rfl,hj⟩
 ·exact⟨.aF,rfl,.inl ⟨rfl,rfl⟩⟩
 ·exact MO hl hj
theorem xJ {ks:List aC}(hn:ks.Nodup)(hs:Bc ks) {j:Nat}{g:Bool}(hj:Z[j]?=some (.cells 88 [.imp g (Lb.kO ks)] true)) :
  kF 51 [154] [] 118 [.fn 154 [] [.ref j 0],.fn 118 [] []] Z=some (if ks=[] then (.aF,Z) else (.sl Z.length 0 ks.length none,Z++[.cells 51 ((setOf ks).flatMap row) false])):=by
 have hk:keysOf Z [154] [] (.fn 154 [] [.ref j 0])=some (ks.map row):=by
  unfold keysOf;simp only[hj];exact au some (Lb.Ay ks)
 show nQ 51 [154] [] kD pY (.fn 154 [] [.ref j 0]) Z=_;unfold nQ;rw[hk];cases hks:ks with
 |nil=>rfl
 |cons k r=>
  have ha:=Lb.tU ks hs.2;have hk2:=As hn;have hlen:=hs.1;rw[hks]at ha hk2 hlen;rw[bh]at ha hk2 ⊢;rw[an (by simp)]
  show (match allRows kD (row k::r.map row),Nat.ble (row k::r.map row).length 1000000 with
   |true,true=>some (V.sl Z.length 0 (row k::r.map row).length none,Z++[O.cells 51 (kS pY (row k::r.map row)).flatten false])
   |_,_=>none)=_
  rw[ha,kg (by simpa using hlen),hk2,Lb.DD];simp
theorem GW (hl:Lb.bY E)(h:bE E) {g:Bool}{es:List (V × V)}:aB E 117 [.imp g es] Z K=K (.fn 154 [] [.ref Z.length 0]) (Z++[.cells 88 [.imp g es] true]):=by
 refine aB.of ?_;rw[cN hl.Qk hl.OW hl.Qw hl.PD,aW (by kernel_rfl)];simp only[aA,Tryz.f117,KP,↓reduceIte,reduceEqDiff,reduceLT,hl.sJ]
theorem KF (hl:Lb.bY E)(h:bE E) {g g':Bool}{ks:List aC}(hn:ks.Nodup)(hsm:Bc ks):aB E 65 [.cZ g [.imp g' (Lb.kO ks)]] Z λr σ'=>Lb.Own Z σ' r (setOf ks):=by
 rw[cN hl.Ws hl.Va hl.Wz hl.V3,aW (by kernel_rfl)];have kk:=dD λK=>GW (Z:=Z) (K:=K) hl h (g:=g') (es:=Lb.kO ks);simp only[aA,Tryz.f65,KP,Ax.loadAt,↓reduceIte,reduceLT,reduceCtorEq,hl.sJ,hl.uG,hl.Ho,mP,kk];have hj:(Z++[O.cells 88 [.imp g' (Lb.kO ks)] true])[Z.length]?=some (.cells 88 [.imp g' (Lb.kO ks)] true):=aL;have hsk:=xJ hn hsm hj;unfold Ai;rw[l_ hl.Ql,hsk];by_cases hks:ks=[]
 ·rw[az hks];simp only[dI];simp only[KP,↓reduceIte,reduceLT];subst hks;exact .inl ⟨rfl,rfl⟩
 ·rw[an hks];simp only[dI];simp only[KP,↓reduceIte,reduceLT];refine .inr ⟨_,?_,by rw[sO hn],?_⟩
  ·rw[By];omega
  ·exact aL
theorem Xd (hl:Lb.bY E)(h:bE E) {g g':Bool}{ks:List aC} (x:aC):aB E 63 [.cZ g [.imp g' (Lb.kO ks)],.agg [.bool x.1,.str x.2]] Z K=K (.bool (decide (x∈ks))) Z:=by
 refine aB.of ?_;have hi:Ax.bD (.cZ g [.imp g' (Lb.kO ks)])=true:=rfl;have e1:=cJ (Z:=Z) (ty:=E.ty) hi (bV hi);have e2:aU Z E.ty true (.agg [.bool x.1,.str x.2])=some (.agg [.bool x.1,.str x.2]):=rfl;have d1:=hl.acd;simp only[aA,Tryz.f63,cutAt,aq]at d1;rw[aI hl.hs63 hl.sp63 hl.fn63 hl.md63 (args':=[.cZ g [.imp g' (Lb.kO ks)],.agg [.bool x.1,.str x.2]]) (by simp only[aX,e1,e2]),aW (by kernel_rfl)];have hk:=Lb.lU hl x.1 x.2;have hf:=Lb.C4 hl x ks;by_cases hx:x∈ks
 ·simp only[aA,Tryz.f63,KP,Ax.loadAt,↓reduceIte,reduceEqDiff,reduceLT,reduceAdd,reduceCtorEq,h.Ee,h.cE,hl.sJ,hl.uG,hl.Ho,mP,aT d1,bK,Ax.lookup,hk,Ax.entriesOf,hf,hx];exact rfl
 ·simp only[aA,Tryz.f63,KP,Ax.loadAt,↓reduceIte,reduceEqDiff,reduceLT,reduceAdd,reduceCtorEq,h.Ee,h.cE,hl.sJ,hl.uG,hl.Ho,mP,aT d1,bK,Ax.lookup,hk,Ax.entriesOf,hf,hx];exact rfl
end
end
section
section
variable {E:Env}{Z:Sg}{K:V->Sg->Prop}
def eE (rs:List aD):List aC:=setOf (rs.map gW++(rs.flatMap eC).flatMap λp=>[p.1,p.2])
def bH (rs:List aD) (x:aC):List aC:=setOf (((rs.flatMap eC).filter λp=>decide (p.1=x)).map Prod.snd)
def gC (rs:List aD) (x:aC):List aC:=setOf (((rs.flatMap eC).filter λp=>decide (p.2=x)).map Prod.fst)
theorem nC {rs:List aD}{x w:aC}:w∈bH rs x ↔ (x,w)∈rs.flatMap eC:=by
 unfold bH;rw[gR,cv];constructor
 ·rintro⟨⟨a,b⟩,h1,rfl⟩;obtain⟨h1,h2⟩:=od.1 h1;rw[<- ej h2];exact h1
 ·exact λh1=>⟨(x,w),od.2 ⟨h1,BY rfl⟩,rfl⟩
theorem wG {rs:List aD}{x w:aC}:w∈gC rs x ↔ (w,x)∈rs.flatMap eC:=by
 unfold gC;rw[gR,cv];constructor
 ·rintro⟨⟨a,b⟩,h1,rfl⟩;obtain⟨h1,h2⟩:=od.1 h1;rw[<- ej h2];exact h1
 ·exact λh1=>⟨(w,x),od.2 ⟨h1,BY rfl⟩,rfl⟩
theorem C9 {rs:List aD}{x:aC}:x∈eE rs ↔ x∈rs.map gW\/∃p∈rs.flatMap eC,x=p.1\/x=p.2:=by
 unfold eE;rw[gR,cq,jb];refine or_congr qj (exists_congr λp=>and_congr qj ?_);simp
theorem Mu (rs:List aD):Up (eE rs):=nY _
theorem vA (rs:List aD) (x:aC):Up (bH rs x):=nY _
theorem Hh (rs:List aD) (x:aC):Up (gC rs x):=nY _
structure Fits (rs:List aD):Prop where
 ok:nV rs
 small:∀x∈rs,Small x
theorem vD {s:bC}(h:bI s=true):s.length<=40:=by
 unfold bI at h;simp only[ai,aa]at h;exact h.1.2
theorem J_ {s:bC}(h:bI s=true):s≠[]:=by
 rintro rfl;revert h
 decide
theorem Fits.form {rs:List aD}(h:Fits rs):∀r∈rs,kX r=true:=λr hr=>by
 have h0:=h.ok.1;unfold gO at h0;cases hf:rs.find? (λr=>decide (bA r≠0)) with
 |some q=>
  rw[hf]at h0;have:=find?_some hf;exact absurd h0 (ej this)
 |none=>
  have:=me.1 hf r hr
  have h1:bA r=0:=by
   refine oc λhne=>this (BY hne)
  unfold bA at h1;by_cases hq:kX r=false
  ·rw[az hq]at h1;cases h1
  ·simpa using hq
theorem Fits.names {rs:List aD}(h:Fits rs):∀r∈rs,bI r.name=true/\(∀f∈r.ins,bI f=true)/\∀f∈r.outs,bI f=true:=λr hr=>by
 have:=h.form r hr;rw[Fp]at this;simp only[ai,ez]at this;exact⟨this.1.1.1.1.1,this.1.1.1.2,this.1.1.2⟩
theorem Fits.pair {rs:List aD}(h:Fits rs) {p:aC × aC}(hp:p∈rs.flatMap eC):bI p.1.2=true/\bI p.2.2=true:=by
 obtain⟨r,hr,hp⟩:=jb.1 hp;obtain⟨h1,h2,h3⟩:=h.names r hr;unfold eC at hp;rcases cq.1 hp with hp | hp
 ·obtain⟨f,hf,rfl⟩:=cv.1 hp;exact⟨h1,h2 f hf⟩
 ·obtain⟨f,hf,rfl⟩:=cv.1 hp;exact⟨h3 f hf,h1⟩
theorem Fits.lab {rs:List aD}(h:Fits rs) {x:aC}(hx:x∈eE rs):bI x.2=true:=by
 rcases C9.1 hx with hx | ⟨p,hp,rfl | rfl⟩
 ·obtain⟨r,hr,rfl⟩:=cv.1 hx;exact (h.names r hr).1
 ·exact (h.pair hp).1
 ·exact (h.pair hp).2
theorem Fits.len {rs:List aD}(h:Fits rs):rs.length<=40:=(tJ h.ok.1).len
theorem Fits.Sj {rs:List aD}(h:Fits rs):(rs.flatMap eC).length<=640:=by
 have:=qB rs h.small;have:=h.len;omega
section
variable {rs:List aD}{es0 es1:List (V × V)}{get:bC->Option V}{A:List aC}{L3 L4:List dJ}
theorem KS.all (hi:KS E rs es0 es1 get A L3 L4):setOf A=eE rs:=HG λx=>by
 rw[hi.li.all,cq,jb];refine or_congr qj (exists_congr λp=>and_congr qj ?_);simp
theorem KS.VD (hi:KS E rs es0 es1 get A L3 L4)(hf:Fits rs):Bc A:=by
 refine⟨?_,λk hk=>?_⟩
 ·have h1:=hi.li.Nh;have h2:=hf.Sj;have h3:=hf.len;rw[bj]at h1;omega
 ·have h1:k∈eE rs:=by rw[<- hi.all,gR];exact hk
  have:=vD (hf.lab h1);omega
theorem Gz {L:List dJ}{e:dJ}{x:aC}(he:bO L x=some e):rQ L x=e.ks:=by unfold rQ;rw[he]
theorem LZ {L:List dJ}{x:aC}(he:bO L x=none):rQ L x=[]:=by unfold rQ;rw[he]
theorem KS.need (hi:KS E rs es0 es1 get A L3 L4) (x:aC):setOf (rQ L3 x)=bH rs x:=F5 (nY _) (vA rs x) λw=>by rw[gR,hi.li.need,nC]
theorem KS.user (hi:KS E rs es0 es1 get A L3 L4) (x:aC):setOf (rQ L4 x)=gC rs x:=F5 (nY _) (Hh rs x) λw=>by rw[gR,hi.li.user,wG]
theorem KS.VF (hi:KS E rs es0 es1 get A L3 L4)(hf:Fits rs) {e:dJ}{x:aC}(he:bO L3 x=some e):Bc e.ks:=by
 refine⟨?_,λk hk=>?_⟩
 ·have h1:=hi.li.P7 e (gG he).1;have h2:=hf.Sj;omega
 ·rw[<- Gz he,hi.li.need]at hk;have h2:k.2.length<=40:=vD (hf.pair hk).2;omega
theorem KS.VE (hi:KS E rs es0 es1 get A L3 L4)(hf:Fits rs) {e:dJ}{x:aC}(he:bO L4 x=some e):Bc e.ks:=by
 refine⟨?_,λk hk=>?_⟩
 ·have h1:=hi.li.P6 e (gG he).1;have h2:=hf.Sj;omega
 ·rw[<- Gz he,hi.li.user]at hk;have h2:k.2.length<=40:=vD (hf.pair hk).1;omega
end
theorem C6 (hl:Lb.bY E) (x:aC):∀L:List dJ,iQ (dF E 51) (iD x) (L.map xZ)=some ((L.find? λe=>decide (x=e.key)).map λe=>uP e.ks)
 | []=>rfl
 |e::L=>by
  show (match dF E 51 (.agg [.bool x.1,.str x.2]) (.agg [.bool e.key.1,.str e.key.2]) with
   |some true=>some (some (uP e.ks))
   |some false=>iQ (dF E 51) (iD x) (L.map xZ)
   |none=>none)=_
  rw[Lb.nG hl,my];by_cases h:x=e.key
  ·rw[BY (show ((x.1,x.2):aC)=(e.key.1,e.key.2) from h)];rfl
  ·rw[AS (show ¬ ((x.1,x.2):aC)=(e.key.1,e.key.2) from h)];exact C6 hl x L
theorem Ff (h':oF E)(hl:Lb.bY E) {Z:Sg}{g:Bool}{L:List dJ} (x:aC):lookup E Z 98 (.imp g (L.map xZ)) (.agg [.bool x.1,.str x.2]) false=some (match bO L x with | some e=>uP e.ks | none=>.fP):=by
 have hk:=Lb.lU hl x.1 x.2;unfold Ax.lookup;simp only[h'.xI,hl.uH,hk,entriesOf,dj,ah,ay];have:=C6 hl x L;unfold iD at this;rw[this];unfold bO;cases L.find? λe=>decide (x=e.key) <;> rfl
theorem acs (h:bE E)(h':oF E)(hl:Lb.bY E) (q:yF E) {ks:List aC}(hn:ks.Nodup)(hs:Bc ks):aB E 113 [uP ks] Z λv σ'=>σ'=Z/\Ch v (setOf ks):=by
 have hi:Ax.bD (uP ks)=true:=rfl;have e1:=cJ (Z:=Z) (ty:=E.ty) hi (bV hi);rw[aI q.UD q.Ut q.UF q.Uy (args':=[uP ks]) (by simp only[aX,e1]),aW (by kernel_rfl)];simp only[aA,Tryz.f113,KP,↓reduceIte,reduceLT,reduceCtorEq,hl.uH,hl.uG,hl.Am,mP,uP];refine aN (KF hl h hn hs) ?_;intro r σ' ho;obtain⟨v',hv,hlv⟩:=wW hl ho;simp only[KP,↓reduceIte,reduceLT,hv];exact hlv
theorem UL (h:bE E)(h':oF E)(hl:Lb.bY E) (q:yF E):aB E 113 [.fP] Z λv σ'=>σ'=Z/\Ch v []:=by
 have e1:aU Z E.ty true .fP=some .fP:=rfl;rw[aI q.UD q.Ut q.UF q.Uy (args':=[.fP]) (by simp only[aX,e1]),aW (by kernel_rfl)];simp only[aA,Tryz.f113,KP,↓reduceIte,reduceLT,reduceCtorEq,hl.uH,mP];exact .inl ⟨rfl,rfl⟩
theorem vR (h:bE E)(h':oF E)(hl:Lb.bY E) (q:yF E) {g:V}{rs:List aD}(hg:BL E rs g)(hf:Fits rs) (x:aC):aB E 50 [g,.agg [.bool x.1,.str x.2]] Z λv σ'=>σ'=Z/\Ch v (bH rs x):=by
 obtain⟨es0,es1,get,A,L3,L4,rfl,hi⟩:=hg;have him:Ax.bD (gV es0 es1 A L3 L4)=true:=rfl;have e1:=cJ (Z:=Z) (ty:=E.ty) him (bV him);have e2:aU Z E.ty true (.agg [.bool x.1,.str x.2])=some (.agg [.bool x.1,.str x.2]):=rfl;have d3:=q.acf;simp only[aA,Tryz.f50,cutAt,aq]at d3;rw[aI q.hs50 q.sp50 q.fn50 q.md50 (args':=[gV es0 es1 A L3 L4,.agg [.bool x.1,.str x.2]]) (by simp only[aX,e1,e2]),aW (by kernel_rfl)];have en:mP E 27 true (.cZ false [.imp false es0,.imp false es1,uP A,.imp false (L3.map xZ),.imp false (L4.map xZ)]) .fP=some false:=by unfold mP;rw[h'.Ef]
 have lk:=λZ g=>Ff (Z:=Z) (g:=g) (L:=L3) h' hl x;rw[<- hi.need];cases hk:bO L3 x with
 |none=>
  rw[hk]at lk;rw[LZ hk];simp only[aA,Tryz.f50,KP,Ax.loadAt,↓reduceIte,reduceEqDiff,reduceLT,reduceAdd,reduceCtorEq,h.cE,h'.pI,h'.xI,gV,en,lk,aT d3,bK];refine aN (UL h h' hl q) ?_;rintro r σ' ⟨rfl,hr⟩;rcases hr with⟨rfl,-⟩ | ⟨full,rfl⟩
  ·simp only[KP,↓reduceIte,reduceLT];exact .inl ⟨rfl,rfl⟩
  ·simp only[KP,↓reduceIte,reduceLT];exact .inr ⟨full,rfl⟩
 |some e=>
  rw[hk]at lk;rw[Gz hk];simp only[aA,Tryz.f50,KP,Ax.loadAt,↓reduceIte,reduceEqDiff,reduceLT,reduceAdd,reduceCtorEq,h.cE,h'.pI,h'.xI,gV,en,lk,aT d3,bK];refine aN (acs h h' hl q (hi.k3 e (gG hk).1) (hi.VF hf hk)) ?_;rintro r σ' ⟨rfl,hr⟩;rcases hr with⟨rfl,h0⟩ | ⟨full,rfl⟩
  ·simp only[KP,↓reduceIte,reduceLT];exact .inl ⟨rfl,h0⟩
  ·simp only[KP,↓reduceIte,reduceLT];exact .inr ⟨full,rfl⟩
theorem D5 (h:bE E)(h':oF E)(hl:Lb.bY E) (q:yF E) {g:V}{rs:List aD}(hg:BL E rs g)(hf:Fits rs) (x:aC):aB E 52 [g,.agg [.bool x.1,.str x.2]] Z λv σ'=>σ'=Z/\Ch v (gC rs x):=by
 obtain⟨es0,es1,get,A,L3,L4,rfl,hi⟩:=hg;have him:Ax.bD (gV es0 es1 A L3 L4)=true:=rfl;have e1:=cJ (Z:=Z) (ty:=E.ty) him (bV him);have e2:aU Z E.ty true (.agg [.bool x.1,.str x.2])=some (.agg [.bool x.1,.str x.2]):=rfl;have d3:=q.ace;simp only[aA,Tryz.f52,cutAt,aq]at d3;rw[aI q.hs52 q.sp52 q.fn52 q.md52 (args':=[gV es0 es1 A L3 L4,.agg [.bool x.1,.str x.2]]) (by simp only[aX,e1,e2]),aW (by kernel_rfl)];have en:mP E 27 true (.cZ false [.imp false es0,.imp false es1,uP A,.imp false (L3.map xZ),.imp false (L4.map xZ)]) .fP=some false:=by unfold mP;rw[h'.Ef]
 have lk:=λZ g=>Ff (Z:=Z) (g:=g) (L:=L4) h' hl x;rw[<- hi.user];cases hk:bO L4 x with
 |none=>
  rw[hk]at lk;rw[LZ hk];simp only[aA,Tryz.f52,KP,Ax.loadAt,↓reduceIte,reduceEqDiff,reduceLT,reduceAdd,reduceCtorEq,h.cE,h'.pI,h'.xI,gV,en,lk,aT d3,bK];refine aN (UL h h' hl q) ?_;rintro r σ' ⟨rfl,hr⟩;rcases hr with⟨rfl,-⟩ | ⟨full,rfl⟩
  ·simp only[KP,↓reduceIte,reduceLT];exact .inl ⟨rfl,rfl⟩
  ·simp only[KP,↓reduceIte,reduceLT];exact .inr ⟨full,rfl⟩
 |some e=>
  rw[hk]at lk;rw[Gz hk];simp only[aA,Tryz.f52,KP,Ax.loadAt,↓reduceIte,reduceEqDiff,reduceLT,reduceAdd,reduceCtorEq,h.cE,h'.pI,h'.xI,gV,en,lk,aT d3,bK];refine aN (acs h h' hl q (hi.k4 e (gG hk).1) (hi.VE hf hk)) ?_;rintro r σ' ⟨rfl,hr⟩;rcases hr with⟨rfl,h0⟩ | ⟨full,rfl⟩
  ·simp only[KP,↓reduceIte,reduceLT];exact .inl ⟨rfl,h0⟩
  ·simp only[KP,↓reduceIte,reduceLT];exact .inr ⟨full,rfl⟩
theorem QW (h:bE E)(h':oF E)(hl:Lb.bY E) (q:yF E) {g:V}{rs:List aD}(hg:BL E rs g)(hf:Fits rs):aB E 47 [g] Z λv σ'=>σ'=Z/\Ch v (eE rs):=by
 obtain⟨es0,es1,get,A,L3,L4,rfl,hi⟩:=hg;have him:Ax.bD (gV es0 es1 A L3 L4)=true:=rfl;have e1:=cJ (Z:=Z) (ty:=E.ty) him (bV him);rw[aI q.hs47 q.sp47 q.fn47 q.md47 (args':=[gV es0 es1 A L3 L4]) (by simp only[aX,e1]),aW (by kernel_rfl)];have en:mP E 27 true (.cZ false [.imp false es0,.imp false es1,.cZ false [.imp false (Lb.kO A)],.imp false (L3.map xZ),.imp false (L4.map xZ)]) .fP=some false:=by unfold mP;rw[h'.Ef]
 rw[<- hi.all];simp only[aA,Tryz.f47,KP,Ax.loadAt,↓reduceIte,reduceLT,reduceCtorEq,hl.uH,hl.uG,hl.Am,h'.pI,gV,uP,en];refine aN (KF hl h hi.nA (hi.VD hf)) ?_;intro r σ' ho;obtain⟨v',hv,hlv⟩:=wW hl ho;simp only[KP,↓reduceIte,reduceLT,hv];exact hlv
end
end
section
section
variable {E:Env}{Z:Sg}{K:V->Sg->Prop}
def tA (rs:List aD) (f:bC):Option aD:=rs.find? λr=>decide (f∈r.outs)
def kindOf (rs:List aD) (x:aC):Int:=if x∈eE rs then (if x.1=true then 1 else if (tA rs x.2).isSome=true then 2 else 3) else 0
theorem mL {rs:List aD}{f:bC}{r:aD}(h:tA rs f=some r):r∈rs/\f∈r.outs:=⟨List.mem_of_find?_eq_some h,by have:=find?_some h;exact ej this⟩
theorem Gs {rs:List aD}{f:bC}(h:tA rs f=none):∀r∈rs,f ∉ r.outs:=λr hr hf=>by
 have:=me.1 h r hr;exact this (BY hf)
theorem KS.get {rs:List aD}{es0 es1:List (V × V)}{get:bC->Option V}{A:List aC}{L3 L4:List dJ}(hi:KS E rs es0 es1 get A L3 L4)(hf:Fits rs) (f:bC):get f=(tA rs f).map λr=>V.str r.name:=by
 rcases hi.LN f with⟨h1,h2⟩ | ⟨n,⟨r,hr,hfr,rfl⟩,h2⟩
 ·rw[h1];cases hm:tA rs f with
  |none=>rfl
  |some r=>exact absurd ⟨r,(mL hm).1,(mL hm).2,rfl⟩ (h2 r.name)
 ·rw[h2];cases hm:tA rs f with
  |none=>exact absurd hfr (Gs hm r hr)
  |some r'=>
   have:=(tJ hf.ok.1).short.jP f r.name r'.name ⟨r,hr,hfr,rfl⟩ ⟨r',(mL hm).1,(mL hm).2,rfl⟩;rw[this];rfl
theorem PU (h:bE E) {Z:Sg}{x:V}{es:List (V × V)}{get:bC->Option V}(hx:entriesOf Z x=some es)(hs:SM E es get) (k:bC):lookup E Z 97 x (.str k) false=some (match get k with | some v=>v | none=>.str []):=by
 have hk:eF E 9 (.str k)=true:=by unfold eF;rw[h.dG]
 unfold Ax.lookup;simp only[h.Hl,h.dG,hk,hx,hs.2 k,dj,ah,ay];cases get k <;> rfl
theorem GU (h:bE E)(h':oF E)(hl:Lb.bY E) (q:yF E) {g:V}{rs:List aD}(hg:BL E rs g)(hf:Fits rs) (x:aC):aB E 48 [g,.agg [.bool x.1,.str x.2]] Z K=K (.int .i64 (kindOf rs x)) Z:=by
 refine aB.of ?_;obtain⟨es0,es1,get,A,L3,L4,rfl,hi⟩:=hg;have him:Ax.bD (gV es0 es1 A L3 L4)=true:=rfl;have e1:=cJ (Z:=Z) (ty:=E.ty) him (bV him);have e2:aU Z E.ty true (.agg [.bool x.1,.str x.2])=some (.agg [.bool x.1,.str x.2]):=rfl;have d1:=q.ach;simp only[aA,Tryz.f48,cutAt,aq]at d1;have d5:=q.acg;simp only[aA,Tryz.f48,cutAt,aq]at d5;rw[aI q.hs48 q.sp48 q.fn48 q.md48 (args':=[gV es0 es1 A L3 L4,.agg [.bool x.1,.str x.2]]) (by simp only[aX,e1,e2]),aW (by kernel_rfl)];have en:mP E 27 true (.cZ false [.imp false es0,.imp false es1,.cZ false [.imp false (Lb.kO A)],.imp false (L3.map xZ),.imp false (L4.map xZ)]) .fP=some false:=by unfold mP;rw[h'.Ef]
 have kh:=λ(Y:Sg)=>dD λK=>Xd (Z:=Y) (K:=K) hl h (g:=false) (g':=false) (ks:=A) x;have hA:decide (x∈A)=decide (x∈eE rs):=by rw[<- hi.all];simp only[gR]
 rw[hA]at kh;have lk:=λZ=>PU (Z:=Z) (x:=.imp false es1) h rfl hi.sm x.2;rw[hi.get hf]at lk;have s0:∀a b:bC,tZ .neq a b=some (.bool (!Ax.seq a b)):=λa b=>rfl;unfold kindOf;by_cases hx:x∈eE rs
 ·rw[BY hx]at kh;rw[az hx];cases hb:x.1 with
  |true=>
   rw[hb]at kh;simp only[aA,Tryz.f48,KP,Ax.loadAt,↓reduceIte,reduceEqDiff,reduceLT,reduceAdd,reduceCtorEq,h.Ee,h.cE,hl.uH,hl.uG,hl.Am,h'.pI,gV,uP,en,kh,aT d1,bK];exact rfl
  |false=>
   rw[hb]at kh;cases hm:tA rs x.2 with
   |none=>
    rw[hm]at lk;have z:Ax.seq ([]:bC) []=true:=rfl;simp only[aA,Tryz.f48,KP,Ax.loadAt,↓reduceIte,reduceEqDiff,reduceLT,reduceAdd,reduceCtorEq,h.Ee,h.dG,h.cE,h.Hl,lP,hl.uH,hl.uG,hl.Am,h'.pI,gV,uP,en,kh,lk,s0,z,aT d1,aT d5,bK];exact rfl
   |some r=>
    rw[hm]at lk;have z:Ax.seq r.name []=false:=gL (J_ (hf.names r (mL hm).1).1);simp only[aA,Tryz.f48,KP,Ax.loadAt,↓reduceIte,reduceEqDiff,reduceLT,reduceAdd,reduceCtorEq,h.Ee,h.dG,h.cE,h.Hl,lP,hl.uH,hl.uG,hl.Am,h'.pI,gV,uP,en,kh,lk,s0,z,aT d1,aT d5,bK];exact rfl
 ·rw[AS hx]at kh;rw[an hx];simp only[aA,Tryz.f48,KP,Ax.loadAt,↓reduceIte,reduceEqDiff,reduceLT,reduceAdd,reduceCtorEq,h.cE,hl.uH,hl.uG,hl.Am,h'.pI,gV,uP,en,kh,aT d1,bK];exact rfl
theorem Ur.ru {v:V}{x:aD}(h:Ur v x):Jd v x:=by
 obtain⟨a,b,c,d,rfl,h1,h2,h3,h4⟩:=h;exact⟨a,b,c,d,rfl,h1.is,h2.is,h3.is,qR h4.is sK⟩
end
end
section
section
variable {E:Env}{Z:Sg}{K:V->Sg->Prop}
def eW:Lay aC:=⟨λr x=>r=row x,2,λ_ _ h=>by rw[h];rfl,λ_ _ h c hc=>by
 rw[h]at hc;unfold row at hc;simp only[IT,cr,fu]at hc;rcases hc with rfl | rfl <;> rfl⟩
theorem vU:∀l:List aC,eJ eW.P (l.map row) l
 | []=>.nil
 |x::l=>.cons rfl (vU l)
theorem Ch.UC {v:V}{l:List aC}(h:Ch v l):kI eW v l:=h.imp id λ⟨f,e⟩=>⟨_,f,e,vU l⟩
theorem LV.is {v:V}{l:List aC}(h:Lb.LV v l):IS eW v l:=h.imp id λ⟨g,f,e⟩=>⟨g,_,f,e,vU l⟩
theorem sQ:∀{rs:List (List V)}{l:List aC},eJ eW.P rs l->rs=l.map row
 |_,_,.nil=>rfl
 |_,_,.cons h t=>by rw[bh,<- sQ t,show _=_ from h]
theorem IS.lv {v:V}{l:List aC}(h:IS eW v l):Lb.LV v l:=h.imp id λ⟨g,rs,f,e,a⟩=>⟨g,f,by rw[e,sQ a]⟩
theorem lC (h:bE E) {v:V} {l} (ia:IS eW v l) (Z:Sg):lenOf E Z 23 v=some l.length:=nD h.iI rfl (ia.ls Z 51)
theorem oK (h:bE E) {v:V} {l} (ia:IS eW v l) {i:Nat} {x}(hx:l[i]?=some x):∃g,indexAddr E 23 v (.int .i64 (i:Int))=some (.cZ g [.bool x.1,.str x.2]):=by
 obtain⟨g,r,h1,h2⟩:=IS.at h.iI rfl h.cE rfl ia hx;exact⟨g,by rw[h1,show r=row x from h2];rfl⟩
theorem iZ (h:bE E) {v:V} {l}(ha:LS eW 51 Z v l):∃v',aU Z E.ty true v=some v'/\IS eW v' l:=B5 h.cE rfl ha
theorem wK (hl:Lb.bY E) {b:Bool} (x y:aC):mP E 51 b (.agg [.bool x.1,.str x.2]) (.agg [.bool y.1,.str y.2])=some (decide (x=y)):=by
 unfold mP;rw[hl.cE];simp only[hl.TB,Ax.eqs,yT,mh,jd];rw[e8];simp only[ai,gr,aa];exact⟨λ⟨h1,h2⟩=>Prod.ext h1 h2,λh=>by rw[h];exact⟨rfl,rfl⟩⟩
theorem CG (Z:Sg) (x:aC):aU Z E.ty true (.agg [.bool x.1,.str x.2])=some (.agg [.bool x.1,.str x.2]):=rfl
end
end
section
section
variable {E:Env}{Z:Sg}{K:V->Sg->Prop}
theorem Ur.snap {Y:Sg}{v:V}{x:aD}(hv:Ur v x):aU Y E.ty false v=some v:=by
 obtain⟨a,b,c,d,rfl,h1,h2,h3,h4⟩:=hv
 have q:∀c:V,Ax.bD c=true->cL false c=true->aU.one Y E.ty false c=some c:=λc h1 h2=>by
  unfold aU.one;rw[show dL=11+1 from rfl,jK h1];simp only[h2,bf]
 show (match aX (aU.one Y E.ty false) [.str x.name,a,b,c,d] with
  |some l=>some (V.agg l)
  |none=>none)=_
 simp only[aX,q (.str x.name) rfl rfl,q a h1.is.bD h1.tag,q b h2.is.bD h2.tag,q c h3.is.bD h3.tag,q d h4.is.bD h4.tag]
theorem Fb {rs:List aD}{p:aC × aC}:p∈rs.flatMap eC ↔ ∃r∈rs,(∃f∈r.ins,p=(((true,r.name):aC),((false,f):aC)))\/∃f∈r.outs,p=(((false,f):aC),((true,r.name):aC)):=by
 rw[jb];refine exists_congr λr=>and_congr qj ?_;unfold eC;rw[cq,cv,cv];exact or_congr (exists_congr λf=>and_congr qj eq_comm) (exists_congr λf=>and_congr qj eq_comm)
theorem Gl {rs:List aD}{a b:aC}(hp:(a,b)∈rs.flatMap eC):a∈eE rs/\b∈eE rs:=⟨C9.2 (.inr ⟨_,hp,.inl rfl⟩),C9.2 (.inr ⟨_,hp,.inr rfl⟩)⟩
theorem MU {rs:List aD}(hf:Fits rs) {r r':aD}(h1:r∈rs)(h2:r'∈rs)(he:r.name=r'.name):r=r':=by
 obtain⟨i,hi⟩:=gv.1 h1;obtain⟨j,hj⟩:=gv.1 h2;have:=(tJ hf.ok.1).short.nodup i j r r' hi hj he;subst this;rw[hi]at hj;exact dc hj
end
end
section
section
variable {E:Env}{Z:Sg}{K:V->Sg->Prop}
theorem qH {rs:List aD}(hf:Fits rs):(eE rs).length<=2000:=by
 have h1:=hf.Sj;have h2:=hf.len;refine fh (jG (b:=rs.map gW++(rs.flatMap eC).flatMap λp=>[p.1,p.2]) (Mu rs).nodup λx hx=>gR.1 hx) ?_
 have h3:∀P:List (aC × aC),(P.flatMap λp=>[p.1,p.2]).length=2*P.length:=λP=>by
  induction P with
  |nil=>rfl
  |cons p P ih=>rw[j6,By,ih];simp only[af,b9];omega
 rw[By,bj,h3];omega
end
end
section
structure RcE (E:Env):Prop where
 hs77:E.hspec 77=none
 sp77:E.spec 77=none
 fn77:E.fn 77=some (aA Tryz.f77)
 md77:E.mode 77=.eS
 hs17:E.hspec 17=none
 R1:E.spec 17=none
 fn17:E.fn 17=some (aA Tryz.f17)
 md17:E.mode 17=.eS
 hs19:E.hspec 19=none
 RY:E.spec 19=none
 fn19:E.fn 19=some (aA Tryz.f19)
 md19:E.mode 19=.eS
section
variable {E:Env}{Z:Sg}{K:V->Sg->Prop}
theorem Sz {c:Code}{s:List kH}{w:Nat}{Q:Ax.X->Fr->Sg->Prop} (I:Nat->FT->Sg->Prop)
  (step:∀n F Y,I n F Y->(∀n' F' τ',n'<n->I n' F' τ'->Ax.R E (.loop c) s ⟨w,F'⟩ τ' Q)->Ax.R E (.loop c) s ⟨w,F⟩ Y Q):∀(n:Nat) (F:FT) (Y:Sg),I n F Y->Ax.R E (.loop c) s ⟨w,F⟩ Y Q:=by
 intro n
 induction n using Nat.strongRecOn with
 |_ n ih=>exact λF Y h=>step n F Y h λn' F' τ' hn h'=>ih n' hn F' τ' h'
theorem NC {Y:Sg}{x:aC}{ex:Bool}:elems (Y++[.cells 51 [.bool x.1,.str x.2] ex]) 2 (.sl Y.length 0 1 none)=some ([row x].flatten,[x].length):=by
 simp only[elems,aL];rfl
theorem JZ (hl:Lb.bY E):eA E #[23,23]=true:=by
 unfold eA;simp only[hl.iI,cm,ck,bg];rfl
theorem G0 (hl:Lb.bY E) {Y:Sg}{w:V}{l:List aC}{x:aC}{ex:Bool} (ow:bB eW 51 Y w l)(hb:l.length<=1000000):∃w' τ',Ax.append E (Y++[.cells 51 [.bool x.1,.str x.2] ex]) #[23,23] w (.sl Y.length 0 1 none)=some (w',τ')/\bB eW 51 τ' w' (l++[x])/\Sp (Y++[.cells 51 [.bool x.1,.str x.2] ex]) τ' w/\∀c,aQ w'=some c->aQ w=some c\/Y.length<=c:=by
 obtain⟨w',τ',h1,h2,h3,-,h5⟩:=kP (m:=[x]) (new:=[row x]) hl.iI rfl hl.cE rfl (by decide) (JZ hl) rfl (ow.app [.cells 51 [.bool x.1,.str x.2] ex]) NC (.one rfl) (dQ (b:=1000001) (by decide) (by simp only[af,b9];omega));exact⟨w',τ',h1,h2,h3,λc hc=>(h5 c hc).imp id λh=>by rw[By]at h;omega⟩
def Rk (nx:aC->List aC) (s0:aC->Prop):Nat->aC->Prop
 |0,x=>s0 x
 |k+1,x=>Rk nx s0 k x\/∃y,Rk nx s0 k y/\x∈nx y
def Un (nx:aC->List aC) (s0:aC->Prop) (bN:Int) (x:aC):Prop:=(bN<0/\∃n,Rk nx s0 n x)\/(0<=bN/\Rk nx s0 bN.toNat x)
section
variable {nx:aC->List aC}{s0:aC->Prop}
theorem Rk.mono {x : aC} : ∀ {k n : Nat}, k <= n -> Rk nx s0 k x -> Rk nx s0 n x
  | k, 0, h, hx => by obtain rfl : k = 0 := by omega
                      exact hx
  | k, n + 1, h, hx => by
    rcases cj n k with h1 | h1
    · obtain rfl : k = n + 1 := by omega
      exact hx
    · exact .inl (Rk.mono h1 hx)
theorem Rk.closed {k:Nat}(hc:∀y x,Rk nx s0 k y->x∈nx y->Rk nx s0 k x):∀(n:Nat) {x:aC},Rk nx s0 n x->Rk nx s0 k x
 |0,_,hx=>Rk.mono (ij k) hx
 |n+1,_,.inl hx=>Rk.closed hc n hx
 |n+1,_,.inr ⟨y,hy,hx⟩=>hc y _ (Rk.closed hc n hy) hx
structure Rd (nx:aC->List aC) (s0:aC->Prop) (k:Nat) (A now:List aC):Prop where
 all:∀x,x∈A ↔ Rk nx s0 k x
 sub:∀x,x∈now->x∈A
 rest:∀y,y∈A->y ∉ now->∀x,x∈nx y->x∈A
theorem Rd.start {A now:List aC}(h1:∀x,x∈A ↔ s0 x)(h2:∀x,x∈now ↔ x∈A):Rd nx s0 0 A now:=⟨h1,λx h=>(h2 x).1 h,λy h h'=>absurd ((h2 y).2 h) h'⟩
theorem Rd.next {k:Nat}{A now A' more:List aC}(h:Rd nx s0 k A now)(h1:∀x,x∈A' ↔ x∈A\/∃y∈now,x∈nx y)(h2:∀x,x∈more ↔ x∈A'/\x ∉ A):Rd nx s0 (k+1) A' more:=by
 have key:∀y x,y∈A->x∈nx y->x∈A':=λy x hy hx=>by
  by_cases hn:y∈now
  ·exact (h1 x).2 (.inr ⟨y,hn,hx⟩)
  ·exact (h1 x).2 (.inl (h.rest y hy hn x hx))
 refine⟨λx=>?_,λx hx=>((h2 x).1 hx).1,λy hy hn x hx=>?_⟩
 ·constructor
  ·intro hx;rcases (h1 x).1 hx with hx | ⟨y,hy,hx⟩
   ·exact .inl ((h.all x).1 hx)
   ·exact .inr ⟨y,(h.all y).1 (h.sub y hy),hx⟩
  ·rintro (hx | ⟨y,hy,hx⟩)
   ·exact (h1 x).2 (.inl ((h.all x).2 hx))
   ·exact key y x ((h.all y).2 hy) hx
 ·by_cases hA:y∈A
  ·exact key y x hA hx
  ·exact absurd ((h2 y).2 ⟨hy,hA⟩) hn
theorem Rd.bN {k:Nat}{A now:List aC}(h:Rd nx s0 k A now) (x:aC):x∈A ↔ Un nx s0 (k:Int) x:=by
 rw[h.all];unfold Un;constructor
 ·exact λhx=>.inr ⟨by omega,by rw[dz];exact hx⟩
 ·rintro (⟨h1,-⟩ | ⟨-,hx⟩)
  ·omega
  ·rw[dz]at hx;exact hx
theorem Rd.still {k:Nat}{A:List aC}{bN:Int}(h:Rd nx s0 k A [])(hk:0<=bN->(k:Int)<=bN) (x:aC):x∈A ↔ Un nx s0 bN x:=by
 have hc:∀y x,Rk nx s0 k y->x∈nx y->Rk nx s0 k x:=λy x hy hx=>(h.all x).1 (h.rest y ((h.all y).2 hy) (by simp) x hx);rw[h.all];unfold Un;constructor
 ·intro hx;by_cases hf:bN<0
  ·exact .inl ⟨hf,k,hx⟩
  ·exact .inr ⟨by omega,Rk.mono (by have:=hk (by omega);omega) hx⟩
 ·rintro (⟨-,n,hx⟩ | ⟨-,hx⟩)
  ·exact Rk.closed hc n hx
  ·exact Rk.closed hc _ hx
theorem Rk.sub {P:aC->Prop}(h0:∀x,s0 x->P x)(hn:∀y x,x∈nx y->P x):∀(n:Nat) {x:aC},Rk nx s0 n x->P x
 |0,_,hx=>h0 _ hx
 |n+1,_,.inl hx=>Rk.sub h0 hn n hx
 |n+1,_,.inr ⟨y,_,hx⟩=>hn y _ hx
end
theorem Ux {Y:Sg}{w:V}{l:List aC}{c:Nat} (ow:bB eW 51 Y w l)(h:aQ w=some c):c<Y.length:=by
 rcases ow with⟨rfl,-⟩ | ⟨b,rs,ex,rfl,hb,-⟩
 ·cases h
 ·cases h;exact (AI.1 hb).1
theorem HW {Y:Sg}{w:V}{l:List aC}{c:Nat} (ow:bB eW 51 Y w l)(h:∀u ex,Y[c]?≠some (.cells 51 u ex)):aQ w≠some c:=by
 rcases ow with⟨rfl,-⟩ | ⟨b,rs,ex,rfl,hb,-⟩
 ·intro e;cases e
 ·intro e;cases e;exact h _ _ hb
theorem Zf {Y τ':Sg}{w v:V}{l:List aC} (ow:bB eW 51 Y w l)(hne:∀c,aQ v=some c->aQ w≠some c)(hk:Sp Y τ' v):bB eW 51 τ' w l:=ow.keep λc o hc ho=>hk c o ho λe=>hne c e hc
end
end
section
section
variable {E:Env}{Z:Sg}{K:V->Sg->Prop}
structure Ri (nx:aC->List aC) (all A0:List aC) (P:aC->Prop) (A more:List aC):Prop where
 mem:∀x,x∈A ↔ x∈A0\/P x
 new:∀x,x∈more ↔ x∈A/\x ∉ A0
 sub:∀x,x∈A->x∈all
 len:more.length<=A.length
 nd:A.Nodup
 up:A0.length<=A.length/\(more≠[]->A0.length<A.length)
theorem Ri.le {nx:aC->List aC}{all A0 A more:List aC}{P:aC->Prop}(h:Ri nx all A0 P A more)(hal:all.length<=2000):A.length<=2000:=fh (jG h.nd h.sub) hal
theorem Ri.old {nx:aC->List aC}{all A0 A more:List aC}{P P':aC->Prop}(h:Ri nx all A0 P A more) {x:aC}(hx:x∈A)(hP:∀y,P' y ↔ P y\/y=x):Ri nx all A0 P' A more:=⟨λy=>by
 rw[hP,<- or_assoc,<- h.mem];exact⟨.inl,λh=>h.elim id λe=>by rw[e];exact hx⟩,h.new,h.sub,h.len,h.nd,h.up⟩
theorem Ri.fresh {nx:aC->List aC}{all A0 A more:List aC}{P P':aC->Prop}(h:Ri nx all A0 P A more) {x:aC}(hx:x ∉ A)(ha:x∈all)(hP:∀y,P' y ↔ P y\/y=x):Ri nx all A0 P' (A++[x]) (more++[x]):=by
 have hx0:x ∉ A0:=λe=>hx ((h.mem x).2 (.inl e));refine⟨λy=>?_,λy=>?_,λy hy=>?_,by simp only[By,af,b9];have:=h.len;omega,k8.2 ⟨h.nd,List.pairwise_singleton ..,λa ha b hb e=>hx (by rw[cn]at hb;rw[<- hb,<- e];exact ha)⟩,?_⟩
 ·rw[hP,<- or_assoc,<- h.mem,cq,cn]
 ·rw[cq,cq,cn,h.new];constructor
  ·rintro (⟨h1,h2⟩ | rfl)
   ·exact⟨.inl h1,h2⟩
   ·exact⟨.inr rfl,hx0⟩
  ·rintro⟨h1 | h1,h2⟩
   ·exact .inl ⟨h1,h2⟩
   ·exact .inr h1
 ·rcases cq.1 hy with h1 | h1
  ·exact h.sub y h1
  ·rw[cn.1 h1];exact ha
 ·have:=h.up.1;simp only[By,af,b9];exact⟨by omega,λ_=>by omega⟩
theorem Ri.congr {nx:aC->List aC}{all A0 A more:List aC}{P P':aC->Prop}(h:Ri nx all A0 P A more)(hP:∀y,P' y ↔ P y):Ri nx all A0 P' A more:=⟨λy=>by rw[hP];exact h.mem y,h.new,h.sub,h.len,h.nd,h.up⟩
theorem nB {l:List aC}{j:Nat}{x:aC}(hj:l[j]?=some x) (y:aC):y∈l.take (j+1) ↔ y∈l.take j\/y=x:=by
 rw[ek,hj];simp
theorem mM (a:Bool) (s:bC):Ax.fill (λj=>some (j*2,2)) (gX 1 [V.bool false,V.str []]) [(0,V.agg [V.bool a,V.str s])]=some [.bool a,.str s]:=rfl
theorem J3 (hl:Lb.bY E) {Y:Sg}{w:V}{l:List aC} (on:bB eW 51 Y w l) {i:Nat}{y:aC}(hy:l[i]?=some y):∃b o u cs ex,indexAddr E 23 w (.int .i64 (i:Int))=some (.ref b o)/\Y[b]?=some (.cells u cs ex)/\o+2<=cs.length/\(cs.drop o).take 2=row y:=by
 obtain⟨p,r0,e1,hr0,-,-,hp⟩:=FG hl.iI rfl hl.cE rfl on.ls hy;obtain rfl:r0=row y:=hr0;rcases hp with⟨g,rfl⟩ | ⟨b,o,rfl,u,cs,ex,hb,hle,hrow⟩
 ·exfalso;rcases on with⟨rfl,rfl⟩ | ⟨b,rs,ex,rfl,hb,-⟩
  ·cases hy
  ·unfold indexAddr at e1;simp only[hl.iI,hl.cE]at e1
   repeat' split at e1
   all_goals cases e1
 ·exact⟨b,o,u,cs,ex,e1,hb,hle,hrow⟩
end
end
section
section
variable {E:Env}{Z:Sg}{K:V->Sg->Prop}
structure Sd (rs:List aD) (l A now:List aC):Prop where
 mem:∀x,x∈A ↔ x∈l/\x∈eE rs
 nw:∀x,x∈now ↔ x∈A
 len:now.length<=A.length
theorem Sd.old {rs:List aD}{ls A now:List aC}{j:Nat}{x:aC}(h:Sd rs (ls.take j) A now)(hx:ls[j]?=some x)(hA:x∈eE rs->x∈A):Sd rs (ls.take (j+1)) A now:=⟨λy=>by
 rw[h.mem,nB hx];constructor
 ·exact λe=>⟨.inl e.1,e.2⟩
 ·rintro⟨e | rfl,e2⟩
  ·exact⟨e,e2⟩
  ·exact (h.mem _).1 (hA e2),h.nw,h.len⟩
theorem Sd.fresh {rs:List aD}{ls A now:List aC}{j:Nat}{x:aC}(h:Sd rs (ls.take j) A now)(hx:ls[j]?=some x)(ha:x∈eE rs):Sd rs (ls.take (j+1)) (A++[x]) (now++[x]):=⟨λy=>by
 rw[cq,h.mem,nB hx,cn];constructor
 ·rintro (e | rfl)
  ·exact⟨.inl e.1,e.2⟩
  ·exact⟨.inr rfl,ha⟩
 ·rintro⟨e | rfl,e2⟩
  ·exact .inl ⟨e,e2⟩
  ·exact .inr rfl,λy=>by rw[cq,cq,h.nw],by have:=h.len;rw[By,By];omega⟩
theorem GB {rs:List aD}{x:aC}(hx:x∈eE rs):kindOf rs x≠0:=by
 unfold kindOf;rw[az hx];split
 ·decide
 ·split <;> decide
theorem Dl {rs:List aD}{x:aC}(hx:x ∉ eE rs):kindOf rs x=0:=an hx
end
end
section
section
variable {E:Env}{Z:Sg}{K:V->Sg->Prop}
theorem BL.bD {g:V}{rs:List aD}(hg:BL E rs g):Ax.bD g=true:=by
 obtain⟨es0,es1,get,A,L3,L4,rfl,-⟩:=hg;rfl
theorem Ch.cG {v:V}{l:List aC}(hv:Ch v l) (Y:Sg):cG Y E.ty false v=some v:=by
 rcases hv with⟨rfl,-⟩ | ⟨full,rfl⟩ <;> rfl
theorem zK {rs:List aD} (x y:aC)(hy:y∈bH rs x):y∈eE rs:=(Gl (nC.1 hy)).2
theorem Hg {rs:List aD} (x y:aC)(hy:y∈gC rs x):y∈eE rs:=(Gl (wG.1 hy)).1
end
end
section
structure Ak (E:Env):Prop where
 aaY:E.hspec 101=none
 Yx:E.spec 101=none
 abQ:E.fn 101=some (aA Tryz.f101)
 Z2:E.mode 101=.eS
 TN:aM E (cutAt [1,1,1,1,0,2,2,1,2,1,0,1,2,2,1,1,0,2,1,1,2,2,1,1,0,2,1,1,1,0,0] (aA Tryz.f101).code)=true
 hs34:E.hspec 34=none
 sp34:E.spec 34=none
 fn34:E.fn 34=some (aA Tryz.f34)
 md34:E.mode 34=.eS
 aaX:E.hspec 103=none
 Yw:E.spec 103=none
 abP:E.fn 103=some (aA Tryz.f103)
 Z1:E.mode 103=.eS
 hs40:E.hspec 40=none
 sp40:E.spec 40=none
 fn40:E.fn 40=some (aA Tryz.f40)
 md40:E.mode 40=.eS
 acm:aM E (cutAt [1,0,1,2,2,1,1,0,2,1,0] (aA Tryz.f40).code)=true
 UE:E.hspec 102=none
 Uu:E.spec 102=none
 UG:E.fn 102=some (aA Tryz.f102)
 Uz:E.mode 102=.eS
 aaV:E.hspec 108=none
 Yu:E.spec 108=none
 abM:E.fn 108=some (aA Tryz.f108)
 ZZ:E.mode 108=.eS
 aaL:E.hspec 136=none
 Yk:E.spec 136=none
 abC:E.fn 136=some (aA Tryz.f136)
 ZP:E.mode 136=.eS
 WR:aM E (cutAt [1,0,1,2,2,1,1,0,2,1,0] (aA Tryz.f136).code)=true
 qN:E.ty 131=some { kd:=.map 51 3,size:=1,bytes:=8,zero:=.bX }
section
variable {E:Env}{Z:Sg}{K:V->Sg->Prop}
def FP (nx:aC->List aC) (s0:aC->Prop) (d:Nat) (x:aC):Prop:=Rk nx s0 d x/\∀d',d'<d->¬ Rk nx s0 d' x
section
variable {nx:aC->List aC}{s0:aC->Prop}
theorem FP.uniq {d e:Nat}{x:aC}(h:FP nx s0 d x)(h':FP nx s0 e x):d=e:=by
 rcases jz d e with h1 | h1 | h1
 ·exact absurd h.1 (h'.2 d h1)
 ·exact h1
 ·exact absurd h'.1 (h.2 e h1)
theorem FP.some {n:Nat}{x:aC}(h:Rk nx s0 n x):∃d,d<=n/\FP nx s0 d x:=by
 induction n using Nat.strongRecOn with
 |_ n ih=>
  by_cases hx:∃m,m<n/\Rk nx s0 m x
  ·obtain⟨m,hm,hr⟩:=hx;obtain⟨d,hd,hi⟩:=ih m hm hr;exact⟨d,by omega,hi⟩
  ·exact⟨n,OF _,h,λd' hd hr=>hx ⟨d',hd,hr⟩⟩
theorem FP.back {d:Nat}{x:aC}(h:FP nx s0 (d+1) x):∃y,FP nx s0 d y/\x∈nx y:=by
 rcases h.1 with h1 | ⟨y,hy,hx⟩
 ·exact absurd h1 (h.2 d (ni d))
 ·refine⟨y,⟨hy,λd' hd hr=>?_⟩,hx⟩;exact h.2 (d'+1) (by omega) (.inr ⟨y,hr,hx⟩)
theorem FP.next {d e:Nat}{x y:aC}(h:FP nx s0 d y)(hx:x∈nx y)(h':FP nx s0 e x):e<=d+1:=
 pn λhlt=>h'.2 (d+1) hlt (.inr ⟨y,h.1,hx⟩)
structure Di (nx:aC->List aC) (s0:aC->Prop) (k:Nat) (A now:List aC) (f:aC->Option Nat):Prop where
 rd:Rd nx s0 k A now
 is:∀x,x∈A->∃d,f x=some d/\FP nx s0 d x
 no:∀x,x ∉ A->f x=none
 last:∀x,x∈now->FP nx s0 k x
theorem Di.start {A now:List aC}{f:aC->Option Nat}(h1:∀x,x∈A ↔ s0 x)(h2:∀x,x∈now ↔ x∈A)(hf:∀x,x∈A->f x=some 0)(hn:∀x,x ∉ A->f x=none):Di nx s0 0 A now f:=
 ⟨Rd.start h1 h2,λx hx=>⟨0,hf x hx,(h1 x).1 hx,λd' hd=>by omega⟩,hn,λx hx=>⟨(h1 x).1 ((h2 x).1 hx),λd' hd=>by omega⟩⟩
theorem Di.next {k:Nat}{A now A' more:List aC}{f f':aC->Option Nat}(h:Di nx s0 k A now f)(h1:∀x,x∈A' ↔ x∈A\/∃y∈now,x∈nx y)(h2:∀x,x∈more ↔ x∈A'/\x ∉ A)(hf:∀x,x∈more->f' x=some (k+1))(hf':∀x,x ∉ more->f' x=f x):Di nx s0 (k+1) A' more f':=by
 have rd:=h.rd.next h1 h2
 have hm:∀x,x∈more->FP nx s0 (k+1) x:=λx hx=>by
  obtain⟨hA',hA⟩:=(h2 x).1 hx;exact⟨(rd.all x).1 hA',λd' hd hr=>hA ((h.rd.all x).2 (hr.mono (by omega)))⟩
 refine⟨rd,λx hx=>?_,λx hx=>?_,hm⟩
 ·by_cases hxm:x∈more
  ·exact⟨k+1,hf x hxm,hm x hxm⟩
  ·have hxA:x∈A:=oc λhn=>hxm ((h2 x).2 ⟨hx,hn⟩);rw[hf' x hxm];exact h.is x hxA
 ·rw[hf' x λhxm=>hx ((h2 x).1 hxm).1];exact h.no x λhxA=>hx ((h1 x).2 (.inl hxA))
theorem Di.fin {k:Nat}{A:List aC}{f:aC->Option Nat}(h:Di nx s0 k A [] f) (x:aC) (d:Nat):f x=some d ↔ FP nx s0 d x:=by
 constructor
 ·intro hx;by_cases hA:x∈A
  ·obtain⟨e,h1,h2⟩:=h.is x hA;rw[hx]at h1;cases h1;exact h2
  ·rw[h.no x hA]at hx;cases hx
 ·intro hd;have hA:x∈A:=(h.rd.still (bN:=-1) (by omega) x).2 (.inl ⟨by omega,d,hd.1⟩);obtain⟨e,h1,h2⟩:=h.is x hA;rw[h1,h2.uniq hd]
end
def dV (p:aC × Nat):V × V:=(iD p.1,.int .i64 (p.2:Int))
def kZ (D:List (aC × Nat)) (x:aC):Option Nat:=(D.find? λp=>decide (x=p.1)).map Prod.snd
theorem rW {D:List (aC × Nat)}{x:aC}:kZ D x=none ↔ x ∉ D.map Prod.fst:=by
 unfold kZ;rw[Option.map_eq_none_iff,me,cv];constructor
 ·rintro h ⟨p,hp,rfl⟩;exact h p hp (BY rfl)
 ·exact λh p hp e=>h ⟨p,hp,(ej e).symm⟩
theorem IQ {D:List (aC × Nat)}{x:aC}(hx:x ∉ D.map Prod.fst) (d:Nat) (y:aC):kZ (D++[(x,d)]) y=if y=x then some d else kZ D y:=by
 have h0:=rW.2 hx;unfold kZ at h0 ⊢;rw[List.find?_append];by_cases hy:y=x
 ·subst hy;rw[Option.map_eq_none_iff]at h0;rw[h0,az rfl];simp only[my,Option.none_or,qh,cg]
 ·rw[an hy];simp only[my,List.find?_nil,AS hy,Option.or_none]
theorem C7 (hl:Lb.bY E) (x:aC):∀D:List (aC × Nat),iQ (dF E 51) (iD x) (D.map dV)=some ((kZ D x).map λ(d:Nat)=>V.int .i64 (d:Int))
 | []=>rfl
 |p::D=>by
  show (match dF E 51 (.agg [.bool x.1,.str x.2]) (.agg [.bool p.1.1,.str p.1.2]) with
   |some true=>some (some (V.int .i64 (p.2:Int)))
   |some false=>iQ (dF E 51) (iD x) (D.map dV)
   |none=>none)=_
  unfold kZ;rw[Lb.nG hl,my];by_cases h:x=p.1
  ·rw[BY (show ((x.1,x.2):aC)=(p.1.1,p.1.2) from h)];rfl
  ·rw[AS (show ¬ ((x.1,x.2):aC)=(p.1.1,p.1.2) from h)];exact C7 hl x D
theorem LJ (hl:Lb.bY E) (x:aC) (d:Nat):∀D:List (aC × Nat),x ∉ D.map Prod.fst->kN (dF E 51) (iD x) (.int .i64 (d:Int)) (D.map dV)=some ((D++[(x,d)]).map dV)
 | [],_=>rfl
 |p::D,h=>by
  have hx:x≠p.1:=λe=>h (by rw[e];exact IN ..)
  show (match dF E 51 (.agg [.bool x.1,.str x.2]) (.agg [.bool p.1.1,.str p.1.2]) with
   |some true=>some ((iD x,V.int .i64 (d:Int))::D.map dV)
   |some false=>(match kN (dF E 51) (iD x) (.int .i64 (d:Int)) (D.map dV) with
    |some r=>some (dV p::r)
    |none=>none)
   |none=>none)=_
  rw[Lb.nG hl,AS (show ¬ ((x.1,x.2):aC)=(p.1.1,p.1.2) from hx),LJ hl x d D λhm=>h (ae _ hm)];rfl
theorem zP (h:bE E)(hl:Lb.bY E) (tr:Ak E) {Z:Sg}{v:V}{D:List (aC × Nat)}(hv:entriesOf Z v=some (D.map dV)) (x:aC):lookup E Z 131 v (.agg [.bool x.1,.str x.2]) true=some (.fM [.int .i64 (((kZ D x).getD 0:Nat):Int),.bool (kZ D x).isSome]):=by
 have hk:=Lb.lU hl x.1 x.2;have hf:=C7 hl x D;unfold iD at hf;unfold Ax.lookup;simp only[tr.qN,h.mB,hk,hv,hf,dj,ah,ay];cases kZ D x <;> rfl
theorem PV (h:bE E)(hl:Lb.bY E) (tr:Ak E) {Z:Sg}{v:V}{D:List (aC × Nat)}(hv:entriesOf Z v=some (D.map dV)) {x:aC}{d:Nat}(hd:kZ D x=some d):lookup E Z 131 v (.agg [.bool x.1,.str x.2]) false=some (.int .i64 (d:Int)):=by
 have hk:=Lb.lU hl x.1 x.2;have hf:=C7 hl x D;rw[hd]at hf;unfold iD at hf;unfold Ax.lookup;simp only[tr.qN,h.mB,hk,hv,hf,dj,ah,ay];rfl
theorem Pq (hl:Lb.bY E) (tr:Ak E) {Z:Sg}{b:Nat}{D:List (aC × Nat)}(hb:Z[b]?=some (.map (D.map dV))) {x:aC}(hx:x ∉ D.map Prod.fst) (d:Nat):mapUpdate E Z 131 (.mp b) (.agg [.bool x.1,.str x.2]) (.int .i64 (d:Int))=some (Z.set b (.map ((D++[(x,d)]).map dV))):=by
 have hk:=Lb.lU hl x.1 x.2;have hp:=LJ hl x d D hx;unfold iD at hp;unfold Ax.mapUpdate;simp only[tr.qN,hk,hb,hp,fB,V.aY,dj,je,ah,ay,cg]
theorem R_ {Z:Sg}{b:Nat}{g:Bool}{D:List (aC × Nat)}(hb:Z[b]?=some (.map (D.map dV))) {n:Nat}:bG Z E.ty g (n+2) (.mp b)=some (.imp g (D.map dV)):=by
 rw[bG];simp only[hb];rw[C_ (k:=dV) λp _=>?_];have hp:(iD p.1).cells.all Ax.plainCell=true:=rfl
 show (if (iD p.1).cells.all Ax.plainCell=true then (match (match bG Z E.ty g (n+1) (.int .i64 (p.2:Int)) with
   |some v=>if cL g v then some v else no "snap: borrowed"
   |none=>none) with
   |some v=>some (iD p.1,v)
   |none=>none) else none)=_
 rw[az hp,jK rfl];cases g <;> rfl
end
end
section
section
variable {E:Env}{Z:Sg}{K:V->Sg->Prop}
def Fi (D0 D:List (aC × Nat)) (more:List aC) (k:Nat):Prop:=∀x,kZ D x=if x∈more then some (k+1) else kZ D0 x
theorem Fi.start (D0:List (aC × Nat)) (k:Nat):Fi D0 D0 [] k:=λx=>by rw[an (by simp)]
theorem Fi.fresh {D0 D:List (aC × Nat)}{more:List aC}{k:Nat}(h:Fi D0 D more k) {x:aC}(hx:x ∉ D.map Prod.fst):Fi D0 (D++[(x,k+1)]) (more++[x]) k:=λy=>by
 rw[IQ hx];by_cases hy:y=x
 ·rw[az hy,az (by rw[hy];simp)]
 ·rw[an hy,h y];by_cases hm:y∈more
  ·rw[az hm,az (by simp[hm])]
  ·rw[an hm,an (by simp[hm,hy])]
theorem J6 {Y:Sg}{w:V}{l:List aC}{b:Nat}{es:List (V × V)}{y:O} (ow:bB eW 51 Y w l)(hb:Y[b]?=some (.map es)):bB eW 51 (Y.set b y) w l:=ow.keep λc o hc ho=>by
 rw[No (λe=>?_)]
 ·exact ho
 ·subst e;exact HW ow (λu ex e=>by rw[hb]at e;cases e) hc
theorem PF {Y τ':Sg}{w:V}{l:List aC}{b:Nat}{es:List (V × V)}(hb:Y[b]?=some (.map es)) (ow:bB eW 51 Y w l)(hk:Sp Y τ' w):τ'[b]?=some (.map es):=hk _ _ hb (HW ow λu ex e=>by rw[hb]at e;cases e)
theorem WH (h:bE E)(h':oF E)(hl:Lb.bY E) (q:yF E) (tr:Ak E) {b k:Nat}{g:V}{rs:List aD}(hg:BL E rs g)(hf:Fits rs) {D0 D:List (aC × Nat)}{more now:List aC}{P P':aC->Prop}{wn wm:V}{i:Nat}{y:aC}{Y:Sg}
  (hb:Y[b]?=some (.map (D.map dV))) (on:bB eW 51 Y wn now) (om:bB eW 51 Y wm more)(hne:∀c,aQ wm=some c->aQ wn≠some c)(hy:now[i]?=some y) (ri:Ri (gC rs) (eE rs) (D0.map Prod.fst) P (D.map Prod.fst) more) (fi:Fi D0 D more k)(hy0:kZ D0 y=some k)(hkb:k<=1000000)(hP:∀x,P' x ↔ P x\/x∈gC rs y)
  (F:FT) (g0:F.get 0=g) (g5:F.get 5=.mp b) (g11:F.get 11=wm) (g49:F.get 49=wn) (g51:F.get 51=.int .i64 (i:Int)) {st:List kH}{Q:Ax.X->Fr->Sg->Prop}
  (hk:∀F' τ' wm' D' more',(∀k,k∈[0,5,49,50,51]->F'.get k=F.get k)->F'.get 11=wm'->τ'[b]?=some (.map (D'.map dV))->bB eW 51 τ' wn now->bB eW 51 τ' wm' more'->(∀c,aQ wm'=some c->aQ wn≠some c)->Ri (gC rs) (eE rs) (D0.map Prod.fst) P' (D'.map Prod.fst) more'->Fi D0 D' more' k->M E st .normal ⟨85,F'⟩ τ' Q):Ax.R E (cutAt [1,1,1,1,0,2,2,1,2,1,0,1,2,2,1,1,0,2] (aA Tryz.f101).code) st ⟨85,F⟩ Y Q:=by
 obtain⟨c,o,u,cs,ex,e1,hc,hle,hrow⟩:=J3 hl on hy;have hlen:=qH hf;have hyA:y∈D0.map Prod.fst:=oc λhn=>by rw[rW.2 hn]at hy0;cases hy0
 have d21:=tr.TN;simp only[aA,Tryz.f101,cutAt,aq]at d21;simp only[aA,Tryz.f101,KP,Ax.loadAt,Ax.storeAt,↓reduceIte,reduceEqDiff,reduceLT,reduceAdd,reduceCtorEq,h.cE,cutAt,g0,g49,g51,e1,hc,hle,hrow,row,aL,bR];refine aN (D5 h h' hl q hg hf y) ?_;rintro v σ' ⟨rfl,hv⟩;have hvi:=hv.UC.is;have la:=lC h hvi;have hadl:gC rs y ⊆ eE rs:=λx hx=>Hg y x hx;have hnl:(gC rs y).length<=2000:=fh (jG (Hh rs y).nodup hadl) hlen;have hz1:(Y++[O.cells 51 [.bool y.1,.str y.2] true])[Y.length]?=some (O.cells 51 [.bool y.1,.str y.2] true):=aL;have hb1:(Y++[O.cells 51 [.bool y.1,.str y.2] true])[b]?=some (.map (D.map dV)):=aJ hb;have on1:=on.app [O.cells 51 [.bool y.1,.str y.2] true];have om1:=om.app [O.cells 51 [.bool y.1,.str y.2] true];have hmz:∀c,aQ wm=some c->c≠Y.length:=λc hc e=>by have:=Ux om hc;omega
 generalize Y++[O.cells 51 [.bool y.1,.str y.2] true]=τ1 at hz1 hb1 on1 om1 ⊢;generalize Y.length=z at hz1 hmz ⊢;simp only[KP,↓reduceIte,reduceLT,la];generalize gC rs y=L at hvi hv la hnl hP hadl;refine aV (λj F2 τ2=>(∀k,k∈[0,5,49,50,51]->F2.get k=F.get k)/\F2.get 13=.ref z 0/\F2.get 57=v/\F2.get 58=.int .i64 (L.length:Int)/\F2.get 59=.int .i64 (j:Int)/\τ2[z]?=some (O.cells 51 [.bool y.1,.str y.2] true)/\∃D more wm,F2.get 11=wm/\τ2[b]?=some (.map (D.map dV))/\bB eW 51 τ2 wn now/\bB eW 51 τ2 wm more/\(∀c,aQ wm=some c->aQ wn≠some c)/\(∀c,aQ wm=some c->c≠z)/\Ri (gC rs) (eE rs) (D0.map Prod.fst) (λx=>P x\/x∈L.take j) (D.map Prod.fst) more/\Fi D0 D more k) L.length ?_ ?_ L.length 0 _ _ (by omega) ⟨?_,(fK (by simp +decide only[GS,aj]) ⟨hz1,D,more,wm,(by simp +decide only[GS,g11]),hb1,on1,om1,hne,hmz,ri.congr λx=>by simp,fi⟩)⟩
 ·clear hb1 on1 om1 hne hmz ri fi hz1 on om hb;rintro j F2 τ2 hj ⟨hF,g13,g57,g58,g59,hz,D,more,wm,g11,hb,on,om,hne,hmz,ri,fi⟩ next
  obtain⟨x,hx⟩:∃x,L[j]?=some x:=⟨_,AT hj⟩;obtain⟨gi,e1⟩:=oK h hvi hx;have hlt:=dP hj;have hadd:=bW j (by omega);have f5:F2.get 5=.mp b:=(hF 5 (by simp)).trans g5;have hAl:=ri.le hlen;have hml:=ri.len;have hym:y ∉ more:=λe=>((ri.new y).1 e).2 hyA;have hyD:kZ D y=some k:=by rw[fi y,an hym];exact hy0
  have hzb:z≠b:=λe=>by rw[e,hb]at hz;cases hz
  have lk:=λ(Z:Sg)(hσ:Z[b]?=some (.map (D.map dV)))=>zP (Z:=Z) (v:=.mp b) h hl tr (show entriesOf Z (.mp b)=some (D.map dV) by unfold entriesOf;simp only[hσ]) x;rw[aG];have hz2:(τ2++[O.cells 51 [.bool x.1,.str x.2] true])[τ2.length]?=some (O.cells 51 [.bool x.1,.str x.2] true):=aL;have hzz:(τ2++[O.cells 51 [.bool x.1,.str x.2] true])[z]?=some (O.cells 51 [.bool y.1,.str y.2] true):=aJ hz;have hb2:(τ2++[O.cells 51 [.bool x.1,.str x.2] true])[b]?=some (.map (D.map dV)):=aJ hb;have on2:=on.app [O.cells 51 [.bool x.1,.str x.2] true];have om2:=om.app [O.cells 51 [.bool x.1,.str x.2] true];have hle2:τ2.length<=(τ2++[O.cells 51 [.bool x.1,.str x.2] true]).length:=by rw[By];omega
  by_cases hxA:x∈D.map Prod.fst
  ·have hxs:(kZ D x).isSome=true:=by
    cases hd:kZ D x with
    |none=>exact absurd hxA (rW.1 hd)
    |some d=>rfl
   have lk:=lk _ hb2;rw[hxs]at lk;simp only[KP,Ax.loadAt,Ax.storeAt,↓reduceIte,reduceEqDiff,reduceLT,reduceAdd,h.cE,f5,g57,g58,g59,hlt,hadd,e1,lk,aL,bR];refine next _ _ ⟨?_,(fK (by simp +decide only[GS,g13,g57,g58,aj]) ⟨hzz,D,more,wm,(by simp +decide only[GS,g11]),hb2,on2,om2,hne,hmz,ri.old hxA λy=>?_,fi⟩)⟩
   ·intro k hk;rw[<- hF k hk];simp only[IT,cr,fu]at hk;rcases hk with rfl | rfl | rfl | rfl | rfl <;> simp +decide only[GS]
   ·rw[or_assoc,nB hx]
  ·have hxs:(kZ D x).isSome=false:=by rw[rW.2 hxA];rfl
   have lk:=lk _ hb2;rw[hxs]at lk;have lk2:=PV (Z:=τ2++[O.cells 51 [.bool x.1,.str x.2] true]) (v:=.mp b) h hl tr (show entriesOf _ (.mp b)=some (D.map dV) by unfold entriesOf;simp only[hb2]) hyD;have hup:=Pq hl tr hb2 hxA (k+1);have hadk:=bW k (by omega);have hb3:((τ2++[O.cells 51 [.bool x.1,.str x.2] true]).set b (.map ((D++[(x,k+1)]).map dV)))[b]?=some (.map ((D++[(x,k+1)]).map dV)):=bt (AI.1 hb2).1;have on3:=J6 (y:=.map ((D++[(x,k+1)]).map dV)) on2 hb2;have om3:=J6 (y:=.map ((D++[(x,k+1)]).map dV)) om2 hb2;have hz3:((τ2++[O.cells 51 [.bool x.1,.str x.2] true]).set b (.map ((D++[(x,k+1)]).map dV)))[z]?=some (O.cells 51 [.bool y.1,.str y.2] true):=by rw[No (jy hzb)];exact hzz
   have hy2b:τ2.length≠b:=λe=>by rw[e,hb2]at hz2;cases hz2
   have hz4:((τ2++[O.cells 51 [.bool x.1,.str x.2] true]).set b (.map ((D++[(x,k+1)]).map dV)))[τ2.length]?=some (O.cells 51 [.bool x.1,.str x.2] true):=by rw[No (jy hy2b)];exact hz2
   have hle3:τ2.length<=((τ2++[O.cells 51 [.bool x.1,.str x.2] true]).set b (.map ((D++[(x,k+1)]).map dV))).length:=by rw[ec];exact hle2
   have hset:∀{u:Sg},mapUpdate E (τ2++[O.cells 51 [.bool x.1,.str x.2] true]) 131 (.mp b) (.agg [.bool x.1,.str x.2]) (.int .i64 ((k+1:Nat):Int))=some u ↔ (τ2++[O.cells 51 [.bool x.1,.str x.2] true]).set b (.map ((D++[(x,k+1)]).map dV))=u:=by
    intro u;rw[hup,jd]
   generalize hτ3:(τ2++[O.cells 51 [.bool x.1,.str x.2] true]).set b (.map ((D++[(x,k+1)]).map dV))=τ3 at *;obtain⟨w',τ5,ha5,ow5,Oc,fr5⟩:=G0 (x:=x) (ex:=true) hl om3 (by omega);have hzlt:=(AI.1 hz3).1;simp only[KP,Ax.loadAt,Ax.storeAt,↓reduceIte,reduceEqDiff,reduceLT,reduceLeDiff,reduceAdd,reduceMul,h.iI,h.cE,f5,g11,g13,g57,g58,g59,hlt,hadd,hadk,e1,lk,lk2,hup,hzz,hz4,ha5,aL,bR,mM,aT d21,bK];refine next _ _ ⟨?_,(fK (by simp +decide only[GS,g13,g57,g58,aj]) ⟨Oc _ _ (aJ hz3) (λe=>hmz _ e rfl),D++[(x,k+1)],more++[x],w',(by simp +decide only[GS]),PF (aJ hb3) (om3.app _) Oc,Zf (on3.app _) (λc hc=>hne c hc) Oc,ow5,λc hc=>?_,λc hc=>?_,?_,fi.fresh hxA⟩)⟩
   ·intro k hk;rw[<- hF k hk];simp only[IT,cr,fu]at hk;rcases hk with rfl | rfl | rfl | rfl | rfl <;> simp +decide only[GS]
   ·rcases fr5 c hc with hc | hc
    ·exact hne c hc
    ·exact λe=>by have:=Ux on3 e;omega
   ·rcases fr5 c hc with hc | hc
    ·exact hmz c hc
    ·omega
   ·rw[gp];exact ri.fresh hxA (hadl (ag hx)) λy=>by rw[or_assoc,nB hx]
 ·rintro F2 τ2 ⟨hF,g13,g57,g58,g59,hz,D,more,wm,g11,hb,on,om,hne,hmz,ri,fi⟩;have hlt:=dZ (bl L.length);rw[ak (OF _)]at ri;rw[aG];simp only[KP,↓reduceIte,reduceLT,g58,g59,hlt];refine hk _ _ wm D more ?_ (by simp +decide only[GS,g11]) hb on om hne (ri.congr hP) fi;intro k hk;rw[<- hF k hk];simp only[IT,cr,fu]at hk;rcases hk with rfl | rfl | rfl | rfl | rfl <;> simp +decide only[GS]
 ·intro k hk;simp only[IT,cr,fu]at hk;rcases hk with rfl | rfl | rfl | rfl | rfl <;> simp +decide only[GS]
end
end
end Go.Proofs.YtmbikbgdbbcbmaaGreatDoor
end
