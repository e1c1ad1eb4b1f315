/- Part 18 of the proof. -/
import Derived.Test.YtmhchflckonklaaGreatDoorY
import Derived.Test.YtmhchflckonklaaGreatDoorZ17
import Derived.Test.YtmhchflckonklaaGreatDoorZ16
import Derived.Test.YtmhchflckonklaaGreatDoorZ15
set_option maxHeartbeats 8000000
set_option linter.unusedVariables false
set_option maxRecDepth 10000
open Nat (reduceLT reduceAdd reduceEqDiff reduceLeDiff reduceMul)
open List (nodup_nil find?_some map_nil)
open Int (reduceNeg)
section
namespace Go.Proofs.YtmhchflckonklaaGreatDoor
open Go Go.Ax Go.AxS
section
section
variable {E:Env}{Z:Sg}{K:V->Sg->Prop}
theorem II {β γ:Type}{P:β->γ->Prop}:∀{a:List β}{b:List γ},dZ P a b->∀{j:Nat}{y:γ},b[j]?=some y->∃x,a[j]?=some x/\P x y
 |_,_,.nil,_,_,h=>by cases h
 |_::_,_::_,.cons h t,0,_,e=>by cases e;exact⟨_,rfl,h⟩
 |_::_,_::_,.cons h t,j+1,_,e=>by
  obtain⟨x,h1,h2⟩:=II t (j:=j) e
  exact⟨x,h1,h2⟩
structure QN (Y:Sg) (b i:Nat) (R:List (List V)) (ex:Bool) (steps:List AxS.Step):Prop where
 hb:Y[b]?=some (.cells 113 R.flatten ex)
 len:R.length=steps.length
 JU:∀x∈R,x.length=5
 row:∀(j:Nat) (s:AxS.Step),steps[j]?=some s->∃p q,R[j]?=some ([.str s.out,.int .i64 s.op,p,q,.int .i64 s.n])/\(j<i->aV aQ 9 Y p s.args/\aV aQ 9 Y q s.lits/\aR p≠some b/\aR q≠some b)/\(i<=j->IS aQ p s.args/\IS aQ q s.lits)
theorem QN.start {Y:Sg}{b:Nat}{rs:List (List V)}{ex:Bool}{steps:List AxS.Step}(hb:Y[b]?=some (.cells 113 rs.flatten ex))(ha:dZ fQ.P rs steps):QN Y b 0 rs ex steps:=by
 refine⟨hb,ha.len,Lay.lens ha,λj s hj=>?_⟩
 obtain⟨r,h1,a,l,rfl,h2,h3⟩:=II ha hj
 exact⟨a,l,h1,λh=>by omega,λ_=>⟨h2,h3⟩⟩
theorem QN.step {Y τ':Sg}{b i:Nat}{R:List (List V)}{ex:Bool}{steps:List AxS.Step}{s:AxS.Step}{wp wq:V}(h:QN Y b i R ex steps)(hs:steps[i]?=some s)(hb:τ'[b]?=some (.cells 113 (R.set i ([.str s.out,.int .i64 s.op,wp,wq,.int .i64 s.n])).flatten ex)) (o1:aV aQ 9 τ' wp s.args) (o2:aV aQ 9 τ' wq s.lits) (k:∀(c:Nat) (o:O),Y[c]?=some o->c≠b->τ'[c]?=some o) (f1:∀c,aR wp=some c->Y.length<=c) (f2:∀c,aR wq=some c->Y.length<=c):QN τ' b (i+1) (R.set i ([.str s.out,.int .i64 s.op,wp,wq,.int .i64 s.n])) ex steps:=by
 have hbl:=(AI.1 h.hb).1
 have hil:i<R.length:=by rw[h.len];exact (AI.1 hs).1
 refine⟨hb,by rw[ec];exact h.len,λx hx=>?_,λj t hj=>?_⟩
 ·rcases List.mem_or_eq_of_mem_set hx with hx | rfl
  ·exact h.JU x hx
  ·rfl
 ·by_cases hij:i=j
  ·subst hij
   rw[hs]at hj
   cases hj
   refine⟨wp,wq,bj hil,λ_=>⟨o1,o2,λe=>?_,λe=>?_⟩,λh=>by omega⟩
   ·have:=f1 b e;omega
   ·have:=f2 b e;omega
  ·obtain⟨p,q,h1,h2,h3⟩:=h.row j t hj
   refine⟨p,q,by rw[IT hij];exact h1,λhlt=>?_,λhle=>h3 (by omega)⟩
   obtain⟨a1,a2,a3,a4⟩:=h2 (by omega)
   exact⟨a1.keep λc o hc ho=>k c o ho (λe=>a3 (by rw[hc,e])),a2.keep λc o hc ho=>k c o ho (λe=>a4 (by rw[hc,e])),a3,a4⟩
theorem UX {Y:Sg}{w:V}{l:List bH} (ow:aV aQ 9 Y w l):OL Y w l:=by
 rcases ow with h | ⟨b,rs,ex,rfl,hb,ha⟩
 ·exact .inl h
 ·obtain rfl:=BK ha
  rw[Dk]at hb
  exact .inr ⟨b,_,ex,rfl,hb,ah (by rw[bg];exact ae _)⟩
theorem Q8 {v:V}{l:List bH}(h:TT v l):jG aQ v l:=by
 rcases h with h | ⟨full,rfl⟩
 ·exact .inl h
 ·exact .inr ⟨_,full,rfl,Aa l⟩
theorem Cp (h:bK E) {Y:Sg}{w:V}{l:List bH}{m:Nat} (ow:aV aQ 9 Y w l):∃v',bG Y E.ty false (m+2) w=some v'/\bT false v'=true/\jG aQ v' l:=by
 obtain⟨v',h1,h2⟩:=(UX ow).snap (m:=m) h
 exact⟨v',h1,h2.tag,Q8 h2⟩
theorem CX {α β:Type}{f:α->Option β}:∀{a:List α}{a':List β}{b:List α}{b':List β},aW f a=some a'->aW f b=some b'->aW f (a++b)=some (a'++b')
 | [],a',b,b',h1,h2=>by cases h1;exact h2
 |x::a,a',b,b',h1,h2=>by
  rw[aW]at h1
  cases hx:f x with
  |none=>rw[hx]at h1;cases h1
  |some y=>
   cases hm:aW f a with
   |none=>rw[hx,hm]at h1;cases h1
   |some l=>
    rw[hx,hm]at h1
    cases h1
    rw[dy,aW,hx,CX hm h2]
    rfl
theorem G2 (h:bK E) {Y:Sg}{b n:Nat}{R:List (List V)}{ex:Bool}{steps:List AxS.Step}(hs:QN Y b n R ex steps)(hn:n=steps.length):∃v',bG Y E.ty false 12 (.sl b 0 n none)=some v'/\bT false v'=true/\jG gK v' steps:=by
 have key:∀(R:List (List V)) (steps:List AxS.Step),R.length=steps.length->(∀(j:Nat) (s:AxS.Step),steps[j]?=some s->∃p q,R[j]?=some ([.str s.out,.int .i64 s.op,p,q,.int .i64 s.n])/\aV aQ 9 Y p s.args/\aV aQ 9 Y q s.lits)->∃R',aW (λv=>match bG Y E.ty false 11 v with
   |some v=>if bT false v then some v else Ax.no "snap: borrowed"
   |none=>none) R.flatten=some R'.flatten/\dZ gK.P R' steps:=by
  intro R
  induction R with
  |nil=>
   intro steps hl _
   have:steps=[]:=List.eq_nil_of_length_eq_zero hl.symm
   subst this
   exact⟨[],rfl,.nil⟩
  |cons r R ih=>
   intro steps hl hr
   cases steps with
   |nil=>cases hl
   |cons s steps=>
    obtain⟨R',m1,a1⟩:=ih steps (by simpa using hl) λj t hj=>hr (j+1) t hj
    obtain⟨p,q,h1,h2,h3⟩:=hr 0 s rfl
    cases h1
    obtain⟨p',e1,t1,i1⟩:=Cp (m:=9) h h2
    obtain⟨q',e2,t2,i2⟩:=Cp (m:=9) h h3
    refine⟨([.str s.out,.int .i64 s.op,p',q',.int .i64 s.n])::R',?_,.cons ⟨p',q',rfl,i1,i2⟩ a1⟩
    rw[da,da]
    refine CX ?_ m1
    have es:∀z:bH,bG Y E.ty false 11 (.str z)=some (.str z):=λz=>gF rfl
    have ei:∀z:Int,bG Y E.ty false 11 (.int .i64 z)=some (.int .i64 z):=λz=>gF rfl
    have ts:∀z:bH,bT false (.str z)=true:=λ_=>rfl
    have ti:∀z:Int,bT false (.int .i64 z)=true:=λ_=>rfl
    simp only[aW,es,ei,ts,ti,e1,e2,t1,t2,bh]
 obtain⟨R',m1,a1⟩:=key R steps hs.len λj s hj=>by
  obtain⟨p,q,h1,h2,-⟩:=hs.row j s hj
  obtain⟨a1,a2,-⟩:=h2 (by have:=(AI.1 hj).1;omega)
  exact⟨p,q,h1,a1,a2⟩
 have hfl:R.flatten.length=n*5:=by rw[lU R hs.JU,hs.len,hn]
 have htk:(R.flatten.drop 0).take (n*5)=R.flatten:=by rw[fg,ah (by omega)]
 refine⟨.bS false R' (ex&&decide (0<5)&&(0+n*5==R.flatten.length)),?_,rfl,.inr ⟨R',_,rfl,a1⟩⟩
 rw[bG]
 simp only[hs.hb,h.bR]
 rw[bf (by omega)]
 have m2:aW (λv=>match bG Y E.ty false 11 v with
   |some v=>if bT false v then some v else Ax.no "snap: borrowed"
   |none=>none) ((R.flatten.drop 0).take (n*5))=some R'.flatten:=by rw[htk];exact m1
 refine Eq.trans (au (λo=>match o with
  |some l=>some (V.bS false (Ax.rows 5 n l) (ex&&decide (0<5)&&(0+n*5==R.flatten.length)))
  |none=>none) m2) ?_
 show some (V.bS false (Ax.rows 5 n R'.flatten) _)=_
 have hl':n=R'.length:=by rw[a1.len,hn]
 rw[hl',show Ax.rows 5 R'.length R'.flatten=R' from kG (sz:=5) R' (Lay.lens (L:=gK) a1)]
end
end
section
section
variable {E:Env}{Z:Sg}{K:V->Sg->Prop}
def Tw (v:V) (x:aD):Prop:=∃a b c d,v=.agg [.str x.name,a,b,c,d]/\jG aQ a x.ins/\jG aQ b x.outs/\jG aQ c x.after/\jG gK d x.steps
theorem qV (h:bK E) {Y:Sg}{w:V}{l:List bH} (ow:aV aQ 9 Y w l):∃v',aT.one Y E.ty false w=some v'/\jG aQ v' l:=by
 obtain⟨v',h1,h2,h3⟩:=Cp (m:=10) h ow
 refine⟨v',?_,h3⟩
 unfold aT.one
 rw[show dN=10+2 from rfl,h1]
 simp only[h2,bh]
theorem QN.Y6 {Y:Sg}{b i u:Nat}{R:List (List V)}{ex:Bool}{steps:List AxS.Step}{cs:List V}{y:O}(h:QN Y b i R ex steps)(hz:Y[1]?=some (.cells u cs true))(hu:u≠9)(hb:2<=b):QN (Y.set 1 y) b i R ex steps:=by
 refine⟨by rw[IT (by omega)];exact h.hb,h.len,h.JU,λj s hj=>?_⟩
 obtain⟨p,q,h1,h2,h3⟩:=h.row j s hj
 refine⟨p,q,h1,λhlt=>?_,h3⟩
 obtain⟨a1,a2,a3,a4⟩:=h2 hlt
 exact⟨aV.set a1 (kR hz hu a1),aV.set a2 (kR hz hu a2),a3,a4⟩
theorem Qp (h:bK E)(h':tP E) {v:V}{x:aD}(hv:IP v x)(hs:Small x):aB E 62 [v] Z λv σ'=>σ'=Z/\Tw v x:=by
 have ev:=hv.snap (E:=E) Z
 obtain⟨a,b,c,d,rfl,ia,ib,ic,id⟩:=hv
 have o1:=aN ia.bF
 have o2:=aN ib.bF
 have o3:=aN ic.bF
 have o4:=aN id.bF
 have l4:=hs.steps
 rw[aI h'.hs62 h'.sp62 h'.fn62 h'.md62 (args':=[.agg [.str x.name,a,b,c,d]]) (by simp only[aW,ev]),aY (by kernel_rfl)]
 simp only[aA,Tryz.f62,KP,↓reduceIte,reduceLT,reduceAdd,h.bM,o1,o2,o3,o4]
 refine abk h h' ia ib ic id hs _ ?_ ?_
 ·exact (by simp +decide only[GS])
 intro F1 τ1 w1 w2 w3 w4 g1 g2 b0 z0 ow1 ow2 ow3 ow4 sep
 have g2:F1.get 2=.ref 1 0:=g2.trans (by simp +decide only[GS])
 obtain⟨k1,t1⟩:=nJ ow1
 obtain⟨k2,t2⟩:=nJ ow2
 obtain⟨k3,t3⟩:=nJ ow3
 rcases ow4 with⟨rfl,hst⟩ | ⟨b4,rs,ex,rfl,hb,ha⟩
 ·have ln:∀Z,lenOf E Z 44 .aF=some 0:=λZ=>by unfold lenOf;rw[h.gA]
  simp only[KP,Ax.loadAt,↓reduceIte,reduceLT,reduceCtorEq,h.gA,h.bM,g1,b0,ln]
  rw[aC]
  have hz1:=(AI.1 z0).1
  have s1:∀y,(τ1.set 1 y)[1]?=some y:=λy=>bj hz1
  obtain⟨a',e1,j1⟩:=qV h (aV.set (y:=O.cells 46 [.str x.name,w1,w2,w3,.aF] true) ow1 (kR z0 (by decide) ow1))
  obtain⟨b',e2,j2⟩:=qV h (aV.set (y:=O.cells 46 [.str x.name,w1,w2,w3,.aF] true) ow2 (kR z0 (by decide) ow2))
  obtain⟨c',e3,j3⟩:=qV h (aV.set (y:=O.cells 46 [.str x.name,w1,w2,w3,.aF] true) ow3 (kR z0 (by decide) ow3))
  have e0:∀Y (z:bH),aT.one Y E.ty false (.str z)=some (.str z):=λY z=>rfl
  have e5:∀Y,aT.one Y E.ty false .aF=some .aF:=λY=>rfl
  simp only[KP,Ax.loadAt,Ax.storeAt,↓reduceIte,reduceEqDiff,reduceLT,reduceAdd,Int.reduceLT,h.bM,g1,g2,b0,z0,k1,k2,k3,s1,e0,e1,e2,e3,e5,cG,aT,aW]
  exact⟨a',b',c',.aF,rfl,j1,j2,j3,.inl ⟨rfl,hst⟩⟩
 ·generalize hn:x.steps.length=n at *
  obtain⟨hb2,d1,d2,d3⟩:=sep b4 rfl
  have ln:∀Z,lenOf E Z 44 (.sl b4 0 n none)=some n:=λZ=>by unfold lenOf;rw[h.gA]
  simp only[KP,Ax.loadAt,↓reduceIte,reduceLT,reduceCtorEq,h.gA,h.bM,g1,b0,ln]
  refine aS (λi F Y=>F.get 1=.ref 0 0/\F.get 2=.ref 1 0/\F.get 22=.int .i64 (n:Int)/\F.get 23=.int .i64 (i:Int)/\Y[0]?=some (O.cells 46 [.str x.name,w1,w2,w3,.sl b4 0 n none] true)/\Y[1]?=some (O.cells 46 [.str [],.aF,.aF,.aF,.aF] true)/\aV aQ 9 Y w1 x.ins/\aV aQ 9 Y w2 x.outs/\aV aQ 9 Y w3 x.after/\∃R,QN Y b4 i R ex x.steps) n ?_ ?_ n 0 _ _ (by omega) (fM (by simp +decide only[GS,g1,g2,ag]) ⟨b0,z0,ow1,ow2,ow3,rs,QN.start hb ha⟩)
  ·rintro i F Y hi ⟨g1,g2,g22,g23,b0,z0,ow1,ow2,ow3,R,sa⟩ next
   obtain⟨s,hsi⟩:∃y,x.steps[i]?=some y:=⟨_,BY (by omega)⟩
   obtain⟨p,q,hr,-,hpq⟩:=sa.row i s hsi
   obtain⟨ip,iq⟩:=hpq (ae _)
   have hsm:=aa hsi
   have hlt:=dG hi
   have hadd:=bQ i (by omega)
   rw[aC]
   simp only[KP,↓reduceIte,reduceEqDiff,reduceLT,g22,g23,hlt]
   refine abj h h' b0 sa.hb sa.JU hr hi ip iq (hs.args s hsm) (hs.lits s hsm) hb2 _ ?_ ?_ ?_
   ·exact (by simp +decide only[GS,g1])
   ·exact (by simp +decide only[GS])
   intro F' τ' wp wq hF hb' op oq hk f1 f2
   have q1:F'.get 1=.ref 0 0:=(hF 1 (by simp)).trans (by simp +decide only[GS,g1])
   have q2:F'.get 2=.ref 1 0:=(hF 2 (by simp)).trans (by simp +decide only[GS,g2])
   have q22:F'.get 22=.int .i64 (n:Int):=(hF 22 (by simp)).trans (by simp +decide only[GS,g22])
   have q23:F'.get 23=.int .i64 (i:Int):=(hF 23 (by simp)).trans (by simp +decide only[GS,g23])
   simp only[KP,↓reduceIte,reduceLT,q23,hadd]
   exact next _ _ (fM (by simp +decide only[GS,q1,q2,q22,ag]) ⟨hk 0 _ b0 (by omega),hk 1 _ z0 (by omega),ow1.keep λc o hc ho=>hk c o ho (λe=>d1 (by rw[hc,e])),ow2.keep λc o hc ho=>hk c o ho (λe=>d2 (by rw[hc,e])),ow3.keep λc o hc ho=>hk c o ho (λe=>d3 (by rw[hc,e])),_,sa.step hsi hb' op oq hk f1 f2⟩)
  ·rintro F Y ⟨g1,g2,g22,g23,b0,z0,ow1,ow2,ow3,R,sa⟩
   have hlt:=dH (b9 n)
   have hz1:=(AI.1 z0).1
   have s1:∀y,(Y.set 1 y)[1]?=some y:=λy=>bj hz1
   obtain⟨a',e1,j1⟩:=qV h (aV.set (y:=O.cells 46 [.str x.name,w1,w2,w3,.sl b4 0 n none] true) ow1 (kR z0 (by decide) ow1))
   obtain⟨b',e2,j2⟩:=qV h (aV.set (y:=O.cells 46 [.str x.name,w1,w2,w3,.sl b4 0 n none] true) ow2 (kR z0 (by decide) ow2))
   obtain⟨c',e3,j3⟩:=qV h (aV.set (y:=O.cells 46 [.str x.name,w1,w2,w3,.sl b4 0 n none] true) ow3 (kR z0 (by decide) ow3))
   obtain⟨d',e4,t4,j4⟩:=G2 h (sa.Y6 (y:=O.cells 46 [.str x.name,w1,w2,w3,.sl b4 0 n none] true) z0 (by decide) hb2) hn.symm
   have e4:aT.one (Y.set 1 (O.cells 46 [.str x.name,w1,w2,w3,.sl b4 0 n none] true)) E.ty false (.sl b4 0 n none)=some d':=by
    unfold aT.one
    rw[show dN=12 from rfl,e4]
    simp only[t4,bh]
   have e0:∀Y (z:bH),aT.one Y E.ty false (.str z)=some (.str z):=λY z=>rfl
   rw[aC]
   simp only[KP,Ax.loadAt,Ax.storeAt,↓reduceIte,reduceEqDiff,reduceLT,reduceAdd,h.bM,g1,g2,g22,g23,hlt,b0,z0,k1,k2,k3,s1,e0,e1,e2,e3,e4,cG,aT,aW]
   exact⟨a',b',c',d',rfl,j1,j2,j3,j4⟩
end
end
end Go.Proofs.YtmhchflckonklaaGreatDoor
end
section
namespace Go.Proofs.YtmhchflckonklaaGreatDoor.Lb
open Go Go.Ax Go.AxS
section
def Wb (v:V) (l:List aG):Prop:=(v=.aF/\l=[])\/∃full,v=.bS false (l.map row) full
theorem Wb.lv {v:V}{l:List aG}(h:Wb v l):LV v l:=h.imp id λ⟨full,e⟩=>⟨false,full,e⟩
section
variable {E:Env}{Z:Sg}{K:V->Sg->Prop}
theorem uW (l:List aG):Br 2 (l.map row)=true:=by
 cases l with
 |nil=>rfl
 |cons x l=>rfl
theorem CD (n:Nat)(h:n<=1000000000000):roomy n 24=true:=by
 unfold roomy
 rw[OF]
 omega
theorem Mn (n:Nat)(h:n<=1000000000000):lG n 24=true:=by
 unfold lG
 rw[OF]
 omega
theorem AE (g full:Bool) (l:List aG):elems Z 2 (.bS g (l.map row) full)=some (l.flatMap row,l.length):=by
 show (if Br 2 (l.map row)=true then some ((l.map row).flatten,(l.map row).length) else none)=_
 rw[uW,bf rfl,Dl,bg]
end
end
section
section
variable {E:Env}{Z:Sg}{K:V->Sg->Prop}
theorem Kj (n:Nat)(h:n<=10000000000000):wr .i64 ((n:Int)+1)=((n+1:Nat):Int):=by
 rw[zS,bf]
 ·rfl
 ·rw[aj,OF,OF]
  exact⟨show (-9223372036854775808:Int)<=(n:Int)+1 by omega,show (n:Int)+1<=(9223372036854775807:Int) by omega⟩
theorem qH (h:cH E) (c:Bool) (a b:Bool) (s t:List Nat):m_ E 51 c (.agg [.bool a,.str s]) (.agg [.bool b,.str t])=some (decide (((a,s):aG)=(b,t))):=by
 unfold m_
 simp only[h.cF,h.SK,Ax.eqs]
 rw[vA]
 cases a <;> cases b <;> simp
theorem S_ (h:cH E) (a b:Bool) (s t:List Nat):aB E 104 [.agg [.bool a,.str s],.agg [.bool b,.str t]] Z K=K (.bool (lt (a,s) (b,t))) Z:=by
 refine aB.of ?_
 rw[aI h.ZS h.Xm h.aaG h.YX (args':=[.agg [.bool a,.str s],.agg [.bool b,.str t]]) (rfl),aY (by kernel_rfl)]
 cases a <;> cases b
 all_goals simp only[aA,Tryz.f104,KP,Ax.loadAt,↓reduceIte,reduceEqDiff,reduceLT,reduceAdd,reduceCtorEq,h.tR,h.c_,h.cF,m_]
 all_goals exact rfl
theorem Lp (h:cH E) {ops:Array Oper}{l:List Oper}{dst:Option Nat}{st:List gT}{Q:Ax.X->Fr->Sg->Prop}{fr:Fr} (a b:Bool) (s t:List Nat):Bn E 104 [.agg [.bool a,.str s],.agg [.bool b,.str t]] Z dst fr ops l st Q=dP E ops l (some (eK fr dst (.bool (lt (a,s) (b,t))),Z)) st Q:=Ir λ_=>S_ h a b s t
end
end
section
def mR (ks:List aG):List (V × V):=ks.map λk=>(V.agg [.bool k.1,.str k.2],V.bool true)
structure cV (Z:Sg) (b m:Nat) (ks:List aG):Prop where
 obj:Z[b]?=some (.cells 80 [.mp m] true)
 map:Z[m]?=some (.map (mR ks))
 nodup:ks.Nodup
def Kp (Z σ':Sg) (m:Nat):Prop:=∀(j:Nat) (o:O),j≠m->Z[j]?=some o->σ'[j]?=some o
def qU (Z σ':Sg):Prop:=∀(j:Nat) (o:O),Z[j]?=some o->σ'[j]?=some o
theorem qU.refl (Z:Sg):qU Z Z:=λ_ _ h=>h
theorem qU.trans {Z Y ρ:Sg}(h:qU Z Y) (k:qU Y ρ):qU Z ρ:=λj o e=>k j o (h j o e)
theorem qU.app (Z Y:Sg):qU Z (Z++Y):=λ_ _ h=>kJ h Y
theorem qU.uJ {Z σ':Sg}(h:qU Z σ'):dQ Z σ':=λb t cs ex e=>h _ _ e
theorem Kp.refl (Z:Sg) (m:Nat):Kp Z Z m:=λ_ _ _ h=>h
theorem Kp.trans {Z Y ρ:Sg}{m:Nat}(h:Kp Z Y m) (k:Kp Y ρ m):Kp Z ρ m:=λj o hj e=>k j o hj (h j o hj e)
theorem Kp.uJ {Z σ':Sg}{m:Nat}{es:List (V × V)}(h:Kp Z σ' m)(hm:Z[m]?=some (.map es)):dQ Z σ':=λb t cs ex e=>h _ _ (λhb=>by subst hb;rw[hm]at e;cases e) e
theorem qU.kp {Z σ':Sg}(h:qU Z σ') (m:Nat):Kp Z σ' m:=λj o _ e=>h j o e
theorem cV.ne {Z:Sg}{b m:Nat}{ks:List aG}(h:cV Z b m ks):b≠m:=λe=>by
 subst e;have:=h.obj;rw[h.map]at this;cases this
theorem cV.oM {Z σ':Sg}{b m:Nat}{ks:List aG}(h:cV Z b m ks) (k:qU Z σ'):cV σ' b m ks:=⟨k _ _ h.obj,k _ _ h.map,h.nodup⟩
theorem cV.kp {Z σ':Sg}{b m m':Nat}{ks ks':List aG}{b':Nat}(h:cV Z b m ks)(h':cV Z b' m' ks')(hm:m≠m') (k:Kp Z σ' m'):cV σ' b m ks:=
 ⟨k _ _ (λe=>by subst e;have:=h.obj;rw[h'.map]at this;cases this) h.obj,k _ _ hm h.map,h.nodup⟩
section
variable {E:Env}{Z:Sg}{K:V->Sg->Prop}
theorem nB (h:cH E) (a b:Bool) (s t:List Nat):eC E 51 (.agg [.bool a,.str s]) (.agg [.bool b,.str t])=some (decide (((a,s):aG)=(b,t))):=by
 unfold eC
 simp only[h.cF,h.SK,Ax.eqs]
 rw[vA]
 cases a <;> cases b <;> simp
theorem lT (h:cH E) (a:Bool) (s:List Nat):eI E 51 (.agg [.bool a,.str s])=true:=by
 unfold eI
 simp only[h.cF,h.SK,Ax.eqs]
 rfl
theorem JO (y:aG) (r:List aG) (x:aG)(hxy:x≠y):kB (y::r) x=y::kB r x:=by
 unfold kB
 by_cases hx:x∈r
 ·rw[bf hx,bf (No _ hx)]
 ·rw[az hx,az (by simp[hxy,hx])];rfl
theorem EM (h:cH E) (x:aG):∀ks:List aG,kI (eC E 51) (.agg [.bool x.1,.str x.2]) (.bool true) (mR ks)=some (mR (kB ks x))
 | []=>rfl
 |y::r=>by
  show (match eC E 51 (.agg [.bool x.1,.str x.2]) (.agg [.bool y.1,.str y.2]) with
   |some true=>some ((V.agg [.bool x.1,.str x.2],V.bool true)::mR r)
   |some false=>(match kI (eC E 51) (.agg [.bool x.1,.str x.2]) (.bool true) (mR r) with
    |some r'=>some ((V.agg [.bool y.1,.str y.2],V.bool true)::r')
    |none=>none)
   |none=>none)=_
  rw[nB h,EM h x r]
  by_cases hxy:x=y
  ·rw[AT (show ((x.1,x.2):aG)=(y.1,y.2) from hxy)]
   subst hxy
   unfold kB
   rw[bf (By ..)]
   rfl
  ·rw[AS (show ¬ ((x.1,x.2):aG)=(y.1,y.2) from hxy),JO y r x hxy]
   rfl
theorem Ma (h:cH E) (a:Bool) (s:List Nat):storeAt E (Z++[.cells 51 [.bool false,.str []] true]) 51 (.ref Z.length 0) (.agg [.bool a,.str s])=some (Z++[.cells 51 [.bool a,.str s] true]):=by
 unfold storeAt
 simp only[h.cF]
 rw[bp (ae _),jc]
 refine (bf rfl).trans ?_
 rw[lu _ _ (ae _),jc]
 rfl
theorem Pr (h:cH E) (a:Bool) (s:List Nat):loadAt E (Z++[.cells 51 [.bool a,.str s] true]) 51 (.ref Z.length 0)=some (.agg [.bool a,.str s]):=by
 unfold loadAt
 simp only[h.cF]
 rw[bp (ae _),jc]
 rfl
theorem rE (h:cH E) {b m:Nat}(hb:Z[b]?=some (.cells 80 [.mp m] true)):loadAt E Z 76 (.ref b 0)=some (.mp m):=by
 unfold loadAt
 simp only[h.vQ,hb]
 rfl
theorem FP (h:cH E) {m:Nat}{ks:List aG}(hm:Z[m]?=some (.map (mR ks))) (x:aG):mapUpdate E Z 76 (.mp m) (.agg [.bool x.1,.str x.2]) (.bool true)=some (Z.set m (.map (mR (kB ks x)))):=by
 unfold mapUpdate
 simp only[h.vQ,lT h,hm,EM h]
 rfl
theorem BN (h:cH E) {m:Nat}{ks:List aG}(hm:Z[m]?=some (.map (mR ks))):lenOf E Z 76 (.mp m)=some ks.length:=by
 unfold lenOf
 simp only[h.vQ,hm]
 simp[mR]
theorem IW (h:cH E) {b m:Nat}{ks l:List aG}{v:V}{n0:Int}(hsm:l.length<=10000000000) {σ0:Sg}{s:List gT}{Q:Ax.X->Fr->Sg->Prop}
  (hQ:∀(F':FT) (σ':Sg),cV σ' b m (keys ks l)->Kp σ0 σ' m->F'.get 0=.ref b 0->F'.get 5=.int .i64 n0->M E s .normal ⟨48,F'⟩ σ' Q) :
  ∀(k i:Nat) (F:FT) (σ':Sg),i+k=l.length->cV σ' b m (keys ks (l.take i))->SV σ' v l->Kp σ0 σ' m->F.get 0=.ref b 0->F.get 5=.int .i64 n0->F.get 27=v->F.get 28=.int .i64 (l.length:Int)->F.get 29=.int .i64 (i:Int) ->
   R E (.loop (cutAt [1,1,1,1,0,1,2,2] (aA Tryz.f63).code)) (.blk 0::s) ⟨48,F⟩ σ' Q:=by
 have d9:=h.aa3
 simp only[aA,Tryz.f63,cutAt,an]at d9
 intro k
 induction k with
 |zero=>
  intro i F σ' hi hs hv hk g0 g5 g27 g28 g29
  have hlt:decide ((i:Int)<(l.length:Int))=false:=AS (by omega)
  rw[aC]
  simp only[aA,Tryz.f63,KP,↓reduceIte,reduceLT,cutAt,g28,g29,hlt]
  rw[ah (by omega)]at hs
  refine hQ _ _ hs hk ?_ ?_ <;> simp only[FT.eB,g0,g5,↓reduceIte,reduceEqDiff,reduceCtorEq]
 |succ k ih=>
  intro i F σ' hi hs hv hk g0 g5 g27 g28 g29
  have hlt:decide ((i:Int)<(l.length:Int))=true:=AT (by omega)
  obtain⟨x,hx⟩:∃x,l[i]?=some x:=⟨_,BY (by omega)⟩
  obtain⟨pa,e1,e2⟩:=BX h hv hx
  have e2:=e2 _ (dQ.refl _)
  have hadd:=Kj i (by omega)
  have lm:=rE h (kJ hs.obj [.cells 51 [.bool x.1,.str x.2] true])
  have pm:=FP h (kJ hs.map [.cells 51 [.bool x.1,.str x.2] true]) x
  rw[aC]
  simp only[aA,Tryz.f63,KP,↓reduceIte,reduceEqDiff,reduceLT,reduceCtorEq,h.cF,h.vQ,h.vP,h.Bp,cutAt,g0,g27,g28,g29,hlt,e1,e2,Ma h,Pr h,lm,pm,aK d9,bB,hadd]
  have hml:=(AI.1 hs.map).1
  refine ih (i+1) _ _ (by omega) ⟨?_,?_,?_⟩ ?_ ?_ ?_ ?_ ?_ ?_ ?_
  ·rw[IT hs.ne.symm]
   exact kJ hs.obj _
  ·rw[bj (by rw[ak];omega)]
   rw[dn,hx]
   show some (O.map (mR (kB (keys ks (l.take i)) x)))=some (O.map (mR (List.foldl kB ks (l.take i++[x]))))
   rw[List.foldl_append]
   rfl
  ·rw[dn,hx]
   show (List.foldl kB ks (l.take i++[x])).Nodup
   rw[List.foldl_append]
   exact HP hs.nodup
  ·refine hv.keep λj t cs ex e=>?_
   rw[IT (λhj=>by subst hj;rw[hs.map]at e;cases e)]
   exact kJ e _
  ·refine hk.trans λj o hj e=>?_
   rw[IT (λh=>hj h.symm)]
   exact kJ e _
  all_goals simp only[FT.eB,g0,g5,g27,g28,↓reduceIte,reduceEqDiff,reduceCtorEq]
theorem T2 (a b:Nat)(ha:a<=1000000000000)(hb:b<=1000000000000):wr .i64 ((a:Int)-(b:Int))=(a:Int)-(b:Int):=by
 rw[zS,bf]
 rw[aj,OF,OF]
 exact⟨show (-9223372036854775808:Int)<=_ by omega,show _<=(9223372036854775807:Int) by omega⟩
theorem Qy (h:cH E) {b m:Nat}{ks l:List aG}{v:V}(hs:cV Z b m ks)(hv:SV Z v l)(hsm:l.length<=10000000000)(hks:ks.length<=10000000000) :
  aB E 63 [.ref b 0,v] Z λr σ'=>r=.int .i64 (((keys ks l).length:Int)-(ks.length:Int))/\cV σ' b m (keys ks l)/\Kp Z σ' m:=by
 rw[dR h.Za h.Wx h.Z1 h.Yh,aY (by kernel_rfl)]
 have lm:=rE h hs.obj
 have lk:=BN h hs.map
 have lv:lenOf E Z 23 v=some l.length:=JI h hv
 simp only[aA,Tryz.f63,KP,↓reduceIte,reduceEqDiff,reduceLT,reduceAdd,reduceCtorEq,h.tW,h.vQ,h.vP,h.Bp,lm,lk,lv,m_]
 refine IW h hsm (σ0:=Z) (n0:=(ks.length:Int)) (λF' σ' hs' hk' g0 g5=>?_) l.length 0 _ Z (by omega) hs hv (Kp.refl _ _) ?_ ?_ ?_ ?_ ?_
 ·have lm2:=rE h hs'.obj
  have lk2:=BN h hs'.map
  have hl:=nT (xs:=l) (l:=ks)
  have hsub:=T2 (keys ks l).length ks.length (by omega) (by omega)
  simp only[KP,↓reduceIte,reduceEqDiff,reduceLT,reduceCtorEq,h.vQ,h.vP,h.Bp,lm2,lk2,g0,g5,hsub]
  exact⟨hs',hk'⟩
 all_goals simp only[FT.eB,KP,↓reduceIte,reduceEqDiff,reduceCtorEq]
 all_goals rfl
end
end
section
section
variable {E:Env}{Z:Sg}{K:V->Sg->Prop}
theorem Pq (h:cH E) {b:Nat}(hb:Z[b]?=some (.cells 80 [.b_] true)):loadAt E Z 76 (.ref b 0)=some .b_:=by
 unfold loadAt
 simp only[h.vQ,hb]
 rfl
theorem Mb (h:cH E) {b m:Nat}{u:V}(hb:Z[b]?=some (.cells 80 [u] true)):storeAt E Z 76 (.ref b 0) (.mp m)=some (Z.set b (.cells 80 [.mp m] true)):=by
 unfold storeAt
 simp only[h.vQ,hb]
 rfl
theorem Qx (h:cH E) {b:Nat}{l:List aG}{v:V}(hb:Z[b]?=some (.cells 80 [.b_] true))(hv:SV Z v l)(hsm:l.length<=10000000000) :
  aB E 63 [.ref b 0,v] Z λr σ'=>∃m,cV σ' b m (keys [] l)/\Z.length<=m/\∀j o,j≠b->Z[j]?=some o->σ'[j]?=some o:=by
 rw[dR h.Za h.Wx h.Z1 h.Yh,aY (by kernel_rfl)]
 have hbl:=(AI.1 hb).1
 have ln:=Pq h hb
 have st:=Mb h (m:=Z.length) (kJ hb [.map []])
 have hs1:cV ((Z++[O.map []]).set b (.cells 80 [.mp Z.length] true)) b Z.length []:=by
  refine⟨bj (by rw[ak];omega),?_,nodup_nil⟩
  rw[IT (by omega),bp (ae _),jc]
  rfl
 have hk1:∀j o,j≠b->Z[j]?=some o->((Z++[O.map []]).set b (.cells 80 [.mp Z.length] true))[j]?=some o:=λj o hj e=>by
  rw[IT (λe=>hj e.symm)]
  exact kJ e _
 have hv1:SV ((Z++[O.map []]).set b (.cells 80 [.mp Z.length] true)) v l:=by
  rcases hv with hv | hv | ⟨j,cs,ex,e1,e2,e3⟩
  ·exact .inl hv
  ·exact .inr (.inl hv)
  ·refine .inr (.inr ⟨j,cs,ex,e1,hk1 j _ (λe=>?_) e2,e3⟩)
   subst e;rw[hb]at e2;cases e2
 have lm:=rE h hs1.obj
 have lk:=BN h hs1.map
 have lv:∀σ',lenOf E σ' 23 v=some l.length:=λσ'=>by
  unfold lenOf
  rw[h.dB]
  rcases hv with⟨rfl,rfl⟩ | ⟨g,full,rfl⟩ | ⟨j,cs,ex,rfl,e2,e3⟩
  ·rfl
  ·simp
  ·rfl
 simp only[aA,Tryz.f63,KP,↓reduceIte,reduceEqDiff,reduceLT,reduceAdd,reduceCtorEq,h.tW,h.vQ,h.vP,h.Bp,ln,st,lm,lk,lv,m_]
 refine IW h hsm (σ0:=(Z++[O.map []]).set b (.cells 80 [.mp Z.length] true)) (n0:=0) (λF' σ' hs' hk' g0 g5=>?_) l.length 0 _ _ (by omega) hs1 hv1 (Kp.refl _ _) ?_ ?_ ?_ ?_ ?_
 ·have lm2:=rE h hs'.obj
  have lk2:=BN h hs'.map
  simp only[KP,↓reduceIte,reduceEqDiff,reduceLT,reduceCtorEq,h.vQ,h.vP,h.Bp,lm2,lk2,g0,g5]
  refine⟨Z.length,hs',ae _,λj o hj e=>?_⟩
  have hjl:=(AI.1 e).1
  exact hk' j o (by omega) (hk1 j o hj e)
 all_goals simp only[FT.eB,KP,↓reduceIte,reduceEqDiff,reduceCtorEq]
 all_goals rfl
theorem Qr (h:cH E) {l:List aG}{v:V}(hv:SV Z v l)(hsm:l.length<=10000000000) :
  aB E 46 [v] Z λr σ'=>∃m,r=.ref Z.length 0/\cV σ' Z.length m (keys [] l)/\Z.length<m/\qU Z σ':=by
 rw[dR h.hs46 h.sp46 h.fn46 h.md46,aY (by kernel_rfl)]
 simp only[aA,Tryz.f46,KP,↓reduceIte,reduceEqDiff,reduceLT,reduceCtorEq,h.vP,h.Bp,Ax.fill]
 have hb:(Z++[O.cells 80 [.b_] true])[Z.length]?=some (.cells 80 [.b_] true):=by
  rw[bp (ae _),jc];rfl
 refine aP (Qx h hb (hv.keep (dQ.app _ _)) hsm) ?_
 rintro r σ' ⟨m,hs,hm,hk⟩
 simp only[KP,↓reduceIte,reduceEqDiff,reduceLT]
 rw[ak]at hm
 refine⟨m,hs,by simp at hm;omega,λj o e=>?_⟩
 have hjl:=(AI.1 e).1
 exact hk j o (by omega) (kJ e _)
theorem EA (ks:List aG):(mR ks).map (λ(e:V × V)=>rowOf e.1)=ks.map row:=by
 unfold mR
 rw[ku]
 rfl
theorem xG:∀ks:List aG,(∀k∈ks,k.2.length<=9223372036854775807)->allRows lI (ks.map row)=true
 | [],_=>rfl
 |k::ks,hk=>by
  show (match Nat.ble k.2.length 9223372036854775807 with
   |true=>allRows lI (ks.map row)
   |false=>false)=true
  rw[mc (hk k (By ..))]
  exact xG ks λx hx=>hk x (No _ hx)
theorem Md {ks:List aG}(hn:ks.Nodup)(hlen:ks.length<=1000000)(hstr:∀k∈ks,k.2.length<=9223372036854775807) {j m:Nat}(hj:Z[j]?=some (.cells 76 [.mp m] true))(hm:Z[m]?=some (.map (mR ks))) :
  lJ 51 [148] [] 109 [.fn 148 [] [.ref j 0],.fn 109 [] []] Z=some (if ks=[] then (.aF,Z) else (.sl Z.length 0 ks.length none,Z++[.cells 51 ((setOf ks).flatMap row) false])):=by
 have hk:keysOf Z [148] [] (.fn 148 [] [.ref j 0])=some (ks.map row):=by
  unfold keysOf
  simp only[hj]
  show (match Z[m]? with
   |some (.map es)=>some (es.map λ(e:V × V)=>rowOf e.1)
   |_=>none)=_
  rw[hm]
  exact au some (EA ks)
 show qF 51 [148] [] lI rF (.fn 148 [] [.ref j 0]) Z=_
 unfold qF
 rw[hk]
 cases hks:ks with
 |nil=>rfl
 |cons k r=>
  have ha:=xG ks hstr
  have hs:=En hn
  rw[hks]at ha hs hlen
  rw[bl]at ha hs ⊢
  rw[az (by simp)]
  show (match allRows lI (row k::r.map row),Nat.ble (row k::r.map row).length 1000000 with
   |true,true=>some (V.sl Z.length 0 (row k::r.map row).length none,Z++[O.cells 51 (kY rF (row k::r.map row)).flatten false])
   |_,_=>none)=_
  rw[ha,mc (by simpa using hlen),hs,Dl]
  simp
theorem VX (h:cH E) {m:Nat}:aB E 108 [.mp m] Z K=K (.fn 148 [] [.ref Z.length 0]) (Z++[.cells 76 [.mp m] true]):=by
 refine aB.of ?_
 rw[dR h.TJ h.TA h.TM h.TF,aY (by kernel_rfl)]
 simp only[aA,Tryz.f108,KP,↓reduceIte,reduceEqDiff,reduceLT,h.vQ]
theorem Vl (h:cH E) {m:Nat}{ops:Array Oper}{l:List Oper}{dst:Option Nat}{st:List gT}{Q:Ax.X->Fr->Sg->Prop}{fr:Fr}:Bn E 108 [.mp m] Z dst fr ops l st Q=dP E ops l (some (eK fr dst (.fn 148 [] [.ref Z.length 0]),Z++[.cells 76 [.mp m] true])) st Q:=Ir λ_=>VX h
def Own (Z σ':Sg) (r:V) (l:List aG):Prop:=(r=.aF/\l=[])\/∃j,Z.length<=j/\r=.sl j 0 l.length none/\σ'[j]?=some (.cells 51 (l.flatMap row) false)
theorem Own.sv {Z σ':Sg}{r:V}{l:List aG}(h:Own Z σ' r l):SV σ' r l:=by
 rcases h with h | ⟨j,_,h1,h2⟩
 ·exact .inl h
 ·exact .inr (.inr ⟨j,_,_,h1,h2,ah (by rw[kC];exact ae _)⟩)
theorem abt (h:cH E) {b m:Nat}{ks:List aG}(hs:cV Z b m ks)(hlen:ks.length<=1000000)(hstr:∀k∈ks,k.2.length<=9223372036854775807) :
  aB E 54 [.ref b 0] Z λr σ'=>Own Z σ' r (setOf ks)/\qU Z σ':=by
 rw[dR h.Zb h.Wz h.Z2 h.Yi,aY (by kernel_rfl)]
 have lm:=rE h hs.obj
 simp only[aA,Tryz.f54,KP,↓reduceIte,reduceLT,reduceCtorEq,h.vQ,h.vP,h.Ko,lm,m_,Vl h]
 have hj:(Z++[O.cells 76 [.mp m] true])[Z.length]?=some (.cells 76 [.mp m] true):=by
  rw[bp (ae _),jc];rfl
 have hsk:=Md hs.nodup hlen hstr hj (kJ hs.map _)
 unfold Bn
 rw[oK h.TK,hsk]
 by_cases hks:ks=[]
 ·rw[bf hks,H9]
  simp only[KP,↓reduceIte,reduceLT]
  subst hks
  exact⟨.inl ⟨rfl,rfl⟩,qU.app _ _⟩
 ·rw[az hks,H9]
  simp only[KP,↓reduceIte,reduceLT]
  refine⟨.inr ⟨_,?_,by rw[xY hs.nodup],?_⟩,λj o e=>kJ (kJ e _) _⟩
  ·rw[ak];omega
  ·rw[bp (ae _),jc];rfl
end
end
section
section
variable {E:Env}{Z:Sg}{K:V->Sg->Prop}
theorem HG {α:Type}{f:α->Option α}:∀l:List α,(∀x∈l,f x=some x)->aW f l=some l
 | [],_=>rfl
 |x::l,h=>by rw[aW,h x (By ..),HG l λy hy=>h y (No _ hy)]
theorem CQ (h:cH E) (x:aG):∀ks:List aG,iV (eC E 51) (.agg [.bool x.1,.str x.2]) (mR ks)=some (if x∈ks then some (.bool true) else none)
 | []=>rfl
 |y::r=>by
  show (match eC E 51 (.agg [.bool x.1,.str x.2]) (.agg [.bool y.1,.str y.2]) with
   |some true=>some (some (V.bool true))
   |some false=>iV (eC E 51) (.agg [.bool x.1,.str x.2]) (mR r)
   |none=>none)=_
  rw[nB h,CQ h x r]
  by_cases hxy:x=y
  ·rw[AT (show ((x.1,x.2):aG)=(y.1,y.2) from hxy)]
   show some (some (V.bool true))=some (if x∈y::r then some (V.bool true) else none)
   rw[bf (by rw[hxy];exact By ..)]
  ·rw[AS (show ¬ ((x.1,x.2):aG)=(y.1,y.2) from hxy)]
   by_cases hx:x∈r
   ·rw[bf hx,bf (No _ hx)]
   ·rw[az hx,az (by simp[hxy,hx])]
structure UnionE (E:Env):Prop where
 hs:E.hspec 49=none
 sp:E.spec 49=none
 fn:E.fn 49=some (aA Tryz.f49)
 md:E.mode 49=.shared
end
end
end Go.Proofs.YtmhchflckonklaaGreatDoor.Lb
end
section
namespace Go.Proofs.YtmhchflckonklaaGreatDoor
open Go Go.Ax Go.AxS
section
section
variable {E:Env}{Z:Sg}{K:V->Sg->Prop}
structure dL where
 key:aG
 s:Nat
 m:Nat
 ks:List aG
def kA (x:aG):V:=.agg [.bool x.1,.str x.2]
def oO (e:dL):V × V:=(kA e.key,.ref e.s 0)
structure jC (Z:Sg) (b:Nat) (L:List dL):Prop where
 map:Z[b]?=some (.map (L.map oO))
 sets:∀e∈L,Lb.cV Z e.s e.m e.ks
 nodup:(L.map dL.key).Nodup
theorem CR (hl:Lb.cH E) (x:aG):∀L:List dL,iV (eC E 51) (kA x) (L.map oO)=some ((L.find? λe=>decide (x=e.key)).map λe=>.ref e.s 0)
 | []=>rfl
 |e::L=>by
  show (match eC E 51 (.agg [.bool x.1,.str x.2]) (.agg [.bool e.key.1,.str e.key.2]) with
   |some true=>some (some (V.ref e.s 0))
   |some false=>iV (eC E 51) (kA x) (L.map oO)
   |none=>none)=_
  rw[Lb.nB hl,mz]
  by_cases h:x=e.key
  ·rw[AT (show ((x.1,x.2):aG)=(e.key.1,e.key.2) from h)];rfl
  ·rw[AS (show ¬ ((x.1,x.2):aG)=(e.key.1,e.key.2) from h)]
   exact CR hl x L
theorem EN (hl:Lb.cH E) (x:aG) (s m:Nat) (ks:List aG):∀L:List dL,(∀e∈L,x≠e.key)->kI (eC E 51) (kA x) (.ref s 0) (L.map oO)=some ((L++[dL.mk x s m ks]).map oO)
 | [],_=>rfl
 |e::L,h=>by
  have hx:=h e (By ..)
  show (match eC E 51 (.agg [.bool x.1,.str x.2]) (.agg [.bool e.key.1,.str e.key.2]) with
   |some true=>some ((kA x,V.ref s 0)::L.map oO)
   |some false=>(match kI (eC E 51) (kA x) (.ref s 0) (L.map oO) with
    |some r=>some (oO e::r)
    |none=>none)
   |none=>none)=_
  rw[Lb.nB hl,AS (show ¬ ((x.1,x.2):aG)=(e.key.1,e.key.2) from hx),EN hl x s m ks L λy hy=>h y (No _ hy)]
  rfl
def bP (L:List dL) (x:aG):Option dL:=L.find? λe=>decide (x=e.key)
theorem EW (h':tP E)(hl:Lb.cH E) {Z:Sg}{b:Nat}{L:List dL}(hm:Z[b]?=some (.map (L.map oO))) (x:aG):lookup E Z 92 (.mp b) (kA x) false=some (match bP L x with | some e=>.ref e.s 0 | none=>.gG):=by
 have hk:=Lb.lT hl x.1 x.2
 unfold Ax.lookup
 simp only[h'.wI,hl.tW,kA,hk,entriesOf,hm,dh,ai,ay]
 have:=CR hl x L
 unfold kA at this
 rw[this]
 unfold bP
 cases L.find? λe=>decide (x=e.key) <;> rfl
theorem yV (h':tP E)(hl:Lb.cH E) {Z:Sg}{b:Nat}{L:List dL}(hm:jC Z b L) (x:aG):lookup E Z 92 (.mp b) (kA x) false=some (match bP L x with | some e=>.ref e.s 0 | none=>.gG):=EW h' hl hm.map x
theorem FP (h':tP E)(hl:Lb.cH E) {Z:Sg}{b:Nat}{L:List dL}(hm:jC Z b L) {x:aG}(hx:bP L x=none) {s m:Nat}{ks:List aG}:mapUpdate E Z 92 (.mp b) (kA x) (.ref s 0)=some (Z.set b (.map ((L++[dL.mk x s m ks]).map oO))):=by
 have hk:=Lb.lT hl x.1 x.2
 have hne:∀e∈L,x≠e.key:=λe he hxe=>by
  have:=mg.1 hx e he
  simp[hxe]at this
 have:=EN hl x s m ks L hne
 unfold kA at this
 unfold Ax.mapUpdate
 simp only[h'.wI,kA,hk,hm.map,this,fI,V.aZ,dh,iu,ai,ay,bw]
end
end
section
section
variable {E:Env}{Z:Sg}{K:V->Sg->Prop}
theorem cV.keep {Z σ':Sg}{s m x:Nat}{ks:List aG}{es:List (V × V)}(h:Lb.cV Z s m ks)(hx:Z[x]?=some (.map es))(hm:m≠x) (k:∀(j:Nat) (o:O),j≠x->Z[j]?=some o->σ'[j]?=some o):Lb.cV σ' s m ks:=by
 refine⟨k _ _ (λe=>?_) h.obj,k _ _ hm h.map,h.nodup⟩
 have:=h.obj
 rw[e,hx]at this
 cases this
theorem jC.keep {Z σ':Sg}{b x:Nat}{L:List dL}{es:List (V × V)}(h:jC Z b L)(hx:Z[x]?=some (.map es))(hb:b≠x)(hm:x ∉ L.map dL.m) (k:∀(j:Nat) (o:O),j≠x->Z[j]?=some o->σ'[j]?=some o):jC σ' b L:=
 ⟨k _ _ hb h.map,λe he=>cV.keep (h.sets e he) hx (λe'=>hm (cm.2 ⟨e,he,e'⟩)) k,h.nodup⟩
def qA (L:List dL) (x:aG) (ks:List aG):List dL:=L.map λe=>if e.key=x then { e with ks:=ks } else e
theorem L9 (L:List dL) (x:aG) (ks:List aG):(qA L x ks).map oO=L.map oO:=by
 unfold qA
 rw[ku]
 refine jm λe _=>?_
 show oO (if e.key=x then _ else e)=oO e
 by_cases h:e.key=x
 ·rw[bf h];rfl
 ·rw[az h]
theorem Ei (L:List dL) (x:aG) (ks:List aG):(qA L x ks).map dL.key=L.map dL.key:=by
 unfold qA
 rw[ku]
 refine jm λe _=>?_
 show dL.key (if e.key=x then _ else e)=e.key
 by_cases h:e.key=x
 ·rw[bf h]
 ·rw[az h]
theorem Km (L:List dL) (x:aG) (ks:List aG):(qA L x ks).map dL.m=L.map dL.m:=by
 unfold qA
 rw[ku]
 refine jm λe _=>?_
 show dL.m (if e.key=x then _ else e)=e.m
 by_cases h:e.key=x
 ·rw[bf h]
 ·rw[az h]
theorem Al {β:Type}{f:dL->β}:∀{L:List dL},(L.map f).Nodup->∀e∈L,∀e'∈L,f e=f e'->e=e'
 | [],_,e,he,_,_,_=>by cases he
 |a::L,h,e,he,e',he',hm=>by
  rw[bl,dm]at h
  rcases IN.1 he with h1 | h1 <;> rcases IN.1 he' with h2 | h2
  ·rw[h1,h2]
  ·exact absurd (cm.2 ⟨e',h2,by rw[<- hm,h1]⟩) h.1
  ·exact absurd (cm.2 ⟨e,h1,by rw[hm,h2]⟩) h.1
  ·exact Al h.2 e h1 e' h2 hm
theorem jC.up {Z σ':Sg}{b:Nat}{L:List dL}{e:dL}{ks:List aG}(h:jC Z b L)(he:e∈L)(hnd:(L.map dL.m).Nodup)(hb:b≠e.m)(hs:Lb.cV σ' e.s e.m ks) (k:∀(j:Nat) (o:O),j≠e.m->Z[j]?=some o->σ'[j]?=some o):jC σ' b (qA L e.key ks):=by
 refine⟨by rw[L9];exact k _ _ hb h.map,λa ha=>?_,by rw[Ei];exact h.nodup⟩
 obtain⟨a0,ha0,rfl⟩:=cm.1 ha
 by_cases hk:a0.key=e.key
 ·have hae:a0=e:=Al h.nodup a0 ha0 e he hk
  subst hae
  rw[bf rfl]
  exact hs
 ·rw[az hk]
  exact cV.keep (h.sets a0 ha0) (h.sets e he).map (λe'=>hk (by rw[Al hnd a0 ha0 e he e'])) k
structure oA (E:Env) (Z:Sg) (gb m0 m1 sa ma b3 b4:Nat) (es0 es1:List (V × V)) (A:List aG) (L3 L4:List dL):Prop where
 g:Z[gb]?=some (.cells 94 [.mp m0,.mp m1,.ref sa 0,.mp b3,.mp b4] true)
 rules:Z[m0]?=some (.map es0)
 jM:Z[m1]?=some (.map es1)
 all:Lb.cV Z sa ma A
 jZ:jC Z b3 L3
 jU:jC Z b4 L4
 sep:(m0::m1::ma::b3::b4::(L3.map dL.m++L4.map dL.m)).Nodup
end
end
section
section
variable {E:Env}{Z:Sg}{K:V->Sg->Prop}
theorem cV.app {Z:Sg}{s m:Nat}{ks:List aG}(h:Lb.cV Z s m ks) (y:O):Lb.cV (Z++[y]) s m ks:=⟨aJ h.obj,aJ h.map,h.nodup⟩
theorem jC.app {Z:Sg}{b:Nat}{L:List dL}(h:jC Z b L) (y:O):jC (Z++[y]) b L:=⟨aJ h.map,λe he=>cV.app (h.sets e he) y,h.nodup⟩
theorem oA.app {{Z:Sg}} {{gb m0 m1 sa ma b3 b4:Nat}} {{es0 es1:List (V × V)}} {{A:List aG}} {{L3 L4:List dL}}(h:oA E Z gb m0 m1 sa ma b3 b4 es0 es1 A L3 L4) (y:O):oA E (Z++[y]) gb m0 m1 sa ma b3 b4 es0 es1 A L3 L4:=
 ⟨aJ h.g,aJ h.rules,aJ h.jM,cV.app h.all y,h.jZ.app y,h.jU.app y,h.sep⟩
theorem oA.more {{Z σ':Sg}} {{gb m0 m1 sa ma b3 b4:Nat}} {{es0 es1:List (V × V)}} {{A:List aG}} {{L3 L4:List dL}}(h:oA E Z gb m0 m1 sa ma b3 b4 es0 es1 A L3 L4) {A':List aG}(hs:Lb.cV σ' sa ma A') (k:∀(j:Nat) (o:O),j≠ma->Z[j]?=some o->σ'[j]?=some o):oA E σ' gb m0 m1 sa ma b3 b4 es0 es1 A' L3 L4:=by
 have sep:=h.sep
 simp only[dm,IN,bt,pq]at sep
 obtain⟨⟨-,n0,-⟩,⟨n1,-⟩,⟨n3,n4,n5,n6⟩,-⟩:=sep
 have hx:=h.all.map
 have ng:gb≠ma:=λe=>by
  have:=h.g
  rw[e,hx]at this
  cases this
 exact⟨k _ _ ng h.g,k _ _ n0 h.rules,k _ _ n1 h.jM,hs,h.jZ.keep hx (λe=>n3 e.symm) n5 k,h.jU.keep hx (λe=>n4 e.symm) n6 k,h.sep⟩
theorem oA.rule {{Z:Sg}} {{gb m0 m1 sa ma b3 b4:Nat}} {{es0 es1:List (V × V)}} {{A:List aG}} {{L3 L4:List dL}}(h:oA E Z gb m0 m1 sa ma b3 b4 es0 es1 A L3 L4) (es:List (V × V)):oA E (Z.set m0 (.map es)) gb m0 m1 sa ma b3 b4 es es1 A L3 L4:=by
 have sep:=h.sep
 simp only[dm,IN,bt,pq]at sep
 obtain⟨⟨n1,na,n3,n4,n5,n6⟩,-⟩:=sep
 have hx:=h.rules
 have ng:gb≠m0:=λe=>by
  have:=h.g
  rw[e,hx]at this
  cases this
 have k:∀(j:Nat) (o:O),j≠m0->Z[j]?=some o->(Z.set m0 (.map es))[j]?=some o:=λj o hj ho=>by
  rw[IT (ju hj)];exact ho
 exact⟨k _ _ ng h.g,bj (AI.1 hx).1,k _ _ (ju n1) h.jM,cV.keep h.all hx (ju na) k,h.jZ.keep hx (ju n3) n5 k,h.jU.keep hx (ju n4) n6 k,h.sep⟩
theorem oA.Pf {{Z:Sg}} {{gb m0 m1 sa ma b3 b4:Nat}} {{es0 es1:List (V × V)}} {{A:List aG}} {{L3 L4:List dL}}(h:oA E Z gb m0 m1 sa ma b3 b4 es0 es1 A L3 L4) (es:List (V × V)):oA E (Z.set m1 (.map es)) gb m0 m1 sa ma b3 b4 es0 es A L3 L4:=by
 have sep:=h.sep
 simp only[dm,IN,bt,pq]at sep
 obtain⟨⟨n1,-⟩,⟨na,n3,n4,n5,n6⟩,-⟩:=sep
 have hx:=h.jM
 have ng:gb≠m1:=λe=>by
  have:=h.g
  rw[e,hx]at this
  cases this
 have k:∀(j:Nat) (o:O),j≠m1->Z[j]?=some o->(Z.set m1 (.map es))[j]?=some o:=λj o hj ho=>by
  rw[IT (ju hj)];exact ho
 exact⟨k _ _ ng h.g,k _ _ n1 h.rules,bj (AI.1 hx).1,cV.keep h.all hx (ju na) k,h.jZ.keep hx (ju n3) n5 k,h.jU.keep hx (ju n4) n6 k,h.sep⟩
end
end
section
section
variable {E:Env}{Z:Sg}{K:V->Sg->Prop}
theorem oA.facts {Z:Sg}{gb m0 m1 sa ma b3 b4:Nat}{es0 es1:List (V × V)}{A:List aG}{L3 L4:List dL}(h:oA E Z gb m0 m1 sa ma b3 b4 es0 es1 A L3 L4):(L3.map dL.m).Nodup/\(L4.map dL.m).Nodup/\∀x,x∈L3.map dL.m\/x∈L4.map dL.m->m0≠x/\m1≠x/\ma≠x/\b3≠x/\b4≠x:=by
 have sep:=h.sep
 simp only[dm,IN,bt,pq,jv]at sep
 obtain⟨⟨-,-,-,-,a5,a6⟩,⟨-,-,-,b5,b6⟩,⟨-,-,c5,c6⟩,⟨-,d5,d6⟩,⟨e5,e6⟩,f1,f2,-⟩:=sep
 refine⟨f1,f2,λx hx=>?_⟩
 rcases hx with hx | hx
 ·exact⟨λe=>a5 (by rw[e];exact hx),λe=>b5 (by rw[e];exact hx),λe=>c5 (by rw[e];exact hx),λe=>d5 (by rw[e];exact hx),λe=>e5 (by rw[e];exact hx)⟩
 ·exact⟨λe=>a6 (by rw[e];exact hx),λe=>b6 (by rw[e];exact hx),λe=>c6 (by rw[e];exact hx),λe=>d6 (by rw[e];exact hx),λe=>e6 (by rw[e];exact hx)⟩
theorem oA.TP {Z:Sg}{gb m0 m1 sa ma b3 b4:Nat}{es0 es1:List (V × V)}{A:List aG}{L3 L4:List dL}(h:oA E Z gb m0 m1 sa ma b3 b4 es0 es1 A L3 L4):∀x∈L3.map dL.m,x ∉ L4.map dL.m:=by
 have sep:=h.sep
 simp only[dm,IN,bt,pq,jv]at sep
 obtain⟨-,-,-,-,-,-,-,f3⟩:=sep
 exact λx hx hy=>f3 x hx x hy rfl
theorem oA.O2 {{Z σ':Sg}} {{gb m0 m1 sa ma b3 b4:Nat}} {{es0 es1:List (V × V)}} {{A:List aG}} {{L3 L4:List dL}}(h:oA E Z gb m0 m1 sa ma b3 b4 es0 es1 A L3 L4) {e:dL}(he:e∈L3) {ks:List aG}(hs:Lb.cV σ' e.s e.m ks) (k:∀(j:Nat) (o:O),j≠e.m->Z[j]?=some o->σ'[j]?=some o):oA E σ' gb m0 m1 sa ma b3 b4 es0 es1 A (qA L3 e.key ks) L4:=by
 obtain⟨f1,f2,f3⟩:=h.facts
 have hm:e.m∈L3.map dL.m:=cm.2 ⟨e,he,rfl⟩
 obtain⟨n1,n2,n3,n4,n5⟩:=f3 e.m (Or.inl hm)
 have hx:=(h.jZ.sets e he).map
 have ng:gb≠e.m:=λe'=>by
  have:=h.g
  rw[e',hx]at this
  cases this
 have nb:=n4
 exact⟨k _ _ ng h.g,k _ _ n1 h.rules,k _ _ n2 h.jM,cV.keep h.all hx n3 k,jC.up h.jZ he f1 nb hs k,h.jU.keep hx n5 (λhx'=>h.TP _ hm hx') k,by rw[Km];exact h.sep⟩
theorem oA.NN {{Z σ':Sg}} {{gb m0 m1 sa ma b3 b4:Nat}} {{es0 es1:List (V × V)}} {{A:List aG}} {{L3 L4:List dL}}(h:oA E Z gb m0 m1 sa ma b3 b4 es0 es1 A L3 L4) {e:dL}(he:e∈L4) {ks:List aG}(hs:Lb.cV σ' e.s e.m ks) (k:∀(j:Nat) (o:O),j≠e.m->Z[j]?=some o->σ'[j]?=some o):oA E σ' gb m0 m1 sa ma b3 b4 es0 es1 A L3 (qA L4 e.key ks):=by
 obtain⟨f1,f2,f3⟩:=h.facts
 have hm:e.m∈L4.map dL.m:=cm.2 ⟨e,he,rfl⟩
 obtain⟨n1,n2,n3,n4,n5⟩:=f3 e.m (Or.inr hm)
 have hx:=(h.jU.sets e he).map
 have ng:gb≠e.m:=λe'=>by
  have:=h.g
  rw[e',hx]at this
  cases this
 have nb:=n5
 exact⟨k _ _ ng h.g,k _ _ n1 h.rules,k _ _ n2 h.jM,cV.keep h.all hx n3 k,h.jZ.keep hx n4 (λhx'=>h.TP _ hx' hm) k,jC.up h.jU he f2 nb hs k,by rw[Km];exact h.sep⟩
end
end
section
section
variable {E:Env}{Z:Sg}{K:V->Sg->Prop}
theorem jC.oM {Z σ1:Sg}{b:Nat}{L:List dL}(h:jC Z b L) (k:Lb.qU Z σ1):jC σ1 b L:=⟨k _ _ h.map,λe he=>⟨k _ _ (h.sets e he).obj,k _ _ (h.sets e he).map,(h.sets e he).nodup⟩,h.nodup⟩
theorem oA.oM {{Z σ1:Sg}} {{gb m0 m1 sa ma b3 b4:Nat}} {{es0 es1:List (V × V)}} {{A:List aG}} {{L3 L4:List dL}}(h:oA E Z gb m0 m1 sa ma b3 b4 es0 es1 A L3 L4) (k:Lb.qU Z σ1):oA E σ1 gb m0 m1 sa ma b3 b4 es0 es1 A L3 L4:=
 ⟨k _ _ h.g,k _ _ h.rules,k _ _ h.jM,⟨k _ _ h.all.obj,k _ _ h.all.map,h.all.nodup⟩,h.jZ.oM k,h.jU.oM k,h.sep⟩
theorem oA.below {Z:Sg}{gb m0 m1 sa ma b3 b4:Nat}{es0 es1:List (V × V)}{A:List aG}{L3 L4:List dL}(h:oA E Z gb m0 m1 sa ma b3 b4 es0 es1 A L3 L4) {m:Nat}(hm:Z.length<=m):m ∉ m0::m1::ma::b3::b4::(L3.map dL.m++L4.map dL.m):=by
 have lt:∀{i:Nat}{o:O},Z[i]?=some o->i<m:=λe=>gw (AI.1 e).1 hm
 have h0:=lt h.rules
 have h1:=lt h.jM
 have h2:=lt h.all.map
 have h3:=lt h.jZ.map
 have h4:=lt h.jU.map
 intro hx
 simp only[IN,bt,cm]at hx
 rcases hx with e | e | e | e | e | ⟨e,he,e'⟩ | ⟨e,he,e'⟩
 ·omega
 ·omega
 ·omega
 ·omega
 ·omega
 ·have:=lt (h.jZ.sets e he).map;omega
 ·have:=lt (h.jU.sets e he).map;omega
theorem jC.new {Z:Sg}{b:Nat}{L:List dL}{x:aG}{s m:Nat}(h:jC Z b L)(hx:bP L x=none)(hs:Lb.cV Z s m [])(hb:b ∉ L.map dL.m)(hm:m≠b):jC (Z.set b (.map ((L++[dL.mk x s m []]).map oO))) b (L++[dL.mk x s m []]):=by
 have k:∀(j:Nat) (o:O),j≠b->Z[j]?=some o->(Z.set b (.map ((L++[dL.mk x s m []]).map oO)))[j]?=some o:=λj o hj ho=>by
  rw[IT (ju hj)];exact ho
 refine⟨bj (AI.1 h.map).1,λe he=>?_,?_⟩
 ·rcases bt.1 he with he | he
  ·exact cV.keep (h.sets e he) h.map (λe'=>hb (cm.2 ⟨e,he,e'⟩)) k
  ·rw[cj.1 he]
   exact cV.keep hs h.map hm k
 ·rw[eu,jv]
  refine⟨h.nodup,by simp,λy hy z hz e=>?_⟩
  obtain⟨a,ha,rfl⟩:=cm.1 hy
  have hz:z=x:=by simpa using hz
  have:=mg.1 hx a ha
  simp[<- hz,<- e]at this
theorem oA.RI {{Z σ1:Sg}} {{gb m0 m1 sa ma b3 b4:Nat}} {{es0 es1:List (V × V)}} {{A:List aG}} {{L3 L4:List dL}}(h:oA E Z gb m0 m1 sa ma b3 b4 es0 es1 A L3 L4) {x:aG}(hx:bP L3 x=none) {s m:Nat} (k1:Lb.qU Z σ1)(hs:Lb.cV σ1 s m [])(hm:Z.length<=m):oA E (σ1.set b3 (.map ((L3++[dL.mk x s m []]).map oO))) gb m0 m1 sa ma b3 b4 es0 es1 A (L3++[dL.mk x s m []]) L4:=by
 have h1:=h.oM k1
 have fresh:=h.below hm
 have hx1:=h1.jZ.map
 have sep:=h.sep
 simp only[dm,IN,bt,pq]at sep
 obtain⟨⟨-,-,a3,-⟩,⟨-,b3',-⟩,⟨c3,-⟩,⟨n3,n4,n5⟩,-⟩:=sep
 have hmb:m≠b3:=λe=>fresh (by rw[e];simp)
 have new:=jC.new h1.jZ hx hs n4 hmb
 have ng:gb≠b3:=λe=>by
  have:=h1.g
  rw[e,hx1]at this
  cases this
 have k:∀(j:Nat) (o:O),j≠b3->σ1[j]?=some o->(σ1.set b3 (.map ((L3++[dL.mk x s m []]).map oO)))[j]?=some o:=λj o hj ho=>by
  rw[IT (ju hj)];exact ho
 have hp:(m0::m1::ma::b3::b4::((L3++[dL.mk x s m []]).map dL.m++L4.map dL.m)).Perm (m::(m0::m1::ma::b3::b4::(L3.map dL.m++L4.map dL.m))):=by simpa using jr (l₁:=m0::m1::ma::b3::b4::L3.map dL.m) (a:=m) (l₂:=L4.map dL.m)
 exact⟨k _ _ ng h1.g,k _ _ a3 h1.rules,k _ _ b3' h1.jM,cV.keep h1.all hx1 c3 k,new,h1.jU.keep hx1 (λe=>n3 e.symm) n5 k,hp.nodup_iff.2 (dm.2 ⟨fresh,h.sep⟩)⟩
theorem oA.QV {{Z σ1:Sg}} {{gb m0 m1 sa ma b3 b4:Nat}} {{es0 es1:List (V × V)}} {{A:List aG}} {{L3 L4:List dL}}(h:oA E Z gb m0 m1 sa ma b3 b4 es0 es1 A L3 L4) {x:aG}(hx:bP L4 x=none) {s m:Nat} (k1:Lb.qU Z σ1)(hs:Lb.cV σ1 s m [])(hm:Z.length<=m):oA E (σ1.set b4 (.map ((L4++[dL.mk x s m []]).map oO))) gb m0 m1 sa ma b3 b4 es0 es1 A L3 (L4++[dL.mk x s m []]):=by
 have h1:=h.oM k1
 have fresh:=h.below hm
 have hx1:=h1.jU.map
 have sep:=h.sep
 simp only[dm,IN,bt,pq]at sep
 obtain⟨⟨-,-,-,a3,-⟩,⟨-,-,b3',-⟩,⟨-,c3,-⟩,⟨n3,-,-⟩,⟨n4,n5⟩,-⟩:=sep
 have hmb:m≠b4:=λe=>fresh (by rw[e];simp)
 have new:=jC.new h1.jU hx hs n5 hmb
 have ng:gb≠b4:=λe=>by
  have:=h1.g
  rw[e,hx1]at this
  cases this
 have k:∀(j:Nat) (o:O),j≠b4->σ1[j]?=some o->(σ1.set b4 (.map ((L4++[dL.mk x s m []]).map oO)))[j]?=some o:=λj o hj ho=>by
  rw[IT (ju hj)];exact ho
 have hp:(m0::m1::ma::b3::b4::(L3.map dL.m++(L4++[dL.mk x s m []]).map dL.m)).Perm (m::(m0::m1::ma::b3::b4::(L3.map dL.m++L4.map dL.m))):=by simpa using jr (l₁:=m0::m1::ma::b3::b4::(L3.map dL.m++L4.map dL.m)) (a:=m) (l₂:=[])
 exact⟨k _ _ ng h1.g,k _ _ a3 h1.rules,k _ _ b3' h1.jM,cV.keep h1.all hx1 c3 k,h1.jZ.keep hx1 n3 n4 k,new,hp.nodup_iff.2 (dm.2 ⟨fresh,h.sep⟩)⟩
end
end
section
section
variable {E:Env}{Z:Sg}{K:V->Sg->Prop}
theorem Y3 (h:bK E)(h':tP E)(hl:Lb.cH E) {Y:Sg} {{gb m0 m1 sa ma b3 b4:Nat}} {{es0 es1:List (V × V)}} {{A:List aG}} {{L3 L4:List dL}} (ga:oA E Y gb m0 m1 sa ma b3 b4 es0 es1 A L3 L4) {x y:aG}{n0 n1:Nat}(hx:Y[n0]?=some (O.cells 51 [.bool x.1,.str x.2] true))(hy:Y[n1]?=some (O.cells 51 [.bool y.1,.str y.2] true))(hA:A.length<=1000000) (F:FT) (g0:F.get 0=.ref gb 0) (g4:F.get 4=.ref n0 0) (g5:F.get 5=.ref n1 0) {st:List gT}{Q:Ax.X->Fr->Sg->Prop}
  (hk:∀F' τ',(∀k,k∈[0,4,5]->F'.get k=F.get k)->oA E τ' gb m0 m1 sa ma b3 b4 es0 es1 (keys A [x,y]) L3 L4->τ'[n0]?=some (O.cells 51 [.bool x.1,.str x.2] true)->τ'[n1]?=some (O.cells 51 [.bool y.1,.str y.2] true)->Lb.dQ Y τ'->M E st .normal ⟨57,F'⟩ τ' Q):Ax.R E (.region 1 (opsOf (cutAt [1,0] (aA Tryz.f65).code)) true) st ⟨57,F⟩ Y Q:=by
 have ga1:=ga.app (O.cells 51 [.bool x.1,.str x.2,.bool y.1,.str y.2] true)
 have hx1:=aJ (x:=O.cells 51 [.bool x.1,.str x.2,.bool y.1,.str y.2] true) hx
 have hy1:=aJ (x:=O.cells 51 [.bool x.1,.str x.2,.bool y.1,.str y.2] true) hy
 have hsv:Lb.SV (Y++[O.cells 51 [.bool x.1,.str x.2,.bool y.1,.str y.2] true]) (.sl Y.length 0 2 none) [x,y]:=.inr (.inr ⟨Y.length,_,true,rfl,aL,rfl⟩)
 obtain⟨n,r,τ2,hcall,hr,hset,hkp⟩:=Lb.Qy hl ga1.all hsv (show 2<=10000000000 by omega) (by omega)
 have ga2:=ga1.more hset hkp
 have hma:=ga1.all.map
 have ne:∀{k:Nat}{t:Nat}{cs:List V}{ex:Bool},(Y++[O.cells 51 [.bool x.1,.str x.2,.bool y.1,.str y.2] true])[k]?=some (.cells t cs ex)->k≠ma:=λhk e=>by
  rw[e,hma]at hk
  cases hk
 have hx2:=hkp _ _ (ne hx1) hx1
 have hy2:=hkp _ _ (ne hy1) hy1
 have g:=ga.g
 have g1:=ga1.g
 have vr:pA 12 (.ref sa 0) (.ref sa 0)=true:=by unfold pA;simp
 have key:∃F',bW E (ev E n) (opsOf (cutAt [1,0] (aA Tryz.f65).code)) ⟨57,F⟩ Y=some (⟨57,F'⟩,τ2)/\(∀k,k∈[0,4,5]->F'.get k=F.get k):=by
  unfold bW
  rw[h'.Wk,h'.X4]
  simp only[aA,Tryz.f65,KP,Ax.loadAt,↓reduceIte,reduceEqDiff,reduceLT,reduceLeDiff,reduceAdd,reduceMul,reduceCtorEq,h.dB,h.cF,opsOf,cutAt,Fz.lits,fF,bJ,bV,jF,Ax.comp,Ax.last,eL,Ax.again,Ax.fill,fR,ir,hl.tW,h'.xO,g0,g4,g5,hx,hy,g,g1,hcall,vr]
  refine⟨_,rfl,λk hk=>?_⟩
  simp only[IN,ck,fh]at hk
  rcases hk with rfl | rfl | rfl <;> simp +decide only[GS]
 obtain⟨F',hD,hF⟩:=key
 exact Eq.mpr (fO hD) (hk F' τ2 hF ga2 hx2 hy2 ((Lb.dQ.app Y _).trans (Lb.Kp.uJ hkp hma)))
end
end
section
section
variable {E:Env}{Z:Sg}{K:V->Sg->Prop}
theorem gL {L:List dL}{x:aG}{e:dL}(h:bP L x=some e):e∈L/\x=e.key:=by
 unfold bP at h
 exact⟨List.mem_of_find?_eq_some h,by have:=find?_some h;simpa using this⟩
theorem Le (h:bK E)(h':tP E)(hl:Lb.cH E) {Y:Sg}{nb mb:Nat}{L:List dL}{x y:aG}{e:dL}(hm:jC Y mb L)(he:bP L x=some e)(hb:Y[nb]?=some (O.cells 144 [.mp mb,.bool x.1,.str x.2,.bool y.1,.str y.2] true))(hks:e.ks.length<=1000000)(hmb:mb≠e.m) (F:FT) (g7:F.get 7=.ref nb 0) {st:List gT}{Q:Ax.X->Fr->Sg->Prop}
  (hk:∀F' τ',(∀k,k∈[0,4,5,7,30,31,32]->F'.get k=F.get k)->Lb.cV τ' e.s e.m (keys e.ks [y])->Lb.Kp (Y++[O.cells 51 [.bool y.1,.str y.2] true]) τ' e.m->M E st .normal ⟨57,F'⟩ τ' Q):Ax.R E (.region 7 (opsOf (cutAt [1,1,1,2,2,1,1,0,2,1,1] (aA Tryz.f65).code)) true) st ⟨57,F⟩ Y Q:=by
 obtain⟨hme,hxe⟩:=gL he
 have hm1:=hm.app (O.cells 51 [.bool y.1,.str y.2] true)
 have hb1:=aJ (x:=O.cells 51 [.bool y.1,.str y.2] true) hb
 have hs1:=hm1.sets e hme
 have hsv:Lb.SV (Y++[O.cells 51 [.bool y.1,.str y.2] true]) (.sl Y.length 0 1 none) [y]:=.inr (.inr ⟨Y.length,_,true,rfl,aL,rfl⟩)
 obtain⟨n,r,τ2,hcall,hr,hset,hkp⟩:=Lb.Qy hl hs1 hsv (show 1<=10000000000 by omega) (by omega)
 have ne:nb≠e.m:=λe'=>by
  have:=hs1.map
  rw[<- e',hb1]at this
  cases this
 have lk:lookup E Y 92 (.mp mb) (.agg [.bool x.1,.str x.2]) false=some (.ref e.s 0):=by
  have:=yV h' hl hm x
  rw[he]at this
  exact this
 have lk1:lookup E (Y++[O.cells 51 [.bool y.1,.str y.2] true]) 92 (.mp mb) (.agg [.bool x.1,.str x.2]) false=some (.ref e.s 0):=by
  have:=yV h' hl hm1 x
  rw[he]at this
  exact this
 have lk2:lookup E τ2 92 (.mp mb) (.agg [.bool x.1,.str x.2]) false=some (.ref e.s 0):=by
  have:=EW h' hl (hkp _ _ hmb hm1.map) x
  rw[he]at this
  exact this
 have vr:pA 12 (.ref e.s 0) (.ref e.s 0)=true:=by unfold pA;simp
 have vm:pA 12 (.mp mb) (.mp mb)=true:=by unfold pA;simp
 have vl:pA 12 (.agg [.bool x.1,.str x.2]) (.agg [.bool x.1,.str x.2])=true:=pY λz hz=>by
  simp only[IN,ck,fh]at hz
  rcases hz with rfl | rfl
  ·show decide (x.1=x.1)=true
   simp
  ·exact xL 10 x.2
 have key:∃F',bW E (ev E n) (opsOf (cutAt [1,1,1,2,2,1,1,0,2,1,1] (aA Tryz.f65).code)) ⟨57,F⟩ Y=some (⟨57,F'⟩,τ2)/\(∀k,k∈[0,4,5,7,30,31,32]->F'.get k=F.get k):=by
  unfold bW
  rw[h'.Wi,h'.X1]
  simp only[aA,Tryz.f65,KP,Ax.loadAt,↓reduceIte,reduceEqDiff,reduceLT,reduceLeDiff,reduceAdd,reduceMul,reduceCtorEq,h.dB,h.cF,opsOf,cutAt,Fz.lits,fF,bJ,bV,jF,Ax.comp,Ax.last,eL,Ax.again,Ax.fill,fR,ir,h'.wI,h'.xQ,g7,hb,hb1,lk,lk1,hcall,vr,vm,vl]
  refine⟨_,rfl,λk hk=>?_⟩
  simp only[IN,ck,fh]at hk
  rcases hk with rfl | rfl | rfl | rfl | rfl | rfl | rfl <;> simp +decide only[GS]
 obtain⟨F',hD,hF⟩:=key
 exact Eq.mpr (fO hD) (hk F' τ2 hF hset hkp)
end
end
section
section
variable {E:Env}{Z:Sg}{K:V->Sg->Prop}
theorem TG (h:bK E)(h':tP E)(hl:Lb.cH E) {Y:Sg}{nb mb:Nat}{L:List dL}{x y:aG}(hm:jC Y mb L)(he:bP L x=none)(hb:Y[nb]?=some (O.cells 144 [.mp mb,.bool x.1,.str x.2,.bool y.1,.str y.2] true)) (F:FT) (g7:F.get 7=.ref nb 0) {st:List gT}{Q:Ax.X->Fr->Sg->Prop}
  (hk:∀F' τ1 m,(∀k,k∈[0,4,5,7,30,31,32]->F'.get k=F.get k)->Lb.qU Y τ1->Lb.cV τ1 Y.length m []->Y.length<m->M E st .normal ⟨57,F'⟩ (τ1.set mb (.map ((L++[dL.mk x Y.length m []]).map oO))) Q):Ax.R E (.region 6 (opsOf (cutAt [1,1,1,2,2,1,1,0,2,1,0,1,0] (aA Tryz.f65).code)) true) st ⟨57,F⟩ Y Q:=by
 obtain⟨n,r,τ1,hcall,m,rfl,hset,hlt,oM⟩:=Lb.Qr hl (Z:=Y) (v:=.aF) (l:=[]) (.inl ⟨rfl,rfl⟩) (by simp)
 have hb1:=oM _ _ hb
 have put:=FP h' hl (hm.oM oM) he (s:=Y.length) (m:=m) (ks:=[])
 unfold kA at put
 have vm:pA 12 (.mp mb) (.mp mb)=true:=by unfold pA;simp
 have vl:pA 12 (.agg [.bool x.1,.str x.2]) (.agg [.bool x.1,.str x.2])=true:=pY λz hz=>by
  simp only[IN,ck,fh]at hz
  rcases hz with rfl | rfl
  ·show decide (x.1=x.1)=true
   simp
  ·exact xL 10 x.2
 have key:∃F',bW E (ev E n) (opsOf (cutAt [1,1,1,2,2,1,1,0,2,1,0,1,0] (aA Tryz.f65).code)) ⟨57,F⟩ Y=some (⟨57,F'⟩,τ1.set mb (.map ((L++[dL.mk x Y.length m []]).map oO)))/\(∀k,k∈[0,4,5,7,30,31,32]->F'.get k=F.get k):=by
  unfold bW
  rw[h'.Wj,h'.X2]
  simp only[aA,Tryz.f65,KP,Ax.loadAt,↓reduceIte,reduceEqDiff,reduceLT,reduceLeDiff,reduceAdd,reduceCtorEq,h.cF,opsOf,cutAt,fF,bJ,bV,jF,Ax.comp,Ax.last,eL,Ax.again,aU,h'.wI,h'.xQ,g7,hb,hb1,hcall,put,vm,vl]
  refine⟨_,rfl,λk hk=>?_⟩
  simp only[IN,ck,fh]at hk
  rcases hk with rfl | rfl | rfl | rfl | rfl | rfl | rfl <;> simp +decide only[GS]
 obtain⟨F',hD,hF⟩:=key
 exact Eq.mpr (fO hD) (hk F' τ1 m hF oM hset hlt)
end
end
section
section
variable {E:Env}{Z:Sg}{K:V->Sg->Prop}
def rG (L:List dL) (z:aG):List aG:=match bP L z with
 |some e=>e.ks
 |none=>[]
theorem He (L:List dL) (x:aG) (ks:List aG) (z:aG):bP (qA L x ks) z=(bP L z).map λe=>if e.key=x then { e with ks:=ks } else e:=by
 unfold bP qA
 induction L with
 |nil=>rfl
 |cons e L ih=>
  rw[bl,mz,mz]
  have hk:(if e.key=x then { e with ks:=ks } else e).key=e.key:=by
   by_cases h:e.key=x
   ·rw[bf h]
   ·rw[az h]
  rw[hk]
  by_cases hz:z=e.key
  ·rw[AT hz];rfl
  ·rw[AS hz];exact ih
theorem R1 {L:List dL}{e:dL}{x:aG}(he:bP L x=some e) (ks:List aG) (z:aG):rG (qA L e.key ks) z=if z=x then ks else rG L z:=by
 obtain⟨hme,hxe⟩:=gL he
 unfold rG
 rw[He]
 by_cases hz:z=x
 ·rw[bf hz,hz,he]
  show (match (some (if e.key=e.key then { e with ks:=ks } else e):Option dL) with
   |some e=>e.ks
   |none=>[])=ks
  rw[bf rfl]
 ·rw[az hz]
  cases hq:bP L z with
  |none=>rfl
  |some q=>
   obtain⟨-,hzq⟩:=gL hq
   show (if q.key=e.key then { q with ks:=ks } else q).ks=q.ks
   rw[az (λe'=>hz (by rw[hzq,e',hxe]))]
theorem xZ (L:List dL) (e:dL)(hx:bP L e.key=none) (z:aG):bP (L++[e]) z=if z=e.key then some e else bP L z:=by
 unfold bP at *
 rw[List.find?_append]
 by_cases hz:z=e.key
 ·rw[bf hz,hz,hx,mz,AT rfl];rfl
 ·rw[az hz,mz,AS hz,List.find?_nil]
  cases List.find? (λe=>decide (z=e.key)) L <;> rfl
structure Grow (L:List dL) (x y:aG) (L':List dL):Prop where
 mem:∀z w,w∈rG L' z ↔ w∈rG L z\/(z=x/\w=y)
 len:∀n,(∀e∈L,e.ks.length<=n)->∀e∈L',e.ks.length<=n+1
 key:∀z,z∈L'.map dL.key ↔ z∈L.map dL.key\/z=x
theorem U9 {L:List dL}{x:aG}:x∈L.map dL.key ↔ ∃e,bP L x=some e:=by
 constructor
 ·intro h
  obtain⟨e,he,rfl⟩:=cm.1 h
  cases hq:bP L e.key with
  |some q=>exact⟨q,rfl⟩
  |none=>
   have:=mg.1 hq e he
   simp at this
 ·rintro⟨e,he⟩
  obtain⟨h1,h2⟩:=gL he
  exact cm.2 ⟨e,h1,h2.symm⟩
theorem PA (l:List aG) (y:aG):keys l [y]=kB l y:=rfl
theorem MJ (l:List aG) (y:aG):(kB l y).length<=l.length+1:=by
 unfold kB
 by_cases h:y∈l
 ·rw[bf h];omega
 ·rw[az h,ak];exact ae _
theorem Grow.up {L:List dL}{e:dL}{x:aG}(he:bP L x=some e) (y:aG):Grow L x y (qA L e.key (keys e.ks [y])):=by
 obtain⟨hme,hxe⟩:=gL he
 refine⟨λz w=>?_,λn hn a ha=>?_,λz=>?_⟩
 ·rw[R1 he]
  by_cases hz:z=x
  ·have:rG L z=e.ks:=by unfold rG;rw[hz,he]
   rw[bf hz,this,PA,ES]
   exact⟨λh=>h.imp id λh=>⟨hz,h⟩,λh=>h.imp id And.right⟩
  ·rw[az hz]
   exact⟨.inl,λh=>h.elim id λh=>absurd h.1 hz⟩
 ·obtain⟨a0,ha0,rfl⟩:=cm.1 ha
  by_cases hk:a0.key=e.key
  ·rw[bf hk]
   have:=MJ e.ks y
   have:=hn e hme
   show (kB e.ks y).length<=n+1
   omega
  ·rw[az hk]
   have:=hn a0 ha0
   omega
 ·rw[Ei]
  refine⟨.inl,λh=>h.elim id λh=>?_⟩
  rw[h]
  exact U9.2 ⟨e,he⟩
theorem Grow.new {L:List dL}{x:aG}{s m:Nat}(hx:bP L x=none) (y:aG):bP (L++[dL.mk x s m []]) x=some (dL.mk x s m [])/\Grow L x y (qA (L++[dL.mk x s m []]) x (keys [] [y])):=by
 have he:bP (L++[dL.mk x s m []]) x=some (dL.mk x s m []):=by rw[xZ _ _ hx,bf rfl]
 have g:=Grow.up he y
 refine⟨he,λz w=>?_,λn hn a ha=>?_,λz=>?_⟩
 ·rw[g.mem]
  have:rG (L++[dL.mk x s m []]) z=rG L z:=by
   unfold rG
   rw[xZ _ _ hx]
   by_cases hz:z=x
   ·rw[bf hz,hz,hx]
   ·rw[az hz]
  rw[this]
 ·refine g.len n (λe he=>?_) a ha
  rcases bt.1 he with he | he
  ·exact hn e he
  ·rw[cj.1 he];exact ij _
 ·rw[g.key,eu,bt]
  constructor
  ·rintro ((h | h) | h)
   ·exact .inl h
   ·exact .inr (by simpa using h)
   ·exact .inr h
  ·exact λh=>h.imp .inl id
end
end
section
section
variable {E:Env}{Z:Sg}{K:V->Sg->Prop}
theorem Kp.uJ {Z σ':Sg}{m:Nat}{es:List (V × V)}(h:Lb.Kp Z σ' m)(hm:Z[m]?=some (.map es)):Lb.dQ Z σ':=Lb.Kp.uJ h hm
theorem dQ.BE (Z:Sg) (y:O):Lb.dQ Z (Z++[y]):=Lb.dQ.app Z [y]
theorem map_lt {Z:Sg}{b:Nat}{o:O}(h:Z[b]?=some o):b<Z.length:=(AI.1 h).1
theorem RV (h:bK E)(h':tP E)(hl:Lb.cH E) {Y:Sg}{gb m0 m1 sa ma b3 b4:Nat}{es0 es1:List (V × V)}{A:List aG}{L3 L4:List dL} (ga:oA E Y gb m0 m1 sa ma b3 b4 es0 es1 A L3 L4) {x y:aG}{blk:Nat}(hb:Y[blk]?=some (O.cells 144 [.mp b3,.bool x.1,.str x.2,.bool y.1,.str y.2,.mp b4,.bool y.1,.str y.2,.bool x.1,.str x.2] true))(hks:∀e∈L3,e.ks.length<=1000000) (F:FT) (g30:F.get 30=.sl blk 0 2 none) (g32:F.get 32=.int .i64 0) {st:List gT}{Q:Ax.X->Fr->Sg->Prop}
  (hk:∀F' τ' L',(∀k,k∈[0,4,5,30,31,32]->F'.get k=F.get k)->oA E τ' gb m0 m1 sa ma b3 b4 es0 es1 A L' L4->Grow L3 x y L'->Lb.dQ Y τ'->M E st .normal ⟨57,F'⟩ τ' Q):Ax.R E (cutAt [1,1,1,2,2,1,1,0,2] (aA Tryz.f65).code) st ⟨57,F⟩ Y Q:=by
 have ia:indexAddr E 145 (.sl blk 0 2 none) (.int .i64 0)=some (.ref blk 0):=by unfold Ax.indexAddr;simp only[h'.Kn,h'.xQ];rfl
 have ga1:=ga.app (O.cells 144 [.mp b3,.bool x.1,.str x.2,.bool y.1,.str y.2] true)
 have hnb:(Y++[O.cells 144 [.mp b3,.bool x.1,.str x.2,.bool y.1,.str y.2] true])[Y.length]?=some (O.cells 144 [.mp b3,.bool x.1,.str x.2,.bool y.1,.str y.2] true):=aL
 have lk:=yV h' hl ga1.jZ x
 unfold kA at lk
 rcases hq:bP L3 x with _ | e
 ·rw[hq]at lk
  have r7:=λ(ρ:Sg) (m:Nat) gm he hbx hln hne F g7 st Q hk=>Le (Y:=ρ) (nb:=Y.length) (mb:=b3) (L:=L3++[dL.mk x (Y++[O.cells 144 [.mp b3,.bool x.1,.str x.2,.bool y.1,.str y.2] true]).length m []]) (x:=x) (y:=y) (e:=dL.mk x (Y++[O.cells 144 [.mp b3,.bool x.1,.str x.2,.bool y.1,.str y.2] true]).length m []) h h' hl gm he hbx hln hne F g7 (st:=st) (Q:=Q) hk
  have r6:=λF g7 st Q hk=>TG (Y:=Y++[O.cells 144 [.mp b3,.bool x.1,.str x.2,.bool y.1,.str y.2] true]) (nb:=Y.length) (mb:=b3) (L:=L3) (x:=x) (y:=y) h h' hl ga1.jZ hq hnb F g7 (st:=st) (Q:=Q) hk
  rw[show cutAt [1,1,1,2,2,1,1,0,2] (aA Tryz.f65).code=.seq (cutAt [1,1,1,2,2,1,1,0,2,0] (aA Tryz.f65).code) (.seq (.seq (cutAt [1,1,1,2,2,1,1,0,2,1,0,0] (aA Tryz.f65).code) (.cond (.tmp 41) (cutAt [1,1,1,2,2,1,1,0,2,1,0,1,0] (aA Tryz.f65).code) .skip)) (cutAt [1,1,1,2,2,1,1,0,2,1,1] (aA Tryz.f65).code)) from rfl]
  rw[show cutAt [1,1,1,2,2,1,1,0,2,1,0,1,0] (aA Tryz.f65).code=.region 6 (opsOf (cutAt [1,1,1,2,2,1,1,0,2,1,0,1,0] (aA Tryz.f65).code)) true from rfl,show cutAt [1,1,1,2,2,1,1,0,2,1,1] (aA Tryz.f65).code=.region 7 (opsOf (cutAt [1,1,1,2,2,1,1,0,2,1,1] (aA Tryz.f65).code)) true from rfl]
  generalize opsOf (cutAt [1,1,1,2,2,1,1,0,2,1,0,1,0] (aA Tryz.f65).code)=O6 at r6 ⊢
  generalize opsOf (cutAt [1,1,1,2,2,1,1,0,2,1,1] (aA Tryz.f65).code)=O7 at r7 ⊢
  have e77:m_ E 69 true .gG .gG=some true:=by unfold m_;rw[hl.tW]
  simp only[aA,Tryz.f65,KP,Ax.loadAt,Ax.storeAt,↓reduceIte,reduceEqDiff,reduceLT,reduceLeDiff,reduceAdd,reduceCtorEq,h.cF,e77,cutAt,h'.xQ,h'.wI,g30,g32,ia,hb,hnb,lk,aL,cA]
  refine r6 _ ?_ _ _ (λF1 τ1 m hF1 oM hset hlt=>?_)
  ·simp +decide only[GS]
  have hx1:=ga1.jZ.map
  have ga2:=ga1.RI hq oM hset (Nat.le_of_lt hlt)
  have hmb:b3<(Y++[O.cells 144 [.mp b3,.bool x.1,.str x.2,.bool y.1,.str y.2] true]).length:=map_lt hx1
  have hnb2:(τ1.set b3 (.map ((L3++[dL.mk x (Y++[O.cells 144 [.mp b3,.bool x.1,.str x.2,.bool y.1,.str y.2] true]).length m []]).map oO)))[Y.length]?=some (O.cells 144 [.mp b3,.bool x.1,.str x.2,.bool y.1,.str y.2] true):=by
   rw[IT]
   ·exact oM _ _ hnb
   ·intro e
    have q:=hx1.symm.trans ((au (λi=>(Y++[O.cells 144 [.mp b3,.bool x.1,.str x.2,.bool y.1,.str y.2] true])[i]?) e).trans hnb)
    cases q
  rw[EU]
  refine r7 _ m ga2.jZ (Grow.new hq y).1 hnb2 (ij _) (show b3≠m by omega) _ ?_ _ _ (λF2 τ2 hF2 hset2 kp=>?_)
  ·exact (hF1 7 (by simp)).trans (by simp +decide only[GS])
  have gb2:=ga2.app (O.cells 51 [.bool y.1,.str y.2] true)
  have ga3:=gb2.O2 (gL (Grow.new hq y).1).1 hset2 kp
  refine hk _ _ _ (λk hk=>?_) ga3 (Grow.new hq y).2 ?_
  ·have h7:k∈[0,4,5,7,30,31,32]:=by
    simp only[IN,ck,fh]at hk ⊢
    omega
   refine (hF2 k h7).trans ((hF1 k h7).trans ?_)
   simp only[IN,ck,fh]at hk
   rcases hk with rfl | rfl | rfl | rfl | rfl | rfl <;> simp +decide only[GS]
  ·exact ((((dQ.BE Y _).trans oM.uJ).trans (Lb.dQ.FK (oM _ _ hx1))).trans (dQ.BE _ _)).trans (Lb.Kp.uJ kp (gb2.jZ.sets _ (gL (Grow.new hq y).1).1).map)
 ·rw[hq]at lk
  have e77:m_ E 69 true (.ref e.s 0) .gG=some false:=by unfold m_;rw[hl.tW]
  obtain⟨hme,hxe⟩:=gL hq
  obtain⟨-,-,f3⟩:=ga1.facts
  have hmb:=f3 e.m (by first | exact .inl (cm.2 ⟨e,hme,rfl⟩) | exact .inr (cm.2 ⟨e,hme,rfl⟩))
  have r7:=λF g7 st Q hk=>Le (Y:=Y++[O.cells 144 [.mp b3,.bool x.1,.str x.2,.bool y.1,.str y.2] true]) (nb:=Y.length) (mb:=b3) (L:=L3) (x:=x) (y:=y) (e:=e) h h' hl ga1.jZ hq hnb (hks e hme) (by first | exact hmb.2.2.2.1 | exact hmb.2.2.2.2) F g7 (st:=st) (Q:=Q) hk
  rw[show cutAt [1,1,1,2,2,1,1,0,2] (aA Tryz.f65).code=.seq (cutAt [1,1,1,2,2,1,1,0,2,0] (aA Tryz.f65).code) (.seq (.seq (cutAt [1,1,1,2,2,1,1,0,2,1,0,0] (aA Tryz.f65).code) (.cond (.tmp 41) (cutAt [1,1,1,2,2,1,1,0,2,1,0,1,0] (aA Tryz.f65).code) .skip)) (cutAt [1,1,1,2,2,1,1,0,2,1,1] (aA Tryz.f65).code)) from rfl]
  rw[show cutAt [1,1,1,2,2,1,1,0,2,1,0,1,0] (aA Tryz.f65).code=.region 6 (opsOf (cutAt [1,1,1,2,2,1,1,0,2,1,0,1,0] (aA Tryz.f65).code)) true from rfl,show cutAt [1,1,1,2,2,1,1,0,2,1,1] (aA Tryz.f65).code=.region 7 (opsOf (cutAt [1,1,1,2,2,1,1,0,2,1,1] (aA Tryz.f65).code)) true from rfl]
  generalize opsOf (cutAt [1,1,1,2,2,1,1,0,2,1,0,1,0] (aA Tryz.f65).code)=O6 at ⊢
  generalize opsOf (cutAt [1,1,1,2,2,1,1,0,2,1,1] (aA Tryz.f65).code)=O7 at r7 ⊢
  simp only[aA,Tryz.f65,KP,Ax.loadAt,Ax.storeAt,↓reduceIte,reduceEqDiff,reduceLT,reduceLeDiff,reduceAdd,reduceCtorEq,h.cF,e77,cutAt,h'.xQ,h'.wI,g30,g32,ia,hb,hnb,lk,aL,cA]
  refine r7 _ ?_ _ _ (λF2 τ2 hF2 hset2 kp=>?_)
  ·simp +decide only[GS]
  have gb2:=ga1.app (O.cells 51 [.bool y.1,.str y.2] true)
  have ga3:=gb2.O2 hme hset2 kp
  refine hk _ _ _ (λk hk=>?_) ga3 (Grow.up hq y) ?_
  ·have h7:k∈[0,4,5,7,30,31,32]:=by
    simp only[IN,ck,fh]at hk ⊢
    omega
   refine (hF2 k h7).trans ?_
   simp only[IN,ck,fh]at hk
   rcases hk with rfl | rfl | rfl | rfl | rfl | rfl <;> simp +decide only[GS]
  ·exact ((dQ.BE Y _).trans (dQ.BE _ _)).trans (Lb.Kp.uJ kp (gb2.jZ.sets e hme).map)
theorem RU (h:bK E)(h':tP E)(hl:Lb.cH E) {Y:Sg}{gb m0 m1 sa ma b3 b4:Nat}{es0 es1:List (V × V)}{A:List aG}{L3 L4:List dL} (ga:oA E Y gb m0 m1 sa ma b3 b4 es0 es1 A L3 L4) {x y:aG}{blk:Nat}(hb:Y[blk]?=some (O.cells 144 [.mp b3,.bool x.1,.str x.2,.bool y.1,.str y.2,.mp b4,.bool y.1,.str y.2,.bool x.1,.str x.2] true))(hks:∀e∈L4,e.ks.length<=1000000) (F:FT) (g30:F.get 30=.sl blk 0 2 none) (g32:F.get 32=.int .i64 1) {st:List gT}{Q:Ax.X->Fr->Sg->Prop}
  (hk:∀F' τ' L',(∀k,k∈[0,4,5,30,31,32]->F'.get k=F.get k)->oA E τ' gb m0 m1 sa ma b3 b4 es0 es1 A L3 L'->Grow L4 y x L'->Lb.dQ Y τ'->M E st .normal ⟨57,F'⟩ τ' Q):Ax.R E (cutAt [1,1,1,2,2,1,1,0,2] (aA Tryz.f65).code) st ⟨57,F⟩ Y Q:=by
 have ia:indexAddr E 145 (.sl blk 0 2 none) (.int .i64 1)=some (.ref blk 5):=by unfold Ax.indexAddr;simp only[h'.Kn,h'.xQ];rfl
 have ga1:=ga.app (O.cells 144 [.mp b4,.bool y.1,.str y.2,.bool x.1,.str x.2] true)
 have hnb:(Y++[O.cells 144 [.mp b4,.bool y.1,.str y.2,.bool x.1,.str x.2] true])[Y.length]?=some (O.cells 144 [.mp b4,.bool y.1,.str y.2,.bool x.1,.str x.2] true):=aL
 have lk:=yV h' hl ga1.jU y
 unfold kA at lk
 rcases hq:bP L4 y with _ | e
 ·rw[hq]at lk
  have r7:=λ(ρ:Sg) (m:Nat) gm he hbx hln hne F g7 st Q hk=>Le (Y:=ρ) (nb:=Y.length) (mb:=b4) (L:=L4++[dL.mk y (Y++[O.cells 144 [.mp b4,.bool y.1,.str y.2,.bool x.1,.str x.2] true]).length m []]) (x:=y) (y:=x) (e:=dL.mk y (Y++[O.cells 144 [.mp b4,.bool y.1,.str y.2,.bool x.1,.str x.2] true]).length m []) h h' hl gm he hbx hln hne F g7 (st:=st) (Q:=Q) hk
  have r6:=λF g7 st Q hk=>TG (Y:=Y++[O.cells 144 [.mp b4,.bool y.1,.str y.2,.bool x.1,.str x.2] true]) (nb:=Y.length) (mb:=b4) (L:=L4) (x:=y) (y:=x) h h' hl ga1.jU hq hnb F g7 (st:=st) (Q:=Q) hk
  rw[show cutAt [1,1,1,2,2,1,1,0,2] (aA Tryz.f65).code=.seq (cutAt [1,1,1,2,2,1,1,0,2,0] (aA Tryz.f65).code) (.seq (.seq (cutAt [1,1,1,2,2,1,1,0,2,1,0,0] (aA Tryz.f65).code) (.cond (.tmp 41) (cutAt [1,1,1,2,2,1,1,0,2,1,0,1,0] (aA Tryz.f65).code) .skip)) (cutAt [1,1,1,2,2,1,1,0,2,1,1] (aA Tryz.f65).code)) from rfl]
  rw[show cutAt [1,1,1,2,2,1,1,0,2,1,0,1,0] (aA Tryz.f65).code=.region 6 (opsOf (cutAt [1,1,1,2,2,1,1,0,2,1,0,1,0] (aA Tryz.f65).code)) true from rfl,show cutAt [1,1,1,2,2,1,1,0,2,1,1] (aA Tryz.f65).code=.region 7 (opsOf (cutAt [1,1,1,2,2,1,1,0,2,1,1] (aA Tryz.f65).code)) true from rfl]
  generalize opsOf (cutAt [1,1,1,2,2,1,1,0,2,1,0,1,0] (aA Tryz.f65).code)=O6 at r6 ⊢
  generalize opsOf (cutAt [1,1,1,2,2,1,1,0,2,1,1] (aA Tryz.f65).code)=O7 at r7 ⊢
  have e77:m_ E 69 true .gG .gG=some true:=by unfold m_;rw[hl.tW]
  simp only[aA,Tryz.f65,KP,Ax.loadAt,Ax.storeAt,↓reduceIte,reduceEqDiff,reduceLT,reduceLeDiff,reduceAdd,reduceCtorEq,h.cF,e77,cutAt,h'.xQ,h'.wI,g30,g32,ia,hb,hnb,lk,aL,cA]
  refine r6 _ ?_ _ _ (λF1 τ1 m hF1 oM hset hlt=>?_)
  ·simp +decide only[GS]
  have hx1:=ga1.jU.map
  have ga2:=ga1.QV hq oM hset (Nat.le_of_lt hlt)
  have hmb:b4<(Y++[O.cells 144 [.mp b4,.bool y.1,.str y.2,.bool x.1,.str x.2] true]).length:=map_lt hx1
  have hnb2:(τ1.set b4 (.map ((L4++[dL.mk y (Y++[O.cells 144 [.mp b4,.bool y.1,.str y.2,.bool x.1,.str x.2] true]).length m []]).map oO)))[Y.length]?=some (O.cells 144 [.mp b4,.bool y.1,.str y.2,.bool x.1,.str x.2] true):=by
   rw[IT]
   ·exact oM _ _ hnb
   ·intro e
    have q:=hx1.symm.trans ((au (λi=>(Y++[O.cells 144 [.mp b4,.bool y.1,.str y.2,.bool x.1,.str x.2] true])[i]?) e).trans hnb)
    cases q
  rw[EU]
  refine r7 _ m ga2.jU (Grow.new hq x).1 hnb2 (ij _) (show b4≠m by omega) _ ?_ _ _ (λF2 τ2 hF2 hset2 kp=>?_)
  ·exact (hF1 7 (by simp)).trans (by simp +decide only[GS])
  have gb2:=ga2.app (O.cells 51 [.bool x.1,.str x.2] true)
  have ga3:=gb2.NN (gL (Grow.new hq x).1).1 hset2 kp
  refine hk _ _ _ (λk hk=>?_) ga3 (Grow.new hq x).2 ?_
  ·have h7:k∈[0,4,5,7,30,31,32]:=by
    simp only[IN,ck,fh]at hk ⊢
    omega
   refine (hF2 k h7).trans ((hF1 k h7).trans ?_)
   simp only[IN,ck,fh]at hk
   rcases hk with rfl | rfl | rfl | rfl | rfl | rfl <;> simp +decide only[GS]
  ·exact ((((dQ.BE Y _).trans oM.uJ).trans (Lb.dQ.FK (oM _ _ hx1))).trans (dQ.BE _ _)).trans (Lb.Kp.uJ kp (gb2.jU.sets _ (gL (Grow.new hq x).1).1).map)
 ·rw[hq]at lk
  have e77:m_ E 69 true (.ref e.s 0) .gG=some false:=by unfold m_;rw[hl.tW]
  obtain⟨hme,hxe⟩:=gL hq
  obtain⟨-,-,f3⟩:=ga1.facts
  have hmb:=f3 e.m (by first | exact .inl (cm.2 ⟨e,hme,rfl⟩) | exact .inr (cm.2 ⟨e,hme,rfl⟩))
  have r7:=λF g7 st Q hk=>Le (Y:=Y++[O.cells 144 [.mp b4,.bool y.1,.str y.2,.bool x.1,.str x.2] true]) (nb:=Y.length) (mb:=b4) (L:=L4) (x:=y) (y:=x) (e:=e) h h' hl ga1.jU hq hnb (hks e hme) (by first | exact hmb.2.2.2.1 | exact hmb.2.2.2.2) F g7 (st:=st) (Q:=Q) hk
  rw[show cutAt [1,1,1,2,2,1,1,0,2] (aA Tryz.f65).code=.seq (cutAt [1,1,1,2,2,1,1,0,2,0] (aA Tryz.f65).code) (.seq (.seq (cutAt [1,1,1,2,2,1,1,0,2,1,0,0] (aA Tryz.f65).code) (.cond (.tmp 41) (cutAt [1,1,1,2,2,1,1,0,2,1,0,1,0] (aA Tryz.f65).code) .skip)) (cutAt [1,1,1,2,2,1,1,0,2,1,1] (aA Tryz.f65).code)) from rfl]
  rw[show cutAt [1,1,1,2,2,1,1,0,2,1,0,1,0] (aA Tryz.f65).code=.region 6 (opsOf (cutAt [1,1,1,2,2,1,1,0,2,1,0,1,0] (aA Tryz.f65).code)) true from rfl,show cutAt [1,1,1,2,2,1,1,0,2,1,1] (aA Tryz.f65).code=.region 7 (opsOf (cutAt [1,1,1,2,2,1,1,0,2,1,1] (aA Tryz.f65).code)) true from rfl]
  generalize opsOf (cutAt [1,1,1,2,2,1,1,0,2,1,0,1,0] (aA Tryz.f65).code)=O6 at ⊢
  generalize opsOf (cutAt [1,1,1,2,2,1,1,0,2,1,1] (aA Tryz.f65).code)=O7 at r7 ⊢
  simp only[aA,Tryz.f65,KP,Ax.loadAt,Ax.storeAt,↓reduceIte,reduceEqDiff,reduceLT,reduceLeDiff,reduceAdd,reduceCtorEq,h.cF,e77,cutAt,h'.xQ,h'.wI,g30,g32,ia,hb,hnb,lk,aL,cA]
  refine r7 _ ?_ _ _ (λF2 τ2 hF2 hset2 kp=>?_)
  ·simp +decide only[GS]
  have gb2:=ga1.app (O.cells 51 [.bool x.1,.str x.2] true)
  have ga3:=gb2.NN hme hset2 kp
  refine hk _ _ _ (λk hk=>?_) ga3 (Grow.up hq x) ?_
  ·have h7:k∈[0,4,5,7,30,31,32]:=by
    simp only[IN,ck,fh]at hk ⊢
    omega
   refine (hF2 k h7).trans ?_
   simp only[IN,ck,fh]at hk
   rcases hk with rfl | rfl | rfl | rfl | rfl | rfl <;> simp +decide only[GS]
  ·exact ((dQ.BE Y _).trans (dQ.BE _ _)).trans (Lb.Kp.uJ kp (gb2.jU.sets e hme).map)
end
end
section
section
variable {E:Env}{Z:Sg}{K:V->Sg->Prop}
theorem Qm (h:bK E)(h':tP E)(hl:Lb.cH E) {Y:Sg}{gb m0 m1 sa ma b3 b4:Nat}{es0 es1:List (V × V)}{A:List aG}{L3 L4:List dL} (ga:oA E Y gb m0 m1 sa ma b3 b4 es0 es1 A L3 L4) {x y:aG}(hA:A.length<=1000000)(hk3:∀e∈L3,e.ks.length<=1000000)(hk4:∀e∈L4,e.ks.length<=1000000):aB E 65 [.ref gb 0,.agg [.bool x.1,.str x.2],.agg [.bool y.1,.str y.2]] Y λv τ'=>v=.gR []/\∃L3' L4',oA E τ' gb m0 m1 sa ma b3 b4 es0 es1 (keys A [x,y]) L3' L4'/\Grow L3 x y L3'/\Grow L4 y x L4'/\Lb.dQ Y τ':=by
 rw[dR h'.hs65 h'.sp65 h'.fn65 h'.md65,aY (by kernel_rfl)]
 have rn:=λ{Y} {L3 L4} {blk} A ga hb hks F g30 g32 st Q hk=>RV (Y:=Y) (L3:=L3) (L4:=L4) (A:=A) (x:=x) (y:=y) (blk:=blk) (gb:=gb) (m0:=m0) (m1:=m1) (sa:=sa) (ma:=ma) (b3:=b3) (b4:=b4) (es0:=es0) (es1:=es1) h h' hl ga hb hks F g30 g32 (st:=st) (Q:=Q) hk
 have ru:=λ{Y} {L3 L4} {blk} A ga hb hks F g30 g32 st Q hk=>RU (Y:=Y) (L3:=L3) (L4:=L4) (A:=A) (x:=x) (y:=y) (blk:=blk) (gb:=gb) (m0:=m0) (m1:=m1) (sa:=sa) (ma:=ma) (b3:=b3) (b4:=b4) (es0:=es0) (es1:=es1) h h' hl ga hb hks F g30 g32 (st:=st) (Q:=Q) hk
 have r1:=λ{Y} {n0 n1} ga hx hy F g0 g4 g5 st Q hk=>Y3 (Y:=Y) (n0:=n0) (n1:=n1) (A:=A) (L3:=L3) (L4:=L4) (x:=x) (y:=y) (gb:=gb) (m0:=m0) (m1:=m1) (sa:=sa) (ma:=ma) (b3:=b3) (b4:=b4) (es0:=es0) (es1:=es1) h h' hl ga hx hy hA F g0 g4 g5 (st:=st) (Q:=Q) hk
 have d2:=h'.aa2
 rw[show (aA Tryz.f65).code=.seq (cutAt [0] (aA Tryz.f65).code) (.seq (cutAt [1,0] (aA Tryz.f65).code) (.seq (cutAt [1,1,0] (aA Tryz.f65).code) (.block 0 (.loop (.seq (cutAt [1,1,1,2,2,0] (aA Tryz.f65).code) (.seq (cutAt [1,1,1,2,2,1,0] (aA Tryz.f65).code) (.seq (.block 1 (cutAt [1,1,1,2,2,1,1,0,2] (aA Tryz.f65).code)) (cutAt [1,1,1,2,2,1,1,1] (aA Tryz.f65).code)))))))) from rfl]
 rw[show cutAt [1,0] (aA Tryz.f65).code=.region 1 (opsOf (cutAt [1,0] (aA Tryz.f65).code)) true from rfl]
 generalize opsOf (cutAt [1,0] (aA Tryz.f65).code)=O1 at r1 ⊢
 generalize cutAt [1,1,1,2,2,1,1,0,2] (aA Tryz.f65).code=B at rn ru ⊢
 generalize hD2:cutAt [1,1,0] (aA Tryz.f65).code=D2 at d2 ⊢
 simp only[aA,Tryz.f65,KP,↓reduceIte,reduceEqDiff,reduceLT,reduceAdd,h.cF,cutAt]
 have gx:oA E (Y++[O.cells 51 [.bool x.1,.str x.2] true]++[O.cells 51 [.bool y.1,.str y.2] true]) gb m0 m1 sa ma b3 b4 es0 es1 A L3 L4:=(ga.app _).app _
 refine r1 gx (aJ aL) aL _ ?_ ?_ ?_ _ _ (λF1 τ1 hF1 ga1 hx1 hy1 kc1=>?_)
 ·simp +decide only[GS]
 ·simp +decide only[GS]
 ·simp +decide only[GS]
 have q0:F1.get 0=.ref gb 0:=(hF1 0 (by simp)).trans (by simp +decide only[GS])
 have q4:F1.get 4=.ref Y.length 0:=(hF1 4 (by simp)).trans (by simp +decide only[GS])
 have q5:F1.get 5=.ref (Y++[O.cells 51 [.bool x.1,.str x.2] true]).length 0:=(hF1 5 (by simp)).trans (by simp +decide only[GS])
 have hg:=ga1.g
 have kc0:Lb.dQ Y τ1:=(((dQ.BE Y _).trans (dQ.BE _ _)).trans kc1)
 generalize (Y++[O.cells 51 [.bool x.1,.str x.2] true]).length=n1 at *
 generalize Y.length=n0 at *
 rw[EU]
 subst hD2
 simp only[aA,Tryz.f65,cutAt,an]at d2
 have lz:∀(Z:Sg) (b:Nat),lenOf E Z 145 (.sl b 0 2 none)=some 2:=λZ b=>by unfold lenOf;rw[h'.Kn]
 have d0:decide ((0:Int)<((2:Nat):Int))=true:=rfl
 have d1:decide ((1:Int)<((2:Nat):Int))=true:=rfl
 have d2':decide ((2:Int)<((2:Nat):Int))=false:=rfl
 have w1:wr .i64 1=1:=rfl
 have w2:wr .i64 2=2:=rfl
 simp only[aA,Tryz.f65,KP,Ax.loadAt,↓reduceIte,reduceEqDiff,reduceLT,reduceLeDiff,reduceAdd,reduceMul,reduceCtorEq,h.cF,lz,cutAt,aK d2,bB,h'.wI,h'.xQ,h'.Kn,h'.xO,hg,hx1,hy1,q0,q4,q5,Ax.fill,Ax.placeOf,fR,ir]
 have ga2:=ga1.app (O.cells 144 [.mp b3,.bool x.1,.str x.2,.bool y.1,.str y.2,.mp b4,.bool y.1,.str y.2,.bool x.1,.str x.2] true)
 have hb2:(τ1++[O.cells 144 [.mp b3,.bool x.1,.str x.2,.bool y.1,.str y.2,.mp b4,.bool y.1,.str y.2,.bool x.1,.str x.2] true])[τ1.length]?=some (O.cells 144 [.mp b3,.bool x.1,.str x.2,.bool y.1,.str y.2,.mp b4,.bool y.1,.str y.2,.bool x.1,.str x.2] true):=aL
 have kc2:Lb.dQ Y (τ1++[O.cells 144 [.mp b3,.bool x.1,.str x.2,.bool y.1,.str y.2,.mp b4,.bool y.1,.str y.2,.bool x.1,.str x.2] true]):=kc0.trans (dQ.BE _ _)
 generalize τ1++[O.cells 144 [.mp b3,.bool x.1,.str x.2,.bool y.1,.str y.2,.mp b4,.bool y.1,.str y.2,.bool x.1,.str x.2] true]=τ2 at *
 generalize τ1.length=blk at *
 rw[aC]
 simp only[KP,↓reduceIte,reduceEqDiff,reduceLT,d0]
 refine rn _ ga2 hb2 hk3 _ ?_ ?_ _ _ (λF3 τ3 L3' hF3 ga3 gr3 kc3=>?_)
 ·simp +decide only[GS]
 ·simp +decide only[GS]
 have q30:F3.get 30=.sl blk 0 2 none:=(hF3 30 (by simp)).trans (by simp +decide only[GS])
 have q31:F3.get 31=.int .i64 ((2:Nat):Int):=(hF3 31 (by simp)).trans (by simp +decide only[GS])
 have q32:F3.get 32=.int .i64 0:=(hF3 32 (by simp)).trans (by simp +decide only[GS])
 simp only[KP,↓reduceIte,reduceLT,Int.reduceAdd,w1,q32]
 rw[aC]
 simp only[KP,↓reduceIte,reduceEqDiff,reduceLT,d1,q31]
 refine ru _ ga3 (kc3 _ _ _ _ hb2) hk4 _ ?_ ?_ _ _ (λF4 τ4 L4' hF4 ga4 gr4 kc4=>?_)
 ·simp +decide only[GS,q30]
 ·simp +decide only[GS]
 have q31':F4.get 31=.int .i64 ((2:Nat):Int):=(hF4 31 (by simp)).trans (by simp +decide only[GS,q31])
 have q32':F4.get 32=.int .i64 1:=(hF4 32 (by simp)).trans (by simp +decide only[GS])
 simp only[KP,↓reduceIte,reduceLT,Int.reduceAdd,w2,q32']
 rw[aC]
 simp only[KP,↓reduceIte,reduceEqDiff,reduceLT,d2',q31']
 exact⟨_,_,ga4,gr3,gr4,(kc2.trans kc3).trans kc4⟩
end
end
section
section
variable {E:Env}{Z:Sg}{K:V->Sg->Prop}
def eF (r:aD):List (aG × aG):=r.ins.map (λf=>(((true,r.name):aG),((false,f):aG)))++r.outs.map (λf=>(((false,f):aG),((true,r.name):aG)))
def iB (r:aD):aG:=(true,r.name)
structure vU (X:List aG) (P:List (aG × aG)) (A:List aG) (L3 L4:List dL):Prop where
 all:∀x,x∈A ↔ x∈X\/∃p∈P,x=p.1\/x=p.2
 need:∀z w,w∈rG L3 z ↔ (z,w)∈P
 user:∀z w,w∈rG L4 z ↔ (w,z)∈P
 Pu:A.length<=X.length+2*P.length
 Pw:∀e∈L3,e.ks.length<=P.length
 Pv:∀e∈L4,e.ks.length<=P.length
theorem vU.nil:vU [] [] [] [] []:=⟨λx=>by simp,λz w=>by simp[rG,bP],λz w=>by simp[rG,bP],ae _,(λe he=>by cases he),(λe he=>by cases he)⟩
theorem vU.link {X:List aG}{P:List (aG × aG)}{A:List aG}{L3 L4 L3' L4':List dL}{x y:aG}(h:vU X P A L3 L4) (g3:Grow L3 x y L3') (g4:Grow L4 y x L4'):vU X (P++[(x,y)]) (keys A [x,y]) L3' L4':=by
 refine⟨λz=>?_,λz w=>?_,λz w=>?_,?_,λe he=>?_,λe he=>?_⟩
 ·rw[mem_keys,h.all]
  constructor
  ·rintro ((h1 | ⟨p,hp,h1⟩) | h1)
   ·exact .inl h1
   ·exact .inr ⟨p,List.mem_append_left _ hp,h1⟩
   ·refine .inr ⟨(x,y),by simp,by simpa using h1⟩
  ·rintro (h1 | ⟨p,hp,h1⟩)
   ·exact .inl (.inl h1)
   ·rcases bt.1 hp with hp | hp
    ·exact .inl (.inr ⟨p,hp,h1⟩)
    ·rw[cj.1 hp]at h1
     exact .inr (by simpa using h1)
 ·rw[g3.mem,h.need,bt,cj]
  exact or_congr mh ⟨λq=>by rw[q.1,q.2],λq=>⟨au Prod.fst q,au Prod.snd q⟩⟩
 ·rw[g4.mem,h.user,bt,cj]
  exact or_congr mh ⟨λq=>by rw[q.1,q.2],λq=>⟨au Prod.snd q,au Prod.fst q⟩⟩
 ·have:=nT (xs:=[x,y]) (l:=A)
  have:=h.Pu
  simp only[ak,af,b8]at *
  omega
 ·rw[ak];exact g3.len _ h.Pw e he
 ·rw[ak];exact g4.len _ h.Pv e he
theorem vU.rule {X:List aG}{P:List (aG × aG)}{A:List aG}{L3 L4:List dL} (x:aG)(h:vU X P A L3 L4):vU (X++[x]) P (keys A [x]) L3 L4:=by
 refine⟨λz=>?_,h.need,h.user,?_,h.Pw,h.Pv⟩
 ·rw[mem_keys,h.all,bt]
  constructor
  ·rintro ((h1 | h1) | h1)
   ·exact .inl (.inl h1)
   ·exact .inr h1
   ·exact .inl (.inr h1)
  ·rintro ((h1 | h1) | h1)
   ·exact .inl (.inl h1)
   ·exact .inr h1
   ·exact .inl (.inr h1)
 ·have:=nT (xs:=[x]) (l:=A)
  have:=h.Pu
  simp only[ak,af,b8]at *
  omega
theorem Mw (r:aD)(hs:Small r):(eF r).length<=16:=by
 unfold eF
 rw[ak,bg,bg]
 have:=hs.ins
 have:=hs.outs
 omega
theorem pS:∀(rs:List aD),(∀r∈rs,Small r)->(rs.flatMap eF).length<=16*rs.length
 | [],_=>ae _
 |r::rs,h=>by
  rw[jg,ak,af]
  have:=Mw r (h r (By ..))
  have:=pS rs λq hq=>h q (No _ hq)
  omega
def RM (es:List (V × V)) (rs:List aD):Prop:=dZ (λe r=>e.1=V.str r.name/\Tw e.2 r) es rs
theorem Tw.ok {v:V}{r:aD}(h:Tw v r):fI v=true:=by
 obtain⟨a,b,c,d,rfl,h1,h2,h3,h4⟩:=h
 simp only[fI,ig,js,aN h1.is.bF,aN h2.is.bF,aN h3.is.bF,aN h4.is.bF,ki]
 rfl
theorem L8 (h:bK E)(h':tP E) {Y:Sg}{b:Nat}{es:List (V × V)}{rs:List aD}{r:aD}{v:V}(hb:Y[b]?=some (.map es))(ha:RM es rs)(hn:∀q∈rs,q.name≠r.name)(hv:Tw v r) :
  mapUpdate E Y 90 (.mp b) (.str r.name) v=some (Y.set b (.map (es++[(.str r.name,v)])))/\RM (es++[(.str r.name,v)]) (rs++[r]):=by
 refine⟨?_,ha.append (.one ⟨rfl,hv⟩)⟩
 have hk:eI E 9 (.str r.name)=true:=by unfold eI;rw[h.c_]
 have hp:=CP h (k:=r.name) (v:=v) (es:=es) λe he=>by
  obtain⟨q,hq,h1,-⟩:=ha.mem he
  exact⟨q.name,h1,hn q hq⟩
 unfold Ax.mapUpdate
 simp only[h'.T7,hk,hv.ok,hb,hp,dh,iu,ai,ay,bw]
theorem EL {eq:V->V->Option Bool}{k v:V}:∀{es es':List (V × V)},kI eq k v es=some es'->∀e∈es',e∈es\/e=(k,v)
 | [],es',h,e,he=>by
  cases h
  exact .inr (cj.1 he)
 |(k0,v0)::r,es',h,e,he=>by
  unfold kI at h
  cases hq:eq k k0 with
  |none=>rw[hq]at h;cases h
  |some b=>
   rw[hq]at h
   cases b with
   |true=>
    cases h
    rcases IN.1 he with h1 | h1
    ·exact .inr h1
    ·exact .inl (No _ h1)
   |false=>
    dsimp only at h
    cases hr:kI eq k v r with
    |none=>rw[hr]at h;cases h
    |some r'=>
     rw[hr]at h
     cases h
     rcases IN.1 he with h1 | h1
     ·exact .inl (by rw[h1];exact By ..)
     ·exact (EL hr e h1).imp (No _) id
def Ec (es:List (V × V)):Prop:=∀e∈es,∃n,e.2=V.str n
theorem QX (h:bK E) {Z:Sg}{b:Nat}{es:List (V × V)}{get:bH->Option V}(hb:Z[b]?=some (.map es))(hs:SM E es get)(hv:Ec es) (k n:bH):∃es',mapUpdate E Z 91 (.mp b) (.str k) (.str n)=some (Z.set b (.map es'))/\SM E es' (λq=>if q=k then some (.str n) else get q)/\Ec es':=by
 obtain⟨es',h1,h2⟩:=FI h (v:=.str n) k rfl hs
 have hk:eI E 9 (.str k)=true:=by unfold eI;rw[h.c_]
 refine⟨es',?_,h2,λe he=>?_⟩
 ·unfold Ax.mapUpdate
  simp only[h.GU,hk,hb,h1,fI,V.aZ,dh,iu,ai,ay,bw]
 ·rcases EL h1 e he with h3 | h3
  ·exact hv e h3
  ·exact⟨n,by rw[h3]⟩
theorem Gs (h:bK E)(h':tP E) {s:bH}:aB E 64 [.str s] Z K=K (.agg [.bool true,.str s]) Z:=by
 refine aB.of ?_
 rw[aI h'.hs64 h'.sp64 h'.fn64 h'.md64 (args':=[.str s]) (by simp only[aW,dM]),aY (by kernel_rfl)]
 simp only[aA,Tryz.f64,KP,Ax.loadAt,Ax.storeAt,↓reduceIte,reduceEqDiff,reduceLT,reduceAdd,reduceCtorEq,h.tR,h.c_,h.cF,Ax.fill,Ax.placeOf]
 exact rfl
theorem R9 (h:bK E)(h':tP E) {s:bH}:KC E 64 [.str s] Z (.agg [.bool true,.str s]) Z:=cU λ_=>Gs h h'
theorem Td (h:bK E)(h':tP E) {s:bH}:aB E 66 [.str s] Z K=K (.agg [.bool false,.str s]) Z:=by
 refine aB.of ?_
 rw[aI h'.hs66 h'.sp66 h'.fn66 h'.md66 (args':=[.str s]) (by simp only[aW,dM]),aY (by kernel_rfl)]
 simp only[aA,Tryz.f66,KP,Ax.loadAt,Ax.storeAt,↓reduceIte,reduceEqDiff,reduceLT,reduceAdd,reduceCtorEq,h.tR,h.c_,h.cF,Ax.fill,Ax.placeOf]
 exact rfl
theorem Lq (h:bK E)(h':tP E) {s:bH}:KC E 66 [.str s] Z (.agg [.bool false,.str s]) Z:=cU λ_=>Td h h'
end
end
section
section
variable {E:Env}{Z:Sg}{K:V->Sg->Prop}
theorem Yb (h:bK E)(h':tP E)(hl:Lb.cH E) {Y:Sg}{gb m0 m1 sa ma b3 b4:Nat}{es0 es1:List (V × V)}{A:List aG}{L3 L4:List dL} (ga:oA E Y gb m0 m1 sa ma b3 b4 es0 es1 A L3 L4) {r:aD}{p1 p2 p3 p4:V}{y:Nat}(hy:Y[y]?=some (O.cells 46 [.str r.name,p1,p2,p3,p4] true))(hA:A.length<=1000000) (F:FT) (g5:F.get 5=.ref gb 0) (g7:F.get 7=.ref y 0) {st:List gT}{Q:Ax.X->Fr->Sg->Prop}
  (hk:∀F' τ',(∀k,k∈[0,5,7,26,27,28]->F'.get k=F.get k)->oA E τ' gb m0 m1 sa ma b3 b4 es0 es1 (keys A [iB r]) L3 L4->Lb.dQ Y τ'->M E st .normal ⟨88,F'⟩ τ' Q):Ax.R E (.region 9 (opsOf (cutAt [1,1,1,0,1,2,2,1,1,0,2,1,1,0] (aA Tryz.f13).code)) true) st ⟨88,F⟩ Y Q:=by
 have ga1:=ga.app (O.cells 51 [.bool true,.str r.name] true)
 have hsv:Lb.SV (Y++[O.cells 51 [.bool true,.str r.name] true]) (.sl Y.length 0 1 none) [iB r]:=.inr (.inr ⟨Y.length,_,true,rfl,aL,rfl⟩)
 obtain⟨n1,v1,τ2,⟨hr,hset,hkp⟩,c1⟩:=aB.up (Lb.Qy hl ga1.all hsv (show 1<=10000000000 by omega) (by omega))
 obtain⟨n2,v2,ρ2,⟨e2,e2'⟩,c2⟩:=aB.up (show aB E 64 [.str r.name] Y λv σ'=>v=.agg [.bool true,.str r.name]/\σ'=Y by rw[Gs h h'];exact⟨rfl,rfl⟩)
 obtain⟨n3,v3,ρ3,⟨e3,e3'⟩,c3⟩:=aB.up (show aB E 64 [.str r.name] (Y++[O.cells 51 [.bool true,.str r.name] true]) λv σ'=>v=.agg [.bool true,.str r.name]/\σ'=Y++[O.cells 51 [.bool true,.str r.name] true] by rw[Gs h h'];exact⟨rfl,rfl⟩)
 rw[e2,e2']at c2
 rw[e3,e3']at c3
 have c1:=c1 (n1+n2+n3) (by omega)
 have c2:=c2 (n1+n2+n3) (by omega)
 have c3:=c3 (n1+n2+n3) (by omega)
 generalize n1+n2+n3=n at c1 c2 c3
 have ga2:=ga1.more hset hkp
 have hma:=ga1.all.map
 have ne:∀{k:Nat}{t:Nat}{cs:List V}{ex:Bool},(Y++[O.cells 51 [.bool true,.str r.name] true])[k]?=some (.cells t cs ex)->k≠ma:=λhk e=>by
  rw[e,hma]at hk
  cases hk
 have g:=ga.g
 have g1:=ga1.g
 have vr:pA 12 (.ref sa 0) (.ref sa 0)=true:=by unfold pA;simp
 have key:∃F',bW E (ev E n) (opsOf (cutAt [1,1,1,0,1,2,2,1,1,0,2,1,1,0] (aA Tryz.f13).code)) ⟨88,F⟩ Y=some (⟨88,F'⟩,τ2)/\(∀k,k∈[0,5,7,26,27,28]->F'.get k=F.get k):=by
  unfold bW
  rw[h'.Wq,h'.X9]
  simp only[aA,Tryz.f13,KP,Ax.loadAt,↓reduceIte,reduceEqDiff,reduceLT,reduceLeDiff,reduceAdd,reduceMul,reduceCtorEq,h.c_,h.dB,h.bM,h.cF,opsOf,cutAt,Fz.lits,fF,bJ,bV,jF,Ax.comp,Ax.last,eL,Ax.again,Ax.fill,fR,ir,hl.tW,h'.xO,g5,g7,hy,g,g1,c1,c2,vr]
  refine⟨_,rfl,λk hk=>?_⟩
  simp only[IN,ck,fh]at hk
  rcases hk with rfl | rfl | rfl | rfl | rfl | rfl <;> simp +decide only[GS]
 obtain⟨F',hD,hF⟩:=key
 exact Eq.mpr (fO hD) (hk F' τ2 hF ga2 ((dQ.BE Y _).trans (Lb.Kp.uJ hkp hma)))
end
end
section
section
variable {E:Env}{Z:Sg}{K:V->Sg->Prop}
theorem Jd {r:aD}{j:Nat}{s:bH}(hj:r.ins[j]?=some s):(r.ins.take (j+1)).map (λf=>(((true,r.name):aG),((false,f):aG)))=(r.ins.take j).map (λf=>(((true,r.name):aG),((false,f):aG)))++[(((true,r.name):aG),((false,s):aG))]:=by
 rw[dn,hj,eu];rfl
theorem GW {r:aD}{j:Nat}{s:bH}(hj:r.outs[j]?=some s):(r.outs.take (j+1)).map (λf=>(((false,f):aG),((true,r.name):aG)))=(r.outs.take j).map (λf=>(((false,f):aG),((true,r.name):aG)))++[(((false,s):aG),((true,r.name):aG))]:=by
 rw[dn,hj,eu];rfl
theorem OZ (h:bK E)(h':tP E)(hl:Lb.cH E) {Y:Sg}{gb m0 m1 sa ma b3 b4:Nat}{es0 es1:List (V × V)}{A:List aG}{L3 L4:List dL} (ga:oA E Y gb m0 m1 sa ma b3 b4 es0 es1 A L3 L4) {X:List aG}{P:List (aG × aG)} (li:vU X P A L3 L4)(hX:X.length<=1000)(hP:P.length<=100000) {a c27:V}{i:Nat}{r:aD}{g:Bool}{p1 p2 p3 p4:V} (e1:indexAddr E 22 a (.int .i64 (i:Int))=some (.cL g [.str r.name,p1,p2,p3,p4])) (i1:IS aQ p1 r.ins) (i2:IS aQ p2 r.outs) (i3:IS aQ p3 r.after) (i4:IS fQ p4 r.steps)(hs:Small r) {rs:List aD}(ha:RM es0 rs)(hn:∀q∈rs,q.name≠r.name) {get:bH->Option V}{Pm:bH->bH->Prop}(hsm:SM E es1 get)(hsv:Ec es1)(hmk:MK get Pm)
  (F:FT) (g0:F.get 0=a) (g5:F.get 5=.ref gb 0) (g26:F.get 26=a) (g27:F.get 27=c27) (g28:F.get 28=.int .i64 (i:Int)) {st:List gT}{Q:Ax.X->Fr->Sg->Prop}
  (hk:∀F' τ' es0' es1' get' A' L3' L4',F'.get 0=a->F'.get 5=.ref gb 0->F'.get 26=a->F'.get 27=c27->F'.get 28=.int .i64 (i:Int)->oA E τ' gb m0 m1 sa ma b3 b4 es0' es1' A' L3' L4'->vU (X++[iB r]) (P++eF r) A' L3' L4'->RM es0' (rs++[r])->SM E es1' get'->Ec es1'->MK get' (λk n=>Pm k n\/(k∈r.outs/\n=r.name))->M E st .normal ⟨88,F'⟩ τ' Q):Ax.R E (cutAt [1,1,1,0,1,2,2,1,1,0,2] (aA Tryz.f13).code) st ⟨88,F⟩ Y Q:=by
 have o1:=aN i1.bF
 have o2:=aN i2.bF
 have o3:=aN i3.bF
 have o4:=aN i4.bF
 have a1:=hs.ins
 have a2:=hs.outs
 have l1:=bU h i1
 have l2:=bU h i2
 have d8:=h'.abg
 simp only[aA,Tryz.f13,cutAt,an]at d8
 have d18:=h'.VH
 simp only[aA,Tryz.f13,cutAt,an]at d18
 have d19:=h'.VG
 simp only[aA,Tryz.f13,cutAt,an]at d19
 have r9:=λ{Y} {es0} {y} ga hy hA F g5 g7 st Q hk=>Yb (Y:=Y) (y:=y) (r:=r) (p1:=p1) (p2:=p2) (p3:=p3) (p4:=p4) (A:=A) (L3:=L3) (L4:=L4) (gb:=gb) (m0:=m0) (m1:=m1) (sa:=sa) (ma:=ma) (b3:=b3) (b4:=b4) (es0:=es0) (es1:=es1) h h' hl ga hy hA F g5 g7 (st:=st) (Q:=Q) hk
 rw[show cutAt [1,1,1,0,1,2,2,1,1,0,2] (aA Tryz.f13).code=.seq (cutAt [1,1,1,0,1,2,2,1,1,0,2,0] (aA Tryz.f13).code) (.seq (cutAt [1,1,1,0,1,2,2,1,1,0,2,1,0] (aA Tryz.f13).code) (.seq (.region 9 (opsOf (cutAt [1,1,1,0,1,2,2,1,1,0,2,1,1,0] (aA Tryz.f13).code)) true) (cutAt [1,1,1,0,1,2,2,1,1,0,2,1,1,1] (aA Tryz.f13).code))) from rfl]
 generalize opsOf (cutAt [1,1,1,0,1,2,2,1,1,0,2,1,1,0] (aA Tryz.f13).code)=O9 at r9 ⊢
 generalize hREST:cutAt [1,1,1,0,1,2,2,1,1,0,2,1,1,1] (aA Tryz.f13).code=REST
 have ga1:=ga.app (O.cells 46 [.str r.name,p1,p2,p3,p4] true)
 have hy1:(Y++[O.cells 46 [.str r.name,p1,p2,p3,p4] true])[Y.length]?=some (O.cells 46 [.str r.name,p1,p2,p3,p4] true):=aL
 have gg1:=ga1.g
 simp only[aA,Tryz.f13,KP,Ax.loadAt,Ax.storeAt,↓reduceIte,reduceEqDiff,reduceLT,reduceAdd,reduceCtorEq,h.c_,h.bM,cutAt,aK d8,bB,h'.xO,h'.T7,g5,g26,g28,e1,o1,o2,o3,o4,gg1,hy1,aL,cA]
 generalize Y++[O.cells 46 [.str r.name,p1,p2,p3,p4] true]=τ1 at *
 generalize Y.length=y at *
 refine aP (Qp h h' (v:=.agg [.str r.name,p1,p2,p3,p4]) ⟨p1,p2,p3,p4,rfl,i1,i2,i3,i4⟩ hs) ?_
 rintro v σ' ⟨rfl,hv⟩
 obtain⟨hu,hrm⟩:=L8 h h' ga1.rules ha hn hv
 have ga2:=ga1.rule (es0++[(.str r.name,v)])
 have hy2:(σ'.set m0 (.map (es0++[(.str r.name,v)])))[y]?=some (O.cells 46 [.str r.name,p1,p2,p3,p4] true):=Lb.dQ.FK ga1.rules _ _ _ _ hy1
 simp only[KP,↓reduceIte,reduceEqDiff,reduceLT,hu]
 generalize σ'.set m0 (.map (es0++[(.str r.name,v)]))=τ2 at *
 refine r9 ga2 hy2 (by have:=li.Pu;omega) _ ?_ ?_ _ _ (λF3 τ3 hF3 ga3 kc3=>?_)
 ·simp +decide only[GS,g5]
 ·simp +decide only[GS]
 have li3:=li.rule (iB r)
 have hy3:=kc3 _ _ _ _ hy2
 have q0:F3.get 0=a:=(hF3 0 (by simp)).trans (by simp +decide only[GS,g0])
 have q5:F3.get 5=.ref gb 0:=(hF3 5 (by simp)).trans (by simp +decide only[GS,g5])
 have IZ:F3.get 26=a:=(hF3 26 (by simp)).trans (by simp +decide only[GS,g26])
 have XP:F3.get 27=c27:=(hF3 27 (by simp)).trans (by simp +decide only[GS,g27])
 have XO:F3.get 28=.int .i64 (i:Int):=(hF3 28 (by simp)).trans (by simp +decide only[GS,g28])
 have q7:F3.get 7=.ref y 0:=(hF3 7 (by simp)).trans (by simp +decide only[GS])
 have hX3:(X++[iB r]).length<=1001:=by rw[ak];simp only[af,b8];omega
 subst hREST
 generalize X++[iB r]=X3 at *
 generalize keys A [iB r]=A3 at *
 have kr:=λ(Y:Sg)=>R9 (Z:=Y) h h' (s:=r.name)
 rw[EU]
 simp only[aA,Tryz.f13,KP,Ax.loadAt,↓reduceIte,reduceLT,reduceCtorEq,h.bC,h.bM,cutAt,q7,hy3,l1]
 refine aS (λj F Y=>F.get 0=a/\F.get 5=.ref gb 0/\F.get 26=a/\F.get 27=c27/\F.get 28=.int .i64 (i:Int)/\F.get 7=.ref y 0/\F.get 50=p1/\F.get 51=.int .i64 (r.ins.length:Int)/\F.get 52=.int .i64 (j:Int)/\Y[y]?=some (O.cells 46 [.str r.name,p1,p2,p3,p4] true)/\∃A L3 L4,oA E Y gb m0 m1 sa ma b3 b4 (es0++[(.str r.name,v)]) es1 A L3 L4/\vU X3 (P++(r.ins.take j).map (λf=>(((true,r.name):aG),((false,f):aG)))) A L3 L4) r.ins.length ?_ ?_ r.ins.length 0 _ _ (by omega) (zJ (by simp +decide only[GS,q0,q5,IZ,XP,XO,q7,ag]) ⟨hy3,A3,L3,L4,ga3,by rw[jy,map_nil,gz];exact li3⟩)
 ·rintro j F Y hj ⟨g0,g5,g26,g27,g28,g7,g50,g51,g52,hy,A,L3,L4,ga,li⟩ next
  obtain⟨s,hsj⟩:∃y,r.ins[j]?=some y:=⟨_,BY hj⟩
  obtain⟨g',e2⟩:=g_ h i1 hsj
  have hlt:=dG hj
  have hadd:=bQ j (by omega)
  have hPl:(P++(r.ins.take j).map (λf=>(((true,r.name):aG),((false,f):aG)))).length<=100010:=by rw[ak,bg,br];omega
  have kf:=λ(Y:Sg)=>Lq (Z:=Y) h h' (s:=s)
  rw[aC]
  simp only[KP,Ax.loadAt,↓reduceIte,reduceEqDiff,reduceLT,reduceCtorEq,h.c_,h.bM,g5,g7,g50,g51,g52,hlt,e2,hy,kr,kf]
  refine aP (Qm h h' hl ga (x:=(true,r.name)) (y:=(false,s)) (by have:=li.Pu;omega) (λe he=>by have:=li.Pw e he;omega) (λe he=>by have:=li.Pv e he;omega)) ?_
  rintro v2 τ' ⟨rfl,L3',L4',ga',gr3,gr4,kc⟩
  simp only[KP,↓reduceIte,reduceEqDiff,reduceLT,g52,hadd]
  refine next _ _ (zJ (by simp +decide only[GS,g0,g5,g26,g27,g28,g7,g50,g51,ag]) ⟨kc _ _ _ _ hy,_,L3',L4',ga',?_⟩)
  rw[Jd hsj,<- cn]
  exact li.link gr3 gr4
 rintro F Y ⟨g0,g5,g26,g27,g28,g7,g50,g51,g52,hy,A,L3,L4,ga,li⟩
 rw[ah (ae _)]at li
 have hPl:(P++r.ins.map (λf=>(((true,r.name):aG),((false,f):aG)))).length<=100010:=by rw[ak,bg];omega
 rw[aC]
 have hlt:=dH (b9 r.ins.length)
 simp only[KP,Ax.loadAt,↓reduceIte,reduceEqDiff,reduceLT,reduceCtorEq,h.bC,h.bM,g51,g52,hlt,g7,hy,l2]
 generalize hP2:P++r.ins.map (λf=>(((true,r.name):aG),((false,f):aG)))=P2 at *
 refine aS (λj F Y=>F.get 0=a/\F.get 5=.ref gb 0/\F.get 26=a/\F.get 27=c27/\F.get 28=.int .i64 (i:Int)/\F.get 7=.ref y 0/\F.get 65=p2/\F.get 66=.int .i64 (r.outs.length:Int)/\F.get 67=.int .i64 (j:Int)/\Y[y]?=some (O.cells 46 [.str r.name,p1,p2,p3,p4] true)/\∃es1 get A L3 L4,oA E Y gb m0 m1 sa ma b3 b4 (es0++[(.str r.name,v)]) es1 A L3 L4/\vU X3 (P2++(r.outs.take j).map (λf=>(((false,f):aG),((true,r.name):aG)))) A L3 L4/\SM E es1 get/\Ec es1/\MK get (λk n=>Pm k n\/(k∈r.outs.take j/\n=r.name))) r.outs.length ?_ ?_ r.outs.length 0 _ _ (by omega) (zJ (by simp +decide only[GS,g0,g5,g26,g27,g28,g7,ag]) ⟨hy,es1,get,A,L3,L4,ga,by rw[jy,map_nil,gz];exact li,hsm,hsv,hmk.congr λk n=>by simp⟩)
 ·rintro j F Y hj ⟨g0,g5,g26,g27,g28,g7,g65,g66,g67,hy,es1,get,A,L3,L4,ga,li,hsm,hsv,hmk⟩ next
  obtain⟨s,hsj⟩:∃y,r.outs[j]?=some y:=⟨_,BY hj⟩
  obtain⟨g',e2⟩:=g_ h i2 hsj
  have hlt:=dG hj
  have hadd:=bQ j (by omega)
  have hPl2:(P2++(r.outs.take j).map (λf=>(((false,f):aG),((true,r.name):aG)))).length<=100020:=by rw[ak,bg,br];omega
  have kf:=λ(Y:Sg)=>Lq (Z:=Y) h h' (s:=s)
  rw[aC]
  simp only[KP,Ax.loadAt,↓reduceIte,reduceEqDiff,reduceLT,reduceCtorEq,h.c_,h.bM,aK d18,bB,g5,g7,g65,g66,g67,hlt,e2,hy,kr,kf]
  refine aP (Qm h h' hl ga (x:=(false,s)) (y:=(true,r.name)) (by have:=li.Pu;omega) (λe he=>by have:=li.Pw e he;omega) (λe he=>by have:=li.Pv e he;omega)) ?_
  rintro v2 τ' ⟨rfl,L3',L4',ga',gr3,gr4,kc⟩
  have hy':=kc _ _ _ _ hy
  have hg':=ga'.g
  obtain⟨es1',hu,hsm',hsv'⟩:=QX h ga'.jM hsm hsv s r.name
  have ga2:=ga'.Pf es1'
  simp only[KP,Ax.loadAt,↓reduceIte,reduceEqDiff,reduceLT,reduceCtorEq,h.c_,h.bM,h.GU,aK d19,bB,h'.xO,g5,g7,g67,hadd,hy',hg',hu]
  refine next _ _ (zJ (by simp +decide only[GS,g0,g5,g26,g27,g28,g7,g65,g66,ag]) ⟨Lb.dQ.FK ga'.jM _ _ _ _ hy',es1',_,_,L3',L4',ga2,?_,hsm',hsv',(hmk.put s r.name).congr λk n=>?_⟩)
  ·rw[GW hsj,<- cn]
   exact li.link gr3 gr4
  ·rw[gE hsj k]
   constructor
   ·rintro ((h1 | h1) | h1)
    ·exact .inl h1
    ·exact .inr ⟨.inl h1.1,h1.2⟩
    ·exact .inr ⟨.inr h1.1,h1.2⟩
   ·rintro (h1 | ⟨h1 | h1,h2⟩)
    ·exact .inl (.inl h1)
    ·exact .inl (.inr ⟨h1,h2⟩)
    ·exact .inr ⟨h1,h2⟩
 rintro F Y ⟨g0,g5,g26,g27,g28,g7,g65,g66,g67,hy,es1,get,A,L3,L4,ga,li,hsm,hsv,hmk⟩
 rw[ah (ae _)]at li hmk
 rw[aC]
 have hlt:=dH (b9 r.outs.length)
 simp only[KP,↓reduceIte,reduceLT,g66,g67,hlt]
 refine hk _ _ _ _ _ _ _ _ (by simp +decide only[GS,g0]) (by simp +decide only[GS,g5]) (by simp +decide only[GS,g26]) (by simp +decide only[GS,g27]) (by simp +decide only[GS,g28]) ga ?_ hrm hsm hsv hmk
 unfold eF
 rw[<- cn,hP2]
 exact li
end
end
section
section
variable {E:Env}{Z:Sg}{K:V->Sg->Prop}
theorem E7 {rs:List aD}{i:Nat}{r:aD}(hr:rs[i]?=some r):(rs.take (i+1)).flatMap eF=(rs.take i).flatMap eF++eF r/\(rs.take (i+1)).map iB=(rs.take i).map iB++[iB r]:=by
 rw[dn,hr]
 simp
theorem nw_c (h:bK E)(h':tP E)(hl:Lb.cH E) {a:V}{rs:List aD} (ia:IS dO a rs)(hs:∀x∈rs,Small x)(hsh:Fq rs)(hlen:rs.length<=1000) (F:FT) (g0:F.get 0=a) {K:V->Sg->Prop}
  (hk:∀Y gb ma b3 b4 es0 es1 get A L3 L4,oA E Y gb 0 1 2 ma b3 b4 es0 es1 A L3 L4->vU (rs.map iB) (rs.flatMap eF) A L3 L4->RM es0 rs->SM E es1 get->Ec es1->MK get (Mk rs)->K (.ref gb 0) Y):Ax.R E (cutAt [1,1] (aA Tryz.f13).code) [] ⟨88,F⟩ [] (mS E (aA Tryz.f13).results K):=by
 have la:=cZ h ia
 have inner:=λ{Y gb ma b3 b4 es0 es1 A L3 L4} ga {X P} li hX hP {i r g p1 p2 p3 p4} e1 i1 i2 i3 i4 hs {rs2} ha hn {get Pm} hsm hsv hmk F g0 g5 g26 g27 g28 st Q hk=>OZ (Y:=Y) (gb:=gb) (m0:=0) (m1:=1) (sa:=2) (ma:=ma) (b3:=b3) (b4:=b4) (es0:=es0) (es1:=es1) (A:=A) (L3:=L3) (L4:=L4) (X:=X) (P:=P) (a:=a) (c27:=.int .i64 (rs.length:Int)) (i:=i) (r:=r) (g:=g) (p1:=p1) (p2:=p2) (p3:=p3) (p4:=p4) (rs:=rs2) (get:=get) (Pm:=Pm) h h' hl ga li hX hP e1 i1 i2 i3 i4 hs ha hn hsm hsv hmk F g0 g5 g26 g27 g28 (st:=st) (Q:=Q) hk
 rw[show cutAt [1,1] (aA Tryz.f13).code=.seq (cutAt [1,1,0] (aA Tryz.f13).code) (.seq (.seq (cutAt [1,1,1,0,0] (aA Tryz.f13).code) (.block 0 (.loop (.seq (cutAt [1,1,1,0,1,2,2,0] (aA Tryz.f13).code) (.seq (cutAt [1,1,1,0,1,2,2,1,0] (aA Tryz.f13).code) (.seq (.block 1 (cutAt [1,1,1,0,1,2,2,1,1,0,2] (aA Tryz.f13).code)) (cutAt [1,1,1,0,1,2,2,1,1,1] (aA Tryz.f13).code))))))) (cutAt [1,1,1,1] (aA Tryz.f13).code)) from rfl]
 generalize cutAt [1,1,1,0,1,2,2,1,1,0,2] (aA Tryz.f13).code=B at inner ⊢
 simp only[aA,Tryz.f13,KP,↓reduceIte,reduceLT,cutAt]
 refine aP (Lb.Qr hl (Z:=[.map [],.map []]) (v:=.aF) (l:=[]) (.inl ⟨rfl,rfl⟩) (by simp)) ?_
 rintro v τ1 ⟨m,rfl,hset,hlt,oM⟩
 have k0:=oM 0 _ rfl
 have k1:=oM 1 _ rfl
 have hs2:Lb.cV τ1 2 m []:=hset
 have hlt:2<m:=hlt
 have hml:=(AI.1 hs2.map).1
 simp only[KP,↓reduceIte,reduceEqDiff,reduceLT,reduceAdd,reduceCtorEq,h.GU,Ax.fill,Ax.placeOf,hl.tW,h'.xO,h'.T7,h'.wI,g0,la]
 have ga0:oA E (τ1++[.map []]++[.map []]++[.cells 94 [.mp 0,.mp 1,.ref 2 0,.mp τ1.length,.mp (τ1++[O.map []]).length] true]) (τ1++[O.map []]++[O.map []]).length 0 1 2 m τ1.length (τ1++[O.map []]).length [] [] [] [] []:=by
  refine⟨aL,aJ (aJ (aJ k0)),aJ (aJ (aJ k1)),cV.app (cV.app (cV.app hs2 _) _) _,⟨aJ (aJ aL),(λe he=>by cases he),nodup_nil⟩,⟨aJ aL,(λe he=>by cases he),nodup_nil⟩,?_⟩
  rw[ak]
  simp only[map_nil,gz,dm,IN,ck,fh,pq,af,b8,nu,nodup_nil,cr]
  omega
 generalize τ1++[.map []]++[.map []]++[.cells 94 [.mp 0,.mp 1,.ref 2 0,.mp τ1.length,.mp (τ1++[O.map []]).length] true]=τ2 at *
 generalize (τ1++[O.map []]++[O.map []]).length=gb at *
 generalize (τ1++[O.map []]).length=b4 at *
 generalize τ1.length=b3 at *
 refine aS (λi F Y=>F.get 0=a/\F.get 5=.ref gb 0/\F.get 26=a/\F.get 27=.int .i64 (rs.length:Int)/\F.get 28=.int .i64 (i:Int)/\∃es0 es1 get A L3 L4,oA E Y gb 0 1 2 m b3 b4 es0 es1 A L3 L4/\vU ((rs.take i).map iB) ((rs.take i).flatMap eF) A L3 L4/\RM es0 (rs.take i)/\SM E es1 get/\Ec es1/\MK get (Mk (rs.take i))) rs.length ?_ ?_ rs.length 0 _ _ (by omega) (iY (by simp +decide only[GS,g0,ag]) ⟨[],[],λ_=>none,[],[],[],ga0,vU.nil,.nil,Jo,(λe he=>by cases he),MK.nil.congr λk n=>⟨λh=>h.elim,λ⟨q,hq,_⟩=>by cases hq⟩⟩)
 ·rintro i F Y hi ⟨g0,g5,g26,g27,g28,es0,es1,get,A,L3,L4,ga,li,ha,hsm,hsv,hmk⟩ next
  obtain⟨r,hr⟩:∃y,rs[i]?=some y:=⟨_,BY hi⟩
  obtain⟨g,p1,p2,p3,p4,e1,i1,i2,i3,i4⟩:=eH h ia hr
  have hrm:=aa hr
  have hlt:=dG hi
  have hadd:=bQ i (by omega)
  have hnn:∀q∈rs.take i,q.name≠r.name:=λq hq e=>by
   obtain⟨j,hj⟩:=gp.1 hq
   have hji:j<i:=by have:=(AI.1 hj).1;rw[br]at this;omega
   rw[fu hji]at hj
   have:=hsh.nodup j i q r hj hr e
   omega
  have hXl:((rs.take i).map iB).length<=1000:=by rw[bg,br];omega
  have hPl:((rs.take i).flatMap eF).length<=100000:=by
   have:=pS (rs.take i) λq hq=>hs q (jh hq)
   rw[br]at this
   omega
  rw[aC]
  simp only[KP,↓reduceIte,reduceLT,g27,g28,hlt]
  refine inner ga li hXl hPl e1 i1 i2 i3 i4 (hs r hrm) ha hnn hsm hsv hmk _ ?_ ?_ ?_ ?_ ?_ _ _ (λF2 τ2 es0' es1' get' A' L3' L4' q0 q5 IZ XP XO ga' li' ha' hsm' hsv' hmk'=>?_)
  ·simp +decide only[GS,g0]
  ·simp +decide only[GS,g5]
  ·simp +decide only[GS,g26]
  ·simp +decide only[GS,g27]
  ·simp +decide only[GS,g28]
  simp only[KP,↓reduceIte,reduceLT,XO,hadd]
  refine next _ _ (iY (by simp +decide only[GS,q0,q5,IZ,XP,ag]) ⟨es0',es1',get',A',L3',L4',ga',?_,?_,hsm',hsv',hmk'.congr λk n=>(LU hr k n).symm⟩)
  ·rw[(E7 hr).1,(E7 hr).2];exact li'
  ·rw[dn,hr];exact ha'
 ·rintro F Y ⟨g0,g5,g26,g27,g28,es0,es1,get,A,L3,L4,ga,li,ha,hsm,hsv,hmk⟩
  rw[ah (ae _)]at li ha hmk
  have hlt:=dH (b9 rs.length)
  rw[aC]
  simp only[KP,↓reduceIte,reduceEqDiff,reduceLT,g5,g27,g28,hlt]
  exact hk _ _ _ _ _ _ _ _ _ _ _ ga li ha hsm hsv hmk
end
end
section
section
variable {E:Env}{Z:Sg}{K:V->Sg->Prop}
def vR (ks:List aG):V:=.cL false [.imp false (Lb.mR ks)]
def AB (e:dL):V × V:=(kA e.key,vR e.ks)
def gV (es0 es1:List (V × V)) (A:List aG) (L3 L4:List dL):V:=.cL false [.imp false es0,.imp false es1,vR A,.imp false (L3.map AB),.imp false (L4.map AB)]
structure NB (E:Env) (rs:List aD) (es0 es1:List (V × V)) (get:bH->Option V) (A:List aG) (L3 L4:List dL):Prop where
 rules:RM es0 rs
 sm:SM E es1 get
 sv:Ec es1
 Pf:MK get (Mk rs)
 li:vU (rs.map iB) (rs.flatMap eF) A L3 L4
 nA:A.Nodup
 n3:(L3.map dL.key).Nodup
 n4:(L4.map dL.key).Nodup
 k3:∀e∈L3,e.ks.Nodup
 k4:∀e∈L4,e.ks.Nodup
def LW (E:Env) (rs:List aD) (v:V):Prop:=∃es0 es1 get A L3 L4,v=gV es0 es1 A L3 L4/\NB E rs es0 es1 get A L3 L4
theorem CV {α β γ:Type}{f:β->Option γ}{g:α->β}{k:α->γ}:∀{l:List α},(∀x∈l,f (g x)=some (k x))->aW f (l.map g)=some (l.map k)
 | [],_=>rfl
 |x::l,h=>by rw[bl,aW,h x (By ..),CV λy hy=>h y (No _ hy)];rfl
theorem Ct {Z:Sg}{b m n:Nat}{ks:List aG}(hs:Lb.cV Z b m ks):bG Z E.ty false (n+3) (.ref b 0)=some (vR ks):=by
 have e1:bG Z E.ty false (n+2) (.mp m)=some (.imp false (Lb.mR ks)):=by
  rw[bG]
  simp only[hs.map]
  rw[Lb.HG (Lb.mR ks)]
  intro e he
  obtain⟨k,_,rfl⟩:=cm.1 he
  rfl
 rw[bG]
 simp only[hs.obj,fg]
 show (match aW (λv=>match bG Z E.ty false (n+2) v with
  |some v=>if bT false v then some v else no "snap: borrowed"
  |none=>none) [V.mp m] with
  |some l=>some (V.cL false l)
  |none=>none)=_
 simp only[aW,e1]
 rfl
theorem Cs {Z:Sg}{b n:Nat}{L:List dL}(hm:jC Z b L):bG Z E.ty false (n+4) (.mp b)=some (.imp false (L.map AB)):=by
 rw[bG]
 simp only[hm.map]
 rw[CV (k:=AB) λe he=>?_]
 have h1:=Ct (E:=E) (n:=n) (hm.sets e he)
 have hp:(kA e.key).cells.all Ax.plainCell=true:=rfl
 show (if (kA e.key).cells.all Ax.plainCell=true then (match (match bG Z E.ty false (n+3) (.ref e.s 0) with
   |some v=>if bT false v then some v else no "snap: borrowed"
   |none=>none) with
   |some v=>some (kA e.key,v)
   |none=>none) else none)=_
 rw[bf hp,h1]
 rfl
theorem G7 {Z:Sg}{b n:Nat}{es:List (V × V)}{rs:List aD}(hb:Z[b]?=some (.map es))(ha:RM es rs):bG Z E.ty false (n+2) (.mp b)=some (.imp false es):=by
 rw[bG]
 simp only[hb]
 rw[gH λe he=>?_]
 obtain⟨r,-,e1,a,b,c,d,e2,i1,i2,i3,i4⟩:=ha.mem he
 obtain⟨k,v⟩:=e
 dsimp only at e1 e2
 subst e1 e2
 have hp:(V.str r.name).cells.all Ax.plainCell=true:=rfl
 have q:∀c:V,Ax.bF c=true->bG Z E.ty false (n+1) c=some c:=λc h1=>gF h1
 have t0:bT false (V.str r.name)=true:=rfl
 simp only[hp,bh,aW,q (.str r.name) rfl,q a i1.is.bF,q b i2.is.bF,q c i3.is.bF,q d i4.is.bF,t0,i1.tag,i2.tag,i3.tag,i4.tag]
theorem Jn {Z:Sg}{b n:Nat}{es:List (V × V)}{get:bH->Option V}(hb:Z[b]?=some (.map es))(hs:SM E es get)(hv:Ec es):bG Z E.ty false (n+2) (.mp b)=some (.imp false es):=by
 rw[bG]
 simp only[hb]
 rw[gH λe he=>?_]
 obtain⟨k,e1⟩:=(hs.1 e he).1
 obtain⟨m,e2⟩:=hv e he
 obtain⟨a,v⟩:=e
 dsimp only at e1 e2
 subst e1 e2
 rfl
theorem Jm {Z:Sg}{gb m0 m1 sa ma b3 b4:Nat}{es0 es1:List (V × V)}{get:bH->Option V}{A:List aG}{L3 L4:List dL}{rs:List aD} (ga:oA E Z gb m0 m1 sa ma b3 b4 es0 es1 A L3 L4)(ha:RM es0 rs)(hs:SM E es1 get)(hv:Ec es1):cG Z E.ty false (.ref gb 0)=some (gV es0 es1 A L3 L4):=by
 have s0:=G7 (E:=E) (n:=9) ga.rules ha
 have s1:=Jn (E:=E) (n:=9) ga.jM hs hv
 have s2:=Ct (E:=E) (n:=8) ga.all
 have s3:=Cs (E:=E) (n:=7) ga.jZ
 have s4:=Cs (E:=E) (n:=7) ga.jU
 have e:bG Z E.ty false 12 (.ref gb 0)=some (gV es0 es1 A L3 L4):=by
  rw[bG]
  simp only[ga.g,fg]
  show (match aW (λv=>match bG Z E.ty false 11 v with
   |some v=>if bT false v then some v else no "snap: borrowed"
   |none=>none) [V.mp m0,V.mp m1,V.ref sa 0,V.mp b3,V.mp b4] with
   |some l=>some (V.cL false l)
   |none=>none)=_
  simp only[aW,s0,s1,s2,s3,s4]
  rfl
 show (match bG Z E.ty false 12 (.ref gb 0) with
  |some v=>if bT false v then some v else no "snap: borrowed"
  |none=>none)=_
 rw[e]
 rfl
theorem J8 (h:bK E)(h':tP E)(hl:Lb.cH E) {a:V}{rs:List aD}(ha:LS dO 46 Z a rs)(hs:∀x∈rs,Small x)(hlen:rs.length<=4294967296):aB E 13 [a] Z λv σ'=>σ'=Z/\((¬ nO rs/\v=.gG)\/(nO rs/\LW E rs v)):=by
 obtain⟨a',ea,ia⟩:=eJ h ha
 rw[aI h'.hs13 h'.Oe h'.fn13 h'.md13 (args':=[a']) (by simp only[aW,ea]),aY (by kernel_rfl)]
 have key:=λhsh hlen F g0 hk=>nw_c (a:=a') (rs:=rs) h h' hl ia hs hsh hlen F g0 (K:=λv σ1=>match cG σ1 E.ty false v with
   |some v=>((¬ nO rs/\v=.gG)\/(nO rs/\LW E rs v))
   |none=>False) hk
 rw[show (aA Tryz.f13).code=.seq (cutAt [0] (aA Tryz.f13).code) (.seq (cutAt [1,0] (aA Tryz.f13).code) (cutAt [1,1] (aA Tryz.f13).code)) from rfl]
 generalize cutAt [1,1] (aA Tryz.f13).code=C at key ⊢
 simp only[aA,Tryz.f13,KP,↓reduceIte,reduceLT,reduceCtorEq,cutAt]
 refine aP (V6 h (ia.ls _ 46) hs hlen) ?_
 rintro v σ' ⟨rfl,e,nm,rfl,hE⟩
 by_cases he:e=0
 ·have q:=AT he
  have hr:=hE.zero.1 he
  have hg:=vH hr.1
  have h40:=hg.len
  simp only[KP,↓reduceIte,reduceEqDiff,reduceLT,q]
  refine key hg.short (e8 h40 (by decide)) _ ?_ ?_
  ·simp +decide only[GS]
  intro Y gb ma b3 b4 es0 es1 get A L3 L4 ga li ha hsm hsv hmk
  rw[Jm ga ha hsm hsv]
  exact .inr ⟨hr,es0,es1,get,A,L3,L4,rfl,ha,hsm,hsv,hmk,li,ga.all.nodup,ga.jZ.nodup,ga.jU.nodup,λe he=>(ga.jZ.sets e he).nodup,λe he=>(ga.jU.sets e he).nodup⟩
 ·have q:=AS he
  simp only[KP,↓reduceIte,reduceEqDiff,reduceLT,q]
  exact .inl ⟨mt hE.zero.2 he,rfl⟩
end
end
section
structure Kh (E:Env):Prop where
 hs58:E.hspec 58=none
 sp58:E.spec 58=none
 fn58:E.fn 58=some (aA Tryz.f58)
 md58:E.mode 58=.fK
 hs71:E.hspec 71=none
 sp71:E.spec 71=none
 fn71:E.fn 71=some (aA Tryz.f71)
 md71:E.mode 71=.fK
 hs57:E.hspec 57=none
 sp57:E.spec 57=none
 fn57:E.fn 57=some (aA Tryz.f57)
 md57:E.mode 57=.fK
 TI:E.hspec 110=none
 Tz:E.spec 110=none
 TL:E.fn 110=some (aA Tryz.f110)
 TE:E.mode 110=.fK
 aa6:aO E (cutAt [1,1,0] (aA Tryz.f58).code)=true
 aaX:aO E (cutAt [1,1,0] (aA Tryz.f71).code)=true
 aa8:aO E (cutAt [1,0,2,0] (aA Tryz.f57).code)=true
 aa7:aO E (cutAt [1,0,2,1,1,1,1,0] (aA Tryz.f57).code)=true
section
variable {E:Env}{Z:Sg}{K:V->Sg->Prop}
def xJ (v:V) (l:List aG):Prop:=(v=.aF/\l=[])\/∃full,v=.bS false (l.map row) full
theorem xJ.lv {v:V}{l:List aG}(h:xJ v l):Lb.LV v l:=h.imp id λ⟨f,e⟩=>⟨false,f,e⟩
def DM (ks:List aG):Prop:=ks.length<=1000000/\∀k∈ks,k.2.length<=9223372036854775807
theorem Ey:∀l:List aG,Ax.rows 2 l.length (l.flatMap row)=l.map row
 | []=>rfl
 |x::l=>by
  rw[af,jg,Ax.rows,bl]
  have h1:(row x++l.flatMap row).take 2=row x:=rfl
  have h2:(row x++l.flatMap row).drop 2=l.flatMap row:=rfl
  rw[h1,h2,Ey l]
theorem Me (hl:Lb.cH E) {Z:Sg}{j:Nat}{l:List aG}{ex:Bool}(hj:Z[j]?=some (.cells 51 (l.flatMap row) ex)):∃v',cG Z E.ty false (.sl j 0 l.length none)=some v'/\xJ v' l:=by
 have hlen:(l.flatMap row).length=l.length*2:=Lb.kC l
 obtain⟨full,e⟩:=Cr (g:=false) (n:=l.length) hj hl.cF (show l.length*2<=_ by omega) (λc hc=>by
  rw[show (l.flatMap row).take (l.length*2)=l.flatMap row from ah (by omega)]at hc
  obtain⟨x,-,hx⟩:=j6.1 hc
  unfold row at hx
  simp only[IN,ck,fh]at hx
  rcases hx with rfl | rfl <;> exact⟨rfl,rfl⟩)
 refine⟨_,e,.inr ⟨full,?_⟩⟩
 show V.bS false (Ax.rows 2 l.length ((l.flatMap row).take (l.length*2))) full=_
 rw[ah (by omega),Ey]
theorem DX (hl:Lb.cH E) {Z σ':Sg}{r:V}{l:List aG}(h:Lb.Own Z σ' r l):∃v',cG σ' E.ty false r=some v'/\xJ v' l:=by
 rcases h with⟨rfl,rfl⟩ | ⟨j,-,rfl,hj⟩
 ·exact⟨.aF,rfl,.inl ⟨rfl,rfl⟩⟩
 ·exact Me hl hj
theorem Jj {ks:List aG}(hn:ks.Nodup)(hs:DM ks) {j:Nat}{g:Bool}(hj:Z[j]?=some (.cells 76 [.imp g (Lb.mR ks)] true)) :
  lJ 51 [148] [] 109 [.fn 148 [] [.ref j 0],.fn 109 [] []] Z=some (if ks=[] then (.aF,Z) else (.sl Z.length 0 ks.length none,Z++[.cells 51 ((setOf ks).flatMap row) false])):=by
 have hk:keysOf Z [148] [] (.fn 148 [] [.ref j 0])=some (ks.map row):=by
  unfold keysOf
  simp only[hj]
  exact au some (Lb.EA ks)
 show qF 51 [148] [] lI rF (.fn 148 [] [.ref j 0]) Z=_
 unfold qF
 rw[hk]
 cases hks:ks with
 |nil=>rfl
 |cons k r=>
  have ha:=Lb.xG ks hs.2
  have hk2:=En hn
  have hlen:=hs.1
  rw[hks]at ha hk2 hlen
  rw[bl]at ha hk2 ⊢
  rw[az (by simp)]
  show (match allRows lI (row k::r.map row),Nat.ble (row k::r.map row).length 1000000 with
   |true,true=>some (V.sl Z.length 0 (row k::r.map row).length none,Z++[O.cells 51 (kY rF (row k::r.map row)).flatten false])
   |_,_=>none)=_
  rw[ha,mc (by simpa using hlen),hk2,Lb.Dl]
  simp
theorem Tj (hl:Lb.cH E)(h:bK E) {g:Bool}{es:List (V × V)}:aB E 108 [.imp g es] Z K=K (.fn 148 [] [.ref Z.length 0]) (Z++[.cells 76 [.imp g es] true]):=by
 refine aB.of ?_
 rw[dR hl.TJ hl.TA hl.TM hl.TF,aY (by kernel_rfl)]
 simp only[aA,Tryz.f108,KP,↓reduceIte,reduceEqDiff,reduceLT,hl.vQ]
theorem V7 (hl:Lb.cH E)(h:bK E) {g g':Bool}{ks:List aG}(hn:ks.Nodup)(hsm:DM ks):aB E 54 [.cL g [.imp g' (Lb.mR ks)]] Z λr σ'=>Lb.Own Z σ' r (setOf ks):=by
 rw[dR hl.Zb hl.Wz hl.Z2 hl.Yi,aY (by kernel_rfl)]
 have kk:=cU λK=>Tj (Z:=Z) (K:=K) hl h (g:=g') (es:=Lb.mR ks)
 simp only[aA,Tryz.f54,KP,Ax.loadAt,↓reduceIte,reduceLT,reduceCtorEq,hl.vQ,hl.vP,hl.Ko,m_,kk]
 have hj:(Z++[O.cells 76 [.imp g' (Lb.mR ks)] true])[Z.length]?=some (.cells 76 [.imp g' (Lb.mR ks)] true):=aL
 have hsk:=Jj hn hsm hj
 unfold Bn
 rw[oK hl.TK,hsk]
 by_cases hks:ks=[]
 ·rw[bf hks]
  simp only[dK]
  simp only[KP,↓reduceIte,reduceLT]
  subst hks
  exact .inl ⟨rfl,rfl⟩
 ·rw[az hks]
  simp only[dK]
  simp only[KP,↓reduceIte,reduceLT]
  refine .inr ⟨_,?_,by rw[xY hn],?_⟩
  ·rw[ak];omega
  ·exact aL
theorem V3 (hl:Lb.cH E)(h:bK E) {g g':Bool}{ks:List aG} (x:aG):aB E 52 [.cL g [.imp g' (Lb.mR ks)],.agg [.bool x.1,.str x.2]] Z K=K (.bool (decide (x∈ks))) Z:=by
 refine aB.of ?_
 have hi:Ax.bF (.cL g [.imp g' (Lb.mR ks)])=true:=rfl
 have e1:=cN (Z:=Z) (ty:=E.ty) hi (bZ hi)
 have e2:aT Z E.ty true (.agg [.bool x.1,.str x.2])=some (.agg [.bool x.1,.str x.2]):=rfl
 have d1:=hl.aa9
 simp only[aA,Tryz.f52,cutAt,an]at d1
 rw[aI hl.hs52 hl.sp52 hl.fn52 hl.md52 (args':=[.cL g [.imp g' (Lb.mR ks)],.agg [.bool x.1,.str x.2]]) (by simp only[aW,e1,e2]),aY (by kernel_rfl)]
 have hk:=Lb.lT hl x.1 x.2
 have hf:=Lb.CQ hl x ks
 by_cases hx:x∈ks
 ·simp only[aA,Tryz.f52,KP,Ax.loadAt,↓reduceIte,reduceEqDiff,reduceLT,reduceAdd,reduceCtorEq,h.tR,h.cF,hl.vQ,hl.vP,hl.Ko,m_,aK d1,bB,Ax.lookup,hk,Ax.entriesOf,hf,hx]
  exact rfl
 ·simp only[aA,Tryz.f52,KP,Ax.loadAt,↓reduceIte,reduceEqDiff,reduceLT,reduceAdd,reduceCtorEq,h.tR,h.cF,hl.vQ,hl.vP,hl.Ko,m_,aK d1,bB,Ax.lookup,hk,Ax.entriesOf,hf,hx]
  exact rfl
end
end
section
section
variable {E:Env}{Z:Sg}{K:V->Sg->Prop}
def a_ (rs:List aD):List aG:=setOf (rs.map iB++(rs.flatMap eF).flatMap λp=>[p.1,p.2])
def eR (rs:List aD) (x:aG):List aG:=setOf (((rs.flatMap eF).filter λp=>decide (p.1=x)).map Prod.snd)
def jO (rs:List aD) (x:aG):List aG:=setOf (((rs.flatMap eF).filter λp=>decide (p.2=x)).map Prod.fst)
theorem mY {rs:List aD}{x w:aG}:w∈eR rs x ↔ (x,w)∈rs.flatMap eF:=by
 unfold eR
 rw[iW,cm]
 constructor
 ·rintro⟨⟨a,b⟩,h1,rfl⟩
  obtain⟨h1,h2⟩:=oo.1 h1
  rw[<- dx h2]
  exact h1
 ·exact λh1=>⟨(x,w),oo.2 ⟨h1,AT rfl⟩,rfl⟩
theorem Ao {rs:List aD}{x w:aG}:w∈jO rs x ↔ (w,x)∈rs.flatMap eF:=by
 unfold jO
 rw[iW,cm]
 constructor
 ·rintro⟨⟨a,b⟩,h1,rfl⟩
  obtain⟨h1,h2⟩:=oo.1 h1
  rw[<- dx h2]
  exact h1
 ·exact λh1=>⟨(w,x),oo.2 ⟨h1,AT rfl⟩,rfl⟩
theorem yT {rs:List aD}{x:aG}:x∈a_ rs ↔ x∈rs.map iB\/∃p∈rs.flatMap eF,x=p.1\/x=p.2:=by
 unfold a_
 rw[iW,bt,j6]
 refine or_congr mh (exists_congr λp=>po mh ?_)
 simp
theorem B4 (rs:List aD):Up (a_ rs):=nR _
theorem CO (rs:List aD) (x:aG):Up (eR rs x):=nR _
theorem GO (rs:List aD) (x:aG):Up (jO rs x):=nR _
structure Fits (rs:List aD):Prop where
 ok:nO rs
 small:∀x∈rs,Small x
theorem A7 {s:bH}(h:bN s=true):s.length<=40:=by
 unfold bN at h
 simp only[aj,OF]at h
 exact h.1.2
theorem JG {s:bH}(h:bN s=true):s≠[]:=by
 rintro rfl
 revert h
 decide
theorem Fits.form {rs:List aD}(h:Fits rs):∀r∈rs,kT r=true:=λr hr=>by
 have h0:=h.ok.1
 unfold gZ at h0
 cases hf:rs.find? (λr=>decide (bE r≠0)) with
 |some q=>
  rw[hf]at h0
  have:=find?_some hf
  exact absurd h0 (dx this)
 |none=>
  have:=mg.1 hf r hr
  have h1:bE r=0:=by
   refine nt λhne=>this (AT hne)
  unfold bE at h1
  by_cases hq:kT r=false
  ·rw[bf hq]at h1;cases h1
  ·simpa using hq
theorem Fits.names {rs:List aD}(h:Fits rs):∀r∈rs,bN r.name=true/\(∀f∈r.ins,bN f=true)/\∀f∈r.outs,bN f=true:=λr hr=>by
 have:=h.form r hr
 rw[E3]at this
 simp only[aj,er]at this
 exact⟨this.1.1.1.1.1,this.1.1.1.2,this.1.1.2⟩
theorem Fits.pair {rs:List aD}(h:Fits rs) {p:aG × aG}(hp:p∈rs.flatMap eF):bN p.1.2=true/\bN p.2.2=true:=by
 obtain⟨r,hr,hp⟩:=j6.1 hp
 obtain⟨h1,h2,h3⟩:=h.names r hr
 unfold eF at hp
 rcases bt.1 hp with hp | hp
 ·obtain⟨f,hf,rfl⟩:=cm.1 hp
  exact⟨h1,h2 f hf⟩
 ·obtain⟨f,hf,rfl⟩:=cm.1 hp
  exact⟨h3 f hf,h1⟩
theorem Fits.len {rs:List aD}(h:Fits rs):rs.length<=40:=(vH h.ok.1).len
theorem Fits.UQ {rs:List aD}(h:Fits rs):(rs.flatMap eF).length<=640:=by
 have:=pS rs h.small
 have:=h.len
 omega
section
variable {rs:List aD}{es0 es1:List (V × V)}{get:bH->Option V}{A:List aG}{L3 L4:List dL}
theorem NB.all (hi:NB E rs es0 es1 get A L3 L4):setOf A=a_ rs:=G_ λx=>by
 rw[hi.li.all,bt,j6]
 refine or_congr mh (exists_congr λp=>po mh ?_)
 simp
theorem Gb {L:List dL}{e:dL}{x:aG}(he:bP L x=some e):rG L x=e.ks:=by unfold rG;rw[he]
theorem Lj {L:List dL}{x:aG}(he:bP L x=none):rG L x=[]:=by unfold rG;rw[he]
theorem NB.need (hi:NB E rs es0 es1 get A L3 L4) (x:aG):setOf (rG L3 x)=eR rs x:=Cc (nR _) (CO rs x) λw=>by rw[iW,hi.li.need,mY]
theorem NB.user (hi:NB E rs es0 es1 get A L3 L4) (x:aG):setOf (rG L4 x)=jO rs x:=Cc (nR _) (GO rs x) λw=>by rw[iW,hi.li.user,Ao]
theorem NB.UH (hi:NB E rs es0 es1 get A L3 L4)(hf:Fits rs) {e:dL}{x:aG}(he:bP L3 x=some e):DM e.ks:=by
 refine⟨?_,λk hk=>?_⟩
 ·have h1:=hi.li.Pw e (gL he).1
  have h2:=hf.UQ
  omega
 ·rw[<- Gb he,hi.li.need]at hk
  have h2:k.2.length<=40:=A7 (hf.pair hk).2
  omega
theorem NB.UG (hi:NB E rs es0 es1 get A L3 L4)(hf:Fits rs) {e:dL}{x:aG}(he:bP L4 x=some e):DM e.ks:=by
 refine⟨?_,λk hk=>?_⟩
 ·have h1:=hi.li.Pv e (gL he).1
  have h2:=hf.UQ
  omega
 ·rw[<- Gb he,hi.li.user]at hk
  have h2:k.2.length<=40:=A7 (hf.pair hk).1
  omega
end
theorem CS (hl:Lb.cH E) (x:aG):∀L:List dL,iV (eC E 51) (kA x) (L.map AB)=some ((L.find? λe=>decide (x=e.key)).map λe=>vR e.ks)
 | []=>rfl
 |e::L=>by
  show (match eC E 51 (.agg [.bool x.1,.str x.2]) (.agg [.bool e.key.1,.str e.key.2]) with
   |some true=>some (some (vR e.ks))
   |some false=>iV (eC E 51) (kA x) (L.map AB)
   |none=>none)=_
  rw[Lb.nB hl,mz]
  by_cases h:x=e.key
  ·rw[AT (show ((x.1,x.2):aG)=(e.key.1,e.key.2) from h)];rfl
  ·rw[AS (show ¬ ((x.1,x.2):aG)=(e.key.1,e.key.2) from h)]
   exact CS hl x L
theorem EV (h':tP E)(hl:Lb.cH E) {Z:Sg}{g:Bool}{L:List dL} (x:aG):lookup E Z 92 (.imp g (L.map AB)) (.agg [.bool x.1,.str x.2]) false=some (match bP L x with | some e=>vR e.ks | none=>.gG):=by
 have hk:=Lb.lT hl x.1 x.2
 unfold Ax.lookup
 simp only[h'.wI,hl.tW,hk,entriesOf,dh,ai,ay]
 have:=CS hl x L
 unfold kA at this
 rw[this]
 unfold bP
 cases L.find? λe=>decide (x=e.key) <;> rfl
theorem abn (h:bK E)(h':tP E)(hl:Lb.cH E) (q:Kh E) {ks:List aG}(hn:ks.Nodup)(hs:DM ks):aB E 110 [vR ks] Z λv σ'=>σ'=Z/\xJ v (setOf ks):=by
 have hi:Ax.bF (vR ks)=true:=rfl
 have e1:=cN (Z:=Z) (ty:=E.ty) hi (bZ hi)
 rw[aI q.TI q.Tz q.TL q.TE (args':=[vR ks]) (by simp only[aW,e1]),aY (by kernel_rfl)]
 simp only[aA,Tryz.f110,KP,↓reduceIte,reduceLT,reduceCtorEq,hl.tW,hl.vP,hl.Bp,m_,vR]
 refine aP (V7 hl h hn hs) ?_
 intro r σ' ho
 obtain⟨v',hv,hlv⟩:=DX hl ho
 simp only[KP,↓reduceIte,reduceLT,hv]
 exact hlv
theorem TR (h:bK E)(h':tP E)(hl:Lb.cH E) (q:Kh E):aB E 110 [.gG] Z λv σ'=>σ'=Z/\xJ v []:=by
 have e1:aT Z E.ty true .gG=some .gG:=rfl
 rw[aI q.TI q.Tz q.TL q.TE (args':=[.gG]) (by simp only[aW,e1]),aY (by kernel_rfl)]
 simp only[aA,Tryz.f110,KP,↓reduceIte,reduceLT,reduceCtorEq,hl.tW,m_]
 exact .inl ⟨rfl,rfl⟩
theorem IA (h:bK E)(h':tP E)(hl:Lb.cH E) (q:Kh E) {g:V}{rs:List aD}(hg:LW E rs g)(hf:Fits rs) (x:aG):aB E 58 [g,.agg [.bool x.1,.str x.2]] Z λv σ'=>σ'=Z/\xJ v (eR rs x):=by
 obtain⟨es0,es1,get,A,L3,L4,rfl,hi⟩:=hg
 have him:Ax.bF (gV es0 es1 A L3 L4)=true:=rfl
 have e1:=cN (Z:=Z) (ty:=E.ty) him (bZ him)
 have e2:aT Z E.ty true (.agg [.bool x.1,.str x.2])=some (.agg [.bool x.1,.str x.2]):=rfl
 have d3:=q.aa6
 simp only[aA,Tryz.f58,cutAt,an]at d3
 rw[aI q.hs58 q.sp58 q.fn58 q.md58 (args':=[gV es0 es1 A L3 L4,.agg [.bool x.1,.str x.2]]) (by simp only[aW,e1,e2]),aY (by kernel_rfl)]
 have en:m_ E 27 true (.cL false [.imp false es0,.imp false es1,vR A,.imp false (L3.map AB),.imp false (L4.map AB)]) .gG=some false:=by unfold m_;rw[h'.T8]
 have lk:=λZ g=>EV (Z:=Z) (g:=g) (L:=L3) h' hl x
 rw[<- hi.need]
 cases hk:bP L3 x with
 |none=>
  rw[hk]at lk
  rw[Lj hk]
  simp only[aA,Tryz.f58,KP,Ax.loadAt,↓reduceIte,reduceEqDiff,reduceLT,reduceAdd,reduceCtorEq,h.cF,h'.xO,h'.wI,gV,en,lk,aK d3,bB]
  refine aP (TR h h' hl q) ?_
  rintro r σ' ⟨rfl,hr⟩
  rcases hr with⟨rfl,-⟩ | ⟨full,rfl⟩
  ·simp only[KP,↓reduceIte,reduceLT]
   exact .inl ⟨rfl,rfl⟩
  ·simp only[KP,↓reduceIte,reduceLT]
   exact .inr ⟨full,rfl⟩
 |some e=>
  rw[hk]at lk
  rw[Gb hk]
  simp only[aA,Tryz.f58,KP,Ax.loadAt,↓reduceIte,reduceEqDiff,reduceLT,reduceAdd,reduceCtorEq,h.cF,h'.xO,h'.wI,gV,en,lk,aK d3,bB]
  refine aP (abn h h' hl q (hi.k3 e (gL hk).1) (hi.UH hf hk)) ?_
  rintro r σ' ⟨rfl,hr⟩
  rcases hr with⟨rfl,h0⟩ | ⟨full,rfl⟩
  ·simp only[KP,↓reduceIte,reduceLT]
   exact .inl ⟨rfl,h0⟩
  ·simp only[KP,↓reduceIte,reduceLT]
   exact .inr ⟨full,rfl⟩
theorem Qn (h:bK E)(h':tP E)(hl:Lb.cH E) (q:Kh E) {g:V}{rs:List aD}(hg:LW E rs g)(hf:Fits rs) (x:aG):aB E 71 [g,.agg [.bool x.1,.str x.2]] Z λv σ'=>σ'=Z/\xJ v (jO rs x):=by
 obtain⟨es0,es1,get,A,L3,L4,rfl,hi⟩:=hg
 have him:Ax.bF (gV es0 es1 A L3 L4)=true:=rfl
 have e1:=cN (Z:=Z) (ty:=E.ty) him (bZ him)
 have e2:aT Z E.ty true (.agg [.bool x.1,.str x.2])=some (.agg [.bool x.1,.str x.2]):=rfl
 have d3:=q.aaX
 simp only[aA,Tryz.f71,cutAt,an]at d3
 rw[aI q.hs71 q.sp71 q.fn71 q.md71 (args':=[gV es0 es1 A L3 L4,.agg [.bool x.1,.str x.2]]) (by simp only[aW,e1,e2]),aY (by kernel_rfl)]
 have en:m_ E 27 true (.cL false [.imp false es0,.imp false es1,vR A,.imp false (L3.map AB),.imp false (L4.map AB)]) .gG=some false:=by unfold m_;rw[h'.T8]
 have lk:=λZ g=>EV (Z:=Z) (g:=g) (L:=L4) h' hl x
 rw[<- hi.user]
 cases hk:bP L4 x with
 |none=>
  rw[hk]at lk
  rw[Lj hk]
  simp only[aA,Tryz.f71,KP,Ax.loadAt,↓reduceIte,reduceEqDiff,reduceLT,reduceAdd,reduceCtorEq,h.cF,h'.xO,h'.wI,gV,en,lk,aK d3,bB]
  refine aP (TR h h' hl q) ?_
  rintro r σ' ⟨rfl,hr⟩
  rcases hr with⟨rfl,-⟩ | ⟨full,rfl⟩
  ·simp only[KP,↓reduceIte,reduceLT]
   exact .inl ⟨rfl,rfl⟩
  ·simp only[KP,↓reduceIte,reduceLT]
   exact .inr ⟨full,rfl⟩
 |some e=>
  rw[hk]at lk
  rw[Gb hk]
  simp only[aA,Tryz.f71,KP,Ax.loadAt,↓reduceIte,reduceEqDiff,reduceLT,reduceAdd,reduceCtorEq,h.cF,h'.xO,h'.wI,gV,en,lk,aK d3,bB]
  refine aP (abn h h' hl q (hi.k4 e (gL hk).1) (hi.UG hf hk)) ?_
  rintro r σ' ⟨rfl,hr⟩
  rcases hr with⟨rfl,h0⟩ | ⟨full,rfl⟩
  ·simp only[KP,↓reduceIte,reduceLT]
   exact .inl ⟨rfl,h0⟩
  ·simp only[KP,↓reduceIte,reduceLT]
   exact .inr ⟨full,rfl⟩
end
end
section
section
variable {E:Env}{Z:Sg}{K:V->Sg->Prop}
def sI (rs:List aD) (f:bH):Option aD:=rs.find? λr=>decide (f∈r.outs)
def kindOf (rs:List aD) (x:aG):Int:=if x∈a_ rs then (if x.1=true then 1 else if (sI rs x.2).isSome=true then 2 else 3) else 0
theorem mF {rs:List aD}{f:bH}{r:aD}(h:sI rs f=some r):r∈rs/\f∈r.outs:=⟨List.mem_of_find?_eq_some h,by have:=find?_some h;exact dx this⟩
theorem F5 {rs:List aD}{f:bH}(h:sI rs f=none):∀r∈rs,f ∉ r.outs:=λr hr hf=>by
 have:=mg.1 h r hr
 exact this (AT hf)
theorem NB.get {rs:List aD}{es0 es1:List (V × V)}{get:bH->Option V}{A:List aG}{L3 L4:List dL}(hi:NB E rs es0 es1 get A L3 L4)(hf:Fits rs) (f:bH):get f=(sI rs f).map λr=>V.str r.name:=by
 rcases hi.Pf f with⟨h1,h2⟩ | ⟨n,⟨r,hr,hfr,rfl⟩,h2⟩
 ·rw[h1]
  cases hm:sI rs f with
  |none=>rfl
  |some r=>exact absurd ⟨r,(mF hm).1,(mF hm).2,rfl⟩ (h2 r.name)
 ·rw[h2]
  cases hm:sI rs f with
  |none=>exact absurd hfr (F5 hm r hr)
  |some r'=>
   have:=(vH hf.ok.1).short.jM f r.name r'.name ⟨r,hr,hfr,rfl⟩ ⟨r',(mF hm).1,(mF hm).2,rfl⟩
   rw[this];rfl
theorem Po (h:bK E) {Z:Sg}{x:V}{es:List (V × V)}{get:bH->Option V}(hx:entriesOf Z x=some es)(hs:SM E es get) (k:bH):lookup E Z 91 x (.str k) false=some (match get k with | some v=>v | none=>.str []):=by
 have hk:eI E 9 (.str k)=true:=by unfold eI;rw[h.c_]
 unfold Ax.lookup
 simp only[h.GU,h.c_,hk,hx,hs.2 k,dh,ai,ay]
 cases get k <;> rfl
theorem LO (h:bK E)(h':tP E)(hl:Lb.cH E) (q:Kh E) {g:V}{rs:List aD}(hg:LW E rs g)(hf:Fits rs) (x:aG):aB E 57 [g,.agg [.bool x.1,.str x.2]] Z K=K (.int .i64 (kindOf rs x)) Z:=by
 refine aB.of ?_
 obtain⟨es0,es1,get,A,L3,L4,rfl,hi⟩:=hg
 have him:Ax.bF (gV es0 es1 A L3 L4)=true:=rfl
 have e1:=cN (Z:=Z) (ty:=E.ty) him (bZ him)
 have e2:aT Z E.ty true (.agg [.bool x.1,.str x.2])=some (.agg [.bool x.1,.str x.2]):=rfl
 have d1:=q.aa8
 simp only[aA,Tryz.f57,cutAt,an]at d1
 have d5:=q.aa7
 simp only[aA,Tryz.f57,cutAt,an]at d5
 rw[aI q.hs57 q.sp57 q.fn57 q.md57 (args':=[gV es0 es1 A L3 L4,.agg [.bool x.1,.str x.2]]) (by simp only[aW,e1,e2]),aY (by kernel_rfl)]
 have en:m_ E 27 true (.cL false [.imp false es0,.imp false es1,.cL false [.imp false (Lb.mR A)],.imp false (L3.map AB),.imp false (L4.map AB)]) .gG=some false:=by unfold m_;rw[h'.T8]
 have kh:=λ(Y:Sg)=>cU λK=>V3 (Z:=Y) (K:=K) hl h (g:=false) (g':=false) (ks:=A) x
 have hA:decide (x∈A)=decide (x∈a_ rs):=by rw[<- hi.all];simp only[iW]
 rw[hA]at kh
 have lk:=λZ=>Po (Z:=Z) (x:=.imp false es1) h rfl hi.sm x.2
 rw[hi.get hf]at lk
 have s0:∀a b:bH,tH .neq a b=some (.bool (!Ax.seq a b)):=λa b=>rfl
 unfold kindOf
 by_cases hx:x∈a_ rs
 ·rw[AT hx]at kh
  rw[bf hx]
  cases hb:x.1 with
  |true=>
   rw[hb]at kh
   simp only[aA,Tryz.f57,KP,Ax.loadAt,↓reduceIte,reduceEqDiff,reduceLT,reduceAdd,reduceCtorEq,h.tR,h.cF,hl.tW,hl.vP,hl.Bp,h'.xO,gV,vR,en,kh,aK d1,bB]
   exact rfl
  |false=>
   rw[hb]at kh
   cases hm:sI rs x.2 with
   |none=>
    rw[hm]at lk
    have z:Ax.seq ([]:bH) []=true:=rfl
    simp only[aA,Tryz.f57,KP,Ax.loadAt,↓reduceIte,reduceEqDiff,reduceLT,reduceAdd,reduceCtorEq,h.tR,h.c_,h.cF,h.GU,lN,hl.tW,hl.vP,hl.Bp,h'.xO,gV,vR,en,kh,lk,s0,z,aK d1,aK d5,bB]
    exact rfl
   |some r=>
    rw[hm]at lk
    have z:Ax.seq r.name []=false:=gU (JG (hf.names r (mF hm).1).1)
    simp only[aA,Tryz.f57,KP,Ax.loadAt,↓reduceIte,reduceEqDiff,reduceLT,reduceAdd,reduceCtorEq,h.tR,h.c_,h.cF,h.GU,lN,hl.tW,hl.vP,hl.Bp,h'.xO,gV,vR,en,kh,lk,s0,z,aK d1,aK d5,bB]
    exact rfl
 ·rw[AS hx]at kh
  rw[az hx]
  simp only[aA,Tryz.f57,KP,Ax.loadAt,↓reduceIte,reduceEqDiff,reduceLT,reduceAdd,reduceCtorEq,h.cF,hl.tW,hl.vP,hl.Bp,h'.xO,gV,vR,en,kh,aK d1,bB]
  exact rfl
theorem Tw.ru {v:V}{x:aD}(h:Tw v x):IP v x:=by
 obtain⟨a,b,c,d,rfl,h1,h2,h3,h4⟩:=h
 exact⟨a,b,c,d,rfl,h1.is,h2.is,h3.is,sL h4.is rT⟩
end
end
section
section
variable {E:Env}{Z:Sg}{K:V->Sg->Prop}
def eS:Lay aG:=⟨λr x=>r=row x,2,λ_ _ h=>by rw[h];rfl,λ_ _ h c hc=>by
 rw[h]at hc
 unfold row at hc
 simp only[IN,ck,fh]at hc
 rcases hc with rfl | rfl <;> rfl⟩
theorem zO:∀l:List aG,dZ eS.P (l.map row) l
 | []=>.nil
 |x::l=>.cons rfl (zO l)
theorem xJ.BQ {v:V}{l:List aG}(h:xJ v l):jG eS v l:=h.imp id λ⟨f,e⟩=>⟨_,f,e,zO l⟩
theorem LV.is {v:V}{l:List aG}(h:Lb.LV v l):IS eS v l:=h.imp id λ⟨g,f,e⟩=>⟨g,_,f,e,zO l⟩
theorem rX:∀{rs:List (List V)}{l:List aG},dZ eS.P rs l->rs=l.map row
 |_,_,.nil=>rfl
 |_,_,.cons h t=>by rw[bl,<- rX t,show _=_ from h]
theorem IS.lv {v:V}{l:List aG}(h:IS eS v l):Lb.LV v l:=h.imp id λ⟨g,rs,f,e,a⟩=>⟨g,f,by rw[e,rX a]⟩
theorem f_ (h:bK E) {v:V} {l} (ia:IS eS v l) (Z:Sg):lenOf E Z 23 v=some l.length:=mZ h.dB rfl (ia.ls Z 51)
theorem kU (h:bK E) {v:V} {l} (ia:IS eS v l) {i:Nat} {x}(hx:l[i]?=some x):∃g,indexAddr E 23 v (.int .i64 (i:Int))=some (.cL g [.bool x.1,.str x.2]):=by
 obtain⟨g,r,h1,h2⟩:=IS.at h.dB rfl h.cF rfl ia hx
 exact⟨g,by rw[h1,show r=row x from h2];rfl⟩
theorem iH (h:bK E) {v:V} {l}(ha:LS eS 51 Z v l):∃v',aT Z E.ty true v=some v'/\IS eS v' l:=BH h.cF rfl ha
theorem qH (hl:Lb.cH E) {b:Bool} (x y:aG):m_ E 51 b (.agg [.bool x.1,.str x.2]) (.agg [.bool y.1,.str y.2])=some (decide (x=y)):=by
 unfold m_
 rw[hl.cF]
 simp only[hl.SK,Ax.eqs,vA,ki,j8]
 rw[dw]
 simp only[aj,gk,OF]
 exact⟨λ⟨h1,h2⟩=>Prod.ext h1 h2,λh=>by rw[h];exact⟨rfl,rfl⟩⟩
theorem qW (Z:Sg) (x:aG):aT Z E.ty true (.agg [.bool x.1,.str x.2])=some (.agg [.bool x.1,.str x.2]):=rfl
theorem BZ (h:bK E)(hl:Lb.cH E) {a:V}{l:List aG}{s:aG}(ha:LS eS 51 Z a l)(hsm:l.length<=4294967296):aB E 42 [a,.agg [.bool s.1,.str s.2]] Z K=K (.int .i64 (idx (bI (λx=>decide (x=s)) l))) Z:=by
 refine aB.of ?_
 obtain⟨a',ea,ia⟩:=iH h ha
 have es:=qW (E:=E) Z s
 have d4:=hl.aba
 simp only[aA,Tryz.f42,cutAt,an]at d4
 rw[aI hl.hs42 hl.sp42 hl.fn42 hl.md42 (args':=[a',.agg [.bool s.1,.str s.2]]) (by simp only[aW,ea,es]),aY (by kernel_rfl)]
 simp only[aA,Tryz.f42,KP,↓reduceIte,reduceLT,reduceAdd,reduceNeg,h.cF]
 have la:=f_ h ia
 refine aS (λi F Y=>Y[0]?=some (O.cells 51 [.bool s.1,.str s.2] true)/\F.get 0=a'/\F.get 3=.ref 0 0/\F.get 5=.int .i64 (i:Int)/\∀j y,j<i->l[j]?=some y->y≠s) l.length ?_ ?_ l.length 0 _ _ (by omega) ⟨rfl,(fJ (by simp +decide only[GS,ag]) (λj y hj=>by omega))⟩
 ·rintro i F Y hi ⟨hb,g0,g3,g5,hp⟩ next
  obtain⟨x,hx⟩:∃x,l[i]?=some x:=⟨_,BY hi⟩
  obtain⟨g,e1⟩:=kU h ia hx
  have hlt:=dG hi
  have hadd:=bQ i (by omega)
  have ev:=λb=>qH (b:=b) hl x s
  rw[aC]
  by_cases hxs:x=s
  ·rw[AT hxs]at ev
   simp only[KP,Ax.loadAt,↓reduceIte,reduceEqDiff,reduceLT,reduceAdd,reduceCtorEq,reduceNeg,h.cF,g0,g3,g5,la,hlt,e1,hb,ev,aK d4,bB]
   rw[fP (i:=i) (x:=x) (λj y hj hy=>AS (hp j y hj hy)) hx (AT hxs)]
   exact rfl
  ·rw[AS hxs]at ev
   simp only[KP,Ax.loadAt,↓reduceIte,reduceEqDiff,reduceLT,reduceAdd,reduceCtorEq,reduceNeg,h.cF,g0,g3,g5,la,hlt,e1,hb,ev,hadd,aK d4,bB]
   refine next _ _ ⟨hb,(fJ (by simp +decide only[GS,g0,g3,ag]) (λj y hj hy=>?_))⟩
   rcases bz j i with g | g
   ·exact hp j y g hy
   ·obtain rfl:j=i:=by omega
    rw[hx]at hy;cases hy;exact hxs
 ·rintro F Y ⟨hb,g0,g3,g5,hp⟩
  have hlt:=dH (b9 l.length)
  rw[aC]
  simp only[KP,↓reduceIte,reduceEqDiff,reduceLT,reduceCtorEq,reduceNeg,g0,g5,la,hlt]
  rw[dS λx hx=>by
   obtain⟨j,hj,e⟩:=ez hx
   exact AS (hp j x hj (by rw[BY hj,e]))]
  exact rfl
end
end
section
section
variable {E:Env}{Z:Sg}{K:V->Sg->Prop}
theorem Tw.snap {Y:Sg}{v:V}{x:aD}(hv:Tw v x):aT Y E.ty false v=some v:=by
 obtain⟨a,b,c,d,rfl,h1,h2,h3,h4⟩:=hv
 have q:∀c:V,Ax.bF c=true->bT false c=true->aT.one Y E.ty false c=some c:=λc h1 h2=>by
  unfold aT.one
  rw[show dN=11+1 from rfl,gF h1]
  simp only[h2,bh]
 show (match aW (aT.one Y E.ty false) [.str x.name,a,b,c,d] with
  |some l=>some (V.agg l)
  |none=>none)=_
 simp only[aW,q (.str x.name) rfl rfl,q a h1.is.bF h1.tag,q b h2.is.bF h2.tag,q c h3.is.bF h3.tag,q d h4.is.bF h4.tag]
theorem lR {rs:List aD}{p:aG × aG}:p∈rs.flatMap eF ↔ ∃r∈rs,(∃f∈r.ins,p=(((true,r.name):aG),((false,f):aG)))\/∃f∈r.outs,p=(((false,f):aG),((true,r.name):aG)):=by
 rw[j6]
 refine exists_congr λr=>po mh ?_
 unfold eF
 rw[bt,cm,cm]
 exact or_congr (exists_congr λf=>po mh eq_comm) (exists_congr λf=>po mh eq_comm)
theorem K2 {rs:List aD}{a b:aG}(hp:(a,b)∈rs.flatMap eF):a∈a_ rs/\b∈a_ rs:=⟨yT.2 (.inr ⟨_,hp,.inl rfl⟩),yT.2 (.inr ⟨_,hp,.inr rfl⟩)⟩
theorem Ew {rs:List aD}(hf:Fits rs) {r r':aD}(h1:r∈rs)(h2:r'∈rs)(he:r.name=r'.name):r=r':=by
 obtain⟨i,hi⟩:=gp.1 h1
 obtain⟨j,hj⟩:=gp.1 h2
 have:=(vH hf.ok.1).short.nodup i j r r' hi hj he
 subst this
 rw[hi]at hj
 exact dc hj
end
end
section
section
variable {E:Env}{Z:Sg}{K:V->Sg->Prop}
theorem gN {rs:List aD}(hf:Fits rs):(a_ rs).length<=2000:=by
 have h1:=hf.UQ
 have h2:=hf.len
 refine e8 (iT (b:=rs.map iB++(rs.flatMap eF).flatMap λp=>[p.1,p.2]) (B4 rs).nodup λx hx=>iW.1 hx) ?_
 have h3:∀P:List (aG × aG),(P.flatMap λp=>[p.1,p.2]).length=2*P.length:=λP=>by
  induction P with
  |nil=>rfl
  |cons p P ih=>rw[jg,ak,ih];simp only[af,b8];omega
 rw[ak,bg,h3]
 omega
end
end
section
structure RcE (E:Env):Prop where
 hs70:E.hspec 70=none
 sp70:E.spec 70=none
 fn70:E.fn 70=some (aA Tryz.f70)
 md70:E.mode 70=.fK
 hs17:E.hspec 17=none
 Re:E.spec 17=none
 fn17:E.fn 17=some (aA Tryz.f17)
 md17:E.mode 17=.fK
 hs19:E.hspec 19=none
 Rc:E.spec 19=none
 fn19:E.fn 19=some (aA Tryz.f19)
 md19:E.mode 19=.fK
section
variable {E:Env}{Z:Sg}{K:V->Sg->Prop}
theorem RS {c:Code}{s:List gT}{w:Nat}{Q:Ax.X->Fr->Sg->Prop} (I:Nat->FT->Sg->Prop)
  (step:∀n F Y,I n F Y->(∀n' F' τ',n'<n->I n' F' τ'->Ax.R E (.loop c) s ⟨w,F'⟩ τ' Q)->Ax.R E (.loop c) s ⟨w,F⟩ Y Q):∀(n:Nat) (F:FT) (Y:Sg),I n F Y->Ax.R E (.loop c) s ⟨w,F⟩ Y Q:=by
 intro n
 induction n using Nat.strongRecOn with
 |_ n ih=>exact λF Y h=>step n F Y h λn' F' τ' hn h'=>ih n' hn F' τ' h'
theorem M1 {Y:Sg}{x:aG}{ex:Bool}:elems (Y++[.cells 51 [.bool x.1,.str x.2] ex]) 2 (.sl Y.length 0 1 none)=some ([row x].flatten,[x].length):=by
 simp only[elems,aL]
 rfl
theorem Jv (hl:Lb.cH E):fA E #[23,23]=true:=by
 unfold fA
 simp only[hl.dB,cz,cw,cg]
 rfl
theorem B0 (hl:Lb.cH E) {Y:Sg}{w:V}{l:List aG}{x:aG}{ex:Bool} (ow:aV eS 51 Y w l)(hb:l.length<=1000000):∃w' τ',Ax.append E (Y++[.cells 51 [.bool x.1,.str x.2] ex]) #[23,23] w (.sl Y.length 0 1 none)=some (w',τ')/\aV eS 51 τ' w' (l++[x])/\Sp (Y++[.cells 51 [.bool x.1,.str x.2] ex]) τ' w/\∀c,aR w'=some c->aR w=some c\/Y.length<=c:=by
 obtain⟨w',τ',h1,h2,h3,-,h5⟩:=iR (m:=[x]) (new:=[row x]) hl.dB rfl hl.cF rfl (by decide) (Jv hl) rfl (ow.app [.cells 51 [.bool x.1,.str x.2] ex]) M1 (.one rfl) (dA (b:=1000001) (by decide) (by simp only[af,b8];omega))
 exact⟨w',τ',h1,h2,h3,λc hc=>(h5 c hc).imp id λh=>by rw[ak]at h;omega⟩
def Rk (nx:aG->List aG) (s0:aG->Prop):Nat->aG->Prop
 |0,x=>s0 x
 |k+1,x=>Rk nx s0 k x\/∃y,Rk nx s0 k y/\x∈nx y
def vT (nx:aG->List aG) (s0:aG->Prop) (bD:Int) (x:aG):Prop:=(bD<0/\∃n,Rk nx s0 n x)\/(0<=bD/\Rk nx s0 bD.toNat x)
section
variable {nx:aG->List aG}{s0:aG->Prop}
theorem Rk.mono {x : aG} : ∀ {k n : Nat}, k <= n -> Rk nx s0 k x -> Rk nx s0 n x
  | k, 0, h, hx => by obtain rfl : k = 0 := by omega
                      exact hx
  | k, n + 1, h, hx => by
    rcases bz n k with h1 | h1
    · obtain rfl : k = n + 1 := by omega
      exact hx
    · exact .inl (Rk.mono h1 hx)
theorem Rk.closed {k:Nat}(hc:∀y x,Rk nx s0 k y->x∈nx y->Rk nx s0 k x):∀(n:Nat) {x:aG},Rk nx s0 n x->Rk nx s0 k x
 |0,_,hx=>Rk.mono (ij k) hx
 |n+1,_,.inl hx=>Rk.closed hc n hx
 |n+1,_,.inr ⟨y,hy,hx⟩=>hc y _ (Rk.closed hc n hy) hx
structure Rd (nx:aG->List aG) (s0:aG->Prop) (k:Nat) (A now:List aG):Prop where
 all:∀x,x∈A ↔ Rk nx s0 k x
 sub:∀x,x∈now->x∈A
 rest:∀y,y∈A->y ∉ now->∀x,x∈nx y->x∈A
theorem Rd.start {A now:List aG}(h1:∀x,x∈A ↔ s0 x)(h2:∀x,x∈now ↔ x∈A):Rd nx s0 0 A now:=⟨h1,λx h=>(h2 x).1 h,λy h h'=>absurd ((h2 y).2 h) h'⟩
theorem Rd.next {k:Nat}{A now A' more:List aG}(h:Rd nx s0 k A now)(h1:∀x,x∈A' ↔ x∈A\/∃y∈now,x∈nx y)(h2:∀x,x∈more ↔ x∈A'/\x ∉ A):Rd nx s0 (k+1) A' more:=by
 have key:∀y x,y∈A->x∈nx y->x∈A':=λy x hy hx=>by
  by_cases hn:y∈now
  ·exact (h1 x).2 (.inr ⟨y,hn,hx⟩)
  ·exact (h1 x).2 (.inl (h.rest y hy hn x hx))
 refine⟨λx=>?_,λx hx=>((h2 x).1 hx).1,λy hy hn x hx=>?_⟩
 ·constructor
  ·intro hx
   rcases (h1 x).1 hx with hx | ⟨y,hy,hx⟩
   ·exact .inl ((h.all x).1 hx)
   ·exact .inr ⟨y,(h.all y).1 (h.sub y hy),hx⟩
  ·rintro (hx | ⟨y,hy,hx⟩)
   ·exact (h1 x).2 (.inl ((h.all x).2 hx))
   ·exact key y x ((h.all y).2 hy) hx
 ·by_cases hA:y∈A
  ·exact key y x hA hx
  ·exact absurd ((h2 y).2 ⟨hy,hA⟩) hn
theorem Rd.bD {k:Nat}{A now:List aG}(h:Rd nx s0 k A now) (x:aG):x∈A ↔ vT nx s0 (k:Int) x:=by
 rw[h.all]
 unfold vT
 constructor
 ·exact λhx=>.inr ⟨by omega,by rw[cv];exact hx⟩
 ·rintro (⟨h1,-⟩ | ⟨-,hx⟩)
  ·omega
  ·rw[cv]at hx;exact hx
theorem Rd.still {k:Nat}{A:List aG}{bD:Int}(h:Rd nx s0 k A [])(hk:0<=bD->(k:Int)<=bD) (x:aG):x∈A ↔ vT nx s0 bD x:=by
 have hc:∀y x,Rk nx s0 k y->x∈nx y->Rk nx s0 k x:=λy x hy hx=>(h.all x).1 (h.rest y ((h.all y).2 hy) (by simp) x hx)
 rw[h.all]
 unfold vT
 constructor
 ·intro hx
  by_cases hf:bD<0
  ·exact .inl ⟨hf,k,hx⟩
  ·exact .inr ⟨by omega,Rk.mono (by have:=hk (by omega);omega) hx⟩
 ·rintro (⟨-,n,hx⟩ | ⟨-,hx⟩)
  ·exact Rk.closed hc n hx
  ·exact Rk.closed hc _ hx
theorem Rk.sub {P:aG->Prop}(h0:∀x,s0 x->P x)(hn:∀y x,x∈nx y->P x):∀(n:Nat) {x:aG},Rk nx s0 n x->P x
 |0,_,hx=>h0 _ hx
 |n+1,_,.inl hx=>Rk.sub h0 hn n hx
 |n+1,_,.inr ⟨y,_,hx⟩=>hn y _ hx
end
theorem TD {Y:Sg}{w:V}{l:List aG}{c:Nat} (ow:aV eS 51 Y w l)(h:aR w=some c):c<Y.length:=by
 rcases ow with⟨rfl,-⟩ | ⟨b,rs,ex,rfl,hb,-⟩
 ·cases h
 ·cases h;exact (AI.1 hb).1
theorem EI {Y:Sg}{w:V}{l:List aG}{c:Nat} (ow:aV eS 51 Y w l)(h:∀u ex,Y[c]?≠some (.cells 51 u ex)):aR w≠some c:=by
 rcases ow with⟨rfl,-⟩ | ⟨b,rs,ex,rfl,hb,-⟩
 ·intro e;cases e
 ·intro e;cases e;exact h _ _ hb
theorem Ya {Y τ':Sg}{w v:V}{l:List aG} (ow:aV eS 51 Y w l)(hne:∀c,aR v=some c->aR w≠some c)(hk:Sp Y τ' v):aV eS 51 τ' w l:=ow.keep λc o hc ho=>hk c o ho λe=>hne c e hc
end
end
section
section
variable {E:Env}{Z:Sg}{K:V->Sg->Prop}
structure Ri (nx:aG->List aG) (all A0:List aG) (P:aG->Prop) (A more:List aG):Prop where
 mem:∀x,x∈A ↔ x∈A0\/P x
 new:∀x,x∈more ↔ x∈A/\x ∉ A0
 sub:∀x,x∈A->x∈all
 len:more.length<=A.length
 nd:A.Nodup
 up:A0.length<=A.length/\(more≠[]->A0.length<A.length)
theorem Ri.le {nx:aG->List aG}{all A0 A more:List aG}{P:aG->Prop}(h:Ri nx all A0 P A more)(hal:all.length<=2000):A.length<=2000:=e8 (iT h.nd h.sub) hal
theorem Ri.old {nx:aG->List aG}{all A0 A more:List aG}{P P':aG->Prop}(h:Ri nx all A0 P A more) {x:aG}(hx:x∈A)(hP:∀y,P' y ↔ P y\/y=x):Ri nx all A0 P' A more:=⟨λy=>by
 rw[hP,<- or_assoc,<- h.mem]
 exact⟨.inl,λh=>h.elim id λe=>by rw[e];exact hx⟩,h.new,h.sub,h.len,h.nd,h.up⟩
theorem Ri.fresh {nx:aG->List aG}{all A0 A more:List aG}{P P':aG->Prop}(h:Ri nx all A0 P A more) {x:aG}(hx:x ∉ A)(ha:x∈all)(hP:∀y,P' y ↔ P y\/y=x):Ri nx all A0 P' (A++[x]) (more++[x]):=by
 have hx0:x ∉ A0:=λe=>hx ((h.mem x).2 (.inl e))
 refine⟨λy=>?_,λy=>?_,λy hy=>?_,by simp only[ak,af,b8];have:=h.len;omega,jv.2 ⟨h.nd,List.pairwise_singleton ..,λa ha b hb e=>hx (by rw[cj]at hb;rw[<- hb,<- e];exact ha)⟩,?_⟩
 ·rw[hP,<- or_assoc,<- h.mem,bt,cj]
 ·rw[bt,bt,cj,h.new]
  constructor
  ·rintro (⟨h1,h2⟩ | rfl)
   ·exact⟨.inl h1,h2⟩
   ·exact⟨.inr rfl,hx0⟩
  ·rintro⟨h1 | h1,h2⟩
   ·exact .inl ⟨h1,h2⟩
   ·exact .inr h1
 ·rcases bt.1 hy with h1 | h1
  ·exact h.sub y h1
  ·rw[cj.1 h1];exact ha
 ·have:=h.up.1
  simp only[ak,af,b8]
  exact⟨by omega,λ_=>by omega⟩
theorem Ri.congr {nx:aG->List aG}{all A0 A more:List aG}{P P':aG->Prop}(h:Ri nx all A0 P A more)(hP:∀y,P' y ↔ P y):Ri nx all A0 P' A more:=⟨λy=>by rw[hP];exact h.mem y,h.new,h.sub,h.len,h.nd,h.up⟩
theorem dI {l:List aG}{j:Nat}{x:aG}(hj:l[j]?=some x) (y:aG):y∈l.take (j+1) ↔ y∈l.take j\/y=x:=by
 rw[dn,hj]
 simp
theorem lB (a:Bool) (s:bH):Ax.fill (λj=>some (j*2,2)) (fR 1 [V.bool false,V.str []]) [(0,V.agg [V.bool a,V.str s])]=some [.bool a,.str s]:=rfl
theorem Jz (hl:Lb.cH E) {Y:Sg}{w:V}{l:List aG} (on:aV eS 51 Y w l) {i:Nat}{y:aG}(hy:l[i]?=some y):∃b o u cs ex,indexAddr E 23 w (.int .i64 (i:Int))=some (.ref b o)/\Y[b]?=some (.cells u cs ex)/\o+2<=cs.length/\(cs.drop o).take 2=row y:=by
 obtain⟨p,r0,e1,hr0,-,-,hp⟩:=DJ hl.dB rfl hl.cF rfl on.ls hy
 obtain rfl:r0=row y:=hr0
 rcases hp with⟨g,rfl⟩ | ⟨b,o,rfl,u,cs,ex,hb,hle,hrow⟩
 ·exfalso
  rcases on with⟨rfl,rfl⟩ | ⟨b,rs,ex,rfl,hb,-⟩
  ·cases hy
  ·unfold indexAddr at e1
   simp only[hl.dB,hl.cF]at e1
   repeat' split at e1
   all_goals cases e1
 ·exact⟨b,o,u,cs,ex,e1,hb,hle,hrow⟩
end
end
section
section
variable {E:Env}{Z:Sg}{K:V->Sg->Prop}
structure Sd (rs:List aD) (l A now:List aG):Prop where
 mem:∀x,x∈A ↔ x∈l/\x∈a_ rs
 nw:∀x,x∈now ↔ x∈A
 len:now.length<=A.length
theorem Sd.old {rs:List aD}{ls A now:List aG}{j:Nat}{x:aG}(h:Sd rs (ls.take j) A now)(hx:ls[j]?=some x)(hA:x∈a_ rs->x∈A):Sd rs (ls.take (j+1)) A now:=⟨λy=>by
 rw[h.mem,dI hx]
 constructor
 ·exact λe=>⟨.inl e.1,e.2⟩
 ·rintro⟨e | rfl,e2⟩
  ·exact⟨e,e2⟩
  ·exact (h.mem _).1 (hA e2),h.nw,h.len⟩
theorem Sd.fresh {rs:List aD}{ls A now:List aG}{j:Nat}{x:aG}(h:Sd rs (ls.take j) A now)(hx:ls[j]?=some x)(ha:x∈a_ rs):Sd rs (ls.take (j+1)) (A++[x]) (now++[x]):=⟨λy=>by
 rw[bt,h.mem,dI hx,cj]
 constructor
 ·rintro (e | rfl)
  ·exact⟨.inl e.1,e.2⟩
  ·exact⟨.inr rfl,ha⟩
 ·rintro⟨e | rfl,e2⟩
  ·exact .inl ⟨e,e2⟩
  ·exact .inr rfl,λy=>by rw[bt,bt,h.nw],by have:=h.len;rw[ak,ak];omega⟩
theorem Ll {rs:List aD}{x:aG}(hx:x∈a_ rs):kindOf rs x≠0:=by
 unfold kindOf
 rw[bf hx]
 split
 ·decide
 ·split <;> decide
theorem HL {rs:List aD}{x:aG}(hx:x ∉ a_ rs):kindOf rs x=0:=az hx
end
end
section
section
variable {E:Env}{Z:Sg}{K:V->Sg->Prop}
theorem LW.bF {g:V}{rs:List aD}(hg:LW E rs g):Ax.bF g=true:=by
 obtain⟨es0,es1,get,A,L3,L4,rfl,-⟩:=hg
 rfl
theorem xJ.cG {v:V}{l:List aG}(hv:xJ v l) (Y:Sg):cG Y E.ty false v=some v:=by
 rcases hv with⟨rfl,-⟩ | ⟨full,rfl⟩ <;> rfl
theorem yR {rs:List aD} (x y:aG)(hy:y∈eR rs x):y∈a_ rs:=(K2 (mY.1 hy)).2
theorem Cb {rs:List aD} (x y:aG)(hy:y∈jO rs x):y∈a_ rs:=(K2 (Ao.1 hy)).1
end
end
section
structure IL (E:Env):Prop where
 hs96:E.hspec 96=none
 sp96:E.spec 96=none
 fn96:E.fn 96=some (aA Tryz.f96)
 md96:E.mode 96=.fK
 Vy:aO E (cutAt [1,1,1,1,0,2,2,1,2,1,0,1,2,2,1,1,0,2,1,1,2,2,1,1,0,2,1,1,1,0,0] (aA Tryz.f96).code)=true
 hs34:E.hspec 34=none
 sp34:E.spec 34=none
 fn34:E.fn 34=some (aA Tryz.f34)
 md34:E.mode 34=.fK
 hs98:E.hspec 98=none
 sp98:E.spec 98=none
 fn98:E.fn 98=some (aA Tryz.f98)
 md98:E.mode 98=.fK
 hs40:E.hspec 40=none
 sp40:E.spec 40=none
 fn40:E.fn 40=some (aA Tryz.f40)
 md40:E.mode 40=.fK
 abd:aO E (cutAt [1,0,1,2,2,1,1,0,2,1,0] (aA Tryz.f40).code)=true
 Y_:E.hspec 97=none
 Wv:E.spec 97=none
 Z0:E.fn 97=some (aA Tryz.f97)
 Yg:E.mode 97=.fK
 ZT:E.hspec 103=none
 Xn:E.spec 103=none
 aaH:E.fn 103=some (aA Tryz.f103)
 YY:E.mode 103=.fK
 ZI:E.hspec 132=none
 Xc:E.spec 132=none
 aaw:E.fn 132=some (aA Tryz.f132)
 YN:E.mode 132=.fK
 VI:aO E (cutAt [1,0,1,2,2,1,1,0,2,1,0] (aA Tryz.f132).code)=true
 vV:E.ty 128=some { kd:=.map 51 3,size:=1,bytes:=8,zero:=.b_ }
section
variable {E:Env}{Z:Sg}{K:V->Sg->Prop}
def GB (nx:aG->List aG) (s0:aG->Prop) (d:Nat) (x:aG):Prop:=Rk nx s0 d x/\∀d',d'<d->¬ Rk nx s0 d' x
section
variable {nx:aG->List aG}{s0:aG->Prop}
theorem GB.uniq {d e:Nat}{x:aG}(h:GB nx s0 d x)(h':GB nx s0 e x):d=e:=by
 rcases jn d e with h1 | h1 | h1
 ·exact absurd h.1 (h'.2 d h1)
 ·exact h1
 ·exact absurd h'.1 (h.2 e h1)
theorem GB.some {n:Nat}{x:aG}(h:Rk nx s0 n x):∃d,d<=n/\GB nx s0 d x:=by
 induction n using Nat.strongRecOn with
 |_ n ih=>
  by_cases hx:∃m,m<n/\Rk nx s0 m x
  ·obtain⟨m,hm,hr⟩:=hx
   obtain⟨d,hd,hi⟩:=ih m hm hr
   exact⟨d,by omega,hi⟩
  ·exact⟨n,ae _,h,λd' hd hr=>hx ⟨d',hd,hr⟩⟩
theorem GB.back {d:Nat}{x:aG}(h:GB nx s0 (d+1) x):∃y,GB nx s0 d y/\x∈nx y:=by
 rcases h.1 with h1 | ⟨y,hy,hx⟩
 ·exact absurd h1 (h.2 d (je d))
 ·refine⟨y,⟨hy,λd' hd hr=>?_⟩,hx⟩
  exact h.2 (d'+1) (by omega) (.inr ⟨y,hr,hx⟩)
theorem GB.next {d e:Nat}{x y:aG}(h:GB nx s0 d y)(hx:x∈nx y)(h':GB nx s0 e x):e<=d+1:=
 oe λhlt=>h'.2 (d+1) hlt (.inr ⟨y,h.1,hx⟩)
structure Di (nx:aG->List aG) (s0:aG->Prop) (k:Nat) (A now:List aG) (f:aG->Option Nat):Prop where
 rd:Rd nx s0 k A now
 is:∀x,x∈A->∃d,f x=some d/\GB nx s0 d x
 no:∀x,x ∉ A->f x=none
 last:∀x,x∈now->GB nx s0 k x
theorem Di.start {A now:List aG}{f:aG->Option Nat}(h1:∀x,x∈A ↔ s0 x)(h2:∀x,x∈now ↔ x∈A)(hf:∀x,x∈A->f x=some 0)(hn:∀x,x ∉ A->f x=none):Di nx s0 0 A now f:=
 ⟨Rd.start h1 h2,λx hx=>⟨0,hf x hx,(h1 x).1 hx,λd' hd=>by omega⟩,hn,λx hx=>⟨(h1 x).1 ((h2 x).1 hx),λd' hd=>by omega⟩⟩
theorem Di.next {k:Nat}{A now A' more:List aG}{f f':aG->Option Nat}(h:Di nx s0 k A now f)(h1:∀x,x∈A' ↔ x∈A\/∃y∈now,x∈nx y)(h2:∀x,x∈more ↔ x∈A'/\x ∉ A)(hf:∀x,x∈more->f' x=some (k+1))(hf':∀x,x ∉ more->f' x=f x):Di nx s0 (k+1) A' more f':=by
 have rd:=h.rd.next h1 h2
 have hm:∀x,x∈more->GB nx s0 (k+1) x:=λx hx=>by
  obtain⟨hA',hA⟩:=(h2 x).1 hx
  exact⟨(rd.all x).1 hA',λd' hd hr=>hA ((h.rd.all x).2 (hr.mono (by omega)))⟩
 refine⟨rd,λx hx=>?_,λx hx=>?_,hm⟩
 ·by_cases hxm:x∈more
  ·exact⟨k+1,hf x hxm,hm x hxm⟩
  ·have hxA:x∈A:=nt λhn=>hxm ((h2 x).2 ⟨hx,hn⟩)
   rw[hf' x hxm]
   exact h.is x hxA
 ·rw[hf' x λhxm=>hx ((h2 x).1 hxm).1]
  exact h.no x λhxA=>hx ((h1 x).2 (.inl hxA))
theorem Di.fin {k:Nat}{A:List aG}{f:aG->Option Nat}(h:Di nx s0 k A [] f) (x:aG) (d:Nat):f x=some d ↔ GB nx s0 d x:=by
 constructor
 ·intro hx
  by_cases hA:x∈A
  ·obtain⟨e,h1,h2⟩:=h.is x hA
   rw[hx]at h1
   cases h1
   exact h2
  ·rw[h.no x hA]at hx;cases hx
 ·intro hd
  have hA:x∈A:=(h.rd.still (bD:=-1) (by omega) x).2 (.inl ⟨by omega,d,hd.1⟩)
  obtain⟨e,h1,h2⟩:=h.is x hA
  rw[h1,h2.uniq hd]
end
def dV (p:aG × Nat):V × V:=(kA p.1,.int .i64 (p.2:Int))
def oZ (D:List (aG × Nat)) (x:aG):Option Nat:=(D.find? λp=>decide (x=p.1)).map Prod.snd
theorem rK {D:List (aG × Nat)}{x:aG}:oZ D x=none ↔ x ∉ D.map Prod.fst:=by
 unfold oZ
 rw[Option.map_eq_none_iff,mg,cm]
 constructor
 ·rintro h ⟨p,hp,rfl⟩
  exact h p hp (AT rfl)
 ·exact λh p hp e=>h ⟨p,hp,(dx e).symm⟩
theorem Io {D:List (aG × Nat)}{x:aG}(hx:x ∉ D.map Prod.fst) (d:Nat) (y:aG):oZ (D++[(x,d)]) y=if y=x then some d else oZ D y:=by
 have h0:=rK.2 hx
 unfold oZ at h0 ⊢
 rw[List.find?_append]
 by_cases hy:y=x
 ·subst hy
  rw[Option.map_eq_none_iff]at h0
  rw[h0,bf rfl]
  simp only[mz,Option.none_or,decide_true,bw]
 ·rw[az hy]
  simp only[mz,List.find?_nil,AS hy,Option.or_none]
theorem CT (hl:Lb.cH E) (x:aG):∀D:List (aG × Nat),iV (eC E 51) (kA x) (D.map dV)=some ((oZ D x).map λ(d:Nat)=>V.int .i64 (d:Int))
 | []=>rfl
 |p::D=>by
  show (match eC E 51 (.agg [.bool x.1,.str x.2]) (.agg [.bool p.1.1,.str p.1.2]) with
   |some true=>some (some (V.int .i64 (p.2:Int)))
   |some false=>iV (eC E 51) (kA x) (D.map dV)
   |none=>none)=_
  unfold oZ
  rw[Lb.nB hl,mz]
  by_cases h:x=p.1
  ·rw[AT (show ((x.1,x.2):aG)=(p.1.1,p.1.2) from h)];rfl
  ·rw[AS (show ¬ ((x.1,x.2):aG)=(p.1.1,p.1.2) from h)]
   exact CT hl x D
theorem K7 (hl:Lb.cH E) (x:aG) (d:Nat):∀D:List (aG × Nat),x ∉ D.map Prod.fst->kI (eC E 51) (kA x) (.int .i64 (d:Int)) (D.map dV)=some ((D++[(x,d)]).map dV)
 | [],_=>rfl
 |p::D,h=>by
  have hx:x≠p.1:=λe=>h (by rw[e];exact By ..)
  show (match eC E 51 (.agg [.bool x.1,.str x.2]) (.agg [.bool p.1.1,.str p.1.2]) with
   |some true=>some ((kA x,V.int .i64 (d:Int))::D.map dV)
   |some false=>(match kI (eC E 51) (kA x) (.int .i64 (d:Int)) (D.map dV) with
    |some r=>some (dV p::r)
    |none=>none)
   |none=>none)=_
  rw[Lb.nB hl,AS (show ¬ ((x.1,x.2):aG)=(p.1.1,p.1.2) from hx),K7 hl x d D λhm=>h (No _ hm)]
  rfl
theorem BM (h:bK E)(hl:Lb.cH E) (tr:IL E) {Z:Sg}{v:V}{D:List (aG × Nat)}(hv:entriesOf Z v=some (D.map dV)) (x:aG):lookup E Z 128 v (.agg [.bool x.1,.str x.2]) true=some (.gR [.int .i64 (((oZ D x).getD 0:Nat):Int),.bool (oZ D x).isSome]):=by
 have hk:=Lb.lT hl x.1 x.2
 have hf:=CT hl x D
 unfold kA at hf
 unfold Ax.lookup
 simp only[tr.vV,h.nQ,hk,hv,hf,dh,ai,ay]
 cases oZ D x <;> rfl
theorem Pp (h:bK E)(hl:Lb.cH E) (tr:IL E) {Z:Sg}{v:V}{D:List (aG × Nat)}(hv:entriesOf Z v=some (D.map dV)) {x:aG}{d:Nat}(hd:oZ D x=some d):lookup E Z 128 v (.agg [.bool x.1,.str x.2]) false=some (.int .i64 (d:Int)):=by
 have hk:=Lb.lT hl x.1 x.2
 have hf:=CT hl x D
 rw[hd]at hf
 unfold kA at hf
 unfold Ax.lookup
 simp only[tr.vV,h.nQ,hk,hv,hf,dh,ai,ay]
 rfl
theorem OP (hl:Lb.cH E) (tr:IL E) {Z:Sg}{b:Nat}{D:List (aG × Nat)}(hb:Z[b]?=some (.map (D.map dV))) {x:aG}(hx:x ∉ D.map Prod.fst) (d:Nat):mapUpdate E Z 128 (.mp b) (.agg [.bool x.1,.str x.2]) (.int .i64 (d:Int))=some (Z.set b (.map ((D++[(x,d)]).map dV))):=by
 have hk:=Lb.lT hl x.1 x.2
 have hp:=K7 hl x d D hx
 unfold kA at hp
 unfold Ax.mapUpdate
 simp only[tr.vV,hk,hb,hp,fI,V.aZ,dh,iu,ai,ay,bw]
theorem Rr {Z:Sg}{b:Nat}{g:Bool}{D:List (aG × Nat)}(hb:Z[b]?=some (.map (D.map dV))) {n:Nat}:bG Z E.ty g (n+2) (.mp b)=some (.imp g (D.map dV)):=by
 rw[bG]
 simp only[hb]
 rw[CV (k:=dV) λp _=>?_]
 have hp:(kA p.1).cells.all Ax.plainCell=true:=rfl
 show (if (kA p.1).cells.all Ax.plainCell=true then (match (match bG Z E.ty g (n+1) (.int .i64 (p.2:Int)) with
   |some v=>if bT g v then some v else no "snap: borrowed"
   |none=>none) with
   |some v=>some (kA p.1,v)
   |none=>none) else none)=_
 rw[bf hp,gF rfl]
 cases g <;> rfl
end
end
section
section
variable {E:Env}{Z:Sg}{K:V->Sg->Prop}
def Fi (D0 D:List (aG × Nat)) (more:List aG) (k:Nat):Prop:=∀x,oZ D x=if x∈more then some (k+1) else oZ D0 x
theorem Fi.start (D0:List (aG × Nat)) (k:Nat):Fi D0 D0 [] k:=λx=>by rw[az (by simp)]
theorem Fi.fresh {D0 D:List (aG × Nat)}{more:List aG}{k:Nat}(h:Fi D0 D more k) {x:aG}(hx:x ∉ D.map Prod.fst):Fi D0 (D++[(x,k+1)]) (more++[x]) k:=λy=>by
 rw[Io hx]
 by_cases hy:y=x
 ·rw[bf hy,bf (by rw[hy];simp)]
 ·rw[az hy,h y]
  by_cases hm:y∈more
  ·rw[bf hm,bf (by simp[hm])]
  ·rw[az hm,az (by simp[hm,hy])]
theorem JC {Y:Sg}{w:V}{l:List aG}{b:Nat}{es:List (V × V)}{y:O} (ow:aV eS 51 Y w l)(hb:Y[b]?=some (.map es)):aV eS 51 (Y.set b y) w l:=ow.keep λc o hc ho=>by
 rw[IT (λe=>?_)]
 ·exact ho
 ·subst e
  exact EI ow (λu ex e=>by rw[hb]at e;cases e) hc
theorem Pb {Y τ':Sg}{w:V}{l:List aG}{b:Nat}{es:List (V × V)}(hb:Y[b]?=some (.map es)) (ow:aV eS 51 Y w l)(hk:Sp Y τ' w):τ'[b]?=some (.map es):=hk _ _ hb (EI ow λu ex e=>by rw[hb]at e;cases e)
theorem Vx (h:bK E)(h':tP E)(hl:Lb.cH E) (q:Kh E) (tr:IL E) {b k:Nat}{g:V}{rs:List aD}(hg:LW E rs g)(hf:Fits rs) {D0 D:List (aG × Nat)}{more now:List aG}{P P':aG->Prop}{wn wm:V}{i:Nat}{y:aG}{Y:Sg}
  (hb:Y[b]?=some (.map (D.map dV))) (on:aV eS 51 Y wn now) (om:aV eS 51 Y wm more)(hne:∀c,aR wm=some c->aR wn≠some c)(hy:now[i]?=some y) (ri:Ri (jO rs) (a_ rs) (D0.map Prod.fst) P (D.map Prod.fst) more) (fi:Fi D0 D more k)(hy0:oZ D0 y=some k)(hkb:k<=1000000)(hP:∀x,P' x ↔ P x\/x∈jO rs y)
  (F:FT) (g0:F.get 0=g) (g5:F.get 5=.mp b) (g11:F.get 11=wm) (g49:F.get 49=wn) (g51:F.get 51=.int .i64 (i:Int)) {st:List gT}{Q:Ax.X->Fr->Sg->Prop}
  (hk:∀F' τ' wm' D' more',(∀k,k∈[0,5,49,50,51]->F'.get k=F.get k)->F'.get 11=wm'->τ'[b]?=some (.map (D'.map dV))->aV eS 51 τ' wn now->aV eS 51 τ' wm' more'->(∀c,aR wm'=some c->aR wn≠some c)->Ri (jO rs) (a_ rs) (D0.map Prod.fst) P' (D'.map Prod.fst) more'->Fi D0 D' more' k->M E st .normal ⟨85,F'⟩ τ' Q):Ax.R E (cutAt [1,1,1,1,0,2,2,1,2,1,0,1,2,2,1,1,0,2] (aA Tryz.f96).code) st ⟨85,F⟩ Y Q:=by
 obtain⟨c,o,u,cs,ex,e1,hc,hle,hrow⟩:=Jz hl on hy
 have hlen:=gN hf
 have hyA:y∈D0.map Prod.fst:=nt λhn=>by rw[rK.2 hn]at hy0;cases hy0
 have d21:=tr.Vy
 simp only[aA,Tryz.f96,cutAt,an]at d21
 simp only[aA,Tryz.f96,KP,Ax.loadAt,Ax.storeAt,↓reduceIte,reduceEqDiff,reduceLT,reduceAdd,reduceCtorEq,h.cF,cutAt,g0,g49,g51,e1,hc,hle,hrow,row,aL,cA]
 refine aP (Qn h h' hl q hg hf y) ?_
 rintro v σ' ⟨rfl,hv⟩
 have hvi:=hv.BQ.is
 have la:=f_ h hvi
 have hadl:jO rs y ⊆ a_ rs:=λx hx=>Cb y x hx
 have hnl:(jO rs y).length<=2000:=e8 (iT (GO rs y).nodup hadl) hlen
 have hz1:(Y++[O.cells 51 [.bool y.1,.str y.2] true])[Y.length]?=some (O.cells 51 [.bool y.1,.str y.2] true):=aL
 have hb1:(Y++[O.cells 51 [.bool y.1,.str y.2] true])[b]?=some (.map (D.map dV)):=aJ hb
 have on1:=on.app [O.cells 51 [.bool y.1,.str y.2] true]
 have om1:=om.app [O.cells 51 [.bool y.1,.str y.2] true]
 have hmz:∀c,aR wm=some c->c≠Y.length:=λc hc e=>by have:=TD om hc;omega
 generalize Y++[O.cells 51 [.bool y.1,.str y.2] true]=τ1 at hz1 hb1 on1 om1 ⊢
 generalize Y.length=z at hz1 hmz ⊢
 simp only[KP,↓reduceIte,reduceLT,la]
 generalize jO rs y=L at hvi hv la hnl hP hadl
 refine aS (λj F2 τ2=>(∀k,k∈[0,5,49,50,51]->F2.get k=F.get k)/\F2.get 13=.ref z 0/\F2.get 57=v/\F2.get 58=.int .i64 (L.length:Int)/\F2.get 59=.int .i64 (j:Int)/\τ2[z]?=some (O.cells 51 [.bool y.1,.str y.2] true)/\∃D more wm,F2.get 11=wm/\τ2[b]?=some (.map (D.map dV))/\aV eS 51 τ2 wn now/\aV eS 51 τ2 wm more/\(∀c,aR wm=some c->aR wn≠some c)/\(∀c,aR wm=some c->c≠z)/\Ri (jO rs) (a_ rs) (D0.map Prod.fst) (λx=>P x\/x∈L.take j) (D.map Prod.fst) more/\Fi D0 D more k) L.length ?_ ?_ L.length 0 _ _ (by omega) ⟨?_,(fM (by simp +decide only[GS,ag]) ⟨hz1,D,more,wm,(by simp +decide only[GS,g11]),hb1,on1,om1,hne,hmz,ri.congr λx=>by simp,fi⟩)⟩
 ·clear hb1 on1 om1 hne hmz ri fi hz1 on om hb
  rintro j F2 τ2 hj ⟨hF,g13,g57,g58,g59,hz,D,more,wm,g11,hb,on,om,hne,hmz,ri,fi⟩ next
  obtain⟨x,hx⟩:∃x,L[j]?=some x:=⟨_,BY hj⟩
  obtain⟨gi,e1⟩:=kU h hvi hx
  have hlt:=dG hj
  have hadd:=bQ j (by omega)
  have f5:F2.get 5=.mp b:=(hF 5 (by simp)).trans g5
  have hAl:=ri.le hlen
  have hml:=ri.len
  have hym:y ∉ more:=λe=>((ri.new y).1 e).2 hyA
  have hyD:oZ D y=some k:=by rw[fi y,az hym];exact hy0
  have hzb:z≠b:=λe=>by rw[e,hb]at hz;cases hz
  have lk:=λ(Z:Sg)(hσ:Z[b]?=some (.map (D.map dV)))=>BM (Z:=Z) (v:=.mp b) h hl tr (show entriesOf Z (.mp b)=some (D.map dV) by unfold entriesOf;simp only[hσ]) x
  rw[aC]
  have hz2:(τ2++[O.cells 51 [.bool x.1,.str x.2] true])[τ2.length]?=some (O.cells 51 [.bool x.1,.str x.2] true):=aL
  have hzz:(τ2++[O.cells 51 [.bool x.1,.str x.2] true])[z]?=some (O.cells 51 [.bool y.1,.str y.2] true):=aJ hz
  have hb2:(τ2++[O.cells 51 [.bool x.1,.str x.2] true])[b]?=some (.map (D.map dV)):=aJ hb
  have on2:=on.app [O.cells 51 [.bool x.1,.str x.2] true]
  have om2:=om.app [O.cells 51 [.bool x.1,.str x.2] true]
  have hle2:τ2.length<=(τ2++[O.cells 51 [.bool x.1,.str x.2] true]).length:=by rw[ak];omega
  by_cases hxA:x∈D.map Prod.fst
  ·have hxs:(oZ D x).isSome=true:=by
    cases hd:oZ D x with
    |none=>exact absurd hxA (rK.1 hd)
    |some d=>rfl
   have lk:=lk _ hb2
   rw[hxs]at lk
   simp only[KP,Ax.loadAt,Ax.storeAt,↓reduceIte,reduceEqDiff,reduceLT,reduceAdd,h.cF,f5,g57,g58,g59,hlt,hadd,e1,lk,aL,cA]
   refine next _ _ ⟨?_,(fM (by simp +decide only[GS,g13,g57,g58,ag]) ⟨hzz,D,more,wm,(by simp +decide only[GS,g11]),hb2,on2,om2,hne,hmz,ri.old hxA λy=>?_,fi⟩)⟩
   ·intro k hk
    rw[<- hF k hk]
    simp only[IN,ck,fh]at hk
    rcases hk with rfl | rfl | rfl | rfl | rfl <;> simp +decide only[GS]
   ·rw[or_assoc,dI hx]
  ·have hxs:(oZ D x).isSome=false:=by rw[rK.2 hxA];rfl
   have lk:=lk _ hb2
   rw[hxs]at lk
   have lk2:=Pp (Z:=τ2++[O.cells 51 [.bool x.1,.str x.2] true]) (v:=.mp b) h hl tr (show entriesOf _ (.mp b)=some (D.map dV) by unfold entriesOf;simp only[hb2]) hyD
   have hup:=OP hl tr hb2 hxA (k+1)
   have hadk:=bQ k (by omega)
   have hb3:((τ2++[O.cells 51 [.bool x.1,.str x.2] true]).set b (.map ((D++[(x,k+1)]).map dV)))[b]?=some (.map ((D++[(x,k+1)]).map dV)):=bj (AI.1 hb2).1
   have on3:=JC (y:=.map ((D++[(x,k+1)]).map dV)) on2 hb2
   have om3:=JC (y:=.map ((D++[(x,k+1)]).map dV)) om2 hb2
   have hz3:((τ2++[O.cells 51 [.bool x.1,.str x.2] true]).set b (.map ((D++[(x,k+1)]).map dV)))[z]?=some (O.cells 51 [.bool y.1,.str y.2] true):=by rw[IT (ju hzb)];exact hzz
   have hy2b:τ2.length≠b:=λe=>by rw[e,hb2]at hz2;cases hz2
   have hz4:((τ2++[O.cells 51 [.bool x.1,.str x.2] true]).set b (.map ((D++[(x,k+1)]).map dV)))[τ2.length]?=some (O.cells 51 [.bool x.1,.str x.2] true):=by rw[IT (ju hy2b)];exact hz2
   have hle3:τ2.length<=((τ2++[O.cells 51 [.bool x.1,.str x.2] true]).set b (.map ((D++[(x,k+1)]).map dV))).length:=by rw[ec];exact hle2
   have hset:∀{u:Sg},mapUpdate E (τ2++[O.cells 51 [.bool x.1,.str x.2] true]) 128 (.mp b) (.agg [.bool x.1,.str x.2]) (.int .i64 ((k+1:Nat):Int))=some u ↔ (τ2++[O.cells 51 [.bool x.1,.str x.2] true]).set b (.map ((D++[(x,k+1)]).map dV))=u:=by
    intro u;rw[hup,j8]
   generalize hτ3:(τ2++[O.cells 51 [.bool x.1,.str x.2] true]).set b (.map ((D++[(x,k+1)]).map dV))=τ3 at *
   obtain⟨w',τ5,ha5,ow5,Kt,fr5⟩:=B0 (x:=x) (ex:=true) hl om3 (by omega)
   have hzlt:=(AI.1 hz3).1
   simp only[KP,Ax.loadAt,Ax.storeAt,↓reduceIte,reduceEqDiff,reduceLT,reduceLeDiff,reduceAdd,reduceMul,h.dB,h.cF,f5,g11,g13,g57,g58,g59,hlt,hadd,hadk,e1,lk,lk2,hup,hzz,hz4,ha5,aL,cA,lB,aK d21,bB]
   refine next _ _ ⟨?_,(fM (by simp +decide only[GS,g13,g57,g58,ag]) ⟨Kt _ _ (aJ hz3) (λe=>hmz _ e rfl),D++[(x,k+1)],more++[x],w',(by simp +decide only[GS]),Pb (aJ hb3) (om3.app _) Kt,Ya (on3.app _) (λc hc=>hne c hc) Kt,ow5,λc hc=>?_,λc hc=>?_,?_,fi.fresh hxA⟩)⟩
   ·intro k hk
    rw[<- hF k hk]
    simp only[IN,ck,fh]at hk
    rcases hk with rfl | rfl | rfl | rfl | rfl <;> simp +decide only[GS]
   ·rcases fr5 c hc with hc | hc
    ·exact hne c hc
    ·exact λe=>by have:=TD on3 e;omega
   ·rcases fr5 c hc with hc | hc
    ·exact hmz c hc
    ·omega
   ·rw[eu]
    exact ri.fresh hxA (hadl (aa hx)) λy=>by rw[or_assoc,dI hx]
 ·rintro F2 τ2 ⟨hF,g13,g57,g58,g59,hz,D,more,wm,g11,hb,on,om,hne,hmz,ri,fi⟩
  have hlt:=dH (b9 L.length)
  rw[ah (ae _)]at ri
  rw[aC]
  simp only[KP,↓reduceIte,reduceLT,g58,g59,hlt]
  refine hk _ _ wm D more ?_ (by simp +decide only[GS,g11]) hb on om hne (ri.congr hP) fi
  intro k hk
  rw[<- hF k hk]
  simp only[IN,ck,fh]at hk
  rcases hk with rfl | rfl | rfl | rfl | rfl <;> simp +decide only[GS]
 ·intro k hk
  simp only[IN,ck,fh]at hk
  rcases hk with rfl | rfl | rfl | rfl | rfl <;> simp +decide only[GS]
end
end
end Go.Proofs.YtmhchflckonklaaGreatDoor
end
