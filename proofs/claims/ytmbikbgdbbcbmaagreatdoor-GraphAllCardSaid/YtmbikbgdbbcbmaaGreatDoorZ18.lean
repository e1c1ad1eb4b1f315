/- Part 18 of the proof. -/
import Derived.Test.YtmbikbgdbbcbmaaGreatDoorY
import Derived.Test.YtmbikbgdbbcbmaaGreatDoorZ17
import Derived.Test.YtmbikbgdbbcbmaaGreatDoorZ13
import Derived.Test.YtmbikbgdbbcbmaaGreatDoorZ16
import Derived.Test.YtmbikbgdbbcbmaaGreatDoorZ15
set_option maxHeartbeats 8000000
set_option linter.unusedVariables false
set_option maxRecDepth 10000
open Nat (reduceLT reduceEqDiff reduceAdd reduceLeDiff reduceMul)
open List (nodup_nil map_nil)
section
namespace Go.Proofs.YtmbikbgdbbcbmaaGreatDoor
open Go Go.Ax Go.AxS
section
section
variable {E:Env}{Z:Sg}{K:V->Sg->Prop}
def Nx (rs:List aD) (r:aD) (x:bD):Prop:=x∈r.after\/∃f∈r.ins,Mk rs f x
structure FD (rs:List aD):Prop where
 names:∀r∈rs,r.name.length<=40
 WK:∀r∈rs,∀s∈r.after,s.length<=40
 nodup:∀(i j:Nat) (p q:aD),rs[i]?=some p->rs[j]?=some q->p.name=q.name->i=j
 jN:∀f n m,Mk rs f n->Mk rs f m->n=m
theorem Mk.short {rs:List aD}(h:FD rs) {f n:bD}(hm:Mk rs f n):n.length<=40:=by
 obtain⟨r,hr,-,rfl⟩:=hm
 exact h.names r hr
theorem YH (h:bJ E) {a:V}{rs:List aD} (ia:IS bS a rs)(hs:∀x∈rs,Small x)(hsh:FD rs)(hl:rs.length<=1000) {U:Sg}{es0:List (V × V)}{get:bD->Option V}(h0:U[0]?=some (.map es0))(hsm:SM E es0 get)(hmk:MK get (Mk rs)) (F:FT) (g0:F.get 0=a) (g3:F.get 3=.mp 0) :
  R E (cutAt [1,1,1] (aA Tryz.f158).code) [] ⟨74,F⟩ U (mQ E (aA Tryz.f158).results (λv σ1=>match bW σ1 E.ty false v with
   |some v=>∃es,v=.imp false es/\BS (Nx rs) es rs
   |none=>False)):=by
 have la:=cI h ia
 have rest:=λ{τ0 U w p1 p2 p3 p4 l r y mA es rs'} ow hl' kp fr hy hA ha hn hm F g8 g10 g11 st Q hk=>Vv (τ0:=τ0) (U:=U) (w:=w) (p1:=p1) (p2:=p2) (p3:=p3) (p4:=p4) (l:=l) (r:=r) (y:=y) (mA:=mA) (es:=es) (N:=Nx rs) (rs:=rs') h ow hl' kp fr hy hA ha hn hm F g8 g10 g11 (st:=st) (Q:=Q) hk
 simp only[aA,Tryz.f158,KP,↓reduceIte,reduceLT,reduceCtorEq,cutAt,g0,la]
 have hA0:(U++[O.map []])[U.length]?=some (.map []):=aR
 have h00:=aP (x:=O.map []) h0
 have hmA:U.length≠0:=by have:=(AS.1 h0).1;omega
 generalize U++[O.map []]=τ1 at *
 generalize U.length=mA at *
 refine aV (λi F U=>F.get 0=a/\F.get 3=.mp 0/\F.get 8=.mp mA/\F.get 37=a/\F.get 38=.int .i64 (rs.length:Int)/\F.get 39=.int .i64 (i:Int)/\U[0]?=some (.map es0)/\∃es,U[mA]?=some (.map es)/\DX U (Nx rs) es (rs.take i)) rs.length ?_ ?_ rs.length 0 _ _ (by omega) (Bt (by simp +decide only[GS,g0,g3,aj]) ⟨h00,[],hA0,.nil⟩)
 ·rintro i F U hi ⟨g0,g3,g8,g37,g38,g39,h0,es,hA,ha⟩ next
  obtain⟨r,hr⟩:∃y,rs[i]?=some y:=⟨_,BY hi⟩
  have hrm:=af hr
  obtain⟨g,p1,p2,p3,p4,e1,i1,i2,i3,i4⟩:=dK h ia hr
  have hsr:=hs r hrm
  have a1:=hsr.ins
  have a3:=hsr.after
  have o1:=aL i1.bF
  have o2:=aL i2.bF
  have o3:=aL i3.bF
  have o4:=aL i4.bF
  have hlt:=eC hi
  have hadd:=bY i (by omega)
  have li:=bP h i1
  have hnn:∀q∈rs.take i,q.name≠r.name:=λq hq e=>by
   obtain⟨j,hj⟩:=jg.1 hq
   have hji:j<i:=by have:=(AS.1 hj).1;rw[bl]at this;omega
   rw[gq hji]at hj
   have:=hsh.nodup j i q r hj hr e
   omega
  have hb1:=aP (x:=O.cells 46 [.str r.name,p1,p2,p3,p4] true) h0
  have hA1:=aP (x:=O.cells 46 [.str r.name,p1,p2,p3,p4] true) hA
  have ha1:DX (U++[O.cells 46 [.str r.name,p1,p2,p3,p4] true]) (Nx rs) es (rs.take i):=ha.keep hA λc o hc _=>aP hc
  have s1:(U++[O.cells 46 [.str r.name,p1,p2,p3,p4] true])[U.length]?=some (O.cells 46 [.str r.name,p1,p2,p3,p4] true):=aR
  rw[aF]
  simp only[KP,Ax.loadAt,Ax.storeAt,↓reduceIte,reduceEqDiff,reduceLT,reduceAdd,reduceCtorEq,h.aY,h.bC,g37,g38,g39,hlt,e1,o1,o2,o3,o4,aR,dR]
  generalize U++[O.cells 46 [.str r.name,p1,p2,p3,p4] true]=τ1 at *
  generalize U.length=y at *
  refine aO (tN h i3 (by omega)) ?_
  rintro w0 τ2 ⟨ow0,kp0,fr0⟩
  have s2:=kp0 _ _ s1
  simp only[KP,Ax.loadAt,↓reduceIte,reduceEqDiff,reduceLT,reduceCtorEq,h.aY,h.bC,s2,li]
  refine aV (λj F U=>F.get 0=a/\F.get 3=.mp 0/\F.get 8=.mp mA/\F.get 37=a/\F.get 38=.int .i64 (rs.length:Int)/\F.get 39=.int .i64 (i:Int)/\F.get 10=.ref y 0/\F.get 47=p1/\F.get 48=.int .i64 (r.ins.length:Int)/\F.get 49=.int .i64 (j:Int)/\Kp τ1 U/\∃w cur,F.get 11=w/\bH aM 9 U w cur/\(∀b,aZ w=some b->τ1.length<=b)/\cur.length<=r.after.length+j/\(∀x∈cur,x.length<=40)/\∀x,x∈cur ↔ x∈r.after\/∃f∈r.ins.take j,Mk rs f x) r.ins.length ?_ ?_ r.ins.length 0 _ _ (by omega) (Ko (by simp +decide only[GS,g0,g3,g8,g37,g38,g39,aj]) ⟨kp0,w0,r.after,(by simp +decide only[GS]),ow0,fr0,ae _,hsh.WK r hrm,λx=>by simp⟩)
  ·rintro j F U hj ⟨g0,g3,g8,g37,g38,g39,g10,g47,g48,g49,kp,w,cur,g11,ow,fr,hcl,hc40,hmem⟩ next2
   obtain⟨s,hsj⟩:∃y,r.ins[j]?=some y:=⟨_,BY hj⟩
   obtain⟨g',e2⟩:=gI h i1 hsj
   have hlt2:=eC hj
   have hadd2:=bY j (by omega)
   have hb2:=kp _ _ hb1
   have hlk:=LA (Z:=U) (x:=.mp 0) h (by unfold entriesOf;simp only[hb2]) hsm s
   have hex:∀x,(∃f∈r.ins.take (j+1),Mk rs f x) ↔ (∃f∈r.ins.take j,Mk rs f x)\/Mk rs s x:=λx=>by
    constructor
    ·rintro⟨f,hf,hm⟩
     rcases (gJ hsj f).1 hf with hf | rfl
     ·exact .inl ⟨f,hf,hm⟩
     ·exact .inr hm
    ·rintro (⟨f,hf,hm⟩ | hm)
     ·exact⟨f,(gJ hsj f).2 (.inl hf),hm⟩
     ·exact⟨s,(gJ hsj s).2 (.inr rfl),hm⟩
   rw[aF]
   rcases hmk s with⟨hg,hno⟩ | ⟨n,hP,hg⟩
   ·rw[hg]at hlk
    simp only[KP,Ax.loadAt,↓reduceIte,reduceEqDiff,reduceLT,h.cM,g3,g47,g48,g49,hlt2,e2,hlk,hadd2]
    refine next2 _ _ (Ko (by simp +decide only[GS,g0,g3,g8,g37,g38,g39,g10,g47,g48,aj]) ⟨kp,w,cur,(by simp +decide only[GS,g11]),ow,fr,by omega,hc40,λx=>?_⟩)
    rw[hmem,hex]
    exact⟨λh=>h.elim .inl λg=>.inr (.inl g),λh=>h.elim .inl λg=>.inr (g.elim id λg=>absurd g (hno x))⟩
   ·rw[hg]at hlk
    obtain⟨w',τ',hap,ow',sp',hln',fr'⟩:=iB (ats:=#[24,24]) (m:=[n]) (new:=[[.str n]]) h.aY rfl h.cM rfl (by decide) (iD h) rfl (ow.app [.cells 9 [.str n] true]) (kO rfl) (.one rfl) (cZ (b:=1000) (by decide) (by simp only[aa,bf];omega))
    simp only[KP,Ax.loadAt,↓reduceIte,reduceEqDiff,reduceLT,reduceLeDiff,reduceMul,h.cM,h.aY,g3,g11,g47,g48,g49,hlt2,e2,hlk,lB,hap,hadd2]
    refine next2 _ _ (Ko (by simp +decide only[GS,g0,g3,g8,g37,g38,g39,g10,g47,g48,aj]) ⟨λc o hc=>sp' c o (aP (kp c o hc)) λe=>absurd (AS.1 hc).1 (by have:=fr c e;omega),w',cur++[n],(by simp +decide only[GS]),ow',λb hb=>?_,by rw[an,jf];omega,λx hx=>?_,λx=>?_⟩)
    ·rcases fr' b hb with g | g
     ·exact fr b g
     ·have h1:=(AS.1 (kp _ _ s1)).1
      have h2:τ1.length<=U.length:=by
       refine oo λhlt=>?_
       obtain⟨o,ho⟩:∃o,τ1[U.length]?=some o:=⟨_,BY hlt⟩
       exact absurd (AS.1 (kp _ _ ho)).1 (bg _)
      simp only[an,aa,bf]at g
      omega
    ·rcases bw.1 hx with hx | hx
     ·exact hc40 x hx
     ·rw[dc.1 hx];exact hP.short hsh
    ·rw[bw,hmem,hex,dc]
     constructor
     ·rintro ((h1 | h1) | rfl)
      ·exact .inl h1
      ·exact .inr (.inl h1)
      ·exact .inr (.inr hP)
     ·rintro (h1 | h1 | h1)
      ·exact .inl (.inl h1)
      ·exact .inl (.inr h1)
      ·exact .inr (hsh.jN s x n h1 hP)
  ·rintro F U ⟨g0,g3,g8,g37,g38,g39,g10,g47,g48,g49,kp,w,cur,g11,ow,fr,hcl,hc40,hmem⟩
   rw[ak (ae _)]at hmem
   have hlt2:=eG (bg r.ins.length)
   obtain⟨τ3,cur',hS,hperm,ow3,Jd,hln3⟩:=E8 ow (by omega) (λx hx=>by have:=hc40 x hx;omega)
   have ks:=cH (λK=>show aC E 79 [w] U K=K (.gB []) τ3 by rw[sD h.Ql,hS];rfl)
   have kp3:Kp τ1 τ3:=λc o hc=>Jd c o (kp c o hc) λe=>absurd (AS.1 hc).1 (by have:=fr c e;omega)
   rw[aF]
   simp only[KP,↓reduceIte,reduceEqDiff,reduceLT,g11,g48,g49,hlt2,ks]
   refine rest (rs':=rs.take i) ow3 (by rw[hperm.length_eq];omega) kp3 fr s1 hA1 ha1 hnn (λx=>?_) _ ?_ ?_ ?_ _ _ ?_
   ·rw[hperm.mem_iff,hmem];exact po
   ·exact (by simp +decide only[GS,g8])
   ·exact (by simp +decide only[GS,g10])
   ·exact (by simp +decide only[GS,g11])
   intro F' τ' es' hF hA' ha' hk'
   have q0:F'.get 0=a:=(hF 0 (by simp)).trans (by simp +decide only[GS,g0])
   have q3:F'.get 3=.mp 0:=(hF 3 (by simp)).trans (by simp +decide only[GS,g3])
   have q8:F'.get 8=.mp mA:=(hF 8 (by simp)).trans (by simp +decide only[GS,g8])
   have q37:F'.get 37=a:=(hF 37 (by simp)).trans (by simp +decide only[GS,g37])
   have q38:F'.get 38=.int .i64 (rs.length:Int):=(hF 38 (by simp)).trans (by simp +decide only[GS,g38])
   have q39:F'.get 39=.int .i64 (i:Int):=(hF 39 (by simp)).trans (by simp +decide only[GS,g39])
   simp only[KP,↓reduceIte,reduceLT,q39,hadd]
   refine next _ _ (Bt (by simp +decide only[GS,q0,q3,q8,q37,q38,aj]) ⟨hk' 0 _ hb1 (jo hmA),es',hA',?_⟩)
   rw[dh,hr]
   exact ha'
 ·rintro F U ⟨g0,g3,g8,g37,g38,g39,h0,es,hA,ha⟩
  rw[ak (ae _)]at ha
  obtain⟨es',e1,a1⟩:=OZ h hA ha
  have hlt:=eG (bg rs.length)
  rw[aF]
  simp only[KP,↓reduceIte,reduceEqDiff,reduceLT,g8,g38,g39,hlt,e1]
  exact⟨es',rfl,a1⟩
theorem TM (h:bJ E) {a:V}{rs:List aD}(ha:LS bS 46 Z a rs)(hs:∀x∈rs,Small x)(hsh:FD rs)(hl:rs.length<=1000):aC E 158 [a] Z λv σ'=>σ'=Z/\∃es,v=.imp false es/\BS (Nx rs) es rs:=by
 obtain⟨a',ea,ia⟩:=dQ h ha
 rw[aH h.Z1 h.XD h.aaN h.Y8 (args':=[a']) (by simp only[aU,ea]),aX (by kernel_rfl)]
 have key:=λU es0 get h0 hsm hmk F g0 g3=>YH (U:=U) (es0:=es0) (get:=get) h ia hs hsh hl h0 hsm hmk F g0 g3
 have k2:=λF g0 g3 hk=>YI (K:=λv σ1=>match bW σ1 E.ty false v with
   |some v=>∃es,v=.imp false es/\BS (Nx rs) es rs
   |none=>False) h ia hs (by omega) F g0 g3 hk
 rw[show (aA Tryz.f158).code=.seq (cutAt [0] (aA Tryz.f158).code) (.seq (cutAt [1,0] (aA Tryz.f158).code) (cutAt [1,1] (aA Tryz.f158).code)) from rfl]
 generalize cutAt [1,1] (aA Tryz.f158).code=C at k2 ⊢
 simp only[aA,Tryz.f158,KP,↓reduceIte,reduceLT,cutAt]
 refine k2 _ ?_ ?_ λF' U es get g0 g3 hb hsm hmk=>key U es get hb hsm hmk F' g0 g3
 ·exact (by simp +decide only[GS])
 ·exact (by simp +decide only[GS])
end
end
section
section
variable {E:Env}{Z:Sg}{K:V->Sg->Prop}
theorem BS.back {N:aD->bD->Prop}:∀{es:List (V × V)}{rs:List aD},BS N es rs->n_ es=true/\es.map ks=rs.map aD.name/\es.length=rs.length
 |_,_,.nil=>⟨rfl,rfl,rfl⟩
 |(a,v)::es,r::rs,.cons h t=>by
  obtain⟨h1,l,h2,h3,-⟩:=h
  obtain⟨i1,i2,i3⟩:=BS.back (N:=N) t
  dsimp only at h1 h2
  subst h1
  refine⟨?_,?_,by rw[aa,aa,i3]⟩
  ·have hr:∀l:List bD,vU (l.map λs=>[V.str s])=true:=λl=>by
    induction l with
    |nil=>rfl
    |cons s l ih=>rw[bj,vU];exact ih
   rcases h2 with⟨rfl,-⟩ | ⟨full,rfl⟩
   ·rw[n_];exact i1
   ·rw[n_,hr,az,nr h3];exact i1
  ·rw[bj,bj,i2];rfl
theorem Ba:∀l:List bD,nF (l.map λs=>[V.str s])=l
 | []=>rfl
 |s::l=>by rw[bj,nF,Ba l]
theorem Ur.list {v:V}{l:List bD}(h:Ur v l):iT v=l:=by
 rcases h with⟨rfl,rfl⟩ | ⟨full,rfl⟩
 ·rfl
 ·exact Ba l
theorem zF:∀{es:List (V × V)},jB es->(es.map ks).Nodup->gX es=true
 | [],_,_=>rfl
 |e::es,ha,hn=>by
  obtain⟨k,hk⟩:=ha _ (IN ..)
  obtain⟨a,v⟩:=e
  dsimp only at hk
  subst hk
  rw[bj,dm]at hn
  have hh:∀{l:List (V × V)},jB l->k ∉ l.map ks->gX.hasKey k l=false:=by
   intro l
   induction l with
   |nil=>intro _ _;rfl
   |cons e l ih=>
    intro ha hk
    obtain⟨q,hq⟩:=ha _ (IN ..)
    obtain⟨b,u⟩:=e
    dsimp only at hq
    subst hq
    rw[bj,By,qg]at hk
    rw[gX.hasKey,show Ax.seq q k=false from kJ.2 (λe=>hk.1 e.symm)]
    exact ih (λe he=>ha e (No _ he)) hk.2
  rw[gX,hh (λe he=>ha e (No _ he)) hn.1]
  exact zF (λe he=>ha e (No _ he)) hn.2
structure NM (rs:List aD) (es:List (V × V)):Prop where
 ok:n_ es=true
 keys:es.map ks=rs.map aD.name
 nodup:(es.map ks).Nodup
 nd:gX es=true
 len:es.length=rs.length
 next:∀r∈rs,∀x,x∈cE es r.name ↔ Nx rs r x
theorem BS.mem {N:aD->bD->Prop}:∀{es:List (V × V)}{rs:List aD},BS N es rs->∀r∈rs,∃v l,(V.str r.name,v)∈es/\Ur v l/\∀x,x∈l ↔ N r x
 |_,_,.nil,r,hr=>by cases hr
 |(a,v)::es,q::rs,.cons h t,r,hr=>by
  rcases By.1 hr with rfl | hr
  ·obtain⟨h1,l,h2,h3,h4⟩:=h
   dsimp only at h1
   subst h1
   exact⟨v,l,IN ..,h2,h4⟩
  ·obtain⟨v',l,h1,h2,h3⟩:=BS.mem (N:=N) t r hr
   exact⟨v',l,No _ h1,h2,h3⟩
theorem Bd:∀{rs:List aD},(∀(i j:Nat) (p q:aD),rs[i]?=some p->rs[j]?=some q->p.name=q.name->i=j)->(rs.map aD.name).Nodup
 | [],_=>List.Pairwise.nil
 |r::rs,h=>by
  rw[bj,dm]
  refine⟨λhm=>?_,Bd λi j p q hp hq e=>by
   have:=h (i+1) (j+1) p q hp hq e
   omega⟩
  obtain⟨q,hq,e⟩:=cg.1 hm
  obtain⟨j,hj⟩:=jg.1 hq
  have:=h 0 (j+1) r q rfl hj e.symm
  omega
theorem YG {rs:List aD}{es:List (V × V)}(hsh:FD rs)(h:BS (Nx rs) es rs):NM rs es:=by
 obtain⟨h1,h2,h3⟩:=h.back
 have hn:(es.map ks).Nodup:=by rw[h2];exact Bd hsh.nodup
 have hb:=yI h1
 refine⟨h1,h2,hn,zF (λe he=>(hb e he).1) hn,h3,λr hr x=>?_⟩
 obtain⟨v,l,hm,hv,hx⟩:=h.mem r hr
 rw[xZ hb hn hm,hv.list]
 exact hx x
theorem Bv {L:List (List (List Nat))}:∀{l:List (List Nat)},iU L l=none ↔ ∀a∈l,gH a L=none
 | []=>⟨λ_ a h=>(by cases h),λ_=>rfl⟩
 |a::l=>by
  rw[iU]
  have ih:=Bv (L:=L) (l:=l)
  cases hd:gH a L with
  |none=>
   dsimp only
   rw[ih]
   exact⟨λh x hx=>(By.1 hx).elim (λe=>by rw[e];exact hd) (h x),λh x hx=>h x (No _ hx)⟩
  |some d=>
   refine⟨λh=>?_,λh=>?_⟩
   ·cases hb:iU L l with
    |none=>rw[hb]at h;cases h
    |some e=>
     rw[hb]at h
     dsimp only at h
     split at h <;> cases h
   ·have:=h a (IN ..)
    rw[hd]at this;cases this
theorem EJ {es:List (V × V)}(hb:gO es) {f:List Nat}:∀(k:Nat) (x:List Nat),Ei es f k x->(∀j,j<k->¬ Ei es f j x)->∃ys:List (List Nat),ys.length=k/\ys.Nodup/\(∀y∈ys,y∈es.map ks)/\∀y∈ys,∃j,1<=j/\j<=k/\Ei es f j y/\∀i,i<j->¬ Ei es f i y
 |0,x,_,_=>⟨[],rfl,List.Pairwise.nil,λ_ h=>(by cases h),λ_ h=>(by cases h)⟩
 |k+1,x,.succ (nx:=nx) hx hr,hm=>by
  have hmin:∀j,j<k->¬ Ei es f j nx:=λj hj h=>hm (j+1) (by omega) (.succ hx h)
  obtain⟨ys,h1,h2,h3,h4⟩:=EJ hb k nx hr hmin
  refine⟨x::ys,by rw[aa,h1],dm.2 ⟨λhxy=>?_,h2⟩,λy hy=>?_,λy hy=>?_⟩
  ·obtain⟨j,j1,j2,j3,j4⟩:=h4 x hxy
   exact hm j (by omega) j3
  ·rcases By.1 hy with rfl | hy
   ·obtain⟨v,hv,-⟩:=CS hb hx
    exact cg.2 ⟨_,hv,rfl⟩
   ·exact h3 y hy
  ·rcases By.1 hy with rfl | hy
   ·exact⟨k+1,by omega,ae _,.succ hx hr,hm⟩
   ·obtain⟨j,j1,j2,j3⟩:=h4 y hy
    exact⟨j,j1,by omega,j3⟩
theorem Pn {es:List (V × V)}(hb:gO es)(hn:(es.map ks).Nodup) {f x:List Nat}{k:Nat}(h:Ei es f k x):∃d,t_ es f x=some d:=by
 have:∃d,Ei es f d x/\∀j,j<d->¬ Ei es f j x:=by
  induction k using Nat.strongRecOn with
  |_ k ih=>
   by_cases hex:∃j,j<k/\Ei es f j x
   ·obtain⟨j,hj,hr⟩:=hex
    exact ih j hj hr
   ·exact⟨k,h,λj hj hr=>hex ⟨j,hj,hr⟩⟩
 obtain⟨d,hr,hm⟩:=this
 obtain⟨ys,h1,h2,h3,-⟩:=EJ hb d x hr hm
 have:=Av h2 h3
 rw[h1,az]at this
 exact⟨d,(lJ hb hn).2 ⟨this,hr,hm⟩⟩
theorem IQ {rs:List aD}{es:List (V × V)}(h:NM rs es) (f:bD):iU (dY es es.length [f]) (cE es f)≠none ↔ ∃n,Ei es f (n+1) f:=by
 have hb:=yI h.ok
 constructor
 ·intro hne
  have hne:∃b,iU (dY es es.length [f]) (cE es f)=some b:=by
   cases he:iU (dY es es.length [f]) (cE es f) with
   |none=>exact absurd he hne
   |some b=>exact⟨b,rfl⟩
  obtain⟨b,hbo⟩:=hne
  obtain⟨a,ha,hd⟩:=Aa _ _ _ hbo
  exact⟨b,.succ ha ((lJ hb h.nodup).1 hd).2.1⟩
 ·rintro⟨n,hr⟩ hno
  cases hr with
  |succ hx hr=>
   obtain⟨d,hd⟩:=Pn hb h.nodup hr
   have:=Bv.1 hno _ hx
   rw[show gH _ (dY es es.length [f])=some d from hd]at this
   cases this
end
end
section
section
variable {E:Env}{Z:Sg}{K:V->Sg->Prop}
theorem fK {α:Type}{p:α->Bool}:∀{l:List α}{k:Nat},bN p l=some k->∃x,l[k]?=some x/\p x=true
 | [],_,h=>by cases h
 |x::l,k,h=>by
  rw[bN]at h
  by_cases hx:p x=true
  ·rw[b8 hx]at h;cases h;exact⟨x,rfl,hx⟩
  ·rw[ay hx]at h
   cases hf:bN p l with
   |none=>rw[hf]at h;cases h
   |some j=>
    rw[hf]at h
    cases h
    obtain⟨y,h1,h2⟩:=fK hf
    exact⟨y,h1,h2⟩
structure Good (rs:List aD):Prop where
 short:FD rs
 known:∀r∈rs,∀n∈r.after,iQ rs n=true
 len:rs.length<=40
 rule:∀r∈rs,bE r=0
theorem Lt {s:bD}(h:bL s=true):s.length<=40:=by
 unfold bL at h
 simp only[ah,IT]at h
 exact h.1.2
theorem wJ {rs:List aD}(h:gU rs=0):Good rs:=by
 unfold gU at h
 cases hf:rs.find? (λr=>decide (bE r≠0)) with
 |some r=>
  rw[hf]at h
  have:=List.find?_some hf
  rw[IT]at this
  exact absurd h this
 |none=>
  rw[hf]at h
  dsimp only at h
  have hr:∀r∈rs,bE r=0:=λr hr=>by
   have:=jx.1 hf r hr
   simpa using this
  by_cases h40:40<rs.length
  ·rw[b8 h40]at h;cases h
  rw[ay h40]at h
  cases hc:tK rs with
  |true=>rw[b8 hc]at h;cases h
  |false=>
  rw[ay (by rw[hc];simp)]at h
  cases hst:gY rs with
  |true=>rw[b8 hst]at h;cases h
  |false=>
  have hcl:∀i r,rs[i]?=some r->iQ (rs.take i) r.name=false/\r.outs.any (wY (rs.take i))=false:=λi r hi=>by
   have:=mq.1 hc i (js.2 (AS.1 hi).1)
   rw[DK hi]at this
   simpa using this
  have hform:∀r∈rs,bL r.name=true/\r.after.all bL=true:=λr hm=>by
   have:=hr r hm
   unfold bE at this
   by_cases hfo:kW r=false
   ·rw[b8 hfo]at this;cases this
   ·have hfo:kW r=true:=by simpa using hfo
    unfold kW at hfo
    simp only[ah]at hfo
    exact⟨hfo.1.1.1.1.1,hfo.1.2⟩
  have before:∀(i j:Nat) (p:aD),j<i->rs[j]?=some p->p∈rs.take i:=λi j p hji hj=>af (by rw[gq hji];exact hj)
  refine⟨⟨λr hm=>Lt (hform r hm).1,λr hm s hs=>Lt (dw.1 (hform r hm).2 s hs),?_,?_⟩,λr hm n hn=>?_,by omega,hr⟩
  ·have key:∀(i j:Nat) (p q:aD),j<i->rs[i]?=some p->rs[j]?=some q->p.name≠q.name:=λi j p q hji hp hq e=>by
    have:=(hcl i p hp).1
    rw[show iQ (rs.take i) p.name=true from ek.2 ⟨q,before i j q hji hq,AT e.symm⟩]at this
    cases this
   intro i j p q hp hq e
   rcases jq i j with g | g | g
   ·exact absurd e.symm (key j i q p g hq hp)
   ·exact g
   ·exact absurd e (key i j p q g hp hq)
  ·have key:∀(i j:Nat) (p q:aD) (f:bD),j<i->rs[i]?=some p->rs[j]?=some q->f∈p.outs->f∈q.outs->False:=λi j p q f hji hp hq h1 h2=>by
    have:=(hcl i p hp).2
    rw[show p.outs.any (wY (rs.take i))=true from ek.2 ⟨f,h1,ek.2 ⟨q,before i j q hji hq,AT h2⟩⟩]at this
    cases this
   rintro f n m ⟨p,hp,h1,rfl⟩ ⟨q,hq,h2,rfl⟩
   obtain⟨i,hi⟩:=jg.1 hp
   obtain⟨j,hj⟩:=jg.1 hq
   rcases jq i j with g | g | g
   ·exact (key j i q p f g hj hi h2 h1).elim
   ·subst g
    rw[hi]at hj
    cases hj
    rfl
   ·exact (key i j p q f g hi hj h1 h2).elim
  ·have h1:=mq.1 hst r hm
   have h2:(r.after.any λn=>decide (fF rs n=none))=false:=by simpa using h1
   have h3:=mq.1 h2 n hn
   rw[uL]at h3
   simpa using h3
theorem CT {rs:List aD}{es:List (V × V)} (g:Good rs)(h:NM rs es) {i:Nat}{r:aD}(hi:rs[i]?=some r) (x:bD):x∈cE es r.name ↔ ∃k q,jU rs false i k=true/\rs[k]?=some q/\q.name=x:=by
 have hm:=af hi
 rw[h.next r hm]
 have hd:∀k,jU rs false i k=true ↔ (∃f∈r.ins,c_ rs f=some k)\/∃n∈r.after,fF rs n=some k:=λk=>by
  unfold jU zI
  rw[hi]
  simp only[mh,iz,ez,ek,IT]
 constructor
 ·rintro (hx | ⟨f,hf,hmk⟩)
  ·have hk:=g.known r hm x hx
   unfold iQ at hk
   rw[<- cG]at hk
   obtain⟨k,hk⟩:=jc.1 hk
   obtain⟨q,h1,h2⟩:=fK hk
   exact⟨k,q,(hd k).2 (.inr ⟨x,hx,hk⟩),h1,dx h2⟩
  ·obtain⟨p,hp,hfp,rfl⟩:=hmk
   obtain⟨k,hk⟩:=iY (p:=λq:aD=>decide (f∈q.outs)) hp (AT hfp)
   obtain⟨q,h1,h2⟩:=fK hk
   exact⟨k,q,(hd k).2 (.inl ⟨f,hf,hk⟩),h1,g.short.jN f _ _ ⟨q,af h1,dx h2,rfl⟩ ⟨p,hp,hfp,rfl⟩⟩
 ·rintro⟨k,q,hk,hq,rfl⟩
  rcases (hd k).1 hk with⟨f,hf,h1⟩ | ⟨n,hn,h1⟩
  ·obtain⟨q',h2,h3⟩:=fK h1
   rw[hq]at h2
   cases h2
   exact .inr ⟨f,hf,q,af hq,dx h3,rfl⟩
  ·obtain⟨q',h2,h3⟩:=fK h1
   rw[hq]at h2
   cases h2
   rw[dx h3]
   exact .inl hn
theorem RG {rs:List aD}{es:List (V × V)} (g:Good rs)(h:NM rs es) {i k:Nat}(hw:AxS.Way (jU rs false) i k):∀{p q:aD},rs[i]?=some p->rs[k]?=some q->∃n,Ei es q.name (n+1) p.name:=by
 induction hw with
 |one hm=>
  intro p q hp hq
  exact⟨0,.succ ((CT g h hp _).2 ⟨_,q,hm,hq,rfl⟩) .zero⟩
 | @cons i j k hm _ ih=>
  intro p q hp hq
  have hj:∃s,rs[j]?=some s:=by
   unfold jU at hm
   rw[hp]at hm
   unfold zI at hm
   simp only[ez,ah,ek,IT]at hm
   rcases hm with⟨f,-,h1⟩ | ⟨-,n,-,h1⟩
   ·obtain⟨s,h2,-⟩:=fK h1;exact⟨s,h2⟩
   ·obtain⟨s,h2,-⟩:=fK h1;exact⟨s,h2⟩
  obtain⟨s,hs⟩:=hj
  obtain⟨n,hr⟩:=ih hs hq
  exact⟨n+1,.succ ((CT g h hp _).2 ⟨j,s,hm,hs,rfl⟩) hr⟩
theorem Pk {es:List (V × V)}{f x:List Nat}(h:Ei es f 0 x):x=f:=by cases h;rfl
theorem Ln {rs:List aD}{es:List (V × V)} (g:Good rs)(h:NM rs es) {k:Nat}{q:aD}(hq:rs[k]?=some q):∀(n i:Nat) (p:aD),rs[i]?=some p->Ei es q.name (n+1) p.name->AxS.Way (jU rs false) i k
 |n,i,p,hp,.succ (nx:=nx) hx hr=>by
  obtain⟨j,s,hm,hs,rfl⟩:=(CT g h hp _).1 hx
  cases n with
  |zero=>
   have e:s.name=q.name:=Pk hr
   have:=g.short.nodup j k s q hs hq e
   subst this
   exact .one hm
  |succ n=>exact .cons hm (Ln g h hq n j s hs hr)
theorem HC {rs:List aD}{es:List (V × V)} (g:Good rs)(h:NM rs es):Ring rs ↔ ∃r∈rs,iU (dY es es.length [r.name]) (cE es r.name)≠none:=by
 constructor
 ·rintro⟨i,hi,hw⟩
  have hr:rs[i]?=some rs[i]:=BY hi
  obtain⟨n,hn⟩:=RG g h hw hr hr
  exact⟨_,af hr,(IQ h _).2 ⟨n,hn⟩⟩
 ·rintro⟨r,hr,hb⟩
  obtain⟨i,hi⟩:=jg.1 hr
  obtain⟨n,hn⟩:=(IQ h _).1 hb
  exact⟨i,(AS.1 hi).1,Ln g h hi n i r hi hn⟩
end
end
section
section
variable {E:Env}{Z:Sg}{K:V->Sg->Prop}
theorem NR {rs:List aD}{es:List (V × V)}(h:NM rs es)(hl:rs.length<=1000) (g:Bool) (f:bD):nR [.imp g es,.str f]=some (oA es f):=by
 show (match n_ es,gX es,Nat.ble es.length 1000000 with
  |true,true,true=>some (oA es f)
  |_,_,_=>none)=_
 rw[h.ok,h.nd,nr (by rw[h.len];omega)]
theorem DP (es:List (V × V)) (f:bD):(iU (dY es es.length [f]) (cE es f)=none/\oA es f=.aB)\/(iU (dY es es.length [f]) (cE es f)≠none/\∃l full,oA es f=.bT false ((f::l).map λs=>[V.str s]) full):=by
 unfold oA
 dsimp only
 cases iU (dY es es.length [f]) (cE es f) with
 |none=>exact .inl ⟨rfl,rfl⟩
 |some b=>exact .inr ⟨by simp,_,_,rfl⟩
theorem VQ (h:bJ E) {rs:List aD}{es:List (V × V)}(hn:NM rs es)(hl:rs.length<=1000) (g:Bool) (f:bD):aC E 159 [.imp g es,.str f] Z K=K (oA es f) Z:=by
 have h5:bW [] E.ty false (oA es f)=some (oA es f):=by
  rcases DP es f with⟨-,e⟩ | ⟨-,l,full,e⟩
  ·rw[e];rfl
  ·rw[e];exact Ex rfl rfl
 have hi:Ax.bF (.imp g es)=true:=rfl
 exact qC (args':=[.imp g es,.str f]) h.Z0 h.XC (by simp only[aU,dD,cU hi (cF hi)]) (NR hn hl g f) h5
theorem abN (h:bJ E) {rs:List aD}{es:List (V × V)}{g:Bool}(hg:Good rs)(hn:NM rs es) {U:Sg}{w:V} (ow:bH aM 9 U w (rs.map aD.name)) (F:FT) (g5:F.get 5=.imp g es) (g6:F.get 6=w) :
  R E (cutAt [1,1,1,1,1] (aA Tryz.f120).code) [] ⟨48,F⟩ U (mQ E (aA Tryz.f120).results (λv σ1=>match bW σ1 E.ty false v with
   |some v=>(v=.aB/\¬ Ring rs)\/∃x l,iO aM v (x::l)/\Ring rs
   |none=>False)):=by
 have h40:=hg.len
 have hll:(rs.map aD.name).length<=40:=by rw[az];omega
 obtain⟨τ3,ns,hS,hperm,ow3,-,-⟩:=E8 ow (by omega) (λx hx=>by
  obtain⟨r,hr,rfl⟩:=cg.1 hx
  have:=hg.short.names r hr
  omega)
 have ks:=cH (λK=>show aC E 79 [w] U K=K (.gB []) τ3 by rw[sD h.Ql,hS];rfl)
 have hnl:ns.length<=40:=by rw[hperm.length_eq];omega
 have lw:=pM h.aY rfl ow3.ls
 simp only[aA,Tryz.f120,KP,↓reduceIte,reduceEqDiff,reduceLT,cutAt,g6,ks,lw]
 refine aV (λi F U=>U=τ3/\F.get 5=.imp g es/\F.get 35=w/\F.get 36=.int .i64 (ns.length:Int)/\F.get 37=.int .i64 (i:Int)/\∀(j:Nat) (x:bD),j<i->ns[j]?=some x->iU (dY es es.length [x]) (cE es x)=none) ns.length ?_ ?_ ns.length 0 _ _ (by omega) ⟨rfl,(fZ (by simp +decide only[GS,g5,aj]) (λj x hj=>by omega))⟩
 ·rintro i F U hi ⟨rfl,g5,g35,g36,g37,hp⟩ next
  obtain⟨x,hx⟩:∃y,ns[i]?=some y:=⟨_,BY hi⟩
  obtain⟨p,r,e4,e5,-,e6,-⟩:=Fv (Z:=U) h.aY rfl h.cM rfl ow3.ls hx
  have e6:=e6 rfl (by decide)
  rw[show r=[.str x] from e5]at e6
  have e6:loadAt E U 9 p=some (.str x):=e6
  have hlt:=eC hi
  have hadd:=bY i (by omega)
  have kb:=λ(Z:Sg)=>cH (λK=>VQ (Z:=Z) (K:=K) h hn (by omega) g x)
  have hxm:x∈rs.map aD.name:=hperm.mem_iff.1 (af hx)
  obtain⟨q,hq,hqx⟩:=cg.1 hxm
  rw[aF]
  rcases DP es x with⟨hb,e⟩ | ⟨hb,l,full,e⟩
  ·simp only[KP,↓reduceIte,reduceEqDiff,reduceLT,g5,g35,g36,g37,hlt,e4,e6,kb,e,DB h,hadd]
   refine next _ _ ⟨rfl,(fZ (by simp +decide only[GS,g5,g35,g36,aj]) (λj y hj hy=>?_))⟩
   rcases cj j i with gg | gg
   ·exact hp j y gg hy
   ·obtain rfl:j=i:=by omega
    rw[hx]at hy;cases hy;exact hb
  ·have hsn:∀Z,bW Z E.ty false (.bT false ((x::l).map λs=>[V.str s]) full)=some (.bT false ((x::l).map λs=>[V.str s]) full):=λZ=>Ex rfl rfl
   simp only[KP,↓reduceIte,reduceEqDiff,reduceLT,reduceCtorEq,g5,g35,g36,g37,hlt,e4,e6,kb,e,DA h,hsn]
   exact .inr ⟨x,l,.inr ⟨_,full,rfl,AE _⟩,(HC hg hn).2 ⟨q,hq,by rw[hqx];exact hb⟩⟩
 ·rintro F U ⟨rfl,g5,g35,g36,g37,hp⟩
  have hlt:=eG (bg ns.length)
  rw[aF]
  simp only[KP,↓reduceIte,reduceLT,g36,g37,hlt]
  refine .inl ⟨rfl,λhr=>?_⟩
  obtain⟨r,hr,hb⟩:=(HC hg hn).1 hr
  obtain⟨j,hj⟩:=jg.1 (hperm.mem_iff.2 (cg.2 ⟨r,hr,rfl⟩))
  exact hb (hp j r.name (AS.1 hj).1 hj)
theorem Rb (h:bJ E) {a:V}{rs:List aD}(ha:LS bS 46 Z a rs)(hs:∀x∈rs,Small x)(hp:gU rs=0):aC E 120 [a] Z λv σ'=>σ'=Z/\((v=.aB/\¬ Ring rs)\/∃x l,iO aM v (x::l)/\Ring rs):=by
 obtain⟨a',ea,ia⟩:=dQ h ha
 have hg:=wJ hp
 have h40:=hg.len
 rw[aH h.aaa h.XN h.aaX h.Zh (args':=[a']) (by simp only[aU,ea]),aX (by kernel_rfl)]
 have la:=cI h ia
 have key:=λes g hn U w ow F g5 g6=>abN (E:=E) (rs:=rs) (es:=es) (g:=g) (U:=U) (w:=w) h hg hn ow F g5 g6
 rw[show (aA Tryz.f120).code=.seq (cutAt [0] (aA Tryz.f120).code) (.seq (cutAt [1,0] (aA Tryz.f120).code) (.seq (cutAt [1,1,0] (aA Tryz.f120).code) (.seq (cutAt [1,1,1,0] (aA Tryz.f120).code) (.seq (cutAt [1,1,1,1,0] (aA Tryz.f120).code) (cutAt [1,1,1,1,1] (aA Tryz.f120).code))))) from rfl]
 generalize cutAt [1,1,1,1,1] (aA Tryz.f120).code=C at key ⊢
 simp only[aA,Tryz.f120,KP,↓reduceIte,reduceLT,reduceCtorEq,cutAt]
 refine aO (Mi h (ia.ls _ 46) hs (by omega)) ?_
 rintro v σ' ⟨rfl,nm,rfl⟩
 rw[hp]
 simp only[KP,↓reduceIte,reduceEqDiff,reduceLT,reduceCtorEq]
 refine aO (TM h (ia.ls _ 46) hs hg.short (by omega)) ?_
 rintro v σ' ⟨rfl,es,rfl,hv⟩
 have hn:=YG hg.short hv
 simp only[KP,↓reduceIte,reduceLT,reduceCtorEq,la]
 refine aV (λi F U=>F.get 5=.imp false es/\F.get 21=a'/\F.get 22=.int .i64 (rs.length:Int)/\F.get 23=.int .i64 (i:Int)/\∃w,F.get 6=w/\bH aM 9 U w ((rs.take i).map aD.name)) rs.length ?_ ?_ rs.length 0 _ _ (by omega) (fZ (by simp +decide only[GS,aj]) ⟨.aB,(by simp +decide only[GS]),.inl ⟨rfl,rfl⟩⟩)
 ·rintro i F U hi ⟨g5,g21,g22,g23,w,g6,ow⟩ next
  obtain⟨r,hr⟩:∃y,rs[i]?=some y:=⟨_,BY hi⟩
  obtain⟨g,p1,p2,p3,p4,e1,i1,i2,i3,i4⟩:=dK h ia hr
  have o1:=aL i1.bF
  have o2:=aL i2.bF
  have o3:=aL i3.bF
  have o4:=aL i4.bF
  have hlt:=eC hi
  have hadd:=bY i (by omega)
  have s1:(U++[O.cells 46 [.str r.name,p1,p2,p3,p4] true])[U.length]?=some (O.cells 46 [.str r.name,p1,p2,p3,p4] true):=aR
  have ow1:=ow.app [O.cells 46 [.str r.name,p1,p2,p3,p4] true]
  rw[aF]
  simp only[KP,Ax.loadAt,Ax.storeAt,↓reduceIte,reduceEqDiff,reduceLT,reduceLeDiff,reduceAdd,reduceMul,reduceCtorEq,h.cM,h.aY,h.bC,g6,g21,g22,g23,hlt,e1,o1,o2,o3,o4,aR,dR]
  generalize U++[O.cells 46 [.str r.name,p1,p2,p3,p4] true]=τ1 at *
  generalize U.length=y at *
  obtain⟨w',τ',hap,ow',-,-,-⟩:=iB (ats:=#[24,24]) (m:=[r.name]) (new:=[[.str r.name]]) h.aY rfl h.cM rfl (by decide) (iD h) rfl (ow1.app [.cells 9 [.str r.name] true]) (kO rfl) (.one rfl) (cZ (b:=1000) (by decide) (by rw[az,bl];simp only[aa,bf];omega))
  simp only[KP,↓reduceIte,reduceEqDiff,reduceLT,g23,lB,hap,hadd]
  refine next _ _ (fZ (by simp +decide only[GS,g5,g21,g22,aj]) ⟨w',(by simp +decide only[GS]),?_⟩)
  rw[dh,hr,gp]
  exact ow'
 ·rintro F U ⟨g5,g21,g22,g23,w,g6,ow⟩
  rw[ak (ae _)]at ow
  have hlt:=eG (bg rs.length)
  rw[aF]
  simp only[KP,↓reduceIte,reduceLT,g22,g23,hlt]
  exact key es false hn _ w ow _ (by simp +decide only[GS,g5]) (by simp +decide only[GS,g6])
theorem WG (h:bJ E) {a:V}{rs:List aD}(ha:LS bS 46 Z a rs)(hs:∀x∈rs,Small x)(hl:rs.length<=4294967296):aC E 68 [a] Z λv σ'=>σ'=Z/\∃e nm,v=.gB [.int .i64 e,.str nm]/\Jb rs e:=by
 obtain⟨a',ea,ia⟩:=dQ h ha
 rw[aH h.hs68 h.sp68 h.fn68 h.md68 (args':=[a']) (by simp only[aU,ea]),aX (by kernel_rfl)]
 have d6:=h.aby
 simp only[aA,Tryz.f68,cutAt,ag]at d6
 simp only[aA,Tryz.f68,KP,↓reduceIte,reduceLT,reduceCtorEq,kX]
 refine aO (Mi h (ia.ls _ 46) hs hl) ?_
 rintro v σ' ⟨rfl,nm,rfl⟩
 by_cases hp:gU rs=0
 case neg=>
  have q:=AI hp
  simp only[KP,↓reduceIte,reduceEqDiff,reduceLT,q]
  exact⟨gU rs,nm,rfl,.inl ⟨hp,rfl⟩⟩
 have q:=AT hp
 simp only[KP,↓reduceIte,reduceEqDiff,reduceLT,reduceCtorEq,q]
 refine aO (Rb h (ia.ls _ 46) hs hp) ?_
 rintro v σ' ⟨rfl,hv⟩
 rcases hv with⟨rfl,hr⟩ | ⟨x,l,iv,hr⟩
 ·simp only[KP,↓reduceIte,reduceEqDiff,reduceLT,kX,DB h]
  exact⟨0,[],rfl,.inr ⟨hp,.inr ⟨hr,rfl⟩⟩⟩
 ·obtain⟨g,e1⟩:=gI h iv.is (i:=0) (x:=x) rfl
  have e1:indexAddr E 24 v (.int .i64 0)=some (.dH g [.str x]):=e1
  have en:kY E 24 true v .aB=some false:=by
   rcases iv with⟨-,e⟩ | ⟨rs',full,rfl,-⟩
   ·cases e
   ·exact DA h
  simp only[KP,Ax.loadAt,↓reduceIte,reduceEqDiff,reduceLT,h.cM,en,e1,aK d6,a_]
  exact⟨3,x,rfl,.inr ⟨hp,.inl ⟨hr,rfl⟩⟩⟩
end
end
structure OrE (E:Env):Prop where
 hs23:E.hspec 23=none
 RV:E.spec 23=none
 fn23:E.fn 23=some (aA Tryz.f23)
 md23:E.mode 23=.fD
 hs81:E.hspec 81=none
 sp81:E.spec 81=none
 fn81:E.fn 81=some (aA Tryz.f81)
 md81:E.mode 81=.fD
 hs83:E.hspec 83=none
 sp83:E.spec 83=none
 fn83:E.fn 83=some (aA Tryz.f83)
 md83:E.mode 83=.fD
 hs25:E.hspec 25=none
 RU:E.spec 25=none
 fn25:E.fn 25=some (aA Tryz.f25)
 md25:E.mode 25=.fD
 hs85:E.hspec 85=none
 sp85:E.spec 85=none
 fn85:E.fn 85=some (aA Tryz.f85)
 md85:E.mode 85=.fD
 d23_15:aI E (cutAt [1,1,1,1,1,1,1,0,2,2,1,2,1,0] (aA Tryz.f23).code)=true
section
section
variable {E:Env}{Z:Sg}{K:V->Sg->Prop}
theorem Vt {U:Sg}{w:V}{l:List bD}{k:Nat}{es:List (V × V)}(hb:U[k]?=some (.map es)) (ow:bH aM 9 U w l):aZ w≠some k:=by
 rcases ow with⟨rfl,-⟩ | ⟨b,rs,ex,rfl,hc,-⟩
 ·intro e;cases e
 ·intro e
  cases e
  rw[hb]at hc
  cases hc
structure InOrder (rs:List aD) (o:List bD):Prop where
 len:o.length=rs.length
 nodup:o.Nodup
 mem:∀x∈o,x∈rs.map aD.name
 behind:∀(i k:Nat) (p q:aD),rs[i]?=some p->rs[k]?=some q->jU rs false i k=true->∀(j:Nat),o[j]?=some p.name->q.name∈o.take j
structure Ad (E:Env) (U:Sg) (es:List (V × V)) (p:bD->Bool):Prop where
 b0:U[0]?=some (.cells 107 [.imp false es] true)
 b2:U[2]?=some (.cells 109 [.mp 1] true)
 b1:∃e1,U[1]?=some (.map e1)/\SB E e1 p
theorem Ad.app {U:Sg}{es:List (V × V)}{p:bD->Bool}(h:Ad E U es p) (y:O):Ad E (U++[y]) es p:=by
 obtain⟨e1,h1,h2⟩:=h.b1
 exact⟨aP h.b0,aP h.b2,e1,aP h1,h2⟩
theorem Ad.sp {U τ':Sg}{es:List (V × V)}{p:bD->Bool}{w:V}{l:List bD}(h:Ad E U es p) (ow:bH aM 9 U w l) (sp:Sp U τ' w):Ad E τ' es p:=by
 obtain⟨e1,h1,h2⟩:=h.b1
 exact⟨sp _ _ h.b0 (kV h.b0 (by decide) ow),sp _ _ h.b2 (kV h.b2 (by decide) ow),e1,sp _ _ h1 (Vt h1 ow),h2⟩
theorem Ad.put {U:Sg}{es e1:List (V × V)}{p q:bD->Bool}(h:Ad E U es p)(hs:SB E e1 q):Ad E (U.set 1 (.map e1)) es q:=by
 obtain⟨e0,h1,-⟩:=h.b1
 exact⟨by rw[OF (by decide)];exact h.b0,by rw[OF (by decide)];exact h.b2,e1,by rw[bp (AS.1 h1).1],hs⟩
end
end
section
structure qO (E:Env):Prop where
 xK:E.ty 98=some { kd:=.map 51 84,size:=1,bytes:=8,zero:=.b_ }
 mR:E.ty 100=some { kd:=.jR [(0,96),(1,97),(2,84),(3,98),(4,98)],size:=5,bytes:=40,zero:=.agg [.b_,.b_,.fJ,.b_,.b_] }
 G7:E.ty 27=some { kd:=.ptr 100,size:=1,bytes:=8,zero:=.fJ }
 MA:E.ty 96=some { kd:=.map 9 46,size:=1,bytes:=8,zero:=.b_ }
 yQ:E.ty 147=some { kd:=.jR [(0,98),(1,51),(3,51)],size:=5,bytes:=56,zero:=.agg [.b_,.bool false,.str [],.bool false,.str []] }
 KQ:E.ty 148=some { kd:=.sl 147,size:=1,bytes:=24,zero:=.aB }
 hs69:E.hspec 69=none
 sp69:E.spec 69=none
 fn69:E.fn 69=some (aA Tryz.f69)
 md69:E.mode 69=.fD
 Z_:E.hspec 121=none
 XM:E.spec 121=none
 aaW:E.fn 121=some (aA Tryz.f121)
 Zg:E.mode 121=.shared
 hs13:E.hspec 13=none
 OV:E.spec 13=none
 fn13:E.fn 13=some (aA Tryz.f13)
 md13:E.mode 13=.fD
 hs72:E.hspec 72=none
 sp72:E.spec 72=none
 fn72:E.fn 72=some (aA Tryz.f72)
 md72:E.mode 72=.shared
 hs71:E.hspec 71=none
 sp71:E.spec 71=none
 fn71:E.fn 71=some (aA Tryz.f71)
 md71:E.mode 71=.fD
 hs73:E.hspec 73=none
 sp73:E.spec 73=none
 fn73:E.fn 73=some (aA Tryz.f73)
 md73:E.mode 73=.fD
 hs53:E.hspec 53=none
 sp53:E.spec 53=none
 fn53:E.fn 53=some (aA Tryz.f53)
 md53:E.mode 53=.fD
 hs78:E.hspec 78=none
 sp78:E.spec 78=none
 fn78:E.fn 78=some (aA Tryz.f78)
 md78:E.mode 78=.fD
 WX:eL E (opsOf (cutAt [1,0] (aA Tryz.f69).code))=.no
 YA:cB E .no (opsOf (cutAt [1,0] (aA Tryz.f69).code))=some [⟨2,4,true,false⟩,  ⟨2,7,true,false⟩,  ⟨2,10,true,false⟩,  ⟨5,7,true,false⟩,  ⟨5,10,true,false⟩,  ⟨8,10,true,false⟩]
 WW:eL E (opsOf (cutAt [1,1,0,1,2,2,1,1,0,2,1] (aA Tryz.f69).code))=.no
 Yz:cB E .no (opsOf (cutAt [1,1,0,1,2,2,1,1,0,2,1] (aA Tryz.f69).code))=some [⟨1,12,false,true⟩,  ⟨1,19,false,true⟩,  ⟨4,12,false,true⟩,  ⟨4,19,false,true⟩,  ⟨4,22,false,true⟩,  ⟨12,14,true,false⟩,  ⟨12,18,true,false⟩]
 abM:aI E (cutAt [1,1,1,0,1,2,2,1,1,0,2,1,0] (aA Tryz.f13).code)=true
 W4:eL E (opsOf (cutAt [1,1,1,0,1,2,2,1,1,0,2,1,1,0] (aA Tryz.f13).code))=.no
 YD:cB E .no (opsOf (cutAt [1,1,1,0,1,2,2,1,1,0,2,1,1,0] (aA Tryz.f13).code))=some [⟨3,7,false,true⟩]
 Wi:aI E (cutAt [1,1,1,0,1,2,2,1,1,0,2,1,1,1,1,1,2,2,1,1,0,2,1,0] (aA Tryz.f13).code)=true
 Wh:aI E (cutAt [1,1,1,0,1,2,2,1,1,0,2,1,1,1,1,1,2,2,1,1,0,2,1,1] (aA Tryz.f13).code)=true
 WV:eL E (opsOf (cutAt [1,0] (aA Tryz.f72).code))=.no
 Yy:cB E .no (opsOf (cutAt [1,0] (aA Tryz.f72).code))=some [⟨3,6,false,true⟩]
 abw:aI E (cutAt [1,1,0] (aA Tryz.f72).code)=true
 WU:eL E (opsOf (cutAt [1,1,1,2,2,1,1,0,2,1,0,1,0] (aA Tryz.f72).code))=.no
 Yx:cB E .no (opsOf (cutAt [1,1,1,2,2,1,1,0,2,1,0,1,0] (aA Tryz.f72).code))=some [⟨1,4,false,true⟩,  ⟨3,4,false,true⟩]
 WT:eL E (opsOf (cutAt [1,1,1,2,2,1,1,0,2,1,1] (aA Tryz.f72).code))=.no
 Yw:cB E .no (opsOf (cutAt [1,1,1,2,2,1,1,0,2,1,1] (aA Tryz.f72).code))=some [⟨1,7,false,true⟩,  ⟨3,7,false,true⟩,  ⟨4,7,false,true⟩]
 z78_17:eL E (opsOf (cutAt [1,1,1,1,0,1,2,2,1,1,0,2,1,1,1,1] (aA Tryz.f78).code))=.no
 p78_17:cB E .no (opsOf (cutAt [1,1,1,1,0,1,2,2,1,1,0,2,1,1,1,1] (aA Tryz.f78).code))=some [⟨2,4,false,true⟩]
section
variable {E:Env}{Z:Sg}{K:V->Sg->Prop}
theorem aC.up {f:Nat}{args:List V}{K:V->Sg->Prop}(h:aC E f args Z K):∃n v σ',K v σ'/\∀m,n<=m->gT E (ev E m) f args Z=some (v,σ'):=by
 obtain⟨n,v,σ',hc,hk⟩:=h
 exact⟨n,v,σ',hk,λm hm=>tL (mH E hm) hc⟩
theorem Ny (h:bJ E):kY E 44 true .aB .aB=some true:=by unfold kY;rw[h.fN]
theorem Nw (h:bJ E) {g:Bool}{rs:List (List V)}{f:Bool}:kY E 44 true (.bT g rs f) .aB=some false:=by unfold kY;rw[h.fN]
theorem N5 (h:bJ E)(h':qO E) {a:V}{l:List AxS.Step} (ia:IS eK a l)(hl:l.length<=1000):aC E 121 [a] Z λv σ'=>bH eK 82 σ' v l/\Kp Z σ'/\∀b,aZ v=some b->Z.length<=b:=by
 rw[eD h'.Z_ h'.XM h'.aaW h'.Zg,aX (by kernel_rfl)]
 rcases ia with⟨rfl,rfl⟩ | ⟨g,rs,full,rfl,ha⟩
 ·simp only[aA,Tryz.f121,KP,↓reduceIte,reduceLT,reduceCtorEq,Ny h]
  exact⟨.inl ⟨rfl,rfl⟩,λ_ _ h=>h,λb hb=>by cases hb⟩
 ·obtain⟨rs',e,ha'⟩:=mI (L:=eK) (x:=.bT g rs full) (l:=l) (.inr ⟨g,rs,full,rfl,ha⟩) (Z++[O.cells 82 [] true])
  obtain⟨w',τ',h1,h2,h3,h4,h5⟩:=iB (ats:=#[44,44]) (Z:=Z++[O.cells 82 [] true]) (w:=.sl Z.length 0 0 none) (l:=[]) (L:=eK) h.fN rfl h.cN rfl (by decide) (Bb h) rfl (.inr ⟨Z.length,[],true,rfl,aR,.nil⟩) e ha' (cZ (b:=1000) (by decide) (by simp only[bf];omega))
  rw[cq]at h2
  simp only[aA,Tryz.f121,KP,↓reduceIte,reduceEqDiff,reduceLT,reduceLeDiff,reduceCtorEq,h.fN,h.cN,Nw h,h1,Ax.fill,fG,fl]
  refine⟨h2,λc o hc=>h3 _ _ (aP hc) λe=>?_,λb hb=>?_⟩
  ·cases e
   exact absurd (AS.1 hc).1 (bg _)
  ·rcases h5 b hb with g | g
   ·cases g;exact ae _
   ·simp only[an,aa,bf]at g;omega
end
end
section
section
variable {E:Env}{Z:Sg}{K:V->Sg->Prop}
theorem nH {α:Type}{L:Lay α}{t:Nat}{U:Sg}{w:V}{l:List α} (ow:bH L t U w l):w.aW=true/\w.cells=[w]:=by
 rcases ow with⟨rfl,-⟩ | ⟨b,rs,ex,rfl,-⟩ <;> exact⟨rfl,rfl⟩
theorem wA {α:Type}{L:Lay α}{t:Nat}{U:Sg}{w:V}{l:List α}{y:O} (ow:bH L t U w l)(h:∀b,aZ w=some b->2<=b):bH L t (U.set 0 y) w l:=ow.keep λc o hc ho=>by
 rw[OF (by have:=h c hc;omega)];exact ho
theorem uO {α:Type}{L:Lay α}{t:Nat}{U:Sg}{w:V}{l:List α}{b:Nat} (ow:bH L t U w l)(h:aZ w=some b):b<U.length:=by
 rcases ow with⟨rfl,-⟩ | ⟨b',rs,ex,rfl,hb,-⟩
 ·cases h
 ·cases h
  exact (AS.1 hb).1
theorem Gt {U τ':Sg}(h:Kp U τ'):U.length<=τ'.length:=by
 refine oo λhlt=>?_
 obtain⟨o,ho⟩:∃o,U[τ'.length]?=some o:=⟨_,BY hlt⟩
 exact absurd (AS.1 (h _ _ ho)).1 (bg _)
theorem abP (h:bJ E)(h':qO E) {x:aD}{a b c d:V} (ia:IS aM a x.ins) (ib:IS aM b x.outs) (ic:IS aM c x.after) (id:IS eK d x.steps)(hs:Small x) (F:FT) (g1:F.get 1=.ref 0 0) {st:List iW}{Q:Ax.X->Fr->Sg->Prop}
  (hk:∀F' U w1 w2 w3 w4,F'.get 1=.ref 0 0->F'.get 2=F.get 2->U[0]?=some (O.cells 46 [.str x.name,w1,w2,w3,w4] true)->U[1]?=some (O.cells 46 [.str [],.aB,.aB,.aB,.aB] true)->bH aM 9 U w1 x.ins->bH aM 9 U w2 x.outs->bH aM 9 U w3 x.after->bH eK 82 U w4 x.steps->(∀b,aZ w4=some b->2<=b/\aZ w1≠some b/\aZ w2≠some b/\aZ w3≠some b)->M E st .normal ⟨52,F'⟩ U Q) :
  R E (.region 1 (opsOf (cutAt [1,0] (aA Tryz.f69).code)) true) st ⟨52,F⟩ [O.cells 46 [.str x.name,a,b,c,d] true,O.cells 46 [.str [],.aB,.aB,.aB,.aB] true] Q:=by
 have l1:=hs.ins
 have l2:=hs.outs
 have l3:=hs.after
 have l4:=hs.steps
 obtain⟨n1,w1,τ1,⟨ow1,kp1,fr1⟩,c1⟩:=aC.up (tN (Z:=[O.cells 46 [.str x.name,a,b,c,d] true,O.cells 46 [.str [],.aB,.aB,.aB,.aB] true]) h ia (by omega))
 obtain⟨n2,w2,τ2,⟨ow2,kp2,fr2⟩,c2⟩:=aC.up (tN (Z:=τ1) h ib (by omega))
 obtain⟨n3,w3,τ3,⟨ow3,kp3,fr3⟩,c3⟩:=aC.up (tN (Z:=τ2) h ic (by omega))
 obtain⟨n4,w4,τ4,⟨ow4,kp4,fr4⟩,c4⟩:=aC.up (N5 (Z:=τ3) h h' id (by omega))
 have c1:=c1 (n1+n2+n3+n4) (by omega)
 have c2:=c2 (n1+n2+n3+n4) (by omega)
 have c3:=c3 (n1+n2+n3+n4) (by omega)
 have c4:=c4 (n1+n2+n3+n4) (by omega)
 generalize n1+n2+n3+n4=n at c1 c2 c3 c4
 have k0:∀U:Sg,Kp [O.cells 46 [.str x.name,a,b,c,d] true,O.cells 46 [.str [],.aB,.aB,.aB,.aB] true] U->U[0]?=some (O.cells 46 [.str x.name,a,b,c,d] true)/\U[1]?=some (O.cells 46 [.str [],.aB,.aB,.aB,.aB] true):=λU hk=>⟨hk 0 _ rfl,hk 1 _ rfl⟩
 have q2:Kp [O.cells 46 [.str x.name,a,b,c,d] true,O.cells 46 [.str [],.aB,.aB,.aB,.aB] true] τ2:=λc o e=>kp2 c o (kp1 c o e)
 have q3:Kp [O.cells 46 [.str x.name,a,b,c,d] true,O.cells 46 [.str [],.aB,.aB,.aB,.aB] true] τ3:=λc o e=>kp3 c o (q2 c o e)
 have q4:Kp [O.cells 46 [.str x.name,a,b,c,d] true,O.cells 46 [.str [],.aB,.aB,.aB,.aB] true] τ4:=λc o e=>kp4 c o (q3 c o e)
 obtain⟨b1,z1⟩:=k0 τ1 kp1
 obtain⟨b2,z2⟩:=k0 τ2 q2
 obtain⟨b3,z3⟩:=k0 τ3 q3
 obtain⟨b4,z4⟩:=k0 τ4 q4
 have hlt4:=(AS.1 b4).1
 have s1:∀y,(τ4.set 0 y)[0]?=some y:=λy=>bp hlt4
 obtain⟨o1,t1⟩:=nH ow1
 obtain⟨o2,t2⟩:=nH ow2
 obtain⟨o3,t3⟩:=nH ow3
 obtain⟨o4,t4⟩:=nH ow4
 have v1:=bV 10 ia
 have v2:=bV 10 ib
 have v3:=bV 10 ic
 have v4:=lN 9 id
 have key:∃F',bG E (ev E n) (opsOf (cutAt [1,0] (aA Tryz.f69).code)) ⟨52,F⟩ [O.cells 46 [.str x.name,a,b,c,d] true,O.cells 46 [.str [],.aB,.aB,.aB,.aB] true]=some (⟨52,F'⟩,τ4.set 0 (O.cells 46 [.str x.name,w1,w2,w3,w4] true))/\F'.get 1=.ref 0 0/\F'.get 2=F.get 2:=by
  unfold bG
  rw[h'.WX,h'.YA]
  simp only[aA,Tryz.f69,KP,Ax.loadAt,Ax.storeAt,↓reduceIte,reduceEqDiff,reduceLT,reduceLeDiff,reduceAdd,reduceCtorEq,h.aY,h.fN,h.bC,opsOf,cutAt,eJ,bB,bQ,iX,Ax.comp,Ax.last,dM,Ax.again,g1,c1,c2,c3,c4,b1,b2,b3,b4,s1,o1,o2,o3,o4,t1,t2,t3,t4,v2,v3,v4,List.set_set]
  exact⟨_,rfl,(by simp +decide only[GS,g1,aj])⟩
 obtain⟨F',hD,f1,f2⟩:=key
 have n1:=Gt kp1
 have n2:=Gt kp2
 have n3:=Gt kp3
 have n0:([O.cells 46 [.str x.name,a,b,c,d] true,O.cells 46 [.str [],.aB,.aB,.aB,.aB] true]:Sg).length=2:=rfl
 rw[n0]at n1 fr1
 have k2:∀b,aZ w2=some b->2<=b:=λb hb=>by have:=fr2 b hb;omega
 have k3:∀b,aZ w3=some b->2<=b:=λb hb=>by have:=fr3 b hb;omega
 have k4:∀b,aZ w4=some b->2<=b:=λb hb=>by have:=fr4 b hb;omega
 refine Eq.mpr (fP hD) (hk F' _ w1 w2 w3 w4 f1 f2 (s1 _) (by rw[OF (by decide)];exact z4) (wA (ow1.keep λc o _ hc=>kp4 c o (kp3 c o (kp2 c o hc))) fr1) (wA (ow2.keep λc o _ hc=>kp4 c o (kp3 c o hc)) k2) (wA (ow3.keep λc o _ hc=>kp4 c o hc) k3) (wA ow4 k4) λb hb=>⟨k4 b hb,λe=>?_,λe=>?_,λe=>?_⟩)
 ·have:=fr4 b hb;have:=uO ow1 e;omega
 ·have:=fr4 b hb;have:=uO ow2 e;omega
 ·have:=fr4 b hb;have:=uO ow3 e;omega
end
end
section
section
variable {E:Env}{Z:Sg}{K:V->Sg->Prop}
theorem AK {k:Nat}(hk:k<5):∀{R:List (List V)}{i:Nat}{r:List V},(∀x∈R,x.length=5)->R[i]?=some r->R.flatten[i*5+k]?=r[k]?
 | [],_,_,_,h=>by cases h
 |x::R,0,r,hx,h=>by
  cases h
  rw[da,fl,cz,bq (by rw[hx _ (IN ..)];exact hk)]
 |x::R,i+1,r,hx,h=>by
  have hl:=hx _ (IN ..)
  rw[da,ck (by omega),show (i+1)*5+k-x.length=i*5+k by omega]
  exact AK hk (λy hy=>hx y (No _ hy)) h
theorem Fh {k:Nat}{v:V}(hk:k<5):∀{R:List (List V)}{i:Nat}{r:List V},(∀x∈R,x.length=5)->R[i]?=some r->setCells R.flatten (i*5+k) [v]=(R.set i (r.set k v)).flatten
 | [],_,_,_,h=>by cases h
 |x::R,0,r,hx,h=>by
  cases h
  have hl:=hx _ (IN ..)
  rw[jk,da,da,fl,cz]
  unfold setCells
  rw[List.take_append_of_le_length (by omega),List.drop_append_of_le_length (by rw[jf];omega),List.set_eq_take_append_cons_drop,b8 (by omega)]
  simp
 |x::R,i+1,r,hx,h=>by
  have hl:=hx _ (IN ..)
  have ih:=Fh (v:=v) hk (λy hy=>hx y (No _ hy)) h
  rw[ni,da,da,<- ih]
  unfold setCells
  rw[List.take_append,ak (by omega),show (i+1)*5+k-x.length=i*5+k by omega,qf,ja (by omega),show (i+1)*5+k + [v].length-x.length=i*5+k + [v].length by omega]
  simp
theorem J3 (h:bJ E) {U:Sg}{b i k:Nat}{R:List (List V)}{r:List V}{v:V}{ex:Bool}(hb:U[b]?=some (.cells 82 R.flatten ex))(hx:∀x∈R,x.length=5)(hr:R[i]?=some r)(hk:k<5)(hv:r[k]?=some v):loadAt E U 24 (.ref b (i*5+k))=some v:=by
 unfold Ax.loadAt
 simp only[h.aY,hb,AK hk hx hr,hv,Ax.isAgg]
 rfl
theorem OA (h:bJ E) {U:Sg}{b i k:Nat}{R:List (List V)}{r:List V}{v:V}{ex:Bool}(hb:U[b]?=some (.cells 82 R.flatten ex))(hx:∀x∈R,x.length=5)(hr:R[i]?=some r)(hk:k<5)(hc:v.cells=[v])(ho:v.aW=true):storeAt E U 24 (.ref b (i*5+k)) v=some (U.set b (.cells 82 (R.set i (r.set k v)).flatten ex)):=by
 unfold Ax.storeAt
 have hl:i*5+k+1<=R.flatten.length:=by
  have:=AK hk hx hr
  have hrl:=hx r (af hr)
  rw[BY (show k<r.length by omega)]at this
  have:=(AS.1 this).1
  omega
 simp only[h.aY,hb,hc,aa,bf,ig,jm,ho,AT hl,Fh hk hx hr]
 rfl
theorem VU (h:bJ E) {b n i:Nat}(hi:i<n):indexAddr E 44 (.sl b 0 n none) (.int .i64 (i:Int))=some (.ref b (i*5)):=by
 unfold Ax.indexAddr
 simp only[h.fN,h.cN,show ¬ ((i:Int)<0) by omega,aq,dj,hi,b9,cz]
theorem O4 {R:List (List V)}{i k:Nat}{r:List V}{v:V}(hx:∀x∈R,x.length=5)(hr:R[i]?=some r):∀x∈R.set i (r.set k v),x.length=5:=λx hm=>by
 rcases List.mem_or_eq_of_mem_set hm with hm | rfl
 ·exact hx x hm
 ·rw[fc];exact hx r (af hr)
theorem abO (h:bJ E)(h':qO E) {x:aD}{w1 w2 w3 p q:V}{s:AxS.Step}{b n i:Nat}{R:List (List V)}{ex:Bool}{U:Sg}(h0:U[0]?=some (O.cells 46 [.str x.name,w1,w2,w3,.sl b 0 n none] true))(hb:U[b]?=some (.cells 82 R.flatten ex))(hx:∀x∈R,x.length=5)(hr:R[i]?=some ([.str s.out,.int .i64 s.op,p,q,.int .i64 s.n]))(hi:i<n) (ip:IS aM p s.args) (iq:IS aM q s.lits) (l1:s.args.length<=8) (l2:s.lits.length<=3)(hb2:2<=b)
  (F:FT) (g1:F.get 1=.ref 0 0) (g3:F.get 3=.int .i64 (i:Int)) {st:List iW}{Q:Ax.X->Fr->Sg->Prop}
  (hk:∀F' τ' wp wq,(∀k,k∈[1,2,22,23]->F'.get k=F.get k)->τ'[b]?=some (.cells 82 (R.set i ([.str s.out,.int .i64 s.op,wp,wq,.int .i64 s.n])).flatten ex)->bH aM 9 τ' wp s.args->bH aM 9 τ' wq s.lits->(∀(c:Nat) (o:O),U[c]?=some o->c≠b->τ'[c]?=some o)->(∀c,aZ wp=some c->U.length<=c)->(∀c,aZ wq=some c->U.length<=c)->M E st .normal ⟨52,F'⟩ τ' Q) :
  Ax.R E (.region 5 (opsOf (cutAt [1,1,0,1,2,2,1,1,0,2,1] (aA Tryz.f69).code)) true) st ⟨52,F⟩ U Q:=by
 obtain⟨n1,wp,τ1,⟨ow1,kp1,fr1⟩,c1⟩:=aC.up (tN (Z:=U) h ip (by omega))
 obtain⟨n2,wq,τ2,⟨ow2,kp2,fr2⟩,c2⟩:=aC.up (tN (Z:=τ1) h iq (by omega))
 have c1:=c1 (n1+n2) (by omega)
 have c2:=c2 (n1+n2) (by omega)
 generalize n1+n2=m at c1 c2
 have h01:=kp1 _ _ h0
 have h02:=kp2 _ _ h01
 have hb1:=kp1 _ _ hb
 have hb2':=kp2 _ _ hb1
 obtain⟨o1,t1⟩:=nH ow1
 obtain⟨o2,t2⟩:=nH ow2
 have e1:=VU h hi (b:=b) (n:=n)
 have f1:=J3 h hb hx hr (k:=2) (by decide) rfl
 have f2:=J3 h hb1 hx hr (k:=3) (by decide) rfl
 have f2'':=J3 h hb hx hr (k:=3) (by decide) rfl
 have s1:=OA h hb2' hx hr (k:=2) (v:=wp) (by decide) t1 o1
 have hbl:=(AS.1 hb2').1
 have hR:(R.set i ([.str s.out,.int .i64 s.op,wp,q,.int .i64 s.n]))[i]?=some ([.str s.out,.int .i64 s.op,wp,q,.int .i64 s.n]):=bp (AS.1 hr).1
 have s2:=OA h (U:=τ2.set b (.cells 82 (R.set i ([.str s.out,.int .i64 s.op,wp,q,.int .i64 s.n])).flatten ex)) (v:=wq) (bp hbl) (O4 (k:=2) (v:=wp) hx hr) hR (k:=3) (by decide) t2 o2
 have s1:storeAt E τ2 24 (.ref b (i*5+2)) wp=some (τ2.set b (.cells 82 (R.set i ([.str s.out,.int .i64 s.op,wp,q,.int .i64 s.n])).flatten ex)):=s1
 have s2:storeAt E (τ2.set b (.cells 82 (R.set i ([.str s.out,.int .i64 s.op,wp,q,.int .i64 s.n])).flatten ex)) 24 (.ref b (i*5+3)) wq=some (τ2.set b (.cells 82 (R.set i ([.str s.out,.int .i64 s.op,wp,wq,.int .i64 s.n])).flatten ex)):=by
  rw[s2,List.set_set,List.set_set]
  rfl
 have lw:loadAt E U 44 (.ref 0 4)=some (.sl b 0 n none):=by unfold Ax.loadAt;simp only[h.fN,h0];rfl
 have lw1:loadAt E τ1 44 (.ref 0 4)=some (.sl b 0 n none):=by unfold Ax.loadAt;simp only[h.fN,h01];rfl
 have lw2:loadAt E τ2 44 (.ref 0 4)=some (.sl b 0 n none):=by unfold Ax.loadAt;simp only[h.fN,h02];rfl
 have lw3:∀y,loadAt E (τ2.set b y) 44 (.ref 0 4)=some (.sl b 0 n none):=λy=>by
  have h03:(τ2.set b y)[0]?=some (O.cells 46 [.str x.name,w1,w2,w3,.sl b 0 n none] true):=by rw[OF (by omega)];exact h02
  unfold Ax.loadAt;simp only[h.fN,h03];rfl
 have vq:=bV 10 iq
 have v0:oO 12 (.sl b 0 n none) (.sl b 0 n none)=true:=by unfold oO;simp
 have key:∃F',bG E (ev E m) (opsOf (cutAt [1,1,0,1,2,2,1,1,0,2,1] (aA Tryz.f69).code)) ⟨52,F⟩ U=some (⟨52,F'⟩,τ2.set b (.cells 82 (R.set i ([.str s.out,.int .i64 s.op,wp,wq,.int .i64 s.n])).flatten ex))/\(∀k,k∈[1,2,22,23]->F'.get k=F.get k):=by
  unfold bG
  rw[h'.WW,h'.Yz]
  simp only[aA,Tryz.f69,KP,↓reduceIte,reduceEqDiff,reduceLT,reduceAdd,reduceCtorEq,h.aY,h.fN,h.bC,h.cN,opsOf,cutAt,eJ,bB,bQ,iX,Ax.comp,Ax.last,dM,Ax.again,g1,g3,c1,c2,lw,lw1,lw2,lw3,e1,f1,f2,f2'',s1,s2,vq,v0]
  refine⟨_,rfl,λk hk=>?_⟩
  simp only[By,br,dz]at hk
  rcases hk with rfl | rfl | rfl | rfl <;> simp +decide only[GS]
 obtain⟨F',hD,hF⟩:=key
 have hlen1:=Gt kp1
 have hne:∀{w:V},(∀c,aZ w=some c->U.length<=c)->aZ w≠some b:=λhfr e=>by
  have:=hfr b e
  have:=(AS.1 hb).1
  omega
 have fr2':∀c,aZ wq=some c->U.length<=c:=λc hc=>by have:=fr2 c hc;omega
 refine Eq.mpr (fP hD) (hk F' _ wp wq hF (bp hbl) (bH.set (ow1.keep λc o _ hc=>kp2 c o hc) (hne fr1)) (bH.set ow2 (hne fr2')) (λc o hc hcb=>?_) fr1 fr2')
 rw[OF (jo hcb)]
 exact kp2 _ _ (kp1 _ _ hc)
end
end
section
section
variable {E:Env}{Z:Sg}{K:V->Sg->Prop}
theorem I5 {β γ:Type}{P:β->γ->Prop}:∀{a:List β}{b:List γ},dS P a b->∀{j:Nat}{y:γ},b[j]?=some y->∃x,a[j]?=some x/\P x y
 |_,_,.nil,_,_,h=>by cases h
 |_::_,_::_,.cons h t,0,_,e=>by cases e;exact⟨_,rfl,h⟩
 |_::_,_::_,.cons h t,j+1,_,e=>by
  obtain⟨x,h1,h2⟩:=I5 t (j:=j) e
  exact⟨x,h1,h2⟩
structure RC (U:Sg) (b i:Nat) (R:List (List V)) (ex:Bool) (steps:List AxS.Step):Prop where
 hb:U[b]?=some (.cells 82 R.flatten ex)
 len:R.length=steps.length
 Ke:∀x∈R,x.length=5
 row:∀(j:Nat) (s:AxS.Step),steps[j]?=some s->∃p q,R[j]?=some ([.str s.out,.int .i64 s.op,p,q,.int .i64 s.n])/\(j<i->bH aM 9 U p s.args/\bH aM 9 U q s.lits/\aZ p≠some b/\aZ q≠some b)/\(i<=j->IS aM p s.args/\IS aM q s.lits)
theorem RC.start {U:Sg}{b:Nat}{rs:List (List V)}{ex:Bool}{steps:List AxS.Step}(hb:U[b]?=some (.cells 82 rs.flatten ex))(ha:dS eK.P rs steps):RC U b 0 rs ex steps:=by
 refine⟨hb,ha.len,Lay.lens ha,λj s hj=>?_⟩
 obtain⟨r,h1,a,l,rfl,h2,h3⟩:=I5 ha hj
 exact⟨a,l,h1,λh=>by omega,λ_=>⟨h2,h3⟩⟩
theorem RC.step {U τ':Sg}{b i:Nat}{R:List (List V)}{ex:Bool}{steps:List AxS.Step}{s:AxS.Step}{wp wq:V}(h:RC U b i R ex steps)(hs:steps[i]?=some s)(hb:τ'[b]?=some (.cells 82 (R.set i ([.str s.out,.int .i64 s.op,wp,wq,.int .i64 s.n])).flatten ex)) (o1:bH aM 9 τ' wp s.args) (o2:bH aM 9 τ' wq s.lits) (k:∀(c:Nat) (o:O),U[c]?=some o->c≠b->τ'[c]?=some o) (f1:∀c,aZ wp=some c->U.length<=c) (f2:∀c,aZ wq=some c->U.length<=c):RC τ' b (i+1) (R.set i ([.str s.out,.int .i64 s.op,wp,wq,.int .i64 s.n])) ex steps:=by
 have hbl:=(AS.1 h.hb).1
 have hil:i<R.length:=by rw[h.len];exact (AS.1 hs).1
 refine⟨hb,by rw[fc];exact h.len,λx hx=>?_,λj t hj=>?_⟩
 ·rcases List.mem_or_eq_of_mem_set hx with hx | rfl
  ·exact h.Ke x hx
  ·rfl
 ·by_cases hij:i=j
  ·subst hij
   rw[hs]at hj
   cases hj
   refine⟨wp,wq,bp hil,λ_=>⟨o1,o2,λe=>?_,λe=>?_⟩,λh=>by omega⟩
   ·have:=f1 b e;omega
   ·have:=f2 b e;omega
  ·obtain⟨p,q,h1,h2,h3⟩:=h.row j t hj
   refine⟨p,q,by rw[OF hij];exact h1,λhlt=>?_,λhle=>h3 (by omega)⟩
   obtain⟨a1,a2,a3,a4⟩:=h2 (by omega)
   exact⟨a1.keep λc o hc ho=>k c o ho (λe=>a3 (by rw[hc,e])),a2.keep λc o hc ho=>k c o ho (λe=>a4 (by rw[hc,e])),a3,a4⟩
theorem Vs {U:Sg}{w:V}{l:List bD} (ow:bH aM 9 U w l):OL U w l:=by
 rcases ow with h | ⟨b,rs,ex,rfl,hb,ha⟩
 ·exact .inl h
 ·obtain rfl:=BX ha
  rw[Dt]at hb
  exact .inr ⟨b,_,ex,rfl,hb,ak (by rw[az];exact ae _)⟩
theorem RQ {v:V}{l:List bD}(h:Ur v l):iO aM v l:=by
 rcases h with h | ⟨full,rfl⟩
 ·exact .inl h
 ·exact .inr ⟨_,full,rfl,Al l⟩
theorem Cy (h:bJ E) {U:Sg}{w:V}{l:List bD}{m:Nat} (ow:bH aM 9 U w l):∃v',bI U E.ty false (m+2) w=some v'/\bU false v'=true/\iO aM v' l:=by
 obtain⟨v',h1,h2⟩:=(Vs ow).snap (m:=m) h
 exact⟨v',h1,h2.tag,RQ h2⟩
theorem C3 {α β:Type}{f:α->Option β}:∀{a:List α}{a':List β}{b:List α}{b':List β},aU f a=some a'->aU f b=some b'->aU f (a++b)=some (a'++b')
 | [],a',b,b',h1,h2=>by cases h1;exact h2
 |x::a,a',b,b',h1,h2=>by
  rw[aU]at h1
  cases hx:f x with
  |none=>rw[hx]at h1;cases h1
  |some y=>
   cases hm:aU f a with
   |none=>rw[hx,hm]at h1;cases h1
   |some l=>
    rw[hx,hm]at h1
    cases h1
    rw[dy,aU,hx,C3 hm h2]
    rfl
theorem Hl (h:bJ E) {U:Sg}{b n:Nat}{R:List (List V)}{ex:Bool}{steps:List AxS.Step}(hs:RC U b n R ex steps)(hn:n=steps.length):∃v',bI U E.ty false 12 (.sl b 0 n none)=some v'/\bU false v'=true/\iO fE v' steps:=by
 have key:∀(R:List (List V)) (steps:List AxS.Step),R.length=steps.length->(∀(j:Nat) (s:AxS.Step),steps[j]?=some s->∃p q,R[j]?=some ([.str s.out,.int .i64 s.op,p,q,.int .i64 s.n])/\bH aM 9 U p s.args/\bH aM 9 U q s.lits)->∃R',aU (λv=>match bI U E.ty false 11 v with
   |some v=>if bU false v then some v else Ax.no "snap: borrowed"
   |none=>none) R.flatten=some R'.flatten/\dS fE.P R' steps:=by
  intro R
  induction R with
  |nil=>
   intro steps hl _
   have:steps=[]:=List.eq_nil_of_length_eq_zero hl.symm
   subst this
   exact⟨[],rfl,.nil⟩
  |cons r R ih=>
   intro steps hl hr
   cases steps with
   |nil=>cases hl
   |cons s steps=>
    obtain⟨R',m1,a1⟩:=ih steps (by simpa using hl) λj t hj=>hr (j+1) t hj
    obtain⟨p,q,h1,h2,h3⟩:=hr 0 s rfl
    cases h1
    obtain⟨p',e1,t1,i1⟩:=Cy (m:=9) h h2
    obtain⟨q',e2,t2,i2⟩:=Cy (m:=9) h h3
    refine⟨([.str s.out,.int .i64 s.op,p',q',.int .i64 s.n])::R',?_,.cons ⟨p',q',rfl,i1,i2⟩ a1⟩
    rw[da,da]
    refine C3 ?_ m1
    have es:∀z:bD,bI U E.ty false 11 (.str z)=some (.str z):=λz=>gW rfl
    have ei:∀z:Int,bI U E.ty false 11 (.int .i64 z)=some (.int .i64 z):=λz=>gW rfl
    have ts:∀z:bD,bU false (.str z)=true:=λ_=>rfl
    have ti:∀z:Int,bU false (.int .i64 z)=true:=λ_=>rfl
    simp only[aU,es,ei,ts,ti,e1,e2,t1,t2,b9]
 obtain⟨R',m1,a1⟩:=key R steps hs.len λj s hj=>by
  obtain⟨p,q,h1,h2,-⟩:=hs.row j s hj
  obtain⟨a1,a2,-⟩:=h2 (by have:=(AS.1 hj).1;omega)
  exact⟨p,q,h1,a1,a2⟩
 have hfl:R.flatten.length=n*5:=by rw[lS R hs.Ke,hs.len,hn]
 have htk:(R.flatten.drop 0).take (n*5)=R.flatten:=by rw[eu,ak (by omega)]
 refine⟨.bT false R' (ex&&decide (0<5)&&(0+n*5==R.flatten.length)),?_,rfl,.inr ⟨R',_,rfl,a1⟩⟩
 rw[bI]
 simp only[hs.hb,h.cN]
 rw[b8 (by omega)]
 have m2:aU (λv=>match bI U E.ty false 11 v with
   |some v=>if bU false v then some v else Ax.no "snap: borrowed"
   |none=>none) ((R.flatten.drop 0).take (n*5))=some R'.flatten:=by rw[htk];exact m1
 refine Eq.trans (au (λo=>match o with
  |some l=>some (V.bT false (Ax.rows 5 n l) (ex&&decide (0<5)&&(0+n*5==R.flatten.length)))
  |none=>none) m2) ?_
 show some (V.bT false (Ax.rows 5 n R'.flatten) _)=_
 have hl':n=R'.length:=by rw[a1.len,hn]
 rw[hl',show Ax.rows 5 R'.length R'.flatten=R' from kK (sz:=5) R' (Lay.lens (L:=fE) a1)]
end
end
section
section
variable {E:Env}{Z:Sg}{K:V->Sg->Prop}
def N_ (v:V) (x:aD):Prop:=∃a b c d,v=.agg [.str x.name,a,b,c,d]/\iO aM a x.ins/\iO aM b x.outs/\iO aM c x.after/\iO fE d x.steps
theorem rB (h:bJ E) {U:Sg}{w:V}{l:List bD} (ow:bH aM 9 U w l):∃v',aQ.one U E.ty false w=some v'/\iO aM v' l:=by
 obtain⟨v',h1,h2,h3⟩:=Cy (m:=10) h ow
 refine⟨v',?_,h3⟩
 unfold aQ.one
 rw[show eE=10+2 from rfl,h1]
 simp only[h2,b9]
theorem RC.Zx {U:Sg}{b i u:Nat}{R:List (List V)}{ex:Bool}{steps:List AxS.Step}{cs:List V}{y:O}(h:RC U b i R ex steps)(hz:U[1]?=some (.cells u cs true))(hu:u≠9)(hb:2<=b):RC (U.set 1 y) b i R ex steps:=by
 refine⟨by rw[OF (by omega)];exact h.hb,h.len,h.Ke,λj s hj=>?_⟩
 obtain⟨p,q,h1,h2,h3⟩:=h.row j s hj
 refine⟨p,q,h1,λhlt=>?_,h3⟩
 obtain⟨a1,a2,a3,a4⟩:=h2 hlt
 exact⟨bH.set a1 (kV hz hu a1),bH.set a2 (kV hz hu a2),a3,a4⟩
theorem IX (h:bJ E)(h':qO E) {v:V}{x:aD}(hv:I9 v x)(hs:Small x):aC E 69 [v] Z λv σ'=>σ'=Z/\N_ v x:=by
 have ev:=hv.snap (E:=E) Z
 obtain⟨a,b,c,d,rfl,ia,ib,ic,id⟩:=hv
 have o1:=aL ia.bF
 have o2:=aL ib.bF
 have o3:=aL ic.bF
 have o4:=aL id.bF
 have l4:=hs.steps
 rw[aH h'.hs69 h'.sp69 h'.fn69 h'.md69 (args':=[.agg [.str x.name,a,b,c,d]]) (by simp only[aU,ev]),aX (by kernel_rfl)]
 simp only[aA,Tryz.f69,KP,↓reduceIte,reduceLT,reduceAdd,h.bC,o1,o2,o3,o4]
 refine abP h h' ia ib ic id hs _ ?_ ?_
 ·exact (by simp +decide only[GS])
 intro F1 τ1 w1 w2 w3 w4 g1 g2 b0 z0 ow1 ow2 ow3 ow4 sep
 have g2:F1.get 2=.ref 1 0:=g2.trans (by simp +decide only[GS])
 obtain⟨k1,t1⟩:=nH ow1
 obtain⟨k2,t2⟩:=nH ow2
 obtain⟨k3,t3⟩:=nH ow3
 rcases ow4 with⟨rfl,hst⟩ | ⟨b4,rs,ex,rfl,hb,ha⟩
 ·have ln:∀Z,lenOf E Z 44 .aB=some 0:=λZ=>by unfold lenOf;rw[h.fN]
  simp only[KP,Ax.loadAt,↓reduceIte,reduceLT,reduceCtorEq,h.fN,h.bC,g1,b0,ln]
  rw[aF]
  have hz1:=(AS.1 z0).1
  have s1:∀y,(τ1.set 1 y)[1]?=some y:=λy=>bp hz1
  obtain⟨a',e1,j1⟩:=rB h (bH.set (y:=O.cells 46 [.str x.name,w1,w2,w3,.aB] true) ow1 (kV z0 (by decide) ow1))
  obtain⟨b',e2,j2⟩:=rB h (bH.set (y:=O.cells 46 [.str x.name,w1,w2,w3,.aB] true) ow2 (kV z0 (by decide) ow2))
  obtain⟨c',e3,j3⟩:=rB h (bH.set (y:=O.cells 46 [.str x.name,w1,w2,w3,.aB] true) ow3 (kV z0 (by decide) ow3))
  have e0:∀U (z:bD),aQ.one U E.ty false (.str z)=some (.str z):=λU z=>rfl
  have e5:∀U,aQ.one U E.ty false .aB=some .aB:=λU=>rfl
  simp only[KP,Ax.loadAt,Ax.storeAt,↓reduceIte,reduceEqDiff,reduceLT,reduceAdd,Int.reduceLT,h.bC,g1,g2,b0,z0,k1,k2,k3,s1,e0,e1,e2,e3,e5,bW,aQ,aU]
  exact⟨a',b',c',.aB,rfl,j1,j2,j3,.inl ⟨rfl,hst⟩⟩
 ·generalize hn:x.steps.length=n at *
  obtain⟨hb2,d1,d2,d3⟩:=sep b4 rfl
  have ln:∀Z,lenOf E Z 44 (.sl b4 0 n none)=some n:=λZ=>by unfold lenOf;rw[h.fN]
  simp only[KP,Ax.loadAt,↓reduceIte,reduceLT,reduceCtorEq,h.fN,h.bC,g1,b0,ln]
  refine aV (λi F U=>F.get 1=.ref 0 0/\F.get 2=.ref 1 0/\F.get 22=.int .i64 (n:Int)/\F.get 23=.int .i64 (i:Int)/\U[0]?=some (O.cells 46 [.str x.name,w1,w2,w3,.sl b4 0 n none] true)/\U[1]?=some (O.cells 46 [.str [],.aB,.aB,.aB,.aB] true)/\bH aM 9 U w1 x.ins/\bH aM 9 U w2 x.outs/\bH aM 9 U w3 x.after/\∃R,RC U b4 i R ex x.steps) n ?_ ?_ n 0 _ _ (by omega) (fZ (by simp +decide only[GS,g1,g2,aj]) ⟨b0,z0,ow1,ow2,ow3,rs,RC.start hb ha⟩)
  ·rintro i F U hi ⟨g1,g2,g22,g23,b0,z0,ow1,ow2,ow3,R,sa⟩ next
   obtain⟨s,hsi⟩:∃y,x.steps[i]?=some y:=⟨_,BY (by omega)⟩
   obtain⟨p,q,hr,-,hpq⟩:=sa.row i s hsi
   obtain⟨ip,iq⟩:=hpq (ae _)
   have hsm:=af hsi
   have hlt:=eC hi
   have hadd:=bY i (by omega)
   rw[aF]
   simp only[KP,↓reduceIte,reduceEqDiff,reduceLT,g22,g23,hlt]
   refine abO h h' b0 sa.hb sa.Ke hr hi ip iq (hs.args s hsm) (hs.lits s hsm) hb2 _ ?_ ?_ ?_
   ·exact (by simp +decide only[GS,g1])
   ·exact (by simp +decide only[GS])
   intro F' τ' wp wq hF hb' op oq hk f1 f2
   have q1:F'.get 1=.ref 0 0:=(hF 1 (by simp)).trans (by simp +decide only[GS,g1])
   have q2:F'.get 2=.ref 1 0:=(hF 2 (by simp)).trans (by simp +decide only[GS,g2])
   have q22:F'.get 22=.int .i64 (n:Int):=(hF 22 (by simp)).trans (by simp +decide only[GS,g22])
   have q23:F'.get 23=.int .i64 (i:Int):=(hF 23 (by simp)).trans (by simp +decide only[GS,g23])
   simp only[KP,↓reduceIte,reduceLT,q23,hadd]
   exact next _ _ (fZ (by simp +decide only[GS,q1,q2,q22,aj]) ⟨hk 0 _ b0 (by omega),hk 1 _ z0 (by omega),ow1.keep λc o hc ho=>hk c o ho (λe=>d1 (by rw[hc,e])),ow2.keep λc o hc ho=>hk c o ho (λe=>d2 (by rw[hc,e])),ow3.keep λc o hc ho=>hk c o ho (λe=>d3 (by rw[hc,e])),_,sa.step hsi hb' op oq hk f1 f2⟩)
  ·rintro F U ⟨g1,g2,g22,g23,b0,z0,ow1,ow2,ow3,R,sa⟩
   have hlt:=eG (bg n)
   have hz1:=(AS.1 z0).1
   have s1:∀y,(U.set 1 y)[1]?=some y:=λy=>bp hz1
   obtain⟨a',e1,j1⟩:=rB h (bH.set (y:=O.cells 46 [.str x.name,w1,w2,w3,.sl b4 0 n none] true) ow1 (kV z0 (by decide) ow1))
   obtain⟨b',e2,j2⟩:=rB h (bH.set (y:=O.cells 46 [.str x.name,w1,w2,w3,.sl b4 0 n none] true) ow2 (kV z0 (by decide) ow2))
   obtain⟨c',e3,j3⟩:=rB h (bH.set (y:=O.cells 46 [.str x.name,w1,w2,w3,.sl b4 0 n none] true) ow3 (kV z0 (by decide) ow3))
   obtain⟨d',e4,t4,j4⟩:=Hl h (sa.Zx (y:=O.cells 46 [.str x.name,w1,w2,w3,.sl b4 0 n none] true) z0 (by decide) hb2) hn.symm
   have e4:aQ.one (U.set 1 (O.cells 46 [.str x.name,w1,w2,w3,.sl b4 0 n none] true)) E.ty false (.sl b4 0 n none)=some d':=by
    unfold aQ.one
    rw[show eE=12 from rfl,e4]
    simp only[t4,b9]
   have e0:∀U (z:bD),aQ.one U E.ty false (.str z)=some (.str z):=λU z=>rfl
   rw[aF]
   simp only[KP,Ax.loadAt,Ax.storeAt,↓reduceIte,reduceEqDiff,reduceLT,reduceAdd,h.bC,g1,g2,g22,g23,hlt,b0,z0,k1,k2,k3,s1,e0,e1,e2,e3,e4,bW,aQ,aU]
   exact⟨a',b',c',d',rfl,j1,j2,j3,j4⟩
end
end
end Go.Proofs.YtmbikbgdbbcbmaaGreatDoor
end
section
namespace Go.Proofs.YtmbikbgdbbcbmaaGreatDoor.Lb
open Go Go.Ax Go.AxS
section
def WM (v:V) (l:List aJ):Prop:=(v=.aB/\l=[])\/∃full,v=.bT false (l.map row) full
theorem WM.lv {v:V}{l:List aJ}(h:WM v l):LV v l:=h.imp id λ⟨full,e⟩=>⟨false,full,e⟩
section
variable {E:Env}{Z:Sg}{K:V->Sg->Prop}
theorem YJ (n:Nat):(if (20:Int)<(n:Int) then (20:Int) else (n:Int))=((min n 20:Nat):Int):=by
 split <;> omega
theorem vS (l:List aJ):BB 2 (l.map row)=true:=by
 cases l with
 |nil=>rfl
 |cons x l=>rfl
theorem CK (n:Nat)(h:n<=1000000000000):roomy n 24=true:=by
 unfold roomy
 rw[IT]
 omega
theorem MR (n:Nat)(h:n<=1000000000000):lF n 24=true:=by
 unfold lF
 rw[IT]
 omega
theorem AO (g full:Bool) (l:List aJ):elems Z 2 (.bT g (l.map row) full)=some (l.flatMap row,l.length):=by
 show (if BB 2 (l.map row)=true then some ((l.map row).flatten,(l.map row).length) else none)=_
 rw[vS,b8 rfl,Iv,az]
end
end
section
section
variable {E:Env}{Z:Sg}{K:V->Sg->Prop}
theorem FJ (n:Nat)(h:n<=10000000000000):wr .i64 ((n:Int)+1)=((n+1:Nat):Int):=by
 rw[Cd,b8]
 ·rfl
 ·rw[ah,IT,IT]
  exact⟨show (-9223372036854775808:Int)<=(n:Int)+1 by omega,show (n:Int)+1<=(9223372036854775807:Int) by omega⟩
theorem wL (h:cK E) (c:Bool) (a b:Bool) (s t:List Nat):kY E 51 c (.agg [.bool a,.str s]) (.agg [.bool b,.str t])=some (decide (((a,s):aJ)=(b,t))):=by
 unfold kY
 simp only[h.cL,h.To,Ax.eqs]
 rw[vY]
 cases a <;> cases b <;> simp
theorem TK (h:cK E) (a b:Bool) (s t:List Nat):aC E 109 [.agg [.bool a,.str s],.agg [.bool b,.str t]] Z K=K (.bool (lt (a,s) (b,t))) Z:=by
 refine aC.of ?_
 rw[aH h.aah h.XT h.aa3 h.Zn (args':=[.agg [.bool a,.str s],.agg [.bool b,.str t]]) (rfl),aX (by kernel_rfl)]
 cases a <;> cases b
 all_goals simp only[aA,Tryz.f109,KP,Ax.loadAt,↓reduceIte,reduceEqDiff,reduceLT,reduceAdd,reduceCtorEq,h.uC,h.cM,h.cL,kY]
 all_goals exact rfl
theorem LM (h:cK E) {ops:Array Oper}{l:List Oper}{dst:Option Nat}{st:List iW}{Q:Ax.X->Fr->Sg->Prop}{fr:Fr} (a b:Bool) (s t:List Nat):FF E 109 [.agg [.bool a,.str s],.agg [.bool b,.str t]] Z dst fr ops l st Q=dU E ops l (some (eP fr dst (.bool (lt (a,s) (b,t))),Z)) st Q:=QL λ_=>TK h a b s t
theorem Po (h:cK E) {a b:V}{l m:List aJ}(ha:LV a l)(hb:LV b m)(hlen:l.length=m.length)(hsm:l.length<=1000000000000) {s:List iW}{Q:Ax.X->Fr->Sg->Prop}
  (hT:l=m->∀F',M E s .normal ⟨26,F'⟩ Z Q)(hF:l≠m->∀F':FT,F'.get 4=.bool false->M E s .ret ⟨26,F'⟩ Z Q) :
  ∀(k i:Nat) (F:FT),i+k=l.length->l.take i=m.take i->F.get 0=a->F.get 1=b->F.get 5=.int .i64 (i:Int)->R E (.loop (cutAt [1,1,0,1,2,2] (aA Tryz.f16).code)) (.blk 0::s) ⟨26,F⟩ Z Q:=by
 have la:lenOf E Z 23 a=some l.length:=AA h (ha.sv Z)
 have d6:=h.abK
 simp only[aA,Tryz.f16,cutAt,ag]at d6
 intro k
 induction k with
 |zero=>
  intro i F hi ht g0 g1 g5
  have hlt:decide ((i:Int)<(l.length:Int))=false:=AI (by omega)
  rw[aF]
  simp only[aA,Tryz.f16,KP,↓reduceIte,reduceEqDiff,reduceLT,reduceCtorEq,cutAt,g0,g5,la,hlt]
  refine hT ?_ _
  rw[ak (by omega),ak (by omega)]at ht
  exact ht
 |succ k ih=>
  intro i F hi ht g0 g1 g5
  have hlt:decide ((i:Int)<(l.length:Int))=true:=AT (by omega)
  obtain⟨x,hx⟩:∃x,l[i]?=some x:=⟨_,BY (by omega)⟩
  obtain⟨y,hy⟩:∃y,m[i]?=some y:=⟨_,BY (by omega)⟩
  obtain⟨pa,e1,e2⟩:=wM h (ha.sv Z) hx
  obtain⟨pb,e3,e4⟩:=wM h (hb.sv Z) hy
  have e2:=e2 Z (dL.refl Z)
  have e4:=e4 Z (dL.refl Z)
  have hadd:=FJ i (by omega)
  have t1:l.take (i+1)=l.take i++[x]:=by rw[dh,hx];rfl
  have t2:m.take (i+1)=m.take i++[y]:=by rw[dh,hy];rfl
  rw[aF]
  by_cases hxy:x=y
  ·have hd:decide (((x.1,x.2):aJ)=(y.1,y.2))=true:=AT hxy
   simp only[aA,Tryz.f16,KP,↓reduceIte,reduceEqDiff,reduceLT,reduceCtorEq,cutAt,g0,g1,g5,la,hlt,aK d6,a_,e1,e2,e3,e4,wL h,hd,hadd]
   refine ih (i+1) _ (by omega) (by rw[t1,t2,ht,hxy]) ?_ ?_ ?_ <;> simp only[FT.dJ,g0,g1,↓reduceIte,reduceEqDiff,reduceCtorEq]
  ·have hd:decide (((x.1,x.2):aJ)=(y.1,y.2))=false:=AI hxy
   simp only[aA,Tryz.f16,KP,↓reduceIte,reduceEqDiff,reduceLT,reduceCtorEq,cutAt,g0,g1,g5,la,hlt,aK d6,a_,e1,e2,e3,e4,wL h,hd]
   refine hF (λe=>?_) _ ?_
   ·subst e
    rw[hx]at hy
    exact hxy (cv hy)
   ·simp only[FT.dJ,↓reduceIte]
theorem QT (h:cK E) {v w:V}{l m:List aJ}(hv:SV Z v l)(hw:SV Z w m)(hsm:l.length<=1000000000000):aC E 16 [v,w] Z K=K (.bool (decide (l=m))) Z:=by
 refine aC.of ?_
 obtain⟨a,e1,ha⟩:=Lf h hv
 obtain⟨b,e2,hb⟩:=Lf h hw
 rw[aH h.hs16 h.OQ h.fn16 h.md16 (args':=[a,b]) (by simp only[aU,e1,e2]),aX (by kernel_rfl)]
 have la:lenOf E [] 23 a=some l.length:=AA h (ha.sv [])
 have lb:lenOf E [] 23 b=some m.length:=AA h (hb.sv [])
 by_cases hlen:l.length=m.length
 ·have hd:decide ((l.length:Int)=(m.length:Int))=true:=AT (by omega)
  simp only[aA,Tryz.f16,KP,↓reduceIte,reduceEqDiff,reduceLT,reduceAdd,reduceCtorEq,la,lb,hd]
  refine Po h ha hb hlen hsm (λe F'=>?_) (λe F' g4=>?_) l.length 0 _ (by omega) rfl ?_ ?_ ?_
  ·simp only[KP,↓reduceIte,reduceLT]
   subst e
   rw[AT rfl]
   exact rfl
  ·simp only[KP,↓reduceIte,reduceLT,g4]
   rw[AI e]
   exact rfl
  all_goals simp only[FT.dJ,KP,↓reduceIte,reduceEqDiff,reduceCtorEq]
  all_goals rfl
 ·have hd:decide ((l.length:Int)=(m.length:Int))=false:=AI (by omega)
  simp only[aA,Tryz.f16,KP,↓reduceIte,reduceEqDiff,reduceLT,reduceAdd,reduceCtorEq,la,lb,hd]
  rw[AI (λe=>hlen (by rw[e]))]
  exact rfl
end
end
section
def mP (ks:List aJ):List (V × V):=ks.map λk=>(V.agg [.bool k.1,.str k.2],V.bool true)
structure dG (Z:Sg) (b m:Nat) (ks:List aJ):Prop where
 obj:Z[b]?=some (.cells 92 [.mp m] true)
 map:Z[m]?=some (.map (mP ks))
 nodup:ks.Nodup
def Kp (Z σ':Sg) (m:Nat):Prop:=∀(j:Nat) (o:O),j≠m->Z[j]?=some o->σ'[j]?=some o
def tR (Z σ':Sg):Prop:=∀(j:Nat) (o:O),Z[j]?=some o->σ'[j]?=some o
theorem tR.refl (Z:Sg):tR Z Z:=λ_ _ h=>h
theorem tR.trans {Z U ρ:Sg}(h:tR Z U) (k:tR U ρ):tR Z ρ:=λj o e=>k j o (h j o e)
theorem tR.app (Z U:Sg):tR Z (Z++U):=λ_ _ h=>nJ h U
theorem tR.u_ {Z σ':Sg}(h:tR Z σ'):dL Z σ':=λb t cs ex e=>h _ _ e
theorem Kp.refl (Z:Sg) (m:Nat):Kp Z Z m:=λ_ _ _ h=>h
theorem Kp.trans {Z U ρ:Sg}{m:Nat}(h:Kp Z U m) (k:Kp U ρ m):Kp Z ρ m:=λj o hj e=>k j o hj (h j o hj e)
theorem Kp.u_ {Z σ':Sg}{m:Nat}{es:List (V × V)}(h:Kp Z σ' m)(hm:Z[m]?=some (.map es)):dL Z σ':=λb t cs ex e=>h _ _ (λhb=>by subst hb;rw[hm]at e;cases e) e
theorem tR.kp {Z σ':Sg}(h:tR Z σ') (m:Nat):Kp Z σ' m:=λj o _ e=>h j o e
theorem dG.ne {Z:Sg}{b m:Nat}{ks:List aJ}(h:dG Z b m ks):b≠m:=λe=>by
 subst e;have:=h.obj;rw[h.map]at this;cases this
theorem dG.oG {Z σ':Sg}{b m:Nat}{ks:List aJ}(h:dG Z b m ks) (k:tR Z σ'):dG σ' b m ks:=⟨k _ _ h.obj,k _ _ h.map,h.nodup⟩
theorem dG.kp {Z σ':Sg}{b m m':Nat}{ks ks':List aJ}{b':Nat}(h:dG Z b m ks)(h':dG Z b' m' ks')(hm:m≠m') (k:Kp Z σ' m'):dG σ' b m ks:=
 ⟨k _ _ (λe=>by subst e;have:=h.obj;rw[h'.map]at this;cases this) h.obj,k _ _ hm h.map,h.nodup⟩
section
variable {E:Env}{Z:Sg}{K:V->Sg->Prop}
theorem rR (h:cK E) (a b:Bool) (s t:List Nat):fB E 51 (.agg [.bool a,.str s]) (.agg [.bool b,.str t])=some (decide (((a,s):aJ)=(b,t))):=by
 unfold fB
 simp only[h.cL,h.To,Ax.eqs]
 rw[vY]
 cases a <;> cases b <;> simp
theorem rO (h:cK E) (a:Bool) (s:List Nat):eB E 51 (.agg [.bool a,.str s])=true:=by
 unfold eB
 simp only[h.cL,h.To,Ax.eqs]
 rfl
theorem J8 (y:aJ) (r:List aJ) (x:aJ)(hxy:x≠y):kD (y::r) x=y::kD r x:=by
 unfold kD
 by_cases hx:x∈r
 ·rw[b8 hx,b8 (No _ hx)]
 ·rw[ay hx,ay (by simp[hxy,hx])];rfl
theorem ET (h:cK E) (x:aJ):∀ks:List aJ,lA (fB E 51) (.agg [.bool x.1,.str x.2]) (.bool true) (mP ks)=some (mP (kD ks x))
 | []=>rfl
 |y::r=>by
  show (match fB E 51 (.agg [.bool x.1,.str x.2]) (.agg [.bool y.1,.str y.2]) with
   |some true=>some ((V.agg [.bool x.1,.str x.2],V.bool true)::mP r)
   |some false=>(match lA (fB E 51) (.agg [.bool x.1,.str x.2]) (.bool true) (mP r) with
    |some r'=>some ((V.agg [.bool y.1,.str y.2],V.bool true)::r')
    |none=>none)
   |none=>none)=_
  rw[rR h,ET h x r]
  by_cases hxy:x=y
  ·rw[AT (show ((x.1,x.2):aJ)=(y.1,y.2) from hxy)]
   subst hxy
   unfold kD
   rw[b8 (IN ..)]
   rfl
  ·rw[AI (show ¬ ((x.1,x.2):aJ)=(y.1,y.2) from hxy),J8 y r x hxy]
   rfl
theorem MC (h:cK E) (a:Bool) (s:List Nat):storeAt E (Z++[.cells 51 [.bool false,.str []] true]) 51 (.ref Z.length 0) (.agg [.bool a,.str s])=some (Z++[.cells 51 [.bool a,.str s] true]):=by
 unfold storeAt
 simp only[h.cL]
 rw[ck (ae _),ju]
 refine (b8 rfl).trans ?_
 rw[mc _ _ (ae _),ju]
 rfl
theorem P3 (h:cK E) (a:Bool) (s:List Nat):loadAt E (Z++[.cells 51 [.bool a,.str s] true]) 51 (.ref Z.length 0)=some (.agg [.bool a,.str s]):=by
 unfold loadAt
 simp only[h.cL]
 rw[ck (ae _),ju]
 rfl
theorem uV (h:cK E) {b m:Nat}(hb:Z[b]?=some (.cells 92 [.mp m] true)):loadAt E Z 88 (.ref b 0)=some (.mp m):=by
 unfold loadAt
 simp only[h.yP,hb]
 rfl
theorem Gc (h:cK E) {m:Nat}{ks:List aJ}(hm:Z[m]?=some (.map (mP ks))) (x:aJ):mapUpdate E Z 88 (.mp m) (.agg [.bool x.1,.str x.2]) (.bool true)=some (Z.set m (.map (mP (kD ks x)))):=by
 unfold mapUpdate
 simp only[h.yP,rO h,hm,ET h]
 rfl
theorem B4 (h:cK E) {m:Nat}{ks:List aJ}(hm:Z[m]?=some (.map (mP ks))):lenOf E Z 88 (.mp m)=some ks.length:=by
 unfold lenOf
 simp only[h.yP,hm]
 simp[mP]
theorem Jc (h:cK E) {b m:Nat}{ks l:List aJ}{v:V}{n0:Int}(hsm:l.length<=10000000000) {σ0:Sg}{s:List iW}{Q:Ax.X->Fr->Sg->Prop}
  (hQ:∀(F':FT) (σ':Sg),dG σ' b m (keys ks l)->Kp σ0 σ' m->F'.get 0=.ref b 0->F'.get 5=.int .i64 n0->M E s .normal ⟨48,F'⟩ σ' Q) :
  ∀(k i:Nat) (F:FT) (σ':Sg),i+k=l.length->dG σ' b m (keys ks (l.take i))->SV σ' v l->Kp σ0 σ' m->F.get 0=.ref b 0->F.get 5=.int .i64 n0->F.get 27=v->F.get 28=.int .i64 (l.length:Int)->F.get 29=.int .i64 (i:Int) ->
   R E (.loop (cutAt [1,1,1,1,0,1,2,2] (aA Tryz.f70).code)) (.blk 0::s) ⟨48,F⟩ σ' Q:=by
 have d9:=h.abx
 simp only[aA,Tryz.f70,cutAt,ag]at d9
 intro k
 induction k with
 |zero=>
  intro i F σ' hi hs hv hk g0 g5 g27 g28 g29
  have hlt:decide ((i:Int)<(l.length:Int))=false:=AI (by omega)
  rw[aF]
  simp only[aA,Tryz.f70,KP,↓reduceIte,reduceLT,cutAt,g28,g29,hlt]
  rw[ak (by omega)]at hs
  refine hQ _ _ hs hk ?_ ?_ <;> simp only[FT.dJ,g0,g5,↓reduceIte,reduceEqDiff,reduceCtorEq]
 |succ k ih=>
  intro i F σ' hi hs hv hk g0 g5 g27 g28 g29
  have hlt:decide ((i:Int)<(l.length:Int))=true:=AT (by omega)
  obtain⟨x,hx⟩:∃x,l[i]?=some x:=⟨_,BY (by omega)⟩
  obtain⟨pa,e1,e2⟩:=wM h hv hx
  have e2:=e2 _ (dL.refl _)
  have hadd:=FJ i (by omega)
  have lm:=uV h (nJ hs.obj [.cells 51 [.bool x.1,.str x.2] true])
  have pm:=Gc h (nJ hs.map [.cells 51 [.bool x.1,.str x.2] true]) x
  rw[aF]
  simp only[aA,Tryz.f70,KP,↓reduceIte,reduceEqDiff,reduceLT,reduceCtorEq,h.cL,h.yP,h.xL,h.BA,cutAt,g0,g27,g28,g29,hlt,e1,e2,MC h,P3 h,lm,pm,aK d9,a_,hadd]
  have hml:=(AS.1 hs.map).1
  refine ih (i+1) _ _ (by omega) ⟨?_,?_,?_⟩ ?_ ?_ ?_ ?_ ?_ ?_ ?_
  ·rw[OF hs.ne.symm]
   exact nJ hs.obj _
  ·rw[bp (by rw[an];omega)]
   rw[dh,hx]
   show some (O.map (mP (kD (keys ks (l.take i)) x)))=some (O.map (mP (List.foldl kD ks (l.take i++[x]))))
   rw[List.foldl_append]
   rfl
  ·rw[dh,hx]
   show (List.foldl kD ks (l.take i++[x])).Nodup
   rw[List.foldl_append]
   exact Ia hs.nodup
  ·refine hv.keep λj t cs ex e=>?_
   rw[OF (λhj=>by subst hj;rw[hs.map]at e;cases e)]
   exact nJ e _
  ·refine hk.trans λj o hj e=>?_
   rw[OF (λh=>hj h.symm)]
   exact nJ e _
  all_goals simp only[FT.dJ,g0,g5,g27,g28,↓reduceIte,reduceEqDiff,reduceCtorEq]
theorem Uz (a b:Nat)(ha:a<=1000000000000)(hb:b<=1000000000000):wr .i64 ((a:Int)-(b:Int))=(a:Int)-(b:Int):=by
 rw[Cd,b8]
 rw[ah,IT,IT]
 exact⟨show (-9223372036854775808:Int)<=_ by omega,show _<=(9223372036854775807:Int) by omega⟩
theorem Rj (h:cK E) {b m:Nat}{ks l:List aJ}{v:V}(hs:dG Z b m ks)(hv:SV Z v l)(hsm:l.length<=10000000000)(hks:ks.length<=10000000000) :
  aC E 70 [.ref b 0,v] Z λr σ'=>r=.int .i64 (((keys ks l).length:Int)-(ks.length:Int))/\dG σ' b m (keys ks l)/\Kp Z σ' m:=by
 rw[eD h.ZB h.Xc h.aap h.YK,aX (by kernel_rfl)]
 have lm:=uV h hs.obj
 have lk:=B4 h hs.map
 have lv:lenOf E Z 23 v=some l.length:=AA h hv
 simp only[aA,Tryz.f70,KP,↓reduceIte,reduceEqDiff,reduceLT,reduceAdd,reduceCtorEq,h.uB,h.yP,h.xL,h.BA,lm,lk,lv,kY]
 refine Jc h hsm (σ0:=Z) (n0:=(ks.length:Int)) (λF' σ' hs' hk' g0 g5=>?_) l.length 0 _ Z (by omega) hs hv (Kp.refl _ _) ?_ ?_ ?_ ?_ ?_
 ·have lm2:=uV h hs'.obj
  have lk2:=B4 h hs'.map
  have hl:=qI (xs:=l) (l:=ks)
  have hsub:=Uz (keys ks l).length ks.length (by omega) (by omega)
  simp only[KP,↓reduceIte,reduceEqDiff,reduceLT,reduceCtorEq,h.yP,h.xL,h.BA,lm2,lk2,g0,g5,hsub]
  exact⟨hs',hk'⟩
 all_goals simp only[FT.dJ,KP,↓reduceIte,reduceEqDiff,reduceCtorEq]
 all_goals rfl
end
end
section
section
variable {E:Env}{Z:Sg}{K:V->Sg->Prop}
theorem PZ (h:cK E) {b:Nat}(hb:Z[b]?=some (.cells 92 [.b_] true)):loadAt E Z 88 (.ref b 0)=some .b_:=by
 unfold loadAt
 simp only[h.yP,hb]
 rfl
theorem MD (h:cK E) {b m:Nat}{u:V}(hb:Z[b]?=some (.cells 92 [u] true)):storeAt E Z 88 (.ref b 0) (.mp m)=some (Z.set b (.cells 92 [.mp m] true)):=by
 unfold storeAt
 simp only[h.yP,hb]
 rfl
theorem Rh (h:cK E) {b:Nat}{l:List aJ}{v:V}(hb:Z[b]?=some (.cells 92 [.b_] true))(hv:SV Z v l)(hsm:l.length<=10000000000) :
  aC E 70 [.ref b 0,v] Z λr σ'=>∃m,dG σ' b m (keys [] l)/\Z.length<=m/\∀j o,j≠b->Z[j]?=some o->σ'[j]?=some o:=by
 rw[eD h.ZB h.Xc h.aap h.YK,aX (by kernel_rfl)]
 have hbl:=(AS.1 hb).1
 have ln:=PZ h hb
 have st:=MD h (m:=Z.length) (nJ hb [.map []])
 have hs1:dG ((Z++[O.map []]).set b (.cells 92 [.mp Z.length] true)) b Z.length []:=by
  refine⟨bp (by rw[an];omega),?_,nodup_nil⟩
  rw[OF (by omega),ck (ae _),ju]
  rfl
 have hk1:∀j o,j≠b->Z[j]?=some o->((Z++[O.map []]).set b (.cells 92 [.mp Z.length] true))[j]?=some o:=λj o hj e=>by
  rw[OF (λe=>hj e.symm)]
  exact nJ e _
 have hv1:SV ((Z++[O.map []]).set b (.cells 92 [.mp Z.length] true)) v l:=by
  rcases hv with hv | hv | ⟨j,cs,ex,e1,e2,e3⟩
  ·exact .inl hv
  ·exact .inr (.inl hv)
  ·refine .inr (.inr ⟨j,cs,ex,e1,hk1 j _ (λe=>?_) e2,e3⟩)
   subst e;rw[hb]at e2;cases e2
 have lm:=uV h hs1.obj
 have lk:=B4 h hs1.map
 have lv:∀σ',lenOf E σ' 23 v=some l.length:=λσ'=>by
  unfold lenOf
  rw[h.fO]
  rcases hv with⟨rfl,rfl⟩ | ⟨g,full,rfl⟩ | ⟨j,cs,ex,rfl,e2,e3⟩
  ·rfl
  ·simp
  ·rfl
 simp only[aA,Tryz.f70,KP,↓reduceIte,reduceEqDiff,reduceLT,reduceAdd,reduceCtorEq,h.uB,h.yP,h.xL,h.BA,ln,st,lm,lk,lv,kY]
 refine Jc h hsm (σ0:=(Z++[O.map []]).set b (.cells 92 [.mp Z.length] true)) (n0:=0) (λF' σ' hs' hk' g0 g5=>?_) l.length 0 _ _ (by omega) hs1 hv1 (Kp.refl _ _) ?_ ?_ ?_ ?_ ?_
 ·have lm2:=uV h hs'.obj
  have lk2:=B4 h hs'.map
  simp only[KP,↓reduceIte,reduceEqDiff,reduceLT,reduceCtorEq,h.yP,h.xL,h.BA,lm2,lk2,g0,g5]
  refine⟨Z.length,hs',ae _,λj o hj e=>?_⟩
  have hjl:=(AS.1 e).1
  exact hk' j o (by omega) (hk1 j o hj e)
 all_goals simp only[FT.dJ,KP,↓reduceIte,reduceEqDiff,reduceCtorEq]
 all_goals rfl
theorem Uq (h:cK E) {l:List aJ}{v:V}(hv:SV Z v l)(hsm:l.length<=10000000000) :
  aC E 60 [v] Z λr σ'=>∃m,r=.ref Z.length 0/\dG σ' Z.length m (keys [] l)/\Z.length<m/\tR Z σ':=by
 rw[eD h.hs60 h.sp60 h.fn60 h.md60,aX (by kernel_rfl)]
 simp only[aA,Tryz.f60,KP,↓reduceIte,reduceEqDiff,reduceLT,reduceCtorEq,h.xL,h.BA,Ax.fill]
 have hb:(Z++[O.cells 92 [.b_] true])[Z.length]?=some (.cells 92 [.b_] true):=by
  rw[ck (ae _),ju];rfl
 refine aO (Rh h hb (hv.keep (dL.app _ _)) hsm) ?_
 rintro r σ' ⟨m,hs,hm,hk⟩
 simp only[KP,↓reduceIte,reduceEqDiff,reduceLT]
 rw[an]at hm
 refine⟨m,hs,by simp at hm;omega,λj o e=>?_⟩
 have hjl:=(AS.1 e).1
 exact hk j o (by omega) (nJ e _)
theorem MP (ks:List aJ):(mP ks).map (λ(e:V × V)=>rowOf e.1)=ks.map row:=by
 unfold mP
 rw[ku]
 rfl
theorem DS:∀ks:List aJ,(∀k∈ks,k.2.length<=9223372036854775807)->allRows mX (ks.map row)=true
 | [],_=>rfl
 |k::ks,hk=>by
  show (match Nat.ble k.2.length 9223372036854775807 with
   |true=>allRows mX (ks.map row)
   |false=>false)=true
  rw[nr (hk k (IN ..))]
  exact DS ks λx hx=>hk x (No _ hx)
def Own (Z σ':Sg) (r:V) (l:List aJ):Prop:=(r=.aB/\l=[])\/∃j,Z.length<=j/\r=.sl j 0 l.length none/\σ'[j]?=some (.cells 51 (l.flatMap row) false)
theorem Own.sv {Z σ':Sg}{r:V}{l:List aJ}(h:Own Z σ' r l):SV σ' r l:=by
 rcases h with h | ⟨j,_,h1,h2⟩
 ·exact .inl h
 ·exact .inr (.inr ⟨j,_,_,h1,h2,ak (by rw[kF];exact ae _)⟩)
end
end
section
section
variable {E:Env}{Z:Sg}{K:V->Sg->Prop}
theorem HX {α:Type}{f:α->Option α}:∀l:List α,(∀x∈l,f x=some x)->aU f l=some l
 | [],_=>rfl
 |x::l,h=>by rw[aU,h x (IN ..),HX l λy hy=>h y (No _ hy)]
theorem CX (h:cK E) (x:aJ):∀ks:List aJ,iR (fB E 51) (.agg [.bool x.1,.str x.2]) (mP ks)=some (if x∈ks then some (.bool true) else none)
 | []=>rfl
 |y::r=>by
  show (match fB E 51 (.agg [.bool x.1,.str x.2]) (.agg [.bool y.1,.str y.2]) with
   |some true=>some (some (V.bool true))
   |some false=>iR (fB E 51) (.agg [.bool x.1,.str x.2]) (mP r)
   |none=>none)=_
  rw[rR h,CX h x r]
  by_cases hxy:x=y
  ·rw[AT (show ((x.1,x.2):aJ)=(y.1,y.2) from hxy)]
   show some (some (V.bool true))=some (if x∈y::r then some (V.bool true) else none)
   rw[b8 (by rw[hxy];exact IN ..)]
  ·rw[AI (show ¬ ((x.1,x.2):aJ)=(y.1,y.2) from hxy)]
   by_cases hx:x∈r
   ·rw[b8 hx,b8 (No _ hx)]
   ·rw[ay hx,ay (by simp[hxy,hx])]
structure UnionE (E:Env):Prop where
 hs:E.hspec 61=none
 sp:E.spec 61=none
 fn:E.fn 61=some (aA Tryz.f61)
 md:E.mode 61=.shared
end
end
end Go.Proofs.YtmbikbgdbbcbmaaGreatDoor.Lb
end
section
namespace Go.Proofs.YtmbikbgdbbcbmaaGreatDoor
open Go Go.Ax Go.AxS
section
section
variable {E:Env}{Z:Sg}{K:V->Sg->Prop}
structure dP where
 key:aJ
 s:Nat
 m:Nat
 ks:List aJ
def pO (x:aJ):V:=.agg [.bool x.1,.str x.2]
def oI (e:dP):V × V:=(pO e.key,.ref e.s 0)
structure i_ (Z:Sg) (b:Nat) (L:List dP):Prop where
 map:Z[b]?=some (.map (L.map oI))
 sets:∀e∈L,Lb.dG Z e.s e.m e.ks
 nodup:(L.map dP.key).Nodup
theorem CY (hl:Lb.cK E) (x:aJ):∀L:List dP,iR (fB E 51) (pO x) (L.map oI)=some ((L.find? λe=>decide (x=e.key)).map λe=>.ref e.s 0)
 | []=>rfl
 |e::L=>by
  show (match fB E 51 (.agg [.bool x.1,.str x.2]) (.agg [.bool e.key.1,.str e.key.2]) with
   |some true=>some (some (V.ref e.s 0))
   |some false=>iR (fB E 51) (pO x) (L.map oI)
   |none=>none)=_
  rw[Lb.rR hl,jv]
  by_cases h:x=e.key
  ·rw[AT (show ((x.1,x.2):aJ)=(e.key.1,e.key.2) from h)];rfl
  ·rw[AI (show ¬ ((x.1,x.2):aJ)=(e.key.1,e.key.2) from h)]
   exact CY hl x L
theorem EU (hl:Lb.cK E) (x:aJ) (s m:Nat) (ks:List aJ):∀L:List dP,(∀e∈L,x≠e.key)->lA (fB E 51) (pO x) (.ref s 0) (L.map oI)=some ((L++[dP.mk x s m ks]).map oI)
 | [],_=>rfl
 |e::L,h=>by
  have hx:=h e (IN ..)
  show (match fB E 51 (.agg [.bool x.1,.str x.2]) (.agg [.bool e.key.1,.str e.key.2]) with
   |some true=>some ((pO x,V.ref s 0)::L.map oI)
   |some false=>(match lA (fB E 51) (pO x) (.ref s 0) (L.map oI) with
    |some r=>some (oI e::r)
    |none=>none)
   |none=>none)=_
  rw[Lb.rR hl,AI (show ¬ ((x.1,x.2):aJ)=(e.key.1,e.key.2) from hx),EU hl x s m ks L λy hy=>h y (No _ hy)]
  rfl
def bO (L:List dP) (x:aJ):Option dP:=L.find? λe=>decide (x=e.key)
theorem E3 (h':qO E)(hl:Lb.cK E) {Z:Sg}{b:Nat}{L:List dP}(hm:Z[b]?=some (.map (L.map oI))) (x:aJ):lookup E Z 98 (.mp b) (pO x) false=some (match bO L x with | some e=>.ref e.s 0 | none=>.fJ):=by
 have hk:=Lb.rO hl x.1 x.2
 unfold Ax.lookup
 simp only[h'.xK,hl.uB,pO,hk,entriesOf,hm,di,ai,aq]
 have:=CY hl x L
 unfold pO at this
 rw[this]
 unfold bO
 cases L.find? λe=>decide (x=e.key) <;> rfl
theorem zM (h':qO E)(hl:Lb.cK E) {Z:Sg}{b:Nat}{L:List dP}(hm:i_ Z b L) (x:aJ):lookup E Z 98 (.mp b) (pO x) false=some (match bO L x with | some e=>.ref e.s 0 | none=>.fJ):=E3 h' hl hm.map x
theorem Gc (h':qO E)(hl:Lb.cK E) {Z:Sg}{b:Nat}{L:List dP}(hm:i_ Z b L) {x:aJ}(hx:bO L x=none) {s m:Nat}{ks:List aJ}:mapUpdate E Z 98 (.mp b) (pO x) (.ref s 0)=some (Z.set b (.map ((L++[dP.mk x s m ks]).map oI))):=by
 have hk:=Lb.rO hl x.1 x.2
 have hne:∀e∈L,x≠e.key:=λe he hxe=>by
  have:=jx.1 hx e he
  simp[hxe]at this
 have:=EU hl x s m ks L hne
 unfold pO at this
 unfold Ax.mapUpdate
 simp only[h'.xK,pO,hk,hm.map,this,fS,V.aW,di,j9,ai,aq,bt]
end
end
section
section
variable {E:Env}{Z:Sg}{K:V->Sg->Prop}
theorem dG.keep {Z σ':Sg}{s m x:Nat}{ks:List aJ}{es:List (V × V)}(h:Lb.dG Z s m ks)(hx:Z[x]?=some (.map es))(hm:m≠x) (k:∀(j:Nat) (o:O),j≠x->Z[j]?=some o->σ'[j]?=some o):Lb.dG σ' s m ks:=by
 refine⟨k _ _ (λe=>?_) h.obj,k _ _ hm h.map,h.nodup⟩
 have:=h.obj
 rw[e,hx]at this
 cases this
theorem i_.keep {Z σ':Sg}{b x:Nat}{L:List dP}{es:List (V × V)}(h:i_ Z b L)(hx:Z[x]?=some (.map es))(hb:b≠x)(hm:x ∉ L.map dP.m) (k:∀(j:Nat) (o:O),j≠x->Z[j]?=some o->σ'[j]?=some o):i_ σ' b L:=
 ⟨k _ _ hb h.map,λe he=>dG.keep (h.sets e he) hx (λe'=>hm (cg.2 ⟨e,he,e'⟩)) k,h.nodup⟩
def qD (L:List dP) (x:aJ) (ks:List aJ):List dP:=L.map λe=>if e.key=x then { e with ks:=ks } else e
theorem Mz (L:List dP) (x:aJ) (ks:List aJ):(qD L x ks).map oI=L.map oI:=by
 unfold qD
 rw[ku]
 refine jd λe _=>?_
 show oI (if e.key=x then _ else e)=oI e
 by_cases h:e.key=x
 ·rw[b8 h];rfl
 ·rw[ay h]
theorem En (L:List dP) (x:aJ) (ks:List aJ):(qD L x ks).map dP.key=L.map dP.key:=by
 unfold qD
 rw[ku]
 refine jd λe _=>?_
 show dP.key (if e.key=x then _ else e)=e.key
 by_cases h:e.key=x
 ·rw[b8 h]
 ·rw[ay h]
theorem KO (L:List dP) (x:aJ) (ks:List aJ):(qD L x ks).map dP.m=L.map dP.m:=by
 unfold qD
 rw[ku]
 refine jd λe _=>?_
 show dP.m (if e.key=x then _ else e)=e.m
 by_cases h:e.key=x
 ·rw[b8 h]
 ·rw[ay h]
theorem Aw {β:Type}{f:dP->β}:∀{L:List dP},(L.map f).Nodup->∀e∈L,∀e'∈L,f e=f e'->e=e'
 | [],_,e,he,_,_,_=>by cases he
 |a::L,h,e,he,e',he',hm=>by
  rw[bj,dm]at h
  rcases By.1 he with h1 | h1 <;> rcases By.1 he' with h2 | h2
  ·rw[h1,h2]
  ·exact absurd (cg.2 ⟨e',h2,by rw[<- hm,h1]⟩) h.1
  ·exact absurd (cg.2 ⟨e,h1,by rw[hm,h2]⟩) h.1
  ·exact Aw h.2 e h1 e' h2 hm
theorem i_.up {Z σ':Sg}{b:Nat}{L:List dP}{e:dP}{ks:List aJ}(h:i_ Z b L)(he:e∈L)(hnd:(L.map dP.m).Nodup)(hb:b≠e.m)(hs:Lb.dG σ' e.s e.m ks) (k:∀(j:Nat) (o:O),j≠e.m->Z[j]?=some o->σ'[j]?=some o):i_ σ' b (qD L e.key ks):=by
 refine⟨by rw[Mz];exact k _ _ hb h.map,λa ha=>?_,by rw[En];exact h.nodup⟩
 obtain⟨a0,ha0,rfl⟩:=cg.1 ha
 by_cases hk:a0.key=e.key
 ·have hae:a0=e:=Aw h.nodup a0 ha0 e he hk
  subst hae
  rw[b8 rfl]
  exact hs
 ·rw[ay hk]
  exact dG.keep (h.sets a0 ha0) (h.sets e he).map (λe'=>hk (by rw[Aw hnd a0 ha0 e he e'])) k
structure nY (E:Env) (Z:Sg) (gb m0 m1 sa ma b3 b4:Nat) (es0 es1:List (V × V)) (A:List aJ) (L3 L4:List dP):Prop where
 g:Z[gb]?=some (.cells 100 [.mp m0,.mp m1,.ref sa 0,.mp b3,.mp b4] true)
 rules:Z[m0]?=some (.map es0)
 jN:Z[m1]?=some (.map es1)
 all:Lb.dG Z sa ma A
 kC:i_ Z b3 L3
 jX:i_ Z b4 L4
 sep:(m0::m1::ma::b3::b4::(L3.map dP.m++L4.map dP.m)).Nodup
end
end
section
section
variable {E:Env}{Z:Sg}{K:V->Sg->Prop}
theorem dG.app {Z:Sg}{s m:Nat}{ks:List aJ}(h:Lb.dG Z s m ks) (y:O):Lb.dG (Z++[y]) s m ks:=⟨aP h.obj,aP h.map,h.nodup⟩
theorem i_.app {Z:Sg}{b:Nat}{L:List dP}(h:i_ Z b L) (y:O):i_ (Z++[y]) b L:=⟨aP h.map,λe he=>dG.app (h.sets e he) y,h.nodup⟩
theorem nY.app {{Z:Sg}} {{gb m0 m1 sa ma b3 b4:Nat}} {{es0 es1:List (V × V)}} {{A:List aJ}} {{L3 L4:List dP}}(h:nY E Z gb m0 m1 sa ma b3 b4 es0 es1 A L3 L4) (y:O):nY E (Z++[y]) gb m0 m1 sa ma b3 b4 es0 es1 A L3 L4:=
 ⟨aP h.g,aP h.rules,aP h.jN,dG.app h.all y,h.kC.app y,h.jX.app y,h.sep⟩
theorem nY.more {{Z σ':Sg}} {{gb m0 m1 sa ma b3 b4:Nat}} {{es0 es1:List (V × V)}} {{A:List aJ}} {{L3 L4:List dP}}(h:nY E Z gb m0 m1 sa ma b3 b4 es0 es1 A L3 L4) {A':List aJ}(hs:Lb.dG σ' sa ma A') (k:∀(j:Nat) (o:O),j≠ma->Z[j]?=some o->σ'[j]?=some o):nY E σ' gb m0 m1 sa ma b3 b4 es0 es1 A' L3 L4:=by
 have sep:=h.sep
 simp only[dm,By,bw,qg]at sep
 obtain⟨⟨-,n0,-⟩,⟨n1,-⟩,⟨n3,n4,n5,n6⟩,-⟩:=sep
 have hx:=h.all.map
 have ng:gb≠ma:=λe=>by
  have:=h.g
  rw[e,hx]at this
  cases this
 exact⟨k _ _ ng h.g,k _ _ n0 h.rules,k _ _ n1 h.jN,hs,h.kC.keep hx (λe=>n3 e.symm) n5 k,h.jX.keep hx (λe=>n4 e.symm) n6 k,h.sep⟩
theorem nY.rule {{Z:Sg}} {{gb m0 m1 sa ma b3 b4:Nat}} {{es0 es1:List (V × V)}} {{A:List aJ}} {{L3 L4:List dP}}(h:nY E Z gb m0 m1 sa ma b3 b4 es0 es1 A L3 L4) (es:List (V × V)):nY E (Z.set m0 (.map es)) gb m0 m1 sa ma b3 b4 es es1 A L3 L4:=by
 have sep:=h.sep
 simp only[dm,By,bw,qg]at sep
 obtain⟨⟨n1,na,n3,n4,n5,n6⟩,-⟩:=sep
 have hx:=h.rules
 have ng:gb≠m0:=λe=>by
  have:=h.g
  rw[e,hx]at this
  cases this
 have k:∀(j:Nat) (o:O),j≠m0->Z[j]?=some o->(Z.set m0 (.map es))[j]?=some o:=λj o hj ho=>by
  rw[OF (jo hj)];exact ho
 exact⟨k _ _ ng h.g,bp (AS.1 hx).1,k _ _ (jo n1) h.jN,dG.keep h.all hx (jo na) k,h.kC.keep hx (jo n3) n5 k,h.jX.keep hx (jo n4) n6 k,h.sep⟩
theorem nY.PO {{Z:Sg}} {{gb m0 m1 sa ma b3 b4:Nat}} {{es0 es1:List (V × V)}} {{A:List aJ}} {{L3 L4:List dP}}(h:nY E Z gb m0 m1 sa ma b3 b4 es0 es1 A L3 L4) (es:List (V × V)):nY E (Z.set m1 (.map es)) gb m0 m1 sa ma b3 b4 es0 es A L3 L4:=by
 have sep:=h.sep
 simp only[dm,By,bw,qg]at sep
 obtain⟨⟨n1,-⟩,⟨na,n3,n4,n5,n6⟩,-⟩:=sep
 have hx:=h.jN
 have ng:gb≠m1:=λe=>by
  have:=h.g
  rw[e,hx]at this
  cases this
 have k:∀(j:Nat) (o:O),j≠m1->Z[j]?=some o->(Z.set m1 (.map es))[j]?=some o:=λj o hj ho=>by
  rw[OF (jo hj)];exact ho
 exact⟨k _ _ ng h.g,k _ _ n1 h.rules,bp (AS.1 hx).1,dG.keep h.all hx (jo na) k,h.kC.keep hx (jo n3) n5 k,h.jX.keep hx (jo n4) n6 k,h.sep⟩
end
end
section
section
variable {E:Env}{Z:Sg}{K:V->Sg->Prop}
theorem nY.facts {Z:Sg}{gb m0 m1 sa ma b3 b4:Nat}{es0 es1:List (V × V)}{A:List aJ}{L3 L4:List dP}(h:nY E Z gb m0 m1 sa ma b3 b4 es0 es1 A L3 L4):(L3.map dP.m).Nodup/\(L4.map dP.m).Nodup/\∀x,x∈L3.map dP.m\/x∈L4.map dP.m->m0≠x/\m1≠x/\ma≠x/\b3≠x/\b4≠x:=by
 have sep:=h.sep
 simp only[dm,By,bw,qg,l6]at sep
 obtain⟨⟨-,-,-,-,a5,a6⟩,⟨-,-,-,b5,b6⟩,⟨-,-,c5,c6⟩,⟨-,d5,d6⟩,⟨e5,e6⟩,f1,f2,-⟩:=sep
 refine⟨f1,f2,λx hx=>?_⟩
 rcases hx with hx | hx
 ·exact⟨λe=>a5 (by rw[e];exact hx),λe=>b5 (by rw[e];exact hx),λe=>c5 (by rw[e];exact hx),λe=>d5 (by rw[e];exact hx),λe=>e5 (by rw[e];exact hx)⟩
 ·exact⟨λe=>a6 (by rw[e];exact hx),λe=>b6 (by rw[e];exact hx),λe=>c6 (by rw[e];exact hx),λe=>d6 (by rw[e];exact hx),λe=>e6 (by rw[e];exact hx)⟩
theorem nY.Um {Z:Sg}{gb m0 m1 sa ma b3 b4:Nat}{es0 es1:List (V × V)}{A:List aJ}{L3 L4:List dP}(h:nY E Z gb m0 m1 sa ma b3 b4 es0 es1 A L3 L4):∀x∈L3.map dP.m,x ∉ L4.map dP.m:=by
 have sep:=h.sep
 simp only[dm,By,bw,qg,l6]at sep
 obtain⟨-,-,-,-,-,-,-,f3⟩:=sep
 exact λx hx hy=>f3 x hx x hy rfl
theorem nY.PC {{Z σ':Sg}} {{gb m0 m1 sa ma b3 b4:Nat}} {{es0 es1:List (V × V)}} {{A:List aJ}} {{L3 L4:List dP}}(h:nY E Z gb m0 m1 sa ma b3 b4 es0 es1 A L3 L4) {e:dP}(he:e∈L3) {ks:List aJ}(hs:Lb.dG σ' e.s e.m ks) (k:∀(j:Nat) (o:O),j≠e.m->Z[j]?=some o->σ'[j]?=some o):nY E σ' gb m0 m1 sa ma b3 b4 es0 es1 A (qD L3 e.key ks) L4:=by
 obtain⟨f1,f2,f3⟩:=h.facts
 have hm:e.m∈L3.map dP.m:=cg.2 ⟨e,he,rfl⟩
 obtain⟨n1,n2,n3,n4,n5⟩:=f3 e.m (Or.inl hm)
 have hx:=(h.kC.sets e he).map
 have ng:gb≠e.m:=λe'=>by
  have:=h.g
  rw[e',hx]at this
  cases this
 have nb:=n4
 exact⟨k _ _ ng h.g,k _ _ n1 h.rules,k _ _ n2 h.jN,dG.keep h.all hx n3 k,i_.up h.kC he f1 nb hs k,h.jX.keep hx n5 (λhx'=>h.Um _ hm hx') k,by rw[KO];exact h.sep⟩
theorem nY.Oi {{Z σ':Sg}} {{gb m0 m1 sa ma b3 b4:Nat}} {{es0 es1:List (V × V)}} {{A:List aJ}} {{L3 L4:List dP}}(h:nY E Z gb m0 m1 sa ma b3 b4 es0 es1 A L3 L4) {e:dP}(he:e∈L4) {ks:List aJ}(hs:Lb.dG σ' e.s e.m ks) (k:∀(j:Nat) (o:O),j≠e.m->Z[j]?=some o->σ'[j]?=some o):nY E σ' gb m0 m1 sa ma b3 b4 es0 es1 A L3 (qD L4 e.key ks):=by
 obtain⟨f1,f2,f3⟩:=h.facts
 have hm:e.m∈L4.map dP.m:=cg.2 ⟨e,he,rfl⟩
 obtain⟨n1,n2,n3,n4,n5⟩:=f3 e.m (Or.inr hm)
 have hx:=(h.jX.sets e he).map
 have ng:gb≠e.m:=λe'=>by
  have:=h.g
  rw[e',hx]at this
  cases this
 have nb:=n5
 exact⟨k _ _ ng h.g,k _ _ n1 h.rules,k _ _ n2 h.jN,dG.keep h.all hx n3 k,h.kC.keep hx n4 (λhx'=>h.Um _ hx' hm) k,i_.up h.jX he f2 nb hs k,by rw[KO];exact h.sep⟩
end
end
section
section
variable {E:Env}{Z:Sg}{K:V->Sg->Prop}
theorem i_.oG {Z σ1:Sg}{b:Nat}{L:List dP}(h:i_ Z b L) (k:Lb.tR Z σ1):i_ σ1 b L:=⟨k _ _ h.map,λe he=>⟨k _ _ (h.sets e he).obj,k _ _ (h.sets e he).map,(h.sets e he).nodup⟩,h.nodup⟩
theorem nY.oG {{Z σ1:Sg}} {{gb m0 m1 sa ma b3 b4:Nat}} {{es0 es1:List (V × V)}} {{A:List aJ}} {{L3 L4:List dP}}(h:nY E Z gb m0 m1 sa ma b3 b4 es0 es1 A L3 L4) (k:Lb.tR Z σ1):nY E σ1 gb m0 m1 sa ma b3 b4 es0 es1 A L3 L4:=
 ⟨k _ _ h.g,k _ _ h.rules,k _ _ h.jN,⟨k _ _ h.all.obj,k _ _ h.all.map,h.all.nodup⟩,h.kC.oG k,h.jX.oG k,h.sep⟩
theorem nY.below {Z:Sg}{gb m0 m1 sa ma b3 b4:Nat}{es0 es1:List (V × V)}{A:List aJ}{L3 L4:List dP}(h:nY E Z gb m0 m1 sa ma b3 b4 es0 es1 A L3 L4) {m:Nat}(hm:Z.length<=m):m ∉ m0::m1::ma::b3::b4::(L3.map dP.m++L4.map dP.m):=by
 have lt:∀{i:Nat}{o:O},Z[i]?=some o->i<m:=λe=>gv (AS.1 e).1 hm
 have h0:=lt h.rules
 have h1:=lt h.jN
 have h2:=lt h.all.map
 have h3:=lt h.kC.map
 have h4:=lt h.jX.map
 intro hx
 simp only[By,bw,cg]at hx
 rcases hx with e | e | e | e | e | ⟨e,he,e'⟩ | ⟨e,he,e'⟩
 ·omega
 ·omega
 ·omega
 ·omega
 ·omega
 ·have:=lt (h.kC.sets e he).map;omega
 ·have:=lt (h.jX.sets e he).map;omega
theorem i_.new {Z:Sg}{b:Nat}{L:List dP}{x:aJ}{s m:Nat}(h:i_ Z b L)(hx:bO L x=none)(hs:Lb.dG Z s m [])(hb:b ∉ L.map dP.m)(hm:m≠b):i_ (Z.set b (.map ((L++[dP.mk x s m []]).map oI))) b (L++[dP.mk x s m []]):=by
 have k:∀(j:Nat) (o:O),j≠b->Z[j]?=some o->(Z.set b (.map ((L++[dP.mk x s m []]).map oI)))[j]?=some o:=λj o hj ho=>by
  rw[OF (jo hj)];exact ho
 refine⟨bp (AS.1 h.map).1,λe he=>?_,?_⟩
 ·rcases bw.1 he with he | he
  ·exact dG.keep (h.sets e he) h.map (λe'=>hb (cg.2 ⟨e,he,e'⟩)) k
  ·rw[dc.1 he]
   exact dG.keep hs h.map hm k
 ·rw[gp,l6]
  refine⟨h.nodup,by simp,λy hy z hz e=>?_⟩
  obtain⟨a,ha,rfl⟩:=cg.1 hy
  have hz:z=x:=by simpa using hz
  have:=jx.1 hx a ha
  simp[<- hz,<- e]at this
theorem nY.Sf {{Z σ1:Sg}} {{gb m0 m1 sa ma b3 b4:Nat}} {{es0 es1:List (V × V)}} {{A:List aJ}} {{L3 L4:List dP}}(h:nY E Z gb m0 m1 sa ma b3 b4 es0 es1 A L3 L4) {x:aJ}(hx:bO L3 x=none) {s m:Nat} (k1:Lb.tR Z σ1)(hs:Lb.dG σ1 s m [])(hm:Z.length<=m):nY E (σ1.set b3 (.map ((L3++[dP.mk x s m []]).map oI))) gb m0 m1 sa ma b3 b4 es0 es1 A (L3++[dP.mk x s m []]) L4:=by
 have h1:=h.oG k1
 have fresh:=h.below hm
 have hx1:=h1.kC.map
 have sep:=h.sep
 simp only[dm,By,bw,qg]at sep
 obtain⟨⟨-,-,a3,-⟩,⟨-,b3',-⟩,⟨c3,-⟩,⟨n3,n4,n5⟩,-⟩:=sep
 have hmb:m≠b3:=λe=>fresh (by rw[e];simp)
 have new:=i_.new h1.kC hx hs n4 hmb
 have ng:gb≠b3:=λe=>by
  have:=h1.g
  rw[e,hx1]at this
  cases this
 have k:∀(j:Nat) (o:O),j≠b3->σ1[j]?=some o->(σ1.set b3 (.map ((L3++[dP.mk x s m []]).map oI)))[j]?=some o:=λj o hj ho=>by
  rw[OF (jo hj)];exact ho
 have hp:(m0::m1::ma::b3::b4::((L3++[dP.mk x s m []]).map dP.m++L4.map dP.m)).Perm (m::(m0::m1::ma::b3::b4::(L3.map dP.m++L4.map dP.m))):=by simpa using jl (l₁:=m0::m1::ma::b3::b4::L3.map dP.m) (a:=m) (l₂:=L4.map dP.m)
 exact⟨k _ _ ng h1.g,k _ _ a3 h1.rules,k _ _ b3' h1.jN,dG.keep h1.all hx1 c3 k,new,h1.jX.keep hx1 (λe=>n3 e.symm) n5 k,hp.nodup_iff.2 (dm.2 ⟨fresh,h.sep⟩)⟩
theorem nY.RH {{Z σ1:Sg}} {{gb m0 m1 sa ma b3 b4:Nat}} {{es0 es1:List (V × V)}} {{A:List aJ}} {{L3 L4:List dP}}(h:nY E Z gb m0 m1 sa ma b3 b4 es0 es1 A L3 L4) {x:aJ}(hx:bO L4 x=none) {s m:Nat} (k1:Lb.tR Z σ1)(hs:Lb.dG σ1 s m [])(hm:Z.length<=m):nY E (σ1.set b4 (.map ((L4++[dP.mk x s m []]).map oI))) gb m0 m1 sa ma b3 b4 es0 es1 A L3 (L4++[dP.mk x s m []]):=by
 have h1:=h.oG k1
 have fresh:=h.below hm
 have hx1:=h1.jX.map
 have sep:=h.sep
 simp only[dm,By,bw,qg]at sep
 obtain⟨⟨-,-,-,a3,-⟩,⟨-,-,b3',-⟩,⟨-,c3,-⟩,⟨n3,-,-⟩,⟨n4,n5⟩,-⟩:=sep
 have hmb:m≠b4:=λe=>fresh (by rw[e];simp)
 have new:=i_.new h1.jX hx hs n5 hmb
 have ng:gb≠b4:=λe=>by
  have:=h1.g
  rw[e,hx1]at this
  cases this
 have k:∀(j:Nat) (o:O),j≠b4->σ1[j]?=some o->(σ1.set b4 (.map ((L4++[dP.mk x s m []]).map oI)))[j]?=some o:=λj o hj ho=>by
  rw[OF (jo hj)];exact ho
 have hp:(m0::m1::ma::b3::b4::(L3.map dP.m++(L4++[dP.mk x s m []]).map dP.m)).Perm (m::(m0::m1::ma::b3::b4::(L3.map dP.m++L4.map dP.m))):=by simpa using jl (l₁:=m0::m1::ma::b3::b4::(L3.map dP.m++L4.map dP.m)) (a:=m) (l₂:=[])
 exact⟨k _ _ ng h1.g,k _ _ a3 h1.rules,k _ _ b3' h1.jN,dG.keep h1.all hx1 c3 k,h1.kC.keep hx1 n3 n4 k,new,hp.nodup_iff.2 (dm.2 ⟨fresh,h.sep⟩)⟩
end
end
section
section
variable {E:Env}{Z:Sg}{K:V->Sg->Prop}
theorem Zu (h:bJ E)(h':qO E)(hl:Lb.cK E) {U:Sg} {{gb m0 m1 sa ma b3 b4:Nat}} {{es0 es1:List (V × V)}} {{A:List aJ}} {{L3 L4:List dP}} (ga:nY E U gb m0 m1 sa ma b3 b4 es0 es1 A L3 L4) {x y:aJ}{n0 n1:Nat}(hx:U[n0]?=some (O.cells 51 [.bool x.1,.str x.2] true))(hy:U[n1]?=some (O.cells 51 [.bool y.1,.str y.2] true))(hA:A.length<=1000000) (F:FT) (g0:F.get 0=.ref gb 0) (g4:F.get 4=.ref n0 0) (g5:F.get 5=.ref n1 0) {st:List iW}{Q:Ax.X->Fr->Sg->Prop}
  (hk:∀F' τ',(∀k,k∈[0,4,5]->F'.get k=F.get k)->nY E τ' gb m0 m1 sa ma b3 b4 es0 es1 (keys A [x,y]) L3 L4->τ'[n0]?=some (O.cells 51 [.bool x.1,.str x.2] true)->τ'[n1]?=some (O.cells 51 [.bool y.1,.str y.2] true)->Lb.dL U τ'->M E st .normal ⟨57,F'⟩ τ' Q):Ax.R E (.region 1 (opsOf (cutAt [1,0] (aA Tryz.f72).code)) true) st ⟨57,F⟩ U Q:=by
 have ga1:=ga.app (O.cells 51 [.bool x.1,.str x.2,.bool y.1,.str y.2] true)
 have hx1:=aP (x:=O.cells 51 [.bool x.1,.str x.2,.bool y.1,.str y.2] true) hx
 have hy1:=aP (x:=O.cells 51 [.bool x.1,.str x.2,.bool y.1,.str y.2] true) hy
 have hsv:Lb.SV (U++[O.cells 51 [.bool x.1,.str x.2,.bool y.1,.str y.2] true]) (.sl U.length 0 2 none) [x,y]:=.inr (.inr ⟨U.length,_,true,rfl,aR,rfl⟩)
 obtain⟨n,r,τ2,hcall,hr,hset,hkp⟩:=Lb.Rj hl ga1.all hsv (show 2<=10000000000 by omega) (by omega)
 have ga2:=ga1.more hset hkp
 have hma:=ga1.all.map
 have ne:∀{k:Nat}{t:Nat}{cs:List V}{ex:Bool},(U++[O.cells 51 [.bool x.1,.str x.2,.bool y.1,.str y.2] true])[k]?=some (.cells t cs ex)->k≠ma:=λhk e=>by
  rw[e,hma]at hk
  cases hk
 have hx2:=hkp _ _ (ne hx1) hx1
 have hy2:=hkp _ _ (ne hy1) hy1
 have g:=ga.g
 have g1:=ga1.g
 have vr:oO 12 (.ref sa 0) (.ref sa 0)=true:=by unfold oO;simp
 have key:∃F',bG E (ev E n) (opsOf (cutAt [1,0] (aA Tryz.f72).code)) ⟨57,F⟩ U=some (⟨57,F'⟩,τ2)/\(∀k,k∈[0,4,5]->F'.get k=F.get k):=by
  unfold bG
  rw[h'.WV,h'.Yy]
  simp only[aA,Tryz.f72,KP,Ax.loadAt,↓reduceIte,reduceEqDiff,reduceLT,reduceLeDiff,reduceAdd,reduceMul,reduceCtorEq,h.fO,h.cL,opsOf,cutAt,Fz.lits,eJ,bB,bQ,iX,Ax.comp,Ax.last,dM,Ax.again,Ax.fill,fG,fl,hl.uB,h'.mR,g0,g4,g5,hx,hy,g,g1,hcall,vr]
  refine⟨_,rfl,λk hk=>?_⟩
  simp only[By,br,dz]at hk
  rcases hk with rfl | rfl | rfl <;> simp +decide only[GS]
 obtain⟨F',hD,hF⟩:=key
 exact Eq.mpr (fP hD) (hk F' τ2 hF ga2 hx2 hy2 ((Lb.dL.app U _).trans (Lb.Kp.u_ hkp hma)))
end
end
section
section
variable {E:Env}{Z:Sg}{K:V->Sg->Prop}
theorem gM {L:List dP}{x:aJ}{e:dP}(h:bO L x=some e):e∈L/\x=e.key:=by
 unfold bO at h
 exact⟨List.mem_of_find?_eq_some h,by have:=List.find?_some h;simpa using this⟩
theorem LC (h:bJ E)(h':qO E)(hl:Lb.cK E) {U:Sg}{nb mb:Nat}{L:List dP}{x y:aJ}{e:dP}(hm:i_ U mb L)(he:bO L x=some e)(hb:U[nb]?=some (O.cells 147 [.mp mb,.bool x.1,.str x.2,.bool y.1,.str y.2] true))(hks:e.ks.length<=1000000)(hmb:mb≠e.m) (F:FT) (g7:F.get 7=.ref nb 0) {st:List iW}{Q:Ax.X->Fr->Sg->Prop}
  (hk:∀F' τ',(∀k,k∈[0,4,5,7,30,31,32]->F'.get k=F.get k)->Lb.dG τ' e.s e.m (keys e.ks [y])->Lb.Kp (U++[O.cells 51 [.bool y.1,.str y.2] true]) τ' e.m->M E st .normal ⟨57,F'⟩ τ' Q):Ax.R E (.region 7 (opsOf (cutAt [1,1,1,2,2,1,1,0,2,1,1] (aA Tryz.f72).code)) true) st ⟨57,F⟩ U Q:=by
 obtain⟨hme,hxe⟩:=gM he
 have hm1:=hm.app (O.cells 51 [.bool y.1,.str y.2] true)
 have hb1:=aP (x:=O.cells 51 [.bool y.1,.str y.2] true) hb
 have hs1:=hm1.sets e hme
 have hsv:Lb.SV (U++[O.cells 51 [.bool y.1,.str y.2] true]) (.sl U.length 0 1 none) [y]:=.inr (.inr ⟨U.length,_,true,rfl,aR,rfl⟩)
 obtain⟨n,r,τ2,hcall,hr,hset,hkp⟩:=Lb.Rj hl hs1 hsv (show 1<=10000000000 by omega) (by omega)
 have ne:nb≠e.m:=λe'=>by
  have:=hs1.map
  rw[<- e',hb1]at this
  cases this
 have lk:lookup E U 98 (.mp mb) (.agg [.bool x.1,.str x.2]) false=some (.ref e.s 0):=by
  have:=zM h' hl hm x
  rw[he]at this
  exact this
 have lk1:lookup E (U++[O.cells 51 [.bool y.1,.str y.2] true]) 98 (.mp mb) (.agg [.bool x.1,.str x.2]) false=some (.ref e.s 0):=by
  have:=zM h' hl hm1 x
  rw[he]at this
  exact this
 have lk2:lookup E τ2 98 (.mp mb) (.agg [.bool x.1,.str x.2]) false=some (.ref e.s 0):=by
  have:=E3 h' hl (hkp _ _ hmb hm1.map) x
  rw[he]at this
  exact this
 have vr:oO 12 (.ref e.s 0) (.ref e.s 0)=true:=by unfold oO;simp
 have vm:oO 12 (.mp mb) (.mp mb)=true:=by unfold oO;simp
 have vl:oO 12 (.agg [.bool x.1,.str x.2]) (.agg [.bool x.1,.str x.2])=true:=p_ λz hz=>by
  simp only[By,br,dz]at hz
  rcases hz with rfl | rfl
  ·show decide (x.1=x.1)=true
   simp
  ·exact wU 10 x.2
 have key:∃F',bG E (ev E n) (opsOf (cutAt [1,1,1,2,2,1,1,0,2,1,1] (aA Tryz.f72).code)) ⟨57,F⟩ U=some (⟨57,F'⟩,τ2)/\(∀k,k∈[0,4,5,7,30,31,32]->F'.get k=F.get k):=by
  unfold bG
  rw[h'.WT,h'.Yw]
  simp only[aA,Tryz.f72,KP,Ax.loadAt,↓reduceIte,reduceEqDiff,reduceLT,reduceLeDiff,reduceAdd,reduceMul,reduceCtorEq,h.fO,h.cL,opsOf,cutAt,Fz.lits,eJ,bB,bQ,iX,Ax.comp,Ax.last,dM,Ax.again,Ax.fill,fG,fl,h'.xK,h'.yQ,g7,hb,hb1,lk,lk1,hcall,vr,vm,vl]
  refine⟨_,rfl,λk hk=>?_⟩
  simp only[By,br,dz]at hk
  rcases hk with rfl | rfl | rfl | rfl | rfl | rfl | rfl <;> simp +decide only[GS]
 obtain⟨F',hD,hF⟩:=key
 exact Eq.mpr (fP hD) (hk F' τ2 hF hset hkp)
end
end
section
section
variable {E:Env}{Z:Sg}{K:V->Sg->Prop}
theorem Uh (h:bJ E)(h':qO E)(hl:Lb.cK E) {U:Sg}{nb mb:Nat}{L:List dP}{x y:aJ}(hm:i_ U mb L)(he:bO L x=none)(hb:U[nb]?=some (O.cells 147 [.mp mb,.bool x.1,.str x.2,.bool y.1,.str y.2] true)) (F:FT) (g7:F.get 7=.ref nb 0) {st:List iW}{Q:Ax.X->Fr->Sg->Prop}
  (hk:∀F' τ1 m,(∀k,k∈[0,4,5,7,30,31,32]->F'.get k=F.get k)->Lb.tR U τ1->Lb.dG τ1 U.length m []->U.length<m->M E st .normal ⟨57,F'⟩ (τ1.set mb (.map ((L++[dP.mk x U.length m []]).map oI))) Q):Ax.R E (.region 6 (opsOf (cutAt [1,1,1,2,2,1,1,0,2,1,0,1,0] (aA Tryz.f72).code)) true) st ⟨57,F⟩ U Q:=by
 obtain⟨n,r,τ1,hcall,m,rfl,hset,hlt,oG⟩:=Lb.Uq hl (Z:=U) (v:=.aB) (l:=[]) (.inl ⟨rfl,rfl⟩) (by simp)
 have hb1:=oG _ _ hb
 have put:=Gc h' hl (hm.oG oG) he (s:=U.length) (m:=m) (ks:=[])
 unfold pO at put
 have vm:oO 12 (.mp mb) (.mp mb)=true:=by unfold oO;simp
 have vl:oO 12 (.agg [.bool x.1,.str x.2]) (.agg [.bool x.1,.str x.2])=true:=p_ λz hz=>by
  simp only[By,br,dz]at hz
  rcases hz with rfl | rfl
  ·show decide (x.1=x.1)=true
   simp
  ·exact wU 10 x.2
 have key:∃F',bG E (ev E n) (opsOf (cutAt [1,1,1,2,2,1,1,0,2,1,0,1,0] (aA Tryz.f72).code)) ⟨57,F⟩ U=some (⟨57,F'⟩,τ1.set mb (.map ((L++[dP.mk x U.length m []]).map oI)))/\(∀k,k∈[0,4,5,7,30,31,32]->F'.get k=F.get k):=by
  unfold bG
  rw[h'.WU,h'.Yx]
  simp only[aA,Tryz.f72,KP,Ax.loadAt,↓reduceIte,reduceEqDiff,reduceLT,reduceLeDiff,reduceAdd,reduceCtorEq,h.cL,opsOf,cutAt,eJ,bB,bQ,iX,Ax.comp,Ax.last,dM,Ax.again,aS,h'.xK,h'.yQ,g7,hb,hb1,hcall,put,vm,vl]
  refine⟨_,rfl,λk hk=>?_⟩
  simp only[By,br,dz]at hk
  rcases hk with rfl | rfl | rfl | rfl | rfl | rfl | rfl <;> simp +decide only[GS]
 obtain⟨F',hD,hF⟩:=key
 exact Eq.mpr (fP hD) (hk F' τ1 m hF oG hset hlt)
end
end
section
section
variable {E:Env}{Z:Sg}{K:V->Sg->Prop}
theorem Q7 (h:bJ E)(h':qO E) {g g1:Bool}{c0 c2 c3 c4:V}{es:List (V × V)}{get:bD->Option V}{f:bD}(hs:SM E es get) {v:V}(hv:(get f=none/\v=.gB [.str [],.bool false])\/∃n,get f=some (.str n)/\v=.gB [.str n,.bool true]):aC E 53 [.dH g [c0,.imp g1 es,c2,c3,c4],.str f] Z K=K v Z:=by
 refine aC.of ?_
 have hi:Ax.bF (.dH g [c0,.imp g1 es,c2,c3,c4])=true:=rfl
 have ew:=cU (Z:=Z) (ty:=E.ty) hi (cF hi)
 rw[aH h'.hs53 h'.sp53 h'.fn53 h'.md53 (args':=[.dH g [c0,.imp g1 es,c2,c3,c4],.str f]) (by simp only[aU,dD,ew]),aX (by kernel_rfl)]
 have hlk:=λZ=>LA (Z:=Z) (x:=.imp g1 es) h rfl hs f
 have en:kY E 27 true (.dH g [c0,.imp g1 es,c2,c3,c4]) .fJ=some false:=by unfold kY;rw[h'.G7]
 rcases hv with⟨hg,rfl⟩ | ⟨n,hg,rfl⟩
 ·rw[hg]at hlk
  simp only[aA,Tryz.f53,KP,Ax.loadAt,↓reduceIte,reduceEqDiff,reduceLT,reduceAdd,reduceCtorEq,h.D4,kX,en,hlk,h'.mR]
  exact rfl
 ·rw[hg]at hlk
  simp only[aA,Tryz.f53,KP,Ax.loadAt,↓reduceIte,reduceEqDiff,reduceLT,reduceAdd,reduceCtorEq,h.D4,kX,en,hlk,h'.mR]
  exact rfl
end
end
section
section
variable {E:Env}{Z:Sg}{K:V->Sg->Prop}
def rN (L:List dP) (z:aJ):List aJ:=match bO L z with
 |some e=>e.ks
 |none=>[]
theorem Hw (L:List dP) (x:aJ) (ks:List aJ) (z:aJ):bO (qD L x ks) z=(bO L z).map λe=>if e.key=x then { e with ks:=ks } else e:=by
 unfold bO qD
 induction L with
 |nil=>rfl
 |cons e L ih=>
  rw[bj,jv,jv]
  have hk:(if e.key=x then { e with ks:=ks } else e).key=e.key:=by
   by_cases h:e.key=x
   ·rw[b8 h]
   ·rw[ay h]
  rw[hk]
  by_cases hz:z=e.key
  ·rw[AT hz];rfl
  ·rw[AI hz];exact ih
theorem Sz {L:List dP}{e:dP}{x:aJ}(he:bO L x=some e) (ks:List aJ) (z:aJ):rN (qD L e.key ks) z=if z=x then ks else rN L z:=by
 obtain⟨hme,hxe⟩:=gM he
 unfold rN
 rw[Hw]
 by_cases hz:z=x
 ·rw[b8 hz,hz,he]
  show (match (some (if e.key=e.key then { e with ks:=ks } else e):Option dP) with
   |some e=>e.ks
   |none=>[])=ks
  rw[b8 rfl]
 ·rw[ay hz]
  cases hq:bO L z with
  |none=>rfl
  |some q=>
   obtain⟨-,hzq⟩:=gM hq
   show (if q.key=e.key then { q with ks:=ks } else q).ks=q.ks
   rw[ay (λe'=>hz (by rw[hzq,e',hxe]))]
theorem yU (L:List dP) (e:dP)(hx:bO L e.key=none) (z:aJ):bO (L++[e]) z=if z=e.key then some e else bO L z:=by
 unfold bO at *
 rw[List.find?_append]
 by_cases hz:z=e.key
 ·rw[b8 hz,hz,hx,jv,AT rfl];rfl
 ·rw[ay hz,jv,AI hz,List.find?_nil]
  cases List.find? (λe=>decide (z=e.key)) L <;> rfl
structure Grow (L:List dP) (x y:aJ) (L':List dP):Prop where
 mem:∀z w,w∈rN L' z ↔ w∈rN L z\/(z=x/\w=y)
 len:∀n,(∀e∈L,e.ks.length<=n)->∀e∈L',e.ks.length<=n+1
 key:∀z,z∈L'.map dP.key ↔ z∈L.map dP.key\/z=x
theorem VF {L:List dP}{x:aJ}:x∈L.map dP.key ↔ ∃e,bO L x=some e:=by
 constructor
 ·intro h
  obtain⟨e,he,rfl⟩:=cg.1 h
  cases hq:bO L e.key with
  |some q=>exact⟨q,rfl⟩
  |none=>
   have:=jx.1 hq e he
   simp at this
 ·rintro⟨e,he⟩
  obtain⟨h1,h2⟩:=gM he
  exact cg.2 ⟨e,h1,h2.symm⟩
theorem Qb (l:List aJ) (y:aJ):keys l [y]=kD l y:=rfl
theorem Nf (l:List aJ) (y:aJ):(kD l y).length<=l.length+1:=by
 unfold kD
 by_cases h:y∈l
 ·rw[b8 h];omega
 ·rw[ay h,an];exact ae _
theorem Grow.up {L:List dP}{e:dP}{x:aJ}(he:bO L x=some e) (y:aJ):Grow L x y (qD L e.key (keys e.ks [y])):=by
 obtain⟨hme,hxe⟩:=gM he
 refine⟨λz w=>?_,λn hn a ha=>?_,λz=>?_⟩
 ·rw[Sz he]
  by_cases hz:z=x
  ·have:rN L z=e.ks:=by unfold rN;rw[hz,he]
   rw[b8 hz,this,Qb,E0]
   exact⟨λh=>h.imp id λh=>⟨hz,h⟩,λh=>h.imp id And.right⟩
  ·rw[ay hz]
   exact⟨.inl,λh=>h.elim id λh=>absurd h.1 hz⟩
 ·obtain⟨a0,ha0,rfl⟩:=cg.1 ha
  by_cases hk:a0.key=e.key
  ·rw[b8 hk]
   have:=Nf e.ks y
   have:=hn e hme
   show (kD e.ks y).length<=n+1
   omega
  ·rw[ay hk]
   have:=hn a0 ha0
   omega
 ·rw[En]
  refine⟨.inl,λh=>h.elim id λh=>?_⟩
  rw[h]
  exact VF.2 ⟨e,he⟩
theorem Grow.new {L:List dP}{x:aJ}{s m:Nat}(hx:bO L x=none) (y:aJ):bO (L++[dP.mk x s m []]) x=some (dP.mk x s m [])/\Grow L x y (qD (L++[dP.mk x s m []]) x (keys [] [y])):=by
 have he:bO (L++[dP.mk x s m []]) x=some (dP.mk x s m []):=by rw[yU _ _ hx,b8 rfl]
 have g:=Grow.up he y
 refine⟨he,λz w=>?_,λn hn a ha=>?_,λz=>?_⟩
 ·rw[g.mem]
  have:rN (L++[dP.mk x s m []]) z=rN L z:=by
   unfold rN
   rw[yU _ _ hx]
   by_cases hz:z=x
   ·rw[b8 hz,hz,hx]
   ·rw[ay hz]
  rw[this]
 ·refine g.len n (λe he=>?_) a ha
  rcases bw.1 he with he | he
  ·exact hn e he
  ·rw[dc.1 he];exact gz _
 ·rw[g.key,gp,bw]
  constructor
  ·rintro ((h | h) | h)
   ·exact .inl h
   ·exact .inr (by simpa using h)
   ·exact .inr h
  ·exact λh=>h.imp .inl id
end
end
section
section
variable {E:Env}{Z:Sg}{K:V->Sg->Prop}
theorem Kp.u_ {Z σ':Sg}{m:Nat}{es:List (V × V)}(h:Lb.Kp Z σ' m)(hm:Z[m]?=some (.map es)):Lb.dL Z σ':=Lb.Kp.u_ h hm
theorem dL.BP (Z:Sg) (y:O):Lb.dL Z (Z++[y]):=Lb.dL.app Z [y]
theorem map_lt {Z:Sg}{b:Nat}{o:O}(h:Z[b]?=some o):b<Z.length:=(AS.1 h).1
theorem Sq (h:bJ E)(h':qO E)(hl:Lb.cK E) {U:Sg}{gb m0 m1 sa ma b3 b4:Nat}{es0 es1:List (V × V)}{A:List aJ}{L3 L4:List dP} (ga:nY E U gb m0 m1 sa ma b3 b4 es0 es1 A L3 L4) {x y:aJ}{blk:Nat}(hb:U[blk]?=some (O.cells 147 [.mp b3,.bool x.1,.str x.2,.bool y.1,.str y.2,.mp b4,.bool y.1,.str y.2,.bool x.1,.str x.2] true))(hks:∀e∈L3,e.ks.length<=1000000) (F:FT) (g30:F.get 30=.sl blk 0 2 none) (g32:F.get 32=.int .i64 0) {st:List iW}{Q:Ax.X->Fr->Sg->Prop}
  (hk:∀F' τ' L',(∀k,k∈[0,4,5,30,31,32]->F'.get k=F.get k)->nY E τ' gb m0 m1 sa ma b3 b4 es0 es1 A L' L4->Grow L3 x y L'->Lb.dL U τ'->M E st .normal ⟨57,F'⟩ τ' Q):Ax.R E (cutAt [1,1,1,2,2,1,1,0,2] (aA Tryz.f72).code) st ⟨57,F⟩ U Q:=by
 have ia:indexAddr E 148 (.sl blk 0 2 none) (.int .i64 0)=some (.ref blk 0):=by unfold Ax.indexAddr;simp only[h'.KQ,h'.yQ];rfl
 have ga1:=ga.app (O.cells 147 [.mp b3,.bool x.1,.str x.2,.bool y.1,.str y.2] true)
 have hnb:(U++[O.cells 147 [.mp b3,.bool x.1,.str x.2,.bool y.1,.str y.2] true])[U.length]?=some (O.cells 147 [.mp b3,.bool x.1,.str x.2,.bool y.1,.str y.2] true):=aR
 have lk:=zM h' hl ga1.kC x
 unfold pO at lk
 rcases hq:bO L3 x with _ | e
 ·rw[hq]at lk
  have r7:=λ(ρ:Sg) (m:Nat) gm he hbx hln hne F g7 st Q hk=>LC (U:=ρ) (nb:=U.length) (mb:=b3) (L:=L3++[dP.mk x (U++[O.cells 147 [.mp b3,.bool x.1,.str x.2,.bool y.1,.str y.2] true]).length m []]) (x:=x) (y:=y) (e:=dP.mk x (U++[O.cells 147 [.mp b3,.bool x.1,.str x.2,.bool y.1,.str y.2] true]).length m []) h h' hl gm he hbx hln hne F g7 (st:=st) (Q:=Q) hk
  have r6:=λF g7 st Q hk=>Uh (U:=U++[O.cells 147 [.mp b3,.bool x.1,.str x.2,.bool y.1,.str y.2] true]) (nb:=U.length) (mb:=b3) (L:=L3) (x:=x) (y:=y) h h' hl ga1.kC hq hnb F g7 (st:=st) (Q:=Q) hk
  rw[show cutAt [1,1,1,2,2,1,1,0,2] (aA Tryz.f72).code=.seq (cutAt [1,1,1,2,2,1,1,0,2,0] (aA Tryz.f72).code) (.seq (.seq (cutAt [1,1,1,2,2,1,1,0,2,1,0,0] (aA Tryz.f72).code) (.cond (.tmp 41) (cutAt [1,1,1,2,2,1,1,0,2,1,0,1,0] (aA Tryz.f72).code) .skip)) (cutAt [1,1,1,2,2,1,1,0,2,1,1] (aA Tryz.f72).code)) from rfl]
  rw[show cutAt [1,1,1,2,2,1,1,0,2,1,0,1,0] (aA Tryz.f72).code=.region 6 (opsOf (cutAt [1,1,1,2,2,1,1,0,2,1,0,1,0] (aA Tryz.f72).code)) true from rfl,show cutAt [1,1,1,2,2,1,1,0,2,1,1] (aA Tryz.f72).code=.region 7 (opsOf (cutAt [1,1,1,2,2,1,1,0,2,1,1] (aA Tryz.f72).code)) true from rfl]
  generalize opsOf (cutAt [1,1,1,2,2,1,1,0,2,1,0,1,0] (aA Tryz.f72).code)=O6 at r6 ⊢
  generalize opsOf (cutAt [1,1,1,2,2,1,1,0,2,1,1] (aA Tryz.f72).code)=O7 at r7 ⊢
  have e77:kY E 84 true .fJ .fJ=some true:=by unfold kY;rw[hl.uB]
  simp only[aA,Tryz.f72,KP,Ax.loadAt,Ax.storeAt,↓reduceIte,reduceEqDiff,reduceLT,reduceLeDiff,reduceAdd,reduceCtorEq,h.cL,e77,cutAt,h'.yQ,h'.xK,g30,g32,ia,hb,hnb,lk,aR,dR]
  refine r6 _ ?_ _ _ (λF1 τ1 m hF1 oG hset hlt=>?_)
  ·simp +decide only[GS]
  have hx1:=ga1.kC.map
  have ga2:=ga1.Sf hq oG hset (Nat.le_of_lt hlt)
  have hmb:b3<(U++[O.cells 147 [.mp b3,.bool x.1,.str x.2,.bool y.1,.str y.2] true]).length:=map_lt hx1
  have hnb2:(τ1.set b3 (.map ((L3++[dP.mk x (U++[O.cells 147 [.mp b3,.bool x.1,.str x.2,.bool y.1,.str y.2] true]).length m []]).map oI)))[U.length]?=some (O.cells 147 [.mp b3,.bool x.1,.str x.2,.bool y.1,.str y.2] true):=by
   rw[OF]
   ·exact oG _ _ hnb
   ·intro e
    have q:=hx1.symm.trans ((au (λi=>(U++[O.cells 147 [.mp b3,.bool x.1,.str x.2,.bool y.1,.str y.2] true])[i]?) e).trans hnb)
    cases q
  rw[PU]
  refine r7 _ m ga2.kC (Grow.new hq y).1 hnb2 (gz _) (show b3≠m by omega) _ ?_ _ _ (λF2 τ2 hF2 hset2 kp=>?_)
  ·exact (hF1 7 (by simp)).trans (by simp +decide only[GS])
  have gb2:=ga2.app (O.cells 51 [.bool y.1,.str y.2] true)
  have ga3:=gb2.PC (gM (Grow.new hq y).1).1 hset2 kp
  refine hk _ _ _ (λk hk=>?_) ga3 (Grow.new hq y).2 ?_
  ·have h7:k∈[0,4,5,7,30,31,32]:=by
    simp only[By,br,dz]at hk ⊢
    omega
   refine (hF2 k h7).trans ((hF1 k h7).trans ?_)
   simp only[By,br,dz]at hk
   rcases hk with rfl | rfl | rfl | rfl | rfl | rfl <;> simp +decide only[GS]
  ·exact ((((dL.BP U _).trans oG.u_).trans (Lb.dL.F6 (oG _ _ hx1))).trans (dL.BP _ _)).trans (Lb.Kp.u_ kp (gb2.kC.sets _ (gM (Grow.new hq y).1).1).map)
 ·rw[hq]at lk
  have e77:kY E 84 true (.ref e.s 0) .fJ=some false:=by unfold kY;rw[hl.uB]
  obtain⟨hme,hxe⟩:=gM hq
  obtain⟨-,-,f3⟩:=ga1.facts
  have hmb:=f3 e.m (by first | exact .inl (cg.2 ⟨e,hme,rfl⟩) | exact .inr (cg.2 ⟨e,hme,rfl⟩))
  have r7:=λF g7 st Q hk=>LC (U:=U++[O.cells 147 [.mp b3,.bool x.1,.str x.2,.bool y.1,.str y.2] true]) (nb:=U.length) (mb:=b3) (L:=L3) (x:=x) (y:=y) (e:=e) h h' hl ga1.kC hq hnb (hks e hme) (by first | exact hmb.2.2.2.1 | exact hmb.2.2.2.2) F g7 (st:=st) (Q:=Q) hk
  rw[show cutAt [1,1,1,2,2,1,1,0,2] (aA Tryz.f72).code=.seq (cutAt [1,1,1,2,2,1,1,0,2,0] (aA Tryz.f72).code) (.seq (.seq (cutAt [1,1,1,2,2,1,1,0,2,1,0,0] (aA Tryz.f72).code) (.cond (.tmp 41) (cutAt [1,1,1,2,2,1,1,0,2,1,0,1,0] (aA Tryz.f72).code) .skip)) (cutAt [1,1,1,2,2,1,1,0,2,1,1] (aA Tryz.f72).code)) from rfl]
  rw[show cutAt [1,1,1,2,2,1,1,0,2,1,0,1,0] (aA Tryz.f72).code=.region 6 (opsOf (cutAt [1,1,1,2,2,1,1,0,2,1,0,1,0] (aA Tryz.f72).code)) true from rfl,show cutAt [1,1,1,2,2,1,1,0,2,1,1] (aA Tryz.f72).code=.region 7 (opsOf (cutAt [1,1,1,2,2,1,1,0,2,1,1] (aA Tryz.f72).code)) true from rfl]
  generalize opsOf (cutAt [1,1,1,2,2,1,1,0,2,1,0,1,0] (aA Tryz.f72).code)=O6 at ⊢
  generalize opsOf (cutAt [1,1,1,2,2,1,1,0,2,1,1] (aA Tryz.f72).code)=O7 at r7 ⊢
  simp only[aA,Tryz.f72,KP,Ax.loadAt,Ax.storeAt,↓reduceIte,reduceEqDiff,reduceLT,reduceLeDiff,reduceAdd,reduceCtorEq,h.cL,e77,cutAt,h'.yQ,h'.xK,g30,g32,ia,hb,hnb,lk,aR,dR]
  refine r7 _ ?_ _ _ (λF2 τ2 hF2 hset2 kp=>?_)
  ·simp +decide only[GS]
  have gb2:=ga1.app (O.cells 51 [.bool y.1,.str y.2] true)
  have ga3:=gb2.PC hme hset2 kp
  refine hk _ _ _ (λk hk=>?_) ga3 (Grow.up hq y) ?_
  ·have h7:k∈[0,4,5,7,30,31,32]:=by
    simp only[By,br,dz]at hk ⊢
    omega
   refine (hF2 k h7).trans ?_
   simp only[By,br,dz]at hk
   rcases hk with rfl | rfl | rfl | rfl | rfl | rfl <;> simp +decide only[GS]
  ·exact ((dL.BP U _).trans (dL.BP _ _)).trans (Lb.Kp.u_ kp (gb2.kC.sets e hme).map)
theorem Sn (h:bJ E)(h':qO E)(hl:Lb.cK E) {U:Sg}{gb m0 m1 sa ma b3 b4:Nat}{es0 es1:List (V × V)}{A:List aJ}{L3 L4:List dP} (ga:nY E U gb m0 m1 sa ma b3 b4 es0 es1 A L3 L4) {x y:aJ}{blk:Nat}(hb:U[blk]?=some (O.cells 147 [.mp b3,.bool x.1,.str x.2,.bool y.1,.str y.2,.mp b4,.bool y.1,.str y.2,.bool x.1,.str x.2] true))(hks:∀e∈L4,e.ks.length<=1000000) (F:FT) (g30:F.get 30=.sl blk 0 2 none) (g32:F.get 32=.int .i64 1) {st:List iW}{Q:Ax.X->Fr->Sg->Prop}
  (hk:∀F' τ' L',(∀k,k∈[0,4,5,30,31,32]->F'.get k=F.get k)->nY E τ' gb m0 m1 sa ma b3 b4 es0 es1 A L3 L'->Grow L4 y x L'->Lb.dL U τ'->M E st .normal ⟨57,F'⟩ τ' Q):Ax.R E (cutAt [1,1,1,2,2,1,1,0,2] (aA Tryz.f72).code) st ⟨57,F⟩ U Q:=by
 have ia:indexAddr E 148 (.sl blk 0 2 none) (.int .i64 1)=some (.ref blk 5):=by unfold Ax.indexAddr;simp only[h'.KQ,h'.yQ];rfl
 have ga1:=ga.app (O.cells 147 [.mp b4,.bool y.1,.str y.2,.bool x.1,.str x.2] true)
 have hnb:(U++[O.cells 147 [.mp b4,.bool y.1,.str y.2,.bool x.1,.str x.2] true])[U.length]?=some (O.cells 147 [.mp b4,.bool y.1,.str y.2,.bool x.1,.str x.2] true):=aR
 have lk:=zM h' hl ga1.jX y
 unfold pO at lk
 rcases hq:bO L4 y with _ | e
 ·rw[hq]at lk
  have r7:=λ(ρ:Sg) (m:Nat) gm he hbx hln hne F g7 st Q hk=>LC (U:=ρ) (nb:=U.length) (mb:=b4) (L:=L4++[dP.mk y (U++[O.cells 147 [.mp b4,.bool y.1,.str y.2,.bool x.1,.str x.2] true]).length m []]) (x:=y) (y:=x) (e:=dP.mk y (U++[O.cells 147 [.mp b4,.bool y.1,.str y.2,.bool x.1,.str x.2] true]).length m []) h h' hl gm he hbx hln hne F g7 (st:=st) (Q:=Q) hk
  have r6:=λF g7 st Q hk=>Uh (U:=U++[O.cells 147 [.mp b4,.bool y.1,.str y.2,.bool x.1,.str x.2] true]) (nb:=U.length) (mb:=b4) (L:=L4) (x:=y) (y:=x) h h' hl ga1.jX hq hnb F g7 (st:=st) (Q:=Q) hk
  rw[show cutAt [1,1,1,2,2,1,1,0,2] (aA Tryz.f72).code=.seq (cutAt [1,1,1,2,2,1,1,0,2,0] (aA Tryz.f72).code) (.seq (.seq (cutAt [1,1,1,2,2,1,1,0,2,1,0,0] (aA Tryz.f72).code) (.cond (.tmp 41) (cutAt [1,1,1,2,2,1,1,0,2,1,0,1,0] (aA Tryz.f72).code) .skip)) (cutAt [1,1,1,2,2,1,1,0,2,1,1] (aA Tryz.f72).code)) from rfl]
  rw[show cutAt [1,1,1,2,2,1,1,0,2,1,0,1,0] (aA Tryz.f72).code=.region 6 (opsOf (cutAt [1,1,1,2,2,1,1,0,2,1,0,1,0] (aA Tryz.f72).code)) true from rfl,show cutAt [1,1,1,2,2,1,1,0,2,1,1] (aA Tryz.f72).code=.region 7 (opsOf (cutAt [1,1,1,2,2,1,1,0,2,1,1] (aA Tryz.f72).code)) true from rfl]
  generalize opsOf (cutAt [1,1,1,2,2,1,1,0,2,1,0,1,0] (aA Tryz.f72).code)=O6 at r6 ⊢
  generalize opsOf (cutAt [1,1,1,2,2,1,1,0,2,1,1] (aA Tryz.f72).code)=O7 at r7 ⊢
  have e77:kY E 84 true .fJ .fJ=some true:=by unfold kY;rw[hl.uB]
  simp only[aA,Tryz.f72,KP,Ax.loadAt,Ax.storeAt,↓reduceIte,reduceEqDiff,reduceLT,reduceLeDiff,reduceAdd,reduceCtorEq,h.cL,e77,cutAt,h'.yQ,h'.xK,g30,g32,ia,hb,hnb,lk,aR,dR]
  refine r6 _ ?_ _ _ (λF1 τ1 m hF1 oG hset hlt=>?_)
  ·simp +decide only[GS]
  have hx1:=ga1.jX.map
  have ga2:=ga1.RH hq oG hset (Nat.le_of_lt hlt)
  have hmb:b4<(U++[O.cells 147 [.mp b4,.bool y.1,.str y.2,.bool x.1,.str x.2] true]).length:=map_lt hx1
  have hnb2:(τ1.set b4 (.map ((L4++[dP.mk y (U++[O.cells 147 [.mp b4,.bool y.1,.str y.2,.bool x.1,.str x.2] true]).length m []]).map oI)))[U.length]?=some (O.cells 147 [.mp b4,.bool y.1,.str y.2,.bool x.1,.str x.2] true):=by
   rw[OF]
   ·exact oG _ _ hnb
   ·intro e
    have q:=hx1.symm.trans ((au (λi=>(U++[O.cells 147 [.mp b4,.bool y.1,.str y.2,.bool x.1,.str x.2] true])[i]?) e).trans hnb)
    cases q
  rw[PU]
  refine r7 _ m ga2.jX (Grow.new hq x).1 hnb2 (gz _) (show b4≠m by omega) _ ?_ _ _ (λF2 τ2 hF2 hset2 kp=>?_)
  ·exact (hF1 7 (by simp)).trans (by simp +decide only[GS])
  have gb2:=ga2.app (O.cells 51 [.bool x.1,.str x.2] true)
  have ga3:=gb2.Oi (gM (Grow.new hq x).1).1 hset2 kp
  refine hk _ _ _ (λk hk=>?_) ga3 (Grow.new hq x).2 ?_
  ·have h7:k∈[0,4,5,7,30,31,32]:=by
    simp only[By,br,dz]at hk ⊢
    omega
   refine (hF2 k h7).trans ((hF1 k h7).trans ?_)
   simp only[By,br,dz]at hk
   rcases hk with rfl | rfl | rfl | rfl | rfl | rfl <;> simp +decide only[GS]
  ·exact ((((dL.BP U _).trans oG.u_).trans (Lb.dL.F6 (oG _ _ hx1))).trans (dL.BP _ _)).trans (Lb.Kp.u_ kp (gb2.jX.sets _ (gM (Grow.new hq x).1).1).map)
 ·rw[hq]at lk
  have e77:kY E 84 true (.ref e.s 0) .fJ=some false:=by unfold kY;rw[hl.uB]
  obtain⟨hme,hxe⟩:=gM hq
  obtain⟨-,-,f3⟩:=ga1.facts
  have hmb:=f3 e.m (by first | exact .inl (cg.2 ⟨e,hme,rfl⟩) | exact .inr (cg.2 ⟨e,hme,rfl⟩))
  have r7:=λF g7 st Q hk=>LC (U:=U++[O.cells 147 [.mp b4,.bool y.1,.str y.2,.bool x.1,.str x.2] true]) (nb:=U.length) (mb:=b4) (L:=L4) (x:=y) (y:=x) (e:=e) h h' hl ga1.jX hq hnb (hks e hme) (by first | exact hmb.2.2.2.1 | exact hmb.2.2.2.2) F g7 (st:=st) (Q:=Q) hk
  rw[show cutAt [1,1,1,2,2,1,1,0,2] (aA Tryz.f72).code=.seq (cutAt [1,1,1,2,2,1,1,0,2,0] (aA Tryz.f72).code) (.seq (.seq (cutAt [1,1,1,2,2,1,1,0,2,1,0,0] (aA Tryz.f72).code) (.cond (.tmp 41) (cutAt [1,1,1,2,2,1,1,0,2,1,0,1,0] (aA Tryz.f72).code) .skip)) (cutAt [1,1,1,2,2,1,1,0,2,1,1] (aA Tryz.f72).code)) from rfl]
  rw[show cutAt [1,1,1,2,2,1,1,0,2,1,0,1,0] (aA Tryz.f72).code=.region 6 (opsOf (cutAt [1,1,1,2,2,1,1,0,2,1,0,1,0] (aA Tryz.f72).code)) true from rfl,show cutAt [1,1,1,2,2,1,1,0,2,1,1] (aA Tryz.f72).code=.region 7 (opsOf (cutAt [1,1,1,2,2,1,1,0,2,1,1] (aA Tryz.f72).code)) true from rfl]
  generalize opsOf (cutAt [1,1,1,2,2,1,1,0,2,1,0,1,0] (aA Tryz.f72).code)=O6 at ⊢
  generalize opsOf (cutAt [1,1,1,2,2,1,1,0,2,1,1] (aA Tryz.f72).code)=O7 at r7 ⊢
  simp only[aA,Tryz.f72,KP,Ax.loadAt,Ax.storeAt,↓reduceIte,reduceEqDiff,reduceLT,reduceLeDiff,reduceAdd,reduceCtorEq,h.cL,e77,cutAt,h'.yQ,h'.xK,g30,g32,ia,hb,hnb,lk,aR,dR]
  refine r7 _ ?_ _ _ (λF2 τ2 hF2 hset2 kp=>?_)
  ·simp +decide only[GS]
  have gb2:=ga1.app (O.cells 51 [.bool x.1,.str x.2] true)
  have ga3:=gb2.Oi hme hset2 kp
  refine hk _ _ _ (λk hk=>?_) ga3 (Grow.up hq x) ?_
  ·have h7:k∈[0,4,5,7,30,31,32]:=by
    simp only[By,br,dz]at hk ⊢
    omega
   refine (hF2 k h7).trans ?_
   simp only[By,br,dz]at hk
   rcases hk with rfl | rfl | rfl | rfl | rfl | rfl <;> simp +decide only[GS]
  ·exact ((dL.BP U _).trans (dL.BP _ _)).trans (Lb.Kp.u_ kp (gb2.jX.sets e hme).map)
end
end
section
section
variable {E:Env}{Z:Sg}{K:V->Sg->Prop}
theorem QY (h:bJ E)(h':qO E)(hl:Lb.cK E) {U:Sg}{gb m0 m1 sa ma b3 b4:Nat}{es0 es1:List (V × V)}{A:List aJ}{L3 L4:List dP} (ga:nY E U gb m0 m1 sa ma b3 b4 es0 es1 A L3 L4) {x y:aJ}(hA:A.length<=1000000)(hk3:∀e∈L3,e.ks.length<=1000000)(hk4:∀e∈L4,e.ks.length<=1000000):aC E 72 [.ref gb 0,.agg [.bool x.1,.str x.2],.agg [.bool y.1,.str y.2]] U λv τ'=>v=.gB []/\∃L3' L4',nY E τ' gb m0 m1 sa ma b3 b4 es0 es1 (keys A [x,y]) L3' L4'/\Grow L3 x y L3'/\Grow L4 y x L4'/\Lb.dL U τ':=by
 rw[eD h'.hs72 h'.sp72 h'.fn72 h'.md72,aX (by kernel_rfl)]
 have rn:=λ{U} {L3 L4} {blk} A ga hb hks F g30 g32 st Q hk=>Sq (U:=U) (L3:=L3) (L4:=L4) (A:=A) (x:=x) (y:=y) (blk:=blk) (gb:=gb) (m0:=m0) (m1:=m1) (sa:=sa) (ma:=ma) (b3:=b3) (b4:=b4) (es0:=es0) (es1:=es1) h h' hl ga hb hks F g30 g32 (st:=st) (Q:=Q) hk
 have ru:=λ{U} {L3 L4} {blk} A ga hb hks F g30 g32 st Q hk=>Sn (U:=U) (L3:=L3) (L4:=L4) (A:=A) (x:=x) (y:=y) (blk:=blk) (gb:=gb) (m0:=m0) (m1:=m1) (sa:=sa) (ma:=ma) (b3:=b3) (b4:=b4) (es0:=es0) (es1:=es1) h h' hl ga hb hks F g30 g32 (st:=st) (Q:=Q) hk
 have r1:=λ{U} {n0 n1} ga hx hy F g0 g4 g5 st Q hk=>Zu (U:=U) (n0:=n0) (n1:=n1) (A:=A) (L3:=L3) (L4:=L4) (x:=x) (y:=y) (gb:=gb) (m0:=m0) (m1:=m1) (sa:=sa) (ma:=ma) (b3:=b3) (b4:=b4) (es0:=es0) (es1:=es1) h h' hl ga hx hy hA F g0 g4 g5 (st:=st) (Q:=Q) hk
 have d2:=h'.abw
 rw[show (aA Tryz.f72).code=.seq (cutAt [0] (aA Tryz.f72).code) (.seq (cutAt [1,0] (aA Tryz.f72).code) (.seq (cutAt [1,1,0] (aA Tryz.f72).code) (.block 0 (.loop (.seq (cutAt [1,1,1,2,2,0] (aA Tryz.f72).code) (.seq (cutAt [1,1,1,2,2,1,0] (aA Tryz.f72).code) (.seq (.block 1 (cutAt [1,1,1,2,2,1,1,0,2] (aA Tryz.f72).code)) (cutAt [1,1,1,2,2,1,1,1] (aA Tryz.f72).code)))))))) from rfl]
 rw[show cutAt [1,0] (aA Tryz.f72).code=.region 1 (opsOf (cutAt [1,0] (aA Tryz.f72).code)) true from rfl]
 generalize opsOf (cutAt [1,0] (aA Tryz.f72).code)=O1 at r1 ⊢
 generalize cutAt [1,1,1,2,2,1,1,0,2] (aA Tryz.f72).code=B at rn ru ⊢
 generalize hD2:cutAt [1,1,0] (aA Tryz.f72).code=D2 at d2 ⊢
 simp only[aA,Tryz.f72,KP,↓reduceIte,reduceEqDiff,reduceLT,reduceAdd,h.cL,cutAt]
 have gx:nY E (U++[O.cells 51 [.bool x.1,.str x.2] true]++[O.cells 51 [.bool y.1,.str y.2] true]) gb m0 m1 sa ma b3 b4 es0 es1 A L3 L4:=(ga.app _).app _
 refine r1 gx (aP aR) aR _ ?_ ?_ ?_ _ _ (λF1 τ1 hF1 ga1 hx1 hy1 kc1=>?_)
 ·simp +decide only[GS]
 ·simp +decide only[GS]
 ·simp +decide only[GS]
 have q0:F1.get 0=.ref gb 0:=(hF1 0 (by simp)).trans (by simp +decide only[GS])
 have q4:F1.get 4=.ref U.length 0:=(hF1 4 (by simp)).trans (by simp +decide only[GS])
 have q5:F1.get 5=.ref (U++[O.cells 51 [.bool x.1,.str x.2] true]).length 0:=(hF1 5 (by simp)).trans (by simp +decide only[GS])
 have hg:=ga1.g
 have kc0:Lb.dL U τ1:=(((dL.BP U _).trans (dL.BP _ _)).trans kc1)
 generalize (U++[O.cells 51 [.bool x.1,.str x.2] true]).length=n1 at *
 generalize U.length=n0 at *
 rw[PU]
 subst hD2
 simp only[aA,Tryz.f72,cutAt,ag]at d2
 have lz:∀(Z:Sg) (b:Nat),lenOf E Z 148 (.sl b 0 2 none)=some 2:=λZ b=>by unfold lenOf;rw[h'.KQ]
 have d0:decide ((0:Int)<((2:Nat):Int))=true:=rfl
 have d1:decide ((1:Int)<((2:Nat):Int))=true:=rfl
 have d2':decide ((2:Int)<((2:Nat):Int))=false:=rfl
 have w1:wr .i64 1=1:=rfl
 have w2:wr .i64 2=2:=rfl
 simp only[aA,Tryz.f72,KP,Ax.loadAt,↓reduceIte,reduceEqDiff,reduceLT,reduceLeDiff,reduceAdd,reduceMul,reduceCtorEq,h.cL,lz,cutAt,aK d2,a_,h'.xK,h'.yQ,h'.KQ,h'.mR,hg,hx1,hy1,q0,q4,q5,Ax.fill,Ax.placeOf,fG,fl]
 have ga2:=ga1.app (O.cells 147 [.mp b3,.bool x.1,.str x.2,.bool y.1,.str y.2,.mp b4,.bool y.1,.str y.2,.bool x.1,.str x.2] true)
 have hb2:(τ1++[O.cells 147 [.mp b3,.bool x.1,.str x.2,.bool y.1,.str y.2,.mp b4,.bool y.1,.str y.2,.bool x.1,.str x.2] true])[τ1.length]?=some (O.cells 147 [.mp b3,.bool x.1,.str x.2,.bool y.1,.str y.2,.mp b4,.bool y.1,.str y.2,.bool x.1,.str x.2] true):=aR
 have kc2:Lb.dL U (τ1++[O.cells 147 [.mp b3,.bool x.1,.str x.2,.bool y.1,.str y.2,.mp b4,.bool y.1,.str y.2,.bool x.1,.str x.2] true]):=kc0.trans (dL.BP _ _)
 generalize τ1++[O.cells 147 [.mp b3,.bool x.1,.str x.2,.bool y.1,.str y.2,.mp b4,.bool y.1,.str y.2,.bool x.1,.str x.2] true]=τ2 at *
 generalize τ1.length=blk at *
 rw[aF]
 simp only[KP,↓reduceIte,reduceEqDiff,reduceLT,d0]
 refine rn _ ga2 hb2 hk3 _ ?_ ?_ _ _ (λF3 τ3 L3' hF3 ga3 gr3 kc3=>?_)
 ·simp +decide only[GS]
 ·simp +decide only[GS]
 have q30:F3.get 30=.sl blk 0 2 none:=(hF3 30 (by simp)).trans (by simp +decide only[GS])
 have q31:F3.get 31=.int .i64 ((2:Nat):Int):=(hF3 31 (by simp)).trans (by simp +decide only[GS])
 have q32:F3.get 32=.int .i64 0:=(hF3 32 (by simp)).trans (by simp +decide only[GS])
 simp only[KP,↓reduceIte,reduceLT,Int.reduceAdd,w1,q32]
 rw[aF]
 simp only[KP,↓reduceIte,reduceEqDiff,reduceLT,d1,q31]
 refine ru _ ga3 (kc3 _ _ _ _ hb2) hk4 _ ?_ ?_ _ _ (λF4 τ4 L4' hF4 ga4 gr4 kc4=>?_)
 ·simp +decide only[GS,q30]
 ·simp +decide only[GS]
 have q31':F4.get 31=.int .i64 ((2:Nat):Int):=(hF4 31 (by simp)).trans (by simp +decide only[GS,q31])
 have q32':F4.get 32=.int .i64 1:=(hF4 32 (by simp)).trans (by simp +decide only[GS])
 simp only[KP,↓reduceIte,reduceLT,Int.reduceAdd,w2,q32']
 rw[aF]
 simp only[KP,↓reduceIte,reduceEqDiff,reduceLT,d2',q31']
 exact⟨_,_,ga4,gr3,gr4,(kc2.trans kc3).trans kc4⟩
end
end
section
section
variable {E:Env}{Z:Sg}{K:V->Sg->Prop}
def eH (r:aD):List (aJ × aJ):=r.ins.map (λf=>(((true,r.name):aJ),((false,f):aJ)))++r.outs.map (λf=>(((false,f):aJ),((true,r.name):aJ)))
def g_ (r:aD):aJ:=(true,r.name)
structure wT (X:List aJ) (P:List (aJ × aJ)) (A:List aJ) (L3 L4:List dP):Prop where
 all:∀x,x∈A ↔ x∈X\/∃p∈P,x=p.1\/x=p.2
 need:∀z w,w∈rN L3 z ↔ (z,w)∈P
 user:∀z w,w∈rN L4 z ↔ (w,z)∈P
 Nc:A.length<=X.length+2*P.length
 P7:∀e∈L3,e.ks.length<=P.length
 P6:∀e∈L4,e.ks.length<=P.length
theorem wT.nil:wT [] [] [] [] []:=⟨λx=>by simp,λz w=>by simp[rN,bO],λz w=>by simp[rN,bO],ae _,(λe he=>by cases he),(λe he=>by cases he)⟩
theorem wT.link {X:List aJ}{P:List (aJ × aJ)}{A:List aJ}{L3 L4 L3' L4':List dP}{x y:aJ}(h:wT X P A L3 L4) (g3:Grow L3 x y L3') (g4:Grow L4 y x L4'):wT X (P++[(x,y)]) (keys A [x,y]) L3' L4':=by
 refine⟨λz=>?_,λz w=>?_,λz w=>?_,?_,λe he=>?_,λe he=>?_⟩
 ·rw[mem_keys,h.all]
  constructor
  ·rintro ((h1 | ⟨p,hp,h1⟩) | h1)
   ·exact .inl h1
   ·exact .inr ⟨p,List.mem_append_left _ hp,h1⟩
   ·refine .inr ⟨(x,y),by simp,by simpa using h1⟩
  ·rintro (h1 | ⟨p,hp,h1⟩)
   ·exact .inl (.inl h1)
   ·rcases bw.1 hp with hp | hp
    ·exact .inl (.inr ⟨p,hp,h1⟩)
    ·rw[dc.1 hp]at h1
     exact .inr (by simpa using h1)
 ·rw[g3.mem,h.need,bw,dc]
  exact or_congr po ⟨λq=>by rw[q.1,q.2],λq=>⟨au Prod.fst q,au Prod.snd q⟩⟩
 ·rw[g4.mem,h.user,bw,dc]
  exact or_congr po ⟨λq=>by rw[q.1,q.2],λq=>⟨au Prod.snd q,au Prod.fst q⟩⟩
 ·have:=qI (xs:=[x,y]) (l:=A)
  have:=h.Nc
  simp only[an,aa,bf]at *
  omega
 ·rw[an];exact g3.len _ h.P7 e he
 ·rw[an];exact g4.len _ h.P6 e he
theorem wT.rule {X:List aJ}{P:List (aJ × aJ)}{A:List aJ}{L3 L4:List dP} (x:aJ)(h:wT X P A L3 L4):wT (X++[x]) P (keys A [x]) L3 L4:=by
 refine⟨λz=>?_,h.need,h.user,?_,h.P7,h.P6⟩
 ·rw[mem_keys,h.all,bw]
  constructor
  ·rintro ((h1 | h1) | h1)
   ·exact .inl (.inl h1)
   ·exact .inr h1
   ·exact .inl (.inr h1)
  ·rintro ((h1 | h1) | h1)
   ·exact .inl (.inl h1)
   ·exact .inr h1
   ·exact .inl (.inr h1)
 ·have:=qI (xs:=[x]) (l:=A)
  have:=h.Nc
  simp only[an,aa,bf]at *
  omega
theorem M0 (r:aD)(hs:Small r):(eH r).length<=16:=by
 unfold eH
 rw[an,az,az]
 have:=hs.ins
 have:=hs.outs
 omega
theorem pT:∀(rs:List aD),(∀r∈rs,Small r)->(rs.flatMap eH).length<=16*rs.length
 | [],_=>ae _
 |r::rs,h=>by
  rw[j7,an,aa]
  have:=M0 r (h r (IN ..))
  have:=pT rs λq hq=>h q (No _ hq)
  omega
def RM (es:List (V × V)) (rs:List aD):Prop:=dS (λe r=>e.1=V.str r.name/\N_ e.2 r) es rs
theorem N_.ok {v:V}{r:aD}(h:N_ v r):fS v=true:=by
 obtain⟨a,b,c,d,rfl,h1,h2,h3,h4⟩:=h
 simp only[fS,ig,jm,aL h1.is.bF,aL h2.is.bF,aL h3.is.bF,aL h4.is.bF,mg]
 rfl
theorem My (h:bJ E)(h':qO E) {U:Sg}{b:Nat}{es:List (V × V)}{rs:List aD}{r:aD}{v:V}(hb:U[b]?=some (.map es))(ha:RM es rs)(hn:∀q∈rs,q.name≠r.name)(hv:N_ v r) :
  mapUpdate E U 96 (.mp b) (.str r.name) v=some (U.set b (.map (es++[(.str r.name,v)])))/\RM (es++[(.str r.name,v)]) (rs++[r]):=by
 refine⟨?_,ha.append (.one ⟨rfl,hv⟩)⟩
 have hk:eB E 9 (.str r.name)=true:=by unfold eB;rw[h.cM]
 have hp:=CW h (k:=r.name) (v:=v) (es:=es) λe he=>by
  obtain⟨q,hq,h1,-⟩:=ha.mem he
  exact⟨q.name,h1,hn q hq⟩
 unfold Ax.mapUpdate
 simp only[h'.MA,hk,hv.ok,hb,hp,di,j9,ai,aq,bt]
theorem ES {eq:V->V->Option Bool}{k v:V}:∀{es es':List (V × V)},lA eq k v es=some es'->∀e∈es',e∈es\/e=(k,v)
 | [],es',h,e,he=>by
  cases h
  exact .inr (dc.1 he)
 |(k0,v0)::r,es',h,e,he=>by
  unfold lA at h
  cases hq:eq k k0 with
  |none=>rw[hq]at h;cases h
  |some b=>
   rw[hq]at h
   cases b with
   |true=>
    cases h
    rcases By.1 he with h1 | h1
    ·exact .inr h1
    ·exact .inl (No _ h1)
   |false=>
    dsimp only at h
    cases hr:lA eq k v r with
    |none=>rw[hr]at h;cases h
    |some r'=>
     rw[hr]at h
     cases h
     rcases By.1 he with h1 | h1
     ·exact .inl (by rw[h1];exact IN ..)
     ·exact (ES hr e h1).imp (No _) id
def Eg (es:List (V × V)):Prop:=∀e∈es,∃n,e.2=V.str n
theorem RJ (h:bJ E) {Z:Sg}{b:Nat}{es:List (V × V)}{get:bD->Option V}(hb:Z[b]?=some (.map es))(hs:SM E es get)(hv:Eg es) (k n:bD):∃es',mapUpdate E Z 97 (.mp b) (.str k) (.str n)=some (Z.set b (.map es'))/\SM E es' (λq=>if q=k then some (.str n) else get q)/\Eg es':=by
 obtain⟨es',h1,h2⟩:=FZ h (v:=.str n) k rfl hs
 have hk:eB E 9 (.str k)=true:=by unfold eB;rw[h.cM]
 refine⟨es',?_,h2,λe he=>?_⟩
 ·unfold Ax.mapUpdate
  simp only[h.D4,hk,hb,h1,fS,V.aW,di,j9,ai,aq,bt]
 ·rcases ES h1 e he with h3 | h3
  ·exact hv e h3
  ·exact⟨n,by rw[h3]⟩
theorem GL (h:bJ E)(h':qO E) {s:bD}:aC E 71 [.str s] Z K=K (.agg [.bool true,.str s]) Z:=by
 refine aC.of ?_
 rw[aH h'.hs71 h'.sp71 h'.fn71 h'.md71 (args':=[.str s]) (by simp only[aU,dD]),aX (by kernel_rfl)]
 simp only[aA,Tryz.f71,KP,Ax.loadAt,Ax.storeAt,↓reduceIte,reduceEqDiff,reduceLT,reduceAdd,reduceCtorEq,h.uC,h.cM,h.cL,Ax.fill,Ax.placeOf]
 exact rfl
theorem SI (h:bJ E)(h':qO E) {s:bD}:KC E 71 [.str s] Z (.agg [.bool true,.str s]) Z:=cH λ_=>GL h h'
theorem TP (h:bJ E)(h':qO E) {s:bD}:aC E 73 [.str s] Z K=K (.agg [.bool false,.str s]) Z:=by
 refine aC.of ?_
 rw[aH h'.hs73 h'.sp73 h'.fn73 h'.md73 (args':=[.str s]) (by simp only[aU,dD]),aX (by kernel_rfl)]
 simp only[aA,Tryz.f73,KP,Ax.loadAt,Ax.storeAt,↓reduceIte,reduceEqDiff,reduceLT,reduceAdd,reduceCtorEq,h.uC,h.cM,h.cL,Ax.fill,Ax.placeOf]
 exact rfl
theorem LN (h:bJ E)(h':qO E) {s:bD}:KC E 73 [.str s] Z (.agg [.bool false,.str s]) Z:=cH λ_=>TP h h'
end
end
section
section
variable {E:Env}{Z:Sg}{K:V->Sg->Prop}
theorem YF (h:bJ E)(h':qO E)(hl:Lb.cK E) {U:Sg}{gb m0 m1 sa ma b3 b4:Nat}{es0 es1:List (V × V)}{A:List aJ}{L3 L4:List dP} (ga:nY E U gb m0 m1 sa ma b3 b4 es0 es1 A L3 L4) {r:aD}{p1 p2 p3 p4:V}{y:Nat}(hy:U[y]?=some (O.cells 46 [.str r.name,p1,p2,p3,p4] true))(hA:A.length<=1000000) (F:FT) (g5:F.get 5=.ref gb 0) (g7:F.get 7=.ref y 0) {st:List iW}{Q:Ax.X->Fr->Sg->Prop}
  (hk:∀F' τ',(∀k,k∈[0,5,7,26,27,28]->F'.get k=F.get k)->nY E τ' gb m0 m1 sa ma b3 b4 es0 es1 (keys A [g_ r]) L3 L4->Lb.dL U τ'->M E st .normal ⟨88,F'⟩ τ' Q):Ax.R E (.region 9 (opsOf (cutAt [1,1,1,0,1,2,2,1,1,0,2,1,1,0] (aA Tryz.f13).code)) true) st ⟨88,F⟩ U Q:=by
 have ga1:=ga.app (O.cells 51 [.bool true,.str r.name] true)
 have hsv:Lb.SV (U++[O.cells 51 [.bool true,.str r.name] true]) (.sl U.length 0 1 none) [g_ r]:=.inr (.inr ⟨U.length,_,true,rfl,aR,rfl⟩)
 obtain⟨n1,v1,τ2,⟨hr,hset,hkp⟩,c1⟩:=aC.up (Lb.Rj hl ga1.all hsv (show 1<=10000000000 by omega) (by omega))
 obtain⟨n2,v2,ρ2,⟨e2,e2'⟩,c2⟩:=aC.up (show aC E 71 [.str r.name] U λv σ'=>v=.agg [.bool true,.str r.name]/\σ'=U by rw[GL h h'];exact⟨rfl,rfl⟩)
 obtain⟨n3,v3,ρ3,⟨e3,e3'⟩,c3⟩:=aC.up (show aC E 71 [.str r.name] (U++[O.cells 51 [.bool true,.str r.name] true]) λv σ'=>v=.agg [.bool true,.str r.name]/\σ'=U++[O.cells 51 [.bool true,.str r.name] true] by rw[GL h h'];exact⟨rfl,rfl⟩)
 rw[e2,e2']at c2
 rw[e3,e3']at c3
 have c1:=c1 (n1+n2+n3) (by omega)
 have c2:=c2 (n1+n2+n3) (by omega)
 have c3:=c3 (n1+n2+n3) (by omega)
 generalize n1+n2+n3=n at c1 c2 c3
 have ga2:=ga1.more hset hkp
 have hma:=ga1.all.map
 have ne:∀{k:Nat}{t:Nat}{cs:List V}{ex:Bool},(U++[O.cells 51 [.bool true,.str r.name] true])[k]?=some (.cells t cs ex)->k≠ma:=λhk e=>by
  rw[e,hma]at hk
  cases hk
 have g:=ga.g
 have g1:=ga1.g
 have vr:oO 12 (.ref sa 0) (.ref sa 0)=true:=by unfold oO;simp
 have key:∃F',bG E (ev E n) (opsOf (cutAt [1,1,1,0,1,2,2,1,1,0,2,1,1,0] (aA Tryz.f13).code)) ⟨88,F⟩ U=some (⟨88,F'⟩,τ2)/\(∀k,k∈[0,5,7,26,27,28]->F'.get k=F.get k):=by
  unfold bG
  rw[h'.W4,h'.YD]
  simp only[aA,Tryz.f13,KP,Ax.loadAt,↓reduceIte,reduceEqDiff,reduceLT,reduceLeDiff,reduceAdd,reduceMul,reduceCtorEq,h.cM,h.fO,h.bC,h.cL,opsOf,cutAt,Fz.lits,eJ,bB,bQ,iX,Ax.comp,Ax.last,dM,Ax.again,Ax.fill,fG,fl,hl.uB,h'.mR,g5,g7,hy,g,g1,c1,c2,vr]
  refine⟨_,rfl,λk hk=>?_⟩
  simp only[By,br,dz]at hk
  rcases hk with rfl | rfl | rfl | rfl | rfl | rfl <;> simp +decide only[GS]
 obtain⟨F',hD,hF⟩:=key
 exact Eq.mpr (fP hD) (hk F' τ2 hF ga2 ((dL.BP U _).trans (Lb.Kp.u_ hkp hma)))
end
end
section
section
variable {E:Env}{Z:Sg}{K:V->Sg->Prop}
theorem Jv {r:aD}{j:Nat}{s:bD}(hj:r.ins[j]?=some s):(r.ins.take (j+1)).map (λf=>(((true,r.name):aJ),((false,f):aJ)))=(r.ins.take j).map (λf=>(((true,r.name):aJ),((false,f):aJ)))++[(((true,r.name):aJ),((false,s):aJ))]:=by
 rw[dh,hj,gp];rfl
theorem G_ {r:aD}{j:Nat}{s:bD}(hj:r.outs[j]?=some s):(r.outs.take (j+1)).map (λf=>(((false,f):aJ),((true,r.name):aJ)))=(r.outs.take j).map (λf=>(((false,f):aJ),((true,r.name):aJ)))++[(((false,s):aJ),((true,r.name):aJ))]:=by
 rw[dh,hj,gp];rfl
theorem PA (h:bJ E)(h':qO E)(hl:Lb.cK E) {U:Sg}{gb m0 m1 sa ma b3 b4:Nat}{es0 es1:List (V × V)}{A:List aJ}{L3 L4:List dP} (ga:nY E U gb m0 m1 sa ma b3 b4 es0 es1 A L3 L4) {X:List aJ}{P:List (aJ × aJ)} (li:wT X P A L3 L4)(hX:X.length<=1000)(hP:P.length<=100000) {a c27:V}{i:Nat}{r:aD}{g:Bool}{p1 p2 p3 p4:V} (e1:indexAddr E 22 a (.int .i64 (i:Int))=some (.dH g [.str r.name,p1,p2,p3,p4])) (i1:IS aM p1 r.ins) (i2:IS aM p2 r.outs) (i3:IS aM p3 r.after) (i4:IS eK p4 r.steps)(hs:Small r) {rs:List aD}(ha:RM es0 rs)(hn:∀q∈rs,q.name≠r.name) {get:bD->Option V}{Pm:bD->bD->Prop}(hsm:SM E es1 get)(hsv:Eg es1)(hmk:MK get Pm)
  (F:FT) (g0:F.get 0=a) (g5:F.get 5=.ref gb 0) (g26:F.get 26=a) (g27:F.get 27=c27) (g28:F.get 28=.int .i64 (i:Int)) {st:List iW}{Q:Ax.X->Fr->Sg->Prop}
  (hk:∀F' τ' es0' es1' get' A' L3' L4',F'.get 0=a->F'.get 5=.ref gb 0->F'.get 26=a->F'.get 27=c27->F'.get 28=.int .i64 (i:Int)->nY E τ' gb m0 m1 sa ma b3 b4 es0' es1' A' L3' L4'->wT (X++[g_ r]) (P++eH r) A' L3' L4'->RM es0' (rs++[r])->SM E es1' get'->Eg es1'->MK get' (λk n=>Pm k n\/(k∈r.outs/\n=r.name))->M E st .normal ⟨88,F'⟩ τ' Q):Ax.R E (cutAt [1,1,1,0,1,2,2,1,1,0,2] (aA Tryz.f13).code) st ⟨88,F⟩ U Q:=by
 have o1:=aL i1.bF
 have o2:=aL i2.bF
 have o3:=aL i3.bF
 have o4:=aL i4.bF
 have a1:=hs.ins
 have a2:=hs.outs
 have l1:=bP h i1
 have l2:=bP h i2
 have d8:=h'.abM
 simp only[aA,Tryz.f13,cutAt,ag]at d8
 have d18:=h'.Wi
 simp only[aA,Tryz.f13,cutAt,ag]at d18
 have d19:=h'.Wh
 simp only[aA,Tryz.f13,cutAt,ag]at d19
 have r9:=λ{U} {es0} {y} ga hy hA F g5 g7 st Q hk=>YF (U:=U) (y:=y) (r:=r) (p1:=p1) (p2:=p2) (p3:=p3) (p4:=p4) (A:=A) (L3:=L3) (L4:=L4) (gb:=gb) (m0:=m0) (m1:=m1) (sa:=sa) (ma:=ma) (b3:=b3) (b4:=b4) (es0:=es0) (es1:=es1) h h' hl ga hy hA F g5 g7 (st:=st) (Q:=Q) hk
 rw[show cutAt [1,1,1,0,1,2,2,1,1,0,2] (aA Tryz.f13).code=.seq (cutAt [1,1,1,0,1,2,2,1,1,0,2,0] (aA Tryz.f13).code) (.seq (cutAt [1,1,1,0,1,2,2,1,1,0,2,1,0] (aA Tryz.f13).code) (.seq (.region 9 (opsOf (cutAt [1,1,1,0,1,2,2,1,1,0,2,1,1,0] (aA Tryz.f13).code)) true) (cutAt [1,1,1,0,1,2,2,1,1,0,2,1,1,1] (aA Tryz.f13).code))) from rfl]
 generalize opsOf (cutAt [1,1,1,0,1,2,2,1,1,0,2,1,1,0] (aA Tryz.f13).code)=O9 at r9 ⊢
 generalize hREST:cutAt [1,1,1,0,1,2,2,1,1,0,2,1,1,1] (aA Tryz.f13).code=REST
 have ga1:=ga.app (O.cells 46 [.str r.name,p1,p2,p3,p4] true)
 have hy1:(U++[O.cells 46 [.str r.name,p1,p2,p3,p4] true])[U.length]?=some (O.cells 46 [.str r.name,p1,p2,p3,p4] true):=aR
 have gg1:=ga1.g
 simp only[aA,Tryz.f13,KP,Ax.loadAt,Ax.storeAt,↓reduceIte,reduceEqDiff,reduceLT,reduceAdd,reduceCtorEq,h.cM,h.bC,cutAt,aK d8,a_,h'.mR,h'.MA,g5,g26,g28,e1,o1,o2,o3,o4,gg1,hy1,aR,dR]
 generalize U++[O.cells 46 [.str r.name,p1,p2,p3,p4] true]=τ1 at *
 generalize U.length=y at *
 refine aO (IX h h' (v:=.agg [.str r.name,p1,p2,p3,p4]) ⟨p1,p2,p3,p4,rfl,i1,i2,i3,i4⟩ hs) ?_
 rintro v σ' ⟨rfl,hv⟩
 obtain⟨hu,hrm⟩:=My h h' ga1.rules ha hn hv
 have ga2:=ga1.rule (es0++[(.str r.name,v)])
 have hy2:(σ'.set m0 (.map (es0++[(.str r.name,v)])))[y]?=some (O.cells 46 [.str r.name,p1,p2,p3,p4] true):=Lb.dL.F6 ga1.rules _ _ _ _ hy1
 simp only[KP,↓reduceIte,reduceEqDiff,reduceLT,hu]
 generalize σ'.set m0 (.map (es0++[(.str r.name,v)]))=τ2 at *
 refine r9 ga2 hy2 (by have:=li.Nc;omega) _ ?_ ?_ _ _ (λF3 τ3 hF3 ga3 kc3=>?_)
 ·simp +decide only[GS,g5]
 ·simp +decide only[GS]
 have li3:=li.rule (g_ r)
 have hy3:=kc3 _ _ _ _ hy2
 have q0:F3.get 0=a:=(hF3 0 (by simp)).trans (by simp +decide only[GS,g0])
 have q5:F3.get 5=.ref gb 0:=(hF3 5 (by simp)).trans (by simp +decide only[GS,g5])
 have Jf:F3.get 26=a:=(hF3 26 (by simp)).trans (by simp +decide only[GS,g26])
 have Yl:F3.get 27=c27:=(hF3 27 (by simp)).trans (by simp +decide only[GS,g27])
 have Yk:F3.get 28=.int .i64 (i:Int):=(hF3 28 (by simp)).trans (by simp +decide only[GS,g28])
 have q7:F3.get 7=.ref y 0:=(hF3 7 (by simp)).trans (by simp +decide only[GS])
 have hX3:(X++[g_ r]).length<=1001:=by rw[an];simp only[aa,bf];omega
 subst hREST
 generalize X++[g_ r]=X3 at *
 generalize keys A [g_ r]=A3 at *
 have kr:=λ(U:Sg)=>SI (Z:=U) h h' (s:=r.name)
 rw[PU]
 simp only[aA,Tryz.f13,KP,Ax.loadAt,↓reduceIte,reduceLT,reduceCtorEq,h.aY,h.bC,cutAt,q7,hy3,l1]
 refine aV (λj F U=>F.get 0=a/\F.get 5=.ref gb 0/\F.get 26=a/\F.get 27=c27/\F.get 28=.int .i64 (i:Int)/\F.get 7=.ref y 0/\F.get 50=p1/\F.get 51=.int .i64 (r.ins.length:Int)/\F.get 52=.int .i64 (j:Int)/\U[y]?=some (O.cells 46 [.str r.name,p1,p2,p3,p4] true)/\∃A L3 L4,nY E U gb m0 m1 sa ma b3 b4 (es0++[(.str r.name,v)]) es1 A L3 L4/\wT X3 (P++(r.ins.take j).map (λf=>(((true,r.name):aJ),((false,f):aJ)))) A L3 L4) r.ins.length ?_ ?_ r.ins.length 0 _ _ (by omega) (Br (by simp +decide only[GS,q0,q5,Jf,Yl,Yk,q7,aj]) ⟨hy3,A3,L3,L4,ga3,by rw[kz,map_nil,fh];exact li3⟩)
 ·rintro j F U hj ⟨g0,g5,g26,g27,g28,g7,g50,g51,g52,hy,A,L3,L4,ga,li⟩ next
  obtain⟨s,hsj⟩:∃y,r.ins[j]?=some y:=⟨_,BY hj⟩
  obtain⟨g',e2⟩:=gI h i1 hsj
  have hlt:=eC hj
  have hadd:=bY j (by omega)
  have hPl:(P++(r.ins.take j).map (λf=>(((true,r.name):aJ),((false,f):aJ)))).length<=100010:=by rw[an,az,bl];omega
  have kf:=λ(U:Sg)=>LN (Z:=U) h h' (s:=s)
  rw[aF]
  simp only[KP,Ax.loadAt,↓reduceIte,reduceEqDiff,reduceLT,reduceCtorEq,h.cM,h.bC,g5,g7,g50,g51,g52,hlt,e2,hy,kr,kf]
  refine aO (QY h h' hl ga (x:=(true,r.name)) (y:=(false,s)) (by have:=li.Nc;omega) (λe he=>by have:=li.P7 e he;omega) (λe he=>by have:=li.P6 e he;omega)) ?_
  rintro v2 τ' ⟨rfl,L3',L4',ga',gr3,gr4,kc⟩
  simp only[KP,↓reduceIte,reduceEqDiff,reduceLT,g52,hadd]
  refine next _ _ (Br (by simp +decide only[GS,g0,g5,g26,g27,g28,g7,g50,g51,aj]) ⟨kc _ _ _ _ hy,_,L3',L4',ga',?_⟩)
  rw[Jv hsj,<- cm]
  exact li.link gr3 gr4
 rintro F U ⟨g0,g5,g26,g27,g28,g7,g50,g51,g52,hy,A,L3,L4,ga,li⟩
 rw[ak (ae _)]at li
 have hPl:(P++r.ins.map (λf=>(((true,r.name):aJ),((false,f):aJ)))).length<=100010:=by rw[an,az];omega
 rw[aF]
 have hlt:=eG (bg r.ins.length)
 simp only[KP,Ax.loadAt,↓reduceIte,reduceEqDiff,reduceLT,reduceCtorEq,h.aY,h.bC,g51,g52,hlt,g7,hy,l2]
 generalize hP2:P++r.ins.map (λf=>(((true,r.name):aJ),((false,f):aJ)))=P2 at *
 refine aV (λj F U=>F.get 0=a/\F.get 5=.ref gb 0/\F.get 26=a/\F.get 27=c27/\F.get 28=.int .i64 (i:Int)/\F.get 7=.ref y 0/\F.get 65=p2/\F.get 66=.int .i64 (r.outs.length:Int)/\F.get 67=.int .i64 (j:Int)/\U[y]?=some (O.cells 46 [.str r.name,p1,p2,p3,p4] true)/\∃es1 get A L3 L4,nY E U gb m0 m1 sa ma b3 b4 (es0++[(.str r.name,v)]) es1 A L3 L4/\wT X3 (P2++(r.outs.take j).map (λf=>(((false,f):aJ),((true,r.name):aJ)))) A L3 L4/\SM E es1 get/\Eg es1/\MK get (λk n=>Pm k n\/(k∈r.outs.take j/\n=r.name))) r.outs.length ?_ ?_ r.outs.length 0 _ _ (by omega) (Br (by simp +decide only[GS,g0,g5,g26,g27,g28,g7,aj]) ⟨hy,es1,get,A,L3,L4,ga,by rw[kz,map_nil,fh];exact li,hsm,hsv,hmk.congr λk n=>by simp⟩)
 ·rintro j F U hj ⟨g0,g5,g26,g27,g28,g7,g65,g66,g67,hy,es1,get,A,L3,L4,ga,li,hsm,hsv,hmk⟩ next
  obtain⟨s,hsj⟩:∃y,r.outs[j]?=some y:=⟨_,BY hj⟩
  obtain⟨g',e2⟩:=gI h i2 hsj
  have hlt:=eC hj
  have hadd:=bY j (by omega)
  have hPl2:(P2++(r.outs.take j).map (λf=>(((false,f):aJ),((true,r.name):aJ)))).length<=100020:=by rw[an,az,bl];omega
  have kf:=λ(U:Sg)=>LN (Z:=U) h h' (s:=s)
  rw[aF]
  simp only[KP,Ax.loadAt,↓reduceIte,reduceEqDiff,reduceLT,reduceCtorEq,h.cM,h.bC,aK d18,a_,g5,g7,g65,g66,g67,hlt,e2,hy,kr,kf]
  refine aO (QY h h' hl ga (x:=(false,s)) (y:=(true,r.name)) (by have:=li.Nc;omega) (λe he=>by have:=li.P7 e he;omega) (λe he=>by have:=li.P6 e he;omega)) ?_
  rintro v2 τ' ⟨rfl,L3',L4',ga',gr3,gr4,kc⟩
  have hy':=kc _ _ _ _ hy
  have hg':=ga'.g
  obtain⟨es1',hu,hsm',hsv'⟩:=RJ h ga'.jN hsm hsv s r.name
  have ga2:=ga'.PO es1'
  simp only[KP,Ax.loadAt,↓reduceIte,reduceEqDiff,reduceLT,reduceCtorEq,h.cM,h.bC,h.D4,aK d19,a_,h'.mR,g5,g7,g67,hadd,hy',hg',hu]
  refine next _ _ (Br (by simp +decide only[GS,g0,g5,g26,g27,g28,g7,g65,g66,aj]) ⟨Lb.dL.F6 ga'.jN _ _ _ _ hy',es1',_,_,L3',L4',ga2,?_,hsm',hsv',(hmk.put s r.name).congr λk n=>?_⟩)
  ·rw[G_ hsj,<- cm]
   exact li.link gr3 gr4
  ·rw[gJ hsj k]
   constructor
   ·rintro ((h1 | h1) | h1)
    ·exact .inl h1
    ·exact .inr ⟨.inl h1.1,h1.2⟩
    ·exact .inr ⟨.inr h1.1,h1.2⟩
   ·rintro (h1 | ⟨h1 | h1,h2⟩)
    ·exact .inl (.inl h1)
    ·exact .inl (.inr ⟨h1,h2⟩)
    ·exact .inr ⟨h1,h2⟩
 rintro F U ⟨g0,g5,g26,g27,g28,g7,g65,g66,g67,hy,es1,get,A,L3,L4,ga,li,hsm,hsv,hmk⟩
 rw[ak (ae _)]at li hmk
 rw[aF]
 have hlt:=eG (bg r.outs.length)
 simp only[KP,↓reduceIte,reduceLT,g66,g67,hlt]
 refine hk _ _ _ _ _ _ _ _ (by simp +decide only[GS,g0]) (by simp +decide only[GS,g5]) (by simp +decide only[GS,g26]) (by simp +decide only[GS,g27]) (by simp +decide only[GS,g28]) ga ?_ hrm hsm hsv hmk
 unfold eH
 rw[<- cm,hP2]
 exact li
end
end
section
section
variable {E:Env}{Z:Sg}{K:V->Sg->Prop}
theorem Fg {rs:List aD}{i:Nat}{r:aD}(hr:rs[i]?=some r):(rs.take (i+1)).flatMap eH=(rs.take i).flatMap eH++eH r/\(rs.take (i+1)).map g_=(rs.take i).map g_++[g_ r]:=by
 rw[dh,hr]
 simp
theorem nw_c (h:bJ E)(h':qO E)(hl:Lb.cK E) {a:V}{rs:List aD} (ia:IS bS a rs)(hs:∀x∈rs,Small x)(hsh:FD rs)(hlen:rs.length<=1000) (F:FT) (g0:F.get 0=a) {K:V->Sg->Prop}
  (hk:∀U gb ma b3 b4 es0 es1 get A L3 L4,nY E U gb 0 1 2 ma b3 b4 es0 es1 A L3 L4->wT (rs.map g_) (rs.flatMap eH) A L3 L4->RM es0 rs->SM E es1 get->Eg es1->MK get (Mk rs)->K (.ref gb 0) U):Ax.R E (cutAt [1,1] (aA Tryz.f13).code) [] ⟨88,F⟩ [] (mQ E (aA Tryz.f13).results K):=by
 have la:=cI h ia
 have inner:=λ{U gb ma b3 b4 es0 es1 A L3 L4} ga {X P} li hX hP {i r g p1 p2 p3 p4} e1 i1 i2 i3 i4 hs {rs2} ha hn {get Pm} hsm hsv hmk F g0 g5 g26 g27 g28 st Q hk=>PA (U:=U) (gb:=gb) (m0:=0) (m1:=1) (sa:=2) (ma:=ma) (b3:=b3) (b4:=b4) (es0:=es0) (es1:=es1) (A:=A) (L3:=L3) (L4:=L4) (X:=X) (P:=P) (a:=a) (c27:=.int .i64 (rs.length:Int)) (i:=i) (r:=r) (g:=g) (p1:=p1) (p2:=p2) (p3:=p3) (p4:=p4) (rs:=rs2) (get:=get) (Pm:=Pm) h h' hl ga li hX hP e1 i1 i2 i3 i4 hs ha hn hsm hsv hmk F g0 g5 g26 g27 g28 (st:=st) (Q:=Q) hk
 rw[show cutAt [1,1] (aA Tryz.f13).code=.seq (cutAt [1,1,0] (aA Tryz.f13).code) (.seq (.seq (cutAt [1,1,1,0,0] (aA Tryz.f13).code) (.block 0 (.loop (.seq (cutAt [1,1,1,0,1,2,2,0] (aA Tryz.f13).code) (.seq (cutAt [1,1,1,0,1,2,2,1,0] (aA Tryz.f13).code) (.seq (.block 1 (cutAt [1,1,1,0,1,2,2,1,1,0,2] (aA Tryz.f13).code)) (cutAt [1,1,1,0,1,2,2,1,1,1] (aA Tryz.f13).code))))))) (cutAt [1,1,1,1] (aA Tryz.f13).code)) from rfl]
 generalize cutAt [1,1,1,0,1,2,2,1,1,0,2] (aA Tryz.f13).code=B at inner ⊢
 simp only[aA,Tryz.f13,KP,↓reduceIte,reduceLT,cutAt]
 refine aO (Lb.Uq hl (Z:=[.map [],.map []]) (v:=.aB) (l:=[]) (.inl ⟨rfl,rfl⟩) (by simp)) ?_
 rintro v τ1 ⟨m,rfl,hset,hlt,oG⟩
 have k0:=oG 0 _ rfl
 have k1:=oG 1 _ rfl
 have hs2:Lb.dG τ1 2 m []:=hset
 have hlt:2<m:=hlt
 have hml:=(AS.1 hs2.map).1
 simp only[KP,↓reduceIte,reduceEqDiff,reduceLT,reduceAdd,reduceCtorEq,h.D4,Ax.fill,Ax.placeOf,hl.uB,h'.mR,h'.MA,h'.xK,g0,la]
 have ga0:nY E (τ1++[.map []]++[.map []]++[.cells 100 [.mp 0,.mp 1,.ref 2 0,.mp τ1.length,.mp (τ1++[O.map []]).length] true]) (τ1++[O.map []]++[O.map []]).length 0 1 2 m τ1.length (τ1++[O.map []]).length [] [] [] [] []:=by
  refine⟨aR,aP (aP (aP k0)),aP (aP (aP k1)),dG.app (dG.app (dG.app hs2 _) _) _,⟨aP (aP aR),(λe he=>by cases he),nodup_nil⟩,⟨aP aR,(λe he=>by cases he),nodup_nil⟩,?_⟩
  rw[an]
  simp only[map_nil,fh,dm,By,br,dz,qg,aa,bf,nu,nodup_nil,cn]
  omega
 generalize τ1++[.map []]++[.map []]++[.cells 100 [.mp 0,.mp 1,.ref 2 0,.mp τ1.length,.mp (τ1++[O.map []]).length] true]=τ2 at *
 generalize (τ1++[O.map []]++[O.map []]).length=gb at *
 generalize (τ1++[O.map []]).length=b4 at *
 generalize τ1.length=b3 at *
 refine aV (λi F U=>F.get 0=a/\F.get 5=.ref gb 0/\F.get 26=a/\F.get 27=.int .i64 (rs.length:Int)/\F.get 28=.int .i64 (i:Int)/\∃es0 es1 get A L3 L4,nY E U gb 0 1 2 m b3 b4 es0 es1 A L3 L4/\wT ((rs.take i).map g_) ((rs.take i).flatMap eH) A L3 L4/\RM es0 (rs.take i)/\SM E es1 get/\Eg es1/\MK get (Mk (rs.take i))) rs.length ?_ ?_ rs.length 0 _ _ (by omega) (mT (by simp +decide only[GS,g0,aj]) ⟨[],[],λ_=>none,[],[],[],ga0,wT.nil,.nil,JN,(λe he=>by cases he),MK.nil.congr λk n=>⟨λh=>h.elim,λ⟨q,hq,_⟩=>by cases hq⟩⟩)
 ·rintro i F U hi ⟨g0,g5,g26,g27,g28,es0,es1,get,A,L3,L4,ga,li,ha,hsm,hsv,hmk⟩ next
  obtain⟨r,hr⟩:∃y,rs[i]?=some y:=⟨_,BY hi⟩
  obtain⟨g,p1,p2,p3,p4,e1,i1,i2,i3,i4⟩:=dK h ia hr
  have hrm:=af hr
  have hlt:=eC hi
  have hadd:=bY i (by omega)
  have hnn:∀q∈rs.take i,q.name≠r.name:=λq hq e=>by
   obtain⟨j,hj⟩:=jg.1 hq
   have hji:j<i:=by have:=(AS.1 hj).1;rw[bl]at this;omega
   rw[gq hji]at hj
   have:=hsh.nodup j i q r hj hr e
   omega
  have hXl:((rs.take i).map g_).length<=1000:=by rw[az,bl];omega
  have hPl:((rs.take i).flatMap eH).length<=100000:=by
   have:=pT (rs.take i) λq hq=>hs q (ji hq)
   rw[bl]at this
   omega
  rw[aF]
  simp only[KP,↓reduceIte,reduceLT,g27,g28,hlt]
  refine inner ga li hXl hPl e1 i1 i2 i3 i4 (hs r hrm) ha hnn hsm hsv hmk _ ?_ ?_ ?_ ?_ ?_ _ _ (λF2 τ2 es0' es1' get' A' L3' L4' q0 q5 Jf Yl Yk ga' li' ha' hsm' hsv' hmk'=>?_)
  ·simp +decide only[GS,g0]
  ·simp +decide only[GS,g5]
  ·simp +decide only[GS,g26]
  ·simp +decide only[GS,g27]
  ·simp +decide only[GS,g28]
  simp only[KP,↓reduceIte,reduceLT,Yk,hadd]
  refine next _ _ (mT (by simp +decide only[GS,q0,q5,Jf,Yl,aj]) ⟨es0',es1',get',A',L3',L4',ga',?_,?_,hsm',hsv',hmk'.congr λk n=>(Mo hr k n).symm⟩)
  ·rw[(Fg hr).1,(Fg hr).2];exact li'
  ·rw[dh,hr];exact ha'
 ·rintro F U ⟨g0,g5,g26,g27,g28,es0,es1,get,A,L3,L4,ga,li,ha,hsm,hsv,hmk⟩
  rw[ak (ae _)]at li ha hmk
  have hlt:=eG (bg rs.length)
  rw[aF]
  simp only[KP,↓reduceIte,reduceEqDiff,reduceLT,g5,g27,g28,hlt]
  exact hk _ _ _ _ _ _ _ _ _ _ _ ga li ha hsm hsv hmk
end
end
section
section
variable {E:Env}{Z:Sg}{K:V->Sg->Prop}
def uD (ks:List aJ):V:=.dH false [.imp false (Lb.mP ks)]
def vJ (e:dP):V × V:=(pO e.key,uD e.ks)
def gV (es0 es1:List (V × V)) (A:List aJ) (L3 L4:List dP):V:=.dH false [.imp false es0,.imp false es1,uD A,.imp false (L3.map vJ),.imp false (L4.map vJ)]
structure KH (E:Env) (rs:List aD) (es0 es1:List (V × V)) (get:bD->Option V) (A:List aJ) (L3 L4:List dP):Prop where
 rules:RM es0 rs
 sm:SM E es1 get
 sv:Eg es1
 PO:MK get (Mk rs)
 li:wT (rs.map g_) (rs.flatMap eH) A L3 L4
 nA:A.Nodup
 n3:(L3.map dP.key).Nodup
 n4:(L4.map dP.key).Nodup
 k3:∀e∈L3,e.ks.Nodup
 k4:∀e∈L4,e.ks.Nodup
def Ji (E:Env) (rs:List aD) (v:V):Prop:=∃es0 es1 get A L3 L4,v=gV es0 es1 A L3 L4/\KH E rs es0 es1 get A L3 L4
theorem HW {α β γ:Type}{f:β->Option γ}{g:α->β}{k:α->γ}:∀{l:List α},(∀x∈l,f (g x)=some (k x))->aU f (l.map g)=some (l.map k)
 | [],_=>rfl
 |x::l,h=>by rw[bj,aU,h x (IN ..),HW λy hy=>h y (No _ hy)];rfl
theorem CC {Z:Sg}{b m n:Nat}{ks:List aJ}(hs:Lb.dG Z b m ks):bI Z E.ty false (n+3) (.ref b 0)=some (uD ks):=by
 have e1:bI Z E.ty false (n+2) (.mp m)=some (.imp false (Lb.mP ks)):=by
  rw[bI]
  simp only[hs.map]
  rw[Lb.HX (Lb.mP ks)]
  intro e he
  obtain⟨k,_,rfl⟩:=cg.1 he
  rfl
 rw[bI]
 simp only[hs.obj,eu]
 show (match aU (λv=>match bI Z E.ty false (n+2) v with
  |some v=>if bU false v then some v else no "snap: borrowed"
  |none=>none) [V.mp m] with
  |some l=>some (V.dH false l)
  |none=>none)=_
 simp only[aU,e1]
 rfl
theorem CB {Z:Sg}{b n:Nat}{L:List dP}(hm:i_ Z b L):bI Z E.ty false (n+4) (.mp b)=some (.imp false (L.map vJ)):=by
 rw[bI]
 simp only[hm.map]
 rw[HW (k:=vJ) λe he=>?_]
 have h1:=CC (E:=E) (n:=n) (hm.sets e he)
 have hp:(pO e.key).cells.all Ax.plainCell=true:=rfl
 show (if (pO e.key).cells.all Ax.plainCell=true then (match (match bI Z E.ty false (n+3) (.ref e.s 0) with
   |some v=>if bU false v then some v else no "snap: borrowed"
   |none=>none) with
   |some v=>some (pO e.key,v)
   |none=>none) else none)=_
 rw[b8 hp,h1]
 rfl
theorem Hs {Z:Sg}{b n:Nat}{es:List (V × V)}{rs:List aD}(hb:Z[b]?=some (.map es))(ha:RM es rs):bI Z E.ty false (n+2) (.mp b)=some (.imp false es):=by
 rw[bI]
 simp only[hb]
 rw[iS λe he=>?_]
 obtain⟨r,-,e1,a,b,c,d,e2,i1,i2,i3,i4⟩:=ha.mem he
 obtain⟨k,v⟩:=e
 dsimp only at e1 e2
 subst e1 e2
 have hp:(V.str r.name).cells.all Ax.plainCell=true:=rfl
 have q:∀c:V,Ax.bF c=true->bI Z E.ty false (n+1) c=some c:=λc h1=>gW h1
 have t0:bU false (V.str r.name)=true:=rfl
 simp only[hp,b9,aU,q (.str r.name) rfl,q a i1.is.bF,q b i2.is.bF,q c i3.is.bF,q d i4.is.bF,t0,i1.tag,i2.tag,i3.tag,i4.tag]
theorem JM {Z:Sg}{b n:Nat}{es:List (V × V)}{get:bD->Option V}(hb:Z[b]?=some (.map es))(hs:SM E es get)(hv:Eg es):bI Z E.ty false (n+2) (.mp b)=some (.imp false es):=by
 rw[bI]
 simp only[hb]
 rw[iS λe he=>?_]
 obtain⟨k,e1⟩:=(hs.1 e he).1
 obtain⟨m,e2⟩:=hv e he
 obtain⟨a,v⟩:=e
 dsimp only at e1 e2
 subst e1 e2
 rfl
theorem JL {Z:Sg}{gb m0 m1 sa ma b3 b4:Nat}{es0 es1:List (V × V)}{get:bD->Option V}{A:List aJ}{L3 L4:List dP}{rs:List aD} (ga:nY E Z gb m0 m1 sa ma b3 b4 es0 es1 A L3 L4)(ha:RM es0 rs)(hs:SM E es1 get)(hv:Eg es1):bW Z E.ty false (.ref gb 0)=some (gV es0 es1 A L3 L4):=by
 have s0:=Hs (E:=E) (n:=9) ga.rules ha
 have s1:=JM (E:=E) (n:=9) ga.jN hs hv
 have s2:=CC (E:=E) (n:=8) ga.all
 have s3:=CB (E:=E) (n:=7) ga.kC
 have s4:=CB (E:=E) (n:=7) ga.jX
 have e:bI Z E.ty false 12 (.ref gb 0)=some (gV es0 es1 A L3 L4):=by
  rw[bI]
  simp only[ga.g,eu]
  show (match aU (λv=>match bI Z E.ty false 11 v with
   |some v=>if bU false v then some v else no "snap: borrowed"
   |none=>none) [V.mp m0,V.mp m1,V.ref sa 0,V.mp b3,V.mp b4] with
   |some l=>some (V.dH false l)
   |none=>none)=_
  simp only[aU,s0,s1,s2,s3,s4]
  rfl
 show (match bI Z E.ty false 12 (.ref gb 0) with
  |some v=>if bU false v then some v else no "snap: borrowed"
  |none=>none)=_
 rw[e]
 rfl
theorem DR (h:bJ E)(h':qO E)(hl:Lb.cK E) {a:V}{rs:List aD}(ha:LS bS 46 Z a rs)(hs:∀x∈rs,Small x)(hlen:rs.length<=4294967296):aC E 13 [a] Z λv σ'=>σ'=Z/\((¬ nN rs/\v=.fJ)\/(nN rs/\Ji E rs v)):=by
 obtain⟨a',ea,ia⟩:=dQ h ha
 rw[aH h'.hs13 h'.OV h'.fn13 h'.md13 (args':=[a']) (by simp only[aU,ea]),aX (by kernel_rfl)]
 have key:=λhsh hlen F g0 hk=>nw_c (a:=a') (rs:=rs) h h' hl ia hs hsh hlen F g0 (K:=λv σ1=>match bW σ1 E.ty false v with
   |some v=>((¬ nN rs/\v=.fJ)\/(nN rs/\Ji E rs v))
   |none=>False) hk
 rw[show (aA Tryz.f13).code=.seq (cutAt [0] (aA Tryz.f13).code) (.seq (cutAt [1,0] (aA Tryz.f13).code) (cutAt [1,1] (aA Tryz.f13).code)) from rfl]
 generalize cutAt [1,1] (aA Tryz.f13).code=C at key ⊢
 simp only[aA,Tryz.f13,KP,↓reduceIte,reduceLT,reduceCtorEq,cutAt]
 refine aO (WG h (ia.ls _ 46) hs hlen) ?_
 rintro v σ' ⟨rfl,e,nm,rfl,hE⟩
 by_cases he:e=0
 ·have q:=AT he
  have hr:=hE.zero.1 he
  have hg:=wJ hr.1
  have h40:=hg.len
  simp only[KP,↓reduceIte,reduceEqDiff,reduceLT,q]
  refine key hg.short (gh h40 (by decide)) _ ?_ ?_
  ·simp +decide only[GS]
  intro U gb ma b3 b4 es0 es1 get A L3 L4 ga li ha hsm hsv hmk
  rw[JL ga ha hsm hsv]
  exact .inr ⟨hr,es0,es1,get,A,L3,L4,rfl,ha,hsm,hsv,hmk,li,ga.all.nodup,ga.kC.nodup,ga.jX.nodup,λe he=>(ga.kC.sets e he).nodup,λe he=>(ga.jX.sets e he).nodup⟩
 ·have q:=AI he
  simp only[KP,↓reduceIte,reduceEqDiff,reduceLT,q]
  exact .inl ⟨mt hE.zero.2 he,rfl⟩
end
end
end Go.Proofs.YtmbikbgdbbcbmaaGreatDoor
end
