/- Part 2 of the proof. -/
import Derived.Test.YtmbikbgdbbcbmaaGreatDoorY
import Derived.Test.YtmbikbgdbbcbmaaGreatDoorZ1
import Derived.Test.YtmbikbgdbbcbmaaGreatDoorChecked
import Derived.Test.YtmbikbgdbbcbmaaGreatDoorRows
import Derived.WalkKit
import Derived.ProofKit
import Derived.Shelf.Lay
import Derived.Lay
import Derived.LaidOnce
import Derived.LaidLaws
import Derived.PinnedBridge
import Derived.Carry
import Derived.Handed
set_option maxHeartbeats 8000000
set_option linter.unusedVariables false
open Go.Proofs.Tryz renaming prog→κ
open Go.Result renaming andThen_ok→ν
open Go renaming Value→ο,World→Γ,Program→ar,Oper→cd
open Go.Sem renaming run_bind→υ
open Nat renaming beq→ca,ble→gd,blt→i5
open Go.Region renaming binds→cY,linearise→i7
open Go.Instr renaming checkKey→fp
open Go.Region.linearise renaming go→ii
open List renaming getD_eq_getElem?_getD→qp
section
namespace Go.Ax
open Go
section
theorem count_set:∀(l:List Bool)(i:Nat),l[i]?=some false->(l.set i true).count false+1=l.count false
 | [],i,h=>by simp at h
 |b::l,0,h=>by
  simp at h;subst h;simp
 |b::l,i+1,h=>by
  have:=count_set l i (by simpa using h);simp only[nt,List.count_cons];omega
section
variable {E:Env}{ev:yQ}{frz:Fz}{ops:Array cd}{T:Nat->Fr × Sg}{pre:Nat->Nat->Bool}
theorem Inv.done(h:Dr E ev frz ops T pre){L:Array Bool}{fr:Fr}{Z:Sg}(hi:Inv E frz ops T pre L fr Z)(hl:∀k,k<ops.size->L[k]?=some true):Z=(T ops.size).2/\fr.n=(T ops.size).1.n/\∀t,fr.get t=(T ops.size).1.get t:=by
 have hx:∀k o,ops[k]?=some o->(k<ops.size ↔ L[k]?=some true):=λk o ho=>⟨λhk=>hl k hk,λ_=>L_ ho⟩;exact⟨hi.Z ops.size (OF _) λk o ho _=>hx k o ho,by rw[hi.len,h.len _ (OF _)],λt=>hi.fr t ops.size (OF _) λk o ho _=>hx k o ho⟩
theorem Rq(h:Dr E ev frz ops T pre):∀(fuel t:Nat)(L:Array Bool)(acc:List Nat)(fr:Fr)(Z:Sg),Inv E frz ops T pre L fr Z->L.toList.count false<=fuel ->
  ∃l,ii .any ops fuel t L acc=acc.reverse++l/\∃r:Fr × Sg,MP E ev frz ops l fr Z=some r/\r.2=(T ops.size).2/\r.1.n=(T ops.size).1.n/\∀t,r.1.get t=(T ops.size).1.get t
 |0,t,L,acc,fr,Z,hi,hc=>by
  refine⟨[],by simp[ii],?_⟩
  have:∀k,k<ops.size->L[k]?=some true:=λk hk=>by
   have hk':k<L.size:=by rw[hi.size];exact hk
   have h0:false ∉ L.toList:=List.count_eq_zero.1 (by omega);rw[gq hk'];cases hx:L[k] with
   |true=>rfl
   |false=>exact(h0 (by rw[<- hx];simp)).elim
  exact⟨(fr,Z),by simp only[MP],hi.done h this⟩
 |fuel+1,t,L,acc,fr,Z,hi,hc=>by
  simp only[ii]
  generalize hrs:(List.range ops.size).filter (λi=>
    !L.getD i true&&((ops[i]?).map (λ(x:cd)=>x.after.all λe=>!cY .any e||L.getD e.on false)).getD false)=rs
  have mem:∀i,i∈rs ↔ i<ops.size/\L[i]?=some false/\∃o,ops[i]?=some o/\∀e∈o.after.toList,cY .any e=true->L[e.on]?=some true:=by
   intro i;rw[<- hrs];simp only[mu,k8,ak];refine and_congr qh (and_congr ?_ ?_)
   ·rw[nh];cases hx:L[i]? with
    |none=>simp
    |some b=>cases b <;> simp
   ·cases ho:ops[i]? with
    |none=>simp
    |some o=>
     simp only[ck,ay,j7,exists_eq_left'];rw[<- Array.all_toList];simp only[eu,fl,gu];refine forall_congr' λe=>forall_congr' λhe=>?_;rw[nh];cases hb:cY .any e with
     |false=>simp
     |true=>
      cases hx:L[e.on]? with
      |none=>simp
      |some b=>cases b <;> simp
  cases hget:rs[t % rs.length]? with
  |none=>
   dsimp only;refine⟨[],by simp,?_⟩
   have hemp:rs=[]:=by
    cases rs with
    |nil=>rfl
    |cons a r=>
     have:=List.getElem?_eq_none_iff.1 hget;have:=Nat.mod_lt t (show 0<(a::r).length by simp);omega
   have:∀k,k<ops.size->L[k]?=some true:=λk hk=>by
    rcases DU (λk=>L[k]?≠some true) 0 ops.size (by omega) with hn | ⟨a,_,a2,a3,a4⟩
    ·have:=hn k (by omega) hk;exact Decidable.not_not.1 this
    ·obtain⟨o,ho⟩:=wK a2 (OF ops.size);have hal:a<L.size:=by rw[hi.size];exact a2
     have ha:a∈rs:=(mem a).2 ⟨a2,by
      rw[gq hal]at a3 ⊢;cases hx:L[a] with
      |true=>rw[hx]at a3;exact(a3 rfl).elim
      |false=>rfl,o,ho,λe he hb=>by
      have:=h.lt a o ho e he hb;exact Decidable.not_not.1 (a4 e.on (by omega) this)⟩
     rw[hemp]at ha;cases ha
   exact⟨(fr,Z),by simp only[MP],hi.done h this⟩
  |some i=>
   dsimp only;obtain⟨m1,m2,o,ho,m3⟩:=(mem i).1 (ag hget);obtain⟨fr',σ',hs,hi'⟩:=hi.step h ho m2 m3
   have hcnt:(L.setIfInBounds i true).toList.count false<=fuel:=by
    have:=count_set L.toList i (by simpa using m2);rw[Array.toList_setIfInBounds];omega
   obtain⟨l,h1,h2⟩:=Rq h fuel (t / rs.length) _ (i::acc) fr' σ' hi' hcnt;refine⟨i::l,by rw[h1];simp,?_⟩;simp only[MP,ho,hs];exact h2
theorem Ta(h:Dr E ev frz ops T pre)(t:Nat):∃r:Fr × Sg,MP E ev frz ops (i7 .any ops t) (T 0).1 (T 0).2=some r/\r.2=(T ops.size).2/\r.1.n=(T ops.size).1.n/\∀t,r.1.get t=(T ops.size).1.get t:=by
 have hrep:∀k,(Array.replicate ops.size false)[k]?≠some true:=λk hk=>by
  rw[Array.getElem?_replicate]at hk;split at hk <;> simp at hk
 have hi:Inv E frz ops T pre (Array.replicate ops.size false) (T 0).1 (T 0).2:=by
  refine⟨by simp,λi k hk=>(hrep i hk).elim,rfl,λt j hj hc=>?_,λj hj hc=>?_⟩
  ·exact h.L8 j (a:=0) (by omega) hj λk o _ k2 ho hd=>hrep k ((hc k o ho hd).1 k2)
  ·refine h.AP j (a:=0) (by omega) hj λk o _ k2 ho=>?_;cases hw:(effect E frz o.op).2 with
   |false=>rfl
   |true=>exact(hrep k ((hc k o ho hw).1 k2)).elim
 obtain⟨l,h1,h2⟩:=Rq h ops.size t _ [] _ _ hi (by simp);unfold i7;rw[h1];simpa using h2
theorem CN:∀(rest:List cd)(fr:Fr)(Z:Sg)(ts:List (Fr × Sg)),iQ E ev frz ops rest fr Z=some ts ->
  ts.length=rest.length+1/\ts[0]?=some (fr,Z)/\last ts=ts[rest.length]?/\∀i o,rest[i]?=some o->∃p q,ts[i]?=some p/\ts[i+1]?=some q/\bN E ev frz ops o p.1 p.2=some q
 | [],fr,Z,ts,h=>by
  simp only[iQ]at h;cases h;exact⟨rfl,rfl,rfl,λi o h=>by simp at h⟩
 |o::rest,fr,Z,ts,h=>by
  simp only[iQ]at h;split at h
  case h_2=>cases h
  rename_i fr' σ' hs;split at h
  case h_2=>cases h
  rename_i l hl;cases h;obtain⟨h1,h2,h3,h4⟩:=CN rest fr' σ' l hl;refine⟨by simp[h1],rfl,?_,λi o' ho=>?_⟩
  ·cases l with
   |nil=>simp at h1
   |cons b l=>simpa [last]using h3
  ·cases i with
   |zero=>
    simp at ho;subst ho;exact⟨(fr,Z),(fr',σ'),rfl,by simpa using h2,hs⟩
   |succ i=>
    obtain⟨p,q,k1,k2,k3⟩:=h4 i o' (by simpa using ho);exact⟨p,q,by simpa using k1,by simpa using k2,k3⟩
theorem BO:∀(rest:List cd)(fr:Fr)(Z:Sg)(r:Fr × Sg),gY E ev frz ops rest fr Z=some r->∃ts,iQ E ev frz ops rest fr Z=some ts/\last ts=some r
 | [],fr,Z,r,h=>by
  simp only[gY]at h;cases h;exact⟨_,rfl,rfl⟩
 |o::rest,fr,Z,r,h=>by
  simp only[gY]at h;split at h
  case h_2=>cases h
  rename_i fr' σ' hs;obtain⟨ts,h1,h2⟩:=BO rest fr' σ' r h;refine⟨_,by simp only[iQ,hs,h1];rfl,?_⟩;cases ts with
  |nil=>cases h2
  |cons b l=>simpa [last]using h2
theorem xW:∀(rest:List cd)(i:Nat)(pre:List Nat),pre.length=rest.length->∀j o,rest[j]?=some o ->
  ∃p,pre[j]?=some p/\(Ic E frz i rest pre)[j]?=some ({ i:=i+j,o,pre:=p,rd:=(effect E frz o.op).1,wr:=(effect E frz o.op).2 }:Eu)
 | [],_,_,_,j,o,h=>by simp at h
 |o::rest,i,[],h1,j,o',h=>by simp at h1
 |o::rest,i,p::pre,h1,j,o',h=>by
  cases j with
  |zero=>
   simp at h;subst h;exact⟨p,rfl,rfl⟩
  |succ j=>
   obtain⟨p',k1,k4⟩:=xW rest (i+1) pre (by simpa using h1) j o' (by simpa using h);refine⟨p',by simpa using k1,?_⟩;simp only[Ic,cm];rw[k4];congr 2;omega
def wW(E:Env)(frz:Fz)(ops:Array cd)(l:List ER)(x y:Eu):Prop:=
 y.pre.testBit x.i=true\/(pZ E frz ops x.o y.o=true/\(((x.wr&&y.rd)=false/\(x.rd&&y.wr)=false)\/({ i:=x.i,j:=y.i,a:=x.wr&&y.rd,b:=x.rd&&y.wr }:ER)∈l))
theorem wW.mono{l l':List ER}{x y:Eu}(h:wW E frz ops l x y)(hl:∀d∈l,d∈l'):wW E frz ops l' x y:=by
 rcases h with h | ⟨h1,h2 | h2⟩
 ·exact .inl h
 ·exact .inr ⟨h1,.inl h2⟩
 ·exact .inr ⟨h1,.inr (hl _ h2)⟩
theorem sY{x:Eu}:∀(rows:List Eu)(l:List ER),zJ E frz ops x rows=some l->∀y∈rows,wW E frz ops l x y
 | [],_,_,y,hy=>by cases hy
 |z::rows,l,h,y,hy=>by
  simp only[zJ]at h;split at h
  ·rename_i hb;rcases IN.1 hy with rfl | hy
   ·exact .inl hb
   ·exact sY rows l h y hy
  ·split at h
   case h_2=>cases h
   rename_i l' hp hl;have ih:=sY rows l' hl;split at h
   ·rename_i e1 e2;cases h;rcases IN.1 hy with rfl | hy
    ·exact .inr ⟨hp,.inl ⟨e1,e2⟩⟩
    ·exact ih y hy
   ·cases h;rcases IN.1 hy with rfl | hy
    ·exact .inr ⟨hp,.inr (No ..)⟩
    ·exact(ih y hy).mono λd hd=>ae _ hd
theorem zK:∀(rows:List Eu)(l:List ER),zL E frz ops rows=some l->∀(i j:Nat)(x y:Eu),i<j->rows[i]?=some x->rows[j]?=some y->wW E frz ops l x y
 | [],_,_,i,j,x,y,_,h,_=>by simp at h
 |r::rows,l,h,i,j,x,y,hij,hx,hy=>by
  simp only[zL]at h;split at h
  case h_2=>cases h
  rename_i a b ha hb;cases h;cases j with
  |zero=>omega
  |succ j=>
   have hy':rows[j]?=some y:=by simpa using hy
   cases i with
   |zero=>
    simp at hx;subst hx;exact(sY rows a ha y (ag hy')).mono λd hd=>List.mem_append_left _ hd
   |succ i=>exact(zK rows b hb i j x y (by omega) (by simpa using hx) hy').mono λd hd=>jy _ hd
theorem pE:∀(rest:List cd)(i:Nat),wR i rest=true->∀j o,rest[j]?=some o->∀e∈o.after.toList,cY .any e=true->e.on<i+j
 | [],_,_,j,o,h=>by simp at h
 |r::rest,i,h,j,o,ho=>by
  simp only[wR,ak,eu]at h;cases j with
  |zero=>
   simp at ho;subst ho;intro e he hb;have:=h.1 e he;simpa [hb]using this
  |succ j=>
   intro e he hb;have:=pE rest (i+1) h.2 j o (by simpa using ho) e he hb;omega
theorem Kq{pl:List Nat}{o:cd}{k:Nat}(h:(Ip pl o).testBit k=true):∃e∈o.after.toList,cY .any e=true/\(k=e.on\/(pl.getD e.on 0).testBit k=true):=by
 have key:∀(l:List Edge)(b:Nat),(l.foldl (λb (e:Edge)=>if cY .any e then b ||| (1 <<< e.on) ||| pl.getD e.on 0 else b) b).testBit k=true ->
   b.testBit k=true\/∃e∈l,cY .any e=true/\(k=e.on\/(pl.getD e.on 0).testBit k=true):=by
  intro l
  induction l with
  |nil=>intro b hb;exact .inl hb
  |cons e l ih=>
   intro b hb;simp only[jh]at hb;rcases ih _ hb with h1 | ⟨e',h1,h2⟩
   ·by_cases hbe:cY .any e=true
    ·rw[az hbe]at h1;simp only[Nat.testBit_or,fl]at h1;rcases h1 with (h1 | h1) | h1
     ·exact .inl h1
     ·refine .inr ⟨e,by simp,hbe,.inl ?_⟩;rw[Nat.one_shiftLeft,Nat.testBit_two_pow]at h1;exact(er h1).symm
     ·exact .inr ⟨e,by simp,hbe,.inr h1⟩
    ·rw[an hbe]at h1;exact .inl h1
   ·exact .inr ⟨e',by simp[h1],h2⟩
 rcases key _ 0 h with h | h
 ·simp at h
 ·exact h
theorem Fk:∀(rest:List cd)(pl:List Nat),(∃s,zI rest pl=pl++s/\s.length=rest.length)/\∀j o,rest[j]?=some o->(zI rest pl)[pl.length+j]?=some (Ip ((zI rest pl).take (pl.length+j)) o)
 | [],pl=>⟨⟨[],by simp[zI],rfl⟩,λj o h=>by simp at h⟩
 |o::rest,pl=>by
  obtain⟨⟨s,h1,h2⟩,h3⟩:=Fk rest (pl++[Ip pl o]);refine⟨⟨Ip pl o::s,by simp[zI,h1],by simp[h2]⟩,λj o' ho=>?_⟩;cases j with
  |zero=>
   simp at ho;subst ho;simp only[zI,h1];simp
  |succ j=>
   have:=h3 j o' (by simpa using ho);simp only[zI];rw[By,dj,qm,lu 1 j]at this;exact this
theorem Oc{fr:Fr}{Z:Sg}{r:Fr × Sg}(h:cP E ev ops fr Z=some r)(t:Nat):∃q:Fr × Sg,MP E ev (fP E ops) ops (i7 .any ops t) fr Z=some q/\q.2=r.2/\q.1.n=r.1.n/\∀t,q.1.get t=r.1.get t:=by
 unfold cP at h;generalize fP E ops=frz at h ⊢
 obtain⟨l,ts,hpl,hts,hc,hr⟩:∃l ts,cK E frz ops=some l/\iQ E ev frz ops ops.toList fr Z=some ts/\l.all (iM E ev frz ops ts)=true/\last ts=some r:=by
  split at h
  ·cases h
  ·rename_i hp;obtain⟨ts,h1,h2⟩:=BO _ _ _ _ h;exact⟨[],ts,hp,h1,rfl,h2⟩
  ·rename_i l _ hp;split at h
   ·cases h
   ·rename_i ts hts;split at h
    case isFalse=>cases h
    rename_i hc;exact⟨l,ts,hp,hts,hc,h⟩
 clear h
 obtain⟨hedge,hplan⟩:wR 0 ops.toList=true/\zL E frz ops (Ic E frz 0 ops.toList (zI ops.toList []))=some l:=by
  unfold cK at hpl;split at hpl
  ·rename_i he;exact⟨he,hpl⟩
  ·cases hpl
 rw[eu]at hc;obtain⟨t1,t2,t3,t4⟩:=CN _ _ _ _ hts;obtain⟨⟨s,p1,p2⟩,p3⟩:=Fk ops.toList [];have hpl:(zI ops.toList []).length=ops.toList.length:=by rw[p1];simpa using p2
 have hd:Dr E ev frz ops (λi=>(ts[i]?).getD (⟨0,.leaf⟩,[])) (λi k=>((zI ops.toList []).getD i 0).testBit k):=by
  refine⟨λi o ho=>?_,λi o ho k hk=>?_,λi o ho e he hb=>?_,λi j x y hij hx hy=>?_⟩
  ·obtain⟨p,q,k1,k2,k3⟩:=t4 i o (by simpa using ho);simp only[k1,k2,ay];exact k3
  ·have h0:=p3 i o (by simpa using ho);simp only[aq,dc]at h0;simp only[qp,h0,ay]at hk;obtain⟨e,h1,h2,h3⟩:=Kq hk;refine⟨e,h1,h2,?_⟩;rcases h3 with h3 | h3
   ·exact .inl h3
   ·refine .inr ?_;have hlt:=pE _ 0 hedge i o (by simpa using ho) e h1 h2;simp only[qp]at h3 ⊢;rw[ik,az (by omega)]at h3;exact h3
  ·have:=pE _ 0 hedge i o (by simpa using ho) e he hb;omega
  ·obtain⟨pa,k1,k4⟩:=xW (E:=E) (frz:=frz) ops.toList 0 (zI ops.toList []) hpl i x (by simpa using hx);obtain⟨pb,l1,l4⟩:=xW (E:=E) (frz:=frz) ops.toList 0 (zI ops.toList []) hpl j y (by simpa using hy);have hP:=zK _ _ hplan i j _ _ hij k4 l4;obtain⟨a,a',a1,a2,_⟩:=t4 i x (by simpa using hx);obtain⟨b,b',b1,b2,_⟩:=t4 j y (by simpa using hy);simp only[wW,dc]at hP;rcases hP with h | ⟨h1,h2⟩
   ·refine .inl ?_;simp only[qp,l1,ay];exact h
   ·refine .inr ⟨h1,?_⟩;rcases h2 with⟨h2,h3⟩ | h2
    ·refine⟨λe1 e2=>?_,λe1 e2=>?_⟩
     ·rw[e1,e2]at h2;cases h2
     ·rw[e1,e2]at h3;cases h3
    ·have hn:=hc _ h2;simp only[iM,hx,hy,a1,b1,b2,ak,fl,gu]at hn;refine⟨λe1 e2=>?_,λe1 e2=>?_⟩
     ·rcases hn.1 with h | h
      ·rw[e1,e2]at h;cases h
      ·simpa [a1,b1]using h
     ·rcases hn.2 with h | h
      ·rw[e1,e2]at h;cases h
      ·simpa [a1,b2]using h
 have:=Ta hd t;simp only[t2,ay]at this;rw[t3]at hr;simp only[jc]at hr;rw[hr]at this;exact this
end
section
variable {P:ar}{E:Env}
theorem Post.trans{c c':Cx}{r:X}{fr:Fr}{Z:Sg}{e:Exit}{a:Act}{w:Γ}(h:Ext c c')(hp:Post E c' r fr Z e a w):Post E c r fr Z e a w:=by
 obtain⟨h1,h2,d,h3,h4,h5,h6⟩:=hp;exact⟨h1,h2,d,h3,h4,h.trans h5,h6⟩
theorem Fl{c:Cx}{r:X}{fr:Fr}{Z:Sg}{e:Exit}{a:Act}{w:Γ}{K:Act->Γ->Prop}(hn:∀fr' σ',(r,fr,Z)≠(X.normal,fr',σ'))(hp:Post E c r fr Z e a w):Exit.then K (Post E c r fr Z) e a w:=by
 obtain⟨h1,h2⟩:=hp;cases r with
 |normal=>exact(hn fr Z rfl).elim
 |exit id=>cases h1;exact⟨rfl,h2⟩
 |ret=>cases h1;exact⟨rfl,h2⟩
theorem rZ(he:cG P E)(hfs:f_ P E)(hmix:P.follows .mixedOrders=true):∀n,Gi P E (ev E n) /\
  ∀(c1:Code)(fr:Fr)(Z:Sg)(r:X)(fr':Fr)(σ':Sg),ev E n (.loop c1) fr Z=some (r,fr',σ')->∀(c:Cx)(a:Act),SR E c->c.Z=Z->FR c fr a.tmps->a.defers=[] ->
   ∀c0,Ext c0 c->Code.rounds P c1 (Post E c0 r fr' σ') n a c.w
 |0=>by
  constructor
  ·intro code fr Z r fr' σ' h;simp only[ev]at h;cases h
  ·intro c1 fr Z r fr' σ' h;simp only[ev]at h;cases h
 |n+1=>by
  obtain⟨ih,ihl⟩:=rZ he hfs hmix n
  have loops:∀(c1:Code)(fr:Fr)(Z:Sg)(r:X)(fr':Fr)(σ':Sg),ev E (n+1) (.loop c1) fr Z=some (r,fr',σ')->∀(c:Cx)(a:Act),SR E c->c.Z=Z->FR c fr a.tmps->a.defers=[] ->
    ∀c0,Ext c0 c->Code.rounds P c1 (Post E c0 r fr' σ') (n+1) a c.w:=by
   intro c1 fr Z r fr' σ' h c a hs hσ hf hd c0 hx;rw[rounds_succ];simp only[ev]at h;split at h
   ·rename_i fr1 σ1 h1;refine wp_mono (ih _ _ _ _ _ _ h1 c a hs hσ hf hd) ?_;rintro e a1 w1 ⟨h0,hd1,c',rfl,hσ1,k1,k2,k3⟩;cases h0;exact ihl c1 fr1 σ1 r fr' σ' h c' a1 k2 hσ1 k3 hd1 c0 (hx.trans k1)
   ·rename_i hn;refine wp_mono (ih _ _ _ _ _ _ h c a hs hσ hf hd) ?_;intro e a1 w1 hp;refine Fl (λfr2 σ2 e=>?_) (hp.trans hx);rw[e]at h;exact hn _ _ h
  refine⟨λcode fr Z r fr' σ' h c a hs hσ hf hd=>?_,loops⟩;subst hσ;cases code with
  |skip=>
   simp only[ev]at h;injection h with h;injection h with e1 h;injection h with e2 e3;subst e1 e2 e3;exact wp_skip ⟨rfl,hd,c,rfl,rfl,Ext.refl c,hs,hf⟩
  |exit id=>
   simp only[ev]at h;injection h with h;injection h with e1 h;injection h with e2 e3;subst e1 e2 e3;exact wp_exit ⟨rfl,hd,c,rfl,rfl,Ext.refl c,hs,hf⟩
  |ret=>
   simp only[ev]at h;injection h with h;injection h with e1 h;injection h with e2 e3;subst e1 e2 e3;exact wp_ret ⟨rfl,hd,c,rfl,rfl,Ext.refl c,hs,hf⟩
  |seq x y=>
   simp only[ev]at h;refine wp_seq ?_;split at h
   ·rename_i fr1 σ1 h1;refine wp_mono (ih _ _ _ _ _ _ h1 c a hs rfl hf hd) ?_;rintro e a1 w1 ⟨h0,hd1,c',rfl,hσ1,k1,k2,k3⟩;cases h0;exact wp_mono (ih _ _ _ _ _ _ h c' a1 k2 hσ1 k3 hd1) λe a w hp=>hp.trans k1
   ·rename_i hn;refine wp_mono (ih _ _ _ _ _ _ h c a hs rfl hf hd) ?_;intro e a1 w1 hp;refine Fl (λfr2 σ2 e=>?_) hp;rw[e]at h;exact hn _ _ h
  |cond x y z=>
   simp only[ev]at h;split at h
   ·rename_i hx;exact wp_cond_true (aM hf hx).gO (ih _ _ _ _ _ _ h c a hs rfl hf hd)
   ·rename_i hx;exact wp_cond_false (aM hf hx).gO (ih _ _ _ _ _ _ h c a hs rfl hf hd)
   ·cases h
  |block id x=>
   simp only[ev]at h;refine wp_block ?_;split at h
   ·rename_i id' fr1 σ1 h1;refine wp_mono (ih _ _ _ _ _ _ h1 c a hs rfl hf hd) ?_;rintro e a1 w1 ⟨h0,hp⟩;cases h0;simp only[Exit.inBlock];split at h
    ·rename_i heq;injection h with h;injection h with e1 h;injection h with e2 e3;subst e1 e2 e3;rw[az heq];exact⟨rfl,hp⟩
    ·rename_i heq;injection h with h;injection h with e1 h;injection h with e2 e3;subst e1 e2 e3;rw[an heq];exact⟨rfl,hp⟩
   ·rename_i hn;refine wp_mono (ih _ _ _ _ _ _ h c a hs rfl hf hd) ?_;rintro e a1 w1 ⟨h0,hp⟩;cases r with
    |normal=>cases h0;exact⟨rfl,hp⟩
    |ret=>cases h0;exact⟨rfl,hp⟩
    |exit id'=>exact(hn _ _ _ h).elim
  |loop x=>exact wp_loop_rounds (n+1) (loops x fr c.Z r fr' σ' h c a hs rfl hf hd c (Ext.refl c))
  |region id ops draw=>
   simp only[ev]at h;split at h
   case h_2=>cases h
   rename_i fr1 σ1 h1;injection h with h;injection h with e1 h;injection h with e2 e3;subst e1 e2 e3;cases draw with
   |false=>
    refine wp_region ?_;rw[an (by simp),F6 ops.toList 0 fr c.Z (by simp)]at h1;rw[List.range_eq_range',<- jc];exact r_ he hfs ih _ hs hf hd h1 c (Ext.refl c)
   |true=>
    rw[az rfl]at h1
    have each:∀t,∃frq:Fr,(frq.n=fr1.n/\∀u,frq.get u=fr1.get u)/\wpOps P ops (Post E c .normal frq σ1) (Region.schedule (P.follows .mixedOrders) ops t) a { c.w with drawn:=c.w.drawn+1 }:=by
     intro t;rw[hmix];simp only[Region.schedule,Bool.true_or,bf];obtain⟨⟨frq,σq⟩,q1,q2,q3,q4⟩:=Oc h1 t;dsimp only at q2 q3 q4;subst q2;exact⟨frq,⟨q3,q4⟩,r_ (c:=c.drew) he hfs ih _ (Cx.wS hs) (FR.mono c.kO hf) hd q1 c c.kO⟩
    intro b k cs;obtain⟨frq,⟨q3,q4⟩,hw⟩:=each (c.w.tape c.w.drawn (.order b.fn id));obtain⟨e,a',w',⟨e1,e2,d,e3,e4,e5,e6,e7⟩,r⟩:=wp_ops _ a _ hw b k cs;exact⟨e,a',w',⟨e1,e2,d,e3,e4,e5,e6,by rw[<- q3];exact e7.1,λt v hv=>e7.2 t v (by rw[q4];exact hv)⟩,.of_steps (.one step_region_draw) r⟩
  |_=>simp only[ev]at h;cases h
theorem Ed(he:cG P E)(hfs:f_ P E)(hmix:P.follows .mixedOrders=true){n f:Nat}{vs:List V}{v:V}(h:Ax.call E n f vs=some v){d:Cx}(hd:d.Z=[])(hs:SR E d){xs:List ο}(hv:fH d vs xs) :
  Calls P f xs.toArray d.w λe w'=>∃(x:ο) (d':Cx),e=.returned x/\d'.w=w'/\d'.Z=[]/\Ext d d'/\SR E d'/\VR d' v x:=by
 unfold Ax.call at h;split at h
 ·cases h
 rename_i F hF;split at h
 case h_2=>cases h
 rename_i u σ1 hent;have hi:=rX hs []
 have hvi:fH (d.inner (d.fW [])) vs xs:=by
  refine fH.mono ?_ hv
  have ho:∀k,¬ d.own k:=by
   rintro k ⟨b,⟨o,ho,_⟩,_⟩;rw[hd]at ho;cases ho
  have hanc:(d.inner (d.fW [])).nT=d.nT:=by
   funext k;exact propext ⟨λh=>h.resolve_right (ho k),λh=>.inl h⟩
  exact⟨OF _,λk _ _=>⟨rfl,nO⟩,by rw[hd];exact OF _,λ_ _=>rfl,λ_ _=>rfl,λ_ _=>rfl,hanc,rfl,rfl,rfl⟩
 have:=vT he hfs (rZ he hfs hmix n).1 hF hi hvi hent;refine this.mono ?_;rintro e w' ⟨x,rfl,d1,rfl,hσ,hx,hsd,hxv⟩;rw[<- hσ]at h;obtain⟨g1,g2,g3⟩:=pK hs hx hsd hxv h;exact⟨x,(d.fW []).outer d1.w,rfl,rfl,hd,g1,g2,g3⟩
end
inductive BT (α:Type) where
 |nil
 |leaf (k:Nat) (a:α)
 |node (k:Nat) (l r:BT α)
def BT.get{α:Type}(n:Nat):BT α->Option α
 | .nil=>none
 | .leaf k a=>match ca n k with
  |true=>some a
  |false=>none
 | .node k l r=>match i5 n k with
  |true=>l.get n
  |false=>r.get n
def BT.Av{α:Type}(p:Nat->α->Prop):BT α->Prop
 | .nil=>True
 | .leaf k a=>p k a
 | .node _ l r=>l.Av p/\r.Av p
theorem BT.tQ{α:Type}{p:Nat->α->Prop}{n:Nat}{a:α}:∀{t:BT α},t.Av p->t.get n=some a->p n a
 | .nil,_,h=>by cases h
 | .leaf k b,ht,h=>by
  simp only[BT.get]at h;split at h
  ·rename_i hk;cases h;have:=jb hk;subst this;exact ht
  ·cases h
 | .node k l r,ht,h=>by
  simp only[BT.get]at h;split at h
  ·exact BT.tQ ht.1 h
  ·exact BT.tQ ht.2 h
def W7:TypeDesc->Option Kd
 | .bool=>some .bool
 | .int k=>some (.int k)
 | .string=>some .str
 | .pointer e=>some (.ptr e)
 | .slice e=>some (.sl e)
 | .array n e=>some (.arr n e)
 | .map k e=>some (.map k e)
 | .struct a=>some (.jL (a.toList.map λf=>(f.offset,f.type)))
 | .func ..=>some .func
 | .interface _=>some .A8
 | .unsafePointer=>some .other
 |_=>none
theorem TK{d:TypeDesc}{k:Kd}(h:W7 d=some k):pI d k:=by
 cases d <;> simp only[W7]at h <;> first
  |(cases h;done)
  |(cases h;simp only[pI])
  |skip
 all_goals first
  |exact⟨_,rfl,rfl⟩
  |exact⟨_,_,_,rfl⟩
  |exact⟨_,rfl⟩
def VM(inf:TypeInfo)(d:TypeDesc):Option Ty:=
 match inf.zero with
 |none=>none
 |some z=>match ofValue z,W7 d with
  |some v,some k=>if v.cells.length=inf.size/\z.cells.size=inf.size then some { kd:=k,size:=inf.size,bytes:=inf.bytes,zero:=v } else none
  |_,_=>none
theorem zP{w:Γ}{I:Bool->Nat->Prop}{x:ο}{v:V}(h:bI x=some v):IR w I v x:=by
 unfold bI at h
 split at h <;> first
  |(cases h;done)
  |(cases h;first | exact .bool _ | exact .int _ _ | exact .str _ | exact .fV | exact .aG | exact .cA | exact .rH | exact .rT)
theorem zO{w:Γ}{I:Bool->Nat->Prop}:∀{xs:List ο}{vs:List V},ofValues xs=some vs->Ci w I vs xs
 | [],vs,h=>by simp only[ofValues]at h;cases h;exact .nil
 |x::xs,vs,h=>by
  simp only[ofValues]at h;split at h
  ·rename_i v l h1 h2;cases h;exact .cons _ _ _ _ (zP h1) (zO h2)
  ·cases h
theorem Is{w:Γ}{I:Bool->Nat->Prop}{x:ο}{v:V}(h:ofValue x=some v):sM w I v x:=by
 unfold ofValue at h;split at h
 ·rename_i cs;split at h
  ·rename_i l hl;cases h;have:=sM.agg (w:=w) (I:=I) _ _ (zO hl);simpa using this
  ·cases h
 ·exact .one (zP h)
theorem T2{P:ar}{t:Nat}{inf:TypeInfo}(h:P.types[t]?=some inf):P.info? t=some inf:=by
 have:t<P.types.size:=(cg.1 h).1;unfold Tables.info?;rw[az this];exact h
theorem xB.of{P:ar}{t:Nat}{inf:TypeInfo}{d:TypeDesc}{i:Ty}(h1:P.types[t]?=some inf)(h2:P.underlying t=some d)(h:VM inf d=some i):xB P t i:=by
 unfold VM at h;split at h
 ·cases h
 rename_i z hz;split at h
 case h_2=>cases h
 rename_i v k hv hk;split at h
 case isFalse=>cases h
 rename_i hc;cases h;exact⟨⟨inf,T2 h1,rfl,rfl,z,hz,hc.2,λw I=>Is hv⟩,⟨d,h2,TK hk⟩,hc.1⟩
def aA(F:Func):Fn:={ code:=F.body.getD .skip,ntmps:=F.ntmps,results:=F.results.toList }
def Lj(P:ar)(f:Nat)(F:Fn):Prop:=∃fn,P.funcs[f]?=some fn/\fn.body=some F.code/\fn.ntmps=F.ntmps/\fn.results.toList=F.results/\(fn.name == "runtime.NumGoroutine")=false
theorem Lj.of{P:ar}{f:Nat}{fn:Func}(h1:P.funcs[f]?=some fn)(h2:fn.body.isSome=true)(h3:(fn.name == "runtime.NumGoroutine")=false):Lj P f (aA fn):=by
 obtain⟨c,hc⟩:=ji.1 h2;exact⟨fn,h1,by simp[aA,hc],rfl,rfl,h3⟩
def T_(P:ar)(f:Nat):Option Fn:=match P.funcs[f]? with
 |some fn=>match fn.body with
  |some c=>some { code:=c,ntmps:=fn.ntmps,results:=fn.results.toList }
  |none=>none
 |none=>none
theorem T9{P:ar}(ha:(P.funcs.all λfn=>!(fn.name == "runtime.NumGoroutine"))=true){f:Nat}{F:Fn}(h:T_ P f=some F):Lj P f F:=by
 unfold T_ at h;split at h
 case h_2=>cases h
 rename_i fn h1;split at h
 case h_2=>cases h
 rename_i c h2;cases h;refine⟨fn,h1,h2,rfl,rfl,?_⟩;rw[Array.all_eq_true]at ha;obtain⟨hi,rfl⟩:=cg.1 h1;simpa using ha f hi
def SI(P:ar)(t:Nat):Option Ty:=match P.types[t]?,P.underlying t with
 |some inf,some d=>VM inf d
 |_,_=>none
theorem SH{P:ar}{t:Nat}{i:Ty}(h:SI P t=some i):xB P t i:=by
 unfold SI at h;split at h
 ·rename_i h1 h2;exact xB.of h1 h2 h
 ·cases h
def BT.Nw{α:Type}(g:Nat->Option α):Nat->Nat->BT α
 |0,lo=>match g lo with
  |some a=>.leaf lo a
  |none=>.nil
 |k+1,lo=>.node (Nat.add lo (Nat.pow 2 k)) (BT.Nw g k lo) (BT.Nw g k (Nat.add lo (Nat.pow 2 k)))
theorem BT.Cp{α:Type}{g:Nat->Option α}{p:Nat->α->Prop}(h:∀n a,g n=some a->p n a):∀k lo,(BT.Nw g k lo).Av p
 |0,lo=>by
  unfold BT.Nw;split
  ·rename_i a e;exact h _ _ e
  ·exact trivial
 |k+1,lo=>⟨BT.Cp h k lo,BT.Cp h k _⟩
def fJ(P:ar)(E:Env)(f:Nat)(s:List V->Option V):Prop:=∀(d:Cx)(vs:List V)(xs:List ο)(v:V),d.Z=[]->SR E d->fH d vs xs->s vs=some v->sK P f xs d.w (jO E d v [])
def iI(P:ar)(E:Env)(f:Nat)(s:List V->Sg->Option (V × Sg)):Prop:=∀(c:Cx)(vs:List V)(xs:List ο)(v:V)(σ':Sg),SR E c->fH c vs xs->s vs c.Z=some (v,σ')->sK P f xs c.w (jO E c v σ')
def IB(ty:BT Ty)(fn:BT Ax.Fn)(mode:BT Ax.Mode)(spec:BT (List V->Option V))(hspec:BT (List V->Sg->Option (V × Sg)))(eqs:BT (List Kd))(gl:Nat->Option (Obj->Prop))(Ey:Nat->Bool):Env:=
 { ty:=λt=>ty.get t,fn:=λf=>fn.get f,mode:=λf=>match mode.get f with
   |some m=>m
   |none=>.eW,spec:=λf=>spec.get f,hspec:=λf=>hspec.get f,eqs:=λt=>eqs.get t,gl,Ey }
section
variable {P:ar}{ty:BT Ty}{fn:BT Ax.Fn}{mode:BT Ax.Mode}{spec:BT (List V->Option V)}{hspec:BT (List V->Sg->Option (V × Sg))}{eqs:BT (List Kd)}{gl:Nat->Option (Obj->Prop)}{Ey:Nat->Bool}
theorem Qs(h1:ty.Av (xB P))(h2:eqs.Av (jN P))(h3:∀t,Ey t=true->liesAt P P.depth t 1 0 t 1=true):cG P (IB ty fn mode spec hspec eqs gl Ey):=⟨λ_ _ h=>BT.tQ h1 h,λ_ _ h=>BT.tQ h2 h,h3⟩
theorem NP(h1:fn.Av (Lj P))(h2:spec.Av (fJ P (IB ty fn mode spec hspec eqs gl Ey)))(h3:hspec.Av (iI P (IB ty fn mode spec hspec eqs gl Ey))):f_ P (IB ty fn mode spec hspec eqs gl Ey):=
 ⟨λ_ _ h=>BT.tQ h1 h,λ_ _ h=>BT.tQ h2 h,λ_ _ h=>BT.tQ h3 h⟩
end
end
def FN:Nat->Option (Obj->Prop)
 |0=>some λo=>∃m t fr,o=.cells #[.int .i64 m] t fr
 |_=>none
def cT(c:Nat):List Nat->List (List Nat)
 | []=>[[]]
 |a::r=>if a=c then []::cT c r else match cT c r with
  |p::ps=>(a::p)::ps
  | []=>[[a]]
def UE(c:Nat):List Nat->List Nat × List Nat × Bool
 | []=>([],[],false)
 |a::r=>if a=c then ([],r,true) else
  let q:=UE c r
  (a::q.1,q.2)
def jY(c:Nat):List Nat->Option Nat
 | []=>none
 |a::r=>if a=c then some 0 else match jY c r with
  |some i=>some (i+1)
  |none=>none
def kR:List V->Option V
 | [.str s,.str [c]]=>if s.length<4294967281 then some (.bV false ((cT c s).map λp=>[V.str p]) true) else none
 |_=>none
def wE:List V->Option V
 | [.str s,.str [c]]=>if s.length<4294967281 then
   let q:=UE c s
   some (.fR [.str q.1,.str q.2.1,.bool q.2.2]) else none
 |_=>none
def jP:List V->Option V
 | [.str s,.int .u8 c]=>if 0<=c/\c<256 then some (.int .i64 (match jY c.toNat s with | some i=>(i:Int) | none=>-1)) else none
 |_=>none
def DH(lt:List V->List V->Bool)(x:List V):List (List V)->List (List V)
 | []=>[x]
 |y::r=>if lt x y then x::y::r else y::DH lt x r
def lA(lt:List V->List V->Bool)(l:List (List V)):List (List V):=l.foldl (λacc x=>DH lt x acc) []
def strLt(a b:List V):Bool:=match a,b with
 | [.str s],[.str t]=>slt s t
 |_,_=>false
def qE(a b:List V):Bool:=match a,b with
 | [.bool x,.str s],[.bool y,.str t]=>match x,y with
  |false,true=>true
  |true,false=>false
  |_,_=>slt s t
 |_,_=>false
def Iy(n:Nat):List Nat->Bool
 | []=>false
 |a::r=>match ca n a with
  |true=>true
  |false=>Iy n r
def rowOf:V->List V
 | .agg [_]=>[.undef]
 |v=>v.cells
def keysOf(Z:Sg)(fk fv:List Nat):V->Option (List (List V))
 | .fn f [] [.ref b 0]=>match Z[b]?,Iy f fk,Iy f fv with
  |some (.cells _ [.mp m] _),true,_=>match Z[m]? with
   |some (.map es)=>some (es.map λe=>rowOf e.1)
   |_=>none
  |some (.cells _ [.imp _ es] _),true,_=>some (es.map λe=>rowOf e.1)
  |some (.cells _ [.aG] _),_,true=>some []
  |some (.cells _ [.bV _ xs _] _),_,true=>some xs
  |some (.cells _ [.sl c off len _] _),_,true=>match Z[c]? with
   |some (.cells _ cs _)=>match gd (off+len) cs.length with
    |true=>some (((cs.drop off).take len).map λv=>[v])
    |false=>none
   |_=>none
  |_,_,_=>none
 |_=>none
def allRows(p:List V->Bool):List (List V)->Bool
 | []=>true
 |r::l=>match p r with
  |true=>allRows p l
  |false=>false
def lC:List V->Bool
 | [.str s]=>gd s.length 9223372036854775807
 |_=>false
def kK:List V->Bool
 | [.bool _,.str s]=>gd s.length 9223372036854775807
 |_=>false
def n_(t:Nat)(fk fv:List Nat)(ok:List V->Bool)(lt:List V->List V->Bool)(x:V)(Z:Sg):Option (V × Sg):=
 match keysOf Z fk fv x with
 |some []=>some (.aG,Z)
 |some l=>match allRows ok l,gd l.length 1000000 with
  |true,true=>some (.sl Z.length 0 l.length none,Z++[.cells t (lA lt l).flatten false])
  |_,_=>none
 |none=>none
def tO(t:Nat)(fk fv:List Nat):List V->Sg->Option (V × Sg)
 | [x],Z=>n_ t fk fv lC strLt x Z
 |_,_=>none
def kM(t:Nat)(fk fv:List Nat)(cmp:Nat):List V->Sg->Option (V × Sg)
 | [x,.fn f [] []],Z=>match ca f cmp with
  |true=>n_ t fk fv kK qE x Z
  |false=>none
 |_,_=>none
def MC(t:Nat):List V->Sg->Option (V × Sg)
 | [.int .i64 n],Z=>if 0<=n/\n<=1099511627776 then some (.sl Z.length 0 n.toNat none,Z++[.cells t [] false]) else none
 |_,_=>none
def Cs:List V->Sg->Option (V × Sg)
 | [x],Z=>some (x,Z)
 |_,_=>none
def jZ(x y:V):Option Bool:=match x,y with
 | .str a,.str b=>some (seq a b)
 |_,_=>none
def lT(es:List (V × V)):List (V × V)->Option (List (V × V))
 | []=>some es
 |(k,v)::r=>match kX jZ k v es with
  |some es=>lT es r
  |none=>none
def Hp(es:List (V × V)):Bool:=es.all λe=>(match e.1 with | .str _=>true | _=>false)&&plainCell e.2
def MD:List V->Sg->Option (V × Sg)
 | [.mp b,y],Z=>match Z[b]?,entriesOf Z y with
  |some (.map es),some es'=>match Hp es&&Hp es',(match y with | .mp b'=>!(ca b b') | _=>true),lT es es' with
   |true,true,some l=>some (.fR [],Z.set b (.map l)++[.dead])
   |_,_,_=>none
  |_,_=>none
 |_,_=>none
def mem(s:List Nat):List (List Nat)->Bool
 | []=>false
 |a::r=>match seq a s with
  |true=>true
  |false=>mem s r
def nY:List (List V)->List (List Nat)
 | [.str s]::r=>s::nY r
 |_=>[]
def jB:V->List (List Nat)
 | .bV _ xs _=>nY xs
 |_=>[]
def cC(es:List (V × V))(s:List Nat):List (List Nat):=
 match es with
 |(.str k,v)::r=>match seq k s with
  |true=>jB v
  |false=>cC r s
 |(_,_)::r=>cC r s
 | []=>[]
def Ge(l m:List (List Nat)):Bool:=
 match l with
 | []=>false
 |a::r=>match mem a m with
  |true=>true
  |false=>Ge r m
def xI(m:List (List Nat)):List (V × V)->List (List Nat)
 | []=>[]
 |(.str k,v)::r=>match Ge (jB v) m with
  |true=>k::xI m r
  |false=>xI m r
 |_::r=>xI m r
def d_(es:List (V × V)):Nat->List (List Nat)->List (List (List Nat))
 |0,m=>[m]
 |n+1,m=>m::d_ es n (xI m es)
def gE(s:List Nat):List (List (List Nat))->Option Nat
 | []=>none
 |m::r=>match mem s m with
  |true=>some 0
  |false=>match gE s r with
   |some k=>some (k+1)
   |none=>none
def jD(L:List (List (List Nat))):List (List Nat)->Option Nat
 | []=>none
 |a::r=>match gE a L,jD L r with
  |some d,some e=>match i5 e d with
   |true=>some e
   |false=>some d
  |some d,none=>some d
  |none,e=>e
def stepOf(L:List (List (List Nat)))(b:Nat):List (List Nat)->Option (List Nat)
 | []=>none
 |a::r=>match gE a L with
  |some d=>match ca d b with
   |true=>some a
   |false=>stepOf L b r
  |none=>stepOf L b r
def uP(es:List (V × V))(L:List (List (List Nat)))(at_:List Nat):Nat->List (List Nat)
 |0=>[]
 |b+1=>match stepOf L (b+1) (cC es at_) with
  |some nx=>nx::uP es L nx b
  |none=>[]
def wD:List (List V)->Bool
 | []=>true
 | [.str _]::r=>wD r
 |_=>false
def oO:List (V × V)->Bool
 | []=>true
 |(.str _,.bV _ xs _)::r=>match wD xs&&gd xs.length 1000000 with
  |true=>oO r
  |false=>false
 |(.str _,.aG)::r=>oO r
 |_=>false
def h_:List (V × V)->Bool
 | []=>true
 |(.str k,_)::r=>match hasKey k r with
  |true=>false
  |false=>h_ r
 |_=>false
where hasKey (k:List Nat):List (V × V)->Bool
 | []=>false
 |(.str k',_)::r=>match seq k' k with
  |true=>true
  |false=>hasKey k r
 |_::r=>hasKey k r
def oP(es:List (V × V))(f:List Nat):V:=
 let L:=d_ es es.length [f]
 match jD L (cC es f) with
 |none=>.aG
 |some b=>.bV false ((f::uP es L f b).map λs=>[.str s]) (ca b 0)
def oF:List V->Option V
 | [.imp _ es,.str f]=>match oO es,h_ es,gd es.length 1000000 with
  |true,true,true=>some (oP es f)
  |_,_,_=>none
 |_=>none
structure Alike (E E':Env):Prop where
 ty:E.ty=E'.ty
 gl:E.gl=E'.gl
theorem Alike.symm{E E':Env}(h:Alike E E'):Alike E' E:=⟨h.ty.symm,h.gl.symm⟩
theorem SR.alike{E E':Env}(h:Alike E E'){c:Cx}(hs:SR E c):SR E' c where
 inj:=hs.inj
 obj:=λb o hb=>by
  have:=hs.obj b o hb;cases o with
  |dead=>exact True.intro
  |cells t cs ex=>simpa only[uN,<- h.ty]using this
  |map es=>exact this
  |JK s pos=>exact this
  |tF left cur=>exact this
 nT:=hs.nT
 jF:=hs.jF
 gl:=by rw[<- h.gl];exact hs.gl
theorem jO.alike{E E':Env}(h:Alike E E'){c:Cx}{v:V}{Z:Sg}{x:ο}{w:Γ}(hb:jO E c v Z x w):jO E' c v Z x w:=by
 obtain⟨c',h1,h2,h3,h4,h5⟩:=hb;exact⟨c',h1,h2,h3,h4.alike h,h5⟩
theorem fJ.alike{P:ar}{E E':Env}(h:Alike E E'){f:Nat}{s:List V->Option V}(hs:fJ P E f s):fJ P E' f s:=
 λd vs xs v hd hr hv he=>(hs d vs xs v hd (hr.alike h.symm) hv he).mono λ_ _ hb=>hb.alike h
theorem iI.alike{P:ar}{E E':Env}(h:Alike E E'){f:Nat}{s:List V->Sg->Option (V × Sg)}(hs:iI P E f s):iI P E' f s:=
 λc vs xs v σ' hr hv he=>(hs c vs xs v σ' (hr.alike h.symm) hv he).mono λ_ _ hb=>hb.alike h
theorem cG.alike{P:ar}{E E':Env}(h:Alike E E')(h1:E.eqs=E'.eqs)(h2:E.Ey=E'.Ey)(he:cG P E):cG P E':=
 ⟨by rw[<- h.ty];exact he.ty,by rw[<- h1];exact he.eqs,by rw[<- h2];exact he.Ey⟩
def bM(t:List (List V × V))(args:List V):Option V:=
 match t with
 | []=>none
 |(a,r)::t=>match rL (sO 12) a args with
  |true=>some r
  |false=>bM t args
theorem Jv:∀{a b:List V},rL (sO 12) a b=true->a=b
 | [],[],_=>rfl
 |x::a,y::b,h=>by
  simp only[rL,ak]at h;rw[Gs 12 h.1,Jv h.2]
 | [],_::_,h=>by cases h
 |_::_,[],h=>by cases h
def lR(E:Env)(f:Nat)(t:List (List V × V)):Prop:=∀e∈t,∃n,Ax.call E n f e.1=some e.2
theorem lR.nil{E:Env}{f:Nat}:lR E f []:=λ_ h=>by cases h
theorem lR.cons{E:Env}{f:Nat}{a:List V}{r:V}{t:List (List V × V)}(n:Nat)(h:Ax.call E n f a=some r)(ht:lR E f t):lR E f ((a,r)::t):=λe he=>by
 rcases IN.1 he with rfl | he
 ·exact⟨n,h⟩
 ·exact ht e he
theorem lR.append{E:Env}{f:Nat}{t t':List (List V × V)}(h:lR E f t)(h':lR E f t'):lR E f (t++t'):=λe he=>by
 rcases cq.1 he with he | he
 ·exact h e he
 ·exact h' e he
def kE(E:Env)(f:Nat):List (List V × V)->Bool
 | []=>true
 |e::t=>match Ax.call E 100000 f e.1 with
  |some v=>match sO 12 v e.2 with
   |true=>kE E f t
   |false=>false
  |none=>false
theorem L5{E:Env}{f:Nat}:∀{t:List (List V × V)},kE E f t=true->lR E f t
 | [],_=>.nil
 |e::t,h=>by
  unfold kE at h;split at h
  case h_2=>cases h
  rename_i v hc;split at h
  case h_2=>cases h
  rename_i hv;exact .cons 100000 (by rw[hc,Gs 12 hv]) (L5 h)
def BT.put{α:Type}(n:Nat)(a:α):BT α->BT α
 | .nil=>.leaf n a
 | .leaf k b=>match ca n k with
  |true=>.leaf n a
  |false=>match i5 n k with
   |true=>.node k (.leaf n a) (.leaf k b)
   |false=>.node n (.leaf k b) (.leaf n a)
 | .node k l r=>match i5 n k with
  |true=>.node k (BT.put n a l) r
  |false=>.node k l (BT.put n a r)
theorem BT.GL{α:Type}{p:Nat->α->Prop}{n:Nat}{a:α}(ha:p n a):∀{t:BT α},t.Av p->(t.put n a).Av p
 | .nil,_=>ha
 | .leaf k b,ht=>by
  unfold BT.put;split
  ·exact ha
  ·split
   ·exact⟨ha,ht⟩
   ·exact⟨ht,ha⟩
 | .node k l r,ht=>by
  unfold BT.put;split
  ·exact⟨BT.GL ha ht.1,ht.2⟩
  ·exact⟨ht.1,BT.GL ha ht.2⟩
theorem EF{t:List (List V × V)}{args:List V}{r:V}(h:bM t args=some r):(args,r)∈t:=by
 induction t with
 |nil=>cases h
 |cons e t ih=>
  simp only[bM]at h;split at h
  ·rename_i hb;cases h;rw[<- Jv hb];exact No ..
  ·exact ae _ (ih h)
theorem To{P:ar}{E:Env}(he:cG P E)(hfs:f_ P E)(hmix:P.follows .mixedOrders=true){f:Nat}{F:Fn}(hF:E.fn f=some F){t:List (List V × V)}(h:lR E f t):fJ P E f (bM t):=by
 intro d vs xs v hd hs hv hm;obtain⟨n,hc⟩:=h _ (EF hm);obtain⟨fn,f1,f2,f3,f4,f5⟩:=hfs.fn f F hF
 have hcall:(callFunc f xs.toArray).run P d.w=.ok (.enter f xs.toArray) d.w:=by
  have f5':¬ fn.name = "runtime.NumGoroutine" := by simpa using f5
  simp[callFunc,f1,f5',f2]
 refine .inl ⟨hcall,(Ed he hfs hmix hc hd hs hv).mono ?_⟩;rintro e w' ⟨x,d',rfl,rfl,h1,h2,h3,h4⟩;exact⟨x,rfl,d',rfl,h1,h2,h3,h4⟩
structure Ground (P:ar) where
 ty:BT Ty
 fn:BT Ax.Fn
 mode:BT Ax.Mode
 hspec:BT (List V->Sg->Option (V × Sg))
 eqs:BT (List Kd)
 gl:Nat->Option (Obj->Prop)
 Ey:Nat->Bool
def Ground.env{P:ar}(G:Ground P)(spec:BT (List V->Option V)):Env:=IB G.ty G.fn G.mode spec G.hspec G.eqs G.gl G.Ey
theorem Ground.alike{P:ar}(G:Ground P)(s s':BT (List V->Option V)):Alike (G.env s) (G.env s'):=⟨rfl,rfl⟩
structure nG {P:ar} (G:Ground P):Prop where
 ty:G.ty.Av (xB P)
 fn:G.fn.Av (Lj P)
 eqs:G.eqs.Av (jN P)
 Ey:∀t,G.Ey t=true->liesAt P P.depth t 1 0 t 1=true
 hspec:G.hspec.Av (iI P (G.env .nil))
theorem BT.Av.imp{α:Type}{p q:Nat->α->Prop}(h:∀n a,p n a->q n a):∀{t:BT α},t.Av p->t.Av q
 | .nil,_=>trivial
 | .leaf k a,ht=>h k a ht
 | .node _ l r,ht=>⟨BT.Av.imp h ht.1,BT.Av.imp h ht.2⟩
theorem nG.MQ{P:ar}{G:Ground P}(h:nG G)(s:BT (List V->Option V)):cG P (G.env s):=Qs h.ty h.eqs h.Ey
theorem nG.MI{P:ar}{G:Ground P}(h:nG G){s:BT (List V->Option V)}(hs:s.Av (fJ P (G.env .nil))):f_ P (G.env s):=
 NP h.fn (hs.imp λ_ _ k=>k.alike (G.alike _ _)) (h.hspec.imp λ_ _ k=>k.alike (G.alike _ _))
theorem nG.memo{P:ar}{G:Ground P}(h:nG G){s:BT (List V->Option V)}(hs:s.Av (fJ P (G.env .nil)))(hmix:P.follows .mixedOrders=true){f:Nat}{F:Fn}(hF:G.fn.get f=some F)
  {t:List (List V × V)}(ht:lR (G.env s) f t):fJ P (G.env .nil) f (bM t):=
 (To (h.MQ s) (h.MI hs) hmix hF ht).alike (G.alike _ _)
end Go.Ax
namespace Go.Proofs.YtmbikbgdbbcbmaaGreatDoor
open Go Go.Ax Go.ChangeShapes Go.WideShapes Go.ChangeAt Go.RowKit
set_option maxRecDepth 100000 in
theorem aa0{W:Γ}(h:W.ShapedOpen κ):∃m t fr,W.heap[0]?=some (.cells #[.int .i64 m] t fr):=by
 have hr:((begin κ (λ_ _=>0) default).world.heap[0]?).bind Obj.row?=some (#[.int .i64 0],3):=by kernel_rfl
 have hg:0<Tryz.prog.globals.size:=er (by kernel_rfl);obtain⟨cs,hc,hs,hok⟩:=h.1 0 _ _ hg hr;obtain⟨ts,h1,_,h3⟩:=hok (by kernel_rfl);have e1:Tryz.prog.cellTypes Tryz.prog.depth 3=some [3]:=by kernel_rfl
 rw[e1]at h1;have h1:=dh h1;subst h1;have hs':cs.size=1:=hs
 obtain⟨v,rfl⟩:∃v,cs = #[v]:=by
  obtain⟨l⟩:=cs
  match l,hs' with
  | [v],_=>exact⟨v,rfl⟩
 obtain⟨u,hu,hv⟩:=h3 0 v rfl;have hu:u=3:=(dh hu).symm;subst hu;have e2:Tryz.prog.underlying 3=some (.int .i64):=Tryz.underlying3
 have hv':(match v with
  | .int k' n=>k'=IntKind.i64/\IntKind.has .i64 n
  |_=>False):=by
  unfold Cell.ok at hv;rw[e2]at hv;cases v <;> first | exact hv | exact hv.elim
 cases v with
 |int k n=>
  obtain⟨rfl,_⟩:=hv';exact⟨n,3,_,hc⟩
 |_=>exact hv'.elim
def xE(W:Γ):Cx:=⟨W,[],λ_=>0,λ_=>0,λ_=>0,λk=>k<W.heap.size⟩
theorem VP{W:Γ}(h:W.ShapedOpen κ){E:Env}(hE:E.gl=FN):SR E (xE W) where
 inj:=λb b' ⟨o,ho,_⟩=>by cases ho
 obj:=λb o ho=>by cases ho
 nT:=λb ⟨o,ho,_⟩=>by cases ho
 jF:=λk hk=>hk
 gl:=λk p hk=>by
  rw[hE]at hk;obtain⟨m,t,fr,h0⟩:=aa0 h;cases k with
  |zero=>
   have hk:some (λo=>∃m t fr,o=Obj.cells #[.int .i64 m] t fr)=some p:=hk;have hk:=dh hk;subst hk;exact⟨_,h0,⟨m,t,fr,rfl⟩,λ⟨b,⟨o,ho,_⟩,_⟩=>by cases ho⟩
  |succ k=>cases hk
theorem SJ(W:Γ)(k:Nat)(hk:k<W.heap.size):(xE W).bE true k:=⟨hk,λ⟨b,⟨o,ho,_⟩,_⟩=>(by cases ho),λh=>(by cases h)⟩
set_option maxRecDepth 100000 in
theorem handed{H:Type}{enc:TypeId × ο->H}{os:Os}{f:FuncId}{fn:Func}{s:ChangeSpec}{X:Γ->Array ο->Prop}
  (hX:∀(w w':Γ)(args:Array ο),w.heap=w'.heap->X w args->X w' args)
  (own:ownKnob Tryz.checked.prog.godebug=none)(started:os.Started)(noInit:Tryz.checked.prog.inits.idxOf? f=none)(hfn:Tryz.checked.prog.funcs[f]?=some fn)
  (witness:∃(w:Γ) (tape:Tape) (i:Input),w.os=os/\(w.forCall tape i).Shaped Tryz.checked.prog/\i.vars=[]/\Input.okWide Tryz.checked.prog (w.forCall tape i) .any w.heap.size f i /\
   ((s.pre enc Tryz.checked.prog fn [] false (w.forCall tape i).memory i.args/\X (w.forCall tape i).memory i.args)/\sizedMet enc Tryz.checked.prog fn (OpenSpec.ofChange s) false (w.forCall tape i).memory i.args)/\({}:Assume).holds Tryz.checked.prog (lone (Frame.enter Tryz.checked.prog f i.args .normal) [] (w.forCall tape i)))
  (contract:∀(W:Γ)(base:Nat)(args:Array ο)(ds gs:List (DataW H)) (before:List MemPlace),W.ShapedOpen Tryz.checked.prog ->
   (∀(j:Nat) t v,fn.params[j]?=some t->args[j]?=some v->Value.okWide Tryz.checked.prog W .any base t v) ->
   DataW.Whole enc Tryz.checked.prog fn.params.toList s.vars false W args.toList ds gs before ->
   (DataW.weightsEach Tryz.checked.prog (fn.params.toList++s.plain.varTypes Tryz.checked.prog) (ds++gs)).all (· <= reachBytes)=true->args.size=fn.params.size ->
   Calls Tryz.checked.prog f args W λe W'=>∃v,e=.returned v/\s.post enc Tryz.checked.prog fn false true false false W args v W') :
  ReturnsInHanded {} Tryz.checked os f .any (λw args=>(s.pre enc Tryz.checked.prog fn [] false w args/\X w args)/\sizedMet enc Tryz.checked.prog fn (OpenSpec.ofChange s) false w args) (s.post enc Tryz.checked.prog fn false true false false):=by
 refine returnsInHanded_of_calls own started noInit witness ?_;intro w tape i _ hsh _ hok hpre hholds;obtain⟨_,_,_,fn',hfn',_,_,_,hsz,hval⟩:=hok;have e:fn'=fn:=dh (hfn'.symm.trans hfn);subst e;obtain⟨⟨⟨ds,gs,before,hw,hc⟩,hx⟩,hz⟩:=hpre;have hw':=DataW.Whole.of_heap (w':=w.forCall tape i) (by rfl) hw;refine(contract (w.forCall tape i) w.heap.size i.args ds gs before hsh hval hw' (hz.weights hw) hsz).mono λe W' ⟨v,he,hp⟩=>?_;subst he;exact ChangeSpec.post_blind hp
theorem own:ownKnob Tryz.prog.godebug=none:=by kernel_rfl
theorem laidOut:laidOutB κ=true:=by kernel_rfl
def laid:List (String × DataW Unit):=Rows.graphAllRow.laid
set_option maxRecDepth 100000 in
theorem KF(w:Γ)(h:laidMet κ laid w):laidMetH κ laid w:=by
 rw[MakeChecks.laidMetH_plain _ _ _ (by kernel_rfl)];exact h
set_option maxRecDepth 100000 in
theorem NW(os:Os):(World.holding κ os ⟨#[],#[],[]⟩).layFits κ laid []=true:=by kernel_rfl
set_option maxRecDepth 100000 in
theorem IJ(os:Os):(World.holding κ os ⟨#[],#[],[]⟩).layIfaces κ laid (World.laidAll κ os laid)=true:=by kernel_rfl
theorem QX(os:Os)(args:Array ο):laidMetH κ laid ((World.laidAll κ os laid).forCall (λ_ _=>0) ⟨#[],args,[]⟩).memory:=
 KF _ (laidMet_laidAll _ (NW os) (IJ os))
end Go.Proofs.YtmbikbgdbbcbmaaGreatDoor
namespace Go.Ax
open Go
section
def oG(d:TypeDesc):Kd->Prop
 | .bool=>d=.bool
 | .int k=>d=.int k
 | .str=>d=.string
 |_=>False
inductive sN (P:ar):Nat->List Field->List Kd->Prop
 |nil (n:Nat):sN P n [] []
 |cons (n:Nat) (f:Field) (fs:List Field) (k:Kd) (sh:List Kd) (d:TypeDesc)(h1:f.name ≠ "_")(h2:f.offset=n)(h3:P.underlying f.type=some d)(h4:oG d k)(hr:sN P (n+1) fs sh):sN P n (f::fs) (k::sh)
section
variable {P:ar}
theorem fT{t:Nat}{d:TypeDesc}{k:Kd}(h:P.underlying t=some d)(hk:oG d k){xs:Array ο}{n:Nat}{v:ο}(hx:xs[n]?=some v)(w:Γ):(Go.part t xs n).run P w=.ok v w:=by
 have:(Go.isAgg t).run P w=.ok false w:=by
  simp only[Go.isAgg,υ,run_underlying h,ν]
  cases k <;> simp only[oG]at hk <;> first
   |(subst hk;rfl)
   |exact hk.elim
 simp[Go.part,this,hx]
theorem drop_cons{xs:Array ο}{n:Nat}{x:ο}{l:List ο}(h:xs.toList.drop n=x::l):xs[n]?=some x/\xs.toList.drop (n+1)=l:=by
 constructor
 ·have:(xs.toList.drop n)[0]?=some x:=by rw[h];rfl
  simpa using this
 ·have:=b8 List.tail h;simpa using this
theorem D5(d:Nat){xs ys:Array ο}:∀{fs:List Field}{sh:List Kd}{n:Nat}{as1 bs:List V}{b:Bool}{l m:List ο},sN P n fs sh->xs.toList.drop n=l->ys.toList.drop n=m->Sc sh as1 l->Sc sh bs m->eqs sh as1 bs=some b ->
  ∀w,(Op.eqFields (d+1) xs ys fs).run P w=.ok b w:=by
 intro fs
 induction fs with
 |nil=>
  intro sh n as1 bs b l m hf hx hy ha hb h w;cases hf;cases ha;cases hb;simp only[eqs]at h;cases h;simp[Op.eqFields]
 |cons f fs ih=>
  intro sh n as1 bs b l m hf hx hy ha hb h w;cases hf with | cons _ _ _ k sh' dd h1 h2 h3 h4 hr=>
  cases ha with
  |bool x sh'' vs l' ha=>
   cases hb with | bool y _ us m' hb=>
   obtain⟨x1,x2⟩:=drop_cons hx;obtain⟨y1,y2⟩:=drop_cons hy;simp only[eqs]at h;split at h
   case h_2=>cases h
   rename_i q hq;cases h;have hrest:=ih hr x2 y2 ha hb hq w;simp only[oG]at h4;subst h4;subst h2;simp only[Op.eqFields,ne_eq,h1,od,bf,υ,fT (k:=.bool) h3 rfl x1,fT (k:=.bool) h3 rfl y1,ν,run_equalIn_bool' w d _ x y h3];cases hxy:(x==y)
   ·simp
   ·simpa using hrest
  |int k1 x sh'' vs l' ha=>
   cases hb with | int _ y _ us m' hb=>
   obtain⟨x1,x2⟩:=drop_cons hx;obtain⟨y1,y2⟩:=drop_cons hy;simp only[eqs]at h;simp only[aj,bf]at h;split at h
   case h_2=>cases h
   rename_i q hq;cases h;have hrest:=ih hr x2 y2 ha hb hq w;simp only[oG]at h4;subst h4;subst h2;simp only[Op.eqFields,ne_eq,h1,od,bf,υ,fT (k:=.int k1) h3 rfl x1,fT (k:=.int k1) h3 rfl y1,ν,run_equalIn_int w d _ k1 k1 x y h3];by_cases hxy:x=y
   ·simpa [hxy]using hrest
   ·simp[hxy]
  |str x sh'' vs l' ha=>
   cases hb with | str y _ us m' hb=>
   obtain⟨x1,x2⟩:=drop_cons hx;obtain⟨y1,y2⟩:=drop_cons hy;simp only[eqs]at h;split at h
   case h_2=>cases h
   rename_i q hq;cases h;have hrest:=ih hr x2 y2 ha hb hq w;simp only[oG]at h4;subst h4;subst h2;simp only[Op.eqFields,ne_eq,h1,od,bf,υ,fT (k:=.str) h3 rfl x1,fT (k:=.str) h3 rfl y1,ν,run_equalIn_string w d _ x y h3];rw[AH];cases hxy:(x.toList==y.toList)
   ·simp
   ·simpa using hrest
theorem Cg{t:Nat}{d:TypeDesc}{k:Kd}(h:P.underlying t=some d)(hk:oG d k)(e:Bool)(n:Nat)(v:ο)(w:Γ):(fp e (n+1) t v).run P w=.ok () w:=by
 simp only[fp,υ,run_underlying h,ν]
 cases k <;> simp only[oG]at hk <;> first
  |(subst hk;rfl)
  |exact hk.elim
theorem B_(e:Bool)(d:Nat){xs:Array ο}:∀{fs:List Field}{sh:List Kd}{n:Nat}{as1:List V}{l:List ο},sN P n fs sh->xs.toList.drop n=l->Sc sh as1 l ->
  ∀w,(forIn fs PUnit.unit λ(f:Field) (_:PUnit)=>(do
   if f.name ≠ "_" then fp e (d+1) f.type (<- Go.part f.type xs f.offset)
   pure (ForInStep.yield PUnit.unit):Sem (ForInStep PUnit))).run P w=.ok PUnit.unit w:=by
 intro fs
 induction fs with
 |nil=>intro sh n as1 l _ _ _ w;simp
 |cons f fs ih=>
  intro sh n as1 l hf hx ha w;cases hf with | cons _ _ _ k sh' dd h1 h2 h3 h4 hr=>
  have go:∀{x:ο}{l':List ο}{vs:List V},xs.toList.drop n=x::l'->Sc sh' vs l'->(forIn (f::fs) PUnit.unit λ(f:Field) (_:PUnit)=>(do
   if f.name ≠ "_" then fp e (d+1) f.type (<- Go.part f.type xs f.offset)
   pure (ForInStep.yield PUnit.unit):Sem (ForInStep PUnit))).run P w=.ok PUnit.unit w:=by
   intro x l' vs hx ha;obtain⟨x1,x2⟩:=drop_cons hx;have hrest:=ih hr x2 ha w;rw[<- h2]at x1;simp only[List.forIn_cons,ne_eq,h1,od,bf,υ,fT h3 h4 x1,ν,Cg h3 h4,Sem.run_pure];exact hrest
  cases ha with
  |bool x _ vs l' ha=>exact go hx ha
  |int k1 x _ vs l' ha=>exact go hx ha
  |str x _ vs l' ha=>exact go hx ha
theorem jN.of{t:Nat}{fs:Array Field}{sh:List Kd}(h1:P.underlying t=some (.struct fs))(h2:P.stoodInHeld t=false)(h3:P.eqGuardType P.depth t=false)(h4:sN P 0 fs.toList sh):jN P t sh:=by
 have hfo:P.fieldsOf t=fs:=by simp[Program.fieldsOf,h1]
 refine⟨λw as1 bs xs ys b he ha hb=>?_,λw op x y xs ys as1 bs _ _=>run_eqGuard_agg w op t x y _ _ h3,λw e as1 xs ha=>?_,⟨fs,h1⟩⟩
 ·show (Op.equalIn (9999+1) t _ _).run P w=_;rw[run_equalIn_agg w 9999 t _ _ (by rw[hfo];exact h1) h2,hfo];exact D5 9998 h4 (by simp) (by simp) ha hb he w
 ·show (fp e (9998+1+1) t _).run P w=_;unfold fp;simp only[υ,run_underlying h1,ν];rw[<- Array.forIn_toList];have:=B_ (P:=P) e 9998 (xs:=xs.toArray) h4 (n:=0) (l:=xs) (by simp) ha w;exact b8 (λr:Result PUnit=>r.andThen λ_ w'=>(pure ():Sem Unit).run P w') this
end
end
end Go.Ax
end
