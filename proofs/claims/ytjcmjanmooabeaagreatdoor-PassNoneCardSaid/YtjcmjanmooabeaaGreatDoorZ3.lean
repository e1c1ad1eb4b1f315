/- Part 3 of the proof. -/
import Derived.Test.YtjcmjanmooabeaaGreatDoorZ2
import Derived.Test.YtjcmjanmooabeaaGreatDoorChecked
import Derived.Test.YtjcmjanmooabeaaGreatDoorRows
import Derived.WalkKit
import Derived.ProofKit
import Derived.Shelf.Lay
import Derived.Lay
import Derived.LaidOnce
import Derived.LaidLaws
import Derived.PinnedBridge
import Derived.Carry
import Derived.Handed
set_option maxHeartbeats 8000000
set_option linter.unusedVariables false
set_option linter.unusedSimpArgs false
section
namespace Go.Ax
open Go
section
theorem count_set:∀(l:List Bool) (i:Nat),l[i]?=some false->(l.set i true).count false+1=l.count false
 | [],i,h=>by simp at h
 |b::l,0,h=>by
  simp at h;subst h
  simp
 |b::l,i+1,h=>by
  have:=count_set l i (by simpa using h)
  simp only[List.set_cons_succ,List.count_cons]
  omega
section
variable {E:Env}{ev:Run}{frz:Fz}{ops:Array Oper}{T:Nat->Fr × Sg}{pre:Nat->Nat->Bool}
theorem Inv.done (h:Dr E ev frz ops T pre) {L:Array Bool}{fr:Fr}{Z:Sg}(hi:Inv E frz ops T pre L fr Z)(hl:∀k,k<ops.size->L[k]?=some true):Z=(T ops.size).2/\fr.n=(T ops.size).1.n/\∀t,fr.get t=(T ops.size).1.get t:=by
 have hx:∀k o,ops[k]?=some o->(k<ops.size ↔ L[k]?=some true):=λk o ho=>⟨λhk=>hl k hk,λ_=>op_lt ho⟩
 exact⟨hi.Z ops.size (Nat.le_refl _) λk o ho _=>hx k o ho,by rw[hi.len,h.len _ (Nat.le_refl _)],λt=>hi.fr t ops.size (Nat.le_refl _) λk o ho _=>hx k o ho⟩
theorem go_run (h:Dr E ev frz ops T pre):∀(fuel t:Nat) (L:Array Bool) (acc:List Nat) (fr:Fr) (Z:Sg),Inv E frz ops T pre L fr Z->L.toList.count false<=fuel ->
  ∃l,Region.linearise.go .any ops fuel t L acc=acc.reverse++l/\∃r:Fr × Sg,evL E ev frz ops l fr Z=some r/\r.2=(T ops.size).2/\r.1.n=(T ops.size).1.n/\∀t,r.1.get t=(T ops.size).1.get t
 |0,t,L,acc,fr,Z,hi,hc=>by
  refine⟨[],by simp[Region.linearise.go],?_⟩
  have:∀k,k<ops.size->L[k]?=some true:=λk hk=>by
   have hk':k<L.size:=by rw[hi.size];exact hk
   have h0:false ∉ L.toList:=List.count_eq_zero.1 (by omega)
   rw[Array.getElem?_eq_getElem hk']
   cases hx:L[k] with
   |true=>rfl
   |false=>exact (h0 (by rw[<- hx];simp)).elim
  exact⟨(fr,Z),by simp only[evL],hi.done h this⟩
 |fuel+1,t,L,acc,fr,Z,hi,hc=>by
  simp only[Region.linearise.go]
  generalize hrs:(List.range ops.size).filter (λi=>
    !L.getD i true&&((ops[i]?).map (λ(x:Oper)=>x.after.all λe=>!Region.binds .any e||L.getD e.on false)).getD false)=rs
  have mem:∀i,i∈rs ↔ i<ops.size/\L[i]?=some false/\∃o,ops[i]?=some o/\∀e∈o.after.toList,Region.binds .any e=true->L[e.on]?=some true:=by
   intro i
   rw[<- hrs]
   simp only[List.mem_filter,List.mem_range,Bool.and_eq_true]
   refine and_congr Iff.rfl (and_congr ?_ ?_)
   ·rw[Array.getD_eq_getD_getElem?]
    cases hx:L[i]? with
    |none=>simp
    |some b=>cases b <;> simp
   ·cases ho:ops[i]? with
    |none=>simp
    |some o=>
     simp only[Option.map_some,Option.getD_some,Option.some.injEq,exists_eq_left']
     rw[<- Array.all_toList]
     simp only[List.all_eq_true,Bool.or_eq_true,Bool.not_eq_true']
     refine forall_congr' λe=>forall_congr' λhe=>?_
     rw[Array.getD_eq_getD_getElem?]
     cases hb:Region.binds .any e with
     |false=>simp
     |true=>
      cases hx:L[e.on]? with
      |none=>simp
      |some b=>cases b <;> simp
  cases hget:rs[t % rs.length]? with
  |none=>
   dsimp only
   refine⟨[],by simp,?_⟩
   have hemp:rs=[]:=by
    cases rs with
    |nil=>rfl
    |cons a r=>
     have:=List.getElem?_eq_none_iff.1 hget
     have:=Nat.mod_lt t (show 0<(a::r).length by simp)
     omega
   have:∀k,k<ops.size->L[k]?=some true:=λk hk=>by
    rcases first_or (λk=>L[k]?≠some true) 0 ops.size (by omega) with hn | ⟨a,_,a2,a3,a4⟩
    ·have:=hn k (by omega) hk
     exact Decidable.not_not.1 this
    ·obtain⟨o,ho⟩:=op_some a2 (Nat.le_refl ops.size)
     have hal:a<L.size:=by rw[hi.size];exact a2
     have ha:a∈rs:=(mem a).2 ⟨a2,by
      rw[Array.getElem?_eq_getElem hal]at a3 ⊢
      cases hx:L[a] with
      |true=>rw[hx]at a3;exact (a3 rfl).elim
      |false=>rfl,o,ho,λe he hb=>by
      have:=h.lt a o ho e he hb
      exact Decidable.not_not.1 (a4 e.on (by omega) this)⟩
     rw[hemp]at ha;cases ha
   exact⟨(fr,Z),by simp only[evL],hi.done h this⟩
  |some i=>
   dsimp only
   obtain⟨m1,m2,o,ho,m3⟩:=(mem i).1 (List.mem_of_getElem? hget)
   obtain⟨fr',σ',hs,hi'⟩:=hi.step h ho m2 m3
   have hcnt:(L.setIfInBounds i true).toList.count false<=fuel:=by
    have:=count_set L.toList i (by simpa using m2)
    rw[Array.toList_setIfInBounds]
    omega
   obtain⟨l,h1,h2⟩:=go_run h fuel (t / rs.length) _ (i::acc) fr' σ' hi' hcnt
   refine⟨i::l,by rw[h1];simp,?_⟩
   simp only[evL,ho,hs]
   exact h2
theorem run_any (h:Dr E ev frz ops T pre) (t:Nat):∃r:Fr × Sg,evL E ev frz ops (Region.linearise .any ops t) (T 0).1 (T 0).2=some r/\r.2=(T ops.size).2/\r.1.n=(T ops.size).1.n/\∀t,r.1.get t=(T ops.size).1.get t:=by
 have hrep:∀k,(Array.replicate ops.size false)[k]?≠some true:=λk hk=>by
  rw[Array.getElem?_replicate]at hk
  split at hk <;> simp at hk
 have hi:Inv E frz ops T pre (Array.replicate ops.size false) (T 0).1 (T 0).2:=by
  refine⟨by simp,λi k hk=>(hrep i hk).elim,rfl,λt j hj hc=>?_,λj hj hc=>?_⟩
  ·exact h.quietFr j (a:=0) (by omega) hj λk o _ k2 ho hd=>hrep k ((hc k o ho hd).1 k2)
  ·refine h.quietσ j (a:=0) (by omega) hj λk o _ k2 ho=>?_
   cases hw:(effect E frz o.op).2 with
   |false=>rfl
   |true=>exact (hrep k ((hc k o ho hw).1 k2)).elim
 obtain⟨l,h1,h2⟩:=go_run h ops.size t _ [] _ _ hi (by simp[List.count_replicate])
 unfold Region.linearise
 rw[h1]
 simpa using h2
theorem trail_spec:∀(rest:List Oper) (fr:Fr) (Z:Sg) (ts:List (Fr × Sg)),trail E ev frz ops rest fr Z=some ts ->
  ts.length=rest.length+1/\ts[0]?=some (fr,Z)/\last ts=ts[rest.length]?/\∀i o,rest[i]?=some o->∃p q,ts[i]?=some p/\ts[i+1]?=some q/\stepO E ev frz ops o p.1 p.2=some q
 | [],fr,Z,ts,h=>by
  simp only[trail]at h
  injection h with h;subst h
  exact⟨rfl,rfl,rfl,λi o h=>by simp at h⟩
 |o::rest,fr,Z,ts,h=>by
  simp only[trail]at h
  split at h
  case h_2=>cases h
  rename_i fr' σ' hs
  split at h
  case h_2=>cases h
  rename_i l hl
  injection h with h;subst h
  obtain⟨h1,h2,h3,h4⟩:=trail_spec rest fr' σ' l hl
  refine⟨by simp[h1],rfl,?_,λi o' ho=>?_⟩
  ·cases l with
   |nil=>simp at h1
   |cons b l=>simpa [last]using h3
  ·cases i with
   |zero=>
    simp at ho;subst ho
    exact⟨(fr,Z),(fr',σ'),rfl,by simpa using h2,hs⟩
   |succ i=>
    obtain⟨p,q,k1,k2,k3⟩:=h4 i o' (by simpa using ho)
    exact⟨p,q,by simpa using k1,by simpa using k2,k3⟩
theorem evOps_trail:∀(rest:List Oper) (fr:Fr) (Z:Sg) (r:Fr × Sg),evOps E ev frz ops rest fr Z=some r->∃ts,trail E ev frz ops rest fr Z=some ts/\last ts=some r
 | [],fr,Z,r,h=>by
  simp only[evOps]at h
  injection h with h;subst h
  exact⟨_,rfl,rfl⟩
 |o::rest,fr,Z,r,h=>by
  simp only[evOps]at h
  split at h
  case h_2=>cases h
  rename_i fr' σ' hs
  obtain⟨ts,h1,h2⟩:=evOps_trail rest fr' σ' r h
  refine⟨_,by simp only[trail,hs,h1];rfl,?_⟩
  cases ts with
  |nil=>cases h2
  |cons b l=>simpa [last]using h2
theorem sRows_spec:∀(rest:List Oper) (i:Nat) (pre:List Nat),pre.length=rest.length->∀j o,rest[j]?=some o ->
  ∃p,pre[j]?=some p/\(sRows E frz i rest pre)[j]?=some ({ i:=i+j,o,pre:=p,rd:=(effect E frz o.op).1,wr:=(effect E frz o.op).2 }:SRow)
 | [],_,_,_,j,o,h=>by simp at h
 |o::rest,i,[],h1,j,o',h=>by simp at h1
 |o::rest,i,p::pre,h1,j,o',h=>by
  cases j with
  |zero=>
   simp at h;subst h
   exact⟨p,rfl,rfl⟩
  |succ j=>
   obtain⟨p',k1,k4⟩:=sRows_spec rest (i+1) pre (by simpa using h1) j o' (by simpa using h)
   refine⟨p',by simpa using k1,?_⟩
   simp only[sRows,List.getElem?_cons_succ]
   rw[k4]
   congr 2
   omega
def Planned (E:Env) (frz:Fz) (ops:Array Oper) (l:List Need) (x y:SRow):Prop:=
 y.pre.testBit x.i=true\/(pairOk E frz ops x.o y.o=true/\(((x.wr&&y.rd)=false/\(x.rd&&y.wr)=false)\/({ i:=x.i,j:=y.i,a:=x.wr&&y.rd,b:=x.rd&&y.wr }:Need)∈l))
theorem Planned.mono {l l':List Need}{x y:SRow}(h:Planned E frz ops l x y)(hl:∀d∈l,d∈l'):Planned E frz ops l' x y:=by
 rcases h with h | ⟨h1,h2 | h2⟩
 ·exact .inl h
 ·exact .inr ⟨h1,.inl h2⟩
 ·exact .inr ⟨h1,.inr (hl _ h2)⟩
theorem planRow_spec {x:SRow}:∀(rows:List SRow) (l:List Need),planRow E frz ops x rows=some l->∀y∈rows,Planned E frz ops l x y
 | [],_,_,y,hy=>by cases hy
 |z::rows,l,h,y,hy=>by
  simp only[planRow]at h
  split at h
  ·rename_i hb
   rcases List.mem_cons.1 hy with rfl | hy
   ·exact .inl hb
   ·exact planRow_spec rows l h y hy
  ·split at h
   case h_2=>cases h
   rename_i l' hp hl
   have ih:=planRow_spec rows l' hl
   split at h
   ·rename_i e1 e2
    injection h with h;subst h
    rcases List.mem_cons.1 hy with rfl | hy
    ·exact .inr ⟨hp,.inl ⟨e1,e2⟩⟩
    ·exact ih y hy
   ·injection h with h;subst h
    rcases List.mem_cons.1 hy with rfl | hy
    ·exact .inr ⟨hp,.inr (List.mem_cons_self ..)⟩
    ·exact (ih y hy).mono λd hd=>List.mem_cons_of_mem _ hd
theorem planAll_spec:∀(rows:List SRow) (l:List Need),planAll E frz ops rows=some l->∀(i j:Nat) (x y:SRow),i<j->rows[i]?=some x->rows[j]?=some y->Planned E frz ops l x y
 | [],_,_,i,j,x,y,_,h,_=>by simp at h
 |r::rows,l,h,i,j,x,y,hij,hx,hy=>by
  simp only[planAll]at h
  split at h
  case h_2=>cases h
  rename_i a b ha hb
  injection h with h;subst h
  cases j with
  |zero=>omega
  |succ j=>
   have hy':rows[j]?=some y:=by simpa using hy
   cases i with
   |zero=>
    simp at hx;subst hx
    exact (planRow_spec rows a ha y (List.mem_of_getElem? hy')).mono λd hd=>List.mem_append_left _ hd
   |succ i=>exact (planAll_spec rows b hb i j x y (by omega) (by simpa using hx) hy').mono λd hd=>List.mem_append_right _ hd
theorem edgesOk_spec:∀(rest:List Oper) (i:Nat),edgesOk i rest=true->∀j o,rest[j]?=some o->∀e∈o.after.toList,Region.binds .any e=true->e.on<i+j
 | [],_,_,j,o,h=>by simp at h
 |r::rest,i,h,j,o,ho=>by
  simp only[edgesOk,Bool.and_eq_true,List.all_eq_true]at h
  cases j with
  |zero=>
   simp at ho;subst ho
   intro e he hb
   have:=h.1 e he
   simpa [hb]using this
  |succ j=>
   intro e he hb
   have:=edgesOk_spec rest (i+1) h.2 j o (by simpa using ho) e he hb
   omega
theorem preOf_spec {pl:List Nat}{o:Oper}{k:Nat}(h:(preOf pl o).testBit k=true):∃e∈o.after.toList,Region.binds .any e=true/\(k=e.on\/(pl.getD e.on 0).testBit k=true):=by
 have key:∀(l:List Edge) (b:Nat),(l.foldl (λb (e:Edge)=>if Region.binds .any e then b ||| (1 <<< e.on) ||| pl.getD e.on 0 else b) b).testBit k=true ->
   b.testBit k=true\/∃e∈l,Region.binds .any e=true/\(k=e.on\/(pl.getD e.on 0).testBit k=true):=by
  intro l
  induction l with
  |nil=>intro b hb;exact .inl hb
  |cons e l ih=>
   intro b hb
   simp only[List.foldl_cons]at hb
   rcases ih _ hb with h1 | ⟨e',h1,h2⟩
   ·by_cases hbe:Region.binds .any e=true
    ·rw[if_pos hbe]at h1
     simp only[Nat.testBit_or,Bool.or_eq_true]at h1
     rcases h1 with (h1 | h1) | h1
     ·exact .inl h1
     ·refine .inr ⟨e,by simp,hbe,.inl ?_⟩
      rw[Nat.one_shiftLeft,Nat.testBit_two_pow]at h1
      exact (of_decide_eq_true h1).symm
     ·exact .inr ⟨e,by simp,hbe,.inr h1⟩
    ·rw[if_neg hbe]at h1
     exact .inl h1
   ·exact .inr ⟨e',by simp[h1],h2⟩
 rcases key _ 0 h with h | h
 ·simp at h
 ·exact h
theorem pres_spec:∀(rest:List Oper) (pl:List Nat),(∃s,pres rest pl=pl++s/\s.length=rest.length)/\∀j o,rest[j]?=some o->(pres rest pl)[pl.length+j]?=some (preOf ((pres rest pl).take (pl.length+j)) o)
 | [],pl=>⟨⟨[],by simp[pres],rfl⟩,λj o h=>by simp at h⟩
 |o::rest,pl=>by
  obtain⟨⟨s,h1,h2⟩,h3⟩:=pres_spec rest (pl++[preOf pl o])
  refine⟨⟨preOf pl o::s,by simp[pres,h1],by simp[h2]⟩,λj o' ho=>?_⟩
  cases j with
  |zero=>
   simp at ho;subst ho
   simp only[pres,h1]
   simp
  |succ j=>
   have:=h3 j o' (by simpa using ho)
   simp only[pres]
   rw[List.length_append,List.length_singleton,Nat.add_assoc,Nat.add_comm 1 j]at this
   exact this
theorem evDraw_dr {fr:Fr}{Z:Sg}{r:Fr × Sg}(h:evDraw E ev ops fr Z=some r) (t:Nat):∃q:Fr × Sg,evL E ev (frzOf E ops) ops (Region.linearise .any ops t) fr Z=some q/\q.2=r.2/\q.1.n=r.1.n/\∀t,q.1.get t=r.1.get t:=by
 unfold evDraw at h
 generalize frzOf E ops=frz at h ⊢
 obtain⟨l,ts,hpl,hts,hc,hr⟩:∃l ts,drawPlan E frz ops=some l/\trail E ev frz ops ops.toList fr Z=some ts/\l.all (needOk E ev frz ops ts)=true/\last ts=some r:=by
  split at h
  ·cases h
  ·rename_i hp
   obtain⟨ts,h1,h2⟩:=evOps_trail _ _ _ _ h
   exact⟨[],ts,hp,h1,rfl,h2⟩
  ·rename_i l _ hp
   split at h
   ·cases h
   ·rename_i ts hts
    split at h
    case isFalse=>cases h
    rename_i hc
    exact⟨l,ts,hp,hts,hc,h⟩
 clear h
 obtain⟨hedge,hplan⟩:edgesOk 0 ops.toList=true/\planAll E frz ops (sRows E frz 0 ops.toList (pres ops.toList []))=some l:=by
  unfold drawPlan at hpl
  split at hpl
  ·rename_i he;exact⟨he,hpl⟩
  ·cases hpl
 rw[List.all_eq_true]at hc
 obtain⟨t1,t2,t3,t4⟩:=trail_spec _ _ _ _ hts
 obtain⟨⟨s,p1,p2⟩,p3⟩:=pres_spec ops.toList []
 have hpl:(pres ops.toList []).length=ops.toList.length:=by rw[p1];simpa using p2
 have hd:Dr E ev frz ops (λi=>(ts[i]?).getD (⟨0,.leaf⟩,[])) (λi k=>((pres ops.toList []).getD i 0).testBit k):=by
  refine⟨λi o ho=>?_,λi o ho k hk=>?_,λi o ho e he hb=>?_,λi j x y hij hx hy=>?_⟩
  ·obtain⟨p,q,k1,k2,k3⟩:=t4 i o (by simpa using ho)
   simp only[k1,k2,Option.getD_some]
   exact k3
  ·have h0:=p3 i o (by simpa using ho)
   simp only[List.length_nil,Nat.zero_add]at h0
   simp only[List.getD_eq_getElem?_getD,h0,Option.getD_some]at hk
   obtain⟨e,h1,h2,h3⟩:=preOf_spec hk
   refine⟨e,h1,h2,?_⟩
   rcases h3 with h3 | h3
   ·exact .inl h3
   ·refine .inr ?_
    have hlt:=edgesOk_spec _ 0 hedge i o (by simpa using ho) e h1 h2
    simp only[List.getD_eq_getElem?_getD]at h3 ⊢
    rw[List.getElem?_take,if_pos (by omega)]at h3
    exact h3
  ·have:=edgesOk_spec _ 0 hedge i o (by simpa using ho) e he hb
   omega
  ·obtain⟨pa,k1,k4⟩:=sRows_spec (E:=E) (frz:=frz) ops.toList 0 (pres ops.toList []) hpl i x (by simpa using hx)
   obtain⟨pb,l1,l4⟩:=sRows_spec (E:=E) (frz:=frz) ops.toList 0 (pres ops.toList []) hpl j y (by simpa using hy)
   have hP:=planAll_spec _ _ hplan i j _ _ hij k4 l4
   obtain⟨a,a',a1,a2,_⟩:=t4 i x (by simpa using hx)
   obtain⟨b,b',b1,b2,_⟩:=t4 j y (by simpa using hy)
   simp only[Planned,Nat.zero_add]at hP
   rcases hP with h | ⟨h1,h2⟩
   ·refine .inl ?_
    simp only[List.getD_eq_getElem?_getD,l1,Option.getD_some]
    exact h
   ·refine .inr ⟨h1,?_⟩
    rcases h2 with⟨h2,h3⟩ | h2
    ·refine⟨λe1 e2=>?_,λe1 e2=>?_⟩
     ·rw[e1,e2]at h2;cases h2
     ·rw[e1,e2]at h3;cases h3
    ·have hn:=hc _ h2
     simp only[needOk,hx,hy,a1,b1,b2,Bool.and_eq_true,Bool.or_eq_true,Bool.not_eq_true']at hn
     refine⟨λe1 e2=>?_,λe1 e2=>?_⟩
     ·rcases hn.1 with h | h
      ·rw[e1,e2]at h;cases h
      ·simpa [a1,b1]using h
     ·rcases hn.2 with h | h
      ·rw[e1,e2]at h;cases h
      ·simpa [a1,b2]using h
 have:=run_any hd t
 simp only[t2,Option.getD_some]at this
 rw[t3]at hr
 simp only[Array.length_toList]at hr
 rw[hr]at this
 exact this
end
section
variable {P:Program}{E:Env}
theorem Post.trans {c c':Cx}{r:X}{fr:Fr}{Z:Sg}{e:Exit}{a:Act}{w:World}(h:Ext c c')(hp:Post E c' r fr Z e a w):Post E c r fr Z e a w:=by
 obtain⟨h1,h2,d,h3,h4,h5,h6⟩:=hp
 exact⟨h1,h2,d,h3,h4,h.trans h5,h6⟩
theorem post_then {c:Cx}{r:X}{fr:Fr}{Z:Sg}{e:Exit}{a:Act}{w:World}{K:Act->World->Prop}(hn:∀fr' σ',(r,fr,Z)≠(X.normal,fr',σ'))(hp:Post E c r fr Z e a w):Exit.then K (Post E c r fr Z) e a w:=by
 obtain⟨h1,h2⟩:=hp
 cases r with
 |normal=>exact (hn fr Z rfl).elim
 |exit id=>cases h1;exact⟨rfl,h2⟩
 |ret=>cases h1;exact⟨rfl,h2⟩
theorem ev_sound (he:EnvOk P E)(hfs:FnsOk P E)(hmix:P.follows .mixedOrders=true):∀n,RunOk P E (ev E n) /\
  ∀(c1:Code) (fr:Fr) (Z:Sg) (r:X) (fr':Fr) (σ':Sg),ev E n (.loop c1) fr Z=some (r,fr',σ')->∀(c:Cx) (a:Act),SR E c->c.Z=Z->FR c fr a.tmps->a.defers=[] ->
   ∀c0,Ext c0 c->Code.rounds P c1 (Post E c0 r fr' σ') n a c.w
 |0=>by
  constructor
  ·intro code fr Z r fr' σ' h
   simp only[ev]at h;cases h
  ·intro c1 fr Z r fr' σ' h
   simp only[ev]at h;cases h
 |n+1=>by
  obtain⟨ih,ihl⟩:=ev_sound he hfs hmix n
  have loops:∀(c1:Code) (fr:Fr) (Z:Sg) (r:X) (fr':Fr) (σ':Sg),ev E (n+1) (.loop c1) fr Z=some (r,fr',σ')->∀(c:Cx) (a:Act),SR E c->c.Z=Z->FR c fr a.tmps->a.defers=[] ->
    ∀c0,Ext c0 c->Code.rounds P c1 (Post E c0 r fr' σ') (n+1) a c.w:=by
   intro c1 fr Z r fr' σ' h c a hs hσ hf hd c0 hx
   rw[rounds_succ]
   simp only[ev]at h
   split at h
   ·rename_i fr1 σ1 h1
    refine wp_mono (ih _ _ _ _ _ _ h1 c a hs hσ hf hd) ?_
    rintro e a1 w1 ⟨h0,hd1,c',rfl,hσ1,k1,k2,k3⟩
    cases h0
    exact ihl c1 fr1 σ1 r fr' σ' h c' a1 k2 hσ1 k3 hd1 c0 (hx.trans k1)
   ·rename_i hn
    refine wp_mono (ih _ _ _ _ _ _ h c a hs hσ hf hd) ?_
    intro e a1 w1 hp
    refine post_then (λfr2 σ2 e=>?_) (hp.trans hx)
    rw[e]at h
    exact hn _ _ h
  refine⟨λcode fr Z r fr' σ' h c a hs hσ hf hd=>?_,loops⟩
  subst hσ
  cases code with
  |skip=>
   simp only[ev]at h
   injection h with h;injection h with e1 h;injection h with e2 e3;subst e1 e2 e3
   exact wp_skip ⟨rfl,hd,c,rfl,rfl,Ext.refl c,hs,hf⟩
  |exit id=>
   simp only[ev]at h
   injection h with h;injection h with e1 h;injection h with e2 e3;subst e1 e2 e3
   exact wp_exit ⟨rfl,hd,c,rfl,rfl,Ext.refl c,hs,hf⟩
  |ret=>
   simp only[ev]at h
   injection h with h;injection h with e1 h;injection h with e2 e3;subst e1 e2 e3
   exact wp_ret ⟨rfl,hd,c,rfl,rfl,Ext.refl c,hs,hf⟩
  |seq x y=>
   simp only[ev]at h
   refine wp_seq ?_
   split at h
   ·rename_i fr1 σ1 h1
    refine wp_mono (ih _ _ _ _ _ _ h1 c a hs rfl hf hd) ?_
    rintro e a1 w1 ⟨h0,hd1,c',rfl,hσ1,k1,k2,k3⟩
    cases h0
    exact wp_mono (ih _ _ _ _ _ _ h c' a1 k2 hσ1 k3 hd1) λe a w hp=>hp.trans k1
   ·rename_i hn
    refine wp_mono (ih _ _ _ _ _ _ h c a hs rfl hf hd) ?_
    intro e a1 w1 hp
    refine post_then (λfr2 σ2 e=>?_) hp
    rw[e]at h
    exact hn _ _ h
  |cond x y z=>
   simp only[ev]at h
   split at h
   ·rename_i hx
    exact wp_cond_true (evalO_sound hf hx).bool_inv (ih _ _ _ _ _ _ h c a hs rfl hf hd)
   ·rename_i hx
    exact wp_cond_false (evalO_sound hf hx).bool_inv (ih _ _ _ _ _ _ h c a hs rfl hf hd)
   ·cases h
  |block id x=>
   simp only[ev]at h
   refine wp_block ?_
   split at h
   ·rename_i id' fr1 σ1 h1
    refine wp_mono (ih _ _ _ _ _ _ h1 c a hs rfl hf hd) ?_
    rintro e a1 w1 ⟨h0,hp⟩
    cases h0
    simp only[Exit.inBlock]
    split at h
    ·rename_i heq
     injection h with h;injection h with e1 h;injection h with e2 e3;subst e1 e2 e3
     rw[if_pos heq]
     exact⟨rfl,hp⟩
    ·rename_i heq
     injection h with h;injection h with e1 h;injection h with e2 e3;subst e1 e2 e3
     rw[if_neg heq]
     exact⟨rfl,hp⟩
   ·rename_i hn
    refine wp_mono (ih _ _ _ _ _ _ h c a hs rfl hf hd) ?_
    rintro e a1 w1 ⟨h0,hp⟩
    cases r with
    |normal=>cases h0;exact⟨rfl,hp⟩
    |ret=>cases h0;exact⟨rfl,hp⟩
    |exit id'=>exact (hn _ _ _ h).elim
  |loop x=>exact wp_loop_rounds (n+1) (loops x fr c.Z r fr' σ' h c a hs rfl hf hd c (Ext.refl c))
  |region id ops draw=>
   simp only[ev]at h
   split at h
   case h_2=>cases h
   rename_i fr1 σ1 h1
   injection h with h;injection h with e1 h;injection h with e2 e3;subst e1 e2 e3
   cases draw with
   |false=>
    refine wp_region ?_
    rw[if_neg (by simp),evOps_evL ops.toList 0 fr c.Z (by simp)]at h1
    rw[List.range_eq_range',<- Array.length_toList]
    exact evL_sound he hfs ih _ hs hf hd h1 c (Ext.refl c)
   |true=>
    rw[if_pos rfl]at h1
    have each:∀t,∃frq:Fr,(frq.n=fr1.n/\∀u,frq.get u=fr1.get u)/\wpOps P ops (Post E c .normal frq σ1) (Region.schedule (P.follows .mixedOrders) ops t) a { c.w with drawn:=c.w.drawn+1 }:=by
     intro t
     rw[hmix]
     simp only[Region.schedule,Bool.true_or,if_true]
     obtain⟨⟨frq,σq⟩,q1,q2,q3,q4⟩:=evDraw_dr h1 t
     dsimp only at q2 q3 q4
     subst q2
     exact⟨frq,⟨q3,q4⟩,evL_sound (c:=c.drew) he hfs ih _ (Cx.drew_sr hs) (FR.mono c.drew_ext hf) hd q1 c c.drew_ext⟩
    intro b k cs
    obtain⟨frq,⟨q3,q4⟩,hw⟩:=each (c.w.tape c.w.drawn (.order b.fn id))
    obtain⟨e,a',w',⟨e1,e2,d,e3,e4,e5,e6,e7⟩,r⟩:=wp_ops _ a _ hw b k cs
    exact⟨e,a',w',⟨e1,e2,d,e3,e4,e5,e6,by rw[<- q3];exact e7.1,λt v hv=>e7.2 t v (by rw[q4];exact hv)⟩,.of_steps (.one step_region_draw) r⟩
  |_=>simp only[ev]at h;cases h
theorem call_sound (he:EnvOk P E)(hfs:FnsOk P E)(hmix:P.follows .mixedOrders=true) {n f:Nat}{vs:List V}{v:V}(h:Ax.call E n f vs=some v) {d:Cx}(hd:d.Z=[])(hs:SR E d) {xs:List Value}(hv:VRs d vs xs) :
  Calls P f xs.toArray d.w λe w'=>∃(x:Value) (d':Cx),e=.returned x/\d'.w=w'/\d'.Z=[]/\Ext d d'/\SR E d'/\VR d' v x:=by
 unfold Ax.call at h
 split at h
 ·cases h
 rename_i F hF
 split at h
 case h_2=>cases h
 rename_i u σ1 hent
 have hi:=inner_sr hs []
 have hvi:VRs (d.inner (d.kills [])) vs xs:=by
  refine VRs.mono ?_ hv
  have ho:∀k,¬ d.own k:=by
   rintro k ⟨b,⟨o,ho,_⟩,_⟩
   rw[hd]at ho;cases ho
  have hanc:(d.inner (d.kills [])).anc=d.anc:=by
   funext k
   exact propext ⟨λh=>h.resolve_right (ho k),λh=>.inl h⟩
  exact⟨Nat.le_refl _,λk _ _=>⟨rfl,inner_own⟩,by rw[hd];exact Nat.le_refl _,λ_ _=>rfl,λ_ _=>rfl,λ_ _=>rfl,hanc,rfl,rfl,rfl⟩
 have:=enter_sound he hfs (ev_sound he hfs hmix n).1 hF hi hvi hent
 refine this.mono ?_
 rintro e w' ⟨x,rfl,d1,rfl,hσ,hx,hsd,hxv⟩
 rw[<- hσ]at h
 obtain⟨g1,g2,g3⟩:=return_ok hs hx hsd hxv h
 exact⟨x,(d.kills []).outer d1.w,rfl,rfl,hd,g1,g2,g3⟩
end
end
section
inductive BT (α:Type) where
 |nil
 |leaf (k:Nat) (a:α)
 |node (k:Nat) (l r:BT α)
def BT.get {α:Type} (n:Nat):BT α->Option α
 | .nil=>none
 | .leaf k a=>match Nat.beq n k with
  |true=>some a
  |false=>none
 | .node k l r=>match Nat.blt n k with
  |true=>l.get n
  |false=>r.get n
def BT.All {α:Type} (p:Nat->α->Prop):BT α->Prop
 | .nil=>True
 | .leaf k a=>p k a
 | .node _ l r=>l.All p/\r.All p
theorem BT.get_all {α:Type}{p:Nat->α->Prop}{n:Nat}{a:α}:∀{t:BT α},t.All p->t.get n=some a->p n a
 | .nil,_,h=>by cases h
 | .leaf k b,ht,h=>by
  simp only[BT.get]at h
  split at h
  ·rename_i hk
   injection h with h;subst h
   have:=Nat.eq_of_beq_eq_true hk
   subst this
   exact ht
  ·cases h
 | .node k l r,ht,h=>by
  simp only[BT.get]at h
  split at h
  ·exact BT.get_all ht.1 h
  ·exact BT.get_all ht.2 h
def kdOf:TypeDesc->Option Kd
 | .bool=>some .bool
 | .int k=>some (.int k)
 | .string=>some .str
 | .pointer e=>some (.ptr e)
 | .slice e=>some (.sl e)
 | .array n e=>some (.arr n e)
 | .map k e=>some (.map k e)
 | .struct a=>some (.strct (a.toList.map λf=>(f.offset,f.type)))
 | .func ..=>some .func
 | .interface _=>some .ifc
 | .unsafePointer=>some .other
 |_=>none
theorem kdOf_ok {d:TypeDesc}{k:Kd}(h:kdOf d=some k):KdR d k:=by
 cases d <;> simp only[kdOf]at h <;> first
  |(cases h;done)
  |(injection h with h;subst h;simp only[KdR])
  |skip
 all_goals first
  |exact⟨_,rfl,rfl⟩
  |exact⟨_,_,_,rfl⟩
  |exact⟨_,rfl⟩
def tyOf (inf:TypeInfo) (d:TypeDesc):Option Ty:=
 match inf.zero with
 |none=>none
 |some z=>match ofValue z,kdOf d with
  |some v,some k=>if v.cells.length=inf.size/\z.cells.size=inf.size then some { kd:=k,size:=inf.size,bytes:=inf.bytes,zero:=v } else none
  |_,_=>none
theorem ofValue1_ira {w:World}{I:Bool->Nat->Prop}{x:Value}{v:V}(h:ofValue1 x=some v):IR w I v x:=by
 unfold ofValue1 at h
 split at h <;> first
  |(cases h;done)
  |(injection h with h;subst h;first | exact .bool _ | exact .int _ _ | exact .str _ | exact .nilp | exact .nils | exact .nilm | exact .nilf | exact .nili)
theorem ofValues_ira {w:World}{I:Bool->Nat->Prop}:∀{xs:List Value}{vs:List V},ofValues xs=some vs->IRs w I vs xs
 | [],vs,h=>by simp only[ofValues]at h;injection h with h;subst h;exact .nil
 |x::xs,vs,h=>by
  simp only[ofValues]at h
  split at h
  ·rename_i v l h1 h2
   injection h with h;subst h
   exact .cons _ _ _ _ (ofValue1_ira h1) (ofValues_ira h2)
  ·cases h
theorem ofValue_ira {w:World}{I:Bool->Nat->Prop}{x:Value}{v:V}(h:ofValue x=some v):IRa w I v x:=by
 unfold ofValue at h
 split at h
 ·rename_i cs
  split at h
  ·rename_i l hl
   injection h with h;subst h
   have:=IRa.agg (w:=w) (I:=I) _ _ (ofValues_ira hl)
   simpa using this
  ·cases h
 ·exact .one (ofValue1_ira h)
theorem info_of {P:Program}{t:Nat}{inf:TypeInfo}(h:P.types[t]?=some inf):P.info? t=some inf:=by
 have:t<P.types.size:=(Array.getElem?_eq_some_iff.1 h).1
 unfold Tables.info?
 rw[if_pos this]
 exact h
theorem TyOk.of {P:Program}{t:Nat}{inf:TypeInfo}{d:TypeDesc}{i:Ty}(h1:P.types[t]?=some inf)(h2:P.underlying t=some d)(h:tyOf inf d=some i):TyOk P t i:=by
 unfold tyOf at h
 split at h
 ·cases h
 rename_i z hz
 split at h
 case h_2=>cases h
 rename_i v k hv hk
 split at h
 case isFalse=>cases h
 rename_i hc
 injection h with h;subst h
 exact⟨⟨inf,info_of h1,rfl,rfl,z,hz,hc.2,λw I=>ofValue_ira hv⟩,⟨d,h2,kdOf_ok hk⟩,hc.1⟩
def fnOf (F:Func):Fn:={ code:=F.body.getD .skip,ntmps:=F.ntmps,results:=F.results.toList }
def FnOk (P:Program) (f:Nat) (F:Fn):Prop:=∃fn,P.funcs[f]?=some fn/\fn.body=some F.code/\fn.ntmps=F.ntmps/\fn.results.toList=F.results/\(fn.name == "runtime.NumGoroutine")=false
theorem FnOk.of {P:Program}{f:Nat}{fn:Func}(h1:P.funcs[f]?=some fn)(h2:fn.body.isSome=true)(h3:(fn.name == "runtime.NumGoroutine")=false):FnOk P f (fnOf fn):=by
 obtain⟨c,hc⟩:=Option.isSome_iff_exists.1 h2
 exact⟨fn,h1,by simp[fnOf,hc],rfl,rfl,h3⟩
def fnAt (P:Program) (f:Nat):Option Fn:=match P.funcs[f]? with
 |some fn=>match fn.body with
  |some c=>some { code:=c,ntmps:=fn.ntmps,results:=fn.results.toList }
  |none=>none
 |none=>none
theorem fnAt_ok {P:Program}(ha:(P.funcs.all λfn=>!(fn.name == "runtime.NumGoroutine"))=true) {f:Nat}{F:Fn}(h:fnAt P f=some F):FnOk P f F:=by
 unfold fnAt at h
 split at h
 case h_2=>cases h
 rename_i fn h1
 split at h
 case h_2=>cases h
 rename_i c h2
 injection h with h;subst h
 refine⟨fn,h1,h2,rfl,rfl,?_⟩
 rw[Array.all_eq_true]at ha
 obtain⟨hi,rfl⟩:=Array.getElem?_eq_some_iff.1 h1
 simpa using ha f hi
def tyAt (P:Program) (t:Nat):Option Ty:=match P.types[t]?,P.underlying t with
 |some inf,some d=>tyOf inf d
 |_,_=>none
theorem tyAt_ok {P:Program}{t:Nat}{i:Ty}(h:tyAt P t=some i):TyOk P t i:=by
 unfold tyAt at h
 split at h
 ·rename_i h1 h2;exact TyOk.of h1 h2 h
 ·cases h
def BT.rng {α:Type} (g:Nat->Option α):Nat->Nat->BT α
 |0,lo=>match g lo with
  |some a=>.leaf lo a
  |none=>.nil
 |k+1,lo=>.node (Nat.add lo (Nat.pow 2 k)) (BT.rng g k lo) (BT.rng g k (Nat.add lo (Nat.pow 2 k)))
theorem BT.rng_all {α:Type}{g:Nat->Option α}{p:Nat->α->Prop}(h:∀n a,g n=some a->p n a):∀k lo,(BT.rng g k lo).All p
 |0,lo=>by
  unfold BT.rng
  split
  ·rename_i a e;exact h _ _ e
  ·exact trivial
 |k+1,lo=>⟨BT.rng_all h k lo,BT.rng_all h k _⟩
def SpecOk (P:Program) (E:Env) (f:Nat) (s:List V->Option V):Prop:=∀(d:Cx) (vs:List V) (xs:List Value) (v:V),d.Z=[]->SR E d->VRs d vs xs->s vs=some v->Runs P f xs d.w (Back E d v [])
def HspecOk (P:Program) (E:Env) (f:Nat) (s:List V->Sg->Option (V × Sg)):Prop:=∀(c:Cx) (vs:List V) (xs:List Value) (v:V) (σ':Sg),SR E c->VRs c vs xs->s vs c.Z=some (v,σ')->Runs P f xs c.w (Back E c v σ')
def mkEnv (ty:BT Ty) (fn:BT Ax.Fn) (mode:BT Ax.Mode) (spec:BT (List V->Option V))(hspec:BT (List V->Sg->Option (V × Sg))) (eqs:BT (List Kd)) (gl:Nat->Option (Obj->Prop)) (lie:Nat->Bool):Env:=
 { ty:=λt=>ty.get t,fn:=λf=>fn.get f,mode:=λf=>match mode.get f with
   |some m=>m
   |none=>.iso,spec:=λf=>spec.get f,hspec:=λf=>hspec.get f,eqs:=λt=>eqs.get t,gl,lie }
section
variable {P:Program}{ty:BT Ty}{fn:BT Ax.Fn}{mode:BT Ax.Mode}{spec:BT (List V->Option V)}{hspec:BT (List V->Sg->Option (V × Sg))}{eqs:BT (List Kd)}{gl:Nat->Option (Obj->Prop)}{lie:Nat->Bool}
theorem mkEnv_ok (h1:ty.All (TyOk P))(h2:eqs.All (EqOk P))(h3:∀t,lie t=true->liesAt P P.depth t 1 0 t 1=true):EnvOk P (mkEnv ty fn mode spec hspec eqs gl lie):=⟨λ_ _ h=>BT.get_all h1 h,λ_ _ h=>BT.get_all h2 h,h3⟩
theorem mkEnv_fns (h1:fn.All (FnOk P))(h2:spec.All (SpecOk P (mkEnv ty fn mode spec hspec eqs gl lie)))(h3:hspec.All (HspecOk P (mkEnv ty fn mode spec hspec eqs gl lie))):FnsOk P (mkEnv ty fn mode spec hspec eqs gl lie):=
 ⟨λ_ _ h=>BT.get_all h1 h,λ_ _ h=>BT.get_all h2 h,λ_ _ h=>BT.get_all h3 h⟩
end
end
def glMax:Nat->Option (Obj->Prop)
 |0=>some λo=>∃m t fr,o=.cells #[.int .i64 m] t fr
 |_=>none
def splitC (c:Nat):List Nat->List (List Nat)
 | []=>[[]]
 |a::r=>if a=c then []::splitC c r else match splitC c r with
  |p::ps=>(a::p)::ps
  | []=>[[a]]
def cutC (c:Nat):List Nat->List Nat × List Nat × Bool
 | []=>([],[],false)
 |a::r=>if a=c then ([],r,true) else
  let q:=cutC c r
  (a::q.1,q.2)
def indexC (c:Nat):List Nat->Option Nat
 | []=>none
 |a::r=>if a=c then some 0 else match indexC c r with
  |some i=>some (i+1)
  |none=>none
def specSplit:List V->Option V
 | [.str s,.str [c]]=>if s.length<4294967281 then some (.isl false ((splitC c s).map λp=>[V.str p]) true) else none
 |_=>none
def specCut:List V->Option V
 | [.str s,.str [c]]=>if s.length<4294967281 then
   let q:=cutC c s
   some (.tup [.str q.1,.str q.2.1,.bool q.2.2]) else none
 |_=>none
def specIndexByte:List V->Option V
 | [.str s,.int .u8 c]=>if 0<=c/\c<256 then some (.int .i64 (match indexC c.toNat s with | some i=>(i:Int) | none=>-1)) else none
 |_=>none
def insK (lt:List V->List V->Bool) (x:List V):List (List V)->List (List V)
 | []=>[x]
 |y::r=>if lt x y then x::y::r else y::insK lt x r
def sortK (lt:List V->List V->Bool) (l:List (List V)):List (List V):=l.foldl (λacc x=>insK lt x acc) []
def strLt (a b:List V):Bool:=match a,b with
 | [.str s],[.str t]=>slt s t
 |_,_=>false
def labLt (a b:List V):Bool:=match a,b with
 | [.bool x,.str s],[.bool y,.str t]=>match x,y with
  |false,true=>true
  |true,false=>false
  |_,_=>slt s t
 |_,_=>false
def natIn (n:Nat):List Nat->Bool
 | []=>false
 |a::r=>match Nat.beq n a with
  |true=>true
  |false=>natIn n r
def rowOf:V->List V
 | .agg [_]=>[.undef]
 |v=>v.cells
def keysOf (Z:Sg) (fk fv:List Nat):V->Option (List (List V))
 | .fn f [] [.ref b 0]=>match Z[b]?,natIn f fk,natIn f fv with
  |some (.cells _ [.mp m] _),true,_=>match Z[m]? with
   |some (.map es)=>some (es.map λe=>rowOf e.1)
   |_=>none
  |some (.cells _ [.imp _ es] _),true,_=>some (es.map λe=>rowOf e.1)
  |some (.cells _ [.nils] _),_,true=>some []
  |some (.cells _ [.isl _ xs _] _),_,true=>some xs
  |some (.cells _ [.sl c off len _] _),_,true=>match Z[c]? with
   |some (.cells _ cs _)=>match Nat.ble (off+len) cs.length with
    |true=>some (((cs.drop off).take len).map λv=>[v])
    |false=>none
   |_=>none
  |_,_,_=>none
 |_=>none
def allRows (p:List V->Bool):List (List V)->Bool
 | []=>true
 |r::l=>match p r with
  |true=>allRows p l
  |false=>false
def strRow:List V->Bool
 | [.str s]=>Nat.ble s.length 9223372036854775807
 |_=>false
def labRow:List V->Bool
 | [.bool _,.str s]=>Nat.ble s.length 9223372036854775807
 |_=>false
def hSorted (t:Nat) (fk fv:List Nat) (ok:List V->Bool) (lt:List V->List V->Bool) (x:V) (Z:Sg):Option (V × Sg):=
 match keysOf Z fk fv x with
 |some []=>some (.nils,Z)
 |some l=>match allRows ok l,Nat.ble l.length 1000000 with
  |true,true=>some (.sl Z.length 0 l.length none,Z++[.cells t (sortK lt l).flatten false])
  |_,_=>none
 |none=>none
def hSortedStr (t:Nat) (fk fv:List Nat):List V->Sg->Option (V × Sg)
 | [x],Z=>hSorted t fk fv strRow strLt x Z
 |_,_=>none
def hSortedLab (t:Nat) (fk fv:List Nat) (cmp:Nat):List V->Sg->Option (V × Sg)
 | [x,.fn f [] []],Z=>match Nat.beq f cmp with
  |true=>hSorted t fk fv labRow labLt x Z
  |false=>none
 |_,_=>none
def hMake (t:Nat):List V->Sg->Option (V × Sg)
 | [.int .i64 n],Z=>if 0<=n/\n<=1099511627776 then some (.sl Z.length 0 n.toNat none,Z++[.cells t [] false]) else none
 |_,_=>none
def hEscape:List V->Sg->Option (V × Sg)
 | [x],Z=>some (x,Z)
 |_,_=>none
def strEq (x y:V):Option Bool:=match x,y with
 | .str a,.str b=>some (seq a b)
 |_,_=>none
def putAll (es:List (V × V)):List (V × V)->Option (List (V × V))
 | []=>some es
 |(k,v)::r=>match mput strEq k v es with
  |some es=>putAll es r
  |none=>none
def copyOk (es:List (V × V)):Bool:=es.all λe=>(match e.1 with | .str _=>true | _=>false)&&plainCell e.2
def hCopy:List V->Sg->Option (V × Sg)
 | [.mp b,y],Z=>match Z[b]?,entriesOf Z y with
  |some (.map es),some es'=>match copyOk es&&copyOk es',(match y with | .mp b'=>!(Nat.beq b b') | _=>true),putAll es es' with
   |true,true,some l=>some (.tup [],Z.set b (.map l)++[.dead])
   |_,_,_=>none
  |_,_=>none
 |_,_=>none
def mem (s:List Nat):List (List Nat)->Bool
 | []=>false
 |a::r=>match seq a s with
  |true=>true
  |false=>mem s r
def rowStrs:List (List V)->List (List Nat)
 | [.str s]::r=>s::rowStrs r
 |_=>[]
def listOf:V->List (List Nat)
 | .isl _ xs _=>rowStrs xs
 |_=>[]
def nextOf (es:List (V × V)) (s:List Nat):List (List Nat):=
 match es with
 |(.str k,v)::r=>match seq k s with
  |true=>listOf v
  |false=>nextOf r s
 |(_,_)::r=>nextOf r s
 | []=>[]
def anyIn (l m:List (List Nat)):Bool:=
 match l with
 | []=>false
 |a::r=>match mem a m with
  |true=>true
  |false=>anyIn r m
def layer (m:List (List Nat)):List (V × V)->List (List Nat)
 | []=>[]
 |(.str k,v)::r=>match anyIn (listOf v) m with
  |true=>k::layer m r
  |false=>layer m r
 |_::r=>layer m r
def layers (es:List (V × V)):Nat->List (List Nat)->List (List (List Nat))
 |0,m=>[m]
 |n+1,m=>m::layers es n (layer m es)
def distIn (s:List Nat):List (List (List Nat))->Option Nat
 | []=>none
 |m::r=>match mem s m with
  |true=>some 0
  |false=>match distIn s r with
   |some k=>some (k+1)
   |none=>none
def bestOf (L:List (List (List Nat))):List (List Nat)->Option Nat
 | []=>none
 |a::r=>match distIn a L,bestOf L r with
  |some d,some e=>match Nat.blt e d with
   |true=>some e
   |false=>some d
  |some d,none=>some d
  |none,e=>e
def stepOf (L:List (List (List Nat))) (b:Nat):List (List Nat)->Option (List Nat)
 | []=>none
 |a::r=>match distIn a L with
  |some d=>match Nat.beq d b with
   |true=>some a
   |false=>stepOf L b r
  |none=>stepOf L b r
def wayOf (es:List (V × V)) (L:List (List (List Nat))) (at_:List Nat):Nat->List (List Nat)
 |0=>[]
 |b+1=>match stepOf L (b+1) (nextOf es at_) with
  |some nx=>nx::wayOf es L nx b
  |none=>[]
def strRows:List (List V)->Bool
 | []=>true
 | [.str _]::r=>strRows r
 |_=>false
def backOk:List (V × V)->Bool
 | []=>true
 |(.str _,.isl _ xs _)::r=>match strRows xs&&Nat.ble xs.length 1000000 with
  |true=>backOk r
  |false=>false
 |(.str _,.nils)::r=>backOk r
 |_=>false
def nodupKeys:List (V × V)->Bool
 | []=>true
 |(.str k,_)::r=>match hasKey k r with
  |true=>false
  |false=>nodupKeys r
 |_=>false
where hasKey (k:List Nat):List (V × V)->Bool
 | []=>false
 |(.str k',_)::r=>match seq k' k with
  |true=>true
  |false=>hasKey k r
 |_::r=>hasKey k r
def backOf (es:List (V × V)) (f:List Nat):V:=
 let L:=layers es es.length [f]
 match bestOf L (nextOf es f) with
 |none=>.nils
 |some b=>.isl false ((f::wayOf es L f b).map λs=>[.str s]) (Nat.beq b 0)
def specBack:List V->Option V
 | [.imp _ es,.str f]=>match backOk es,nodupKeys es,Nat.ble es.length 1000000 with
  |true,true,true=>some (backOf es f)
  |_,_,_=>none
 |_=>none
structure Alike (E E':Env):Prop where
 ty:E.ty=E'.ty
 gl:E.gl=E'.gl
theorem Alike.symm {E E':Env}(h:Alike E E'):Alike E' E:=⟨h.ty.symm,h.gl.symm⟩
theorem SR.alike {E E':Env}(h:Alike E E') {c:Cx}(hs:SR E c):SR E' c where
 inj:=hs.inj
 obj:=λb o hb=>by
  have:=hs.obj b o hb
  cases o with
  |dead=>exact True.intro
  |cells t cs ex=>simpa only[ObjR,<- h.ty]using this
  |map es=>exact this
  |sit s pos=>exact this
  |mit left cur=>exact this
 anc:=hs.anc
 ancLt:=hs.ancLt
 gl:=by rw[<- h.gl];exact hs.gl
theorem Back.alike {E E':Env}(h:Alike E E') {c:Cx}{v:V}{Z:Sg}{x:Value}{w:World}(hb:Back E c v Z x w):Back E' c v Z x w:=by
 obtain⟨c',h1,h2,h3,h4,h5⟩:=hb
 exact⟨c',h1,h2,h3,h4.alike h,h5⟩
theorem SpecOk.alike {P:Program}{E E':Env}(h:Alike E E') {f:Nat}{s:List V->Option V}(hs:SpecOk P E f s):SpecOk P E' f s:=
 λd vs xs v hd hr hv he=>(hs d vs xs v hd (hr.alike h.symm) hv he).mono λ_ _ hb=>hb.alike h
theorem HspecOk.alike {P:Program}{E E':Env}(h:Alike E E') {f:Nat}{s:List V->Sg->Option (V × Sg)}(hs:HspecOk P E f s):HspecOk P E' f s:=
 λc vs xs v σ' hr hv he=>(hs c vs xs v σ' (hr.alike h.symm) hv he).mono λ_ _ hb=>hb.alike h
theorem EnvOk.alike {P:Program}{E E':Env}(h:Alike E E')(h1:E.eqs=E'.eqs)(h2:E.lie=E'.lie)(he:EnvOk P E):EnvOk P E':=
 ⟨by rw[<- h.ty];exact he.ty,by rw[<- h1];exact he.eqs,by rw[<- h2];exact he.lie⟩
def memoSpec (t:List (List V × V)) (args:List V):Option V:=
 match t with
 | []=>none
 |(a,r)::t=>match all2 (veq 12) a args with
  |true=>some r
  |false=>memoSpec t args
theorem all2_veq:∀{a b:List V},all2 (veq 12) a b=true->a=b
 | [],[],_=>rfl
 |x::a,y::b,h=>by
  simp only[all2,Bool.and_eq_true]at h
  rw[veq_eq 12 h.1,all2_veq h.2]
 | [],_::_,h=>by cases h
 |_::_,[],h=>by cases h
def Answers (E:Env) (f:Nat) (t:List (List V × V)):Prop:=∀e∈t,∃n,Ax.call E n f e.1=some e.2
theorem Answers.nil {E:Env}{f:Nat}:Answers E f []:=λ_ h=>by cases h
theorem Answers.cons {E:Env}{f:Nat}{a:List V}{r:V}{t:List (List V × V)} (n:Nat)(h:Ax.call E n f a=some r)(ht:Answers E f t):Answers E f ((a,r)::t):=λe he=>by
 rcases List.mem_cons.1 he with rfl | he
 ·exact⟨n,h⟩
 ·exact ht e he
theorem Answers.append {E:Env}{f:Nat}{t t':List (List V × V)}(h:Answers E f t)(h':Answers E f t'):Answers E f (t++t'):=λe he=>by
 rcases List.mem_append.1 he with he | he
 ·exact h e he
 ·exact h' e he
def reck (E:Env) (f:Nat):List (List V × V)->Bool
 | []=>true
 |e::t=>match Ax.call E 100000 f e.1 with
  |some v=>match veq 12 v e.2 with
   |true=>reck E f t
   |false=>false
  |none=>false
theorem reck_ok {E:Env}{f:Nat}:∀{t:List (List V × V)},reck E f t=true->Answers E f t
 | [],_=>.nil
 |e::t,h=>by
  unfold reck at h
  split at h
  case h_2=>cases h
  rename_i v hc
  split at h
  case h_2=>cases h
  rename_i hv
  exact .cons 100000 (by rw[hc,veq_eq 12 hv]) (reck_ok h)
def BT.put {α:Type} (n:Nat) (a:α):BT α->BT α
 | .nil=>.leaf n a
 | .leaf k b=>match Nat.beq n k with
  |true=>.leaf n a
  |false=>match Nat.blt n k with
   |true=>.node k (.leaf n a) (.leaf k b)
   |false=>.node n (.leaf k b) (.leaf n a)
 | .node k l r=>match Nat.blt n k with
  |true=>.node k (BT.put n a l) r
  |false=>.node k l (BT.put n a r)
theorem BT.put_all {α:Type}{p:Nat->α->Prop}{n:Nat}{a:α}(ha:p n a):∀{t:BT α},t.All p->(t.put n a).All p
 | .nil,_=>ha
 | .leaf k b,ht=>by
  unfold BT.put
  split
  ·exact ha
  ·split
   ·exact⟨ha,ht⟩
   ·exact⟨ht,ha⟩
 | .node k l r,ht=>by
  unfold BT.put
  split
  ·exact⟨BT.put_all ha ht.1,ht.2⟩
  ·exact⟨ht.1,BT.put_all ha ht.2⟩
theorem memoSpec_some {t:List (List V × V)}{args:List V}{r:V}(h:memoSpec t args=some r):(args,r)∈t:=by
 induction t with
 |nil=>cases h
 |cons e t ih=>
  simp only[memoSpec]at h
  split at h
  ·rename_i hb
   injection h with h;subst h
   rw[<- all2_veq hb]
   exact List.mem_cons_self ..
  ·exact List.mem_cons_of_mem _ (ih h)
theorem memo_ok {P:Program}{E:Env}(he:EnvOk P E)(hfs:FnsOk P E)(hmix:P.follows .mixedOrders=true) {f:Nat}{F:Fn}(hF:E.fn f=some F) {t:List (List V × V)}(h:Answers E f t):SpecOk P E f (memoSpec t):=by
 intro d vs xs v hd hs hv hm
 obtain⟨n,hc⟩:=h _ (memoSpec_some hm)
 obtain⟨fn,f1,f2,f3,f4,f5⟩:=hfs.fn f F hF
 have hcall:(callFunc f xs.toArray).run P d.w=.ok (.enter f xs.toArray) d.w:=by
  have f5':¬ fn.name = "runtime.NumGoroutine" := by simpa using f5
  simp[callFunc,f1,f5',f2]
 refine .inl ⟨hcall,(call_sound he hfs hmix hc hd hs hv).mono ?_⟩
 rintro e w' ⟨x,d',rfl,rfl,h1,h2,h3,h4⟩
 exact⟨x,rfl,d',rfl,h1,h2,h3,h4⟩
structure Ground (P:Program) where
 ty:BT Ty
 fn:BT Ax.Fn
 mode:BT Ax.Mode
 hspec:BT (List V->Sg->Option (V × Sg))
 eqs:BT (List Kd)
 gl:Nat->Option (Obj->Prop)
 lie:Nat->Bool
def Ground.env {P:Program} (G:Ground P) (spec:BT (List V->Option V)):Env:=mkEnv G.ty G.fn G.mode spec G.hspec G.eqs G.gl G.lie
theorem Ground.alike {P:Program} (G:Ground P) (s s':BT (List V->Option V)):Alike (G.env s) (G.env s'):=⟨rfl,rfl⟩
structure GroundOk {P:Program} (G:Ground P):Prop where
 ty:G.ty.All (TyOk P)
 fn:G.fn.All (FnOk P)
 eqs:G.eqs.All (EqOk P)
 lie:∀t,G.lie t=true->liesAt P P.depth t 1 0 t 1=true
 hspec:G.hspec.All (HspecOk P (G.env .nil))
theorem BT.All.imp {α:Type}{p q:Nat->α->Prop}(h:∀n a,p n a->q n a):∀{t:BT α},t.All p->t.All q
 | .nil,_=>trivial
 | .leaf k a,ht=>h k a ht
 | .node _ l r,ht=>⟨BT.All.imp h ht.1,BT.All.imp h ht.2⟩
theorem GroundOk.envOk {P:Program}{G:Ground P}(h:GroundOk G) (s:BT (List V->Option V)):EnvOk P (G.env s):=mkEnv_ok h.ty h.eqs h.lie
theorem GroundOk.fnsOk {P:Program}{G:Ground P}(h:GroundOk G) {s:BT (List V->Option V)}(hs:s.All (SpecOk P (G.env .nil))):FnsOk P (G.env s):=
 mkEnv_fns h.fn (hs.imp λ_ _ k=>k.alike (G.alike _ _)) (h.hspec.imp λ_ _ k=>k.alike (G.alike _ _))
theorem GroundOk.memo {P:Program}{G:Ground P}(h:GroundOk G) {s:BT (List V->Option V)}(hs:s.All (SpecOk P (G.env .nil)))(hmix:P.follows .mixedOrders=true) {f:Nat}{F:Fn}(hF:G.fn.get f=some F)
  {t:List (List V × V)}(ht:Answers (G.env s) f t):SpecOk P (G.env .nil) f (memoSpec t):=
 (memo_ok (h.envOk s) (h.fnsOk hs) hmix hF ht).alike (G.alike _ _)
end Go.Ax
end
section
namespace Go.Proofs.YtjcmjanmooabeaaGreatDoor
open Go Go.Ax Go.ChangeShapes Go.WideShapes Go.ChangeAt Go.RowKit
set_option maxRecDepth 100000 in
theorem maxAt {W:World}(h:W.ShapedOpen Tryz.prog):∃m t fr,W.heap[0]?=some (.cells #[.int .i64 m] t fr):=by
 have hr:((begin Tryz.prog (λ_ _=>0) default).world.heap[0]?).bind Obj.row?=some (#[.int .i64 0],3):=by kernel_rfl
 have hg:0<Tryz.prog.globals.size:=of_decide_eq_true (by kernel_rfl)
 obtain⟨cs,hc,hs,hok⟩:=h.1 0 _ _ hg hr
 obtain⟨ts,h1,_,h3⟩:=hok (by kernel_rfl)
 have e1:Tryz.prog.cellTypes Tryz.prog.depth 3=some [3]:=by kernel_rfl
 rw[e1]at h1
 have h1:=Option.some.inj h1
 subst h1
 have hs':cs.size=1:=hs
 obtain⟨v,rfl⟩:∃v,cs = #[v]:=by
  obtain⟨l⟩:=cs
  match l,hs' with
  | [v],_=>exact⟨v,rfl⟩
 obtain⟨u,hu,hv⟩:=h3 0 v rfl
 have hu:u=3:=(Option.some.inj hu).symm
 subst hu
 have e2:Tryz.prog.underlying 3=some (.int .i64):=Tryz.underlying3
 have hv':(match v with
  | .int k' n=>k'=IntKind.i64/\IntKind.has .i64 n
  |_=>False):=by
  unfold Cell.ok at hv
  rw[e2]at hv
  cases v <;> first | exact hv | exact hv.elim
 cases v with
 |int k n=>
  obtain⟨rfl,_⟩:=hv'
  exact⟨n,3,_,hc⟩
 |_=>exact hv'.elim
def topCx (W:World):Cx:=⟨W,[],λ_=>0,λ_=>0,λ_=>0,λk=>k<W.heap.size⟩
theorem top_sr {W:World}(h:W.ShapedOpen Tryz.prog) {E:Env}(hE:E.gl=glMax):SR E (topCx W) where
 inj:=λb b' ⟨o,ho,_⟩=>by cases ho
 obj:=λb o ho=>by cases ho
 anc:=λb ⟨o,ho,_⟩=>by cases ho
 ancLt:=λk hk=>hk
 gl:=λk p hk=>by
  rw[hE]at hk
  obtain⟨m,t,fr,h0⟩:=maxAt h
  cases k with
  |zero=>
   have hk:some (λo=>∃m t fr,o=Obj.cells #[.int .i64 m] t fr)=some p:=hk
   have hk:=Option.some.inj hk
   subst hk
   exact⟨_,h0,⟨m,t,fr,rfl⟩,λ⟨b,⟨o,ho,_⟩,_⟩=>by cases ho⟩
  |succ k=>cases hk
set_option maxRecDepth 100000 in
theorem handed {H:Type}{enc:TypeId × Value->H}{os:Os}{f:FuncId}{fn:Func}{s:ChangeSpec}{X:World->Array Value->Prop}
  (hX:∀(w w':World) (args:Array Value),w.heap=w'.heap->X w args->X w' args)
  (own:ownKnob Tryz.checked.prog.godebug=none) (started:os.Started) (noInit:Tryz.checked.prog.inits.idxOf? f=none)(hfn:Tryz.checked.prog.funcs[f]?=some fn)
  (witness:∃(w:World) (tape:Tape) (i:Input),w.os=os/\(w.forCall tape i).Shaped Tryz.checked.prog/\i.vars=[]/\Input.okWide Tryz.checked.prog (w.forCall tape i) .any w.heap.size f i /\
   ((s.pre enc Tryz.checked.prog fn [] false (w.forCall tape i).memory i.args/\X (w.forCall tape i).memory i.args)/\sizedMet enc Tryz.checked.prog fn (OpenSpec.ofChange s) false (w.forCall tape i).memory i.args)/\({}:Assume).holds Tryz.checked.prog (lone (Frame.enter Tryz.checked.prog f i.args .normal) [] (w.forCall tape i)))
  (contract:∀(W:World) (base:Nat) (args:Array Value) (ds gs:List (DataW H)) (before:List MemPlace),W.ShapedOpen Tryz.checked.prog ->
   (∀(j:Nat) t v,fn.params[j]?=some t->args[j]?=some v->Value.okWide Tryz.checked.prog W .any base t v) ->
   DataW.Whole enc Tryz.checked.prog fn.params.toList s.vars false W args.toList ds gs before ->
   (DataW.weightsEach Tryz.checked.prog (fn.params.toList++s.plain.varTypes Tryz.checked.prog) (ds++gs)).all (· <= reachBytes)=true->args.size=fn.params.size ->
   Calls Tryz.checked.prog f args W λe W'=>∃v,e=.returned v/\s.post enc Tryz.checked.prog fn false true false false W args v W') :
  ReturnsInHanded {} Tryz.checked os f .any (λw args=>(s.pre enc Tryz.checked.prog fn [] false w args/\X w args)/\sizedMet enc Tryz.checked.prog fn (OpenSpec.ofChange s) false w args) (s.post enc Tryz.checked.prog fn false true false false):=by
 refine returnsInHanded_of_calls own started noInit witness ?_
 intro w tape i _ hsh _ hok hpre hholds
 obtain⟨_,_,_,fn',hfn',_,_,_,hsz,hval⟩:=hok
 have e:fn'=fn:=Option.some.inj (hfn'.symm.trans hfn)
 subst e
 obtain⟨⟨⟨ds,gs,before,hw,hc⟩,hx⟩,hz⟩:=hpre
 have hw':=DataW.Whole.of_heap (w':=w.forCall tape i) (by rfl) hw
 refine (contract (w.forCall tape i) w.heap.size i.args ds gs before hsh hval hw' (hz.weights hw) hsz).mono λe W' ⟨v,he,hp⟩=>?_
 subst he
 exact ChangeSpec.post_blind hp
theorem own:ownKnob Tryz.prog.godebug=none:=by kernel_rfl
theorem laidOut:laidOutB Tryz.prog=true:=by kernel_rfl
def laid:List (String × DataW Unit):=Rows.passNoneRow.laid
set_option maxRecDepth 100000 in
theorem laid_plain (w:World)(h:laidMet Tryz.prog laid w):laidMetH Tryz.prog laid w:=by
 rw[MakeChecks.laidMetH_plain _ _ _ (by kernel_rfl)];exact h
set_option maxRecDepth 100000 in
theorem laid_fits (os:Os):(World.holding Tryz.prog os ⟨#[],#[],[]⟩).layFits Tryz.prog laid []=true:=by kernel_rfl
set_option maxRecDepth 100000 in
theorem laid_ifaces (os:Os):(World.holding Tryz.prog os ⟨#[],#[],[]⟩).layIfaces Tryz.prog laid (World.laidAll Tryz.prog os laid)=true:=by kernel_rfl
theorem laid_all (os:Os) (args:Array Value):laidMetH Tryz.prog laid ((World.laidAll Tryz.prog os laid).forCall (λ_ _=>0) ⟨#[],args,[]⟩).memory:=
 laid_plain _ (laidMet_laidAll _ (laid_fits os) (laid_ifaces os))
end Go.Proofs.YtjcmjanmooabeaaGreatDoor
end
section
namespace Go.Ax
open Go
section
def scalarOk (d:TypeDesc):Kd->Prop
 | .bool=>d=.bool
 | .int k=>d=.int k
 | .str=>d=.string
 |_=>False
inductive FieldsOk (P:Program):Nat->List Field->List Kd->Prop
 |nil (n:Nat):FieldsOk P n [] []
 |cons (n:Nat) (f:Field) (fs:List Field) (k:Kd) (sh:List Kd) (d:TypeDesc)(h1:f.name ≠ "_")(h2:f.offset=n)(h3:P.underlying f.type=some d)(h4:scalarOk d k)(hr:FieldsOk P (n+1) fs sh):FieldsOk P n (f::fs) (k::sh)
section
variable {P:Program}
theorem run_part_scalar {t:Nat}{d:TypeDesc}{k:Kd}(h:P.underlying t=some d)(hk:scalarOk d k) {xs:Array Value}{n:Nat}{v:Value}(hx:xs[n]?=some v) (w:World):(Go.part t xs n).run P w=.ok v w:=by
 have:(Go.isAgg t).run P w=.ok false w:=by
  simp only[Go.isAgg,Sem.run_bind,run_underlying h,Result.andThen_ok]
  cases k <;> simp only[scalarOk]at hk <;> first
   |(subst hk;rfl)
   |exact hk.elim
 simp[Go.part,this,hx]
theorem drop_cons {xs:Array Value}{n:Nat}{x:Value}{l:List Value}(h:xs.toList.drop n=x::l):xs[n]?=some x/\xs.toList.drop (n+1)=l:=by
 constructor
 ·have:(xs.toList.drop n)[0]?=some x:=by rw[h];rfl
  simpa using this
 ·have:=congrArg List.tail h
  simpa using this
theorem eqFields_sound (d:Nat) {xs ys:Array Value}:∀{fs:List Field}{sh:List Kd}{n:Nat}{as1 bs:List V}{b:Bool}{l m:List Value},FieldsOk P n fs sh->xs.toList.drop n=l->ys.toList.drop n=m->Sc sh as1 l->Sc sh bs m->eqs sh as1 bs=some b ->
  ∀w,(Op.eqFields (d+1) xs ys fs).run P w=.ok b w:=by
 intro fs
 induction fs with
 |nil=>
  intro sh n as1 bs b l m hf hx hy ha hb h w
  cases hf
  cases ha;cases hb
  simp only[eqs]at h
  injection h with h;subst h
  simp[Op.eqFields]
 |cons f fs ih=>
  intro sh n as1 bs b l m hf hx hy ha hb h w
  cases hf with | cons _ _ _ k sh' dd h1 h2 h3 h4 hr=>
  cases ha with
  |bool x sh'' vs l' ha=>
   cases hb with | bool y _ us m' hb=>
   obtain⟨x1,x2⟩:=drop_cons hx
   obtain⟨y1,y2⟩:=drop_cons hy
   simp only[eqs]at h
   split at h
   case h_2=>cases h
   rename_i q hq
   injection h with h;subst h
   have hrest:=ih hr x2 y2 ha hb hq w
   simp only[scalarOk]at h4;subst h4
   subst h2
   simp only[Op.eqFields,ne_eq,h1,not_false_eq_true,if_true,Sem.run_bind,run_part_scalar (k:=.bool) h3 rfl x1,run_part_scalar (k:=.bool) h3 rfl y1,Result.andThen_ok,run_equalIn_bool' w d _ x y h3]
   cases hxy:(x==y)
   ·simp
   ·simpa using hrest
  |int k1 x sh'' vs l' ha=>
   cases hb with | int _ y _ us m' hb=>
   obtain⟨x1,x2⟩:=drop_cons hx
   obtain⟨y1,y2⟩:=drop_cons hy
   simp only[eqs]at h
   simp only[and_self,if_true]at h
   split at h
   case h_2=>cases h
   rename_i q hq
   injection h with h;subst h
   have hrest:=ih hr x2 y2 ha hb hq w
   simp only[scalarOk]at h4;subst h4
   subst h2
   simp only[Op.eqFields,ne_eq,h1,not_false_eq_true,if_true,Sem.run_bind,run_part_scalar (k:=.int k1) h3 rfl x1,run_part_scalar (k:=.int k1) h3 rfl y1,Result.andThen_ok,run_equalIn_int w d _ k1 k1 x y h3]
   by_cases hxy:x=y
   ·simpa [hxy]using hrest
   ·simp[hxy]
  |str x sh'' vs l' ha=>
   cases hb with | str y _ us m' hb=>
   obtain⟨x1,x2⟩:=drop_cons hx
   obtain⟨y1,y2⟩:=drop_cons hy
   simp only[eqs]at h
   split at h
   case h_2=>cases h
   rename_i q hq
   injection h with h;subst h
   have hrest:=ih hr x2 y2 ha hb hq w
   simp only[scalarOk]at h4;subst h4
   subst h2
   simp only[Op.eqFields,ne_eq,h1,not_false_eq_true,if_true,Sem.run_bind,run_part_scalar (k:=.str) h3 rfl x1,run_part_scalar (k:=.str) h3 rfl y1,Result.andThen_ok,run_equalIn_string w d _ x y h3]
   rw[seq_bytes]
   cases hxy:(x.toList==y.toList)
   ·simp
   ·simpa using hrest
theorem checkKey_scalar {t:Nat}{d:TypeDesc}{k:Kd}(h:P.underlying t=some d)(hk:scalarOk d k) (e:Bool) (n:Nat) (v:Value) (w:World):(Instr.checkKey e (n+1) t v).run P w=.ok () w:=by
 simp only[Instr.checkKey,Sem.run_bind,run_underlying h,Result.andThen_ok]
 cases k <;> simp only[scalarOk]at hk <;> first
  |(subst hk;rfl)
  |exact hk.elim
theorem keyFields_sound (e:Bool) (d:Nat) {xs:Array Value}:∀{fs:List Field}{sh:List Kd}{n:Nat}{as1:List V}{l:List Value},FieldsOk P n fs sh->xs.toList.drop n=l->Sc sh as1 l ->
  ∀w,(forIn fs PUnit.unit λ(f:Field) (_:PUnit)=>(do
   if f.name ≠ "_" then Instr.checkKey e (d+1) f.type (<- Go.part f.type xs f.offset)
   pure (ForInStep.yield PUnit.unit):Sem (ForInStep PUnit))).run P w=.ok PUnit.unit w:=by
 intro fs
 induction fs with
 |nil=>intro sh n as1 l _ _ _ w;simp
 |cons f fs ih=>
  intro sh n as1 l hf hx ha w
  cases hf with | cons _ _ _ k sh' dd h1 h2 h3 h4 hr=>
  have go:∀{x:Value}{l':List Value}{vs:List V},xs.toList.drop n=x::l'->Sc sh' vs l'->(forIn (f::fs) PUnit.unit λ(f:Field) (_:PUnit)=>(do
   if f.name ≠ "_" then Instr.checkKey e (d+1) f.type (<- Go.part f.type xs f.offset)
   pure (ForInStep.yield PUnit.unit):Sem (ForInStep PUnit))).run P w=.ok PUnit.unit w:=by
   intro x l' vs hx ha
   obtain⟨x1,x2⟩:=drop_cons hx
   have hrest:=ih hr x2 ha w
   rw[<- h2]at x1
   simp only[List.forIn_cons,ne_eq,h1,not_false_eq_true,if_true,Sem.run_bind,run_part_scalar h3 h4 x1,Result.andThen_ok,checkKey_scalar h3 h4,Sem.run_pure]
   exact hrest
  cases ha with
  |bool x _ vs l' ha=>exact go hx ha
  |int k1 x _ vs l' ha=>exact go hx ha
  |str x _ vs l' ha=>exact go hx ha
theorem EqOk.of {t:Nat}{fs:Array Field}{sh:List Kd}(h1:P.underlying t=some (.struct fs))(h2:P.stoodInHeld t=false)(h3:P.eqGuardType P.depth t=false)(h4:FieldsOk P 0 fs.toList sh):EqOk P t sh:=by
 have hfo:P.fieldsOf t=fs:=by simp[Program.fieldsOf,h1]
 refine⟨λw as1 bs xs ys b he ha hb=>?_,λw op x y xs ys as1 bs _ _=>run_eqGuard_agg w op t x y _ _ h3,λw e as1 xs ha=>?_,⟨fs,h1⟩⟩
 ·show (Op.equalIn (9999+1) t _ _).run P w=_
  rw[run_equalIn_agg w 9999 t _ _ (by rw[hfo];exact h1) h2,hfo]
  exact eqFields_sound 9998 h4 (by simp) (by simp) ha hb he w
 ·show (Instr.checkKey e (9998+1+1) t _).run P w=_
  unfold Instr.checkKey
  simp only[Sem.run_bind,run_underlying h1,Result.andThen_ok]
  rw[<- Array.forIn_toList]
  have:=keyFields_sound (P:=P) e 9998 (xs:=xs.toArray) h4 (n:=0) (l:=xs) (by simp) ha w
  exact congrArg (λr:Result PUnit=>r.andThen λ_ w'=>(pure ():Sem Unit).run P w') this
end
end
end Go.Ax
end
