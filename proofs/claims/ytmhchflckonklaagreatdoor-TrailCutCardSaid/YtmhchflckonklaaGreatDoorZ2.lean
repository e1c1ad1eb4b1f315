/- Part 2 of the proof. -/
import Derived.Test.YtmhchflckonklaaGreatDoorY
import Derived.Test.YtmhchflckonklaaGreatDoorZ1
import Derived.Test.YtmhchflckonklaaGreatDoorChecked
import Derived.Test.YtmhchflckonklaaGreatDoorRows
import Derived.WalkKit
import Derived.ProofKit
import Derived.Shelf.Lay
import Derived.Lay
import Derived.LaidOnce
import Derived.LaidLaws
import Derived.PinnedBridge
import Derived.Carry
import Derived.Handed
set_option maxHeartbeats 8000000
set_option linter.unusedVariables false
section
namespace Go.Ax
open Go
section
theorem Hi (p:Nat -> Prop) [DecidablePred p] (j:Nat):∀ i,j <= i -> (∀ k,j <= k -> k < i -> ¬ p k) \/ ∃ a,j <= a /\ a < i /\ p a /\ ∀ k,j <= k -> k < a -> ¬ p k:=by
 intro i
 induction i with
 | zero=>intro h; exact .inl fun k _ hk=>by omega
 | succ i ih=>
  intro h
  rcases ZZ i j with hj | hj
  ·exact .inl fun k h1 h2=>by omega
  ·rcases ih hj with h' | ⟨a,h1,h2,h3,h4⟩
   ·by_cases hp:p i
    ·exact .inr ⟨i,hj,by omega,hp,h'⟩
    ·refine .inl fun k h1 h2=>?_
     rcases ZZ k i with hk | hk
     ·exact h' k h1 hk
     ·have:k = i:=by omega
      subst this; exact hp
   ·exact .inr ⟨a,h1,by omega,h3,h4⟩
theorem Qf (p:Nat -> Prop) [DecidablePred p] (j:Nat):∀ i,j <= i -> (∀ k,j <= k -> k < i -> ¬ p k) \/ ∃ a,j <= a /\ a < i /\ p a /\ ∀ k,a < k -> k < i -> ¬ p k:=by
 intro i
 induction i with
 | zero=>intro h; exact .inl fun k _ hk=>by omega
 | succ i ih=>
  intro h
  rcases ZZ i j with hj | hj
  ·exact .inl fun k h1 h2=>by omega
  ·by_cases hp:p i
   ·exact .inr ⟨i,hj,by omega,hp,fun k h1 h2=>by omega⟩
   ·rcases ih hj with h' | ⟨a,h1,h2,h3,h4⟩
    ·refine .inl fun k h1 h2=>?_
     rcases ZZ k i with hk | hk
     ·exact h' k h1 hk
     ·have:k = i:=by omega
      subst this; exact hp
    ·refine .inr ⟨a,h1,by omega,h3,fun k h1 h2=>?_⟩
     rcases ZZ k i with hk | hk
     ·exact h4 k h1 hk
     ·have:k = i:=by omega
      subst this; exact hp
section
variable {E:Env} {ev:yQ} {frz:Fz} {ops:Array Oper} {T:Nat -> Fr × Sg} {pre:Nat -> Nat -> Bool}
theorem Dw {o:Oper} {fr:Fr} {Z:Sg} {q:Fr × Sg} (h:bF E ev frz ops o fr Z = some q):∃ v,q.1 = eD fr o.dst v:=by
 unfold bF at h
 simp only [zF] at h
 split at h
 ·split at h
  ·injection h with h; subst h; exact ⟨_,rfl⟩
  ·cases h
 ·injection h with h; subst h; exact ⟨_,rfl⟩
theorem Gp (fr:Fr) (d:Option Nat) (v:V):(eD fr d v).n = fr.n:=by cases d <;> simp [eD,Fr.aY]
theorem BV {fr:Fr} {d:Option Nat} {v:V} {t:Nat} (h:d ≠ some t):(eD fr d v).get t = fr.get t:=by
 cases d with
 | none=>rfl
 | some d=>
  simp only [eD]
  rw [Fr.aF,ZM (fun e=>h (by rw [e.1]))]
theorem F5 {o:Oper} {fr:Fr} {Z:Sg} {q:Fr × Sg} (hw:(effect E frz o.op).2 = false) (h:bF E ev frz ops o fr Z = some q):q.2 = Z:=by
 unfold bF at h
 simp only [zF] at h
 split at h
 ·split at h
  ·rename_i v σ' hv
   injection h with h; subst h; exact qK hw hv
  ·cases h
 ·injection h with h; subst h; rfl
structure Dr (E:Env) (ev:yQ) (frz:Fz) (ops:Array Oper) (T:Nat -> Fr × Sg) (pre:Nat -> Nat -> Bool):Prop where
 step:∀ i o,ops[i]? = some o -> bF E ev frz ops o (T i).1 (T i).2 = some (T (i + 1))
 edge:∀ i o,ops[i]? = some o -> ∀ k,pre i k = true -> ∃ e ∈ o.after.toList,Region.binds .any e = true /\ (k = e.on \/ pre e.on k = true)
 lt:∀ i o,ops[i]? = some o -> ∀ e ∈ o.after.toList,Region.binds .any e = true -> e.on < i
 pair:∀ i j x y,i < j -> ops[i]? = some x -> ops[j]? = some y -> pre j i = true \/
  (oQ E frz ops x y = true /\ ((effect E frz x.op).2 = true -> (effect E frz y.op).1 = true -> again E ev frz ops y (T j).1 (T j).2 (T i).2 = true) /\
   ((effect E frz x.op).1 = true -> (effect E frz y.op).2 = true -> again E ev frz ops x (T i).1 (T i).2 (T (j + 1)).2 = true))
structure Inv (E:Env) (frz:Fz) (ops:Array Oper) (T:Nat -> Fr × Sg) (pre:Nat -> Nat -> Bool) (L:Array Bool) (fr:Fr) (Z:Sg):Prop where
 size:L.size = ops.size
 down:∀ i k,L[i]? = some true -> pre i k = true -> L[k]? = some true
 len:fr.n = (T 0).1.n
 fr:∀ t j,j <= ops.size -> (∀ k o,ops[k]? = some o -> o.dst = some t -> (k < j ↔ L[k]? = some true)) -> fr.get t = (T j).1.get t
 Z:∀ j,j <= ops.size -> (∀ k o,ops[k]? = some o -> (effect E frz o.op).2 = true -> (k < j ↔ L[k]? = some true)) -> Z = (T j).2
theorem xJ {k j:Nat} (h:k < j) (hj:j <= ops.size):∃ o,ops[k]? = some o:=⟨ops[k],dx (by omega)⟩
theorem Nn {k:Nat} {o:Oper} (h:ops[k]? = some o):k < ops.size:=by
 rcases ZZ k ops.size with g | g
 ·exact g
 ·rw [Array.getElem?_eq_none g] at h; cases h
theorem Dr.len (h:Dr E ev frz ops T pre):∀ j,j <= ops.size -> (T j).1.n = (T 0).1.n
 | 0,_=>rfl
 | j + 1,hj=>by
  obtain ⟨o,ho⟩:=xJ (jn j) hj
  obtain ⟨v,hv⟩:=Dw (h.step j o ho)
  rw [hv,Gp]
  exact h.len j (by omega)
theorem Dr.JU (h : Dr E ev frz ops T pre) {t a : Nat} : ∀ b, a <= b -> b <= ops.size -> (∀ k o, a <= k -> k < b -> ops[k]? = some o -> o.dst ≠ some t) -> (T a).1.get t = (T b).1.get t := by
  intro b
  induction b with
  | zero => intro h1 _ _; have : a = 0 := by omega
            subst this; rfl
  | succ b ih =>
    intro h1 h2 h3
    rcases ZZ b a with hb | hb
    · have : a = b + 1 := by omega
      subst this; rfl
    · rw [ih hb (by omega) fun k o g1 g2 => h3 k o g1 (by omega)]
      obtain ⟨o, ho⟩ := xJ (jn b) h2
      obtain ⟨v, hv⟩ := Dw (h.step b o ho)
      rw [hv, BV (h3 b o hb (by omega) ho)]
theorem Dr.zB (h : Dr E ev frz ops T pre) {a : Nat} : ∀ b, a <= b -> b <= ops.size -> (∀ k o, a <= k -> k < b -> ops[k]? = some o -> (effect E frz o.op).2 = false) -> (T a).2 = (T b).2 := by
  intro b
  induction b with
  | zero => intro h1 _ _; have : a = 0 := by omega
            subst this; rfl
  | succ b ih =>
    intro h1 h2 h3
    rcases ZZ b a with hb | hb
    · have : a = b + 1 := by omega
      subst this; rfl
    · rw [ih hb (by omega) fun k o g1 g2 => h3 k o g1 (by omega)]
      obtain ⟨o, ho⟩ := xJ (jn b) h2
      exact (F5 (h3 b o hb (by omega) ho) (h.step b o ho)).symm
theorem FK {fr fr':Fr} {o:Oper} (h:HM fr fr' (pO ops o)):b_ ops o fr = b_ ops o fr':=by
 unfold b_
 cases hg:o.guard with
 | none=>rfl
 | some p=>
  obtain ⟨j,w⟩:=p
  dsimp only
  have:yielded ops fr j = yielded ops fr' j:=by
   unfold yielded
   cases hd:(ops[j]?).bind (·.dst) with
   | none=>rfl
   | some d=>
    simp only [cg]
    rw [h d (by simp [pO,hg,hd])]
  rw [this]
theorem uL {x y:Oper} (h:oQ E frz ops x y = true) (h1:(effect E frz x.op).2 = true) (h2:(effect E frz y.op).2 = true):False:=by
 simp [oQ,h1,h2] at h
theorem Le {x y:Oper} {t:Nat} (h:oQ E frz ops x y = true) (h1:x.dst = some t) (h2:t ∈ pO ops y):False:=by
 simp [oQ,h1,h2] at h
theorem Lf {x y:Oper} {t:Nat} (h:oQ E frz ops x y = true) (h1:x.dst = some t) (h2:y.dst = some t):False:=by
 simp [oQ,h1,h2] at h
theorem Ld {x y:Oper} {t:Nat} (h:oQ E frz ops x y = true) (h1:y.dst = some t) (h2:t ∈ pO ops x):False:=by
 simp [oQ,h1,h2] at h
theorem Inv.cut (h:Dr E ev frz ops T pre) {L:Array Bool} {fr:Fr} {Z:Sg} (hi:Inv E frz ops T pre L fr Z):∀ m,m <= ops.size -> ∃ j,j <= m /\ ∀ k o,k < m -> ops[k]? = some o -> (effect E frz o.op).2 = true -> (k < j ↔ L[k]? = some true)
 | 0,_=>⟨0,Z1 _,fun k o hk=>by omega⟩
 | m + 1,hm=>by
  obtain ⟨j,hj,hc⟩:=hi.cut h m (by omega)
  obtain ⟨o,ho⟩:=xJ (jn m) hm
  by_cases hw:(effect E frz o.op).2 = true /\ L[m]? = some true
  ·refine ⟨m + 1,Z1 _,fun k ok hk hok hwk=>⟨fun _=>?_,fun _=>hk⟩⟩
   rcases ZZ k m with hkm | hkm
   ·rcases h.pair k m ok o hkm hok ho with hp | ⟨hp,_⟩
    ·exact hi.down m k hw.2 hp
    ·exact (uL hp hwk hw.1).elim
   ·have:k = m:=by omega
    subst this; exact hw.2
  ·refine ⟨j,by omega,fun k ok hk hok hwk=>?_⟩
   rcases ZZ k m with hkm | hkm
   ·exact hc k ok hkm hok hwk
   ·have:k = m:=by omega
    subst this
    rw [ho] at hok; injection hok with hok; subst hok
    exact ⟨fun h=>by omega,fun h=>(hw ⟨hwk,h⟩).elim⟩
theorem HK {o:Oper} {fr:Fr} {Z Y:Sg} {v:V} {σ1:Sg} (hw:(effect E frz o.op).2 = false) (h:again E ev frz ops o fr Z Y = true) (hwt:b_ ops o fr = true) (hv:mF E ev frz o.op fr Z = some (v,σ1)):mF E ev frz o.op fr Y = some (v,Y):=by
 unfold again at h
 simp only [zF] at h
 rw [hwt,hv] at h
 simp only [aq,Bool.false_or] at h
 cases hτ:mF E ev frz o.op fr Y with
 | none=>rw [hτ] at h; cases h
 | some q=>
  obtain ⟨u,τ1⟩:=q
  rw [hτ] at h
  dsimp only at h
  rw [<- EG 12 h,qK hw hτ]
theorem Inv.step (h:Dr E ev frz ops T pre) {L:Array Bool} {fr:Fr} {Z:Sg} (hi:Inv E frz ops T pre L fr Z) {i:Nat} {o:Oper} (ho:ops[i]? = some o) (hL:L[i]? = some false)
  (hready:∀ e ∈ o.after.toList,Region.binds .any e = true -> L[e.on]? = some true):∃ fr' σ',bF E ev frz ops o fr Z = some (fr',σ') /\ Inv E frz ops T pre (L.setIfInBounds i true) fr' σ':=by
 have hin:=Nn ho
 have hpre:∀ k,pre i k = true -> L[k]? = some true:=fun k hk=>by
  obtain ⟨e,h1,h2,h3⟩:=h.edge i o ho k hk
  rcases h3 with rfl | h3
  ·exact hready e h1 h2
  ·exact hi.down e.on k (hready e h1 h2) h3
 have hno:∀ k,L[k]? = some true -> pre k i = true -> False:=fun k h1 h2=>by
  have:=hi.down k i h1 h2
  rw [hL] at this; cases this
 have hne:∀ k,L[k]? = some true -> k ≠ i:=fun k h1 e=>by subst e; rw [hL] at h1; cases h1
 have hnames:HM fr (T i).1 (pO ops o):=fun t ht=>by
  refine hi.fr t i (by omega) fun k ok hok hd=>⟨fun hk=>?_,fun hk=>?_⟩
  ·rcases h.pair k i ok o hk hok ho with hp | ⟨hp,_⟩
   ·exact hpre k hp
   ·exact (Le hp hd ht).elim
  ·rcases fm k i with hki | hki | hki
   ·exact hki
   ·exact (hne k hk hki).elim
   ·rcases h.pair i k o ok hki ho hok with hp | ⟨hp,_⟩
    ·exact (hno k hk hp).elim
    ·exact (Ld hp hd ht).elim
 have hops:HM fr (T i).1 (tmpsOf o.op.operands.toList):=fun t ht=>hnames t (by simp [pO,ht])
 have hstep:=h.step i o ho
 have hval:∃ v σ',bF E ev frz ops o fr Z = some (eD fr o.dst v,σ') /\ (T (i + 1)).1 = eD (T i).1 o.dst v /\ ((effect E frz o.op).2 = true -> σ' = (T (i + 1)).2) /\ ((effect E frz o.op).2 = false -> σ' = Z):=by
  have hσ:(effect E frz o.op).2 = true -> Z = (T i).2:=fun hw=>by
   refine hi.Z i (by omega) fun k ok hok hwk=>⟨fun hk=>?_,fun hk=>?_⟩
   ·rcases h.pair k i ok o hk hok ho with hp | ⟨hp,_⟩
    ·exact hpre k hp
    ·exact (uL hp hwk hw).elim
   ·rcases fm k i with hki | hki | hki
    ·exact hki
    ·exact (hne k hk hki).elim
    ·rcases h.pair i k o ok hki ho hok with hp | ⟨hp,_⟩
     ·exact (hno k hk hp).elim
     ·exact (uL hp hw hwk).elim
  unfold bF at hstep ⊢
  simp only [zF] at hstep ⊢
  rw [FK hnames]
  by_cases hwt:b_ ops o (T i).1 = true
  ·rw [ZO hwt] at hstep ⊢
   split at hstep
   case h_2=>cases hstep
   rename_i v σ1 hv
   injection hstep with hstep
   have e1:(T (i + 1)).1 = eD (T i).1 o.dst v:=by rw [<- hstep]
   have e2:(T (i + 1)).2 = σ1:=by rw [<- hstep]
   rw [Li hops]
   cases hw:(effect E frz o.op).2 with
   | true=>
    rw [hσ hw,hv]
    exact ⟨v,σ1,rfl,e1,fun _=>e2.symm,fun x=>by cases x⟩
   | false=>
    have main:mF E ev frz o.op (T i).1 Z = some (v,Z):=by
     cases hr:(effect E frz o.op).1 with
     | false=>exact Lh hr hw hv Z
     | true=>
      obtain ⟨j,hj,hc⟩:=hi.cut h ops.size (Z1 _)
      have hc':∀ k ok,ops[k]? = some ok -> (effect E frz ok.op).2 = true -> (k < j ↔ L[k]? = some true):=fun k ok hok=>hc k ok (Nn hok) hok
      have hσj:=hi.Z j hj hc'
      rw [hσj]
      rcases fm j i with hji | rfl | hji
      ·
       rcases Hi (fun k=>∃ ok,ops[k]? = some ok /\ (effect E frz ok.op).2 = true) (j:=j) i (by omega) with hn | ⟨a,a1,a2,⟨oa,a3,a4⟩,a5⟩
       ·have e:=h.zB i (by omega) (by omega) (a:=j) fun k ok k1 k2 hok=>by
         cases hx:(effect E frz ok.op).2 with
         | false=>rfl
         | true=>exact (hn k k1 k2 ⟨ok,hok,hx⟩).elim
        rw [e]
        have:=qK hw hv
        rw [this] at hv
        exact hv
       ·have e:=h.zB a a1 (by omega) (a:=j) fun k ok k1 k2 hok=>by
         cases hx:(effect E frz ok.op).2 with
         | false=>rfl
         | true=>exact (a5 k k1 k2 ⟨ok,hok,hx⟩).elim
        rw [e]
        rcases h.pair a i oa o a2 a3 ho with hp | ⟨_,hp,_⟩
        ·have:=(hc' a oa a3 a4).2 (hpre a hp)
         omega
        ·exact HK hw (hp a4 hr) hwt hv
      ·have:=qK hw hv
       rw [this] at hv
       exact hv
      ·rcases Qf (fun k=>∃ ok,ops[k]? = some ok /\ (effect E frz ok.op).2 = true) (j:=i) j (by omega) with hn | ⟨b,b1,b2,⟨ob,b3,b4⟩,b5⟩
       ·have e:=h.zB j (by omega) hj (a:=i) fun k ok k1 k2 hok=>by
         cases hx:(effect E frz ok.op).2 with
         | false=>rfl
         | true=>exact (hn k k1 k2 ⟨ok,hok,hx⟩).elim
        rw [<- e]
        have:=qK hw hv
        rw [this] at hv
        exact hv
       ·have hbi:i < b:=by
         rcases ZZ i b with g | g
         ·exact g
         ·have:b = i:=by omega
          subst this
          rw [ho] at b3; injection b3 with b3; subst b3
          rw [hw] at b4; cases b4
        have e:=h.zB j (by omega) hj (a:=b + 1) fun k ok k1 k2 hok=>by
         cases hx:(effect E frz ok.op).2 with
         | false=>rfl
         | true=>exact (b5 k (by omega) k2 ⟨ok,hok,hx⟩).elim
        rw [<- e]
        rcases h.pair i b o ob hbi ho b3 with hp | ⟨_,_,hp⟩
        ·exact (hno b ((hc' b ob b3 b4).1 b2) hp).elim
        ·exact HK hw (hp hr b4) hwt hv
    rw [main]
    exact ⟨v,Z,rfl,e1,fun x=>(by cases x),fun _=>rfl⟩
  ·rw [ZM hwt] at hstep ⊢
   injection hstep with hstep
   have e1:(T (i + 1)).1 = eD (T i).1 o.dst .undef:=by rw [<- hstep]
   have e2:(T (i + 1)).2 = (T i).2:=by rw [<- hstep]
   exact ⟨.undef,Z,rfl,e1,fun hw=>by rw [e2]; exact hσ hw,fun _=>rfl⟩
 obtain ⟨v,σ',hs,hT,hσ1,hσ2⟩:=hval
 have hset:∀ k,(L.setIfInBounds i true)[k]? = if k = i then some true else L[k]?:=fun k=>by
  rw [Array.getElem?_setIfInBounds]
  by_cases e:i = k
  ·subst e
   have:i < L.size:=by rw [hi.size]; exact hin
   simp [this]
  ·simp [e,gr e]
 refine ⟨_,_,hs,⟨by simp [hi.size],?_,by rw [Gp]; exact hi.len,?_,?_⟩⟩
 ·intro a k ha hk
  rw [hset] at ha ⊢
  split at ha
  ·rename_i e
   subst e
   split
   ·rfl
   ·exact hpre k hk
  ·split
   ·rfl
   ·exact hi.down a k ha hk
 ·intro t j hj hc
  by_cases hd:o.dst = some t
  ·have hij:i < j:=(hc i o ho hd).2 (by rw [hset]; simp)
   rw [<- h.JU j (a:=i + 1) (by omega) hj fun k ok k1 k2 hok hdk=>?_]
   ·rw [hT,hd]
    have hl:fr.n = (T i).1.n:=by rw [hi.len,h.len i (by omega)]
    simp only [eD]
    rw [Fr.aF,Fr.aF,hl]
    by_cases e:t = t /\ t < (T i).1.n
    ·rw [ZO e,ZO e]
    ·rw [ZM e,ZM e]
     have:¬ t < (T i).1.n:=fun x=>e ⟨rfl,x⟩
     have n1:∀ f:Fr,¬ t < f.n -> f.get t = none:=fun f hf=>by
      cases hg:f.get t with
      | none=>rfl
      | some u=>exact (hf (Fr.get_some hg)).elim
     rw [n1 _ (by rw [hl]; exact this),n1 _ this]
   ·have hLk:=(hc k ok hok hdk).1 k2
    rw [hset,ZM (by omega)] at hLk
    rcases h.pair i k o ok (by omega) ho hok with hp | ⟨hp,_⟩
    ·exact hno k hLk hp
    ·exact Lf hp hd hdk
  ·rw [BV hd]
   refine hi.fr t j hj fun k ok hok hdk=>?_
   have hki:k ≠ i:=fun e=>by
    subst e
    rw [ho] at hok; injection hok with hok; subst hok
    exact hd hdk
   rw [hc k ok hok hdk,hset,ZM hki]
 ·intro j hj hc
  cases hw:(effect E frz o.op).2 with
  | true=>
   rw [hσ1 hw]
   have hij:i < j:=(hc i o ho hw).2 (by rw [hset]; simp)
   refine h.zB j (a:=i + 1) (by omega) hj fun k ok k1 k2 hok=>?_
   cases hwk:(effect E frz ok.op).2 with
   | false=>rfl
   | true=>
    have hLk:=(hc k ok hok hwk).1 k2
    rw [hset,ZM (by omega)] at hLk
    rcases h.pair i k o ok (by omega) ho hok with hp | ⟨hp,_⟩
    ·exact (hno k hLk hp).elim
    ·exact (uL hp hw hwk).elim
  | false=>
   rw [hσ2 hw]
   refine hi.Z j hj fun k ok hok hwk=>?_
   have hki:k ≠ i:=fun e=>by
    subst e
    rw [ho] at hok; injection hok with hok; subst hok
    rw [hw] at hwk; cases hwk
   rw [hc k ok hok hwk,hset,ZM hki]
end
end
section
theorem count_set:∀ (l:List Bool) (i:Nat),l[i]? = some false -> (l.set i true).count false + 1 = l.count false
 | [],i,h=>by simp at h
 | b :: l,0,h=>by
  simp at h; subst h
  simp
 | b :: l,i + 1,h=>by
  have:=count_set l i (by simpa using h)
  simp only [jo,List.count_cons]
  omega
section
variable {E:Env} {ev:yQ} {frz:Fz} {ops:Array Oper} {T:Nat -> Fr × Sg} {pre:Nat -> Nat -> Bool}
theorem Inv.done (h:Dr E ev frz ops T pre) {L:Array Bool} {fr:Fr} {Z:Sg} (hi:Inv E frz ops T pre L fr Z) (hl:∀ k,k < ops.size -> L[k]? = some true):Z = (T ops.size).2 /\ fr.n = (T ops.size).1.n /\ ∀ t,fr.get t = (T ops.size).1.get t:=by
 have hx:∀ k o,ops[k]? = some o -> (k < ops.size ↔ L[k]? = some true):=fun k o ho=>⟨fun hk=>hl k hk,fun _=>Nn ho⟩
 exact ⟨hi.Z ops.size (Z1 _) fun k o ho _=>hx k o ho,by rw [hi.len,h.len _ (Z1 _)],fun t=>hi.fr t ops.size (Z1 _) fun k o ho _=>hx k o ho⟩
theorem N_ (h:Dr E ev frz ops T pre):∀ (fuel t:Nat) (L:Array Bool) (acc:List Nat) (fr:Fr) (Z:Sg),Inv E frz ops T pre L fr Z -> L.toList.count false <= fuel ->
  ∃ l,Region.linearise.go .any ops fuel t L acc = acc.reverse ++ l /\ ∃ r:Fr × Sg,LG E ev frz ops l fr Z = some r /\ r.2 = (T ops.size).2 /\ r.1.n = (T ops.size).1.n /\ ∀ t,r.1.get t = (T ops.size).1.get t
 | 0,t,L,acc,fr,Z,hi,hc=>by
  refine ⟨[],by simp [Region.linearise.go],?_⟩
  have:∀ k,k < ops.size -> L[k]? = some true:=fun k hk=>by
   have hk':k < L.size:=by rw [hi.size]; exact hk
   have h0:false ∉ L.toList:=List.count_eq_zero.1 (by omega)
   rw [dx hk']
   cases hx:L[k] with
   | true=>rfl
   | false=>exact (h0 (by rw [<- hx]; simp)).elim
  exact ⟨(fr,Z),by simp only [LG],hi.done h this⟩
 | fuel + 1,t,L,acc,fr,Z,hi,hc=>by
  simp only [Region.linearise.go]
  generalize hrs:(List.range ops.size).filter (fun i=>
    !L.getD i true && ((ops[i]?).map (fun (x:Oper)=>x.after.all fun e=>!Region.binds .any e || L.getD e.on false)).getD false) = rs
  have mem:∀ i,i ∈ rs ↔ i < ops.size /\ L[i]? = some false /\ ∃ o,ops[i]? = some o /\ ∀ e ∈ o.after.toList,Region.binds .any e = true -> L[e.on]? = some true:=by
   intro i
   rw [<- hrs]
   simp only [kj,j6,Z3]
   refine and_congr mc (and_congr ?_ ?_)
   ·rw [Array.getD_eq_getD_getElem?]
    cases hx:L[i]? with
    | none=>simp
    | some b=>cases b <;> simp
   ·cases ho:ops[i]? with
    | none=>simp
    | some o=>
     simp only [ZX,Z9,eu,exists_eq_left']
     rw [<- Array.all_toList]
     simp only [bl,bz,da]
     refine forall_congr' fun e=>forall_congr' fun he=>?_
     rw [Array.getD_eq_getD_getElem?]
     cases hb:Region.binds .any e with
     | false=>simp
     | true=>
      cases hx:L[e.on]? with
      | none=>simp
      | some b=>cases b <;> simp
  cases hget:rs[t % rs.length]? with
  | none=>
   dsimp only
   refine ⟨[],by simp,?_⟩
   have hemp:rs = []:=by
    cases rs with
    | nil=>rfl
    | cons a r=>
     have:=List.getElem?_eq_none_iff.1 hget
     have:=Nat.mod_lt t (show 0 < (a :: r).length by simp)
     omega
   have:∀ k,k < ops.size -> L[k]? = some true:=fun k hk=>by
    rcases Hi (fun k=>L[k]? ≠ some true) 0 ops.size (by omega) with hn | ⟨a,_,a2,a3,a4⟩
    ·have:=hn k (by omega) hk
     exact Decidable.not_not.1 this
    ·obtain ⟨o,ho⟩:=xJ a2 (Z1 ops.size)
     have hal:a < L.size:=by rw [hi.size]; exact a2
     have ha:a ∈ rs:=(mem a).2 ⟨a2,by
      rw [dx hal] at a3 ⊢
      cases hx:L[a] with
      | true=>rw [hx] at a3; exact (a3 rfl).elim
      | false=>rfl,o,ho,fun e he hb=>by
      have:=h.lt a o ho e he hb
      exact Decidable.not_not.1 (a4 e.on (by omega) this)⟩
     rw [hemp] at ha; cases ha
   exact ⟨(fr,Z),by simp only [LG],hi.done h this⟩
  | some i=>
   dsimp only
   obtain ⟨m1,m2,o,ho,m3⟩:=(mem i).1 (Z2 hget)
   obtain ⟨fr',σ',hs,hi'⟩:=hi.step h ho m2 m3
   have hcnt:(L.setIfInBounds i true).toList.count false <= fuel:=by
    have:=count_set L.toList i (by simpa using m2)
    rw [Array.toList_setIfInBounds]
    omega
   obtain ⟨l,h1,h2⟩:=N_ h fuel (t / rs.length) _ (i :: acc) fr' σ' hi' hcnt
   refine ⟨i :: l,by rw [h1]; simp,?_⟩
   simp only [LG,ho,hs]
   exact h2
theorem PO (h:Dr E ev frz ops T pre) (t:Nat):∃ r:Fr × Sg,LG E ev frz ops (Region.linearise .any ops t) (T 0).1 (T 0).2 = some r /\ r.2 = (T ops.size).2 /\ r.1.n = (T ops.size).1.n /\ ∀ t,r.1.get t = (T ops.size).1.get t:=by
 have hrep:∀ k,(Array.replicate ops.size false)[k]? ≠ some true:=fun k hk=>by
  rw [Array.getElem?_replicate] at hk
  split at hk <;> simp at hk
 have hi:Inv E frz ops T pre (Array.replicate ops.size false) (T 0).1 (T 0).2:=by
  refine ⟨by simp,fun i k hk=>(hrep i hk).elim,rfl,fun t j hj hc=>?_,fun j hj hc=>?_⟩
  ·exact h.JU j (a:=0) (by omega) hj fun k o _ k2 ho hd=>hrep k ((hc k o ho hd).1 k2)
  ·refine h.zB j (a:=0) (by omega) hj fun k o _ k2 ho=>?_
   cases hw:(effect E frz o.op).2 with
   | false=>rfl
   | true=>exact (hrep k ((hc k o ho hw).1 k2)).elim
 obtain ⟨l,h1,h2⟩:=N_ h ops.size t _ [] _ _ hi (by simp)
 unfold Region.linearise
 rw [h1]
 simpa using h2
theorem Bv:∀ (rest:List Oper) (fr:Fr) (Z:Sg) (ts:List (Fr × Sg)),gL E ev frz ops rest fr Z = some ts ->
  ts.length = rest.length + 1 /\ ts[0]? = some (fr,Z) /\ last ts = ts[rest.length]? /\ ∀ i o,rest[i]? = some o -> ∃ p q,ts[i]? = some p /\ ts[i + 1]? = some q /\ bF E ev frz ops o p.1 p.2 = some q
 | [],fr,Z,ts,h=>by
  simp only [gL] at h
  injection h with h; subst h
  exact ⟨rfl,rfl,rfl,fun i o h=>by simp at h⟩
 | o :: rest,fr,Z,ts,h=>by
  simp only [gL] at h
  split at h
  case h_2=>cases h
  rename_i fr' σ' hs
  split at h
  case h_2=>cases h
  rename_i l hl
  injection h with h; subst h
  obtain ⟨h1,h2,h3,h4⟩:=Bv rest fr' σ' l hl
  refine ⟨by simp [h1],rfl,?_,fun i o' ho=>?_⟩
  ·cases l with
   | nil=>simp at h1
   | cons b l=>simpa [last] using h3
  ·cases i with
   | zero=>
    simp at ho; subst ho
    exact ⟨(fr,Z),(fr',σ'),rfl,by simpa using h2,hs⟩
   | succ i=>
    obtain ⟨p,q,k1,k2,k3⟩:=h4 i o' (by simpa using ho)
    exact ⟨p,q,by simpa using k1,by simpa using k2,k3⟩
theorem AA:∀ (rest:List Oper) (fr:Fr) (Z:Sg) (r:Fr × Sg),fV E ev frz ops rest fr Z = some r -> ∃ ts,gL E ev frz ops rest fr Z = some ts /\ last ts = some r
 | [],fr,Z,r,h=>by
  simp only [fV] at h
  injection h with h; subst h
  exact ⟨_,rfl,rfl⟩
 | o :: rest,fr,Z,r,h=>by
  simp only [fV] at h
  split at h
  case h_2=>cases h
  rename_i fr' σ' hs
  obtain ⟨ts,h1,h2⟩:=AA rest fr' σ' r h
  refine ⟨_,by simp only [gL,hs,h1]; rfl,?_⟩
  cases ts with
  | nil=>cases h2
  | cons b l=>simpa [last] using h2
theorem vT:∀ (rest:List Oper) (i:Nat) (pre:List Nat),pre.length = rest.length -> ∀ j o,rest[j]? = some o ->
  ∃ p,pre[j]? = some p /\ (Gh E frz i rest pre)[j]? = some ({ i:=i + j,o,pre:=p,rd:=(effect E frz o.op).1,wr:=(effect E frz o.op).2 }:CY)
 | [],_,_,_,j,o,h=>by simp at h
 | o :: rest,i,[],h1,j,o',h=>by simp at h1
 | o :: rest,i,p :: pre,h1,j,o',h=>by
  cases j with
  | zero=>
   simp at h; subst h
   exact ⟨p,rfl,rfl⟩
  | succ j=>
   obtain ⟨p',k1,k4⟩:=vT rest (i + 1) pre (by simpa using h1) j o' (by simpa using h)
   refine ⟨p',by simpa using k1,?_⟩
   simp only [Gh,ak]
   rw [k4]
   congr 2
   omega
def uV (E:Env) (frz:Fz) (ops:Array Oper) (l:List Dm) (x y:CY):Prop:=
 y.pre.testBit x.i = true \/ (oQ E frz ops x.o y.o = true /\ (((x.wr && y.rd) = false /\ (x.rd && y.wr) = false) \/ ({ i:=x.i,j:=y.i,a:=x.wr && y.rd,b:=x.rd && y.wr }:Dm) ∈ l))
theorem uV.mono {l l':List Dm} {x y:CY} (h:uV E frz ops l x y) (hl:∀ d ∈ l,d ∈ l'):uV E frz ops l' x y:=by
 rcases h with h | ⟨h1,h2 | h2⟩
 ·exact .inl h
 ·exact .inr ⟨h1,.inl h2⟩
 ·exact .inr ⟨h1,.inr (hl _ h2)⟩
theorem rJ {x:CY}:∀ (rows:List CY) (l:List Dm),xG E frz ops x rows = some l -> ∀ y ∈ rows,uV E frz ops l x y
 | [],_,_,y,hy=>by cases hy
 | z :: rows,l,h,y,hy=>by
  simp only [xG] at h
  split at h
  ·rename_i hb
   rcases By.1 hy with rfl | hy
   ·exact .inl hb
   ·exact rJ rows l h y hy
  ·split at h
   case h_2=>cases h
   rename_i l' hp hl
   have ih:=rJ rows l' hl
   split at h
   ·rename_i e1 e2
    injection h with h; subst h
    rcases By.1 hy with rfl | hy
    ·exact .inr ⟨hp,.inl ⟨e1,e2⟩⟩
    ·exact ih y hy
   ·injection h with h; subst h
    rcases By.1 hy with rfl | hy
    ·exact .inr ⟨hp,.inr (IN ..)⟩
    ·exact (ih y hy).mono fun d hd=>OF _ hd
theorem xH:∀ (rows:List CY) (l:List Dm),xI E frz ops rows = some l -> ∀ (i j:Nat) (x y:CY),i < j -> rows[i]? = some x -> rows[j]? = some y -> uV E frz ops l x y
 | [],_,_,i,j,x,y,_,h,_=>by simp at h
 | r :: rows,l,h,i,j,x,y,hij,hx,hy=>by
  simp only [xI] at h
  split at h
  case h_2=>cases h
  rename_i a b ha hb
  injection h with h; subst h
  cases j with
  | zero=>omega
  | succ j=>
   have hy':rows[j]? = some y:=by simpa using hy
   cases i with
   | zero=>
    simp at hx; subst hx
    exact (rJ rows a ha y (Z2 hy')).mono fun d hd=>List.mem_append_left _ hd
   | succ i=>exact (xH rows b hb i j x y (by omega) (by simpa using hx) hy').mono fun d hd=>gw _ hd
theorem sG:∀ (rest:List Oper) (i:Nat),yD i rest = true -> ∀ j o,rest[j]? = some o -> ∀ e ∈ o.after.toList,Region.binds .any e = true -> e.on < i + j
 | [],_,_,j,o,h=>by simp at h
 | r :: rest,i,h,j,o,ho=>by
  simp only [yD,Z3,bl] at h
  cases j with
  | zero=>
   simp at ho; subst ho
   intro e he hb
   have:=h.1 e he
   simpa [hb] using this
  | succ j=>
   intro e he hb
   have:=sG rest (i + 1) h.2 j o (by simpa using ho) e he hb
   omega
theorem Iy {pl:List Nat} {o:Oper} {k:Nat} (h:(Gr pl o).testBit k = true):∃ e ∈ o.after.toList,Region.binds .any e = true /\ (k = e.on \/ (pl.getD e.on 0).testBit k = true):=by
 have key:∀ (l:List Edge) (b:Nat),(l.foldl (fun b (e:Edge)=>if Region.binds .any e then b ||| (1 <<< e.on) ||| pl.getD e.on 0 else b) b).testBit k = true ->
   b.testBit k = true \/ ∃ e ∈ l,Region.binds .any e = true /\ (k = e.on \/ (pl.getD e.on 0).testBit k = true):=by
  intro l
  induction l with
  | nil=>intro b hb; exact .inl hb
  | cons e l ih=>
   intro b hb
   simp only [j9] at hb
   rcases ih _ hb with h1 | ⟨e',h1,h2⟩
   ·by_cases hbe:Region.binds .any e = true
    ·rw [ZO hbe] at h1
     simp only [Nat.testBit_or,bz] at h1
     rcases h1 with (h1 | h1) | h1
     ·exact .inl h1
     ·refine .inr ⟨e,by simp,hbe,.inl ?_⟩
      rw [Nat.one_shiftLeft,Nat.testBit_two_pow] at h1
      exact (bf h1).symm
     ·exact .inr ⟨e,by simp,hbe,.inr h1⟩
    ·rw [ZM hbe] at h1
     exact .inl h1
   ·exact .inr ⟨e',by simp [h1],h2⟩
 rcases key _ 0 h with h | h
 ·simp at h
 ·exact h
theorem DL:∀ (rest:List Oper) (pl:List Nat),(∃ s,xF rest pl = pl ++ s /\ s.length = rest.length) /\ ∀ j o,rest[j]? = some o -> (xF rest pl)[pl.length + j]? = some (Gr ((xF rest pl).take (pl.length + j)) o)
 | [],pl=>⟨⟨[],by simp [xF],rfl⟩,fun j o h=>by simp at h⟩
 | o :: rest,pl=>by
  obtain ⟨⟨s,h1,h2⟩,h3⟩:=DL rest (pl ++ [Gr pl o])
  refine ⟨⟨Gr pl o :: s,by simp [xF,h1],by simp [h2]⟩,fun j o' ho=>?_⟩
  cases j with
  | zero=>
   simp at ho; subst ho
   simp only [xF,h1]
   simp
  | succ j=>
   have:=h3 j o' (by simpa using ho)
   simp only [xF]
   rw [Z7,cq,lj,jk 1 j] at this
   exact this
theorem LH {fr:Fr} {Z:Sg} {r:Fr × Sg} (h:cE E ev ops fr Z = some r) (t:Nat):∃ q:Fr × Sg,LG E ev (fA E ops) ops (Region.linearise .any ops t) fr Z = some q /\ q.2 = r.2 /\ q.1.n = r.1.n /\ ∀ t,q.1.get t = r.1.get t:=by
 unfold cE at h
 generalize fA E ops = frz at h ⊢
 obtain ⟨l,ts,hpl,hts,hc,hr⟩:∃ l ts,cC E frz ops = some l /\ gL E ev frz ops ops.toList fr Z = some ts /\ l.all (gH E ev frz ops ts) = true /\ last ts = some r:=by
  split at h
  ·cases h
  ·rename_i hp
   obtain ⟨ts,h1,h2⟩:=AA _ _ _ _ h
   exact ⟨[],ts,hp,h1,rfl,h2⟩
  ·rename_i l _ hp
   split at h
   ·cases h
   ·rename_i ts hts
    split at h
    case isFalse=>cases h
    rename_i hc
    exact ⟨l,ts,hp,hts,hc,h⟩
 clear h
 obtain ⟨hedge,hplan⟩:yD 0 ops.toList = true /\ xI E frz ops (Gh E frz 0 ops.toList (xF ops.toList [])) = some l:=by
  unfold cC at hpl
  split at hpl
  ·rename_i he; exact ⟨he,hpl⟩
  ·cases hpl
 rw [bl] at hc
 obtain ⟨t1,t2,t3,t4⟩:=Bv _ _ _ _ hts
 obtain ⟨⟨s,p1,p2⟩,p3⟩:=DL ops.toList []
 have hpl:(xF ops.toList []).length = ops.toList.length:=by rw [p1]; simpa using p2
 have hd:Dr E ev frz ops (fun i=>(ts[i]?).getD (⟨0,.leaf⟩,[])) (fun i k=>((xF ops.toList []).getD i 0).testBit k):=by
  refine ⟨fun i o ho=>?_,fun i o ho k hk=>?_,fun i o ho e he hb=>?_,fun i j x y hij hx hy=>?_⟩
  ·obtain ⟨p,q,k1,k2,k3⟩:=t4 i o (by simpa using ho)
   simp only [k1,k2,Z9]
   exact k3
  ·have h0:=p3 i o (by simpa using ho)
   simp only [ZN,an] at h0
   simp only [List.getD_eq_getElem?_getD,h0,Z9] at hk
   obtain ⟨e,h1,h2,h3⟩:=Iy hk
   refine ⟨e,h1,h2,?_⟩
   rcases h3 with h3 | h3
   ·exact .inl h3
   ·refine .inr ?_
    have hlt:=sG _ 0 hedge i o (by simpa using ho) e h1 h2
    simp only [List.getD_eq_getElem?_getD] at h3 ⊢
    rw [dm,ZO (by omega)] at h3
    exact h3
  ·have:=sG _ 0 hedge i o (by simpa using ho) e he hb
   omega
  ·obtain ⟨pa,k1,k4⟩:=vT (E:=E) (frz:=frz) ops.toList 0 (xF ops.toList []) hpl i x (by simpa using hx)
   obtain ⟨pb,l1,l4⟩:=vT (E:=E) (frz:=frz) ops.toList 0 (xF ops.toList []) hpl j y (by simpa using hy)
   have hP:=xH _ _ hplan i j _ _ hij k4 l4
   obtain ⟨a,a',a1,a2,_⟩:=t4 i x (by simpa using hx)
   obtain ⟨b,b',b1,b2,_⟩:=t4 j y (by simpa using hy)
   simp only [uV,an] at hP
   rcases hP with h | ⟨h1,h2⟩
   ·refine .inl ?_
    simp only [List.getD_eq_getElem?_getD,l1,Z9]
    exact h
   ·refine .inr ⟨h1,?_⟩
    rcases h2 with ⟨h2,h3⟩ | h2
    ·refine ⟨fun e1 e2=>?_,fun e1 e2=>?_⟩
     ·rw [e1,e2] at h2; cases h2
     ·rw [e1,e2] at h3; cases h3
    ·have hn:=hc _ h2
     simp only [gH,hx,hy,a1,b1,b2,Z3,bz,da] at hn
     refine ⟨fun e1 e2=>?_,fun e1 e2=>?_⟩
     ·rcases hn.1 with h | h
      ·rw [e1,e2] at h; cases h
      ·simpa [a1,b1] using h
     ·rcases hn.2 with h | h
      ·rw [e1,e2] at h; cases h
      ·simpa [a1,b2] using h
 have:=PO hd t
 simp only [t2,Z9] at this
 rw [t3] at hr
 simp only [ek] at hr
 rw [hr] at this
 exact this
end
section
variable {P:Program} {E:Env}
theorem Post.trans {c c':Cx} {r:X} {fr:Fr} {Z:Sg} {e:Exit} {a:Act} {w:World} (h:Ext c c') (hp:Post E c' r fr Z e a w):Post E c r fr Z e a w:=by
 obtain ⟨h1,h2,d,h3,h4,h5,h6⟩:=hp
 exact ⟨h1,h2,d,h3,h4,h.trans h5,h6⟩
theorem DM {c:Cx} {r:X} {fr:Fr} {Z:Sg} {e:Exit} {a:Act} {w:World} {K:Act -> World -> Prop} (hn:∀ fr' σ',(r,fr,Z) ≠ (X.normal,fr',σ')) (hp:Post E c r fr Z e a w):Exit.then K (Post E c r fr Z) e a w:=by
 obtain ⟨h1,h2⟩:=hp
 cases r with
 | normal=>exact (hn fr Z rfl).elim
 | exit id=>cases h1; exact ⟨rfl,h2⟩
 | ret=>cases h1; exact ⟨rfl,h2⟩
theorem yB (he:cU P E) (hfs:nJ P E) (hmix:P.follows .mixedOrders = true):∀ n,Ew P E (ev E n) /\
  ∀ (c1:Code) (fr:Fr) (Z:Sg) (r:X) (fr':Fr) (σ':Sg),ev E n (.loop c1) fr Z = some (r,fr',σ') -> ∀ (c:Cx) (a:Act),SR E c -> c.Z = Z -> FR c fr a.tmps -> a.defers = [] ->
   ∀ c0,Ext c0 c -> Code.rounds P c1 (Post E c0 r fr' σ') n a c.w
 | 0=>by
  constructor
  ·intro code fr Z r fr' σ' h
   simp only [ev] at h; cases h
  ·intro c1 fr Z r fr' σ' h
   simp only [ev] at h; cases h
 | n + 1=>by
  obtain ⟨ih,ihl⟩:=yB he hfs hmix n
  have loops:∀ (c1:Code) (fr:Fr) (Z:Sg) (r:X) (fr':Fr) (σ':Sg),ev E (n + 1) (.loop c1) fr Z = some (r,fr',σ') -> ∀ (c:Cx) (a:Act),SR E c -> c.Z = Z -> FR c fr a.tmps -> a.defers = [] ->
    ∀ c0,Ext c0 c -> Code.rounds P c1 (Post E c0 r fr' σ') (n + 1) a c.w:=by
   intro c1 fr Z r fr' σ' h c a hs hσ hf hd c0 hx
   rw [rounds_succ]
   simp only [ev] at h
   split at h
   ·rename_i fr1 σ1 h1
    refine wp_mono (ih _ _ _ _ _ _ h1 c a hs hσ hf hd) ?_
    rintro e a1 w1 ⟨h0,hd1,c',rfl,hσ1,k1,k2,k3⟩
    cases h0
    exact ihl c1 fr1 σ1 r fr' σ' h c' a1 k2 hσ1 k3 hd1 c0 (hx.trans k1)
   ·rename_i hn
    refine wp_mono (ih _ _ _ _ _ _ h c a hs hσ hf hd) ?_
    intro e a1 w1 hp
    refine DM (fun fr2 σ2 e=>?_) (hp.trans hx)
    rw [e] at h
    exact hn _ _ h
  refine ⟨fun code fr Z r fr' σ' h c a hs hσ hf hd=>?_,loops⟩
  subst hσ
  cases code with
  | skip=>
   simp only [ev] at h
   injection h with h; injection h with e1 h; injection h with e2 e3; subst e1 e2 e3
   exact wp_skip ⟨rfl,hd,c,rfl,rfl,Ext.refl c,hs,hf⟩
  | exit id=>
   simp only [ev] at h
   injection h with h; injection h with e1 h; injection h with e2 e3; subst e1 e2 e3
   exact wp_exit ⟨rfl,hd,c,rfl,rfl,Ext.refl c,hs,hf⟩
  | ret=>
   simp only [ev] at h
   injection h with h; injection h with e1 h; injection h with e2 e3; subst e1 e2 e3
   exact wp_ret ⟨rfl,hd,c,rfl,rfl,Ext.refl c,hs,hf⟩
  | seq x y=>
   simp only [ev] at h
   refine wp_seq ?_
   split at h
   ·rename_i fr1 σ1 h1
    refine wp_mono (ih _ _ _ _ _ _ h1 c a hs rfl hf hd) ?_
    rintro e a1 w1 ⟨h0,hd1,c',rfl,hσ1,k1,k2,k3⟩
    cases h0
    exact wp_mono (ih _ _ _ _ _ _ h c' a1 k2 hσ1 k3 hd1) fun e a w hp=>hp.trans k1
   ·rename_i hn
    refine wp_mono (ih _ _ _ _ _ _ h c a hs rfl hf hd) ?_
    intro e a1 w1 hp
    refine DM (fun fr2 σ2 e=>?_) hp
    rw [e] at h
    exact hn _ _ h
  | cond x y z=>
   simp only [ev] at h
   split at h
   ·rename_i hx
    exact wp_cond_true (aJ hf hx).iK (ih _ _ _ _ _ _ h c a hs rfl hf hd)
   ·rename_i hx
    exact wp_cond_false (aJ hf hx).iK (ih _ _ _ _ _ _ h c a hs rfl hf hd)
   ·cases h
  | block id x=>
   simp only [ev] at h
   refine wp_block ?_
   split at h
   ·rename_i id' fr1 σ1 h1
    refine wp_mono (ih _ _ _ _ _ _ h1 c a hs rfl hf hd) ?_
    rintro e a1 w1 ⟨h0,hp⟩
    cases h0
    simp only [Exit.inBlock]
    split at h
    ·rename_i heq
     injection h with h; injection h with e1 h; injection h with e2 e3; subst e1 e2 e3
     rw [ZO heq]
     exact ⟨rfl,hp⟩
    ·rename_i heq
     injection h with h; injection h with e1 h; injection h with e2 e3; subst e1 e2 e3
     rw [ZM heq]
     exact ⟨rfl,hp⟩
   ·rename_i hn
    refine wp_mono (ih _ _ _ _ _ _ h c a hs rfl hf hd) ?_
    rintro e a1 w1 ⟨h0,hp⟩
    cases r with
    | normal=>cases h0; exact ⟨rfl,hp⟩
    | ret=>cases h0; exact ⟨rfl,hp⟩
    | exit id'=>exact (hn _ _ _ h).elim
  | loop x=>exact wp_loop_rounds (n + 1) (loops x fr c.Z r fr' σ' h c a hs rfl hf hd c (Ext.refl c))
  | region id ops draw=>
   simp only [ev] at h
   split at h
   case h_2=>cases h
   rename_i fr1 σ1 h1
   injection h with h; injection h with e1 h; injection h with e2 e3; subst e1 e2 e3
   cases draw with
   | false=>
    refine wp_region ?_
    rw [ZM (by simp),Ei ops.toList 0 fr c.Z (by simp)] at h1
    rw [List.range_eq_range',<- ek]
    exact qU he hfs ih _ hs hf hd h1 c (Ext.refl c)
   | true=>
    rw [ZO rfl] at h1
    have each:∀ t,∃ frq:Fr,(frq.n = fr1.n /\ ∀ u,frq.get u = fr1.get u) /\ wpOps P ops (Post E c .normal frq σ1) (Region.schedule (P.follows .mixedOrders) ops t) a { c.w with drawn:=c.w.drawn + 1 }:=by
     intro t
     rw [hmix]
     simp only [Region.schedule,Bool.true_or,ZP]
     obtain ⟨⟨frq,σq⟩,q1,q2,q3,q4⟩:=LH h1 t
     dsimp only at q2 q3 q4
     subst q2
     exact ⟨frq,⟨q3,q4⟩,qU (c:=c.drew) he hfs ih _ (Cx.yE hs) (FR.mono c.lW hf) hd q1 c c.lW⟩
    intro b k cs
    obtain ⟨frq,⟨q3,q4⟩,hw⟩:=each (c.w.tape c.w.drawn (.order b.fn id))
    obtain ⟨e,a',w',⟨e1,e2,d,e3,e4,e5,e6,e7⟩,r⟩:=wp_ops _ a _ hw b k cs
    exact ⟨e,a',w',⟨e1,e2,d,e3,e4,e5,e6,by rw [<- q3]; exact e7.1,fun t v hv=>e7.2 t v (by rw [q4]; exact hv)⟩,.of_steps (.one step_region_draw) r⟩
  | _=>simp only [ev] at h; cases h
theorem CO (he:cU P E) (hfs:nJ P E) (hmix:P.follows .mixedOrders = true) {n f:Nat} {vs:List V} {v:V} (h:Ax.call E n f vs = some v) {d:Cx} (hd:d.Z = []) (hs:SR E d) {xs:List Value} (hv:fB d vs xs) :
  Calls P f xs.toArray d.w fun e w'=>∃ (x:Value) (d':Cx),e = .returned x /\ d'.w = w' /\ d'.Z = [] /\ Ext d d' /\ SR E d' /\ VR d' v x:=by
 unfold Ax.call at h
 split at h
 ·cases h
 rename_i F hF
 split at h
 case h_2=>cases h
 rename_i u σ1 hent
 have hi:=tV hs []
 have hvi:fB (d.inner (d.gF [])) vs xs:=by
  refine fB.mono ?_ hv
  have ho:∀ k,¬ d.own k:=by
   rintro k ⟨b,⟨o,ho,_⟩,_⟩
   rw [hd] at ho; cases ho
  have hanc:(d.inner (d.gF [])).nI = d.nI:=by
   funext k
   exact propext ⟨fun h=>h.resolve_right (ho k),fun h=>.inl h⟩
  exact ⟨Z1 _,fun k _ _=>⟨rfl,oE⟩,by rw [hd]; exact Z1 _,fun _ _=>rfl,fun _ _=>rfl,fun _ _=>rfl,hanc,rfl,rfl,rfl⟩
 have:=t_ he hfs (yB he hfs hmix n).1 hF hi hvi hent
 refine this.mono ?_
 rintro e w' ⟨x,rfl,d1,rfl,hσ,hx,hsd,hxv⟩
 rw [<- hσ] at h
 obtain ⟨g1,g2,g3⟩:=qH hs hx hsd hxv h
 exact ⟨x,(d.gF []).outer d1.w,rfl,rfl,hd,g1,g2,g3⟩
end
end
section
inductive BT (α:Type) where
 | nil
 | leaf (k:Nat) (a:α)
 | node (k:Nat) (l r:BT α)
def BT.get {α:Type} (n:Nat):BT α -> Option α
 | .nil=>none
 | .leaf k a=>match Nat.beq n k with
  | true=>some a
  | false=>none
 | .node k l r=>match Nat.blt n k with
  | true=>l.get n
  | false=>r.get n
def BT.yR {α:Type} (p:Nat -> α -> Prop):BT α -> Prop
 | .nil=>True
 | .leaf k a=>p k a
 | .node _ l r=>l.yR p /\ r.yR p
theorem BT.rZ {α:Type} {p:Nat -> α -> Prop} {n:Nat} {a:α}:∀ {t:BT α},t.yR p -> t.get n = some a -> p n a
 | .nil,_,h=>by cases h
 | .leaf k b,ht,h=>by
  simp only [BT.get] at h
  split at h
  ·rename_i hk
   injection h with h; subst h
   have:=ej hk
   subst this
   exact ht
  ·cases h
 | .node k l r,ht,h=>by
  simp only [BT.get] at h
  split at h
  ·exact BT.rZ ht.1 h
  ·exact BT.rZ ht.2 h
def TE:TypeDesc -> Option Kd
 | .bool=>some .bool
 | .int k=>some (.int k)
 | .string=>some .str
 | .pointer e=>some (.ptr e)
 | .slice e=>some (.sl e)
 | .array n e=>some (.arr n e)
 | .map k e=>some (.map k e)
 | .struct a=>some (.jC (a.toList.map fun f=>(f.offset,f.type)))
 | .func ..=>some .func
 | .interface _=>some .zR
 | .unsafePointer=>some .other
 | _=>none
theorem Qi {d:TypeDesc} {k:Kd} (h:TE d = some k):oC d k:=by
 cases d <;> simp only [TE] at h <;> first
  | (cases h; done)
  | (injection h with h; subst h; simp only [oC])
  | skip
 all_goals first
  | exact ⟨_,rfl,rfl⟩
  | exact ⟨_,_,_,rfl⟩
  | exact ⟨_,rfl⟩
def Ss (inf:TypeInfo) (d:TypeDesc):Option Ty:=
 match inf.zero with
 | none=>none
 | some z=>match ofValue z,TE d with
  | some v,some k=>if v.cells.length = inf.size /\ z.cells.size = inf.size then some { kd:=k,size:=inf.size,bytes:=inf.bytes,zero:=v } else none
  | _,_=>none
theorem xN {w:World} {I:Bool -> Nat -> Prop} {x:Value} {v:V} (h:bE x = some v):IR w I v x:=by
 unfold bE at h
 split at h <;> first
  | (cases h; done)
  | (injection h with h; subst h; first | exact .bool _ | exact .int _ _ | exact .str _ | exact .fP | exact .aD | exact .bU | exact .qN | exact .qM)
theorem xM {w:World} {I:Bool -> Nat -> Prop}:∀ {xs:List Value} {vs:List V},ofValues xs = some vs -> A6 w I vs xs
 | [],vs,h=>by simp only [ofValues] at h; injection h with h; subst h; exact .nil
 | x :: xs,vs,h=>by
  simp only [ofValues] at h
  split at h
  ·rename_i v l h1 h2
   injection h with h; subst h
   exact .cons _ _ _ _ (xN h1) (xM h2)
  ·cases h
theorem Gw {w:World} {I:Bool -> Nat -> Prop} {x:Value} {v:V} (h:ofValue x = some v):rB w I v x:=by
 unfold ofValue at h
 split at h
 ·rename_i cs
  split at h
  ·rename_i l hl
   injection h with h; subst h
   have:=rB.agg (w:=w) (I:=I) _ _ (xM hl)
   simpa using this
  ·cases h
 ·exact .one (xN h)
theorem Qx {P:Program} {t:Nat} {inf:TypeInfo} (h:P.types[t]? = some inf):P.info? t = some inf:=by
 have:t < P.types.size:=(ZU.1 h).1
 unfold Tables.info?
 rw [ZO this]
 exact h
theorem vA.of {P:Program} {t:Nat} {inf:TypeInfo} {d:TypeDesc} {i:Ty} (h1:P.types[t]? = some inf) (h2:P.underlying t = some d) (h:Ss inf d = some i):vA P t i:=by
 unfold Ss at h
 split at h
 ·cases h
 rename_i z hz
 split at h
 case h_2=>cases h
 rename_i v k hv hk
 split at h
 case isFalse=>cases h
 rename_i hc
 injection h with h; subst h
 exact ⟨⟨inf,Qx h1,rfl,rfl,z,hz,hc.2,fun w I=>Gw hv⟩,⟨d,h2,Qi hk⟩,hc.1⟩
def aA (F:Func):Fn:={ code:=F.body.getD .skip,ntmps:=F.ntmps,results:=F.results.toList }
def Jl (P:Program) (f:Nat) (F:Fn):Prop:=∃ fn,P.funcs[f]? = some fn /\ fn.body = some F.code /\ fn.ntmps = F.ntmps /\ fn.results.toList = F.results /\ (fn.name == "runtime.NumGoroutine") = false
theorem Jl.of {P:Program} {f:Nat} {fn:Func} (h1:P.funcs[f]? = some fn) (h2:fn.body.isSome = true) (h3:(fn.name == "runtime.NumGoroutine") = false):Jl P f (aA fn):=by
 obtain ⟨c,hc⟩:=ez.1 h2
 exact ⟨fn,h1,by simp [aA,hc],rfl,rfl,h3⟩
def QF (P:Program) (f:Nat):Option Fn:=match P.funcs[f]? with
 | some fn=>match fn.body with
  | some c=>some { code:=c,ntmps:=fn.ntmps,results:=fn.results.toList }
  | none=>none
 | none=>none
theorem QE {P:Program} (ha:(P.funcs.all fun fn=>!(fn.name == "runtime.NumGoroutine")) = true) {f:Nat} {F:Fn} (h:QF P f = some F):Jl P f F:=by
 unfold QF at h
 split at h
 case h_2=>cases h
 rename_i fn h1
 split at h
 case h_2=>cases h
 rename_i c h2
 injection h with h; subst h
 refine ⟨fn,h1,h2,rfl,rfl,?_⟩
 rw [Array.all_eq_true] at ha
 obtain ⟨hi,rfl⟩:=ZU.1 h1
 simpa using ha f hi
def Pq (P:Program) (t:Nat):Option Ty:=match P.types[t]?,P.underlying t with
 | some inf,some d=>Ss inf d
 | _,_=>none
theorem Pp {P:Program} {t:Nat} {i:Ty} (h:Pq P t = some i):vA P t i:=by
 unfold Pq at h
 split at h
 ·rename_i h1 h2; exact vA.of h1 h2 h
 ·cases h
def BT.K6 {α:Type} (g:Nat -> Option α):Nat -> Nat -> BT α
 | 0,lo=>match g lo with
  | some a=>.leaf lo a
  | none=>.nil
 | k + 1,lo=>.node (Nat.add lo (Nat.pow 2 k)) (BT.K6 g k lo) (BT.K6 g k (Nat.add lo (Nat.pow 2 k)))
theorem BT.Bb {α:Type} {g:Nat -> Option α} {p:Nat -> α -> Prop} (h:∀ n a,g n = some a -> p n a):∀ k lo,(BT.K6 g k lo).yR p
 | 0,lo=>by
  unfold BT.K6
  split
  ·rename_i a e; exact h _ _ e
  ·exact trivial
 | k + 1,lo=>⟨BT.Bb h k lo,BT.Bb h k _⟩
def fZ (P:Program) (E:Env) (f:Nat) (s:List V -> Option V):Prop:=∀ (d:Cx) (vs:List V) (xs:List Value) (v:V),d.Z = [] -> SR E d -> fB d vs xs -> s vs = some v -> sM P f xs d.w (kD E d v [])
def gU (P:Program) (E:Env) (f:Nat) (s:List V -> Sg -> Option (V × Sg)):Prop:=∀ (c:Cx) (vs:List V) (xs:List Value) (v:V) (σ':Sg),SR E c -> fB c vs xs -> s vs c.Z = some (v,σ') -> sM P f xs c.w (kD E c v σ')
def GG (ty:BT Ty) (fn:BT Ax.Fn) (mode:BT Ax.Mode) (spec:BT (List V -> Option V)) (hspec:BT (List V -> Sg -> Option (V × Sg))) (eqs:BT (List Kd)) (gl:Nat -> Option (Obj -> Prop)) (C4:Nat -> Bool):Env:=
 { ty:=fun t=>ty.get t,fn:=fun f=>fn.get f,mode:=fun f=>match mode.get f with
   | some m=>m
   | none=>.eW,spec:=fun f=>spec.get f,hspec:=fun f=>hspec.get f,eqs:=fun t=>eqs.get t,gl,C4 }
section
variable {P:Program} {ty:BT Ty} {fn:BT Ax.Fn} {mode:BT Ax.Mode} {spec:BT (List V -> Option V)} {hspec:BT (List V -> Sg -> Option (V × Sg))} {eqs:BT (List Kd)} {gl:Nat -> Option (Obj -> Prop)} {C4:Nat -> Bool}
theorem Ny (h1:ty.yR (vA P)) (h2:eqs.yR (iV P)) (h3:∀ t,C4 t = true -> liesAt P P.depth t 1 0 t 1 = true):cU P (GG ty fn mode spec hspec eqs gl C4):=⟨fun _ _ h=>BT.rZ h1 h,fun _ _ h=>BT.rZ h2 h,h3⟩
theorem Lj (h1:fn.yR (Jl P)) (h2:spec.yR (fZ P (GG ty fn mode spec hspec eqs gl C4))) (h3:hspec.yR (gU P (GG ty fn mode spec hspec eqs gl C4))):nJ P (GG ty fn mode spec hspec eqs gl C4):=
 ⟨fun _ _ h=>BT.rZ h1 h,fun _ _ h=>BT.rZ h2 h,fun _ _ h=>BT.rZ h3 h⟩
end
end
def Eb:Nat -> Option (Obj -> Prop)
 | 0=>some fun o=>∃ m t fr,o = .cells #[.int .i64 m] t fr
 | _=>none
def cI (c:Nat):List Nat -> List (List Nat)
 | []=>[[]]
 | a :: r=>if a = c then [] :: cI c r else match cI c r with
  | p :: ps=>(a :: p) :: ps
  | []=>[[a]]
def Re (c:Nat):List Nat -> List Nat × List Nat × Bool
 | []=>([],[],false)
 | a :: r=>if a = c then ([],r,true) else
  let q:=Re c r
  (a :: q.1,q.2)
def jB (c:Nat):List Nat -> Option Nat
 | []=>none
 | a :: r=>if a = c then some 0 else match jB c r with
  | some i=>some (i + 1)
  | none=>none
def lE:List V -> Option V
 | [.str s,.str [c]]=>if s.length < 4294967281 then some (.bS false ((cI c s).map fun p=>[V.str p]) true) else none
 | _=>none
def wW:List V -> Option V
 | [.str s,.str [c]]=>if s.length < 4294967281 then
   let q:=Re c s
   some (.gB [.str q.1,.str q.2.1,.bool q.2.2]) else none
 | _=>none
def kK:List V -> Option V
 | [.str s,.int .u8 c]=>if 0 <= c /\ c < 256 then some (.int .i64 (match jB c.toNat s with | some i=>(i:Int) | none=>-1)) else none
 | _=>none
def Cm (lt:List V -> List V -> Bool) (x:List V):List (List V) -> List (List V)
 | []=>[x]
 | y :: r=>if lt x y then x :: y :: r else y :: Cm lt x r
def kL (lt:List V -> List V -> Bool) (l:List (List V)):List (List V):=l.foldl (fun acc x=>Cm lt x acc) []
def strLt (a b:List V):Bool:=match a,b with
 | [.str s],[.str t]=>slt s t
 | _,_=>false
def qR (a b:List V):Bool:=match a,b with
 | [.bool x,.str s],[.bool y,.str t]=>match x,y with
  | false,true=>true
  | true,false=>false
  | _,_=>slt s t
 | _,_=>false
def GC (n:Nat):List Nat -> Bool
 | []=>false
 | a :: r=>match Nat.beq n a with
  | true=>true
  | false=>GC n r
def rowOf:V -> List V
 | .agg [_]=>[.undef]
 | v=>v.cells
def keysOf (Z:Sg) (fk fv:List Nat):V -> Option (List (List V))
 | .fn f [] [.ref b 0]=>match Z[b]?,GC f fk,GC f fv with
  | some (.cells _ [.mp m] _),true,_=>match Z[m]? with
   | some (.map es)=>some (es.map fun e=>rowOf e.1)
   | _=>none
  | some (.cells _ [.imp _ es] _),true,_=>some (es.map fun e=>rowOf e.1)
  | some (.cells _ [.aD] _),_,true=>some []
  | some (.cells _ [.bS _ xs _] _),_,true=>some xs
  | some (.cells _ [.sl c off len _] _),_,true=>match Z[c]? with
   | some (.cells _ cs _)=>match Nat.ble (off + len) cs.length with
    | true=>some (((cs.drop off).take len).map fun v=>[v])
    | false=>none
   | _=>none
  | _,_,_=>none
 | _=>none
def allRows (p:List V -> Bool):List (List V) -> Bool
 | []=>true
 | r :: l=>match p r with
  | true=>allRows p l
  | false=>false
def kF:List V -> Bool
 | [.str s]=>Nat.ble s.length 9223372036854775807
 | _=>false
def kY:List V -> Bool
 | [.bool _,.str s]=>Nat.ble s.length 9223372036854775807
 | _=>false
def pQ (t:Nat) (fk fv:List Nat) (ok:List V -> Bool) (lt:List V -> List V -> Bool) (x:V) (Z:Sg):Option (V × Sg):=
 match keysOf Z fk fv x with
 | some []=>some (.aD,Z)
 | some l=>match allRows ok l,Nat.ble l.length 1000000 with
  | true,true=>some (.sl Z.length 0 l.length none,Z ++ [.cells t (kL lt l).flatten false])
  | _,_=>none
 | none=>none
def rX (t:Nat) (fk fv:List Nat):List V -> Sg -> Option (V × Sg)
 | [x],Z=>pQ t fk fv kF strLt x Z
 | _,_=>none
def kZ (t:Nat) (fk fv:List Nat) (cmp:Nat):List V -> Sg -> Option (V × Sg)
 | [x,.fn f [] []],Z=>match Nat.beq f cmp with
  | true=>pQ t fk fv kY qR x Z
  | false=>none
 | _,_=>none
def Kj (t:Nat):List V -> Sg -> Option (V × Sg)
 | [.int .i64 n],Z=>if 0 <= n /\ n <= 1099511627776 then some (.sl Z.length 0 n.toNat none,Z ++ [.cells t [] false]) else none
 | _,_=>none
def Bf:List V -> Sg -> Option (V × Sg)
 | [x],Z=>some (x,Z)
 | _,_=>none
def jD (x y:V):Option Bool:=match x,y with
 | .str a,.str b=>some (seq a b)
 | _,_=>none
def kW (es:List (V × V)):List (V × V) -> Option (List (V × V))
 | []=>some es
 | (k,v) :: r=>match jY jD k v es with
  | some es=>kW es r
  | none=>none
def Fq (es:List (V × V)):Bool:=es.all fun e=>(match e.1 with | .str _=>true | _=>false) && plainCell e.2
def Kk:List V -> Sg -> Option (V × Sg)
 | [.mp b,y],Z=>match Z[b]?,entriesOf Z y with
  | some (.map es),some es'=>match Fq es && Fq es',(match y with | .mp b'=>!(Nat.beq b b') | _=>true),kW es es' with
   | true,true,some l=>some (.gB [],Z.set b (.map l) ++ [.dead])
   | _,_,_=>none
  | _,_=>none
 | _,_=>none
def mem (s:List Nat):List (List Nat) -> Bool
 | []=>false
 | a :: r=>match seq a s with
  | true=>true
  | false=>mem s r
def mR:List (List V) -> List (List Nat)
 | [.str s] :: r=>s :: mR r
 | _=>[]
def iI:V -> List (List Nat)
 | .bS _ xs _=>mR xs
 | _=>[]
def bX (es:List (V × V)) (s:List Nat):List (List Nat):=
 match es with
 | (.str k,v) :: r=>match seq k s with
  | true=>iI v
  | false=>bX r s
 | (_,_) :: r=>bX r s
 | []=>[]
def Es (l m:List (List Nat)):Bool:=
 match l with
 | []=>false
 | a :: r=>match mem a m with
  | true=>true
  | false=>Es r m
def vI (m:List (List Nat)):List (V × V) -> List (List Nat)
 | []=>[]
 | (.str k,v) :: r=>match Es (iI v) m with
  | true=>k :: vI m r
  | false=>vI m r
 | _ :: r=>vI m r
def dM (es:List (V × V)):Nat -> List (List Nat) -> List (List (List Nat))
 | 0,m=>[m]
 | n + 1,m=>m :: dM es n (vI m es)
def fN (s:List Nat):List (List (List Nat)) -> Option Nat
 | []=>none
 | m :: r=>match mem s m with
  | true=>some 0
  | false=>match fN s r with
   | some k=>some (k + 1)
   | none=>none
def iL (L:List (List (List Nat))):List (List Nat) -> Option Nat
 | []=>none
 | a :: r=>match fN a L,iL L r with
  | some d,some e=>match Nat.blt e d with
   | true=>some e
   | false=>some d
  | some d,none=>some d
  | none,e=>e
def stepOf (L:List (List (List Nat))) (b:Nat):List (List Nat) -> Option (List Nat)
 | []=>none
 | a :: r=>match fN a L with
  | some d=>match Nat.beq d b with
   | true=>some a
   | false=>stepOf L b r
  | none=>stepOf L b r
def s_ (es:List (V × V)) (L:List (List (List Nat))) (at_:List Nat):Nat -> List (List Nat)
 | 0=>[]
 | b + 1=>match stepOf L (b + 1) (bX es at_) with
  | some nx=>nx :: s_ es L nx b
  | none=>[]
def uI:List (List V) -> Bool
 | []=>true
 | [.str _] :: r=>uI r
 | _=>false
def nN:List (V × V) -> Bool
 | []=>true
 | (.str _,.bS _ xs _) :: r=>match uI xs && Nat.ble xs.length 1000000 with
  | true=>nN r
  | false=>false
 | (.str _,.aD) :: r=>nN r
 | _=>false
def gJ:List (V × V) -> Bool
 | []=>true
 | (.str k,_) :: r=>match hasKey k r with
  | true=>false
  | false=>gJ r
 | _=>false
where hasKey (k:List Nat):List (V × V) -> Bool
 | []=>false
 | (.str k',_) :: r=>match seq k' k with
  | true=>true
  | false=>hasKey k r
 | _ :: r=>hasKey k r
def nO (es:List (V × V)) (f:List Nat):V:=
 let L:=dM es es.length [f]
 match iL L (bX es f) with
 | none=>.aD
 | some b=>.bS false ((f :: s_ es L f b).map fun s=>[.str s]) (Nat.beq b 0)
def oH:List V -> Option V
 | [.imp _ es,.str f]=>match nN es,gJ es,Nat.ble es.length 1000000 with
  | true,true,true=>some (nO es f)
  | _,_,_=>none
 | _=>none
structure Alike (E E':Env):Prop where
 ty:E.ty = E'.ty
 gl:E.gl = E'.gl
theorem Alike.symm {E E':Env} (h:Alike E E'):Alike E' E:=⟨h.ty.symm,h.gl.symm⟩
theorem SR.alike {E E':Env} (h:Alike E E') {c:Cx} (hs:SR E c):SR E' c where
 inj:=hs.inj
 obj:=fun b o hb=>by
  have:=hs.obj b o hb
  cases o with
  | dead=>exact True.intro
  | cells t cs ex=>simpa only [uG,<- h.ty] using this
  | map es=>exact this
  | HS s pos=>exact this
  | rP left cur=>exact this
 nI:=hs.nI
 iN:=hs.iN
 gl:=by rw [<- h.gl]; exact hs.gl
theorem kD.alike {E E':Env} (h:Alike E E') {c:Cx} {v:V} {Z:Sg} {x:Value} {w:World} (hb:kD E c v Z x w):kD E' c v Z x w:=by
 obtain ⟨c',h1,h2,h3,h4,h5⟩:=hb
 exact ⟨c',h1,h2,h3,h4.alike h,h5⟩
theorem fZ.alike {P:Program} {E E':Env} (h:Alike E E') {f:Nat} {s:List V -> Option V} (hs:fZ P E f s):fZ P E' f s:=
 fun d vs xs v hd hr hv he=>(hs d vs xs v hd (hr.alike h.symm) hv he).mono fun _ _ hb=>hb.alike h
theorem gU.alike {P:Program} {E E':Env} (h:Alike E E') {f:Nat} {s:List V -> Sg -> Option (V × Sg)} (hs:gU P E f s):gU P E' f s:=
 fun c vs xs v σ' hr hv he=>(hs c vs xs v σ' (hr.alike h.symm) hv he).mono fun _ _ hb=>hb.alike h
theorem cU.alike {P:Program} {E E':Env} (h:Alike E E') (h1:E.eqs = E'.eqs) (h2:E.C4 = E'.C4) (he:cU P E):cU P E':=
 ⟨by rw [<- h.ty]; exact he.ty,by rw [<- h1]; exact he.eqs,by rw [<- h2]; exact he.C4⟩
def bI (t:List (List V × V)) (args:List V):Option V:=
 match t with
 | []=>none
 | (a,r) :: t=>match q_ (sO 12) a args with
  | true=>some r
  | false=>bI t args
theorem HI:∀ {a b:List V},q_ (sO 12) a b = true -> a = b
 | [],[],_=>rfl
 | x :: a,y :: b,h=>by
  simp only [q_,Z3] at h
  rw [EG 12 h.1,HI h.2]
 | [],_ :: _,h=>by cases h
 | _ :: _,[],h=>by cases h
def kT (E:Env) (f:Nat) (t:List (List V × V)):Prop:=∀ e ∈ t,∃ n,Ax.call E n f e.1 = some e.2
theorem kT.nil {E:Env} {f:Nat}:kT E f []:=fun _ h=>by cases h
theorem kT.cons {E:Env} {f:Nat} {a:List V} {r:V} {t:List (List V × V)} (n:Nat) (h:Ax.call E n f a = some r) (ht:kT E f t):kT E f ((a,r) :: t):=fun e he=>by
 rcases By.1 he with rfl | he
 ·exact ⟨n,h⟩
 ·exact ht e he
theorem kT.append {E:Env} {f:Nat} {t t':List (List V × V)} (h:kT E f t) (h':kT E f t'):kT E f (t ++ t'):=fun e he=>by
 rcases aa.1 he with he | he
 ·exact h e he
 ·exact h' e he
def jK (E:Env) (f:Nat):List (List V × V) -> Bool
 | []=>true
 | e :: t=>match Ax.call E 100000 f e.1 with
  | some v=>match sO 12 v e.2 with
   | true=>jK E f t
   | false=>false
  | none=>false
theorem JS {E:Env} {f:Nat}:∀ {t:List (List V × V)},jK E f t = true -> kT E f t
 | [],_=>.nil
 | e :: t,h=>by
  unfold jK at h
  split at h
  case h_2=>cases h
  rename_i v hc
  split at h
  case h_2=>cases h
  rename_i hv
  exact .cons 100000 (by rw [hc,EG 12 hv]) (JS h)
def BT.put {α:Type} (n:Nat) (a:α):BT α -> BT α
 | .nil=>.leaf n a
 | .leaf k b=>match Nat.beq n k with
  | true=>.leaf n a
  | false=>match Nat.blt n k with
   | true=>.node k (.leaf n a) (.leaf k b)
   | false=>.node n (.leaf k b) (.leaf n a)
 | .node k l r=>match Nat.blt n k with
  | true=>.node k (BT.put n a l) r
  | false=>.node k l (BT.put n a r)
theorem BT.EY {α:Type} {p:Nat -> α -> Prop} {n:Nat} {a:α} (ha:p n a):∀ {t:BT α},t.yR p -> (t.put n a).yR p
 | .nil,_=>ha
 | .leaf k b,ht=>by
  unfold BT.put
  split
  ·exact ha
  ·split
   ·exact ⟨ha,ht⟩
   ·exact ⟨ht,ha⟩
 | .node k l r,ht=>by
  unfold BT.put
  split
  ·exact ⟨BT.EY ha ht.1,ht.2⟩
  ·exact ⟨ht.1,BT.EY ha ht.2⟩
theorem Db {t:List (List V × V)} {args:List V} {r:V} (h:bI t args = some r):(args,r) ∈ t:=by
 induction t with
 | nil=>cases h
 | cons e t ih=>
  simp only [bI] at h
  split at h
  ·rename_i hb
   injection h with h; subst h
   rw [<- HI hb]
   exact IN ..
  ·exact OF _ (ih h)
theorem P6 {P:Program} {E:Env} (he:cU P E) (hfs:nJ P E) (hmix:P.follows .mixedOrders = true) {f:Nat} {F:Fn} (hF:E.fn f = some F) {t:List (List V × V)} (h:kT E f t):fZ P E f (bI t):=by
 intro d vs xs v hd hs hv hm
 obtain ⟨n,hc⟩:=h _ (Db hm)
 obtain ⟨fn,f1,f2,f3,f4,f5⟩:=hfs.fn f F hF
 have hcall:(callFunc f xs.toArray).run P d.w = .ok (.enter f xs.toArray) d.w:=by
  have f5':¬ fn.name = "runtime.NumGoroutine" := by simpa using f5
  simp [callFunc,f1,f5',f2]
 refine .inl ⟨hcall,(CO he hfs hmix hc hd hs hv).mono ?_⟩
 rintro e w' ⟨x,d',rfl,rfl,h1,h2,h3,h4⟩
 exact ⟨x,rfl,d',rfl,h1,h2,h3,h4⟩
structure Ground (P:Program) where
 ty:BT Ty
 fn:BT Ax.Fn
 mode:BT Ax.Mode
 hspec:BT (List V -> Sg -> Option (V × Sg))
 eqs:BT (List Kd)
 gl:Nat -> Option (Obj -> Prop)
 C4:Nat -> Bool
def Ground.env {P:Program} (G:Ground P) (spec:BT (List V -> Option V)):Env:=GG G.ty G.fn G.mode spec G.hspec G.eqs G.gl G.C4
theorem Ground.alike {P:Program} (G:Ground P) (s s':BT (List V -> Option V)):Alike (G.env s) (G.env s'):=⟨rfl,rfl⟩
structure l_ {P:Program} (G:Ground P):Prop where
 ty:G.ty.yR (vA P)
 fn:G.fn.yR (Jl P)
 eqs:G.eqs.yR (iV P)
 C4:∀ t,G.C4 t = true -> liesAt P P.depth t 1 0 t 1 = true
 hspec:G.hspec.yR (gU P (G.env .nil))
theorem BT.yR.imp {α:Type} {p q:Nat -> α -> Prop} (h:∀ n a,p n a -> q n a):∀ {t:BT α},t.yR p -> t.yR q
 | .nil,_=>trivial
 | .leaf k a,ht=>h k a ht
 | .node _ l r,ht=>⟨BT.yR.imp h ht.1,BT.yR.imp h ht.2⟩
theorem l_.Og {P:Program} {G:Ground P} (h:l_ G) (s:BT (List V -> Option V)):cU P (G.env s):=Ny h.ty h.eqs h.C4
theorem l_.Od {P:Program} {G:Ground P} (h:l_ G) {s:BT (List V -> Option V)} (hs:s.yR (fZ P (G.env .nil))):nJ P (G.env s):=
 Lj h.fn (hs.imp fun _ _ k=>k.alike (G.alike _ _)) (h.hspec.imp fun _ _ k=>k.alike (G.alike _ _))
theorem l_.memo {P:Program} {G:Ground P} (h:l_ G) {s:BT (List V -> Option V)} (hs:s.yR (fZ P (G.env .nil))) (hmix:P.follows .mixedOrders = true) {f:Nat} {F:Fn} (hF:G.fn.get f = some F)
  {t:List (List V × V)} (ht:kT (G.env s) f t):fZ P (G.env .nil) f (bI t):=
 (P6 (h.Og s) (h.Od hs) hmix hF ht).alike (G.alike _ _)
end Go.Ax
end
section
namespace Go.Proofs.YtmhchflckonklaaGreatDoor
open Go Go.Ax Go.ChangeShapes Go.WideShapes Go.ChangeAt Go.RowKit
set_option maxRecDepth 100000 in
theorem Xp {W:World} (h:W.ShapedOpen Tryz.prog):∃ m t fr,W.heap[0]? = some (.cells #[.int .i64 m] t fr):=by
 have hr:((begin Tryz.prog (fun _ _=>0) default).world.heap[0]?).bind Obj.row? = some (#[.int .i64 0],3):=by kernel_rfl
 have hg:0 < Tryz.prog.globals.size:=bf (by kernel_rfl)
 obtain ⟨cs,hc,hs,hok⟩:=h.1 0 _ _ hg hr
 obtain ⟨ts,h1,_,h3⟩:=hok (by kernel_rfl)
 have e1:Tryz.prog.cellTypes Tryz.prog.depth 3 = some [3]:=by kernel_rfl
 rw [e1] at h1
 have h1:=au h1
 subst h1
 have hs':cs.size = 1:=hs
 obtain ⟨v,rfl⟩:∃ v,cs = #[v]:=by
  obtain ⟨l⟩:=cs
  match l,hs' with
  | [v],_=>exact ⟨v,rfl⟩
 obtain ⟨u,hu,hv⟩:=h3 0 v rfl
 have hu:u = 3:=(au hu).symm
 subst hu
 have e2:Tryz.prog.underlying 3 = some (.int .i64):=Tryz.underlying3
 have hv':(match v with
  | .int k' n=>k' = IntKind.i64 /\ IntKind.has .i64 n
  | _=>False):=by
  unfold Cell.ok at hv
  rw [e2] at hv
  cases v <;> first | exact hv | exact hv.elim
 cases v with
 | int k n=>
  obtain ⟨rfl,_⟩:=hv'
  exact ⟨n,3,_,hc⟩
 | _=>exact hv'.elim
def vD (W:World):Cx:=⟨W,[],fun _=>0,fun _=>0,fun _=>0,fun k=>k < W.heap.size⟩
theorem Sw {W:World} (h:W.ShapedOpen Tryz.prog) {E:Env} (hE:E.gl = Eb):SR E (vD W) where
 inj:=fun b b' ⟨o,ho,_⟩=>by cases ho
 obj:=fun b o ho=>by cases ho
 nI:=fun b ⟨o,ho,_⟩=>by cases ho
 iN:=fun k hk=>hk
 gl:=fun k p hk=>by
  rw [hE] at hk
  obtain ⟨m,t,fr,h0⟩:=Xp h
  cases k with
  | zero=>
   have hk:some (fun o=>∃ m t fr,o = Obj.cells #[.int .i64 m] t fr) = some p:=hk
   have hk:=au hk
   subst hk
   exact ⟨_,h0,⟨m,t,fr,rfl⟩,fun ⟨b,⟨o,ho,_⟩,_⟩=>by cases ho⟩
  | succ k=>cases hk
theorem Pr (W:World) (k:Nat) (hk:k < W.heap.size):(vD W).bD true k:=⟨hk,fun ⟨b,⟨o,ho,_⟩,_⟩=>(by cases ho),fun h=>(by cases h)⟩
set_option maxRecDepth 100000 in
theorem handed {H:Type} {enc:TypeId × Value -> H} {os:Os} {f:FuncId} {fn:Func} {s:ChangeSpec} {X:World -> Array Value -> Prop}
  (hX:∀ (w w':World) (args:Array Value),w.heap = w'.heap -> X w args -> X w' args)
  (own:ownKnob Tryz.checked.prog.godebug = none) (started:os.Started) (noInit:Tryz.checked.prog.inits.idxOf? f = none) (hfn:Tryz.checked.prog.funcs[f]? = some fn)
  (witness:∃ (w:World) (tape:Tape) (i:Input),w.os = os /\ (w.forCall tape i).Shaped Tryz.checked.prog /\ i.vars = [] /\ Input.okWide Tryz.checked.prog (w.forCall tape i) .any w.heap.size f i /\
   ((s.pre enc Tryz.checked.prog fn [] false (w.forCall tape i).memory i.args /\ X (w.forCall tape i).memory i.args) /\ sizedMet enc Tryz.checked.prog fn (OpenSpec.ofChange s) false (w.forCall tape i).memory i.args) /\ ({}:Assume).holds Tryz.checked.prog (lone (Frame.enter Tryz.checked.prog f i.args .normal) [] (w.forCall tape i)))
  (contract:∀ (W:World) (base:Nat) (args:Array Value) (ds gs:List (DataW H)) (before:List MemPlace),W.ShapedOpen Tryz.checked.prog ->
   (∀ (j:Nat) t v,fn.params[j]? = some t -> args[j]? = some v -> Value.okWide Tryz.checked.prog W .any base t v) ->
   DataW.Whole enc Tryz.checked.prog fn.params.toList s.vars false W args.toList ds gs before ->
   (DataW.weightsEach Tryz.checked.prog (fn.params.toList ++ s.plain.varTypes Tryz.checked.prog) (ds ++ gs)).all (· <= reachBytes) = true -> args.size = fn.params.size ->
   Calls Tryz.checked.prog f args W fun e W'=>∃ v,e = .returned v /\ s.post enc Tryz.checked.prog fn false true false false W args v W') :
  ReturnsInHanded {} Tryz.checked os f .any (fun w args=>(s.pre enc Tryz.checked.prog fn [] false w args /\ X w args) /\ sizedMet enc Tryz.checked.prog fn (OpenSpec.ofChange s) false w args) (s.post enc Tryz.checked.prog fn false true false false):=by
 refine returnsInHanded_of_calls own started noInit witness ?_
 intro w tape i _ hsh _ hok hpre hholds
 obtain ⟨_,_,_,fn',hfn',_,_,_,hsz,hval⟩:=hok
 have e:fn' = fn:=au (hfn'.symm.trans hfn)
 subst e
 obtain ⟨⟨⟨ds,gs,before,hw,hc⟩,hx⟩,hz⟩:=hpre
 have hw':=DataW.Whole.of_heap (w':=w.forCall tape i) (by rfl) hw
 refine (contract (w.forCall tape i) w.heap.size i.args ds gs before hsh hval hw' (hz.weights hw) hsz).mono fun e W' ⟨v,he,hp⟩=>?_
 subst he
 exact ChangeSpec.post_blind hp
theorem own:ownKnob Tryz.prog.godebug = none:=by kernel_rfl
theorem laidOut:laidOutB Tryz.prog = true:=by kernel_rfl
def laid:List (String × DataW Unit):=Rows.trailCutRow.laid
set_option maxRecDepth 100000 in
theorem IL (w:World) (h:laidMet Tryz.prog laid w):laidMetH Tryz.prog laid w:=by
 rw [MakeChecks.laidMetH_plain _ _ _ (by kernel_rfl)]; exact h
set_option maxRecDepth 100000 in
theorem Lr (os:Os):(World.holding Tryz.prog os ⟨#[],#[],[]⟩).layFits Tryz.prog laid [] = true:=by kernel_rfl
set_option maxRecDepth 100000 in
theorem GO (os:Os):(World.holding Tryz.prog os ⟨#[],#[],[]⟩).layIfaces Tryz.prog laid (World.laidAll Tryz.prog os laid) = true:=by kernel_rfl
theorem NU (os:Os) (args:Array Value):laidMetH Tryz.prog laid ((World.laidAll Tryz.prog os laid).forCall (fun _ _=>0) ⟨#[],args,[]⟩).memory:=
 IL _ (laidMet_laidAll _ (Lr os) (GO os))
end Go.Proofs.YtmhchflckonklaaGreatDoor
end
section
namespace Go.Ax
open Go
section
def nB (d:TypeDesc):Kd -> Prop
 | .bool=>d = .bool
 | .int k=>d = .int k
 | .str=>d = .string
 | _=>False
inductive rC (P:Program):Nat -> List Field -> List Kd -> Prop
 | nil (n:Nat):rC P n [] []
 | cons (n:Nat) (f:Field) (fs:List Field) (k:Kd) (sh:List Kd) (d:TypeDesc) (h1:f.name ≠ "_") (h2:f.offset = n) (h3:P.underlying f.type = some d) (h4:nB d k) (hr:rC P (n + 1) fs sh):rC P n (f :: fs) (k :: sh)
section
variable {P:Program}
theorem fG {t:Nat} {d:TypeDesc} {k:Kd} (h:P.underlying t = some d) (hk:nB d k) {xs:Array Value} {n:Nat} {v:Value} (hx:xs[n]? = some v) (w:World):(Go.part t xs n).run P w = .ok v w:=by
 have:(Go.isAgg t).run P w = .ok false w:=by
  simp only [Go.isAgg,Sem.run_bind,run_underlying h,Result.andThen_ok]
  cases k <;> simp only [nB] at hk <;> first
   | (subst hk; rfl)
   | exact hk.elim
 simp [Go.part,this,hx]
theorem drop_cons {xs:Array Value} {n:Nat} {x:Value} {l:List Value} (h:xs.toList.drop n = x :: l):xs[n]? = some x /\ xs.toList.drop (n + 1) = l:=by
 constructor
 ·have:(xs.toList.drop n)[0]? = some x:=by rw [h]; rfl
  simpa using this
 ·have:=ZL List.tail h
  simpa using this
theorem CF (d:Nat) {xs ys:Array Value}:∀ {fs:List Field} {sh:List Kd} {n:Nat} {as1 bs:List V} {b:Bool} {l m:List Value},rC P n fs sh -> xs.toList.drop n = l -> ys.toList.drop n = m -> Sc sh as1 l -> Sc sh bs m -> eqs sh as1 bs = some b ->
  ∀ w,(Op.eqFields (d + 1) xs ys fs).run P w = .ok b w:=by
 intro fs
 induction fs with
 | nil=>
  intro sh n as1 bs b l m hf hx hy ha hb h w
  cases hf
  cases ha; cases hb
  simp only [eqs] at h
  injection h with h; subst h
  simp [Op.eqFields]
 | cons f fs ih=>
  intro sh n as1 bs b l m hf hx hy ha hb h w
  cases hf with | cons _ _ _ k sh' dd h1 h2 h3 h4 hr=>
  cases ha with
  | bool x sh'' vs l' ha=>
   cases hb with | bool y _ us m' hb=>
   obtain ⟨x1,x2⟩:=drop_cons hx
   obtain ⟨y1,y2⟩:=drop_cons hy
   simp only [eqs] at h
   split at h
   case h_2=>cases h
   rename_i q hq
   injection h with h; subst h
   have hrest:=ih hr x2 y2 ha hb hq w
   simp only [nB] at h4; subst h4
   subst h2
   simp only [Op.eqFields,ne_eq,h1,ju,ZP,Sem.run_bind,fG (k:=.bool) h3 rfl x1,fG (k:=.bool) h3 rfl y1,Result.andThen_ok,run_equalIn_bool' w d _ x y h3]
   cases hxy:(x == y)
   ·simp
   ·simpa using hrest
  | int k1 x sh'' vs l' ha=>
   cases hb with | int _ y _ us m' hb=>
   obtain ⟨x1,x2⟩:=drop_cons hx
   obtain ⟨y1,y2⟩:=drop_cons hy
   simp only [eqs] at h
   simp only [Z5,ZP] at h
   split at h
   case h_2=>cases h
   rename_i q hq
   injection h with h; subst h
   have hrest:=ih hr x2 y2 ha hb hq w
   simp only [nB] at h4; subst h4
   subst h2
   simp only [Op.eqFields,ne_eq,h1,ju,ZP,Sem.run_bind,fG (k:=.int k1) h3 rfl x1,fG (k:=.int k1) h3 rfl y1,Result.andThen_ok,run_equalIn_int w d _ k1 k1 x y h3]
   by_cases hxy:x = y
   ·simpa [hxy] using hrest
   ·simp [hxy]
  | str x sh'' vs l' ha=>
   cases hb with | str y _ us m' hb=>
   obtain ⟨x1,x2⟩:=drop_cons hx
   obtain ⟨y1,y2⟩:=drop_cons hy
   simp only [eqs] at h
   split at h
   case h_2=>cases h
   rename_i q hq
   injection h with h; subst h
   have hrest:=ih hr x2 y2 ha hb hq w
   simp only [nB] at h4; subst h4
   subst h2
   simp only [Op.eqFields,ne_eq,h1,ju,ZP,Sem.run_bind,fG (k:=.str) h3 rfl x1,fG (k:=.str) h3 rfl y1,Result.andThen_ok,run_equalIn_string w d _ x y h3]
   rw [yZ]
   cases hxy:(x.toList == y.toList)
   ·simp
   ·simpa using hrest
theorem A4 {t:Nat} {d:TypeDesc} {k:Kd} (h:P.underlying t = some d) (hk:nB d k) (e:Bool) (n:Nat) (v:Value) (w:World):(Instr.checkKey e (n + 1) t v).run P w = .ok () w:=by
 simp only [Instr.checkKey,Sem.run_bind,run_underlying h,Result.andThen_ok]
 cases k <;> simp only [nB] at hk <;> first
  | (subst hk; rfl)
  | exact hk.elim
theorem AV (e:Bool) (d:Nat) {xs:Array Value}:∀ {fs:List Field} {sh:List Kd} {n:Nat} {as1:List V} {l:List Value},rC P n fs sh -> xs.toList.drop n = l -> Sc sh as1 l ->
  ∀ w,(forIn fs PUnit.unit fun (f:Field) (_:PUnit)=>(do
   if f.name ≠ "_" then Instr.checkKey e (d + 1) f.type (<- Go.part f.type xs f.offset)
   pure (ForInStep.yield PUnit.unit):Sem (ForInStep PUnit))).run P w = .ok PUnit.unit w:=by
 intro fs
 induction fs with
 | nil=>intro sh n as1 l _ _ _ w; simp
 | cons f fs ih=>
  intro sh n as1 l hf hx ha w
  cases hf with | cons _ _ _ k sh' dd h1 h2 h3 h4 hr=>
  have go:∀ {x:Value} {l':List Value} {vs:List V},xs.toList.drop n = x :: l' -> Sc sh' vs l' -> (forIn (f :: fs) PUnit.unit fun (f:Field) (_:PUnit)=>(do
   if f.name ≠ "_" then Instr.checkKey e (d + 1) f.type (<- Go.part f.type xs f.offset)
   pure (ForInStep.yield PUnit.unit):Sem (ForInStep PUnit))).run P w = .ok PUnit.unit w:=by
   intro x l' vs hx ha
   obtain ⟨x1,x2⟩:=drop_cons hx
   have hrest:=ih hr x2 ha w
   rw [<- h2] at x1
   simp only [List.forIn_cons,ne_eq,h1,ju,ZP,Sem.run_bind,fG h3 h4 x1,Result.andThen_ok,A4 h3 h4,Sem.run_pure]
   exact hrest
  cases ha with
  | bool x _ vs l' ha=>exact go hx ha
  | int k1 x _ vs l' ha=>exact go hx ha
  | str x _ vs l' ha=>exact go hx ha
theorem iV.of {t:Nat} {fs:Array Field} {sh:List Kd} (h1:P.underlying t = some (.struct fs)) (h2:P.stoodInHeld t = false) (h3:P.eqGuardType P.depth t = false) (h4:rC P 0 fs.toList sh):iV P t sh:=by
 have hfo:P.fieldsOf t = fs:=by simp [Program.fieldsOf,h1]
 refine ⟨fun w as1 bs xs ys b he ha hb=>?_,fun w op x y xs ys as1 bs _ _=>run_eqGuard_agg w op t x y _ _ h3,fun w e as1 xs ha=>?_,⟨fs,h1⟩⟩
 ·show (Op.equalIn (9999 + 1) t _ _).run P w = _
  rw [run_equalIn_agg w 9999 t _ _ (by rw [hfo]; exact h1) h2,hfo]
  exact CF 9998 h4 (by simp) (by simp) ha hb he w
 ·show (Instr.checkKey e (9998 + 1 + 1) t _).run P w = _
  unfold Instr.checkKey
  simp only [Sem.run_bind,run_underlying h1,Result.andThen_ok]
  rw [<- Array.forIn_toList]
  have:=AV (P:=P) e 9998 (xs:=xs.toArray) h4 (n:=0) (l:=xs) (by simp) ha w
  exact ZL (fun r:Result PUnit=>r.andThen fun _ w'=>(pure ():Sem Unit).run P w') this
end
end
end Go.Ax
end
