/- Part 18 of the proof. -/
import Derived.Test.YtlbbdpkjeeiahaaGreatDoorZ17
import Derived.Test.YtlbbdpkjeeiahaaGreatDoorZ3
import Derived.Test.YtlbbdpkjeeiahaaGreatDoorZ15
set_option maxHeartbeats 8000000
set_option linter.unusedVariables false
set_option maxRecDepth 10000
open Nat (reduceEqDiff reduceLT reduceLeDiff reduceAdd reduceMul)
open List (getElem?_set_ne getElem?_set_self flatten_cons mem_cons_self getElem?_append_right mem_cons_of_mem take_of_length_le mem_of_getElem? length_cons length_nil mem_cons length_map drop_zero length_append length_take take_add_one nodup_nil find?_cons find?_eq_none mem_map map_map map_cons nodup_cons mem_append nodup_append mem_singleton map_append find?_some map_nil append_nil append_assoc mem_filter)
section
namespace Go.Proofs.YtlbbdpkjeeiahaaGreatDoor
open Go Go.Ax Go.AxS
section
section
variable {E:Env} {Z:Sg} {K:V -> Sg -> Prop}
theorem lC {α:Type} {L:Lay α} {t:Nat} {Y:Sg} {w:V} {l:List α} (ow:bH L t Y w l):w.aW = true /\ w.cells = [w]:=by
 rcases ow with ⟨rfl,-⟩ | ⟨b,rs,ex,rfl,-⟩ <;> exact ⟨rfl,rfl⟩
theorem tU {α:Type} {L:Lay α} {t:Nat} {Y:Sg} {w:V} {l:List α} {y:O} (ow:bH L t Y w l) (h:∀ b,aT w = some b -> 2 <= b):bH L t (Y.set 0 y) w l:=ow.keep fun c o hc ho=>by
 rw [getElem?_set_ne (by have:=h c hc; omega)]; exact ho
theorem sP {α:Type} {L:Lay α} {t:Nat} {Y:Sg} {w:V} {l:List α} {b:Nat} (ow:bH L t Y w l) (h:aT w = some b):b < Y.length:=by
 rcases ow with ⟨rfl,-⟩ | ⟨b',rs,ex,rfl,hb,-⟩
 ·cases h
 ·cases h
  exact (List.getElem?_eq_some_iff.1 hb).1
theorem Ez {Y τ':Sg} (h:Kp Y τ'):Y.length <= τ'.length:=by
 refine Nat.le_of_not_lt fun hlt=>?_
 obtain ⟨o,ho⟩:∃ o,Y[τ'.length]? = some o:=⟨_,List.getElem?_eq_getElem hlt⟩
 exact absurd (List.getElem?_eq_some_iff.1 (h _ _ ho)).1 (Nat.lt_irrefl _)
theorem XC (h:bM E) (h':x_ E) {x:aF} {a b c d:V} (ia:IS aJ a x.ins) (ib:IS aJ b x.outs) (ic:IS aJ c x.after) (id:IS eV d x.steps) (hs:Small x) (F:FT) (g1:F.get 1 = .ref 0 0) {st:List kY} {Q:Ax.X -> Fr -> Sg -> Prop}
  (hk:∀ F' Y w1 w2 w3 w4,F'.get 1 = .ref 0 0 -> F'.get 2 = F.get 2 -> Y[0]? = some (O.cells 37 [.str x.name,w1,w2,w3,w4] true) -> Y[1]? = some (O.cells 37 [.str [],.aC,.aC,.aC,.aC] true) -> bH aJ 9 Y w1 x.ins -> bH aJ 9 Y w2 x.outs -> bH aJ 9 Y w3 x.after -> bH eV 75 Y w4 x.steps -> (∀ b,aT w4 = some b -> 2 <= b /\ aT w1 ≠ some b /\ aT w2 ≠ some b /\ aT w3 ≠ some b) -> M E st .normal ⟨52,F'⟩ Y Q) :
  R E (.region 1 (opsOf (cutAt [1,0] (aA Tryz.f70).code)) true) st ⟨52,F⟩ [O.cells 37 [.str x.name,a,b,c,d] true,O.cells 37 [.str [],.aC,.aC,.aC,.aC] true] Q:=by
 have l1:=hs.ins
 have l2:=hs.outs
 have l3:=hs.after
 have l4:=hs.steps
 obtain ⟨n1,w1,τ1,⟨ow1,kp1,fr1⟩,c1⟩:=aB.up (pA (Z:=[O.cells 37 [.str x.name,a,b,c,d] true,O.cells 37 [.str [],.aC,.aC,.aC,.aC] true]) h ia (by omega))
 obtain ⟨n2,w2,τ2,⟨ow2,kp2,fr2⟩,c2⟩:=aB.up (pA (Z:=τ1) h ib (by omega))
 obtain ⟨n3,w3,τ3,⟨ow3,kp3,fr3⟩,c3⟩:=aB.up (pA (Z:=τ2) h ic (by omega))
 obtain ⟨n4,w4,τ4,⟨ow4,kp4,fr4⟩,c4⟩:=aB.up (Lh (Z:=τ3) h h' id (by omega))
 have c1:=c1 (n1 + n2 + n3 + n4) (by omega)
 have c2:=c2 (n1 + n2 + n3 + n4) (by omega)
 have c3:=c3 (n1 + n2 + n3 + n4) (by omega)
 have c4:=c4 (n1 + n2 + n3 + n4) (by omega)
 generalize n1 + n2 + n3 + n4 = n at c1 c2 c3 c4
 have k0:∀ Y:Sg,Kp [O.cells 37 [.str x.name,a,b,c,d] true,O.cells 37 [.str [],.aC,.aC,.aC,.aC] true] Y -> Y[0]? = some (O.cells 37 [.str x.name,a,b,c,d] true) /\ Y[1]? = some (O.cells 37 [.str [],.aC,.aC,.aC,.aC] true):=fun Y hk=>⟨hk 0 _ rfl,hk 1 _ rfl⟩
 have q2:Kp [O.cells 37 [.str x.name,a,b,c,d] true,O.cells 37 [.str [],.aC,.aC,.aC,.aC] true] τ2:=fun c o e=>kp2 c o (kp1 c o e)
 have q3:Kp [O.cells 37 [.str x.name,a,b,c,d] true,O.cells 37 [.str [],.aC,.aC,.aC,.aC] true] τ3:=fun c o e=>kp3 c o (q2 c o e)
 have q4:Kp [O.cells 37 [.str x.name,a,b,c,d] true,O.cells 37 [.str [],.aC,.aC,.aC,.aC] true] τ4:=fun c o e=>kp4 c o (q3 c o e)
 obtain ⟨b1,z1⟩:=k0 τ1 kp1
 obtain ⟨b2,z2⟩:=k0 τ2 q2
 obtain ⟨b3,z3⟩:=k0 τ3 q3
 obtain ⟨b4,z4⟩:=k0 τ4 q4
 have hlt4:=(List.getElem?_eq_some_iff.1 b4).1
 have s1:∀ y,(τ4.set 0 y)[0]? = some y:=fun y=>getElem?_set_self hlt4
 obtain ⟨o1,t1⟩:=lC ow1
 obtain ⟨o2,t2⟩:=lC ow2
 obtain ⟨o3,t3⟩:=lC ow3
 obtain ⟨o4,t4⟩:=lC ow4
 have v1:=bY 10 ia
 have v2:=bY 10 ib
 have v3:=bY 10 ic
 have v4:=nO 9 id
 have key:∃ F',cC E (ev E n) (opsOf (cutAt [1,0] (aA Tryz.f70).code)) ⟨52,F⟩ [O.cells 37 [.str x.name,a,b,c,d] true,O.cells 37 [.str [],.aC,.aC,.aC,.aC] true] = some (⟨52,F'⟩,τ4.set 0 (O.cells 37 [.str x.name,w1,w2,w3,w4] true)) /\ F'.get 1 = .ref 0 0 /\ F'.get 2 = F.get 2:=by
  unfold cC
  rw [h'.Tk,h'.UO]
  simp only [aA,Tryz.f70,KP,Ax.loadAt,Ax.storeAt,↓reduceIte,reduceEqDiff,reduceLT,reduceLeDiff,reduceAdd,reduceCtorEq,h.aS,h.fE,h.bE,opsOf,cutAt,gW,bJ,bW,kC,Ax.comp,Ax.last,g_,Ax.again,g1,c1,c2,c3,c4,b1,b2,b3,b4,s1,o1,o2,o3,o4,t1,t2,t3,t4,v2,v3,v4,List.set_set]
  exact ⟨_,rfl,(by simp +decide only [GS,g1,and_self])⟩
 obtain ⟨F',hD,f1,f2⟩:=key
 have n1:=Ez kp1
 have n2:=Ez kp2
 have n3:=Ez kp3
 have n0:([O.cells 37 [.str x.name,a,b,c,d] true,O.cells 37 [.str [],.aC,.aC,.aC,.aC] true]:Sg).length = 2:=rfl
 rw [n0] at n1 fr1
 have k2:∀ b,aT w2 = some b -> 2 <= b:=fun b hb=>by have:=fr2 b hb; omega
 have k3:∀ b,aT w3 = some b -> 2 <= b:=fun b hb=>by have:=fr3 b hb; omega
 have k4:∀ b,aT w4 = some b -> 2 <= b:=fun b hb=>by have:=fr4 b hb; omega
 refine Eq.mpr (iI hD) (hk F' _ w1 w2 w3 w4 f1 f2 (s1 _) (by rw [getElem?_set_ne (by decide)]; exact z4) (tU (ow1.keep fun c o _ hc=>kp4 c o (kp3 c o (kp2 c o hc))) fr1) (tU (ow2.keep fun c o _ hc=>kp4 c o (kp3 c o hc)) k2) (tU (ow3.keep fun c o _ hc=>kp4 c o hc) k3) (tU ow4 k4) fun b hb=>⟨k4 b hb,fun e=>?_,fun e=>?_,fun e=>?_⟩)
 ·have:=fr4 b hb; have:=sP ow1 e; omega
 ·have:=fr4 b hb; have:=sP ow2 e; omega
 ·have:=fr4 b hb; have:=sP ow3 e; omega
end
end
section
section
variable {E:Env} {Z:Sg} {K:V -> Sg -> Prop}
theorem zC {k:Nat} (hk:k < 5):∀ {R:List (List V)} {i:Nat} {r:List V},(∀ x ∈ R,x.length = 5) -> R[i]? = some r -> R.flatten[i * 5 + k]? = r[k]?
 | [],_,_,_,h=>by cases h
 | x :: R,0,r,hx,h=>by
  cases h
  rw [flatten_cons,Nat.zero_mul,Nat.zero_add,List.getElem?_append_left (by rw [hx _ (mem_cons_self ..)]; exact hk)]
 | x :: R,i + 1,r,hx,h=>by
  have hl:=hx _ (mem_cons_self ..)
  rw [flatten_cons,getElem?_append_right (by omega),show (i + 1) * 5 + k - x.length = i * 5 + k by omega]
  exact zC hk (fun y hy=>hx y (mem_cons_of_mem _ hy)) h
theorem DI {k:Nat} {v:V} (hk:k < 5):∀ {R:List (List V)} {i:Nat} {r:List V},(∀ x ∈ R,x.length = 5) -> R[i]? = some r -> setCells R.flatten (i * 5 + k) [v] = (R.set i (r.set k v)).flatten
 | [],_,_,_,h=>by cases h
 | x :: R,0,r,hx,h=>by
  cases h
  have hl:=hx _ (mem_cons_self ..)
  rw [List.set_cons_zero,flatten_cons,flatten_cons,Nat.zero_mul,Nat.zero_add]
  unfold setCells
  rw [List.take_append_of_le_length (by omega),List.drop_append_of_le_length (by rw [List.length_singleton]; omega),List.set_eq_take_append_cons_drop,if_pos (by omega)]
  simp
 | x :: R,i + 1,r,hx,h=>by
  have hl:=hx _ (mem_cons_self ..)
  have ih:=DI (v:=v) hk (fun y hy=>hx y (mem_cons_of_mem _ hy)) h
  rw [List.set_cons_succ,flatten_cons,flatten_cons,<- ih]
  unfold setCells
  rw [List.take_append,take_of_length_le (by omega),show (i + 1) * 5 + k - x.length = i * 5 + k by omega,List.drop_append,List.drop_of_length_le (by omega),show (i + 1) * 5 + k + [v].length - x.length = i * 5 + k + [v].length by omega]
  simp
theorem HJ (h:bM E) {Y:Sg} {b i k:Nat} {R:List (List V)} {r:List V} {v:V} {ex:Bool} (hb:Y[b]? = some (.cells 75 R.flatten ex)) (hx:∀ x ∈ R,x.length = 5) (hr:R[i]? = some r) (hk:k < 5) (hv:r[k]? = some v):loadAt E Y 28 (.ref b (i * 5 + k)) = some v:=by
 unfold Ax.loadAt
 simp only [h.aS,hb,zC hk hx hr,hv,Ax.isAgg]
 rfl
theorem LJ (h:bM E) {Y:Sg} {b i k:Nat} {R:List (List V)} {r:List V} {v:V} {ex:Bool} (hb:Y[b]? = some (.cells 75 R.flatten ex)) (hx:∀ x ∈ R,x.length = 5) (hr:R[i]? = some r) (hk:k < 5) (hc:v.cells = [v]) (ho:v.aW = true):storeAt E Y 28 (.ref b (i * 5 + k)) v = some (Y.set b (.cells 75 (R.set i (r.set k v)).flatten ex)):=by
 unfold Ax.storeAt
 have hl:i * 5 + k + 1 <= R.flatten.length:=by
  have:=zC hk hx hr
  have hrl:=hx r (mem_of_getElem? hr)
  rw [List.getElem?_eq_getElem (show k < r.length by omega)] at this
  have:=(List.getElem?_eq_some_iff.1 this).1
  omega
 simp only [h.aS,hb,hc,length_cons,length_nil,List.all_cons,List.all_nil,ho,decide_eq_true hl,DI hk hx hr]
 rfl
theorem Sm (h:bM E) {b n i:Nat} (hi:i < n):indexAddr E 35 (.sl b 0 n none) (.int .i64 (i:Int)) = some (.ref b (i * 5)):=by
 unfold Ax.indexAddr
 simp only [h.fE,h.cP,show ¬ ((i:Int) < 0) by omega,if_false,Int.toNat_natCast,hi,if_true,Nat.zero_add]
theorem Md {R:List (List V)} {i k:Nat} {r:List V} {v:V} (hx:∀ x ∈ R,x.length = 5) (hr:R[i]? = some r):∀ x ∈ R.set i (r.set k v),x.length = 5:=fun x hm=>by
 rcases List.mem_or_eq_of_mem_set hm with hm | rfl
 ·exact hx x hm
 ·rw [List.length_set]; exact hx r (mem_of_getElem? hr)
theorem XB (h:bM E) (h':x_ E) {x:aF} {w1 w2 w3 p q:V} {s:AxS.Step} {b n i:Nat} {R:List (List V)} {ex:Bool} {Y:Sg} (h0:Y[0]? = some (O.cells 37 [.str x.name,w1,w2,w3,.sl b 0 n none] true)) (hb:Y[b]? = some (.cells 75 R.flatten ex)) (hx:∀ x ∈ R,x.length = 5) (hr:R[i]? = some ([.str s.out,.int .i64 s.op,p,q,.int .i64 s.n])) (hi:i < n) (ip:IS aJ p s.args) (iq:IS aJ q s.lits) (l1:s.args.length <= 8) (l2:s.lits.length <= 3) (hb2:2 <= b)
  (F:FT) (g1:F.get 1 = .ref 0 0) (g3:F.get 3 = .int .i64 (i:Int)) {st:List kY} {Q:Ax.X -> Fr -> Sg -> Prop}
  (hk:∀ F' τ' wp wq,(∀ k,k ∈ [1,2,22,23] -> F'.get k = F.get k) -> τ'[b]? = some (.cells 75 (R.set i ([.str s.out,.int .i64 s.op,wp,wq,.int .i64 s.n])).flatten ex) -> bH aJ 9 τ' wp s.args -> bH aJ 9 τ' wq s.lits -> (∀ (c:Nat) (o:O),Y[c]? = some o -> c ≠ b -> τ'[c]? = some o) -> (∀ c,aT wp = some c -> Y.length <= c) -> (∀ c,aT wq = some c -> Y.length <= c) -> M E st .normal ⟨52,F'⟩ τ' Q) :
  Ax.R E (.region 5 (opsOf (cutAt [1,1,0,1,2,2,1,1,0,2,1] (aA Tryz.f70).code)) true) st ⟨52,F⟩ Y Q:=by
 obtain ⟨n1,wp,τ1,⟨ow1,kp1,fr1⟩,c1⟩:=aB.up (pA (Z:=Y) h ip (by omega))
 obtain ⟨n2,wq,τ2,⟨ow2,kp2,fr2⟩,c2⟩:=aB.up (pA (Z:=τ1) h iq (by omega))
 have c1:=c1 (n1 + n2) (by omega)
 have c2:=c2 (n1 + n2) (by omega)
 generalize n1 + n2 = m at c1 c2
 have h01:=kp1 _ _ h0
 have h02:=kp2 _ _ h01
 have hb1:=kp1 _ _ hb
 have hb2':=kp2 _ _ hb1
 obtain ⟨o1,t1⟩:=lC ow1
 obtain ⟨o2,t2⟩:=lC ow2
 have e1:=Sm h hi (b:=b) (n:=n)
 have f1:=HJ h hb hx hr (k:=2) (by decide) rfl
 have f2:=HJ h hb1 hx hr (k:=3) (by decide) rfl
 have f2'':=HJ h hb hx hr (k:=3) (by decide) rfl
 have s1:=LJ h hb2' hx hr (k:=2) (v:=wp) (by decide) t1 o1
 have hbl:=(List.getElem?_eq_some_iff.1 hb2').1
 have hR:(R.set i ([.str s.out,.int .i64 s.op,wp,q,.int .i64 s.n]))[i]? = some ([.str s.out,.int .i64 s.op,wp,q,.int .i64 s.n]):=getElem?_set_self (List.getElem?_eq_some_iff.1 hr).1
 have s2:=LJ h (Y:=τ2.set b (.cells 75 (R.set i ([.str s.out,.int .i64 s.op,wp,q,.int .i64 s.n])).flatten ex)) (v:=wq) (getElem?_set_self hbl) (Md (k:=2) (v:=wp) hx hr) hR (k:=3) (by decide) t2 o2
 have s1:storeAt E τ2 28 (.ref b (i * 5 + 2)) wp = some (τ2.set b (.cells 75 (R.set i ([.str s.out,.int .i64 s.op,wp,q,.int .i64 s.n])).flatten ex)):=s1
 have s2:storeAt E (τ2.set b (.cells 75 (R.set i ([.str s.out,.int .i64 s.op,wp,q,.int .i64 s.n])).flatten ex)) 28 (.ref b (i * 5 + 3)) wq = some (τ2.set b (.cells 75 (R.set i ([.str s.out,.int .i64 s.op,wp,wq,.int .i64 s.n])).flatten ex)):=by
  rw [s2,List.set_set,List.set_set]
  rfl
 have lw:loadAt E Y 35 (.ref 0 4) = some (.sl b 0 n none):=by unfold Ax.loadAt; simp only [h.fE,h0]; rfl
 have lw1:loadAt E τ1 35 (.ref 0 4) = some (.sl b 0 n none):=by unfold Ax.loadAt; simp only [h.fE,h01]; rfl
 have lw2:loadAt E τ2 35 (.ref 0 4) = some (.sl b 0 n none):=by unfold Ax.loadAt; simp only [h.fE,h02]; rfl
 have lw3:∀ y,loadAt E (τ2.set b y) 35 (.ref 0 4) = some (.sl b 0 n none):=fun y=>by
  have h03:(τ2.set b y)[0]? = some (O.cells 37 [.str x.name,w1,w2,w3,.sl b 0 n none] true):=by rw [getElem?_set_ne (by omega)]; exact h02
  unfold Ax.loadAt; simp only [h.fE,h03]; rfl
 have vq:=bY 10 iq
 have v0:r_ 12 (.sl b 0 n none) (.sl b 0 n none) = true:=by unfold r_; simp
 have key:∃ F',cC E (ev E m) (opsOf (cutAt [1,1,0,1,2,2,1,1,0,2,1] (aA Tryz.f70).code)) ⟨52,F⟩ Y = some (⟨52,F'⟩,τ2.set b (.cells 75 (R.set i ([.str s.out,.int .i64 s.op,wp,wq,.int .i64 s.n])).flatten ex)) /\ (∀ k,k ∈ [1,2,22,23] -> F'.get k = F.get k):=by
  unfold cC
  rw [h'.Tj,h'.UN]
  simp only [aA,Tryz.f70,KP,↓reduceIte,reduceEqDiff,reduceLT,reduceAdd,reduceCtorEq,h.aS,h.fE,h.bE,h.cP,opsOf,cutAt,gW,bJ,bW,kC,Ax.comp,Ax.last,g_,Ax.again,g1,g3,c1,c2,lw,lw1,lw2,lw3,e1,f1,f2,f2'',s1,s2,vq,v0]
  refine ⟨_,rfl,fun k hk=>?_⟩
  simp only [mem_cons,List.not_mem_nil,or_false] at hk
  rcases hk with rfl | rfl | rfl | rfl <;> simp +decide only [GS]
 obtain ⟨F',hD,hF⟩:=key
 have hlen1:=Ez kp1
 have hne:∀ {w:V},(∀ c,aT w = some c -> Y.length <= c) -> aT w ≠ some b:=fun hfr e=>by
  have:=hfr b e
  have:=(List.getElem?_eq_some_iff.1 hb).1
  omega
 have fr2':∀ c,aT wq = some c -> Y.length <= c:=fun c hc=>by have:=fr2 c hc; omega
 refine Eq.mpr (iI hD) (hk F' _ wp wq hF (getElem?_set_self hbl) (bH.set (ow1.keep fun c o _ hc=>kp2 c o hc) (hne fr1)) (bH.set ow2 (hne fr2')) (fun c o hc hcb=>?_) fr1 fr2')
 rw [getElem?_set_ne (Ne.symm hcb)]
 exact kp2 _ _ (kp1 _ _ hc)
end
end
section
section
variable {E:Env} {Z:Sg} {K:V -> Sg -> Prop}
theorem GN {β γ:Type} {P:β -> γ -> Prop}:∀ {a:List β} {b:List γ},eN P a b -> ∀ {j:Nat} {y:γ},b[j]? = some y -> ∃ x,a[j]? = some x /\ P x y
 | _,_,.nil,_,_,h=>by cases h
 | _ :: _,_ :: _,.cons h t,0,_,e=>by cases e; exact ⟨_,rfl,h⟩
 | _ :: _,_ :: _,.cons h t,j + 1,_,e=>by
  obtain ⟨x,h1,h2⟩:=GN t (j:=j) e
  exact ⟨x,h1,h2⟩
structure Oc (Y:Sg) (b i:Nat) (R:List (List V)) (ex:Bool) (steps:List AxS.Step):Prop where
 hb:Y[b]? = some (.cells 75 R.flatten ex)
 len:R.length = steps.length
 HU:∀ x ∈ R,x.length = 5
 row:∀ (j:Nat) (s:AxS.Step),steps[j]? = some s -> ∃ p q,R[j]? = some ([.str s.out,.int .i64 s.op,p,q,.int .i64 s.n]) /\ (j < i -> bH aJ 9 Y p s.args /\ bH aJ 9 Y q s.lits /\ aT p ≠ some b /\ aT q ≠ some b) /\ (i <= j -> IS aJ p s.args /\ IS aJ q s.lits)
theorem Oc.start {Y:Sg} {b:Nat} {rs:List (List V)} {ex:Bool} {steps:List AxS.Step} (hb:Y[b]? = some (.cells 75 rs.flatten ex)) (ha:eN eV.P rs steps):Oc Y b 0 rs ex steps:=by
 refine ⟨hb,ha.len,Lay.lens ha,fun j s hj=>?_⟩
 obtain ⟨r,h1,a,l,rfl,h2,h3⟩:=GN ha hj
 exact ⟨a,l,h1,fun h=>by omega,fun _=>⟨h2,h3⟩⟩
theorem Oc.step {Y τ':Sg} {b i:Nat} {R:List (List V)} {ex:Bool} {steps:List AxS.Step} {s:AxS.Step} {wp wq:V} (h:Oc Y b i R ex steps) (hs:steps[i]? = some s) (hb:τ'[b]? = some (.cells 75 (R.set i ([.str s.out,.int .i64 s.op,wp,wq,.int .i64 s.n])).flatten ex)) (o1:bH aJ 9 τ' wp s.args) (o2:bH aJ 9 τ' wq s.lits) (k:∀ (c:Nat) (o:O),Y[c]? = some o -> c ≠ b -> τ'[c]? = some o) (f1:∀ c,aT wp = some c -> Y.length <= c) (f2:∀ c,aT wq = some c -> Y.length <= c):Oc τ' b (i + 1) (R.set i ([.str s.out,.int .i64 s.op,wp,wq,.int .i64 s.n])) ex steps:=by
 have hbl:=(List.getElem?_eq_some_iff.1 h.hb).1
 have hil:i < R.length:=by rw [h.len]; exact (List.getElem?_eq_some_iff.1 hs).1
 refine ⟨hb,by rw [List.length_set]; exact h.len,fun x hx=>?_,fun j t hj=>?_⟩
 ·rcases List.mem_or_eq_of_mem_set hx with hx | rfl
  ·exact h.HU x hx
  ·rfl
 ·by_cases hij:i = j
  ·subst hij
   rw [hs] at hj
   cases hj
   refine ⟨wp,wq,getElem?_set_self hil,fun _=>⟨o1,o2,fun e=>?_,fun e=>?_⟩,fun h=>by omega⟩
   ·have:=f1 b e; omega
   ·have:=f2 b e; omega
  ·obtain ⟨p,q,h1,h2,h3⟩:=h.row j t hj
   refine ⟨p,q,by rw [getElem?_set_ne hij]; exact h1,fun hlt=>?_,fun hle=>h3 (by omega)⟩
   obtain ⟨a1,a2,a3,a4⟩:=h2 (by omega)
   exact ⟨a1.keep fun c o hc ho=>k c o ho (fun e=>a3 (by rw [hc,e])),a2.keep fun c o hc ho=>k c o ho (fun e=>a4 (by rw [hc,e])),a3,a4⟩
theorem RW {Y:Sg} {w:V} {l:List aM} (ow:bH aJ 9 Y w l):OL Y w l:=by
 rcases ow with h | ⟨b,rs,ex,rfl,hb,ha⟩
 ·exact .inl h
 ·obtain rfl:=AQ ha
  rw [Cb] at hb
  exact .inr ⟨b,_,ex,rfl,hb,take_of_length_le (by rw [length_map]; exact Nat.le_refl _)⟩
theorem Oo {v:V} {l:List aM} (h:Q5 v l):jW aJ v l:=by
 rcases h with h | ⟨full,rfl⟩
 ·exact .inl h
 ·exact .inr ⟨_,full,rfl,tS l⟩
theorem wD (h:bM E) {Y:Sg} {w:V} {l:List aM} {m:Nat} (ow:bH aJ 9 Y w l):∃ v',bN Y E.ty false (m + 2) w = some v' /\ cH false v' = true /\ jW aJ v' l:=by
 obtain ⟨v',h1,h2⟩:=(RW ow).snap (m:=m) h
 exact ⟨v',h1,h2.tag,Oo h2⟩
theorem FY {α β:Type} {f:α -> Option β}:∀ {a:List α} {a':List β} {b:List α} {b':List β},aX f a = some a' -> aX f b = some b' -> aX f (a ++ b) = some (a' ++ b')
 | [],a',b,b',h1,h2=>by cases h1; exact h2
 | x :: a,a',b,b',h1,h2=>by
  rw [aX] at h1
  cases hx:f x with
  | none=>rw [hx] at h1; cases h1
  | some y=>
   cases hm:aX f a with
   | none=>rw [hx,hm] at h1; cases h1
   | some l=>
    rw [hx,hm] at h1
    cases h1
    rw [List.cons_append,aX,hx,FY hm h2]
    rfl
theorem Fg (h:bM E) {Y:Sg} {b n:Nat} {R:List (List V)} {ex:Bool} {steps:List AxS.Step} (hs:Oc Y b n R ex steps) (hn:n = steps.length):∃ v',bN Y E.ty false 12 (.sl b 0 n none) = some v' /\ cH false v' = true /\ jW fV v' steps:=by
 have key:∀ (R:List (List V)) (steps:List AxS.Step),R.length = steps.length -> (∀ (j:Nat) (s:AxS.Step),steps[j]? = some s -> ∃ p q,R[j]? = some ([.str s.out,.int .i64 s.op,p,q,.int .i64 s.n]) /\ bH aJ 9 Y p s.args /\ bH aJ 9 Y q s.lits) -> ∃ R',aX (fun v=>match bN Y E.ty false 11 v with
   | some v=>if cH false v then some v else Ax.no "snap: borrowed"
   | none=>none) R.flatten = some R'.flatten /\ eN fV.P R' steps:=by
  intro R
  induction R with
  | nil=>
   intro steps hl _
   have:steps = []:=List.eq_nil_of_length_eq_zero hl.symm
   subst this
   exact ⟨[],rfl,.nil⟩
  | cons r R ih=>
   intro steps hl hr
   cases steps with
   | nil=>cases hl
   | cons s steps=>
    obtain ⟨R',m1,a1⟩:=ih steps (by simpa using hl) fun j t hj=>hr (j + 1) t hj
    obtain ⟨p,q,h1,h2,h3⟩:=hr 0 s rfl
    cases h1
    obtain ⟨p',e1,t1,i1⟩:=wD (m:=9) h h2
    obtain ⟨q',e2,t2,i2⟩:=wD (m:=9) h h3
    refine ⟨([.str s.out,.int .i64 s.op,p',q',.int .i64 s.n]) :: R',?_,.cons ⟨p',q',rfl,i1,i2⟩ a1⟩
    rw [flatten_cons,flatten_cons]
    refine FY ?_ m1
    have es:∀ z:aM,bN Y E.ty false 11 (.str z) = some (.str z):=fun z=>jN rfl
    have ei:∀ z:Int,bN Y E.ty false 11 (.int .i64 z) = some (.int .i64 z):=fun z=>jN rfl
    have ts:∀ z:aM,cH false (.str z) = true:=fun _=>rfl
    have ti:∀ z:Int,cH false (.int .i64 z) = true:=fun _=>rfl
    simp only [aX,es,ei,ts,ti,e1,e2,t1,t2,if_true]
 obtain ⟨R',m1,a1⟩:=key R steps hs.len fun j s hj=>by
  obtain ⟨p,q,h1,h2,-⟩:=hs.row j s hj
  obtain ⟨a1,a2,-⟩:=h2 (by have:=(List.getElem?_eq_some_iff.1 hj).1; omega)
  exact ⟨p,q,h1,a1,a2⟩
 have hfl:R.flatten.length = n * 5:=by rw [mQ R hs.HU,hs.len,hn]
 have htk:(R.flatten.drop 0).take (n * 5) = R.flatten:=by rw [drop_zero,take_of_length_le (by omega)]
 refine ⟨.bQ false R' (ex && decide (0 < 5) && (0 + n * 5 == R.flatten.length)),?_,rfl,.inr ⟨R',_,rfl,a1⟩⟩
 rw [bN]
 simp only [hs.hb,h.cP]
 rw [if_pos (by omega)]
 have m2:aX (fun v=>match bN Y E.ty false 11 v with
   | some v=>if cH false v then some v else Ax.no "snap: borrowed"
   | none=>none) ((R.flatten.drop 0).take (n * 5)) = some R'.flatten:=by rw [htk]; exact m1
 refine Eq.trans (congrArg (fun o=>match o with
  | some l=>some (V.bQ false (Ax.rows 5 n l) (ex && decide (0 < 5) && (0 + n * 5 == R.flatten.length)))
  | none=>none) m2) ?_
 show some (V.bQ false (Ax.rows 5 n R'.flatten) _) = _
 have hl':n = R'.length:=by rw [a1.len,hn]
 rw [hl',show Ax.rows 5 R'.length R'.flatten = R' from jP (sz:=5) R' (Lay.lens (L:=fV) a1)]
end
end
section
section
variable {E:Env} {Z:Sg} {K:V -> Sg -> Prop}
def QJ (v:V) (x:aF):Prop:=∃ a b c d,v = .agg [.str x.name,a,b,c,d] /\ jW aJ a x.ins /\ jW aJ b x.outs /\ jW aJ c x.after /\ jW fV d x.steps
theorem pP (h:bM E) {Y:Sg} {w:V} {l:List aM} (ow:bH aJ 9 Y w l):∃ v',aZ.one Y E.ty false w = some v' /\ jW aJ v' l:=by
 obtain ⟨v',h1,h2,h3⟩:=wD (m:=10) h ow
 refine ⟨v',?_,h3⟩
 unfold aZ.one
 rw [show c_ = 10 + 2 from rfl,h1]
 simp only [h2,if_true]
theorem Oc.VH {Y:Sg} {b i u:Nat} {R:List (List V)} {ex:Bool} {steps:List AxS.Step} {cs:List V} {y:O} (h:Oc Y b i R ex steps) (hz:Y[1]? = some (.cells u cs true)) (hu:u ≠ 9) (hb:2 <= b):Oc (Y.set 1 y) b i R ex steps:=by
 refine ⟨by rw [getElem?_set_ne (by omega)]; exact h.hb,h.len,h.HU,fun j s hj=>?_⟩
 obtain ⟨p,q,h1,h2,h3⟩:=h.row j s hj
 refine ⟨p,q,h1,fun hlt=>?_,h3⟩
 obtain ⟨a1,a2,a3,a4⟩:=h2 hlt
 exact ⟨bH.set a1 (j_ hz hu a1),bH.set a2 (j_ hz hu a2),a3,a4⟩
theorem NL (h:bM E) (h':x_ E) {v:V} {x:aF} (hv:GR v x) (hs:Small x):aB E 70 [v] Z fun v σ'=>σ' = Z /\ QJ v x:=by
 have ev:=hv.snap (E:=E) Z
 obtain ⟨a,b,c,d,rfl,ia,ib,ic,id⟩:=hv
 have o1:=aI ia.bB
 have o2:=aI ib.bB
 have o3:=aI ic.bB
 have o4:=aI id.bB
 have l4:=hs.steps
 rw [aH h'.hs70 h'.sp70 h'.fn70 h'.md70 (args':=[.agg [.str x.name,a,b,c,d]]) (by simp only [aX,ev]),bD (by kernel_rfl)]
 simp only [aA,Tryz.f70,KP,↓reduceIte,reduceLT,reduceAdd,h.bE,o1,o2,o3,o4]
 refine XC h h' ia ib ic id hs _ ?_ ?_
 ·exact (by simp +decide only [GS])
 intro F1 τ1 w1 w2 w3 w4 g1 g2 b0 z0 ow1 ow2 ow3 ow4 sep
 have g2:F1.get 2 = .ref 1 0:=g2.trans (by simp +decide only [GS])
 obtain ⟨k1,t1⟩:=lC ow1
 obtain ⟨k2,t2⟩:=lC ow2
 obtain ⟨k3,t3⟩:=lC ow3
 rcases ow4 with ⟨rfl,hst⟩ | ⟨b4,rs,ex,rfl,hb,ha⟩
 ·have ln:∀ Z,lenOf E Z 35 .aC = some 0:=fun Z=>by unfold lenOf; rw [h.fE]
  simp only [KP,Ax.loadAt,↓reduceIte,reduceLT,reduceCtorEq,h.fE,h.bE,g1,b0,ln]
  rw [aG]
  have hz1:=(List.getElem?_eq_some_iff.1 z0).1
  have s1:∀ y,(τ1.set 1 y)[1]? = some y:=fun y=>getElem?_set_self hz1
  obtain ⟨a',e1,j1⟩:=pP h (bH.set (y:=O.cells 37 [.str x.name,w1,w2,w3,.aC] true) ow1 (j_ z0 (by decide) ow1))
  obtain ⟨b',e2,j2⟩:=pP h (bH.set (y:=O.cells 37 [.str x.name,w1,w2,w3,.aC] true) ow2 (j_ z0 (by decide) ow2))
  obtain ⟨c',e3,j3⟩:=pP h (bH.set (y:=O.cells 37 [.str x.name,w1,w2,w3,.aC] true) ow3 (j_ z0 (by decide) ow3))
  have e0:∀ Y (z:aM),aZ.one Y E.ty false (.str z) = some (.str z):=fun Y z=>rfl
  have e5:∀ Y,aZ.one Y E.ty false .aC = some .aC:=fun Y=>rfl
  simp only [KP,Ax.loadAt,Ax.storeAt,↓reduceIte,reduceEqDiff,reduceLT,reduceAdd,Int.reduceLT,h.bE,g1,g2,b0,z0,k1,k2,k3,s1,e0,e1,e2,e3,e5,cT,aZ,aX]
  exact ⟨a',b',c',.aC,rfl,j1,j2,j3,.inl ⟨rfl,hst⟩⟩
 ·generalize hn:x.steps.length = n at *
  obtain ⟨hb2,d1,d2,d3⟩:=sep b4 rfl
  have ln:∀ Z,lenOf E Z 35 (.sl b4 0 n none) = some n:=fun Z=>by unfold lenOf; rw [h.fE]
  simp only [KP,Ax.loadAt,↓reduceIte,reduceLT,reduceCtorEq,h.fE,h.bE,g1,b0,ln]
  refine aQ (fun i F Y=>F.get 1 = .ref 0 0 /\ F.get 2 = .ref 1 0 /\ F.get 22 = .int .i64 (n:Int) /\ F.get 23 = .int .i64 (i:Int) /\ Y[0]? = some (O.cells 37 [.str x.name,w1,w2,w3,.sl b4 0 n none] true) /\ Y[1]? = some (O.cells 37 [.str [],.aC,.aC,.aC,.aC] true) /\ bH aJ 9 Y w1 x.ins /\ bH aJ 9 Y w2 x.outs /\ bH aJ 9 Y w3 x.after /\ ∃ R,Oc Y b4 i R ex x.steps) n ?_ ?_ n 0 _ _ (by omega) (gP (by simp +decide only [GS,g1,g2,and_self]) ⟨b0,z0,ow1,ow2,ow3,rs,Oc.start hb ha⟩)
  ·rintro i F Y hi ⟨g1,g2,g22,g23,b0,z0,ow1,ow2,ow3,R,sa⟩ next
   obtain ⟨s,hsi⟩:∃ y,x.steps[i]? = some y:=⟨_,List.getElem?_eq_getElem (by omega)⟩
   obtain ⟨p,q,hr,-,hpq⟩:=sa.row i s hsi
   obtain ⟨ip,iq⟩:=hpq (Nat.le_refl _)
   have hsm:=mem_of_getElem? hsi
   have hlt:=dR hi
   have hadd:=bU i (by omega)
   rw [aG]
   simp only [KP,↓reduceIte,reduceEqDiff,reduceLT,g22,g23,hlt]
   refine XB h h' b0 sa.hb sa.HU hr hi ip iq (hs.args s hsm) (hs.lits s hsm) hb2 _ ?_ ?_ ?_
   ·exact (by simp +decide only [GS,g1])
   ·exact (by simp +decide only [GS])
   intro F' τ' wp wq hF hb' op oq hk f1 f2
   have q1:F'.get 1 = .ref 0 0:=(hF 1 (by simp)).trans (by simp +decide only [GS,g1])
   have q2:F'.get 2 = .ref 1 0:=(hF 2 (by simp)).trans (by simp +decide only [GS,g2])
   have q22:F'.get 22 = .int .i64 (n:Int):=(hF 22 (by simp)).trans (by simp +decide only [GS,g22])
   have q23:F'.get 23 = .int .i64 (i:Int):=(hF 23 (by simp)).trans (by simp +decide only [GS,g23])
   simp only [KP,↓reduceIte,reduceLT,q23,hadd]
   exact next _ _ (gP (by simp +decide only [GS,q1,q2,q22,and_self]) ⟨hk 0 _ b0 (by omega),hk 1 _ z0 (by omega),ow1.keep fun c o hc ho=>hk c o ho (fun e=>d1 (by rw [hc,e])),ow2.keep fun c o hc ho=>hk c o ho (fun e=>d2 (by rw [hc,e])),ow3.keep fun c o hc ho=>hk c o ho (fun e=>d3 (by rw [hc,e])),_,sa.step hsi hb' op oq hk f1 f2⟩)
  ·rintro F Y ⟨g1,g2,g22,g23,b0,z0,ow1,ow2,ow3,R,sa⟩
   have hlt:=dS (Nat.lt_irrefl n)
   have hz1:=(List.getElem?_eq_some_iff.1 z0).1
   have s1:∀ y,(Y.set 1 y)[1]? = some y:=fun y=>getElem?_set_self hz1
   obtain ⟨a',e1,j1⟩:=pP h (bH.set (y:=O.cells 37 [.str x.name,w1,w2,w3,.sl b4 0 n none] true) ow1 (j_ z0 (by decide) ow1))
   obtain ⟨b',e2,j2⟩:=pP h (bH.set (y:=O.cells 37 [.str x.name,w1,w2,w3,.sl b4 0 n none] true) ow2 (j_ z0 (by decide) ow2))
   obtain ⟨c',e3,j3⟩:=pP h (bH.set (y:=O.cells 37 [.str x.name,w1,w2,w3,.sl b4 0 n none] true) ow3 (j_ z0 (by decide) ow3))
   obtain ⟨d',e4,t4,j4⟩:=Fg h (sa.VH (y:=O.cells 37 [.str x.name,w1,w2,w3,.sl b4 0 n none] true) z0 (by decide) hb2) hn.symm
   have e4:aZ.one (Y.set 1 (O.cells 37 [.str x.name,w1,w2,w3,.sl b4 0 n none] true)) E.ty false (.sl b4 0 n none) = some d':=by
    unfold aZ.one
    rw [show c_ = 12 from rfl,e4]
    simp only [t4,if_true]
   have e0:∀ Y (z:aM),aZ.one Y E.ty false (.str z) = some (.str z):=fun Y z=>rfl
   rw [aG]
   simp only [KP,Ax.loadAt,Ax.storeAt,↓reduceIte,reduceEqDiff,reduceLT,reduceAdd,h.bE,g1,g2,g22,g23,hlt,b0,z0,k1,k2,k3,s1,e0,e1,e2,e3,e4,cT,aZ,aX]
   exact ⟨a',b',c',d',rfl,j1,j2,j3,j4⟩
end
end
end Go.Proofs.YtlbbdpkjeeiahaaGreatDoor
end
section
namespace Go.Proofs.YtlbbdpkjeeiahaaGreatDoor.Lb
open Go Go.Ax Go.AxS
section
structure kB (E:Env):Prop where
 pM:E.ty 3 = some { kd:=.int .i64,size:=1,bytes:=8,zero:=.int .i64 0 }
 GY:E.ty 4 = some { kd:=.bool,size:=1,bytes:=1,zero:=.bool false }
 cK:E.ty 9 = some { kd:=.str,size:=1,bytes:=16,zero:=.str [] }
 E6:E.ty 40 = some { kd:=.sl 46,size:=1,bytes:=24,zero:=.aC }
 CJ:E.ty 77 = some { kd:=.ptr 86,size:=1,bytes:=8,zero:=.gZ }
 CI:E.ty 82 = some { kd:=.map 46 4,size:=1,bytes:=8,zero:=.bS }
 JZ:E.ty 84 = some { kd:=.jC [(0,82)],size:=1,bytes:=8,zero:=.agg [.bS] }
 JY:E.ty 86 = some { kd:=.jC [(0,84)],size:=1,bytes:=8,zero:=.agg [.bS] }
 nE:E.ty 46 = some { kd:=.jC [(0,4),(1,9)],size:=2,bytes:=24,zero:=.agg [.bool false,.str []] }
 ty118:E.ty 118 = some { kd:=.ptr 84,size:=1,bytes:=8,zero:=.gZ }
 Xj:E.eqs 46 = some [.bool,.str]
 hs87:E.hspec 87 = some (oE 46 [129] [] 89)
 hs20:E.hspec 20 = none
 OE:E.spec 20 = none
 fn20:E.fn 20 = some (aA Tryz.f20)
 md20:E.mode 20 = .eT
 hs42:E.hspec 42 = none
 sp42:E.spec 42 = none
 fn42:E.fn 42 = some (aA Tryz.f42)
 md42:E.mode 42 = .eT
 hs41:E.hspec 41 = none
 sp41:E.spec 41 = none
 fn41:E.fn 41 = some (aA Tryz.f41)
 md41:E.mode 41 = .eT
 hs44:E.hspec 44 = none
 sp44:E.spec 44 = none
 fn44:E.fn 44 = some (aA Tryz.f44)
 md44:E.mode 44 = .shared
 VL:E.hspec 71 = none
 Ts:E.spec 71 = none
 Wy:E.fn 71 = some (aA Tryz.f71)
 UY:E.mode 71 = .shared
 hs85:E.hspec 85 = none
 sp85:E.spec 85 = none
 fn85:E.fn 85 = some (aA Tryz.f85)
 md85:E.mode 85 = .shared
 hs50:E.hspec 50 = none
 sp50:E.spec 50 = none
 fn50:E.fn 50 = some (aA Tryz.f50)
 md50:E.mode 50 = .shared
 hs48:E.hspec 48 = none
 sp48:E.spec 48 = none
 fn48:E.fn 48 = some (aA Tryz.f48)
 md48:E.mode 48 = .eT
 hs49:E.hspec 49 = none
 sp49:E.spec 49 = none
 fn49:E.fn 49 = some (aA Tryz.f49)
 md49:E.mode 49 = .eT
 hs142:E.hspec 142 = none
 sp142:E.spec 142 = none
 fn142:E.fn 142 = some (aA Tryz.f142)
 md142:E.mode 142 = .eT
 hs52:E.hspec 52 = none
 sp52:E.spec 52 = none
 fn52:E.fn 52 = some (aA Tryz.f52)
 md52:E.mode 52 = .eT
 hs51:E.hspec 51 = none
 sp51:E.spec 51 = none
 fn51:E.fn 51 = some (aA Tryz.f51)
 md51:E.mode 51 = .eT
 hs89:E.hspec 89 = none
 sp89:E.spec 89 = none
 fn89:E.fn 89 = some (aA Tryz.f89)
 md89:E.mode 89 = .eT
 hs130:E.hspec 130 = none
 sp130:E.spec 130 = none
 fn130:E.fn 130 = some (aA Tryz.f130)
 md130:E.mode 130 = .eT
 hs175:E.hspec 175 = none
 sp175:E.spec 175 = none
 fn175:E.fn 175 = some (aA Tryz.f175)
 md175:E.mode 175 = .eT
 hs88:E.hspec 88 = none
 sp88:E.spec 88 = none
 fn88:E.fn 88 = some (aA Tryz.f88)
 md88:E.mode 88 = .shared
 hs22:E.hspec 22 = none
 OC:E.spec 22 = none
 fn22:E.fn 22 = some (aA Tryz.f22)
 md22:E.mode 22 = .eT
 hs24:E.hspec 24 = none
 OA:E.spec 24 = none
 fn24:E.fn 24 = some (aA Tryz.f24)
 md24:E.mode 24 = .eT
 hs25:E.hspec 25 = none
 Oz:E.spec 25 = none
 fn25:E.fn 25 = some (aA Tryz.f25)
 md25:E.mode 25 = .eT
 hs28:E.hspec 28 = none
 Ow:E.spec 28 = none
 fn28:E.fn 28 = some (aA Tryz.f28)
 md28:E.mode 28 = .eT
 hs77:E.hspec 77 = none
 sp77:E.spec 77 = none
 fn77:E.fn 77 = some (aA Tryz.f77)
 md77:E.mode 77 = .eT
 hs102:E.hspec 102 = none
 sp102:E.spec 102 = none
 fn102:E.fn 102 = some (aA Tryz.f102)
 md102:E.mode 102 = .eT
 hs141:E.hspec 141 = none
 sp141:E.spec 141 = none
 fn141:E.fn 141 = some (aA Tryz.f141)
 md141:E.mode 141 = .eT
 hs140:E.hspec 140 = none
 sp140:E.spec 140 = none
 fn140:E.fn 140 = some (aA Tryz.f140)
 md140:E.mode 140 = .shared
 hs83:E.hspec 83 = none
 sp83:E.spec 83 = none
 fn83:E.fn 83 = some (aA Tryz.f83)
 md83:E.mode 83 = .eT
 Xv:aN E (cutAt [1,1,1,1,0,1,2,2,1,1,0,2,1] (aA Tryz.f71).code) = true
 d48_1:aN E (cutAt [1,0] (aA Tryz.f48).code) = true
 d142_1:aN E (cutAt [1,0] (aA Tryz.f142).code) = true
 d24_2:aN E (cutAt [1,1,0,2,2,0,0] (aA Tryz.f24).code) = true
 d24_4:aN E (cutAt [1,1,1,0,0] (aA Tryz.f24).code) = true
 z24_6:gE E (opsOf (cutAt [1,1,1,1,0] (aA Tryz.f24).code)) = .lit
 p24_6:cM E .lit (opsOf (cutAt [1,1,1,1,0] (aA Tryz.f24).code)) = some [⟨3,4,true,false⟩,⟨3,9,true,false⟩,⟨6,9,true,false⟩]
 d25_6:aN E (cutAt [1,1,0,1,2,2,1,0,2,0] (aA Tryz.f25).code) = true
 d28_4:aN E (cutAt [1,0,1,2,2,1,0,2,0] (aA Tryz.f28).code) = true
def dO (Z σ':Sg):Prop:=∀ (b t:Nat) (cs:List V) (ex:Bool),Z[b]? = some (.cells t cs ex) -> σ'[b]? = some (.cells t cs ex)
theorem dO.refl (Z:Sg):dO Z Z:=fun _ _ _ _ h=>h
theorem dO.trans {Z Y ρ:Sg} (h:dO Z Y) (k:dO Y ρ):dO Z ρ:=fun b t cs ex e=>k b t cs ex (h b t cs ex e)
theorem mI {Z:Sg} {b:Nat} {o:O} (h:Z[b]? = some o) (Y:Sg):(Z ++ Y)[b]? = some o:=by
 rw [List.getElem?_append_left (List.getElem?_eq_some_iff.1 h).1]; exact h
theorem dO.app (Z Y:Sg):dO Z (Z ++ Y):=fun _ _ _ _ h=>mI h Y
theorem dO.Eg {Z:Sg} {m:Nat} {es es':List (V × V)} (h:Z[m]? = some (.map es)):dO Z (Z.set m (.map es')):=fun b t cs ex e=>by
 by_cases hb:m = b
 ·subst hb; rw [h] at e; cases e
 ·rw [getElem?_set_ne hb]; exact e
def SV (Z:Sg) (v:V) (l:List a_):Prop:=
 (v = .aC /\ l = []) \/ (∃ g full,v = .bQ g (l.map row) full) \/ ∃ b cs ex,v = .sl b 0 l.length none /\ Z[b]? = some (.cells 46 cs ex) /\ cs.take (l.length * 2) = l.flatMap row
def LV (v:V) (l:List a_):Prop:=(v = .aC /\ l = []) \/ ∃ g full,v = .bQ g (l.map row) full
theorem LV.sv {v:V} {l:List a_} (h:LV v l) (Z:Sg):SV Z v l:=h.imp id .inl
theorem SV.keep {Z σ':Sg} {v:V} {l:List a_} (h:SV Z v l) (k:dO Z σ'):SV σ' v l:=by
 rcases h with h | h | ⟨b,cs,ex,h1,h2,h3⟩
 ·exact .inl h
 ·exact .inr (.inl h)
 ·exact .inr (.inr ⟨b,cs,ex,h1,k _ _ _ _ h2,h3⟩)
theorem tD:∀ l:List a_,(l.flatMap row).length = l.length * 2
 | []=>rfl
 | x :: l=>by rw [List.flatMap_cons,length_append,tD l,length_cons]; show 2 + _ = _; omega
theorem JA:∀ (l:List a_) (i:Nat) (x:a_),l[i]? = some x -> ((l.flatMap row).drop (i * 2)).take 2 = row x
 | [],i,x,h=>by simp at h
 | y :: l,0,x,h=>by cases h; rfl
 | y :: l,i + 1,x,h=>by
  rw [show (i + 1) * 2 = i * 2 + 2 by omega]
  show ((row y ++ l.flatMap row).drop (i * 2 + 2)).take 2 = _
  rw [Nat.add_comm,<- List.drop_drop]
  exact JA l i x h
theorem xB {f:V -> Option V}:∀ l:List V,(∀ x ∈ l,f x = some x) -> aX f l = some l
 | [],_=>rfl
 | x :: l,h=>by
  rw [aX,h x (mem_cons_self ..),xB l fun y hy=>h y (mem_cons_of_mem _ hy)]
section
variable {E:Env} {Z:Sg} {K:V -> Sg -> Prop}
theorem R3 (h:kB E) {v:V} {l:List a_} (hv:SV Z v l):lenOf E Z 40 v = some l.length:=by
 unfold lenOf
 rw [h.E6]
 rcases hv with ⟨rfl,rfl⟩ | ⟨g,full,rfl⟩ | ⟨b,cs,ex,rfl,hb,hc⟩
 ·rfl
 ·simp
 ·rfl
theorem Qb (h:kB E) {v:V} {l:List a_} (hv:SV Z v l) {i:Nat} {x:a_} (hx:l[i]? = some x) :
  ∃ a,indexAddr E 40 v (.int .i64 (i:Int)) = some a /\ ∀ σ',dO Z σ' -> loadAt E σ' 46 a = some (.agg [.bool x.1,.str x.2]):=by
 have hi:=(List.getElem?_eq_some_iff.1 hx).1
 rcases hv with ⟨rfl,rfl⟩ | ⟨g,full,rfl⟩ | ⟨b,cs,ex,rfl,hb,hc⟩
 ·simp at hx
 ·have hr:(l.map row)[((i:Nat):Int).toNat]? = some (row x):=by
   rw [Int.toNat_natCast,List.getElem?_map,hx]; rfl
  refine ⟨.dB g (row x),?_,fun σ' _=>?_⟩
  ·unfold indexAddr
   simp only [h.E6,h.nE,hr]
   rw [if_neg (by omega)]
   rfl
  ·unfold loadAt
   simp only [h.nE]
   rfl
 ·refine ⟨.ref b (0 + i * 2),?_,fun σ' k=>?_⟩
  ·unfold indexAddr
   simp only [h.E6,h.nE,Int.toNat_natCast]
   rw [if_neg (by omega),if_pos hi]
  ·have hlen:l.length * 2 <= cs.length:=by
    have:=congrArg List.length hc
    rw [length_take,tD] at this
    omega
   unfold loadAt
   simp only [h.nE,k _ _ _ _ hb]
   have e:(cs.drop (0 + i * 2)).take 2 = row x:=by
    have:=JA l i x hx
    rw [<- hc,List.drop_take,List.take_take] at this
    rw [show min 2 (l.length * 2 - i * 2) = 2 by omega] at this
    rw [Nat.zero_add]
    exact this
   rw [show Ax.isAgg (Kd.jC [(0,4),(1,9)]) = true from rfl]
   simp only [if_true]
   rw [if_pos (by omega),e]
   rfl
end
end
def LVf (v:V) (l:List a_):Prop:=(v = .aC /\ l = []) \/ ∃ full,v = .bQ false (l.map row) full
theorem LVf.lv {v:V} {l:List a_} (h:LVf v l):LV v l:=h.imp id fun ⟨full,e⟩=>⟨false,full,e⟩
section
section
variable {E:Env} {Z:Sg} {K:V -> Sg -> Prop}
theorem Of (n:Nat) (h:n <= 10000000000000):wr .i64 ((n:Int) + 1) = ((n + 1:Nat):Int):=by
 rw [yB,if_pos]
 ·rfl
 ·rw [Bool.and_eq_true,decide_eq_true_eq,decide_eq_true_eq]
  exact ⟨show (-9223372036854775808:Int) <= (n:Int) + 1 by omega,show (n:Int) + 1 <= (9223372036854775807:Int) by omega⟩
end
end
section
def xN (ks:List a_):List (V × V):=ks.map fun k=>(V.agg [.bool k.1,.str k.2],V.bool true)
structure cO (Z:Sg) (b m:Nat) (ks:List a_):Prop where
 obj:Z[b]? = some (.cells 86 [.mp m] true)
 map:Z[m]? = some (.map (xN ks))
 nodup:ks.Nodup
def Kp (Z σ':Sg) (m:Nat):Prop:=∀ (j:Nat) (o:O),j ≠ m -> Z[j]? = some o -> σ'[j]? = some o
def rS (Z σ':Sg):Prop:=∀ (j:Nat) (o:O),Z[j]? = some o -> σ'[j]? = some o
theorem rS.refl (Z:Sg):rS Z Z:=fun _ _ h=>h
theorem rS.trans {Z Y ρ:Sg} (h:rS Z Y) (k:rS Y ρ):rS Z ρ:=fun j o e=>k j o (h j o e)
theorem rS.app (Z Y:Sg):rS Z (Z ++ Y):=fun _ _ h=>mI h Y
theorem rS.sZ {Z σ':Sg} (h:rS Z σ'):dO Z σ':=fun b t cs ex e=>h _ _ e
theorem Kp.refl (Z:Sg) (m:Nat):Kp Z Z m:=fun _ _ _ h=>h
theorem Kp.trans {Z Y ρ:Sg} {m:Nat} (h:Kp Z Y m) (k:Kp Y ρ m):Kp Z ρ m:=fun j o hj e=>k j o hj (h j o hj e)
theorem Kp.sZ {Z σ':Sg} {m:Nat} {es:List (V × V)} (h:Kp Z σ' m) (hm:Z[m]? = some (.map es)):dO Z σ':=fun b t cs ex e=>h _ _ (fun hb=>by subst hb; rw [hm] at e; cases e) e
theorem rS.kp {Z σ':Sg} (h:rS Z σ') (m:Nat):Kp Z σ' m:=fun j o _ e=>h j o e
theorem cO.ne {Z:Sg} {b m:Nat} {ks:List a_} (h:cO Z b m ks):b ≠ m:=fun e=>by
 subst e; have:=h.obj; rw [h.map] at this; cases this
theorem cO.nH {Z σ':Sg} {b m:Nat} {ks:List a_} (h:cO Z b m ks) (k:rS Z σ'):cO σ' b m ks:=⟨k _ _ h.obj,k _ _ h.map,h.nodup⟩
theorem cO.kp {Z σ':Sg} {b m m':Nat} {ks ks':List a_} {b':Nat} (h:cO Z b m ks) (h':cO Z b' m' ks') (hm:m ≠ m') (k:Kp Z σ' m'):cO σ' b m ks:=
 ⟨k _ _ (fun e=>by subst e; have:=h.obj; rw [h'.map] at this; cases this) h.obj,k _ _ hm h.map,h.nodup⟩
section
variable {E:Env} {Z:Sg} {K:V -> Sg -> Prop}
theorem zG (h:kB E) (a b:Bool) (s t:List Nat):eX E 46 (.agg [.bool a,.str s]) (.agg [.bool b,.str t]) = some (decide (((a,s):a_) = (b,t))):=by
 unfold eX
 simp only [h.nE,h.Xj,Ax.eqs]
 rw [Eh]
 cases a <;> cases b <;> simp
theorem yU (h:kB E) (a:Bool) (s:List Nat):dM E 46 (.agg [.bool a,.str s]) = true:=by
 unfold dM
 simp only [h.nE,h.Xj,Ax.eqs]
 rfl
theorem HO (y:a_) (r:List a_) (x:a_) (hxy:x ≠ y):jJ (y :: r) x = y :: jJ r x:=by
 unfold jJ
 by_cases hx:x ∈ r
 ·rw [if_pos hx,if_pos (mem_cons_of_mem _ hx)]
 ·rw [if_neg hx,if_neg (by simp [hxy,hx])]; rfl
theorem Dp (h:kB E) (x:a_):∀ ks:List a_,jI (eX E 46) (.agg [.bool x.1,.str x.2]) (.bool true) (xN ks) = some (xN (jJ ks x))
 | []=>rfl
 | y :: r=>by
  show (match eX E 46 (.agg [.bool x.1,.str x.2]) (.agg [.bool y.1,.str y.2]) with
   | some true=>some ((V.agg [.bool x.1,.str x.2],V.bool true) :: xN r)
   | some false=>(match jI (eX E 46) (.agg [.bool x.1,.str x.2]) (.bool true) (xN r) with
    | some r'=>some ((V.agg [.bool y.1,.str y.2],V.bool true) :: r')
    | none=>none)
   | none=>none) = _
  rw [zG h,Dp h x r]
  by_cases hxy:x = y
  ·rw [decide_eq_true (show ((x.1,x.2):a_) = (y.1,y.2) from hxy)]
   subst hxy
   unfold jJ
   rw [if_pos (mem_cons_self ..)]
   rfl
  ·rw [decide_eq_false (show ¬ ((x.1,x.2):a_) = (y.1,y.2) from hxy),HO y r x hxy]
   rfl
theorem J1 (h:kB E) (a:Bool) (s:List Nat):storeAt E (Z ++ [.cells 46 [.bool false,.str []] true]) 46 (.ref Z.length 0) (.agg [.bool a,.str s]) = some (Z ++ [.cells 46 [.bool a,.str s] true]):=by
 unfold storeAt
 simp only [h.nE]
 rw [getElem?_append_right (Nat.le_refl _),Nat.sub_self]
 refine (if_pos rfl).trans ?_
 rw [List.set_append_right _ _ (Nat.le_refl _),Nat.sub_self]
 rfl
theorem MU (h:kB E) (a:Bool) (s:List Nat):loadAt E (Z ++ [.cells 46 [.bool a,.str s] true]) 46 (.ref Z.length 0) = some (.agg [.bool a,.str s]):=by
 unfold loadAt
 simp only [h.nE]
 rw [getElem?_append_right (Nat.le_refl _),Nat.sub_self]
 rfl
theorem sW (h:kB E) {b m:Nat} (hb:Z[b]? = some (.cells 86 [.mp m] true)):loadAt E Z 82 (.ref b 0) = some (.mp m):=by
 unfold loadAt
 simp only [h.CI,hb]
 rfl
theorem Ek (h:kB E) {m:Nat} {ks:List a_} (hm:Z[m]? = some (.map (xN ks))) (x:a_):mapUpdate E Z 82 (.mp m) (.agg [.bool x.1,.str x.2]) (.bool true) = some (Z.set m (.map (xN (jJ ks x)))):=by
 unfold mapUpdate
 simp only [h.CI,yU h,hm,Dp h]
 rfl
theorem AU (h:kB E) {m:Nat} {ks:List a_} (hm:Z[m]? = some (.map (xN ks))):lenOf E Z 82 (.mp m) = some ks.length:=by
 unfold lenOf
 simp only [h.CI,hm]
 simp [xN]
theorem GX (h:kB E) {b m:Nat} {ks l:List a_} {v:V} {n0:Int} (hsm:l.length <= 10000000000) {σ0:Sg} {s:List kY} {Q:Ax.X -> Fr -> Sg -> Prop}
  (hQ:∀ (F':FT) (σ':Sg),cO σ' b m (keys ks l) -> Kp σ0 σ' m -> F'.get 0 = .ref b 0 -> F'.get 5 = .int .i64 n0 -> M E s .normal ⟨48,F'⟩ σ' Q) :
  ∀ (k i:Nat) (F:FT) (σ':Sg),i + k = l.length -> cO σ' b m (keys ks (l.take i)) -> SV σ' v l -> Kp σ0 σ' m -> F.get 0 = .ref b 0 -> F.get 5 = .int .i64 n0 -> F.get 27 = v -> F.get 28 = .int .i64 (l.length:Int) -> F.get 29 = .int .i64 (i:Int) ->
   R E (.loop (cutAt [1,1,1,1,0,1,2,2] (aA Tryz.f71).code)) (.blk 0 :: s) ⟨48,F⟩ σ' Q:=by
 have d9:=h.Xv
 simp only [aA,Tryz.f71,cutAt,Option.getD_some] at d9
 intro k
 induction k with
 | zero=>
  intro i F σ' hi hs hv hk g0 g5 g27 g28 g29
  have hlt:decide ((i:Int) < (l.length:Int)) = false:=decide_eq_false (by omega)
  rw [aG]
  simp only [aA,Tryz.f71,KP,↓reduceIte,reduceLT,cutAt,g28,g29,hlt]
  rw [take_of_length_le (by omega)] at hs
  refine hQ _ _ hs hk ?_ ?_ <;> simp only [FT.jR,g0,g5,↓reduceIte,reduceEqDiff,reduceCtorEq]
 | succ k ih=>
  intro i F σ' hi hs hv hk g0 g5 g27 g28 g29
  have hlt:decide ((i:Int) < (l.length:Int)) = true:=decide_eq_true (by omega)
  obtain ⟨x,hx⟩:∃ x,l[i]? = some x:=⟨_,List.getElem?_eq_getElem (by omega)⟩
  obtain ⟨pa,e1,e2⟩:=Qb h hv hx
  have e2:=e2 _ (dO.refl _)
  have hadd:=Of i (by omega)
  have lm:=sW h (mI hs.obj [.cells 46 [.bool x.1,.str x.2] true])
  have pm:=Ek h (mI hs.map [.cells 46 [.bool x.1,.str x.2] true]) x
  rw [aG]
  simp only [aA,Tryz.f71,KP,↓reduceIte,reduceEqDiff,reduceLT,reduceCtorEq,h.nE,h.CI,h.JZ,h.JY,cutAt,g0,g27,g28,g29,hlt,e1,e2,J1 h,MU h,lm,pm,bI d9,cB,hadd]
  have hml:=(List.getElem?_eq_some_iff.1 hs.map).1
  refine ih (i + 1) _ _ (by omega) ⟨?_,?_,?_⟩ ?_ ?_ ?_ ?_ ?_ ?_ ?_
  ·rw [getElem?_set_ne hs.ne.symm]
   exact mI hs.obj _
  ·rw [getElem?_set_self (by rw [length_append]; omega)]
   rw [take_add_one,hx]
   show some (O.map (xN (jJ (keys ks (l.take i)) x))) = some (O.map (xN (List.foldl jJ ks (l.take i ++ [x]))))
   rw [List.foldl_append]
   rfl
  ·rw [take_add_one,hx]
   show (List.foldl jJ ks (l.take i ++ [x])).Nodup
   rw [List.foldl_append]
   exact F9 hs.nodup
  ·refine hv.keep fun j t cs ex e=>?_
   rw [getElem?_set_ne (fun hj=>by subst hj; rw [hs.map] at e; cases e)]
   exact mI e _
  ·refine hk.trans fun j o hj e=>?_
   rw [getElem?_set_ne (fun h=>hj h.symm)]
   exact mI e _
  all_goals simp only [FT.jR,g0,g5,g27,g28,↓reduceIte,reduceEqDiff,reduceCtorEq]
theorem Ra (a b:Nat) (ha:a <= 1000000000000) (hb:b <= 1000000000000):wr .i64 ((a:Int) - (b:Int)) = (a:Int) - (b:Int):=by
 rw [yB,if_pos]
 rw [Bool.and_eq_true,decide_eq_true_eq,decide_eq_true_eq]
 exact ⟨show (-9223372036854775808:Int) <= _ by omega,show _ <= (9223372036854775807:Int) by omega⟩
theorem NU (h:kB E) {b m:Nat} {ks l:List a_} {v:V} (hs:cO Z b m ks) (hv:SV Z v l) (hsm:l.length <= 10000000000) (hks:ks.length <= 10000000000) :
  aB E 71 [.ref b 0,v] Z fun r σ'=>r = .int .i64 (((keys ks l).length:Int) - (ks.length:Int)) /\ cO σ' b m (keys ks l) /\ Kp Z σ' m:=by
 rw [fK h.VL h.Ts h.Wy h.UY,bD (by kernel_rfl)]
 have lm:=sW h hs.obj
 have lk:=AU h hs.map
 have lv:lenOf E Z 40 v = some l.length:=R3 h hv
 simp only [aA,Tryz.f71,KP,↓reduceIte,reduceEqDiff,reduceLT,reduceAdd,reduceCtorEq,h.CJ,h.CI,h.JZ,h.JY,lm,lk,lv,sA]
 refine GX h hsm (σ0:=Z) (n0:=(ks.length:Int)) (fun F' σ' hs' hk' g0 g5=>?_) l.length 0 _ Z (by omega) hs hv (Kp.refl _ _) ?_ ?_ ?_ ?_ ?_
 ·have lm2:=sW h hs'.obj
  have lk2:=AU h hs'.map
  have hl:=oW (xs:=l) (l:=ks)
  have hsub:=Ra (keys ks l).length ks.length (by omega) (by omega)
  simp only [KP,↓reduceIte,reduceEqDiff,reduceLT,reduceCtorEq,h.CI,h.JZ,h.JY,lm2,lk2,g0,g5,hsub]
  exact ⟨hs',hk'⟩
 all_goals simp only [FT.jR,KP,↓reduceIte,reduceEqDiff,reduceCtorEq]
 all_goals rfl
end
end
section
section
variable {E:Env} {Z:Sg} {K:V -> Sg -> Prop}
theorem MT (h:kB E) {b:Nat} (hb:Z[b]? = some (.cells 86 [.bS] true)):loadAt E Z 82 (.ref b 0) = some .bS:=by
 unfold loadAt
 simp only [h.CI,hb]
 rfl
theorem J2 (h:kB E) {b m:Nat} {u:V} (hb:Z[b]? = some (.cells 86 [u] true)):storeAt E Z 82 (.ref b 0) (.mp m) = some (Z.set b (.cells 86 [.mp m] true)):=by
 unfold storeAt
 simp only [h.CI,hb]
 rfl
theorem NT (h:kB E) {b:Nat} {l:List a_} {v:V} (hb:Z[b]? = some (.cells 86 [.bS] true)) (hv:SV Z v l) (hsm:l.length <= 10000000000) :
  aB E 71 [.ref b 0,v] Z fun r σ'=>∃ m,cO σ' b m (keys [] l) /\ Z.length <= m /\ ∀ j o,j ≠ b -> Z[j]? = some o -> σ'[j]? = some o:=by
 rw [fK h.VL h.Ts h.Wy h.UY,bD (by kernel_rfl)]
 have hbl:=(List.getElem?_eq_some_iff.1 hb).1
 have ln:=MT h hb
 have st:=J2 h (m:=Z.length) (mI hb [.map []])
 have hs1:cO ((Z ++ [O.map []]).set b (.cells 86 [.mp Z.length] true)) b Z.length []:=by
  refine ⟨getElem?_set_self (by rw [length_append]; omega),?_,nodup_nil⟩
  rw [getElem?_set_ne (by omega),getElem?_append_right (Nat.le_refl _),Nat.sub_self]
  rfl
 have hk1:∀ j o,j ≠ b -> Z[j]? = some o -> ((Z ++ [O.map []]).set b (.cells 86 [.mp Z.length] true))[j]? = some o:=fun j o hj e=>by
  rw [getElem?_set_ne (fun e=>hj e.symm)]
  exact mI e _
 have hv1:SV ((Z ++ [O.map []]).set b (.cells 86 [.mp Z.length] true)) v l:=by
  rcases hv with hv | hv | ⟨j,cs,ex,e1,e2,e3⟩
  ·exact .inl hv
  ·exact .inr (.inl hv)
  ·refine .inr (.inr ⟨j,cs,ex,e1,hk1 j _ (fun e=>?_) e2,e3⟩)
   subst e; rw [hb] at e2; cases e2
 have lm:=sW h hs1.obj
 have lk:=AU h hs1.map
 have lv:∀ σ',lenOf E σ' 40 v = some l.length:=fun σ'=>by
  unfold lenOf
  rw [h.E6]
  rcases hv with ⟨rfl,rfl⟩ | ⟨g,full,rfl⟩ | ⟨j,cs,ex,rfl,e2,e3⟩
  ·rfl
  ·simp
  ·rfl
 simp only [aA,Tryz.f71,KP,↓reduceIte,reduceEqDiff,reduceLT,reduceAdd,reduceCtorEq,h.CJ,h.CI,h.JZ,h.JY,ln,st,lm,lk,lv,sA]
 refine GX h hsm (σ0:=(Z ++ [O.map []]).set b (.cells 86 [.mp Z.length] true)) (n0:=0) (fun F' σ' hs' hk' g0 g5=>?_) l.length 0 _ _ (by omega) hs1 hv1 (Kp.refl _ _) ?_ ?_ ?_ ?_ ?_
 ·have lm2:=sW h hs'.obj
  have lk2:=AU h hs'.map
  simp only [KP,↓reduceIte,reduceEqDiff,reduceLT,reduceCtorEq,h.CI,h.JZ,h.JY,lm2,lk2,g0,g5]
  refine ⟨Z.length,hs',Nat.le_refl _,fun j o hj e=>?_⟩
  have hjl:=(List.getElem?_eq_some_iff.1 e).1
  exact hk' j o (by omega) (hk1 j o hj e)
 all_goals simp only [FT.jR,KP,↓reduceIte,reduceEqDiff,reduceCtorEq]
 all_goals rfl
theorem QY (h:kB E) {l:List a_} {v:V} (hv:SV Z v l) (hsm:l.length <= 10000000000) :
  aB E 44 [v] Z fun r σ'=>∃ m,r = .ref Z.length 0 /\ cO σ' Z.length m (keys [] l) /\ Z.length < m /\ rS Z σ':=by
 rw [fK h.hs44 h.sp44 h.fn44 h.md44,bD (by kernel_rfl)]
 simp only [aA,Tryz.f44,KP,↓reduceIte,reduceEqDiff,reduceLT,reduceCtorEq,h.JZ,h.JY,Ax.fill]
 have hb:(Z ++ [O.cells 86 [.bS] true])[Z.length]? = some (.cells 86 [.bS] true):=by
  rw [getElem?_append_right (Nat.le_refl _),Nat.sub_self]; rfl
 refine aU (NT h hb (hv.keep (dO.app _ _)) hsm) ?_
 rintro r σ' ⟨m,hs,hm,hk⟩
 simp only [KP,↓reduceIte,reduceEqDiff,reduceLT]
 rw [length_append] at hm
 refine ⟨m,hs,by simp at hm; omega,fun j o e=>?_⟩
 have hjl:=(List.getElem?_eq_some_iff.1 e).1
 exact hk j o (by omega) (mI e _)
def Own (Z σ':Sg) (r:V) (l:List a_):Prop:=(r = .aC /\ l = []) \/ ∃ j,Z.length <= j /\ r = .sl j 0 l.length none /\ σ'[j]? = some (.cells 46 (l.flatMap row) false)
theorem Own.sv {Z σ':Sg} {r:V} {l:List a_} (h:Own Z σ' r l):SV σ' r l:=by
 rcases h with h | ⟨j,_,h1,h2⟩
 ·exact .inl h
 ·exact .inr (.inr ⟨j,_,_,h1,h2,take_of_length_le (by rw [tD]; exact Nat.le_refl _)⟩)
end
end
section
section
variable {E:Env} {Z:Sg} {K:V -> Sg -> Prop}
theorem FX {α:Type} {f:α -> Option α}:∀ l:List α,(∀ x ∈ l,f x = some x) -> aX f l = some l
 | [],_=>rfl
 | x :: l,h=>by rw [aX,h x (mem_cons_self ..),FX l fun y hy=>h y (mem_cons_of_mem _ hy)]
structure UnionE (E:Env):Prop where
 hs:E.hspec 46 = none
 sp:E.spec 46 = none
 fn:E.fn 46 = some (aA Tryz.f46)
 md:E.mode 46 = .shared
end
end
end Go.Proofs.YtlbbdpkjeeiahaaGreatDoor.Lb
end
section
namespace Go.Proofs.YtlbbdpkjeeiahaaGreatDoor
open Go Go.Ax Go.AxS
section
section
variable {E:Env} {Z:Sg} {K:V -> Sg -> Prop}
structure dF where
 key:a_
 s:Nat
 m:Nat
 ks:List a_
def p_ (x:a_):V:=.agg [.bool x.1,.str x.2]
def nJ (e:dF):V × V:=(p_ e.key,.ref e.s 0)
structure iG (Z:Sg) (b:Nat) (L:List dF):Prop where
 map:Z[b]? = some (.map (L.map nJ))
 sets:∀ e ∈ L,Lb.cO Z e.s e.m e.ks
 nodup:(L.map dF.key).Nodup
theorem BH (hl:Lb.kB E) (x:a_):∀ L:List dF,iX (eX E 46) (p_ x) (L.map nJ) = some ((L.find? fun e=>decide (x = e.key)).map fun e=>.ref e.s 0)
 | []=>rfl
 | e :: L=>by
  show (match eX E 46 (.agg [.bool x.1,.str x.2]) (.agg [.bool e.key.1,.str e.key.2]) with
   | some true=>some (some (V.ref e.s 0))
   | some false=>iX (eX E 46) (p_ x) (L.map nJ)
   | none=>none) = _
  rw [Lb.zG hl,find?_cons]
  by_cases h:x = e.key
  ·rw [decide_eq_true (show ((x.1,x.2):a_) = (e.key.1,e.key.2) from h)]; rfl
  ·rw [decide_eq_false (show ¬ ((x.1,x.2):a_) = (e.key.1,e.key.2) from h)]
   exact BH hl x L
theorem Dq (hl:Lb.kB E) (x:a_) (s m:Nat) (ks:List a_):∀ L:List dF,(∀ e ∈ L,x ≠ e.key) -> jI (eX E 46) (p_ x) (.ref s 0) (L.map nJ) = some ((L ++ [dF.mk x s m ks]).map nJ)
 | [],_=>rfl
 | e :: L,h=>by
  have hx:=h e (mem_cons_self ..)
  show (match eX E 46 (.agg [.bool x.1,.str x.2]) (.agg [.bool e.key.1,.str e.key.2]) with
   | some true=>some ((p_ x,V.ref s 0) :: L.map nJ)
   | some false=>(match jI (eX E 46) (p_ x) (.ref s 0) (L.map nJ) with
    | some r=>some (nJ e :: r)
    | none=>none)
   | none=>none) = _
  rw [Lb.zG hl,decide_eq_false (show ¬ ((x.1,x.2):a_) = (e.key.1,e.key.2) from hx),Dq hl x s m ks L fun y hy=>h y (mem_cons_of_mem _ hy)]
  rfl
def bX (L:List dF) (x:a_):Option dF:=L.find? fun e=>decide (x = e.key)
theorem Dy (h':x_ E) (hl:Lb.kB E) {Z:Sg} {b:Nat} {L:List dF} (hm:Z[b]? = some (.map (L.map nJ))) (x:a_):lookup E Z 105 (.mp b) (p_ x) false = some (match bX L x with | some e=>.ref e.s 0 | none=>.gZ):=by
 have hk:=Lb.yU hl x.1 x.2
 unfold Ax.lookup
 simp only [h'.uK,hl.CJ,p_,hk,entriesOf,hm,Bool.not_true,Bool.false_eq_true,if_false]
 have:=BH hl x L
 unfold p_ at this
 rw [this]
 unfold bX
 cases L.find? fun e=>decide (x = e.key) <;> rfl
theorem xE (h':x_ E) (hl:Lb.kB E) {Z:Sg} {b:Nat} {L:List dF} (hm:iG Z b L) (x:a_):lookup E Z 105 (.mp b) (p_ x) false = some (match bX L x with | some e=>.ref e.s 0 | none=>.gZ):=Dy h' hl hm.map x
theorem Ek (h':x_ E) (hl:Lb.kB E) {Z:Sg} {b:Nat} {L:List dF} (hm:iG Z b L) {x:a_} (hx:bX L x = none) {s m:Nat} {ks:List a_}:mapUpdate E Z 105 (.mp b) (p_ x) (.ref s 0) = some (Z.set b (.map ((L ++ [dF.mk x s m ks]).map nJ))):=by
 have hk:=Lb.yU hl x.1 x.2
 have hne:∀ e ∈ L,x ≠ e.key:=fun e he hxe=>by
  have:=find?_eq_none.1 hx e he
  simp [hxe] at this
 have:=Dq hl x s m ks L hne
 unfold p_ at this
 unfold Ax.mapUpdate
 simp only [h'.uK,p_,hk,hm.map,this,eR,V.aW,Bool.not_true,Bool.or_self,Bool.false_eq_true,if_false,Option.map_some]
end
end
section
section
variable {E:Env} {Z:Sg} {K:V -> Sg -> Prop}
theorem cO.keep {Z σ':Sg} {s m x:Nat} {ks:List a_} {es:List (V × V)} (h:Lb.cO Z s m ks) (hx:Z[x]? = some (.map es)) (hm:m ≠ x) (k:∀ (j:Nat) (o:O),j ≠ x -> Z[j]? = some o -> σ'[j]? = some o):Lb.cO σ' s m ks:=by
 refine ⟨k _ _ (fun e=>?_) h.obj,k _ _ hm h.map,h.nodup⟩
 have:=h.obj
 rw [e,hx] at this
 cases this
theorem iG.keep {Z σ':Sg} {b x:Nat} {L:List dF} {es:List (V × V)} (h:iG Z b L) (hx:Z[x]? = some (.map es)) (hb:b ≠ x) (hm:x ∉ L.map dF.m) (k:∀ (j:Nat) (o:O),j ≠ x -> Z[j]? = some o -> σ'[j]? = some o):iG σ' b L:=
 ⟨k _ _ hb h.map,fun e he=>cO.keep (h.sets e he) hx (fun e'=>hm (mem_map.2 ⟨e,he,e'⟩)) k,h.nodup⟩
def oQ (L:List dF) (x:a_) (ks:List a_):List dF:=L.map fun e=>if e.key = x then { e with ks:=ks } else e
theorem JX (L:List dF) (x:a_) (ks:List a_):(oQ L x ks).map nJ = L.map nJ:=by
 unfold oQ
 rw [map_map]
 refine List.map_congr_left fun e _=>?_
 show nJ (if e.key = x then _ else e) = nJ e
 by_cases h:e.key = x
 ·rw [if_pos h]; rfl
 ·rw [if_neg h]
theorem C1 (L:List dF) (x:a_) (ks:List a_):(oQ L x ks).map dF.key = L.map dF.key:=by
 unfold oQ
 rw [map_map]
 refine List.map_congr_left fun e _=>?_
 show dF.key (if e.key = x then _ else e) = e.key
 by_cases h:e.key = x
 ·rw [if_pos h]
 ·rw [if_neg h]
theorem It (L:List dF) (x:a_) (ks:List a_):(oQ L x ks).map dF.m = L.map dF.m:=by
 unfold oQ
 rw [map_map]
 refine List.map_congr_left fun e _=>?_
 show dF.m (if e.key = x then _ else e) = e.m
 by_cases h:e.key = x
 ·rw [if_pos h]
 ·rw [if_neg h]
theorem yR {β:Type} {f:dF -> β}:∀ {L:List dF},(L.map f).Nodup -> ∀ e ∈ L,∀ e' ∈ L,f e = f e' -> e = e'
 | [],_,e,he,_,_,_=>by cases he
 | a :: L,h,e,he,e',he',hm=>by
  rw [map_cons,nodup_cons] at h
  rcases mem_cons.1 he with h1 | h1 <;> rcases mem_cons.1 he' with h2 | h2
  ·rw [h1,h2]
  ·exact absurd (mem_map.2 ⟨e',h2,by rw [<- hm,h1]⟩) h.1
  ·exact absurd (mem_map.2 ⟨e,h1,by rw [hm,h2]⟩) h.1
  ·exact yR h.2 e h1 e' h2 hm
theorem iG.up {Z σ':Sg} {b:Nat} {L:List dF} {e:dF} {ks:List a_} (h:iG Z b L) (he:e ∈ L) (hnd:(L.map dF.m).Nodup) (hb:b ≠ e.m) (hs:Lb.cO σ' e.s e.m ks) (k:∀ (j:Nat) (o:O),j ≠ e.m -> Z[j]? = some o -> σ'[j]? = some o):iG σ' b (oQ L e.key ks):=by
 refine ⟨by rw [JX]; exact k _ _ hb h.map,fun a ha=>?_,by rw [C1]; exact h.nodup⟩
 obtain ⟨a0,ha0,rfl⟩:=mem_map.1 ha
 by_cases hk:a0.key = e.key
 ·have hae:a0 = e:=yR h.nodup a0 ha0 e he hk
  subst hae
  rw [if_pos rfl]
  exact hs
 ·rw [if_neg hk]
  exact cO.keep (h.sets a0 ha0) (h.sets e he).map (fun e'=>hk (by rw [yR hnd a0 ha0 e he e'])) k
structure mW (E:Env) (Z:Sg) (gb m0 m1 sa ma b3 b4:Nat) (es0 es1:List (V × V)) (A:List a_) (L3 L4:List dF):Prop where
 g:Z[gb]? = some (.cells 107 [.mp m0,.mp m1,.ref sa 0,.mp b3,.mp b4] true)
 rules:Z[m0]? = some (.map es0)
 iU:Z[m1]? = some (.map es1)
 all:Lb.cO Z sa ma A
 jH:iG Z b3 L3
 jB:iG Z b4 L4
 sep:(m0 :: m1 :: ma :: b3 :: b4 :: (L3.map dF.m ++ L4.map dF.m)).Nodup
end
end
section
section
variable {E:Env} {Z:Sg} {K:V -> Sg -> Prop}
theorem cO.app {Z:Sg} {s m:Nat} {ks:List a_} (h:Lb.cO Z s m ks) (y:O):Lb.cO (Z ++ [y]) s m ks:=⟨aL h.obj,aL h.map,h.nodup⟩
theorem iG.app {Z:Sg} {b:Nat} {L:List dF} (h:iG Z b L) (y:O):iG (Z ++ [y]) b L:=⟨aL h.map,fun e he=>cO.app (h.sets e he) y,h.nodup⟩
theorem mW.app {{Z:Sg}} {{gb m0 m1 sa ma b3 b4:Nat}} {{es0 es1:List (V × V)}} {{A:List a_}} {{L3 L4:List dF}} (h:mW E Z gb m0 m1 sa ma b3 b4 es0 es1 A L3 L4) (y:O):mW E (Z ++ [y]) gb m0 m1 sa ma b3 b4 es0 es1 A L3 L4:=
 ⟨aL h.g,aL h.rules,aL h.iU,cO.app h.all y,h.jH.app y,h.jB.app y,h.sep⟩
theorem mW.more {{Z σ':Sg}} {{gb m0 m1 sa ma b3 b4:Nat}} {{es0 es1:List (V × V)}} {{A:List a_}} {{L3 L4:List dF}} (h:mW E Z gb m0 m1 sa ma b3 b4 es0 es1 A L3 L4) {A':List a_} (hs:Lb.cO σ' sa ma A') (k:∀ (j:Nat) (o:O),j ≠ ma -> Z[j]? = some o -> σ'[j]? = some o):mW E σ' gb m0 m1 sa ma b3 b4 es0 es1 A' L3 L4:=by
 have sep:=h.sep
 simp only [nodup_cons,mem_cons,mem_append,not_or] at sep
 obtain ⟨⟨-,n0,-⟩,⟨n1,-⟩,⟨n3,n4,n5,n6⟩,-⟩:=sep
 have hx:=h.all.map
 have ng:gb ≠ ma:=fun e=>by
  have:=h.g
  rw [e,hx] at this
  cases this
 exact ⟨k _ _ ng h.g,k _ _ n0 h.rules,k _ _ n1 h.iU,hs,h.jH.keep hx (fun e=>n3 e.symm) n5 k,h.jB.keep hx (fun e=>n4 e.symm) n6 k,h.sep⟩
theorem mW.rule {{Z:Sg}} {{gb m0 m1 sa ma b3 b4:Nat}} {{es0 es1:List (V × V)}} {{A:List a_}} {{L3 L4:List dF}} (h:mW E Z gb m0 m1 sa ma b3 b4 es0 es1 A L3 L4) (es:List (V × V)):mW E (Z.set m0 (.map es)) gb m0 m1 sa ma b3 b4 es es1 A L3 L4:=by
 have sep:=h.sep
 simp only [nodup_cons,mem_cons,mem_append,not_or] at sep
 obtain ⟨⟨n1,na,n3,n4,n5,n6⟩,-⟩:=sep
 have hx:=h.rules
 have ng:gb ≠ m0:=fun e=>by
  have:=h.g
  rw [e,hx] at this
  cases this
 have k:∀ (j:Nat) (o:O),j ≠ m0 -> Z[j]? = some o -> (Z.set m0 (.map es))[j]? = some o:=fun j o hj ho=>by
  rw [getElem?_set_ne (Ne.symm hj)]; exact ho
 exact ⟨k _ _ ng h.g,getElem?_set_self (List.getElem?_eq_some_iff.1 hx).1,k _ _ (Ne.symm n1) h.iU,cO.keep h.all hx (Ne.symm na) k,h.jH.keep hx (Ne.symm n3) n5 k,h.jB.keep hx (Ne.symm n4) n6 k,h.sep⟩
theorem mW.Jb {{Z:Sg}} {{gb m0 m1 sa ma b3 b4:Nat}} {{es0 es1:List (V × V)}} {{A:List a_}} {{L3 L4:List dF}} (h:mW E Z gb m0 m1 sa ma b3 b4 es0 es1 A L3 L4) (es:List (V × V)):mW E (Z.set m1 (.map es)) gb m0 m1 sa ma b3 b4 es0 es A L3 L4:=by
 have sep:=h.sep
 simp only [nodup_cons,mem_cons,mem_append,not_or] at sep
 obtain ⟨⟨n1,-⟩,⟨na,n3,n4,n5,n6⟩,-⟩:=sep
 have hx:=h.iU
 have ng:gb ≠ m1:=fun e=>by
  have:=h.g
  rw [e,hx] at this
  cases this
 have k:∀ (j:Nat) (o:O),j ≠ m1 -> Z[j]? = some o -> (Z.set m1 (.map es))[j]? = some o:=fun j o hj ho=>by
  rw [getElem?_set_ne (Ne.symm hj)]; exact ho
 exact ⟨k _ _ ng h.g,k _ _ n1 h.rules,getElem?_set_self (List.getElem?_eq_some_iff.1 hx).1,cO.keep h.all hx (Ne.symm na) k,h.jH.keep hx (Ne.symm n3) n5 k,h.jB.keep hx (Ne.symm n4) n6 k,h.sep⟩
end
end
section
section
variable {E:Env} {Z:Sg} {K:V -> Sg -> Prop}
theorem mW.facts {Z:Sg} {gb m0 m1 sa ma b3 b4:Nat} {es0 es1:List (V × V)} {A:List a_} {L3 L4:List dF} (h:mW E Z gb m0 m1 sa ma b3 b4 es0 es1 A L3 L4):(L3.map dF.m).Nodup /\ (L4.map dF.m).Nodup /\ ∀ x,x ∈ L3.map dF.m \/ x ∈ L4.map dF.m -> m0 ≠ x /\ m1 ≠ x /\ ma ≠ x /\ b3 ≠ x /\ b4 ≠ x:=by
 have sep:=h.sep
 simp only [nodup_cons,mem_cons,mem_append,not_or,nodup_append] at sep
 obtain ⟨⟨-,-,-,-,a5,a6⟩,⟨-,-,-,b5,b6⟩,⟨-,-,c5,c6⟩,⟨-,d5,d6⟩,⟨e5,e6⟩,f1,f2,-⟩:=sep
 refine ⟨f1,f2,fun x hx=>?_⟩
 rcases hx with hx | hx
 ·exact ⟨fun e=>a5 (by rw [e]; exact hx),fun e=>b5 (by rw [e]; exact hx),fun e=>c5 (by rw [e]; exact hx),fun e=>d5 (by rw [e]; exact hx),fun e=>e5 (by rw [e]; exact hx)⟩
 ·exact ⟨fun e=>a6 (by rw [e]; exact hx),fun e=>b6 (by rw [e]; exact hx),fun e=>c6 (by rw [e]; exact hx),fun e=>d6 (by rw [e]; exact hx),fun e=>e6 (by rw [e]; exact hx)⟩
theorem mW.QV {Z:Sg} {gb m0 m1 sa ma b3 b4:Nat} {es0 es1:List (V × V)} {A:List a_} {L3 L4:List dF} (h:mW E Z gb m0 m1 sa ma b3 b4 es0 es1 A L3 L4):∀ x ∈ L3.map dF.m,x ∉ L4.map dF.m:=by
 have sep:=h.sep
 simp only [nodup_cons,mem_cons,mem_append,not_or,nodup_append] at sep
 obtain ⟨-,-,-,-,-,-,-,f3⟩:=sep
 exact fun x hx hy=>f3 x hx x hy rfl
theorem mW.ME {{Z σ':Sg}} {{gb m0 m1 sa ma b3 b4:Nat}} {{es0 es1:List (V × V)}} {{A:List a_}} {{L3 L4:List dF}} (h:mW E Z gb m0 m1 sa ma b3 b4 es0 es1 A L3 L4) {e:dF} (he:e ∈ L3) {ks:List a_} (hs:Lb.cO σ' e.s e.m ks) (k:∀ (j:Nat) (o:O),j ≠ e.m -> Z[j]? = some o -> σ'[j]? = some o):mW E σ' gb m0 m1 sa ma b3 b4 es0 es1 A (oQ L3 e.key ks) L4:=by
 obtain ⟨f1,f2,f3⟩:=h.facts
 have hm:e.m ∈ L3.map dF.m:=mem_map.2 ⟨e,he,rfl⟩
 obtain ⟨n1,n2,n3,n4,n5⟩:=f3 e.m (Or.inl hm)
 have hx:=(h.jH.sets e he).map
 have ng:gb ≠ e.m:=fun e'=>by
  have:=h.g
  rw [e',hx] at this
  cases this
 have nb:=n4
 exact ⟨k _ _ ng h.g,k _ _ n1 h.rules,k _ _ n2 h.iU,cO.keep h.all hx n3 k,iG.up h.jH he f1 nb hs k,h.jB.keep hx n5 (fun hx'=>h.QV _ hm hx') k,by rw [It]; exact h.sep⟩
theorem mW.Lw {{Z σ':Sg}} {{gb m0 m1 sa ma b3 b4:Nat}} {{es0 es1:List (V × V)}} {{A:List a_}} {{L3 L4:List dF}} (h:mW E Z gb m0 m1 sa ma b3 b4 es0 es1 A L3 L4) {e:dF} (he:e ∈ L4) {ks:List a_} (hs:Lb.cO σ' e.s e.m ks) (k:∀ (j:Nat) (o:O),j ≠ e.m -> Z[j]? = some o -> σ'[j]? = some o):mW E σ' gb m0 m1 sa ma b3 b4 es0 es1 A L3 (oQ L4 e.key ks):=by
 obtain ⟨f1,f2,f3⟩:=h.facts
 have hm:e.m ∈ L4.map dF.m:=mem_map.2 ⟨e,he,rfl⟩
 obtain ⟨n1,n2,n3,n4,n5⟩:=f3 e.m (Or.inr hm)
 have hx:=(h.jB.sets e he).map
 have ng:gb ≠ e.m:=fun e'=>by
  have:=h.g
  rw [e',hx] at this
  cases this
 have nb:=n5
 exact ⟨k _ _ ng h.g,k _ _ n1 h.rules,k _ _ n2 h.iU,cO.keep h.all hx n3 k,h.jH.keep hx n4 (fun hx'=>h.QV _ hx' hm) k,iG.up h.jB he f2 nb hs k,by rw [It]; exact h.sep⟩
end
end
section
section
variable {E:Env} {Z:Sg} {K:V -> Sg -> Prop}
theorem iG.nH {Z σ1:Sg} {b:Nat} {L:List dF} (h:iG Z b L) (k:Lb.rS Z σ1):iG σ1 b L:=⟨k _ _ h.map,fun e he=>⟨k _ _ (h.sets e he).obj,k _ _ (h.sets e he).map,(h.sets e he).nodup⟩,h.nodup⟩
theorem mW.nH {{Z σ1:Sg}} {{gb m0 m1 sa ma b3 b4:Nat}} {{es0 es1:List (V × V)}} {{A:List a_}} {{L3 L4:List dF}} (h:mW E Z gb m0 m1 sa ma b3 b4 es0 es1 A L3 L4) (k:Lb.rS Z σ1):mW E σ1 gb m0 m1 sa ma b3 b4 es0 es1 A L3 L4:=
 ⟨k _ _ h.g,k _ _ h.rules,k _ _ h.iU,⟨k _ _ h.all.obj,k _ _ h.all.map,h.all.nodup⟩,h.jH.nH k,h.jB.nH k,h.sep⟩
theorem mW.below {Z:Sg} {gb m0 m1 sa ma b3 b4:Nat} {es0 es1:List (V × V)} {A:List a_} {L3 L4:List dF} (h:mW E Z gb m0 m1 sa ma b3 b4 es0 es1 A L3 L4) {m:Nat} (hm:Z.length <= m):m ∉ m0 :: m1 :: ma :: b3 :: b4 :: (L3.map dF.m ++ L4.map dF.m):=by
 have lt:∀ {i:Nat} {o:O},Z[i]? = some o -> i < m:=fun e=>Nat.lt_of_lt_of_le (List.getElem?_eq_some_iff.1 e).1 hm
 have h0:=lt h.rules
 have h1:=lt h.iU
 have h2:=lt h.all.map
 have h3:=lt h.jH.map
 have h4:=lt h.jB.map
 intro hx
 simp only [mem_cons,mem_append,mem_map] at hx
 rcases hx with e | e | e | e | e | ⟨e,he,e'⟩ | ⟨e,he,e'⟩
 ·omega
 ·omega
 ·omega
 ·omega
 ·omega
 ·have:=lt (h.jH.sets e he).map; omega
 ·have:=lt (h.jB.sets e he).map; omega
theorem iG.new {Z:Sg} {b:Nat} {L:List dF} {x:a_} {s m:Nat} (h:iG Z b L) (hx:bX L x = none) (hs:Lb.cO Z s m []) (hb:b ∉ L.map dF.m) (hm:m ≠ b):iG (Z.set b (.map ((L ++ [dF.mk x s m []]).map nJ))) b (L ++ [dF.mk x s m []]):=by
 have k:∀ (j:Nat) (o:O),j ≠ b -> Z[j]? = some o -> (Z.set b (.map ((L ++ [dF.mk x s m []]).map nJ)))[j]? = some o:=fun j o hj ho=>by
  rw [getElem?_set_ne (Ne.symm hj)]; exact ho
 refine ⟨getElem?_set_self (List.getElem?_eq_some_iff.1 h.map).1,fun e he=>?_,?_⟩
 ·rcases mem_append.1 he with he | he
  ·exact cO.keep (h.sets e he) h.map (fun e'=>hb (mem_map.2 ⟨e,he,e'⟩)) k
  ·rw [mem_singleton.1 he]
   exact cO.keep hs h.map hm k
 ·rw [map_append,nodup_append]
  refine ⟨h.nodup,by simp,fun y hy z hz e=>?_⟩
  obtain ⟨a,ha,rfl⟩:=mem_map.1 hy
  have hz:z = x:=by simpa using hz
  have:=find?_eq_none.1 hx a ha
  simp [<- hz,<- e] at this
theorem mW.OZ {{Z σ1:Sg}} {{gb m0 m1 sa ma b3 b4:Nat}} {{es0 es1:List (V × V)}} {{A:List a_}} {{L3 L4:List dF}} (h:mW E Z gb m0 m1 sa ma b3 b4 es0 es1 A L3 L4) {x:a_} (hx:bX L3 x = none) {s m:Nat} (k1:Lb.rS Z σ1) (hs:Lb.cO σ1 s m []) (hm:Z.length <= m):mW E (σ1.set b3 (.map ((L3 ++ [dF.mk x s m []]).map nJ))) gb m0 m1 sa ma b3 b4 es0 es1 A (L3 ++ [dF.mk x s m []]) L4:=by
 have h1:=h.nH k1
 have fresh:=h.below hm
 have hx1:=h1.jH.map
 have sep:=h.sep
 simp only [nodup_cons,mem_cons,mem_append,not_or] at sep
 obtain ⟨⟨-,-,a3,-⟩,⟨-,b3',-⟩,⟨c3,-⟩,⟨n3,n4,n5⟩,-⟩:=sep
 have hmb:m ≠ b3:=fun e=>fresh (by rw [e]; simp)
 have new:=iG.new h1.jH hx hs n4 hmb
 have ng:gb ≠ b3:=fun e=>by
  have:=h1.g
  rw [e,hx1] at this
  cases this
 have k:∀ (j:Nat) (o:O),j ≠ b3 -> σ1[j]? = some o -> (σ1.set b3 (.map ((L3 ++ [dF.mk x s m []]).map nJ)))[j]? = some o:=fun j o hj ho=>by
  rw [getElem?_set_ne (Ne.symm hj)]; exact ho
 have hp:(m0 :: m1 :: ma :: b3 :: b4 :: ((L3 ++ [dF.mk x s m []]).map dF.m ++ L4.map dF.m)).Perm (m :: (m0 :: m1 :: ma :: b3 :: b4 :: (L3.map dF.m ++ L4.map dF.m))):=by simpa using List.perm_middle (l₁:=m0 :: m1 :: ma :: b3 :: b4 :: L3.map dF.m) (a:=m) (l₂:=L4.map dF.m)
 exact ⟨k _ _ ng h1.g,k _ _ a3 h1.rules,k _ _ b3' h1.iU,cO.keep h1.all hx1 c3 k,new,h1.jB.keep hx1 (fun e=>n3 e.symm) n5 k,hp.nodup_iff.2 (nodup_cons.2 ⟨fresh,h.sep⟩)⟩
theorem mW.Oh {{Z σ1:Sg}} {{gb m0 m1 sa ma b3 b4:Nat}} {{es0 es1:List (V × V)}} {{A:List a_}} {{L3 L4:List dF}} (h:mW E Z gb m0 m1 sa ma b3 b4 es0 es1 A L3 L4) {x:a_} (hx:bX L4 x = none) {s m:Nat} (k1:Lb.rS Z σ1) (hs:Lb.cO σ1 s m []) (hm:Z.length <= m):mW E (σ1.set b4 (.map ((L4 ++ [dF.mk x s m []]).map nJ))) gb m0 m1 sa ma b3 b4 es0 es1 A L3 (L4 ++ [dF.mk x s m []]):=by
 have h1:=h.nH k1
 have fresh:=h.below hm
 have hx1:=h1.jB.map
 have sep:=h.sep
 simp only [nodup_cons,mem_cons,mem_append,not_or] at sep
 obtain ⟨⟨-,-,-,a3,-⟩,⟨-,-,b3',-⟩,⟨-,c3,-⟩,⟨n3,-,-⟩,⟨n4,n5⟩,-⟩:=sep
 have hmb:m ≠ b4:=fun e=>fresh (by rw [e]; simp)
 have new:=iG.new h1.jB hx hs n5 hmb
 have ng:gb ≠ b4:=fun e=>by
  have:=h1.g
  rw [e,hx1] at this
  cases this
 have k:∀ (j:Nat) (o:O),j ≠ b4 -> σ1[j]? = some o -> (σ1.set b4 (.map ((L4 ++ [dF.mk x s m []]).map nJ)))[j]? = some o:=fun j o hj ho=>by
  rw [getElem?_set_ne (Ne.symm hj)]; exact ho
 have hp:(m0 :: m1 :: ma :: b3 :: b4 :: (L3.map dF.m ++ (L4 ++ [dF.mk x s m []]).map dF.m)).Perm (m :: (m0 :: m1 :: ma :: b3 :: b4 :: (L3.map dF.m ++ L4.map dF.m))):=by simpa using List.perm_middle (l₁:=m0 :: m1 :: ma :: b3 :: b4 :: (L3.map dF.m ++ L4.map dF.m)) (a:=m) (l₂:=[])
 exact ⟨k _ _ ng h1.g,k _ _ a3 h1.rules,k _ _ b3' h1.iU,cO.keep h1.all hx1 c3 k,h1.jH.keep hx1 n3 n4 k,new,hp.nodup_iff.2 (nodup_cons.2 ⟨fresh,h.sep⟩)⟩
end
end
section
section
variable {E:Env} {Z:Sg} {K:V -> Sg -> Prop}
theorem VE (h:bM E) (h':x_ E) (hl:Lb.kB E) {Y:Sg} {{gb m0 m1 sa ma b3 b4:Nat}} {{es0 es1:List (V × V)}} {{A:List a_}} {{L3 L4:List dF}} (ga:mW E Y gb m0 m1 sa ma b3 b4 es0 es1 A L3 L4) {x y:a_} {n0 n1:Nat} (hx:Y[n0]? = some (O.cells 46 [.bool x.1,.str x.2] true)) (hy:Y[n1]? = some (O.cells 46 [.bool y.1,.str y.2] true)) (hA:A.length <= 1000000) (F:FT) (g0:F.get 0 = .ref gb 0) (g4:F.get 4 = .ref n0 0) (g5:F.get 5 = .ref n1 0) {st:List kY} {Q:Ax.X -> Fr -> Sg -> Prop}
  (hk:∀ F' τ',(∀ k,k ∈ [0,4,5] -> F'.get k = F.get k) -> mW E τ' gb m0 m1 sa ma b3 b4 es0 es1 (keys A [x,y]) L3 L4 -> τ'[n0]? = some (O.cells 46 [.bool x.1,.str x.2] true) -> τ'[n1]? = some (O.cells 46 [.bool y.1,.str y.2] true) -> Lb.dO Y τ' -> M E st .normal ⟨57,F'⟩ τ' Q):Ax.R E (.region 1 (opsOf (cutAt [1,0] (aA Tryz.f73).code)) true) st ⟨57,F⟩ Y Q:=by
 have ga1:=ga.app (O.cells 46 [.bool x.1,.str x.2,.bool y.1,.str y.2] true)
 have hx1:=aL (x:=O.cells 46 [.bool x.1,.str x.2,.bool y.1,.str y.2] true) hx
 have hy1:=aL (x:=O.cells 46 [.bool x.1,.str x.2,.bool y.1,.str y.2] true) hy
 have hsv:Lb.SV (Y ++ [O.cells 46 [.bool x.1,.str x.2,.bool y.1,.str y.2] true]) (.sl Y.length 0 2 none) [x,y]:=.inr (.inr ⟨Y.length,_,true,rfl,aR,rfl⟩)
 obtain ⟨n,r,τ2,hcall,hr,hset,hkp⟩:=Lb.NU hl ga1.all hsv (show 2 <= 10000000000 by omega) (by omega)
 have ga2:=ga1.more hset hkp
 have hma:=ga1.all.map
 have ne:∀ {k:Nat} {t:Nat} {cs:List V} {ex:Bool},(Y ++ [O.cells 46 [.bool x.1,.str x.2,.bool y.1,.str y.2] true])[k]? = some (.cells t cs ex) -> k ≠ ma:=fun hk e=>by
  rw [e,hma] at hk
  cases hk
 have hx2:=hkp _ _ (ne hx1) hx1
 have hy2:=hkp _ _ (ne hy1) hy1
 have g:=ga.g
 have g1:=ga1.g
 have vr:r_ 12 (.ref sa 0) (.ref sa 0) = true:=by unfold r_; simp
 have key:∃ F',cC E (ev E n) (opsOf (cutAt [1,0] (aA Tryz.f73).code)) ⟨57,F⟩ Y = some (⟨57,F'⟩,τ2) /\ (∀ k,k ∈ [0,4,5] -> F'.get k = F.get k):=by
  unfold cC
  rw [h'.Ti,h'.UM]
  simp only [aA,Tryz.f73,KP,Ax.loadAt,↓reduceIte,reduceEqDiff,reduceLT,reduceLeDiff,reduceAdd,reduceMul,reduceCtorEq,h.E6,h.nE,opsOf,cutAt,Fz.lits,gW,bJ,bW,kC,Ax.comp,Ax.last,g_,Ax.again,Ax.fill,gR,Nat.zero_mul,hl.CJ,h'.zT,g0,g4,g5,hx,hy,g,g1,hcall,vr]
  refine ⟨_,rfl,fun k hk=>?_⟩
  simp only [mem_cons,List.not_mem_nil,or_false] at hk
  rcases hk with rfl | rfl | rfl <;> simp +decide only [GS]
 obtain ⟨F',hD,hF⟩:=key
 exact Eq.mpr (iI hD) (hk F' τ2 hF ga2 hx2 hy2 ((Lb.dO.app Y _).trans (Lb.Kp.sZ hkp hma)))
end
end
section
section
variable {E:Env} {Z:Sg} {K:V -> Sg -> Prop}
theorem jL {L:List dF} {x:a_} {e:dF} (h:bX L x = some e):e ∈ L /\ x = e.key:=by
 unfold bX at h
 exact ⟨List.mem_of_find?_eq_some h,by have:=find?_some h; simpa using this⟩
theorem Jg (h:bM E) (h':x_ E) (hl:Lb.kB E) {Y:Sg} {nb mb:Nat} {L:List dF} {x y:a_} {e:dF} (hm:iG Y mb L) (he:bX L x = some e) (hb:Y[nb]? = some (O.cells 144 [.mp mb,.bool x.1,.str x.2,.bool y.1,.str y.2] true)) (hks:e.ks.length <= 1000000) (hmb:mb ≠ e.m) (F:FT) (g7:F.get 7 = .ref nb 0) {st:List kY} {Q:Ax.X -> Fr -> Sg -> Prop}
  (hk:∀ F' τ',(∀ k,k ∈ [0,4,5,7,30,31,32] -> F'.get k = F.get k) -> Lb.cO τ' e.s e.m (keys e.ks [y]) -> Lb.Kp (Y ++ [O.cells 46 [.bool y.1,.str y.2] true]) τ' e.m -> M E st .normal ⟨57,F'⟩ τ' Q):Ax.R E (.region 7 (opsOf (cutAt [1,1,1,2,2,1,1,0,2,1,1] (aA Tryz.f73).code)) true) st ⟨57,F⟩ Y Q:=by
 obtain ⟨hme,hxe⟩:=jL he
 have hm1:=hm.app (O.cells 46 [.bool y.1,.str y.2] true)
 have hb1:=aL (x:=O.cells 46 [.bool y.1,.str y.2] true) hb
 have hs1:=hm1.sets e hme
 have hsv:Lb.SV (Y ++ [O.cells 46 [.bool y.1,.str y.2] true]) (.sl Y.length 0 1 none) [y]:=.inr (.inr ⟨Y.length,_,true,rfl,aR,rfl⟩)
 obtain ⟨n,r,τ2,hcall,hr,hset,hkp⟩:=Lb.NU hl hs1 hsv (show 1 <= 10000000000 by omega) (by omega)
 have ne:nb ≠ e.m:=fun e'=>by
  have:=hs1.map
  rw [<- e',hb1] at this
  cases this
 have lk:lookup E Y 105 (.mp mb) (.agg [.bool x.1,.str x.2]) false = some (.ref e.s 0):=by
  have:=xE h' hl hm x
  rw [he] at this
  exact this
 have lk1:lookup E (Y ++ [O.cells 46 [.bool y.1,.str y.2] true]) 105 (.mp mb) (.agg [.bool x.1,.str x.2]) false = some (.ref e.s 0):=by
  have:=xE h' hl hm1 x
  rw [he] at this
  exact this
 have lk2:lookup E τ2 105 (.mp mb) (.agg [.bool x.1,.str x.2]) false = some (.ref e.s 0):=by
  have:=Dy h' hl (hkp _ _ hmb hm1.map) x
  rw [he] at this
  exact this
 have vr:r_ 12 (.ref e.s 0) (.ref e.s 0) = true:=by unfold r_; simp
 have vm:r_ 12 (.mp mb) (.mp mb) = true:=by unfold r_; simp
 have vl:r_ 12 (.agg [.bool x.1,.str x.2]) (.agg [.bool x.1,.str x.2]) = true:=oO fun z hz=>by
  simp only [mem_cons,List.not_mem_nil,or_false] at hz
  rcases hz with rfl | rfl
  ·show decide (x.1 = x.1) = true
   simp
  ·exact vZ 10 x.2
 have key:∃ F',cC E (ev E n) (opsOf (cutAt [1,1,1,2,2,1,1,0,2,1,1] (aA Tryz.f73).code)) ⟨57,F⟩ Y = some (⟨57,F'⟩,τ2) /\ (∀ k,k ∈ [0,4,5,7,30,31,32] -> F'.get k = F.get k):=by
  unfold cC
  rw [h'.Tg,h'.UK]
  simp only [aA,Tryz.f73,KP,Ax.loadAt,↓reduceIte,reduceEqDiff,reduceLT,reduceLeDiff,reduceAdd,reduceMul,reduceCtorEq,h.E6,h.nE,opsOf,cutAt,Fz.lits,gW,bJ,bW,kC,Ax.comp,Ax.last,g_,Ax.again,Ax.fill,gR,Nat.zero_mul,h'.uK,h'.v_,g7,hb,hb1,lk,lk1,hcall,vr,vm,vl]
  refine ⟨_,rfl,fun k hk=>?_⟩
  simp only [mem_cons,List.not_mem_nil,or_false] at hk
  rcases hk with rfl | rfl | rfl | rfl | rfl | rfl | rfl <;> simp +decide only [GS]
 obtain ⟨F',hD,hF⟩:=key
 exact Eq.mpr (iI hD) (hk F' τ2 hF hset hkp)
end
end
section
section
variable {E:Env} {Z:Sg} {K:V -> Sg -> Prop}
theorem QO (h:bM E) (h':x_ E) (hl:Lb.kB E) {Y:Sg} {nb mb:Nat} {L:List dF} {x y:a_} (hm:iG Y mb L) (he:bX L x = none) (hb:Y[nb]? = some (O.cells 144 [.mp mb,.bool x.1,.str x.2,.bool y.1,.str y.2] true)) (F:FT) (g7:F.get 7 = .ref nb 0) {st:List kY} {Q:Ax.X -> Fr -> Sg -> Prop}
  (hk:∀ F' τ1 m,(∀ k,k ∈ [0,4,5,7,30,31,32] -> F'.get k = F.get k) -> Lb.rS Y τ1 -> Lb.cO τ1 Y.length m [] -> Y.length < m -> M E st .normal ⟨57,F'⟩ (τ1.set mb (.map ((L ++ [dF.mk x Y.length m []]).map nJ))) Q):Ax.R E (.region 6 (opsOf (cutAt [1,1,1,2,2,1,1,0,2,1,0,1,0] (aA Tryz.f73).code)) true) st ⟨57,F⟩ Y Q:=by
 obtain ⟨n,r,τ1,hcall,m,rfl,hset,hlt,nH⟩:=Lb.QY hl (Z:=Y) (v:=.aC) (l:=[]) (.inl ⟨rfl,rfl⟩) (by simp)
 have hb1:=nH _ _ hb
 have put:=Ek h' hl (hm.nH nH) he (s:=Y.length) (m:=m) (ks:=[])
 unfold p_ at put
 have vm:r_ 12 (.mp mb) (.mp mb) = true:=by unfold r_; simp
 have vl:r_ 12 (.agg [.bool x.1,.str x.2]) (.agg [.bool x.1,.str x.2]) = true:=oO fun z hz=>by
  simp only [mem_cons,List.not_mem_nil,or_false] at hz
  rcases hz with rfl | rfl
  ·show decide (x.1 = x.1) = true
   simp
  ·exact vZ 10 x.2
 have key:∃ F',cC E (ev E n) (opsOf (cutAt [1,1,1,2,2,1,1,0,2,1,0,1,0] (aA Tryz.f73).code)) ⟨57,F⟩ Y = some (⟨57,F'⟩,τ1.set mb (.map ((L ++ [dF.mk x Y.length m []]).map nJ))) /\ (∀ k,k ∈ [0,4,5,7,30,31,32] -> F'.get k = F.get k):=by
  unfold cC
  rw [h'.Th,h'.UL]
  simp only [aA,Tryz.f73,KP,Ax.loadAt,↓reduceIte,reduceEqDiff,reduceLT,reduceLeDiff,reduceAdd,reduceCtorEq,h.nE,opsOf,cutAt,gW,bJ,bW,kC,Ax.comp,Ax.last,g_,Ax.again,aO,h'.uK,h'.v_,g7,hb,hb1,hcall,put,vm,vl]
  refine ⟨_,rfl,fun k hk=>?_⟩
  simp only [mem_cons,List.not_mem_nil,or_false] at hk
  rcases hk with rfl | rfl | rfl | rfl | rfl | rfl | rfl <;> simp +decide only [GS]
 obtain ⟨F',hD,hF⟩:=key
 exact Eq.mpr (iI hD) (hk F' τ1 m hF nH hset hlt)
end
end
section
section
variable {E:Env} {Z:Sg} {K:V -> Sg -> Prop}
theorem GH (h:bM E) (h':x_ E) {g g1:Bool} {c0 c2 c3 c4:V} {es:List (V × V)} {get:aM -> Option V} {f:aM} (hs:SM E es get) {v:V} (hv:(get f = none /\ v = .fN [.str [],.bool false]) \/ ∃ n,get f = some (.str n) /\ v = .fN [.str n,.bool true]):aB E 37 [.dB g [c0,.imp g1 es,c2,c3,c4],.str f] Z K = K v Z:=by
 refine aB.of ?_
 have hi:Ax.bB (.dB g [c0,.imp g1 es,c2,c3,c4]) = true:=rfl
 have ew:=eZ (Z:=Z) (ty:=E.ty) hi (dG hi)
 rw [aH h'.hs37 h'.sp37 h'.fn37 h'.md37 (args':=[.dB g [c0,.imp g1 es,c2,c3,c4],.str f]) (by simp only [aX,cL,ew]),bD (by kernel_rfl)]
 have hlk:=fun Z=>Jf (Z:=Z) (x:=.imp g1 es) h rfl hs f
 have en:sA E 41 true (.dB g [c0,.imp g1 es,c2,c3,c4]) .gZ = some false:=by unfold sA; rw [h'.Tq]
 rcases hv with ⟨hg,rfl⟩ | ⟨n,hg,rfl⟩
 ·rw [hg] at hlk
  simp only [aA,Tryz.f37,KP,Ax.loadAt,↓reduceIte,reduceEqDiff,reduceLT,reduceAdd,reduceCtorEq,h.Ba,kP,en,hlk,h'.zT]
  exact rfl
 ·rw [hg] at hlk
  simp only [aA,Tryz.f37,KP,Ax.loadAt,↓reduceIte,reduceEqDiff,reduceLT,reduceAdd,reduceCtorEq,h.Ba,kP,en,hlk,h'.zT]
  exact rfl
end
end
section
section
variable {E:Env} {Z:Sg} {K:V -> Sg -> Prop}
theorem RX (h:bM E) (h':x_ E) {τ0 Y:Sg} {w p1 p2 p3 p4:V} {l:List aM} {r:aF} {y mA:Nat} {es:List (V × V)} {N:aF -> aM -> Prop} {rs:List aF} (ow:bH aJ 9 Y w l) (hl:l.length <= 1000000) (kp:Kp τ0 Y) (fr:∀ b,aT w = some b -> τ0.length <= b) (hy:τ0[y]? = some (O.cells 37 [.str r.name,p1,p2,p3,p4] true)) (hA:τ0[mA]? = some (.map es)) (ha:vW τ0 N es rs) (hn:∀ q ∈ rs,q.name ≠ r.name) (hm:∀ x,x ∈ l ↔ N r x)
  (F:FT) (g8:F.get 4 = .mp mA) (g10:F.get 6 = .ref y 0) (g11:F.get 7 = w) {st:List kY} {Q:Ax.X -> Fr -> Sg -> Prop}
  (hk:∀ F' τ' es',(∀ k,k ∈ [0,3,4,17,18,19] -> F'.get k = F.get k) -> τ'[mA]? = some (.map es') -> vW τ' N es' (rs ++ [r]) -> (∀ (c:Nat) (o:O),τ0[c]? = some o -> c ≠ mA -> τ'[c]? = some o) -> M E st .normal ⟨54,F'⟩ τ' Q):R E (.region 17 (opsOf (cutAt [1,1,1,1,0,1,2,2,1,1,0,2,1,1,1,1] (aA Tryz.f63).code)) true) st ⟨54,F⟩ Y Q:=by
 obtain ⟨n,v,τ1,hcall,⟨l',ol,hle,hmem⟩,hbk,sp,hlen⟩:=DP h ow hl
 have kp1:Kp τ0 τ1:=fun c o hc=>sp c o (kp c o hc) fun e=>absurd (List.getElem?_eq_some_iff.1 hc).1 (by have:=fr c e; omega)
 have hy0:=kp _ _ hy
 have hy1:=kp1 _ _ hy
 have hA1:=kp1 _ _ hA
 obtain ⟨hu,ha2⟩:=Is h hA1 (ha.keep hA fun c o hc _=>kp1 c o hc) hn ol (by omega) (fun x=>(hmem x).trans (hm x))
 have vs:=vZ 11 r.name
 have key:∃ F',cC E (ev E n) (opsOf (cutAt [1,1,1,1,0,1,2,2,1,1,0,2,1,1,1,1] (aA Tryz.f63).code)) ⟨54,F⟩ Y = some (⟨54,F'⟩,τ1.set mA (.map (es ++ [(.str r.name,v)]))) /\ (∀ k,k ∈ [0,3,4,17,18,19] -> F'.get k = F.get k):=by
  unfold cC
  rw [h'.Q8,h'.RT]
  simp only [aA,Tryz.f63,KP,Ax.loadAt,↓reduceIte,reduceEqDiff,reduceLT,reduceAdd,reduceCtorEq,h.cK,h.bE,opsOf,cutAt,gW,bJ,bW,kC,Ax.comp,Ax.last,g_,Ax.again,aO,g8,g10,g11,hy0,hy1,hcall,hu,vs]
  refine ⟨_,rfl,fun k hk=>?_⟩
  simp only [mem_cons,List.not_mem_nil,or_false] at hk
  rcases hk with rfl | rfl | rfl | rfl | rfl | rfl <;> simp +decide only [GS]
 obtain ⟨F',hD,h1⟩:=key
 refine Eq.mpr (iI hD) (hk F' _ _ h1 (by rw [getElem?_set_self (List.getElem?_eq_some_iff.1 hA1).1]) ha2 fun c o hc hcm=>?_)
 rw [getElem?_set_ne (Ne.symm hcm)]
 exact kp1 c o hc
end
end
section
section
variable {E:Env} {Z:Sg} {K:V -> Sg -> Prop}
theorem UT (h:bM E) (h':x_ E) {a:V} {rs:List aF} (ia:IS cV a rs) (hs:∀ x ∈ rs,Small x) (hsh:CC rs) (hl:rs.length <= 1000) {gv c0 c2 c3 c4:V} {gg g1:Bool} {es0:List (V × V)} {get:aM -> Option V} (hgv:gv = .dB gg [c0,.imp g1 es0,c2,c3,c4]) (hsm:SM E es0 get) (hmk:MK get (Mk rs)) (F:FT) (g0:F.get 0 = a) (g3:F.get 3 = gv) :
  R E (cutAt [1,1,1] (aA Tryz.f63).code) [] ⟨54,F⟩ [] (lT E (aA Tryz.f63).results (fun v σ1=>match cT σ1 E.ty false v with
   | some v=>∃ es,v = .imp false es /\ xZ (Nx rs) es rs
   | none=>False)):=by
 have la:=cA h ia
 have rest:=fun {τ0 Y w p1 p2 p3 p4 l r y mA es rs'} ow hl' kp fr hy hA ha hn hm F g8 g10 g11 st Q hk=>RX (τ0:=τ0) (Y:=Y) (w:=w) (p1:=p1) (p2:=p2) (p3:=p3) (p4:=p4) (l:=l) (r:=r) (y:=y) (mA:=mA) (es:=es) (N:=Nx rs) (rs:=rs') h h' ow hl' kp fr hy hA ha hn hm F g8 g10 g11 (st:=st) (Q:=Q) hk
 simp only [aA,Tryz.f63,KP,↓reduceIte,reduceLT,reduceCtorEq,cutAt,g0,la]
 refine aQ (fun i F Y=>F.get 0 = a /\ F.get 3 = gv /\ F.get 4 = .mp 0 /\ F.get 17 = a /\ F.get 18 = .int .i64 (rs.length:Int) /\ F.get 19 = .int .i64 (i:Int) /\ ∃ es,Y[0]? = some (.map es) /\ vW Y (Nx rs) es (rs.take i)) rs.length ?_ ?_ rs.length 0 _ _ (by omega) (Cr (by simp +decide only [GS,g0,g3,and_self]) ⟨[],rfl,.nil⟩)
 ·rintro i F Y hi ⟨g0,g3,g8,g37,g38,g39,es,hA,ha⟩ next
  obtain ⟨r,hr⟩:∃ y,rs[i]? = some y:=⟨_,List.getElem?_eq_getElem hi⟩
  have hrm:=mem_of_getElem? hr
  obtain ⟨g,p1,p2,p3,p4,e1,i1,i2,i3,i4⟩:=eM h ia hr
  have hsr:=hs r hrm
  have a1:=hsr.ins
  have a3:=hsr.after
  have o1:=aI i1.bB
  have o2:=aI i2.bB
  have o3:=aI i3.bB
  have o4:=aI i4.bB
  have hlt:=dR hi
  have hadd:=bU i (by omega)
  have li:=bK h i1
  have hnn:∀ q ∈ rs.take i,q.name ≠ r.name:=fun q hq e=>by
   obtain ⟨j,hj⟩:=List.mem_iff_getElem?.1 hq
   have hji:j < i:=by have:=(List.getElem?_eq_some_iff.1 hj).1; rw [length_take] at this; omega
   rw [List.getElem?_take_of_lt hji] at hj
   have:=hsh.nodup j i q r hj hr e
   omega
  have hA1:=aL (x:=O.cells 37 [.str r.name,p1,p2,p3,p4] true) hA
  have ha1:vW (Y ++ [O.cells 37 [.str r.name,p1,p2,p3,p4] true]) (Nx rs) es (rs.take i):=ha.keep hA fun c o hc _=>aL hc
  have s1:(Y ++ [O.cells 37 [.str r.name,p1,p2,p3,p4] true])[Y.length]? = some (O.cells 37 [.str r.name,p1,p2,p3,p4] true):=aR
  rw [aG]
  simp only [KP,Ax.loadAt,Ax.storeAt,↓reduceIte,reduceEqDiff,reduceLT,reduceAdd,reduceCtorEq,h.aS,h.bE,g37,g38,g39,hlt,e1,o1,o2,o3,o4,aR,cU]
  generalize Y ++ [O.cells 37 [.str r.name,p1,p2,p3,p4] true] = τ1 at *
  generalize Y.length = y at *
  refine aU (pA h i3 (by omega)) ?_
  rintro w0 τ2 ⟨ow0,kp0,fr0⟩
  have s2:=kp0 _ _ s1
  simp only [KP,Ax.loadAt,↓reduceIte,reduceEqDiff,reduceLT,reduceCtorEq,h.aS,h.bE,s2,li]
  refine aQ (fun j F Y=>F.get 0 = a /\ F.get 3 = gv /\ F.get 4 = .mp 0 /\ F.get 17 = a /\ F.get 18 = .int .i64 (rs.length:Int) /\ F.get 19 = .int .i64 (i:Int) /\ F.get 6 = .ref y 0 /\ F.get 27 = p1 /\ F.get 28 = .int .i64 (r.ins.length:Int) /\ F.get 29 = .int .i64 (j:Int) /\ Kp τ1 Y /\ ∃ w cur,F.get 7 = w /\ bH aJ 9 Y w cur /\ (∀ b,aT w = some b -> τ1.length <= b) /\ cur.length <= r.after.length + j /\ (∀ x ∈ cur,x.length <= 40) /\ ∀ x,x ∈ cur ↔ x ∈ r.after \/ ∃ f ∈ r.ins.take j,Mk rs f x) r.ins.length ?_ ?_ r.ins.length 0 _ _ (by omega) (zH (by simp +decide only [GS,g0,g3,g8,g37,g38,g39,and_self]) ⟨kp0,w0,r.after,(by simp +decide only [GS]),ow0,fr0,Nat.le_refl _,hsh.N9 r hrm,fun x=>by simp⟩)
  ·rintro j F Y hj ⟨g0,g3,g8,g37,g38,g39,g10,g47,g48,g49,kp,w,cur,g11,ow,fr,hcl,hc40,hmem⟩ next2
   obtain ⟨s,hsj⟩:∃ y,r.ins[j]? = some y:=⟨_,List.getElem?_eq_getElem hj⟩
   obtain ⟨g',e2⟩:=fJ h i1 hsj
   have hlt2:=dR hj
   have hadd2:=bU j (by omega)
   have hex:∀ x,(∃ f ∈ r.ins.take (j + 1),Mk rs f x) ↔ (∃ f ∈ r.ins.take j,Mk rs f x) \/ Mk rs s x:=fun x=>by
    constructor
    ·rintro ⟨f,hf,hm⟩
     rcases (dQ hsj f).1 hf with hf | rfl
     ·exact .inl ⟨f,hf,hm⟩
     ·exact .inr hm
    ·rintro (⟨f,hf,hm⟩ | hm)
     ·exact ⟨f,(dQ hsj f).2 (.inl hf),hm⟩
     ·exact ⟨s,(dQ hsj s).2 (.inr rfl),hm⟩
   rw [aG]
   rcases hmk s with ⟨hg,hno⟩ | ⟨n,hP,hg⟩
   ·have hlk:=fun (Z:Sg)=>dA (fun K=>GH (Z:=Z) (K:=K) (g:=gg) (g1:=g1) (c0:=c0) (c2:=c2) (c3:=c3) (c4:=c4) h h' hsm (f:=s) (.inl ⟨hg,rfl⟩))
    rw [<- hgv] at hlk
    simp only [KP,Ax.loadAt,↓reduceIte,reduceEqDiff,reduceLT,h.cK,g3,g47,g48,g49,hlt2,e2,hlk,hadd2]
    refine next2 _ _ (zH (by simp +decide only [GS,g0,g3,g8,g37,g38,g39,g10,g47,g48,and_self]) ⟨kp,w,cur,(by simp +decide only [GS,g11]),ow,fr,by omega,hc40,fun x=>?_⟩)
    rw [hmem,hex]
    exact ⟨fun h=>h.elim .inl fun g=>.inr (.inl g),fun h=>h.elim .inl fun g=>.inr (g.elim id fun g=>absurd g (hno x))⟩
   ·have hlk:=fun (Z:Sg)=>dA (fun K=>GH (Z:=Z) (K:=K) (g:=gg) (g1:=g1) (c0:=c0) (c2:=c2) (c3:=c3) (c4:=c4) h h' hsm (f:=s) (.inr ⟨n,hg,rfl⟩))
    rw [<- hgv] at hlk
    obtain ⟨w',τ',hap,ow',sp',hln',fr'⟩:=i_ (ats:=#[28,28]) (m:=[n]) (new:=[[.str n]]) h.aS rfl h.cK rfl (by decide) (gI h) rfl (ow.app [.cells 9 [.str n] true]) (jT rfl) (.one rfl) (dX (b:=1000) (by decide) (by simp only [length_cons,length_nil]; omega))
    simp only [KP,Ax.loadAt,↓reduceIte,reduceEqDiff,reduceLT,reduceLeDiff,reduceMul,h.cK,h.aS,g3,g11,g47,g48,g49,hlt2,e2,hlk,iM,hap,hadd2]
    refine next2 _ _ (zH (by simp +decide only [GS,g0,g3,g8,g37,g38,g39,g10,g47,g48,and_self]) ⟨fun c o hc=>sp' c o (aL (kp c o hc)) fun e=>absurd (List.getElem?_eq_some_iff.1 hc).1 (by have:=fr c e; omega),w',cur ++ [n],(by simp +decide only [GS]),ow',fun b hb=>?_,by rw [length_append,List.length_singleton]; omega,fun x hx=>?_,fun x=>?_⟩)
    ·rcases fr' b hb with g | g
     ·exact fr b g
     ·have h1:=(List.getElem?_eq_some_iff.1 (kp _ _ s1)).1
      have h2:τ1.length <= Y.length:=by
       refine Nat.le_of_not_lt fun hlt=>?_
       obtain ⟨o,ho⟩:∃ o,τ1[Y.length]? = some o:=⟨_,List.getElem?_eq_getElem hlt⟩
       exact absurd (List.getElem?_eq_some_iff.1 (kp _ _ ho)).1 (Nat.lt_irrefl _)
      simp only [length_append,length_cons,length_nil] at g
      omega
    ·rcases mem_append.1 hx with hx | hx
     ·exact hc40 x hx
     ·rw [mem_singleton.1 hx]; exact hP.short hsh
    ·rw [mem_append,hmem,hex,mem_singleton]
     constructor
     ·rintro ((h1 | h1) | rfl)
      ·exact .inl h1
      ·exact .inr (.inl h1)
      ·exact .inr (.inr hP)
     ·rintro (h1 | h1 | h1)
      ·exact .inl (.inl h1)
      ·exact .inl (.inr h1)
      ·exact .inr (hsh.iU s x n h1 hP)
  ·rintro F Y ⟨g0,g3,g8,g37,g38,g39,g10,g47,g48,g49,kp,w,cur,g11,ow,fr,hcl,hc40,hmem⟩
   rw [take_of_length_le (Nat.le_refl _)] at hmem
   have hlt2:=dS (Nat.lt_irrefl r.ins.length)
   obtain ⟨τ3,cur',hS,hperm,ow3,Fe,hln3⟩:=tX ow (by omega) (fun x hx=>by have:=hc40 x hx; omega)
   have ks:=dA (fun K=>show aB E 64 [w] Y K = K (.fN []) τ3 by rw [nD h.EF,hS]; rfl)
   have kp3:Kp τ1 τ3:=fun c o hc=>Fe c o (kp c o hc) fun e=>absurd (List.getElem?_eq_some_iff.1 hc).1 (by have:=fr c e; omega)
   rw [aG]
   simp only [KP,↓reduceIte,reduceEqDiff,reduceLT,g11,g48,g49,hlt2,ks]
   refine rest (rs':=rs.take i) ow3 (by rw [hperm.length_eq]; omega) kp3 fr s1 hA1 ha1 hnn (fun x=>?_) _ ?_ ?_ ?_ _ _ ?_
   ·rw [hperm.mem_iff,hmem]; exact Iff.rfl
   ·exact (by simp +decide only [GS,g8])
   ·exact (by simp +decide only [GS,g10])
   ·exact (by simp +decide only [GS,g11])
   intro F' τ' es' hF hA' ha' hk'
   have q0:F'.get 0 = a:=(hF 0 (by simp)).trans (by simp +decide only [GS,g0])
   have q3:F'.get 3 = gv:=(hF 3 (by simp)).trans (by simp +decide only [GS,g3])
   have q8:F'.get 4 = .mp 0:=(hF 4 (by simp)).trans (by simp +decide only [GS,g8])
   have Ux:F'.get 17 = a:=(hF 17 (by simp)).trans (by simp +decide only [GS,g37])
   have q38:F'.get 18 = .int .i64 (rs.length:Int):=(hF 18 (by simp)).trans (by simp +decide only [GS,g38])
   have q39:F'.get 19 = .int .i64 (i:Int):=(hF 19 (by simp)).trans (by simp +decide only [GS,g39])
   simp only [KP,↓reduceIte,reduceLT,q39,hadd]
   refine next _ _ (Cr (by simp +decide only [GS,q0,q3,q8,Ux,q38,and_self]) ⟨es',hA',?_⟩)
   rw [take_add_one,hr]
   exact ha'
 ·rintro F Y ⟨g0,g3,g8,g37,g38,g39,es,hA,ha⟩
  rw [take_of_length_le (Nat.le_refl _)] at ha
  obtain ⟨es',e1,a1⟩:=Fj h hA ha
  have hlt:=dS (Nat.lt_irrefl rs.length)
  rw [aG]
  simp only [KP,↓reduceIte,reduceEqDiff,reduceLT,g8,g38,g39,hlt,e1]
  exact ⟨es',rfl,a1⟩
end
end
section
section
variable {E:Env} {Z:Sg} {K:V -> Sg -> Prop}
def JM (E:Env):Prop:=∀ {Z:Sg} {a:V} {rs:List aF},LS cV 37 Z a rs -> (∀ x ∈ rs,Small x) -> eU rs -> aB E 19 [a] Z fun v σ'=>σ' = Z /\ ∃ g g1 c0 c2 c3 c4 es get,v = .dB g [c0,.imp g1 es,c2,c3,c4] /\ SM E es get /\ MK get (Mk rs)
theorem Kn (h:bM E) (h':x_ E) (hw:JM E):zR E:=by
 intro Z a rs ha hs hr
 obtain ⟨a',ea,ia⟩:=dW h ha
 have hg:=lI hr.1
 have h40:=hg.len
 rw [aH h'.hs63 h'.sp63 h'.fn63 h'.md63 (args':=[a']) (by simp only [aX,ea]),bD (by kernel_rfl)]
 have key:=fun gv c0 c2 c3 c4 gg g1 es0 get hgv hsm hmk F g0 g3=>UT (gv:=gv) (c0:=c0) (c2:=c2) (c3:=c3) (c4:=c4) (gg:=gg) (g1:=g1) (es0:=es0) (get:=get) h h' ia hs hg.short (by omega) hgv hsm hmk F g0 g3
 rw [show (aA Tryz.f63).code = .seq (cutAt [0] (aA Tryz.f63).code) (.seq (cutAt [1,0] (aA Tryz.f63).code) (.seq (cutAt [1,1,0] (aA Tryz.f63).code) (cutAt [1,1,1] (aA Tryz.f63).code))) from rfl]
 generalize cutAt [1,1,1] (aA Tryz.f63).code = C at key ⊢
 simp only [aA,Tryz.f63,KP,↓reduceIte,reduceLT,reduceCtorEq,cutAt]
 refine aU (hw (ia.ls _ 37) hs hr) ?_
 rintro v σ' ⟨rfl,g,g1,c0,c2,c3,c4,es,get,rfl,hsm,hmk⟩
 have en:sA E 41 true (.dB g [c0,.imp g1 es,c2,c3,c4]) .gZ = some false:=by unfold sA; rw [h'.Tq]
 simp only [KP,↓reduceIte,reduceLT,en]
 refine key _ c0 c2 c3 c4 g g1 es get rfl hsm hmk _ ?_ ?_
 ·exact (by simp +decide only [GS])
 ·exact (by simp +decide only [GS])
end
end
section
section
variable {E:Env} {Z:Sg} {K:V -> Sg -> Prop}
def uH (L:List dF) (z:a_):List a_:=match bX L z with
 | some e=>e.ks
 | none=>[]
theorem Ft (L:List dF) (x:a_) (ks:List a_) (z:a_):bX (oQ L x ks) z = (bX L z).map fun e=>if e.key = x then { e with ks:=ks } else e:=by
 unfold bX oQ
 induction L with
 | nil=>rfl
 | cons e L ih=>
  rw [map_cons,find?_cons,find?_cons]
  have hk:(if e.key = x then { e with ks:=ks } else e).key = e.key:=by
   by_cases h:e.key = x
   ·rw [if_pos h]
   ·rw [if_neg h]
  rw [hk]
  by_cases hz:z = e.key
  ·rw [decide_eq_true hz]; rfl
  ·rw [decide_eq_false hz]; exact ih
theorem Pp {L:List dF} {e:dF} {x:a_} (he:bX L x = some e) (ks:List a_) (z:a_):uH (oQ L e.key ks) z = if z = x then ks else uH L z:=by
 obtain ⟨hme,hxe⟩:=jL he
 unfold uH
 rw [Ft]
 by_cases hz:z = x
 ·rw [if_pos hz,hz,he]
  show (match (some (if e.key = e.key then { e with ks:=ks } else e):Option dF) with
   | some e=>e.ks
   | none=>[]) = ks
  rw [if_pos rfl]
 ·rw [if_neg hz]
  cases hq:bX L z with
  | none=>rfl
  | some q=>
   obtain ⟨-,hzq⟩:=jL hq
   show (if q.key = e.key then { q with ks:=ks } else q).ks = q.ks
   rw [if_neg (fun e'=>hz (by rw [hzq,e',hxe]))]
theorem wG (L:List dF) (e:dF) (hx:bX L e.key = none) (z:a_):bX (L ++ [e]) z = if z = e.key then some e else bX L z:=by
 unfold bX at *
 rw [List.find?_append]
 by_cases hz:z = e.key
 ·rw [if_pos hz,hz,hx,find?_cons,decide_eq_true rfl]; rfl
 ·rw [if_neg hz,find?_cons,decide_eq_false hz,List.find?_nil]
  cases List.find? (fun e=>decide (z = e.key)) L <;> rfl
structure Grow (L:List dF) (x y:a_) (L':List dF):Prop where
 mem:∀ z w,w ∈ uH L' z ↔ w ∈ uH L z \/ (z = x /\ w = y)
 len:∀ n,(∀ e ∈ L,e.ks.length <= n) -> ∀ e ∈ L',e.ks.length <= n + 1
 key:∀ z,z ∈ L'.map dF.key ↔ z ∈ L.map dF.key \/ z = x
theorem R6 {L:List dF} {x:a_}:x ∈ L.map dF.key ↔ ∃ e,bX L x = some e:=by
 constructor
 ·intro h
  obtain ⟨e,he,rfl⟩:=mem_map.1 h
  cases hq:bX L e.key with
  | some q=>exact ⟨q,rfl⟩
  | none=>
   have:=find?_eq_none.1 hq e he
   simp at this
 ·rintro ⟨e,he⟩
  obtain ⟨h1,h2⟩:=jL he
  exact mem_map.2 ⟨e,h1,h2.symm⟩
theorem M3 (l:List a_) (y:a_):keys l [y] = jJ l y:=rfl
theorem Ky (l:List a_) (y:a_):(jJ l y).length <= l.length + 1:=by
 unfold jJ
 by_cases h:y ∈ l
 ·rw [if_pos h]; omega
 ·rw [if_neg h,length_append]; exact Nat.le_refl _
theorem Grow.up {L:List dF} {e:dF} {x:a_} (he:bX L x = some e) (y:a_):Grow L x y (oQ L e.key (keys e.ks [y])):=by
 obtain ⟨hme,hxe⟩:=jL he
 refine ⟨fun z w=>?_,fun n hn a ha=>?_,fun z=>?_⟩
 ·rw [Pp he]
  by_cases hz:z = x
  ·have:uH L z = e.ks:=by unfold uH; rw [hz,he]
   rw [if_pos hz,this,M3,Dw]
   exact ⟨fun h=>h.imp id fun h=>⟨hz,h⟩,fun h=>h.imp id And.right⟩
  ·rw [if_neg hz]
   exact ⟨.inl,fun h=>h.elim id fun h=>absurd h.1 hz⟩
 ·obtain ⟨a0,ha0,rfl⟩:=mem_map.1 ha
  by_cases hk:a0.key = e.key
  ·rw [if_pos hk]
   have:=Ky e.ks y
   have:=hn e hme
   show (jJ e.ks y).length <= n + 1
   omega
  ·rw [if_neg hk]
   have:=hn a0 ha0
   omega
 ·rw [C1]
  refine ⟨.inl,fun h=>h.elim id fun h=>?_⟩
  rw [h]
  exact R6.2 ⟨e,he⟩
theorem Grow.new {L:List dF} {x:a_} {s m:Nat} (hx:bX L x = none) (y:a_):bX (L ++ [dF.mk x s m []]) x = some (dF.mk x s m []) /\ Grow L x y (oQ (L ++ [dF.mk x s m []]) x (keys [] [y])):=by
 have he:bX (L ++ [dF.mk x s m []]) x = some (dF.mk x s m []):=by rw [wG _ _ hx,if_pos rfl]
 have g:=Grow.up he y
 refine ⟨he,fun z w=>?_,fun n hn a ha=>?_,fun z=>?_⟩
 ·rw [g.mem]
  have:uH (L ++ [dF.mk x s m []]) z = uH L z:=by
   unfold uH
   rw [wG _ _ hx]
   by_cases hz:z = x
   ·rw [if_pos hz,hz,hx]
   ·rw [if_neg hz]
  rw [this]
 ·refine g.len n (fun e he=>?_) a ha
  rcases mem_append.1 he with he | he
  ·exact hn e he
  ·rw [mem_singleton.1 he]; exact Nat.zero_le _
 ·rw [g.key,map_append,mem_append]
  constructor
  ·rintro ((h | h) | h)
   ·exact .inl h
   ·exact .inr (by simpa using h)
   ·exact .inr h
  ·exact fun h=>h.imp .inl id
end
end
section
section
variable {E:Env} {Z:Sg} {K:V -> Sg -> Prop}
theorem Kp.sZ {Z σ':Sg} {m:Nat} {es:List (V × V)} (h:Lb.Kp Z σ' m) (hm:Z[m]? = some (.map es)):Lb.dO Z σ':=Lb.Kp.sZ h hm
theorem dO.AK (Z:Sg) (y:O):Lb.dO Z (Z ++ [y]):=Lb.dO.app Z [y]
theorem map_lt {Z:Sg} {b:Nat} {o:O} (h:Z[b]? = some o):b < Z.length:=(List.getElem?_eq_some_iff.1 h).1
theorem Pf (h:bM E) (h':x_ E) (hl:Lb.kB E) {Y:Sg} {gb m0 m1 sa ma b3 b4:Nat} {es0 es1:List (V × V)} {A:List a_} {L3 L4:List dF} (ga:mW E Y gb m0 m1 sa ma b3 b4 es0 es1 A L3 L4) {x y:a_} {blk:Nat} (hb:Y[blk]? = some (O.cells 144 [.mp b3,.bool x.1,.str x.2,.bool y.1,.str y.2,.mp b4,.bool y.1,.str y.2,.bool x.1,.str x.2] true)) (hks:∀ e ∈ L3,e.ks.length <= 1000000) (F:FT) (g30:F.get 30 = .sl blk 0 2 none) (g32:F.get 32 = .int .i64 0) {st:List kY} {Q:Ax.X -> Fr -> Sg -> Prop}
  (hk:∀ F' τ' L',(∀ k,k ∈ [0,4,5,30,31,32] -> F'.get k = F.get k) -> mW E τ' gb m0 m1 sa ma b3 b4 es0 es1 A L' L4 -> Grow L3 x y L' -> Lb.dO Y τ' -> M E st .normal ⟨57,F'⟩ τ' Q):Ax.R E (cutAt [1,1,1,2,2,1,1,0,2] (aA Tryz.f73).code) st ⟨57,F⟩ Y Q:=by
 have ia:indexAddr E 145 (.sl blk 0 2 none) (.int .i64 0) = some (.ref blk 0):=by unfold Ax.indexAddr; simp only [h'.Iu,h'.v_]; rfl
 have ga1:=ga.app (O.cells 144 [.mp b3,.bool x.1,.str x.2,.bool y.1,.str y.2] true)
 have hnb:(Y ++ [O.cells 144 [.mp b3,.bool x.1,.str x.2,.bool y.1,.str y.2] true])[Y.length]? = some (O.cells 144 [.mp b3,.bool x.1,.str x.2,.bool y.1,.str y.2] true):=aR
 have lk:=xE h' hl ga1.jH x
 unfold p_ at lk
 rcases hq:bX L3 x with _ | e
 ·rw [hq] at lk
  have r7:=fun (ρ:Sg) (m:Nat) gm he hbx hln hne F g7 st Q hk=>Jg (Y:=ρ) (nb:=Y.length) (mb:=b3) (L:=L3 ++ [dF.mk x (Y ++ [O.cells 144 [.mp b3,.bool x.1,.str x.2,.bool y.1,.str y.2] true]).length m []]) (x:=x) (y:=y) (e:=dF.mk x (Y ++ [O.cells 144 [.mp b3,.bool x.1,.str x.2,.bool y.1,.str y.2] true]).length m []) h h' hl gm he hbx hln hne F g7 (st:=st) (Q:=Q) hk
  have r6:=fun F g7 st Q hk=>QO (Y:=Y ++ [O.cells 144 [.mp b3,.bool x.1,.str x.2,.bool y.1,.str y.2] true]) (nb:=Y.length) (mb:=b3) (L:=L3) (x:=x) (y:=y) h h' hl ga1.jH hq hnb F g7 (st:=st) (Q:=Q) hk
  rw [show cutAt [1,1,1,2,2,1,1,0,2] (aA Tryz.f73).code = .seq (cutAt [1,1,1,2,2,1,1,0,2,0] (aA Tryz.f73).code) (.seq (.seq (cutAt [1,1,1,2,2,1,1,0,2,1,0,0] (aA Tryz.f73).code) (.cond (.tmp 41) (cutAt [1,1,1,2,2,1,1,0,2,1,0,1,0] (aA Tryz.f73).code) .skip)) (cutAt [1,1,1,2,2,1,1,0,2,1,1] (aA Tryz.f73).code)) from rfl]
  rw [show cutAt [1,1,1,2,2,1,1,0,2,1,0,1,0] (aA Tryz.f73).code = .region 6 (opsOf (cutAt [1,1,1,2,2,1,1,0,2,1,0,1,0] (aA Tryz.f73).code)) true from rfl,show cutAt [1,1,1,2,2,1,1,0,2,1,1] (aA Tryz.f73).code = .region 7 (opsOf (cutAt [1,1,1,2,2,1,1,0,2,1,1] (aA Tryz.f73).code)) true from rfl]
  generalize opsOf (cutAt [1,1,1,2,2,1,1,0,2,1,0,1,0] (aA Tryz.f73).code) = O6 at r6 ⊢
  generalize opsOf (cutAt [1,1,1,2,2,1,1,0,2,1,1] (aA Tryz.f73).code) = O7 at r7 ⊢
  have e77:sA E 77 true .gZ .gZ = some true:=by unfold sA; rw [hl.CJ]
  simp only [aA,Tryz.f73,KP,Ax.loadAt,Ax.storeAt,↓reduceIte,reduceEqDiff,reduceLT,reduceLeDiff,reduceAdd,reduceCtorEq,h.nE,e77,cutAt,h'.v_,h'.uK,g30,g32,ia,hb,hnb,lk,aR,cU]
  refine r6 _ ?_ _ _ (fun F1 τ1 m hF1 nH hset hlt=>?_)
  ·simp +decide only [GS]
  have hx1:=ga1.jH.map
  have ga2:=ga1.OZ hq nH hset (Nat.le_of_lt hlt)
  have hmb:b3 < (Y ++ [O.cells 144 [.mp b3,.bool x.1,.str x.2,.bool y.1,.str y.2] true]).length:=map_lt hx1
  have hnb2:(τ1.set b3 (.map ((L3 ++ [dF.mk x (Y ++ [O.cells 144 [.mp b3,.bool x.1,.str x.2,.bool y.1,.str y.2] true]).length m []]).map nJ)))[Y.length]? = some (O.cells 144 [.mp b3,.bool x.1,.str x.2,.bool y.1,.str y.2] true):=by
   rw [getElem?_set_ne]
   ·exact nH _ _ hnb
   ·intro e
    have q:=hx1.symm.trans ((congrArg (fun i=>(Y ++ [O.cells 144 [.mp b3,.bool x.1,.str x.2,.bool y.1,.str y.2] true])[i]?) e).trans hnb)
    cases q
  rw [R1]
  refine r7 _ m ga2.jH (Grow.new hq y).1 hnb2 (Nat.zero_le _) (show b3 ≠ m by omega) _ ?_ _ _ (fun F2 τ2 hF2 hset2 kp=>?_)
  ·exact (hF1 7 (by simp)).trans (by simp +decide only [GS])
  have gb2:=ga2.app (O.cells 46 [.bool y.1,.str y.2] true)
  have ga3:=gb2.ME (jL (Grow.new hq y).1).1 hset2 kp
  refine hk _ _ _ (fun k hk=>?_) ga3 (Grow.new hq y).2 ?_
  ·have h7:k ∈ [0,4,5,7,30,31,32]:=by
    simp only [mem_cons,List.not_mem_nil,or_false] at hk ⊢
    omega
   refine (hF2 k h7).trans ((hF1 k h7).trans ?_)
   simp only [mem_cons,List.not_mem_nil,or_false] at hk
   rcases hk with rfl | rfl | rfl | rfl | rfl | rfl <;> simp +decide only [GS]
  ·exact ((((dO.AK Y _).trans nH.sZ).trans (Lb.dO.Eg (nH _ _ hx1))).trans (dO.AK _ _)).trans (Lb.Kp.sZ kp (gb2.jH.sets _ (jL (Grow.new hq y).1).1).map)
 ·rw [hq] at lk
  have e77:sA E 77 true (.ref e.s 0) .gZ = some false:=by unfold sA; rw [hl.CJ]
  obtain ⟨hme,hxe⟩:=jL hq
  obtain ⟨-,-,f3⟩:=ga1.facts
  have hmb:=f3 e.m (by first | exact .inl (mem_map.2 ⟨e,hme,rfl⟩) | exact .inr (mem_map.2 ⟨e,hme,rfl⟩))
  have r7:=fun F g7 st Q hk=>Jg (Y:=Y ++ [O.cells 144 [.mp b3,.bool x.1,.str x.2,.bool y.1,.str y.2] true]) (nb:=Y.length) (mb:=b3) (L:=L3) (x:=x) (y:=y) (e:=e) h h' hl ga1.jH hq hnb (hks e hme) (by first | exact hmb.2.2.2.1 | exact hmb.2.2.2.2) F g7 (st:=st) (Q:=Q) hk
  rw [show cutAt [1,1,1,2,2,1,1,0,2] (aA Tryz.f73).code = .seq (cutAt [1,1,1,2,2,1,1,0,2,0] (aA Tryz.f73).code) (.seq (.seq (cutAt [1,1,1,2,2,1,1,0,2,1,0,0] (aA Tryz.f73).code) (.cond (.tmp 41) (cutAt [1,1,1,2,2,1,1,0,2,1,0,1,0] (aA Tryz.f73).code) .skip)) (cutAt [1,1,1,2,2,1,1,0,2,1,1] (aA Tryz.f73).code)) from rfl]
  rw [show cutAt [1,1,1,2,2,1,1,0,2,1,0,1,0] (aA Tryz.f73).code = .region 6 (opsOf (cutAt [1,1,1,2,2,1,1,0,2,1,0,1,0] (aA Tryz.f73).code)) true from rfl,show cutAt [1,1,1,2,2,1,1,0,2,1,1] (aA Tryz.f73).code = .region 7 (opsOf (cutAt [1,1,1,2,2,1,1,0,2,1,1] (aA Tryz.f73).code)) true from rfl]
  generalize opsOf (cutAt [1,1,1,2,2,1,1,0,2,1,0,1,0] (aA Tryz.f73).code) = O6 at ⊢
  generalize opsOf (cutAt [1,1,1,2,2,1,1,0,2,1,1] (aA Tryz.f73).code) = O7 at r7 ⊢
  simp only [aA,Tryz.f73,KP,Ax.loadAt,Ax.storeAt,↓reduceIte,reduceEqDiff,reduceLT,reduceLeDiff,reduceAdd,reduceCtorEq,h.nE,e77,cutAt,h'.v_,h'.uK,g30,g32,ia,hb,hnb,lk,aR,cU]
  refine r7 _ ?_ _ _ (fun F2 τ2 hF2 hset2 kp=>?_)
  ·simp +decide only [GS]
  have gb2:=ga1.app (O.cells 46 [.bool y.1,.str y.2] true)
  have ga3:=gb2.ME hme hset2 kp
  refine hk _ _ _ (fun k hk=>?_) ga3 (Grow.up hq y) ?_
  ·have h7:k ∈ [0,4,5,7,30,31,32]:=by
    simp only [mem_cons,List.not_mem_nil,or_false] at hk ⊢
    omega
   refine (hF2 k h7).trans ?_
   simp only [mem_cons,List.not_mem_nil,or_false] at hk
   rcases hk with rfl | rfl | rfl | rfl | rfl | rfl <;> simp +decide only [GS]
  ·exact ((dO.AK Y _).trans (dO.AK _ _)).trans (Lb.Kp.sZ kp (gb2.jH.sets e hme).map)
theorem Pe (h:bM E) (h':x_ E) (hl:Lb.kB E) {Y:Sg} {gb m0 m1 sa ma b3 b4:Nat} {es0 es1:List (V × V)} {A:List a_} {L3 L4:List dF} (ga:mW E Y gb m0 m1 sa ma b3 b4 es0 es1 A L3 L4) {x y:a_} {blk:Nat} (hb:Y[blk]? = some (O.cells 144 [.mp b3,.bool x.1,.str x.2,.bool y.1,.str y.2,.mp b4,.bool y.1,.str y.2,.bool x.1,.str x.2] true)) (hks:∀ e ∈ L4,e.ks.length <= 1000000) (F:FT) (g30:F.get 30 = .sl blk 0 2 none) (g32:F.get 32 = .int .i64 1) {st:List kY} {Q:Ax.X -> Fr -> Sg -> Prop}
  (hk:∀ F' τ' L',(∀ k,k ∈ [0,4,5,30,31,32] -> F'.get k = F.get k) -> mW E τ' gb m0 m1 sa ma b3 b4 es0 es1 A L3 L' -> Grow L4 y x L' -> Lb.dO Y τ' -> M E st .normal ⟨57,F'⟩ τ' Q):Ax.R E (cutAt [1,1,1,2,2,1,1,0,2] (aA Tryz.f73).code) st ⟨57,F⟩ Y Q:=by
 have ia:indexAddr E 145 (.sl blk 0 2 none) (.int .i64 1) = some (.ref blk 5):=by unfold Ax.indexAddr; simp only [h'.Iu,h'.v_]; rfl
 have ga1:=ga.app (O.cells 144 [.mp b4,.bool y.1,.str y.2,.bool x.1,.str x.2] true)
 have hnb:(Y ++ [O.cells 144 [.mp b4,.bool y.1,.str y.2,.bool x.1,.str x.2] true])[Y.length]? = some (O.cells 144 [.mp b4,.bool y.1,.str y.2,.bool x.1,.str x.2] true):=aR
 have lk:=xE h' hl ga1.jB y
 unfold p_ at lk
 rcases hq:bX L4 y with _ | e
 ·rw [hq] at lk
  have r7:=fun (ρ:Sg) (m:Nat) gm he hbx hln hne F g7 st Q hk=>Jg (Y:=ρ) (nb:=Y.length) (mb:=b4) (L:=L4 ++ [dF.mk y (Y ++ [O.cells 144 [.mp b4,.bool y.1,.str y.2,.bool x.1,.str x.2] true]).length m []]) (x:=y) (y:=x) (e:=dF.mk y (Y ++ [O.cells 144 [.mp b4,.bool y.1,.str y.2,.bool x.1,.str x.2] true]).length m []) h h' hl gm he hbx hln hne F g7 (st:=st) (Q:=Q) hk
  have r6:=fun F g7 st Q hk=>QO (Y:=Y ++ [O.cells 144 [.mp b4,.bool y.1,.str y.2,.bool x.1,.str x.2] true]) (nb:=Y.length) (mb:=b4) (L:=L4) (x:=y) (y:=x) h h' hl ga1.jB hq hnb F g7 (st:=st) (Q:=Q) hk
  rw [show cutAt [1,1,1,2,2,1,1,0,2] (aA Tryz.f73).code = .seq (cutAt [1,1,1,2,2,1,1,0,2,0] (aA Tryz.f73).code) (.seq (.seq (cutAt [1,1,1,2,2,1,1,0,2,1,0,0] (aA Tryz.f73).code) (.cond (.tmp 41) (cutAt [1,1,1,2,2,1,1,0,2,1,0,1,0] (aA Tryz.f73).code) .skip)) (cutAt [1,1,1,2,2,1,1,0,2,1,1] (aA Tryz.f73).code)) from rfl]
  rw [show cutAt [1,1,1,2,2,1,1,0,2,1,0,1,0] (aA Tryz.f73).code = .region 6 (opsOf (cutAt [1,1,1,2,2,1,1,0,2,1,0,1,0] (aA Tryz.f73).code)) true from rfl,show cutAt [1,1,1,2,2,1,1,0,2,1,1] (aA Tryz.f73).code = .region 7 (opsOf (cutAt [1,1,1,2,2,1,1,0,2,1,1] (aA Tryz.f73).code)) true from rfl]
  generalize opsOf (cutAt [1,1,1,2,2,1,1,0,2,1,0,1,0] (aA Tryz.f73).code) = O6 at r6 ⊢
  generalize opsOf (cutAt [1,1,1,2,2,1,1,0,2,1,1] (aA Tryz.f73).code) = O7 at r7 ⊢
  have e77:sA E 77 true .gZ .gZ = some true:=by unfold sA; rw [hl.CJ]
  simp only [aA,Tryz.f73,KP,Ax.loadAt,Ax.storeAt,↓reduceIte,reduceEqDiff,reduceLT,reduceLeDiff,reduceAdd,reduceCtorEq,h.nE,e77,cutAt,h'.v_,h'.uK,g30,g32,ia,hb,hnb,lk,aR,cU]
  refine r6 _ ?_ _ _ (fun F1 τ1 m hF1 nH hset hlt=>?_)
  ·simp +decide only [GS]
  have hx1:=ga1.jB.map
  have ga2:=ga1.Oh hq nH hset (Nat.le_of_lt hlt)
  have hmb:b4 < (Y ++ [O.cells 144 [.mp b4,.bool y.1,.str y.2,.bool x.1,.str x.2] true]).length:=map_lt hx1
  have hnb2:(τ1.set b4 (.map ((L4 ++ [dF.mk y (Y ++ [O.cells 144 [.mp b4,.bool y.1,.str y.2,.bool x.1,.str x.2] true]).length m []]).map nJ)))[Y.length]? = some (O.cells 144 [.mp b4,.bool y.1,.str y.2,.bool x.1,.str x.2] true):=by
   rw [getElem?_set_ne]
   ·exact nH _ _ hnb
   ·intro e
    have q:=hx1.symm.trans ((congrArg (fun i=>(Y ++ [O.cells 144 [.mp b4,.bool y.1,.str y.2,.bool x.1,.str x.2] true])[i]?) e).trans hnb)
    cases q
  rw [R1]
  refine r7 _ m ga2.jB (Grow.new hq x).1 hnb2 (Nat.zero_le _) (show b4 ≠ m by omega) _ ?_ _ _ (fun F2 τ2 hF2 hset2 kp=>?_)
  ·exact (hF1 7 (by simp)).trans (by simp +decide only [GS])
  have gb2:=ga2.app (O.cells 46 [.bool x.1,.str x.2] true)
  have ga3:=gb2.Lw (jL (Grow.new hq x).1).1 hset2 kp
  refine hk _ _ _ (fun k hk=>?_) ga3 (Grow.new hq x).2 ?_
  ·have h7:k ∈ [0,4,5,7,30,31,32]:=by
    simp only [mem_cons,List.not_mem_nil,or_false] at hk ⊢
    omega
   refine (hF2 k h7).trans ((hF1 k h7).trans ?_)
   simp only [mem_cons,List.not_mem_nil,or_false] at hk
   rcases hk with rfl | rfl | rfl | rfl | rfl | rfl <;> simp +decide only [GS]
  ·exact ((((dO.AK Y _).trans nH.sZ).trans (Lb.dO.Eg (nH _ _ hx1))).trans (dO.AK _ _)).trans (Lb.Kp.sZ kp (gb2.jB.sets _ (jL (Grow.new hq x).1).1).map)
 ·rw [hq] at lk
  have e77:sA E 77 true (.ref e.s 0) .gZ = some false:=by unfold sA; rw [hl.CJ]
  obtain ⟨hme,hxe⟩:=jL hq
  obtain ⟨-,-,f3⟩:=ga1.facts
  have hmb:=f3 e.m (by first | exact .inl (mem_map.2 ⟨e,hme,rfl⟩) | exact .inr (mem_map.2 ⟨e,hme,rfl⟩))
  have r7:=fun F g7 st Q hk=>Jg (Y:=Y ++ [O.cells 144 [.mp b4,.bool y.1,.str y.2,.bool x.1,.str x.2] true]) (nb:=Y.length) (mb:=b4) (L:=L4) (x:=y) (y:=x) (e:=e) h h' hl ga1.jB hq hnb (hks e hme) (by first | exact hmb.2.2.2.1 | exact hmb.2.2.2.2) F g7 (st:=st) (Q:=Q) hk
  rw [show cutAt [1,1,1,2,2,1,1,0,2] (aA Tryz.f73).code = .seq (cutAt [1,1,1,2,2,1,1,0,2,0] (aA Tryz.f73).code) (.seq (.seq (cutAt [1,1,1,2,2,1,1,0,2,1,0,0] (aA Tryz.f73).code) (.cond (.tmp 41) (cutAt [1,1,1,2,2,1,1,0,2,1,0,1,0] (aA Tryz.f73).code) .skip)) (cutAt [1,1,1,2,2,1,1,0,2,1,1] (aA Tryz.f73).code)) from rfl]
  rw [show cutAt [1,1,1,2,2,1,1,0,2,1,0,1,0] (aA Tryz.f73).code = .region 6 (opsOf (cutAt [1,1,1,2,2,1,1,0,2,1,0,1,0] (aA Tryz.f73).code)) true from rfl,show cutAt [1,1,1,2,2,1,1,0,2,1,1] (aA Tryz.f73).code = .region 7 (opsOf (cutAt [1,1,1,2,2,1,1,0,2,1,1] (aA Tryz.f73).code)) true from rfl]
  generalize opsOf (cutAt [1,1,1,2,2,1,1,0,2,1,0,1,0] (aA Tryz.f73).code) = O6 at ⊢
  generalize opsOf (cutAt [1,1,1,2,2,1,1,0,2,1,1] (aA Tryz.f73).code) = O7 at r7 ⊢
  simp only [aA,Tryz.f73,KP,Ax.loadAt,Ax.storeAt,↓reduceIte,reduceEqDiff,reduceLT,reduceLeDiff,reduceAdd,reduceCtorEq,h.nE,e77,cutAt,h'.v_,h'.uK,g30,g32,ia,hb,hnb,lk,aR,cU]
  refine r7 _ ?_ _ _ (fun F2 τ2 hF2 hset2 kp=>?_)
  ·simp +decide only [GS]
  have gb2:=ga1.app (O.cells 46 [.bool x.1,.str x.2] true)
  have ga3:=gb2.Lw hme hset2 kp
  refine hk _ _ _ (fun k hk=>?_) ga3 (Grow.up hq x) ?_
  ·have h7:k ∈ [0,4,5,7,30,31,32]:=by
    simp only [mem_cons,List.not_mem_nil,or_false] at hk ⊢
    omega
   refine (hF2 k h7).trans ?_
   simp only [mem_cons,List.not_mem_nil,or_false] at hk
   rcases hk with rfl | rfl | rfl | rfl | rfl | rfl <;> simp +decide only [GS]
  ·exact ((dO.AK Y _).trans (dO.AK _ _)).trans (Lb.Kp.sZ kp (gb2.jB.sets e hme).map)
end
end
section
section
variable {E:Env} {Z:Sg} {K:V -> Sg -> Prop}
theorem NJ (h:bM E) (h':x_ E) (hl:Lb.kB E) {Y:Sg} {gb m0 m1 sa ma b3 b4:Nat} {es0 es1:List (V × V)} {A:List a_} {L3 L4:List dF} (ga:mW E Y gb m0 m1 sa ma b3 b4 es0 es1 A L3 L4) {x y:a_} (hA:A.length <= 1000000) (hk3:∀ e ∈ L3,e.ks.length <= 1000000) (hk4:∀ e ∈ L4,e.ks.length <= 1000000):aB E 73 [.ref gb 0,.agg [.bool x.1,.str x.2],.agg [.bool y.1,.str y.2]] Y fun v τ'=>v = .fN [] /\ ∃ L3' L4',mW E τ' gb m0 m1 sa ma b3 b4 es0 es1 (keys A [x,y]) L3' L4' /\ Grow L3 x y L3' /\ Grow L4 y x L4' /\ Lb.dO Y τ':=by
 rw [fK h'.hs73 h'.sp73 h'.fn73 h'.md73,bD (by kernel_rfl)]
 have rn:=fun {Y} {L3 L4} {blk} A ga hb hks F g30 g32 st Q hk=>Pf (Y:=Y) (L3:=L3) (L4:=L4) (A:=A) (x:=x) (y:=y) (blk:=blk) (gb:=gb) (m0:=m0) (m1:=m1) (sa:=sa) (ma:=ma) (b3:=b3) (b4:=b4) (es0:=es0) (es1:=es1) h h' hl ga hb hks F g30 g32 (st:=st) (Q:=Q) hk
 have ru:=fun {Y} {L3 L4} {blk} A ga hb hks F g30 g32 st Q hk=>Pe (Y:=Y) (L3:=L3) (L4:=L4) (A:=A) (x:=x) (y:=y) (blk:=blk) (gb:=gb) (m0:=m0) (m1:=m1) (sa:=sa) (ma:=ma) (b3:=b3) (b4:=b4) (es0:=es0) (es1:=es1) h h' hl ga hb hks F g30 g32 (st:=st) (Q:=Q) hk
 have r1:=fun {Y} {n0 n1} ga hx hy F g0 g4 g5 st Q hk=>VE (Y:=Y) (n0:=n0) (n1:=n1) (A:=A) (L3:=L3) (L4:=L4) (x:=x) (y:=y) (gb:=gb) (m0:=m0) (m1:=m1) (sa:=sa) (ma:=ma) (b3:=b3) (b4:=b4) (es0:=es0) (es1:=es1) h h' hl ga hx hy hA F g0 g4 g5 (st:=st) (Q:=Q) hk
 have d2:=h'.Xu
 rw [show (aA Tryz.f73).code = .seq (cutAt [0] (aA Tryz.f73).code) (.seq (cutAt [1,0] (aA Tryz.f73).code) (.seq (cutAt [1,1,0] (aA Tryz.f73).code) (.block 0 (.loop (.seq (cutAt [1,1,1,2,2,0] (aA Tryz.f73).code) (.seq (cutAt [1,1,1,2,2,1,0] (aA Tryz.f73).code) (.seq (.block 1 (cutAt [1,1,1,2,2,1,1,0,2] (aA Tryz.f73).code)) (cutAt [1,1,1,2,2,1,1,1] (aA Tryz.f73).code)))))))) from rfl]
 rw [show cutAt [1,0] (aA Tryz.f73).code = .region 1 (opsOf (cutAt [1,0] (aA Tryz.f73).code)) true from rfl]
 generalize opsOf (cutAt [1,0] (aA Tryz.f73).code) = O1 at r1 ⊢
 generalize cutAt [1,1,1,2,2,1,1,0,2] (aA Tryz.f73).code = B at rn ru ⊢
 generalize hD2:cutAt [1,1,0] (aA Tryz.f73).code = D2 at d2 ⊢
 simp only [aA,Tryz.f73,KP,↓reduceIte,reduceEqDiff,reduceLT,reduceAdd,h.nE,cutAt]
 have gx:mW E (Y ++ [O.cells 46 [.bool x.1,.str x.2] true] ++ [O.cells 46 [.bool y.1,.str y.2] true]) gb m0 m1 sa ma b3 b4 es0 es1 A L3 L4:=(ga.app _).app _
 refine r1 gx (aL aR) aR _ ?_ ?_ ?_ _ _ (fun F1 τ1 hF1 ga1 hx1 hy1 kc1=>?_)
 ·simp +decide only [GS]
 ·simp +decide only [GS]
 ·simp +decide only [GS]
 have q0:F1.get 0 = .ref gb 0:=(hF1 0 (by simp)).trans (by simp +decide only [GS])
 have q4:F1.get 4 = .ref Y.length 0:=(hF1 4 (by simp)).trans (by simp +decide only [GS])
 have q5:F1.get 5 = .ref (Y ++ [O.cells 46 [.bool x.1,.str x.2] true]).length 0:=(hF1 5 (by simp)).trans (by simp +decide only [GS])
 have hg:=ga1.g
 have kc0:Lb.dO Y τ1:=(((dO.AK Y _).trans (dO.AK _ _)).trans kc1)
 generalize (Y ++ [O.cells 46 [.bool x.1,.str x.2] true]).length = n1 at *
 generalize Y.length = n0 at *
 rw [R1]
 subst hD2
 simp only [aA,Tryz.f73,cutAt,Option.getD_some] at d2
 have lz:∀ (Z:Sg) (b:Nat),lenOf E Z 145 (.sl b 0 2 none) = some 2:=fun Z b=>by unfold lenOf; rw [h'.Iu]
 have d0:decide ((0:Int) < ((2:Nat):Int)) = true:=rfl
 have d1:decide ((1:Int) < ((2:Nat):Int)) = true:=rfl
 have d2':decide ((2:Int) < ((2:Nat):Int)) = false:=rfl
 have w1:wr .i64 1 = 1:=rfl
 have w2:wr .i64 2 = 2:=rfl
 simp only [aA,Tryz.f73,KP,Ax.loadAt,↓reduceIte,reduceEqDiff,reduceLT,reduceLeDiff,reduceAdd,reduceMul,reduceCtorEq,h.nE,lz,cutAt,bI d2,cB,h'.uK,h'.v_,h'.Iu,h'.zT,hg,hx1,hy1,q0,q4,q5,Ax.fill,Ax.placeOf,gR,Nat.zero_mul]
 have ga2:=ga1.app (O.cells 144 [.mp b3,.bool x.1,.str x.2,.bool y.1,.str y.2,.mp b4,.bool y.1,.str y.2,.bool x.1,.str x.2] true)
 have hb2:(τ1 ++ [O.cells 144 [.mp b3,.bool x.1,.str x.2,.bool y.1,.str y.2,.mp b4,.bool y.1,.str y.2,.bool x.1,.str x.2] true])[τ1.length]? = some (O.cells 144 [.mp b3,.bool x.1,.str x.2,.bool y.1,.str y.2,.mp b4,.bool y.1,.str y.2,.bool x.1,.str x.2] true):=aR
 have kc2:Lb.dO Y (τ1 ++ [O.cells 144 [.mp b3,.bool x.1,.str x.2,.bool y.1,.str y.2,.mp b4,.bool y.1,.str y.2,.bool x.1,.str x.2] true]):=kc0.trans (dO.AK _ _)
 generalize τ1 ++ [O.cells 144 [.mp b3,.bool x.1,.str x.2,.bool y.1,.str y.2,.mp b4,.bool y.1,.str y.2,.bool x.1,.str x.2] true] = τ2 at *
 generalize τ1.length = blk at *
 rw [aG]
 simp only [KP,↓reduceIte,reduceEqDiff,reduceLT,d0]
 refine rn _ ga2 hb2 hk3 _ ?_ ?_ _ _ (fun F3 τ3 L3' hF3 ga3 gr3 kc3=>?_)
 ·simp +decide only [GS]
 ·simp +decide only [GS]
 have q30:F3.get 30 = .sl blk 0 2 none:=(hF3 30 (by simp)).trans (by simp +decide only [GS])
 have q31:F3.get 31 = .int .i64 ((2:Nat):Int):=(hF3 31 (by simp)).trans (by simp +decide only [GS])
 have q32:F3.get 32 = .int .i64 0:=(hF3 32 (by simp)).trans (by simp +decide only [GS])
 simp only [KP,↓reduceIte,reduceLT,Int.reduceAdd,w1,q32]
 rw [aG]
 simp only [KP,↓reduceIte,reduceEqDiff,reduceLT,d1,q31]
 refine ru _ ga3 (kc3 _ _ _ _ hb2) hk4 _ ?_ ?_ _ _ (fun F4 τ4 L4' hF4 ga4 gr4 kc4=>?_)
 ·simp +decide only [GS,q30]
 ·simp +decide only [GS]
 have q31':F4.get 31 = .int .i64 ((2:Nat):Int):=(hF4 31 (by simp)).trans (by simp +decide only [GS,q31])
 have q32':F4.get 32 = .int .i64 1:=(hF4 32 (by simp)).trans (by simp +decide only [GS])
 simp only [KP,↓reduceIte,reduceLT,Int.reduceAdd,w2,q32']
 rw [aG]
 simp only [KP,↓reduceIte,reduceEqDiff,reduceLT,d2',q31']
 exact ⟨_,_,ga4,gr3,gr4,(kc2.trans kc3).trans kc4⟩
end
end
section
section
variable {E:Env} {Z:Sg} {K:V -> Sg -> Prop}
def fG (r:aF):List (a_ × a_):=r.ins.map (fun f=>(((true,r.name):a_),((false,f):a_))) ++ r.outs.map (fun f=>(((false,f):a_),((true,r.name):a_)))
def iH (r:aF):a_:=(true,r.name)
structure uJ (X:List a_) (P:List (a_ × a_)) (A:List a_) (L3 L4:List dF):Prop where
 all:∀ x,x ∈ A ↔ x ∈ X \/ ∃ p ∈ P,x = p.1 \/ x = p.2
 need:∀ z w,w ∈ uH L3 z ↔ (z,w) ∈ P
 user:∀ z w,w ∈ uH L4 z ↔ (w,z) ∈ P
 MX:A.length <= X.length + 2 * P.length
 Pj:∀ e ∈ L3,e.ks.length <= P.length
 Ph:∀ e ∈ L4,e.ks.length <= P.length
theorem uJ.nil:uJ [] [] [] [] []:=⟨fun x=>by simp,fun z w=>by simp [uH,bX],fun z w=>by simp [uH,bX],Nat.le_refl _,(fun e he=>by cases he),(fun e he=>by cases he)⟩
theorem uJ.link {X:List a_} {P:List (a_ × a_)} {A:List a_} {L3 L4 L3' L4':List dF} {x y:a_} (h:uJ X P A L3 L4) (g3:Grow L3 x y L3') (g4:Grow L4 y x L4'):uJ X (P ++ [(x,y)]) (keys A [x,y]) L3' L4':=by
 refine ⟨fun z=>?_,fun z w=>?_,fun z w=>?_,?_,fun e he=>?_,fun e he=>?_⟩
 ·rw [mem_keys,h.all]
  constructor
  ·rintro ((h1 | ⟨p,hp,h1⟩) | h1)
   ·exact .inl h1
   ·exact .inr ⟨p,List.mem_append_left _ hp,h1⟩
   ·refine .inr ⟨(x,y),by simp,by simpa using h1⟩
  ·rintro (h1 | ⟨p,hp,h1⟩)
   ·exact .inl (.inl h1)
   ·rcases mem_append.1 hp with hp | hp
    ·exact .inl (.inr ⟨p,hp,h1⟩)
    ·rw [mem_singleton.1 hp] at h1
     exact .inr (by simpa using h1)
 ·rw [g3.mem,h.need,mem_append,mem_singleton]
  exact or_congr Iff.rfl ⟨fun q=>by rw [q.1,q.2],fun q=>⟨congrArg Prod.fst q,congrArg Prod.snd q⟩⟩
 ·rw [g4.mem,h.user,mem_append,mem_singleton]
  exact or_congr Iff.rfl ⟨fun q=>by rw [q.1,q.2],fun q=>⟨congrArg Prod.snd q,congrArg Prod.fst q⟩⟩
 ·have:=oW (xs:=[x,y]) (l:=A)
  have:=h.MX
  simp only [length_append,length_cons,length_nil] at *
  omega
 ·rw [length_append]; exact g3.len _ h.Pj e he
 ·rw [length_append]; exact g4.len _ h.Ph e he
theorem uJ.rule {X:List a_} {P:List (a_ × a_)} {A:List a_} {L3 L4:List dF} (x:a_) (h:uJ X P A L3 L4):uJ (X ++ [x]) P (keys A [x]) L3 L4:=by
 refine ⟨fun z=>?_,h.need,h.user,?_,h.Pj,h.Ph⟩
 ·rw [mem_keys,h.all,mem_append]
  constructor
  ·rintro ((h1 | h1) | h1)
   ·exact .inl (.inl h1)
   ·exact .inr h1
   ·exact .inl (.inr h1)
  ·rintro ((h1 | h1) | h1)
   ·exact .inl (.inl h1)
   ·exact .inr h1
   ·exact .inl (.inr h1)
 ·have:=oW (xs:=[x]) (l:=A)
  have:=h.MX
  simp only [length_append,length_cons,length_nil] at *
  omega
theorem Kf (r:aF) (hs:Small r):(fG r).length <= 16:=by
 unfold fG
 rw [length_append,length_map,length_map]
 have:=hs.ins
 have:=hs.outs
 omega
theorem qA:∀ (rs:List aF),(∀ r ∈ rs,Small r) -> (rs.flatMap fG).length <= 16 * rs.length
 | [],_=>Nat.le_refl _
 | r :: rs,h=>by
  rw [List.flatMap_cons,length_append,length_cons]
  have:=Kf r (h r (mem_cons_self ..))
  have:=qA rs fun q hq=>h q (mem_cons_of_mem _ hq)
  omega
def RM (es:List (V × V)) (rs:List aF):Prop:=eN (fun e r=>e.1 = V.str r.name /\ QJ e.2 r) es rs
theorem QJ.ok {v:V} {r:aF} (h:QJ v r):eR v = true:=by
 obtain ⟨a,b,c,d,rfl,h1,h2,h3,h4⟩:=h
 simp only [eR,List.all_cons,List.all_nil,aI h1.is.bB,aI h2.is.bB,aI h3.is.bB,aI h4.is.bB,Bool.and_true]
 rfl
theorem JW (h:bM E) (h':x_ E) {Y:Sg} {b:Nat} {es:List (V × V)} {rs:List aF} {r:aF} {v:V} (hb:Y[b]? = some (.map es)) (ha:RM es rs) (hn:∀ q ∈ rs,q.name ≠ r.name) (hv:QJ v r) :
  mapUpdate E Y 103 (.mp b) (.str r.name) v = some (Y.set b (.map (es ++ [(.str r.name,v)]))) /\ RM (es ++ [(.str r.name,v)]) (rs ++ [r]):=by
 refine ⟨?_,ha.append (.one ⟨rfl,hv⟩)⟩
 have hk:dM E 9 (.str r.name) = true:=by unfold dM; rw [h.cK]
 have hp:=BG h (k:=r.name) (v:=v) (es:=es) fun e he=>by
  obtain ⟨q,hq,h1,-⟩:=ha.mem he
  exact ⟨q.name,h1,hn q hq⟩
 unfold Ax.mapUpdate
 simp only [h'.LC,hk,hv.ok,hb,hp,Bool.not_true,Bool.or_self,Bool.false_eq_true,if_false,Option.map_some]
theorem Dn {eq:V -> V -> Option Bool} {k v:V}:∀ {es es':List (V × V)},jI eq k v es = some es' -> ∀ e ∈ es',e ∈ es \/ e = (k,v)
 | [],es',h,e,he=>by
  cases h
  exact .inr (mem_singleton.1 he)
 | (k0,v0) :: r,es',h,e,he=>by
  unfold jI at h
  cases hq:eq k k0 with
  | none=>rw [hq] at h; cases h
  | some b=>
   rw [hq] at h
   cases b with
   | true=>
    cases h
    rcases mem_cons.1 he with h1 | h1
    ·exact .inr h1
    ·exact .inl (mem_cons_of_mem _ h1)
   | false=>
    dsimp only at h
    cases hr:jI eq k v r with
    | none=>rw [hr] at h; cases h
    | some r'=>
     rw [hr] at h
     cases h
     rcases mem_cons.1 he with h1 | h1
     ·exact .inl (by rw [h1]; exact mem_cons_self ..)
     ·exact (Dn hr e h1).imp (mem_cons_of_mem _) id
def CW (es:List (V × V)):Prop:=∀ e ∈ es,∃ n,e.2 = V.str n
theorem Oj (h:bM E) {Z:Sg} {b:Nat} {es:List (V × V)} {get:aM -> Option V} (hb:Z[b]? = some (.map es)) (hs:SM E es get) (hv:CW es) (k n:aM):∃ es',mapUpdate E Z 104 (.mp b) (.str k) (.str n) = some (Z.set b (.map es')) /\ SM E es' (fun q=>if q = k then some (.str n) else get q) /\ CW es':=by
 obtain ⟨es',h1,h2⟩:=Ee h (v:=.str n) k rfl hs
 have hk:dM E 9 (.str k) = true:=by unfold dM; rw [h.cK]
 refine ⟨es',?_,h2,fun e he=>?_⟩
 ·unfold Ax.mapUpdate
  simp only [h.Ba,hk,hb,h1,eR,V.aW,Bool.not_true,Bool.or_self,Bool.false_eq_true,if_false,Option.map_some]
 ·rcases Dn h1 e he with h3 | h3
  ·exact hv e h3
  ·exact ⟨n,by rw [h3]⟩
theorem EP (h:bM E) (h':x_ E) {s:aM}:aB E 72 [.str s] Z K = K (.agg [.bool true,.str s]) Z:=by
 refine aB.of ?_
 rw [aH h'.hs72 h'.sp72 h'.fn72 h'.md72 (args':=[.str s]) (by simp only [aX,cL]),bD (by kernel_rfl)]
 simp only [aA,Tryz.f72,KP,Ax.loadAt,Ax.storeAt,↓reduceIte,reduceEqDiff,reduceLT,reduceAdd,reduceCtorEq,h.GY,h.cK,h.nE,Ax.fill,Ax.placeOf]
 exact rfl
theorem Px (h:bM E) (h':x_ E) {s:aM}:KC E 72 [.str s] Z (.agg [.bool true,.str s]) Z:=dA fun _=>EP h h'
theorem Qs (h:bM E) (h':x_ E) {s:aM}:aB E 74 [.str s] Z K = K (.agg [.bool false,.str s]) Z:=by
 refine aB.of ?_
 rw [aH h'.hs74 h'.sp74 h'.fn74 h'.md74 (args':=[.str s]) (by simp only [aX,cL]),bD (by kernel_rfl)]
 simp only [aA,Tryz.f74,KP,Ax.loadAt,Ax.storeAt,↓reduceIte,reduceEqDiff,reduceLT,reduceAdd,reduceCtorEq,h.GY,h.cK,h.nE,Ax.fill,Ax.placeOf]
 exact rfl
theorem Jn (h:bM E) (h':x_ E) {s:aM}:KC E 74 [.str s] Z (.agg [.bool false,.str s]) Z:=dA fun _=>Qs h h'
end
end
section
section
variable {E:Env} {Z:Sg} {K:V -> Sg -> Prop}
theorem UU (h:bM E) (h':x_ E) (hl:Lb.kB E) {Y:Sg} {gb m0 m1 sa ma b3 b4:Nat} {es0 es1:List (V × V)} {A:List a_} {L3 L4:List dF} (ga:mW E Y gb m0 m1 sa ma b3 b4 es0 es1 A L3 L4) {r:aF} {p1 p2 p3 p4:V} {y:Nat} (hy:Y[y]? = some (O.cells 37 [.str r.name,p1,p2,p3,p4] true)) (hA:A.length <= 1000000) (F:FT) (g5:F.get 5 = .ref gb 0) (g7:F.get 7 = .ref y 0) {st:List kY} {Q:Ax.X -> Fr -> Sg -> Prop}
  (hk:∀ F' τ',(∀ k,k ∈ [0,5,7,26,27,28] -> F'.get k = F.get k) -> mW E τ' gb m0 m1 sa ma b3 b4 es0 es1 (keys A [iH r]) L3 L4 -> Lb.dO Y τ' -> M E st .normal ⟨88,F'⟩ τ' Q):Ax.R E (.region 9 (opsOf (cutAt [1,1,1,0,1,2,2,1,1,0,2,1,1,0] (aA Tryz.f19).code)) true) st ⟨88,F⟩ Y Q:=by
 have ga1:=ga.app (O.cells 46 [.bool true,.str r.name] true)
 have hsv:Lb.SV (Y ++ [O.cells 46 [.bool true,.str r.name] true]) (.sl Y.length 0 1 none) [iH r]:=.inr (.inr ⟨Y.length,_,true,rfl,aR,rfl⟩)
 obtain ⟨n1,v1,τ2,⟨hr,hset,hkp⟩,c1⟩:=aB.up (Lb.NU hl ga1.all hsv (show 1 <= 10000000000 by omega) (by omega))
 obtain ⟨n2,v2,ρ2,⟨e2,e2'⟩,c2⟩:=aB.up (show aB E 72 [.str r.name] Y fun v σ'=>v = .agg [.bool true,.str r.name] /\ σ' = Y by rw [EP h h']; exact ⟨rfl,rfl⟩)
 obtain ⟨n3,v3,ρ3,⟨e3,e3'⟩,c3⟩:=aB.up (show aB E 72 [.str r.name] (Y ++ [O.cells 46 [.bool true,.str r.name] true]) fun v σ'=>v = .agg [.bool true,.str r.name] /\ σ' = Y ++ [O.cells 46 [.bool true,.str r.name] true] by rw [EP h h']; exact ⟨rfl,rfl⟩)
 rw [e2,e2'] at c2
 rw [e3,e3'] at c3
 have c1:=c1 (n1 + n2 + n3) (by omega)
 have c2:=c2 (n1 + n2 + n3) (by omega)
 have c3:=c3 (n1 + n2 + n3) (by omega)
 generalize n1 + n2 + n3 = n at c1 c2 c3
 have ga2:=ga1.more hset hkp
 have hma:=ga1.all.map
 have ne:∀ {k:Nat} {t:Nat} {cs:List V} {ex:Bool},(Y ++ [O.cells 46 [.bool true,.str r.name] true])[k]? = some (.cells t cs ex) -> k ≠ ma:=fun hk e=>by
  rw [e,hma] at hk
  cases hk
 have g:=ga.g
 have g1:=ga1.g
 have vr:r_ 12 (.ref sa 0) (.ref sa 0) = true:=by unfold r_; simp
 have key:∃ F',cC E (ev E n) (opsOf (cutAt [1,1,1,0,1,2,2,1,1,0,2,1,1,0] (aA Tryz.f19).code)) ⟨88,F⟩ Y = some (⟨88,F'⟩,τ2) /\ (∀ k,k ∈ [0,5,7,26,27,28] -> F'.get k = F.get k):=by
  unfold cC
  rw [h'.Tn,h'.UR]
  simp only [aA,Tryz.f19,KP,Ax.loadAt,↓reduceIte,reduceEqDiff,reduceLT,reduceLeDiff,reduceAdd,reduceMul,reduceCtorEq,h.cK,h.bE,h.E6,h.nE,opsOf,cutAt,Fz.lits,gW,bJ,bW,kC,Ax.comp,Ax.last,g_,Ax.again,Ax.fill,gR,Nat.zero_mul,hl.CJ,h'.zT,g5,g7,hy,g,g1,c1,c2,vr]
  refine ⟨_,rfl,fun k hk=>?_⟩
  simp only [mem_cons,List.not_mem_nil,or_false] at hk
  rcases hk with rfl | rfl | rfl | rfl | rfl | rfl <;> simp +decide only [GS]
 obtain ⟨F',hD,hF⟩:=key
 exact Eq.mpr (iI hD) (hk F' τ2 hF ga2 ((dO.AK Y _).trans (Lb.Kp.sZ hkp hma)))
end
end
section
section
variable {E:Env} {Z:Sg} {K:V -> Sg -> Prop}
theorem Hf {r:aF} {j:Nat} {s:aM} (hj:r.ins[j]? = some s):(r.ins.take (j + 1)).map (fun f=>(((true,r.name):a_),((false,f):a_))) = (r.ins.take j).map (fun f=>(((true,r.name):a_),((false,f):a_))) ++ [(((true,r.name):a_),((false,s):a_))]:=by
 rw [take_add_one,hj,map_append]; rfl
theorem E8 {r:aF} {j:Nat} {s:aM} (hj:r.outs[j]? = some s):(r.outs.take (j + 1)).map (fun f=>(((false,f):a_),((true,r.name):a_))) = (r.outs.take j).map (fun f=>(((false,f):a_),((true,r.name):a_))) ++ [(((false,s):a_),((true,r.name):a_))]:=by
 rw [take_add_one,hj,map_append]; rfl
theorem MA (h:bM E) (h':x_ E) (hl:Lb.kB E) {Y:Sg} {gb m0 m1 sa ma b3 b4:Nat} {es0 es1:List (V × V)} {A:List a_} {L3 L4:List dF} (ga:mW E Y gb m0 m1 sa ma b3 b4 es0 es1 A L3 L4) {X:List a_} {P:List (a_ × a_)} (li:uJ X P A L3 L4) (hX:X.length <= 1000) (hP:P.length <= 100000) {a c27:V} {i:Nat} {r:aF} {g:Bool} {p1 p2 p3 p4:V} (e1:indexAddr E 22 a (.int .i64 (i:Int)) = some (.dB g [.str r.name,p1,p2,p3,p4])) (i1:IS aJ p1 r.ins) (i2:IS aJ p2 r.outs) (i3:IS aJ p3 r.after) (i4:IS eV p4 r.steps) (hs:Small r) {rs:List aF} (ha:RM es0 rs) (hn:∀ q ∈ rs,q.name ≠ r.name) {get:aM -> Option V} {Pm:aM -> aM -> Prop} (hsm:SM E es1 get) (hsv:CW es1) (hmk:MK get Pm)
  (F:FT) (g0:F.get 0 = a) (g5:F.get 5 = .ref gb 0) (g26:F.get 26 = a) (g27:F.get 27 = c27) (g28:F.get 28 = .int .i64 (i:Int)) {st:List kY} {Q:Ax.X -> Fr -> Sg -> Prop}
  (hk:∀ F' τ' es0' es1' get' A' L3' L4',F'.get 0 = a -> F'.get 5 = .ref gb 0 -> F'.get 26 = a -> F'.get 27 = c27 -> F'.get 28 = .int .i64 (i:Int) -> mW E τ' gb m0 m1 sa ma b3 b4 es0' es1' A' L3' L4' -> uJ (X ++ [iH r]) (P ++ fG r) A' L3' L4' -> RM es0' (rs ++ [r]) -> SM E es1' get' -> CW es1' -> MK get' (fun k n=>Pm k n \/ (k ∈ r.outs /\ n = r.name)) -> M E st .normal ⟨88,F'⟩ τ' Q):Ax.R E (cutAt [1,1,1,0,1,2,2,1,1,0,2] (aA Tryz.f19).code) st ⟨88,F⟩ Y Q:=by
 have o1:=aI i1.bB
 have o2:=aI i2.bB
 have o3:=aI i3.bB
 have o4:=aI i4.bB
 have a1:=hs.ins
 have a2:=hs.outs
 have l1:=bK h i1
 have l2:=bK h i2
 have d8:=h'.Xy
 simp only [aA,Tryz.f19,cutAt,Option.getD_some] at d8
 have d18:=h'.SC
 simp only [aA,Tryz.f19,cutAt,Option.getD_some] at d18
 have d19:=h'.SA
 simp only [aA,Tryz.f19,cutAt,Option.getD_some] at d19
 have r9:=fun {Y} {es0} {y} ga hy hA F g5 g7 st Q hk=>UU (Y:=Y) (y:=y) (r:=r) (p1:=p1) (p2:=p2) (p3:=p3) (p4:=p4) (A:=A) (L3:=L3) (L4:=L4) (gb:=gb) (m0:=m0) (m1:=m1) (sa:=sa) (ma:=ma) (b3:=b3) (b4:=b4) (es0:=es0) (es1:=es1) h h' hl ga hy hA F g5 g7 (st:=st) (Q:=Q) hk
 rw [show cutAt [1,1,1,0,1,2,2,1,1,0,2] (aA Tryz.f19).code = .seq (cutAt [1,1,1,0,1,2,2,1,1,0,2,0] (aA Tryz.f19).code) (.seq (cutAt [1,1,1,0,1,2,2,1,1,0,2,1,0] (aA Tryz.f19).code) (.seq (.region 9 (opsOf (cutAt [1,1,1,0,1,2,2,1,1,0,2,1,1,0] (aA Tryz.f19).code)) true) (cutAt [1,1,1,0,1,2,2,1,1,0,2,1,1,1] (aA Tryz.f19).code))) from rfl]
 generalize opsOf (cutAt [1,1,1,0,1,2,2,1,1,0,2,1,1,0] (aA Tryz.f19).code) = O9 at r9 ⊢
 generalize hREST:cutAt [1,1,1,0,1,2,2,1,1,0,2,1,1,1] (aA Tryz.f19).code = REST
 have ga1:=ga.app (O.cells 37 [.str r.name,p1,p2,p3,p4] true)
 have hy1:(Y ++ [O.cells 37 [.str r.name,p1,p2,p3,p4] true])[Y.length]? = some (O.cells 37 [.str r.name,p1,p2,p3,p4] true):=aR
 have gg1:=ga1.g
 simp only [aA,Tryz.f19,KP,Ax.loadAt,Ax.storeAt,↓reduceIte,reduceEqDiff,reduceLT,reduceAdd,reduceCtorEq,h.cK,h.bE,cutAt,bI d8,cB,h'.zT,h'.LC,g5,g26,g28,e1,o1,o2,o3,o4,gg1,hy1,aR,cU]
 generalize Y ++ [O.cells 37 [.str r.name,p1,p2,p3,p4] true] = τ1 at *
 generalize Y.length = y at *
 refine aU (NL h h' (v:=.agg [.str r.name,p1,p2,p3,p4]) ⟨p1,p2,p3,p4,rfl,i1,i2,i3,i4⟩ hs) ?_
 rintro v σ' ⟨rfl,hv⟩
 obtain ⟨hu,hrm⟩:=JW h h' ga1.rules ha hn hv
 have ga2:=ga1.rule (es0 ++ [(.str r.name,v)])
 have hy2:(σ'.set m0 (.map (es0 ++ [(.str r.name,v)])))[y]? = some (O.cells 37 [.str r.name,p1,p2,p3,p4] true):=Lb.dO.Eg ga1.rules _ _ _ _ hy1
 simp only [KP,↓reduceIte,reduceEqDiff,reduceLT,hu]
 generalize σ'.set m0 (.map (es0 ++ [(.str r.name,v)])) = τ2 at *
 refine r9 ga2 hy2 (by have:=li.MX; omega) _ ?_ ?_ _ _ (fun F3 τ3 hF3 ga3 kc3=>?_)
 ·simp +decide only [GS,g5]
 ·simp +decide only [GS]
 have li3:=li.rule (iH r)
 have hy3:=kc3 _ _ _ _ hy2
 have q0:F3.get 0 = a:=(hF3 0 (by simp)).trans (by simp +decide only [GS,g0])
 have q5:F3.get 5 = .ref gb 0:=(hF3 5 (by simp)).trans (by simp +decide only [GS,g5])
 have G0:F3.get 26 = a:=(hF3 26 (by simp)).trans (by simp +decide only [GS,g26])
 have Uz:F3.get 27 = c27:=(hF3 27 (by simp)).trans (by simp +decide only [GS,g27])
 have Uy:F3.get 28 = .int .i64 (i:Int):=(hF3 28 (by simp)).trans (by simp +decide only [GS,g28])
 have q7:F3.get 7 = .ref y 0:=(hF3 7 (by simp)).trans (by simp +decide only [GS])
 have hX3:(X ++ [iH r]).length <= 1001:=by rw [length_append]; simp only [length_cons,length_nil]; omega
 subst hREST
 generalize X ++ [iH r] = X3 at *
 generalize keys A [iH r] = A3 at *
 have kr:=fun (Y:Sg)=>Px (Z:=Y) h h' (s:=r.name)
 rw [R1]
 simp only [aA,Tryz.f19,KP,Ax.loadAt,↓reduceIte,reduceLT,reduceCtorEq,h.aS,h.bE,cutAt,q7,hy3,l1]
 refine aQ (fun j F Y=>F.get 0 = a /\ F.get 5 = .ref gb 0 /\ F.get 26 = a /\ F.get 27 = c27 /\ F.get 28 = .int .i64 (i:Int) /\ F.get 7 = .ref y 0 /\ F.get 50 = p1 /\ F.get 51 = .int .i64 (r.ins.length:Int) /\ F.get 52 = .int .i64 (j:Int) /\ Y[y]? = some (O.cells 37 [.str r.name,p1,p2,p3,p4] true) /\ ∃ A L3 L4,mW E Y gb m0 m1 sa ma b3 b4 (es0 ++ [(.str r.name,v)]) es1 A L3 L4 /\ uJ X3 (P ++ (r.ins.take j).map (fun f=>(((true,r.name):a_),((false,f):a_)))) A L3 L4) r.ins.length ?_ ?_ r.ins.length 0 _ _ (by omega) (Ap (by simp +decide only [GS,q0,q5,G0,Uz,Uy,q7,and_self]) ⟨hy3,A3,L3,L4,ga3,by rw [List.take_zero,map_nil,append_nil]; exact li3⟩)
 ·rintro j F Y hj ⟨g0,g5,g26,g27,g28,g7,g50,g51,g52,hy,A,L3,L4,ga,li⟩ next
  obtain ⟨s,hsj⟩:∃ y,r.ins[j]? = some y:=⟨_,List.getElem?_eq_getElem hj⟩
  obtain ⟨g',e2⟩:=fJ h i1 hsj
  have hlt:=dR hj
  have hadd:=bU j (by omega)
  have hPl:(P ++ (r.ins.take j).map (fun f=>(((true,r.name):a_),((false,f):a_)))).length <= 100010:=by rw [length_append,length_map,length_take]; omega
  have kf:=fun (Y:Sg)=>Jn (Z:=Y) h h' (s:=s)
  rw [aG]
  simp only [KP,Ax.loadAt,↓reduceIte,reduceEqDiff,reduceLT,reduceCtorEq,h.cK,h.bE,g5,g7,g50,g51,g52,hlt,e2,hy,kr,kf]
  refine aU (NJ h h' hl ga (x:=(true,r.name)) (y:=(false,s)) (by have:=li.MX; omega) (fun e he=>by have:=li.Pj e he; omega) (fun e he=>by have:=li.Ph e he; omega)) ?_
  rintro v2 τ' ⟨rfl,L3',L4',ga',gr3,gr4,kc⟩
  simp only [KP,↓reduceIte,reduceEqDiff,reduceLT,g52,hadd]
  refine next _ _ (Ap (by simp +decide only [GS,g0,g5,g26,g27,g28,g7,g50,g51,and_self]) ⟨kc _ _ _ _ hy,_,L3',L4',ga',?_⟩)
  rw [Hf hsj,<- append_assoc]
  exact li.link gr3 gr4
 rintro F Y ⟨g0,g5,g26,g27,g28,g7,g50,g51,g52,hy,A,L3,L4,ga,li⟩
 rw [take_of_length_le (Nat.le_refl _)] at li
 have hPl:(P ++ r.ins.map (fun f=>(((true,r.name):a_),((false,f):a_)))).length <= 100010:=by rw [length_append,length_map]; omega
 rw [aG]
 have hlt:=dS (Nat.lt_irrefl r.ins.length)
 simp only [KP,Ax.loadAt,↓reduceIte,reduceEqDiff,reduceLT,reduceCtorEq,h.aS,h.bE,g51,g52,hlt,g7,hy,l2]
 generalize hP2:P ++ r.ins.map (fun f=>(((true,r.name):a_),((false,f):a_))) = P2 at *
 refine aQ (fun j F Y=>F.get 0 = a /\ F.get 5 = .ref gb 0 /\ F.get 26 = a /\ F.get 27 = c27 /\ F.get 28 = .int .i64 (i:Int) /\ F.get 7 = .ref y 0 /\ F.get 65 = p2 /\ F.get 66 = .int .i64 (r.outs.length:Int) /\ F.get 67 = .int .i64 (j:Int) /\ Y[y]? = some (O.cells 37 [.str r.name,p1,p2,p3,p4] true) /\ ∃ es1 get A L3 L4,mW E Y gb m0 m1 sa ma b3 b4 (es0 ++ [(.str r.name,v)]) es1 A L3 L4 /\ uJ X3 (P2 ++ (r.outs.take j).map (fun f=>(((false,f):a_),((true,r.name):a_)))) A L3 L4 /\ SM E es1 get /\ CW es1 /\ MK get (fun k n=>Pm k n \/ (k ∈ r.outs.take j /\ n = r.name))) r.outs.length ?_ ?_ r.outs.length 0 _ _ (by omega) (Ap (by simp +decide only [GS,g0,g5,g26,g27,g28,g7,and_self]) ⟨hy,es1,get,A,L3,L4,ga,by rw [List.take_zero,map_nil,append_nil]; exact li,hsm,hsv,hmk.congr fun k n=>by simp⟩)
 ·rintro j F Y hj ⟨g0,g5,g26,g27,g28,g7,g65,g66,g67,hy,es1,get,A,L3,L4,ga,li,hsm,hsv,hmk⟩ next
  obtain ⟨s,hsj⟩:∃ y,r.outs[j]? = some y:=⟨_,List.getElem?_eq_getElem hj⟩
  obtain ⟨g',e2⟩:=fJ h i2 hsj
  have hlt:=dR hj
  have hadd:=bU j (by omega)
  have hPl2:(P2 ++ (r.outs.take j).map (fun f=>(((false,f):a_),((true,r.name):a_)))).length <= 100020:=by rw [length_append,length_map,length_take]; omega
  have kf:=fun (Y:Sg)=>Jn (Z:=Y) h h' (s:=s)
  rw [aG]
  simp only [KP,Ax.loadAt,↓reduceIte,reduceEqDiff,reduceLT,reduceCtorEq,h.cK,h.bE,bI d18,cB,g5,g7,g65,g66,g67,hlt,e2,hy,kr,kf]
  refine aU (NJ h h' hl ga (x:=(false,s)) (y:=(true,r.name)) (by have:=li.MX; omega) (fun e he=>by have:=li.Pj e he; omega) (fun e he=>by have:=li.Ph e he; omega)) ?_
  rintro v2 τ' ⟨rfl,L3',L4',ga',gr3,gr4,kc⟩
  have hy':=kc _ _ _ _ hy
  have hg':=ga'.g
  obtain ⟨es1',hu,hsm',hsv'⟩:=Oj h ga'.iU hsm hsv s r.name
  have ga2:=ga'.Jb es1'
  simp only [KP,Ax.loadAt,↓reduceIte,reduceEqDiff,reduceLT,reduceCtorEq,h.cK,h.bE,h.Ba,bI d19,cB,h'.zT,g5,g7,g67,hadd,hy',hg',hu]
  refine next _ _ (Ap (by simp +decide only [GS,g0,g5,g26,g27,g28,g7,g65,g66,and_self]) ⟨Lb.dO.Eg ga'.iU _ _ _ _ hy',es1',_,_,L3',L4',ga2,?_,hsm',hsv',(hmk.put s r.name).congr fun k n=>?_⟩)
  ·rw [E8 hsj,<- append_assoc]
   exact li.link gr3 gr4
  ·rw [dQ hsj k]
   constructor
   ·rintro ((h1 | h1) | h1)
    ·exact .inl h1
    ·exact .inr ⟨.inl h1.1,h1.2⟩
    ·exact .inr ⟨.inr h1.1,h1.2⟩
   ·rintro (h1 | ⟨h1 | h1,h2⟩)
    ·exact .inl (.inl h1)
    ·exact .inl (.inr ⟨h1,h2⟩)
    ·exact .inr ⟨h1,h2⟩
 rintro F Y ⟨g0,g5,g26,g27,g28,g7,g65,g66,g67,hy,es1,get,A,L3,L4,ga,li,hsm,hsv,hmk⟩
 rw [take_of_length_le (Nat.le_refl _)] at li hmk
 rw [aG]
 have hlt:=dS (Nat.lt_irrefl r.outs.length)
 simp only [KP,↓reduceIte,reduceLT,g66,g67,hlt]
 refine hk _ _ _ _ _ _ _ _ (by simp +decide only [GS,g0]) (by simp +decide only [GS,g5]) (by simp +decide only [GS,g26]) (by simp +decide only [GS,g27]) (by simp +decide only [GS,g28]) ga ?_ hrm hsm hsv hmk
 unfold fG
 rw [<- append_assoc,hP2]
 exact li
end
end
section
section
variable {E:Env} {Z:Sg} {K:V -> Sg -> Prop}
theorem DH {rs:List aF} {i:Nat} {r:aF} (hr:rs[i]? = some r):(rs.take (i + 1)).flatMap fG = (rs.take i).flatMap fG ++ fG r /\ (rs.take (i + 1)).map iH = (rs.take i).map iH ++ [iH r]:=by
 rw [take_add_one,hr]
 simp
theorem nw_c (h:bM E) (h':x_ E) (hl:Lb.kB E) {a:V} {rs:List aF} (ia:IS cV a rs) (hs:∀ x ∈ rs,Small x) (hsh:CC rs) (hlen:rs.length <= 1000) (F:FT) (g0:F.get 0 = a) {K:V -> Sg -> Prop}
  (hk:∀ Y gb ma b3 b4 es0 es1 get A L3 L4,mW E Y gb 0 1 2 ma b3 b4 es0 es1 A L3 L4 -> uJ (rs.map iH) (rs.flatMap fG) A L3 L4 -> RM es0 rs -> SM E es1 get -> CW es1 -> MK get (Mk rs) -> K (.ref gb 0) Y):Ax.R E (cutAt [1,1] (aA Tryz.f19).code) [] ⟨88,F⟩ [] (lT E (aA Tryz.f19).results K):=by
 have la:=cA h ia
 have inner:=fun {Y gb ma b3 b4 es0 es1 A L3 L4} ga {X P} li hX hP {i r g p1 p2 p3 p4} e1 i1 i2 i3 i4 hs {rs2} ha hn {get Pm} hsm hsv hmk F g0 g5 g26 g27 g28 st Q hk=>MA (Y:=Y) (gb:=gb) (m0:=0) (m1:=1) (sa:=2) (ma:=ma) (b3:=b3) (b4:=b4) (es0:=es0) (es1:=es1) (A:=A) (L3:=L3) (L4:=L4) (X:=X) (P:=P) (a:=a) (c27:=.int .i64 (rs.length:Int)) (i:=i) (r:=r) (g:=g) (p1:=p1) (p2:=p2) (p3:=p3) (p4:=p4) (rs:=rs2) (get:=get) (Pm:=Pm) h h' hl ga li hX hP e1 i1 i2 i3 i4 hs ha hn hsm hsv hmk F g0 g5 g26 g27 g28 (st:=st) (Q:=Q) hk
 rw [show cutAt [1,1] (aA Tryz.f19).code = .seq (cutAt [1,1,0] (aA Tryz.f19).code) (.seq (.seq (cutAt [1,1,1,0,0] (aA Tryz.f19).code) (.block 0 (.loop (.seq (cutAt [1,1,1,0,1,2,2,0] (aA Tryz.f19).code) (.seq (cutAt [1,1,1,0,1,2,2,1,0] (aA Tryz.f19).code) (.seq (.block 1 (cutAt [1,1,1,0,1,2,2,1,1,0,2] (aA Tryz.f19).code)) (cutAt [1,1,1,0,1,2,2,1,1,1] (aA Tryz.f19).code))))))) (cutAt [1,1,1,1] (aA Tryz.f19).code)) from rfl]
 generalize cutAt [1,1,1,0,1,2,2,1,1,0,2] (aA Tryz.f19).code = B at inner ⊢
 simp only [aA,Tryz.f19,KP,↓reduceIte,reduceLT,cutAt]
 refine aU (Lb.QY hl (Z:=[.map [],.map []]) (v:=.aC) (l:=[]) (.inl ⟨rfl,rfl⟩) (by simp)) ?_
 rintro v τ1 ⟨m,rfl,hset,hlt,nH⟩
 have k0:=nH 0 _ rfl
 have k1:=nH 1 _ rfl
 have hs2:Lb.cO τ1 2 m []:=hset
 have hlt:2 < m:=hlt
 have hml:=(List.getElem?_eq_some_iff.1 hs2.map).1
 simp only [KP,↓reduceIte,reduceEqDiff,reduceLT,reduceAdd,reduceCtorEq,h.Ba,Ax.fill,Ax.placeOf,hl.CJ,h'.zT,h'.LC,h'.uK,g0,la]
 have ga0:mW E (τ1 ++ [.map []] ++ [.map []] ++ [.cells 107 [.mp 0,.mp 1,.ref 2 0,.mp τ1.length,.mp (τ1 ++ [O.map []]).length] true]) (τ1 ++ [O.map []] ++ [O.map []]).length 0 1 2 m τ1.length (τ1 ++ [O.map []]).length [] [] [] [] []:=by
  refine ⟨aR,aL (aL (aL k0)),aL (aL (aL k1)),cO.app (cO.app (cO.app hs2 _) _) _,⟨aL (aL aR),(fun e he=>by cases he),nodup_nil⟩,⟨aL aR,(fun e he=>by cases he),nodup_nil⟩,?_⟩
  rw [length_append]
  simp only [map_nil,append_nil,nodup_cons,mem_cons,List.not_mem_nil,or_false,not_or,length_cons,length_nil,not_false_eq_true,nodup_nil,and_true]
  omega
 generalize τ1 ++ [.map []] ++ [.map []] ++ [.cells 107 [.mp 0,.mp 1,.ref 2 0,.mp τ1.length,.mp (τ1 ++ [O.map []]).length] true] = τ2 at *
 generalize (τ1 ++ [O.map []] ++ [O.map []]).length = gb at *
 generalize (τ1 ++ [O.map []]).length = b4 at *
 generalize τ1.length = b3 at *
 refine aQ (fun i F Y=>F.get 0 = a /\ F.get 5 = .ref gb 0 /\ F.get 26 = a /\ F.get 27 = .int .i64 (rs.length:Int) /\ F.get 28 = .int .i64 (i:Int) /\ ∃ es0 es1 get A L3 L4,mW E Y gb 0 1 2 m b3 b4 es0 es1 A L3 L4 /\ uJ ((rs.take i).map iH) ((rs.take i).flatMap fG) A L3 L4 /\ RM es0 (rs.take i) /\ SM E es1 get /\ CW es1 /\ MK get (Mk (rs.take i))) rs.length ?_ ?_ rs.length 0 _ _ (by omega) (lY (by simp +decide only [GS,g0,and_self]) ⟨[],[],fun _=>none,[],[],[],ga0,uJ.nil,.nil,Ht,(fun e he=>by cases he),MK.nil.congr fun k n=>⟨fun h=>h.elim,fun ⟨q,hq,_⟩=>by cases hq⟩⟩)
 ·rintro i F Y hi ⟨g0,g5,g26,g27,g28,es0,es1,get,A,L3,L4,ga,li,ha,hsm,hsv,hmk⟩ next
  obtain ⟨r,hr⟩:∃ y,rs[i]? = some y:=⟨_,List.getElem?_eq_getElem hi⟩
  obtain ⟨g,p1,p2,p3,p4,e1,i1,i2,i3,i4⟩:=eM h ia hr
  have hrm:=mem_of_getElem? hr
  have hlt:=dR hi
  have hadd:=bU i (by omega)
  have hnn:∀ q ∈ rs.take i,q.name ≠ r.name:=fun q hq e=>by
   obtain ⟨j,hj⟩:=List.mem_iff_getElem?.1 hq
   have hji:j < i:=by have:=(List.getElem?_eq_some_iff.1 hj).1; rw [length_take] at this; omega
   rw [List.getElem?_take_of_lt hji] at hj
   have:=hsh.nodup j i q r hj hr e
   omega
  have hXl:((rs.take i).map iH).length <= 1000:=by rw [length_map,length_take]; omega
  have hPl:((rs.take i).flatMap fG).length <= 100000:=by
   have:=qA (rs.take i) fun q hq=>hs q (List.mem_of_mem_take hq)
   rw [length_take] at this
   omega
  rw [aG]
  simp only [KP,↓reduceIte,reduceLT,g27,g28,hlt]
  refine inner ga li hXl hPl e1 i1 i2 i3 i4 (hs r hrm) ha hnn hsm hsv hmk _ ?_ ?_ ?_ ?_ ?_ _ _ (fun F2 τ2 es0' es1' get' A' L3' L4' q0 q5 G0 Uz Uy ga' li' ha' hsm' hsv' hmk'=>?_)
  ·simp +decide only [GS,g0]
  ·simp +decide only [GS,g5]
  ·simp +decide only [GS,g26]
  ·simp +decide only [GS,g27]
  ·simp +decide only [GS,g28]
  simp only [KP,↓reduceIte,reduceLT,Uy,hadd]
  refine next _ _ (lY (by simp +decide only [GS,q0,q5,G0,Uz,and_self]) ⟨es0',es1',get',A',L3',L4',ga',?_,?_,hsm',hsv',hmk'.congr fun k n=>(JN hr k n).symm⟩)
  ·rw [(DH hr).1,(DH hr).2]; exact li'
  ·rw [take_add_one,hr]; exact ha'
 ·rintro F Y ⟨g0,g5,g26,g27,g28,es0,es1,get,A,L3,L4,ga,li,ha,hsm,hsv,hmk⟩
  rw [take_of_length_le (Nat.le_refl _)] at li ha hmk
  have hlt:=dS (Nat.lt_irrefl rs.length)
  rw [aG]
  simp only [KP,↓reduceIte,reduceEqDiff,reduceLT,g5,g27,g28,hlt]
  exact hk _ _ _ _ _ _ _ _ _ _ _ ga li ha hsm hsv hmk
end
end
section
section
variable {E:Env} {Z:Sg} {K:V -> Sg -> Prop}
def RN (ks:List a_):V:=.dB false [.imp false (Lb.xN ks)]
def P_ (e:dF):V × V:=(p_ e.key,RN e.ks)
def gV (es0 es1:List (V × V)) (A:List a_) (L3 L4:List dF):V:=.dB false [.imp false es0,.imp false es1,RN A,.imp false (L3.map P_),.imp false (L4.map P_)]
structure QI (E:Env) (rs:List aF) (es0 es1:List (V × V)) (get:aM -> Option V) (A:List a_) (L3 L4:List dF):Prop where
 rules:RM es0 rs
 sm:SM E es1 get
 sv:CW es1
 Jb:MK get (Mk rs)
 li:uJ (rs.map iH) (rs.flatMap fG) A L3 L4
 nA:A.Nodup
 n3:(L3.map dF.key).Nodup
 n4:(L4.map dF.key).Nodup
 k3:∀ e ∈ L3,e.ks.Nodup
 k4:∀ e ∈ L4,e.ks.Nodup
def GrV (E:Env) (rs:List aF) (v:V):Prop:=∃ es0 es1 get A L3 L4,v = gV es0 es1 A L3 L4 /\ QI E rs es0 es1 get A L3 L4
theorem FW {α β γ:Type} {f:β -> Option γ} {g:α -> β} {k:α -> γ}:∀ {l:List α},(∀ x ∈ l,f (g x) = some (k x)) -> aX f (l.map g) = some (l.map k)
 | [],_=>rfl
 | x :: l,h=>by rw [map_cons,aX,h x (mem_cons_self ..),FW fun y hy=>h y (mem_cons_of_mem _ hy)]; rfl
theorem Bo {Z:Sg} {b m n:Nat} {ks:List a_} (hs:Lb.cO Z b m ks):bN Z E.ty false (n + 3) (.ref b 0) = some (RN ks):=by
 have e1:bN Z E.ty false (n + 2) (.mp m) = some (.imp false (Lb.xN ks)):=by
  rw [bN]
  simp only [hs.map]
  rw [Lb.FX (Lb.xN ks)]
  intro e he
  obtain ⟨k,_,rfl⟩:=mem_map.1 he
  rfl
 rw [bN]
 simp only [hs.obj,drop_zero]
 show (match aX (fun v=>match bN Z E.ty false (n + 2) v with
  | some v=>if cH false v then some v else no "snap: borrowed"
  | none=>none) [V.mp m] with
  | some l=>some (V.dB false l)
  | none=>none) = _
 simp only [aX,e1]
 rfl
theorem Bn {Z:Sg} {b n:Nat} {L:List dF} (hm:iG Z b L):bN Z E.ty false (n + 4) (.mp b) = some (.imp false (L.map P_)):=by
 rw [bN]
 simp only [hm.map]
 rw [FW (k:=P_) fun e he=>?_]
 have h1:=Bo (E:=E) (n:=n) (hm.sets e he)
 have hp:(p_ e.key).cells.all Ax.plainCell = true:=rfl
 show (if (p_ e.key).cells.all Ax.plainCell = true then (match (match bN Z E.ty false (n + 3) (.ref e.s 0) with
   | some v=>if cH false v then some v else no "snap: borrowed"
   | none=>none) with
   | some v=>some (p_ e.key,v)
   | none=>none) else none) = _
 rw [if_pos hp,h1]
 rfl
theorem Fo {Z:Sg} {b n:Nat} {es:List (V × V)} {rs:List aF} (hb:Z[b]? = some (.map es)) (ha:RM es rs):bN Z E.ty false (n + 2) (.mp b) = some (.imp false es):=by
 rw [bN]
 simp only [hb]
 rw [iQ fun e he=>?_]
 obtain ⟨r,-,e1,a,b,c,d,e2,i1,i2,i3,i4⟩:=ha.mem he
 obtain ⟨k,v⟩:=e
 dsimp only at e1 e2
 subst e1 e2
 have hp:(V.str r.name).cells.all Ax.plainCell = true:=rfl
 have q:∀ c:V,Ax.bB c = true -> bN Z E.ty false (n + 1) c = some c:=fun c h1=>jN h1
 have t0:cH false (V.str r.name) = true:=rfl
 simp only [hp,if_true,aX,q (.str r.name) rfl,q a i1.is.bB,q b i2.is.bB,q c i3.is.bB,q d i4.is.bB,t0,i1.tag,i2.tag,i3.tag,i4.tag]
theorem Hs {Z:Sg} {b n:Nat} {es:List (V × V)} {get:aM -> Option V} (hb:Z[b]? = some (.map es)) (hs:SM E es get) (hv:CW es):bN Z E.ty false (n + 2) (.mp b) = some (.imp false es):=by
 rw [bN]
 simp only [hb]
 rw [iQ fun e he=>?_]
 obtain ⟨k,e1⟩:=(hs.1 e he).1
 obtain ⟨m,e2⟩:=hv e he
 obtain ⟨a,v⟩:=e
 dsimp only at e1 e2
 subst e1 e2
 rfl
theorem Hr {Z:Sg} {gb m0 m1 sa ma b3 b4:Nat} {es0 es1:List (V × V)} {get:aM -> Option V} {A:List a_} {L3 L4:List dF} {rs:List aF} (ga:mW E Z gb m0 m1 sa ma b3 b4 es0 es1 A L3 L4) (ha:RM es0 rs) (hs:SM E es1 get) (hv:CW es1):cT Z E.ty false (.ref gb 0) = some (gV es0 es1 A L3 L4):=by
 have s0:=Fo (E:=E) (n:=9) ga.rules ha
 have s1:=Hs (E:=E) (n:=9) ga.iU hs hv
 have s2:=Bo (E:=E) (n:=8) ga.all
 have s3:=Bn (E:=E) (n:=7) ga.jH
 have s4:=Bn (E:=E) (n:=7) ga.jB
 have e:bN Z E.ty false 12 (.ref gb 0) = some (gV es0 es1 A L3 L4):=by
  rw [bN]
  simp only [ga.g,drop_zero]
  show (match aX (fun v=>match bN Z E.ty false 11 v with
   | some v=>if cH false v then some v else no "snap: borrowed"
   | none=>none) [V.mp m0,V.mp m1,V.ref sa 0,V.mp b3,V.mp b4] with
   | some l=>some (V.dB false l)
   | none=>none) = _
  simp only [aX,s0,s1,s2,s3,s4]
  rfl
 show (match bN Z E.ty false 12 (.ref gb 0) with
  | some v=>if cH false v then some v else no "snap: borrowed"
  | none=>none) = _
 rw [e]
 rfl
theorem Ic (h:bM E) (h':x_ E) (hl:Lb.kB E) {a:V} {rs:List aF} (ha:LS cV 37 Z a rs) (hs:∀ x ∈ rs,Small x) (hlen:rs.length <= 4294967296):aB E 19 [a] Z fun v σ'=>σ' = Z /\ ((¬ eU rs /\ v = .gZ) \/ (eU rs /\ GrV E rs v)):=by
 obtain ⟨a',ea,ia⟩:=dW h ha
 rw [aH h'.hs19 h'.LY h'.fn19 h'.md19 (args':=[a']) (by simp only [aX,ea]),bD (by kernel_rfl)]
 have key:=fun hsh hlen F g0 hk=>nw_c (a:=a') (rs:=rs) h h' hl ia hs hsh hlen F g0 (K:=fun v σ1=>match cT σ1 E.ty false v with
   | some v=>((¬ eU rs /\ v = .gZ) \/ (eU rs /\ GrV E rs v))
   | none=>False) hk
 rw [show (aA Tryz.f19).code = .seq (cutAt [0] (aA Tryz.f19).code) (.seq (cutAt [1,0] (aA Tryz.f19).code) (cutAt [1,1] (aA Tryz.f19).code)) from rfl]
 generalize cutAt [1,1] (aA Tryz.f19).code = C at key ⊢
 simp only [aA,Tryz.f19,KP,↓reduceIte,reduceLT,reduceCtorEq,cutAt]
 refine aU (NS h (ia.ls _ 37) hs hlen) ?_
 rintro v σ' ⟨rfl,e,nm,rfl,hE⟩
 by_cases he:e = 0
 ·have q:=decide_eq_true he
  have hr:=hE.zero.1 he
  have hg:=lI hr.1
  have h40:=hg.len
  simp only [KP,↓reduceIte,reduceEqDiff,reduceLT,q]
  refine key hg.short (Nat.le_trans h40 (by decide)) _ ?_ ?_
  ·simp +decide only [GS]
  intro Y gb ma b3 b4 es0 es1 get A L3 L4 ga li ha hsm hsv hmk
  rw [Hr ga ha hsm hsv]
  exact .inr ⟨hr,es0,es1,get,A,L3,L4,rfl,ha,hsm,hsv,hmk,li,ga.all.nodup,ga.jH.nodup,ga.jB.nodup,fun e he=>(ga.jH.sets e he).nodup,fun e he=>(ga.jB.sets e he).nodup⟩
 ·have q:=decide_eq_false he
  simp only [KP,↓reduceIte,reduceEqDiff,reduceLT,q]
  exact .inl ⟨mt hE.zero.2 he,rfl⟩
theorem OY (h:bM E) (h':x_ E) (hl:Lb.kB E):JM E:=by
 intro Z a rs ha hs hr
 have h40:=(lI hr.1).len
 refine (Ic h h' hl ha hs (by omega)).mono ?_
 rintro v σ' ⟨rfl,⟨hn,-⟩ | ⟨-,es0,es1,get,A,L3,L4,rfl,hi⟩⟩
 ·exact absurd hr hn
 ·exact ⟨rfl,false,false,_,_,_,_,es1,get,rfl,hi.sm,hi.Jb⟩
end
end
section
structure OrL (E:Env):Prop where
 hs3:E.hspec 3 = none
 Fe:E.spec 3 = none
 fn3:E.fn 3 = some (aA Tryz.f3)
 md3:E.mode 3 = .eT
 Tc:∀ {Z:Sg} {K:V -> Sg -> Prop},aB E 11 [] Z K = K (.bool true) Z
section
variable {E:Env} {Z:Sg} {K:V -> Sg -> Prop}
theorem Ai {α:Type} {p:α -> Bool}:∀ {l:List α} {k:Nat},bF p l = some k -> ∀ (j:Nat) (y:α),j < k -> l[j]? = some y -> p y = false
 | [],_,h,_,_,_,_=>by cases h
 | x :: l,k,h,j,y,hj,hy=>by
  rw [bF] at h
  by_cases hx:p x = true
  ·rw [if_pos hx] at h; cases h; omega
  ·rw [if_neg hx] at h
   cases hf:bF p l with
   | none=>rw [hf] at h; cases h
   | some m=>
    rw [hf] at h
    cases h
    cases j with
    | zero=>cases hy; simpa using hx
    | succ j=>exact Ai hf j y (Nat.lt_of_succ_lt_succ hj) hy
theorem uD.all {rs:List aF} {o:List aM} (h:uD rs o) (hn:(rs.map aF.name).Nodup):∀ x ∈ rs.map aF.name,x ∈ o:=fun x hx=>by
 refine Classical.byContradiction fun hxo=>?_
 have:=kU (a:=x :: o) (b:=rs.map aF.name) (nodup_cons.2 ⟨hxo,h.nodup⟩) fun y hy=>by
  rcases mem_cons.1 hy with rfl | hy
  ·exact hx
  ·exact h.mem y hy
 rw [length_cons,length_map,h.len] at this
 omega
theorem uD.idx {rs:List aF} {o:List aM} (h:uD rs o) (hn:(rs.map aF.name).Nodup) {r:aF} (hr:r ∈ rs):∃ j,bF (fun x=>decide (x = r.name)) o = some j /\ o[j]? = some r.name:=by
 obtain ⟨j,hj⟩:=jK (p:=fun x:aM=>decide (x = r.name)) (h.all hn r.name (mem_map.2 ⟨r,hr,rfl⟩)) (decide_eq_true rfl)
 obtain ⟨x,h1,h2⟩:=gL hj
 exact ⟨j,hj,by rw [h1,of_decide_eq_true h2]⟩
theorem uD.lt {rs:List aF} {o:List aM} (h:uD rs o) {i k j m:Nat} {p q:aF} (hp:rs[i]? = some p) (hq:rs[k]? = some q) (hm:fS rs false i k = true) (hj:o[j]? = some p.name) (hk:bF (fun x=>decide (x = q.name)) o = some m):m < j:=by
 have hmem:=h.behind i k p q hp hq hm j hj
 obtain ⟨t,ht⟩:=List.mem_iff_getElem?.1 hmem
 have htj:t < j:=by have:=(List.getElem?_eq_some_iff.1 ht).1; rw [length_take] at this; omega
 rw [List.getElem?_take_of_lt htj] at ht
 refine Nat.lt_of_le_of_lt (Nat.le_of_not_lt fun hlt=>?_) htj
 have:=Ai hk t q.name hlt ht
 simp at this
end
end
section
structure GqE (E:Env):Prop where
 hs23:E.hspec 23 = none
 OB:E.spec 23 = none
 fn23:E.fn 23 = some (aA Tryz.f23)
 md23:E.mode 23 = .eT
 hs36:E.hspec 36 = none
 sp36:E.spec 36 = none
 fn36:E.fn 36 = some (aA Tryz.f36)
 md36:E.mode 36 = .eT
 hs26:E.hspec 26 = none
 Oy:E.spec 26 = none
 fn26:E.fn 26 = some (aA Tryz.f26)
 md26:E.mode 26 = .eT
 hs33:E.hspec 33 = none
 sp33:E.spec 33 = none
 fn33:E.fn 33 = some (aA Tryz.f33)
 md33:E.mode 33 = .eT
 hs39:E.hspec 39 = none
 sp39:E.spec 39 = none
 fn39:E.fn 39 = some (aA Tryz.f39)
 md39:E.mode 39 = .eT
 hs76:E.hspec 76 = none
 sp76:E.spec 76 = none
 fn76:E.fn 76 = some (aA Tryz.f76)
 md76:E.mode 76 = .eT
 d23_3:aN E (cutAt [1,1,0] (aA Tryz.f23).code) = true
 d36_3:aN E (cutAt [1,1,0] (aA Tryz.f36).code) = true
 d26_1:aN E (cutAt [1,0,2,0] (aA Tryz.f26).code) = true
 d26_5:aN E (cutAt [1,0,2,1,1,1,1,0] (aA Tryz.f26).code) = true
section
variable {E:Env} {Z:Sg} {K:V -> Sg -> Prop}
def LVF (v:V) (l:List a_):Prop:=(v = .aC /\ l = []) \/ ∃ full,v = .bQ false (l.map row) full
theorem LVF.lv {v:V} {l:List a_} (h:LVF v l):Lb.LV v l:=h.imp id fun ⟨f,e⟩=>⟨false,f,e⟩
end
end
section
section
variable {E:Env} {Z:Sg} {K:V -> Sg -> Prop}
def QF (rs:List aF):List a_:=setOf (rs.map iH ++ (rs.flatMap fG).flatMap fun p=>[p.1,p.2])
def I8 (rs:List aF) (x:a_):List a_:=setOf (((rs.flatMap fG).filter fun p=>decide (p.1 = x)).map Prod.snd)
def Ir (rs:List aF) (x:a_):List a_:=setOf (((rs.flatMap fG).filter fun p=>decide (p.2 = x)).map Prod.fst)
theorem Kr {rs:List aF} {x w:a_}:w ∈ I8 rs x ↔ (x,w) ∈ rs.flatMap fG:=by
 unfold I8
 rw [nP,mem_map]
 constructor
 ·rintro ⟨⟨a,b⟩,h1,rfl⟩
  obtain ⟨h1,h2⟩:=mem_filter.1 h1
  rw [<- of_decide_eq_true h2]
  exact h1
 ·exact fun h1=>⟨(x,w),mem_filter.2 ⟨h1,decide_eq_true rfl⟩,rfl⟩
theorem Kq {rs:List aF} {x w:a_}:w ∈ Ir rs x ↔ (w,x) ∈ rs.flatMap fG:=by
 unfold Ir
 rw [nP,mem_map]
 constructor
 ·rintro ⟨⟨a,b⟩,h1,rfl⟩
  obtain ⟨h1,h2⟩:=mem_filter.1 h1
  rw [<- of_decide_eq_true h2]
  exact h1
 ·exact fun h1=>⟨(w,x),mem_filter.2 ⟨h1,decide_eq_true rfl⟩,rfl⟩
theorem MF (rs:List aF) (x:a_):Up (I8 rs x):=pQ _
theorem Lx (rs:List aF) (x:a_):Up (Ir rs x):=pQ _
structure Fits (rs:List aF):Prop where
 ok:eU rs
 small:∀ x ∈ rs,Small x
theorem Fits.form {rs:List aF} (h:Fits rs):∀ r ∈ rs,kA r = true:=fun r hr=>by
 have h0:=h.ok.1
 unfold fW at h0
 cases hf:rs.find? (fun r=>decide (aY r ≠ 0)) with
 | some q=>
  rw [hf] at h0
  have:=find?_some hf
  exact absurd h0 (of_decide_eq_true this)
 | none=>
  have:=find?_eq_none.1 hf r hr
  have h1:aY r = 0:=by
   refine Classical.byContradiction fun hne=>this (decide_eq_true hne)
  unfold aY at h1
  by_cases hq:kA r = false
  ·rw [if_pos hq] at h1; cases h1
  ·simpa using hq
theorem Fits.names {rs:List aF} (h:Fits rs):∀ r ∈ rs,bL r.name = true /\ (∀ f ∈ r.ins,bL f = true) /\ ∀ f ∈ r.outs,bL f = true:=fun r hr=>by
 have:=h.form r hr
 rw [zA] at this
 simp only [Bool.and_eq_true,List.all_eq_true] at this
 exact ⟨this.1.1.1.1.1,this.1.1.1.2,this.1.1.2⟩
theorem Fits.pair {rs:List aF} (h:Fits rs) {p:a_ × a_} (hp:p ∈ rs.flatMap fG):bL p.1.2 = true /\ bL p.2.2 = true:=by
 obtain ⟨r,hr,hp⟩:=List.mem_flatMap.1 hp
 obtain ⟨h1,h2,h3⟩:=h.names r hr
 unfold fG at hp
 rcases mem_append.1 hp with hp | hp
 ·obtain ⟨f,hf,rfl⟩:=mem_map.1 hp
  exact ⟨h1,h2 f hf⟩
 ·obtain ⟨f,hf,rfl⟩:=mem_map.1 hp
  exact ⟨h3 f hf,h1⟩
theorem Fits.len {rs:List aF} (h:Fits rs):rs.length <= 40:=(lI h.ok.1).len
section
variable {rs:List aF} {es0 es1:List (V × V)} {get:aM -> Option V} {A:List a_} {L3 L4:List dF}
theorem QI.all (hi:QI E rs es0 es1 get A L3 L4):setOf A = QF rs:=Fs fun x=>by
 rw [hi.li.all,mem_append,List.mem_flatMap]
 refine or_congr Iff.rfl (exists_congr fun p=>and_congr Iff.rfl ?_)
 simp
theorem QI.need (hi:QI E rs es0 es1 get A L3 L4) (x:a_):setOf (uH L3 x) = I8 rs x:=D8 (pQ _) (MF rs x) fun w=>by rw [nP,hi.li.need,Kr]
theorem QI.user (hi:QI E rs es0 es1 get A L3 L4) (x:a_):setOf (uH L4 x) = Ir rs x:=D8 (pQ _) (Lx rs x) fun w=>by rw [nP,hi.li.user,Kq]
end
end
end
section
section
variable {E:Env} {Z:Sg} {K:V -> Sg -> Prop}
def xC (rs:List aF) (f:aM):Option aF:=rs.find? fun r=>decide (f ∈ r.outs)
theorem nG {rs:List aF} {f:aM} {r:aF} (h:xC rs f = some r):r ∈ rs /\ f ∈ r.outs:=⟨List.mem_of_find?_eq_some h,by have:=find?_some h; exact of_decide_eq_true this⟩
theorem Et {rs:List aF} {f:aM} (h:xC rs f = none):∀ r ∈ rs,f ∉ r.outs:=fun r hr hf=>by
 have:=find?_eq_none.1 h r hr
 exact this (decide_eq_true hf)
theorem QI.get {rs:List aF} {es0 es1:List (V × V)} {get:aM -> Option V} {A:List a_} {L3 L4:List dF} (hi:QI E rs es0 es1 get A L3 L4) (hf:Fits rs) (f:aM):get f = (xC rs f).map fun r=>V.str r.name:=by
 rcases hi.Jb f with ⟨h1,h2⟩ | ⟨n,⟨r,hr,hfr,rfl⟩,h2⟩
 ·rw [h1]
  cases hm:xC rs f with
  | none=>rfl
  | some r=>exact absurd ⟨r,(nG hm).1,(nG hm).2,rfl⟩ (h2 r.name)
 ·rw [h2]
  cases hm:xC rs f with
  | none=>exact absurd hfr (Et hm r hr)
  | some r'=>
   have:=(lI hf.ok.1).short.iU f r.name r'.name ⟨r,hr,hfr,rfl⟩ ⟨r',(nG hm).1,(nG hm).2,rfl⟩
   rw [this]; rfl
theorem QJ.ru {v:V} {x:aF} (h:QJ v x):GR v x:=by
 obtain ⟨a,b,c,d,rfl,h1,h2,h3,h4⟩:=h
 exact ⟨a,b,c,d,rfl,h1.is,h2.is,h3.is,rB h4.is qO⟩
end
end
section
section
variable {E:Env} {Z:Sg} {K:V -> Sg -> Prop}
def Po:Lay a_:=⟨fun r x=>r = row x,2,fun _ _ h=>by rw [h]; rfl,fun _ _ h c hc=>by
 rw [h] at hc
 unfold row at hc
 simp only [mem_cons,List.not_mem_nil,or_false] at hc
 rcases hc with rfl | rfl <;> rfl⟩
theorem GM:∀ l:List a_,eN Po.P (l.map row) l
 | []=>.nil
 | x :: l=>.cons rfl (GM l)
theorem LV.is {v:V} {l:List a_} (h:Lb.LV v l):IS Po v l:=h.imp id fun ⟨g,f,e⟩=>⟨g,_,f,e,GM l⟩
theorem wJ:∀ {rs:List (List V)} {l:List a_},eN Po.P rs l -> rs = l.map row
 | _,_,.nil=>rfl
 | _,_,.cons h t=>by rw [map_cons,<- wJ t,show _ = _ from h]
theorem IS.lv {v:V} {l:List a_} (h:IS Po v l):Lb.LV v l:=h.imp id fun ⟨g,rs,f,e,a⟩=>⟨g,f,by rw [e,wJ a]⟩
end
end
section
section
variable {E:Env} {Z:Sg} {K:V -> Sg -> Prop}
theorem QJ.snap {Y:Sg} {v:V} {x:aF} (hv:QJ v x):aZ Y E.ty false v = some v:=by
 obtain ⟨a,b,c,d,rfl,h1,h2,h3,h4⟩:=hv
 have q:∀ c:V,Ax.bB c = true -> cH false c = true -> aZ.one Y E.ty false c = some c:=fun c h1 h2=>by
  unfold aZ.one
  rw [show c_ = 11 + 1 from rfl,jN h1]
  simp only [h2,if_true]
 show (match aX (aZ.one Y E.ty false) [.str x.name,a,b,c,d] with
  | some l=>some (V.agg l)
  | none=>none) = _
 simp only [aX,q (.str x.name) rfl rfl,q a h1.is.bB h1.tag,q b h2.is.bB h2.tag,q c h3.is.bB h3.tag,q d h4.is.bB h4.tag]
end
end
structure GbL (E:Env):Prop where
 hs9:E.hspec 9 = none
 sp9:E.spec 9 = none
 fn9:E.fn 9 = some (aA Tryz.f9)
 md9:E.mode 9 = .eT
 d9_13:aN E (cutAt [1,1,1,1,1,1,0,1,2,2,1,1,0,2,1,0,1,2,2,1,1,0,2,1,0] (aA Tryz.f9).code) = true
 d9_19:aN E (cutAt [1,1,1,1,1,1,0,1,2,2,1,1,0,2,1,1,0,1,2,2,1,1,0,2,1,0] (aA Tryz.f9).code) = true
 d9_30:aN E (cutAt [1,1,1,1,1,1,0,1,2,2,1,1,0,2,1,1,1,1,1,2,1,1,1,0,1,0] (aA Tryz.f9).code) = true
 Tc:∀ {Z:Sg} {K:V -> Sg -> Prop},aB E 11 [] Z K = K (.bool true) Z
section
structure RcE (E:Env):Prop where
 hs75:E.hspec 75 = none
 sp75:E.spec 75 = none
 fn75:E.fn 75 = some (aA Tryz.f75)
 md75:E.mode 75 = .eT
 hs21:E.hspec 21 = none
 OD:E.spec 21 = none
 fn21:E.fn 21 = some (aA Tryz.f21)
 md21:E.mode 21 = .eT
 hs29:E.hspec 29 = none
 Ov:E.spec 29 = none
 fn29:E.fn 29 = some (aA Tryz.f29)
 md29:E.mode 29 = .eT
section
variable {E:Env} {Z:Sg} {K:V -> Sg -> Prop}
theorem Pd {c:Code} {s:List kY} {w:Nat} {Q:Ax.X -> Fr -> Sg -> Prop} (I:Nat -> FT -> Sg -> Prop)
  (step:∀ n F Y,I n F Y -> (∀ n' F' τ',n' < n -> I n' F' τ' -> Ax.R E (.loop c) s ⟨w,F'⟩ τ' Q) -> Ax.R E (.loop c) s ⟨w,F⟩ Y Q):∀ (n:Nat) (F:FT) (Y:Sg),I n F Y -> Ax.R E (.loop c) s ⟨w,F⟩ Y Q:=by
 intro n
 induction n using Nat.strongRecOn with
 | _ n ih=>exact fun F Y h=>step n F Y h fun n' F' τ' hn h'=>ih n' hn F' τ' h'
def Rk (nx:a_ -> List a_) (s0:a_ -> Prop):Nat -> a_ -> Prop
 | 0,x=>s0 x
 | k + 1,x=>Rk nx s0 k x \/ ∃ y,Rk nx s0 k y /\ x ∈ nx y
def XK (nx:a_ -> List a_) (s0:a_ -> Prop) (bO:Int) (x:a_):Prop:=(bO < 0 /\ ∃ n,Rk nx s0 n x) \/ (0 <= bO /\ Rk nx s0 bO.toNat x)
section
variable {nx:a_ -> List a_} {s0:a_ -> Prop}
theorem Rk.mono {x : a_} : ∀ {k n : Nat}, k <= n -> Rk nx s0 k x -> Rk nx s0 n x
  | k, 0, h, hx => by obtain rfl : k = 0 := by omega
                      exact hx
  | k, n + 1, h, hx => by
    rcases Nat.lt_or_ge n k with h1 | h1
    · obtain rfl : k = n + 1 := by omega
      exact hx
    · exact .inl (Rk.mono h1 hx)
theorem Rk.closed {k:Nat} (hc:∀ y x,Rk nx s0 k y -> x ∈ nx y -> Rk nx s0 k x):∀ (n:Nat) {x:a_},Rk nx s0 n x -> Rk nx s0 k x
 | 0,_,hx=>Rk.mono (Nat.zero_le k) hx
 | n + 1,_,.inl hx=>Rk.closed hc n hx
 | n + 1,_,.inr ⟨y,hy,hx⟩=>hc y _ (Rk.closed hc n hy) hx
structure Rd (nx:a_ -> List a_) (s0:a_ -> Prop) (k:Nat) (A now:List a_):Prop where
 all:∀ x,x ∈ A ↔ Rk nx s0 k x
 sub:∀ x,x ∈ now -> x ∈ A
 rest:∀ y,y ∈ A -> y ∉ now -> ∀ x,x ∈ nx y -> x ∈ A
theorem Rd.start {A now:List a_} (h1:∀ x,x ∈ A ↔ s0 x) (h2:∀ x,x ∈ now ↔ x ∈ A):Rd nx s0 0 A now:=⟨h1,fun x h=>(h2 x).1 h,fun y h h'=>absurd ((h2 y).2 h) h'⟩
theorem Rd.next {k:Nat} {A now A' more:List a_} (h:Rd nx s0 k A now) (h1:∀ x,x ∈ A' ↔ x ∈ A \/ ∃ y ∈ now,x ∈ nx y) (h2:∀ x,x ∈ more ↔ x ∈ A' /\ x ∉ A):Rd nx s0 (k + 1) A' more:=by
 have key:∀ y x,y ∈ A -> x ∈ nx y -> x ∈ A':=fun y x hy hx=>by
  by_cases hn:y ∈ now
  ·exact (h1 x).2 (.inr ⟨y,hn,hx⟩)
  ·exact (h1 x).2 (.inl (h.rest y hy hn x hx))
 refine ⟨fun x=>?_,fun x hx=>((h2 x).1 hx).1,fun y hy hn x hx=>?_⟩
 ·constructor
  ·intro hx
   rcases (h1 x).1 hx with hx | ⟨y,hy,hx⟩
   ·exact .inl ((h.all x).1 hx)
   ·exact .inr ⟨y,(h.all y).1 (h.sub y hy),hx⟩
  ·rintro (hx | ⟨y,hy,hx⟩)
   ·exact (h1 x).2 (.inl ((h.all x).2 hx))
   ·exact key y x ((h.all y).2 hy) hx
 ·by_cases hA:y ∈ A
  ·exact key y x hA hx
  ·exact absurd ((h2 y).2 ⟨hy,hA⟩) hn
theorem Rd.bO {k:Nat} {A now:List a_} (h:Rd nx s0 k A now) (x:a_):x ∈ A ↔ XK nx s0 (k:Int) x:=by
 rw [h.all]
 unfold XK
 constructor
 ·exact fun hx=>.inr ⟨by omega,by rw [Int.toNat_natCast]; exact hx⟩
 ·rintro (⟨h1,-⟩ | ⟨-,hx⟩)
  ·omega
  ·rw [Int.toNat_natCast] at hx; exact hx
theorem Rk.sub {P:a_ -> Prop} (h0:∀ x,s0 x -> P x) (hn:∀ y x,x ∈ nx y -> P x):∀ (n:Nat) {x:a_},Rk nx s0 n x -> P x
 | 0,_,hx=>h0 _ hx
 | n + 1,_,.inl hx=>Rk.sub h0 hn n hx
 | n + 1,_,.inr ⟨y,_,hx⟩=>hn y _ hx
end
end
end
section
section
variable {E:Env} {Z:Sg} {K:V -> Sg -> Prop}
structure Ri (nx:a_ -> List a_) (all A0:List a_) (P:a_ -> Prop) (A more:List a_):Prop where
 mem:∀ x,x ∈ A ↔ x ∈ A0 \/ P x
 new:∀ x,x ∈ more ↔ x ∈ A /\ x ∉ A0
 sub:∀ x,x ∈ A -> x ∈ all
 len:more.length <= A.length
 nd:A.Nodup
 up:A0.length <= A.length /\ (more ≠ [] -> A0.length < A.length)
theorem Ri.le {nx:a_ -> List a_} {all A0 A more:List a_} {P:a_ -> Prop} (h:Ri nx all A0 P A more) (hal:all.length <= 2000):A.length <= 2000:=Nat.le_trans (BF h.nd h.sub) hal
theorem Ri.old {nx:a_ -> List a_} {all A0 A more:List a_} {P P':a_ -> Prop} (h:Ri nx all A0 P A more) {x:a_} (hx:x ∈ A) (hP:∀ y,P' y ↔ P y \/ y = x):Ri nx all A0 P' A more:=⟨fun y=>by
 rw [hP,<- or_assoc,<- h.mem]
 exact ⟨.inl,fun h=>h.elim id fun e=>by rw [e]; exact hx⟩,h.new,h.sub,h.len,h.nd,h.up⟩
theorem Ri.fresh {nx:a_ -> List a_} {all A0 A more:List a_} {P P':a_ -> Prop} (h:Ri nx all A0 P A more) {x:a_} (hx:x ∉ A) (ha:x ∈ all) (hP:∀ y,P' y ↔ P y \/ y = x):Ri nx all A0 P' (A ++ [x]) (more ++ [x]):=by
 have hx0:x ∉ A0:=fun e=>hx ((h.mem x).2 (.inl e))
 refine ⟨fun y=>?_,fun y=>?_,fun y hy=>?_,by simp only [length_append,length_cons,length_nil]; have:=h.len; omega,nodup_append.2 ⟨h.nd,List.pairwise_singleton ..,fun a ha b hb e=>hx (by rw [mem_singleton] at hb; rw [<- hb,<- e]; exact ha)⟩,?_⟩
 ·rw [hP,<- or_assoc,<- h.mem,mem_append,mem_singleton]
 ·rw [mem_append,mem_append,mem_singleton,h.new]
  constructor
  ·rintro (⟨h1,h2⟩ | rfl)
   ·exact ⟨.inl h1,h2⟩
   ·exact ⟨.inr rfl,hx0⟩
  ·rintro ⟨h1 | h1,h2⟩
   ·exact .inl ⟨h1,h2⟩
   ·exact .inr h1
 ·rcases mem_append.1 hy with h1 | h1
  ·exact h.sub y h1
  ·rw [mem_singleton.1 h1]; exact ha
 ·have:=h.up.1
  simp only [length_append,length_cons,length_nil]
  exact ⟨by omega,fun _=>by omega⟩
theorem Ri.congr {nx:a_ -> List a_} {all A0 A more:List a_} {P P':a_ -> Prop} (h:Ri nx all A0 P A more) (hP:∀ y,P' y ↔ P y):Ri nx all A0 P' A more:=⟨fun y=>by rw [hP]; exact h.mem y,h.new,h.sub,h.len,h.nd,h.up⟩
theorem Dv {l:List a_} {j:Nat} {x:a_} (hj:l[j]? = some x) (y:a_):y ∈ l.take (j + 1) ↔ y ∈ l.take j \/ y = x:=by
 rw [take_add_one,hj]
 simp
end
end
section
section
variable {E:Env} {Z:Sg} {K:V -> Sg -> Prop}
structure Sd (rs:List aF) (l A now:List a_):Prop where
 mem:∀ x,x ∈ A ↔ x ∈ l /\ x ∈ QF rs
 nw:∀ x,x ∈ now ↔ x ∈ A
 len:now.length <= A.length
theorem Sd.old {rs:List aF} {ls A now:List a_} {j:Nat} {x:a_} (h:Sd rs (ls.take j) A now) (hx:ls[j]? = some x) (hA:x ∈ QF rs -> x ∈ A):Sd rs (ls.take (j + 1)) A now:=⟨fun y=>by
 rw [h.mem,Dv hx]
 constructor
 ·exact fun e=>⟨.inl e.1,e.2⟩
 ·rintro ⟨e | rfl,e2⟩
  ·exact ⟨e,e2⟩
  ·exact (h.mem _).1 (hA e2),h.nw,h.len⟩
theorem Sd.fresh {rs:List aF} {ls A now:List a_} {j:Nat} {x:a_} (h:Sd rs (ls.take j) A now) (hx:ls[j]? = some x) (ha:x ∈ QF rs):Sd rs (ls.take (j + 1)) (A ++ [x]) (now ++ [x]):=⟨fun y=>by
 rw [mem_append,h.mem,Dv hx,mem_singleton]
 constructor
 ·rintro (e | rfl)
  ·exact ⟨.inl e.1,e.2⟩
  ·exact ⟨.inr rfl,ha⟩
 ·rintro ⟨e | rfl,e2⟩
  ·exact .inl ⟨e,e2⟩
  ·exact .inr rfl,fun y=>by rw [mem_append,mem_append,h.nw],by have:=h.len; rw [length_append,length_append]; omega⟩
end
end
section
section
variable {E:Env} {Z:Sg} {K:V -> Sg -> Prop}
theorem GrV.bB {g:V} {rs:List aF} (hg:GrV E rs g):Ax.bB g = true:=by
 obtain ⟨es0,es1,get,A,L3,L4,rfl,-⟩:=hg
 rfl
theorem LVF.cT {v:V} {l:List a_} (hv:LVF v l) (Y:Sg):cT Y E.ty false v = some v:=by
 rcases hv with ⟨rfl,-⟩ | ⟨full,rfl⟩ <;> rfl
end
end
structure CnE (E:Env):Prop where
 hs30:E.hspec 30 = none
 Ou:E.spec 30 = none
 fn30:E.fn 30 = some (aA Tryz.f30)
 md30:E.mode 30 = .eT
 hs6:E.hspec 6 = none
 sp6:E.spec 6 = none
 fn6:E.fn 6 = some (aA Tryz.f6)
 md6:E.mode 6 = .eT
 Tc:∀ {Z:Sg} {K:V -> Sg -> Prop},aB E 11 [] Z K = K (.bool true) Z
end Go.Proofs.YtlbbdpkjeeiahaaGreatDoor
end
section
namespace Go.Proofs.YtlbbdpkjeeiahaaGreatDoor.Lb
open Go Go.Ax Go.AxS
def pos:List a_ -> a_ -> Nat
 | [],_=>0
 | y :: r,x=>if lt y x = true then pos r x + 1 else 0
end Go.Proofs.YtlbbdpkjeeiahaaGreatDoor.Lb
end
section
namespace Go.Proofs.YtlbbdpkjeeiahaaGreatDoor
open Go Go.Ax Go.AxS
structure FaE (E:Env):Prop where
 hs4:E.hspec 4 = none
 sp4:E.spec 4 = none
 fn4:E.fn 4 = some (aA Tryz.f4)
 md4:E.mode 4 = .eT
 Tc:∀ {Z:Sg} {K:V -> Sg -> Prop},aB E 11 [] Z K = K (.bool true) Z
structure BkE (E:Env):Prop where
 hs5:E.hspec 5 = none
 sp5:E.spec 5 = none
 fn5:E.fn 5 = some (aA Tryz.f5)
 md5:E.mode 5 = .eT
 hs27:E.hspec 27 = none
 Ox:E.spec 27 = none
 fn27:E.fn 27 = some (aA Tryz.f27)
 md27:E.mode 27 = .eT
 z5_7:gE E (opsOf (cutAt [1,1,1,1,1,0,1,0,0] (aA Tryz.f5).code)) = .no
 p5_7:cM E .no (opsOf (cutAt [1,1,1,1,1,0,1,0,0] (aA Tryz.f5).code)) = some [⟨2,6,true,false⟩]
 z5_8:gE E (opsOf (cutAt [1,1,1,1,1,1,0] (aA Tryz.f5).code)) = .lit
 p5_8:cM E .lit (opsOf (cutAt [1,1,1,1,1,1,0] (aA Tryz.f5).code)) = some []
 Tc:∀ {Z:Sg} {K:V -> Sg -> Prop},aB E 11 [] Z K = K (.bool true) Z
end Go.Proofs.YtlbbdpkjeeiahaaGreatDoor
end
