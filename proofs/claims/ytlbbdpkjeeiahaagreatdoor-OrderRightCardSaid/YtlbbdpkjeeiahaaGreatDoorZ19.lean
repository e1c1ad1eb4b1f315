/- Part 19 of the proof's own texts (pressed by a program of its author's). -/
import Derived.Test.YtlbbdpkjeeiahaaGreatDoorZ18
section
set_option maxRecDepth 10000
set_option maxHeartbeats 8000000
namespace Go.Proofs.YtlbbdpkjeeiahaaGreatDoor
open Go Go.Ax Go.AxS
section
section
variable {E:Env} {Z:Sg} {K:V -> Sg -> Prop}
def wT (L:List dH) (z:bX):List bX:=match bW L z with
 | some e=>e.ks
 | none=>[]
theorem E2 (L:List dH) (x:bX) (ks:List bX) (z:bX):bW (oM L x ks) z = (bW L z).map fun e=>if e.key = x then { e with ks:=ks } else e:=by
 unfold bW oM
 induction L with
 | nil=>rfl
 | cons e L ih=>
  rw [List.map_cons,List.find?_cons,List.find?_cons]
  have hk:(if e.key = x then { e with ks:=ks } else e).key = e.key:=by
   by_cases h:e.key = x
   ·rw [if_pos h]
   ·rw [if_neg h]
  rw [hk]
  by_cases hz:z = e.key
  ·rw [decide_eq_true hz]; rfl
  ·rw [decide_eq_false hz]; exact ih
theorem Of {L:List dH} {e:dH} {x:bX} (he:bW L x = some e) (ks:List bX) (z:bX):wT (oM L e.key ks) z = if z = x then ks else wT L z:=by
 obtain ⟨hme,hxe⟩:=jF he
 unfold wT
 rw [E2]
 by_cases hz:z = x
 ·rw [if_pos hz,hz,he]
  show (match (some (if e.key = e.key then { e with ks:=ks } else e):Option dH) with
   | some e=>e.ks
   | none=>[]) = ks
  rw [if_pos rfl]
 ·rw [if_neg hz]
  cases hq:bW L z with
  | none=>rfl
  | some q=>
   obtain ⟨-,hzq⟩:=jF hq
   show (if q.key = e.key then { q with ks:=ks } else q).ks = q.ks
   rw [if_neg (fun e'=>hz (by rw [hzq,e',hxe]))]
theorem vU (L:List dH) (e:dH) (hx:bW L e.key = none) (z:bX):bW (L ++ [e]) z = if z = e.key then some e else bW L z:=by
 unfold bW at *
 rw [List.find?_append]
 by_cases hz:z = e.key
 ·rw [if_pos hz,hz,hx,List.find?_cons,decide_eq_true rfl]; rfl
 ·rw [if_neg hz,List.find?_cons,decide_eq_false hz,List.find?_nil]
  cases List.find? (fun e=>decide (z = e.key)) L <;> rfl
structure Grow (L:List dH) (x y:bX) (L':List dH):Prop where
 mem:∀ z w,w ∈ wT L' z ↔ w ∈ wT L z \/ (z = x /\ w = y)
 len:∀ n,(∀ e ∈ L,e.ks.length <= n) -> ∀ e ∈ L',e.ks.length <= n + 1
 key:∀ z,z ∈ L'.map dH.key ↔ z ∈ L.map dH.key \/ z = x
theorem QS {L:List dH} {x:bX}:x ∈ L.map dH.key ↔ ∃ e,bW L x = some e:=by
 constructor
 ·intro h
  obtain ⟨e,he,rfl⟩:=List.mem_map.1 h
  cases hq:bW L e.key with
  | some q=>exact ⟨q,rfl⟩
  | none=>
   have:=List.find?_eq_none.1 hq e he
   simp at this
 ·rintro ⟨e,he⟩
  obtain ⟨h1,h2⟩:=jF he
  exact List.mem_map.2 ⟨e,h1,h2.symm⟩
theorem Mp (l:List bX) (y:bX):keys l [y] = jE l y:=rfl
theorem J2 (l:List bX) (y:bX):(jE l y).length <= l.length + 1:=by
 unfold jE
 by_cases h:y ∈ l
 ·rw [if_pos h]; omega
 ·rw [if_neg h,List.length_append]; exact Nat.le_refl _
theorem Grow.up {L:List dH} {e:dH} {x:bX} (he:bW L x = some e) (y:bX):Grow L x y (oM L e.key (keys e.ks [y])):=by
 obtain ⟨hme,hxe⟩:=jF he
 refine ⟨fun z w=>?_,fun n hn a ha=>?_,fun z=>?_⟩
 ·rw [Of he]
  by_cases hz:z = x
  ·have:wT L z = e.ks:=by unfold wT; rw [hz,he]
   rw [if_pos hz,this,Mp,Da]
   exact ⟨fun h=>h.imp id fun h=>⟨hz,h⟩,fun h=>h.imp id And.right⟩
  ·rw [if_neg hz]
   exact ⟨.inl,fun h=>h.elim id fun h=>absurd h.1 hz⟩
 ·obtain ⟨a0,ha0,rfl⟩:=List.mem_map.1 ha
  by_cases hk:a0.key = e.key
  ·rw [if_pos hk]
   have:=J2 e.ks y
   have:=hn e hme
   show (jE e.ks y).length <= n + 1
   omega
  ·rw [if_neg hk]
   have:=hn a0 ha0
   omega
 ·rw [CI]
  refine ⟨.inl,fun h=>h.elim id fun h=>?_⟩
  rw [h]
  exact QS.2 ⟨e,he⟩
theorem Grow.new {L:List dH} {x:bX} {s m:Nat} (hx:bW L x = none) (y:bX):bW (L ++ [dH.mk x s m []]) x = some (dH.mk x s m []) /\ Grow L x y (oM (L ++ [dH.mk x s m []]) x (keys [] [y])):=by
 have he:bW (L ++ [dH.mk x s m []]) x = some (dH.mk x s m []):=by rw [vU _ _ hx,if_pos rfl]
 have g:=Grow.up he y
 refine ⟨he,fun z w=>?_,fun n hn a ha=>?_,fun z=>?_⟩
 ·rw [g.mem]
  have:wT (L ++ [dH.mk x s m []]) z = wT L z:=by
   unfold wT
   rw [vU _ _ hx]
   by_cases hz:z = x
   ·rw [if_pos hz,hz,hx]
   ·rw [if_neg hz]
  rw [this]
 ·refine g.len n (fun e he=>?_) a ha
  rcases List.mem_append.1 he with he | he
  ·exact hn e he
  ·rw [List.mem_singleton.1 he]; exact Nat.zero_le _
 ·rw [g.key,List.map_append,List.mem_append]
  constructor
  ·rintro ((h | h) | h)
   ·exact .inl h
   ·exact .inr (by simpa using h)
   ·exact .inr h
  ·exact fun h=>h.imp .inl id
end
end
section
section
variable {E:Env} {Z:Sg} {K:V -> Sg -> Prop}
theorem Kp.sU {Z σ':Sg} {m:Nat} {es:List (V × V)} (h:Lb.Kp Z σ' m) (hm:Z[m]? = some (.map es)):Lb.dM Z σ':=Lb.Kp.sU h hm
theorem dM.An (Z:Sg) (y:O):Lb.dM Z (Z ++ [y]):=Lb.dM.app Z [y]
theorem map_lt {Z:Sg} {b:Nat} {o:O} (h:Z[b]? = some o):b < Z.length:=(List.getElem?_eq_some_iff.1 h).1
theorem N_ (h:bK E) (h':xL E) (hl:Lb.jR E) {Y:Sg} {gb m0 m1 sa ma b3 b4:Nat} {es0 es1:List (V × V)} {A:List bX} {L3 L4:List dH} (ga:mR E Y gb m0 m1 sa ma b3 b4 es0 es1 A L3 L4) {x y:bX} {blk:Nat} (hb:Y[blk]? = some (O.cells 144 [.mp b3,.bool x.1,.str x.2,.bool y.1,.str y.2,.mp b4,.bool y.1,.str y.2,.bool x.1,.str x.2] true)) (hks:∀ e ∈ L3,e.ks.length <= 1000000) (F:FT) (g30:F.get 30 = .sl blk 0 2 none) (g32:F.get 32 = .int .i64 0) {st:List lX} {Q:Ax.X -> Fr -> Sg -> Prop}
  (hk:∀ F' τ' L',(∀ k,k ∈ [0,4,5,30,31,32] -> F'.get k = F.get k) -> mR E τ' gb m0 m1 sa ma b3 b4 es0 es1 A L' L4 -> Grow L3 x y L' -> Lb.dM Y τ' -> M E st .normal ⟨57,F'⟩ τ' Q):Ax.R E (cutAt [1,1,1,2,2,1,1,0,2] (aA Tryz.f73).code) st ⟨57,F⟩ Y Q:=by
 have ia:indexAddr E 145 (.sl blk 0 2 none) (.int .i64 0) = some (.ref blk 0):=by unfold Ax.indexAddr; simp only [h'.HY,h'.vP]; rfl
 have ga1:=ga.app (O.cells 144 [.mp b3,.bool x.1,.str x.2,.bool y.1,.str y.2] true)
 have hnb:(Y ++ [O.cells 144 [.mp b3,.bool x.1,.str x.2,.bool y.1,.str y.2] true])[Y.length]? = some (O.cells 144 [.mp b3,.bool x.1,.str x.2,.bool y.1,.str y.2] true):=aQ
 have lk:=wR h' hl ga1.jB x
 unfold pU at lk
 rcases hq:bW L3 x with _ | e
 ·rw [hq] at lk
  have r7:=fun (ρ:Sg) (m:Nat) gm he hbx hln hne F g7 st Q hk=>IL (Y:=ρ) (nb:=Y.length) (mb:=b3) (L:=L3 ++ [dH.mk x (Y ++ [O.cells 144 [.mp b3,.bool x.1,.str x.2,.bool y.1,.str y.2] true]).length m []]) (x:=x) (y:=y) (e:=dH.mk x (Y ++ [O.cells 144 [.mp b3,.bool x.1,.str x.2,.bool y.1,.str y.2] true]).length m []) h h' hl gm he hbx hln hne F g7 (st:=st) (Q:=Q) hk
  have r6:=fun F g7 st Q hk=>PE (Y:=Y ++ [O.cells 144 [.mp b3,.bool x.1,.str x.2,.bool y.1,.str y.2] true]) (nb:=Y.length) (mb:=b3) (L:=L3) (x:=x) (y:=y) h h' hl ga1.jB hq hnb F g7 (st:=st) (Q:=Q) hk
  rw [show cutAt [1,1,1,2,2,1,1,0,2] (aA Tryz.f73).code = .seq (cutAt [1,1,1,2,2,1,1,0,2,0] (aA Tryz.f73).code) (.seq (.seq (cutAt [1,1,1,2,2,1,1,0,2,1,0,0] (aA Tryz.f73).code) (.cond (.tmp 41) (cutAt [1,1,1,2,2,1,1,0,2,1,0,1,0] (aA Tryz.f73).code) .skip)) (cutAt [1,1,1,2,2,1,1,0,2,1,1] (aA Tryz.f73).code)) from rfl]
  rw [show cutAt [1,1,1,2,2,1,1,0,2,1,0,1,0] (aA Tryz.f73).code = .region 6 (opsOf (cutAt [1,1,1,2,2,1,1,0,2,1,0,1,0] (aA Tryz.f73).code)) true from rfl,show cutAt [1,1,1,2,2,1,1,0,2,1,1] (aA Tryz.f73).code = .region 7 (opsOf (cutAt [1,1,1,2,2,1,1,0,2,1,1] (aA Tryz.f73).code)) true from rfl]
  generalize opsOf (cutAt [1,1,1,2,2,1,1,0,2,1,0,1,0] (aA Tryz.f73).code) = O6 at r6 ⊢
  generalize opsOf (cutAt [1,1,1,2,2,1,1,0,2,1,1] (aA Tryz.f73).code) = O7 at r7 ⊢
  have e77:rU E 77 true .gR .gR = some true:=by unfold rU; rw [hl.Cp]
  simp only [aA,Tryz.f73,KP,Ax.loadAt,Ax.storeAt,↓reduceIte,Nat.reduceEqDiff,Nat.reduceLT,Nat.reduceLeDiff,Nat.reduceAdd,reduceCtorEq,h.mZ,e77,cutAt,h'.vP,h'.uF,g30,g32,ia,hb,hnb,lk,aQ,cV]
  refine r6 _ ?_ _ _ (fun F1 τ1 m hF1 nC hset hlt=>?_)
  ·simp +decide only [GS]
  have hx1:=ga1.jB.map
  have ga2:=ga1.NZ hq nC hset (Nat.le_of_lt hlt)
  have hmb:b3 < (Y ++ [O.cells 144 [.mp b3,.bool x.1,.str x.2,.bool y.1,.str y.2] true]).length:=map_lt hx1
  have hnb2:(τ1.set b3 (.map ((L3 ++ [dH.mk x (Y ++ [O.cells 144 [.mp b3,.bool x.1,.str x.2,.bool y.1,.str y.2] true]).length m []]).map nF)))[Y.length]? = some (O.cells 144 [.mp b3,.bool x.1,.str x.2,.bool y.1,.str y.2] true):=by
   rw [List.getElem?_set_ne]
   ·exact nC _ _ hnb
   ·intro e
    have q:=hx1.symm.trans ((congrArg (fun i=>(Y ++ [O.cells 144 [.mp b3,.bool x.1,.str x.2,.bool y.1,.str y.2] true])[i]?) e).trans hnb)
    cases q
  rw [Us]
  refine r7 _ m ga2.jB (Grow.new hq y).1 hnb2 (Nat.zero_le _) (show b3 ≠ m by omega) _ ?_ _ _ (fun F2 τ2 hF2 hset2 kp=>?_)
  ·exact (hF1 7 (by simp)).trans (by simp +decide only [GS])
  have gb2:=ga2.app (O.cells 46 [.bool y.1,.str y.2] true)
  have ga3:=gb2.L1 (jF (Grow.new hq y).1).1 hset2 kp
  refine hk _ _ _ (fun k hk=>?_) ga3 (Grow.new hq y).2 ?_
  ·have h7:k ∈ [0,4,5,7,30,31,32]:=by
    simp only [List.mem_cons,List.not_mem_nil,or_false] at hk ⊢
    omega
   refine (hF2 k h7).trans ((hF1 k h7).trans ?_)
   simp only [List.mem_cons,List.not_mem_nil,or_false] at hk
   rcases hk with rfl | rfl | rfl | rfl | rfl | rfl <;> simp +decide only [GS]
  ·exact ((((dM.An Y _).trans nC.sU).trans (Lb.dM.DT (nC _ _ hx1))).trans (dM.An _ _)).trans (Lb.Kp.sU kp (gb2.jB.sets _ (jF (Grow.new hq y).1).1).map)
 ·rw [hq] at lk
  have e77:rU E 77 true (.ref e.s 0) .gR = some false:=by unfold rU; rw [hl.Cp]
  obtain ⟨hme,hxe⟩:=jF hq
  obtain ⟨-,-,f3⟩:=ga1.facts
  have hmb:=f3 e.m (by first | exact .inl (List.mem_map.2 ⟨e,hme,rfl⟩) | exact .inr (List.mem_map.2 ⟨e,hme,rfl⟩))
  have r7:=fun F g7 st Q hk=>IL (Y:=Y ++ [O.cells 144 [.mp b3,.bool x.1,.str x.2,.bool y.1,.str y.2] true]) (nb:=Y.length) (mb:=b3) (L:=L3) (x:=x) (y:=y) (e:=e) h h' hl ga1.jB hq hnb (hks e hme) (by first | exact hmb.2.2.2.1 | exact hmb.2.2.2.2) F g7 (st:=st) (Q:=Q) hk
  rw [show cutAt [1,1,1,2,2,1,1,0,2] (aA Tryz.f73).code = .seq (cutAt [1,1,1,2,2,1,1,0,2,0] (aA Tryz.f73).code) (.seq (.seq (cutAt [1,1,1,2,2,1,1,0,2,1,0,0] (aA Tryz.f73).code) (.cond (.tmp 41) (cutAt [1,1,1,2,2,1,1,0,2,1,0,1,0] (aA Tryz.f73).code) .skip)) (cutAt [1,1,1,2,2,1,1,0,2,1,1] (aA Tryz.f73).code)) from rfl]
  rw [show cutAt [1,1,1,2,2,1,1,0,2,1,0,1,0] (aA Tryz.f73).code = .region 6 (opsOf (cutAt [1,1,1,2,2,1,1,0,2,1,0,1,0] (aA Tryz.f73).code)) true from rfl,show cutAt [1,1,1,2,2,1,1,0,2,1,1] (aA Tryz.f73).code = .region 7 (opsOf (cutAt [1,1,1,2,2,1,1,0,2,1,1] (aA Tryz.f73).code)) true from rfl]
  generalize opsOf (cutAt [1,1,1,2,2,1,1,0,2,1,0,1,0] (aA Tryz.f73).code) = O6 at ⊢
  generalize opsOf (cutAt [1,1,1,2,2,1,1,0,2,1,1] (aA Tryz.f73).code) = O7 at r7 ⊢
  simp only [aA,Tryz.f73,KP,Ax.loadAt,Ax.storeAt,↓reduceIte,Nat.reduceEqDiff,Nat.reduceLT,Nat.reduceLeDiff,Nat.reduceAdd,reduceCtorEq,h.mZ,e77,cutAt,h'.vP,h'.uF,g30,g32,ia,hb,hnb,lk,aQ,cV]
  refine r7 _ ?_ _ _ (fun F2 τ2 hF2 hset2 kp=>?_)
  ·simp +decide only [GS]
  have gb2:=ga1.app (O.cells 46 [.bool y.1,.str y.2] true)
  have ga3:=gb2.L1 hme hset2 kp
  refine hk _ _ _ (fun k hk=>?_) ga3 (Grow.up hq y) ?_
  ·have h7:k ∈ [0,4,5,7,30,31,32]:=by
    simp only [List.mem_cons,List.not_mem_nil,or_false] at hk ⊢
    omega
   refine (hF2 k h7).trans ?_
   simp only [List.mem_cons,List.not_mem_nil,or_false] at hk
   rcases hk with rfl | rfl | rfl | rfl | rfl | rfl <;> simp +decide only [GS]
  ·exact ((dM.An Y _).trans (dM.An _ _)).trans (Lb.Kp.sU kp (gb2.jB.sets e hme).map)
theorem N9 (h:bK E) (h':xL E) (hl:Lb.jR E) {Y:Sg} {gb m0 m1 sa ma b3 b4:Nat} {es0 es1:List (V × V)} {A:List bX} {L3 L4:List dH} (ga:mR E Y gb m0 m1 sa ma b3 b4 es0 es1 A L3 L4) {x y:bX} {blk:Nat} (hb:Y[blk]? = some (O.cells 144 [.mp b3,.bool x.1,.str x.2,.bool y.1,.str y.2,.mp b4,.bool y.1,.str y.2,.bool x.1,.str x.2] true)) (hks:∀ e ∈ L4,e.ks.length <= 1000000) (F:FT) (g30:F.get 30 = .sl blk 0 2 none) (g32:F.get 32 = .int .i64 1) {st:List lX} {Q:Ax.X -> Fr -> Sg -> Prop}
  (hk:∀ F' τ' L',(∀ k,k ∈ [0,4,5,30,31,32] -> F'.get k = F.get k) -> mR E τ' gb m0 m1 sa ma b3 b4 es0 es1 A L3 L' -> Grow L4 y x L' -> Lb.dM Y τ' -> M E st .normal ⟨57,F'⟩ τ' Q):Ax.R E (cutAt [1,1,1,2,2,1,1,0,2] (aA Tryz.f73).code) st ⟨57,F⟩ Y Q:=by
 have ia:indexAddr E 145 (.sl blk 0 2 none) (.int .i64 1) = some (.ref blk 5):=by unfold Ax.indexAddr; simp only [h'.HY,h'.vP]; rfl
 have ga1:=ga.app (O.cells 144 [.mp b4,.bool y.1,.str y.2,.bool x.1,.str x.2] true)
 have hnb:(Y ++ [O.cells 144 [.mp b4,.bool y.1,.str y.2,.bool x.1,.str x.2] true])[Y.length]? = some (O.cells 144 [.mp b4,.bool y.1,.str y.2,.bool x.1,.str x.2] true):=aQ
 have lk:=wR h' hl ga1.iW y
 unfold pU at lk
 rcases hq:bW L4 y with _ | e
 ·rw [hq] at lk
  have r7:=fun (ρ:Sg) (m:Nat) gm he hbx hln hne F g7 st Q hk=>IL (Y:=ρ) (nb:=Y.length) (mb:=b4) (L:=L4 ++ [dH.mk y (Y ++ [O.cells 144 [.mp b4,.bool y.1,.str y.2,.bool x.1,.str x.2] true]).length m []]) (x:=y) (y:=x) (e:=dH.mk y (Y ++ [O.cells 144 [.mp b4,.bool y.1,.str y.2,.bool x.1,.str x.2] true]).length m []) h h' hl gm he hbx hln hne F g7 (st:=st) (Q:=Q) hk
  have r6:=fun F g7 st Q hk=>PE (Y:=Y ++ [O.cells 144 [.mp b4,.bool y.1,.str y.2,.bool x.1,.str x.2] true]) (nb:=Y.length) (mb:=b4) (L:=L4) (x:=y) (y:=x) h h' hl ga1.iW hq hnb F g7 (st:=st) (Q:=Q) hk
  rw [show cutAt [1,1,1,2,2,1,1,0,2] (aA Tryz.f73).code = .seq (cutAt [1,1,1,2,2,1,1,0,2,0] (aA Tryz.f73).code) (.seq (.seq (cutAt [1,1,1,2,2,1,1,0,2,1,0,0] (aA Tryz.f73).code) (.cond (.tmp 41) (cutAt [1,1,1,2,2,1,1,0,2,1,0,1,0] (aA Tryz.f73).code) .skip)) (cutAt [1,1,1,2,2,1,1,0,2,1,1] (aA Tryz.f73).code)) from rfl]
  rw [show cutAt [1,1,1,2,2,1,1,0,2,1,0,1,0] (aA Tryz.f73).code = .region 6 (opsOf (cutAt [1,1,1,2,2,1,1,0,2,1,0,1,0] (aA Tryz.f73).code)) true from rfl,show cutAt [1,1,1,2,2,1,1,0,2,1,1] (aA Tryz.f73).code = .region 7 (opsOf (cutAt [1,1,1,2,2,1,1,0,2,1,1] (aA Tryz.f73).code)) true from rfl]
  generalize opsOf (cutAt [1,1,1,2,2,1,1,0,2,1,0,1,0] (aA Tryz.f73).code) = O6 at r6 ⊢
  generalize opsOf (cutAt [1,1,1,2,2,1,1,0,2,1,1] (aA Tryz.f73).code) = O7 at r7 ⊢
  have e77:rU E 77 true .gR .gR = some true:=by unfold rU; rw [hl.Cp]
  simp only [aA,Tryz.f73,KP,Ax.loadAt,Ax.storeAt,↓reduceIte,Nat.reduceEqDiff,Nat.reduceLT,Nat.reduceLeDiff,Nat.reduceAdd,reduceCtorEq,h.mZ,e77,cutAt,h'.vP,h'.uF,g30,g32,ia,hb,hnb,lk,aQ,cV]
  refine r6 _ ?_ _ _ (fun F1 τ1 m hF1 nC hset hlt=>?_)
  ·simp +decide only [GS]
  have hx1:=ga1.iW.map
  have ga2:=ga1.Nv hq nC hset (Nat.le_of_lt hlt)
  have hmb:b4 < (Y ++ [O.cells 144 [.mp b4,.bool y.1,.str y.2,.bool x.1,.str x.2] true]).length:=map_lt hx1
  have hnb2:(τ1.set b4 (.map ((L4 ++ [dH.mk y (Y ++ [O.cells 144 [.mp b4,.bool y.1,.str y.2,.bool x.1,.str x.2] true]).length m []]).map nF)))[Y.length]? = some (O.cells 144 [.mp b4,.bool y.1,.str y.2,.bool x.1,.str x.2] true):=by
   rw [List.getElem?_set_ne]
   ·exact nC _ _ hnb
   ·intro e
    have q:=hx1.symm.trans ((congrArg (fun i=>(Y ++ [O.cells 144 [.mp b4,.bool y.1,.str y.2,.bool x.1,.str x.2] true])[i]?) e).trans hnb)
    cases q
  rw [Us]
  refine r7 _ m ga2.iW (Grow.new hq x).1 hnb2 (Nat.zero_le _) (show b4 ≠ m by omega) _ ?_ _ _ (fun F2 τ2 hF2 hset2 kp=>?_)
  ·exact (hF1 7 (by simp)).trans (by simp +decide only [GS])
  have gb2:=ga2.app (O.cells 46 [.bool x.1,.str x.2] true)
  have ga3:=gb2.KX (jF (Grow.new hq x).1).1 hset2 kp
  refine hk _ _ _ (fun k hk=>?_) ga3 (Grow.new hq x).2 ?_
  ·have h7:k ∈ [0,4,5,7,30,31,32]:=by
    simp only [List.mem_cons,List.not_mem_nil,or_false] at hk ⊢
    omega
   refine (hF2 k h7).trans ((hF1 k h7).trans ?_)
   simp only [List.mem_cons,List.not_mem_nil,or_false] at hk
   rcases hk with rfl | rfl | rfl | rfl | rfl | rfl <;> simp +decide only [GS]
  ·exact ((((dM.An Y _).trans nC.sU).trans (Lb.dM.DT (nC _ _ hx1))).trans (dM.An _ _)).trans (Lb.Kp.sU kp (gb2.iW.sets _ (jF (Grow.new hq x).1).1).map)
 ·rw [hq] at lk
  have e77:rU E 77 true (.ref e.s 0) .gR = some false:=by unfold rU; rw [hl.Cp]
  obtain ⟨hme,hxe⟩:=jF hq
  obtain ⟨-,-,f3⟩:=ga1.facts
  have hmb:=f3 e.m (by first | exact .inl (List.mem_map.2 ⟨e,hme,rfl⟩) | exact .inr (List.mem_map.2 ⟨e,hme,rfl⟩))
  have r7:=fun F g7 st Q hk=>IL (Y:=Y ++ [O.cells 144 [.mp b4,.bool y.1,.str y.2,.bool x.1,.str x.2] true]) (nb:=Y.length) (mb:=b4) (L:=L4) (x:=y) (y:=x) (e:=e) h h' hl ga1.iW hq hnb (hks e hme) (by first | exact hmb.2.2.2.1 | exact hmb.2.2.2.2) F g7 (st:=st) (Q:=Q) hk
  rw [show cutAt [1,1,1,2,2,1,1,0,2] (aA Tryz.f73).code = .seq (cutAt [1,1,1,2,2,1,1,0,2,0] (aA Tryz.f73).code) (.seq (.seq (cutAt [1,1,1,2,2,1,1,0,2,1,0,0] (aA Tryz.f73).code) (.cond (.tmp 41) (cutAt [1,1,1,2,2,1,1,0,2,1,0,1,0] (aA Tryz.f73).code) .skip)) (cutAt [1,1,1,2,2,1,1,0,2,1,1] (aA Tryz.f73).code)) from rfl]
  rw [show cutAt [1,1,1,2,2,1,1,0,2,1,0,1,0] (aA Tryz.f73).code = .region 6 (opsOf (cutAt [1,1,1,2,2,1,1,0,2,1,0,1,0] (aA Tryz.f73).code)) true from rfl,show cutAt [1,1,1,2,2,1,1,0,2,1,1] (aA Tryz.f73).code = .region 7 (opsOf (cutAt [1,1,1,2,2,1,1,0,2,1,1] (aA Tryz.f73).code)) true from rfl]
  generalize opsOf (cutAt [1,1,1,2,2,1,1,0,2,1,0,1,0] (aA Tryz.f73).code) = O6 at ⊢
  generalize opsOf (cutAt [1,1,1,2,2,1,1,0,2,1,1] (aA Tryz.f73).code) = O7 at r7 ⊢
  simp only [aA,Tryz.f73,KP,Ax.loadAt,Ax.storeAt,↓reduceIte,Nat.reduceEqDiff,Nat.reduceLT,Nat.reduceLeDiff,Nat.reduceAdd,reduceCtorEq,h.mZ,e77,cutAt,h'.vP,h'.uF,g30,g32,ia,hb,hnb,lk,aQ,cV]
  refine r7 _ ?_ _ _ (fun F2 τ2 hF2 hset2 kp=>?_)
  ·simp +decide only [GS]
  have gb2:=ga1.app (O.cells 46 [.bool x.1,.str x.2] true)
  have ga3:=gb2.KX hme hset2 kp
  refine hk _ _ _ (fun k hk=>?_) ga3 (Grow.up hq x) ?_
  ·have h7:k ∈ [0,4,5,7,30,31,32]:=by
    simp only [List.mem_cons,List.not_mem_nil,or_false] at hk ⊢
    omega
   refine (hF2 k h7).trans ?_
   simp only [List.mem_cons,List.not_mem_nil,or_false] at hk
   rcases hk with rfl | rfl | rfl | rfl | rfl | rfl <;> simp +decide only [GS]
  ·exact ((dM.An Y _).trans (dM.An _ _)).trans (Lb.Kp.sU kp (gb2.iW.sets e hme).map)
end
end
section
section
variable {E:Env} {Z:Sg} {K:V -> Sg -> Prop}
theorem MZ (h:bK E) (h':xL E) (hl:Lb.jR E) {Y:Sg} {gb m0 m1 sa ma b3 b4:Nat} {es0 es1:List (V × V)} {A:List bX} {L3 L4:List dH} (ga:mR E Y gb m0 m1 sa ma b3 b4 es0 es1 A L3 L4) {x y:bX} (hA:A.length <= 1000000) (hk3:∀ e ∈ L3,e.ks.length <= 1000000) (hk4:∀ e ∈ L4,e.ks.length <= 1000000):aB E 73 [.ref gb 0,.agg [.bool x.1,.str x.2],.agg [.bool y.1,.str y.2]] Y fun v τ'=>v = .fJ [] /\ ∃ L3' L4',mR E τ' gb m0 m1 sa ma b3 b4 es0 es1 (keys A [x,y]) L3' L4' /\ Grow L3 x y L3' /\ Grow L4 y x L4' /\ Lb.dM Y τ':=by
 rw [fG h'.hs73 h'.sp73 h'.fn73 h'.md73,aZ (by kernel_rfl)]
 have rn:=fun {Y} {L3 L4} {blk} A ga hb hks F g30 g32 st Q hk=>N_ (Y:=Y) (L3:=L3) (L4:=L4) (A:=A) (x:=x) (y:=y) (blk:=blk) (gb:=gb) (m0:=m0) (m1:=m1) (sa:=sa) (ma:=ma) (b3:=b3) (b4:=b4) (es0:=es0) (es1:=es1) h h' hl ga hb hks F g30 g32 (st:=st) (Q:=Q) hk
 have ru:=fun {Y} {L3 L4} {blk} A ga hb hks F g30 g32 st Q hk=>N9 (Y:=Y) (L3:=L3) (L4:=L4) (A:=A) (x:=x) (y:=y) (blk:=blk) (gb:=gb) (m0:=m0) (m1:=m1) (sa:=sa) (ma:=ma) (b3:=b3) (b4:=b4) (es0:=es0) (es1:=es1) h h' hl ga hb hks F g30 g32 (st:=st) (Q:=Q) hk
 have r1:=fun {Y} {n0 n1} ga hx hy F g0 g4 g5 st Q hk=>Uv (Y:=Y) (n0:=n0) (n1:=n1) (A:=A) (L3:=L3) (L4:=L4) (x:=x) (y:=y) (gb:=gb) (m0:=m0) (m1:=m1) (sa:=sa) (ma:=ma) (b3:=b3) (b4:=b4) (es0:=es0) (es1:=es1) h h' hl ga hx hy hA F g0 g4 g5 (st:=st) (Q:=Q) hk
 have d2:=h'.Wc
 rw [show (aA Tryz.f73).code = .seq (cutAt [0] (aA Tryz.f73).code) (.seq (cutAt [1,0] (aA Tryz.f73).code) (.seq (cutAt [1,1,0] (aA Tryz.f73).code) (.block 0 (.loop (.seq (cutAt [1,1,1,2,2,0] (aA Tryz.f73).code) (.seq (cutAt [1,1,1,2,2,1,0] (aA Tryz.f73).code) (.seq (.block 1 (cutAt [1,1,1,2,2,1,1,0,2] (aA Tryz.f73).code)) (cutAt [1,1,1,2,2,1,1,1] (aA Tryz.f73).code)))))))) from rfl]
 rw [show cutAt [1,0] (aA Tryz.f73).code = .region 1 (opsOf (cutAt [1,0] (aA Tryz.f73).code)) true from rfl]
 generalize opsOf (cutAt [1,0] (aA Tryz.f73).code) = O1 at r1 ⊢
 generalize cutAt [1,1,1,2,2,1,1,0,2] (aA Tryz.f73).code = B at rn ru ⊢
 generalize hD2:cutAt [1,1,0] (aA Tryz.f73).code = D2 at d2 ⊢
 simp only [aA,Tryz.f73,KP,↓reduceIte,Nat.reduceEqDiff,Nat.reduceLT,Nat.reduceAdd,h.mZ,cutAt]
 have gx:mR E (Y ++ [O.cells 46 [.bool x.1,.str x.2] true] ++ [O.cells 46 [.bool y.1,.str y.2] true]) gb m0 m1 sa ma b3 b4 es0 es1 A L3 L4:=(ga.app _).app _
 refine r1 gx (aL aQ) aQ _ ?_ ?_ ?_ _ _ (fun F1 τ1 hF1 ga1 hx1 hy1 kc1=>?_)
 ·simp +decide only [GS]
 ·simp +decide only [GS]
 ·simp +decide only [GS]
 have q0:F1.get 0 = .ref gb 0:=(hF1 0 (by simp)).trans (by simp +decide only [GS])
 have q4:F1.get 4 = .ref Y.length 0:=(hF1 4 (by simp)).trans (by simp +decide only [GS])
 have q5:F1.get 5 = .ref (Y ++ [O.cells 46 [.bool x.1,.str x.2] true]).length 0:=(hF1 5 (by simp)).trans (by simp +decide only [GS])
 have hg:=ga1.g
 have kc0:Lb.dM Y τ1:=(((dM.An Y _).trans (dM.An _ _)).trans kc1)
 generalize (Y ++ [O.cells 46 [.bool x.1,.str x.2] true]).length = n1 at *
 generalize Y.length = n0 at *
 rw [Us]
 subst hD2
 simp only [aA,Tryz.f73,cutAt,Option.getD_some] at d2
 have lz:∀ (Z:Sg) (b:Nat),lenOf E Z 145 (.sl b 0 2 none) = some 2:=fun Z b=>by unfold lenOf; rw [h'.HY]
 have d0:decide ((0:Int) < ((2:Nat):Int)) = true:=rfl
 have d1:decide ((1:Int) < ((2:Nat):Int)) = true:=rfl
 have d2':decide ((2:Int) < ((2:Nat):Int)) = false:=rfl
 have w1:wr .i64 1 = 1:=rfl
 have w2:wr .i64 2 = 2:=rfl
 simp only [aA,Tryz.f73,KP,Ax.loadAt,↓reduceIte,Nat.reduceEqDiff,Nat.reduceLT,Nat.reduceLeDiff,Nat.reduceAdd,Nat.reduceMul,reduceCtorEq,h.mZ,lz,cutAt,bG d2,cC,h'.uF,h'.vP,h'.HY,h'.y_,hg,hx1,hy1,q0,q4,q5,Ax.fill,Ax.placeOf,gQ,Nat.zero_mul]
 have ga2:=ga1.app (O.cells 144 [.mp b3,.bool x.1,.str x.2,.bool y.1,.str y.2,.mp b4,.bool y.1,.str y.2,.bool x.1,.str x.2] true)
 have hb2:(τ1 ++ [O.cells 144 [.mp b3,.bool x.1,.str x.2,.bool y.1,.str y.2,.mp b4,.bool y.1,.str y.2,.bool x.1,.str x.2] true])[τ1.length]? = some (O.cells 144 [.mp b3,.bool x.1,.str x.2,.bool y.1,.str y.2,.mp b4,.bool y.1,.str y.2,.bool x.1,.str x.2] true):=aQ
 have kc2:Lb.dM Y (τ1 ++ [O.cells 144 [.mp b3,.bool x.1,.str x.2,.bool y.1,.str y.2,.mp b4,.bool y.1,.str y.2,.bool x.1,.str x.2] true]):=kc0.trans (dM.An _ _)
 generalize τ1 ++ [O.cells 144 [.mp b3,.bool x.1,.str x.2,.bool y.1,.str y.2,.mp b4,.bool y.1,.str y.2,.bool x.1,.str x.2] true] = τ2 at *
 generalize τ1.length = blk at *
 rw [aF]
 simp only [KP,↓reduceIte,Nat.reduceEqDiff,Nat.reduceLT,d0]
 refine rn _ ga2 hb2 hk3 _ ?_ ?_ _ _ (fun F3 τ3 L3' hF3 ga3 gr3 kc3=>?_)
 ·simp +decide only [GS]
 ·simp +decide only [GS]
 have q30:F3.get 30 = .sl blk 0 2 none:=(hF3 30 (by simp)).trans (by simp +decide only [GS])
 have q31:F3.get 31 = .int .i64 ((2:Nat):Int):=(hF3 31 (by simp)).trans (by simp +decide only [GS])
 have q32:F3.get 32 = .int .i64 0:=(hF3 32 (by simp)).trans (by simp +decide only [GS])
 simp only [KP,↓reduceIte,Nat.reduceLT,Int.reduceAdd,w1,q32]
 rw [aF]
 simp only [KP,↓reduceIte,Nat.reduceEqDiff,Nat.reduceLT,d1,q31]
 refine ru _ ga3 (kc3 _ _ _ _ hb2) hk4 _ ?_ ?_ _ _ (fun F4 τ4 L4' hF4 ga4 gr4 kc4=>?_)
 ·simp +decide only [GS,q30]
 ·simp +decide only [GS]
 have q31':F4.get 31 = .int .i64 ((2:Nat):Int):=(hF4 31 (by simp)).trans (by simp +decide only [GS,q31])
 have q32':F4.get 32 = .int .i64 1:=(hF4 32 (by simp)).trans (by simp +decide only [GS])
 simp only [KP,↓reduceIte,Nat.reduceLT,Int.reduceAdd,w2,q32']
 rw [aF]
 simp only [KP,↓reduceIte,Nat.reduceEqDiff,Nat.reduceLT,d2',q31']
 exact ⟨_,_,ga4,gr3,gr4,(kc2.trans kc3).trans kc4⟩
end
end
section
section
variable {E:Env} {Z:Sg} {K:V -> Sg -> Prop}
def kC (r:aG):List (bX × bX):=r.ins.map (fun f=>(((true,r.name):bX),((false,f):bX))) ++ r.outs.map (fun f=>(((false,f):bX),((true,r.name):bX)))
def iU (r:aG):bX:=(true,r.name)
structure uE (X:List bX) (P:List (bX × bX)) (A:List bX) (L3 L4:List dH):Prop where
 all:∀ x,x ∈ A ↔ x ∈ X \/ ∃ p ∈ P,x = p.1 \/ x = p.2
 need:∀ z w,w ∈ wT L3 z ↔ (z,w) ∈ P
 user:∀ z w,w ∈ wT L4 z ↔ (w,z) ∈ P
 Mj:A.length <= X.length + 2 * P.length
 Oc:∀ e ∈ L3,e.ks.length <= P.length
 Ob:∀ e ∈ L4,e.ks.length <= P.length
theorem uE.nil:uE [] [] [] [] []:=⟨fun x=>by simp,fun z w=>by simp [wT,bW],fun z w=>by simp [wT,bW],Nat.le_refl _,(fun e he=>by cases he),(fun e he=>by cases he)⟩
theorem uE.link {X:List bX} {P:List (bX × bX)} {A:List bX} {L3 L4 L3' L4':List dH} {x y:bX} (h:uE X P A L3 L4) (g3:Grow L3 x y L3') (g4:Grow L4 y x L4'):uE X (P ++ [(x,y)]) (keys A [x,y]) L3' L4':=by
 refine ⟨fun z=>?_,fun z w=>?_,fun z w=>?_,?_,fun e he=>?_,fun e he=>?_⟩
 ·rw [mem_keys,h.all]
  constructor
  ·rintro ((h1 | ⟨p,hp,h1⟩) | h1)
   ·exact .inl h1
   ·exact .inr ⟨p,List.mem_append_left _ hp,h1⟩
   ·refine .inr ⟨(x,y),by simp,by simpa using h1⟩
  ·rintro (h1 | ⟨p,hp,h1⟩)
   ·exact .inl (.inl h1)
   ·rcases List.mem_append.1 hp with hp | hp
    ·exact .inl (.inr ⟨p,hp,h1⟩)
    ·rw [List.mem_singleton.1 hp] at h1
     exact .inr (by simpa using h1)
 ·rw [g3.mem,h.need,List.mem_append,List.mem_singleton]
  exact or_congr Iff.rfl ⟨fun q=>by rw [q.1,q.2],fun q=>⟨congrArg Prod.fst q,congrArg Prod.snd q⟩⟩
 ·rw [g4.mem,h.user,List.mem_append,List.mem_singleton]
  exact or_congr Iff.rfl ⟨fun q=>by rw [q.1,q.2],fun q=>⟨congrArg Prod.snd q,congrArg Prod.fst q⟩⟩
 ·have:=oQ (xs:=[x,y]) (l:=A)
  have:=h.Mj
  simp only [List.length_append,List.length_cons,List.length_nil] at *
  omega
 ·rw [List.length_append]; exact g3.len _ h.Oc e he
 ·rw [List.length_append]; exact g4.len _ h.Ob e he
theorem uE.rule {X:List bX} {P:List (bX × bX)} {A:List bX} {L3 L4:List dH} (x:bX) (h:uE X P A L3 L4):uE (X ++ [x]) P (keys A [x]) L3 L4:=by
 refine ⟨fun z=>?_,h.need,h.user,?_,h.Oc,h.Ob⟩
 ·rw [mem_keys,h.all,List.mem_append]
  constructor
  ·rintro ((h1 | h1) | h1)
   ·exact .inl (.inl h1)
   ·exact .inr h1
   ·exact .inl (.inr h1)
  ·rintro ((h1 | h1) | h1)
   ·exact .inl (.inl h1)
   ·exact .inr h1
   ·exact .inl (.inr h1)
 ·have:=oQ (xs:=[x]) (l:=A)
  have:=h.Mj
  simp only [List.length_append,List.length_cons,List.length_nil] at *
  omega
theorem JN (r:aG) (hs:Small r):(kC r).length <= 16:=by
 unfold kC
 rw [List.length_append,List.length_map,List.length_map]
 have:=hs.ins
 have:=hs.outs
 omega
theorem pV:∀ (rs:List aG),(∀ r ∈ rs,Small r) -> (rs.flatMap kC).length <= 16 * rs.length
 | [],_=>Nat.le_refl _
 | r :: rs,h=>by
  rw [List.flatMap_cons,List.length_append,List.length_cons]
  have:=JN r (h r (List.mem_cons_self ..))
  have:=pV rs fun q hq=>h q (List.mem_cons_of_mem _ hq)
  omega
def RM (es:List (V × V)) (rs:List aG):Prop:=eY (fun e r=>e.1 = V.str r.name /\ Wu e.2 r) es rs
theorem Wu.ok {v:V} {r:aG} (h:Wu v r):eU v = true:=by
 obtain ⟨a,b,c,d,rfl,h1,h2,h3,h4⟩:=h
 simp only [eU,List.all_cons,List.all_nil,aI h1.is.bB,aI h2.is.bB,aI h3.is.bB,aI h4.is.bB,Bool.and_true]
 rfl
theorem Jt (h:bK E) (h':xL E) {Y:Sg} {b:Nat} {es:List (V × V)} {rs:List aG} {r:aG} {v:V} (hb:Y[b]? = some (.map es)) (ha:RM es rs) (hn:∀ q ∈ rs,q.name ≠ r.name) (hv:Wu v r) :
  mapUpdate E Y 103 (.mp b) (.str r.name) v = some (Y.set b (.map (es ++ [(.str r.name,v)]))) /\ RM (es ++ [(.str r.name,v)]) (rs ++ [r]):=by
 refine ⟨?_,ha.append (.one ⟨rfl,hv⟩)⟩
 have hk:dS E 9 (.str r.name) = true:=by unfold dS; rw [h.cK]
 have hp:=Bk h (k:=r.name) (v:=v) (es:=es) fun e he=>by
  obtain ⟨q,hq,h1,-⟩:=ha.mem he
  exact ⟨q.name,h1,hn q hq⟩
 unfold Ax.mapUpdate
 simp only [h'.K0,hk,hv.ok,hb,hp,Bool.not_true,Bool.or_self,Bool.false_eq_true,if_false,Option.map_some]
theorem C5 {eq:V -> V -> Option Bool} {k v:V}:∀ {es es':List (V × V)},jZ eq k v es = some es' -> ∀ e ∈ es',e ∈ es \/ e = (k,v)
 | [],es',h,e,he=>by
  cases h
  exact .inr (List.mem_singleton.1 he)
 | (k0,v0) :: r,es',h,e,he=>by
  unfold jZ at h
  cases hq:eq k k0 with
  | none=>rw [hq] at h; cases h
  | some b=>
   rw [hq] at h
   cases b with
   | true=>
    cases h
    rcases List.mem_cons.1 he with h1 | h1
    ·exact .inr h1
    ·exact .inl (List.mem_cons_of_mem _ h1)
   | false=>
    dsimp only at h
    cases hr:jZ eq k v r with
    | none=>rw [hr] at h; cases h
    | some r'=>
     rw [hr] at h
     cases h
     rcases List.mem_cons.1 he with h1 | h1
     ·exact .inl (by rw [h1]; exact List.mem_cons_self ..)
     ·exact (C5 hr e h1).imp (List.mem_cons_of_mem _) id
def CE (es:List (V × V)):Prop:=∀ e ∈ es,∃ n,e.2 = V.str n
theorem Ny (h:bK E) {Z:Sg} {b:Nat} {es:List (V × V)} {get:aX -> Option V} (hb:Z[b]? = some (.map es)) (hs:SM E es get) (hv:CE es) (k n:aX):∃ es',mapUpdate E Z 104 (.mp b) (.str k) (.str n) = some (Z.set b (.map es')) /\ SM E es' (fun q=>if q = k then some (.str n) else get q) /\ CE es':=by
 obtain ⟨es',h1,h2⟩:=DR h (v:=.str n) k rfl hs
 have hk:dS E 9 (.str k) = true:=by unfold dS; rw [h.cK]
 refine ⟨es',?_,h2,fun e he=>?_⟩
 ·unfold Ax.mapUpdate
  simp only [h.AO,hk,hb,h1,eU,V.aT,Bool.not_true,Bool.or_self,Bool.false_eq_true,if_false,Option.map_some]
 ·rcases C5 h1 e he with h3 | h3
  ·exact hv e h3
  ·exact ⟨n,by rw [h3]⟩
theorem Er (h:bK E) (h':xL E) {s:aX}:aB E 72 [.str s] Z K = K (.agg [.bool true,.str s]) Z:=by
 refine aB.of ?_
 rw [aH h'.hs72 h'.sp72 h'.fn72 h'.md72 (args':=[.str s]) (by simp only [aU,cH]),aZ (by kernel_rfl)]
 simp only [aA,Tryz.f72,KP,Ax.loadAt,Ax.storeAt,↓reduceIte,Nat.reduceEqDiff,Nat.reduceLT,Nat.reduceAdd,reduceCtorEq,h.Gw,h.cK,h.mZ,Ax.fill,Ax.placeOf]
 exact rfl
theorem Oo (h:bK E) (h':xL E) {s:aX}:KC E 72 [.str s] Z (.agg [.bool true,.str s]) Z:=c_ fun _=>Er h h'
theorem Po (h:bK E) (h':xL E) {s:aX}:aB E 74 [.str s] Z K = K (.agg [.bool false,.str s]) Z:=by
 refine aB.of ?_
 rw [aH h'.hs74 h'.sp74 h'.fn74 h'.md74 (args':=[.str s]) (by simp only [aU,cH]),aZ (by kernel_rfl)]
 simp only [aA,Tryz.f74,KP,Ax.loadAt,Ax.storeAt,↓reduceIte,Nat.reduceEqDiff,Nat.reduceLT,Nat.reduceAdd,reduceCtorEq,h.Gw,h.cK,h.mZ,Ax.fill,Ax.placeOf]
 exact rfl
theorem IX (h:bK E) (h':xL E) {s:aX}:KC E 74 [.str s] Z (.agg [.bool false,.str s]) Z:=c_ fun _=>Po h h'
end
end
section
section
variable {E:Env} {Z:Sg} {K:V -> Sg -> Prop}
theorem TM (h:bK E) (h':xL E) (hl:Lb.jR E) {Y:Sg} {gb m0 m1 sa ma b3 b4:Nat} {es0 es1:List (V × V)} {A:List bX} {L3 L4:List dH} (ga:mR E Y gb m0 m1 sa ma b3 b4 es0 es1 A L3 L4) {r:aG} {p1 p2 p3 p4:V} {y:Nat} (hy:Y[y]? = some (O.cells 37 [.str r.name,p1,p2,p3,p4] true)) (hA:A.length <= 1000000) (F:FT) (g5:F.get 5 = .ref gb 0) (g7:F.get 7 = .ref y 0) {st:List lX} {Q:Ax.X -> Fr -> Sg -> Prop}
  (hk:∀ F' τ',(∀ k,k ∈ [0,5,7,26,27,28] -> F'.get k = F.get k) -> mR E τ' gb m0 m1 sa ma b3 b4 es0 es1 (keys A [iU r]) L3 L4 -> Lb.dM Y τ' -> M E st .normal ⟨88,F'⟩ τ' Q):Ax.R E (.region 9 (opsOf (cutAt [1,1,1,0,1,2,2,1,1,0,2,1,1,0] (aA Tryz.f19).code)) true) st ⟨88,F⟩ Y Q:=by
 have ga1:=ga.app (O.cells 46 [.bool true,.str r.name] true)
 have hsv:Lb.SV (Y ++ [O.cells 46 [.bool true,.str r.name] true]) (.sl Y.length 0 1 none) [iU r]:=.inr (.inr ⟨Y.length,_,true,rfl,aQ,rfl⟩)
 obtain ⟨n1,v1,τ2,⟨hr,hset,hkp⟩,c1⟩:=aB.up (Lb.M8 hl ga1.all hsv (show 1 <= 10000000000 by omega) (by omega))
 obtain ⟨n2,v2,ρ2,⟨e2,e2'⟩,c2⟩:=aB.up (show aB E 72 [.str r.name] Y fun v σ'=>v = .agg [.bool true,.str r.name] /\ σ' = Y by rw [Er h h']; exact ⟨rfl,rfl⟩)
 obtain ⟨n3,v3,ρ3,⟨e3,e3'⟩,c3⟩:=aB.up (show aB E 72 [.str r.name] (Y ++ [O.cells 46 [.bool true,.str r.name] true]) fun v σ'=>v = .agg [.bool true,.str r.name] /\ σ' = Y ++ [O.cells 46 [.bool true,.str r.name] true] by rw [Er h h']; exact ⟨rfl,rfl⟩)
 rw [e2,e2'] at c2
 rw [e3,e3'] at c3
 have c1:=c1 (n1 + n2 + n3) (by omega)
 have c2:=c2 (n1 + n2 + n3) (by omega)
 have c3:=c3 (n1 + n2 + n3) (by omega)
 generalize n1 + n2 + n3 = n at c1 c2 c3
 have ga2:=ga1.more hset hkp
 have hma:=ga1.all.map
 have ne:∀ {k:Nat} {t:Nat} {cs:List V} {ex:Bool},(Y ++ [O.cells 46 [.bool true,.str r.name] true])[k]? = some (.cells t cs ex) -> k ≠ ma:=fun hk e=>by
  rw [e,hma] at hk
  cases hk
 have g:=ga.g
 have g1:=ga1.g
 have vr:rT 12 (.ref sa 0) (.ref sa 0) = true:=by unfold rT; simp
 have key:∃ F',cB E (ev E n) (opsOf (cutAt [1,1,1,0,1,2,2,1,1,0,2,1,1,0] (aA Tryz.f19).code)) ⟨88,F⟩ Y = some (⟨88,F'⟩,τ2) /\ (∀ k,k ∈ [0,5,7,26,27,28] -> F'.get k = F.get k):=by
  unfold cB
  rw [h'.R6,h'.TI]
  simp only [aA,Tryz.f19,KP,Ax.loadAt,↓reduceIte,Nat.reduceEqDiff,Nat.reduceLT,Nat.reduceLeDiff,Nat.reduceAdd,Nat.reduceMul,reduceCtorEq,h.cK,h.bD,h.EI,h.mZ,opsOf,cutAt,Fz.lits,gO,bF,bV,jT,Ax.comp,Ax.last,gT,Ax.again,Ax.fill,gQ,Nat.zero_mul,hl.Cp,h'.y_,g5,g7,hy,g,g1,c1,c2,vr]
  refine ⟨_,rfl,fun k hk=>?_⟩
  simp only [List.mem_cons,List.not_mem_nil,or_false] at hk
  rcases hk with rfl | rfl | rfl | rfl | rfl | rfl <;> simp +decide only [GS]
 obtain ⟨F',hD,hF⟩:=key
 exact Eq.mpr (iF hD) (hk F' τ2 hF ga2 ((dM.An Y _).trans (Lb.Kp.sU hkp hma)))
end
end
section
section
variable {E:Env} {Z:Sg} {K:V -> Sg -> Prop}
theorem GO {r:aG} {j:Nat} {s:aX} (hj:r.ins[j]? = some s):(r.ins.take (j + 1)).map (fun f=>(((true,r.name):bX),((false,f):bX))) = (r.ins.take j).map (fun f=>(((true,r.name):bX),((false,f):bX))) ++ [(((true,r.name):bX),((false,s):bX))]:=by
 rw [List.take_add_one,hj,List.map_append]; rfl
theorem EK {r:aG} {j:Nat} {s:aX} (hj:r.outs[j]? = some s):(r.outs.take (j + 1)).map (fun f=>(((false,f):bX),((true,r.name):bX))) = (r.outs.take j).map (fun f=>(((false,f):bX),((true,r.name):bX))) ++ [(((false,s):bX),((true,r.name):bX))]:=by
 rw [List.take_add_one,hj,List.map_append]; rfl
theorem LY (h:bK E) (h':xL E) (hl:Lb.jR E) {Y:Sg} {gb m0 m1 sa ma b3 b4:Nat} {es0 es1:List (V × V)} {A:List bX} {L3 L4:List dH} (ga:mR E Y gb m0 m1 sa ma b3 b4 es0 es1 A L3 L4) {X:List bX} {P:List (bX × bX)} (li:uE X P A L3 L4) (hX:X.length <= 1000) (hP:P.length <= 100000) {a c27:V} {i:Nat} {r:aG} {g:Bool} {p1 p2 p3 p4:V} (e1:indexAddr E 22 a (.int .i64 (i:Int)) = some (.cT g [.str r.name,p1,p2,p3,p4])) (i1:IS aK p1 r.ins) (i2:IS aK p2 r.outs) (i3:IS aK p3 r.after) (i4:IS eT p4 r.steps) (hs:Small r) {rs:List aG} (ha:RM es0 rs) (hn:∀ q ∈ rs,q.name ≠ r.name) {get:aX -> Option V} {Pm:aX -> aX -> Prop} (hsm:SM E es1 get) (hsv:CE es1) (hmk:MK get Pm)
  (F:FT) (g0:F.get 0 = a) (g5:F.get 5 = .ref gb 0) (g26:F.get 26 = a) (g27:F.get 27 = c27) (g28:F.get 28 = .int .i64 (i:Int)) {st:List lX} {Q:Ax.X -> Fr -> Sg -> Prop}
  (hk:∀ F' τ' es0' es1' get' A' L3' L4',F'.get 0 = a -> F'.get 5 = .ref gb 0 -> F'.get 26 = a -> F'.get 27 = c27 -> F'.get 28 = .int .i64 (i:Int) -> mR E τ' gb m0 m1 sa ma b3 b4 es0' es1' A' L3' L4' -> uE (X ++ [iU r]) (P ++ kC r) A' L3' L4' -> RM es0' (rs ++ [r]) -> SM E es1' get' -> CE es1' -> MK get' (fun k n=>Pm k n \/ (k ∈ r.outs /\ n = r.name)) -> M E st .normal ⟨88,F'⟩ τ' Q):Ax.R E (cutAt [1,1,1,0,1,2,2,1,1,0,2] (aA Tryz.f19).code) st ⟨88,F⟩ Y Q:=by
 have o1:=aI i1.bB
 have o2:=aI i2.bB
 have o3:=aI i3.bB
 have o4:=aI i4.bB
 have a1:=hs.ins
 have a2:=hs.outs
 have l1:=bH h i1
 have l2:=bH h i2
 have d8:=h'.Wg
 simp only [aA,Tryz.f19,cutAt,Option.getD_some] at d8
 have d18:=h'.Rp
 simp only [aA,Tryz.f19,cutAt,Option.getD_some] at d18
 have d19:=h'.Ro
 simp only [aA,Tryz.f19,cutAt,Option.getD_some] at d19
 have r9:=fun {Y} {es0} {y} ga hy hA F g5 g7 st Q hk=>TM (Y:=Y) (y:=y) (r:=r) (p1:=p1) (p2:=p2) (p3:=p3) (p4:=p4) (A:=A) (L3:=L3) (L4:=L4) (gb:=gb) (m0:=m0) (m1:=m1) (sa:=sa) (ma:=ma) (b3:=b3) (b4:=b4) (es0:=es0) (es1:=es1) h h' hl ga hy hA F g5 g7 (st:=st) (Q:=Q) hk
 rw [show cutAt [1,1,1,0,1,2,2,1,1,0,2] (aA Tryz.f19).code = .seq (cutAt [1,1,1,0,1,2,2,1,1,0,2,0] (aA Tryz.f19).code) (.seq (cutAt [1,1,1,0,1,2,2,1,1,0,2,1,0] (aA Tryz.f19).code) (.seq (.region 9 (opsOf (cutAt [1,1,1,0,1,2,2,1,1,0,2,1,1,0] (aA Tryz.f19).code)) true) (cutAt [1,1,1,0,1,2,2,1,1,0,2,1,1,1] (aA Tryz.f19).code))) from rfl]
 generalize opsOf (cutAt [1,1,1,0,1,2,2,1,1,0,2,1,1,0] (aA Tryz.f19).code) = O9 at r9 ⊢
 generalize hREST:cutAt [1,1,1,0,1,2,2,1,1,0,2,1,1,1] (aA Tryz.f19).code = REST
 have ga1:=ga.app (O.cells 37 [.str r.name,p1,p2,p3,p4] true)
 have hy1:(Y ++ [O.cells 37 [.str r.name,p1,p2,p3,p4] true])[Y.length]? = some (O.cells 37 [.str r.name,p1,p2,p3,p4] true):=aQ
 have gg1:=ga1.g
 simp only [aA,Tryz.f19,KP,Ax.loadAt,Ax.storeAt,↓reduceIte,Nat.reduceEqDiff,Nat.reduceLT,Nat.reduceAdd,reduceCtorEq,h.cK,h.bD,cutAt,bG d8,cC,h'.y_,h'.K0,g5,g26,g28,e1,o1,o2,o3,o4,gg1,hy1,aQ,cV]
 generalize Y ++ [O.cells 37 [.str r.name,p1,p2,p3,p4] true] = τ1 at *
 generalize Y.length = y at *
 refine aO (M1 h h' (v:=.agg [.str r.name,p1,p2,p3,p4]) ⟨p1,p2,p3,p4,rfl,i1,i2,i3,i4⟩ hs) ?_
 rintro v σ' ⟨rfl,hv⟩
 obtain ⟨hu,hrm⟩:=Jt h h' ga1.rules ha hn hv
 have ga2:=ga1.rule (es0 ++ [(.str r.name,v)])
 have hy2:(σ'.set m0 (.map (es0 ++ [(.str r.name,v)])))[y]? = some (O.cells 37 [.str r.name,p1,p2,p3,p4] true):=Lb.dM.DT ga1.rules _ _ _ _ hy1
 simp only [KP,↓reduceIte,Nat.reduceEqDiff,Nat.reduceLT,hu]
 generalize σ'.set m0 (.map (es0 ++ [(.str r.name,v)])) = τ2 at *
 refine r9 ga2 hy2 (by have:=li.Mj; omega) _ ?_ ?_ _ _ (fun F3 τ3 hF3 ga3 kc3=>?_)
 ·simp +decide only [GS,g5]
 ·simp +decide only [GS]
 have li3:=li.rule (iU r)
 have hy3:=kc3 _ _ _ _ hy2
 have q0:F3.get 0 = a:=(hF3 0 (by simp)).trans (by simp +decide only [GS,g0])
 have q5:F3.get 5 = .ref gb 0:=(hF3 5 (by simp)).trans (by simp +decide only [GS,g5])
 have Gz:F3.get 26 = a:=(hF3 26 (by simp)).trans (by simp +decide only [GS,g26])
 have Tp:F3.get 27 = c27:=(hF3 27 (by simp)).trans (by simp +decide only [GS,g27])
 have To:F3.get 28 = .int .i64 (i:Int):=(hF3 28 (by simp)).trans (by simp +decide only [GS,g28])
 have q7:F3.get 7 = .ref y 0:=(hF3 7 (by simp)).trans (by simp +decide only [GS])
 have hX3:(X ++ [iU r]).length <= 1001:=by rw [List.length_append]; simp only [List.length_cons,List.length_nil]; omega
 subst hREST
 generalize X ++ [iU r] = X3 at *
 generalize keys A [iU r] = A3 at *
 have kr:=fun (Y:Sg)=>Oo (Z:=Y) h h' (s:=r.name)
 rw [Us]
 simp only [aA,Tryz.f19,KP,Ax.loadAt,↓reduceIte,Nat.reduceLT,reduceCtorEq,h.aR,h.bD,cutAt,q7,hy3,l1]
 refine aP (fun j F Y=>F.get 0 = a /\ F.get 5 = .ref gb 0 /\ F.get 26 = a /\ F.get 27 = c27 /\ F.get 28 = .int .i64 (i:Int) /\ F.get 7 = .ref y 0 /\ F.get 50 = p1 /\ F.get 51 = .int .i64 (r.ins.length:Int) /\ F.get 52 = .int .i64 (j:Int) /\ Y[y]? = some (O.cells 37 [.str r.name,p1,p2,p3,p4] true) /\ ∃ A L3 L4,mR E Y gb m0 m1 sa ma b3 b4 (es0 ++ [(.str r.name,v)]) es1 A L3 L4 /\ uE X3 (P ++ (r.ins.take j).map (fun f=>(((true,r.name):bX),((false,f):bX)))) A L3 L4) r.ins.length ?_ ?_ r.ins.length 0 _ _ (by omega) (zX (by simp +decide only [GS,q0,q5,Gz,Tp,To,q7,and_self]) ⟨hy3,A3,L3,L4,ga3,by rw [List.take_zero,List.map_nil,List.append_nil]; exact li3⟩)
 ·rintro j F Y hj ⟨g0,g5,g26,g27,g28,g7,g50,g51,g52,hy,A,L3,L4,ga,li⟩ next
  obtain ⟨s,hsj⟩:∃ y,r.ins[j]? = some y:=⟨_,List.getElem?_eq_getElem hj⟩
  obtain ⟨g',e2⟩:=fM h i1 hsj
  have hlt:=d_ hj
  have hadd:=bU j (by omega)
  have hPl:(P ++ (r.ins.take j).map (fun f=>(((true,r.name):bX),((false,f):bX)))).length <= 100010:=by rw [List.length_append,List.length_map,List.length_take]; omega
  have kf:=fun (Y:Sg)=>IX (Z:=Y) h h' (s:=s)
  rw [aF]
  simp only [KP,Ax.loadAt,↓reduceIte,Nat.reduceEqDiff,Nat.reduceLT,reduceCtorEq,h.cK,h.bD,g5,g7,g50,g51,g52,hlt,e2,hy,kr,kf]
  refine aO (MZ h h' hl ga (x:=(true,r.name)) (y:=(false,s)) (by have:=li.Mj; omega) (fun e he=>by have:=li.Oc e he; omega) (fun e he=>by have:=li.Ob e he; omega)) ?_
  rintro v2 τ' ⟨rfl,L3',L4',ga',gr3,gr4,kc⟩
  simp only [KP,↓reduceIte,Nat.reduceEqDiff,Nat.reduceLT,g52,hadd]
  refine next _ _ (zX (by simp +decide only [GS,g0,g5,g26,g27,g28,g7,g50,g51,and_self]) ⟨kc _ _ _ _ hy,_,L3',L4',ga',?_⟩)
  rw [GO hsj,<- List.append_assoc]
  exact li.link gr3 gr4
 rintro F Y ⟨g0,g5,g26,g27,g28,g7,g50,g51,g52,hy,A,L3,L4,ga,li⟩
 rw [List.take_of_length_le (Nat.le_refl _)] at li
 have hPl:(P ++ r.ins.map (fun f=>(((true,r.name):bX),((false,f):bX)))).length <= 100010:=by rw [List.length_append,List.length_map]; omega
 rw [aF]
 have hlt:=eA (Nat.lt_irrefl r.ins.length)
 simp only [KP,Ax.loadAt,↓reduceIte,Nat.reduceEqDiff,Nat.reduceLT,reduceCtorEq,h.aR,h.bD,g51,g52,hlt,g7,hy,l2]
 generalize hP2:P ++ r.ins.map (fun f=>(((true,r.name):bX),((false,f):bX))) = P2 at *
 refine aP (fun j F Y=>F.get 0 = a /\ F.get 5 = .ref gb 0 /\ F.get 26 = a /\ F.get 27 = c27 /\ F.get 28 = .int .i64 (i:Int) /\ F.get 7 = .ref y 0 /\ F.get 65 = p2 /\ F.get 66 = .int .i64 (r.outs.length:Int) /\ F.get 67 = .int .i64 (j:Int) /\ Y[y]? = some (O.cells 37 [.str r.name,p1,p2,p3,p4] true) /\ ∃ es1 get A L3 L4,mR E Y gb m0 m1 sa ma b3 b4 (es0 ++ [(.str r.name,v)]) es1 A L3 L4 /\ uE X3 (P2 ++ (r.outs.take j).map (fun f=>(((false,f):bX),((true,r.name):bX)))) A L3 L4 /\ SM E es1 get /\ CE es1 /\ MK get (fun k n=>Pm k n \/ (k ∈ r.outs.take j /\ n = r.name))) r.outs.length ?_ ?_ r.outs.length 0 _ _ (by omega) (zX (by simp +decide only [GS,g0,g5,g26,g27,g28,g7,and_self]) ⟨hy,es1,get,A,L3,L4,ga,by rw [List.take_zero,List.map_nil,List.append_nil]; exact li,hsm,hsv,hmk.congr fun k n=>by simp⟩)
 ·rintro j F Y hj ⟨g0,g5,g26,g27,g28,g7,g65,g66,g67,hy,es1,get,A,L3,L4,ga,li,hsm,hsv,hmk⟩ next
  obtain ⟨s,hsj⟩:∃ y,r.outs[j]? = some y:=⟨_,List.getElem?_eq_getElem hj⟩
  obtain ⟨g',e2⟩:=fM h i2 hsj
  have hlt:=d_ hj
  have hadd:=bU j (by omega)
  have hPl2:(P2 ++ (r.outs.take j).map (fun f=>(((false,f):bX),((true,r.name):bX)))).length <= 100020:=by rw [List.length_append,List.length_map,List.length_take]; omega
  have kf:=fun (Y:Sg)=>IX (Z:=Y) h h' (s:=s)
  rw [aF]
  simp only [KP,Ax.loadAt,↓reduceIte,Nat.reduceEqDiff,Nat.reduceLT,reduceCtorEq,h.cK,h.bD,bG d18,cC,g5,g7,g65,g66,g67,hlt,e2,hy,kr,kf]
  refine aO (MZ h h' hl ga (x:=(false,s)) (y:=(true,r.name)) (by have:=li.Mj; omega) (fun e he=>by have:=li.Oc e he; omega) (fun e he=>by have:=li.Ob e he; omega)) ?_
  rintro v2 τ' ⟨rfl,L3',L4',ga',gr3,gr4,kc⟩
  have hy':=kc _ _ _ _ hy
  have hg':=ga'.g
  obtain ⟨es1',hu,hsm',hsv'⟩:=Ny h ga'.jD hsm hsv s r.name
  have ga2:=ga'.Ma es1'
  simp only [KP,Ax.loadAt,↓reduceIte,Nat.reduceEqDiff,Nat.reduceLT,reduceCtorEq,h.cK,h.bD,h.AO,bG d19,cC,h'.y_,g5,g7,g67,hadd,hy',hg',hu]
  refine next _ _ (zX (by simp +decide only [GS,g0,g5,g26,g27,g28,g7,g65,g66,and_self]) ⟨Lb.dM.DT ga'.jD _ _ _ _ hy',es1',_,_,L3',L4',ga2,?_,hsm',hsv',(hmk.put s r.name).congr fun k n=>?_⟩)
  ·rw [EK hsj,<- List.append_assoc]
   exact li.link gr3 gr4
  ·rw [dP hsj k]
   constructor
   ·rintro ((h1 | h1) | h1)
    ·exact .inl h1
    ·exact .inr ⟨.inl h1.1,h1.2⟩
    ·exact .inr ⟨.inr h1.1,h1.2⟩
   ·rintro (h1 | ⟨h1 | h1,h2⟩)
    ·exact .inl (.inl h1)
    ·exact .inl (.inr ⟨h1,h2⟩)
    ·exact .inr ⟨h1,h2⟩
 rintro F Y ⟨g0,g5,g26,g27,g28,g7,g65,g66,g67,hy,es1,get,A,L3,L4,ga,li,hsm,hsv,hmk⟩
 rw [List.take_of_length_le (Nat.le_refl _)] at li hmk
 rw [aF]
 have hlt:=eA (Nat.lt_irrefl r.outs.length)
 simp only [KP,↓reduceIte,Nat.reduceLT,g66,g67,hlt]
 refine hk _ _ _ _ _ _ _ _ (by simp +decide only [GS,g0]) (by simp +decide only [GS,g5]) (by simp +decide only [GS,g26]) (by simp +decide only [GS,g27]) (by simp +decide only [GS,g28]) ga ?_ hrm hsm hsv hmk
 unfold kC
 rw [<- List.append_assoc,hP2]
 exact li
end
end
section
section
variable {E:Env} {Z:Sg} {K:V -> Sg -> Prop}
theorem Dk {rs:List aG} {i:Nat} {r:aG} (hr:rs[i]? = some r):(rs.take (i + 1)).flatMap kC = (rs.take i).flatMap kC ++ kC r /\ (rs.take (i + 1)).map iU = (rs.take i).map iU ++ [iU r]:=by
 rw [List.take_add_one,hr]
 simp
theorem nw_c (h:bK E) (h':xL E) (hl:Lb.jR E) {a:V} {rs:List aG} (ia:IS cQ a rs) (hs:∀ x ∈ rs,Small x) (hsh:Ci rs) (hlen:rs.length <= 1000) (F:FT) (g0:F.get 0 = a) {K:V -> Sg -> Prop}
  (hk:∀ Y gb ma b3 b4 es0 es1 get A L3 L4,mR E Y gb 0 1 2 ma b3 b4 es0 es1 A L3 L4 -> uE (rs.map iU) (rs.flatMap kC) A L3 L4 -> RM es0 rs -> SM E es1 get -> CE es1 -> MK get (Mk rs) -> K (.ref gb 0) Y):Ax.R E (cutAt [1,1] (aA Tryz.f19).code) [] ⟨88,F⟩ [] (kS E (aA Tryz.f19).results K):=by
 have la:=cA h ia
 have inner:=fun {Y gb ma b3 b4 es0 es1 A L3 L4} ga {X P} li hX hP {i r g p1 p2 p3 p4} e1 i1 i2 i3 i4 hs {rs2} ha hn {get Pm} hsm hsv hmk F g0 g5 g26 g27 g28 st Q hk=>LY (Y:=Y) (gb:=gb) (m0:=0) (m1:=1) (sa:=2) (ma:=ma) (b3:=b3) (b4:=b4) (es0:=es0) (es1:=es1) (A:=A) (L3:=L3) (L4:=L4) (X:=X) (P:=P) (a:=a) (c27:=.int .i64 (rs.length:Int)) (i:=i) (r:=r) (g:=g) (p1:=p1) (p2:=p2) (p3:=p3) (p4:=p4) (rs:=rs2) (get:=get) (Pm:=Pm) h h' hl ga li hX hP e1 i1 i2 i3 i4 hs ha hn hsm hsv hmk F g0 g5 g26 g27 g28 (st:=st) (Q:=Q) hk
 rw [show cutAt [1,1] (aA Tryz.f19).code = .seq (cutAt [1,1,0] (aA Tryz.f19).code) (.seq (.seq (cutAt [1,1,1,0,0] (aA Tryz.f19).code) (.block 0 (.loop (.seq (cutAt [1,1,1,0,1,2,2,0] (aA Tryz.f19).code) (.seq (cutAt [1,1,1,0,1,2,2,1,0] (aA Tryz.f19).code) (.seq (.block 1 (cutAt [1,1,1,0,1,2,2,1,1,0,2] (aA Tryz.f19).code)) (cutAt [1,1,1,0,1,2,2,1,1,1] (aA Tryz.f19).code))))))) (cutAt [1,1,1,1] (aA Tryz.f19).code)) from rfl]
 generalize cutAt [1,1,1,0,1,2,2,1,1,0,2] (aA Tryz.f19).code = B at inner ⊢
 simp only [aA,Tryz.f19,KP,↓reduceIte,Nat.reduceLT,cutAt]
 refine aO (Lb.PL hl (Z:=[.map [],.map []]) (v:=.aC) (l:=[]) (.inl ⟨rfl,rfl⟩) (by simp)) ?_
 rintro v τ1 ⟨m,rfl,hset,hlt,nC⟩
 have k0:=nC 0 _ rfl
 have k1:=nC 1 _ rfl
 have hs2:Lb.cN τ1 2 m []:=hset
 have hlt:2 < m:=hlt
 have hml:=(List.getElem?_eq_some_iff.1 hs2.map).1
 simp only [KP,↓reduceIte,Nat.reduceEqDiff,Nat.reduceLT,Nat.reduceAdd,reduceCtorEq,h.AO,Ax.fill,Ax.placeOf,hl.Cp,h'.y_,h'.K0,h'.uF,g0,la]
 have ga0:mR E (τ1 ++ [.map []] ++ [.map []] ++ [.cells 107 [.mp 0,.mp 1,.ref 2 0,.mp τ1.length,.mp (τ1 ++ [O.map []]).length] true]) (τ1 ++ [O.map []] ++ [O.map []]).length 0 1 2 m τ1.length (τ1 ++ [O.map []]).length [] [] [] [] []:=by
  refine ⟨aQ,aL (aL (aL k0)),aL (aL (aL k1)),cN.app (cN.app (cN.app hs2 _) _) _,⟨aL (aL aQ),(fun e he=>by cases he),List.nodup_nil⟩,⟨aL aQ,(fun e he=>by cases he),List.nodup_nil⟩,?_⟩
  rw [List.length_append]
  simp only [List.map_nil,List.append_nil,List.nodup_cons,List.mem_cons,List.not_mem_nil,or_false,not_or,List.length_cons,List.length_nil,not_false_eq_true,List.nodup_nil,and_true]
  omega
 generalize τ1 ++ [.map []] ++ [.map []] ++ [.cells 107 [.mp 0,.mp 1,.ref 2 0,.mp τ1.length,.mp (τ1 ++ [O.map []]).length] true] = τ2 at *
 generalize (τ1 ++ [O.map []] ++ [O.map []]).length = gb at *
 generalize (τ1 ++ [O.map []]).length = b4 at *
 generalize τ1.length = b3 at *
 refine aP (fun i F Y=>F.get 0 = a /\ F.get 5 = .ref gb 0 /\ F.get 26 = a /\ F.get 27 = .int .i64 (rs.length:Int) /\ F.get 28 = .int .i64 (i:Int) /\ ∃ es0 es1 get A L3 L4,mR E Y gb 0 1 2 m b3 b4 es0 es1 A L3 L4 /\ uE ((rs.take i).map iU) ((rs.take i).flatMap kC) A L3 L4 /\ RM es0 (rs.take i) /\ SM E es1 get /\ CE es1 /\ MK get (Mk (rs.take i))) rs.length ?_ ?_ rs.length 0 _ _ (by omega) (lP (by simp +decide only [GS,g0,and_self]) ⟨[],[],fun _=>none,[],[],[],ga0,uE.nil,.nil,G1,(fun e he=>by cases he),MK.nil.congr fun k n=>⟨fun h=>h.elim,fun ⟨q,hq,_⟩=>by cases hq⟩⟩)
 ·rintro i F Y hi ⟨g0,g5,g26,g27,g28,es0,es1,get,A,L3,L4,ga,li,ha,hsm,hsv,hmk⟩ next
  obtain ⟨r,hr⟩:∃ y,rs[i]? = some y:=⟨_,List.getElem?_eq_getElem hi⟩
  obtain ⟨g,p1,p2,p3,p4,e1,i1,i2,i3,i4⟩:=eE h ia hr
  have hrm:=List.mem_of_getElem? hr
  have hlt:=d_ hi
  have hadd:=bU i (by omega)
  have hnn:∀ q ∈ rs.take i,q.name ≠ r.name:=fun q hq e=>by
   obtain ⟨j,hj⟩:=List.mem_iff_getElem?.1 hq
   have hji:j < i:=by have:=(List.getElem?_eq_some_iff.1 hj).1; rw [List.length_take] at this; omega
   rw [List.getElem?_take_of_lt hji] at hj
   have:=hsh.nodup j i q r hj hr e
   omega
  have hXl:((rs.take i).map iU).length <= 1000:=by rw [List.length_map,List.length_take]; omega
  have hPl:((rs.take i).flatMap kC).length <= 100000:=by
   have:=pV (rs.take i) fun q hq=>hs q (List.mem_of_mem_take hq)
   rw [List.length_take] at this
   omega
  rw [aF]
  simp only [KP,↓reduceIte,Nat.reduceLT,g27,g28,hlt]
  refine inner ga li hXl hPl e1 i1 i2 i3 i4 (hs r hrm) ha hnn hsm hsv hmk _ ?_ ?_ ?_ ?_ ?_ _ _ (fun F2 τ2 es0' es1' get' A' L3' L4' q0 q5 Gz Tp To ga' li' ha' hsm' hsv' hmk'=>?_)
  ·simp +decide only [GS,g0]
  ·simp +decide only [GS,g5]
  ·simp +decide only [GS,g26]
  ·simp +decide only [GS,g27]
  ·simp +decide only [GS,g28]
  simp only [KP,↓reduceIte,Nat.reduceLT,To,hadd]
  refine next _ _ (lP (by simp +decide only [GS,q0,q5,Gz,Tp,and_self]) ⟨es0',es1',get',A',L3',L4',ga',?_,?_,hsm',hsv',hmk'.congr fun k n=>(Jk hr k n).symm⟩)
  ·rw [(Dk hr).1,(Dk hr).2]; exact li'
  ·rw [List.take_add_one,hr]; exact ha'
 ·rintro F Y ⟨g0,g5,g26,g27,g28,es0,es1,get,A,L3,L4,ga,li,ha,hsm,hsv,hmk⟩
  rw [List.take_of_length_le (Nat.le_refl _)] at li ha hmk
  have hlt:=eA (Nat.lt_irrefl rs.length)
  rw [aF]
  simp only [KP,↓reduceIte,Nat.reduceEqDiff,Nat.reduceLT,g5,g27,g28,hlt]
  exact hk _ _ _ _ _ _ _ _ _ _ _ ga li ha hsm hsv hmk
end
end
section
section
variable {E:Env} {Z:Sg} {K:V -> Sg -> Prop}
def Qy (ks:List bX):V:=.cT false [.imp false (Lb.w_ ks)]
def OZ (e:dH):V × V:=(pU e.key,Qy e.ks)
def gV (es0 es1:List (V × V)) (A:List bX) (L3 L4:List dH):V:=.cT false [.imp false es0,.imp false es1,Qy A,.imp false (L3.map OZ),.imp false (L4.map OZ)]
structure GrI (E:Env) (rs:List aG) (es0 es1:List (V × V)) (get:aX -> Option V) (A:List bX) (L3 L4:List dH):Prop where
 rules:RM es0 rs
 sm:SM E es1 get
 sv:CE es1
 Ma:MK get (Mk rs)
 li:uE (rs.map iU) (rs.flatMap kC) A L3 L4
 nA:A.Nodup
 n3:(L3.map dH.key).Nodup
 n4:(L4.map dH.key).Nodup
 k3:∀ e ∈ L3,e.ks.Nodup
 k4:∀ e ∈ L4,e.ks.Nodup
def GrV (E:Env) (rs:List aG) (v:V):Prop:=∃ es0 es1 get A L3 L4,v = gV es0 es1 A L3 L4 /\ GrI E rs es0 es1 get A L3 L4
theorem Ft {α β γ:Type} {f:β -> Option γ} {g:α -> β} {k:α -> γ}:∀ {l:List α},(∀ x ∈ l,f (g x) = some (k x)) -> aU f (l.map g) = some (l.map k)
 | [],_=>rfl
 | x :: l,h=>by rw [List.map_cons,aU,h x (List.mem_cons_self ..),Ft fun y hy=>h y (List.mem_cons_of_mem _ hy)]; rfl
theorem A5 {Z:Sg} {b m n:Nat} {ks:List bX} (hs:Lb.cN Z b m ks):bM Z E.ty false (n + 3) (.ref b 0) = some (Qy ks):=by
 have e1:bM Z E.ty false (n + 2) (.mp m) = some (.imp false (Lb.w_ ks)):=by
  rw [bM]
  simp only [hs.map]
  rw [Lb.Fu (Lb.w_ ks)]
  intro e he
  obtain ⟨k,_,rfl⟩:=List.mem_map.1 he
  rfl
 rw [bM]
 simp only [hs.obj,List.drop_zero]
 show (match aU (fun v=>match bM Z E.ty false (n + 2) v with
  | some v=>if cM false v then some v else no "snap: borrowed"
  | none=>none) [V.mp m] with
  | some l=>some (V.cT false l)
  | none=>none) = _
 simp only [aU,e1]
 rfl
theorem A4 {Z:Sg} {b n:Nat} {L:List dH} (hm:iE Z b L):bM Z E.ty false (n + 4) (.mp b) = some (.imp false (L.map OZ)):=by
 rw [bM]
 simp only [hm.map]
 rw [Ft (k:=OZ) fun e he=>?_]
 have h1:=A5 (E:=E) (n:=n) (hm.sets e he)
 have hp:(pU e.key).cells.all Ax.plainCell = true:=rfl
 show (if (pU e.key).cells.all Ax.plainCell = true then (match (match bM Z E.ty false (n + 3) (.ref e.s 0) with
   | some v=>if cM false v then some v else no "snap: borrowed"
   | none=>none) with
   | some v=>some (pU e.key,v)
   | none=>none) else none) = _
 rw [if_pos hp,h1]
 rfl
theorem EZ {Z:Sg} {b n:Nat} {es:List (V × V)} {rs:List aG} (hb:Z[b]? = some (.map es)) (ha:RM es rs):bM Z E.ty false (n + 2) (.mp b) = some (.imp false es):=by
 rw [bM]
 simp only [hb]
 rw [gW fun e he=>?_]
 obtain ⟨r,-,e1,a,b,c,d,e2,i1,i2,i3,i4⟩:=ha.mem he
 obtain ⟨k,v⟩:=e
 dsimp only at e1 e2
 subst e1 e2
 have hp:(V.str r.name).cells.all Ax.plainCell = true:=rfl
 have q:∀ c:V,Ax.bB c = true -> bM Z E.ty false (n + 1) c = some c:=fun c h1=>kO h1
 have t0:cM false (V.str r.name) = true:=rfl
 simp only [hp,if_true,aU,q (.str r.name) rfl,q a i1.is.bB,q b i2.is.bB,q c i3.is.bB,q d i4.is.bB,t0,i1.tag,i2.tag,i3.tag,i4.tag]
theorem G0 {Z:Sg} {b n:Nat} {es:List (V × V)} {get:aX -> Option V} (hb:Z[b]? = some (.map es)) (hs:SM E es get) (hv:CE es):bM Z E.ty false (n + 2) (.mp b) = some (.imp false es):=by
 rw [bM]
 simp only [hb]
 rw [gW fun e he=>?_]
 obtain ⟨k,e1⟩:=(hs.1 e he).1
 obtain ⟨m,e2⟩:=hv e he
 obtain ⟨a,v⟩:=e
 dsimp only at e1 e2
 subst e1 e2
 rfl
theorem GZ {Z:Sg} {gb m0 m1 sa ma b3 b4:Nat} {es0 es1:List (V × V)} {get:aX -> Option V} {A:List bX} {L3 L4:List dH} {rs:List aG} (ga:mR E Z gb m0 m1 sa ma b3 b4 es0 es1 A L3 L4) (ha:RM es0 rs) (hs:SM E es1 get) (hv:CE es1):dI Z E.ty false (.ref gb 0) = some (gV es0 es1 A L3 L4):=by
 have s0:=EZ (E:=E) (n:=9) ga.rules ha
 have s1:=G0 (E:=E) (n:=9) ga.jD hs hv
 have s2:=A5 (E:=E) (n:=8) ga.all
 have s3:=A4 (E:=E) (n:=7) ga.jB
 have s4:=A4 (E:=E) (n:=7) ga.iW
 have e:bM Z E.ty false 12 (.ref gb 0) = some (gV es0 es1 A L3 L4):=by
  rw [bM]
  simp only [ga.g,List.drop_zero]
  show (match aU (fun v=>match bM Z E.ty false 11 v with
   | some v=>if cM false v then some v else no "snap: borrowed"
   | none=>none) [V.mp m0,V.mp m1,V.ref sa 0,V.mp b3,V.mp b4] with
   | some l=>some (V.cT false l)
   | none=>none) = _
  simp only [aU,s0,s1,s2,s3,s4]
  rfl
 show (match bM Z E.ty false 12 (.ref gb 0) with
  | some v=>if cM false v then some v else no "snap: borrowed"
  | none=>none) = _
 rw [e]
 rfl
theorem HJ (h:bK E) (h':xL E) (hl:Lb.jR E) {a:V} {rs:List aG} (ha:LS cQ 37 Z a rs) (hs:∀ x ∈ rs,Small x) (hlen:rs.length <= 4294967296):aB E 19 [a] Z fun v σ'=>σ' = Z /\ ((¬ eS rs /\ v = .gR) \/ (eS rs /\ GrV E rs v)):=by
 obtain ⟨a',ea,ia⟩:=dB h ha
 rw [aH h'.hs19 h'.Lh h'.fn19 h'.md19 (args':=[a']) (by simp only [aU,ea]),aZ (by kernel_rfl)]
 have key:=fun hsh hlen F g0 hk=>nw_c (a:=a') (rs:=rs) h h' hl ia hs hsh hlen F g0 (K:=fun v σ1=>match dI σ1 E.ty false v with
   | some v=>((¬ eS rs /\ v = .gR) \/ (eS rs /\ GrV E rs v))
   | none=>False) hk
 rw [show (aA Tryz.f19).code = .seq (cutAt [0] (aA Tryz.f19).code) (.seq (cutAt [1,0] (aA Tryz.f19).code) (cutAt [1,1] (aA Tryz.f19).code)) from rfl]
 generalize cutAt [1,1] (aA Tryz.f19).code = C at key ⊢
 simp only [aA,Tryz.f19,KP,↓reduceIte,Nat.reduceLT,reduceCtorEq,cutAt]
 refine aO (HL h (ia.ls _ 37) hs hlen) ?_
 rintro v σ' ⟨rfl,e,nm,rfl,hE⟩
 by_cases he:e = 0
 ·have q:=decide_eq_true he
  have hr:=hE.zero.1 he
  have hg:=nD hr.1
  have h40:=hg.len
  simp only [KP,↓reduceIte,Nat.reduceEqDiff,Nat.reduceLT,q]
  refine key hg.short (Nat.le_trans h40 (by decide)) _ ?_ ?_
  ·simp +decide only [GS]
  intro Y gb ma b3 b4 es0 es1 get A L3 L4 ga li ha hsm hsv hmk
  rw [GZ ga ha hsm hsv]
  exact .inr ⟨hr,es0,es1,get,A,L3,L4,rfl,ha,hsm,hsv,hmk,li,ga.all.nodup,ga.jB.nodup,ga.iW.nodup,fun e he=>(ga.jB.sets e he).nodup,fun e he=>(ga.iW.sets e he).nodup⟩
 ·have q:=decide_eq_false he
  simp only [KP,↓reduceIte,Nat.reduceEqDiff,Nat.reduceLT,q]
  exact .inl ⟨mt hE.zero.2 he,rfl⟩
theorem NY (h:bK E) (h':xL E) (hl:Lb.jR E):Jj E:=by
 intro Z a rs ha hs hr
 have h40:=(nD hr.1).len
 refine (HJ h h' hl ha hs (by omega)).mono ?_
 rintro v σ' ⟨rfl,⟨hn,-⟩ | ⟨-,es0,es1,get,A,L3,L4,rfl,hi⟩⟩
 ·exact absurd hr hn
 ·exact ⟨rfl,false,false,_,_,_,_,es1,get,rfl,hi.sm,hi.Ma⟩
end
end
section
section
variable {E:Env} {Z:Sg} {K:V -> Sg -> Prop}
theorem Es (h:bK E) (h':PN E) (hl:OrL E) (hN:t_ E) {a:V} {rs:List aG} (ha:LS cQ 37 Z a rs) (hraw:∀ x ∈ rs,Raw x):aB E 3 [a] Z K = K (.bool true) Z:=by
 refine aB.of ?_
 obtain ⟨a',ea,ia⟩:=dB h ha
 rw [aH hl.hs3 hl.Gx hl.fn3 hl.md3 (args':=[a']) (by simp only [aU,ea]),aZ (by kernel_rfl)]
 have key:=fun F g0=>r_c6 h h' hN (ia.ls [] 37) hraw F g0 (K:=fun v σ1=>match dI σ1 E.ty false v with
   | some v=>v = .bool true
   | none=>False) (fun σ'=>rfl)
 rw [show (aA Tryz.f3).code = .seq (cutAt [0] (aA Tryz.f3).code) (.seq (cutAt [1,0] (aA Tryz.f3).code) (.seq (cutAt [1,1,0] (aA Tryz.f3).code) (.seq (cutAt [1,1,1,0] (aA Tryz.f3).code) (.seq (cutAt [1,1,1,1,0] (aA Tryz.f3).code) (cutAt [1,1,1,1,1] (aA Tryz.f3).code))))) from rfl]
 generalize cutAt [1,1,1,1,1] (aA Tryz.f3).code = C at key ⊢
 have kb:=fun (Y:Sg)=>c_ (fun K=>hl.beg (Z:=Y) (K:=K))
 simp only [aA,Tryz.f3,KP,↓reduceIte,Nat.reduceLT,reduceCtorEq,cutAt,kb]
 refine aO (Cf h (ia.ls [] 37) hraw) ?_
 rintro v σ' ⟨rfl,iv⟩
 have sm:tH ((rs.take 42).map cut):=⟨by rw [List.length_map,List.length_take]; omega,fun x hx=>by
  obtain ⟨y,-,rfl⟩:=List.mem_map.1 hx
  exact Dp y⟩
 generalize (rs.take 42).map cut = raw at iv sm
 have iv':IS cQ v raw:=qV iv.is qL
 have hlen:=sm.len
 simp only [KP,↓reduceIte,Nat.reduceLT]
 refine aO (Gf h (iv'.ls [] 37) sm) ?_
 rintro v2 σ' ⟨rfl,e,nm,rfl,hE⟩
 by_cases he:e = 0
 ·have q:=decide_eq_true he
  simp only [KP,↓reduceIte,Nat.reduceEqDiff,Nat.reduceLT,reduceCtorEq,q]
  exact key _ (by simp +decide only [GS])
 ·have q:=decide_eq_false he
  have hr:¬ eS raw:=mt hE.zero.2 he
  have l1:∀ Z,lenOf E Z 28 .aC = some 0:=fun Z=>by unfold lenOf; rw [h.aR]
  have l2:∀ Z,lenOf E Z 30 .aC = some 0:=fun Z=>by unfold lenOf; rw [h.Jy]
  have ko:=fun (Y:Sg)=>c_ (fun K=>CD (Z:=Y) (K:=K) h h' (iv'.ls Y 37) sm.all (by omega) hr)
  have kr:=fun (Y:Sg)=>c_ (fun K=>aB.of (σ':=Y) (v:=.aC) (K:=K) ((Gg h h' hN (iv'.ls Y 37) sm.all (by omega)).mono fun v σ' ⟨e1,e2⟩=>by
   rcases e2 with ⟨-,e2⟩ | ⟨hok,-⟩
   ·exact ⟨e2,e1⟩
   ·exact absurd hok hr))
  simp only [KP,↓reduceIte,Nat.reduceEqDiff,Nat.reduceLT,q,kr,ko,l1,l2]
  exact key _ (by simp +decide only [GS])
end
end
end Go.Proofs.YtlbbdpkjeeiahaaGreatDoor
end
section
set_option maxHeartbeats 8000000
namespace Go.Proofs.YtlbbdpkjeeiahaaGreatDoor
open Go Go.Ax Go.AxS
theorem Ba (a0:V) (l0:List aG) (i0:IS cQ a0 l0) (r0:∀ x ∈ l0,Raw x):∃ k,Ax.call LE k 3 [a0] = some (.bool true):=by
 have h:aB LE 3 [a0] [] (fun v _=>v = .bool true):=by
  rw [Es Hl QO QN (JV Hl Ml (NY Hl Ml Od)) (i0.ls [] 37) r0]
 obtain ⟨n,v,σ',hc,rfl⟩:=h
 refine ⟨n,?_⟩
 have hm:aU (a_ [] LE.ty true) [a0] = some [a0]:=by
  simp only [aU,nQ i0 []]
 unfold gB at hc
 rw [show LE.hspec 3 = none by kernel_rfl,show LE.spec 3 = none by kernel_rfl,show LE.fn 3 = some (aA Tryz.f3) by kernel_rfl,show LE.mode 3 = .fO by kernel_rfl] at hc
 simp only [hm] at hc
 unfold Ax.call
 rw [show LE.fn 3 = some (aA Tryz.f3) by kernel_rfl]
 dsimp only
 cases he:enter LE (ev LE n) (aA Tryz.f3) [a0] [] with
 | none=>rw [he] at hc; cases hc
 | some y=>
  rw [he] at hc
  dsimp only at hc ⊢
  cases hs:dI y.2 LE.ty false y.1 with
  | none=>rw [hs] at hc; cases hc
  | some z=>rw [hs] at hc; cases hc; rfl
end Go.Proofs.YtlbbdpkjeeiahaaGreatDoor
end
