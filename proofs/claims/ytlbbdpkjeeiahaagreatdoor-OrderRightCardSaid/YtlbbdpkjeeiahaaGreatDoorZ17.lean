/- Part 17 of the proof's own texts (pressed by a program of its author's). -/
import Derived.Test.YtlbbdpkjeeiahaaGreatDoorZ16
import Derived.Test.YtlbbdpkjeeiahaaGreatDoorZ15
section
set_option maxRecDepth 10000
set_option maxHeartbeats 8000000
namespace Go.Proofs.YtlbbdpkjeeiahaaGreatDoor
open Go Go.Ax Go.AxS
section
section
variable {E:Env} {Z:Sg} {K:V -> Sg -> Prop}
theorem PX (m b o n:Nat):rT (m + 1) (.sl b o n none) (.sl b o n none) = true:=by
 show (decide (b = b) && decide (o = o) && decide (n = n)) = true
 simp
theorem HZ (h:bK E) {Y:Sg} {b:Nat} {ex:Bool} {rs:List (List V)} (hl:∀ r ∈ rs,r.length = 5) (hb:Y[b]? = some (.cells 75 rs.flatten ex)) {i:Nat} {r:List V} (hr:rs[i]? = some r) {k:Nat} (hk:k < 5) {u:V} (hu:Ax.bB u = true) :
  storeAt E Y 28 (.ref b (i * 5 + k)) u = some (Y.set b (.cells 75 (rs.set i (r.set k u)).flatten ex)):=by
 have hil:=(List.getElem?_eq_some_iff.1 hr).1
 have hfl:rs.flatten.length = rs.length * 5:=mK rs hl
 unfold storeAt
 simp only [h.aR,hb]
 rw [iP hu,if_pos (by simp only [List.length_cons,List.length_nil,List.all_cons,List.all_nil,aI hu,Bool.and_true,Bool.and_eq_true,decide_eq_true_eq]; exact ⟨rfl,by omega⟩),LB hl hr hk]
theorem IU (h:bK E) {Y:Sg} {b:Nat} {ex:Bool} {rs:List (List V)} (hl:∀ r ∈ rs,r.length = 5) (hb:Y[b]? = some (.cells 75 rs.flatten ex)) {i:Nat} {r:List V} (hr:rs[i]? = some r) {k:Nat} (hk:k < 5) {u:V} (hu:r[k]? = some u):loadAt E Y 28 (.ref b (i * 5 + k)) = some u:=by
 unfold loadAt
 simp only [h.aR,hb,Ax.isAgg,Bool.false_eq_true,if_false]
 rw [oF rs hl i r hr k hk,hu]
theorem Md (h:bK E) {l:List AxS.Step} {s:AxS.Step} {nm:aX} {a' b' c' w:V} {Y:Sg} {i:Nat} (hi:l[i]? = some s) (x0:Y[2]? = some (O.cells 37 [.str nm,a',b',c',w] true)) (ow:bI fT 75 Y w l) (F:FT) (g1:F.get 2 = .ref 1 0) (g3:F.get 3 = .ref 2 0) (g4:F.get 4 = .int .i64 (i:Int)) {st:List lX} {Q:Ax.X -> Fr -> Sg -> Prop}
  (hk:∀ F' τ',(∀ k,k < 44 -> F'.get k = F.get k) -> bI fT 75 τ' w (l.set i (Al s)) -> Sp Y τ' w -> M E st .normal ⟨86,F'⟩ τ' Q):R E (.region 6 (opsOf (cutAt [1,1,1,0,1,2,2,1,1,0,2,1] (aA Tryz.f59).code)) true) st ⟨86,F⟩ Y Q:=by
 have hil:=(List.getElem?_eq_some_iff.1 hi).1
 rcases ow with ⟨rfl,rfl⟩ | ⟨b,rs,ex,rfl,hb,ha⟩
 ·cases hi
 obtain ⟨r,hr,hP⟩:=ha.get i s hi
 obtain ⟨p,q,rfl,ip,iq⟩:=hP
 have hls:=Lay.lens ha
 have hls:∀ r ∈ rs,r.length = 5:=hls
 obtain ⟨p1,e1,ip1⟩:=Dn h ip 8
 obtain ⟨q1,e2,iq1⟩:=Dn h iq 3
 have lp:=bH h ip.is
 have lq:=bH h iq.is
 have m1:=C_ s.args.length 8
 have m2:=C_ s.lits.length 3
 have m1:jC false .i64 (s.args.length:Int) [.int .i64 8] = some ((min s.args.length 8:Nat):Int):=m1
 have m2:jC false .i64 (s.lits.length:Int) [.int .i64 3] = some ((min s.lits.length 3:Nat):Int):=m2
 have ix:indexAddr E 35 (.sl b 0 l.length none) (.int .i64 (i:Int)) = some (.ref b (i * 5)):=by
  have hneg:¬ ((i:Int) < 0):=by omega
  unfold indexAddr
  simp only [hneg,if_false,h.fD,h.cO,Int.toNat_natCast,hil,if_true,Nat.zero_add]
 have d1:=IU h hls hb hr (k:=2) (by omega) (u:=p) rfl
 have d2:=IU h hls hb hr (k:=3) (by omega) (u:=q) rfl
 have s1:=HZ h hls hb hr (k:=2) (by omega) (u:=p1) ip1.is.bB
 have hbl:=(List.getElem?_eq_some_iff.1 hb).1
 have hrl:=(List.getElem?_eq_some_iff.1 hr).1
 have hr1:(rs.set i [.str s.out,.int .i64 s.op,p1,q,.int .i64 s.n])[i]? = some [.str s.out,.int .i64 s.op,p1,q,.int .i64 s.n]:=List.getElem?_set_self hrl
 have ha1:eY fT.P (rs.set i [.str s.out,.int .i64 s.op,p1,q,.int .i64 s.n]) (l.set i { s with args:=s.args.take 8 }):=ha.set (y:={ s with args:=s.args.take 8 }) ⟨p1,q,rfl,ip1,iq⟩ i
 have hls1:∀ r ∈ rs.set i [.str s.out,.int .i64 s.op,p1,q,.int .i64 s.n],r.length = 5:=Lay.lens ha1
 have s1:storeAt E Y 28 (.ref b (i * 5 + 2)) p1 = some (Y.set b (.cells 75 (rs.set i [.str s.out,.int .i64 s.op,p1,q,.int .i64 s.n]).flatten ex)):=s1
 have hb1:(Y.set b (.cells 75 (rs.set i [.str s.out,.int .i64 s.op,p1,q,.int .i64 s.n]).flatten ex))[b]? = some (.cells 75 (rs.set i [.str s.out,.int .i64 s.op,p1,q,.int .i64 s.n]).flatten ex):=tN hb
 have s2:=HZ h hls1 hb1 hr1 (k:=3) (by omega) (u:=q1) iq1.is.bB
 have hb2:b ≠ 2:=fun e=>by subst e; rw [hb] at x0; cases x0
 have x1:(Y.set b (.cells 75 (rs.set i [.str s.out,.int .i64 s.op,p1,q,.int .i64 s.n]).flatten ex))[2]? = some (O.cells 37 [.str nm,a',b',c',.sl b 0 l.length none] true):=pA x0 hb2
 have ldx:∀ Y:Sg,Y[2]? = some (O.cells 37 [.str nm,a',b',c',.sl b 0 l.length none] true) -> loadAt E Y 35 (.ref 2 4) = some (.sl b 0 l.length none):=fun Y hx=>by
  unfold loadAt
  simp only [h.fD,hx,Ax.isAgg,Bool.false_eq_true,if_false]
  rfl
 have w0:=ldx _ x0
 have w1:=ldx _ x1
 have v1:=PX 11 b 0 l.length
 have v2:=fun k i=>HV 11 k i
 have v3:=bY 10 iq1.is
 generalize hτ1:Y.set b (.cells 75 (rs.set i [.str s.out,.int .i64 s.op,p1,q,.int .i64 s.n]).flatten ex) = τ1 at *
 have key:∃ F',cB E (ev E 0) (opsOf (cutAt [1,1,1,0,1,2,2,1,1,0,2,1] (aA Tryz.f59).code)) ⟨86,F⟩ Y = some (⟨86,F'⟩,τ1.set b (.cells 75 ((rs.set i [.str s.out,.int .i64 s.op,p1,q,.int .i64 s.n]).set i ([V.str s.out,.int .i64 s.op,p1,q,.int .i64 s.n].set 3 q1)).flatten ex)) /\ ∀ k,k < 44 -> F'.get k = F.get k:=by
  unfold cB
  rw [h.R4,h.TG]
  simp only [aA,Tryz.f59,KP,↓reduceIte,Nat.reduceEqDiff,Nat.reduceLT,Nat.reduceAdd,reduceCtorEq,h.aR,h.fD,h.bD,h.cO,opsOf,cutAt,gO,bF,bV,jT,Ax.comp,Ax.last,gT,Ax.again,aM,g3,g4,w0,w1,ix,d1,d2,lp,lq,m1,m2,e1,e2,s1,s2,v1,v2,v3]
  refine ⟨_,rfl,fun k hk=>?_⟩
  simp only [FT.jK]
  repeat rw [if_neg (by omega)]
 obtain ⟨F',hE,hF⟩:=key
 refine Eq.mpr (iF hE) (hk F' _ hF ?_ ?_)
 ·have hn:(l.set i (Al s)).length = l.length:=List.length_set
  refine .inr ⟨b,_,ex,by rw [hn],tN hb1,?_⟩
  rw [List.set_set]
  exact ha.set (y:=Al s) ⟨p1,q1,rfl,ip1,iq1⟩ i
 ·intro c o e hne
  have hcb:b ≠ c:=fun e2=>hne (by rw [e2]; rfl)
  rw [<- hτ1,List.set_set,List.getElem?_set_ne hcb]; exact e
theorem D4 {l:List AxS.Step} {i:Nat} {s:AxS.Step} (hi:l[i]? = some s):((l.take i).map Al ++ l.drop i).set i (Al s) = (l.take (i + 1)).map Al ++ l.drop (i + 1):=by
 have hil:=(List.getElem?_eq_some_iff.1 hi).1
 have h1:((l.take i).map Al).length = i:=by rw [List.length_map,List.length_take]; omega
 rw [List.set_append_right _ _ (by omega),h1,Nat.sub_self,List.drop_eq_getElem_cons hil,List.set_cons_zero,List.take_add_one,hi]
 simp
theorem KF (h:bK E) {v:V} {x:aG} (hv:GB v x) (hx:Raw x):aB E 59 [v] Z fun v' σ'=>σ' = Z /\ ∃ a b c d,v' = .agg [.str x.name,a,b,c,d] /\ jS aK a (cut x).ins /\ jS aK b (cut x).outs /\ jS aK c (cut x).after /\ jS fT d (cut x).steps:=by
 have ev:=hv.snap (E:=E) Z
 obtain ⟨a,b,c,d,rfl,ia,ib,ic,id⟩:=hv
 rw [aH h.hs59 h.sp59 h.fn59 h.md59 (args':=[.agg [.str x.name,a,b,c,d]]) (by simp only [aU,ev]),aZ (by kernel_rfl)]
 have ha:=aI ia.bB
 have hb:=aI ib.bB
 have hc:=aI ic.bB
 have hd:=aI id.bB
 simp only [aA,Tryz.f59,KP,↓reduceIte,Nat.reduceLT,Nat.reduceAdd,h.bD,ha,hb,hc,hd]
 refine Me h ia ib ic id _ ?_ ?_ ?_
 ·exact (by simp +decide only [GS])
 ·exact (by simp +decide only [GS])
 intro F1 a1 b1 c1 d1 g1 g2 g3 i1 i2 i3 i4
 simp only [KP,Ax.loadAt,↓reduceIte,Nat.reduceLT,Nat.reduceAdd,h.bD,g3]
 refine aO (RL h (x:=pZ x) ⟨a1,b1,c1,d1,rfl,i1,i2,i3,i4⟩ hx.mid) ?_
 rintro v1 Y ⟨⟨a2,b2,c2,w,rfl,j1,j2,j3,ow,hw⟩,kp⟩
 have o1:=aI j1.is.bB
 have o2:=aI j2.is.bB
 have o3:=aI j3.is.bB
 obtain ⟨hc1,hc2⟩:=pO ow
 have z0:Y[1]? = some (O.cells 37 [.str [],.aC,.aC,.aC,.aC] true):=kp 1 _ rfl
 have x0:=kp 2 _ (show ([O.cells 37 [.str x.name,a,b,c,d] true,O.cells 37 [.str [],.aC,.aC,.aC,.aC] true,O.cells 37 [.str x.name,a1,b1,c1,d1] true]:Sg)[2]? = _ from rfl)
 have hw3:∀ k,aW w = some k -> 3 <= k:=hw
 have x1:=tN (x:=O.cells 37 [.str x.name,a2,b2,c2,w] true) x0
 have z1:=pA (x:=O.cells 37 [.str x.name,a2,b2,c2,w] true) z0 (show (2:Nat) ≠ 1 by omega)
 have ow1:bI fT 75 (Y.set 2 (O.cells 37 [.str x.name,a2,b2,c2,w] true)) w (pZ x).steps:=ow.keep fun k o hk ho=>pA ho (fun e=>by have:=hw3 k hk; omega)
 have nm0:(pZ x).name = x.name:=rfl
 have lw:∀ l:List AxS.Step,l.length = (pZ x).steps.length -> ∀ Z,bI fT 75 Z w l -> lenOf E Z 35 w = some (pZ x).steps.length:=fun l hl Z o=>by rw [<- hl]; exact pG h.fD rfl o.ls
 have lw1:=lw _ rfl _ ow1
 simp only [KP,Ax.loadAt,Ax.storeAt,↓reduceIte,Nat.reduceEqDiff,Nat.reduceLT,Nat.reduceAdd,reduceCtorEq,h.fD,h.bD,g3,nm0,x0,x1,lw1,o1,o2,o3,hc2]
 generalize Y.set 2 (O.cells 37 [.str x.name,a2,b2,c2,w] true) = Y at *
 refine aP (fun i F Y=>Y[1]? = some (O.cells 37 [.str [],.aC,.aC,.aC,.aC] true) /\ Y[2]? = some (O.cells 37 [.str x.name,a2,b2,c2,w] true) /\ bI fT 75 Y w (((pZ x).steps.take i).map Al ++ (pZ x).steps.drop i) /\ F.get 2 = .ref 1 0 /\ F.get 3 = .ref 2 0 /\ F.get 40 = .int .i64 ((pZ x).steps.length:Int) /\ F.get 41 = .int .i64 (i:Int)) (pZ x).steps.length ?_ ?_ (pZ x).steps.length 0 _ _ (by omega) ⟨z1,x1,by simpa using ow1,(by simp +decide only [GS,g2,g3,and_self])⟩
 ·rintro i F Y hi ⟨z0,x0,ow,g2,g3,g40,g41⟩ next
  obtain ⟨s,hst⟩:∃ y,(pZ x).steps[i]? = some y:=⟨_,List.getElem?_eq_getElem hi⟩
  have hlt:=d_ hi
  have hsz:(pZ x).steps.length <= 14:=by show (x.steps.take 14).length <= 14; rw [List.length_take]; omega
  have hadd:=bU i (by omega)
  have hli:(((pZ x).steps.take i).map Al ++ (pZ x).steps.drop i)[i]? = some s:=by
   rw [List.getElem?_append_right (by rw [List.length_map,List.length_take]; omega),List.length_map,List.length_take,show i - min i (pZ x).steps.length = 0 by omega,List.getElem?_drop,Nat.add_zero,hst]
  rw [aF]
  simp only [KP,↓reduceIte,Nat.reduceEqDiff,Nat.reduceLT,g40,g41,hlt]
  refine Md h hli x0 ow _ ?_ ?_ ?_ ?_
  ·exact (by simp +decide only [GS,g2])
  ·exact (by simp +decide only [GS,g3])
  ·exact (by simp +decide only [GS])
  intro F2 τ2 hF ow2 sp
  have k2:F2.get 2 = .ref 1 0:=by rw [hF 2 (by omega)]; exact (by simp +decide only [GS,g2])
  have k3:F2.get 3 = .ref 2 0:=by rw [hF 3 (by omega)]; exact (by simp +decide only [GS,g3])
  have k40:F2.get 40 = .int .i64 ((pZ x).steps.length:Int):=by rw [hF 40 (by omega)]; exact (by simp +decide only [GS,g40])
  have k41:F2.get 41 = .int .i64 (i:Int):=by rw [hF 41 (by omega)]; exact (by simp +decide only [GS,g41])
  simp only [KP,↓reduceIte,Nat.reduceLT,k41,hadd]
  rw [D4 hst] at ow2
  exact next _ _ ⟨sp _ _ z0 (sI z0 (by decide) ow),sp _ _ x0 (sI x0 (by decide) ow),ow2,(by simp +decide only [GS,k2,k3,k40,and_self])⟩
 ·rintro F Y ⟨z0,x0,ow,g2,g3,g40,g41⟩
  have hlt:=eA (Nat.lt_irrefl (pZ x).steps.length)
  rw [List.take_of_length_le (Nat.le_refl _),List.drop_of_length_le (Nat.le_refl _),List.append_nil] at ow
  have hne:=sI z0 (show 37 ≠ 75 by decide) ow
  have zz:=tN (x:=O.cells 37 [.str x.name,a2,b2,c2,w] true) z0
  have ow3:bI fT 75 (Y.set 1 (O.cells 37 [.str x.name,a2,b2,c2,w] true)) w ((pZ x).steps.map Al):=ow.keep fun k o hk ho=>pA ho (fun e=>by rw [<- e] at hk; exact hne hk)
  rw [aF]
  simp only [KP,Ax.loadAt,Ax.storeAt,↓reduceIte,Nat.reduceEqDiff,Nat.reduceLT,Nat.reduceAdd,h.bD,g2,g3,g40,g41,hlt,x0,z0,zz,o1,o2,o3,hc2]
  generalize Y.set 1 (O.cells 37 [.str x.name,a2,b2,c2,w] true) = Y at *
  obtain ⟨d',e1,id'⟩:=nP h.cO rfl GR ow3
  have one:∀ {u:V},Ax.bB u = true -> cM false u = true -> a_.one Y E.ty false u = some u:=fun {u} h1 h2=>by
   have h3:=eO (Z:=Y) (ty:=E.ty) (g:=false) h1 h2
   cases u <;> first | exact h3 | cases h1
  have oned:a_.one Y E.ty false w = some d':=by
   rcases ow3 with ⟨rfl,-⟩ | ⟨b,rs,ex,rfl,-⟩
   ·exact e1
   ·exact e1
  have hsn:dI Y E.ty false (.agg [.str x.name,a2,b2,c2,w]) = some (.agg [.str x.name,a2,b2,c2,d']):=by
   show (match aU (a_.one Y E.ty false) [.str x.name,a2,b2,c2,w] with
    | some l=>some (V.agg l)
    | none=>none) = _
   simp only [aU,one (u:=.str x.name) rfl rfl,one j1.is.bB j1.tag,one j2.is.bB j2.tag,one j3.is.bB j3.tag,oned]
  rw [hsn]
  exact ⟨a2,b2,c2,d',rfl,j1,j2,j3,id'⟩
end
end
section
section
variable {E:Env} {Z:Sg} {K:V -> Sg -> Prop}
def mS:Lay aG:=⟨fun r x=>∃ a b c d,r = [.str x.name,a,b,c,d] /\ jS aK a x.ins /\ jS aK b x.outs /\ jS aK c x.after /\ jS fT d x.steps,5,fun _ _ ⟨_,_,_,_,h,_⟩=>by rw [h]; rfl,fun _ _ ⟨a,b,c,d,h,h1,h2,h3,h4⟩ k hk=>by
 rw [h] at hk
 simp only [List.mem_cons,List.not_mem_nil,or_false] at hk
 rcases hk with rfl | rfl | rfl | rfl | rfl
 ·rfl
 ·exact h1.is.bB
 ·exact h2.is.bB
 ·exact h3.is.bB
 ·exact h4.is.bB⟩
theorem Bb:∀ r x,mS.P r x -> ∀ k ∈ r,cM false k = true:=fun r x ⟨a,b,c,d,h,h1,h2,h3,h4⟩ k hk=>by
 rw [h] at hk
 simp only [List.mem_cons,List.not_mem_nil,or_false] at hk
 rcases hk with rfl | rfl | rfl | rfl | rfl
 ·rfl
 ·exact h1.tag
 ·exact h2.tag
 ·exact h3.tag
 ·exact h4.tag
theorem qV {α:Type} {L M:Lay α} {v:V} {l:List α} (h:IS L v l) (k:∀ r x,L.P r x -> M.P r x):IS M v l:=h.imp id fun ⟨g,rs,full,e,ha⟩=>⟨g,rs,full,e,ha.imp k⟩
theorem N8 {α:Type} {L M:Lay α} {t:Nat} {Z:Sg} {v:V} {l:List α} (h:LS L t Z v l) (hn:L.n = M.n) (k:∀ r x,L.P r x -> M.P r x):LS M t Z v l:=h.imp (fun h=>qV h k) fun ⟨b,cs,ex,rs,e,hb,ha,hc⟩=>⟨b,cs,ex,rs,e,hb,ha.imp k,by rw [<- hn]; exact hc⟩
theorem uS:∀ r x,fT.P r x -> eT.P r x:=fun r x ⟨a,l,h,h1,h2⟩=>⟨a,l,h,h1.is,h2.is⟩
theorem qL:∀ r x,mS.P r x -> cQ.P r x:=fun r x ⟨a,b,c,d,h,h1,h2,h3,h4⟩=>⟨a,b,c,d,h,h1.is,h2.is,h3.is,qV h4.is uS⟩
theorem Gk (h:bK E) {Y:Sg} {w a b c d:V} {l:List aG} {r:aG} {ex:Bool} (ow:bI mS 37 Y w l) (h1:jS aK a r.ins) (h2:jS aK b r.outs) (h3:jS aK c r.after) (h4:jS fT d r.steps) (hb:l.length <= 1000) :
  ∃ w' τ',Ax.append E (Y ++ [.cells 37 [.str r.name,a,b,c,d] ex]) #[22,22] w (.sl Y.length 0 1 none) = some (w',τ') /\ bI mS 37 τ' w' (l ++ [r]) /\ Sp (Y ++ [.cells 37 [.str r.name,a,b,c,d] ex]) τ' w /\ Y.length <= τ'.length:=by
 obtain ⟨w',τ',q1,q2,q3,q4,-⟩:=iK (m:=[r]) (new:=[[.str r.name,a,b,c,d]]) h.AN rfl h.bD rfl (by decide) (sH h) rfl (ow.app [.cells 37 [.str r.name,a,b,c,d] ex]) (iQ rfl) (.one ⟨a,b,c,d,rfl,h1,h2,h3,h4⟩) (dU (b:=1001) (by decide) (by simp only [List.length_cons,List.length_nil]; omega))
 exact ⟨w',τ',q1,q2,q3,by simp only [List.length_append,List.length_cons,List.length_nil] at q4; omega⟩
theorem Cf (h:bK E) {a:V} {rs:List aG} (ha:LS cQ 37 Z a rs) (hr:∀ x ∈ rs,Raw x):aB E 12 [a] Z fun v σ'=>σ' = Z /\ jS mS v ((rs.take 42).map cut):=by
 obtain ⟨a',ea,ia⟩:=dB h ha
 rw [aH h.hs12 h.Lq h.fn12 h.md12 (args':=[a']) (by simp only [aU,ea]),aZ (by kernel_rfl)]
 have la:=cA h ia
 simp only [aA,Tryz.f12,KP,↓reduceIte,Nat.reduceLT]
 refine aP (fun i F Y=>F.get 0 = a' /\ F.get 4 = .int .i64 (i:Int) /\ ∃ w,F.get 3 = w /\ bI mS 37 Y w ((rs.take i).map cut)) (min rs.length 42) ?_ ?_ (min rs.length 42) 0 _ _ (by omega) (kQ (by simp +decide only [GS,and_self]) ⟨.aC,(by simp +decide only [GS]),.inl ⟨rfl,rfl⟩⟩)
 ·rintro i F Y hi ⟨g0,g4,w,g3,ow⟩ next
  obtain ⟨r,hri⟩:∃ y,rs[i]? = some y:=⟨_,List.getElem?_eq_getElem (by omega)⟩
  have hraw:=hr r (List.mem_of_getElem? hri)
  obtain ⟨g,p1,p2,p3,p4,e1,i1,i2,i3,i4⟩:=eE h ia hri
  have hlt:=d_ (show i < rs.length by omega)
  have hlt2:decide ((i:Int) < 42) = true:=decide_eq_true (by omega)
  have hadd:=bU i (by omega)
  rw [aF]
  simp only [KP,Ax.loadAt,↓reduceIte,Nat.reduceEqDiff,Nat.reduceLT,Nat.reduceAdd,reduceCtorEq,h.bD,g0,g3,g4,la,hlt,hlt2,e1]
  refine aO (KF h (LD i1 i2 i3 i4) hraw) ?_
  rintro v σ' ⟨rfl,a1,b1,c1,d1,rfl,j1,j2,j3,j4⟩
  have o1:=aI j1.is.bB
  have o2:=aI j2.is.bB
  have o3:=aI j3.is.bB
  have o4:=aI j4.is.bB
  have hnm:r.name = (cut r).name:=rfl
  obtain ⟨w',τ',ha2,ow2,-,-⟩:=Gk (r:=cut r) (ex:=true) h ow j1 j2 j3 j4 (by rw [List.length_map,List.length_take]; omega)
  rw [<- hnm] at ha2
  simp only [KP,↓reduceIte,Nat.reduceEqDiff,Nat.reduceLT,Nat.reduceLeDiff,Nat.reduceAdd,Nat.reduceMul,h.AN,h.bD,g4,ha2,hadd,o1,o2,o3,o4,Ax.fill,gQ,Nat.zero_mul]
  refine next _ _ (kQ (by simp +decide only [GS,g0,and_self]) ⟨w',(by simp +decide only [GS]),?_⟩)
  have e:(rs.take (i + 1)).map cut = (rs.take i).map cut ++ [cut r]:=by rw [List.take_add_one,hri]; simp
  rw [e]
  exact ow2
 ·rintro F Y ⟨g0,g4,w,g3,ow⟩
  obtain ⟨v',e1,iv⟩:=nP h.bD rfl Bb ow
  have ht:rs.take (min rs.length 42) = rs.take 42:=vR rs 42
  rw [ht] at iv
  rw [aF]
  by_cases hlen:rs.length <= 42
  ·have hm:min rs.length 42 = rs.length:=Nat.min_eq_left hlen
   rw [hm] at g4
   have hlt:=eA (Nat.lt_irrefl rs.length)
   simp only [KP,↓reduceIte,Nat.reduceEqDiff,Nat.reduceLT,reduceCtorEq,g0,g3,g4,la,hlt,e1]
   exact iv
  ·have hm:min rs.length 42 = 42:=Nat.min_eq_right (by omega)
   rw [hm] at g4
   have hlt:decide (((42:Nat):Int) < (rs.length:Int)) = true:=decide_eq_true (by omega)
   have hlt2:decide (((42:Nat):Int) < 42) = false:=rfl
   simp only [KP,↓reduceIte,Nat.reduceEqDiff,Nat.reduceLT,reduceCtorEq,g0,g3,g4,la,hlt,hlt2,e1]
   exact iv
end
end
section
section
variable {E:Env} {Z:Sg} {K:V -> Sg -> Prop}
theorem OJ (h:bK E) {Y:Sg} {w a b c d:V} {l:List aG} {r:aG} {y:Nat} (ow:bI mS 37 Y w l) (hy:Y[y]? = some (.cells 37 [.str r.name,a,b,c,d] true)) (j1:jS aK a r.ins) (j2:jS aK b r.outs) (j3:jS aK c r.after) (j4:jS fT d r.steps) (hs:∀ x ∈ l ++ [r],Small x) (hl:l.length <= 14)
  (F:FT) (g3:F.get 3 = w) (g5:F.get 5 = .ref y 0) {st:List lX} {Q:Ax.X -> Fr -> Sg -> Prop}
  (hk:∀ F' τ' e,(∀ k,k ∈ [0,3,5,9,10,11] -> F'.get k = F.get k) -> F'.get 6 = .int .i64 e -> Gu (l ++ [r]) e -> (∀ (k:Nat) (o:O),Y[k]? = some o -> τ'[k]? = some o) -> M E st .normal ⟨37,F'⟩ τ' Q):R E (.region 5 (opsOf (cutAt [1,1,0,1,2,2,1,1,0,2,1,0] (aA Tryz.f16).code)) true) st ⟨37,F⟩ Y Q:=by
 obtain ⟨rs,ee,hee⟩:=MH (t:=37) (Z:=Y) ow.ls
 obtain ⟨w1,τ1,ha1,ow1,RS,-,fb⟩:=iK (ats:=#[22,22]) (Z:=Y) (w:=.aC) (l:=[]) (L:=mS) (x:=w) (m:=l) h.AN rfl h.bD rfl (by decide) (sH h) rfl (.inl ⟨rfl,rfl⟩) ee hee (dU (b:=1000) (by decide) (by simp only [List.length_nil]; omega))
 obtain ⟨w2,τ2,ha2,ow2,PB,-,-⟩:=iK (ats:=#[22,22]) (Z:=τ1) (x:=.bP false [[.str r.name,a,b,c,d]] true) (m:=[r]) (new:=[[.str r.name,a,b,c,d]]) h.AN rfl h.bD rfl (by decide) (sH h) rfl ow1 rfl (.one ⟨a,b,c,d,rfl,j1,j2,j3,j4⟩) (dU (b:=1000) (by decide) (by simp only [List.nil_append,List.length_cons,List.length_nil]; omega))
 rw [List.nil_append] at ow2
 have hy1:τ1[y]? = some (.cells 37 [.str r.name,a,b,c,d] true):=RS _ _ hy (by intro e; cases e)
 have hall:=Gf (Z:=τ2) h (N8 ow2.ls rfl qL) ⟨by simp only [List.length_append,List.length_cons,List.length_nil]; omega,hs⟩
 obtain ⟨n,v,σ',hcall,hσ,e,nm,rfl,hE⟩:=hall
 rw [hσ] at hcall
 clear hσ σ'
 have o1:=aI j1.is.bB
 have o2:=aI j2.is.bB
 have o3:=aI j3.is.bB
 have o4:=aI j4.is.bB
 have t1:=j1.tag
 have t2:=j2.tag
 have t3:=j3.tag
 have t4:=j4.tag
 have ts:cM false (.str r.name) = true:=rfl
 have v1:=bY 10 j1.is
 have v2:=bY 10 j2.is
 have v3:=bY 10 j3.is
 have v4:=nK 9 (qV j4.is uS)
 have vs:=vO 10 r.name
 have va:rT 12 (.agg [.str r.name,a,b,c,d]) (.agg [.str r.name,a,b,c,d]) = true:=oK fun x hx=>by
  simp only [List.mem_cons,List.not_mem_nil,or_false] at hx
  rcases hx with rfl | rfl | rfl | rfl | rfl
  ·exact vs
  ·exact bY 9 j1.is
  ·exact bY 9 j2.is
  ·exact bY 9 j3.is
  ·exact nK 8 (qV j4.is uS)
 have key:∃ F',cB E (ev E n) (opsOf (cutAt [1,1,0,1,2,2,1,1,0,2,1,0] (aA Tryz.f16).code)) ⟨37,F⟩ Y = some (⟨37,F'⟩,τ2) /\ (∀ k,k ∈ [0,3,5,9,10,11] -> F'.get k = F.get k) /\ F'.get 6 = .int .i64 e:=by
  unfold cB
  rw [h.R7,h.TJ]
  simp only [aA,Tryz.f16,KP,Ax.loadAt,↓reduceIte,Nat.reduceEqDiff,Nat.reduceLT,Nat.reduceLeDiff,Nat.reduceAdd,Nat.reduceMul,h.AN,h.bD,opsOf,cutAt,Fz.lits,Fz.apps,gO,bF,bV,jT,Ax.comp,Ax.last,gT,Ax.again,Bw,Ax.fill,gQ,Ax.rows,Nat.zero_mul,g3,g5,hy,hy1,ha1,ha2,hcall,o1,o2,o3,o4,t1,t2,t3,t4,ts,va]
  refine ⟨_,rfl,fun k hk=>?_,(by simp +decide only [GS])⟩
  simp only [List.mem_cons,List.not_mem_nil,or_false] at hk
  rcases hk with rfl | rfl | rfl | rfl | rfl | rfl <;> simp +decide only [GS]
 obtain ⟨F',hD,h1,h2⟩:=key
 refine Eq.mpr (iF hD) (hk F' τ2 e h1 h2 hE fun k o ho=>?_)
 have h1':=RS _ _ ho (by intro e; cases e)
 refine PB _ _ h1' fun e=>?_
 rcases fb _ e with hb | hb
 ·cases hb
 ·exact absurd (List.getElem?_eq_some_iff.mp ho).1 (by omega)
theorem Nb (h:bK E) {v:V} {l:List aG} (ia:IS mS v l) {i:Nat} {x:aG} (hx:l[i]? = some x):∃ g a b c d,indexAddr E 22 v (.int .i64 (i:Int)) = some (.cT g [.str x.name,a,b,c,d]) /\ jS aK a x.ins /\ jS aK b x.outs /\ jS aK c x.after /\ jS fT d x.steps:=by
 obtain ⟨g,r,e,a,b,c,d,hr,h1⟩:=IS.at h.AN rfl h.bD rfl ia hx
 exact ⟨g,a,b,c,d,by rw [e,hr],h1⟩
theorem E4:eS []:=⟨rfl,fun ⟨i,hi,_⟩=>absurd hi (by simp)⟩
theorem RI (h:bK E) {a:V} {rs:List aG} (ha:LS cQ 37 Z a rs) (hr:∀ x ∈ rs,Raw x):aB E 16 [a] Z fun v σ'=>σ' = Z /\ ∃ l,jS mS v l /\ eS l /\ l.length <= 14 /\ ∀ x ∈ l,Small x:=by
 obtain ⟨a',ea,ia⟩:=dB h ha
 rw [aH h.hs16 h.Ll h.fn16 h.md16 (args':=[a']) (by simp only [aU,ea]),aZ (by kernel_rfl)]
 simp only [aA,Tryz.f16,KP,↓reduceIte,Nat.reduceLT,reduceCtorEq]
 refine aO (Cf h (ia.ls [] 37) hr) ?_
 rintro v σ' ⟨rfl,iv⟩
 have sm:∀ x ∈ (rs.take 42).map cut,Small x:=fun x hx=>by
  obtain ⟨y,-,rfl⟩:=List.mem_map.1 hx
  exact Dp y
 have hl42:((rs.take 42).map cut).length <= 42:=by rw [List.length_map,List.length_take]; omega
 generalize (rs.take 42).map cut = ls at iv sm hl42
 have la:=cA h (qV iv.is qL)
 simp only [KP,↓reduceIte,Nat.reduceLT,la]
 refine aP (fun i F Y=>F.get 9 = v /\ F.get 10 = .int .i64 (ls.length:Int) /\ F.get 11 = .int .i64 (i:Int) /\ ∃ w l,F.get 3 = w /\ bI mS 37 Y w l /\ eS l /\ l.length <= 14 /\ ∀ x ∈ l,Small x) ls.length ?_ ?_ ls.length 0 _ _ (by omega) (jG (by simp +decide only [GS,and_self]) ⟨.aC,[],(by simp +decide only [GS]),.inl ⟨rfl,rfl⟩,E4,by simp,fun x hx=>by cases hx⟩)
 ·rintro i F Y hi ⟨g9,g10,g11,w,l,g3,ow,hok,hlen,hsm⟩ next
  obtain ⟨r,hri⟩:∃ y,ls[i]? = some y:=⟨_,List.getElem?_eq_getElem (by omega)⟩
  have hrs:=sm r (List.mem_of_getElem? hri)
  obtain ⟨g,p1,p2,p3,p4,e1,i1,i2,i3,i4⟩:=Nb h iv.is hri
  have hlt:=d_ hi
  have hadd:=bU i (by omega)
  rw [aF]
  have o1:=aI i1.is.bB
  have o2:=aI i2.is.bB
  have o3:=aI i3.is.bB
  have o4:=aI i4.is.bB
  simp only [KP,Ax.loadAt,Ax.storeAt,↓reduceIte,Nat.reduceEqDiff,Nat.reduceLT,Nat.reduceAdd,h.bD,g9,g10,g11,hlt,e1,o1,o2,o3,o4,aQ,cV]
  refine OJ h (ow.app _) (y:=Y.length) ?_ i1 i2 i3 i4 ?_ hlen _ ?_ ?_ ?_
  ·simp
  ·intro x hx
   rcases List.mem_append.1 hx with hx | hx
   ·exact hsm x hx
   ·rw [List.mem_singleton.1 hx]; exact hrs
  ·exact (by simp +decide only [GS,g3])
  ·exact (by simp +decide only [GS])
  intro F' τ' e hF h6 hE hT
  have q3:F'.get 3 = w:=(hF 3 (by simp)).trans (show _ = w by simp only [FT.jK,Nat.reduceEqDiff,↓reduceIte,g3])
  have q5:F'.get 5 = .ref Y.length 0:=(hF 5 (by simp)).trans (by simp +decide only [GS])
  have q9:F'.get 9 = v:=(hF 9 (by simp)).trans (by simp +decide only [GS,g9])
  have Ez:F'.get 10 = .int .i64 (ls.length:Int):=(hF 10 (by simp)).trans (by simp +decide only [GS,g10])
  have GA:F'.get 11 = .int .i64 (i:Int):=(hF 11 (by simp)).trans (by simp +decide only [GS,g11])
  have ow':bI mS 37 τ' w l:=(ow.app [O.cells 37 [.str r.name,p1,p2,p3,p4] true]).keep fun c o _ hc=>hT c o hc
  have hy:τ'[Y.length]? = some (O.cells 37 [.str r.name,p1,p2,p3,p4] true):=hT _ _ (by simp)
  have lw:=pG h.AN rfl ow'.ls
  have hz:=hE.zero
  by_cases he:e = 0
  ·have c1:decide (e = 0) = true:=decide_eq_true he
   by_cases h14:l.length < 14
   ·have c2:decide ((l.length:Int) < 14) = true:=decide_eq_true (by omega)
    obtain ⟨w2,τ2,ha2,ow2,-,-⟩:=Gk (ex:=true) h ow' i1 i2 i3 i4 (by omega)
    simp only [KP,Ax.loadAt,↓reduceIte,Nat.reduceEqDiff,Nat.reduceLT,Nat.reduceLeDiff,Nat.reduceAdd,Nat.reduceMul,h.AN,h.bD,q3,q5,GA,h6,lw,c1,c2,hy,hadd,ha2,o1,o2,o3,o4,Ax.fill,gQ,Nat.zero_mul]
    refine next _ _ (jG (by simp +decide only [GS,q9,Ez,and_self]) ⟨w2,l ++ [r],(by simp +decide only [GS]),ow2,hz.1 he,?_,?_⟩)
    ·rw [List.length_append,List.length_singleton]; omega
    ·intro x hx
     rcases List.mem_append.1 hx with hx | hx
     ·exact hsm x hx
     ·rw [List.mem_singleton.1 hx]; exact hrs
   ·have c2:decide ((l.length:Int) < 14) = false:=decide_eq_false (by omega)
    simp only [KP,↓reduceIte,Nat.reduceEqDiff,Nat.reduceLT,q3,GA,h6,lw,c1,c2,hadd]
    exact next _ _ (jG (by simp +decide only [GS,q9,Ez,and_self]) ⟨w,l,(by simp +decide only [GS,q3]),ow',hok,hlen,hsm⟩)
  ·have c1:decide (e = 0) = false:=decide_eq_false he
   simp only [KP,↓reduceIte,Nat.reduceEqDiff,Nat.reduceLT,GA,h6,c1,hadd]
   exact next _ _ (jG (by simp +decide only [GS,q9,Ez,and_self]) ⟨w,l,(by simp +decide only [GS,q3]),ow',hok,hlen,hsm⟩)
 ·rintro F Y ⟨g9,g10,g11,w,l,g3,ow,hok,hlen,hsm⟩
  obtain ⟨v',e1,iv⟩:=nP h.bD rfl Bb ow
  have hlt:=eA (Nat.lt_irrefl ls.length)
  rw [aF]
  simp only [KP,↓reduceIte,Nat.reduceEqDiff,Nat.reduceLT,g3,g10,g11,hlt,e1]
  exact ⟨l,iv,hok,hlen,hsm⟩
end
end
section
section
variable {E:Env} {Z:Sg} {K:V -> Sg -> Prop}
theorem qJ {k:Nat} {caps:List V} (hc:∀ c ∈ caps,Ax.bB c = true) (Z:Sg):a_ Z E.ty true (.fn k [] caps) = some (.fn k [] caps):=by
 have e:aU (a_.one Z E.ty true) caps = some caps:=gW fun c hx=>by
  have:=eO (Z:=Z) (ty:=E.ty) (g:=true) (hc c hx) (cP (hc c hx))
  have h2:=hc c hx
  cases c <;> first | exact this | cases h2
 simp only [a_,e,aU]
theorem Jg (h:bK E) {a:V} {l:List aX} {k:Nat} {caps:List V} {P:aX -> Bool} (ha:LS aK 9 Z a l) (hsm:l.length <= 4294967296) (hc:∀ c ∈ caps,Ax.bB c = true) (hP:∀ (y:aX) (v:V),y ∈ l -> v = .str y -> aB E k ([v] ++ caps) [] fun u Y=>Y = [] /\ u = .bool (P y)) {fv:V} (ef:a_ Z E.ty true fv = some (.fn k [] caps)):aB E 65 [a,fv] Z K = K (.int .i64 (idx (bJ P l))) Z:=by
 refine aB.of ?_
 obtain ⟨a',ea,ia⟩:=jH h ha
 rw [aH h.hs65 h.sp65 h.fn65 h.md65 (args':=[a',.fn k [] caps]) (by simp only [aU,ea,ef]),aZ (by kernel_rfl)]
 have la:=bH h ia
 simp only [aA,Tryz.f65,KP,↓reduceIte,Nat.reduceLT,Nat.reduceAdd,reduceCtorEq,Int.reduceNeg,la]
 refine aP (fun i F Y=>Y = [] /\ F.get 0 = a' /\ F.get 1 = .fn k [] caps /\ F.get 8 = .int .i64 (i:Int) /\ F.get 7 = .int .i64 (l.length:Int) /\ ∀ j y,j < i -> l[j]? = some y -> P y = false) l.length ?_ ?_ l.length 0 _ _ (by omega) ⟨rfl,(gC (by simp +decide only [GS,and_self]) (fun j y hj=>by omega))⟩
 ·rintro i F Y hi ⟨rfl,g0,g1,g8,g7,hp⟩ next
  obtain ⟨x,hx⟩:∃ x,l[i]? = some x:=⟨_,List.getElem?_eq_getElem hi⟩
  obtain ⟨g,e1⟩:=fM h ia hx
  have hv:V.str x = .str x:=rfl
  have hlt:=d_ hi
  have hadd:=bU i (by omega)
  rw [aF]
  simp only [KP,Ax.loadAt,↓reduceIte,Nat.reduceEqDiff,Nat.reduceLT,reduceCtorEq,Int.reduceNeg,h.cK,g0,g1,g7,g8,hlt,e1]
  refine aO (hP x _ (List.mem_of_getElem? hx) hv) ?_
  rintro u Y ⟨rfl,rfl⟩
  by_cases hxs:P x = true
  ·simp only [KP,↓reduceIte,Nat.reduceEqDiff,Nat.reduceLT,Int.reduceNeg,hxs]
   rw [iH (i:=i) (x:=x) hp hx hxs]
   exact rfl
  ·have hxs:P x = false:=by simpa using hxs
   simp only [KP,↓reduceIte,Nat.reduceEqDiff,Nat.reduceLT,Int.reduceNeg,g8,hxs,hadd]
   refine next _ _ ⟨rfl,(gC (by simp +decide only [GS,g0,g1,g7,and_self]) (fun j y hj hy=>?_))⟩
   rcases Nat.lt_or_ge j i with g | g
   ·exact hp j y g hy
   ·obtain rfl:j = i:=by omega
    rw [hx] at hy; cases hy; exact hxs
 ·rintro F Y ⟨rfl,g0,g1,g8,g7,hp⟩
  have hlt:=eA (Nat.lt_irrefl l.length)
  rw [aF]
  simp only [KP,↓reduceIte,Nat.reduceLT,Int.reduceNeg,g7,g8,hlt]
  rw [iI fun x hx=>by
   obtain ⟨j,hj,e⟩:=List.getElem_of_mem hx
   exact hp j x hj (by rw [List.getElem?_eq_getElem hj,e])]
  exact rfl
theorem RH (h:bK E) {a:V} {l:List aX} {k:Nat} {caps:List V} {P:aX -> Bool} (ha:LS aK 9 Z a l) (hsm:l.length <= 4294967296) (hc:∀ c ∈ caps,Ax.bB c = true) (hP:∀ (y:aX) (v:V),y ∈ l -> v = .str y -> aB E k ([v] ++ caps) [] fun u Y=>Y = [] /\ u = .bool (P y)):aB E 65 [a,.fn k [] caps] Z K = K (.int .i64 (idx (bJ P l))) Z:=Jg h ha hsm hc hP (qJ hc Z)
theorem qA (h:bK E) {a:V} {l:List aX} {k:Nat} {caps:List V} {P:aX -> Bool} (ha:LS aK 9 Z a l) (hsm:l.length <= 4294967296) (hc:∀ c ∈ caps,Ax.bB c = true) (hP:∀ (y:aX) (v:V),y ∈ l -> v = .str y -> aB E k ([v] ++ caps) [] fun u Y=>Y = [] /\ u = .bool (P y)) {fv:V} (ef:a_ Z E.ty true fv = some (.fn k [] caps)):aB E 67 [a,fv] Z K = K (.bool (l.any P)) Z:=by
 refine aB.of ?_
 obtain ⟨a',ea,ia⟩:=jH h ha
 rw [aH h.hs67 h.sp67 h.fn67 h.md67 (args':=[a',.fn k [] caps]) (by simp only [aU,ea,ef]),aZ (by kernel_rfl)]
 have key:=fun K=>RH (Z:=[]) (K:=K) h (ia.ls [] 9) hsm hc hP
 have kk:=c_ key
 simp only [aA,Tryz.f67,KP,↓reduceIte,Nat.reduceEqDiff,Nat.reduceLT,Nat.reduceAdd,reduceCtorEq,kk,kH,b_]
 exact rfl
theorem Jh (h:bK E) {a:V} {l:List aX} {k:Nat} {caps:List V} {P:aX -> Bool} (ha:LS aK 9 Z a l) (hsm:l.length <= 4294967296) (hc:∀ c ∈ caps,Ax.bB c = true) (hP:∀ (y:aX) (v:V),y ∈ l -> v = .str y -> aB E k ([v] ++ caps) [] fun u Y=>Y = [] /\ u = .bool (P y)):aB E 67 [a,.fn k [] caps] Z K = K (.bool (l.any P)) Z:=qA h ha hsm hc hP (qJ hc Z)
theorem Ec (h:bK E) {a:V} {l:List aX} {k:Nat} {caps:List V} {P:aX -> Bool} (ha:LS aK 9 Z a l) (hsm:l.length <= 4294967296) (hc:∀ c ∈ caps,Ax.bB c = true) (hP:∀ (y:aX) (v:V),y ∈ l -> v = .str y -> aB E k ([v] ++ caps) [] fun u Y=>Y = [] /\ u = .bool (P y)):KC E 67 [a,.fn k [] caps] Z (.bool (l.any P)) Z:=c_ fun _=>Jh h ha hsm hc hP
theorem KH (h:bK E) {a:V} {l:List AxS.Step} {k:Nat} {caps:List V} {P:AxS.Step -> Bool} (ha:LS eT 75 Z a l) (hsm:l.length <= 4294967296) (hc:∀ c ∈ caps,Ax.bB c = true) (hP:∀ (y:AxS.Step) (v:V),y ∈ l -> KN v y -> aB E k ([v] ++ caps) [] fun u Y=>Y = [] /\ u = .bool (P y)) {fv:V} (ef:a_ Z E.ty true fv = some (.fn k [] caps)):aB E 237 [a,fv] Z K = K (.int .i64 (idx (bJ P l))) Z:=by
 refine aB.of ?_
 obtain ⟨a',ea,ia⟩:=A0 h ha
 rw [aH h.UI h.Si h.Vs h.TV (args':=[a',.fn k [] caps]) (by simp only [aU,ea,ef]),aZ (by kernel_rfl)]
 have la:=kP h ia
 simp only [aA,Tryz.f237,KP,↓reduceIte,Nat.reduceLT,Nat.reduceAdd,reduceCtorEq,Int.reduceNeg,la]
 refine aP (fun i F Y=>Y = [] /\ F.get 0 = a' /\ F.get 1 = .fn k [] caps /\ F.get 8 = .int .i64 (i:Int) /\ F.get 7 = .int .i64 (l.length:Int) /\ ∀ j y,j < i -> l[j]? = some y -> P y = false) l.length ?_ ?_ l.length 0 _ _ (by omega) ⟨rfl,(gC (by simp +decide only [GS,and_self]) (fun j y hj=>by omega))⟩
 ·rintro i F Y hi ⟨rfl,g0,g1,g8,g7,hp⟩ next
  obtain ⟨x,hx⟩:∃ x,l[i]? = some x:=⟨_,List.getElem?_eq_getElem hi⟩
  obtain ⟨g,p1,p2,e1,i1,i2⟩:=tW h ia hx
  have hv:KN (.agg [.str x.out,.int .i64 x.op,p1,p2,.int .i64 x.n]) x:=⟨p1,p2,rfl,i1,i2⟩
  have hlt:=d_ hi
  have hadd:=bU i (by omega)
  rw [aF]
  simp only [KP,Ax.loadAt,↓reduceIte,Nat.reduceEqDiff,Nat.reduceLT,Nat.reduceAdd,reduceCtorEq,Int.reduceNeg,h.cO,g0,g1,g7,g8,hlt,e1]
  refine aO (hP x _ (List.mem_of_getElem? hx) hv) ?_
  rintro u Y ⟨rfl,rfl⟩
  by_cases hxs:P x = true
  ·simp only [KP,↓reduceIte,Nat.reduceEqDiff,Nat.reduceLT,Int.reduceNeg,hxs]
   rw [iH (i:=i) (x:=x) hp hx hxs]
   exact rfl
  ·have hxs:P x = false:=by simpa using hxs
   simp only [KP,↓reduceIte,Nat.reduceEqDiff,Nat.reduceLT,Int.reduceNeg,g8,hxs,hadd]
   refine next _ _ ⟨rfl,(gC (by simp +decide only [GS,g0,g1,g7,and_self]) (fun j y hj hy=>?_))⟩
   rcases Nat.lt_or_ge j i with g | g
   ·exact hp j y g hy
   ·obtain rfl:j = i:=by omega
    rw [hx] at hy; cases hy; exact hxs
 ·rintro F Y ⟨rfl,g0,g1,g8,g7,hp⟩
  have hlt:=eA (Nat.lt_irrefl l.length)
  rw [aF]
  simp only [KP,↓reduceIte,Nat.reduceLT,Int.reduceNeg,g7,g8,hlt]
  rw [iI fun x hx=>by
   obtain ⟨j,hj,e⟩:=List.getElem_of_mem hx
   exact hp j x hj (by rw [List.getElem?_eq_getElem hj,e])]
  exact rfl
theorem M4 (h:bK E) {a:V} {l:List AxS.Step} {k:Nat} {caps:List V} {P:AxS.Step -> Bool} (ha:LS eT 75 Z a l) (hsm:l.length <= 4294967296) (hc:∀ c ∈ caps,Ax.bB c = true) (hP:∀ (y:AxS.Step) (v:V),y ∈ l -> KN v y -> aB E k ([v] ++ caps) [] fun u Y=>Y = [] /\ u = .bool (P y)):aB E 237 [a,.fn k [] caps] Z K = K (.int .i64 (idx (bJ P l))) Z:=KH h ha hsm hc hP (qJ hc Z)
theorem HK (h:bK E) {a:V} {l:List AxS.Step} {k:Nat} {caps:List V} {P:AxS.Step -> Bool} (ha:LS eT 75 Z a l) (hsm:l.length <= 4294967296) (hc:∀ c ∈ caps,Ax.bB c = true) (hP:∀ (y:AxS.Step) (v:V),y ∈ l -> KN v y -> aB E k ([v] ++ caps) [] fun u Y=>Y = [] /\ u = .bool (P y)) {fv:V} (ef:a_ Z E.ty true fv = some (.fn k [] caps)):aB E 200 [a,fv] Z K = K (.bool (l.any P)) Z:=by
 refine aB.of ?_
 obtain ⟨a',ea,ia⟩:=A0 h ha
 rw [aH h.UP h.Sr h.Vz h.T2 (args':=[a',.fn k [] caps]) (by simp only [aU,ea,ef]),aZ (by kernel_rfl)]
 have key:=fun K=>M4 (Z:=[]) (K:=K) h (ia.ls [] 75) hsm hc hP
 have kk:=c_ key
 simp only [aA,Tryz.f200,KP,↓reduceIte,Nat.reduceEqDiff,Nat.reduceLT,Nat.reduceAdd,reduceCtorEq,kk,kH,b_]
 exact rfl
theorem KI (h:bK E) {a:V} {l:List AxS.Step} {k:Nat} {caps:List V} {P:AxS.Step -> Bool} (ha:LS eT 75 Z a l) (hsm:l.length <= 4294967296) (hc:∀ c ∈ caps,Ax.bB c = true) (hP:∀ (y:AxS.Step) (v:V),y ∈ l -> KN v y -> aB E k ([v] ++ caps) [] fun u Y=>Y = [] /\ u = .bool (P y)):aB E 200 [a,.fn k [] caps] Z K = K (.bool (l.any P)) Z:=HK h ha hsm hc hP (qJ hc Z)
theorem J_ (h:bK E) {a:V} {l:List AxS.Step} {k:Nat} {caps:List V} {P:AxS.Step -> Bool} (ha:LS eT 75 Z a l) (hsm:l.length <= 4294967296) (hc:∀ c ∈ caps,Ax.bB c = true) (hP:∀ (y:AxS.Step) (v:V),y ∈ l -> KN v y -> aB E k ([v] ++ caps) [] fun u Y=>Y = [] /\ u = .bool (P y)):KC E 200 [a,.fn k [] caps] Z (.bool (l.any P)) Z:=c_ fun _=>KI h ha hsm hc hP
theorem Wq (h:bK E) {a:V} {l:List aX} {s:aX} (ha:LS aK 9 Z a l) (hsm:l.length <= 4294967296):aB E 131 [a,.str s] Z K = K (.int .i64 (idx (bJ (fun x=>decide (x = s)) l))) Z:=by
 refine aB.of ?_
 obtain ⟨a',ea,ia⟩:=jH h ha
 rw [aH h.U6 h.SJ h.VN h.Uf (args':=[a',.str s]) (by simp only [aU,ea,cH]),aZ (by kernel_rfl)]
 have la:=bH h ia
 simp only [aA,Tryz.f131,KP,↓reduceIte,Nat.reduceLT,Nat.reduceAdd,reduceCtorEq,Int.reduceNeg,la]
 refine aP (fun i F Y=>Y = [] /\ F.get 0 = a' /\ F.get 1 = .str s /\ F.get 8 = .int .i64 (i:Int) /\ F.get 7 = .int .i64 (l.length:Int) /\ ∀ j y,j < i -> l[j]? = some y -> y ≠ s) l.length ?_ ?_ l.length 0 _ _ (by omega) ⟨rfl,(gC (by simp +decide only [GS,and_self]) (fun j y hj=>by omega))⟩
 ·rintro i F Y hi ⟨rfl,g0,g1,g8,g7,hp⟩ next
  obtain ⟨x,hx⟩:∃ x,l[i]? = some x:=⟨_,List.getElem?_eq_getElem hi⟩
  obtain ⟨g,e1⟩:=fM h ia hx
  have hlt:=d_ hi
  have hadd:=bU i (by omega)
  rw [aF]
  by_cases hxs:x = s
  ·have hs:=gP hxs.symm
   simp only [KP,Ax.loadAt,↓reduceIte,Nat.reduceEqDiff,Nat.reduceLT,reduceCtorEq,Int.reduceNeg,h.cK,g0,g1,g7,g8,hlt,e1,hs]
   rw [iH (i:=i) (x:=x) (fun j y hj hy=>decide_eq_false (hp j y hj hy)) hx (decide_eq_true hxs)]
   exact rfl
  ·have hs:=fZ (Ne.symm hxs)
   simp only [KP,Ax.loadAt,↓reduceIte,Nat.reduceEqDiff,Nat.reduceLT,reduceCtorEq,Int.reduceNeg,h.cK,g0,g1,g7,g8,hlt,e1,hs,hadd]
   refine next _ _ ⟨rfl,(gC (by simp +decide only [GS,g0,g1,g7,and_self]) (fun j y hj hy=>?_))⟩
   rcases Nat.lt_or_ge j i with g | g
   ·exact hp j y g hy
   ·obtain rfl:j = i:=by omega
    rw [hx] at hy; cases hy; exact hxs
 ·rintro F Y ⟨rfl,g0,g1,g8,g7,hp⟩
  have hlt:=eA (Nat.lt_irrefl l.length)
  rw [aF]
  simp only [KP,↓reduceIte,Nat.reduceLT,Int.reduceNeg,g7,g8,hlt]
  rw [iI fun x hx=>by
   obtain ⟨j,hj,e⟩:=List.getElem_of_mem hx
   exact decide_eq_false (hp j x hj (by rw [List.getElem?_eq_getElem hj,e]))]
  exact rfl
theorem RN (h:bK E) {a:V} {l:List aX} {s:aX} (ha:LS aK 9 Z a l) (hsm:l.length <= 4294967296):aB E 92 [a,.str s] Z K = K (.bool (decide (s ∈ l))) Z:=by
 refine aB.of ?_
 obtain ⟨a',ea,ia⟩:=jH h ha
 rw [aH h.hs92 h.sp92 h.fn92 h.md92 (args':=[a',.str s]) (by simp only [aU,ea,cH]),aZ (by kernel_rfl)]
 have kk:=c_ (fun K=>Wq (Z:=[]) (s:=s) (K:=K) h (ia.ls [] 9) hsm)
 simp only [aA,Tryz.f92,KP,↓reduceIte,Nat.reduceEqDiff,Nat.reduceLT,Nat.reduceAdd,reduceCtorEq,kk,kH,b_,any_eq]
 exact rfl
theorem BC (h:bK E) {a:V} {l:List aX} {s:aX} (ha:LS aK 9 Z a l) (hsm:l.length <= 4294967296):KC E 92 [a,.str s] Z (.bool (decide (s ∈ l))) Z:=c_ fun _=>RN h ha hsm
end
end
section
section
variable {E:Env} {Z:Sg} {K:V -> Sg -> Prop}
theorem RD (h:bK E) {c:Nat}:aB E 253 [.int .i32 (c:Int)] Z K = K (.bool (sign c)) Z:=by
 refine aB.of ?_
 rw [aH h.UF h.Se h.Vp h.TS (args':=[.int .i32 (c:Int)]) (by simp only [aU,show a_ Z E.ty true (.int .i32 (c:Int)) = some (.int .i32 (c:Int)) from rfl]),aZ (by kernel_rfl)]
 have hcut:(0 <= c /\ c <= 44) \/ (45 <= c /\ c <= 45) \/ (46 <= c /\ c <= 46) \/ (47 <= c /\ c <= 47) \/ (48 <= c /\ c <= 57) \/ (58 <= c /\ c <= 64) \/ (65 <= c /\ c <= 90) \/ (91 <= c /\ c <= 94) \/ (95 <= c /\ c <= 95) \/ (96 <= c /\ c <= 96) \/ (97 <= c /\ c <= 122) \/ (123 <= c /\ 123 <= c):=by omega
 rcases hcut with ⟨h1,h2⟩ | ⟨h1,h2⟩ | ⟨h1,h2⟩ | ⟨h1,h2⟩ | ⟨h1,h2⟩ | ⟨h1,h2⟩ | ⟨h1,h2⟩ | ⟨h1,h2⟩ | ⟨h1,h2⟩ | ⟨h1,h2⟩ | ⟨h1,h2⟩ | ⟨h1,h2⟩
 ·rw [show sign c = false from by unfold sign; simp; omega]
  have q0:decide ((97:Int) <= (c:Int)) = false:=decide_eq_false (by omega)
  have q2:decide ((65:Int) <= (c:Int)) = false:=decide_eq_false (by omega)
  have q4:decide ((48:Int) <= (c:Int)) = false:=decide_eq_false (by omega)
  have q6:decide ((c:Int) = 46) = false:=decide_eq_false (by omega)
  have q7:decide ((c:Int) = 95) = false:=decide_eq_false (by omega)
  have q8:decide ((c:Int) = 45) = false:=decide_eq_false (by omega)
  simp only [aA,Tryz.f253,KP,↓reduceIte,Nat.reduceEqDiff,Nat.reduceLT,reduceCtorEq,q0,q2,q4,q6,q7,q8]
  exact rfl
 ·rw [show sign c = true from by unfold sign; simp; omega]
  have q0:decide ((97:Int) <= (c:Int)) = false:=decide_eq_false (by omega)
  have q2:decide ((65:Int) <= (c:Int)) = false:=decide_eq_false (by omega)
  have q4:decide ((48:Int) <= (c:Int)) = false:=decide_eq_false (by omega)
  have q6:decide ((c:Int) = 46) = false:=decide_eq_false (by omega)
  have q7:decide ((c:Int) = 95) = false:=decide_eq_false (by omega)
  have q8:decide ((c:Int) = 45) = true:=decide_eq_true (by omega)
  simp only [aA,Tryz.f253,KP,↓reduceIte,Nat.reduceEqDiff,Nat.reduceLT,reduceCtorEq,q0,q2,q4,q6,q7,q8]
  exact rfl
 ·rw [show sign c = true from by unfold sign; simp; omega]
  have q0:decide ((97:Int) <= (c:Int)) = false:=decide_eq_false (by omega)
  have q2:decide ((65:Int) <= (c:Int)) = false:=decide_eq_false (by omega)
  have q4:decide ((48:Int) <= (c:Int)) = false:=decide_eq_false (by omega)
  have q6:decide ((c:Int) = 46) = true:=decide_eq_true (by omega)
  simp only [aA,Tryz.f253,KP,↓reduceIte,Nat.reduceEqDiff,Nat.reduceLT,reduceCtorEq,q0,q2,q4,q6]
  exact rfl
 ·rw [show sign c = false from by unfold sign; simp; omega]
  have q0:decide ((97:Int) <= (c:Int)) = false:=decide_eq_false (by omega)
  have q2:decide ((65:Int) <= (c:Int)) = false:=decide_eq_false (by omega)
  have q4:decide ((48:Int) <= (c:Int)) = false:=decide_eq_false (by omega)
  have q6:decide ((c:Int) = 46) = false:=decide_eq_false (by omega)
  have q7:decide ((c:Int) = 95) = false:=decide_eq_false (by omega)
  have q8:decide ((c:Int) = 45) = false:=decide_eq_false (by omega)
  simp only [aA,Tryz.f253,KP,↓reduceIte,Nat.reduceEqDiff,Nat.reduceLT,reduceCtorEq,q0,q2,q4,q6,q7,q8]
  exact rfl
 ·rw [show sign c = true from by unfold sign; simp; omega]
  have q0:decide ((97:Int) <= (c:Int)) = false:=decide_eq_false (by omega)
  have q2:decide ((65:Int) <= (c:Int)) = false:=decide_eq_false (by omega)
  have q4:decide ((48:Int) <= (c:Int)) = true:=decide_eq_true (by omega)
  have q5:decide ((c:Int) <= 57) = true:=decide_eq_true (by omega)
  simp only [aA,Tryz.f253,KP,↓reduceIte,Nat.reduceEqDiff,Nat.reduceLT,reduceCtorEq,q0,q2,q4,q5]
  exact rfl
 ·rw [show sign c = false from by unfold sign; simp; omega]
  have q0:decide ((97:Int) <= (c:Int)) = false:=decide_eq_false (by omega)
  have q2:decide ((65:Int) <= (c:Int)) = false:=decide_eq_false (by omega)
  have q4:decide ((48:Int) <= (c:Int)) = true:=decide_eq_true (by omega)
  have q5:decide ((c:Int) <= 57) = false:=decide_eq_false (by omega)
  have q6:decide ((c:Int) = 46) = false:=decide_eq_false (by omega)
  have q7:decide ((c:Int) = 95) = false:=decide_eq_false (by omega)
  have q8:decide ((c:Int) = 45) = false:=decide_eq_false (by omega)
  simp only [aA,Tryz.f253,KP,↓reduceIte,Nat.reduceEqDiff,Nat.reduceLT,reduceCtorEq,q0,q2,q4,q5,q6,q7,q8]
  exact rfl
 ·rw [show sign c = true from by unfold sign; simp; omega]
  have q0:decide ((97:Int) <= (c:Int)) = false:=decide_eq_false (by omega)
  have q2:decide ((65:Int) <= (c:Int)) = true:=decide_eq_true (by omega)
  have q3:decide ((c:Int) <= 90) = true:=decide_eq_true (by omega)
  simp only [aA,Tryz.f253,KP,↓reduceIte,Nat.reduceEqDiff,Nat.reduceLT,reduceCtorEq,q0,q2,q3]
  exact rfl
 ·rw [show sign c = false from by unfold sign; simp; omega]
  have q0:decide ((97:Int) <= (c:Int)) = false:=decide_eq_false (by omega)
  have q2:decide ((65:Int) <= (c:Int)) = true:=decide_eq_true (by omega)
  have q3:decide ((c:Int) <= 90) = false:=decide_eq_false (by omega)
  have q4:decide ((48:Int) <= (c:Int)) = true:=decide_eq_true (by omega)
  have q5:decide ((c:Int) <= 57) = false:=decide_eq_false (by omega)
  have q6:decide ((c:Int) = 46) = false:=decide_eq_false (by omega)
  have q7:decide ((c:Int) = 95) = false:=decide_eq_false (by omega)
  have q8:decide ((c:Int) = 45) = false:=decide_eq_false (by omega)
  simp only [aA,Tryz.f253,KP,↓reduceIte,Nat.reduceEqDiff,Nat.reduceLT,reduceCtorEq,q0,q2,q3,q4,q5,q6,q7,q8]
  exact rfl
 ·rw [show sign c = true from by unfold sign; simp; omega]
  have q0:decide ((97:Int) <= (c:Int)) = false:=decide_eq_false (by omega)
  have q2:decide ((65:Int) <= (c:Int)) = true:=decide_eq_true (by omega)
  have q3:decide ((c:Int) <= 90) = false:=decide_eq_false (by omega)
  have q4:decide ((48:Int) <= (c:Int)) = true:=decide_eq_true (by omega)
  have q5:decide ((c:Int) <= 57) = false:=decide_eq_false (by omega)
  have q6:decide ((c:Int) = 46) = false:=decide_eq_false (by omega)
  have q7:decide ((c:Int) = 95) = true:=decide_eq_true (by omega)
  simp only [aA,Tryz.f253,KP,↓reduceIte,Nat.reduceEqDiff,Nat.reduceLT,reduceCtorEq,q0,q2,q3,q4,q5,q6,q7]
  exact rfl
 ·rw [show sign c = false from by unfold sign; simp; omega]
  have q0:decide ((97:Int) <= (c:Int)) = false:=decide_eq_false (by omega)
  have q2:decide ((65:Int) <= (c:Int)) = true:=decide_eq_true (by omega)
  have q3:decide ((c:Int) <= 90) = false:=decide_eq_false (by omega)
  have q4:decide ((48:Int) <= (c:Int)) = true:=decide_eq_true (by omega)
  have q5:decide ((c:Int) <= 57) = false:=decide_eq_false (by omega)
  have q6:decide ((c:Int) = 46) = false:=decide_eq_false (by omega)
  have q7:decide ((c:Int) = 95) = false:=decide_eq_false (by omega)
  have q8:decide ((c:Int) = 45) = false:=decide_eq_false (by omega)
  simp only [aA,Tryz.f253,KP,↓reduceIte,Nat.reduceEqDiff,Nat.reduceLT,reduceCtorEq,q0,q2,q3,q4,q5,q6,q7,q8]
  exact rfl
 ·rw [show sign c = true from by unfold sign; simp; omega]
  have q0:decide ((97:Int) <= (c:Int)) = true:=decide_eq_true (by omega)
  have q1:decide ((c:Int) <= 122) = true:=decide_eq_true (by omega)
  simp only [aA,Tryz.f253,KP,↓reduceIte,Nat.reduceEqDiff,Nat.reduceLT,reduceCtorEq,q0,q1]
  exact rfl
 ·rw [show sign c = false from by unfold sign; simp; omega]
  have q0:decide ((97:Int) <= (c:Int)) = true:=decide_eq_true (by omega)
  have q1:decide ((c:Int) <= 122) = false:=decide_eq_false (by omega)
  have q2:decide ((65:Int) <= (c:Int)) = true:=decide_eq_true (by omega)
  have q3:decide ((c:Int) <= 90) = false:=decide_eq_false (by omega)
  have q4:decide ((48:Int) <= (c:Int)) = true:=decide_eq_true (by omega)
  have q5:decide ((c:Int) <= 57) = false:=decide_eq_false (by omega)
  have q6:decide ((c:Int) = 46) = false:=decide_eq_false (by omega)
  have q7:decide ((c:Int) = 95) = false:=decide_eq_false (by omega)
  have q8:decide ((c:Int) = 45) = false:=decide_eq_false (by omega)
  simp only [aA,Tryz.f253,KP,↓reduceIte,Nat.reduceEqDiff,Nat.reduceLT,reduceCtorEq,q0,q1,q2,q3,q4,q5,q6,q7,q8]
  exact rfl
theorem QV (h:bK E) {c:Nat}:KC E 253 [.int .i32 (c:Int)] Z (.bool (sign c)) Z:=c_ fun _=>RD h
theorem KD (h:bK E) {c:Nat}:aB E 252 [.int .i32 (c:Int)] Z K = K (.bool (!sign c)) Z:=by
 refine aB.of ?_
 rw [aH h.UG h.Sf h.Vq h.TT (args':=[.int .i32 (c:Int)]) (by simp only [aU,show a_ Z E.ty true (.int .i32 (c:Int)) = some (.int .i32 (c:Int)) from rfl]),aZ (by kernel_rfl)]
 have ks:=fun (Y:Sg)=>QV (Z:=Y) h (c:=c)
 simp only [aA,Tryz.f252,KP,↓reduceIte,Nat.reduceLT,reduceCtorEq,ks]
 exact rfl
theorem byte_at {s:aX} {pos ch:Nat} (hc:s[pos]? = some ch) (h:ch < 256):((qH s).get! pos).toNat = ch:=by
 show ((s.map UInt8.ofNat).toArray[pos]!).toNat = ch
 have e:(s.map UInt8.ofNat).toArray[pos]? = some (UInt8.ofNat ch):=by simp [hc]
 rw [getElem!_def,e]
 simp only [UInt8.toNat_ofNat']
 omega
theorem NQ {s:aX} {pos ch:Nat} (hc:s[pos]? = some ch) (h1:¬ ch < 128) (h2:ch < 256):128 <= (Utf8.decode (qH s) pos).1:=by
 unfold Utf8.decode
 simp only [Nat.add_zero,byte_at hc h2,h1,if_false]
 repeat' split
 all_goals first
  | (simp only [Utf8.runeError]; omega)
  | (simp only [Bool.and_eq_true,beq_iff_eq,decide_eq_true_eq,ge_iff_le] at *; omega)
theorem Fi {c:Nat} (h:128 <= c):sign c = false:=by
 unfold sign; simp; omega
theorem HC (h:bK E):rU E 4 false (.bool true) (.bool true) = some true:=by unfold rU; rw [h.Gw]; rfl
theorem Rj (h:bK E):rU E 4 false (.bool false) (.bool true) = some false:=by unfold rU; rw [h.Gw]; rfl
theorem b_xF (h:bK E) {s:aX} {k:Nat} {P:Nat -> Bool} (hsm:s.length <= 4294967296) (hP:∀ (Z:Sg) (r:Nat),aB E k [.int .i32 (r:Int)] Z fun u Y=>Y = Z /\ u = .bool (P r)) (hhi:∀ r,128 <= r -> P r = true):aB E 308 [.str s,.fn k [] [],.bool true] Z fun v Y=>Y = Z /\ ∃ n:Int,v = .int .i64 n /\ decide (0 <= n) = s.any P:=by
 have ef:=qJ (E:=E) (k:=k) (caps:=[]) (fun _ h=>by cases h) Z
 rw [aH h.UD h.Sb h.Vn h.TQ (args':=[.str s,.fn k [] [],.bool true]) (by simp only [aU,cH,ef,show a_ Z E.ty true (.bool true) = some (.bool true) from rfl]),aZ (by kernel_rfl)]
 simp only [aA,Tryz.f308,KP,↓reduceIte,Nat.reduceLT,Nat.reduceAdd,reduceCtorEq,Int.reduceNeg,h.cK,nX]
 refine aP (fun i F Y=>Y = [.Gy s i] /\ F.get 1 = .fn k [] [] /\ F.get 2 = .bool true /\ F.get 10 = .ref 0 0 /\ ∀ j y,j < i -> s[j]? = some y -> P y = false) s.length ?_ ?_ s.length 0 _ _ (by omega) ⟨rfl,(jG (by simp +decide only [GS,and_self]) (fun j y hj=>by omega))⟩
 ·rintro i F Y hi ⟨rfl,g1,g2,g10,hp⟩ next
  obtain ⟨x,hx⟩:∃ x,s[i]? = some x:=⟨_,List.getElem?_eq_getElem hi⟩
  rw [aF]
  by_cases h128:x < 128
  ·simp only [KP,↓reduceIte,Nat.reduceEqDiff,Nat.reduceLT,Int.reduceNeg,g1,g10,uI,hx,h128]
   refine aO (hP _ x) ?_
   rintro u Y ⟨rfl,rfl⟩
   by_cases hxs:P x = true
   ·simp only [KP,↓reduceIte,Nat.reduceEqDiff,Nat.reduceLT,Int.reduceNeg,g2,hxs,HC h]
    exact ⟨_,rfl,by rw [show s.any P = true from List.any_eq_true.2 ⟨x,List.mem_of_getElem? hx,hxs⟩]; exact decide_eq_true (by omega)⟩
   ·have hxs:P x = false:=by simpa using hxs
    simp only [KP,↓reduceIte,Nat.reduceEqDiff,Nat.reduceLT,Int.reduceNeg,g2,hxs,Rj h]
    refine next _ _ ⟨rfl,(jG (by simp +decide only [GS,g1,g2,g10,and_self]) (fun j y hj hy=>?_))⟩
    rcases Nat.lt_or_ge j i with g | g
    ·exact hp j y g hy
    ·obtain rfl:j = i:=by omega
     rw [hx] at hy; cases hy; exact hxs
  have hany:s.any P = true:=List.any_eq_true.2 ⟨x,List.mem_of_getElem? hx,hhi x (by omega)⟩
  by_cases h256:x < 256
  ·simp only [KP,↓reduceIte,Nat.reduceEqDiff,Nat.reduceLT,Int.reduceNeg,g1,g10,uI,hx,h128,h256]
   refine aO (hP _ (Utf8.decode (qH s) i).1) ?_
   rintro u Y ⟨rfl,rfl⟩
   have hxs:=hhi _ (NQ hx h128 h256)
   simp only [KP,↓reduceIte,Nat.reduceEqDiff,Nat.reduceLT,Int.reduceNeg,g2,hxs,HC h]
   exact ⟨_,rfl,by rw [hany]; exact decide_eq_true (by omega)⟩
  ·simp only [KP,↓reduceIte,Nat.reduceEqDiff,Nat.reduceLT,Int.reduceNeg,g1,g10,uI,hx,h128,h256]
   refine aO (hP _ 65533) ?_
   rintro u Y ⟨rfl,rfl⟩
   have hxs:=hhi _ (show 128 <= 65533 by omega)
   simp only [KP,↓reduceIte,Nat.reduceEqDiff,Nat.reduceLT,Int.reduceNeg,g2,hxs,HC h]
   exact ⟨_,rfl,by rw [hany]; exact decide_eq_true (by omega)⟩
 ·rintro F Y ⟨rfl,g1,g2,g10,hp⟩
  have hx:s[s.length]? = none:=List.getElem?_eq_none (Nat.le_refl _)
  rw [aF]
  simp only [KP,↓reduceIte,Nat.reduceLT,Int.reduceNeg,g10,uI,hx]
  refine ⟨-1,rfl,?_⟩
  rw [show s.any P = false from List.any_eq_false.2 fun x hx=>by
   obtain ⟨j,hj,e⟩:=List.getElem_of_mem hx
   rw [hp j x hj (by rw [List.getElem?_eq_getElem hj,e])]; simp]
  rfl
theorem RG (h:bK E) {s:aX} {k:Nat} {P:Nat -> Bool} (hsm:s.length <= 4294967296) (hP:∀ (Z:Sg) (r:Nat),aB E k [.int .i32 (r:Int)] Z fun u Y=>Y = Z /\ u = .bool (P r)) (hhi:∀ r,128 <= r -> P r = true):aB E 287 [.str s,.fn k [] []] Z fun v Y=>Y = Z /\ ∃ n:Int,v = .int .i64 n /\ decide (0 <= n) = s.any P:=by
 have ef:=qJ (E:=E) (k:=k) (caps:=[]) (fun _ h=>by cases h) Z
 rw [aH h.UE h.Sd h.Vo h.TR (args':=[.str s,.fn k [] []]) (by simp only [aU,cH,ef]),aZ (by kernel_rfl)]
 simp only [aA,Tryz.f287,KP,↓reduceIte,Nat.reduceEqDiff,Nat.reduceLT,Nat.reduceAdd,reduceCtorEq]
 refine aO (b_xF h hsm hP hhi) ?_
 rintro v Y ⟨rfl,n,rfl,hn⟩
 simp only [KP,↓reduceIte,Nat.reduceLT]
 exact ⟨n,rfl,hn⟩
theorem Pu (h:bK E) {s:aX} {k:Nat} {P:Nat -> Bool} (hsm:s.length <= 4294967296) (hP:∀ (Z:Sg) (r:Nat),aB E k [.int .i32 (r:Int)] Z fun u Y=>Y = Z /\ u = .bool (P r)) (hhi:∀ r,128 <= r -> P r = true):aB E 251 [.str s,.fn k [] []] Z K = K (.bool (s.any P)) Z:=by
 refine aB.of ?_
 have ef:=qJ (E:=E) (k:=k) (caps:=[]) (fun _ h=>by cases h) Z
 rw [aH h.UH h.Sh h.Vr h.TU (args':=[.str s,.fn k [] []]) (by simp only [aU,cH,ef]),aZ (by kernel_rfl)]
 simp only [aA,Tryz.f251,KP,↓reduceIte,Nat.reduceEqDiff,Nat.reduceLT,Nat.reduceAdd,reduceCtorEq]
 refine aO (RG h hsm hP hhi) ?_
 rintro v Y ⟨rfl,n,rfl,hn⟩
 simp only [KP,↓reduceIte,Nat.reduceLT,hn]
 exact rfl
theorem Wm (h:bK E) {p:aX} (hsm:p.length <= 4294967296):aB E 224 [.str p] Z K = K (.bool (!qN p)) Z:=by
 refine aB.of ?_
 rw [aH h.UJ h.Sj h.Vt h.TW (args':=[.str p]) (by simp only [aU,cH]),aZ (by kernel_rfl)]
 by_cases h1:p = []
 ·have q1:=gP h1
  simp only [aA,Tryz.f224,KP,↓reduceIte,Nat.reduceEqDiff,Nat.reduceLT,reduceCtorEq,kK,q1]
  rw [xW (.inl h1)]
  exact rfl
 have q1:=fZ h1
 by_cases h2:p = [46]
 ·have q2:=gP h2
  simp only [aA,Tryz.f224,KP,↓reduceIte,Nat.reduceEqDiff,Nat.reduceLT,reduceCtorEq,kK,Kn,q1,q2]
  rw [xW (.inr (.inl h2))]
  exact rfl
 have q2:=fZ h2
 by_cases h3:p = [46,46]
 ·have q3:=gP h3
  simp only [aA,Tryz.f224,KP,↓reduceIte,Nat.reduceEqDiff,Nat.reduceLT,reduceCtorEq,kK,Kn,Pd,q1,q2,q3]
  rw [xW (.inr (.inr h3))]
  exact rfl
 have q3:=fZ h3
 have kc:=fun (Y:Sg)=>c_ (fun K=>Pu (Z:=Y) (K:=K) (s:=p) (k:=252) (P:=fun c=>!sign c) h hsm (fun Y r=>by rw [KD h]; exact ⟨rfl,rfl⟩) (fun r hr=>by rw [Fi hr]; rfl))
 simp only [aA,Tryz.f224,KP,↓reduceIte,Nat.reduceEqDiff,Nat.reduceLT,reduceCtorEq,kK,Kn,Pd,q1,q2,q3,kc]
 rw [G8 h1 h2 h3,List.not_all_eq_any_not]
 exact rfl
theorem yF:∀ l:List aX,eY aK.P (l.map fun p=>[V.str p]) l
 | []=>.nil
 | _ :: l=>.cons rfl (yF l)
theorem M3 (h:bK E) {s:aX} (hsm:s.length <= 1000000000):aB E 223 [.str s] Z fun v Y=>Y = Z /\ jS aK v (cE 47 s):=by
 rw [aH h.UK h.Sk h.Vu h.TX (args':=[.str s]) (by simp only [aU,cH]),aZ (by kernel_rfl)]
 have hs:kN [.str s,.str [47]] = some (.bP false ((cE 47 s).map fun p=>[V.str p]) true):=by
  unfold kN
  exact if_pos (by omega)
 have iv:jS aK (.bP false ((cE 47 s).map fun p=>[V.str p]) true) (cE 47 s):=.inr ⟨_,_,rfl,yF _⟩
 have h5:∀ Z,dI Z E.ty false (.bP false ((cE 47 s).map fun p=>[V.str p]) true) = some (.bP false ((cE 47 s).map fun p=>[V.str p]) true):=fun Z=>(show dI Z E.ty false (.bP false ((cE 47 s).map fun p=>[V.str p]) true) = a_ Z E.ty false (.bP false ((cE 47 s).map fun p=>[V.str p]) true) from rfl).trans (eO iv.is.bB iv.tag)
 have kc:=fun (Y:Sg)=>c_ (fun K=>rW (Z:=Y) (K:=K) (args:=[.str s,.str [47]]) (args':=[.str s,.str [47]]) h.UU h.Sw (by simp only [aU,cH]) hs (h5 []))
 have hb:Ax.bytes ⟨#[47]⟩ = [47]:=rfl
 simp only [aA,Tryz.f223,KP,↓reduceIte,Nat.reduceLT,reduceCtorEq,kc,h5,hb]
 exact iv
theorem D3 {s:aX} (h:¬ s.length <= 40):bR s = false:=by unfold bR; rw [decide_eq_false h]; simp
theorem oP {s:aX} (h:nS s = true):bR s = false:=by unfold bR; rw [h]; rfl
theorem Wo (h:bK E) {s:aX}:aB E 186 [.str s] Z K = K (.bool (bR s)) Z:=by
 refine aB.of ?_
 rw [aH h.UR h.St h.VB h.T4 (args':=[.str s]) (by simp only [aU,cH]),aZ (by kernel_rfl)]
 by_cases w0:s = [114,117,108,101]
 ·have e0:=gP w0
  simp only [aA,Tryz.f186,KP,↓reduceIte,Nat.reduceLT,reduceCtorEq,B0,e0]
  rw [oP (by rw [w0]; rfl)]
  exact rfl
 have e0:=fZ w0
 by_cases w1:s = [105,110]
 ·have e1:=gP w1
  simp only [aA,Tryz.f186,KP,↓reduceIte,Nat.reduceEqDiff,Nat.reduceLT,reduceCtorEq,B0,El,e0,e1]
  rw [oP (by rw [w1]; rfl)]
  exact rfl
 have e1:=fZ w1
 by_cases w2:s = [111,117,116]
 ·have e2:=gP w2
  simp only [aA,Tryz.f186,KP,↓reduceIte,Nat.reduceEqDiff,Nat.reduceLT,reduceCtorEq,B0,El,HE,e0,e1,e2]
  rw [oP (by rw [w2]; rfl)]
  exact rfl
 have e2:=fZ w2
 by_cases w3:s = [97,102,116,101,114]
 ·have e3:=gP w3
  simp only [aA,Tryz.f186,KP,↓reduceIte,Nat.reduceEqDiff,Nat.reduceLT,reduceCtorEq,B0,El,HE,MM,e0,e1,e2,e3]
  rw [oP (by rw [w3]; rfl)]
  exact rfl
 have e3:=fZ w3
 by_cases h40:s.length <= 40
 case neg=>
  have q1:decide ((s.length:Int) <= 40) = false:=decide_eq_false (by omega)
  rw [D3 h40]
  simp only [aA,Tryz.f186,KP,↓reduceIte,Nat.reduceEqDiff,Nat.reduceLT,reduceCtorEq,fE h,B0,El,HE,MM,e0,e1,e2,e3,q1]
  exact rfl
 have q1:decide ((s.length:Int) <= 40) = true:=decide_eq_true (by omega)
 have hr:nS s = false:=by unfold nS; rw [decide_eq_false w0,decide_eq_false w1,decide_eq_false w2,decide_eq_false w3]; rfl
 rw [L8 hr h40]
 simp only [aA,Tryz.f186,KP,↓reduceIte,Nat.reduceEqDiff,Nat.reduceLT,reduceCtorEq,fE h,B0,El,HE,MM,e0,e1,e2,e3,q1]
 refine aO (M3 h (by omega)) ?_
 rintro v σ' ⟨rfl,hv⟩
 have hPl:=qI 47 s
 have hPp:=sE (s:=s) rfl
 generalize cE 47 s = P at *
 have kc:=fun (Y:Sg)=>Ec (Z:=Y) (k:=224) (caps:=[]) (P:=fun p=>!qN p) h (hv.is.ls Y 9) (by omega) (fun _ h=>by cases h) (fun y v hy hv=>by
  subst hv
  have:=hPp y hy
  show aB E 224 [.str y] [] _
  rw [Wm h (by omega)]; exact ⟨rfl,rfl⟩)
 simp only [KP,↓reduceIte,Nat.reduceEqDiff,Nat.reduceLT,kc]
 rw [<- List.not_all_eq_any_not,Bool.not_not]
 exact rfl
theorem UB (h:bK E) {s:aX}:KC E 186 [.str s] Z (.bool (bR s)) Z:=c_ fun _=>Wo h
end
end
section
section
variable {E:Env} {Z:Sg} {K:V -> Sg -> Prop}
theorem M0 (h:bK E) {p:Int}:aB E 169 [.int .i64 p] Z K = K (.fJ [.int .i64 ((counts p).1:Nat),.int .i64 ((counts p).2.1:Nat),.int .i64 ((counts p).2.2:Nat)]) Z:=by
 refine aB.of ?_
 rw [aH h.UX h.Sz h.VF h.T8 (args':=[.int .i64 p]) (by simp only [aU,show a_ Z E.ty true (.int .i64 p) = some (.int .i64 p) from rfl]),aZ (by kernel_rfl)]
 by_cases p5:p = 5
 ·have q5:decide (p = 5) = true:=decide_eq_true p5
  simp only [aA,Tryz.f169,KP,↓reduceIte,Nat.reduceEqDiff,Nat.reduceLT,reduceCtorEq,q5]
  rw [p5]
  exact rfl
 have q5:decide (p = 5) = false:=decide_eq_false p5
 by_cases p6:p = 6
 ·have q6:decide (p = 6) = true:=decide_eq_true p6
  simp only [aA,Tryz.f169,KP,↓reduceIte,Nat.reduceEqDiff,Nat.reduceLT,reduceCtorEq,q5,q6]
  rw [p6]
  exact rfl
 have q6:decide (p = 6) = false:=decide_eq_false p6
 by_cases p7:p = 7
 ·have q7:decide (p = 7) = true:=decide_eq_true p7
  simp only [aA,Tryz.f169,KP,↓reduceIte,Nat.reduceEqDiff,Nat.reduceLT,reduceCtorEq,q5,q6,q7]
  rw [p7]
  exact rfl
 have q7:decide (p = 7) = false:=decide_eq_false p7
 by_cases p8:p = 8
 ·have q8:decide (p = 8) = true:=decide_eq_true p8
  simp only [aA,Tryz.f169,KP,↓reduceIte,Nat.reduceEqDiff,Nat.reduceLT,reduceCtorEq,q5,q6,q7,q8]
  rw [p8]
  exact rfl
 have q8:decide (p = 8) = false:=decide_eq_false p8
 have e:counts p = (1,1,0):=by unfold counts; rw [if_neg p5,if_neg p6,if_neg p7,if_neg p8]
 rw [e]
 simp only [aA,Tryz.f169,KP,↓reduceIte,Nat.reduceEqDiff,Nat.reduceLT,reduceCtorEq,q5,q6,q7,q8]
 exact rfl
theorem Ms (h:bK E) {p:Int}:KC E 169 [.int .i64 p] Z (.fJ [.int .i64 ((counts p).1:Nat),.int .i64 ((counts p).2.1:Nat),.int .i64 ((counts p).2.2:Nat)]) Z:=c_ fun _=>M0 h
theorem KE (h:bK E) {s:aX}:aB E 170 [.str s] Z K = K (.bool (decide (100 < s.length))) Z:=by
 refine aB.of ?_
 rw [aH h.UW h.Sy h.VE h.T7 (args':=[.str s]) (by simp only [aU,cH]),aZ (by kernel_rfl)]
 simp only [aA,Tryz.f170,KP,↓reduceIte,Nat.reduceLT,reduceCtorEq,fE h]
 rw [show decide ((100:Int) < (s.length:Int)) = decide (100 < s.length) from by rw [decide_eq_decide]; omega]
 exact rfl
theorem Fs {x:AxS.Step}:bZ x = true ↔ ((1 <= x.op /\ x.op <= 9) /\ ((counts x.op).1 <= x.args.length /\ x.args.length <= (counts x.op).2.1)) /\ x.lits.length = (counts x.op).2.2 /\ (x.lits.any fun l=>decide (100 < l.length)) = false /\ (x.op = 8 -> x.lits.head? ≠ some []) /\ (0 <= x.n /\ x.n <= 2000) /\ (x.op = 9 \/ x.n = 0):=by
 have e:x.lits.all (fun l=>decide (l.length <= 100)) = !(x.lits.any fun l=>decide (100 < l.length)):=by
  rw [List.not_any_eq_all_not]
  congr 1
  funext l
  rw [<- decide_not,decide_eq_decide]
  omega
 unfold bZ
 rw [e]
 simp only [Bool.and_eq_true,decide_eq_true_eq,and_assoc,Bool.not_eq_true']
theorem pQ {x:AxS.Step} (h:¬ (bZ x = true)):bZ x = false:=by simpa using h
theorem KA (h:bK E) {v:V} {x:AxS.Step} (hv:KN v x) (hsm:x.lits.length <= 4294967296):aB E 125 [v] Z K = K (.bool (bZ x)) Z:=by
 refine aB.of ?_
 have ev:=hv.snap (E:=E) Z
 obtain ⟨a,b,rfl,ia,ib⟩:=hv
 have hoka:a.aT = true:=aI ia.bB
 have hokb:b.aT = true:=aI ib.bB
 rw [aH h.U7 h.SK h.VO h.Ug (args':=[.agg [.str x.out,.int .i64 x.op,a,b,.int .i64 x.n]]) (by simp only [aU,ev]),aZ (by kernel_rfl)]
 have la:=bH h ia
 have lb:=bH h ib
 have hm:=Fs (x:=x)
 have kc:=fun (Y:Sg)=>Ms (Z:=Y) h (p:=x.op)
 have kl:=fun (Y:Sg)=>Ec (Z:=Y) (k:=170) (caps:=[]) (P:=fun l=>decide (100 < l.length)) h (ib.ls Y 9) hsm (fun _ h=>by cases h) (fun y v hy hv=>by
  subst hv
  show aB E 170 [.str y] [] _
  rw [KE h]; exact ⟨rfl,rfl⟩)
 have h8:x.op = 8 -> (counts x.op).2.2 = 2:=fun e=>by rw [e]; rfl
 generalize (counts x.op).1 = A at *
 generalize (counts x.op).2.1 = B at *
 generalize (counts x.op).2.2 = C at *
 by_cases p1:1 <= x.op
 case neg=>
  have q1:decide (x.op < 1) = true:=decide_eq_true (by omega)
  rw [pQ (mt hm.1 fun hh=>by omega)]
  simp only [aA,Tryz.f125,KP,Ax.loadAt,↓reduceIte,Nat.reduceEqDiff,Nat.reduceLT,Nat.reduceAdd,reduceCtorEq,h.pK,h.cO,kc,hoka,hokb,q1]
  exact rfl
 have q1:decide (x.op < 1) = false:=decide_eq_false (by omega)
 by_cases p2:x.op <= 9
 case neg=>
  have q2:decide ((9:Int) < x.op) = true:=decide_eq_true (by omega)
  rw [pQ (mt hm.1 fun hh=>by omega)]
  simp only [aA,Tryz.f125,KP,Ax.loadAt,↓reduceIte,Nat.reduceEqDiff,Nat.reduceLT,Nat.reduceAdd,reduceCtorEq,h.pK,h.cO,kc,hoka,hokb,q1,q2]
  exact rfl
 have q2:decide ((9:Int) < x.op) = false:=decide_eq_false (by omega)
 by_cases p3:A <= x.args.length
 case neg=>
  have q3:decide ((x.args.length:Int) < (A:Int)) = true:=decide_eq_true (by omega)
  rw [pQ (mt hm.1 fun hh=>by omega)]
  simp only [aA,Tryz.f125,KP,Ax.loadAt,↓reduceIte,Nat.reduceEqDiff,Nat.reduceLT,Nat.reduceAdd,reduceCtorEq,h.pK,h.aR,h.cO,kc,la,hoka,hokb,q1,q2,q3]
  exact rfl
 have q3:decide ((x.args.length:Int) < (A:Int)) = false:=decide_eq_false (by omega)
 by_cases p4:x.args.length <= B
 case neg=>
  have q4:decide ((B:Int) < (x.args.length:Int)) = true:=decide_eq_true (by omega)
  rw [pQ (mt hm.1 fun hh=>by omega)]
  simp only [aA,Tryz.f125,KP,Ax.loadAt,↓reduceIte,Nat.reduceEqDiff,Nat.reduceLT,Nat.reduceAdd,reduceCtorEq,h.pK,h.aR,h.cO,kc,la,hoka,hokb,q1,q2,q3,q4]
  exact rfl
 have q4:decide ((B:Int) < (x.args.length:Int)) = false:=decide_eq_false (by omega)
 by_cases p5:x.lits.length = C
 case neg=>
  have q5:decide ((x.lits.length:Int) = (C:Int)) = false:=decide_eq_false (by omega)
  rw [pQ (mt hm.1 fun hh=>by omega)]
  simp only [aA,Tryz.f125,KP,Ax.loadAt,↓reduceIte,Nat.reduceEqDiff,Nat.reduceLT,Nat.reduceAdd,reduceCtorEq,h.pK,h.aR,h.cO,kc,la,lb,hoka,hokb,q1,q2,q3,q4,q5]
  exact rfl
 have q5:decide ((x.lits.length:Int) = (C:Int)) = true:=decide_eq_true (by omega)
 by_cases p6:(x.lits.any fun l=>decide (100 < l.length)) = true
 ·rw [pQ (mt hm.1 fun hh=>by rw [p6] at hh; simp at hh)]
  simp only [aA,Tryz.f125,KP,Ax.loadAt,↓reduceIte,Nat.reduceEqDiff,Nat.reduceLT,Nat.reduceAdd,reduceCtorEq,h.pK,h.aR,h.cO,kc,kl,la,lb,hoka,hokb,q1,q2,q3,q4,q5,p6]
  exact rfl
 have q6:(x.lits.any fun l=>decide (100 < l.length)) = false:=by simpa using p6
 by_cases p8:x.op = 8
 ·have q8:decide (x.op = 8) = true:=decide_eq_true p8
  have hC:=h8 p8
  obtain ⟨y,r,hyr⟩:=List.exists_cons_of_ne_nil (show x.lits ≠ [] from fun e=>by rw [e] at p5; simp at p5; omega)
  obtain ⟨g,e1⟩:=fM h ib (i:=0) (x:=y) (by rw [hyr]; rfl)
  have e1:indexAddr E 28 b (.int .i64 0) = some (.cT g [.str y]):=e1
  by_cases hy:y = []
  ·have e2:=gP hy
   rw [pQ (mt hm.1 fun hh=>hh.2.2.2.1 p8 (by rw [hyr,hy]; rfl))]
   simp only [aA,Tryz.f125,KP,Ax.loadAt,↓reduceIte,Nat.reduceEqDiff,Nat.reduceLT,Nat.reduceAdd,reduceCtorEq,h.pK,h.cK,h.aR,h.cO,kK,kc,kl,la,lb,hoka,hokb,q1,q2,q3,q4,q5,q6,q8,e1,e2]
   exact rfl
  have e2:=fZ hy
  have hh8:x.op = 8 -> x.lits.head? ≠ some []:=fun _=>by rw [hyr]; simpa using hy
  by_cases p9:0 <= x.n
  case neg=>
   have q9:decide (x.n < 0) = true:=decide_eq_true (by omega)
   rw [pQ (mt hm.1 fun hh=>by omega)]
   simp only [aA,Tryz.f125,KP,Ax.loadAt,↓reduceIte,Nat.reduceEqDiff,Nat.reduceLT,Nat.reduceAdd,reduceCtorEq,h.pK,h.cK,h.aR,h.cO,kK,kc,kl,la,lb,hoka,hokb,q1,q2,q3,q4,q5,q6,q8,e1,e2,q9]
   exact rfl
  have q9:decide (x.n < 0) = false:=decide_eq_false (by omega)
  by_cases p10:x.n <= 2000
  case neg=>
   have Ez:decide ((2000:Int) < x.n) = true:=decide_eq_true (by omega)
   rw [pQ (mt hm.1 fun hh=>by omega)]
   simp only [aA,Tryz.f125,KP,Ax.loadAt,↓reduceIte,Nat.reduceEqDiff,Nat.reduceLT,Nat.reduceAdd,reduceCtorEq,h.pK,h.cK,h.aR,h.cO,kK,kc,kl,la,lb,hoka,hokb,q1,q2,q3,q4,q5,q6,q8,e1,e2,q9,Ez]
   exact rfl
  have Ez:decide ((2000:Int) < x.n) = false:=decide_eq_false (by omega)
  by_cases p11:x.op = 9
  ·have GA:decide (x.op = 9) = true:=decide_eq_true p11
   rw [hm.2 ⟨⟨⟨p1,p2⟩,p3,p4⟩,p5,q6,hh8,⟨p9,p10⟩,.inl p11⟩]
   simp only [aA,Tryz.f125,KP,Ax.loadAt,↓reduceIte,Nat.reduceEqDiff,Nat.reduceLT,Nat.reduceAdd,reduceCtorEq,h.pK,h.cK,h.aR,h.cO,kK,kc,kl,la,lb,hoka,hokb,q1,q2,q3,q4,q5,q6,q8,e1,e2,q9,Ez,GA]
   exact rfl
  have GA:decide (x.op = 9) = false:=decide_eq_false p11
  by_cases p12:x.n = 0
  case neg=>
   have KO:decide (x.n = 0) = false:=decide_eq_false (by omega)
   rw [pQ (mt hm.1 fun hh=>by omega)]
   simp only [aA,Tryz.f125,KP,Ax.loadAt,↓reduceIte,Nat.reduceEqDiff,Nat.reduceLT,Nat.reduceAdd,reduceCtorEq,h.pK,h.cK,h.aR,h.cO,kK,kc,kl,la,lb,hoka,hokb,q1,q2,q3,q4,q5,q6,q8,e1,e2,q9,Ez,GA,KO]
   exact rfl
  have KO:decide (x.n = 0) = true:=decide_eq_true (by omega)
  rw [hm.2 ⟨⟨⟨p1,p2⟩,p3,p4⟩,p5,q6,hh8,⟨p9,p10⟩,.inr p12⟩]
  simp only [aA,Tryz.f125,KP,Ax.loadAt,↓reduceIte,Nat.reduceEqDiff,Nat.reduceLT,Nat.reduceAdd,reduceCtorEq,h.pK,h.cK,h.aR,h.cO,kK,kc,kl,la,lb,hoka,hokb,q1,q2,q3,q4,q5,q6,q8,e1,e2,q9,Ez,GA,KO]
  exact rfl
 ·have q8:decide (x.op = 8) = false:=decide_eq_false p8
  have hh8:x.op = 8 -> x.lits.head? ≠ some []:=fun e=>absurd e p8
  by_cases p9:0 <= x.n
  case neg=>
   have q9:decide (x.n < 0) = true:=decide_eq_true (by omega)
   rw [pQ (mt hm.1 fun hh=>by omega)]
   simp only [aA,Tryz.f125,KP,Ax.loadAt,↓reduceIte,Nat.reduceEqDiff,Nat.reduceLT,Nat.reduceAdd,reduceCtorEq,h.pK,h.aR,h.cO,kc,kl,la,lb,hoka,hokb,q1,q2,q3,q4,q5,q6,q8,q9]
   exact rfl
  have q9:decide (x.n < 0) = false:=decide_eq_false (by omega)
  by_cases p10:x.n <= 2000
  case neg=>
   have Ez:decide ((2000:Int) < x.n) = true:=decide_eq_true (by omega)
   rw [pQ (mt hm.1 fun hh=>by omega)]
   simp only [aA,Tryz.f125,KP,Ax.loadAt,↓reduceIte,Nat.reduceEqDiff,Nat.reduceLT,Nat.reduceAdd,reduceCtorEq,h.pK,h.aR,h.cO,kc,kl,la,lb,hoka,hokb,q1,q2,q3,q4,q5,q6,q8,q9,Ez]
   exact rfl
  have Ez:decide ((2000:Int) < x.n) = false:=decide_eq_false (by omega)
  by_cases p11:x.op = 9
  ·have GA:decide (x.op = 9) = true:=decide_eq_true p11
   rw [hm.2 ⟨⟨⟨p1,p2⟩,p3,p4⟩,p5,q6,hh8,⟨p9,p10⟩,.inl p11⟩]
   simp only [aA,Tryz.f125,KP,Ax.loadAt,↓reduceIte,Nat.reduceEqDiff,Nat.reduceLT,Nat.reduceAdd,reduceCtorEq,h.pK,h.aR,h.cO,kc,kl,la,lb,hoka,hokb,q1,q2,q3,q4,q5,q6,q8,q9,Ez,GA]
   exact rfl
  have GA:decide (x.op = 9) = false:=decide_eq_false p11
  by_cases p12:x.n = 0
  case neg=>
   have KO:decide (x.n = 0) = false:=decide_eq_false (by omega)
   rw [pQ (mt hm.1 fun hh=>by omega)]
   simp only [aA,Tryz.f125,KP,Ax.loadAt,↓reduceIte,Nat.reduceEqDiff,Nat.reduceLT,Nat.reduceAdd,reduceCtorEq,h.pK,h.aR,h.cO,kc,kl,la,lb,hoka,hokb,q1,q2,q3,q4,q5,q6,q8,q9,Ez,GA,KO]
   exact rfl
  have KO:decide (x.n = 0) = true:=decide_eq_true (by omega)
  rw [hm.2 ⟨⟨⟨p1,p2⟩,p3,p4⟩,p5,q6,hh8,⟨p9,p10⟩,.inr p12⟩]
  simp only [aA,Tryz.f125,KP,Ax.loadAt,↓reduceIte,Nat.reduceEqDiff,Nat.reduceLT,Nat.reduceAdd,reduceCtorEq,h.pK,h.aR,h.cO,kc,kl,la,lb,hoka,hokb,q1,q2,q3,q4,q5,q6,q8,q9,Ez,GA,KO]
  exact rfl
theorem J3 (h:bK E) {v:V} {x:AxS.Step} (hv:KN v x) (hsm:x.lits.length <= 4294967296):KC E 125 [v] Z (.bool (bZ x)) Z:=c_ fun _=>KA h hv hsm
end
end
section
section
variable {E:Env} {Z:Sg} {K:V -> Sg -> Prop}
theorem Du (h:bK E) {s:aX}:aB E 199 [.str s] Z K = K (.bool (!bR s)) Z:=by
 refine aB.of ?_
 rw [aH h.UQ h.Ss h.VA h.T3 (args':=[.str s]) (by simp only [aU,cH]),aZ (by kernel_rfl)]
 have kc:=fun (Y:Sg)=>UB (Z:=Y) h (s:=s)
 simp only [aA,Tryz.f199,KP,↓reduceIte,Nat.reduceLT,reduceCtorEq,kc]
 exact rfl
theorem Dd (h:bK E) {s:aX}:KC E 199 [.str s] Z (.bool (!bR s)) Z:=c_ fun _=>Du h
theorem Aw (h:bK E) {a:V} {l:List aX} (ha:LS aK 9 Z a l) (hsm:l.length <= 4294967296):KC E 67 [a,.fn 199 [] []] Z (.bool (!(l.all bR))) Z:=c_ fun _=>by rw [List.not_all_eq_any_not]; exact Jh (k:=199) (caps:=[]) (P:=fun s=>!bR s) h ha hsm (fun _ h=>by cases h) (fun y v hy hv=>by subst hv; show aB E 199 [.str y] [] _; rw [Du h]; exact ⟨rfl,rfl⟩)
def JC (s:AxS.Step):Bool:=bR s.out && s.args.all bR && bZ s
theorem Pq (h:bK E) {v:V} {x:AxS.Step} (hv:KN v x) (h1:x.args.length <= 4294967296) (h2:x.lits.length <= 4294967296):aB E 201 [v] Z K = K (.bool (!JC x)) Z:=by
 refine aB.of ?_
 have ev:=hv.snap (E:=E) Z
 obtain ⟨a,b,rfl,ia,ib⟩:=hv
 have hoka:a.aT = true:=aI ia.bB
 have hokb:b.aT = true:=aI ib.bB
 rw [aH h.UO h.Sq h.Vy h.T1 (args':=[.agg [.str x.out,.int .i64 x.op,a,b,.int .i64 x.n]]) (by simp only [aU,ev]),aZ (by kernel_rfl)]
 have k1:=fun (Y:Sg)=>Dd (Z:=Y) h (s:=x.out)
 have k2:=fun (Y:Sg)=>Aw (Z:=Y) h (ia.ls Y 9) h1
 have k3:=fun (Y:Sg)=>J3 (Z:=Y) h (v:=.agg [.str x.out,.int .i64 x.op,a,b,.int .i64 x.n]) ⟨a,b,rfl,ia,ib⟩ h2
 unfold JC
 cases e1:bR x.out with
 | false=>
  simp only [aA,Tryz.f201,KP,Ax.loadAt,↓reduceIte,Nat.reduceEqDiff,Nat.reduceLT,Nat.reduceAdd,reduceCtorEq,h.cK,h.cO,hoka,hokb,k1,e1]
  exact rfl
 | true=>
  cases e2:x.args.all bR with
  | false=>
   simp only [aA,Tryz.f201,KP,Ax.loadAt,↓reduceIte,Nat.reduceEqDiff,Nat.reduceLT,Nat.reduceAdd,reduceCtorEq,h.cK,h.aR,h.cO,hoka,hokb,k1,k2,e1,e2]
   exact rfl
  | true=>
   simp only [aA,Tryz.f201,KP,Ax.loadAt,↓reduceIte,Nat.reduceEqDiff,Nat.reduceLT,Nat.reduceAdd,reduceCtorEq,h.cK,h.aR,h.cO,hoka,hokb,k1,k2,k3,e1,e2]
   exact rfl
theorem Kc (r:aG):lB r = (bR r.name && decide (r.outs ≠ []) && r.ins.all bR && r.outs.all bR && r.after.all bR && r.steps.all JC):=rfl
theorem Pp (h:bK E) {v:V} {x:aG} (hv:GB v x) (hs:Small x):aB E 167 [v] Z K = K (.bool (lB x)) Z:=by
 refine aB.of ?_
 have ev:=hv.snap (E:=E) Z
 obtain ⟨a,b,c,d,rfl,ia,ib,ic,id⟩:=hv
 have o1:=aI ia.bB
 have o2:=aI ib.bB
 have o3:=aI ic.bB
 have o4:=aI id.bB
 have l1:=hs.ins
 have l2:=hs.outs
 have l3:=hs.after
 have l4:=hs.steps
 rw [aH h.UZ h.SC h.VH h.T_ (args':=[.agg [.str x.name,a,b,c,d]]) (by simp only [aU,ev]),aZ (by kernel_rfl)]
 have lb:=bH h ib
 have kn:=fun (Y:Sg)=>Dd (Z:=Y) h (s:=x.name)
 have k1:=fun (Y:Sg)=>Aw (Z:=Y) h (ia.ls Y 9) (by omega)
 have k2:=fun (Y:Sg)=>Aw (Z:=Y) h (ib.ls Y 9) (by omega)
 have k3:=fun (Y:Sg)=>Aw (Z:=Y) h (ic.ls Y 9) (by omega)
 have k4:=fun (Y:Sg)=>J_ (Z:=Y) (k:=201) (caps:=[]) (P:=fun s=>!JC s) h (id.ls Y 75) (by omega) (fun _ h=>by cases h) (fun y v hy hv=>by
  have hy1:=hs.args y hy
  have hy2:=hs.lits y hy
  show aB E 201 [v] [] _
  rw [Pq h hv (by omega) (by omega)]; exact ⟨rfl,rfl⟩)
 rw [Kc]
 cases e0:bR x.name with
 | false=>
  simp only [aA,Tryz.f167,KP,Ax.loadAt,↓reduceIte,Nat.reduceEqDiff,Nat.reduceLT,Nat.reduceAdd,reduceCtorEq,h.cK,h.bD,o1,o2,o3,o4,kn,e0]
  exact rfl
 | true=>
 by_cases h0:x.outs = []
 ·have q0:decide ((x.outs.length:Int) = 0) = true:=decide_eq_true (by rw [h0]; rfl)
  simp only [aA,Tryz.f167,KP,Ax.loadAt,↓reduceIte,Nat.reduceEqDiff,Nat.reduceLT,Nat.reduceAdd,reduceCtorEq,h.cK,h.aR,h.bD,o1,o2,o3,o4,kn,e0,lb,q0]
  rw [h0]
  exact rfl
 have q0:decide ((x.outs.length:Int) = 0) = false:=decide_eq_false (by have:=List.length_pos_iff.2 h0; omega)
 rw [show decide (x.outs ≠ []) = true from decide_eq_true h0]
 have hf:Ax.fill (fun j=>some (j * 1,1)) (gQ 3 [V.aC]) [(0,a),(1,b),(2,c)] = some [a,b,c]:=by
  rcases ia with ⟨rfl,-⟩ | ⟨_,_,_,rfl,-⟩ <;> rcases ib with ⟨rfl,-⟩ | ⟨_,_,_,rfl,-⟩ <;> rcases ic with ⟨rfl,-⟩ | ⟨_,_,_,rfl,-⟩ <;> rfl
 have lz:∀ Z,lenOf E Z 30 (.sl 1 0 3 none) = some 3:=fun Z=>by unfold lenOf; rw [h.Jy]
 have i0:indexAddr E 30 (.sl 1 0 3 none) (.int .i64 0) = some (.ref 1 0):=by unfold Ax.indexAddr; simp only [h.Jy,h.aR]; rfl
 have i1:indexAddr E 30 (.sl 1 0 3 none) (.int .i64 1) = some (.ref 1 1):=by unfold Ax.indexAddr; simp only [h.Jy,h.aR]; rfl
 have i2:indexAddr E 30 (.sl 1 0 3 none) (.int .i64 2) = some (.ref 1 2):=by unfold Ax.indexAddr; simp only [h.Jy,h.aR]; rfl
 have d0:decide ((0:Int) < ((3:Nat):Int)) = true:=rfl
 have d1:decide ((1:Int) < ((3:Nat):Int)) = true:=rfl
 have d2:decide ((2:Int) < ((3:Nat):Int)) = true:=rfl
 have d3:decide ((3:Int) < ((3:Nat):Int)) = false:=rfl
 have w1:wr .i64 1 = 1:=rfl
 have w2:wr .i64 2 = 2:=rfl
 have w3:wr .i64 3 = 3:=rfl
 simp only [aA,Tryz.f167,KP,Ax.loadAt,↓reduceIte,Nat.reduceEqDiff,Nat.reduceLT,Nat.reduceLeDiff,Nat.reduceAdd,Nat.reduceMul,reduceCtorEq,h.cK,h.aR,h.Jy,h.bD,o1,o2,o3,o4,kn,e0,lb,q0,hf,lz]
 rw [aF]
 cases e1:x.ins.all bR with
 | false=>
  simp only [KP,Ax.loadAt,↓reduceIte,Nat.reduceEqDiff,Nat.reduceLT,h.aR,k1,e1,i0,d0]
  exact rfl
 | true=>
 simp only [KP,Ax.loadAt,↓reduceIte,Nat.reduceEqDiff,Nat.reduceLT,Int.reduceAdd,h.aR,k1,e1,w1,i0,d0]
 rw [aF]
 cases e2:x.outs.all bR with
 | false=>
  simp only [KP,Ax.loadAt,↓reduceIte,Nat.reduceEqDiff,Nat.reduceLT,h.aR,k2,e2,i1,d1]
  exact rfl
 | true=>
 simp only [KP,Ax.loadAt,↓reduceIte,Nat.reduceEqDiff,Nat.reduceLT,Int.reduceAdd,h.aR,k2,e2,w2,i1,d1]
 rw [aF]
 cases e3:x.after.all bR with
 | false=>
  simp only [KP,Ax.loadAt,↓reduceIte,Nat.reduceEqDiff,Nat.reduceLT,h.aR,k3,e3,i2,d2]
  exact rfl
 | true=>
 simp only [KP,Ax.loadAt,↓reduceIte,Nat.reduceEqDiff,Nat.reduceLT,Int.reduceAdd,h.aR,k3,e3,w3,i2,d2]
 rw [aF]
 have e4:x.steps.all JC = !(x.steps.any fun s=>!JC s):=by rw [<- List.not_all_eq_any_not,Bool.not_not]
 rw [e4]
 simp only [KP,Ax.loadAt,↓reduceIte,Nat.reduceEqDiff,Nat.reduceLT,reduceCtorEq,h.fD,h.bD,k4,d3]
 exact rfl
theorem Oq (h:bK E) {v:V} {x:aG} (hv:GB v x) (hs:Small x):KC E 167 [v] Z (.bool (lB x)) Z:=c_ fun _=>Pp h hv hs
end
end
section
section
variable {E:Env} {Z:Sg} {K:V -> Sg -> Prop}
theorem MU (h:bK E) {a:V} {l:List aX} (ha:LS aK 9 Z a l) (hsm:l.length <= 4294967296):aB E 202 [a] Z K = K (.bool (jU l)) Z:=by
 refine aB.of ?_
 obtain ⟨a',ea,ia⟩:=jH h ha
 rw [aH h.UN h.Sn h.Vx h.T0 (args':=[a']) (by simp only [aU,ea]),aZ (by kernel_rfl)]
 have la:=bH h ia
 simp only [aA,Tryz.f202,KP,↓reduceIte,Nat.reduceLT,reduceCtorEq,la]
 refine aP (fun i F Y=>Y = [] /\ F.get 0 = a' /\ F.get 5 = a' /\ F.get 6 = .int .i64 (l.length:Int) /\ F.get 7 = .int .i64 (i:Int) /\ ∀ (j:Nat) (y:aX),j < i -> l[j]? = some y -> y ∉ l.take j) l.length ?_ ?_ l.length 0 _ _ (by omega) ⟨rfl,(gC (by simp +decide only [GS,and_self]) (fun j y hj=>by omega))⟩
 ·rintro i F Y hi ⟨rfl,g0,g5,g6,g7,hp⟩ next
  obtain ⟨x,hx⟩:∃ x,l[i]? = some x:=⟨_,List.getElem?_eq_getElem hi⟩
  obtain ⟨g,e1⟩:=fM h ia hx
  obtain ⟨w,hw,iw⟩:=uU h ia (b:=i) (by omega)
  have hlt:=d_ hi
  have hadd:=bU i (by omega)
  have kc:=fun (Y:Sg)=>BC (Z:=Y) h (s:=x) (iw.ls Y 9) (by rw [List.length_take]; omega)
  rw [aF]
  by_cases hm:x ∈ l.take i
  ·have hs:=decide_eq_true hm
   simp only [KP,Ax.loadAt,↓reduceIte,Nat.reduceEqDiff,Nat.reduceLT,reduceCtorEq,h.cK,g0,g5,g6,g7,hlt,e1,hw,kc,hs]
   rw [AP hx hm]
   exact rfl
  ·have hs:=decide_eq_false hm
   simp only [KP,Ax.loadAt,↓reduceIte,Nat.reduceEqDiff,Nat.reduceLT,reduceCtorEq,h.cK,g0,g5,g6,g7,hlt,e1,hw,kc,hs,hadd]
   refine next _ _ ⟨rfl,(gC (by simp +decide only [GS,g0,g5,g6,and_self]) (fun j y hj hy=>?_))⟩
   rcases Nat.lt_or_ge j i with g | g
   ·exact hp j y g hy
   ·obtain rfl:j = i:=by omega
    rw [hx] at hy; cases hy; exact hm
 ·rintro F Y ⟨rfl,g0,g5,g6,g7,hp⟩
  have hlt:=eA (Nat.lt_irrefl l.length)
  rw [aF]
  simp only [KP,↓reduceIte,Nat.reduceLT,g6,g7,hlt]
  rw [xN fun j y hy=>hp j y (List.getElem?_eq_some_iff.1 hy).1 hy]
  exact rfl
theorem BB (h:bK E) {a:V} {l:List aX} (ha:LS aK 9 Z a l) (hsm:l.length <= 4294967296):KC E 202 [a] Z (.bool (jU l)) Z:=c_ fun _=>MU h ha hsm
theorem BU (h:bK E):rU E 28 true .aC .aC = some true:=by unfold rU; rw [h.aR]
theorem BS (h:bK E) {g:Bool} {rs:List (List V)} {f:Bool}:rU E 28 true (.bP g rs f) .aC = some false:=by unfold rU; rw [h.aR]
theorem oV (h:bK E) {a:V} {l:List aX} (ia:IS aK a l) (hl:l.length <= 1000):aB E 97 [a] Z fun v σ'=>bI aK 9 σ' v l /\ Kp Z σ' /\ ∀ b,aW v = some b -> Z.length <= b:=by
 rw [fG h.hs97 h.sp97 h.fn97 h.md97,aZ (by kernel_rfl)]
 rcases ia with ⟨rfl,rfl⟩ | ⟨g,rs,full,rfl,ha⟩
 ·simp only [aA,Tryz.f97,KP,↓reduceIte,Nat.reduceLT,reduceCtorEq,BU h]
  exact ⟨.inl ⟨rfl,rfl⟩,fun _ _ h=>h,fun b hb=>by cases hb⟩
 ·obtain ⟨rs',e,ha'⟩:=pY (L:=aK) (x:=.bP g rs full) (l:=l) (.inr ⟨g,rs,full,rfl,ha⟩) (Z ++ [O.cells 9 [] true])
  obtain ⟨w',τ',h1,h2,h3,h4,h5⟩:=iK (ats:=#[28,28]) (Z:=Z ++ [O.cells 9 [] true]) (w:=.sl Z.length 0 0 none) (l:=[]) (L:=aK) h.aR rfl h.cK rfl (by decide) (fL h) rfl (.inr ⟨Z.length,[],true,rfl,aQ,.nil⟩) e ha' (dU (b:=1000) (by decide) (by simp only [List.length_nil]; omega))
  rw [List.nil_append] at h2
  simp only [aA,Tryz.f97,KP,↓reduceIte,Nat.reduceEqDiff,Nat.reduceLT,Nat.reduceLeDiff,reduceCtorEq,h.cK,h.aR,BS h,h1,Ax.fill,gQ,Nat.zero_mul]
  refine ⟨h2,fun c o hc=>h3 _ _ (aL hc) fun e=>?_,fun b hb=>?_⟩
  ·cases e
   exact absurd (List.getElem?_eq_some_iff.1 hc).1 (Nat.lt_irrefl _)
  ·rcases h5 b hb with g | g
   ·cases g; exact Nat.le_refl _
   ·simp only [List.length_append,List.length_cons,List.length_nil] at g; omega
theorem EY {Z:Sg} {ty:Nat -> Option Ty} {g:Bool} {b n t m:Nat} {cs:List V} {ex:Bool} {i:Ty} (hb:Z[b]? = some (.cells t cs ex)) (hty:ty t = some i) (hlen:n * i.size <= cs.length)
  (hi:∀ c ∈ cs.take (n * i.size),Ax.bB c = true /\ cM g c = true):∃ full,bM Z ty g (m + 2) (.sl b 0 n none) = some (.bP g (rows i.size n (cs.take (n * i.size))) full):=by
 have hm:aU (fun v=>match bM Z ty g (m + 1) v with
   | some v=>if cM g v then some v else Ax.no "snap: borrowed"
   | none=>none) ((cs.drop 0).take (n * i.size)) = some (cs.take (n * i.size)):=by
  rw [List.drop_zero]
  refine gW fun x hx=>?_
  rw [kO (hi x hx).1]
  simp only [(hi x hx).2,if_true]
 refine ⟨ex && decide (0 < i.size) && (0 + n * i.size == cs.length),?_⟩
 rw [bM]
 simp only [hb,hty]
 rw [if_pos (by omega)]
 exact congrArg (fun o=>match o with
  | some l=>some (V.bP g (rows i.size n l) (ex && decide (0 < i.size) && (0 + n * i.size == cs.length)))
  | none=>none) hm
theorem JD (h:bK E) {Z:Sg} {w:V} {l:List aX} {m:Nat} (ow:bI aK 9 Z w l):∃ w',bM Z E.ty true (m + 2) w = some w' /\ IS aK w' l:=by
 rcases ow with ⟨rfl,rfl⟩ | ⟨b,rs,ex,rfl,hb,ha⟩
 ·exact ⟨.aC,rfl,.inl ⟨rfl,rfl⟩⟩
 ·have hfl:=Lay.flat ha
  have hfl:rs.flatten.length = l.length * 1:=hfl
  have htk:rs.flatten.take (l.length * 1) = rs.flatten:=List.take_of_length_le (by omega)
  obtain ⟨full,e⟩:=EY (g:=true) (n:=l.length) (m:=m) hb h.cK (show l.length * 1 <= _ by omega) (fun c hcm=>by
   rw [show rs.flatten.take (l.length * 1) = rs.flatten from htk] at hcm
   obtain ⟨r,hr,hcr⟩:=List.mem_flatten.1 hcm
   obtain ⟨x,-,hp⟩:=ha.mem hr
   have:=aK.im r x hp c hcr
   exact ⟨this,cP this⟩)
  refine ⟨_,e,.inr ⟨true,rs,full,?_,ha⟩⟩
  show V.bP true (rows 1 l.length (rs.flatten.take (l.length * 1))) full = _
  rw [htk,<- ha.len]
  exact congrArg (fun z=>V.bP true z full) (kW (sz:=1) rs (Lay.lens ha))
theorem uT {Z:Sg} {f k t:Nat} {cs cs':List V} {ex:Bool} (hb:Z[k]? = some (.cells t cs ex)) (hm:aU (fun v=>match bM Z E.ty true 11 v with
   | some v=>if cM true v then some v else Ax.no "snap: borrowed"
   | none=>none) cs = some cs'):a_ Z E.ty true (.fn f [] [.ref k 0]) = some (.fn f [] [.cT true cs']):=by
 have e:bM Z E.ty true 12 (.ref k 0) = some (.cT true cs'):=by
  rw [bM]
  simp only [hb,List.drop_zero]
  exact congrArg (fun o=>match o with
   | some l=>some (V.cT true l)
   | none=>none) hm
 have e1:a_.one Z E.ty true (.ref k 0) = some (.cT true cs'):=by
  unfold a_.one
  rw [show dY = 12 from rfl,e]
  rfl
 simp only [a_,aU,e1]
theorem A2 (h:bK E) {Z:Sg} {w:V} {l:List aX} {f k t:Nat} {ex:Bool} (hb:Z[k]? = some (.cells t [w] ex)) (ow:bI aK 9 Z w l):∃ w',a_ Z E.ty true (.fn f [] [.ref k 0]) = some (.fn f [] [.cT true [w']]) /\ IS aK w' l:=by
 obtain ⟨w',e,iw⟩:=JD (m:=9) h ow
 refine ⟨w',uT hb ?_,iw⟩
 simp only [aU,e,cP iw.bB,if_true]
theorem GY {Z:Sg} {f k t:Nat} {cs:List V} {ex:Bool} (hb:Z[k]? = some (.cells t cs ex)) (hc:∀ c ∈ cs,Ax.bB c = true):a_ Z E.ty true (.fn f [] [.ref k 0]) = some (.fn f [] [.cT true cs]):=
 uT hb (gW fun x hx=>by rw [show 11 = 10 + 1 from rfl,kO (hc x hx)]; simp only [cP (hc x hx),if_true])
theorem Gh (h:bK E) {w:V} {l:List aX} {y:aX} {g:Bool} (iw:IS aK w l) (hsm:l.length <= 4294967296):aB E 203 [.str y,.cT g [w]] [] K = K (.bool (!decide (y ∈ l))) []:=by
 refine aB.of ?_
 have hi:Ax.bB (.cT g [w]) = true:=rfl
 have ew:=eO (Z:=[]) (ty:=E.ty) hi (cP hi)
 rw [aH h.UM h.Sm h.Vw h.TZ (args':=[.str y,.cT g [w]]) (by simp only [aU,cH,ew]),aZ (by kernel_rfl)]
 have kc:=fun (Y:Sg)=>BC (Z:=Y) h (s:=y) (iw.ls Y 9) hsm
 simp only [aA,Tryz.f203,KP,Ax.loadAt,↓reduceIte,Nat.reduceEqDiff,Nat.reduceLT,Nat.reduceAdd,reduceCtorEq,h.aR,kc]
 exact rfl
theorem MY (h:bK E) {a b c d:V} {l:List aX} {n y:aX} {g:Bool} (ia:IS aK a l) (hb:Ax.bB b = true) (hc:Ax.bB c = true) (hd:Ax.bB d = true) (hsm:l.length <= 4294967296):aB E 204 [.str y,.cT g [.str n,a,b,c,d]] [] K = K (.bool (decide (y ∈ l))) []:=by
 refine aB.of ?_
 have hi:Ax.bB (.cT g [.str n,a,b,c,d]) = true:=rfl
 have ew:=eO (Z:=[]) (ty:=E.ty) hi (cP hi)
 rw [aH h.UL h.Sl h.Vv h.TY (args':=[.str y,.cT g [.str n,a,b,c,d]]) (by simp only [aU,cH,ew]),aZ (by kernel_rfl)]
 have kc:=fun (Y:Sg)=>BC (Z:=Y) h (s:=y) (ia.ls Y 9) hsm
 simp only [aA,Tryz.f204,KP,Ax.loadAt,↓reduceIte,Nat.reduceEqDiff,Nat.reduceLT,Nat.reduceAdd,reduceCtorEq,h.aR,h.bD,kc]
 exact rfl
end
end
section
section
variable {E:Env} {Z:Sg} {K:V -> Sg -> Prop}
theorem bI.set {Z:Sg} {w:V} {l:List aX} {k:Nat} {y:O} (ow:bI aK 9 Z w l) (hk:aW w ≠ some k):bI aK 9 (Z.set k y) w l:=ow.keep fun c o hc ho=>by
 rw [List.getElem?_set_ne (fun e=>hk (by rw [e]; exact hc))]
 exact ho
theorem L6 (h:bK E) {x:aG} {a b c d:V} (ia:IS aK a x.ins) (ib:IS aK b x.outs) (id:IS eT d x.steps) (hs:Small x) {kb:Nat} {Y:Sg} {w:V} (b0:Y[0]? = some (O.cells 37 [.str x.name,a,b,c,d] true)) (k0:Y[kb]? = some (.cells 28 [w] true)) (ow:bI aK 9 Y w x.ins) (F:FT) (g1:F.get 1 = .ref 0 0) (g3:F.get 3 = .ref kb 0) (g4:F.get 4 = .fn 203 [] [.ref kb 0])
  (hk:∀ σ',K (.bool (gM x.ins x.steps && x.outs.all fun o=>decide (o ∈ x.ins ++ x.steps.map Step.out))) σ'):R E (cutAt [1,1,1,1,1] (aA Tryz.f168).code) [] ⟨63,F⟩ Y (kS E (aA Tryz.f168).results K):=by
 have l1:=hs.ins
 have l2:=hs.outs
 have l4:=hs.steps
 have ld:=kP h id
 simp only [aA,Tryz.f168,KP,Ax.loadAt,↓reduceIte,Nat.reduceLT,reduceCtorEq,h.fD,h.bD,cutAt,g1,b0,ld]
 refine aP (fun i F Y=>F.get 1 = .ref 0 0 /\ F.get 3 = .ref kb 0 /\ F.get 4 = .fn 203 [] [.ref kb 0] /\ F.get 36 = d /\ F.get 37 = .int .i64 (x.steps.length:Int) /\ F.get 38 = .int .i64 (i:Int) /\ Y[0]? = some (O.cells 37 [.str x.name,a,b,c,d] true) /\ ∃ w,Y[kb]? = some (.cells 28 [w] true) /\ bI aK 9 Y w (x.ins ++ (x.steps.take i).map Step.out) /\ gM x.ins x.steps = gM (x.ins ++ (x.steps.take i).map Step.out) (x.steps.drop i)) x.steps.length ?_ ?_ x.steps.length 0 _ _ (by omega) (B8 (by simp +decide only [GS,g1,g3,g4,and_self]) ⟨b0,w,k0,by simpa using ow,by simp⟩)
 ·rintro i F Y hi ⟨g1,g3,g4,g36,g37,g38,b0,w,k0,ow,hst⟩ next
  obtain ⟨s,hsi⟩:∃ y,x.steps[i]? = some y:=⟨_,List.getElem?_eq_getElem hi⟩
  obtain ⟨g,p1,p2,e1,i1,i2⟩:=tW h id hsi
  have a8:=hs.args s (List.mem_of_getElem? hsi)
  have o1:=aI i1.bB
  have o2:=aI i2.bB
  have hlt:=d_ hi
  have hadd:=bU i (by omega)
  have hdrop:x.steps.drop i = s :: x.steps.drop (i + 1):=by
   obtain ⟨hj,rfl⟩:=List.getElem?_eq_some_iff.1 hsi
   exact List.drop_eq_getElem_cons hj
  have htake:x.ins ++ (x.steps.take (i + 1)).map Step.out = x.ins ++ (x.steps.take i).map Step.out ++ [s.out]:=by
   rw [List.take_add_one,hsi]; simp
  have hkl:(x.ins ++ (x.steps.take i).map Step.out).length <= 100:=by
   rw [List.length_append,List.length_map,List.length_take]; omega
  rw [hdrop,gM] at hst
  rw [htake] at next
  generalize x.ins ++ (x.steps.take i).map Step.out = kn at *
  rw [hst] at hk
  have b1:=aL (x:=O.cells 75 [.str s.out,.int .i64 s.op,p1,p2,.int .i64 s.n] true) b0
  have k1:=aL (x:=O.cells 75 [.str s.out,.int .i64 s.op,p1,p2,.int .i64 s.n] true) k0
  have s1:(Y ++ [O.cells 75 [.str s.out,.int .i64 s.op,p1,p2,.int .i64 s.n] true])[Y.length]? = some (O.cells 75 [.str s.out,.int .i64 s.op,p1,p2,.int .i64 s.n] true):=aQ
  have ow1:=ow.app [O.cells 75 [.str s.out,.int .i64 s.op,p1,p2,.int .i64 s.n] true]
  rw [aF]
  simp only [KP,Ax.loadAt,Ax.storeAt,↓reduceIte,Nat.reduceEqDiff,Nat.reduceLT,Nat.reduceAdd,h.aR,h.cO,g3,g36,g37,g38,hlt,e1,o1,o2,aQ,cV]
  generalize Y ++ [O.cells 75 [.str s.out,.int .i64 s.op,p1,p2,.int .i64 s.n] true] = τ1 at *
  generalize Y.length = y at *
  have kc:=BC (Z:=τ1) h (s:=s.out) ow1.ls (by omega)
  obtain ⟨w',es,iw⟩:=A2 (f:=203) h k1 ow1
  have kf:=c_ (fun K=>qA (Z:=τ1) (K:=K) (k:=203) (caps:=[.cT true [w']]) (P:=fun y=>!decide (y ∈ kn)) h (i1.ls τ1 9) (by omega) (fun c hc=>by cases hc with | head=>rfl | tail _ hc=>cases hc) (fun y v hy hv=>by
   subst hv
   show aB E 203 [.str y,.cT true [w']] [] _
   rw [Gh h iw (by omega)]; exact ⟨rfl,rfl⟩) es)
  by_cases m1:s.out ∈ kn
  ·have q1:=decide_eq_true m1
   rw [q1] at hk
   simp only [KP,Ax.loadAt,↓reduceIte,Nat.reduceEqDiff,Nat.reduceLT,reduceCtorEq,h.cK,h.cO,k1,s1,kc,q1]
   exact hk _
  have q1:=decide_eq_false m1
  cases m2:s.args.any fun y=>!decide (y ∈ kn) with
  | true=>
   rw [show s.args.all (fun a=>decide (a ∈ kn)) = false from by rw [<- Bool.not_eq_true',List.not_all_eq_any_not,m2],Bool.and_false,Bool.false_and,Bool.false_and] at hk
   simp only [KP,Ax.loadAt,↓reduceIte,Nat.reduceEqDiff,Nat.reduceLT,reduceCtorEq,h.cK,h.aR,h.cO,g4,k1,s1,kc,kf,q1,m2]
   exact hk _
  | false=>
  rw [q1,show s.args.all (fun a=>decide (a ∈ kn)) = true from by rw [<- Bool.not_eq_false',List.not_all_eq_any_not,m2],Bool.not_false,Bool.true_and,Bool.true_and] at hst
  have b2:=aL (x:=O.cells 9 [.str s.out] true) b1
  have k2:=aL (x:=O.cells 9 [.str s.out] true) k1
  obtain ⟨w2,τ2,ha2,ow2,PB,-,fr2⟩:=iK (ats:=#[28,28]) (m:=[s.out]) (new:=[[.str s.out]]) h.aR rfl h.cK rfl (by decide) (fL h) rfl (ow1.app [.cells 9 [.str s.out] true]) (iQ rfl) (.one rfl) (dU (b:=1000) (by decide) (by simp only [List.length_cons,List.length_nil]; omega))
  have nk:=kG (w:=w) k2 (by decide) (ow1.app [.cells 9 [.str s.out] true])
  have n0:=kG (w:=w) b2 (by decide) (ow1.app [.cells 9 [.str s.out] true])
  have k3:=PB _ _ k2 nk
  have b3:=PB _ _ b2 n0
  have nk2:aW w2 ≠ some kb:=kG k3 (by decide) ow2
  obtain ⟨c1,c2⟩:=pO ow2
  have hkb:kb ≠ 0:=fun e=>by
   rw [e,b0] at k0
   cases k0
  have hlen:=(List.getElem?_eq_some_iff.1 k3).1
  simp only [KP,Ax.loadAt,Ax.storeAt,↓reduceIte,Nat.reduceEqDiff,Nat.reduceLT,Nat.reduceLeDiff,Nat.reduceMul,reduceCtorEq,h.cK,h.aR,h.cO,g3,g4,g38,k1,s1,kc,kf,q1,m2,gZ,ha2,k3,c1,c2,hadd]
  refine next _ _ ⟨?_,?_,?_,?_,?_,?_,?_,w2,?_,?_,?_⟩
  ·exact (by simp +decide only [GS,g1])
  ·exact (by simp +decide only [GS,g3])
  ·exact (by simp +decide only [GS,g4])
  ·exact (by simp +decide only [GS,g36])
  ·exact (by simp +decide only [GS,g37])
  ·exact (by simp +decide only [GS])
  ·rw [List.getElem?_set_ne hkb]; exact b3
  ·rw [List.getElem?_set_self hlen]
  ·exact bI.set ow2 nk2
  ·exact hst
 ·rintro F Y ⟨g1,g3,g4,g36,g37,g38,b0,w,k0,ow,hst⟩
  rw [List.take_of_length_le (Nat.le_refl _)] at ow hst
  rw [show x.steps.drop x.steps.length = [] from List.drop_length,gM] at hst
  have hkl:(x.ins ++ x.steps.map Step.out).length <= 100:=by
   rw [List.length_append,List.length_map]; omega
  generalize x.ins ++ x.steps.map Step.out = kn at *
  obtain ⟨w',es,iw⟩:=A2 (f:=203) h k0 ow
  have kf:=c_ (fun K=>qA (Z:=Y) (K:=K) (k:=203) (caps:=[.cT true [w']]) (P:=fun y=>!decide (y ∈ kn)) h (ib.ls Y 9) (by omega) (fun c hc=>by cases hc with | head=>rfl | tail _ hc=>cases hc) (fun y v hy hv=>by
   subst hv
   show aB E 203 [.str y,.cT true [w']] [] _
   rw [Gh h iw (by omega)]; exact ⟨rfl,rfl⟩) es)
  have hlt:=eA (Nat.lt_irrefl x.steps.length)
  rw [hst,Bool.true_and] at hk
  have e:(x.outs.all fun o=>decide (o ∈ kn)) = !(x.outs.any fun y=>!decide (y ∈ kn)):=by rw [<- List.not_all_eq_any_not,Bool.not_not]
  rw [e] at hk
  rw [aF]
  simp only [KP,Ax.loadAt,↓reduceIte,Nat.reduceEqDiff,Nat.reduceLT,reduceCtorEq,h.aR,h.bD,g1,g4,g37,g38,hlt,b0,kf]
  exact hk _
theorem Pn (h:bK E) {v:V} {x:aG} (hv:GB v x) (hs:Small x):aB E 168 [v] Z K = K (.bool (eZ x)) Z:=by
 refine aB.of ?_
 have ev:=hv.snap (E:=E) Z
 obtain ⟨a,b,c,d,rfl,ia,ib,ic,id⟩:=hv
 have o1:=aI ia.bB
 have o2:=aI ib.bB
 have o3:=aI ic.bB
 have o4:=aI id.bB
 have l1:=hs.ins
 have l2:=hs.outs
 have l3:=hs.after
 rw [aH h.UY h.SA h.VG h.T9 (args':=[.agg [.str x.name,a,b,c,d]]) (by simp only [aU,ev]),aZ (by kernel_rfl)]
 have k1:=fun (Y:Sg)=>BB (Z:=Y) h (ia.ls Y 9) (by omega)
 have k2:=fun (Y:Sg)=>BB (Z:=Y) h (ib.ls Y 9) (by omega)
 have k3:=fun (Y:Sg)=>BB (Z:=Y) h (ic.ls Y 9) (by omega)
 have kc:=fun (Y:Sg)=>BC (Z:=Y) h (s:=x.name) (ic.ls Y 9) (by omega)
 have rest:=fun (hn:(gM x.ins x.steps && x.outs.all fun o=>decide (o ∈ x.ins ++ x.steps.map Step.out)) = eZ x) kb Y w F b0 k0 ow g1 g3 g4=>L6 (K:=fun v σ1=>match dI σ1 E.ty false v with
   | some v=>v = .bool (eZ x)
   | none=>False) (c:=c) h ia ib id hs (kb:=kb) (Y:=Y) (w:=w) b0 k0 ow F g1 g3 g4 fun _=>by rw [hn]; exact rfl
 generalize hC:cutAt [1,1,1,1,1] (aA Tryz.f168).code = C at rest
 cases e0:jU x.ins with
 | true=>
  simp only [aA,Tryz.f168,KP,Ax.loadAt,↓reduceIte,Nat.reduceEqDiff,Nat.reduceLT,Nat.reduceAdd,reduceCtorEq,h.aR,h.bD,o1,o2,o3,o4,k1,e0]
  show V.bool false = V.bool (eZ x)
  unfold eZ
  simp [e0]
 | false=>
 cases e1:jU x.outs with
 | true=>
  simp only [aA,Tryz.f168,KP,Ax.loadAt,↓reduceIte,Nat.reduceEqDiff,Nat.reduceLT,Nat.reduceAdd,reduceCtorEq,h.aR,h.bD,o1,o2,o3,o4,k1,k2,e0,e1]
  show V.bool false = V.bool (eZ x)
  unfold eZ
  simp [e0,e1]
 | false=>
 cases e2:jU x.after with
 | true=>
  simp only [aA,Tryz.f168,KP,Ax.loadAt,↓reduceIte,Nat.reduceEqDiff,Nat.reduceLT,Nat.reduceAdd,reduceCtorEq,h.aR,h.bD,o1,o2,o3,o4,k1,k2,k3,e0,e1,e2]
  show V.bool false = V.bool (eZ x)
  unfold eZ
  simp [e0,e1,e2]
 | false=>
 cases e3:decide (x.name ∈ x.after) with
 | true=>
  simp only [aA,Tryz.f168,KP,Ax.loadAt,↓reduceIte,Nat.reduceEqDiff,Nat.reduceLT,Nat.reduceAdd,reduceCtorEq,h.cK,h.aR,h.bD,o1,o2,o3,o4,k1,k2,k3,kc,e0,e1,e2,e3]
  show V.bool false = V.bool (eZ x)
  unfold eZ
  rw [e0,e1,e2,e3]
  rfl
 | false=>
 rw [show (aA Tryz.f168).code = .seq (cutAt [0] (aA Tryz.f168).code) (.seq (cutAt [1,0] (aA Tryz.f168).code) (.seq (cutAt [1,1,0] (aA Tryz.f168).code) (.seq (cutAt [1,1,1,0] (aA Tryz.f168).code) (.seq (cutAt [1,1,1,1,0] (aA Tryz.f168).code) C)))) from by rw [<- hC]; rfl]
 simp only [aA,Tryz.f168,KP,Ax.loadAt,↓reduceIte,Nat.reduceEqDiff,Nat.reduceLT,Nat.reduceAdd,reduceCtorEq,h.cK,h.aR,h.bD,cutAt,o1,o2,o3,o4,k1,k2,k3,kc,e0,e1,e2,e3]
 refine aO (oV h ia (by omega)) ?_
 rintro w Y ⟨ow,kp,-⟩
 have b0:Y[0]? = some (O.cells 37 [.str x.name,a,b,c,d] true):=kp 0 _ rfl
 obtain ⟨c1,c2⟩:=pO ow
 have b1:=aL (x:=O.cells 28 [w] true) b0
 have kk:(Y ++ [O.cells 28 [w] true])[Y.length]? = some (O.cells 28 [w] true):=aQ
 have es:=GY (E:=E) (f:=204) b1 (fun y hy=>by
  simp only [List.mem_cons,List.not_mem_nil,or_false] at hy
  rcases hy with rfl | rfl | rfl | rfl | rfl
  ·rfl
  ·exact ia.bB
  ·exact ib.bB
  ·exact ic.bB
  ·exact id.bB)
 have kf:=c_ (fun K=>qA (Z:=Y ++ [O.cells 28 [w] true]) (K:=K) (k:=204) (caps:=[.cT true [.str x.name,a,b,c,d]]) (P:=fun y=>decide (y ∈ x.ins)) h (ib.ls _ 9) (by omega) (fun c hc=>by cases hc with | head=>rfl | tail _ hc=>cases hc) (fun y v hy hv=>by
  subst hv
  show aB E 204 [.str y,.cT true [.str x.name,a,b,c,d]] [] _
  rw [MY h ia ib.bB ic.bB id.bB (by omega)]; exact ⟨rfl,rfl⟩) es)
 have eo:(x.outs.all fun o=>!decide (o ∈ x.ins)) = !(x.outs.any fun y=>decide (y ∈ x.ins)):=by rw [List.not_any_eq_all_not]
 cases e4:x.outs.any fun y=>decide (y ∈ x.ins) with
 | true=>
  simp only [KP,Ax.loadAt,Ax.storeAt,↓reduceIte,Nat.reduceEqDiff,Nat.reduceLT,reduceCtorEq,h.aR,h.bD,b1,kf,e4,c1,c2,aQ,cV]
  show V.bool false = V.bool (eZ x)
  unfold eZ
  rw [eo,e0,e1,e2,e3,e4]
  rfl
 | false=>
 simp only [KP,Ax.loadAt,Ax.storeAt,↓reduceIte,Nat.reduceEqDiff,Nat.reduceLT,reduceCtorEq,h.aR,h.bD,b1,kf,e4,c1,c2,aQ,cV]
 refine rest ?_ Y.length _ w _ b1 kk (ow.app _) ?_ ?_ ?_
 ·unfold eZ
  rw [eo,e0,e1,e2,e3,e4]
  simp
 ·exact (by simp +decide only [GS])
 ·exact (by simp +decide only [GS])
 ·exact (by simp +decide only [GS])
theorem Ol (h:bK E) {v:V} {x:aG} (hv:GB v x) (hs:Small x):KC E 168 [v] Z (.bool (eZ x)) Z:=c_ fun _=>Pn h hv hs
end
end
section
section
variable {E:Env} {Z:Sg} {K:V -> Sg -> Prop}
theorem Pr (h:bK E) {v:V} {x:aG} (hv:GB v x) (hs:Small x):aB E 124 [v] Z K = K (.int .i64 (aY x)) Z:=by
 refine aB.of ?_
 have ev:=hv.snap (E:=E) Z
 obtain ⟨a,b,c,d,rfl,ia,ib,ic,id⟩:=hv
 have o1:=aI ia.bB
 have o2:=aI ib.bB
 have o3:=aI ic.bB
 have o4:=aI id.bB
 have la:=bH h ia
 have lb:=bH h ib
 have lc:=bH h ic
 have ld:=kP h id
 rw [aH h.U8 h.SL h.VP h.Uh (args':=[.agg [.str x.name,a,b,c,d]]) (by simp only [aU,ev]),aZ (by kernel_rfl)]
 have k1:=fun (Y:Sg)=>Oq (Z:=Y) h (v:=.agg [.str x.name,a,b,c,d]) ⟨a,b,c,d,rfl,ia,ib,ic,id⟩ hs
 have k2:=fun (Y:Sg)=>Ol (Z:=Y) h (v:=.agg [.str x.name,a,b,c,d]) ⟨a,b,c,d,rfl,ia,ib,ic,id⟩ hs
 cases e1:lB x with
 | false=>
  simp only [aA,Tryz.f124,KP,Ax.loadAt,↓reduceIte,Nat.reduceEqDiff,Nat.reduceLT,Nat.reduceAdd,h.bD,o1,o2,o3,o4,k1,e1]
  show V.int .i64 1 = V.int .i64 (aY x)
  rw [show aY x = 1 from by unfold aY; rw [if_pos e1]]
 | true=>
 by_cases p0:8 < x.ins.length
 ·have q0:decide ((8:Int) < (x.ins.length:Int)) = true:=decide_eq_true (by omega)
  simp only [aA,Tryz.f124,KP,Ax.loadAt,↓reduceIte,Nat.reduceEqDiff,Nat.reduceLT,Nat.reduceAdd,reduceCtorEq,h.aR,h.bD,o1,o2,o3,o4,la,k1,e1,q0]
  show V.int .i64 4 = V.int .i64 (aY x)
  rw [show aY x = 4 from by unfold aY; rw [if_neg (by rw [e1]; simp)]; rw [if_pos (by unfold long; rw [decide_eq_true p0]; simp)]]
 have q0:decide ((8:Int) < (x.ins.length:Int)) = false:=decide_eq_false (by omega)
 by_cases p1:4 < x.outs.length
 ·have q1:decide ((4:Int) < (x.outs.length:Int)) = true:=decide_eq_true (by omega)
  simp only [aA,Tryz.f124,KP,Ax.loadAt,↓reduceIte,Nat.reduceEqDiff,Nat.reduceLT,Nat.reduceAdd,reduceCtorEq,h.aR,h.bD,o1,o2,o3,o4,la,lb,k1,e1,q0,q1]
  show V.int .i64 4 = V.int .i64 (aY x)
  rw [show aY x = 4 from by unfold aY; rw [if_neg (by rw [e1]; simp)]; rw [if_pos (by unfold long; rw [decide_eq_true p1]; simp)]]
 have q1:decide ((4:Int) < (x.outs.length:Int)) = false:=decide_eq_false (by omega)
 by_cases p2:8 < x.after.length
 ·have q2:decide ((8:Int) < (x.after.length:Int)) = true:=decide_eq_true (by omega)
  simp only [aA,Tryz.f124,KP,Ax.loadAt,↓reduceIte,Nat.reduceEqDiff,Nat.reduceLT,Nat.reduceAdd,reduceCtorEq,h.aR,h.bD,o1,o2,o3,o4,la,lb,lc,k1,e1,q0,q1,q2]
  show V.int .i64 4 = V.int .i64 (aY x)
  rw [show aY x = 4 from by unfold aY; rw [if_neg (by rw [e1]; simp)]; rw [if_pos (by unfold long; rw [decide_eq_true p2]; simp)]]
 have q2:decide ((8:Int) < (x.after.length:Int)) = false:=decide_eq_false (by omega)
 by_cases p3:12 < x.steps.length
 ·have q3:decide ((12:Int) < (x.steps.length:Int)) = true:=decide_eq_true (by omega)
  simp only [aA,Tryz.f124,KP,Ax.loadAt,↓reduceIte,Nat.reduceEqDiff,Nat.reduceLT,Nat.reduceAdd,reduceCtorEq,h.aR,h.fD,h.bD,o1,o2,o3,o4,la,lb,lc,ld,k1,e1,q0,q1,q2,q3]
  show V.int .i64 4 = V.int .i64 (aY x)
  rw [show aY x = 4 from by unfold aY; rw [if_neg (by rw [e1]; simp)]; rw [if_pos (by unfold long; rw [decide_eq_true p3]; simp)]]
 have q3:decide ((12:Int) < (x.steps.length:Int)) = false:=decide_eq_false (by omega)
 cases e2:eZ x with
 | false=>
  simp only [aA,Tryz.f124,KP,Ax.loadAt,↓reduceIte,Nat.reduceEqDiff,Nat.reduceLT,Nat.reduceAdd,reduceCtorEq,h.aR,h.fD,h.bD,o1,o2,o3,o4,la,lb,lc,ld,k1,k2,e1,q0,q1,q2,q3,e2]
  show V.int .i64 2 = V.int .i64 (aY x)
  rw [show aY x = 2 from by unfold aY; rw [if_neg (by rw [e1]; simp)]; rw [if_neg (by unfold long; rw [decide_eq_false p0,decide_eq_false p1,decide_eq_false p2,decide_eq_false p3]; simp)]; rw [if_pos e2]]
 | true=>
 simp only [aA,Tryz.f124,KP,Ax.loadAt,↓reduceIte,Nat.reduceEqDiff,Nat.reduceLT,Nat.reduceAdd,reduceCtorEq,h.aR,h.fD,h.bD,o1,o2,o3,o4,la,lb,lc,ld,k1,k2,e1,q0,q1,q2,q3,e2]
 show V.int .i64 0 = V.int .i64 (aY x)
 rw [show aY x = 0 from by unfold aY; rw [if_neg (by rw [e1]; simp)]; rw [if_neg (by unfold long; rw [decide_eq_false p0,decide_eq_false p1,decide_eq_false p2,decide_eq_false p3]; simp)]; rw [if_neg (by rw [e2]; simp)]]
theorem Ox (h:bK E) {v:V} {x:aG} (hv:GB v x) (hs:Small x):KC E 124 [v] Z (.int .i64 (aY x)) Z:=c_ fun _=>Pr h hv hs
end
end
section
section
variable {E:Env} {Z:Sg} {K:V -> Sg -> Prop}
def SM (E:Env) (es:List (V × V)) (get:aX -> Option V):Prop:=(∀ e ∈ es,(∃ k,e.1 = .str k) /\ Ax.bB e.2 = true) /\ ∀ k,j_ (fA E 9) (.str k) es = some (get k)
theorem bT (h:bK E) (a b:aX):fA E 9 (.str a) (.str b) = some (Ax.seq a b):=by unfold fA; rw [h.cK]
theorem G1:SM E [] fun _=>none:=⟨fun _ h=>(by cases h),fun _=>rfl⟩
theorem DR (h:bK E) {v:V} (k:aX) (hv:Ax.bB v = true):∀ {es:List (V × V)} {get:aX -> Option V},SM E es get -> ∃ es',jZ (fA E 9) (.str k) v es = some es' /\ SM E es' fun q=>if q = k then some v else get q
 | [],get,hs=>by
  refine ⟨[(.str k,v)],rfl,fun e he=>?_,fun q=>?_⟩
  ·rw [List.mem_singleton.1 he]
   exact ⟨⟨k,rfl⟩,hv⟩
  ·show _ = some (if q = k then some v else get q)
   have e0:none = get q:=Option.some.inj (hs.2 q)
   rw [j_,bT h]
   by_cases hq:q = k
   ·rw [gP hq,if_pos hq]
   ·rw [fZ hq,if_neg hq,<- e0]; rfl
 | (k0,v0) :: r,get,hs=>by
  obtain ⟨⟨s0,e0⟩,i0⟩:=hs.1 _ (List.mem_cons_self ..)
  dsimp only at e0 i0
  subst e0
  by_cases hk:k = s0
  ·refine ⟨(.str k,v) :: r,by rw [jZ,bT h,gP hk],fun e he=>?_,fun q=>?_⟩
   ·rcases List.mem_cons.1 he with rfl | he
    ·exact ⟨⟨k,rfl⟩,hv⟩
    ·exact hs.1 e (List.mem_cons_of_mem _ he)
   ·have:=hs.2 q
    show _ = some (if q = k then some v else get q)
    rw [j_,bT h] at this ⊢
    by_cases hq:q = k
    ·rw [gP hq,if_pos hq]
    ·rw [fZ (show q ≠ s0 by rw [<- hk]; exact hq)] at this
     rw [fZ hq,if_neg hq]
     exact this
  ·have hs':SM E r fun q=>if q = s0 then (match j_ (fA E 9) (.str q) r with | some y=>y | none=>none) else get q:=by
    refine ⟨fun e he=>hs.1 e (List.mem_cons_of_mem _ he),fun q=>?_⟩
    have:=hs.2 q
    rw [j_,bT h] at this
    show _ = some (if q = s0 then (match j_ (fA E 9) (.str q) r with | some y=>y | none=>none) else get q)
    by_cases hq:q = s0
    ·rw [if_pos hq]
     have tot:∀ (l:List (V × V)),(∀ e ∈ l,∃ k,e.1 = V.str k) -> ∃ y,j_ (fA E 9) (.str q) l = some y:=by
      intro l
      induction l with
      | nil=>intro _; exact ⟨none,rfl⟩
      | cons e l ih=>
       intro hl
       obtain ⟨k1,e1⟩:=hl _ (List.mem_cons_self ..)
       obtain ⟨a,b⟩:=e
       dsimp only at e1
       subst e1
       rw [j_,bT h]
       by_cases h1:q = k1
       ·rw [gP h1]; exact ⟨_,rfl⟩
       ·rw [fZ h1]; exact ih fun e he=>hl e (List.mem_cons_of_mem _ he)
     obtain ⟨y,hy⟩:=tot r fun e he=>(hs.1 e (List.mem_cons_of_mem _ he)).1
     rw [hy]
    ·rw [if_neg hq]
     rw [fZ hq] at this
     exact this
   obtain ⟨r',e1,s1⟩:=DR h k hv hs'
   refine ⟨(.str s0,v0) :: r',by rw [jZ,bT h,fZ hk]; simp only [e1],fun e he=>?_,fun q=>?_⟩
   ·rcases List.mem_cons.1 he with rfl | he
    ·exact ⟨⟨s0,rfl⟩,i0⟩
    ·exact s1.1 e he
   ·have:=hs.2 q
    show _ = some (if q = k then some v else get q)
    rw [j_,bT h] at this ⊢
    by_cases hq:q = s0
    ·rw [gP hq] at this ⊢
     rw [if_neg (show q ≠ k by rw [hq]; exact Ne.symm hk)]
     exact this
    ·rw [fZ hq]
     have h2:=s1.2 q
     dsimp only at h2
     rw [if_neg hq] at h2
     exact h2
def SB (E:Env) (es:List (V × V)) (p:aX -> Bool):Prop:=SM E es fun k=>if p k = true then some (.bool true) else none
theorem G2:SB E [] fun _=>false:=G1
theorem Qz (h:bK E) {es:List (V × V)} {p:aX -> Bool} (hs:SB E es p) (k:aX):∃ es',jZ (fA E 9) (.str k) (.bool true) es = some es' /\ SB E es' fun q=>p q || decide (q = k):=by
 obtain ⟨es',h1,h2⟩:=DR h (v:=.bool true) k rfl hs
 refine ⟨es',h1,h2.1,fun q=>(h2.2 q).trans ?_⟩
 show some (if q = k then some (V.bool true) else if p q = true then some (V.bool true) else none) = some (if (p q || decide (q = k)) = true then some (V.bool true) else none)
 by_cases hq:q = k
 ·rw [if_pos hq,decide_eq_true hq,Bool.or_true,if_pos rfl]
 ·rw [if_neg hq,decide_eq_false hq,Bool.or_false]
theorem SB.congr {es:List (V × V)} {p q:aX -> Bool} (hs:SB E es p) (e:∀ k,p k = q k):SB E es q:=by
 rwa [show p = q from funext e] at hs
theorem wQ (h:bK E) {Z:Sg} {x:V} {es:List (V × V)} {p:aX -> Bool} (hx:entriesOf Z x = some es) (hs:SB E es p) (k:aX):lookup E Z 98 x (.str k) false = some (.bool (p k)):=by
 have hk:dS E 9 (.str k) = true:=by unfold dS; rw [h.cK]
 unfold Ax.lookup
 simp only [h.rZ,h.Gw,hk,hx,hs.2 k,Bool.not_true,Bool.false_eq_true,if_false]
 cases p k <;> rfl
theorem GM (h:bK E) {Z:Sg} {b:Nat} {es:List (V × V)} {p:aX -> Bool} (hb:Z[b]? = some (.map es)) (hs:SB E es p) (k:aX):∃ es',mapUpdate E Z 98 (.mp b) (.str k) (.bool true) = some (Z.set b (.map es')) /\ SB E es' fun q=>p q || decide (q = k):=by
 obtain ⟨es',h1,h2⟩:=Qz h hs k
 have hk:dS E 9 (.str k) = true:=by unfold dS; rw [h.cK]
 refine ⟨es',?_,h2⟩
 unfold Ax.mapUpdate
 simp only [h.rZ,hk,hb,h1,eU,V.aT,Bool.not_true,Bool.or_self,Bool.false_eq_true,if_false,Option.map_some]
theorem CQ (h:bK E) {Z:Sg} {b m:Nat} {es:List (V × V)} {get:aX -> Option V} (hb:Z[b]? = some (.map es)) (hs:SM E es get):bM Z E.ty true (m + 2) (.mp b) = some (.imp true es):=by
 rw [bM]
 simp only [hb]
 rw [gW fun e he=>?_]
 obtain ⟨⟨k,e1⟩,e2⟩:=hs.1 e he
 obtain ⟨a,v⟩:=e
 dsimp only at e1 e2
 subst e1
 have e3:bM Z E.ty true (m + 1) v = some v:=kO e2
 have e4:=cP e2
 have hpc:(V.str k).cells.all Ax.plainCell = true:=rfl
 cases v <;> first
  | (simp only [hpc,e3,e4,if_true]; done)
  | cases e2
theorem CO (h:bK E) {Z:Sg} {f k b t:Nat} {ex:Bool} {es:List (V × V)} {get:aX -> Option V} (hk:Z[k]? = some (.cells t [.mp b] ex)) (hb:Z[b]? = some (.map es)) (hs:SM E es get):a_ Z E.ty true (.fn f [] [.ref k 0]) = some (.fn f [] [.cT true [.imp true es]]):=by
 refine uT hk ?_
 simp only [aU,CQ (m:=9) h hb hs,show cM true (V.imp true es) = true from rfl,if_true]
theorem MX (h:bK E) {es:List (V × V)} {p:aX -> Bool} {y:aX} {g g2:Bool} (hs:SB E es p):aB E 145 [.str y,.cT g [.imp g2 es]] [] K = K (.bool (p y)) []:=by
 refine aB.of ?_
 have hi:Ax.bB (.cT g [.imp g2 es]) = true:=rfl
 have ew:=eO (Z:=[]) (ty:=E.ty) hi (cP hi)
 rw [aH h.U3 h.SG h.VK h.Uc (args':=[.str y,.cT g [.imp g2 es]]) (by simp only [aU,cH,ew]),aZ (by kernel_rfl)]
 have hl:=fun Z=>wQ (Z:=Z) (x:=.imp g2 es) h rfl hs y
 simp only [aA,Tryz.f145,KP,Ax.loadAt,↓reduceIte,Nat.reduceEqDiff,Nat.reduceLT,Nat.reduceAdd,reduceCtorEq,h.rZ,hl]
 exact rfl
theorem MW (h:bK E) {es:List (V × V)} {p:aX -> Bool} {y:aX} {g g2:Bool} (hs:SB E es p):aB E 146 [.str y,.cT g [.imp g2 es]] [] K = K (.bool (!p y)) []:=by
 refine aB.of ?_
 have hi:Ax.bB (.cT g [.imp g2 es]) = true:=rfl
 have ew:=eO (Z:=[]) (ty:=E.ty) hi (cP hi)
 rw [aH h.U2 h.SF h.VJ h.Ub (args':=[.str y,.cT g [.imp g2 es]]) (by simp only [aU,cH,ew]),aZ (by kernel_rfl)]
 have hl:=fun Z=>wQ (Z:=Z) (x:=.imp g2 es) h rfl hs y
 simp only [aA,Tryz.f146,KP,Ax.loadAt,↓reduceIte,Nat.reduceEqDiff,Nat.reduceLT,Nat.reduceAdd,reduceCtorEq,h.rZ,hl]
 exact rfl
end
end
section
section
variable {E:Env} {Z:Sg} {K:V -> Sg -> Prop}
structure mQ (E:Env) (Y:Sg) (kr ko mr mo:Nat) (p1 p2:aX -> Bool):Prop where
 b1:Y[kr]? = some (.cells 98 [.mp mr] true)
 b2:Y[ko]? = some (.cells 98 [.mp mo] true)
 m1:∃ es,Y[mr]? = some (.map es) /\ SB E es p1
 m2:∃ es,Y[mo]? = some (.map es) /\ SB E es p2
 ne:mr ≠ mo
theorem mQ.app {Y:Sg} {kr ko mr mo:Nat} {p1 p2:aX -> Bool} (h:mQ E Y kr ko mr mo p1 p2) (y:O):mQ E (Y ++ [y]) kr ko mr mo p1 p2:=by
 obtain ⟨e1,h1,s1⟩:=h.m1
 obtain ⟨e2,h2,s2⟩:=h.m2
 exact ⟨aL h.b1,aL h.b2,⟨e1,aL h1,s1⟩,⟨e2,aL h2,s2⟩,h.ne⟩
theorem oN {Y:Sg} {i j:Nat} {x y:O} (h1:Y[i]? = some x) (h2:Y[j]? = some y) (h:x ≠ y):i ≠ j:=fun e=>h (by rw [e,h2] at h1; exact (Option.some.inj h1).symm)
theorem mQ.QE {Y:Sg} {kr ko mr mo:Nat} {p1 p2 q1:aX -> Bool} {es:List (V × V)} (h:mQ E Y kr ko mr mo p1 p2) (hs:SB E es q1):mQ E (Y.set mr (.map es)) kr ko mr mo q1 p2:=by
 obtain ⟨e1,h1,s1⟩:=h.m1
 obtain ⟨e2,h2,s2⟩:=h.m2
 have n1:=oN h1 h.b1 (by intro e; cases e)
 have n2:=oN h1 h.b2 (by intro e; cases e)
 exact ⟨by rw [List.getElem?_set_ne n1]; exact h.b1,by rw [List.getElem?_set_ne n2]; exact h.b2,⟨es,by rw [List.getElem?_set_self (List.getElem?_eq_some_iff.1 h1).1],hs⟩,⟨e2,by rw [List.getElem?_set_ne h.ne]; exact h2,s2⟩,h.ne⟩
theorem mQ.put2 {Y:Sg} {kr ko mr mo:Nat} {p1 p2 q2:aX -> Bool} {es:List (V × V)} (h:mQ E Y kr ko mr mo p1 p2) (hs:SB E es q2):mQ E (Y.set mo (.map es)) kr ko mr mo p1 q2:=by
 obtain ⟨e1,h1,s1⟩:=h.m1
 obtain ⟨e2,h2,s2⟩:=h.m2
 have n1:=oN h2 h.b1 (by intro e; cases e)
 have n2:=oN h2 h.b2 (by intro e; cases e)
 exact ⟨by rw [List.getElem?_set_ne n1]; exact h.b1,by rw [List.getElem?_set_ne n2]; exact h.b2,⟨e1,by rw [List.getElem?_set_ne (Ne.symm h.ne)]; exact h1,s1⟩,⟨es,by rw [List.getElem?_set_self (List.getElem?_eq_some_iff.1 h2).1],hs⟩,h.ne⟩
def gU (rs:List aG) (k:aX):Bool:=rs.any fun q=>decide (q.name = k)
def uH (rs:List aG) (k:aX):Bool:=rs.any fun q=>decide (k ∈ q.outs)
theorem sF {rs:List aG} {n:aX}:decide (fK rs n = none) = !gU rs n:=by
 unfold fK gU
 rw [<- b_]
 cases bJ (fun r=>decide (r.name = n)) rs <;> rfl
theorem B6 {rs:List aG} {i:Nat} {r:aG} (hr:rs[i]? = some r):nG rs i = (gU (rs.take i) r.name || r.outs.any (uH (rs.take i))):=by
 unfold nG gU uH
 rw [hr,Bool.eq_iff_iff]
 simp only [List.any_eq_true,Bool.or_eq_true,decide_eq_true_eq]
 constructor
 ·rintro ⟨q,hq,e | ⟨x,hx,e⟩⟩
  ·exact .inl ⟨q,hq,e⟩
  ·exact .inr ⟨x,hx,q,hq,e⟩
 ·rintro (⟨q,hq,e⟩ | ⟨x,hx,q,hq,e⟩)
  ·exact ⟨q,hq,.inl e⟩
  ·exact ⟨q,hq,.inr ⟨x,hx,e⟩⟩
theorem Fm {rs:List aG} {i:Nat} {r:aG} (hr:rs[i]? = some r) (k:aX):gU (rs.take (i + 1)) k = (gU (rs.take i) k || decide (k = r.name)):=by
 unfold gU
 rw [oJ hr,decide_eq_decide.2 ⟨Eq.symm,Eq.symm⟩]
theorem He {rs:List aG} {i:Nat} {r:aG} (hr:rs[i]? = some r) (k:aX):uH (rs.take (i + 1)) k = (uH (rs.take i) k || decide (k ∈ r.outs)):=oJ hr
theorem Tx (h:bK E) {a:V} {rs:List aG} (ia:IS cQ a rs) (hs:∀ x ∈ rs,Small x) (hE:gE rs = if fV rs = true then 2 else 0) (hl:rs.length <= 4294967296) {Y:Sg} {kr ko mr mo:Nat} {p2:aX -> Bool} (bx:mQ E Y kr ko mr mo (gU rs) p2) (F:FT) (g0:F.get 0 = a) (g7:F.get 7 = .ref kr 0) (hk:∀ nm σ',K (.fJ [.int .i64 (gE rs),.str nm]) σ') :
  R E (cutAt [1,1,1,1,1] (aA Tryz.f108).code) [] ⟨81,F⟩ Y (kS E (aA Tryz.f108).results K):=by
 have la:=cA h ia
 have d28:=h.O4
 simp only [aA,Tryz.f108,cutAt,Option.getD_some] at d28
 simp only [aA,Tryz.f108,KP,↓reduceIte,Nat.reduceLT,cutAt,g0,la]
 refine aP (fun i F Y=>F.get 7 = .ref kr 0 /\ F.get 68 = a /\ F.get 69 = .int .i64 (rs.length:Int) /\ F.get 70 = .int .i64 (i:Int) /\ mQ E Y kr ko mr mo (gU rs) p2 /\ ∀ (j:Nat) (r:aG),j < i -> rs[j]? = some r -> r.after.any (fun n=>!gU rs n) = false) rs.length ?_ ?_ rs.length 0 _ _ (by omega) (gC (by simp +decide only [GS,g7,and_self]) ⟨bx,fun j r hj=>by omega⟩)
 ·rintro i F Y hi ⟨g7,g68,g69,g70,bx,hp⟩ next
  obtain ⟨r,hr⟩:∃ y,rs[i]? = some y:=⟨_,List.getElem?_eq_getElem hi⟩
  obtain ⟨g,p1,p2',p3,p4,e1,i1,i2,i3,i4⟩:=eE h ia hr
  have hsm:=hs r (List.mem_of_getElem? hr)
  have a3:=hsm.after
  have o1:=aI i1.bB
  have o2:=aI i2.bB
  have o3:=aI i3.bB
  have o4:=aI i4.bB
  have hlt:=d_ hi
  have hadd:=bU i (by omega)
  have bx1:=bx.app (O.cells 37 [.str r.name,p1,p2',p3,p4] true)
  have s1:(Y ++ [O.cells 37 [.str r.name,p1,p2',p3,p4] true])[Y.length]? = some (O.cells 37 [.str r.name,p1,p2',p3,p4] true):=aQ
  rw [aF]
  simp only [KP,Ax.loadAt,Ax.storeAt,↓reduceIte,Nat.reduceEqDiff,Nat.reduceLT,Nat.reduceAdd,reduceCtorEq,h.aR,h.bD,g7,g68,g69,g70,hlt,e1,o1,o2,o3,o4,aQ,cV]
  generalize Y ++ [O.cells 37 [.str r.name,p1,p2',p3,p4] true] = τ1 at *
  generalize Y.length = y at *
  obtain ⟨es,hm,hsb⟩:=bx1.m1
  have ef:=CO (f:=146) h bx1.b1 hm hsb
  have kf:=c_ (fun K=>qA (Z:=τ1) (K:=K) (k:=146) (caps:=[.cT true [.imp true es]]) (P:=fun n=>!gU rs n) h (i3.ls τ1 9) (by omega) (fun c hc=>by cases hc with | head=>rfl | tail _ hc=>cases hc) (fun y v hy hv=>by
   subst hv
   show aB E 146 [.str y,.cT true [.imp true es]] [] _
   rw [MW h hsb]; exact ⟨rfl,rfl⟩) ef)
  cases m:r.after.any fun n=>!gU rs n with
  | true=>
   have hstr:fV rs = true:=by
    unfold fV
    refine List.any_eq_true.2 ⟨r,List.mem_of_getElem? hr,?_⟩
    rw [<- m]
    exact congrArg (fun f=>r.after.any f) (funext fun n=>sF)
   rw [hE,if_pos hstr] at hk
   simp only [KP,Ax.loadAt,↓reduceIte,Nat.reduceEqDiff,Nat.reduceLT,reduceCtorEq,h.cK,h.bD,s1,kf,m,bG d28,cC]
   exact hk _ _
  | false=>
  simp only [KP,↓reduceIte,Nat.reduceEqDiff,Nat.reduceLT,g70,kf,m,hadd]
  refine next _ _ (gC (by simp +decide only [GS,g7,g68,g69,and_self]) ⟨bx1,fun j q hj hq=>?_⟩)
  rcases Nat.lt_or_ge j i with g | g
  ·exact hp j q g hq
  ·obtain rfl:j = i:=by omega
   rw [hr] at hq; cases hq; exact m
 ·rintro F Y ⟨g7,g68,g69,g70,bx,hp⟩
  have hstr:fV rs = false:=by
   unfold fV
   refine List.any_eq_false.2 fun r hr=>?_
   obtain ⟨j,hj,e⟩:=List.getElem_of_mem hr
   have:=hp j r hj (by rw [List.getElem?_eq_getElem hj,e])
   rw [show (r.after.any fun n=>decide (fK rs n = none)) = r.after.any fun n=>!gU rs n from congrArg (fun f=>r.after.any f) (funext fun n=>sF),this]
   simp
  rw [hE,if_neg (by rw [hstr]; simp)] at hk
  have hlt:=eA (Nat.lt_irrefl rs.length)
  rw [aF]
  simp only [KP,↓reduceIte,Nat.reduceEqDiff,Nat.reduceLT,kK,g69,g70,hlt]
  exact hk _ _
end
end
section
section
variable {E:Env} {Z:Sg} {K:V -> Sg -> Prop}
theorem mQ.congr {Y:Sg} {kr ko mr mo:Nat} {p1 p2 q1 q2:aX -> Bool} (h:mQ E Y kr ko mr mo p1 p2) (e1:∀ k,p1 k = q1 k) (e2:∀ k,p2 k = q2 k):mQ E Y kr ko mr mo q1 q2:=by
 rwa [show p1 = q1 from funext e1,show p2 = q2 from funext e2] at h
theorem Tw (h:bK E) {a:V} {rs:List aG} (ia:IS cQ a rs) (hs:∀ x ∈ rs,Small x) (hE:gE rs = if rG rs = true then 2 else if fV rs = true then 2 else 0) (hl:rs.length <= 4294967296) {Y:Sg} {kr ko mr mo:Nat} (bx:mQ E Y kr ko mr mo (fun _=>false) (fun _=>false)) (F:FT) (g0:F.get 0 = a) (g7:F.get 7 = .ref kr 0) (g8:F.get 8 = .ref ko 0) (hk:∀ nm σ',K (.fJ [.int .i64 (gE rs),.str nm]) σ') :
  R E (cutAt [1,1,1,1] (aA Tryz.f108).code) [] ⟨81,F⟩ Y (kS E (aA Tryz.f108).results K):=by
 have la:=cA h ia
 have key:=fun (hE':gE rs = if fV rs = true then 2 else 0) Y p2 bx F g0 g7=>Tx (K:=K) (Y:=Y) (kr:=kr) (ko:=ko) (mr:=mr) (mo:=mo) (p2:=p2) h ia hs hE' hl bx F g0 g7 hk
 rw [show cutAt [1,1,1,1] (aA Tryz.f108).code = .seq (cutAt [1,1,1,1,0] (aA Tryz.f108).code) (cutAt [1,1,1,1,1] (aA Tryz.f108).code) from rfl]
 have d16:=h.O5
 simp only [aA,Tryz.f108,cutAt,Option.getD_some] at d16
 generalize cutAt [1,1,1,1,1] (aA Tryz.f108).code = C at key ⊢
 simp only [aA,Tryz.f108,KP,↓reduceIte,Nat.reduceLT,cutAt,g0,la]
 refine aP (fun i F Y=>F.get 0 = a /\ F.get 7 = .ref kr 0 /\ F.get 8 = .ref ko 0 /\ F.get 35 = a /\ F.get 36 = .int .i64 (rs.length:Int) /\ F.get 37 = .int .i64 (i:Int) /\ mQ E Y kr ko mr mo (gU (rs.take i)) (uH (rs.take i)) /\ ∀ j,j < i -> nG rs j = false) rs.length ?_ ?_ rs.length 0 _ _ (by omega) (B8 (by simp +decide only [GS,g0,g7,g8,and_self]) ⟨bx,fun j hj=>by omega⟩)
 ·rintro i F Y hi ⟨g0,g7,g8,g35,g36,g37,bx,hp⟩ next
  obtain ⟨r,hr⟩:∃ y,rs[i]? = some y:=⟨_,List.getElem?_eq_getElem hi⟩
  obtain ⟨g,p1,p2',p3,p4,e1,i1,i2,i3,i4⟩:=eE h ia hr
  have hsm:=hs r (List.mem_of_getElem? hr)
  have a2:=hsm.outs
  have o1:=aI i1.bB
  have o2:=aI i2.bB
  have o3:=aI i3.bB
  have o4:=aI i4.bB
  have hlt:=d_ hi
  have hadd:=bU i (by omega)
  have lo:=bH h i2
  have bx1:=bx.app (O.cells 37 [.str r.name,p1,p2',p3,p4] true)
  have s1:(Y ++ [O.cells 37 [.str r.name,p1,p2',p3,p4] true])[Y.length]? = some (O.cells 37 [.str r.name,p1,p2',p3,p4] true):=aQ
  rw [aF]
  simp only [KP,Ax.loadAt,Ax.storeAt,↓reduceIte,Nat.reduceEqDiff,Nat.reduceLT,Nat.reduceAdd,h.bD,h.rZ,g7,g8,g35,g36,g37,hlt,e1,o1,o2,o3,o4,aQ,cV]
  generalize Y ++ [O.cells 37 [.str r.name,p1,p2',p3,p4] true] = τ1 at *
  generalize Y.length = y at *
  obtain ⟨es1,hm1,hsb1⟩:=bx1.m1
  obtain ⟨es2,hm2,hsb2⟩:=bx1.m2
  have bb1:=bx1.b1
  have ef:=CO (f:=145) h bx1.b2 hm2 hsb2
  have kf:=c_ (fun K=>qA (Z:=τ1) (K:=K) (k:=145) (caps:=[.cT true [.imp true es2]]) (P:=uH (rs.take i)) h (i2.ls τ1 9) (by omega) (fun c hc=>by cases hc with | head=>rfl | tail _ hc=>cases hc) (fun y v hy hv=>by
   subst hv
   show aB E 145 [.str y,.cT true [.imp true es2]] [] _
   rw [MX h hsb2]; exact ⟨rfl,rfl⟩) ef)
  have hlk:=wQ (Z:=τ1) (x:=.mp mr) h (by unfold entriesOf; simp only [hm1]) hsb1 r.name
  have hcl:=B6 hr
  have yes:nG rs i = true -> gE rs = 2:=fun e=>by
   rw [hE,if_pos]
   exact List.any_eq_true.2 ⟨i,List.mem_range.2 hi,e⟩
  cases m1:gU (rs.take i) r.name with
  | true=>
   rw [m1,Bool.true_or] at hcl
   rw [yes hcl] at hk
   simp only [KP,Ax.loadAt,↓reduceIte,Nat.reduceEqDiff,Nat.reduceLT,reduceCtorEq,h.cK,h.bD,s1,bb1,hlk,m1,bG d16,cC]
   exact hk _ _
  | false=>
  rw [m1,Bool.false_or] at hcl
  cases m2:r.outs.any (uH (rs.take i)) with
  | true=>
   rw [m2] at hcl
   rw [yes hcl] at hk
   simp only [KP,Ax.loadAt,↓reduceIte,Nat.reduceEqDiff,Nat.reduceLT,reduceCtorEq,h.cK,h.aR,h.bD,s1,bb1,hlk,kf,m1,m2,bG d16,cC]
   exact hk _ _
  | false=>
  rw [m2] at hcl
  obtain ⟨es1',hu,hsb1'⟩:=GM h hm1 hsb1 r.name
  have bx2:=bx1.QE hsb1'
  have ny:mr ≠ y:=oN hm1 s1 (by intro e; cases e)
  have s2:(τ1.set mr (.map es1'))[y]? = some (O.cells 37 [.str r.name,p1,p2',p3,p4] true):=by rw [List.getElem?_set_ne ny]; exact s1
  simp only [KP,Ax.loadAt,↓reduceIte,Nat.reduceEqDiff,Nat.reduceLT,reduceCtorEq,h.cK,h.aR,h.bD,h.rZ,g7,s1,bb1,hlk,kf,m1,m2,hu,s2,lo]
  refine aP (fun j F Y=>F.get 0 = a /\ F.get 7 = .ref kr 0 /\ F.get 8 = .ref ko 0 /\ F.get 35 = a /\ F.get 36 = .int .i64 (rs.length:Int) /\ F.get 37 = .int .i64 (i:Int) /\ F.get 58 = p2' /\ F.get 59 = .int .i64 (r.outs.length:Int) /\ F.get 60 = .int .i64 (j:Int) /\ mQ E Y kr ko mr mo (fun k=>gU (rs.take i) k || decide (k = r.name)) (fun k=>uH (rs.take i) k || decide (k ∈ r.outs.take j))) r.outs.length ?_ ?_ r.outs.length 0 _ _ (by omega) (zX (by simp +decide only [GS,g0,g7,g8,g35,g36,g37,and_self]) (bx2.congr (fun _=>rfl) (fun k=>by simp)))
  ·rintro j F Y hj ⟨g0,g7,g8,g35,g36,g37,g58,g59,g60,bx⟩ next2
   obtain ⟨s,hsj⟩:∃ y,r.outs[j]? = some y:=⟨_,List.getElem?_eq_getElem hj⟩
   obtain ⟨g',e2⟩:=fM h i2 hsj
   have hlt2:=d_ hj
   have hadd2:=bU j (by omega)
   obtain ⟨es3,hm3,hsb3⟩:=bx.m2
   obtain ⟨es3',hu3,hsb3'⟩:=GM h hm3 hsb3 s
   have bb2:=bx.b2
   rw [aF]
   simp only [KP,Ax.loadAt,↓reduceIte,Nat.reduceEqDiff,Nat.reduceLT,h.cK,h.rZ,g8,g58,g59,g60,hlt2,e2,bb2,hu3,hadd2]
   refine next2 _ _ (zX (by simp +decide only [GS,g0,g7,g8,g35,g36,g37,g58,g59,and_self]) ((bx.put2 hsb3').congr (fun _=>rfl) (fun k=>?_)))
   rw [List.take_add_one,hsj,Bool.or_assoc,Bool.eq_iff_iff]
   simp
  ·rintro F Y ⟨g0,g7,g8,g35,g36,g37,g58,g59,g60,bx⟩
   rw [List.take_of_length_le (Nat.le_refl _)] at bx
   have hlt2:=eA (Nat.lt_irrefl r.outs.length)
   rw [aF]
   simp only [KP,↓reduceIte,Nat.reduceEqDiff,Nat.reduceLT,g37,g59,g60,hlt2,hadd]
   refine next _ _ (B8 (by simp +decide only [GS,g0,g7,g8,g35,g36,and_self]) ⟨bx.congr (fun k=>(Fm hr k).symm) (fun k=>(He hr k).symm),fun j hj=>?_⟩)
   rcases Nat.lt_or_ge j i with g | g
   ·exact hp j g
   ·obtain rfl:j = i:=by omega
    exact hcl
 ·rintro F Y ⟨g0,g7,g8,g35,g36,g37,bx,hp⟩
  have hcl:rG rs = false:=List.any_eq_false.2 fun j hj=>by rw [hp j (List.mem_range.1 hj)]; simp
  rw [if_neg (by rw [hcl]; simp)] at hE
  rw [List.take_of_length_le (Nat.le_refl _)] at bx
  have hlt:=eA (Nat.lt_irrefl rs.length)
  rw [aF]
  simp only [KP,↓reduceIte,Nat.reduceLT,g36,g37,hlt]
  exact key hE _ _ bx _ (by simp +decide only [GS,g0]) (by simp +decide only [GS,g7])
end
end
section
section
variable {E:Env} {Z:Sg} {K:V -> Sg -> Prop}
theorem tV {Y:Sg} {a b c d:O} {n:Nat}:(Y ++ [a] ++ [b] ++ [c] ++ [d])[Y.length + n]? = [a,b,c,d][n]?:=by
 rw [List.append_assoc,List.append_assoc,List.append_assoc,List.getElem?_append_right (by omega),Nat.add_sub_cancel_left]
 rfl
theorem MC {Y:Sg} {a b c d x:O}:(Y ++ [a] ++ [b] ++ [c] ++ [d]).set (Y.length + 2) x = Y ++ [a] ++ [b] ++ [x] ++ [d]:=by
 rw [List.append_assoc,List.append_assoc,List.append_assoc,List.set_append_right _ _ (by omega),Nat.add_sub_cancel_left,List.append_assoc,List.append_assoc,List.append_assoc]
 rfl
theorem Kb {Y:Sg} {a b c d x:O}:(Y ++ [a] ++ [b] ++ [c] ++ [d]).set (Y.length + 3) x = Y ++ [a] ++ [b] ++ [c] ++ [x]:=by
 rw [List.append_assoc,List.append_assoc,List.append_assoc,List.set_append_right _ _ (by omega),Nat.add_sub_cancel_left,List.append_assoc,List.append_assoc,List.append_assoc]
 rfl
theorem Hy {Y:Sg} {a b c:O}:(Y ++ [a]).length = Y.length + 1 /\ (Y ++ [a] ++ [b]).length = Y.length + 2 /\ (Y ++ [a] ++ [b] ++ [c]).length = Y.length + 3:=by simp
theorem Je (h:bK E) {a:V} {rs:List aG} (ha:LS cQ 37 Z a rs) (hs:∀ x ∈ rs,Small x) (hl:rs.length <= 4294967296):aB E 108 [a] Z fun v σ'=>σ' = Z /\ ∃ nm,v = .fJ [.int .i64 (gE rs),.str nm]:=by
 obtain ⟨a',ea,ia⟩:=dB h ha
 rw [aH h.Vb h.SQ h.VU h.Ul (args':=[a']) (by simp only [aU,ea]),aZ (by kernel_rfl)]
 have la:=cA h ia
 have key:=fun hE Y kr ko mr mo bx F g0 g7 g8=>Tw (K:=fun v σ1=>match dI σ1 E.ty false v with
   | some v=>∃ nm,v = .fJ [.int .i64 (gE rs),.str nm]
   | none=>False) (Y:=Y) (kr:=kr) (ko:=ko) (mr:=mr) (mo:=mo) h ia hs hE hl bx F g0 g7 g8 (fun nm σ'=>⟨nm,rfl⟩)
 rw [show (aA Tryz.f108).code = .seq (cutAt [0] (aA Tryz.f108).code) (.seq (cutAt [1,0] (aA Tryz.f108).code) (.seq (cutAt [1,1,0] (aA Tryz.f108).code) (.seq (cutAt [1,1,1,0] (aA Tryz.f108).code) (cutAt [1,1,1,1] (aA Tryz.f108).code)))) from rfl]
 have d6:=h.Rw
 simp only [aA,Tryz.f108,cutAt,Option.getD_some] at d6
 generalize cutAt [1,1,1,1] (aA Tryz.f108).code = C at key ⊢
 simp only [aA,Tryz.f108,KP,↓reduceIte,Nat.reduceLT,reduceCtorEq,kK,cutAt,la]
 refine aP (fun i F Y=>F.get 0 = a' /\ F.get 16 = a' /\ F.get 17 = .int .i64 (rs.length:Int) /\ F.get 18 = .int .i64 (i:Int) /\ ∀ (j:Nat) (r:aG),j < i -> rs[j]? = some r -> aY r = 0) rs.length ?_ ?_ rs.length 0 _ _ (by omega) (gC (by simp +decide only [GS,and_self]) (fun j r hj=>by omega))
 ·rintro i F Y hi ⟨g0,g16,g17,g18,hp⟩ next
  obtain ⟨r,hr⟩:∃ y,rs[i]? = some y:=⟨_,List.getElem?_eq_getElem hi⟩
  obtain ⟨g,p1,p2,p3,p4,e1,i1,i2,i3,i4⟩:=eE h ia hr
  have hsm:=hs r (List.mem_of_getElem? hr)
  have o1:=aI i1.bB
  have o2:=aI i2.bB
  have o3:=aI i3.bB
  have o4:=aI i4.bB
  have hlt:=d_ hi
  have hadd:=bU i (by omega)
  have s1:(Y ++ [O.cells 37 [.str r.name,p1,p2,p3,p4] true])[Y.length]? = some (O.cells 37 [.str r.name,p1,p2,p3,p4] true):=aQ
  have kr:=fun (Y:Sg)=>Ox (Z:=Y) h (v:=.agg [.str r.name,p1,p2,p3,p4]) ⟨p1,p2,p3,p4,rfl,i1,i2,i3,i4⟩ hsm
  rw [aF]
  simp only [KP,Ax.loadAt,Ax.storeAt,↓reduceIte,Nat.reduceEqDiff,Nat.reduceLT,Nat.reduceAdd,h.bD,g16,g17,g18,hlt,e1,o1,o2,o3,o4,aQ,cV]
  generalize Y ++ [O.cells 37 [.str r.name,p1,p2,p3,p4] true] = τ1 at *
  generalize Y.length = y at *
  by_cases he:aY r = 0
  ·have q:=decide_eq_true he
   simp only [KP,↓reduceIte,Nat.reduceEqDiff,Nat.reduceLT,g18,kr,q,hadd]
   refine next _ _ (gC (by simp +decide only [GS,g0,g16,g17,and_self]) (fun j x hj hx=>?_))
   rcases Nat.lt_or_ge j i with g | g
   ·exact hp j x g hx
   ·obtain rfl:j = i:=by omega
    rw [hr] at hx; cases hx; exact he
  ·have q:=decide_eq_false he
   rw [yN hr he fun j s hj hx=>hp j s hj hx]
   simp only [KP,Ax.loadAt,↓reduceIte,Nat.reduceEqDiff,Nat.reduceLT,reduceCtorEq,h.cK,h.bD,s1,kr,q,bG d6,cC]
   exact ⟨r.name,rfl⟩
 ·rintro F Y ⟨g0,g16,g17,g18,hp⟩
  have hE:=wZ fun j s hx=>hp j s (List.getElem?_eq_some_iff.1 hx).1 hx
  have hlt:=eA (Nat.lt_irrefl rs.length)
  rw [aF]
  by_cases h40:40 < rs.length
  ·have q:decide ((40:Int) < (rs.length:Int)) = true:=decide_eq_true (by omega)
   rw [if_pos h40] at hE
   rw [hE]
   simp only [KP,↓reduceIte,Nat.reduceEqDiff,Nat.reduceLT,reduceCtorEq,kK,g0,g17,g18,hlt,la,q]
   exact ⟨[],rfl⟩
  ·have q:decide ((40:Int) < (rs.length:Int)) = false:=decide_eq_false (by omega)
   rw [if_neg h40] at hE
   have n1:=(Hy (Y:=Y) (a:=.map []) (b:=.map []) (c:=.cells 98 [.bQ] true)).1
   have n2:=(Hy (Y:=Y) (a:=.map []) (b:=.map []) (c:=.cells 98 [.bQ] true)).2.1
   have n3:=(Hy (Y:=Y) (a:=.map []) (b:=.map []) (c:=.cells 98 [.bQ] true)).2.2
   have q1:(Y ++ [O.map []] ++ [O.map []] ++ [O.cells 98 [.bQ] true] ++ [O.cells 98 [.bQ] true])[Y.length + 2]? = some (O.cells 98 [.bQ] true):=tV
   have q2:(Y ++ [O.map []] ++ [O.map []] ++ [O.cells 98 [.mp Y.length] true] ++ [O.cells 98 [.bQ] true])[Y.length + 3]? = some (O.cells 98 [.bQ] true):=tV
   simp only [KP,Ax.storeAt,↓reduceIte,Nat.reduceEqDiff,Nat.reduceLT,reduceCtorEq,h.rZ,g0,g17,g18,hlt,la,q,n1,n2,n3,q1,q2,MC,Kb]
   refine key hE _ (Y.length + 2) (Y.length + 3) Y.length (Y.length + 1) ⟨tV,tV,⟨[],tV (n:=0),G2⟩,⟨[],tV,G2⟩,by omega⟩ _ ?_ ?_ ?_
   ·exact (by simp +decide only [GS,g0])
   ·exact (by simp +decide only [GS])
   ·exact (by simp +decide only [GS])
end
end
section
section
variable {E:Env} {Z:Sg} {K:V -> Sg -> Prop}
theorem De {lt:List V -> List V -> Bool} (x:List V):∀ l,(FK lt x l).Perm (x :: l)
 | []=>.refl _
 | y :: r=>by
  rw [FK]
  split
  ·exact .refl _
  ·exact ((De x r).cons y).trans (.swap x y r)
theorem BK {lt:List V -> List V -> Bool}:∀ (l acc:List (List V)),(l.foldl (fun acc x=>FK lt x acc) acc).Perm (l ++ acc)
 | [],acc=>.refl _
 | x :: l,acc=>by
  rw [List.foldl_cons]
  refine (BK l _).trans ?_
  exact ((De x acc).append_left l).trans List.perm_middle
theorem GX {lt:List V -> List V -> Bool} (l:List (List V)):(lM lt l).Perm l:=by
 have:=BK (lt:=lt) l []
 rwa [List.append_nil] at this
def EG:List V -> aX
 | [.str s]=>s
 | _=>[]
theorem As:∀ {rs:List (List V)} {l:List aX},eY aK.P rs l -> rs = l.map fun s=>[V.str s]
 | _,_,.nil=>rfl
 | _,_,.cons h t=>by rw [List.map_cons,As t,show _ = [V.str _] from h]
theorem tO:∀ l:List aX,eY aK.P (l.map fun s=>[V.str s]) l
 | []=>.nil
 | _ :: l=>.cons rfl (tO l)
theorem yK:∀ l:List aX,((l.map fun s=>[V.str s]).flatten).map (fun v=>[v]) = l.map fun s=>[V.str s]
 | []=>rfl
 | s :: l=>by simp only [List.map_cons,List.flatten_cons,List.map_append,yK l]; rfl
theorem Ab:∀ {l:List aX},(∀ s ∈ l,s.length <= 9223372036854775807) -> allRows jQ (l.map fun s=>[V.str s]) = true
 | [],_=>rfl
 | s :: l,h=>by
  have h1:jQ [V.str s] = true:=Nat.ble_eq_true_of_le (h s (List.mem_cons_self ..))
  rw [List.map_cons,allRows,h1]
  exact Ab fun x hx=>h x (List.mem_cons_of_mem _ hx)
theorem CJ:∀ {rows:List (List V)},(∀ r ∈ rows,∃ s,r = [V.str s]) -> rows = (rows.map EG).map fun s=>[V.str s]
 | [],_=>rfl
 | r :: rows,h=>by
  obtain ⟨s,e⟩:=h r (List.mem_cons_self ..)
  rw [List.map_cons,List.map_cons,<- CJ fun x hx=>h x (List.mem_cons_of_mem _ hx),e]
  rfl
theorem tT {Z:Sg} {w:V} {l:List aX} (ow:bI aK 9 Z w l) (hl:l.length <= 1000000) (hs:∀ s ∈ l,s.length <= 9223372036854775807):∃ σ' l',oC 9 [w] Z = some (.fJ [],σ') /\ l'.Perm l /\ bI aK 9 σ' w l' /\ Sp Z σ' w /\ σ'.length = Z.length:=by
 rcases ow with ⟨rfl,rfl⟩ | ⟨b,rs,ex,rfl,hb,ha⟩
 ·exact ⟨Z,[],rfl,.refl _,.inl ⟨rfl,rfl⟩,Sp.refl _ _,rfl⟩
 ·obtain rfl:=As ha
  have hp:(lM strLt (l.map fun s=>[V.str s])).Perm (l.map fun s=>[V.str s]):=GX _
  have he:((lM strLt (l.map fun s=>[V.str s])).map EG).Perm l:=by
   have:=hp.map EG
   rwa [List.map_map,show EG ∘ (fun s=>[V.str s]) = id from rfl,List.map_id] at this
  have hr:lM strLt (l.map fun s=>[V.str s]) = ((lM strLt (l.map fun s=>[V.str s])).map EG).map fun s=>[V.str s]:=by
   refine CJ fun r hr=>?_
   obtain ⟨s,-,e⟩:=List.mem_map.1 (hp.mem_iff.1 hr)
   exact ⟨s,e.symm⟩
  have hlen:((l.map fun s=>[V.str s]).flatten).length = l.length:=by
   have:=congrArg List.length (yK l)
   rwa [List.length_map,List.length_map] at this
  refine ⟨Z.set b (.cells 9 (lM strLt (l.map fun s=>[V.str s])).flatten ex),_,?_,he,.inr ⟨b,_,ex,?_,?_,tO _⟩,?_,?_⟩
  ·unfold oC
   simp only [hb,yK,Ab hs,show Nat.beq 9 9 = true from rfl,hlen,Nat.ble_eq_true_of_le hl,show Nat.beq l.length l.length = true from Nat.beq_refl _]
  ·rw [List.length_map,hp.length_eq,List.length_map]
  ·rw [List.getElem?_set_self (List.getElem?_eq_some_iff.1 hb).1,<- hr]
  ·intro c o hc hn
   rw [List.getElem?_set_ne (fun e=>hn (by rw [<- e]; rfl))]
   exact hc
  ·rw [List.length_set]
end
end
section
section
variable {E:Env} {Z:Sg} {K:V -> Sg -> Prop}
def OL (Y:Sg) (v:V) (l:List aX):Prop:=(v = .aC /\ l = []) \/ ∃ b cs ex,v = .sl b 0 l.length none /\ Y[b]? = some (.cells 9 cs ex) /\ cs.take l.length = l.map V.str
theorem BO:∀ l:List aX,(l.map fun s=>[V.str s]).flatten = l.map V.str
 | []=>rfl
 | s :: l=>by simp only [List.map_cons,List.flatten_cons,BO l]; rfl
theorem FI (h:bK E) {b off n k:Nat} (hk:k < n):indexAddr E 28 (.sl b off n none) (.int .i64 (k:Int)) = some (.ref b (off + k)):=by
 unfold Ax.indexAddr
 simp only [h.aR,h.cK,show ¬ ((k:Int) < 0) by omega,if_false,Int.toNat_natCast,hk,if_true,Nat.mul_one]
theorem IQ (h:bK E) {Y:Sg} {b j:Nat} {A:List aX} {ex:Bool} {s:aX} (hb:Y[b]? = some (O.cells 9 (A.map V.str) ex)) (hj:A[j]? = some s):loadAt E Y 9 (.ref b j) = some (.str s):=by
 unfold Ax.loadAt
 have e:(A.map V.str)[j]? = some (.str s):=by rw [List.getElem?_map,hj]; rfl
 simp only [h.cK,hb,e,Ax.isAgg]
 rfl
theorem vV:∀ (A:List aX) (j:Nat) (s:aX),j < A.length -> setCells (A.map V.str) j [.str s] = (A.set j s).map V.str
 | [],_,_,h=>absurd h (by simp)
 | a :: A,0,s,_=>rfl
 | a :: A,j + 1,s,h=>by
  have:=vV A j s (by simpa using h)
  simp only [List.map_cons,List.set_cons_succ,<- this]
  rfl
theorem R9 (h:bK E) {Y:Sg} {b j:Nat} {A:List aX} {ex:Bool} {s:aX} (hb:Y[b]? = some (O.cells 9 (A.map V.str) ex)) (hj:j < A.length):storeAt E Y 9 (.ref b j) (.str s) = some (Y.set b (O.cells 9 ((A.set j s).map V.str) ex)):=by
 unfold Ax.storeAt
 have e:decide (j + 1 <= (A.map V.str).length) = true:=decide_eq_true (by rw [List.length_map]; omega)
 simp only [h.cK,hb,V.cells,List.length_cons,List.length_nil,List.all_cons,List.all_nil,V.aT,e,vV A j s hj]
 rfl
theorem Mh (h:bK E) {Y:Sg} {b off n:Nat}:lenOf E Y 28 (.sl b off n none) = some n:=by unfold lenOf; rw [h.aR]
theorem I5 (h:bK E) {Y:Sg} {b n k:Nat} {A:List aX} {ex:Bool} (hb:Y[b]? = some (O.cells 9 (A.map V.str) ex)) (hn:n = A.length) (hk:k < n):Ax.slice E Y 28 (.sl b 0 n none) (some (.int .i64 (k:Int))) none none = some (.sl b k (n - k) none):=by
 unfold Ax.slice
 simp only [h.aR,h.cK,hb,bound,show decide (0 <= (k:Int)) = true from decide_eq_true (by omega),show decide ((k:Int) <= (n:Int)) = true from decide_eq_true (by omega),Bool.and_self,if_true,Int.toNat_natCast,Nat.zero_add]
 show (if (1:Nat) = 0 then none else if (!(9 == 9)) = true then none else if k * 1 < (A.map V.str).length then some (V.sl b (k * 1) (n - k) none) else _) = _
 rw [if_neg (by decide),if_neg (by decide),if_pos (by rw [List.length_map]; omega),Nat.mul_one]
theorem Nw (h:bK E) {Y:Sg} {b n k:Nat} {cs:List V} {ex:Bool} (hb:Y[b]? = some (.cells 9 cs ex)) (hn:n = cs.length) (hk:k < n):Ax.slice E Y 28 (.sl b 0 n none) none (some (.int .i64 (k:Int))) none = some (.sl b 0 k none):=by
 unfold Ax.slice
 simp only [h.aR,h.cK,hb,bound,EJ,show decide (0 <= (k:Int)) = true from decide_eq_true (by omega),Int.toNat_natCast,Nat.zero_mul,Nat.add_zero,Nat.sub_zero,Bool.true_and]
 show (if (1:Nat) = 0 then none else if (!(9 == 9)) = true then none else match if decide ((k:Int) <= ((cs.length / 1:Nat):Int)) = true then some k else none with
  | none=>none
  | some h=>if 0 < cs.length then some (V.sl b 0 h none) else _) = _
 rw [if_neg (by decide),if_neg (by decide),if_pos (by rw [Nat.div_one]; exact decide_eq_true (by omega))]
 show (if 0 < cs.length then some (V.sl b 0 k none) else _) = _
 rw [if_pos (by omega)]
theorem MP (h:bK E) {Y:Sg} {b n k:Nat} {A:List aX} {ex:Bool} (hb:Y[b]? = some (O.cells 9 (A.map V.str) ex)) (hn:n = A.length) (hk:k < n):∃ cs,Ax.builtin E Y .clear #[28] [.sl b k (n - k) none] = some (.fJ [],Y.set b (.cells 9 cs ex)) /\ cs.take k = (A.take k).map V.str /\ cs.length = n:=by
 have hne:¬ n - k = 0:=by omega
 have hle:decide (k + (n - k) * 1 <= (A.map V.str).length) = true:=decide_eq_true (by rw [List.length_map]; omega)
 refine ⟨setCells (A.map V.str) k (gQ (n - k) [.str []]),?_,?_,?_⟩
 ·unfold Ax.builtin
  show (match E.ty 28 with
   | some { kd:=.sl e,.. }=>match E.ty e,Y[b]? with
    | some i,some (.cells u cs ex)=>
     if n - k = 0 then some (V.fJ [],Y)
     else if u == e && decide (k + (n - k) * i.size <= cs.length) then some (V.fJ [],Y.set b (.cells u (setCells cs k (gQ (n - k) i.zero.cells)) ex)) else none
    | _,_=>none
   | _=>none) = _
  simp only [h.aR,h.cK,hb,hne,if_false]
  rw [hle]
  rfl
 ·rw [List.map_take]
  clear hle hne
  unfold setCells
  rw [List.append_assoc,List.take_append_of_le_length (by rw [List.length_take,List.length_map]; omega),List.take_take,Nat.min_self]
 ·have hr:∀ m,(gQ m [V.str []]).length = m:=fun m=>by
   induction m with
   | zero=>rfl
   | succ m ih=>rw [gQ,List.length_append,ih]; simp; omega
  unfold setCells
  simp only [List.length_append,List.length_take,List.length_drop,List.length_map,hr]
  omega
end
end
section
section
variable {E:Env} {Z:Sg} {K:V -> Sg -> Prop}
theorem Sp.set {Z Y:Sg} {w:V} {b:Nat} {y:O} (h:Sp Z Y w) (hb:aW w = some b):Sp Z (Y.set b y) w:=fun c o hc hn=>by
 rw [List.getElem?_set_ne (fun e=>hn (by rw [hb,e]))]
 exact h c o hc hn
theorem dP {l:List aX} {k:Nat} {u:aX} (hu:l[k]? = some u) (x:aX):x ∈ l.take (k + 1) ↔ x ∈ l.take k \/ x = u:=by
 rw [List.take_add_one,hu]; simp
theorem Dv (h:bK E) {w:V} {l:List aX} (ow:bI aK 9 Z w l) (hl:l.length <= 1000000):aB E 110 [w] Z fun v σ'=>(∃ l',OL σ' v l' /\ l'.length <= l.length /\ ∀ x,x ∈ l' ↔ x ∈ l) /\ (∀ c,aW v = some c -> aW w = some c) /\ Sp Z σ' w /\ σ'.length = Z.length:=by
 rw [fG h.U_ h.SO h.VS h.Uj,aZ (by kernel_rfl)]
 rcases ow with ⟨rfl,rfl⟩ | ⟨b,rs,ex,rfl,hb,ha⟩
 ·have ln:lenOf E Z 28 .aC = some 0:=by unfold lenOf; rw [h.aR]
  simp only [aA,Tryz.f110,KP,↓reduceIte,Nat.reduceLT,reduceCtorEq,Int.reduceLT,ln]
  exact ⟨⟨[],.inl ⟨rfl,rfl⟩,Nat.le_refl _,fun x=>Iff.rfl⟩,fun c hc=>hc,Sp.refl _ _⟩
 obtain rfl:=As ha
 rw [BO] at hb
 have hls:OL Z (.sl b 0 l.length none) l:=.inr ⟨b,_,ex,rfl,hb,List.take_of_length_le (by rw [List.length_map]; exact Nat.le_refl _)⟩
 have lw:∀ Y,lenOf E Y 28 (.sl b 0 l.length none) = some l.length:=fun Y=>Mh h
 by_cases h2:l.length < 2
 ·have q:decide ((l.length:Int) < 2) = true:=decide_eq_true (by omega)
  simp only [aA,Tryz.f110,KP,↓reduceIte,Nat.reduceLT,reduceCtorEq,lw,q]
  exact ⟨⟨l,hls,Nat.le_refl _,fun x=>Iff.rfl⟩,fun c hc=>hc,Sp.refl _ _⟩
 have q:decide ((l.length:Int) < 2) = false:=decide_eq_false (by omega)
 have d6:=h.Rv
 simp only [aA,Tryz.f110,cutAt,Option.getD_some] at d6
 have d11:=h.O3
 simp only [aA,Tryz.f110,cutAt,Option.getD_some] at d11
 simp only [aA,Tryz.f110,KP,↓reduceIte,Nat.reduceLT,reduceCtorEq,lw,q]
 refine aP (fun i F Y=>Y = Z /\ F.get 0 = .sl b 0 l.length none /\ F.get 3 = .int .i64 ((i + 1:Nat):Int)) (l.length - 1) ?_ ?_ (l.length - 1) 0 _ _ (by omega) ⟨rfl,(by simp +decide only [GS]),(by simp +decide only [GS]; rfl)⟩
 ·rintro i F Y hi ⟨rfl,g0,g3⟩ next
  obtain ⟨x,hx⟩:∃ x,l[i + 1]? = some x:=⟨_,List.getElem?_eq_getElem (by omega)⟩
  obtain ⟨y,hy⟩:∃ y,l[i]? = some y:=⟨_,List.getElem?_eq_getElem (by omega)⟩
  have hlt:=d_ (show i + 1 < l.length by omega)
  have hdn:=CG (i + 1) (by omega) (by omega)
  rw [Nat.add_sub_cancel] at hdn
  have hadd:=bU (i + 1) (by omega)
  have e1:=FI (b:=b) (off:=0) h (show i + 1 < l.length by omega)
  have e2:=FI (b:=b) (off:=0) h (show i < l.length by omega)
  rw [Nat.zero_add] at e1 e2
  have e3:=IQ h hb hx
  have e4:=IQ h hb hy
  rw [aF]
  by_cases hxy:x = y
  case neg=>
   have hs:=fZ hxy
   simp only [KP,↓reduceIte,Nat.reduceEqDiff,Nat.reduceLT,reduceCtorEq,g0,g3,lw,hlt,hdn,hadd,e1,e2,e3,e4,hs,bG d6,cC]
   exact next _ _ ⟨rfl,(by simp +decide only [GS,g0,and_self])⟩
  have hs:=gP hxy
  have e5:=I5 h hb rfl (show i + 1 < l.length by omega)
  simp only [KP,↓reduceIte,Nat.reduceEqDiff,Nat.reduceLT,reduceCtorEq,g0,g3,lw,hlt,hdn,e1,e2,e3,e4,e5,hs,bG d6,cC]
  have hly:y ∈ l.take (i + 1):=List.mem_of_getElem? (by rw [List.getElem?_take_of_lt (Nat.lt_succ_self i)]; exact hy)
  have bo:aW (.sl b 0 l.length none) = some b:=rfl
  have lw2:∀ Y,lenOf E Y 28 (.sl b (i + 1) (l.length - (i + 1)) none) = some (l.length - (i + 1)):=fun Y=>Mh h
  refine aP (fun j F τ'=>F.get 0 = .sl b 0 l.length none /\ F.get 4 = .sl b (i + 1) (l.length - (i + 1)) none /\ F.get 5 = .int .i64 ((j + 1:Nat):Int) /\ Sp Y τ' (.sl b 0 l.length none) /\ τ'.length = Y.length /\ ∃ (A:List aX) (K:Nat),τ'[b]? = some (O.cells 9 (A.map V.str) ex) /\ A.length = l.length /\ F.get 3 = .int .i64 (K:Int) /\ i + 1 <= K /\ K <= i + 1 + j /\ (∀ p,i + 1 + j <= p -> A[p]? = l[p]?) /\ ∀ x,x ∈ A.take K ↔ x ∈ l.take (i + 1 + j + 1)) (l.length - (i + 1) - 1) ?_ ?_ (l.length - (i + 1) - 1) 0 _ _ (by omega) (kQ (by simp +decide only [GS,g0,and_self]) ⟨(by simp +decide only [GS]; rfl),Sp.refl _ _,rfl,l,i + 1,hb,rfl,(by simp +decide only [GS,g3]),Nat.le_refl _,Nat.le_refl _,fun p _=>rfl,fun z=>by
   rw [dP (k:=i + 1 + 0) (u:=x) hx]
   constructor
   ·exact .inl
   ·rintro (g | rfl)
    ·exact g
    ·rw [hxy]; exact hly⟩)
  ·rintro j F τ' hj ⟨g0,g4,g5,sp,hlen,A,K,hA,hAl,g3,hK1,hK2,hag,hmem⟩ next2
   obtain ⟨u,hu⟩:∃ u,l[i + 1 + j + 1]? = some u:=⟨_,List.getElem?_eq_getElem (by omega)⟩
   obtain ⟨v,hv⟩:∃ v,l[i + 1 + j]? = some v:=⟨_,List.getElem?_eq_getElem (by omega)⟩
   have hu':A[i + 1 + (j + 1)]? = some u:=(hag _ (by omega)).trans hu
   have hv':A[i + 1 + j]? = some v:=(hag _ (by omega)).trans hv
   have hlt2:=d_ (show j + 1 < l.length - (i + 1) by omega)
   have hdn2:=CG (j + 1) (by omega) (by omega)
   rw [Nat.add_sub_cancel] at hdn2
   have hadd2:=bU (j + 1) (by omega)
   have hadd3:=bU K (by omega)
   have f1:=FI (b:=b) (off:=i + 1) h (show j + 1 < l.length - (i + 1) by omega)
   have f2:=FI (b:=b) (off:=i + 1) h (show j < l.length - (i + 1) by omega)
   have f3:=IQ h hA hu'
   have f4:=IQ h hA hv'
   have f5:=FI (b:=b) (off:=0) h (show K < l.length by omega)
   rw [Nat.zero_add] at f5
   have f6:=R9 (s:=u) h hA (show K < A.length by omega)
   have hms:∀ z,z ∈ l.take (i + 1 + (j + 1) + 1) ↔ z ∈ l.take (i + 1 + j + 1) \/ z = u:=dP hu
   rw [aF]
   by_cases huv:u = v
   ·have hs2:=gP huv
    simp only [KP,↓reduceIte,Nat.reduceEqDiff,Nat.reduceLT,g4,g5,lw2,hlt2,hdn2,hadd2,f1,f2,f3,f4,hs2,bG d11,cC]
    refine next2 _ _ (jG (by simp +decide only [GS,g0,g4,and_self]) ⟨sp,hlen,A,K,hA,hAl,(by simp +decide only [GS,g3]),hK1,by omega,fun p hp=>hag p (by omega),fun z=>?_⟩)
    rw [hms,hmem]
    constructor
    ·exact .inl
    ·rintro (g | rfl)
     ·exact g
     ·rw [huv]
      exact List.mem_of_getElem? (by rw [List.getElem?_take_of_lt (Nat.lt_succ_self (i + 1 + j))]; exact hv)
   ·have hs2:=fZ huv
    simp only [KP,↓reduceIte,Nat.reduceEqDiff,Nat.reduceLT,reduceCtorEq,g0,g3,g4,g5,lw2,hlt2,hdn2,hadd2,hadd3,f1,f2,f3,f4,f5,f6,hs2,bG d11,cC]
    refine next2 _ _ (jG (by simp +decide only [GS,g0,g4,and_self]) ⟨Sp.set sp bo,by rw [List.length_set]; exact hlen,A.set K u,K + 1,by rw [List.getElem?_set_self (List.getElem?_eq_some_iff.1 hA).1],by rw [List.length_set]; exact hAl,(by simp +decide only [GS]),by omega,by omega,fun p hp=>?_,fun z=>?_⟩)
    ·rw [List.getElem?_set_ne (by omega)]; exact hag p (by omega)
    ·rw [hms,<- hmem,dP (u:=u) (by rw [List.getElem?_set_self (by omega)]),List.take_set_of_le (Nat.le_refl K)]
  ·rintro F τ' ⟨g0,g4,g5,sp,hlen,A,K,hA,hAl,g3,hK1,hK2,hag,hmem⟩
   have hlt2:=eA (show ¬ l.length - (i + 1) - 1 + 1 < l.length - (i + 1) by omega)
   have f1:=I5 h hA hAl.symm (show K < l.length by omega)
   obtain ⟨cs,f2,f3,f4⟩:=MP h hA hAl.symm (show K < l.length by omega)
   have hA2:(τ'.set b (.cells 9 cs ex))[b]? = some (.cells 9 cs ex):=by rw [List.getElem?_set_self (List.getElem?_eq_some_iff.1 hA).1]
   have f5:=Nw h hA2 f4.symm (show K < l.length by omega)
   have hKl:(A.take K).length = K:=by rw [List.length_take]; omega
   rw [aF]
   simp only [KP,↓reduceIte,Nat.reduceEqDiff,Nat.reduceLT,reduceCtorEq,g0,g3,g4,g5,lw2,hlt2,f1,f2,f5]
   refine ⟨⟨A.take K,.inr ⟨b,cs,ex,by rw [hKl],hA2,by rw [hKl]; exact f3⟩,by rw [hKl]; omega,fun z=>?_⟩,fun c hc=>hc,Sp.set sp bo,by rw [List.length_set]; exact hlen⟩
   ·rw [hmem,show i + 1 + (l.length - (i + 1) - 1) + 1 = l.length by omega,List.take_of_length_le (Nat.le_refl _)]
 ·rintro F Y ⟨rfl,g0,g3⟩
  have hlt:=eA (show ¬ l.length - 1 + 1 < l.length by omega)
  rw [aF]
  simp only [KP,↓reduceIte,Nat.reduceEqDiff,Nat.reduceLT,reduceCtorEq,g0,g3,lw,hlt]
  exact ⟨⟨l,hls,Nat.le_refl _,fun x=>Iff.rfl⟩,fun c hc=>hc,Sp.refl _ _⟩
end
end
section
section
variable {E:Env} {Z:Sg} {K:V -> Sg -> Prop}
def MK (get:aX -> Option V) (P:aX -> aX -> Prop):Prop:=∀ k,(get k = none /\ ∀ n,¬ P k n) \/ ∃ n,P k n /\ get k = some (.str n)
theorem MK.nil:MK (fun _=>none) fun _ _=>False:=fun _=>.inl ⟨rfl,fun _ h=>h⟩
theorem MK.put {get:aX -> Option V} {P:aX -> aX -> Prop} (h:MK get P) (k n:aX):MK (fun q=>if q = k then some (.str n) else get q) fun q m=>P q m \/ (q = k /\ m = n):=fun q=>by
 by_cases hq:q = k
 ·exact .inr ⟨n,.inr ⟨hq,rfl⟩,if_pos hq⟩
 ·rcases h q with ⟨h1,h2⟩ | ⟨m,h1,h2⟩
  ·exact .inl ⟨(if_neg hq).trans h1,fun m hm=>hm.elim (h2 m) fun g=>hq g.1⟩
  ·exact .inr ⟨m,.inl h1,(if_neg hq).trans h2⟩
theorem MK.congr {get:aX -> Option V} {P Q:aX -> aX -> Prop} (h:MK get P) (e:∀ k n,P k n ↔ Q k n):MK get Q:=fun k=>by
 rcases h k with ⟨h1,h2⟩ | ⟨n,h1,h2⟩
 ·exact .inl ⟨h1,fun n hn=>h2 n ((e k n).2 hn)⟩
 ·exact .inr ⟨n,(e k n).1 h1,h2⟩
theorem IK (h:bK E) {Z:Sg} {x:V} {es:List (V × V)} {get:aX -> Option V} (hx:entriesOf Z x = some es) (hs:SM E es get) (k:aX):lookup E Z 104 x (.str k) true = some (match get k with | some v=>.fJ [v,.bool true] | none=>.fJ [.str [],.bool false]):=by
 have hk:dS E 9 (.str k) = true:=by unfold dS; rw [h.cK]
 unfold Ax.lookup
 simp only [h.AO,h.cK,hk,hx,hs.2 k,Bool.not_true,Bool.false_eq_true,if_false]
 cases get k <;> rfl
theorem PY (h:bK E) {Z:Sg} {b:Nat} {es:List (V × V)} {get:aX -> Option V} (hb:Z[b]? = some (.map es)) (hs:SM E es get) (k n:aX):∃ es',mapUpdate E Z 104 (.mp b) (.str k) (.str n) = some (Z.set b (.map es')) /\ SM E es' fun q=>if q = k then some (.str n) else get q:=by
 obtain ⟨es',h1,h2⟩:=DR h (v:=.str n) k rfl hs
 have hk:dS E 9 (.str k) = true:=by unfold dS; rw [h.cK]
 refine ⟨es',?_,h2⟩
 unfold Ax.mapUpdate
 simp only [h.AO,hk,hb,h1,eU,V.aT,Bool.not_true,Bool.or_self,Bool.false_eq_true,if_false,Option.map_some]
def Mk (rs:List aG) (k n:aX):Prop:=∃ r ∈ rs,k ∈ r.outs /\ n = r.name
theorem Jk {rs:List aG} {i:Nat} {r:aG} (hr:rs[i]? = some r) (k n:aX):Mk (rs.take (i + 1)) k n ↔ Mk (rs.take i) k n \/ (k ∈ r.outs /\ n = r.name):=by
 unfold Mk
 rw [List.take_add_one,hr]
 simp only [List.mem_append,Option.toList_some,List.mem_singleton]
 constructor
 ·rintro ⟨q,hq | rfl,h⟩
  ·exact .inl ⟨q,hq,h⟩
  ·exact .inr h
 ·rintro (⟨q,hq,h⟩ | h)
  ·exact ⟨q,.inl hq,h⟩
  ·exact ⟨r,.inr rfl,h⟩
theorem TO (h:bK E) {a:V} {rs:List aG} (ia:IS cQ a rs) (hs:∀ x ∈ rs,Small x) (hl:rs.length <= 4294967296) (F:FT) (g0:F.get 0 = a) (g3:F.get 3 = .mp 0)
  (hk:∀ F' Y es get,F'.get 0 = a -> F'.get 3 = .mp 0 -> Y[0]? = some (.map es) -> SM E es get -> MK get (Mk rs) -> R E (cutAt [1,1,1] (aA Tryz.f147).code) [] ⟨74,F'⟩ Y (kS E (aA Tryz.f147).results K)) :
  R E (cutAt [1,1] (aA Tryz.f147).code) [] ⟨74,F⟩ [.map []] (kS E (aA Tryz.f147).results K):=by
 have la:=cA h ia
 rw [show cutAt [1,1] (aA Tryz.f147).code = .seq (cutAt [1,1,0] (aA Tryz.f147).code) (cutAt [1,1,1] (aA Tryz.f147).code) from rfl]
 generalize cutAt [1,1,1] (aA Tryz.f147).code = C at hk ⊢
 simp only [aA,Tryz.f147,KP,↓reduceIte,Nat.reduceLT,cutAt,g0,la]
 refine aP (fun i F Y=>F.get 0 = a /\ F.get 3 = .mp 0 /\ F.get 17 = a /\ F.get 18 = .int .i64 (rs.length:Int) /\ F.get 19 = .int .i64 (i:Int) /\ ∃ es get,Y[0]? = some (.map es) /\ SM E es get /\ MK get (Mk (rs.take i))) rs.length ?_ ?_ rs.length 0 _ _ (by omega) (lP (by simp +decide only [GS,g0,g3,and_self]) ⟨[],fun _=>none,rfl,G1,MK.nil.congr fun k n=>⟨fun h=>h.elim,fun ⟨r,hr,_⟩=>by cases hr⟩⟩)
 ·rintro i F Y hi ⟨g0,g3,g17,g18,g19,es,get,hb,hsm,hmk⟩ next
  obtain ⟨r,hr⟩:∃ y,rs[i]? = some y:=⟨_,List.getElem?_eq_getElem hi⟩
  obtain ⟨g,p1,p2,p3,p4,e1,i1,i2,i3,i4⟩:=eE h ia hr
  have hsr:=hs r (List.mem_of_getElem? hr)
  have a2:=hsr.outs
  have o1:=aI i1.bB
  have o2:=aI i2.bB
  have o3:=aI i3.bB
  have o4:=aI i4.bB
  have hlt:=d_ hi
  have hadd:=bU i (by omega)
  have lo:=bH h i2
  have hb1:=aL (x:=O.cells 37 [.str r.name,p1,p2,p3,p4] true) hb
  have s1:(Y ++ [O.cells 37 [.str r.name,p1,p2,p3,p4] true])[Y.length]? = some (O.cells 37 [.str r.name,p1,p2,p3,p4] true):=aQ
  rw [aF]
  simp only [KP,Ax.loadAt,Ax.storeAt,↓reduceIte,Nat.reduceEqDiff,Nat.reduceLT,Nat.reduceAdd,reduceCtorEq,h.aR,h.bD,g17,g18,g19,hlt,e1,o1,o2,o3,o4,aQ,cV]
  generalize Y ++ [O.cells 37 [.str r.name,p1,p2,p3,p4] true] = τ1 at *
  generalize Y.length = y at *
  simp only [KP,↓reduceIte,Nat.reduceLT,lo]
  refine aP (fun j F Y=>F.get 0 = a /\ F.get 3 = .mp 0 /\ F.get 17 = a /\ F.get 18 = .int .i64 (rs.length:Int) /\ F.get 19 = .int .i64 (i:Int) /\ F.get 5 = .ref y 0 /\ F.get 24 = p2 /\ F.get 25 = .int .i64 (r.outs.length:Int) /\ F.get 26 = .int .i64 (j:Int) /\ Y[y]? = some (O.cells 37 [.str r.name,p1,p2,p3,p4] true) /\ ∃ es get,Y[0]? = some (.map es) /\ SM E es get /\ MK get fun k n=>Mk (rs.take i) k n \/ (k ∈ r.outs.take j /\ n = r.name)) r.outs.length ?_ ?_ r.outs.length 0 _ _ (by omega) (zX (by simp +decide only [GS,g0,g3,g17,g18,g19,and_self]) ⟨s1,es,get,hb1,hsm,hmk.congr fun k n=>by simp⟩)
  ·rintro j F Y hj ⟨g0,g3,g17,g18,g19,g5,g24,g25,g26,s1,es,get,hb,hsm,hmk⟩ next2
   obtain ⟨s,hsj⟩:∃ y,r.outs[j]? = some y:=⟨_,List.getElem?_eq_getElem hj⟩
   obtain ⟨g',e2⟩:=fM h i2 hsj
   have hlt2:=d_ hj
   have hadd2:=bU j (by omega)
   obtain ⟨es',hu,hsm'⟩:=PY h hb hsm s r.name
   have hy0:0 ≠ y:=oN hb s1 (by intro e; cases e)
   rw [aF]
   simp only [KP,Ax.loadAt,↓reduceIte,Nat.reduceEqDiff,Nat.reduceLT,reduceCtorEq,h.cK,h.bD,g3,g5,g24,g25,g26,hlt2,e2,s1,hu,hadd2]
   refine next2 _ _ (zX (by simp +decide only [GS,g0,g3,g17,g18,g19,g5,g24,g25,and_self]) ⟨by rw [List.getElem?_set_ne hy0]; exact s1,es',_,by rw [List.getElem?_set_self (List.getElem?_eq_some_iff.1 hb).1],hsm',(hmk.put s r.name).congr fun k n=>?_⟩)
   rw [dP hsj]
   constructor
   ·rintro ((h1 | h1) | h1)
    ·exact .inl h1
    ·exact .inr ⟨.inl h1.1,h1.2⟩
    ·exact .inr ⟨.inr h1.1,h1.2⟩
   ·rintro (h1 | ⟨h1 | h1,h2⟩)
    ·exact .inl (.inl h1)
    ·exact .inl (.inr ⟨h1,h2⟩)
    ·exact .inr ⟨h1,h2⟩
  ·rintro F Y ⟨g0,g3,g17,g18,g19,g5,g24,g25,g26,s1,es,get,hb,hsm,hmk⟩
   rw [List.take_of_length_le (Nat.le_refl _)] at hmk
   have hlt2:=eA (Nat.lt_irrefl r.outs.length)
   rw [aF]
   simp only [KP,↓reduceIte,Nat.reduceEqDiff,Nat.reduceLT,g19,g25,g26,hlt2,hadd]
   exact next _ _ (lP (by simp +decide only [GS,g0,g3,g17,g18,and_self]) ⟨es,get,hb,hsm,hmk.congr fun k n=>(Jk hr k n).symm⟩)
 ·rintro F Y ⟨g0,g3,g17,g18,g19,es,get,hb,hsm,hmk⟩
  rw [List.take_of_length_le (Nat.le_refl _)] at hmk
  have hlt:=eA (Nat.lt_irrefl rs.length)
  rw [aF]
  simp only [KP,↓reduceIte,Nat.reduceLT,g18,g19,hlt]
  exact hk _ _ es get (by simp +decide only [GS,g0]) (by simp +decide only [GS,g3]) hb hsm hmk
end
end
section
section
variable {E:Env} {Z:Sg} {K:V -> Sg -> Prop}
theorem OL.keep {Z Y:Sg} {v:V} {l:List aX} (h:OL Z v l) (k:∀ (c:Nat) (o:O),aW v = some c -> Z[c]? = some o -> Y[c]? = some o):OL Y v l:=by
 rcases h with h | ⟨b,cs,ex,rfl,hb,ht⟩
 ·exact .inl h
 ·exact .inr ⟨b,cs,ex,rfl,k b _ rfl hb,ht⟩
theorem OL.ok {Z:Sg} {v:V} {l:List aX} (h:OL Z v l):eU v = true:=by
 rcases h with ⟨rfl,-⟩ | ⟨b,cs,ex,rfl,-⟩ <;> rfl
def PM (v:V) (l:List aX):Prop:=(v = .aC /\ l = []) \/ ∃ full,v = .bP false (l.map fun s=>[V.str s]) full
theorem nR:∀ l:List aX,Ax.rows 1 l.length (l.map V.str) = l.map fun s=>[V.str s]
 | []=>rfl
 | s :: l=>by
  rw [List.length_cons,List.map_cons,Ax.rows,List.map_cons]
  exact congrArg _ (nR l)
theorem OL.snap (h:bK E) {Z:Sg} {v:V} {l:List aX} {m:Nat} (ho:OL Z v l):∃ v',bM Z E.ty false (m + 2) v = some v' /\ PM v' l:=by
 rcases ho with ⟨rfl,rfl⟩ | ⟨b,cs,ex,rfl,hb,ht⟩
 ·exact ⟨.aC,rfl,.inl ⟨rfl,rfl⟩⟩
 ·have hle:l.length <= cs.length:=by
   have:=congrArg List.length ht
   rw [List.length_take,List.length_map] at this
   omega
  have ht1:cs.take (l.length * 1) = l.map V.str:=by rw [Nat.mul_one]; exact ht
  obtain ⟨full,e⟩:=EY (g:=false) (n:=l.length) (m:=m) hb h.cK (show l.length * 1 <= _ by omega) (fun c hcm=>by
   rw [show cs.take (l.length * 1) = l.map V.str from ht1] at hcm
   obtain ⟨s,-,rfl⟩:=List.mem_map.1 hcm
   exact ⟨rfl,rfl⟩)
  refine ⟨_,e,.inr ⟨full,?_⟩⟩
  show V.bP false (Ax.rows 1 l.length (cs.take (l.length * 1))) full = _
  rw [ht1,nR]
theorem PM.tag {v:V} {l:List aX} (h:PM v l):cM false v = true:=by
 rcases h with ⟨rfl,-⟩ | ⟨full,rfl⟩ <;> rfl
def vL (Y:Sg) (N:aG -> aX -> Prop) (es:List (V × V)) (rs:List aG):Prop:=eY (fun e r=>e.1 = V.str r.name /\ ∃ l,OL Y e.2 l /\ l.length <= 1000000 /\ ∀ x,x ∈ l ↔ N r x) es rs
def xK (N:aG -> aX -> Prop) (es:List (V × V)) (rs:List aG):Prop:=eY (fun e r=>e.1 = V.str r.name /\ ∃ l,PM e.2 l /\ l.length <= 1000000 /\ ∀ x,x ∈ l ↔ N r x) es rs
theorem vL.keep {Z Y:Sg} {N:aG -> aX -> Prop} {mA:Nat} {em:List (V × V)} {es:List (V × V)} {rs:List aG} (h:vL Z N es rs) (hm:Z[mA]? = some (.map em)) (k:∀ (c:Nat) (o:O),Z[c]? = some o -> c ≠ mA -> Y[c]? = some o):vL Y N es rs:=by
 refine eY.imp h fun e r ⟨h1,l,h2,h3⟩=>⟨h1,l,h2.keep fun c o hc ho=>k c o ho ?_,h3⟩
 rintro rfl
 rcases h2 with ⟨e0,-⟩ | ⟨b,cs,ex,e0,hb,-⟩
 ·rw [e0] at hc; cases hc
 ·rw [e0] at hc
  cases hc
  rw [hm] at hb
  cases hb
theorem Bk (h:bK E) {k:aX} {v:V}:∀ {es:List (V × V)},(∀ e ∈ es,∃ q,e.1 = V.str q /\ q ≠ k) -> jZ (fA E 9) (.str k) v es = some (es ++ [(.str k,v)])
 | [],_=>rfl
 | (k0,v0) :: es,hs=>by
  obtain ⟨q,e1,hq⟩:=hs _ (List.mem_cons_self ..)
  dsimp only at e1
  subst e1
  rw [jZ,bT h,fZ (Ne.symm hq)]
  simp only [Bk h fun e he=>hs e (List.mem_cons_of_mem _ he)]
  rfl
theorem HW (h:bK E) {Y:Sg} {b:Nat} {N:aG -> aX -> Prop} {es:List (V × V)} {rs:List aG} {r:aG} {v:V} {l:List aX} (hb:Y[b]? = some (.map es)) (ha:vL Y N es rs) (hn:∀ q ∈ rs,q.name ≠ r.name) (hv:OL Y v l) (hl:l.length <= 1000000) (hm:∀ x,x ∈ l ↔ N r x) :
  mapUpdate E Y 96 (.mp b) (.str r.name) v = some (Y.set b (.map (es ++ [(.str r.name,v)]))) /\ vL (Y.set b (.map (es ++ [(.str r.name,v)]))) N (es ++ [(.str r.name,v)]) (rs ++ [r]):=by
 have hk:dS E 9 (.str r.name) = true:=by unfold dS; rw [h.cK]
 have hp:=Bk (v:=v) (k:=r.name) h (es:=es) fun e he=>by
  obtain ⟨q,hq,h1,-⟩:=eY.mem ha he
  exact ⟨q.name,h1,hn q hq⟩
 have hkeep:∀ (c:Nat) (o:O),Y[c]? = some o -> c ≠ b -> (Y.set b (.map (es ++ [(.str r.name,v)])))[c]? = some o:=fun c o hc hcb=>by
  rw [List.getElem?_set_ne (Ne.symm hcb)]; exact hc
 refine ⟨?_,?_⟩
 ·unfold Ax.mapUpdate
  simp only [h.NB,hk,hb,hp,hv.ok,Bool.not_true,Bool.or_self,Bool.false_eq_true,if_false,Option.map_some]
 ·refine eY.append (ha.keep hb hkeep) (.cons ⟨rfl,l,hv.keep fun c o hc ho=>hkeep c o ho ?_,hl,hm⟩ .nil)
  rintro rfl
  rcases hv with ⟨e0,-⟩ | ⟨b',cs,ex,e0,hb',-⟩
  ·rw [e0] at hc; cases hc
  ·rw [e0] at hc
   cases hc
   rw [hb] at hb'
   cases hb'
theorem EV (h:bK E) {Y:Sg} {b:Nat} {N:aG -> aX -> Prop} {es:List (V × V)} {rs:List aG} (hb:Y[b]? = some (.map es)) (ha:vL Y N es rs):∃ es',dI Y E.ty false (.mp b) = some (.imp false es') /\ xK N es' rs:=by
 have key:∀ {es:List (V × V)} {rs:List aG},vL Y N es rs -> ∃ es',aU (fun (e:V × V)=>if e.1.cells.all Ax.plainCell then (match e.2 with
   | .agg cs=>match aU (fun v=>match bM Y E.ty false 11 v with
     | some v=>if cM false v then some v else Ax.no "snap: borrowed"
     | none=>none) cs with
    | some cs=>some (e.1,V.agg cs)
    | none=>none
   | v=>match (match bM Y E.ty false 11 v with
     | some v=>if cM false v then some v else Ax.no "snap: borrowed"
     | none=>none) with
    | some v=>some (e.1,v)
    | none=>none) else none) es = some es' /\ xK N es' rs:=by
  intro es rs ha
  induction ha with
  | nil=>exact ⟨[],rfl,.nil⟩
  | @cons e r es rs h1 _ ih=>
   obtain ⟨es',e1,a1⟩:=ih
   obtain ⟨a,v⟩:=e
   obtain ⟨h2,l,h3,h4,h5⟩:=h1
   dsimp only at h2 h3
   subst h2
   obtain ⟨v',e2,sv⟩:=h3.snap (m:=9) h
   refine ⟨(.str r.name,v') :: es',?_,.cons ⟨rfl,l,sv,h4,h5⟩ a1⟩
   rw [aU]
   have hpc:(V.str r.name).cells.all Ax.plainCell = true:=rfl
   have ht:=sv.tag
   rcases h3 with ⟨rfl,-⟩ | ⟨b',cs,ex,rfl,-⟩
   ·simp only [hpc,if_true,e2,ht,e1]
   ·simp only [hpc,if_true,e2,ht,e1]
 obtain ⟨es',e1,a1⟩:=key ha
 refine ⟨es',?_,a1⟩
 have e:bM Y E.ty false 12 (.mp b) = some (.imp false es'):=by
  rw [bM]
  simp only [hb]
  exact congrArg (fun o=>match o with
   | some l=>some (V.imp false l)
   | none=>none) e1
 show a_.one Y E.ty false (.mp b) = _
 unfold a_.one
 rw [show dY = 12 from rfl,e]
 rfl
end
end
section
section
variable {E:Env} {Z:Sg} {K:V -> Sg -> Prop}
theorem QK (h:bK E) {τ0 Y:Sg} {w p1 p2 p3 p4:V} {l:List aX} {r:aG} {y mA:Nat} {es:List (V × V)} {N:aG -> aX -> Prop} {rs:List aG} (ow:bI aK 9 Y w l) (hl:l.length <= 1000000) (kp:Kp τ0 Y) (fr:∀ b,aW w = some b -> τ0.length <= b) (hy:τ0[y]? = some (O.cells 37 [.str r.name,p1,p2,p3,p4] true)) (hA:τ0[mA]? = some (.map es)) (ha:vL τ0 N es rs) (hn:∀ q ∈ rs,q.name ≠ r.name) (hm:∀ x,x ∈ l ↔ N r x)
  (F:FT) (g8:F.get 8 = .mp mA) (g10:F.get 10 = .ref y 0) (g11:F.get 11 = w) {st:List lX} {Q:Ax.X -> Fr -> Sg -> Prop}
  (hk:∀ F' τ' es',(∀ k,k ∈ [0,3,8,37,38,39] -> F'.get k = F.get k) -> τ'[mA]? = some (.map es') -> vL τ' N es' (rs ++ [r]) -> (∀ (c:Nat) (o:O),τ0[c]? = some o -> c ≠ mA -> τ'[c]? = some o) -> M E st .normal ⟨74,F'⟩ τ' Q):R E (.region 24 (opsOf (cutAt [1,1,1,1,0,1,2,2,1,1,0,2,1,1,1,1] (aA Tryz.f147).code)) true) st ⟨74,F⟩ Y Q:=by
 obtain ⟨n,v,τ1,hcall,⟨l',ol,hle,hmem⟩,hbk,sp,hlen⟩:=Dv h ow hl
 have kp1:Kp τ0 τ1:=fun c o hc=>sp c o (kp c o hc) fun e=>absurd (List.getElem?_eq_some_iff.1 hc).1 (by have:=fr c e; omega)
 have hy0:=kp _ _ hy
 have hy1:=kp1 _ _ hy
 have hA1:=kp1 _ _ hA
 obtain ⟨hu,ha2⟩:=HW h hA1 (ha.keep hA fun c o hc _=>kp1 c o hc) hn ol (by omega) (fun x=>(hmem x).trans (hm x))
 have vs:=vO 11 r.name
 have key:∃ F',cB E (ev E n) (opsOf (cutAt [1,1,1,1,0,1,2,2,1,1,0,2,1,1,1,1] (aA Tryz.f147).code)) ⟨74,F⟩ Y = some (⟨74,F'⟩,τ1.set mA (.map (es ++ [(.str r.name,v)]))) /\ (∀ k,k ∈ [0,3,8,37,38,39] -> F'.get k = F.get k):=by
  unfold cB
  rw [h.Ns,h.NU]
  simp only [aA,Tryz.f147,KP,Ax.loadAt,↓reduceIte,Nat.reduceEqDiff,Nat.reduceLT,Nat.reduceAdd,reduceCtorEq,h.cK,h.bD,opsOf,cutAt,gO,bF,bV,jT,Ax.comp,Ax.last,gT,Ax.again,aM,g8,g10,g11,hy0,hy1,hcall,hu,vs]
  refine ⟨_,rfl,fun k hk=>?_⟩
  simp only [List.mem_cons,List.not_mem_nil,or_false] at hk
  rcases hk with rfl | rfl | rfl | rfl | rfl | rfl <;> simp +decide only [GS]
 obtain ⟨F',hD,h1⟩:=key
 refine Eq.mpr (iF hD) (hk F' _ _ h1 (by rw [List.getElem?_set_self (List.getElem?_eq_some_iff.1 hA1).1]) ha2 fun c o hc hcm=>?_)
 rw [List.getElem?_set_ne (Ne.symm hcm)]
 exact kp1 c o hc
end
end
end Go.Proofs.YtlbbdpkjeeiahaaGreatDoor
end
