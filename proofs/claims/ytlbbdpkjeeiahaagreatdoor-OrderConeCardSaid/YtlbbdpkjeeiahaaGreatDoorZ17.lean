/- Part 17 of the proof's own texts (pressed by a program of its author's). -/
import Derived.Test.YtlbbdpkjeeiahaaGreatDoorZ16
import Derived.Test.YtlbbdpkjeeiahaaGreatDoorZ15
section
set_option maxRecDepth 10000
set_option maxHeartbeats 8000000
set_option linter.unusedVariables false
namespace Go.Proofs.YtlbbdpkjeeiahaaGreatDoor
open Go Go.Ax Go.AxS
section
section
variable {E:Env} {Z:Sg} {K:V -> Sg -> Prop}
theorem RB (m b o n:Nat):sL (m + 1) (.sl b o n none) (.sl b o n none) = true:=by
 show (decide (b = b) && decide (o = o) && decide (n = n)) = true
 simp
theorem I1 (h:bM E) {Y:Sg} {b:Nat} {ex:Bool} {rs:List (List V)} (hl:∀ r ∈ rs,r.length = 5) (hb:Y[b]? = some (.cells 75 rs.flatten ex)) {i:Nat} {r:List V} (hr:rs[i]? = some r) {k:Nat} (hk:k < 5) {u:V} (hu:Ax.bE u = true) :
  storeAt E Y 28 (.ref b (i * 5 + k)) u = some (Y.set b (.cells 75 (rs.set i (r.set k u)).flatten ex)):=by
 have hil:=(List.getElem?_eq_some_iff.1 hr).1
 have hfl:rs.flatten.length = rs.length * 5:=mV rs hl
 unfold storeAt
 simp only [h.aV,hb]
 rw [iT hu,if_pos (by simp only [List.length_cons,List.length_nil,List.all_cons,List.all_nil,aJ hu,Bool.and_true,Bool.and_eq_true,decide_eq_true_eq]; exact ⟨rfl,by omega⟩),MJ hl hr hk]
theorem JG (h:bM E) {Y:Sg} {b:Nat} {ex:Bool} {rs:List (List V)} (hl:∀ r ∈ rs,r.length = 5) (hb:Y[b]? = some (.cells 75 rs.flatten ex)) {i:Nat} {r:List V} (hr:rs[i]? = some r) {k:Nat} (hk:k < 5) {u:V} (hu:r[k]? = some u):loadAt E Y 28 (.ref b (i * 5 + k)) = some u:=by
 unfold loadAt
 simp only [h.aV,hb,Ax.isAgg,Bool.false_eq_true,if_false]
 rw [oN rs hl i r hr k hk,hu]
theorem Nl (h:bM E) {l:List AxS.Step} {s:AxS.Step} {nm:aZ} {a' b' c' w:V} {Y:Sg} {i:Nat} (hi:l[i]? = some s) (x0:Y[2]? = some (O.cells 37 [.str nm,a',b',c',w] true)) (ow:bD f_ 75 Y w l) (F:FT) (g1:F.get 2 = .ref 1 0) (g3:F.get 3 = .ref 2 0) (g4:F.get 4 = .int .i64 (i:Int)) {st:List kH} {Q:Ax.X -> Fr -> Sg -> Prop}
  (hk:∀ F' τ',(∀ k,k < 44 -> F'.get k = F.get k) -> bD f_ 75 τ' w (l.set i (AN s)) -> Sp Y τ' w -> M E st .normal ⟨86,F'⟩ τ' Q):R E (.region 6 (opsOf (cutAt [1,1,1,0,1,2,2,1,1,0,2,1] (aA Tryz.f59).code)) true) st ⟨86,F⟩ Y Q:=by
 have hil:=(List.getElem?_eq_some_iff.1 hi).1
 rcases ow with ⟨rfl,rfl⟩ | ⟨b,rs,ex,rfl,hb,ha⟩
 ·cases hi
 obtain ⟨r,hr,hP⟩:=ha.get i s hi
 obtain ⟨p,q,rfl,ip,iq⟩:=hP
 have hls:=Lay.lens ha
 have hls:∀ r ∈ rs,r.length = 5:=hls
 obtain ⟨p1,e1,ip1⟩:=D5 h ip 8
 obtain ⟨q1,e2,iq1⟩:=D5 h iq 3
 have lp:=bL h ip.is
 have lq:=bL h iq.is
 have m1:=DM s.args.length 8
 have m2:=DM s.lits.length 3
 have m1:iV false .i64 (s.args.length:Int) [.int .i64 8] = some ((min s.args.length 8:Nat):Int):=m1
 have m2:iV false .i64 (s.lits.length:Int) [.int .i64 3] = some ((min s.lits.length 3:Nat):Int):=m2
 have ix:indexAddr E 35 (.sl b 0 l.length none) (.int .i64 (i:Int)) = some (.ref b (i * 5)):=by
  have hneg:¬ ((i:Int) < 0):=by omega
  unfold indexAddr
  simp only [hneg,if_false,h.fF,h.cO,Int.toNat_natCast,hil,if_true,Nat.zero_add]
 have d1:=JG h hls hb hr (k:=2) (by omega) (u:=p) rfl
 have d2:=JG h hls hb hr (k:=3) (by omega) (u:=q) rfl
 have s1:=I1 h hls hb hr (k:=2) (by omega) (u:=p1) ip1.is.bE
 have hbl:=(List.getElem?_eq_some_iff.1 hb).1
 have hrl:=(List.getElem?_eq_some_iff.1 hr).1
 have hr1:(rs.set i [.str s.out,.int .i64 s.op,p1,q,.int .i64 s.n])[i]? = some [.str s.out,.int .i64 s.op,p1,q,.int .i64 s.n]:=List.getElem?_set_self hrl
 have ha1:eT f_.P (rs.set i [.str s.out,.int .i64 s.op,p1,q,.int .i64 s.n]) (l.set i { s with args:=s.args.take 8 }):=ha.set (y:={ s with args:=s.args.take 8 }) ⟨p1,q,rfl,ip1,iq⟩ i
 have hls1:∀ r ∈ rs.set i [.str s.out,.int .i64 s.op,p1,q,.int .i64 s.n],r.length = 5:=Lay.lens ha1
 have s1:storeAt E Y 28 (.ref b (i * 5 + 2)) p1 = some (Y.set b (.cells 75 (rs.set i [.str s.out,.int .i64 s.op,p1,q,.int .i64 s.n]).flatten ex)):=s1
 have hb1:(Y.set b (.cells 75 (rs.set i [.str s.out,.int .i64 s.op,p1,q,.int .i64 s.n]).flatten ex))[b]? = some (.cells 75 (rs.set i [.str s.out,.int .i64 s.op,p1,q,.int .i64 s.n]).flatten ex):=tZ hb
 have s2:=I1 h hls1 hb1 hr1 (k:=3) (by omega) (u:=q1) iq1.is.bE
 have hb2:b ≠ 2:=fun e=>by subst e; rw [hb] at x0; cases x0
 have x1:(Y.set b (.cells 75 (rs.set i [.str s.out,.int .i64 s.op,p1,q,.int .i64 s.n]).flatten ex))[2]? = some (O.cells 37 [.str nm,a',b',c',.sl b 0 l.length none] true):=pL x0 hb2
 have ldx:∀ Y:Sg,Y[2]? = some (O.cells 37 [.str nm,a',b',c',.sl b 0 l.length none] true) -> loadAt E Y 35 (.ref 2 4) = some (.sl b 0 l.length none):=fun Y hx=>by
  unfold loadAt
  simp only [h.fF,hx,Ax.isAgg,Bool.false_eq_true,if_false]
  rfl
 have w0:=ldx _ x0
 have w1:=ldx _ x1
 have v1:=RB 11 b 0 l.length
 have v2:=fun k i=>IW 11 k i
 have v3:=cA 10 iq1.is
 generalize hτ1:Y.set b (.cells 75 (rs.set i [.str s.out,.int .i64 s.op,p1,q,.int .i64 s.n]).flatten ex) = τ1 at *
 have key:∃ F',cI E (ev E 0) (opsOf (cutAt [1,1,1,0,1,2,2,1,1,0,2,1] (aA Tryz.f59).code)) ⟨86,F⟩ Y = some (⟨86,F'⟩,τ1.set b (.cells 75 ((rs.set i [.str s.out,.int .i64 s.op,p1,q,.int .i64 s.n]).set i ([V.str s.out,.int .i64 s.op,p1,q,.int .i64 s.n].set 3 q1)).flatten ex)) /\ ∀ k,k < 44 -> F'.get k = F.get k:=by
  unfold cI
  rw [h.TO,h.Vk]
  simp only [aA,Tryz.f59,KP,↓reduceIte,Nat.reduceEqDiff,Nat.reduceLT,Nat.reduceAdd,reduceCtorEq,h.aV,h.fF,h.bI,h.cO,opsOf,cutAt,iC,bK,bZ,kD,Ax.comp,Ax.last,iG,Ax.again,aQ,g3,g4,w0,w1,ix,d1,d2,lp,lq,m1,m2,e1,e2,s1,s2,v1,v2,v3]
  refine ⟨_,rfl,fun k hk=>?_⟩
  simp only [FT.jO]
  repeat rw [if_neg (by omega)]
 obtain ⟨F',hE,hF⟩:=key
 refine Eq.mpr (iZ hE) (hk F' _ hF ?_ ?_)
 ·have hn:(l.set i (AN s)).length = l.length:=List.length_set
  refine .inr ⟨b,_,ex,by rw [hn],tZ hb1,?_⟩
  rw [List.set_set]
  exact ha.set (y:=AN s) ⟨p1,q1,rfl,ip1,iq1⟩ i
 ·intro c o e hne
  have hcb:b ≠ c:=fun e2=>hne (by rw [e2]; rfl)
  rw [<- hτ1,List.set_set,List.getElem?_set_ne hcb]; exact e
theorem EL {l:List AxS.Step} {i:Nat} {s:AxS.Step} (hi:l[i]? = some s):((l.take i).map AN ++ l.drop i).set i (AN s) = (l.take (i + 1)).map AN ++ l.drop (i + 1):=by
 have hil:=(List.getElem?_eq_some_iff.1 hi).1
 have h1:((l.take i).map AN).length = i:=by rw [List.length_map,List.length_take]; omega
 rw [List.set_append_right _ _ (by omega),h1,Nat.sub_self,List.drop_eq_getElem_cons hil,List.set_cons_zero,List.take_add_one,hi]
 simp
theorem LC (h:bM E) {v:V} {x:aG} (hv:Hh v x) (hx:Raw x):aB E 59 [v] Z fun v' σ'=>σ' = Z /\ ∃ a b c d,v' = .agg [.str x.name,a,b,c,d] /\ jZ aK a (cut x).ins /\ jZ aK b (cut x).outs /\ jZ aK c (cut x).after /\ jZ f_ d (cut x).steps:=by
 have ev:=hv.snap (E:=E) Z
 obtain ⟨a,b,c,d,rfl,ia,ib,ic,id⟩:=hv
 rw [aH h.hs59 h.sp59 h.fn59 h.md59 (args':=[.agg [.str x.name,a,b,c,d]]) (by simp only [aW,ev]),a_ (by kernel_rfl)]
 have ha:=aJ ia.bE
 have hb:=aJ ib.bE
 have hc:=aJ ic.bE
 have hd:=aJ id.bE
 simp only [aA,Tryz.f59,KP,↓reduceIte,Nat.reduceLT,Nat.reduceAdd,h.bI,ha,hb,hc,hd]
 refine Nn h ia ib ic id _ ?_ ?_ ?_
 ·exact (by simp +decide only [GS])
 ·exact (by simp +decide only [GS])
 intro F1 a1 b1 c1 d1 g1 g2 g3 i1 i2 i3 i4
 simp only [KP,Ax.loadAt,↓reduceIte,Nat.reduceLT,Nat.reduceAdd,h.bI,g3]
 refine aL (Tu h (x:=qO x) ⟨a1,b1,c1,d1,rfl,i1,i2,i3,i4⟩ hx.mid) ?_
 rintro v1 Y ⟨⟨a2,b2,c2,w,rfl,j1,j2,j3,ow,hw⟩,kp⟩
 have o1:=aJ j1.is.bE
 have o2:=aJ j2.is.bE
 have o3:=aJ j3.is.bE
 obtain ⟨hc1,hc2⟩:=p_ ow
 have z0:Y[1]? = some (O.cells 37 [.str [],.aC,.aC,.aC,.aC] true):=kp 1 _ rfl
 have x0:=kp 2 _ (show ([O.cells 37 [.str x.name,a,b,c,d] true,O.cells 37 [.str [],.aC,.aC,.aC,.aC] true,O.cells 37 [.str x.name,a1,b1,c1,d1] true]:Sg)[2]? = _ from rfl)
 have hw3:∀ k,aT w = some k -> 3 <= k:=hw
 have x1:=tZ (x:=O.cells 37 [.str x.name,a2,b2,c2,w] true) x0
 have z1:=pL (x:=O.cells 37 [.str x.name,a2,b2,c2,w] true) z0 (show (2:Nat) ≠ 1 by omega)
 have ow1:bD f_ 75 (Y.set 2 (O.cells 37 [.str x.name,a2,b2,c2,w] true)) w (qO x).steps:=ow.keep fun k o hk ho=>pL ho (fun e=>by have:=hw3 k hk; omega)
 have nm0:(qO x).name = x.name:=rfl
 have lw:∀ l:List AxS.Step,l.length = (qO x).steps.length -> ∀ Z,bD f_ 75 Z w l -> lenOf E Z 35 w = some (qO x).steps.length:=fun l hl Z o=>by rw [<- hl]; exact nD h.fF rfl o.ls
 have lw1:=lw _ rfl _ ow1
 simp only [KP,Ax.loadAt,Ax.storeAt,↓reduceIte,Nat.reduceEqDiff,Nat.reduceLT,Nat.reduceAdd,reduceCtorEq,h.fF,h.bI,g3,nm0,x0,x1,lw1,o1,o2,o3,hc2]
 generalize Y.set 2 (O.cells 37 [.str x.name,a2,b2,c2,w] true) = Y at *
 refine aR (fun i F Y=>Y[1]? = some (O.cells 37 [.str [],.aC,.aC,.aC,.aC] true) /\ Y[2]? = some (O.cells 37 [.str x.name,a2,b2,c2,w] true) /\ bD f_ 75 Y w (((qO x).steps.take i).map AN ++ (qO x).steps.drop i) /\ F.get 2 = .ref 1 0 /\ F.get 3 = .ref 2 0 /\ F.get 40 = .int .i64 ((qO x).steps.length:Int) /\ F.get 41 = .int .i64 (i:Int)) (qO x).steps.length ?_ ?_ (qO x).steps.length 0 _ _ (by omega) ⟨z1,x1,by simpa using ow1,(by simp +decide only [GS,g2,g3,and_self])⟩
 ·rintro i F Y hi ⟨z0,x0,ow,g2,g3,g40,g41⟩ next
  obtain ⟨s,hst⟩:∃ y,(qO x).steps[i]? = some y:=⟨_,List.getElem?_eq_getElem hi⟩
  have hlt:=dN hi
  have hsz:(qO x).steps.length <= 14:=by show (x.steps.take 14).length <= 14; rw [List.length_take]; omega
  have hadd:=bV i (by omega)
  have hli:(((qO x).steps.take i).map AN ++ (qO x).steps.drop i)[i]? = some s:=by
   rw [List.getElem?_append_right (by rw [List.length_map,List.length_take]; omega),List.length_map,List.length_take,show i - min i (qO x).steps.length = 0 by omega,List.getElem?_drop,Nat.add_zero,hst]
  rw [aF]
  simp only [KP,↓reduceIte,Nat.reduceEqDiff,Nat.reduceLT,g40,g41,hlt]
  refine Nl h hli x0 ow _ ?_ ?_ ?_ ?_
  ·exact (by simp +decide only [GS,g2])
  ·exact (by simp +decide only [GS,g3])
  ·exact (by simp +decide only [GS])
  intro F2 τ2 hF ow2 sp
  have k2:F2.get 2 = .ref 1 0:=by rw [hF 2 (by omega)]; exact (by simp +decide only [GS,g2])
  have k3:F2.get 3 = .ref 2 0:=by rw [hF 3 (by omega)]; exact (by simp +decide only [GS,g3])
  have k40:F2.get 40 = .int .i64 ((qO x).steps.length:Int):=by rw [hF 40 (by omega)]; exact (by simp +decide only [GS,g40])
  have k41:F2.get 41 = .int .i64 (i:Int):=by rw [hF 41 (by omega)]; exact (by simp +decide only [GS,g41])
  simp only [KP,↓reduceIte,Nat.reduceLT,k41,hadd]
  rw [EL hst] at ow2
  exact next _ _ ⟨sp _ _ z0 (sY z0 (by decide) ow),sp _ _ x0 (sY x0 (by decide) ow),ow2,(by simp +decide only [GS,k2,k3,k40,and_self])⟩
 ·rintro F Y ⟨z0,x0,ow,g2,g3,g40,g41⟩
  have hlt:=dQ (Nat.lt_irrefl (qO x).steps.length)
  rw [List.take_of_length_le (Nat.le_refl _),List.drop_of_length_le (Nat.le_refl _),List.append_nil] at ow
  have hne:=sY z0 (show 37 ≠ 75 by decide) ow
  have zz:=tZ (x:=O.cells 37 [.str x.name,a2,b2,c2,w] true) z0
  have ow3:bD f_ 75 (Y.set 1 (O.cells 37 [.str x.name,a2,b2,c2,w] true)) w ((qO x).steps.map AN):=ow.keep fun k o hk ho=>pL ho (fun e=>by rw [<- e] at hk; exact hne hk)
  rw [aF]
  simp only [KP,Ax.loadAt,Ax.storeAt,↓reduceIte,Nat.reduceEqDiff,Nat.reduceLT,Nat.reduceAdd,h.bI,g2,g3,g40,g41,hlt,x0,z0,zz,o1,o2,o3,hc2]
  generalize Y.set 1 (O.cells 37 [.str x.name,a2,b2,c2,w] true) = Y at *
  obtain ⟨d',e1,id'⟩:=nY h.cO rfl HF ow3
  have one:∀ {u:V},Ax.bE u = true -> cP false u = true -> aY.one Y E.ty false u = some u:=fun {u} h1 h2=>by
   have h3:=cR (Z:=Y) (ty:=E.ty) (g:=false) h1 h2
   cases u <;> first | exact h3 | cases h1
  have oned:aY.one Y E.ty false w = some d':=by
   rcases ow3 with ⟨rfl,-⟩ | ⟨b,rs,ex,rfl,-⟩
   ·exact e1
   ·exact e1
  have hsn:cW Y E.ty false (.agg [.str x.name,a2,b2,c2,w]) = some (.agg [.str x.name,a2,b2,c2,d']):=by
   show (match aW (aY.one Y E.ty false) [.str x.name,a2,b2,c2,w] with
    | some l=>some (V.agg l)
    | none=>none) = _
   simp only [aW,one (u:=.str x.name) rfl rfl,one j1.is.bE j1.tag,one j2.is.bE j2.tag,one j3.is.bE j3.tag,oned]
  rw [hsn]
  exact ⟨a2,b2,c2,d',rfl,j1,j2,j3,id'⟩
end
end
section
section
variable {E:Env} {Z:Sg} {K:V -> Sg -> Prop}
def mC:Lay aG:=⟨fun r x=>∃ a b c d,r = [.str x.name,a,b,c,d] /\ jZ aK a x.ins /\ jZ aK b x.outs /\ jZ aK c x.after /\ jZ f_ d x.steps,5,fun _ _ ⟨_,_,_,_,h,_⟩=>by rw [h]; rfl,fun _ _ ⟨a,b,c,d,h,h1,h2,h3,h4⟩ k hk=>by
 rw [h] at hk
 simp only [List.mem_cons,List.not_mem_nil,or_false] at hk
 rcases hk with rfl | rfl | rfl | rfl | rfl
 ·rfl
 ·exact h1.is.bE
 ·exact h2.is.bE
 ·exact h3.is.bE
 ·exact h4.is.bE⟩
theorem BE:∀ r x,mC.P r x -> ∀ k ∈ r,cP false k = true:=fun r x ⟨a,b,c,d,h,h1,h2,h3,h4⟩ k hk=>by
 rw [h] at hk
 simp only [List.mem_cons,List.not_mem_nil,or_false] at hk
 rcases hk with rfl | rfl | rfl | rfl | rfl
 ·rfl
 ·exact h1.tag
 ·exact h2.tag
 ·exact h3.tag
 ·exact h4.tag
theorem pE {α:Type} {L M:Lay α} {v:V} {l:List α} (h:IS L v l) (k:∀ r x,L.P r x -> M.P r x):IS M v l:=h.imp id fun ⟨g,rs,full,e,ha⟩=>⟨g,rs,full,e,ha.imp k⟩
theorem PF {α:Type} {L M:Lay α} {t:Nat} {Z:Sg} {v:V} {l:List α} (h:LS L t Z v l) (hn:L.n = M.n) (k:∀ r x,L.P r x -> M.P r x):LS M t Z v l:=h.imp (fun h=>pE h k) fun ⟨b,cs,ex,rs,e,hb,ha,hc⟩=>⟨b,cs,ex,rs,e,hb,ha.imp k,by rw [<- hn]; exact hc⟩
theorem qX:∀ r x,f_.P r x -> eW.P r x:=fun r x ⟨a,l,h,h1,h2⟩=>⟨a,l,h,h1.is,h2.is⟩
theorem rA:∀ r x,mC.P r x -> dS.P r x:=fun r x ⟨a,b,c,d,h,h1,h2,h3,h4⟩=>⟨a,b,c,d,h,h1.is,h2.is,h3.is,pE h4.is qX⟩
theorem G7 (h:bM E) {Y:Sg} {w a b c d:V} {l:List aG} {r:aG} {ex:Bool} (ow:bD mC 37 Y w l) (h1:jZ aK a r.ins) (h2:jZ aK b r.outs) (h3:jZ aK c r.after) (h4:jZ f_ d r.steps) (hb:l.length <= 1000) :
  ∃ w' τ',Ax.append E (Y ++ [.cells 37 [.str r.name,a,b,c,d] ex]) #[22,22] w (.sl Y.length 0 1 none) = some (w',τ') /\ bD mC 37 τ' w' (l ++ [r]) /\ Sp (Y ++ [.cells 37 [.str r.name,a,b,c,d] ex]) τ' w /\ Y.length <= τ'.length:=by
 obtain ⟨w',τ',q1,q2,q3,q4,-⟩:=jR (m:=[r]) (new:=[[.str r.name,a,b,c,d]]) h.Bg rfl h.bI rfl (by decide) (sX h) rfl (ow.app [.cells 37 [.str r.name,a,b,c,d] ex]) (mE rfl) (.one ⟨a,b,c,d,rfl,h1,h2,h3,h4⟩) (eS (b:=1001) (by decide) (by simp only [List.length_cons,List.length_nil]; omega))
 exact ⟨w',τ',q1,q2,q3,by simp only [List.length_append,List.length_cons,List.length_nil] at q4; omega⟩
theorem IC (h:bM E) {a:V} {rs:List aG} (ha:LS dS 37 Z a rs) (hr:∀ x ∈ rs,Raw x):aB E 12 [a] Z fun v σ'=>σ' = Z /\ jZ mC v ((rs.take 42).map cut):=by
 obtain ⟨a',ea,ia⟩:=eR h ha
 rw [aH h.hs12 h.My h.fn12 h.md12 (args':=[a']) (by simp only [aW,ea]),a_ (by kernel_rfl)]
 have la:=cK h ia
 simp only [aA,Tryz.f12,KP,↓reduceIte,Nat.reduceLT]
 refine aR (fun i F Y=>F.get 0 = a' /\ F.get 4 = .int .i64 (i:Int) /\ ∃ w,F.get 3 = w /\ bD mC 37 Y w ((rs.take i).map cut)) (min rs.length 42) ?_ ?_ (min rs.length 42) 0 _ _ (by omega) (kX (by simp +decide only [GS,and_self]) ⟨.aC,(by simp +decide only [GS]),.inl ⟨rfl,rfl⟩⟩)
 ·rintro i F Y hi ⟨g0,g4,w,g3,ow⟩ next
  obtain ⟨r,hri⟩:∃ y,rs[i]? = some y:=⟨_,List.getElem?_eq_getElem (by omega)⟩
  have hraw:=hr r (List.mem_of_getElem? hri)
  obtain ⟨g,p1,p2,p3,p4,e1,i1,i2,i3,i4⟩:=eL h ia hri
  have hlt:=dN (show i < rs.length by omega)
  have hlt2:decide ((i:Int) < 42) = true:=decide_eq_true (by omega)
  have hadd:=bV i (by omega)
  rw [aF]
  simp only [KP,Ax.loadAt,↓reduceIte,Nat.reduceEqDiff,Nat.reduceLT,Nat.reduceAdd,reduceCtorEq,h.bI,g0,g3,g4,la,hlt,hlt2,e1]
  refine aL (LC h (MN i1 i2 i3 i4) hraw) ?_
  rintro v σ' ⟨rfl,a1,b1,c1,d1,rfl,j1,j2,j3,j4⟩
  have o1:=aJ j1.is.bE
  have o2:=aJ j2.is.bE
  have o3:=aJ j3.is.bE
  have o4:=aJ j4.is.bE
  have hnm:r.name = (cut r).name:=rfl
  obtain ⟨w',τ',ha2,ow2,-,-⟩:=G7 (r:=cut r) (ex:=true) h ow j1 j2 j3 j4 (by rw [List.length_map,List.length_take]; omega)
  rw [<- hnm] at ha2
  simp only [KP,↓reduceIte,Nat.reduceEqDiff,Nat.reduceLT,Nat.reduceLeDiff,Nat.reduceAdd,Nat.reduceMul,h.Bg,h.bI,g4,ha2,hadd,o1,o2,o3,o4,Ax.fill,gK,Nat.zero_mul]
  refine next _ _ (kX (by simp +decide only [GS,g0,and_self]) ⟨w',(by simp +decide only [GS]),?_⟩)
  have e:(rs.take (i + 1)).map cut = (rs.take i).map cut ++ [cut r]:=by rw [List.take_add_one,hri]; simp
  rw [e]
  exact ow2
 ·rintro F Y ⟨g0,g4,w,g3,ow⟩
  obtain ⟨v',e1,iv⟩:=nY h.bI rfl BE ow
  have ht:rs.take (min rs.length 42) = rs.take 42:=wI rs 42
  rw [ht] at iv
  rw [aF]
  by_cases hlen:rs.length <= 42
  ·have hm:min rs.length 42 = rs.length:=Nat.min_eq_left hlen
   rw [hm] at g4
   have hlt:=dQ (Nat.lt_irrefl rs.length)
   simp only [KP,↓reduceIte,Nat.reduceEqDiff,Nat.reduceLT,reduceCtorEq,g0,g3,g4,la,hlt,e1]
   exact iv
  ·have hm:min rs.length 42 = 42:=Nat.min_eq_right (by omega)
   rw [hm] at g4
   have hlt:decide (((42:Nat):Int) < (rs.length:Int)) = true:=decide_eq_true (by omega)
   have hlt2:decide (((42:Nat):Int) < 42) = false:=rfl
   simp only [KP,↓reduceIte,Nat.reduceEqDiff,Nat.reduceLT,reduceCtorEq,g0,g3,g4,la,hlt,hlt2,e1]
   exact iv
end
end
section
section
variable {E:Env} {Z:Sg} {K:V -> Sg -> Prop}
theorem Ql (h:bM E) {Y:Sg} {w a b c d:V} {l:List aG} {r:aG} {y:Nat} (ow:bD mC 37 Y w l) (hy:Y[y]? = some (.cells 37 [.str r.name,a,b,c,d] true)) (j1:jZ aK a r.ins) (j2:jZ aK b r.outs) (j3:jZ aK c r.after) (j4:jZ f_ d r.steps) (hs:∀ x ∈ l ++ [r],Small x) (hl:l.length <= 14)
  (F:FT) (g3:F.get 3 = w) (g5:F.get 5 = .ref y 0) {st:List kH} {Q:Ax.X -> Fr -> Sg -> Prop}
  (hk:∀ F' τ' e,(∀ k,k ∈ [0,3,5,9,10,11] -> F'.get k = F.get k) -> F'.get 6 = .int .i64 e -> Hl (l ++ [r]) e -> (∀ (k:Nat) (o:O),Y[k]? = some o -> τ'[k]? = some o) -> M E st .normal ⟨37,F'⟩ τ' Q):R E (.region 5 (opsOf (cutAt [1,1,0,1,2,2,1,1,0,2,1,0] (aA Tryz.f16).code)) true) st ⟨37,F⟩ Y Q:=by
 obtain ⟨rs,ee,hee⟩:=NZ (t:=37) (Z:=Y) ow.ls
 obtain ⟨w1,τ1,ha1,ow1,TD,-,fb⟩:=jR (ats:=#[22,22]) (Z:=Y) (w:=.aC) (l:=[]) (L:=mC) (x:=w) (m:=l) h.Bg rfl h.bI rfl (by decide) (sX h) rfl (.inl ⟨rfl,rfl⟩) ee hee (eS (b:=1000) (by decide) (by simp only [List.length_nil]; omega))
 obtain ⟨w2,τ2,ha2,ow2,Rn,-,-⟩:=jR (ats:=#[22,22]) (Z:=τ1) (x:=.bQ false [[.str r.name,a,b,c,d]] true) (m:=[r]) (new:=[[.str r.name,a,b,c,d]]) h.Bg rfl h.bI rfl (by decide) (sX h) rfl ow1 rfl (.one ⟨a,b,c,d,rfl,j1,j2,j3,j4⟩) (eS (b:=1000) (by decide) (by simp only [List.nil_append,List.length_cons,List.length_nil]; omega))
 rw [List.nil_append] at ow2
 have hy1:τ1[y]? = some (.cells 37 [.str r.name,a,b,c,d] true):=TD _ _ hy (by intro e; cases e)
 have hall:=Oh (Z:=τ2) h (PF ow2.ls rfl rA) ⟨by simp only [List.length_append,List.length_cons,List.length_nil]; omega,hs⟩
 obtain ⟨n,v,σ',hcall,hσ,e,nm,rfl,hE⟩:=hall
 rw [hσ] at hcall
 clear hσ σ'
 have o1:=aJ j1.is.bE
 have o2:=aJ j2.is.bE
 have o3:=aJ j3.is.bE
 have o4:=aJ j4.is.bE
 have t1:=j1.tag
 have t2:=j2.tag
 have t3:=j3.tag
 have t4:=j4.tag
 have ts:cP false (.str r.name) = true:=rfl
 have v1:=cA 10 j1.is
 have v2:=cA 10 j2.is
 have v3:=cA 10 j3.is
 have v4:=nU 9 (pE j4.is qX)
 have vs:=zT 10 r.name
 have va:sL 12 (.agg [.str r.name,a,b,c,d]) (.agg [.str r.name,a,b,c,d]) = true:=oU fun x hx=>by
  simp only [List.mem_cons,List.not_mem_nil,or_false] at hx
  rcases hx with rfl | rfl | rfl | rfl | rfl
  ·exact vs
  ·exact cA 9 j1.is
  ·exact cA 9 j2.is
  ·exact cA 9 j3.is
  ·exact nU 8 (pE j4.is qX)
 have key:∃ F',cI E (ev E n) (opsOf (cutAt [1,1,0,1,2,2,1,1,0,2,1,0] (aA Tryz.f16).code)) ⟨37,F⟩ Y = some (⟨37,F'⟩,τ2) /\ (∀ k,k ∈ [0,3,5,9,10,11] -> F'.get k = F.get k) /\ F'.get 6 = .int .i64 e:=by
  unfold cI
  rw [h.TR,h.Vn]
  simp only [aA,Tryz.f16,KP,Ax.loadAt,↓reduceIte,Nat.reduceEqDiff,Nat.reduceLT,Nat.reduceLeDiff,Nat.reduceAdd,Nat.reduceMul,h.Bg,h.bI,opsOf,cutAt,Fz.lits,Fz.apps,iC,bK,bZ,kD,Ax.comp,Ax.last,iG,Ax.again,B6,Ax.fill,gK,Ax.rows,Nat.zero_mul,g3,g5,hy,hy1,ha1,ha2,hcall,o1,o2,o3,o4,t1,t2,t3,t4,ts,va]
  refine ⟨_,rfl,fun k hk=>?_,(by simp +decide only [GS])⟩
  simp only [List.mem_cons,List.not_mem_nil,or_false] at hk
  rcases hk with rfl | rfl | rfl | rfl | rfl | rfl <;> simp +decide only [GS]
 obtain ⟨F',hD,h1,h2⟩:=key
 refine Eq.mpr (iZ hD) (hk F' τ2 e h1 h2 hE fun k o ho=>?_)
 have h1':=TD _ _ ho (by intro e; cases e)
 refine Rn _ _ h1' fun e=>?_
 rcases fb _ e with hb | hb
 ·cases hb
 ·exact absurd (List.getElem?_eq_some_iff.mp ho).1 (by omega)
theorem OD (h:bM E) {v:V} {l:List aG} (ia:IS mC v l) {i:Nat} {x:aG} (hx:l[i]? = some x):∃ g a b c d,indexAddr E 22 v (.int .i64 (i:Int)) = some (.dP g [.str x.name,a,b,c,d]) /\ jZ aK a x.ins /\ jZ aK b x.outs /\ jZ aK c x.after /\ jZ f_ d x.steps:=by
 obtain ⟨g,r,e,a,b,c,d,hr,h1⟩:=IS.at h.Bg rfl h.bI rfl ia hx
 exact ⟨g,a,b,c,d,by rw [e,hr],h1⟩
theorem FN:mQ []:=⟨rfl,fun ⟨i,hi,_⟩=>absurd hi (by simp)⟩
theorem Ts (h:bM E) {a:V} {rs:List aG} (ha:LS dS 37 Z a rs) (hr:∀ x ∈ rs,Raw x):aB E 16 [a] Z fun v σ'=>σ' = Z /\ ∃ l,jZ mC v l /\ mQ l /\ l.length <= 14 /\ ∀ x ∈ l,Small x:=by
 obtain ⟨a',ea,ia⟩:=eR h ha
 rw [aH h.hs16 h.Mw h.fn16 h.md16 (args':=[a']) (by simp only [aW,ea]),a_ (by kernel_rfl)]
 simp only [aA,Tryz.f16,KP,↓reduceIte,Nat.reduceLT,reduceCtorEq]
 refine aL (IC h (ia.ls [] 37) hr) ?_
 rintro v σ' ⟨rfl,iv⟩
 have sm:∀ x ∈ (rs.take 42).map cut,Small x:=fun x hx=>by
  obtain ⟨y,-,rfl⟩:=List.mem_map.1 hx
  exact Lg y
 have hl42:((rs.take 42).map cut).length <= 42:=by rw [List.length_map,List.length_take]; omega
 generalize (rs.take 42).map cut = ls at iv sm hl42
 have la:=cK h (pE iv.is rA)
 simp only [KP,↓reduceIte,Nat.reduceLT,la]
 refine aR (fun i F Y=>F.get 9 = v /\ F.get 10 = .int .i64 (ls.length:Int) /\ F.get 11 = .int .i64 (i:Int) /\ ∃ w l,F.get 3 = w /\ bD mC 37 Y w l /\ mQ l /\ l.length <= 14 /\ ∀ x ∈ l,Small x) ls.length ?_ ?_ ls.length 0 _ _ (by omega) (fE (by simp +decide only [GS,and_self]) ⟨.aC,[],(by simp +decide only [GS]),.inl ⟨rfl,rfl⟩,FN,by simp,fun x hx=>by cases hx⟩)
 ·rintro i F Y hi ⟨g9,g10,g11,w,l,g3,ow,hok,hlen,hsm⟩ next
  obtain ⟨r,hri⟩:∃ y,ls[i]? = some y:=⟨_,List.getElem?_eq_getElem (by omega)⟩
  have hrs:=sm r (List.mem_of_getElem? hri)
  obtain ⟨g,p1,p2,p3,p4,e1,i1,i2,i3,i4⟩:=OD h iv.is hri
  have hlt:=dN hi
  have hadd:=bV i (by omega)
  rw [aF]
  have o1:=aJ i1.is.bE
  have o2:=aJ i2.is.bE
  have o3:=aJ i3.is.bE
  have o4:=aJ i4.is.bE
  simp only [KP,Ax.loadAt,Ax.storeAt,↓reduceIte,Nat.reduceEqDiff,Nat.reduceLT,Nat.reduceAdd,h.bI,g9,g10,g11,hlt,e1,o1,o2,o3,o4,aN,cF]
  refine Ql h (ow.app _) (y:=Y.length) ?_ i1 i2 i3 i4 ?_ hlen _ ?_ ?_ ?_
  ·simp
  ·intro x hx
   rcases List.mem_append.1 hx with hx | hx
   ·exact hsm x hx
   ·rw [List.mem_singleton.1 hx]; exact hrs
  ·exact (by simp +decide only [GS,g3])
  ·exact (by simp +decide only [GS])
  intro F' τ' e hF h6 hE hT
  have q3:F'.get 3 = w:=(hF 3 (by simp)).trans (show _ = w by simp only [FT.jO,Nat.reduceEqDiff,↓reduceIte,g3])
  have q5:F'.get 5 = .ref Y.length 0:=(hF 5 (by simp)).trans (by simp +decide only [GS])
  have q9:F'.get 9 = v:=(hF 9 (by simp)).trans (by simp +decide only [GS,g9])
  have Fj:F'.get 10 = .int .i64 (ls.length:Int):=(hF 10 (by simp)).trans (by simp +decide only [GS,g10])
  have Hr:F'.get 11 = .int .i64 (i:Int):=(hF 11 (by simp)).trans (by simp +decide only [GS,g11])
  have ow':bD mC 37 τ' w l:=(ow.app [O.cells 37 [.str r.name,p1,p2,p3,p4] true]).keep fun c o _ hc=>hT c o hc
  have hy:τ'[Y.length]? = some (O.cells 37 [.str r.name,p1,p2,p3,p4] true):=hT _ _ (by simp)
  have lw:=nD h.Bg rfl ow'.ls
  have hz:=hE.zero
  by_cases he:e = 0
  ·have c1:decide (e = 0) = true:=decide_eq_true he
   by_cases h14:l.length < 14
   ·have c2:decide ((l.length:Int) < 14) = true:=decide_eq_true (by omega)
    obtain ⟨w2,τ2,ha2,ow2,-,-⟩:=G7 (ex:=true) h ow' i1 i2 i3 i4 (by omega)
    simp only [KP,Ax.loadAt,↓reduceIte,Nat.reduceEqDiff,Nat.reduceLT,Nat.reduceLeDiff,Nat.reduceAdd,Nat.reduceMul,h.Bg,h.bI,q3,q5,Hr,h6,lw,c1,c2,hy,hadd,ha2,o1,o2,o3,o4,Ax.fill,gK,Nat.zero_mul]
    refine next _ _ (fE (by simp +decide only [GS,q9,Fj,and_self]) ⟨w2,l ++ [r],(by simp +decide only [GS]),ow2,hz.1 he,?_,?_⟩)
    ·rw [List.length_append,List.length_singleton]; omega
    ·intro x hx
     rcases List.mem_append.1 hx with hx | hx
     ·exact hsm x hx
     ·rw [List.mem_singleton.1 hx]; exact hrs
   ·have c2:decide ((l.length:Int) < 14) = false:=decide_eq_false (by omega)
    simp only [KP,↓reduceIte,Nat.reduceEqDiff,Nat.reduceLT,q3,Hr,h6,lw,c1,c2,hadd]
    exact next _ _ (fE (by simp +decide only [GS,q9,Fj,and_self]) ⟨w,l,(by simp +decide only [GS,q3]),ow',hok,hlen,hsm⟩)
  ·have c1:decide (e = 0) = false:=decide_eq_false he
   simp only [KP,↓reduceIte,Nat.reduceEqDiff,Nat.reduceLT,Hr,h6,c1,hadd]
   exact next _ _ (fE (by simp +decide only [GS,q9,Fj,and_self]) ⟨w,l,(by simp +decide only [GS,q3]),ow',hok,hlen,hsm⟩)
 ·rintro F Y ⟨g9,g10,g11,w,l,g3,ow,hok,hlen,hsm⟩
  obtain ⟨v',e1,iv⟩:=nY h.bI rfl BE ow
  have hlt:=dQ (Nat.lt_irrefl ls.length)
  rw [aF]
  simp only [KP,↓reduceIte,Nat.reduceEqDiff,Nat.reduceLT,g3,g10,g11,hlt,e1]
  exact ⟨l,iv,hok,hlen,hsm⟩
end
end
section
section
variable {E:Env} {Z:Sg} {K:V -> Sg -> Prop}
theorem qZ {k:Nat} {caps:List V} (hc:∀ c ∈ caps,Ax.bE c = true) (Z:Sg):aY Z E.ty true (.fn k [] caps) = some (.fn k [] caps):=by
 have e:aW (aY.one Z E.ty true) caps = some caps:=iS fun c hx=>by
  have:=cR (Z:=Z) (ty:=E.ty) (g:=true) (hc c hx) (b_ (hc c hx))
  have h2:=hc c hx
  cases c <;> first | exact this | cases h2
 simp only [aY,e,aW]
theorem Q7 (h:bM E) {a:V} {l:List aZ} {k:Nat} {caps:List V} {P:aZ -> Bool} (ha:LS aK 9 Z a l) (hsm:l.length <= 4294967296) (hc:∀ c ∈ caps,Ax.bE c = true) (hP:∀ (y:aZ) (v:V),y ∈ l -> v = .str y -> aB E k ([v] ++ caps) [] fun u Y=>Y = [] /\ u = .bool (P y)) {fv:V} (ef:aY Z E.ty true fv = some (.fn k [] caps)):aB E 65 [a,fv] Z K = K (.int .i64 (idx (bJ P l))) Z:=by
 refine aB.of ?_
 obtain ⟨a',ea,ia⟩:=iP h ha
 rw [aH h.hs65 h.sp65 h.fn65 h.md65 (args':=[a',.fn k [] caps]) (by simp only [aW,ea,ef]),a_ (by kernel_rfl)]
 have la:=bL h ia
 simp only [aA,Tryz.f65,KP,↓reduceIte,Nat.reduceLT,Nat.reduceAdd,reduceCtorEq,Int.reduceNeg,la]
 refine aR (fun i F Y=>Y = [] /\ F.get 0 = a' /\ F.get 1 = .fn k [] caps /\ F.get 8 = .int .i64 (i:Int) /\ F.get 7 = .int .i64 (l.length:Int) /\ ∀ j y,j < i -> l[j]? = some y -> P y = false) l.length ?_ ?_ l.length 0 _ _ (by omega) ⟨rfl,(fZ (by simp +decide only [GS,and_self]) (fun j y hj=>by omega))⟩
 ·rintro i F Y hi ⟨rfl,g0,g1,g8,g7,hp⟩ next
  obtain ⟨x,hx⟩:∃ x,l[i]? = some x:=⟨_,List.getElem?_eq_getElem hi⟩
  obtain ⟨g,e1⟩:=fI h ia hx
  have hv:V.str x = .str x:=rfl
  have hlt:=dN hi
  have hadd:=bV i (by omega)
  rw [aF]
  simp only [KP,Ax.loadAt,↓reduceIte,Nat.reduceEqDiff,Nat.reduceLT,reduceCtorEq,Int.reduceNeg,h.cN,g0,g1,g7,g8,hlt,e1]
  refine aL (hP x _ (List.mem_of_getElem? hx) hv) ?_
  rintro u Y ⟨rfl,rfl⟩
  by_cases hxs:P x = true
  ·simp only [KP,↓reduceIte,Nat.reduceEqDiff,Nat.reduceLT,Int.reduceNeg,hxs]
   rw [iI (i:=i) (x:=x) hp hx hxs]
   exact rfl
  ·have hxs:P x = false:=by simpa using hxs
   simp only [KP,↓reduceIte,Nat.reduceEqDiff,Nat.reduceLT,Int.reduceNeg,g8,hxs,hadd]
   refine next _ _ ⟨rfl,(fZ (by simp +decide only [GS,g0,g1,g7,and_self]) (fun j y hj hy=>?_))⟩
   rcases Nat.lt_or_ge j i with g | g
   ·exact hp j y g hy
   ·obtain rfl:j = i:=by omega
    rw [hx] at hy; cases hy; exact hxs
 ·rintro F Y ⟨rfl,g0,g1,g8,g7,hp⟩
  have hlt:=dQ (Nat.lt_irrefl l.length)
  rw [aF]
  simp only [KP,↓reduceIte,Nat.reduceLT,Int.reduceNeg,g7,g8,hlt]
  rw [gH fun x hx=>by
   obtain ⟨j,hj,e⟩:=List.getElem_of_mem hx
   exact hp j x hj (by rw [List.getElem?_eq_getElem hj,e])]
  exact rfl
theorem Tq (h:bM E) {a:V} {l:List aZ} {k:Nat} {caps:List V} {P:aZ -> Bool} (ha:LS aK 9 Z a l) (hsm:l.length <= 4294967296) (hc:∀ c ∈ caps,Ax.bE c = true) (hP:∀ (y:aZ) (v:V),y ∈ l -> v = .str y -> aB E k ([v] ++ caps) [] fun u Y=>Y = [] /\ u = .bool (P y)):aB E 65 [a,.fn k [] caps] Z K = K (.int .i64 (idx (bJ P l))) Z:=Q7 h ha hsm hc hP (qZ hc Z)
theorem qQ (h:bM E) {a:V} {l:List aZ} {k:Nat} {caps:List V} {P:aZ -> Bool} (ha:LS aK 9 Z a l) (hsm:l.length <= 4294967296) (hc:∀ c ∈ caps,Ax.bE c = true) (hP:∀ (y:aZ) (v:V),y ∈ l -> v = .str y -> aB E k ([v] ++ caps) [] fun u Y=>Y = [] /\ u = .bool (P y)) {fv:V} (ef:aY Z E.ty true fv = some (.fn k [] caps)):aB E 67 [a,fv] Z K = K (.bool (l.any P)) Z:=by
 refine aB.of ?_
 obtain ⟨a',ea,ia⟩:=iP h ha
 rw [aH h.hs67 h.sp67 h.fn67 h.md67 (args':=[a',.fn k [] caps]) (by simp only [aW,ea,ef]),a_ (by kernel_rfl)]
 have key:=fun K=>Tq (Z:=[]) (K:=K) h (ia.ls [] 9) hsm hc hP
 have kk:=dO key
 simp only [aA,Tryz.f67,KP,↓reduceIte,Nat.reduceEqDiff,Nat.reduceLT,Nat.reduceAdd,reduceCtorEq,kk,kO,cC]
 exact rfl
theorem J4 (h:bM E) {a:V} {l:List aZ} {k:Nat} {caps:List V} {P:aZ -> Bool} (ha:LS aK 9 Z a l) (hsm:l.length <= 4294967296) (hc:∀ c ∈ caps,Ax.bE c = true) (hP:∀ (y:aZ) (v:V),y ∈ l -> v = .str y -> aB E k ([v] ++ caps) [] fun u Y=>Y = [] /\ u = .bool (P y)):aB E 67 [a,.fn k [] caps] Z K = K (.bool (l.any P)) Z:=qQ h ha hsm hc hP (qZ hc Z)
theorem JL (h:bM E) {a:V} {l:List aZ} {k:Nat} {caps:List V} {P:aZ -> Bool} (ha:LS aK 9 Z a l) (hsm:l.length <= 4294967296) (hc:∀ c ∈ caps,Ax.bE c = true) (hP:∀ (y:aZ) (v:V),y ∈ l -> v = .str y -> aB E k ([v] ++ caps) [] fun u Y=>Y = [] /\ u = .bool (P y)):KC E 67 [a,.fn k [] caps] Z (.bool (l.any P)) Z:=dO fun _=>J4 h ha hsm hc hP
theorem LF (h:bM E) {a:V} {l:List AxS.Step} {k:Nat} {caps:List V} {P:AxS.Step -> Bool} (ha:LS eW 75 Z a l) (hsm:l.length <= 4294967296) (hc:∀ c ∈ caps,Ax.bE c = true) (hP:∀ (y:AxS.Step) (v:V),y ∈ l -> LM v y -> aB E k ([v] ++ caps) [] fun u Y=>Y = [] /\ u = .bool (P y)) {fv:V} (ef:aY Z E.ty true fv = some (.fn k [] caps)):aB E 237 [a,fv] Z K = K (.int .i64 (idx (bJ P l))) Z:=by
 refine aB.of ?_
 obtain ⟨a',ea,ia⟩:=Br h ha
 rw [aH h.Wv h.T6 h.Xn h.VD (args':=[a',.fn k [] caps]) (by simp only [aW,ea,ef]),a_ (by kernel_rfl)]
 have la:=kW h ia
 simp only [aA,Tryz.f237,KP,↓reduceIte,Nat.reduceLT,Nat.reduceAdd,reduceCtorEq,Int.reduceNeg,la]
 refine aR (fun i F Y=>Y = [] /\ F.get 0 = a' /\ F.get 1 = .fn k [] caps /\ F.get 8 = .int .i64 (i:Int) /\ F.get 7 = .int .i64 (l.length:Int) /\ ∀ j y,j < i -> l[j]? = some y -> P y = false) l.length ?_ ?_ l.length 0 _ _ (by omega) ⟨rfl,(fZ (by simp +decide only [GS,and_self]) (fun j y hj=>by omega))⟩
 ·rintro i F Y hi ⟨rfl,g0,g1,g8,g7,hp⟩ next
  obtain ⟨x,hx⟩:∃ x,l[i]? = some x:=⟨_,List.getElem?_eq_getElem hi⟩
  obtain ⟨g,p1,p2,e1,i1,i2⟩:=uH h ia hx
  have hv:LM (.agg [.str x.out,.int .i64 x.op,p1,p2,.int .i64 x.n]) x:=⟨p1,p2,rfl,i1,i2⟩
  have hlt:=dN hi
  have hadd:=bV i (by omega)
  rw [aF]
  simp only [KP,Ax.loadAt,↓reduceIte,Nat.reduceEqDiff,Nat.reduceLT,Nat.reduceAdd,reduceCtorEq,Int.reduceNeg,h.cO,g0,g1,g7,g8,hlt,e1]
  refine aL (hP x _ (List.mem_of_getElem? hx) hv) ?_
  rintro u Y ⟨rfl,rfl⟩
  by_cases hxs:P x = true
  ·simp only [KP,↓reduceIte,Nat.reduceEqDiff,Nat.reduceLT,Int.reduceNeg,hxs]
   rw [iI (i:=i) (x:=x) hp hx hxs]
   exact rfl
  ·have hxs:P x = false:=by simpa using hxs
   simp only [KP,↓reduceIte,Nat.reduceEqDiff,Nat.reduceLT,Int.reduceNeg,g8,hxs,hadd]
   refine next _ _ ⟨rfl,(fZ (by simp +decide only [GS,g0,g1,g7,and_self]) (fun j y hj hy=>?_))⟩
   rcases Nat.lt_or_ge j i with g | g
   ·exact hp j y g hy
   ·obtain rfl:j = i:=by omega
    rw [hx] at hy; cases hy; exact hxs
 ·rintro F Y ⟨rfl,g0,g1,g8,g7,hp⟩
  have hlt:=dQ (Nat.lt_irrefl l.length)
  rw [aF]
  simp only [KP,↓reduceIte,Nat.reduceLT,Int.reduceNeg,g7,g8,hlt]
  rw [gH fun x hx=>by
   obtain ⟨j,hj,e⟩:=List.getElem_of_mem hx
   exact hp j x hj (by rw [List.getElem?_eq_getElem hj,e])]
  exact rfl
theorem Ov (h:bM E) {a:V} {l:List AxS.Step} {k:Nat} {caps:List V} {P:AxS.Step -> Bool} (ha:LS eW 75 Z a l) (hsm:l.length <= 4294967296) (hc:∀ c ∈ caps,Ax.bE c = true) (hP:∀ (y:AxS.Step) (v:V),y ∈ l -> LM v y -> aB E k ([v] ++ caps) [] fun u Y=>Y = [] /\ u = .bool (P y)):aB E 237 [a,.fn k [] caps] Z K = K (.int .i64 (idx (bJ P l))) Z:=LF h ha hsm hc hP (qZ hc Z)
theorem IF (h:bM E) {a:V} {l:List AxS.Step} {k:Nat} {caps:List V} {P:AxS.Step -> Bool} (ha:LS eW 75 Z a l) (hsm:l.length <= 4294967296) (hc:∀ c ∈ caps,Ax.bE c = true) (hP:∀ (y:AxS.Step) (v:V),y ∈ l -> LM v y -> aB E k ([v] ++ caps) [] fun u Y=>Y = [] /\ u = .bool (P y)) {fv:V} (ef:aY Z E.ty true fv = some (.fn k [] caps)):aB E 200 [a,fv] Z K = K (.bool (l.any P)) Z:=by
 refine aB.of ?_
 obtain ⟨a',ea,ia⟩:=Br h ha
 rw [aH h.WC h.Uc h.Xu h.VK (args':=[a',.fn k [] caps]) (by simp only [aW,ea,ef]),a_ (by kernel_rfl)]
 have key:=fun K=>Ov (Z:=[]) (K:=K) h (ia.ls [] 75) hsm hc hP
 have kk:=dO key
 simp only [aA,Tryz.f200,KP,↓reduceIte,Nat.reduceEqDiff,Nat.reduceLT,Nat.reduceAdd,reduceCtorEq,kk,kO,cC]
 exact rfl
theorem LG (h:bM E) {a:V} {l:List AxS.Step} {k:Nat} {caps:List V} {P:AxS.Step -> Bool} (ha:LS eW 75 Z a l) (hsm:l.length <= 4294967296) (hc:∀ c ∈ caps,Ax.bE c = true) (hP:∀ (y:AxS.Step) (v:V),y ∈ l -> LM v y -> aB E k ([v] ++ caps) [] fun u Y=>Y = [] /\ u = .bool (P y)):aB E 200 [a,.fn k [] caps] Z K = K (.bool (l.any P)) Z:=IF h ha hsm hc hP (qZ hc Z)
theorem K2 (h:bM E) {a:V} {l:List AxS.Step} {k:Nat} {caps:List V} {P:AxS.Step -> Bool} (ha:LS eW 75 Z a l) (hsm:l.length <= 4294967296) (hc:∀ c ∈ caps,Ax.bE c = true) (hP:∀ (y:AxS.Step) (v:V),y ∈ l -> LM v y -> aB E k ([v] ++ caps) [] fun u Y=>Y = [] /\ u = .bool (P y)):KC E 200 [a,.fn k [] caps] Z (.bool (l.any P)) Z:=dO fun _=>LG h ha hsm hc hP
theorem Yo (h:bM E) {a:V} {l:List aZ} {s:aZ} (ha:LS aK 9 Z a l) (hsm:l.length <= 4294967296):aB E 131 [a,.str s] Z K = K (.int .i64 (idx (bJ (fun x=>decide (x = s)) l))) Z:=by
 refine aB.of ?_
 obtain ⟨a',ea,ia⟩:=iP h ha
 rw [aH h.WU h.Ut h.XI h.VZ (args':=[a',.str s]) (by simp only [aW,ea,cV]),a_ (by kernel_rfl)]
 have la:=bL h ia
 simp only [aA,Tryz.f131,KP,↓reduceIte,Nat.reduceLT,Nat.reduceAdd,reduceCtorEq,Int.reduceNeg,la]
 refine aR (fun i F Y=>Y = [] /\ F.get 0 = a' /\ F.get 1 = .str s /\ F.get 8 = .int .i64 (i:Int) /\ F.get 7 = .int .i64 (l.length:Int) /\ ∀ j y,j < i -> l[j]? = some y -> y ≠ s) l.length ?_ ?_ l.length 0 _ _ (by omega) ⟨rfl,(fZ (by simp +decide only [GS,and_self]) (fun j y hj=>by omega))⟩
 ·rintro i F Y hi ⟨rfl,g0,g1,g8,g7,hp⟩ next
  obtain ⟨x,hx⟩:∃ x,l[i]? = some x:=⟨_,List.getElem?_eq_getElem hi⟩
  obtain ⟨g,e1⟩:=fI h ia hx
  have hlt:=dN hi
  have hadd:=bV i (by omega)
  rw [aF]
  by_cases hxs:x = s
  ·have hs:=gW hxs.symm
   simp only [KP,Ax.loadAt,↓reduceIte,Nat.reduceEqDiff,Nat.reduceLT,reduceCtorEq,Int.reduceNeg,h.cN,g0,g1,g7,g8,hlt,e1,hs]
   rw [iI (i:=i) (x:=x) (fun j y hj hy=>decide_eq_false (hp j y hj hy)) hx (decide_eq_true hxs)]
   exact rfl
  ·have hs:=fT (Ne.symm hxs)
   simp only [KP,Ax.loadAt,↓reduceIte,Nat.reduceEqDiff,Nat.reduceLT,reduceCtorEq,Int.reduceNeg,h.cN,g0,g1,g7,g8,hlt,e1,hs,hadd]
   refine next _ _ ⟨rfl,(fZ (by simp +decide only [GS,g0,g1,g7,and_self]) (fun j y hj hy=>?_))⟩
   rcases Nat.lt_or_ge j i with g | g
   ·exact hp j y g hy
   ·obtain rfl:j = i:=by omega
    rw [hx] at hy; cases hy; exact hxs
 ·rintro F Y ⟨rfl,g0,g1,g8,g7,hp⟩
  have hlt:=dQ (Nat.lt_irrefl l.length)
  rw [aF]
  simp only [KP,↓reduceIte,Nat.reduceLT,Int.reduceNeg,g7,g8,hlt]
  rw [gH fun x hx=>by
   obtain ⟨j,hj,e⟩:=List.getElem_of_mem hx
   exact decide_eq_false (hp j x hj (by rw [List.getElem?_eq_getElem hj,e]))]
  exact rfl
theorem Tv (h:bM E) {a:V} {l:List aZ} {s:aZ} (ha:LS aK 9 Z a l) (hsm:l.length <= 4294967296):aB E 92 [a,.str s] Z K = K (.bool (decide (s ∈ l))) Z:=by
 refine aB.of ?_
 obtain ⟨a',ea,ia⟩:=iP h ha
 rw [aH h.hs92 h.sp92 h.fn92 h.md92 (args':=[a',.str s]) (by simp only [aW,ea,cV]),a_ (by kernel_rfl)]
 have kk:=dO (fun K=>Yo (Z:=[]) (s:=s) (K:=K) h (ia.ls [] 9) hsm)
 simp only [aA,Tryz.f92,KP,↓reduceIte,Nat.reduceEqDiff,Nat.reduceLT,Nat.reduceAdd,reduceCtorEq,kk,kO,cC,any_eq]
 exact rfl
theorem Cb (h:bM E) {a:V} {l:List aZ} {s:aZ} (ha:LS aK 9 Z a l) (hsm:l.length <= 4294967296):KC E 92 [a,.str s] Z (.bool (decide (s ∈ l))) Z:=dO fun _=>Tv h ha hsm
end
end
section
section
variable {E:Env} {Z:Sg} {K:V -> Sg -> Prop}
theorem Tl (h:bM E) {c:Nat}:aB E 253 [.int .i32 (c:Int)] Z K = K (.bool (sign c)) Z:=by
 refine aB.of ?_
 rw [aH h.Ws h.T3 h.Xk h.VA (args':=[.int .i32 (c:Int)]) (by simp only [aW,show aY Z E.ty true (.int .i32 (c:Int)) = some (.int .i32 (c:Int)) from rfl]),a_ (by kernel_rfl)]
 have hcut:(0 <= c /\ c <= 44) \/ (45 <= c /\ c <= 45) \/ (46 <= c /\ c <= 46) \/ (47 <= c /\ c <= 47) \/ (48 <= c /\ c <= 57) \/ (58 <= c /\ c <= 64) \/ (65 <= c /\ c <= 90) \/ (91 <= c /\ c <= 94) \/ (95 <= c /\ c <= 95) \/ (96 <= c /\ c <= 96) \/ (97 <= c /\ c <= 122) \/ (123 <= c /\ 123 <= c):=by omega
 rcases hcut with ⟨h1,h2⟩ | ⟨h1,h2⟩ | ⟨h1,h2⟩ | ⟨h1,h2⟩ | ⟨h1,h2⟩ | ⟨h1,h2⟩ | ⟨h1,h2⟩ | ⟨h1,h2⟩ | ⟨h1,h2⟩ | ⟨h1,h2⟩ | ⟨h1,h2⟩ | ⟨h1,h2⟩
 ·rw [show sign c = false from by unfold sign; simp; omega]
  have q0:decide ((97:Int) <= (c:Int)) = false:=decide_eq_false (by omega)
  have q2:decide ((65:Int) <= (c:Int)) = false:=decide_eq_false (by omega)
  have q4:decide ((48:Int) <= (c:Int)) = false:=decide_eq_false (by omega)
  have q6:decide ((c:Int) = 46) = false:=decide_eq_false (by omega)
  have q7:decide ((c:Int) = 95) = false:=decide_eq_false (by omega)
  have q8:decide ((c:Int) = 45) = false:=decide_eq_false (by omega)
  simp only [aA,Tryz.f253,KP,↓reduceIte,Nat.reduceEqDiff,Nat.reduceLT,reduceCtorEq,q0,q2,q4,q6,q7,q8]
  exact rfl
 ·rw [show sign c = true from by unfold sign; simp; omega]
  have q0:decide ((97:Int) <= (c:Int)) = false:=decide_eq_false (by omega)
  have q2:decide ((65:Int) <= (c:Int)) = false:=decide_eq_false (by omega)
  have q4:decide ((48:Int) <= (c:Int)) = false:=decide_eq_false (by omega)
  have q6:decide ((c:Int) = 46) = false:=decide_eq_false (by omega)
  have q7:decide ((c:Int) = 95) = false:=decide_eq_false (by omega)
  have q8:decide ((c:Int) = 45) = true:=decide_eq_true (by omega)
  simp only [aA,Tryz.f253,KP,↓reduceIte,Nat.reduceEqDiff,Nat.reduceLT,reduceCtorEq,q0,q2,q4,q6,q7,q8]
  exact rfl
 ·rw [show sign c = true from by unfold sign; simp; omega]
  have q0:decide ((97:Int) <= (c:Int)) = false:=decide_eq_false (by omega)
  have q2:decide ((65:Int) <= (c:Int)) = false:=decide_eq_false (by omega)
  have q4:decide ((48:Int) <= (c:Int)) = false:=decide_eq_false (by omega)
  have q6:decide ((c:Int) = 46) = true:=decide_eq_true (by omega)
  simp only [aA,Tryz.f253,KP,↓reduceIte,Nat.reduceEqDiff,Nat.reduceLT,reduceCtorEq,q0,q2,q4,q6]
  exact rfl
 ·rw [show sign c = false from by unfold sign; simp; omega]
  have q0:decide ((97:Int) <= (c:Int)) = false:=decide_eq_false (by omega)
  have q2:decide ((65:Int) <= (c:Int)) = false:=decide_eq_false (by omega)
  have q4:decide ((48:Int) <= (c:Int)) = false:=decide_eq_false (by omega)
  have q6:decide ((c:Int) = 46) = false:=decide_eq_false (by omega)
  have q7:decide ((c:Int) = 95) = false:=decide_eq_false (by omega)
  have q8:decide ((c:Int) = 45) = false:=decide_eq_false (by omega)
  simp only [aA,Tryz.f253,KP,↓reduceIte,Nat.reduceEqDiff,Nat.reduceLT,reduceCtorEq,q0,q2,q4,q6,q7,q8]
  exact rfl
 ·rw [show sign c = true from by unfold sign; simp; omega]
  have q0:decide ((97:Int) <= (c:Int)) = false:=decide_eq_false (by omega)
  have q2:decide ((65:Int) <= (c:Int)) = false:=decide_eq_false (by omega)
  have q4:decide ((48:Int) <= (c:Int)) = true:=decide_eq_true (by omega)
  have q5:decide ((c:Int) <= 57) = true:=decide_eq_true (by omega)
  simp only [aA,Tryz.f253,KP,↓reduceIte,Nat.reduceEqDiff,Nat.reduceLT,reduceCtorEq,q0,q2,q4,q5]
  exact rfl
 ·rw [show sign c = false from by unfold sign; simp; omega]
  have q0:decide ((97:Int) <= (c:Int)) = false:=decide_eq_false (by omega)
  have q2:decide ((65:Int) <= (c:Int)) = false:=decide_eq_false (by omega)
  have q4:decide ((48:Int) <= (c:Int)) = true:=decide_eq_true (by omega)
  have q5:decide ((c:Int) <= 57) = false:=decide_eq_false (by omega)
  have q6:decide ((c:Int) = 46) = false:=decide_eq_false (by omega)
  have q7:decide ((c:Int) = 95) = false:=decide_eq_false (by omega)
  have q8:decide ((c:Int) = 45) = false:=decide_eq_false (by omega)
  simp only [aA,Tryz.f253,KP,↓reduceIte,Nat.reduceEqDiff,Nat.reduceLT,reduceCtorEq,q0,q2,q4,q5,q6,q7,q8]
  exact rfl
 ·rw [show sign c = true from by unfold sign; simp; omega]
  have q0:decide ((97:Int) <= (c:Int)) = false:=decide_eq_false (by omega)
  have q2:decide ((65:Int) <= (c:Int)) = true:=decide_eq_true (by omega)
  have q3:decide ((c:Int) <= 90) = true:=decide_eq_true (by omega)
  simp only [aA,Tryz.f253,KP,↓reduceIte,Nat.reduceEqDiff,Nat.reduceLT,reduceCtorEq,q0,q2,q3]
  exact rfl
 ·rw [show sign c = false from by unfold sign; simp; omega]
  have q0:decide ((97:Int) <= (c:Int)) = false:=decide_eq_false (by omega)
  have q2:decide ((65:Int) <= (c:Int)) = true:=decide_eq_true (by omega)
  have q3:decide ((c:Int) <= 90) = false:=decide_eq_false (by omega)
  have q4:decide ((48:Int) <= (c:Int)) = true:=decide_eq_true (by omega)
  have q5:decide ((c:Int) <= 57) = false:=decide_eq_false (by omega)
  have q6:decide ((c:Int) = 46) = false:=decide_eq_false (by omega)
  have q7:decide ((c:Int) = 95) = false:=decide_eq_false (by omega)
  have q8:decide ((c:Int) = 45) = false:=decide_eq_false (by omega)
  simp only [aA,Tryz.f253,KP,↓reduceIte,Nat.reduceEqDiff,Nat.reduceLT,reduceCtorEq,q0,q2,q3,q4,q5,q6,q7,q8]
  exact rfl
 ·rw [show sign c = true from by unfold sign; simp; omega]
  have q0:decide ((97:Int) <= (c:Int)) = false:=decide_eq_false (by omega)
  have q2:decide ((65:Int) <= (c:Int)) = true:=decide_eq_true (by omega)
  have q3:decide ((c:Int) <= 90) = false:=decide_eq_false (by omega)
  have q4:decide ((48:Int) <= (c:Int)) = true:=decide_eq_true (by omega)
  have q5:decide ((c:Int) <= 57) = false:=decide_eq_false (by omega)
  have q6:decide ((c:Int) = 46) = false:=decide_eq_false (by omega)
  have q7:decide ((c:Int) = 95) = true:=decide_eq_true (by omega)
  simp only [aA,Tryz.f253,KP,↓reduceIte,Nat.reduceEqDiff,Nat.reduceLT,reduceCtorEq,q0,q2,q3,q4,q5,q6,q7]
  exact rfl
 ·rw [show sign c = false from by unfold sign; simp; omega]
  have q0:decide ((97:Int) <= (c:Int)) = false:=decide_eq_false (by omega)
  have q2:decide ((65:Int) <= (c:Int)) = true:=decide_eq_true (by omega)
  have q3:decide ((c:Int) <= 90) = false:=decide_eq_false (by omega)
  have q4:decide ((48:Int) <= (c:Int)) = true:=decide_eq_true (by omega)
  have q5:decide ((c:Int) <= 57) = false:=decide_eq_false (by omega)
  have q6:decide ((c:Int) = 46) = false:=decide_eq_false (by omega)
  have q7:decide ((c:Int) = 95) = false:=decide_eq_false (by omega)
  have q8:decide ((c:Int) = 45) = false:=decide_eq_false (by omega)
  simp only [aA,Tryz.f253,KP,↓reduceIte,Nat.reduceEqDiff,Nat.reduceLT,reduceCtorEq,q0,q2,q3,q4,q5,q6,q7,q8]
  exact rfl
 ·rw [show sign c = true from by unfold sign; simp; omega]
  have q0:decide ((97:Int) <= (c:Int)) = true:=decide_eq_true (by omega)
  have q1:decide ((c:Int) <= 122) = true:=decide_eq_true (by omega)
  simp only [aA,Tryz.f253,KP,↓reduceIte,Nat.reduceEqDiff,Nat.reduceLT,reduceCtorEq,q0,q1]
  exact rfl
 ·rw [show sign c = false from by unfold sign; simp; omega]
  have q0:decide ((97:Int) <= (c:Int)) = true:=decide_eq_true (by omega)
  have q1:decide ((c:Int) <= 122) = false:=decide_eq_false (by omega)
  have q2:decide ((65:Int) <= (c:Int)) = true:=decide_eq_true (by omega)
  have q3:decide ((c:Int) <= 90) = false:=decide_eq_false (by omega)
  have q4:decide ((48:Int) <= (c:Int)) = true:=decide_eq_true (by omega)
  have q5:decide ((c:Int) <= 57) = false:=decide_eq_false (by omega)
  have q6:decide ((c:Int) = 46) = false:=decide_eq_false (by omega)
  have q7:decide ((c:Int) = 95) = false:=decide_eq_false (by omega)
  have q8:decide ((c:Int) = 45) = false:=decide_eq_false (by omega)
  simp only [aA,Tryz.f253,KP,↓reduceIte,Nat.reduceEqDiff,Nat.reduceLT,reduceCtorEq,q0,q1,q2,q3,q4,q5,q6,q7,q8]
  exact rfl
theorem SE (h:bM E) {c:Nat}:KC E 253 [.int .i32 (c:Int)] Z (.bool (sign c)) Z:=dO fun _=>Tl h
theorem LA (h:bM E) {c:Nat}:aB E 252 [.int .i32 (c:Int)] Z K = K (.bool (!sign c)) Z:=by
 refine aB.of ?_
 rw [aH h.Wt h.T4 h.Xl h.VB (args':=[.int .i32 (c:Int)]) (by simp only [aW,show aY Z E.ty true (.int .i32 (c:Int)) = some (.int .i32 (c:Int)) from rfl]),a_ (by kernel_rfl)]
 have ks:=fun (Y:Sg)=>SE (Z:=Y) h (c:=c)
 simp only [aA,Tryz.f252,KP,↓reduceIte,Nat.reduceLT,reduceCtorEq,ks]
 exact rfl
theorem byte_at {s:aZ} {pos ch:Nat} (hc:s[pos]? = some ch) (h:ch < 256):((qW s).get! pos).toNat = ch:=by
 show ((s.map UInt8.ofNat).toArray[pos]!).toNat = ch
 have e:(s.map UInt8.ofNat).toArray[pos]? = some (UInt8.ofNat ch):=by simp [hc]
 rw [getElem!_def,e]
 simp only [UInt8.toNat_ofNat']
 omega
theorem Pq {s:aZ} {pos ch:Nat} (hc:s[pos]? = some ch) (h1:¬ ch < 128) (h2:ch < 256):128 <= (Utf8.decode (qW s) pos).1:=by
 unfold Utf8.decode
 simp only [Nat.add_zero,byte_at hc h2,h1,if_false]
 repeat' split
 all_goals first
  | (simp only [Utf8.runeError]; omega)
  | (simp only [Bool.and_eq_true,beq_iff_eq,decide_eq_true_eq,ge_iff_le] at *; omega)
theorem F9 {c:Nat} (h:128 <= c):sign c = false:=by
 unfold sign; simp; omega
theorem Is (h:bM E):pR E 4 false (.bool true) (.bool true) = some true:=by unfold pR; rw [h.AU]; rfl
theorem S2 (h:bM E):pR E 4 false (.bool false) (.bool true) = some false:=by unfold pR; rw [h.AU]; rfl
theorem b_xF (h:bM E) {s:aZ} {k:Nat} {P:Nat -> Bool} (hsm:s.length <= 4294967296) (hP:∀ (Z:Sg) (r:Nat),aB E k [.int .i32 (r:Int)] Z fun u Y=>Y = Z /\ u = .bool (P r)) (hhi:∀ r,128 <= r -> P r = true):aB E 308 [.str s,.fn k [] [],.bool true] Z fun v Y=>Y = Z /\ ∃ n:Int,v = .int .i64 n /\ decide (0 <= n) = s.any P:=by
 have ef:=qZ (E:=E) (k:=k) (caps:=[]) (fun _ h=>by cases h) Z
 rw [aH h.Wq h.T1 h.Xi h.Vy (args':=[.str s,.fn k [] [],.bool true]) (by simp only [aW,cV,ef,show aY Z E.ty true (.bool true) = some (.bool true) from rfl]),a_ (by kernel_rfl)]
 simp only [aA,Tryz.f308,KP,↓reduceIte,Nat.reduceLT,Nat.reduceAdd,reduceCtorEq,Int.reduceNeg,h.cN,oE]
 refine aR (fun i F Y=>Y = [.Hp s i] /\ F.get 1 = .fn k [] [] /\ F.get 2 = .bool true /\ F.get 10 = .ref 0 0 /\ ∀ j y,j < i -> s[j]? = some y -> P y = false) s.length ?_ ?_ s.length 0 _ _ (by omega) ⟨rfl,(fE (by simp +decide only [GS,and_self]) (fun j y hj=>by omega))⟩
 ·rintro i F Y hi ⟨rfl,g1,g2,g10,hp⟩ next
  obtain ⟨x,hx⟩:∃ x,s[i]? = some x:=⟨_,List.getElem?_eq_getElem hi⟩
  rw [aF]
  by_cases h128:x < 128
  ·simp only [KP,↓reduceIte,Nat.reduceEqDiff,Nat.reduceLT,Int.reduceNeg,g1,g10,uX,hx,h128]
   refine aL (hP _ x) ?_
   rintro u Y ⟨rfl,rfl⟩
   by_cases hxs:P x = true
   ·simp only [KP,↓reduceIte,Nat.reduceEqDiff,Nat.reduceLT,Int.reduceNeg,g2,hxs,Is h]
    exact ⟨_,rfl,by rw [show s.any P = true from List.any_eq_true.2 ⟨x,List.mem_of_getElem? hx,hxs⟩]; exact decide_eq_true (by omega)⟩
   ·have hxs:P x = false:=by simpa using hxs
    simp only [KP,↓reduceIte,Nat.reduceEqDiff,Nat.reduceLT,Int.reduceNeg,g2,hxs,S2 h]
    refine next _ _ ⟨rfl,(fE (by simp +decide only [GS,g1,g2,g10,and_self]) (fun j y hj hy=>?_))⟩
    rcases Nat.lt_or_ge j i with g | g
    ·exact hp j y g hy
    ·obtain rfl:j = i:=by omega
     rw [hx] at hy; cases hy; exact hxs
  have hany:s.any P = true:=List.any_eq_true.2 ⟨x,List.mem_of_getElem? hx,hhi x (by omega)⟩
  by_cases h256:x < 256
  ·simp only [KP,↓reduceIte,Nat.reduceEqDiff,Nat.reduceLT,Int.reduceNeg,g1,g10,uX,hx,h128,h256]
   refine aL (hP _ (Utf8.decode (qW s) i).1) ?_
   rintro u Y ⟨rfl,rfl⟩
   have hxs:=hhi _ (Pq hx h128 h256)
   simp only [KP,↓reduceIte,Nat.reduceEqDiff,Nat.reduceLT,Int.reduceNeg,g2,hxs,Is h]
   exact ⟨_,rfl,by rw [hany]; exact decide_eq_true (by omega)⟩
  ·simp only [KP,↓reduceIte,Nat.reduceEqDiff,Nat.reduceLT,Int.reduceNeg,g1,g10,uX,hx,h128,h256]
   refine aL (hP _ 65533) ?_
   rintro u Y ⟨rfl,rfl⟩
   have hxs:=hhi _ (show 128 <= 65533 by omega)
   simp only [KP,↓reduceIte,Nat.reduceEqDiff,Nat.reduceLT,Int.reduceNeg,g2,hxs,Is h]
   exact ⟨_,rfl,by rw [hany]; exact decide_eq_true (by omega)⟩
 ·rintro F Y ⟨rfl,g1,g2,g10,hp⟩
  have hx:s[s.length]? = none:=List.getElem?_eq_none (Nat.le_refl _)
  rw [aF]
  simp only [KP,↓reduceIte,Nat.reduceLT,Int.reduceNeg,g10,uX,hx]
  refine ⟨-1,rfl,?_⟩
  rw [show s.any P = false from List.any_eq_false.2 fun x hx=>by
   obtain ⟨j,hj,e⟩:=List.getElem_of_mem hx
   rw [hp j x hj (by rw [List.getElem?_eq_getElem hj,e])]; simp]
  rfl
theorem Tp (h:bM E) {s:aZ} {k:Nat} {P:Nat -> Bool} (hsm:s.length <= 4294967296) (hP:∀ (Z:Sg) (r:Nat),aB E k [.int .i32 (r:Int)] Z fun u Y=>Y = Z /\ u = .bool (P r)) (hhi:∀ r,128 <= r -> P r = true):aB E 287 [.str s,.fn k [] []] Z fun v Y=>Y = Z /\ ∃ n:Int,v = .int .i64 n /\ decide (0 <= n) = s.any P:=by
 have ef:=qZ (E:=E) (k:=k) (caps:=[]) (fun _ h=>by cases h) Z
 rw [aH h.Wr h.T2 h.Xj h.Vz (args':=[.str s,.fn k [] []]) (by simp only [aW,cV,ef]),a_ (by kernel_rfl)]
 simp only [aA,Tryz.f287,KP,↓reduceIte,Nat.reduceEqDiff,Nat.reduceLT,Nat.reduceAdd,reduceCtorEq]
 refine aL (b_xF h hsm hP hhi) ?_
 rintro v Y ⟨rfl,n,rfl,hn⟩
 simp only [KP,↓reduceIte,Nat.reduceLT]
 exact ⟨n,rfl,hn⟩
theorem Q8 (h:bM E) {s:aZ} {k:Nat} {P:Nat -> Bool} (hsm:s.length <= 4294967296) (hP:∀ (Z:Sg) (r:Nat),aB E k [.int .i32 (r:Int)] Z fun u Y=>Y = Z /\ u = .bool (P r)) (hhi:∀ r,128 <= r -> P r = true):aB E 251 [.str s,.fn k [] []] Z K = K (.bool (s.any P)) Z:=by
 refine aB.of ?_
 have ef:=qZ (E:=E) (k:=k) (caps:=[]) (fun _ h=>by cases h) Z
 rw [aH h.Wu h.T5 h.Xm h.VC (args':=[.str s,.fn k [] []]) (by simp only [aW,cV,ef]),a_ (by kernel_rfl)]
 simp only [aA,Tryz.f251,KP,↓reduceIte,Nat.reduceEqDiff,Nat.reduceLT,Nat.reduceAdd,reduceCtorEq]
 refine aL (Tp h hsm hP hhi) ?_
 rintro v Y ⟨rfl,n,rfl,hn⟩
 simp only [KP,↓reduceIte,Nat.reduceLT,hn]
 exact rfl
theorem Ym (h:bM E) {p:aZ} (hsm:p.length <= 4294967296):aB E 224 [.str p] Z K = K (.bool (!rC p)) Z:=by
 refine aB.of ?_
 rw [aH h.Ww h.T7 h.Xo h.VE (args':=[.str p]) (by simp only [aW,cV]),a_ (by kernel_rfl)]
 by_cases h1:p = []
 ·have q1:=gW h1
  simp only [aA,Tryz.f224,KP,↓reduceIte,Nat.reduceEqDiff,Nat.reduceLT,reduceCtorEq,kS,q1]
  rw [yN (.inl h1)]
  exact rfl
 have q1:=fT h1
 by_cases h2:p = [46]
 ·have q2:=gW h2
  simp only [aA,Tryz.f224,KP,↓reduceIte,Nat.reduceEqDiff,Nat.reduceLT,reduceCtorEq,kS,Lh,q1,q2]
  rw [yN (.inr (.inl h2))]
  exact rfl
 have q2:=fT h2
 by_cases h3:p = [46,46]
 ·have q3:=gW h3
  simp only [aA,Tryz.f224,KP,↓reduceIte,Nat.reduceEqDiff,Nat.reduceLT,reduceCtorEq,kS,Lh,QI,q1,q2,q3]
  rw [yN (.inr (.inr h3))]
  exact rfl
 have q3:=fT h3
 have kc:=fun (Y:Sg)=>dO (fun K=>Q8 (Z:=Y) (K:=K) (s:=p) (k:=252) (P:=fun c=>!sign c) h hsm (fun Y r=>by rw [LA h]; exact ⟨rfl,rfl⟩) (fun r hr=>by rw [F9 hr]; rfl))
 simp only [aA,Tryz.f224,KP,↓reduceIte,Nat.reduceEqDiff,Nat.reduceLT,reduceCtorEq,kS,Lh,QI,q1,q2,q3,kc]
 rw [HX h1 h2 h3,List.not_all_eq_any_not]
 exact rfl
theorem yZ:∀ l:List aZ,eT aK.P (l.map fun p=>[V.str p]) l
 | []=>.nil
 | _ :: l=>.cons rfl (yZ l)
theorem Ot (h:bM E) {s:aZ} (hsm:s.length <= 1000000000):aB E 223 [.str s] Z fun v Y=>Y = Z /\ jZ aK v (cE 47 s):=by
 rw [aH h.Wx h.T8 h.Xp h.VF (args':=[.str s]) (by simp only [aW,cV]),a_ (by kernel_rfl)]
 have hs:kV [.str s,.str [47]] = some (.bQ false ((cE 47 s).map fun p=>[V.str p]) true):=by
  unfold kV
  exact if_pos (by omega)
 have iv:jZ aK (.bQ false ((cE 47 s).map fun p=>[V.str p]) true) (cE 47 s):=.inr ⟨_,_,rfl,yZ _⟩
 have h5:∀ Z,cW Z E.ty false (.bQ false ((cE 47 s).map fun p=>[V.str p]) true) = some (.bQ false ((cE 47 s).map fun p=>[V.str p]) true):=fun Z=>(show cW Z E.ty false (.bQ false ((cE 47 s).map fun p=>[V.str p]) true) = aY Z E.ty false (.bQ false ((cE 47 s).map fun p=>[V.str p]) true) from rfl).trans (cR iv.is.bE iv.tag)
 have kc:=fun (Y:Sg)=>dO (fun K=>sO (Z:=Y) (K:=K) (args:=[.str s,.str [47]]) (args':=[.str s,.str [47]]) h.WI h.Uh (by simp only [aW,cV]) hs (h5 []))
 have hb:Ax.bytes ⟨#[47]⟩ = [47]:=rfl
 simp only [aA,Tryz.f223,KP,↓reduceIte,Nat.reduceLT,reduceCtorEq,kc,h5,hb]
 exact iv
theorem EK {s:aZ} (h:¬ s.length <= 40):bG s = false:=by unfold bG; rw [decide_eq_false h]; simp
theorem pC {s:aZ} (h:n_ s = true):bG s = false:=by unfold bG; rw [h]; rfl
theorem Yn (h:bM E) {s:aZ}:aB E 186 [.str s] Z K = K (.bool (bG s)) Z:=by
 refine aB.of ?_
 rw [aH h.WE h.Ue h.Xw h.VM (args':=[.str s]) (by simp only [aW,cV]),a_ (by kernel_rfl)]
 by_cases w0:s = [114,117,108,101]
 ·have e0:=gW w0
  simp only [aA,Tryz.f186,KP,↓reduceIte,Nat.reduceLT,reduceCtorEq,CC,e0]
  rw [pC (by rw [w0]; rfl)]
  exact rfl
 have e0:=fT w0
 by_cases w1:s = [105,110]
 ·have e1:=gW w1
  simp only [aA,Tryz.f186,KP,↓reduceIte,Nat.reduceEqDiff,Nat.reduceLT,reduceCtorEq,CC,E5,e0,e1]
  rw [pC (by rw [w1]; rfl)]
  exact rfl
 have e1:=fT w1
 by_cases w2:s = [111,117,116]
 ·have e2:=gW w2
  simp only [aA,Tryz.f186,KP,↓reduceIte,Nat.reduceEqDiff,Nat.reduceLT,reduceCtorEq,CC,E5,Iu,e0,e1,e2]
  rw [pC (by rw [w2]; rfl)]
  exact rfl
 have e2:=fT w2
 by_cases w3:s = [97,102,116,101,114]
 ·have e3:=gW w3
  simp only [aA,Tryz.f186,KP,↓reduceIte,Nat.reduceEqDiff,Nat.reduceLT,reduceCtorEq,CC,E5,Iu,N6,e0,e1,e2,e3]
  rw [pC (by rw [w3]; rfl)]
  exact rfl
 have e3:=fT w3
 by_cases h40:s.length <= 40
 case neg=>
  have q1:decide ((s.length:Int) <= 40) = false:=decide_eq_false (by omega)
  rw [EK h40]
  simp only [aA,Tryz.f186,KP,↓reduceIte,Nat.reduceEqDiff,Nat.reduceLT,reduceCtorEq,fG h,CC,E5,Iu,N6,e0,e1,e2,e3,q1]
  exact rfl
 have q1:decide ((s.length:Int) <= 40) = true:=decide_eq_true (by omega)
 have hr:n_ s = false:=by unfold n_; rw [decide_eq_false w0,decide_eq_false w1,decide_eq_false w2,decide_eq_false w3]; rfl
 rw [Nf hr h40]
 simp only [aA,Tryz.f186,KP,↓reduceIte,Nat.reduceEqDiff,Nat.reduceLT,reduceCtorEq,fG h,CC,E5,Iu,N6,e0,e1,e2,e3,q1]
 refine aL (Ot h (by omega)) ?_
 rintro v σ' ⟨rfl,hv⟩
 have hPl:=qY 47 s
 have hPp:=sU (s:=s) rfl
 generalize cE 47 s = P at *
 have kc:=fun (Y:Sg)=>JL (Z:=Y) (k:=224) (caps:=[]) (P:=fun p=>!rC p) h (hv.is.ls Y 9) (by omega) (fun _ h=>by cases h) (fun y v hy hv=>by
  subst hv
  have:=hPp y hy
  show aB E 224 [.str y] [] _
  rw [Ym h (by omega)]; exact ⟨rfl,rfl⟩)
 simp only [KP,↓reduceIte,Nat.reduceEqDiff,Nat.reduceLT,kc]
 rw [<- List.not_all_eq_any_not,Bool.not_not]
 exact rfl
theorem Wj (h:bM E) {s:aZ}:KC E 186 [.str s] Z (.bool (bG s)) Z:=dO fun _=>Yn h
end
end
section
section
variable {E:Env} {Z:Sg} {K:V -> Sg -> Prop}
theorem Oo (h:bM E) {p:Int}:aB E 169 [.int .i64 p] Z K = K (.fS [.int .i64 ((counts p).1:Nat),.int .i64 ((counts p).2.1:Nat),.int .i64 ((counts p).2.2:Nat)]) Z:=by
 refine aB.of ?_
 rw [aH h.WK h.Uj h.XA h.VQ (args':=[.int .i64 p]) (by simp only [aW,show aY Z E.ty true (.int .i64 p) = some (.int .i64 p) from rfl]),a_ (by kernel_rfl)]
 by_cases p5:p = 5
 ·have q5:decide (p = 5) = true:=decide_eq_true p5
  simp only [aA,Tryz.f169,KP,↓reduceIte,Nat.reduceEqDiff,Nat.reduceLT,reduceCtorEq,q5]
  rw [p5]
  exact rfl
 have q5:decide (p = 5) = false:=decide_eq_false p5
 by_cases p6:p = 6
 ·have q6:decide (p = 6) = true:=decide_eq_true p6
  simp only [aA,Tryz.f169,KP,↓reduceIte,Nat.reduceEqDiff,Nat.reduceLT,reduceCtorEq,q5,q6]
  rw [p6]
  exact rfl
 have q6:decide (p = 6) = false:=decide_eq_false p6
 by_cases p7:p = 7
 ·have q7:decide (p = 7) = true:=decide_eq_true p7
  simp only [aA,Tryz.f169,KP,↓reduceIte,Nat.reduceEqDiff,Nat.reduceLT,reduceCtorEq,q5,q6,q7]
  rw [p7]
  exact rfl
 have q7:decide (p = 7) = false:=decide_eq_false p7
 by_cases p8:p = 8
 ·have q8:decide (p = 8) = true:=decide_eq_true p8
  simp only [aA,Tryz.f169,KP,↓reduceIte,Nat.reduceEqDiff,Nat.reduceLT,reduceCtorEq,q5,q6,q7,q8]
  rw [p8]
  exact rfl
 have q8:decide (p = 8) = false:=decide_eq_false p8
 have e:counts p = (1,1,0):=by unfold counts; rw [if_neg p5,if_neg p6,if_neg p7,if_neg p8]
 rw [e]
 simp only [aA,Tryz.f169,KP,↓reduceIte,Nat.reduceEqDiff,Nat.reduceLT,reduceCtorEq,q5,q6,q7,q8]
 exact rfl
theorem NI (h:bM E) {p:Int}:KC E 169 [.int .i64 p] Z (.fS [.int .i64 ((counts p).1:Nat),.int .i64 ((counts p).2.1:Nat),.int .i64 ((counts p).2.2:Nat)]) Z:=dO fun _=>Oo h
theorem LB (h:bM E) {s:aZ}:aB E 170 [.str s] Z K = K (.bool (decide (100 < s.length))) Z:=by
 refine aB.of ?_
 rw [aH h.WJ h.Ui h.Xz h.VP (args':=[.str s]) (by simp only [aW,cV]),a_ (by kernel_rfl)]
 simp only [aA,Tryz.f170,KP,↓reduceIte,Nat.reduceLT,reduceCtorEq,fG h]
 rw [show decide ((100:Int) < (s.length:Int)) = decide (100 < s.length) from by rw [decide_eq_decide]; omega]
 exact rfl
theorem Gg {x:AxS.Step}:cB x = true ↔ ((1 <= x.op /\ x.op <= 9) /\ ((counts x.op).1 <= x.args.length /\ x.args.length <= (counts x.op).2.1)) /\ x.lits.length = (counts x.op).2.2 /\ (x.lits.any fun l=>decide (100 < l.length)) = false /\ (x.op = 8 -> x.lits.head? ≠ some []) /\ (0 <= x.n /\ x.n <= 2000) /\ (x.op = 9 \/ x.n = 0):=by
 have e:x.lits.all (fun l=>decide (l.length <= 100)) = !(x.lits.any fun l=>decide (100 < l.length)):=by
  rw [List.not_any_eq_all_not]
  congr 1
  funext l
  rw [<- decide_not,decide_eq_decide]
  omega
 unfold cB
 rw [e]
 simp only [Bool.and_eq_true,decide_eq_true_eq,and_assoc,Bool.not_eq_true']
theorem qB {x:AxS.Step} (h:¬ (cB x = true)):cB x = false:=by simpa using h
theorem Lx (h:bM E) {v:V} {x:AxS.Step} (hv:LM v x) (hsm:x.lits.length <= 4294967296):aB E 125 [v] Z K = K (.bool (cB x)) Z:=by
 refine aB.of ?_
 have ev:=hv.snap (E:=E) Z
 obtain ⟨a,b,rfl,ia,ib⟩:=hv
 have hoka:a.aX = true:=aJ ia.bE
 have hokb:b.aX = true:=aJ ib.bE
 rw [aH h.WV h.Uu h.XJ h.V0 (args':=[.agg [.str x.out,.int .i64 x.op,a,b,.int .i64 x.n]]) (by simp only [aW,ev]),a_ (by kernel_rfl)]
 have la:=bL h ia
 have lb:=bL h ib
 have hm:=Gg (x:=x)
 have kc:=fun (Y:Sg)=>NI (Z:=Y) h (p:=x.op)
 have kl:=fun (Y:Sg)=>JL (Z:=Y) (k:=170) (caps:=[]) (P:=fun l=>decide (100 < l.length)) h (ib.ls Y 9) hsm (fun _ h=>by cases h) (fun y v hy hv=>by
  subst hv
  show aB E 170 [.str y] [] _
  rw [LB h]; exact ⟨rfl,rfl⟩)
 have h8:x.op = 8 -> (counts x.op).2.2 = 2:=fun e=>by rw [e]; rfl
 generalize (counts x.op).1 = A at *
 generalize (counts x.op).2.1 = B at *
 generalize (counts x.op).2.2 = C at *
 by_cases p1:1 <= x.op
 case neg=>
  have q1:decide (x.op < 1) = true:=decide_eq_true (by omega)
  rw [qB (mt hm.1 fun hh=>by omega)]
  simp only [aA,Tryz.f125,KP,Ax.loadAt,↓reduceIte,Nat.reduceEqDiff,Nat.reduceLT,Nat.reduceAdd,reduceCtorEq,h.oZ,h.cO,kc,hoka,hokb,q1]
  exact rfl
 have q1:decide (x.op < 1) = false:=decide_eq_false (by omega)
 by_cases p2:x.op <= 9
 case neg=>
  have q2:decide ((9:Int) < x.op) = true:=decide_eq_true (by omega)
  rw [qB (mt hm.1 fun hh=>by omega)]
  simp only [aA,Tryz.f125,KP,Ax.loadAt,↓reduceIte,Nat.reduceEqDiff,Nat.reduceLT,Nat.reduceAdd,reduceCtorEq,h.oZ,h.cO,kc,hoka,hokb,q1,q2]
  exact rfl
 have q2:decide ((9:Int) < x.op) = false:=decide_eq_false (by omega)
 by_cases p3:A <= x.args.length
 case neg=>
  have q3:decide ((x.args.length:Int) < (A:Int)) = true:=decide_eq_true (by omega)
  rw [qB (mt hm.1 fun hh=>by omega)]
  simp only [aA,Tryz.f125,KP,Ax.loadAt,↓reduceIte,Nat.reduceEqDiff,Nat.reduceLT,Nat.reduceAdd,reduceCtorEq,h.oZ,h.aV,h.cO,kc,la,hoka,hokb,q1,q2,q3]
  exact rfl
 have q3:decide ((x.args.length:Int) < (A:Int)) = false:=decide_eq_false (by omega)
 by_cases p4:x.args.length <= B
 case neg=>
  have q4:decide ((B:Int) < (x.args.length:Int)) = true:=decide_eq_true (by omega)
  rw [qB (mt hm.1 fun hh=>by omega)]
  simp only [aA,Tryz.f125,KP,Ax.loadAt,↓reduceIte,Nat.reduceEqDiff,Nat.reduceLT,Nat.reduceAdd,reduceCtorEq,h.oZ,h.aV,h.cO,kc,la,hoka,hokb,q1,q2,q3,q4]
  exact rfl
 have q4:decide ((B:Int) < (x.args.length:Int)) = false:=decide_eq_false (by omega)
 by_cases p5:x.lits.length = C
 case neg=>
  have q5:decide ((x.lits.length:Int) = (C:Int)) = false:=decide_eq_false (by omega)
  rw [qB (mt hm.1 fun hh=>by omega)]
  simp only [aA,Tryz.f125,KP,Ax.loadAt,↓reduceIte,Nat.reduceEqDiff,Nat.reduceLT,Nat.reduceAdd,reduceCtorEq,h.oZ,h.aV,h.cO,kc,la,lb,hoka,hokb,q1,q2,q3,q4,q5]
  exact rfl
 have q5:decide ((x.lits.length:Int) = (C:Int)) = true:=decide_eq_true (by omega)
 by_cases p6:(x.lits.any fun l=>decide (100 < l.length)) = true
 ·rw [qB (mt hm.1 fun hh=>by rw [p6] at hh; simp at hh)]
  simp only [aA,Tryz.f125,KP,Ax.loadAt,↓reduceIte,Nat.reduceEqDiff,Nat.reduceLT,Nat.reduceAdd,reduceCtorEq,h.oZ,h.aV,h.cO,kc,kl,la,lb,hoka,hokb,q1,q2,q3,q4,q5,p6]
  exact rfl
 have q6:(x.lits.any fun l=>decide (100 < l.length)) = false:=by simpa using p6
 by_cases p8:x.op = 8
 ·have q8:decide (x.op = 8) = true:=decide_eq_true p8
  have hC:=h8 p8
  obtain ⟨y,r,hyr⟩:=List.exists_cons_of_ne_nil (show x.lits ≠ [] from fun e=>by rw [e] at p5; simp at p5; omega)
  obtain ⟨g,e1⟩:=fI h ib (i:=0) (x:=y) (by rw [hyr]; rfl)
  have e1:indexAddr E 28 b (.int .i64 0) = some (.dP g [.str y]):=e1
  by_cases hy:y = []
  ·have e2:=gW hy
   rw [qB (mt hm.1 fun hh=>hh.2.2.2.1 p8 (by rw [hyr,hy]; rfl))]
   simp only [aA,Tryz.f125,KP,Ax.loadAt,↓reduceIte,Nat.reduceEqDiff,Nat.reduceLT,Nat.reduceAdd,reduceCtorEq,h.oZ,h.cN,h.aV,h.cO,kS,kc,kl,la,lb,hoka,hokb,q1,q2,q3,q4,q5,q6,q8,e1,e2]
   exact rfl
  have e2:=fT hy
  have hh8:x.op = 8 -> x.lits.head? ≠ some []:=fun _=>by rw [hyr]; simpa using hy
  by_cases p9:0 <= x.n
  case neg=>
   have q9:decide (x.n < 0) = true:=decide_eq_true (by omega)
   rw [qB (mt hm.1 fun hh=>by omega)]
   simp only [aA,Tryz.f125,KP,Ax.loadAt,↓reduceIte,Nat.reduceEqDiff,Nat.reduceLT,Nat.reduceAdd,reduceCtorEq,h.oZ,h.cN,h.aV,h.cO,kS,kc,kl,la,lb,hoka,hokb,q1,q2,q3,q4,q5,q6,q8,e1,e2,q9]
   exact rfl
  have q9:decide (x.n < 0) = false:=decide_eq_false (by omega)
  by_cases p10:x.n <= 2000
  case neg=>
   have Fj:decide ((2000:Int) < x.n) = true:=decide_eq_true (by omega)
   rw [qB (mt hm.1 fun hh=>by omega)]
   simp only [aA,Tryz.f125,KP,Ax.loadAt,↓reduceIte,Nat.reduceEqDiff,Nat.reduceLT,Nat.reduceAdd,reduceCtorEq,h.oZ,h.cN,h.aV,h.cO,kS,kc,kl,la,lb,hoka,hokb,q1,q2,q3,q4,q5,q6,q8,e1,e2,q9,Fj]
   exact rfl
  have Fj:decide ((2000:Int) < x.n) = false:=decide_eq_false (by omega)
  by_cases p11:x.op = 9
  ·have Hr:decide (x.op = 9) = true:=decide_eq_true p11
   rw [hm.2 ⟨⟨⟨p1,p2⟩,p3,p4⟩,p5,q6,hh8,⟨p9,p10⟩,.inl p11⟩]
   simp only [aA,Tryz.f125,KP,Ax.loadAt,↓reduceIte,Nat.reduceEqDiff,Nat.reduceLT,Nat.reduceAdd,reduceCtorEq,h.oZ,h.cN,h.aV,h.cO,kS,kc,kl,la,lb,hoka,hokb,q1,q2,q3,q4,q5,q6,q8,e1,e2,q9,Fj,Hr]
   exact rfl
  have Hr:decide (x.op = 9) = false:=decide_eq_false p11
  by_cases p12:x.n = 0
  case neg=>
   have LO:decide (x.n = 0) = false:=decide_eq_false (by omega)
   rw [qB (mt hm.1 fun hh=>by omega)]
   simp only [aA,Tryz.f125,KP,Ax.loadAt,↓reduceIte,Nat.reduceEqDiff,Nat.reduceLT,Nat.reduceAdd,reduceCtorEq,h.oZ,h.cN,h.aV,h.cO,kS,kc,kl,la,lb,hoka,hokb,q1,q2,q3,q4,q5,q6,q8,e1,e2,q9,Fj,Hr,LO]
   exact rfl
  have LO:decide (x.n = 0) = true:=decide_eq_true (by omega)
  rw [hm.2 ⟨⟨⟨p1,p2⟩,p3,p4⟩,p5,q6,hh8,⟨p9,p10⟩,.inr p12⟩]
  simp only [aA,Tryz.f125,KP,Ax.loadAt,↓reduceIte,Nat.reduceEqDiff,Nat.reduceLT,Nat.reduceAdd,reduceCtorEq,h.oZ,h.cN,h.aV,h.cO,kS,kc,kl,la,lb,hoka,hokb,q1,q2,q3,q4,q5,q6,q8,e1,e2,q9,Fj,Hr,LO]
  exact rfl
 ·have q8:decide (x.op = 8) = false:=decide_eq_false p8
  have hh8:x.op = 8 -> x.lits.head? ≠ some []:=fun e=>absurd e p8
  by_cases p9:0 <= x.n
  case neg=>
   have q9:decide (x.n < 0) = true:=decide_eq_true (by omega)
   rw [qB (mt hm.1 fun hh=>by omega)]
   simp only [aA,Tryz.f125,KP,Ax.loadAt,↓reduceIte,Nat.reduceEqDiff,Nat.reduceLT,Nat.reduceAdd,reduceCtorEq,h.oZ,h.aV,h.cO,kc,kl,la,lb,hoka,hokb,q1,q2,q3,q4,q5,q6,q8,q9]
   exact rfl
  have q9:decide (x.n < 0) = false:=decide_eq_false (by omega)
  by_cases p10:x.n <= 2000
  case neg=>
   have Fj:decide ((2000:Int) < x.n) = true:=decide_eq_true (by omega)
   rw [qB (mt hm.1 fun hh=>by omega)]
   simp only [aA,Tryz.f125,KP,Ax.loadAt,↓reduceIte,Nat.reduceEqDiff,Nat.reduceLT,Nat.reduceAdd,reduceCtorEq,h.oZ,h.aV,h.cO,kc,kl,la,lb,hoka,hokb,q1,q2,q3,q4,q5,q6,q8,q9,Fj]
   exact rfl
  have Fj:decide ((2000:Int) < x.n) = false:=decide_eq_false (by omega)
  by_cases p11:x.op = 9
  ·have Hr:decide (x.op = 9) = true:=decide_eq_true p11
   rw [hm.2 ⟨⟨⟨p1,p2⟩,p3,p4⟩,p5,q6,hh8,⟨p9,p10⟩,.inl p11⟩]
   simp only [aA,Tryz.f125,KP,Ax.loadAt,↓reduceIte,Nat.reduceEqDiff,Nat.reduceLT,Nat.reduceAdd,reduceCtorEq,h.oZ,h.aV,h.cO,kc,kl,la,lb,hoka,hokb,q1,q2,q3,q4,q5,q6,q8,q9,Fj,Hr]
   exact rfl
  have Hr:decide (x.op = 9) = false:=decide_eq_false p11
  by_cases p12:x.n = 0
  case neg=>
   have LO:decide (x.n = 0) = false:=decide_eq_false (by omega)
   rw [qB (mt hm.1 fun hh=>by omega)]
   simp only [aA,Tryz.f125,KP,Ax.loadAt,↓reduceIte,Nat.reduceEqDiff,Nat.reduceLT,Nat.reduceAdd,reduceCtorEq,h.oZ,h.aV,h.cO,kc,kl,la,lb,hoka,hokb,q1,q2,q3,q4,q5,q6,q8,q9,Fj,Hr,LO]
   exact rfl
  have LO:decide (x.n = 0) = true:=decide_eq_true (by omega)
  rw [hm.2 ⟨⟨⟨p1,p2⟩,p3,p4⟩,p5,q6,hh8,⟨p9,p10⟩,.inr p12⟩]
  simp only [aA,Tryz.f125,KP,Ax.loadAt,↓reduceIte,Nat.reduceEqDiff,Nat.reduceLT,Nat.reduceAdd,reduceCtorEq,h.oZ,h.aV,h.cO,kc,kl,la,lb,hoka,hokb,q1,q2,q3,q4,q5,q6,q8,q9,Fj,Hr,LO]
  exact rfl
theorem KV (h:bM E) {v:V} {x:AxS.Step} (hv:LM v x) (hsm:x.lits.length <= 4294967296):KC E 125 [v] Z (.bool (cB x)) Z:=dO fun _=>Lx h hv hsm
end
end
section
section
variable {E:Env} {Z:Sg} {K:V -> Sg -> Prop}
theorem D_ (h:bM E) {s:aZ}:aB E 199 [.str s] Z K = K (.bool (!bG s)) Z:=by
 refine aB.of ?_
 rw [aH h.WD h.Ud h.Xv h.VL (args':=[.str s]) (by simp only [aW,cV]),a_ (by kernel_rfl)]
 have kc:=fun (Y:Sg)=>Wj (Z:=Y) h (s:=s)
 simp only [aA,Tryz.f199,KP,↓reduceIte,Nat.reduceLT,reduceCtorEq,kc]
 exact rfl
theorem DQ (h:bM E) {s:aZ}:KC E 199 [.str s] Z (.bool (!bG s)) Z:=dO fun _=>D_ h
theorem A2 (h:bM E) {a:V} {l:List aZ} (ha:LS aK 9 Z a l) (hsm:l.length <= 4294967296):KC E 67 [a,.fn 199 [] []] Z (.bool (!(l.all bG))) Z:=dO fun _=>by rw [List.not_all_eq_any_not]; exact J4 (k:=199) (caps:=[]) (P:=fun s=>!bG s) h ha hsm (fun _ h=>by cases h) (fun y v hy hv=>by subst hv; show aB E 199 [.str y] [] _; rw [D_ h]; exact ⟨rfl,rfl⟩)
def Km (s:AxS.Step):Bool:=bG s.out && s.args.all bG && cB s
theorem QX (h:bM E) {v:V} {x:AxS.Step} (hv:LM v x) (h1:x.args.length <= 4294967296) (h2:x.lits.length <= 4294967296):aB E 201 [v] Z K = K (.bool (!Km x)) Z:=by
 refine aB.of ?_
 have ev:=hv.snap (E:=E) Z
 obtain ⟨a,b,rfl,ia,ib⟩:=hv
 have hoka:a.aX = true:=aJ ia.bE
 have hokb:b.aX = true:=aJ ib.bE
 rw [aH h.WB h.Ub h.Xt h.VJ (args':=[.agg [.str x.out,.int .i64 x.op,a,b,.int .i64 x.n]]) (by simp only [aW,ev]),a_ (by kernel_rfl)]
 have k1:=fun (Y:Sg)=>DQ (Z:=Y) h (s:=x.out)
 have k2:=fun (Y:Sg)=>A2 (Z:=Y) h (ia.ls Y 9) h1
 have k3:=fun (Y:Sg)=>KV (Z:=Y) h (v:=.agg [.str x.out,.int .i64 x.op,a,b,.int .i64 x.n]) ⟨a,b,rfl,ia,ib⟩ h2
 unfold Km
 cases e1:bG x.out with
 | false=>
  simp only [aA,Tryz.f201,KP,Ax.loadAt,↓reduceIte,Nat.reduceEqDiff,Nat.reduceLT,Nat.reduceAdd,reduceCtorEq,h.cN,h.cO,hoka,hokb,k1,e1]
  exact rfl
 | true=>
  cases e2:x.args.all bG with
  | false=>
   simp only [aA,Tryz.f201,KP,Ax.loadAt,↓reduceIte,Nat.reduceEqDiff,Nat.reduceLT,Nat.reduceAdd,reduceCtorEq,h.cN,h.aV,h.cO,hoka,hokb,k1,k2,e1,e2]
   exact rfl
  | true=>
   simp only [aA,Tryz.f201,KP,Ax.loadAt,↓reduceIte,Nat.reduceEqDiff,Nat.reduceLT,Nat.reduceAdd,reduceCtorEq,h.cN,h.aV,h.cO,hoka,hokb,k1,k2,k3,e1,e2]
   exact rfl
theorem zD (r:aG):jY r = (bG r.name && decide (r.outs ≠ []) && r.ins.all bG && r.outs.all bG && r.after.all bG && r.steps.all Km):=rfl
theorem QW (h:bM E) {v:V} {x:aG} (hv:Hh v x) (hs:Small x):aB E 167 [v] Z K = K (.bool (jY x)) Z:=by
 refine aB.of ?_
 have ev:=hv.snap (E:=E) Z
 obtain ⟨a,b,c,d,rfl,ia,ib,ic,id⟩:=hv
 have o1:=aJ ia.bE
 have o2:=aJ ib.bE
 have o3:=aJ ic.bE
 have o4:=aJ id.bE
 have l1:=hs.ins
 have l2:=hs.outs
 have l3:=hs.after
 have l4:=hs.steps
 rw [aH h.WM h.Ul h.XC h.VT (args':=[.agg [.str x.name,a,b,c,d]]) (by simp only [aW,ev]),a_ (by kernel_rfl)]
 have lb:=bL h ib
 have kn:=fun (Y:Sg)=>DQ (Z:=Y) h (s:=x.name)
 have k1:=fun (Y:Sg)=>A2 (Z:=Y) h (ia.ls Y 9) (by omega)
 have k2:=fun (Y:Sg)=>A2 (Z:=Y) h (ib.ls Y 9) (by omega)
 have k3:=fun (Y:Sg)=>A2 (Z:=Y) h (ic.ls Y 9) (by omega)
 have k4:=fun (Y:Sg)=>K2 (Z:=Y) (k:=201) (caps:=[]) (P:=fun s=>!Km s) h (id.ls Y 75) (by omega) (fun _ h=>by cases h) (fun y v hy hv=>by
  have hy1:=hs.args y hy
  have hy2:=hs.lits y hy
  show aB E 201 [v] [] _
  rw [QX h hv (by omega) (by omega)]; exact ⟨rfl,rfl⟩)
 rw [zD]
 cases e0:bG x.name with
 | false=>
  simp only [aA,Tryz.f167,KP,Ax.loadAt,↓reduceIte,Nat.reduceEqDiff,Nat.reduceLT,Nat.reduceAdd,reduceCtorEq,h.cN,h.bI,o1,o2,o3,o4,kn,e0]
  exact rfl
 | true=>
 by_cases h0:x.outs = []
 ·have q0:decide ((x.outs.length:Int) = 0) = true:=decide_eq_true (by rw [h0]; rfl)
  simp only [aA,Tryz.f167,KP,Ax.loadAt,↓reduceIte,Nat.reduceEqDiff,Nat.reduceLT,Nat.reduceAdd,reduceCtorEq,h.cN,h.aV,h.bI,o1,o2,o3,o4,kn,e0,lb,q0]
  rw [h0]
  exact rfl
 have q0:decide ((x.outs.length:Int) = 0) = false:=decide_eq_false (by have:=List.length_pos_iff.2 h0; omega)
 rw [show decide (x.outs ≠ []) = true from decide_eq_true h0]
 have hf:Ax.fill (fun j=>some (j * 1,1)) (gK 3 [V.aC]) [(0,a),(1,b),(2,c)] = some [a,b,c]:=by
  rcases ia with ⟨rfl,-⟩ | ⟨_,_,_,rfl,-⟩ <;> rcases ib with ⟨rfl,-⟩ | ⟨_,_,_,rfl,-⟩ <;> rcases ic with ⟨rfl,-⟩ | ⟨_,_,_,rfl,-⟩ <;> rfl
 have lz:∀ Z,lenOf E Z 30 (.sl 1 0 3 none) = some 3:=fun Z=>by unfold lenOf; rw [h.L6]
 have i0:indexAddr E 30 (.sl 1 0 3 none) (.int .i64 0) = some (.ref 1 0):=by unfold Ax.indexAddr; simp only [h.L6,h.aV]; rfl
 have i1:indexAddr E 30 (.sl 1 0 3 none) (.int .i64 1) = some (.ref 1 1):=by unfold Ax.indexAddr; simp only [h.L6,h.aV]; rfl
 have i2:indexAddr E 30 (.sl 1 0 3 none) (.int .i64 2) = some (.ref 1 2):=by unfold Ax.indexAddr; simp only [h.L6,h.aV]; rfl
 have d0:decide ((0:Int) < ((3:Nat):Int)) = true:=rfl
 have d1:decide ((1:Int) < ((3:Nat):Int)) = true:=rfl
 have d2:decide ((2:Int) < ((3:Nat):Int)) = true:=rfl
 have d3:decide ((3:Int) < ((3:Nat):Int)) = false:=rfl
 have w1:wr .i64 1 = 1:=rfl
 have w2:wr .i64 2 = 2:=rfl
 have w3:wr .i64 3 = 3:=rfl
 simp only [aA,Tryz.f167,KP,Ax.loadAt,↓reduceIte,Nat.reduceEqDiff,Nat.reduceLT,Nat.reduceLeDiff,Nat.reduceAdd,Nat.reduceMul,reduceCtorEq,h.cN,h.aV,h.L6,h.bI,o1,o2,o3,o4,kn,e0,lb,q0,hf,lz]
 rw [aF]
 cases e1:x.ins.all bG with
 | false=>
  simp only [KP,Ax.loadAt,↓reduceIte,Nat.reduceEqDiff,Nat.reduceLT,h.aV,k1,e1,i0,d0]
  exact rfl
 | true=>
 simp only [KP,Ax.loadAt,↓reduceIte,Nat.reduceEqDiff,Nat.reduceLT,Int.reduceAdd,h.aV,k1,e1,w1,i0,d0]
 rw [aF]
 cases e2:x.outs.all bG with
 | false=>
  simp only [KP,Ax.loadAt,↓reduceIte,Nat.reduceEqDiff,Nat.reduceLT,h.aV,k2,e2,i1,d1]
  exact rfl
 | true=>
 simp only [KP,Ax.loadAt,↓reduceIte,Nat.reduceEqDiff,Nat.reduceLT,Int.reduceAdd,h.aV,k2,e2,w2,i1,d1]
 rw [aF]
 cases e3:x.after.all bG with
 | false=>
  simp only [KP,Ax.loadAt,↓reduceIte,Nat.reduceEqDiff,Nat.reduceLT,h.aV,k3,e3,i2,d2]
  exact rfl
 | true=>
 simp only [KP,Ax.loadAt,↓reduceIte,Nat.reduceEqDiff,Nat.reduceLT,Int.reduceAdd,h.aV,k3,e3,w3,i2,d2]
 rw [aF]
 have e4:x.steps.all Km = !(x.steps.any fun s=>!Km s):=by rw [<- List.not_all_eq_any_not,Bool.not_not]
 rw [e4]
 simp only [KP,Ax.loadAt,↓reduceIte,Nat.reduceEqDiff,Nat.reduceLT,reduceCtorEq,h.fF,h.bI,k4,d3]
 exact rfl
theorem P5 (h:bM E) {v:V} {x:aG} (hv:Hh v x) (hs:Small x):KC E 167 [v] Z (.bool (jY x)) Z:=dO fun _=>QW h hv hs
end
end
section
section
variable {E:Env} {Z:Sg} {K:V -> Sg -> Prop}
theorem Of (h:bM E) {a:V} {l:List aZ} (ha:LS aK 9 Z a l) (hsm:l.length <= 4294967296):aB E 202 [a] Z K = K (.bool (j_ l)) Z:=by
 refine aB.of ?_
 obtain ⟨a',ea,ia⟩:=iP h ha
 rw [aH h.WA h.Ua h.Xs h.VI (args':=[a']) (by simp only [aW,ea]),a_ (by kernel_rfl)]
 have la:=bL h ia
 simp only [aA,Tryz.f202,KP,↓reduceIte,Nat.reduceLT,reduceCtorEq,la]
 refine aR (fun i F Y=>Y = [] /\ F.get 0 = a' /\ F.get 5 = a' /\ F.get 6 = .int .i64 (l.length:Int) /\ F.get 7 = .int .i64 (i:Int) /\ ∀ (j:Nat) (y:aZ),j < i -> l[j]? = some y -> y ∉ l.take j) l.length ?_ ?_ l.length 0 _ _ (by omega) ⟨rfl,(fZ (by simp +decide only [GS,and_self]) (fun j y hj=>by omega))⟩
 ·rintro i F Y hi ⟨rfl,g0,g5,g6,g7,hp⟩ next
  obtain ⟨x,hx⟩:∃ x,l[i]? = some x:=⟨_,List.getElem?_eq_getElem hi⟩
  obtain ⟨g,e1⟩:=fI h ia hx
  obtain ⟨w,hw,iw⟩:=vI h ia (b:=i) (by omega)
  have hlt:=dN hi
  have hadd:=bV i (by omega)
  have kc:=fun (Y:Sg)=>Cb (Z:=Y) h (s:=x) (iw.ls Y 9) (by rw [List.length_take]; omega)
  rw [aF]
  by_cases hm:x ∈ l.take i
  ·have hs:=decide_eq_true hm
   simp only [KP,Ax.loadAt,↓reduceIte,Nat.reduceEqDiff,Nat.reduceLT,reduceCtorEq,h.cN,g0,g5,g6,g7,hlt,e1,hw,kc,hs]
   rw [Bh hx hm]
   exact rfl
  ·have hs:=decide_eq_false hm
   simp only [KP,Ax.loadAt,↓reduceIte,Nat.reduceEqDiff,Nat.reduceLT,reduceCtorEq,h.cN,g0,g5,g6,g7,hlt,e1,hw,kc,hs,hadd]
   refine next _ _ ⟨rfl,(fZ (by simp +decide only [GS,g0,g5,g6,and_self]) (fun j y hj hy=>?_))⟩
   rcases Nat.lt_or_ge j i with g | g
   ·exact hp j y g hy
   ·obtain rfl:j = i:=by omega
    rw [hx] at hy; cases hy; exact hm
 ·rintro F Y ⟨rfl,g0,g5,g6,g7,hp⟩
  have hlt:=dQ (Nat.lt_irrefl l.length)
  rw [aF]
  simp only [KP,↓reduceIte,Nat.reduceLT,g6,g7,hlt]
  rw [yC fun j y hy=>hp j y (List.getElem?_eq_some_iff.1 hy).1 hy]
  exact rfl
theorem Ca (h:bM E) {a:V} {l:List aZ} (ha:LS aK 9 Z a l) (hsm:l.length <= 4294967296):KC E 202 [a] Z (.bool (j_ l)) Z:=dO fun _=>Of h ha hsm
theorem Cv (h:bM E):pR E 28 true .aC .aC = some true:=by unfold pR; rw [h.aV]
theorem Cu (h:bM E) {g:Bool} {rs:List (List V)} {f:Bool}:pR E 28 true (.bQ g rs f) .aC = some false:=by unfold pR; rw [h.aV]
theorem rY (h:bM E) {a:V} {l:List aZ} (ia:IS aK a l) (hl:l.length <= 1000):aB E 97 [a] Z fun v σ'=>bD aK 9 σ' v l /\ Kp Z σ' /\ ∀ b,aT v = some b -> Z.length <= b:=by
 rw [dA h.hs97 h.sp97 h.fn97 h.md97,a_ (by kernel_rfl)]
 rcases ia with ⟨rfl,rfl⟩ | ⟨g,rs,full,rfl,ha⟩
 ·simp only [aA,Tryz.f97,KP,↓reduceIte,Nat.reduceLT,reduceCtorEq,Cv h]
  exact ⟨.inl ⟨rfl,rfl⟩,fun _ _ h=>h,fun b hb=>by cases hb⟩
 ·obtain ⟨rs',e,ha'⟩:=qN (L:=aK) (x:=.bQ g rs full) (l:=l) (.inr ⟨g,rs,full,rfl,ha⟩) (Z ++ [O.cells 9 [] true])
  obtain ⟨w',τ',h1,h2,h3,h4,h5⟩:=jR (ats:=#[28,28]) (Z:=Z ++ [O.cells 9 [] true]) (w:=.sl Z.length 0 0 none) (l:=[]) (L:=aK) h.aV rfl h.cN rfl (by decide) (jE h) rfl (.inr ⟨Z.length,[],true,rfl,aN,.nil⟩) e ha' (eS (b:=1000) (by decide) (by simp only [List.length_nil]; omega))
  rw [List.nil_append] at h2
  simp only [aA,Tryz.f97,KP,↓reduceIte,Nat.reduceEqDiff,Nat.reduceLT,Nat.reduceLeDiff,reduceCtorEq,h.cN,h.aV,Cu h,h1,Ax.fill,gK,Nat.zero_mul]
  refine ⟨h2,fun c o hc=>h3 _ _ (aP hc) fun e=>?_,fun b hb=>?_⟩
  ·cases e
   exact absurd (List.getElem?_eq_some_iff.1 hc).1 (Nat.lt_irrefl _)
  ·rcases h5 b hb with g | g
   ·cases g; exact Nat.le_refl _
   ·simp only [List.length_append,List.length_cons,List.length_nil] at g; omega
theorem FH {Z:Sg} {ty:Nat -> Option Ty} {g:Bool} {b n t m:Nat} {cs:List V} {ex:Bool} {i:Ty} (hb:Z[b]? = some (.cells t cs ex)) (hty:ty t = some i) (hlen:n * i.size <= cs.length)
  (hi:∀ c ∈ cs.take (n * i.size),Ax.bE c = true /\ cP g c = true):∃ full,bR Z ty g (m + 2) (.sl b 0 n none) = some (.bQ g (rows i.size n (cs.take (n * i.size))) full):=by
 have hm:aW (fun v=>match bR Z ty g (m + 1) v with
   | some v=>if cP g v then some v else Ax.no "snap: borrowed"
   | none=>none) ((cs.drop 0).take (n * i.size)) = some (cs.take (n * i.size)):=by
  rw [List.drop_zero]
  refine iS fun x hx=>?_
  rw [jL (hi x hx).1]
  simp only [(hi x hx).2,if_true]
 refine ⟨ex && decide (0 < i.size) && (0 + n * i.size == cs.length),?_⟩
 rw [bR]
 simp only [hb,hty]
 rw [if_pos (by omega)]
 exact congrArg (fun o=>match o with
  | some l=>some (V.bQ g (rows i.size n l) (ex && decide (0 < i.size) && (0 + n * i.size == cs.length)))
  | none=>none) hm
theorem Kq (h:bM E) {Z:Sg} {w:V} {l:List aZ} {m:Nat} (ow:bD aK 9 Z w l):∃ w',bR Z E.ty true (m + 2) w = some w' /\ IS aK w' l:=by
 rcases ow with ⟨rfl,rfl⟩ | ⟨b,rs,ex,rfl,hb,ha⟩
 ·exact ⟨.aC,rfl,.inl ⟨rfl,rfl⟩⟩
 ·have hfl:=Lay.flat ha
  have hfl:rs.flatten.length = l.length * 1:=hfl
  have htk:rs.flatten.take (l.length * 1) = rs.flatten:=List.take_of_length_le (by omega)
  obtain ⟨full,e⟩:=FH (g:=true) (n:=l.length) (m:=m) hb h.cN (show l.length * 1 <= _ by omega) (fun c hcm=>by
   rw [show rs.flatten.take (l.length * 1) = rs.flatten from htk] at hcm
   obtain ⟨r,hr,hcr⟩:=List.mem_flatten.1 hcm
   obtain ⟨x,-,hp⟩:=ha.mem hr
   have:=aK.im r x hp c hcr
   exact ⟨this,b_ this⟩)
  refine ⟨_,e,.inr ⟨true,rs,full,?_,ha⟩⟩
  show V.bQ true (rows 1 l.length (rs.flatten.take (l.length * 1))) full = _
  rw [htk,<- ha.len]
  exact congrArg (fun z=>V.bQ true z full) (lD (sz:=1) rs (Lay.lens ha))
theorem vH {Z:Sg} {f k t:Nat} {cs cs':List V} {ex:Bool} (hb:Z[k]? = some (.cells t cs ex)) (hm:aW (fun v=>match bR Z E.ty true 11 v with
   | some v=>if cP true v then some v else Ax.no "snap: borrowed"
   | none=>none) cs = some cs'):aY Z E.ty true (.fn f [] [.ref k 0]) = some (.fn f [] [.dP true cs']):=by
 have e:bR Z E.ty true 12 (.ref k 0) = some (.dP true cs'):=by
  rw [bR]
  simp only [hb,List.drop_zero]
  exact congrArg (fun o=>match o with
   | some l=>some (V.dP true l)
   | none=>none) hm
 have e1:aY.one Z E.ty true (.ref k 0) = some (.dP true cs'):=by
  unfold aY.one
  rw [show dY = 12 from rfl,e]
  rfl
 simp only [aY,aW,e1]
theorem Bv (h:bM E) {Z:Sg} {w:V} {l:List aZ} {f k t:Nat} {ex:Bool} (hb:Z[k]? = some (.cells t [w] ex)) (ow:bD aK 9 Z w l):∃ w',aY Z E.ty true (.fn f [] [.ref k 0]) = some (.fn f [] [.dP true [w']]) /\ IS aK w' l:=by
 obtain ⟨w',e,iw⟩:=Kq (m:=9) h ow
 refine ⟨w',vH hb ?_,iw⟩
 simp only [aW,e,b_ iw.bE,if_true]
theorem HL {Z:Sg} {f k t:Nat} {cs:List V} {ex:Bool} (hb:Z[k]? = some (.cells t cs ex)) (hc:∀ c ∈ cs,Ax.bE c = true):aY Z E.ty true (.fn f [] [.ref k 0]) = some (.fn f [] [.dP true cs]):=
 vH hb (iS fun x hx=>by rw [show 11 = 10 + 1 from rfl,jL (hc x hx)]; simp only [b_ (hc x hx),if_true])
theorem G3 (h:bM E) {w:V} {l:List aZ} {y:aZ} {g:Bool} (iw:IS aK w l) (hsm:l.length <= 4294967296):aB E 203 [.str y,.dP g [w]] [] K = K (.bool (!decide (y ∈ l))) []:=by
 refine aB.of ?_
 have hi:Ax.bE (.dP g [w]) = true:=rfl
 have ew:=cR (Z:=[]) (ty:=E.ty) hi (b_ hi)
 rw [aH h.Wz h.T_ h.Xr h.VH (args':=[.str y,.dP g [w]]) (by simp only [aW,cV,ew]),a_ (by kernel_rfl)]
 have kc:=fun (Y:Sg)=>Cb (Z:=Y) h (s:=y) (iw.ls Y 9) hsm
 simp only [aA,Tryz.f203,KP,Ax.loadAt,↓reduceIte,Nat.reduceEqDiff,Nat.reduceLT,Nat.reduceAdd,reduceCtorEq,h.aV,kc]
 exact rfl
theorem Ol (h:bM E) {a b c d:V} {l:List aZ} {n y:aZ} {g:Bool} (ia:IS aK a l) (hb:Ax.bE b = true) (hc:Ax.bE c = true) (hd:Ax.bE d = true) (hsm:l.length <= 4294967296):aB E 204 [.str y,.dP g [.str n,a,b,c,d]] [] K = K (.bool (decide (y ∈ l))) []:=by
 refine aB.of ?_
 have hi:Ax.bE (.dP g [.str n,a,b,c,d]) = true:=rfl
 have ew:=cR (Z:=[]) (ty:=E.ty) hi (b_ hi)
 rw [aH h.Wy h.T9 h.Xq h.VG (args':=[.str y,.dP g [.str n,a,b,c,d]]) (by simp only [aW,cV,ew]),a_ (by kernel_rfl)]
 have kc:=fun (Y:Sg)=>Cb (Z:=Y) h (s:=y) (ia.ls Y 9) hsm
 simp only [aA,Tryz.f204,KP,Ax.loadAt,↓reduceIte,Nat.reduceEqDiff,Nat.reduceLT,Nat.reduceAdd,reduceCtorEq,h.aV,h.bI,kc]
 exact rfl
end
end
section
section
variable {E:Env} {Z:Sg} {K:V -> Sg -> Prop}
theorem bD.set {Z:Sg} {w:V} {l:List aZ} {k:Nat} {y:O} (ow:bD aK 9 Z w l) (hk:aT w ≠ some k):bD aK 9 (Z.set k y) w l:=ow.keep fun c o hc ho=>by
 rw [List.getElem?_set_ne (fun e=>hk (by rw [e]; exact hc))]
 exact ho
theorem Nc (h:bM E) {x:aG} {a b c d:V} (ia:IS aK a x.ins) (ib:IS aK b x.outs) (id:IS eW d x.steps) (hs:Small x) {kb:Nat} {Y:Sg} {w:V} (b0:Y[0]? = some (O.cells 37 [.str x.name,a,b,c,d] true)) (k0:Y[kb]? = some (.cells 28 [w] true)) (ow:bD aK 9 Y w x.ins) (F:FT) (g1:F.get 1 = .ref 0 0) (g3:F.get 3 = .ref kb 0) (g4:F.get 4 = .fn 203 [] [.ref kb 0])
  (hk:∀ σ',K (.bool (gT x.ins x.steps && x.outs.all fun o=>decide (o ∈ x.ins ++ x.steps.map Step.out))) σ'):R E (cutAt [1,1,1,1,1] (aA Tryz.f168).code) [] ⟨63,F⟩ Y (mI E (aA Tryz.f168).results K):=by
 have l1:=hs.ins
 have l2:=hs.outs
 have l4:=hs.steps
 have ld:=kW h id
 simp only [aA,Tryz.f168,KP,Ax.loadAt,↓reduceIte,Nat.reduceLT,reduceCtorEq,h.fF,h.bI,cutAt,g1,b0,ld]
 refine aR (fun i F Y=>F.get 1 = .ref 0 0 /\ F.get 3 = .ref kb 0 /\ F.get 4 = .fn 203 [] [.ref kb 0] /\ F.get 36 = d /\ F.get 37 = .int .i64 (x.steps.length:Int) /\ F.get 38 = .int .i64 (i:Int) /\ Y[0]? = some (O.cells 37 [.str x.name,a,b,c,d] true) /\ ∃ w,Y[kb]? = some (.cells 28 [w] true) /\ bD aK 9 Y w (x.ins ++ (x.steps.take i).map Step.out) /\ gT x.ins x.steps = gT (x.ins ++ (x.steps.take i).map Step.out) (x.steps.drop i)) x.steps.length ?_ ?_ x.steps.length 0 _ _ (by omega) (CI (by simp +decide only [GS,g1,g3,g4,and_self]) ⟨b0,w,k0,by simpa using ow,by simp⟩)
 ·rintro i F Y hi ⟨g1,g3,g4,g36,g37,g38,b0,w,k0,ow,hst⟩ next
  obtain ⟨s,hsi⟩:∃ y,x.steps[i]? = some y:=⟨_,List.getElem?_eq_getElem hi⟩
  obtain ⟨g,p1,p2,e1,i1,i2⟩:=uH h id hsi
  have a8:=hs.args s (List.mem_of_getElem? hsi)
  have o1:=aJ i1.bE
  have o2:=aJ i2.bE
  have hlt:=dN hi
  have hadd:=bV i (by omega)
  have hdrop:x.steps.drop i = s :: x.steps.drop (i + 1):=by
   obtain ⟨hj,rfl⟩:=List.getElem?_eq_some_iff.1 hsi
   exact List.drop_eq_getElem_cons hj
  have htake:x.ins ++ (x.steps.take (i + 1)).map Step.out = x.ins ++ (x.steps.take i).map Step.out ++ [s.out]:=by
   rw [List.take_add_one,hsi]; simp
  have hkl:(x.ins ++ (x.steps.take i).map Step.out).length <= 100:=by
   rw [List.length_append,List.length_map,List.length_take]; omega
  rw [hdrop,gT] at hst
  rw [htake] at next
  generalize x.ins ++ (x.steps.take i).map Step.out = kn at *
  rw [hst] at hk
  have b1:=aP (x:=O.cells 75 [.str s.out,.int .i64 s.op,p1,p2,.int .i64 s.n] true) b0
  have k1:=aP (x:=O.cells 75 [.str s.out,.int .i64 s.op,p1,p2,.int .i64 s.n] true) k0
  have s1:(Y ++ [O.cells 75 [.str s.out,.int .i64 s.op,p1,p2,.int .i64 s.n] true])[Y.length]? = some (O.cells 75 [.str s.out,.int .i64 s.op,p1,p2,.int .i64 s.n] true):=aN
  have ow1:=ow.app [O.cells 75 [.str s.out,.int .i64 s.op,p1,p2,.int .i64 s.n] true]
  rw [aF]
  simp only [KP,Ax.loadAt,Ax.storeAt,↓reduceIte,Nat.reduceEqDiff,Nat.reduceLT,Nat.reduceAdd,h.aV,h.cO,g3,g36,g37,g38,hlt,e1,o1,o2,aN,cF]
  generalize Y ++ [O.cells 75 [.str s.out,.int .i64 s.op,p1,p2,.int .i64 s.n] true] = τ1 at *
  generalize Y.length = y at *
  have kc:=Cb (Z:=τ1) h (s:=s.out) ow1.ls (by omega)
  obtain ⟨w',es,iw⟩:=Bv (f:=203) h k1 ow1
  have kf:=dO (fun K=>qQ (Z:=τ1) (K:=K) (k:=203) (caps:=[.dP true [w']]) (P:=fun y=>!decide (y ∈ kn)) h (i1.ls τ1 9) (by omega) (fun c hc=>by cases hc with | head=>rfl | tail _ hc=>cases hc) (fun y v hy hv=>by
   subst hv
   show aB E 203 [.str y,.dP true [w']] [] _
   rw [G3 h iw (by omega)]; exact ⟨rfl,rfl⟩) es)
  by_cases m1:s.out ∈ kn
  ·have q1:=decide_eq_true m1
   rw [q1] at hk
   simp only [KP,Ax.loadAt,↓reduceIte,Nat.reduceEqDiff,Nat.reduceLT,reduceCtorEq,h.cN,h.cO,k1,s1,kc,q1]
   exact hk _
  have q1:=decide_eq_false m1
  cases m2:s.args.any fun y=>!decide (y ∈ kn) with
  | true=>
   rw [show s.args.all (fun a=>decide (a ∈ kn)) = false from by rw [<- Bool.not_eq_true',List.not_all_eq_any_not,m2],Bool.and_false,Bool.false_and,Bool.false_and] at hk
   simp only [KP,Ax.loadAt,↓reduceIte,Nat.reduceEqDiff,Nat.reduceLT,reduceCtorEq,h.cN,h.aV,h.cO,g4,k1,s1,kc,kf,q1,m2]
   exact hk _
  | false=>
  rw [q1,show s.args.all (fun a=>decide (a ∈ kn)) = true from by rw [<- Bool.not_eq_false',List.not_all_eq_any_not,m2],Bool.not_false,Bool.true_and,Bool.true_and] at hst
  have b2:=aP (x:=O.cells 9 [.str s.out] true) b1
  have k2:=aP (x:=O.cells 9 [.str s.out] true) k1
  obtain ⟨w2,τ2,ha2,ow2,Rn,-,fr2⟩:=jR (ats:=#[28,28]) (m:=[s.out]) (new:=[[.str s.out]]) h.aV rfl h.cN rfl (by decide) (jE h) rfl (ow1.app [.cells 9 [.str s.out] true]) (mE rfl) (.one rfl) (eS (b:=1000) (by decide) (by simp only [List.length_cons,List.length_nil]; omega))
  have nk:=kM (w:=w) k2 (by decide) (ow1.app [.cells 9 [.str s.out] true])
  have n0:=kM (w:=w) b2 (by decide) (ow1.app [.cells 9 [.str s.out] true])
  have k3:=Rn _ _ k2 nk
  have b3:=Rn _ _ b2 n0
  have nk2:aT w2 ≠ some kb:=kM k3 (by decide) ow2
  obtain ⟨c1,c2⟩:=p_ ow2
  have hkb:kb ≠ 0:=fun e=>by
   rw [e,b0] at k0
   cases k0
  have hlen:=(List.getElem?_eq_some_iff.1 k3).1
  simp only [KP,Ax.loadAt,Ax.storeAt,↓reduceIte,Nat.reduceEqDiff,Nat.reduceLT,Nat.reduceLeDiff,Nat.reduceMul,reduceCtorEq,h.cN,h.aV,h.cO,g3,g4,g38,k1,s1,kc,kf,q1,m2,iN,ha2,k3,c1,c2,hadd]
  refine next _ _ ⟨?_,?_,?_,?_,?_,?_,?_,w2,?_,?_,?_⟩
  ·exact (by simp +decide only [GS,g1])
  ·exact (by simp +decide only [GS,g3])
  ·exact (by simp +decide only [GS,g4])
  ·exact (by simp +decide only [GS,g36])
  ·exact (by simp +decide only [GS,g37])
  ·exact (by simp +decide only [GS])
  ·rw [List.getElem?_set_ne hkb]; exact b3
  ·rw [List.getElem?_set_self hlen]
  ·exact bD.set ow2 nk2
  ·exact hst
 ·rintro F Y ⟨g1,g3,g4,g36,g37,g38,b0,w,k0,ow,hst⟩
  rw [List.take_of_length_le (Nat.le_refl _)] at ow hst
  rw [show x.steps.drop x.steps.length = [] from List.drop_length,gT] at hst
  have hkl:(x.ins ++ x.steps.map Step.out).length <= 100:=by
   rw [List.length_append,List.length_map]; omega
  generalize x.ins ++ x.steps.map Step.out = kn at *
  obtain ⟨w',es,iw⟩:=Bv (f:=203) h k0 ow
  have kf:=dO (fun K=>qQ (Z:=Y) (K:=K) (k:=203) (caps:=[.dP true [w']]) (P:=fun y=>!decide (y ∈ kn)) h (ib.ls Y 9) (by omega) (fun c hc=>by cases hc with | head=>rfl | tail _ hc=>cases hc) (fun y v hy hv=>by
   subst hv
   show aB E 203 [.str y,.dP true [w']] [] _
   rw [G3 h iw (by omega)]; exact ⟨rfl,rfl⟩) es)
  have hlt:=dQ (Nat.lt_irrefl x.steps.length)
  rw [hst,Bool.true_and] at hk
  have e:(x.outs.all fun o=>decide (o ∈ kn)) = !(x.outs.any fun y=>!decide (y ∈ kn)):=by rw [<- List.not_all_eq_any_not,Bool.not_not]
  rw [e] at hk
  rw [aF]
  simp only [KP,Ax.loadAt,↓reduceIte,Nat.reduceEqDiff,Nat.reduceLT,reduceCtorEq,h.aV,h.bI,g1,g4,g37,g38,hlt,b0,kf]
  exact hk _
theorem QT (h:bM E) {v:V} {x:aG} (hv:Hh v x) (hs:Small x):aB E 168 [v] Z K = K (.bool (fB x)) Z:=by
 refine aB.of ?_
 have ev:=hv.snap (E:=E) Z
 obtain ⟨a,b,c,d,rfl,ia,ib,ic,id⟩:=hv
 have o1:=aJ ia.bE
 have o2:=aJ ib.bE
 have o3:=aJ ic.bE
 have o4:=aJ id.bE
 have l1:=hs.ins
 have l2:=hs.outs
 have l3:=hs.after
 rw [aH h.WL h.Uk h.XB h.VS (args':=[.agg [.str x.name,a,b,c,d]]) (by simp only [aW,ev]),a_ (by kernel_rfl)]
 have k1:=fun (Y:Sg)=>Ca (Z:=Y) h (ia.ls Y 9) (by omega)
 have k2:=fun (Y:Sg)=>Ca (Z:=Y) h (ib.ls Y 9) (by omega)
 have k3:=fun (Y:Sg)=>Ca (Z:=Y) h (ic.ls Y 9) (by omega)
 have kc:=fun (Y:Sg)=>Cb (Z:=Y) h (s:=x.name) (ic.ls Y 9) (by omega)
 have rest:=fun (hn:(gT x.ins x.steps && x.outs.all fun o=>decide (o ∈ x.ins ++ x.steps.map Step.out)) = fB x) kb Y w F b0 k0 ow g1 g3 g4=>Nc (K:=fun v σ1=>match cW σ1 E.ty false v with
   | some v=>v = .bool (fB x)
   | none=>False) (c:=c) h ia ib id hs (kb:=kb) (Y:=Y) (w:=w) b0 k0 ow F g1 g3 g4 fun _=>by rw [hn]; exact rfl
 generalize hC:cutAt [1,1,1,1,1] (aA Tryz.f168).code = C at rest
 cases e0:j_ x.ins with
 | true=>
  simp only [aA,Tryz.f168,KP,Ax.loadAt,↓reduceIte,Nat.reduceEqDiff,Nat.reduceLT,Nat.reduceAdd,reduceCtorEq,h.aV,h.bI,o1,o2,o3,o4,k1,e0]
  show V.bool false = V.bool (fB x)
  unfold fB
  simp [e0]
 | false=>
 cases e1:j_ x.outs with
 | true=>
  simp only [aA,Tryz.f168,KP,Ax.loadAt,↓reduceIte,Nat.reduceEqDiff,Nat.reduceLT,Nat.reduceAdd,reduceCtorEq,h.aV,h.bI,o1,o2,o3,o4,k1,k2,e0,e1]
  show V.bool false = V.bool (fB x)
  unfold fB
  simp [e0,e1]
 | false=>
 cases e2:j_ x.after with
 | true=>
  simp only [aA,Tryz.f168,KP,Ax.loadAt,↓reduceIte,Nat.reduceEqDiff,Nat.reduceLT,Nat.reduceAdd,reduceCtorEq,h.aV,h.bI,o1,o2,o3,o4,k1,k2,k3,e0,e1,e2]
  show V.bool false = V.bool (fB x)
  unfold fB
  simp [e0,e1,e2]
 | false=>
 cases e3:decide (x.name ∈ x.after) with
 | true=>
  simp only [aA,Tryz.f168,KP,Ax.loadAt,↓reduceIte,Nat.reduceEqDiff,Nat.reduceLT,Nat.reduceAdd,reduceCtorEq,h.cN,h.aV,h.bI,o1,o2,o3,o4,k1,k2,k3,kc,e0,e1,e2,e3]
  show V.bool false = V.bool (fB x)
  unfold fB
  rw [e0,e1,e2,e3]
  rfl
 | false=>
 rw [show (aA Tryz.f168).code = .seq (cutAt [0] (aA Tryz.f168).code) (.seq (cutAt [1,0] (aA Tryz.f168).code) (.seq (cutAt [1,1,0] (aA Tryz.f168).code) (.seq (cutAt [1,1,1,0] (aA Tryz.f168).code) (.seq (cutAt [1,1,1,1,0] (aA Tryz.f168).code) C)))) from by rw [<- hC]; rfl]
 simp only [aA,Tryz.f168,KP,Ax.loadAt,↓reduceIte,Nat.reduceEqDiff,Nat.reduceLT,Nat.reduceAdd,reduceCtorEq,h.cN,h.aV,h.bI,cutAt,o1,o2,o3,o4,k1,k2,k3,kc,e0,e1,e2,e3]
 refine aL (rY h ia (by omega)) ?_
 rintro w Y ⟨ow,kp,-⟩
 have b0:Y[0]? = some (O.cells 37 [.str x.name,a,b,c,d] true):=kp 0 _ rfl
 obtain ⟨c1,c2⟩:=p_ ow
 have b1:=aP (x:=O.cells 28 [w] true) b0
 have kk:(Y ++ [O.cells 28 [w] true])[Y.length]? = some (O.cells 28 [w] true):=aN
 have es:=HL (E:=E) (f:=204) b1 (fun y hy=>by
  simp only [List.mem_cons,List.not_mem_nil,or_false] at hy
  rcases hy with rfl | rfl | rfl | rfl | rfl
  ·rfl
  ·exact ia.bE
  ·exact ib.bE
  ·exact ic.bE
  ·exact id.bE)
 have kf:=dO (fun K=>qQ (Z:=Y ++ [O.cells 28 [w] true]) (K:=K) (k:=204) (caps:=[.dP true [.str x.name,a,b,c,d]]) (P:=fun y=>decide (y ∈ x.ins)) h (ib.ls _ 9) (by omega) (fun c hc=>by cases hc with | head=>rfl | tail _ hc=>cases hc) (fun y v hy hv=>by
  subst hv
  show aB E 204 [.str y,.dP true [.str x.name,a,b,c,d]] [] _
  rw [Ol h ia ib.bE ic.bE id.bE (by omega)]; exact ⟨rfl,rfl⟩) es)
 have eo:(x.outs.all fun o=>!decide (o ∈ x.ins)) = !(x.outs.any fun y=>decide (y ∈ x.ins)):=by rw [List.not_any_eq_all_not]
 cases e4:x.outs.any fun y=>decide (y ∈ x.ins) with
 | true=>
  simp only [KP,Ax.loadAt,Ax.storeAt,↓reduceIte,Nat.reduceEqDiff,Nat.reduceLT,reduceCtorEq,h.aV,h.bI,b1,kf,e4,c1,c2,aN,cF]
  show V.bool false = V.bool (fB x)
  unfold fB
  rw [eo,e0,e1,e2,e3,e4]
  rfl
 | false=>
 simp only [KP,Ax.loadAt,Ax.storeAt,↓reduceIte,Nat.reduceEqDiff,Nat.reduceLT,reduceCtorEq,h.aV,h.bI,b1,kf,e4,c1,c2,aN,cF]
 refine rest ?_ Y.length _ w _ b1 kk (ow.app _) ?_ ?_ ?_
 ·unfold fB
  rw [eo,e0,e1,e2,e3,e4]
  simp
 ·exact (by simp +decide only [GS])
 ·exact (by simp +decide only [GS])
 ·exact (by simp +decide only [GS])
theorem PZ (h:bM E) {v:V} {x:aG} (hv:Hh v x) (hs:Small x):KC E 168 [v] Z (.bool (fB x)) Z:=dO fun _=>QT h hv hs
end
end
section
section
variable {E:Env} {Z:Sg} {K:V -> Sg -> Prop}
theorem QY (h:bM E) {v:V} {x:aG} (hv:Hh v x) (hs:Small x):aB E 124 [v] Z K = K (.int .i64 (bB x)) Z:=by
 refine aB.of ?_
 have ev:=hv.snap (E:=E) Z
 obtain ⟨a,b,c,d,rfl,ia,ib,ic,id⟩:=hv
 have o1:=aJ ia.bE
 have o2:=aJ ib.bE
 have o3:=aJ ic.bE
 have o4:=aJ id.bE
 have la:=bL h ia
 have lb:=bL h ib
 have lc:=bL h ic
 have ld:=kW h id
 rw [aH h.WW h.Uv h.XK h.V1 (args':=[.agg [.str x.name,a,b,c,d]]) (by simp only [aW,ev]),a_ (by kernel_rfl)]
 have k1:=fun (Y:Sg)=>P5 (Z:=Y) h (v:=.agg [.str x.name,a,b,c,d]) ⟨a,b,c,d,rfl,ia,ib,ic,id⟩ hs
 have k2:=fun (Y:Sg)=>PZ (Z:=Y) h (v:=.agg [.str x.name,a,b,c,d]) ⟨a,b,c,d,rfl,ia,ib,ic,id⟩ hs
 cases e1:jY x with
 | false=>
  simp only [aA,Tryz.f124,KP,Ax.loadAt,↓reduceIte,Nat.reduceEqDiff,Nat.reduceLT,Nat.reduceAdd,h.bI,o1,o2,o3,o4,k1,e1]
  show V.int .i64 1 = V.int .i64 (bB x)
  rw [show bB x = 1 from by unfold bB; rw [if_pos e1]]
 | true=>
 by_cases p0:8 < x.ins.length
 ·have q0:decide ((8:Int) < (x.ins.length:Int)) = true:=decide_eq_true (by omega)
  simp only [aA,Tryz.f124,KP,Ax.loadAt,↓reduceIte,Nat.reduceEqDiff,Nat.reduceLT,Nat.reduceAdd,reduceCtorEq,h.aV,h.bI,o1,o2,o3,o4,la,k1,e1,q0]
  show V.int .i64 4 = V.int .i64 (bB x)
  rw [show bB x = 4 from by unfold bB; rw [if_neg (by rw [e1]; simp)]; rw [if_pos (by unfold long; rw [decide_eq_true p0]; simp)]]
 have q0:decide ((8:Int) < (x.ins.length:Int)) = false:=decide_eq_false (by omega)
 by_cases p1:4 < x.outs.length
 ·have q1:decide ((4:Int) < (x.outs.length:Int)) = true:=decide_eq_true (by omega)
  simp only [aA,Tryz.f124,KP,Ax.loadAt,↓reduceIte,Nat.reduceEqDiff,Nat.reduceLT,Nat.reduceAdd,reduceCtorEq,h.aV,h.bI,o1,o2,o3,o4,la,lb,k1,e1,q0,q1]
  show V.int .i64 4 = V.int .i64 (bB x)
  rw [show bB x = 4 from by unfold bB; rw [if_neg (by rw [e1]; simp)]; rw [if_pos (by unfold long; rw [decide_eq_true p1]; simp)]]
 have q1:decide ((4:Int) < (x.outs.length:Int)) = false:=decide_eq_false (by omega)
 by_cases p2:8 < x.after.length
 ·have q2:decide ((8:Int) < (x.after.length:Int)) = true:=decide_eq_true (by omega)
  simp only [aA,Tryz.f124,KP,Ax.loadAt,↓reduceIte,Nat.reduceEqDiff,Nat.reduceLT,Nat.reduceAdd,reduceCtorEq,h.aV,h.bI,o1,o2,o3,o4,la,lb,lc,k1,e1,q0,q1,q2]
  show V.int .i64 4 = V.int .i64 (bB x)
  rw [show bB x = 4 from by unfold bB; rw [if_neg (by rw [e1]; simp)]; rw [if_pos (by unfold long; rw [decide_eq_true p2]; simp)]]
 have q2:decide ((8:Int) < (x.after.length:Int)) = false:=decide_eq_false (by omega)
 by_cases p3:12 < x.steps.length
 ·have q3:decide ((12:Int) < (x.steps.length:Int)) = true:=decide_eq_true (by omega)
  simp only [aA,Tryz.f124,KP,Ax.loadAt,↓reduceIte,Nat.reduceEqDiff,Nat.reduceLT,Nat.reduceAdd,reduceCtorEq,h.aV,h.fF,h.bI,o1,o2,o3,o4,la,lb,lc,ld,k1,e1,q0,q1,q2,q3]
  show V.int .i64 4 = V.int .i64 (bB x)
  rw [show bB x = 4 from by unfold bB; rw [if_neg (by rw [e1]; simp)]; rw [if_pos (by unfold long; rw [decide_eq_true p3]; simp)]]
 have q3:decide ((12:Int) < (x.steps.length:Int)) = false:=decide_eq_false (by omega)
 cases e2:fB x with
 | false=>
  simp only [aA,Tryz.f124,KP,Ax.loadAt,↓reduceIte,Nat.reduceEqDiff,Nat.reduceLT,Nat.reduceAdd,reduceCtorEq,h.aV,h.fF,h.bI,o1,o2,o3,o4,la,lb,lc,ld,k1,k2,e1,q0,q1,q2,q3,e2]
  show V.int .i64 2 = V.int .i64 (bB x)
  rw [show bB x = 2 from by unfold bB; rw [if_neg (by rw [e1]; simp)]; rw [if_neg (by unfold long; rw [decide_eq_false p0,decide_eq_false p1,decide_eq_false p2,decide_eq_false p3]; simp)]; rw [if_pos e2]]
 | true=>
 simp only [aA,Tryz.f124,KP,Ax.loadAt,↓reduceIte,Nat.reduceEqDiff,Nat.reduceLT,Nat.reduceAdd,reduceCtorEq,h.aV,h.fF,h.bI,o1,o2,o3,o4,la,lb,lc,ld,k1,k2,e1,q0,q1,q2,q3,e2]
 show V.int .i64 0 = V.int .i64 (bB x)
 rw [show bB x = 0 from by unfold bB; rw [if_neg (by rw [e1]; simp)]; rw [if_neg (by unfold long; rw [decide_eq_false p0,decide_eq_false p1,decide_eq_false p2,decide_eq_false p3]; simp)]; rw [if_neg (by rw [e2]; simp)]]
theorem P_ (h:bM E) {v:V} {x:aG} (hv:Hh v x) (hs:Small x):KC E 124 [v] Z (.int .i64 (bB x)) Z:=dO fun _=>QY h hv hs
end
end
section
section
variable {E:Env} {Z:Sg} {K:V -> Sg -> Prop}
def SM (E:Env) (es:List (V × V)) (get:aZ -> Option V):Prop:=(∀ e ∈ es,(∃ k,e.1 = .str k) /\ Ax.bE e.2 = true) /\ ∀ k,iM (eN E 9) (.str k) es = some (get k)
theorem bW (h:bM E) (a b:aZ):eN E 9 (.str a) (.str b) = some (Ax.seq a b):=by unfold eN; rw [h.cN]
theorem HO:SM E [] fun _=>none:=⟨fun _ h=>(by cases h),fun _=>rfl⟩
theorem Ex (h:bM E) {v:V} (k:aZ) (hv:Ax.bE v = true):∀ {es:List (V × V)} {get:aZ -> Option V},SM E es get -> ∃ es',kF (eN E 9) (.str k) v es = some es' /\ SM E es' fun q=>if q = k then some v else get q
 | [],get,hs=>by
  refine ⟨[(.str k,v)],rfl,fun e he=>?_,fun q=>?_⟩
  ·rw [List.mem_singleton.1 he]
   exact ⟨⟨k,rfl⟩,hv⟩
  ·show _ = some (if q = k then some v else get q)
   have e0:none = get q:=Option.some.inj (hs.2 q)
   rw [iM,bW h]
   by_cases hq:q = k
   ·rw [gW hq,if_pos hq]
   ·rw [fT hq,if_neg hq,<- e0]; rfl
 | (k0,v0) :: r,get,hs=>by
  obtain ⟨⟨s0,e0⟩,i0⟩:=hs.1 _ (List.mem_cons_self ..)
  dsimp only at e0 i0
  subst e0
  by_cases hk:k = s0
  ·refine ⟨(.str k,v) :: r,by rw [kF,bW h,gW hk],fun e he=>?_,fun q=>?_⟩
   ·rcases List.mem_cons.1 he with rfl | he
    ·exact ⟨⟨k,rfl⟩,hv⟩
    ·exact hs.1 e (List.mem_cons_of_mem _ he)
   ·have:=hs.2 q
    show _ = some (if q = k then some v else get q)
    rw [iM,bW h] at this ⊢
    by_cases hq:q = k
    ·rw [gW hq,if_pos hq]
    ·rw [fT (show q ≠ s0 by rw [<- hk]; exact hq)] at this
     rw [fT hq,if_neg hq]
     exact this
  ·have hs':SM E r fun q=>if q = s0 then (match iM (eN E 9) (.str q) r with | some y=>y | none=>none) else get q:=by
    refine ⟨fun e he=>hs.1 e (List.mem_cons_of_mem _ he),fun q=>?_⟩
    have:=hs.2 q
    rw [iM,bW h] at this
    show _ = some (if q = s0 then (match iM (eN E 9) (.str q) r with | some y=>y | none=>none) else get q)
    by_cases hq:q = s0
    ·rw [if_pos hq]
     have tot:∀ (l:List (V × V)),(∀ e ∈ l,∃ k,e.1 = V.str k) -> ∃ y,iM (eN E 9) (.str q) l = some y:=by
      intro l
      induction l with
      | nil=>intro _; exact ⟨none,rfl⟩
      | cons e l ih=>
       intro hl
       obtain ⟨k1,e1⟩:=hl _ (List.mem_cons_self ..)
       obtain ⟨a,b⟩:=e
       dsimp only at e1
       subst e1
       rw [iM,bW h]
       by_cases h1:q = k1
       ·rw [gW h1]; exact ⟨_,rfl⟩
       ·rw [fT h1]; exact ih fun e he=>hl e (List.mem_cons_of_mem _ he)
     obtain ⟨y,hy⟩:=tot r fun e he=>(hs.1 e (List.mem_cons_of_mem _ he)).1
     rw [hy]
    ·rw [if_neg hq]
     rw [fT hq] at this
     exact this
   obtain ⟨r',e1,s1⟩:=Ex h k hv hs'
   refine ⟨(.str s0,v0) :: r',by rw [kF,bW h,fT hk]; simp only [e1],fun e he=>?_,fun q=>?_⟩
   ·rcases List.mem_cons.1 he with rfl | he
    ·exact ⟨⟨s0,rfl⟩,i0⟩
    ·exact s1.1 e he
   ·have:=hs.2 q
    show _ = some (if q = k then some v else get q)
    rw [iM,bW h] at this ⊢
    by_cases hq:q = s0
    ·rw [gW hq] at this ⊢
     rw [if_neg (show q ≠ k by rw [hq]; exact Ne.symm hk)]
     exact this
    ·rw [fT hq]
     have h2:=s1.2 q
     dsimp only at h2
     rw [if_neg hq] at h2
     exact h2
def SB (E:Env) (es:List (V × V)) (p:aZ -> Bool):Prop:=SM E es fun k=>if p k = true then some (.bool true) else none
theorem ML:SB E [] fun _=>false:=HO
theorem R_ (h:bM E) {es:List (V × V)} {p:aZ -> Bool} (hs:SB E es p) (k:aZ):∃ es',kF (eN E 9) (.str k) (.bool true) es = some es' /\ SB E es' fun q=>p q || decide (q = k):=by
 obtain ⟨es',h1,h2⟩:=Ex h (v:=.bool true) k rfl hs
 refine ⟨es',h1,h2.1,fun q=>(h2.2 q).trans ?_⟩
 show some (if q = k then some (V.bool true) else if p q = true then some (V.bool true) else none) = some (if (p q || decide (q = k)) = true then some (V.bool true) else none)
 by_cases hq:q = k
 ·rw [if_pos hq,decide_eq_true hq,Bool.or_true,if_pos rfl]
 ·rw [if_neg hq,decide_eq_false hq,Bool.or_false]
theorem SB.congr {es:List (V × V)} {p q:aZ -> Bool} (hs:SB E es p) (e:∀ k,p k = q k):SB E es q:=by
 rwa [show p = q from funext e] at hs
theorem EP (h:bM E) {Z:Sg} {x:V} {es:List (V × V)} {p:aZ -> Bool} (hx:entriesOf Z x = some es) (hs:SB E es p) (k:aZ):lookup E Z 98 x (.str k) false = some (.bool (p k)):=by
 have hk:dU E 9 (.str k) = true:=by unfold dU; rw [h.cN]
 unfold Ax.lookup
 simp only [h.AB,h.AU,hk,hx,hs.2 k,Bool.not_true,Bool.false_eq_true,if_false]
 cases p k <;> rfl
theorem L0 (h:bM E) {Z:Sg} {b:Nat} {es:List (V × V)} {p:aZ -> Bool} (hb:Z[b]? = some (.map es)) (hs:SB E es p) (k:aZ):∃ es',mapUpdate E Z 98 (.mp b) (.str k) (.bool true) = some (Z.set b (.map es')) /\ SB E es' fun q=>p q || decide (q = k):=by
 obtain ⟨es',h1,h2⟩:=R_ h hs k
 have hk:dU E 9 (.str k) = true:=by unfold dU; rw [h.cN]
 refine ⟨es',?_,h2⟩
 unfold Ax.mapUpdate
 simp only [h.AB,hk,hb,h1,eX,V.aX,Bool.not_true,Bool.or_self,Bool.false_eq_true,if_false,Option.map_some]
theorem Kr (h:bM E) {Z:Sg} {b m:Nat} {es:List (V × V)} {get:aZ -> Option V} (hb:Z[b]? = some (.map es)) (hs:SM E es get):bR Z E.ty true (m + 2) (.mp b) = some (.imp true es):=by
 rw [bR]
 simp only [hb]
 rw [iS fun e he=>?_]
 obtain ⟨⟨k,e1⟩,e2⟩:=hs.1 e he
 obtain ⟨a,v⟩:=e
 dsimp only at e1 e2
 subst e1
 have e3:bR Z E.ty true (m + 1) v = some v:=jL e2
 have e4:=b_ e2
 have hpc:(V.str k).cells.all Ax.plainCell = true:=rfl
 cases v <;> first
  | (simp only [hpc,e3,e4,if_true]; done)
  | cases e2
theorem Dp (h:bM E) {Z:Sg} {f k b t:Nat} {ex:Bool} {es:List (V × V)} {get:aZ -> Option V} (hk:Z[k]? = some (.cells t [.mp b] ex)) (hb:Z[b]? = some (.map es)) (hs:SM E es get):aY Z E.ty true (.fn f [] [.ref k 0]) = some (.fn f [] [.dP true [.imp true es]]):=by
 refine vH hk ?_
 simp only [aW,Kr (m:=9) h hb hs,show cP true (V.imp true es) = true from rfl,if_true]
theorem Oj (h:bM E) {es:List (V × V)} {p:aZ -> Bool} {y:aZ} {g g2:Bool} (hs:SB E es p):aB E 145 [.str y,.dP g [.imp g2 es]] [] K = K (.bool (p y)) []:=by
 refine aB.of ?_
 have hi:Ax.bE (.dP g [.imp g2 es]) = true:=rfl
 have ew:=cR (Z:=[]) (ty:=E.ty) hi (b_ hi)
 rw [aH h.WR h.Uq h.XF h.VW (args':=[.str y,.dP g [.imp g2 es]]) (by simp only [aW,cV,ew]),a_ (by kernel_rfl)]
 have hl:=fun Z=>EP (Z:=Z) (x:=.imp g2 es) h rfl hs y
 simp only [aA,Tryz.f145,KP,Ax.loadAt,↓reduceIte,Nat.reduceEqDiff,Nat.reduceLT,Nat.reduceAdd,reduceCtorEq,h.AB,hl]
 exact rfl
theorem Oi (h:bM E) {es:List (V × V)} {p:aZ -> Bool} {y:aZ} {g g2:Bool} (hs:SB E es p):aB E 146 [.str y,.dP g [.imp g2 es]] [] K = K (.bool (!p y)) []:=by
 refine aB.of ?_
 have hi:Ax.bE (.dP g [.imp g2 es]) = true:=rfl
 have ew:=cR (Z:=[]) (ty:=E.ty) hi (b_ hi)
 rw [aH h.WQ h.Uo h.XE h.VV (args':=[.str y,.dP g [.imp g2 es]]) (by simp only [aW,cV,ew]),a_ (by kernel_rfl)]
 have hl:=fun Z=>EP (Z:=Z) (x:=.imp g2 es) h rfl hs y
 simp only [aA,Tryz.f146,KP,Ax.loadAt,↓reduceIte,Nat.reduceEqDiff,Nat.reduceLT,Nat.reduceAdd,reduceCtorEq,h.AB,hl]
 exact rfl
end
end
section
section
variable {E:Env} {Z:Sg} {K:V -> Sg -> Prop}
structure nB (E:Env) (Y:Sg) (kr ko mr mo:Nat) (p1 p2:aZ -> Bool):Prop where
 b1:Y[kr]? = some (.cells 98 [.mp mr] true)
 b2:Y[ko]? = some (.cells 98 [.mp mo] true)
 m1:∃ es,Y[mr]? = some (.map es) /\ SB E es p1
 m2:∃ es,Y[mo]? = some (.map es) /\ SB E es p2
 ne:mr ≠ mo
theorem nB.app {Y:Sg} {kr ko mr mo:Nat} {p1 p2:aZ -> Bool} (h:nB E Y kr ko mr mo p1 p2) (y:O):nB E (Y ++ [y]) kr ko mr mo p1 p2:=by
 obtain ⟨e1,h1,s1⟩:=h.m1
 obtain ⟨e2,h2,s2⟩:=h.m2
 exact ⟨aP h.b1,aP h.b2,⟨e1,aP h1,s1⟩,⟨e2,aP h2,s2⟩,h.ne⟩
theorem pA {Y:Sg} {i j:Nat} {x y:O} (h1:Y[i]? = some x) (h2:Y[j]? = some y) (h:x ≠ y):i ≠ j:=fun e=>h (by rw [e,h2] at h1; exact (Option.some.inj h1).symm)
theorem nB.Si {Y:Sg} {kr ko mr mo:Nat} {p1 p2 q1:aZ -> Bool} {es:List (V × V)} (h:nB E Y kr ko mr mo p1 p2) (hs:SB E es q1):nB E (Y.set mr (.map es)) kr ko mr mo q1 p2:=by
 obtain ⟨e1,h1,s1⟩:=h.m1
 obtain ⟨e2,h2,s2⟩:=h.m2
 have n1:=pA h1 h.b1 (by intro e; cases e)
 have n2:=pA h1 h.b2 (by intro e; cases e)
 exact ⟨by rw [List.getElem?_set_ne n1]; exact h.b1,by rw [List.getElem?_set_ne n2]; exact h.b2,⟨es,by rw [List.getElem?_set_self (List.getElem?_eq_some_iff.1 h1).1],hs⟩,⟨e2,by rw [List.getElem?_set_ne h.ne]; exact h2,s2⟩,h.ne⟩
theorem nB.put2 {Y:Sg} {kr ko mr mo:Nat} {p1 p2 q2:aZ -> Bool} {es:List (V × V)} (h:nB E Y kr ko mr mo p1 p2) (hs:SB E es q2):nB E (Y.set mo (.map es)) kr ko mr mo p1 q2:=by
 obtain ⟨e1,h1,s1⟩:=h.m1
 obtain ⟨e2,h2,s2⟩:=h.m2
 have n1:=pA h2 h.b1 (by intro e; cases e)
 have n2:=pA h2 h.b2 (by intro e; cases e)
 exact ⟨by rw [List.getElem?_set_ne n1]; exact h.b1,by rw [List.getElem?_set_ne n2]; exact h.b2,⟨e1,by rw [List.getElem?_set_ne (Ne.symm h.ne)]; exact h1,s1⟩,⟨es,by rw [List.getElem?_set_self (List.getElem?_eq_some_iff.1 h2).1],hs⟩,h.ne⟩
def gX (rs:List aG) (k:aZ):Bool:=rs.any fun q=>decide (q.name = k)
def uW (rs:List aG) (k:aZ):Bool:=rs.any fun q=>decide (k ∈ q.outs)
theorem sV {rs:List aG} {n:aZ}:decide (fN rs n = none) = !gX rs n:=by
 unfold fN gX
 rw [<- cC]
 cases bJ (fun r=>decide (r.name = n)) rs <;> rfl
theorem CG {rs:List aG} {i:Nat} {r:aG} (hr:rs[i]? = some r):nQ rs i = (gX (rs.take i) r.name || r.outs.any (uW (rs.take i))):=by
 unfold nQ gX uW
 rw [hr,Bool.eq_iff_iff]
 simp only [List.any_eq_true,Bool.or_eq_true,decide_eq_true_eq]
 constructor
 ·rintro ⟨q,hq,e | ⟨x,hx,e⟩⟩
  ·exact .inl ⟨q,hq,e⟩
  ·exact .inr ⟨x,hx,q,hq,e⟩
 ·rintro (⟨q,hq,e⟩ | ⟨x,hx,q,hq,e⟩)
  ·exact ⟨q,hq,.inl e⟩
  ·exact ⟨q,hq,.inr ⟨x,hx,e⟩⟩
theorem Gc {rs:List aG} {i:Nat} {r:aG} (hr:rs[i]? = some r) (k:aZ):gX (rs.take (i + 1)) k = (gX (rs.take i) k || decide (k = r.name)):=by
 unfold gX
 rw [oS hr,decide_eq_decide.2 ⟨Eq.symm,Eq.symm⟩]
theorem H6 {rs:List aG} {i:Nat} {r:aG} (hr:rs[i]? = some r) (k:aZ):uW (rs.take (i + 1)) k = (uW (rs.take i) k || decide (k ∈ r.outs)):=oS hr
theorem Vc (h:bM E) {a:V} {rs:List aG} (ia:IS dS a rs) (hs:∀ x ∈ rs,Small x) (hE:gA rs = if gC rs = true then 2 else 0) (hl:rs.length <= 4294967296) {Y:Sg} {kr ko mr mo:Nat} {p2:aZ -> Bool} (bx:nB E Y kr ko mr mo (gX rs) p2) (F:FT) (g0:F.get 0 = a) (g7:F.get 7 = .ref kr 0) (hk:∀ nm σ',K (.fS [.int .i64 (gA rs),.str nm]) σ') :
  R E (cutAt [1,1,1,1,1] (aA Tryz.f108).code) [] ⟨81,F⟩ Y (mI E (aA Tryz.f108).results K):=by
 have la:=cK h ia
 have d28:=h.QB
 simp only [aA,Tryz.f108,cutAt,Option.getD_some] at d28
 simp only [aA,Tryz.f108,KP,↓reduceIte,Nat.reduceLT,cutAt,g0,la]
 refine aR (fun i F Y=>F.get 7 = .ref kr 0 /\ F.get 68 = a /\ F.get 69 = .int .i64 (rs.length:Int) /\ F.get 70 = .int .i64 (i:Int) /\ nB E Y kr ko mr mo (gX rs) p2 /\ ∀ (j:Nat) (r:aG),j < i -> rs[j]? = some r -> r.after.any (fun n=>!gX rs n) = false) rs.length ?_ ?_ rs.length 0 _ _ (by omega) (fZ (by simp +decide only [GS,g7,and_self]) ⟨bx,fun j r hj=>by omega⟩)
 ·rintro i F Y hi ⟨g7,g68,g69,g70,bx,hp⟩ next
  obtain ⟨r,hr⟩:∃ y,rs[i]? = some y:=⟨_,List.getElem?_eq_getElem hi⟩
  obtain ⟨g,p1,p2',p3,p4,e1,i1,i2,i3,i4⟩:=eL h ia hr
  have hsm:=hs r (List.mem_of_getElem? hr)
  have a3:=hsm.after
  have o1:=aJ i1.bE
  have o2:=aJ i2.bE
  have o3:=aJ i3.bE
  have o4:=aJ i4.bE
  have hlt:=dN hi
  have hadd:=bV i (by omega)
  have bx1:=bx.app (O.cells 37 [.str r.name,p1,p2',p3,p4] true)
  have s1:(Y ++ [O.cells 37 [.str r.name,p1,p2',p3,p4] true])[Y.length]? = some (O.cells 37 [.str r.name,p1,p2',p3,p4] true):=aN
  rw [aF]
  simp only [KP,Ax.loadAt,Ax.storeAt,↓reduceIte,Nat.reduceEqDiff,Nat.reduceLT,Nat.reduceAdd,reduceCtorEq,h.aV,h.bI,g7,g68,g69,g70,hlt,e1,o1,o2,o3,o4,aN,cF]
  generalize Y ++ [O.cells 37 [.str r.name,p1,p2',p3,p4] true] = τ1 at *
  generalize Y.length = y at *
  obtain ⟨es,hm,hsb⟩:=bx1.m1
  have ef:=Dp (f:=146) h bx1.b1 hm hsb
  have kf:=dO (fun K=>qQ (Z:=τ1) (K:=K) (k:=146) (caps:=[.dP true [.imp true es]]) (P:=fun n=>!gX rs n) h (i3.ls τ1 9) (by omega) (fun c hc=>by cases hc with | head=>rfl | tail _ hc=>cases hc) (fun y v hy hv=>by
   subst hv
   show aB E 146 [.str y,.dP true [.imp true es]] [] _
   rw [Oi h hsb]; exact ⟨rfl,rfl⟩) ef)
  cases m:r.after.any fun n=>!gX rs n with
  | true=>
   have hstr:gC rs = true:=by
    unfold gC
    refine List.any_eq_true.2 ⟨r,List.mem_of_getElem? hr,?_⟩
    rw [<- m]
    exact congrArg (fun f=>r.after.any f) (funext fun n=>sV)
   rw [hE,if_pos hstr] at hk
   simp only [KP,Ax.loadAt,↓reduceIte,Nat.reduceEqDiff,Nat.reduceLT,reduceCtorEq,h.cN,h.bI,s1,kf,m,bA d28,bX]
   exact hk _ _
  | false=>
  simp only [KP,↓reduceIte,Nat.reduceEqDiff,Nat.reduceLT,g70,kf,m,hadd]
  refine next _ _ (fZ (by simp +decide only [GS,g7,g68,g69,and_self]) ⟨bx1,fun j q hj hq=>?_⟩)
  rcases Nat.lt_or_ge j i with g | g
  ·exact hp j q g hq
  ·obtain rfl:j = i:=by omega
   rw [hr] at hq; cases hq; exact m
 ·rintro F Y ⟨g7,g68,g69,g70,bx,hp⟩
  have hstr:gC rs = false:=by
   unfold gC
   refine List.any_eq_false.2 fun r hr=>?_
   obtain ⟨j,hj,e⟩:=List.getElem_of_mem hr
   have:=hp j r hj (by rw [List.getElem?_eq_getElem hj,e])
   rw [show (r.after.any fun n=>decide (fN rs n = none)) = r.after.any fun n=>!gX rs n from congrArg (fun f=>r.after.any f) (funext fun n=>sV),this]
   simp
  rw [hE,if_neg (by rw [hstr]; simp)] at hk
  have hlt:=dQ (Nat.lt_irrefl rs.length)
  rw [aF]
  simp only [KP,↓reduceIte,Nat.reduceEqDiff,Nat.reduceLT,kS,g69,g70,hlt]
  exact hk _ _
end
end
section
section
variable {E:Env} {Z:Sg} {K:V -> Sg -> Prop}
theorem nB.congr {Y:Sg} {kr ko mr mo:Nat} {p1 p2 q1 q2:aZ -> Bool} (h:nB E Y kr ko mr mo p1 p2) (e1:∀ k,p1 k = q1 k) (e2:∀ k,p2 k = q2 k):nB E Y kr ko mr mo q1 q2:=by
 rwa [show p1 = q1 from funext e1,show p2 = q2 from funext e2] at h
theorem Vb (h:bM E) {a:V} {rs:List aG} (ia:IS dS a rs) (hs:∀ x ∈ rs,Small x) (hE:gA rs = if rV rs = true then 2 else if gC rs = true then 2 else 0) (hl:rs.length <= 4294967296) {Y:Sg} {kr ko mr mo:Nat} (bx:nB E Y kr ko mr mo (fun _=>false) (fun _=>false)) (F:FT) (g0:F.get 0 = a) (g7:F.get 7 = .ref kr 0) (g8:F.get 8 = .ref ko 0) (hk:∀ nm σ',K (.fS [.int .i64 (gA rs),.str nm]) σ') :
  R E (cutAt [1,1,1,1] (aA Tryz.f108).code) [] ⟨81,F⟩ Y (mI E (aA Tryz.f108).results K):=by
 have la:=cK h ia
 have key:=fun (hE':gA rs = if gC rs = true then 2 else 0) Y p2 bx F g0 g7=>Vc (K:=K) (Y:=Y) (kr:=kr) (ko:=ko) (mr:=mr) (mo:=mo) (p2:=p2) h ia hs hE' hl bx F g0 g7 hk
 rw [show cutAt [1,1,1,1] (aA Tryz.f108).code = .seq (cutAt [1,1,1,1,0] (aA Tryz.f108).code) (cutAt [1,1,1,1,1] (aA Tryz.f108).code) from rfl]
 have d16:=h.QC
 simp only [aA,Tryz.f108,cutAt,Option.getD_some] at d16
 generalize cutAt [1,1,1,1,1] (aA Tryz.f108).code = C at key ⊢
 simp only [aA,Tryz.f108,KP,↓reduceIte,Nat.reduceLT,cutAt,g0,la]
 refine aR (fun i F Y=>F.get 0 = a /\ F.get 7 = .ref kr 0 /\ F.get 8 = .ref ko 0 /\ F.get 35 = a /\ F.get 36 = .int .i64 (rs.length:Int) /\ F.get 37 = .int .i64 (i:Int) /\ nB E Y kr ko mr mo (gX (rs.take i)) (uW (rs.take i)) /\ ∀ j,j < i -> nQ rs j = false) rs.length ?_ ?_ rs.length 0 _ _ (by omega) (CI (by simp +decide only [GS,g0,g7,g8,and_self]) ⟨bx,fun j hj=>by omega⟩)
 ·rintro i F Y hi ⟨g0,g7,g8,g35,g36,g37,bx,hp⟩ next
  obtain ⟨r,hr⟩:∃ y,rs[i]? = some y:=⟨_,List.getElem?_eq_getElem hi⟩
  obtain ⟨g,p1,p2',p3,p4,e1,i1,i2,i3,i4⟩:=eL h ia hr
  have hsm:=hs r (List.mem_of_getElem? hr)
  have a2:=hsm.outs
  have o1:=aJ i1.bE
  have o2:=aJ i2.bE
  have o3:=aJ i3.bE
  have o4:=aJ i4.bE
  have hlt:=dN hi
  have hadd:=bV i (by omega)
  have lo:=bL h i2
  have bx1:=bx.app (O.cells 37 [.str r.name,p1,p2',p3,p4] true)
  have s1:(Y ++ [O.cells 37 [.str r.name,p1,p2',p3,p4] true])[Y.length]? = some (O.cells 37 [.str r.name,p1,p2',p3,p4] true):=aN
  rw [aF]
  simp only [KP,Ax.loadAt,Ax.storeAt,↓reduceIte,Nat.reduceEqDiff,Nat.reduceLT,Nat.reduceAdd,h.bI,h.AB,g7,g8,g35,g36,g37,hlt,e1,o1,o2,o3,o4,aN,cF]
  generalize Y ++ [O.cells 37 [.str r.name,p1,p2',p3,p4] true] = τ1 at *
  generalize Y.length = y at *
  obtain ⟨es1,hm1,hsb1⟩:=bx1.m1
  obtain ⟨es2,hm2,hsb2⟩:=bx1.m2
  have bb1:=bx1.b1
  have ef:=Dp (f:=145) h bx1.b2 hm2 hsb2
  have kf:=dO (fun K=>qQ (Z:=τ1) (K:=K) (k:=145) (caps:=[.dP true [.imp true es2]]) (P:=uW (rs.take i)) h (i2.ls τ1 9) (by omega) (fun c hc=>by cases hc with | head=>rfl | tail _ hc=>cases hc) (fun y v hy hv=>by
   subst hv
   show aB E 145 [.str y,.dP true [.imp true es2]] [] _
   rw [Oj h hsb2]; exact ⟨rfl,rfl⟩) ef)
  have hlk:=EP (Z:=τ1) (x:=.mp mr) h (by unfold entriesOf; simp only [hm1]) hsb1 r.name
  have hcl:=CG hr
  have yes:nQ rs i = true -> gA rs = 2:=fun e=>by
   rw [hE,if_pos]
   exact List.any_eq_true.2 ⟨i,List.mem_range.2 hi,e⟩
  cases m1:gX (rs.take i) r.name with
  | true=>
   rw [m1,Bool.true_or] at hcl
   rw [yes hcl] at hk
   simp only [KP,Ax.loadAt,↓reduceIte,Nat.reduceEqDiff,Nat.reduceLT,reduceCtorEq,h.cN,h.bI,s1,bb1,hlk,m1,bA d16,bX]
   exact hk _ _
  | false=>
  rw [m1,Bool.false_or] at hcl
  cases m2:r.outs.any (uW (rs.take i)) with
  | true=>
   rw [m2] at hcl
   rw [yes hcl] at hk
   simp only [KP,Ax.loadAt,↓reduceIte,Nat.reduceEqDiff,Nat.reduceLT,reduceCtorEq,h.cN,h.aV,h.bI,s1,bb1,hlk,kf,m1,m2,bA d16,bX]
   exact hk _ _
  | false=>
  rw [m2] at hcl
  obtain ⟨es1',hu,hsb1'⟩:=L0 h hm1 hsb1 r.name
  have bx2:=bx1.Si hsb1'
  have ny:mr ≠ y:=pA hm1 s1 (by intro e; cases e)
  have s2:(τ1.set mr (.map es1'))[y]? = some (O.cells 37 [.str r.name,p1,p2',p3,p4] true):=by rw [List.getElem?_set_ne ny]; exact s1
  simp only [KP,Ax.loadAt,↓reduceIte,Nat.reduceEqDiff,Nat.reduceLT,reduceCtorEq,h.cN,h.aV,h.bI,h.AB,g7,s1,bb1,hlk,kf,m1,m2,hu,s2,lo]
  refine aR (fun j F Y=>F.get 0 = a /\ F.get 7 = .ref kr 0 /\ F.get 8 = .ref ko 0 /\ F.get 35 = a /\ F.get 36 = .int .i64 (rs.length:Int) /\ F.get 37 = .int .i64 (i:Int) /\ F.get 58 = p2' /\ F.get 59 = .int .i64 (r.outs.length:Int) /\ F.get 60 = .int .i64 (j:Int) /\ nB E Y kr ko mr mo (fun k=>gX (rs.take i) k || decide (k = r.name)) (fun k=>uW (rs.take i) k || decide (k ∈ r.outs.take j))) r.outs.length ?_ ?_ r.outs.length 0 _ _ (by omega) (Au (by simp +decide only [GS,g0,g7,g8,g35,g36,g37,and_self]) (bx2.congr (fun _=>rfl) (fun k=>by simp)))
  ·rintro j F Y hj ⟨g0,g7,g8,g35,g36,g37,g58,g59,g60,bx⟩ next2
   obtain ⟨s,hsj⟩:∃ y,r.outs[j]? = some y:=⟨_,List.getElem?_eq_getElem hj⟩
   obtain ⟨g',e2⟩:=fI h i2 hsj
   have hlt2:=dN hj
   have hadd2:=bV j (by omega)
   obtain ⟨es3,hm3,hsb3⟩:=bx.m2
   obtain ⟨es3',hu3,hsb3'⟩:=L0 h hm3 hsb3 s
   have bb2:=bx.b2
   rw [aF]
   simp only [KP,Ax.loadAt,↓reduceIte,Nat.reduceEqDiff,Nat.reduceLT,h.cN,h.AB,g8,g58,g59,g60,hlt2,e2,bb2,hu3,hadd2]
   refine next2 _ _ (Au (by simp +decide only [GS,g0,g7,g8,g35,g36,g37,g58,g59,and_self]) ((bx.put2 hsb3').congr (fun _=>rfl) (fun k=>?_)))
   rw [List.take_add_one,hsj,Bool.or_assoc,Bool.eq_iff_iff]
   simp
  ·rintro F Y ⟨g0,g7,g8,g35,g36,g37,g58,g59,g60,bx⟩
   rw [List.take_of_length_le (Nat.le_refl _)] at bx
   have hlt2:=dQ (Nat.lt_irrefl r.outs.length)
   rw [aF]
   simp only [KP,↓reduceIte,Nat.reduceEqDiff,Nat.reduceLT,g37,g59,g60,hlt2,hadd]
   refine next _ _ (CI (by simp +decide only [GS,g0,g7,g8,g35,g36,and_self]) ⟨bx.congr (fun k=>(Gc hr k).symm) (fun k=>(H6 hr k).symm),fun j hj=>?_⟩)
   rcases Nat.lt_or_ge j i with g | g
   ·exact hp j g
   ·obtain rfl:j = i:=by omega
    exact hcl
 ·rintro F Y ⟨g0,g7,g8,g35,g36,g37,bx,hp⟩
  have hcl:rV rs = false:=List.any_eq_false.2 fun j hj=>by rw [hp j (List.mem_range.1 hj)]; simp
  rw [if_neg (by rw [hcl]; simp)] at hE
  rw [List.take_of_length_le (Nat.le_refl _)] at bx
  have hlt:=dQ (Nat.lt_irrefl rs.length)
  rw [aF]
  simp only [KP,↓reduceIte,Nat.reduceLT,g36,g37,hlt]
  exact key hE _ _ bx _ (by simp +decide only [GS,g0]) (by simp +decide only [GS,g7])
end
end
section
section
variable {E:Env} {Z:Sg} {K:V -> Sg -> Prop}
theorem uG {Y:Sg} {a b c d:O} {n:Nat}:(Y ++ [a] ++ [b] ++ [c] ++ [d])[Y.length + n]? = [a,b,c,d][n]?:=by
 rw [List.append_assoc,List.append_assoc,List.append_assoc,List.getElem?_append_right (by omega),Nat.add_sub_cancel_left]
 rfl
theorem NU {Y:Sg} {a b c d x:O}:(Y ++ [a] ++ [b] ++ [c] ++ [d]).set (Y.length + 2) x = Y ++ [a] ++ [b] ++ [x] ++ [d]:=by
 rw [List.append_assoc,List.append_assoc,List.append_assoc,List.set_append_right _ _ (by omega),Nat.add_sub_cancel_left,List.append_assoc,List.append_assoc,List.append_assoc]
 rfl
theorem K4 {Y:Sg} {a b c d x:O}:(Y ++ [a] ++ [b] ++ [c] ++ [d]).set (Y.length + 3) x = Y ++ [a] ++ [b] ++ [c] ++ [x]:=by
 rw [List.append_assoc,List.append_assoc,List.append_assoc,List.set_append_right _ _ (by omega),Nat.add_sub_cancel_left,List.append_assoc,List.append_assoc,List.append_assoc]
 rfl
theorem Io {Y:Sg} {a b c:O}:(Y ++ [a]).length = Y.length + 1 /\ (Y ++ [a] ++ [b]).length = Y.length + 2 /\ (Y ++ [a] ++ [b] ++ [c]).length = Y.length + 3:=by simp
theorem J2 (h:bM E) {a:V} {rs:List aG} (ha:LS dS 37 Z a rs) (hs:∀ x ∈ rs,Small x) (hl:rs.length <= 4294967296):aB E 108 [a] Z fun v σ'=>σ' = Z /\ ∃ nm,v = .fS [.int .i64 (gA rs),.str nm]:=by
 obtain ⟨a',ea,ia⟩:=eR h ha
 rw [aH h.W4 h.Uz h.XO h.V5 (args':=[a']) (by simp only [aW,ea]),a_ (by kernel_rfl)]
 have la:=cK h ia
 have key:=fun hE Y kr ko mr mo bx F g0 g7 g8=>Vb (K:=fun v σ1=>match cW σ1 E.ty false v with
   | some v=>∃ nm,v = .fS [.int .i64 (gA rs),.str nm]
   | none=>False) (Y:=Y) (kr:=kr) (ko:=ko) (mr:=mr) (mo:=mo) h ia hs hE hl bx F g0 g7 g8 (fun nm σ'=>⟨nm,rfl⟩)
 rw [show (aA Tryz.f108).code = .seq (cutAt [0] (aA Tryz.f108).code) (.seq (cutAt [1,0] (aA Tryz.f108).code) (.seq (cutAt [1,1,0] (aA Tryz.f108).code) (.seq (cutAt [1,1,1,0] (aA Tryz.f108).code) (cutAt [1,1,1,1] (aA Tryz.f108).code)))) from rfl]
 have d6:=h.Te
 simp only [aA,Tryz.f108,cutAt,Option.getD_some] at d6
 generalize cutAt [1,1,1,1] (aA Tryz.f108).code = C at key ⊢
 simp only [aA,Tryz.f108,KP,↓reduceIte,Nat.reduceLT,reduceCtorEq,kS,cutAt,la]
 refine aR (fun i F Y=>F.get 0 = a' /\ F.get 16 = a' /\ F.get 17 = .int .i64 (rs.length:Int) /\ F.get 18 = .int .i64 (i:Int) /\ ∀ (j:Nat) (r:aG),j < i -> rs[j]? = some r -> bB r = 0) rs.length ?_ ?_ rs.length 0 _ _ (by omega) (fZ (by simp +decide only [GS,and_self]) (fun j r hj=>by omega))
 ·rintro i F Y hi ⟨g0,g16,g17,g18,hp⟩ next
  obtain ⟨r,hr⟩:∃ y,rs[i]? = some y:=⟨_,List.getElem?_eq_getElem hi⟩
  obtain ⟨g,p1,p2,p3,p4,e1,i1,i2,i3,i4⟩:=eL h ia hr
  have hsm:=hs r (List.mem_of_getElem? hr)
  have o1:=aJ i1.bE
  have o2:=aJ i2.bE
  have o3:=aJ i3.bE
  have o4:=aJ i4.bE
  have hlt:=dN hi
  have hadd:=bV i (by omega)
  have s1:(Y ++ [O.cells 37 [.str r.name,p1,p2,p3,p4] true])[Y.length]? = some (O.cells 37 [.str r.name,p1,p2,p3,p4] true):=aN
  have kr:=fun (Y:Sg)=>P_ (Z:=Y) h (v:=.agg [.str r.name,p1,p2,p3,p4]) ⟨p1,p2,p3,p4,rfl,i1,i2,i3,i4⟩ hsm
  rw [aF]
  simp only [KP,Ax.loadAt,Ax.storeAt,↓reduceIte,Nat.reduceEqDiff,Nat.reduceLT,Nat.reduceAdd,h.bI,g16,g17,g18,hlt,e1,o1,o2,o3,o4,aN,cF]
  generalize Y ++ [O.cells 37 [.str r.name,p1,p2,p3,p4] true] = τ1 at *
  generalize Y.length = y at *
  by_cases he:bB r = 0
  ·have q:=decide_eq_true he
   simp only [KP,↓reduceIte,Nat.reduceEqDiff,Nat.reduceLT,g18,kr,q,hadd]
   refine next _ _ (fZ (by simp +decide only [GS,g0,g16,g17,and_self]) (fun j x hj hx=>?_))
   rcases Nat.lt_or_ge j i with g | g
   ·exact hp j x g hx
   ·obtain rfl:j = i:=by omega
    rw [hr] at hx; cases hx; exact he
  ·have q:=decide_eq_false he
   rw [zI hr he fun j s hj hx=>hp j s hj hx]
   simp only [KP,Ax.loadAt,↓reduceIte,Nat.reduceEqDiff,Nat.reduceLT,reduceCtorEq,h.cN,h.bI,s1,kr,q,bA d6,bX]
   exact ⟨r.name,rfl⟩
 ·rintro F Y ⟨g0,g16,g17,g18,hp⟩
  have hE:=xO fun j s hx=>hp j s (List.getElem?_eq_some_iff.1 hx).1 hx
  have hlt:=dQ (Nat.lt_irrefl rs.length)
  rw [aF]
  by_cases h40:40 < rs.length
  ·have q:decide ((40:Int) < (rs.length:Int)) = true:=decide_eq_true (by omega)
   rw [if_pos h40] at hE
   rw [hE]
   simp only [KP,↓reduceIte,Nat.reduceEqDiff,Nat.reduceLT,reduceCtorEq,kS,g0,g17,g18,hlt,la,q]
   exact ⟨[],rfl⟩
  ·have q:decide ((40:Int) < (rs.length:Int)) = false:=decide_eq_false (by omega)
   rw [if_neg h40] at hE
   have n1:=(Io (Y:=Y) (a:=.map []) (b:=.map []) (c:=.cells 98 [.bS] true)).1
   have n2:=(Io (Y:=Y) (a:=.map []) (b:=.map []) (c:=.cells 98 [.bS] true)).2.1
   have n3:=(Io (Y:=Y) (a:=.map []) (b:=.map []) (c:=.cells 98 [.bS] true)).2.2
   have q1:(Y ++ [O.map []] ++ [O.map []] ++ [O.cells 98 [.bS] true] ++ [O.cells 98 [.bS] true])[Y.length + 2]? = some (O.cells 98 [.bS] true):=uG
   have q2:(Y ++ [O.map []] ++ [O.map []] ++ [O.cells 98 [.mp Y.length] true] ++ [O.cells 98 [.bS] true])[Y.length + 3]? = some (O.cells 98 [.bS] true):=uG
   simp only [KP,Ax.storeAt,↓reduceIte,Nat.reduceEqDiff,Nat.reduceLT,reduceCtorEq,h.AB,g0,g17,g18,hlt,la,q,n1,n2,n3,q1,q2,NU,K4]
   refine key hE _ (Y.length + 2) (Y.length + 3) Y.length (Y.length + 1) ⟨uG,uG,⟨[],uG (n:=0),ML⟩,⟨[],uG,ML⟩,by omega⟩ _ ?_ ?_ ?_
   ·exact (by simp +decide only [GS,g0])
   ·exact (by simp +decide only [GS])
   ·exact (by simp +decide only [GS])
end
end
section
section
variable {E:Env} {Z:Sg} {K:V -> Sg -> Prop}
theorem DR {lt:List V -> List V -> Bool} (x:List V):∀ l,(Cd lt x l).Perm (x :: l)
 | []=>.refl _
 | y :: r=>by
  rw [Cd]
  split
  ·exact .refl _
  ·exact ((DR x r).cons y).trans (.swap x y r)
theorem Cl {lt:List V -> List V -> Bool}:∀ (l acc:List (List V)),(l.foldl (fun acc x=>Cd lt x acc) acc).Perm (l ++ acc)
 | [],acc=>.refl _
 | x :: l,acc=>by
  rw [List.foldl_cons]
  refine (Cl l _).trans ?_
  exact ((DR x acc).append_left l).trans List.perm_middle
theorem HK {lt:List V -> List V -> Bool} (l:List (List V)):(kB lt l).Perm l:=by
 have:=Cl (lt:=lt) l []
 rwa [List.append_nil] at this
def Fs:List V -> aZ
 | [.str s]=>s
 | _=>[]
theorem AY:∀ {rs:List (List V)} {l:List aZ},eT aK.P rs l -> rs = l.map fun s=>[V.str s]
 | _,_,.nil=>rfl
 | _,_,.cons h t=>by rw [List.map_cons,AY t,show _ = [V.str _] from h]
theorem yI:∀ l:List aZ,eT aK.P (l.map fun s=>[V.str s]) l
 | []=>.nil
 | _ :: l=>.cons rfl (yI l)
theorem zF:∀ l:List aZ,((l.map fun s=>[V.str s]).flatten).map (fun v=>[v]) = l.map fun s=>[V.str s]
 | []=>rfl
 | s :: l=>by simp only [List.map_cons,List.flatten_cons,List.map_append,zF l]; rfl
theorem Az:∀ {l:List aZ},(∀ s ∈ l,s.length <= 9223372036854775807) -> allRows jW (l.map fun s=>[V.str s]) = true
 | [],_=>rfl
 | s :: l,h=>by
  have h1:jW [V.str s] = true:=Nat.ble_eq_true_of_le (h s (List.mem_cons_self ..))
  rw [List.map_cons,allRows,h1]
  exact Az fun x hx=>h x (List.mem_cons_of_mem _ hx)
theorem Di:∀ {rows:List (List V)},(∀ r ∈ rows,∃ s,r = [V.str s]) -> rows = (rows.map Fs).map fun s=>[V.str s]
 | [],_=>rfl
 | r :: rows,h=>by
  obtain ⟨s,e⟩:=h r (List.mem_cons_self ..)
  rw [List.map_cons,List.map_cons,<- Di fun x hx=>h x (List.mem_cons_of_mem _ hx),e]
  rfl
theorem DV {Z:Sg} {w:V} {l:List aZ} (ow:bD aK 9 Z w l) (hl:l.length <= 1000000) (hs:∀ s ∈ l,s.length <= 9223372036854775807):∃ σ' l',oJ 9 [w] Z = some (.fS [],σ') /\ l'.Perm l /\ bD aK 9 σ' w l' /\ Sp Z σ' w /\ σ'.length = Z.length:=by
 rcases ow with ⟨rfl,rfl⟩ | ⟨b,rs,ex,rfl,hb,ha⟩
 ·exact ⟨Z,[],rfl,.refl _,.inl ⟨rfl,rfl⟩,Sp.refl _ _,rfl⟩
 ·obtain rfl:=AY ha
  have hp:(kB strLt (l.map fun s=>[V.str s])).Perm (l.map fun s=>[V.str s]):=HK _
  have he:((kB strLt (l.map fun s=>[V.str s])).map Fs).Perm l:=by
   have:=hp.map Fs
   rwa [List.map_map,show Fs ∘ (fun s=>[V.str s]) = id from rfl,List.map_id] at this
  have hr:kB strLt (l.map fun s=>[V.str s]) = ((kB strLt (l.map fun s=>[V.str s])).map Fs).map fun s=>[V.str s]:=by
   refine Di fun r hr=>?_
   obtain ⟨s,-,e⟩:=List.mem_map.1 (hp.mem_iff.1 hr)
   exact ⟨s,e.symm⟩
  have hlen:((l.map fun s=>[V.str s]).flatten).length = l.length:=by
   have:=congrArg List.length (zF l)
   rwa [List.length_map,List.length_map] at this
  refine ⟨Z.set b (.cells 9 (kB strLt (l.map fun s=>[V.str s])).flatten ex),_,?_,he,.inr ⟨b,_,ex,?_,?_,yI _⟩,?_,?_⟩
  ·unfold oJ
   simp only [hb,zF,Az hs,show Nat.beq 9 9 = true from rfl,hlen,Nat.ble_eq_true_of_le hl,show Nat.beq l.length l.length = true from Nat.beq_refl _]
  ·rw [List.length_map,hp.length_eq,List.length_map]
  ·rw [List.getElem?_set_self (List.getElem?_eq_some_iff.1 hb).1,<- hr]
  ·intro c o hc hn
   rw [List.getElem?_set_ne (fun e=>hn (by rw [<- e]; rfl))]
   exact hc
  ·rw [List.length_set]
end
end
section
section
variable {E:Env} {Z:Sg} {K:V -> Sg -> Prop}
def OL (Y:Sg) (v:V) (l:List aZ):Prop:=(v = .aC /\ l = []) \/ ∃ b cs ex,v = .sl b 0 l.length none /\ Y[b]? = some (.cells 9 cs ex) /\ cs.take l.length = l.map V.str
theorem Cp:∀ l:List aZ,(l.map fun s=>[V.str s]).flatten = l.map V.str
 | []=>rfl
 | s :: l=>by simp only [List.map_cons,List.flatten_cons,Cp l]; rfl
theorem Gx (h:bM E) {b off n k:Nat} (hk:k < n):indexAddr E 28 (.sl b off n none) (.int .i64 (k:Int)) = some (.ref b (off + k)):=by
 unfold Ax.indexAddr
 simp only [h.aV,h.cN,show ¬ ((k:Int) < 0) by omega,if_false,Int.toNat_natCast,hk,if_true,Nat.mul_one]
theorem JF (h:bM E) {Y:Sg} {b j:Nat} {A:List aZ} {ex:Bool} {s:aZ} (hb:Y[b]? = some (O.cells 9 (A.map V.str) ex)) (hj:A[j]? = some s):loadAt E Y 9 (.ref b j) = some (.str s):=by
 unfold Ax.loadAt
 have e:(A.map V.str)[j]? = some (.str s):=by rw [List.getElem?_map,hj]; rfl
 simp only [h.cN,hb,e,Ax.isAgg]
 rfl
theorem wO:∀ (A:List aZ) (j:Nat) (s:aZ),j < A.length -> setCells (A.map V.str) j [.str s] = (A.set j s).map V.str
 | [],_,_,h=>absurd h (by simp)
 | a :: A,0,s,_=>rfl
 | a :: A,j + 1,s,h=>by
  have:=wO A j s (by simpa using h)
  simp only [List.map_cons,List.set_cons_succ,<- this]
  rfl
theorem TU (h:bM E) {Y:Sg} {b j:Nat} {A:List aZ} {ex:Bool} {s:aZ} (hb:Y[b]? = some (O.cells 9 (A.map V.str) ex)) (hj:j < A.length):storeAt E Y 9 (.ref b j) (.str s) = some (Y.set b (O.cells 9 ((A.set j s).map V.str) ex)):=by
 unfold Ax.storeAt
 have e:decide (j + 1 <= (A.map V.str).length) = true:=decide_eq_true (by rw [List.length_map]; omega)
 simp only [h.cN,hb,V.cells,List.length_cons,List.length_nil,List.all_cons,List.all_nil,V.aX,e,wO A j s hj]
 rfl
theorem Ns (h:bM E) {Y:Sg} {b off n:Nat}:lenOf E Y 28 (.sl b off n none) = some n:=by unfold lenOf; rw [h.aV]
theorem JS (h:bM E) {Y:Sg} {b n k:Nat} {A:List aZ} {ex:Bool} (hb:Y[b]? = some (O.cells 9 (A.map V.str) ex)) (hn:n = A.length) (hk:k < n):Ax.slice E Y 28 (.sl b 0 n none) (some (.int .i64 (k:Int))) none none = some (.sl b k (n - k) none):=by
 unfold Ax.slice
 simp only [h.aV,h.cN,hb,bound,show decide (0 <= (k:Int)) = true from decide_eq_true (by omega),show decide ((k:Int) <= (n:Int)) = true from decide_eq_true (by omega),Bool.and_self,if_true,Int.toNat_natCast,Nat.zero_add]
 show (if (1:Nat) = 0 then none else if (!(9 == 9)) = true then none else if k * 1 < (A.map V.str).length then some (V.sl b (k * 1) (n - k) none) else _) = _
 rw [if_neg (by decide),if_neg (by decide),if_pos (by rw [List.length_map]; omega),Nat.mul_one]
theorem O0 (h:bM E) {Y:Sg} {b n k:Nat} {cs:List V} {ex:Bool} (hb:Y[b]? = some (.cells 9 cs ex)) (hn:n = cs.length) (hk:k < n):Ax.slice E Y 28 (.sl b 0 n none) none (some (.int .i64 (k:Int))) none = some (.sl b 0 k none):=by
 unfold Ax.slice
 simp only [h.aV,h.cN,hb,bound,Fu,show decide (0 <= (k:Int)) = true from decide_eq_true (by omega),Int.toNat_natCast,Nat.zero_mul,Nat.add_zero,Nat.sub_zero,Bool.true_and]
 show (if (1:Nat) = 0 then none else if (!(9 == 9)) = true then none else match if decide ((k:Int) <= ((cs.length / 1:Nat):Int)) = true then some k else none with
  | none=>none
  | some h=>if 0 < cs.length then some (V.sl b 0 h none) else _) = _
 rw [if_neg (by decide),if_neg (by decide),if_pos (by rw [Nat.div_one]; exact decide_eq_true (by omega))]
 show (if 0 < cs.length then some (V.sl b 0 k none) else _) = _
 rw [if_pos (by omega)]
theorem N_ (h:bM E) {Y:Sg} {b n k:Nat} {A:List aZ} {ex:Bool} (hb:Y[b]? = some (O.cells 9 (A.map V.str) ex)) (hn:n = A.length) (hk:k < n):∃ cs,Ax.builtin E Y .clear #[28] [.sl b k (n - k) none] = some (.fS [],Y.set b (.cells 9 cs ex)) /\ cs.take k = (A.take k).map V.str /\ cs.length = n:=by
 have hne:¬ n - k = 0:=by omega
 have hle:decide (k + (n - k) * 1 <= (A.map V.str).length) = true:=decide_eq_true (by rw [List.length_map]; omega)
 refine ⟨setCells (A.map V.str) k (gK (n - k) [.str []]),?_,?_,?_⟩
 ·unfold Ax.builtin
  show (match E.ty 28 with
   | some { kd:=.sl e,.. }=>match E.ty e,Y[b]? with
    | some i,some (.cells u cs ex)=>
     if n - k = 0 then some (V.fS [],Y)
     else if u == e && decide (k + (n - k) * i.size <= cs.length) then some (V.fS [],Y.set b (.cells u (setCells cs k (gK (n - k) i.zero.cells)) ex)) else none
    | _,_=>none
   | _=>none) = _
  simp only [h.aV,h.cN,hb,hne,if_false]
  rw [hle]
  rfl
 ·rw [List.map_take]
  clear hle hne
  unfold setCells
  rw [List.append_assoc,List.take_append_of_le_length (by rw [List.length_take,List.length_map]; omega),List.take_take,Nat.min_self]
 ·have hr:∀ m,(gK m [V.str []]).length = m:=fun m=>by
   induction m with
   | zero=>rfl
   | succ m ih=>rw [gK,List.length_append,ih]; simp; omega
  unfold setCells
  simp only [List.length_append,List.length_take,List.length_drop,List.length_map,hr]
  omega
end
end
section
section
variable {E:Env} {Z:Sg} {K:V -> Sg -> Prop}
theorem Sp.set {Z Y:Sg} {w:V} {b:Nat} {y:O} (h:Sp Z Y w) (hb:aT w = some b):Sp Z (Y.set b y) w:=fun c o hc hn=>by
 rw [List.getElem?_set_ne (fun e=>hn (by rw [hb,e]))]
 exact h c o hc hn
theorem fJ {l:List aZ} {k:Nat} {u:aZ} (hu:l[k]? = some u) (x:aZ):x ∈ l.take (k + 1) ↔ x ∈ l.take k \/ x = u:=by
 rw [List.take_add_one,hu]; simp
theorem LH (h:bM E) {w:V} {l:List aZ} (ow:bD aK 9 Z w l) (hl:l.length <= 1000000):aB E 110 [w] Z fun v σ'=>(∃ l',OL σ' v l' /\ l'.length <= l.length /\ ∀ x,x ∈ l' ↔ x ∈ l) /\ (∀ c,aT v = some c -> aT w = some c) /\ Sp Z σ' w /\ σ'.length = Z.length:=by
 rw [dA h.WY h.Ux h.XM h.V3,a_ (by kernel_rfl)]
 rcases ow with ⟨rfl,rfl⟩ | ⟨b,rs,ex,rfl,hb,ha⟩
 ·have ln:lenOf E Z 28 .aC = some 0:=by unfold lenOf; rw [h.aV]
  simp only [aA,Tryz.f110,KP,↓reduceIte,Nat.reduceLT,reduceCtorEq,Int.reduceLT,ln]
  exact ⟨⟨[],.inl ⟨rfl,rfl⟩,Nat.le_refl _,fun x=>Iff.rfl⟩,fun c hc=>hc,Sp.refl _ _⟩
 obtain rfl:=AY ha
 rw [Cp] at hb
 have hls:OL Z (.sl b 0 l.length none) l:=.inr ⟨b,_,ex,rfl,hb,List.take_of_length_le (by rw [List.length_map]; exact Nat.le_refl _)⟩
 have lw:∀ Y,lenOf E Y 28 (.sl b 0 l.length none) = some l.length:=fun Y=>Ns h
 by_cases h2:l.length < 2
 ·have q:decide ((l.length:Int) < 2) = true:=decide_eq_true (by omega)
  simp only [aA,Tryz.f110,KP,↓reduceIte,Nat.reduceLT,reduceCtorEq,lw,q]
  exact ⟨⟨l,hls,Nat.le_refl _,fun x=>Iff.rfl⟩,fun c hc=>hc,Sp.refl _ _⟩
 have q:decide ((l.length:Int) < 2) = false:=decide_eq_false (by omega)
 have d6:=h.Td
 simp only [aA,Tryz.f110,cutAt,Option.getD_some] at d6
 have d11:=h.QA
 simp only [aA,Tryz.f110,cutAt,Option.getD_some] at d11
 simp only [aA,Tryz.f110,KP,↓reduceIte,Nat.reduceLT,reduceCtorEq,lw,q]
 refine aR (fun i F Y=>Y = Z /\ F.get 0 = .sl b 0 l.length none /\ F.get 3 = .int .i64 ((i + 1:Nat):Int)) (l.length - 1) ?_ ?_ (l.length - 1) 0 _ _ (by omega) ⟨rfl,(by simp +decide only [GS]),(by simp +decide only [GS]; rfl)⟩
 ·rintro i F Y hi ⟨rfl,g0,g3⟩ next
  obtain ⟨x,hx⟩:∃ x,l[i + 1]? = some x:=⟨_,List.getElem?_eq_getElem (by omega)⟩
  obtain ⟨y,hy⟩:∃ y,l[i]? = some y:=⟨_,List.getElem?_eq_getElem (by omega)⟩
  have hlt:=dN (show i + 1 < l.length by omega)
  have hdn:=Df (i + 1) (by omega) (by omega)
  rw [Nat.add_sub_cancel] at hdn
  have hadd:=bV (i + 1) (by omega)
  have e1:=Gx (b:=b) (off:=0) h (show i + 1 < l.length by omega)
  have e2:=Gx (b:=b) (off:=0) h (show i < l.length by omega)
  rw [Nat.zero_add] at e1 e2
  have e3:=JF h hb hx
  have e4:=JF h hb hy
  rw [aF]
  by_cases hxy:x = y
  case neg=>
   have hs:=fT hxy
   simp only [KP,↓reduceIte,Nat.reduceEqDiff,Nat.reduceLT,reduceCtorEq,g0,g3,lw,hlt,hdn,hadd,e1,e2,e3,e4,hs,bA d6,bX]
   exact next _ _ ⟨rfl,(by simp +decide only [GS,g0,and_self])⟩
  have hs:=gW hxy
  have e5:=JS h hb rfl (show i + 1 < l.length by omega)
  simp only [KP,↓reduceIte,Nat.reduceEqDiff,Nat.reduceLT,reduceCtorEq,g0,g3,lw,hlt,hdn,e1,e2,e3,e4,e5,hs,bA d6,bX]
  have hly:y ∈ l.take (i + 1):=List.mem_of_getElem? (by rw [List.getElem?_take_of_lt (Nat.lt_succ_self i)]; exact hy)
  have bo:aT (.sl b 0 l.length none) = some b:=rfl
  have lw2:∀ Y,lenOf E Y 28 (.sl b (i + 1) (l.length - (i + 1)) none) = some (l.length - (i + 1)):=fun Y=>Ns h
  refine aR (fun j F τ'=>F.get 0 = .sl b 0 l.length none /\ F.get 4 = .sl b (i + 1) (l.length - (i + 1)) none /\ F.get 5 = .int .i64 ((j + 1:Nat):Int) /\ Sp Y τ' (.sl b 0 l.length none) /\ τ'.length = Y.length /\ ∃ (A:List aZ) (K:Nat),τ'[b]? = some (O.cells 9 (A.map V.str) ex) /\ A.length = l.length /\ F.get 3 = .int .i64 (K:Int) /\ i + 1 <= K /\ K <= i + 1 + j /\ (∀ p,i + 1 + j <= p -> A[p]? = l[p]?) /\ ∀ x,x ∈ A.take K ↔ x ∈ l.take (i + 1 + j + 1)) (l.length - (i + 1) - 1) ?_ ?_ (l.length - (i + 1) - 1) 0 _ _ (by omega) (kX (by simp +decide only [GS,g0,and_self]) ⟨(by simp +decide only [GS]; rfl),Sp.refl _ _,rfl,l,i + 1,hb,rfl,(by simp +decide only [GS,g3]),Nat.le_refl _,Nat.le_refl _,fun p _=>rfl,fun z=>by
   rw [fJ (k:=i + 1 + 0) (u:=x) hx]
   constructor
   ·exact .inl
   ·rintro (g | rfl)
    ·exact g
    ·rw [hxy]; exact hly⟩)
  ·rintro j F τ' hj ⟨g0,g4,g5,sp,hlen,A,K,hA,hAl,g3,hK1,hK2,hag,hmem⟩ next2
   obtain ⟨u,hu⟩:∃ u,l[i + 1 + j + 1]? = some u:=⟨_,List.getElem?_eq_getElem (by omega)⟩
   obtain ⟨v,hv⟩:∃ v,l[i + 1 + j]? = some v:=⟨_,List.getElem?_eq_getElem (by omega)⟩
   have hu':A[i + 1 + (j + 1)]? = some u:=(hag _ (by omega)).trans hu
   have hv':A[i + 1 + j]? = some v:=(hag _ (by omega)).trans hv
   have hlt2:=dN (show j + 1 < l.length - (i + 1) by omega)
   have hdn2:=Df (j + 1) (by omega) (by omega)
   rw [Nat.add_sub_cancel] at hdn2
   have hadd2:=bV (j + 1) (by omega)
   have hadd3:=bV K (by omega)
   have f1:=Gx (b:=b) (off:=i + 1) h (show j + 1 < l.length - (i + 1) by omega)
   have f2:=Gx (b:=b) (off:=i + 1) h (show j < l.length - (i + 1) by omega)
   have f3:=JF h hA hu'
   have f4:=JF h hA hv'
   have f5:=Gx (b:=b) (off:=0) h (show K < l.length by omega)
   rw [Nat.zero_add] at f5
   have f6:=TU (s:=u) h hA (show K < A.length by omega)
   have hms:∀ z,z ∈ l.take (i + 1 + (j + 1) + 1) ↔ z ∈ l.take (i + 1 + j + 1) \/ z = u:=fJ hu
   rw [aF]
   by_cases huv:u = v
   ·have hs2:=gW huv
    simp only [KP,↓reduceIte,Nat.reduceEqDiff,Nat.reduceLT,g4,g5,lw2,hlt2,hdn2,hadd2,f1,f2,f3,f4,hs2,bA d11,bX]
    refine next2 _ _ (fE (by simp +decide only [GS,g0,g4,and_self]) ⟨sp,hlen,A,K,hA,hAl,(by simp +decide only [GS,g3]),hK1,by omega,fun p hp=>hag p (by omega),fun z=>?_⟩)
    rw [hms,hmem]
    constructor
    ·exact .inl
    ·rintro (g | rfl)
     ·exact g
     ·rw [huv]
      exact List.mem_of_getElem? (by rw [List.getElem?_take_of_lt (Nat.lt_succ_self (i + 1 + j))]; exact hv)
   ·have hs2:=fT huv
    simp only [KP,↓reduceIte,Nat.reduceEqDiff,Nat.reduceLT,reduceCtorEq,g0,g3,g4,g5,lw2,hlt2,hdn2,hadd2,hadd3,f1,f2,f3,f4,f5,f6,hs2,bA d11,bX]
    refine next2 _ _ (fE (by simp +decide only [GS,g0,g4,and_self]) ⟨Sp.set sp bo,by rw [List.length_set]; exact hlen,A.set K u,K + 1,by rw [List.getElem?_set_self (List.getElem?_eq_some_iff.1 hA).1],by rw [List.length_set]; exact hAl,(by simp +decide only [GS]),by omega,by omega,fun p hp=>?_,fun z=>?_⟩)
    ·rw [List.getElem?_set_ne (by omega)]; exact hag p (by omega)
    ·rw [hms,<- hmem,fJ (u:=u) (by rw [List.getElem?_set_self (by omega)]),List.take_set_of_le (Nat.le_refl K)]
  ·rintro F τ' ⟨g0,g4,g5,sp,hlen,A,K,hA,hAl,g3,hK1,hK2,hag,hmem⟩
   have hlt2:=dQ (show ¬ l.length - (i + 1) - 1 + 1 < l.length - (i + 1) by omega)
   have f1:=JS h hA hAl.symm (show K < l.length by omega)
   obtain ⟨cs,f2,f3,f4⟩:=N_ h hA hAl.symm (show K < l.length by omega)
   have hA2:(τ'.set b (.cells 9 cs ex))[b]? = some (.cells 9 cs ex):=by rw [List.getElem?_set_self (List.getElem?_eq_some_iff.1 hA).1]
   have f5:=O0 h hA2 f4.symm (show K < l.length by omega)
   have hKl:(A.take K).length = K:=by rw [List.length_take]; omega
   rw [aF]
   simp only [KP,↓reduceIte,Nat.reduceEqDiff,Nat.reduceLT,reduceCtorEq,g0,g3,g4,g5,lw2,hlt2,f1,f2,f5]
   refine ⟨⟨A.take K,.inr ⟨b,cs,ex,by rw [hKl],hA2,by rw [hKl]; exact f3⟩,by rw [hKl]; omega,fun z=>?_⟩,fun c hc=>hc,Sp.set sp bo,by rw [List.length_set]; exact hlen⟩
   ·rw [hmem,show i + 1 + (l.length - (i + 1) - 1) + 1 = l.length by omega,List.take_of_length_le (Nat.le_refl _)]
 ·rintro F Y ⟨rfl,g0,g3⟩
  have hlt:=dQ (show ¬ l.length - 1 + 1 < l.length by omega)
  rw [aF]
  simp only [KP,↓reduceIte,Nat.reduceEqDiff,Nat.reduceLT,reduceCtorEq,g0,g3,lw,hlt]
  exact ⟨⟨l,hls,Nat.le_refl _,fun x=>Iff.rfl⟩,fun c hc=>hc,Sp.refl _ _⟩
end
end
section
section
variable {E:Env} {Z:Sg} {K:V -> Sg -> Prop}
def MK (get:aZ -> Option V) (P:aZ -> aZ -> Prop):Prop:=∀ k,(get k = none /\ ∀ n,¬ P k n) \/ ∃ n,P k n /\ get k = some (.str n)
theorem MK.nil:MK (fun _=>none) fun _ _=>False:=fun _=>.inl ⟨rfl,fun _ h=>h⟩
theorem MK.put {get:aZ -> Option V} {P:aZ -> aZ -> Prop} (h:MK get P) (k n:aZ):MK (fun q=>if q = k then some (.str n) else get q) fun q m=>P q m \/ (q = k /\ m = n):=fun q=>by
 by_cases hq:q = k
 ·exact .inr ⟨n,.inr ⟨hq,rfl⟩,if_pos hq⟩
 ·rcases h q with ⟨h1,h2⟩ | ⟨m,h1,h2⟩
  ·exact .inl ⟨(if_neg hq).trans h1,fun m hm=>hm.elim (h2 m) fun g=>hq g.1⟩
  ·exact .inr ⟨m,.inl h1,(if_neg hq).trans h2⟩
theorem MK.congr {get:aZ -> Option V} {P Q:aZ -> aZ -> Prop} (h:MK get P) (e:∀ k n,P k n ↔ Q k n):MK get Q:=fun k=>by
 rcases h k with ⟨h1,h2⟩ | ⟨n,h1,h2⟩
 ·exact .inl ⟨h1,fun n hn=>h2 n ((e k n).2 hn)⟩
 ·exact .inr ⟨n,(e k n).1 h1,h2⟩
theorem PI (h:bM E) {Z:Sg} {x:V} {es:List (V × V)} {get:aZ -> Option V} (hx:entriesOf Z x = some es) (hs:SM E es get) (k:aZ):lookup E Z 104 x (.str k) true = some (match get k with | some v=>.fS [v,.bool true] | none=>.fS [.str [],.bool false]):=by
 have hk:dU E 9 (.str k) = true:=by unfold dU; rw [h.cN]
 unfold Ax.lookup
 simp only [h.zU,h.cN,hk,hx,hs.2 k,Bool.not_true,Bool.false_eq_true,if_false]
 cases get k <;> rfl
theorem RC (h:bM E) {Z:Sg} {b:Nat} {es:List (V × V)} {get:aZ -> Option V} (hb:Z[b]? = some (.map es)) (hs:SM E es get) (k n:aZ):∃ es',mapUpdate E Z 104 (.mp b) (.str k) (.str n) = some (Z.set b (.map es')) /\ SM E es' fun q=>if q = k then some (.str n) else get q:=by
 obtain ⟨es',h1,h2⟩:=Ex h (v:=.str n) k rfl hs
 have hk:dU E 9 (.str k) = true:=by unfold dU; rw [h.cN]
 refine ⟨es',?_,h2⟩
 unfold Ax.mapUpdate
 simp only [h.zU,hk,hb,h1,eX,V.aX,Bool.not_true,Bool.or_self,Bool.false_eq_true,if_false,Option.map_some]
def Mk (rs:List aG) (k n:aZ):Prop:=∃ r ∈ rs,k ∈ r.outs /\ n = r.name
theorem J7 {rs:List aG} {i:Nat} {r:aG} (hr:rs[i]? = some r) (k n:aZ):Mk (rs.take (i + 1)) k n ↔ Mk (rs.take i) k n \/ (k ∈ r.outs /\ n = r.name):=by
 unfold Mk
 rw [List.take_add_one,hr]
 simp only [List.mem_append,Option.toList_some,List.mem_singleton]
 constructor
 ·rintro ⟨q,hq | rfl,h⟩
  ·exact .inl ⟨q,hq,h⟩
  ·exact .inr h
 ·rintro (⟨q,hq,h⟩ | h)
  ·exact ⟨q,.inl hq,h⟩
  ·exact ⟨r,.inr rfl,h⟩
theorem Vt (h:bM E) {a:V} {rs:List aG} (ia:IS dS a rs) (hs:∀ x ∈ rs,Small x) (hl:rs.length <= 4294967296) (F:FT) (g0:F.get 0 = a) (g3:F.get 3 = .mp 0)
  (hk:∀ F' Y es get,F'.get 0 = a -> F'.get 3 = .mp 0 -> Y[0]? = some (.map es) -> SM E es get -> MK get (Mk rs) -> R E (cutAt [1,1,1] (aA Tryz.f147).code) [] ⟨74,F'⟩ Y (mI E (aA Tryz.f147).results K)) :
  R E (cutAt [1,1] (aA Tryz.f147).code) [] ⟨74,F⟩ [.map []] (mI E (aA Tryz.f147).results K):=by
 have la:=cK h ia
 rw [show cutAt [1,1] (aA Tryz.f147).code = .seq (cutAt [1,1,0] (aA Tryz.f147).code) (cutAt [1,1,1] (aA Tryz.f147).code) from rfl]
 generalize cutAt [1,1,1] (aA Tryz.f147).code = C at hk ⊢
 simp only [aA,Tryz.f147,KP,↓reduceIte,Nat.reduceLT,cutAt,g0,la]
 refine aR (fun i F Y=>F.get 0 = a /\ F.get 3 = .mp 0 /\ F.get 17 = a /\ F.get 18 = .int .i64 (rs.length:Int) /\ F.get 19 = .int .i64 (i:Int) /\ ∃ es get,Y[0]? = some (.map es) /\ SM E es get /\ MK get (Mk (rs.take i))) rs.length ?_ ?_ rs.length 0 _ _ (by omega) (lY (by simp +decide only [GS,g0,g3,and_self]) ⟨[],fun _=>none,rfl,HO,MK.nil.congr fun k n=>⟨fun h=>h.elim,fun ⟨r,hr,_⟩=>by cases hr⟩⟩)
 ·rintro i F Y hi ⟨g0,g3,g17,g18,g19,es,get,hb,hsm,hmk⟩ next
  obtain ⟨r,hr⟩:∃ y,rs[i]? = some y:=⟨_,List.getElem?_eq_getElem hi⟩
  obtain ⟨g,p1,p2,p3,p4,e1,i1,i2,i3,i4⟩:=eL h ia hr
  have hsr:=hs r (List.mem_of_getElem? hr)
  have a2:=hsr.outs
  have o1:=aJ i1.bE
  have o2:=aJ i2.bE
  have o3:=aJ i3.bE
  have o4:=aJ i4.bE
  have hlt:=dN hi
  have hadd:=bV i (by omega)
  have lo:=bL h i2
  have hb1:=aP (x:=O.cells 37 [.str r.name,p1,p2,p3,p4] true) hb
  have s1:(Y ++ [O.cells 37 [.str r.name,p1,p2,p3,p4] true])[Y.length]? = some (O.cells 37 [.str r.name,p1,p2,p3,p4] true):=aN
  rw [aF]
  simp only [KP,Ax.loadAt,Ax.storeAt,↓reduceIte,Nat.reduceEqDiff,Nat.reduceLT,Nat.reduceAdd,reduceCtorEq,h.aV,h.bI,g17,g18,g19,hlt,e1,o1,o2,o3,o4,aN,cF]
  generalize Y ++ [O.cells 37 [.str r.name,p1,p2,p3,p4] true] = τ1 at *
  generalize Y.length = y at *
  simp only [KP,↓reduceIte,Nat.reduceLT,lo]
  refine aR (fun j F Y=>F.get 0 = a /\ F.get 3 = .mp 0 /\ F.get 17 = a /\ F.get 18 = .int .i64 (rs.length:Int) /\ F.get 19 = .int .i64 (i:Int) /\ F.get 5 = .ref y 0 /\ F.get 24 = p2 /\ F.get 25 = .int .i64 (r.outs.length:Int) /\ F.get 26 = .int .i64 (j:Int) /\ Y[y]? = some (O.cells 37 [.str r.name,p1,p2,p3,p4] true) /\ ∃ es get,Y[0]? = some (.map es) /\ SM E es get /\ MK get fun k n=>Mk (rs.take i) k n \/ (k ∈ r.outs.take j /\ n = r.name)) r.outs.length ?_ ?_ r.outs.length 0 _ _ (by omega) (Au (by simp +decide only [GS,g0,g3,g17,g18,g19,and_self]) ⟨s1,es,get,hb1,hsm,hmk.congr fun k n=>by simp⟩)
  ·rintro j F Y hj ⟨g0,g3,g17,g18,g19,g5,g24,g25,g26,s1,es,get,hb,hsm,hmk⟩ next2
   obtain ⟨s,hsj⟩:∃ y,r.outs[j]? = some y:=⟨_,List.getElem?_eq_getElem hj⟩
   obtain ⟨g',e2⟩:=fI h i2 hsj
   have hlt2:=dN hj
   have hadd2:=bV j (by omega)
   obtain ⟨es',hu,hsm'⟩:=RC h hb hsm s r.name
   have hy0:0 ≠ y:=pA hb s1 (by intro e; cases e)
   rw [aF]
   simp only [KP,Ax.loadAt,↓reduceIte,Nat.reduceEqDiff,Nat.reduceLT,reduceCtorEq,h.cN,h.bI,g3,g5,g24,g25,g26,hlt2,e2,s1,hu,hadd2]
   refine next2 _ _ (Au (by simp +decide only [GS,g0,g3,g17,g18,g19,g5,g24,g25,and_self]) ⟨by rw [List.getElem?_set_ne hy0]; exact s1,es',_,by rw [List.getElem?_set_self (List.getElem?_eq_some_iff.1 hb).1],hsm',(hmk.put s r.name).congr fun k n=>?_⟩)
   rw [fJ hsj]
   constructor
   ·rintro ((h1 | h1) | h1)
    ·exact .inl h1
    ·exact .inr ⟨.inl h1.1,h1.2⟩
    ·exact .inr ⟨.inr h1.1,h1.2⟩
   ·rintro (h1 | ⟨h1 | h1,h2⟩)
    ·exact .inl (.inl h1)
    ·exact .inl (.inr ⟨h1,h2⟩)
    ·exact .inr ⟨h1,h2⟩
  ·rintro F Y ⟨g0,g3,g17,g18,g19,g5,g24,g25,g26,s1,es,get,hb,hsm,hmk⟩
   rw [List.take_of_length_le (Nat.le_refl _)] at hmk
   have hlt2:=dQ (Nat.lt_irrefl r.outs.length)
   rw [aF]
   simp only [KP,↓reduceIte,Nat.reduceEqDiff,Nat.reduceLT,g19,g25,g26,hlt2,hadd]
   exact next _ _ (lY (by simp +decide only [GS,g0,g3,g17,g18,and_self]) ⟨es,get,hb,hsm,hmk.congr fun k n=>(J7 hr k n).symm⟩)
 ·rintro F Y ⟨g0,g3,g17,g18,g19,es,get,hb,hsm,hmk⟩
  rw [List.take_of_length_le (Nat.le_refl _)] at hmk
  have hlt:=dQ (Nat.lt_irrefl rs.length)
  rw [aF]
  simp only [KP,↓reduceIte,Nat.reduceLT,g18,g19,hlt]
  exact hk _ _ es get (by simp +decide only [GS,g0]) (by simp +decide only [GS,g3]) hb hsm hmk
end
end
section
section
variable {E:Env} {Z:Sg} {K:V -> Sg -> Prop}
theorem OL.keep {Z Y:Sg} {v:V} {l:List aZ} (h:OL Z v l) (k:∀ (c:Nat) (o:O),aT v = some c -> Z[c]? = some o -> Y[c]? = some o):OL Y v l:=by
 rcases h with h | ⟨b,cs,ex,rfl,hb,ht⟩
 ·exact .inl h
 ·exact .inr ⟨b,cs,ex,rfl,k b _ rfl hb,ht⟩
theorem OL.ok {Z:Sg} {v:V} {l:List aZ} (h:OL Z v l):eX v = true:=by
 rcases h with ⟨rfl,-⟩ | ⟨b,cs,ex,rfl,-⟩ <;> rfl
def Rv (v:V) (l:List aZ):Prop:=(v = .aC /\ l = []) \/ ∃ full,v = .bQ false (l.map fun s=>[V.str s]) full
theorem nZ:∀ l:List aZ,Ax.rows 1 l.length (l.map V.str) = l.map fun s=>[V.str s]
 | []=>rfl
 | s :: l=>by
  rw [List.length_cons,List.map_cons,Ax.rows,List.map_cons]
  exact congrArg _ (nZ l)
theorem OL.snap (h:bM E) {Z:Sg} {v:V} {l:List aZ} {m:Nat} (ho:OL Z v l):∃ v',bR Z E.ty false (m + 2) v = some v' /\ Rv v' l:=by
 rcases ho with ⟨rfl,rfl⟩ | ⟨b,cs,ex,rfl,hb,ht⟩
 ·exact ⟨.aC,rfl,.inl ⟨rfl,rfl⟩⟩
 ·have hle:l.length <= cs.length:=by
   have:=congrArg List.length ht
   rw [List.length_take,List.length_map] at this
   omega
  have ht1:cs.take (l.length * 1) = l.map V.str:=by rw [Nat.mul_one]; exact ht
  obtain ⟨full,e⟩:=FH (g:=false) (n:=l.length) (m:=m) hb h.cN (show l.length * 1 <= _ by omega) (fun c hcm=>by
   rw [show cs.take (l.length * 1) = l.map V.str from ht1] at hcm
   obtain ⟨s,-,rfl⟩:=List.mem_map.1 hcm
   exact ⟨rfl,rfl⟩)
  refine ⟨_,e,.inr ⟨full,?_⟩⟩
  show V.bQ false (Ax.rows 1 l.length (cs.take (l.length * 1))) full = _
  rw [ht1,nZ]
theorem Rv.tag {v:V} {l:List aZ} (h:Rv v l):cP false v = true:=by
 rcases h with ⟨rfl,-⟩ | ⟨full,rfl⟩ <;> rfl
def CW (Y:Sg) (N:aG -> aZ -> Prop) (es:List (V × V)) (rs:List aG):Prop:=eT (fun e r=>e.1 = V.str r.name /\ ∃ l,OL Y e.2 l /\ l.length <= 1000000 /\ ∀ x,x ∈ l ↔ N r x) es rs
def AR (N:aG -> aZ -> Prop) (es:List (V × V)) (rs:List aG):Prop:=eT (fun e r=>e.1 = V.str r.name /\ ∃ l,Rv e.2 l /\ l.length <= 1000000 /\ ∀ x,x ∈ l ↔ N r x) es rs
theorem CW.keep {Z Y:Sg} {N:aG -> aZ -> Prop} {mA:Nat} {em:List (V × V)} {es:List (V × V)} {rs:List aG} (h:CW Z N es rs) (hm:Z[mA]? = some (.map em)) (k:∀ (c:Nat) (o:O),Z[c]? = some o -> c ≠ mA -> Y[c]? = some o):CW Y N es rs:=by
 refine eT.imp h fun e r ⟨h1,l,h2,h3⟩=>⟨h1,l,h2.keep fun c o hc ho=>k c o ho ?_,h3⟩
 rintro rfl
 rcases h2 with ⟨e0,-⟩ | ⟨b,cs,ex,e0,hb,-⟩
 ·rw [e0] at hc; cases hc
 ·rw [e0] at hc
  cases hc
  rw [hm] at hb
  cases hb
theorem BP (h:bM E) {k:aZ} {v:V}:∀ {es:List (V × V)},(∀ e ∈ es,∃ q,e.1 = V.str q /\ q ≠ k) -> kF (eN E 9) (.str k) v es = some (es ++ [(.str k,v)])
 | [],_=>rfl
 | (k0,v0) :: es,hs=>by
  obtain ⟨q,e1,hq⟩:=hs _ (List.mem_cons_self ..)
  dsimp only at e1
  subst e1
  rw [kF,bW h,fT (Ne.symm hq)]
  simp only [BP h fun e he=>hs e (List.mem_cons_of_mem _ he)]
  rfl
theorem O3 (h:bM E) {Y:Sg} {b:Nat} {N:aG -> aZ -> Prop} {es:List (V × V)} {rs:List aG} {r:aG} {v:V} {l:List aZ} (hb:Y[b]? = some (.map es)) (ha:CW Y N es rs) (hn:∀ q ∈ rs,q.name ≠ r.name) (hv:OL Y v l) (hl:l.length <= 1000000) (hm:∀ x,x ∈ l ↔ N r x) :
  mapUpdate E Y 96 (.mp b) (.str r.name) v = some (Y.set b (.map (es ++ [(.str r.name,v)]))) /\ CW (Y.set b (.map (es ++ [(.str r.name,v)]))) N (es ++ [(.str r.name,v)]) (rs ++ [r]):=by
 have hk:dU E 9 (.str r.name) = true:=by unfold dU; rw [h.cN]
 have hp:=BP (v:=v) (k:=r.name) h (es:=es) fun e he=>by
  obtain ⟨q,hq,h1,-⟩:=eT.mem ha he
  exact ⟨q.name,h1,hn q hq⟩
 have hkeep:∀ (c:Nat) (o:O),Y[c]? = some o -> c ≠ b -> (Y.set b (.map (es ++ [(.str r.name,v)])))[c]? = some o:=fun c o hc hcb=>by
  rw [List.getElem?_set_ne (Ne.symm hcb)]; exact hc
 refine ⟨?_,?_⟩
 ·unfold Ax.mapUpdate
  simp only [h.ty96,hk,hb,hp,hv.ok,Bool.not_true,Bool.or_self,Bool.false_eq_true,if_false,Option.map_some]
 ·refine eT.append (ha.keep hb hkeep) (.cons ⟨rfl,l,hv.keep fun c o hc ho=>hkeep c o ho ?_,hl,hm⟩ .nil)
  rintro rfl
  rcases hv with ⟨e0,-⟩ | ⟨b',cs,ex,e0,hb',-⟩
  ·rw [e0] at hc; cases hc
  ·rw [e0] at hc
   cases hc
   rw [hb] at hb'
   cases hb'
theorem MF (h:bM E) {Y:Sg} {b:Nat} {N:aG -> aZ -> Prop} {es:List (V × V)} {rs:List aG} (hb:Y[b]? = some (.map es)) (ha:CW Y N es rs):∃ es',cW Y E.ty false (.mp b) = some (.imp false es') /\ AR N es' rs:=by
 have key:∀ {es:List (V × V)} {rs:List aG},CW Y N es rs -> ∃ es',aW (fun (e:V × V)=>if e.1.cells.all Ax.plainCell then (match e.2 with
   | .agg cs=>match aW (fun v=>match bR Y E.ty false 11 v with
     | some v=>if cP false v then some v else Ax.no "snap: borrowed"
     | none=>none) cs with
    | some cs=>some (e.1,V.agg cs)
    | none=>none
   | v=>match (match bR Y E.ty false 11 v with
     | some v=>if cP false v then some v else Ax.no "snap: borrowed"
     | none=>none) with
    | some v=>some (e.1,v)
    | none=>none) else none) es = some es' /\ AR N es' rs:=by
  intro es rs ha
  induction ha with
  | nil=>exact ⟨[],rfl,.nil⟩
  | @cons e r es rs h1 _ ih=>
   obtain ⟨es',e1,a1⟩:=ih
   obtain ⟨a,v⟩:=e
   obtain ⟨h2,l,h3,h4,h5⟩:=h1
   dsimp only at h2 h3
   subst h2
   obtain ⟨v',e2,sv⟩:=h3.snap (m:=9) h
   refine ⟨(.str r.name,v') :: es',?_,.cons ⟨rfl,l,sv,h4,h5⟩ a1⟩
   rw [aW]
   have hpc:(V.str r.name).cells.all Ax.plainCell = true:=rfl
   have ht:=sv.tag
   rcases h3 with ⟨rfl,-⟩ | ⟨b',cs,ex,rfl,-⟩
   ·simp only [hpc,if_true,e2,ht,e1]
   ·simp only [hpc,if_true,e2,ht,e1]
 obtain ⟨es',e1,a1⟩:=key ha
 refine ⟨es',?_,a1⟩
 have e:bR Y E.ty false 12 (.mp b) = some (.imp false es'):=by
  rw [bR]
  simp only [hb]
  exact congrArg (fun o=>match o with
   | some l=>some (V.imp false l)
   | none=>none) e1
 show aY.one Y E.ty false (.mp b) = _
 unfold aY.one
 rw [show dY = 12 from rfl,e]
 rfl
end
end
section
section
variable {E:Env} {Z:Sg} {K:V -> Sg -> Prop}
theorem Sq (h:bM E) {τ0 Y:Sg} {w p1 p2 p3 p4:V} {l:List aZ} {r:aG} {y mA:Nat} {es:List (V × V)} {N:aG -> aZ -> Prop} {rs:List aG} (ow:bD aK 9 Y w l) (hl:l.length <= 1000000) (kp:Kp τ0 Y) (fr:∀ b,aT w = some b -> τ0.length <= b) (hy:τ0[y]? = some (O.cells 37 [.str r.name,p1,p2,p3,p4] true)) (hA:τ0[mA]? = some (.map es)) (ha:CW τ0 N es rs) (hn:∀ q ∈ rs,q.name ≠ r.name) (hm:∀ x,x ∈ l ↔ N r x)
  (F:FT) (g8:F.get 8 = .mp mA) (g10:F.get 10 = .ref y 0) (g11:F.get 11 = w) {st:List kH} {Q:Ax.X -> Fr -> Sg -> Prop}
  (hk:∀ F' τ' es',(∀ k,k ∈ [0,3,8,37,38,39] -> F'.get k = F.get k) -> τ'[mA]? = some (.map es') -> CW τ' N es' (rs ++ [r]) -> (∀ (c:Nat) (o:O),τ0[c]? = some o -> c ≠ mA -> τ'[c]? = some o) -> M E st .normal ⟨74,F'⟩ τ' Q):R E (.region 24 (opsOf (cutAt [1,1,1,1,0,1,2,2,1,1,0,2,1,1,1,1] (aA Tryz.f147).code)) true) st ⟨74,F⟩ Y Q:=by
 obtain ⟨n,v,τ1,hcall,⟨l',ol,hle,hmem⟩,hbk,sp,hlen⟩:=LH h ow hl
 have kp1:Kp τ0 τ1:=fun c o hc=>sp c o (kp c o hc) fun e=>absurd (List.getElem?_eq_some_iff.1 hc).1 (by have:=fr c e; omega)
 have hy0:=kp _ _ hy
 have hy1:=kp1 _ _ hy
 have hA1:=kp1 _ _ hA
 obtain ⟨hu,ha2⟩:=O3 h hA1 (ha.keep hA fun c o hc _=>kp1 c o hc) hn ol (by omega) (fun x=>(hmem x).trans (hm x))
 have vs:=zT 11 r.name
 have key:∃ F',cI E (ev E n) (opsOf (cutAt [1,1,1,1,0,1,2,2,1,1,0,2,1,1,1,1] (aA Tryz.f147).code)) ⟨74,F⟩ Y = some (⟨74,F'⟩,τ1.set mA (.map (es ++ [(.str r.name,v)]))) /\ (∀ k,k ∈ [0,3,8,37,38,39] -> F'.get k = F.get k):=by
  unfold cI
  rw [h.OW,h.Pv]
  simp only [aA,Tryz.f147,KP,Ax.loadAt,↓reduceIte,Nat.reduceEqDiff,Nat.reduceLT,Nat.reduceAdd,reduceCtorEq,h.cN,h.bI,opsOf,cutAt,iC,bK,bZ,kD,Ax.comp,Ax.last,iG,Ax.again,aQ,g8,g10,g11,hy0,hy1,hcall,hu,vs]
  refine ⟨_,rfl,fun k hk=>?_⟩
  simp only [List.mem_cons,List.not_mem_nil,or_false] at hk
  rcases hk with rfl | rfl | rfl | rfl | rfl | rfl <;> simp +decide only [GS]
 obtain ⟨F',hD,h1⟩:=key
 refine Eq.mpr (iZ hD) (hk F' _ _ h1 (by rw [List.getElem?_set_self (List.getElem?_eq_some_iff.1 hA1).1]) ha2 fun c o hc hcm=>?_)
 rw [List.getElem?_set_ne (Ne.symm hcm)]
 exact kp1 c o hc
end
end
end Go.Proofs.YtlbbdpkjeeiahaaGreatDoor
end
