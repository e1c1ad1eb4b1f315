/- Part 17 of the proof's own texts (pressed by a program of its author's). -/
import Derived.Test.YtlbbdpkjeeiahaaGreatDoorZ16
import Derived.Test.YtlbbdpkjeeiahaaGreatDoorZ15
section
set_option maxRecDepth 10000
set_option maxHeartbeats 8000000
set_option linter.unusedVariables false
namespace Go.Proofs.YtlbbdpkjeeiahaaGreatDoor
open Go Go.Ax Go.AxS
section
section
variable {E:Env} {Z:Sg} {K:V -> Sg -> Prop}
theorem Q_ (m b o n:Nat):sJ (m + 1) (.sl b o n none) (.sl b o n none) = true:=by
 show (decide (b = b) && decide (o = o) && decide (n = n)) = true
 simp
theorem IM (h:bK E) {Y:Sg} {b:Nat} {ex:Bool} {rs:List (List V)} (hl:∀ r ∈ rs,r.length = 5) (hb:Y[b]? = some (.cells 75 rs.flatten ex)) {i:Nat} {r:List V} (hr:rs[i]? = some r) {k:Nat} (hk:k < 5) {u:V} (hu:Ax.bB u = true) :
  storeAt E Y 28 (.ref b (i * 5 + k)) u = some (Y.set b (.cells 75 (rs.set i (r.set k u)).flatten ex)):=by
 have hil:=(List.getElem?_eq_some_iff.1 hr).1
 have hfl:rs.flatten.length = rs.length * 5:=mS rs hl
 unfold storeAt
 simp only [h.aX,hb]
 rw [iR hu,if_pos (by simp only [List.length_cons,List.length_nil,List.all_cons,List.all_nil,aI hu,Bool.and_true,Bool.and_eq_true,decide_eq_true_eq]; exact ⟨rfl,by omega⟩),Mz hl hr hk]
theorem Jv (h:bK E) {Y:Sg} {b:Nat} {ex:Bool} {rs:List (List V)} (hl:∀ r ∈ rs,r.length = 5) (hb:Y[b]? = some (.cells 75 rs.flatten ex)) {i:Nat} {r:List V} (hr:rs[i]? = some r) {k:Nat} (hk:k < 5) {u:V} (hu:r[k]? = some u):loadAt E Y 28 (.ref b (i * 5 + k)) = some u:=by
 unfold loadAt
 simp only [h.aX,hb,Ax.isAgg,Bool.false_eq_true,if_false]
 rw [oM rs hl i r hr k hk,hu]
theorem M7 (h:bK E) {l:List AxS.Step} {s:AxS.Step} {nm:bA} {a' b' c' w:V} {Y:Sg} {i:Nat} (hi:l[i]? = some s) (x0:Y[2]? = some (O.cells 37 [.str nm,a',b',c',w] true)) (ow:bO f_ 75 Y w l) (F:FT) (g1:F.get 2 = .ref 1 0) (g3:F.get 3 = .ref 2 0) (g4:F.get 4 = .int .i64 (i:Int)) {st:List mE} {Q:Ax.X -> Fr -> Sg -> Prop}
  (hk:∀ F' τ',(∀ k,k < 44 -> F'.get k = F.get k) -> bO f_ 75 τ' w (l.set i (AQ s)) -> Sp Y τ' w -> M E st .normal ⟨86,F'⟩ τ' Q):R E (.region 6 (opsOf (cutAt [1,1,1,0,1,2,2,1,1,0,2,1] (aA Tryz.f59).code)) true) st ⟨86,F⟩ Y Q:=by
 have hil:=(List.getElem?_eq_some_iff.1 hi).1
 rcases ow with ⟨rfl,rfl⟩ | ⟨b,rs,ex,rfl,hb,ha⟩
 ·cases hi
 obtain ⟨r,hr,hP⟩:=ha.get i s hi
 obtain ⟨p,q,rfl,ip,iq⟩:=hP
 have hls:=Lay.lens ha
 have hls:∀ r ∈ rs,r.length = 5:=hls
 obtain ⟨p1,e1,ip1⟩:=D4 h ip 8
 obtain ⟨q1,e2,iq1⟩:=D4 h iq 3
 have lp:=bL h ip.is
 have lq:=bL h iq.is
 have m1:=DK s.args.length 8
 have m2:=DK s.lits.length 3
 have m1:jI false .i64 (s.args.length:Int) [.int .i64 8] = some ((min s.args.length 8:Nat):Int):=m1
 have m2:jI false .i64 (s.lits.length:Int) [.int .i64 3] = some ((min s.lits.length 3:Nat):Int):=m2
 have ix:indexAddr E 35 (.sl b 0 l.length none) (.int .i64 (i:Int)) = some (.ref b (i * 5)):=by
  have hneg:¬ ((i:Int) < 0):=by omega
  unfold indexAddr
  simp only [hneg,if_false,h.fH,h.cN,Int.toNat_natCast,hil,if_true,Nat.zero_add]
 have d1:=Jv h hls hb hr (k:=2) (by omega) (u:=p) rfl
 have d2:=Jv h hls hb hr (k:=3) (by omega) (u:=q) rfl
 have s1:=IM h hls hb hr (k:=2) (by omega) (u:=p1) ip1.is.bB
 have hbl:=(List.getElem?_eq_some_iff.1 hb).1
 have hrl:=(List.getElem?_eq_some_iff.1 hr).1
 have hr1:(rs.set i [.str s.out,.int .i64 s.op,p1,q,.int .i64 s.n])[i]? = some [.str s.out,.int .i64 s.op,p1,q,.int .i64 s.n]:=List.getElem?_set_self hrl
 have ha1:eT f_.P (rs.set i [.str s.out,.int .i64 s.op,p1,q,.int .i64 s.n]) (l.set i { s with args:=s.args.take 8 }):=ha.set (y:={ s with args:=s.args.take 8 }) ⟨p1,q,rfl,ip1,iq⟩ i
 have hls1:∀ r ∈ rs.set i [.str s.out,.int .i64 s.op,p1,q,.int .i64 s.n],r.length = 5:=Lay.lens ha1
 have s1:storeAt E Y 28 (.ref b (i * 5 + 2)) p1 = some (Y.set b (.cells 75 (rs.set i [.str s.out,.int .i64 s.op,p1,q,.int .i64 s.n]).flatten ex)):=s1
 have hb1:(Y.set b (.cells 75 (rs.set i [.str s.out,.int .i64 s.op,p1,q,.int .i64 s.n]).flatten ex))[b]? = some (.cells 75 (rs.set i [.str s.out,.int .i64 s.op,p1,q,.int .i64 s.n]).flatten ex):=uC hb
 have s2:=IM h hls1 hb1 hr1 (k:=3) (by omega) (u:=q1) iq1.is.bB
 have hb2:b ≠ 2:=fun e=>by subst e; rw [hb] at x0; cases x0
 have x1:(Y.set b (.cells 75 (rs.set i [.str s.out,.int .i64 s.op,p1,q,.int .i64 s.n]).flatten ex))[2]? = some (O.cells 37 [.str nm,a',b',c',.sl b 0 l.length none] true):=pG x0 hb2
 have ldx:∀ Y:Sg,Y[2]? = some (O.cells 37 [.str nm,a',b',c',.sl b 0 l.length none] true) -> loadAt E Y 35 (.ref 2 4) = some (.sl b 0 l.length none):=fun Y hx=>by
  unfold loadAt
  simp only [h.fH,hx,Ax.isAgg,Bool.false_eq_true,if_false]
  rfl
 have w0:=ldx _ x0
 have w1:=ldx _ x1
 have v1:=Q_ 11 b 0 l.length
 have v2:=fun k i=>IJ 11 k i
 have v3:=b_ 10 iq1.is
 generalize hτ1:Y.set b (.cells 75 (rs.set i [.str s.out,.int .i64 s.op,p1,q,.int .i64 s.n]).flatten ex) = τ1 at *
 have key:∃ F',cG E (ev E 0) (opsOf (cutAt [1,1,1,0,1,2,2,1,1,0,2,1] (aA Tryz.f59).code)) ⟨86,F⟩ Y = some (⟨86,F'⟩,τ1.set b (.cells 75 ((rs.set i [.str s.out,.int .i64 s.op,p1,q,.int .i64 s.n]).set i ([V.str s.out,.int .i64 s.op,p1,q,.int .i64 s.n].set 3 q1)).flatten ex)) /\ ∀ k,k < 44 -> F'.get k = F.get k:=by
  unfold cG
  rw [h.Tq,h.UQ]
  simp only [aA,Tryz.f59,KP,↓reduceIte,Nat.reduceEqDiff,Nat.reduceLT,Nat.reduceAdd,reduceCtorEq,h.aX,h.fH,h.bG,h.cN,opsOf,cutAt,iD,bH,bY,kB,Ax.comp,Ax.last,iG,Ax.again,aP,g3,g4,w0,w1,ix,d1,d2,lp,lq,m1,m2,e1,e2,s1,s2,v1,v2,v3]
  refine ⟨_,rfl,fun k hk=>?_⟩
  simp only [FT.jQ]
  repeat rw [if_neg (by omega)]
 obtain ⟨F',hE,hF⟩:=key
 refine Eq.mpr (iX hE) (hk F' _ hF ?_ ?_)
 ·have hn:(l.set i (AQ s)).length = l.length:=List.length_set
  refine .inr ⟨b,_,ex,by rw [hn],uC hb1,?_⟩
  rw [List.set_set]
  exact ha.set (y:=AQ s) ⟨p1,q1,rfl,ip1,iq1⟩ i
 ·intro c o e hne
  have hcb:b ≠ c:=fun e2=>hne (by rw [e2]; rfl)
  rw [<- hτ1,List.set_set,List.getElem?_set_ne hcb]; exact e
theorem EG {l:List AxS.Step} {i:Nat} {s:AxS.Step} (hi:l[i]? = some s):((l.take i).map AQ ++ l.drop i).set i (AQ s) = (l.take (i + 1)).map AQ ++ l.drop (i + 1):=by
 have hil:=(List.getElem?_eq_some_iff.1 hi).1
 have h1:((l.take i).map AQ).length = i:=by rw [List.length_map,List.length_take]; omega
 rw [List.set_append_right _ _ (by omega),h1,Nat.sub_self,List.drop_eq_getElem_cons hil,List.set_cons_zero,List.take_add_one,hi]
 simp
theorem Ls (h:bK E) {v:V} {x:aF} (hv:G_ v x) (hx:Raw x):aB E 59 [v] Z fun v' σ'=>σ' = Z /\ ∃ a b c d,v' = .agg [.str x.name,a,b,c,d] /\ jY aK a (cut x).ins /\ jY aK b (cut x).outs /\ jY aK c (cut x).after /\ jY f_ d (cut x).steps:=by
 have ev:=hv.snap (E:=E) Z
 obtain ⟨a,b,c,d,rfl,ia,ib,ic,id⟩:=hv
 rw [aH h.hs59 h.sp59 h.fn59 h.md59 (args':=[.agg [.str x.name,a,b,c,d]]) (by simp only [aU,ev]),aW (by kernel_rfl)]
 have ha:=aI ia.bB
 have hb:=aI ib.bB
 have hc:=aI ic.bB
 have hd:=aI id.bB
 simp only [aA,Tryz.f59,KP,↓reduceIte,Nat.reduceLT,Nat.reduceAdd,h.bG,ha,hb,hc,hd]
 refine M8 h ia ib ic id _ ?_ ?_ ?_
 ·exact (by simp +decide only [GS])
 ·exact (by simp +decide only [GS])
 intro F1 a1 b1 c1 d1 g1 g2 g3 i1 i2 i3 i4
 simp only [KP,Ax.loadAt,↓reduceIte,Nat.reduceLT,Nat.reduceAdd,h.bG,g3]
 refine aL (S8 h (x:=qH x) ⟨a1,b1,c1,d1,rfl,i1,i2,i3,i4⟩ hx.mid) ?_
 rintro v1 Y ⟨⟨a2,b2,c2,w,rfl,j1,j2,j3,ow,hw⟩,kp⟩
 have o1:=aI j1.is.bB
 have o2:=aI j2.is.bB
 have o3:=aI j3.is.bB
 obtain ⟨hc1,hc2⟩:=pU ow
 have z0:Y[1]? = some (O.cells 37 [.str [],.aD,.aD,.aD,.aD] true):=kp 1 _ rfl
 have x0:=kp 2 _ (show ([O.cells 37 [.str x.name,a,b,c,d] true,O.cells 37 [.str [],.aD,.aD,.aD,.aD] true,O.cells 37 [.str x.name,a1,b1,c1,d1] true]:Sg)[2]? = _ from rfl)
 have hw3:∀ k,bC w = some k -> 3 <= k:=hw
 have x1:=uC (x:=O.cells 37 [.str x.name,a2,b2,c2,w] true) x0
 have z1:=pG (x:=O.cells 37 [.str x.name,a2,b2,c2,w] true) z0 (show (2:Nat) ≠ 1 by omega)
 have ow1:bO f_ 75 (Y.set 2 (O.cells 37 [.str x.name,a2,b2,c2,w] true)) w (qH x).steps:=ow.keep fun k o hk ho=>pG ho (fun e=>by have:=hw3 k hk; omega)
 have nm0:(qH x).name = x.name:=rfl
 have lw:∀ l:List AxS.Step,l.length = (qH x).steps.length -> ∀ Z,bO f_ 75 Z w l -> lenOf E Z 35 w = some (qH x).steps.length:=fun l hl Z o=>by rw [<- hl]; exact rC h.fH rfl o.ls
 have lw1:=lw _ rfl _ ow1
 simp only [KP,Ax.loadAt,Ax.storeAt,↓reduceIte,Nat.reduceEqDiff,Nat.reduceLT,Nat.reduceAdd,reduceCtorEq,h.fH,h.bG,g3,nm0,x0,x1,lw1,o1,o2,o3,hc2]
 generalize Y.set 2 (O.cells 37 [.str x.name,a2,b2,c2,w] true) = Y at *
 refine aS (fun i F Y=>Y[1]? = some (O.cells 37 [.str [],.aD,.aD,.aD,.aD] true) /\ Y[2]? = some (O.cells 37 [.str x.name,a2,b2,c2,w] true) /\ bO f_ 75 Y w (((qH x).steps.take i).map AQ ++ (qH x).steps.drop i) /\ F.get 2 = .ref 1 0 /\ F.get 3 = .ref 2 0 /\ F.get 40 = .int .i64 ((qH x).steps.length:Int) /\ F.get 41 = .int .i64 (i:Int)) (qH x).steps.length ?_ ?_ (qH x).steps.length 0 _ _ (by omega) ⟨z1,x1,by simpa using ow1,(by simp +decide only [GS,g2,g3,and_self])⟩
 ·rintro i F Y hi ⟨z0,x0,ow,g2,g3,g40,g41⟩ next
  obtain ⟨s,hst⟩:∃ y,(qH x).steps[i]? = some y:=⟨_,List.getElem?_eq_getElem hi⟩
  have hlt:=eD hi
  have hsz:(qH x).steps.length <= 14:=by show (x.steps.take 14).length <= 14; rw [List.length_take]; omega
  have hadd:=bX i (by omega)
  have hli:(((qH x).steps.take i).map AQ ++ (qH x).steps.drop i)[i]? = some s:=by
   rw [List.getElem?_append_right (by rw [List.length_map,List.length_take]; omega),List.length_map,List.length_take,show i - min i (qH x).steps.length = 0 by omega,List.getElem?_drop,Nat.add_zero,hst]
  rw [aG]
  simp only [KP,↓reduceIte,Nat.reduceEqDiff,Nat.reduceLT,g40,g41,hlt]
  refine M7 h hli x0 ow _ ?_ ?_ ?_ ?_
  ·exact (by simp +decide only [GS,g2])
  ·exact (by simp +decide only [GS,g3])
  ·exact (by simp +decide only [GS])
  intro F2 τ2 hF ow2 sp
  have k2:F2.get 2 = .ref 1 0:=by rw [hF 2 (by omega)]; exact (by simp +decide only [GS,g2])
  have k3:F2.get 3 = .ref 2 0:=by rw [hF 3 (by omega)]; exact (by simp +decide only [GS,g3])
  have k40:F2.get 40 = .int .i64 ((qH x).steps.length:Int):=by rw [hF 40 (by omega)]; exact (by simp +decide only [GS,g40])
  have k41:F2.get 41 = .int .i64 (i:Int):=by rw [hF 41 (by omega)]; exact (by simp +decide only [GS,g41])
  simp only [KP,↓reduceIte,Nat.reduceLT,k41,hadd]
  rw [EG hst] at ow2
  exact next _ _ ⟨sp _ _ z0 (sY z0 (by decide) ow),sp _ _ x0 (sY x0 (by decide) ow),ow2,(by simp +decide only [GS,k2,k3,k40,and_self])⟩
 ·rintro F Y ⟨z0,x0,ow,g2,g3,g40,g41⟩
  have hlt:=eE (Nat.lt_irrefl (qH x).steps.length)
  rw [List.take_of_length_le (Nat.le_refl _),List.drop_of_length_le (Nat.le_refl _),List.append_nil] at ow
  have hne:=sY z0 (show 37 ≠ 75 by decide) ow
  have zz:=uC (x:=O.cells 37 [.str x.name,a2,b2,c2,w] true) z0
  have ow3:bO f_ 75 (Y.set 1 (O.cells 37 [.str x.name,a2,b2,c2,w] true)) w ((qH x).steps.map AQ):=ow.keep fun k o hk ho=>pG ho (fun e=>by rw [<- e] at hk; exact hne hk)
  rw [aG]
  simp only [KP,Ax.loadAt,Ax.storeAt,↓reduceIte,Nat.reduceEqDiff,Nat.reduceLT,Nat.reduceAdd,h.bG,g2,g3,g40,g41,hlt,x0,z0,zz,o1,o2,o3,hc2]
  generalize Y.set 1 (O.cells 37 [.str x.name,a2,b2,c2,w] true) = Y at *
  obtain ⟨d',e1,id'⟩:=pQ h.cN rfl HA ow3
  have one:∀ {u:V},Ax.bB u = true -> cO false u = true -> aZ.one Y E.ty false u = some u:=fun {u} h1 h2=>by
   have h3:=cR (Z:=Y) (ty:=E.ty) (g:=false) h1 h2
   cases u <;> first | exact h3 | cases h1
  have oned:aZ.one Y E.ty false w = some d':=by
   rcases ow3 with ⟨rfl,-⟩ | ⟨b,rs,ex,rfl,-⟩
   ·exact e1
   ·exact e1
  have hsn:dD Y E.ty false (.agg [.str x.name,a2,b2,c2,w]) = some (.agg [.str x.name,a2,b2,c2,d']):=by
   show (match aU (aZ.one Y E.ty false) [.str x.name,a2,b2,c2,w] with
    | some l=>some (V.agg l)
    | none=>none) = _
   simp only [aU,one (u:=.str x.name) rfl rfl,one j1.is.bB j1.tag,one j2.is.bB j2.tag,one j3.is.bB j3.tag,oned]
  rw [hsn]
  exact ⟨a2,b2,c2,d',rfl,j1,j2,j3,id'⟩
end
end
section
section
variable {E:Env} {Z:Sg} {K:V -> Sg -> Prop}
def m_:Lay aF:=⟨fun r x=>∃ a b c d,r = [.str x.name,a,b,c,d] /\ jY aK a x.ins /\ jY aK b x.outs /\ jY aK c x.after /\ jY f_ d x.steps,5,fun _ _ ⟨_,_,_,_,h,_⟩=>by rw [h]; rfl,fun _ _ ⟨a,b,c,d,h,h1,h2,h3,h4⟩ k hk=>by
 rw [h] at hk
 simp only [List.mem_cons,List.not_mem_nil,or_false] at hk
 rcases hk with rfl | rfl | rfl | rfl | rfl
 ·rfl
 ·exact h1.is.bB
 ·exact h2.is.bB
 ·exact h3.is.bB
 ·exact h4.is.bB⟩
theorem BF:∀ r x,m_.P r x -> ∀ k ∈ r,cO false k = true:=fun r x ⟨a,b,c,d,h,h1,h2,h3,h4⟩ k hk=>by
 rw [h] at hk
 simp only [List.mem_cons,List.not_mem_nil,or_false] at hk
 rcases hk with rfl | rfl | rfl | rfl | rfl
 ·rfl
 ·exact h1.tag
 ·exact h2.tag
 ·exact h3.tag
 ·exact h4.tag
theorem rF {α:Type} {L M:Lay α} {v:V} {l:List α} (h:IS L v l) (k:∀ r x,L.P r x -> M.P r x):IS M v l:=h.imp id fun ⟨g,rs,full,e,ha⟩=>⟨g,rs,full,e,ha.imp k⟩
theorem Pk {α:Type} {L M:Lay α} {t:Nat} {Z:Sg} {v:V} {l:List α} (h:LS L t Z v l) (hn:L.n = M.n) (k:∀ r x,L.P r x -> M.P r x):LS M t Z v l:=h.imp (fun h=>rF h k) fun ⟨b,cs,ex,rs,e,hb,ha,hc⟩=>⟨b,cs,ex,rs,e,hb,ha.imp k,by rw [<- hn]; exact hc⟩
theorem qS:∀ r x,f_.P r x -> eW.P r x:=fun r x ⟨a,l,h,h1,h2⟩=>⟨a,l,h,h1.is,h2.is⟩
theorem vN:∀ r x,m_.P r x -> dW.P r x:=fun r x ⟨a,b,c,d,h,h1,h2,h3,h4⟩=>⟨a,b,c,d,h,h1.is,h2.is,h3.is,rF h4.is qS⟩
theorem G3 (h:bK E) {Y:Sg} {w a b c d:V} {l:List aF} {r:aF} {ex:Bool} (ow:bO m_ 37 Y w l) (h1:jY aK a r.ins) (h2:jY aK b r.outs) (h3:jY aK c r.after) (h4:jY f_ d r.steps) (hb:l.length <= 1000) :
  ∃ w' τ',Ax.append E (Y ++ [.cells 37 [.str r.name,a,b,c,d] ex]) #[22,22] w (.sl Y.length 0 1 none) = some (w',τ') /\ bO m_ 37 τ' w' (l ++ [r]) /\ Sp (Y ++ [.cells 37 [.str r.name,a,b,c,d] ex]) τ' w /\ Y.length <= τ'.length:=by
 obtain ⟨w',τ',q1,q2,q3,q4,-⟩:=kI (m:=[r]) (new:=[[.str r.name,a,b,c,d]]) h.Bh rfl h.bG rfl (by decide) (sX h) rfl (ow.app [.cells 37 [.str r.name,a,b,c,d] ex]) (mB rfl) (.one ⟨a,b,c,d,rfl,h1,h2,h3,h4⟩) (fD (b:=1001) (by decide) (by simp only [List.length_cons,List.length_nil]; omega))
 exact ⟨w',τ',q1,q2,q3,by simp only [List.length_append,List.length_cons,List.length_nil] at q4; omega⟩
theorem Iu (h:bK E) {a:V} {rs:List aF} (ha:LS dW 37 Z a rs) (hr:∀ x ∈ rs,Raw x):aB E 12 [a] Z fun v σ'=>σ' = Z /\ jY m_ v ((rs.take 42).map cut):=by
 obtain ⟨a',ea,ia⟩:=eR h ha
 rw [aH h.hs12 h.Mo h.fn12 h.md12 (args':=[a']) (by simp only [aU,ea]),aW (by kernel_rfl)]
 have la:=cT h ia
 simp only [aA,Tryz.f12,KP,↓reduceIte,Nat.reduceLT]
 refine aS (fun i F Y=>F.get 0 = a' /\ F.get 4 = .int .i64 (i:Int) /\ ∃ w,F.get 3 = w /\ bO m_ 37 Y w ((rs.take i).map cut)) (min rs.length 42) ?_ ?_ (min rs.length 42) 0 _ _ (by omega) (kW (by simp +decide only [GS,and_self]) ⟨.aD,(by simp +decide only [GS]),.inl ⟨rfl,rfl⟩⟩)
 ·rintro i F Y hi ⟨g0,g4,w,g3,ow⟩ next
  obtain ⟨r,hri⟩:∃ y,rs[i]? = some y:=⟨_,List.getElem?_eq_getElem (by omega)⟩
  have hraw:=hr r (List.mem_of_getElem? hri)
  obtain ⟨g,p1,p2,p3,p4,e1,i1,i2,i3,i4⟩:=fB h ia hri
  have hlt:=eD (show i < rs.length by omega)
  have hlt2:decide ((i:Int) < 42) = true:=decide_eq_true (by omega)
  have hadd:=bX i (by omega)
  rw [aG]
  simp only [KP,Ax.loadAt,↓reduceIte,Nat.reduceEqDiff,Nat.reduceLT,Nat.reduceAdd,reduceCtorEq,h.bG,g0,g3,g4,la,hlt,hlt2,e1]
  refine aL (Ls h (MC i1 i2 i3 i4) hraw) ?_
  rintro v σ' ⟨rfl,a1,b1,c1,d1,rfl,j1,j2,j3,j4⟩
  have o1:=aI j1.is.bB
  have o2:=aI j2.is.bB
  have o3:=aI j3.is.bB
  have o4:=aI j4.is.bB
  have hnm:r.name = (cut r).name:=rfl
  obtain ⟨w',τ',ha2,ow2,-,-⟩:=G3 (r:=cut r) (ex:=true) h ow j1 j2 j3 j4 (by rw [List.length_map,List.length_take]; omega)
  rw [<- hnm] at ha2
  simp only [KP,↓reduceIte,Nat.reduceEqDiff,Nat.reduceLT,Nat.reduceLeDiff,Nat.reduceAdd,Nat.reduceMul,h.Bh,h.bG,g4,ha2,hadd,o1,o2,o3,o4,Ax.fill,gX,Nat.zero_mul]
  refine next _ _ (kW (by simp +decide only [GS,g0,and_self]) ⟨w',(by simp +decide only [GS]),?_⟩)
  have e:(rs.take (i + 1)).map cut = (rs.take i).map cut ++ [cut r]:=by rw [List.take_add_one,hri]; simp
  rw [e]
  exact ow2
 ·rintro F Y ⟨g0,g4,w,g3,ow⟩
  obtain ⟨v',e1,iv⟩:=pQ h.bG rfl BF ow
  have ht:rs.take (min rs.length 42) = rs.take 42:=wM rs 42
  rw [ht] at iv
  rw [aG]
  by_cases hlen:rs.length <= 42
  ·have hm:min rs.length 42 = rs.length:=Nat.min_eq_left hlen
   rw [hm] at g4
   have hlt:=eE (Nat.lt_irrefl rs.length)
   simp only [KP,↓reduceIte,Nat.reduceEqDiff,Nat.reduceLT,reduceCtorEq,g0,g3,g4,la,hlt,e1]
   exact iv
  ·have hm:min rs.length 42 = 42:=Nat.min_eq_right (by omega)
   rw [hm] at g4
   have hlt:decide (((42:Nat):Int) < (rs.length:Int)) = true:=decide_eq_true (by omega)
   have hlt2:decide (((42:Nat):Int) < 42) = false:=rfl
   simp only [KP,↓reduceIte,Nat.reduceEqDiff,Nat.reduceLT,reduceCtorEq,g0,g3,g4,la,hlt,hlt2,e1]
   exact iv
end
end
section
section
variable {E:Env} {Z:Sg} {K:V -> Sg -> Prop}
theorem PV (h:bK E) {Y:Sg} {w a b c d:V} {l:List aF} {r:aF} {y:Nat} (ow:bO m_ 37 Y w l) (hy:Y[y]? = some (.cells 37 [.str r.name,a,b,c,d] true)) (j1:jY aK a r.ins) (j2:jY aK b r.outs) (j3:jY aK c r.after) (j4:jY f_ d r.steps) (hs:∀ x ∈ l ++ [r],Small x) (hl:l.length <= 14)
  (F:FT) (g3:F.get 3 = w) (g5:F.get 5 = .ref y 0) {st:List mE} {Q:Ax.X -> Fr -> Sg -> Prop}
  (hk:∀ F' τ' e,(∀ k,k ∈ [0,3,5,9,10,11] -> F'.get k = F.get k) -> F'.get 6 = .int .i64 e -> Hg (l ++ [r]) e -> (∀ (k:Nat) (o:O),Y[k]? = some o -> τ'[k]? = some o) -> M E st .normal ⟨37,F'⟩ τ' Q):R E (.region 5 (opsOf (cutAt [1,1,0,1,2,2,1,1,0,2,1,0] (aA Tryz.f16).code)) true) st ⟨37,F⟩ Y Q:=by
 obtain ⟨rs,ee,hee⟩:=NK (t:=37) (Z:=Y) ow.ls
 obtain ⟨w1,τ1,ha1,ow1,Tf,-,fb⟩:=kI (ats:=#[22,22]) (Z:=Y) (w:=.aD) (l:=[]) (L:=m_) (x:=w) (m:=l) h.Bh rfl h.bG rfl (by decide) (sX h) rfl (.inl ⟨rfl,rfl⟩) ee hee (fD (b:=1000) (by decide) (by simp only [List.length_nil]; omega))
 obtain ⟨w2,τ2,ha2,ow2,QM,-,-⟩:=kI (ats:=#[22,22]) (Z:=τ1) (x:=.bR false [[.str r.name,a,b,c,d]] true) (m:=[r]) (new:=[[.str r.name,a,b,c,d]]) h.Bh rfl h.bG rfl (by decide) (sX h) rfl ow1 rfl (.one ⟨a,b,c,d,rfl,j1,j2,j3,j4⟩) (fD (b:=1000) (by decide) (by simp only [List.nil_append,List.length_cons,List.length_nil]; omega))
 rw [List.nil_append] at ow2
 have hy1:τ1[y]? = some (.cells 37 [.str r.name,a,b,c,d] true):=Tf _ _ hy (by intro e; cases e)
 have hall:=NZ (Z:=τ2) h (Pk ow2.ls rfl vN) ⟨by simp only [List.length_append,List.length_cons,List.length_nil]; omega,hs⟩
 obtain ⟨n,v,σ',hcall,hσ,e,nm,rfl,hE⟩:=hall
 rw [hσ] at hcall
 clear hσ σ'
 have o1:=aI j1.is.bB
 have o2:=aI j2.is.bB
 have o3:=aI j3.is.bB
 have o4:=aI j4.is.bB
 have t1:=j1.tag
 have t2:=j2.tag
 have t3:=j3.tag
 have t4:=j4.tag
 have ts:cO false (.str r.name) = true:=rfl
 have v1:=b_ 10 j1.is
 have v2:=b_ 10 j2.is
 have v3:=b_ 10 j3.is
 have v4:=nR 9 (rF j4.is qS)
 have vs:=zW 10 r.name
 have va:sJ 12 (.agg [.str r.name,a,b,c,d]) (.agg [.str r.name,a,b,c,d]) = true:=oS fun x hx=>by
  simp only [List.mem_cons,List.not_mem_nil,or_false] at hx
  rcases hx with rfl | rfl | rfl | rfl | rfl
  ·exact vs
  ·exact b_ 9 j1.is
  ·exact b_ 9 j2.is
  ·exact b_ 9 j3.is
  ·exact nR 8 (rF j4.is qS)
 have key:∃ F',cG E (ev E n) (opsOf (cutAt [1,1,0,1,2,2,1,1,0,2,1,0] (aA Tryz.f16).code)) ⟨37,F⟩ Y = some (⟨37,F'⟩,τ2) /\ (∀ k,k ∈ [0,3,5,9,10,11] -> F'.get k = F.get k) /\ F'.get 6 = .int .i64 e:=by
  unfold cG
  rw [h.Tt,h.UT]
  simp only [aA,Tryz.f16,KP,Ax.loadAt,↓reduceIte,Nat.reduceEqDiff,Nat.reduceLT,Nat.reduceLeDiff,Nat.reduceAdd,Nat.reduceMul,h.Bh,h.bG,opsOf,cutAt,Fz.lits,Fz.apps,iD,bH,bY,kB,Ax.comp,Ax.last,iG,Ax.again,B4,Ax.fill,gX,Ax.rows,Nat.zero_mul,g3,g5,hy,hy1,ha1,ha2,hcall,o1,o2,o3,o4,t1,t2,t3,t4,ts,va]
  refine ⟨_,rfl,fun k hk=>?_,(by simp +decide only [GS])⟩
  simp only [List.mem_cons,List.not_mem_nil,or_false] at hk
  rcases hk with rfl | rfl | rfl | rfl | rfl | rfl <;> simp +decide only [GS]
 obtain ⟨F',hD,h1,h2⟩:=key
 refine Eq.mpr (iX hD) (hk F' τ2 e h1 h2 hE fun k o ho=>?_)
 have h1':=Tf _ _ ho (by intro e; cases e)
 refine QM _ _ h1' fun e=>?_
 rcases fb _ e with hb | hb
 ·cases hb
 ·exact absurd (List.getElem?_eq_some_iff.mp ho).1 (by omega)
theorem Oj (h:bK E) {v:V} {l:List aF} (ia:IS m_ v l) {i:Nat} {x:aF} (hx:l[i]? = some x):∃ g a b c d,indexAddr E 22 v (.int .i64 (i:Int)) = some (.dB g [.str x.name,a,b,c,d]) /\ jY aK a x.ins /\ jY aK b x.outs /\ jY aK c x.after /\ jY f_ d x.steps:=by
 obtain ⟨g,r,e,a,b,c,d,hr,h1⟩:=IS.at h.Bh rfl h.bG rfl ia hx
 exact ⟨g,a,b,c,d,by rw [e,hr],h1⟩
theorem FK:mO []:=⟨rfl,fun ⟨i,hi,_⟩=>absurd hi (by simp)⟩
theorem S6 (h:bK E) {a:V} {rs:List aF} (ha:LS dW 37 Z a rs) (hr:∀ x ∈ rs,Raw x):aB E 16 [a] Z fun v σ'=>σ' = Z /\ ∃ l,jY m_ v l /\ mO l /\ l.length <= 14 /\ ∀ x ∈ l,Small x:=by
 obtain ⟨a',ea,ia⟩:=eR h ha
 rw [aH h.hs16 h.Mm h.fn16 h.md16 (args':=[a']) (by simp only [aU,ea]),aW (by kernel_rfl)]
 simp only [aA,Tryz.f16,KP,↓reduceIte,Nat.reduceLT,reduceCtorEq]
 refine aL (Iu h (ia.ls [] 37) hr) ?_
 rintro v σ' ⟨rfl,iv⟩
 have sm:∀ x ∈ (rs.take 42).map cut,Small x:=fun x hx=>by
  obtain ⟨y,-,rfl⟩:=List.mem_map.1 hx
  exact K_ y
 have hl42:((rs.take 42).map cut).length <= 42:=by rw [List.length_map,List.length_take]; omega
 generalize (rs.take 42).map cut = ls at iv sm hl42
 have la:=cT h (rF iv.is vN)
 simp only [KP,↓reduceIte,Nat.reduceLT,la]
 refine aS (fun i F Y=>F.get 9 = v /\ F.get 10 = .int .i64 (ls.length:Int) /\ F.get 11 = .int .i64 (i:Int) /\ ∃ w l,F.get 3 = w /\ bO m_ 37 Y w l /\ mO l /\ l.length <= 14 /\ ∀ x ∈ l,Small x) ls.length ?_ ?_ ls.length 0 _ _ (by omega) (iL (by simp +decide only [GS,and_self]) ⟨.aD,[],(by simp +decide only [GS]),.inl ⟨rfl,rfl⟩,FK,by simp,fun x hx=>by cases hx⟩)
 ·rintro i F Y hi ⟨g9,g10,g11,w,l,g3,ow,hok,hlen,hsm⟩ next
  obtain ⟨r,hri⟩:∃ y,ls[i]? = some y:=⟨_,List.getElem?_eq_getElem (by omega)⟩
  have hrs:=sm r (List.mem_of_getElem? hri)
  obtain ⟨g,p1,p2,p3,p4,e1,i1,i2,i3,i4⟩:=Oj h iv.is hri
  have hlt:=eD hi
  have hadd:=bX i (by omega)
  rw [aG]
  have o1:=aI i1.is.bB
  have o2:=aI i2.is.bB
  have o3:=aI i3.is.bB
  have o4:=aI i4.is.bB
  simp only [KP,Ax.loadAt,Ax.storeAt,↓reduceIte,Nat.reduceEqDiff,Nat.reduceLT,Nat.reduceAdd,h.bG,g9,g10,g11,hlt,e1,o1,o2,o3,o4,aO,cK]
  refine PV h (ow.app _) (y:=Y.length) ?_ i1 i2 i3 i4 ?_ hlen _ ?_ ?_ ?_
  ·simp
  ·intro x hx
   rcases List.mem_append.1 hx with hx | hx
   ·exact hsm x hx
   ·rw [List.mem_singleton.1 hx]; exact hrs
  ·exact (by simp +decide only [GS,g3])
  ·exact (by simp +decide only [GS])
  intro F' τ' e hF h6 hE hT
  have q3:F'.get 3 = w:=(hF 3 (by simp)).trans (show _ = w by simp only [FT.jQ,Nat.reduceEqDiff,↓reduceIte,g3])
  have q5:F'.get 5 = .ref Y.length 0:=(hF 5 (by simp)).trans (by simp +decide only [GS])
  have q9:F'.get 9 = v:=(hF 9 (by simp)).trans (by simp +decide only [GS,g9])
  have Fg:F'.get 10 = .int .i64 (ls.length:Int):=(hF 10 (by simp)).trans (by simp +decide only [GS,g10])
  have Hj:F'.get 11 = .int .i64 (i:Int):=(hF 11 (by simp)).trans (by simp +decide only [GS,g11])
  have ow':bO m_ 37 τ' w l:=(ow.app [O.cells 37 [.str r.name,p1,p2,p3,p4] true]).keep fun c o _ hc=>hT c o hc
  have hy:τ'[Y.length]? = some (O.cells 37 [.str r.name,p1,p2,p3,p4] true):=hT _ _ (by simp)
  have lw:=rC h.Bh rfl ow'.ls
  have hz:=hE.zero
  by_cases he:e = 0
  ·have c1:decide (e = 0) = true:=decide_eq_true he
   by_cases h14:l.length < 14
   ·have c2:decide ((l.length:Int) < 14) = true:=decide_eq_true (by omega)
    obtain ⟨w2,τ2,ha2,ow2,-,-⟩:=G3 (ex:=true) h ow' i1 i2 i3 i4 (by omega)
    simp only [KP,Ax.loadAt,↓reduceIte,Nat.reduceEqDiff,Nat.reduceLT,Nat.reduceLeDiff,Nat.reduceAdd,Nat.reduceMul,h.Bh,h.bG,q3,q5,Hj,h6,lw,c1,c2,hy,hadd,ha2,o1,o2,o3,o4,Ax.fill,gX,Nat.zero_mul]
    refine next _ _ (iL (by simp +decide only [GS,q9,Fg,and_self]) ⟨w2,l ++ [r],(by simp +decide only [GS]),ow2,hz.1 he,?_,?_⟩)
    ·rw [List.length_append,List.length_singleton]; omega
    ·intro x hx
     rcases List.mem_append.1 hx with hx | hx
     ·exact hsm x hx
     ·rw [List.mem_singleton.1 hx]; exact hrs
   ·have c2:decide ((l.length:Int) < 14) = false:=decide_eq_false (by omega)
    simp only [KP,↓reduceIte,Nat.reduceEqDiff,Nat.reduceLT,q3,Hj,h6,lw,c1,c2,hadd]
    exact next _ _ (iL (by simp +decide only [GS,q9,Fg,and_self]) ⟨w,l,(by simp +decide only [GS,q3]),ow',hok,hlen,hsm⟩)
  ·have c1:decide (e = 0) = false:=decide_eq_false he
   simp only [KP,↓reduceIte,Nat.reduceEqDiff,Nat.reduceLT,Hj,h6,c1,hadd]
   exact next _ _ (iL (by simp +decide only [GS,q9,Fg,and_self]) ⟨w,l,(by simp +decide only [GS,q3]),ow',hok,hlen,hsm⟩)
 ·rintro F Y ⟨g9,g10,g11,w,l,g3,ow,hok,hlen,hsm⟩
  obtain ⟨v',e1,iv⟩:=pQ h.bG rfl BF ow
  have hlt:=eE (Nat.lt_irrefl ls.length)
  rw [aG]
  simp only [KP,↓reduceIte,Nat.reduceEqDiff,Nat.reduceLT,g3,g10,g11,hlt,e1]
  exact ⟨l,iv,hok,hlen,hsm⟩
end
end
section
section
variable {E:Env} {Z:Sg} {K:V -> Sg -> Prop}
theorem qU {k:Nat} {caps:List V} (hc:∀ c ∈ caps,Ax.bB c = true) (Z:Sg):aZ Z E.ty true (.fn k [] caps) = some (.fn k [] caps):=by
 have e:aU (aZ.one Z E.ty true) caps = some caps:=iQ fun c hx=>by
  have:=cR (Z:=Z) (ty:=E.ty) (g:=true) (hc c hx) (bZ (hc c hx))
  have h2:=hc c hx
  cases c <;> first | exact this | cases h2
 simp only [aZ,e,aU]
theorem QC (h:bK E) {a:V} {l:List bA} {k:Nat} {caps:List V} {P:bA -> Bool} (ha:LS aK 9 Z a l) (hsm:l.length <= 4294967296) (hc:∀ c ∈ caps,Ax.bB c = true) (hP:∀ (y:bA) (v:V),y ∈ l -> v = .str y -> aB E k ([v] ++ caps) [] fun u Y=>Y = [] /\ u = .bool (P y)) {fv:V} (ef:aZ Z E.ty true fv = some (.fn k [] caps)):aB E 65 [a,fv] Z K = K (.int .i64 (idx (bJ P l))) Z:=by
 refine aB.of ?_
 obtain ⟨a',ea,ia⟩:=jM h ha
 rw [aH h.hs65 h.sp65 h.fn65 h.md65 (args':=[a',.fn k [] caps]) (by simp only [aU,ea,ef]),aW (by kernel_rfl)]
 have la:=bL h ia
 simp only [aA,Tryz.f65,KP,↓reduceIte,Nat.reduceLT,Nat.reduceAdd,reduceCtorEq,Int.reduceNeg,la]
 refine aS (fun i F Y=>Y = [] /\ F.get 0 = a' /\ F.get 1 = .fn k [] caps /\ F.get 8 = .int .i64 (i:Int) /\ F.get 7 = .int .i64 (l.length:Int) /\ ∀ j y,j < i -> l[j]? = some y -> P y = false) l.length ?_ ?_ l.length 0 _ _ (by omega) ⟨rfl,(h_ (by simp +decide only [GS,and_self]) (fun j y hj=>by omega))⟩
 ·rintro i F Y hi ⟨rfl,g0,g1,g8,g7,hp⟩ next
  obtain ⟨x,hx⟩:∃ x,l[i]? = some x:=⟨_,List.getElem?_eq_getElem hi⟩
  obtain ⟨g,e1⟩:=gB h ia hx
  have hv:V.str x = .str x:=rfl
  have hlt:=eD hi
  have hadd:=bX i (by omega)
  rw [aG]
  simp only [KP,Ax.loadAt,↓reduceIte,Nat.reduceEqDiff,Nat.reduceLT,reduceCtorEq,Int.reduceNeg,h.cQ,g0,g1,g7,g8,hlt,e1]
  refine aL (hP x _ (List.mem_of_getElem? hx) hv) ?_
  rintro u Y ⟨rfl,rfl⟩
  by_cases hxs:P x = true
  ·simp only [KP,↓reduceIte,Nat.reduceEqDiff,Nat.reduceLT,Int.reduceNeg,hxs]
   rw [gI (i:=i) (x:=x) hp hx hxs]
   exact rfl
  ·have hxs:P x = false:=by simpa using hxs
   simp only [KP,↓reduceIte,Nat.reduceEqDiff,Nat.reduceLT,Int.reduceNeg,g8,hxs,hadd]
   refine next _ _ ⟨rfl,(h_ (by simp +decide only [GS,g0,g1,g7,and_self]) (fun j y hj hy=>?_))⟩
   rcases Nat.lt_or_ge j i with g | g
   ·exact hp j y g hy
   ·obtain rfl:j = i:=by omega
    rw [hx] at hy; cases hy; exact hxs
 ·rintro F Y ⟨rfl,g0,g1,g8,g7,hp⟩
  have hlt:=eE (Nat.lt_irrefl l.length)
  rw [aG]
  simp only [KP,↓reduceIte,Nat.reduceLT,Int.reduceNeg,g7,g8,hlt]
  rw [gJ fun x hx=>by
   obtain ⟨j,hj,e⟩:=List.getElem_of_mem hx
   exact hp j x hj (by rw [List.getElem?_eq_getElem hj,e])]
  exact rfl
theorem S4 (h:bK E) {a:V} {l:List bA} {k:Nat} {caps:List V} {P:bA -> Bool} (ha:LS aK 9 Z a l) (hsm:l.length <= 4294967296) (hc:∀ c ∈ caps,Ax.bB c = true) (hP:∀ (y:bA) (v:V),y ∈ l -> v = .str y -> aB E k ([v] ++ caps) [] fun u Y=>Y = [] /\ u = .bool (P y)):aB E 65 [a,.fn k [] caps] Z K = K (.int .i64 (idx (bJ P l))) Z:=QC h ha hsm hc hP (qU hc Z)
theorem qJ (h:bK E) {a:V} {l:List bA} {k:Nat} {caps:List V} {P:bA -> Bool} (ha:LS aK 9 Z a l) (hsm:l.length <= 4294967296) (hc:∀ c ∈ caps,Ax.bB c = true) (hP:∀ (y:bA) (v:V),y ∈ l -> v = .str y -> aB E k ([v] ++ caps) [] fun u Y=>Y = [] /\ u = .bool (P y)) {fv:V} (ef:aZ Z E.ty true fv = some (.fn k [] caps)):aB E 67 [a,fv] Z K = K (.bool (l.any P)) Z:=by
 refine aB.of ?_
 obtain ⟨a',ea,ia⟩:=jM h ha
 rw [aH h.hs67 h.sp67 h.fn67 h.md67 (args':=[a',.fn k [] caps]) (by simp only [aU,ea,ef]),aW (by kernel_rfl)]
 have key:=fun K=>S4 (Z:=[]) (K:=K) h (ia.ls [] 9) hsm hc hP
 have kk:=dM key
 simp only [aA,Tryz.f67,KP,↓reduceIte,Nat.reduceEqDiff,Nat.reduceLT,Nat.reduceAdd,reduceCtorEq,kk,kN,cB]
 exact rfl
theorem JX (h:bK E) {a:V} {l:List bA} {k:Nat} {caps:List V} {P:bA -> Bool} (ha:LS aK 9 Z a l) (hsm:l.length <= 4294967296) (hc:∀ c ∈ caps,Ax.bB c = true) (hP:∀ (y:bA) (v:V),y ∈ l -> v = .str y -> aB E k ([v] ++ caps) [] fun u Y=>Y = [] /\ u = .bool (P y)):aB E 67 [a,.fn k [] caps] Z K = K (.bool (l.any P)) Z:=qJ h ha hsm hc hP (qU hc Z)
theorem JD (h:bK E) {a:V} {l:List bA} {k:Nat} {caps:List V} {P:bA -> Bool} (ha:LS aK 9 Z a l) (hsm:l.length <= 4294967296) (hc:∀ c ∈ caps,Ax.bB c = true) (hP:∀ (y:bA) (v:V),y ∈ l -> v = .str y -> aB E k ([v] ++ caps) [] fun u Y=>Y = [] /\ u = .bool (P y)):KC E 67 [a,.fn k [] caps] Z (.bool (l.any P)) Z:=dM fun _=>JX h ha hsm hc hP
theorem Lv (h:bK E) {a:V} {l:List AxS.Step} {k:Nat} {caps:List V} {P:AxS.Step -> Bool} (ha:LS eW 75 Z a l) (hsm:l.length <= 4294967296) (hc:∀ c ∈ caps,Ax.bB c = true) (hP:∀ (y:AxS.Step) (v:V),y ∈ l -> LD v y -> aB E k ([v] ++ caps) [] fun u Y=>Y = [] /\ u = .bool (P y)) {fv:V} (ef:aZ Z E.ty true fv = some (.fn k [] caps)):aB E 237 [a,fv] Z K = K (.int .i64 (idx (bJ P l))) Z:=by
 refine aB.of ?_
 obtain ⟨a',ea,ia⟩:=Bt h ha
 rw [aH h.VU h.TF h.WG h.U6 (args':=[a',.fn k [] caps]) (by simp only [aU,ea,ef]),aW (by kernel_rfl)]
 have la:=kV h ia
 simp only [aA,Tryz.f237,KP,↓reduceIte,Nat.reduceLT,Nat.reduceAdd,reduceCtorEq,Int.reduceNeg,la]
 refine aS (fun i F Y=>Y = [] /\ F.get 0 = a' /\ F.get 1 = .fn k [] caps /\ F.get 8 = .int .i64 (i:Int) /\ F.get 7 = .int .i64 (l.length:Int) /\ ∀ j y,j < i -> l[j]? = some y -> P y = false) l.length ?_ ?_ l.length 0 _ _ (by omega) ⟨rfl,(h_ (by simp +decide only [GS,and_self]) (fun j y hj=>by omega))⟩
 ·rintro i F Y hi ⟨rfl,g0,g1,g8,g7,hp⟩ next
  obtain ⟨x,hx⟩:∃ x,l[i]? = some x:=⟨_,List.getElem?_eq_getElem hi⟩
  obtain ⟨g,p1,p2,e1,i1,i2⟩:=uM h ia hx
  have hv:LD (.agg [.str x.out,.int .i64 x.op,p1,p2,.int .i64 x.n]) x:=⟨p1,p2,rfl,i1,i2⟩
  have hlt:=eD hi
  have hadd:=bX i (by omega)
  rw [aG]
  simp only [KP,Ax.loadAt,↓reduceIte,Nat.reduceEqDiff,Nat.reduceLT,Nat.reduceAdd,reduceCtorEq,Int.reduceNeg,h.cN,g0,g1,g7,g8,hlt,e1]
  refine aL (hP x _ (List.mem_of_getElem? hx) hv) ?_
  rintro u Y ⟨rfl,rfl⟩
  by_cases hxs:P x = true
  ·simp only [KP,↓reduceIte,Nat.reduceEqDiff,Nat.reduceLT,Int.reduceNeg,hxs]
   rw [gI (i:=i) (x:=x) hp hx hxs]
   exact rfl
  ·have hxs:P x = false:=by simpa using hxs
   simp only [KP,↓reduceIte,Nat.reduceEqDiff,Nat.reduceLT,Int.reduceNeg,g8,hxs,hadd]
   refine next _ _ ⟨rfl,(h_ (by simp +decide only [GS,g0,g1,g7,and_self]) (fun j y hj hy=>?_))⟩
   rcases Nat.lt_or_ge j i with g | g
   ·exact hp j y g hy
   ·obtain rfl:j = i:=by omega
    rw [hx] at hy; cases hy; exact hxs
 ·rintro F Y ⟨rfl,g0,g1,g8,g7,hp⟩
  have hlt:=eE (Nat.lt_irrefl l.length)
  rw [aG]
  simp only [KP,↓reduceIte,Nat.reduceLT,Int.reduceNeg,g7,g8,hlt]
  rw [gJ fun x hx=>by
   obtain ⟨j,hj,e⟩:=List.getElem_of_mem hx
   exact hp j x hj (by rw [List.getElem?_eq_getElem hj,e])]
  exact rfl
theorem Oa (h:bK E) {a:V} {l:List AxS.Step} {k:Nat} {caps:List V} {P:AxS.Step -> Bool} (ha:LS eW 75 Z a l) (hsm:l.length <= 4294967296) (hc:∀ c ∈ caps,Ax.bB c = true) (hP:∀ (y:AxS.Step) (v:V),y ∈ l -> LD v y -> aB E k ([v] ++ caps) [] fun u Y=>Y = [] /\ u = .bool (P y)):aB E 237 [a,.fn k [] caps] Z K = K (.int .i64 (idx (bJ P l))) Z:=Lv h ha hsm hc hP (qU hc Z)
theorem Iw (h:bK E) {a:V} {l:List AxS.Step} {k:Nat} {caps:List V} {P:AxS.Step -> Bool} (ha:LS eW 75 Z a l) (hsm:l.length <= 4294967296) (hc:∀ c ∈ caps,Ax.bB c = true) (hP:∀ (y:AxS.Step) (v:V),y ∈ l -> LD v y -> aB E k ([v] ++ caps) [] fun u Y=>Y = [] /\ u = .bool (P y)) {fv:V} (ef:aZ Z E.ty true fv = some (.fn k [] caps)):aB E 200 [a,fv] Z K = K (.bool (l.any P)) Z:=by
 refine aB.of ?_
 obtain ⟨a',ea,ia⟩:=Bt h ha
 rw [aH h.V1 h.TM h.WN h.Vc (args':=[a',.fn k [] caps]) (by simp only [aU,ea,ef]),aW (by kernel_rfl)]
 have key:=fun K=>Oa (Z:=[]) (K:=K) h (ia.ls [] 75) hsm hc hP
 have kk:=dM key
 simp only [aA,Tryz.f200,KP,↓reduceIte,Nat.reduceEqDiff,Nat.reduceLT,Nat.reduceAdd,reduceCtorEq,kk,kN,cB]
 exact rfl
theorem Lw (h:bK E) {a:V} {l:List AxS.Step} {k:Nat} {caps:List V} {P:AxS.Step -> Bool} (ha:LS eW 75 Z a l) (hsm:l.length <= 4294967296) (hc:∀ c ∈ caps,Ax.bB c = true) (hP:∀ (y:AxS.Step) (v:V),y ∈ l -> LD v y -> aB E k ([v] ++ caps) [] fun u Y=>Y = [] /\ u = .bool (P y)):aB E 200 [a,.fn k [] caps] Z K = K (.bool (l.any P)) Z:=Iw h ha hsm hc hP (qU hc Z)
theorem KY (h:bK E) {a:V} {l:List AxS.Step} {k:Nat} {caps:List V} {P:AxS.Step -> Bool} (ha:LS eW 75 Z a l) (hsm:l.length <= 4294967296) (hc:∀ c ∈ caps,Ax.bB c = true) (hP:∀ (y:AxS.Step) (v:V),y ∈ l -> LD v y -> aB E k ([v] ++ caps) [] fun u Y=>Y = [] /\ u = .bool (P y)):KC E 200 [a,.fn k [] caps] Z (.bool (l.any P)) Z:=dM fun _=>Lw h ha hsm hc hP
theorem XP (h:bK E) {a:V} {l:List bA} {s:bA} (ha:LS aK 9 Z a l) (hsm:l.length <= 4294967296):aB E 131 [a,.str s] Z K = K (.int .i64 (idx (bJ (fun x=>decide (x = s)) l))) Z:=by
 refine aB.of ?_
 obtain ⟨a',ea,ia⟩:=jM h ha
 rw [aH h.Wg h.T2 h.W6 h.Vq (args':=[a',.str s]) (by simp only [aU,ea,cJ]),aW (by kernel_rfl)]
 have la:=bL h ia
 simp only [aA,Tryz.f131,KP,↓reduceIte,Nat.reduceLT,Nat.reduceAdd,reduceCtorEq,Int.reduceNeg,la]
 refine aS (fun i F Y=>Y = [] /\ F.get 0 = a' /\ F.get 1 = .str s /\ F.get 8 = .int .i64 (i:Int) /\ F.get 7 = .int .i64 (l.length:Int) /\ ∀ j y,j < i -> l[j]? = some y -> y ≠ s) l.length ?_ ?_ l.length 0 _ _ (by omega) ⟨rfl,(h_ (by simp +decide only [GS,and_self]) (fun j y hj=>by omega))⟩
 ·rintro i F Y hi ⟨rfl,g0,g1,g8,g7,hp⟩ next
  obtain ⟨x,hx⟩:∃ x,l[i]? = some x:=⟨_,List.getElem?_eq_getElem hi⟩
  obtain ⟨g,e1⟩:=gB h ia hx
  have hlt:=eD hi
  have hadd:=bX i (by omega)
  rw [aG]
  by_cases hxs:x = s
  ·have hs:=gQ hxs.symm
   simp only [KP,Ax.loadAt,↓reduceIte,Nat.reduceEqDiff,Nat.reduceLT,reduceCtorEq,Int.reduceNeg,h.cQ,g0,g1,g7,g8,hlt,e1,hs]
   rw [gI (i:=i) (x:=x) (fun j y hj hy=>decide_eq_false (hp j y hj hy)) hx (decide_eq_true hxs)]
   exact rfl
  ·have hs:=fP (Ne.symm hxs)
   simp only [KP,Ax.loadAt,↓reduceIte,Nat.reduceEqDiff,Nat.reduceLT,reduceCtorEq,Int.reduceNeg,h.cQ,g0,g1,g7,g8,hlt,e1,hs,hadd]
   refine next _ _ ⟨rfl,(h_ (by simp +decide only [GS,g0,g1,g7,and_self]) (fun j y hj hy=>?_))⟩
   rcases Nat.lt_or_ge j i with g | g
   ·exact hp j y g hy
   ·obtain rfl:j = i:=by omega
    rw [hx] at hy; cases hy; exact hxs
 ·rintro F Y ⟨rfl,g0,g1,g8,g7,hp⟩
  have hlt:=eE (Nat.lt_irrefl l.length)
  rw [aG]
  simp only [KP,↓reduceIte,Nat.reduceLT,Int.reduceNeg,g7,g8,hlt]
  rw [gJ fun x hx=>by
   obtain ⟨j,hj,e⟩:=List.getElem_of_mem hx
   exact decide_eq_false (hp j x hj (by rw [List.getElem?_eq_getElem hj,e]))]
  exact rfl
theorem S9 (h:bK E) {a:V} {l:List bA} {s:bA} (ha:LS aK 9 Z a l) (hsm:l.length <= 4294967296):aB E 92 [a,.str s] Z K = K (.bool (decide (s ∈ l))) Z:=by
 refine aB.of ?_
 obtain ⟨a',ea,ia⟩:=jM h ha
 rw [aH h.hs92 h.sp92 h.fn92 h.md92 (args':=[a',.str s]) (by simp only [aU,ea,cJ]),aW (by kernel_rfl)]
 have kk:=dM (fun K=>XP (Z:=[]) (s:=s) (K:=K) h (ia.ls [] 9) hsm)
 simp only [aA,Tryz.f92,KP,↓reduceIte,Nat.reduceEqDiff,Nat.reduceLT,Nat.reduceAdd,reduceCtorEq,kk,kN,cB,any_eq]
 exact rfl
theorem B_ (h:bK E) {a:V} {l:List bA} {s:bA} (ha:LS aK 9 Z a l) (hsm:l.length <= 4294967296):KC E 92 [a,.str s] Z (.bool (decide (s ∈ l))) Z:=dM fun _=>S9 h ha hsm
end
end
section
section
variable {E:Env} {Z:Sg} {K:V -> Sg -> Prop}
theorem SY (h:bK E) {c:Nat}:aB E 253 [.int .i32 (c:Int)] Z K = K (.bool (sign c)) Z:=by
 refine aB.of ?_
 rw [aH h.VQ h.TC h.WC h.U3 (args':=[.int .i32 (c:Int)]) (by simp only [aU,show aZ Z E.ty true (.int .i32 (c:Int)) = some (.int .i32 (c:Int)) from rfl]),aW (by kernel_rfl)]
 have hcut:(0 <= c /\ c <= 44) \/ (45 <= c /\ c <= 45) \/ (46 <= c /\ c <= 46) \/ (47 <= c /\ c <= 47) \/ (48 <= c /\ c <= 57) \/ (58 <= c /\ c <= 64) \/ (65 <= c /\ c <= 90) \/ (91 <= c /\ c <= 94) \/ (95 <= c /\ c <= 95) \/ (96 <= c /\ c <= 96) \/ (97 <= c /\ c <= 122) \/ (123 <= c /\ 123 <= c):=by omega
 rcases hcut with ⟨h1,h2⟩ | ⟨h1,h2⟩ | ⟨h1,h2⟩ | ⟨h1,h2⟩ | ⟨h1,h2⟩ | ⟨h1,h2⟩ | ⟨h1,h2⟩ | ⟨h1,h2⟩ | ⟨h1,h2⟩ | ⟨h1,h2⟩ | ⟨h1,h2⟩ | ⟨h1,h2⟩
 ·rw [show sign c = false from by unfold sign; simp; omega]
  have q0:decide ((97:Int) <= (c:Int)) = false:=decide_eq_false (by omega)
  have q2:decide ((65:Int) <= (c:Int)) = false:=decide_eq_false (by omega)
  have q4:decide ((48:Int) <= (c:Int)) = false:=decide_eq_false (by omega)
  have q6:decide ((c:Int) = 46) = false:=decide_eq_false (by omega)
  have q7:decide ((c:Int) = 95) = false:=decide_eq_false (by omega)
  have q8:decide ((c:Int) = 45) = false:=decide_eq_false (by omega)
  simp only [aA,Tryz.f253,KP,↓reduceIte,Nat.reduceEqDiff,Nat.reduceLT,reduceCtorEq,q0,q2,q4,q6,q7,q8]
  exact rfl
 ·rw [show sign c = true from by unfold sign; simp; omega]
  have q0:decide ((97:Int) <= (c:Int)) = false:=decide_eq_false (by omega)
  have q2:decide ((65:Int) <= (c:Int)) = false:=decide_eq_false (by omega)
  have q4:decide ((48:Int) <= (c:Int)) = false:=decide_eq_false (by omega)
  have q6:decide ((c:Int) = 46) = false:=decide_eq_false (by omega)
  have q7:decide ((c:Int) = 95) = false:=decide_eq_false (by omega)
  have q8:decide ((c:Int) = 45) = true:=decide_eq_true (by omega)
  simp only [aA,Tryz.f253,KP,↓reduceIte,Nat.reduceEqDiff,Nat.reduceLT,reduceCtorEq,q0,q2,q4,q6,q7,q8]
  exact rfl
 ·rw [show sign c = true from by unfold sign; simp; omega]
  have q0:decide ((97:Int) <= (c:Int)) = false:=decide_eq_false (by omega)
  have q2:decide ((65:Int) <= (c:Int)) = false:=decide_eq_false (by omega)
  have q4:decide ((48:Int) <= (c:Int)) = false:=decide_eq_false (by omega)
  have q6:decide ((c:Int) = 46) = true:=decide_eq_true (by omega)
  simp only [aA,Tryz.f253,KP,↓reduceIte,Nat.reduceEqDiff,Nat.reduceLT,reduceCtorEq,q0,q2,q4,q6]
  exact rfl
 ·rw [show sign c = false from by unfold sign; simp; omega]
  have q0:decide ((97:Int) <= (c:Int)) = false:=decide_eq_false (by omega)
  have q2:decide ((65:Int) <= (c:Int)) = false:=decide_eq_false (by omega)
  have q4:decide ((48:Int) <= (c:Int)) = false:=decide_eq_false (by omega)
  have q6:decide ((c:Int) = 46) = false:=decide_eq_false (by omega)
  have q7:decide ((c:Int) = 95) = false:=decide_eq_false (by omega)
  have q8:decide ((c:Int) = 45) = false:=decide_eq_false (by omega)
  simp only [aA,Tryz.f253,KP,↓reduceIte,Nat.reduceEqDiff,Nat.reduceLT,reduceCtorEq,q0,q2,q4,q6,q7,q8]
  exact rfl
 ·rw [show sign c = true from by unfold sign; simp; omega]
  have q0:decide ((97:Int) <= (c:Int)) = false:=decide_eq_false (by omega)
  have q2:decide ((65:Int) <= (c:Int)) = false:=decide_eq_false (by omega)
  have q4:decide ((48:Int) <= (c:Int)) = true:=decide_eq_true (by omega)
  have q5:decide ((c:Int) <= 57) = true:=decide_eq_true (by omega)
  simp only [aA,Tryz.f253,KP,↓reduceIte,Nat.reduceEqDiff,Nat.reduceLT,reduceCtorEq,q0,q2,q4,q5]
  exact rfl
 ·rw [show sign c = false from by unfold sign; simp; omega]
  have q0:decide ((97:Int) <= (c:Int)) = false:=decide_eq_false (by omega)
  have q2:decide ((65:Int) <= (c:Int)) = false:=decide_eq_false (by omega)
  have q4:decide ((48:Int) <= (c:Int)) = true:=decide_eq_true (by omega)
  have q5:decide ((c:Int) <= 57) = false:=decide_eq_false (by omega)
  have q6:decide ((c:Int) = 46) = false:=decide_eq_false (by omega)
  have q7:decide ((c:Int) = 95) = false:=decide_eq_false (by omega)
  have q8:decide ((c:Int) = 45) = false:=decide_eq_false (by omega)
  simp only [aA,Tryz.f253,KP,↓reduceIte,Nat.reduceEqDiff,Nat.reduceLT,reduceCtorEq,q0,q2,q4,q5,q6,q7,q8]
  exact rfl
 ·rw [show sign c = true from by unfold sign; simp; omega]
  have q0:decide ((97:Int) <= (c:Int)) = false:=decide_eq_false (by omega)
  have q2:decide ((65:Int) <= (c:Int)) = true:=decide_eq_true (by omega)
  have q3:decide ((c:Int) <= 90) = true:=decide_eq_true (by omega)
  simp only [aA,Tryz.f253,KP,↓reduceIte,Nat.reduceEqDiff,Nat.reduceLT,reduceCtorEq,q0,q2,q3]
  exact rfl
 ·rw [show sign c = false from by unfold sign; simp; omega]
  have q0:decide ((97:Int) <= (c:Int)) = false:=decide_eq_false (by omega)
  have q2:decide ((65:Int) <= (c:Int)) = true:=decide_eq_true (by omega)
  have q3:decide ((c:Int) <= 90) = false:=decide_eq_false (by omega)
  have q4:decide ((48:Int) <= (c:Int)) = true:=decide_eq_true (by omega)
  have q5:decide ((c:Int) <= 57) = false:=decide_eq_false (by omega)
  have q6:decide ((c:Int) = 46) = false:=decide_eq_false (by omega)
  have q7:decide ((c:Int) = 95) = false:=decide_eq_false (by omega)
  have q8:decide ((c:Int) = 45) = false:=decide_eq_false (by omega)
  simp only [aA,Tryz.f253,KP,↓reduceIte,Nat.reduceEqDiff,Nat.reduceLT,reduceCtorEq,q0,q2,q3,q4,q5,q6,q7,q8]
  exact rfl
 ·rw [show sign c = true from by unfold sign; simp; omega]
  have q0:decide ((97:Int) <= (c:Int)) = false:=decide_eq_false (by omega)
  have q2:decide ((65:Int) <= (c:Int)) = true:=decide_eq_true (by omega)
  have q3:decide ((c:Int) <= 90) = false:=decide_eq_false (by omega)
  have q4:decide ((48:Int) <= (c:Int)) = true:=decide_eq_true (by omega)
  have q5:decide ((c:Int) <= 57) = false:=decide_eq_false (by omega)
  have q6:decide ((c:Int) = 46) = false:=decide_eq_false (by omega)
  have q7:decide ((c:Int) = 95) = true:=decide_eq_true (by omega)
  simp only [aA,Tryz.f253,KP,↓reduceIte,Nat.reduceEqDiff,Nat.reduceLT,reduceCtorEq,q0,q2,q3,q4,q5,q6,q7]
  exact rfl
 ·rw [show sign c = false from by unfold sign; simp; omega]
  have q0:decide ((97:Int) <= (c:Int)) = false:=decide_eq_false (by omega)
  have q2:decide ((65:Int) <= (c:Int)) = true:=decide_eq_true (by omega)
  have q3:decide ((c:Int) <= 90) = false:=decide_eq_false (by omega)
  have q4:decide ((48:Int) <= (c:Int)) = true:=decide_eq_true (by omega)
  have q5:decide ((c:Int) <= 57) = false:=decide_eq_false (by omega)
  have q6:decide ((c:Int) = 46) = false:=decide_eq_false (by omega)
  have q7:decide ((c:Int) = 95) = false:=decide_eq_false (by omega)
  have q8:decide ((c:Int) = 45) = false:=decide_eq_false (by omega)
  simp only [aA,Tryz.f253,KP,↓reduceIte,Nat.reduceEqDiff,Nat.reduceLT,reduceCtorEq,q0,q2,q3,q4,q5,q6,q7,q8]
  exact rfl
 ·rw [show sign c = true from by unfold sign; simp; omega]
  have q0:decide ((97:Int) <= (c:Int)) = true:=decide_eq_true (by omega)
  have q1:decide ((c:Int) <= 122) = true:=decide_eq_true (by omega)
  simp only [aA,Tryz.f253,KP,↓reduceIte,Nat.reduceEqDiff,Nat.reduceLT,reduceCtorEq,q0,q1]
  exact rfl
 ·rw [show sign c = false from by unfold sign; simp; omega]
  have q0:decide ((97:Int) <= (c:Int)) = true:=decide_eq_true (by omega)
  have q1:decide ((c:Int) <= 122) = false:=decide_eq_false (by omega)
  have q2:decide ((65:Int) <= (c:Int)) = true:=decide_eq_true (by omega)
  have q3:decide ((c:Int) <= 90) = false:=decide_eq_false (by omega)
  have q4:decide ((48:Int) <= (c:Int)) = true:=decide_eq_true (by omega)
  have q5:decide ((c:Int) <= 57) = false:=decide_eq_false (by omega)
  have q6:decide ((c:Int) = 46) = false:=decide_eq_false (by omega)
  have q7:decide ((c:Int) = 95) = false:=decide_eq_false (by omega)
  have q8:decide ((c:Int) = 45) = false:=decide_eq_false (by omega)
  simp only [aA,Tryz.f253,KP,↓reduceIte,Nat.reduceEqDiff,Nat.reduceLT,reduceCtorEq,q0,q1,q2,q3,q4,q5,q6,q7,q8]
  exact rfl
theorem Sb (h:bK E) {c:Nat}:KC E 253 [.int .i32 (c:Int)] Z (.bool (sign c)) Z:=dM fun _=>SY h
theorem Lq (h:bK E) {c:Nat}:aB E 252 [.int .i32 (c:Int)] Z K = K (.bool (!sign c)) Z:=by
 refine aB.of ?_
 rw [aH h.VS h.TD h.WD h.U4 (args':=[.int .i32 (c:Int)]) (by simp only [aU,show aZ Z E.ty true (.int .i32 (c:Int)) = some (.int .i32 (c:Int)) from rfl]),aW (by kernel_rfl)]
 have ks:=fun (Y:Sg)=>Sb (Z:=Y) h (c:=c)
 simp only [aA,Tryz.f252,KP,↓reduceIte,Nat.reduceLT,reduceCtorEq,ks]
 exact rfl
theorem byte_at {s:bA} {pos ch:Nat} (hc:s[pos]? = some ch) (h:ch < 256):((qR s).get! pos).toNat = ch:=by
 show ((s.map UInt8.ofNat).toArray[pos]!).toNat = ch
 have e:(s.map UInt8.ofNat).toArray[pos]? = some (UInt8.ofNat ch):=by simp [hc]
 rw [getElem!_def,e]
 simp only [UInt8.toNat_ofNat']
 omega
theorem O3 {s:bA} {pos ch:Nat} (hc:s[pos]? = some ch) (h1:¬ ch < 128) (h2:ch < 256):128 <= (Utf8.decode (qR s) pos).1:=by
 unfold Utf8.decode
 simp only [Nat.add_zero,byte_at hc h2,h1,if_false]
 repeat' split
 all_goals first
  | (simp only [Utf8.runeError]; omega)
  | (simp only [Bool.and_eq_true,beq_iff_eq,decide_eq_true_eq,ge_iff_le] at *; omega)
theorem F5 {c:Nat} (h:128 <= c):sign c = false:=by
 unfold sign; simp; omega
theorem Ik (h:bK E):lQ E 4 false (.bool true) (.bool true) = some true:=by unfold lQ; rw [h.CW]; rfl
theorem Sz (h:bK E):lQ E 4 false (.bool false) (.bool true) = some false:=by unfold lQ; rw [h.CW]; rfl
theorem b_xF (h:bK E) {s:bA} {k:Nat} {P:Nat -> Bool} (hsm:s.length <= 4294967296) (hP:∀ (Z:Sg) (r:Nat),aB E k [.int .i32 (r:Int)] Z fun u Y=>Y = Z /\ u = .bool (P r)) (hhi:∀ r,128 <= r -> P r = true):aB E 308 [.str s,.fn k [] [],.bool true] Z fun v Y=>Y = Z /\ ∃ n:Int,v = .int .i64 n /\ decide (0 <= n) = s.any P:=by
 have ef:=qU (E:=E) (k:=k) (caps:=[]) (fun _ h=>by cases h) Z
 rw [aH h.VO h.TA h.WA h.U1 (args':=[.str s,.fn k [] [],.bool true]) (by simp only [aU,cJ,ef,show aZ Z E.ty true (.bool true) = some (.bool true) from rfl]),aW (by kernel_rfl)]
 simp only [aA,Tryz.f308,KP,↓reduceIte,Nat.reduceLT,Nat.reduceAdd,reduceCtorEq,Int.reduceNeg,h.cQ,oD]
 refine aS (fun i F Y=>Y = [.Hi s i] /\ F.get 1 = .fn k [] [] /\ F.get 2 = .bool true /\ F.get 10 = .ref 0 0 /\ ∀ j y,j < i -> s[j]? = some y -> P y = false) s.length ?_ ?_ s.length 0 _ _ (by omega) ⟨rfl,(iL (by simp +decide only [GS,and_self]) (fun j y hj=>by omega))⟩
 ·rintro i F Y hi ⟨rfl,g1,g2,g10,hp⟩ next
  obtain ⟨x,hx⟩:∃ x,s[i]? = some x:=⟨_,List.getElem?_eq_getElem hi⟩
  rw [aG]
  by_cases h128:x < 128
  ·simp only [KP,↓reduceIte,Nat.reduceEqDiff,Nat.reduceLT,Int.reduceNeg,g1,g10,u_,hx,h128]
   refine aL (hP _ x) ?_
   rintro u Y ⟨rfl,rfl⟩
   by_cases hxs:P x = true
   ·simp only [KP,↓reduceIte,Nat.reduceEqDiff,Nat.reduceLT,Int.reduceNeg,g2,hxs,Ik h]
    exact ⟨_,rfl,by rw [show s.any P = true from List.any_eq_true.2 ⟨x,List.mem_of_getElem? hx,hxs⟩]; exact decide_eq_true (by omega)⟩
   ·have hxs:P x = false:=by simpa using hxs
    simp only [KP,↓reduceIte,Nat.reduceEqDiff,Nat.reduceLT,Int.reduceNeg,g2,hxs,Sz h]
    refine next _ _ ⟨rfl,(iL (by simp +decide only [GS,g1,g2,g10,and_self]) (fun j y hj hy=>?_))⟩
    rcases Nat.lt_or_ge j i with g | g
    ·exact hp j y g hy
    ·obtain rfl:j = i:=by omega
     rw [hx] at hy; cases hy; exact hxs
  have hany:s.any P = true:=List.any_eq_true.2 ⟨x,List.mem_of_getElem? hx,hhi x (by omega)⟩
  by_cases h256:x < 256
  ·simp only [KP,↓reduceIte,Nat.reduceEqDiff,Nat.reduceLT,Int.reduceNeg,g1,g10,u_,hx,h128,h256]
   refine aL (hP _ (Utf8.decode (qR s) i).1) ?_
   rintro u Y ⟨rfl,rfl⟩
   have hxs:=hhi _ (O3 hx h128 h256)
   simp only [KP,↓reduceIte,Nat.reduceEqDiff,Nat.reduceLT,Int.reduceNeg,g2,hxs,Ik h]
   exact ⟨_,rfl,by rw [hany]; exact decide_eq_true (by omega)⟩
  ·simp only [KP,↓reduceIte,Nat.reduceEqDiff,Nat.reduceLT,Int.reduceNeg,g1,g10,u_,hx,h128,h256]
   refine aL (hP _ 65533) ?_
   rintro u Y ⟨rfl,rfl⟩
   have hxs:=hhi _ (show 128 <= 65533 by omega)
   simp only [KP,↓reduceIte,Nat.reduceEqDiff,Nat.reduceLT,Int.reduceNeg,g2,hxs,Ik h]
   exact ⟨_,rfl,by rw [hany]; exact decide_eq_true (by omega)⟩
 ·rintro F Y ⟨rfl,g1,g2,g10,hp⟩
  have hx:s[s.length]? = none:=List.getElem?_eq_none (Nat.le_refl _)
  rw [aG]
  simp only [KP,↓reduceIte,Nat.reduceLT,Int.reduceNeg,g10,u_,hx]
  refine ⟨-1,rfl,?_⟩
  rw [show s.any P = false from List.any_eq_false.2 fun x hx=>by
   obtain ⟨j,hj,e⟩:=List.getElem_of_mem hx
   rw [hp j x hj (by rw [List.getElem?_eq_getElem hj,e])]; simp]
  rfl
theorem S3 (h:bK E) {s:bA} {k:Nat} {P:Nat -> Bool} (hsm:s.length <= 4294967296) (hP:∀ (Z:Sg) (r:Nat),aB E k [.int .i32 (r:Int)] Z fun u Y=>Y = Z /\ u = .bool (P r)) (hhi:∀ r,128 <= r -> P r = true):aB E 287 [.str s,.fn k [] []] Z fun v Y=>Y = Z /\ ∃ n:Int,v = .int .i64 n /\ decide (0 <= n) = s.any P:=by
 have ef:=qU (E:=E) (k:=k) (caps:=[]) (fun _ h=>by cases h) Z
 rw [aH h.VP h.TB h.WB h.U2 (args':=[.str s,.fn k [] []]) (by simp only [aU,cJ,ef]),aW (by kernel_rfl)]
 simp only [aA,Tryz.f287,KP,↓reduceIte,Nat.reduceEqDiff,Nat.reduceLT,Nat.reduceAdd,reduceCtorEq]
 refine aL (b_xF h hsm hP hhi) ?_
 rintro v Y ⟨rfl,n,rfl,hn⟩
 simp only [KP,↓reduceIte,Nat.reduceLT]
 exact ⟨n,rfl,hn⟩
theorem QD (h:bK E) {s:bA} {k:Nat} {P:Nat -> Bool} (hsm:s.length <= 4294967296) (hP:∀ (Z:Sg) (r:Nat),aB E k [.int .i32 (r:Int)] Z fun u Y=>Y = Z /\ u = .bool (P r)) (hhi:∀ r,128 <= r -> P r = true):aB E 251 [.str s,.fn k [] []] Z K = K (.bool (s.any P)) Z:=by
 refine aB.of ?_
 have ef:=qU (E:=E) (k:=k) (caps:=[]) (fun _ h=>by cases h) Z
 rw [aH h.VT h.TE h.WE h.U5 (args':=[.str s,.fn k [] []]) (by simp only [aU,cJ,ef]),aW (by kernel_rfl)]
 simp only [aA,Tryz.f251,KP,↓reduceIte,Nat.reduceEqDiff,Nat.reduceLT,Nat.reduceAdd,reduceCtorEq]
 refine aL (S3 h hsm hP hhi) ?_
 rintro v Y ⟨rfl,n,rfl,hn⟩
 simp only [KP,↓reduceIte,Nat.reduceLT,hn]
 exact rfl
theorem XN (h:bK E) {p:bA} (hsm:p.length <= 4294967296):aB E 224 [.str p] Z K = K (.bool (!qY p)) Z:=by
 refine aB.of ?_
 rw [aH h.VV h.TG h.WH h.U7 (args':=[.str p]) (by simp only [aU,cJ]),aW (by kernel_rfl)]
 by_cases h1:p = []
 ·have q1:=gQ h1
  simp only [aA,Tryz.f224,KP,↓reduceIte,Nat.reduceEqDiff,Nat.reduceLT,reduceCtorEq,jX,q1]
  rw [yR (.inl h1)]
  exact rfl
 have q1:=fP h1
 by_cases h2:p = [46]
 ·have q2:=gQ h2
  simp only [aA,Tryz.f224,KP,↓reduceIte,Nat.reduceEqDiff,Nat.reduceLT,reduceCtorEq,jX,La,q1,q2]
  rw [yR (.inr (.inl h2))]
  exact rfl
 have q2:=fP h2
 by_cases h3:p = [46,46]
 ·have q3:=gQ h3
  simp only [aA,Tryz.f224,KP,↓reduceIte,Nat.reduceEqDiff,Nat.reduceLT,reduceCtorEq,jX,La,Qk,q1,q2,q3]
  rw [yR (.inr (.inr h3))]
  exact rfl
 have q3:=fP h3
 have kc:=fun (Y:Sg)=>dM (fun K=>QD (Z:=Y) (K:=K) (s:=p) (k:=252) (P:=fun c=>!sign c) h hsm (fun Y r=>by rw [Lq h]; exact ⟨rfl,rfl⟩) (fun r hr=>by rw [F5 hr]; rfl))
 simp only [aA,Tryz.f224,KP,↓reduceIte,Nat.reduceEqDiff,Nat.reduceLT,reduceCtorEq,jX,La,Qk,q1,q2,q3,kc]
 rw [HS h1 h2 h3,List.not_all_eq_any_not]
 exact rfl
theorem yZ:∀ l:List bA,eT aK.P (l.map fun p=>[V.str p]) l
 | []=>.nil
 | _ :: l=>.cons rfl (yZ l)
theorem N_ (h:bK E) {s:bA} (hsm:s.length <= 1000000000):aB E 223 [.str s] Z fun v Y=>Y = Z /\ jY aK v (cC 47 s):=by
 rw [aH h.VW h.TH h.WI h.U8 (args':=[.str s]) (by simp only [aU,cJ]),aW (by kernel_rfl)]
 have hs:kS [.str s,.str [47]] = some (.bR false ((cC 47 s).map fun p=>[V.str p]) true):=by
  unfold kS
  exact if_pos (by omega)
 have iv:jY aK (.bR false ((cC 47 s).map fun p=>[V.str p]) true) (cC 47 s):=.inr ⟨_,_,rfl,yZ _⟩
 have h5:∀ Z,dD Z E.ty false (.bR false ((cC 47 s).map fun p=>[V.str p]) true) = some (.bR false ((cC 47 s).map fun p=>[V.str p]) true):=fun Z=>(show dD Z E.ty false (.bR false ((cC 47 s).map fun p=>[V.str p]) true) = aZ Z E.ty false (.bR false ((cC 47 s).map fun p=>[V.str p]) true) from rfl).trans (cR iv.is.bB iv.tag)
 have kc:=fun (Y:Sg)=>dM (fun K=>sP (Z:=Y) (K:=K) (args:=[.str s,.str [47]]) (args':=[.str s,.str [47]]) h.V6 h.TR (by simp only [aU,cJ]) hs (h5 []))
 have hb:Ax.bytes ⟨#[47]⟩ = [47]:=rfl
 simp only [aA,Tryz.f223,KP,↓reduceIte,Nat.reduceLT,reduceCtorEq,kc,h5,hb]
 exact iv
theorem EE {s:bA} (h:¬ s.length <= 40):bE s = false:=by unfold bE; rw [decide_eq_false h]; simp
theorem o_ {s:bA} (h:nZ s = true):bE s = false:=by unfold bE; rw [h]; rfl
theorem XO (h:bK E) {s:bA}:aB E 186 [.str s] Z K = K (.bool (bE s)) Z:=by
 refine aB.of ?_
 rw [aH h.V3 h.TO h.WQ h.Ve (args':=[.str s]) (by simp only [aU,cJ]),aW (by kernel_rfl)]
 by_cases w0:s = [114,117,108,101]
 ·have e0:=gQ w0
  simp only [aA,Tryz.f186,KP,↓reduceIte,Nat.reduceLT,reduceCtorEq,Cz,e0]
  rw [o_ (by rw [w0]; rfl)]
  exact rfl
 have e0:=fP w0
 by_cases w1:s = [105,110]
 ·have e1:=gQ w1
  simp only [aA,Tryz.f186,KP,↓reduceIte,Nat.reduceEqDiff,Nat.reduceLT,reduceCtorEq,Cz,E2,e0,e1]
  rw [o_ (by rw [w1]; rfl)]
  exact rfl
 have e1:=fP w1
 by_cases w2:s = [111,117,116]
 ·have e2:=gQ w2
  simp only [aA,Tryz.f186,KP,↓reduceIte,Nat.reduceEqDiff,Nat.reduceLT,reduceCtorEq,Cz,E2,Im,e0,e1,e2]
  rw [o_ (by rw [w2]; rfl)]
  exact rfl
 have e2:=fP w2
 by_cases w3:s = [97,102,116,101,114]
 ·have e3:=gQ w3
  simp only [aA,Tryz.f186,KP,↓reduceIte,Nat.reduceEqDiff,Nat.reduceLT,reduceCtorEq,Cz,E2,Im,NP,e0,e1,e2,e3]
  rw [o_ (by rw [w3]; rfl)]
  exact rfl
 have e3:=fP w3
 by_cases h40:s.length <= 40
 case neg=>
  have q1:decide ((s.length:Int) <= 40) = false:=decide_eq_false (by omega)
  rw [EE h40]
  simp only [aA,Tryz.f186,KP,↓reduceIte,Nat.reduceEqDiff,Nat.reduceLT,reduceCtorEq,fK h,Cz,E2,Im,NP,e0,e1,e2,e3,q1]
  exact rfl
 have q1:decide ((s.length:Int) <= 40) = true:=decide_eq_true (by omega)
 have hr:nZ s = false:=by unfold nZ; rw [decide_eq_false w0,decide_eq_false w1,decide_eq_false w2,decide_eq_false w3]; rfl
 rw [M0 hr h40]
 simp only [aA,Tryz.f186,KP,↓reduceIte,Nat.reduceEqDiff,Nat.reduceLT,reduceCtorEq,fK h,Cz,E2,Im,NP,e0,e1,e2,e3,q1]
 refine aL (N_ h (by omega)) ?_
 rintro v σ' ⟨rfl,hv⟩
 have hPl:=qT 47 s
 have hPp:=sU (s:=s) rfl
 generalize cC 47 s = P at *
 have kc:=fun (Y:Sg)=>JD (Z:=Y) (k:=224) (caps:=[]) (P:=fun p=>!qY p) h (hv.is.ls Y 9) (by omega) (fun _ h=>by cases h) (fun y v hy hv=>by
  subst hv
  have:=hPp y hy
  show aB E 224 [.str y] [] _
  rw [XN h (by omega)]; exact ⟨rfl,rfl⟩)
 simp only [KP,↓reduceIte,Nat.reduceEqDiff,Nat.reduceLT,kc]
 rw [<- List.not_all_eq_any_not,Bool.not_not]
 exact rfl
theorem VL (h:bK E) {s:bA}:KC E 186 [.str s] Z (.bool (bE s)) Z:=dM fun _=>XO h
end
end
section
section
variable {E:Env} {Z:Sg} {K:V -> Sg -> Prop}
theorem N9 (h:bK E) {p:Int}:aB E 169 [.int .i64 p] Z K = K (.fI [.int .i64 ((counts p).1:Nat),.int .i64 ((counts p).2.1:Nat),.int .i64 ((counts p).2.2:Nat)]) Z:=by
 refine aB.of ?_
 rw [aH h.V8 h.TT h.WU h.Vi (args':=[.int .i64 p]) (by simp only [aU,show aZ Z E.ty true (.int .i64 p) = some (.int .i64 p) from rfl]),aW (by kernel_rfl)]
 by_cases p5:p = 5
 ·have q5:decide (p = 5) = true:=decide_eq_true p5
  simp only [aA,Tryz.f169,KP,↓reduceIte,Nat.reduceEqDiff,Nat.reduceLT,reduceCtorEq,q5]
  rw [p5]
  exact rfl
 have q5:decide (p = 5) = false:=decide_eq_false p5
 by_cases p6:p = 6
 ·have q6:decide (p = 6) = true:=decide_eq_true p6
  simp only [aA,Tryz.f169,KP,↓reduceIte,Nat.reduceEqDiff,Nat.reduceLT,reduceCtorEq,q5,q6]
  rw [p6]
  exact rfl
 have q6:decide (p = 6) = false:=decide_eq_false p6
 by_cases p7:p = 7
 ·have q7:decide (p = 7) = true:=decide_eq_true p7
  simp only [aA,Tryz.f169,KP,↓reduceIte,Nat.reduceEqDiff,Nat.reduceLT,reduceCtorEq,q5,q6,q7]
  rw [p7]
  exact rfl
 have q7:decide (p = 7) = false:=decide_eq_false p7
 by_cases p8:p = 8
 ·have q8:decide (p = 8) = true:=decide_eq_true p8
  simp only [aA,Tryz.f169,KP,↓reduceIte,Nat.reduceEqDiff,Nat.reduceLT,reduceCtorEq,q5,q6,q7,q8]
  rw [p8]
  exact rfl
 have q8:decide (p = 8) = false:=decide_eq_false p8
 have e:counts p = (1,1,0):=by unfold counts; rw [if_neg p5,if_neg p6,if_neg p7,if_neg p8]
 rw [e]
 simp only [aA,Tryz.f169,KP,↓reduceIte,Nat.reduceEqDiff,Nat.reduceLT,reduceCtorEq,q5,q6,q7,q8]
 exact rfl
theorem Np (h:bK E) {p:Int}:KC E 169 [.int .i64 p] Z (.fI [.int .i64 ((counts p).1:Nat),.int .i64 ((counts p).2.1:Nat),.int .i64 ((counts p).2.2:Nat)]) Z:=dM fun _=>N9 h
theorem Lr (h:bK E) {s:bA}:aB E 170 [.str s] Z K = K (.bool (decide (100 < s.length))) Z:=by
 refine aB.of ?_
 rw [aH h.V7 h.TS h.WT h.Vh (args':=[.str s]) (by simp only [aU,cJ]),aW (by kernel_rfl)]
 simp only [aA,Tryz.f170,KP,↓reduceIte,Nat.reduceLT,reduceCtorEq,fK h]
 rw [show decide ((100:Int) < (s.length:Int)) = decide (100 < s.length) from by rw [decide_eq_decide]; omega]
 exact rfl
theorem Gd {x:AxS.Step}:cA x = true ↔ ((1 <= x.op /\ x.op <= 9) /\ ((counts x.op).1 <= x.args.length /\ x.args.length <= (counts x.op).2.1)) /\ x.lits.length = (counts x.op).2.2 /\ (x.lits.any fun l=>decide (100 < l.length)) = false /\ (x.op = 8 -> x.lits.head? ≠ some []) /\ (0 <= x.n /\ x.n <= 2000) /\ (x.op = 9 \/ x.n = 0):=by
 have e:x.lits.all (fun l=>decide (l.length <= 100)) = !(x.lits.any fun l=>decide (100 < l.length)):=by
  rw [List.not_any_eq_all_not]
  congr 1
  funext l
  rw [<- decide_not,decide_eq_decide]
  omega
 unfold cA
 rw [e]
 simp only [Bool.and_eq_true,decide_eq_true_eq,and_assoc,Bool.not_eq_true']
theorem pX {x:AxS.Step} (h:¬ (cA x = true)):cA x = false:=by simpa using h
theorem Ln (h:bK E) {v:V} {x:AxS.Step} (hv:LD v x) (hsm:x.lits.length <= 4294967296):aB E 125 [v] Z K = K (.bool (cA x)) Z:=by
 refine aB.of ?_
 have ev:=hv.snap (E:=E) Z
 obtain ⟨a,b,rfl,ia,ib⟩:=hv
 have hoka:a.aV = true:=aI ia.bB
 have hokb:b.aV = true:=aI ib.bB
 rw [aH h.Wh h.T3 h.W7 h.Vr (args':=[.agg [.str x.out,.int .i64 x.op,a,b,.int .i64 x.n]]) (by simp only [aU,ev]),aW (by kernel_rfl)]
 have la:=bL h ia
 have lb:=bL h ib
 have hm:=Gd (x:=x)
 have kc:=fun (Y:Sg)=>Np (Z:=Y) h (p:=x.op)
 have kl:=fun (Y:Sg)=>JD (Z:=Y) (k:=170) (caps:=[]) (P:=fun l=>decide (100 < l.length)) h (ib.ls Y 9) hsm (fun _ h=>by cases h) (fun y v hy hv=>by
  subst hv
  show aB E 170 [.str y] [] _
  rw [Lr h]; exact ⟨rfl,rfl⟩)
 have h8:x.op = 8 -> (counts x.op).2.2 = 2:=fun e=>by rw [e]; rfl
 generalize (counts x.op).1 = A at *
 generalize (counts x.op).2.1 = B at *
 generalize (counts x.op).2.2 = C at *
 by_cases p1:1 <= x.op
 case neg=>
  have q1:decide (x.op < 1) = true:=decide_eq_true (by omega)
  rw [pX (mt hm.1 fun hh=>by omega)]
  simp only [aA,Tryz.f125,KP,Ax.loadAt,↓reduceIte,Nat.reduceEqDiff,Nat.reduceLT,Nat.reduceAdd,reduceCtorEq,h.pP,h.cN,kc,hoka,hokb,q1]
  exact rfl
 have q1:decide (x.op < 1) = false:=decide_eq_false (by omega)
 by_cases p2:x.op <= 9
 case neg=>
  have q2:decide ((9:Int) < x.op) = true:=decide_eq_true (by omega)
  rw [pX (mt hm.1 fun hh=>by omega)]
  simp only [aA,Tryz.f125,KP,Ax.loadAt,↓reduceIte,Nat.reduceEqDiff,Nat.reduceLT,Nat.reduceAdd,reduceCtorEq,h.pP,h.cN,kc,hoka,hokb,q1,q2]
  exact rfl
 have q2:decide ((9:Int) < x.op) = false:=decide_eq_false (by omega)
 by_cases p3:A <= x.args.length
 case neg=>
  have q3:decide ((x.args.length:Int) < (A:Int)) = true:=decide_eq_true (by omega)
  rw [pX (mt hm.1 fun hh=>by omega)]
  simp only [aA,Tryz.f125,KP,Ax.loadAt,↓reduceIte,Nat.reduceEqDiff,Nat.reduceLT,Nat.reduceAdd,reduceCtorEq,h.pP,h.aX,h.cN,kc,la,hoka,hokb,q1,q2,q3]
  exact rfl
 have q3:decide ((x.args.length:Int) < (A:Int)) = false:=decide_eq_false (by omega)
 by_cases p4:x.args.length <= B
 case neg=>
  have q4:decide ((B:Int) < (x.args.length:Int)) = true:=decide_eq_true (by omega)
  rw [pX (mt hm.1 fun hh=>by omega)]
  simp only [aA,Tryz.f125,KP,Ax.loadAt,↓reduceIte,Nat.reduceEqDiff,Nat.reduceLT,Nat.reduceAdd,reduceCtorEq,h.pP,h.aX,h.cN,kc,la,hoka,hokb,q1,q2,q3,q4]
  exact rfl
 have q4:decide ((B:Int) < (x.args.length:Int)) = false:=decide_eq_false (by omega)
 by_cases p5:x.lits.length = C
 case neg=>
  have q5:decide ((x.lits.length:Int) = (C:Int)) = false:=decide_eq_false (by omega)
  rw [pX (mt hm.1 fun hh=>by omega)]
  simp only [aA,Tryz.f125,KP,Ax.loadAt,↓reduceIte,Nat.reduceEqDiff,Nat.reduceLT,Nat.reduceAdd,reduceCtorEq,h.pP,h.aX,h.cN,kc,la,lb,hoka,hokb,q1,q2,q3,q4,q5]
  exact rfl
 have q5:decide ((x.lits.length:Int) = (C:Int)) = true:=decide_eq_true (by omega)
 by_cases p6:(x.lits.any fun l=>decide (100 < l.length)) = true
 ·rw [pX (mt hm.1 fun hh=>by rw [p6] at hh; simp at hh)]
  simp only [aA,Tryz.f125,KP,Ax.loadAt,↓reduceIte,Nat.reduceEqDiff,Nat.reduceLT,Nat.reduceAdd,reduceCtorEq,h.pP,h.aX,h.cN,kc,kl,la,lb,hoka,hokb,q1,q2,q3,q4,q5,p6]
  exact rfl
 have q6:(x.lits.any fun l=>decide (100 < l.length)) = false:=by simpa using p6
 by_cases p8:x.op = 8
 ·have q8:decide (x.op = 8) = true:=decide_eq_true p8
  have hC:=h8 p8
  obtain ⟨y,r,hyr⟩:=List.exists_cons_of_ne_nil (show x.lits ≠ [] from fun e=>by rw [e] at p5; simp at p5; omega)
  obtain ⟨g,e1⟩:=gB h ib (i:=0) (x:=y) (by rw [hyr]; rfl)
  have e1:indexAddr E 28 b (.int .i64 0) = some (.dB g [.str y]):=e1
  by_cases hy:y = []
  ·have e2:=gQ hy
   rw [pX (mt hm.1 fun hh=>hh.2.2.2.1 p8 (by rw [hyr,hy]; rfl))]
   simp only [aA,Tryz.f125,KP,Ax.loadAt,↓reduceIte,Nat.reduceEqDiff,Nat.reduceLT,Nat.reduceAdd,reduceCtorEq,h.pP,h.cQ,h.aX,h.cN,jX,kc,kl,la,lb,hoka,hokb,q1,q2,q3,q4,q5,q6,q8,e1,e2]
   exact rfl
  have e2:=fP hy
  have hh8:x.op = 8 -> x.lits.head? ≠ some []:=fun _=>by rw [hyr]; simpa using hy
  by_cases p9:0 <= x.n
  case neg=>
   have q9:decide (x.n < 0) = true:=decide_eq_true (by omega)
   rw [pX (mt hm.1 fun hh=>by omega)]
   simp only [aA,Tryz.f125,KP,Ax.loadAt,↓reduceIte,Nat.reduceEqDiff,Nat.reduceLT,Nat.reduceAdd,reduceCtorEq,h.pP,h.cQ,h.aX,h.cN,jX,kc,kl,la,lb,hoka,hokb,q1,q2,q3,q4,q5,q6,q8,e1,e2,q9]
   exact rfl
  have q9:decide (x.n < 0) = false:=decide_eq_false (by omega)
  by_cases p10:x.n <= 2000
  case neg=>
   have Fg:decide ((2000:Int) < x.n) = true:=decide_eq_true (by omega)
   rw [pX (mt hm.1 fun hh=>by omega)]
   simp only [aA,Tryz.f125,KP,Ax.loadAt,↓reduceIte,Nat.reduceEqDiff,Nat.reduceLT,Nat.reduceAdd,reduceCtorEq,h.pP,h.cQ,h.aX,h.cN,jX,kc,kl,la,lb,hoka,hokb,q1,q2,q3,q4,q5,q6,q8,e1,e2,q9,Fg]
   exact rfl
  have Fg:decide ((2000:Int) < x.n) = false:=decide_eq_false (by omega)
  by_cases p11:x.op = 9
  ·have Hj:decide (x.op = 9) = true:=decide_eq_true p11
   rw [hm.2 ⟨⟨⟨p1,p2⟩,p3,p4⟩,p5,q6,hh8,⟨p9,p10⟩,.inl p11⟩]
   simp only [aA,Tryz.f125,KP,Ax.loadAt,↓reduceIte,Nat.reduceEqDiff,Nat.reduceLT,Nat.reduceAdd,reduceCtorEq,h.pP,h.cQ,h.aX,h.cN,jX,kc,kl,la,lb,hoka,hokb,q1,q2,q3,q4,q5,q6,q8,e1,e2,q9,Fg,Hj]
   exact rfl
  have Hj:decide (x.op = 9) = false:=decide_eq_false p11
  by_cases p12:x.n = 0
  case neg=>
   have LG:decide (x.n = 0) = false:=decide_eq_false (by omega)
   rw [pX (mt hm.1 fun hh=>by omega)]
   simp only [aA,Tryz.f125,KP,Ax.loadAt,↓reduceIte,Nat.reduceEqDiff,Nat.reduceLT,Nat.reduceAdd,reduceCtorEq,h.pP,h.cQ,h.aX,h.cN,jX,kc,kl,la,lb,hoka,hokb,q1,q2,q3,q4,q5,q6,q8,e1,e2,q9,Fg,Hj,LG]
   exact rfl
  have LG:decide (x.n = 0) = true:=decide_eq_true (by omega)
  rw [hm.2 ⟨⟨⟨p1,p2⟩,p3,p4⟩,p5,q6,hh8,⟨p9,p10⟩,.inr p12⟩]
  simp only [aA,Tryz.f125,KP,Ax.loadAt,↓reduceIte,Nat.reduceEqDiff,Nat.reduceLT,Nat.reduceAdd,reduceCtorEq,h.pP,h.cQ,h.aX,h.cN,jX,kc,kl,la,lb,hoka,hokb,q1,q2,q3,q4,q5,q6,q8,e1,e2,q9,Fg,Hj,LG]
  exact rfl
 ·have q8:decide (x.op = 8) = false:=decide_eq_false p8
  have hh8:x.op = 8 -> x.lits.head? ≠ some []:=fun e=>absurd e p8
  by_cases p9:0 <= x.n
  case neg=>
   have q9:decide (x.n < 0) = true:=decide_eq_true (by omega)
   rw [pX (mt hm.1 fun hh=>by omega)]
   simp only [aA,Tryz.f125,KP,Ax.loadAt,↓reduceIte,Nat.reduceEqDiff,Nat.reduceLT,Nat.reduceAdd,reduceCtorEq,h.pP,h.aX,h.cN,kc,kl,la,lb,hoka,hokb,q1,q2,q3,q4,q5,q6,q8,q9]
   exact rfl
  have q9:decide (x.n < 0) = false:=decide_eq_false (by omega)
  by_cases p10:x.n <= 2000
  case neg=>
   have Fg:decide ((2000:Int) < x.n) = true:=decide_eq_true (by omega)
   rw [pX (mt hm.1 fun hh=>by omega)]
   simp only [aA,Tryz.f125,KP,Ax.loadAt,↓reduceIte,Nat.reduceEqDiff,Nat.reduceLT,Nat.reduceAdd,reduceCtorEq,h.pP,h.aX,h.cN,kc,kl,la,lb,hoka,hokb,q1,q2,q3,q4,q5,q6,q8,q9,Fg]
   exact rfl
  have Fg:decide ((2000:Int) < x.n) = false:=decide_eq_false (by omega)
  by_cases p11:x.op = 9
  ·have Hj:decide (x.op = 9) = true:=decide_eq_true p11
   rw [hm.2 ⟨⟨⟨p1,p2⟩,p3,p4⟩,p5,q6,hh8,⟨p9,p10⟩,.inl p11⟩]
   simp only [aA,Tryz.f125,KP,Ax.loadAt,↓reduceIte,Nat.reduceEqDiff,Nat.reduceLT,Nat.reduceAdd,reduceCtorEq,h.pP,h.aX,h.cN,kc,kl,la,lb,hoka,hokb,q1,q2,q3,q4,q5,q6,q8,q9,Fg,Hj]
   exact rfl
  have Hj:decide (x.op = 9) = false:=decide_eq_false p11
  by_cases p12:x.n = 0
  case neg=>
   have LG:decide (x.n = 0) = false:=decide_eq_false (by omega)
   rw [pX (mt hm.1 fun hh=>by omega)]
   simp only [aA,Tryz.f125,KP,Ax.loadAt,↓reduceIte,Nat.reduceEqDiff,Nat.reduceLT,Nat.reduceAdd,reduceCtorEq,h.pP,h.aX,h.cN,kc,kl,la,lb,hoka,hokb,q1,q2,q3,q4,q5,q6,q8,q9,Fg,Hj,LG]
   exact rfl
  have LG:decide (x.n = 0) = true:=decide_eq_true (by omega)
  rw [hm.2 ⟨⟨⟨p1,p2⟩,p3,p4⟩,p5,q6,hh8,⟨p9,p10⟩,.inr p12⟩]
  simp only [aA,Tryz.f125,KP,Ax.loadAt,↓reduceIte,Nat.reduceEqDiff,Nat.reduceLT,Nat.reduceAdd,reduceCtorEq,h.pP,h.aX,h.cN,kc,kl,la,lb,hoka,hokb,q1,q2,q3,q4,q5,q6,q8,q9,Fg,Hj,LG]
  exact rfl
theorem KR (h:bK E) {v:V} {x:AxS.Step} (hv:LD v x) (hsm:x.lits.length <= 4294967296):KC E 125 [v] Z (.bool (cA x)) Z:=dM fun _=>Ln h hv hsm
end
end
section
section
variable {E:Env} {Z:Sg} {K:V -> Sg -> Prop}
theorem D9 (h:bK E) {s:bA}:aB E 199 [.str s] Z K = K (.bool (!bE s)) Z:=by
 refine aB.of ?_
 rw [aH h.V2 h.TN h.WO h.Vd (args':=[.str s]) (by simp only [aU,cJ]),aW (by kernel_rfl)]
 have kc:=fun (Y:Sg)=>VL (Z:=Y) h (s:=s)
 simp only [aA,Tryz.f199,KP,↓reduceIte,Nat.reduceLT,reduceCtorEq,kc]
 exact rfl
theorem DP (h:bK E) {s:bA}:KC E 199 [.str s] Z (.bool (!bE s)) Z:=dM fun _=>D9 h
theorem A4 (h:bK E) {a:V} {l:List bA} (ha:LS aK 9 Z a l) (hsm:l.length <= 4294967296):KC E 67 [a,.fn 199 [] []] Z (.bool (!(l.all bE))) Z:=dM fun _=>by rw [List.not_all_eq_any_not]; exact JX (k:=199) (caps:=[]) (P:=fun s=>!bE s) h ha hsm (fun _ h=>by cases h) (fun y v hy hv=>by subst hv; show aB E 199 [.str y] [] _; rw [D9 h]; exact ⟨rfl,rfl⟩)
def Kg (s:AxS.Step):Bool:=bE s.out && s.args.all bE && cA s
theorem Qw (h:bK E) {v:V} {x:AxS.Step} (hv:LD v x) (h1:x.args.length <= 4294967296) (h2:x.lits.length <= 4294967296):aB E 201 [v] Z K = K (.bool (!Kg x)) Z:=by
 refine aB.of ?_
 have ev:=hv.snap (E:=E) Z
 obtain ⟨a,b,rfl,ia,ib⟩:=hv
 have hoka:a.aV = true:=aI ia.bB
 have hokb:b.aV = true:=aI ib.bB
 rw [aH h.V0 h.TL h.WM h.Vb (args':=[.agg [.str x.out,.int .i64 x.op,a,b,.int .i64 x.n]]) (by simp only [aU,ev]),aW (by kernel_rfl)]
 have k1:=fun (Y:Sg)=>DP (Z:=Y) h (s:=x.out)
 have k2:=fun (Y:Sg)=>A4 (Z:=Y) h (ia.ls Y 9) h1
 have k3:=fun (Y:Sg)=>KR (Z:=Y) h (v:=.agg [.str x.out,.int .i64 x.op,a,b,.int .i64 x.n]) ⟨a,b,rfl,ia,ib⟩ h2
 unfold Kg
 cases e1:bE x.out with
 | false=>
  simp only [aA,Tryz.f201,KP,Ax.loadAt,↓reduceIte,Nat.reduceEqDiff,Nat.reduceLT,Nat.reduceAdd,reduceCtorEq,h.cQ,h.cN,hoka,hokb,k1,e1]
  exact rfl
 | true=>
  cases e2:x.args.all bE with
  | false=>
   simp only [aA,Tryz.f201,KP,Ax.loadAt,↓reduceIte,Nat.reduceEqDiff,Nat.reduceLT,Nat.reduceAdd,reduceCtorEq,h.cQ,h.aX,h.cN,hoka,hokb,k1,k2,e1,e2]
   exact rfl
  | true=>
   simp only [aA,Tryz.f201,KP,Ax.loadAt,↓reduceIte,Nat.reduceEqDiff,Nat.reduceLT,Nat.reduceAdd,reduceCtorEq,h.cQ,h.aX,h.cN,hoka,hokb,k1,k2,k3,e1,e2]
   exact rfl
theorem DV (r:aF):jK r = (bE r.name && decide (r.outs ≠ []) && r.ins.all bE && r.outs.all bE && r.after.all bE && r.steps.all Kg):=rfl
theorem Qv (h:bK E) {v:V} {x:aF} (hv:G_ v x) (hs:Small x):aB E 167 [v] Z K = K (.bool (jK x)) Z:=by
 refine aB.of ?_
 have ev:=hv.snap (E:=E) Z
 obtain ⟨a,b,c,d,rfl,ia,ib,ic,id⟩:=hv
 have o1:=aI ia.bB
 have o2:=aI ib.bB
 have o3:=aI ic.bB
 have o4:=aI id.bB
 have l1:=hs.ins
 have l2:=hs.outs
 have l3:=hs.after
 have l4:=hs.steps
 rw [aH h.V_ h.TV h.WW h.Vk (args':=[.agg [.str x.name,a,b,c,d]]) (by simp only [aU,ev]),aW (by kernel_rfl)]
 have lb:=bL h ib
 have kn:=fun (Y:Sg)=>DP (Z:=Y) h (s:=x.name)
 have k1:=fun (Y:Sg)=>A4 (Z:=Y) h (ia.ls Y 9) (by omega)
 have k2:=fun (Y:Sg)=>A4 (Z:=Y) h (ib.ls Y 9) (by omega)
 have k3:=fun (Y:Sg)=>A4 (Z:=Y) h (ic.ls Y 9) (by omega)
 have k4:=fun (Y:Sg)=>KY (Z:=Y) (k:=201) (caps:=[]) (P:=fun s=>!Kg s) h (id.ls Y 75) (by omega) (fun _ h=>by cases h) (fun y v hy hv=>by
  have hy1:=hs.args y hy
  have hy2:=hs.lits y hy
  show aB E 201 [v] [] _
  rw [Qw h hv (by omega) (by omega)]; exact ⟨rfl,rfl⟩)
 rw [DV]
 cases e0:bE x.name with
 | false=>
  simp only [aA,Tryz.f167,KP,Ax.loadAt,↓reduceIte,Nat.reduceEqDiff,Nat.reduceLT,Nat.reduceAdd,reduceCtorEq,h.cQ,h.bG,o1,o2,o3,o4,kn,e0]
  exact rfl
 | true=>
 by_cases h0:x.outs = []
 ·have q0:decide ((x.outs.length:Int) = 0) = true:=decide_eq_true (by rw [h0]; rfl)
  simp only [aA,Tryz.f167,KP,Ax.loadAt,↓reduceIte,Nat.reduceEqDiff,Nat.reduceLT,Nat.reduceAdd,reduceCtorEq,h.cQ,h.aX,h.bG,o1,o2,o3,o4,kn,e0,lb,q0]
  rw [h0]
  exact rfl
 have q0:decide ((x.outs.length:Int) = 0) = false:=decide_eq_false (by have:=List.length_pos_iff.2 h0; omega)
 rw [show decide (x.outs ≠ []) = true from decide_eq_true h0]
 have hf:Ax.fill (fun j=>some (j * 1,1)) (gX 3 [V.aD]) [(0,a),(1,b),(2,c)] = some [a,b,c]:=by
  rcases ia with ⟨rfl,-⟩ | ⟨_,_,_,rfl,-⟩ <;> rcases ib with ⟨rfl,-⟩ | ⟨_,_,_,rfl,-⟩ <;> rcases ic with ⟨rfl,-⟩ | ⟨_,_,_,rfl,-⟩ <;> rfl
 have lz:∀ Z,lenOf E Z 30 (.sl 1 0 3 none) = some 3:=fun Z=>by unfold lenOf; rw [h.LR]
 have i0:indexAddr E 30 (.sl 1 0 3 none) (.int .i64 0) = some (.ref 1 0):=by unfold Ax.indexAddr; simp only [h.LR,h.aX]; rfl
 have i1:indexAddr E 30 (.sl 1 0 3 none) (.int .i64 1) = some (.ref 1 1):=by unfold Ax.indexAddr; simp only [h.LR,h.aX]; rfl
 have i2:indexAddr E 30 (.sl 1 0 3 none) (.int .i64 2) = some (.ref 1 2):=by unfold Ax.indexAddr; simp only [h.LR,h.aX]; rfl
 have d0:decide ((0:Int) < ((3:Nat):Int)) = true:=rfl
 have d1:decide ((1:Int) < ((3:Nat):Int)) = true:=rfl
 have d2:decide ((2:Int) < ((3:Nat):Int)) = true:=rfl
 have d3:decide ((3:Int) < ((3:Nat):Int)) = false:=rfl
 have w1:wr .i64 1 = 1:=rfl
 have w2:wr .i64 2 = 2:=rfl
 have w3:wr .i64 3 = 3:=rfl
 simp only [aA,Tryz.f167,KP,Ax.loadAt,↓reduceIte,Nat.reduceEqDiff,Nat.reduceLT,Nat.reduceLeDiff,Nat.reduceAdd,Nat.reduceMul,reduceCtorEq,h.cQ,h.aX,h.LR,h.bG,o1,o2,o3,o4,kn,e0,lb,q0,hf,lz]
 rw [aG]
 cases e1:x.ins.all bE with
 | false=>
  simp only [KP,Ax.loadAt,↓reduceIte,Nat.reduceEqDiff,Nat.reduceLT,h.aX,k1,e1,i0,d0]
  exact rfl
 | true=>
 simp only [KP,Ax.loadAt,↓reduceIte,Nat.reduceEqDiff,Nat.reduceLT,Int.reduceAdd,h.aX,k1,e1,w1,i0,d0]
 rw [aG]
 cases e2:x.outs.all bE with
 | false=>
  simp only [KP,Ax.loadAt,↓reduceIte,Nat.reduceEqDiff,Nat.reduceLT,h.aX,k2,e2,i1,d1]
  exact rfl
 | true=>
 simp only [KP,Ax.loadAt,↓reduceIte,Nat.reduceEqDiff,Nat.reduceLT,Int.reduceAdd,h.aX,k2,e2,w2,i1,d1]
 rw [aG]
 cases e3:x.after.all bE with
 | false=>
  simp only [KP,Ax.loadAt,↓reduceIte,Nat.reduceEqDiff,Nat.reduceLT,h.aX,k3,e3,i2,d2]
  exact rfl
 | true=>
 simp only [KP,Ax.loadAt,↓reduceIte,Nat.reduceEqDiff,Nat.reduceLT,Int.reduceAdd,h.aX,k3,e3,w3,i2,d2]
 rw [aG]
 have e4:x.steps.all Kg = !(x.steps.any fun s=>!Kg s):=by rw [<- List.not_all_eq_any_not,Bool.not_not]
 rw [e4]
 simp only [KP,Ax.loadAt,↓reduceIte,Nat.reduceEqDiff,Nat.reduceLT,reduceCtorEq,h.fH,h.bG,k4,d3]
 exact rfl
theorem PB (h:bK E) {v:V} {x:aF} (hv:G_ v x) (hs:Small x):KC E 167 [v] Z (.bool (jK x)) Z:=dM fun _=>Qv h hv hs
end
end
section
section
variable {E:Env} {Z:Sg} {K:V -> Sg -> Prop}
theorem NX (h:bK E) {a:V} {l:List bA} (ha:LS aK 9 Z a l) (hsm:l.length <= 4294967296):aB E 202 [a] Z K = K (.bool (jA l)) Z:=by
 refine aB.of ?_
 obtain ⟨a',ea,ia⟩:=jM h ha
 rw [aH h.VZ h.TK h.WL h.Va (args':=[a']) (by simp only [aU,ea]),aW (by kernel_rfl)]
 have la:=bL h ia
 simp only [aA,Tryz.f202,KP,↓reduceIte,Nat.reduceLT,reduceCtorEq,la]
 refine aS (fun i F Y=>Y = [] /\ F.get 0 = a' /\ F.get 5 = a' /\ F.get 6 = .int .i64 (l.length:Int) /\ F.get 7 = .int .i64 (i:Int) /\ ∀ (j:Nat) (y:bA),j < i -> l[j]? = some y -> y ∉ l.take j) l.length ?_ ?_ l.length 0 _ _ (by omega) ⟨rfl,(h_ (by simp +decide only [GS,and_self]) (fun j y hj=>by omega))⟩
 ·rintro i F Y hi ⟨rfl,g0,g5,g6,g7,hp⟩ next
  obtain ⟨x,hx⟩:∃ x,l[i]? = some x:=⟨_,List.getElem?_eq_getElem hi⟩
  obtain ⟨g,e1⟩:=gB h ia hx
  obtain ⟨w,hw,iw⟩:=vL h ia (b:=i) (by omega)
  have hlt:=eD hi
  have hadd:=bX i (by omega)
  have kc:=fun (Y:Sg)=>B_ (Z:=Y) h (s:=x) (iw.ls Y 9) (by rw [List.length_take]; omega)
  rw [aG]
  by_cases hm:x ∈ l.take i
  ·have hs:=decide_eq_true hm
   simp only [KP,Ax.loadAt,↓reduceIte,Nat.reduceEqDiff,Nat.reduceLT,reduceCtorEq,h.cQ,g0,g5,g6,g7,hlt,e1,hw,kc,hs]
   rw [Bi hx hm]
   exact rfl
  ·have hs:=decide_eq_false hm
   simp only [KP,Ax.loadAt,↓reduceIte,Nat.reduceEqDiff,Nat.reduceLT,reduceCtorEq,h.cQ,g0,g5,g6,g7,hlt,e1,hw,kc,hs,hadd]
   refine next _ _ ⟨rfl,(h_ (by simp +decide only [GS,g0,g5,g6,and_self]) (fun j y hj hy=>?_))⟩
   rcases Nat.lt_or_ge j i with g | g
   ·exact hp j y g hy
   ·obtain rfl:j = i:=by omega
    rw [hx] at hy; cases hy; exact hm
 ·rintro F Y ⟨rfl,g0,g5,g6,g7,hp⟩
  have hlt:=eE (Nat.lt_irrefl l.length)
  rw [aG]
  simp only [KP,↓reduceIte,Nat.reduceLT,g6,g7,hlt]
  rw [yH fun j y hy=>hp j y (List.getElem?_eq_some_iff.1 hy).1 hy]
  exact rfl
theorem B9 (h:bK E) {a:V} {l:List bA} (ha:LS aK 9 Z a l) (hsm:l.length <= 4294967296):KC E 202 [a] Z (.bool (jA l)) Z:=dM fun _=>NX h ha hsm
theorem Ct (h:bK E):lQ E 28 true .aD .aD = some true:=by unfold lQ; rw [h.aX]
theorem Cs (h:bK E) {g:Bool} {rs:List (List V)} {f:Bool}:lQ E 28 true (.bR g rs f) .aD = some false:=by unfold lQ; rw [h.aX]
theorem rV (h:bK E) {a:V} {l:List bA} (ia:IS aK a l) (hl:l.length <= 1000):aB E 97 [a] Z fun v σ'=>bO aK 9 σ' v l /\ Kp Z σ' /\ ∀ b,bC v = some b -> Z.length <= b:=by
 rw [eF h.hs97 h.sp97 h.fn97 h.md97,aW (by kernel_rfl)]
 rcases ia with ⟨rfl,rfl⟩ | ⟨g,rs,full,rfl,ha⟩
 ·simp only [aA,Tryz.f97,KP,↓reduceIte,Nat.reduceLT,reduceCtorEq,Ct h]
  exact ⟨.inl ⟨rfl,rfl⟩,fun _ _ h=>h,fun b hb=>by cases hb⟩
 ·obtain ⟨rs',e,ha'⟩:=qG (L:=aK) (x:=.bR g rs full) (l:=l) (.inr ⟨g,rs,full,rfl,ha⟩) (Z ++ [O.cells 9 [] true])
  obtain ⟨w',τ',h1,h2,h3,h4,h5⟩:=kI (ats:=#[28,28]) (Z:=Z ++ [O.cells 9 [] true]) (w:=.sl Z.length 0 0 none) (l:=[]) (L:=aK) h.aX rfl h.cQ rfl (by decide) (jD h) rfl (.inr ⟨Z.length,[],true,rfl,aO,.nil⟩) e ha' (fD (b:=1000) (by decide) (by simp only [List.length_nil]; omega))
  rw [List.nil_append] at h2
  simp only [aA,Tryz.f97,KP,↓reduceIte,Nat.reduceEqDiff,Nat.reduceLT,Nat.reduceLeDiff,reduceCtorEq,h.cQ,h.aX,Cs h,h1,Ax.fill,gX,Nat.zero_mul]
  refine ⟨h2,fun c o hc=>h3 _ _ (aN hc) fun e=>?_,fun b hb=>?_⟩
  ·cases e
   exact absurd (List.getElem?_eq_some_iff.1 hc).1 (Nat.lt_irrefl _)
  ·rcases h5 b hb with g | g
   ·cases g; exact Nat.le_refl _
   ·simp only [List.length_append,List.length_cons,List.length_nil] at g; omega
theorem FE {Z:Sg} {ty:Nat -> Option Ty} {g:Bool} {b n t m:Nat} {cs:List V} {ex:Bool} {i:Ty} (hb:Z[b]? = some (.cells t cs ex)) (hty:ty t = some i) (hlen:n * i.size <= cs.length)
  (hi:∀ c ∈ cs.take (n * i.size),Ax.bB c = true /\ cO g c = true):∃ full,bS Z ty g (m + 2) (.sl b 0 n none) = some (.bR g (rows i.size n (cs.take (n * i.size))) full):=by
 have hm:aU (fun v=>match bS Z ty g (m + 1) v with
   | some v=>if cO g v then some v else Ax.no "snap: borrowed"
   | none=>none) ((cs.drop 0).take (n * i.size)) = some (cs.take (n * i.size)):=by
  rw [List.drop_zero]
  refine iQ fun x hx=>?_
  rw [jN (hi x hx).1]
  simp only [(hi x hx).2,if_true]
 refine ⟨ex && decide (0 < i.size) && (0 + n * i.size == cs.length),?_⟩
 rw [bS]
 simp only [hb,hty]
 rw [if_pos (by omega)]
 exact congrArg (fun o=>match o with
  | some l=>some (V.bR g (rows i.size n l) (ex && decide (0 < i.size) && (0 + n * i.size == cs.length)))
  | none=>none) hm
theorem Kj (h:bK E) {Z:Sg} {w:V} {l:List bA} {m:Nat} (ow:bO aK 9 Z w l):∃ w',bS Z E.ty true (m + 2) w = some w' /\ IS aK w' l:=by
 rcases ow with ⟨rfl,rfl⟩ | ⟨b,rs,ex,rfl,hb,ha⟩
 ·exact ⟨.aD,rfl,.inl ⟨rfl,rfl⟩⟩
 ·have hfl:=Lay.flat ha
  have hfl:rs.flatten.length = l.length * 1:=hfl
  have htk:rs.flatten.take (l.length * 1) = rs.flatten:=List.take_of_length_le (by omega)
  obtain ⟨full,e⟩:=FE (g:=true) (n:=l.length) (m:=m) hb h.cQ (show l.length * 1 <= _ by omega) (fun c hcm=>by
   rw [show rs.flatten.take (l.length * 1) = rs.flatten from htk] at hcm
   obtain ⟨r,hr,hcr⟩:=List.mem_flatten.1 hcm
   obtain ⟨x,-,hp⟩:=ha.mem hr
   have:=aK.im r x hp c hcr
   exact ⟨this,bZ this⟩)
  refine ⟨_,e,.inr ⟨true,rs,full,?_,ha⟩⟩
  show V.bR true (rows 1 l.length (rs.flatten.take (l.length * 1))) full = _
  rw [htk,<- ha.len]
  exact congrArg (fun z=>V.bR true z full) (lA (sz:=1) rs (Lay.lens ha))
theorem vK {Z:Sg} {f k t:Nat} {cs cs':List V} {ex:Bool} (hb:Z[k]? = some (.cells t cs ex)) (hm:aU (fun v=>match bS Z E.ty true 11 v with
   | some v=>if cO true v then some v else Ax.no "snap: borrowed"
   | none=>none) cs = some cs'):aZ Z E.ty true (.fn f [] [.ref k 0]) = some (.fn f [] [.dB true cs']):=by
 have e:bS Z E.ty true 12 (.ref k 0) = some (.dB true cs'):=by
  rw [bS]
  simp only [hb,List.drop_zero]
  exact congrArg (fun o=>match o with
   | some l=>some (V.dB true l)
   | none=>none) hm
 have e1:aZ.one Z E.ty true (.ref k 0) = some (.dB true cs'):=by
  unfold aZ.one
  rw [show dV = 12 from rfl,e]
  rfl
 simp only [aZ,aU,e1]
theorem Bv (h:bK E) {Z:Sg} {w:V} {l:List bA} {f k t:Nat} {ex:Bool} (hb:Z[k]? = some (.cells t [w] ex)) (ow:bO aK 9 Z w l):∃ w',aZ Z E.ty true (.fn f [] [.ref k 0]) = some (.fn f [] [.dB true [w']]) /\ IS aK w' l:=by
 obtain ⟨w',e,iw⟩:=Kj (m:=9) h ow
 refine ⟨w',vK hb ?_,iw⟩
 simp only [aU,e,bZ iw.bB,if_true]
theorem HG {Z:Sg} {f k t:Nat} {cs:List V} {ex:Bool} (hb:Z[k]? = some (.cells t cs ex)) (hc:∀ c ∈ cs,Ax.bB c = true):aZ Z E.ty true (.fn f [] [.ref k 0]) = some (.fn f [] [.dB true cs]):=
 vK hb (iQ fun x hx=>by rw [show 11 = 10 + 1 from rfl,jN (hc x hx)]; simp only [bZ (hc x hx),if_true])
theorem GY (h:bK E) {w:V} {l:List bA} {y:bA} {g:Bool} (iw:IS aK w l) (hsm:l.length <= 4294967296):aB E 203 [.str y,.dB g [w]] [] K = K (.bool (!decide (y ∈ l))) []:=by
 refine aB.of ?_
 have hi:Ax.bB (.dB g [w]) = true:=rfl
 have ew:=cR (Z:=[]) (ty:=E.ty) hi (bZ hi)
 rw [aH h.VY h.TJ h.WK h.U_ (args':=[.str y,.dB g [w]]) (by simp only [aU,cJ,ew]),aW (by kernel_rfl)]
 have kc:=fun (Y:Sg)=>B_ (Z:=Y) h (s:=y) (iw.ls Y 9) hsm
 simp only [aA,Tryz.f203,KP,Ax.loadAt,↓reduceIte,Nat.reduceEqDiff,Nat.reduceLT,Nat.reduceAdd,reduceCtorEq,h.aX,kc]
 exact rfl
theorem N5 (h:bK E) {a b c d:V} {l:List bA} {n y:bA} {g:Bool} (ia:IS aK a l) (hb:Ax.bB b = true) (hc:Ax.bB c = true) (hd:Ax.bB d = true) (hsm:l.length <= 4294967296):aB E 204 [.str y,.dB g [.str n,a,b,c,d]] [] K = K (.bool (decide (y ∈ l))) []:=by
 refine aB.of ?_
 have hi:Ax.bB (.dB g [.str n,a,b,c,d]) = true:=rfl
 have ew:=cR (Z:=[]) (ty:=E.ty) hi (bZ hi)
 rw [aH h.VX h.TI h.WJ h.U9 (args':=[.str y,.dB g [.str n,a,b,c,d]]) (by simp only [aU,cJ,ew]),aW (by kernel_rfl)]
 have kc:=fun (Y:Sg)=>B_ (Z:=Y) h (s:=y) (ia.ls Y 9) hsm
 simp only [aA,Tryz.f204,KP,Ax.loadAt,↓reduceIte,Nat.reduceEqDiff,Nat.reduceLT,Nat.reduceAdd,reduceCtorEq,h.aX,h.bG,kc]
 exact rfl
end
end
section
section
variable {E:Env} {Z:Sg} {K:V -> Sg -> Prop}
theorem bO.set {Z:Sg} {w:V} {l:List bA} {k:Nat} {y:O} (ow:bO aK 9 Z w l) (hk:bC w ≠ some k):bO aK 9 (Z.set k y) w l:=ow.keep fun c o hc ho=>by
 rw [List.getElem?_set_ne (fun e=>hk (by rw [e]; exact hc))]
 exact ho
theorem MY (h:bK E) {x:aF} {a b c d:V} (ia:IS aK a x.ins) (ib:IS aK b x.outs) (id:IS eW d x.steps) (hs:Small x) {kb:Nat} {Y:Sg} {w:V} (b0:Y[0]? = some (O.cells 37 [.str x.name,a,b,c,d] true)) (k0:Y[kb]? = some (.cells 28 [w] true)) (ow:bO aK 9 Y w x.ins) (F:FT) (g1:F.get 1 = .ref 0 0) (g3:F.get 3 = .ref kb 0) (g4:F.get 4 = .fn 203 [] [.ref kb 0])
  (hk:∀ σ',K (.bool (gU x.ins x.steps && x.outs.all fun o=>decide (o ∈ x.ins ++ x.steps.map Step.out))) σ'):R E (cutAt [1,1,1,1,1] (aA Tryz.f168).code) [] ⟨63,F⟩ Y (mF E (aA Tryz.f168).results K):=by
 have l1:=hs.ins
 have l2:=hs.outs
 have l4:=hs.steps
 have ld:=kV h id
 simp only [aA,Tryz.f168,KP,Ax.loadAt,↓reduceIte,Nat.reduceLT,reduceCtorEq,h.fH,h.bG,cutAt,g1,b0,ld]
 refine aS (fun i F Y=>F.get 1 = .ref 0 0 /\ F.get 3 = .ref kb 0 /\ F.get 4 = .fn 203 [] [.ref kb 0] /\ F.get 36 = d /\ F.get 37 = .int .i64 (x.steps.length:Int) /\ F.get 38 = .int .i64 (i:Int) /\ Y[0]? = some (O.cells 37 [.str x.name,a,b,c,d] true) /\ ∃ w,Y[kb]? = some (.cells 28 [w] true) /\ bO aK 9 Y w (x.ins ++ (x.steps.take i).map Step.out) /\ gU x.ins x.steps = gU (x.ins ++ (x.steps.take i).map Step.out) (x.steps.drop i)) x.steps.length ?_ ?_ x.steps.length 0 _ _ (by omega) (GQ (by simp +decide only [GS,g1,g3,g4,and_self]) ⟨b0,w,k0,by simpa using ow,by simp⟩)
 ·rintro i F Y hi ⟨g1,g3,g4,g36,g37,g38,b0,w,k0,ow,hst⟩ next
  obtain ⟨s,hsi⟩:∃ y,x.steps[i]? = some y:=⟨_,List.getElem?_eq_getElem hi⟩
  obtain ⟨g,p1,p2,e1,i1,i2⟩:=uM h id hsi
  have a8:=hs.args s (List.mem_of_getElem? hsi)
  have o1:=aI i1.bB
  have o2:=aI i2.bB
  have hlt:=eD hi
  have hadd:=bX i (by omega)
  have hdrop:x.steps.drop i = s :: x.steps.drop (i + 1):=by
   obtain ⟨hj,rfl⟩:=List.getElem?_eq_some_iff.1 hsi
   exact List.drop_eq_getElem_cons hj
  have htake:x.ins ++ (x.steps.take (i + 1)).map Step.out = x.ins ++ (x.steps.take i).map Step.out ++ [s.out]:=by
   rw [List.take_add_one,hsi]; simp
  have hkl:(x.ins ++ (x.steps.take i).map Step.out).length <= 100:=by
   rw [List.length_append,List.length_map,List.length_take]; omega
  rw [hdrop,gU] at hst
  rw [htake] at next
  generalize x.ins ++ (x.steps.take i).map Step.out = kn at *
  rw [hst] at hk
  have b1:=aN (x:=O.cells 75 [.str s.out,.int .i64 s.op,p1,p2,.int .i64 s.n] true) b0
  have k1:=aN (x:=O.cells 75 [.str s.out,.int .i64 s.op,p1,p2,.int .i64 s.n] true) k0
  have s1:(Y ++ [O.cells 75 [.str s.out,.int .i64 s.op,p1,p2,.int .i64 s.n] true])[Y.length]? = some (O.cells 75 [.str s.out,.int .i64 s.op,p1,p2,.int .i64 s.n] true):=aO
  have ow1:=ow.app [O.cells 75 [.str s.out,.int .i64 s.op,p1,p2,.int .i64 s.n] true]
  rw [aG]
  simp only [KP,Ax.loadAt,Ax.storeAt,↓reduceIte,Nat.reduceEqDiff,Nat.reduceLT,Nat.reduceAdd,h.aX,h.cN,g3,g36,g37,g38,hlt,e1,o1,o2,aO,cK]
  generalize Y ++ [O.cells 75 [.str s.out,.int .i64 s.op,p1,p2,.int .i64 s.n] true] = τ1 at *
  generalize Y.length = y at *
  have kc:=B_ (Z:=τ1) h (s:=s.out) ow1.ls (by omega)
  obtain ⟨w',es,iw⟩:=Bv (f:=203) h k1 ow1
  have kf:=dM (fun K=>qJ (Z:=τ1) (K:=K) (k:=203) (caps:=[.dB true [w']]) (P:=fun y=>!decide (y ∈ kn)) h (i1.ls τ1 9) (by omega) (fun c hc=>by cases hc with | head=>rfl | tail _ hc=>cases hc) (fun y v hy hv=>by
   subst hv
   show aB E 203 [.str y,.dB true [w']] [] _
   rw [GY h iw (by omega)]; exact ⟨rfl,rfl⟩) es)
  by_cases m1:s.out ∈ kn
  ·have q1:=decide_eq_true m1
   rw [q1] at hk
   simp only [KP,Ax.loadAt,↓reduceIte,Nat.reduceEqDiff,Nat.reduceLT,reduceCtorEq,h.cQ,h.cN,k1,s1,kc,q1]
   exact hk _
  have q1:=decide_eq_false m1
  cases m2:s.args.any fun y=>!decide (y ∈ kn) with
  | true=>
   rw [show s.args.all (fun a=>decide (a ∈ kn)) = false from by rw [<- Bool.not_eq_true',List.not_all_eq_any_not,m2],Bool.and_false,Bool.false_and,Bool.false_and] at hk
   simp only [KP,Ax.loadAt,↓reduceIte,Nat.reduceEqDiff,Nat.reduceLT,reduceCtorEq,h.cQ,h.aX,h.cN,g4,k1,s1,kc,kf,q1,m2]
   exact hk _
  | false=>
  rw [q1,show s.args.all (fun a=>decide (a ∈ kn)) = true from by rw [<- Bool.not_eq_false',List.not_all_eq_any_not,m2],Bool.not_false,Bool.true_and,Bool.true_and] at hst
  have b2:=aN (x:=O.cells 9 [.str s.out] true) b1
  have k2:=aN (x:=O.cells 9 [.str s.out] true) k1
  obtain ⟨w2,τ2,ha2,ow2,QM,-,fr2⟩:=kI (ats:=#[28,28]) (m:=[s.out]) (new:=[[.str s.out]]) h.aX rfl h.cQ rfl (by decide) (jD h) rfl (ow1.app [.cells 9 [.str s.out] true]) (mB rfl) (.one rfl) (fD (b:=1000) (by decide) (by simp only [List.length_cons,List.length_nil]; omega))
  have nk:=kM (w:=w) k2 (by decide) (ow1.app [.cells 9 [.str s.out] true])
  have n0:=kM (w:=w) b2 (by decide) (ow1.app [.cells 9 [.str s.out] true])
  have k3:=QM _ _ k2 nk
  have b3:=QM _ _ b2 n0
  have nk2:bC w2 ≠ some kb:=kM k3 (by decide) ow2
  obtain ⟨c1,c2⟩:=pU ow2
  have hkb:kb ≠ 0:=fun e=>by
   rw [e,b0] at k0
   cases k0
  have hlen:=(List.getElem?_eq_some_iff.1 k3).1
  simp only [KP,Ax.loadAt,Ax.storeAt,↓reduceIte,Nat.reduceEqDiff,Nat.reduceLT,Nat.reduceLeDiff,Nat.reduceMul,reduceCtorEq,h.cQ,h.aX,h.cN,g3,g4,g38,k1,s1,kc,kf,q1,m2,kF,ha2,k3,c1,c2,hadd]
  refine next _ _ ⟨?_,?_,?_,?_,?_,?_,?_,w2,?_,?_,?_⟩
  ·exact (by simp +decide only [GS,g1])
  ·exact (by simp +decide only [GS,g3])
  ·exact (by simp +decide only [GS,g4])
  ·exact (by simp +decide only [GS,g36])
  ·exact (by simp +decide only [GS,g37])
  ·exact (by simp +decide only [GS])
  ·rw [List.getElem?_set_ne hkb]; exact b3
  ·rw [List.getElem?_set_self hlen]
  ·exact bO.set ow2 nk2
  ·exact hst
 ·rintro F Y ⟨g1,g3,g4,g36,g37,g38,b0,w,k0,ow,hst⟩
  rw [List.take_of_length_le (Nat.le_refl _)] at ow hst
  rw [show x.steps.drop x.steps.length = [] from List.drop_length,gU] at hst
  have hkl:(x.ins ++ x.steps.map Step.out).length <= 100:=by
   rw [List.length_append,List.length_map]; omega
  generalize x.ins ++ x.steps.map Step.out = kn at *
  obtain ⟨w',es,iw⟩:=Bv (f:=203) h k0 ow
  have kf:=dM (fun K=>qJ (Z:=Y) (K:=K) (k:=203) (caps:=[.dB true [w']]) (P:=fun y=>!decide (y ∈ kn)) h (ib.ls Y 9) (by omega) (fun c hc=>by cases hc with | head=>rfl | tail _ hc=>cases hc) (fun y v hy hv=>by
   subst hv
   show aB E 203 [.str y,.dB true [w']] [] _
   rw [GY h iw (by omega)]; exact ⟨rfl,rfl⟩) es)
  have hlt:=eE (Nat.lt_irrefl x.steps.length)
  rw [hst,Bool.true_and] at hk
  have e:(x.outs.all fun o=>decide (o ∈ kn)) = !(x.outs.any fun y=>!decide (y ∈ kn)):=by rw [<- List.not_all_eq_any_not,Bool.not_not]
  rw [e] at hk
  rw [aG]
  simp only [KP,Ax.loadAt,↓reduceIte,Nat.reduceEqDiff,Nat.reduceLT,reduceCtorEq,h.aX,h.bG,g1,g4,g37,g38,hlt,b0,kf]
  exact hk _
theorem Qr (h:bK E) {v:V} {x:aF} (hv:G_ v x) (hs:Small x):aB E 168 [v] Z K = K (.bool (eJ x)) Z:=by
 refine aB.of ?_
 have ev:=hv.snap (E:=E) Z
 obtain ⟨a,b,c,d,rfl,ia,ib,ic,id⟩:=hv
 have o1:=aI ia.bB
 have o2:=aI ib.bB
 have o3:=aI ic.bB
 have o4:=aI id.bB
 have l1:=hs.ins
 have l2:=hs.outs
 have l3:=hs.after
 rw [aH h.V9 h.TU h.WV h.Vj (args':=[.agg [.str x.name,a,b,c,d]]) (by simp only [aU,ev]),aW (by kernel_rfl)]
 have k1:=fun (Y:Sg)=>B9 (Z:=Y) h (ia.ls Y 9) (by omega)
 have k2:=fun (Y:Sg)=>B9 (Z:=Y) h (ib.ls Y 9) (by omega)
 have k3:=fun (Y:Sg)=>B9 (Z:=Y) h (ic.ls Y 9) (by omega)
 have kc:=fun (Y:Sg)=>B_ (Z:=Y) h (s:=x.name) (ic.ls Y 9) (by omega)
 have rest:=fun (hn:(gU x.ins x.steps && x.outs.all fun o=>decide (o ∈ x.ins ++ x.steps.map Step.out)) = eJ x) kb Y w F b0 k0 ow g1 g3 g4=>MY (K:=fun v σ1=>match dD σ1 E.ty false v with
   | some v=>v = .bool (eJ x)
   | none=>False) (c:=c) h ia ib id hs (kb:=kb) (Y:=Y) (w:=w) b0 k0 ow F g1 g3 g4 fun _=>by rw [hn]; exact rfl
 generalize hC:cutAt [1,1,1,1,1] (aA Tryz.f168).code = C at rest
 cases e0:jA x.ins with
 | true=>
  simp only [aA,Tryz.f168,KP,Ax.loadAt,↓reduceIte,Nat.reduceEqDiff,Nat.reduceLT,Nat.reduceAdd,reduceCtorEq,h.aX,h.bG,o1,o2,o3,o4,k1,e0]
  show V.bool false = V.bool (eJ x)
  unfold eJ
  simp [e0]
 | false=>
 cases e1:jA x.outs with
 | true=>
  simp only [aA,Tryz.f168,KP,Ax.loadAt,↓reduceIte,Nat.reduceEqDiff,Nat.reduceLT,Nat.reduceAdd,reduceCtorEq,h.aX,h.bG,o1,o2,o3,o4,k1,k2,e0,e1]
  show V.bool false = V.bool (eJ x)
  unfold eJ
  simp [e0,e1]
 | false=>
 cases e2:jA x.after with
 | true=>
  simp only [aA,Tryz.f168,KP,Ax.loadAt,↓reduceIte,Nat.reduceEqDiff,Nat.reduceLT,Nat.reduceAdd,reduceCtorEq,h.aX,h.bG,o1,o2,o3,o4,k1,k2,k3,e0,e1,e2]
  show V.bool false = V.bool (eJ x)
  unfold eJ
  simp [e0,e1,e2]
 | false=>
 cases e3:decide (x.name ∈ x.after) with
 | true=>
  simp only [aA,Tryz.f168,KP,Ax.loadAt,↓reduceIte,Nat.reduceEqDiff,Nat.reduceLT,Nat.reduceAdd,reduceCtorEq,h.cQ,h.aX,h.bG,o1,o2,o3,o4,k1,k2,k3,kc,e0,e1,e2,e3]
  show V.bool false = V.bool (eJ x)
  unfold eJ
  rw [e0,e1,e2,e3]
  rfl
 | false=>
 rw [show (aA Tryz.f168).code = .seq (cutAt [0] (aA Tryz.f168).code) (.seq (cutAt [1,0] (aA Tryz.f168).code) (.seq (cutAt [1,1,0] (aA Tryz.f168).code) (.seq (cutAt [1,1,1,0] (aA Tryz.f168).code) (.seq (cutAt [1,1,1,1,0] (aA Tryz.f168).code) C)))) from by rw [<- hC]; rfl]
 simp only [aA,Tryz.f168,KP,Ax.loadAt,↓reduceIte,Nat.reduceEqDiff,Nat.reduceLT,Nat.reduceAdd,reduceCtorEq,h.cQ,h.aX,h.bG,cutAt,o1,o2,o3,o4,k1,k2,k3,kc,e0,e1,e2,e3]
 refine aL (rV h ia (by omega)) ?_
 rintro w Y ⟨ow,kp,-⟩
 have b0:Y[0]? = some (O.cells 37 [.str x.name,a,b,c,d] true):=kp 0 _ rfl
 obtain ⟨c1,c2⟩:=pU ow
 have b1:=aN (x:=O.cells 28 [w] true) b0
 have kk:(Y ++ [O.cells 28 [w] true])[Y.length]? = some (O.cells 28 [w] true):=aO
 have es:=HG (E:=E) (f:=204) b1 (fun y hy=>by
  simp only [List.mem_cons,List.not_mem_nil,or_false] at hy
  rcases hy with rfl | rfl | rfl | rfl | rfl
  ·rfl
  ·exact ia.bB
  ·exact ib.bB
  ·exact ic.bB
  ·exact id.bB)
 have kf:=dM (fun K=>qJ (Z:=Y ++ [O.cells 28 [w] true]) (K:=K) (k:=204) (caps:=[.dB true [.str x.name,a,b,c,d]]) (P:=fun y=>decide (y ∈ x.ins)) h (ib.ls _ 9) (by omega) (fun c hc=>by cases hc with | head=>rfl | tail _ hc=>cases hc) (fun y v hy hv=>by
  subst hv
  show aB E 204 [.str y,.dB true [.str x.name,a,b,c,d]] [] _
  rw [N5 h ia ib.bB ic.bB id.bB (by omega)]; exact ⟨rfl,rfl⟩) es)
 have eo:(x.outs.all fun o=>!decide (o ∈ x.ins)) = !(x.outs.any fun y=>decide (y ∈ x.ins)):=by rw [List.not_any_eq_all_not]
 cases e4:x.outs.any fun y=>decide (y ∈ x.ins) with
 | true=>
  simp only [KP,Ax.loadAt,Ax.storeAt,↓reduceIte,Nat.reduceEqDiff,Nat.reduceLT,reduceCtorEq,h.aX,h.bG,b1,kf,e4,c1,c2,aO,cK]
  show V.bool false = V.bool (eJ x)
  unfold eJ
  rw [eo,e0,e1,e2,e3,e4]
  rfl
 | false=>
 simp only [KP,Ax.loadAt,Ax.storeAt,↓reduceIte,Nat.reduceEqDiff,Nat.reduceLT,reduceCtorEq,h.aX,h.bG,b1,kf,e4,c1,c2,aO,cK]
 refine rest ?_ Y.length _ w _ b1 kk (ow.app _) ?_ ?_ ?_
 ·unfold eJ
  rw [eo,e0,e1,e2,e3,e4]
  simp
 ·exact (by simp +decide only [GS])
 ·exact (by simp +decide only [GS])
 ·exact (by simp +decide only [GS])
theorem Px (h:bK E) {v:V} {x:aF} (hv:G_ v x) (hs:Small x):KC E 168 [v] Z (.bool (eJ x)) Z:=dM fun _=>Qr h hv hs
end
end
section
section
variable {E:Env} {Z:Sg} {K:V -> Sg -> Prop}
theorem Qx (h:bK E) {v:V} {x:aF} (hv:G_ v x) (hs:Small x):aB E 124 [v] Z K = K (.int .i64 (aY x)) Z:=by
 refine aB.of ?_
 have ev:=hv.snap (E:=E) Z
 obtain ⟨a,b,c,d,rfl,ia,ib,ic,id⟩:=hv
 have o1:=aI ia.bB
 have o2:=aI ib.bB
 have o3:=aI ic.bB
 have o4:=aI id.bB
 have la:=bL h ia
 have lb:=bL h ib
 have lc:=bL h ic
 have ld:=kV h id
 rw [aH h.Wi h.T4 h.W8 h.Vs (args':=[.agg [.str x.name,a,b,c,d]]) (by simp only [aU,ev]),aW (by kernel_rfl)]
 have k1:=fun (Y:Sg)=>PB (Z:=Y) h (v:=.agg [.str x.name,a,b,c,d]) ⟨a,b,c,d,rfl,ia,ib,ic,id⟩ hs
 have k2:=fun (Y:Sg)=>Px (Z:=Y) h (v:=.agg [.str x.name,a,b,c,d]) ⟨a,b,c,d,rfl,ia,ib,ic,id⟩ hs
 cases e1:jK x with
 | false=>
  simp only [aA,Tryz.f124,KP,Ax.loadAt,↓reduceIte,Nat.reduceEqDiff,Nat.reduceLT,Nat.reduceAdd,h.bG,o1,o2,o3,o4,k1,e1]
  show V.int .i64 1 = V.int .i64 (aY x)
  rw [show aY x = 1 from by unfold aY; rw [if_pos e1]]
 | true=>
 by_cases p0:8 < x.ins.length
 ·have q0:decide ((8:Int) < (x.ins.length:Int)) = true:=decide_eq_true (by omega)
  simp only [aA,Tryz.f124,KP,Ax.loadAt,↓reduceIte,Nat.reduceEqDiff,Nat.reduceLT,Nat.reduceAdd,reduceCtorEq,h.aX,h.bG,o1,o2,o3,o4,la,k1,e1,q0]
  show V.int .i64 4 = V.int .i64 (aY x)
  rw [show aY x = 4 from by unfold aY; rw [if_neg (by rw [e1]; simp)]; rw [if_pos (by unfold long; rw [decide_eq_true p0]; simp)]]
 have q0:decide ((8:Int) < (x.ins.length:Int)) = false:=decide_eq_false (by omega)
 by_cases p1:4 < x.outs.length
 ·have q1:decide ((4:Int) < (x.outs.length:Int)) = true:=decide_eq_true (by omega)
  simp only [aA,Tryz.f124,KP,Ax.loadAt,↓reduceIte,Nat.reduceEqDiff,Nat.reduceLT,Nat.reduceAdd,reduceCtorEq,h.aX,h.bG,o1,o2,o3,o4,la,lb,k1,e1,q0,q1]
  show V.int .i64 4 = V.int .i64 (aY x)
  rw [show aY x = 4 from by unfold aY; rw [if_neg (by rw [e1]; simp)]; rw [if_pos (by unfold long; rw [decide_eq_true p1]; simp)]]
 have q1:decide ((4:Int) < (x.outs.length:Int)) = false:=decide_eq_false (by omega)
 by_cases p2:8 < x.after.length
 ·have q2:decide ((8:Int) < (x.after.length:Int)) = true:=decide_eq_true (by omega)
  simp only [aA,Tryz.f124,KP,Ax.loadAt,↓reduceIte,Nat.reduceEqDiff,Nat.reduceLT,Nat.reduceAdd,reduceCtorEq,h.aX,h.bG,o1,o2,o3,o4,la,lb,lc,k1,e1,q0,q1,q2]
  show V.int .i64 4 = V.int .i64 (aY x)
  rw [show aY x = 4 from by unfold aY; rw [if_neg (by rw [e1]; simp)]; rw [if_pos (by unfold long; rw [decide_eq_true p2]; simp)]]
 have q2:decide ((8:Int) < (x.after.length:Int)) = false:=decide_eq_false (by omega)
 by_cases p3:12 < x.steps.length
 ·have q3:decide ((12:Int) < (x.steps.length:Int)) = true:=decide_eq_true (by omega)
  simp only [aA,Tryz.f124,KP,Ax.loadAt,↓reduceIte,Nat.reduceEqDiff,Nat.reduceLT,Nat.reduceAdd,reduceCtorEq,h.aX,h.fH,h.bG,o1,o2,o3,o4,la,lb,lc,ld,k1,e1,q0,q1,q2,q3]
  show V.int .i64 4 = V.int .i64 (aY x)
  rw [show aY x = 4 from by unfold aY; rw [if_neg (by rw [e1]; simp)]; rw [if_pos (by unfold long; rw [decide_eq_true p3]; simp)]]
 have q3:decide ((12:Int) < (x.steps.length:Int)) = false:=decide_eq_false (by omega)
 cases e2:eJ x with
 | false=>
  simp only [aA,Tryz.f124,KP,Ax.loadAt,↓reduceIte,Nat.reduceEqDiff,Nat.reduceLT,Nat.reduceAdd,reduceCtorEq,h.aX,h.fH,h.bG,o1,o2,o3,o4,la,lb,lc,ld,k1,k2,e1,q0,q1,q2,q3,e2]
  show V.int .i64 2 = V.int .i64 (aY x)
  rw [show aY x = 2 from by unfold aY; rw [if_neg (by rw [e1]; simp)]; rw [if_neg (by unfold long; rw [decide_eq_false p0,decide_eq_false p1,decide_eq_false p2,decide_eq_false p3]; simp)]; rw [if_pos e2]]
 | true=>
 simp only [aA,Tryz.f124,KP,Ax.loadAt,↓reduceIte,Nat.reduceEqDiff,Nat.reduceLT,Nat.reduceAdd,reduceCtorEq,h.aX,h.fH,h.bG,o1,o2,o3,o4,la,lb,lc,ld,k1,k2,e1,q0,q1,q2,q3,e2]
 show V.int .i64 0 = V.int .i64 (aY x)
 rw [show aY x = 0 from by unfold aY; rw [if_neg (by rw [e1]; simp)]; rw [if_neg (by unfold long; rw [decide_eq_false p0,decide_eq_false p1,decide_eq_false p2,decide_eq_false p3]; simp)]; rw [if_neg (by rw [e2]; simp)]]
theorem PG (h:bK E) {v:V} {x:aF} (hv:G_ v x) (hs:Small x):KC E 124 [v] Z (.int .i64 (aY x)) Z:=dM fun _=>Qx h hv hs
end
end
section
section
variable {E:Env} {Z:Sg} {K:V -> Sg -> Prop}
def SM (E:Env) (es:List (V × V)) (get:bA -> Option V):Prop:=(∀ e ∈ es,(∃ k,e.1 = .str k) /\ Ax.bB e.2 = true) /\ ∀ k,gZ (eM E 9) (.str k) es = some (get k)
theorem bU (h:bK E) (a b:bA):eM E 9 (.str a) (.str b) = some (Ax.seq a b):=by unfold eM; rw [h.cQ]
theorem HK:SM E [] fun _=>none:=⟨fun _ h=>(by cases h),fun _=>rfl⟩
theorem Eu (h:bK E) {v:V} (k:bA) (hv:Ax.bB v = true):∀ {es:List (V × V)} {get:bA -> Option V},SM E es get -> ∃ es',kE (eM E 9) (.str k) v es = some es' /\ SM E es' fun q=>if q = k then some v else get q
 | [],get,hs=>by
  refine ⟨[(.str k,v)],rfl,fun e he=>?_,fun q=>?_⟩
  ·rw [List.mem_singleton.1 he]
   exact ⟨⟨k,rfl⟩,hv⟩
  ·show _ = some (if q = k then some v else get q)
   have e0:none = get q:=Option.some.inj (hs.2 q)
   rw [gZ,bU h]
   by_cases hq:q = k
   ·rw [gQ hq,if_pos hq]
   ·rw [fP hq,if_neg hq,<- e0]; rfl
 | (k0,v0) :: r,get,hs=>by
  obtain ⟨⟨s0,e0⟩,i0⟩:=hs.1 _ (List.mem_cons_self ..)
  dsimp only at e0 i0
  subst e0
  by_cases hk:k = s0
  ·refine ⟨(.str k,v) :: r,by rw [kE,bU h,gQ hk],fun e he=>?_,fun q=>?_⟩
   ·rcases List.mem_cons.1 he with rfl | he
    ·exact ⟨⟨k,rfl⟩,hv⟩
    ·exact hs.1 e (List.mem_cons_of_mem _ he)
   ·have:=hs.2 q
    show _ = some (if q = k then some v else get q)
    rw [gZ,bU h] at this ⊢
    by_cases hq:q = k
    ·rw [gQ hq,if_pos hq]
    ·rw [fP (show q ≠ s0 by rw [<- hk]; exact hq)] at this
     rw [fP hq,if_neg hq]
     exact this
  ·have hs':SM E r fun q=>if q = s0 then (match gZ (eM E 9) (.str q) r with | some y=>y | none=>none) else get q:=by
    refine ⟨fun e he=>hs.1 e (List.mem_cons_of_mem _ he),fun q=>?_⟩
    have:=hs.2 q
    rw [gZ,bU h] at this
    show _ = some (if q = s0 then (match gZ (eM E 9) (.str q) r with | some y=>y | none=>none) else get q)
    by_cases hq:q = s0
    ·rw [if_pos hq]
     have tot:∀ (l:List (V × V)),(∀ e ∈ l,∃ k,e.1 = V.str k) -> ∃ y,gZ (eM E 9) (.str q) l = some y:=by
      intro l
      induction l with
      | nil=>intro _; exact ⟨none,rfl⟩
      | cons e l ih=>
       intro hl
       obtain ⟨k1,e1⟩:=hl _ (List.mem_cons_self ..)
       obtain ⟨a,b⟩:=e
       dsimp only at e1
       subst e1
       rw [gZ,bU h]
       by_cases h1:q = k1
       ·rw [gQ h1]; exact ⟨_,rfl⟩
       ·rw [fP h1]; exact ih fun e he=>hl e (List.mem_cons_of_mem _ he)
     obtain ⟨y,hy⟩:=tot r fun e he=>(hs.1 e (List.mem_cons_of_mem _ he)).1
     rw [hy]
    ·rw [if_neg hq]
     rw [fP hq] at this
     exact this
   obtain ⟨r',e1,s1⟩:=Eu h k hv hs'
   refine ⟨(.str s0,v0) :: r',by rw [kE,bU h,fP hk]; simp only [e1],fun e he=>?_,fun q=>?_⟩
   ·rcases List.mem_cons.1 he with rfl | he
    ·exact ⟨⟨s0,rfl⟩,i0⟩
    ·exact s1.1 e he
   ·have:=hs.2 q
    show _ = some (if q = k then some v else get q)
    rw [gZ,bU h] at this ⊢
    by_cases hq:q = s0
    ·rw [gQ hq] at this ⊢
     rw [if_neg (show q ≠ k by rw [hq]; exact Ne.symm hk)]
     exact this
    ·rw [fP hq]
     have h2:=s1.2 q
     dsimp only at h2
     rw [if_neg hq] at h2
     exact h2
def SB (E:Env) (es:List (V × V)) (p:bA -> Bool):Prop:=SM E es fun k=>if p k = true then some (.bool true) else none
theorem MA:SB E [] fun _=>false:=HK
theorem RO (h:bK E) {es:List (V × V)} {p:bA -> Bool} (hs:SB E es p) (k:bA):∃ es',kE (eM E 9) (.str k) (.bool true) es = some es' /\ SB E es' fun q=>p q || decide (q = k):=by
 obtain ⟨es',h1,h2⟩:=Eu h (v:=.bool true) k rfl hs
 refine ⟨es',h1,h2.1,fun q=>(h2.2 q).trans ?_⟩
 show some (if q = k then some (V.bool true) else if p q = true then some (V.bool true) else none) = some (if (p q || decide (q = k)) = true then some (V.bool true) else none)
 by_cases hq:q = k
 ·rw [if_pos hq,decide_eq_true hq,Bool.or_true,if_pos rfl]
 ·rw [if_neg hq,decide_eq_false hq,Bool.or_false]
theorem SB.congr {es:List (V × V)} {p q:bA -> Bool} (hs:SB E es p) (e:∀ k,p k = q k):SB E es q:=by
 rwa [show p = q from funext e] at hs
theorem EJ (h:bK E) {Z:Sg} {x:V} {es:List (V × V)} {p:bA -> Bool} (hx:entriesOf Z x = some es) (hs:SB E es p) (k:bA):lookup E Z 98 x (.str k) false = some (.bool (p k)):=by
 have hk:dL E 9 (.str k) = true:=by unfold dL; rw [h.cQ]
 unfold Ax.lookup
 simp only [h.AE,h.CW,hk,hx,hs.2 k,Bool.not_true,Bool.false_eq_true,if_false]
 cases p k <;> rfl
theorem LO (h:bK E) {Z:Sg} {b:Nat} {es:List (V × V)} {p:bA -> Bool} (hb:Z[b]? = some (.map es)) (hs:SB E es p) (k:bA):∃ es',mapUpdate E Z 98 (.mp b) (.str k) (.bool true) = some (Z.set b (.map es')) /\ SB E es' fun q=>p q || decide (q = k):=by
 obtain ⟨es',h1,h2⟩:=RO h hs k
 have hk:dL E 9 (.str k) = true:=by unfold dL; rw [h.cQ]
 refine ⟨es',?_,h2⟩
 unfold Ax.mapUpdate
 simp only [h.AE,hk,hb,h1,eX,V.aV,Bool.not_true,Bool.or_self,Bool.false_eq_true,if_false,Option.map_some]
theorem Kk (h:bK E) {Z:Sg} {b m:Nat} {es:List (V × V)} {get:bA -> Option V} (hb:Z[b]? = some (.map es)) (hs:SM E es get):bS Z E.ty true (m + 2) (.mp b) = some (.imp true es):=by
 rw [bS]
 simp only [hb]
 rw [iQ fun e he=>?_]
 obtain ⟨⟨k,e1⟩,e2⟩:=hs.1 e he
 obtain ⟨a,v⟩:=e
 dsimp only at e1 e2
 subst e1
 have e3:bS Z E.ty true (m + 1) v = some v:=jN e2
 have e4:=bZ e2
 have hpc:(V.str k).cells.all Ax.plainCell = true:=rfl
 cases v <;> first
  | (simp only [hpc,e3,e4,if_true]; done)
  | cases e2
theorem Dl (h:bK E) {Z:Sg} {f k b t:Nat} {ex:Bool} {es:List (V × V)} {get:bA -> Option V} (hk:Z[k]? = some (.cells t [.mp b] ex)) (hb:Z[b]? = some (.map es)) (hs:SM E es get):aZ Z E.ty true (.fn f [] [.ref k 0]) = some (.fn f [] [.dB true [.imp true es]]):=by
 refine vK hk ?_
 simp only [aU,Kk (m:=9) h hb hs,show cO true (V.imp true es) = true from rfl,if_true]
theorem N4 (h:bK E) {es:List (V × V)} {p:bA -> Bool} {y:bA} {g g2:Bool} (hs:SB E es p):aB E 145 [.str y,.dB g [.imp g2 es]] [] K = K (.bool (p y)) []:=by
 refine aB.of ?_
 have hi:Ax.bB (.dB g [.imp g2 es]) = true:=rfl
 have ew:=cR (Z:=[]) (ty:=E.ty) hi (bZ hi)
 rw [aH h.Wd h.TZ h.WZ h.Vn (args':=[.str y,.dB g [.imp g2 es]]) (by simp only [aU,cJ,ew]),aW (by kernel_rfl)]
 have hl:=fun Z=>EJ (Z:=Z) (x:=.imp g2 es) h rfl hs y
 simp only [aA,Tryz.f145,KP,Ax.loadAt,↓reduceIte,Nat.reduceEqDiff,Nat.reduceLT,Nat.reduceAdd,reduceCtorEq,h.AE,hl]
 exact rfl
theorem N0 (h:bK E) {es:List (V × V)} {p:bA -> Bool} {y:bA} {g g2:Bool} (hs:SB E es p):aB E 146 [.str y,.dB g [.imp g2 es]] [] K = K (.bool (!p y)) []:=by
 refine aB.of ?_
 have hi:Ax.bB (.dB g [.imp g2 es]) = true:=rfl
 have ew:=cR (Z:=[]) (ty:=E.ty) hi (bZ hi)
 rw [aH h.Wc h.TY h.WY h.Vm (args':=[.str y,.dB g [.imp g2 es]]) (by simp only [aU,cJ,ew]),aW (by kernel_rfl)]
 have hl:=fun Z=>EJ (Z:=Z) (x:=.imp g2 es) h rfl hs y
 simp only [aA,Tryz.f146,KP,Ax.loadAt,↓reduceIte,Nat.reduceEqDiff,Nat.reduceLT,Nat.reduceAdd,reduceCtorEq,h.AE,hl]
 exact rfl
end
end
section
section
variable {E:Env} {Z:Sg} {K:V -> Sg -> Prop}
structure mY (E:Env) (Y:Sg) (kr ko mr mo:Nat) (p1 p2:bA -> Bool):Prop where
 b1:Y[kr]? = some (.cells 98 [.mp mr] true)
 b2:Y[ko]? = some (.cells 98 [.mp mo] true)
 m1:∃ es,Y[mr]? = some (.map es) /\ SB E es p1
 m2:∃ es,Y[mo]? = some (.map es) /\ SB E es p2
 ne:mr ≠ mo
theorem mY.app {Y:Sg} {kr ko mr mo:Nat} {p1 p2:bA -> Bool} (h:mY E Y kr ko mr mo p1 p2) (y:O):mY E (Y ++ [y]) kr ko mr mo p1 p2:=by
 obtain ⟨e1,h1,s1⟩:=h.m1
 obtain ⟨e2,h2,s2⟩:=h.m2
 exact ⟨aN h.b1,aN h.b2,⟨e1,aN h1,s1⟩,⟨e2,aN h2,s2⟩,h.ne⟩
theorem oW {Y:Sg} {i j:Nat} {x y:O} (h1:Y[i]? = some x) (h2:Y[j]? = some y) (h:x ≠ y):i ≠ j:=fun e=>h (by rw [e,h2] at h1; exact (Option.some.inj h1).symm)
theorem mY.RV {Y:Sg} {kr ko mr mo:Nat} {p1 p2 q1:bA -> Bool} {es:List (V × V)} (h:mY E Y kr ko mr mo p1 p2) (hs:SB E es q1):mY E (Y.set mr (.map es)) kr ko mr mo q1 p2:=by
 obtain ⟨e1,h1,s1⟩:=h.m1
 obtain ⟨e2,h2,s2⟩:=h.m2
 have n1:=oW h1 h.b1 (by intro e; cases e)
 have n2:=oW h1 h.b2 (by intro e; cases e)
 exact ⟨by rw [List.getElem?_set_ne n1]; exact h.b1,by rw [List.getElem?_set_ne n2]; exact h.b2,⟨es,by rw [List.getElem?_set_self (List.getElem?_eq_some_iff.1 h1).1],hs⟩,⟨e2,by rw [List.getElem?_set_ne h.ne]; exact h2,s2⟩,h.ne⟩
theorem mY.put2 {Y:Sg} {kr ko mr mo:Nat} {p1 p2 q2:bA -> Bool} {es:List (V × V)} (h:mY E Y kr ko mr mo p1 p2) (hs:SB E es q2):mY E (Y.set mo (.map es)) kr ko mr mo p1 q2:=by
 obtain ⟨e1,h1,s1⟩:=h.m1
 obtain ⟨e2,h2,s2⟩:=h.m2
 have n1:=oW h2 h.b1 (by intro e; cases e)
 have n2:=oW h2 h.b2 (by intro e; cases e)
 exact ⟨by rw [List.getElem?_set_ne n1]; exact h.b1,by rw [List.getElem?_set_ne n2]; exact h.b2,⟨e1,by rw [List.getElem?_set_ne (Ne.symm h.ne)]; exact h1,s1⟩,⟨es,by rw [List.getElem?_set_self (List.getElem?_eq_some_iff.1 h2).1],hs⟩,h.ne⟩
def gY (rs:List aF) (k:bA):Bool:=rs.any fun q=>decide (q.name = k)
def uZ (rs:List aF) (k:bA):Bool:=rs.any fun q=>decide (k ∈ q.outs)
theorem sV {rs:List aF} {n:bA}:decide (fQ rs n = none) = !gY rs n:=by
 unfold fQ gY
 rw [<- cB]
 cases bJ (fun r=>decide (r.name = n)) rs <;> rfl
theorem CD {rs:List aF} {i:Nat} {r:aF} (hr:rs[i]? = some r):nN rs i = (gY (rs.take i) r.name || r.outs.any (uZ (rs.take i))):=by
 unfold nN gY uZ
 rw [hr,Bool.eq_iff_iff]
 simp only [List.any_eq_true,Bool.or_eq_true,decide_eq_true_eq]
 constructor
 ·rintro ⟨q,hq,e | ⟨x,hx,e⟩⟩
  ·exact .inl ⟨q,hq,e⟩
  ·exact .inr ⟨x,hx,q,hq,e⟩
 ·rintro (⟨q,hq,e⟩ | ⟨x,hx,q,hq,e⟩)
  ·exact ⟨q,hq,.inl e⟩
  ·exact ⟨q,hq,.inr ⟨x,hx,e⟩⟩
theorem F9 {rs:List aF} {i:Nat} {r:aF} (hr:rs[i]? = some r) (k:bA):gY (rs.take (i + 1)) k = (gY (rs.take i) k || decide (k = r.name)):=by
 unfold gY
 rw [oQ hr,decide_eq_decide.2 ⟨Eq.symm,Eq.symm⟩]
theorem HU {rs:List aF} {i:Nat} {r:aF} (hr:rs[i]? = some r) (k:bA):uZ (rs.take (i + 1)) k = (uZ (rs.take i) k || decide (k ∈ r.outs)):=oQ hr
theorem UI (h:bK E) {a:V} {rs:List aF} (ia:IS dW a rs) (hs:∀ x ∈ rs,Small x) (hE:gA rs = if gD rs = true then 2 else 0) (hl:rs.length <= 4294967296) {Y:Sg} {kr ko mr mo:Nat} {p2:bA -> Bool} (bx:mY E Y kr ko mr mo (gY rs) p2) (F:FT) (g0:F.get 0 = a) (g7:F.get 7 = .ref kr 0) (hk:∀ nm σ',K (.fI [.int .i64 (gA rs),.str nm]) σ') :
  R E (cutAt [1,1,1,1,1] (aA Tryz.f108).code) [] ⟨81,F⟩ Y (mF E (aA Tryz.f108).results K):=by
 have la:=cT h ia
 have d28:=h.Qd
 simp only [aA,Tryz.f108,cutAt,Option.getD_some] at d28
 simp only [aA,Tryz.f108,KP,↓reduceIte,Nat.reduceLT,cutAt,g0,la]
 refine aS (fun i F Y=>F.get 7 = .ref kr 0 /\ F.get 68 = a /\ F.get 69 = .int .i64 (rs.length:Int) /\ F.get 70 = .int .i64 (i:Int) /\ mY E Y kr ko mr mo (gY rs) p2 /\ ∀ (j:Nat) (r:aF),j < i -> rs[j]? = some r -> r.after.any (fun n=>!gY rs n) = false) rs.length ?_ ?_ rs.length 0 _ _ (by omega) (h_ (by simp +decide only [GS,g7,and_self]) ⟨bx,fun j r hj=>by omega⟩)
 ·rintro i F Y hi ⟨g7,g68,g69,g70,bx,hp⟩ next
  obtain ⟨r,hr⟩:∃ y,rs[i]? = some y:=⟨_,List.getElem?_eq_getElem hi⟩
  obtain ⟨g,p1,p2',p3,p4,e1,i1,i2,i3,i4⟩:=fB h ia hr
  have hsm:=hs r (List.mem_of_getElem? hr)
  have a3:=hsm.after
  have o1:=aI i1.bB
  have o2:=aI i2.bB
  have o3:=aI i3.bB
  have o4:=aI i4.bB
  have hlt:=eD hi
  have hadd:=bX i (by omega)
  have bx1:=bx.app (O.cells 37 [.str r.name,p1,p2',p3,p4] true)
  have s1:(Y ++ [O.cells 37 [.str r.name,p1,p2',p3,p4] true])[Y.length]? = some (O.cells 37 [.str r.name,p1,p2',p3,p4] true):=aO
  rw [aG]
  simp only [KP,Ax.loadAt,Ax.storeAt,↓reduceIte,Nat.reduceEqDiff,Nat.reduceLT,Nat.reduceAdd,reduceCtorEq,h.aX,h.bG,g7,g68,g69,g70,hlt,e1,o1,o2,o3,o4,aO,cK]
  generalize Y ++ [O.cells 37 [.str r.name,p1,p2',p3,p4] true] = τ1 at *
  generalize Y.length = y at *
  obtain ⟨es,hm,hsb⟩:=bx1.m1
  have ef:=Dl (f:=146) h bx1.b1 hm hsb
  have kf:=dM (fun K=>qJ (Z:=τ1) (K:=K) (k:=146) (caps:=[.dB true [.imp true es]]) (P:=fun n=>!gY rs n) h (i3.ls τ1 9) (by omega) (fun c hc=>by cases hc with | head=>rfl | tail _ hc=>cases hc) (fun y v hy hv=>by
   subst hv
   show aB E 146 [.str y,.dB true [.imp true es]] [] _
   rw [N0 h hsb]; exact ⟨rfl,rfl⟩) ef)
  cases m:r.after.any fun n=>!gY rs n with
  | true=>
   have hstr:gD rs = true:=by
    unfold gD
    refine List.any_eq_true.2 ⟨r,List.mem_of_getElem? hr,?_⟩
    rw [<- m]
    exact congrArg (fun f=>r.after.any f) (funext fun n=>sV)
   rw [hE,if_pos hstr] at hk
   simp only [KP,Ax.loadAt,↓reduceIte,Nat.reduceEqDiff,Nat.reduceLT,reduceCtorEq,h.cQ,h.bG,s1,kf,m,aR d28,bM]
   exact hk _ _
  | false=>
  simp only [KP,↓reduceIte,Nat.reduceEqDiff,Nat.reduceLT,g70,kf,m,hadd]
  refine next _ _ (h_ (by simp +decide only [GS,g7,g68,g69,and_self]) ⟨bx1,fun j q hj hq=>?_⟩)
  rcases Nat.lt_or_ge j i with g | g
  ·exact hp j q g hq
  ·obtain rfl:j = i:=by omega
   rw [hr] at hq; cases hq; exact m
 ·rintro F Y ⟨g7,g68,g69,g70,bx,hp⟩
  have hstr:gD rs = false:=by
   unfold gD
   refine List.any_eq_false.2 fun r hr=>?_
   obtain ⟨j,hj,e⟩:=List.getElem_of_mem hr
   have:=hp j r hj (by rw [List.getElem?_eq_getElem hj,e])
   rw [show (r.after.any fun n=>decide (fQ rs n = none)) = r.after.any fun n=>!gY rs n from congrArg (fun f=>r.after.any f) (funext fun n=>sV),this]
   simp
  rw [hE,if_neg (by rw [hstr]; simp)] at hk
  have hlt:=eE (Nat.lt_irrefl rs.length)
  rw [aG]
  simp only [KP,↓reduceIte,Nat.reduceEqDiff,Nat.reduceLT,jX,g69,g70,hlt]
  exact hk _ _
end
end
section
section
variable {E:Env} {Z:Sg} {K:V -> Sg -> Prop}
theorem mY.congr {Y:Sg} {kr ko mr mo:Nat} {p1 p2 q1 q2:bA -> Bool} (h:mY E Y kr ko mr mo p1 p2) (e1:∀ k,p1 k = q1 k) (e2:∀ k,p2 k = q2 k):mY E Y kr ko mr mo q1 q2:=by
 rwa [show p1 = q1 from funext e1,show p2 = q2 from funext e2] at h
theorem UH (h:bK E) {a:V} {rs:List aF} (ia:IS dW a rs) (hs:∀ x ∈ rs,Small x) (hE:gA rs = if rS rs = true then 2 else if gD rs = true then 2 else 0) (hl:rs.length <= 4294967296) {Y:Sg} {kr ko mr mo:Nat} (bx:mY E Y kr ko mr mo (fun _=>false) (fun _=>false)) (F:FT) (g0:F.get 0 = a) (g7:F.get 7 = .ref kr 0) (g8:F.get 8 = .ref ko 0) (hk:∀ nm σ',K (.fI [.int .i64 (gA rs),.str nm]) σ') :
  R E (cutAt [1,1,1,1] (aA Tryz.f108).code) [] ⟨81,F⟩ Y (mF E (aA Tryz.f108).results K):=by
 have la:=cT h ia
 have key:=fun (hE':gA rs = if gD rs = true then 2 else 0) Y p2 bx F g0 g7=>UI (K:=K) (Y:=Y) (kr:=kr) (ko:=ko) (mr:=mr) (mo:=mo) (p2:=p2) h ia hs hE' hl bx F g0 g7 hk
 rw [show cutAt [1,1,1,1] (aA Tryz.f108).code = .seq (cutAt [1,1,1,1,0] (aA Tryz.f108).code) (cutAt [1,1,1,1,1] (aA Tryz.f108).code) from rfl]
 have d16:=h.Qe
 simp only [aA,Tryz.f108,cutAt,Option.getD_some] at d16
 generalize cutAt [1,1,1,1,1] (aA Tryz.f108).code = C at key ⊢
 simp only [aA,Tryz.f108,KP,↓reduceIte,Nat.reduceLT,cutAt,g0,la]
 refine aS (fun i F Y=>F.get 0 = a /\ F.get 7 = .ref kr 0 /\ F.get 8 = .ref ko 0 /\ F.get 35 = a /\ F.get 36 = .int .i64 (rs.length:Int) /\ F.get 37 = .int .i64 (i:Int) /\ mY E Y kr ko mr mo (gY (rs.take i)) (uZ (rs.take i)) /\ ∀ j,j < i -> nN rs j = false) rs.length ?_ ?_ rs.length 0 _ _ (by omega) (GQ (by simp +decide only [GS,g0,g7,g8,and_self]) ⟨bx,fun j hj=>by omega⟩)
 ·rintro i F Y hi ⟨g0,g7,g8,g35,g36,g37,bx,hp⟩ next
  obtain ⟨r,hr⟩:∃ y,rs[i]? = some y:=⟨_,List.getElem?_eq_getElem hi⟩
  obtain ⟨g,p1,p2',p3,p4,e1,i1,i2,i3,i4⟩:=fB h ia hr
  have hsm:=hs r (List.mem_of_getElem? hr)
  have a2:=hsm.outs
  have o1:=aI i1.bB
  have o2:=aI i2.bB
  have o3:=aI i3.bB
  have o4:=aI i4.bB
  have hlt:=eD hi
  have hadd:=bX i (by omega)
  have lo:=bL h i2
  have bx1:=bx.app (O.cells 37 [.str r.name,p1,p2',p3,p4] true)
  have s1:(Y ++ [O.cells 37 [.str r.name,p1,p2',p3,p4] true])[Y.length]? = some (O.cells 37 [.str r.name,p1,p2',p3,p4] true):=aO
  rw [aG]
  simp only [KP,Ax.loadAt,Ax.storeAt,↓reduceIte,Nat.reduceEqDiff,Nat.reduceLT,Nat.reduceAdd,h.bG,h.AE,g7,g8,g35,g36,g37,hlt,e1,o1,o2,o3,o4,aO,cK]
  generalize Y ++ [O.cells 37 [.str r.name,p1,p2',p3,p4] true] = τ1 at *
  generalize Y.length = y at *
  obtain ⟨es1,hm1,hsb1⟩:=bx1.m1
  obtain ⟨es2,hm2,hsb2⟩:=bx1.m2
  have bb1:=bx1.b1
  have ef:=Dl (f:=145) h bx1.b2 hm2 hsb2
  have kf:=dM (fun K=>qJ (Z:=τ1) (K:=K) (k:=145) (caps:=[.dB true [.imp true es2]]) (P:=uZ (rs.take i)) h (i2.ls τ1 9) (by omega) (fun c hc=>by cases hc with | head=>rfl | tail _ hc=>cases hc) (fun y v hy hv=>by
   subst hv
   show aB E 145 [.str y,.dB true [.imp true es2]] [] _
   rw [N4 h hsb2]; exact ⟨rfl,rfl⟩) ef)
  have hlk:=EJ (Z:=τ1) (x:=.mp mr) h (by unfold entriesOf; simp only [hm1]) hsb1 r.name
  have hcl:=CD hr
  have yes:nN rs i = true -> gA rs = 2:=fun e=>by
   rw [hE,if_pos]
   exact List.any_eq_true.2 ⟨i,List.mem_range.2 hi,e⟩
  cases m1:gY (rs.take i) r.name with
  | true=>
   rw [m1,Bool.true_or] at hcl
   rw [yes hcl] at hk
   simp only [KP,Ax.loadAt,↓reduceIte,Nat.reduceEqDiff,Nat.reduceLT,reduceCtorEq,h.cQ,h.bG,s1,bb1,hlk,m1,aR d16,bM]
   exact hk _ _
  | false=>
  rw [m1,Bool.false_or] at hcl
  cases m2:r.outs.any (uZ (rs.take i)) with
  | true=>
   rw [m2] at hcl
   rw [yes hcl] at hk
   simp only [KP,Ax.loadAt,↓reduceIte,Nat.reduceEqDiff,Nat.reduceLT,reduceCtorEq,h.cQ,h.aX,h.bG,s1,bb1,hlk,kf,m1,m2,aR d16,bM]
   exact hk _ _
  | false=>
  rw [m2] at hcl
  obtain ⟨es1',hu,hsb1'⟩:=LO h hm1 hsb1 r.name
  have bx2:=bx1.RV hsb1'
  have ny:mr ≠ y:=oW hm1 s1 (by intro e; cases e)
  have s2:(τ1.set mr (.map es1'))[y]? = some (O.cells 37 [.str r.name,p1,p2',p3,p4] true):=by rw [List.getElem?_set_ne ny]; exact s1
  simp only [KP,Ax.loadAt,↓reduceIte,Nat.reduceEqDiff,Nat.reduceLT,reduceCtorEq,h.cQ,h.aX,h.bG,h.AE,g7,s1,bb1,hlk,kf,m1,m2,hu,s2,lo]
  refine aS (fun j F Y=>F.get 0 = a /\ F.get 7 = .ref kr 0 /\ F.get 8 = .ref ko 0 /\ F.get 35 = a /\ F.get 36 = .int .i64 (rs.length:Int) /\ F.get 37 = .int .i64 (i:Int) /\ F.get 58 = p2' /\ F.get 59 = .int .i64 (r.outs.length:Int) /\ F.get 60 = .int .i64 (j:Int) /\ mY E Y kr ko mr mo (fun k=>gY (rs.take i) k || decide (k = r.name)) (fun k=>uZ (rs.take i) k || decide (k ∈ r.outs.take j))) r.outs.length ?_ ?_ r.outs.length 0 _ _ (by omega) (Aw (by simp +decide only [GS,g0,g7,g8,g35,g36,g37,and_self]) (bx2.congr (fun _=>rfl) (fun k=>by simp)))
  ·rintro j F Y hj ⟨g0,g7,g8,g35,g36,g37,g58,g59,g60,bx⟩ next2
   obtain ⟨s,hsj⟩:∃ y,r.outs[j]? = some y:=⟨_,List.getElem?_eq_getElem hj⟩
   obtain ⟨g',e2⟩:=gB h i2 hsj
   have hlt2:=eD hj
   have hadd2:=bX j (by omega)
   obtain ⟨es3,hm3,hsb3⟩:=bx.m2
   obtain ⟨es3',hu3,hsb3'⟩:=LO h hm3 hsb3 s
   have bb2:=bx.b2
   rw [aG]
   simp only [KP,Ax.loadAt,↓reduceIte,Nat.reduceEqDiff,Nat.reduceLT,h.cQ,h.AE,g8,g58,g59,g60,hlt2,e2,bb2,hu3,hadd2]
   refine next2 _ _ (Aw (by simp +decide only [GS,g0,g7,g8,g35,g36,g37,g58,g59,and_self]) ((bx.put2 hsb3').congr (fun _=>rfl) (fun k=>?_)))
   rw [List.take_add_one,hsj,Bool.or_assoc,Bool.eq_iff_iff]
   simp
  ·rintro F Y ⟨g0,g7,g8,g35,g36,g37,g58,g59,g60,bx⟩
   rw [List.take_of_length_le (Nat.le_refl _)] at bx
   have hlt2:=eE (Nat.lt_irrefl r.outs.length)
   rw [aG]
   simp only [KP,↓reduceIte,Nat.reduceEqDiff,Nat.reduceLT,g37,g59,g60,hlt2,hadd]
   refine next _ _ (GQ (by simp +decide only [GS,g0,g7,g8,g35,g36,and_self]) ⟨bx.congr (fun k=>(F9 hr k).symm) (fun k=>(HU hr k).symm),fun j hj=>?_⟩)
   rcases Nat.lt_or_ge j i with g | g
   ·exact hp j g
   ·obtain rfl:j = i:=by omega
    exact hcl
 ·rintro F Y ⟨g0,g7,g8,g35,g36,g37,bx,hp⟩
  have hcl:rS rs = false:=List.any_eq_false.2 fun j hj=>by rw [hp j (List.mem_range.1 hj)]; simp
  rw [if_neg (by rw [hcl]; simp)] at hE
  rw [List.take_of_length_le (Nat.le_refl _)] at bx
  have hlt:=eE (Nat.lt_irrefl rs.length)
  rw [aG]
  simp only [KP,↓reduceIte,Nat.reduceLT,g36,g37,hlt]
  exact key hE _ _ bx _ (by simp +decide only [GS,g0]) (by simp +decide only [GS,g7])
end
end
section
section
variable {E:Env} {Z:Sg} {K:V -> Sg -> Prop}
theorem uL {Y:Sg} {a b c d:O} {n:Nat}:(Y ++ [a] ++ [b] ++ [c] ++ [d])[Y.length + n]? = [a,b,c,d][n]?:=by
 rw [List.append_assoc,List.append_assoc,List.append_assoc,List.getElem?_append_right (by omega),Nat.add_sub_cancel_left]
 rfl
theorem ND {Y:Sg} {a b c d x:O}:(Y ++ [a] ++ [b] ++ [c] ++ [d]).set (Y.length + 2) x = Y ++ [a] ++ [b] ++ [x] ++ [d]:=by
 rw [List.append_assoc,List.append_assoc,List.append_assoc,List.set_append_right _ _ (by omega),Nat.add_sub_cancel_left,List.append_assoc,List.append_assoc,List.append_assoc]
 rfl
theorem K0 {Y:Sg} {a b c d x:O}:(Y ++ [a] ++ [b] ++ [c] ++ [d]).set (Y.length + 3) x = Y ++ [a] ++ [b] ++ [c] ++ [x]:=by
 rw [List.append_assoc,List.append_assoc,List.append_assoc,List.set_append_right _ _ (by omega),Nat.add_sub_cancel_left,List.append_assoc,List.append_assoc,List.append_assoc]
 rfl
theorem Ig {Y:Sg} {a b c:O}:(Y ++ [a]).length = Y.length + 1 /\ (Y ++ [a] ++ [b]).length = Y.length + 2 /\ (Y ++ [a] ++ [b] ++ [c]).length = Y.length + 3:=by simp
theorem JW (h:bK E) {a:V} {rs:List aF} (ha:LS dW 37 Z a rs) (hs:∀ x ∈ rs,Small x) (hl:rs.length <= 4294967296):aB E 108 [a] Z fun v σ'=>σ' = Z /\ ∃ nm,v = .fI [.int .i64 (gA rs),.str nm]:=by
 obtain ⟨a',ea,ia⟩:=eR h ha
 rw [aH h.Wm h.T8 h.Xb h.Vw (args':=[a']) (by simp only [aU,ea]),aW (by kernel_rfl)]
 have la:=cT h ia
 have key:=fun hE Y kr ko mr mo bx F g0 g7 g8=>UH (K:=fun v σ1=>match dD σ1 E.ty false v with
   | some v=>∃ nm,v = .fI [.int .i64 (gA rs),.str nm]
   | none=>False) (Y:=Y) (kr:=kr) (ko:=ko) (mr:=mr) (mo:=mo) h ia hs hE hl bx F g0 g7 g8 (fun nm σ'=>⟨nm,rfl⟩)
 rw [show (aA Tryz.f108).code = .seq (cutAt [0] (aA Tryz.f108).code) (.seq (cutAt [1,0] (aA Tryz.f108).code) (.seq (cutAt [1,1,0] (aA Tryz.f108).code) (.seq (cutAt [1,1,1,0] (aA Tryz.f108).code) (cutAt [1,1,1,1] (aA Tryz.f108).code)))) from rfl]
 have d6:=h.SN
 simp only [aA,Tryz.f108,cutAt,Option.getD_some] at d6
 generalize cutAt [1,1,1,1] (aA Tryz.f108).code = C at key ⊢
 simp only [aA,Tryz.f108,KP,↓reduceIte,Nat.reduceLT,reduceCtorEq,jX,cutAt,la]
 refine aS (fun i F Y=>F.get 0 = a' /\ F.get 16 = a' /\ F.get 17 = .int .i64 (rs.length:Int) /\ F.get 18 = .int .i64 (i:Int) /\ ∀ (j:Nat) (r:aF),j < i -> rs[j]? = some r -> aY r = 0) rs.length ?_ ?_ rs.length 0 _ _ (by omega) (h_ (by simp +decide only [GS,and_self]) (fun j r hj=>by omega))
 ·rintro i F Y hi ⟨g0,g16,g17,g18,hp⟩ next
  obtain ⟨r,hr⟩:∃ y,rs[i]? = some y:=⟨_,List.getElem?_eq_getElem hi⟩
  obtain ⟨g,p1,p2,p3,p4,e1,i1,i2,i3,i4⟩:=fB h ia hr
  have hsm:=hs r (List.mem_of_getElem? hr)
  have o1:=aI i1.bB
  have o2:=aI i2.bB
  have o3:=aI i3.bB
  have o4:=aI i4.bB
  have hlt:=eD hi
  have hadd:=bX i (by omega)
  have s1:(Y ++ [O.cells 37 [.str r.name,p1,p2,p3,p4] true])[Y.length]? = some (O.cells 37 [.str r.name,p1,p2,p3,p4] true):=aO
  have kr:=fun (Y:Sg)=>PG (Z:=Y) h (v:=.agg [.str r.name,p1,p2,p3,p4]) ⟨p1,p2,p3,p4,rfl,i1,i2,i3,i4⟩ hsm
  rw [aG]
  simp only [KP,Ax.loadAt,Ax.storeAt,↓reduceIte,Nat.reduceEqDiff,Nat.reduceLT,Nat.reduceAdd,h.bG,g16,g17,g18,hlt,e1,o1,o2,o3,o4,aO,cK]
  generalize Y ++ [O.cells 37 [.str r.name,p1,p2,p3,p4] true] = τ1 at *
  generalize Y.length = y at *
  by_cases he:aY r = 0
  ·have q:=decide_eq_true he
   simp only [KP,↓reduceIte,Nat.reduceEqDiff,Nat.reduceLT,g18,kr,q,hadd]
   refine next _ _ (h_ (by simp +decide only [GS,g0,g16,g17,and_self]) (fun j x hj hx=>?_))
   rcases Nat.lt_or_ge j i with g | g
   ·exact hp j x g hx
   ·obtain rfl:j = i:=by omega
    rw [hr] at hx; cases hx; exact he
  ·have q:=decide_eq_false he
   rw [zK hr he fun j s hj hx=>hp j s hj hx]
   simp only [KP,Ax.loadAt,↓reduceIte,Nat.reduceEqDiff,Nat.reduceLT,reduceCtorEq,h.cQ,h.bG,s1,kr,q,aR d6,bM]
   exact ⟨r.name,rfl⟩
 ·rintro F Y ⟨g0,g16,g17,g18,hp⟩
  have hE:=xT fun j s hx=>hp j s (List.getElem?_eq_some_iff.1 hx).1 hx
  have hlt:=eE (Nat.lt_irrefl rs.length)
  rw [aG]
  by_cases h40:40 < rs.length
  ·have q:decide ((40:Int) < (rs.length:Int)) = true:=decide_eq_true (by omega)
   rw [if_pos h40] at hE
   rw [hE]
   simp only [KP,↓reduceIte,Nat.reduceEqDiff,Nat.reduceLT,reduceCtorEq,jX,g0,g17,g18,hlt,la,q]
   exact ⟨[],rfl⟩
  ·have q:decide ((40:Int) < (rs.length:Int)) = false:=decide_eq_false (by omega)
   rw [if_neg h40] at hE
   have n1:=(Ig (Y:=Y) (a:=.map []) (b:=.map []) (c:=.cells 98 [.bT] true)).1
   have n2:=(Ig (Y:=Y) (a:=.map []) (b:=.map []) (c:=.cells 98 [.bT] true)).2.1
   have n3:=(Ig (Y:=Y) (a:=.map []) (b:=.map []) (c:=.cells 98 [.bT] true)).2.2
   have q1:(Y ++ [O.map []] ++ [O.map []] ++ [O.cells 98 [.bT] true] ++ [O.cells 98 [.bT] true])[Y.length + 2]? = some (O.cells 98 [.bT] true):=uL
   have q2:(Y ++ [O.map []] ++ [O.map []] ++ [O.cells 98 [.mp Y.length] true] ++ [O.cells 98 [.bT] true])[Y.length + 3]? = some (O.cells 98 [.bT] true):=uL
   simp only [KP,Ax.storeAt,↓reduceIte,Nat.reduceEqDiff,Nat.reduceLT,reduceCtorEq,h.AE,g0,g17,g18,hlt,la,q,n1,n2,n3,q1,q2,ND,K0]
   refine key hE _ (Y.length + 2) (Y.length + 3) Y.length (Y.length + 1) ⟨uL,uL,⟨[],uL (n:=0),MA⟩,⟨[],uL,MA⟩,by omega⟩ _ ?_ ?_ ?_
   ·exact (by simp +decide only [GS,g0])
   ·exact (by simp +decide only [GS])
   ·exact (by simp +decide only [GS])
end
end
section
section
variable {E:Env} {Z:Sg} {K:V -> Sg -> Prop}
theorem DQ {lt:List V -> List V -> Bool} (x:List V):∀ l,(Cb lt x l).Perm (x :: l)
 | []=>.refl _
 | y :: r=>by
  rw [Cb]
  split
  ·exact .refl _
  ·exact ((DQ x r).cons y).trans (.swap x y r)
theorem Cj {lt:List V -> List V -> Bool}:∀ (l acc:List (List V)),(l.foldl (fun acc x=>Cb lt x acc) acc).Perm (l ++ acc)
 | [],acc=>.refl _
 | x :: l,acc=>by
  rw [List.foldl_cons]
  refine (Cj l _).trans ?_
  exact ((DQ x acc).append_left l).trans List.perm_middle
theorem HF {lt:List V -> List V -> Bool} (l:List (List V)):(kT lt l).Perm l:=by
 have:=Cj (lt:=lt) l []
 rwa [List.append_nil] at this
def Fp:List V -> bA
 | [.str s]=>s
 | _=>[]
theorem A0:∀ {rs:List (List V)} {l:List bA},eT aK.P rs l -> rs = l.map fun s=>[V.str s]
 | _,_,.nil=>rfl
 | _,_,.cons h t=>by rw [List.map_cons,A0 t,show _ = [V.str _] from h]
theorem yN:∀ l:List bA,eT aK.P (l.map fun s=>[V.str s]) l
 | []=>.nil
 | _ :: l=>.cons rfl (yN l)
theorem zH:∀ l:List bA,((l.map fun s=>[V.str s]).flatten).map (fun v=>[v]) = l.map fun s=>[V.str s]
 | []=>rfl
 | s :: l=>by simp only [List.map_cons,List.flatten_cons,List.map_append,zH l]; rfl
theorem AB:∀ {l:List bA},(∀ s ∈ l,s.length <= 9223372036854775807) -> allRows jW (l.map fun s=>[V.str s]) = true
 | [],_=>rfl
 | s :: l,h=>by
  have h1:jW [V.str s] = true:=Nat.ble_eq_true_of_le (h s (List.mem_cons_self ..))
  rw [List.map_cons,allRows,h1]
  exact AB fun x hx=>h x (List.mem_cons_of_mem _ hx)
theorem Df:∀ {rows:List (List V)},(∀ r ∈ rows,∃ s,r = [V.str s]) -> rows = (rows.map Fp).map fun s=>[V.str s]
 | [],_=>rfl
 | r :: rows,h=>by
  obtain ⟨s,e⟩:=h r (List.mem_cons_self ..)
  rw [List.map_cons,List.map_cons,<- Df fun x hx=>h x (List.mem_cons_of_mem _ hx),e]
  rfl
theorem DT {Z:Sg} {w:V} {l:List bA} (ow:bO aK 9 Z w l) (hl:l.length <= 1000000) (hs:∀ s ∈ l,s.length <= 9223372036854775807):∃ σ' l',oI 9 [w] Z = some (.fI [],σ') /\ l'.Perm l /\ bO aK 9 σ' w l' /\ Sp Z σ' w /\ σ'.length = Z.length:=by
 rcases ow with ⟨rfl,rfl⟩ | ⟨b,rs,ex,rfl,hb,ha⟩
 ·exact ⟨Z,[],rfl,.refl _,.inl ⟨rfl,rfl⟩,Sp.refl _ _,rfl⟩
 ·obtain rfl:=A0 ha
  have hp:(kT strLt (l.map fun s=>[V.str s])).Perm (l.map fun s=>[V.str s]):=HF _
  have he:((kT strLt (l.map fun s=>[V.str s])).map Fp).Perm l:=by
   have:=hp.map Fp
   rwa [List.map_map,show Fp ∘ (fun s=>[V.str s]) = id from rfl,List.map_id] at this
  have hr:kT strLt (l.map fun s=>[V.str s]) = ((kT strLt (l.map fun s=>[V.str s])).map Fp).map fun s=>[V.str s]:=by
   refine Df fun r hr=>?_
   obtain ⟨s,-,e⟩:=List.mem_map.1 (hp.mem_iff.1 hr)
   exact ⟨s,e.symm⟩
  have hlen:((l.map fun s=>[V.str s]).flatten).length = l.length:=by
   have:=congrArg List.length (zH l)
   rwa [List.length_map,List.length_map] at this
  refine ⟨Z.set b (.cells 9 (kT strLt (l.map fun s=>[V.str s])).flatten ex),_,?_,he,.inr ⟨b,_,ex,?_,?_,yN _⟩,?_,?_⟩
  ·unfold oI
   simp only [hb,zH,AB hs,show Nat.beq 9 9 = true from rfl,hlen,Nat.ble_eq_true_of_le hl,show Nat.beq l.length l.length = true from Nat.beq_refl _]
  ·rw [List.length_map,hp.length_eq,List.length_map]
  ·rw [List.getElem?_set_self (List.getElem?_eq_some_iff.1 hb).1,<- hr]
  ·intro c o hc hn
   rw [List.getElem?_set_ne (fun e=>hn (by rw [<- e]; rfl))]
   exact hc
  ·rw [List.length_set]
end
end
section
section
variable {E:Env} {Z:Sg} {K:V -> Sg -> Prop}
def OL (Y:Sg) (v:V) (l:List bA):Prop:=(v = .aD /\ l = []) \/ ∃ b cs ex,v = .sl b 0 l.length none /\ Y[b]? = some (.cells 9 cs ex) /\ cs.take l.length = l.map V.str
theorem Cn:∀ l:List bA,(l.map fun s=>[V.str s]).flatten = l.map V.str
 | []=>rfl
 | s :: l=>by simp only [List.map_cons,List.flatten_cons,Cn l]; rfl
theorem Gt (h:bK E) {b off n k:Nat} (hk:k < n):indexAddr E 28 (.sl b off n none) (.int .i64 (k:Int)) = some (.ref b (off + k)):=by
 unfold Ax.indexAddr
 simp only [h.aX,h.cQ,show ¬ ((k:Int) < 0) by omega,if_false,Int.toNat_natCast,hk,if_true,Nat.mul_one]
theorem Ju (h:bK E) {Y:Sg} {b j:Nat} {A:List bA} {ex:Bool} {s:bA} (hb:Y[b]? = some (O.cells 9 (A.map V.str) ex)) (hj:A[j]? = some s):loadAt E Y 9 (.ref b j) = some (.str s):=by
 unfold Ax.loadAt
 have e:(A.map V.str)[j]? = some (.str s):=by rw [List.getElem?_map,hj]; rfl
 simp only [h.cQ,hb,e,Ax.isAgg]
 rfl
theorem wR:∀ (A:List bA) (j:Nat) (s:bA),j < A.length -> setCells (A.map V.str) j [.str s] = (A.set j s).map V.str
 | [],_,_,h=>absurd h (by simp)
 | a :: A,0,s,_=>rfl
 | a :: A,j + 1,s,h=>by
  have:=wR A j s (by simpa using h)
  simp only [List.map_cons,List.set_cons_succ,<- this]
  rfl
theorem Tu (h:bK E) {Y:Sg} {b j:Nat} {A:List bA} {ex:Bool} {s:bA} (hb:Y[b]? = some (O.cells 9 (A.map V.str) ex)) (hj:j < A.length):storeAt E Y 9 (.ref b j) (.str s) = some (Y.set b (O.cells 9 ((A.set j s).map V.str) ex)):=by
 unfold Ax.storeAt
 have e:decide (j + 1 <= (A.map V.str).length) = true:=decide_eq_true (by rw [List.length_map]; omega)
 simp only [h.cQ,hb,V.cells,List.length_cons,List.length_nil,List.all_cons,List.all_nil,V.aV,e,wR A j s hj]
 rfl
theorem Nb (h:bK E) {Y:Sg} {b off n:Nat}:lenOf E Y 28 (.sl b off n none) = some n:=by unfold lenOf; rw [h.aX]
theorem JL (h:bK E) {Y:Sg} {b n k:Nat} {A:List bA} {ex:Bool} (hb:Y[b]? = some (O.cells 9 (A.map V.str) ex)) (hn:n = A.length) (hk:k < n):Ax.slice E Y 28 (.sl b 0 n none) (some (.int .i64 (k:Int))) none none = some (.sl b k (n - k) none):=by
 unfold Ax.slice
 simp only [h.aX,h.cQ,hb,bound,show decide (0 <= (k:Int)) = true from decide_eq_true (by omega),show decide ((k:Int) <= (n:Int)) = true from decide_eq_true (by omega),Bool.and_self,if_true,Int.toNat_natCast,Nat.zero_add]
 show (if (1:Nat) = 0 then none else if (!(9 == 9)) = true then none else if k * 1 < (A.map V.str).length then some (V.sl b (k * 1) (n - k) none) else _) = _
 rw [if_neg (by decide),if_neg (by decide),if_pos (by rw [List.length_map]; omega),Nat.mul_one]
theorem OH (h:bK E) {Y:Sg} {b n k:Nat} {cs:List V} {ex:Bool} (hb:Y[b]? = some (.cells 9 cs ex)) (hn:n = cs.length) (hk:k < n):Ax.slice E Y 28 (.sl b 0 n none) none (some (.int .i64 (k:Int))) none = some (.sl b 0 k none):=by
 unfold Ax.slice
 simp only [h.aX,h.cQ,hb,bound,Fs,show decide (0 <= (k:Int)) = true from decide_eq_true (by omega),Int.toNat_natCast,Nat.zero_mul,Nat.add_zero,Nat.sub_zero,Bool.true_and]
 show (if (1:Nat) = 0 then none else if (!(9 == 9)) = true then none else match if decide ((k:Int) <= ((cs.length / 1:Nat):Int)) = true then some k else none with
  | none=>none
  | some h=>if 0 < cs.length then some (V.sl b 0 h none) else _) = _
 rw [if_neg (by decide),if_neg (by decide),if_pos (by rw [Nat.div_one]; exact decide_eq_true (by omega))]
 show (if 0 < cs.length then some (V.sl b 0 k none) else _) = _
 rw [if_pos (by omega)]
theorem NS (h:bK E) {Y:Sg} {b n k:Nat} {A:List bA} {ex:Bool} (hb:Y[b]? = some (O.cells 9 (A.map V.str) ex)) (hn:n = A.length) (hk:k < n):∃ cs,Ax.builtin E Y .clear #[28] [.sl b k (n - k) none] = some (.fI [],Y.set b (.cells 9 cs ex)) /\ cs.take k = (A.take k).map V.str /\ cs.length = n:=by
 have hne:¬ n - k = 0:=by omega
 have hle:decide (k + (n - k) * 1 <= (A.map V.str).length) = true:=decide_eq_true (by rw [List.length_map]; omega)
 refine ⟨setCells (A.map V.str) k (gX (n - k) [.str []]),?_,?_,?_⟩
 ·unfold Ax.builtin
  show (match E.ty 28 with
   | some { kd:=.sl e,.. }=>match E.ty e,Y[b]? with
    | some i,some (.cells u cs ex)=>
     if n - k = 0 then some (V.fI [],Y)
     else if u == e && decide (k + (n - k) * i.size <= cs.length) then some (V.fI [],Y.set b (.cells u (setCells cs k (gX (n - k) i.zero.cells)) ex)) else none
    | _,_=>none
   | _=>none) = _
  simp only [h.aX,h.cQ,hb,hne,if_false]
  rw [hle]
  rfl
 ·rw [List.map_take]
  clear hle hne
  unfold setCells
  rw [List.append_assoc,List.take_append_of_le_length (by rw [List.length_take,List.length_map]; omega),List.take_take,Nat.min_self]
 ·have hr:∀ m,(gX m [V.str []]).length = m:=fun m=>by
   induction m with
   | zero=>rfl
   | succ m ih=>rw [gX,List.length_append,ih]; simp; omega
  unfold setCells
  simp only [List.length_append,List.length_take,List.length_drop,List.length_map,hr]
  omega
end
end
section
section
variable {E:Env} {Z:Sg} {K:V -> Sg -> Prop}
theorem Sp.set {Z Y:Sg} {w:V} {b:Nat} {y:O} (h:Sp Z Y w) (hb:bC w = some b):Sp Z (Y.set b y) w:=fun c o hc hn=>by
 rw [List.getElem?_set_ne (fun e=>hn (by rw [hb,e]))]
 exact h c o hc hn
theorem fM {l:List bA} {k:Nat} {u:bA} (hu:l[k]? = some u) (x:bA):x ∈ l.take (k + 1) ↔ x ∈ l.take k \/ x = u:=by
 rw [List.take_add_one,hu]; simp
theorem Lx (h:bK E) {w:V} {l:List bA} (ow:bO aK 9 Z w l) (hl:l.length <= 1000000):aB E 110 [w] Z fun v σ'=>(∃ l',OL σ' v l' /\ l'.length <= l.length /\ ∀ x,x ∈ l' ↔ x ∈ l) /\ (∀ c,bC v = some c -> bC w = some c) /\ Sp Z σ' w /\ σ'.length = Z.length:=by
 rw [eF h.Wk h.T6 h.W_ h.Vu,aW (by kernel_rfl)]
 rcases ow with ⟨rfl,rfl⟩ | ⟨b,rs,ex,rfl,hb,ha⟩
 ·have ln:lenOf E Z 28 .aD = some 0:=by unfold lenOf; rw [h.aX]
  simp only [aA,Tryz.f110,KP,↓reduceIte,Nat.reduceLT,reduceCtorEq,Int.reduceLT,ln]
  exact ⟨⟨[],.inl ⟨rfl,rfl⟩,Nat.le_refl _,fun x=>Iff.rfl⟩,fun c hc=>hc,Sp.refl _ _⟩
 obtain rfl:=A0 ha
 rw [Cn] at hb
 have hls:OL Z (.sl b 0 l.length none) l:=.inr ⟨b,_,ex,rfl,hb,List.take_of_length_le (by rw [List.length_map]; exact Nat.le_refl _)⟩
 have lw:∀ Y,lenOf E Y 28 (.sl b 0 l.length none) = some l.length:=fun Y=>Nb h
 by_cases h2:l.length < 2
 ·have q:decide ((l.length:Int) < 2) = true:=decide_eq_true (by omega)
  simp only [aA,Tryz.f110,KP,↓reduceIte,Nat.reduceLT,reduceCtorEq,lw,q]
  exact ⟨⟨l,hls,Nat.le_refl _,fun x=>Iff.rfl⟩,fun c hc=>hc,Sp.refl _ _⟩
 have q:decide ((l.length:Int) < 2) = false:=decide_eq_false (by omega)
 have d6:=h.SL
 simp only [aA,Tryz.f110,cutAt,Option.getD_some] at d6
 have d11:=h.Qc
 simp only [aA,Tryz.f110,cutAt,Option.getD_some] at d11
 simp only [aA,Tryz.f110,KP,↓reduceIte,Nat.reduceLT,reduceCtorEq,lw,q]
 refine aS (fun i F Y=>Y = Z /\ F.get 0 = .sl b 0 l.length none /\ F.get 3 = .int .i64 ((i + 1:Nat):Int)) (l.length - 1) ?_ ?_ (l.length - 1) 0 _ _ (by omega) ⟨rfl,(by simp +decide only [GS]),(by simp +decide only [GS]; rfl)⟩
 ·rintro i F Y hi ⟨rfl,g0,g3⟩ next
  obtain ⟨x,hx⟩:∃ x,l[i + 1]? = some x:=⟨_,List.getElem?_eq_getElem (by omega)⟩
  obtain ⟨y,hy⟩:∃ y,l[i]? = some y:=⟨_,List.getElem?_eq_getElem (by omega)⟩
  have hlt:=eD (show i + 1 < l.length by omega)
  have hdn:=Dc (i + 1) (by omega) (by omega)
  rw [Nat.add_sub_cancel] at hdn
  have hadd:=bX (i + 1) (by omega)
  have e1:=Gt (b:=b) (off:=0) h (show i + 1 < l.length by omega)
  have e2:=Gt (b:=b) (off:=0) h (show i < l.length by omega)
  rw [Nat.zero_add] at e1 e2
  have e3:=Ju h hb hx
  have e4:=Ju h hb hy
  rw [aG]
  by_cases hxy:x = y
  case neg=>
   have hs:=fP hxy
   simp only [KP,↓reduceIte,Nat.reduceEqDiff,Nat.reduceLT,reduceCtorEq,g0,g3,lw,hlt,hdn,hadd,e1,e2,e3,e4,hs,aR d6,bM]
   exact next _ _ ⟨rfl,(by simp +decide only [GS,g0,and_self])⟩
  have hs:=gQ hxy
  have e5:=JL h hb rfl (show i + 1 < l.length by omega)
  simp only [KP,↓reduceIte,Nat.reduceEqDiff,Nat.reduceLT,reduceCtorEq,g0,g3,lw,hlt,hdn,e1,e2,e3,e4,e5,hs,aR d6,bM]
  have hly:y ∈ l.take (i + 1):=List.mem_of_getElem? (by rw [List.getElem?_take_of_lt (Nat.lt_succ_self i)]; exact hy)
  have bo:bC (.sl b 0 l.length none) = some b:=rfl
  have lw2:∀ Y,lenOf E Y 28 (.sl b (i + 1) (l.length - (i + 1)) none) = some (l.length - (i + 1)):=fun Y=>Nb h
  refine aS (fun j F τ'=>F.get 0 = .sl b 0 l.length none /\ F.get 4 = .sl b (i + 1) (l.length - (i + 1)) none /\ F.get 5 = .int .i64 ((j + 1:Nat):Int) /\ Sp Y τ' (.sl b 0 l.length none) /\ τ'.length = Y.length /\ ∃ (A:List bA) (K:Nat),τ'[b]? = some (O.cells 9 (A.map V.str) ex) /\ A.length = l.length /\ F.get 3 = .int .i64 (K:Int) /\ i + 1 <= K /\ K <= i + 1 + j /\ (∀ p,i + 1 + j <= p -> A[p]? = l[p]?) /\ ∀ x,x ∈ A.take K ↔ x ∈ l.take (i + 1 + j + 1)) (l.length - (i + 1) - 1) ?_ ?_ (l.length - (i + 1) - 1) 0 _ _ (by omega) (kW (by simp +decide only [GS,g0,and_self]) ⟨(by simp +decide only [GS]; rfl),Sp.refl _ _,rfl,l,i + 1,hb,rfl,(by simp +decide only [GS,g3]),Nat.le_refl _,Nat.le_refl _,fun p _=>rfl,fun z=>by
   rw [fM (k:=i + 1 + 0) (u:=x) hx]
   constructor
   ·exact .inl
   ·rintro (g | rfl)
    ·exact g
    ·rw [hxy]; exact hly⟩)
  ·rintro j F τ' hj ⟨g0,g4,g5,sp,hlen,A,K,hA,hAl,g3,hK1,hK2,hag,hmem⟩ next2
   obtain ⟨u,hu⟩:∃ u,l[i + 1 + j + 1]? = some u:=⟨_,List.getElem?_eq_getElem (by omega)⟩
   obtain ⟨v,hv⟩:∃ v,l[i + 1 + j]? = some v:=⟨_,List.getElem?_eq_getElem (by omega)⟩
   have hu':A[i + 1 + (j + 1)]? = some u:=(hag _ (by omega)).trans hu
   have hv':A[i + 1 + j]? = some v:=(hag _ (by omega)).trans hv
   have hlt2:=eD (show j + 1 < l.length - (i + 1) by omega)
   have hdn2:=Dc (j + 1) (by omega) (by omega)
   rw [Nat.add_sub_cancel] at hdn2
   have hadd2:=bX (j + 1) (by omega)
   have hadd3:=bX K (by omega)
   have f1:=Gt (b:=b) (off:=i + 1) h (show j + 1 < l.length - (i + 1) by omega)
   have f2:=Gt (b:=b) (off:=i + 1) h (show j < l.length - (i + 1) by omega)
   have f3:=Ju h hA hu'
   have f4:=Ju h hA hv'
   have f5:=Gt (b:=b) (off:=0) h (show K < l.length by omega)
   rw [Nat.zero_add] at f5
   have f6:=Tu (s:=u) h hA (show K < A.length by omega)
   have hms:∀ z,z ∈ l.take (i + 1 + (j + 1) + 1) ↔ z ∈ l.take (i + 1 + j + 1) \/ z = u:=fM hu
   rw [aG]
   by_cases huv:u = v
   ·have hs2:=gQ huv
    simp only [KP,↓reduceIte,Nat.reduceEqDiff,Nat.reduceLT,g4,g5,lw2,hlt2,hdn2,hadd2,f1,f2,f3,f4,hs2,aR d11,bM]
    refine next2 _ _ (iL (by simp +decide only [GS,g0,g4,and_self]) ⟨sp,hlen,A,K,hA,hAl,(by simp +decide only [GS,g3]),hK1,by omega,fun p hp=>hag p (by omega),fun z=>?_⟩)
    rw [hms,hmem]
    constructor
    ·exact .inl
    ·rintro (g | rfl)
     ·exact g
     ·rw [huv]
      exact List.mem_of_getElem? (by rw [List.getElem?_take_of_lt (Nat.lt_succ_self (i + 1 + j))]; exact hv)
   ·have hs2:=fP huv
    simp only [KP,↓reduceIte,Nat.reduceEqDiff,Nat.reduceLT,reduceCtorEq,g0,g3,g4,g5,lw2,hlt2,hdn2,hadd2,hadd3,f1,f2,f3,f4,f5,f6,hs2,aR d11,bM]
    refine next2 _ _ (iL (by simp +decide only [GS,g0,g4,and_self]) ⟨Sp.set sp bo,by rw [List.length_set]; exact hlen,A.set K u,K + 1,by rw [List.getElem?_set_self (List.getElem?_eq_some_iff.1 hA).1],by rw [List.length_set]; exact hAl,(by simp +decide only [GS]),by omega,by omega,fun p hp=>?_,fun z=>?_⟩)
    ·rw [List.getElem?_set_ne (by omega)]; exact hag p (by omega)
    ·rw [hms,<- hmem,fM (u:=u) (by rw [List.getElem?_set_self (by omega)]),List.take_set_of_le (Nat.le_refl K)]
  ·rintro F τ' ⟨g0,g4,g5,sp,hlen,A,K,hA,hAl,g3,hK1,hK2,hag,hmem⟩
   have hlt2:=eE (show ¬ l.length - (i + 1) - 1 + 1 < l.length - (i + 1) by omega)
   have f1:=JL h hA hAl.symm (show K < l.length by omega)
   obtain ⟨cs,f2,f3,f4⟩:=NS h hA hAl.symm (show K < l.length by omega)
   have hA2:(τ'.set b (.cells 9 cs ex))[b]? = some (.cells 9 cs ex):=by rw [List.getElem?_set_self (List.getElem?_eq_some_iff.1 hA).1]
   have f5:=OH h hA2 f4.symm (show K < l.length by omega)
   have hKl:(A.take K).length = K:=by rw [List.length_take]; omega
   rw [aG]
   simp only [KP,↓reduceIte,Nat.reduceEqDiff,Nat.reduceLT,reduceCtorEq,g0,g3,g4,g5,lw2,hlt2,f1,f2,f5]
   refine ⟨⟨A.take K,.inr ⟨b,cs,ex,by rw [hKl],hA2,by rw [hKl]; exact f3⟩,by rw [hKl]; omega,fun z=>?_⟩,fun c hc=>hc,Sp.set sp bo,by rw [List.length_set]; exact hlen⟩
   ·rw [hmem,show i + 1 + (l.length - (i + 1) - 1) + 1 = l.length by omega,List.take_of_length_le (Nat.le_refl _)]
 ·rintro F Y ⟨rfl,g0,g3⟩
  have hlt:=eE (show ¬ l.length - 1 + 1 < l.length by omega)
  rw [aG]
  simp only [KP,↓reduceIte,Nat.reduceEqDiff,Nat.reduceLT,reduceCtorEq,g0,g3,lw,hlt]
  exact ⟨⟨l,hls,Nat.le_refl _,fun x=>Iff.rfl⟩,fun c hc=>hc,Sp.refl _ _⟩
end
end
section
section
variable {E:Env} {Z:Sg} {K:V -> Sg -> Prop}
def MK (get:bA -> Option V) (P:bA -> bA -> Prop):Prop:=∀ k,(get k = none /\ ∀ n,¬ P k n) \/ ∃ n,P k n /\ get k = some (.str n)
theorem MK.nil:MK (fun _=>none) fun _ _=>False:=fun _=>.inl ⟨rfl,fun _ h=>h⟩
theorem MK.put {get:bA -> Option V} {P:bA -> bA -> Prop} (h:MK get P) (k n:bA):MK (fun q=>if q = k then some (.str n) else get q) fun q m=>P q m \/ (q = k /\ m = n):=fun q=>by
 by_cases hq:q = k
 ·exact .inr ⟨n,.inr ⟨hq,rfl⟩,if_pos hq⟩
 ·rcases h q with ⟨h1,h2⟩ | ⟨m,h1,h2⟩
  ·exact .inl ⟨(if_neg hq).trans h1,fun m hm=>hm.elim (h2 m) fun g=>hq g.1⟩
  ·exact .inr ⟨m,.inl h1,(if_neg hq).trans h2⟩
theorem MK.congr {get:bA -> Option V} {P Q:bA -> bA -> Prop} (h:MK get P) (e:∀ k n,P k n ↔ Q k n):MK get Q:=fun k=>by
 rcases h k with ⟨h1,h2⟩ | ⟨n,h1,h2⟩
 ·exact .inl ⟨h1,fun n hn=>h2 n ((e k n).2 hn)⟩
 ·exact .inr ⟨n,(e k n).1 h1,h2⟩
theorem Jq (h:bK E) {Z:Sg} {x:V} {es:List (V × V)} {get:bA -> Option V} (hx:entriesOf Z x = some es) (hs:SM E es get) (k:bA):lookup E Z 104 x (.str k) true = some (match get k with | some v=>.fI [v,.bool true] | none=>.fI [.str [],.bool false]):=by
 have hk:dL E 9 (.str k) = true:=by unfold dL; rw [h.cQ]
 unfold Ax.lookup
 simp only [h.uW,h.cQ,hk,hx,hs.2 k,Bool.not_true,Bool.false_eq_true,if_false]
 cases get k <;> rfl
theorem Ra (h:bK E) {Z:Sg} {b:Nat} {es:List (V × V)} {get:bA -> Option V} (hb:Z[b]? = some (.map es)) (hs:SM E es get) (k n:bA):∃ es',mapUpdate E Z 104 (.mp b) (.str k) (.str n) = some (Z.set b (.map es')) /\ SM E es' fun q=>if q = k then some (.str n) else get q:=by
 obtain ⟨es',h1,h2⟩:=Eu h (v:=.str n) k rfl hs
 have hk:dL E 9 (.str k) = true:=by unfold dL; rw [h.cQ]
 refine ⟨es',?_,h2⟩
 unfold Ax.mapUpdate
 simp only [h.uW,hk,hb,h1,eX,V.aV,Bool.not_true,Bool.or_self,Bool.false_eq_true,if_false,Option.map_some]
def Mk (rs:List aF) (k n:bA):Prop:=∃ r ∈ rs,k ∈ r.outs /\ n = r.name
theorem J0 {rs:List aF} {i:Nat} {r:aF} (hr:rs[i]? = some r) (k n:bA):Mk (rs.take (i + 1)) k n ↔ Mk (rs.take i) k n \/ (k ∈ r.outs /\ n = r.name):=by
 unfold Mk
 rw [List.take_add_one,hr]
 simp only [List.mem_append,Option.toList_some,List.mem_singleton]
 constructor
 ·rintro ⟨q,hq | rfl,h⟩
  ·exact .inl ⟨q,hq,h⟩
  ·exact .inr h
 ·rintro (⟨q,hq,h⟩ | h)
  ·exact ⟨q,.inl hq,h⟩
  ·exact ⟨r,.inr rfl,h⟩
theorem UY (h:bK E) {a:V} {rs:List aF} (ia:IS dW a rs) (hs:∀ x ∈ rs,Small x) (hl:rs.length <= 4294967296) (F:FT) (g0:F.get 0 = a) (g3:F.get 3 = .mp 0)
  (hk:∀ F' Y es get,F'.get 0 = a -> F'.get 3 = .mp 0 -> Y[0]? = some (.map es) -> SM E es get -> MK get (Mk rs) -> R E (cutAt [1,1,1] (aA Tryz.f147).code) [] ⟨74,F'⟩ Y (mF E (aA Tryz.f147).results K)) :
  R E (cutAt [1,1] (aA Tryz.f147).code) [] ⟨74,F⟩ [.map []] (mF E (aA Tryz.f147).results K):=by
 have la:=cT h ia
 rw [show cutAt [1,1] (aA Tryz.f147).code = .seq (cutAt [1,1,0] (aA Tryz.f147).code) (cutAt [1,1,1] (aA Tryz.f147).code) from rfl]
 generalize cutAt [1,1,1] (aA Tryz.f147).code = C at hk ⊢
 simp only [aA,Tryz.f147,KP,↓reduceIte,Nat.reduceLT,cutAt,g0,la]
 refine aS (fun i F Y=>F.get 0 = a /\ F.get 3 = .mp 0 /\ F.get 17 = a /\ F.get 18 = .int .i64 (rs.length:Int) /\ F.get 19 = .int .i64 (i:Int) /\ ∃ es get,Y[0]? = some (.map es) /\ SM E es get /\ MK get (Mk (rs.take i))) rs.length ?_ ?_ rs.length 0 _ _ (by omega) (lV (by simp +decide only [GS,g0,g3,and_self]) ⟨[],fun _=>none,rfl,HK,MK.nil.congr fun k n=>⟨fun h=>h.elim,fun ⟨r,hr,_⟩=>by cases hr⟩⟩)
 ·rintro i F Y hi ⟨g0,g3,g17,g18,g19,es,get,hb,hsm,hmk⟩ next
  obtain ⟨r,hr⟩:∃ y,rs[i]? = some y:=⟨_,List.getElem?_eq_getElem hi⟩
  obtain ⟨g,p1,p2,p3,p4,e1,i1,i2,i3,i4⟩:=fB h ia hr
  have hsr:=hs r (List.mem_of_getElem? hr)
  have a2:=hsr.outs
  have o1:=aI i1.bB
  have o2:=aI i2.bB
  have o3:=aI i3.bB
  have o4:=aI i4.bB
  have hlt:=eD hi
  have hadd:=bX i (by omega)
  have lo:=bL h i2
  have hb1:=aN (x:=O.cells 37 [.str r.name,p1,p2,p3,p4] true) hb
  have s1:(Y ++ [O.cells 37 [.str r.name,p1,p2,p3,p4] true])[Y.length]? = some (O.cells 37 [.str r.name,p1,p2,p3,p4] true):=aO
  rw [aG]
  simp only [KP,Ax.loadAt,Ax.storeAt,↓reduceIte,Nat.reduceEqDiff,Nat.reduceLT,Nat.reduceAdd,reduceCtorEq,h.aX,h.bG,g17,g18,g19,hlt,e1,o1,o2,o3,o4,aO,cK]
  generalize Y ++ [O.cells 37 [.str r.name,p1,p2,p3,p4] true] = τ1 at *
  generalize Y.length = y at *
  simp only [KP,↓reduceIte,Nat.reduceLT,lo]
  refine aS (fun j F Y=>F.get 0 = a /\ F.get 3 = .mp 0 /\ F.get 17 = a /\ F.get 18 = .int .i64 (rs.length:Int) /\ F.get 19 = .int .i64 (i:Int) /\ F.get 5 = .ref y 0 /\ F.get 24 = p2 /\ F.get 25 = .int .i64 (r.outs.length:Int) /\ F.get 26 = .int .i64 (j:Int) /\ Y[y]? = some (O.cells 37 [.str r.name,p1,p2,p3,p4] true) /\ ∃ es get,Y[0]? = some (.map es) /\ SM E es get /\ MK get fun k n=>Mk (rs.take i) k n \/ (k ∈ r.outs.take j /\ n = r.name)) r.outs.length ?_ ?_ r.outs.length 0 _ _ (by omega) (Aw (by simp +decide only [GS,g0,g3,g17,g18,g19,and_self]) ⟨s1,es,get,hb1,hsm,hmk.congr fun k n=>by simp⟩)
  ·rintro j F Y hj ⟨g0,g3,g17,g18,g19,g5,g24,g25,g26,s1,es,get,hb,hsm,hmk⟩ next2
   obtain ⟨s,hsj⟩:∃ y,r.outs[j]? = some y:=⟨_,List.getElem?_eq_getElem hj⟩
   obtain ⟨g',e2⟩:=gB h i2 hsj
   have hlt2:=eD hj
   have hadd2:=bX j (by omega)
   obtain ⟨es',hu,hsm'⟩:=Ra h hb hsm s r.name
   have hy0:0 ≠ y:=oW hb s1 (by intro e; cases e)
   rw [aG]
   simp only [KP,Ax.loadAt,↓reduceIte,Nat.reduceEqDiff,Nat.reduceLT,reduceCtorEq,h.cQ,h.bG,g3,g5,g24,g25,g26,hlt2,e2,s1,hu,hadd2]
   refine next2 _ _ (Aw (by simp +decide only [GS,g0,g3,g17,g18,g19,g5,g24,g25,and_self]) ⟨by rw [List.getElem?_set_ne hy0]; exact s1,es',_,by rw [List.getElem?_set_self (List.getElem?_eq_some_iff.1 hb).1],hsm',(hmk.put s r.name).congr fun k n=>?_⟩)
   rw [fM hsj]
   constructor
   ·rintro ((h1 | h1) | h1)
    ·exact .inl h1
    ·exact .inr ⟨.inl h1.1,h1.2⟩
    ·exact .inr ⟨.inr h1.1,h1.2⟩
   ·rintro (h1 | ⟨h1 | h1,h2⟩)
    ·exact .inl (.inl h1)
    ·exact .inl (.inr ⟨h1,h2⟩)
    ·exact .inr ⟨h1,h2⟩
  ·rintro F Y ⟨g0,g3,g17,g18,g19,g5,g24,g25,g26,s1,es,get,hb,hsm,hmk⟩
   rw [List.take_of_length_le (Nat.le_refl _)] at hmk
   have hlt2:=eE (Nat.lt_irrefl r.outs.length)
   rw [aG]
   simp only [KP,↓reduceIte,Nat.reduceEqDiff,Nat.reduceLT,g19,g25,g26,hlt2,hadd]
   exact next _ _ (lV (by simp +decide only [GS,g0,g3,g17,g18,and_self]) ⟨es,get,hb,hsm,hmk.congr fun k n=>(J0 hr k n).symm⟩)
 ·rintro F Y ⟨g0,g3,g17,g18,g19,es,get,hb,hsm,hmk⟩
  rw [List.take_of_length_le (Nat.le_refl _)] at hmk
  have hlt:=eE (Nat.lt_irrefl rs.length)
  rw [aG]
  simp only [KP,↓reduceIte,Nat.reduceLT,g18,g19,hlt]
  exact hk _ _ es get (by simp +decide only [GS,g0]) (by simp +decide only [GS,g3]) hb hsm hmk
end
end
section
section
variable {E:Env} {Z:Sg} {K:V -> Sg -> Prop}
theorem OL.keep {Z Y:Sg} {v:V} {l:List bA} (h:OL Z v l) (k:∀ (c:Nat) (o:O),bC v = some c -> Z[c]? = some o -> Y[c]? = some o):OL Y v l:=by
 rcases h with h | ⟨b,cs,ex,rfl,hb,ht⟩
 ·exact .inl h
 ·exact .inr ⟨b,cs,ex,rfl,k b _ rfl hb,ht⟩
theorem OL.ok {Z:Sg} {v:V} {l:List bA} (h:OL Z v l):eX v = true:=by
 rcases h with ⟨rfl,-⟩ | ⟨b,cs,ex,rfl,-⟩ <;> rfl
def QZ (v:V) (l:List bA):Prop:=(v = .aD /\ l = []) \/ ∃ full,v = .bR false (l.map fun s=>[V.str s]) full
theorem nY:∀ l:List bA,Ax.rows 1 l.length (l.map V.str) = l.map fun s=>[V.str s]
 | []=>rfl
 | s :: l=>by
  rw [List.length_cons,List.map_cons,Ax.rows,List.map_cons]
  exact congrArg _ (nY l)
theorem OL.snap (h:bK E) {Z:Sg} {v:V} {l:List bA} {m:Nat} (ho:OL Z v l):∃ v',bS Z E.ty false (m + 2) v = some v' /\ QZ v' l:=by
 rcases ho with ⟨rfl,rfl⟩ | ⟨b,cs,ex,rfl,hb,ht⟩
 ·exact ⟨.aD,rfl,.inl ⟨rfl,rfl⟩⟩
 ·have hle:l.length <= cs.length:=by
   have:=congrArg List.length ht
   rw [List.length_take,List.length_map] at this
   omega
  have ht1:cs.take (l.length * 1) = l.map V.str:=by rw [Nat.mul_one]; exact ht
  obtain ⟨full,e⟩:=FE (g:=false) (n:=l.length) (m:=m) hb h.cQ (show l.length * 1 <= _ by omega) (fun c hcm=>by
   rw [show cs.take (l.length * 1) = l.map V.str from ht1] at hcm
   obtain ⟨s,-,rfl⟩:=List.mem_map.1 hcm
   exact ⟨rfl,rfl⟩)
  refine ⟨_,e,.inr ⟨full,?_⟩⟩
  show V.bR false (Ax.rows 1 l.length (cs.take (l.length * 1))) full = _
  rw [ht1,nY]
theorem QZ.tag {v:V} {l:List bA} (h:QZ v l):cO false v = true:=by
 rcases h with ⟨rfl,-⟩ | ⟨full,rfl⟩ <;> rfl
def CR (Y:Sg) (N:aF -> bA -> Prop) (es:List (V × V)) (rs:List aF):Prop:=eT (fun e r=>e.1 = V.str r.name /\ ∃ l,OL Y e.2 l /\ l.length <= 1000000 /\ ∀ x,x ∈ l ↔ N r x) es rs
def AW (N:aF -> bA -> Prop) (es:List (V × V)) (rs:List aF):Prop:=eT (fun e r=>e.1 = V.str r.name /\ ∃ l,QZ e.2 l /\ l.length <= 1000000 /\ ∀ x,x ∈ l ↔ N r x) es rs
theorem CR.keep {Z Y:Sg} {N:aF -> bA -> Prop} {mA:Nat} {em:List (V × V)} {es:List (V × V)} {rs:List aF} (h:CR Z N es rs) (hm:Z[mA]? = some (.map em)) (k:∀ (c:Nat) (o:O),Z[c]? = some o -> c ≠ mA -> Y[c]? = some o):CR Y N es rs:=by
 refine eT.imp h fun e r ⟨h1,l,h2,h3⟩=>⟨h1,l,h2.keep fun c o hc ho=>k c o ho ?_,h3⟩
 rintro rfl
 rcases h2 with ⟨e0,-⟩ | ⟨b,cs,ex,e0,hb,-⟩
 ·rw [e0] at hc; cases hc
 ·rw [e0] at hc
  cases hc
  rw [hm] at hb
  cases hb
theorem BO (h:bK E) {k:bA} {v:V}:∀ {es:List (V × V)},(∀ e ∈ es,∃ q,e.1 = V.str q /\ q ≠ k) -> kE (eM E 9) (.str k) v es = some (es ++ [(.str k,v)])
 | [],_=>rfl
 | (k0,v0) :: es,hs=>by
  obtain ⟨q,e1,hq⟩:=hs _ (List.mem_cons_self ..)
  dsimp only at e1
  subst e1
  rw [kE,bU h,fP (Ne.symm hq)]
  simp only [BO h fun e he=>hs e (List.mem_cons_of_mem _ he)]
  rfl
theorem OJ (h:bK E) {Y:Sg} {b:Nat} {N:aF -> bA -> Prop} {es:List (V × V)} {rs:List aF} {r:aF} {v:V} {l:List bA} (hb:Y[b]? = some (.map es)) (ha:CR Y N es rs) (hn:∀ q ∈ rs,q.name ≠ r.name) (hv:OL Y v l) (hl:l.length <= 1000000) (hm:∀ x,x ∈ l ↔ N r x) :
  mapUpdate E Y 96 (.mp b) (.str r.name) v = some (Y.set b (.map (es ++ [(.str r.name,v)]))) /\ CR (Y.set b (.map (es ++ [(.str r.name,v)]))) N (es ++ [(.str r.name,v)]) (rs ++ [r]):=by
 have hk:dL E 9 (.str r.name) = true:=by unfold dL; rw [h.cQ]
 have hp:=BO (v:=v) (k:=r.name) h (es:=es) fun e he=>by
  obtain ⟨q,hq,h1,-⟩:=eT.mem ha he
  exact ⟨q.name,h1,hn q hq⟩
 have hkeep:∀ (c:Nat) (o:O),Y[c]? = some o -> c ≠ b -> (Y.set b (.map (es ++ [(.str r.name,v)])))[c]? = some o:=fun c o hc hcb=>by
  rw [List.getElem?_set_ne (Ne.symm hcb)]; exact hc
 refine ⟨?_,?_⟩
 ·unfold Ax.mapUpdate
  simp only [h.ty96,hk,hb,hp,hv.ok,Bool.not_true,Bool.or_self,Bool.false_eq_true,if_false,Option.map_some]
 ·refine eT.append (ha.keep hb hkeep) (.cons ⟨rfl,l,hv.keep fun c o hc ho=>hkeep c o ho ?_,hl,hm⟩ .nil)
  rintro rfl
  rcases hv with ⟨e0,-⟩ | ⟨b',cs,ex,e0,hb',-⟩
  ·rw [e0] at hc; cases hc
  ·rw [e0] at hc
   cases hc
   rw [hb] at hb'
   cases hb'
theorem Mw (h:bK E) {Y:Sg} {b:Nat} {N:aF -> bA -> Prop} {es:List (V × V)} {rs:List aF} (hb:Y[b]? = some (.map es)) (ha:CR Y N es rs):∃ es',dD Y E.ty false (.mp b) = some (.imp false es') /\ AW N es' rs:=by
 have key:∀ {es:List (V × V)} {rs:List aF},CR Y N es rs -> ∃ es',aU (fun (e:V × V)=>if e.1.cells.all Ax.plainCell then (match e.2 with
   | .agg cs=>match aU (fun v=>match bS Y E.ty false 11 v with
     | some v=>if cO false v then some v else Ax.no "snap: borrowed"
     | none=>none) cs with
    | some cs=>some (e.1,V.agg cs)
    | none=>none
   | v=>match (match bS Y E.ty false 11 v with
     | some v=>if cO false v then some v else Ax.no "snap: borrowed"
     | none=>none) with
    | some v=>some (e.1,v)
    | none=>none) else none) es = some es' /\ AW N es' rs:=by
  intro es rs ha
  induction ha with
  | nil=>exact ⟨[],rfl,.nil⟩
  | @cons e r es rs h1 _ ih=>
   obtain ⟨es',e1,a1⟩:=ih
   obtain ⟨a,v⟩:=e
   obtain ⟨h2,l,h3,h4,h5⟩:=h1
   dsimp only at h2 h3
   subst h2
   obtain ⟨v',e2,sv⟩:=h3.snap (m:=9) h
   refine ⟨(.str r.name,v') :: es',?_,.cons ⟨rfl,l,sv,h4,h5⟩ a1⟩
   rw [aU]
   have hpc:(V.str r.name).cells.all Ax.plainCell = true:=rfl
   have ht:=sv.tag
   rcases h3 with ⟨rfl,-⟩ | ⟨b',cs,ex,rfl,-⟩
   ·simp only [hpc,if_true,e2,ht,e1]
   ·simp only [hpc,if_true,e2,ht,e1]
 obtain ⟨es',e1,a1⟩:=key ha
 refine ⟨es',?_,a1⟩
 have e:bS Y E.ty false 12 (.mp b) = some (.imp false es'):=by
  rw [bS]
  simp only [hb]
  exact congrArg (fun o=>match o with
   | some l=>some (V.imp false l)
   | none=>none) e1
 show aZ.one Y E.ty false (.mp b) = _
 unfold aZ.one
 rw [show dV = 12 from rfl,e]
 rfl
end
end
section
section
variable {E:Env} {Z:Sg} {K:V -> Sg -> Prop}
theorem R1 (h:bK E) {τ0 Y:Sg} {w p1 p2 p3 p4:V} {l:List bA} {r:aF} {y mA:Nat} {es:List (V × V)} {N:aF -> bA -> Prop} {rs:List aF} (ow:bO aK 9 Y w l) (hl:l.length <= 1000000) (kp:Kp τ0 Y) (fr:∀ b,bC w = some b -> τ0.length <= b) (hy:τ0[y]? = some (O.cells 37 [.str r.name,p1,p2,p3,p4] true)) (hA:τ0[mA]? = some (.map es)) (ha:CR τ0 N es rs) (hn:∀ q ∈ rs,q.name ≠ r.name) (hm:∀ x,x ∈ l ↔ N r x)
  (F:FT) (g8:F.get 8 = .mp mA) (g10:F.get 10 = .ref y 0) (g11:F.get 11 = w) {st:List mE} {Q:Ax.X -> Fr -> Sg -> Prop}
  (hk:∀ F' τ' es',(∀ k,k ∈ [0,3,8,37,38,39] -> F'.get k = F.get k) -> τ'[mA]? = some (.map es') -> CR τ' N es' (rs ++ [r]) -> (∀ (c:Nat) (o:O),τ0[c]? = some o -> c ≠ mA -> τ'[c]? = some o) -> M E st .normal ⟨74,F'⟩ τ' Q):R E (.region 24 (opsOf (cutAt [1,1,1,1,0,1,2,2,1,1,0,2,1,1,1,1] (aA Tryz.f147).code)) true) st ⟨74,F⟩ Y Q:=by
 obtain ⟨n,v,τ1,hcall,⟨l',ol,hle,hmem⟩,hbk,sp,hlen⟩:=Lx h ow hl
 have kp1:Kp τ0 τ1:=fun c o hc=>sp c o (kp c o hc) fun e=>absurd (List.getElem?_eq_some_iff.1 hc).1 (by have:=fr c e; omega)
 have hy0:=kp _ _ hy
 have hy1:=kp1 _ _ hy
 have hA1:=kp1 _ _ hA
 obtain ⟨hu,ha2⟩:=OJ h hA1 (ha.keep hA fun c o hc _=>kp1 c o hc) hn ol (by omega) (fun x=>(hmem x).trans (hm x))
 have vs:=zW 11 r.name
 have key:∃ F',cG E (ev E n) (opsOf (cutAt [1,1,1,1,0,1,2,2,1,1,0,2,1,1,1,1] (aA Tryz.f147).code)) ⟨74,F⟩ Y = some (⟨74,F'⟩,τ1.set mA (.map (es ++ [(.str r.name,v)]))) /\ (∀ k,k ∈ [0,3,8,37,38,39] -> F'.get k = F.get k):=by
  unfold cG
  rw [h.OC,h.O_]
  simp only [aA,Tryz.f147,KP,Ax.loadAt,↓reduceIte,Nat.reduceEqDiff,Nat.reduceLT,Nat.reduceAdd,reduceCtorEq,h.cQ,h.bG,opsOf,cutAt,iD,bH,bY,kB,Ax.comp,Ax.last,iG,Ax.again,aP,g8,g10,g11,hy0,hy1,hcall,hu,vs]
  refine ⟨_,rfl,fun k hk=>?_⟩
  simp only [List.mem_cons,List.not_mem_nil,or_false] at hk
  rcases hk with rfl | rfl | rfl | rfl | rfl | rfl <;> simp +decide only [GS]
 obtain ⟨F',hD,h1⟩:=key
 refine Eq.mpr (iX hD) (hk F' _ _ h1 (by rw [List.getElem?_set_self (List.getElem?_eq_some_iff.1 hA1).1]) ha2 fun c o hc hcm=>?_)
 rw [List.getElem?_set_ne (Ne.symm hcm)]
 exact kp1 c o hc
end
end
end Go.Proofs.YtlbbdpkjeeiahaaGreatDoor
end
