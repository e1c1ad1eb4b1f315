/- Part 16 of the proof's own texts (pressed by a program of its author's). -/
import Derived.Test.YtlbbdpkjeeiahaaGreatDoorZ15
import Derived.Test.YtlbbdpkjeeiahaaGreatDoorZ2
import Derived.Deep.Slices
import Derived.Test.YtlbbdpkjeeiahaaGreatDoorZ3
import Derived.KernelRfl
import Derived.Test.YtlbbdpkjeeiahaaGreatDoorZ14
section
set_option maxRecDepth 10000
set_option maxHeartbeats 8000000
set_option linter.unusedVariables false
namespace Go.Proofs.YtlbbdpkjeeiahaaGreatDoor
open Go Go.Ax Go.AxS
section
section
variable {E:Env} {Z:Sg} {K:V -> Sg -> Prop}
theorem oU {f:V -> V -> Bool}:∀ {l:List V},(∀ x ∈ l,f x x = true) -> qS f l l = true
 | [],_=>rfl
 | x :: l,h=>by
  show (f x x && qS f l l) = true
  rw [h x (List.mem_cons_self ..),oU fun y hy=>h y (List.mem_cons_of_mem _ hy)]; rfl
theorem CP {f:List V -> List V -> Bool}:∀ {l:List (List V)},(∀ x ∈ l,f x x = true) -> qS f l l = true
 | [],_=>rfl
 | x :: l,h=>by
  show (f x x && qS f l l) = true
  rw [h x (List.mem_cons_self ..),CP fun y hy=>h y (List.mem_cons_of_mem _ hy)]; rfl
theorem LX {α:Type} {L:Lay α} (n:Nat) (hL:∀ r x,L.P r x -> ∀ c ∈ r,sL n c c = true) {v:V} {l:List α} (h:IS L v l):sL (n + 1) v v = true:=by
 rcases h with ⟨rfl,-⟩ | ⟨g,rs,full,rfl,ha⟩
 ·rfl
 ·show (g == g && qS (qS (sL n)) rs rs && full == full) = true
  rw [CP fun r hr=>?_]
  ·simp
  ·obtain ⟨x,-,hp⟩:=ha.mem hr
   exact oU (hL r x hp)
theorem zT (n:Nat) (s:aZ):sL (n + 1) (.str s) (.str s) = true:=gW rfl
theorem IW (n:Nat) (k:IntKind) (i:Int):sL (n + 1) (.int k i) (.int k i) = true:=by
 show (decide (k = k) && decide (i = i)) = true
 simp
theorem cA {v:V} {l:List aZ} (n:Nat) (h:IS aK v l):sL (n + 2) v v = true:=LX (n + 1) (fun r x hr c hc=>by
 rw [show r = [.str x] from hr] at hc
 cases hc with
 | head=>exact zT n x
 | tail _ h=>cases h) h
theorem nU {v:V} {l:List AxS.Step} (n:Nat) (h:IS eW v l):sL (n + 3) v v = true:=LX (n + 2) (fun r x hr c hc=>by
 obtain ⟨a,b,rfl,h1,h2⟩:=hr
 simp only [List.mem_cons,List.not_mem_nil,or_false] at hc
 rcases hc with rfl | rfl | rfl | rfl | rfl
 ·exact zT (n + 1) _
 ·exact IW (n + 1) _ _
 ·exact cA n h1
 ·exact cA n h2
 ·exact IW (n + 1) _ _) h
theorem xW (h:bM E) {Y:Sg} {w v:V} {l m:List aZ} (ow:bD aK 9 Y w l) (iv:IS aK v m) (hb:l.length + m.length <= 1000000000):∃ w' τ',Ax.append E Y #[28,28] w v = some (w',τ') /\ bD aK 9 τ' w' (l ++ m) /\ Sp Y τ' w /\ Y.length <= τ'.length /\ ∀ b,aT w' = some b -> aT w = some b \/ Y.length <= b:=by
 obtain ⟨rs,e,ha⟩:=qN iv Y
 exact jR h.aV rfl h.cN rfl (by decide) (jE h) rfl ow e ha (eS (b:=1000000000) (by decide) hb)
theorem xX (h:bM E) {Y:Sg} {w:V} {l:List aZ} {s:aZ} {ex:Bool} (ow:bD aK 9 Y w l) (hb:l.length <= 1000000000):∃ w' τ',Ax.append E (Y ++ [.cells 9 [.str s] ex]) #[28,28] w (.sl Y.length 0 1 none) = some (w',τ') /\ bD aK 9 τ' w' (l ++ [s]) /\ Sp (Y ++ [.cells 9 [.str s] ex]) τ' w /\ Y.length <= τ'.length:=by
 obtain ⟨w',τ',h1,h2,h3,h4,-⟩:=jR (m:=[s]) (new:=[[.str s]]) h.aV rfl h.cN rfl (by decide) (jE h) rfl (ow.app [.cells 9 [.str s] ex]) (mE rfl) (.one rfl) (eS (b:=1000000001) (by decide) (by simp only [List.length_cons,List.length_nil]; omega))
 exact ⟨w',τ',h1,h2,h3,by simp only [List.length_append,List.length_cons,List.length_nil] at h4; omega⟩
theorem Qf (h:bM E) {x:aG} {a b c d:V} (ia:IS aK a x.ins) (ib:IS aK b x.outs) (ic:IS aK c x.after) (hsm:x.ins.length <= 100000000 /\ x.outs.length <= 100000000 /\ x.after.length <= 100000000) (F:FT) (g1:F.get 1 = .ref 0 0) (g2:F.get 2 = .bool false) :
  ∃ F' Y w,cI E (ev E 0) (opsOf (cutAt [1,0] (aA Tryz.f105).code)) ⟨64,F⟩ [.cells 37 [.str x.name,a,b,c,d] true] = some (⟨64,F'⟩,Y) /\ F'.get 1 = .ref 0 0 /\ F'.get 3 = w /\ Y[0]? = some (.cells 37 [.str x.name,a,b,c,d] true) /\ bD aK 9 Y w (x.name :: (x.ins ++ (x.outs ++ x.after))) /\ aT w ≠ some 0:=by
 have o0:bD aK 9 [.cells 37 [.str x.name,a,b,c,d] true,.cells 9 [.str x.name] true] (.sl 1 0 1 none) [x.name]:=.inr ⟨1,[[.str x.name]],true,rfl,rfl,.one rfl⟩
 obtain ⟨w1,τ1,ha1,o1,k1,n1,-⟩:=xW h o0 ia (by simp only [List.length_cons,List.length_nil]; omega)
 obtain ⟨w2,τ2,ha2,o2,k2,n2,-⟩:=xW h o1 ib (by simp only [List.length_append,List.length_cons,List.length_nil]; omega)
 obtain ⟨w3,τ3,ha3,o3,k3,n3,-⟩:=xW h o2 ic (by simp only [List.length_append,List.length_cons,List.length_nil]; omega)
 have b1:τ1[0]? = some (.cells 37 [.str x.name,a,b,c,d] true):=k1 0 _ rfl (by show some 1 ≠ some 0; simp)
 have nb:∀ {Y:Sg} {w:V} {l:List aZ},Y[0]? = some (.cells 37 [.str x.name,a,b,c,d] true) -> bD aK 9 Y w l -> aT w ≠ some 0:=by
  rintro Y w l hb (⟨rfl,-⟩ | ⟨b,rs,ex,rfl,hc,-⟩) e
  ·cases e
  ·cases e; rw [hb] at hc; cases hc
 have b2:τ2[0]? = some (.cells 37 [.str x.name,a,b,c,d] true):=k2 0 _ b1 (nb b1 o1)
 have b3:τ3[0]? = some (.cells 37 [.str x.name,a,b,c,d] true):=k3 0 _ b2 (nb b2 o2)
 have va:=cA 10 ia
 have vb:=cA 10 ib
 have vc:=cA 10 ic
 unfold cI
 rw [h.Ry,h.Sk]
 simp only [aA,Tryz.f105,KP,Ax.loadAt,↓reduceIte,Nat.reduceEqDiff,Nat.reduceLT,Nat.reduceLeDiff,Nat.reduceAdd,Nat.reduceMul,reduceCtorEq,h.cN,h.aV,h.bI,opsOf,cutAt,Fz.lits,Fz.apps,iC,bK,bZ,kD,Ax.comp,Ax.last,iG,Ax.again,g1,iN,ha1,ha2,ha3,b1,b2,va,vb,vc]
 refine ⟨_,_,w3,rfl,(kX (by simp +decide only [GS,g1,and_self]) ⟨b3,?_,nb b3 o3⟩)⟩
 have e:[x.name] ++ x.ins ++ x.outs ++ x.after = x.name :: (x.ins ++ (x.outs ++ x.after)):=by simp
 rw [<- e]
 exact o3
theorem Qe (h:bM E) {x:aG} {a b c d:V} (id:IS eW d x.steps) {st:AxS.Step} {i:Nat} (hi:x.steps[i]? = some st) {Y:Sg} {w:V} {l:List aZ} (b0:Y[0]? = some (.cells 37 [.str x.name,a,b,c,d] true)) (ow:bD aK 9 Y w l) (nw:aT w ≠ some 0) (hsm:l.length <= 500000000 /\ st.args.length <= 100000000)
  (F:FT) (g1:F.get 1 = .ref 0 0) (g3:F.get 3 = w) (g4:F.get 4 = .int .i64 (i:Int)) :
  ∃ F' τ' w',cI E (ev E 0) (opsOf (cutAt [1,1,0,1,2,2,1,0,2,1] (aA Tryz.f105).code)) ⟨64,F⟩ Y = some (⟨64,F'⟩,τ') /\ F'.get 1 = .ref 0 0 /\ F'.get 3 = w' /\ F'.get 4 = .int .i64 (i:Int) /\ τ'[0]? = some (.cells 37 [.str x.name,a,b,c,d] true) /\ bD aK 9 τ' w' (l ++ st.out :: st.args) /\ aT w' ≠ some 0:=by
 obtain ⟨g,p,q,e1,ip,iq⟩:=uH h id hi
 obtain ⟨w1,τ1,ha1,o1,k1,n1⟩:=xX (s:=st.out) (ex:=true) h ow (by omega)
 obtain ⟨w2,τ2,ha2,o2,k2,n2,-⟩:=xW h o1 ip (by simp only [List.length_append,List.length_cons,List.length_nil]; omega)
 have b0':(Y ++ [O.cells 9 [.str st.out] true])[0]? = some (.cells 37 [.str x.name,a,b,c,d] true):=by rw [List.getElem?_append_left (List.getElem?_eq_some_iff.1 b0).1]; exact b0
 have nb:∀ {Y:Sg} {w:V} {l:List aZ},Y[0]? = some (.cells 37 [.str x.name,a,b,c,d] true) -> bD aK 9 Y w l -> aT w ≠ some 0:=by
  rintro Y w l hb (⟨rfl,-⟩ | ⟨b,rs,ex,rfl,hc,-⟩) e
  ·cases e
  ·cases e; rw [hb] at hc; cases hc
 have b1:τ1[0]? = some (.cells 37 [.str x.name,a,b,c,d] true):=k1 0 _ b0' nw
 have b2:τ2[0]? = some (.cells 37 [.str x.name,a,b,c,d] true):=k2 0 _ b1 (nb b1 o1)
 have va:=cA 10 ip
 have vd:=nU 9 id
 unfold cI
 rw [h.Rx,h.Sj]
 simp only [aA,Tryz.f105,KP,Ax.loadAt,↓reduceIte,Nat.reduceEqDiff,Nat.reduceLT,Nat.reduceLeDiff,Nat.reduceAdd,Nat.reduceMul,reduceCtorEq,h.cN,h.aV,h.fF,h.bI,h.cO,opsOf,cutAt,Fz.lits,Fz.apps,iC,bK,bZ,kD,Ax.comp,Ax.last,iG,Ax.again,g1,g3,g4,iN,ha1,ha2,b0,b0',b1,e1,va,vd]
 refine ⟨_,_,w2,rfl,(fE (by simp +decide only [GS,g1,g4,and_self]) ⟨b2,?_,nb b2 o2⟩)⟩
 have e:l ++ [st.out] ++ st.args = l ++ st.out :: st.args:=by simp
 rw [<- e]
 exact o2
theorem Qh (h:bM E) {x:aG} {a b c d:V} (ia:IS aK a x.ins) (ib:IS aK b x.outs) (ic:IS aK c x.after) (hsm:x.ins.length <= 100000000 /\ x.outs.length <= 100000000 /\ x.after.length <= 100000000) (F:FT) (g1:F.get 1 = .ref 0 0) (g2:F.get 2 = .bool false) {s:List kH} {Q:Ax.X -> Fr -> Sg -> Prop}
  (hk:∀ F' Y w,F'.get 1 = .ref 0 0 -> F'.get 3 = w -> Y[0]? = some (.cells 37 [.str x.name,a,b,c,d] true) -> bD aK 9 Y w (x.name :: (x.ins ++ (x.outs ++ x.after))) -> aT w ≠ some 0 -> M E s .normal ⟨64,F'⟩ Y Q):R E (.region 1 (opsOf (cutAt [1,0] (aA Tryz.f105).code)) true) s ⟨64,F⟩ [.cells 37 [.str x.name,a,b,c,d] true] Q:=by
 obtain ⟨F',Y,w,hE,h1,h2,h3,h4,h5⟩:=Qf h ia ib ic hsm F g1 g2 (d:=d)
 exact Eq.mpr (iZ hE) (hk F' Y w h1 h2 h3 h4 h5)
theorem Qg (h:bM E) {x:aG} {a b c d:V} (id:IS eW d x.steps) {st:AxS.Step} {i:Nat} (hi:x.steps[i]? = some st) {Y:Sg} {w:V} {l:List aZ} (b0:Y[0]? = some (.cells 37 [.str x.name,a,b,c,d] true)) (ow:bD aK 9 Y w l) (nw:aT w ≠ some 0) (hsm:l.length <= 500000000 /\ st.args.length <= 100000000)
  (F:FT) (g1:F.get 1 = .ref 0 0) (g3:F.get 3 = w) (g4:F.get 4 = .int .i64 (i:Int)) {s:List kH} {Q:Ax.X -> Fr -> Sg -> Prop}
  (hk:∀ F' τ' w',F'.get 1 = .ref 0 0 -> F'.get 3 = w' -> F'.get 4 = .int .i64 (i:Int) -> τ'[0]? = some (.cells 37 [.str x.name,a,b,c,d] true) -> bD aK 9 τ' w' (l ++ st.out :: st.args) -> aT w' ≠ some 0 -> M E s .normal ⟨64,F'⟩ τ' Q) :
  R E (.region 7 (opsOf (cutAt [1,1,0,1,2,2,1,0,2,1] (aA Tryz.f105).code)) true) s ⟨64,F⟩ Y Q:=by
 obtain ⟨F',τ',w',hE,h1,h2,h3,h4,h5,h6⟩:=Qe h id hi b0 ow nw hsm F g1 g3 g4
 exact Eq.mpr (iZ hE) (hk F' τ' w' h1 h2 h3 h4 h5 h6)
end
end
section
section
variable {E:Env} {Z:Sg} {K:V -> Sg -> Prop}
def kE (x:aG) (l:List AxS.Step):List aZ:=x.name :: (x.ins ++ (x.outs ++ x.after)) ++ l.flatMap fun s=>s.out :: s.args
theorem Qi (x:aG):jY x = (x.steps.all cB && ((kE x x.steps).all bG && decide (0 < x.outs.length))):=by
 unfold jY kE
 rw [Bool.eq_iff_iff]
 simp only [Bool.and_eq_true,List.all_eq_true,decide_eq_true_eq,List.mem_append,List.mem_cons,List.mem_flatMap,List.length_pos_iff]
 constructor
 ·rintro ⟨⟨⟨⟨⟨h1,h2⟩,h3⟩,h4⟩,h5⟩,h6⟩
  refine ⟨fun s hs=>(h6 s hs).2,fun n hn=>?_,h2⟩
  rcases hn with (rfl | hn | hn | hn) | ⟨s,hs,rfl | hn⟩
  ·exact h1
  ·exact h3 n hn
  ·exact h4 n hn
  ·exact h5 n hn
  ·exact (h6 s hs).1.1
  ·exact (h6 s hs).1.2 n hn
 ·rintro ⟨h1,h2,h3⟩
  exact ⟨⟨⟨⟨⟨h2 _ (.inl (.inl rfl)),h3⟩,fun n hn=>h2 n (.inl (.inr (.inl hn)))⟩,fun n hn=>h2 n (.inl (.inr (.inr (.inl hn))))⟩,fun n hn=>h2 n (.inl (.inr (.inr (.inr hn))))⟩,
   fun s hs=>⟨⟨h2 _ (.inr ⟨s,hs,.inl rfl⟩),fun n hn=>h2 n (.inr ⟨s,hs,.inr hn⟩)⟩,h1 s hs⟩⟩
theorem xD {x:aG} (hx:Small x):∀ l:List AxS.Step,l.length <= 14 -> (∀ s ∈ l,s.args.length <= 8) -> (kE x l).length <= 1000:=by
 intro l h1 h2
 have:∀ l:List AxS.Step,(∀ s ∈ l,s.args.length <= 8) -> (l.flatMap fun s=>s.out :: s.args).length <= 9 * l.length:=by
  intro l
  induction l with
  | nil=>intro _; simp
  | cons s l ih=>
   intro h
   have:=ih fun y hy=>h y (List.mem_cons_of_mem _ hy)
   have:=h s (List.mem_cons_self ..)
   simp only [List.flatMap_cons,List.length_append,List.length_cons]
   omega
 have:=this l h2
 have a1:=hx.ins
 have a2:=hx.outs
 have a3:=hx.after
 unfold kE
 simp only [List.length_append,List.length_cons]
 omega
theorem Tm (h:bM E) {v:V} {x:aG} (hv:Hh v x) (hx:Small x):aB E 105 [v] Z K = K (.bool (jY x)) Z:=by
 refine aB.of ?_
 have ev:=hv.snap (E:=E) Z
 obtain ⟨a,b,c,d,rfl,ia,ib,ic,id⟩:=hv
 have a1:=hx.ins
 have a2:=hx.outs
 have a3:=hx.after
 have a4:=hx.steps
 rw [aH h.W7 h.UC h.XR h.V8 (args':=[.agg [.str x.name,a,b,c,d]]) (by simp only [aW,ev]),a_ (by kernel_rfl)]
 have ha:=aJ ia.bE
 have hb:=aJ ib.bE
 have hc:=aJ ic.bE
 have hd:=aJ id.bE
 have lb:=bL h ib
 have ld:=kW h id
 rw [Qi]
 simp only [aA,Tryz.f105,KP,↓reduceIte,Nat.reduceLT,Nat.reduceAdd,h.bI,ha,hb,hc,hd]
 refine Qh h ia ib ic (by omega) _ ?_ ?_ ?_
 ·exact (by simp +decide only [GS])
 ·exact (by simp +decide only [GS])
 intro F1 τ1 w1 g1 g3 b1 o1 n1
 simp only [KP,↓reduceIte,Nat.reduceLT]
 refine aR (fun i F Y=>Y[0]? = some (.cells 37 [.str x.name,a,b,c,d] true) /\ F.get 1 = .ref 0 0 /\ F.get 4 = .int .i64 (i:Int) /\ (∃ w,F.get 3 = w /\ bD aK 9 Y w (kE x (x.steps.take i)) /\ aT w ≠ some 0) /\ ∀ j y,j < i -> x.steps[j]? = some y -> cB y = true) x.steps.length ?_ ?_ x.steps.length 0 _ _ (by omega) ⟨b1,(kX (by simp +decide only [GS,g1,and_self]) ⟨⟨w1,(by simp +decide only [GS,g3]),by simpa [kE] using o1,n1⟩,fun j y hj=>by omega⟩)⟩
 ·rintro i F Y hi ⟨b0,g1,g4,⟨w,g3,ow,nw⟩,hp⟩ next
  obtain ⟨st,hst⟩:∃ y,x.steps[i]? = some y:=⟨_,List.getElem?_eq_getElem hi⟩
  have hmem:=List.mem_of_getElem? hst
  obtain ⟨g,p,q,e1,ip,iq⟩:=uH h id hst
  have hlt:=dN hi
  have hadd:=bV i (by omega)
  have hlits:=hx.lits st hmem
  have hargs:=hx.args st hmem
  have kf:=fun (Y:Sg)=>K1 (Z:=Y) h (v:=.agg [.str st.out,.int .i64 st.op,p,q,.int .i64 st.n]) (x:=st) ⟨p,q,rfl,ip,iq⟩ (by omega)
  rw [aF]
  by_cases hm:cB st = true
  ·simp only [KP,Ax.loadAt,↓reduceIte,Nat.reduceEqDiff,Nat.reduceLT,Nat.reduceAdd,reduceCtorEq,h.fF,h.bI,h.cO,g1,g4,b0,ld,hlt,e1,kf,hm]
   have hln:=xD hx (x.steps.take i) (by rw [List.length_take]; omega) (fun s hs=>hx.args s (List.mem_of_mem_take hs))
   refine Qg h id hst b0 ow nw (by omega) _ ?_ ?_ ?_ ?_
   ·exact (by simp +decide only [GS,g1])
   ·exact (by simp +decide only [GS,g3])
   ·exact (by simp +decide only [GS,g4])
   intro F2 τ2 w2 k1 k3 k4 b2 o2 n2
   simp only [KP,↓reduceIte,Nat.reduceLT,k4,hadd]
   refine next _ _ ⟨b2,(kX (by simp +decide only [GS,k1,and_self]) ⟨⟨w2,(by simp +decide only [GS,k3]),?_,n2⟩,fun j y hj hy=>?_⟩)⟩
   ·have e:kE x (x.steps.take (i + 1)) = kE x (x.steps.take i) ++ st.out :: st.args:=by
     rw [List.take_add_one,hst]; simp [kE]
    rw [e]; exact o2
   ·rcases Nat.lt_or_ge j i with g | g
    ·exact hp j y g hy
    ·obtain rfl:j = i:=by omega
     rw [hst] at hy; cases hy; exact hm
  ·have hm:cB st = false:=by simpa using hm
   rw [gM hst hm,Bool.false_and]
   simp only [KP,Ax.loadAt,↓reduceIte,Nat.reduceEqDiff,Nat.reduceLT,Nat.reduceAdd,reduceCtorEq,h.fF,h.bI,h.cO,g1,g4,b0,ld,hlt,e1,kf,hm]
   exact rfl
 ·rintro F Y ⟨b0,g1,g4,⟨w,g3,ow,nw⟩,hp⟩
  have hlt:=dQ (Nat.lt_irrefl x.steps.length)
  rw [aF]
  rw [zP fun j y _ hy=>hp j y (List.getElem?_eq_some_iff.1 hy).1 hy,Bool.true_and]
  rw [List.take_of_length_le (Nat.le_refl _)] at ow
  have hln:=xD hx x.steps (by omega) hx.args
  generalize kE x x.steps = L at *
  have lw:∀ σ',(σ' = Y) -> lenOf E σ' 28 w = some L.length:=fun σ' e=>by subst e; exact nD h.aV rfl ow.ls
  have lw:=lw Y rfl
  simp only [KP,Ax.loadAt,↓reduceIte,Nat.reduceEqDiff,Nat.reduceLT,reduceCtorEq,h.fF,h.bI,g1,g4,b0,ld,hlt]
  refine aR (fun i F σ1=>σ1 = Y /\ F.get 1 = .ref 0 0 /\ F.get 3 = w /\ F.get 5 = .int .i64 (i:Int) /\ ∀ j y,j < i -> L[j]? = some y -> bG y = true) L.length ?_ ?_ L.length 0 _ _ (by omega) ⟨rfl,(fE (by simp +decide only [GS,g1,g3,and_self]) (fun j y hj=>by omega))⟩
  ·rintro i F σ1 hi ⟨rfl,g1,g3,g5,hq⟩ next
   obtain ⟨y,hy⟩:∃ y,L[i]? = some y:=⟨_,List.getElem?_eq_getElem hi⟩
   have hlt:=dN hi
   have hadd:=bV i (by omega)
   obtain ⟨p,r,e1,hr,-,e2,-⟩:=Ea (Z:=σ1) h.aV rfl h.cN rfl ow.ls hy
   have e2:=e2 rfl (by decide)
   rw [show r = [.str y] from hr] at e2
   have kf:=fun (Y:Sg)=>NG (Z:=Y) h (s:=y)
   rw [aF]
   by_cases hm:bG y = true
   ·simp only [KP,↓reduceIte,Nat.reduceEqDiff,Nat.reduceLT,g3,g5,lw,hlt,e1,e2,kf,hm,hadd]
    refine next _ _ ⟨rfl,(fE (by simp +decide only [GS,g1,g3,and_self]) (fun j z hj hz=>?_))⟩
    rcases Nat.lt_or_ge j i with g | g
    ·exact hq j z g hz
    ·obtain rfl:j = i:=by omega
     rw [hy] at hz; cases hz; exact hm
   ·have hm:bG y = false:=by simpa using hm
    rw [gM hy hm,Bool.false_and]
    simp only [KP,↓reduceIte,Nat.reduceEqDiff,Nat.reduceLT,g3,g5,lw,hlt,e1,e2,kf,hm]
    exact rfl
  ·rintro F σ1 ⟨rfl,g1,g3,g5,hq⟩
   have hlt:=dQ (Nat.lt_irrefl L.length)
   rw [aF]
   rw [zP fun j y _ hy=>hq j y (List.getElem?_eq_some_iff.1 hy).1 hy,Bool.true_and]
   have q:decide ((0:Int) < (x.outs.length:Int)) = decide (0 < x.outs.length):=by
    by_cases g:0 < x.outs.length
    ·rw [decide_eq_true g,decide_eq_true (by omega)]
    ·rw [decide_eq_false g,decide_eq_false (by omega)]
   simp only [KP,Ax.loadAt,↓reduceIte,Nat.reduceEqDiff,Nat.reduceLT,reduceCtorEq,h.aV,h.bI,g1,g3,g5,lw,hlt,b0,lb,q]
   exact rfl
theorem SK (h:bM E) {v:V} {x:aG} (hv:Hh v x) (hx:Small x):KC E 105 [v] Z (.bool (jY x)) Z:=dO fun _=>Tm h hv hx
end
end
section
section
variable {E:Env} {Z:Sg} {K:V -> Sg -> Prop}
theorem tL {α:Type} {p:α -> Bool} {l:List α}:(bJ p l).isNone = !l.any p:=by
 rw [<- cC (p:=p) (l:=l)]
 cases bJ p l <;> rfl
theorem JQ {l:List aZ} {s:aZ} (h:s ∈ l):(bJ (fun y=>decide (y = s)) l).isSome = true:=by rw [cC,any_eq]; exact decide_eq_true h
theorem JR {l:List aZ} {s:aZ} (h:s ∉ l):(bJ (fun y=>decide (y = s)) l).isSome = false:=by rw [cC,any_eq]; exact decide_eq_false h
theorem NS {l:List aZ} {s:aZ} (h:s ∉ l):(bJ (fun y=>decide (y = s)) l).isNone = true:=by rw [tL,any_eq,decide_eq_false h]; rfl
theorem NT {l:List aZ} {s:aZ} (h:s ∈ l):(bJ (fun y=>decide (y = s)) l).isNone = false:=by rw [tL,any_eq,decide_eq_true h]; rfl
theorem aN {Y:Sg} {x:O}:(Y ++ [x])[Y.length]? = some x:=by simp
theorem cF {Y:Sg} {x y:O}:(Y ++ [x]).set Y.length y = Y ++ [y]:=by simp
theorem aP {Y:Sg} {x y:O} {i:Nat} (h:Y[i]? = some y):(Y ++ [x])[i]? = some y:=by rw [List.getElem?_append_left (List.getElem?_eq_some_iff.1 h).1]; exact h
theorem kM {Y:Sg} {w:V} {l:List aZ} {k u:Nat} {cs:List V} (hb:Y[k]? = some (.cells u cs true)) (hu:u ≠ 9) (ow:bD aK 9 Y w l):aT w ≠ some k:=by
 rcases ow with ⟨rfl,-⟩ | ⟨b,rs,ex,rfl,hc,-⟩
 ·intro e; cases e
 ·intro e; cases e; rw [hb] at hc; cases hc; exact hu rfl
theorem MM (h:bM E) {x:aG} {a b c d w:V} {Y:Sg} {Ks:List aZ} (ia:IS aK a x.ins) (ib:IS aK b x.outs) (hx:Small x) (hK:Ks.length <= 14) (b0:Y[0]? = some (.cells 37 [.str x.name,a,b,c,d] true)) (ow:bD aK 9 Y w Ks) (F:FT) (g1:F.get 1 = .ref 0 0) (g3:F.get 3 = w)
  (hk:K (.int .i64 (if (x.outs.all fun o=>!decide (o ∈ x.ins) && decide (o ∈ Ks)) = true then 0 else 2)) Y):R E (cutAt [1,1,1,1] (aA Tryz.f60).code) [] ⟨139,F⟩ Y (mI E (aA Tryz.f60).results K):=by
 have a1:=hx.ins
 have a2:=hx.outs
 have lb:=bL h ib
 have d23:=h.S5
 simp only [aA,Tryz.f60,cutAt,Option.getD_some] at d23
 simp only [aA,Tryz.f60,KP,↓reduceIte,Nat.reduceLT,cutAt]
 refine aR (fun i F σ1=>σ1 = Y /\ F.get 1 = .ref 0 0 /\ F.get 3 = w /\ F.get 7 = .int .i64 (i:Int) /\ ∀ j y,j < i -> x.outs[j]? = some y -> y ∉ x.ins /\ y ∈ Ks) x.outs.length ?_ ?_ x.outs.length 0 _ _ (by omega) ⟨rfl,(fE (by simp +decide only [GS,g1,g3,and_self]) (fun j y hj=>by omega))⟩
 ·rintro i F σ1 hi ⟨rfl,g1,g3,g7,hp⟩ next
  obtain ⟨y,hy⟩:∃ y,x.outs[i]? = some y:=⟨_,List.getElem?_eq_getElem hi⟩
  obtain ⟨g,e1⟩:=fI h ib hy
  have hlt:=dN hi
  have hadd:=bV i (by omega)
  have k1:=rJ (Z:=σ1) h (a:=a) (l:=x.ins) (s:=y) (ia.ls σ1 9) (by omega)
  have k2:=rJ (Z:=σ1) h (a:=w) (l:=Ks) (s:=y) ow.ls (by omega)
  rw [aF]
  by_cases h1:y ∈ x.ins
  ·have s1:=JQ h1
   rw [if_neg (by rw [gM hy (by rw [decide_eq_true h1]; rfl)]; simp)] at hk
   simp only [KP,Ax.loadAt,↓reduceIte,Nat.reduceEqDiff,Nat.reduceLT,reduceCtorEq,h.cN,h.aV,h.bI,g1,g7,lb,hlt,b0,e1,k1,kO,s1,bA d23,bX]
   exact hk
  have s1:=JR h1
  by_cases h2:y ∈ Ks
  ·have s2:=NT h2
   simp only [KP,Ax.loadAt,↓reduceIte,Nat.reduceEqDiff,Nat.reduceLT,reduceCtorEq,h.cN,h.aV,h.bI,g1,g3,g7,lb,hlt,b0,e1,k1,k2,kO,Ch,s1,s2,hadd,bA d23,bX]
   refine next _ _ ⟨rfl,(fE (by simp +decide only [GS,g1,g3,and_self]) (fun j z hj hz=>?_))⟩
   rcases Nat.lt_or_ge j i with g | g
   ·exact hp j z g hz
   ·obtain rfl:j = i:=by omega
    rw [hy] at hz; cases hz; exact ⟨h1,h2⟩
  ·have s2:=NS h2
   rw [if_neg (by rw [gM hy (by rw [decide_eq_false h2]; simp)]; simp)] at hk
   simp only [KP,Ax.loadAt,↓reduceIte,Nat.reduceEqDiff,Nat.reduceLT,reduceCtorEq,h.cN,h.aV,h.bI,g1,g3,g7,lb,hlt,b0,e1,k1,k2,kO,Ch,s1,s2,bA d23,bX]
   exact hk
 ·rintro F σ1 ⟨rfl,g1,g3,g7,hp⟩
  have hlt:=dQ (Nat.lt_irrefl x.outs.length)
  rw [aF]
  rw [if_pos (zP fun j y _ hy=>by
   obtain ⟨h1,h2⟩:=hp j y (List.getElem?_eq_some_iff.1 hy).1 hy
   rw [decide_eq_false h1,decide_eq_true h2]; rfl)] at hk
  simp only [KP,Ax.loadAt,↓reduceIte,Nat.reduceEqDiff,Nat.reduceLT,reduceCtorEq,h.aV,h.bI,g1,g7,lb,hlt,b0]
  exact hk
def Ma (x:aG) (i:Nat) (s:AxS.Step):Prop:=s.out ∉ x.ins ++ (x.steps.take i).map Step.out /\ ∀ y ∈ s.args,y ∈ x.ins ++ (x.steps.take i).map Step.out
theorem sR:∀ (l:List AxS.Step) (known:List aZ),gT known l = true ↔ ∀ i s,l[i]? = some s -> s.out ∉ known ++ (l.take i).map Step.out /\ ∀ y ∈ s.args,y ∈ known ++ (l.take i).map Step.out
 | [],known=>by simp [gT]
 | s :: l,known=>by
  rw [gT,Bool.and_eq_true,Bool.and_eq_true,sR l]
  simp only [Bool.not_eq_true',decide_eq_false_iff_not,List.all_eq_true,decide_eq_true_eq]
  constructor
  ·rintro ⟨⟨h1,h2⟩,h3⟩ i t ht
   cases i with
   | zero=>cases ht; simpa using ⟨h1,h2⟩
   | succ i=>have:=h3 i t ht; simpa using this
  ·intro h0
   refine ⟨by simpa using h0 0 s rfl,fun i t ht=>?_⟩
   have:=h0 (i + 1) t ht
   simpa using this
theorem HP (h:bM E) {x:aG} {a b c d:V} (ia:IS aK a x.ins) (ib:IS aK b x.outs) (id:IS eW d x.steps) (hx:Small x) (F:FT) (g1:F.get 1 = .ref 0 0)
  (hk:∀ Y,K (.int .i64 (if gT x.ins x.steps = true /\ (x.outs.all fun o=>!decide (o ∈ x.ins) && decide (o ∈ x.steps.map Step.out)) = true then 0 else 2)) Y):R E (cutAt [1,1] (aA Tryz.f60).code) [] ⟨139,F⟩ [.cells 37 [.str x.name,a,b,c,d] true] (mI E (aA Tryz.f60).results K):=by
 have a1:=hx.ins
 have a4:=hx.steps
 have ld:=kW h id
 have fin:=fun Y w b0 ow F g1 g3 hk=>MM (K:=K) h ia ib hx (c:=c) (d:=d) (w:=w) (Y:=Y) (Ks:=x.steps.map Step.out) (by rw [List.length_map]; omega) b0 ow F g1 g3 hk
 have d17:=h.S6
 simp only [aA,Tryz.f60,cutAt,Option.getD_some] at d17
 rw [show cutAt [1,1] (aA Tryz.f60).code = .seq (cutAt [1,1,0] (aA Tryz.f60).code) (.seq (cutAt [1,1,1,0] (aA Tryz.f60).code) (cutAt [1,1,1,1] (aA Tryz.f60).code)) from rfl]
 generalize cutAt [1,1,1,1] (aA Tryz.f60).code = C at *
 simp only [aA,Tryz.f60,KP,↓reduceIte,Nat.reduceLT,cutAt]
 refine aR (fun i F Y=>Y[0]? = some (.cells 37 [.str x.name,a,b,c,d] true) /\ F.get 1 = .ref 0 0 /\ F.get 4 = .int .i64 (i:Int) /\ (∃ w,F.get 3 = w /\ bD aK 9 Y w ((x.steps.take i).map Step.out)) /\ ∀ j s,j < i -> x.steps[j]? = some s -> Ma x j s) x.steps.length ?_ ?_ x.steps.length 0 _ _ (by omega) ⟨rfl,(kX (by simp +decide only [GS,g1,and_self]) ⟨⟨.aC,(by simp +decide only [GS]),.inl ⟨rfl,rfl⟩⟩,fun j y hj=>by omega⟩)⟩
 ·rintro i F Y hi ⟨b0,g1,g4,⟨w,g3,ow⟩,hp⟩ next
  obtain ⟨st,hst⟩:∃ y,x.steps[i]? = some y:=⟨_,List.getElem?_eq_getElem hi⟩
  have hmem:=List.mem_of_getElem? hst
  have a5:=hx.args st hmem
  obtain ⟨g,p,q,e1,ip,iq⟩:=uH h id hst
  have hop:=aJ ip.bE
  have hoq:=aJ iq.bE
  have hlt:=dN hi
  have hadd:=bV i (by omega)
  have lp:=bL h ip
  have hKl:((x.steps.take i).map Step.out).length <= 14:=by rw [List.length_map,List.length_take]; omega
  have bx:(Y ++ [O.cells 75 [.str st.out,.int .i64 st.op,p,q,.int .i64 st.n] true])[Y.length]? = some (.cells 75 [.str st.out,.int .i64 st.op,p,q,.int .i64 st.n] true):=aN
  have b1:=aP (x:=O.cells 75 [.str st.out,.int .i64 st.op,p,q,.int .i64 st.n] true) b0
  have o1:=ow.app [O.cells 75 [.str st.out,.int .i64 st.op,p,q,.int .i64 st.n] true]
  have hbad:∀ Y,¬ Ma x i st -> K (.int .i64 2) Y:=fun Y hn=>by
   have:=hk Y
   rwa [if_neg (fun e=>hn ((sR _ _).1 e.1 i st hst))] at this
  have k1:=rJ (Z:=Y ++ [O.cells 75 [.str st.out,.int .i64 st.op,p,q,.int .i64 st.n] true]) h (a:=a) (l:=x.ins) (s:=st.out) (ia.ls _ 9) (by omega)
  have k2:=rJ (Z:=Y ++ [O.cells 75 [.str st.out,.int .i64 st.op,p,q,.int .i64 st.n] true]) h (a:=w) (l:=(x.steps.take i).map Step.out) (s:=st.out) o1.ls (by omega)
  rw [aF]
  by_cases h1:st.out ∈ x.ins
  ·have s1:=JQ h1
   simp only [KP,Ax.loadAt,Ax.storeAt,↓reduceIte,Nat.reduceEqDiff,Nat.reduceLT,Nat.reduceAdd,reduceCtorEq,h.cN,h.aV,h.fF,h.bI,h.cO,g1,g4,ld,hlt,b0,e1,hop,hoq,aN,cF,b1,bx,k1,kO,s1]
   exact hbad _ fun e=>e.1 (List.mem_append_left _ h1)
  have s1:=JR h1
  by_cases h2:st.out ∈ (x.steps.take i).map Step.out
  ·have s2:=JQ h2
   simp only [KP,Ax.loadAt,Ax.storeAt,↓reduceIte,Nat.reduceEqDiff,Nat.reduceLT,Nat.reduceAdd,reduceCtorEq,h.cN,h.aV,h.fF,h.bI,h.cO,g1,g3,g4,ld,hlt,b0,e1,hop,hoq,aN,cF,b1,bx,k1,k2,kO,s1,s2]
   exact hbad _ fun e=>e.1 (List.mem_append_right _ h2)
  have s2:=JR h2
  simp only [KP,Ax.loadAt,Ax.storeAt,↓reduceIte,Nat.reduceEqDiff,Nat.reduceLT,Nat.reduceAdd,reduceCtorEq,h.cN,h.aV,h.fF,h.bI,h.cO,g1,g3,g4,ld,hlt,b0,e1,hop,hoq,aN,cF,b1,bx,k1,k2,kO,s1,s2]
  generalize hτ:Y ++ [O.cells 75 [.str st.out,.int .i64 st.op,p,q,.int .i64 st.n] true] = τ1 at *
  generalize Y.length = nx at *
  refine aR (fun k F σ1=>σ1 = τ1 /\ F.get 1 = .ref 0 0 /\ F.get 3 = w /\ F.get 4 = .int .i64 (i:Int) /\ F.get 5 = .ref nx 0 /\ F.get 6 = .int .i64 (k:Int) /\ ∀ j y,j < k -> st.args[j]? = some y -> y ∈ x.ins ++ (x.steps.take i).map Step.out) st.args.length ?_ ?_ st.args.length 0 _ _ (by omega) ⟨rfl,(lY (by simp +decide only [GS,g1,g3,g4,and_self]) (fun j y hj=>by omega))⟩
  ·rintro k F σ1 hk2 ⟨rfl,g1,g3,g4,g5,g6,hq⟩ next2
   obtain ⟨y,hy⟩:∃ y,st.args[k]? = some y:=⟨_,List.getElem?_eq_getElem hk2⟩
   obtain ⟨g,e2⟩:=fI h ip hy
   have hlt2:=dN hk2
   have hadd2:=bV k (by omega)
   have k3:=rJ (Z:=σ1) h (a:=a) (l:=x.ins) (s:=y) (ia.ls _ 9) (by omega)
   have k4:=rJ (Z:=σ1) h (a:=w) (l:=(x.steps.take i).map Step.out) (s:=y) o1.ls (by omega)
   rw [aF]
   by_cases h3:y ∈ x.ins
   ·have s3:=NT h3
    simp only [KP,Ax.loadAt,↓reduceIte,Nat.reduceEqDiff,Nat.reduceLT,reduceCtorEq,h.cN,h.aV,h.bI,h.cO,g1,g5,g6,lp,hlt2,b1,bx,e2,k3,Ch,s3,hadd2,bA d17,bX]
    refine next2 _ _ ⟨rfl,(lY (by simp +decide only [GS,g1,g3,g4,g5,and_self]) (fun j z hj hz=>?_))⟩
    rcases Nat.lt_or_ge j k with g | g
    ·exact hq j z g hz
    ·obtain rfl:j = k:=by omega
     rw [hy] at hz; cases hz; exact List.mem_append_left _ h3
   have s3:=NS h3
   by_cases h4:y ∈ (x.steps.take i).map Step.out
   ·have s4:=NT h4
    simp only [KP,Ax.loadAt,↓reduceIte,Nat.reduceEqDiff,Nat.reduceLT,reduceCtorEq,h.cN,h.aV,h.bI,h.cO,g1,g3,g5,g6,lp,hlt2,b1,bx,e2,k3,k4,Ch,s3,s4,hadd2,bA d17,bX]
    refine next2 _ _ ⟨rfl,(lY (by simp +decide only [GS,g1,g3,g4,g5,and_self]) (fun j z hj hz=>?_))⟩
    rcases Nat.lt_or_ge j k with g | g
    ·exact hq j z g hz
    ·obtain rfl:j = k:=by omega
     rw [hy] at hz; cases hz; exact List.mem_append_right _ h4
   ·have s4:=NS h4
    simp only [KP,Ax.loadAt,↓reduceIte,Nat.reduceEqDiff,Nat.reduceLT,reduceCtorEq,h.cN,h.aV,h.bI,h.cO,g1,g3,g5,g6,lp,hlt2,b1,bx,e2,k3,k4,Ch,s3,s4,bA d17,bX]
    exact hbad _ fun e=>(List.mem_append.1 (e.2 y (List.mem_of_getElem? hy))).elim h3 h4
  ·rintro F σ1 ⟨rfl,g1,g3,g4,g5,g6,hq⟩
   have hlt2:=dQ (Nat.lt_irrefl st.args.length)
   obtain ⟨w2,τ2,ha2,o2,k2',n2⟩:=xX (s:=st.out) (ex:=true) h o1 (by omega)
   rw [aF]
   simp only [KP,Ax.loadAt,↓reduceIte,Nat.reduceEqDiff,Nat.reduceLT,Nat.reduceLeDiff,Nat.reduceMul,reduceCtorEq,h.cN,h.aV,h.cO,g3,g4,g5,g6,lp,hlt2,bx,iN,ha2,hadd]
   have b2:τ2[0]? = some (.cells 37 [.str x.name,a,b,c,d] true):=k2' 0 _ (aP b1) (kM b1 (by decide) o1)
   refine next _ _ ⟨b2,(kX (by simp +decide only [GS,g1,and_self]) ⟨⟨w2,(by simp +decide only [GS]),?_⟩,fun j s hj hs=>?_⟩)⟩
   ·have e:(x.steps.take (i + 1)).map Step.out = (x.steps.take i).map Step.out ++ [st.out]:=by rw [List.take_add_one,hst]; simp
    rw [e]; exact o2
   ·rcases Nat.lt_or_ge j i with g | g
    ·exact hp j s g hs
    ·obtain rfl:j = i:=by omega
     rw [hst] at hs; cases hs
     exact ⟨fun e=>(List.mem_append.1 e).elim h1 h2,fun y hy=>by
      obtain ⟨n,hn,e⟩:=List.getElem_of_mem hy
      exact hq n y hn (by rw [List.getElem?_eq_getElem hn,e])⟩
 ·rintro F Y ⟨b0,g1,g4,⟨w,g3,ow⟩,hp⟩
  have hlt:=dQ (Nat.lt_irrefl x.steps.length)
  rw [List.take_of_length_le (Nat.le_refl _)] at ow
  have hst:gT x.ins x.steps = true:=(sR _ _).2 fun i s hs=>hp i s (List.getElem?_eq_some_iff.1 hs).1 hs
  have hk:=hk Y
  rw [hst] at hk
  simp only [true_and] at hk
  rw [aF]
  simp only [KP,Ax.loadAt,↓reduceIte,Nat.reduceEqDiff,Nat.reduceLT,reduceCtorEq,h.fF,h.bI,g1,g4,ld,hlt,b0]
  exact fin Y w b0 ow _ (by simp +decide only [GS,g1]) (by simp +decide only [GS,g3]) hk
end
end
section
section
variable {E:Env} {Z:Sg} {K:V -> Sg -> Prop}
theorem Nb (x:aG):fB x = (!j_ x.ins && (!j_ x.outs && (!j_ x.after && (!decide (x.name ∈ x.after) && (gT x.ins x.steps && x.outs.all fun o=>!decide (o ∈ x.ins) && decide (o ∈ x.steps.map Step.out)))))):=by
 unfold fB
 rw [Bool.eq_iff_iff]
 simp only [Bool.and_eq_true,List.all_eq_true,decide_eq_true_eq,Bool.not_eq_true',decide_eq_false_iff_not,List.mem_append]
 constructor
 ·rintro ⟨⟨⟨⟨⟨⟨h1,h2⟩,h3⟩,h4⟩,h5⟩,h6⟩,h7⟩
  exact ⟨h1,h2,h3,h4,h6,fun o ho=>⟨h5 o ho,(h7 o ho).resolve_left (h5 o ho)⟩⟩
 ·rintro ⟨h1,h2,h3,h4,h6,h7⟩
  exact ⟨⟨⟨⟨⟨⟨h1,h2⟩,h3⟩,h4⟩,fun o ho=>(h7 o ho).1⟩,h6⟩,fun o ho=>.inr (h7 o ho).2⟩
theorem Lz (h:bM E) {v:V} {x:aG} (hv:Hh v x) (hx:Small x):aB E 60 [v] Z K = K (.int .i64 (bB x)) Z:=by
 refine aB.of ?_
 have ev:=hv.snap (E:=E) Z
 obtain ⟨a,b,c,d,rfl,ia,ib,ic,id⟩:=hv
 have a1:=hx.ins
 have a2:=hx.outs
 have a3:=hx.after
 have a4:=hx.steps
 rw [aH h.hs60 h.sp60 h.fn60 h.md60 (args':=[.agg [.str x.name,a,b,c,d]]) (by simp only [aW,ev]),a_ (by kernel_rfl)]
 have ha:=aJ ia.bE
 have hb:=aJ ib.bE
 have hc:=aJ ic.bE
 have hd:=aJ id.bE
 have la:=bL h ia
 have lb:=bL h ib
 have lc:=bL h ic
 have ld:=kW h id
 have kf:=fun (Y:Sg)=>SK (Z:=Y) h (v:=.agg [.str x.name,a,b,c,d]) (x:=x) ⟨a,b,c,d,rfl,ia,ib,ic,id⟩ hx
 have key:=fun F g1 hk=>HP (K:=fun v σ1=>match cW σ1 E.ty false v with
    | some v=>v = .int .i64 (bB x)
    | none=>False) h ia ib id hx (c:=c) F g1 hk
 rw [show (aA Tryz.f60).code = .seq (cutAt [0] (aA Tryz.f60).code) (.seq (cutAt [1,0] (aA Tryz.f60).code) (cutAt [1,1] (aA Tryz.f60).code)) from rfl]
 generalize cutAt [1,1] (aA Tryz.f60).code = C at *
 by_cases f:jY x = true
 case neg=>
  have f:jY x = false:=by simpa using f
  rw [show bB x = 1 from if_pos f]
  simp only [aA,Tryz.f60,KP,Ax.loadAt,↓reduceIte,Nat.reduceEqDiff,Nat.reduceLT,Nat.reduceAdd,h.bI,cutAt,ha,hb,hc,hd,kf,f]
  exact rfl
 have r1:bB x = if long x = true then 4 else if fB x = false then 2 else 0:=if_neg (by simp [f])
 have q1:decide ((8:Int) < (x.ins.length:Int)) = decide (8 < x.ins.length):=by rw [Bool.eq_iff_iff]; simp only [decide_eq_true_eq]; omega
 have q2:decide ((4:Int) < (x.outs.length:Int)) = decide (4 < x.outs.length):=by rw [Bool.eq_iff_iff]; simp only [decide_eq_true_eq]; omega
 have q3:decide ((8:Int) < (x.after.length:Int)) = decide (8 < x.after.length):=by rw [Bool.eq_iff_iff]; simp only [decide_eq_true_eq]; omega
 have q4:decide ((12:Int) < (x.steps.length:Int)) = decide (12 < x.steps.length):=by rw [Bool.eq_iff_iff]; simp only [decide_eq_true_eq]; omega
 by_cases hl:long x = true
 ·rw [r1,if_pos hl]
  unfold long at hl
  cases l1:decide (8 < x.ins.length) with
  | true=>
   simp only [aA,Tryz.f60,KP,Ax.loadAt,↓reduceIte,Nat.reduceEqDiff,Nat.reduceLT,Nat.reduceAdd,reduceCtorEq,h.aV,h.bI,cutAt,ha,hb,hc,hd,kf,f,la,q1,l1]
   exact rfl
  | false=>
   cases l2:decide (4 < x.outs.length) with
   | true=>
    simp only [aA,Tryz.f60,KP,Ax.loadAt,↓reduceIte,Nat.reduceEqDiff,Nat.reduceLT,Nat.reduceAdd,reduceCtorEq,h.aV,h.bI,cutAt,ha,hb,hc,hd,kf,f,la,lb,q1,q2,l1,l2]
    exact rfl
   | false=>
    cases l3:decide (8 < x.after.length) with
    | true=>
     simp only [aA,Tryz.f60,KP,Ax.loadAt,↓reduceIte,Nat.reduceEqDiff,Nat.reduceLT,Nat.reduceAdd,reduceCtorEq,h.aV,h.bI,cutAt,ha,hb,hc,hd,kf,f,la,lb,lc,q1,q2,q3,l1,l2,l3]
     exact rfl
    | false=>
     have l4:decide (12 < x.steps.length) = true:=by rw [l1,l2,l3] at hl; simpa using hl
     simp only [aA,Tryz.f60,KP,Ax.loadAt,↓reduceIte,Nat.reduceEqDiff,Nat.reduceLT,Nat.reduceAdd,reduceCtorEq,h.aV,h.fF,h.bI,cutAt,ha,hb,hc,hd,kf,f,la,lb,lc,ld,q1,q2,q3,q4,l1,l2,l3,l4]
     exact rfl
 rw [if_neg hl,Nb] at r1
 have hl:long x = false:=by simpa using hl
 unfold long at hl
 simp only [Bool.or_eq_false_iff] at hl
 obtain ⟨⟨⟨l1,l2⟩,l3⟩,l4⟩:=hl
 have t1:=fun (Y:Sg)=>EV (Z:=Y) h (a:=a) (l:=x.ins) (ia.ls Y 9) (by omega)
 have t2:=fun (Y:Sg)=>EV (Z:=Y) h (a:=b) (l:=x.outs) (ib.ls Y 9) (by omega)
 have t3:=fun (Y:Sg)=>EV (Z:=Y) h (a:=c) (l:=x.after) (ic.ls Y 9) (by omega)
 have t4:=fun (Y:Sg)=>rJ (Z:=Y) h (a:=c) (l:=x.after) (s:=x.name) (ic.ls Y 9) (by omega)
 cases w1:j_ x.ins with
 | true=>
  rw [show bB x = 2 from by rw [r1,w1]; rfl]
  simp only [aA,Tryz.f60,KP,Ax.loadAt,↓reduceIte,Nat.reduceEqDiff,Nat.reduceLT,Nat.reduceAdd,reduceCtorEq,h.aV,h.fF,h.bI,cutAt,ha,hb,hc,hd,kf,f,la,lb,lc,ld,q1,q2,q3,q4,l1,l2,l3,l4,t1,w1]
  exact rfl
 | false=>
 cases w2:j_ x.outs with
 | true=>
  rw [show bB x = 2 from by rw [r1,w1,w2]; rfl]
  simp only [aA,Tryz.f60,KP,Ax.loadAt,↓reduceIte,Nat.reduceEqDiff,Nat.reduceLT,Nat.reduceAdd,reduceCtorEq,h.aV,h.fF,h.bI,cutAt,ha,hb,hc,hd,kf,f,la,lb,lc,ld,q1,q2,q3,q4,l1,l2,l3,l4,t1,w1,t2,w2]
  exact rfl
 | false=>
 cases w3:j_ x.after with
 | true=>
  rw [show bB x = 2 from by rw [r1,w1,w2,w3]; rfl]
  simp only [aA,Tryz.f60,KP,Ax.loadAt,↓reduceIte,Nat.reduceEqDiff,Nat.reduceLT,Nat.reduceAdd,reduceCtorEq,h.aV,h.fF,h.bI,cutAt,ha,hb,hc,hd,kf,f,la,lb,lc,ld,q1,q2,q3,q4,l1,l2,l3,l4,t1,w1,t2,w2,t3,w3]
  exact rfl
 | false=>
 by_cases w4:x.name ∈ x.after
 ·have s4:=JQ w4
  rw [show bB x = 2 from by rw [r1,w1,w2,w3,decide_eq_true w4]; rfl]
  simp only [aA,Tryz.f60,KP,Ax.loadAt,↓reduceIte,Nat.reduceEqDiff,Nat.reduceLT,Nat.reduceAdd,reduceCtorEq,h.cN,h.aV,h.fF,h.bI,cutAt,ha,hb,hc,hd,kf,f,la,lb,lc,ld,q1,q2,q3,q4,l1,l2,l3,l4,t1,w1,t2,w2,t3,w3,t4,kO,s4]
  exact rfl
 ·have s4:=JR w4
  rw [w1,w2,w3,decide_eq_false w4] at r1
  simp only [aA,Tryz.f60,KP,Ax.loadAt,↓reduceIte,Nat.reduceEqDiff,Nat.reduceLT,Nat.reduceAdd,reduceCtorEq,h.cN,h.aV,h.fF,h.bI,cutAt,ha,hb,hc,hd,kf,f,la,lb,lc,ld,q1,q2,q3,q4,l1,l2,l3,l4,t1,w1,t2,w2,t3,w3,t4,kO,s4]
  refine key _ (by simp +decide only [GS]) fun Y=>?_
  show V.int .i64 _ = V.int .i64 (bB x)
  rw [r1]
  refine congrArg _ ?_
  by_cases e:gT x.ins x.steps = true /\ (x.outs.all fun o=>!decide (o ∈ x.ins) && decide (o ∈ x.steps.map Step.out)) = true
  ·rw [if_pos e,e.1,e.2]; rfl
  ·rw [if_neg e,if_pos]
   simp only [Bool.not_false,Bool.true_and]
   cases u1:gT x.ins x.steps with
   | false=>rfl
   | true=>
    cases u2:(x.outs.all fun o=>!decide (o ∈ x.ins) && decide (o ∈ x.steps.map Step.out)) with
    | false=>rfl
    | true=>exact absurd ⟨u1,u2⟩ e
theorem KW (h:bM E) {v:V} {x:aG} (hv:Hh v x) (hx:Small x):KC E 60 [v] Z (.int .i64 (bB x)) Z:=dO fun _=>Lz h hv hx
end
end
section
section
variable {E:Env} {Z:Sg} {K:V -> Sg -> Prop}
def kY (n:Nat) (g:Nat -> Bool):List V:=(List.range n).map fun k=>V.bool (g k)
def rD (n i:Nat):List V:=(List.range i).map (fun j=>V.sl (j + 1) 0 n none) ++ List.replicate (n - i) .aC
def oV (ex:Bool) (n i:Nat) (c:Nat -> Nat -> Bool):Sg:=.cells 38 (rD n i) true :: (List.range i).map fun j=>O.cells 4 (kY n (c j)) ex
def H_ (n:Nat) (c:Nat -> Nat -> Bool):List (List Bool):=(List.range n).map fun i=>(List.range n).map (c i)
def GH (c:Nat -> Nat -> Bool) (i k:Nat) (b:Bool):Nat -> Nat -> Bool:=fun x y=>if x = i /\ y = k then b else c x y
theorem lE {n:Nat} {g:Nat -> Bool}:(kY n g).length = n:=by simp [kY]
theorem oD {n i:Nat} (h:i <= n):(rD n i).length = n:=by simp [rD]; omega
theorem s_ {n i j:Nat} (h:j < i):(rD n i)[j]? = some (.sl (j + 1) 0 n none):=by
 unfold rD
 rw [List.getElem?_append_left (by simpa using h)]
 simp [h]
theorem wR {n k:Nat} {g:Nat -> Bool} (h:k < n):(kY n g)[k]? = some (.bool (g k)):=by simp [kY,h]
theorem Cj {ex:Bool} {n i:Nat} {c:Nat -> Nat -> Bool}:(oV ex n i c).length = i + 1:=by simp [oV]
theorem W8 {ex:Bool} {n i:Nat} {c:Nat -> Nat -> Bool}:(oV ex n i c)[0]? = some (.cells 38 (rD n i) true):=rfl
theorem Ci {ex:Bool} {n i j:Nat} {c:Nat -> Nat -> Bool} (h:j < i):(oV ex n i c)[j + 1]? = some (.cells 4 (kY n (c j)) ex):=by
 simp [oV,h]
theorem EX (h:bM E) {n j:Nat} (hj:j < n):indexAddr E 32 (.sl 0 0 n none) (.int .i64 (j:Int)) = some (.ref 0 j):=by
 have hneg:¬ ((j:Int) < 0):=by omega
 unfold indexAddr
 simp only [hneg,if_false,h.L5,h.vG,Int.toNat_natCast,hj,if_true,Nat.zero_add,Nat.mul_one]
theorem Cc (h:bM E) {n j k:Nat} (hk:k < n):indexAddr E 38 (.sl (j + 1) 0 n none) (.int .i64 (k:Int)) = some (.ref (j + 1) k):=by
 have hneg:¬ ((k:Int) < 0):=by omega
 unfold indexAddr
 simp only [hneg,if_false,h.vG,h.AU,Int.toNat_natCast,hk,if_true,Nat.zero_add,Nat.mul_one]
theorem ER (h:bM E) {ex:Bool} {n i j:Nat} {c:Nat -> Nat -> Bool} (hj:j < i):loadAt E (oV ex n i c) 38 (.ref 0 j) = some (.sl (j + 1) 0 n none):=by
 unfold loadAt
 simp only [h.vG,W8,Ax.isAgg,Bool.false_eq_true,if_false,s_ hj]
theorem Ic (h:bM E) {ex:Bool} {n i j k:Nat} {c:Nat -> Nat -> Bool} (hj:j < i) (hk:k < n):loadAt E (oV ex n i c) 4 (.ref (j + 1) k) = some (.bool (c j k)):=by
 unfold loadAt
 simp only [h.AU,Ci hj,Ax.isAgg,Bool.false_eq_true,if_false,wR hk]
theorem MP {n k:Nat} {g:Nat -> Bool} {b:Bool} (hk:k < n):setCells (kY n g) k [.bool b] = kY n (fun y=>if y = k then b else g y):=by
 have e:setCells (kY n g) k [.bool b] = (kY n g).set k (.bool b):=by
  unfold setCells
  rw [List.set_eq_take_append_cons_drop,if_pos (by rw [lE]; exact hk)]
  simp
 rw [e]
 apply List.ext_getElem?
 intro i
 by_cases hi:i < n
 ·by_cases hik:k = i
  ·subst hik
   rw [List.getElem?_set_self (by rw [lE]; exact hk),wR hk,if_pos rfl]
  ·rw [List.getElem?_set_ne hik,wR hi,wR hi,if_neg (fun e=>hik e.symm)]
 ·rw [List.getElem?_eq_none (by rw [List.length_set,lE]; omega),List.getElem?_eq_none (by rw [lE]; omega)]
theorem HG (h:bM E) {ex:Bool} {n i j k:Nat} {c:Nat -> Nat -> Bool} {b:Bool} (hj:j < i) (hk:k < n):storeAt E (oV ex n i c) 4 (.ref (j + 1) k) (.bool b) = some (oV ex n i (GH c j k b)):=by
 unfold storeAt
 simp only [h.AU,Ci hj]
 rw [if_pos (by simp only [V.cells,V.aX,List.length_cons,List.length_nil,List.all_cons,List.all_nil,lE,Bool.and_true,Bool.and_eq_true,decide_eq_true_eq]; exact ⟨rfl,by omega⟩)]
 refine congrArg some ?_
 rw [show V.cells (.bool b) = [.bool b] from rfl,MP hk]
 apply List.ext_getElem?
 intro q
 cases q with
 | zero=>rw [List.getElem?_set_ne (by omega)]; rfl
 | succ q=>
  by_cases hq:q < i
  ·rw [Ci hq]
   by_cases hjq:j = q
   ·subst hjq
    rw [List.getElem?_set_self (by rw [Cj]; omega)]
    congr 2
    unfold kY
    refine List.map_congr_left fun y _=>?_
    simp [GH]
   ·rw [List.getElem?_set_ne (by omega),Ci hq]
    congr 2
    unfold kY
    refine List.map_congr_left fun y _=>?_
    have:¬ (q = j /\ y = k):=fun e=>hjq e.1.symm
    simp [GH,this]
  ·rw [List.getElem?_eq_none (by rw [List.length_set,Cj]; omega),List.getElem?_eq_none (by rw [Cj]; omega)]
theorem Mc (h:bM E) {ex:Bool} {n i:Nat} {c:Nat -> Nat -> Bool} (hi:i < n):storeAt E (oV ex n i c ++ [.cells 4 (kY n (c i)) ex]) 38 (.ref 0 i) (.sl (i + 1) 0 n none) = some (oV ex n (i + 1) c):=by
 unfold storeAt
 have h0:(oV ex n i c ++ [O.cells 4 (kY n (c i)) ex])[0]? = some (.cells 38 (rD n i) true):=rfl
 simp only [h.vG,h0]
 rw [if_pos (by simp only [V.cells,V.aX,List.length_cons,List.length_nil,List.all_cons,List.all_nil,oD (Nat.le_of_lt hi),Bool.and_true,Bool.and_eq_true,decide_eq_true_eq]; exact ⟨rfl,by omega⟩)]
 refine congrArg some ?_
 have e:setCells (rD n i) i [.sl (i + 1) 0 n none] = rD n (i + 1):=by
  unfold setCells
  apply List.ext_getElem?
  intro q
  have hl:((rD n i).take i).length = i:=by rw [List.length_take,oD (Nat.le_of_lt hi)]; omega
  rcases Nat.lt_trichotomy q i with hq | rfl | hq
  ·rw [List.append_assoc,List.getElem?_append_left (by omega),List.getElem?_take,if_pos hq,s_ hq,s_ (by omega)]
  ·rw [List.append_assoc,List.getElem?_append_right (by omega),hl,Nat.sub_self,s_ (by omega)]; rfl
  ·have e1:(rD n (i + 1))[q]? = if q < n then some .aC else none:=by
    unfold rD
    rw [List.getElem?_append_right (by simp; omega),List.length_map,List.length_range,List.getElem?_replicate]
    by_cases g:q < n
    ·rw [if_pos (by omega),if_pos g]
    ·rw [if_neg (by omega),if_neg g]
   rw [e1,List.append_assoc,List.getElem?_append_right (by omega),hl,List.getElem?_append_right (by simp; omega),List.length_singleton,List.getElem?_drop]
   unfold rD
   rw [List.getElem?_append_right (by simp; omega),List.length_map,List.length_range,List.getElem?_replicate]
   by_cases g:q < n
   ·rw [if_pos (by omega),if_pos g]
   ·rw [if_neg (by omega),if_neg g]
 rw [show V.cells (.sl (i + 1) 0 n none) = [.sl (i + 1) 0 n none] from rfl,e]
 unfold oV
 rw [List.cons_append,List.set_cons_zero,List.range_succ,List.map_append]
 rfl
theorem Jw {n:Nat} {c:Nat -> Nat -> Bool} {i:Nat} (hi:i < n):(H_ n c)[i]? = some ((List.range n).map (c i)):=by simp [H_,hi]
theorem PD {n:Nat} {c:Nat -> Nat -> Bool}:(H_ n c).length = n:=by simp [H_]
theorem Ps {n:Nat} {g:Nat -> Bool} {k:Nat} (hk:k < n):((List.range n).map g)[k]? = some (g k):=by simp [hk]
theorem MO:∀ l:List V,Ax.rows 1 l.length l = l.map fun v=>[v]
 | []=>rfl
 | x :: l=>by
  show ((x :: l).take 1) :: Ax.rows 1 l.length ((x :: l).drop 1) = _
  rw [show (x :: l).drop 1 = l from rfl,MO l]; rfl
theorem Jy {α β:Type} {f:α -> Option β}:∀ {l:List α} {m:List β},l.length = m.length -> (∀ (i:Nat) (a:α) (b:β),l[i]? = some a -> m[i]? = some b -> f a = some b) -> aW f l = some m
 | [],[],_,_=>rfl
 | a :: l,b :: m,hl,h=>by
  rw [aW,h 0 a b rfl rfl,Jy (l:=l) (m:=m) (by simpa using hl) fun i x y hx hy=>h (i + 1) x y hx hy]
 | [],_ :: _,hl,_=>by simp at hl
 | _ :: _,[],hl,_=>by simp at hl
theorem FE (h:bM E) {ex:Bool} {n:Nat} {c:Nat -> Nat -> Bool}:∃ v,cW (oV ex n n c) E.ty false (.sl 0 0 n none) = some v /\ jZ uQ v (H_ n c):=by
 let rv:Nat -> V:=fun i=>.bQ false ((kY n (c i)).map fun v=>[v]) (ex && decide (0 < 1) && (0 + n * 1 == n))
 have hrow:∀ i,i < n -> ∀ m,bR (oV ex n n c) E.ty false (m + 2) (.sl (i + 1) 0 n none) = some (rv i):=fun i hi m=>by
  have hm:aW (fun v=>match bR (oV ex n n c) E.ty false (m + 1) v with
    | some v=>if cP false v then some v else no "snap: borrowed"
    | none=>none) (kY n (c i)) = some (kY n (c i)):=by
   refine iS fun x hx=>?_
   obtain ⟨k,_,rfl⟩:=List.mem_map.1 hx
   rfl
  rw [bR]
  simp only [Ci hi,h.AU]
  rw [if_pos (by rw [lE]; omega),List.drop_zero,List.take_of_length_le (by rw [lE]; omega)]
  refine (congrArg (fun o=>match o with
   | some l=>some (V.bQ false (Ax.rows 1 n l) (ex && decide (0 < 1) && (0 + n * 1 == (kY n (c i)).length)))
   | none=>none) hm).trans ?_
  show some (V.bQ false (Ax.rows 1 n (kY n (c i))) (ex && decide (0 < 1) && (0 + n * 1 == (kY n (c i)).length))) = _
  have:Ax.rows 1 n (kY n (c i)) = (kY n (c i)).map fun v=>[v]:=by
   have:=MO (kY n (c i)); rwa [lE] at this
  rw [this,lE]
 have hout:bR (oV ex n n c) E.ty false 12 (.sl 0 0 n none) = some (.bQ false (((List.range n).map rv).map fun v=>[v]) (true && decide (0 < 1) && (0 + n * 1 == n))):=by
  have hm:aW (fun v=>match bR (oV ex n n c) E.ty false 11 v with
    | some v=>if cP false v then some v else no "snap: borrowed"
    | none=>none) (rD n n) = some ((List.range n).map rv):=by
   refine Jy (by rw [oD (Nat.le_refl n)]; simp) fun i a b ha hb=>?_
   have hi:i < n:=by
    have:=(List.getElem?_eq_some_iff.1 ha).1
    rwa [oD (Nat.le_refl n)] at this
   rw [s_ hi] at ha
   cases ha
   have hb:some (rv i) = some b:=by rw [<- hb]; simp [hi]
   cases hb
   rw [hrow i hi 9]
   rfl
  rw [bR]
  simp only [W8,h.vG]
  rw [if_pos (by rw [oD (Nat.le_refl n)]; omega),List.drop_zero,List.take_of_length_le (by rw [oD (Nat.le_refl n)]; omega)]
  refine (congrArg (fun o=>match o with
   | some l=>some (V.bQ false (Ax.rows 1 n l) (true && decide (0 < 1) && (0 + n * 1 == (rD n n).length)))
   | none=>none) hm).trans ?_
  show some (V.bQ false (Ax.rows 1 n ((List.range n).map rv)) (true && decide (0 < 1) && (0 + n * 1 == (rD n n).length))) = _
  have:Ax.rows 1 n ((List.range n).map rv) = ((List.range n).map rv).map fun v=>[v]:=by
   have:=MO ((List.range n).map rv); rwa [show ((List.range n).map rv).length = n by simp] at this
  rw [this,oD (Nat.le_refl n)]
 refine ⟨.bQ false (((List.range n).map rv).map fun v=>[v]) (true && decide (0 < 1) && (0 + n * 1 == n)),?_,.inr ⟨((List.range n).map rv).map fun v=>[v],true && decide (0 < 1) && (0 + n * 1 == n),rfl,?_⟩⟩
 ·show (match bR (oV ex n n c) E.ty false 12 (.sl 0 0 n none) with
   | some v=>if cP false v then some v else no "snap: borrowed"
   | none=>none) = _
  rw [hout]
  rfl
 ·unfold H_
  rw [List.map_map]
  refine eT.map (P:=uQ.P) (f:=(fun v=>[v]) ∘ rv) (g:=fun i=>(List.range n).map (c i)) (fun i=>⟨rv i,rfl,.inr ⟨false,(kY n (c i)).map fun v=>[v],ex && decide (0 < 1) && (0 + n * 1 == n),rfl,?_⟩⟩) _
  unfold kY
  rw [List.map_map]
  exact eT.map (P:=CL.P) (f:=(fun v=>[v]) ∘ fun k=>V.bool (c i k)) (g:=c i) (fun k=>rfl) _
end
end
section
section
variable {E:Env} {Z:Sg} {K:V -> Sg -> Prop}
def zC (c:Nat -> Nat -> Bool) (i:Nat) (g:Nat -> Bool):Nat -> Nat -> Bool:=fun x=>if x = i then g else c x
theorem GC {ex:Bool} {n i:Nat} {c c':Nat -> Nat -> Bool} (h:∀ j,j < i -> c j = c' j):oV ex n i c = oV ex n i c':=by
 unfold oV
 refine congrArg _ (List.map_congr_left fun j hj=>?_)
 rw [h j (List.mem_range.1 hj)]
theorem RH (h:bM E) {ex:Bool} {n i:Nat} {c:Nat -> Nat -> Bool} {g:Nat -> Bool} (hi:i < n):storeAt E (oV ex n i c ++ [.cells 4 (kY n g) ex]) 38 (.ref 0 i) (.sl (i + 1) 0 n none) = some (oV ex n (i + 1) (zC c i g)):=by
 have:=Mc (ex:=ex) (c:=zC c i g) h hi
 rw [GC (c:=zC c i g) (c':=c) (fun j hj=>by unfold zC; rw [if_neg (by omega)]),show zC c i g i = g from if_pos rfl] at this
 exact this
theorem GI {c:Nat -> Nat -> Bool} {i k:Nat} {g:Nat -> Bool} {b:Bool}:GH (zC c i g) i k b = zC c i (fun y=>if y = k then b else g y):=by
 funext x y
 unfold GH zC
 by_cases hx:x = i
 ·simp [hx]
 ·simp [hx]
theorem Kx (n:Nat):gK n [V.bool false] = kY n fun _=>false:=by
 have:∀ n:Nat,gK n [V.bool false] = List.replicate n (V.bool false):=by
  intro n
  induction n with
  | zero=>rfl
  | succ n ih=>rw [gK,ih]; rfl
 rw [this]
 unfold kY
 rw [List.map_const',List.length_range]
theorem Dz (n:Nat):gK n [V.aC] = rD n 0:=by
 have:∀ n:Nat,gK n [V.aC] = List.replicate n V.aC:=by
  intro n
  induction n with
  | zero=>rfl
  | succ n ih=>rw [gK,ih]; rfl
 rw [this]; rfl
theorem BZ {rs:List aG} {f:aZ} {k:Nat} (h:eV rs f = some k):k < rs.length:=by
 unfold eV at h
 generalize (fun r:aG=>decide (f ∈ r.outs)) = p at h
 induction rs generalizing k with
 | nil=>cases h
 | cons r rs ih=>
  rw [bJ] at h
  split at h
  ·cases h; simp
  ·obtain ⟨j,hj,rfl⟩:=Option.map_eq_some_iff.1 h
   have:=ih hj; simp only [List.length_cons]; omega
theorem Dv {rs:List aG} {f:aZ} {k:Nat} (h:fN rs f = some k):k < rs.length:=by
 unfold fN at h
 generalize (fun r:aG=>decide (r.name = f)) = p at h
 induction rs generalizing k with
 | nil=>cases h
 | cons r rs ih=>
  rw [bJ] at h
  split at h
  ·cases h; simp
  ·obtain ⟨j,hj,rfl⟩:=Option.map_eq_some_iff.1 h
   have:=ih hj; simp only [List.length_cons]; omega
theorem oS {α:Type} {p:α -> Bool} {l:List α} {j:Nat} {x:α} (hx:l[j]? = some x):(l.take (j + 1)).any p = ((l.take j).any p || p x):=by
 rw [List.take_add_one,hx,List.any_append]; simp
structure wD (rs:List aG):Prop where
 len:rs.length <= 64
 all:∀ x ∈ rs,Small x
theorem mU:idx none = -1:=rfl
theorem eZ {k:Nat}:idx (some k) = (k:Int):=rfl
theorem J3 (h:bM E) {a:V} {rs:List aG} (ha:LS dS 37 Z a rs) (hs:wD rs) (data:Bool):aB E 17 [a,.bool data] Z fun v σ'=>σ' = Z /\ jZ uQ v (H_ rs.length (gQ rs data)):=by
 obtain ⟨a',ea,ia⟩:=eR h ha
 rw [aH h.hs17 h.Mv h.fn17 h.md17 (args':=[a',.bool data]) (by simp only [aW,ea,show aY Z E.ty true (.bool data) = some (.bool data) from rfl]),a_ (by kernel_rfl)]
 have la:=cK h ia
 have hn:=hs.len
 generalize hN:rs.length = n at *
 have c2:decide ((n:Int) * ((24:Nat):Int) <= 1099511627776) = true:=decide_eq_true (by omega)
 have c3:decide ((n:Int) <= 1099511627776) = true:=decide_eq_true (by omega)
 have c4:decide ((n:Int) * ((1:Nat):Int) <= 1099511627776) = true:=decide_eq_true (by omega)
 have hinit:([O.cells 38 (rD n 0) true]:Sg) = oV true n 0 (gQ rs data):=rfl
 simp only [aA,Tryz.f17,KP,↓reduceIte,Nat.reduceLT,Nat.reduceAdd,reduceCtorEq,h.L5,h.vG,la,c2,c3,Dz,Int.toNat_natCast,Int.le_refl,hinit]
 refine aR (fun i F Y=>Y = oV true n i (gQ rs data) /\ F.get 0 = a' /\ F.get 1 = .bool data /\ F.get 5 = .sl 0 0 n none /\ F.get 6 = .int .i64 (i:Int)) n ?_ ?_ n 0 _ _ (by omega) ⟨rfl,(by simp +decide only [GS,and_self])⟩
 ·rintro i F Y hi ⟨rfl,g0,g1,g5,g6⟩ next
  obtain ⟨r,hr⟩:∃ y,rs[i]? = some y:=⟨_,List.getElem?_eq_getElem (by omega)⟩
  have hsr:=hs.all r (List.mem_of_getElem? hr)
  have a1:=hsr.ins
  have a3:=hsr.after
  obtain ⟨g,p1,p2,p3,p4,e1,i1,i2,i3,i4⟩:=eL h ia hr
  have l1:=bL h i1
  have l3:=bL h i3
  have hlt:=dN hi
  have hadd:=bV i (by omega)
  have x1:=EX h hi
  have s1:=RH (ex:=true) (c:=gQ rs data) (g:=fun _=>false) h hi
  rw [aF]
  simp only [KP,↓reduceIte,Nat.reduceEqDiff,Nat.reduceLT,reduceCtorEq,JE h,h.AU,h.aV,h.bI,h.vG,g0,g5,g6,la,hlt,e1,l1,c3,c4,Kx,Int.toNat_natCast,Int.le_refl,Cj,x1,s1]
  generalize hc:gQ rs data = c at *
  have hmem:∀ x ∈ rs,x.outs.length <= 4294967296:=fun x hx=>by have:=(hs.all x hx).outs; omega
  refine aR (fun j F Y=>Y = oV true n (i + 1) (zC c i fun k=>(r.ins.take j).any fun f=>decide (eV rs f = some k)) /\ F.get 0 = a' /\ F.get 1 = .bool data /\ F.get 5 = .sl 0 0 n none /\ F.get 6 = .int .i64 (i:Int) /\ F.get 32 = p1 /\ F.get 33 = .int .i64 (r.ins.length:Int) /\ F.get 34 = .int .i64 (j:Int)) r.ins.length ?_ ?_ r.ins.length 0 _ _ (by omega) ⟨by simp,(by simp +decide only [GS,g0,g1,g5,g6,and_self])⟩
  ·rintro j F Y hj ⟨rfl,g0,g1,g5,g6,g32,g33,g34⟩ next2
   obtain ⟨f,hf⟩:∃ y,r.ins[j]? = some y:=⟨_,List.getElem?_eq_getElem hj⟩
   obtain ⟨g,e2⟩:=fI h i1 hf
   have hlt2:=dN hj
   have hadd2:=bV j (by omega)
   generalize hC:(zC c i fun k=>(r.ins.take j).any fun f=>decide (eV rs f = some k)) = C
   have km:=JK (Z:=oV true n (i + 1) C) h (s:=f) (ia.ls _ 37) hmem (by omega)
   rw [aF]
   cases hm:eV rs f with
   | none=>
    simp only [KP,↓reduceIte,Nat.reduceEqDiff,Nat.reduceLT,reduceCtorEq,Int.reduceLE,Int.reduceNeg,rI h,g0,g32,g33,g34,hlt2,e2,km,hm,mU,hadd2]
    refine next2 _ _ ⟨?_,(by simp +decide only [GS,g0,g1,g5,g6,g32,g33,and_self])⟩
    rw [<- hC]
    refine congrArg _ (congrArg _ (funext fun k=>?_))
    rw [oS hf,hm]; simp
   | some k=>
    have hk:=BZ hm
    rw [hN] at hk
    have c0:decide ((0:Int) <= (k:Int)) = true:=decide_eq_true (by omega)
    have x2:=ER (ex:=true) (c:=C) h (show i < i + 1 by omega) (n:=n)
    have x3:=Cc h (j:=i) hk
    have x4:=HG (ex:=true) (c:=C) (b:=true) h (show i < i + 1 by omega) hk
    simp only [KP,↓reduceIte,Nat.reduceEqDiff,Nat.reduceLT,reduceCtorEq,rI h,g0,g5,g6,g32,g33,g34,hlt2,e2,km,hm,eZ,x1,x2,x3,x4,hadd2]
    refine next2 _ _ ⟨?_,(by simp +decide only [GS,g0,g1,g5,g6,g32,g33,and_self])⟩
    rw [<- hC,GI]
    refine congrArg _ (congrArg _ (funext fun y=>?_))
    rw [oS hf,hm]
    by_cases hy:y = k
    ·subst hy; simp
    ·rw [if_neg hy,decide_eq_false (fun e=>hy (Option.some.inj e).symm),Bool.or_false]
  ·rintro F Y ⟨rfl,g0,g1,g5,g6,g32,g33,g34⟩
   have hlt2:=dQ (Nat.lt_irrefl r.ins.length)
   rw [List.take_of_length_le (Nat.le_refl _)]
   rw [aF]
   simp only [KP,↓reduceIte,Nat.reduceEqDiff,Nat.reduceLT,reduceCtorEq,JE h,h.aV,h.bI,g0,g6,g33,g34,hlt2,e1,l3]
   refine aR (fun j F Y=>Y = oV true n (i + 1) (zC c i fun k=>(r.ins.any fun f=>decide (eV rs f = some k)) || (!data && (r.after.take j).any fun m=>decide (fN rs m = some k))) /\ F.get 0 = a' /\ F.get 1 = .bool data /\ F.get 5 = .sl 0 0 n none /\ F.get 6 = .int .i64 (i:Int) /\ F.get 54 = p3 /\ F.get 55 = .int .i64 (r.after.length:Int) /\ F.get 56 = .int .i64 (j:Int)) r.after.length ?_ ?_ r.after.length 0 _ _ (by omega) ⟨by simp,(by simp +decide only [GS,g0,g1,g5,g6,and_self])⟩
   ·rintro j F Y hj ⟨rfl,g0,g1,g5,g6,g32,g33,g34⟩ next2
    obtain ⟨f,hf⟩:∃ y,r.after[j]? = some y:=⟨_,List.getElem?_eq_getElem hj⟩
    obtain ⟨g,e2⟩:=fI h i3 hf
    have hlt2:=dN hj
    have hadd2:=bV j (by omega)
    generalize hC:(zC c i fun k=>(r.ins.any fun f=>decide (eV rs f = some k)) || (!data && (r.after.take j).any fun m=>decide (fN rs m = some k))) = C
    have km:=SQ (Z:=oV true n (i + 1) C) h (s:=f) (ia.ls _ 37) (by omega)
    rw [aF]
    cases hm:fN rs f with
    | none=>
     simp only [KP,↓reduceIte,Nat.reduceEqDiff,Nat.reduceLT,reduceCtorEq,Int.reduceLE,Int.reduceNeg,rI h,g0,g32,g33,g34,hlt2,e2,km,hm,mU,hadd2]
     refine next2 _ _ ⟨?_,(by simp +decide only [GS,g0,g1,g5,g6,g32,g33,and_self])⟩
     rw [<- hC]
     refine congrArg _ (congrArg _ (funext fun k=>?_))
     rw [oS hf,hm]; simp
    | some k=>
     have hk:=Dv hm
     rw [hN] at hk
     have c0:decide ((0:Int) <= (k:Int)) = true:=decide_eq_true (by omega)
     cases data with
     | true=>
      simp only [KP,↓reduceIte,Nat.reduceEqDiff,Nat.reduceLT,reduceCtorEq,rI h,g0,g1,g32,g33,g34,hlt2,e2,km,hm,eZ,hadd2]
      refine next2 _ _ ⟨?_,(by simp +decide only [GS,g0,g1,g5,g6,g32,g33,and_self])⟩
      rw [<- hC]
      refine congrArg _ (congrArg _ (funext fun k=>?_))
      simp
     | false=>
      have x2:=ER (ex:=true) (c:=C) h (show i < i + 1 by omega) (n:=n)
      have x3:=Cc h (j:=i) hk
      have x4:=HG (ex:=true) (c:=C) (b:=true) h (show i < i + 1 by omega) hk
      simp only [KP,↓reduceIte,Nat.reduceEqDiff,Nat.reduceLT,reduceCtorEq,rI h,g0,g1,g5,g6,g32,g33,g34,hlt2,e2,km,hm,eZ,x1,x2,x3,x4,hadd2]
      refine next2 _ _ ⟨?_,(by simp +decide only [GS,g0,g1,g5,g6,g32,g33,and_self])⟩
      rw [<- hC,GI]
      refine congrArg _ (congrArg _ (funext fun y=>?_))
      rw [oS hf,hm]
      by_cases hy:y = k
      ·subst hy; simp
      ·rw [if_neg hy,decide_eq_false (fun e=>hy (Option.some.inj e).symm),Bool.or_false]
   ·rintro F Y ⟨rfl,g0,g1,g5,g6,g32,g33,g34⟩
    have hlt2:=dQ (Nat.lt_irrefl r.after.length)
    rw [List.take_of_length_le (Nat.le_refl _)]
    rw [aF]
    simp only [KP,↓reduceIte,Nat.reduceEqDiff,Nat.reduceLT,g6,g33,g34,hlt2,hadd]
    refine next _ _ ⟨GC fun j hj=>?_,(by simp +decide only [GS,g0,g1,g5,and_self])⟩
    unfold zC
    by_cases hji:j = i
    ·subst hji
     rw [if_pos rfl,<- hc]
     funext k
     unfold gQ uD
     rw [hr]
    ·rw [if_neg hji]
 ·rintro F Y ⟨rfl,g0,g1,g5,g6⟩
  have hlt:=dQ (Nat.lt_irrefl n)
  rw [aF]
  obtain ⟨v,e1,hv⟩:=FE (ex:=true) (n:=n) (c:=gQ rs data) h
  simp only [KP,↓reduceIte,Nat.reduceEqDiff,Nat.reduceLT,reduceCtorEq,g0,g5,g6,la,hlt,e1]
  exact hv
end
end
section
section
variable {E:Env} {Z:Sg} {K:V -> Sg -> Prop}
theorem IP {rs:List (List V)} {n:Nat} {g:Nat -> Bool} (h:eT CL.P rs ((List.range n).map g)):rs.flatten = kY n g:=by
 have:∀ {rs:List (List V)} {l:List Bool},eT CL.P rs l -> rs.flatten = l.map V.bool:=by
  intro rs l h
  induction h with
  | nil=>rfl
  | cons p _ ih=>rw [List.flatten_cons,ih,show _ = [V.bool _] from p]; rfl
 rw [this h,List.map_map]; rfl
theorem Ra (h:bM E) {Y:Sg} {v:V} {n:Nat} {g:Nat -> Bool} (hn:0 < n) (hn2:n <= 64) (iv:IS CL v ((List.range n).map g)):Ax.append E Y #[38,38] .aC v = some (.sl Y.length 0 n none,Y ++ [.cells 4 (kY n g) false]):=by
 obtain ⟨rs,e,ha⟩:=qN iv Y
 have hn0:¬ n = 0:=by omega
 have e:elems Y 1 v = some (rs.flatten,n):=by rw [List.length_map,List.length_range] at e; exact e
 have hr:pM n 1 = true:=Dy (b:=64) (by decide) hn2
 unfold Ax.append
 simp only [show (#[38,38]:Array Nat)[0]? = some 38 from rfl,h.vG,h.AU,F0 h,e,hn0,hr,if_true,if_false,Bool.not_true,Bool.or_self,Bool.false_eq_true,IP ha,Nat.reduceBEq]
def vB (m:Nat -> Nat -> Bool) (k i j:Nat):Nat -> Nat -> Bool:=fun x y=>if x < i \/ (x = i /\ y < j) then wk m (k + 1) x y else wk m k x y
theorem Th {m:Nat -> Nat -> Bool} {k i j:Nat}:vB m k i j i k = wk m k i k:=by
 unfold vB; split
 ·exact LW k i
 ·rfl
theorem Tg {m:Nat -> Nat -> Bool} {k i j y:Nat}:vB m k i j k y = wk m k k y:=by
 unfold vB; split
 ·exact LU k y
 ·rfl
theorem Ti {m:Nat -> Nat -> Bool} {k i j:Nat}:vB m k i j i j = wk m k i j:=by
 unfold vB; rw [if_neg (by omega)]
theorem QH {m:Nat -> Nat -> Bool} {k i j:Nat} {b:Bool} (hb:b = wk m (k + 1) i j):GH (vB m k i j) i j b = vB m k i (j + 1):=by
 funext x y
 unfold GH vB
 by_cases h1:x = i
 ·subst h1
  by_cases h2:y = j
  ·subst h2
   rw [if_pos ⟨rfl,rfl⟩,if_pos (by omega),hb]
  ·rw [if_neg (by omega)]
   by_cases h3:y < j
   ·rw [if_pos (by omega),if_pos (by omega)]
   ·rw [if_neg (by omega),if_neg (by omega)]
 ·rw [if_neg (by omega)]
  by_cases h3:x < i
  ·rw [if_pos (by omega),if_pos (by omega)]
  ·rw [if_neg (by omega),if_neg (by omega)]
theorem uE {ex:Bool} {n i:Nat} {c c':Nat -> Nat -> Bool} (h:∀ j,j < i -> ∀ y,y < n -> c j y = c' j y):oV ex n i c = oV ex n i c':=by
 unfold oV
 refine congrArg _ (List.map_congr_left fun j hj=>?_)
 refine congrArg (fun l=>O.cells 4 l ex) (List.map_congr_left fun y hy=>?_)
 rw [h j (List.mem_range.1 hj) y (List.mem_range.1 hy)]
theorem Oy (h:bM E) {a:V} {n:Nat} {m:Nat -> Nat -> Bool} (hn:n <= 64) (ia:IS uQ a (H_ n m)):aB E 107 [a] Z fun v σ'=>σ' = Z /\ jZ uQ v (H_ n (wk m n)):=by
 rw [aH h.W5 h.UA h.XP h.V6 (args':=[a]) (by simp only [aW,lA ia Z]),a_ (by kernel_rfl)]
 have la:=Nt h ia
 rw [PD] at la
 have c2:decide ((n:Int) * ((24:Nat):Int) <= 1099511627776) = true:=decide_eq_true (by omega)
 have c3:decide ((n:Int) <= 1099511627776) = true:=decide_eq_true (by omega)
 have hinit:([O.cells 38 (rD n 0) true]:Sg) = oV false n 0 m:=rfl
 have d16:=h.QD
 simp only [aA,Tryz.f107,cutAt,Option.getD_some] at d16
 simp only [aA,Tryz.f107,KP,↓reduceIte,Nat.reduceLT,reduceCtorEq,h.L5,h.vG,la,c2,c3,Dz,Int.toNat_natCast,Int.le_refl,hinit]
 refine aR (fun i F Y=>Y = oV false n i m /\ F.get 0 = a /\ F.get 3 = .int .i64 (n:Int) /\ F.get 4 = .sl 0 0 n none /\ F.get 5 = .int .i64 (i:Int)) n ?_ ?_ n 0 _ _ (by omega) ⟨rfl,(by simp +decide only [GS,and_self])⟩
 ·rintro i F Y hi ⟨rfl,g0,g3,g4,g5⟩ next
  obtain ⟨g,r,e1,rv,hr,irv⟩:=J5 h ia (Jw hi)
  have e1:indexAddr E 32 a (.int .i64 (i:Int)) = some (.dP g [rv]):=by rw [e1,hr]
  have hlt:=dN hi
  have hadd:=bV i (by omega)
  have x1:=EX h hi
  have ha:=Ra (Y:=oV false n i m) h (by omega) hn irv
  rw [Cj] at ha
  have s1:=Mc (ex:=false) (c:=m) h hi
  rw [aF]
  simp only [KP,↓reduceIte,Nat.reduceEqDiff,Nat.reduceLT,reduceCtorEq,lX h,g0,g3,g4,g5,hlt,e1,x1,ha,s1,hadd]
  exact next _ _ ⟨rfl,(by simp +decide only [GS,g0,g3,g4,and_self])⟩
 ·rintro F Y ⟨rfl,g0,g3,g4,g5⟩
  have hlt:=dQ (Nat.lt_irrefl n)
  rw [aF]
  simp only [KP,↓reduceIte,Nat.reduceEqDiff,Nat.reduceLT,g3,g5,hlt]
  refine aR (fun k F Y=>Y = oV false n n (wk m k) /\ F.get 3 = .int .i64 (n:Int) /\ F.get 4 = .sl 0 0 n none /\ F.get 6 = .int .i64 (k:Int)) n ?_ ?_ n 0 _ _ (by omega) ⟨rfl,(by simp +decide only [GS,g3,g4,and_self])⟩
  ·rintro k F Y hk ⟨rfl,g3,g4,g6⟩ next
   have hlt:=dN hk
   have haddk:=bV k (by omega)
   rw [aF]
   simp only [KP,↓reduceIte,Nat.reduceEqDiff,Nat.reduceLT,g3,g6,hlt]
   refine aR (fun i F Y=>Y = oV false n n (vB m k i 0) /\ F.get 3 = .int .i64 (n:Int) /\ F.get 4 = .sl 0 0 n none /\ F.get 6 = .int .i64 (k:Int) /\ F.get 7 = .int .i64 (i:Int)) n ?_ ?_ n 0 _ _ (by omega) ⟨uE fun x hx y hy=>by unfold vB; rw [if_neg (by omega)],(by simp +decide only [GS,g3,g4,g6,and_self])⟩
   ·rintro i F Y hi ⟨rfl,g3,g4,g6,g7⟩ next2
    have hlt:=dN hi
    have haddi:=bV i (by omega)
    rw [aF]
    simp only [KP,↓reduceIte,Nat.reduceEqDiff,Nat.reduceLT,g3,g7,hlt]
    refine aR (fun j F Y=>Y = oV false n n (vB m k i j) /\ F.get 3 = .int .i64 (n:Int) /\ F.get 4 = .sl 0 0 n none /\ F.get 6 = .int .i64 (k:Int) /\ F.get 7 = .int .i64 (i:Int) /\ F.get 8 = .int .i64 (j:Int)) n ?_ ?_ n 0 _ _ (by omega) ⟨rfl,(by simp +decide only [GS,g3,g4,g6,g7,and_self])⟩
    ·rintro j F Y hj ⟨rfl,g3,g4,g6,g7,g8⟩ next3
     have hlt:=dN hj
     have haddj:=bV j (by omega)
     have v1:=Th (m:=m) (k:=k) (i:=i) (j:=j)
     have v2:=Tg (m:=m) (k:=k) (i:=i) (j:=j) (y:=j)
     have v3:=Ti (m:=m) (k:=k) (i:=i) (j:=j)
     have v4:=fun b hb=>QH (m:=m) (k:=k) (i:=i) (j:=j) (b:=b) hb
     have v5:wk m k i k = false -> oV false n n (vB m k i j) = oV false n n (vB m k (i + 1) 0):=fun hb=>uE fun x hx y hy=>by
      unfold vB
      by_cases h1:x = i
      ·subst h1
       rw [if_pos (show x < x + 1 \/ x = x + 1 /\ y < 0 by omega)]
       split
       ·rfl
       ·rw [wk,hb]; simp
      ·by_cases h3:x < i
       ·rw [if_pos (by omega),if_pos (by omega)]
       ·rw [if_neg (by omega),if_neg (by omega)]
     generalize hC:vB m k i j = C at *
     have y1:=EX h hi
     have y2:=ER (ex:=false) (c:=C) h hi (n:=n)
     have y3:=Cc h (j:=i) hk
     have y4:=Ic (ex:=false) (c:=C) h hi hk
     have y5:=Cc h (j:=i) hj
     have y6:=Ic (ex:=false) (c:=C) h hi hj
     have z1:=EX h hk
     have z2:=ER (ex:=false) (c:=C) h hk (n:=n)
     have z3:=Cc h (j:=k) hj
     have z4:=Ic (ex:=false) (c:=C) h hk hj
     have st1:=fun b=>HG (ex:=false) (c:=C) (b:=b) h hi hj
     rw [v1] at y4
     rw [v3] at y6
     rw [v2] at z4
     rw [aF]
     cases w1:wk m k i k with
     | false=>
      simp only [KP,↓reduceIte,Nat.reduceEqDiff,Nat.reduceLT,g3,g4,g6,g7,g8,hlt,y1,y2,y3,y4,w1,haddi]
      rw [v5 w1]
      exact next2 _ _ ⟨rfl,(by simp +decide only [GS,g3,g4,g6,and_self])⟩
     | true=>
      have w3:∀ b,b = (wk m k i j || wk m k k j) -> GH C i j b = vB m k i (j + 1):=fun b hb=>v4 b (by rw [hb,wk,w1,Bool.true_and])
      cases w2:wk m k i j with
      | true=>
       simp only [KP,↓reduceIte,Nat.reduceEqDiff,Nat.reduceLT,g3,g4,g6,g7,g8,hlt,y1,y2,y3,y4,y5,y6,w1,w2,st1,haddj,bA d16,bX]
       rw [w3 true (by rw [w2]; rfl)]
       exact next3 _ _ ⟨rfl,(by simp +decide only [GS,g3,g4,g6,g7,and_self])⟩
      | false=>
       simp only [KP,↓reduceIte,Nat.reduceEqDiff,Nat.reduceLT,g3,g4,g6,g7,g8,hlt,y1,y2,y3,y4,y5,y6,z1,z2,z3,z4,w1,w2,st1,haddj,bA d16,bX]
       rw [w3 _ (by rw [w2,Bool.false_or])]
       exact next3 _ _ ⟨rfl,(by simp +decide only [GS,g3,g4,g6,g7,and_self])⟩
    ·rintro F Y ⟨rfl,g3,g4,g6,g7,g8⟩
     have hlt:=dQ (Nat.lt_irrefl n)
     have v5:oV false n n (vB m k i n) = oV false n n (vB m k (i + 1) 0):=uE fun x hx y hy=>by
      unfold vB
      by_cases h3:x < i + 1
      ·rw [if_pos (by omega),if_pos (by omega)]
      ·rw [if_neg (by omega),if_neg (by omega)]
     rw [aF]
     simp only [KP,↓reduceIte,Nat.reduceEqDiff,Nat.reduceLT,g3,g7,g8,hlt,haddi]
     rw [v5]
     exact next2 _ _ ⟨rfl,(by simp +decide only [GS,g3,g4,g6,and_self])⟩
   ·rintro F Y ⟨rfl,g3,g4,g6,g7⟩
    have hlt:=dQ (Nat.lt_irrefl n)
    have v5:oV false n n (vB m k n 0) = oV false n n (wk m (k + 1)):=uE fun x hx y hy=>by
     unfold vB
     rw [if_pos (by omega)]
    rw [aF]
    simp only [KP,↓reduceIte,Nat.reduceEqDiff,Nat.reduceLT,g3,g6,g7,hlt,haddk]
    rw [v5]
    exact next _ _ ⟨rfl,(by simp +decide only [GS,g3,g4,and_self])⟩
  ·rintro F Y ⟨rfl,g3,g4,g6⟩
   have hlt:=dQ (Nat.lt_irrefl n)
   obtain ⟨v,e1,hv⟩:=FE (ex:=false) (n:=n) (c:=wk m n) h
   rw [aF]
   simp only [KP,↓reduceIte,Nat.reduceEqDiff,Nat.reduceLT,g3,g4,g6,hlt,e1]
   exact hv
end
end
section
section
variable {E:Env} {Z:Sg} {K:V -> Sg -> Prop}
theorem BW (h:bM E) {v:V} {n:Nat} {c:Nat -> Nat -> Bool} (iv:IS uQ v (H_ n c)) {i k:Nat} (hi:i < n) (hk:k < n):∃ g rv g2,indexAddr E 32 v (.int .i64 (i:Int)) = some (.dP g [rv]) /\ indexAddr E 38 rv (.int .i64 (k:Int)) = some (.dP g2 [.bool (c i k)]):=by
 obtain ⟨g,r,e1,rv,hr,irv⟩:=J5 h iv (Jw hi)
 obtain ⟨g2,r2,e2,hr2⟩:=OE h irv (Ps hk)
 exact ⟨g,rv,g2,by rw [e1,hr],by rw [e2,show r2 = [.bool (c i k)] from hr2]⟩
theorem yY (h:bM E) {n i:Nat} (hi:i < n):indexAddr E 56 (.sl 0 0 n none) (.int .i64 (i:Int)) = some (.ref 0 i):=by
 have hneg:¬ ((i:Int) < 0):=by omega
 unfold indexAddr
 simp only [hneg,if_false,h.L2,h.oZ,Int.toNat_natCast,hi,if_true,Nat.zero_add,Nat.mul_one]
theorem ES (h:bM E) {Y:Sg} {bC:List Int} {i:Nat} (hb:Y[0]? = some (O.cells 3 (bC.map (V.int .i64)) true)) (hi:i < bC.length):loadAt E Y 3 (.ref 0 i) = some (.int .i64 (eA bC i)):=by
 unfold loadAt
 simp only [h.oZ,hb,Ax.isAgg,Bool.false_eq_true,if_false,List.getElem?_map,List.getElem?_eq_getElem hi,Option.map_some]
 unfold eA
 rw [List.getElem?_eq_getElem hi]; rfl
theorem Rl (x:Int) (h1:-9223372036854775808 <= x) (h2:x <= 9223372036854775807):wr .i64 x = x:=by
 rw [yB,if_pos]
 have h3:lo .i64 = -9223372036854775808:=rfl
 have h4:hi .i64 = 9223372036854775807:=rfl
 rw [h3,h4,Bool.and_eq_true,decide_eq_true_eq,decide_eq_true_eq]
 exact ⟨h1,h2⟩
structure Yq (rs:List aG) (n first:Nat) (m:Nat -> Nat -> Bool) (bC:List Int):Prop where
 cnt:rs.length = n
 le:n <= 64
 bC:lT m n first (n + 1) 0 0 bC
theorem Pw {Y:Sg} {w:V} {l:List aZ} {bC:List Int} (hb:Y[0]? = some (O.cells 3 (bC.map (V.int .i64)) true)) (ow:bD aK 9 Y w l):aT w ≠ some 0:=by
 refine kM hb (by decide) ow
theorem N0 (h:bM E) {a vm:V} {rs:List aG} {n first:Nat} {m:Nat -> Nat -> Bool} {bC:List Int} (t:Yq rs n first m bC) (ia:IS dS a rs) (im:IS uQ vm (H_ n m)) {Y:Sg} {w:V} {l:List aZ} {at_ left:Nat} (b0:Y[0]? = some (O.cells 3 (bC.map (V.int .i64)) true)) (ow:bD aK 9 Y w l) (hl:l ≠ [] /\ l.length + left <= 100) (hat:at_ < n) (hle:0 < left -> ∃ k,k < n /\ m at_ k = true /\ eA bC k = (left:Int))
  (F:FT) (g0:F.get 0 = a) (g3:F.get 3 = vm) (g7:F.get 7 = .sl 0 0 n none) (g14:F.get 14 = w) (g15:F.get 15 = .int .i64 (at_:Int)) (g16:F.get 16 = .int .i64 (left:Int))
  (hk:∀ Y w l,l ≠ [] -> bD aK 9 Y w l -> K w Y):R E (.loop (cutAt [1,1,1,1,1,1,1,1,1,1,1,1,1,1,0,1,2,2] (aA Tryz.f61).code)) [.blk 12,.k (cutAt [1,1,1,1,1,1,1,1,1,1,1,1,1,1,1] (aA Tryz.f61).code)] ⟨216,F⟩ Y (mI E (aA Tryz.f61).results K):=by
 have tn:=t.cnt
 have tl:=t.le
 have tfl:=t.bC.len
 have la:=cK h ia
 rw [tn] at la
 have d44:=h.S4
 simp only [aA,Tryz.f61,cutAt,Option.getD_some] at d44
 refine aR (fun i F Y=>Y[0]? = some (O.cells 3 (bC.map (V.int .i64)) true) /\ F.get 0 = a /\ F.get 3 = vm /\ F.get 7 = .sl 0 0 n none /\ F.get 16 = .int .i64 ((left - i:Nat):Int) /\ (∃ w l,F.get 14 = w /\ bD aK 9 Y w l /\ l ≠ [] /\ l.length + (left - i) <= 100) /\ ∃ q:Nat,F.get 15 = .int .i64 (q:Int) /\ q < n /\ (0 < left - i -> ∃ k,k < n /\ m q k = true /\ eA bC k = ((left - i:Nat):Int))) left ?_ ?_ left 0 _ _ (by omega) ⟨b0,g0,g3,g7,g16,⟨w,l,g14,ow,hl⟩,at_,g15,hat,hle⟩
 ·rintro i F Y hi ⟨b0,g0,g3,g7,g16,⟨w,l,g14,ow,hl1,hl2⟩,q,g15,hq,hex⟩ next
  obtain ⟨k0,hk0,hm0,hf0⟩:=hex (by omega)
  generalize hL:left - i = L at *
  have hgt:decide ((0:Int) < (L:Int)) = true:=decide_eq_true (by omega)
  have hdn:=Df L (by omega) (by omega)
  rw [aF]
  simp only [aA,Tryz.f61,KP,↓reduceIte,Nat.reduceLT,Int.reduceNeg,cutAt,g16,hgt]
  refine aR (fun k F τ'=>τ' = Y /\ F.get 0 = a /\ F.get 3 = vm /\ F.get 7 = .sl 0 0 n none /\ F.get 14 = w /\ F.get 15 = .int .i64 (q:Int) /\ F.get 16 = .int .i64 (L:Int) /\ F.get 18 = .int .i64 (k:Int) /\ ∃ o:Option Nat,F.get 17 = .int .i64 (idx o) /\ ((o = none /\ ∀ j,j < k -> ¬ (m q j = true /\ eA bC j = (L:Int))) \/ ∃ p,o = some p /\ p < n /\ m q p = true /\ eA bC p = (L:Int))) n ?_ ?_ n 0 _ _ (by omega) ⟨rfl,(D6 (by simp +decide only [GS,g0,g3,g7,g14,g15,g16,and_self]) ⟨none,(by simp +decide only [GS,mU]),.inl ⟨rfl,fun j hj=>by omega⟩⟩)⟩
  ·rintro k F τ' hk ⟨rfl,g0,g3,g7,g14,g15,g16,g18,o,g17,ho⟩ next2
   have hlt:=dN hk
   have hadd:=bV k (by omega)
   obtain ⟨u1,rv,u2,e1,e2⟩:=BW h im hq hk
   have e3:=yY h hk
   have e4:=ES h b0 (i:=k) (by omega)
   obtain ⟨rk,hrk⟩:∃ y,rs[k]? = some y:=⟨_,List.getElem?_eq_getElem (by omega)⟩
   obtain ⟨v1,p1,p2,p3,p4,e5,-⟩:=eL h ia hrk
   rw [aF]
   cases c1:m q k with
   | false=>
    simp only [KP,↓reduceIte,Nat.reduceEqDiff,Nat.reduceLT,reduceCtorEq,Int.reduceNeg,tG h,lX h,g0,g3,g15,g18,la,hlt,e1,e2,c1,hadd,bA d44,bX]
    refine next2 _ _ ⟨rfl,(D6 (by simp +decide only [GS,g0,g3,g7,g14,g15,g16,and_self]) ⟨o,(by simp +decide only [GS,g17]),ho.imp (fun ⟨h1,h2⟩=>⟨h1,fun j hj=>?_⟩) id⟩)⟩
    rcases Nat.lt_or_ge j k with g | g
    ·exact h2 j g
    ·obtain rfl:j = k:=by omega
     rw [c1]; simp
   | true=>
    by_cases c2:eA bC k = (L:Int)
    case neg=>
     have d2:decide (eA bC k = (L:Int)) = false:=decide_eq_false c2
     simp only [KP,↓reduceIte,Nat.reduceEqDiff,Nat.reduceLT,reduceCtorEq,Int.reduceNeg,tG h,lX h,g0,g3,g7,g15,g16,g18,la,hlt,e1,e2,e3,e4,c1,d2,hadd,bA d44,bX]
     refine next2 _ _ ⟨rfl,(D6 (by simp +decide only [GS,g0,g3,g7,g14,g15,g16,and_self]) ⟨o,(by simp +decide only [GS,g17]),ho.imp (fun ⟨h1,h2⟩=>⟨h1,fun j hj=>?_⟩) id⟩)⟩
     rcases Nat.lt_or_ge j k with g | g
     ·exact h2 j g
     ·obtain rfl:j = k:=by omega
      exact fun e=>c2 e.2
    have d2:decide (eA bC k = (L:Int)) = true:=decide_eq_true c2
    rcases ho with ⟨rfl,-⟩ | ⟨p,rfl,hp,hmp,hfp⟩
    ·simp only [KP,↓reduceIte,Nat.reduceEqDiff,Nat.reduceLT,reduceCtorEq,Int.reduceLT,Int.reduceNeg,tG h,lX h,g0,g3,g7,g15,g16,g17,g18,la,hlt,e1,e2,e3,e4,c1,d2,hadd,mU,bA d44,bX]
     exact next2 _ _ ⟨rfl,(D6 (by simp +decide only [GS,g0,g3,g7,g14,g15,g16,and_self]) ⟨some k,(by simp +decide only [GS,eZ]),.inr ⟨k,rfl,hk,c1,c2⟩⟩)⟩
    ·have c0:decide ((p:Int) < 0) = false:=decide_eq_false (by omega)
     obtain ⟨rp,hrp⟩:∃ y,rs[p]? = some y:=⟨_,List.getElem?_eq_getElem (by omega)⟩
     obtain ⟨v2,q1,q2,q3,q4,e6,-⟩:=eL h ia hrp
     cases c3:Ax.slt rk.name rp.name with
     | true=>
      simp only [KP,↓reduceIte,Nat.reduceEqDiff,Nat.reduceLT,reduceCtorEq,Int.reduceNeg,tG h,rI h,lX h,h.cN,h.bI,g0,g3,g7,g15,g16,g17,g18,la,hlt,e1,e2,e3,e4,e5,e6,c1,d2,c0,c3,hadd,eZ,bA d44,bX]
      exact next2 _ _ ⟨rfl,(D6 (by simp +decide only [GS,g0,g3,g7,g14,g15,g16,and_self]) ⟨some k,(by simp +decide only [GS,eZ]),.inr ⟨k,rfl,hk,c1,c2⟩⟩)⟩
     | false=>
      simp only [KP,↓reduceIte,Nat.reduceEqDiff,Nat.reduceLT,reduceCtorEq,Int.reduceNeg,tG h,rI h,lX h,h.cN,h.bI,g0,g3,g7,g15,g16,g17,g18,la,hlt,e1,e2,e3,e4,e5,e6,c1,d2,c0,c3,hadd,eZ,bA d44,bX]
      exact next2 _ _ ⟨rfl,(D6 (by simp +decide only [GS,g0,g3,g7,g14,g15,g16,and_self]) ⟨some p,(by simp +decide only [GS,g17]),.inr ⟨p,rfl,hp,hmp,hfp⟩⟩)⟩
  ·rintro F τ' ⟨rfl,g0,g3,g7,g14,g15,g16,g18,o,g17,ho⟩
   have hlt:=dQ (Nat.lt_irrefl n)
   rcases ho with ⟨rfl,hno⟩ | ⟨p,rfl,hp,hmp,hfp⟩
   ·exact absurd ⟨hm0,hf0⟩ (hno k0 hk0)
   ·obtain ⟨rp,hrp⟩:∃ y,rs[p]? = some y:=⟨_,List.getElem?_eq_getElem (by omega)⟩
    obtain ⟨v2,q1,q2,q3,q4,e6,-⟩:=eL h ia hrp
    obtain ⟨w2,τ2,ha2,o2,k2,n2⟩:=xX (s:=rp.name) (ex:=true) h ow (by omega)
    rw [aF]
    simp only [KP,↓reduceIte,Nat.reduceEqDiff,Nat.reduceLT,Nat.reduceLeDiff,Nat.reduceMul,reduceCtorEq,Int.reduceNeg,rI h,h.cN,h.aV,h.bI,g0,g14,g16,g17,g18,la,hlt,e6,eZ,iN,ha2,hdn]
    clear hex
    have hLi:L - 1 = left - (i + 1):=by rw [<- hL,Nat.sub_sub]
    have b2:=k2 0 _ (aP b0) (Pw b0 ow)
    refine next _ _ ⟨b2,(fE (by simp +decide only [GS,g0,g3,g7,and_self]) ⟨?_,⟨w2,_,(by simp +decide only [GS]),o2,by simp,?_⟩,p,(by simp +decide only [GS]),hp,fun hpos=>?_⟩)⟩
    ·rw [hLi]; exact (by simp +decide only [GS])
    ·simp only [List.length_append,List.length_cons,List.length_nil]; omega
    ·obtain ⟨e,he⟩:∃ e:Nat,L = e + 1:=⟨L - 1,by omega⟩
     obtain ⟨k',h1,h2,h3⟩:=t.bC.down p e hp (by rw [hfp,he]; omega)
     exact ⟨k',h1,h2,by rw [h3]; omega⟩
 ·rintro F Y ⟨b0,g0,g3,g7,g16,⟨w,l,g14,ow,hl1,hl2⟩,-⟩
  rw [Nat.sub_self] at g16
  rw [aF]
  simp only [aA,Tryz.f61,KP,↓reduceIte,Nat.reduceEqDiff,Nat.reduceLT,Int.reduceLT,Int.reduceNeg,cutAt,g16,g14]
  exact hk _ _ _ hl1 ow
end
end
section
section
variable {E:Env} {Z:Sg} {K:V -> Sg -> Prop}
theorem N5 (h:bM E) {a vm:V} {rs:List aG} {n first:Nat} {m:Nat -> Nat -> Bool} {bC:List Int} (t:Yq rs n first m bC) (ia:IS dS a rs) (im:IS uQ vm (H_ n m)) (hf:first < n) (hex:∃ k,k < n /\ m first k = true /\ 0 <= eA bC k)
  (F:FT) (g0:F.get 0 = a) (g3:F.get 3 = vm) (g5:F.get 5 = .int .i64 (first:Int)) (g7:F.get 7 = .sl 0 0 n none)
  (hk:∀ Y w l,l ≠ [] -> bD aK 9 Y w l -> K w Y):R E (cutAt [1,1,1,1,1,1,1,1,1,1] (aA Tryz.f61).code) [] ⟨216,F⟩ [O.cells 3 (bC.map (V.int .i64)) true] (mI E (aA Tryz.f61).results K):=by
 have tn:=t.cnt
 have tl:=t.le
 have tfl:=t.bC.len
 have la:=cK h ia
 rw [tn] at la
 have b0:([O.cells 3 (bC.map (V.int .i64)) true]:Sg)[0]? = some (O.cells 3 (bC.map (V.int .i64)) true):=rfl
 have key:=fun Y w l at_ left b0 ow hl hat hle F g0 g3 g7 g14 g15 g16=>N0 (K:=K) h t ia im (Y:=Y) (w:=w) (l:=l) (at_:=at_) (left:=left) b0 ow hl hat hle F g0 g3 g7 g14 g15 g16 hk
 rw [show cutAt [1,1,1,1,1,1,1,1,1,1] (aA Tryz.f61).code = .seq (cutAt [1,1,1,1,1,1,1,1,1,1,0] (aA Tryz.f61).code) (.seq (.seq (cutAt [1,1,1,1,1,1,1,1,1,1,1,0,0] (aA Tryz.f61).code) (.block 10 (.loop (cutAt [1,1,1,1,1,1,1,1,1,1,1,0,1,2,2] (aA Tryz.f61).code)))) (.seq (cutAt [1,1,1,1,1,1,1,1,1,1,1,1,0] (aA Tryz.f61).code) (.seq (cutAt [1,1,1,1,1,1,1,1,1,1,1,1,1,0] (aA Tryz.f61).code) (.seq (.seq (cutAt [1,1,1,1,1,1,1,1,1,1,1,1,1,1,0,0] (aA Tryz.f61).code) (.block 12 (.loop (cutAt [1,1,1,1,1,1,1,1,1,1,1,1,1,1,0,1,2,2] (aA Tryz.f61).code)))) (cutAt [1,1,1,1,1,1,1,1,1,1,1,1,1,1,1] (aA Tryz.f61).code))))) from rfl]
 generalize cutAt [1,1,1,1,1,1,1,1,1,1,1,1,1,1,0,1,2,2] (aA Tryz.f61).code = D at *
 generalize cutAt [1,1,1,1,1,1,1,1,1,1,1,1,1,1,1] (aA Tryz.f61).code = C at *
 simp only [aA,Tryz.f61,KP,↓reduceIte,Nat.reduceLT,Int.reduceNeg,cutAt]
 refine aR (fun k F Y=>Y = [O.cells 3 (bC.map (V.int .i64)) true] /\ F.get 0 = a /\ F.get 3 = vm /\ F.get 5 = .int .i64 (first:Int) /\ F.get 7 = .sl 0 0 n none /\ F.get 13 = .int .i64 (k:Int) /\ ((F.get 12 = .int .i64 0 /\ ∀ j,j < k -> ¬ (m first j = true /\ 0 <= eA bC j)) \/ ∃ (q e:Nat),F.get 12 = .int .i64 ((e + 1:Nat):Int) /\ q < n /\ m first q = true /\ eA bC q = (e:Int))) n ?_ ?_ n 0 _ _ (by omega) ⟨rfl,(lY (by simp +decide only [GS,g0,g3,g5,g7,and_self]) (.inl ⟨(by simp +decide only [GS]),fun j hj=>by omega⟩))⟩
 ·rintro k F Y hk2 ⟨rfl,g0,g3,g5,g7,g13,ho⟩ next
  have hlt:=dN hk2
  have hadd:=bV k (by omega)
  obtain ⟨u1,rv,u2,e1,e2⟩:=BW h im hf hk2
  have e3:=yY h hk2
  have e4:=ES h b0 (i:=k) (by omega)
  rw [aF]
  have hno:¬ (m first k = true /\ 0 <= eA bC k) -> ((F.get 12 = .int .i64 0 /\ ∀ j,j < k + 1 -> ¬ (m first j = true /\ 0 <= eA bC j)) \/ ∃ (q e:Nat),F.get 12 = .int .i64 ((e + 1:Nat):Int) /\ q < n /\ m first q = true /\ eA bC q = (e:Int)):=fun hn=>ho.imp (fun ⟨h1,h2⟩=>⟨h1,fun j hj=>by
   rcases Nat.lt_or_ge j k with g | g
   ·exact h2 j g
   ·obtain rfl:j = k:=by omega
    exact hn⟩) id
  have tr:∀ {F':FT},F'.get 12 = F.get 12 -> ¬ (m first k = true /\ 0 <= eA bC k) -> ((F'.get 12 = .int .i64 0 /\ ∀ j,j < k + 1 -> ¬ (m first j = true /\ 0 <= eA bC j)) \/ ∃ (q e:Nat),F'.get 12 = .int .i64 ((e + 1:Nat):Int) /\ q < n /\ m first q = true /\ eA bC q = (e:Int)):=fun hF hn=>by rw [hF]; exact hno hn
  cases c1:m first k with
  | false=>
   simp only [KP,↓reduceIte,Nat.reduceEqDiff,Nat.reduceLT,reduceCtorEq,tG h,lX h,g0,g3,g5,g13,la,hlt,e1,e2,c1,hadd]
   exact next _ _ ⟨rfl,(lY (by simp +decide only [GS,g0,g3,g5,g7,and_self]) (tr (by simp +decide only [GS]) (fun e=>by rw [c1] at e; cases e.1)))⟩
  | true=>
   by_cases c2:0 <= eA bC k
   case neg=>
    have d2:decide (0 <= eA bC k) = false:=decide_eq_false c2
    simp only [KP,↓reduceIte,Nat.reduceEqDiff,Nat.reduceLT,reduceCtorEq,tG h,lX h,g0,g3,g5,g7,g13,la,hlt,e1,e2,e3,e4,c1,d2,hadd]
    exact next _ _ ⟨rfl,(lY (by simp +decide only [GS,g0,g3,g5,g7,and_self]) (tr (by simp +decide only [GS]) (fun e=>c2 e.2)))⟩
   obtain ⟨e,he⟩:=Int.eq_ofNat_of_zero_le c2
   have hsm:=t.bC.small hk2
   have d2:decide ((0:Int) <= (e:Int)) = true:=decide_eq_true (by omega)
   have hw:=bV e (by omega)
   rw [he] at e4
   rcases ho with ⟨g12,-⟩ | ⟨q,e',g12,hq,hm,hfq⟩
   ·simp only [KP,↓reduceIte,Nat.reduceEqDiff,Nat.reduceLT,reduceCtorEq,tG h,lX h,g0,g3,g5,g7,g13,g12,la,hlt,e1,e2,e3,e4,c1,hw,hadd]
    exact next _ _ ⟨rfl,(lY (by simp +decide only [GS,g0,g3,g5,g7,and_self]) (.inr ⟨k,e,(by simp +decide only [GS]),hk2,c1,he⟩))⟩
   ·have d3:decide (((e' + 1:Nat):Int) = 0) = false:=decide_eq_false (by omega)
    cases c3:decide (((e + 1:Nat):Int) < ((e' + 1:Nat):Int)) with
    | true=>
     simp only [KP,↓reduceIte,Nat.reduceEqDiff,Nat.reduceLT,reduceCtorEq,tG h,lX h,g0,g3,g5,g7,g13,g12,la,hlt,e1,e2,e3,e4,c1,d3,hw,c3,hadd]
     exact next _ _ ⟨rfl,(lY (by simp +decide only [GS,g0,g3,g5,g7,and_self]) (.inr ⟨k,e,(by simp +decide only [GS]),hk2,c1,he⟩))⟩
    | false=>
     simp only [KP,↓reduceIte,Nat.reduceEqDiff,Nat.reduceLT,reduceCtorEq,tG h,lX h,g0,g3,g5,g7,g13,g12,la,hlt,e1,e2,e3,e4,c1,d3,hw,c3,hadd]
     exact next _ _ ⟨rfl,(lY (by simp +decide only [GS,g0,g3,g5,g7,and_self]) (.inr ⟨q,e',(by simp +decide only [GS,g12]),hq,hm,hfq⟩))⟩
 ·rintro F Y ⟨rfl,g0,g3,g5,g7,g13,ho⟩
  have hlt:=dQ (Nat.lt_irrefl n)
  rcases ho with ⟨-,hno⟩ | ⟨q,e,g12,hq,hm,hfq⟩
  ·obtain ⟨k,h1,h2,h3⟩:=hex
   exact absurd ⟨h2,h3⟩ (hno k h1)
  ·have hsm:=t.bC.small hq
   have hw:=Df (e + 1) (by omega) (by omega)
   obtain ⟨rf,hrf⟩:∃ y,rs[first]? = some y:=⟨_,List.getElem?_eq_getElem (by omega)⟩
   obtain ⟨v1,p1,p2,p3,p4,e5,-⟩:=eL h ia hrf
   rw [aF]
   simp only [KP,↓reduceIte,Nat.reduceEqDiff,Nat.reduceLT,Nat.reduceLeDiff,Nat.reduceMul,reduceCtorEq,rI h,h.cN,h.aV,h.bI,g0,g5,g13,g12,la,hlt,e5,iN,hw]
   refine key [O.cells 3 (bC.map (V.int .i64)) true,.cells 9 [.str rf.name] true] (.sl 1 0 1 none) [rf.name] first e rfl (.inr ⟨1,[[.str rf.name]],true,rfl,rfl,.one rfl⟩) ⟨by simp,by simp only [List.length_cons,List.length_nil]; omega⟩ hf (fun _=>⟨q,hq,hm,hfq⟩) _ ?_ ?_ ?_ ?_ ?_ ?_
   ·exact (by simp +decide only [GS,g0])
   ·exact (by simp +decide only [GS,g3])
   ·exact (by simp +decide only [GS,g7])
   ·exact (by simp +decide only [GS])
   ·exact (by simp +decide only [GS])
   ·exact (by simp +decide only [GS,Nat.add_sub_cancel])
theorem HH (h:bM E) {bC:List Int} {i:Nat} {d:Int} (hi:i < bC.length):storeAt E [O.cells 3 (bC.map (V.int .i64)) true] 3 (.ref 0 i) (.int .i64 d) = some [O.cells 3 ((bC.set i d).map (V.int .i64)) true]:=by
 unfold storeAt
 have h0:([O.cells 3 (bC.map (V.int .i64)) true]:Sg)[0]? = some (O.cells 3 (bC.map (V.int .i64)) true):=rfl
 simp only [h.oZ,h0]
 rw [if_pos (by simp only [V.cells,V.aX,List.length_cons,List.length_nil,List.all_cons,List.all_nil,List.length_map,Bool.and_true,Bool.and_eq_true,decide_eq_true_eq]; exact ⟨rfl,by omega⟩)]
 refine congrArg some ?_
 show [O.cells 3 (setCells (bC.map (V.int .i64)) i [V.int .i64 d]) true] = _
 have:setCells (bC.map (V.int .i64)) i [V.int .i64 d] = (bC.set i d).map (V.int .i64):=by
  unfold setCells
  rw [List.map_set,List.set_eq_take_append_cons_drop,if_pos (by simpa using hi)]
  simp
 rw [this]
theorem QE (h:bM E) {a vm:V} {rs:List aG} {n first:Nat} {m:Nat -> Nat -> Bool} (hn:rs.length = n) (hle:n <= 64) (ia:IS dS a rs) (im:IS uQ vm (H_ n m)) (hf:first < n) (hmn:∀ i j,m i j = true -> i < n /\ j < n) (hw:AxS.Way m first first) {bC:List Int} (hfar:lT m n first 1 0 0 bC)
  (F:FT) (g0:F.get 0 = a) (g3:F.get 3 = vm) (g5:F.get 5 = .int .i64 (first:Int)) (g7:F.get 7 = .sl 0 0 n none)
  (hk:∀ Y w l,l ≠ [] -> bD aK 9 Y w l -> K w Y):R E (cutAt [1,1,1,1,1,1,1,1,1] (aA Tryz.f61).code) [] ⟨216,F⟩ [O.cells 3 (bC.map (V.int .i64)) true] (mI E (aA Tryz.f61).results K):=by
 have la:=cK h ia
 rw [hn] at la
 have key:=fun bC (hfar:lT m n first (n + 1) 0 0 bC) F g0 g3 g5 g7=>N5 (K:=K) h ⟨hn,hle,hfar⟩ ia im hf (hfar.first hmn hf hw) F g0 g3 g5 g7 hk
 rw [show cutAt [1,1,1,1,1,1,1,1,1] (aA Tryz.f61).code = .seq (cutAt [1,1,1,1,1,1,1,1,1,0] (aA Tryz.f61).code) (cutAt [1,1,1,1,1,1,1,1,1,1] (aA Tryz.f61).code) from rfl]
 generalize cutAt [1,1,1,1,1,1,1,1,1,1] (aA Tryz.f61).code = C at *
 simp only [aA,Tryz.f61,KP,↓reduceIte,Nat.reduceLT,Int.reduceNeg,cutAt]
 refine aR (fun d F Y=>∃ bC,Y = [O.cells 3 (bC.map (V.int .i64)) true] /\ lT m n first (d + 1) 0 0 bC /\ F.get 0 = a /\ F.get 3 = vm /\ F.get 5 = .int .i64 (first:Int) /\ F.get 7 = .sl 0 0 n none /\ F.get 9 = .int .i64 ((d + 1:Nat):Int)) n ?_ ?_ n 0 _ _ (by omega) ⟨bC,rfl,hfar,(fZ (by simp +decide only [GS,g0,g3,g5,g7,and_self]) (by simp +decide only [GS]; rfl))⟩
 ·rintro d F Y hd ⟨bC,rfl,hfar,g0,g3,g5,g7,g9⟩ next
  have hle1:decide (((d + 1:Nat):Int) <= (n:Int)) = true:=decide_eq_true (by omega)
  have haddd:=bV (d + 1) (by omega)
  have hsub:=Df (d + 1) (by omega) (by omega)
  rw [aF]
  simp only [KP,↓reduceIte,Nat.reduceEqDiff,Nat.reduceLT,reduceCtorEq,g0,g9,la,hle1]
  refine aR (fun i F Y=>∃ bC,Y = [O.cells 3 (bC.map (V.int .i64)) true] /\ lT m n first (d + 1) i 0 bC /\ F.get 0 = a /\ F.get 3 = vm /\ F.get 5 = .int .i64 (first:Int) /\ F.get 7 = .sl 0 0 n none /\ F.get 9 = .int .i64 ((d + 1:Nat):Int) /\ F.get 10 = .int .i64 (i:Int)) n ?_ ?_ n 0 _ _ (by omega) ⟨bC,rfl,hfar,(by simp +decide only [GS,g0,g3,g5,g7,g9,and_self])⟩
  ·rintro i F Y hi ⟨bC,rfl,hfar,g0,g3,g5,g7,g9,g10⟩ next2
   have hlt:=dN hi
   have haddi:=bV i (by omega)
   rw [aF]
   simp only [KP,↓reduceIte,Nat.reduceEqDiff,Nat.reduceLT,reduceCtorEq,g0,g10,la,hlt]
   refine aR (fun k F Y=>∃ bC,Y = [O.cells 3 (bC.map (V.int .i64)) true] /\ lT m n first (d + 1) i k bC /\ F.get 0 = a /\ F.get 3 = vm /\ F.get 5 = .int .i64 (first:Int) /\ F.get 7 = .sl 0 0 n none /\ F.get 9 = .int .i64 ((d + 1:Nat):Int) /\ F.get 10 = .int .i64 (i:Int) /\ F.get 11 = .int .i64 (k:Int)) n ?_ ?_ n 0 _ _ (by omega) ⟨bC,rfl,hfar,(by simp +decide only [GS,g0,g3,g5,g7,g9,g10,and_self])⟩
   ·rintro k F Y hk2 ⟨bC,rfl,hfar,g0,g3,g5,g7,g9,g10,g11⟩ next3
    have tfl:=hfar.len
    have b0:([O.cells 3 (bC.map (V.int .i64)) true]:Sg)[0]? = some (O.cells 3 (bC.map (V.int .i64)) true):=rfl
    have hlt:=dN hk2
    have haddk:=bV k (by omega)
    obtain ⟨u1,rv,u2,e1,e2⟩:=BW h im hi hk2
    have e3:=yY h hi
    have e4:=ES h b0 (i:=i) (by omega)
    have e5:=yY h hk2
    have e6:=ES h b0 (i:=k) (by omega)
    rw [aF]
    by_cases c0:eA bC i < 0
    case neg=>
     have d0:decide (eA bC i < 0) = false:=decide_eq_false c0
     simp only [KP,↓reduceIte,Nat.reduceEqDiff,Nat.reduceLT,reduceCtorEq,g0,g7,g10,g11,la,hlt,e3,e4,d0,haddi]
     exact next2 _ _ ⟨bC,rfl,hfar.next (.inr (by omega)) hi,(by simp +decide only [GS,g0,g3,g5,g7,g9,and_self])⟩
    have d0:decide (eA bC i < 0) = true:=decide_eq_true c0
    cases c1:m i k with
    | false=>
     simp only [KP,↓reduceIte,Nat.reduceEqDiff,Nat.reduceLT,reduceCtorEq,tG h,lX h,g0,g3,g7,g10,g11,la,hlt,e1,e2,e3,e4,d0,c1,haddk]
     exact next3 _ _ ⟨bC,rfl,hfar.skip (fun e=>by rw [c1] at e; cases e.1),(by simp +decide only [GS,g0,g3,g5,g7,g9,g10,and_self])⟩
    | true=>
     by_cases c2:eA bC k = (d:Int)
     ·have d2:decide (eA bC k = ((d + 1 - 1:Nat):Int)) = true:=decide_eq_true (by rw [c2]; rfl)
      have s1:=HH h (bC:=bC) (i:=i) (d:=((d + 1:Nat):Int)) (by omega)
      simp only [KP,↓reduceIte,Nat.reduceEqDiff,Nat.reduceLT,reduceCtorEq,tG h,lX h,g0,g3,g7,g9,g10,g11,la,hlt,e1,e2,e3,e4,e5,e6,d0,c1,hsub,d2,s1,haddk]
      exact next3 _ _ ⟨_,rfl,hfar.put hi hk2 (by omega) c0 c1 (by rw [c2]; omega),(by simp +decide only [GS,g0,g3,g5,g7,g9,g10,and_self])⟩
     ·have d2:decide (eA bC k = ((d + 1 - 1:Nat):Int)) = false:=decide_eq_false (by rw [Nat.add_sub_cancel]; exact c2)
      simp only [KP,↓reduceIte,Nat.reduceEqDiff,Nat.reduceLT,reduceCtorEq,tG h,lX h,g0,g3,g7,g9,g10,g11,la,hlt,e1,e2,e3,e4,e5,e6,d0,c1,hsub,d2,haddk]
      exact next3 _ _ ⟨bC,rfl,hfar.skip (fun e=>c2 (by rw [e.2]; omega)),(by simp +decide only [GS,g0,g3,g5,g7,g9,g10,and_self])⟩
   ·rintro F Y ⟨bC,rfl,hfar,g0,g3,g5,g7,g9,g10,g11⟩
    have hlt:=dQ (Nat.lt_irrefl n)
    rw [aF]
    simp only [KP,↓reduceIte,Nat.reduceEqDiff,Nat.reduceLT,reduceCtorEq,g0,g10,g11,la,hlt,haddi]
    exact next2 _ _ ⟨bC,rfl,hfar.next (.inl rfl) hi,(by simp +decide only [GS,g0,g3,g5,g7,g9,and_self])⟩
  ·rintro F Y ⟨bC,rfl,hfar,g0,g3,g5,g7,g9,g10⟩
   have hlt:=dQ (Nat.lt_irrefl n)
   rw [aF]
   simp only [KP,↓reduceIte,Nat.reduceEqDiff,Nat.reduceLT,reduceCtorEq,g0,g9,g10,la,hlt,haddd]
   exact next _ _ ⟨bC,rfl,hfar.round,(by simp +decide only [GS,g0,g3,g5,g7,and_self])⟩
 ·rintro F Y ⟨bC,rfl,hfar,g0,g3,g5,g7,g9⟩
  have hle1:decide (((n + 1:Nat):Int) <= (n:Int)) = false:=decide_eq_false (by omega)
  rw [aF]
  simp only [KP,↓reduceIte,Nat.reduceEqDiff,Nat.reduceLT,reduceCtorEq,g0,g9,la,hle1]
  refine key bC hfar _ ?_ ?_ ?_ ?_
  ·exact (by simp +decide only [GS,g0])
  ·exact (by simp +decide only [GS,g3])
  ·exact (by simp +decide only [GS,g5])
  ·exact (by simp +decide only [GS,g7])
end
end
section
section
variable {E:Env} {Z:Sg} {K:V -> Sg -> Prop}
theorem MR (n:Nat):gK n [V.int .i64 0] = (List.replicate n (0:Int)).map (V.int .i64):=by
 induction n with
 | zero=>rfl
 | succ n ih=>rw [gK,ih]; rfl
theorem Pp {n i:Nat} (hi:i < n):(List.replicate i (-1:Int) ++ List.replicate (n - i) 0).set i (-1) = List.replicate (i + 1) (-1) ++ List.replicate (n - (i + 1)) 0:=by
 obtain ⟨d,rfl⟩:∃ d,n = i + (d + 1):=⟨n - i - 1,by omega⟩
 rw [List.set_append_right _ _ (by simp),List.length_replicate,Nat.sub_self,show i + (d + 1) - i = d + 1 by omega,List.replicate_succ,List.set_cons_zero,show i + (d + 1) - (i + 1) = d by omega,List.replicate_succ']
 simp
theorem N4 (h:bM E) {a vm:V} {rs:List aG} {n:Nat} {m:Nat -> Nat -> Bool} (hn:rs.length = n) (hle:n <= 64) (ia:IS dS a rs) (im:IS uQ vm (H_ n m)) (hmn:∀ i j,m i j = true -> i < n /\ j < n) {o:Option Nat} (ho:∀ f,o = some f -> f < n /\ AxS.Way m f f)
  (F:FT) (g0:F.get 0 = a) (g3:F.get 3 = vm) (g5:F.get 5 = .int .i64 (idx o))
  (hk:o ≠ none -> ∀ Y w l,l ≠ [] -> bD aK 9 Y w l -> K w Y) (hk0:o = none -> K .aC []):R E (cutAt [1,1,1,1,1] (aA Tryz.f61).code) [] ⟨216,F⟩ [] (mI E (aA Tryz.f61).results K):=by
 have la:=cK h ia
 rw [hn] at la
 cases o with
 | none=>
  simp only [aA,Tryz.f61,KP,↓reduceIte,Nat.reduceLT,Int.reduceLT,Int.reduceNeg,cutAt,g5,mU]
  exact hk0 rfl
 | some first=>
  obtain ⟨hf,hw⟩:=ho first rfl
  have key:=fun bC hfar F g0 g3 g5 g7=>QE (K:=K) h hn hle ia im hf hmn hw (bC:=bC) hfar F g0 g3 g5 g7 (hk (by simp))
  have c0:decide ((first:Int) < 0) = false:=decide_eq_false (by omega)
  have c2:decide ((n:Int) * ((8:Nat):Int) <= 1099511627776) = true:=decide_eq_true (by omega)
  have c3:decide ((n:Int) <= 1099511627776) = true:=decide_eq_true (by omega)
  have lf:∀ Z,lenOf E Z 56 (.sl 0 0 n none) = some n:=fun Z=>by unfold lenOf; rw [h.L2]
  rw [show cutAt [1,1,1,1,1] (aA Tryz.f61).code = .seq (cutAt [1,1,1,1,1,0] (aA Tryz.f61).code) (.seq (cutAt [1,1,1,1,1,1,0] (aA Tryz.f61).code) (.seq (cutAt [1,1,1,1,1,1,1,0] (aA Tryz.f61).code) (.seq (cutAt [1,1,1,1,1,1,1,1,0] (aA Tryz.f61).code) (cutAt [1,1,1,1,1,1,1,1,1] (aA Tryz.f61).code)))) from rfl]
  generalize cutAt [1,1,1,1,1,1,1,1,1] (aA Tryz.f61).code = C at *
  simp only [aA,Tryz.f61,KP,↓reduceIte,Nat.reduceLT,reduceCtorEq,Int.reduceNeg,h.oZ,h.L2,cutAt,g0,g5,eZ,c0,la,c2,c3,Int.toNat_natCast,Int.le_refl,MR,lf]
  refine aR (fun i F Y=>∃ bC,Y = [O.cells 3 (bC.map (V.int .i64)) true] /\ bC = List.replicate i (-1) ++ List.replicate (n - i) 0 /\ F.get 0 = a /\ F.get 3 = vm /\ F.get 5 = .int .i64 (first:Int) /\ F.get 7 = .sl 0 0 n none /\ F.get 60 = .int .i64 (n:Int) /\ F.get 61 = .int .i64 (i:Int)) n ?_ ?_ n 0 _ _ (by omega) ⟨_,rfl,by simp,(by simp +decide only [GS,g0,g3,g5,eZ,and_self])⟩
  ·rintro i F Y hi ⟨bC,rfl,hfar,g0,g3,g5,g7,g60,g61⟩ next
   have hlt:=dN hi
   have hadd:=bV i (by omega)
   have hfl:bC.length = n:=by rw [hfar]; simp; omega
   have e1:=yY h hi
   have s1:=HH h (bC:=bC) (i:=i) (d:=-1) (by omega)
   rw [aF]
   simp only [KP,↓reduceIte,Nat.reduceEqDiff,Nat.reduceLT,Int.reduceNeg,g7,g60,g61,hlt,e1,s1,hadd]
   exact next _ _ ⟨_,rfl,by rw [hfar,Pp hi],(by simp +decide only [GS,g0,g3,g5,g7,g60,and_self])⟩
  ·rintro F Y ⟨bC,rfl,hfar,g0,g3,g5,g7,g60,g61⟩
   have hlt:=dQ (Nat.lt_irrefl n)
   have hfar:bC = List.replicate n (-1):=by rw [hfar]; simp
   have e1:=yY h hf
   have s1:=HH h (bC:=bC) (i:=first) (d:=0) (by rw [hfar]; simpa using hf)
   rw [aF]
   simp only [KP,↓reduceIte,Nat.reduceEqDiff,Nat.reduceLT,Int.reduceNeg,g5,g7,g60,g61,hlt,e1,s1]
   refine key (bC.set first 0) ?_ _ ?_ ?_ ?_ ?_
   ·rw [hfar]; exact lT.init hf
   ·exact (by simp +decide only [GS,g0])
   ·exact (by simp +decide only [GS,g3])
   ·exact (by simp +decide only [GS,g5])
   ·exact (by simp +decide only [GS,g7])
theorem Na {rs:List aG} {d:Bool}:∀ i j,gQ rs d i j = true -> i < rs.length /\ j < rs.length:=by
 intro i j hij
 unfold gQ at hij
 split at hij
 ·rename_i r hr
  refine ⟨(List.getElem?_eq_some_iff.1 hr).1,?_⟩
  unfold uD at hij
  rw [Bool.or_eq_true] at hij
  rcases hij with hij | hij
  ·obtain ⟨f,_,hf⟩:=List.any_eq_true.1 hij
   exact BZ (of_decide_eq_true hf)
  ·rw [Bool.and_eq_true] at hij
   obtain ⟨f,_,hf⟩:=List.any_eq_true.1 hij.2
   exact Dv (of_decide_eq_true hf)
 ·cases hij
theorem QF (h:bM E) {a:V} {rs:List aG} (hs:wD rs) (ia:IS dS a rs) (F:FT) (g0:F.get 0 = a)
  (hk:(∃ i,i < rs.length /\ AxS.Way (gQ rs false) i i) -> ∀ Y w l,l ≠ [] -> bD aK 9 Y w l -> K w Y) (hk0:(∀ i,i < rs.length -> ¬ AxS.Way (gQ rs false) i i) -> K .aC []):R E (aA Tryz.f61).code [] ⟨216,F⟩ [] (mI E (aA Tryz.f61).results K):=by
 have la:=cK h ia
 have hle:=hs.len
 have hmn:=Na (rs:=rs) (d:=false)
 have bn:=J3 (Z:=[]) h (a:=a) (ia.ls [] 37) hs false
 generalize hm:gQ rs false = m at *
 generalize hn:rs.length = n at *
 have key:=fun vm (im:IS uQ vm (H_ n m)) o ho F g0 g3 g5 hk hk0=>N4 (K:=K) h hn hle ia im hmn (o:=o) ho F g0 g3 g5 hk hk0
 have d7:=h.Ya
 simp only [aA,Tryz.f61,cutAt,Option.getD_some] at d7
 rw [show (aA Tryz.f61).code = .seq (cutAt [0] (aA Tryz.f61).code) (.seq (cutAt [1,0] (aA Tryz.f61).code) (.seq (cutAt [1,1,0] (aA Tryz.f61).code) (.seq (cutAt [1,1,1,0] (aA Tryz.f61).code) (.seq (cutAt [1,1,1,1,0] (aA Tryz.f61).code) (cutAt [1,1,1,1,1] (aA Tryz.f61).code))))) from rfl]
 generalize cutAt [1,1,1,1,1] (aA Tryz.f61).code = C at *
 simp only [aA,Tryz.f61,KP,↓reduceIte,Nat.reduceLT,reduceCtorEq,Int.reduceNeg,cutAt,g0]
 refine aL bn ?_
 rintro vm σ' ⟨rfl,im⟩
 simp only [KP,↓reduceIte,Nat.reduceLT,Int.reduceNeg]
 refine aL (Oy (Z:=[]) h hle im.is) ?_
 rintro vc σ' ⟨rfl,ic⟩
 have im:=im.is
 have ic:=ic.is
 simp only [KP,↓reduceIte,Nat.reduceLT,Int.reduceNeg]
 refine aR (fun i F Y=>Y = [] /\ F.get 0 = a /\ F.get 3 = vm /\ F.get 4 = vc /\ F.get 6 = .int .i64 (i:Int) /\ ∃ o:Option Nat,F.get 5 = .int .i64 (idx o) /\ ((o = none /\ ∀ j,j < i -> wk m n j j = false) \/ ∃ f,o = some f /\ f < n /\ wk m n f f = true)) n ?_ ?_ n 0 _ _ (by omega) ⟨rfl,(fZ (by simp +decide only [GS,g0,and_self]) ⟨none,(by simp +decide only [GS,mU]),.inl ⟨rfl,fun j hj=>by omega⟩⟩)⟩
 ·rintro i F Y hi ⟨rfl,g0,g3,g4,g6,o,g5,ho⟩ next
  have hlt:=dN hi
  have hadd:=bV i (by omega)
  obtain ⟨u1,rv,u2,e1,e2⟩:=BW h ic hi hi
  obtain ⟨ri,hri⟩:∃ y,rs[i]? = some y:=⟨_,List.getElem?_eq_getElem (by omega)⟩
  obtain ⟨v1,p1,p2,p3,p4,e3,-⟩:=eL h ia hri
  rw [aF]
  cases c1:wk m n i i with
  | false=>
   simp only [KP,↓reduceIte,Nat.reduceEqDiff,Nat.reduceLT,reduceCtorEq,tG h,lX h,g0,g4,g6,la,hlt,e1,e2,c1,hadd,bA d7,bX]
   refine next _ _ ⟨rfl,(fZ (by simp +decide only [GS,g0,g3,g4,and_self]) ⟨o,(by simp +decide only [GS,g5]),ho.imp (fun ⟨h1,h2⟩=>⟨h1,fun j hj=>?_⟩) id⟩)⟩
   rcases Nat.lt_or_ge j i with g | g
   ·exact h2 j g
   ·obtain rfl:j = i:=by omega
    exact c1
  | true=>
   rcases ho with ⟨rfl,-⟩ | ⟨f,rfl,hf,hwf⟩
   ·simp only [KP,↓reduceIte,Nat.reduceEqDiff,Nat.reduceLT,reduceCtorEq,Int.reduceLT,Int.reduceNeg,tG h,lX h,g0,g4,g5,g6,la,hlt,e1,e2,c1,mU,hadd,bA d7,bX]
    exact next _ _ ⟨rfl,(fZ (by simp +decide only [GS,g0,g3,g4,and_self]) ⟨some i,(by simp +decide only [GS,eZ]),.inr ⟨i,rfl,hi,c1⟩⟩)⟩
   ·have c0:decide ((f:Int) < 0) = false:=decide_eq_false (by omega)
    obtain ⟨rf,hrf⟩:∃ y,rs[f]? = some y:=⟨_,List.getElem?_eq_getElem (by omega)⟩
    obtain ⟨v2,q1,q2,q3,q4,e4,-⟩:=eL h ia hrf
    cases c3:Ax.slt ri.name rf.name with
    | true=>
     simp only [KP,↓reduceIte,Nat.reduceEqDiff,Nat.reduceLT,reduceCtorEq,tG h,rI h,lX h,h.cN,h.bI,g0,g4,g5,g6,la,hlt,e1,e2,e3,e4,c1,c0,c3,eZ,hadd,bA d7,bX]
     exact next _ _ ⟨rfl,(fZ (by simp +decide only [GS,g0,g3,g4,and_self]) ⟨some i,(by simp +decide only [GS,eZ]),.inr ⟨i,rfl,hi,c1⟩⟩)⟩
    | false=>
     simp only [KP,↓reduceIte,Nat.reduceEqDiff,Nat.reduceLT,reduceCtorEq,tG h,rI h,lX h,h.cN,h.bI,g0,g4,g5,g6,la,hlt,e1,e2,e3,e4,c1,c0,c3,eZ,hadd,bA d7,bX]
     exact next _ _ ⟨rfl,(fZ (by simp +decide only [GS,g0,g3,g4,and_self]) ⟨some f,(by simp +decide only [GS,g5]),.inr ⟨f,rfl,hf,hwf⟩⟩)⟩
 ·rintro F Y ⟨rfl,g0,g3,g4,g6,o,g5,ho⟩
  have hlt:=dQ (Nat.lt_irrefl n)
  rw [aF]
  simp only [KP,↓reduceIte,Nat.reduceEqDiff,Nat.reduceLT,reduceCtorEq,g0,g6,la,hlt]
  refine key vm im o (fun f hf=>?_) _ ?_ ?_ ?_ (fun ho2=>hk ?_) (fun ho2=>hk0 fun i hi hw=>?_)
  ·rcases ho with ⟨e,-⟩ | ⟨f',e,h1,h2⟩
   ·rw [e] at hf; cases hf
   ·rw [e] at hf; cases hf; exact ⟨h1,Bf h2⟩
  ·exact (by simp +decide only [GS,g0])
  ·exact (by simp +decide only [GS,g3])
  ·exact (by simp +decide only [GS,g5])
  ·rcases ho with ⟨e,-⟩ | ⟨f',e,h1,h2⟩
   ·exact absurd e ho2
   ·exact ⟨f',h1,Bf h2⟩
  ·rcases ho with ⟨-,h1⟩ | ⟨f',e,-⟩
   ·have:=RA hmn hw
    rw [h1 i hi] at this; cases this
   ·rw [e] at ho2; cases ho2
theorem IB (h:bM E) {a:V} {rs:List aG} (ha:LS dS 37 Z a rs) (hs:wD rs):aB E 61 [a] Z fun v σ'=>σ' = Z /\ ∃ l,jZ aK v l /\ ((l ≠ [] /\ ∃ i,i < rs.length /\ AxS.Way (gQ rs false) i i) \/ (l = [] /\ ∀ i,i < rs.length -> ¬ AxS.Way (gQ rs false) i i)):=by
 obtain ⟨a',ea,ia⟩:=eR h ha
 rw [aH h.hs61 h.sp61 h.fn61 h.md61 (args':=[a']) (by simp only [aW,ea]),a_ (by kernel_rfl)]
 refine QF h hs ia _ (by simp +decide only [GS]) (fun hc Y w l hl ow=>?_) fun hc=>?_
 ·obtain ⟨v',e1,hv⟩:=nY h.cN rfl (fun r x hr c hc=>by rw [show r = [.str x] from hr] at hc; cases hc with | head=>rfl | tail _ h=>cases h) ow
  show (match cW Y E.ty false w with
   | some v=>(fun v σ'=>σ' = Z /\ ∃ l,jZ aK v l /\ ((l ≠ [] /\ ∃ i,i < rs.length /\ AxS.Way (gQ rs false) i i) \/ (l = [] /\ ∀ i,i < rs.length -> ¬ AxS.Way (gQ rs false) i i))) v Z
   | none=>False)
  rw [e1]
  exact ⟨rfl,l,hv,.inl ⟨hl,hc⟩⟩
 ·exact ⟨rfl,[],.inl ⟨rfl,rfl⟩,.inr ⟨rfl,hc⟩⟩
end
end
section
section
variable {E:Env} {Z:Sg} {K:V -> Sg -> Prop}
theorem MN {x:aG} {a b c d:V} (h1:IS aK a x.ins) (h2:IS aK b x.outs) (h3:IS aK c x.after) (h4:IS eW d x.steps):Hh (.agg [.str x.name,a,b,c,d]) x:=⟨a,b,c,d,rfl,h1,h2,h3,h4⟩
theorem zI {rs:List aG} {i:Nat} {r:aG} (hr:rs[i]? = some r) (h:bB r ≠ 0) (hp:∀ (j:Nat) (s:aG),j < i -> rs[j]? = some s -> bB s = 0):gA rs = bB r:=by
 have:rs.find? (fun r=>decide (bB r ≠ 0)) = some r:=by
  rw [List.find?_eq_some_iff_getElem]
  refine ⟨decide_eq_true h,i,(List.getElem?_eq_some_iff.1 hr).1,(List.getElem?_eq_some_iff.1 hr).2,fun j hj=>?_⟩
  have hjl:j < rs.length:=by have:=(List.getElem?_eq_some_iff.1 hr).1; omega
  simpa using hp j _ hj (List.getElem?_eq_getElem hjl)
 unfold gA
 rw [this]
theorem xO {rs:List aG} (hp:∀ (j:Nat) (s:aG),rs[j]? = some s -> bB s = 0):gA rs = if 40 < rs.length then 4 else if rV rs = true then 2 else if gC rs = true then 2 else 0:=by
 have:rs.find? (fun r=>decide (bB r ≠ 0)) = none:=by
  rw [List.find?_eq_none]
  intro x hx
  obtain ⟨j,hj,e⟩:=List.getElem_of_mem hx
  simpa using hp j x (by rw [List.getElem?_eq_getElem hj,e])
 unfold gA
 rw [this]
theorem Tz (h:bM E) {a:V} {rs:List aG} (hs:wD rs) (ia:IS dS a rs) (hp0:∀ (j:Nat) (s:aG),rs[j]? = some s -> bB s = 0) (h40:¬ 40 < rs.length) (hcl:rV rs = false) (F:FT) (g0:F.get 0 = a) (hk:∀ e nm,Hl rs e -> K (.fS [.int .i64 e,.str nm]) []):R E (cutAt [1,1,1,1] (aA Tryz.f13).code) [] ⟨110,F⟩ [] (mI E (aA Tryz.f13).results K):=by
 have la:=cK h ia
 have bc:=IB (Z:=[]) h (a:=a) (ia.ls [] 37) hs
 have hE:=xO hp0
 rw [if_neg h40,if_neg (by rw [hcl]; simp)] at hE
 have d27:=h.Ta
 simp only [aA,Tryz.f13,cutAt,Option.getD_some] at d27
 have d31:=h.S_
 simp only [aA,Tryz.f13,cutAt,Option.getD_some] at d31
 rw [show cutAt [1,1,1,1] (aA Tryz.f13).code = .seq (.seq (cutAt [1,1,1,1,0,0] (aA Tryz.f13).code) (.block 6 (.loop (cutAt [1,1,1,1,0,1,2,2] (aA Tryz.f13).code)))) (cutAt [1,1,1,1,1] (aA Tryz.f13).code) from rfl]
 have key:gC rs = false -> ∀ F:FT,F.get 0 = a -> R E (cutAt [1,1,1,1,1] (aA Tryz.f13).code) [] ⟨110,F⟩ [] (mI E (aA Tryz.f13).results K):=fun hst F g0=>by
  rw [if_neg (by rw [hst]; simp)] at hE
  simp only [aA,Tryz.f13,KP,↓reduceIte,Nat.reduceLT,cutAt,g0]
  refine aL bc ?_
  rintro v σ' ⟨rfl,l,il,hl⟩
  have il:=il.is
  have ll:=bL h il
  rcases hl with ⟨hl,hring⟩ | ⟨rfl,hring⟩
  ·obtain ⟨y,r,rfl⟩:=List.exists_cons_of_ne_nil hl
   obtain ⟨g,e1⟩:=fI h il (i:=0) (x:=y) rfl
   have e1:indexAddr E 28 v (.int .i64 0) = some (.dP g [.str y]):=e1
   have c0:decide ((0:Int) < ((r.length + 1:Nat):Int)) = true:=decide_eq_true (by omega)
   simp only [KP,↓reduceIte,Nat.reduceEqDiff,Nat.reduceLT,rI h,ll,c0,e1,bA d31,bX]
   exact hk 3 y (.inr ⟨hE,.inl ⟨hring,rfl⟩⟩)
  ·have c0:decide ((0:Int) < ((([]:List aZ).length:Nat):Int)) = false:=rfl
   simp only [KP,↓reduceIte,Nat.reduceEqDiff,Nat.reduceLT,Int.reduceLT,kS,ll]
   exact hk 0 [] (.inr ⟨hE,.inr ⟨fun ⟨i,h1,h2⟩=>hring i h1 h2,rfl⟩⟩)
 generalize cutAt [1,1,1,1,1] (aA Tryz.f13).code = C at *
 simp only [aA,Tryz.f13,KP,↓reduceIte,Nat.reduceLT,cutAt]
 refine aR (fun i F Y=>Y = [] /\ F.get 0 = a /\ F.get 10 = .int .i64 (i:Int) /\ ∀ j s,j < i -> rs[j]? = some s -> ∀ m ∈ s.after,fN rs m ≠ none) rs.length ?_ ?_ rs.length 0 _ _ (by omega) ⟨rfl,(kX (by simp +decide only [GS,g0,and_self]) (fun j s hj=>by omega))⟩
 ·rintro i F Y hi ⟨rfl,g0,g10,hp⟩ next
  obtain ⟨r,hr⟩:∃ y,rs[i]? = some y:=⟨_,List.getElem?_eq_getElem hi⟩
  have a3:=(hs.all r (List.mem_of_getElem? hr)).after
  obtain ⟨g,p1,p2,p3,p4,e1,i1,i2,i3,i4⟩:=eL h ia hr
  have l3:=bL h i3
  have hlt:=dN hi
  have hadd:=bV i (by omega)
  rw [aF]
  simp only [KP,↓reduceIte,Nat.reduceEqDiff,Nat.reduceLT,reduceCtorEq,JE h,h.aV,h.bI,g0,g10,la,hlt,e1,l3]
  refine aR (fun j F Y=>Y = [] /\ F.get 0 = a /\ F.get 10 = .int .i64 (i:Int) /\ F.get 86 = p3 /\ F.get 87 = .int .i64 (r.after.length:Int) /\ F.get 88 = .int .i64 (j:Int) /\ ∀ q m,q < j -> r.after[q]? = some m -> fN rs m ≠ none) r.after.length ?_ ?_ r.after.length 0 _ _ (by omega) ⟨rfl,(lY (by simp +decide only [GS,g0,g10,and_self]) (fun q m hq=>by omega))⟩
  ·rintro j F Y hj ⟨rfl,g0,g10,g86,g87,g88,hq⟩ next2
   obtain ⟨m,hm⟩:∃ y,r.after[j]? = some y:=⟨_,List.getElem?_eq_getElem hj⟩
   obtain ⟨g,e2⟩:=fI h i3 hm
   have hlt2:=dN hj
   have hadd2:=bV j (by omega)
   have km:=SQ (Z:=[]) h (s:=m) (ia.ls _ 37) (by omega)
   rw [aF]
   cases hat:fN rs m with
   | none=>
    simp only [KP,↓reduceIte,Nat.reduceEqDiff,Nat.reduceLT,reduceCtorEq,Int.reduceLT,Int.reduceNeg,rI h,h.cN,h.bI,g0,g10,g86,g87,g88,hlt2,e1,e2,km,hat,mU,bA d27,bX]
    refine hk 2 _ (.inl ?_)
    have hst:gC rs = true:=by
     unfold gC
     rw [List.any_eq_true]
     exact ⟨r,List.mem_of_getElem? hr,List.any_eq_true.2 ⟨m,List.mem_of_getElem? hm,decide_eq_true hat⟩⟩
    rw [if_pos hst] at hE
    rw [hE]
    exact ⟨by decide,rfl⟩
   | some k=>
    have c0:decide ((k:Int) < 0) = false:=decide_eq_false (by omega)
    simp only [KP,↓reduceIte,Nat.reduceEqDiff,Nat.reduceLT,reduceCtorEq,rI h,g0,g86,g87,g88,hlt2,e2,km,hat,eZ,c0,hadd2]
    refine next2 _ _ ⟨rfl,(lY (by simp +decide only [GS,g0,g10,g86,g87,and_self]) (fun q m' hq2 hm'=>?_))⟩
    rcases Nat.lt_or_ge q j with g | g
    ·exact hq q m' g hm'
    ·obtain rfl:q = j:=by omega
     rw [hm] at hm'; cases hm'; rw [hat]; simp
  ·rintro F Y ⟨rfl,g0,g10,g86,g87,g88,hq⟩
   have hlt2:=dQ (Nat.lt_irrefl r.after.length)
   rw [aF]
   simp only [KP,↓reduceIte,Nat.reduceEqDiff,Nat.reduceLT,g10,g87,g88,hlt2,hadd]
   refine next _ _ ⟨rfl,(kX (by simp +decide only [GS,g0,and_self]) (fun j s hj hs2 m hm=>?_))⟩
   rcases Nat.lt_or_ge j i with g | g
   ·exact hp j s g hs2 m hm
   ·obtain rfl:j = i:=by omega
    rw [hr] at hs2; cases hs2
    obtain ⟨q,hq2,e⟩:=List.getElem_of_mem hm
    exact hq q m hq2 (by rw [List.getElem?_eq_getElem hq2,e])
 ·rintro F Y ⟨rfl,g0,g10,hp⟩
  have hlt:=dQ (Nat.lt_irrefl rs.length)
  rw [aF]
  simp only [KP,↓reduceIte,Nat.reduceEqDiff,Nat.reduceLT,reduceCtorEq,g0,g10,la,hlt]
  refine key ?_ _ (by simp +decide only [GS,g0])
  unfold gC
  rw [List.any_eq_false]
  intro s hs2
  rw [List.any_eq_true]
  rintro ⟨m,hm,e⟩
  obtain ⟨j,hj,e2⟩:=List.getElem_of_mem hs2
  exact hp j s hj (by rw [List.getElem?_eq_getElem hj,e2]) m hm (of_decide_eq_true e)
theorem Lp {rs:List aG} {i:Nat} {r:aG} (hr:rs[i]? = some r):nQ rs i = (decide (∃ k,fN rs r.name = some k /\ k < i) || r.outs.any fun o=>decide (∃ k,eV rs o = some k /\ k < i)):=by
 have first_lt:∀ (p:aG -> Bool) (rs:List aG) (i:Nat),(∃ k,bJ p rs = some k /\ k < i) ↔ ∃ q ∈ rs.take i,p q = true:=by
  intro p rs
  induction rs with
  | nil=>intro i; simp [bJ]
  | cons r rs ih=>
   intro i
   rw [bJ]
   by_cases hp:p r = true
   ·rw [if_pos hp]
    cases i with
    | zero=>simp
    | succ i=>simp [hp]
   ·rw [if_neg hp]
    cases i with
    | zero=>simp
    | succ i=>
     rw [List.take_succ_cons]
     simp only [List.mem_cons,Option.map_eq_some_iff]
     constructor
     ·rintro ⟨k,⟨k',h1,rfl⟩,h2⟩
      obtain ⟨q,hq,hpq⟩:=(ih i).1 ⟨k',h1,by omega⟩
      exact ⟨q,.inr hq,hpq⟩
     ·rintro ⟨q,rfl | hq,hpq⟩
      ·exact absurd hpq hp
      ·obtain ⟨k,h1,h2⟩:=(ih i).2 ⟨q,hq,hpq⟩
       exact ⟨k + 1,⟨k,h1,rfl⟩,by omega⟩
 unfold nQ fN eV
 rw [hr]
 rw [Bool.eq_iff_iff]
 simp only [List.any_eq_true,Bool.or_eq_true,decide_eq_true_eq,first_lt]
 constructor
 ·rintro ⟨q,hq,h1 | ⟨o,ho,h2⟩⟩
  ·exact .inl ⟨q,hq,h1⟩
  ·exact .inr ⟨o,ho,q,hq,h2⟩
 ·rintro (⟨q,hq,h1⟩ | ⟨o,ho,q,hq,h2⟩)
  ·exact ⟨q,hq,.inl h1⟩
  ·exact ⟨q,hq,.inr ⟨o,ho,h2⟩⟩
theorem mW {α:Type} {p:α -> Bool} {l:List α} {x:α} (hx:x ∈ l) (hp:p x = true):∃ k,bJ p l = some k:=by
 cases h:bJ p l with
 | some k=>exact ⟨k,rfl⟩
 | none=>
  have h2:(bJ p l).isSome = true:=by rw [cC,List.any_eq_true]; exact ⟨x,hx,hp⟩
  rw [h] at h2; cases h2
theorem TA (h:bM E) {a:V} {rs:List aG} (hs:wD rs) (ia:IS dS a rs) (hp0:∀ (j:Nat) (s:aG),rs[j]? = some s -> bB s = 0) (h40:¬ 40 < rs.length) (F:FT) (g0:F.get 0 = a) (hk:∀ e nm,Hl rs e -> K (.fS [.int .i64 e,.str nm]) []):R E (cutAt [1,1,1] (aA Tryz.f13).code) [] ⟨110,F⟩ [] (mI E (aA Tryz.f13).results K):=by
 have la:=cK h ia
 have hE:=xO hp0
 have hmem:∀ x ∈ rs,x.outs.length <= 4294967296:=fun x hx=>by have:=(hs.all x hx).outs; omega
 rw [if_neg h40] at hE
 have d19:=h.Tc
 simp only [aA,Tryz.f13,cutAt,Option.getD_some] at d19
 have key:=fun hcl F g0=>Tz (K:=K) h hs ia hp0 h40 hcl F g0 hk
 rw [show cutAt [1,1,1] (aA Tryz.f13).code = .seq (.seq (cutAt [1,1,1,0,0] (aA Tryz.f13).code) (.block 2 (.loop (cutAt [1,1,1,0,1,2,2] (aA Tryz.f13).code)))) (cutAt [1,1,1,1] (aA Tryz.f13).code) from rfl]
 generalize cutAt [1,1,1,1] (aA Tryz.f13).code = C at *
 simp only [aA,Tryz.f13,KP,↓reduceIte,Nat.reduceLT,cutAt]
 refine aR (fun i F Y=>Y = [] /\ F.get 0 = a /\ F.get 6 = .int .i64 (i:Int) /\ ∀ j,j < i -> nQ rs j = false) rs.length ?_ ?_ rs.length 0 _ _ (by omega) ⟨rfl,(kX (by simp +decide only [GS,g0,and_self]) (fun j hj=>by omega))⟩
 ·rintro i F Y hi ⟨rfl,g0,g6,hp⟩ next
  obtain ⟨r,hr⟩:∃ y,rs[i]? = some y:=⟨_,List.getElem?_eq_getElem hi⟩
  have hrm:=List.mem_of_getElem? hr
  have a3:=(hs.all r hrm).outs
  obtain ⟨g,p1,p2,p3,p4,e1,i1,i2,i3,i4⟩:=eL h ia hr
  have l2:=bL h i2
  have hlt:=dN hi
  have hadd:=bV i (by omega)
  obtain ⟨k1,hk1⟩:=mW (p:=fun q:aG=>decide (q.name = r.name)) hrm (decide_eq_true rfl)
  have hk1:fN rs r.name = some k1:=hk1
  have km:=SQ (Z:=[]) h (s:=r.name) (ia.ls _ 37) (by omega)
  have hcl:=Lp hr
  rw [show decide (∃ k,fN rs r.name = some k /\ k < i) = decide (k1 < i) by rw [hk1]; simp] at hcl
  have hb:decide ((k1:Int) < (i:Int)) = decide (k1 < i):=by rw [Bool.eq_iff_iff,decide_eq_true_eq,decide_eq_true_eq]; omega
  rw [aF]
  simp only [KP,↓reduceIte,Nat.reduceEqDiff,Nat.reduceLT,reduceCtorEq,rI h,JE h,h.cN,h.aV,h.bI,g0,g6,la,hlt,e1,l2,km,hk1,eZ,hb]
  refine aR (fun j F Y=>Y = [] /\ F.get 0 = a /\ F.get 6 = .int .i64 (i:Int) /\ F.get 55 = p2 /\ F.get 56 = .int .i64 (r.outs.length:Int) /\ F.get 57 = .int .i64 (j:Int) /\ F.get 7 = .bool (decide (k1 < i) || (r.outs.take j).any fun o=>decide (∃ k,eV rs o = some k /\ k < i))) r.outs.length ?_ ?_ r.outs.length 0 _ _ (by omega) ⟨rfl,(lY (by simp +decide only [GS,g0,g6,and_self]) (by simp [FT.jO]))⟩
  ·rintro j F Y hj ⟨rfl,g0,g6,g55,g56,g57,g7⟩ next2
   obtain ⟨m,hm⟩:∃ y,r.outs[j]? = some y:=⟨_,List.getElem?_eq_getElem hj⟩
   have hmm:=List.mem_of_getElem? hm
   obtain ⟨g,e2⟩:=fI h i2 hm
   have hlt2:=dN hj
   have hadd2:=bV j (by omega)
   obtain ⟨k2,hk2⟩:=mW (p:=fun q:aG=>decide (m ∈ q.outs)) hrm (decide_eq_true hmm)
   have hk2:eV rs m = some k2:=hk2
   have kk:=JK (Z:=[]) h (s:=m) (ia.ls _ 37) hmem (by omega)
   have hb2:decide ((k2:Int) < (i:Int)) = decide (k2 < i):=by rw [Bool.eq_iff_iff,decide_eq_true_eq,decide_eq_true_eq]; omega
   have hnew:=oS (p:=fun o=>decide (∃ k,eV rs o = some k /\ k < i)) hm
   rw [show decide (∃ k,eV rs m = some k /\ k < i) = decide (k2 < i) by rw [hk2]; simp] at hnew
   rw [aF]
   cases hbad:(decide (k1 < i) || (r.outs.take j).any fun o=>decide (∃ k,eV rs o = some k /\ k < i)) with
   | true=>
    rw [hbad] at g7
    simp only [KP,↓reduceIte,Nat.reduceEqDiff,Nat.reduceLT,rI h,g55,g56,g57,g7,hlt2,e2,hadd2]
    refine next2 _ _ ⟨rfl,(lY (by simp +decide only [GS,g0,g6,g55,g56,and_self]) ?_)⟩
    rw [hnew,<- Bool.or_assoc,hbad]
    simp only [FT.jO,Nat.reduceEqDiff,↓reduceIte,Bool.true_or]
   | false=>
    rw [hbad] at g7
    simp only [KP,↓reduceIte,Nat.reduceEqDiff,Nat.reduceLT,reduceCtorEq,rI h,g0,g6,g55,g56,g57,g7,hlt2,e2,kk,hk2,eZ,hb2,hadd2]
    refine next2 _ _ ⟨rfl,(lY (by simp +decide only [GS,g0,g6,g55,g56,and_self]) ?_)⟩
    rw [hnew,<- Bool.or_assoc,hbad]
    simp only [FT.jO,Nat.reduceEqDiff,↓reduceIte,Bool.false_or]
  ·rintro F Y ⟨rfl,g0,g6,g55,g56,g57,g7⟩
   have hlt2:=dQ (Nat.lt_irrefl r.outs.length)
   rw [List.take_of_length_le (Nat.le_refl _),<- hcl] at g7
   rw [aF]
   cases hc:nQ rs i with
   | true=>
    rw [hc] at g7
    simp only [KP,↓reduceIte,Nat.reduceEqDiff,Nat.reduceLT,reduceCtorEq,rI h,h.cN,h.bI,g0,g6,g56,g57,g7,hlt2,e1,bA d19,bX]
    refine hk 2 _ (.inl ?_)
    have hst:rV rs = true:=by
     unfold rV
     rw [List.any_eq_true]
     exact ⟨i,List.mem_range.2 hi,hc⟩
    rw [if_pos hst] at hE
    rw [hE]
    exact ⟨by decide,rfl⟩
   | false=>
    rw [hc] at g7
    simp only [KP,↓reduceIte,Nat.reduceEqDiff,Nat.reduceLT,g6,g56,g57,g7,hlt2,hadd]
    refine next _ _ ⟨rfl,(kX (by simp +decide only [GS,g0,and_self]) (fun j hj=>?_))⟩
    rcases Nat.lt_or_ge j i with g | g
    ·exact hp j g
    ·obtain rfl:j = i:=by omega
     exact hc
 ·rintro F Y ⟨rfl,g0,g6,hp⟩
  have hlt:=dQ (Nat.lt_irrefl rs.length)
  rw [aF]
  simp only [KP,↓reduceIte,Nat.reduceEqDiff,Nat.reduceLT,reduceCtorEq,g0,g6,la,hlt]
  refine key ?_ _ (by simp +decide only [GS,g0])
  unfold rV
  rw [List.any_eq_false]
  intro i hi
  rw [hp i (List.mem_range.1 hi)]; simp
theorem Rb (h:bM E) {a:V} {rs:List aG} (hs:wD rs) (ia:IS dS a rs) (F:FT) (g0:F.get 0 = a) (hk:∀ e nm,Hl rs e -> K (.fS [.int .i64 e,.str nm]) []):R E (aA Tryz.f13).code [] ⟨110,F⟩ [] (mI E (aA Tryz.f13).results K):=by
 have la:=cK h ia
 have hle:=hs.len
 have d6:=h.Yg
 simp only [aA,Tryz.f13,cutAt,Option.getD_some] at d6
 have key:=fun hp0 h40 F g0=>TA (K:=K) h hs ia hp0 h40 F g0 hk
 rw [show (aA Tryz.f13).code = .seq (cutAt [0] (aA Tryz.f13).code) (.seq (cutAt [1,0] (aA Tryz.f13).code) (.seq (cutAt [1,1,0] (aA Tryz.f13).code) (cutAt [1,1,1] (aA Tryz.f13).code))) from rfl]
 generalize cutAt [1,1,1] (aA Tryz.f13).code = C at *
 simp only [aA,Tryz.f13,KP,↓reduceIte,Nat.reduceLT,kS,cutAt]
 refine aR (fun i F Y=>Y = [] /\ F.get 0 = a /\ F.get 4 = .int .i64 (i:Int) /\ ∀ (j:Nat) (s:aG),j < i -> rs[j]? = some s -> bB s = 0) rs.length ?_ ?_ rs.length 0 _ _ (by omega) ⟨rfl,(kX (by simp +decide only [GS,g0,and_self]) (fun j s hj=>by omega))⟩
 ·rintro i F Y hi ⟨rfl,g0,g4,hp⟩ next
  obtain ⟨r,hr⟩:∃ y,rs[i]? = some y:=⟨_,List.getElem?_eq_getElem hi⟩
  have hrs:=hs.all r (List.mem_of_getElem? hr)
  obtain ⟨g,p1,p2,p3,p4,e1,i1,i2,i3,i4⟩:=eL h ia hr
  have hlt:=dN hi
  have hadd:=bV i (by omega)
  have kr:=KW (Z:=[]) h (MN i1 i2 i3 i4) hrs
  rw [aF]
  by_cases he:bB r = 0
  ·have c0:decide (bB r = 0) = true:=decide_eq_true he
   simp only [KP,↓reduceIte,Nat.reduceEqDiff,Nat.reduceLT,reduceCtorEq,Rq h,g0,g4,la,hlt,e1,kr,c0,hadd]
   refine next _ _ ⟨rfl,(kX (by simp +decide only [GS,g0,and_self]) (fun j s hj hs2=>?_))⟩
   rcases Nat.lt_or_ge j i with g | g
   ·exact hp j s g hs2
   ·obtain rfl:j = i:=by omega
    rw [hr] at hs2; cases hs2; exact he
  ·have c0:decide (bB r = 0) = false:=decide_eq_false he
   simp only [KP,↓reduceIte,Nat.reduceEqDiff,Nat.reduceLT,reduceCtorEq,rI h,Rq h,h.cN,h.bI,g0,g4,la,hlt,e1,kr,c0,bA d6,bX]
   exact hk _ _ (.inl ⟨by rw [zI hr he hp]; exact he,(zI hr he hp).symm⟩)
 ·rintro F Y ⟨rfl,g0,g4,hp⟩
  have hlt:=dQ (Nat.lt_irrefl rs.length)
  have hp0:∀ (j:Nat) (s:aG),rs[j]? = some s -> bB s = 0:=fun j s hs2=>hp j s (List.getElem?_eq_some_iff.1 hs2).1 hs2
  rw [aF]
  by_cases h40:40 < rs.length
  ·have c0:decide ((40:Int) < (rs.length:Int)) = true:=decide_eq_true (by omega)
   simp only [KP,↓reduceIte,Nat.reduceEqDiff,Nat.reduceLT,reduceCtorEq,kS,g0,g4,la,hlt,c0]
   refine hk 4 _ (.inl ?_)
   rw [xO hp0,if_pos h40]
   exact ⟨by decide,rfl⟩
  ·have c0:decide ((40:Int) < (rs.length:Int)) = false:=decide_eq_false (by omega)
   simp only [KP,↓reduceIte,Nat.reduceEqDiff,Nat.reduceLT,reduceCtorEq,g0,g4,la,hlt,c0]
   exact key hp0 h40 _ (by simp +decide only [GS,g0])
theorem Oh (h:bM E) {a:V} {rs:List aG} (ha:LS dS 37 Z a rs) (hs:wD rs):aB E 13 [a] Z fun v σ'=>σ' = Z /\ ∃ e nm,v = .fS [.int .i64 e,.str nm] /\ Hl rs e:=by
 obtain ⟨a',ea,ia⟩:=eR h ha
 rw [aH h.hs13 h.Mx h.fn13 h.md13 (args':=[a']) (by simp only [aW,ea]),a_ (by kernel_rfl)]
 exact Rb h hs ia _ (by simp +decide only [GS]) fun e nm he=>⟨rfl,e,nm,rfl,he⟩
end
end
section
section
variable {E:Env} {Z:Sg} {K:V -> Sg -> Prop}
def f_:Lay AxS.Step:=⟨fun r x=>∃ a l,r = [.str x.out,.int .i64 x.op,a,l,.int .i64 x.n] /\ jZ aK a x.args /\ jZ aK l x.lits,5,fun _ _ ⟨_,_,h,_⟩=>by rw [h]; rfl,fun _ _ ⟨a,l,h,h1,h2⟩ c hc=>by
 rw [h] at hc
 simp only [List.mem_cons,List.not_mem_nil,or_false] at hc
 rcases hc with rfl | rfl | rfl | rfl | rfl
 ·rfl
 ·rfl
 ·exact h1.is.bE
 ·exact h2.is.bE
 ·rfl⟩
theorem HF:∀ r x,f_.P r x -> ∀ c ∈ r,cP false c = true:=fun r x ⟨a,l,h,h1,h2⟩ c hc=>by
 rw [h] at hc
 simp only [List.mem_cons,List.not_mem_nil,or_false] at hc
 rcases hc with rfl | rfl | rfl | rfl | rfl
 ·rfl
 ·rfl
 ·exact h1.tag
 ·exact h2.tag
 ·rfl
theorem Fx:∀ r x,aK.P r x -> ∀ c ∈ r,cP false c = true:=fun r x hr c hc=>by
 rw [show r = [.str x] from hr] at hc
 cases hc with
 | head=>rfl
 | tail _ h=>cases h
theorem xY (h:bM E) {v:V} {l:List aZ} (iv:IS aK v l) (hl:l.length <= 8796093022208):∃ w Y v',Ax.append E [] #[28,28] .aC v = some (w,Y) /\ cW Y E.ty false w = some v' /\ jZ aK v' l:=by
 obtain ⟨rs,e,ha⟩:=qN iv []
 have hr:pM l.length 16 = true:=by
  unfold pM
  rw [decide_eq_true_eq]
  exact Nat.le_trans (Nat.mul_le_mul_right 17 hl) (by decide)
 obtain ⟨w,Y,h1,h2⟩:=OJ (ats:=#[28,28]) h.aV rfl h.cN rfl (by decide) (jE h) rfl e ha hr
 obtain ⟨v',h3,h4⟩:=nY h.cN rfl Fx h2
 exact ⟨w,Y,v',h1,h3,h4⟩
theorem iT {c:V} (h:Ax.bE c = true):c.cells = [c]:=by cases c <;> first | rfl | cases h
theorem Dn (Z:Sg):aY Z E.ty true .aC = some .aC:=rfl
theorem QK (h:bM E) {x:aG} {a b c d:V} (ia:IS aK a x.ins) (ib:IS aK b x.outs) (ic:IS aK c x.after) (hx:Ys x) {Y:Sg} {n0:Nat} (b0:Y[n0]? = some (O.cells 37 [.str x.name,a,b,c,d] true)) (F:FT) (g1:F.get 1 = .ref n0 0) (g2:F.get 2 = .ref (n0 + 1) 0) :
  ∃ F' a' b' c',cI E (ev E 0) (opsOf (cutAt [1,0] (aA Tryz.f78).code)) ⟨45,F⟩ Y = some (⟨45,F'⟩,Y ++ [O.cells 37 [.str x.name,a',b',c',.aC] true]) /\ F'.get 1 = .ref n0 0 /\ F'.get 2 = .ref (n0 + 1) 0 /\ F'.get 3 = .ref Y.length 0 /\ jZ aK a' x.ins /\ jZ aK b' x.outs /\ jZ aK c' x.after:=by
 have a1:=hx.ins
 have a2:=hx.outs
 have a3:=hx.after
 obtain ⟨w1,τ1,a',h1,k1,i1⟩:=xY h ia (by omega)
 obtain ⟨w2,τ2,b',h2,k2,i2⟩:=xY h ib (by omega)
 obtain ⟨w3,τ3,c',h3,k3,i3⟩:=xY h ic (by omega)
 have s1:=fun Z=>lA (E:=E) ia Z
 have s2:=fun Z=>lA (E:=E) ib Z
 have s3:=fun Z=>lA (E:=E) ic Z
 have v1:=cA 10 ia
 have v2:=cA 10 ib
 have v3:=cA 10 ic
 have u1:=cA 10 i1.is
 have u2:=cA 10 i2.is
 have u3:=cA 10 i3.is
 have o1:=aJ i1.is.bE
 have o2:=aJ i2.is.bE
 have o3:=aJ i3.is.bE
 have n1:=iT i1.is.bE
 have n2:=iT i2.is.bE
 have n3:=iT i3.is.bE
 have b0':=aP (x:=O.cells 37 [.str [],.aC,.aC,.aC,.aC] true) b0
 have vs:=zT 11 x.name
 unfold cI
 rw [h.TI,h.Ve]
 simp only [aA,Tryz.f78,KP,Ax.loadAt,Ax.storeAt,↓reduceIte,Nat.reduceEqDiff,Nat.reduceLT,Nat.reduceAdd,reduceCtorEq,h.cN,h.aV,h.fF,h.bI,opsOf,cutAt,Fz.apps,iC,bK,bZ,kD,Ax.comp,Ax.last,iG,Ax.again,tR,aW,Ax.fill,Ax.placeOf,g1,b0,b0',h1,h2,h3,k1,k2,k3,s1,s2,s3,v1,v2,v3,u1,u2,u3,o1,o2,o3,vs,n1,n2,n3,Dn,aN,cF]
 exact ⟨_,a',b',c',rfl,(fE (by simp +decide only [GS,g1,g2,and_self]) ⟨i1,i2,i3⟩)⟩
def Kp (Z Y:Sg):Prop:=∀ (c:Nat) (o:O),Z[c]? = some o -> Y[c]? = some o
theorem QL (h:bM E) {x:aG} {a b c d:V} (ia:IS aK a x.ins) (ib:IS aK b x.outs) (ic:IS aK c x.after) (hx:Ys x) {Y:Sg} {n0:Nat} (b0:Y[n0]? = some (O.cells 37 [.str x.name,a,b,c,d] true)) (F:FT) (g1:F.get 1 = .ref n0 0) (g2:F.get 2 = .ref (n0 + 1) 0) {st:List kH} {Q:Ax.X -> Fr -> Sg -> Prop}
  (hk:∀ F' a' b' c',F'.get 1 = .ref n0 0 -> F'.get 2 = .ref (n0 + 1) 0 -> F'.get 3 = .ref Y.length 0 -> jZ aK a' x.ins -> jZ aK b' x.outs -> jZ aK c' x.after -> M E st .normal ⟨45,F'⟩ (Y ++ [O.cells 37 [.str x.name,a',b',c',.aC] true]) Q) :
  R E (.region 1 (opsOf (cutAt [1,0] (aA Tryz.f78).code)) true) st ⟨45,F⟩ Y Q:=by
 obtain ⟨F',a',b',c',hE,h1,h2,h3,h4,h5,h6⟩:=QK h ia ib ic hx b0 F g1 g2
 exact Eq.mpr (iZ hE) (hk F' a' b' c' h1 h2 h3 h4 h5 h6)
end
end
section
section
variable {E:Env} {Z:Sg} {K:V -> Sg -> Prop}
theorem sY {α:Type} {L:Lay α} {t u k:Nat} {Y:Sg} {w:V} {l:List α} {cs:List V} {ex:Bool} (hb:Y[k]? = some (.cells u cs ex)) (hu:u ≠ t) (ow:bD L t Y w l):aT w ≠ some k:=by
 rcases ow with ⟨rfl,-⟩ | ⟨b,rs,ex,rfl,hc,-⟩
 ·intro e; cases e
 ·intro e; cases e; rw [hb] at hc; cases hc; exact hu rfl
theorem p_ {α:Type} {L:Lay α} {t:Nat} {Y:Sg} {w:V} {l:List α} (ow:bD L t Y w l):w.cells = [w] /\ w.aX = true:=by
 rcases ow with ⟨rfl,-⟩ | ⟨b,rs,ex,rfl,-⟩ <;> exact ⟨rfl,rfl⟩
theorem tZ {Y:Sg} {i:Nat} {x y:O} (h:Y[i]? = some y):(Y.set i x)[i]? = some x:=List.getElem?_set_self (List.getElem?_eq_some_iff.1 h).1
theorem pL {Y:Sg} {i j:Nat} {x y:O} (h:Y[j]? = some y) (hij:i ≠ j):(Y.set i x)[j]? = some y:=by rw [List.getElem?_set_ne hij]; exact h
theorem QJ (h:bM E) {s:AxS.Step} {p q:V} (ip:IS aK p s.args) (iq:IS aK q s.lits) (hp:s.args.length <= 8796093022208) (hq:s.lits.length <= 8796093022208) {Y:Sg} (F:FT) (g5:F.get 5 = .ref Y.length 0) {st:List kH} {Q:Ax.X -> Fr -> Sg -> Prop}
  (hk:∀ F' p' q',(∀ i,i < 30 -> F'.get i = F.get i) -> jZ aK p' s.args -> jZ aK q' s.lits -> M E st .normal ⟨45,F'⟩ (Y ++ [O.cells 75 [.str s.out,.int .i64 s.op,p',q',.int .i64 s.n] true]) Q):R E (.region 6 (opsOf (cutAt [1,1,0,1,2,2,1,0,2,1,0] (aA Tryz.f78).code)) true) st ⟨45,F⟩ (Y ++ [O.cells 75 [.str s.out,.int .i64 s.op,p,q,.int .i64 s.n] true]) Q:=by
 obtain ⟨w1,τ1,p',h1,k1,i1⟩:=xY h ip (by omega)
 obtain ⟨w2,τ2,q',h2,k2,i2⟩:=xY h iq (by omega)
 have s1:=fun Z=>lA (E:=E) ip Z
 have s2:=fun Z=>lA (E:=E) iq Z
 have o1:=aJ i1.is.bE
 have o2:=aJ i2.is.bE
 have n1:=iT i1.is.bE
 have n2:=iT i2.is.bE
 have key:∃ F',cI E (ev E 0) (opsOf (cutAt [1,1,0,1,2,2,1,0,2,1,0] (aA Tryz.f78).code)) ⟨45,F⟩ (Y ++ [O.cells 75 [.str s.out,.int .i64 s.op,p,q,.int .i64 s.n] true]) = some (⟨45,F'⟩,Y ++ [O.cells 75 [.str s.out,.int .i64 s.op,p',q',.int .i64 s.n] true]) /\ ∀ i,i < 30 -> F'.get i = F.get i:=by
  unfold cI
  rw [h.TH,h.Vd]
  simp only [aA,Tryz.f78,KP,Ax.loadAt,Ax.storeAt,↓reduceIte,Nat.reduceEqDiff,Nat.reduceLT,Nat.reduceLeDiff,Nat.reduceAdd,reduceCtorEq,h.aV,h.cO,opsOf,cutAt,Fz.apps,bK,bZ,kD,Ax.comp,tR,fW,aW,g5,h1,h2,k1,k2,s1,s2,o1,o2,n1,n2,Dn,aN,cF]
  refine ⟨_,rfl,fun i hi=>?_⟩
  simp only [FT.jO]
  repeat rw [if_neg (by omega)]
 obtain ⟨F',hE,hF⟩:=key
 exact Eq.mpr (iZ hE) (hk F' p' q' hF i1 i2)
theorem OI (h:bM E) {Y:Sg} {w:V} {l:List AxS.Step} {s:AxS.Step} {p q:V} (ow:bD f_ 75 Y w l) (ip:jZ aK p s.args) (iq:jZ aK q s.lits) (hb:l.length <= 1000):∃ w' τ',Ax.append E (Y ++ [O.cells 75 [.str s.out,.int .i64 s.op,p,q,.int .i64 s.n] true]) #[35,35] w (.sl Y.length 0 1 none) = some (w',τ') /\ bD f_ 75 τ' w' (l ++ [s]) /\ Sp (Y ++ [O.cells 75 [.str s.out,.int .i64 s.op,p,q,.int .i64 s.n] true]) τ' w /\ Y.length <= τ'.length /\ ∀ b,aT w' = some b -> aT w = some b \/ Y.length <= b:=by
 obtain ⟨w',τ',h1,h2,h3,h4,h5⟩:=jR (m:=[s]) (new:=[[.str s.out,.int .i64 s.op,p,q,.int .i64 s.n]]) h.fF rfl h.cO rfl (by decide) (Ac h) rfl (ow.app [O.cells 75 [.str s.out,.int .i64 s.op,p,q,.int .i64 s.n] true]) (mE rfl) (.one ⟨p,q,rfl,ip,iq⟩) (eS (b:=1001) (by decide) (by simp only [List.length_cons,List.length_nil]; omega))
 refine ⟨w',τ',h1,h2,h3,?_,fun b e=>?_⟩
 ·simp only [List.length_append,List.length_cons,List.length_nil] at h4; omega
 ·rcases h5 b e with g | g
  ·exact .inl g
  ·simp only [List.length_append,List.length_cons,List.length_nil] at g; exact .inr (by omega)
def Yt (Y:Sg) (lo:Nat) (v:V) (x:aG):Prop:=∃ a b c w,v = .agg [.str x.name,a,b,c,w] /\ jZ aK a x.ins /\ jZ aK b x.outs /\ jZ aK c x.after /\ bD f_ 75 Y w x.steps /\ ∀ b,aT w = some b -> lo <= b
theorem Tu (h:bM E) {v:V} {x:aG} (hv:Hh v x) (hx:Ys x):aB E 78 [v] Z fun v' Y=>Yt Y Z.length v' x /\ Kp Z Y:=by
 obtain ⟨a,b,c,d,rfl,ia,ib,ic,id⟩:=hv
 have a4:=hx.steps
 have ha:=aJ ia.bE
 have hb:=aJ ib.bE
 have hc:=aJ ic.bE
 have hd:=aJ id.bE
 have ld:=kW h id
 rw [dA h.hs78 h.sp78 h.fn78 h.md78,a_ (by kernel_rfl)]
 simp only [aA,Tryz.f78,KP,↓reduceIte,Nat.reduceLT,Nat.reduceAdd,h.bI,ha,hb,hc,hd]
 have hlen:(Z ++ [O.cells 37 [.str x.name,a,b,c,d] true]).length = Z.length + 1:=by simp
 have b0:(Z ++ [O.cells 37 [.str x.name,a,b,c,d] true] ++ [O.cells 37 [.str [],.aC,.aC,.aC,.aC] true])[Z.length]? = some (O.cells 37 [.str x.name,a,b,c,d] true):=aP aN
 have z0:(Z ++ [O.cells 37 [.str x.name,a,b,c,d] true] ++ [O.cells 37 [.str [],.aC,.aC,.aC,.aC] true])[Z.length + 1]? = some (O.cells 37 [.str [],.aC,.aC,.aC,.aC] true):=by rw [<- hlen]; exact aN
 have kp:Kp Z (Z ++ [O.cells 37 [.str x.name,a,b,c,d] true] ++ [O.cells 37 [.str [],.aC,.aC,.aC,.aC] true]):=fun c o e=>aP (aP e)
 have hl2:(Z ++ [O.cells 37 [.str x.name,a,b,c,d] true] ++ [O.cells 37 [.str [],.aC,.aC,.aC,.aC] true]).length = Z.length + 2:=by simp
 simp only [hlen]
 generalize Z ++ [O.cells 37 [.str x.name,a,b,c,d] true] ++ [O.cells 37 [.str [],.aC,.aC,.aC,.aC] true] = Y at *
 refine QL h ia ib ic hx b0 _ ?_ ?_ ?_
 ·exact (by simp +decide only [GS])
 ·exact (by simp +decide only [GS])
 intro F1 a' b' c' g1 g2 g3 i1 i2 i3
 simp only [KP,↓reduceIte,Nat.reduceLT]
 have b1:=aP (x:=O.cells 37 [.str x.name,a',b',c',.aC] true) b0
 have z1:=aP (x:=O.cells 37 [.str x.name,a',b',c',.aC] true) z0
 have kp1:Kp Z (Y ++ [O.cells 37 [.str x.name,a',b',c',.aC] true]):=fun c o e=>aP (kp c o e)
 have x1:(Y ++ [O.cells 37 [.str x.name,a',b',c',.aC] true])[Y.length]? = some (O.cells 37 [.str x.name,a',b',c',.aC] true):=aN
 rw [hl2] at x1 g3
 generalize Y ++ [O.cells 37 [.str x.name,a',b',c',.aC] true] = Y at *
 refine aR (fun i F Y=>Y[Z.length]? = some (O.cells 37 [.str x.name,a,b,c,d] true) /\ Y[Z.length + 1]? = some (O.cells 37 [.str [],.aC,.aC,.aC,.aC] true) /\ Kp Z Y /\ F.get 1 = .ref Z.length 0 /\ F.get 2 = .ref (Z.length + 1) 0 /\ F.get 3 = .ref (Z.length + 2) 0 /\ F.get 4 = .int .i64 (i:Int) /\ ∃ w,Y[Z.length + 2]? = some (O.cells 37 [.str x.name,a',b',c',w] true) /\ bD f_ 75 Y w (x.steps.take i) /\ ∀ b,aT w = some b -> Z.length <= b) x.steps.length ?_ ?_ x.steps.length 0 _ _ (by omega) ⟨b1,z1,kp1,(fZ (by simp +decide only [GS,g1,g2,g3,and_self]) ⟨.aC,x1,.inl ⟨rfl,rfl⟩,fun b e=>by cases e⟩)⟩
 ·rintro i F Y hi ⟨b0,z0,kp,g1,g2,g3,g4,w,x0,ow,hw⟩ next
  obtain ⟨s,hst⟩:∃ y,x.steps[i]? = some y:=⟨_,List.getElem?_eq_getElem hi⟩
  have hmem:=List.mem_of_getElem? hst
  have a5:=hx.args s hmem
  have a6:=hx.lits s hmem
  obtain ⟨g,p,q,e1,ip,iq⟩:=uH h id hst
  have hop:=aJ ip.bE
  have hoq:=aJ iq.bE
  have hlt:=dN hi
  have hadd:=bV i (by omega)
  rw [aF]
  simp only [KP,Ax.loadAt,Ax.storeAt,↓reduceIte,Nat.reduceEqDiff,Nat.reduceLT,Nat.reduceAdd,reduceCtorEq,h.fF,h.bI,h.cO,g1,g4,b0,ld,hlt,e1,hop,hoq,aN,cF]
  refine QJ h ip iq (by omega) (by omega) _ ?_ ?_
  ·exact (by simp +decide only [GS])
  intro F2 p' q' hF ip' iq'
  have k1:F2.get 1 = .ref Z.length 0:=by rw [hF 1 (by omega)]; exact (by simp +decide only [GS,g1])
  have k2:F2.get 2 = .ref (Z.length + 1) 0:=by rw [hF 2 (by omega)]; exact (by simp +decide only [GS,g2])
  have k3:F2.get 3 = .ref (Z.length + 2) 0:=by rw [hF 3 (by omega)]; exact (by simp +decide only [GS,g3])
  have k4:F2.get 4 = .int .i64 (i:Int):=by rw [hF 4 (by omega)]; exact (by simp +decide only [GS,g4])
  have k5:F2.get 5 = .ref Y.length 0:=by rw [hF 5 (by omega)]; exact (by simp +decide only [GS])
  have hop':=aJ ip'.is.bE
  have hoq':=aJ iq'.is.bE
  have b1:=aP (x:=O.cells 75 [.str s.out,.int .i64 s.op,p',q',.int .i64 s.n] true) b0
  have z1:=aP (x:=O.cells 75 [.str s.out,.int .i64 s.op,p',q',.int .i64 s.n] true) z0
  have x1:=aP (x:=O.cells 75 [.str s.out,.int .i64 s.op,p',q',.int .i64 s.n] true) x0
  have s1:(Y ++ [O.cells 75 [.str s.out,.int .i64 s.op,p',q',.int .i64 s.n] true])[Y.length]? = some (O.cells 75 [.str s.out,.int .i64 s.op,p',q',.int .i64 s.n] true):=aN
  have ow1:=ow.app [O.cells 75 [.str s.out,.int .i64 s.op,p',q',.int .i64 s.n] true]
  have kp1:Kp Z (Y ++ [O.cells 75 [.str s.out,.int .i64 s.op,p',q',.int .i64 s.n] true]):=fun c o e=>aP (kp c o e)
  have hle:Z.length <= (Y ++ [O.cells 75 [.str s.out,.int .i64 s.op,p',q',.int .i64 s.n] true]).length:=by
   have:=(List.getElem?_eq_some_iff.1 b1).1; omega
  generalize Y ++ [O.cells 75 [.str s.out,.int .i64 s.op,p',q',.int .i64 s.n] true] = τ2 at *
  generalize Y.length = y at *
  obtain ⟨w',τ3,ha3,ow3,Mn,hl3,hb3⟩:=OI (s:=s) h ow1 ip' iq' (by rw [List.length_take]; omega)
  have x3:=Mn _ _ (aP x1) (sY x1 (by decide) ow1)
  have b3:=Mn _ _ (aP b1) (sY b1 (by decide) ow1)
  have z3:=Mn _ _ (aP z1) (sY z1 (by decide) ow1)
  have kp3:Kp Z τ3:=fun c o e=>Mn _ _ (aP (kp1 c o e)) (fun e2=>by
   have:=hw c e2
   have:=(List.getElem?_eq_some_iff.1 e).1
   omega)
  obtain ⟨hc1,hc2⟩:=p_ ow3
  simp only [KP,Ax.loadAt,Ax.storeAt,↓reduceIte,Nat.reduceEqDiff,Nat.reduceLT,Nat.reduceLeDiff,Nat.reduceAdd,Nat.reduceMul,reduceCtorEq,h.fF,h.bI,h.cO,k3,k4,k5,x1,x3,s1,ha3,hadd,hc1,hc2,hop',hoq',Ax.fill,gK,Nat.zero_mul]
  refine next _ _ ⟨pL b3 (by omega),pL z3 (by omega),fun c o e=>pL (kp3 c o e) (by have:=(List.getElem?_eq_some_iff.1 e).1; omega),(fZ (by simp +decide only [GS,k1,k2,k3,and_self]) ⟨w',tZ x3,?_,fun b e=>?_⟩)⟩
  ·have e:x.steps.take (i + 1) = x.steps.take i ++ [s]:=by rw [List.take_add_one,hst]; rfl
   rw [e]
   refine ow3.keep fun c o hc ho=>pL ho ?_
   intro e2
   rw [<- e2] at hc
   exact sY x3 (by decide) ow3 hc
  ·rcases hb3 b e with g | g
   ·exact hw b g
   ·omega
 ·rintro F Y ⟨b0,z0,kp,g1,g2,g3,g4,w,x0,ow,hw⟩
  have hlt:=dQ (Nat.lt_irrefl x.steps.length)
  obtain ⟨hc1,hc2⟩:=p_ ow
  have o1:=aJ i1.is.bE
  have o2:=aJ i2.is.bE
  have o3:=aJ i3.is.bE
  have zz:=tZ (x:=O.cells 37 [.str x.name,a',b',c',w] true) z0
  rw [List.take_of_length_le (Nat.le_refl _)] at ow
  rw [aF]
  simp only [KP,Ax.loadAt,Ax.storeAt,↓reduceIte,Nat.reduceEqDiff,Nat.reduceLT,Nat.reduceAdd,reduceCtorEq,h.fF,h.bI,g1,g2,g3,g4,b0,x0,z0,zz,ld,hlt,hc2,o1,o2,o3]
  refine ⟨⟨a',b',c',w,rfl,i1,i2,i3,ow.keep fun c o hc ho=>pL ho ?_,hw⟩,fun c o e=>pL (kp c o e) (by have:=(List.getElem?_eq_some_iff.1 e).1; omega)⟩
  intro e2
  rw [<- e2] at hc
  exact sY z0 (by decide) ow hc
end
end
section
section
variable {E:Env} {Z:Sg} {K:V -> Sg -> Prop}
theorem DM (n k:Nat):iV false .i64 (n:Int) [.int .i64 (k:Int)] = some ((min n k:Nat):Int):=by
 rw [min2]
 by_cases g:(k:Int) < (n:Int)
 ·rw [if_pos g,Nat.min_eq_right (by omega)]
 ·rw [if_neg g,Nat.min_eq_left (by omega)]
theorem wI {α:Type} (l:List α) (k:Nat):l.take (min l.length k) = l.take k:=by
 rw [List.take_eq_take_iff]; omega
theorem CB (h:bM E) {v:V} {l:List aZ} (iv:IS aK v l) (k:Nat):∃ w,(∀ Z,Ax.slice E Z 28 v none (some (.int .i64 ((min l.length k:Nat):Int))) none = some w) /\ IS aK w (l.take k):=by
 obtain ⟨w,h1,h2⟩:=vI h iv (b:=min l.length k) (Nat.min_le_left _ _)
 exact ⟨w,h1,by rwa [wI] at h2⟩
theorem D5 (h:bM E) {v:V} {l:List aZ} (iv:jZ aK v l) (k:Nat):∃ w,(∀ Z,Ax.slice E Z 28 v none (some (.int .i64 ((min l.length k:Nat):Int))) none = some w) /\ jZ aK w (l.take k):=by
 obtain ⟨w,h1,-,h2⟩:=BB (lo:=none) (hi:=some (.int .i64 ((min l.length k:Nat):Int))) (a:=0) (b:=min l.length k) h.aV rfl h.cN rfl iv.is (.inr rfl) (.inl ⟨rfl,rfl⟩) (Nat.zero_le _) (Nat.min_le_left _ _)
 refine ⟨w,h1,?_⟩
 have:=h2 iv
 rw [List.drop_zero,wI] at this
 exact this
theorem Lf (h:bM E) {v:V} {l:List AxS.Step} (iv:IS eW v l) (k:Nat):∃ w,(∀ Z,Ax.slice E Z 35 v none (some (.int .i64 ((min l.length k:Nat):Int))) none = some w) /\ IS eW w (l.take k):=by
 obtain ⟨w,h1,h2,-⟩:=BB (lo:=none) (hi:=some (.int .i64 ((min l.length k:Nat):Int))) (a:=0) (b:=min l.length k) h.fF rfl h.cO rfl iv (.inr rfl) (.inl ⟨rfl,rfl⟩) (Nat.zero_le _) (Nat.min_le_left _ _)
 refine ⟨w,h1,?_⟩
 rw [List.drop_zero,wI] at h2
 exact h2
def qO (x:aG):aG:={ x with ins:=x.ins.take 10,outs:=x.outs.take 6,after:=x.after.take 10,steps:=x.steps.take 14 }
def AN (s:AxS.Step):AxS.Step:={ s with args:=s.args.take 8,lits:=s.lits.take 3 }
def cut (x:aG):aG:={ qO x with steps:=(x.steps.take 14).map AN }
theorem Lg (x:aG):Small (cut x):=by
 refine ⟨?_,?_,?_,?_,fun s hs=>?_,fun s hs=>?_⟩
 ·show (x.ins.take 10).length <= 10; rw [List.length_take]; omega
 ·show (x.outs.take 6).length <= 6; rw [List.length_take]; omega
 ·show (x.after.take 10).length <= 10; rw [List.length_take]; omega
 ·show ((x.steps.take 14).map AN).length <= 14; rw [List.length_map,List.length_take]; omega
 ·obtain ⟨q,_,rfl⟩:=List.mem_map.1 hs
  show (q.args.take 8).length <= 8; rw [List.length_take]; omega
 ·obtain ⟨q,_,rfl⟩:=List.mem_map.1 hs
  show (q.lits.take 3).length <= 3; rw [List.length_take]; omega
structure Raw (x:aG):Prop where
 args:∀ s ∈ x.steps,s.args.length <= 8796093022208
 lits:∀ s ∈ x.steps,s.lits.length <= 8796093022208
theorem Raw.mid {x:aG} (h:Raw x):Ys (qO x):=by
 refine ⟨?_,?_,?_,?_,fun s hs=>h.args s (List.mem_of_mem_take hs),fun s hs=>h.lits s (List.mem_of_mem_take hs)⟩
 ·show (x.ins.take 10).length <= 10; rw [List.length_take]; omega
 ·show (x.outs.take 6).length <= 6; rw [List.length_take]; omega
 ·show (x.after.take 10).length <= 10; rw [List.length_take]; omega
 ·show (x.steps.take 14).length <= 14; rw [List.length_take]; omega
theorem Nn (h:bM E) {x:aG} {a b c d:V} (ia:IS aK a x.ins) (ib:IS aK b x.outs) (ic:IS aK c x.after) (id:IS eW d x.steps) (F:FT) (g1:F.get 1 = .ref 0 0) (g2:F.get 2 = .ref 1 0) {st:List kH} {Q:Ax.X -> Fr -> Sg -> Prop}
  (hk:∀ F' a' b' c' d',F'.get 1 = .ref 0 0 -> F'.get 2 = .ref 1 0 -> F'.get 3 = .ref 2 0 -> IS aK a' (x.ins.take 10) -> IS aK b' (x.outs.take 6) -> IS aK c' (x.after.take 10) -> IS eW d' (x.steps.take 14) ->
   M E st .normal ⟨86,F'⟩ [O.cells 37 [.str x.name,a,b,c,d] true,O.cells 37 [.str [],.aC,.aC,.aC,.aC] true,O.cells 37 [.str x.name,a',b',c',d'] true] Q) :
  R E (.region 1 (opsOf (cutAt [1,0] (aA Tryz.f59).code)) true) st ⟨86,F⟩ [O.cells 37 [.str x.name,a,b,c,d] true,O.cells 37 [.str [],.aC,.aC,.aC,.aC] true] Q:=by
 obtain ⟨a',sa,ia'⟩:=CB h ia 10
 obtain ⟨b',sb,ib'⟩:=CB h ib 6
 obtain ⟨c',sc,ic'⟩:=CB h ic 10
 obtain ⟨d',sd,id'⟩:=Lf h id 14
 have la:=bL h ia
 have lb:=bL h ib
 have lc:=bL h ic
 have ld:=kW h id
 have m1:=DM x.ins.length 10
 have m2:=DM x.outs.length 6
 have m3:=DM x.after.length 10
 have m4:=DM x.steps.length 14
 have o1:=aJ ia'.bE
 have o2:=aJ ib'.bE
 have o3:=aJ ic'.bE
 have o4:=aJ id'.bE
 have n1:=iT ia'.bE
 have n2:=iT ib'.bE
 have n3:=iT ic'.bE
 have n4:=iT id'.bE
 have v1:=cA 10 ia
 have v2:=cA 10 ib
 have v3:=cA 10 ic
 have v4:=nU 9 id
 have u1:=cA 10 ia'
 have u2:=cA 10 ib'
 have u3:=cA 10 ic'
 have u4:=nU 9 id'
 have vs:=zT 11 x.name
 have vi:=fun k i=>IW 11 k i
 have m1:iV false .i64 (x.ins.length:Int) [.int .i64 10] = some ((min x.ins.length 10:Nat):Int):=m1
 have m2:iV false .i64 (x.outs.length:Int) [.int .i64 6] = some ((min x.outs.length 6:Nat):Int):=m2
 have m3:iV false .i64 (x.after.length:Int) [.int .i64 10] = some ((min x.after.length 10:Nat):Int):=m3
 have m4:iV false .i64 (x.steps.length:Int) [.int .i64 14] = some ((min x.steps.length 14:Nat):Int):=m4
 have key:∃ F',cI E (ev E 0) (opsOf (cutAt [1,0] (aA Tryz.f59).code)) ⟨86,F⟩ [O.cells 37 [.str x.name,a,b,c,d] true,O.cells 37 [.str [],.aC,.aC,.aC,.aC] true] = some (⟨86,F'⟩,[O.cells 37 [.str x.name,a,b,c,d] true,O.cells 37 [.str [],.aC,.aC,.aC,.aC] true,O.cells 37 [.str x.name,a',b',c',d'] true]) /\ F'.get 1 = .ref 0 0 /\ F'.get 2 = .ref 1 0 /\ F'.get 3 = .ref 2 0:=by
  unfold cI
  rw [h.TP,h.Vl]
  simp only [aA,Tryz.f59,KP,Ax.loadAt,Ax.storeAt,↓reduceIte,Nat.reduceEqDiff,Nat.reduceLT,Nat.reduceAdd,reduceCtorEq,h.cN,h.aV,h.fF,h.bI,opsOf,cutAt,iC,bK,bZ,kD,Ax.comp,Ax.last,iG,Ax.again,aQ,Ax.fill,Ax.placeOf,g1,la,lb,lc,ld,sa,sb,sc,sd,m1,m2,m3,m4,o1,o2,o3,o4,n1,n2,n3,n4,v1,v2,v3,v4,u1,u2,u3,u4,vs,vi]
  exact ⟨_,rfl,(by simp +decide only [GS,g1,g2,and_self])⟩
 obtain ⟨F',hE,k1,k2,k3⟩:=key
 exact Eq.mpr (iZ hE) (hk F' a' b' c' d' k1 k2 k3 ia' ib' ic' id')
theorem oN {sz:Nat}:∀ (rs:List (List V)),(∀ r ∈ rs,r.length = sz) -> ∀ (i:Nat) (r:List V),rs[i]? = some r -> ∀ k,k < sz -> rs.flatten[i * sz + k]? = r[k]?
 | [],_,i,r,e,_,_=>by cases e
 | x :: rs,h,0,r,e,k,hk=>by
  cases e
  have hr:=h x (List.mem_cons_self ..)
  rw [List.flatten_cons,Nat.zero_mul,Nat.zero_add,List.getElem?_append_left (by omega)]
 | x :: rs,h,i + 1,r,e,k,hk=>by
  have hr:=h x (List.mem_cons_self ..)
  rw [List.flatten_cons,List.getElem?_append_right (by rw [Nat.succ_mul]; omega),show (i + 1) * sz + k - x.length = i * sz + k by rw [Nat.succ_mul]; omega]
  exact oN rs (fun y hy=>h y (List.mem_cons_of_mem _ hy)) i r e k hk
theorem MJ {sz:Nat} {rs:List (List V)} (h:∀ r ∈ rs,r.length = sz) {i:Nat} {r:List V} (e:rs[i]? = some r) {k:Nat} (hk:k < sz) (u:V):setCells rs.flatten (i * sz + k) [u] = (rs.set i (r.set k u)).flatten:=by
 have hil:=(List.getElem?_eq_some_iff.1 e).1
 have hrl:r.length = sz:=h r (List.mem_of_getElem? e)
 have hfl:rs.flatten.length = rs.length * sz:=mV rs h
 have him:(i + 1) * sz <= rs.length * sz:=Nat.mul_le_mul_right _ hil
 rw [Nat.succ_mul] at him
 rw [<- BC rs i (r.set k u) h (by rw [List.length_set]; exact hrl) hil]
 apply List.ext_getElem?
 intro q
 unfold setCells
 have l1:(rs.flatten.take (i * sz + k)).length = i * sz + k:=by rw [List.length_take]; omega
 have l2:(rs.flatten.take (i * sz)).length = i * sz:=by rw [List.length_take]; omega
 rw [List.append_assoc,List.append_assoc,List.length_singleton,List.length_set,hrl]
 rcases Nat.lt_trichotomy q (i * sz + k) with hq | rfl | hq
 ·rw [List.getElem?_append_left (by omega),List.getElem?_take,if_pos hq]
  by_cases g:q < i * sz
  ·rw [List.getElem?_append_left (by omega),List.getElem?_take,if_pos g]
  ·rw [List.getElem?_append_right (by omega),l2,List.getElem?_append_left (by rw [List.length_set]; omega),List.getElem?_set_ne (by omega)]
   obtain ⟨d,rfl⟩:∃ d,q = i * sz + d:=⟨q - i * sz,by omega⟩
   rw [Nat.add_sub_cancel_left]
   exact oN rs h i r e d (by omega)
 ·have e0:([u] ++ rs.flatten.drop (i * sz + k + 1))[0]? = some u:=rfl
  rw [List.getElem?_append_right (by omega),l1,Nat.sub_self,e0,List.getElem?_append_right (by omega),l2,Nat.add_sub_cancel_left,List.getElem?_append_left (by rw [List.length_set]; omega),List.getElem?_set_self (by omega)]
 ·rw [List.getElem?_append_right (by omega),l1,List.getElem?_append_right (by rw [List.length_singleton]; omega),List.length_singleton,List.getElem?_drop,show i * sz + k + 1 + (q - (i * sz + k) - 1) = q by omega]
  rw [List.getElem?_append_right (by omega),l2]
  by_cases g:q - i * sz < sz
  ·rw [List.getElem?_append_left (by rw [List.length_set]; omega),List.getElem?_set_ne (by omega)]
   obtain ⟨d,rfl⟩:∃ d,q = i * sz + d:=⟨q - i * sz,by omega⟩
   rw [Nat.add_sub_cancel_left]
   exact oN rs h i r e d (by omega)
  ·rw [List.getElem?_append_right (by rw [List.length_set]; omega),List.length_set,hrl,List.getElem?_drop,show i * sz + sz + (q - i * sz - sz) = q by omega]
end
end
end Go.Proofs.YtlbbdpkjeeiahaaGreatDoor
end
section
set_option maxRecDepth 100000
set_option maxHeartbeats 8000000
set_option linter.unusedVariables false
namespace Go.Proofs.YtlbbdpkjeeiahaaGreatDoor
open Go Go.Ax Go.AxS Go.ChangeShapes Go.WideShapes Go.ChangeAt Go.RowKit
section
theorem E8 (s:ByteArray):(Ax.bytes s).length = s.size:=by
 unfold Ax.bytes
 rw [List.length_map]
 rfl
section
variable {W:World} {I:Bool -> Nat -> Prop} {blk:Nat}
theorem Ob {r:List V} {cs:List Value}:∀ {off:Nat},AQ W I r cs -> (∀ j,j < cs.length -> W.cell? ⟨blk,off + j,none⟩ = cs[j]?) -> dD W I r blk off:=by
 induction r generalizing cs with
 | nil=>intro off h hc; exact .nil
 | cons v r ih=>
  intro off h hc
  cases h with
  | cons _ x _ xs hv hr=>
   have h0:=hc 0 (by simp)
   refine .cons v x r (by simpa using h0) hv (ih hr fun j hj=>?_)
   have:=hc (j + 1) (by simpa using hj)
   rw [show off + 1 + j = off + (j + 1) by omega,this]
   rfl
theorem Jo {sz off:Nat} {R:Nat -> List V} {C:Nat -> List Value}:∀ (n k:Nat),(∀ i,k <= i -> i < k + n -> (R i).length = sz /\ (C i).length = sz /\ AQ W I (R i) (C i) /\ ∀ j,j < sz -> W.cell? ⟨blk,off + i * sz + j,none⟩ = (C i)[j]?) ->
  dW W I sz ((List.range' k n).map R) blk (off + k * sz)
 | 0,k,_=>.nil
 | n + 1,k,h=>by
  rw [List.range'_succ,List.map_cons]
  obtain ⟨h1,h2,h3,h4⟩:=h k (Nat.le_refl _) (by omega)
  refine .cons _ _ h1 (Ob h3 fun j hj=>h4 j (by omega)) ?_
  have:=Jo (off:=off) n (k + 1) fun i hi hn=>h i (by omega) (by omega)
  rw [show off + (k + 1) * sz = off + k * sz + sz by rw [Nat.succ_mul]; omega] at this
  exact this
end
def Reads (W:World) (t n:Nat) (Q:List V -> Prop):Prop:=∀ {H:Type} (enc:TypeId × Value -> H) (fuel:Nat) (cs:List Value) (d:DataW H) (p:List MemPlace),DataW.trod enc Tryz.prog W 0 (fun _=>true) true fuel t cs = some (d,p) -> (DataW.weights Tryz.prog t d).all (· <= reachBytes) = true -> cs.length = n /\ ∃ r:List V,r.length = n /\ Q r /\ AQ W (uT W).bE r cs
theorem Reads.mono {W:World} {t n:Nat} {Q Q':List V -> Prop} (h:Reads W t n Q) (k:∀ r,Q r -> Q' r):Reads W t n Q':=fun enc fuel cs d p h1 h2=>by
 obtain ⟨a,r,b,c,e⟩:=h enc fuel cs d p h1 h2
 exact ⟨a,r,b,k r c,e⟩
def Ey (s:aZ):Prop:=s.length <= 9223372036854775806
theorem yJ (W:World):Reads W 9 1 fun r=>∃ s,r = [.str s] /\ Ey s:=fun enc fuel cs d p h hw=>by
 obtain ⟨s,rfl,hx,hl⟩:=DataW.trod_string Tryz.underlying9 h
 refine ⟨rfl,[.str (Ax.bytes s)],rfl,⟨_,rfl,?_⟩,.cons _ _ _ _ (.str _) .nil⟩
 unfold Ey
 rw [E8]
 rw [show d = .lit (.string s.data.toList) from congrArg Prod.fst hx,DataW.weights] at hw
 simp only [List.all_cons,List.all_nil,Bool.and_true,decide_eq_true_eq] at hw
 have e:reachBytes = 140737488351232:=by decide
 have e1:s.size = s.data.toList.length:=rfl
 omega
theorem yK (W:World):Reads W 3 1 fun r=>∃ n:Int,r = [.int .i64 n]:=fun enc fuel cs d p h hw=>by
 obtain ⟨n,rfl,hx,-⟩:=DataW.trod_int Tryz.underlying3 h
 exact ⟨rfl,[.int .i64 n],rfl,⟨n,rfl⟩,.cons _ _ _ _ (.int _ _) .nil⟩
theorem tF {H:Type} {e w:Nat} {d:DataW H}:∀ {l:List (DataW H)},d ∈ l -> w ∈ DataW.weights Tryz.prog e d -> w ∈ DataW.weightsAll Tryz.prog e l
 | x :: l,hd,hw=>by
  rw [DataW.weightsAll,List.mem_append]
  rcases List.mem_cons.1 hd with rfl | hd
  ·exact .inl hw
  ·exact .inr (tF hd hw)
theorem o_ {W:World} {α:Type} [Inhabited α] {L:Lay α} {B:α -> Prop} {t e n bb:Nat} (ht:Tryz.prog.underlying t = some (.slice e)) (ce:Tryz.prog.cellsOf e = n) (hb:Tryz.prog.bytesOf e = bb) (hn:0 < n) (he:Reads W e n fun r=>∃ x,L.P r x /\ B x) :
  Reads W t 1 fun r=>∃ v l,r = [v] /\ IS L v l /\ (∀ x ∈ l,B x) /\ l.length * bb <= reachBytes:=fun {H} enc fuel cs d p h hw=>by
 rcases Go.Deep.open_slice ht h with ⟨rfl,hx⟩ | ⟨a,len,cap,m,k,D,Pl,rfl,hbase,hlc,hcm,hm,hx,hel⟩
 ·exact ⟨rfl,[.aC],rfl,⟨.aC,[],rfl,.inl ⟨rfl,rfl⟩,fun x hx=>(by cases hx),by simp⟩,.cons _ _ _ _ .aC .nil⟩
 ·have hm:m = cap:=by rw [hm]; rfl
  subst hm
  have hd:d = _:=congrArg Prod.fst hx
  dsimp only at hd
  have hwl:len * bb <= reachBytes /\ ∀ i,i < len -> (DataW.weights Tryz.prog e (D i)).all (· <= reachBytes) = true:=by
   rw [hd] at hw
   unfold DataW.weights at hw
   rw [ht] at hw
   simp only [List.all_cons,List.all_append,Bool.and_eq_true,List.all_eq_true,decide_eq_true_eq,List.length_map,List.length_range] at hw
   refine ⟨?_,fun i hi=>?_⟩
   ·have h1:=hw.1
    rw [hb] at h1
    refine Nat.le_trans (Nat.mul_le_mul_right _ (by omega)) h1
   ·rw [List.all_eq_true]
    intro w hwi
    rw [decide_eq_true_eq]
    exact hw.2.1 w (tF (List.mem_map.2 ⟨i,List.mem_range.2 hi,rfl⟩) hwi)
  by_cases hc:m = 0
  ·subst hc
   obtain rfl:len = 0:=by omega
   exact ⟨rfl,[.bQ true [] false],rfl,⟨_,[],rfl,.inr ⟨true,[],false,rfl,.nil⟩,fun x hx=>(by cases hx),by simp⟩,.cons _ _ _ _ (.emp _ _ a) .nil⟩
  ·obtain ⟨cs0,h0,-⟩:=hel 0 (by omega)
   obtain ⟨-,hl0,hc0⟩:=World.cells?_some h0
   rw [ce] at hl0 hc0
   have hcell:=hc0 0 hn
   obtain ⟨blk,off,sp⟩:=a
   have hadd:((⟨blk,off,sp⟩:Addr).add (0 * n)).add 0 = ⟨blk,off,sp⟩:=by rw [Nat.zero_mul]; rfl
   rw [hadd] at hcell
   have hsome:∃ v,W.cell? ⟨blk,off,sp⟩ = some v:=⟨_,hcell.trans (List.getElem?_eq_getElem (by omega))⟩
   obtain ⟨v0,hv0⟩:=hsome
   have hsp:sp = none /\ blk < W.heap.size:=by
    unfold World.cell? at hv0
    split at hv0
    ·rename_i c u f hblk
     refine ⟨?_,(Array.getElem?_eq_some_iff.1 hblk).1⟩
     cases sp with
     | none=>rfl
     | some q=>simp at hv0
    ·cases hv0
   obtain ⟨rfl,hlt⟩:=hsp
   have each:∀ i,i < len -> ∃ q:List V × List Value × α,q.1.length = n /\ q.2.1.length = n /\ L.P q.1 q.2.2 /\ B q.2.2 /\ AQ W (uT W).bE q.1 q.2.1 /\ ∀ j,j < n -> W.cell? ⟨blk,off + i * n + j,none⟩ = q.2.1[j]?:=fun i hi=>by
    obtain ⟨cs',h1,h2⟩:=hel i (by omega)
    obtain ⟨h3,r,h4,⟨x,h5,h5'⟩,h6⟩:=he enc k cs' (D i) (Pl i) h2 (hwl.2 i hi)
    obtain ⟨-,hl1,hc1⟩:=World.cells?_some h1
    rw [ce] at hc1
    refine ⟨(r,cs',x),h4,h3,h5,h5',h6,fun j hj=>?_⟩
    have:=hc1 j hj
    have ea:((⟨blk,off,none⟩:Addr).add (i * n)).add j = ⟨blk,off + i * n + j,none⟩:=by
     rw [Go.Deep.add_add]
     unfold Addr.add
     split
     ·rename_i h0
      rw [show off + i * n + j = off by omega]
     ·rw [Nat.add_assoc]
    rw [ea] at this
    exact this
   obtain ⟨q,hq⟩:=Go.Deep.choose_lt each
   refine ⟨rfl,[.bQ true ((List.range' 0 len).map fun i=>(q i).1) false],rfl,⟨_,(List.range' 0 len).map fun i=>(q i).2.2,rfl,.inr ⟨true,_,false,rfl,?_⟩,fun x hx=>?_,by simpa using hwl.1⟩,.cons _ _ _ _ (.bQ true _ false blk off len m n (O8 W blk hlt) (by simp) hlc (fun h=>by cases h) ?_) .nil⟩
   ·have hall:∀ (c k:Nat),(∀ i,k <= i -> i < k + c -> L.P (q i).1 (q i).2.2) -> eT L.P ((List.range' k c).map fun i=>(q i).1) ((List.range' k c).map fun i=>(q i).2.2):=by
     intro c
     induction c with
     | zero=>intro k _; exact .nil
     | succ c ih=>
      intro k hk
      rw [List.range'_succ,List.map_cons,List.map_cons]
      exact .cons (hk k (Nat.le_refl _) (by omega)) (ih (k + 1) fun i h1 h2=>hk i (by omega) (by omega))
    exact hall len 0 fun i _ hi=>(hq i (by omega)).2.2.1
   ·obtain ⟨i,hi,rfl⟩:=List.mem_map.1 hx
    rw [List.mem_range'_1] at hi
    exact (hq i (by omega)).2.2.2.1
   ·have:=Jo (W:=W) (I:=Ax.sub true (uT W).bE) (blk:=blk) (off:=off) (sz:=n) (R:=fun i=>(q i).1) (C:=fun i=>(q i).2.1) len 0 fun i _ hi=>⟨(hq i (by omega)).1,(hq i (by omega)).2.1,(hq i (by omega)).2.2.2.2.1,(hq i (by omega)).2.2.2.2.2⟩
    rw [Nat.zero_mul,Nat.add_zero] at this
    exact this
theorem rK {W:World} {I:Bool -> Nat -> Prop} {a:List V} {x:List Value} (h:AQ W I a x) {b:List V} {y:List Value} (k:AQ W I b y):AQ W I (a ++ b) (x ++ y):=by
 induction a generalizing x with
 | nil=>cases h; exact k
 | cons v a ih=>cases h with | cons _ z _ zs hv hr=>exact .cons _ _ _ _ hv (ih hr)
theorem Ip {β:Type} {l:List β} (h:l.length = 5):∃ a b c d e,l = [a,b,c,d,e]:=by
 match l,h with
 | [a,b,c,d,e],_=>exact ⟨a,b,c,d,e,rfl⟩
theorem one {β:Type} {l:List β} (h:l.length = 1):∃ a,l = [a]:=by
 match l,h with
 | [a],_=>exact ⟨a,rfl⟩
theorem BI {W:World} {t:Nat} {f0 f1 f2 f3 f4:Field} {Q0 Q1 Q2 Q3 Q4:List V -> Prop} (ht:Tryz.prog.underlying t = some (.struct #[f0,f1,f2,f3,f4])) (ct:Tryz.prog.cellsOf t = 5) (o0:f0.offset = 0) (o1:f1.offset = 1) (o2:f2.offset = 2) (o3:f3.offset = 3) (o4:f4.offset = 4)
  (c0:Tryz.prog.cellsOf f0.type = 1) (c1:Tryz.prog.cellsOf f1.type = 1) (c2:Tryz.prog.cellsOf f2.type = 1) (c3:Tryz.prog.cellsOf f3.type = 1) (c4:Tryz.prog.cellsOf f4.type = 1)
  (h0:Reads W f0.type 1 Q0) (h1:Reads W f1.type 1 Q1) (h2:Reads W f2.type 1 Q2) (h3:Reads W f3.type 1 Q3) (h4:Reads W f4.type 1 Q4) :
  Reads W t 5 fun r=>∃ a b c d e,r = [a,b,c,d,e] /\ Q0 [a] /\ Q1 [b] /\ Q2 [c] /\ Q3 [d] /\ Q4 [e]:=fun {H} enc fuel cs d p h hw=>by
 obtain ⟨xs,k,-,hx,hl,hxl,hf⟩:=DataW.trod_struct ht h
 rw [ct] at hl
 obtain ⟨v0,v1,v2,v3,v4,rfl⟩:=Ip hl
 have hxl:xs.length = 5:=hxl
 obtain ⟨y0,y1,y2,y3,y4,rfl⟩:=Ip hxl
 have hd:d = _:=congrArg Prod.fst hx
 dsimp only at hd
 rw [hd] at hw
 unfold DataW.weights at hw
 rw [ht] at hw
 simp only [List.map_cons,List.map_nil,DataW.weightsEach,List.all_append,Bool.and_eq_true] at hw
 obtain ⟨w0,w1,w2,w3,w4,-⟩:=hw
 have g0:=hf 0 f0 rfl
 have g1:=hf 1 f1 rfl
 have g2:=hf 2 f2 rfl
 have g3:=hf 3 f3 rfl
 have g4:=hf 4 f4 rfl
 rw [o0,c0] at g0
 rw [o1,c1] at g1
 rw [o2,c2] at g2
 rw [o3,c3] at g3
 rw [o4,c4] at g4
 obtain ⟨-,r0,l0,q0,i0⟩:=h0 enc k [v0] y0.1 y0.2 g0 w0
 obtain ⟨-,r1,l1,q1,i1⟩:=h1 enc k [v1] y1.1 y1.2 g1 w1
 obtain ⟨-,r2,l2,q2,i2⟩:=h2 enc k [v2] y2.1 y2.2 g2 w2
 obtain ⟨-,r3,l3,q3,i3⟩:=h3 enc k [v3] y3.1 y3.2 g3 w3
 obtain ⟨-,r4,l4,q4,i4⟩:=h4 enc k [v4] y4.1 y4.2 g4 w4
 obtain ⟨a,rfl⟩:=one l0
 obtain ⟨b,rfl⟩:=one l1
 obtain ⟨c,rfl⟩:=one l2
 obtain ⟨d',rfl⟩:=one l3
 obtain ⟨e,rfl⟩:=one l4
 exact ⟨hl,[a,b,c,d',e],rfl,⟨a,b,c,d',e,rfl,q0,q1,q2,q3,q4⟩,rK i0 (rK i1 (rK i2 (rK i3 i4)))⟩
theorem oA (W:World):Reads W 28 1 fun r=>∃ v l,r = [v] /\ IS aK v l /\ (∀ x ∈ l,Ey x) /\ l.length * 16 <= reachBytes:=
 o_ (L:=aK) Tryz.underlying28 (by kernel_rfl) (by kernel_rfl) (by decide) (Reads.mono (yJ W) fun r ⟨s,h1,h2⟩=>⟨s,h1,h2⟩)
instance:Inhabited AxS.Step:=⟨⟨[],0,[],[],0⟩⟩
instance:Inhabited aG:=⟨⟨[],[],[],[],[]⟩⟩
def Yr (s:AxS.Step):Prop:=s.args.length <= 8796093022208 /\ s.lits.length <= 8796093022208
theorem Wf {n:Nat} (h:n * 16 <= reachBytes):n <= 8796093022208:=by
 have e:reachBytes = 140737488351232:=by decide
 omega
theorem HQ (W:World):Reads W 75 5 fun r=>∃ x,eW.P r x /\ Yr x:=
 Reads.mono (BI Tryz.underlying75 (by kernel_rfl) rfl rfl rfl rfl rfl (by kernel_rfl) (by kernel_rfl) (by kernel_rfl) (by kernel_rfl) (by kernel_rfl) (yJ W) (yK W) (oA W) (oA W) (yK W)) fun r ⟨a,b,c,d,e,hr,⟨s,h0,_⟩,⟨n,h1⟩,⟨v2,l2,h2,i2,_,b2⟩,⟨v3,l3,h3,i3,_,b3⟩,⟨m,h4⟩⟩=>by
  cases h0; cases h1; cases h2; cases h3; cases h4
  exact ⟨⟨s,n,l2,l3,m⟩,⟨_,_,hr,i2,i3⟩,Wf b2,Wf b3⟩
theorem HR (W:World):Reads W 37 5 fun r=>∃ x,dS.P r x /\ Raw x:=
 Reads.mono (BI Tryz.underlying37 (by kernel_rfl) rfl rfl rfl rfl rfl (by kernel_rfl) (by kernel_rfl) (by kernel_rfl) (by kernel_rfl) (by kernel_rfl) (yJ W) (oA W) (oA W) (oA W) (o_ (L:=eW) Tryz.underlying35 (by kernel_rfl) rfl (by decide) (HQ W))) fun r ⟨a,b,c,d,e,hr,⟨s,h0,_⟩,⟨v1,l1,h1,i1,_⟩,⟨v2,l2,h2,i2,_⟩,⟨v3,l3,h3,i3,_⟩,⟨v4,l4,h4,i4,hB,_⟩⟩=>by
  cases h0; cases h1; cases h2; cases h3; cases h4
  exact ⟨⟨s,l1,l2,l3,l4⟩,⟨_,_,_,_,hr,i1,i2,i3,i4⟩,⟨fun s hs=>(hB s hs).1,fun s hs=>(hB s hs).2⟩⟩
theorem FV (W:World):Reads W 22 1 fun r=>∃ v l,r = [v] /\ IS dS v l /\ (∀ x ∈ l,Raw x) /\ l.length * Tryz.prog.bytesOf 37 <= reachBytes:=
 o_ (L:=dS) Tryz.underlying22 (by kernel_rfl) rfl (by decide) (HR W)
theorem HS (W:World):Reads W 56 1 fun r=>∃ v l,r = [v] /\ IS EZ v l /\ (∀ x ∈ l,True) /\ l.length * 8 <= reachBytes:=
 o_ (L:=EZ) Tryz.underlying56 (by kernel_rfl) (by kernel_rfl) (by decide) (Reads.mono (yK W) fun r ⟨n,h⟩=>⟨n,h,trivial⟩)
section
variable {H:Type} {enc:TypeId × Value -> H} {W:World} {base:Nat} {v:Value} {d:DataW H} {p:List MemPlace}
theorem J6 {t:Nat} {Q:List V -> Prop} (hr:Reads W t 1 Q) (hc:v.cells = #[v]) (h:DataW.Trod enc Tryz.prog W 0 (fun _=>true) true t v d p) (hw:(DataW.weights Tryz.prog t d).all (· <= reachBytes) = true):∃ a,Q [a] /\ VR (uT W) a v:=by
 obtain ⟨fuel,h⟩:=h
 rw [hc] at h
 obtain ⟨-,r,h1,h2,h3⟩:=hr enc fuel _ d p h hw
 obtain ⟨a,rfl⟩:=one h1
 cases h3 with
 | cons _ _ _ _ hv _=>exact ⟨a,h2,.inl hv⟩
theorem zZ {t e:Nat} (ht:Tryz.prog.underlying t = some (.slice e)) (hv:Value.okWide Tryz.prog W .any base t v):v.cells = #[v]:=by
 unfold Value.okWide at hv
 rw [ht] at hv
 have hv:Cell.okWide Tryz.prog W .any base t v:=hv
 unfold Cell.okWide Cell.ok at hv
 rw [ht] at hv
 cases v with
 | slice q len cap=>rfl
 | _=>exact hv.elim
theorem LJ (hv:Value.okWide Tryz.prog W .any base 22 v) (h:DataW.Trod enc Tryz.prog W 0 (fun _=>true) true 22 v d p) (hw:(DataW.weights Tryz.prog 22 d).all (· <= reachBytes) = true):∃ a l,IS dS a l /\ (∀ x ∈ l,Raw x) /\ VR (uT W) a v:=by
 obtain ⟨a,⟨v',l,e,h1,h2,-⟩,h3⟩:=J6 (FV W) (zZ Tryz.underlying22 hv) h hw
 cases e
 exact ⟨a,l,h1,h2,h3⟩
theorem OH (hv:Value.okWide Tryz.prog W .any base 56 v) (h:DataW.Trod enc Tryz.prog W 0 (fun _=>true) true 56 v d p) (hw:(DataW.weights Tryz.prog 56 d).all (· <= reachBytes) = true):∃ a l,IS EZ a l /\ l.length <= 17592186044416 /\ VR (uT W) a v:=by
 obtain ⟨a,⟨v',l,e,h1,-,hl⟩,h3⟩:=J6 (HS W) (zZ Tryz.underlying56 hv) h hw
 cases e
 refine ⟨a,l,h1,?_,h3⟩
 have e:reachBytes = 140737488351232:=by decide
 omega
end
end
end Go.Proofs.YtlbbdpkjeeiahaaGreatDoor
end
section
set_option maxHeartbeats 8000000
set_option linter.unusedVariables false
namespace Go.Proofs.YtlbbdpkjeeiahaaGreatDoor
open Go Go.Ax
noncomputable def spL:BT (List V -> Option V):=(.node 171 (.node 148 (.leaf 11 (bH t11)) (.leaf 148 nX)) (.node 254 (.leaf 171 kV) (.node 295 (.leaf 254 kA) (.leaf 295 wJ))))
noncomputable def LE:Env:=ground.env spL
end Go.Proofs.YtlbbdpkjeeiahaaGreatDoor
end
section
set_option maxHeartbeats 8000000
set_option linter.unusedVariables false
namespace Go.Proofs.YtlbbdpkjeeiahaaGreatDoor
open Go Go.Ax Go.ChangeShapes Go.WideShapes Go.ChangeAt Go.RowKit
theorem RJ:spL.yA (fO Tryz.prog (ground.env .nil)):=⟨⟨UQ,MD⟩,⟨MC,⟨MB,MA⟩⟩⟩
theorem OA {G:Ax.Ground Tryz.prog} (hG:lS G) (hgl:G.gl = DW) {s:BT (List V -> Option V)} (hs:s.yA (fO Tryz.prog (G.env .nil))) {n f:Nat} {vs:List V} {W:World} (hW:W.ShapedOpen Tryz.prog) (h:Ax.call (G.env s) n f vs = some (.bool true)) {xs:List Value} (hv:e_ (uT W) vs xs) :
  Calls Tryz.prog f xs.toArray W fun e W'=>e = .returned (.bool true) /\ Below W.heap.size W W':=by
 refine (CH (hG.NY s) (hG.NV hs) mixed h (d:=uT W) rfl (RF hW hgl) hv).mono ?_
 rintro e w' ⟨x,d',rfl,rfl,h1,h2,h3,h4⟩
 have hx:=h4.h_
 subst hx
 exact ⟨rfl,h2.os,h2.tape,h2.output,h2.size,fun k hk=>(h2.keep k hk fun ⟨b,⟨o,ho,_⟩,_⟩=>by cases ho).1⟩
end Go.Proofs.YtlbbdpkjeeiahaaGreatDoor
end
