/- Part 18 of the proof's own texts (pressed by a program of its author's). -/
import Derived.Test.YtlbbdpkjeeiahaaGreatDoorZ17
import Derived.Test.YtlbbdpkjeeiahaaGreatDoorZ13
import Derived.Test.YtlbbdpkjeeiahaaGreatDoorZ3
import Derived.Test.YtlbbdpkjeeiahaaGreatDoorZ15
import Derived.Test.YtlbbdpkjeeiahaaGreatDoorZ16
section
set_option maxRecDepth 10000
set_option maxHeartbeats 8000000
namespace Go.Proofs.YtlbbdpkjeeiahaaGreatDoor
open Go Go.Ax Go.AxS
section
section
variable {E:Env} {Z:Sg} {K:V -> Sg -> Prop}
def Nx (rs:List aG) (r:aG) (x:aX):Prop:=x ∈ r.after \/ ∃ f ∈ r.ins,Mk rs f x
structure Ci (rs:List aG):Prop where
 names:∀ r ∈ rs,r.name.length <= 40
 Nk:∀ r ∈ rs,∀ s ∈ r.after,s.length <= 40
 nodup:∀ (i j:Nat) (p q:aG),rs[i]? = some p -> rs[j]? = some q -> p.name = q.name -> i = j
 jD:∀ f n m,Mk rs f n -> Mk rs f m -> n = m
theorem Mk.short {rs:List aG} (h:Ci rs) {f n:aX} (hm:Mk rs f n):n.length <= 40:=by
 obtain ⟨r,hr,-,rfl⟩:=hm
 exact h.names r hr
theorem TN (h:bK E) {a:V} {rs:List aG} (ia:IS cQ a rs) (hs:∀ x ∈ rs,Small x) (hsh:Ci rs) (hl:rs.length <= 1000) {Y:Sg} {es0:List (V × V)} {get:aX -> Option V} (h0:Y[0]? = some (.map es0)) (hsm:SM E es0 get) (hmk:MK get (Mk rs)) (F:FT) (g0:F.get 0 = a) (g3:F.get 3 = .mp 0) :
  R E (cutAt [1,1,1] (aA Tryz.f147).code) [] ⟨74,F⟩ Y (kS E (aA Tryz.f147).results (fun v σ1=>match dI σ1 E.ty false v with
   | some v=>∃ es,v = .imp false es /\ xK (Nx rs) es rs
   | none=>False)):=by
 have la:=cA h ia
 have rest:=fun {τ0 Y w p1 p2 p3 p4 l r y mA es rs'} ow hl' kp fr hy hA ha hn hm F g8 g10 g11 st Q hk=>QK (τ0:=τ0) (Y:=Y) (w:=w) (p1:=p1) (p2:=p2) (p3:=p3) (p4:=p4) (l:=l) (r:=r) (y:=y) (mA:=mA) (es:=es) (N:=Nx rs) (rs:=rs') h ow hl' kp fr hy hA ha hn hm F g8 g10 g11 (st:=st) (Q:=Q) hk
 simp only [aA,Tryz.f147,KP,↓reduceIte,Nat.reduceLT,reduceCtorEq,cutAt,g0,la]
 have hA0:(Y ++ [O.map []])[Y.length]? = some (.map []):=aQ
 have h00:=aL (x:=O.map []) h0
 have hmA:Y.length ≠ 0:=by have:=(List.getElem?_eq_some_iff.1 h0).1; omega
 generalize Y ++ [O.map []] = τ1 at *
 generalize Y.length = mA at *
 refine aP (fun i F Y=>F.get 0 = a /\ F.get 3 = .mp 0 /\ F.get 8 = .mp mA /\ F.get 37 = a /\ F.get 38 = .int .i64 (rs.length:Int) /\ F.get 39 = .int .i64 (i:Int) /\ Y[0]? = some (.map es0) /\ ∃ es,Y[mA]? = some (.map es) /\ vL Y (Nx rs) es (rs.take i)) rs.length ?_ ?_ rs.length 0 _ _ (by omega) (B8 (by simp +decide only [GS,g0,g3,and_self]) ⟨h00,[],hA0,.nil⟩)
 ·rintro i F Y hi ⟨g0,g3,g8,g37,g38,g39,h0,es,hA,ha⟩ next
  obtain ⟨r,hr⟩:∃ y,rs[i]? = some y:=⟨_,List.getElem?_eq_getElem hi⟩
  have hrm:=List.mem_of_getElem? hr
  obtain ⟨g,p1,p2,p3,p4,e1,i1,i2,i3,i4⟩:=eE h ia hr
  have hsr:=hs r hrm
  have a1:=hsr.ins
  have a3:=hsr.after
  have o1:=aI i1.bB
  have o2:=aI i2.bB
  have o3:=aI i3.bB
  have o4:=aI i4.bB
  have hlt:=d_ hi
  have hadd:=bU i (by omega)
  have li:=bH h i1
  have hnn:∀ q ∈ rs.take i,q.name ≠ r.name:=fun q hq e=>by
   obtain ⟨j,hj⟩:=List.mem_iff_getElem?.1 hq
   have hji:j < i:=by have:=(List.getElem?_eq_some_iff.1 hj).1; rw [List.length_take] at this; omega
   rw [List.getElem?_take_of_lt hji] at hj
   have:=hsh.nodup j i q r hj hr e
   omega
  have hb1:=aL (x:=O.cells 37 [.str r.name,p1,p2,p3,p4] true) h0
  have hA1:=aL (x:=O.cells 37 [.str r.name,p1,p2,p3,p4] true) hA
  have ha1:vL (Y ++ [O.cells 37 [.str r.name,p1,p2,p3,p4] true]) (Nx rs) es (rs.take i):=ha.keep hA fun c o hc _=>aL hc
  have s1:(Y ++ [O.cells 37 [.str r.name,p1,p2,p3,p4] true])[Y.length]? = some (O.cells 37 [.str r.name,p1,p2,p3,p4] true):=aQ
  rw [aF]
  simp only [KP,Ax.loadAt,Ax.storeAt,↓reduceIte,Nat.reduceEqDiff,Nat.reduceLT,Nat.reduceAdd,reduceCtorEq,h.aR,h.bD,g37,g38,g39,hlt,e1,o1,o2,o3,o4,aQ,cV]
  generalize Y ++ [O.cells 37 [.str r.name,p1,p2,p3,p4] true] = τ1 at *
  generalize Y.length = y at *
  refine aO (oV h i3 (by omega)) ?_
  rintro w0 τ2 ⟨ow0,kp0,fr0⟩
  have s2:=kp0 _ _ s1
  simp only [KP,Ax.loadAt,↓reduceIte,Nat.reduceEqDiff,Nat.reduceLT,reduceCtorEq,h.aR,h.bD,s2,li]
  refine aP (fun j F Y=>F.get 0 = a /\ F.get 3 = .mp 0 /\ F.get 8 = .mp mA /\ F.get 37 = a /\ F.get 38 = .int .i64 (rs.length:Int) /\ F.get 39 = .int .i64 (i:Int) /\ F.get 10 = .ref y 0 /\ F.get 47 = p1 /\ F.get 48 = .int .i64 (r.ins.length:Int) /\ F.get 49 = .int .i64 (j:Int) /\ Kp τ1 Y /\ ∃ w cur,F.get 11 = w /\ bI aK 9 Y w cur /\ (∀ b,aW w = some b -> τ1.length <= b) /\ cur.length <= r.after.length + j /\ (∀ x ∈ cur,x.length <= 40) /\ ∀ x,x ∈ cur ↔ x ∈ r.after \/ ∃ f ∈ r.ins.take j,Mk rs f x) r.ins.length ?_ ?_ r.ins.length 0 _ _ (by omega) (yP (by simp +decide only [GS,g0,g3,g8,g37,g38,g39,and_self]) ⟨kp0,w0,r.after,(by simp +decide only [GS]),ow0,fr0,Nat.le_refl _,hsh.Nk r hrm,fun x=>by simp⟩)
  ·rintro j F Y hj ⟨g0,g3,g8,g37,g38,g39,g10,g47,g48,g49,kp,w,cur,g11,ow,fr,hcl,hc40,hmem⟩ next2
   obtain ⟨s,hsj⟩:∃ y,r.ins[j]? = some y:=⟨_,List.getElem?_eq_getElem hj⟩
   obtain ⟨g',e2⟩:=fM h i1 hsj
   have hlt2:=d_ hj
   have hadd2:=bU j (by omega)
   have hb2:=kp _ _ hb1
   have hlk:=IK (Z:=Y) (x:=.mp 0) h (by unfold entriesOf; simp only [hb2]) hsm s
   have hex:∀ x,(∃ f ∈ r.ins.take (j + 1),Mk rs f x) ↔ (∃ f ∈ r.ins.take j,Mk rs f x) \/ Mk rs s x:=fun x=>by
    constructor
    ·rintro ⟨f,hf,hm⟩
     rcases (dP hsj f).1 hf with hf | rfl
     ·exact .inl ⟨f,hf,hm⟩
     ·exact .inr hm
    ·rintro (⟨f,hf,hm⟩ | hm)
     ·exact ⟨f,(dP hsj f).2 (.inl hf),hm⟩
     ·exact ⟨s,(dP hsj s).2 (.inr rfl),hm⟩
   rw [aF]
   rcases hmk s with ⟨hg,hno⟩ | ⟨n,hP,hg⟩
   ·rw [hg] at hlk
    simp only [KP,Ax.loadAt,↓reduceIte,Nat.reduceEqDiff,Nat.reduceLT,h.cK,g3,g47,g48,g49,hlt2,e2,hlk,hadd2]
    refine next2 _ _ (yP (by simp +decide only [GS,g0,g3,g8,g37,g38,g39,g10,g47,g48,and_self]) ⟨kp,w,cur,(by simp +decide only [GS,g11]),ow,fr,by omega,hc40,fun x=>?_⟩)
    rw [hmem,hex]
    exact ⟨fun h=>h.elim .inl fun g=>.inr (.inl g),fun h=>h.elim .inl fun g=>.inr (g.elim id fun g=>absurd g (hno x))⟩
   ·rw [hg] at hlk
    obtain ⟨w',τ',hap,ow',sp',hln',fr'⟩:=iK (ats:=#[28,28]) (m:=[n]) (new:=[[.str n]]) h.aR rfl h.cK rfl (by decide) (fL h) rfl (ow.app [.cells 9 [.str n] true]) (iQ rfl) (.one rfl) (dU (b:=1000) (by decide) (by simp only [List.length_cons,List.length_nil]; omega))
    simp only [KP,Ax.loadAt,↓reduceIte,Nat.reduceEqDiff,Nat.reduceLT,Nat.reduceLeDiff,Nat.reduceMul,h.cK,h.aR,g3,g11,g47,g48,g49,hlt2,e2,hlk,gZ,hap,hadd2]
    refine next2 _ _ (yP (by simp +decide only [GS,g0,g3,g8,g37,g38,g39,g10,g47,g48,and_self]) ⟨fun c o hc=>sp' c o (aL (kp c o hc)) fun e=>absurd (List.getElem?_eq_some_iff.1 hc).1 (by have:=fr c e; omega),w',cur ++ [n],(by simp +decide only [GS]),ow',fun b hb=>?_,by rw [List.length_append,List.length_singleton]; omega,fun x hx=>?_,fun x=>?_⟩)
    ·rcases fr' b hb with g | g
     ·exact fr b g
     ·have h1:=(List.getElem?_eq_some_iff.1 (kp _ _ s1)).1
      have h2:τ1.length <= Y.length:=by
       refine Nat.le_of_not_lt fun hlt=>?_
       obtain ⟨o,ho⟩:∃ o,τ1[Y.length]? = some o:=⟨_,List.getElem?_eq_getElem hlt⟩
       exact absurd (List.getElem?_eq_some_iff.1 (kp _ _ ho)).1 (Nat.lt_irrefl _)
      simp only [List.length_append,List.length_cons,List.length_nil] at g
      omega
    ·rcases List.mem_append.1 hx with hx | hx
     ·exact hc40 x hx
     ·rw [List.mem_singleton.1 hx]; exact hP.short hsh
    ·rw [List.mem_append,hmem,hex,List.mem_singleton]
     constructor
     ·rintro ((h1 | h1) | rfl)
      ·exact .inl h1
      ·exact .inr (.inl h1)
      ·exact .inr (.inr hP)
     ·rintro (h1 | h1 | h1)
      ·exact .inl (.inl h1)
      ·exact .inl (.inr h1)
      ·exact .inr (hsh.jD s x n h1 hP)
  ·rintro F Y ⟨g0,g3,g8,g37,g38,g39,g10,g47,g48,g49,kp,w,cur,g11,ow,fr,hcl,hc40,hmem⟩
   rw [List.take_of_length_le (Nat.le_refl _)] at hmem
   have hlt2:=eA (Nat.lt_irrefl r.ins.length)
   obtain ⟨τ3,cur',hS,hperm,ow3,Gx,hln3⟩:=tT ow (by omega) (fun x hx=>by have:=hc40 x hx; omega)
   have ks:=c_ (fun K=>show aB E 64 [w] Y K = K (.fJ []) τ3 by rw [mY h.Eg,hS]; rfl)
   have kp3:Kp τ1 τ3:=fun c o hc=>Gx c o (kp c o hc) fun e=>absurd (List.getElem?_eq_some_iff.1 hc).1 (by have:=fr c e; omega)
   rw [aF]
   simp only [KP,↓reduceIte,Nat.reduceEqDiff,Nat.reduceLT,g11,g48,g49,hlt2,ks]
   refine rest (rs':=rs.take i) ow3 (by rw [hperm.length_eq]; omega) kp3 fr s1 hA1 ha1 hnn (fun x=>?_) _ ?_ ?_ ?_ _ _ ?_
   ·rw [hperm.mem_iff,hmem]; exact Iff.rfl
   ·exact (by simp +decide only [GS,g8])
   ·exact (by simp +decide only [GS,g10])
   ·exact (by simp +decide only [GS,g11])
   intro F' τ' es' hF hA' ha' hk'
   have q0:F'.get 0 = a:=(hF 0 (by simp)).trans (by simp +decide only [GS,g0])
   have q3:F'.get 3 = .mp 0:=(hF 3 (by simp)).trans (by simp +decide only [GS,g3])
   have q8:F'.get 8 = .mp mA:=(hF 8 (by simp)).trans (by simp +decide only [GS,g8])
   have Tn:F'.get 37 = a:=(hF 37 (by simp)).trans (by simp +decide only [GS,g37])
   have q38:F'.get 38 = .int .i64 (rs.length:Int):=(hF 38 (by simp)).trans (by simp +decide only [GS,g38])
   have q39:F'.get 39 = .int .i64 (i:Int):=(hF 39 (by simp)).trans (by simp +decide only [GS,g39])
   simp only [KP,↓reduceIte,Nat.reduceLT,q39,hadd]
   refine next _ _ (B8 (by simp +decide only [GS,q0,q3,q8,Tn,q38,and_self]) ⟨hk' 0 _ hb1 (Ne.symm hmA),es',hA',?_⟩)
   rw [List.take_add_one,hr]
   exact ha'
 ·rintro F Y ⟨g0,g3,g8,g37,g38,g39,h0,es,hA,ha⟩
  rw [List.take_of_length_le (Nat.le_refl _)] at ha
  obtain ⟨es',e1,a1⟩:=EV h hA ha
  have hlt:=eA (Nat.lt_irrefl rs.length)
  rw [aF]
  simp only [KP,↓reduceIte,Nat.reduceEqDiff,Nat.reduceLT,g8,g38,g39,hlt,e1]
  exact ⟨es',rfl,a1⟩
theorem Pk (h:bK E) {a:V} {rs:List aG} (ha:LS cQ 37 Z a rs) (hs:∀ x ∈ rs,Small x) (hsh:Ci rs) (hl:rs.length <= 1000):aB E 147 [a] Z fun v σ'=>σ' = Z /\ ∃ es,v = .imp false es /\ xK (Nx rs) es rs:=by
 obtain ⟨a',ea,ia⟩:=dB h ha
 rw [aH h.U1 h.SE h.VI h.Ua (args':=[a']) (by simp only [aU,ea]),aZ (by kernel_rfl)]
 have key:=fun Y es0 get h0 hsm hmk F g0 g3=>TN (Y:=Y) (es0:=es0) (get:=get) h ia hs hsh hl h0 hsm hmk F g0 g3
 have k2:=fun F g0 g3 hk=>TO (K:=fun v σ1=>match dI σ1 E.ty false v with
   | some v=>∃ es,v = .imp false es /\ xK (Nx rs) es rs
   | none=>False) h ia hs (by omega) F g0 g3 hk
 rw [show (aA Tryz.f147).code = .seq (cutAt [0] (aA Tryz.f147).code) (.seq (cutAt [1,0] (aA Tryz.f147).code) (cutAt [1,1] (aA Tryz.f147).code)) from rfl]
 generalize cutAt [1,1] (aA Tryz.f147).code = C at k2 ⊢
 simp only [aA,Tryz.f147,KP,↓reduceIte,Nat.reduceLT,cutAt]
 refine k2 _ ?_ ?_ fun F' Y es get g0 g3 hb hsm hmk=>key Y es get hb hsm hmk F' g0 g3
 ·exact (by simp +decide only [GS])
 ·exact (by simp +decide only [GS])
end
end
section
section
variable {E:Env} {Z:Sg} {K:V -> Sg -> Prop}
theorem xK.back {N:aG -> aX -> Prop}:∀ {es:List (V × V)} {rs:List aG},xK N es rs -> lV es = true /\ es.map ks = rs.map aG.name /\ es.length = rs.length
 | _,_,.nil=>⟨rfl,rfl,rfl⟩
 | (a,v) :: es,r :: rs,.cons h t=>by
  obtain ⟨h1,l,h2,h3,-⟩:=h
  obtain ⟨i1,i2,i3⟩:=xK.back (N:=N) t
  dsimp only at h1 h2
  subst h1
  refine ⟨?_,?_,by rw [List.length_cons,List.length_cons,i3]⟩
  ·have hr:∀ l:List aX,tL (l.map fun s=>[V.str s]) = true:=fun l=>by
    induction l with
    | nil=>rfl
    | cons s l ih=>rw [List.map_cons,tL]; exact ih
   rcases h2 with ⟨rfl,-⟩ | ⟨full,rfl⟩
   ·rw [lV]; exact i1
   ·rw [lV,hr,List.length_map,Nat.ble_eq_true_of_le h3]; exact i1
  ·rw [List.map_cons,List.map_cons,i2]; rfl
theorem zH:∀ l:List aX,lZ (l.map fun s=>[V.str s]) = l
 | []=>rfl
 | s :: l=>by rw [List.map_cons,lZ,zH l]
theorem PM.list {v:V} {l:List aX} (h:PM v l):gX v = l:=by
 rcases h with ⟨rfl,rfl⟩ | ⟨full,rfl⟩
 ·rfl
 ·exact zH l
theorem wJ:∀ {es:List (V × V)},iL es -> (es.map ks).Nodup -> fU es = true
 | [],_,_=>rfl
 | e :: es,ha,hn=>by
  obtain ⟨k,hk⟩:=ha _ (List.mem_cons_self ..)
  obtain ⟨a,v⟩:=e
  dsimp only at hk
  subst hk
  rw [List.map_cons,List.nodup_cons] at hn
  have hh:∀ {l:List (V × V)},iL l -> k ∉ l.map ks -> fU.hasKey k l = false:=by
   intro l
   induction l with
   | nil=>intro _ _; rfl
   | cons e l ih=>
    intro ha hk
    obtain ⟨q,hq⟩:=ha _ (List.mem_cons_self ..)
    obtain ⟨b,u⟩:=e
    dsimp only at hq
    subst hq
    rw [List.map_cons,List.mem_cons,not_or] at hk
    rw [fU.hasKey,show Ax.seq q k = false from jI.2 (fun e=>hk.1 e.symm)]
    exact ih (fun e he=>ha e (List.mem_cons_of_mem _ he)) hk.2
  rw [fU,hh (fun e he=>ha e (List.mem_cons_of_mem _ he)) hn.1]
  exact wJ (fun e he=>ha e (List.mem_cons_of_mem _ he)) hn.2
structure NM (rs:List aG) (es:List (V × V)):Prop where
 ok:lV es = true
 keys:es.map ks = rs.map aG.name
 nodup:(es.map ks).Nodup
 nd:fU es = true
 len:es.length = rs.length
 next:∀ r ∈ rs,∀ x,x ∈ bC es r.name ↔ Nx rs r x
theorem xK.mem {N:aG -> aX -> Prop}:∀ {es:List (V × V)} {rs:List aG},xK N es rs -> ∀ r ∈ rs,∃ v l,(V.str r.name,v) ∈ es /\ PM v l /\ ∀ x,x ∈ l ↔ N r x
 | _,_,.nil,r,hr=>by cases hr
 | (a,v) :: es,q :: rs,.cons h t,r,hr=>by
  rcases List.mem_cons.1 hr with rfl | hr
  ·obtain ⟨h1,l,h2,h3,h4⟩:=h
   dsimp only at h1
   subst h1
   exact ⟨v,l,List.mem_cons_self ..,h2,h4⟩
  ·obtain ⟨v',l,h1,h2,h3⟩:=xK.mem (N:=N) t r hr
   exact ⟨v',l,List.mem_cons_of_mem _ h1,h2,h3⟩
theorem sO:∀ {rs:List aG},(∀ (i j:Nat) (p q:aG),rs[i]? = some p -> rs[j]? = some q -> p.name = q.name -> i = j) -> (rs.map aG.name).Nodup
 | [],_=>List.Pairwise.nil
 | r :: rs,h=>by
  rw [List.map_cons,List.nodup_cons]
  refine ⟨fun hm=>?_,sO fun i j p q hp hq e=>by
   have:=h (i + 1) (j + 1) p q hp hq e
   omega⟩
  obtain ⟨q,hq,e⟩:=List.mem_map.1 hm
  obtain ⟨j,hj⟩:=List.mem_iff_getElem?.1 hq
  have:=h 0 (j + 1) r q rfl hj e.symm
  omega
theorem PD {rs:List aG} {es:List (V × V)} (hsh:Ci rs) (h:xK (Nx rs) es rs):NM rs es:=by
 obtain ⟨h1,h2,h3⟩:=h.back
 have hn:(es.map ks).Nodup:=by rw [h2]; exact sO hsh.nodup
 have hb:=lU h1
 refine ⟨h1,h2,hn,wJ (fun e he=>(hb e he).1) hn,h3,fun r hr x=>?_⟩
 obtain ⟨v,l,hm,hv,hx⟩:=h.mem r hr
 rw [qR hb hn hm,hv.list]
 exact hx x
theorem z_ {L:List (List (List Nat))}:∀ {l:List (List Nat)},h_ L l = none ↔ ∀ a ∈ l,fF a L = none
 | []=>⟨fun _ a h=>(by cases h),fun _=>rfl⟩
 | a :: l=>by
  rw [h_]
  have ih:=z_ (L:=L) (l:=l)
  cases hd:fF a L with
  | none=>
   dsimp only
   rw [ih]
   exact ⟨fun h x hx=>(List.mem_cons.1 hx).elim (fun e=>by rw [e]; exact hd) (h x),fun h x hx=>h x (List.mem_cons_of_mem _ hx)⟩
  | some d=>
   refine ⟨fun h=>?_,fun h=>?_⟩
   ·cases hb:h_ L l with
    | none=>rw [hb] at h; cases h
    | some e=>
     rw [hb] at h
     dsimp only at h
     split at h <;> cases h
   ·have:=h a (List.mem_cons_self ..)
    rw [hd] at this; cases this
theorem CX {es:List (V × V)} (hb:eX es) {f:List Nat}:∀ (k:Nat) (x:List Nat),Ao es f k x -> (∀ j,j < k -> ¬ Ao es f j x) -> ∃ ys:List (List Nat),ys.length = k /\ ys.Nodup /\ (∀ y ∈ ys,y ∈ es.map ks) /\ ∀ y ∈ ys,∃ j,1 <= j /\ j <= k /\ Ao es f j y /\ ∀ i,i < j -> ¬ Ao es f i y
 | 0,x,_,_=>⟨[],rfl,List.Pairwise.nil,fun _ h=>(by cases h),fun _ h=>(by cases h)⟩
 | k + 1,x,.succ (nx:=nx) hx hr,hm=>by
  have hmin:∀ j,j < k -> ¬ Ao es f j nx:=fun j hj h=>hm (j + 1) (by omega) (.succ hx h)
  obtain ⟨ys,h1,h2,h3,h4⟩:=CX hb k nx hr hmin
  refine ⟨x :: ys,by rw [List.length_cons,h1],List.nodup_cons.2 ⟨fun hxy=>?_,h2⟩,fun y hy=>?_,fun y hy=>?_⟩
  ·obtain ⟨j,j1,j2,j3,j4⟩:=h4 x hxy
   exact hm j (by omega) j3
  ·rcases List.mem_cons.1 hy with rfl | hy
   ·obtain ⟨v,hv,-⟩:=wM hb hx
    exact List.mem_map.2 ⟨_,hv,rfl⟩
   ·exact h3 y hy
  ·rcases List.mem_cons.1 hy with rfl | hy
   ·exact ⟨k + 1,by omega,Nat.le_refl _,.succ hx hr,hm⟩
   ·obtain ⟨j,j1,j2,j3⟩:=h4 y hy
    exact ⟨j,j1,by omega,j3⟩
theorem LK {es:List (V × V)} (hb:eX es) (hn:(es.map ks).Nodup) {f x:List Nat} {k:Nat} (h:Ao es f k x):∃ d,rR es f x = some d:=by
 have:∃ d,Ao es f d x /\ ∀ j,j < d -> ¬ Ao es f j x:=by
  induction k using Nat.strongRecOn with
  | _ k ih=>
   by_cases hex:∃ j,j < k /\ Ao es f j x
   ·obtain ⟨j,hj,hr⟩:=hex
    exact ih j hj hr
   ·exact ⟨k,h,fun j hj hr=>hex ⟨j,hj,hr⟩⟩
 obtain ⟨d,hr,hm⟩:=this
 obtain ⟨ys,h1,h2,h3,-⟩:=CX hb d x hr hm
 have:=nL h2 h3
 rw [h1,List.length_map] at this
 exact ⟨d,(kJ hb hn).2 ⟨this,hr,hm⟩⟩
theorem Cc {rs:List aG} {es:List (V × V)} (h:NM rs es) (f:aX):h_ (dF es es.length [f]) (bC es f) ≠ none ↔ ∃ n,Ao es f (n + 1) f:=by
 have hb:=lU h.ok
 constructor
 ·intro hne
  have hne:∃ b,h_ (dF es es.length [f]) (bC es f) = some b:=by
   cases he:h_ (dF es es.length [f]) (bC es f) with
   | none=>exact absurd he hne
   | some b=>exact ⟨b,rfl⟩
  obtain ⟨b,hbo⟩:=hne
  obtain ⟨a,ha,hd⟩:=xG _ _ _ hbo
  exact ⟨b,.succ ha ((kJ hb h.nodup).1 hd).2.1⟩
 ·rintro ⟨n,hr⟩ hno
  cases hr with
  | succ hx hr=>
   obtain ⟨d,hd⟩:=LK hb h.nodup hr
   have:=z_.1 hno _ hx
   rw [show fF _ (dF es es.length [f]) = some d from hd] at this
   cases this
end
end
section
section
variable {E:Env} {Z:Sg} {K:V -> Sg -> Prop}
theorem iJ {α:Type} {p:α -> Bool}:∀ {l:List α} {k:Nat},bJ p l = some k -> ∃ x,l[k]? = some x /\ p x = true
 | [],_,h=>by cases h
 | x :: l,k,h=>by
  rw [bJ] at h
  by_cases hx:p x = true
  ·rw [if_pos hx] at h; cases h; exact ⟨x,rfl,hx⟩
  ·rw [if_neg hx] at h
   cases hf:bJ p l with
   | none=>rw [hf] at h; cases h
   | some j=>
    rw [hf] at h
    cases h
    obtain ⟨y,h1,h2⟩:=iJ hf
    exact ⟨y,h1,h2⟩
structure Good (rs:List aG):Prop where
 short:Ci rs
 known:∀ r ∈ rs,∀ n ∈ r.after,gU rs n = true
 len:rs.length <= 40
 rule:∀ r ∈ rs,aY r = 0
theorem ID {s:aX} (h:bR s = true):s.length <= 40:=by
 unfold bR at h
 simp only [Bool.and_eq_true,decide_eq_true_eq] at h
 exact h.1.2
theorem nD {rs:List aG} (h:gE rs = 0):Good rs:=by
 unfold gE at h
 cases hf:rs.find? (fun r=>decide (aY r ≠ 0)) with
 | some r=>
  rw [hf] at h
  have:=List.find?_some hf
  rw [decide_eq_true_eq] at this
  exact absurd h this
 | none=>
  rw [hf] at h
  dsimp only at h
  have hr:∀ r ∈ rs,aY r = 0:=fun r hr=>by
   have:=List.find?_eq_none.1 hf r hr
   simpa using this
  by_cases h40:40 < rs.length
  ·rw [if_pos h40] at h; cases h
  rw [if_neg h40] at h
  cases hc:rG rs with
  | true=>rw [if_pos hc] at h; cases h
  | false=>
  rw [if_neg (by rw [hc]; simp)] at h
  cases hst:fV rs with
  | true=>rw [if_pos hst] at h; cases h
  | false=>
  have hcl:∀ i r,rs[i]? = some r -> gU (rs.take i) r.name = false /\ r.outs.any (uH (rs.take i)) = false:=fun i r hi=>by
   have:=List.any_eq_false.1 hc i (List.mem_range.2 (List.getElem?_eq_some_iff.1 hi).1)
   rw [B6 hi] at this
   simpa using this
  have hform:∀ r ∈ rs,bR r.name = true /\ r.after.all bR = true:=fun r hm=>by
   have:=hr r hm
   unfold aY at this
   by_cases hfo:lB r = false
   ·rw [if_pos hfo] at this; cases this
   ·have hfo:lB r = true:=by simpa using hfo
    unfold lB at hfo
    simp only [Bool.and_eq_true] at hfo
    exact ⟨hfo.1.1.1.1.1,hfo.1.2⟩
  have before:∀ (i j:Nat) (p:aG),j < i -> rs[j]? = some p -> p ∈ rs.take i:=fun i j p hji hj=>List.mem_of_getElem? (by rw [List.getElem?_take_of_lt hji]; exact hj)
  refine ⟨⟨fun r hm=>ID (hform r hm).1,fun r hm s hs=>ID (List.all_eq_true.1 (hform r hm).2 s hs),?_,?_⟩,fun r hm n hn=>?_,by omega,hr⟩
  ·have key:∀ (i j:Nat) (p q:aG),j < i -> rs[i]? = some p -> rs[j]? = some q -> p.name ≠ q.name:=fun i j p q hji hp hq e=>by
    have:=(hcl i p hp).1
    rw [show gU (rs.take i) p.name = true from List.any_eq_true.2 ⟨q,before i j q hji hq,decide_eq_true e.symm⟩] at this
    cases this
   intro i j p q hp hq e
   rcases Nat.lt_trichotomy i j with g | g | g
   ·exact absurd e.symm (key j i q p g hq hp)
   ·exact g
   ·exact absurd e (key i j p q g hp hq)
  ·have key:∀ (i j:Nat) (p q:aG) (f:aX),j < i -> rs[i]? = some p -> rs[j]? = some q -> f ∈ p.outs -> f ∈ q.outs -> False:=fun i j p q f hji hp hq h1 h2=>by
    have:=(hcl i p hp).2
    rw [show p.outs.any (uH (rs.take i)) = true from List.any_eq_true.2 ⟨f,h1,List.any_eq_true.2 ⟨q,before i j q hji hq,decide_eq_true h2⟩⟩] at this
    cases this
   rintro f n m ⟨p,hp,h1,rfl⟩ ⟨q,hq,h2,rfl⟩
   obtain ⟨i,hi⟩:=List.mem_iff_getElem?.1 hp
   obtain ⟨j,hj⟩:=List.mem_iff_getElem?.1 hq
   rcases Nat.lt_trichotomy i j with g | g | g
   ·exact (key j i q p f g hj hi h2 h1).elim
   ·subst g
    rw [hi] at hj
    cases hj
    rfl
   ·exact (key i j p q f g hi hj h1 h2).elim
  ·have h1:=List.any_eq_false.1 hst r hm
   have h2:(r.after.any fun n=>decide (fK rs n = none)) = false:=by simpa using h1
   have h3:=List.any_eq_false.1 h2 n hn
   rw [sF] at h3
   simpa using h3
theorem sN {rs:List aG} {es:List (V × V)} (g:Good rs) (h:NM rs es) {i:Nat} {r:aG} (hi:rs[i]? = some r) (x:aX):x ∈ bC es r.name ↔ ∃ k q,iC rs false i k = true /\ rs[k]? = some q /\ q.name = x:=by
 have hm:=List.mem_of_getElem? hi
 rw [h.next r hm]
 have hd:∀ k,iC rs false i k = true ↔ (∃ f ∈ r.ins,e_ rs f = some k) \/ ∃ n ∈ r.after,fK rs n = some k:=fun k=>by
  unfold iC wN
  rw [hi]
  simp only [Bool.not_false,Bool.true_and,Bool.or_eq_true,List.any_eq_true,decide_eq_true_eq]
 constructor
 ·rintro (hx | ⟨f,hf,hmk⟩)
  ·have hk:=g.known r hm x hx
   unfold gU at hk
   rw [<- b_] at hk
   obtain ⟨k,hk⟩:=Option.isSome_iff_exists.1 hk
   obtain ⟨q,h1,h2⟩:=iJ hk
   exact ⟨k,q,(hd k).2 (.inr ⟨x,hx,hk⟩),h1,of_decide_eq_true h2⟩
  ·obtain ⟨p,hp,hfp,rfl⟩:=hmk
   obtain ⟨k,hk⟩:=mL (p:=fun q:aG=>decide (f ∈ q.outs)) hp (decide_eq_true hfp)
   obtain ⟨q,h1,h2⟩:=iJ hk
   exact ⟨k,q,(hd k).2 (.inl ⟨f,hf,hk⟩),h1,g.short.jD f _ _ ⟨q,List.mem_of_getElem? h1,of_decide_eq_true h2,rfl⟩ ⟨p,hp,hfp,rfl⟩⟩
 ·rintro ⟨k,q,hk,hq,rfl⟩
  rcases (hd k).1 hk with ⟨f,hf,h1⟩ | ⟨n,hn,h1⟩
  ·obtain ⟨q',h2,h3⟩:=iJ h1
   rw [hq] at h2
   cases h2
   exact .inr ⟨f,hf,q,List.mem_of_getElem? hq,of_decide_eq_true h3,rfl⟩
  ·obtain ⟨q',h2,h3⟩:=iJ h1
   rw [hq] at h2
   cases h2
   rw [of_decide_eq_true h3]
   exact .inl hn
theorem Nu {rs:List aG} {es:List (V × V)} (g:Good rs) (h:NM rs es) {i k:Nat} (hw:AxS.Way (iC rs false) i k):∀ {p q:aG},rs[i]? = some p -> rs[k]? = some q -> ∃ n,Ao es q.name (n + 1) p.name:=by
 induction hw with
 | one hm=>
  intro p q hp hq
  exact ⟨0,.succ ((sN g h hp _).2 ⟨_,q,hm,hq,rfl⟩) .zero⟩
 | @cons i j k hm _ ih=>
  intro p q hp hq
  have hj:∃ s,rs[j]? = some s:=by
   unfold iC at hm
   rw [hp] at hm
   unfold wN at hm
   simp only [Bool.or_eq_true,Bool.and_eq_true,List.any_eq_true,decide_eq_true_eq] at hm
   rcases hm with ⟨f,-,h1⟩ | ⟨-,n,-,h1⟩
   ·obtain ⟨s,h2,-⟩:=iJ h1; exact ⟨s,h2⟩
   ·obtain ⟨s,h2,-⟩:=iJ h1; exact ⟨s,h2⟩
  obtain ⟨s,hs⟩:=hj
  obtain ⟨n,hr⟩:=ih hs hq
  exact ⟨n + 1,.succ ((sN g h hp _).2 ⟨j,s,hm,hs,rfl⟩) hr⟩
theorem LJ {es:List (V × V)} {f x:List Nat} (h:Ao es f 0 x):x = f:=by cases h; rfl
theorem Iy {rs:List aG} {es:List (V × V)} (g:Good rs) (h:NM rs es) {k:Nat} {q:aG} (hq:rs[k]? = some q):∀ (n i:Nat) (p:aG),rs[i]? = some p -> Ao es q.name (n + 1) p.name -> AxS.Way (iC rs false) i k
 | n,i,p,hp,.succ (nx:=nx) hx hr=>by
  obtain ⟨j,s,hm,hs,rfl⟩:=(sN g h hp _).1 hx
  cases n with
  | zero=>
   have e:s.name = q.name:=LJ hr
   have:=g.short.nodup j k s q hs hq e
   subst this
   exact .one hm
  | succ n=>exact .cons hm (Iy g h hq n j s hs hr)
theorem Bd {rs:List aG} {es:List (V × V)} (g:Good rs) (h:NM rs es):Ring rs ↔ ∃ r ∈ rs,h_ (dF es es.length [r.name]) (bC es r.name) ≠ none:=by
 constructor
 ·rintro ⟨i,hi,hw⟩
  have hr:rs[i]? = some rs[i]:=List.getElem?_eq_getElem hi
  obtain ⟨n,hn⟩:=Nu g h hw hr hr
  exact ⟨_,List.mem_of_getElem? hr,(Cc h _).2 ⟨n,hn⟩⟩
 ·rintro ⟨r,hr,hb⟩
  obtain ⟨i,hi⟩:=List.mem_iff_getElem?.1 hr
  obtain ⟨n,hn⟩:=(Cc h _).1 hb
  exact ⟨i,(List.getElem?_eq_some_iff.1 hi).1,Iy g h hi n i r hi hn⟩
end
end
section
section
variable {E:Env} {Z:Sg} {K:V -> Sg -> Prop}
theorem Kz {rs:List aG} {es:List (V × V)} (h:NM rs es) (hl:rs.length <= 1000) (g:Bool) (f:aX):nO [.imp g es,.str f] = some (mT es f):=by
 show (match lV es,fU es,Nat.ble es.length 1000000 with
  | true,true,true=>some (mT es f)
  | _,_,_=>none) = _
 rw [h.ok,h.nd,Nat.ble_eq_true_of_le (by rw [h.len]; omega)]
theorem Cd (es:List (V × V)) (f:aX):(h_ (dF es es.length [f]) (bC es f) = none /\ mT es f = .aC) \/ (h_ (dF es es.length [f]) (bC es f) ≠ none /\ ∃ l full,mT es f = .bP false ((f :: l).map fun s=>[V.str s]) full):=by
 unfold mT
 dsimp only
 cases h_ (dF es es.length [f]) (bC es f) with
 | none=>exact .inl ⟨rfl,rfl⟩
 | some b=>exact .inr ⟨by simp,_,_,rfl⟩
theorem Q8 (h:bK E) {rs:List aG} {es:List (V × V)} (hn:NM rs es) (hl:rs.length <= 1000) (g:Bool) (f:aX):aB E 148 [.imp g es,.str f] Z K = K (mT es f) Z:=by
 have h5:dI [] E.ty false (mT es f) = some (mT es f):=by
  rcases Cd es f with ⟨-,e⟩ | ⟨-,l,full,e⟩
  ·rw [e]; rfl
  ·rw [e]; exact CP rfl rfl
 have hi:Ax.bB (.imp g es) = true:=rfl
 exact rW (args':=[.imp g es,.str f]) h.U0 h.SD (by simp only [aU,cH,eO hi (cP hi)]) (Kz hn hl g f) h5
theorem Wi (h:bK E) {rs:List aG} {es:List (V × V)} {g:Bool} (hg:Good rs) (hn:NM rs es) {Y:Sg} {w:V} (ow:bI aK 9 Y w (rs.map aG.name)) (F:FT) (g5:F.get 5 = .imp g es) (g6:F.get 6 = w) :
  R E (cutAt [1,1,1,1,1] (aA Tryz.f109).code) [] ⟨48,F⟩ Y (kS E (aA Tryz.f109).results (fun v σ1=>match dI σ1 E.ty false v with
   | some v=>(v = .aC /\ ¬ Ring rs) \/ ∃ x l,jS aK v (x :: l) /\ Ring rs
   | none=>False)):=by
 have h40:=hg.len
 have hll:(rs.map aG.name).length <= 40:=by rw [List.length_map]; omega
 obtain ⟨τ3,ns,hS,hperm,ow3,-,-⟩:=tT ow (by omega) (fun x hx=>by
  obtain ⟨r,hr,rfl⟩:=List.mem_map.1 hx
  have:=hg.short.names r hr
  omega)
 have ks:=c_ (fun K=>show aB E 64 [w] Y K = K (.fJ []) τ3 by rw [mY h.Eg,hS]; rfl)
 have hnl:ns.length <= 40:=by rw [hperm.length_eq]; omega
 have lw:=pG h.aR rfl ow3.ls
 simp only [aA,Tryz.f109,KP,↓reduceIte,Nat.reduceEqDiff,Nat.reduceLT,cutAt,g6,ks,lw]
 refine aP (fun i F Y=>Y = τ3 /\ F.get 5 = .imp g es /\ F.get 35 = w /\ F.get 36 = .int .i64 (ns.length:Int) /\ F.get 37 = .int .i64 (i:Int) /\ ∀ (j:Nat) (x:aX),j < i -> ns[j]? = some x -> h_ (dF es es.length [x]) (bC es x) = none) ns.length ?_ ?_ ns.length 0 _ _ (by omega) ⟨rfl,(gC (by simp +decide only [GS,g5,and_self]) (fun j x hj=>by omega))⟩
 ·rintro i F Y hi ⟨rfl,g5,g35,g36,g37,hp⟩ next
  obtain ⟨x,hx⟩:∃ y,ns[i]? = some y:=⟨_,List.getElem?_eq_getElem hi⟩
  obtain ⟨p,r,e4,e5,-,e6,-⟩:=Dw (Z:=Y) h.aR rfl h.cK rfl ow3.ls hx
  have e6:=e6 rfl (by decide)
  rw [show r = [.str x] from e5] at e6
  have e6:loadAt E Y 9 p = some (.str x):=e6
  have hlt:=d_ hi
  have hadd:=bU i (by omega)
  have kb:=fun (Z:Sg)=>c_ (fun K=>Q8 (Z:=Z) (K:=K) h hn (by omega) g x)
  have hxm:x ∈ rs.map aG.name:=hperm.mem_iff.1 (List.mem_of_getElem? hx)
  obtain ⟨q,hq,hqx⟩:=List.mem_map.1 hxm
  rw [aF]
  rcases Cd es x with ⟨hb,e⟩ | ⟨hb,l,full,e⟩
  ·simp only [KP,↓reduceIte,Nat.reduceEqDiff,Nat.reduceLT,g5,g35,g36,g37,hlt,e4,e6,kb,e,BU h,hadd]
   refine next _ _ ⟨rfl,(gC (by simp +decide only [GS,g5,g35,g36,and_self]) (fun j y hj hy=>?_))⟩
   rcases Nat.lt_or_ge j i with gg | gg
   ·exact hp j y gg hy
   ·obtain rfl:j = i:=by omega
    rw [hx] at hy; cases hy; exact hb
  ·have hsn:∀ Z,dI Z E.ty false (.bP false ((x :: l).map fun s=>[V.str s]) full) = some (.bP false ((x :: l).map fun s=>[V.str s]) full):=fun Z=>CP rfl rfl
   simp only [KP,↓reduceIte,Nat.reduceEqDiff,Nat.reduceLT,reduceCtorEq,g5,g35,g36,g37,hlt,e4,e6,kb,e,BS h,hsn]
   exact .inr ⟨x,l,.inr ⟨_,full,rfl,yF _⟩,(Bd hg hn).2 ⟨q,hq,by rw [hqx]; exact hb⟩⟩
 ·rintro F Y ⟨rfl,g5,g35,g36,g37,hp⟩
  have hlt:=eA (Nat.lt_irrefl ns.length)
  rw [aF]
  simp only [KP,↓reduceIte,Nat.reduceLT,g36,g37,hlt]
  refine .inl ⟨rfl,fun hr=>?_⟩
  obtain ⟨r,hr,hb⟩:=(Bd hg hn).1 hr
  obtain ⟨j,hj⟩:=List.mem_iff_getElem?.1 (hperm.mem_iff.2 (List.mem_map.2 ⟨r,hr,rfl⟩))
  exact hb (hp j r.name (List.getElem?_eq_some_iff.1 hj).1 hj)
theorem M5 (h:bK E) {a:V} {rs:List aG} (ha:LS cQ 37 Z a rs) (hs:∀ x ∈ rs,Small x) (hp:gE rs = 0):aB E 109 [a] Z fun v σ'=>σ' = Z /\ ((v = .aC /\ ¬ Ring rs) \/ ∃ x l,jS aK v (x :: l) /\ Ring rs):=by
 obtain ⟨a',ea,ia⟩:=dB h ha
 have hg:=nD hp
 have h40:=hg.len
 rw [aH h.Va h.SP h.VT h.Uk (args':=[a']) (by simp only [aU,ea]),aZ (by kernel_rfl)]
 have la:=cA h ia
 have key:=fun es g hn Y w ow F g5 g6=>Wi (E:=E) (rs:=rs) (es:=es) (g:=g) (Y:=Y) (w:=w) h hg hn ow F g5 g6
 rw [show (aA Tryz.f109).code = .seq (cutAt [0] (aA Tryz.f109).code) (.seq (cutAt [1,0] (aA Tryz.f109).code) (.seq (cutAt [1,1,0] (aA Tryz.f109).code) (.seq (cutAt [1,1,1,0] (aA Tryz.f109).code) (.seq (cutAt [1,1,1,1,0] (aA Tryz.f109).code) (cutAt [1,1,1,1,1] (aA Tryz.f109).code))))) from rfl]
 generalize cutAt [1,1,1,1,1] (aA Tryz.f109).code = C at key ⊢
 simp only [aA,Tryz.f109,KP,↓reduceIte,Nat.reduceLT,reduceCtorEq,cutAt]
 refine aO (Je h (ia.ls _ 37) hs (by omega)) ?_
 rintro v σ' ⟨rfl,nm,rfl⟩
 rw [hp]
 simp only [KP,↓reduceIte,Nat.reduceEqDiff,Nat.reduceLT,reduceCtorEq]
 refine aO (Pk h (ia.ls _ 37) hs hg.short (by omega)) ?_
 rintro v σ' ⟨rfl,es,rfl,hv⟩
 have hn:=PD hg.short hv
 simp only [KP,↓reduceIte,Nat.reduceLT,reduceCtorEq,la]
 refine aP (fun i F Y=>F.get 5 = .imp false es /\ F.get 21 = a' /\ F.get 22 = .int .i64 (rs.length:Int) /\ F.get 23 = .int .i64 (i:Int) /\ ∃ w,F.get 6 = w /\ bI aK 9 Y w ((rs.take i).map aG.name)) rs.length ?_ ?_ rs.length 0 _ _ (by omega) (gC (by simp +decide only [GS,and_self]) ⟨.aC,(by simp +decide only [GS]),.inl ⟨rfl,rfl⟩⟩)
 ·rintro i F Y hi ⟨g5,g21,g22,g23,w,g6,ow⟩ next
  obtain ⟨r,hr⟩:∃ y,rs[i]? = some y:=⟨_,List.getElem?_eq_getElem hi⟩
  obtain ⟨g,p1,p2,p3,p4,e1,i1,i2,i3,i4⟩:=eE h ia hr
  have o1:=aI i1.bB
  have o2:=aI i2.bB
  have o3:=aI i3.bB
  have o4:=aI i4.bB
  have hlt:=d_ hi
  have hadd:=bU i (by omega)
  have s1:(Y ++ [O.cells 37 [.str r.name,p1,p2,p3,p4] true])[Y.length]? = some (O.cells 37 [.str r.name,p1,p2,p3,p4] true):=aQ
  have ow1:=ow.app [O.cells 37 [.str r.name,p1,p2,p3,p4] true]
  rw [aF]
  simp only [KP,Ax.loadAt,Ax.storeAt,↓reduceIte,Nat.reduceEqDiff,Nat.reduceLT,Nat.reduceLeDiff,Nat.reduceAdd,Nat.reduceMul,reduceCtorEq,h.cK,h.aR,h.bD,g6,g21,g22,g23,hlt,e1,o1,o2,o3,o4,aQ,cV]
  generalize Y ++ [O.cells 37 [.str r.name,p1,p2,p3,p4] true] = τ1 at *
  generalize Y.length = y at *
  obtain ⟨w',τ',hap,ow',-,-,-⟩:=iK (ats:=#[28,28]) (m:=[r.name]) (new:=[[.str r.name]]) h.aR rfl h.cK rfl (by decide) (fL h) rfl (ow1.app [.cells 9 [.str r.name] true]) (iQ rfl) (.one rfl) (dU (b:=1000) (by decide) (by rw [List.length_map,List.length_take]; simp only [List.length_cons,List.length_nil]; omega))
  simp only [KP,↓reduceIte,Nat.reduceEqDiff,Nat.reduceLT,g23,gZ,hap,hadd]
  refine next _ _ (gC (by simp +decide only [GS,g5,g21,g22,and_self]) ⟨w',(by simp +decide only [GS]),?_⟩)
  rw [List.take_add_one,hr,List.map_append]
  exact ow'
 ·rintro F Y ⟨g5,g21,g22,g23,w,g6,ow⟩
  rw [List.take_of_length_le (Nat.le_refl _)] at ow
  have hlt:=eA (Nat.lt_irrefl rs.length)
  rw [aF]
  simp only [KP,↓reduceIte,Nat.reduceLT,g22,g23,hlt]
  exact key es false hn _ w ow _ (by simp +decide only [GS,g5]) (by simp +decide only [GS,g6])
theorem HL (h:bK E) {a:V} {rs:List aG} (ha:LS cQ 37 Z a rs) (hs:∀ x ∈ rs,Small x) (hl:rs.length <= 4294967296):aB E 62 [a] Z fun v σ'=>σ' = Z /\ ∃ e nm,v = .fJ [.int .i64 e,.str nm] /\ Gu rs e:=by
 obtain ⟨a',ea,ia⟩:=dB h ha
 rw [aH h.hs62 h.sp62 h.fn62 h.md62 (args':=[a']) (by simp only [aU,ea]),aZ (by kernel_rfl)]
 have d6:=h.We
 simp only [aA,Tryz.f62,cutAt,Option.getD_some] at d6
 simp only [aA,Tryz.f62,KP,↓reduceIte,Nat.reduceLT,reduceCtorEq,kK]
 refine aO (Je h (ia.ls _ 37) hs hl) ?_
 rintro v σ' ⟨rfl,nm,rfl⟩
 by_cases hp:gE rs = 0
 case neg=>
  have q:=decide_eq_false hp
  simp only [KP,↓reduceIte,Nat.reduceEqDiff,Nat.reduceLT,q]
  exact ⟨gE rs,nm,rfl,.inl ⟨hp,rfl⟩⟩
 have q:=decide_eq_true hp
 simp only [KP,↓reduceIte,Nat.reduceEqDiff,Nat.reduceLT,reduceCtorEq,q]
 refine aO (M5 h (ia.ls _ 37) hs hp) ?_
 rintro v σ' ⟨rfl,hv⟩
 rcases hv with ⟨rfl,hr⟩ | ⟨x,l,iv,hr⟩
 ·simp only [KP,↓reduceIte,Nat.reduceEqDiff,Nat.reduceLT,kK,BU h]
  exact ⟨0,[],rfl,.inr ⟨hp,.inr ⟨hr,rfl⟩⟩⟩
 ·obtain ⟨g,e1⟩:=fM h iv.is (i:=0) (x:=x) rfl
  have e1:indexAddr E 28 v (.int .i64 0) = some (.cT g [.str x]):=e1
  have en:rU E 28 true v .aC = some false:=by
   rcases iv with ⟨-,e⟩ | ⟨rs',full,rfl,-⟩
   ·cases e
   ·exact BS h
  simp only [KP,Ax.loadAt,↓reduceIte,Nat.reduceEqDiff,Nat.reduceLT,h.cK,en,e1,bG d6,cC]
  exact ⟨3,x,rfl,.inr ⟨hp,.inl ⟨hr,rfl⟩⟩⟩
end
end
section
structure PN (E:Env):Prop where
 hs14:E.hspec 14 = none
 Ln:E.spec 14 = none
 fn14:E.fn 14 = some (aA Tryz.f14)
 md14:E.mode 14 = .fO
 hs66:E.hspec 66 = none
 sp66:E.spec 66 = none
 fn66:E.fn 66 = some (aA Tryz.f66)
 md66:E.mode 66 = .fO
 hs68:E.hspec 68 = none
 sp68:E.spec 68 = none
 fn68:E.fn 68 = some (aA Tryz.f68)
 md68:E.mode 68 = .fO
 hs15:E.hspec 15 = none
 Lm:E.spec 15 = none
 fn15:E.fn 15 = some (aA Tryz.f15)
 md15:E.mode 15 = .fO
 hs69:E.hspec 69 = none
 sp69:E.spec 69 = none
 fn69:E.fn 69 = some (aA Tryz.f69)
 md69:E.mode 69 = .fO
 Rr:aV E (cutAt [1,1,1,1,1,1,1,0,2,2,1,2,1,0] (aA Tryz.f14).code) = true
section
variable {E:Env} {Z:Sg} {K:V -> Sg -> Prop}
theorem F8 (h:bK E):fA E 9 = iB:=by
 funext x y
 unfold fA iB
 rw [h.cK]
 cases x <;> cases y <;> rfl
theorem Hj (h:bK E) {Z:Sg} {g:Bool} {es:List (V × V)} (hb:eX es) (k:aX):lookup E Z 96 (.imp g es) (.str k) false = some (Ax.valOf es k):=by
 have hk:dS E 9 (.str k) = true:=by unfold dS; rw [h.cK]
 obtain ⟨r,h1,h2⟩:=wV (x:=k) hb
 rw [<- F8 h] at h1
 unfold Ax.lookup
 simp only [h.NB,h.aR,hk,entriesOf,h1,Bool.not_true,Bool.false_eq_true,if_false]
 rw [<- h2]
 cases r <;> rfl
theorem KW {es:List (V × V)} (hb:eX es) (k:aX):IS aK (Ax.valOf es k) (bC es k):=by
 rcases rY (x:=k) hb with ⟨h1,h2⟩ | ⟨g,full,h1⟩
 ·exact .inl ⟨h1,h2⟩
 ·exact .inr ⟨g,_,full,h1,tO _⟩
theorem Wn (h:bK E) (h':PN E) {es:List (V × V)} {p:aX -> Bool} {y:aX} {g g2:Bool} (hs:SB E es p):aB E 68 [.str y,.cT g [.imp g2 es]] [] K = K (.bool (!p y)) []:=by
 refine aB.of ?_
 have hi:Ax.bB (.cT g [.imp g2 es]) = true:=rfl
 have ew:=eO (Z:=[]) (ty:=E.ty) hi (cP hi)
 rw [aH h'.hs68 h'.sp68 h'.fn68 h'.md68 (args':=[.str y,.cT g [.imp g2 es]]) (by simp only [aU,cH,ew]),aZ (by kernel_rfl)]
 have hl:=fun Z=>wQ (Z:=Z) (x:=.imp g2 es) h rfl hs y
 simp only [aA,Tryz.f68,KP,Ax.loadAt,↓reduceIte,Nat.reduceEqDiff,Nat.reduceLT,Nat.reduceAdd,reduceCtorEq,h.rZ,hl]
 exact rfl
theorem b_R1 (h:bK E) (h':PN E) {es en:List (V × V)} {p:aX -> Bool} {y:aX} {g g2 g3 g4:Bool} (hs:SB E es p) (hb:eX en) (hlen:∀ k,(bC en k).length <= 4294967296):aB E 66 [.str y,.cT g [.imp g2 es],.cT g3 [.imp g4 en]] [] K = K (.bool (!p y && (bC en y).all p)) []:=by
 refine aB.of ?_
 have hi:Ax.bB (.cT g [.imp g2 es]) = true:=rfl
 have hi2:Ax.bB (.cT g3 [.imp g4 en]) = true:=rfl
 have ew:=eO (Z:=[]) (ty:=E.ty) hi (cP hi)
 have ew2:=eO (Z:=[]) (ty:=E.ty) hi2 (cP hi2)
 rw [aH h'.hs66 h'.sp66 h'.fn66 h'.md66 (args':=[.str y,.cT g [.imp g2 es],.cT g3 [.imp g4 en]]) (by simp only [aU,cH,ew,ew2]),aZ (by kernel_rfl)]
 have hl:=fun Z=>wQ (Z:=Z) (x:=.imp g2 es) h rfl hs y
 have hn:=fun Z=>Hj (Z:=Z) (g:=g4) h hb y
 have iv:=KW hb y
 have kc:=fun (Y:Sg)=>Ec (Z:=Y) (k:=68) (caps:=[.cT g [.imp g2 es]]) (P:=fun y=>!p y) h (iv.ls Y 9) (hlen y) (fun c hc=>by cases hc with | head=>rfl | tail _ hc=>cases hc) (fun y v hy hv=>by
  subst hv
  show aB E 68 [.str y,.cT g [.imp g2 es]] [] _
  rw [Wn h h' hs]; exact ⟨rfl,rfl⟩)
 cases e:p y with
 | true=>
  simp only [aA,Tryz.f66,KP,Ax.loadAt,↓reduceIte,Nat.reduceEqDiff,Nat.reduceLT,Nat.reduceAdd,reduceCtorEq,h.rZ,hl,e]
  exact rfl
 | false=>
  simp only [aA,Tryz.f66,KP,Ax.loadAt,↓reduceIte,Nat.reduceEqDiff,Nat.reduceLT,Nat.reduceAdd,reduceCtorEq,h.NB,h.rZ,hl,hn,kc,e]
  rw [<- List.not_all_eq_any_not,Bool.not_not]
  exact rfl
theorem Hf {es:List (V × V)} {ns:List aX} (hac:∀ x ∈ ns,∀ n,¬ Ao es x (n + 1) x) {U:aX -> Prop} (hU:∀ x ∈ ns,U x -> ∃ y ∈ ns,U y /\ y ∈ bC es x):∀ x ∈ ns,¬ U x:=by
 intro x0 h0 u0
 have step:∀ a:{x:aX // x ∈ ns /\ U x},∃ b:{x:aX // x ∈ ns /\ U x},b.1 ∈ bC es a.1:=fun ⟨x,hx,ux⟩=>by
  obtain ⟨y,hy,uy,hn⟩:=hU x hx ux
  exact ⟨⟨y,hy,uy⟩,hn⟩
 let nx:{x:aX // x ∈ ns /\ U x} -> {x:aX // x ∈ ns /\ U x}:=fun a=>Classical.choose (step a)
 have hnx:∀ a,(nx a).1 ∈ bC es a.1:=fun a=>Classical.choose_spec (step a)
 let p:Nat -> {x:aX // x ∈ ns /\ U x}:=fun n=>Nat.rec ⟨x0,h0,u0⟩ (fun _ a=>nx a) n
 have hp:∀ n,(p (n + 1)).1 ∈ bC es (p n).1:=fun n=>hnx (p n)
 have hr:∀ d a,Ao es (p (a + d)).1 d (p a).1:=fun d=>by
  induction d with
  | zero=>intro a; exact .zero
  | succ d ih=>
   intro a
   have:=ih (a + 1)
   rw [show a + 1 + d = a + (d + 1) by omega] at this
   exact .succ (hp a) this
 have hinj:∀ a b,a < b -> (p a).1 ≠ (p b).1:=fun a b hab e=>by
  have:=hr (b - a) a
  rw [show a + (b - a) = b by omega,<- e,show b - a = (b - a - 1) + 1 by omega] at this
  exact hac _ (p a).2.1 _ this
 have hnd:((List.range (ns.length + 1)).map fun j=>(p j).1).Nodup:=by
  rw [List.Nodup,List.pairwise_map]
  exact List.Pairwise.imp (fun h=>hinj _ _ h) List.pairwise_lt_range
 have:=nL hnd fun x hx=>by
  obtain ⟨j,-,rfl⟩:=List.mem_map.1 hx
  exact (p j).2.1
 rw [List.length_map,List.length_range] at this
 omega
end
end
section
section
variable {E:Env} {Z:Sg} {K:V -> Sg -> Prop}
theorem G9 {Y:Sg} {w:V} {l:List aX} {k:Nat} {es:List (V × V)} (hb:Y[k]? = some (.map es)) (ow:bI aK 9 Y w l):aW w ≠ some k:=by
 rcases ow with ⟨rfl,-⟩ | ⟨b,rs,ex,rfl,hc,-⟩
 ·intro e; cases e
 ·intro e
  cases e
  rw [hb] at hc
  cases hc
def t_ (E:Env):Prop:=∀ {Z:Sg} {a:V} {rs:List aG},LS cQ 37 Z a rs -> (∀ x ∈ rs,Small x) -> eS rs -> aB E 63 [a] Z fun v σ'=>σ' = Z /\ ∃ es,v = .imp false es /\ xK (Nx rs) es rs
structure oZ (rs:List aG) (o:List aX):Prop where
 len:o.length = rs.length
 nodup:o.Nodup
 mem:∀ x ∈ o,x ∈ rs.map aG.name
 behind:∀ (i k:Nat) (p q:aG),rs[i]? = some p -> rs[k]? = some q -> iC rs false i k = true -> ∀ (j:Nat),o[j]? = some p.name -> q.name ∈ o.take j
structure qD (E:Env) (Y:Sg) (es:List (V × V)) (p:aX -> Bool):Prop where
 b0:Y[0]? = some (.cells 96 [.imp false es] true)
 b2:Y[2]? = some (.cells 98 [.mp 1] true)
 b1:∃ e1,Y[1]? = some (.map e1) /\ SB E e1 p
theorem qD.app {Y:Sg} {es:List (V × V)} {p:aX -> Bool} (h:qD E Y es p) (y:O):qD E (Y ++ [y]) es p:=by
 obtain ⟨e1,h1,h2⟩:=h.b1
 exact ⟨aL h.b0,aL h.b2,e1,aL h1,h2⟩
theorem qD.sp {Y τ':Sg} {es:List (V × V)} {p:aX -> Bool} {w:V} {l:List aX} (h:qD E Y es p) (ow:bI aK 9 Y w l) (sp:Sp Y τ' w):qD E τ' es p:=by
 obtain ⟨e1,h1,h2⟩:=h.b1
 exact ⟨sp _ _ h.b0 (kG h.b0 (by decide) ow),sp _ _ h.b2 (kG h.b2 (by decide) ow),e1,sp _ _ h1 (G9 h1 ow),h2⟩
theorem qD.put {Y:Sg} {es e1:List (V × V)} {p q:aX -> Bool} (h:qD E Y es p) (hs:SB E e1 q):qD E (Y.set 1 (.map e1)) es q:=by
 obtain ⟨e0,h1,-⟩:=h.b1
 exact ⟨by rw [List.getElem?_set_ne (by decide)]; exact h.b0,by rw [List.getElem?_set_ne (by decide)]; exact h.b2,e1,by rw [List.getElem?_set_self (List.getElem?_eq_some_iff.1 h1).1],hs⟩
theorem acyc {rs:List aG} {es:List (V × V)} (hr:eS rs) (hn:NM rs es):∀ x ∈ rs.map aG.name,∀ n,¬ Ao es x (n + 1) x:=fun x hx n h=>by
 obtain ⟨r,hm,rfl⟩:=List.mem_map.1 hx
 exact hr.2 ((Bd (nD hr.1) hn).2 ⟨r,hm,(Cc hn _).2 ⟨n,h⟩⟩)
theorem JU {rs:List aG} {es:List (V × V)} (hr:eS rs) (hn:NM rs es) {x y:aX} (hx:x ∈ rs.map aG.name) (hy:y ∈ bC es x):y ∈ rs.map aG.name:=by
 obtain ⟨r,hm,rfl⟩:=List.mem_map.1 hx
 obtain ⟨i,hi⟩:=List.mem_iff_getElem?.1 hm
 obtain ⟨k,q,-,hq,rfl⟩:=(sN (nD hr.1) hn hi y).1 hy
 exact List.mem_map.2 ⟨q,List.mem_of_getElem? hq,rfl⟩
theorem LW {rs:List aG} {es:List (V × V)} (hr:eS rs) (hn:NM rs es) {ns o:List aX} (hp:ns.Perm (rs.map aG.name)) (hlt:o.length < rs.length):∃ j,bJ (fun x=>!decide (x ∈ o) && (bC es x).all fun y=>decide (y ∈ o)) ns = some j:=by
 have hac:∀ x ∈ ns,∀ n,¬ Ao es x (n + 1) x:=fun x hx=>acyc hr hn x (hp.mem_iff.1 hx)
 have hex:∃ x ∈ ns,x ∉ o:=by
  refine Classical.byContradiction fun hno=>?_
  have hnd:ns.Nodup:=hp.nodup_iff.2 (by rw [<- hn.keys]; exact hn.nodup)
  have:=nL hnd (b:=o) fun x hx=>Classical.byContradiction fun hxo=>hno ⟨x,hx,hxo⟩
  rw [hp.length_eq,List.length_map] at this
  omega
 refine Classical.byContradiction fun hno=>?_
 obtain ⟨x,hx,hxo⟩:=hex
 refine Hf hac (U:=fun x=>x ∉ o) (fun z hz hzo=>?_) x hx hxo
 refine Classical.byContradiction fun hall=>hno ?_
 refine mL hz ?_
 rw [decide_eq_false hzo,Bool.not_false,Bool.true_and,List.all_eq_true]
 intro y hy
 refine decide_eq_true (Classical.byContradiction fun hyo=>hall ⟨y,?_,hyo,hy⟩)
 exact hp.mem_iff.2 (JU hr hn (hp.mem_iff.1 hz) hy)
end
end
section
section
variable {E:Env} {Z:Sg} {K:V -> Sg -> Prop}
theorem IA {Z:Sg} {k t:Nat} {cs cs':List V} {ex:Bool} (hb:Z[k]? = some (.cells t cs ex)) (hm:aU (fun v=>match bM Z E.ty true 11 v with
   | some v=>if cM true v then some v else Ax.no "snap: borrowed"
   | none=>none) cs = some cs'):a_.one Z E.ty true (.ref k 0) = some (.cT true cs'):=by
 have e:bM Z E.ty true 12 (.ref k 0) = some (.cT true cs'):=by
  rw [bM]
  simp only [hb,List.drop_zero]
  exact congrArg (fun o=>match o with
   | some l=>some (V.cT true l)
   | none=>none) hm
 unfold a_.one
 rw [show dY = 12 from rfl,e]
 rfl
theorem Lw (h:bK E) {Y:Sg} {es e1:List (V × V)} {p:aX -> Bool} {f:Nat} (b0:Y[0]? = some (.cells 96 [.imp false es] true)) (b2:Y[2]? = some (.cells 98 [.mp 1] true)) (b1:Y[1]? = some (.map e1)) (hs:SB E e1 p) :
  a_ Y E.ty true (.fn f [] [.ref 2 0,.ref 0 0]) = some (.fn f [] [.cT true [.imp true e1],.cT true [.imp false es]]):=by
 have h1:=IA (E:=E) b2 (cs':=[.imp true e1]) (by simp only [aU,CQ (m:=9) h b1 hs,show cM true (V.imp true e1) = true from rfl,if_true])
 have h2:=IA (E:=E) b0 (cs':=[.imp false es]) (gW fun x hx=>by
  rw [List.mem_singleton.1 hx]
  rfl)
 simp only [a_,aU,h1,h2]
theorem L0 {es:List (V × V)} (hb:lV es = true) (hn:(es.map ks).Nodup) (k:aX):(bC es k).length <= 4294967296:=by
 by_cases he:bC es k = []
 ·rw [he]; simp
 ·obtain ⟨x,r,hx⟩:=List.exists_cons_of_ne_nil he
  obtain ⟨v,hv,-⟩:=wM (lU hb) (x:=k) (nx:=x) (by rw [hx]; exact List.mem_cons_self ..)
  rw [qR (lU hb) hn hv]
  have:=Ce hb _ hv
  dsimp only at this
  omega
theorem TK (h:bK E) (h':PN E) {a:V} {rs:List aG} {es:List (V × V)} (ia:IS cQ a rs) (hr:eS rs) (hn:NM rs es) {Y:Sg} {w:V} (ow:bI aK 9 Y w (rs.map aG.name)) (th:qD E Y es fun _=>false) (F:FT) (g0:F.get 0 = a) (g5:F.get 5 = .ref 0 0) (g6:F.get 6 = .ref 2 0) (g7:F.get 7 = w) (g8:F.get 8 = .aC) :
  R E (cutAt [1,1,1,1,1,1] (aA Tryz.f14).code) [] ⟨57,F⟩ Y (kS E (aA Tryz.f14).results (fun v σ1=>match dI σ1 E.ty false v with
   | some v=>(¬ eS rs /\ v = .aC) \/ (eS rs /\ ∃ o,jS aK v o /\ oZ rs o)
   | none=>False)):=by
 have hg:=nD hr.1
 have h40:=hg.len
 have hb:=lU hn.ok
 have la:=cA h ia
 have hll:(rs.map aG.name).length <= 40:=by rw [List.length_map]; omega
 obtain ⟨τ3,ns,hS,hperm,ow3,Gx,-⟩:=tT ow (by omega) (fun x hx=>by
  obtain ⟨r,hr,rfl⟩:=List.mem_map.1 hx
  have:=hg.short.names r hr
  omega)
 have th3:=th.sp ow Gx
 have ks:=c_ (fun K=>show aB E 64 [w] Y K = K (.fJ []) τ3 by rw [mY h.Eg,hS]; rfl)
 have hnl:ns.length = rs.length:=by rw [hperm.length_eq,List.length_map]
 have d15:=h'.Rr
 simp only [aA,Tryz.f14,cutAt,Option.getD_some] at d15
 simp only [aA,Tryz.f14,KP,↓reduceIte,Nat.reduceLT,cutAt,g7,ks]
 refine aP (fun i F Y=>F.get 0 = a /\ F.get 5 = .ref 0 0 /\ F.get 6 = .ref 2 0 /\ F.get 7 = w /\ bI aK 9 Y w ns /\ ∃ w2 o,F.get 8 = w2 /\ bI aK 9 Y w2 o /\ o.length = i /\ qD E Y es (fun x=>decide (x ∈ o)) /\ (∀ b,aW w2 = some b -> aW w ≠ some b) /\ o.Nodup /\ (∀ x ∈ o,x ∈ ns) /\ ∀ (j:Nat) (x:aX),o[j]? = some x -> ∀ y ∈ bC es x,y ∈ o.take j) rs.length ?_ ?_ rs.length 0 _ _ (by omega) (gC (by simp +decide only [GS,g0,g5,g6,g7,and_self]) ⟨ow3,.aC,[],(by simp +decide only [GS,g8]),.inl ⟨rfl,rfl⟩,rfl,by simpa using th3,fun b hb=>(by cases hb),List.Pairwise.nil,fun x hx=>(by cases hx),fun j x hx=>(by cases hx)⟩)
 ·rintro i F Y hi ⟨g0,g5,g6,g7,ow,w2,o,g8,ow2,hol,th,hdis,hnd,hmem,hbeh⟩ next
  obtain ⟨j,hj⟩:=LW hr hn hperm (show o.length < rs.length by omega)
  obtain ⟨x,hx,hP⟩:=iJ hj
  rw [Bool.and_eq_true,Bool.not_eq_true',decide_eq_false_iff_not,List.all_eq_true] at hP
  have hxm:=List.mem_of_getElem? hx
  obtain ⟨e1,hb1,hs1⟩:=th.b1
  have b0:=th.b0
  have b2:=th.b2
  have ef:=Lw (f:=66) h b0 b2 hb1 hs1
  have kf:=c_ (fun K=>Jg (Z:=Y) (K:=K) (k:=66) (caps:=[.cT true [.imp true e1],.cT true [.imp false es]]) (P:=(fun x=>!decide (x ∈ o) && (bC es x).all fun y=>decide (y ∈ o))) h ow.ls (by omega) (fun c hc=>by
   rcases List.mem_cons.1 hc with rfl | hc
   ·rfl
   ·rw [List.mem_singleton.1 hc]; rfl) (fun y v hy hv=>by
   subst hv
   show aB E 66 [.str y,.cT true [.imp true e1],.cT true [.imp false es]] [] _
   rw [b_R1 h h' hs1 hb (L0 hn.ok hn.nodup)]; exact ⟨rfl,rfl⟩) ef)
  obtain ⟨e1',hu,hs1'⟩:=GM h hb1 hs1 x
  have th2:qD E (Y.set 1 (.map e1')) es (fun y=>decide (y ∈ o) || decide (y = x)):=th.put hs1'
  have owb:=bI.set (y:=.map e1') ow (G9 hb1 ow)
  have ow2b:=bI.set (y:=.map e1') ow2 (G9 hb1 ow2)
  obtain ⟨p,r,f1,f2,-,f3,-⟩:=Dw (Z:=Y) h.aR rfl h.cK rfl ow.ls hx
  have f3:=f3 rfl (by decide)
  rw [show r = [.str x] from f2] at f3
  have f3:loadAt E Y 9 p = some (.str x):=f3
  obtain ⟨p',r',f4,f5,-,f6,-⟩:=Dw (Z:=Y.set 1 (.map e1')) h.aR rfl h.cK rfl owb.ls hx
  rw [f1] at f4
  cases f4
  have f6:=f6 rfl (by decide)
  rw [show r' = [.str x] from f5] at f6
  have f6:loadAt E (Y.set 1 (.map e1')) 9 p = some (.str x):=f6
  have lw2:=pG h.aR rfl ow2.ls
  have hlt:decide ((o.length:Int) < (rs.length:Int)) = true:=d_ (by omega)
  have b2l:loadAt E Y 98 (.ref 2 0) = some (.mp 1):=by unfold Ax.loadAt; simp only [h.rZ,b2]; rfl
  obtain ⟨w3,τ4,hap,ow4,RR,hln4,fr4⟩:=iK (ats:=#[28,28]) (m:=[x]) (new:=[[.str x]]) h.aR rfl h.cK rfl (by decide) (fL h) rfl (ow2b.app [.cells 9 [.str x] true]) (iQ rfl) (.one rfl) (dU (b:=1000) (by decide) (by simp only [List.length_cons,List.length_nil]; omega))
  rw [aF]
  simp only [KP,↓reduceIte,Nat.reduceEqDiff,Nat.reduceLT,Nat.reduceLeDiff,Nat.reduceMul,reduceCtorEq,h.cK,h.aR,g0,g5,g6,g7,g8,la,lw2,hlt,kf,hj,dQ,f1,f3,f6,b2l,hu,gZ,hap,bG d15,cC]
  have owc:=owb.app [.cells 9 [.str x] true]
  have owd:bI aK 9 τ4 w ns:=owc.keep fun c o' hc ho=>RR c o' ho fun e=>hdis c e hc
  refine next _ _ (gC (by simp +decide only [GS,g0,g5,g6,g7,and_self]) ⟨owd,w3,o ++ [x],(by simp +decide only [GS]),ow4,by rw [List.length_append,List.length_singleton,hol],?_,fun b hb3 hbw=>?_,?_,fun y hy=>?_,fun k y hk z hz=>?_⟩)
  ·have:=((th2.app (.cells 9 [.str x] true)).sp (ow2b.app [.cells 9 [.str x] true]) RR)
   rwa [show (fun y=>decide (y ∈ o) || decide (y = x)) = fun y=>decide (y ∈ o ++ [x]) from funext fun y=>by rw [Bool.eq_iff_iff]; simp] at this
  ·rcases fr4 b hb3 with g | g
   ·exact hdis b g hbw
   ·rcases owc with ⟨e,-⟩ | ⟨b',rs',ex,e,hc,-⟩
    ·rw [e] at hbw; cases hbw
    ·rw [e] at hbw
     cases hbw
     exact absurd (List.getElem?_eq_some_iff.1 hc).1 (by omega)
  ·rw [List.nodup_append]
   refine ⟨hnd,by simp,fun y hy z hz e=>hP.1 ?_⟩
   rw [<- List.mem_singleton.1 hz,<- e]
   exact hy
  ·rcases List.mem_append.1 hy with hy | hy
   ·exact hmem y hy
   ·rw [List.mem_singleton.1 hy]; exact hxm
  ·by_cases hko:k < o.length
   ·rw [List.getElem?_append_left hko] at hk
    rw [List.take_append_of_le_length (by omega)]
    exact hbeh k y hk z hz
   ·have hke:k = o.length:=by
     have:=(List.getElem?_eq_some_iff.1 hk).1
     rw [List.length_append,List.length_singleton] at this
     omega
    subst hke
    rw [List.getElem?_append_right (Nat.le_refl _),Nat.sub_self] at hk
    cases hk
    rw [List.take_append_of_le_length (Nat.le_refl _),List.take_of_length_le (Nat.le_refl _)]
    exact of_decide_eq_true (hP.2 z hz)
 ·rintro F Y ⟨g0,g5,g6,g7,ow,w2,o,g8,ow2,hol,th,hdis,hnd,hmem,hbeh⟩
  obtain ⟨v',f1,iv⟩:=nP h.cK rfl EM ow2
  have lw2:=pG h.aR rfl ow2.ls
  have hlt:decide ((o.length:Int) < (rs.length:Int)) = false:=eA (by omega)
  rw [aF]
  simp only [KP,↓reduceIte,Nat.reduceEqDiff,Nat.reduceLT,reduceCtorEq,g0,g8,la,lw2,hlt,f1]
  refine .inr ⟨hr,o,iv,hol,hnd,fun x hx=>hperm.mem_iff.1 (hmem x hx),fun i k p q hp hq hm j hj=>?_⟩
  exact hbeh j _ hj _ ((sN hg hn hp _).2 ⟨k,q,hm,hq,rfl⟩)
end
end
section
section
variable {E:Env} {Z:Sg} {K:V -> Sg -> Prop}
theorem Gg (h:bK E) (h':PN E) (hN:t_ E) {a:V} {rs:List aG} (ha:LS cQ 37 Z a rs) (hs:∀ x ∈ rs,Small x) (hl:rs.length <= 4294967296):aB E 14 [a] Z fun v σ'=>σ' = Z /\ ((¬ eS rs /\ v = .aC) \/ (eS rs /\ ∃ o,jS aK v o /\ oZ rs o)):=by
 obtain ⟨a',ea,ia⟩:=dB h ha
 rw [aH h'.hs14 h'.Ln h'.fn14 h'.md14 (args':=[a']) (by simp only [aU,ea]),aZ (by kernel_rfl)]
 have la:=cA h ia
 have key:=fun es hr hn Y w ow th F g0 g5 g6 g7 g8=>TK (E:=E) (rs:=rs) (es:=es) (Y:=Y) (w:=w) h h' ia hr hn ow th F g0 g5 g6 g7 g8
 rw [show (aA Tryz.f14).code = .seq (cutAt [0] (aA Tryz.f14).code) (.seq (cutAt [1,0] (aA Tryz.f14).code) (.seq (cutAt [1,1,0] (aA Tryz.f14).code) (.seq (cutAt [1,1,1,0] (aA Tryz.f14).code) (.seq (cutAt [1,1,1,1,0] (aA Tryz.f14).code) (.seq (cutAt [1,1,1,1,1,0] (aA Tryz.f14).code) (cutAt [1,1,1,1,1,1] (aA Tryz.f14).code)))))) from rfl]
 generalize cutAt [1,1,1,1,1,1] (aA Tryz.f14).code = C at key ⊢
 simp only [aA,Tryz.f14,KP,↓reduceIte,Nat.reduceLT,reduceCtorEq,cutAt]
 refine aO (HL h (ia.ls _ 37) hs hl) ?_
 rintro v σ' ⟨rfl,e,nm,rfl,hE⟩
 have hz:=hE.zero
 by_cases he:e = 0
 case neg=>
  have q:=decide_eq_false he
  simp only [KP,↓reduceIte,Nat.reduceEqDiff,Nat.reduceLT,q]
  exact .inl ⟨mt hz.2 he,rfl⟩
 have q:=decide_eq_true he
 have hr:=hz.1 he
 have hg:=nD hr.1
 have h40:=hg.len
 simp only [KP,↓reduceIte,Nat.reduceEqDiff,Nat.reduceLT,reduceCtorEq,q]
 refine aO (hN (ia.ls _ 37) hs hr) ?_
 rintro v σ' ⟨rfl,es,rfl,hv⟩
 have hn:=PD hg.short hv
 simp only [KP,Ax.storeAt,↓reduceIte,Nat.reduceEqDiff,Nat.reduceLT,Nat.reduceAdd,reduceCtorEq,h.NB,h.rZ,la]
 refine aP (fun i F Y=>F.get 0 = a' /\ F.get 5 = .ref 0 0 /\ F.get 6 = .ref 2 0 /\ F.get 8 = .aC /\ F.get 22 = a' /\ F.get 23 = .int .i64 (rs.length:Int) /\ F.get 24 = .int .i64 (i:Int) /\ qD E Y es (fun _=>false) /\ ∃ w,F.get 7 = w /\ bI aK 9 Y w ((rs.take i).map aG.name)) rs.length ?_ ?_ rs.length 0 _ _ (by omega) (zY (by simp +decide only [GS,and_self]) ⟨⟨rfl,rfl,[],rfl,G2⟩,.aC,(by simp +decide only [GS]),.inl ⟨rfl,rfl⟩⟩)
 ·rintro i F Y hi ⟨g0,g5,g6,g8,g22,g23,g24,th,w,g7,ow⟩ next
  obtain ⟨r,hri⟩:∃ y,rs[i]? = some y:=⟨_,List.getElem?_eq_getElem hi⟩
  obtain ⟨g,p1,p2,p3,p4,e1,i1,i2,i3,i4⟩:=eE h ia hri
  have o1:=aI i1.bB
  have o2:=aI i2.bB
  have o3:=aI i3.bB
  have o4:=aI i4.bB
  have hlt:=d_ hi
  have hadd:=bU i (by omega)
  have s1:(Y ++ [O.cells 37 [.str r.name,p1,p2,p3,p4] true])[Y.length]? = some (O.cells 37 [.str r.name,p1,p2,p3,p4] true):=aQ
  have ow1:=ow.app [O.cells 37 [.str r.name,p1,p2,p3,p4] true]
  have th1:=th.app (O.cells 37 [.str r.name,p1,p2,p3,p4] true)
  rw [aF]
  simp only [KP,Ax.loadAt,Ax.storeAt,↓reduceIte,Nat.reduceEqDiff,Nat.reduceLT,Nat.reduceLeDiff,Nat.reduceAdd,Nat.reduceMul,reduceCtorEq,h.cK,h.aR,h.bD,g7,g22,g23,g24,hlt,e1,o1,o2,o3,o4,aQ,cV]
  generalize Y ++ [O.cells 37 [.str r.name,p1,p2,p3,p4] true] = τ1 at *
  generalize Y.length = y at *
  obtain ⟨w',τ',hap,ow',sp',-,-⟩:=iK (ats:=#[28,28]) (m:=[r.name]) (new:=[[.str r.name]]) h.aR rfl h.cK rfl (by decide) (fL h) rfl (ow1.app [.cells 9 [.str r.name] true]) (iQ rfl) (.one rfl) (dU (b:=1000) (by decide) (by rw [List.length_map,List.length_take]; simp only [List.length_cons,List.length_nil]; omega))
  simp only [KP,↓reduceIte,Nat.reduceEqDiff,Nat.reduceLT,g24,gZ,hap,hadd]
  refine next _ _ (zY (by simp +decide only [GS,g0,g5,g6,g8,g22,g23,and_self]) ⟨(th1.app (.cells 9 [.str r.name] true)).sp (ow1.app [.cells 9 [.str r.name] true]) sp',w',(by simp +decide only [GS]),?_⟩)
  rw [List.take_add_one,hri,List.map_append]
  exact ow'
 ·rintro F Y ⟨g0,g5,g6,g8,g22,g23,g24,th,w,g7,ow⟩
  rw [List.take_of_length_le (Nat.le_refl _)] at ow
  have hlt:=eA (Nat.lt_irrefl rs.length)
  rw [aF]
  simp only [KP,↓reduceIte,Nat.reduceLT,g23,g24,hlt]
  exact key es hr hn _ w ow th _ (by simp +decide only [GS,g0]) (by simp +decide only [GS,g5]) (by simp +decide only [GS,g6]) (by simp +decide only [GS,g7]) (by simp +decide only [GS,g8])
end
end
section
structure xL (E:Env):Prop where
 uF:E.ty 105 = some { kd:=.map 46 77,size:=1,bytes:=8,zero:=.bQ }
 y_:E.ty 107 = some { kd:=.iX [(0,103),(1,104),(2,77),(3,105),(4,105)],size:=5,bytes:=40,zero:=.agg [.bQ,.bQ,.gR,.bQ,.bQ] }
 R8:E.ty 41 = some { kd:=.ptr 107,size:=1,bytes:=8,zero:=.gR }
 K0:E.ty 103 = some { kd:=.map 9 37,size:=1,bytes:=8,zero:=.bQ }
 vP:E.ty 144 = some { kd:=.iX [(0,105),(1,46),(3,46)],size:=5,bytes:=56,zero:=.agg [.bQ,.bool false,.str [],.bool false,.str []] }
 HY:E.ty 145 = some { kd:=.sl 144,size:=1,bytes:=24,zero:=.aC }
 hs70:E.hspec 70 = none
 sp70:E.spec 70 = none
 fn70:E.fn 70 = some (aA Tryz.f70)
 md70:E.mode 70 = .fO
 U9:E.hspec 113 = none
 SN:E.spec 113 = none
 VQ:E.fn 113 = some (aA Tryz.f113)
 Ui:E.mode 113 = .shared
 hs19:E.hspec 19 = none
 Lh:E.spec 19 = none
 fn19:E.fn 19 = some (aA Tryz.f19)
 md19:E.mode 19 = .fO
 hs73:E.hspec 73 = none
 sp73:E.spec 73 = none
 fn73:E.fn 73 = some (aA Tryz.f73)
 md73:E.mode 73 = .shared
 hs72:E.hspec 72 = none
 sp72:E.spec 72 = none
 fn72:E.fn 72 = some (aA Tryz.f72)
 md72:E.mode 72 = .fO
 hs74:E.hspec 74 = none
 sp74:E.spec 74 = none
 fn74:E.fn 74 = some (aA Tryz.f74)
 md74:E.mode 74 = .fO
 hs37:E.hspec 37 = none
 sp37:E.spec 37 = none
 fn37:E.fn 37 = some (aA Tryz.f37)
 md37:E.mode 37 = .fO
 hs63:E.hspec 63 = none
 sp63:E.spec 63 = none
 fn63:E.fn 63 = some (aA Tryz.f63)
 md63:E.mode 63 = .fO
 R3:gY E (opsOf (cutAt [1,0] (aA Tryz.f70).code)) = .no
 TF:cW E .no (opsOf (cutAt [1,0] (aA Tryz.f70).code)) = some [⟨2,4,true,false⟩,  ⟨2,7,true,false⟩,  ⟨2,10,true,false⟩,  ⟨5,7,true,false⟩,  ⟨5,10,true,false⟩,  ⟨8,10,true,false⟩]
 R2:gY E (opsOf (cutAt [1,1,0,1,2,2,1,1,0,2,1] (aA Tryz.f70).code)) = .no
 TE:cW E .no (opsOf (cutAt [1,1,0,1,2,2,1,1,0,2,1] (aA Tryz.f70).code)) = some [⟨1,12,false,true⟩,  ⟨1,19,false,true⟩,  ⟨4,12,false,true⟩,  ⟨4,19,false,true⟩,  ⟨4,22,false,true⟩,  ⟨12,14,true,false⟩,  ⟨12,18,true,false⟩]
 Wg:aV E (cutAt [1,1,1,0,1,2,2,1,1,0,2,1,0] (aA Tryz.f19).code) = true
 R6:gY E (opsOf (cutAt [1,1,1,0,1,2,2,1,1,0,2,1,1,0] (aA Tryz.f19).code)) = .no
 TI:cW E .no (opsOf (cutAt [1,1,1,0,1,2,2,1,1,0,2,1,1,0] (aA Tryz.f19).code)) = some [⟨3,7,false,true⟩]
 Rp:aV E (cutAt [1,1,1,0,1,2,2,1,1,0,2,1,1,1,1,1,2,2,1,1,0,2,1,0] (aA Tryz.f19).code) = true
 Ro:aV E (cutAt [1,1,1,0,1,2,2,1,1,0,2,1,1,1,1,1,2,2,1,1,0,2,1,1] (aA Tryz.f19).code) = true
 R1:gY E (opsOf (cutAt [1,0] (aA Tryz.f73).code)) = .no
 TD:cW E .no (opsOf (cutAt [1,0] (aA Tryz.f73).code)) = some [⟨3,6,false,true⟩]
 Wc:aV E (cutAt [1,1,0] (aA Tryz.f73).code) = true
 RZ:gY E (opsOf (cutAt [1,1,1,2,2,1,1,0,2,1,0,1,0] (aA Tryz.f73).code)) = .no
 TC:cW E .no (opsOf (cutAt [1,1,1,2,2,1,1,0,2,1,0,1,0] (aA Tryz.f73).code)) = some [⟨1,4,false,true⟩,  ⟨3,4,false,true⟩]
 RY:gY E (opsOf (cutAt [1,1,1,2,2,1,1,0,2,1,1] (aA Tryz.f73).code)) = .no
 TB:cW E .no (opsOf (cutAt [1,1,1,2,2,1,1,0,2,1,1] (aA Tryz.f73).code)) = some [⟨1,7,false,true⟩,  ⟨3,7,false,true⟩,  ⟨4,7,false,true⟩]
 PS:gY E (opsOf (cutAt [1,1,1,1,0,1,2,2,1,1,0,2,1,1,1,1] (aA Tryz.f63).code)) = .no
 QF:cW E .no (opsOf (cutAt [1,1,1,1,0,1,2,2,1,1,0,2,1,1,1,1] (aA Tryz.f63).code)) = some [⟨2,4,false,true⟩]
section
variable {E:Env} {Z:Sg} {K:V -> Sg -> Prop}
theorem aB.up {f:Nat} {args:List V} {K:V -> Sg -> Prop} (h:aB E f args Z K):∃ n v σ',K v σ' /\ ∀ m,n <= m -> gB E (ev E m) f args Z = some (v,σ'):=by
 obtain ⟨n,v,σ',hc,hk⟩:=h
 exact ⟨n,v,σ',hk,fun m hm=>rH (lD E hm) hc⟩
theorem Kj (h:bK E):rU E 35 true .aC .aC = some true:=by unfold rU; rw [h.fD]
theorem Ki (h:bK E) {g:Bool} {rs:List (List V)} {f:Bool}:rU E 35 true (.bP g rs f) .aC = some false:=by unfold rU; rw [h.fD]
theorem KJ (h:bK E) (h':xL E) {a:V} {l:List AxS.Step} (ia:IS eT a l) (hl:l.length <= 1000):aB E 113 [a] Z fun v σ'=>bI eT 75 σ' v l /\ Kp Z σ' /\ ∀ b,aW v = some b -> Z.length <= b:=by
 rw [fG h'.U9 h'.SN h'.VQ h'.Ui,aZ (by kernel_rfl)]
 rcases ia with ⟨rfl,rfl⟩ | ⟨g,rs,full,rfl,ha⟩
 ·simp only [aA,Tryz.f113,KP,↓reduceIte,Nat.reduceLT,reduceCtorEq,Kj h]
  exact ⟨.inl ⟨rfl,rfl⟩,fun _ _ h=>h,fun b hb=>by cases hb⟩
 ·obtain ⟨rs',e,ha'⟩:=pY (L:=eT) (x:=.bP g rs full) (l:=l) (.inr ⟨g,rs,full,rfl,ha⟩) (Z ++ [O.cells 75 [] true])
  obtain ⟨w',τ',h1,h2,h3,h4,h5⟩:=iK (ats:=#[35,35]) (Z:=Z ++ [O.cells 75 [] true]) (w:=.sl Z.length 0 0 none) (l:=[]) (L:=eT) h.fD rfl h.cO rfl (by decide) (zI h) rfl (.inr ⟨Z.length,[],true,rfl,aQ,.nil⟩) e ha' (dU (b:=1000) (by decide) (by simp only [List.length_nil]; omega))
  rw [List.nil_append] at h2
  simp only [aA,Tryz.f113,KP,↓reduceIte,Nat.reduceEqDiff,Nat.reduceLT,Nat.reduceLeDiff,reduceCtorEq,h.fD,h.cO,Ki h,h1,Ax.fill,gQ,Nat.zero_mul]
  refine ⟨h2,fun c o hc=>h3 _ _ (aL hc) fun e=>?_,fun b hb=>?_⟩
  ·cases e
   exact absurd (List.getElem?_eq_some_iff.1 hc).1 (Nat.lt_irrefl _)
  ·rcases h5 b hb with g | g
   ·cases g; exact Nat.le_refl _
   ·simp only [List.length_append,List.length_cons,List.length_nil] at g; omega
end
end
end Go.Proofs.YtlbbdpkjeeiahaaGreatDoor
end
section
set_option maxHeartbeats 8000000
namespace Go.Proofs.YtlbbdpkjeeiahaaGreatDoor.Lb
open Go Go.Ax Go.AxS
section
structure jR (E:Env):Prop where
 pK:E.ty 3 = some { kd:=.int .i64,size:=1,bytes:=8,zero:=.int .i64 0 }
 Gw:E.ty 4 = some { kd:=.bool,size:=1,bytes:=1,zero:=.bool false }
 cK:E.ty 9 = some { kd:=.str,size:=1,bytes:=16,zero:=.str [] }
 EI:E.ty 40 = some { kd:=.sl 46,size:=1,bytes:=24,zero:=.aC }
 Cp:E.ty 77 = some { kd:=.ptr 86,size:=1,bytes:=8,zero:=.gR }
 Co:E.ty 82 = some { kd:=.map 46 4,size:=1,bytes:=8,zero:=.bQ }
 Jw:E.ty 84 = some { kd:=.iX [(0,82)],size:=1,bytes:=8,zero:=.agg [.bQ] }
 Jv:E.ty 86 = some { kd:=.iX [(0,84)],size:=1,bytes:=8,zero:=.agg [.bQ] }
 mZ:E.ty 46 = some { kd:=.iX [(0,4),(1,9)],size:=2,bytes:=24,zero:=.agg [.bool false,.str []] }
 ty118:E.ty 118 = some { kd:=.ptr 84,size:=1,bytes:=8,zero:=.gR }
 V3:E.eqs 46 = some [.bool,.str]
 hs87:E.hspec 87 = some (oB 46 [129] [] 89)
 hs20:E.hspec 20 = none
 NL:E.spec 20 = none
 fn20:E.fn 20 = some (aA Tryz.f20)
 md20:E.mode 20 = .fO
 hs42:E.hspec 42 = none
 sp42:E.spec 42 = none
 fn42:E.fn 42 = some (aA Tryz.f42)
 md42:E.mode 42 = .fO
 hs41:E.hspec 41 = none
 sp41:E.spec 41 = none
 fn41:E.fn 41 = some (aA Tryz.f41)
 md41:E.mode 41 = .fO
 hs44:E.hspec 44 = none
 sp44:E.spec 44 = none
 fn44:E.fn 44 = some (aA Tryz.f44)
 md44:E.mode 44 = .shared
 UC:E.hspec 71 = none
 R_:E.spec 71 = none
 Vm:E.fn 71 = some (aA Tryz.f71)
 TP:E.mode 71 = .shared
 hs85:E.hspec 85 = none
 sp85:E.spec 85 = none
 fn85:E.fn 85 = some (aA Tryz.f85)
 md85:E.mode 85 = .shared
 hs50:E.hspec 50 = none
 sp50:E.spec 50 = none
 fn50:E.fn 50 = some (aA Tryz.f50)
 md50:E.mode 50 = .shared
 hs48:E.hspec 48 = none
 sp48:E.spec 48 = none
 fn48:E.fn 48 = some (aA Tryz.f48)
 md48:E.mode 48 = .fO
 hs49:E.hspec 49 = none
 sp49:E.spec 49 = none
 fn49:E.fn 49 = some (aA Tryz.f49)
 md49:E.mode 49 = .fO
 hs142:E.hspec 142 = none
 sp142:E.spec 142 = none
 fn142:E.fn 142 = some (aA Tryz.f142)
 md142:E.mode 142 = .fO
 hs52:E.hspec 52 = none
 sp52:E.spec 52 = none
 fn52:E.fn 52 = some (aA Tryz.f52)
 md52:E.mode 52 = .fO
 hs51:E.hspec 51 = none
 sp51:E.spec 51 = none
 fn51:E.fn 51 = some (aA Tryz.f51)
 md51:E.mode 51 = .fO
 hs89:E.hspec 89 = none
 sp89:E.spec 89 = none
 fn89:E.fn 89 = some (aA Tryz.f89)
 md89:E.mode 89 = .fO
 hs130:E.hspec 130 = none
 sp130:E.spec 130 = none
 fn130:E.fn 130 = some (aA Tryz.f130)
 md130:E.mode 130 = .fO
 hs175:E.hspec 175 = none
 sp175:E.spec 175 = none
 fn175:E.fn 175 = some (aA Tryz.f175)
 md175:E.mode 175 = .fO
 hs88:E.hspec 88 = none
 sp88:E.spec 88 = none
 fn88:E.fn 88 = some (aA Tryz.f88)
 md88:E.mode 88 = .shared
 hs22:E.hspec 22 = none
 NK:E.spec 22 = none
 fn22:E.fn 22 = some (aA Tryz.f22)
 md22:E.mode 22 = .fO
 hs24:E.hspec 24 = none
 NJ:E.spec 24 = none
 fn24:E.fn 24 = some (aA Tryz.f24)
 md24:E.mode 24 = .fO
 hs25:E.hspec 25 = none
 NI:E.spec 25 = none
 fn25:E.fn 25 = some (aA Tryz.f25)
 md25:E.mode 25 = .fO
 hs28:E.hspec 28 = none
 NH:E.spec 28 = none
 fn28:E.fn 28 = some (aA Tryz.f28)
 md28:E.mode 28 = .fO
 hs77:E.hspec 77 = none
 sp77:E.spec 77 = none
 fn77:E.fn 77 = some (aA Tryz.f77)
 md77:E.mode 77 = .fO
 hs102:E.hspec 102 = none
 sp102:E.spec 102 = none
 fn102:E.fn 102 = some (aA Tryz.f102)
 md102:E.mode 102 = .fO
 hs141:E.hspec 141 = none
 sp141:E.spec 141 = none
 fn141:E.fn 141 = some (aA Tryz.f141)
 md141:E.mode 141 = .fO
 hs140:E.hspec 140 = none
 sp140:E.spec 140 = none
 fn140:E.fn 140 = some (aA Tryz.f140)
 md140:E.mode 140 = .shared
 hs83:E.hspec 83 = none
 sp83:E.spec 83 = none
 fn83:E.fn 83 = some (aA Tryz.f83)
 md83:E.mode 83 = .fO
 Wd:aV E (cutAt [1,1,1,1,0,1,2,2,1,1,0,2,1] (aA Tryz.f71).code) = true
 d48_1:aV E (cutAt [1,0] (aA Tryz.f48).code) = true
 d142_1:aV E (cutAt [1,0] (aA Tryz.f142).code) = true
 d24_2:aV E (cutAt [1,1,0,2,2,0,0] (aA Tryz.f24).code) = true
 d24_4:aV E (cutAt [1,1,1,0,0] (aA Tryz.f24).code) = true
 z24_6:gY E (opsOf (cutAt [1,1,1,1,0] (aA Tryz.f24).code)) = .lit
 p24_6:cW E .lit (opsOf (cutAt [1,1,1,1,0] (aA Tryz.f24).code)) = some [⟨3,4,true,false⟩,⟨3,9,true,false⟩,⟨6,9,true,false⟩]
 d25_6:aV E (cutAt [1,1,0,1,2,2,1,0,2,0] (aA Tryz.f25).code) = true
 d28_4:aV E (cutAt [1,0,1,2,2,1,0,2,0] (aA Tryz.f28).code) = true
def dM (Z σ':Sg):Prop:=∀ (b t:Nat) (cs:List V) (ex:Bool),Z[b]? = some (.cells t cs ex) -> σ'[b]? = some (.cells t cs ex)
theorem dM.refl (Z:Sg):dM Z Z:=fun _ _ _ _ h=>h
theorem dM.trans {Z Y ρ:Sg} (h:dM Z Y) (k:dM Y ρ):dM Z ρ:=fun b t cs ex e=>k b t cs ex (h b t cs ex e)
theorem mD {Z:Sg} {b:Nat} {o:O} (h:Z[b]? = some o) (Y:Sg):(Z ++ Y)[b]? = some o:=by
 rw [List.getElem?_append_left (List.getElem?_eq_some_iff.1 h).1]; exact h
theorem dM.app (Z Y:Sg):dM Z (Z ++ Y):=fun _ _ _ _ h=>mD h Y
theorem dM.DT {Z:Sg} {m:Nat} {es es':List (V × V)} (h:Z[m]? = some (.map es)):dM Z (Z.set m (.map es')):=fun b t cs ex e=>by
 by_cases hb:m = b
 ·subst hb; rw [h] at e; cases e
 ·rw [List.getElem?_set_ne hb]; exact e
def SV (Z:Sg) (v:V) (l:List bX):Prop:=
 (v = .aC /\ l = []) \/ (∃ g full,v = .bP g (l.map row) full) \/ ∃ b cs ex,v = .sl b 0 l.length none /\ Z[b]? = some (.cells 46 cs ex) /\ cs.take (l.length * 2) = l.flatMap row
def LV (v:V) (l:List bX):Prop:=(v = .aC /\ l = []) \/ ∃ g full,v = .bP g (l.map row) full
theorem LV.sv {v:V} {l:List bX} (h:LV v l) (Z:Sg):SV Z v l:=h.imp id .inl
theorem SV.keep {Z σ':Sg} {v:V} {l:List bX} (h:SV Z v l) (k:dM Z σ'):SV σ' v l:=by
 rcases h with h | h | ⟨b,cs,ex,h1,h2,h3⟩
 ·exact .inl h
 ·exact .inr (.inl h)
 ·exact .inr (.inr ⟨b,cs,ex,h1,k _ _ _ _ h2,h3⟩)
theorem sX:∀ l:List bX,(l.flatMap row).length = l.length * 2
 | []=>rfl
 | x :: l=>by rw [List.flatMap_cons,List.length_append,sX l,List.length_cons]; show 2 + _ = _; omega
theorem I7:∀ (l:List bX) (i:Nat) (x:bX),l[i]? = some x -> ((l.flatMap row).drop (i * 2)).take 2 = row x
 | [],i,x,h=>by simp at h
 | y :: l,0,x,h=>by cases h; rfl
 | y :: l,i + 1,x,h=>by
  rw [show (i + 1) * 2 = i * 2 + 2 by omega]
  show ((row y ++ l.flatMap row).drop (i * 2 + 2)).take 2 = _
  rw [Nat.add_comm,<- List.drop_drop]
  exact I7 l i x h
theorem wP {f:V -> Option V}:∀ l:List V,(∀ x ∈ l,f x = some x) -> aU f l = some l
 | [],_=>rfl
 | x :: l,h=>by
  rw [aU,h x (List.mem_cons_self ..),wP l fun y hy=>h y (List.mem_cons_of_mem _ hy)]
section
variable {E:Env} {Z:Sg} {K:V -> Sg -> Prop}
theorem QM (h:jR E) {v:V} {l:List bX} (hv:SV Z v l):lenOf E Z 40 v = some l.length:=by
 unfold lenOf
 rw [h.EI]
 rcases hv with ⟨rfl,rfl⟩ | ⟨g,full,rfl⟩ | ⟨b,cs,ex,rfl,hb,hc⟩
 ·rfl
 ·simp
 ·rfl
theorem O2 (h:jR E) {v:V} {l:List bX} (hv:SV Z v l) {i:Nat} {x:bX} (hx:l[i]? = some x) :
  ∃ a,indexAddr E 40 v (.int .i64 (i:Int)) = some a /\ ∀ σ',dM Z σ' -> loadAt E σ' 46 a = some (.agg [.bool x.1,.str x.2]):=by
 have hi:=(List.getElem?_eq_some_iff.1 hx).1
 rcases hv with ⟨rfl,rfl⟩ | ⟨g,full,rfl⟩ | ⟨b,cs,ex,rfl,hb,hc⟩
 ·simp at hx
 ·have hr:(l.map row)[((i:Nat):Int).toNat]? = some (row x):=by
   rw [Int.toNat_natCast,List.getElem?_map,hx]; rfl
  refine ⟨.cT g (row x),?_,fun σ' _=>?_⟩
  ·unfold indexAddr
   simp only [h.EI,h.mZ,hr]
   rw [if_neg (by omega)]
   rfl
  ·unfold loadAt
   simp only [h.mZ]
   rfl
 ·refine ⟨.ref b (0 + i * 2),?_,fun σ' k=>?_⟩
  ·unfold indexAddr
   simp only [h.EI,h.mZ,Int.toNat_natCast]
   rw [if_neg (by omega),if_pos hi]
  ·have hlen:l.length * 2 <= cs.length:=by
    have:=congrArg List.length hc
    rw [List.length_take,sX] at this
    omega
   unfold loadAt
   simp only [h.mZ,k _ _ _ _ hb]
   have e:(cs.drop (0 + i * 2)).take 2 = row x:=by
    have:=I7 l i x hx
    rw [<- hc,List.drop_take,List.take_take] at this
    rw [show min 2 (l.length * 2 - i * 2) = 2 by omega] at this
    rw [Nat.zero_add]
    exact this
   rw [show Ax.isAgg (Kd.iX [(0,4),(1,9)]) = true from rfl]
   simp only [if_true]
   rw [if_pos (by omega),e]
   rfl
end
end
end Go.Proofs.YtlbbdpkjeeiahaaGreatDoor.Lb
end
section
set_option maxRecDepth 10000
set_option maxHeartbeats 8000000
namespace Go.Proofs.YtlbbdpkjeeiahaaGreatDoor
open Go Go.Ax Go.AxS
section
structure OrL (E:Env):Prop where
 hs3:E.hspec 3 = none
 Gx:E.spec 3 = none
 fn3:E.fn 3 = some (aA Tryz.f3)
 md3:E.mode 3 = .fO
 beg:∀ {Z:Sg} {K:V -> Sg -> Prop},aB E 11 [] Z K = K (.bool true) Z
section
variable {E:Env} {Z:Sg} {K:V -> Sg -> Prop}
theorem CD (h:bK E) (h':PN E) {a:V} {rs:List aG} (ha:LS cQ 37 Z a rs) (hs:∀ x ∈ rs,Small x) (hl:rs.length <= 4294967296) (hr:¬ eS rs):aB E 15 [a] Z K = K .aC Z:=by
 refine aB.of ?_
 obtain ⟨a',ea,ia⟩:=dB h ha
 rw [aH h'.hs15 h'.Lm h'.fn15 h'.md15 (args':=[a']) (by simp only [aU,ea]),aZ (by kernel_rfl)]
 simp only [aA,Tryz.f15,KP,↓reduceIte,Nat.reduceLT,reduceCtorEq]
 refine aO (HL h (ia.ls _ 37) hs hl) ?_
 rintro v σ' ⟨rfl,e,nm,rfl,hE⟩
 have q:decide (e = 0) = false:=decide_eq_false (mt hE.zero.1 hr)
 simp only [KP,↓reduceIte,Nat.reduceEqDiff,Nat.reduceLT,q]
 exact rfl
theorem zQ {α:Type} {p:α -> Bool}:∀ {l:List α} {k:Nat},bJ p l = some k -> ∀ (j:Nat) (y:α),j < k -> l[j]? = some y -> p y = false
 | [],_,h,_,_,_,_=>by cases h
 | x :: l,k,h,j,y,hj,hy=>by
  rw [bJ] at h
  by_cases hx:p x = true
  ·rw [if_pos hx] at h; cases h; omega
  ·rw [if_neg hx] at h
   cases hf:bJ p l with
   | none=>rw [hf] at h; cases h
   | some m=>
    rw [hf] at h
    cases h
    cases j with
    | zero=>cases hy; simpa using hx
    | succ j=>exact zQ hf j y (Nat.lt_of_succ_lt_succ hj) hy
theorem oZ.all {rs:List aG} {o:List aX} (h:oZ rs o) (hn:(rs.map aG.name).Nodup):∀ x ∈ rs.map aG.name,x ∈ o:=fun x hx=>by
 refine Classical.byContradiction fun hxo=>?_
 have:=nL (a:=x :: o) (b:=rs.map aG.name) (List.nodup_cons.2 ⟨hxo,h.nodup⟩) fun y hy=>by
  rcases List.mem_cons.1 hy with rfl | hy
  ·exact hx
  ·exact h.mem y hy
 rw [List.length_cons,List.length_map,h.len] at this
 omega
theorem oZ.idx {rs:List aG} {o:List aX} (h:oZ rs o) (hn:(rs.map aG.name).Nodup) {r:aG} (hr:r ∈ rs):∃ j,bJ (fun x=>decide (x = r.name)) o = some j /\ o[j]? = some r.name:=by
 obtain ⟨j,hj⟩:=mL (p:=fun x:aX=>decide (x = r.name)) (h.all hn r.name (List.mem_map.2 ⟨r,hr,rfl⟩)) (decide_eq_true rfl)
 obtain ⟨x,h1,h2⟩:=iJ hj
 exact ⟨j,hj,by rw [h1,of_decide_eq_true h2]⟩
theorem oZ.lt {rs:List aG} {o:List aX} (h:oZ rs o) {i k j m:Nat} {p q:aG} (hp:rs[i]? = some p) (hq:rs[k]? = some q) (hm:iC rs false i k = true) (hj:o[j]? = some p.name) (hk:bJ (fun x=>decide (x = q.name)) o = some m):m < j:=by
 have hmem:=h.behind i k p q hp hq hm j hj
 obtain ⟨t,ht⟩:=List.mem_iff_getElem?.1 hmem
 have htj:t < j:=by have:=(List.getElem?_eq_some_iff.1 ht).1; rw [List.length_take] at this; omega
 rw [List.getElem?_take_of_lt htj] at ht
 refine Nat.lt_of_le_of_lt (Nat.le_of_not_lt fun hlt=>?_) htj
 have:=zQ hk t q.name hlt ht
 simp at this
theorem r_c6 (h:bK E) (h':PN E) (hN:t_ E) {a:V} {rs:List aG} (ha:LS cQ 37 [] a rs) (hraw:∀ x ∈ rs,Raw x) (F:FT) (g0:F.get 0 = a) {K:V -> Sg -> Prop} (hk:∀ σ',K (.bool true) σ'):R E (cutAt [1,1,1,1,1] (aA Tryz.f3).code) [] ⟨94,F⟩ [] (kS E (aA Tryz.f3).results K):=by
 simp only [aA,Tryz.f3,KP,↓reduceIte,Nat.reduceLT,cutAt,g0]
 refine aO (RI h ha hraw) ?_
 rintro v σ' ⟨rfl,l,iv,hok,hl14,hsm⟩
 have iv':IS cQ v l:=qV iv.is qL
 have la:=cA h iv'
 simp only [KP,↓reduceIte,Nat.reduceLT]
 refine aO (Gg h h' hN (iv'.ls _ 37) hsm (by omega)) ?_
 rintro v2 σ' ⟨rfl,⟨hno,-⟩ | ⟨-,o,io,ho⟩⟩
 ·exact absurd hok hno
 have lo:=bH h io.is
 simp only [KP,↓reduceIte,Nat.reduceLT,reduceCtorEq]
 refine aO (Jf h (iv'.ls _ 37) ⟨by omega,hsm⟩ false) ?_
 rintro v3 σ' ⟨rfl,im⟩
 have q:decide ((o.length:Int) = (l.length:Int)) = true:=decide_eq_true (by rw [ho.len])
 have hnd:(l.map aG.name).Nodup:=sO (nD hok.1).short.nodup
 have hol:o.length <= 14:=by rw [ho.len]; exact hl14
 simp only [KP,↓reduceIte,Nat.reduceEqDiff,Nat.reduceLT,reduceCtorEq,la,lo,q]
 refine aP (fun i F Y=>Y = [] /\ F.get 0 = v /\ F.get 7 = v2 /\ F.get 8 = v3 /\ F.get 49 = .int .i64 (l.length:Int) /\ F.get 50 = .int .i64 (i:Int)) l.length ?_ ?_ l.length 0 _ _ (by omega) ⟨rfl,(by simp +decide only [GS,and_self])⟩
 ·rintro i F Y hi ⟨rfl,g0,g7,g8,g49,g50⟩ next
  obtain ⟨r,hr⟩:∃ y,l[i]? = some y:=⟨_,List.getElem?_eq_getElem hi⟩
  obtain ⟨g,p1,p2,p3,p4,e1,-⟩:=eE h iv' hr
  obtain ⟨ja,hja,hoa⟩:=ho.idx hnd (List.mem_of_getElem? hr)
  have kf:=fun (Y:Sg)=>oA (Z:=Y) h (s:=r.name) (io.is.ls Y 9) (by omega)
  have hlt:=d_ hi
  have hadd:=bU i (by omega)
  rw [aF]
  simp only [KP,Ax.loadAt,↓reduceIte,Nat.reduceEqDiff,Nat.reduceLT,reduceCtorEq,h.cK,h.bD,g0,g7,g49,g50,hlt,e1,kf,hja,la]
  refine aP (fun k F Y=>Y = [] /\ F.get 0 = v /\ F.get 7 = v2 /\ F.get 8 = v3 /\ F.get 49 = .int .i64 (l.length:Int) /\ F.get 50 = .int .i64 (i:Int) /\ F.get 9 = .int .i64 (i:Int) /\ F.get 10 = .int .i64 (ja:Int) /\ F.get 61 = .int .i64 (l.length:Int) /\ F.get 62 = .int .i64 (k:Int)) l.length ?_ ?_ l.length 0 _ _ (by omega) ⟨rfl,(by simp +decide only [GS,g0,g7,g8,g49,g50,dQ,and_self])⟩
  ·rintro k F Y hk2 ⟨rfl,g0,g7,g8,g49,g50,g9,g10,g61,g62⟩ next2
   obtain ⟨s,hsk⟩:∃ y,l[k]? = some y:=⟨_,List.getElem?_eq_getElem hk2⟩
   obtain ⟨g',p1',p2',p3',p4',e2,-⟩:=eE h iv' hsk
   obtain ⟨jb,hjb,hob⟩:=ho.idx hnd (List.mem_of_getElem? hsk)
   have kf2:=fun (Y:Sg)=>oA (Z:=Y) h (s:=s.name) (io.is.ls Y 9) (by omega)
   have hlt2:=d_ hk2
   have hadd2:=bU k (by omega)
   have qa:decide ((ja:Int) < 0) = false:=decide_eq_false (by omega)
   have qb:decide ((jb:Int) < 0) = false:=decide_eq_false (by omega)
   obtain ⟨gm,vr,gb,em,eb⟩:=Bo h im.is hi hk2
   rw [aF]
   cases hm:iC l false i k with
   | false=>
    rw [hm] at eb
    simp only [KP,Ax.loadAt,↓reduceIte,Nat.reduceEqDiff,Nat.reduceLT,reduceCtorEq,h.Gw,h.cK,h.bD,h.uR,g0,g7,g8,g9,g10,g61,g62,hlt2,e2,kf2,hjb,dQ,qa,qb,em,eb,hadd2]
    exact next2 _ _ ⟨rfl,(by simp +decide only [GS,g0,g7,g8,g49,g50,g9,g10,g61,and_self])⟩
   | true=>
    rw [hm] at eb
    have hba:=ho.lt hr hsk hm hoa hjb
    have qc:decide ((ja:Int) <= (jb:Int)) = false:=decide_eq_false (by omega)
    simp only [KP,Ax.loadAt,↓reduceIte,Nat.reduceEqDiff,Nat.reduceLT,reduceCtorEq,h.Gw,h.cK,h.bD,h.uR,g0,g7,g8,g9,g10,g61,g62,hlt2,e2,kf2,hjb,dQ,qa,qb,qc,em,eb,hadd2]
    exact next2 _ _ ⟨rfl,(by simp +decide only [GS,g0,g7,g8,g49,g50,g9,g10,g61,and_self])⟩
  ·rintro F Y ⟨rfl,g0,g7,g8,g49,g50,g9,g10,g61,g62⟩
   have hlt2:=eA (Nat.lt_irrefl l.length)
   rw [aF]
   simp only [KP,↓reduceIte,Nat.reduceEqDiff,Nat.reduceLT,g50,g61,g62,hlt2,hadd]
   exact next _ _ ⟨rfl,(by simp +decide only [GS,g0,g7,g8,g49,and_self])⟩
 ·rintro F Y ⟨rfl,g0,g7,g8,g49,g50⟩
  have hlt:=eA (Nat.lt_irrefl l.length)
  rw [aF]
  simp only [KP,↓reduceIte,Nat.reduceLT,g49,g50,hlt]
  exact hk _
end
end
end Go.Proofs.YtlbbdpkjeeiahaaGreatDoor
end
section
set_option maxRecDepth 100000
set_option maxHeartbeats 8000000
namespace Go.Proofs.YtlbbdpkjeeiahaaGreatDoor
open Go Go.Ax
theorem begL {Z:Sg} {K:V -> Sg -> Prop}:aB LE 11 [] Z K = K (.bool true) Z:=rW (s:=bE t11) (args':=[]) (v:=.bool true) (by kernel_rfl) (by kernel_rfl) rfl (by kernel_rfl) rfl
theorem Hl:bK LE:=by constructor <;> kernel_rfl
theorem QO:PN LE:=by constructor <;> kernel_rfl
theorem Ml:xL LE:=by constructor <;> kernel_rfl
theorem Od:Lb.jR LE:=by constructor <;> kernel_rfl
theorem QN:OrL LE:=by constructor <;> first | kernel_rfl | exact begL
end Go.Proofs.YtlbbdpkjeeiahaaGreatDoor
end
section
set_option maxRecDepth 10000
set_option maxHeartbeats 8000000
namespace Go.Proofs.YtlbbdpkjeeiahaaGreatDoor
open Go Go.Ax Go.AxS
section
section
variable {E:Env} {Z:Sg} {K:V -> Sg -> Prop}
theorem m_ {α:Type} {L:Lay α} {t:Nat} {Y:Sg} {w:V} {l:List α} (ow:bI L t Y w l):w.aT = true /\ w.cells = [w]:=by
 rcases ow with ⟨rfl,-⟩ | ⟨b,rs,ex,rfl,-⟩ <;> exact ⟨rfl,rfl⟩
theorem tQ {α:Type} {L:Lay α} {t:Nat} {Y:Sg} {w:V} {l:List α} {y:O} (ow:bI L t Y w l) (h:∀ b,aW w = some b -> 2 <= b):bI L t (Y.set 0 y) w l:=ow.keep fun c o hc ho=>by
 rw [List.getElem?_set_ne (by have:=h c hc; omega)]; exact ho
theorem sJ {α:Type} {L:Lay α} {t:Nat} {Y:Sg} {w:V} {l:List α} {b:Nat} (ow:bI L t Y w l) (h:aW w = some b):b < Y.length:=by
 rcases ow with ⟨rfl,-⟩ | ⟨b',rs,ex,rfl,hb,-⟩
 ·cases h
 ·cases h
  exact (List.getElem?_eq_some_iff.1 hb).1
theorem D_ {Y τ':Sg} (h:Kp Y τ'):Y.length <= τ'.length:=by
 refine Nat.le_of_not_lt fun hlt=>?_
 obtain ⟨o,ho⟩:∃ o,Y[τ'.length]? = some o:=⟨_,List.getElem?_eq_getElem hlt⟩
 exact absurd (List.getElem?_eq_some_iff.1 (h _ _ ho)).1 (Nat.lt_irrefl _)
theorem Wk (h:bK E) (h':xL E) {x:aG} {a b c d:V} (ia:IS aK a x.ins) (ib:IS aK b x.outs) (ic:IS aK c x.after) (id:IS eT d x.steps) (hs:Small x) (F:FT) (g1:F.get 1 = .ref 0 0) {st:List lX} {Q:Ax.X -> Fr -> Sg -> Prop}
  (hk:∀ F' Y w1 w2 w3 w4,F'.get 1 = .ref 0 0 -> F'.get 2 = F.get 2 -> Y[0]? = some (O.cells 37 [.str x.name,w1,w2,w3,w4] true) -> Y[1]? = some (O.cells 37 [.str [],.aC,.aC,.aC,.aC] true) -> bI aK 9 Y w1 x.ins -> bI aK 9 Y w2 x.outs -> bI aK 9 Y w3 x.after -> bI eT 75 Y w4 x.steps -> (∀ b,aW w4 = some b -> 2 <= b /\ aW w1 ≠ some b /\ aW w2 ≠ some b /\ aW w3 ≠ some b) -> M E st .normal ⟨52,F'⟩ Y Q) :
  R E (.region 1 (opsOf (cutAt [1,0] (aA Tryz.f70).code)) true) st ⟨52,F⟩ [O.cells 37 [.str x.name,a,b,c,d] true,O.cells 37 [.str [],.aC,.aC,.aC,.aC] true] Q:=by
 have l1:=hs.ins
 have l2:=hs.outs
 have l3:=hs.after
 have l4:=hs.steps
 obtain ⟨n1,w1,τ1,⟨ow1,kp1,fr1⟩,c1⟩:=aB.up (oV (Z:=[O.cells 37 [.str x.name,a,b,c,d] true,O.cells 37 [.str [],.aC,.aC,.aC,.aC] true]) h ia (by omega))
 obtain ⟨n2,w2,τ2,⟨ow2,kp2,fr2⟩,c2⟩:=aB.up (oV (Z:=τ1) h ib (by omega))
 obtain ⟨n3,w3,τ3,⟨ow3,kp3,fr3⟩,c3⟩:=aB.up (oV (Z:=τ2) h ic (by omega))
 obtain ⟨n4,w4,τ4,⟨ow4,kp4,fr4⟩,c4⟩:=aB.up (KJ (Z:=τ3) h h' id (by omega))
 have c1:=c1 (n1 + n2 + n3 + n4) (by omega)
 have c2:=c2 (n1 + n2 + n3 + n4) (by omega)
 have c3:=c3 (n1 + n2 + n3 + n4) (by omega)
 have c4:=c4 (n1 + n2 + n3 + n4) (by omega)
 generalize n1 + n2 + n3 + n4 = n at c1 c2 c3 c4
 have k0:∀ Y:Sg,Kp [O.cells 37 [.str x.name,a,b,c,d] true,O.cells 37 [.str [],.aC,.aC,.aC,.aC] true] Y -> Y[0]? = some (O.cells 37 [.str x.name,a,b,c,d] true) /\ Y[1]? = some (O.cells 37 [.str [],.aC,.aC,.aC,.aC] true):=fun Y hk=>⟨hk 0 _ rfl,hk 1 _ rfl⟩
 have q2:Kp [O.cells 37 [.str x.name,a,b,c,d] true,O.cells 37 [.str [],.aC,.aC,.aC,.aC] true] τ2:=fun c o e=>kp2 c o (kp1 c o e)
 have q3:Kp [O.cells 37 [.str x.name,a,b,c,d] true,O.cells 37 [.str [],.aC,.aC,.aC,.aC] true] τ3:=fun c o e=>kp3 c o (q2 c o e)
 have q4:Kp [O.cells 37 [.str x.name,a,b,c,d] true,O.cells 37 [.str [],.aC,.aC,.aC,.aC] true] τ4:=fun c o e=>kp4 c o (q3 c o e)
 obtain ⟨b1,z1⟩:=k0 τ1 kp1
 obtain ⟨b2,z2⟩:=k0 τ2 q2
 obtain ⟨b3,z3⟩:=k0 τ3 q3
 obtain ⟨b4,z4⟩:=k0 τ4 q4
 have hlt4:=(List.getElem?_eq_some_iff.1 b4).1
 have s1:∀ y,(τ4.set 0 y)[0]? = some y:=fun y=>List.getElem?_set_self hlt4
 obtain ⟨o1,t1⟩:=m_ ow1
 obtain ⟨o2,t2⟩:=m_ ow2
 obtain ⟨o3,t3⟩:=m_ ow3
 obtain ⟨o4,t4⟩:=m_ ow4
 have v1:=bY 10 ia
 have v2:=bY 10 ib
 have v3:=bY 10 ic
 have v4:=nK 9 id
 have key:∃ F',cB E (ev E n) (opsOf (cutAt [1,0] (aA Tryz.f70).code)) ⟨52,F⟩ [O.cells 37 [.str x.name,a,b,c,d] true,O.cells 37 [.str [],.aC,.aC,.aC,.aC] true] = some (⟨52,F'⟩,τ4.set 0 (O.cells 37 [.str x.name,w1,w2,w3,w4] true)) /\ F'.get 1 = .ref 0 0 /\ F'.get 2 = F.get 2:=by
  unfold cB
  rw [h'.R3,h'.TF]
  simp only [aA,Tryz.f70,KP,Ax.loadAt,Ax.storeAt,↓reduceIte,Nat.reduceEqDiff,Nat.reduceLT,Nat.reduceLeDiff,Nat.reduceAdd,reduceCtorEq,h.aR,h.fD,h.bD,opsOf,cutAt,gO,bF,bV,jT,Ax.comp,Ax.last,gT,Ax.again,g1,c1,c2,c3,c4,b1,b2,b3,b4,s1,o1,o2,o3,o4,t1,t2,t3,t4,v2,v3,v4,List.set_set]
  exact ⟨_,rfl,(by simp +decide only [GS,g1,and_self])⟩
 obtain ⟨F',hD,f1,f2⟩:=key
 have n1:=D_ kp1
 have n2:=D_ kp2
 have n3:=D_ kp3
 have n0:([O.cells 37 [.str x.name,a,b,c,d] true,O.cells 37 [.str [],.aC,.aC,.aC,.aC] true]:Sg).length = 2:=rfl
 rw [n0] at n1 fr1
 have k2:∀ b,aW w2 = some b -> 2 <= b:=fun b hb=>by have:=fr2 b hb; omega
 have k3:∀ b,aW w3 = some b -> 2 <= b:=fun b hb=>by have:=fr3 b hb; omega
 have k4:∀ b,aW w4 = some b -> 2 <= b:=fun b hb=>by have:=fr4 b hb; omega
 refine Eq.mpr (iF hD) (hk F' _ w1 w2 w3 w4 f1 f2 (s1 _) (by rw [List.getElem?_set_ne (by decide)]; exact z4) (tQ (ow1.keep fun c o _ hc=>kp4 c o (kp3 c o (kp2 c o hc))) fr1) (tQ (ow2.keep fun c o _ hc=>kp4 c o (kp3 c o hc)) k2) (tQ (ow3.keep fun c o _ hc=>kp4 c o hc) k3) (tQ ow4 k4) fun b hb=>⟨k4 b hb,fun e=>?_,fun e=>?_,fun e=>?_⟩)
 ·have:=fr4 b hb; have:=sJ ow1 e; omega
 ·have:=fr4 b hb; have:=sJ ow2 e; omega
 ·have:=fr4 b hb; have:=sJ ow3 e; omega
end
end
section
section
variable {E:Env} {Z:Sg} {K:V -> Sg -> Prop}
theorem yL {k:Nat} (hk:k < 5):∀ {R:List (List V)} {i:Nat} {r:List V},(∀ x ∈ R,x.length = 5) -> R[i]? = some r -> R.flatten[i * 5 + k]? = r[k]?
 | [],_,_,_,h=>by cases h
 | x :: R,0,r,hx,h=>by
  cases h
  rw [List.flatten_cons,Nat.zero_mul,Nat.zero_add,List.getElem?_append_left (by rw [hx _ (List.mem_cons_self ..)]; exact hk)]
 | x :: R,i + 1,r,hx,h=>by
  have hl:=hx _ (List.mem_cons_self ..)
  rw [List.flatten_cons,List.getElem?_append_right (by omega),show (i + 1) * 5 + k - x.length = i * 5 + k by omega]
  exact yL hk (fun y hy=>hx y (List.mem_cons_of_mem _ hy)) h
theorem Dl {k:Nat} {v:V} (hk:k < 5):∀ {R:List (List V)} {i:Nat} {r:List V},(∀ x ∈ R,x.length = 5) -> R[i]? = some r -> setCells R.flatten (i * 5 + k) [v] = (R.set i (r.set k v)).flatten
 | [],_,_,_,h=>by cases h
 | x :: R,0,r,hx,h=>by
  cases h
  have hl:=hx _ (List.mem_cons_self ..)
  rw [List.set_cons_zero,List.flatten_cons,List.flatten_cons,Nat.zero_mul,Nat.zero_add]
  unfold setCells
  rw [List.take_append_of_le_length (by omega),List.drop_append_of_le_length (by rw [List.length_singleton]; omega),List.set_eq_take_append_cons_drop,if_pos (by omega)]
  simp
 | x :: R,i + 1,r,hx,h=>by
  have hl:=hx _ (List.mem_cons_self ..)
  have ih:=Dl (v:=v) hk (fun y hy=>hx y (List.mem_cons_of_mem _ hy)) h
  rw [List.set_cons_succ,List.flatten_cons,List.flatten_cons,<- ih]
  unfold setCells
  rw [List.take_append,List.take_of_length_le (by omega),show (i + 1) * 5 + k - x.length = i * 5 + k by omega,List.drop_append,List.drop_of_length_le (by omega),show (i + 1) * 5 + k + [v].length - x.length = i * 5 + k + [v].length by omega]
  simp
theorem Ho (h:bK E) {Y:Sg} {b i k:Nat} {R:List (List V)} {r:List V} {v:V} {ex:Bool} (hb:Y[b]? = some (.cells 75 R.flatten ex)) (hx:∀ x ∈ R,x.length = 5) (hr:R[i]? = some r) (hk:k < 5) (hv:r[k]? = some v):loadAt E Y 28 (.ref b (i * 5 + k)) = some v:=by
 unfold Ax.loadAt
 simp only [h.aR,hb,yL hk hx hr,hv,Ax.isAgg]
 rfl
theorem K5 (h:bK E) {Y:Sg} {b i k:Nat} {R:List (List V)} {r:List V} {v:V} {ex:Bool} (hb:Y[b]? = some (.cells 75 R.flatten ex)) (hx:∀ x ∈ R,x.length = 5) (hr:R[i]? = some r) (hk:k < 5) (hc:v.cells = [v]) (ho:v.aT = true):storeAt E Y 28 (.ref b (i * 5 + k)) v = some (Y.set b (.cells 75 (R.set i (r.set k v)).flatten ex)):=by
 unfold Ax.storeAt
 have hl:i * 5 + k + 1 <= R.flatten.length:=by
  have:=yL hk hx hr
  have hrl:=hx r (List.mem_of_getElem? hr)
  rw [List.getElem?_eq_getElem (show k < r.length by omega)] at this
  have:=(List.getElem?_eq_some_iff.1 this).1
  omega
 simp only [h.aR,hb,hc,List.length_cons,List.length_nil,List.all_cons,List.all_nil,ho,decide_eq_true hl,Dl hk hx hr]
 rfl
theorem Ra (h:bK E) {b n i:Nat} (hi:i < n):indexAddr E 35 (.sl b 0 n none) (.int .i64 (i:Int)) = some (.ref b (i * 5)):=by
 unfold Ax.indexAddr
 simp only [h.fD,h.cO,show ¬ ((i:Int) < 0) by omega,if_false,Int.toNat_natCast,hi,if_true,Nat.zero_add]
theorem LA {R:List (List V)} {i k:Nat} {r:List V} {v:V} (hx:∀ x ∈ R,x.length = 5) (hr:R[i]? = some r):∀ x ∈ R.set i (r.set k v),x.length = 5:=fun x hm=>by
 rcases List.mem_or_eq_of_mem_set hm with hm | rfl
 ·exact hx x hm
 ·rw [List.length_set]; exact hx r (List.mem_of_getElem? hr)
theorem Wj (h:bK E) (h':xL E) {x:aG} {w1 w2 w3 p q:V} {s:AxS.Step} {b n i:Nat} {R:List (List V)} {ex:Bool} {Y:Sg} (h0:Y[0]? = some (O.cells 37 [.str x.name,w1,w2,w3,.sl b 0 n none] true)) (hb:Y[b]? = some (.cells 75 R.flatten ex)) (hx:∀ x ∈ R,x.length = 5) (hr:R[i]? = some ([.str s.out,.int .i64 s.op,p,q,.int .i64 s.n])) (hi:i < n) (ip:IS aK p s.args) (iq:IS aK q s.lits) (l1:s.args.length <= 8) (l2:s.lits.length <= 3) (hb2:2 <= b)
  (F:FT) (g1:F.get 1 = .ref 0 0) (g3:F.get 3 = .int .i64 (i:Int)) {st:List lX} {Q:Ax.X -> Fr -> Sg -> Prop}
  (hk:∀ F' τ' wp wq,(∀ k,k ∈ [1,2,22,23] -> F'.get k = F.get k) -> τ'[b]? = some (.cells 75 (R.set i ([.str s.out,.int .i64 s.op,wp,wq,.int .i64 s.n])).flatten ex) -> bI aK 9 τ' wp s.args -> bI aK 9 τ' wq s.lits -> (∀ (c:Nat) (o:O),Y[c]? = some o -> c ≠ b -> τ'[c]? = some o) -> (∀ c,aW wp = some c -> Y.length <= c) -> (∀ c,aW wq = some c -> Y.length <= c) -> M E st .normal ⟨52,F'⟩ τ' Q) :
  Ax.R E (.region 5 (opsOf (cutAt [1,1,0,1,2,2,1,1,0,2,1] (aA Tryz.f70).code)) true) st ⟨52,F⟩ Y Q:=by
 obtain ⟨n1,wp,τ1,⟨ow1,kp1,fr1⟩,c1⟩:=aB.up (oV (Z:=Y) h ip (by omega))
 obtain ⟨n2,wq,τ2,⟨ow2,kp2,fr2⟩,c2⟩:=aB.up (oV (Z:=τ1) h iq (by omega))
 have c1:=c1 (n1 + n2) (by omega)
 have c2:=c2 (n1 + n2) (by omega)
 generalize n1 + n2 = m at c1 c2
 have h01:=kp1 _ _ h0
 have h02:=kp2 _ _ h01
 have hb1:=kp1 _ _ hb
 have hb2':=kp2 _ _ hb1
 obtain ⟨o1,t1⟩:=m_ ow1
 obtain ⟨o2,t2⟩:=m_ ow2
 have e1:=Ra h hi (b:=b) (n:=n)
 have f1:=Ho h hb hx hr (k:=2) (by decide) rfl
 have f2:=Ho h hb1 hx hr (k:=3) (by decide) rfl
 have f2'':=Ho h hb hx hr (k:=3) (by decide) rfl
 have s1:=K5 h hb2' hx hr (k:=2) (v:=wp) (by decide) t1 o1
 have hbl:=(List.getElem?_eq_some_iff.1 hb2').1
 have hR:(R.set i ([.str s.out,.int .i64 s.op,wp,q,.int .i64 s.n]))[i]? = some ([.str s.out,.int .i64 s.op,wp,q,.int .i64 s.n]):=List.getElem?_set_self (List.getElem?_eq_some_iff.1 hr).1
 have s2:=K5 h (Y:=τ2.set b (.cells 75 (R.set i ([.str s.out,.int .i64 s.op,wp,q,.int .i64 s.n])).flatten ex)) (v:=wq) (List.getElem?_set_self hbl) (LA (k:=2) (v:=wp) hx hr) hR (k:=3) (by decide) t2 o2
 have s1:storeAt E τ2 28 (.ref b (i * 5 + 2)) wp = some (τ2.set b (.cells 75 (R.set i ([.str s.out,.int .i64 s.op,wp,q,.int .i64 s.n])).flatten ex)):=s1
 have s2:storeAt E (τ2.set b (.cells 75 (R.set i ([.str s.out,.int .i64 s.op,wp,q,.int .i64 s.n])).flatten ex)) 28 (.ref b (i * 5 + 3)) wq = some (τ2.set b (.cells 75 (R.set i ([.str s.out,.int .i64 s.op,wp,wq,.int .i64 s.n])).flatten ex)):=by
  rw [s2,List.set_set,List.set_set]
  rfl
 have lw:loadAt E Y 35 (.ref 0 4) = some (.sl b 0 n none):=by unfold Ax.loadAt; simp only [h.fD,h0]; rfl
 have lw1:loadAt E τ1 35 (.ref 0 4) = some (.sl b 0 n none):=by unfold Ax.loadAt; simp only [h.fD,h01]; rfl
 have lw2:loadAt E τ2 35 (.ref 0 4) = some (.sl b 0 n none):=by unfold Ax.loadAt; simp only [h.fD,h02]; rfl
 have lw3:∀ y,loadAt E (τ2.set b y) 35 (.ref 0 4) = some (.sl b 0 n none):=fun y=>by
  have h03:(τ2.set b y)[0]? = some (O.cells 37 [.str x.name,w1,w2,w3,.sl b 0 n none] true):=by rw [List.getElem?_set_ne (by omega)]; exact h02
  unfold Ax.loadAt; simp only [h.fD,h03]; rfl
 have vq:=bY 10 iq
 have v0:rT 12 (.sl b 0 n none) (.sl b 0 n none) = true:=by unfold rT; simp
 have key:∃ F',cB E (ev E m) (opsOf (cutAt [1,1,0,1,2,2,1,1,0,2,1] (aA Tryz.f70).code)) ⟨52,F⟩ Y = some (⟨52,F'⟩,τ2.set b (.cells 75 (R.set i ([.str s.out,.int .i64 s.op,wp,wq,.int .i64 s.n])).flatten ex)) /\ (∀ k,k ∈ [1,2,22,23] -> F'.get k = F.get k):=by
  unfold cB
  rw [h'.R2,h'.TE]
  simp only [aA,Tryz.f70,KP,↓reduceIte,Nat.reduceEqDiff,Nat.reduceLT,Nat.reduceAdd,reduceCtorEq,h.aR,h.fD,h.bD,h.cO,opsOf,cutAt,gO,bF,bV,jT,Ax.comp,Ax.last,gT,Ax.again,g1,g3,c1,c2,lw,lw1,lw2,lw3,e1,f1,f2,f2'',s1,s2,vq,v0]
  refine ⟨_,rfl,fun k hk=>?_⟩
  simp only [List.mem_cons,List.not_mem_nil,or_false] at hk
  rcases hk with rfl | rfl | rfl | rfl <;> simp +decide only [GS]
 obtain ⟨F',hD,hF⟩:=key
 have hlen1:=D_ kp1
 have hne:∀ {w:V},(∀ c,aW w = some c -> Y.length <= c) -> aW w ≠ some b:=fun hfr e=>by
  have:=hfr b e
  have:=(List.getElem?_eq_some_iff.1 hb).1
  omega
 have fr2':∀ c,aW wq = some c -> Y.length <= c:=fun c hc=>by have:=fr2 c hc; omega
 refine Eq.mpr (iF hD) (hk F' _ wp wq hF (List.getElem?_set_self hbl) (bI.set (ow1.keep fun c o _ hc=>kp2 c o hc) (hne fr1)) (bI.set ow2 (hne fr2')) (fun c o hc hcb=>?_) fr1 fr2')
 rw [List.getElem?_set_ne (Ne.symm hcb)]
 exact kp2 _ _ (kp1 _ _ hc)
end
end
section
section
variable {E:Env} {Z:Sg} {K:V -> Sg -> Prop}
theorem Gn {β γ:Type} {P:β -> γ -> Prop}:∀ {a:List β} {b:List γ},eY P a b -> ∀ {j:Nat} {y:γ},b[j]? = some y -> ∃ x,a[j]? = some x /\ P x y
 | _,_,.nil,_,_,h=>by cases h
 | _ :: _,_ :: _,.cons h t,0,_,e=>by cases e; exact ⟨_,rfl,h⟩
 | _ :: _,_ :: _,.cons h t,j + 1,_,e=>by
  obtain ⟨x,h1,h2⟩:=Gn t (j:=j) e
  exact ⟨x,h1,h2⟩
structure Nq (Y:Sg) (b i:Nat) (R:List (List V)) (ex:Bool) (steps:List AxS.Step):Prop where
 hb:Y[b]? = some (.cells 75 R.flatten ex)
 len:R.length = steps.length
 Hz:∀ x ∈ R,x.length = 5
 row:∀ (j:Nat) (s:AxS.Step),steps[j]? = some s -> ∃ p q,R[j]? = some ([.str s.out,.int .i64 s.op,p,q,.int .i64 s.n]) /\ (j < i -> bI aK 9 Y p s.args /\ bI aK 9 Y q s.lits /\ aW p ≠ some b /\ aW q ≠ some b) /\ (i <= j -> IS aK p s.args /\ IS aK q s.lits)
theorem Nq.start {Y:Sg} {b:Nat} {rs:List (List V)} {ex:Bool} {steps:List AxS.Step} (hb:Y[b]? = some (.cells 75 rs.flatten ex)) (ha:eY eT.P rs steps):Nq Y b 0 rs ex steps:=by
 refine ⟨hb,ha.len,Lay.lens ha,fun j s hj=>?_⟩
 obtain ⟨r,h1,a,l,rfl,h2,h3⟩:=Gn ha hj
 exact ⟨a,l,h1,fun h=>by omega,fun _=>⟨h2,h3⟩⟩
theorem Nq.step {Y τ':Sg} {b i:Nat} {R:List (List V)} {ex:Bool} {steps:List AxS.Step} {s:AxS.Step} {wp wq:V} (h:Nq Y b i R ex steps) (hs:steps[i]? = some s) (hb:τ'[b]? = some (.cells 75 (R.set i ([.str s.out,.int .i64 s.op,wp,wq,.int .i64 s.n])).flatten ex)) (o1:bI aK 9 τ' wp s.args) (o2:bI aK 9 τ' wq s.lits) (k:∀ (c:Nat) (o:O),Y[c]? = some o -> c ≠ b -> τ'[c]? = some o) (f1:∀ c,aW wp = some c -> Y.length <= c) (f2:∀ c,aW wq = some c -> Y.length <= c):Nq τ' b (i + 1) (R.set i ([.str s.out,.int .i64 s.op,wp,wq,.int .i64 s.n])) ex steps:=by
 have hbl:=(List.getElem?_eq_some_iff.1 h.hb).1
 have hil:i < R.length:=by rw [h.len]; exact (List.getElem?_eq_some_iff.1 hs).1
 refine ⟨hb,by rw [List.length_set]; exact h.len,fun x hx=>?_,fun j t hj=>?_⟩
 ·rcases List.mem_or_eq_of_mem_set hx with hx | rfl
  ·exact h.Hz x hx
  ·rfl
 ·by_cases hij:i = j
  ·subst hij
   rw [hs] at hj
   cases hj
   refine ⟨wp,wq,List.getElem?_set_self hil,fun _=>⟨o1,o2,fun e=>?_,fun e=>?_⟩,fun h=>by omega⟩
   ·have:=f1 b e; omega
   ·have:=f2 b e; omega
  ·obtain ⟨p,q,h1,h2,h3⟩:=h.row j t hj
   refine ⟨p,q,by rw [List.getElem?_set_ne hij]; exact h1,fun hlt=>?_,fun hle=>h3 (by omega)⟩
   obtain ⟨a1,a2,a3,a4⟩:=h2 (by omega)
   exact ⟨a1.keep fun c o hc ho=>k c o ho (fun e=>a3 (by rw [hc,e])),a2.keep fun c o hc ho=>k c o ho (fun e=>a4 (by rw [hc,e])),a3,a4⟩
theorem QI {Y:Sg} {w:V} {l:List aX} (ow:bI aK 9 Y w l):OL Y w l:=by
 rcases ow with h | ⟨b,rs,ex,rfl,hb,ha⟩
 ·exact .inl h
 ·obtain rfl:=As ha
  rw [BO] at hb
  exact .inr ⟨b,_,ex,rfl,hb,List.take_of_length_le (by rw [List.length_map]; exact Nat.le_refl _)⟩
theorem ND {v:V} {l:List aX} (h:PM v l):jS aK v l:=by
 rcases h with h | ⟨full,rfl⟩
 ·exact .inl h
 ·exact .inr ⟨_,full,rfl,tO l⟩
theorem A1 (h:bK E) {Y:Sg} {w:V} {l:List aX} {m:Nat} (ow:bI aK 9 Y w l):∃ v',bM Y E.ty false (m + 2) w = some v' /\ cM false v' = true /\ jS aK v' l:=by
 obtain ⟨v',h1,h2⟩:=(QI ow).snap (m:=m) h
 exact ⟨v',h1,h2.tag,ND h2⟩
theorem Fv {α β:Type} {f:α -> Option β}:∀ {a:List α} {a':List β} {b:List α} {b':List β},aU f a = some a' -> aU f b = some b' -> aU f (a ++ b) = some (a' ++ b')
 | [],a',b,b',h1,h2=>by cases h1; exact h2
 | x :: a,a',b,b',h1,h2=>by
  rw [aU] at h1
  cases hx:f x with
  | none=>rw [hx] at h1; cases h1
  | some y=>
   cases hm:aU f a with
   | none=>rw [hx,hm] at h1; cases h1
   | some l=>
    rw [hx,hm] at h1
    cases h1
    rw [List.cons_append,aU,hx,Fv hm h2]
    rfl
theorem ES (h:bK E) {Y:Sg} {b n:Nat} {R:List (List V)} {ex:Bool} {steps:List AxS.Step} (hs:Nq Y b n R ex steps) (hn:n = steps.length):∃ v',bM Y E.ty false 12 (.sl b 0 n none) = some v' /\ cM false v' = true /\ jS fT v' steps:=by
 have key:∀ (R:List (List V)) (steps:List AxS.Step),R.length = steps.length -> (∀ (j:Nat) (s:AxS.Step),steps[j]? = some s -> ∃ p q,R[j]? = some ([.str s.out,.int .i64 s.op,p,q,.int .i64 s.n]) /\ bI aK 9 Y p s.args /\ bI aK 9 Y q s.lits) -> ∃ R',aU (fun v=>match bM Y E.ty false 11 v with
   | some v=>if cM false v then some v else Ax.no "snap: borrowed"
   | none=>none) R.flatten = some R'.flatten /\ eY fT.P R' steps:=by
  intro R
  induction R with
  | nil=>
   intro steps hl _
   have:steps = []:=List.eq_nil_of_length_eq_zero hl.symm
   subst this
   exact ⟨[],rfl,.nil⟩
  | cons r R ih=>
   intro steps hl hr
   cases steps with
   | nil=>cases hl
   | cons s steps=>
    obtain ⟨R',m1,a1⟩:=ih steps (by simpa using hl) fun j t hj=>hr (j + 1) t hj
    obtain ⟨p,q,h1,h2,h3⟩:=hr 0 s rfl
    cases h1
    obtain ⟨p',e1,t1,i1⟩:=A1 (m:=9) h h2
    obtain ⟨q',e2,t2,i2⟩:=A1 (m:=9) h h3
    refine ⟨([.str s.out,.int .i64 s.op,p',q',.int .i64 s.n]) :: R',?_,.cons ⟨p',q',rfl,i1,i2⟩ a1⟩
    rw [List.flatten_cons,List.flatten_cons]
    refine Fv ?_ m1
    have es:∀ z:aX,bM Y E.ty false 11 (.str z) = some (.str z):=fun z=>kO rfl
    have ei:∀ z:Int,bM Y E.ty false 11 (.int .i64 z) = some (.int .i64 z):=fun z=>kO rfl
    have ts:∀ z:aX,cM false (.str z) = true:=fun _=>rfl
    have ti:∀ z:Int,cM false (.int .i64 z) = true:=fun _=>rfl
    simp only [aU,es,ei,ts,ti,e1,e2,t1,t2,if_true]
 obtain ⟨R',m1,a1⟩:=key R steps hs.len fun j s hj=>by
  obtain ⟨p,q,h1,h2,-⟩:=hs.row j s hj
  obtain ⟨a1,a2,-⟩:=h2 (by have:=(List.getElem?_eq_some_iff.1 hj).1; omega)
  exact ⟨p,q,h1,a1,a2⟩
 have hfl:R.flatten.length = n * 5:=by rw [mK R hs.Hz,hs.len,hn]
 have htk:(R.flatten.drop 0).take (n * 5) = R.flatten:=by rw [List.drop_zero,List.take_of_length_le (by omega)]
 refine ⟨.bP false R' (ex && decide (0 < 5) && (0 + n * 5 == R.flatten.length)),?_,rfl,.inr ⟨R',_,rfl,a1⟩⟩
 rw [bM]
 simp only [hs.hb,h.cO]
 rw [if_pos (by omega)]
 have m2:aU (fun v=>match bM Y E.ty false 11 v with
   | some v=>if cM false v then some v else Ax.no "snap: borrowed"
   | none=>none) ((R.flatten.drop 0).take (n * 5)) = some R'.flatten:=by rw [htk]; exact m1
 refine Eq.trans (congrArg (fun o=>match o with
  | some l=>some (V.bP false (Ax.rows 5 n l) (ex && decide (0 < 5) && (0 + n * 5 == R.flatten.length)))
  | none=>none) m2) ?_
 show some (V.bP false (Ax.rows 5 n R'.flatten) _) = _
 have hl':n = R'.length:=by rw [a1.len,hn]
 rw [hl',show Ax.rows 5 R'.length R'.flatten = R' from kW (sz:=5) R' (Lay.lens (L:=fT) a1)]
end
end
section
section
variable {E:Env} {Z:Sg} {K:V -> Sg -> Prop}
def Wu (v:V) (x:aG):Prop:=∃ a b c d,v = .agg [.str x.name,a,b,c,d] /\ jS aK a x.ins /\ jS aK b x.outs /\ jS aK c x.after /\ jS fT d x.steps
theorem pL (h:bK E) {Y:Sg} {w:V} {l:List aX} (ow:bI aK 9 Y w l):∃ v',a_.one Y E.ty false w = some v' /\ jS aK v' l:=by
 obtain ⟨v',h1,h2,h3⟩:=A1 (m:=10) h ow
 refine ⟨v',?_,h3⟩
 unfold a_.one
 rw [show dY = 10 + 2 from rfl,h1]
 simp only [h2,if_true]
theorem Nq.Uy {Y:Sg} {b i u:Nat} {R:List (List V)} {ex:Bool} {steps:List AxS.Step} {cs:List V} {y:O} (h:Nq Y b i R ex steps) (hz:Y[1]? = some (.cells u cs true)) (hu:u ≠ 9) (hb:2 <= b):Nq (Y.set 1 y) b i R ex steps:=by
 refine ⟨by rw [List.getElem?_set_ne (by omega)]; exact h.hb,h.len,h.Hz,fun j s hj=>?_⟩
 obtain ⟨p,q,h1,h2,h3⟩:=h.row j s hj
 refine ⟨p,q,h1,fun hlt=>?_,h3⟩
 obtain ⟨a1,a2,a3,a4⟩:=h2 hlt
 exact ⟨bI.set a1 (kG hz hu a1),bI.set a2 (kG hz hu a2),a3,a4⟩
theorem M1 (h:bK E) (h':xL E) {v:V} {x:aG} (hv:GB v x) (hs:Small x):aB E 70 [v] Z fun v σ'=>σ' = Z /\ Wu v x:=by
 have ev:=hv.snap (E:=E) Z
 obtain ⟨a,b,c,d,rfl,ia,ib,ic,id⟩:=hv
 have o1:=aI ia.bB
 have o2:=aI ib.bB
 have o3:=aI ic.bB
 have o4:=aI id.bB
 have l4:=hs.steps
 rw [aH h'.hs70 h'.sp70 h'.fn70 h'.md70 (args':=[.agg [.str x.name,a,b,c,d]]) (by simp only [aU,ev]),aZ (by kernel_rfl)]
 simp only [aA,Tryz.f70,KP,↓reduceIte,Nat.reduceLT,Nat.reduceAdd,h.bD,o1,o2,o3,o4]
 refine Wk h h' ia ib ic id hs _ ?_ ?_
 ·exact (by simp +decide only [GS])
 intro F1 τ1 w1 w2 w3 w4 g1 g2 b0 z0 ow1 ow2 ow3 ow4 sep
 have g2:F1.get 2 = .ref 1 0:=g2.trans (by simp +decide only [GS])
 obtain ⟨k1,t1⟩:=m_ ow1
 obtain ⟨k2,t2⟩:=m_ ow2
 obtain ⟨k3,t3⟩:=m_ ow3
 rcases ow4 with ⟨rfl,hst⟩ | ⟨b4,rs,ex,rfl,hb,ha⟩
 ·have ln:∀ Z,lenOf E Z 35 .aC = some 0:=fun Z=>by unfold lenOf; rw [h.fD]
  simp only [KP,Ax.loadAt,↓reduceIte,Nat.reduceLT,reduceCtorEq,h.fD,h.bD,g1,b0,ln]
  rw [aF]
  have hz1:=(List.getElem?_eq_some_iff.1 z0).1
  have s1:∀ y,(τ1.set 1 y)[1]? = some y:=fun y=>List.getElem?_set_self hz1
  obtain ⟨a',e1,j1⟩:=pL h (bI.set (y:=O.cells 37 [.str x.name,w1,w2,w3,.aC] true) ow1 (kG z0 (by decide) ow1))
  obtain ⟨b',e2,j2⟩:=pL h (bI.set (y:=O.cells 37 [.str x.name,w1,w2,w3,.aC] true) ow2 (kG z0 (by decide) ow2))
  obtain ⟨c',e3,j3⟩:=pL h (bI.set (y:=O.cells 37 [.str x.name,w1,w2,w3,.aC] true) ow3 (kG z0 (by decide) ow3))
  have e0:∀ Y (z:aX),a_.one Y E.ty false (.str z) = some (.str z):=fun Y z=>rfl
  have e5:∀ Y,a_.one Y E.ty false .aC = some .aC:=fun Y=>rfl
  simp only [KP,Ax.loadAt,Ax.storeAt,↓reduceIte,Nat.reduceEqDiff,Nat.reduceLT,Nat.reduceAdd,Int.reduceLT,h.bD,g1,g2,b0,z0,k1,k2,k3,s1,e0,e1,e2,e3,e5,dI,a_,aU]
  exact ⟨a',b',c',.aC,rfl,j1,j2,j3,.inl ⟨rfl,hst⟩⟩
 ·generalize hn:x.steps.length = n at *
  obtain ⟨hb2,d1,d2,d3⟩:=sep b4 rfl
  have ln:∀ Z,lenOf E Z 35 (.sl b4 0 n none) = some n:=fun Z=>by unfold lenOf; rw [h.fD]
  simp only [KP,Ax.loadAt,↓reduceIte,Nat.reduceLT,reduceCtorEq,h.fD,h.bD,g1,b0,ln]
  refine aP (fun i F Y=>F.get 1 = .ref 0 0 /\ F.get 2 = .ref 1 0 /\ F.get 22 = .int .i64 (n:Int) /\ F.get 23 = .int .i64 (i:Int) /\ Y[0]? = some (O.cells 37 [.str x.name,w1,w2,w3,.sl b4 0 n none] true) /\ Y[1]? = some (O.cells 37 [.str [],.aC,.aC,.aC,.aC] true) /\ bI aK 9 Y w1 x.ins /\ bI aK 9 Y w2 x.outs /\ bI aK 9 Y w3 x.after /\ ∃ R,Nq Y b4 i R ex x.steps) n ?_ ?_ n 0 _ _ (by omega) (gC (by simp +decide only [GS,g1,g2,and_self]) ⟨b0,z0,ow1,ow2,ow3,rs,Nq.start hb ha⟩)
  ·rintro i F Y hi ⟨g1,g2,g22,g23,b0,z0,ow1,ow2,ow3,R,sa⟩ next
   obtain ⟨s,hsi⟩:∃ y,x.steps[i]? = some y:=⟨_,List.getElem?_eq_getElem (by omega)⟩
   obtain ⟨p,q,hr,-,hpq⟩:=sa.row i s hsi
   obtain ⟨ip,iq⟩:=hpq (Nat.le_refl _)
   have hsm:=List.mem_of_getElem? hsi
   have hlt:=d_ hi
   have hadd:=bU i (by omega)
   rw [aF]
   simp only [KP,↓reduceIte,Nat.reduceEqDiff,Nat.reduceLT,g22,g23,hlt]
   refine Wj h h' b0 sa.hb sa.Hz hr hi ip iq (hs.args s hsm) (hs.lits s hsm) hb2 _ ?_ ?_ ?_
   ·exact (by simp +decide only [GS,g1])
   ·exact (by simp +decide only [GS])
   intro F' τ' wp wq hF hb' op oq hk f1 f2
   have q1:F'.get 1 = .ref 0 0:=(hF 1 (by simp)).trans (by simp +decide only [GS,g1])
   have q2:F'.get 2 = .ref 1 0:=(hF 2 (by simp)).trans (by simp +decide only [GS,g2])
   have q22:F'.get 22 = .int .i64 (n:Int):=(hF 22 (by simp)).trans (by simp +decide only [GS,g22])
   have q23:F'.get 23 = .int .i64 (i:Int):=(hF 23 (by simp)).trans (by simp +decide only [GS,g23])
   simp only [KP,↓reduceIte,Nat.reduceLT,q23,hadd]
   exact next _ _ (gC (by simp +decide only [GS,q1,q2,q22,and_self]) ⟨hk 0 _ b0 (by omega),hk 1 _ z0 (by omega),ow1.keep fun c o hc ho=>hk c o ho (fun e=>d1 (by rw [hc,e])),ow2.keep fun c o hc ho=>hk c o ho (fun e=>d2 (by rw [hc,e])),ow3.keep fun c o hc ho=>hk c o ho (fun e=>d3 (by rw [hc,e])),_,sa.step hsi hb' op oq hk f1 f2⟩)
  ·rintro F Y ⟨g1,g2,g22,g23,b0,z0,ow1,ow2,ow3,R,sa⟩
   have hlt:=eA (Nat.lt_irrefl n)
   have hz1:=(List.getElem?_eq_some_iff.1 z0).1
   have s1:∀ y,(Y.set 1 y)[1]? = some y:=fun y=>List.getElem?_set_self hz1
   obtain ⟨a',e1,j1⟩:=pL h (bI.set (y:=O.cells 37 [.str x.name,w1,w2,w3,.sl b4 0 n none] true) ow1 (kG z0 (by decide) ow1))
   obtain ⟨b',e2,j2⟩:=pL h (bI.set (y:=O.cells 37 [.str x.name,w1,w2,w3,.sl b4 0 n none] true) ow2 (kG z0 (by decide) ow2))
   obtain ⟨c',e3,j3⟩:=pL h (bI.set (y:=O.cells 37 [.str x.name,w1,w2,w3,.sl b4 0 n none] true) ow3 (kG z0 (by decide) ow3))
   obtain ⟨d',e4,t4,j4⟩:=ES h (sa.Uy (y:=O.cells 37 [.str x.name,w1,w2,w3,.sl b4 0 n none] true) z0 (by decide) hb2) hn.symm
   have e4:a_.one (Y.set 1 (O.cells 37 [.str x.name,w1,w2,w3,.sl b4 0 n none] true)) E.ty false (.sl b4 0 n none) = some d':=by
    unfold a_.one
    rw [show dY = 12 from rfl,e4]
    simp only [t4,if_true]
   have e0:∀ Y (z:aX),a_.one Y E.ty false (.str z) = some (.str z):=fun Y z=>rfl
   rw [aF]
   simp only [KP,Ax.loadAt,Ax.storeAt,↓reduceIte,Nat.reduceEqDiff,Nat.reduceLT,Nat.reduceAdd,h.bD,g1,g2,g22,g23,hlt,b0,z0,k1,k2,k3,s1,e0,e1,e2,e3,e4,dI,a_,aU]
   exact ⟨a',b',c',d',rfl,j1,j2,j3,j4⟩
end
end
end Go.Proofs.YtlbbdpkjeeiahaaGreatDoor
end
section
set_option maxRecDepth 10000
set_option maxHeartbeats 8000000
namespace Go.Proofs.YtlbbdpkjeeiahaaGreatDoor.Lb
open Go Go.Ax Go.AxS
def LVf (v:V) (l:List bX):Prop:=(v = .aC /\ l = []) \/ ∃ full,v = .bP false (l.map row) full
theorem LVf.lv {v:V} {l:List bX} (h:LVf v l):LV v l:=h.imp id fun ⟨full,e⟩=>⟨false,full,e⟩
section
section
variable {E:Env} {Z:Sg} {K:V -> Sg -> Prop}
theorem Nt (n:Nat) (h:n <= 10000000000000):wr .i64 ((n:Int) + 1) = ((n + 1:Nat):Int):=by
 rw [AF,if_pos]
 ·rfl
 ·rw [Bool.and_eq_true,decide_eq_true_eq,decide_eq_true_eq]
  exact ⟨show (-9223372036854775808:Int) <= (n:Int) + 1 by omega,show (n:Int) + 1 <= (9223372036854775807:Int) by omega⟩
end
end
end Go.Proofs.YtlbbdpkjeeiahaaGreatDoor.Lb
end
section
set_option maxRecDepth 10000
set_option maxHeartbeats 8000000
namespace Go.Proofs.YtlbbdpkjeeiahaaGreatDoor.Lb
open Go Go.Ax Go.AxS
section
def w_ (ks:List bX):List (V × V):=ks.map fun k=>(V.agg [.bool k.1,.str k.2],V.bool true)
structure cN (Z:Sg) (b m:Nat) (ks:List bX):Prop where
 obj:Z[b]? = some (.cells 86 [.mp m] true)
 map:Z[m]? = some (.map (w_ ks))
 nodup:ks.Nodup
def Kp (Z σ':Sg) (m:Nat):Prop:=∀ (j:Nat) (o:O),j ≠ m -> Z[j]? = some o -> σ'[j]? = some o
def rL (Z σ':Sg):Prop:=∀ (j:Nat) (o:O),Z[j]? = some o -> σ'[j]? = some o
theorem rL.refl (Z:Sg):rL Z Z:=fun _ _ h=>h
theorem rL.trans {Z Y ρ:Sg} (h:rL Z Y) (k:rL Y ρ):rL Z ρ:=fun j o e=>k j o (h j o e)
theorem rL.app (Z Y:Sg):rL Z (Z ++ Y):=fun _ _ h=>mD h Y
theorem rL.sU {Z σ':Sg} (h:rL Z σ'):dM Z σ':=fun b t cs ex e=>h _ _ e
theorem Kp.refl (Z:Sg) (m:Nat):Kp Z Z m:=fun _ _ _ h=>h
theorem Kp.trans {Z Y ρ:Sg} {m:Nat} (h:Kp Z Y m) (k:Kp Y ρ m):Kp Z ρ m:=fun j o hj e=>k j o hj (h j o hj e)
theorem Kp.sU {Z σ':Sg} {m:Nat} {es:List (V × V)} (h:Kp Z σ' m) (hm:Z[m]? = some (.map es)):dM Z σ':=fun b t cs ex e=>h _ _ (fun hb=>by subst hb; rw [hm] at e; cases e) e
theorem rL.kp {Z σ':Sg} (h:rL Z σ') (m:Nat):Kp Z σ' m:=fun j o _ e=>h j o e
theorem cN.ne {Z:Sg} {b m:Nat} {ks:List bX} (h:cN Z b m ks):b ≠ m:=fun e=>by
 subst e; have:=h.obj; rw [h.map] at this; cases this
theorem cN.nC {Z σ':Sg} {b m:Nat} {ks:List bX} (h:cN Z b m ks) (k:rL Z σ'):cN σ' b m ks:=⟨k _ _ h.obj,k _ _ h.map,h.nodup⟩
theorem cN.kp {Z σ':Sg} {b m m':Nat} {ks ks':List bX} {b':Nat} (h:cN Z b m ks) (h':cN Z b' m' ks') (hm:m ≠ m') (k:Kp Z σ' m'):cN σ' b m ks:=
 ⟨k _ _ (fun e=>by subst e; have:=h.obj; rw [h'.map] at this; cases this) h.obj,k _ _ hm h.map,h.nodup⟩
section
variable {E:Env} {Z:Sg} {K:V -> Sg -> Prop}
theorem yO (h:jR E) (a b:Bool) (s t:List Nat):fA E 46 (.agg [.bool a,.str s]) (.agg [.bool b,.str t]) = some (decide (((a,s):bX) = (b,t))):=by
 unfold fA
 simp only [h.mZ,h.V3,Ax.eqs]
 rw [DU]
 cases a <;> cases b <;> simp
theorem yD (h:jR E) (a:Bool) (s:List Nat):dS E 46 (.agg [.bool a,.str s]) = true:=by
 unfold dS
 simp only [h.mZ,h.V3,Ax.eqs]
 rfl
theorem Ht (y:bX) (r:List bX) (x:bX) (hxy:x ≠ y):jE (y :: r) x = y :: jE r x:=by
 unfold jE
 by_cases hx:x ∈ r
 ·rw [if_pos hx,if_pos (List.mem_cons_of_mem _ hx)]
 ·rw [if_neg hx,if_neg (by simp [hxy,hx])]; rfl
theorem C6 (h:jR E) (x:bX):∀ ks:List bX,jZ (fA E 46) (.agg [.bool x.1,.str x.2]) (.bool true) (w_ ks) = some (w_ (jE ks x))
 | []=>rfl
 | y :: r=>by
  show (match fA E 46 (.agg [.bool x.1,.str x.2]) (.agg [.bool y.1,.str y.2]) with
   | some true=>some ((V.agg [.bool x.1,.str x.2],V.bool true) :: w_ r)
   | some false=>(match jZ (fA E 46) (.agg [.bool x.1,.str x.2]) (.bool true) (w_ r) with
    | some r'=>some ((V.agg [.bool y.1,.str y.2],V.bool true) :: r')
    | none=>none)
   | none=>none) = _
  rw [yO h,C6 h x r]
  by_cases hxy:x = y
  ·rw [decide_eq_true (show ((x.1,x.2):bX) = (y.1,y.2) from hxy)]
   subst hxy
   unfold jE
   rw [if_pos (List.mem_cons_self ..)]
   rfl
  ·rw [decide_eq_false (show ¬ ((x.1,x.2):bX) = (y.1,y.2) from hxy),Ht y r x hxy]
   rfl
theorem JA (h:jR E) (a:Bool) (s:List Nat):storeAt E (Z ++ [.cells 46 [.bool false,.str []] true]) 46 (.ref Z.length 0) (.agg [.bool a,.str s]) = some (Z ++ [.cells 46 [.bool a,.str s] true]):=by
 unfold storeAt
 simp only [h.mZ]
 rw [List.getElem?_append_right (Nat.le_refl _),Nat.sub_self]
 refine (if_pos rfl).trans ?_
 rw [List.set_append_right _ _ (Nat.le_refl _),Nat.sub_self]
 rfl
theorem Mg (h:jR E) (a:Bool) (s:List Nat):loadAt E (Z ++ [.cells 46 [.bool a,.str s] true]) 46 (.ref Z.length 0) = some (.agg [.bool a,.str s]):=by
 unfold loadAt
 simp only [h.mZ]
 rw [List.getElem?_append_right (Nat.le_refl _),Nat.sub_self]
 rfl
theorem sQ (h:jR E) {b m:Nat} (hb:Z[b]? = some (.cells 86 [.mp m] true)):loadAt E Z 82 (.ref b 0) = some (.mp m):=by
 unfold loadAt
 simp only [h.Co,hb]
 rfl
theorem DX (h:jR E) {m:Nat} {ks:List bX} (hm:Z[m]? = some (.map (w_ ks))) (x:bX):mapUpdate E Z 82 (.mp m) (.agg [.bool x.1,.str x.2]) (.bool true) = some (Z.set m (.map (w_ (jE ks x)))):=by
 unfold mapUpdate
 simp only [h.Co,yD h,hm,C6 h]
 rfl
theorem Av (h:jR E) {m:Nat} {ks:List bX} (hm:Z[m]? = some (.map (w_ ks))):lenOf E Z 82 (.mp m) = some ks.length:=by
 unfold lenOf
 simp only [h.Co,hm]
 simp [w_]
theorem Gv (h:jR E) {b m:Nat} {ks l:List bX} {v:V} {n0:Int} (hsm:l.length <= 10000000000) {σ0:Sg} {s:List lX} {Q:Ax.X -> Fr -> Sg -> Prop}
  (hQ:∀ (F':FT) (σ':Sg),cN σ' b m (keys ks l) -> Kp σ0 σ' m -> F'.get 0 = .ref b 0 -> F'.get 5 = .int .i64 n0 -> M E s .normal ⟨48,F'⟩ σ' Q) :
  ∀ (k i:Nat) (F:FT) (σ':Sg),i + k = l.length -> cN σ' b m (keys ks (l.take i)) -> SV σ' v l -> Kp σ0 σ' m -> F.get 0 = .ref b 0 -> F.get 5 = .int .i64 n0 -> F.get 27 = v -> F.get 28 = .int .i64 (l.length:Int) -> F.get 29 = .int .i64 (i:Int) ->
   R E (.loop (cutAt [1,1,1,1,0,1,2,2] (aA Tryz.f71).code)) (.blk 0 :: s) ⟨48,F⟩ σ' Q:=by
 have d9:=h.Wd
 simp only [aA,Tryz.f71,cutAt,Option.getD_some] at d9
 intro k
 induction k with
 | zero=>
  intro i F σ' hi hs hv hk g0 g5 g27 g28 g29
  have hlt:decide ((i:Int) < (l.length:Int)) = false:=decide_eq_false (by omega)
  rw [aF]
  simp only [aA,Tryz.f71,KP,↓reduceIte,Nat.reduceLT,cutAt,g28,g29,hlt]
  rw [List.take_of_length_le (by omega)] at hs
  refine hQ _ _ hs hk ?_ ?_ <;> simp only [FT.jK,g0,g5,↓reduceIte,Nat.reduceEqDiff,reduceCtorEq]
 | succ k ih=>
  intro i F σ' hi hs hv hk g0 g5 g27 g28 g29
  have hlt:decide ((i:Int) < (l.length:Int)) = true:=decide_eq_true (by omega)
  obtain ⟨x,hx⟩:∃ x,l[i]? = some x:=⟨_,List.getElem?_eq_getElem (by omega)⟩
  obtain ⟨pa,e1,e2⟩:=O2 h hv hx
  have e2:=e2 _ (dM.refl _)
  have hadd:=Nt i (by omega)
  have lm:=sQ h (mD hs.obj [.cells 46 [.bool x.1,.str x.2] true])
  have pm:=DX h (mD hs.map [.cells 46 [.bool x.1,.str x.2] true]) x
  rw [aF]
  simp only [aA,Tryz.f71,KP,↓reduceIte,Nat.reduceEqDiff,Nat.reduceLT,reduceCtorEq,h.mZ,h.Co,h.Jw,h.Jv,cutAt,g0,g27,g28,g29,hlt,e1,e2,JA h,Mg h,lm,pm,bG d9,cC,hadd]
  have hml:=(List.getElem?_eq_some_iff.1 hs.map).1
  refine ih (i + 1) _ _ (by omega) ⟨?_,?_,?_⟩ ?_ ?_ ?_ ?_ ?_ ?_ ?_
  ·rw [List.getElem?_set_ne hs.ne.symm]
   exact mD hs.obj _
  ·rw [List.getElem?_set_self (by rw [List.length_append]; omega)]
   rw [List.take_add_one,hx]
   show some (O.map (w_ (jE (keys ks (l.take i)) x))) = some (O.map (w_ (List.foldl jE ks (l.take i ++ [x]))))
   rw [List.foldl_append]
   rfl
  ·rw [List.take_add_one,hx]
   show (List.foldl jE ks (l.take i ++ [x])).Nodup
   rw [List.foldl_append]
   exact FD hs.nodup
  ·refine hv.keep fun j t cs ex e=>?_
   rw [List.getElem?_set_ne (fun hj=>by subst hj; rw [hs.map] at e; cases e)]
   exact mD e _
  ·refine hk.trans fun j o hj e=>?_
   rw [List.getElem?_set_ne (fun h=>hj h.symm)]
   exact mD e _
  all_goals simp only [FT.jK,g0,g5,g27,g28,↓reduceIte,Nat.reduceEqDiff,reduceCtorEq]
theorem PV (a b:Nat) (ha:a <= 1000000000000) (hb:b <= 1000000000000):wr .i64 ((a:Int) - (b:Int)) = (a:Int) - (b:Int):=by
 rw [AF,if_pos]
 rw [Bool.and_eq_true,decide_eq_true_eq,decide_eq_true_eq]
 exact ⟨show (-9223372036854775808:Int) <= _ by omega,show _ <= (9223372036854775807:Int) by omega⟩
theorem M8 (h:jR E) {b m:Nat} {ks l:List bX} {v:V} (hs:cN Z b m ks) (hv:SV Z v l) (hsm:l.length <= 10000000000) (hks:ks.length <= 10000000000) :
  aB E 71 [.ref b 0,v] Z fun r σ'=>r = .int .i64 (((keys ks l).length:Int) - (ks.length:Int)) /\ cN σ' b m (keys ks l) /\ Kp Z σ' m:=by
 rw [fG h.UC h.R_ h.Vm h.TP,aZ (by kernel_rfl)]
 have lm:=sQ h hs.obj
 have lk:=Av h hs.map
 have lv:lenOf E Z 40 v = some l.length:=QM h hv
 simp only [aA,Tryz.f71,KP,↓reduceIte,Nat.reduceEqDiff,Nat.reduceLT,Nat.reduceAdd,reduceCtorEq,h.Cp,h.Co,h.Jw,h.Jv,lm,lk,lv,rU]
 refine Gv h hsm (σ0:=Z) (n0:=(ks.length:Int)) (fun F' σ' hs' hk' g0 g5=>?_) l.length 0 _ Z (by omega) hs hv (Kp.refl _ _) ?_ ?_ ?_ ?_ ?_
 ·have lm2:=sQ h hs'.obj
  have lk2:=Av h hs'.map
  have hl:=oQ (xs:=l) (l:=ks)
  have hsub:=PV (keys ks l).length ks.length (by omega) (by omega)
  simp only [KP,↓reduceIte,Nat.reduceEqDiff,Nat.reduceLT,reduceCtorEq,h.Co,h.Jw,h.Jv,lm2,lk2,g0,g5,hsub]
  exact ⟨hs',hk'⟩
 all_goals simp only [FT.jK,KP,↓reduceIte,Nat.reduceEqDiff,reduceCtorEq]
 all_goals rfl
end
end
section
section
variable {E:Env} {Z:Sg} {K:V -> Sg -> Prop}
theorem Mf (h:jR E) {b:Nat} (hb:Z[b]? = some (.cells 86 [.bQ] true)):loadAt E Z 82 (.ref b 0) = some .bQ:=by
 unfold loadAt
 simp only [h.Co,hb]
 rfl
theorem JB (h:jR E) {b m:Nat} {u:V} (hb:Z[b]? = some (.cells 86 [u] true)):storeAt E Z 82 (.ref b 0) (.mp m) = some (Z.set b (.cells 86 [.mp m] true)):=by
 unfold storeAt
 simp only [h.Co,hb]
 rfl
theorem M7 (h:jR E) {b:Nat} {l:List bX} {v:V} (hb:Z[b]? = some (.cells 86 [.bQ] true)) (hv:SV Z v l) (hsm:l.length <= 10000000000) :
  aB E 71 [.ref b 0,v] Z fun r σ'=>∃ m,cN σ' b m (keys [] l) /\ Z.length <= m /\ ∀ j o,j ≠ b -> Z[j]? = some o -> σ'[j]? = some o:=by
 rw [fG h.UC h.R_ h.Vm h.TP,aZ (by kernel_rfl)]
 have hbl:=(List.getElem?_eq_some_iff.1 hb).1
 have ln:=Mf h hb
 have st:=JB h (m:=Z.length) (mD hb [.map []])
 have hs1:cN ((Z ++ [O.map []]).set b (.cells 86 [.mp Z.length] true)) b Z.length []:=by
  refine ⟨List.getElem?_set_self (by rw [List.length_append]; omega),?_,List.nodup_nil⟩
  rw [List.getElem?_set_ne (by omega),List.getElem?_append_right (Nat.le_refl _),Nat.sub_self]
  rfl
 have hk1:∀ j o,j ≠ b -> Z[j]? = some o -> ((Z ++ [O.map []]).set b (.cells 86 [.mp Z.length] true))[j]? = some o:=fun j o hj e=>by
  rw [List.getElem?_set_ne (fun e=>hj e.symm)]
  exact mD e _
 have hv1:SV ((Z ++ [O.map []]).set b (.cells 86 [.mp Z.length] true)) v l:=by
  rcases hv with hv | hv | ⟨j,cs,ex,e1,e2,e3⟩
  ·exact .inl hv
  ·exact .inr (.inl hv)
  ·refine .inr (.inr ⟨j,cs,ex,e1,hk1 j _ (fun e=>?_) e2,e3⟩)
   subst e; rw [hb] at e2; cases e2
 have lm:=sQ h hs1.obj
 have lk:=Av h hs1.map
 have lv:∀ σ',lenOf E σ' 40 v = some l.length:=fun σ'=>by
  unfold lenOf
  rw [h.EI]
  rcases hv with ⟨rfl,rfl⟩ | ⟨g,full,rfl⟩ | ⟨j,cs,ex,rfl,e2,e3⟩
  ·rfl
  ·simp
  ·rfl
 simp only [aA,Tryz.f71,KP,↓reduceIte,Nat.reduceEqDiff,Nat.reduceLT,Nat.reduceAdd,reduceCtorEq,h.Cp,h.Co,h.Jw,h.Jv,ln,st,lm,lk,lv,rU]
 refine Gv h hsm (σ0:=(Z ++ [O.map []]).set b (.cells 86 [.mp Z.length] true)) (n0:=0) (fun F' σ' hs' hk' g0 g5=>?_) l.length 0 _ _ (by omega) hs1 hv1 (Kp.refl _ _) ?_ ?_ ?_ ?_ ?_
 ·have lm2:=sQ h hs'.obj
  have lk2:=Av h hs'.map
  simp only [KP,↓reduceIte,Nat.reduceEqDiff,Nat.reduceLT,reduceCtorEq,h.Co,h.Jw,h.Jv,lm2,lk2,g0,g5]
  refine ⟨Z.length,hs',Nat.le_refl _,fun j o hj e=>?_⟩
  have hjl:=(List.getElem?_eq_some_iff.1 e).1
  exact hk' j o (by omega) (hk1 j o hj e)
 all_goals simp only [FT.jK,KP,↓reduceIte,Nat.reduceEqDiff,reduceCtorEq]
 all_goals rfl
theorem PL (h:jR E) {l:List bX} {v:V} (hv:SV Z v l) (hsm:l.length <= 10000000000) :
  aB E 44 [v] Z fun r σ'=>∃ m,r = .ref Z.length 0 /\ cN σ' Z.length m (keys [] l) /\ Z.length < m /\ rL Z σ':=by
 rw [fG h.hs44 h.sp44 h.fn44 h.md44,aZ (by kernel_rfl)]
 simp only [aA,Tryz.f44,KP,↓reduceIte,Nat.reduceEqDiff,Nat.reduceLT,reduceCtorEq,h.Jw,h.Jv,Ax.fill]
 have hb:(Z ++ [O.cells 86 [.bQ] true])[Z.length]? = some (.cells 86 [.bQ] true):=by
  rw [List.getElem?_append_right (Nat.le_refl _),Nat.sub_self]; rfl
 refine aO (M7 h hb (hv.keep (dM.app _ _)) hsm) ?_
 rintro r σ' ⟨m,hs,hm,hk⟩
 simp only [KP,↓reduceIte,Nat.reduceEqDiff,Nat.reduceLT]
 rw [List.length_append] at hm
 refine ⟨m,hs,by simp at hm; omega,fun j o e=>?_⟩
 have hjl:=(List.getElem?_eq_some_iff.1 e).1
 exact hk j o (by omega) (mD e _)
def Own (Z σ':Sg) (r:V) (l:List bX):Prop:=(r = .aC /\ l = []) \/ ∃ j,Z.length <= j /\ r = .sl j 0 l.length none /\ σ'[j]? = some (.cells 46 (l.flatMap row) false)
theorem Own.sv {Z σ':Sg} {r:V} {l:List bX} (h:Own Z σ' r l):SV σ' r l:=by
 rcases h with h | ⟨j,_,h1,h2⟩
 ·exact .inl h
 ·exact .inr (.inr ⟨j,_,_,h1,h2,List.take_of_length_le (by rw [sX]; exact Nat.le_refl _)⟩)
end
end
section
section
variable {E:Env} {Z:Sg} {K:V -> Sg -> Prop}
theorem Fu {α:Type} {f:α -> Option α}:∀ l:List α,(∀ x ∈ l,f x = some x) -> aU f l = some l
 | [],_=>rfl
 | x :: l,h=>by rw [aU,h x (List.mem_cons_self ..),Fu l fun y hy=>h y (List.mem_cons_of_mem _ hy)]
structure UnionE (E:Env):Prop where
 hs:E.hspec 46 = none
 sp:E.spec 46 = none
 fn:E.fn 46 = some (aA Tryz.f46)
 md:E.mode 46 = .shared
end
end
end Go.Proofs.YtlbbdpkjeeiahaaGreatDoor.Lb
end
section
set_option maxRecDepth 10000
set_option maxHeartbeats 8000000
namespace Go.Proofs.YtlbbdpkjeeiahaaGreatDoor
open Go Go.Ax Go.AxS
section
section
variable {E:Env} {Z:Sg} {K:V -> Sg -> Prop}
structure dH where
 key:bX
 s:Nat
 m:Nat
 ks:List bX
def pU (x:bX):V:=.agg [.bool x.1,.str x.2]
def nF (e:dH):V × V:=(pU e.key,.ref e.s 0)
structure iE (Z:Sg) (b:Nat) (L:List dH):Prop where
 map:Z[b]? = some (.map (L.map nF))
 sets:∀ e ∈ L,Lb.cN Z e.s e.m e.ks
 nodup:(L.map dH.key).Nodup
theorem Bl (hl:Lb.jR E) (x:bX):∀ L:List dH,j_ (fA E 46) (pU x) (L.map nF) = some ((L.find? fun e=>decide (x = e.key)).map fun e=>.ref e.s 0)
 | []=>rfl
 | e :: L=>by
  show (match fA E 46 (.agg [.bool x.1,.str x.2]) (.agg [.bool e.key.1,.str e.key.2]) with
   | some true=>some (some (V.ref e.s 0))
   | some false=>j_ (fA E 46) (pU x) (L.map nF)
   | none=>none) = _
  rw [Lb.yO hl,List.find?_cons]
  by_cases h:x = e.key
  ·rw [decide_eq_true (show ((x.1,x.2):bX) = (e.key.1,e.key.2) from h)]; rfl
  ·rw [decide_eq_false (show ¬ ((x.1,x.2):bX) = (e.key.1,e.key.2) from h)]
   exact Bl hl x L
theorem C7 (hl:Lb.jR E) (x:bX) (s m:Nat) (ks:List bX):∀ L:List dH,(∀ e ∈ L,x ≠ e.key) -> jZ (fA E 46) (pU x) (.ref s 0) (L.map nF) = some ((L ++ [dH.mk x s m ks]).map nF)
 | [],_=>rfl
 | e :: L,h=>by
  have hx:=h e (List.mem_cons_self ..)
  show (match fA E 46 (.agg [.bool x.1,.str x.2]) (.agg [.bool e.key.1,.str e.key.2]) with
   | some true=>some ((pU x,V.ref s 0) :: L.map nF)
   | some false=>(match jZ (fA E 46) (pU x) (.ref s 0) (L.map nF) with
    | some r=>some (nF e :: r)
    | none=>none)
   | none=>none) = _
  rw [Lb.yO hl,decide_eq_false (show ¬ ((x.1,x.2):bX) = (e.key.1,e.key.2) from hx),C7 hl x s m ks L fun y hy=>h y (List.mem_cons_of_mem _ hy)]
  rfl
def bW (L:List dH) (x:bX):Option dH:=L.find? fun e=>decide (x = e.key)
theorem Dc (h':xL E) (hl:Lb.jR E) {Z:Sg} {b:Nat} {L:List dH} (hm:Z[b]? = some (.map (L.map nF))) (x:bX):lookup E Z 105 (.mp b) (pU x) false = some (match bW L x with | some e=>.ref e.s 0 | none=>.gR):=by
 have hk:=Lb.yD hl x.1 x.2
 unfold Ax.lookup
 simp only [h'.uF,hl.Cp,pU,hk,entriesOf,hm,Bool.not_true,Bool.false_eq_true,if_false]
 have:=Bl hl x L
 unfold pU at this
 rw [this]
 unfold bW
 cases L.find? fun e=>decide (x = e.key) <;> rfl
theorem wR (h':xL E) (hl:Lb.jR E) {Z:Sg} {b:Nat} {L:List dH} (hm:iE Z b L) (x:bX):lookup E Z 105 (.mp b) (pU x) false = some (match bW L x with | some e=>.ref e.s 0 | none=>.gR):=Dc h' hl hm.map x
theorem DX (h':xL E) (hl:Lb.jR E) {Z:Sg} {b:Nat} {L:List dH} (hm:iE Z b L) {x:bX} (hx:bW L x = none) {s m:Nat} {ks:List bX}:mapUpdate E Z 105 (.mp b) (pU x) (.ref s 0) = some (Z.set b (.map ((L ++ [dH.mk x s m ks]).map nF))):=by
 have hk:=Lb.yD hl x.1 x.2
 have hne:∀ e ∈ L,x ≠ e.key:=fun e he hxe=>by
  have:=List.find?_eq_none.1 hx e he
  simp [hxe] at this
 have:=C7 hl x s m ks L hne
 unfold pU at this
 unfold Ax.mapUpdate
 simp only [h'.uF,pU,hk,hm.map,this,eU,V.aT,Bool.not_true,Bool.or_self,Bool.false_eq_true,if_false,Option.map_some]
end
end
section
section
variable {E:Env} {Z:Sg} {K:V -> Sg -> Prop}
theorem cN.keep {Z σ':Sg} {s m x:Nat} {ks:List bX} {es:List (V × V)} (h:Lb.cN Z s m ks) (hx:Z[x]? = some (.map es)) (hm:m ≠ x) (k:∀ (j:Nat) (o:O),j ≠ x -> Z[j]? = some o -> σ'[j]? = some o):Lb.cN σ' s m ks:=by
 refine ⟨k _ _ (fun e=>?_) h.obj,k _ _ hm h.map,h.nodup⟩
 have:=h.obj
 rw [e,hx] at this
 cases this
theorem iE.keep {Z σ':Sg} {b x:Nat} {L:List dH} {es:List (V × V)} (h:iE Z b L) (hx:Z[x]? = some (.map es)) (hb:b ≠ x) (hm:x ∉ L.map dH.m) (k:∀ (j:Nat) (o:O),j ≠ x -> Z[j]? = some o -> σ'[j]? = some o):iE σ' b L:=
 ⟨k _ _ hb h.map,fun e he=>cN.keep (h.sets e he) hx (fun e'=>hm (List.mem_map.2 ⟨e,he,e'⟩)) k,h.nodup⟩
def oM (L:List dH) (x:bX) (ks:List bX):List dH:=L.map fun e=>if e.key = x then { e with ks:=ks } else e
theorem Ju (L:List dH) (x:bX) (ks:List bX):(oM L x ks).map nF = L.map nF:=by
 unfold oM
 rw [List.map_map]
 refine List.map_congr_left fun e _=>?_
 show nF (if e.key = x then _ else e) = nF e
 by_cases h:e.key = x
 ·rw [if_pos h]; rfl
 ·rw [if_neg h]
theorem CI (L:List dH) (x:bX) (ks:List bX):(oM L x ks).map dH.key = L.map dH.key:=by
 unfold oM
 rw [List.map_map]
 refine List.map_congr_left fun e _=>?_
 show dH.key (if e.key = x then _ else e) = e.key
 by_cases h:e.key = x
 ·rw [if_pos h]
 ·rw [if_neg h]
theorem HX (L:List dH) (x:bX) (ks:List bX):(oM L x ks).map dH.m = L.map dH.m:=by
 unfold oM
 rw [List.map_map]
 refine List.map_congr_left fun e _=>?_
 show dH.m (if e.key = x then _ else e) = e.m
 by_cases h:e.key = x
 ·rw [if_pos h]
 ·rw [if_neg h]
theorem yA {β:Type} {f:dH -> β}:∀ {L:List dH},(L.map f).Nodup -> ∀ e ∈ L,∀ e' ∈ L,f e = f e' -> e = e'
 | [],_,e,he,_,_,_=>by cases he
 | a :: L,h,e,he,e',he',hm=>by
  rw [List.map_cons,List.nodup_cons] at h
  rcases List.mem_cons.1 he with h1 | h1 <;> rcases List.mem_cons.1 he' with h2 | h2
  ·rw [h1,h2]
  ·exact absurd (List.mem_map.2 ⟨e',h2,by rw [<- hm,h1]⟩) h.1
  ·exact absurd (List.mem_map.2 ⟨e,h1,by rw [hm,h2]⟩) h.1
  ·exact yA h.2 e h1 e' h2 hm
theorem iE.up {Z σ':Sg} {b:Nat} {L:List dH} {e:dH} {ks:List bX} (h:iE Z b L) (he:e ∈ L) (hnd:(L.map dH.m).Nodup) (hb:b ≠ e.m) (hs:Lb.cN σ' e.s e.m ks) (k:∀ (j:Nat) (o:O),j ≠ e.m -> Z[j]? = some o -> σ'[j]? = some o):iE σ' b (oM L e.key ks):=by
 refine ⟨by rw [Ju]; exact k _ _ hb h.map,fun a ha=>?_,by rw [CI]; exact h.nodup⟩
 obtain ⟨a0,ha0,rfl⟩:=List.mem_map.1 ha
 by_cases hk:a0.key = e.key
 ·have hae:a0 = e:=yA h.nodup a0 ha0 e he hk
  subst hae
  rw [if_pos rfl]
  exact hs
 ·rw [if_neg hk]
  exact cN.keep (h.sets a0 ha0) (h.sets e he).map (fun e'=>hk (by rw [yA hnd a0 ha0 e he e'])) k
structure mR (E:Env) (Z:Sg) (gb m0 m1 sa ma b3 b4:Nat) (es0 es1:List (V × V)) (A:List bX) (L3 L4:List dH):Prop where
 g:Z[gb]? = some (.cells 107 [.mp m0,.mp m1,.ref sa 0,.mp b3,.mp b4] true)
 rules:Z[m0]? = some (.map es0)
 jD:Z[m1]? = some (.map es1)
 all:Lb.cN Z sa ma A
 jB:iE Z b3 L3
 iW:iE Z b4 L4
 sep:(m0 :: m1 :: ma :: b3 :: b4 :: (L3.map dH.m ++ L4.map dH.m)).Nodup
end
end
section
section
variable {E:Env} {Z:Sg} {K:V -> Sg -> Prop}
theorem cN.app {Z:Sg} {s m:Nat} {ks:List bX} (h:Lb.cN Z s m ks) (y:O):Lb.cN (Z ++ [y]) s m ks:=⟨aL h.obj,aL h.map,h.nodup⟩
theorem iE.app {Z:Sg} {b:Nat} {L:List dH} (h:iE Z b L) (y:O):iE (Z ++ [y]) b L:=⟨aL h.map,fun e he=>cN.app (h.sets e he) y,h.nodup⟩
theorem mR.app {{Z:Sg}} {{gb m0 m1 sa ma b3 b4:Nat}} {{es0 es1:List (V × V)}} {{A:List bX}} {{L3 L4:List dH}} (h:mR E Z gb m0 m1 sa ma b3 b4 es0 es1 A L3 L4) (y:O):mR E (Z ++ [y]) gb m0 m1 sa ma b3 b4 es0 es1 A L3 L4:=
 ⟨aL h.g,aL h.rules,aL h.jD,cN.app h.all y,h.jB.app y,h.iW.app y,h.sep⟩
theorem mR.more {{Z σ':Sg}} {{gb m0 m1 sa ma b3 b4:Nat}} {{es0 es1:List (V × V)}} {{A:List bX}} {{L3 L4:List dH}} (h:mR E Z gb m0 m1 sa ma b3 b4 es0 es1 A L3 L4) {A':List bX} (hs:Lb.cN σ' sa ma A') (k:∀ (j:Nat) (o:O),j ≠ ma -> Z[j]? = some o -> σ'[j]? = some o):mR E σ' gb m0 m1 sa ma b3 b4 es0 es1 A' L3 L4:=by
 have sep:=h.sep
 simp only [List.nodup_cons,List.mem_cons,List.mem_append,not_or] at sep
 obtain ⟨⟨-,n0,-⟩,⟨n1,-⟩,⟨n3,n4,n5,n6⟩,-⟩:=sep
 have hx:=h.all.map
 have ng:gb ≠ ma:=fun e=>by
  have:=h.g
  rw [e,hx] at this
  cases this
 exact ⟨k _ _ ng h.g,k _ _ n0 h.rules,k _ _ n1 h.jD,hs,h.jB.keep hx (fun e=>n3 e.symm) n5 k,h.iW.keep hx (fun e=>n4 e.symm) n6 k,h.sep⟩
theorem mR.rule {{Z:Sg}} {{gb m0 m1 sa ma b3 b4:Nat}} {{es0 es1:List (V × V)}} {{A:List bX}} {{L3 L4:List dH}} (h:mR E Z gb m0 m1 sa ma b3 b4 es0 es1 A L3 L4) (es:List (V × V)):mR E (Z.set m0 (.map es)) gb m0 m1 sa ma b3 b4 es es1 A L3 L4:=by
 have sep:=h.sep
 simp only [List.nodup_cons,List.mem_cons,List.mem_append,not_or] at sep
 obtain ⟨⟨n1,na,n3,n4,n5,n6⟩,-⟩:=sep
 have hx:=h.rules
 have ng:gb ≠ m0:=fun e=>by
  have:=h.g
  rw [e,hx] at this
  cases this
 have k:∀ (j:Nat) (o:O),j ≠ m0 -> Z[j]? = some o -> (Z.set m0 (.map es))[j]? = some o:=fun j o hj ho=>by
  rw [List.getElem?_set_ne (Ne.symm hj)]; exact ho
 exact ⟨k _ _ ng h.g,List.getElem?_set_self (List.getElem?_eq_some_iff.1 hx).1,k _ _ (Ne.symm n1) h.jD,cN.keep h.all hx (Ne.symm na) k,h.jB.keep hx (Ne.symm n3) n5 k,h.iW.keep hx (Ne.symm n4) n6 k,h.sep⟩
theorem mR.Ma {{Z:Sg}} {{gb m0 m1 sa ma b3 b4:Nat}} {{es0 es1:List (V × V)}} {{A:List bX}} {{L3 L4:List dH}} (h:mR E Z gb m0 m1 sa ma b3 b4 es0 es1 A L3 L4) (es:List (V × V)):mR E (Z.set m1 (.map es)) gb m0 m1 sa ma b3 b4 es0 es A L3 L4:=by
 have sep:=h.sep
 simp only [List.nodup_cons,List.mem_cons,List.mem_append,not_or] at sep
 obtain ⟨⟨n1,-⟩,⟨na,n3,n4,n5,n6⟩,-⟩:=sep
 have hx:=h.jD
 have ng:gb ≠ m1:=fun e=>by
  have:=h.g
  rw [e,hx] at this
  cases this
 have k:∀ (j:Nat) (o:O),j ≠ m1 -> Z[j]? = some o -> (Z.set m1 (.map es))[j]? = some o:=fun j o hj ho=>by
  rw [List.getElem?_set_ne (Ne.symm hj)]; exact ho
 exact ⟨k _ _ ng h.g,k _ _ n1 h.rules,List.getElem?_set_self (List.getElem?_eq_some_iff.1 hx).1,cN.keep h.all hx (Ne.symm na) k,h.jB.keep hx (Ne.symm n3) n5 k,h.iW.keep hx (Ne.symm n4) n6 k,h.sep⟩
end
end
section
section
variable {E:Env} {Z:Sg} {K:V -> Sg -> Prop}
theorem mR.facts {Z:Sg} {gb m0 m1 sa ma b3 b4:Nat} {es0 es1:List (V × V)} {A:List bX} {L3 L4:List dH} (h:mR E Z gb m0 m1 sa ma b3 b4 es0 es1 A L3 L4):(L3.map dH.m).Nodup /\ (L4.map dH.m).Nodup /\ ∀ x,x ∈ L3.map dH.m \/ x ∈ L4.map dH.m -> m0 ≠ x /\ m1 ≠ x /\ ma ≠ x /\ b3 ≠ x /\ b4 ≠ x:=by
 have sep:=h.sep
 simp only [List.nodup_cons,List.mem_cons,List.mem_append,not_or,List.nodup_append] at sep
 obtain ⟨⟨-,-,-,-,a5,a6⟩,⟨-,-,-,b5,b6⟩,⟨-,-,c5,c6⟩,⟨-,d5,d6⟩,⟨e5,e6⟩,f1,f2,-⟩:=sep
 refine ⟨f1,f2,fun x hx=>?_⟩
 rcases hx with hx | hx
 ·exact ⟨fun e=>a5 (by rw [e]; exact hx),fun e=>b5 (by rw [e]; exact hx),fun e=>c5 (by rw [e]; exact hx),fun e=>d5 (by rw [e]; exact hx),fun e=>e5 (by rw [e]; exact hx)⟩
 ·exact ⟨fun e=>a6 (by rw [e]; exact hx),fun e=>b6 (by rw [e]; exact hx),fun e=>c6 (by rw [e]; exact hx),fun e=>d6 (by rw [e]; exact hx),fun e=>e6 (by rw [e]; exact hx)⟩
theorem mR.PJ {Z:Sg} {gb m0 m1 sa ma b3 b4:Nat} {es0 es1:List (V × V)} {A:List bX} {L3 L4:List dH} (h:mR E Z gb m0 m1 sa ma b3 b4 es0 es1 A L3 L4):∀ x ∈ L3.map dH.m,x ∉ L4.map dH.m:=by
 have sep:=h.sep
 simp only [List.nodup_cons,List.mem_cons,List.mem_append,not_or,List.nodup_append] at sep
 obtain ⟨-,-,-,-,-,-,-,f3⟩:=sep
 exact fun x hx hy=>f3 x hx x hy rfl
theorem mR.L1 {{Z σ':Sg}} {{gb m0 m1 sa ma b3 b4:Nat}} {{es0 es1:List (V × V)}} {{A:List bX}} {{L3 L4:List dH}} (h:mR E Z gb m0 m1 sa ma b3 b4 es0 es1 A L3 L4) {e:dH} (he:e ∈ L3) {ks:List bX} (hs:Lb.cN σ' e.s e.m ks) (k:∀ (j:Nat) (o:O),j ≠ e.m -> Z[j]? = some o -> σ'[j]? = some o):mR E σ' gb m0 m1 sa ma b3 b4 es0 es1 A (oM L3 e.key ks) L4:=by
 obtain ⟨f1,f2,f3⟩:=h.facts
 have hm:e.m ∈ L3.map dH.m:=List.mem_map.2 ⟨e,he,rfl⟩
 obtain ⟨n1,n2,n3,n4,n5⟩:=f3 e.m (Or.inl hm)
 have hx:=(h.jB.sets e he).map
 have ng:gb ≠ e.m:=fun e'=>by
  have:=h.g
  rw [e',hx] at this
  cases this
 have nb:=n4
 exact ⟨k _ _ ng h.g,k _ _ n1 h.rules,k _ _ n2 h.jD,cN.keep h.all hx n3 k,iE.up h.jB he f1 nb hs k,h.iW.keep hx n5 (fun hx'=>h.PJ _ hm hx') k,by rw [HX]; exact h.sep⟩
theorem mR.KX {{Z σ':Sg}} {{gb m0 m1 sa ma b3 b4:Nat}} {{es0 es1:List (V × V)}} {{A:List bX}} {{L3 L4:List dH}} (h:mR E Z gb m0 m1 sa ma b3 b4 es0 es1 A L3 L4) {e:dH} (he:e ∈ L4) {ks:List bX} (hs:Lb.cN σ' e.s e.m ks) (k:∀ (j:Nat) (o:O),j ≠ e.m -> Z[j]? = some o -> σ'[j]? = some o):mR E σ' gb m0 m1 sa ma b3 b4 es0 es1 A L3 (oM L4 e.key ks):=by
 obtain ⟨f1,f2,f3⟩:=h.facts
 have hm:e.m ∈ L4.map dH.m:=List.mem_map.2 ⟨e,he,rfl⟩
 obtain ⟨n1,n2,n3,n4,n5⟩:=f3 e.m (Or.inr hm)
 have hx:=(h.iW.sets e he).map
 have ng:gb ≠ e.m:=fun e'=>by
  have:=h.g
  rw [e',hx] at this
  cases this
 have nb:=n5
 exact ⟨k _ _ ng h.g,k _ _ n1 h.rules,k _ _ n2 h.jD,cN.keep h.all hx n3 k,h.jB.keep hx n4 (fun hx'=>h.PJ _ hx' hm) k,iE.up h.iW he f2 nb hs k,by rw [HX]; exact h.sep⟩
end
end
section
section
variable {E:Env} {Z:Sg} {K:V -> Sg -> Prop}
theorem iE.nC {Z σ1:Sg} {b:Nat} {L:List dH} (h:iE Z b L) (k:Lb.rL Z σ1):iE σ1 b L:=⟨k _ _ h.map,fun e he=>⟨k _ _ (h.sets e he).obj,k _ _ (h.sets e he).map,(h.sets e he).nodup⟩,h.nodup⟩
theorem mR.nC {{Z σ1:Sg}} {{gb m0 m1 sa ma b3 b4:Nat}} {{es0 es1:List (V × V)}} {{A:List bX}} {{L3 L4:List dH}} (h:mR E Z gb m0 m1 sa ma b3 b4 es0 es1 A L3 L4) (k:Lb.rL Z σ1):mR E σ1 gb m0 m1 sa ma b3 b4 es0 es1 A L3 L4:=
 ⟨k _ _ h.g,k _ _ h.rules,k _ _ h.jD,⟨k _ _ h.all.obj,k _ _ h.all.map,h.all.nodup⟩,h.jB.nC k,h.iW.nC k,h.sep⟩
theorem mR.below {Z:Sg} {gb m0 m1 sa ma b3 b4:Nat} {es0 es1:List (V × V)} {A:List bX} {L3 L4:List dH} (h:mR E Z gb m0 m1 sa ma b3 b4 es0 es1 A L3 L4) {m:Nat} (hm:Z.length <= m):m ∉ m0 :: m1 :: ma :: b3 :: b4 :: (L3.map dH.m ++ L4.map dH.m):=by
 have lt:∀ {i:Nat} {o:O},Z[i]? = some o -> i < m:=fun e=>Nat.lt_of_lt_of_le (List.getElem?_eq_some_iff.1 e).1 hm
 have h0:=lt h.rules
 have h1:=lt h.jD
 have h2:=lt h.all.map
 have h3:=lt h.jB.map
 have h4:=lt h.iW.map
 intro hx
 simp only [List.mem_cons,List.mem_append,List.mem_map] at hx
 rcases hx with e | e | e | e | e | ⟨e,he,e'⟩ | ⟨e,he,e'⟩
 ·omega
 ·omega
 ·omega
 ·omega
 ·omega
 ·have:=lt (h.jB.sets e he).map; omega
 ·have:=lt (h.iW.sets e he).map; omega
theorem iE.new {Z:Sg} {b:Nat} {L:List dH} {x:bX} {s m:Nat} (h:iE Z b L) (hx:bW L x = none) (hs:Lb.cN Z s m []) (hb:b ∉ L.map dH.m) (hm:m ≠ b):iE (Z.set b (.map ((L ++ [dH.mk x s m []]).map nF))) b (L ++ [dH.mk x s m []]):=by
 have k:∀ (j:Nat) (o:O),j ≠ b -> Z[j]? = some o -> (Z.set b (.map ((L ++ [dH.mk x s m []]).map nF)))[j]? = some o:=fun j o hj ho=>by
  rw [List.getElem?_set_ne (Ne.symm hj)]; exact ho
 refine ⟨List.getElem?_set_self (List.getElem?_eq_some_iff.1 h.map).1,fun e he=>?_,?_⟩
 ·rcases List.mem_append.1 he with he | he
  ·exact cN.keep (h.sets e he) h.map (fun e'=>hb (List.mem_map.2 ⟨e,he,e'⟩)) k
  ·rw [List.mem_singleton.1 he]
   exact cN.keep hs h.map hm k
 ·rw [List.map_append,List.nodup_append]
  refine ⟨h.nodup,by simp,fun y hy z hz e=>?_⟩
  obtain ⟨a,ha,rfl⟩:=List.mem_map.1 hy
  have hz:z = x:=by simpa using hz
  have:=List.find?_eq_none.1 hx a ha
  simp [<- hz,<- e] at this
theorem mR.NZ {{Z σ1:Sg}} {{gb m0 m1 sa ma b3 b4:Nat}} {{es0 es1:List (V × V)}} {{A:List bX}} {{L3 L4:List dH}} (h:mR E Z gb m0 m1 sa ma b3 b4 es0 es1 A L3 L4) {x:bX} (hx:bW L3 x = none) {s m:Nat} (k1:Lb.rL Z σ1) (hs:Lb.cN σ1 s m []) (hm:Z.length <= m):mR E (σ1.set b3 (.map ((L3 ++ [dH.mk x s m []]).map nF))) gb m0 m1 sa ma b3 b4 es0 es1 A (L3 ++ [dH.mk x s m []]) L4:=by
 have h1:=h.nC k1
 have fresh:=h.below hm
 have hx1:=h1.jB.map
 have sep:=h.sep
 simp only [List.nodup_cons,List.mem_cons,List.mem_append,not_or] at sep
 obtain ⟨⟨-,-,a3,-⟩,⟨-,b3',-⟩,⟨c3,-⟩,⟨n3,n4,n5⟩,-⟩:=sep
 have hmb:m ≠ b3:=fun e=>fresh (by rw [e]; simp)
 have new:=iE.new h1.jB hx hs n4 hmb
 have ng:gb ≠ b3:=fun e=>by
  have:=h1.g
  rw [e,hx1] at this
  cases this
 have k:∀ (j:Nat) (o:O),j ≠ b3 -> σ1[j]? = some o -> (σ1.set b3 (.map ((L3 ++ [dH.mk x s m []]).map nF)))[j]? = some o:=fun j o hj ho=>by
  rw [List.getElem?_set_ne (Ne.symm hj)]; exact ho
 have hp:(m0 :: m1 :: ma :: b3 :: b4 :: ((L3 ++ [dH.mk x s m []]).map dH.m ++ L4.map dH.m)).Perm (m :: (m0 :: m1 :: ma :: b3 :: b4 :: (L3.map dH.m ++ L4.map dH.m))):=by simpa using List.perm_middle (l₁:=m0 :: m1 :: ma :: b3 :: b4 :: L3.map dH.m) (a:=m) (l₂:=L4.map dH.m)
 exact ⟨k _ _ ng h1.g,k _ _ a3 h1.rules,k _ _ b3' h1.jD,cN.keep h1.all hx1 c3 k,new,h1.iW.keep hx1 (fun e=>n3 e.symm) n5 k,hp.nodup_iff.2 (List.nodup_cons.2 ⟨fresh,h.sep⟩)⟩
theorem mR.Nv {{Z σ1:Sg}} {{gb m0 m1 sa ma b3 b4:Nat}} {{es0 es1:List (V × V)}} {{A:List bX}} {{L3 L4:List dH}} (h:mR E Z gb m0 m1 sa ma b3 b4 es0 es1 A L3 L4) {x:bX} (hx:bW L4 x = none) {s m:Nat} (k1:Lb.rL Z σ1) (hs:Lb.cN σ1 s m []) (hm:Z.length <= m):mR E (σ1.set b4 (.map ((L4 ++ [dH.mk x s m []]).map nF))) gb m0 m1 sa ma b3 b4 es0 es1 A L3 (L4 ++ [dH.mk x s m []]):=by
 have h1:=h.nC k1
 have fresh:=h.below hm
 have hx1:=h1.iW.map
 have sep:=h.sep
 simp only [List.nodup_cons,List.mem_cons,List.mem_append,not_or] at sep
 obtain ⟨⟨-,-,-,a3,-⟩,⟨-,-,b3',-⟩,⟨-,c3,-⟩,⟨n3,-,-⟩,⟨n4,n5⟩,-⟩:=sep
 have hmb:m ≠ b4:=fun e=>fresh (by rw [e]; simp)
 have new:=iE.new h1.iW hx hs n5 hmb
 have ng:gb ≠ b4:=fun e=>by
  have:=h1.g
  rw [e,hx1] at this
  cases this
 have k:∀ (j:Nat) (o:O),j ≠ b4 -> σ1[j]? = some o -> (σ1.set b4 (.map ((L4 ++ [dH.mk x s m []]).map nF)))[j]? = some o:=fun j o hj ho=>by
  rw [List.getElem?_set_ne (Ne.symm hj)]; exact ho
 have hp:(m0 :: m1 :: ma :: b3 :: b4 :: (L3.map dH.m ++ (L4 ++ [dH.mk x s m []]).map dH.m)).Perm (m :: (m0 :: m1 :: ma :: b3 :: b4 :: (L3.map dH.m ++ L4.map dH.m))):=by simpa using List.perm_middle (l₁:=m0 :: m1 :: ma :: b3 :: b4 :: (L3.map dH.m ++ L4.map dH.m)) (a:=m) (l₂:=[])
 exact ⟨k _ _ ng h1.g,k _ _ a3 h1.rules,k _ _ b3' h1.jD,cN.keep h1.all hx1 c3 k,h1.jB.keep hx1 n3 n4 k,new,hp.nodup_iff.2 (List.nodup_cons.2 ⟨fresh,h.sep⟩)⟩
end
end
section
section
variable {E:Env} {Z:Sg} {K:V -> Sg -> Prop}
theorem Uv (h:bK E) (h':xL E) (hl:Lb.jR E) {Y:Sg} {{gb m0 m1 sa ma b3 b4:Nat}} {{es0 es1:List (V × V)}} {{A:List bX}} {{L3 L4:List dH}} (ga:mR E Y gb m0 m1 sa ma b3 b4 es0 es1 A L3 L4) {x y:bX} {n0 n1:Nat} (hx:Y[n0]? = some (O.cells 46 [.bool x.1,.str x.2] true)) (hy:Y[n1]? = some (O.cells 46 [.bool y.1,.str y.2] true)) (hA:A.length <= 1000000) (F:FT) (g0:F.get 0 = .ref gb 0) (g4:F.get 4 = .ref n0 0) (g5:F.get 5 = .ref n1 0) {st:List lX} {Q:Ax.X -> Fr -> Sg -> Prop}
  (hk:∀ F' τ',(∀ k,k ∈ [0,4,5] -> F'.get k = F.get k) -> mR E τ' gb m0 m1 sa ma b3 b4 es0 es1 (keys A [x,y]) L3 L4 -> τ'[n0]? = some (O.cells 46 [.bool x.1,.str x.2] true) -> τ'[n1]? = some (O.cells 46 [.bool y.1,.str y.2] true) -> Lb.dM Y τ' -> M E st .normal ⟨57,F'⟩ τ' Q):Ax.R E (.region 1 (opsOf (cutAt [1,0] (aA Tryz.f73).code)) true) st ⟨57,F⟩ Y Q:=by
 have ga1:=ga.app (O.cells 46 [.bool x.1,.str x.2,.bool y.1,.str y.2] true)
 have hx1:=aL (x:=O.cells 46 [.bool x.1,.str x.2,.bool y.1,.str y.2] true) hx
 have hy1:=aL (x:=O.cells 46 [.bool x.1,.str x.2,.bool y.1,.str y.2] true) hy
 have hsv:Lb.SV (Y ++ [O.cells 46 [.bool x.1,.str x.2,.bool y.1,.str y.2] true]) (.sl Y.length 0 2 none) [x,y]:=.inr (.inr ⟨Y.length,_,true,rfl,aQ,rfl⟩)
 obtain ⟨n,r,τ2,hcall,hr,hset,hkp⟩:=Lb.M8 hl ga1.all hsv (show 2 <= 10000000000 by omega) (by omega)
 have ga2:=ga1.more hset hkp
 have hma:=ga1.all.map
 have ne:∀ {k:Nat} {t:Nat} {cs:List V} {ex:Bool},(Y ++ [O.cells 46 [.bool x.1,.str x.2,.bool y.1,.str y.2] true])[k]? = some (.cells t cs ex) -> k ≠ ma:=fun hk e=>by
  rw [e,hma] at hk
  cases hk
 have hx2:=hkp _ _ (ne hx1) hx1
 have hy2:=hkp _ _ (ne hy1) hy1
 have g:=ga.g
 have g1:=ga1.g
 have vr:rT 12 (.ref sa 0) (.ref sa 0) = true:=by unfold rT; simp
 have key:∃ F',cB E (ev E n) (opsOf (cutAt [1,0] (aA Tryz.f73).code)) ⟨57,F⟩ Y = some (⟨57,F'⟩,τ2) /\ (∀ k,k ∈ [0,4,5] -> F'.get k = F.get k):=by
  unfold cB
  rw [h'.R1,h'.TD]
  simp only [aA,Tryz.f73,KP,Ax.loadAt,↓reduceIte,Nat.reduceEqDiff,Nat.reduceLT,Nat.reduceLeDiff,Nat.reduceAdd,Nat.reduceMul,reduceCtorEq,h.EI,h.mZ,opsOf,cutAt,Fz.lits,gO,bF,bV,jT,Ax.comp,Ax.last,gT,Ax.again,Ax.fill,gQ,Nat.zero_mul,hl.Cp,h'.y_,g0,g4,g5,hx,hy,g,g1,hcall,vr]
  refine ⟨_,rfl,fun k hk=>?_⟩
  simp only [List.mem_cons,List.not_mem_nil,or_false] at hk
  rcases hk with rfl | rfl | rfl <;> simp +decide only [GS]
 obtain ⟨F',hD,hF⟩:=key
 exact Eq.mpr (iF hD) (hk F' τ2 hF ga2 hx2 hy2 ((Lb.dM.app Y _).trans (Lb.Kp.sU hkp hma)))
end
end
section
section
variable {E:Env} {Z:Sg} {K:V -> Sg -> Prop}
theorem jF {L:List dH} {x:bX} {e:dH} (h:bW L x = some e):e ∈ L /\ x = e.key:=by
 unfold bW at h
 exact ⟨List.mem_of_find?_eq_some h,by have:=List.find?_some h; simpa using this⟩
theorem IL (h:bK E) (h':xL E) (hl:Lb.jR E) {Y:Sg} {nb mb:Nat} {L:List dH} {x y:bX} {e:dH} (hm:iE Y mb L) (he:bW L x = some e) (hb:Y[nb]? = some (O.cells 144 [.mp mb,.bool x.1,.str x.2,.bool y.1,.str y.2] true)) (hks:e.ks.length <= 1000000) (hmb:mb ≠ e.m) (F:FT) (g7:F.get 7 = .ref nb 0) {st:List lX} {Q:Ax.X -> Fr -> Sg -> Prop}
  (hk:∀ F' τ',(∀ k,k ∈ [0,4,5,7,30,31,32] -> F'.get k = F.get k) -> Lb.cN τ' e.s e.m (keys e.ks [y]) -> Lb.Kp (Y ++ [O.cells 46 [.bool y.1,.str y.2] true]) τ' e.m -> M E st .normal ⟨57,F'⟩ τ' Q):Ax.R E (.region 7 (opsOf (cutAt [1,1,1,2,2,1,1,0,2,1,1] (aA Tryz.f73).code)) true) st ⟨57,F⟩ Y Q:=by
 obtain ⟨hme,hxe⟩:=jF he
 have hm1:=hm.app (O.cells 46 [.bool y.1,.str y.2] true)
 have hb1:=aL (x:=O.cells 46 [.bool y.1,.str y.2] true) hb
 have hs1:=hm1.sets e hme
 have hsv:Lb.SV (Y ++ [O.cells 46 [.bool y.1,.str y.2] true]) (.sl Y.length 0 1 none) [y]:=.inr (.inr ⟨Y.length,_,true,rfl,aQ,rfl⟩)
 obtain ⟨n,r,τ2,hcall,hr,hset,hkp⟩:=Lb.M8 hl hs1 hsv (show 1 <= 10000000000 by omega) (by omega)
 have ne:nb ≠ e.m:=fun e'=>by
  have:=hs1.map
  rw [<- e',hb1] at this
  cases this
 have lk:lookup E Y 105 (.mp mb) (.agg [.bool x.1,.str x.2]) false = some (.ref e.s 0):=by
  have:=wR h' hl hm x
  rw [he] at this
  exact this
 have lk1:lookup E (Y ++ [O.cells 46 [.bool y.1,.str y.2] true]) 105 (.mp mb) (.agg [.bool x.1,.str x.2]) false = some (.ref e.s 0):=by
  have:=wR h' hl hm1 x
  rw [he] at this
  exact this
 have lk2:lookup E τ2 105 (.mp mb) (.agg [.bool x.1,.str x.2]) false = some (.ref e.s 0):=by
  have:=Dc h' hl (hkp _ _ hmb hm1.map) x
  rw [he] at this
  exact this
 have vr:rT 12 (.ref e.s 0) (.ref e.s 0) = true:=by unfold rT; simp
 have vm:rT 12 (.mp mb) (.mp mb) = true:=by unfold rT; simp
 have vl:rT 12 (.agg [.bool x.1,.str x.2]) (.agg [.bool x.1,.str x.2]) = true:=oK fun z hz=>by
  simp only [List.mem_cons,List.not_mem_nil,or_false] at hz
  rcases hz with rfl | rfl
  ·show decide (x.1 = x.1) = true
   simp
  ·exact vO 10 x.2
 have key:∃ F',cB E (ev E n) (opsOf (cutAt [1,1,1,2,2,1,1,0,2,1,1] (aA Tryz.f73).code)) ⟨57,F⟩ Y = some (⟨57,F'⟩,τ2) /\ (∀ k,k ∈ [0,4,5,7,30,31,32] -> F'.get k = F.get k):=by
  unfold cB
  rw [h'.RY,h'.TB]
  simp only [aA,Tryz.f73,KP,Ax.loadAt,↓reduceIte,Nat.reduceEqDiff,Nat.reduceLT,Nat.reduceLeDiff,Nat.reduceAdd,Nat.reduceMul,reduceCtorEq,h.EI,h.mZ,opsOf,cutAt,Fz.lits,gO,bF,bV,jT,Ax.comp,Ax.last,gT,Ax.again,Ax.fill,gQ,Nat.zero_mul,h'.uF,h'.vP,g7,hb,hb1,lk,lk1,hcall,vr,vm,vl]
  refine ⟨_,rfl,fun k hk=>?_⟩
  simp only [List.mem_cons,List.not_mem_nil,or_false] at hk
  rcases hk with rfl | rfl | rfl | rfl | rfl | rfl | rfl <;> simp +decide only [GS]
 obtain ⟨F',hD,hF⟩:=key
 exact Eq.mpr (iF hD) (hk F' τ2 hF hset hkp)
end
end
section
section
variable {E:Env} {Z:Sg} {K:V -> Sg -> Prop}
theorem PE (h:bK E) (h':xL E) (hl:Lb.jR E) {Y:Sg} {nb mb:Nat} {L:List dH} {x y:bX} (hm:iE Y mb L) (he:bW L x = none) (hb:Y[nb]? = some (O.cells 144 [.mp mb,.bool x.1,.str x.2,.bool y.1,.str y.2] true)) (F:FT) (g7:F.get 7 = .ref nb 0) {st:List lX} {Q:Ax.X -> Fr -> Sg -> Prop}
  (hk:∀ F' τ1 m,(∀ k,k ∈ [0,4,5,7,30,31,32] -> F'.get k = F.get k) -> Lb.rL Y τ1 -> Lb.cN τ1 Y.length m [] -> Y.length < m -> M E st .normal ⟨57,F'⟩ (τ1.set mb (.map ((L ++ [dH.mk x Y.length m []]).map nF))) Q):Ax.R E (.region 6 (opsOf (cutAt [1,1,1,2,2,1,1,0,2,1,0,1,0] (aA Tryz.f73).code)) true) st ⟨57,F⟩ Y Q:=by
 obtain ⟨n,r,τ1,hcall,m,rfl,hset,hlt,nC⟩:=Lb.PL hl (Z:=Y) (v:=.aC) (l:=[]) (.inl ⟨rfl,rfl⟩) (by simp)
 have hb1:=nC _ _ hb
 have put:=DX h' hl (hm.nC nC) he (s:=Y.length) (m:=m) (ks:=[])
 unfold pU at put
 have vm:rT 12 (.mp mb) (.mp mb) = true:=by unfold rT; simp
 have vl:rT 12 (.agg [.bool x.1,.str x.2]) (.agg [.bool x.1,.str x.2]) = true:=oK fun z hz=>by
  simp only [List.mem_cons,List.not_mem_nil,or_false] at hz
  rcases hz with rfl | rfl
  ·show decide (x.1 = x.1) = true
   simp
  ·exact vO 10 x.2
 have key:∃ F',cB E (ev E n) (opsOf (cutAt [1,1,1,2,2,1,1,0,2,1,0,1,0] (aA Tryz.f73).code)) ⟨57,F⟩ Y = some (⟨57,F'⟩,τ1.set mb (.map ((L ++ [dH.mk x Y.length m []]).map nF))) /\ (∀ k,k ∈ [0,4,5,7,30,31,32] -> F'.get k = F.get k):=by
  unfold cB
  rw [h'.RZ,h'.TC]
  simp only [aA,Tryz.f73,KP,Ax.loadAt,↓reduceIte,Nat.reduceEqDiff,Nat.reduceLT,Nat.reduceLeDiff,Nat.reduceAdd,reduceCtorEq,h.mZ,opsOf,cutAt,gO,bF,bV,jT,Ax.comp,Ax.last,gT,Ax.again,aM,h'.uF,h'.vP,g7,hb,hb1,hcall,put,vm,vl]
  refine ⟨_,rfl,fun k hk=>?_⟩
  simp only [List.mem_cons,List.not_mem_nil,or_false] at hk
  rcases hk with rfl | rfl | rfl | rfl | rfl | rfl | rfl <;> simp +decide only [GS]
 obtain ⟨F',hD,hF⟩:=key
 exact Eq.mpr (iF hD) (hk F' τ1 m hF nC hset hlt)
end
end
section
section
variable {E:Env} {Z:Sg} {K:V -> Sg -> Prop}
theorem Gi (h:bK E) (h':xL E) {g g1:Bool} {c0 c2 c3 c4:V} {es:List (V × V)} {get:aX -> Option V} {f:aX} (hs:SM E es get) {v:V} (hv:(get f = none /\ v = .fJ [.str [],.bool false]) \/ ∃ n,get f = some (.str n) /\ v = .fJ [.str n,.bool true]):aB E 37 [.cT g [c0,.imp g1 es,c2,c3,c4],.str f] Z K = K v Z:=by
 refine aB.of ?_
 have hi:Ax.bB (.cT g [c0,.imp g1 es,c2,c3,c4]) = true:=rfl
 have ew:=eO (Z:=Z) (ty:=E.ty) hi (cP hi)
 rw [aH h'.hs37 h'.sp37 h'.fn37 h'.md37 (args':=[.cT g [c0,.imp g1 es,c2,c3,c4],.str f]) (by simp only [aU,cH,ew]),aZ (by kernel_rfl)]
 have hlk:=fun Z=>IK (Z:=Z) (x:=.imp g1 es) h rfl hs f
 have en:rU E 41 true (.cT g [c0,.imp g1 es,c2,c3,c4]) .gR = some false:=by unfold rU; rw [h'.R8]
 rcases hv with ⟨hg,rfl⟩ | ⟨n,hg,rfl⟩
 ·rw [hg] at hlk
  simp only [aA,Tryz.f37,KP,Ax.loadAt,↓reduceIte,Nat.reduceEqDiff,Nat.reduceLT,Nat.reduceAdd,reduceCtorEq,h.AO,kK,en,hlk,h'.y_]
  exact rfl
 ·rw [hg] at hlk
  simp only [aA,Tryz.f37,KP,Ax.loadAt,↓reduceIte,Nat.reduceEqDiff,Nat.reduceLT,Nat.reduceAdd,reduceCtorEq,h.AO,kK,en,hlk,h'.y_]
  exact rfl
end
end
section
section
variable {E:Env} {Z:Sg} {K:V -> Sg -> Prop}
theorem QJ (h:bK E) (h':xL E) {τ0 Y:Sg} {w p1 p2 p3 p4:V} {l:List aX} {r:aG} {y mA:Nat} {es:List (V × V)} {N:aG -> aX -> Prop} {rs:List aG} (ow:bI aK 9 Y w l) (hl:l.length <= 1000000) (kp:Kp τ0 Y) (fr:∀ b,aW w = some b -> τ0.length <= b) (hy:τ0[y]? = some (O.cells 37 [.str r.name,p1,p2,p3,p4] true)) (hA:τ0[mA]? = some (.map es)) (ha:vL τ0 N es rs) (hn:∀ q ∈ rs,q.name ≠ r.name) (hm:∀ x,x ∈ l ↔ N r x)
  (F:FT) (g8:F.get 4 = .mp mA) (g10:F.get 6 = .ref y 0) (g11:F.get 7 = w) {st:List lX} {Q:Ax.X -> Fr -> Sg -> Prop}
  (hk:∀ F' τ' es',(∀ k,k ∈ [0,3,4,17,18,19] -> F'.get k = F.get k) -> τ'[mA]? = some (.map es') -> vL τ' N es' (rs ++ [r]) -> (∀ (c:Nat) (o:O),τ0[c]? = some o -> c ≠ mA -> τ'[c]? = some o) -> M E st .normal ⟨54,F'⟩ τ' Q):R E (.region 17 (opsOf (cutAt [1,1,1,1,0,1,2,2,1,1,0,2,1,1,1,1] (aA Tryz.f63).code)) true) st ⟨54,F⟩ Y Q:=by
 obtain ⟨n,v,τ1,hcall,⟨l',ol,hle,hmem⟩,hbk,sp,hlen⟩:=Dv h ow hl
 have kp1:Kp τ0 τ1:=fun c o hc=>sp c o (kp c o hc) fun e=>absurd (List.getElem?_eq_some_iff.1 hc).1 (by have:=fr c e; omega)
 have hy0:=kp _ _ hy
 have hy1:=kp1 _ _ hy
 have hA1:=kp1 _ _ hA
 obtain ⟨hu,ha2⟩:=HW h hA1 (ha.keep hA fun c o hc _=>kp1 c o hc) hn ol (by omega) (fun x=>(hmem x).trans (hm x))
 have vs:=vO 11 r.name
 have key:∃ F',cB E (ev E n) (opsOf (cutAt [1,1,1,1,0,1,2,2,1,1,0,2,1,1,1,1] (aA Tryz.f63).code)) ⟨54,F⟩ Y = some (⟨54,F'⟩,τ1.set mA (.map (es ++ [(.str r.name,v)]))) /\ (∀ k,k ∈ [0,3,4,17,18,19] -> F'.get k = F.get k):=by
  unfold cB
  rw [h'.PS,h'.QF]
  simp only [aA,Tryz.f63,KP,Ax.loadAt,↓reduceIte,Nat.reduceEqDiff,Nat.reduceLT,Nat.reduceAdd,reduceCtorEq,h.cK,h.bD,opsOf,cutAt,gO,bF,bV,jT,Ax.comp,Ax.last,gT,Ax.again,aM,g8,g10,g11,hy0,hy1,hcall,hu,vs]
  refine ⟨_,rfl,fun k hk=>?_⟩
  simp only [List.mem_cons,List.not_mem_nil,or_false] at hk
  rcases hk with rfl | rfl | rfl | rfl | rfl | rfl <;> simp +decide only [GS]
 obtain ⟨F',hD,h1⟩:=key
 refine Eq.mpr (iF hD) (hk F' _ _ h1 (by rw [List.getElem?_set_self (List.getElem?_eq_some_iff.1 hA1).1]) ha2 fun c o hc hcm=>?_)
 rw [List.getElem?_set_ne (Ne.symm hcm)]
 exact kp1 c o hc
end
end
section
section
variable {E:Env} {Z:Sg} {K:V -> Sg -> Prop}
theorem TL (h:bK E) (h':xL E) {a:V} {rs:List aG} (ia:IS cQ a rs) (hs:∀ x ∈ rs,Small x) (hsh:Ci rs) (hl:rs.length <= 1000) {gv c0 c2 c3 c4:V} {gg g1:Bool} {es0:List (V × V)} {get:aX -> Option V} (hgv:gv = .cT gg [c0,.imp g1 es0,c2,c3,c4]) (hsm:SM E es0 get) (hmk:MK get (Mk rs)) (F:FT) (g0:F.get 0 = a) (g3:F.get 3 = gv) :
  R E (cutAt [1,1,1] (aA Tryz.f63).code) [] ⟨54,F⟩ [] (kS E (aA Tryz.f63).results (fun v σ1=>match dI σ1 E.ty false v with
   | some v=>∃ es,v = .imp false es /\ xK (Nx rs) es rs
   | none=>False)):=by
 have la:=cA h ia
 have rest:=fun {τ0 Y w p1 p2 p3 p4 l r y mA es rs'} ow hl' kp fr hy hA ha hn hm F g8 g10 g11 st Q hk=>QJ (τ0:=τ0) (Y:=Y) (w:=w) (p1:=p1) (p2:=p2) (p3:=p3) (p4:=p4) (l:=l) (r:=r) (y:=y) (mA:=mA) (es:=es) (N:=Nx rs) (rs:=rs') h h' ow hl' kp fr hy hA ha hn hm F g8 g10 g11 (st:=st) (Q:=Q) hk
 simp only [aA,Tryz.f63,KP,↓reduceIte,Nat.reduceLT,reduceCtorEq,cutAt,g0,la]
 refine aP (fun i F Y=>F.get 0 = a /\ F.get 3 = gv /\ F.get 4 = .mp 0 /\ F.get 17 = a /\ F.get 18 = .int .i64 (rs.length:Int) /\ F.get 19 = .int .i64 (i:Int) /\ ∃ es,Y[0]? = some (.map es) /\ vL Y (Nx rs) es (rs.take i)) rs.length ?_ ?_ rs.length 0 _ _ (by omega) (B8 (by simp +decide only [GS,g0,g3,and_self]) ⟨[],rfl,.nil⟩)
 ·rintro i F Y hi ⟨g0,g3,g8,g37,g38,g39,es,hA,ha⟩ next
  obtain ⟨r,hr⟩:∃ y,rs[i]? = some y:=⟨_,List.getElem?_eq_getElem hi⟩
  have hrm:=List.mem_of_getElem? hr
  obtain ⟨g,p1,p2,p3,p4,e1,i1,i2,i3,i4⟩:=eE h ia hr
  have hsr:=hs r hrm
  have a1:=hsr.ins
  have a3:=hsr.after
  have o1:=aI i1.bB
  have o2:=aI i2.bB
  have o3:=aI i3.bB
  have o4:=aI i4.bB
  have hlt:=d_ hi
  have hadd:=bU i (by omega)
  have li:=bH h i1
  have hnn:∀ q ∈ rs.take i,q.name ≠ r.name:=fun q hq e=>by
   obtain ⟨j,hj⟩:=List.mem_iff_getElem?.1 hq
   have hji:j < i:=by have:=(List.getElem?_eq_some_iff.1 hj).1; rw [List.length_take] at this; omega
   rw [List.getElem?_take_of_lt hji] at hj
   have:=hsh.nodup j i q r hj hr e
   omega
  have hA1:=aL (x:=O.cells 37 [.str r.name,p1,p2,p3,p4] true) hA
  have ha1:vL (Y ++ [O.cells 37 [.str r.name,p1,p2,p3,p4] true]) (Nx rs) es (rs.take i):=ha.keep hA fun c o hc _=>aL hc
  have s1:(Y ++ [O.cells 37 [.str r.name,p1,p2,p3,p4] true])[Y.length]? = some (O.cells 37 [.str r.name,p1,p2,p3,p4] true):=aQ
  rw [aF]
  simp only [KP,Ax.loadAt,Ax.storeAt,↓reduceIte,Nat.reduceEqDiff,Nat.reduceLT,Nat.reduceAdd,reduceCtorEq,h.aR,h.bD,g37,g38,g39,hlt,e1,o1,o2,o3,o4,aQ,cV]
  generalize Y ++ [O.cells 37 [.str r.name,p1,p2,p3,p4] true] = τ1 at *
  generalize Y.length = y at *
  refine aO (oV h i3 (by omega)) ?_
  rintro w0 τ2 ⟨ow0,kp0,fr0⟩
  have s2:=kp0 _ _ s1
  simp only [KP,Ax.loadAt,↓reduceIte,Nat.reduceEqDiff,Nat.reduceLT,reduceCtorEq,h.aR,h.bD,s2,li]
  refine aP (fun j F Y=>F.get 0 = a /\ F.get 3 = gv /\ F.get 4 = .mp 0 /\ F.get 17 = a /\ F.get 18 = .int .i64 (rs.length:Int) /\ F.get 19 = .int .i64 (i:Int) /\ F.get 6 = .ref y 0 /\ F.get 27 = p1 /\ F.get 28 = .int .i64 (r.ins.length:Int) /\ F.get 29 = .int .i64 (j:Int) /\ Kp τ1 Y /\ ∃ w cur,F.get 7 = w /\ bI aK 9 Y w cur /\ (∀ b,aW w = some b -> τ1.length <= b) /\ cur.length <= r.after.length + j /\ (∀ x ∈ cur,x.length <= 40) /\ ∀ x,x ∈ cur ↔ x ∈ r.after \/ ∃ f ∈ r.ins.take j,Mk rs f x) r.ins.length ?_ ?_ r.ins.length 0 _ _ (by omega) (yP (by simp +decide only [GS,g0,g3,g8,g37,g38,g39,and_self]) ⟨kp0,w0,r.after,(by simp +decide only [GS]),ow0,fr0,Nat.le_refl _,hsh.Nk r hrm,fun x=>by simp⟩)
  ·rintro j F Y hj ⟨g0,g3,g8,g37,g38,g39,g10,g47,g48,g49,kp,w,cur,g11,ow,fr,hcl,hc40,hmem⟩ next2
   obtain ⟨s,hsj⟩:∃ y,r.ins[j]? = some y:=⟨_,List.getElem?_eq_getElem hj⟩
   obtain ⟨g',e2⟩:=fM h i1 hsj
   have hlt2:=d_ hj
   have hadd2:=bU j (by omega)
   have hex:∀ x,(∃ f ∈ r.ins.take (j + 1),Mk rs f x) ↔ (∃ f ∈ r.ins.take j,Mk rs f x) \/ Mk rs s x:=fun x=>by
    constructor
    ·rintro ⟨f,hf,hm⟩
     rcases (dP hsj f).1 hf with hf | rfl
     ·exact .inl ⟨f,hf,hm⟩
     ·exact .inr hm
    ·rintro (⟨f,hf,hm⟩ | hm)
     ·exact ⟨f,(dP hsj f).2 (.inl hf),hm⟩
     ·exact ⟨s,(dP hsj s).2 (.inr rfl),hm⟩
   rw [aF]
   rcases hmk s with ⟨hg,hno⟩ | ⟨n,hP,hg⟩
   ·have hlk:=fun (Z:Sg)=>c_ (fun K=>Gi (Z:=Z) (K:=K) (g:=gg) (g1:=g1) (c0:=c0) (c2:=c2) (c3:=c3) (c4:=c4) h h' hsm (f:=s) (.inl ⟨hg,rfl⟩))
    rw [<- hgv] at hlk
    simp only [KP,Ax.loadAt,↓reduceIte,Nat.reduceEqDiff,Nat.reduceLT,h.cK,g3,g47,g48,g49,hlt2,e2,hlk,hadd2]
    refine next2 _ _ (yP (by simp +decide only [GS,g0,g3,g8,g37,g38,g39,g10,g47,g48,and_self]) ⟨kp,w,cur,(by simp +decide only [GS,g11]),ow,fr,by omega,hc40,fun x=>?_⟩)
    rw [hmem,hex]
    exact ⟨fun h=>h.elim .inl fun g=>.inr (.inl g),fun h=>h.elim .inl fun g=>.inr (g.elim id fun g=>absurd g (hno x))⟩
   ·have hlk:=fun (Z:Sg)=>c_ (fun K=>Gi (Z:=Z) (K:=K) (g:=gg) (g1:=g1) (c0:=c0) (c2:=c2) (c3:=c3) (c4:=c4) h h' hsm (f:=s) (.inr ⟨n,hg,rfl⟩))
    rw [<- hgv] at hlk
    obtain ⟨w',τ',hap,ow',sp',hln',fr'⟩:=iK (ats:=#[28,28]) (m:=[n]) (new:=[[.str n]]) h.aR rfl h.cK rfl (by decide) (fL h) rfl (ow.app [.cells 9 [.str n] true]) (iQ rfl) (.one rfl) (dU (b:=1000) (by decide) (by simp only [List.length_cons,List.length_nil]; omega))
    simp only [KP,Ax.loadAt,↓reduceIte,Nat.reduceEqDiff,Nat.reduceLT,Nat.reduceLeDiff,Nat.reduceMul,h.cK,h.aR,g3,g11,g47,g48,g49,hlt2,e2,hlk,gZ,hap,hadd2]
    refine next2 _ _ (yP (by simp +decide only [GS,g0,g3,g8,g37,g38,g39,g10,g47,g48,and_self]) ⟨fun c o hc=>sp' c o (aL (kp c o hc)) fun e=>absurd (List.getElem?_eq_some_iff.1 hc).1 (by have:=fr c e; omega),w',cur ++ [n],(by simp +decide only [GS]),ow',fun b hb=>?_,by rw [List.length_append,List.length_singleton]; omega,fun x hx=>?_,fun x=>?_⟩)
    ·rcases fr' b hb with g | g
     ·exact fr b g
     ·have h1:=(List.getElem?_eq_some_iff.1 (kp _ _ s1)).1
      have h2:τ1.length <= Y.length:=by
       refine Nat.le_of_not_lt fun hlt=>?_
       obtain ⟨o,ho⟩:∃ o,τ1[Y.length]? = some o:=⟨_,List.getElem?_eq_getElem hlt⟩
       exact absurd (List.getElem?_eq_some_iff.1 (kp _ _ ho)).1 (Nat.lt_irrefl _)
      simp only [List.length_append,List.length_cons,List.length_nil] at g
      omega
    ·rcases List.mem_append.1 hx with hx | hx
     ·exact hc40 x hx
     ·rw [List.mem_singleton.1 hx]; exact hP.short hsh
    ·rw [List.mem_append,hmem,hex,List.mem_singleton]
     constructor
     ·rintro ((h1 | h1) | rfl)
      ·exact .inl h1
      ·exact .inr (.inl h1)
      ·exact .inr (.inr hP)
     ·rintro (h1 | h1 | h1)
      ·exact .inl (.inl h1)
      ·exact .inl (.inr h1)
      ·exact .inr (hsh.jD s x n h1 hP)
  ·rintro F Y ⟨g0,g3,g8,g37,g38,g39,g10,g47,g48,g49,kp,w,cur,g11,ow,fr,hcl,hc40,hmem⟩
   rw [List.take_of_length_le (Nat.le_refl _)] at hmem
   have hlt2:=eA (Nat.lt_irrefl r.ins.length)
   obtain ⟨τ3,cur',hS,hperm,ow3,Gx,hln3⟩:=tT ow (by omega) (fun x hx=>by have:=hc40 x hx; omega)
   have ks:=c_ (fun K=>show aB E 64 [w] Y K = K (.fJ []) τ3 by rw [mY h.Eg,hS]; rfl)
   have kp3:Kp τ1 τ3:=fun c o hc=>Gx c o (kp c o hc) fun e=>absurd (List.getElem?_eq_some_iff.1 hc).1 (by have:=fr c e; omega)
   rw [aF]
   simp only [KP,↓reduceIte,Nat.reduceEqDiff,Nat.reduceLT,g11,g48,g49,hlt2,ks]
   refine rest (rs':=rs.take i) ow3 (by rw [hperm.length_eq]; omega) kp3 fr s1 hA1 ha1 hnn (fun x=>?_) _ ?_ ?_ ?_ _ _ ?_
   ·rw [hperm.mem_iff,hmem]; exact Iff.rfl
   ·exact (by simp +decide only [GS,g8])
   ·exact (by simp +decide only [GS,g10])
   ·exact (by simp +decide only [GS,g11])
   intro F' τ' es' hF hA' ha' hk'
   have q0:F'.get 0 = a:=(hF 0 (by simp)).trans (by simp +decide only [GS,g0])
   have q3:F'.get 3 = gv:=(hF 3 (by simp)).trans (by simp +decide only [GS,g3])
   have q8:F'.get 4 = .mp 0:=(hF 4 (by simp)).trans (by simp +decide only [GS,g8])
   have Tn:F'.get 17 = a:=(hF 17 (by simp)).trans (by simp +decide only [GS,g37])
   have q38:F'.get 18 = .int .i64 (rs.length:Int):=(hF 18 (by simp)).trans (by simp +decide only [GS,g38])
   have q39:F'.get 19 = .int .i64 (i:Int):=(hF 19 (by simp)).trans (by simp +decide only [GS,g39])
   simp only [KP,↓reduceIte,Nat.reduceLT,q39,hadd]
   refine next _ _ (B8 (by simp +decide only [GS,q0,q3,q8,Tn,q38,and_self]) ⟨es',hA',?_⟩)
   rw [List.take_add_one,hr]
   exact ha'
 ·rintro F Y ⟨g0,g3,g8,g37,g38,g39,es,hA,ha⟩
  rw [List.take_of_length_le (Nat.le_refl _)] at ha
  obtain ⟨es',e1,a1⟩:=EV h hA ha
  have hlt:=eA (Nat.lt_irrefl rs.length)
  rw [aF]
  simp only [KP,↓reduceIte,Nat.reduceEqDiff,Nat.reduceLT,g8,g38,g39,hlt,e1]
  exact ⟨es',rfl,a1⟩
end
end
section
section
variable {E:Env} {Z:Sg} {K:V -> Sg -> Prop}
def Jj (E:Env):Prop:=∀ {Z:Sg} {a:V} {rs:List aG},LS cQ 37 Z a rs -> (∀ x ∈ rs,Small x) -> eS rs -> aB E 19 [a] Z fun v σ'=>σ' = Z /\ ∃ g g1 c0 c2 c3 c4 es get,v = .cT g [c0,.imp g1 es,c2,c3,c4] /\ SM E es get /\ MK get (Mk rs)
theorem JV (h:bK E) (h':xL E) (hw:Jj E):t_ E:=by
 intro Z a rs ha hs hr
 obtain ⟨a',ea,ia⟩:=dB h ha
 have hg:=nD hr.1
 have h40:=hg.len
 rw [aH h'.hs63 h'.sp63 h'.fn63 h'.md63 (args':=[a']) (by simp only [aU,ea]),aZ (by kernel_rfl)]
 have key:=fun gv c0 c2 c3 c4 gg g1 es0 get hgv hsm hmk F g0 g3=>TL (gv:=gv) (c0:=c0) (c2:=c2) (c3:=c3) (c4:=c4) (gg:=gg) (g1:=g1) (es0:=es0) (get:=get) h h' ia hs hg.short (by omega) hgv hsm hmk F g0 g3
 rw [show (aA Tryz.f63).code = .seq (cutAt [0] (aA Tryz.f63).code) (.seq (cutAt [1,0] (aA Tryz.f63).code) (.seq (cutAt [1,1,0] (aA Tryz.f63).code) (cutAt [1,1,1] (aA Tryz.f63).code))) from rfl]
 generalize cutAt [1,1,1] (aA Tryz.f63).code = C at key ⊢
 simp only [aA,Tryz.f63,KP,↓reduceIte,Nat.reduceLT,reduceCtorEq,cutAt]
 refine aO (hw (ia.ls _ 37) hs hr) ?_
 rintro v σ' ⟨rfl,g,g1,c0,c2,c3,c4,es,get,rfl,hsm,hmk⟩
 have en:rU E 41 true (.cT g [c0,.imp g1 es,c2,c3,c4]) .gR = some false:=by unfold rU; rw [h'.R8]
 simp only [KP,↓reduceIte,Nat.reduceLT,en]
 refine key _ c0 c2 c3 c4 g g1 es get rfl hsm hmk _ ?_ ?_
 ·exact (by simp +decide only [GS])
 ·exact (by simp +decide only [GS])
end
end
end Go.Proofs.YtlbbdpkjeeiahaaGreatDoor
end
