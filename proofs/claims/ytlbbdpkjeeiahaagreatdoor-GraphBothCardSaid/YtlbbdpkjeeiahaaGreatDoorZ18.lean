/- Part 18 of the proof's own texts (pressed by a program of its author's). -/
import Derived.Test.YtlbbdpkjeeiahaaGreatDoorZ17
import Derived.Test.YtlbbdpkjeeiahaaGreatDoorZ13
import Derived.Test.YtlbbdpkjeeiahaaGreatDoorZ3
import Derived.Test.YtlbbdpkjeeiahaaGreatDoorZ15
section
set_option maxRecDepth 10000
set_option maxHeartbeats 8000000
set_option linter.unusedVariables false
namespace Go.Proofs.YtlbbdpkjeeiahaaGreatDoor
open Go Go.Ax Go.AxS
section
section
variable {E:Env} {Z:Sg} {K:V -> Sg -> Prop}
def Nx (rs:List aF) (r:aF) (x:bA):Prop:=x ∈ r.after \/ ∃ f ∈ r.ins,Mk rs f x
structure Ee (rs:List aF):Prop where
 names:∀ r ∈ rs,r.name.length <= 40
 Td:∀ r ∈ rs,∀ s ∈ r.after,s.length <= 40
 nodup:∀ (i j:Nat) (p q:aF),rs[i]? = some p -> rs[j]? = some q -> p.name = q.name -> i = j
 iT:∀ f n m,Mk rs f n -> Mk rs f m -> n = m
theorem Mk.short {rs:List aF} (h:Ee rs) {f n:bA} (hm:Mk rs f n):n.length <= 40:=by
 obtain ⟨r,hr,-,rfl⟩:=hm
 exact h.names r hr
theorem UX (h:bK E) {a:V} {rs:List aF} (ia:IS dW a rs) (hs:∀ x ∈ rs,Small x) (hsh:Ee rs) (hl:rs.length <= 1000) {Y:Sg} {es0:List (V × V)} {get:bA -> Option V} (h0:Y[0]? = some (.map es0)) (hsm:SM E es0 get) (hmk:MK get (Mk rs)) (F:FT) (g0:F.get 0 = a) (g3:F.get 3 = .mp 0) :
  R E (cutAt [1,1,1] (aA Tryz.f147).code) [] ⟨74,F⟩ Y (mF E (aA Tryz.f147).results (fun v σ1=>match dD σ1 E.ty false v with
   | some v=>∃ es,v = .imp false es /\ AW (Nx rs) es rs
   | none=>False)):=by
 have la:=cT h ia
 have rest:=fun {τ0 Y w p1 p2 p3 p4 l r y mA es rs'} ow hl' kp fr hy hA ha hn hm F g8 g10 g11 st Q hk=>R1 (τ0:=τ0) (Y:=Y) (w:=w) (p1:=p1) (p2:=p2) (p3:=p3) (p4:=p4) (l:=l) (r:=r) (y:=y) (mA:=mA) (es:=es) (N:=Nx rs) (rs:=rs') h ow hl' kp fr hy hA ha hn hm F g8 g10 g11 (st:=st) (Q:=Q) hk
 simp only [aA,Tryz.f147,KP,↓reduceIte,Nat.reduceLT,reduceCtorEq,cutAt,g0,la]
 have hA0:(Y ++ [O.map []])[Y.length]? = some (.map []):=aO
 have h00:=aN (x:=O.map []) h0
 have hmA:Y.length ≠ 0:=by have:=(List.getElem?_eq_some_iff.1 h0).1; omega
 generalize Y ++ [O.map []] = τ1 at *
 generalize Y.length = mA at *
 refine aS (fun i F Y=>F.get 0 = a /\ F.get 3 = .mp 0 /\ F.get 8 = .mp mA /\ F.get 37 = a /\ F.get 38 = .int .i64 (rs.length:Int) /\ F.get 39 = .int .i64 (i:Int) /\ Y[0]? = some (.map es0) /\ ∃ es,Y[mA]? = some (.map es) /\ CR Y (Nx rs) es (rs.take i)) rs.length ?_ ?_ rs.length 0 _ _ (by omega) (GQ (by simp +decide only [GS,g0,g3,and_self]) ⟨h00,[],hA0,.nil⟩)
 ·rintro i F Y hi ⟨g0,g3,g8,g37,g38,g39,h0,es,hA,ha⟩ next
  obtain ⟨r,hr⟩:∃ y,rs[i]? = some y:=⟨_,List.getElem?_eq_getElem hi⟩
  have hrm:=List.mem_of_getElem? hr
  obtain ⟨g,p1,p2,p3,p4,e1,i1,i2,i3,i4⟩:=fB h ia hr
  have hsr:=hs r hrm
  have a1:=hsr.ins
  have a3:=hsr.after
  have o1:=aI i1.bB
  have o2:=aI i2.bB
  have o3:=aI i3.bB
  have o4:=aI i4.bB
  have hlt:=eD hi
  have hadd:=bX i (by omega)
  have li:=bL h i1
  have hnn:∀ q ∈ rs.take i,q.name ≠ r.name:=fun q hq e=>by
   obtain ⟨j,hj⟩:=List.mem_iff_getElem?.1 hq
   have hji:j < i:=by have:=(List.getElem?_eq_some_iff.1 hj).1; rw [List.length_take] at this; omega
   rw [List.getElem?_take_of_lt hji] at hj
   have:=hsh.nodup j i q r hj hr e
   omega
  have hb1:=aN (x:=O.cells 37 [.str r.name,p1,p2,p3,p4] true) h0
  have hA1:=aN (x:=O.cells 37 [.str r.name,p1,p2,p3,p4] true) hA
  have ha1:CR (Y ++ [O.cells 37 [.str r.name,p1,p2,p3,p4] true]) (Nx rs) es (rs.take i):=ha.keep hA fun c o hc _=>aN hc
  have s1:(Y ++ [O.cells 37 [.str r.name,p1,p2,p3,p4] true])[Y.length]? = some (O.cells 37 [.str r.name,p1,p2,p3,p4] true):=aO
  rw [aG]
  simp only [KP,Ax.loadAt,Ax.storeAt,↓reduceIte,Nat.reduceEqDiff,Nat.reduceLT,Nat.reduceAdd,reduceCtorEq,h.aX,h.bG,g37,g38,g39,hlt,e1,o1,o2,o3,o4,aO,cK]
  generalize Y ++ [O.cells 37 [.str r.name,p1,p2,p3,p4] true] = τ1 at *
  generalize Y.length = y at *
  refine aL (rV h i3 (by omega)) ?_
  rintro w0 τ2 ⟨ow0,kp0,fr0⟩
  have s2:=kp0 _ _ s1
  simp only [KP,Ax.loadAt,↓reduceIte,Nat.reduceEqDiff,Nat.reduceLT,reduceCtorEq,h.aX,h.bG,s2,li]
  refine aS (fun j F Y=>F.get 0 = a /\ F.get 3 = .mp 0 /\ F.get 8 = .mp mA /\ F.get 37 = a /\ F.get 38 = .int .i64 (rs.length:Int) /\ F.get 39 = .int .i64 (i:Int) /\ F.get 10 = .ref y 0 /\ F.get 47 = p1 /\ F.get 48 = .int .i64 (r.ins.length:Int) /\ F.get 49 = .int .i64 (j:Int) /\ Kp τ1 Y /\ ∃ w cur,F.get 11 = w /\ bO aK 9 Y w cur /\ (∀ b,bC w = some b -> τ1.length <= b) /\ cur.length <= r.after.length + j /\ (∀ x ∈ cur,x.length <= 40) /\ ∀ x,x ∈ cur ↔ x ∈ r.after \/ ∃ f ∈ r.ins.take j,Mk rs f x) r.ins.length ?_ ?_ r.ins.length 0 _ _ (by omega) (Io (by simp +decide only [GS,g0,g3,g8,g37,g38,g39,and_self]) ⟨kp0,w0,r.after,(by simp +decide only [GS]),ow0,fr0,Nat.le_refl _,hsh.Td r hrm,fun x=>by simp⟩)
  ·rintro j F Y hj ⟨g0,g3,g8,g37,g38,g39,g10,g47,g48,g49,kp,w,cur,g11,ow,fr,hcl,hc40,hmem⟩ next2
   obtain ⟨s,hsj⟩:∃ y,r.ins[j]? = some y:=⟨_,List.getElem?_eq_getElem hj⟩
   obtain ⟨g',e2⟩:=gB h i1 hsj
   have hlt2:=eD hj
   have hadd2:=bX j (by omega)
   have hb2:=kp _ _ hb1
   have hlk:=Jq (Z:=Y) (x:=.mp 0) h (by unfold entriesOf; simp only [hb2]) hsm s
   have hex:∀ x,(∃ f ∈ r.ins.take (j + 1),Mk rs f x) ↔ (∃ f ∈ r.ins.take j,Mk rs f x) \/ Mk rs s x:=fun x=>by
    constructor
    ·rintro ⟨f,hf,hm⟩
     rcases (fM hsj f).1 hf with hf | rfl
     ·exact .inl ⟨f,hf,hm⟩
     ·exact .inr hm
    ·rintro (⟨f,hf,hm⟩ | hm)
     ·exact ⟨f,(fM hsj f).2 (.inl hf),hm⟩
     ·exact ⟨s,(fM hsj s).2 (.inr rfl),hm⟩
   rw [aG]
   rcases hmk s with ⟨hg,hno⟩ | ⟨n,hP,hg⟩
   ·rw [hg] at hlk
    simp only [KP,Ax.loadAt,↓reduceIte,Nat.reduceEqDiff,Nat.reduceLT,h.cQ,g3,g47,g48,g49,hlt2,e2,hlk,hadd2]
    refine next2 _ _ (Io (by simp +decide only [GS,g0,g3,g8,g37,g38,g39,g10,g47,g48,and_self]) ⟨kp,w,cur,(by simp +decide only [GS,g11]),ow,fr,by omega,hc40,fun x=>?_⟩)
    rw [hmem,hex]
    exact ⟨fun h=>h.elim .inl fun g=>.inr (.inl g),fun h=>h.elim .inl fun g=>.inr (g.elim id fun g=>absurd g (hno x))⟩
   ·rw [hg] at hlk
    obtain ⟨w',τ',hap,ow',sp',hln',fr'⟩:=kI (ats:=#[28,28]) (m:=[n]) (new:=[[.str n]]) h.aX rfl h.cQ rfl (by decide) (jD h) rfl (ow.app [.cells 9 [.str n] true]) (mB rfl) (.one rfl) (fD (b:=1000) (by decide) (by simp only [List.length_cons,List.length_nil]; omega))
    simp only [KP,Ax.loadAt,↓reduceIte,Nat.reduceEqDiff,Nat.reduceLT,Nat.reduceLeDiff,Nat.reduceMul,h.cQ,h.aX,g3,g11,g47,g48,g49,hlt2,e2,hlk,kF,hap,hadd2]
    refine next2 _ _ (Io (by simp +decide only [GS,g0,g3,g8,g37,g38,g39,g10,g47,g48,and_self]) ⟨fun c o hc=>sp' c o (aN (kp c o hc)) fun e=>absurd (List.getElem?_eq_some_iff.1 hc).1 (by have:=fr c e; omega),w',cur ++ [n],(by simp +decide only [GS]),ow',fun b hb=>?_,by rw [List.length_append,List.length_singleton]; omega,fun x hx=>?_,fun x=>?_⟩)
    ·rcases fr' b hb with g | g
     ·exact fr b g
     ·have h1:=(List.getElem?_eq_some_iff.1 (kp _ _ s1)).1
      have h2:τ1.length <= Y.length:=by
       refine Nat.le_of_not_lt fun hlt=>?_
       obtain ⟨o,ho⟩:∃ o,τ1[Y.length]? = some o:=⟨_,List.getElem?_eq_getElem hlt⟩
       exact absurd (List.getElem?_eq_some_iff.1 (kp _ _ ho)).1 (Nat.lt_irrefl _)
      simp only [List.length_append,List.length_cons,List.length_nil] at g
      omega
    ·rcases List.mem_append.1 hx with hx | hx
     ·exact hc40 x hx
     ·rw [List.mem_singleton.1 hx]; exact hP.short hsh
    ·rw [List.mem_append,hmem,hex,List.mem_singleton]
     constructor
     ·rintro ((h1 | h1) | rfl)
      ·exact .inl h1
      ·exact .inr (.inl h1)
      ·exact .inr (.inr hP)
     ·rintro (h1 | h1 | h1)
      ·exact .inl (.inl h1)
      ·exact .inl (.inr h1)
      ·exact .inr (hsh.iT s x n h1 hP)
  ·rintro F Y ⟨g0,g3,g8,g37,g38,g39,g10,g47,g48,g49,kp,w,cur,g11,ow,fr,hcl,hc40,hmem⟩
   rw [List.take_of_length_le (Nat.le_refl _)] at hmem
   have hlt2:=eE (Nat.lt_irrefl r.ins.length)
   obtain ⟨τ3,cur',hS,hperm,ow3,Mc,hln3⟩:=DT ow (by omega) (fun x hx=>by have:=hc40 x hx; omega)
   have ks:=dM (fun K=>show aB E 64 [w] Y K = K (.fI []) τ3 by rw [qQ h.Nv,hS]; rfl)
   have kp3:Kp τ1 τ3:=fun c o hc=>Mc c o (kp c o hc) fun e=>absurd (List.getElem?_eq_some_iff.1 hc).1 (by have:=fr c e; omega)
   rw [aG]
   simp only [KP,↓reduceIte,Nat.reduceEqDiff,Nat.reduceLT,g11,g48,g49,hlt2,ks]
   refine rest (rs':=rs.take i) ow3 (by rw [hperm.length_eq]; omega) kp3 fr s1 hA1 ha1 hnn (fun x=>?_) _ ?_ ?_ ?_ _ _ ?_
   ·rw [hperm.mem_iff,hmem]; exact Iff.rfl
   ·exact (by simp +decide only [GS,g8])
   ·exact (by simp +decide only [GS,g10])
   ·exact (by simp +decide only [GS,g11])
   intro F' τ' es' hF hA' ha' hk'
   have q0:F'.get 0 = a:=(hF 0 (by simp)).trans (by simp +decide only [GS,g0])
   have q3:F'.get 3 = .mp 0:=(hF 3 (by simp)).trans (by simp +decide only [GS,g3])
   have q8:F'.get 8 = .mp mA:=(hF 8 (by simp)).trans (by simp +decide only [GS,g8])
   have q37:F'.get 37 = a:=(hF 37 (by simp)).trans (by simp +decide only [GS,g37])
   have q38:F'.get 38 = .int .i64 (rs.length:Int):=(hF 38 (by simp)).trans (by simp +decide only [GS,g38])
   have q39:F'.get 39 = .int .i64 (i:Int):=(hF 39 (by simp)).trans (by simp +decide only [GS,g39])
   simp only [KP,↓reduceIte,Nat.reduceLT,q39,hadd]
   refine next _ _ (GQ (by simp +decide only [GS,q0,q3,q8,q37,q38,and_self]) ⟨hk' 0 _ hb1 (Ne.symm hmA),es',hA',?_⟩)
   rw [List.take_add_one,hr]
   exact ha'
 ·rintro F Y ⟨g0,g3,g8,g37,g38,g39,h0,es,hA,ha⟩
  rw [List.take_of_length_le (Nat.le_refl _)] at ha
  obtain ⟨es',e1,a1⟩:=Mw h hA ha
  have hlt:=eE (Nat.lt_irrefl rs.length)
  rw [aG]
  simp only [KP,↓reduceIte,Nat.reduceEqDiff,Nat.reduceLT,g8,g38,g39,hlt,e1]
  exact ⟨es',rfl,a1⟩
theorem Qq (h:bK E) {a:V} {rs:List aF} (ha:LS dW 37 Z a rs) (hs:∀ x ∈ rs,Small x) (hsh:Ee rs) (hl:rs.length <= 1000):aB E 147 [a] Z fun v σ'=>σ' = Z /\ ∃ es,v = .imp false es /\ AW (Nx rs) es rs:=by
 obtain ⟨a',ea,ia⟩:=eR h ha
 rw [aH h.Wb h.TX h.WX h.Vl (args':=[a']) (by simp only [aU,ea]),aW (by kernel_rfl)]
 have key:=fun Y es0 get h0 hsm hmk F g0 g3=>UX (Y:=Y) (es0:=es0) (get:=get) h ia hs hsh hl h0 hsm hmk F g0 g3
 have k2:=fun F g0 g3 hk=>UY (K:=fun v σ1=>match dD σ1 E.ty false v with
   | some v=>∃ es,v = .imp false es /\ AW (Nx rs) es rs
   | none=>False) h ia hs (by omega) F g0 g3 hk
 rw [show (aA Tryz.f147).code = .seq (cutAt [0] (aA Tryz.f147).code) (.seq (cutAt [1,0] (aA Tryz.f147).code) (cutAt [1,1] (aA Tryz.f147).code)) from rfl]
 generalize cutAt [1,1] (aA Tryz.f147).code = C at k2 ⊢
 simp only [aA,Tryz.f147,KP,↓reduceIte,Nat.reduceLT,cutAt]
 refine k2 _ ?_ ?_ fun F' Y es get g0 g3 hb hsm hmk=>key Y es get hb hsm hmk F' g0 g3
 ·exact (by simp +decide only [GS])
 ·exact (by simp +decide only [GS])
end
end
section
section
variable {E:Env} {Z:Sg} {K:V -> Sg -> Prop}
theorem AW.back {N:aF -> bA -> Prop}:∀ {es:List (V × V)} {rs:List aF},AW N es rs -> nB es = true /\ es.map ks = rs.map aF.name /\ es.length = rs.length
 | _,_,.nil=>⟨rfl,rfl,rfl⟩
 | (a,v) :: es,r :: rs,.cons h t=>by
  obtain ⟨h1,l,h2,h3,-⟩:=h
  obtain ⟨i1,i2,i3⟩:=AW.back (N:=N) t
  dsimp only at h1 h2
  subst h1
  refine ⟨?_,?_,by rw [List.length_cons,List.length_cons,i3]⟩
  ·have hr:∀ l:List bA,uA (l.map fun s=>[V.str s]) = true:=fun l=>by
    induction l with
    | nil=>rfl
    | cons s l ih=>rw [List.map_cons,uA]; exact ih
   rcases h2 with ⟨rfl,-⟩ | ⟨full,rfl⟩
   ·rw [nB]; exact i1
   ·rw [nB,hr,List.length_map,Nat.ble_eq_true_of_le h3]; exact i1
  ·rw [List.map_cons,List.map_cons,i2]; rfl
theorem Ae:∀ l:List bA,mH (l.map fun s=>[V.str s]) = l
 | []=>rfl
 | s :: l=>by rw [List.map_cons,mH,Ae l]
theorem QZ.list {v:V} {l:List bA} (h:QZ v l):g_ v = l:=by
 rcases h with ⟨rfl,rfl⟩ | ⟨full,rfl⟩
 ·rfl
 ·exact Ae l
theorem xE:∀ {es:List (V × V)},iJ es -> (es.map ks).Nodup -> gC es = true
 | [],_,_=>rfl
 | e :: es,ha,hn=>by
  obtain ⟨k,hk⟩:=ha _ (List.mem_cons_self ..)
  obtain ⟨a,v⟩:=e
  dsimp only at hk
  subst hk
  rw [List.map_cons,List.nodup_cons] at hn
  have hh:∀ {l:List (V × V)},iJ l -> k ∉ l.map ks -> gC.hasKey k l = false:=by
   intro l
   induction l with
   | nil=>intro _ _; rfl
   | cons e l ih=>
    intro ha hk
    obtain ⟨q,hq⟩:=ha _ (List.mem_cons_self ..)
    obtain ⟨b,u⟩:=e
    dsimp only at hq
    subst hq
    rw [List.map_cons,List.mem_cons,not_or] at hk
    rw [gC.hasKey,show Ax.seq q k = false from jO.2 (fun e=>hk.1 e.symm)]
    exact ih (fun e he=>ha e (List.mem_cons_of_mem _ he)) hk.2
  rw [gC,hh (fun e he=>ha e (List.mem_cons_of_mem _ he)) hn.1]
  exact xE (fun e he=>ha e (List.mem_cons_of_mem _ he)) hn.2
structure NM (rs:List aF) (es:List (V × V)):Prop where
 ok:nB es = true
 keys:es.map ks = rs.map aF.name
 nodup:(es.map ks).Nodup
 nd:gC es = true
 len:es.length = rs.length
 next:∀ r ∈ rs,∀ x,x ∈ bW es r.name ↔ Nx rs r x
theorem AW.mem {N:aF -> bA -> Prop}:∀ {es:List (V × V)} {rs:List aF},AW N es rs -> ∀ r ∈ rs,∃ v l,(V.str r.name,v) ∈ es /\ QZ v l /\ ∀ x,x ∈ l ↔ N r x
 | _,_,.nil,r,hr=>by cases hr
 | (a,v) :: es,q :: rs,.cons h t,r,hr=>by
  rcases List.mem_cons.1 hr with rfl | hr
  ·obtain ⟨h1,l,h2,h3,h4⟩:=h
   dsimp only at h1
   subst h1
   exact ⟨v,l,List.mem_cons_self ..,h2,h4⟩
  ·obtain ⟨v',l,h1,h2,h3⟩:=AW.mem (N:=N) t r hr
   exact ⟨v',l,List.mem_cons_of_mem _ h1,h2,h3⟩
theorem Ah:∀ {rs:List aF},(∀ (i j:Nat) (p q:aF),rs[i]? = some p -> rs[j]? = some q -> p.name = q.name -> i = j) -> (rs.map aF.name).Nodup
 | [],_=>List.Pairwise.nil
 | r :: rs,h=>by
  rw [List.map_cons,List.nodup_cons]
  refine ⟨fun hm=>?_,Ah fun i j p q hp hq e=>by
   have:=h (i + 1) (j + 1) p q hp hq e
   omega⟩
  obtain ⟨q,hq,e⟩:=List.mem_map.1 hm
  obtain ⟨j,hj⟩:=List.mem_iff_getElem?.1 hq
  have:=h 0 (j + 1) r q rfl hj e.symm
  omega
theorem UW {rs:List aF} {es:List (V × V)} (hsh:Ee rs) (h:AW (Nx rs) es rs):NM rs es:=by
 obtain ⟨h1,h2,h3⟩:=h.back
 have hn:(es.map ks).Nodup:=by rw [h2]; exact Ah hsh.nodup
 have hb:=wD h1
 refine ⟨h1,h2,hn,xE (fun e he=>(hb e he).1) hn,h3,fun r hr x=>?_⟩
 obtain ⟨v,l,hm,hv,hx⟩:=h.mem r hr
 rw [vV hb hn hm,hv.list]
 exact hx x
theorem Az {L:List (List (List Nat))}:∀ {l:List (List Nat)},iB L l = none ↔ ∀ a ∈ l,fL a L = none
 | []=>⟨fun _ a h=>(by cases h),fun _=>rfl⟩
 | a :: l=>by
  rw [iB]
  have ih:=Az (L:=L) (l:=l)
  cases hd:fL a L with
  | none=>
   dsimp only
   rw [ih]
   exact ⟨fun h x hx=>(List.mem_cons.1 hx).elim (fun e=>by rw [e]; exact hd) (h x),fun h x hx=>h x (List.mem_cons_of_mem _ hx)⟩
  | some d=>
   refine ⟨fun h=>?_,fun h=>?_⟩
   ·cases hb:iB L l with
    | none=>rw [hb] at h; cases h
    | some e=>
     rw [hb] at h
     dsimp only at h
     split at h <;> cases h
   ·have:=h a (List.mem_cons_self ..)
    rw [hd] at this; cases this
theorem Dy {es:List (V × V)} (hb:fT es) {f:List Nat}:∀ (k:Nat) (x:List Nat),Da es f k x -> (∀ j,j < k -> ¬ Da es f j x) -> ∃ ys:List (List Nat),ys.length = k /\ ys.Nodup /\ (∀ y ∈ ys,y ∈ es.map ks) /\ ∀ y ∈ ys,∃ j,1 <= j /\ j <= k /\ Da es f j y /\ ∀ i,i < j -> ¬ Da es f i y
 | 0,x,_,_=>⟨[],rfl,List.Pairwise.nil,fun _ h=>(by cases h),fun _ h=>(by cases h)⟩
 | k + 1,x,.succ (nx:=nx) hx hr,hm=>by
  have hmin:∀ j,j < k -> ¬ Da es f j nx:=fun j hj h=>hm (j + 1) (by omega) (.succ hx h)
  obtain ⟨ys,h1,h2,h3,h4⟩:=Dy hb k nx hr hmin
  refine ⟨x :: ys,by rw [List.length_cons,h1],List.nodup_cons.2 ⟨fun hxy=>?_,h2⟩,fun y hy=>?_,fun y hy=>?_⟩
  ·obtain ⟨j,j1,j2,j3,j4⟩:=h4 x hxy
   exact hm j (by omega) j3
  ·rcases List.mem_cons.1 hy with rfl | hy
   ·obtain ⟨v,hv,-⟩:=BM hb hx
    exact List.mem_map.2 ⟨_,hv,rfl⟩
   ·exact h3 y hy
  ·rcases List.mem_cons.1 hy with rfl | hy
   ·exact ⟨k + 1,by omega,Nat.le_refl _,.succ hx hr,hm⟩
   ·obtain ⟨j,j1,j2,j3⟩:=h4 y hy
    exact ⟨j,j1,by omega,j3⟩
theorem MI {es:List (V × V)} (hb:fT es) (hn:(es.map ks).Nodup) {f x:List Nat} {k:Nat} (h:Da es f k x):∃ d,sH es f x = some d:=by
 have:∃ d,Da es f d x /\ ∀ j,j < d -> ¬ Da es f j x:=by
  induction k using Nat.strongRecOn with
  | _ k ih=>
   by_cases hex:∃ j,j < k /\ Da es f j x
   ·obtain ⟨j,hj,hr⟩:=hex
    exact ih j hj hr
   ·exact ⟨k,h,fun j hj hr=>hex ⟨j,hj,hr⟩⟩
 obtain ⟨d,hr,hm⟩:=this
 obtain ⟨ys,h1,h2,h3,-⟩:=Dy hb d x hr hm
 have:=uG h2 h3
 rw [h1,List.length_map] at this
 exact ⟨d,(kP hb hn).2 ⟨this,hr,hm⟩⟩
theorem GW {rs:List aF} {es:List (V × V)} (h:NM rs es) (f:bA):iB (dH es es.length [f]) (bW es f) ≠ none ↔ ∃ n,Da es f (n + 1) f:=by
 have hb:=wD h.ok
 constructor
 ·intro hne
  have hne:∃ b,iB (dH es es.length [f]) (bW es f) = some b:=by
   cases he:iB (dH es es.length [f]) (bW es f) with
   | none=>exact absurd he hne
   | some b=>exact ⟨b,rfl⟩
  obtain ⟨b,hbo⟩:=hne
  obtain ⟨a,ha,hd⟩:=x_ _ _ _ hbo
  exact ⟨b,.succ ha ((kP hb h.nodup).1 hd).2.1⟩
 ·rintro ⟨n,hr⟩ hno
  cases hr with
  | succ hx hr=>
   obtain ⟨d,hd⟩:=MI hb h.nodup hr
   have:=Az.1 hno _ hx
   rw [show fL _ (dH es es.length [f]) = some d from hd] at this
   cases this
end
end
section
section
variable {E:Env} {Z:Sg} {K:V -> Sg -> Prop}
theorem jL {α:Type} {p:α -> Bool}:∀ {l:List α} {k:Nat},bJ p l = some k -> ∃ x,l[k]? = some x /\ p x = true
 | [],_,h=>by cases h
 | x :: l,k,h=>by
  rw [bJ] at h
  by_cases hx:p x = true
  ·rw [if_pos hx] at h; cases h; exact ⟨x,rfl,hx⟩
  ·rw [if_neg hx] at h
   cases hf:bJ p l with
   | none=>rw [hf] at h; cases h
   | some j=>
    rw [hf] at h
    cases h
    obtain ⟨y,h1,h2⟩:=jL hf
    exact ⟨y,h1,h2⟩
structure Good (rs:List aF):Prop where
 short:Ee rs
 known:∀ r ∈ rs,∀ n ∈ r.after,gY rs n = true
 len:rs.length <= 40
 rule:∀ r ∈ rs,aY r = 0
theorem Jk {s:bA} (h:bE s = true):s.length <= 40:=by
 unfold bE at h
 simp only [Bool.and_eq_true,decide_eq_true_eq] at h
 exact h.1.2
theorem rK {rs:List aF} (h:gA rs = 0):Good rs:=by
 unfold gA at h
 cases hf:rs.find? (fun r=>decide (aY r ≠ 0)) with
 | some r=>
  rw [hf] at h
  have:=List.find?_some hf
  rw [decide_eq_true_eq] at this
  exact absurd h this
 | none=>
  rw [hf] at h
  dsimp only at h
  have hr:∀ r ∈ rs,aY r = 0:=fun r hr=>by
   have:=List.find?_eq_none.1 hf r hr
   simpa using this
  by_cases h40:40 < rs.length
  ·rw [if_pos h40] at h; cases h
  rw [if_neg h40] at h
  cases hc:rS rs with
  | true=>rw [if_pos hc] at h; cases h
  | false=>
  rw [if_neg (by rw [hc]; simp)] at h
  cases hst:gD rs with
  | true=>rw [if_pos hst] at h; cases h
  | false=>
  have hcl:∀ i r,rs[i]? = some r -> gY (rs.take i) r.name = false /\ r.outs.any (uZ (rs.take i)) = false:=fun i r hi=>by
   have:=List.any_eq_false.1 hc i (List.mem_range.2 (List.getElem?_eq_some_iff.1 hi).1)
   rw [CD hi] at this
   simpa using this
  have hform:∀ r ∈ rs,bE r.name = true /\ r.after.all bE = true:=fun r hm=>by
   have:=hr r hm
   unfold aY at this
   by_cases hfo:jK r = false
   ·rw [if_pos hfo] at this; cases this
   ·have hfo:jK r = true:=by simpa using hfo
    unfold jK at hfo
    simp only [Bool.and_eq_true] at hfo
    exact ⟨hfo.1.1.1.1.1,hfo.1.2⟩
  have before:∀ (i j:Nat) (p:aF),j < i -> rs[j]? = some p -> p ∈ rs.take i:=fun i j p hji hj=>List.mem_of_getElem? (by rw [List.getElem?_take_of_lt hji]; exact hj)
  refine ⟨⟨fun r hm=>Jk (hform r hm).1,fun r hm s hs=>Jk (List.all_eq_true.1 (hform r hm).2 s hs),?_,?_⟩,fun r hm n hn=>?_,by omega,hr⟩
  ·have key:∀ (i j:Nat) (p q:aF),j < i -> rs[i]? = some p -> rs[j]? = some q -> p.name ≠ q.name:=fun i j p q hji hp hq e=>by
    have:=(hcl i p hp).1
    rw [show gY (rs.take i) p.name = true from List.any_eq_true.2 ⟨q,before i j q hji hq,decide_eq_true e.symm⟩] at this
    cases this
   intro i j p q hp hq e
   rcases Nat.lt_trichotomy i j with g | g | g
   ·exact absurd e.symm (key j i q p g hq hp)
   ·exact g
   ·exact absurd e (key i j p q g hp hq)
  ·have key:∀ (i j:Nat) (p q:aF) (f:bA),j < i -> rs[i]? = some p -> rs[j]? = some q -> f ∈ p.outs -> f ∈ q.outs -> False:=fun i j p q f hji hp hq h1 h2=>by
    have:=(hcl i p hp).2
    rw [show p.outs.any (uZ (rs.take i)) = true from List.any_eq_true.2 ⟨f,h1,List.any_eq_true.2 ⟨q,before i j q hji hq,decide_eq_true h2⟩⟩] at this
    cases this
   rintro f n m ⟨p,hp,h1,rfl⟩ ⟨q,hq,h2,rfl⟩
   obtain ⟨i,hi⟩:=List.mem_iff_getElem?.1 hp
   obtain ⟨j,hj⟩:=List.mem_iff_getElem?.1 hq
   rcases Nat.lt_trichotomy i j with g | g | g
   ·exact (key j i q p f g hj hi h2 h1).elim
   ·subst g
    rw [hi] at hj
    cases hj
    rfl
   ·exact (key i j p q f g hi hj h1 h2).elim
  ·have h1:=List.any_eq_false.1 hst r hm
   have h2:(r.after.any fun n=>decide (fQ rs n = none)) = false:=by simpa using h1
   have h3:=List.any_eq_false.1 h2 n hn
   rw [sV] at h3
   simpa using h3
theorem BN {rs:List aF} {es:List (V × V)} (g:Good rs) (h:NM rs es) {i:Nat} {r:aF} (hi:rs[i]? = some r) (x:bA):x ∈ bW es r.name ↔ ∃ k q,iK rs false i k = true /\ rs[k]? = some q /\ q.name = x:=by
 have hm:=List.mem_of_getElem? hi
 rw [h.next r hm]
 have hd:∀ k,iK rs false i k = true ↔ (∃ f ∈ r.ins,fA rs f = some k) \/ ∃ n ∈ r.after,fQ rs n = some k:=fun k=>by
  unfold iK xH
  rw [hi]
  simp only [Bool.not_false,Bool.true_and,Bool.or_eq_true,List.any_eq_true,decide_eq_true_eq]
 constructor
 ·rintro (hx | ⟨f,hf,hmk⟩)
  ·have hk:=g.known r hm x hx
   unfold gY at hk
   rw [<- cB] at hk
   obtain ⟨k,hk⟩:=Option.isSome_iff_exists.1 hk
   obtain ⟨q,h1,h2⟩:=jL hk
   exact ⟨k,q,(hd k).2 (.inr ⟨x,hx,hk⟩),h1,of_decide_eq_true h2⟩
  ·obtain ⟨p,hp,hfp,rfl⟩:=hmk
   obtain ⟨k,hk⟩:=mT (p:=fun q:aF=>decide (f ∈ q.outs)) hp (decide_eq_true hfp)
   obtain ⟨q,h1,h2⟩:=jL hk
   exact ⟨k,q,(hd k).2 (.inl ⟨f,hf,hk⟩),h1,g.short.iT f _ _ ⟨q,List.mem_of_getElem? h1,of_decide_eq_true h2,rfl⟩ ⟨p,hp,hfp,rfl⟩⟩
 ·rintro ⟨k,q,hk,hq,rfl⟩
  rcases (hd k).1 hk with ⟨f,hf,h1⟩ | ⟨n,hn,h1⟩
  ·obtain ⟨q',h2,h3⟩:=jL h1
   rw [hq] at h2
   cases h2
   exact .inr ⟨f,hf,q,List.mem_of_getElem? hq,of_decide_eq_true h3,rfl⟩
  ·obtain ⟨q',h2,h3⟩:=jL h1
   rw [hq] at h2
   cases h2
   rw [of_decide_eq_true h3]
   exact .inl hn
theorem OE {rs:List aF} {es:List (V × V)} (g:Good rs) (h:NM rs es) {i k:Nat} (hw:AxS.Way (iK rs false) i k):∀ {p q:aF},rs[i]? = some p -> rs[k]? = some q -> ∃ n,Da es q.name (n + 1) p.name:=by
 induction hw with
 | one hm=>
  intro p q hp hq
  exact ⟨0,.succ ((BN g h hp _).2 ⟨_,q,hm,hq,rfl⟩) .zero⟩
 | @cons i j k hm _ ih=>
  intro p q hp hq
  have hj:∃ s,rs[j]? = some s:=by
   unfold iK at hm
   rw [hp] at hm
   unfold xH at hm
   simp only [Bool.or_eq_true,Bool.and_eq_true,List.any_eq_true,decide_eq_true_eq] at hm
   rcases hm with ⟨f,-,h1⟩ | ⟨-,n,-,h1⟩
   ·obtain ⟨s,h2,-⟩:=jL h1; exact ⟨s,h2⟩
   ·obtain ⟨s,h2,-⟩:=jL h1; exact ⟨s,h2⟩
  obtain ⟨s,hs⟩:=hj
  obtain ⟨n,hr⟩:=ih hs hq
  exact ⟨n + 1,.succ ((BN g h hp _).2 ⟨j,s,hm,hs,rfl⟩) hr⟩
theorem MH {es:List (V × V)} {f x:List Nat} (h:Da es f 0 x):x = f:=by cases h; rfl
theorem Jg {rs:List aF} {es:List (V × V)} (g:Good rs) (h:NM rs es) {k:Nat} {q:aF} (hq:rs[k]? = some q):∀ (n i:Nat) (p:aF),rs[i]? = some p -> Da es q.name (n + 1) p.name -> AxS.Way (iK rs false) i k
 | n,i,p,hp,.succ (nx:=nx) hx hr=>by
  obtain ⟨j,s,hm,hs,rfl⟩:=(BN g h hp _).1 hx
  cases n with
  | zero=>
   have e:s.name = q.name:=MH hr
   have:=g.short.nodup j k s q hs hq e
   subst this
   exact .one hm
  | succ n=>exact .cons hm (Jg g h hq n j s hs hr)
theorem FN {rs:List aF} {es:List (V × V)} (g:Good rs) (h:NM rs es):Ring rs ↔ ∃ r ∈ rs,iB (dH es es.length [r.name]) (bW es r.name) ≠ none:=by
 constructor
 ·rintro ⟨i,hi,hw⟩
  have hr:rs[i]? = some rs[i]:=List.getElem?_eq_getElem hi
  obtain ⟨n,hn⟩:=OE g h hw hr hr
  exact ⟨_,List.mem_of_getElem? hr,(GW h _).2 ⟨n,hn⟩⟩
 ·rintro ⟨r,hr,hb⟩
  obtain ⟨i,hi⟩:=List.mem_iff_getElem?.1 hr
  obtain ⟨n,hn⟩:=(GW h _).1 hb
  exact ⟨i,(List.getElem?_eq_some_iff.1 hi).1,Jg g h hi n i r hi hn⟩
end
end
section
section
variable {E:Env} {Z:Sg} {K:V -> Sg -> Prop}
theorem Lm {rs:List aF} {es:List (V × V)} (h:NM rs es) (hl:rs.length <= 1000) (g:Bool) (f:bA):nV [.imp g es,.str f] = some (nC es f):=by
 show (match nB es,gC es,Nat.ble es.length 1000000 with
  | true,true,true=>some (nC es f)
  | _,_,_=>none) = _
 rw [h.ok,h.nd,Nat.ble_eq_true_of_le (by rw [h.len]; omega)]
theorem CJ (es:List (V × V)) (f:bA):(iB (dH es es.length [f]) (bW es f) = none /\ nC es f = .aD) \/ (iB (dH es es.length [f]) (bW es f) ≠ none /\ ∃ l full,nC es f = .bR false ((f :: l).map fun s=>[V.str s]) full):=by
 unfold nC
 dsimp only
 cases iB (dH es es.length [f]) (bW es f) with
 | none=>exact .inl ⟨rfl,rfl⟩
 | some b=>exact .inr ⟨by simp,_,_,rfl⟩
theorem Sl (h:bK E) {rs:List aF} {es:List (V × V)} (hn:NM rs es) (hl:rs.length <= 1000) (g:Bool) (f:bA):aB E 148 [.imp g es,.str f] Z K = K (nC es f) Z:=by
 have h5:dD [] E.ty false (nC es f) = some (nC es f):=by
  rcases CJ es f with ⟨-,e⟩ | ⟨-,l,full,e⟩
  ·rw [e]; rfl
  ·rw [e]; exact Dm rfl rfl
 have hi:Ax.bB (.imp g es) = true:=rfl
 exact sP (args':=[.imp g es,.str f]) h.Wa h.TW (by simp only [aU,cJ,cR hi (bZ hi)]) (Lm hn hl g f) h5
theorem XI (h:bK E) {rs:List aF} {es:List (V × V)} {g:Bool} (hg:Good rs) (hn:NM rs es) {Y:Sg} {w:V} (ow:bO aK 9 Y w (rs.map aF.name)) (F:FT) (g5:F.get 5 = .imp g es) (g6:F.get 6 = w) :
  R E (cutAt [1,1,1,1,1] (aA Tryz.f109).code) [] ⟨48,F⟩ Y (mF E (aA Tryz.f109).results (fun v σ1=>match dD σ1 E.ty false v with
   | some v=>(v = .aD /\ ¬ Ring rs) \/ ∃ x l,jY aK v (x :: l) /\ Ring rs
   | none=>False)):=by
 have h40:=hg.len
 have hll:(rs.map aF.name).length <= 40:=by rw [List.length_map]; omega
 obtain ⟨τ3,ns,hS,hperm,ow3,-,-⟩:=DT ow (by omega) (fun x hx=>by
  obtain ⟨r,hr,rfl⟩:=List.mem_map.1 hx
  have:=hg.short.names r hr
  omega)
 have ks:=dM (fun K=>show aB E 64 [w] Y K = K (.fI []) τ3 by rw [qQ h.Nv,hS]; rfl)
 have hnl:ns.length <= 40:=by rw [hperm.length_eq]; omega
 have lw:=rC h.aX rfl ow3.ls
 simp only [aA,Tryz.f109,KP,↓reduceIte,Nat.reduceEqDiff,Nat.reduceLT,cutAt,g6,ks,lw]
 refine aS (fun i F Y=>Y = τ3 /\ F.get 5 = .imp g es /\ F.get 35 = w /\ F.get 36 = .int .i64 (ns.length:Int) /\ F.get 37 = .int .i64 (i:Int) /\ ∀ (j:Nat) (x:bA),j < i -> ns[j]? = some x -> iB (dH es es.length [x]) (bW es x) = none) ns.length ?_ ?_ ns.length 0 _ _ (by omega) ⟨rfl,(h_ (by simp +decide only [GS,g5,and_self]) (fun j x hj=>by omega))⟩
 ·rintro i F Y hi ⟨rfl,g5,g35,g36,g37,hp⟩ next
  obtain ⟨x,hx⟩:∃ y,ns[i]? = some y:=⟨_,List.getElem?_eq_getElem hi⟩
  obtain ⟨p,r,e4,e5,-,e6,-⟩:=JZ (Z:=Y) h.aX rfl h.cQ rfl ow3.ls hx
  have e6:=e6 rfl (by decide)
  rw [show r = [.str x] from e5] at e6
  have e6:loadAt E Y 9 p = some (.str x):=e6
  have hlt:=eD hi
  have hadd:=bX i (by omega)
  have kb:=fun (Z:Sg)=>dM (fun K=>Sl (Z:=Z) (K:=K) h hn (by omega) g x)
  have hxm:x ∈ rs.map aF.name:=hperm.mem_iff.1 (List.mem_of_getElem? hx)
  obtain ⟨q,hq,hqx⟩:=List.mem_map.1 hxm
  rw [aG]
  rcases CJ es x with ⟨hb,e⟩ | ⟨hb,l,full,e⟩
  ·simp only [KP,↓reduceIte,Nat.reduceEqDiff,Nat.reduceLT,g5,g35,g36,g37,hlt,e4,e6,kb,e,Ct h,hadd]
   refine next _ _ ⟨rfl,(h_ (by simp +decide only [GS,g5,g35,g36,and_self]) (fun j y hj hy=>?_))⟩
   rcases Nat.lt_or_ge j i with gg | gg
   ·exact hp j y gg hy
   ·obtain rfl:j = i:=by omega
    rw [hx] at hy; cases hy; exact hb
  ·have hsn:∀ Z,dD Z E.ty false (.bR false ((x :: l).map fun s=>[V.str s]) full) = some (.bR false ((x :: l).map fun s=>[V.str s]) full):=fun Z=>Dm rfl rfl
   simp only [KP,↓reduceIte,Nat.reduceEqDiff,Nat.reduceLT,reduceCtorEq,g5,g35,g36,g37,hlt,e4,e6,kb,e,Cs h,hsn]
   exact .inr ⟨x,l,.inr ⟨_,full,rfl,yZ _⟩,(FN hg hn).2 ⟨q,hq,by rw [hqx]; exact hb⟩⟩
 ·rintro F Y ⟨rfl,g5,g35,g36,g37,hp⟩
  have hlt:=eE (Nat.lt_irrefl ns.length)
  rw [aG]
  simp only [KP,↓reduceIte,Nat.reduceLT,g36,g37,hlt]
  refine .inl ⟨rfl,fun hr=>?_⟩
  obtain ⟨r,hr,hb⟩:=(FN hg hn).1 hr
  obtain ⟨j,hj⟩:=List.mem_iff_getElem?.1 (hperm.mem_iff.2 (List.mem_map.2 ⟨r,hr,rfl⟩))
  exact hb (hp j r.name (List.getElem?_eq_some_iff.1 hj).1 hj)
theorem Ob (h:bK E) {a:V} {rs:List aF} (ha:LS dW 37 Z a rs) (hs:∀ x ∈ rs,Small x) (hp:gA rs = 0):aB E 109 [a] Z fun v σ'=>σ' = Z /\ ((v = .aD /\ ¬ Ring rs) \/ ∃ x l,jY aK v (x :: l) /\ Ring rs):=by
 obtain ⟨a',ea,ia⟩:=eR h ha
 have hg:=rK hp
 have h40:=hg.len
 rw [aH h.Wl h.T7 h.Xa h.Vv (args':=[a']) (by simp only [aU,ea]),aW (by kernel_rfl)]
 have la:=cT h ia
 have key:=fun es g hn Y w ow F g5 g6=>XI (E:=E) (rs:=rs) (es:=es) (g:=g) (Y:=Y) (w:=w) h hg hn ow F g5 g6
 rw [show (aA Tryz.f109).code = .seq (cutAt [0] (aA Tryz.f109).code) (.seq (cutAt [1,0] (aA Tryz.f109).code) (.seq (cutAt [1,1,0] (aA Tryz.f109).code) (.seq (cutAt [1,1,1,0] (aA Tryz.f109).code) (.seq (cutAt [1,1,1,1,0] (aA Tryz.f109).code) (cutAt [1,1,1,1,1] (aA Tryz.f109).code))))) from rfl]
 generalize cutAt [1,1,1,1,1] (aA Tryz.f109).code = C at key ⊢
 simp only [aA,Tryz.f109,KP,↓reduceIte,Nat.reduceLT,reduceCtorEq,cutAt]
 refine aL (JW h (ia.ls _ 37) hs (by omega)) ?_
 rintro v σ' ⟨rfl,nm,rfl⟩
 rw [hp]
 simp only [KP,↓reduceIte,Nat.reduceEqDiff,Nat.reduceLT,reduceCtorEq]
 refine aL (Qq h (ia.ls _ 37) hs hg.short (by omega)) ?_
 rintro v σ' ⟨rfl,es,rfl,hv⟩
 have hn:=UW hg.short hv
 simp only [KP,↓reduceIte,Nat.reduceLT,reduceCtorEq,la]
 refine aS (fun i F Y=>F.get 5 = .imp false es /\ F.get 21 = a' /\ F.get 22 = .int .i64 (rs.length:Int) /\ F.get 23 = .int .i64 (i:Int) /\ ∃ w,F.get 6 = w /\ bO aK 9 Y w ((rs.take i).map aF.name)) rs.length ?_ ?_ rs.length 0 _ _ (by omega) (h_ (by simp +decide only [GS,and_self]) ⟨.aD,(by simp +decide only [GS]),.inl ⟨rfl,rfl⟩⟩)
 ·rintro i F Y hi ⟨g5,g21,g22,g23,w,g6,ow⟩ next
  obtain ⟨r,hr⟩:∃ y,rs[i]? = some y:=⟨_,List.getElem?_eq_getElem hi⟩
  obtain ⟨g,p1,p2,p3,p4,e1,i1,i2,i3,i4⟩:=fB h ia hr
  have o1:=aI i1.bB
  have o2:=aI i2.bB
  have o3:=aI i3.bB
  have o4:=aI i4.bB
  have hlt:=eD hi
  have hadd:=bX i (by omega)
  have s1:(Y ++ [O.cells 37 [.str r.name,p1,p2,p3,p4] true])[Y.length]? = some (O.cells 37 [.str r.name,p1,p2,p3,p4] true):=aO
  have ow1:=ow.app [O.cells 37 [.str r.name,p1,p2,p3,p4] true]
  rw [aG]
  simp only [KP,Ax.loadAt,Ax.storeAt,↓reduceIte,Nat.reduceEqDiff,Nat.reduceLT,Nat.reduceLeDiff,Nat.reduceAdd,Nat.reduceMul,reduceCtorEq,h.cQ,h.aX,h.bG,g6,g21,g22,g23,hlt,e1,o1,o2,o3,o4,aO,cK]
  generalize Y ++ [O.cells 37 [.str r.name,p1,p2,p3,p4] true] = τ1 at *
  generalize Y.length = y at *
  obtain ⟨w',τ',hap,ow',-,-,-⟩:=kI (ats:=#[28,28]) (m:=[r.name]) (new:=[[.str r.name]]) h.aX rfl h.cQ rfl (by decide) (jD h) rfl (ow1.app [.cells 9 [.str r.name] true]) (mB rfl) (.one rfl) (fD (b:=1000) (by decide) (by rw [List.length_map,List.length_take]; simp only [List.length_cons,List.length_nil]; omega))
  simp only [KP,↓reduceIte,Nat.reduceEqDiff,Nat.reduceLT,g23,kF,hap,hadd]
  refine next _ _ (h_ (by simp +decide only [GS,g5,g21,g22,and_self]) ⟨w',(by simp +decide only [GS]),?_⟩)
  rw [List.take_add_one,hr,List.map_append]
  exact ow'
 ·rintro F Y ⟨g5,g21,g22,g23,w,g6,ow⟩
  rw [List.take_of_length_le (Nat.le_refl _)] at ow
  have hlt:=eE (Nat.lt_irrefl rs.length)
  rw [aG]
  simp only [KP,↓reduceIte,Nat.reduceLT,g22,g23,hlt]
  exact key es false hn _ w ow _ (by simp +decide only [GS,g5]) (by simp +decide only [GS,g6])
theorem S_ (h:bK E) {a:V} {rs:List aF} (ha:LS dW 37 Z a rs) (hs:∀ x ∈ rs,Small x) (hl:rs.length <= 4294967296):aB E 62 [a] Z fun v σ'=>σ' = Z /\ ∃ e nm,v = .fI [.int .i64 e,.str nm] /\ Hg rs e:=by
 obtain ⟨a',ea,ia⟩:=eR h ha
 rw [aH h.hs62 h.sp62 h.fn62 h.md62 (args':=[a']) (by simp only [aU,ea]),aW (by kernel_rfl)]
 have d6:=h.Xy
 simp only [aA,Tryz.f62,cutAt,Option.getD_some] at d6
 simp only [aA,Tryz.f62,KP,↓reduceIte,Nat.reduceLT,reduceCtorEq,jX]
 refine aL (JW h (ia.ls _ 37) hs hl) ?_
 rintro v σ' ⟨rfl,nm,rfl⟩
 by_cases hp:gA rs = 0
 case neg=>
  have q:=decide_eq_false hp
  simp only [KP,↓reduceIte,Nat.reduceEqDiff,Nat.reduceLT,q]
  exact ⟨gA rs,nm,rfl,.inl ⟨hp,rfl⟩⟩
 have q:=decide_eq_true hp
 simp only [KP,↓reduceIte,Nat.reduceEqDiff,Nat.reduceLT,reduceCtorEq,q]
 refine aL (Ob h (ia.ls _ 37) hs hp) ?_
 rintro v σ' ⟨rfl,hv⟩
 rcases hv with ⟨rfl,hr⟩ | ⟨x,l,iv,hr⟩
 ·simp only [KP,↓reduceIte,Nat.reduceEqDiff,Nat.reduceLT,jX,Ct h]
  exact ⟨0,[],rfl,.inr ⟨hp,.inr ⟨hr,rfl⟩⟩⟩
 ·obtain ⟨g,e1⟩:=gB h iv.is (i:=0) (x:=x) rfl
  have e1:indexAddr E 28 v (.int .i64 0) = some (.dB g [.str x]):=e1
  have en:lQ E 28 true v .aD = some false:=by
   rcases iv with ⟨-,e⟩ | ⟨rs',full,rfl,-⟩
   ·cases e
   ·exact Cs h
  simp only [KP,Ax.loadAt,↓reduceIte,Nat.reduceEqDiff,Nat.reduceLT,h.cQ,en,e1,aR d6,bM]
  exact ⟨3,x,rfl,.inr ⟨hp,.inl ⟨hr,rfl⟩⟩⟩
end
end
structure OrE (E:Env):Prop where
 hs14:E.hspec 14 = none
 OY:E.spec 14 = none
 fn14:E.fn 14 = some (aA Tryz.f14)
 md14:E.mode 14 = .fG
 hs66:E.hspec 66 = none
 sp66:E.spec 66 = none
 fn66:E.fn 66 = some (aA Tryz.f66)
 md66:E.mode 66 = .fG
 hs68:E.hspec 68 = none
 sp68:E.spec 68 = none
 fn68:E.fn 68 = some (aA Tryz.f68)
 md68:E.mode 68 = .fG
 hs15:E.hspec 15 = none
 OX:E.spec 15 = none
 fn15:E.fn 15 = some (aA Tryz.f15)
 md15:E.mode 15 = .fG
 hs69:E.hspec 69 = none
 sp69:E.spec 69 = none
 fn69:E.fn 69 = some (aA Tryz.f69)
 md69:E.mode 69 = .fG
 d14_15:aM E (cutAt [1,1,1,1,1,1,1,0,2,2,1,2,1,0] (aA Tryz.f14).code) = true
section
section
variable {E:Env} {Z:Sg} {K:V -> Sg -> Prop}
theorem RZ {Y:Sg} {w:V} {l:List bA} {k:Nat} {es:List (V × V)} (hb:Y[k]? = some (.map es)) (ow:bO aK 9 Y w l):bC w ≠ some k:=by
 rcases ow with ⟨rfl,-⟩ | ⟨b,rs,ex,rfl,hc,-⟩
 ·intro e; cases e
 ·intro e
  cases e
  rw [hb] at hc
  cases hc
structure uQ (rs:List aF) (o:List bA):Prop where
 len:o.length = rs.length
 nodup:o.Nodup
 mem:∀ x ∈ o,x ∈ rs.map aF.name
 behind:∀ (i k:Nat) (p q:aF),rs[i]? = some p -> rs[k]? = some q -> iK rs false i k = true -> ∀ (j:Nat),o[j]? = some p.name -> q.name ∈ o.take j
structure yD (E:Env) (Y:Sg) (es:List (V × V)) (p:bA -> Bool):Prop where
 b0:Y[0]? = some (.cells 96 [.imp false es] true)
 b2:Y[2]? = some (.cells 98 [.mp 1] true)
 b1:∃ e1,Y[1]? = some (.map e1) /\ SB E e1 p
theorem yD.app {Y:Sg} {es:List (V × V)} {p:bA -> Bool} (h:yD E Y es p) (y:O):yD E (Y ++ [y]) es p:=by
 obtain ⟨e1,h1,h2⟩:=h.b1
 exact ⟨aN h.b0,aN h.b2,e1,aN h1,h2⟩
theorem yD.sp {Y τ':Sg} {es:List (V × V)} {p:bA -> Bool} {w:V} {l:List bA} (h:yD E Y es p) (ow:bO aK 9 Y w l) (sp:Sp Y τ' w):yD E τ' es p:=by
 obtain ⟨e1,h1,h2⟩:=h.b1
 exact ⟨sp _ _ h.b0 (kM h.b0 (by decide) ow),sp _ _ h.b2 (kM h.b2 (by decide) ow),e1,sp _ _ h1 (RZ h1 ow),h2⟩
theorem yD.put {Y:Sg} {es e1:List (V × V)} {p q:bA -> Bool} (h:yD E Y es p) (hs:SB E e1 q):yD E (Y.set 1 (.map e1)) es q:=by
 obtain ⟨e0,h1,-⟩:=h.b1
 exact ⟨by rw [List.getElem?_set_ne (by decide)]; exact h.b0,by rw [List.getElem?_set_ne (by decide)]; exact h.b2,e1,by rw [List.getElem?_set_self (List.getElem?_eq_some_iff.1 h1).1],hs⟩
end
end
section
structure sM (E:Env):Prop where
 nU:E.ty 105 = some { kd:=.map 46 77,size:=1,bytes:=8,zero:=.bT }
 lS:E.ty 107 = some { kd:=.jB [(0,103),(1,104),(2,77),(3,105),(4,105)],size:=5,bytes:=40,zero:=.agg [.bT,.bT,.fF,.bT,.bT] }
 Kb:E.ty 41 = some { kd:=.ptr 107,size:=1,bytes:=8,zero:=.fF }
 Dg:E.ty 103 = some { kd:=.map 9 37,size:=1,bytes:=8,zero:=.bT }
 wK:E.ty 144 = some { kd:=.jB [(0,105),(1,46),(3,46)],size:=5,bytes:=56,zero:=.agg [.bT,.bool false,.str [],.bool false,.str []] }
 IL:E.ty 145 = some { kd:=.sl 144,size:=1,bytes:=24,zero:=.aD }
 hs70:E.hspec 70 = none
 sp70:E.spec 70 = none
 fn70:E.fn 70 = some (aA Tryz.f70)
 md70:E.mode 70 = .fG
 Wj:E.hspec 113 = none
 T5:E.spec 113 = none
 W9:E.fn 113 = some (aA Tryz.f113)
 Vt:E.mode 113 = .shared
 hs19:E.hspec 19 = none
 Mi:E.spec 19 = none
 fn19:E.fn 19 = some (aA Tryz.f19)
 md19:E.mode 19 = .fG
 hs73:E.hspec 73 = none
 sp73:E.spec 73 = none
 fn73:E.fn 73 = some (aA Tryz.f73)
 md73:E.mode 73 = .shared
 hs72:E.hspec 72 = none
 sp72:E.spec 72 = none
 fn72:E.fn 72 = some (aA Tryz.f72)
 md72:E.mode 72 = .fG
 hs74:E.hspec 74 = none
 sp74:E.spec 74 = none
 fn74:E.fn 74 = some (aA Tryz.f74)
 md74:E.mode 74 = .fG
 hs37:E.hspec 37 = none
 sp37:E.spec 37 = none
 fn37:E.fn 37 = some (aA Tryz.f37)
 md37:E.mode 37 = .fG
 hs63:E.hspec 63 = none
 sp63:E.spec 63 = none
 fn63:E.fn 63 = some (aA Tryz.f63)
 md63:E.mode 63 = .fG
 Tp:hU E (opsOf (cutAt [1,0] (aA Tryz.f70).code)) = .no
 UP:c_ E .no (opsOf (cutAt [1,0] (aA Tryz.f70).code)) = some [⟨2,4,true,false⟩,  ⟨2,7,true,false⟩,  ⟨2,10,true,false⟩,  ⟨5,7,true,false⟩,  ⟨5,10,true,false⟩,  ⟨8,10,true,false⟩]
 To:hU E (opsOf (cutAt [1,1,0,1,2,2,1,1,0,2,1] (aA Tryz.f70).code)) = .no
 UO:c_ E .no (opsOf (cutAt [1,1,0,1,2,2,1,1,0,2,1] (aA Tryz.f70).code)) = some [⟨1,12,false,true⟩,  ⟨1,19,false,true⟩,  ⟨4,12,false,true⟩,  ⟨4,19,false,true⟩,  ⟨4,22,false,true⟩,  ⟨12,14,true,false⟩,  ⟨12,18,true,false⟩]
 XG:aM E (cutAt [1,1,1,0,1,2,2,1,1,0,2,1,0] (aA Tryz.f19).code) = true
 Ts:hU E (opsOf (cutAt [1,1,1,0,1,2,2,1,1,0,2,1,1,0] (aA Tryz.f19).code)) = .no
 US:c_ E .no (opsOf (cutAt [1,1,1,0,1,2,2,1,1,0,2,1,1,0] (aA Tryz.f19).code)) = some [⟨3,7,false,true⟩]
 SG:aM E (cutAt [1,1,1,0,1,2,2,1,1,0,2,1,1,1,1,1,2,2,1,1,0,2,1,0] (aA Tryz.f19).code) = true
 SF:aM E (cutAt [1,1,1,0,1,2,2,1,1,0,2,1,1,1,1,1,2,2,1,1,0,2,1,1] (aA Tryz.f19).code) = true
 Tn:hU E (opsOf (cutAt [1,0] (aA Tryz.f73).code)) = .no
 UN:c_ E .no (opsOf (cutAt [1,0] (aA Tryz.f73).code)) = some [⟨3,6,false,true⟩]
 Xw:aM E (cutAt [1,1,0] (aA Tryz.f73).code) = true
 Tm:hU E (opsOf (cutAt [1,1,1,2,2,1,1,0,2,1,0,1,0] (aA Tryz.f73).code)) = .no
 UM:c_ E .no (opsOf (cutAt [1,1,1,2,2,1,1,0,2,1,0,1,0] (aA Tryz.f73).code)) = some [⟨1,4,false,true⟩,  ⟨3,4,false,true⟩]
 Tl:hU E (opsOf (cutAt [1,1,1,2,2,1,1,0,2,1,1] (aA Tryz.f73).code)) = .no
 UL:c_ E .no (opsOf (cutAt [1,1,1,2,2,1,1,0,2,1,1] (aA Tryz.f73).code)) = some [⟨1,7,false,true⟩,  ⟨3,7,false,true⟩,  ⟨4,7,false,true⟩]
 z63_17:hU E (opsOf (cutAt [1,1,1,1,0,1,2,2,1,1,0,2,1,1,1,1] (aA Tryz.f63).code)) = .no
 p63_17:c_ E .no (opsOf (cutAt [1,1,1,1,0,1,2,2,1,1,0,2,1,1,1,1] (aA Tryz.f63).code)) = some [⟨2,4,false,true⟩]
section
variable {E:Env} {Z:Sg} {K:V -> Sg -> Prop}
theorem aB.up {f:Nat} {args:List V} {K:V -> Sg -> Prop} (h:aB E f args Z K):∃ n v σ',K v σ' /\ ∀ m,n <= m -> gK E (ev E m) f args Z = some (v,σ'):=by
 obtain ⟨n,v,σ',hc,hk⟩:=h
 exact ⟨n,v,σ',hk,fun m hm=>rT (lH E hm) hc⟩
theorem K6 (h:bK E):lQ E 35 true .aD .aD = some true:=by unfold lQ; rw [h.fH]
theorem K5 (h:bK E) {g:Bool} {rs:List (List V)} {f:Bool}:lQ E 35 true (.bR g rs f) .aD = some false:=by unfold lQ; rw [h.fH]
theorem Lz (h:bK E) (h':sM E) {a:V} {l:List AxS.Step} (ia:IS eW a l) (hl:l.length <= 1000):aB E 113 [a] Z fun v σ'=>bO eW 75 σ' v l /\ Kp Z σ' /\ ∀ b,bC v = some b -> Z.length <= b:=by
 rw [eF h'.Wj h'.T5 h'.W9 h'.Vt,aW (by kernel_rfl)]
 rcases ia with ⟨rfl,rfl⟩ | ⟨g,rs,full,rfl,ha⟩
 ·simp only [aA,Tryz.f113,KP,↓reduceIte,Nat.reduceLT,reduceCtorEq,K6 h]
  exact ⟨.inl ⟨rfl,rfl⟩,fun _ _ h=>h,fun b hb=>by cases hb⟩
 ·obtain ⟨rs',e,ha'⟩:=qG (L:=eW) (x:=.bR g rs full) (l:=l) (.inr ⟨g,rs,full,rfl,ha⟩) (Z ++ [O.cells 75 [] true])
  obtain ⟨w',τ',h1,h2,h3,h4,h5⟩:=kI (ats:=#[35,35]) (Z:=Z ++ [O.cells 75 [] true]) (w:=.sl Z.length 0 0 none) (l:=[]) (L:=eW) h.fH rfl h.cN rfl (by decide) (Af h) rfl (.inr ⟨Z.length,[],true,rfl,aO,.nil⟩) e ha' (fD (b:=1000) (by decide) (by simp only [List.length_nil]; omega))
  rw [List.nil_append] at h2
  simp only [aA,Tryz.f113,KP,↓reduceIte,Nat.reduceEqDiff,Nat.reduceLT,Nat.reduceLeDiff,reduceCtorEq,h.fH,h.cN,K5 h,h1,Ax.fill,gX,Nat.zero_mul]
  refine ⟨h2,fun c o hc=>h3 _ _ (aN hc) fun e=>?_,fun b hb=>?_⟩
  ·cases e
   exact absurd (List.getElem?_eq_some_iff.1 hc).1 (Nat.lt_irrefl _)
  ·rcases h5 b hb with g | g
   ·cases g; exact Nat.le_refl _
   ·simp only [List.length_append,List.length_cons,List.length_nil] at g; omega
end
end
end Go.Proofs.YtlbbdpkjeeiahaaGreatDoor
end
section
set_option maxHeartbeats 8000000
set_option linter.unusedVariables false
namespace Go.Proofs.YtlbbdpkjeeiahaaGreatDoor.Lb
open Go Go.Ax Go.AxS
section
structure eS (E:Env):Prop where
 pP:E.ty 3 = some { kd:=.int .i64,size:=1,bytes:=8,zero:=.int .i64 0 }
 CW:E.ty 4 = some { kd:=.bool,size:=1,bytes:=1,zero:=.bool false }
 cQ:E.ty 9 = some { kd:=.str,size:=1,bytes:=16,zero:=.str [] }
 CV:E.ty 40 = some { kd:=.sl 46,size:=1,bytes:=24,zero:=.aD }
 sK:E.ty 77 = some { kd:=.ptr 86,size:=1,bytes:=8,zero:=.fF }
 wJ:E.ty 82 = some { kd:=.map 46 4,size:=1,bytes:=8,zero:=.bT }
 vJ:E.ty 84 = some { kd:=.jB [(0,82)],size:=1,bytes:=8,zero:=.agg [.bT] }
 AF:E.ty 86 = some { kd:=.jB [(0,84)],size:=1,bytes:=8,zero:=.agg [.bT] }
 eU:E.ty 46 = some { kd:=.jB [(0,4),(1,9)],size:=2,bytes:=24,zero:=.agg [.bool false,.str []] }
 LU:E.ty 118 = some { kd:=.ptr 84,size:=1,bytes:=8,zero:=.fF }
 P_:E.eqs 46 = some [.bool,.str]
 hs87:E.hspec 87 = some (l_ 46 [129] [] 89)
 hs20:E.hspec 20 = none
 OW:E.spec 20 = none
 fn20:E.fn 20 = some (aA Tryz.f20)
 md20:E.mode 20 = .fG
 hs42:E.hspec 42 = none
 sp42:E.spec 42 = none
 fn42:E.fn 42 = some (aA Tryz.f42)
 md42:E.mode 42 = .fG
 hs41:E.hspec 41 = none
 sp41:E.spec 41 = none
 fn41:E.fn 41 = some (aA Tryz.f41)
 md41:E.mode 41 = .fG
 hs44:E.hspec 44 = none
 sp44:E.spec 44 = none
 fn44:E.fn 44 = some (aA Tryz.f44)
 md44:E.mode 44 = .shared
 VN:E.hspec 71 = none
 Tx:E.spec 71 = none
 Wz:E.fn 71 = some (aA Tryz.f71)
 U0:E.mode 71 = .shared
 hs85:E.hspec 85 = none
 sp85:E.spec 85 = none
 fn85:E.fn 85 = some (aA Tryz.f85)
 md85:E.mode 85 = .shared
 hs50:E.hspec 50 = none
 sp50:E.spec 50 = none
 fn50:E.fn 50 = some (aA Tryz.f50)
 md50:E.mode 50 = .shared
 hs48:E.hspec 48 = none
 sp48:E.spec 48 = none
 fn48:E.fn 48 = some (aA Tryz.f48)
 md48:E.mode 48 = .fG
 hs49:E.hspec 49 = none
 sp49:E.spec 49 = none
 fn49:E.fn 49 = some (aA Tryz.f49)
 md49:E.mode 49 = .fG
 hs142:E.hspec 142 = none
 sp142:E.spec 142 = none
 fn142:E.fn 142 = some (aA Tryz.f142)
 md142:E.mode 142 = .fG
 hs52:E.hspec 52 = none
 sp52:E.spec 52 = none
 fn52:E.fn 52 = some (aA Tryz.f52)
 md52:E.mode 52 = .fG
 hs51:E.hspec 51 = none
 sp51:E.spec 51 = none
 fn51:E.fn 51 = some (aA Tryz.f51)
 md51:E.mode 51 = .fG
 hs89:E.hspec 89 = none
 sp89:E.spec 89 = none
 fn89:E.fn 89 = some (aA Tryz.f89)
 md89:E.mode 89 = .fG
 hs130:E.hspec 130 = none
 sp130:E.spec 130 = none
 fn130:E.fn 130 = some (aA Tryz.f130)
 md130:E.mode 130 = .fG
 hs175:E.hspec 175 = none
 sp175:E.spec 175 = none
 fn175:E.fn 175 = some (aA Tryz.f175)
 md175:E.mode 175 = .fG
 hs88:E.hspec 88 = none
 sp88:E.spec 88 = none
 fn88:E.fn 88 = some (aA Tryz.f88)
 md88:E.mode 88 = .shared
 hs22:E.hspec 22 = none
 OV:E.spec 22 = none
 fn22:E.fn 22 = some (aA Tryz.f22)
 md22:E.mode 22 = .fG
 hs24:E.hspec 24 = none
 OU:E.spec 24 = none
 fn24:E.fn 24 = some (aA Tryz.f24)
 md24:E.mode 24 = .fG
 hs25:E.hspec 25 = none
 OT:E.spec 25 = none
 fn25:E.fn 25 = some (aA Tryz.f25)
 md25:E.mode 25 = .fG
 hs28:E.hspec 28 = none
 Me:E.spec 28 = none
 fn28:E.fn 28 = some (aA Tryz.f28)
 md28:E.mode 28 = .fG
 hs77:E.hspec 77 = none
 sp77:E.spec 77 = none
 fn77:E.fn 77 = some (aA Tryz.f77)
 md77:E.mode 77 = .fG
 hs102:E.hspec 102 = none
 sp102:E.spec 102 = none
 fn102:E.fn 102 = some (aA Tryz.f102)
 md102:E.mode 102 = .fG
 hs141:E.hspec 141 = none
 sp141:E.spec 141 = none
 fn141:E.fn 141 = some (aA Tryz.f141)
 md141:E.mode 141 = .fG
 hs140:E.hspec 140 = none
 sp140:E.spec 140 = none
 fn140:E.fn 140 = some (aA Tryz.f140)
 md140:E.mode 140 = .shared
 hs83:E.hspec 83 = none
 sp83:E.spec 83 = none
 fn83:E.fn 83 = some (aA Tryz.f83)
 md83:E.mode 83 = .fG
 Xx:aM E (cutAt [1,1,1,1,0,1,2,2,1,1,0,2,1] (aA Tryz.f71).code) = true
 XA:aM E (cutAt [1,0] (aA Tryz.f48).code) = true
 d142_1:aM E (cutAt [1,0] (aA Tryz.f142).code) = true
 d24_2:aM E (cutAt [1,1,0,2,2,0,0] (aA Tryz.f24).code) = true
 d24_4:aM E (cutAt [1,1,1,0,0] (aA Tryz.f24).code) = true
 z24_6:hU E (opsOf (cutAt [1,1,1,1,0] (aA Tryz.f24).code)) = .lit
 p24_6:c_ E .lit (opsOf (cutAt [1,1,1,1,0] (aA Tryz.f24).code)) = some [⟨3,4,true,false⟩,⟨3,9,true,false⟩,⟨6,9,true,false⟩]
 d25_6:aM E (cutAt [1,1,0,1,2,2,1,0,2,0] (aA Tryz.f25).code) = true
 XC:aM E (cutAt [1,0,1,2,2,1,0,2,0] (aA Tryz.f28).code) = true
def dN (Z σ':Sg):Prop:=∀ (b t:Nat) (cs:List V) (ex:Bool),Z[b]? = some (.cells t cs ex) -> σ'[b]? = some (.cells t cs ex)
theorem dN.refl (Z:Sg):dN Z Z:=fun _ _ _ _ h=>h
theorem dN.trans {Z Y ρ:Sg} (h:dN Z Y) (k:dN Y ρ):dN Z ρ:=fun b t cs ex e=>k b t cs ex (h b t cs ex e)
theorem mK {Z:Sg} {b:Nat} {o:O} (h:Z[b]? = some o) (Y:Sg):(Z ++ Y)[b]? = some o:=by
 rw [List.getElem?_append_left (List.getElem?_eq_some_iff.1 h).1]; exact h
theorem dN.app (Z Y:Sg):dN Z (Z ++ Y):=fun _ _ _ _ h=>mK h Y
theorem dN.Ew {Z:Sg} {m:Nat} {es es':List (V × V)} (h:Z[m]? = some (.map es)):dN Z (Z.set m (.map es')):=fun b t cs ex e=>by
 by_cases hb:m = b
 ·subst hb; rw [h] at e; cases e
 ·rw [List.getElem?_set_ne hb]; exact e
def SV (Z:Sg) (v:V) (l:List a_):Prop:=
 (v = .aD /\ l = []) \/ (∃ g full,v = .bR g (l.map row) full) \/ ∃ b cs ex,v = .sl b 0 l.length none /\ Z[b]? = some (.cells 46 cs ex) /\ cs.take (l.length * 2) = l.flatMap row
def LV (v:V) (l:List a_):Prop:=(v = .aD /\ l = []) \/ ∃ g full,v = .bR g (l.map row) full
theorem LV.sv {v:V} {l:List a_} (h:LV v l) (Z:Sg):SV Z v l:=h.imp id .inl
theorem SV.keep {Z σ':Sg} {v:V} {l:List a_} (h:SV Z v l) (k:dN Z σ'):SV σ' v l:=by
 rcases h with h | h | ⟨b,cs,ex,h1,h2,h3⟩
 ·exact .inl h
 ·exact .inr (.inl h)
 ·exact .inr (.inr ⟨b,cs,ex,h1,k _ _ _ _ h2,h3⟩)
theorem pB:∀ l:List a_,(l.flatMap row).length = l.length * 2
 | []=>rfl
 | x :: l=>by rw [List.flatMap_cons,List.length_append,pB l,List.length_cons]; show 2 + _ = _; omega
theorem NH (l:List a_):(l.map row).flatten = l.flatMap row:=by rw [List.flatMap_def]
theorem JN:∀ (l:List a_) (i:Nat) (x:a_),l[i]? = some x -> ((l.flatMap row).drop (i * 2)).take 2 = row x
 | [],i,x,h=>by simp at h
 | y :: l,0,x,h=>by cases h; rfl
 | y :: l,i + 1,x,h=>by
  rw [show (i + 1) * 2 = i * 2 + 2 by omega]
  show ((row y ++ l.flatMap row).drop (i * 2 + 2)).take 2 = _
  rw [Nat.add_comm,<- List.drop_drop]
  exact JN l i x h
theorem xK {f:V -> Option V}:∀ l:List V,(∀ x ∈ l,f x = some x) -> aU f l = some l
 | [],_=>rfl
 | x :: l,h=>by
  rw [aU,h x (List.mem_cons_self ..),xK l fun y hy=>h y (List.mem_cons_of_mem _ hy)]
section
variable {E:Env} {Z:Sg} {K:V -> Sg -> Prop}
theorem R4 (h:eS E) {v:V} {l:List a_} (hv:SV Z v l):lenOf E Z 40 v = some l.length:=by
 unfold lenOf
 rw [h.CV]
 rcases hv with ⟨rfl,rfl⟩ | ⟨g,full,rfl⟩ | ⟨b,cs,ex,rfl,hb,hc⟩
 ·rfl
 ·simp
 ·rfl
theorem Qb (h:eS E) {v:V} {l:List a_} (hv:SV Z v l) {i:Nat} {x:a_} (hx:l[i]? = some x) :
  ∃ a,indexAddr E 40 v (.int .i64 (i:Int)) = some a /\ ∀ σ',dN Z σ' -> loadAt E σ' 46 a = some (.agg [.bool x.1,.str x.2]):=by
 have hi:=(List.getElem?_eq_some_iff.1 hx).1
 rcases hv with ⟨rfl,rfl⟩ | ⟨g,full,rfl⟩ | ⟨b,cs,ex,rfl,hb,hc⟩
 ·simp at hx
 ·have hr:(l.map row)[((i:Nat):Int).toNat]? = some (row x):=by
   rw [Int.toNat_natCast,List.getElem?_map,hx]; rfl
  refine ⟨.dB g (row x),?_,fun σ' _=>?_⟩
  ·unfold indexAddr
   simp only [h.CV,h.eU,hr]
   rw [if_neg (by omega)]
   rfl
  ·unfold loadAt
   simp only [h.eU]
   rfl
 ·refine ⟨.ref b (0 + i * 2),?_,fun σ' k=>?_⟩
  ·unfold indexAddr
   simp only [h.CV,h.eU,Int.toNat_natCast]
   rw [if_neg (by omega),if_pos hi]
  ·have hlen:l.length * 2 <= cs.length:=by
    have:=congrArg List.length hc
    rw [List.length_take,pB] at this
    omega
   unfold loadAt
   simp only [h.eU,k _ _ _ _ hb]
   have e:(cs.drop (0 + i * 2)).take 2 = row x:=by
    have:=JN l i x hx
    rw [<- hc,List.drop_take,List.take_take] at this
    rw [show min 2 (l.length * 2 - i * 2) = 2 by omega] at this
    rw [Nat.zero_add]
    exact this
   rw [show Ax.isAgg (Kd.jB [(0,4),(1,9)]) = true from rfl]
   simp only [if_true]
   rw [if_pos (by omega),e]
   rfl
end
end
end Go.Proofs.YtlbbdpkjeeiahaaGreatDoor.Lb
end
section
set_option maxRecDepth 10000
set_option maxHeartbeats 8000000
set_option linter.unusedVariables false
namespace Go.Proofs.YtlbbdpkjeeiahaaGreatDoor
open Go Go.Ax Go.AxS
section
structure OrL (E:Env):Prop where
 hs3:E.hspec 3 = none
 Mc:E.spec 3 = none
 fn3:E.fn 3 = some (aA Tryz.f3)
 md3:E.mode 3 = .fG
 beg:∀ {Z:Sg} {K:V -> Sg -> Prop},aB E 11 [] Z K = K (.bool true) Z
section
variable {E:Env} {Z:Sg} {K:V -> Sg -> Prop}
theorem Ao {α:Type} {p:α -> Bool}:∀ {l:List α} {k:Nat},bJ p l = some k -> ∀ (j:Nat) (y:α),j < k -> l[j]? = some y -> p y = false
 | [],_,h,_,_,_,_=>by cases h
 | x :: l,k,h,j,y,hj,hy=>by
  rw [bJ] at h
  by_cases hx:p x = true
  ·rw [if_pos hx] at h; cases h; omega
  ·rw [if_neg hx] at h
   cases hf:bJ p l with
   | none=>rw [hf] at h; cases h
   | some m=>
    rw [hf] at h
    cases h
    cases j with
    | zero=>cases hy; simpa using hx
    | succ j=>exact Ao hf j y (Nat.lt_of_succ_lt_succ hj) hy
theorem uQ.all {rs:List aF} {o:List bA} (h:uQ rs o) (hn:(rs.map aF.name).Nodup):∀ x ∈ rs.map aF.name,x ∈ o:=fun x hx=>by
 refine Classical.byContradiction fun hxo=>?_
 have:=uG (a:=x :: o) (b:=rs.map aF.name) (List.nodup_cons.2 ⟨hxo,h.nodup⟩) fun y hy=>by
  rcases List.mem_cons.1 hy with rfl | hy
  ·exact hx
  ·exact h.mem y hy
 rw [List.length_cons,List.length_map,h.len] at this
 omega
theorem uQ.idx {rs:List aF} {o:List bA} (h:uQ rs o) (hn:(rs.map aF.name).Nodup) {r:aF} (hr:r ∈ rs):∃ j,bJ (fun x=>decide (x = r.name)) o = some j /\ o[j]? = some r.name:=by
 obtain ⟨j,hj⟩:=mT (p:=fun x:bA=>decide (x = r.name)) (h.all hn r.name (List.mem_map.2 ⟨r,hr,rfl⟩)) (decide_eq_true rfl)
 obtain ⟨x,h1,h2⟩:=jL hj
 exact ⟨j,hj,by rw [h1,of_decide_eq_true h2]⟩
theorem uQ.lt {rs:List aF} {o:List bA} (h:uQ rs o) {i k j m:Nat} {p q:aF} (hp:rs[i]? = some p) (hq:rs[k]? = some q) (hm:iK rs false i k = true) (hj:o[j]? = some p.name) (hk:bJ (fun x=>decide (x = q.name)) o = some m):m < j:=by
 have hmem:=h.behind i k p q hp hq hm j hj
 obtain ⟨t,ht⟩:=List.mem_iff_getElem?.1 hmem
 have htj:t < j:=by have:=(List.getElem?_eq_some_iff.1 ht).1; rw [List.length_take] at this; omega
 rw [List.getElem?_take_of_lt htj] at ht
 refine Nat.lt_of_le_of_lt (Nat.le_of_not_lt fun hlt=>?_) htj
 have:=Ao hk t q.name hlt ht
 simp at this
end
end
section
section
variable {E:Env} {Z:Sg} {K:V -> Sg -> Prop}
theorem nH {α:Type} {L:Lay α} {t:Nat} {Y:Sg} {w:V} {l:List α} (ow:bO L t Y w l):w.aV = true /\ w.cells = [w]:=by
 rcases ow with ⟨rfl,-⟩ | ⟨b,rs,ex,rfl,-⟩ <;> exact ⟨rfl,rfl⟩
theorem uE {α:Type} {L:Lay α} {t:Nat} {Y:Sg} {w:V} {l:List α} {y:O} (ow:bO L t Y w l) (h:∀ b,bC w = some b -> 2 <= b):bO L t (Y.set 0 y) w l:=ow.keep fun c o hc ho=>by
 rw [List.getElem?_set_ne (by have:=h c hc; omega)]; exact ho
theorem sZ {α:Type} {L:Lay α} {t:Nat} {Y:Sg} {w:V} {l:List α} {b:Nat} (ow:bO L t Y w l) (h:bC w = some b):b < Y.length:=by
 rcases ow with ⟨rfl,-⟩ | ⟨b',rs,ex,rfl,hb,-⟩
 ·cases h
 ·cases h
  exact (List.getElem?_eq_some_iff.1 hb).1
theorem EO {Y τ':Sg} (h:Kp Y τ'):Y.length <= τ'.length:=by
 refine Nat.le_of_not_lt fun hlt=>?_
 obtain ⟨o,ho⟩:∃ o,Y[τ'.length]? = some o:=⟨_,List.getElem?_eq_getElem hlt⟩
 exact absurd (List.getElem?_eq_some_iff.1 (h _ _ ho)).1 (Nat.lt_irrefl _)
theorem XK (h:bK E) (h':sM E) {x:aF} {a b c d:V} (ia:IS aK a x.ins) (ib:IS aK b x.outs) (ic:IS aK c x.after) (id:IS eW d x.steps) (hs:Small x) (F:FT) (g1:F.get 1 = .ref 0 0) {st:List mE} {Q:Ax.X -> Fr -> Sg -> Prop}
  (hk:∀ F' Y w1 w2 w3 w4,F'.get 1 = .ref 0 0 -> F'.get 2 = F.get 2 -> Y[0]? = some (O.cells 37 [.str x.name,w1,w2,w3,w4] true) -> Y[1]? = some (O.cells 37 [.str [],.aD,.aD,.aD,.aD] true) -> bO aK 9 Y w1 x.ins -> bO aK 9 Y w2 x.outs -> bO aK 9 Y w3 x.after -> bO eW 75 Y w4 x.steps -> (∀ b,bC w4 = some b -> 2 <= b /\ bC w1 ≠ some b /\ bC w2 ≠ some b /\ bC w3 ≠ some b) -> M E st .normal ⟨52,F'⟩ Y Q) :
  R E (.region 1 (opsOf (cutAt [1,0] (aA Tryz.f70).code)) true) st ⟨52,F⟩ [O.cells 37 [.str x.name,a,b,c,d] true,O.cells 37 [.str [],.aD,.aD,.aD,.aD] true] Q:=by
 have l1:=hs.ins
 have l2:=hs.outs
 have l3:=hs.after
 have l4:=hs.steps
 obtain ⟨n1,w1,τ1,⟨ow1,kp1,fr1⟩,c1⟩:=aB.up (rV (Z:=[O.cells 37 [.str x.name,a,b,c,d] true,O.cells 37 [.str [],.aD,.aD,.aD,.aD] true]) h ia (by omega))
 obtain ⟨n2,w2,τ2,⟨ow2,kp2,fr2⟩,c2⟩:=aB.up (rV (Z:=τ1) h ib (by omega))
 obtain ⟨n3,w3,τ3,⟨ow3,kp3,fr3⟩,c3⟩:=aB.up (rV (Z:=τ2) h ic (by omega))
 obtain ⟨n4,w4,τ4,⟨ow4,kp4,fr4⟩,c4⟩:=aB.up (Lz (Z:=τ3) h h' id (by omega))
 have c1:=c1 (n1 + n2 + n3 + n4) (by omega)
 have c2:=c2 (n1 + n2 + n3 + n4) (by omega)
 have c3:=c3 (n1 + n2 + n3 + n4) (by omega)
 have c4:=c4 (n1 + n2 + n3 + n4) (by omega)
 generalize n1 + n2 + n3 + n4 = n at c1 c2 c3 c4
 have k0:∀ Y:Sg,Kp [O.cells 37 [.str x.name,a,b,c,d] true,O.cells 37 [.str [],.aD,.aD,.aD,.aD] true] Y -> Y[0]? = some (O.cells 37 [.str x.name,a,b,c,d] true) /\ Y[1]? = some (O.cells 37 [.str [],.aD,.aD,.aD,.aD] true):=fun Y hk=>⟨hk 0 _ rfl,hk 1 _ rfl⟩
 have q2:Kp [O.cells 37 [.str x.name,a,b,c,d] true,O.cells 37 [.str [],.aD,.aD,.aD,.aD] true] τ2:=fun c o e=>kp2 c o (kp1 c o e)
 have q3:Kp [O.cells 37 [.str x.name,a,b,c,d] true,O.cells 37 [.str [],.aD,.aD,.aD,.aD] true] τ3:=fun c o e=>kp3 c o (q2 c o e)
 have q4:Kp [O.cells 37 [.str x.name,a,b,c,d] true,O.cells 37 [.str [],.aD,.aD,.aD,.aD] true] τ4:=fun c o e=>kp4 c o (q3 c o e)
 obtain ⟨b1,z1⟩:=k0 τ1 kp1
 obtain ⟨b2,z2⟩:=k0 τ2 q2
 obtain ⟨b3,z3⟩:=k0 τ3 q3
 obtain ⟨b4,z4⟩:=k0 τ4 q4
 have hlt4:=(List.getElem?_eq_some_iff.1 b4).1
 have s1:∀ y,(τ4.set 0 y)[0]? = some y:=fun y=>List.getElem?_set_self hlt4
 obtain ⟨o1,t1⟩:=nH ow1
 obtain ⟨o2,t2⟩:=nH ow2
 obtain ⟨o3,t3⟩:=nH ow3
 obtain ⟨o4,t4⟩:=nH ow4
 have v1:=b_ 10 ia
 have v2:=b_ 10 ib
 have v3:=b_ 10 ic
 have v4:=nR 9 id
 have key:∃ F',cG E (ev E n) (opsOf (cutAt [1,0] (aA Tryz.f70).code)) ⟨52,F⟩ [O.cells 37 [.str x.name,a,b,c,d] true,O.cells 37 [.str [],.aD,.aD,.aD,.aD] true] = some (⟨52,F'⟩,τ4.set 0 (O.cells 37 [.str x.name,w1,w2,w3,w4] true)) /\ F'.get 1 = .ref 0 0 /\ F'.get 2 = F.get 2:=by
  unfold cG
  rw [h'.Tp,h'.UP]
  simp only [aA,Tryz.f70,KP,Ax.loadAt,Ax.storeAt,↓reduceIte,Nat.reduceEqDiff,Nat.reduceLT,Nat.reduceLeDiff,Nat.reduceAdd,reduceCtorEq,h.aX,h.fH,h.bG,opsOf,cutAt,iD,bH,bY,kB,Ax.comp,Ax.last,iG,Ax.again,g1,c1,c2,c3,c4,b1,b2,b3,b4,s1,o1,o2,o3,o4,t1,t2,t3,t4,v2,v3,v4,List.set_set]
  exact ⟨_,rfl,(by simp +decide only [GS,g1,and_self])⟩
 obtain ⟨F',hD,f1,f2⟩:=key
 have n1:=EO kp1
 have n2:=EO kp2
 have n3:=EO kp3
 have n0:([O.cells 37 [.str x.name,a,b,c,d] true,O.cells 37 [.str [],.aD,.aD,.aD,.aD] true]:Sg).length = 2:=rfl
 rw [n0] at n1 fr1
 have k2:∀ b,bC w2 = some b -> 2 <= b:=fun b hb=>by have:=fr2 b hb; omega
 have k3:∀ b,bC w3 = some b -> 2 <= b:=fun b hb=>by have:=fr3 b hb; omega
 have k4:∀ b,bC w4 = some b -> 2 <= b:=fun b hb=>by have:=fr4 b hb; omega
 refine Eq.mpr (iX hD) (hk F' _ w1 w2 w3 w4 f1 f2 (s1 _) (by rw [List.getElem?_set_ne (by decide)]; exact z4) (uE (ow1.keep fun c o _ hc=>kp4 c o (kp3 c o (kp2 c o hc))) fr1) (uE (ow2.keep fun c o _ hc=>kp4 c o (kp3 c o hc)) k2) (uE (ow3.keep fun c o _ hc=>kp4 c o hc) k3) (uE ow4 k4) fun b hb=>⟨k4 b hb,fun e=>?_,fun e=>?_,fun e=>?_⟩)
 ·have:=fr4 b hb; have:=sZ ow1 e; omega
 ·have:=fr4 b hb; have:=sZ ow2 e; omega
 ·have:=fr4 b hb; have:=sZ ow3 e; omega
end
end
section
section
variable {E:Env} {Z:Sg} {K:V -> Sg -> Prop}
theorem zI {k:Nat} (hk:k < 5):∀ {R:List (List V)} {i:Nat} {r:List V},(∀ x ∈ R,x.length = 5) -> R[i]? = some r -> R.flatten[i * 5 + k]? = r[k]?
 | [],_,_,_,h=>by cases h
 | x :: R,0,r,hx,h=>by
  cases h
  rw [List.flatten_cons,Nat.zero_mul,Nat.zero_add,List.getElem?_append_left (by rw [hx _ (List.mem_cons_self ..)]; exact hk)]
 | x :: R,i + 1,r,hx,h=>by
  have hl:=hx _ (List.mem_cons_self ..)
  rw [List.flatten_cons,List.getElem?_append_right (by omega),show (i + 1) * 5 + k - x.length = i * 5 + k by omega]
  exact zI hk (fun y hy=>hx y (List.mem_cons_of_mem _ hy)) h
theorem D1 {k:Nat} {v:V} (hk:k < 5):∀ {R:List (List V)} {i:Nat} {r:List V},(∀ x ∈ R,x.length = 5) -> R[i]? = some r -> setCells R.flatten (i * 5 + k) [v] = (R.set i (r.set k v)).flatten
 | [],_,_,_,h=>by cases h
 | x :: R,0,r,hx,h=>by
  cases h
  have hl:=hx _ (List.mem_cons_self ..)
  rw [List.set_cons_zero,List.flatten_cons,List.flatten_cons,Nat.zero_mul,Nat.zero_add]
  unfold setCells
  rw [List.take_append_of_le_length (by omega),List.drop_append_of_le_length (by rw [List.length_singleton]; omega),List.set_eq_take_append_cons_drop,if_pos (by omega)]
  simp
 | x :: R,i + 1,r,hx,h=>by
  have hl:=hx _ (List.mem_cons_self ..)
  have ih:=D1 (v:=v) hk (fun y hy=>hx y (List.mem_cons_of_mem _ hy)) h
  rw [List.set_cons_succ,List.flatten_cons,List.flatten_cons,<- ih]
  unfold setCells
  rw [List.take_append,List.take_of_length_le (by omega),show (i + 1) * 5 + k - x.length = i * 5 + k by omega,List.drop_append,List.drop_of_length_le (by omega),show (i + 1) * 5 + k + [v].length - x.length = i * 5 + k + [v].length by omega]
  simp
theorem HZ (h:bK E) {Y:Sg} {b i k:Nat} {R:List (List V)} {r:List V} {v:V} {ex:Bool} (hb:Y[b]? = some (.cells 75 R.flatten ex)) (hx:∀ x ∈ R,x.length = 5) (hr:R[i]? = some r) (hk:k < 5) (hv:r[k]? = some v):loadAt E Y 28 (.ref b (i * 5 + k)) = some v:=by
 unfold Ax.loadAt
 simp only [h.aX,hb,zI hk hx hr,hv,Ax.isAgg]
 rfl
theorem L1 (h:bK E) {Y:Sg} {b i k:Nat} {R:List (List V)} {r:List V} {v:V} {ex:Bool} (hb:Y[b]? = some (.cells 75 R.flatten ex)) (hx:∀ x ∈ R,x.length = 5) (hr:R[i]? = some r) (hk:k < 5) (hc:v.cells = [v]) (ho:v.aV = true):storeAt E Y 28 (.ref b (i * 5 + k)) v = some (Y.set b (.cells 75 (R.set i (r.set k v)).flatten ex)):=by
 unfold Ax.storeAt
 have hl:i * 5 + k + 1 <= R.flatten.length:=by
  have:=zI hk hx hr
  have hrl:=hx r (List.mem_of_getElem? hr)
  rw [List.getElem?_eq_getElem (show k < r.length by omega)] at this
  have:=(List.getElem?_eq_some_iff.1 this).1
  omega
 simp only [h.aX,hb,hc,List.length_cons,List.length_nil,List.all_cons,List.all_nil,ho,decide_eq_true hl,D1 hk hx hr]
 rfl
theorem Sq (h:bK E) {b n i:Nat} (hi:i < n):indexAddr E 35 (.sl b 0 n none) (.int .i64 (i:Int)) = some (.ref b (i * 5)):=by
 unfold Ax.indexAddr
 simp only [h.fH,h.cN,show ¬ ((i:Int) < 0) by omega,if_false,Int.toNat_natCast,hi,if_true,Nat.zero_add]
theorem My {R:List (List V)} {i k:Nat} {r:List V} {v:V} (hx:∀ x ∈ R,x.length = 5) (hr:R[i]? = some r):∀ x ∈ R.set i (r.set k v),x.length = 5:=fun x hm=>by
 rcases List.mem_or_eq_of_mem_set hm with hm | rfl
 ·exact hx x hm
 ·rw [List.length_set]; exact hx r (List.mem_of_getElem? hr)
theorem XJ (h:bK E) (h':sM E) {x:aF} {w1 w2 w3 p q:V} {s:AxS.Step} {b n i:Nat} {R:List (List V)} {ex:Bool} {Y:Sg} (h0:Y[0]? = some (O.cells 37 [.str x.name,w1,w2,w3,.sl b 0 n none] true)) (hb:Y[b]? = some (.cells 75 R.flatten ex)) (hx:∀ x ∈ R,x.length = 5) (hr:R[i]? = some ([.str s.out,.int .i64 s.op,p,q,.int .i64 s.n])) (hi:i < n) (ip:IS aK p s.args) (iq:IS aK q s.lits) (l1:s.args.length <= 8) (l2:s.lits.length <= 3) (hb2:2 <= b)
  (F:FT) (g1:F.get 1 = .ref 0 0) (g3:F.get 3 = .int .i64 (i:Int)) {st:List mE} {Q:Ax.X -> Fr -> Sg -> Prop}
  (hk:∀ F' τ' wp wq,(∀ k,k ∈ [1,2,22,23] -> F'.get k = F.get k) -> τ'[b]? = some (.cells 75 (R.set i ([.str s.out,.int .i64 s.op,wp,wq,.int .i64 s.n])).flatten ex) -> bO aK 9 τ' wp s.args -> bO aK 9 τ' wq s.lits -> (∀ (c:Nat) (o:O),Y[c]? = some o -> c ≠ b -> τ'[c]? = some o) -> (∀ c,bC wp = some c -> Y.length <= c) -> (∀ c,bC wq = some c -> Y.length <= c) -> M E st .normal ⟨52,F'⟩ τ' Q) :
  Ax.R E (.region 5 (opsOf (cutAt [1,1,0,1,2,2,1,1,0,2,1] (aA Tryz.f70).code)) true) st ⟨52,F⟩ Y Q:=by
 obtain ⟨n1,wp,τ1,⟨ow1,kp1,fr1⟩,c1⟩:=aB.up (rV (Z:=Y) h ip (by omega))
 obtain ⟨n2,wq,τ2,⟨ow2,kp2,fr2⟩,c2⟩:=aB.up (rV (Z:=τ1) h iq (by omega))
 have c1:=c1 (n1 + n2) (by omega)
 have c2:=c2 (n1 + n2) (by omega)
 generalize n1 + n2 = m at c1 c2
 have h01:=kp1 _ _ h0
 have h02:=kp2 _ _ h01
 have hb1:=kp1 _ _ hb
 have hb2':=kp2 _ _ hb1
 obtain ⟨o1,t1⟩:=nH ow1
 obtain ⟨o2,t2⟩:=nH ow2
 have e1:=Sq h hi (b:=b) (n:=n)
 have f1:=HZ h hb hx hr (k:=2) (by decide) rfl
 have f2:=HZ h hb1 hx hr (k:=3) (by decide) rfl
 have f2'':=HZ h hb hx hr (k:=3) (by decide) rfl
 have s1:=L1 h hb2' hx hr (k:=2) (v:=wp) (by decide) t1 o1
 have hbl:=(List.getElem?_eq_some_iff.1 hb2').1
 have hR:(R.set i ([.str s.out,.int .i64 s.op,wp,q,.int .i64 s.n]))[i]? = some ([.str s.out,.int .i64 s.op,wp,q,.int .i64 s.n]):=List.getElem?_set_self (List.getElem?_eq_some_iff.1 hr).1
 have s2:=L1 h (Y:=τ2.set b (.cells 75 (R.set i ([.str s.out,.int .i64 s.op,wp,q,.int .i64 s.n])).flatten ex)) (v:=wq) (List.getElem?_set_self hbl) (My (k:=2) (v:=wp) hx hr) hR (k:=3) (by decide) t2 o2
 have s1:storeAt E τ2 28 (.ref b (i * 5 + 2)) wp = some (τ2.set b (.cells 75 (R.set i ([.str s.out,.int .i64 s.op,wp,q,.int .i64 s.n])).flatten ex)):=s1
 have s2:storeAt E (τ2.set b (.cells 75 (R.set i ([.str s.out,.int .i64 s.op,wp,q,.int .i64 s.n])).flatten ex)) 28 (.ref b (i * 5 + 3)) wq = some (τ2.set b (.cells 75 (R.set i ([.str s.out,.int .i64 s.op,wp,wq,.int .i64 s.n])).flatten ex)):=by
  rw [s2,List.set_set,List.set_set]
  rfl
 have lw:loadAt E Y 35 (.ref 0 4) = some (.sl b 0 n none):=by unfold Ax.loadAt; simp only [h.fH,h0]; rfl
 have lw1:loadAt E τ1 35 (.ref 0 4) = some (.sl b 0 n none):=by unfold Ax.loadAt; simp only [h.fH,h01]; rfl
 have lw2:loadAt E τ2 35 (.ref 0 4) = some (.sl b 0 n none):=by unfold Ax.loadAt; simp only [h.fH,h02]; rfl
 have lw3:∀ y,loadAt E (τ2.set b y) 35 (.ref 0 4) = some (.sl b 0 n none):=fun y=>by
  have h03:(τ2.set b y)[0]? = some (O.cells 37 [.str x.name,w1,w2,w3,.sl b 0 n none] true):=by rw [List.getElem?_set_ne (by omega)]; exact h02
  unfold Ax.loadAt; simp only [h.fH,h03]; rfl
 have vq:=b_ 10 iq
 have v0:sJ 12 (.sl b 0 n none) (.sl b 0 n none) = true:=by unfold sJ; simp
 have key:∃ F',cG E (ev E m) (opsOf (cutAt [1,1,0,1,2,2,1,1,0,2,1] (aA Tryz.f70).code)) ⟨52,F⟩ Y = some (⟨52,F'⟩,τ2.set b (.cells 75 (R.set i ([.str s.out,.int .i64 s.op,wp,wq,.int .i64 s.n])).flatten ex)) /\ (∀ k,k ∈ [1,2,22,23] -> F'.get k = F.get k):=by
  unfold cG
  rw [h'.To,h'.UO]
  simp only [aA,Tryz.f70,KP,↓reduceIte,Nat.reduceEqDiff,Nat.reduceLT,Nat.reduceAdd,reduceCtorEq,h.aX,h.fH,h.bG,h.cN,opsOf,cutAt,iD,bH,bY,kB,Ax.comp,Ax.last,iG,Ax.again,g1,g3,c1,c2,lw,lw1,lw2,lw3,e1,f1,f2,f2'',s1,s2,vq,v0]
  refine ⟨_,rfl,fun k hk=>?_⟩
  simp only [List.mem_cons,List.not_mem_nil,or_false] at hk
  rcases hk with rfl | rfl | rfl | rfl <;> simp +decide only [GS]
 obtain ⟨F',hD,hF⟩:=key
 have hlen1:=EO kp1
 have hne:∀ {w:V},(∀ c,bC w = some c -> Y.length <= c) -> bC w ≠ some b:=fun hfr e=>by
  have:=hfr b e
  have:=(List.getElem?_eq_some_iff.1 hb).1
  omega
 have fr2':∀ c,bC wq = some c -> Y.length <= c:=fun c hc=>by have:=fr2 c hc; omega
 refine Eq.mpr (iX hD) (hk F' _ wp wq hF (List.getElem?_set_self hbl) (bO.set (ow1.keep fun c o _ hc=>kp2 c o hc) (hne fr1)) (bO.set ow2 (hne fr2')) (fun c o hc hcb=>?_) fr1 fr2')
 rw [List.getElem?_set_ne (Ne.symm hcb)]
 exact kp2 _ _ (kp1 _ _ hc)
end
end
section
section
variable {E:Env} {Z:Sg} {K:V -> Sg -> Prop}
theorem G6 {β γ:Type} {P:β -> γ -> Prop}:∀ {a:List β} {b:List γ},eT P a b -> ∀ {j:Nat} {y:γ},b[j]? = some y -> ∃ x,a[j]? = some x /\ P x y
 | _,_,.nil,_,_,h=>by cases h
 | _ :: _,_ :: _,.cons h t,0,_,e=>by cases e; exact ⟨_,rfl,h⟩
 | _ :: _,_ :: _,.cons h t,j + 1,_,e=>by
  obtain ⟨x,h1,h2⟩:=G6 t (j:=j) e
  exact ⟨x,h1,h2⟩
structure Oz (Y:Sg) (b i:Nat) (R:List (List V)) (ex:Bool) (steps:List AxS.Step):Prop where
 hb:Y[b]? = some (.cells 75 R.flatten ex)
 len:R.length = steps.length
 Ih:∀ x ∈ R,x.length = 5
 row:∀ (j:Nat) (s:AxS.Step),steps[j]? = some s -> ∃ p q,R[j]? = some ([.str s.out,.int .i64 s.op,p,q,.int .i64 s.n]) /\ (j < i -> bO aK 9 Y p s.args /\ bO aK 9 Y q s.lits /\ bC p ≠ some b /\ bC q ≠ some b) /\ (i <= j -> IS aK p s.args /\ IS aK q s.lits)
theorem Oz.start {Y:Sg} {b:Nat} {rs:List (List V)} {ex:Bool} {steps:List AxS.Step} (hb:Y[b]? = some (.cells 75 rs.flatten ex)) (ha:eT eW.P rs steps):Oz Y b 0 rs ex steps:=by
 refine ⟨hb,ha.len,Lay.lens ha,fun j s hj=>?_⟩
 obtain ⟨r,h1,a,l,rfl,h2,h3⟩:=G6 ha hj
 exact ⟨a,l,h1,fun h=>by omega,fun _=>⟨h2,h3⟩⟩
theorem Oz.step {Y τ':Sg} {b i:Nat} {R:List (List V)} {ex:Bool} {steps:List AxS.Step} {s:AxS.Step} {wp wq:V} (h:Oz Y b i R ex steps) (hs:steps[i]? = some s) (hb:τ'[b]? = some (.cells 75 (R.set i ([.str s.out,.int .i64 s.op,wp,wq,.int .i64 s.n])).flatten ex)) (o1:bO aK 9 τ' wp s.args) (o2:bO aK 9 τ' wq s.lits) (k:∀ (c:Nat) (o:O),Y[c]? = some o -> c ≠ b -> τ'[c]? = some o) (f1:∀ c,bC wp = some c -> Y.length <= c) (f2:∀ c,bC wq = some c -> Y.length <= c):Oz τ' b (i + 1) (R.set i ([.str s.out,.int .i64 s.op,wp,wq,.int .i64 s.n])) ex steps:=by
 have hbl:=(List.getElem?_eq_some_iff.1 h.hb).1
 have hil:i < R.length:=by rw [h.len]; exact (List.getElem?_eq_some_iff.1 hs).1
 refine ⟨hb,by rw [List.length_set]; exact h.len,fun x hx=>?_,fun j t hj=>?_⟩
 ·rcases List.mem_or_eq_of_mem_set hx with hx | rfl
  ·exact h.Ih x hx
  ·rfl
 ·by_cases hij:i = j
  ·subst hij
   rw [hs] at hj
   cases hj
   refine ⟨wp,wq,List.getElem?_set_self hil,fun _=>⟨o1,o2,fun e=>?_,fun e=>?_⟩,fun h=>by omega⟩
   ·have:=f1 b e; omega
   ·have:=f2 b e; omega
  ·obtain ⟨p,q,h1,h2,h3⟩:=h.row j t hj
   refine ⟨p,q,by rw [List.getElem?_set_ne hij]; exact h1,fun hlt=>?_,fun hle=>h3 (by omega)⟩
   obtain ⟨a1,a2,a3,a4⟩:=h2 (by omega)
   exact ⟨a1.keep fun c o hc ho=>k c o ho (fun e=>a3 (by rw [hc,e])),a2.keep fun c o hc ho=>k c o ho (fun e=>a4 (by rw [hc,e])),a3,a4⟩
theorem RY {Y:Sg} {w:V} {l:List bA} (ow:bO aK 9 Y w l):OL Y w l:=by
 rcases ow with h | ⟨b,rs,ex,rfl,hb,ha⟩
 ·exact .inl h
 ·obtain rfl:=A0 ha
  rw [Cn] at hb
  exact .inr ⟨b,_,ex,rfl,hb,List.take_of_length_le (by rw [List.length_map]; exact Nat.le_refl _)⟩
theorem OO {v:V} {l:List bA} (h:QZ v l):jY aK v l:=by
 rcases h with h | ⟨full,rfl⟩
 ·exact .inl h
 ·exact .inr ⟨_,full,rfl,yN l⟩
theorem Bu (h:bK E) {Y:Sg} {w:V} {l:List bA} {m:Nat} (ow:bO aK 9 Y w l):∃ v',bS Y E.ty false (m + 2) w = some v' /\ cO false v' = true /\ jY aK v' l:=by
 obtain ⟨v',h1,h2⟩:=(RY ow).snap (m:=m) h
 exact ⟨v',h1,h2.tag,OO h2⟩
theorem Gg {α β:Type} {f:α -> Option β}:∀ {a:List α} {a':List β} {b:List α} {b':List β},aU f a = some a' -> aU f b = some b' -> aU f (a ++ b) = some (a' ++ b')
 | [],a',b,b',h1,h2=>by cases h1; exact h2
 | x :: a,a',b,b',h1,h2=>by
  rw [aU] at h1
  cases hx:f x with
  | none=>rw [hx] at h1; cases h1
  | some y=>
   cases hm:aU f a with
   | none=>rw [hx,hm] at h1; cases h1
   | some l=>
    rw [hx,hm] at h1
    cases h1
    rw [List.cons_append,aU,hx,Gg hm h2]
    rfl
theorem FA (h:bK E) {Y:Sg} {b n:Nat} {R:List (List V)} {ex:Bool} {steps:List AxS.Step} (hs:Oz Y b n R ex steps) (hn:n = steps.length):∃ v',bS Y E.ty false 12 (.sl b 0 n none) = some v' /\ cO false v' = true /\ jY f_ v' steps:=by
 have key:∀ (R:List (List V)) (steps:List AxS.Step),R.length = steps.length -> (∀ (j:Nat) (s:AxS.Step),steps[j]? = some s -> ∃ p q,R[j]? = some ([.str s.out,.int .i64 s.op,p,q,.int .i64 s.n]) /\ bO aK 9 Y p s.args /\ bO aK 9 Y q s.lits) -> ∃ R',aU (fun v=>match bS Y E.ty false 11 v with
   | some v=>if cO false v then some v else Ax.no "snap: borrowed"
   | none=>none) R.flatten = some R'.flatten /\ eT f_.P R' steps:=by
  intro R
  induction R with
  | nil=>
   intro steps hl _
   have:steps = []:=List.eq_nil_of_length_eq_zero hl.symm
   subst this
   exact ⟨[],rfl,.nil⟩
  | cons r R ih=>
   intro steps hl hr
   cases steps with
   | nil=>cases hl
   | cons s steps=>
    obtain ⟨R',m1,a1⟩:=ih steps (by simpa using hl) fun j t hj=>hr (j + 1) t hj
    obtain ⟨p,q,h1,h2,h3⟩:=hr 0 s rfl
    cases h1
    obtain ⟨p',e1,t1,i1⟩:=Bu (m:=9) h h2
    obtain ⟨q',e2,t2,i2⟩:=Bu (m:=9) h h3
    refine ⟨([.str s.out,.int .i64 s.op,p',q',.int .i64 s.n]) :: R',?_,.cons ⟨p',q',rfl,i1,i2⟩ a1⟩
    rw [List.flatten_cons,List.flatten_cons]
    refine Gg ?_ m1
    have es:∀ z:bA,bS Y E.ty false 11 (.str z) = some (.str z):=fun z=>jN rfl
    have ei:∀ z:Int,bS Y E.ty false 11 (.int .i64 z) = some (.int .i64 z):=fun z=>jN rfl
    have ts:∀ z:bA,cO false (.str z) = true:=fun _=>rfl
    have ti:∀ z:Int,cO false (.int .i64 z) = true:=fun _=>rfl
    simp only [aU,es,ei,ts,ti,e1,e2,t1,t2,if_true]
 obtain ⟨R',m1,a1⟩:=key R steps hs.len fun j s hj=>by
  obtain ⟨p,q,h1,h2,-⟩:=hs.row j s hj
  obtain ⟨a1,a2,-⟩:=h2 (by have:=(List.getElem?_eq_some_iff.1 hj).1; omega)
  exact ⟨p,q,h1,a1,a2⟩
 have hfl:R.flatten.length = n * 5:=by rw [mS R hs.Ih,hs.len,hn]
 have htk:(R.flatten.drop 0).take (n * 5) = R.flatten:=by rw [List.drop_zero,List.take_of_length_le (by omega)]
 refine ⟨.bR false R' (ex && decide (0 < 5) && (0 + n * 5 == R.flatten.length)),?_,rfl,.inr ⟨R',_,rfl,a1⟩⟩
 rw [bS]
 simp only [hs.hb,h.cN]
 rw [if_pos (by omega)]
 have m2:aU (fun v=>match bS Y E.ty false 11 v with
   | some v=>if cO false v then some v else Ax.no "snap: borrowed"
   | none=>none) ((R.flatten.drop 0).take (n * 5)) = some R'.flatten:=by rw [htk]; exact m1
 refine Eq.trans (congrArg (fun o=>match o with
  | some l=>some (V.bR false (Ax.rows 5 n l) (ex && decide (0 < 5) && (0 + n * 5 == R.flatten.length)))
  | none=>none) m2) ?_
 show some (V.bR false (Ax.rows 5 n R'.flatten) _) = _
 have hl':n = R'.length:=by rw [a1.len,hn]
 rw [hl',show Ax.rows 5 R'.length R'.flatten = R' from lA (sz:=5) R' (Lay.lens (L:=f_) a1)]
end
end
section
section
variable {E:Env} {Z:Sg} {K:V -> Sg -> Prop}
def LF (v:V) (x:aF):Prop:=∃ a b c d,v = .agg [.str x.name,a,b,c,d] /\ jY aK a x.ins /\ jY aK b x.outs /\ jY aK c x.after /\ jY f_ d x.steps
theorem pR (h:bK E) {Y:Sg} {w:V} {l:List bA} (ow:bO aK 9 Y w l):∃ v',aZ.one Y E.ty false w = some v' /\ jY aK v' l:=by
 obtain ⟨v',h1,h2,h3⟩:=Bu (m:=10) h ow
 refine ⟨v',?_,h3⟩
 unfold aZ.one
 rw [show dV = 10 + 2 from rfl,h1]
 simp only [h2,if_true]
theorem Oz.VI {Y:Sg} {b i u:Nat} {R:List (List V)} {ex:Bool} {steps:List AxS.Step} {cs:List V} {y:O} (h:Oz Y b i R ex steps) (hz:Y[1]? = some (.cells u cs true)) (hu:u ≠ 9) (hb:2 <= b):Oz (Y.set 1 y) b i R ex steps:=by
 refine ⟨by rw [List.getElem?_set_ne (by omega)]; exact h.hb,h.len,h.Ih,fun j s hj=>?_⟩
 obtain ⟨p,q,h1,h2,h3⟩:=h.row j s hj
 refine ⟨p,q,h1,fun hlt=>?_,h3⟩
 obtain ⟨a1,a2,a3,a4⟩:=h2 hlt
 exact ⟨bO.set a1 (kM hz hu a1),bO.set a2 (kM hz hu a2),a3,a4⟩
theorem G0 (h:bK E) (h':sM E) {v:V} {x:aF} (hv:G_ v x) (hs:Small x):aB E 70 [v] Z fun v σ'=>σ' = Z /\ LF v x:=by
 have ev:=hv.snap (E:=E) Z
 obtain ⟨a,b,c,d,rfl,ia,ib,ic,id⟩:=hv
 have o1:=aI ia.bB
 have o2:=aI ib.bB
 have o3:=aI ic.bB
 have o4:=aI id.bB
 have l4:=hs.steps
 rw [aH h'.hs70 h'.sp70 h'.fn70 h'.md70 (args':=[.agg [.str x.name,a,b,c,d]]) (by simp only [aU,ev]),aW (by kernel_rfl)]
 simp only [aA,Tryz.f70,KP,↓reduceIte,Nat.reduceLT,Nat.reduceAdd,h.bG,o1,o2,o3,o4]
 refine XK h h' ia ib ic id hs _ ?_ ?_
 ·exact (by simp +decide only [GS])
 intro F1 τ1 w1 w2 w3 w4 g1 g2 b0 z0 ow1 ow2 ow3 ow4 sep
 have g2:F1.get 2 = .ref 1 0:=g2.trans (by simp +decide only [GS])
 obtain ⟨k1,t1⟩:=nH ow1
 obtain ⟨k2,t2⟩:=nH ow2
 obtain ⟨k3,t3⟩:=nH ow3
 rcases ow4 with ⟨rfl,hst⟩ | ⟨b4,rs,ex,rfl,hb,ha⟩
 ·have ln:∀ Z,lenOf E Z 35 .aD = some 0:=fun Z=>by unfold lenOf; rw [h.fH]
  simp only [KP,Ax.loadAt,↓reduceIte,Nat.reduceLT,reduceCtorEq,h.fH,h.bG,g1,b0,ln]
  rw [aG]
  have hz1:=(List.getElem?_eq_some_iff.1 z0).1
  have s1:∀ y,(τ1.set 1 y)[1]? = some y:=fun y=>List.getElem?_set_self hz1
  obtain ⟨a',e1,j1⟩:=pR h (bO.set (y:=O.cells 37 [.str x.name,w1,w2,w3,.aD] true) ow1 (kM z0 (by decide) ow1))
  obtain ⟨b',e2,j2⟩:=pR h (bO.set (y:=O.cells 37 [.str x.name,w1,w2,w3,.aD] true) ow2 (kM z0 (by decide) ow2))
  obtain ⟨c',e3,j3⟩:=pR h (bO.set (y:=O.cells 37 [.str x.name,w1,w2,w3,.aD] true) ow3 (kM z0 (by decide) ow3))
  have e0:∀ Y (z:bA),aZ.one Y E.ty false (.str z) = some (.str z):=fun Y z=>rfl
  have e5:∀ Y,aZ.one Y E.ty false .aD = some .aD:=fun Y=>rfl
  simp only [KP,Ax.loadAt,Ax.storeAt,↓reduceIte,Nat.reduceEqDiff,Nat.reduceLT,Nat.reduceAdd,Int.reduceLT,h.bG,g1,g2,b0,z0,k1,k2,k3,s1,e0,e1,e2,e3,e5,dD,aZ,aU]
  exact ⟨a',b',c',.aD,rfl,j1,j2,j3,.inl ⟨rfl,hst⟩⟩
 ·generalize hn:x.steps.length = n at *
  obtain ⟨hb2,d1,d2,d3⟩:=sep b4 rfl
  have ln:∀ Z,lenOf E Z 35 (.sl b4 0 n none) = some n:=fun Z=>by unfold lenOf; rw [h.fH]
  simp only [KP,Ax.loadAt,↓reduceIte,Nat.reduceLT,reduceCtorEq,h.fH,h.bG,g1,b0,ln]
  refine aS (fun i F Y=>F.get 1 = .ref 0 0 /\ F.get 2 = .ref 1 0 /\ F.get 22 = .int .i64 (n:Int) /\ F.get 23 = .int .i64 (i:Int) /\ Y[0]? = some (O.cells 37 [.str x.name,w1,w2,w3,.sl b4 0 n none] true) /\ Y[1]? = some (O.cells 37 [.str [],.aD,.aD,.aD,.aD] true) /\ bO aK 9 Y w1 x.ins /\ bO aK 9 Y w2 x.outs /\ bO aK 9 Y w3 x.after /\ ∃ R,Oz Y b4 i R ex x.steps) n ?_ ?_ n 0 _ _ (by omega) (h_ (by simp +decide only [GS,g1,g2,and_self]) ⟨b0,z0,ow1,ow2,ow3,rs,Oz.start hb ha⟩)
  ·rintro i F Y hi ⟨g1,g2,g22,g23,b0,z0,ow1,ow2,ow3,R,sa⟩ next
   obtain ⟨s,hsi⟩:∃ y,x.steps[i]? = some y:=⟨_,List.getElem?_eq_getElem (by omega)⟩
   obtain ⟨p,q,hr,-,hpq⟩:=sa.row i s hsi
   obtain ⟨ip,iq⟩:=hpq (Nat.le_refl _)
   have hsm:=List.mem_of_getElem? hsi
   have hlt:=eD hi
   have hadd:=bX i (by omega)
   rw [aG]
   simp only [KP,↓reduceIte,Nat.reduceEqDiff,Nat.reduceLT,g22,g23,hlt]
   refine XJ h h' b0 sa.hb sa.Ih hr hi ip iq (hs.args s hsm) (hs.lits s hsm) hb2 _ ?_ ?_ ?_
   ·exact (by simp +decide only [GS,g1])
   ·exact (by simp +decide only [GS])
   intro F' τ' wp wq hF hb' op oq hk f1 f2
   have q1:F'.get 1 = .ref 0 0:=(hF 1 (by simp)).trans (by simp +decide only [GS,g1])
   have q2:F'.get 2 = .ref 1 0:=(hF 2 (by simp)).trans (by simp +decide only [GS,g2])
   have q22:F'.get 22 = .int .i64 (n:Int):=(hF 22 (by simp)).trans (by simp +decide only [GS,g22])
   have q23:F'.get 23 = .int .i64 (i:Int):=(hF 23 (by simp)).trans (by simp +decide only [GS,g23])
   simp only [KP,↓reduceIte,Nat.reduceLT,q23,hadd]
   exact next _ _ (h_ (by simp +decide only [GS,q1,q2,q22,and_self]) ⟨hk 0 _ b0 (by omega),hk 1 _ z0 (by omega),ow1.keep fun c o hc ho=>hk c o ho (fun e=>d1 (by rw [hc,e])),ow2.keep fun c o hc ho=>hk c o ho (fun e=>d2 (by rw [hc,e])),ow3.keep fun c o hc ho=>hk c o ho (fun e=>d3 (by rw [hc,e])),_,sa.step hsi hb' op oq hk f1 f2⟩)
  ·rintro F Y ⟨g1,g2,g22,g23,b0,z0,ow1,ow2,ow3,R,sa⟩
   have hlt:=eE (Nat.lt_irrefl n)
   have hz1:=(List.getElem?_eq_some_iff.1 z0).1
   have s1:∀ y,(Y.set 1 y)[1]? = some y:=fun y=>List.getElem?_set_self hz1
   obtain ⟨a',e1,j1⟩:=pR h (bO.set (y:=O.cells 37 [.str x.name,w1,w2,w3,.sl b4 0 n none] true) ow1 (kM z0 (by decide) ow1))
   obtain ⟨b',e2,j2⟩:=pR h (bO.set (y:=O.cells 37 [.str x.name,w1,w2,w3,.sl b4 0 n none] true) ow2 (kM z0 (by decide) ow2))
   obtain ⟨c',e3,j3⟩:=pR h (bO.set (y:=O.cells 37 [.str x.name,w1,w2,w3,.sl b4 0 n none] true) ow3 (kM z0 (by decide) ow3))
   obtain ⟨d',e4,t4,j4⟩:=FA h (sa.VI (y:=O.cells 37 [.str x.name,w1,w2,w3,.sl b4 0 n none] true) z0 (by decide) hb2) hn.symm
   have e4:aZ.one (Y.set 1 (O.cells 37 [.str x.name,w1,w2,w3,.sl b4 0 n none] true)) E.ty false (.sl b4 0 n none) = some d':=by
    unfold aZ.one
    rw [show dV = 12 from rfl,e4]
    simp only [t4,if_true]
   have e0:∀ Y (z:bA),aZ.one Y E.ty false (.str z) = some (.str z):=fun Y z=>rfl
   rw [aG]
   simp only [KP,Ax.loadAt,Ax.storeAt,↓reduceIte,Nat.reduceEqDiff,Nat.reduceLT,Nat.reduceAdd,h.bG,g1,g2,g22,g23,hlt,b0,z0,k1,k2,k3,s1,e0,e1,e2,e3,e4,dD,aZ,aU]
   exact ⟨a',b',c',d',rfl,j1,j2,j3,j4⟩
end
end
end Go.Proofs.YtlbbdpkjeeiahaaGreatDoor
end
section
set_option maxRecDepth 10000
set_option maxHeartbeats 8000000
set_option linter.unusedVariables false
namespace Go.Proofs.YtlbbdpkjeeiahaaGreatDoor.Lb
open Go Go.Ax Go.AxS
def LVf (v:V) (l:List a_):Prop:=(v = .aD /\ l = []) \/ ∃ full,v = .bR false (l.map row) full
theorem LVf.lv {v:V} {l:List a_} (h:LVf v l):LV v l:=h.imp id fun ⟨full,e⟩=>⟨false,full,e⟩
section
section
variable {E:Env} {Z:Sg} {K:V -> Sg -> Prop}
theorem OD (n:Nat) (h:n <= 10000000000000):wr .i64 ((n:Int) + 1) = ((n + 1:Nat):Int):=by
 rw [A_,if_pos]
 ·rfl
 ·rw [Bool.and_eq_true,decide_eq_true_eq,decide_eq_true_eq]
  exact ⟨show (-9223372036854775808:Int) <= (n:Int) + 1 by omega,show (n:Int) + 1 <= (9223372036854775807:Int) by omega⟩
theorem EZ (h:eS E) (c:Bool) (a b:Bool) (s t:List Nat):lQ E 46 c (.agg [.bool a,.str s]) (.agg [.bool b,.str t]) = some (decide (((a,s):a_) = (b,t))):=by
 unfold lQ
 simp only [h.eU,h.P_,Ax.eqs]
 rw [wT]
 cases a <;> cases b <;> simp
theorem SZ (h:eS E) (s:List Nat):aB E 41 [.str s] Z K = K (.agg [.bool true,.str s]) Z:=by
 refine aB.of ?_
 rw [aH h.hs41 h.sp41 h.fn41 h.md41 (args':=[.str s]) (rfl),aW (by kernel_rfl)]
 simp only [aA,Tryz.f41,KP,Ax.loadAt,Ax.storeAt,↓reduceIte,Nat.reduceEqDiff,Nat.reduceLT,Nat.reduceAdd,reduceCtorEq,h.CW,h.cQ,h.eU,Ax.fill,Ax.placeOf]
 exact rfl
end
end
end Go.Proofs.YtlbbdpkjeeiahaaGreatDoor.Lb
end
section
set_option maxRecDepth 10000
set_option maxHeartbeats 8000000
set_option linter.unusedVariables false
namespace Go.Proofs.YtlbbdpkjeeiahaaGreatDoor.Lb
open Go Go.Ax Go.AxS
section
def lR (ks:List a_):List (V × V):=ks.map fun k=>(V.agg [.bool k.1,.str k.2],V.bool true)
structure cM (Z:Sg) (b m:Nat) (ks:List a_):Prop where
 obj:Z[b]? = some (.cells 86 [.mp m] true)
 map:Z[m]? = some (.map (lR ks))
 nodup:ks.Nodup
def Kp (Z σ':Sg) (m:Nat):Prop:=∀ (j:Nat) (o:O),j ≠ m -> Z[j]? = some o -> σ'[j]? = some o
def rY (Z σ':Sg):Prop:=∀ (j:Nat) (o:O),Z[j]? = some o -> σ'[j]? = some o
theorem rY.refl (Z:Sg):rY Z Z:=fun _ _ h=>h
theorem rY.trans {Z Y ρ:Sg} (h:rY Z Y) (k:rY Y ρ):rY Z ρ:=fun j o e=>k j o (h j o e)
theorem rY.app (Z Y:Sg):rY Z (Z ++ Y):=fun _ _ h=>mK h Y
theorem rY.tM {Z σ':Sg} (h:rY Z σ'):dN Z σ':=fun b t cs ex e=>h _ _ e
theorem Kp.refl (Z:Sg) (m:Nat):Kp Z Z m:=fun _ _ _ h=>h
theorem Kp.trans {Z Y ρ:Sg} {m:Nat} (h:Kp Z Y m) (k:Kp Y ρ m):Kp Z ρ m:=fun j o hj e=>k j o hj (h j o hj e)
theorem Kp.tM {Z σ':Sg} {m:Nat} {es:List (V × V)} (h:Kp Z σ' m) (hm:Z[m]? = some (.map es)):dN Z σ':=fun b t cs ex e=>h _ _ (fun hb=>by subst hb; rw [hm] at e; cases e) e
theorem rY.kp {Z σ':Sg} (h:rY Z σ') (m:Nat):Kp Z σ' m:=fun j o _ e=>h j o e
theorem cM.ne {Z:Sg} {b m:Nat} {ks:List a_} (h:cM Z b m ks):b ≠ m:=fun e=>by
 subst e; have:=h.obj; rw [h.map] at this; cases this
theorem cM.nJ {Z σ':Sg} {b m:Nat} {ks:List a_} (h:cM Z b m ks) (k:rY Z σ'):cM σ' b m ks:=⟨k _ _ h.obj,k _ _ h.map,h.nodup⟩
theorem cM.kp {Z σ':Sg} {b m m':Nat} {ks ks':List a_} {b':Nat} (h:cM Z b m ks) (h':cM Z b' m' ks') (hm:m ≠ m') (k:Kp Z σ' m'):cM σ' b m ks:=
 ⟨k _ _ (fun e=>by subst e; have:=h.obj; rw [h'.map] at this; cases this) h.obj,k _ _ hm h.map,h.nodup⟩
section
variable {E:Env} {Z:Sg} {K:V -> Sg -> Prop}
theorem qF (h:eS E) (a b:Bool) (s t:List Nat):eM E 46 (.agg [.bool a,.str s]) (.agg [.bool b,.str t]) = some (decide (((a,s):a_) = (b,t))):=by
 unfold eM
 simp only [h.eU,h.P_,Ax.eqs]
 rw [wT]
 cases a <;> cases b <;> simp
theorem qC (h:eS E) (a:Bool) (s:List Nat):dL E 46 (.agg [.bool a,.str s]) = true:=by
 unfold dL
 simp only [h.eU,h.P_,Ax.eqs]
 rfl
theorem H_ (y:a_) (r:List a_) (x:a_) (hxy:x ≠ y):jJ (y :: r) x = y :: jJ r x:=by
 unfold jJ
 by_cases hx:x ∈ r
 ·rw [if_pos hx,if_pos (List.mem_cons_of_mem _ hx)]
 ·rw [if_neg hx,if_neg (by simp [hxy,hx])]; rfl
theorem DG (h:eS E) (x:a_):∀ ks:List a_,kE (eM E 46) (.agg [.bool x.1,.str x.2]) (.bool true) (lR ks) = some (lR (jJ ks x))
 | []=>rfl
 | y :: r=>by
  show (match eM E 46 (.agg [.bool x.1,.str x.2]) (.agg [.bool y.1,.str y.2]) with
   | some true=>some ((V.agg [.bool x.1,.str x.2],V.bool true) :: lR r)
   | some false=>(match kE (eM E 46) (.agg [.bool x.1,.str x.2]) (.bool true) (lR r) with
    | some r'=>some ((V.agg [.bool y.1,.str y.2],V.bool true) :: r')
    | none=>none)
   | none=>none) = _
  rw [qF h,DG h x r]
  by_cases hxy:x = y
  ·rw [decide_eq_true (show ((x.1,x.2):a_) = (y.1,y.2) from hxy)]
   subst hxy
   unfold jJ
   rw [if_pos (List.mem_cons_self ..)]
   rfl
  ·rw [decide_eq_false (show ¬ ((x.1,x.2):a_) = (y.1,y.2) from hxy),H_ y r x hxy]
   rfl
theorem Ke (h:eS E) (a:Bool) (s:List Nat):storeAt E (Z ++ [.cells 46 [.bool false,.str []] true]) 46 (.ref Z.length 0) (.agg [.bool a,.str s]) = some (Z ++ [.cells 46 [.bool a,.str s] true]):=by
 unfold storeAt
 simp only [h.eU]
 rw [List.getElem?_append_right (Nat.le_refl _),Nat.sub_self]
 refine (if_pos rfl).trans ?_
 rw [List.set_append_right _ _ (Nat.le_refl _),Nat.sub_self]
 rfl
theorem Na (h:eS E) (a:Bool) (s:List Nat):loadAt E (Z ++ [.cells 46 [.bool a,.str s] true]) 46 (.ref Z.length 0) = some (.agg [.bool a,.str s]):=by
 unfold loadAt
 simp only [h.eU]
 rw [List.getElem?_append_right (Nat.le_refl _),Nat.sub_self]
 rfl
theorem tH (h:eS E) {b m:Nat} (hb:Z[b]? = some (.cells 86 [.mp m] true)):loadAt E Z 82 (.ref b 0) = some (.mp m):=by
 unfold loadAt
 simp only [h.wJ,hb]
 rfl
theorem EA (h:eS E) {m:Nat} {ks:List a_} (hm:Z[m]? = some (.map (lR ks))) (x:a_):mapUpdate E Z 82 (.mp m) (.agg [.bool x.1,.str x.2]) (.bool true) = some (Z.set m (.map (lR (jJ ks x)))):=by
 unfold mapUpdate
 simp only [h.wJ,qC h,hm,DG h]
 rfl
theorem A2 (h:eS E) {m:Nat} {ks:List a_} (hm:Z[m]? = some (.map (lR ks))):lenOf E Z 82 (.mp m) = some ks.length:=by
 unfold lenOf
 simp only [h.wJ,hm]
 simp [lR]
theorem Hh (h:eS E) {b m:Nat} {ks l:List a_} {v:V} {n0:Int} (hsm:l.length <= 10000000000) {σ0:Sg} {s:List mE} {Q:Ax.X -> Fr -> Sg -> Prop}
  (hQ:∀ (F':FT) (σ':Sg),cM σ' b m (keys ks l) -> Kp σ0 σ' m -> F'.get 0 = .ref b 0 -> F'.get 5 = .int .i64 n0 -> M E s .normal ⟨48,F'⟩ σ' Q) :
  ∀ (k i:Nat) (F:FT) (σ':Sg),i + k = l.length -> cM σ' b m (keys ks (l.take i)) -> SV σ' v l -> Kp σ0 σ' m -> F.get 0 = .ref b 0 -> F.get 5 = .int .i64 n0 -> F.get 27 = v -> F.get 28 = .int .i64 (l.length:Int) -> F.get 29 = .int .i64 (i:Int) ->
   R E (.loop (cutAt [1,1,1,1,0,1,2,2] (aA Tryz.f71).code)) (.blk 0 :: s) ⟨48,F⟩ σ' Q:=by
 have d9:=h.Xx
 simp only [aA,Tryz.f71,cutAt,Option.getD_some] at d9
 intro k
 induction k with
 | zero=>
  intro i F σ' hi hs hv hk g0 g5 g27 g28 g29
  have hlt:decide ((i:Int) < (l.length:Int)) = false:=decide_eq_false (by omega)
  rw [aG]
  simp only [aA,Tryz.f71,KP,↓reduceIte,Nat.reduceLT,cutAt,g28,g29,hlt]
  rw [List.take_of_length_le (by omega)] at hs
  refine hQ _ _ hs hk ?_ ?_ <;> simp only [FT.jQ,g0,g5,↓reduceIte,Nat.reduceEqDiff,reduceCtorEq]
 | succ k ih=>
  intro i F σ' hi hs hv hk g0 g5 g27 g28 g29
  have hlt:decide ((i:Int) < (l.length:Int)) = true:=decide_eq_true (by omega)
  obtain ⟨x,hx⟩:∃ x,l[i]? = some x:=⟨_,List.getElem?_eq_getElem (by omega)⟩
  obtain ⟨pa,e1,e2⟩:=Qb h hv hx
  have e2:=e2 _ (dN.refl _)
  have hadd:=OD i (by omega)
  have lm:=tH h (mK hs.obj [.cells 46 [.bool x.1,.str x.2] true])
  have pm:=EA h (mK hs.map [.cells 46 [.bool x.1,.str x.2] true]) x
  rw [aG]
  simp only [aA,Tryz.f71,KP,↓reduceIte,Nat.reduceEqDiff,Nat.reduceLT,reduceCtorEq,h.eU,h.wJ,h.vJ,h.AF,cutAt,g0,g27,g28,g29,hlt,e1,e2,Ke h,Na h,lm,pm,aR d9,bM,hadd]
  have hml:=(List.getElem?_eq_some_iff.1 hs.map).1
  refine ih (i + 1) _ _ (by omega) ⟨?_,?_,?_⟩ ?_ ?_ ?_ ?_ ?_ ?_ ?_
  ·rw [List.getElem?_set_ne hs.ne.symm]
   exact mK hs.obj _
  ·rw [List.getElem?_set_self (by rw [List.length_append]; omega)]
   rw [List.take_add_one,hx]
   show some (O.map (lR (jJ (keys ks (l.take i)) x))) = some (O.map (lR (List.foldl jJ ks (l.take i ++ [x]))))
   rw [List.foldl_append]
   rfl
  ·rw [List.take_add_one,hx]
   show (List.foldl jJ ks (l.take i ++ [x])).Nodup
   rw [List.foldl_append]
   exact Gn hs.nodup
  ·refine hv.keep fun j t cs ex e=>?_
   rw [List.getElem?_set_ne (fun hj=>by subst hj; rw [hs.map] at e; cases e)]
   exact mK e _
  ·refine hk.trans fun j o hj e=>?_
   rw [List.getElem?_set_ne (fun h=>hj h.symm)]
   exact mK e _
  all_goals simp only [FT.jQ,g0,g5,g27,g28,↓reduceIte,Nat.reduceEqDiff,reduceCtorEq]
theorem Q8 (a b:Nat) (ha:a <= 1000000000000) (hb:b <= 1000000000000):wr .i64 ((a:Int) - (b:Int)) = (a:Int) - (b:Int):=by
 rw [A_,if_pos]
 rw [Bool.and_eq_true,decide_eq_true_eq,decide_eq_true_eq]
 exact ⟨show (-9223372036854775808:Int) <= _ by omega,show _ <= (9223372036854775807:Int) by omega⟩
theorem Of (h:eS E) {b m:Nat} {ks l:List a_} {v:V} (hs:cM Z b m ks) (hv:SV Z v l) (hsm:l.length <= 10000000000) (hks:ks.length <= 10000000000) :
  aB E 71 [.ref b 0,v] Z fun r σ'=>r = .int .i64 (((keys ks l).length:Int) - (ks.length:Int)) /\ cM σ' b m (keys ks l) /\ Kp Z σ' m:=by
 rw [eF h.VN h.Tx h.Wz h.U0,aW (by kernel_rfl)]
 have lm:=tH h hs.obj
 have lk:=A2 h hs.map
 have lv:lenOf E Z 40 v = some l.length:=R4 h hv
 simp only [aA,Tryz.f71,KP,↓reduceIte,Nat.reduceEqDiff,Nat.reduceLT,Nat.reduceAdd,reduceCtorEq,h.sK,h.wJ,h.vJ,h.AF,lm,lk,lv,lQ]
 refine Hh h hsm (σ0:=Z) (n0:=(ks.length:Int)) (fun F' σ' hs' hk' g0 g5=>?_) l.length 0 _ Z (by omega) hs hv (Kp.refl _ _) ?_ ?_ ?_ ?_ ?_
 ·have lm2:=tH h hs'.obj
  have lk2:=A2 h hs'.map
  have hl:=pA (xs:=l) (l:=ks)
  have hsub:=Q8 (keys ks l).length ks.length (by omega) (by omega)
  simp only [KP,↓reduceIte,Nat.reduceEqDiff,Nat.reduceLT,reduceCtorEq,h.wJ,h.vJ,h.AF,lm2,lk2,g0,g5,hsub]
  exact ⟨hs',hk'⟩
 all_goals simp only [FT.jQ,KP,↓reduceIte,Nat.reduceEqDiff,reduceCtorEq]
 all_goals rfl
end
end
section
section
variable {E:Env} {Z:Sg} {K:V -> Sg -> Prop}
theorem M_ (h:eS E) {b:Nat} (hb:Z[b]? = some (.cells 86 [.bT] true)):loadAt E Z 82 (.ref b 0) = some .bT:=by
 unfold loadAt
 simp only [h.wJ,hb]
 rfl
theorem Kf (h:eS E) {b m:Nat} {u:V} (hb:Z[b]? = some (.cells 86 [u] true)):storeAt E Z 82 (.ref b 0) (.mp m) = some (Z.set b (.cells 86 [.mp m] true)):=by
 unfold storeAt
 simp only [h.wJ,hb]
 rfl
theorem Oe (h:eS E) {b:Nat} {l:List a_} {v:V} (hb:Z[b]? = some (.cells 86 [.bT] true)) (hv:SV Z v l) (hsm:l.length <= 10000000000) :
  aB E 71 [.ref b 0,v] Z fun r σ'=>∃ m,cM σ' b m (keys [] l) /\ Z.length <= m /\ ∀ j o,j ≠ b -> Z[j]? = some o -> σ'[j]? = some o:=by
 rw [eF h.VN h.Tx h.Wz h.U0,aW (by kernel_rfl)]
 have hbl:=(List.getElem?_eq_some_iff.1 hb).1
 have ln:=M_ h hb
 have st:=Kf h (m:=Z.length) (mK hb [.map []])
 have hs1:cM ((Z ++ [O.map []]).set b (.cells 86 [.mp Z.length] true)) b Z.length []:=by
  refine ⟨List.getElem?_set_self (by rw [List.length_append]; omega),?_,List.nodup_nil⟩
  rw [List.getElem?_set_ne (by omega),List.getElem?_append_right (Nat.le_refl _),Nat.sub_self]
  rfl
 have hk1:∀ j o,j ≠ b -> Z[j]? = some o -> ((Z ++ [O.map []]).set b (.cells 86 [.mp Z.length] true))[j]? = some o:=fun j o hj e=>by
  rw [List.getElem?_set_ne (fun e=>hj e.symm)]
  exact mK e _
 have hv1:SV ((Z ++ [O.map []]).set b (.cells 86 [.mp Z.length] true)) v l:=by
  rcases hv with hv | hv | ⟨j,cs,ex,e1,e2,e3⟩
  ·exact .inl hv
  ·exact .inr (.inl hv)
  ·refine .inr (.inr ⟨j,cs,ex,e1,hk1 j _ (fun e=>?_) e2,e3⟩)
   subst e; rw [hb] at e2; cases e2
 have lm:=tH h hs1.obj
 have lk:=A2 h hs1.map
 have lv:∀ σ',lenOf E σ' 40 v = some l.length:=fun σ'=>by
  unfold lenOf
  rw [h.CV]
  rcases hv with ⟨rfl,rfl⟩ | ⟨g,full,rfl⟩ | ⟨j,cs,ex,rfl,e2,e3⟩
  ·rfl
  ·simp
  ·rfl
 simp only [aA,Tryz.f71,KP,↓reduceIte,Nat.reduceEqDiff,Nat.reduceLT,Nat.reduceAdd,reduceCtorEq,h.sK,h.wJ,h.vJ,h.AF,ln,st,lm,lk,lv,lQ]
 refine Hh h hsm (σ0:=(Z ++ [O.map []]).set b (.cells 86 [.mp Z.length] true)) (n0:=0) (fun F' σ' hs' hk' g0 g5=>?_) l.length 0 _ _ (by omega) hs1 hv1 (Kp.refl _ _) ?_ ?_ ?_ ?_ ?_
 ·have lm2:=tH h hs'.obj
  have lk2:=A2 h hs'.map
  simp only [KP,↓reduceIte,Nat.reduceEqDiff,Nat.reduceLT,reduceCtorEq,h.wJ,h.vJ,h.AF,lm2,lk2,g0,g5]
  refine ⟨Z.length,hs',Nat.le_refl _,fun j o hj e=>?_⟩
  have hjl:=(List.getElem?_eq_some_iff.1 e).1
  exact hk' j o (by omega) (hk1 j o hj e)
 all_goals simp only [FT.jQ,KP,↓reduceIte,Nat.reduceEqDiff,reduceCtorEq]
 all_goals rfl
theorem QY (h:eS E) {l:List a_} {v:V} (hv:SV Z v l) (hsm:l.length <= 10000000000) :
  aB E 44 [v] Z fun r σ'=>∃ m,r = .ref Z.length 0 /\ cM σ' Z.length m (keys [] l) /\ Z.length < m /\ rY Z σ':=by
 rw [eF h.hs44 h.sp44 h.fn44 h.md44,aW (by kernel_rfl)]
 simp only [aA,Tryz.f44,KP,↓reduceIte,Nat.reduceEqDiff,Nat.reduceLT,reduceCtorEq,h.vJ,h.AF,Ax.fill]
 have hb:(Z ++ [O.cells 86 [.bT] true])[Z.length]? = some (.cells 86 [.bT] true):=by
  rw [List.getElem?_append_right (Nat.le_refl _),Nat.sub_self]; rfl
 refine aL (Oe h hb (hv.keep (dN.app _ _)) hsm) ?_
 rintro r σ' ⟨m,hs,hm,hk⟩
 simp only [KP,↓reduceIte,Nat.reduceEqDiff,Nat.reduceLT]
 rw [List.length_append] at hm
 refine ⟨m,hs,by simp at hm; omega,fun j o e=>?_⟩
 have hjl:=(List.getElem?_eq_some_iff.1 e).1
 exact hk j o (by omega) (mK e _)
theorem Ko (ks:List a_):(lR ks).map (fun (e:V × V)=>rowOf e.1) = ks.map row:=by
 unfold lR
 rw [List.map_map]
 rfl
theorem CL:∀ ks:List a_,(∀ k ∈ ks,k.2.length <= 9223372036854775807) -> allRows lZ (ks.map row) = true
 | [],_=>rfl
 | k :: ks,hk=>by
  show (match Nat.ble k.2.length 9223372036854775807 with
   | true=>allRows lZ (ks.map row)
   | false=>false) = true
  rw [Nat.ble_eq_true_of_le (hk k (List.mem_cons_self ..))]
  exact CL ks fun x hx=>hk x (List.mem_cons_of_mem _ hx)
def Own (Z σ':Sg) (r:V) (l:List a_):Prop:=(r = .aD /\ l = []) \/ ∃ j,Z.length <= j /\ r = .sl j 0 l.length none /\ σ'[j]? = some (.cells 46 (l.flatMap row) false)
theorem Own.sv {Z σ':Sg} {r:V} {l:List a_} (h:Own Z σ' r l):SV σ' r l:=by
 rcases h with h | ⟨j,_,h1,h2⟩
 ·exact .inl h
 ·exact .inr (.inr ⟨j,_,_,h1,h2,List.take_of_length_le (by rw [pB]; exact Nat.le_refl _)⟩)
end
end
section
section
variable {E:Env} {Z:Sg} {K:V -> Sg -> Prop}
theorem Gf {α:Type} {f:α -> Option α}:∀ l:List α,(∀ x ∈ l,f x = some x) -> aU f l = some l
 | [],_=>rfl
 | x :: l,h=>by rw [aU,h x (List.mem_cons_self ..),Gf l fun y hy=>h y (List.mem_cons_of_mem _ hy)]
theorem BP (h:eS E) (x:a_):∀ ks:List a_,gZ (eM E 46) (.agg [.bool x.1,.str x.2]) (lR ks) = some (if x ∈ ks then some (.bool true) else none)
 | []=>rfl
 | y :: r=>by
  show (match eM E 46 (.agg [.bool x.1,.str x.2]) (.agg [.bool y.1,.str y.2]) with
   | some true=>some (some (V.bool true))
   | some false=>gZ (eM E 46) (.agg [.bool x.1,.str x.2]) (lR r)
   | none=>none) = _
  rw [qF h,BP h x r]
  by_cases hxy:x = y
  ·rw [decide_eq_true (show ((x.1,x.2):a_) = (y.1,y.2) from hxy)]
   show some (some (V.bool true)) = some (if x ∈ y :: r then some (V.bool true) else none)
   rw [if_pos (by rw [hxy]; exact List.mem_cons_self ..)]
  ·rw [decide_eq_false (show ¬ ((x.1,x.2):a_) = (y.1,y.2) from hxy)]
   by_cases hx:x ∈ r
   ·rw [if_pos hx,if_pos (List.mem_cons_of_mem _ hx)]
   ·rw [if_neg hx,if_neg (by simp [hxy,hx])]
structure UnionE (E:Env):Prop where
 hs:E.hspec 46 = none
 sp:E.spec 46 = none
 fn:E.fn 46 = some (aA Tryz.f46)
 md:E.mode 46 = .shared
end
end
end Go.Proofs.YtlbbdpkjeeiahaaGreatDoor.Lb
end
section
set_option maxRecDepth 10000
set_option maxHeartbeats 8000000
set_option linter.unusedVariables false
namespace Go.Proofs.YtlbbdpkjeeiahaaGreatDoor
open Go Go.Ax Go.AxS
section
section
variable {E:Env} {Z:Sg} {K:V -> Sg -> Prop}
structure cZ where
 key:a_
 s:Nat
 m:Nat
 ks:List a_
def oH (x:a_):V:=.agg [.bool x.1,.str x.2]
def nM (e:cZ):V × V:=(oH e.key,.ref e.s 0)
structure iF (Z:Sg) (b:Nat) (L:List cZ):Prop where
 map:Z[b]? = some (.map (L.map nM))
 sets:∀ e ∈ L,Lb.cM Z e.s e.m e.ks
 nodup:(L.map cZ.key).Nodup
theorem BQ (hl:Lb.eS E) (x:a_):∀ L:List cZ,gZ (eM E 46) (oH x) (L.map nM) = some ((L.find? fun e=>decide (x = e.key)).map fun e=>.ref e.s 0)
 | []=>rfl
 | e :: L=>by
  show (match eM E 46 (.agg [.bool x.1,.str x.2]) (.agg [.bool e.key.1,.str e.key.2]) with
   | some true=>some (some (V.ref e.s 0))
   | some false=>gZ (eM E 46) (oH x) (L.map nM)
   | none=>none) = _
  rw [Lb.qF hl,List.find?_cons]
  by_cases h:x = e.key
  ·rw [decide_eq_true (show ((x.1,x.2):a_) = (e.key.1,e.key.2) from h)]; rfl
  ·rw [decide_eq_false (show ¬ ((x.1,x.2):a_) = (e.key.1,e.key.2) from h)]
   exact BQ hl x L
theorem DH (hl:Lb.eS E) (x:a_) (s m:Nat) (ks:List a_):∀ L:List cZ,(∀ e ∈ L,x ≠ e.key) -> kE (eM E 46) (oH x) (.ref s 0) (L.map nM) = some ((L ++ [cZ.mk x s m ks]).map nM)
 | [],_=>rfl
 | e :: L,h=>by
  have hx:=h e (List.mem_cons_self ..)
  show (match eM E 46 (.agg [.bool x.1,.str x.2]) (.agg [.bool e.key.1,.str e.key.2]) with
   | some true=>some ((oH x,V.ref s 0) :: L.map nM)
   | some false=>(match kE (eM E 46) (oH x) (.ref s 0) (L.map nM) with
    | some r=>some (nM e :: r)
    | none=>none)
   | none=>none) = _
  rw [Lb.qF hl,decide_eq_false (show ¬ ((x.1,x.2):a_) = (e.key.1,e.key.2) from hx),DH hl x s m ks L fun y hy=>h y (List.mem_cons_of_mem _ hy)]
  rfl
def bI (L:List cZ) (x:a_):Option cZ:=L.find? fun e=>decide (x = e.key)
theorem DO (h':sM E) (hl:Lb.eS E) {Z:Sg} {b:Nat} {L:List cZ} (hm:Z[b]? = some (.map (L.map nM))) (x:a_):lookup E Z 105 (.mp b) (oH x) false = some (match bI L x with | some e=>.ref e.s 0 | none=>.fF):=by
 have hk:=Lb.qC hl x.1 x.2
 unfold Ax.lookup
 simp only [h'.nU,hl.sK,oH,hk,entriesOf,hm,Bool.not_true,Bool.false_eq_true,if_false]
 have:=BQ hl x L
 unfold oH at this
 rw [this]
 unfold bI
 cases L.find? fun e=>decide (x = e.key) <;> rfl
theorem xM (h':sM E) (hl:Lb.eS E) {Z:Sg} {b:Nat} {L:List cZ} (hm:iF Z b L) (x:a_):lookup E Z 105 (.mp b) (oH x) false = some (match bI L x with | some e=>.ref e.s 0 | none=>.fF):=DO h' hl hm.map x
theorem EA (h':sM E) (hl:Lb.eS E) {Z:Sg} {b:Nat} {L:List cZ} (hm:iF Z b L) {x:a_} (hx:bI L x = none) {s m:Nat} {ks:List a_}:mapUpdate E Z 105 (.mp b) (oH x) (.ref s 0) = some (Z.set b (.map ((L ++ [cZ.mk x s m ks]).map nM))):=by
 have hk:=Lb.qC hl x.1 x.2
 have hne:∀ e ∈ L,x ≠ e.key:=fun e he hxe=>by
  have:=List.find?_eq_none.1 hx e he
  simp [hxe] at this
 have:=DH hl x s m ks L hne
 unfold oH at this
 unfold Ax.mapUpdate
 simp only [h'.nU,oH,hk,hm.map,this,eX,V.aV,Bool.not_true,Bool.or_self,Bool.false_eq_true,if_false,Option.map_some]
end
end
section
section
variable {E:Env} {Z:Sg} {K:V -> Sg -> Prop}
theorem cM.keep {Z σ':Sg} {s m x:Nat} {ks:List a_} {es:List (V × V)} (h:Lb.cM Z s m ks) (hx:Z[x]? = some (.map es)) (hm:m ≠ x) (k:∀ (j:Nat) (o:O),j ≠ x -> Z[j]? = some o -> σ'[j]? = some o):Lb.cM σ' s m ks:=by
 refine ⟨k _ _ (fun e=>?_) h.obj,k _ _ hm h.map,h.nodup⟩
 have:=h.obj
 rw [e,hx] at this
 cases this
theorem iF.keep {Z σ':Sg} {b x:Nat} {L:List cZ} {es:List (V × V)} (h:iF Z b L) (hx:Z[x]? = some (.map es)) (hb:b ≠ x) (hm:x ∉ L.map cZ.m) (k:∀ (j:Nat) (o:O),j ≠ x -> Z[j]? = some o -> σ'[j]? = some o):iF σ' b L:=
 ⟨k _ _ hb h.map,fun e he=>cM.keep (h.sets e he) hx (fun e'=>hm (List.mem_map.2 ⟨e,he,e'⟩)) k,h.nodup⟩
def oV (L:List cZ) (x:a_) (ks:List a_):List cZ:=L.map fun e=>if e.key = x then { e with ks:=ks } else e
theorem Ka (L:List cZ) (x:a_) (ks:List a_):(oV L x ks).map nM = L.map nM:=by
 unfold oV
 rw [List.map_map]
 refine List.map_congr_left fun e _=>?_
 show nM (if e.key = x then _ else e) = nM e
 by_cases h:e.key = x
 ·rw [if_pos h]; rfl
 ·rw [if_neg h]
theorem De (L:List cZ) (x:a_) (ks:List a_):(oV L x ks).map cZ.key = L.map cZ.key:=by
 unfold oV
 rw [List.map_map]
 refine List.map_congr_left fun e _=>?_
 show cZ.key (if e.key = x then _ else e) = e.key
 by_cases h:e.key = x
 ·rw [if_pos h]
 ·rw [if_neg h]
theorem IK (L:List cZ) (x:a_) (ks:List a_):(oV L x ks).map cZ.m = L.map cZ.m:=by
 unfold oV
 rw [List.map_map]
 refine List.map_congr_left fun e _=>?_
 show cZ.m (if e.key = x then _ else e) = e.m
 by_cases h:e.key = x
 ·rw [if_pos h]
 ·rw [if_neg h]
theorem yV {β:Type} {f:cZ -> β}:∀ {L:List cZ},(L.map f).Nodup -> ∀ e ∈ L,∀ e' ∈ L,f e = f e' -> e = e'
 | [],_,e,he,_,_,_=>by cases he
 | a :: L,h,e,he,e',he',hm=>by
  rw [List.map_cons,List.nodup_cons] at h
  rcases List.mem_cons.1 he with h1 | h1 <;> rcases List.mem_cons.1 he' with h2 | h2
  ·rw [h1,h2]
  ·exact absurd (List.mem_map.2 ⟨e',h2,by rw [<- hm,h1]⟩) h.1
  ·exact absurd (List.mem_map.2 ⟨e,h1,by rw [hm,h2]⟩) h.1
  ·exact yV h.2 e h1 e' h2 hm
theorem iF.up {Z σ':Sg} {b:Nat} {L:List cZ} {e:cZ} {ks:List a_} (h:iF Z b L) (he:e ∈ L) (hnd:(L.map cZ.m).Nodup) (hb:b ≠ e.m) (hs:Lb.cM σ' e.s e.m ks) (k:∀ (j:Nat) (o:O),j ≠ e.m -> Z[j]? = some o -> σ'[j]? = some o):iF σ' b (oV L e.key ks):=by
 refine ⟨by rw [Ka]; exact k _ _ hb h.map,fun a ha=>?_,by rw [De]; exact h.nodup⟩
 obtain ⟨a0,ha0,rfl⟩:=List.mem_map.1 ha
 by_cases hk:a0.key = e.key
 ·have hae:a0 = e:=yV h.nodup a0 ha0 e he hk
  subst hae
  rw [if_pos rfl]
  exact hs
 ·rw [if_neg hk]
  exact cM.keep (h.sets a0 ha0) (h.sets e he).map (fun e'=>hk (by rw [yV hnd a0 ha0 e he e'])) k
structure mZ (E:Env) (Z:Sg) (gb m0 m1 sa ma b3 b4:Nat) (es0 es1:List (V × V)) (A:List a_) (L3 L4:List cZ):Prop where
 g:Z[gb]? = some (.cells 107 [.mp m0,.mp m1,.ref sa 0,.mp b3,.mp b4] true)
 rules:Z[m0]? = some (.map es0)
 iT:Z[m1]? = some (.map es1)
 all:Lb.cM Z sa ma A
 jH:iF Z b3 L3
 i_:iF Z b4 L4
 sep:(m0 :: m1 :: ma :: b3 :: b4 :: (L3.map cZ.m ++ L4.map cZ.m)).Nodup
end
end
section
section
variable {E:Env} {Z:Sg} {K:V -> Sg -> Prop}
theorem cM.app {Z:Sg} {s m:Nat} {ks:List a_} (h:Lb.cM Z s m ks) (y:O):Lb.cM (Z ++ [y]) s m ks:=⟨aN h.obj,aN h.map,h.nodup⟩
theorem iF.app {Z:Sg} {b:Nat} {L:List cZ} (h:iF Z b L) (y:O):iF (Z ++ [y]) b L:=⟨aN h.map,fun e he=>cM.app (h.sets e he) y,h.nodup⟩
theorem mZ.app {{Z:Sg}} {{gb m0 m1 sa ma b3 b4:Nat}} {{es0 es1:List (V × V)}} {{A:List a_}} {{L3 L4:List cZ}} (h:mZ E Z gb m0 m1 sa ma b3 b4 es0 es1 A L3 L4) (y:O):mZ E (Z ++ [y]) gb m0 m1 sa ma b3 b4 es0 es1 A L3 L4:=
 ⟨aN h.g,aN h.rules,aN h.iT,cM.app h.all y,h.jH.app y,h.i_.app y,h.sep⟩
theorem mZ.more {{Z σ':Sg}} {{gb m0 m1 sa ma b3 b4:Nat}} {{es0 es1:List (V × V)}} {{A:List a_}} {{L3 L4:List cZ}} (h:mZ E Z gb m0 m1 sa ma b3 b4 es0 es1 A L3 L4) {A':List a_} (hs:Lb.cM σ' sa ma A') (k:∀ (j:Nat) (o:O),j ≠ ma -> Z[j]? = some o -> σ'[j]? = some o):mZ E σ' gb m0 m1 sa ma b3 b4 es0 es1 A' L3 L4:=by
 have sep:=h.sep
 simp only [List.nodup_cons,List.mem_cons,List.mem_append,not_or] at sep
 obtain ⟨⟨-,n0,-⟩,⟨n1,-⟩,⟨n3,n4,n5,n6⟩,-⟩:=sep
 have hx:=h.all.map
 have ng:gb ≠ ma:=fun e=>by
  have:=h.g
  rw [e,hx] at this
  cases this
 exact ⟨k _ _ ng h.g,k _ _ n0 h.rules,k _ _ n1 h.iT,hs,h.jH.keep hx (fun e=>n3 e.symm) n5 k,h.i_.keep hx (fun e=>n4 e.symm) n6 k,h.sep⟩
theorem mZ.rule {{Z:Sg}} {{gb m0 m1 sa ma b3 b4:Nat}} {{es0 es1:List (V × V)}} {{A:List a_}} {{L3 L4:List cZ}} (h:mZ E Z gb m0 m1 sa ma b3 b4 es0 es1 A L3 L4) (es:List (V × V)):mZ E (Z.set m0 (.map es)) gb m0 m1 sa ma b3 b4 es es1 A L3 L4:=by
 have sep:=h.sep
 simp only [List.nodup_cons,List.mem_cons,List.mem_append,not_or] at sep
 obtain ⟨⟨n1,na,n3,n4,n5,n6⟩,-⟩:=sep
 have hx:=h.rules
 have ng:gb ≠ m0:=fun e=>by
  have:=h.g
  rw [e,hx] at this
  cases this
 have k:∀ (j:Nat) (o:O),j ≠ m0 -> Z[j]? = some o -> (Z.set m0 (.map es))[j]? = some o:=fun j o hj ho=>by
  rw [List.getElem?_set_ne (Ne.symm hj)]; exact ho
 exact ⟨k _ _ ng h.g,List.getElem?_set_self (List.getElem?_eq_some_iff.1 hx).1,k _ _ (Ne.symm n1) h.iT,cM.keep h.all hx (Ne.symm na) k,h.jH.keep hx (Ne.symm n3) n5 k,h.i_.keep hx (Ne.symm n4) n6 k,h.sep⟩
theorem mZ.M4 {{Z:Sg}} {{gb m0 m1 sa ma b3 b4:Nat}} {{es0 es1:List (V × V)}} {{A:List a_}} {{L3 L4:List cZ}} (h:mZ E Z gb m0 m1 sa ma b3 b4 es0 es1 A L3 L4) (es:List (V × V)):mZ E (Z.set m1 (.map es)) gb m0 m1 sa ma b3 b4 es0 es A L3 L4:=by
 have sep:=h.sep
 simp only [List.nodup_cons,List.mem_cons,List.mem_append,not_or] at sep
 obtain ⟨⟨n1,-⟩,⟨na,n3,n4,n5,n6⟩,-⟩:=sep
 have hx:=h.iT
 have ng:gb ≠ m1:=fun e=>by
  have:=h.g
  rw [e,hx] at this
  cases this
 have k:∀ (j:Nat) (o:O),j ≠ m1 -> Z[j]? = some o -> (Z.set m1 (.map es))[j]? = some o:=fun j o hj ho=>by
  rw [List.getElem?_set_ne (Ne.symm hj)]; exact ho
 exact ⟨k _ _ ng h.g,k _ _ n1 h.rules,List.getElem?_set_self (List.getElem?_eq_some_iff.1 hx).1,cM.keep h.all hx (Ne.symm na) k,h.jH.keep hx (Ne.symm n3) n5 k,h.i_.keep hx (Ne.symm n4) n6 k,h.sep⟩
end
end
section
section
variable {E:Env} {Z:Sg} {K:V -> Sg -> Prop}
theorem mZ.facts {Z:Sg} {gb m0 m1 sa ma b3 b4:Nat} {es0 es1:List (V × V)} {A:List a_} {L3 L4:List cZ} (h:mZ E Z gb m0 m1 sa ma b3 b4 es0 es1 A L3 L4):(L3.map cZ.m).Nodup /\ (L4.map cZ.m).Nodup /\ ∀ x,x ∈ L3.map cZ.m \/ x ∈ L4.map cZ.m -> m0 ≠ x /\ m1 ≠ x /\ ma ≠ x /\ b3 ≠ x /\ b4 ≠ x:=by
 have sep:=h.sep
 simp only [List.nodup_cons,List.mem_cons,List.mem_append,not_or,List.nodup_append] at sep
 obtain ⟨⟨-,-,-,-,a5,a6⟩,⟨-,-,-,b5,b6⟩,⟨-,-,c5,c6⟩,⟨-,d5,d6⟩,⟨e5,e6⟩,f1,f2,-⟩:=sep
 refine ⟨f1,f2,fun x hx=>?_⟩
 rcases hx with hx | hx
 ·exact ⟨fun e=>a5 (by rw [e]; exact hx),fun e=>b5 (by rw [e]; exact hx),fun e=>c5 (by rw [e]; exact hx),fun e=>d5 (by rw [e]; exact hx),fun e=>e5 (by rw [e]; exact hx)⟩
 ·exact ⟨fun e=>a6 (by rw [e]; exact hx),fun e=>b6 (by rw [e]; exact hx),fun e=>c6 (by rw [e]; exact hx),fun e=>d6 (by rw [e]; exact hx),fun e=>e6 (by rw [e]; exact hx)⟩
theorem mZ.QV {Z:Sg} {gb m0 m1 sa ma b3 b4:Nat} {es0 es1:List (V × V)} {A:List a_} {L3 L4:List cZ} (h:mZ E Z gb m0 m1 sa ma b3 b4 es0 es1 A L3 L4):∀ x ∈ L3.map cZ.m,x ∉ L4.map cZ.m:=by
 have sep:=h.sep
 simp only [List.nodup_cons,List.mem_cons,List.mem_append,not_or,List.nodup_append] at sep
 obtain ⟨-,-,-,-,-,-,-,f3⟩:=sep
 exact fun x hx hy=>f3 x hx x hy rfl
theorem mZ.MV {{Z σ':Sg}} {{gb m0 m1 sa ma b3 b4:Nat}} {{es0 es1:List (V × V)}} {{A:List a_}} {{L3 L4:List cZ}} (h:mZ E Z gb m0 m1 sa ma b3 b4 es0 es1 A L3 L4) {e:cZ} (he:e ∈ L3) {ks:List a_} (hs:Lb.cM σ' e.s e.m ks) (k:∀ (j:Nat) (o:O),j ≠ e.m -> Z[j]? = some o -> σ'[j]? = some o):mZ E σ' gb m0 m1 sa ma b3 b4 es0 es1 A (oV L3 e.key ks) L4:=by
 obtain ⟨f1,f2,f3⟩:=h.facts
 have hm:e.m ∈ L3.map cZ.m:=List.mem_map.2 ⟨e,he,rfl⟩
 obtain ⟨n1,n2,n3,n4,n5⟩:=f3 e.m (Or.inl hm)
 have hx:=(h.jH.sets e he).map
 have ng:gb ≠ e.m:=fun e'=>by
  have:=h.g
  rw [e',hx] at this
  cases this
 have nb:=n4
 exact ⟨k _ _ ng h.g,k _ _ n1 h.rules,k _ _ n2 h.iT,cM.keep h.all hx n3 k,iF.up h.jH he f1 nb hs k,h.i_.keep hx n5 (fun hx'=>h.QV _ hm hx') k,by rw [IK]; exact h.sep⟩
theorem mZ.LN {{Z σ':Sg}} {{gb m0 m1 sa ma b3 b4:Nat}} {{es0 es1:List (V × V)}} {{A:List a_}} {{L3 L4:List cZ}} (h:mZ E Z gb m0 m1 sa ma b3 b4 es0 es1 A L3 L4) {e:cZ} (he:e ∈ L4) {ks:List a_} (hs:Lb.cM σ' e.s e.m ks) (k:∀ (j:Nat) (o:O),j ≠ e.m -> Z[j]? = some o -> σ'[j]? = some o):mZ E σ' gb m0 m1 sa ma b3 b4 es0 es1 A L3 (oV L4 e.key ks):=by
 obtain ⟨f1,f2,f3⟩:=h.facts
 have hm:e.m ∈ L4.map cZ.m:=List.mem_map.2 ⟨e,he,rfl⟩
 obtain ⟨n1,n2,n3,n4,n5⟩:=f3 e.m (Or.inr hm)
 have hx:=(h.i_.sets e he).map
 have ng:gb ≠ e.m:=fun e'=>by
  have:=h.g
  rw [e',hx] at this
  cases this
 have nb:=n5
 exact ⟨k _ _ ng h.g,k _ _ n1 h.rules,k _ _ n2 h.iT,cM.keep h.all hx n3 k,h.jH.keep hx n4 (fun hx'=>h.QV _ hx' hm) k,iF.up h.i_ he f2 nb hs k,by rw [IK]; exact h.sep⟩
end
end
section
section
variable {E:Env} {Z:Sg} {K:V -> Sg -> Prop}
theorem iF.nJ {Z σ1:Sg} {b:Nat} {L:List cZ} (h:iF Z b L) (k:Lb.rY Z σ1):iF σ1 b L:=⟨k _ _ h.map,fun e he=>⟨k _ _ (h.sets e he).obj,k _ _ (h.sets e he).map,(h.sets e he).nodup⟩,h.nodup⟩
theorem mZ.nJ {{Z σ1:Sg}} {{gb m0 m1 sa ma b3 b4:Nat}} {{es0 es1:List (V × V)}} {{A:List a_}} {{L3 L4:List cZ}} (h:mZ E Z gb m0 m1 sa ma b3 b4 es0 es1 A L3 L4) (k:Lb.rY Z σ1):mZ E σ1 gb m0 m1 sa ma b3 b4 es0 es1 A L3 L4:=
 ⟨k _ _ h.g,k _ _ h.rules,k _ _ h.iT,⟨k _ _ h.all.obj,k _ _ h.all.map,h.all.nodup⟩,h.jH.nJ k,h.i_.nJ k,h.sep⟩
theorem mZ.below {Z:Sg} {gb m0 m1 sa ma b3 b4:Nat} {es0 es1:List (V × V)} {A:List a_} {L3 L4:List cZ} (h:mZ E Z gb m0 m1 sa ma b3 b4 es0 es1 A L3 L4) {m:Nat} (hm:Z.length <= m):m ∉ m0 :: m1 :: ma :: b3 :: b4 :: (L3.map cZ.m ++ L4.map cZ.m):=by
 have lt:∀ {i:Nat} {o:O},Z[i]? = some o -> i < m:=fun e=>Nat.lt_of_lt_of_le (List.getElem?_eq_some_iff.1 e).1 hm
 have h0:=lt h.rules
 have h1:=lt h.iT
 have h2:=lt h.all.map
 have h3:=lt h.jH.map
 have h4:=lt h.i_.map
 intro hx
 simp only [List.mem_cons,List.mem_append,List.mem_map] at hx
 rcases hx with e | e | e | e | e | ⟨e,he,e'⟩ | ⟨e,he,e'⟩
 ·omega
 ·omega
 ·omega
 ·omega
 ·omega
 ·have:=lt (h.jH.sets e he).map; omega
 ·have:=lt (h.i_.sets e he).map; omega
theorem iF.new {Z:Sg} {b:Nat} {L:List cZ} {x:a_} {s m:Nat} (h:iF Z b L) (hx:bI L x = none) (hs:Lb.cM Z s m []) (hb:b ∉ L.map cZ.m) (hm:m ≠ b):iF (Z.set b (.map ((L ++ [cZ.mk x s m []]).map nM))) b (L ++ [cZ.mk x s m []]):=by
 have k:∀ (j:Nat) (o:O),j ≠ b -> Z[j]? = some o -> (Z.set b (.map ((L ++ [cZ.mk x s m []]).map nM)))[j]? = some o:=fun j o hj ho=>by
  rw [List.getElem?_set_ne (Ne.symm hj)]; exact ho
 refine ⟨List.getElem?_set_self (List.getElem?_eq_some_iff.1 h.map).1,fun e he=>?_,?_⟩
 ·rcases List.mem_append.1 he with he | he
  ·exact cM.keep (h.sets e he) h.map (fun e'=>hb (List.mem_map.2 ⟨e,he,e'⟩)) k
  ·rw [List.mem_singleton.1 he]
   exact cM.keep hs h.map hm k
 ·rw [List.map_append,List.nodup_append]
  refine ⟨h.nodup,by simp,fun y hy z hz e=>?_⟩
  obtain ⟨a,ha,rfl⟩:=List.mem_map.1 hy
  have hz:z = x:=by simpa using hz
  have:=List.find?_eq_none.1 hx a ha
  simp [<- hz,<- e] at this
theorem mZ.Pd {{Z σ1:Sg}} {{gb m0 m1 sa ma b3 b4:Nat}} {{es0 es1:List (V × V)}} {{A:List a_}} {{L3 L4:List cZ}} (h:mZ E Z gb m0 m1 sa ma b3 b4 es0 es1 A L3 L4) {x:a_} (hx:bI L3 x = none) {s m:Nat} (k1:Lb.rY Z σ1) (hs:Lb.cM σ1 s m []) (hm:Z.length <= m):mZ E (σ1.set b3 (.map ((L3 ++ [cZ.mk x s m []]).map nM))) gb m0 m1 sa ma b3 b4 es0 es1 A (L3 ++ [cZ.mk x s m []]) L4:=by
 have h1:=h.nJ k1
 have fresh:=h.below hm
 have hx1:=h1.jH.map
 have sep:=h.sep
 simp only [List.nodup_cons,List.mem_cons,List.mem_append,not_or] at sep
 obtain ⟨⟨-,-,a3,-⟩,⟨-,b3',-⟩,⟨c3,-⟩,⟨n3,n4,n5⟩,-⟩:=sep
 have hmb:m ≠ b3:=fun e=>fresh (by rw [e]; simp)
 have new:=iF.new h1.jH hx hs n4 hmb
 have ng:gb ≠ b3:=fun e=>by
  have:=h1.g
  rw [e,hx1] at this
  cases this
 have k:∀ (j:Nat) (o:O),j ≠ b3 -> σ1[j]? = some o -> (σ1.set b3 (.map ((L3 ++ [cZ.mk x s m []]).map nM)))[j]? = some o:=fun j o hj ho=>by
  rw [List.getElem?_set_ne (Ne.symm hj)]; exact ho
 have hp:(m0 :: m1 :: ma :: b3 :: b4 :: ((L3 ++ [cZ.mk x s m []]).map cZ.m ++ L4.map cZ.m)).Perm (m :: (m0 :: m1 :: ma :: b3 :: b4 :: (L3.map cZ.m ++ L4.map cZ.m))):=by simpa using List.perm_middle (l₁:=m0 :: m1 :: ma :: b3 :: b4 :: L3.map cZ.m) (a:=m) (l₂:=L4.map cZ.m)
 exact ⟨k _ _ ng h1.g,k _ _ a3 h1.rules,k _ _ b3' h1.iT,cM.keep h1.all hx1 c3 k,new,h1.i_.keep hx1 (fun e=>n3 e.symm) n5 k,hp.nodup_iff.2 (List.nodup_cons.2 ⟨fresh,h.sep⟩)⟩
theorem mZ.OG {{Z σ1:Sg}} {{gb m0 m1 sa ma b3 b4:Nat}} {{es0 es1:List (V × V)}} {{A:List a_}} {{L3 L4:List cZ}} (h:mZ E Z gb m0 m1 sa ma b3 b4 es0 es1 A L3 L4) {x:a_} (hx:bI L4 x = none) {s m:Nat} (k1:Lb.rY Z σ1) (hs:Lb.cM σ1 s m []) (hm:Z.length <= m):mZ E (σ1.set b4 (.map ((L4 ++ [cZ.mk x s m []]).map nM))) gb m0 m1 sa ma b3 b4 es0 es1 A L3 (L4 ++ [cZ.mk x s m []]):=by
 have h1:=h.nJ k1
 have fresh:=h.below hm
 have hx1:=h1.i_.map
 have sep:=h.sep
 simp only [List.nodup_cons,List.mem_cons,List.mem_append,not_or] at sep
 obtain ⟨⟨-,-,-,a3,-⟩,⟨-,-,b3',-⟩,⟨-,c3,-⟩,⟨n3,-,-⟩,⟨n4,n5⟩,-⟩:=sep
 have hmb:m ≠ b4:=fun e=>fresh (by rw [e]; simp)
 have new:=iF.new h1.i_ hx hs n5 hmb
 have ng:gb ≠ b4:=fun e=>by
  have:=h1.g
  rw [e,hx1] at this
  cases this
 have k:∀ (j:Nat) (o:O),j ≠ b4 -> σ1[j]? = some o -> (σ1.set b4 (.map ((L4 ++ [cZ.mk x s m []]).map nM)))[j]? = some o:=fun j o hj ho=>by
  rw [List.getElem?_set_ne (Ne.symm hj)]; exact ho
 have hp:(m0 :: m1 :: ma :: b3 :: b4 :: (L3.map cZ.m ++ (L4 ++ [cZ.mk x s m []]).map cZ.m)).Perm (m :: (m0 :: m1 :: ma :: b3 :: b4 :: (L3.map cZ.m ++ L4.map cZ.m))):=by simpa using List.perm_middle (l₁:=m0 :: m1 :: ma :: b3 :: b4 :: (L3.map cZ.m ++ L4.map cZ.m)) (a:=m) (l₂:=[])
 exact ⟨k _ _ ng h1.g,k _ _ a3 h1.rules,k _ _ b3' h1.iT,cM.keep h1.all hx1 c3 k,h1.jH.keep hx1 n3 n4 k,new,hp.nodup_iff.2 (List.nodup_cons.2 ⟨fresh,h.sep⟩)⟩
end
end
section
section
variable {E:Env} {Z:Sg} {K:V -> Sg -> Prop}
theorem VF (h:bK E) (h':sM E) (hl:Lb.eS E) {Y:Sg} {{gb m0 m1 sa ma b3 b4:Nat}} {{es0 es1:List (V × V)}} {{A:List a_}} {{L3 L4:List cZ}} (ga:mZ E Y gb m0 m1 sa ma b3 b4 es0 es1 A L3 L4) {x y:a_} {n0 n1:Nat} (hx:Y[n0]? = some (O.cells 46 [.bool x.1,.str x.2] true)) (hy:Y[n1]? = some (O.cells 46 [.bool y.1,.str y.2] true)) (hA:A.length <= 1000000) (F:FT) (g0:F.get 0 = .ref gb 0) (g4:F.get 4 = .ref n0 0) (g5:F.get 5 = .ref n1 0) {st:List mE} {Q:Ax.X -> Fr -> Sg -> Prop}
  (hk:∀ F' τ',(∀ k,k ∈ [0,4,5] -> F'.get k = F.get k) -> mZ E τ' gb m0 m1 sa ma b3 b4 es0 es1 (keys A [x,y]) L3 L4 -> τ'[n0]? = some (O.cells 46 [.bool x.1,.str x.2] true) -> τ'[n1]? = some (O.cells 46 [.bool y.1,.str y.2] true) -> Lb.dN Y τ' -> M E st .normal ⟨57,F'⟩ τ' Q):Ax.R E (.region 1 (opsOf (cutAt [1,0] (aA Tryz.f73).code)) true) st ⟨57,F⟩ Y Q:=by
 have ga1:=ga.app (O.cells 46 [.bool x.1,.str x.2,.bool y.1,.str y.2] true)
 have hx1:=aN (x:=O.cells 46 [.bool x.1,.str x.2,.bool y.1,.str y.2] true) hx
 have hy1:=aN (x:=O.cells 46 [.bool x.1,.str x.2,.bool y.1,.str y.2] true) hy
 have hsv:Lb.SV (Y ++ [O.cells 46 [.bool x.1,.str x.2,.bool y.1,.str y.2] true]) (.sl Y.length 0 2 none) [x,y]:=.inr (.inr ⟨Y.length,_,true,rfl,aO,rfl⟩)
 obtain ⟨n,r,τ2,hcall,hr,hset,hkp⟩:=Lb.Of hl ga1.all hsv (show 2 <= 10000000000 by omega) (by omega)
 have ga2:=ga1.more hset hkp
 have hma:=ga1.all.map
 have ne:∀ {k:Nat} {t:Nat} {cs:List V} {ex:Bool},(Y ++ [O.cells 46 [.bool x.1,.str x.2,.bool y.1,.str y.2] true])[k]? = some (.cells t cs ex) -> k ≠ ma:=fun hk e=>by
  rw [e,hma] at hk
  cases hk
 have hx2:=hkp _ _ (ne hx1) hx1
 have hy2:=hkp _ _ (ne hy1) hy1
 have g:=ga.g
 have g1:=ga1.g
 have vr:sJ 12 (.ref sa 0) (.ref sa 0) = true:=by unfold sJ; simp
 have key:∃ F',cG E (ev E n) (opsOf (cutAt [1,0] (aA Tryz.f73).code)) ⟨57,F⟩ Y = some (⟨57,F'⟩,τ2) /\ (∀ k,k ∈ [0,4,5] -> F'.get k = F.get k):=by
  unfold cG
  rw [h'.Tn,h'.UN]
  simp only [aA,Tryz.f73,KP,Ax.loadAt,↓reduceIte,Nat.reduceEqDiff,Nat.reduceLT,Nat.reduceLeDiff,Nat.reduceAdd,Nat.reduceMul,reduceCtorEq,h.CV,h.eU,opsOf,cutAt,Fz.lits,iD,bH,bY,kB,Ax.comp,Ax.last,iG,Ax.again,Ax.fill,gX,Nat.zero_mul,hl.sK,h'.lS,g0,g4,g5,hx,hy,g,g1,hcall,vr]
  refine ⟨_,rfl,fun k hk=>?_⟩
  simp only [List.mem_cons,List.not_mem_nil,or_false] at hk
  rcases hk with rfl | rfl | rfl <;> simp +decide only [GS]
 obtain ⟨F',hD,hF⟩:=key
 exact Eq.mpr (iX hD) (hk F' τ2 hF ga2 hx2 hy2 ((Lb.dN.app Y _).trans (Lb.Kp.tM hkp hma)))
end
end
section
section
variable {E:Env} {Z:Sg} {K:V -> Sg -> Prop}
theorem fR {L:List cZ} {x:a_} {e:cZ} (h:bI L x = some e):e ∈ L /\ x = e.key:=by
 unfold bI at h
 exact ⟨List.mem_of_find?_eq_some h,by have:=List.find?_some h; simpa using this⟩
theorem Jr (h:bK E) (h':sM E) (hl:Lb.eS E) {Y:Sg} {nb mb:Nat} {L:List cZ} {x y:a_} {e:cZ} (hm:iF Y mb L) (he:bI L x = some e) (hb:Y[nb]? = some (O.cells 144 [.mp mb,.bool x.1,.str x.2,.bool y.1,.str y.2] true)) (hks:e.ks.length <= 1000000) (hmb:mb ≠ e.m) (F:FT) (g7:F.get 7 = .ref nb 0) {st:List mE} {Q:Ax.X -> Fr -> Sg -> Prop}
  (hk:∀ F' τ',(∀ k,k ∈ [0,4,5,7,30,31,32] -> F'.get k = F.get k) -> Lb.cM τ' e.s e.m (keys e.ks [y]) -> Lb.Kp (Y ++ [O.cells 46 [.bool y.1,.str y.2] true]) τ' e.m -> M E st .normal ⟨57,F'⟩ τ' Q):Ax.R E (.region 7 (opsOf (cutAt [1,1,1,2,2,1,1,0,2,1,1] (aA Tryz.f73).code)) true) st ⟨57,F⟩ Y Q:=by
 obtain ⟨hme,hxe⟩:=fR he
 have hm1:=hm.app (O.cells 46 [.bool y.1,.str y.2] true)
 have hb1:=aN (x:=O.cells 46 [.bool y.1,.str y.2] true) hb
 have hs1:=hm1.sets e hme
 have hsv:Lb.SV (Y ++ [O.cells 46 [.bool y.1,.str y.2] true]) (.sl Y.length 0 1 none) [y]:=.inr (.inr ⟨Y.length,_,true,rfl,aO,rfl⟩)
 obtain ⟨n,r,τ2,hcall,hr,hset,hkp⟩:=Lb.Of hl hs1 hsv (show 1 <= 10000000000 by omega) (by omega)
 have ne:nb ≠ e.m:=fun e'=>by
  have:=hs1.map
  rw [<- e',hb1] at this
  cases this
 have lk:lookup E Y 105 (.mp mb) (.agg [.bool x.1,.str x.2]) false = some (.ref e.s 0):=by
  have:=xM h' hl hm x
  rw [he] at this
  exact this
 have lk1:lookup E (Y ++ [O.cells 46 [.bool y.1,.str y.2] true]) 105 (.mp mb) (.agg [.bool x.1,.str x.2]) false = some (.ref e.s 0):=by
  have:=xM h' hl hm1 x
  rw [he] at this
  exact this
 have lk2:lookup E τ2 105 (.mp mb) (.agg [.bool x.1,.str x.2]) false = some (.ref e.s 0):=by
  have:=DO h' hl (hkp _ _ hmb hm1.map) x
  rw [he] at this
  exact this
 have vr:sJ 12 (.ref e.s 0) (.ref e.s 0) = true:=by unfold sJ; simp
 have vm:sJ 12 (.mp mb) (.mp mb) = true:=by unfold sJ; simp
 have vl:sJ 12 (.agg [.bool x.1,.str x.2]) (.agg [.bool x.1,.str x.2]) = true:=oS fun z hz=>by
  simp only [List.mem_cons,List.not_mem_nil,or_false] at hz
  rcases hz with rfl | rfl
  ·show decide (x.1 = x.1) = true
   simp
  ·exact zW 10 x.2
 have key:∃ F',cG E (ev E n) (opsOf (cutAt [1,1,1,2,2,1,1,0,2,1,1] (aA Tryz.f73).code)) ⟨57,F⟩ Y = some (⟨57,F'⟩,τ2) /\ (∀ k,k ∈ [0,4,5,7,30,31,32] -> F'.get k = F.get k):=by
  unfold cG
  rw [h'.Tl,h'.UL]
  simp only [aA,Tryz.f73,KP,Ax.loadAt,↓reduceIte,Nat.reduceEqDiff,Nat.reduceLT,Nat.reduceLeDiff,Nat.reduceAdd,Nat.reduceMul,reduceCtorEq,h.CV,h.eU,opsOf,cutAt,Fz.lits,iD,bH,bY,kB,Ax.comp,Ax.last,iG,Ax.again,Ax.fill,gX,Nat.zero_mul,h'.nU,h'.wK,g7,hb,hb1,lk,lk1,hcall,vr,vm,vl]
  refine ⟨_,rfl,fun k hk=>?_⟩
  simp only [List.mem_cons,List.not_mem_nil,or_false] at hk
  rcases hk with rfl | rfl | rfl | rfl | rfl | rfl | rfl <;> simp +decide only [GS]
 obtain ⟨F',hD,hF⟩:=key
 exact Eq.mpr (iX hD) (hk F' τ2 hF hset hkp)
end
end
section
section
variable {E:Env} {Z:Sg} {K:V -> Sg -> Prop}
theorem QO (h:bK E) (h':sM E) (hl:Lb.eS E) {Y:Sg} {nb mb:Nat} {L:List cZ} {x y:a_} (hm:iF Y mb L) (he:bI L x = none) (hb:Y[nb]? = some (O.cells 144 [.mp mb,.bool x.1,.str x.2,.bool y.1,.str y.2] true)) (F:FT) (g7:F.get 7 = .ref nb 0) {st:List mE} {Q:Ax.X -> Fr -> Sg -> Prop}
  (hk:∀ F' τ1 m,(∀ k,k ∈ [0,4,5,7,30,31,32] -> F'.get k = F.get k) -> Lb.rY Y τ1 -> Lb.cM τ1 Y.length m [] -> Y.length < m -> M E st .normal ⟨57,F'⟩ (τ1.set mb (.map ((L ++ [cZ.mk x Y.length m []]).map nM))) Q):Ax.R E (.region 6 (opsOf (cutAt [1,1,1,2,2,1,1,0,2,1,0,1,0] (aA Tryz.f73).code)) true) st ⟨57,F⟩ Y Q:=by
 obtain ⟨n,r,τ1,hcall,m,rfl,hset,hlt,nJ⟩:=Lb.QY hl (Z:=Y) (v:=.aD) (l:=[]) (.inl ⟨rfl,rfl⟩) (by simp)
 have hb1:=nJ _ _ hb
 have put:=EA h' hl (hm.nJ nJ) he (s:=Y.length) (m:=m) (ks:=[])
 unfold oH at put
 have vm:sJ 12 (.mp mb) (.mp mb) = true:=by unfold sJ; simp
 have vl:sJ 12 (.agg [.bool x.1,.str x.2]) (.agg [.bool x.1,.str x.2]) = true:=oS fun z hz=>by
  simp only [List.mem_cons,List.not_mem_nil,or_false] at hz
  rcases hz with rfl | rfl
  ·show decide (x.1 = x.1) = true
   simp
  ·exact zW 10 x.2
 have key:∃ F',cG E (ev E n) (opsOf (cutAt [1,1,1,2,2,1,1,0,2,1,0,1,0] (aA Tryz.f73).code)) ⟨57,F⟩ Y = some (⟨57,F'⟩,τ1.set mb (.map ((L ++ [cZ.mk x Y.length m []]).map nM))) /\ (∀ k,k ∈ [0,4,5,7,30,31,32] -> F'.get k = F.get k):=by
  unfold cG
  rw [h'.Tm,h'.UM]
  simp only [aA,Tryz.f73,KP,Ax.loadAt,↓reduceIte,Nat.reduceEqDiff,Nat.reduceLT,Nat.reduceLeDiff,Nat.reduceAdd,reduceCtorEq,h.eU,opsOf,cutAt,iD,bH,bY,kB,Ax.comp,Ax.last,iG,Ax.again,aP,h'.nU,h'.wK,g7,hb,hb1,hcall,put,vm,vl]
  refine ⟨_,rfl,fun k hk=>?_⟩
  simp only [List.mem_cons,List.not_mem_nil,or_false] at hk
  rcases hk with rfl | rfl | rfl | rfl | rfl | rfl | rfl <;> simp +decide only [GS]
 obtain ⟨F',hD,hF⟩:=key
 exact Eq.mpr (iX hD) (hk F' τ1 m hF nJ hset hlt)
end
end
section
section
variable {E:Env} {Z:Sg} {K:V -> Sg -> Prop}
theorem N8 (h:bK E) (h':sM E) {g g1:Bool} {c0 c2 c3 c4:V} {es:List (V × V)} {get:bA -> Option V} {f:bA} (hs:SM E es get) {v:V} (hv:(get f = none /\ v = .fI [.str [],.bool false]) \/ ∃ n,get f = some (.str n) /\ v = .fI [.str n,.bool true]):aB E 37 [.dB g [c0,.imp g1 es,c2,c3,c4],.str f] Z K = K v Z:=by
 refine aB.of ?_
 have hi:Ax.bB (.dB g [c0,.imp g1 es,c2,c3,c4]) = true:=rfl
 have ew:=cR (Z:=Z) (ty:=E.ty) hi (bZ hi)
 rw [aH h'.hs37 h'.sp37 h'.fn37 h'.md37 (args':=[.dB g [c0,.imp g1 es,c2,c3,c4],.str f]) (by simp only [aU,cJ,ew]),aW (by kernel_rfl)]
 have hlk:=fun Z=>Jq (Z:=Z) (x:=.imp g1 es) h rfl hs f
 have en:lQ E 41 true (.dB g [c0,.imp g1 es,c2,c3,c4]) .fF = some false:=by unfold lQ; rw [h'.Kb]
 rcases hv with ⟨hg,rfl⟩ | ⟨n,hg,rfl⟩
 ·rw [hg] at hlk
  simp only [aA,Tryz.f37,KP,Ax.loadAt,↓reduceIte,Nat.reduceEqDiff,Nat.reduceLT,Nat.reduceAdd,reduceCtorEq,h.uW,jX,en,hlk,h'.lS]
  exact rfl
 ·rw [hg] at hlk
  simp only [aA,Tryz.f37,KP,Ax.loadAt,↓reduceIte,Nat.reduceEqDiff,Nat.reduceLT,Nat.reduceAdd,reduceCtorEq,h.uW,jX,en,hlk,h'.lS]
  exact rfl
end
end
section
section
variable {E:Env} {Z:Sg} {K:V -> Sg -> Prop}
def qB (L:List cZ) (z:a_):List a_:=match bI L z with
 | some e=>e.ks
 | none=>[]
theorem FI (L:List cZ) (x:a_) (ks:List a_) (z:a_):bI (oV L x ks) z = (bI L z).map fun e=>if e.key = x then { e with ks:=ks } else e:=by
 unfold bI oV
 induction L with
 | nil=>rfl
 | cons e L ih=>
  rw [List.map_cons,List.find?_cons,List.find?_cons]
  have hk:(if e.key = x then { e with ks:=ks } else e).key = e.key:=by
   by_cases h:e.key = x
   ·rw [if_pos h]
   ·rw [if_neg h]
  rw [hk]
  by_cases hz:z = e.key
  ·rw [decide_eq_true hz]; rfl
  ·rw [decide_eq_false hz]; exact ih
theorem Ps {L:List cZ} {e:cZ} {x:a_} (he:bI L x = some e) (ks:List a_) (z:a_):qB (oV L e.key ks) z = if z = x then ks else qB L z:=by
 obtain ⟨hme,hxe⟩:=fR he
 unfold qB
 rw [FI]
 by_cases hz:z = x
 ·rw [if_pos hz,hz,he]
  show (match (some (if e.key = e.key then { e with ks:=ks } else e):Option cZ) with
   | some e=>e.ks
   | none=>[]) = ks
  rw [if_pos rfl]
 ·rw [if_neg hz]
  cases hq:bI L z with
  | none=>rfl
  | some q=>
   obtain ⟨-,hzq⟩:=fR hq
   show (if q.key = e.key then { q with ks:=ks } else q).ks = q.ks
   rw [if_neg (fun e'=>hz (by rw [hzq,e',hxe]))]
theorem wQ (L:List cZ) (e:cZ) (hx:bI L e.key = none) (z:a_):bI (L ++ [e]) z = if z = e.key then some e else bI L z:=by
 unfold bI at *
 rw [List.find?_append]
 by_cases hz:z = e.key
 ·rw [if_pos hz,hz,hx,List.find?_cons,decide_eq_true rfl]; rfl
 ·rw [if_neg hz,List.find?_cons,decide_eq_false hz,List.find?_nil]
  cases List.find? (fun e=>decide (z = e.key)) L <;> rfl
structure Grow (L:List cZ) (x y:a_) (L':List cZ):Prop where
 mem:∀ z w,w ∈ qB L' z ↔ w ∈ qB L z \/ (z = x /\ w = y)
 len:∀ n,(∀ e ∈ L,e.ks.length <= n) -> ∀ e ∈ L',e.ks.length <= n + 1
 key:∀ z,z ∈ L'.map cZ.key ↔ z ∈ L.map cZ.key \/ z = x
theorem R9 {L:List cZ} {x:a_}:x ∈ L.map cZ.key ↔ ∃ e,bI L x = some e:=by
 constructor
 ·intro h
  obtain ⟨e,he,rfl⟩:=List.mem_map.1 h
  cases hq:bI L e.key with
  | some q=>exact ⟨q,rfl⟩
  | none=>
   have:=List.find?_eq_none.1 hq e he
   simp at this
 ·rintro ⟨e,he⟩
  obtain ⟨h1,h2⟩:=fR he
  exact List.mem_map.2 ⟨e,h1,h2.symm⟩
theorem Nk (l:List a_) (y:a_):keys l [y] = jJ l y:=rfl
theorem KQ (l:List a_) (y:a_):(jJ l y).length <= l.length + 1:=by
 unfold jJ
 by_cases h:y ∈ l
 ·rw [if_pos h]; omega
 ·rw [if_neg h,List.length_append]; exact Nat.le_refl _
theorem Grow.up {L:List cZ} {e:cZ} {x:a_} (he:bI L x = some e) (y:a_):Grow L x y (oV L e.key (keys e.ks [y])):=by
 obtain ⟨hme,hxe⟩:=fR he
 refine ⟨fun z w=>?_,fun n hn a ha=>?_,fun z=>?_⟩
 ·rw [Ps he]
  by_cases hz:z = x
  ·have:qB L z = e.ks:=by unfold qB; rw [hz,he]
   rw [if_pos hz,this,Nk,DL]
   exact ⟨fun h=>h.imp id fun h=>⟨hz,h⟩,fun h=>h.imp id And.right⟩
  ·rw [if_neg hz]
   exact ⟨.inl,fun h=>h.elim id fun h=>absurd h.1 hz⟩
 ·obtain ⟨a0,ha0,rfl⟩:=List.mem_map.1 ha
  by_cases hk:a0.key = e.key
  ·rw [if_pos hk]
   have:=KQ e.ks y
   have:=hn e hme
   show (jJ e.ks y).length <= n + 1
   omega
  ·rw [if_neg hk]
   have:=hn a0 ha0
   omega
 ·rw [De]
  refine ⟨.inl,fun h=>h.elim id fun h=>?_⟩
  rw [h]
  exact R9.2 ⟨e,he⟩
theorem Grow.new {L:List cZ} {x:a_} {s m:Nat} (hx:bI L x = none) (y:a_):bI (L ++ [cZ.mk x s m []]) x = some (cZ.mk x s m []) /\ Grow L x y (oV (L ++ [cZ.mk x s m []]) x (keys [] [y])):=by
 have he:bI (L ++ [cZ.mk x s m []]) x = some (cZ.mk x s m []):=by rw [wQ _ _ hx,if_pos rfl]
 have g:=Grow.up he y
 refine ⟨he,fun z w=>?_,fun n hn a ha=>?_,fun z=>?_⟩
 ·rw [g.mem]
  have:qB (L ++ [cZ.mk x s m []]) z = qB L z:=by
   unfold qB
   rw [wQ _ _ hx]
   by_cases hz:z = x
   ·rw [if_pos hz,hz,hx]
   ·rw [if_neg hz]
  rw [this]
 ·refine g.len n (fun e he=>?_) a ha
  rcases List.mem_append.1 he with he | he
  ·exact hn e he
  ·rw [List.mem_singleton.1 he]; exact Nat.zero_le _
 ·rw [g.key,List.map_append,List.mem_append]
  constructor
  ·rintro ((h | h) | h)
   ·exact .inl h
   ·exact .inr (by simpa using h)
   ·exact .inr h
  ·exact fun h=>h.imp .inl id
end
end
section
section
variable {E:Env} {Z:Sg} {K:V -> Sg -> Prop}
theorem Kp.tM {Z σ':Sg} {m:Nat} {es:List (V × V)} (h:Lb.Kp Z σ' m) (hm:Z[m]? = some (.map es)):Lb.dN Z σ':=Lb.Kp.tM h hm
theorem dN.AU (Z:Sg) (y:O):Lb.dN Z (Z ++ [y]):=Lb.dN.app Z [y]
theorem map_lt {Z:Sg} {b:Nat} {o:O} (h:Z[b]? = some o):b < Z.length:=(List.getElem?_eq_some_iff.1 h).1
theorem Po (h:bK E) (h':sM E) (hl:Lb.eS E) {Y:Sg} {gb m0 m1 sa ma b3 b4:Nat} {es0 es1:List (V × V)} {A:List a_} {L3 L4:List cZ} (ga:mZ E Y gb m0 m1 sa ma b3 b4 es0 es1 A L3 L4) {x y:a_} {blk:Nat} (hb:Y[blk]? = some (O.cells 144 [.mp b3,.bool x.1,.str x.2,.bool y.1,.str y.2,.mp b4,.bool y.1,.str y.2,.bool x.1,.str x.2] true)) (hks:∀ e ∈ L3,e.ks.length <= 1000000) (F:FT) (g30:F.get 30 = .sl blk 0 2 none) (g32:F.get 32 = .int .i64 0) {st:List mE} {Q:Ax.X -> Fr -> Sg -> Prop}
  (hk:∀ F' τ' L',(∀ k,k ∈ [0,4,5,30,31,32] -> F'.get k = F.get k) -> mZ E τ' gb m0 m1 sa ma b3 b4 es0 es1 A L' L4 -> Grow L3 x y L' -> Lb.dN Y τ' -> M E st .normal ⟨57,F'⟩ τ' Q):Ax.R E (cutAt [1,1,1,2,2,1,1,0,2] (aA Tryz.f73).code) st ⟨57,F⟩ Y Q:=by
 have ia:indexAddr E 145 (.sl blk 0 2 none) (.int .i64 0) = some (.ref blk 0):=by unfold Ax.indexAddr; simp only [h'.IL,h'.wK]; rfl
 have ga1:=ga.app (O.cells 144 [.mp b3,.bool x.1,.str x.2,.bool y.1,.str y.2] true)
 have hnb:(Y ++ [O.cells 144 [.mp b3,.bool x.1,.str x.2,.bool y.1,.str y.2] true])[Y.length]? = some (O.cells 144 [.mp b3,.bool x.1,.str x.2,.bool y.1,.str y.2] true):=aO
 have lk:=xM h' hl ga1.jH x
 unfold oH at lk
 rcases hq:bI L3 x with _ | e
 ·rw [hq] at lk
  have r7:=fun (ρ:Sg) (m:Nat) gm he hbx hln hne F g7 st Q hk=>Jr (Y:=ρ) (nb:=Y.length) (mb:=b3) (L:=L3 ++ [cZ.mk x (Y ++ [O.cells 144 [.mp b3,.bool x.1,.str x.2,.bool y.1,.str y.2] true]).length m []]) (x:=x) (y:=y) (e:=cZ.mk x (Y ++ [O.cells 144 [.mp b3,.bool x.1,.str x.2,.bool y.1,.str y.2] true]).length m []) h h' hl gm he hbx hln hne F g7 (st:=st) (Q:=Q) hk
  have r6:=fun F g7 st Q hk=>QO (Y:=Y ++ [O.cells 144 [.mp b3,.bool x.1,.str x.2,.bool y.1,.str y.2] true]) (nb:=Y.length) (mb:=b3) (L:=L3) (x:=x) (y:=y) h h' hl ga1.jH hq hnb F g7 (st:=st) (Q:=Q) hk
  rw [show cutAt [1,1,1,2,2,1,1,0,2] (aA Tryz.f73).code = .seq (cutAt [1,1,1,2,2,1,1,0,2,0] (aA Tryz.f73).code) (.seq (.seq (cutAt [1,1,1,2,2,1,1,0,2,1,0,0] (aA Tryz.f73).code) (.cond (.tmp 41) (cutAt [1,1,1,2,2,1,1,0,2,1,0,1,0] (aA Tryz.f73).code) .skip)) (cutAt [1,1,1,2,2,1,1,0,2,1,1] (aA Tryz.f73).code)) from rfl]
  rw [show cutAt [1,1,1,2,2,1,1,0,2,1,0,1,0] (aA Tryz.f73).code = .region 6 (opsOf (cutAt [1,1,1,2,2,1,1,0,2,1,0,1,0] (aA Tryz.f73).code)) true from rfl,show cutAt [1,1,1,2,2,1,1,0,2,1,1] (aA Tryz.f73).code = .region 7 (opsOf (cutAt [1,1,1,2,2,1,1,0,2,1,1] (aA Tryz.f73).code)) true from rfl]
  generalize opsOf (cutAt [1,1,1,2,2,1,1,0,2,1,0,1,0] (aA Tryz.f73).code) = O6 at r6 ⊢
  generalize opsOf (cutAt [1,1,1,2,2,1,1,0,2,1,1] (aA Tryz.f73).code) = O7 at r7 ⊢
  have e77:lQ E 77 true .fF .fF = some true:=by unfold lQ; rw [hl.sK]
  simp only [aA,Tryz.f73,KP,Ax.loadAt,Ax.storeAt,↓reduceIte,Nat.reduceEqDiff,Nat.reduceLT,Nat.reduceLeDiff,Nat.reduceAdd,reduceCtorEq,h.eU,e77,cutAt,h'.wK,h'.nU,g30,g32,ia,hb,hnb,lk,aO,cK]
  refine r6 _ ?_ _ _ (fun F1 τ1 m hF1 nJ hset hlt=>?_)
  ·simp +decide only [GS]
  have hx1:=ga1.jH.map
  have ga2:=ga1.Pd hq nJ hset (Nat.le_of_lt hlt)
  have hmb:b3 < (Y ++ [O.cells 144 [.mp b3,.bool x.1,.str x.2,.bool y.1,.str y.2] true]).length:=map_lt hx1
  have hnb2:(τ1.set b3 (.map ((L3 ++ [cZ.mk x (Y ++ [O.cells 144 [.mp b3,.bool x.1,.str x.2,.bool y.1,.str y.2] true]).length m []]).map nM)))[Y.length]? = some (O.cells 144 [.mp b3,.bool x.1,.str x.2,.bool y.1,.str y.2] true):=by
   rw [List.getElem?_set_ne]
   ·exact nJ _ _ hnb
   ·intro e
    have q:=hx1.symm.trans ((congrArg (fun i=>(Y ++ [O.cells 144 [.mp b3,.bool x.1,.str x.2,.bool y.1,.str y.2] true])[i]?) e).trans hnb)
    cases q
  rw [VC]
  refine r7 _ m ga2.jH (Grow.new hq y).1 hnb2 (Nat.zero_le _) (show b3 ≠ m by omega) _ ?_ _ _ (fun F2 τ2 hF2 hset2 kp=>?_)
  ·exact (hF1 7 (by simp)).trans (by simp +decide only [GS])
  have gb2:=ga2.app (O.cells 46 [.bool y.1,.str y.2] true)
  have ga3:=gb2.MV (fR (Grow.new hq y).1).1 hset2 kp
  refine hk _ _ _ (fun k hk=>?_) ga3 (Grow.new hq y).2 ?_
  ·have h7:k ∈ [0,4,5,7,30,31,32]:=by
    simp only [List.mem_cons,List.not_mem_nil,or_false] at hk ⊢
    omega
   refine (hF2 k h7).trans ((hF1 k h7).trans ?_)
   simp only [List.mem_cons,List.not_mem_nil,or_false] at hk
   rcases hk with rfl | rfl | rfl | rfl | rfl | rfl <;> simp +decide only [GS]
  ·exact ((((dN.AU Y _).trans nJ.tM).trans (Lb.dN.Ew (nJ _ _ hx1))).trans (dN.AU _ _)).trans (Lb.Kp.tM kp (gb2.jH.sets _ (fR (Grow.new hq y).1).1).map)
 ·rw [hq] at lk
  have e77:lQ E 77 true (.ref e.s 0) .fF = some false:=by unfold lQ; rw [hl.sK]
  obtain ⟨hme,hxe⟩:=fR hq
  obtain ⟨-,-,f3⟩:=ga1.facts
  have hmb:=f3 e.m (by first | exact .inl (List.mem_map.2 ⟨e,hme,rfl⟩) | exact .inr (List.mem_map.2 ⟨e,hme,rfl⟩))
  have r7:=fun F g7 st Q hk=>Jr (Y:=Y ++ [O.cells 144 [.mp b3,.bool x.1,.str x.2,.bool y.1,.str y.2] true]) (nb:=Y.length) (mb:=b3) (L:=L3) (x:=x) (y:=y) (e:=e) h h' hl ga1.jH hq hnb (hks e hme) (by first | exact hmb.2.2.2.1 | exact hmb.2.2.2.2) F g7 (st:=st) (Q:=Q) hk
  rw [show cutAt [1,1,1,2,2,1,1,0,2] (aA Tryz.f73).code = .seq (cutAt [1,1,1,2,2,1,1,0,2,0] (aA Tryz.f73).code) (.seq (.seq (cutAt [1,1,1,2,2,1,1,0,2,1,0,0] (aA Tryz.f73).code) (.cond (.tmp 41) (cutAt [1,1,1,2,2,1,1,0,2,1,0,1,0] (aA Tryz.f73).code) .skip)) (cutAt [1,1,1,2,2,1,1,0,2,1,1] (aA Tryz.f73).code)) from rfl]
  rw [show cutAt [1,1,1,2,2,1,1,0,2,1,0,1,0] (aA Tryz.f73).code = .region 6 (opsOf (cutAt [1,1,1,2,2,1,1,0,2,1,0,1,0] (aA Tryz.f73).code)) true from rfl,show cutAt [1,1,1,2,2,1,1,0,2,1,1] (aA Tryz.f73).code = .region 7 (opsOf (cutAt [1,1,1,2,2,1,1,0,2,1,1] (aA Tryz.f73).code)) true from rfl]
  generalize opsOf (cutAt [1,1,1,2,2,1,1,0,2,1,0,1,0] (aA Tryz.f73).code) = O6 at ⊢
  generalize opsOf (cutAt [1,1,1,2,2,1,1,0,2,1,1] (aA Tryz.f73).code) = O7 at r7 ⊢
  simp only [aA,Tryz.f73,KP,Ax.loadAt,Ax.storeAt,↓reduceIte,Nat.reduceEqDiff,Nat.reduceLT,Nat.reduceLeDiff,Nat.reduceAdd,reduceCtorEq,h.eU,e77,cutAt,h'.wK,h'.nU,g30,g32,ia,hb,hnb,lk,aO,cK]
  refine r7 _ ?_ _ _ (fun F2 τ2 hF2 hset2 kp=>?_)
  ·simp +decide only [GS]
  have gb2:=ga1.app (O.cells 46 [.bool y.1,.str y.2] true)
  have ga3:=gb2.MV hme hset2 kp
  refine hk _ _ _ (fun k hk=>?_) ga3 (Grow.up hq y) ?_
  ·have h7:k ∈ [0,4,5,7,30,31,32]:=by
    simp only [List.mem_cons,List.not_mem_nil,or_false] at hk ⊢
    omega
   refine (hF2 k h7).trans ?_
   simp only [List.mem_cons,List.not_mem_nil,or_false] at hk
   rcases hk with rfl | rfl | rfl | rfl | rfl | rfl <;> simp +decide only [GS]
  ·exact ((dN.AU Y _).trans (dN.AU _ _)).trans (Lb.Kp.tM kp (gb2.jH.sets e hme).map)
theorem Pn (h:bK E) (h':sM E) (hl:Lb.eS E) {Y:Sg} {gb m0 m1 sa ma b3 b4:Nat} {es0 es1:List (V × V)} {A:List a_} {L3 L4:List cZ} (ga:mZ E Y gb m0 m1 sa ma b3 b4 es0 es1 A L3 L4) {x y:a_} {blk:Nat} (hb:Y[blk]? = some (O.cells 144 [.mp b3,.bool x.1,.str x.2,.bool y.1,.str y.2,.mp b4,.bool y.1,.str y.2,.bool x.1,.str x.2] true)) (hks:∀ e ∈ L4,e.ks.length <= 1000000) (F:FT) (g30:F.get 30 = .sl blk 0 2 none) (g32:F.get 32 = .int .i64 1) {st:List mE} {Q:Ax.X -> Fr -> Sg -> Prop}
  (hk:∀ F' τ' L',(∀ k,k ∈ [0,4,5,30,31,32] -> F'.get k = F.get k) -> mZ E τ' gb m0 m1 sa ma b3 b4 es0 es1 A L3 L' -> Grow L4 y x L' -> Lb.dN Y τ' -> M E st .normal ⟨57,F'⟩ τ' Q):Ax.R E (cutAt [1,1,1,2,2,1,1,0,2] (aA Tryz.f73).code) st ⟨57,F⟩ Y Q:=by
 have ia:indexAddr E 145 (.sl blk 0 2 none) (.int .i64 1) = some (.ref blk 5):=by unfold Ax.indexAddr; simp only [h'.IL,h'.wK]; rfl
 have ga1:=ga.app (O.cells 144 [.mp b4,.bool y.1,.str y.2,.bool x.1,.str x.2] true)
 have hnb:(Y ++ [O.cells 144 [.mp b4,.bool y.1,.str y.2,.bool x.1,.str x.2] true])[Y.length]? = some (O.cells 144 [.mp b4,.bool y.1,.str y.2,.bool x.1,.str x.2] true):=aO
 have lk:=xM h' hl ga1.i_ y
 unfold oH at lk
 rcases hq:bI L4 y with _ | e
 ·rw [hq] at lk
  have r7:=fun (ρ:Sg) (m:Nat) gm he hbx hln hne F g7 st Q hk=>Jr (Y:=ρ) (nb:=Y.length) (mb:=b4) (L:=L4 ++ [cZ.mk y (Y ++ [O.cells 144 [.mp b4,.bool y.1,.str y.2,.bool x.1,.str x.2] true]).length m []]) (x:=y) (y:=x) (e:=cZ.mk y (Y ++ [O.cells 144 [.mp b4,.bool y.1,.str y.2,.bool x.1,.str x.2] true]).length m []) h h' hl gm he hbx hln hne F g7 (st:=st) (Q:=Q) hk
  have r6:=fun F g7 st Q hk=>QO (Y:=Y ++ [O.cells 144 [.mp b4,.bool y.1,.str y.2,.bool x.1,.str x.2] true]) (nb:=Y.length) (mb:=b4) (L:=L4) (x:=y) (y:=x) h h' hl ga1.i_ hq hnb F g7 (st:=st) (Q:=Q) hk
  rw [show cutAt [1,1,1,2,2,1,1,0,2] (aA Tryz.f73).code = .seq (cutAt [1,1,1,2,2,1,1,0,2,0] (aA Tryz.f73).code) (.seq (.seq (cutAt [1,1,1,2,2,1,1,0,2,1,0,0] (aA Tryz.f73).code) (.cond (.tmp 41) (cutAt [1,1,1,2,2,1,1,0,2,1,0,1,0] (aA Tryz.f73).code) .skip)) (cutAt [1,1,1,2,2,1,1,0,2,1,1] (aA Tryz.f73).code)) from rfl]
  rw [show cutAt [1,1,1,2,2,1,1,0,2,1,0,1,0] (aA Tryz.f73).code = .region 6 (opsOf (cutAt [1,1,1,2,2,1,1,0,2,1,0,1,0] (aA Tryz.f73).code)) true from rfl,show cutAt [1,1,1,2,2,1,1,0,2,1,1] (aA Tryz.f73).code = .region 7 (opsOf (cutAt [1,1,1,2,2,1,1,0,2,1,1] (aA Tryz.f73).code)) true from rfl]
  generalize opsOf (cutAt [1,1,1,2,2,1,1,0,2,1,0,1,0] (aA Tryz.f73).code) = O6 at r6 ⊢
  generalize opsOf (cutAt [1,1,1,2,2,1,1,0,2,1,1] (aA Tryz.f73).code) = O7 at r7 ⊢
  have e77:lQ E 77 true .fF .fF = some true:=by unfold lQ; rw [hl.sK]
  simp only [aA,Tryz.f73,KP,Ax.loadAt,Ax.storeAt,↓reduceIte,Nat.reduceEqDiff,Nat.reduceLT,Nat.reduceLeDiff,Nat.reduceAdd,reduceCtorEq,h.eU,e77,cutAt,h'.wK,h'.nU,g30,g32,ia,hb,hnb,lk,aO,cK]
  refine r6 _ ?_ _ _ (fun F1 τ1 m hF1 nJ hset hlt=>?_)
  ·simp +decide only [GS]
  have hx1:=ga1.i_.map
  have ga2:=ga1.OG hq nJ hset (Nat.le_of_lt hlt)
  have hmb:b4 < (Y ++ [O.cells 144 [.mp b4,.bool y.1,.str y.2,.bool x.1,.str x.2] true]).length:=map_lt hx1
  have hnb2:(τ1.set b4 (.map ((L4 ++ [cZ.mk y (Y ++ [O.cells 144 [.mp b4,.bool y.1,.str y.2,.bool x.1,.str x.2] true]).length m []]).map nM)))[Y.length]? = some (O.cells 144 [.mp b4,.bool y.1,.str y.2,.bool x.1,.str x.2] true):=by
   rw [List.getElem?_set_ne]
   ·exact nJ _ _ hnb
   ·intro e
    have q:=hx1.symm.trans ((congrArg (fun i=>(Y ++ [O.cells 144 [.mp b4,.bool y.1,.str y.2,.bool x.1,.str x.2] true])[i]?) e).trans hnb)
    cases q
  rw [VC]
  refine r7 _ m ga2.i_ (Grow.new hq x).1 hnb2 (Nat.zero_le _) (show b4 ≠ m by omega) _ ?_ _ _ (fun F2 τ2 hF2 hset2 kp=>?_)
  ·exact (hF1 7 (by simp)).trans (by simp +decide only [GS])
  have gb2:=ga2.app (O.cells 46 [.bool x.1,.str x.2] true)
  have ga3:=gb2.LN (fR (Grow.new hq x).1).1 hset2 kp
  refine hk _ _ _ (fun k hk=>?_) ga3 (Grow.new hq x).2 ?_
  ·have h7:k ∈ [0,4,5,7,30,31,32]:=by
    simp only [List.mem_cons,List.not_mem_nil,or_false] at hk ⊢
    omega
   refine (hF2 k h7).trans ((hF1 k h7).trans ?_)
   simp only [List.mem_cons,List.not_mem_nil,or_false] at hk
   rcases hk with rfl | rfl | rfl | rfl | rfl | rfl <;> simp +decide only [GS]
  ·exact ((((dN.AU Y _).trans nJ.tM).trans (Lb.dN.Ew (nJ _ _ hx1))).trans (dN.AU _ _)).trans (Lb.Kp.tM kp (gb2.i_.sets _ (fR (Grow.new hq x).1).1).map)
 ·rw [hq] at lk
  have e77:lQ E 77 true (.ref e.s 0) .fF = some false:=by unfold lQ; rw [hl.sK]
  obtain ⟨hme,hxe⟩:=fR hq
  obtain ⟨-,-,f3⟩:=ga1.facts
  have hmb:=f3 e.m (by first | exact .inl (List.mem_map.2 ⟨e,hme,rfl⟩) | exact .inr (List.mem_map.2 ⟨e,hme,rfl⟩))
  have r7:=fun F g7 st Q hk=>Jr (Y:=Y ++ [O.cells 144 [.mp b4,.bool y.1,.str y.2,.bool x.1,.str x.2] true]) (nb:=Y.length) (mb:=b4) (L:=L4) (x:=y) (y:=x) (e:=e) h h' hl ga1.i_ hq hnb (hks e hme) (by first | exact hmb.2.2.2.1 | exact hmb.2.2.2.2) F g7 (st:=st) (Q:=Q) hk
  rw [show cutAt [1,1,1,2,2,1,1,0,2] (aA Tryz.f73).code = .seq (cutAt [1,1,1,2,2,1,1,0,2,0] (aA Tryz.f73).code) (.seq (.seq (cutAt [1,1,1,2,2,1,1,0,2,1,0,0] (aA Tryz.f73).code) (.cond (.tmp 41) (cutAt [1,1,1,2,2,1,1,0,2,1,0,1,0] (aA Tryz.f73).code) .skip)) (cutAt [1,1,1,2,2,1,1,0,2,1,1] (aA Tryz.f73).code)) from rfl]
  rw [show cutAt [1,1,1,2,2,1,1,0,2,1,0,1,0] (aA Tryz.f73).code = .region 6 (opsOf (cutAt [1,1,1,2,2,1,1,0,2,1,0,1,0] (aA Tryz.f73).code)) true from rfl,show cutAt [1,1,1,2,2,1,1,0,2,1,1] (aA Tryz.f73).code = .region 7 (opsOf (cutAt [1,1,1,2,2,1,1,0,2,1,1] (aA Tryz.f73).code)) true from rfl]
  generalize opsOf (cutAt [1,1,1,2,2,1,1,0,2,1,0,1,0] (aA Tryz.f73).code) = O6 at ⊢
  generalize opsOf (cutAt [1,1,1,2,2,1,1,0,2,1,1] (aA Tryz.f73).code) = O7 at r7 ⊢
  simp only [aA,Tryz.f73,KP,Ax.loadAt,Ax.storeAt,↓reduceIte,Nat.reduceEqDiff,Nat.reduceLT,Nat.reduceLeDiff,Nat.reduceAdd,reduceCtorEq,h.eU,e77,cutAt,h'.wK,h'.nU,g30,g32,ia,hb,hnb,lk,aO,cK]
  refine r7 _ ?_ _ _ (fun F2 τ2 hF2 hset2 kp=>?_)
  ·simp +decide only [GS]
  have gb2:=ga1.app (O.cells 46 [.bool x.1,.str x.2] true)
  have ga3:=gb2.LN hme hset2 kp
  refine hk _ _ _ (fun k hk=>?_) ga3 (Grow.up hq x) ?_
  ·have h7:k ∈ [0,4,5,7,30,31,32]:=by
    simp only [List.mem_cons,List.not_mem_nil,or_false] at hk ⊢
    omega
   refine (hF2 k h7).trans ?_
   simp only [List.mem_cons,List.not_mem_nil,or_false] at hk
   rcases hk with rfl | rfl | rfl | rfl | rfl | rfl <;> simp +decide only [GS]
  ·exact ((dN.AU Y _).trans (dN.AU _ _)).trans (Lb.Kp.tM kp (gb2.i_.sets e hme).map)
end
end
section
section
variable {E:Env} {Z:Sg} {K:V -> Sg -> Prop}
theorem N6 (h:bK E) (h':sM E) (hl:Lb.eS E) {Y:Sg} {gb m0 m1 sa ma b3 b4:Nat} {es0 es1:List (V × V)} {A:List a_} {L3 L4:List cZ} (ga:mZ E Y gb m0 m1 sa ma b3 b4 es0 es1 A L3 L4) {x y:a_} (hA:A.length <= 1000000) (hk3:∀ e ∈ L3,e.ks.length <= 1000000) (hk4:∀ e ∈ L4,e.ks.length <= 1000000):aB E 73 [.ref gb 0,.agg [.bool x.1,.str x.2],.agg [.bool y.1,.str y.2]] Y fun v τ'=>v = .fI [] /\ ∃ L3' L4',mZ E τ' gb m0 m1 sa ma b3 b4 es0 es1 (keys A [x,y]) L3' L4' /\ Grow L3 x y L3' /\ Grow L4 y x L4' /\ Lb.dN Y τ':=by
 rw [eF h'.hs73 h'.sp73 h'.fn73 h'.md73,aW (by kernel_rfl)]
 have rn:=fun {Y} {L3 L4} {blk} A ga hb hks F g30 g32 st Q hk=>Po (Y:=Y) (L3:=L3) (L4:=L4) (A:=A) (x:=x) (y:=y) (blk:=blk) (gb:=gb) (m0:=m0) (m1:=m1) (sa:=sa) (ma:=ma) (b3:=b3) (b4:=b4) (es0:=es0) (es1:=es1) h h' hl ga hb hks F g30 g32 (st:=st) (Q:=Q) hk
 have ru:=fun {Y} {L3 L4} {blk} A ga hb hks F g30 g32 st Q hk=>Pn (Y:=Y) (L3:=L3) (L4:=L4) (A:=A) (x:=x) (y:=y) (blk:=blk) (gb:=gb) (m0:=m0) (m1:=m1) (sa:=sa) (ma:=ma) (b3:=b3) (b4:=b4) (es0:=es0) (es1:=es1) h h' hl ga hb hks F g30 g32 (st:=st) (Q:=Q) hk
 have r1:=fun {Y} {n0 n1} ga hx hy F g0 g4 g5 st Q hk=>VF (Y:=Y) (n0:=n0) (n1:=n1) (A:=A) (L3:=L3) (L4:=L4) (x:=x) (y:=y) (gb:=gb) (m0:=m0) (m1:=m1) (sa:=sa) (ma:=ma) (b3:=b3) (b4:=b4) (es0:=es0) (es1:=es1) h h' hl ga hx hy hA F g0 g4 g5 (st:=st) (Q:=Q) hk
 have d2:=h'.Xw
 rw [show (aA Tryz.f73).code = .seq (cutAt [0] (aA Tryz.f73).code) (.seq (cutAt [1,0] (aA Tryz.f73).code) (.seq (cutAt [1,1,0] (aA Tryz.f73).code) (.block 0 (.loop (.seq (cutAt [1,1,1,2,2,0] (aA Tryz.f73).code) (.seq (cutAt [1,1,1,2,2,1,0] (aA Tryz.f73).code) (.seq (.block 1 (cutAt [1,1,1,2,2,1,1,0,2] (aA Tryz.f73).code)) (cutAt [1,1,1,2,2,1,1,1] (aA Tryz.f73).code)))))))) from rfl]
 rw [show cutAt [1,0] (aA Tryz.f73).code = .region 1 (opsOf (cutAt [1,0] (aA Tryz.f73).code)) true from rfl]
 generalize opsOf (cutAt [1,0] (aA Tryz.f73).code) = O1 at r1 ⊢
 generalize cutAt [1,1,1,2,2,1,1,0,2] (aA Tryz.f73).code = B at rn ru ⊢
 generalize hD2:cutAt [1,1,0] (aA Tryz.f73).code = D2 at d2 ⊢
 simp only [aA,Tryz.f73,KP,↓reduceIte,Nat.reduceEqDiff,Nat.reduceLT,Nat.reduceAdd,h.eU,cutAt]
 have gx:mZ E (Y ++ [O.cells 46 [.bool x.1,.str x.2] true] ++ [O.cells 46 [.bool y.1,.str y.2] true]) gb m0 m1 sa ma b3 b4 es0 es1 A L3 L4:=(ga.app _).app _
 refine r1 gx (aN aO) aO _ ?_ ?_ ?_ _ _ (fun F1 τ1 hF1 ga1 hx1 hy1 kc1=>?_)
 ·simp +decide only [GS]
 ·simp +decide only [GS]
 ·simp +decide only [GS]
 have q0:F1.get 0 = .ref gb 0:=(hF1 0 (by simp)).trans (by simp +decide only [GS])
 have q4:F1.get 4 = .ref Y.length 0:=(hF1 4 (by simp)).trans (by simp +decide only [GS])
 have q5:F1.get 5 = .ref (Y ++ [O.cells 46 [.bool x.1,.str x.2] true]).length 0:=(hF1 5 (by simp)).trans (by simp +decide only [GS])
 have hg:=ga1.g
 have kc0:Lb.dN Y τ1:=(((dN.AU Y _).trans (dN.AU _ _)).trans kc1)
 generalize (Y ++ [O.cells 46 [.bool x.1,.str x.2] true]).length = n1 at *
 generalize Y.length = n0 at *
 rw [VC]
 subst hD2
 simp only [aA,Tryz.f73,cutAt,Option.getD_some] at d2
 have lz:∀ (Z:Sg) (b:Nat),lenOf E Z 145 (.sl b 0 2 none) = some 2:=fun Z b=>by unfold lenOf; rw [h'.IL]
 have d0:decide ((0:Int) < ((2:Nat):Int)) = true:=rfl
 have d1:decide ((1:Int) < ((2:Nat):Int)) = true:=rfl
 have d2':decide ((2:Int) < ((2:Nat):Int)) = false:=rfl
 have w1:wr .i64 1 = 1:=rfl
 have w2:wr .i64 2 = 2:=rfl
 simp only [aA,Tryz.f73,KP,Ax.loadAt,↓reduceIte,Nat.reduceEqDiff,Nat.reduceLT,Nat.reduceLeDiff,Nat.reduceAdd,Nat.reduceMul,reduceCtorEq,h.eU,lz,cutAt,aR d2,bM,h'.nU,h'.wK,h'.IL,h'.lS,hg,hx1,hy1,q0,q4,q5,Ax.fill,Ax.placeOf,gX,Nat.zero_mul]
 have ga2:=ga1.app (O.cells 144 [.mp b3,.bool x.1,.str x.2,.bool y.1,.str y.2,.mp b4,.bool y.1,.str y.2,.bool x.1,.str x.2] true)
 have hb2:(τ1 ++ [O.cells 144 [.mp b3,.bool x.1,.str x.2,.bool y.1,.str y.2,.mp b4,.bool y.1,.str y.2,.bool x.1,.str x.2] true])[τ1.length]? = some (O.cells 144 [.mp b3,.bool x.1,.str x.2,.bool y.1,.str y.2,.mp b4,.bool y.1,.str y.2,.bool x.1,.str x.2] true):=aO
 have kc2:Lb.dN Y (τ1 ++ [O.cells 144 [.mp b3,.bool x.1,.str x.2,.bool y.1,.str y.2,.mp b4,.bool y.1,.str y.2,.bool x.1,.str x.2] true]):=kc0.trans (dN.AU _ _)
 generalize τ1 ++ [O.cells 144 [.mp b3,.bool x.1,.str x.2,.bool y.1,.str y.2,.mp b4,.bool y.1,.str y.2,.bool x.1,.str x.2] true] = τ2 at *
 generalize τ1.length = blk at *
 rw [aG]
 simp only [KP,↓reduceIte,Nat.reduceEqDiff,Nat.reduceLT,d0]
 refine rn _ ga2 hb2 hk3 _ ?_ ?_ _ _ (fun F3 τ3 L3' hF3 ga3 gr3 kc3=>?_)
 ·simp +decide only [GS]
 ·simp +decide only [GS]
 have q30:F3.get 30 = .sl blk 0 2 none:=(hF3 30 (by simp)).trans (by simp +decide only [GS])
 have q31:F3.get 31 = .int .i64 ((2:Nat):Int):=(hF3 31 (by simp)).trans (by simp +decide only [GS])
 have q32:F3.get 32 = .int .i64 0:=(hF3 32 (by simp)).trans (by simp +decide only [GS])
 simp only [KP,↓reduceIte,Nat.reduceLT,Int.reduceAdd,w1,q32]
 rw [aG]
 simp only [KP,↓reduceIte,Nat.reduceEqDiff,Nat.reduceLT,d1,q31]
 refine ru _ ga3 (kc3 _ _ _ _ hb2) hk4 _ ?_ ?_ _ _ (fun F4 τ4 L4' hF4 ga4 gr4 kc4=>?_)
 ·simp +decide only [GS,q30]
 ·simp +decide only [GS]
 have q31':F4.get 31 = .int .i64 ((2:Nat):Int):=(hF4 31 (by simp)).trans (by simp +decide only [GS,q31])
 have q32':F4.get 32 = .int .i64 1:=(hF4 32 (by simp)).trans (by simp +decide only [GS])
 simp only [KP,↓reduceIte,Nat.reduceLT,Int.reduceAdd,w2,q32']
 rw [aG]
 simp only [KP,↓reduceIte,Nat.reduceEqDiff,Nat.reduceLT,d2',q31']
 exact ⟨_,_,ga4,gr3,gr4,(kc2.trans kc3).trans kc4⟩
end
end
section
section
variable {E:Env} {Z:Sg} {K:V -> Sg -> Prop}
def cV (r:aF):List (a_ × a_):=r.ins.map (fun f=>(((true,r.name):a_),((false,f):a_))) ++ r.outs.map (fun f=>(((false,f):a_),((true,r.name):a_)))
def gF (r:aF):a_:=(true,r.name)
structure uV (X:List a_) (P:List (a_ × a_)) (A:List a_) (L3 L4:List cZ):Prop where
 all:∀ x,x ∈ A ↔ x ∈ X \/ ∃ p ∈ P,x = p.1 \/ x = p.2
 need:∀ z w,w ∈ qB L3 z ↔ (z,w) ∈ P
 user:∀ z w,w ∈ qB L4 z ↔ (w,z) ∈ P
 KN:A.length <= X.length + 2 * P.length
 Nf:∀ e ∈ L3,e.ks.length <= P.length
 Nd:∀ e ∈ L4,e.ks.length <= P.length
theorem uV.nil:uV [] [] [] [] []:=⟨fun x=>by simp,fun z w=>by simp [qB,bI],fun z w=>by simp [qB,bI],Nat.le_refl _,(fun e he=>by cases he),(fun e he=>by cases he)⟩
theorem uV.link {X:List a_} {P:List (a_ × a_)} {A:List a_} {L3 L4 L3' L4':List cZ} {x y:a_} (h:uV X P A L3 L4) (g3:Grow L3 x y L3') (g4:Grow L4 y x L4'):uV X (P ++ [(x,y)]) (keys A [x,y]) L3' L4':=by
 refine ⟨fun z=>?_,fun z w=>?_,fun z w=>?_,?_,fun e he=>?_,fun e he=>?_⟩
 ·rw [mem_keys,h.all]
  constructor
  ·rintro ((h1 | ⟨p,hp,h1⟩) | h1)
   ·exact .inl h1
   ·exact .inr ⟨p,List.mem_append_left _ hp,h1⟩
   ·refine .inr ⟨(x,y),by simp,by simpa using h1⟩
  ·rintro (h1 | ⟨p,hp,h1⟩)
   ·exact .inl (.inl h1)
   ·rcases List.mem_append.1 hp with hp | hp
    ·exact .inl (.inr ⟨p,hp,h1⟩)
    ·rw [List.mem_singleton.1 hp] at h1
     exact .inr (by simpa using h1)
 ·rw [g3.mem,h.need,List.mem_append,List.mem_singleton]
  exact or_congr Iff.rfl ⟨fun q=>by rw [q.1,q.2],fun q=>⟨congrArg Prod.fst q,congrArg Prod.snd q⟩⟩
 ·rw [g4.mem,h.user,List.mem_append,List.mem_singleton]
  exact or_congr Iff.rfl ⟨fun q=>by rw [q.1,q.2],fun q=>⟨congrArg Prod.snd q,congrArg Prod.fst q⟩⟩
 ·have:=pA (xs:=[x,y]) (l:=A)
  have:=h.KN
  simp only [List.length_append,List.length_cons,List.length_nil] at *
  omega
 ·rw [List.length_append]; exact g3.len _ h.Nf e he
 ·rw [List.length_append]; exact g4.len _ h.Nd e he
theorem uV.rule {X:List a_} {P:List (a_ × a_)} {A:List a_} {L3 L4:List cZ} (x:a_) (h:uV X P A L3 L4):uV (X ++ [x]) P (keys A [x]) L3 L4:=by
 refine ⟨fun z=>?_,h.need,h.user,?_,h.Nf,h.Nd⟩
 ·rw [mem_keys,h.all,List.mem_append]
  constructor
  ·rintro ((h1 | h1) | h1)
   ·exact .inl (.inl h1)
   ·exact .inr h1
   ·exact .inl (.inr h1)
  ·rintro ((h1 | h1) | h1)
   ·exact .inl (.inl h1)
   ·exact .inr h1
   ·exact .inl (.inr h1)
 ·have:=pA (xs:=[x]) (l:=A)
  have:=h.KN
  simp only [List.length_append,List.length_cons,List.length_nil] at *
  omega
theorem Kx (r:aF) (hs:Small r):(cV r).length <= 16:=by
 unfold cV
 rw [List.length_append,List.length_map,List.length_map]
 have:=hs.ins
 have:=hs.outs
 omega
theorem oL:∀ (rs:List aF),(∀ r ∈ rs,Small r) -> (rs.flatMap cV).length <= 16 * rs.length
 | [],_=>Nat.le_refl _
 | r :: rs,h=>by
  rw [List.flatMap_cons,List.length_append,List.length_cons]
  have:=Kx r (h r (List.mem_cons_self ..))
  have:=oL rs fun q hq=>h q (List.mem_cons_of_mem _ hq)
  omega
def RM (es:List (V × V)) (rs:List aF):Prop:=eT (fun e r=>e.1 = V.str r.name /\ LF e.2 r) es rs
theorem LF.ok {v:V} {r:aF} (h:LF v r):eX v = true:=by
 obtain ⟨a,b,c,d,rfl,h1,h2,h3,h4⟩:=h
 simp only [eX,List.all_cons,List.all_nil,aI h1.is.bB,aI h2.is.bB,aI h3.is.bB,aI h4.is.bB,Bool.and_true]
 rfl
theorem J_ (h:bK E) (h':sM E) {Y:Sg} {b:Nat} {es:List (V × V)} {rs:List aF} {r:aF} {v:V} (hb:Y[b]? = some (.map es)) (ha:RM es rs) (hn:∀ q ∈ rs,q.name ≠ r.name) (hv:LF v r) :
  mapUpdate E Y 103 (.mp b) (.str r.name) v = some (Y.set b (.map (es ++ [(.str r.name,v)]))) /\ RM (es ++ [(.str r.name,v)]) (rs ++ [r]):=by
 refine ⟨?_,ha.append (.one ⟨rfl,hv⟩)⟩
 have hk:dL E 9 (.str r.name) = true:=by unfold dL; rw [h.cQ]
 have hp:=BO h (k:=r.name) (v:=v) (es:=es) fun e he=>by
  obtain ⟨q,hq,h1,-⟩:=ha.mem he
  exact ⟨q.name,h1,hn q hq⟩
 unfold Ax.mapUpdate
 simp only [h'.Dg,hk,hv.ok,hb,hp,Bool.not_true,Bool.or_self,Bool.false_eq_true,if_false,Option.map_some]
theorem DF {eq:V -> V -> Option Bool} {k v:V}:∀ {es es':List (V × V)},kE eq k v es = some es' -> ∀ e ∈ es',e ∈ es \/ e = (k,v)
 | [],es',h,e,he=>by
  cases h
  exact .inr (List.mem_singleton.1 he)
 | (k0,v0) :: r,es',h,e,he=>by
  unfold kE at h
  cases hq:eq k k0 with
  | none=>rw [hq] at h; cases h
  | some b=>
   rw [hq] at h
   cases b with
   | true=>
    cases h
    rcases List.mem_cons.1 he with h1 | h1
    ·exact .inr h1
    ·exact .inl (List.mem_cons_of_mem _ h1)
   | false=>
    dsimp only at h
    cases hr:kE eq k v r with
    | none=>rw [hr] at h; cases h
    | some r'=>
     rw [hr] at h
     cases h
     rcases List.mem_cons.1 he with h1 | h1
     ·exact .inl (by rw [h1]; exact List.mem_cons_self ..)
     ·exact (DF hr e h1).imp (List.mem_cons_of_mem _) id
def C_ (es:List (V × V)):Prop:=∀ e ∈ es,∃ n,e.2 = V.str n
theorem OI (h:bK E) {Z:Sg} {b:Nat} {es:List (V × V)} {get:bA -> Option V} (hb:Z[b]? = some (.map es)) (hs:SM E es get) (hv:C_ es) (k n:bA):∃ es',mapUpdate E Z 104 (.mp b) (.str k) (.str n) = some (Z.set b (.map es')) /\ SM E es' (fun q=>if q = k then some (.str n) else get q) /\ C_ es':=by
 obtain ⟨es',h1,h2⟩:=Eu h (v:=.str n) k rfl hs
 have hk:dL E 9 (.str k) = true:=by unfold dL; rw [h.cQ]
 refine ⟨es',?_,h2,fun e he=>?_⟩
 ·unfold Ax.mapUpdate
  simp only [h.uW,hk,hb,h1,eX,V.aV,Bool.not_true,Bool.or_self,Bool.false_eq_true,if_false,Option.map_some]
 ·rcases DF h1 e he with h3 | h3
  ·exact hv e h3
  ·exact ⟨n,by rw [h3]⟩
theorem E7 (h:bK E) (h':sM E) {s:bA}:aB E 72 [.str s] Z K = K (.agg [.bool true,.str s]) Z:=by
 refine aB.of ?_
 rw [aH h'.hs72 h'.sp72 h'.fn72 h'.md72 (args':=[.str s]) (by simp only [aU,cJ]),aW (by kernel_rfl)]
 simp only [aA,Tryz.f72,KP,Ax.loadAt,Ax.storeAt,↓reduceIte,Nat.reduceEqDiff,Nat.reduceLT,Nat.reduceAdd,reduceCtorEq,h.CW,h.cQ,h.eU,Ax.fill,Ax.placeOf]
 exact rfl
theorem PA (h:bK E) (h':sM E) {s:bA}:KC E 72 [.str s] Z (.agg [.bool true,.str s]) Z:=dM fun _=>E7 h h'
theorem Qu (h:bK E) (h':sM E) {s:bA}:aB E 74 [.str s] Z K = K (.agg [.bool false,.str s]) Z:=by
 refine aB.of ?_
 rw [aH h'.hs74 h'.sp74 h'.fn74 h'.md74 (args':=[.str s]) (by simp only [aU,cJ]),aW (by kernel_rfl)]
 simp only [aA,Tryz.f74,KP,Ax.loadAt,Ax.storeAt,↓reduceIte,Nat.reduceEqDiff,Nat.reduceLT,Nat.reduceAdd,reduceCtorEq,h.CW,h.cQ,h.eU,Ax.fill,Ax.placeOf]
 exact rfl
theorem JB (h:bK E) (h':sM E) {s:bA}:KC E 74 [.str s] Z (.agg [.bool false,.str s]) Z:=dM fun _=>Qu h h'
end
end
section
section
variable {E:Env} {Z:Sg} {K:V -> Sg -> Prop}
theorem UU (h:bK E) (h':sM E) (hl:Lb.eS E) {Y:Sg} {gb m0 m1 sa ma b3 b4:Nat} {es0 es1:List (V × V)} {A:List a_} {L3 L4:List cZ} (ga:mZ E Y gb m0 m1 sa ma b3 b4 es0 es1 A L3 L4) {r:aF} {p1 p2 p3 p4:V} {y:Nat} (hy:Y[y]? = some (O.cells 37 [.str r.name,p1,p2,p3,p4] true)) (hA:A.length <= 1000000) (F:FT) (g5:F.get 5 = .ref gb 0) (g7:F.get 7 = .ref y 0) {st:List mE} {Q:Ax.X -> Fr -> Sg -> Prop}
  (hk:∀ F' τ',(∀ k,k ∈ [0,5,7,26,27,28] -> F'.get k = F.get k) -> mZ E τ' gb m0 m1 sa ma b3 b4 es0 es1 (keys A [gF r]) L3 L4 -> Lb.dN Y τ' -> M E st .normal ⟨88,F'⟩ τ' Q):Ax.R E (.region 9 (opsOf (cutAt [1,1,1,0,1,2,2,1,1,0,2,1,1,0] (aA Tryz.f19).code)) true) st ⟨88,F⟩ Y Q:=by
 have ga1:=ga.app (O.cells 46 [.bool true,.str r.name] true)
 have hsv:Lb.SV (Y ++ [O.cells 46 [.bool true,.str r.name] true]) (.sl Y.length 0 1 none) [gF r]:=.inr (.inr ⟨Y.length,_,true,rfl,aO,rfl⟩)
 obtain ⟨n1,v1,τ2,⟨hr,hset,hkp⟩,c1⟩:=aB.up (Lb.Of hl ga1.all hsv (show 1 <= 10000000000 by omega) (by omega))
 obtain ⟨n2,v2,ρ2,⟨e2,e2'⟩,c2⟩:=aB.up (show aB E 72 [.str r.name] Y fun v σ'=>v = .agg [.bool true,.str r.name] /\ σ' = Y by rw [E7 h h']; exact ⟨rfl,rfl⟩)
 obtain ⟨n3,v3,ρ3,⟨e3,e3'⟩,c3⟩:=aB.up (show aB E 72 [.str r.name] (Y ++ [O.cells 46 [.bool true,.str r.name] true]) fun v σ'=>v = .agg [.bool true,.str r.name] /\ σ' = Y ++ [O.cells 46 [.bool true,.str r.name] true] by rw [E7 h h']; exact ⟨rfl,rfl⟩)
 rw [e2,e2'] at c2
 rw [e3,e3'] at c3
 have c1:=c1 (n1 + n2 + n3) (by omega)
 have c2:=c2 (n1 + n2 + n3) (by omega)
 have c3:=c3 (n1 + n2 + n3) (by omega)
 generalize n1 + n2 + n3 = n at c1 c2 c3
 have ga2:=ga1.more hset hkp
 have hma:=ga1.all.map
 have ne:∀ {k:Nat} {t:Nat} {cs:List V} {ex:Bool},(Y ++ [O.cells 46 [.bool true,.str r.name] true])[k]? = some (.cells t cs ex) -> k ≠ ma:=fun hk e=>by
  rw [e,hma] at hk
  cases hk
 have g:=ga.g
 have g1:=ga1.g
 have vr:sJ 12 (.ref sa 0) (.ref sa 0) = true:=by unfold sJ; simp
 have key:∃ F',cG E (ev E n) (opsOf (cutAt [1,1,1,0,1,2,2,1,1,0,2,1,1,0] (aA Tryz.f19).code)) ⟨88,F⟩ Y = some (⟨88,F'⟩,τ2) /\ (∀ k,k ∈ [0,5,7,26,27,28] -> F'.get k = F.get k):=by
  unfold cG
  rw [h'.Ts,h'.US]
  simp only [aA,Tryz.f19,KP,Ax.loadAt,↓reduceIte,Nat.reduceEqDiff,Nat.reduceLT,Nat.reduceLeDiff,Nat.reduceAdd,Nat.reduceMul,reduceCtorEq,h.cQ,h.bG,h.CV,h.eU,opsOf,cutAt,Fz.lits,iD,bH,bY,kB,Ax.comp,Ax.last,iG,Ax.again,Ax.fill,gX,Nat.zero_mul,hl.sK,h'.lS,g5,g7,hy,g,g1,c1,c2,vr]
  refine ⟨_,rfl,fun k hk=>?_⟩
  simp only [List.mem_cons,List.not_mem_nil,or_false] at hk
  rcases hk with rfl | rfl | rfl | rfl | rfl | rfl <;> simp +decide only [GS]
 obtain ⟨F',hD,hF⟩:=key
 exact Eq.mpr (iX hD) (hk F' τ2 hF ga2 ((dN.AU Y _).trans (Lb.Kp.tM hkp hma)))
end
end
end Go.Proofs.YtlbbdpkjeeiahaaGreatDoor
end
