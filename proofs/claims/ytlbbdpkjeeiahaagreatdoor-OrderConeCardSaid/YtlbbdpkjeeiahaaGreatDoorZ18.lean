/- Part 18 of the proof's own texts (pressed by a program of its author's). -/
import Derived.Test.YtlbbdpkjeeiahaaGreatDoorZ17
import Derived.Test.YtlbbdpkjeeiahaaGreatDoorZ13
import Derived.Test.YtlbbdpkjeeiahaaGreatDoorZ3
import Derived.Test.YtlbbdpkjeeiahaaGreatDoorZ15
section
set_option maxRecDepth 10000
set_option maxHeartbeats 8000000
set_option linter.unusedVariables false
namespace Go.Proofs.YtlbbdpkjeeiahaaGreatDoor
open Go Go.Ax Go.AxS
section
section
variable {E:Env} {Z:Sg} {K:V -> Sg -> Prop}
def Nx (rs:List aG) (r:aG) (x:aZ):Prop:=x ∈ r.after \/ ∃ f ∈ r.ins,Mk rs f x
structure Eg (rs:List aG):Prop where
 names:∀ r ∈ rs,r.name.length <= 40
 TB:∀ r ∈ rs,∀ s ∈ r.after,s.length <= 40
 nodup:∀ (i j:Nat) (p q:aG),rs[i]? = some p -> rs[j]? = some q -> p.name = q.name -> i = j
 jJ:∀ f n m,Mk rs f n -> Mk rs f m -> n = m
theorem Mk.short {rs:List aG} (h:Eg rs) {f n:aZ} (hm:Mk rs f n):n.length <= 40:=by
 obtain ⟨r,hr,-,rfl⟩:=hm
 exact h.names r hr
theorem Vs (h:bM E) {a:V} {rs:List aG} (ia:IS dS a rs) (hs:∀ x ∈ rs,Small x) (hsh:Eg rs) (hl:rs.length <= 1000) {Y:Sg} {es0:List (V × V)} {get:aZ -> Option V} (h0:Y[0]? = some (.map es0)) (hsm:SM E es0 get) (hmk:MK get (Mk rs)) (F:FT) (g0:F.get 0 = a) (g3:F.get 3 = .mp 0) :
  R E (cutAt [1,1,1] (aA Tryz.f147).code) [] ⟨74,F⟩ Y (mI E (aA Tryz.f147).results (fun v σ1=>match cW σ1 E.ty false v with
   | some v=>∃ es,v = .imp false es /\ AR (Nx rs) es rs
   | none=>False)):=by
 have la:=cK h ia
 have rest:=fun {τ0 Y w p1 p2 p3 p4 l r y mA es rs'} ow hl' kp fr hy hA ha hn hm F g8 g10 g11 st Q hk=>Sq (τ0:=τ0) (Y:=Y) (w:=w) (p1:=p1) (p2:=p2) (p3:=p3) (p4:=p4) (l:=l) (r:=r) (y:=y) (mA:=mA) (es:=es) (N:=Nx rs) (rs:=rs') h ow hl' kp fr hy hA ha hn hm F g8 g10 g11 (st:=st) (Q:=Q) hk
 simp only [aA,Tryz.f147,KP,↓reduceIte,Nat.reduceLT,reduceCtorEq,cutAt,g0,la]
 have hA0:(Y ++ [O.map []])[Y.length]? = some (.map []):=aN
 have h00:=aP (x:=O.map []) h0
 have hmA:Y.length ≠ 0:=by have:=(List.getElem?_eq_some_iff.1 h0).1; omega
 generalize Y ++ [O.map []] = τ1 at *
 generalize Y.length = mA at *
 refine aR (fun i F Y=>F.get 0 = a /\ F.get 3 = .mp 0 /\ F.get 8 = .mp mA /\ F.get 37 = a /\ F.get 38 = .int .i64 (rs.length:Int) /\ F.get 39 = .int .i64 (i:Int) /\ Y[0]? = some (.map es0) /\ ∃ es,Y[mA]? = some (.map es) /\ CW Y (Nx rs) es (rs.take i)) rs.length ?_ ?_ rs.length 0 _ _ (by omega) (CI (by simp +decide only [GS,g0,g3,and_self]) ⟨h00,[],hA0,.nil⟩)
 ·rintro i F Y hi ⟨g0,g3,g8,g37,g38,g39,h0,es,hA,ha⟩ next
  obtain ⟨r,hr⟩:∃ y,rs[i]? = some y:=⟨_,List.getElem?_eq_getElem hi⟩
  have hrm:=List.mem_of_getElem? hr
  obtain ⟨g,p1,p2,p3,p4,e1,i1,i2,i3,i4⟩:=eL h ia hr
  have hsr:=hs r hrm
  have a1:=hsr.ins
  have a3:=hsr.after
  have o1:=aJ i1.bE
  have o2:=aJ i2.bE
  have o3:=aJ i3.bE
  have o4:=aJ i4.bE
  have hlt:=dN hi
  have hadd:=bV i (by omega)
  have li:=bL h i1
  have hnn:∀ q ∈ rs.take i,q.name ≠ r.name:=fun q hq e=>by
   obtain ⟨j,hj⟩:=List.mem_iff_getElem?.1 hq
   have hji:j < i:=by have:=(List.getElem?_eq_some_iff.1 hj).1; rw [List.length_take] at this; omega
   rw [List.getElem?_take_of_lt hji] at hj
   have:=hsh.nodup j i q r hj hr e
   omega
  have hb1:=aP (x:=O.cells 37 [.str r.name,p1,p2,p3,p4] true) h0
  have hA1:=aP (x:=O.cells 37 [.str r.name,p1,p2,p3,p4] true) hA
  have ha1:CW (Y ++ [O.cells 37 [.str r.name,p1,p2,p3,p4] true]) (Nx rs) es (rs.take i):=ha.keep hA fun c o hc _=>aP hc
  have s1:(Y ++ [O.cells 37 [.str r.name,p1,p2,p3,p4] true])[Y.length]? = some (O.cells 37 [.str r.name,p1,p2,p3,p4] true):=aN
  rw [aF]
  simp only [KP,Ax.loadAt,Ax.storeAt,↓reduceIte,Nat.reduceEqDiff,Nat.reduceLT,Nat.reduceAdd,reduceCtorEq,h.aV,h.bI,g37,g38,g39,hlt,e1,o1,o2,o3,o4,aN,cF]
  generalize Y ++ [O.cells 37 [.str r.name,p1,p2,p3,p4] true] = τ1 at *
  generalize Y.length = y at *
  refine aL (rY h i3 (by omega)) ?_
  rintro w0 τ2 ⟨ow0,kp0,fr0⟩
  have s2:=kp0 _ _ s1
  simp only [KP,Ax.loadAt,↓reduceIte,Nat.reduceEqDiff,Nat.reduceLT,reduceCtorEq,h.aV,h.bI,s2,li]
  refine aR (fun j F Y=>F.get 0 = a /\ F.get 3 = .mp 0 /\ F.get 8 = .mp mA /\ F.get 37 = a /\ F.get 38 = .int .i64 (rs.length:Int) /\ F.get 39 = .int .i64 (i:Int) /\ F.get 10 = .ref y 0 /\ F.get 47 = p1 /\ F.get 48 = .int .i64 (r.ins.length:Int) /\ F.get 49 = .int .i64 (j:Int) /\ Kp τ1 Y /\ ∃ w cur,F.get 11 = w /\ bD aK 9 Y w cur /\ (∀ b,aT w = some b -> τ1.length <= b) /\ cur.length <= r.after.length + j /\ (∀ x ∈ cur,x.length <= 40) /\ ∀ x,x ∈ cur ↔ x ∈ r.after \/ ∃ f ∈ r.ins.take j,Mk rs f x) r.ins.length ?_ ?_ r.ins.length 0 _ _ (by omega) (Iv (by simp +decide only [GS,g0,g3,g8,g37,g38,g39,and_self]) ⟨kp0,w0,r.after,(by simp +decide only [GS]),ow0,fr0,Nat.le_refl _,hsh.TB r hrm,fun x=>by simp⟩)
  ·rintro j F Y hj ⟨g0,g3,g8,g37,g38,g39,g10,g47,g48,g49,kp,w,cur,g11,ow,fr,hcl,hc40,hmem⟩ next2
   obtain ⟨s,hsj⟩:∃ y,r.ins[j]? = some y:=⟨_,List.getElem?_eq_getElem hj⟩
   obtain ⟨g',e2⟩:=fI h i1 hsj
   have hlt2:=dN hj
   have hadd2:=bV j (by omega)
   have hb2:=kp _ _ hb1
   have hlk:=PI (Z:=Y) (x:=.mp 0) h (by unfold entriesOf; simp only [hb2]) hsm s
   have hex:∀ x,(∃ f ∈ r.ins.take (j + 1),Mk rs f x) ↔ (∃ f ∈ r.ins.take j,Mk rs f x) \/ Mk rs s x:=fun x=>by
    constructor
    ·rintro ⟨f,hf,hm⟩
     rcases (fJ hsj f).1 hf with hf | rfl
     ·exact .inl ⟨f,hf,hm⟩
     ·exact .inr hm
    ·rintro (⟨f,hf,hm⟩ | hm)
     ·exact ⟨f,(fJ hsj f).2 (.inl hf),hm⟩
     ·exact ⟨s,(fJ hsj s).2 (.inr rfl),hm⟩
   rw [aF]
   rcases hmk s with ⟨hg,hno⟩ | ⟨n,hP,hg⟩
   ·rw [hg] at hlk
    simp only [KP,Ax.loadAt,↓reduceIte,Nat.reduceEqDiff,Nat.reduceLT,h.cN,g3,g47,g48,g49,hlt2,e2,hlk,hadd2]
    refine next2 _ _ (Iv (by simp +decide only [GS,g0,g3,g8,g37,g38,g39,g10,g47,g48,and_self]) ⟨kp,w,cur,(by simp +decide only [GS,g11]),ow,fr,by omega,hc40,fun x=>?_⟩)
    rw [hmem,hex]
    exact ⟨fun h=>h.elim .inl fun g=>.inr (.inl g),fun h=>h.elim .inl fun g=>.inr (g.elim id fun g=>absurd g (hno x))⟩
   ·rw [hg] at hlk
    obtain ⟨w',τ',hap,ow',sp',hln',fr'⟩:=jR (ats:=#[28,28]) (m:=[n]) (new:=[[.str n]]) h.aV rfl h.cN rfl (by decide) (jE h) rfl (ow.app [.cells 9 [.str n] true]) (mE rfl) (.one rfl) (eS (b:=1000) (by decide) (by simp only [List.length_cons,List.length_nil]; omega))
    simp only [KP,Ax.loadAt,↓reduceIte,Nat.reduceEqDiff,Nat.reduceLT,Nat.reduceLeDiff,Nat.reduceMul,h.cN,h.aV,g3,g11,g47,g48,g49,hlt2,e2,hlk,iN,hap,hadd2]
    refine next2 _ _ (Iv (by simp +decide only [GS,g0,g3,g8,g37,g38,g39,g10,g47,g48,and_self]) ⟨fun c o hc=>sp' c o (aP (kp c o hc)) fun e=>absurd (List.getElem?_eq_some_iff.1 hc).1 (by have:=fr c e; omega),w',cur ++ [n],(by simp +decide only [GS]),ow',fun b hb=>?_,by rw [List.length_append,List.length_singleton]; omega,fun x hx=>?_,fun x=>?_⟩)
    ·rcases fr' b hb with g | g
     ·exact fr b g
     ·have h1:=(List.getElem?_eq_some_iff.1 (kp _ _ s1)).1
      have h2:τ1.length <= Y.length:=by
       refine Nat.le_of_not_lt fun hlt=>?_
       obtain ⟨o,ho⟩:∃ o,τ1[Y.length]? = some o:=⟨_,List.getElem?_eq_getElem hlt⟩
       exact absurd (List.getElem?_eq_some_iff.1 (kp _ _ ho)).1 (Nat.lt_irrefl _)
      simp only [List.length_append,List.length_cons,List.length_nil] at g
      omega
    ·rcases List.mem_append.1 hx with hx | hx
     ·exact hc40 x hx
     ·rw [List.mem_singleton.1 hx]; exact hP.short hsh
    ·rw [List.mem_append,hmem,hex,List.mem_singleton]
     constructor
     ·rintro ((h1 | h1) | rfl)
      ·exact .inl h1
      ·exact .inr (.inl h1)
      ·exact .inr (.inr hP)
     ·rintro (h1 | h1 | h1)
      ·exact .inl (.inl h1)
      ·exact .inl (.inr h1)
      ·exact .inr (hsh.jJ s x n h1 hP)
  ·rintro F Y ⟨g0,g3,g8,g37,g38,g39,g10,g47,g48,g49,kp,w,cur,g11,ow,fr,hcl,hc40,hmem⟩
   rw [List.take_of_length_le (Nat.le_refl _)] at hmem
   have hlt2:=dQ (Nat.lt_irrefl r.ins.length)
   obtain ⟨τ3,cur',hS,hperm,ow3,Mn,hln3⟩:=DV ow (by omega) (fun x hx=>by have:=hc40 x hx; omega)
   have ks:=dO (fun K=>show aB E 64 [w] Y K = K (.fS []) τ3 by rw [nK h.NO,hS]; rfl)
   have kp3:Kp τ1 τ3:=fun c o hc=>Mn c o (kp c o hc) fun e=>absurd (List.getElem?_eq_some_iff.1 hc).1 (by have:=fr c e; omega)
   rw [aF]
   simp only [KP,↓reduceIte,Nat.reduceEqDiff,Nat.reduceLT,g11,g48,g49,hlt2,ks]
   refine rest (rs':=rs.take i) ow3 (by rw [hperm.length_eq]; omega) kp3 fr s1 hA1 ha1 hnn (fun x=>?_) _ ?_ ?_ ?_ _ _ ?_
   ·rw [hperm.mem_iff,hmem]; exact Iff.rfl
   ·exact (by simp +decide only [GS,g8])
   ·exact (by simp +decide only [GS,g10])
   ·exact (by simp +decide only [GS,g11])
   intro F' τ' es' hF hA' ha' hk'
   have q0:F'.get 0 = a:=(hF 0 (by simp)).trans (by simp +decide only [GS,g0])
   have q3:F'.get 3 = .mp 0:=(hF 3 (by simp)).trans (by simp +decide only [GS,g3])
   have q8:F'.get 8 = .mp mA:=(hF 8 (by simp)).trans (by simp +decide only [GS,g8])
   have q37:F'.get 37 = a:=(hF 37 (by simp)).trans (by simp +decide only [GS,g37])
   have q38:F'.get 38 = .int .i64 (rs.length:Int):=(hF 38 (by simp)).trans (by simp +decide only [GS,g38])
   have q39:F'.get 39 = .int .i64 (i:Int):=(hF 39 (by simp)).trans (by simp +decide only [GS,g39])
   simp only [KP,↓reduceIte,Nat.reduceLT,q39,hadd]
   refine next _ _ (CI (by simp +decide only [GS,q0,q3,q8,q37,q38,and_self]) ⟨hk' 0 _ hb1 (Ne.symm hmA),es',hA',?_⟩)
   rw [List.take_add_one,hr]
   exact ha'
 ·rintro F Y ⟨g0,g3,g8,g37,g38,g39,h0,es,hA,ha⟩
  rw [List.take_of_length_le (Nat.le_refl _)] at ha
  obtain ⟨es',e1,a1⟩:=MF h hA ha
  have hlt:=dQ (Nat.lt_irrefl rs.length)
  rw [aF]
  simp only [KP,↓reduceIte,Nat.reduceEqDiff,Nat.reduceLT,g8,g38,g39,hlt,e1]
  exact ⟨es',rfl,a1⟩
theorem QS (h:bM E) {a:V} {rs:List aG} (ha:LS dS 37 Z a rs) (hs:∀ x ∈ rs,Small x) (hsh:Eg rs) (hl:rs.length <= 1000):aB E 147 [a] Z fun v σ'=>σ' = Z /\ ∃ es,v = .imp false es /\ AR (Nx rs) es rs:=by
 obtain ⟨a',ea,ia⟩:=eR h ha
 rw [aH h.WO h.Un h.XD h.VU (args':=[a']) (by simp only [aW,ea]),a_ (by kernel_rfl)]
 have key:=fun Y es0 get h0 hsm hmk F g0 g3=>Vs (Y:=Y) (es0:=es0) (get:=get) h ia hs hsh hl h0 hsm hmk F g0 g3
 have k2:=fun F g0 g3 hk=>Vt (K:=fun v σ1=>match cW σ1 E.ty false v with
   | some v=>∃ es,v = .imp false es /\ AR (Nx rs) es rs
   | none=>False) h ia hs (by omega) F g0 g3 hk
 rw [show (aA Tryz.f147).code = .seq (cutAt [0] (aA Tryz.f147).code) (.seq (cutAt [1,0] (aA Tryz.f147).code) (cutAt [1,1] (aA Tryz.f147).code)) from rfl]
 generalize cutAt [1,1] (aA Tryz.f147).code = C at k2 ⊢
 simp only [aA,Tryz.f147,KP,↓reduceIte,Nat.reduceLT,cutAt]
 refine k2 _ ?_ ?_ fun F' Y es get g0 g3 hb hsm hmk=>key Y es get hb hsm hmk F' g0 g3
 ·exact (by simp +decide only [GS])
 ·exact (by simp +decide only [GS])
end
end
section
section
variable {E:Env} {Z:Sg} {K:V -> Sg -> Prop}
theorem AR.back {N:aG -> aZ -> Prop}:∀ {es:List (V × V)} {rs:List aG},AR N es rs -> nE es = true /\ es.map ks = rs.map aG.name /\ es.length = rs.length
 | _,_,.nil=>⟨rfl,rfl,rfl⟩
 | (a,v) :: es,r :: rs,.cons h t=>by
  obtain ⟨h1,l,h2,h3,-⟩:=h
  obtain ⟨i1,i2,i3⟩:=AR.back (N:=N) t
  dsimp only at h1 h2
  subst h1
  refine ⟨?_,?_,by rw [List.length_cons,List.length_cons,i3]⟩
  ·have hr:∀ l:List aZ,tX (l.map fun s=>[V.str s]) = true:=fun l=>by
    induction l with
    | nil=>rfl
    | cons s l ih=>rw [List.map_cons,tX]; exact ih
   rcases h2 with ⟨rfl,-⟩ | ⟨full,rfl⟩
   ·rw [nE]; exact i1
   ·rw [nE,hr,List.length_map,Nat.ble_eq_true_of_le h3]; exact i1
  ·rw [List.map_cons,List.map_cons,i2]; rfl
theorem Ab:∀ l:List aZ,mK (l.map fun s=>[V.str s]) = l
 | []=>rfl
 | s :: l=>by rw [List.map_cons,mK,Ab l]
theorem Rv.list {v:V} {l:List aZ} (h:Rv v l):gZ v = l:=by
 rcases h with ⟨rfl,rfl⟩ | ⟨full,rfl⟩
 ·rfl
 ·exact Ab l
theorem xA:∀ {es:List (V × V)},iK es -> (es.map ks).Nodup -> gB es = true
 | [],_,_=>rfl
 | e :: es,ha,hn=>by
  obtain ⟨k,hk⟩:=ha _ (List.mem_cons_self ..)
  obtain ⟨a,v⟩:=e
  dsimp only at hk
  subst hk
  rw [List.map_cons,List.nodup_cons] at hn
  have hh:∀ {l:List (V × V)},iK l -> k ∉ l.map ks -> gB.hasKey k l = false:=by
   intro l
   induction l with
   | nil=>intro _ _; rfl
   | cons e l ih=>
    intro ha hk
    obtain ⟨q,hq⟩:=ha _ (List.mem_cons_self ..)
    obtain ⟨b,u⟩:=e
    dsimp only at hq
    subst hq
    rw [List.map_cons,List.mem_cons,not_or] at hk
    rw [gB.hasKey,show Ax.seq q k = false from jM.2 (fun e=>hk.1 e.symm)]
    exact ih (fun e he=>ha e (List.mem_cons_of_mem _ he)) hk.2
  rw [gB,hh (fun e he=>ha e (List.mem_cons_of_mem _ he)) hn.1]
  exact xA (fun e he=>ha e (List.mem_cons_of_mem _ he)) hn.2
structure NM (rs:List aG) (es:List (V × V)):Prop where
 ok:nE es = true
 keys:es.map ks = rs.map aG.name
 nodup:(es.map ks).Nodup
 nd:gB es = true
 len:es.length = rs.length
 next:∀ r ∈ rs,∀ x,x ∈ bU es r.name ↔ Nx rs r x
theorem AR.mem {N:aG -> aZ -> Prop}:∀ {es:List (V × V)} {rs:List aG},AR N es rs -> ∀ r ∈ rs,∃ v l,(V.str r.name,v) ∈ es /\ Rv v l /\ ∀ x,x ∈ l ↔ N r x
 | _,_,.nil,r,hr=>by cases hr
 | (a,v) :: es,q :: rs,.cons h t,r,hr=>by
  rcases List.mem_cons.1 hr with rfl | hr
  ·obtain ⟨h1,l,h2,h3,h4⟩:=h
   dsimp only at h1
   subst h1
   exact ⟨v,l,List.mem_cons_self ..,h2,h4⟩
  ·obtain ⟨v',l,h1,h2,h3⟩:=AR.mem (N:=N) t r hr
   exact ⟨v',l,List.mem_cons_of_mem _ h1,h2,h3⟩
theorem Ae:∀ {rs:List aG},(∀ (i j:Nat) (p q:aG),rs[i]? = some p -> rs[j]? = some q -> p.name = q.name -> i = j) -> (rs.map aG.name).Nodup
 | [],_=>List.Pairwise.nil
 | r :: rs,h=>by
  rw [List.map_cons,List.nodup_cons]
  refine ⟨fun hm=>?_,Ae fun i j p q hp hq e=>by
   have:=h (i + 1) (j + 1) p q hp hq e
   omega⟩
  obtain ⟨q,hq,e⟩:=List.mem_map.1 hm
  obtain ⟨j,hj⟩:=List.mem_iff_getElem?.1 hq
  have:=h 0 (j + 1) r q rfl hj e.symm
  omega
theorem Vr {rs:List aG} {es:List (V × V)} (hsh:Eg rs) (h:AR (Nx rs) es rs):NM rs es:=by
 obtain ⟨h1,h2,h3⟩:=h.back
 have hn:(es.map ks).Nodup:=by rw [h2]; exact Ae hsh.nodup
 have hb:=wA h1
 refine ⟨h1,h2,hn,xA (fun e he=>(hb e he).1) hn,h3,fun r hr x=>?_⟩
 obtain ⟨v,l,hm,hv,hx⟩:=h.mem r hr
 rw [vS hb hn hm,hv.list]
 exact hx x
theorem Aw {L:List (List (List Nat))}:∀ {l:List (List Nat)},iA L l = none ↔ ∀ a ∈ l,fH a L = none
 | []=>⟨fun _ a h=>(by cases h),fun _=>rfl⟩
 | a :: l=>by
  rw [iA]
  have ih:=Aw (L:=L) (l:=l)
  cases hd:fH a L with
  | none=>
   dsimp only
   rw [ih]
   exact ⟨fun h x hx=>(List.mem_cons.1 hx).elim (fun e=>by rw [e]; exact hd) (h x),fun h x hx=>h x (List.mem_cons_of_mem _ hx)⟩
  | some d=>
   refine ⟨fun h=>?_,fun h=>?_⟩
   ·cases hb:iA L l with
    | none=>rw [hb] at h; cases h
    | some e=>
     rw [hb] at h
     dsimp only at h
     split at h <;> cases h
   ·have:=h a (List.mem_cons_self ..)
    rw [hd] at this; cases this
theorem DA {es:List (V × V)} (hb:fP es) {f:List Nat}:∀ (k:Nat) (x:List Nat),Dd es f k x -> (∀ j,j < k -> ¬ Dd es f j x) -> ∃ ys:List (List Nat),ys.length = k /\ ys.Nodup /\ (∀ y ∈ ys,y ∈ es.map ks) /\ ∀ y ∈ ys,∃ j,1 <= j /\ j <= k /\ Dd es f j y /\ ∀ i,i < j -> ¬ Dd es f i y
 | 0,x,_,_=>⟨[],rfl,List.Pairwise.nil,fun _ h=>(by cases h),fun _ h=>(by cases h)⟩
 | k + 1,x,.succ (nx:=nx) hx hr,hm=>by
  have hmin:∀ j,j < k -> ¬ Dd es f j nx:=fun j hj h=>hm (j + 1) (by omega) (.succ hx h)
  obtain ⟨ys,h1,h2,h3,h4⟩:=DA hb k nx hr hmin
  refine ⟨x :: ys,by rw [List.length_cons,h1],List.nodup_cons.2 ⟨fun hxy=>?_,h2⟩,fun y hy=>?_,fun y hy=>?_⟩
  ·obtain ⟨j,j1,j2,j3,j4⟩:=h4 x hxy
   exact hm j (by omega) j3
  ·rcases List.mem_cons.1 hy with rfl | hy
   ·obtain ⟨v,hv,-⟩:=BN hb hx
    exact List.mem_map.2 ⟨_,hv,rfl⟩
   ·exact h3 y hy
  ·rcases List.mem_cons.1 hy with rfl | hy
   ·exact ⟨k + 1,by omega,Nat.le_refl _,.succ hx hr,hm⟩
   ·obtain ⟨j,j1,j2,j3⟩:=h4 y hy
    exact ⟨j,j1,by omega,j3⟩
theorem MT {es:List (V × V)} (hb:fP es) (hn:(es.map ks).Nodup) {f x:List Nat} {k:Nat} (h:Dd es f k x):∃ d,sJ es f x = some d:=by
 have:∃ d,Dd es f d x /\ ∀ j,j < d -> ¬ Dd es f j x:=by
  induction k using Nat.strongRecOn with
  | _ k ih=>
   by_cases hex:∃ j,j < k /\ Dd es f j x
   ·obtain ⟨j,hj,hr⟩:=hex
    exact ih j hj hr
   ·exact ⟨k,h,fun j hj hr=>hex ⟨j,hj,hr⟩⟩
 obtain ⟨d,hr,hm⟩:=this
 obtain ⟨ys,h1,h2,h3,-⟩:=DA hb d x hr hm
 have:=uC h2 h3
 rw [h1,List.length_map] at this
 exact ⟨d,(kR hb hn).2 ⟨this,hr,hm⟩⟩
theorem G1 {rs:List aG} {es:List (V × V)} (h:NM rs es) (f:aZ):iA (dG es es.length [f]) (bU es f) ≠ none ↔ ∃ n,Dd es f (n + 1) f:=by
 have hb:=wA h.ok
 constructor
 ·intro hne
  have hne:∃ b,iA (dG es es.length [f]) (bU es f) = some b:=by
   cases he:iA (dG es es.length [f]) (bU es f) with
   | none=>exact absurd he hne
   | some b=>exact ⟨b,rfl⟩
  obtain ⟨b,hbo⟩:=hne
  obtain ⟨a,ha,hd⟩:=xV _ _ _ hbo
  exact ⟨b,.succ ha ((kR hb h.nodup).1 hd).2.1⟩
 ·rintro ⟨n,hr⟩ hno
  cases hr with
  | succ hx hr=>
   obtain ⟨d,hd⟩:=MT hb h.nodup hr
   have:=Aw.1 hno _ hx
   rw [show fH _ (dG es es.length [f]) = some d from hd] at this
   cases this
end
end
section
section
variable {E:Env} {Z:Sg} {K:V -> Sg -> Prop}
theorem iJ {α:Type} {p:α -> Bool}:∀ {l:List α} {k:Nat},bJ p l = some k -> ∃ x,l[k]? = some x /\ p x = true
 | [],_,h=>by cases h
 | x :: l,k,h=>by
  rw [bJ] at h
  by_cases hx:p x = true
  ·rw [if_pos hx] at h; cases h; exact ⟨x,rfl,hx⟩
  ·rw [if_neg hx] at h
   cases hf:bJ p l with
   | none=>rw [hf] at h; cases h
   | some j=>
    rw [hf] at h
    cases h
    obtain ⟨y,h1,h2⟩:=iJ hf
    exact ⟨y,h1,h2⟩
structure Good (rs:List aG):Prop where
 short:Eg rs
 known:∀ r ∈ rs,∀ n ∈ r.after,gX rs n = true
 len:rs.length <= 40
 rule:∀ r ∈ rs,bB r = 0
theorem Jv {s:aZ} (h:bG s = true):s.length <= 40:=by
 unfold bG at h
 simp only [Bool.and_eq_true,decide_eq_true_eq] at h
 exact h.1.2
theorem A6 {rs:List aG} (h:gA rs = 0):Good rs:=by
 unfold gA at h
 cases hf:rs.find? (fun r=>decide (bB r ≠ 0)) with
 | some r=>
  rw [hf] at h
  have:=List.find?_some hf
  rw [decide_eq_true_eq] at this
  exact absurd h this
 | none=>
  rw [hf] at h
  dsimp only at h
  have hr:∀ r ∈ rs,bB r = 0:=fun r hr=>by
   have:=List.find?_eq_none.1 hf r hr
   simpa using this
  by_cases h40:40 < rs.length
  ·rw [if_pos h40] at h; cases h
  rw [if_neg h40] at h
  cases hc:rV rs with
  | true=>rw [if_pos hc] at h; cases h
  | false=>
  rw [if_neg (by rw [hc]; simp)] at h
  cases hst:gC rs with
  | true=>rw [if_pos hst] at h; cases h
  | false=>
  have hcl:∀ i r,rs[i]? = some r -> gX (rs.take i) r.name = false /\ r.outs.any (uW (rs.take i)) = false:=fun i r hi=>by
   have:=List.any_eq_false.1 hc i (List.mem_range.2 (List.getElem?_eq_some_iff.1 hi).1)
   rw [CG hi] at this
   simpa using this
  have hform:∀ r ∈ rs,bG r.name = true /\ r.after.all bG = true:=fun r hm=>by
   have:=hr r hm
   unfold bB at this
   by_cases hfo:jY r = false
   ·rw [if_pos hfo] at this; cases this
   ·have hfo:jY r = true:=by simpa using hfo
    unfold jY at hfo
    simp only [Bool.and_eq_true] at hfo
    exact ⟨hfo.1.1.1.1.1,hfo.1.2⟩
  have before:∀ (i j:Nat) (p:aG),j < i -> rs[j]? = some p -> p ∈ rs.take i:=fun i j p hji hj=>List.mem_of_getElem? (by rw [List.getElem?_take_of_lt hji]; exact hj)
  refine ⟨⟨fun r hm=>Jv (hform r hm).1,fun r hm s hs=>Jv (List.all_eq_true.1 (hform r hm).2 s hs),?_,?_⟩,fun r hm n hn=>?_,by omega,hr⟩
  ·have key:∀ (i j:Nat) (p q:aG),j < i -> rs[i]? = some p -> rs[j]? = some q -> p.name ≠ q.name:=fun i j p q hji hp hq e=>by
    have:=(hcl i p hp).1
    rw [show gX (rs.take i) p.name = true from List.any_eq_true.2 ⟨q,before i j q hji hq,decide_eq_true e.symm⟩] at this
    cases this
   intro i j p q hp hq e
   rcases Nat.lt_trichotomy i j with g | g | g
   ·exact absurd e.symm (key j i q p g hq hp)
   ·exact g
   ·exact absurd e (key i j p q g hp hq)
  ·have key:∀ (i j:Nat) (p q:aG) (f:aZ),j < i -> rs[i]? = some p -> rs[j]? = some q -> f ∈ p.outs -> f ∈ q.outs -> False:=fun i j p q f hji hp hq h1 h2=>by
    have:=(hcl i p hp).2
    rw [show p.outs.any (uW (rs.take i)) = true from List.any_eq_true.2 ⟨f,h1,List.any_eq_true.2 ⟨q,before i j q hji hq,decide_eq_true h2⟩⟩] at this
    cases this
   rintro f n m ⟨p,hp,h1,rfl⟩ ⟨q,hq,h2,rfl⟩
   obtain ⟨i,hi⟩:=List.mem_iff_getElem?.1 hp
   obtain ⟨j,hj⟩:=List.mem_iff_getElem?.1 hq
   rcases Nat.lt_trichotomy i j with g | g | g
   ·exact (key j i q p f g hj hi h2 h1).elim
   ·subst g
    rw [hi] at hj
    cases hj
    rfl
   ·exact (key i j p q f g hi hj h1 h2).elim
  ·have h1:=List.any_eq_false.1 hst r hm
   have h2:(r.after.any fun n=>decide (fN rs n = none)) = false:=by simpa using h1
   have h3:=List.any_eq_false.1 h2 n hn
   rw [sV] at h3
   simpa using h3
theorem BO {rs:List aG} {es:List (V × V)} (g:Good rs) (h:NM rs es) {i:Nat} {r:aG} (hi:rs[i]? = some r) (x:aZ):x ∈ bU es r.name ↔ ∃ k q,gQ rs false i k = true /\ rs[k]? = some q /\ q.name = x:=by
 have hm:=List.mem_of_getElem? hi
 rw [h.next r hm]
 have hd:∀ k,gQ rs false i k = true ↔ (∃ f ∈ r.ins,eV rs f = some k) \/ ∃ n ∈ r.after,fN rs n = some k:=fun k=>by
  unfold gQ uD
  rw [hi]
  simp only [Bool.not_false,Bool.true_and,Bool.or_eq_true,List.any_eq_true,decide_eq_true_eq]
 constructor
 ·rintro (hx | ⟨f,hf,hmk⟩)
  ·have hk:=g.known r hm x hx
   unfold gX at hk
   rw [<- cC] at hk
   obtain ⟨k,hk⟩:=Option.isSome_iff_exists.1 hk
   obtain ⟨q,h1,h2⟩:=iJ hk
   exact ⟨k,q,(hd k).2 (.inr ⟨x,hx,hk⟩),h1,of_decide_eq_true h2⟩
  ·obtain ⟨p,hp,hfp,rfl⟩:=hmk
   obtain ⟨k,hk⟩:=mW (p:=fun q:aG=>decide (f ∈ q.outs)) hp (decide_eq_true hfp)
   obtain ⟨q,h1,h2⟩:=iJ hk
   exact ⟨k,q,(hd k).2 (.inl ⟨f,hf,hk⟩),h1,g.short.jJ f _ _ ⟨q,List.mem_of_getElem? h1,of_decide_eq_true h2,rfl⟩ ⟨p,hp,hfp,rfl⟩⟩
 ·rintro ⟨k,q,hk,hq,rfl⟩
  rcases (hd k).1 hk with ⟨f,hf,h1⟩ | ⟨n,hn,h1⟩
  ·obtain ⟨q',h2,h3⟩:=iJ h1
   rw [hq] at h2
   cases h2
   exact .inr ⟨f,hf,q,List.mem_of_getElem? hq,of_decide_eq_true h3,rfl⟩
  ·obtain ⟨q',h2,h3⟩:=iJ h1
   rw [hq] at h2
   cases h2
   rw [of_decide_eq_true h3]
   exact .inl hn
theorem OY {rs:List aG} {es:List (V × V)} (g:Good rs) (h:NM rs es) {i k:Nat} (hw:AxS.Way (gQ rs false) i k):∀ {p q:aG},rs[i]? = some p -> rs[k]? = some q -> ∃ n,Dd es q.name (n + 1) p.name:=by
 induction hw with
 | one hm=>
  intro p q hp hq
  exact ⟨0,.succ ((BO g h hp _).2 ⟨_,q,hm,hq,rfl⟩) .zero⟩
 | @cons i j k hm _ ih=>
  intro p q hp hq
  have hj:∃ s,rs[j]? = some s:=by
   unfold gQ at hm
   rw [hp] at hm
   unfold uD at hm
   simp only [Bool.or_eq_true,Bool.and_eq_true,List.any_eq_true,decide_eq_true_eq] at hm
   rcases hm with ⟨f,-,h1⟩ | ⟨-,n,-,h1⟩
   ·obtain ⟨s,h2,-⟩:=iJ h1; exact ⟨s,h2⟩
   ·obtain ⟨s,h2,-⟩:=iJ h1; exact ⟨s,h2⟩
  obtain ⟨s,hs⟩:=hj
  obtain ⟨n,hr⟩:=ih hs hq
  exact ⟨n + 1,.succ ((BO g h hp _).2 ⟨j,s,hm,hs,rfl⟩) hr⟩
theorem MS {es:List (V × V)} {f x:List Nat} (h:Dd es f 0 x):x = f:=by cases h; rfl
theorem Jq {rs:List aG} {es:List (V × V)} (g:Good rs) (h:NM rs es) {k:Nat} {q:aG} (hq:rs[k]? = some q):∀ (n i:Nat) (p:aG),rs[i]? = some p -> Dd es q.name (n + 1) p.name -> AxS.Way (gQ rs false) i k
 | n,i,p,hp,.succ (nx:=nx) hx hr=>by
  obtain ⟨j,s,hm,hs,rfl⟩:=(BO g h hp _).1 hx
  cases n with
  | zero=>
   have e:s.name = q.name:=MS hr
   have:=g.short.nodup j k s q hs hq e
   subst this
   exact .one hm
  | succ n=>exact .cons hm (Jq g h hq n j s hs hr)
theorem FU {rs:List aG} {es:List (V × V)} (g:Good rs) (h:NM rs es):Ring rs ↔ ∃ r ∈ rs,iA (dG es es.length [r.name]) (bU es r.name) ≠ none:=by
 constructor
 ·rintro ⟨i,hi,hw⟩
  have hr:rs[i]? = some rs[i]:=List.getElem?_eq_getElem hi
  obtain ⟨n,hn⟩:=OY g h hw hr hr
  exact ⟨_,List.mem_of_getElem? hr,(G1 h _).2 ⟨n,hn⟩⟩
 ·rintro ⟨r,hr,hb⟩
  obtain ⟨i,hi⟩:=List.mem_iff_getElem?.1 hr
  obtain ⟨n,hn⟩:=(G1 h _).1 hb
  exact ⟨i,(List.getElem?_eq_some_iff.1 hi).1,Jq g h hi n i r hi hn⟩
end
end
section
section
variable {E:Env} {Z:Sg} {K:V -> Sg -> Prop}
theorem Lw {rs:List aG} {es:List (V × V)} (h:NM rs es) (hl:rs.length <= 1000) (g:Bool) (f:aZ):nX [.imp g es,.str f] = some (nF es f):=by
 show (match nE es,gB es,Nat.ble es.length 1000000 with
  | true,true,true=>some (nF es f)
  | _,_,_=>none) = _
 rw [h.ok,h.nd,Nat.ble_eq_true_of_le (by rw [h.len]; omega)]
theorem CN (es:List (V × V)) (f:aZ):(iA (dG es es.length [f]) (bU es f) = none /\ nF es f = .aC) \/ (iA (dG es es.length [f]) (bU es f) ≠ none /\ ∃ l full,nF es f = .bQ false ((f :: l).map fun s=>[V.str s]) full):=by
 unfold nF
 dsimp only
 cases iA (dG es es.length [f]) (bU es f) with
 | none=>exact .inl ⟨rfl,rfl⟩
 | some b=>exact .inr ⟨by simp,_,_,rfl⟩
theorem SN (h:bM E) {rs:List aG} {es:List (V × V)} (hn:NM rs es) (hl:rs.length <= 1000) (g:Bool) (f:aZ):aB E 148 [.imp g es,.str f] Z K = K (nF es f) Z:=by
 have h5:cW [] E.ty false (nF es f) = some (nF es f):=by
  rcases CN es f with ⟨-,e⟩ | ⟨-,l,full,e⟩
  ·rw [e]; rfl
  ·rw [e]; exact Dq rfl rfl
 have hi:Ax.bE (.imp g es) = true:=rfl
 exact sO (args':=[.imp g es,.str f]) h.WN h.Um (by simp only [aW,cV,cR hi (b_ hi)]) (Lw hn hl g f) h5
theorem Yh (h:bM E) {rs:List aG} {es:List (V × V)} {g:Bool} (hg:Good rs) (hn:NM rs es) {Y:Sg} {w:V} (ow:bD aK 9 Y w (rs.map aG.name)) (F:FT) (g5:F.get 5 = .imp g es) (g6:F.get 6 = w) :
  R E (cutAt [1,1,1,1,1] (aA Tryz.f109).code) [] ⟨48,F⟩ Y (mI E (aA Tryz.f109).results (fun v σ1=>match cW σ1 E.ty false v with
   | some v=>(v = .aC /\ ¬ Ring rs) \/ ∃ x l,jZ aK v (x :: l) /\ Ring rs
   | none=>False)):=by
 have h40:=hg.len
 have hll:(rs.map aG.name).length <= 40:=by rw [List.length_map]; omega
 obtain ⟨τ3,ns,hS,hperm,ow3,-,-⟩:=DV ow (by omega) (fun x hx=>by
  obtain ⟨r,hr,rfl⟩:=List.mem_map.1 hx
  have:=hg.short.names r hr
  omega)
 have ks:=dO (fun K=>show aB E 64 [w] Y K = K (.fS []) τ3 by rw [nK h.NO,hS]; rfl)
 have hnl:ns.length <= 40:=by rw [hperm.length_eq]; omega
 have lw:=nD h.aV rfl ow3.ls
 simp only [aA,Tryz.f109,KP,↓reduceIte,Nat.reduceEqDiff,Nat.reduceLT,cutAt,g6,ks,lw]
 refine aR (fun i F Y=>Y = τ3 /\ F.get 5 = .imp g es /\ F.get 35 = w /\ F.get 36 = .int .i64 (ns.length:Int) /\ F.get 37 = .int .i64 (i:Int) /\ ∀ (j:Nat) (x:aZ),j < i -> ns[j]? = some x -> iA (dG es es.length [x]) (bU es x) = none) ns.length ?_ ?_ ns.length 0 _ _ (by omega) ⟨rfl,(fZ (by simp +decide only [GS,g5,and_self]) (fun j x hj=>by omega))⟩
 ·rintro i F Y hi ⟨rfl,g5,g35,g36,g37,hp⟩ next
  obtain ⟨x,hx⟩:∃ y,ns[i]? = some y:=⟨_,List.getElem?_eq_getElem hi⟩
  obtain ⟨p,r,e4,e5,-,e6,-⟩:=Ea (Z:=Y) h.aV rfl h.cN rfl ow3.ls hx
  have e6:=e6 rfl (by decide)
  rw [show r = [.str x] from e5] at e6
  have e6:loadAt E Y 9 p = some (.str x):=e6
  have hlt:=dN hi
  have hadd:=bV i (by omega)
  have kb:=fun (Z:Sg)=>dO (fun K=>SN (Z:=Z) (K:=K) h hn (by omega) g x)
  have hxm:x ∈ rs.map aG.name:=hperm.mem_iff.1 (List.mem_of_getElem? hx)
  obtain ⟨q,hq,hqx⟩:=List.mem_map.1 hxm
  rw [aF]
  rcases CN es x with ⟨hb,e⟩ | ⟨hb,l,full,e⟩
  ·simp only [KP,↓reduceIte,Nat.reduceEqDiff,Nat.reduceLT,g5,g35,g36,g37,hlt,e4,e6,kb,e,Cv h,hadd]
   refine next _ _ ⟨rfl,(fZ (by simp +decide only [GS,g5,g35,g36,and_self]) (fun j y hj hy=>?_))⟩
   rcases Nat.lt_or_ge j i with gg | gg
   ·exact hp j y gg hy
   ·obtain rfl:j = i:=by omega
    rw [hx] at hy; cases hy; exact hb
  ·have hsn:∀ Z,cW Z E.ty false (.bQ false ((x :: l).map fun s=>[V.str s]) full) = some (.bQ false ((x :: l).map fun s=>[V.str s]) full):=fun Z=>Dq rfl rfl
   simp only [KP,↓reduceIte,Nat.reduceEqDiff,Nat.reduceLT,reduceCtorEq,g5,g35,g36,g37,hlt,e4,e6,kb,e,Cu h,hsn]
   exact .inr ⟨x,l,.inr ⟨_,full,rfl,yZ _⟩,(FU hg hn).2 ⟨q,hq,by rw [hqx]; exact hb⟩⟩
 ·rintro F Y ⟨rfl,g5,g35,g36,g37,hp⟩
  have hlt:=dQ (Nat.lt_irrefl ns.length)
  rw [aF]
  simp only [KP,↓reduceIte,Nat.reduceLT,g36,g37,hlt]
  refine .inl ⟨rfl,fun hr=>?_⟩
  obtain ⟨r,hr,hb⟩:=(FU hg hn).1 hr
  obtain ⟨j,hj⟩:=List.mem_iff_getElem?.1 (hperm.mem_iff.2 (List.mem_map.2 ⟨r,hr,rfl⟩))
  exact hb (hp j r.name (List.getElem?_eq_some_iff.1 hj).1 hj)
theorem Ow (h:bM E) {a:V} {rs:List aG} (ha:LS dS 37 Z a rs) (hs:∀ x ∈ rs,Small x) (hp:gA rs = 0):aB E 109 [a] Z fun v σ'=>σ' = Z /\ ((v = .aC /\ ¬ Ring rs) \/ ∃ x l,jZ aK v (x :: l) /\ Ring rs):=by
 obtain ⟨a',ea,ia⟩:=eR h ha
 have hg:=A6 hp
 have h40:=hg.len
 rw [aH h.WZ h.Uy h.XN h.V4 (args':=[a']) (by simp only [aW,ea]),a_ (by kernel_rfl)]
 have la:=cK h ia
 have key:=fun es g hn Y w ow F g5 g6=>Yh (E:=E) (rs:=rs) (es:=es) (g:=g) (Y:=Y) (w:=w) h hg hn ow F g5 g6
 rw [show (aA Tryz.f109).code = .seq (cutAt [0] (aA Tryz.f109).code) (.seq (cutAt [1,0] (aA Tryz.f109).code) (.seq (cutAt [1,1,0] (aA Tryz.f109).code) (.seq (cutAt [1,1,1,0] (aA Tryz.f109).code) (.seq (cutAt [1,1,1,1,0] (aA Tryz.f109).code) (cutAt [1,1,1,1,1] (aA Tryz.f109).code))))) from rfl]
 generalize cutAt [1,1,1,1,1] (aA Tryz.f109).code = C at key ⊢
 simp only [aA,Tryz.f109,KP,↓reduceIte,Nat.reduceLT,reduceCtorEq,cutAt]
 refine aL (J2 h (ia.ls _ 37) hs (by omega)) ?_
 rintro v σ' ⟨rfl,nm,rfl⟩
 rw [hp]
 simp only [KP,↓reduceIte,Nat.reduceEqDiff,Nat.reduceLT,reduceCtorEq]
 refine aL (QS h (ia.ls _ 37) hs hg.short (by omega)) ?_
 rintro v σ' ⟨rfl,es,rfl,hv⟩
 have hn:=Vr hg.short hv
 simp only [KP,↓reduceIte,Nat.reduceLT,reduceCtorEq,la]
 refine aR (fun i F Y=>F.get 5 = .imp false es /\ F.get 21 = a' /\ F.get 22 = .int .i64 (rs.length:Int) /\ F.get 23 = .int .i64 (i:Int) /\ ∃ w,F.get 6 = w /\ bD aK 9 Y w ((rs.take i).map aG.name)) rs.length ?_ ?_ rs.length 0 _ _ (by omega) (fZ (by simp +decide only [GS,and_self]) ⟨.aC,(by simp +decide only [GS]),.inl ⟨rfl,rfl⟩⟩)
 ·rintro i F Y hi ⟨g5,g21,g22,g23,w,g6,ow⟩ next
  obtain ⟨r,hr⟩:∃ y,rs[i]? = some y:=⟨_,List.getElem?_eq_getElem hi⟩
  obtain ⟨g,p1,p2,p3,p4,e1,i1,i2,i3,i4⟩:=eL h ia hr
  have o1:=aJ i1.bE
  have o2:=aJ i2.bE
  have o3:=aJ i3.bE
  have o4:=aJ i4.bE
  have hlt:=dN hi
  have hadd:=bV i (by omega)
  have s1:(Y ++ [O.cells 37 [.str r.name,p1,p2,p3,p4] true])[Y.length]? = some (O.cells 37 [.str r.name,p1,p2,p3,p4] true):=aN
  have ow1:=ow.app [O.cells 37 [.str r.name,p1,p2,p3,p4] true]
  rw [aF]
  simp only [KP,Ax.loadAt,Ax.storeAt,↓reduceIte,Nat.reduceEqDiff,Nat.reduceLT,Nat.reduceLeDiff,Nat.reduceAdd,Nat.reduceMul,reduceCtorEq,h.cN,h.aV,h.bI,g6,g21,g22,g23,hlt,e1,o1,o2,o3,o4,aN,cF]
  generalize Y ++ [O.cells 37 [.str r.name,p1,p2,p3,p4] true] = τ1 at *
  generalize Y.length = y at *
  obtain ⟨w',τ',hap,ow',-,-,-⟩:=jR (ats:=#[28,28]) (m:=[r.name]) (new:=[[.str r.name]]) h.aV rfl h.cN rfl (by decide) (jE h) rfl (ow1.app [.cells 9 [.str r.name] true]) (mE rfl) (.one rfl) (eS (b:=1000) (by decide) (by rw [List.length_map,List.length_take]; simp only [List.length_cons,List.length_nil]; omega))
  simp only [KP,↓reduceIte,Nat.reduceEqDiff,Nat.reduceLT,g23,iN,hap,hadd]
  refine next _ _ (fZ (by simp +decide only [GS,g5,g21,g22,and_self]) ⟨w',(by simp +decide only [GS]),?_⟩)
  rw [List.take_add_one,hr,List.map_append]
  exact ow'
 ·rintro F Y ⟨g5,g21,g22,g23,w,g6,ow⟩
  rw [List.take_of_length_le (Nat.le_refl _)] at ow
  have hlt:=dQ (Nat.lt_irrefl rs.length)
  rw [aF]
  simp only [KP,↓reduceIte,Nat.reduceLT,g22,g23,hlt]
  exact key es false hn _ w ow _ (by simp +decide only [GS,g5]) (by simp +decide only [GS,g6])
theorem Tw (h:bM E) {a:V} {rs:List aG} (ha:LS dS 37 Z a rs) (hs:∀ x ∈ rs,Small x) (hl:rs.length <= 4294967296):aB E 62 [a] Z fun v σ'=>σ' = Z /\ ∃ e nm,v = .fS [.int .i64 e,.str nm] /\ Hl rs e:=by
 obtain ⟨a',ea,ia⟩:=eR h ha
 rw [aH h.hs62 h.sp62 h.fn62 h.md62 (args':=[a']) (by simp only [aW,ea]),a_ (by kernel_rfl)]
 have d6:=h.X_
 simp only [aA,Tryz.f62,cutAt,Option.getD_some] at d6
 simp only [aA,Tryz.f62,KP,↓reduceIte,Nat.reduceLT,reduceCtorEq,kS]
 refine aL (J2 h (ia.ls _ 37) hs hl) ?_
 rintro v σ' ⟨rfl,nm,rfl⟩
 by_cases hp:gA rs = 0
 case neg=>
  have q:=decide_eq_false hp
  simp only [KP,↓reduceIte,Nat.reduceEqDiff,Nat.reduceLT,q]
  exact ⟨gA rs,nm,rfl,.inl ⟨hp,rfl⟩⟩
 have q:=decide_eq_true hp
 simp only [KP,↓reduceIte,Nat.reduceEqDiff,Nat.reduceLT,reduceCtorEq,q]
 refine aL (Ow h (ia.ls _ 37) hs hp) ?_
 rintro v σ' ⟨rfl,hv⟩
 rcases hv with ⟨rfl,hr⟩ | ⟨x,l,iv,hr⟩
 ·simp only [KP,↓reduceIte,Nat.reduceEqDiff,Nat.reduceLT,kS,Cv h]
  exact ⟨0,[],rfl,.inr ⟨hp,.inr ⟨hr,rfl⟩⟩⟩
 ·obtain ⟨g,e1⟩:=fI h iv.is (i:=0) (x:=x) rfl
  have e1:indexAddr E 28 v (.int .i64 0) = some (.dP g [.str x]):=e1
  have en:pR E 28 true v .aC = some false:=by
   rcases iv with ⟨-,e⟩ | ⟨rs',full,rfl,-⟩
   ·cases e
   ·exact Cu h
  simp only [KP,Ax.loadAt,↓reduceIte,Nat.reduceEqDiff,Nat.reduceLT,h.cN,en,e1,bA d6,bX]
  exact ⟨3,x,rfl,.inr ⟨hp,.inl ⟨hr,rfl⟩⟩⟩
end
end
structure OrE (E:Env):Prop where
 hs14:E.hspec 14 = none
 Pk:E.spec 14 = none
 fn14:E.fn 14 = some (aA Tryz.f14)
 md14:E.mode 14 = .fA
 hs66:E.hspec 66 = none
 sp66:E.spec 66 = none
 fn66:E.fn 66 = some (aA Tryz.f66)
 md66:E.mode 66 = .fA
 hs68:E.hspec 68 = none
 sp68:E.spec 68 = none
 fn68:E.fn 68 = some (aA Tryz.f68)
 md68:E.mode 68 = .fA
 hs15:E.hspec 15 = none
 Pj:E.spec 15 = none
 fn15:E.fn 15 = some (aA Tryz.f15)
 md15:E.mode 15 = .fA
 hs69:E.hspec 69 = none
 sp69:E.spec 69 = none
 fn69:E.fn 69 = some (aA Tryz.f69)
 md69:E.mode 69 = .fA
 d14_15:aO E (cutAt [1,1,1,1,1,1,1,0,2,2,1,2,1,0] (aA Tryz.f14).code) = true
section
section
variable {E:Env} {Z:Sg} {K:V -> Sg -> Prop}
theorem Sm {Y:Sg} {w:V} {l:List aZ} {k:Nat} {es:List (V × V)} (hb:Y[k]? = some (.map es)) (ow:bD aK 9 Y w l):aT w ≠ some k:=by
 rcases ow with ⟨rfl,-⟩ | ⟨b,rs,ex,rfl,hc,-⟩
 ·intro e; cases e
 ·intro e
  cases e
  rw [hb] at hc
  cases hc
structure uL (rs:List aG) (o:List aZ):Prop where
 len:o.length = rs.length
 nodup:o.Nodup
 mem:∀ x ∈ o,x ∈ rs.map aG.name
 behind:∀ (i k:Nat) (p q:aG),rs[i]? = some p -> rs[k]? = some q -> gQ rs false i k = true -> ∀ (j:Nat),o[j]? = some p.name -> q.name ∈ o.take j
structure xZ (E:Env) (Y:Sg) (es:List (V × V)) (p:aZ -> Bool):Prop where
 b0:Y[0]? = some (.cells 96 [.imp false es] true)
 b2:Y[2]? = some (.cells 98 [.mp 1] true)
 b1:∃ e1,Y[1]? = some (.map e1) /\ SB E e1 p
theorem xZ.app {Y:Sg} {es:List (V × V)} {p:aZ -> Bool} (h:xZ E Y es p) (y:O):xZ E (Y ++ [y]) es p:=by
 obtain ⟨e1,h1,h2⟩:=h.b1
 exact ⟨aP h.b0,aP h.b2,e1,aP h1,h2⟩
theorem xZ.sp {Y τ':Sg} {es:List (V × V)} {p:aZ -> Bool} {w:V} {l:List aZ} (h:xZ E Y es p) (ow:bD aK 9 Y w l) (sp:Sp Y τ' w):xZ E τ' es p:=by
 obtain ⟨e1,h1,h2⟩:=h.b1
 exact ⟨sp _ _ h.b0 (kM h.b0 (by decide) ow),sp _ _ h.b2 (kM h.b2 (by decide) ow),e1,sp _ _ h1 (Sm h1 ow),h2⟩
theorem xZ.put {Y:Sg} {es e1:List (V × V)} {p q:aZ -> Bool} (h:xZ E Y es p) (hs:SB E e1 q):xZ E (Y.set 1 (.map e1)) es q:=by
 obtain ⟨e0,h1,-⟩:=h.b1
 exact ⟨by rw [List.getElem?_set_ne (by decide)]; exact h.b0,by rw [List.getElem?_set_ne (by decide)]; exact h.b2,e1,by rw [List.getElem?_set_self (List.getElem?_eq_some_iff.1 h1).1],hs⟩
end
end
section
structure sM (E:Env):Prop where
 pW:E.ty 105 = some { kd:=.map 46 77,size:=1,bytes:=8,zero:=.bS }
 sD:E.ty 107 = some { kd:=.jC [(0,103),(1,104),(2,77),(3,105),(4,105)],size:=5,bytes:=40,zero:=.agg [.bS,.bS,.fR,.bS,.bS] }
 TS:E.ty 41 = some { kd:=.ptr 107,size:=1,bytes:=8,zero:=.fR }
 L7:E.ty 103 = some { kd:=.map 9 37,size:=1,bytes:=8,zero:=.bS }
 wH:E.ty 144 = some { kd:=.jC [(0,105),(1,46),(3,46)],size:=5,bytes:=56,zero:=.agg [.bS,.bool false,.str [],.bool false,.str []] }
 IZ:E.ty 145 = some { kd:=.sl 144,size:=1,bytes:=24,zero:=.aC }
 hs70:E.hspec 70 = none
 sp70:E.spec 70 = none
 fn70:E.fn 70 = some (aA Tryz.f70)
 md70:E.mode 70 = .fA
 WX:E.hspec 113 = none
 Uw:E.spec 113 = none
 XL:E.fn 113 = some (aA Tryz.f113)
 V2:E.mode 113 = .shared
 hs19:E.hspec 19 = none
 Mt:E.spec 19 = none
 fn19:E.fn 19 = some (aA Tryz.f19)
 md19:E.mode 19 = .fA
 hs73:E.hspec 73 = none
 sp73:E.spec 73 = none
 fn73:E.fn 73 = some (aA Tryz.f73)
 md73:E.mode 73 = .shared
 hs72:E.hspec 72 = none
 sp72:E.spec 72 = none
 fn72:E.fn 72 = some (aA Tryz.f72)
 md72:E.mode 72 = .fA
 hs74:E.hspec 74 = none
 sp74:E.spec 74 = none
 fn74:E.fn 74 = some (aA Tryz.f74)
 md74:E.mode 74 = .fA
 hs37:E.hspec 37 = none
 sp37:E.spec 37 = none
 fn37:E.fn 37 = some (aA Tryz.f37)
 md37:E.mode 37 = .fA
 hs63:E.hspec 63 = none
 sp63:E.spec 63 = none
 fn63:E.fn 63 = some (aA Tryz.f63)
 md63:E.mode 63 = .fA
 TN:g_ E (opsOf (cutAt [1,0] (aA Tryz.f70).code)) = .no
 Vj:cZ E .no (opsOf (cutAt [1,0] (aA Tryz.f70).code)) = some [⟨2,4,true,false⟩,  ⟨2,7,true,false⟩,  ⟨2,10,true,false⟩,  ⟨5,7,true,false⟩,  ⟨5,10,true,false⟩,  ⟨8,10,true,false⟩]
 TM:g_ E (opsOf (cutAt [1,1,0,1,2,2,1,1,0,2,1] (aA Tryz.f70).code)) = .no
 Vi:cZ E .no (opsOf (cutAt [1,1,0,1,2,2,1,1,0,2,1] (aA Tryz.f70).code)) = some [⟨1,12,false,true⟩,  ⟨1,19,false,true⟩,  ⟨4,12,false,true⟩,  ⟨4,19,false,true⟩,  ⟨4,22,false,true⟩,  ⟨12,14,true,false⟩,  ⟨12,18,true,false⟩]
 Yf:aO E (cutAt [1,1,1,0,1,2,2,1,1,0,2,1,0] (aA Tryz.f19).code) = true
 TQ:g_ E (opsOf (cutAt [1,1,1,0,1,2,2,1,1,0,2,1,1,0] (aA Tryz.f19).code)) = .no
 Vm:cZ E .no (opsOf (cutAt [1,1,1,0,1,2,2,1,1,0,2,1,1,0] (aA Tryz.f19).code)) = some [⟨3,7,false,true⟩]
 S8:aO E (cutAt [1,1,1,0,1,2,2,1,1,0,2,1,1,1,1,1,2,2,1,1,0,2,1,0] (aA Tryz.f19).code) = true
 S7:aO E (cutAt [1,1,1,0,1,2,2,1,1,0,2,1,1,1,1,1,2,2,1,1,0,2,1,1] (aA Tryz.f19).code) = true
 TL:g_ E (opsOf (cutAt [1,0] (aA Tryz.f73).code)) = .no
 Vh:cZ E .no (opsOf (cutAt [1,0] (aA Tryz.f73).code)) = some [⟨3,6,false,true⟩]
 X8:aO E (cutAt [1,1,0] (aA Tryz.f73).code) = true
 TK:g_ E (opsOf (cutAt [1,1,1,2,2,1,1,0,2,1,0,1,0] (aA Tryz.f73).code)) = .no
 Vg:cZ E .no (opsOf (cutAt [1,1,1,2,2,1,1,0,2,1,0,1,0] (aA Tryz.f73).code)) = some [⟨1,4,false,true⟩,  ⟨3,4,false,true⟩]
 TJ:g_ E (opsOf (cutAt [1,1,1,2,2,1,1,0,2,1,1] (aA Tryz.f73).code)) = .no
 Vf:cZ E .no (opsOf (cutAt [1,1,1,2,2,1,1,0,2,1,1] (aA Tryz.f73).code)) = some [⟨1,7,false,true⟩,  ⟨3,7,false,true⟩,  ⟨4,7,false,true⟩]
 z63_17:g_ E (opsOf (cutAt [1,1,1,1,0,1,2,2,1,1,0,2,1,1,1,1] (aA Tryz.f63).code)) = .no
 p63_17:cZ E .no (opsOf (cutAt [1,1,1,1,0,1,2,2,1,1,0,2,1,1,1,1] (aA Tryz.f63).code)) = some [⟨2,4,false,true⟩]
section
variable {E:Env} {Z:Sg} {K:V -> Sg -> Prop}
theorem aB.up {f:Nat} {args:List V} {K:V -> Sg -> Prop} (h:aB E f args Z K):∃ n v σ',K v σ' /\ ∀ m,n <= m -> gI E (ev E m) f args Z = some (v,σ'):=by
 obtain ⟨n,v,σ',hc,hk⟩:=h
 exact ⟨n,v,σ',hk,fun m hm=>rW (lN E hm) hc⟩
theorem La (h:bM E):pR E 35 true .aC .aC = some true:=by unfold pR; rw [h.fF]
theorem K_ (h:bM E) {g:Bool} {rs:List (List V)} {f:Bool}:pR E 35 true (.bQ g rs f) .aC = some false:=by unfold pR; rw [h.fF]
theorem LI (h:bM E) (h':sM E) {a:V} {l:List AxS.Step} (ia:IS eW a l) (hl:l.length <= 1000):aB E 113 [a] Z fun v σ'=>bD eW 75 σ' v l /\ Kp Z σ' /\ ∀ b,aT v = some b -> Z.length <= b:=by
 rw [dA h'.WX h'.Uw h'.XL h'.V2,a_ (by kernel_rfl)]
 rcases ia with ⟨rfl,rfl⟩ | ⟨g,rs,full,rfl,ha⟩
 ·simp only [aA,Tryz.f113,KP,↓reduceIte,Nat.reduceLT,reduceCtorEq,La h]
  exact ⟨.inl ⟨rfl,rfl⟩,fun _ _ h=>h,fun b hb=>by cases hb⟩
 ·obtain ⟨rs',e,ha'⟩:=qN (L:=eW) (x:=.bQ g rs full) (l:=l) (.inr ⟨g,rs,full,rfl,ha⟩) (Z ++ [O.cells 75 [] true])
  obtain ⟨w',τ',h1,h2,h3,h4,h5⟩:=jR (ats:=#[35,35]) (Z:=Z ++ [O.cells 75 [] true]) (w:=.sl Z.length 0 0 none) (l:=[]) (L:=eW) h.fF rfl h.cO rfl (by decide) (Ac h) rfl (.inr ⟨Z.length,[],true,rfl,aN,.nil⟩) e ha' (eS (b:=1000) (by decide) (by simp only [List.length_nil]; omega))
  rw [List.nil_append] at h2
  simp only [aA,Tryz.f113,KP,↓reduceIte,Nat.reduceEqDiff,Nat.reduceLT,Nat.reduceLeDiff,reduceCtorEq,h.fF,h.cO,K_ h,h1,Ax.fill,gK,Nat.zero_mul]
  refine ⟨h2,fun c o hc=>h3 _ _ (aP hc) fun e=>?_,fun b hb=>?_⟩
  ·cases e
   exact absurd (List.getElem?_eq_some_iff.1 hc).1 (Nat.lt_irrefl _)
  ·rcases h5 b hb with g | g
   ·cases g; exact Nat.le_refl _
   ·simp only [List.length_append,List.length_cons,List.length_nil] at g; omega
end
end
end Go.Proofs.YtlbbdpkjeeiahaaGreatDoor
end
section
set_option maxHeartbeats 8000000
set_option linter.unusedVariables false
namespace Go.Proofs.YtlbbdpkjeeiahaaGreatDoor.Lb
open Go Go.Ax Go.AxS
section
structure eM (E:Env):Prop where
 oZ:E.ty 3 = some { kd:=.int .i64,size:=1,bytes:=8,zero:=.int .i64 0 }
 AU:E.ty 4 = some { kd:=.bool,size:=1,bytes:=1,zero:=.bool false }
 cN:E.ty 9 = some { kd:=.str,size:=1,bytes:=16,zero:=.str [] }
 pV:E.ty 40 = some { kd:=.sl 46,size:=1,bytes:=24,zero:=.aC }
 sQ:E.ty 77 = some { kd:=.ptr 86,size:=1,bytes:=8,zero:=.fR }
 uP:E.ty 82 = some { kd:=.map 46 4,size:=1,bytes:=8,zero:=.bS }
 uO:E.ty 84 = some { kd:=.jC [(0,82)],size:=1,bytes:=8,zero:=.agg [.bS] }
 AD:E.ty 86 = some { kd:=.jC [(0,84)],size:=1,bytes:=8,zero:=.agg [.bS] }
 fM:E.ty 46 = some { kd:=.jC [(0,4),(1,9)],size:=2,bytes:=24,zero:=.agg [.bool false,.str []] }
 I0:E.ty 118 = some { kd:=.ptr 84,size:=1,bytes:=8,zero:=.fR }
 XX:E.eqs 46 = some [.bool,.str]
 Wl:E.hspec 87 = some (kP 46 [129] [] 89)
 hs20:E.hspec 20 = none
 Ph:E.spec 20 = none
 fn20:E.fn 20 = some (aA Tryz.f20)
 md20:E.mode 20 = .fA
 hs42:E.hspec 42 = none
 sp42:E.spec 42 = none
 fn42:E.fn 42 = some (aA Tryz.f42)
 md42:E.mode 42 = .fA
 hs41:E.hspec 41 = none
 sp41:E.spec 41 = none
 fn41:E.fn 41 = some (aA Tryz.f41)
 md41:E.mode 41 = .fA
 hs44:E.hspec 44 = none
 sp44:E.spec 44 = none
 fn44:E.fn 44 = some (aA Tryz.f44)
 md44:E.mode 44 = .shared
 Wn:E.hspec 71 = none
 TX:E.spec 71 = none
 Xg:E.fn 71 = some (aA Tryz.f71)
 Vw:E.mode 71 = .shared
 hs85:E.hspec 85 = none
 sp85:E.spec 85 = none
 fn85:E.fn 85 = some (aA Tryz.f85)
 md85:E.mode 85 = .shared
 Wo:E.hspec 50 = none
 TZ:E.spec 50 = none
 Xh:E.fn 50 = some (aA Tryz.f50)
 Vx:E.mode 50 = .shared
 hs48:E.hspec 48 = none
 sp48:E.spec 48 = none
 fn48:E.fn 48 = some (aA Tryz.f48)
 md48:E.mode 48 = .fA
 hs49:E.hspec 49 = none
 sp49:E.spec 49 = none
 fn49:E.fn 49 = some (aA Tryz.f49)
 md49:E.mode 49 = .fA
 hs142:E.hspec 142 = none
 sp142:E.spec 142 = none
 fn142:E.fn 142 = some (aA Tryz.f142)
 md142:E.mode 142 = .fA
 hs52:E.hspec 52 = none
 sp52:E.spec 52 = none
 fn52:E.fn 52 = some (aA Tryz.f52)
 md52:E.mode 52 = .fA
 hs51:E.hspec 51 = none
 sp51:E.spec 51 = none
 fn51:E.fn 51 = some (aA Tryz.f51)
 md51:E.mode 51 = .fA
 hs89:E.hspec 89 = none
 sp89:E.spec 89 = none
 fn89:E.fn 89 = some (aA Tryz.f89)
 md89:E.mode 89 = .fA
 hs130:E.hspec 130 = none
 sp130:E.spec 130 = none
 fn130:E.fn 130 = some (aA Tryz.f130)
 md130:E.mode 130 = .fA
 hs175:E.hspec 175 = none
 sp175:E.spec 175 = none
 fn175:E.fn 175 = some (aA Tryz.f175)
 md175:E.mode 175 = .fA
 Wk:E.hspec 88 = none
 TV:E.spec 88 = none
 Xe:E.fn 88 = some (aA Tryz.f88)
 Vu:E.mode 88 = .shared
 hs22:E.hspec 22 = none
 Pg:E.spec 22 = none
 fn22:E.fn 22 = some (aA Tryz.f22)
 md22:E.mode 22 = .fA
 hs24:E.hspec 24 = none
 Pf:E.spec 24 = none
 fn24:E.fn 24 = some (aA Tryz.f24)
 md24:E.mode 24 = .fA
 hs25:E.hspec 25 = none
 Pe:E.spec 25 = none
 fn25:E.fn 25 = some (aA Tryz.f25)
 md25:E.mode 25 = .fA
 hs28:E.hspec 28 = none
 Pd:E.spec 28 = none
 fn28:E.fn 28 = some (aA Tryz.f28)
 md28:E.mode 28 = .fA
 hs77:E.hspec 77 = none
 sp77:E.spec 77 = none
 fn77:E.fn 77 = some (aA Tryz.f77)
 md77:E.mode 77 = .fA
 hs102:E.hspec 102 = none
 sp102:E.spec 102 = none
 fn102:E.fn 102 = some (aA Tryz.f102)
 md102:E.mode 102 = .fA
 hs141:E.hspec 141 = none
 sp141:E.spec 141 = none
 fn141:E.fn 141 = some (aA Tryz.f141)
 md141:E.mode 141 = .fA
 hs140:E.hspec 140 = none
 sp140:E.spec 140 = none
 fn140:E.fn 140 = some (aA Tryz.f140)
 md140:E.mode 140 = .shared
 hs83:E.hspec 83 = none
 sp83:E.spec 83 = none
 fn83:E.fn 83 = some (aA Tryz.f83)
 md83:E.mode 83 = .fA
 X9:aO E (cutAt [1,1,1,1,0,1,2,2,1,1,0,2,1] (aA Tryz.f71).code) = true
 Yb:aO E (cutAt [1,0] (aA Tryz.f48).code) = true
 d142_1:aO E (cutAt [1,0] (aA Tryz.f142).code) = true
 d24_2:aO E (cutAt [1,1,0,2,2,0,0] (aA Tryz.f24).code) = true
 d24_4:aO E (cutAt [1,1,1,0,0] (aA Tryz.f24).code) = true
 z24_6:g_ E (opsOf (cutAt [1,1,1,1,0] (aA Tryz.f24).code)) = .lit
 p24_6:cZ E .lit (opsOf (cutAt [1,1,1,1,0] (aA Tryz.f24).code)) = some [⟨3,4,true,false⟩,⟨3,9,true,false⟩,⟨6,9,true,false⟩]
 d25_6:aO E (cutAt [1,1,0,1,2,2,1,0,2,0] (aA Tryz.f25).code) = true
 d28_4:aO E (cutAt [1,0,1,2,2,1,0,2,0] (aA Tryz.f28).code) = true
def dL (Z σ':Sg):Prop:=∀ (b t:Nat) (cs:List V) (ex:Bool),Z[b]? = some (.cells t cs ex) -> σ'[b]? = some (.cells t cs ex)
theorem dL.refl (Z:Sg):dL Z Z:=fun _ _ _ _ h=>h
theorem dL.trans {Z Y ρ:Sg} (h:dL Z Y) (k:dL Y ρ):dL Z ρ:=fun b t cs ex e=>k b t cs ex (h b t cs ex e)
theorem jP {Z:Sg} {b:Nat} {o:O} (h:Z[b]? = some o) (Y:Sg):(Z ++ Y)[b]? = some o:=by
 rw [List.getElem?_append_left (List.getElem?_eq_some_iff.1 h).1]; exact h
theorem dL.app (Z Y:Sg):dL Z (Z ++ Y):=fun _ _ _ _ h=>jP h Y
theorem dL.Ez {Z:Sg} {m:Nat} {es es':List (V × V)} (h:Z[m]? = some (.map es)):dL Z (Z.set m (.map es')):=fun b t cs ex e=>by
 by_cases hb:m = b
 ·subst hb; rw [h] at e; cases e
 ·rw [List.getElem?_set_ne hb]; exact e
def SV (Z:Sg) (v:V) (l:List aM):Prop:=
 (v = .aC /\ l = []) \/ (∃ g full,v = .bQ g (l.map row) full) \/ ∃ b cs ex,v = .sl b 0 l.length none /\ Z[b]? = some (.cells 46 cs ex) /\ cs.take (l.length * 2) = l.flatMap row
def LV (v:V) (l:List aM):Prop:=(v = .aC /\ l = []) \/ ∃ g full,v = .bQ g (l.map row) full
theorem LV.sv {v:V} {l:List aM} (h:LV v l) (Z:Sg):SV Z v l:=h.imp id .inl
theorem SV.keep {Z σ':Sg} {v:V} {l:List aM} (h:SV Z v l) (k:dL Z σ'):SV σ' v l:=by
 rcases h with h | h | ⟨b,cs,ex,h1,h2,h3⟩
 ·exact .inl h
 ·exact .inr (.inl h)
 ·exact .inr (.inr ⟨b,cs,ex,h1,k _ _ _ _ h2,h3⟩)
theorem pG:∀ l:List aM,(l.flatMap row).length = l.length * 2
 | []=>rfl
 | x :: l=>by rw [List.flatMap_cons,List.length_append,pG l,List.length_cons]; show 2 + _ = _; omega
theorem GL (l:List aM):(l.map row).flatten = l.flatMap row:=by rw [List.flatMap_def]
theorem JU:∀ (l:List aM) (i:Nat) (x:aM),l[i]? = some x -> ((l.flatMap row).drop (i * 2)).take 2 = row x
 | [],i,x,h=>by simp at h
 | y :: l,0,x,h=>by cases h; rfl
 | y :: l,i + 1,x,h=>by
  rw [show (i + 1) * 2 = i * 2 + 2 by omega]
  show ((row y ++ l.flatMap row).drop (i * 2 + 2)).take 2 = _
  rw [Nat.add_comm,<- List.drop_drop]
  exact JU l i x h
theorem xF {f:V -> Option V}:∀ l:List V,(∀ x ∈ l,f x = some x) -> aW f l = some l
 | [],_=>rfl
 | x :: l,h=>by
  rw [aW,h x (List.mem_cons_self ..),xF l fun y hy=>h y (List.mem_cons_of_mem _ hy)]
section
variable {E:Env} {Z:Sg} {K:V -> Sg -> Prop}
theorem St (h:eM E) {v:V} {l:List aM} (hv:SV Z v l):lenOf E Z 40 v = some l.length:=by
 unfold lenOf
 rw [h.pV]
 rcases hv with ⟨rfl,rfl⟩ | ⟨g,full,rfl⟩ | ⟨b,cs,ex,rfl,hb,hc⟩
 ·rfl
 ·simp
 ·rfl
theorem Qz (h:eM E) {v:V} {l:List aM} (hv:SV Z v l) {i:Nat} {x:aM} (hx:l[i]? = some x) :
  ∃ a,indexAddr E 40 v (.int .i64 (i:Int)) = some a /\ ∀ σ',dL Z σ' -> loadAt E σ' 46 a = some (.agg [.bool x.1,.str x.2]):=by
 have hi:=(List.getElem?_eq_some_iff.1 hx).1
 rcases hv with ⟨rfl,rfl⟩ | ⟨g,full,rfl⟩ | ⟨b,cs,ex,rfl,hb,hc⟩
 ·simp at hx
 ·have hr:(l.map row)[((i:Nat):Int).toNat]? = some (row x):=by
   rw [Int.toNat_natCast,List.getElem?_map,hx]; rfl
  refine ⟨.dP g (row x),?_,fun σ' _=>?_⟩
  ·unfold indexAddr
   simp only [h.pV,h.fM,hr]
   rw [if_neg (by omega)]
   rfl
  ·unfold loadAt
   simp only [h.fM]
   rfl
 ·refine ⟨.ref b (0 + i * 2),?_,fun σ' k=>?_⟩
  ·unfold indexAddr
   simp only [h.pV,h.fM,Int.toNat_natCast]
   rw [if_neg (by omega),if_pos hi]
  ·have hlen:l.length * 2 <= cs.length:=by
    have:=congrArg List.length hc
    rw [List.length_take,pG] at this
    omega
   unfold loadAt
   simp only [h.fM,k _ _ _ _ hb]
   have e:(cs.drop (0 + i * 2)).take 2 = row x:=by
    have:=JU l i x hx
    rw [<- hc,List.drop_take,List.take_take] at this
    rw [show min 2 (l.length * 2 - i * 2) = 2 by omega] at this
    rw [Nat.zero_add]
    exact this
   rw [show Ax.isAgg (Kd.jC [(0,4),(1,9)]) = true from rfl]
   simp only [if_true]
   rw [if_pos (by omega),e]
   rfl
end
end
end Go.Proofs.YtlbbdpkjeeiahaaGreatDoor.Lb
end
section
set_option maxRecDepth 10000
set_option maxHeartbeats 8000000
set_option linter.unusedVariables false
namespace Go.Proofs.YtlbbdpkjeeiahaaGreatDoor
open Go Go.Ax Go.AxS
section
structure OrL (E:Env):Prop where
 Qc:E.hspec 3 = none
 Mn:E.spec 3 = none
 fn3:E.fn 3 = some (aA Tryz.f3)
 md3:E.mode 3 = .fA
 beg:∀ {Z:Sg} {K:V -> Sg -> Prop},aB E 11 [] Z K = K (.bool true) Z
section
variable {E:Env} {Z:Sg} {K:V -> Sg -> Prop}
theorem Am {α:Type} {p:α -> Bool}:∀ {l:List α} {k:Nat},bJ p l = some k -> ∀ (j:Nat) (y:α),j < k -> l[j]? = some y -> p y = false
 | [],_,h,_,_,_,_=>by cases h
 | x :: l,k,h,j,y,hj,hy=>by
  rw [bJ] at h
  by_cases hx:p x = true
  ·rw [if_pos hx] at h; cases h; omega
  ·rw [if_neg hx] at h
   cases hf:bJ p l with
   | none=>rw [hf] at h; cases h
   | some m=>
    rw [hf] at h
    cases h
    cases j with
    | zero=>cases hy; simpa using hx
    | succ j=>exact Am hf j y (Nat.lt_of_succ_lt_succ hj) hy
theorem uL.all {rs:List aG} {o:List aZ} (h:uL rs o) (hn:(rs.map aG.name).Nodup):∀ x ∈ rs.map aG.name,x ∈ o:=fun x hx=>by
 refine Classical.byContradiction fun hxo=>?_
 have:=uC (a:=x :: o) (b:=rs.map aG.name) (List.nodup_cons.2 ⟨hxo,h.nodup⟩) fun y hy=>by
  rcases List.mem_cons.1 hy with rfl | hy
  ·exact hx
  ·exact h.mem y hy
 rw [List.length_cons,List.length_map,h.len] at this
 omega
theorem uL.idx {rs:List aG} {o:List aZ} (h:uL rs o) (hn:(rs.map aG.name).Nodup) {r:aG} (hr:r ∈ rs):∃ j,bJ (fun x=>decide (x = r.name)) o = some j /\ o[j]? = some r.name:=by
 obtain ⟨j,hj⟩:=mW (p:=fun x:aZ=>decide (x = r.name)) (h.all hn r.name (List.mem_map.2 ⟨r,hr,rfl⟩)) (decide_eq_true rfl)
 obtain ⟨x,h1,h2⟩:=iJ hj
 exact ⟨j,hj,by rw [h1,of_decide_eq_true h2]⟩
theorem uL.lt {rs:List aG} {o:List aZ} (h:uL rs o) {i k j m:Nat} {p q:aG} (hp:rs[i]? = some p) (hq:rs[k]? = some q) (hm:gQ rs false i k = true) (hj:o[j]? = some p.name) (hk:bJ (fun x=>decide (x = q.name)) o = some m):m < j:=by
 have hmem:=h.behind i k p q hp hq hm j hj
 obtain ⟨t,ht⟩:=List.mem_iff_getElem?.1 hmem
 have htj:t < j:=by have:=(List.getElem?_eq_some_iff.1 ht).1; rw [List.length_take] at this; omega
 rw [List.getElem?_take_of_lt htj] at ht
 refine Nat.lt_of_le_of_lt (Nat.le_of_not_lt fun hlt=>?_) htj
 have:=Am hk t q.name hlt ht
 simp at this
end
end
section
section
variable {E:Env} {Z:Sg} {K:V -> Sg -> Prop}
theorem nL {α:Type} {L:Lay α} {t:Nat} {Y:Sg} {w:V} {l:List α} (ow:bD L t Y w l):w.aX = true /\ w.cells = [w]:=by
 rcases ow with ⟨rfl,-⟩ | ⟨b,rs,ex,rfl,-⟩ <;> exact ⟨rfl,rfl⟩
theorem uA {α:Type} {L:Lay α} {t:Nat} {Y:Sg} {w:V} {l:List α} {y:O} (ow:bD L t Y w l) (h:∀ b,aT w = some b -> 2 <= b):bD L t (Y.set 0 y) w l:=ow.keep fun c o hc ho=>by
 rw [List.getElem?_set_ne (by have:=h c hc; omega)]; exact ho
theorem sZ {α:Type} {L:Lay α} {t:Nat} {Y:Sg} {w:V} {l:List α} {b:Nat} (ow:bD L t Y w l) (h:aT w = some b):b < Y.length:=by
 rcases ow with ⟨rfl,-⟩ | ⟨b',rs,ex,rfl,hb,-⟩
 ·cases h
 ·cases h
  exact (List.getElem?_eq_some_iff.1 hb).1
theorem EU {Y τ':Sg} (h:Kp Y τ'):Y.length <= τ'.length:=by
 refine Nat.le_of_not_lt fun hlt=>?_
 obtain ⟨o,ho⟩:∃ o,Y[τ'.length]? = some o:=⟨_,List.getElem?_eq_getElem hlt⟩
 exact absurd (List.getElem?_eq_some_iff.1 (h _ _ ho)).1 (Nat.lt_irrefl _)
theorem Yj (h:bM E) (h':sM E) {x:aG} {a b c d:V} (ia:IS aK a x.ins) (ib:IS aK b x.outs) (ic:IS aK c x.after) (id:IS eW d x.steps) (hs:Small x) (F:FT) (g1:F.get 1 = .ref 0 0) {st:List kH} {Q:Ax.X -> Fr -> Sg -> Prop}
  (hk:∀ F' Y w1 w2 w3 w4,F'.get 1 = .ref 0 0 -> F'.get 2 = F.get 2 -> Y[0]? = some (O.cells 37 [.str x.name,w1,w2,w3,w4] true) -> Y[1]? = some (O.cells 37 [.str [],.aC,.aC,.aC,.aC] true) -> bD aK 9 Y w1 x.ins -> bD aK 9 Y w2 x.outs -> bD aK 9 Y w3 x.after -> bD eW 75 Y w4 x.steps -> (∀ b,aT w4 = some b -> 2 <= b /\ aT w1 ≠ some b /\ aT w2 ≠ some b /\ aT w3 ≠ some b) -> M E st .normal ⟨52,F'⟩ Y Q) :
  R E (.region 1 (opsOf (cutAt [1,0] (aA Tryz.f70).code)) true) st ⟨52,F⟩ [O.cells 37 [.str x.name,a,b,c,d] true,O.cells 37 [.str [],.aC,.aC,.aC,.aC] true] Q:=by
 have l1:=hs.ins
 have l2:=hs.outs
 have l3:=hs.after
 have l4:=hs.steps
 obtain ⟨n1,w1,τ1,⟨ow1,kp1,fr1⟩,c1⟩:=aB.up (rY (Z:=[O.cells 37 [.str x.name,a,b,c,d] true,O.cells 37 [.str [],.aC,.aC,.aC,.aC] true]) h ia (by omega))
 obtain ⟨n2,w2,τ2,⟨ow2,kp2,fr2⟩,c2⟩:=aB.up (rY (Z:=τ1) h ib (by omega))
 obtain ⟨n3,w3,τ3,⟨ow3,kp3,fr3⟩,c3⟩:=aB.up (rY (Z:=τ2) h ic (by omega))
 obtain ⟨n4,w4,τ4,⟨ow4,kp4,fr4⟩,c4⟩:=aB.up (LI (Z:=τ3) h h' id (by omega))
 have c1:=c1 (n1 + n2 + n3 + n4) (by omega)
 have c2:=c2 (n1 + n2 + n3 + n4) (by omega)
 have c3:=c3 (n1 + n2 + n3 + n4) (by omega)
 have c4:=c4 (n1 + n2 + n3 + n4) (by omega)
 generalize n1 + n2 + n3 + n4 = n at c1 c2 c3 c4
 have k0:∀ Y:Sg,Kp [O.cells 37 [.str x.name,a,b,c,d] true,O.cells 37 [.str [],.aC,.aC,.aC,.aC] true] Y -> Y[0]? = some (O.cells 37 [.str x.name,a,b,c,d] true) /\ Y[1]? = some (O.cells 37 [.str [],.aC,.aC,.aC,.aC] true):=fun Y hk=>⟨hk 0 _ rfl,hk 1 _ rfl⟩
 have q2:Kp [O.cells 37 [.str x.name,a,b,c,d] true,O.cells 37 [.str [],.aC,.aC,.aC,.aC] true] τ2:=fun c o e=>kp2 c o (kp1 c o e)
 have q3:Kp [O.cells 37 [.str x.name,a,b,c,d] true,O.cells 37 [.str [],.aC,.aC,.aC,.aC] true] τ3:=fun c o e=>kp3 c o (q2 c o e)
 have q4:Kp [O.cells 37 [.str x.name,a,b,c,d] true,O.cells 37 [.str [],.aC,.aC,.aC,.aC] true] τ4:=fun c o e=>kp4 c o (q3 c o e)
 obtain ⟨b1,z1⟩:=k0 τ1 kp1
 obtain ⟨b2,z2⟩:=k0 τ2 q2
 obtain ⟨b3,z3⟩:=k0 τ3 q3
 obtain ⟨b4,z4⟩:=k0 τ4 q4
 have hlt4:=(List.getElem?_eq_some_iff.1 b4).1
 have s1:∀ y,(τ4.set 0 y)[0]? = some y:=fun y=>List.getElem?_set_self hlt4
 obtain ⟨o1,t1⟩:=nL ow1
 obtain ⟨o2,t2⟩:=nL ow2
 obtain ⟨o3,t3⟩:=nL ow3
 obtain ⟨o4,t4⟩:=nL ow4
 have v1:=cA 10 ia
 have v2:=cA 10 ib
 have v3:=cA 10 ic
 have v4:=nU 9 id
 have key:∃ F',cI E (ev E n) (opsOf (cutAt [1,0] (aA Tryz.f70).code)) ⟨52,F⟩ [O.cells 37 [.str x.name,a,b,c,d] true,O.cells 37 [.str [],.aC,.aC,.aC,.aC] true] = some (⟨52,F'⟩,τ4.set 0 (O.cells 37 [.str x.name,w1,w2,w3,w4] true)) /\ F'.get 1 = .ref 0 0 /\ F'.get 2 = F.get 2:=by
  unfold cI
  rw [h'.TN,h'.Vj]
  simp only [aA,Tryz.f70,KP,Ax.loadAt,Ax.storeAt,↓reduceIte,Nat.reduceEqDiff,Nat.reduceLT,Nat.reduceLeDiff,Nat.reduceAdd,reduceCtorEq,h.aV,h.fF,h.bI,opsOf,cutAt,iC,bK,bZ,kD,Ax.comp,Ax.last,iG,Ax.again,g1,c1,c2,c3,c4,b1,b2,b3,b4,s1,o1,o2,o3,o4,t1,t2,t3,t4,v2,v3,v4,List.set_set]
  exact ⟨_,rfl,(by simp +decide only [GS,g1,and_self])⟩
 obtain ⟨F',hD,f1,f2⟩:=key
 have n1:=EU kp1
 have n2:=EU kp2
 have n3:=EU kp3
 have n0:([O.cells 37 [.str x.name,a,b,c,d] true,O.cells 37 [.str [],.aC,.aC,.aC,.aC] true]:Sg).length = 2:=rfl
 rw [n0] at n1 fr1
 have k2:∀ b,aT w2 = some b -> 2 <= b:=fun b hb=>by have:=fr2 b hb; omega
 have k3:∀ b,aT w3 = some b -> 2 <= b:=fun b hb=>by have:=fr3 b hb; omega
 have k4:∀ b,aT w4 = some b -> 2 <= b:=fun b hb=>by have:=fr4 b hb; omega
 refine Eq.mpr (iZ hD) (hk F' _ w1 w2 w3 w4 f1 f2 (s1 _) (by rw [List.getElem?_set_ne (by decide)]; exact z4) (uA (ow1.keep fun c o _ hc=>kp4 c o (kp3 c o (kp2 c o hc))) fr1) (uA (ow2.keep fun c o _ hc=>kp4 c o (kp3 c o hc)) k2) (uA (ow3.keep fun c o _ hc=>kp4 c o hc) k3) (uA ow4 k4) fun b hb=>⟨k4 b hb,fun e=>?_,fun e=>?_,fun e=>?_⟩)
 ·have:=fr4 b hb; have:=sZ ow1 e; omega
 ·have:=fr4 b hb; have:=sZ ow2 e; omega
 ·have:=fr4 b hb; have:=sZ ow3 e; omega
end
end
section
section
variable {E:Env} {Z:Sg} {K:V -> Sg -> Prop}
theorem zG {k:Nat} (hk:k < 5):∀ {R:List (List V)} {i:Nat} {r:List V},(∀ x ∈ R,x.length = 5) -> R[i]? = some r -> R.flatten[i * 5 + k]? = r[k]?
 | [],_,_,_,h=>by cases h
 | x :: R,0,r,hx,h=>by
  cases h
  rw [List.flatten_cons,Nat.zero_mul,Nat.zero_add,List.getElem?_append_left (by rw [hx _ (List.mem_cons_self ..)]; exact hk)]
 | x :: R,i + 1,r,hx,h=>by
  have hl:=hx _ (List.mem_cons_self ..)
  rw [List.flatten_cons,List.getElem?_append_right (by omega),show (i + 1) * 5 + k - x.length = i * 5 + k by omega]
  exact zG hk (fun y hy=>hx y (List.mem_cons_of_mem _ hy)) h
theorem D3 {k:Nat} {v:V} (hk:k < 5):∀ {R:List (List V)} {i:Nat} {r:List V},(∀ x ∈ R,x.length = 5) -> R[i]? = some r -> setCells R.flatten (i * 5 + k) [v] = (R.set i (r.set k v)).flatten
 | [],_,_,_,h=>by cases h
 | x :: R,0,r,hx,h=>by
  cases h
  have hl:=hx _ (List.mem_cons_self ..)
  rw [List.set_cons_zero,List.flatten_cons,List.flatten_cons,Nat.zero_mul,Nat.zero_add]
  unfold setCells
  rw [List.take_append_of_le_length (by omega),List.drop_append_of_le_length (by rw [List.length_singleton]; omega),List.set_eq_take_append_cons_drop,if_pos (by omega)]
  simp
 | x :: R,i + 1,r,hx,h=>by
  have hl:=hx _ (List.mem_cons_self ..)
  have ih:=D3 (v:=v) hk (fun y hy=>hx y (List.mem_cons_of_mem _ hy)) h
  rw [List.set_cons_succ,List.flatten_cons,List.flatten_cons,<- ih]
  unfold setCells
  rw [List.take_append,List.take_of_length_le (by omega),show (i + 1) * 5 + k - x.length = i * 5 + k by omega,List.drop_append,List.drop_of_length_le (by omega),show (i + 1) * 5 + k + [v].length - x.length = i * 5 + k + [v].length by omega]
  simp
theorem Ib (h:bM E) {Y:Sg} {b i k:Nat} {R:List (List V)} {r:List V} {v:V} {ex:Bool} (hb:Y[b]? = some (.cells 75 R.flatten ex)) (hx:∀ x ∈ R,x.length = 5) (hr:R[i]? = some r) (hk:k < 5) (hv:r[k]? = some v):loadAt E Y 28 (.ref b (i * 5 + k)) = some v:=by
 unfold Ax.loadAt
 simp only [h.aV,hb,zG hk hx hr,hv,Ax.isAgg]
 rfl
theorem Mb (h:bM E) {Y:Sg} {b i k:Nat} {R:List (List V)} {r:List V} {v:V} {ex:Bool} (hb:Y[b]? = some (.cells 75 R.flatten ex)) (hx:∀ x ∈ R,x.length = 5) (hr:R[i]? = some r) (hk:k < 5) (hc:v.cells = [v]) (ho:v.aX = true):storeAt E Y 28 (.ref b (i * 5 + k)) v = some (Y.set b (.cells 75 (R.set i (r.set k v)).flatten ex)):=by
 unfold Ax.storeAt
 have hl:i * 5 + k + 1 <= R.flatten.length:=by
  have:=zG hk hx hr
  have hrl:=hx r (List.mem_of_getElem? hr)
  rw [List.getElem?_eq_getElem (show k < r.length by omega)] at this
  have:=(List.getElem?_eq_some_iff.1 this).1
  omega
 simp only [h.aV,hb,hc,List.length_cons,List.length_nil,List.all_cons,List.all_nil,ho,decide_eq_true hl,D3 hk hx hr]
 rfl
theorem SS (h:bM E) {b n i:Nat} (hi:i < n):indexAddr E 35 (.sl b 0 n none) (.int .i64 (i:Int)) = some (.ref b (i * 5)):=by
 unfold Ax.indexAddr
 simp only [h.fF,h.cO,show ¬ ((i:Int) < 0) by omega,if_false,Int.toNat_natCast,hi,if_true,Nat.zero_add]
theorem MI {R:List (List V)} {i k:Nat} {r:List V} {v:V} (hx:∀ x ∈ R,x.length = 5) (hr:R[i]? = some r):∀ x ∈ R.set i (r.set k v),x.length = 5:=fun x hm=>by
 rcases List.mem_or_eq_of_mem_set hm with hm | rfl
 ·exact hx x hm
 ·rw [List.length_set]; exact hx r (List.mem_of_getElem? hr)
theorem Yi (h:bM E) (h':sM E) {x:aG} {w1 w2 w3 p q:V} {s:AxS.Step} {b n i:Nat} {R:List (List V)} {ex:Bool} {Y:Sg} (h0:Y[0]? = some (O.cells 37 [.str x.name,w1,w2,w3,.sl b 0 n none] true)) (hb:Y[b]? = some (.cells 75 R.flatten ex)) (hx:∀ x ∈ R,x.length = 5) (hr:R[i]? = some ([.str s.out,.int .i64 s.op,p,q,.int .i64 s.n])) (hi:i < n) (ip:IS aK p s.args) (iq:IS aK q s.lits) (l1:s.args.length <= 8) (l2:s.lits.length <= 3) (hb2:2 <= b)
  (F:FT) (g1:F.get 1 = .ref 0 0) (g3:F.get 3 = .int .i64 (i:Int)) {st:List kH} {Q:Ax.X -> Fr -> Sg -> Prop}
  (hk:∀ F' τ' wp wq,(∀ k,k ∈ [1,2,22,23] -> F'.get k = F.get k) -> τ'[b]? = some (.cells 75 (R.set i ([.str s.out,.int .i64 s.op,wp,wq,.int .i64 s.n])).flatten ex) -> bD aK 9 τ' wp s.args -> bD aK 9 τ' wq s.lits -> (∀ (c:Nat) (o:O),Y[c]? = some o -> c ≠ b -> τ'[c]? = some o) -> (∀ c,aT wp = some c -> Y.length <= c) -> (∀ c,aT wq = some c -> Y.length <= c) -> M E st .normal ⟨52,F'⟩ τ' Q) :
  Ax.R E (.region 5 (opsOf (cutAt [1,1,0,1,2,2,1,1,0,2,1] (aA Tryz.f70).code)) true) st ⟨52,F⟩ Y Q:=by
 obtain ⟨n1,wp,τ1,⟨ow1,kp1,fr1⟩,c1⟩:=aB.up (rY (Z:=Y) h ip (by omega))
 obtain ⟨n2,wq,τ2,⟨ow2,kp2,fr2⟩,c2⟩:=aB.up (rY (Z:=τ1) h iq (by omega))
 have c1:=c1 (n1 + n2) (by omega)
 have c2:=c2 (n1 + n2) (by omega)
 generalize n1 + n2 = m at c1 c2
 have h01:=kp1 _ _ h0
 have h02:=kp2 _ _ h01
 have hb1:=kp1 _ _ hb
 have hb2':=kp2 _ _ hb1
 obtain ⟨o1,t1⟩:=nL ow1
 obtain ⟨o2,t2⟩:=nL ow2
 have e1:=SS h hi (b:=b) (n:=n)
 have f1:=Ib h hb hx hr (k:=2) (by decide) rfl
 have f2:=Ib h hb1 hx hr (k:=3) (by decide) rfl
 have f2'':=Ib h hb hx hr (k:=3) (by decide) rfl
 have s1:=Mb h hb2' hx hr (k:=2) (v:=wp) (by decide) t1 o1
 have hbl:=(List.getElem?_eq_some_iff.1 hb2').1
 have hR:(R.set i ([.str s.out,.int .i64 s.op,wp,q,.int .i64 s.n]))[i]? = some ([.str s.out,.int .i64 s.op,wp,q,.int .i64 s.n]):=List.getElem?_set_self (List.getElem?_eq_some_iff.1 hr).1
 have s2:=Mb h (Y:=τ2.set b (.cells 75 (R.set i ([.str s.out,.int .i64 s.op,wp,q,.int .i64 s.n])).flatten ex)) (v:=wq) (List.getElem?_set_self hbl) (MI (k:=2) (v:=wp) hx hr) hR (k:=3) (by decide) t2 o2
 have s1:storeAt E τ2 28 (.ref b (i * 5 + 2)) wp = some (τ2.set b (.cells 75 (R.set i ([.str s.out,.int .i64 s.op,wp,q,.int .i64 s.n])).flatten ex)):=s1
 have s2:storeAt E (τ2.set b (.cells 75 (R.set i ([.str s.out,.int .i64 s.op,wp,q,.int .i64 s.n])).flatten ex)) 28 (.ref b (i * 5 + 3)) wq = some (τ2.set b (.cells 75 (R.set i ([.str s.out,.int .i64 s.op,wp,wq,.int .i64 s.n])).flatten ex)):=by
  rw [s2,List.set_set,List.set_set]
  rfl
 have lw:loadAt E Y 35 (.ref 0 4) = some (.sl b 0 n none):=by unfold Ax.loadAt; simp only [h.fF,h0]; rfl
 have lw1:loadAt E τ1 35 (.ref 0 4) = some (.sl b 0 n none):=by unfold Ax.loadAt; simp only [h.fF,h01]; rfl
 have lw2:loadAt E τ2 35 (.ref 0 4) = some (.sl b 0 n none):=by unfold Ax.loadAt; simp only [h.fF,h02]; rfl
 have lw3:∀ y,loadAt E (τ2.set b y) 35 (.ref 0 4) = some (.sl b 0 n none):=fun y=>by
  have h03:(τ2.set b y)[0]? = some (O.cells 37 [.str x.name,w1,w2,w3,.sl b 0 n none] true):=by rw [List.getElem?_set_ne (by omega)]; exact h02
  unfold Ax.loadAt; simp only [h.fF,h03]; rfl
 have vq:=cA 10 iq
 have v0:sL 12 (.sl b 0 n none) (.sl b 0 n none) = true:=by unfold sL; simp
 have key:∃ F',cI E (ev E m) (opsOf (cutAt [1,1,0,1,2,2,1,1,0,2,1] (aA Tryz.f70).code)) ⟨52,F⟩ Y = some (⟨52,F'⟩,τ2.set b (.cells 75 (R.set i ([.str s.out,.int .i64 s.op,wp,wq,.int .i64 s.n])).flatten ex)) /\ (∀ k,k ∈ [1,2,22,23] -> F'.get k = F.get k):=by
  unfold cI
  rw [h'.TM,h'.Vi]
  simp only [aA,Tryz.f70,KP,↓reduceIte,Nat.reduceEqDiff,Nat.reduceLT,Nat.reduceAdd,reduceCtorEq,h.aV,h.fF,h.bI,h.cO,opsOf,cutAt,iC,bK,bZ,kD,Ax.comp,Ax.last,iG,Ax.again,g1,g3,c1,c2,lw,lw1,lw2,lw3,e1,f1,f2,f2'',s1,s2,vq,v0]
  refine ⟨_,rfl,fun k hk=>?_⟩
  simp only [List.mem_cons,List.not_mem_nil,or_false] at hk
  rcases hk with rfl | rfl | rfl | rfl <;> simp +decide only [GS]
 obtain ⟨F',hD,hF⟩:=key
 have hlen1:=EU kp1
 have hne:∀ {w:V},(∀ c,aT w = some c -> Y.length <= c) -> aT w ≠ some b:=fun hfr e=>by
  have:=hfr b e
  have:=(List.getElem?_eq_some_iff.1 hb).1
  omega
 have fr2':∀ c,aT wq = some c -> Y.length <= c:=fun c hc=>by have:=fr2 c hc; omega
 refine Eq.mpr (iZ hD) (hk F' _ wp wq hF (List.getElem?_set_self hbl) (bD.set (ow1.keep fun c o _ hc=>kp2 c o hc) (hne fr1)) (bD.set ow2 (hne fr2')) (fun c o hc hcb=>?_) fr1 fr2')
 rw [List.getElem?_set_ne (Ne.symm hcb)]
 exact kp2 _ _ (kp1 _ _ hc)
end
end
section
section
variable {E:Env} {Z:Sg} {K:V -> Sg -> Prop}
theorem G_ {β γ:Type} {P:β -> γ -> Prop}:∀ {a:List β} {b:List γ},eT P a b -> ∀ {j:Nat} {y:γ},b[j]? = some y -> ∃ x,a[j]? = some x /\ P x y
 | _,_,.nil,_,_,h=>by cases h
 | _ :: _,_ :: _,.cons h t,0,_,e=>by cases e; exact ⟨_,rfl,h⟩
 | _ :: _,_ :: _,.cons h t,j + 1,_,e=>by
  obtain ⟨x,h1,h2⟩:=G_ t (j:=j) e
  exact ⟨x,h1,h2⟩
structure OT (Y:Sg) (b i:Nat) (R:List (List V)) (ex:Bool) (steps:List AxS.Step):Prop where
 hb:Y[b]? = some (.cells 75 R.flatten ex)
 len:R.length = steps.length
 Ip:∀ x ∈ R,x.length = 5
 row:∀ (j:Nat) (s:AxS.Step),steps[j]? = some s -> ∃ p q,R[j]? = some ([.str s.out,.int .i64 s.op,p,q,.int .i64 s.n]) /\ (j < i -> bD aK 9 Y p s.args /\ bD aK 9 Y q s.lits /\ aT p ≠ some b /\ aT q ≠ some b) /\ (i <= j -> IS aK p s.args /\ IS aK q s.lits)
theorem OT.start {Y:Sg} {b:Nat} {rs:List (List V)} {ex:Bool} {steps:List AxS.Step} (hb:Y[b]? = some (.cells 75 rs.flatten ex)) (ha:eT eW.P rs steps):OT Y b 0 rs ex steps:=by
 refine ⟨hb,ha.len,Lay.lens ha,fun j s hj=>?_⟩
 obtain ⟨r,h1,a,l,rfl,h2,h3⟩:=G_ ha hj
 exact ⟨a,l,h1,fun h=>by omega,fun _=>⟨h2,h3⟩⟩
theorem OT.step {Y τ':Sg} {b i:Nat} {R:List (List V)} {ex:Bool} {steps:List AxS.Step} {s:AxS.Step} {wp wq:V} (h:OT Y b i R ex steps) (hs:steps[i]? = some s) (hb:τ'[b]? = some (.cells 75 (R.set i ([.str s.out,.int .i64 s.op,wp,wq,.int .i64 s.n])).flatten ex)) (o1:bD aK 9 τ' wp s.args) (o2:bD aK 9 τ' wq s.lits) (k:∀ (c:Nat) (o:O),Y[c]? = some o -> c ≠ b -> τ'[c]? = some o) (f1:∀ c,aT wp = some c -> Y.length <= c) (f2:∀ c,aT wq = some c -> Y.length <= c):OT τ' b (i + 1) (R.set i ([.str s.out,.int .i64 s.op,wp,wq,.int .i64 s.n])) ex steps:=by
 have hbl:=(List.getElem?_eq_some_iff.1 h.hb).1
 have hil:i < R.length:=by rw [h.len]; exact (List.getElem?_eq_some_iff.1 hs).1
 refine ⟨hb,by rw [List.length_set]; exact h.len,fun x hx=>?_,fun j t hj=>?_⟩
 ·rcases List.mem_or_eq_of_mem_set hx with hx | rfl
  ·exact h.Ip x hx
  ·rfl
 ·by_cases hij:i = j
  ·subst hij
   rw [hs] at hj
   cases hj
   refine ⟨wp,wq,List.getElem?_set_self hil,fun _=>⟨o1,o2,fun e=>?_,fun e=>?_⟩,fun h=>by omega⟩
   ·have:=f1 b e; omega
   ·have:=f2 b e; omega
  ·obtain ⟨p,q,h1,h2,h3⟩:=h.row j t hj
   refine ⟨p,q,by rw [List.getElem?_set_ne hij]; exact h1,fun hlt=>?_,fun hle=>h3 (by omega)⟩
   obtain ⟨a1,a2,a3,a4⟩:=h2 (by omega)
   exact ⟨a1.keep fun c o hc ho=>k c o ho (fun e=>a3 (by rw [hc,e])),a2.keep fun c o hc ho=>k c o ho (fun e=>a4 (by rw [hc,e])),a3,a4⟩
theorem Sl {Y:Sg} {w:V} {l:List aZ} (ow:bD aK 9 Y w l):OL Y w l:=by
 rcases ow with h | ⟨b,rs,ex,rfl,hb,ha⟩
 ·exact .inl h
 ·obtain rfl:=AY ha
  rw [Cp] at hb
  exact .inr ⟨b,_,ex,rfl,hb,List.take_of_length_le (by rw [List.length_map]; exact Nat.le_refl _)⟩
theorem O_ {v:V} {l:List aZ} (h:Rv v l):jZ aK v l:=by
 rcases h with h | ⟨full,rfl⟩
 ·exact .inl h
 ·exact .inr ⟨_,full,rfl,yI l⟩
theorem Bt (h:bM E) {Y:Sg} {w:V} {l:List aZ} {m:Nat} (ow:bD aK 9 Y w l):∃ v',bR Y E.ty false (m + 2) w = some v' /\ cP false v' = true /\ jZ aK v' l:=by
 obtain ⟨v',h1,h2⟩:=(Sl ow).snap (m:=m) h
 exact ⟨v',h1,h2.tag,O_ h2⟩
theorem Gj {α β:Type} {f:α -> Option β}:∀ {a:List α} {a':List β} {b:List α} {b':List β},aW f a = some a' -> aW f b = some b' -> aW f (a ++ b) = some (a' ++ b')
 | [],a',b,b',h1,h2=>by cases h1; exact h2
 | x :: a,a',b,b',h1,h2=>by
  rw [aW] at h1
  cases hx:f x with
  | none=>rw [hx] at h1; cases h1
  | some y=>
   cases hm:aW f a with
   | none=>rw [hx,hm] at h1; cases h1
   | some l=>
    rw [hx,hm] at h1
    cases h1
    rw [List.cons_append,aW,hx,Gj hm h2]
    rfl
theorem FD (h:bM E) {Y:Sg} {b n:Nat} {R:List (List V)} {ex:Bool} {steps:List AxS.Step} (hs:OT Y b n R ex steps) (hn:n = steps.length):∃ v',bR Y E.ty false 12 (.sl b 0 n none) = some v' /\ cP false v' = true /\ jZ f_ v' steps:=by
 have key:∀ (R:List (List V)) (steps:List AxS.Step),R.length = steps.length -> (∀ (j:Nat) (s:AxS.Step),steps[j]? = some s -> ∃ p q,R[j]? = some ([.str s.out,.int .i64 s.op,p,q,.int .i64 s.n]) /\ bD aK 9 Y p s.args /\ bD aK 9 Y q s.lits) -> ∃ R',aW (fun v=>match bR Y E.ty false 11 v with
   | some v=>if cP false v then some v else Ax.no "snap: borrowed"
   | none=>none) R.flatten = some R'.flatten /\ eT f_.P R' steps:=by
  intro R
  induction R with
  | nil=>
   intro steps hl _
   have:steps = []:=List.eq_nil_of_length_eq_zero hl.symm
   subst this
   exact ⟨[],rfl,.nil⟩
  | cons r R ih=>
   intro steps hl hr
   cases steps with
   | nil=>cases hl
   | cons s steps=>
    obtain ⟨R',m1,a1⟩:=ih steps (by simpa using hl) fun j t hj=>hr (j + 1) t hj
    obtain ⟨p,q,h1,h2,h3⟩:=hr 0 s rfl
    cases h1
    obtain ⟨p',e1,t1,i1⟩:=Bt (m:=9) h h2
    obtain ⟨q',e2,t2,i2⟩:=Bt (m:=9) h h3
    refine ⟨([.str s.out,.int .i64 s.op,p',q',.int .i64 s.n]) :: R',?_,.cons ⟨p',q',rfl,i1,i2⟩ a1⟩
    rw [List.flatten_cons,List.flatten_cons]
    refine Gj ?_ m1
    have es:∀ z:aZ,bR Y E.ty false 11 (.str z) = some (.str z):=fun z=>jL rfl
    have ei:∀ z:Int,bR Y E.ty false 11 (.int .i64 z) = some (.int .i64 z):=fun z=>jL rfl
    have ts:∀ z:aZ,cP false (.str z) = true:=fun _=>rfl
    have ti:∀ z:Int,cP false (.int .i64 z) = true:=fun _=>rfl
    simp only [aW,es,ei,ts,ti,e1,e2,t1,t2,if_true]
 obtain ⟨R',m1,a1⟩:=key R steps hs.len fun j s hj=>by
  obtain ⟨p,q,h1,h2,-⟩:=hs.row j s hj
  obtain ⟨a1,a2,-⟩:=h2 (by have:=(List.getElem?_eq_some_iff.1 hj).1; omega)
  exact ⟨p,q,h1,a1,a2⟩
 have hfl:R.flatten.length = n * 5:=by rw [mV R hs.Ip,hs.len,hn]
 have htk:(R.flatten.drop 0).take (n * 5) = R.flatten:=by rw [List.drop_zero,List.take_of_length_le (by omega)]
 refine ⟨.bQ false R' (ex && decide (0 < 5) && (0 + n * 5 == R.flatten.length)),?_,rfl,.inr ⟨R',_,rfl,a1⟩⟩
 rw [bR]
 simp only [hs.hb,h.cO]
 rw [if_pos (by omega)]
 have m2:aW (fun v=>match bR Y E.ty false 11 v with
   | some v=>if cP false v then some v else Ax.no "snap: borrowed"
   | none=>none) ((R.flatten.drop 0).take (n * 5)) = some R'.flatten:=by rw [htk]; exact m1
 refine Eq.trans (congrArg (fun o=>match o with
  | some l=>some (V.bQ false (Ax.rows 5 n l) (ex && decide (0 < 5) && (0 + n * 5 == R.flatten.length)))
  | none=>none) m2) ?_
 show some (V.bQ false (Ax.rows 5 n R'.flatten) _) = _
 have hl':n = R'.length:=by rw [a1.len,hn]
 rw [hl',show Ax.rows 5 R'.length R'.flatten = R' from lD (sz:=5) R' (Lay.lens (L:=f_) a1)]
end
end
section
section
variable {E:Env} {Z:Sg} {K:V -> Sg -> Prop}
def Rj (v:V) (x:aG):Prop:=∃ a b c d,v = .agg [.str x.name,a,b,c,d] /\ jZ aK a x.ins /\ jZ aK b x.outs /\ jZ aK c x.after /\ jZ f_ d x.steps
theorem pX (h:bM E) {Y:Sg} {w:V} {l:List aZ} (ow:bD aK 9 Y w l):∃ v',aY.one Y E.ty false w = some v' /\ jZ aK v' l:=by
 obtain ⟨v',h1,h2,h3⟩:=Bt (m:=10) h ow
 refine ⟨v',?_,h3⟩
 unfold aY.one
 rw [show dY = 10 + 2 from rfl,h1]
 simp only [h2,if_true]
theorem OT.Wg {Y:Sg} {b i u:Nat} {R:List (List V)} {ex:Bool} {steps:List AxS.Step} {cs:List V} {y:O} (h:OT Y b i R ex steps) (hz:Y[1]? = some (.cells u cs true)) (hu:u ≠ 9) (hb:2 <= b):OT (Y.set 1 y) b i R ex steps:=by
 refine ⟨by rw [List.getElem?_set_ne (by omega)]; exact h.hb,h.len,h.Ip,fun j s hj=>?_⟩
 obtain ⟨p,q,h1,h2,h3⟩:=h.row j s hj
 refine ⟨p,q,h1,fun hlt=>?_,h3⟩
 obtain ⟨a1,a2,a3,a4⟩:=h2 hlt
 exact ⟨bD.set a1 (kM hz hu a1),bD.set a2 (kM hz hu a2),a3,a4⟩
theorem Oq (h:bM E) (h':sM E) {v:V} {x:aG} (hv:Hh v x) (hs:Small x):aB E 70 [v] Z fun v σ'=>σ' = Z /\ Rj v x:=by
 have ev:=hv.snap (E:=E) Z
 obtain ⟨a,b,c,d,rfl,ia,ib,ic,id⟩:=hv
 have o1:=aJ ia.bE
 have o2:=aJ ib.bE
 have o3:=aJ ic.bE
 have o4:=aJ id.bE
 have l4:=hs.steps
 rw [aH h'.hs70 h'.sp70 h'.fn70 h'.md70 (args':=[.agg [.str x.name,a,b,c,d]]) (by simp only [aW,ev]),a_ (by kernel_rfl)]
 simp only [aA,Tryz.f70,KP,↓reduceIte,Nat.reduceLT,Nat.reduceAdd,h.bI,o1,o2,o3,o4]
 refine Yj h h' ia ib ic id hs _ ?_ ?_
 ·exact (by simp +decide only [GS])
 intro F1 τ1 w1 w2 w3 w4 g1 g2 b0 z0 ow1 ow2 ow3 ow4 sep
 have g2:F1.get 2 = .ref 1 0:=g2.trans (by simp +decide only [GS])
 obtain ⟨k1,t1⟩:=nL ow1
 obtain ⟨k2,t2⟩:=nL ow2
 obtain ⟨k3,t3⟩:=nL ow3
 rcases ow4 with ⟨rfl,hst⟩ | ⟨b4,rs,ex,rfl,hb,ha⟩
 ·have ln:∀ Z,lenOf E Z 35 .aC = some 0:=fun Z=>by unfold lenOf; rw [h.fF]
  simp only [KP,Ax.loadAt,↓reduceIte,Nat.reduceLT,reduceCtorEq,h.fF,h.bI,g1,b0,ln]
  rw [aF]
  have hz1:=(List.getElem?_eq_some_iff.1 z0).1
  have s1:∀ y,(τ1.set 1 y)[1]? = some y:=fun y=>List.getElem?_set_self hz1
  obtain ⟨a',e1,j1⟩:=pX h (bD.set (y:=O.cells 37 [.str x.name,w1,w2,w3,.aC] true) ow1 (kM z0 (by decide) ow1))
  obtain ⟨b',e2,j2⟩:=pX h (bD.set (y:=O.cells 37 [.str x.name,w1,w2,w3,.aC] true) ow2 (kM z0 (by decide) ow2))
  obtain ⟨c',e3,j3⟩:=pX h (bD.set (y:=O.cells 37 [.str x.name,w1,w2,w3,.aC] true) ow3 (kM z0 (by decide) ow3))
  have e0:∀ Y (z:aZ),aY.one Y E.ty false (.str z) = some (.str z):=fun Y z=>rfl
  have e5:∀ Y,aY.one Y E.ty false .aC = some .aC:=fun Y=>rfl
  simp only [KP,Ax.loadAt,Ax.storeAt,↓reduceIte,Nat.reduceEqDiff,Nat.reduceLT,Nat.reduceAdd,Int.reduceLT,h.bI,g1,g2,b0,z0,k1,k2,k3,s1,e0,e1,e2,e3,e5,cW,aY,aW]
  exact ⟨a',b',c',.aC,rfl,j1,j2,j3,.inl ⟨rfl,hst⟩⟩
 ·generalize hn:x.steps.length = n at *
  obtain ⟨hb2,d1,d2,d3⟩:=sep b4 rfl
  have ln:∀ Z,lenOf E Z 35 (.sl b4 0 n none) = some n:=fun Z=>by unfold lenOf; rw [h.fF]
  simp only [KP,Ax.loadAt,↓reduceIte,Nat.reduceLT,reduceCtorEq,h.fF,h.bI,g1,b0,ln]
  refine aR (fun i F Y=>F.get 1 = .ref 0 0 /\ F.get 2 = .ref 1 0 /\ F.get 22 = .int .i64 (n:Int) /\ F.get 23 = .int .i64 (i:Int) /\ Y[0]? = some (O.cells 37 [.str x.name,w1,w2,w3,.sl b4 0 n none] true) /\ Y[1]? = some (O.cells 37 [.str [],.aC,.aC,.aC,.aC] true) /\ bD aK 9 Y w1 x.ins /\ bD aK 9 Y w2 x.outs /\ bD aK 9 Y w3 x.after /\ ∃ R,OT Y b4 i R ex x.steps) n ?_ ?_ n 0 _ _ (by omega) (fZ (by simp +decide only [GS,g1,g2,and_self]) ⟨b0,z0,ow1,ow2,ow3,rs,OT.start hb ha⟩)
  ·rintro i F Y hi ⟨g1,g2,g22,g23,b0,z0,ow1,ow2,ow3,R,sa⟩ next
   obtain ⟨s,hsi⟩:∃ y,x.steps[i]? = some y:=⟨_,List.getElem?_eq_getElem (by omega)⟩
   obtain ⟨p,q,hr,-,hpq⟩:=sa.row i s hsi
   obtain ⟨ip,iq⟩:=hpq (Nat.le_refl _)
   have hsm:=List.mem_of_getElem? hsi
   have hlt:=dN hi
   have hadd:=bV i (by omega)
   rw [aF]
   simp only [KP,↓reduceIte,Nat.reduceEqDiff,Nat.reduceLT,g22,g23,hlt]
   refine Yi h h' b0 sa.hb sa.Ip hr hi ip iq (hs.args s hsm) (hs.lits s hsm) hb2 _ ?_ ?_ ?_
   ·exact (by simp +decide only [GS,g1])
   ·exact (by simp +decide only [GS])
   intro F' τ' wp wq hF hb' op oq hk f1 f2
   have q1:F'.get 1 = .ref 0 0:=(hF 1 (by simp)).trans (by simp +decide only [GS,g1])
   have q2:F'.get 2 = .ref 1 0:=(hF 2 (by simp)).trans (by simp +decide only [GS,g2])
   have q22:F'.get 22 = .int .i64 (n:Int):=(hF 22 (by simp)).trans (by simp +decide only [GS,g22])
   have q23:F'.get 23 = .int .i64 (i:Int):=(hF 23 (by simp)).trans (by simp +decide only [GS,g23])
   simp only [KP,↓reduceIte,Nat.reduceLT,q23,hadd]
   exact next _ _ (fZ (by simp +decide only [GS,q1,q2,q22,and_self]) ⟨hk 0 _ b0 (by omega),hk 1 _ z0 (by omega),ow1.keep fun c o hc ho=>hk c o ho (fun e=>d1 (by rw [hc,e])),ow2.keep fun c o hc ho=>hk c o ho (fun e=>d2 (by rw [hc,e])),ow3.keep fun c o hc ho=>hk c o ho (fun e=>d3 (by rw [hc,e])),_,sa.step hsi hb' op oq hk f1 f2⟩)
  ·rintro F Y ⟨g1,g2,g22,g23,b0,z0,ow1,ow2,ow3,R,sa⟩
   have hlt:=dQ (Nat.lt_irrefl n)
   have hz1:=(List.getElem?_eq_some_iff.1 z0).1
   have s1:∀ y,(Y.set 1 y)[1]? = some y:=fun y=>List.getElem?_set_self hz1
   obtain ⟨a',e1,j1⟩:=pX h (bD.set (y:=O.cells 37 [.str x.name,w1,w2,w3,.sl b4 0 n none] true) ow1 (kM z0 (by decide) ow1))
   obtain ⟨b',e2,j2⟩:=pX h (bD.set (y:=O.cells 37 [.str x.name,w1,w2,w3,.sl b4 0 n none] true) ow2 (kM z0 (by decide) ow2))
   obtain ⟨c',e3,j3⟩:=pX h (bD.set (y:=O.cells 37 [.str x.name,w1,w2,w3,.sl b4 0 n none] true) ow3 (kM z0 (by decide) ow3))
   obtain ⟨d',e4,t4,j4⟩:=FD h (sa.Wg (y:=O.cells 37 [.str x.name,w1,w2,w3,.sl b4 0 n none] true) z0 (by decide) hb2) hn.symm
   have e4:aY.one (Y.set 1 (O.cells 37 [.str x.name,w1,w2,w3,.sl b4 0 n none] true)) E.ty false (.sl b4 0 n none) = some d':=by
    unfold aY.one
    rw [show dY = 12 from rfl,e4]
    simp only [t4,if_true]
   have e0:∀ Y (z:aZ),aY.one Y E.ty false (.str z) = some (.str z):=fun Y z=>rfl
   rw [aF]
   simp only [KP,Ax.loadAt,Ax.storeAt,↓reduceIte,Nat.reduceEqDiff,Nat.reduceLT,Nat.reduceAdd,h.bI,g1,g2,g22,g23,hlt,b0,z0,k1,k2,k3,s1,e0,e1,e2,e3,e4,cW,aY,aW]
   exact ⟨a',b',c',d',rfl,j1,j2,j3,j4⟩
end
end
end Go.Proofs.YtlbbdpkjeeiahaaGreatDoor
end
section
set_option maxRecDepth 10000
set_option maxHeartbeats 8000000
set_option linter.unusedVariables false
namespace Go.Proofs.YtlbbdpkjeeiahaaGreatDoor.Lb
open Go Go.Ax Go.AxS
def LVf (v:V) (l:List aM):Prop:=(v = .aC /\ l = []) \/ ∃ full,v = .bQ false (l.map row) full
theorem LVf.lv {v:V} {l:List aM} (h:LVf v l):LV v l:=h.imp id fun ⟨full,e⟩=>⟨false,full,e⟩
section
section
variable {E:Env} {Z:Sg} {K:V -> Sg -> Prop}
theorem OX (n:Nat) (h:n <= 10000000000000):wr .i64 ((n:Int) + 1) = ((n + 1:Nat):Int):=by
 rw [yB,if_pos]
 ·rfl
 ·rw [Bool.and_eq_true,decide_eq_true_eq,decide_eq_true_eq]
  exact ⟨show (-9223372036854775808:Int) <= (n:Int) + 1 by omega,show (n:Int) + 1 <= (9223372036854775807:Int) by omega⟩
end
end
end Go.Proofs.YtlbbdpkjeeiahaaGreatDoor.Lb
end
section
set_option maxRecDepth 10000
set_option maxHeartbeats 8000000
set_option linter.unusedVariables false
namespace Go.Proofs.YtlbbdpkjeeiahaaGreatDoor.Lb
open Go Go.Ax Go.AxS
section
def lV (ks:List aM):List (V × V):=ks.map fun k=>(V.agg [.bool k.1,.str k.2],V.bool true)
structure bY (Z:Sg) (b m:Nat) (ks:List aM):Prop where
 obj:Z[b]? = some (.cells 86 [.mp m] true)
 map:Z[m]? = some (.map (lV ks))
 nodup:ks.Nodup
def Kp (Z σ':Sg) (m:Nat):Prop:=∀ (j:Nat) (o:O),j ≠ m -> Z[j]? = some o -> σ'[j]? = some o
def kZ (Z σ':Sg):Prop:=∀ (j:Nat) (o:O),Z[j]? = some o -> σ'[j]? = some o
theorem kZ.refl (Z:Sg):kZ Z Z:=fun _ _ h=>h
theorem kZ.trans {Z Y ρ:Sg} (h:kZ Z Y) (k:kZ Y ρ):kZ Z ρ:=fun j o e=>k j o (h j o e)
theorem kZ.app (Z Y:Sg):kZ Z (Z ++ Y):=fun _ _ h=>jP h Y
theorem kZ.tI {Z σ':Sg} (h:kZ Z σ'):dL Z σ':=fun b t cs ex e=>h _ _ e
theorem Kp.refl (Z:Sg) (m:Nat):Kp Z Z m:=fun _ _ _ h=>h
theorem Kp.trans {Z Y ρ:Sg} {m:Nat} (h:Kp Z Y m) (k:Kp Y ρ m):Kp Z ρ m:=fun j o hj e=>k j o hj (h j o hj e)
theorem Kp.tI {Z σ':Sg} {m:Nat} {es:List (V × V)} (h:Kp Z σ' m) (hm:Z[m]? = some (.map es)):dL Z σ':=fun b t cs ex e=>h _ _ (fun hb=>by subst hb; rw [hm] at e; cases e) e
theorem kZ.kp {Z σ':Sg} (h:kZ Z σ') (m:Nat):Kp Z σ' m:=fun j o _ e=>h j o e
theorem bY.ne {Z:Sg} {b m:Nat} {ks:List aM} (h:bY Z b m ks):b ≠ m:=fun e=>by
 subst e; have:=h.obj; rw [h.map] at this; cases this
theorem bY.jX {Z σ':Sg} {b m:Nat} {ks:List aM} (h:bY Z b m ks) (k:kZ Z σ'):bY σ' b m ks:=⟨k _ _ h.obj,k _ _ h.map,h.nodup⟩
theorem bY.kp {Z σ':Sg} {b m m':Nat} {ks ks':List aM} {b':Nat} (h:bY Z b m ks) (h':bY Z b' m' ks') (hm:m ≠ m') (k:Kp Z σ' m'):bY σ' b m ks:=
 ⟨k _ _ (fun e=>by subst e; have:=h.obj; rw [h'.map] at this; cases this) h.obj,k _ _ hm h.map,h.nodup⟩
section
variable {E:Env} {Z:Sg} {K:V -> Sg -> Prop}
theorem qM (h:eM E) (a b:Bool) (s t:List Nat):eN E 46 (.agg [.bool a,.str s]) (.agg [.bool b,.str t]) = some (decide (((a,s):aM) = (b,t))):=by
 unfold eN
 simp only [h.fM,h.XX,Ax.eqs]
 rw [EA]
 cases a <;> cases b <;> simp
theorem qJ (h:eM E) (a:Bool) (s:List Nat):dU E 46 (.agg [.bool a,.str s]) = true:=by
 unfold dU
 simp only [h.fM,h.XX,Ax.eqs]
 rfl
theorem Ii (y:aM) (r:List aM) (x:aM) (hxy:x ≠ y):jK (y :: r) x = y :: jK r x:=by
 unfold jK
 by_cases hx:x ∈ r
 ·rw [if_pos hx,if_pos (List.mem_cons_of_mem _ hx)]
 ·rw [if_neg hx,if_neg (by simp [hxy,hx])]; rfl
theorem DI (h:eM E) (x:aM):∀ ks:List aM,kF (eN E 46) (.agg [.bool x.1,.str x.2]) (.bool true) (lV ks) = some (lV (jK ks x))
 | []=>rfl
 | y :: r=>by
  show (match eN E 46 (.agg [.bool x.1,.str x.2]) (.agg [.bool y.1,.str y.2]) with
   | some true=>some ((V.agg [.bool x.1,.str x.2],V.bool true) :: lV r)
   | some false=>(match kF (eN E 46) (.agg [.bool x.1,.str x.2]) (.bool true) (lV r) with
    | some r'=>some ((V.agg [.bool y.1,.str y.2],V.bool true) :: r')
    | none=>none)
   | none=>none) = _
  rw [qM h,DI h x r]
  by_cases hxy:x = y
  ·rw [decide_eq_true (show ((x.1,x.2):aM) = (y.1,y.2) from hxy)]
   subst hxy
   unfold jK
   rw [if_pos (List.mem_cons_self ..)]
   rfl
  ·rw [decide_eq_false (show ¬ ((x.1,x.2):aM) = (y.1,y.2) from hxy),Ii y r x hxy]
   rfl
theorem Kk (h:eM E) (a:Bool) (s:List Nat):storeAt E (Z ++ [.cells 46 [.bool false,.str []] true]) 46 (.ref Z.length 0) (.agg [.bool a,.str s]) = some (Z ++ [.cells 46 [.bool a,.str s] true]):=by
 unfold storeAt
 simp only [h.fM]
 rw [List.getElem?_append_right (Nat.le_refl _),Nat.sub_self]
 refine (if_pos rfl).trans ?_
 rw [List.set_append_right _ _ (Nat.le_refl _),Nat.sub_self]
 rfl
theorem Nr (h:eM E) (a:Bool) (s:List Nat):loadAt E (Z ++ [.cells 46 [.bool a,.str s] true]) 46 (.ref Z.length 0) = some (.agg [.bool a,.str s]):=by
 unfold loadAt
 simp only [h.fM]
 rw [List.getElem?_append_right (Nat.le_refl _),Nat.sub_self]
 rfl
theorem qG (h:eM E) {b m:Nat} (hb:Z[b]? = some (.cells 86 [.mp m] true)):loadAt E Z 82 (.ref b 0) = some (.mp m):=by
 unfold loadAt
 simp only [h.uP,hb]
 rfl
theorem EE (h:eM E) {m:Nat} {ks:List aM} (hm:Z[m]? = some (.map (lV ks))) (x:aM):mapUpdate E Z 82 (.mp m) (.agg [.bool x.1,.str x.2]) (.bool true) = some (Z.set m (.map (lV (jK ks x)))):=by
 unfold mapUpdate
 simp only [h.uP,qJ h,hm,DI h]
 rfl
theorem A1 (h:eM E) {m:Nat} {ks:List aM} (hm:Z[m]? = some (.map (lV ks))):lenOf E Z 82 (.mp m) = some ks.length:=by
 unfold lenOf
 simp only [h.uP,hm]
 simp [lV]
theorem Ho (h:eM E) {b m:Nat} {ks l:List aM} {v:V} {n0:Int} (hsm:l.length <= 10000000000) {σ0:Sg} {s:List kH} {Q:Ax.X -> Fr -> Sg -> Prop}
  (hQ:∀ (F':FT) (σ':Sg),bY σ' b m (keys ks l) -> Kp σ0 σ' m -> F'.get 0 = .ref b 0 -> F'.get 5 = .int .i64 n0 -> M E s .normal ⟨48,F'⟩ σ' Q) :
  ∀ (k i:Nat) (F:FT) (σ':Sg),i + k = l.length -> bY σ' b m (keys ks (l.take i)) -> SV σ' v l -> Kp σ0 σ' m -> F.get 0 = .ref b 0 -> F.get 5 = .int .i64 n0 -> F.get 27 = v -> F.get 28 = .int .i64 (l.length:Int) -> F.get 29 = .int .i64 (i:Int) ->
   R E (.loop (cutAt [1,1,1,1,0,1,2,2] (aA Tryz.f71).code)) (.blk 0 :: s) ⟨48,F⟩ σ' Q:=by
 have d9:=h.X9
 simp only [aA,Tryz.f71,cutAt,Option.getD_some] at d9
 intro k
 induction k with
 | zero=>
  intro i F σ' hi hs hv hk g0 g5 g27 g28 g29
  have hlt:decide ((i:Int) < (l.length:Int)) = false:=decide_eq_false (by omega)
  rw [aF]
  simp only [aA,Tryz.f71,KP,↓reduceIte,Nat.reduceLT,cutAt,g28,g29,hlt]
  rw [List.take_of_length_le (by omega)] at hs
  refine hQ _ _ hs hk ?_ ?_ <;> simp only [FT.jO,g0,g5,↓reduceIte,Nat.reduceEqDiff,reduceCtorEq]
 | succ k ih=>
  intro i F σ' hi hs hv hk g0 g5 g27 g28 g29
  have hlt:decide ((i:Int) < (l.length:Int)) = true:=decide_eq_true (by omega)
  obtain ⟨x,hx⟩:∃ x,l[i]? = some x:=⟨_,List.getElem?_eq_getElem (by omega)⟩
  obtain ⟨pa,e1,e2⟩:=Qz h hv hx
  have e2:=e2 _ (dL.refl _)
  have hadd:=OX i (by omega)
  have lm:=qG h (jP hs.obj [.cells 46 [.bool x.1,.str x.2] true])
  have pm:=EE h (jP hs.map [.cells 46 [.bool x.1,.str x.2] true]) x
  rw [aF]
  simp only [aA,Tryz.f71,KP,↓reduceIte,Nat.reduceEqDiff,Nat.reduceLT,reduceCtorEq,h.fM,h.uP,h.uO,h.AD,cutAt,g0,g27,g28,g29,hlt,e1,e2,Kk h,Nr h,lm,pm,bA d9,bX,hadd]
  have hml:=(List.getElem?_eq_some_iff.1 hs.map).1
  refine ih (i + 1) _ _ (by omega) ⟨?_,?_,?_⟩ ?_ ?_ ?_ ?_ ?_ ?_ ?_
  ·rw [List.getElem?_set_ne hs.ne.symm]
   exact jP hs.obj _
  ·rw [List.getElem?_set_self (by rw [List.length_append]; omega)]
   rw [List.take_add_one,hx]
   show some (O.map (lV (jK (keys ks (l.take i)) x))) = some (O.map (lV (List.foldl jK ks (l.take i ++ [x]))))
   rw [List.foldl_append]
   rfl
  ·rw [List.take_add_one,hx]
   show (List.foldl jK ks (l.take i ++ [x])).Nodup
   rw [List.foldl_append]
   exact Gs hs.nodup
  ·refine hv.keep fun j t cs ex e=>?_
   rw [List.getElem?_set_ne (fun hj=>by subst hj; rw [hs.map] at e; cases e)]
   exact jP e _
  ·refine hk.trans fun j o hj e=>?_
   rw [List.getElem?_set_ne (fun h=>hj h.symm)]
   exact jP e _
  all_goals simp only [FT.jO,g0,g5,g27,g28,↓reduceIte,Nat.reduceEqDiff,reduceCtorEq]
theorem Rz (a b:Nat) (ha:a <= 1000000000000) (hb:b <= 1000000000000):wr .i64 ((a:Int) - (b:Int)) = (a:Int) - (b:Int):=by
 rw [yB,if_pos]
 rw [Bool.and_eq_true,decide_eq_true_eq,decide_eq_true_eq]
 exact ⟨show (-9223372036854775808:Int) <= _ by omega,show _ <= (9223372036854775807:Int) by omega⟩
theorem G5 (h:eM E) {b m:Nat} {ks l:List aM} {v:V} (hs:bY Z b m ks) (hv:SV Z v l) (hsm:l.length <= 10000000000) (hks:ks.length <= 10000000000) :
  aB E 71 [.ref b 0,v] Z fun r σ'=>r = .int .i64 (((keys ks l).length:Int) - (ks.length:Int)) /\ bY σ' b m (keys ks l) /\ Kp Z σ' m:=by
 rw [dA h.Wn h.TX h.Xg h.Vw,a_ (by kernel_rfl)]
 have lm:=qG h hs.obj
 have lk:=A1 h hs.map
 have lv:lenOf E Z 40 v = some l.length:=St h hv
 simp only [aA,Tryz.f71,KP,↓reduceIte,Nat.reduceEqDiff,Nat.reduceLT,Nat.reduceAdd,reduceCtorEq,h.sQ,h.uP,h.uO,h.AD,lm,lk,lv,pR]
 refine Ho h hsm (σ0:=Z) (n0:=(ks.length:Int)) (fun F' σ' hs' hk' g0 g5=>?_) l.length 0 _ Z (by omega) hs hv (Kp.refl _ _) ?_ ?_ ?_ ?_ ?_
 ·have lm2:=qG h hs'.obj
  have lk2:=A1 h hs'.map
  have hl:=pD (xs:=l) (l:=ks)
  have hsub:=Rz (keys ks l).length ks.length (by omega) (by omega)
  simp only [KP,↓reduceIte,Nat.reduceEqDiff,Nat.reduceLT,reduceCtorEq,h.uP,h.uO,h.AD,lm2,lk2,g0,g5,hsub]
  exact ⟨hs',hk'⟩
 all_goals simp only [FT.jO,KP,↓reduceIte,Nat.reduceEqDiff,reduceCtorEq]
 all_goals rfl
end
end
section
section
variable {E:Env} {Z:Sg} {K:V -> Sg -> Prop}
theorem Nq (h:eM E) {b:Nat} (hb:Z[b]? = some (.cells 86 [.bS] true)):loadAt E Z 82 (.ref b 0) = some .bS:=by
 unfold loadAt
 simp only [h.uP,hb]
 rfl
theorem Kl (h:eM E) {b m:Nat} {u:V} (hb:Z[b]? = some (.cells 86 [u] true)):storeAt E Z 82 (.ref b 0) (.mp m) = some (Z.set b (.cells 86 [.mp m] true)):=by
 unfold storeAt
 simp only [h.uP,hb]
 rfl
theorem Oz (h:eM E) {b:Nat} {l:List aM} {v:V} (hb:Z[b]? = some (.cells 86 [.bS] true)) (hv:SV Z v l) (hsm:l.length <= 10000000000) :
  aB E 71 [.ref b 0,v] Z fun r σ'=>∃ m,bY σ' b m (keys [] l) /\ Z.length <= m /\ ∀ j o,j ≠ b -> Z[j]? = some o -> σ'[j]? = some o:=by
 rw [dA h.Wn h.TX h.Xg h.Vw,a_ (by kernel_rfl)]
 have hbl:=(List.getElem?_eq_some_iff.1 hb).1
 have ln:=Nq h hb
 have st:=Kl h (m:=Z.length) (jP hb [.map []])
 have hs1:bY ((Z ++ [O.map []]).set b (.cells 86 [.mp Z.length] true)) b Z.length []:=by
  refine ⟨List.getElem?_set_self (by rw [List.length_append]; omega),?_,List.nodup_nil⟩
  rw [List.getElem?_set_ne (by omega),List.getElem?_append_right (Nat.le_refl _),Nat.sub_self]
  rfl
 have hk1:∀ j o,j ≠ b -> Z[j]? = some o -> ((Z ++ [O.map []]).set b (.cells 86 [.mp Z.length] true))[j]? = some o:=fun j o hj e=>by
  rw [List.getElem?_set_ne (fun e=>hj e.symm)]
  exact jP e _
 have hv1:SV ((Z ++ [O.map []]).set b (.cells 86 [.mp Z.length] true)) v l:=by
  rcases hv with hv | hv | ⟨j,cs,ex,e1,e2,e3⟩
  ·exact .inl hv
  ·exact .inr (.inl hv)
  ·refine .inr (.inr ⟨j,cs,ex,e1,hk1 j _ (fun e=>?_) e2,e3⟩)
   subst e; rw [hb] at e2; cases e2
 have lm:=qG h hs1.obj
 have lk:=A1 h hs1.map
 have lv:∀ σ',lenOf E σ' 40 v = some l.length:=fun σ'=>by
  unfold lenOf
  rw [h.pV]
  rcases hv with ⟨rfl,rfl⟩ | ⟨g,full,rfl⟩ | ⟨j,cs,ex,rfl,e2,e3⟩
  ·rfl
  ·simp
  ·rfl
 simp only [aA,Tryz.f71,KP,↓reduceIte,Nat.reduceEqDiff,Nat.reduceLT,Nat.reduceAdd,reduceCtorEq,h.sQ,h.uP,h.uO,h.AD,ln,st,lm,lk,lv,pR]
 refine Ho h hsm (σ0:=(Z ++ [O.map []]).set b (.cells 86 [.mp Z.length] true)) (n0:=0) (fun F' σ' hs' hk' g0 g5=>?_) l.length 0 _ _ (by omega) hs1 hv1 (Kp.refl _ _) ?_ ?_ ?_ ?_ ?_
 ·have lm2:=qG h hs'.obj
  have lk2:=A1 h hs'.map
  simp only [KP,↓reduceIte,Nat.reduceEqDiff,Nat.reduceLT,reduceCtorEq,h.uP,h.uO,h.AD,lm2,lk2,g0,g5]
  refine ⟨Z.length,hs',Nat.le_refl _,fun j o hj e=>?_⟩
  have hjl:=(List.getElem?_eq_some_iff.1 e).1
  exact hk' j o (by omega) (hk1 j o hj e)
 all_goals simp only [FT.jO,KP,↓reduceIte,Nat.reduceEqDiff,reduceCtorEq]
 all_goals rfl
theorem Ou (h:eM E) {l:List aM} {v:V} (hv:SV Z v l) (hsm:l.length <= 10000000000) :
  aB E 44 [v] Z fun r σ'=>∃ m,r = .ref Z.length 0 /\ bY σ' Z.length m (keys [] l) /\ Z.length < m /\ kZ Z σ':=by
 rw [dA h.hs44 h.sp44 h.fn44 h.md44,a_ (by kernel_rfl)]
 simp only [aA,Tryz.f44,KP,↓reduceIte,Nat.reduceEqDiff,Nat.reduceLT,reduceCtorEq,h.uO,h.AD,Ax.fill]
 have hb:(Z ++ [O.cells 86 [.bS] true])[Z.length]? = some (.cells 86 [.bS] true):=by
  rw [List.getElem?_append_right (Nat.le_refl _),Nat.sub_self]; rfl
 refine aL (Oz h hb (hv.keep (dL.app _ _)) hsm) ?_
 rintro r σ' ⟨m,hs,hm,hk⟩
 simp only [KP,↓reduceIte,Nat.reduceEqDiff,Nat.reduceLT]
 rw [List.length_append] at hm
 refine ⟨m,hs,by simp at hm; omega,fun j o e=>?_⟩
 have hjl:=(List.getElem?_eq_some_iff.1 e).1
 exact hk j o (by omega) (jP e _)
theorem Dx (ks:List aM):(lV ks).map (fun (e:V × V)=>rowOf e.1) = ks.map row:=by
 unfold lV
 rw [List.map_map]
 rfl
theorem wC:∀ ks:List aM,(∀ k ∈ ks,k.2.length <= 9223372036854775807) -> allRows kN (ks.map row) = true
 | [],_=>rfl
 | k :: ks,hk=>by
  show (match Nat.ble k.2.length 9223372036854775807 with
   | true=>allRows kN (ks.map row)
   | false=>false) = true
  rw [Nat.ble_eq_true_of_le (hk k (List.mem_cons_self ..))]
  exact wC ks fun x hx=>hk x (List.mem_cons_of_mem _ hx)
theorem Kn {ks:List aM} (hn:ks.Nodup) (hlen:ks.length <= 1000000) (hstr:∀ k ∈ ks,k.2.length <= 9223372036854775807) {j m:Nat} (hj:Z[j]? = some (.cells 82 [.mp m] true)) (hm:Z[m]? = some (.map (lV ks))) :
  kP 46 [129] [] 89 [.fn 129 [] [.ref j 0],.fn 89 [] []] Z = some (if ks = [] then (.aC,Z) else (.sl Z.length 0 ks.length none,Z ++ [.cells 46 ((setOf ks).flatMap row) false])):=by
 have hk:keysOf Z [129] [] (.fn 129 [] [.ref j 0]) = some (ks.map row):=by
  unfold keysOf
  simp only [hj]
  show (match Z[m]? with
   | some (.map es)=>some (es.map fun (e:V × V)=>rowOf e.1)
   | _=>none) = _
  rw [hm]
  exact congrArg some (Dx ks)
 show pF 46 [129] [] kN qH (.fn 129 [] [.ref j 0]) Z = _
 unfold pF
 rw [hk]
 cases hks:ks with
 | nil=>rfl
 | cons k r=>
  have ha:=wC ks hstr
  have hs:=Dm hn
  rw [hks] at ha hs hlen
  rw [List.map_cons] at ha hs ⊢
  rw [if_neg (by simp)]
  show (match allRows kN (row k :: r.map row),Nat.ble (row k :: r.map row).length 1000000 with
   | true,true=>some (V.sl Z.length 0 (row k :: r.map row).length none,Z ++ [O.cells 46 (kB qH (row k :: r.map row)).flatten false])
   | _,_=>none) = _
  rw [ha,Nat.ble_eq_true_of_le (by simpa using hlen),hs,GL]
  simp
theorem To (h:eM E) {m:Nat}:aB E 88 [.mp m] Z K = K (.fn 129 [] [.ref Z.length 0]) (Z ++ [.cells 82 [.mp m] true]):=by
 refine aB.of ?_
 rw [dA h.Wk h.TV h.Xe h.Vu,a_ (by kernel_rfl)]
 simp only [aA,Tryz.f88,KP,↓reduceIte,Nat.reduceEqDiff,Nat.reduceLT,h.uP]
theorem SP (h:eM E) {m:Nat} {ops:Array Oper} {l:List Oper} {dst:Option Nat} {st:List kH} {Q:Ax.X -> Fr -> Sg -> Prop} {fr:Fr}:CV E 88 [.mp m] Z dst fr ops l st Q = dB E ops l (some (dZ fr dst (.fn 129 [] [.ref Z.length 0]),Z ++ [.cells 82 [.mp m] true])) st Q:=Od fun _=>To h
def Own (Z σ':Sg) (r:V) (l:List aM):Prop:=(r = .aC /\ l = []) \/ ∃ j,Z.length <= j /\ r = .sl j 0 l.length none /\ σ'[j]? = some (.cells 46 (l.flatMap row) false)
theorem Own.sv {Z σ':Sg} {r:V} {l:List aM} (h:Own Z σ' r l):SV σ' r l:=by
 rcases h with h | ⟨j,_,h1,h2⟩
 ·exact .inl h
 ·exact .inr (.inr ⟨j,_,_,h1,h2,List.take_of_length_le (by rw [pG]; exact Nat.le_refl _)⟩)
theorem Yp (h:eM E) {b m:Nat} {ks:List aM} (hs:bY Z b m ks) (hlen:ks.length <= 1000000) (hstr:∀ k ∈ ks,k.2.length <= 9223372036854775807) :
  aB E 50 [.ref b 0] Z fun r σ'=>Own Z σ' r (setOf ks) /\ kZ Z σ':=by
 rw [dA h.Wo h.TZ h.Xh h.Vx,a_ (by kernel_rfl)]
 have lm:=qG h hs.obj
 simp only [aA,Tryz.f50,KP,↓reduceIte,Nat.reduceLT,reduceCtorEq,h.uP,h.uO,h.I0,lm,pR,SP h]
 have hj:(Z ++ [O.cells 82 [.mp m] true])[Z.length]? = some (.cells 82 [.mp m] true):=by
  rw [List.getElem?_append_right (Nat.le_refl _),Nat.sub_self]; rfl
 have hsk:=Kn hs.nodup hlen hstr hj (jP hs.map _)
 unfold CV
 rw [nK h.Wl,hsk]
 by_cases hks:ks = []
 ·rw [if_pos hks,GG]
  simp only [KP,↓reduceIte,Nat.reduceLT]
  subst hks
  exact ⟨.inl ⟨rfl,rfl⟩,kZ.app _ _⟩
 ·rw [if_neg hks,GG]
  simp only [KP,↓reduceIte,Nat.reduceLT]
  refine ⟨.inr ⟨_,?_,by rw [wM hs.nodup],?_⟩,fun j o e=>jP (jP e _) _⟩
  ·rw [List.length_append]; omega
  ·rw [List.getElem?_append_right (Nat.le_refl _),Nat.sub_self]; rfl
end
end
section
section
variable {E:Env} {Z:Sg} {K:V -> Sg -> Prop}
theorem Gi {α:Type} {f:α -> Option α}:∀ l:List α,(∀ x ∈ l,f x = some x) -> aW f l = some l
 | [],_=>rfl
 | x :: l,h=>by rw [aW,h x (List.mem_cons_self ..),Gi l fun y hy=>h y (List.mem_cons_of_mem _ hy)]
theorem BQ (h:eM E) (x:aM):∀ ks:List aM,iM (eN E 46) (.agg [.bool x.1,.str x.2]) (lV ks) = some (if x ∈ ks then some (.bool true) else none)
 | []=>rfl
 | y :: r=>by
  show (match eN E 46 (.agg [.bool x.1,.str x.2]) (.agg [.bool y.1,.str y.2]) with
   | some true=>some (some (V.bool true))
   | some false=>iM (eN E 46) (.agg [.bool x.1,.str x.2]) (lV r)
   | none=>none) = _
  rw [qM h,BQ h x r]
  by_cases hxy:x = y
  ·rw [decide_eq_true (show ((x.1,x.2):aM) = (y.1,y.2) from hxy)]
   show some (some (V.bool true)) = some (if x ∈ y :: r then some (V.bool true) else none)
   rw [if_pos (by rw [hxy]; exact List.mem_cons_self ..)]
  ·rw [decide_eq_false (show ¬ ((x.1,x.2):aM) = (y.1,y.2) from hxy)]
   by_cases hx:x ∈ r
   ·rw [if_pos hx,if_pos (List.mem_cons_of_mem _ hx)]
   ·rw [if_neg hx,if_neg (by simp [hxy,hx])]
structure UnionE (E:Env):Prop where
 hs:E.hspec 46 = none
 sp:E.spec 46 = none
 fn:E.fn 46 = some (aA Tryz.f46)
 md:E.mode 46 = .shared
end
end
end Go.Proofs.YtlbbdpkjeeiahaaGreatDoor.Lb
end
section
set_option maxRecDepth 10000
set_option maxHeartbeats 8000000
set_option linter.unusedVariables false
namespace Go.Proofs.YtlbbdpkjeeiahaaGreatDoor
open Go Go.Ax Go.AxS
section
section
variable {E:Env} {Z:Sg} {K:V -> Sg -> Prop}
structure c_ where
 key:aM
 s:Nat
 m:Nat
 ks:List aM
def oI (x:aM):V:=.agg [.bool x.1,.str x.2]
def nP (e:c_):V × V:=(oI e.key,.ref e.s 0)
structure iE (Z:Sg) (b:Nat) (L:List c_):Prop where
 map:Z[b]? = some (.map (L.map nP))
 sets:∀ e ∈ L,Lb.bY Z e.s e.m e.ks
 nodup:(L.map c_.key).Nodup
theorem BR (hl:Lb.eM E) (x:aM):∀ L:List c_,iM (eN E 46) (oI x) (L.map nP) = some ((L.find? fun e=>decide (x = e.key)).map fun e=>.ref e.s 0)
 | []=>rfl
 | e :: L=>by
  show (match eN E 46 (.agg [.bool x.1,.str x.2]) (.agg [.bool e.key.1,.str e.key.2]) with
   | some true=>some (some (V.ref e.s 0))
   | some false=>iM (eN E 46) (oI x) (L.map nP)
   | none=>none) = _
  rw [Lb.qM hl,List.find?_cons]
  by_cases h:x = e.key
  ·rw [decide_eq_true (show ((x.1,x.2):aM) = (e.key.1,e.key.2) from h)]; rfl
  ·rw [decide_eq_false (show ¬ ((x.1,x.2):aM) = (e.key.1,e.key.2) from h)]
   exact BR hl x L
theorem DJ (hl:Lb.eM E) (x:aM) (s m:Nat) (ks:List aM):∀ L:List c_,(∀ e ∈ L,x ≠ e.key) -> kF (eN E 46) (oI x) (.ref s 0) (L.map nP) = some ((L ++ [c_.mk x s m ks]).map nP)
 | [],_=>rfl
 | e :: L,h=>by
  have hx:=h e (List.mem_cons_self ..)
  show (match eN E 46 (.agg [.bool x.1,.str x.2]) (.agg [.bool e.key.1,.str e.key.2]) with
   | some true=>some ((oI x,V.ref s 0) :: L.map nP)
   | some false=>(match kF (eN E 46) (oI x) (.ref s 0) (L.map nP) with
    | some r=>some (nP e :: r)
    | none=>none)
   | none=>none) = _
  rw [Lb.qM hl,decide_eq_false (show ¬ ((x.1,x.2):aM) = (e.key.1,e.key.2) from hx),DJ hl x s m ks L fun y hy=>h y (List.mem_cons_of_mem _ hy)]
  rfl
def bN (L:List c_) (x:aM):Option c_:=L.find? fun e=>decide (x = e.key)
theorem DP (h':sM E) (hl:Lb.eM E) {Z:Sg} {b:Nat} {L:List c_} (hm:Z[b]? = some (.map (L.map nP))) (x:aM):lookup E Z 105 (.mp b) (oI x) false = some (match bN L x with | some e=>.ref e.s 0 | none=>.fR):=by
 have hk:=Lb.qJ hl x.1 x.2
 unfold Ax.lookup
 simp only [h'.pW,hl.sQ,oI,hk,entriesOf,hm,Bool.not_true,Bool.false_eq_true,if_false]
 have:=BR hl x L
 unfold oI at this
 rw [this]
 unfold bN
 cases L.find? fun e=>decide (x = e.key) <;> rfl
theorem xG (h':sM E) (hl:Lb.eM E) {Z:Sg} {b:Nat} {L:List c_} (hm:iE Z b L) (x:aM):lookup E Z 105 (.mp b) (oI x) false = some (match bN L x with | some e=>.ref e.s 0 | none=>.fR):=DP h' hl hm.map x
theorem EE (h':sM E) (hl:Lb.eM E) {Z:Sg} {b:Nat} {L:List c_} (hm:iE Z b L) {x:aM} (hx:bN L x = none) {s m:Nat} {ks:List aM}:mapUpdate E Z 105 (.mp b) (oI x) (.ref s 0) = some (Z.set b (.map ((L ++ [c_.mk x s m ks]).map nP))):=by
 have hk:=Lb.qJ hl x.1 x.2
 have hne:∀ e ∈ L,x ≠ e.key:=fun e he hxe=>by
  have:=List.find?_eq_none.1 hx e he
  simp [hxe] at this
 have:=DJ hl x s m ks L hne
 unfold oI at this
 unfold Ax.mapUpdate
 simp only [h'.pW,oI,hk,hm.map,this,eX,V.aX,Bool.not_true,Bool.or_self,Bool.false_eq_true,if_false,Option.map_some]
end
end
section
section
variable {E:Env} {Z:Sg} {K:V -> Sg -> Prop}
theorem bY.keep {Z σ':Sg} {s m x:Nat} {ks:List aM} {es:List (V × V)} (h:Lb.bY Z s m ks) (hx:Z[x]? = some (.map es)) (hm:m ≠ x) (k:∀ (j:Nat) (o:O),j ≠ x -> Z[j]? = some o -> σ'[j]? = some o):Lb.bY σ' s m ks:=by
 refine ⟨k _ _ (fun e=>?_) h.obj,k _ _ hm h.map,h.nodup⟩
 have:=h.obj
 rw [e,hx] at this
 cases this
theorem iE.keep {Z σ':Sg} {b x:Nat} {L:List c_} {es:List (V × V)} (h:iE Z b L) (hx:Z[x]? = some (.map es)) (hb:b ≠ x) (hm:x ∉ L.map c_.m) (k:∀ (j:Nat) (o:O),j ≠ x -> Z[j]? = some o -> σ'[j]? = some o):iE σ' b L:=
 ⟨k _ _ hb h.map,fun e he=>bY.keep (h.sets e he) hx (fun e'=>hm (List.mem_map.2 ⟨e,he,e'⟩)) k,h.nodup⟩
def oW (L:List c_) (x:aM) (ks:List aM):List c_:=L.map fun e=>if e.key = x then { e with ks:=ks } else e
theorem Ki (L:List c_) (x:aM) (ks:List aM):(oW L x ks).map nP = L.map nP:=by
 unfold oW
 rw [List.map_map]
 refine List.map_congr_left fun e _=>?_
 show nP (if e.key = x then _ else e) = nP e
 by_cases h:e.key = x
 ·rw [if_pos h]; rfl
 ·rw [if_neg h]
theorem Dh (L:List c_) (x:aM) (ks:List aM):(oW L x ks).map c_.key = L.map c_.key:=by
 unfold oW
 rw [List.map_map]
 refine List.map_congr_left fun e _=>?_
 show c_.key (if e.key = x then _ else e) = e.key
 by_cases h:e.key = x
 ·rw [if_pos h]
 ·rw [if_neg h]
theorem IY (L:List c_) (x:aM) (ks:List aM):(oW L x ks).map c_.m = L.map c_.m:=by
 unfold oW
 rw [List.map_map]
 refine List.map_congr_left fun e _=>?_
 show c_.m (if e.key = x then _ else e) = e.m
 by_cases h:e.key = x
 ·rw [if_pos h]
 ·rw [if_neg h]
theorem yU {β:Type} {f:c_ -> β}:∀ {L:List c_},(L.map f).Nodup -> ∀ e ∈ L,∀ e' ∈ L,f e = f e' -> e = e'
 | [],_,e,he,_,_,_=>by cases he
 | a :: L,h,e,he,e',he',hm=>by
  rw [List.map_cons,List.nodup_cons] at h
  rcases List.mem_cons.1 he with h1 | h1 <;> rcases List.mem_cons.1 he' with h2 | h2
  ·rw [h1,h2]
  ·exact absurd (List.mem_map.2 ⟨e',h2,by rw [<- hm,h1]⟩) h.1
  ·exact absurd (List.mem_map.2 ⟨e,h1,by rw [hm,h2]⟩) h.1
  ·exact yU h.2 e h1 e' h2 hm
theorem iE.up {Z σ':Sg} {b:Nat} {L:List c_} {e:c_} {ks:List aM} (h:iE Z b L) (he:e ∈ L) (hnd:(L.map c_.m).Nodup) (hb:b ≠ e.m) (hs:Lb.bY σ' e.s e.m ks) (k:∀ (j:Nat) (o:O),j ≠ e.m -> Z[j]? = some o -> σ'[j]? = some o):iE σ' b (oW L e.key ks):=by
 refine ⟨by rw [Ki]; exact k _ _ hb h.map,fun a ha=>?_,by rw [Dh]; exact h.nodup⟩
 obtain ⟨a0,ha0,rfl⟩:=List.mem_map.1 ha
 by_cases hk:a0.key = e.key
 ·have hae:a0 = e:=yU h.nodup a0 ha0 e he hk
  subst hae
  rw [if_pos rfl]
  exact hs
 ·rw [if_neg hk]
  exact bY.keep (h.sets a0 ha0) (h.sets e he).map (fun e'=>hk (by rw [yU hnd a0 ha0 e he e'])) k
structure nC (E:Env) (Z:Sg) (gb m0 m1 sa ma b3 b4:Nat) (es0 es1:List (V × V)) (A:List aM) (L3 L4:List c_):Prop where
 g:Z[gb]? = some (.cells 107 [.mp m0,.mp m1,.ref sa 0,.mp b3,.mp b4] true)
 rules:Z[m0]? = some (.map es0)
 jJ:Z[m1]? = some (.map es1)
 all:Lb.bY Z sa ma A
 jI:iE Z b3 L3
 jB:iE Z b4 L4
 sep:(m0 :: m1 :: ma :: b3 :: b4 :: (L3.map c_.m ++ L4.map c_.m)).Nodup
end
end
section
section
variable {E:Env} {Z:Sg} {K:V -> Sg -> Prop}
theorem bY.app {Z:Sg} {s m:Nat} {ks:List aM} (h:Lb.bY Z s m ks) (y:O):Lb.bY (Z ++ [y]) s m ks:=⟨aP h.obj,aP h.map,h.nodup⟩
theorem iE.app {Z:Sg} {b:Nat} {L:List c_} (h:iE Z b L) (y:O):iE (Z ++ [y]) b L:=⟨aP h.map,fun e he=>bY.app (h.sets e he) y,h.nodup⟩
theorem nC.app {{Z:Sg}} {{gb m0 m1 sa ma b3 b4:Nat}} {{es0 es1:List (V × V)}} {{A:List aM}} {{L3 L4:List c_}} (h:nC E Z gb m0 m1 sa ma b3 b4 es0 es1 A L3 L4) (y:O):nC E (Z ++ [y]) gb m0 m1 sa ma b3 b4 es0 es1 A L3 L4:=
 ⟨aP h.g,aP h.rules,aP h.jJ,bY.app h.all y,h.jI.app y,h.jB.app y,h.sep⟩
theorem nC.more {{Z σ':Sg}} {{gb m0 m1 sa ma b3 b4:Nat}} {{es0 es1:List (V × V)}} {{A:List aM}} {{L3 L4:List c_}} (h:nC E Z gb m0 m1 sa ma b3 b4 es0 es1 A L3 L4) {A':List aM} (hs:Lb.bY σ' sa ma A') (k:∀ (j:Nat) (o:O),j ≠ ma -> Z[j]? = some o -> σ'[j]? = some o):nC E σ' gb m0 m1 sa ma b3 b4 es0 es1 A' L3 L4:=by
 have sep:=h.sep
 simp only [List.nodup_cons,List.mem_cons,List.mem_append,not_or] at sep
 obtain ⟨⟨-,n0,-⟩,⟨n1,-⟩,⟨n3,n4,n5,n6⟩,-⟩:=sep
 have hx:=h.all.map
 have ng:gb ≠ ma:=fun e=>by
  have:=h.g
  rw [e,hx] at this
  cases this
 exact ⟨k _ _ ng h.g,k _ _ n0 h.rules,k _ _ n1 h.jJ,hs,h.jI.keep hx (fun e=>n3 e.symm) n5 k,h.jB.keep hx (fun e=>n4 e.symm) n6 k,h.sep⟩
theorem nC.rule {{Z:Sg}} {{gb m0 m1 sa ma b3 b4:Nat}} {{es0 es1:List (V × V)}} {{A:List aM}} {{L3 L4:List c_}} (h:nC E Z gb m0 m1 sa ma b3 b4 es0 es1 A L3 L4) (es:List (V × V)):nC E (Z.set m0 (.map es)) gb m0 m1 sa ma b3 b4 es es1 A L3 L4:=by
 have sep:=h.sep
 simp only [List.nodup_cons,List.mem_cons,List.mem_append,not_or] at sep
 obtain ⟨⟨n1,na,n3,n4,n5,n6⟩,-⟩:=sep
 have hx:=h.rules
 have ng:gb ≠ m0:=fun e=>by
  have:=h.g
  rw [e,hx] at this
  cases this
 have k:∀ (j:Nat) (o:O),j ≠ m0 -> Z[j]? = some o -> (Z.set m0 (.map es))[j]? = some o:=fun j o hj ho=>by
  rw [List.getElem?_set_ne (Ne.symm hj)]; exact ho
 exact ⟨k _ _ ng h.g,List.getElem?_set_self (List.getElem?_eq_some_iff.1 hx).1,k _ _ (Ne.symm n1) h.jJ,bY.keep h.all hx (Ne.symm na) k,h.jI.keep hx (Ne.symm n3) n5 k,h.jB.keep hx (Ne.symm n4) n6 k,h.sep⟩
theorem nC.Ni {{Z:Sg}} {{gb m0 m1 sa ma b3 b4:Nat}} {{es0 es1:List (V × V)}} {{A:List aM}} {{L3 L4:List c_}} (h:nC E Z gb m0 m1 sa ma b3 b4 es0 es1 A L3 L4) (es:List (V × V)):nC E (Z.set m1 (.map es)) gb m0 m1 sa ma b3 b4 es0 es A L3 L4:=by
 have sep:=h.sep
 simp only [List.nodup_cons,List.mem_cons,List.mem_append,not_or] at sep
 obtain ⟨⟨n1,-⟩,⟨na,n3,n4,n5,n6⟩,-⟩:=sep
 have hx:=h.jJ
 have ng:gb ≠ m1:=fun e=>by
  have:=h.g
  rw [e,hx] at this
  cases this
 have k:∀ (j:Nat) (o:O),j ≠ m1 -> Z[j]? = some o -> (Z.set m1 (.map es))[j]? = some o:=fun j o hj ho=>by
  rw [List.getElem?_set_ne (Ne.symm hj)]; exact ho
 exact ⟨k _ _ ng h.g,k _ _ n1 h.rules,List.getElem?_set_self (List.getElem?_eq_some_iff.1 hx).1,bY.keep h.all hx (Ne.symm na) k,h.jI.keep hx (Ne.symm n3) n5 k,h.jB.keep hx (Ne.symm n4) n6 k,h.sep⟩
end
end
section
section
variable {E:Env} {Z:Sg} {K:V -> Sg -> Prop}
theorem nC.facts {Z:Sg} {gb m0 m1 sa ma b3 b4:Nat} {es0 es1:List (V × V)} {A:List aM} {L3 L4:List c_} (h:nC E Z gb m0 m1 sa ma b3 b4 es0 es1 A L3 L4):(L3.map c_.m).Nodup /\ (L4.map c_.m).Nodup /\ ∀ x,x ∈ L3.map c_.m \/ x ∈ L4.map c_.m -> m0 ≠ x /\ m1 ≠ x /\ ma ≠ x /\ b3 ≠ x /\ b4 ≠ x:=by
 have sep:=h.sep
 simp only [List.nodup_cons,List.mem_cons,List.mem_append,not_or,List.nodup_append] at sep
 obtain ⟨⟨-,-,-,-,a5,a6⟩,⟨-,-,-,b5,b6⟩,⟨-,-,c5,c6⟩,⟨-,d5,d6⟩,⟨e5,e6⟩,f1,f2,-⟩:=sep
 refine ⟨f1,f2,fun x hx=>?_⟩
 rcases hx with hx | hx
 ·exact ⟨fun e=>a5 (by rw [e]; exact hx),fun e=>b5 (by rw [e]; exact hx),fun e=>c5 (by rw [e]; exact hx),fun e=>d5 (by rw [e]; exact hx),fun e=>e5 (by rw [e]; exact hx)⟩
 ·exact ⟨fun e=>a6 (by rw [e]; exact hx),fun e=>b6 (by rw [e]; exact hx),fun e=>c6 (by rw [e]; exact hx),fun e=>d6 (by rw [e]; exact hx),fun e=>e6 (by rw [e]; exact hx)⟩
theorem nC.Rt {Z:Sg} {gb m0 m1 sa ma b3 b4:Nat} {es0 es1:List (V × V)} {A:List aM} {L3 L4:List c_} (h:nC E Z gb m0 m1 sa ma b3 b4 es0 es1 A L3 L4):∀ x ∈ L3.map c_.m,x ∉ L4.map c_.m:=by
 have sep:=h.sep
 simp only [List.nodup_cons,List.mem_cons,List.mem_append,not_or,List.nodup_append] at sep
 obtain ⟨-,-,-,-,-,-,-,f3⟩:=sep
 exact fun x hx hy=>f3 x hx x hy rfl
theorem nC.M_ {{Z σ':Sg}} {{gb m0 m1 sa ma b3 b4:Nat}} {{es0 es1:List (V × V)}} {{A:List aM}} {{L3 L4:List c_}} (h:nC E Z gb m0 m1 sa ma b3 b4 es0 es1 A L3 L4) {e:c_} (he:e ∈ L3) {ks:List aM} (hs:Lb.bY σ' e.s e.m ks) (k:∀ (j:Nat) (o:O),j ≠ e.m -> Z[j]? = some o -> σ'[j]? = some o):nC E σ' gb m0 m1 sa ma b3 b4 es0 es1 A (oW L3 e.key ks) L4:=by
 obtain ⟨f1,f2,f3⟩:=h.facts
 have hm:e.m ∈ L3.map c_.m:=List.mem_map.2 ⟨e,he,rfl⟩
 obtain ⟨n1,n2,n3,n4,n5⟩:=f3 e.m (Or.inl hm)
 have hx:=(h.jI.sets e he).map
 have ng:gb ≠ e.m:=fun e'=>by
  have:=h.g
  rw [e',hx] at this
  cases this
 have nb:=n4
 exact ⟨k _ _ ng h.g,k _ _ n1 h.rules,k _ _ n2 h.jJ,bY.keep h.all hx n3 k,iE.up h.jI he f1 nb hs k,h.jB.keep hx n5 (fun hx'=>h.Rt _ hm hx') k,by rw [IY]; exact h.sep⟩
theorem nC.LY {{Z σ':Sg}} {{gb m0 m1 sa ma b3 b4:Nat}} {{es0 es1:List (V × V)}} {{A:List aM}} {{L3 L4:List c_}} (h:nC E Z gb m0 m1 sa ma b3 b4 es0 es1 A L3 L4) {e:c_} (he:e ∈ L4) {ks:List aM} (hs:Lb.bY σ' e.s e.m ks) (k:∀ (j:Nat) (o:O),j ≠ e.m -> Z[j]? = some o -> σ'[j]? = some o):nC E σ' gb m0 m1 sa ma b3 b4 es0 es1 A L3 (oW L4 e.key ks):=by
 obtain ⟨f1,f2,f3⟩:=h.facts
 have hm:e.m ∈ L4.map c_.m:=List.mem_map.2 ⟨e,he,rfl⟩
 obtain ⟨n1,n2,n3,n4,n5⟩:=f3 e.m (Or.inr hm)
 have hx:=(h.jB.sets e he).map
 have ng:gb ≠ e.m:=fun e'=>by
  have:=h.g
  rw [e',hx] at this
  cases this
 have nb:=n5
 exact ⟨k _ _ ng h.g,k _ _ n1 h.rules,k _ _ n2 h.jJ,bY.keep h.all hx n3 k,h.jI.keep hx n4 (fun hx'=>h.Rt _ hx' hm) k,iE.up h.jB he f2 nb hs k,by rw [IY]; exact h.sep⟩
end
end
section
section
variable {E:Env} {Z:Sg} {K:V -> Sg -> Prop}
theorem iE.jX {Z σ1:Sg} {b:Nat} {L:List c_} (h:iE Z b L) (k:Lb.kZ Z σ1):iE σ1 b L:=⟨k _ _ h.map,fun e he=>⟨k _ _ (h.sets e he).obj,k _ _ (h.sets e he).map,(h.sets e he).nodup⟩,h.nodup⟩
theorem nC.jX {{Z σ1:Sg}} {{gb m0 m1 sa ma b3 b4:Nat}} {{es0 es1:List (V × V)}} {{A:List aM}} {{L3 L4:List c_}} (h:nC E Z gb m0 m1 sa ma b3 b4 es0 es1 A L3 L4) (k:Lb.kZ Z σ1):nC E σ1 gb m0 m1 sa ma b3 b4 es0 es1 A L3 L4:=
 ⟨k _ _ h.g,k _ _ h.rules,k _ _ h.jJ,⟨k _ _ h.all.obj,k _ _ h.all.map,h.all.nodup⟩,h.jI.jX k,h.jB.jX k,h.sep⟩
theorem nC.below {Z:Sg} {gb m0 m1 sa ma b3 b4:Nat} {es0 es1:List (V × V)} {A:List aM} {L3 L4:List c_} (h:nC E Z gb m0 m1 sa ma b3 b4 es0 es1 A L3 L4) {m:Nat} (hm:Z.length <= m):m ∉ m0 :: m1 :: ma :: b3 :: b4 :: (L3.map c_.m ++ L4.map c_.m):=by
 have lt:∀ {i:Nat} {o:O},Z[i]? = some o -> i < m:=fun e=>Nat.lt_of_lt_of_le (List.getElem?_eq_some_iff.1 e).1 hm
 have h0:=lt h.rules
 have h1:=lt h.jJ
 have h2:=lt h.all.map
 have h3:=lt h.jI.map
 have h4:=lt h.jB.map
 intro hx
 simp only [List.mem_cons,List.mem_append,List.mem_map] at hx
 rcases hx with e | e | e | e | e | ⟨e,he,e'⟩ | ⟨e,he,e'⟩
 ·omega
 ·omega
 ·omega
 ·omega
 ·omega
 ·have:=lt (h.jI.sets e he).map; omega
 ·have:=lt (h.jB.sets e he).map; omega
theorem iE.new {Z:Sg} {b:Nat} {L:List c_} {x:aM} {s m:Nat} (h:iE Z b L) (hx:bN L x = none) (hs:Lb.bY Z s m []) (hb:b ∉ L.map c_.m) (hm:m ≠ b):iE (Z.set b (.map ((L ++ [c_.mk x s m []]).map nP))) b (L ++ [c_.mk x s m []]):=by
 have k:∀ (j:Nat) (o:O),j ≠ b -> Z[j]? = some o -> (Z.set b (.map ((L ++ [c_.mk x s m []]).map nP)))[j]? = some o:=fun j o hj ho=>by
  rw [List.getElem?_set_ne (Ne.symm hj)]; exact ho
 refine ⟨List.getElem?_set_self (List.getElem?_eq_some_iff.1 h.map).1,fun e he=>?_,?_⟩
 ·rcases List.mem_append.1 he with he | he
  ·exact bY.keep (h.sets e he) h.map (fun e'=>hb (List.mem_map.2 ⟨e,he,e'⟩)) k
  ·rw [List.mem_singleton.1 he]
   exact bY.keep hs h.map hm k
 ·rw [List.map_append,List.nodup_append]
  refine ⟨h.nodup,by simp,fun y hy z hz e=>?_⟩
  obtain ⟨a,ha,rfl⟩:=List.mem_map.1 hy
  have hz:z = x:=by simpa using hz
  have:=List.find?_eq_none.1 hx a ha
  simp [<- hz,<- e] at this
theorem nC.Pz {{Z σ1:Sg}} {{gb m0 m1 sa ma b3 b4:Nat}} {{es0 es1:List (V × V)}} {{A:List aM}} {{L3 L4:List c_}} (h:nC E Z gb m0 m1 sa ma b3 b4 es0 es1 A L3 L4) {x:aM} (hx:bN L3 x = none) {s m:Nat} (k1:Lb.kZ Z σ1) (hs:Lb.bY σ1 s m []) (hm:Z.length <= m):nC E (σ1.set b3 (.map ((L3 ++ [c_.mk x s m []]).map nP))) gb m0 m1 sa ma b3 b4 es0 es1 A (L3 ++ [c_.mk x s m []]) L4:=by
 have h1:=h.jX k1
 have fresh:=h.below hm
 have hx1:=h1.jI.map
 have sep:=h.sep
 simp only [List.nodup_cons,List.mem_cons,List.mem_append,not_or] at sep
 obtain ⟨⟨-,-,a3,-⟩,⟨-,b3',-⟩,⟨c3,-⟩,⟨n3,n4,n5⟩,-⟩:=sep
 have hmb:m ≠ b3:=fun e=>fresh (by rw [e]; simp)
 have new:=iE.new h1.jI hx hs n4 hmb
 have ng:gb ≠ b3:=fun e=>by
  have:=h1.g
  rw [e,hx1] at this
  cases this
 have k:∀ (j:Nat) (o:O),j ≠ b3 -> σ1[j]? = some o -> (σ1.set b3 (.map ((L3 ++ [c_.mk x s m []]).map nP)))[j]? = some o:=fun j o hj ho=>by
  rw [List.getElem?_set_ne (Ne.symm hj)]; exact ho
 have hp:(m0 :: m1 :: ma :: b3 :: b4 :: ((L3 ++ [c_.mk x s m []]).map c_.m ++ L4.map c_.m)).Perm (m :: (m0 :: m1 :: ma :: b3 :: b4 :: (L3.map c_.m ++ L4.map c_.m))):=by simpa using List.perm_middle (l₁:=m0 :: m1 :: ma :: b3 :: b4 :: L3.map c_.m) (a:=m) (l₂:=L4.map c_.m)
 exact ⟨k _ _ ng h1.g,k _ _ a3 h1.rules,k _ _ b3' h1.jJ,bY.keep h1.all hx1 c3 k,new,h1.jB.keep hx1 (fun e=>n3 e.symm) n5 k,hp.nodup_iff.2 (List.nodup_cons.2 ⟨fresh,h.sep⟩)⟩
theorem nC.OZ {{Z σ1:Sg}} {{gb m0 m1 sa ma b3 b4:Nat}} {{es0 es1:List (V × V)}} {{A:List aM}} {{L3 L4:List c_}} (h:nC E Z gb m0 m1 sa ma b3 b4 es0 es1 A L3 L4) {x:aM} (hx:bN L4 x = none) {s m:Nat} (k1:Lb.kZ Z σ1) (hs:Lb.bY σ1 s m []) (hm:Z.length <= m):nC E (σ1.set b4 (.map ((L4 ++ [c_.mk x s m []]).map nP))) gb m0 m1 sa ma b3 b4 es0 es1 A L3 (L4 ++ [c_.mk x s m []]):=by
 have h1:=h.jX k1
 have fresh:=h.below hm
 have hx1:=h1.jB.map
 have sep:=h.sep
 simp only [List.nodup_cons,List.mem_cons,List.mem_append,not_or] at sep
 obtain ⟨⟨-,-,-,a3,-⟩,⟨-,-,b3',-⟩,⟨-,c3,-⟩,⟨n3,-,-⟩,⟨n4,n5⟩,-⟩:=sep
 have hmb:m ≠ b4:=fun e=>fresh (by rw [e]; simp)
 have new:=iE.new h1.jB hx hs n5 hmb
 have ng:gb ≠ b4:=fun e=>by
  have:=h1.g
  rw [e,hx1] at this
  cases this
 have k:∀ (j:Nat) (o:O),j ≠ b4 -> σ1[j]? = some o -> (σ1.set b4 (.map ((L4 ++ [c_.mk x s m []]).map nP)))[j]? = some o:=fun j o hj ho=>by
  rw [List.getElem?_set_ne (Ne.symm hj)]; exact ho
 have hp:(m0 :: m1 :: ma :: b3 :: b4 :: (L3.map c_.m ++ (L4 ++ [c_.mk x s m []]).map c_.m)).Perm (m :: (m0 :: m1 :: ma :: b3 :: b4 :: (L3.map c_.m ++ L4.map c_.m))):=by simpa using List.perm_middle (l₁:=m0 :: m1 :: ma :: b3 :: b4 :: (L3.map c_.m ++ L4.map c_.m)) (a:=m) (l₂:=[])
 exact ⟨k _ _ ng h1.g,k _ _ a3 h1.rules,k _ _ b3' h1.jJ,bY.keep h1.all hx1 c3 k,h1.jI.keep hx1 n3 n4 k,new,hp.nodup_iff.2 (List.nodup_cons.2 ⟨fresh,h.sep⟩)⟩
end
end
section
section
variable {E:Env} {Z:Sg} {K:V -> Sg -> Prop}
theorem Wd (h:bM E) (h':sM E) (hl:Lb.eM E) {Y:Sg} {{gb m0 m1 sa ma b3 b4:Nat}} {{es0 es1:List (V × V)}} {{A:List aM}} {{L3 L4:List c_}} (ga:nC E Y gb m0 m1 sa ma b3 b4 es0 es1 A L3 L4) {x y:aM} {n0 n1:Nat} (hx:Y[n0]? = some (O.cells 46 [.bool x.1,.str x.2] true)) (hy:Y[n1]? = some (O.cells 46 [.bool y.1,.str y.2] true)) (hA:A.length <= 1000000) (F:FT) (g0:F.get 0 = .ref gb 0) (g4:F.get 4 = .ref n0 0) (g5:F.get 5 = .ref n1 0) {st:List kH} {Q:Ax.X -> Fr -> Sg -> Prop}
  (hk:∀ F' τ',(∀ k,k ∈ [0,4,5] -> F'.get k = F.get k) -> nC E τ' gb m0 m1 sa ma b3 b4 es0 es1 (keys A [x,y]) L3 L4 -> τ'[n0]? = some (O.cells 46 [.bool x.1,.str x.2] true) -> τ'[n1]? = some (O.cells 46 [.bool y.1,.str y.2] true) -> Lb.dL Y τ' -> M E st .normal ⟨57,F'⟩ τ' Q):Ax.R E (.region 1 (opsOf (cutAt [1,0] (aA Tryz.f73).code)) true) st ⟨57,F⟩ Y Q:=by
 have ga1:=ga.app (O.cells 46 [.bool x.1,.str x.2,.bool y.1,.str y.2] true)
 have hx1:=aP (x:=O.cells 46 [.bool x.1,.str x.2,.bool y.1,.str y.2] true) hx
 have hy1:=aP (x:=O.cells 46 [.bool x.1,.str x.2,.bool y.1,.str y.2] true) hy
 have hsv:Lb.SV (Y ++ [O.cells 46 [.bool x.1,.str x.2,.bool y.1,.str y.2] true]) (.sl Y.length 0 2 none) [x,y]:=.inr (.inr ⟨Y.length,_,true,rfl,aN,rfl⟩)
 obtain ⟨n,r,τ2,hcall,hr,hset,hkp⟩:=Lb.G5 hl ga1.all hsv (show 2 <= 10000000000 by omega) (by omega)
 have ga2:=ga1.more hset hkp
 have hma:=ga1.all.map
 have ne:∀ {k:Nat} {t:Nat} {cs:List V} {ex:Bool},(Y ++ [O.cells 46 [.bool x.1,.str x.2,.bool y.1,.str y.2] true])[k]? = some (.cells t cs ex) -> k ≠ ma:=fun hk e=>by
  rw [e,hma] at hk
  cases hk
 have hx2:=hkp _ _ (ne hx1) hx1
 have hy2:=hkp _ _ (ne hy1) hy1
 have g:=ga.g
 have g1:=ga1.g
 have vr:sL 12 (.ref sa 0) (.ref sa 0) = true:=by unfold sL; simp
 have key:∃ F',cI E (ev E n) (opsOf (cutAt [1,0] (aA Tryz.f73).code)) ⟨57,F⟩ Y = some (⟨57,F'⟩,τ2) /\ (∀ k,k ∈ [0,4,5] -> F'.get k = F.get k):=by
  unfold cI
  rw [h'.TL,h'.Vh]
  simp only [aA,Tryz.f73,KP,Ax.loadAt,↓reduceIte,Nat.reduceEqDiff,Nat.reduceLT,Nat.reduceLeDiff,Nat.reduceAdd,Nat.reduceMul,reduceCtorEq,h.pV,h.fM,opsOf,cutAt,Fz.lits,iC,bK,bZ,kD,Ax.comp,Ax.last,iG,Ax.again,Ax.fill,gK,Nat.zero_mul,hl.sQ,h'.sD,g0,g4,g5,hx,hy,g,g1,hcall,vr]
  refine ⟨_,rfl,fun k hk=>?_⟩
  simp only [List.mem_cons,List.not_mem_nil,or_false] at hk
  rcases hk with rfl | rfl | rfl <;> simp +decide only [GS]
 obtain ⟨F',hD,hF⟩:=key
 exact Eq.mpr (iZ hD) (hk F' τ2 hF ga2 hx2 hy2 ((Lb.dL.app Y _).trans (Lb.Kp.tI hkp hma)))
end
end
section
section
variable {E:Env} {Z:Sg} {K:V -> Sg -> Prop}
theorem hU {L:List c_} {x:aM} {e:c_} (h:bN L x = some e):e ∈ L /\ x = e.key:=by
 unfold bN at h
 exact ⟨List.mem_of_find?_eq_some h,by have:=List.find?_some h; simpa using this⟩
theorem JC (h:bM E) (h':sM E) (hl:Lb.eM E) {Y:Sg} {nb mb:Nat} {L:List c_} {x y:aM} {e:c_} (hm:iE Y mb L) (he:bN L x = some e) (hb:Y[nb]? = some (O.cells 144 [.mp mb,.bool x.1,.str x.2,.bool y.1,.str y.2] true)) (hks:e.ks.length <= 1000000) (hmb:mb ≠ e.m) (F:FT) (g7:F.get 7 = .ref nb 0) {st:List kH} {Q:Ax.X -> Fr -> Sg -> Prop}
  (hk:∀ F' τ',(∀ k,k ∈ [0,4,5,7,30,31,32] -> F'.get k = F.get k) -> Lb.bY τ' e.s e.m (keys e.ks [y]) -> Lb.Kp (Y ++ [O.cells 46 [.bool y.1,.str y.2] true]) τ' e.m -> M E st .normal ⟨57,F'⟩ τ' Q):Ax.R E (.region 7 (opsOf (cutAt [1,1,1,2,2,1,1,0,2,1,1] (aA Tryz.f73).code)) true) st ⟨57,F⟩ Y Q:=by
 obtain ⟨hme,hxe⟩:=hU he
 have hm1:=hm.app (O.cells 46 [.bool y.1,.str y.2] true)
 have hb1:=aP (x:=O.cells 46 [.bool y.1,.str y.2] true) hb
 have hs1:=hm1.sets e hme
 have hsv:Lb.SV (Y ++ [O.cells 46 [.bool y.1,.str y.2] true]) (.sl Y.length 0 1 none) [y]:=.inr (.inr ⟨Y.length,_,true,rfl,aN,rfl⟩)
 obtain ⟨n,r,τ2,hcall,hr,hset,hkp⟩:=Lb.G5 hl hs1 hsv (show 1 <= 10000000000 by omega) (by omega)
 have ne:nb ≠ e.m:=fun e'=>by
  have:=hs1.map
  rw [<- e',hb1] at this
  cases this
 have lk:lookup E Y 105 (.mp mb) (.agg [.bool x.1,.str x.2]) false = some (.ref e.s 0):=by
  have:=xG h' hl hm x
  rw [he] at this
  exact this
 have lk1:lookup E (Y ++ [O.cells 46 [.bool y.1,.str y.2] true]) 105 (.mp mb) (.agg [.bool x.1,.str x.2]) false = some (.ref e.s 0):=by
  have:=xG h' hl hm1 x
  rw [he] at this
  exact this
 have lk2:lookup E τ2 105 (.mp mb) (.agg [.bool x.1,.str x.2]) false = some (.ref e.s 0):=by
  have:=DP h' hl (hkp _ _ hmb hm1.map) x
  rw [he] at this
  exact this
 have vr:sL 12 (.ref e.s 0) (.ref e.s 0) = true:=by unfold sL; simp
 have vm:sL 12 (.mp mb) (.mp mb) = true:=by unfold sL; simp
 have vl:sL 12 (.agg [.bool x.1,.str x.2]) (.agg [.bool x.1,.str x.2]) = true:=oU fun z hz=>by
  simp only [List.mem_cons,List.not_mem_nil,or_false] at hz
  rcases hz with rfl | rfl
  ·show decide (x.1 = x.1) = true
   simp
  ·exact zT 10 x.2
 have key:∃ F',cI E (ev E n) (opsOf (cutAt [1,1,1,2,2,1,1,0,2,1,1] (aA Tryz.f73).code)) ⟨57,F⟩ Y = some (⟨57,F'⟩,τ2) /\ (∀ k,k ∈ [0,4,5,7,30,31,32] -> F'.get k = F.get k):=by
  unfold cI
  rw [h'.TJ,h'.Vf]
  simp only [aA,Tryz.f73,KP,Ax.loadAt,↓reduceIte,Nat.reduceEqDiff,Nat.reduceLT,Nat.reduceLeDiff,Nat.reduceAdd,Nat.reduceMul,reduceCtorEq,h.pV,h.fM,opsOf,cutAt,Fz.lits,iC,bK,bZ,kD,Ax.comp,Ax.last,iG,Ax.again,Ax.fill,gK,Nat.zero_mul,h'.pW,h'.wH,g7,hb,hb1,lk,lk1,hcall,vr,vm,vl]
  refine ⟨_,rfl,fun k hk=>?_⟩
  simp only [List.mem_cons,List.not_mem_nil,or_false] at hk
  rcases hk with rfl | rfl | rfl | rfl | rfl | rfl | rfl <;> simp +decide only [GS]
 obtain ⟨F',hD,hF⟩:=key
 exact Eq.mpr (iZ hD) (hk F' τ2 hF hset hkp)
end
end
section
section
variable {E:Env} {Z:Sg} {K:V -> Sg -> Prop}
theorem Rp (h:bM E) (h':sM E) (hl:Lb.eM E) {Y:Sg} {nb mb:Nat} {L:List c_} {x y:aM} (hm:iE Y mb L) (he:bN L x = none) (hb:Y[nb]? = some (O.cells 144 [.mp mb,.bool x.1,.str x.2,.bool y.1,.str y.2] true)) (F:FT) (g7:F.get 7 = .ref nb 0) {st:List kH} {Q:Ax.X -> Fr -> Sg -> Prop}
  (hk:∀ F' τ1 m,(∀ k,k ∈ [0,4,5,7,30,31,32] -> F'.get k = F.get k) -> Lb.kZ Y τ1 -> Lb.bY τ1 Y.length m [] -> Y.length < m -> M E st .normal ⟨57,F'⟩ (τ1.set mb (.map ((L ++ [c_.mk x Y.length m []]).map nP))) Q):Ax.R E (.region 6 (opsOf (cutAt [1,1,1,2,2,1,1,0,2,1,0,1,0] (aA Tryz.f73).code)) true) st ⟨57,F⟩ Y Q:=by
 obtain ⟨n,r,τ1,hcall,m,rfl,hset,hlt,jX⟩:=Lb.Ou hl (Z:=Y) (v:=.aC) (l:=[]) (.inl ⟨rfl,rfl⟩) (by simp)
 have hb1:=jX _ _ hb
 have put:=EE h' hl (hm.jX jX) he (s:=Y.length) (m:=m) (ks:=[])
 unfold oI at put
 have vm:sL 12 (.mp mb) (.mp mb) = true:=by unfold sL; simp
 have vl:sL 12 (.agg [.bool x.1,.str x.2]) (.agg [.bool x.1,.str x.2]) = true:=oU fun z hz=>by
  simp only [List.mem_cons,List.not_mem_nil,or_false] at hz
  rcases hz with rfl | rfl
  ·show decide (x.1 = x.1) = true
   simp
  ·exact zT 10 x.2
 have key:∃ F',cI E (ev E n) (opsOf (cutAt [1,1,1,2,2,1,1,0,2,1,0,1,0] (aA Tryz.f73).code)) ⟨57,F⟩ Y = some (⟨57,F'⟩,τ1.set mb (.map ((L ++ [c_.mk x Y.length m []]).map nP))) /\ (∀ k,k ∈ [0,4,5,7,30,31,32] -> F'.get k = F.get k):=by
  unfold cI
  rw [h'.TK,h'.Vg]
  simp only [aA,Tryz.f73,KP,Ax.loadAt,↓reduceIte,Nat.reduceEqDiff,Nat.reduceLT,Nat.reduceLeDiff,Nat.reduceAdd,reduceCtorEq,h.fM,opsOf,cutAt,iC,bK,bZ,kD,Ax.comp,Ax.last,iG,Ax.again,aQ,h'.pW,h'.wH,g7,hb,hb1,hcall,put,vm,vl]
  refine ⟨_,rfl,fun k hk=>?_⟩
  simp only [List.mem_cons,List.not_mem_nil,or_false] at hk
  rcases hk with rfl | rfl | rfl | rfl | rfl | rfl | rfl <;> simp +decide only [GS]
 obtain ⟨F',hD,hF⟩:=key
 exact Eq.mpr (iZ hD) (hk F' τ1 m hF jX hset hlt)
end
end
section
section
variable {E:Env} {Z:Sg} {K:V -> Sg -> Prop}
def qI (L:List c_) (z:aM):List aM:=match bN L z with
 | some e=>e.ks
 | none=>[]
theorem FL (L:List c_) (x:aM) (ks:List aM) (z:aM):bN (oW L x ks) z = (bN L z).map fun e=>if e.key = x then { e with ks:=ks } else e:=by
 unfold bN oW
 induction L with
 | nil=>rfl
 | cons e L ih=>
  rw [List.map_cons,List.find?_cons,List.find?_cons]
  have hk:(if e.key = x then { e with ks:=ks } else e).key = e.key:=by
   by_cases h:e.key = x
   ·rw [if_pos h]
   ·rw [if_neg h]
  rw [hk]
  by_cases hz:z = e.key
  ·rw [decide_eq_true hz]; rfl
  ·rw [decide_eq_false hz]; exact ih
theorem PT {L:List c_} {e:c_} {x:aM} (he:bN L x = some e) (ks:List aM) (z:aM):qI (oW L e.key ks) z = if z = x then ks else qI L z:=by
 obtain ⟨hme,hxe⟩:=hU he
 unfold qI
 rw [FL]
 by_cases hz:z = x
 ·rw [if_pos hz,hz,he]
  show (match (some (if e.key = e.key then { e with ks:=ks } else e):Option c_) with
   | some e=>e.ks
   | none=>[]) = ks
  rw [if_pos rfl]
 ·rw [if_neg hz]
  cases hq:bN L z with
  | none=>rfl
  | some q=>
   obtain ⟨-,hzq⟩:=hU hq
   show (if q.key = e.key then { q with ks:=ks } else q).ks = q.ks
   rw [if_neg (fun e'=>hz (by rw [hzq,e',hxe]))]
theorem wN (L:List c_) (e:c_) (hx:bN L e.key = none) (z:aM):bN (L ++ [e]) z = if z = e.key then some e else bN L z:=by
 unfold bN at *
 rw [List.find?_append]
 by_cases hz:z = e.key
 ·rw [if_pos hz,hz,hx,List.find?_cons,decide_eq_true rfl]; rfl
 ·rw [if_neg hz,List.find?_cons,decide_eq_false hz,List.find?_nil]
  cases List.find? (fun e=>decide (z = e.key)) L <;> rfl
structure Grow (L:List c_) (x y:aM) (L':List c_):Prop where
 mem:∀ z w,w ∈ qI L' z ↔ w ∈ qI L z \/ (z = x /\ w = y)
 len:∀ n,(∀ e ∈ L,e.ks.length <= n) -> ∀ e ∈ L',e.ks.length <= n + 1
 key:∀ z,z ∈ L'.map c_.key ↔ z ∈ L.map c_.key \/ z = x
theorem SA {L:List c_} {x:aM}:x ∈ L.map c_.key ↔ ∃ e,bN L x = some e:=by
 constructor
 ·intro h
  obtain ⟨e,he,rfl⟩:=List.mem_map.1 h
  cases hq:bN L e.key with
  | some q=>exact ⟨q,rfl⟩
  | none=>
   have:=List.find?_eq_none.1 hq e he
   simp at this
 ·rintro ⟨e,he⟩
  obtain ⟨h1,h2⟩:=hU he
  exact List.mem_map.2 ⟨e,h1,h2.symm⟩
theorem NF (l:List aM) (y:aM):keys l [y] = jK l y:=rfl
theorem KU (l:List aM) (y:aM):(jK l y).length <= l.length + 1:=by
 unfold jK
 by_cases h:y ∈ l
 ·rw [if_pos h]; omega
 ·rw [if_neg h,List.length_append]; exact Nat.le_refl _
theorem Grow.up {L:List c_} {e:c_} {x:aM} (he:bN L x = some e) (y:aM):Grow L x y (oW L e.key (keys e.ks [y])):=by
 obtain ⟨hme,hxe⟩:=hU he
 refine ⟨fun z w=>?_,fun n hn a ha=>?_,fun z=>?_⟩
 ·rw [PT he]
  by_cases hz:z = x
  ·have:qI L z = e.ks:=by unfold qI; rw [hz,he]
   rw [if_pos hz,this,NF,DN]
   exact ⟨fun h=>h.imp id fun h=>⟨hz,h⟩,fun h=>h.imp id And.right⟩
  ·rw [if_neg hz]
   exact ⟨.inl,fun h=>h.elim id fun h=>absurd h.1 hz⟩
 ·obtain ⟨a0,ha0,rfl⟩:=List.mem_map.1 ha
  by_cases hk:a0.key = e.key
  ·rw [if_pos hk]
   have:=KU e.ks y
   have:=hn e hme
   show (jK e.ks y).length <= n + 1
   omega
  ·rw [if_neg hk]
   have:=hn a0 ha0
   omega
 ·rw [Dh]
  refine ⟨.inl,fun h=>h.elim id fun h=>?_⟩
  rw [h]
  exact SA.2 ⟨e,he⟩
theorem Grow.new {L:List c_} {x:aM} {s m:Nat} (hx:bN L x = none) (y:aM):bN (L ++ [c_.mk x s m []]) x = some (c_.mk x s m []) /\ Grow L x y (oW (L ++ [c_.mk x s m []]) x (keys [] [y])):=by
 have he:bN (L ++ [c_.mk x s m []]) x = some (c_.mk x s m []):=by rw [wN _ _ hx,if_pos rfl]
 have g:=Grow.up he y
 refine ⟨he,fun z w=>?_,fun n hn a ha=>?_,fun z=>?_⟩
 ·rw [g.mem]
  have:qI (L ++ [c_.mk x s m []]) z = qI L z:=by
   unfold qI
   rw [wN _ _ hx]
   by_cases hz:z = x
   ·rw [if_pos hz,hz,hx]
   ·rw [if_neg hz]
  rw [this]
 ·refine g.len n (fun e he=>?_) a ha
  rcases List.mem_append.1 he with he | he
  ·exact hn e he
  ·rw [List.mem_singleton.1 he]; exact Nat.zero_le _
 ·rw [g.key,List.map_append,List.mem_append]
  constructor
  ·rintro ((h | h) | h)
   ·exact .inl h
   ·exact .inr (by simpa using h)
   ·exact .inr h
  ·exact fun h=>h.imp .inl id
end
end
section
section
variable {E:Env} {Z:Sg} {K:V -> Sg -> Prop}
theorem Kp.tI {Z σ':Sg} {m:Nat} {es:List (V × V)} (h:Lb.Kp Z σ' m) (hm:Z[m]? = some (.map es)):Lb.dL Z σ':=Lb.Kp.tI h hm
theorem dL.AP (Z:Sg) (y:O):Lb.dL Z (Z ++ [y]):=Lb.dL.app Z [y]
theorem map_lt {Z:Sg} {b:Nat} {o:O} (h:Z[b]? = some o):b < Z.length:=(List.getElem?_eq_some_iff.1 h).1
theorem PK (h:bM E) (h':sM E) (hl:Lb.eM E) {Y:Sg} {gb m0 m1 sa ma b3 b4:Nat} {es0 es1:List (V × V)} {A:List aM} {L3 L4:List c_} (ga:nC E Y gb m0 m1 sa ma b3 b4 es0 es1 A L3 L4) {x y:aM} {blk:Nat} (hb:Y[blk]? = some (O.cells 144 [.mp b3,.bool x.1,.str x.2,.bool y.1,.str y.2,.mp b4,.bool y.1,.str y.2,.bool x.1,.str x.2] true)) (hks:∀ e ∈ L3,e.ks.length <= 1000000) (F:FT) (g30:F.get 30 = .sl blk 0 2 none) (g32:F.get 32 = .int .i64 0) {st:List kH} {Q:Ax.X -> Fr -> Sg -> Prop}
  (hk:∀ F' τ' L',(∀ k,k ∈ [0,4,5,30,31,32] -> F'.get k = F.get k) -> nC E τ' gb m0 m1 sa ma b3 b4 es0 es1 A L' L4 -> Grow L3 x y L' -> Lb.dL Y τ' -> M E st .normal ⟨57,F'⟩ τ' Q):Ax.R E (cutAt [1,1,1,2,2,1,1,0,2] (aA Tryz.f73).code) st ⟨57,F⟩ Y Q:=by
 have ia:indexAddr E 145 (.sl blk 0 2 none) (.int .i64 0) = some (.ref blk 0):=by unfold Ax.indexAddr; simp only [h'.IZ,h'.wH]; rfl
 have ga1:=ga.app (O.cells 144 [.mp b3,.bool x.1,.str x.2,.bool y.1,.str y.2] true)
 have hnb:(Y ++ [O.cells 144 [.mp b3,.bool x.1,.str x.2,.bool y.1,.str y.2] true])[Y.length]? = some (O.cells 144 [.mp b3,.bool x.1,.str x.2,.bool y.1,.str y.2] true):=aN
 have lk:=xG h' hl ga1.jI x
 unfold oI at lk
 rcases hq:bN L3 x with _ | e
 ·rw [hq] at lk
  have r7:=fun (ρ:Sg) (m:Nat) gm he hbx hln hne F g7 st Q hk=>JC (Y:=ρ) (nb:=Y.length) (mb:=b3) (L:=L3 ++ [c_.mk x (Y ++ [O.cells 144 [.mp b3,.bool x.1,.str x.2,.bool y.1,.str y.2] true]).length m []]) (x:=x) (y:=y) (e:=c_.mk x (Y ++ [O.cells 144 [.mp b3,.bool x.1,.str x.2,.bool y.1,.str y.2] true]).length m []) h h' hl gm he hbx hln hne F g7 (st:=st) (Q:=Q) hk
  have r6:=fun F g7 st Q hk=>Rp (Y:=Y ++ [O.cells 144 [.mp b3,.bool x.1,.str x.2,.bool y.1,.str y.2] true]) (nb:=Y.length) (mb:=b3) (L:=L3) (x:=x) (y:=y) h h' hl ga1.jI hq hnb F g7 (st:=st) (Q:=Q) hk
  rw [show cutAt [1,1,1,2,2,1,1,0,2] (aA Tryz.f73).code = .seq (cutAt [1,1,1,2,2,1,1,0,2,0] (aA Tryz.f73).code) (.seq (.seq (cutAt [1,1,1,2,2,1,1,0,2,1,0,0] (aA Tryz.f73).code) (.cond (.tmp 41) (cutAt [1,1,1,2,2,1,1,0,2,1,0,1,0] (aA Tryz.f73).code) .skip)) (cutAt [1,1,1,2,2,1,1,0,2,1,1] (aA Tryz.f73).code)) from rfl]
  rw [show cutAt [1,1,1,2,2,1,1,0,2,1,0,1,0] (aA Tryz.f73).code = .region 6 (opsOf (cutAt [1,1,1,2,2,1,1,0,2,1,0,1,0] (aA Tryz.f73).code)) true from rfl,show cutAt [1,1,1,2,2,1,1,0,2,1,1] (aA Tryz.f73).code = .region 7 (opsOf (cutAt [1,1,1,2,2,1,1,0,2,1,1] (aA Tryz.f73).code)) true from rfl]
  generalize opsOf (cutAt [1,1,1,2,2,1,1,0,2,1,0,1,0] (aA Tryz.f73).code) = O6 at r6 ⊢
  generalize opsOf (cutAt [1,1,1,2,2,1,1,0,2,1,1] (aA Tryz.f73).code) = O7 at r7 ⊢
  have e77:pR E 77 true .fR .fR = some true:=by unfold pR; rw [hl.sQ]
  simp only [aA,Tryz.f73,KP,Ax.loadAt,Ax.storeAt,↓reduceIte,Nat.reduceEqDiff,Nat.reduceLT,Nat.reduceLeDiff,Nat.reduceAdd,reduceCtorEq,h.fM,e77,cutAt,h'.wH,h'.pW,g30,g32,ia,hb,hnb,lk,aN,cF]
  refine r6 _ ?_ _ _ (fun F1 τ1 m hF1 jX hset hlt=>?_)
  ·simp +decide only [GS]
  have hx1:=ga1.jI.map
  have ga2:=ga1.Pz hq jX hset (Nat.le_of_lt hlt)
  have hmb:b3 < (Y ++ [O.cells 144 [.mp b3,.bool x.1,.str x.2,.bool y.1,.str y.2] true]).length:=map_lt hx1
  have hnb2:(τ1.set b3 (.map ((L3 ++ [c_.mk x (Y ++ [O.cells 144 [.mp b3,.bool x.1,.str x.2,.bool y.1,.str y.2] true]).length m []]).map nP)))[Y.length]? = some (O.cells 144 [.mp b3,.bool x.1,.str x.2,.bool y.1,.str y.2] true):=by
   rw [List.getElem?_set_ne]
   ·exact jX _ _ hnb
   ·intro e
    have q:=hx1.symm.trans ((congrArg (fun i=>(Y ++ [O.cells 144 [.mp b3,.bool x.1,.str x.2,.bool y.1,.str y.2] true])[i]?) e).trans hnb)
    cases q
  rw [Wa]
  refine r7 _ m ga2.jI (Grow.new hq y).1 hnb2 (Nat.zero_le _) (show b3 ≠ m by omega) _ ?_ _ _ (fun F2 τ2 hF2 hset2 kp=>?_)
  ·exact (hF1 7 (by simp)).trans (by simp +decide only [GS])
  have gb2:=ga2.app (O.cells 46 [.bool y.1,.str y.2] true)
  have ga3:=gb2.M_ (hU (Grow.new hq y).1).1 hset2 kp
  refine hk _ _ _ (fun k hk=>?_) ga3 (Grow.new hq y).2 ?_
  ·have h7:k ∈ [0,4,5,7,30,31,32]:=by
    simp only [List.mem_cons,List.not_mem_nil,or_false] at hk ⊢
    omega
   refine (hF2 k h7).trans ((hF1 k h7).trans ?_)
   simp only [List.mem_cons,List.not_mem_nil,or_false] at hk
   rcases hk with rfl | rfl | rfl | rfl | rfl | rfl <;> simp +decide only [GS]
  ·exact ((((dL.AP Y _).trans jX.tI).trans (Lb.dL.Ez (jX _ _ hx1))).trans (dL.AP _ _)).trans (Lb.Kp.tI kp (gb2.jI.sets _ (hU (Grow.new hq y).1).1).map)
 ·rw [hq] at lk
  have e77:pR E 77 true (.ref e.s 0) .fR = some false:=by unfold pR; rw [hl.sQ]
  obtain ⟨hme,hxe⟩:=hU hq
  obtain ⟨-,-,f3⟩:=ga1.facts
  have hmb:=f3 e.m (by first | exact .inl (List.mem_map.2 ⟨e,hme,rfl⟩) | exact .inr (List.mem_map.2 ⟨e,hme,rfl⟩))
  have r7:=fun F g7 st Q hk=>JC (Y:=Y ++ [O.cells 144 [.mp b3,.bool x.1,.str x.2,.bool y.1,.str y.2] true]) (nb:=Y.length) (mb:=b3) (L:=L3) (x:=x) (y:=y) (e:=e) h h' hl ga1.jI hq hnb (hks e hme) (by first | exact hmb.2.2.2.1 | exact hmb.2.2.2.2) F g7 (st:=st) (Q:=Q) hk
  rw [show cutAt [1,1,1,2,2,1,1,0,2] (aA Tryz.f73).code = .seq (cutAt [1,1,1,2,2,1,1,0,2,0] (aA Tryz.f73).code) (.seq (.seq (cutAt [1,1,1,2,2,1,1,0,2,1,0,0] (aA Tryz.f73).code) (.cond (.tmp 41) (cutAt [1,1,1,2,2,1,1,0,2,1,0,1,0] (aA Tryz.f73).code) .skip)) (cutAt [1,1,1,2,2,1,1,0,2,1,1] (aA Tryz.f73).code)) from rfl]
  rw [show cutAt [1,1,1,2,2,1,1,0,2,1,0,1,0] (aA Tryz.f73).code = .region 6 (opsOf (cutAt [1,1,1,2,2,1,1,0,2,1,0,1,0] (aA Tryz.f73).code)) true from rfl,show cutAt [1,1,1,2,2,1,1,0,2,1,1] (aA Tryz.f73).code = .region 7 (opsOf (cutAt [1,1,1,2,2,1,1,0,2,1,1] (aA Tryz.f73).code)) true from rfl]
  generalize opsOf (cutAt [1,1,1,2,2,1,1,0,2,1,0,1,0] (aA Tryz.f73).code) = O6 at ⊢
  generalize opsOf (cutAt [1,1,1,2,2,1,1,0,2,1,1] (aA Tryz.f73).code) = O7 at r7 ⊢
  simp only [aA,Tryz.f73,KP,Ax.loadAt,Ax.storeAt,↓reduceIte,Nat.reduceEqDiff,Nat.reduceLT,Nat.reduceLeDiff,Nat.reduceAdd,reduceCtorEq,h.fM,e77,cutAt,h'.wH,h'.pW,g30,g32,ia,hb,hnb,lk,aN,cF]
  refine r7 _ ?_ _ _ (fun F2 τ2 hF2 hset2 kp=>?_)
  ·simp +decide only [GS]
  have gb2:=ga1.app (O.cells 46 [.bool y.1,.str y.2] true)
  have ga3:=gb2.M_ hme hset2 kp
  refine hk _ _ _ (fun k hk=>?_) ga3 (Grow.up hq y) ?_
  ·have h7:k ∈ [0,4,5,7,30,31,32]:=by
    simp only [List.mem_cons,List.not_mem_nil,or_false] at hk ⊢
    omega
   refine (hF2 k h7).trans ?_
   simp only [List.mem_cons,List.not_mem_nil,or_false] at hk
   rcases hk with rfl | rfl | rfl | rfl | rfl | rfl <;> simp +decide only [GS]
  ·exact ((dL.AP Y _).trans (dL.AP _ _)).trans (Lb.Kp.tI kp (gb2.jI.sets e hme).map)
theorem PJ (h:bM E) (h':sM E) (hl:Lb.eM E) {Y:Sg} {gb m0 m1 sa ma b3 b4:Nat} {es0 es1:List (V × V)} {A:List aM} {L3 L4:List c_} (ga:nC E Y gb m0 m1 sa ma b3 b4 es0 es1 A L3 L4) {x y:aM} {blk:Nat} (hb:Y[blk]? = some (O.cells 144 [.mp b3,.bool x.1,.str x.2,.bool y.1,.str y.2,.mp b4,.bool y.1,.str y.2,.bool x.1,.str x.2] true)) (hks:∀ e ∈ L4,e.ks.length <= 1000000) (F:FT) (g30:F.get 30 = .sl blk 0 2 none) (g32:F.get 32 = .int .i64 1) {st:List kH} {Q:Ax.X -> Fr -> Sg -> Prop}
  (hk:∀ F' τ' L',(∀ k,k ∈ [0,4,5,30,31,32] -> F'.get k = F.get k) -> nC E τ' gb m0 m1 sa ma b3 b4 es0 es1 A L3 L' -> Grow L4 y x L' -> Lb.dL Y τ' -> M E st .normal ⟨57,F'⟩ τ' Q):Ax.R E (cutAt [1,1,1,2,2,1,1,0,2] (aA Tryz.f73).code) st ⟨57,F⟩ Y Q:=by
 have ia:indexAddr E 145 (.sl blk 0 2 none) (.int .i64 1) = some (.ref blk 5):=by unfold Ax.indexAddr; simp only [h'.IZ,h'.wH]; rfl
 have ga1:=ga.app (O.cells 144 [.mp b4,.bool y.1,.str y.2,.bool x.1,.str x.2] true)
 have hnb:(Y ++ [O.cells 144 [.mp b4,.bool y.1,.str y.2,.bool x.1,.str x.2] true])[Y.length]? = some (O.cells 144 [.mp b4,.bool y.1,.str y.2,.bool x.1,.str x.2] true):=aN
 have lk:=xG h' hl ga1.jB y
 unfold oI at lk
 rcases hq:bN L4 y with _ | e
 ·rw [hq] at lk
  have r7:=fun (ρ:Sg) (m:Nat) gm he hbx hln hne F g7 st Q hk=>JC (Y:=ρ) (nb:=Y.length) (mb:=b4) (L:=L4 ++ [c_.mk y (Y ++ [O.cells 144 [.mp b4,.bool y.1,.str y.2,.bool x.1,.str x.2] true]).length m []]) (x:=y) (y:=x) (e:=c_.mk y (Y ++ [O.cells 144 [.mp b4,.bool y.1,.str y.2,.bool x.1,.str x.2] true]).length m []) h h' hl gm he hbx hln hne F g7 (st:=st) (Q:=Q) hk
  have r6:=fun F g7 st Q hk=>Rp (Y:=Y ++ [O.cells 144 [.mp b4,.bool y.1,.str y.2,.bool x.1,.str x.2] true]) (nb:=Y.length) (mb:=b4) (L:=L4) (x:=y) (y:=x) h h' hl ga1.jB hq hnb F g7 (st:=st) (Q:=Q) hk
  rw [show cutAt [1,1,1,2,2,1,1,0,2] (aA Tryz.f73).code = .seq (cutAt [1,1,1,2,2,1,1,0,2,0] (aA Tryz.f73).code) (.seq (.seq (cutAt [1,1,1,2,2,1,1,0,2,1,0,0] (aA Tryz.f73).code) (.cond (.tmp 41) (cutAt [1,1,1,2,2,1,1,0,2,1,0,1,0] (aA Tryz.f73).code) .skip)) (cutAt [1,1,1,2,2,1,1,0,2,1,1] (aA Tryz.f73).code)) from rfl]
  rw [show cutAt [1,1,1,2,2,1,1,0,2,1,0,1,0] (aA Tryz.f73).code = .region 6 (opsOf (cutAt [1,1,1,2,2,1,1,0,2,1,0,1,0] (aA Tryz.f73).code)) true from rfl,show cutAt [1,1,1,2,2,1,1,0,2,1,1] (aA Tryz.f73).code = .region 7 (opsOf (cutAt [1,1,1,2,2,1,1,0,2,1,1] (aA Tryz.f73).code)) true from rfl]
  generalize opsOf (cutAt [1,1,1,2,2,1,1,0,2,1,0,1,0] (aA Tryz.f73).code) = O6 at r6 ⊢
  generalize opsOf (cutAt [1,1,1,2,2,1,1,0,2,1,1] (aA Tryz.f73).code) = O7 at r7 ⊢
  have e77:pR E 77 true .fR .fR = some true:=by unfold pR; rw [hl.sQ]
  simp only [aA,Tryz.f73,KP,Ax.loadAt,Ax.storeAt,↓reduceIte,Nat.reduceEqDiff,Nat.reduceLT,Nat.reduceLeDiff,Nat.reduceAdd,reduceCtorEq,h.fM,e77,cutAt,h'.wH,h'.pW,g30,g32,ia,hb,hnb,lk,aN,cF]
  refine r6 _ ?_ _ _ (fun F1 τ1 m hF1 jX hset hlt=>?_)
  ·simp +decide only [GS]
  have hx1:=ga1.jB.map
  have ga2:=ga1.OZ hq jX hset (Nat.le_of_lt hlt)
  have hmb:b4 < (Y ++ [O.cells 144 [.mp b4,.bool y.1,.str y.2,.bool x.1,.str x.2] true]).length:=map_lt hx1
  have hnb2:(τ1.set b4 (.map ((L4 ++ [c_.mk y (Y ++ [O.cells 144 [.mp b4,.bool y.1,.str y.2,.bool x.1,.str x.2] true]).length m []]).map nP)))[Y.length]? = some (O.cells 144 [.mp b4,.bool y.1,.str y.2,.bool x.1,.str x.2] true):=by
   rw [List.getElem?_set_ne]
   ·exact jX _ _ hnb
   ·intro e
    have q:=hx1.symm.trans ((congrArg (fun i=>(Y ++ [O.cells 144 [.mp b4,.bool y.1,.str y.2,.bool x.1,.str x.2] true])[i]?) e).trans hnb)
    cases q
  rw [Wa]
  refine r7 _ m ga2.jB (Grow.new hq x).1 hnb2 (Nat.zero_le _) (show b4 ≠ m by omega) _ ?_ _ _ (fun F2 τ2 hF2 hset2 kp=>?_)
  ·exact (hF1 7 (by simp)).trans (by simp +decide only [GS])
  have gb2:=ga2.app (O.cells 46 [.bool x.1,.str x.2] true)
  have ga3:=gb2.LY (hU (Grow.new hq x).1).1 hset2 kp
  refine hk _ _ _ (fun k hk=>?_) ga3 (Grow.new hq x).2 ?_
  ·have h7:k ∈ [0,4,5,7,30,31,32]:=by
    simp only [List.mem_cons,List.not_mem_nil,or_false] at hk ⊢
    omega
   refine (hF2 k h7).trans ((hF1 k h7).trans ?_)
   simp only [List.mem_cons,List.not_mem_nil,or_false] at hk
   rcases hk with rfl | rfl | rfl | rfl | rfl | rfl <;> simp +decide only [GS]
  ·exact ((((dL.AP Y _).trans jX.tI).trans (Lb.dL.Ez (jX _ _ hx1))).trans (dL.AP _ _)).trans (Lb.Kp.tI kp (gb2.jB.sets _ (hU (Grow.new hq x).1).1).map)
 ·rw [hq] at lk
  have e77:pR E 77 true (.ref e.s 0) .fR = some false:=by unfold pR; rw [hl.sQ]
  obtain ⟨hme,hxe⟩:=hU hq
  obtain ⟨-,-,f3⟩:=ga1.facts
  have hmb:=f3 e.m (by first | exact .inl (List.mem_map.2 ⟨e,hme,rfl⟩) | exact .inr (List.mem_map.2 ⟨e,hme,rfl⟩))
  have r7:=fun F g7 st Q hk=>JC (Y:=Y ++ [O.cells 144 [.mp b4,.bool y.1,.str y.2,.bool x.1,.str x.2] true]) (nb:=Y.length) (mb:=b4) (L:=L4) (x:=y) (y:=x) (e:=e) h h' hl ga1.jB hq hnb (hks e hme) (by first | exact hmb.2.2.2.1 | exact hmb.2.2.2.2) F g7 (st:=st) (Q:=Q) hk
  rw [show cutAt [1,1,1,2,2,1,1,0,2] (aA Tryz.f73).code = .seq (cutAt [1,1,1,2,2,1,1,0,2,0] (aA Tryz.f73).code) (.seq (.seq (cutAt [1,1,1,2,2,1,1,0,2,1,0,0] (aA Tryz.f73).code) (.cond (.tmp 41) (cutAt [1,1,1,2,2,1,1,0,2,1,0,1,0] (aA Tryz.f73).code) .skip)) (cutAt [1,1,1,2,2,1,1,0,2,1,1] (aA Tryz.f73).code)) from rfl]
  rw [show cutAt [1,1,1,2,2,1,1,0,2,1,0,1,0] (aA Tryz.f73).code = .region 6 (opsOf (cutAt [1,1,1,2,2,1,1,0,2,1,0,1,0] (aA Tryz.f73).code)) true from rfl,show cutAt [1,1,1,2,2,1,1,0,2,1,1] (aA Tryz.f73).code = .region 7 (opsOf (cutAt [1,1,1,2,2,1,1,0,2,1,1] (aA Tryz.f73).code)) true from rfl]
  generalize opsOf (cutAt [1,1,1,2,2,1,1,0,2,1,0,1,0] (aA Tryz.f73).code) = O6 at ⊢
  generalize opsOf (cutAt [1,1,1,2,2,1,1,0,2,1,1] (aA Tryz.f73).code) = O7 at r7 ⊢
  simp only [aA,Tryz.f73,KP,Ax.loadAt,Ax.storeAt,↓reduceIte,Nat.reduceEqDiff,Nat.reduceLT,Nat.reduceLeDiff,Nat.reduceAdd,reduceCtorEq,h.fM,e77,cutAt,h'.wH,h'.pW,g30,g32,ia,hb,hnb,lk,aN,cF]
  refine r7 _ ?_ _ _ (fun F2 τ2 hF2 hset2 kp=>?_)
  ·simp +decide only [GS]
  have gb2:=ga1.app (O.cells 46 [.bool x.1,.str x.2] true)
  have ga3:=gb2.LY hme hset2 kp
  refine hk _ _ _ (fun k hk=>?_) ga3 (Grow.up hq x) ?_
  ·have h7:k ∈ [0,4,5,7,30,31,32]:=by
    simp only [List.mem_cons,List.not_mem_nil,or_false] at hk ⊢
    omega
   refine (hF2 k h7).trans ?_
   simp only [List.mem_cons,List.not_mem_nil,or_false] at hk
   rcases hk with rfl | rfl | rfl | rfl | rfl | rfl <;> simp +decide only [GS]
  ·exact ((dL.AP Y _).trans (dL.AP _ _)).trans (Lb.Kp.tI kp (gb2.jB.sets e hme).map)
end
end
section
section
variable {E:Env} {Z:Sg} {K:V -> Sg -> Prop}
theorem Om (h:bM E) (h':sM E) (hl:Lb.eM E) {Y:Sg} {gb m0 m1 sa ma b3 b4:Nat} {es0 es1:List (V × V)} {A:List aM} {L3 L4:List c_} (ga:nC E Y gb m0 m1 sa ma b3 b4 es0 es1 A L3 L4) {x y:aM} (hA:A.length <= 1000000) (hk3:∀ e ∈ L3,e.ks.length <= 1000000) (hk4:∀ e ∈ L4,e.ks.length <= 1000000):aB E 73 [.ref gb 0,.agg [.bool x.1,.str x.2],.agg [.bool y.1,.str y.2]] Y fun v τ'=>v = .fS [] /\ ∃ L3' L4',nC E τ' gb m0 m1 sa ma b3 b4 es0 es1 (keys A [x,y]) L3' L4' /\ Grow L3 x y L3' /\ Grow L4 y x L4' /\ Lb.dL Y τ':=by
 rw [dA h'.hs73 h'.sp73 h'.fn73 h'.md73,a_ (by kernel_rfl)]
 have rn:=fun {Y} {L3 L4} {blk} A ga hb hks F g30 g32 st Q hk=>PK (Y:=Y) (L3:=L3) (L4:=L4) (A:=A) (x:=x) (y:=y) (blk:=blk) (gb:=gb) (m0:=m0) (m1:=m1) (sa:=sa) (ma:=ma) (b3:=b3) (b4:=b4) (es0:=es0) (es1:=es1) h h' hl ga hb hks F g30 g32 (st:=st) (Q:=Q) hk
 have ru:=fun {Y} {L3 L4} {blk} A ga hb hks F g30 g32 st Q hk=>PJ (Y:=Y) (L3:=L3) (L4:=L4) (A:=A) (x:=x) (y:=y) (blk:=blk) (gb:=gb) (m0:=m0) (m1:=m1) (sa:=sa) (ma:=ma) (b3:=b3) (b4:=b4) (es0:=es0) (es1:=es1) h h' hl ga hb hks F g30 g32 (st:=st) (Q:=Q) hk
 have r1:=fun {Y} {n0 n1} ga hx hy F g0 g4 g5 st Q hk=>Wd (Y:=Y) (n0:=n0) (n1:=n1) (A:=A) (L3:=L3) (L4:=L4) (x:=x) (y:=y) (gb:=gb) (m0:=m0) (m1:=m1) (sa:=sa) (ma:=ma) (b3:=b3) (b4:=b4) (es0:=es0) (es1:=es1) h h' hl ga hx hy hA F g0 g4 g5 (st:=st) (Q:=Q) hk
 have d2:=h'.X8
 rw [show (aA Tryz.f73).code = .seq (cutAt [0] (aA Tryz.f73).code) (.seq (cutAt [1,0] (aA Tryz.f73).code) (.seq (cutAt [1,1,0] (aA Tryz.f73).code) (.block 0 (.loop (.seq (cutAt [1,1,1,2,2,0] (aA Tryz.f73).code) (.seq (cutAt [1,1,1,2,2,1,0] (aA Tryz.f73).code) (.seq (.block 1 (cutAt [1,1,1,2,2,1,1,0,2] (aA Tryz.f73).code)) (cutAt [1,1,1,2,2,1,1,1] (aA Tryz.f73).code)))))))) from rfl]
 rw [show cutAt [1,0] (aA Tryz.f73).code = .region 1 (opsOf (cutAt [1,0] (aA Tryz.f73).code)) true from rfl]
 generalize opsOf (cutAt [1,0] (aA Tryz.f73).code) = O1 at r1 ⊢
 generalize cutAt [1,1,1,2,2,1,1,0,2] (aA Tryz.f73).code = B at rn ru ⊢
 generalize hD2:cutAt [1,1,0] (aA Tryz.f73).code = D2 at d2 ⊢
 simp only [aA,Tryz.f73,KP,↓reduceIte,Nat.reduceEqDiff,Nat.reduceLT,Nat.reduceAdd,h.fM,cutAt]
 have gx:nC E (Y ++ [O.cells 46 [.bool x.1,.str x.2] true] ++ [O.cells 46 [.bool y.1,.str y.2] true]) gb m0 m1 sa ma b3 b4 es0 es1 A L3 L4:=(ga.app _).app _
 refine r1 gx (aP aN) aN _ ?_ ?_ ?_ _ _ (fun F1 τ1 hF1 ga1 hx1 hy1 kc1=>?_)
 ·simp +decide only [GS]
 ·simp +decide only [GS]
 ·simp +decide only [GS]
 have q0:F1.get 0 = .ref gb 0:=(hF1 0 (by simp)).trans (by simp +decide only [GS])
 have q4:F1.get 4 = .ref Y.length 0:=(hF1 4 (by simp)).trans (by simp +decide only [GS])
 have q5:F1.get 5 = .ref (Y ++ [O.cells 46 [.bool x.1,.str x.2] true]).length 0:=(hF1 5 (by simp)).trans (by simp +decide only [GS])
 have hg:=ga1.g
 have kc0:Lb.dL Y τ1:=(((dL.AP Y _).trans (dL.AP _ _)).trans kc1)
 generalize (Y ++ [O.cells 46 [.bool x.1,.str x.2] true]).length = n1 at *
 generalize Y.length = n0 at *
 rw [Wa]
 subst hD2
 simp only [aA,Tryz.f73,cutAt,Option.getD_some] at d2
 have lz:∀ (Z:Sg) (b:Nat),lenOf E Z 145 (.sl b 0 2 none) = some 2:=fun Z b=>by unfold lenOf; rw [h'.IZ]
 have d0:decide ((0:Int) < ((2:Nat):Int)) = true:=rfl
 have d1:decide ((1:Int) < ((2:Nat):Int)) = true:=rfl
 have d2':decide ((2:Int) < ((2:Nat):Int)) = false:=rfl
 have w1:wr .i64 1 = 1:=rfl
 have w2:wr .i64 2 = 2:=rfl
 simp only [aA,Tryz.f73,KP,Ax.loadAt,↓reduceIte,Nat.reduceEqDiff,Nat.reduceLT,Nat.reduceLeDiff,Nat.reduceAdd,Nat.reduceMul,reduceCtorEq,h.fM,lz,cutAt,bA d2,bX,h'.pW,h'.wH,h'.IZ,h'.sD,hg,hx1,hy1,q0,q4,q5,Ax.fill,Ax.placeOf,gK,Nat.zero_mul]
 have ga2:=ga1.app (O.cells 144 [.mp b3,.bool x.1,.str x.2,.bool y.1,.str y.2,.mp b4,.bool y.1,.str y.2,.bool x.1,.str x.2] true)
 have hb2:(τ1 ++ [O.cells 144 [.mp b3,.bool x.1,.str x.2,.bool y.1,.str y.2,.mp b4,.bool y.1,.str y.2,.bool x.1,.str x.2] true])[τ1.length]? = some (O.cells 144 [.mp b3,.bool x.1,.str x.2,.bool y.1,.str y.2,.mp b4,.bool y.1,.str y.2,.bool x.1,.str x.2] true):=aN
 have kc2:Lb.dL Y (τ1 ++ [O.cells 144 [.mp b3,.bool x.1,.str x.2,.bool y.1,.str y.2,.mp b4,.bool y.1,.str y.2,.bool x.1,.str x.2] true]):=kc0.trans (dL.AP _ _)
 generalize τ1 ++ [O.cells 144 [.mp b3,.bool x.1,.str x.2,.bool y.1,.str y.2,.mp b4,.bool y.1,.str y.2,.bool x.1,.str x.2] true] = τ2 at *
 generalize τ1.length = blk at *
 rw [aF]
 simp only [KP,↓reduceIte,Nat.reduceEqDiff,Nat.reduceLT,d0]
 refine rn _ ga2 hb2 hk3 _ ?_ ?_ _ _ (fun F3 τ3 L3' hF3 ga3 gr3 kc3=>?_)
 ·simp +decide only [GS]
 ·simp +decide only [GS]
 have q30:F3.get 30 = .sl blk 0 2 none:=(hF3 30 (by simp)).trans (by simp +decide only [GS])
 have q31:F3.get 31 = .int .i64 ((2:Nat):Int):=(hF3 31 (by simp)).trans (by simp +decide only [GS])
 have q32:F3.get 32 = .int .i64 0:=(hF3 32 (by simp)).trans (by simp +decide only [GS])
 simp only [KP,↓reduceIte,Nat.reduceLT,Int.reduceAdd,w1,q32]
 rw [aF]
 simp only [KP,↓reduceIte,Nat.reduceEqDiff,Nat.reduceLT,d1,q31]
 refine ru _ ga3 (kc3 _ _ _ _ hb2) hk4 _ ?_ ?_ _ _ (fun F4 τ4 L4' hF4 ga4 gr4 kc4=>?_)
 ·simp +decide only [GS,q30]
 ·simp +decide only [GS]
 have q31':F4.get 31 = .int .i64 ((2:Nat):Int):=(hF4 31 (by simp)).trans (by simp +decide only [GS,q31])
 have q32':F4.get 32 = .int .i64 1:=(hF4 32 (by simp)).trans (by simp +decide only [GS])
 simp only [KP,↓reduceIte,Nat.reduceLT,Int.reduceAdd,w2,q32']
 rw [aF]
 simp only [KP,↓reduceIte,Nat.reduceEqDiff,Nat.reduceLT,d2',q31']
 exact ⟨_,_,ga4,gr3,gr4,(kc2.trans kc3).trans kc4⟩
end
end
section
section
variable {E:Env} {Z:Sg} {K:V -> Sg -> Prop}
def dI (r:aG):List (aM × aM):=r.ins.map (fun f=>(((true,r.name):aM),((false,f):aM))) ++ r.outs.map (fun f=>(((false,f):aM),((true,r.name):aM)))
def gE (r:aG):aM:=(true,r.name)
structure uS (X:List aM) (P:List (aM × aM)) (A:List aM) (L3 L4:List c_):Prop where
 all:∀ x,x ∈ A ↔ x ∈ X \/ ∃ p ∈ P,x = p.1 \/ x = p.2
 need:∀ z w,w ∈ qI L3 z ↔ (z,w) ∈ P
 user:∀ z w,w ∈ qI L4 z ↔ (w,z) ∈ P
 Nv:A.length <= X.length + 2 * P.length
 Nw:∀ e ∈ L3,e.ks.length <= P.length
 PM:∀ e ∈ L4,e.ks.length <= P.length
theorem uS.nil:uS [] [] [] [] []:=⟨fun x=>by simp,fun z w=>by simp [qI,bN],fun z w=>by simp [qI,bN],Nat.le_refl _,(fun e he=>by cases he),(fun e he=>by cases he)⟩
theorem uS.link {X:List aM} {P:List (aM × aM)} {A:List aM} {L3 L4 L3' L4':List c_} {x y:aM} (h:uS X P A L3 L4) (g3:Grow L3 x y L3') (g4:Grow L4 y x L4'):uS X (P ++ [(x,y)]) (keys A [x,y]) L3' L4':=by
 refine ⟨fun z=>?_,fun z w=>?_,fun z w=>?_,?_,fun e he=>?_,fun e he=>?_⟩
 ·rw [mem_keys,h.all]
  constructor
  ·rintro ((h1 | ⟨p,hp,h1⟩) | h1)
   ·exact .inl h1
   ·exact .inr ⟨p,List.mem_append_left _ hp,h1⟩
   ·refine .inr ⟨(x,y),by simp,by simpa using h1⟩
  ·rintro (h1 | ⟨p,hp,h1⟩)
   ·exact .inl (.inl h1)
   ·rcases List.mem_append.1 hp with hp | hp
    ·exact .inl (.inr ⟨p,hp,h1⟩)
    ·rw [List.mem_singleton.1 hp] at h1
     exact .inr (by simpa using h1)
 ·rw [g3.mem,h.need,List.mem_append,List.mem_singleton]
  exact or_congr Iff.rfl ⟨fun q=>by rw [q.1,q.2],fun q=>⟨congrArg Prod.fst q,congrArg Prod.snd q⟩⟩
 ·rw [g4.mem,h.user,List.mem_append,List.mem_singleton]
  exact or_congr Iff.rfl ⟨fun q=>by rw [q.1,q.2],fun q=>⟨congrArg Prod.snd q,congrArg Prod.fst q⟩⟩
 ·have:=pD (xs:=[x,y]) (l:=A)
  have:=h.Nv
  simp only [List.length_append,List.length_cons,List.length_nil] at *
  omega
 ·rw [List.length_append]; exact g3.len _ h.Nw e he
 ·rw [List.length_append]; exact g4.len _ h.PM e he
theorem uS.rule {X:List aM} {P:List (aM × aM)} {A:List aM} {L3 L4:List c_} (x:aM) (h:uS X P A L3 L4):uS (X ++ [x]) P (keys A [x]) L3 L4:=by
 refine ⟨fun z=>?_,h.need,h.user,?_,h.Nw,h.PM⟩
 ·rw [mem_keys,h.all,List.mem_append]
  constructor
  ·rintro ((h1 | h1) | h1)
   ·exact .inl (.inl h1)
   ·exact .inr h1
   ·exact .inl (.inr h1)
  ·rintro ((h1 | h1) | h1)
   ·exact .inl (.inl h1)
   ·exact .inr h1
   ·exact .inl (.inr h1)
 ·have:=pD (xs:=[x]) (l:=A)
  have:=h.Nv
  simp only [List.length_append,List.length_cons,List.length_nil] at *
  omega
theorem KE (r:aG) (hs:Small r):(dI r).length <= 16:=by
 unfold dI
 rw [List.length_append,List.length_map,List.length_map]
 have:=hs.ins
 have:=hs.outs
 omega
theorem oM:∀ (rs:List aG),(∀ r ∈ rs,Small r) -> (rs.flatMap dI).length <= 16 * rs.length
 | [],_=>Nat.le_refl _
 | r :: rs,h=>by
  rw [List.flatMap_cons,List.length_append,List.length_cons]
  have:=KE r (h r (List.mem_cons_self ..))
  have:=oM rs fun q hq=>h q (List.mem_cons_of_mem _ hq)
  omega
def RM (es:List (V × V)) (rs:List aG):Prop:=eT (fun e r=>e.1 = V.str r.name /\ Rj e.2 r) es rs
theorem Rj.ok {v:V} {r:aG} (h:Rj v r):eX v = true:=by
 obtain ⟨a,b,c,d,rfl,h1,h2,h3,h4⟩:=h
 simp only [eX,List.all_cons,List.all_nil,aJ h1.is.bE,aJ h2.is.bE,aJ h3.is.bE,aJ h4.is.bE,Bool.and_true]
 rfl
theorem Kh (h:bM E) (h':sM E) {Y:Sg} {b:Nat} {es:List (V × V)} {rs:List aG} {r:aG} {v:V} (hb:Y[b]? = some (.map es)) (ha:RM es rs) (hn:∀ q ∈ rs,q.name ≠ r.name) (hv:Rj v r) :
  mapUpdate E Y 103 (.mp b) (.str r.name) v = some (Y.set b (.map (es ++ [(.str r.name,v)]))) /\ RM (es ++ [(.str r.name,v)]) (rs ++ [r]):=by
 refine ⟨?_,ha.append (.one ⟨rfl,hv⟩)⟩
 have hk:dU E 9 (.str r.name) = true:=by unfold dU; rw [h.cN]
 have hp:=BP h (k:=r.name) (v:=v) (es:=es) fun e he=>by
  obtain ⟨q,hq,h1,-⟩:=ha.mem he
  exact ⟨q.name,h1,hn q hq⟩
 unfold Ax.mapUpdate
 simp only [h'.L7,hk,hv.ok,hb,hp,Bool.not_true,Bool.or_self,Bool.false_eq_true,if_false,Option.map_some]
theorem DH {eq:V -> V -> Option Bool} {k v:V}:∀ {es es':List (V × V)},kF eq k v es = some es' -> ∀ e ∈ es',e ∈ es \/ e = (k,v)
 | [],es',h,e,he=>by
  cases h
  exact .inr (List.mem_singleton.1 he)
 | (k0,v0) :: r,es',h,e,he=>by
  unfold kF at h
  cases hq:eq k k0 with
  | none=>rw [hq] at h; cases h
  | some b=>
   rw [hq] at h
   cases b with
   | true=>
    cases h
    rcases List.mem_cons.1 he with h1 | h1
    ·exact .inr h1
    ·exact .inl (List.mem_cons_of_mem _ h1)
   | false=>
    dsimp only at h
    cases hr:kF eq k v r with
    | none=>rw [hr] at h; cases h
    | some r'=>
     rw [hr] at h
     cases h
     rcases List.mem_cons.1 he with h1 | h1
     ·exact .inl (by rw [h1]; exact List.mem_cons_self ..)
     ·exact (DH hr e h1).imp (List.mem_cons_of_mem _) id
def Dc (es:List (V × V)):Prop:=∀ e ∈ es,∃ n,e.2 = V.str n
theorem O2 (h:bM E) {Z:Sg} {b:Nat} {es:List (V × V)} {get:aZ -> Option V} (hb:Z[b]? = some (.map es)) (hs:SM E es get) (hv:Dc es) (k n:aZ):∃ es',mapUpdate E Z 104 (.mp b) (.str k) (.str n) = some (Z.set b (.map es')) /\ SM E es' (fun q=>if q = k then some (.str n) else get q) /\ Dc es':=by
 obtain ⟨es',h1,h2⟩:=Ex h (v:=.str n) k rfl hs
 have hk:dU E 9 (.str k) = true:=by unfold dU; rw [h.cN]
 refine ⟨es',?_,h2,fun e he=>?_⟩
 ·unfold Ax.mapUpdate
  simp only [h.zU,hk,hb,h1,eX,V.aX,Bool.not_true,Bool.or_self,Bool.false_eq_true,if_false,Option.map_some]
 ·rcases DH h1 e he with h3 | h3
  ·exact hv e h3
  ·exact ⟨n,by rw [h3]⟩
theorem E_ (h:bM E) (h':sM E) {s:aZ}:aB E 72 [.str s] Z K = K (.agg [.bool true,.str s]) Z:=by
 refine aB.of ?_
 rw [aH h'.hs72 h'.sp72 h'.fn72 h'.md72 (args':=[.str s]) (by simp only [aW,cV]),a_ (by kernel_rfl)]
 simp only [aA,Tryz.f72,KP,Ax.loadAt,Ax.storeAt,↓reduceIte,Nat.reduceEqDiff,Nat.reduceLT,Nat.reduceAdd,reduceCtorEq,h.AU,h.cN,h.fM,Ax.fill,Ax.placeOf]
 exact rfl
theorem P4 (h:bM E) (h':sM E) {s:aZ}:KC E 72 [.str s] Z (.agg [.bool true,.str s]) Z:=dO fun _=>E_ h h'
theorem QV (h:bM E) (h':sM E) {s:aZ}:aB E 74 [.str s] Z K = K (.agg [.bool false,.str s]) Z:=by
 refine aB.of ?_
 rw [aH h'.hs74 h'.sp74 h'.fn74 h'.md74 (args':=[.str s]) (by simp only [aW,cV]),a_ (by kernel_rfl)]
 simp only [aA,Tryz.f74,KP,Ax.loadAt,Ax.storeAt,↓reduceIte,Nat.reduceEqDiff,Nat.reduceLT,Nat.reduceAdd,reduceCtorEq,h.AU,h.cN,h.fM,Ax.fill,Ax.placeOf]
 exact rfl
theorem JJ (h:bM E) (h':sM E) {s:aZ}:KC E 74 [.str s] Z (.agg [.bool false,.str s]) Z:=dO fun _=>QV h h'
end
end
section
section
variable {E:Env} {Z:Sg} {K:V -> Sg -> Prop}
theorem Vq (h:bM E) (h':sM E) (hl:Lb.eM E) {Y:Sg} {gb m0 m1 sa ma b3 b4:Nat} {es0 es1:List (V × V)} {A:List aM} {L3 L4:List c_} (ga:nC E Y gb m0 m1 sa ma b3 b4 es0 es1 A L3 L4) {r:aG} {p1 p2 p3 p4:V} {y:Nat} (hy:Y[y]? = some (O.cells 37 [.str r.name,p1,p2,p3,p4] true)) (hA:A.length <= 1000000) (F:FT) (g5:F.get 5 = .ref gb 0) (g7:F.get 7 = .ref y 0) {st:List kH} {Q:Ax.X -> Fr -> Sg -> Prop}
  (hk:∀ F' τ',(∀ k,k ∈ [0,5,7,26,27,28] -> F'.get k = F.get k) -> nC E τ' gb m0 m1 sa ma b3 b4 es0 es1 (keys A [gE r]) L3 L4 -> Lb.dL Y τ' -> M E st .normal ⟨88,F'⟩ τ' Q):Ax.R E (.region 9 (opsOf (cutAt [1,1,1,0,1,2,2,1,1,0,2,1,1,0] (aA Tryz.f19).code)) true) st ⟨88,F⟩ Y Q:=by
 have ga1:=ga.app (O.cells 46 [.bool true,.str r.name] true)
 have hsv:Lb.SV (Y ++ [O.cells 46 [.bool true,.str r.name] true]) (.sl Y.length 0 1 none) [gE r]:=.inr (.inr ⟨Y.length,_,true,rfl,aN,rfl⟩)
 obtain ⟨n1,v1,τ2,⟨hr,hset,hkp⟩,c1⟩:=aB.up (Lb.G5 hl ga1.all hsv (show 1 <= 10000000000 by omega) (by omega))
 obtain ⟨n2,v2,ρ2,⟨e2,e2'⟩,c2⟩:=aB.up (show aB E 72 [.str r.name] Y fun v σ'=>v = .agg [.bool true,.str r.name] /\ σ' = Y by rw [E_ h h']; exact ⟨rfl,rfl⟩)
 obtain ⟨n3,v3,ρ3,⟨e3,e3'⟩,c3⟩:=aB.up (show aB E 72 [.str r.name] (Y ++ [O.cells 46 [.bool true,.str r.name] true]) fun v σ'=>v = .agg [.bool true,.str r.name] /\ σ' = Y ++ [O.cells 46 [.bool true,.str r.name] true] by rw [E_ h h']; exact ⟨rfl,rfl⟩)
 rw [e2,e2'] at c2
 rw [e3,e3'] at c3
 have c1:=c1 (n1 + n2 + n3) (by omega)
 have c2:=c2 (n1 + n2 + n3) (by omega)
 have c3:=c3 (n1 + n2 + n3) (by omega)
 generalize n1 + n2 + n3 = n at c1 c2 c3
 have ga2:=ga1.more hset hkp
 have hma:=ga1.all.map
 have ne:∀ {k:Nat} {t:Nat} {cs:List V} {ex:Bool},(Y ++ [O.cells 46 [.bool true,.str r.name] true])[k]? = some (.cells t cs ex) -> k ≠ ma:=fun hk e=>by
  rw [e,hma] at hk
  cases hk
 have g:=ga.g
 have g1:=ga1.g
 have vr:sL 12 (.ref sa 0) (.ref sa 0) = true:=by unfold sL; simp
 have key:∃ F',cI E (ev E n) (opsOf (cutAt [1,1,1,0,1,2,2,1,1,0,2,1,1,0] (aA Tryz.f19).code)) ⟨88,F⟩ Y = some (⟨88,F'⟩,τ2) /\ (∀ k,k ∈ [0,5,7,26,27,28] -> F'.get k = F.get k):=by
  unfold cI
  rw [h'.TQ,h'.Vm]
  simp only [aA,Tryz.f19,KP,Ax.loadAt,↓reduceIte,Nat.reduceEqDiff,Nat.reduceLT,Nat.reduceLeDiff,Nat.reduceAdd,Nat.reduceMul,reduceCtorEq,h.cN,h.bI,h.pV,h.fM,opsOf,cutAt,Fz.lits,iC,bK,bZ,kD,Ax.comp,Ax.last,iG,Ax.again,Ax.fill,gK,Nat.zero_mul,hl.sQ,h'.sD,g5,g7,hy,g,g1,c1,c2,vr]
  refine ⟨_,rfl,fun k hk=>?_⟩
  simp only [List.mem_cons,List.not_mem_nil,or_false] at hk
  rcases hk with rfl | rfl | rfl | rfl | rfl | rfl <;> simp +decide only [GS]
 obtain ⟨F',hD,hF⟩:=key
 exact Eq.mpr (iZ hD) (hk F' τ2 hF ga2 ((dL.AP Y _).trans (Lb.Kp.tI hkp hma)))
end
end
end Go.Proofs.YtlbbdpkjeeiahaaGreatDoor
end
