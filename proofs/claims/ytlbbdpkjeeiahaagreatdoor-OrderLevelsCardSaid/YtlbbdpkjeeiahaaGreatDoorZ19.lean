/- Part 19 of the proof. -/
import Derived.Test.YtlbbdpkjeeiahaaGreatDoorZ17
import Derived.Test.YtlbbdpkjeeiahaaGreatDoorZ18
import Derived.Test.YtlbbdpkjeeiahaaGreatDoorZ16
import Derived.Test.YtlbbdpkjeeiahaaGreatDoorZ15
set_option maxHeartbeats 8000000
set_option linter.unusedVariables false
set_option maxRecDepth 100000
open Nat (reduceEqDiff reduceLT)
open List (length_append take_of_length_le mem_append take_add_one flatten_append mem_of_getElem? nodup_append length_cons append_nil length_map mem_map)
open Int (reduceNeg)
section
namespace Go.Proofs.YtlbbdpkjeeiahaaGreatDoor
open Go Go.Ax Go.AxS
section
section
variable {E:Env} {Z:Sg} {K:V -> Sg -> Prop}
def mP (es:List (V × V)) (D ns:List aM):List aM:=ns.filter fun x=>!decide (x ∈ D) && (bA es x).all fun y=>decide (y ∈ D)
structure AM (es:List (V × V)) (ns:List aM) (o:List (List aM)):Prop where
 fr:∀ (d:Nat) (l:List aM),o[d]? = some l -> l.Perm (mP es (o.take d).flatten ns)
 ne:∀ l ∈ o,l ≠ []
theorem xA {es:List (V × V)} {D ns:List aM} {x:aM}:x ∈ mP es D ns ↔ x ∈ ns /\ x ∉ D /\ ∀ y ∈ bA es x,y ∈ D:=by
 unfold mP
 rw [List.mem_filter,Bool.and_eq_true,Bool.not_eq_true',decide_eq_false_iff_not,List.all_eq_true]
 simp only [decide_eq_true_eq]
theorem AM.nil {es:List (V × V)} {ns:List aM}:AM es ns []:=⟨fun d l h=>by simp at h,fun l h=>by cases h⟩
theorem AM.snoc {es:List (V × V)} {ns:List aM} {o:List (List aM)} (h:AM es ns o) {l:List aM} (hp:l.Perm (mP es o.flatten ns)) (hl:l ≠ []):AM es ns (o ++ [l]):=by
 refine ⟨fun d m hm=>?_,fun m hm=>?_⟩
 ·by_cases hd:d < o.length
  ·rw [List.getElem?_append_left hd] at hm
   rw [List.take_append_of_le_length (by omega)]
   exact h.fr d m hm
  ·have hde:d = o.length:=by
    have:=(List.getElem?_eq_some_iff.1 hm).1
    rw [length_append,List.length_singleton] at this
    omega
   subst hde
   rw [List.getElem?_append_right (Nat.le_refl _),Nat.sub_self] at hm
   cases hm
   rw [List.take_append_of_le_length (Nat.le_refl _),take_of_length_le (Nat.le_refl _)]
   exact hp
 ·rcases mem_append.1 hm with hm | hm
  ·exact h.ne m hm
  ·rw [List.mem_singleton.1 hm]; exact hl
theorem pN {o:List (List aM)} {d:Nat} {l:List aM} (h:o[d]? = some l):(o.take (d + 1)).flatten = (o.take d).flatten ++ l:=by
 rw [take_add_one,h,flatten_append]
 simp
theorem Jq {o:List (List aM)} {d:Nat} {x:aM} (h:x ∈ (o.take d).flatten):∃ e l,e < d /\ o[e]? = some l /\ x ∈ l:=by
 obtain ⟨l,hl,hx⟩:=List.mem_flatten.1 h
 obtain ⟨e,he⟩:=List.mem_iff_getElem?.1 hl
 have hed:e < d:=by have:=(List.getElem?_eq_some_iff.1 he).1; rw [List.length_take] at this; omega
 rw [List.getElem?_take_of_lt hed] at he
 exact ⟨e,l,hed,he,hx⟩
theorem Iv {o:List (List aM)} {d e:Nat} {l:List aM} {x:aM} (hed:e < d) (he:o[e]? = some l) (hx:x ∈ l):x ∈ (o.take d).flatten:=
 List.mem_flatten.2 ⟨l,mem_of_getElem? (i:=e) (by rw [List.getElem?_take_of_lt hed]; exact he),hx⟩
theorem AM.sub {es:List (V × V)} {ns:List aM} {o:List (List aM)} (h:AM es ns o) {d:Nat} {l:List aM} (hl:o[d]? = some l):∀ x ∈ l,x ∈ ns /\ x ∉ (o.take d).flatten /\ ∀ y ∈ bA es x,y ∈ (o.take d).flatten:=fun x hx=>
 xA.1 ((h.fr d l hl).mem_iff.1 hx)
theorem AM.nodup {es:List (V × V)} {ns:List aM} {o:List (List aM)} (h:AM es ns o) (hn:ns.Nodup):∀ d,d <= o.length -> (o.take d).flatten.Nodup
 | 0,_=>List.nodup_nil
 | d + 1,hd=>by
  obtain ⟨l,hl⟩:∃ l,o[d]? = some l:=⟨_,List.getElem?_eq_getElem (show d < o.length by omega)⟩
  rw [pN hl,nodup_append]
  refine ⟨h.nodup hn d (by omega),(h.fr d l hl).nodup_iff.2 (hn.sublist (List.filter_sublist ..)),fun x hx y hy e=>(h.sub hl y hy).2.1 ?_⟩
  rw [<- e]; exact hx
theorem AM.all {es:List (V × V)} {ns:List aM} {o:List (List aM)} (h:AM es ns o) (hn:ns.Nodup):o.flatten.Nodup /\ ∀ x ∈ o.flatten,x ∈ ns:=by
 refine ⟨?_,fun x hx=>?_⟩
 ·have:=h.nodup hn o.length (Nat.le_refl _)
  rwa [take_of_length_le (Nat.le_refl _)] at this
 ·rw [<- take_of_length_le (l:=o) (Nat.le_refl o.length)] at hx
  obtain ⟨e,l,-,he,hxl⟩:=Jq hx
  exact (h.sub he x hxl).1
theorem AM.one {es:List (V × V)} {ns:List aM} {o:List (List aM)} (h:AM es ns o) {d e:Nat} {l m:List aM} {x:aM} (hl:o[d]? = some l) (hm:o[e]? = some m) (hx:x ∈ l) (hy:x ∈ m):d = e:=by
 rcases Nat.lt_trichotomy d e with hd | hd | hd
 ·exact absurd (Iv hd hl hx) (h.sub hm x hy).2.1
 ·exact hd
 ·exact absurd (Iv hd hm hy) (h.sub hl x hx).2.1
theorem AM.ahead {es:List (V × V)} {ns:List aM} {o:List (List aM)} (h:AM es ns o) {d e:Nat} {l m:List aM} {x y:aM} (hl:o[d]? = some l) (hx:x ∈ l) (hy:y ∈ bA es x) (hm:o[e]? = some m) (hym:y ∈ m):e < d:=by
 obtain ⟨e',m',hlt,he',hy'⟩:=Jq ((h.sub hl x hx).2.2 y hy)
 rw [h.one hm he' hym hy']
 exact hlt
theorem AM.just {es:List (V × V)} {ns:List aM} {o:List (List aM)} (h:AM es ns o) {d:Nat} {l m:List aM} {x:aM} (hl:o[d + 1]? = some l) (hx:x ∈ l) (hm:o[d]? = some m):∃ y ∈ bA es x,y ∈ m:=by
 obtain ⟨h1,h2,h3⟩:=h.sub hl x hx
 refine Classical.byContradiction fun hno=>h2 ?_
 rw [pN hm] at h2 h3 ⊢
 refine mem_append.2 (.inr ((h.fr d m hm).mem_iff.2 (xA.2 ⟨h1,fun hd=>h2 (mem_append.2 (.inl hd)),fun y hy=>?_⟩)))
 exact (mem_append.1 (h3 y hy)).resolve_right fun hym=>hno ⟨y,hy,hym⟩
theorem PI {rs:List aF} {es:List (V × V)} (hr:eU rs) (hn:NM rs es) {D:List aM} (hlt:D.length < rs.length):mP es D (rs.map aF.name) ≠ []:=by
 obtain ⟨j,hj⟩:=My hr hn (o:=D) (List.Perm.refl _) hlt
 obtain ⟨x,hx,hP⟩:=gL hj
 intro e
 have:x ∈ mP es D (rs.map aF.name):=List.mem_filter.2 ⟨mem_of_getElem? hx,hP⟩
 rw [e] at this
 cases this
theorem KK {es:List (V × V)} {D ns:List aM} {i:Nat} {x:aM} (hx:ns[i]? = some x):mP es D (ns.take (i + 1)) = mP es D (ns.take i) ++ if (!decide (x ∈ D) && (bA es x).all fun y=>decide (y ∈ D)) = true then [x] else []:=by
 unfold mP
 rw [take_add_one,hx,List.filter_append]
 by_cases hp:(!decide (x ∈ D) && (bA es x).all fun y=>decide (y ∈ D)) = true
 ·rw [if_pos hp]
  simp only [Option.toList_some,List.filter_cons,List.filter_nil,hp,if_true]
 ·rw [if_neg hp]
  simp only [Option.toList_some,List.filter_cons,List.filter_nil,hp,Bool.false_eq_true,if_false]
theorem FP {f:V -> V -> Option Bool} {k v:V}:∀ {es es':List (V × V)},iX f k es = some none -> jI f k v es = some es' -> es'.length = es.length + 1
 | [],_,_,h2=>by cases h2; rfl
 | (k',v') :: r,es',h1,h2=>by
  rw [iX] at h1
  rw [jI] at h2
  cases hf:f k k' with
  | none=>rw [hf] at h1; cases h1
  | some b=>
   rw [hf] at h1 h2
   cases b with
   | true=>cases h1
   | false=>
    dsimp only at h1 h2
    cases hp:jI f k v r with
    | none=>rw [hp] at h2; cases h2
    | some r'=>
     rw [hp] at h2
     cases h2
     rw [length_cons,length_cons,FP h1 hp]
def SN (E:Env) (es:List (V × V)) (D:List aM):Prop:=SB E es (fun x=>decide (x ∈ D)) /\ es.length = D.length
theorem Re (h:bM E) {Z:Sg} {b:Nat} {es:List (V × V)} {D:List aM} (hb:Z[b]? = some (.map es)) (hs:SN E es D) {k:aM} (hk:k ∉ D):∃ es',mapUpdate E Z 98 (.mp b) (.str k) (.bool true) = some (Z.set b (.map es')) /\ SN E es' (D ++ [k]):=by
 obtain ⟨es',h1,h2⟩:=Mf h hs.1 k
 have hko:dM E 9 (.str k) = true:=by unfold dM; rw [h.cK]
 refine ⟨es',?_,h2.congr fun x=>?_,?_⟩
 ·unfold Ax.mapUpdate
  simp only [h.qN,hko,hb,h1,eR,V.aW,Bool.not_true,Bool.or_self,Bool.false_eq_true,if_false,Option.map_some]
 ·rw [Bool.eq_iff_iff]; simp
 ·have hf:iX (eX E 9) (.str k) es = some none:=(hs.1.2 k).trans (by
   show some (if decide (k ∈ D) = true then some (V.bool true) else none) = some none
   rw [decide_eq_false hk]; rfl)
  rw [FP hf h1,hs.2,length_append,List.length_singleton]
end
end
section
section
variable {E:Env} {Z:Sg} {K:V -> Sg -> Prop}
def CX (t:Nat) (Z:Sg) (w:V) (vs:List V):Prop:=(w = .aC /\ vs = []) \/ ∃ b ex,w = .sl b 0 vs.length none /\ Z[b]? = some (.cells t vs ex)
theorem CX.keep {t:Nat} {Z σ':Sg} {w:V} {vs:List V} (h:CX t Z w vs) (k:∀ c o,aT w = some c -> Z[c]? = some o -> σ'[c]? = some o):CX t σ' w vs:=by
 rcases h with h | ⟨b,ex,rfl,hb⟩
 ·exact .inl h
 ·exact .inr ⟨b,ex,rfl,k b _ rfl hb⟩
theorem QD {si ei:Ty} {ts t:Nat} {ats:Array Nat} {w x u:V} {vs:List V} (hts:E.ty ts = some si) (hk:si.kd = .sl t) (ht:E.ty t = some ei) (hn:ei.size = 1) (hpl:gY E ats = true) (hats:ats[0]? = some ts) (h:CX t Z w vs)
  (hx:elems Z 1 x = some ([u],1)) (hr:roomy (vs.length + 1) ei.bytes = true) :
  ∃ w' σ',append E Z ats w x = some (w',σ') /\ CX t σ' w' (vs ++ [u]) /\ Sp Z σ' w /\ Z.length <= σ'.length:=by
 obtain ⟨kd,size,bytes,zero⟩:=si
 replace hk:kd = .sl t:=hk
 subst hk
 have hne:(ei.size == 0) = false:=by rw [hn]; rfl
 have hr2:nV 1 ei.bytes = true:=yI hr (by omega)
 have hx:elems Z ei.size x = some ([u],1):=by rw [hn]; exact hx
 unfold append
 simp only [hats,hts,ht,hpl,hne,hx,Bool.not_true,Bool.or_self,Bool.false_eq_true,if_false]
 rcases h with ⟨rfl,rfl⟩ | ⟨b,ex,rfl,hbk⟩
 ·simp only [Nat.one_ne_zero,if_false,hr2,if_true]
  refine ⟨_,_,rfl,.inr ⟨Z.length,false,rfl,by simp⟩,fun c o e _=>?_,by simp⟩
  rw [List.getElem?_append_left (List.getElem?_eq_some_iff.1 e).1]; exact e
 ·have hlt:=(List.getElem?_eq_some_iff.1 hbk).1
  have hform:(t == t && decide (vs.length * ei.size <= vs.length) && roomy (vs.length + 1) ei.bytes) = true:=by
   rw [hr,hn]; simp
  have hbig:¬ (vs.length + 1) * ei.size <= vs.length:=by rw [hn]; omega
  have htk:vs.take (vs.length * ei.size) = vs:=take_of_length_le (by rw [hn]; omega)
  simp only [hbk,Nat.zero_add,hform,Bool.not_true,Bool.false_eq_true,if_false,hbig,if_true,htk,List.drop_zero]
  cases ex with
  | true=>
   refine ⟨_,_,rfl,.inr ⟨Z.length,false,by simp,by simp⟩,fun c o e _=>?_,by simp⟩
   rw [List.getElem?_append_left (List.getElem?_eq_some_iff.1 e).1]; exact e
  | false=>
   refine ⟨_,_,rfl,.inr ⟨Z.length,false,by simp,by simp⟩,fun c o e hne=>?_,by simp⟩
   have hc:=(List.getElem?_eq_some_iff.1 e).1
   rw [List.getElem?_append_left (by simpa using hc),List.getElem?_set_ne (fun e2=>hne (by rw [e2]; rfl))]; exact e
theorem Nn {u:V} {ex:Bool} {Y:Sg} {t:Nat}:elems (Y ++ [.cells t [u] ex]) 1 (.sl Y.length 0 1 none) = some ([u],1):=by
 simp only [elems,aR]
 rfl
theorem FD (h:bM E):gY E #[30,30] = true:=by
 unfold gY
 simp only [h.CK,List.getElem?_toArray,List.getElem?_cons_succ,List.getElem?_cons_zero]
 rfl
theorem PU {u:V} (ho:u.aW = true) (hc:u.cells = [u]):Ax.fill (fun j=>some (j * 1,1)) (gR 1 [V.aC]) [(0,u)] = some [u]:=by
 unfold Ax.fill
 simp only [hc]
 simp only [List.all_cons,List.all_nil,ho]
 rfl
def Q6 (Y:Sg) (w:V) (o:List (List aM)):Prop:=∃ us,CX 28 Y w us /\ eN (fun u l=>bH aJ 9 Y u l) us o
def jA (N:Nat) (Y τ':Sg):Prop:=∀ (c:Nat) (o:O),c < N -> c ≠ 0 -> Y[c]? = some o -> τ'[c]? = some o
theorem jA.refl (N:Nat) (Y:Sg):jA N Y Y:=fun _ _ _ _ h=>h
theorem jA.trans {N:Nat} {Y τ' τ'':Sg} (h:jA N Y τ') (h2:jA N τ' τ''):jA N Y τ'':=fun c o hc h0 e=>h2 c o hc h0 (h c o hc h0 e)
theorem jA.app (N:Nat) (Y:Sg) (y:O):jA N Y (Y ++ [y]):=fun c o _ _ e=>aL e
theorem jA.sp {N:Nat} {Y τ':Sg} {w:V} (h:Sp Y τ' w) (hw:∀ b,aT w = some b -> N <= b):jA N Y τ':=fun c o hc _ e=>h c o e fun e2=>by have:=hw c e2; omega
theorem Q6.keep {Y τ':Sg} {w:V} {o:List (List aM)} {m:List (V × V)} (h:Q6 Y w o) (h0:Y[0]? = some (.map m)) (k:jA Y.length Y τ'):Q6 τ' w o:=by
 obtain ⟨us,h1,h2⟩:=h
 refine ⟨us,h1.keep fun c y hc e=>k c y (List.getElem?_eq_some_iff.1 e).1 (fun e0=>?_) e,?_⟩
 ·subst e0
  rcases h1 with ⟨rfl,-⟩ | ⟨b,ex,rfl,hb⟩
  ·cases hc
  ·cases hc
   rw [h0] at hb
   cases hb
 ·clear h1
  induction h2 with
  | nil=>exact .nil
  | cons p _ ih=>
   refine .cons (p.keep fun c y hc e=>k c y (List.getElem?_eq_some_iff.1 e).1 (fun e0=>?_) e) ih
   subst e0
   exact Em h0 p hc
structure qI (E:Env) (Y:Sg) (D:List aM):Prop where
 b1:Y[1]? = some (.cells 98 [.mp 0] true)
 b0:∃ e1,Y[0]? = some (.map e1) /\ SN E e1 D
theorem qI.app {Y:Sg} {D:List aM} (h:qI E Y D) (y:O):qI E (Y ++ [y]) D:=by
 obtain ⟨e1,h1,h2⟩:=h.b0
 exact ⟨aL h.b1,e1,aL h1,h2⟩
theorem qI.sp {Y τ':Sg} {D:List aM} {w:V} {l:List aM} (h:qI E Y D) (ow:bH aJ 9 Y w l) (sp:Sp Y τ' w):qI E τ' D:=by
 obtain ⟨e1,h1,h2⟩:=h.b0
 exact ⟨sp _ _ h.b1 (j_ h.b1 (by decide) ow),e1,sp _ _ h1 (Em h1 ow),h2⟩
theorem J4 (h:bM E) {Y:Sg} {e1:List (V × V)} {p:aM -> Bool} {f:Nat} (b1:Y[1]? = some (.cells 98 [.mp 0] true)) (b0:Y[0]? = some (.map e1)) (hs:SB E e1 p) :
  aZ Y E.ty true (.fn f [] [.ref 1 0]) = some (.fn f [] [.dB true [.imp true e1]]):=by
 have h1:=OW (E:=E) b1 (cs':=[.imp true e1]) (by simp only [aX,C_ (m:=9) h b0 hs,show cH true (V.imp true e1) = true from rfl,if_true])
 simp only [aZ,aX,h1]
theorem b_L1 (h:bM E) (h':S6 E) {es:List (V × V)} {p:aM -> Bool} {y:aM} {g g2:Bool} (hs:SB E es p):aB E 69 [.str y,.dB g [.imp g2 es]] [] K = K (.bool (!p y)) []:=by
 refine aB.of ?_
 have hi:Ax.bB (.dB g [.imp g2 es]) = true:=rfl
 have ew:=eZ (Z:=[]) (ty:=E.ty) hi (dG hi)
 rw [aH h'.hs69 h'.sp69 h'.fn69 h'.md69 (args':=[.str y,.dB g [.imp g2 es]]) (by simp only [aX,cL,ew]),bD (by kernel_rfl)]
 have hl:=fun Z=>xD (Z:=Z) (x:=.imp g2 es) h rfl hs y
 simp only [aA,Tryz.f69,KP,Ax.loadAt,↓reduceIte,reduceEqDiff,reduceLT,Nat.reduceAdd,reduceCtorEq,h.qN,hl]
 exact rfl
theorem Pa (h:bM E) (h':S6 E) {a:V} {rs:List aF} {es:List (V × V)} (ia:IS cV a rs) (hb:lP es = true) (hnd:(es.map ks).Nodup) (h40:rs.length <= 40) {D:List aM} {τ0:Sg} (tm:qI E τ0 D) (F:FT) (g0:F.get 0 = a) (g5:F.get 5 = .imp false es) (g6:F.get 6 = .ref 1 0) (g8:F.get 8 = .aC) {w:V} (g7:F.get 7 = w) {st:List kY} {Q:Ax.X -> Fr -> Sg -> Prop}
  (hk:∀ F' τ' w8,F'.get 0 = a -> F'.get 5 = .imp false es -> F'.get 6 = .ref 1 0 -> F'.get 7 = w -> F'.get 8 = w8 -> qI E τ' D -> bH aJ 9 τ' w8 (mP es D (rs.map aF.name)) -> (∀ b,aT w8 = some b -> τ0.length <= b) -> jA τ0.length τ0 τ' -> τ0.length <= τ'.length -> M E st .normal ⟨72,F'⟩ τ' Q) :
  R E (cutAt [1,1,1,1,1,0,2,2,1,2,1,0] (aA Tryz.f15).code) st ⟨72,F⟩ τ0 Q:=by
 have la:=cA h ia
 simp only [aA,Tryz.f15,KP,↓reduceIte,reduceLT,cutAt,g0,la]
 refine aQ (fun i F Y=>F.get 0 = a /\ F.get 5 = .imp false es /\ F.get 6 = .ref 1 0 /\ F.get 7 = w /\ F.get 29 = a /\ F.get 30 = .int .i64 (rs.length:Int) /\ F.get 31 = .int .i64 (i:Int) /\ qI E Y D /\ jA τ0.length τ0 Y /\ τ0.length <= Y.length /\ ∃ w8,F.get 8 = w8 /\ bH aJ 9 Y w8 (mP es D ((rs.map aF.name).take i)) /\ ∀ b,aT w8 = some b -> τ0.length <= b) rs.length ?_ ?_ rs.length 0 _ _ (by omega) (uU (by simp +decide only [GS,g0,g5,g6,g7,and_self]) ⟨tm,jA.refl _ _,Nat.le_refl _,.aC,(by simp +decide only [GS,g8]),.inl ⟨rfl,rfl⟩,fun b hb=>by cases hb⟩)
 ·rintro i F Y hi ⟨g0,g5,g6,g7,g29,g30,g31,tm,kn,hle,w8,g8,ow,hfr⟩ next
  obtain ⟨r,hri⟩:∃ y,rs[i]? = some y:=⟨_,List.getElem?_eq_getElem hi⟩
  obtain ⟨g,p1,p2,p3,p4,e1,i1,i2,i3,i4⟩:=eM h ia hri
  have o1:=aI i1.bB
  have o2:=aI i2.bB
  have o3:=aI i3.bB
  have o4:=aI i4.bB
  have hlt:=dR hi
  have hadd:=bU i (by omega)
  have hnm:(rs.map aF.name)[i]? = some r.name:=by rw [List.getElem?_map,hri]; rfl
  have hft:=KK (es:=es) (D:=D) hnm
  have s1:(Y ++ [O.cells 37 [.str r.name,p1,p2,p3,p4] true])[Y.length]? = some (O.cells 37 [.str r.name,p1,p2,p3,p4] true):=aR
  have ow1:=ow.app [O.cells 37 [.str r.name,p1,p2,p3,p4] true]
  have tm1:=tm.app (O.cells 37 [.str r.name,p1,p2,p3,p4] true)
  have kn1:=kn.trans (jA.app τ0.length Y (O.cells 37 [.str r.name,p1,p2,p3,p4] true))
  have hle1:τ0.length <= (Y ++ [O.cells 37 [.str r.name,p1,p2,p3,p4] true]).length:=by rw [length_append]; omega
  rw [aG]
  simp only [KP,Ax.loadAt,Ax.storeAt,↓reduceIte,reduceEqDiff,reduceLT,Nat.reduceAdd,reduceCtorEq,h.cK,h.bE,g5,g29,g30,g31,hlt,e1,o1,o2,o3,o4,aR,cU]
  generalize Y ++ [O.cells 37 [.str r.name,p1,p2,p3,p4] true] = τ1 at *
  generalize Y.length = y at *
  obtain ⟨m1,hm,hs⟩:=tm1.b0
  have b1:=tm1.b1
  have ef:=J4 (f:=69) h b1 hm hs.1
  have iv:=Lv (kQ hb) r.name
  have hl1:=fun (Z:Sg) (g:Bool)=>HH (Z:=Z) (g:=g) h (kQ hb) r.name
  have hl2:=xD (Z:=τ1) (x:=.mp 0) h (es:=m1) (by unfold entriesOf; simp only [hm]) hs.1 r.name
  have kf:=dA (fun K=>oM (Z:=τ1) (K:=K) (k:=69) (caps:=[.dB true [.imp true m1]]) (P:=fun y=>!decide (y ∈ D)) h (iv.ls τ1 9) (MD hb hnd r.name) (fun c hc=>by cases hc with | head=>rfl | tail _ hc=>cases hc) (fun y v hy hv=>by
   subst hv
   show aB E 69 [.str y,.dB true [.imp true m1]] [] _
   rw [b_L1 h h' hs.1]; exact ⟨rfl,rfl⟩) ef)
  have b1l:loadAt E τ1 98 (.ref 1 0) = some (.mp 0):=by unfold Ax.loadAt; simp only [h.qN,b1]; rfl
  have l9:loadAt E τ1 9 (.ref y 0) = some (.str r.name):=by unfold Ax.loadAt; simp only [h.cK,s1]; rfl
  rw [<- List.not_all_eq_any_not] at kf
  cases hD:decide (r.name ∈ D) with
  | true=>
   rw [hD] at hl2
   rw [hD,Bool.not_true,Bool.false_and,if_neg (by decide),append_nil] at hft
   simp only [KP,↓reduceIte,reduceEqDiff,reduceLT,reduceCtorEq,h.cK,h.bE,g6,g31,hl1,hl2,kf,b1l,l9,hadd]
   refine next _ _ (uU (by simp +decide only [GS,g0,g5,g6,g7,g29,g30,and_self]) ⟨tm1,kn1,hle1,w8,(by simp +decide only [GS,g8]),by rw [hft]; exact ow1,hfr⟩)
  | false=>
   rw [hD] at hl2
   rw [hD,Bool.not_false,Bool.true_and] at hft
   cases hA:(bA es r.name).all fun y=>decide (y ∈ D) with
   | false=>
    rw [hA,if_neg (by decide),append_nil] at hft
    rw [hA] at kf
    simp only [KP,↓reduceIte,reduceEqDiff,reduceLT,reduceCtorEq,h.cK,h.bE,g6,g31,hl1,hl2,kf,b1l,l9,hadd]
    refine next _ _ (uU (by simp +decide only [GS,g0,g5,g6,g7,g29,g30,and_self]) ⟨tm1,kn1,hle1,w8,(by simp +decide only [GS,g8]),by rw [hft]; exact ow1,hfr⟩)
   | true=>
    rw [hA,if_pos rfl] at hft
    rw [hA] at kf
    have hl8:(mP es D ((rs.map aF.name).take i)).length <= 40:=Nat.le_trans (List.length_filter_le ..) (by rw [List.length_take,length_map]; omega)
    obtain ⟨w',τ',hap,ow',sp',hle',fr'⟩:=i_ (ats:=#[28,28]) (m:=[r.name]) (new:=[[.str r.name]]) h.aS rfl h.cK rfl (by decide) (gI h) rfl (ow1.app [.cells 9 [.str r.name] true]) (jT rfl) (.one rfl) (dX (b:=1000) (by decide) (by simp only [length_cons,List.length_nil]; omega))
    simp only [KP,↓reduceIte,reduceEqDiff,reduceLT,Nat.reduceLeDiff,Nat.reduceMul,reduceCtorEq,h.cK,h.aS,h.bE,g6,g8,g31,hl1,hl2,kf,b1l,l9,hadd,iM,hap]
    refine next _ _ (uU (by simp +decide only [GS,g0,g5,g6,g7,g29,g30,and_self]) ⟨(tm1.app (.cells 9 [.str r.name] true)).sp (ow1.app [.cells 9 [.str r.name] true]) sp',(kn1.trans (jA.app _ _ _)).trans (jA.sp sp' hfr),Nat.le_trans hle1 (Nat.le_trans (by rw [length_append]; omega) hle'),w',(by simp +decide only [GS]),by rw [hft]; exact ow',fun b hb=>(fr' b hb).elim (hfr b) fun hg=>by rw [length_append] at hg; omega⟩)
 ·rintro F Y ⟨g0,g5,g6,g7,g29,g30,g31,tm,kn,hle,w8,g8,ow,hfr⟩
  rw [take_of_length_le (by rw [length_map]; exact Nat.le_refl _)] at ow
  have hlt:=dS (Nat.lt_irrefl rs.length)
  rw [aG]
  simp only [KP,↓reduceIte,reduceLT,g30,g31,hlt]
  exact hk _ _ w8 (by simp +decide only [GS,g0]) (by simp +decide only [GS,g5]) (by simp +decide only [GS,g6]) (by simp +decide only [GS,g7]) (by simp +decide only [GS,g8]) tm ow hfr kn hle
end
end
section
section
variable {E:Env} {Z:Sg} {K:V -> Sg -> Prop}
theorem jA.weak {N M:Nat} {Y τ':Sg} (h:jA M Y τ') (hm:N <= M):jA N Y τ':=fun c o hc h0 e=>h c o (Nat.lt_of_lt_of_le hc hm) h0 e
theorem MC {D l:List aM} (h:(D ++ l).Nodup) {j:Nat} {x:aM} (hx:l[j]? = some x):x ∉ D ++ l.take j:=by
 have e:D ++ l = (D ++ l.take j) ++ (x :: l.drop (j + 1)):=by
  obtain ⟨hj,rfl⟩:=List.getElem?_eq_some_iff.1 hx
  rw [List.append_assoc,<- List.drop_eq_getElem_cons hj,List.take_append_drop]
 rw [e,nodup_append] at h
 exact fun hm=>h.2.2 x hm x (List.mem_cons_self ..) rfl
theorem O8 (h:bM E) (h':S6 E) {D l:List aM} {w8:V} {τ0:Sg} (tm:qI E τ0 D) (ow:bH aJ 9 τ0 w8 l) (hnd:(D ++ l).Nodup) (h40:l.length <= 40) (F:FT) {a x5 w:V} (g0:F.get 0 = a) (g5:F.get 5 = x5) (g6:F.get 6 = .ref 1 0) (g7:F.get 7 = w) (g8:F.get 8 = w8) {st:List kY} {Q:Ax.X -> Fr -> Sg -> Prop}
  (hk:∀ F' τ',F'.get 0 = a -> F'.get 5 = x5 -> F'.get 6 = .ref 1 0 -> F'.get 7 = w -> F'.get 8 = w8 -> qI E τ' (D ++ l) -> bH aJ 9 τ' w8 l -> jA τ0.length τ0 τ' -> τ'.length = τ0.length -> M E st .normal ⟨72,F'⟩ τ' Q) :
  R E (cutAt [1,1,1,1,1,0,2,2,1,2,1,1,0] (aA Tryz.f15).code) st ⟨72,F⟩ τ0 Q:=by
 have lw:=pI h.aS rfl ow.ls
 simp only [aA,Tryz.f15,KP,↓reduceIte,reduceLT,cutAt,g8,lw]
 refine aQ (fun j F Y=>F.get 0 = a /\ F.get 5 = x5 /\ F.get 6 = .ref 1 0 /\ F.get 7 = w /\ F.get 8 = w8 /\ F.get 56 = w8 /\ F.get 57 = .int .i64 (l.length:Int) /\ F.get 58 = .int .i64 (j:Int) /\ qI E Y (D ++ l.take j) /\ bH aJ 9 Y w8 l /\ jA τ0.length τ0 Y /\ Y.length = τ0.length) l.length ?_ ?_ l.length 0 _ _ (by omega) (QX (by simp +decide only [GS,g0,g5,g6,g7,g8,and_self]) ⟨by rw [List.take_zero,append_nil]; exact tm,ow,jA.refl _ _,rfl⟩)
 ·rintro j F Y hj ⟨g0,g5,g6,g7,g8,g56,g57,g58,tm,ow,kn,hln⟩ next
  obtain ⟨x,hx⟩:∃ y,l[j]? = some y:=⟨_,List.getElem?_eq_getElem hj⟩
  have hxn:=MC hnd hx
  obtain ⟨m1,hm,hs⟩:=tm.b0
  have b1:=tm.b1
  obtain ⟨m2,hu,hs2⟩:=Re h hm hs hxn
  obtain ⟨p,r,f1,f2,-,f3,-⟩:=DQ (Z:=Y) h.aS rfl h.cK rfl ow.ls hx
  have f3:=f3 rfl (by decide)
  rw [show r = [.str x] from f2] at f3
  have f3:loadAt E Y 9 p = some (.str x):=f3
  have b1l:loadAt E Y 98 (.ref 1 0) = some (.mp 0):=by unfold Ax.loadAt; simp only [h.qN,b1]; rfl
  have hlt:=dR hj
  have hadd:=bU j (by omega)
  rw [aG]
  simp only [KP,↓reduceIte,reduceEqDiff,reduceLT,g6,g56,g57,g58,hlt,f1,f3,b1l,hu,hadd]
  have hm0:=(List.getElem?_eq_some_iff.1 hm).1
  refine next _ _ (QX (by simp +decide only [GS,g0,g5,g6,g7,g8,g56,g57,and_self]) ⟨⟨by rw [List.getElem?_set_ne (by decide)]; exact b1,m2,by rw [List.getElem?_set_self hm0],?_⟩,bH.set ow (Em hm ow),fun c o hc h0 e=>by rw [List.getElem?_set_ne (Ne.symm h0)]; exact kn c o hc h0 e,by rw [List.length_set]; exact hln⟩)
  rw [take_add_one,hx,<- List.append_assoc]
  exact hs2
 ·rintro F Y ⟨g0,g5,g6,g7,g8,g56,g57,g58,tm,ow,kn,hln⟩
  rw [take_of_length_le (Nat.le_refl _)] at tm
  have hlt:=dS (Nat.lt_irrefl l.length)
  rw [aG]
  simp only [KP,↓reduceIte,reduceLT,g57,g58,hlt]
  exact hk _ _ (by simp +decide only [GS,g0]) (by simp +decide only [GS,g5]) (by simp +decide only [GS,g6]) (by simp +decide only [GS,g7]) (by simp +decide only [GS,g8]) tm ow kn hln
theorem OU {Y:Sg} {w u:V} {us:List V} {l:List aM} (h:CX 28 Y w us) (ow:bH aJ 9 Y u l) {b:Nat} (hb:aT u = some b):aT w ≠ some b:=by
 rcases ow with ⟨rfl,-⟩ | ⟨c,rs,ex,rfl,hc,-⟩
 ·cases hb
 ·cases hb
  rcases h with ⟨rfl,-⟩ | ⟨b',ex',rfl,hb'⟩
  ·intro e; cases e
  ·intro e
   cases e
   rw [hc] at hb'
   cases hb'
theorem I5 {Y:Sg} {w:V} {us:List V} (h:CX 28 Y w us) {c:Nat} {o:O} (hc:Y[c]? = some o) (ho:∀ cs ex,o ≠ .cells 28 cs ex):aT w ≠ some c:=by
 rcases h with ⟨rfl,-⟩ | ⟨b',ex',rfl,hb'⟩
 ·intro e; cases e
 ·intro e
  cases e
  rw [hc] at hb'
  cases hb'
  exact ho _ _ rfl
theorem qI.spV {Y τ':Sg} {D:List aM} {w:V} {us:List V} (h:qI E Y D) (ow:CX 28 Y w us) (sp:Sp Y τ' w):qI E τ' D:=by
 obtain ⟨e1,h1,h2⟩:=h.b0
 exact ⟨sp _ _ h.b1 (I5 ow h.b1 (by intro cs ex e; cases e)),e1,sp _ _ h1 (I5 ow h1 (by intro cs ex e; cases e)),h2⟩
theorem SN.perm {es:List (V × V)} {D D':List aM} (h:SN E es D) (hp:D'.Perm D):SN E es D':=
 ⟨h.1.congr fun x=>decide_eq_decide.2 hp.mem_iff.symm,h.2.trans hp.length_eq.symm⟩
theorem R2 (h:bM E) {Y:Sg} {w u:V} {o:List (List aM)} {l:List aM} (hl:Q6 Y w o) (ow:bH aJ 9 Y u l) (h40:o.length <= 40):∃ w' τ',Ax.append E (Y ++ [.cells 28 [u] true]) #[30,30] w (.sl Y.length 0 1 none) = some (w',τ') /\ Q6 τ' w' (o ++ [l]) /\ ∀ D,qI E Y D -> qI E τ' D:=by
 obtain ⟨us,hv,ha⟩:=hl
 have hv1:CX 28 (Y ++ [.cells 28 [u] true]) w us:=hv.keep fun c o _ e=>aL e
 obtain ⟨w',τ',h1,h2,h3,-⟩:=QD (ats:=#[30,30]) h.CK rfl h.aS rfl (FD h) rfl hv1 Nn (dX (b:=1000) (by decide) (by rw [ha.len]; omega))
 have k:∀ {u:V} {l:List aM},bH aJ 9 Y u l -> bH aJ 9 τ' u l:=fun {u l} ow=>(ow.app [.cells 28 _ true]).keep fun c y hc e=>h3 c y e (OU hv1 (ow.app _) hc)
 refine ⟨w',τ',h1,⟨us ++ [u],h2,eN.append ?_ (.one (k ow))⟩,fun D tm=>(tm.app _).spV hv1 h3⟩
 clear hv hv1 h1 h2 h3
 induction ha with
 | nil=>exact .nil
 | cons p _ ih=>exact .cons (k p) (ih (by simp only [length_cons] at h40; omega))
def S_:Lay (List aM):=⟨fun r l=>∃ v,r = [v] /\ IS aJ v l,1,fun _ _ ⟨_,h,_⟩=>by rw [h]; rfl,fun _ _ ⟨v,h,h1⟩ c hc=>by rw [h] at hc; cases hc with | head=>exact h1.bB | tail _ h=>cases h⟩
theorem OJ (h:bM E) {Y:Sg} {w:V} {o:List (List aM)} (hl:Q6 Y w o):∃ v',cT Y E.ty false w = some v' /\ jW S_ v' o:=by
 obtain ⟨us,hv,ha⟩:=hl
 rcases hv with ⟨rfl,rfl⟩ | ⟨b,ex,rfl,hb⟩
 ·cases ha
  exact ⟨.aC,rfl,.inl ⟨rfl,rfl⟩⟩
 ·have key:∀ (us:List V) (o:List (List aM)),eN (fun u l=>bH aJ 9 Y u l) us o -> ∃ R',aX (fun v=>match bN Y E.ty false 11 v with
    | some v=>if cH false v then some v else Ax.no "snap: borrowed"
    | none=>none) us = some R'.flatten /\ eN S_.P R' o:=by
   intro us o ha
   induction ha with
   | nil=>exact ⟨[],rfl,.nil⟩
   | cons p _ ih=>
    obtain ⟨R',m1,a1⟩:=ih
    obtain ⟨v',e1,t1,i1⟩:=wD (m:=9) h p
    refine ⟨[v'] :: R',?_,.cons ⟨v',rfl,i1.is⟩ a1⟩
    simp only [aX,e1,t1,if_true,m1]
    rfl
  obtain ⟨R',m1,a1⟩:=key us o ha
  have hfl:us.length = o.length:=ha.len
  have htk:(us.drop 0).take (us.length * 1) = us:=by rw [List.drop_zero,take_of_length_le (by omega)]
  have m2:aX (fun v=>match bN Y E.ty false 11 v with
   | some v=>if cH false v then some v else Ax.no "snap: borrowed"
   | none=>none) ((us.drop 0).take (us.length * 1)) = some R'.flatten:=by rw [htk]; exact m1
  have e:bN Y E.ty false 12 (.sl b 0 us.length none) = some (.bQ false R' (ex && decide (0 < 1) && (0 + us.length * 1 == us.length))):=by
   rw [bN]
   simp only [hb,h.aS]
   rw [if_pos (by omega)]
   refine Eq.trans (congrArg (fun o=>match o with
    | some l=>some (V.bQ false (Ax.rows 1 us.length l) (ex && decide (0 < 1) && (0 + us.length * 1 == us.length)))
    | none=>none) m2) ?_
   show some (V.bQ false (Ax.rows 1 us.length R'.flatten) _) = _
   have hl':us.length = R'.length:=by rw [a1.len,hfl]
   rw [hl',show Ax.rows 1 R'.length R'.flatten = R' from jP (sz:=1) R' (Lay.lens (L:=S_) a1)]
  refine ⟨.bQ false R' (ex && decide (0 < 1) && (0 + us.length * 1 == us.length)),?_,.inr ⟨R',_,rfl,a1⟩⟩
  show aZ.one Y E.ty false _ = _
  unfold aZ.one
  rw [show c_ = 12 from rfl,e]
  rfl
end
end
section
section
variable {E:Env} {Z:Sg} {K:V -> Sg -> Prop}
theorem O_ (h:bM E) (h':S6 E) {a:V} {rs:List aF} {es:List (V × V)} (ia:IS cV a rs) (hr:eU rs) (hn:NM rs es) {Y:Sg} (tm:qI E Y []) (F:FT) (g0:F.get 0 = a) (g5:F.get 5 = .imp false es) (g6:F.get 6 = .ref 1 0) (g7:F.get 7 = .aC) :
  R E (cutAt [1,1,1,1,1] (aA Tryz.f15).code) [] ⟨72,F⟩ Y (lT E (aA Tryz.f15).results (fun v σ1=>match cT σ1 E.ty false v with
   | some v=>(¬ eU rs /\ v = .aC) \/ (eU rs /\ ∃ o es,jW S_ v o /\ NM rs es /\ AM es (rs.map aF.name) o /\ o.flatten.length = rs.length)
   | none=>False)):=by
 have hg:=lI hr.1
 have h40:=hg.len
 have la:=cA h ia
 have hnd:(rs.map aF.name).Nodup:=sU hg.short.nodup
 have k1:=fun {D} {τ0} tm F g0 g5 g6 g8 w g7 st Q hk=>Pa h h' ia hn.ok hn.nodup (show rs.length <= 40 by omega) (D:=D) (τ0:=τ0) tm F g0 g5 g6 g8 (w:=w) g7 (st:=st) (Q:=Q) hk
 have k2:=fun {D l} {w8} {τ0} tm ow hnd h40 F w g0 g5 g6 g7 g8 st Q hk=>O8 h h' (D:=D) (l:=l) (w8:=w8) (τ0:=τ0) tm ow hnd h40 F (a:=a) (x5:=.imp false es) (w:=w) g0 g5 g6 g7 g8 (st:=st) (Q:=Q) hk
 rw [show (cutAt [1,1,1,1,1] (aA Tryz.f15).code) = .seq (.block 0 (.loop (.seq (cutAt [1,1,1,1,1,0,2,2,0] (aA Tryz.f15).code) (.block 1 (.seq (cutAt [1,1,1,1,1,0,2,2,1,2,0] (aA Tryz.f15).code) (.seq (cutAt [1,1,1,1,1,0,2,2,1,2,1,0] (aA Tryz.f15).code) (.seq (cutAt [1,1,1,1,1,0,2,2,1,2,1,1,0] (aA Tryz.f15).code) (cutAt [1,1,1,1,1,0,2,2,1,2,1,1,1] (aA Tryz.f15).code)))))))) (cutAt [1,1,1,1,1,1] (aA Tryz.f15).code) from rfl]
 generalize cutAt [1,1,1,1,1,0,2,2,1,2,1,0] (aA Tryz.f15).code = B1 at k1 ⊢
 generalize cutAt [1,1,1,1,1,0,2,2,1,2,1,1,0] (aA Tryz.f15).code = B2 at k2 ⊢
 simp only [aA,Tryz.f15,KP,cutAt]
 refine Pd (fun n F Y=>∃ w o,n + o.flatten.length = rs.length /\ F.get 0 = a /\ F.get 5 = .imp false es /\ F.get 6 = .ref 1 0 /\ F.get 7 = w /\ qI E Y o.flatten /\ Q6 Y w o /\ AM es (rs.map aF.name) o /\ o.length <= o.flatten.length) ?_ rs.length _ _ ⟨.aC,[],rfl,(by simp +decide only [g0]),(by simp +decide only [g5]),(by simp +decide only [g6]),(by simp +decide only [g7]),tm,⟨[],.inl ⟨rfl,rfl⟩,.nil⟩,AM.nil,Nat.le_refl _⟩
 rintro n F Y ⟨w,o,hlen,g0,g5,g6,g7,tm,hls,hlv,hol⟩ next
 obtain ⟨m1,hm,hs⟩:=tm.b0
 have b1:=tm.b1
 have b1l:loadAt E Y 98 (.ref 1 0) = some (.mp 0):=by unfold Ax.loadAt; simp only [h.qN,b1]; rfl
 have lm:lenOf E Y 98 (.mp 0) = some o.flatten.length:=by unfold lenOf; simp only [h.qN,hm,hs.2]
 by_cases hlt:o.flatten.length < rs.length
 ·have ht:=dR hlt
  rw [aG]
  simp only [KP,↓reduceIte,reduceEqDiff,reduceLT,reduceCtorEq,g0,g6,b1l,lm,la,ht]
  refine k1 tm _ ?_ ?_ ?_ ?_ w ?_ _ _ (fun F1 τ1 w8 q0 q5 q6 q7 q8 tm1 ow1 hfr kn1 hle1=>?_)
  ·simp +decide only [GS,g0]
  ·simp +decide only [GS,g5]
  ·simp +decide only [GS,g6]
  ·simp +decide only [GS]
  ·simp +decide only [GS,g7]
  have hl40:(mP es o.flatten (rs.map aF.name)).length <= 40:=Nat.le_trans (List.length_filter_le ..) (by rw [length_map]; omega)
  have hdl:(o.flatten ++ mP es o.flatten (rs.map aF.name)).Nodup:=by
   rw [nodup_append]
   exact ⟨(hlv.all hnd).1,hnd.sublist (List.filter_sublist ..),fun x hx y hy e=>(xA.1 hy).2.1 (by rw [<- e]; exact hx)⟩
  have hne:=PI hr hn hlt
  have hsub:∀ x ∈ mP es o.flatten (rs.map aF.name),x ∈ rs.map aF.name:=fun x hx=>(xA.1 hx).1
  have hfl:∀ l',l'.Perm (mP es o.flatten (rs.map aF.name)) -> AM es (rs.map aF.name) (o ++ [l']):=fun l' hp=>hlv.snoc hp fun e=>hne (by rw [e] at hp; exact hp.symm.eq_nil)
  generalize mP es o.flatten (rs.map aF.name) = l at *
  rw [R1]
  simp only [KP]
  refine k2 tm1 ow1 hdl hl40 F1 w q0 q5 q6 q7 q8 _ _ (fun F2 τ2 q0 q5 q6 q7 q8 tm2 ow2 kn2 hle2=>?_)
  obtain ⟨τ3,l',hS,hperm,ow3,Fe,hle3⟩:=tX ow2 (by omega) (fun x hx=>by
   obtain ⟨r,hr,rfl⟩:=mem_map.1 (hsub x hx)
   have:=hg.short.names r hr
   omega)
  have tm3:qI E τ3 (o ++ [l']).flatten:=by
   obtain ⟨e3,h1,h2⟩:=(tm2.sp ow2 Fe).b0
   refine ⟨(tm2.sp ow2 Fe).b1,e3,h1,h2.perm ?_⟩
   rw [flatten_append]
   simp only [List.flatten_cons,List.flatten_nil,append_nil]
   exact List.Perm.append_left _ hperm
  have hls3:Q6 τ3 w o:=hls.keep hm ((kn1.trans (kn2.weak hle1)).trans (jA.sp Fe hfr))
  have hl':0 < l'.length:=by
   rw [hperm.length_eq]
   exact List.length_pos_iff.2 hne
  obtain ⟨w',τ5,hap,hls5,htm5⟩:=R2 h hls3 ow3 (by omega)
  have ks:=dA (fun K=>show aB E 64 [w8] τ2 K = K (.fN []) τ3 by rw [nD h.EF,hS]; rfl)
  have ff:=PU (lC ow3).1 (lC ow3).2
  rw [R1]
  simp only [KP,↓reduceIte,reduceEqDiff,reduceLT,Nat.reduceLeDiff,Nat.reduceMul,h.aS,h.CK,q7,q8,ks,ff,hap]
  have hlen':(o ++ [l']).flatten.length = o.flatten.length + l'.length:=by rw [flatten_append,length_append]; simp
  have hfit:o.flatten.length + l'.length <= rs.length:=by
   have h1:=(hfl l' hperm).all hnd
   have:=kU h1.1 h1.2
   rw [length_map,hlen'] at this
   exact this
  exact next (rs.length - (o ++ [l']).flatten.length) _ _ (by omega) ⟨w',o ++ [l'],by omega,(gP (by simp +decide only [GS,q0,q5,q6,and_self]) ⟨htm5 _ tm3,hls5,hfl l' hperm,by rw [hlen',length_append,List.length_singleton]; omega⟩)⟩
 ·have ht:=dS hlt
  obtain ⟨v',f1,iv⟩:=OJ h hls
  rw [aG]
  simp only [KP,↓reduceIte,reduceEqDiff,reduceLT,reduceCtorEq,g0,g6,g7,b1l,lm,la,ht,f1]
  refine .inr ⟨hr,o,es,iv,hn,hlv,Nat.le_antisymm ?_ (by omega)⟩
  have h1:=hlv.all hnd
  have:=kU h1.1 h1.2
  rwa [length_map] at this
theorem K_ (h:bM E) (h':S6 E) (hN:zR E) {a:V} {rs:List aF} (ha:LS cV 37 Z a rs) (hs:∀ x ∈ rs,Small x) (hl:rs.length <= 4294967296):aB E 15 [a] Z fun v σ'=>σ' = Z /\ ((¬ eU rs /\ v = .aC) \/ (eU rs /\ ∃ o es,jW S_ v o /\ NM rs es /\ AM es (rs.map aF.name) o /\ o.flatten.length = rs.length)):=by
 obtain ⟨a',ea,ia⟩:=dW h ha
 rw [aH h'.hs15 h'.L2 h'.fn15 h'.md15 (args':=[a']) (by simp only [aX,ea]),bD (by kernel_rfl)]
 have key:=fun es hr hn Y tm F g0 g5 g6 g7=>O_ (E:=E) (rs:=rs) (es:=es) (Y:=Y) h h' ia hr hn tm F g0 g5 g6 g7
 rw [show (aA Tryz.f15).code = .seq (cutAt [0] (aA Tryz.f15).code) (.seq (cutAt [1,0] (aA Tryz.f15).code) (.seq (cutAt [1,1,0] (aA Tryz.f15).code) (.seq (cutAt [1,1,1,0] (aA Tryz.f15).code) (.seq (cutAt [1,1,1,1,0] (aA Tryz.f15).code) (cutAt [1,1,1,1,1] (aA Tryz.f15).code))))) from rfl]
 generalize cutAt [1,1,1,1,1] (aA Tryz.f15).code = C at key ⊢
 simp only [aA,Tryz.f15,KP,↓reduceIte,reduceLT,reduceCtorEq,cutAt]
 refine aU (NS h (ia.ls _ 37) hs hl) ?_
 rintro v σ' ⟨rfl,e,nm,rfl,hE⟩
 have hz:=hE.zero
 by_cases he:e = 0
 case neg=>
  have q:=decide_eq_false he
  simp only [KP,↓reduceIte,reduceEqDiff,reduceLT,q]
  exact .inl ⟨mt hz.2 he,rfl⟩
 have q:=decide_eq_true he
 have hr:=hz.1 he
 have hg:=lI hr.1
 simp only [KP,↓reduceIte,reduceEqDiff,reduceLT,reduceCtorEq,q]
 refine aU (hN (ia.ls _ 37) hs hr) ?_
 rintro v σ' ⟨rfl,es,rfl,hv⟩
 have hn:=QN hg.short hv
 simp only [KP,Ax.storeAt,↓reduceIte,reduceEqDiff,reduceLT,h.qN]
 exact key es hr hn _ ⟨rfl,[],rfl,Hu,rfl⟩ _ (by simp +decide only [GS]) (by simp +decide only [GS]) (by simp +decide only [GS]) (by simp +decide only [GS])
end
end
section
structure LvE (E:Env):Prop where
 hs7:E.hspec 7 = none
 Tt:E.spec 7 = none
 fn7:E.fn 7 = some (aA Tryz.f7)
 md7:E.mode 7 = .eT
 Xt:aN E (cutAt [1,1,1,1,1,1,1,0,1,2,2,1,1,0,2,1,1,1,1,2,2,1,1,0,2,1,1,1,1,0,1,2,2,1,1,0,2,1,1,1,2,2,1,1,0,2,1,0] (aA Tryz.f7).code) = true
 Tc:∀ {Z:Sg} {K:V -> Sg -> Prop},aB E 11 [] Z K = K (.bool true) Z
section
variable {E:Env} {Z:Sg} {K:V -> Sg -> Prop}
theorem VC {rs:List aF} {es:List (V × V)} {o:List (List aM)} (hv:AM es (rs.map aF.name) o) {d:Nat} {l:List aM} {x:aM} (hl:o[d]? = some l) (hx:x ∈ l):∃ i r,rs[i]? = some r /\ r.name = x /\ bF (fun r=>decide (r.name = x)) rs = some i:=by
 obtain ⟨r,hr,hrx⟩:=mem_map.1 (hv.sub hl x hx).1
 obtain ⟨i,hi⟩:=jK (p:=fun r:aF=>decide (r.name = x)) hr (decide_eq_true hrx)
 obtain ⟨q,h1,h2⟩:=gL hi
 exact ⟨i,q,h1,of_decide_eq_true h2,hi⟩
theorem VB {rs:List aF} {es:List (V × V)} {o:List (List aM)} (g:Good rs) (hn:NM rs es) (hv:AM es (rs.map aF.name) o) {d e i k:Nat} {l m:List aM} {p q:aF} (hl:o[d]? = some l) (hp:rs[i]? = some p) (hx:p.name ∈ l) (hk:fS rs false i k = true) (hq:rs[k]? = some q) (hm:o[e]? = some m) (hy:q.name ∈ m):e < d:=
 hv.ahead hl hx ((pY g hn hp _).2 ⟨k,q,hk,hq,rfl⟩) hm hy
theorem Pb {rs:List aF} {es:List (V × V)} {o:List (List aM)} (g:Good rs) (hn:NM rs es) (hv:AM es (rs.map aF.name) o) {d i:Nat} {l:List aM} {p:aF} (hl:o[d]? = some l) (hp:rs[i]? = some p) (hx:p.name ∈ l) {b:Int} (h1:-1 <= b) (h2:b <= (d:Int) - 1)
  (h3:∀ (k:Nat) (q:aF),k < rs.length -> rs[k]? = some q -> fS rs false i k = true -> ∀ (e:Nat) (m:List aM),o[e]? = some m -> q.name ∈ m -> (e:Int) <= b):b = (d:Int) - 1:=by
 cases d with
 | zero=>omega
 | succ d=>
  have hd:d < o.length:=by have:=(List.getElem?_eq_some_iff.1 hl).1; omega
  obtain ⟨y,hy,hym⟩:=hv.just hl hx (List.getElem?_eq_getElem hd)
  obtain ⟨k,q,hk,hq,rfl⟩:=(pY g hn hp _).1 hy
  have:=h3 k q (List.getElem?_eq_some_iff.1 hq).1 hq hk d _ (List.getElem?_eq_getElem hd) hym
  omega
theorem DG {o:List (List aM)} (d:Nat):(o.take d).flatten.length <= o.flatten.length:=by
 have:o.flatten = (o.take d).flatten ++ (o.drop d).flatten:=by rw [<- flatten_append,List.take_append_drop]
 rw [this,length_append]
 omega
theorem QZ (h:bM E) {v:V} {o:List (List aM)} (iv:jW S_ v o) {d:Nat} {l:List aM} (hl:o[d]? = some l):∃ g w,indexAddr E 30 v (.int .i64 (d:Int)) = some (.dB g [w]) /\ IS aJ w l:=by
 obtain ⟨p,r,f1,⟨w,rfl,iw⟩,-,-,f4⟩:=DQ (Z:=[]) h.CK rfl h.aS rfl (iv.is.ls [] 28) hl
 rcases f4 with ⟨g,rfl⟩ | ⟨b,o,rfl,u,cs,ex,hb,-⟩
 ·exact ⟨g,w,f1,iw⟩
 ·simp at hb
end
end
end Go.Proofs.YtlbbdpkjeeiahaaGreatDoor
end
section
namespace Go.Proofs.YtlbbdpkjeeiahaaGreatDoor
open Go Go.Ax
theorem begL {Z:Sg} {K:V -> Sg -> Prop}:aB LE 11 [] Z K = K (.bool true) Z:=sE (s:=bG t11) (args':=[]) (v:=.bool true) (by kernel_rfl) (by kernel_rfl) rfl (by kernel_rfl) rfl
theorem HI:bM LE:=by constructor <;> kernel_rfl
theorem R4:S6 LE:=by constructor <;> kernel_rfl
theorem MY:x_ LE:=by constructor <;> kernel_rfl
theorem Pk:Lb.kB LE:=by constructor <;> kernel_rfl
theorem R5:LvE LE:=by constructor <;> first | kernel_rfl | exact begL
end Go.Proofs.YtlbbdpkjeeiahaaGreatDoor
end
section
namespace Go.Proofs.YtlbbdpkjeeiahaaGreatDoor
open Go Go.Ax Go.AxS
section
section
variable {E:Env} {Z:Sg} {K:V -> Sg -> Prop}
theorem Fits.outs {rs:List aF} (hf:Fits rs) {r:aF} (hr:r ∈ rs):r.outs ≠ []:=by
 have:=hf.form r hr
 rw [zA] at this
 simp only [Bool.and_eq_true,decide_eq_true_eq] at this
 exact this.1.1.1.1.2
theorem M8 {l:List aM} {s:aM} (hs:s ∈ l):decide (0 <= idx (bF (fun x=>decide (x = s)) l)) = true /\ decide (idx (bF (fun x=>decide (x = s)) l) < 0) = false:=by
 obtain ⟨j,hj⟩:=jK (p:=fun x:aM=>decide (x = s)) hs (decide_eq_true rfl)
 rw [hj]
 exact ⟨decide_eq_true (by show (0:Int) <= (j:Int); omega),decide_eq_false (by show ¬ ((j:Int) < 0); omega)⟩
theorem KI {l:List aM} {s:aM} (hs:s ∉ l):decide (0 <= idx (bF (fun x=>decide (x = s)) l)) = false /\ decide (idx (bF (fun x=>decide (x = s)) l) < 0) = true:=by
 rw [gF (p:=fun x:aM=>decide (x = s)) fun x hx=>decide_eq_false fun e:x = s=>hs (by rw [<- e]; exact hx)]
 exact ⟨rfl,rfl⟩
end
end
section
section
variable {E:Env} {Z:Sg} {K:V -> Sg -> Prop}
theorem CV (h:bM E) (h':S6 E) (lv:LvE E) (hN:zR E) {a:V} {rs:List aF} (ha:LS cV 37 Z a rs) (hraw:∀ x ∈ rs,Raw x):aB E 7 [a] Z K = K (.bool true) Z:=by
 refine aB.of ?_
 obtain ⟨a',ea,ia⟩:=dW h ha
 rw [aH lv.hs7 lv.Tt lv.fn7 lv.md7 (args':=[a']) (by simp only [aX,ea]),bD (by kernel_rfl)]
 have kb:=fun (Y:Sg)=>dA fun K=>lv.Tc (Z:=Y) (K:=K)
 have d28:=lv.Xt
 simp only [aA,Tryz.f7,cutAt,Option.getD_some] at d28
 simp only [aA,Tryz.f7,KP,↓reduceIte,reduceLT,reduceCtorEq,reduceNeg,kb]
 refine aU (S0 h (ia.ls [] 37) hraw) ?_
 rintro v σ' ⟨rfl,l0,iv,hok,hl14,hsm⟩
 clear ha hraw ia ea
 generalize hrs:l0 = rs at *
 have iv':IS cV v rs:=rB iv.is vB
 have la:=cA h iv'
 simp only [KP,↓reduceIte,reduceLT,reduceNeg]
 refine aU (K_ h h' hN (iv'.ls _ 37) hsm (by omega)) ?_
 rintro v2 σ' ⟨rfl,⟨hno,-⟩ | ⟨-,o,es,io,hn,hlv,hfull⟩⟩
 ·exact absurd hok hno
 have hg:=lI hok.1
 have lo:=fun Y=>pI (Z:=Y) h.CK rfl (io.is.ls Y 28)
 simp only [KP,↓reduceIte,reduceLT,reduceCtorEq,reduceNeg]
 refine aU (JJ h (iv'.ls _ 37) ⟨by omega,hsm⟩ false) ?_
 rintro v3 σ' ⟨rfl,im⟩
 have hol:o.length <= 14:=by
  have h1:∀ (o:List (List aM)),(∀ l ∈ o,l ≠ []) -> o.length <= o.flatten.length:=fun o=>by
   induction o with
   | nil=>exact fun _=>Nat.le_refl _
   | cons l o ih=>
    intro hne
    have h2:=List.length_pos_iff.2 (hne l (List.mem_cons_self ..))
    have h3:=ih fun m hm=>hne m (List.mem_cons_of_mem _ hm)
    rw [List.flatten_cons,length_append,length_cons]
    omega
  have:=h1 o hlv.ne
  omega
 simp only [KP,↓reduceIte,reduceEqDiff,reduceLT,reduceNeg,lo]
 refine aQ (fun d F Y=>Y = [] /\ F.get 0 = v /\ F.get 4 = v2 /\ F.get 5 = v3 /\ F.get 6 = .int .i64 (((o.take d).flatten.length:Nat):Int) /\ F.get 24 = .int .i64 (o.length:Int) /\ F.get 25 = .int .i64 (d:Int)) o.length ?_ ?_ o.length 0 _ _ (by omega) ⟨rfl,(iZ (by simp +decide only [GS,and_self]) ⟨(by simp +decide only [GS]; rfl),(by simp +decide only [GS]),(by simp +decide only [GS])⟩)⟩
 ·rintro d F Y hd ⟨rfl,g0,g4,g5,g6,g24,g25⟩ next
  obtain ⟨l,hl⟩:∃ y,o[d]? = some y:=⟨_,List.getElem?_eq_getElem hd⟩
  obtain ⟨gd,vd,e1,il⟩:=QZ h io hl
  have ll:=bK h il
  have hl14':(o.take d).flatten.length + l.length <= 14:=by
   have h1:=DG (o:=o) (d + 1)
   rw [pN hl,length_append] at h1
   omega
  have hlp:=List.length_pos_iff.2 (hlv.ne l (mem_of_getElem? hl))
  have q0:decide ((l.length:Int) = 0) = false:=decide_eq_false (by omega)
  have hsum:wr .i64 ((((o.take d).flatten.length:Nat):Int) + (l.length:Int)) = (((o.take (d + 1)).flatten.length:Nat):Int):=by
   rw [pN hl,length_append,QK _ (by omega) (by omega)]
   omega
  have hlt:=dR hd
  have hadd:=bU d (by omega)
  rw [aG]
  simp only [KP,Ax.loadAt,↓reduceIte,reduceEqDiff,reduceLT,reduceNeg,h.aS,g4,g6,g24,g25,hlt,e1,ll,q0,hsum]
  refine aQ (fun j F Y=>Y = [] /\ F.get 0 = v /\ F.get 4 = v2 /\ F.get 5 = v3 /\ F.get 6 = .int .i64 (((o.take (d + 1)).flatten.length:Nat):Int) /\ F.get 24 = .int .i64 (o.length:Int) /\ F.get 25 = .int .i64 (d:Int) /\ F.get 7 = .int .i64 (d:Int) /\ F.get 44 = vd /\ F.get 45 = .int .i64 (l.length:Int) /\ F.get 46 = .int .i64 (j:Int)) l.length ?_ ?_ l.length 0 _ _ (by omega) ⟨rfl,(by simp +decide only [GS,g0,g4,g5,g24,g25,and_self])⟩
  ·clear g0 g4 g5 g6 g24 g25
   rintro j F Y hj ⟨rfl,g0,g4,g5,g6,g24,g25,g7,g44,g45,g46⟩ next2
   obtain ⟨x,hx⟩:∃ y,l[j]? = some y:=⟨_,List.getElem?_eq_getElem hj⟩
   obtain ⟨g2,e2⟩:=fJ h il hx
   have hxm:=mem_of_getElem? hx
   obtain ⟨i,p,hp,hpx,hfi⟩:=VC hlv hl hxm
   subst hpx
   have ka:=dA fun K=>XH (Z:=[]) (K:=K) h (s:=p.name) (iv'.ls [] 37) (by omega)
   rw [show fF rs p.name = some i from hfi,eS] at ka
   have hil:=(List.getElem?_eq_some_iff.1 hp).1
   have qi:decide ((i:Int) < 0) = false:=decide_eq_false (by omega)
   have hlt2:=dR hj
   have hadd2:=bU j (by omega)
   rw [aG]
   simp only [KP,Ax.loadAt,↓reduceIte,reduceEqDiff,reduceLT,reduceCtorEq,reduceNeg,h.cK,g0,g44,g45,g46,hlt2,e2,ka,qi,la]
   refine aQ (fun k F Y=>Y = [] /\ F.get 0 = v /\ F.get 4 = v2 /\ F.get 5 = v3 /\ F.get 6 = .int .i64 (((o.take (d + 1)).flatten.length:Nat):Int) /\ F.get 24 = .int .i64 (o.length:Int) /\ F.get 25 = .int .i64 (d:Int) /\ F.get 7 = .int .i64 (d:Int) /\ F.get 44 = vd /\ F.get 45 = .int .i64 (l.length:Int) /\ F.get 46 = .int .i64 (j:Int) /\ F.get 10 = .int .i64 (i:Int) /\ F.get 56 = .int .i64 (rs.length:Int) /\ F.get 57 = .int .i64 (k:Int) /\ ∃ b:Int,F.get 11 = .int .i64 b /\ -1 <= b /\ b <= (d:Int) - 1 /\ ∀ (k':Nat) (q:aF),k' < k -> rs[k']? = some q -> fS rs false i k' = true -> ∀ (e:Nat) (m:List aM),o[e]? = some m -> q.name ∈ m -> (e:Int) <= b) rs.length ?_ ?_ rs.length 0 _ _ (by omega) ⟨rfl,(H7 (by simp +decide only [GS,g0,g4,g5,g6,g24,g25,g7,g44,g45,g46,and_self]) ⟨-1,(by simp +decide only [GS]),by omega,by omega,fun k' q hk'=>by omega⟩)⟩
   ·clear g0 g4 g5 g6 g24 g25 g7 g44 g45 g46
    rintro k F Y hk ⟨rfl,g0,g4,g5,g6,g24,g25,g7,g44,g45,g46,g10,g56,g57,b,g11,hb1,hb2,hb3⟩ next3
    obtain ⟨q,hq⟩:∃ y,rs[k]? = some y:=⟨_,List.getElem?_eq_getElem hk⟩
    obtain ⟨gq,p1,p2,p3,p4,e3,-⟩:=eM h iv' hq
    obtain ⟨gm,vr,gb,em,eb⟩:=BJ h im.is hil hk
    have hlt3:=dR hk
    have hadd3:=bU k (by omega)
    rw [aG]
    cases hm:fS rs false i k with
    | false=>
     rw [hm] at eb
     simp only [KP,Ax.loadAt,↓reduceIte,reduceEqDiff,reduceLT,reduceNeg,h.GY,h.uY,g5,g10,g56,g57,hlt3,em,eb,hadd3]
     refine next3 _ _ ⟨rfl,(H7 (by simp +decide only [GS,g0,g4,g5,g6,g24,g25,g7,g44,g45,g46,g10,g56,and_self]) ⟨b,(by simp +decide only [GS,g11]),hb1,hb2,fun k' q' hk' hq' hn'=>?_⟩)⟩
     rcases Nat.lt_or_ge k' k with h1 | h1
     ·exact hb3 k' q' h1 hq' hn'
     ·have:k' = k:=by omega
      subst this
      rw [hm] at hn'
      cases hn'
    | true=>
     rw [hm] at eb
     simp only [KP,Ax.loadAt,↓reduceIte,reduceEqDiff,reduceLT,reduceNeg,h.GY,h.uY,g4,g5,g10,g56,g57,hlt3,em,eb,lo]
     refine aQ (fun e F Y=>Y = [] /\ F.get 0 = v /\ F.get 4 = v2 /\ F.get 5 = v3 /\ F.get 6 = .int .i64 (((o.take (d + 1)).flatten.length:Nat):Int) /\ F.get 24 = .int .i64 (o.length:Int) /\ F.get 25 = .int .i64 (d:Int) /\ F.get 7 = .int .i64 (d:Int) /\ F.get 44 = vd /\ F.get 45 = .int .i64 (l.length:Int) /\ F.get 46 = .int .i64 (j:Int) /\ F.get 10 = .int .i64 (i:Int) /\ F.get 56 = .int .i64 (rs.length:Int) /\ F.get 57 = .int .i64 (k:Int) /\ F.get 12 = .int .i64 (k:Int) /\ F.get 69 = .int .i64 (o.length:Int) /\ F.get 70 = .int .i64 (e:Int) /\ ∃ b:Int,F.get 11 = .int .i64 b /\ -1 <= b /\ b <= (d:Int) - 1 /\ (∀ (k':Nat) (q:aF),k' < k -> rs[k']? = some q -> fS rs false i k' = true -> ∀ (e:Nat) (m:List aM),o[e]? = some m -> q.name ∈ m -> (e:Int) <= b) /\ ∀ (e':Nat) (m:List aM),e' < e -> o[e']? = some m -> q.name ∈ m -> (e':Int) <= b) o.length ?_ ?_ o.length 0 _ _ (by omega) ⟨rfl,(H6 (by simp +decide only [GS,g0,g4,g5,g6,g24,g25,g7,g44,g45,g46,g10,g56,g57,and_self]) ⟨b,(by simp +decide only [GS,g11]),hb1,hb2,hb3,fun e' m he'=>by omega⟩)⟩
     ·clear g0 g4 g5 g6 g24 g25 g7 g44 g45 g46 g10 g56 g57 g11 hb1 hb2 hb3 b
      rintro e F Y he ⟨rfl,g0,g4,g5,g6,g24,g25,g7,g44,g45,g46,g10,g56,g57,g12,g69,g70,b,g11,hb1,hb2,hb3,hb4⟩ next4
      obtain ⟨m,hme⟩:∃ y,o[e]? = some y:=⟨_,List.getElem?_eq_getElem he⟩
      obtain ⟨ge,ve,e4,ie⟩:=QZ h io hme
      have hml:m.length <= 4294967296:=by
       have h1:=DG (o:=o) (e + 1)
       rw [pN hme,length_append] at h1
       omega
      have kf:=dA fun K=>NP (Z:=[]) (K:=K) h (s:=q.name) (ie.ls [] 9) hml
      have hlt4:=dR he
      have hadd4:=bU e (by omega)
      rw [aG]
      by_cases hqm:q.name ∈ m
      ·have i1:=(M8 hqm).1
       have hed:=VB hg hn hlv hl hp hxm hm hq hme hqm
       obtain ⟨b',hmx,hbb,heb,hbd'⟩:∃ b',iT true .i64 b [.int .i64 (e:Int)] = some b' /\ b <= b' /\ (e:Int) <= b' /\ b' <= (d:Int) - 1:=⟨if (e:Int) > b then (e:Int) else b,rfl,by split <;> omega,by split <;> omega,by split <;> omega⟩
       simp only [KP,Ax.loadAt,↓reduceIte,reduceEqDiff,reduceLT,reduceCtorEq,reduceNeg,h.cK,h.aS,h.bE,g0,g4,g12,g69,g70,g11,hlt4,e3,e4,kf,i1,hadd4,hmx,bI d28,cB]
       refine next4 _ _ ⟨rfl,(H6 (by simp +decide only [GS,g0,g4,g5,g6,g24,g25,g7,g44,g45,g46,g10,g56,g57,g12,g69,and_self]) ⟨b',(by simp +decide only [GS]),by omega,hbd',fun k' q' hk' hq' hn' e' m' hm' hy=>Int.le_trans (hb3 k' q' hk' hq' hn' e' m' hm' hy) hbb,fun e' m' he' hm' hy=>?_⟩)⟩
       rcases Nat.lt_or_ge e' e with h1 | h1
       ·exact Int.le_trans (hb4 e' m' h1 hm' hy) hbb
       ·have:e' = e:=by omega
        subst this
        exact heb
      ·have i1:=(KI hqm).1
       simp only [KP,Ax.loadAt,↓reduceIte,reduceEqDiff,reduceLT,reduceCtorEq,reduceNeg,h.cK,h.aS,h.bE,g0,g4,g12,g69,g70,hlt4,e3,e4,kf,i1,hadd4,bI d28,cB]
       refine next4 _ _ ⟨rfl,(H6 (by simp +decide only [GS,g0,g4,g5,g6,g24,g25,g7,g44,g45,g46,g10,g56,g57,g12,g69,and_self]) ⟨b,(by simp +decide only [GS,g11]),hb1,hb2,hb3,fun e' m' he' hm' hy=>?_⟩)⟩
       rcases Nat.lt_or_ge e' e with h1 | h1
       ·exact hb4 e' m' h1 hm' hy
       ·have:e' = e:=by omega
        subst this
        rw [hme] at hm'
        cases hm'
        exact absurd hy hqm
     ·clear g0 g4 g5 g6 g24 g25 g7 g44 g45 g46 g10 g56 g57 g11 hb1 hb2 hb3 b
      rintro F Y ⟨rfl,g0,g4,g5,g6,g24,g25,g7,g44,g45,g46,g10,g56,g57,g12,g69,g70,b,g11,hb1,hb2,hb3,hb4⟩
      have hlt4:=dS (Nat.lt_irrefl o.length)
      rw [aG]
      simp only [KP,↓reduceIte,reduceEqDiff,reduceLT,reduceNeg,g57,g69,g70,hlt4,hadd3]
      refine next3 _ _ ⟨rfl,(H7 (by simp +decide only [GS,g0,g4,g5,g6,g24,g25,g7,g44,g45,g46,g10,g56,and_self]) ⟨b,(by simp +decide only [GS,g11]),hb1,hb2,fun k' q' hk' hq' hn' e' m' hm' hy=>?_⟩)⟩
      rcases Nat.lt_or_ge k' k with h1 | h1
      ·exact hb3 k' q' h1 hq' hn' e' m' hm' hy
      ·have:k' = k:=by omega
       subst this
       rw [hq] at hq'
       cases hq'
       exact hb4 e' m' (List.getElem?_eq_some_iff.1 hm').1 hm' hy
   ·clear g0 g4 g5 g6 g24 g25 g7 g44 g45 g46
    rintro F Y ⟨rfl,g0,g4,g5,g6,g24,g25,g7,g44,g45,g46,g10,g56,g57,b,g11,hb1,hb2,hb3⟩
    have hbd:=Pb hg hn hlv hl hp hxm hb1 hb2 hb3
    have hw:wr .i64 ((d:Int) - 1) = (d:Int) - 1:=QK _ (by omega) (by omega)
    subst hbd
    have hlt3:=dS (Nat.lt_irrefl rs.length)
    rw [aG]
    simp only [KP,↓reduceIte,reduceEqDiff,reduceLT,reduceNeg,g7,g46,g56,g57,g11,hlt3,hw,hadd2]
    exact next2 _ _ ⟨rfl,(by simp +decide only [GS,g0,g4,g5,g6,g24,g25,g7,g44,g45,and_self])⟩
  ·clear g0 g4 g5 g6 g24 g25
   rintro F Y ⟨rfl,g0,g4,g5,g6,g24,g25,g7,g44,g45,g46⟩
   have hlt2:=dS (Nat.lt_irrefl l.length)
   rw [aG]
   simp only [KP,↓reduceIte,reduceEqDiff,reduceLT,reduceNeg,g25,g45,g46,hlt2,hadd]
   exact next _ _ ⟨rfl,(by simp +decide only [GS,g0,g4,g5,g6,g24,and_self])⟩
 ·rintro F Y ⟨rfl,g0,g4,g5,g6,g24,g25⟩
  have hlt:=dS (Nat.lt_irrefl o.length)
  rw [take_of_length_le (Nat.le_refl _),hfull] at g6
  rw [aG]
  simp only [KP,↓reduceIte,reduceEqDiff,reduceLT,reduceCtorEq,reduceNeg,g0,g6,g24,g25,hlt,la,cT,aZ]
  exact rfl
end
end
theorem Aw (a0:V) (l0:List aF) (i0:IS cV a0 l0) (r0:∀ x ∈ l0,Raw x):∃ k,Ax.call LE k 7 [a0] = some (.bool true):=by
 have h:aB LE 7 [a0] [] (fun v _=>v = .bool true):=by
  rw [CV HI R4 R5 (Kn HI MY (OY HI MY Pk)) (i0.ls [] 37) r0]
 obtain ⟨n,v,σ',hc,rfl⟩:=h
 refine ⟨n,?_⟩
 have hm:aX (aZ [] LE.ty true) [a0] = some [a0]:=by
  simp only [aX,nT i0 []]
 unfold gG at hc
 rw [show LE.hspec 7 = none by kernel_rfl,show LE.spec 7 = none by kernel_rfl,show LE.fn 7 = some (aA Tryz.f7) by kernel_rfl,show LE.mode 7 = .eT by kernel_rfl] at hc
 simp only [hm] at hc
 unfold Ax.call
 rw [show LE.fn 7 = some (aA Tryz.f7) by kernel_rfl]
 dsimp only
 cases he:enter LE (ev LE n) (aA Tryz.f7) [a0] [] with
 | none=>rw [he] at hc; cases hc
 | some y=>
  rw [he] at hc
  dsimp only at hc ⊢
  cases hs:cT y.2 LE.ty false y.1 with
  | none=>rw [hs] at hc; cases hc
  | some z=>rw [hs] at hc; cases hc; rfl
end Go.Proofs.YtlbbdpkjeeiahaaGreatDoor
end
