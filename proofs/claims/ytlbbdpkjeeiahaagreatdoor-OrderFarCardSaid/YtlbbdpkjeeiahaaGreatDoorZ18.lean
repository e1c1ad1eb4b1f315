/- Part 18 of the proof. -/
import Derived.Test.YtlbbdpkjeeiahaaGreatDoorZ17
import Derived.Test.YtlbbdpkjeeiahaaGreatDoorZ16
import Derived.Test.YtlbbdpkjeeiahaaGreatDoorZ15
set_option maxHeartbeats 8000000
set_option linter.unusedVariables false
set_option maxRecDepth 10000
open Nat (reduceLT reduceEqDiff reduceLeDiff reduceAdd reduceMul)
open List (getElem?_set_ne getElem?_set_self length_nil length_append length_cons nodup_cons mem_cons length_map mem_map length_take flatten_cons mem_cons_self getElem?_append_right mem_cons_of_mem take_of_length_le mem_of_getElem? drop_zero take_add_one nodup_nil map_map map_cons find?_cons find?_eq_none mem_append nodup_append mem_singleton map_append find?_some flatMap_cons map_nil append_nil append_assoc mem_flatMap mem_filter)
section
namespace Go.Proofs.YtlbbdpkjeeiahaaGreatDoor
open Go Go.Ax Go.AxS
section
section
variable {E:Env} {Z:Sg} {K:V -> Sg -> Prop}
theorem Iu {Y:Sg} {w:V} {l:List aX} {k:Nat} {es:List (V × V)} (hb:Y[k]? = some (.map es)) (ow:bD aM 9 Y w l):aQ w ≠ some k:=by
 rcases ow with ⟨rfl,-⟩ | ⟨b,rs,ex,rfl,hc,-⟩
 ·intro e; cases e
 ·intro e
  cases e
  rw [hb] at hc
  cases hc
structure uW (rs:List aG) (o:List aX):Prop where
 len:o.length = rs.length
 nodup:o.Nodup
 mem:∀ x ∈ o,x ∈ rs.map aG.name
 behind:∀ (i k:Nat) (p q:aG),rs[i]? = some p -> rs[k]? = some q -> iP rs false i k = true -> ∀ (j:Nat),o[j]? = some p.name -> q.name ∈ o.take j
structure yU (E:Env) (Y:Sg) (es:List (V × V)) (p:aX -> Bool):Prop where
 b0:Y[0]? = some (.cells 96 [.imp false es] true)
 b2:Y[2]? = some (.cells 98 [.mp 1] true)
 b1:∃ e1,Y[1]? = some (.map e1) /\ SB E e1 p
theorem yU.app {Y:Sg} {es:List (V × V)} {p:aX -> Bool} (h:yU E Y es p) (y:O):yU E (Y ++ [y]) es p:=by
 obtain ⟨e1,h1,h2⟩:=h.b1
 exact ⟨aN h.b0,aN h.b2,e1,aN h1,h2⟩
theorem yU.sp {Y τ':Sg} {es:List (V × V)} {p:aX -> Bool} {w:V} {l:List aX} (h:yU E Y es p) (ow:bD aM 9 Y w l) (sp:Sp Y τ' w):yU E τ' es p:=by
 obtain ⟨e1,h1,h2⟩:=h.b1
 exact ⟨sp _ _ h.b0 (kC h.b0 (by decide) ow),sp _ _ h.b2 (kC h.b2 (by decide) ow),e1,sp _ _ h1 (Iu h1 ow),h2⟩
theorem yU.put {Y:Sg} {es e1:List (V × V)} {p q:aX -> Bool} (h:yU E Y es p) (hs:SB E e1 q):yU E (Y.set 1 (.map e1)) es q:=by
 obtain ⟨e0,h1,-⟩:=h.b1
 exact ⟨by rw [getElem?_set_ne (by decide)]; exact h.b0,by rw [getElem?_set_ne (by decide)]; exact h.b2,e1,by rw [getElem?_set_self (List.getElem?_eq_some_iff.1 h1).1],hs⟩
end
end
section
structure uX (E:Env):Prop where
 qB:E.ty 105 = some { kd:=.map 46 77,size:=1,bytes:=8,zero:=.bU }
 sO:E.ty 107 = some { kd:=.jB [(0,103),(1,104),(2,77),(3,105),(4,105)],size:=5,bytes:=40,zero:=.agg [.bU,.bU,.fW,.bU,.bU] }
 UH:E.ty 41 = some { kd:=.ptr 107,size:=1,bytes:=8,zero:=.fW }
 MJ:E.ty 103 = some { kd:=.map 9 37,size:=1,bytes:=8,zero:=.bU }
 wW:E.ty 144 = some { kd:=.jB [(0,105),(1,46),(3,46)],size:=5,bytes:=56,zero:=.agg [.bU,.bool false,.str [],.bool false,.str []] }
 Jq:E.ty 145 = some { kd:=.sl 144,size:=1,bytes:=24,zero:=.aC }
 hs70:E.hspec 70 = none
 sp70:E.spec 70 = none
 fn70:E.fn 70 = some (aA Tryz.f70)
 md70:E.mode 70 = .eV
 XS:E.hspec 113 = none
 Vl:E.spec 113 = none
 YD:E.fn 113 = some (aA Tryz.f113)
 WV:E.mode 113 = .shared
 hs19:E.hspec 19 = none
 Nb:E.spec 19 = none
 fn19:E.fn 19 = some (aA Tryz.f19)
 md19:E.mode 19 = .eV
 hs73:E.hspec 73 = none
 sp73:E.spec 73 = none
 fn73:E.fn 73 = some (aA Tryz.f73)
 md73:E.mode 73 = .shared
 hs72:E.hspec 72 = none
 sp72:E.spec 72 = none
 fn72:E.fn 72 = some (aA Tryz.f72)
 md72:E.mode 72 = .eV
 hs74:E.hspec 74 = none
 sp74:E.spec 74 = none
 fn74:E.fn 74 = some (aA Tryz.f74)
 md74:E.mode 74 = .eV
 hs37:E.hspec 37 = none
 sp37:E.spec 37 = none
 fn37:E.fn 37 = some (aA Tryz.f37)
 md37:E.mode 37 = .eV
 hs63:E.hspec 63 = none
 sp63:E.spec 63 = none
 fn63:E.fn 63 = some (aA Tryz.f63)
 md63:E.mode 63 = .eV
 UC:gN E (opsOf (cutAt [1,0] (aA Tryz.f70).code)) = .no
 Wa:cN E .no (opsOf (cutAt [1,0] (aA Tryz.f70).code)) = some [⟨2,4,true,false⟩,  ⟨2,7,true,false⟩,  ⟨2,10,true,false⟩,  ⟨5,7,true,false⟩,  ⟨5,10,true,false⟩,  ⟨8,10,true,false⟩]
 UB:gN E (opsOf (cutAt [1,1,0,1,2,2,1,1,0,2,1] (aA Tryz.f70).code)) = .no
 V_:cN E .no (opsOf (cutAt [1,1,0,1,2,2,1,1,0,2,1] (aA Tryz.f70).code)) = some [⟨1,12,false,true⟩,  ⟨1,19,false,true⟩,  ⟨4,12,false,true⟩,  ⟨4,19,false,true⟩,  ⟨4,22,false,true⟩,  ⟨12,14,true,false⟩,  ⟨12,18,true,false⟩]
 Y9:aP E (cutAt [1,1,1,0,1,2,2,1,1,0,2,1,0] (aA Tryz.f19).code) = true
 UF:gN E (opsOf (cutAt [1,1,1,0,1,2,2,1,1,0,2,1,1,0] (aA Tryz.f19).code)) = .no
 Wd:cN E .no (opsOf (cutAt [1,1,1,0,1,2,2,1,1,0,2,1,1,0] (aA Tryz.f19).code)) = some [⟨3,7,false,true⟩]
 TV:aP E (cutAt [1,1,1,0,1,2,2,1,1,0,2,1,1,1,1,1,2,2,1,1,0,2,1,0] (aA Tryz.f19).code) = true
 TU:aP E (cutAt [1,1,1,0,1,2,2,1,1,0,2,1,1,1,1,1,2,2,1,1,0,2,1,1] (aA Tryz.f19).code) = true
 UA:gN E (opsOf (cutAt [1,0] (aA Tryz.f73).code)) = .no
 V9:cN E .no (opsOf (cutAt [1,0] (aA Tryz.f73).code)) = some [⟨3,6,false,true⟩]
 YY:aP E (cutAt [1,1,0] (aA Tryz.f73).code) = true
 Uz:gN E (opsOf (cutAt [1,1,1,2,2,1,1,0,2,1,0,1,0] (aA Tryz.f73).code)) = .no
 V8:cN E .no (opsOf (cutAt [1,1,1,2,2,1,1,0,2,1,0,1,0] (aA Tryz.f73).code)) = some [⟨1,4,false,true⟩,  ⟨3,4,false,true⟩]
 Uy:gN E (opsOf (cutAt [1,1,1,2,2,1,1,0,2,1,1] (aA Tryz.f73).code)) = .no
 V7:cN E .no (opsOf (cutAt [1,1,1,2,2,1,1,0,2,1,1] (aA Tryz.f73).code)) = some [⟨1,7,false,true⟩,  ⟨3,7,false,true⟩,  ⟨4,7,false,true⟩]
 z63_17:gN E (opsOf (cutAt [1,1,1,1,0,1,2,2,1,1,0,2,1,1,1,1] (aA Tryz.f63).code)) = .no
 p63_17:cN E .no (opsOf (cutAt [1,1,1,1,0,1,2,2,1,1,0,2,1,1,1,1] (aA Tryz.f63).code)) = some [⟨2,4,false,true⟩]
section
variable {E:Env} {Z:Sg} {K:V -> Sg -> Prop}
theorem aB.up {f:Nat} {args:List V} {K:V -> Sg -> Prop} (h:aB E f args Z K):∃ n v σ',K v σ' /\ ∀ m,n <= m -> gO E (ev E m) f args Z = some (v,σ'):=by
 obtain ⟨n,v,σ',hc,hk⟩:=h
 exact ⟨n,v,σ',hk,fun m hm=>sI (lT E hm) hc⟩
theorem LU (h:bK E):oA E 35 true .aC .aC = some true:=by unfold oA; rw [h.fG]
theorem LR (h:bK E) {g:Bool} {rs:List (List V)} {f:Bool}:oA E 35 true (.bL g rs f) .aC = some false:=by unfold oA; rw [h.fG]
theorem Mn (h:bK E) (h':uX E) {a:V} {l:List AxS.Step} (ia:IS eX a l) (hl:l.length <= 1000):aB E 113 [a] Z fun v σ'=>bD eX 75 σ' v l /\ Kp Z σ' /\ ∀ b,aQ v = some b -> Z.length <= b:=by
 rw [dF h'.XS h'.Vl h'.YD h'.WV,aZ (by kernel_rfl)]
 rcases ia with ⟨rfl,rfl⟩ | ⟨g,rs,full,rfl,ha⟩
 ·simp only [aA,Tryz.f113,KP,↓reduceIte,reduceLT,reduceCtorEq,LU h]
  exact ⟨.inl ⟨rfl,rfl⟩,fun _ _ h=>h,fun b hb=>by cases hb⟩
 ·obtain ⟨rs',e,ha'⟩:=qW (L:=eX) (x:=.bL g rs full) (l:=l) (.inr ⟨g,rs,full,rfl,ha⟩) (Z ++ [O.cells 75 [] true])
  obtain ⟨w',τ',h1,h2,h3,h4,h5⟩:=jX (ats:=#[35,35]) (Z:=Z ++ [O.cells 75 [] true]) (w:=.sl Z.length 0 0 none) (l:=[]) (L:=eX) h.fG rfl h.cR rfl (by decide) (Av h) rfl (.inr ⟨Z.length,[],true,rfl,aO,.nil⟩) e ha' (eU (b:=1000) (by decide) (by simp only [length_nil]; omega))
  rw [List.nil_append] at h2
  simp only [aA,Tryz.f113,KP,↓reduceIte,reduceEqDiff,reduceLT,reduceLeDiff,reduceCtorEq,h.fG,h.cR,LR h,h1,Ax.fill,fQ,Nat.zero_mul]
  refine ⟨h2,fun c o hc=>h3 _ _ (aN hc) fun e=>?_,fun b hb=>?_⟩
  ·cases e
   exact absurd (List.getElem?_eq_some_iff.1 hc).1 (Nat.lt_irrefl _)
  ·rcases h5 b hb with g | g
   ·cases g; exact Nat.le_refl _
   ·simp only [length_append,length_cons,length_nil] at g; omega
end
end
section
structure OrL (E:Env):Prop where
 PL:E.hspec 3 = none
 M1:E.spec 3 = none
 fn3:E.fn 3 = some (aA Tryz.f3)
 md3:E.mode 3 = .eV
 Uu:∀ {Z:Sg} {K:V -> Sg -> Prop},aB E 11 [] Z K = K (.bool true) Z
section
variable {E:Env} {Z:Sg} {K:V -> Sg -> Prop}
theorem AH {α:Type} {p:α -> Bool}:∀ {l:List α} {k:Nat},bQ p l = some k -> ∀ (j:Nat) (y:α),j < k -> l[j]? = some y -> p y = false
 | [],_,h,_,_,_,_=>by cases h
 | x :: l,k,h,j,y,hj,hy=>by
  rw [bQ] at h
  by_cases hx:p x = true
  ·rw [if_pos hx] at h; cases h; omega
  ·rw [if_neg hx] at h
   cases hf:bQ p l with
   | none=>rw [hf] at h; cases h
   | some m=>
    rw [hf] at h
    cases h
    cases j with
    | zero=>cases hy; simpa using hx
    | succ j=>exact AH hf j y (Nat.lt_of_succ_lt_succ hj) hy
theorem uW.all {rs:List aG} {o:List aX} (h:uW rs o) (hn:(rs.map aG.name).Nodup):∀ x ∈ rs.map aG.name,x ∈ o:=fun x hx=>by
 refine Classical.byContradiction fun hxo=>?_
 have:=uM (a:=x :: o) (b:=rs.map aG.name) (nodup_cons.2 ⟨hxo,h.nodup⟩) fun y hy=>by
  rcases mem_cons.1 hy with rfl | hy
  ·exact hx
  ·exact h.mem y hy
 rw [length_cons,length_map,h.len] at this
 omega
theorem uW.idx {rs:List aG} {o:List aX} (h:uW rs o) (hn:(rs.map aG.name).Nodup) {r:aG} (hr:r ∈ rs):∃ j,bQ (fun x=>decide (x = r.name)) o = some j /\ o[j]? = some r.name:=by
 obtain ⟨j,hj⟩:=pL (p:=fun x:aX=>decide (x = r.name)) (h.all hn r.name (mem_map.2 ⟨r,hr,rfl⟩)) (decide_eq_true rfl)
 obtain ⟨x,h1,h2⟩:=jN hj
 exact ⟨j,hj,by rw [h1,of_decide_eq_true h2]⟩
theorem uW.lt {rs:List aG} {o:List aX} (h:uW rs o) {i k j m:Nat} {p q:aG} (hp:rs[i]? = some p) (hq:rs[k]? = some q) (hm:iP rs false i k = true) (hj:o[j]? = some p.name) (hk:bQ (fun x=>decide (x = q.name)) o = some m):m < j:=by
 have hmem:=h.behind i k p q hp hq hm j hj
 obtain ⟨t,ht⟩:=List.mem_iff_getElem?.1 hmem
 have htj:t < j:=by have:=(List.getElem?_eq_some_iff.1 ht).1; rw [length_take] at this; omega
 rw [List.getElem?_take_of_lt htj] at ht
 refine Nat.lt_of_le_of_lt (Nat.le_of_not_lt fun hlt=>?_) htj
 have:=AH hk t q.name hlt ht
 simp at this
end
end
section
section
variable {E:Env} {Z:Sg} {K:V -> Sg -> Prop}
theorem nQ {α:Type} {L:Lay α} {t:Nat} {Y:Sg} {w:V} {l:List α} (ow:bD L t Y w l):w.a_ = true /\ w.cells = [w]:=by
 rcases ow with ⟨rfl,-⟩ | ⟨b,rs,ex,rfl,-⟩ <;> exact ⟨rfl,rfl⟩
theorem uK {α:Type} {L:Lay α} {t:Nat} {Y:Sg} {w:V} {l:List α} {y:O} (ow:bD L t Y w l) (h:∀ b,aQ w = some b -> 2 <= b):bD L t (Y.set 0 y) w l:=ow.keep fun c o hc ho=>by
 rw [getElem?_set_ne (by have:=h c hc; omega)]; exact ho
theorem tL {α:Type} {L:Lay α} {t:Nat} {Y:Sg} {w:V} {l:List α} {b:Nat} (ow:bD L t Y w l) (h:aQ w = some b):b < Y.length:=by
 rcases ow with ⟨rfl,-⟩ | ⟨b',rs,ex,rfl,hb,-⟩
 ·cases h
 ·cases h
  exact (List.getElem?_eq_some_iff.1 hb).1
theorem Fk {Y τ':Sg} (h:Kp Y τ'):Y.length <= τ'.length:=by
 refine Nat.le_of_not_lt fun hlt=>?_
 obtain ⟨o,ho⟩:∃ o,Y[τ'.length]? = some o:=⟨_,List.getElem?_eq_getElem hlt⟩
 exact absurd (List.getElem?_eq_some_iff.1 (h _ _ ho)).1 (Nat.lt_irrefl _)
theorem Zc (h:bK E) (h':uX E) {x:aG} {a b c d:V} (ia:IS aM a x.ins) (ib:IS aM b x.outs) (ic:IS aM c x.after) (id:IS eX d x.steps) (hs:Small x) (F:FT) (g1:F.get 1 = .ref 0 0) {st:List jO} {Q:Ax.X -> Fr -> Sg -> Prop}
  (hk:∀ F' Y w1 w2 w3 w4,F'.get 1 = .ref 0 0 -> F'.get 2 = F.get 2 -> Y[0]? = some (O.cells 37 [.str x.name,w1,w2,w3,w4] true) -> Y[1]? = some (O.cells 37 [.str [],.aC,.aC,.aC,.aC] true) -> bD aM 9 Y w1 x.ins -> bD aM 9 Y w2 x.outs -> bD aM 9 Y w3 x.after -> bD eX 75 Y w4 x.steps -> (∀ b,aQ w4 = some b -> 2 <= b /\ aQ w1 ≠ some b /\ aQ w2 ≠ some b /\ aQ w3 ≠ some b) -> M E st .normal ⟨52,F'⟩ Y Q) :
  R E (.region 1 (opsOf (cutAt [1,0] (aA Tryz.f70).code)) true) st ⟨52,F⟩ [O.cells 37 [.str x.name,a,b,c,d] true,O.cells 37 [.str [],.aC,.aC,.aC,.aC] true] Q:=by
 have l1:=hs.ins
 have l2:=hs.outs
 have l3:=hs.after
 have l4:=hs.steps
 obtain ⟨n1,w1,τ1,⟨ow1,kp1,fr1⟩,c1⟩:=aB.up (sK (Z:=[O.cells 37 [.str x.name,a,b,c,d] true,O.cells 37 [.str [],.aC,.aC,.aC,.aC] true]) h ia (by omega))
 obtain ⟨n2,w2,τ2,⟨ow2,kp2,fr2⟩,c2⟩:=aB.up (sK (Z:=τ1) h ib (by omega))
 obtain ⟨n3,w3,τ3,⟨ow3,kp3,fr3⟩,c3⟩:=aB.up (sK (Z:=τ2) h ic (by omega))
 obtain ⟨n4,w4,τ4,⟨ow4,kp4,fr4⟩,c4⟩:=aB.up (Mn (Z:=τ3) h h' id (by omega))
 have c1:=c1 (n1 + n2 + n3 + n4) (by omega)
 have c2:=c2 (n1 + n2 + n3 + n4) (by omega)
 have c3:=c3 (n1 + n2 + n3 + n4) (by omega)
 have c4:=c4 (n1 + n2 + n3 + n4) (by omega)
 generalize n1 + n2 + n3 + n4 = n at c1 c2 c3 c4
 have k0:∀ Y:Sg,Kp [O.cells 37 [.str x.name,a,b,c,d] true,O.cells 37 [.str [],.aC,.aC,.aC,.aC] true] Y -> Y[0]? = some (O.cells 37 [.str x.name,a,b,c,d] true) /\ Y[1]? = some (O.cells 37 [.str [],.aC,.aC,.aC,.aC] true):=fun Y hk=>⟨hk 0 _ rfl,hk 1 _ rfl⟩
 have q2:Kp [O.cells 37 [.str x.name,a,b,c,d] true,O.cells 37 [.str [],.aC,.aC,.aC,.aC] true] τ2:=fun c o e=>kp2 c o (kp1 c o e)
 have q3:Kp [O.cells 37 [.str x.name,a,b,c,d] true,O.cells 37 [.str [],.aC,.aC,.aC,.aC] true] τ3:=fun c o e=>kp3 c o (q2 c o e)
 have q4:Kp [O.cells 37 [.str x.name,a,b,c,d] true,O.cells 37 [.str [],.aC,.aC,.aC,.aC] true] τ4:=fun c o e=>kp4 c o (q3 c o e)
 obtain ⟨b1,z1⟩:=k0 τ1 kp1
 obtain ⟨b2,z2⟩:=k0 τ2 q2
 obtain ⟨b3,z3⟩:=k0 τ3 q3
 obtain ⟨b4,z4⟩:=k0 τ4 q4
 have hlt4:=(List.getElem?_eq_some_iff.1 b4).1
 have s1:∀ y,(τ4.set 0 y)[0]? = some y:=fun y=>getElem?_set_self hlt4
 obtain ⟨o1,t1⟩:=nQ ow1
 obtain ⟨o2,t2⟩:=nQ ow2
 obtain ⟨o3,t3⟩:=nQ ow3
 obtain ⟨o4,t4⟩:=nQ ow4
 have v1:=b_ 10 ia
 have v2:=b_ 10 ib
 have v3:=b_ 10 ic
 have v4:=nY 9 id
 have key:∃ F',cC E (ev E n) (opsOf (cutAt [1,0] (aA Tryz.f70).code)) ⟨52,F⟩ [O.cells 37 [.str x.name,a,b,c,d] true,O.cells 37 [.str [],.aC,.aC,.aC,.aC] true] = some (⟨52,F'⟩,τ4.set 0 (O.cells 37 [.str x.name,w1,w2,w3,w4] true)) /\ F'.get 1 = .ref 0 0 /\ F'.get 2 = F.get 2:=by
  unfold cC
  rw [h'.UC,h'.Wa]
  simp only [aA,Tryz.f70,KP,Ax.loadAt,Ax.storeAt,↓reduceIte,reduceEqDiff,reduceLT,reduceLeDiff,reduceAdd,reduceCtorEq,h.bB,h.fG,h.bJ,opsOf,cutAt,fO,bG,bW,jP,Ax.comp,Ax.last,fI,Ax.again,g1,c1,c2,c3,c4,b1,b2,b3,b4,s1,o1,o2,o3,o4,t1,t2,t3,t4,v2,v3,v4,List.set_set]
  exact ⟨_,rfl,(by simp +decide only [GS,g1,and_self])⟩
 obtain ⟨F',hD,f1,f2⟩:=key
 have n1:=Fk kp1
 have n2:=Fk kp2
 have n3:=Fk kp3
 have n0:([O.cells 37 [.str x.name,a,b,c,d] true,O.cells 37 [.str [],.aC,.aC,.aC,.aC] true]:Sg).length = 2:=rfl
 rw [n0] at n1 fr1
 have k2:∀ b,aQ w2 = some b -> 2 <= b:=fun b hb=>by have:=fr2 b hb; omega
 have k3:∀ b,aQ w3 = some b -> 2 <= b:=fun b hb=>by have:=fr3 b hb; omega
 have k4:∀ b,aQ w4 = some b -> 2 <= b:=fun b hb=>by have:=fr4 b hb; omega
 refine Eq.mpr (h_ hD) (hk F' _ w1 w2 w3 w4 f1 f2 (s1 _) (by rw [getElem?_set_ne (by decide)]; exact z4) (uK (ow1.keep fun c o _ hc=>kp4 c o (kp3 c o (kp2 c o hc))) fr1) (uK (ow2.keep fun c o _ hc=>kp4 c o (kp3 c o hc)) k2) (uK (ow3.keep fun c o _ hc=>kp4 c o hc) k3) (uK ow4 k4) fun b hb=>⟨k4 b hb,fun e=>?_,fun e=>?_,fun e=>?_⟩)
 ·have:=fr4 b hb; have:=tL ow1 e; omega
 ·have:=fr4 b hb; have:=tL ow2 e; omega
 ·have:=fr4 b hb; have:=tL ow3 e; omega
end
end
section
section
variable {E:Env} {Z:Sg} {K:V -> Sg -> Prop}
theorem zX {k:Nat} (hk:k < 5):∀ {R:List (List V)} {i:Nat} {r:List V},(∀ x ∈ R,x.length = 5) -> R[i]? = some r -> R.flatten[i * 5 + k]? = r[k]?
 | [],_,_,_,h=>by cases h
 | x :: R,0,r,hx,h=>by
  cases h
  rw [flatten_cons,Nat.zero_mul,Nat.zero_add,List.getElem?_append_left (by rw [hx _ (mem_cons_self ..)]; exact hk)]
 | x :: R,i + 1,r,hx,h=>by
  have hl:=hx _ (mem_cons_self ..)
  rw [flatten_cons,getElem?_append_right (by omega),show (i + 1) * 5 + k - x.length = i * 5 + k by omega]
  exact zX hk (fun y hy=>hx y (mem_cons_of_mem _ hy)) h
theorem Eo {k:Nat} {v:V} (hk:k < 5):∀ {R:List (List V)} {i:Nat} {r:List V},(∀ x ∈ R,x.length = 5) -> R[i]? = some r -> setCells R.flatten (i * 5 + k) [v] = (R.set i (r.set k v)).flatten
 | [],_,_,_,h=>by cases h
 | x :: R,0,r,hx,h=>by
  cases h
  have hl:=hx _ (mem_cons_self ..)
  rw [List.set_cons_zero,flatten_cons,flatten_cons,Nat.zero_mul,Nat.zero_add]
  unfold setCells
  rw [List.take_append_of_le_length (by omega),List.drop_append_of_le_length (by rw [List.length_singleton]; omega),List.set_eq_take_append_cons_drop,if_pos (by omega)]
  simp
 | x :: R,i + 1,r,hx,h=>by
  have hl:=hx _ (mem_cons_self ..)
  have ih:=Eo (v:=v) hk (fun y hy=>hx y (mem_cons_of_mem _ hy)) h
  rw [List.set_cons_succ,flatten_cons,flatten_cons,<- ih]
  unfold setCells
  rw [List.take_append,take_of_length_le (by omega),show (i + 1) * 5 + k - x.length = i * 5 + k by omega,List.drop_append,List.drop_of_length_le (by omega),show (i + 1) * 5 + k + [v].length - x.length = i * 5 + k + [v].length by omega]
  simp
theorem IC (h:bK E) {Y:Sg} {b i k:Nat} {R:List (List V)} {r:List V} {v:V} {ex:Bool} (hb:Y[b]? = some (.cells 75 R.flatten ex)) (hx:∀ x ∈ R,x.length = 5) (hr:R[i]? = some r) (hk:k < 5) (hv:r[k]? = some v):loadAt E Y 28 (.ref b (i * 5 + k)) = some v:=by
 unfold Ax.loadAt
 simp only [h.bB,hb,zX hk hx hr,hv,Ax.isAgg]
 rfl
theorem MR (h:bK E) {Y:Sg} {b i k:Nat} {R:List (List V)} {r:List V} {v:V} {ex:Bool} (hb:Y[b]? = some (.cells 75 R.flatten ex)) (hx:∀ x ∈ R,x.length = 5) (hr:R[i]? = some r) (hk:k < 5) (hc:v.cells = [v]) (ho:v.a_ = true):storeAt E Y 28 (.ref b (i * 5 + k)) v = some (Y.set b (.cells 75 (R.set i (r.set k v)).flatten ex)):=by
 unfold Ax.storeAt
 have hl:i * 5 + k + 1 <= R.flatten.length:=by
  have:=zX hk hx hr
  have hrl:=hx r (mem_of_getElem? hr)
  rw [List.getElem?_eq_getElem (show k < r.length by omega)] at this
  have:=(List.getElem?_eq_some_iff.1 this).1
  omega
 simp only [h.bB,hb,hc,length_cons,length_nil,List.all_cons,List.all_nil,ho,decide_eq_true hl,Eo hk hx hr]
 rfl
theorem TI (h:bK E) {b n i:Nat} (hi:i < n):indexAddr E 35 (.sl b 0 n none) (.int .i64 (i:Int)) = some (.ref b (i * 5)):=by
 unfold Ax.indexAddr
 simp only [h.fG,h.cR,show ¬ ((i:Int) < 0) by omega,if_false,Int.toNat_natCast,hi,if_true,Nat.zero_add]
theorem Nt {R:List (List V)} {i k:Nat} {r:List V} {v:V} (hx:∀ x ∈ R,x.length = 5) (hr:R[i]? = some r):∀ x ∈ R.set i (r.set k v),x.length = 5:=fun x hm=>by
 rcases List.mem_or_eq_of_mem_set hm with hm | rfl
 ·exact hx x hm
 ·rw [List.length_set]; exact hx r (mem_of_getElem? hr)
theorem Zb (h:bK E) (h':uX E) {x:aG} {w1 w2 w3 p q:V} {s:AxS.Step} {b n i:Nat} {R:List (List V)} {ex:Bool} {Y:Sg} (h0:Y[0]? = some (O.cells 37 [.str x.name,w1,w2,w3,.sl b 0 n none] true)) (hb:Y[b]? = some (.cells 75 R.flatten ex)) (hx:∀ x ∈ R,x.length = 5) (hr:R[i]? = some ([.str s.out,.int .i64 s.op,p,q,.int .i64 s.n])) (hi:i < n) (ip:IS aM p s.args) (iq:IS aM q s.lits) (l1:s.args.length <= 8) (l2:s.lits.length <= 3) (hb2:2 <= b)
  (F:FT) (g1:F.get 1 = .ref 0 0) (g3:F.get 3 = .int .i64 (i:Int)) {st:List jO} {Q:Ax.X -> Fr -> Sg -> Prop}
  (hk:∀ F' τ' wp wq,(∀ k,k ∈ [1,2,22,23] -> F'.get k = F.get k) -> τ'[b]? = some (.cells 75 (R.set i ([.str s.out,.int .i64 s.op,wp,wq,.int .i64 s.n])).flatten ex) -> bD aM 9 τ' wp s.args -> bD aM 9 τ' wq s.lits -> (∀ (c:Nat) (o:O),Y[c]? = some o -> c ≠ b -> τ'[c]? = some o) -> (∀ c,aQ wp = some c -> Y.length <= c) -> (∀ c,aQ wq = some c -> Y.length <= c) -> M E st .normal ⟨52,F'⟩ τ' Q) :
  Ax.R E (.region 5 (opsOf (cutAt [1,1,0,1,2,2,1,1,0,2,1] (aA Tryz.f70).code)) true) st ⟨52,F⟩ Y Q:=by
 obtain ⟨n1,wp,τ1,⟨ow1,kp1,fr1⟩,c1⟩:=aB.up (sK (Z:=Y) h ip (by omega))
 obtain ⟨n2,wq,τ2,⟨ow2,kp2,fr2⟩,c2⟩:=aB.up (sK (Z:=τ1) h iq (by omega))
 have c1:=c1 (n1 + n2) (by omega)
 have c2:=c2 (n1 + n2) (by omega)
 generalize n1 + n2 = m at c1 c2
 have h01:=kp1 _ _ h0
 have h02:=kp2 _ _ h01
 have hb1:=kp1 _ _ hb
 have hb2':=kp2 _ _ hb1
 obtain ⟨o1,t1⟩:=nQ ow1
 obtain ⟨o2,t2⟩:=nQ ow2
 have e1:=TI h hi (b:=b) (n:=n)
 have f1:=IC h hb hx hr (k:=2) (by decide) rfl
 have f2:=IC h hb1 hx hr (k:=3) (by decide) rfl
 have f2'':=IC h hb hx hr (k:=3) (by decide) rfl
 have s1:=MR h hb2' hx hr (k:=2) (v:=wp) (by decide) t1 o1
 have hbl:=(List.getElem?_eq_some_iff.1 hb2').1
 have hR:(R.set i ([.str s.out,.int .i64 s.op,wp,q,.int .i64 s.n]))[i]? = some ([.str s.out,.int .i64 s.op,wp,q,.int .i64 s.n]):=getElem?_set_self (List.getElem?_eq_some_iff.1 hr).1
 have s2:=MR h (Y:=τ2.set b (.cells 75 (R.set i ([.str s.out,.int .i64 s.op,wp,q,.int .i64 s.n])).flatten ex)) (v:=wq) (getElem?_set_self hbl) (Nt (k:=2) (v:=wp) hx hr) hR (k:=3) (by decide) t2 o2
 have s1:storeAt E τ2 28 (.ref b (i * 5 + 2)) wp = some (τ2.set b (.cells 75 (R.set i ([.str s.out,.int .i64 s.op,wp,q,.int .i64 s.n])).flatten ex)):=s1
 have s2:storeAt E (τ2.set b (.cells 75 (R.set i ([.str s.out,.int .i64 s.op,wp,q,.int .i64 s.n])).flatten ex)) 28 (.ref b (i * 5 + 3)) wq = some (τ2.set b (.cells 75 (R.set i ([.str s.out,.int .i64 s.op,wp,wq,.int .i64 s.n])).flatten ex)):=by
  rw [s2,List.set_set,List.set_set]
  rfl
 have lw:loadAt E Y 35 (.ref 0 4) = some (.sl b 0 n none):=by unfold Ax.loadAt; simp only [h.fG,h0]; rfl
 have lw1:loadAt E τ1 35 (.ref 0 4) = some (.sl b 0 n none):=by unfold Ax.loadAt; simp only [h.fG,h01]; rfl
 have lw2:loadAt E τ2 35 (.ref 0 4) = some (.sl b 0 n none):=by unfold Ax.loadAt; simp only [h.fG,h02]; rfl
 have lw3:∀ y,loadAt E (τ2.set b y) 35 (.ref 0 4) = some (.sl b 0 n none):=fun y=>by
  have h03:(τ2.set b y)[0]? = some (O.cells 37 [.str x.name,w1,w2,w3,.sl b 0 n none] true):=by rw [getElem?_set_ne (by omega)]; exact h02
  unfold Ax.loadAt; simp only [h.fG,h03]; rfl
 have vq:=b_ 10 iq
 have v0:pP 12 (.sl b 0 n none) (.sl b 0 n none) = true:=by unfold pP; simp
 have key:∃ F',cC E (ev E m) (opsOf (cutAt [1,1,0,1,2,2,1,1,0,2,1] (aA Tryz.f70).code)) ⟨52,F⟩ Y = some (⟨52,F'⟩,τ2.set b (.cells 75 (R.set i ([.str s.out,.int .i64 s.op,wp,wq,.int .i64 s.n])).flatten ex)) /\ (∀ k,k ∈ [1,2,22,23] -> F'.get k = F.get k):=by
  unfold cC
  rw [h'.UB,h'.V_]
  simp only [aA,Tryz.f70,KP,↓reduceIte,reduceEqDiff,reduceLT,reduceAdd,reduceCtorEq,h.bB,h.fG,h.bJ,h.cR,opsOf,cutAt,fO,bG,bW,jP,Ax.comp,Ax.last,fI,Ax.again,g1,g3,c1,c2,lw,lw1,lw2,lw3,e1,f1,f2,f2'',s1,s2,vq,v0]
  refine ⟨_,rfl,fun k hk=>?_⟩
  simp only [mem_cons,List.not_mem_nil,or_false] at hk
  rcases hk with rfl | rfl | rfl | rfl <;> simp +decide only [GS]
 obtain ⟨F',hD,hF⟩:=key
 have hlen1:=Fk kp1
 have hne:∀ {w:V},(∀ c,aQ w = some c -> Y.length <= c) -> aQ w ≠ some b:=fun hfr e=>by
  have:=hfr b e
  have:=(List.getElem?_eq_some_iff.1 hb).1
  omega
 have fr2':∀ c,aQ wq = some c -> Y.length <= c:=fun c hc=>by have:=fr2 c hc; omega
 refine Eq.mpr (h_ hD) (hk F' _ wp wq hF (getElem?_set_self hbl) (bD.set (ow1.keep fun c o _ hc=>kp2 c o hc) (hne fr1)) (bD.set ow2 (hne fr2')) (fun c o hc hcb=>?_) fr1 fr2')
 rw [getElem?_set_ne (Ne.symm hcb)]
 exact kp2 _ _ (kp1 _ _ hc)
end
end
section
section
variable {E:Env} {Z:Sg} {K:V -> Sg -> Prop}
theorem HG {β γ:Type} {P:β -> γ -> Prop}:∀ {a:List β} {b:List γ},eS P a b -> ∀ {j:Nat} {y:γ},b[j]? = some y -> ∃ x,a[j]? = some x /\ P x y
 | _,_,.nil,_,_,h=>by cases h
 | _ :: _,_ :: _,.cons h t,0,_,e=>by cases e; exact ⟨_,rfl,h⟩
 | _ :: _,_ :: _,.cons h t,j + 1,_,e=>by
  obtain ⟨x,h1,h2⟩:=HG t (j:=j) e
  exact ⟨x,h1,h2⟩
structure PI (Y:Sg) (b i:Nat) (R:List (List V)) (ex:Bool) (steps:List AxS.Step):Prop where
 hb:Y[b]? = some (.cells 75 R.flatten ex)
 len:R.length = steps.length
 IQ:∀ x ∈ R,x.length = 5
 row:∀ (j:Nat) (s:AxS.Step),steps[j]? = some s -> ∃ p q,R[j]? = some ([.str s.out,.int .i64 s.op,p,q,.int .i64 s.n]) /\ (j < i -> bD aM 9 Y p s.args /\ bD aM 9 Y q s.lits /\ aQ p ≠ some b /\ aQ q ≠ some b) /\ (i <= j -> IS aM p s.args /\ IS aM q s.lits)
theorem PI.start {Y:Sg} {b:Nat} {rs:List (List V)} {ex:Bool} {steps:List AxS.Step} (hb:Y[b]? = some (.cells 75 rs.flatten ex)) (ha:eS eX.P rs steps):PI Y b 0 rs ex steps:=by
 refine ⟨hb,ha.len,Lay.lens ha,fun j s hj=>?_⟩
 obtain ⟨r,h1,a,l,rfl,h2,h3⟩:=HG ha hj
 exact ⟨a,l,h1,fun h=>by omega,fun _=>⟨h2,h3⟩⟩
theorem PI.step {Y τ':Sg} {b i:Nat} {R:List (List V)} {ex:Bool} {steps:List AxS.Step} {s:AxS.Step} {wp wq:V} (h:PI Y b i R ex steps) (hs:steps[i]? = some s) (hb:τ'[b]? = some (.cells 75 (R.set i ([.str s.out,.int .i64 s.op,wp,wq,.int .i64 s.n])).flatten ex)) (o1:bD aM 9 τ' wp s.args) (o2:bD aM 9 τ' wq s.lits) (k:∀ (c:Nat) (o:O),Y[c]? = some o -> c ≠ b -> τ'[c]? = some o) (f1:∀ c,aQ wp = some c -> Y.length <= c) (f2:∀ c,aQ wq = some c -> Y.length <= c):PI τ' b (i + 1) (R.set i ([.str s.out,.int .i64 s.op,wp,wq,.int .i64 s.n])) ex steps:=by
 have hbl:=(List.getElem?_eq_some_iff.1 h.hb).1
 have hil:i < R.length:=by rw [h.len]; exact (List.getElem?_eq_some_iff.1 hs).1
 refine ⟨hb,by rw [List.length_set]; exact h.len,fun x hx=>?_,fun j t hj=>?_⟩
 ·rcases List.mem_or_eq_of_mem_set hx with hx | rfl
  ·exact h.IQ x hx
  ·rfl
 ·by_cases hij:i = j
  ·subst hij
   rw [hs] at hj
   cases hj
   refine ⟨wp,wq,getElem?_set_self hil,fun _=>⟨o1,o2,fun e=>?_,fun e=>?_⟩,fun h=>by omega⟩
   ·have:=f1 b e; omega
   ·have:=f2 b e; omega
  ·obtain ⟨p,q,h1,h2,h3⟩:=h.row j t hj
   refine ⟨p,q,by rw [getElem?_set_ne hij]; exact h1,fun hlt=>?_,fun hle=>h3 (by omega)⟩
   obtain ⟨a1,a2,a3,a4⟩:=h2 (by omega)
   exact ⟨a1.keep fun c o hc ho=>k c o ho (fun e=>a3 (by rw [hc,e])),a2.keep fun c o hc ho=>k c o ho (fun e=>a4 (by rw [hc,e])),a3,a4⟩
theorem Ti {Y:Sg} {w:V} {l:List aX} (ow:bD aM 9 Y w l):OL Y w l:=by
 rcases ow with h | ⟨b,rs,ex,rfl,hb,ha⟩
 ·exact .inl h
 ·obtain rfl:=Bp ha
  rw [CK] at hb
  exact .inr ⟨b,_,ex,rfl,hb,take_of_length_le (by rw [length_map]; exact Nat.le_refl _)⟩
theorem PY {v:V} {l:List aX} (h:Sq v l):kE aM v l:=by
 rcases h with h | ⟨full,rfl⟩
 ·exact .inl h
 ·exact .inr ⟨_,full,rfl,zF l⟩
theorem BS (h:bK E) {Y:Sg} {w:V} {l:List aX} {m:Nat} (ow:bD aM 9 Y w l):∃ v',bP Y E.ty false (m + 2) w = some v' /\ cF false v' = true /\ kE aM v' l:=by
 obtain ⟨v',h1,h2⟩:=(Ti ow).snap (m:=m) h
 exact ⟨v',h1,h2.tag,PY h2⟩
theorem GK {α β:Type} {f:α -> Option β}:∀ {a:List α} {a':List β} {b:List α} {b':List β},aW f a = some a' -> aW f b = some b' -> aW f (a ++ b) = some (a' ++ b')
 | [],a',b,b',h1,h2=>by cases h1; exact h2
 | x :: a,a',b,b',h1,h2=>by
  rw [aW] at h1
  cases hx:f x with
  | none=>rw [hx] at h1; cases h1
  | some y=>
   cases hm:aW f a with
   | none=>rw [hx,hm] at h1; cases h1
   | some l=>
    rw [hx,hm] at h1
    cases h1
    rw [List.cons_append,aW,hx,GK hm h2]
    rfl
theorem F8 (h:bK E) {Y:Sg} {b n:Nat} {R:List (List V)} {ex:Bool} {steps:List AxS.Step} (hs:PI Y b n R ex steps) (hn:n = steps.length):∃ v',bP Y E.ty false 12 (.sl b 0 n none) = some v' /\ cF false v' = true /\ kE gE v' steps:=by
 have key:∀ (R:List (List V)) (steps:List AxS.Step),R.length = steps.length -> (∀ (j:Nat) (s:AxS.Step),steps[j]? = some s -> ∃ p q,R[j]? = some ([.str s.out,.int .i64 s.op,p,q,.int .i64 s.n]) /\ bD aM 9 Y p s.args /\ bD aM 9 Y q s.lits) -> ∃ R',aW (fun v=>match bP Y E.ty false 11 v with
   | some v=>if cF false v then some v else Ax.no "snap: borrowed"
   | none=>none) R.flatten = some R'.flatten /\ eS gE.P R' steps:=by
  intro R
  induction R with
  | nil=>
   intro steps hl _
   have:steps = []:=List.eq_nil_of_length_eq_zero hl.symm
   subst this
   exact ⟨[],rfl,.nil⟩
  | cons r R ih=>
   intro steps hl hr
   cases steps with
   | nil=>cases hl
   | cons s steps=>
    obtain ⟨R',m1,a1⟩:=ih steps (by simpa using hl) fun j t hj=>hr (j + 1) t hj
    obtain ⟨p,q,h1,h2,h3⟩:=hr 0 s rfl
    cases h1
    obtain ⟨p',e1,t1,i1⟩:=BS (m:=9) h h2
    obtain ⟨q',e2,t2,i2⟩:=BS (m:=9) h h3
    refine ⟨([.str s.out,.int .i64 s.op,p',q',.int .i64 s.n]) :: R',?_,.cons ⟨p',q',rfl,i1,i2⟩ a1⟩
    rw [flatten_cons,flatten_cons]
    refine GK ?_ m1
    have es:∀ z:aX,bP Y E.ty false 11 (.str z) = some (.str z):=fun z=>jR rfl
    have ei:∀ z:Int,bP Y E.ty false 11 (.int .i64 z) = some (.int .i64 z):=fun z=>jR rfl
    have ts:∀ z:aX,cF false (.str z) = true:=fun _=>rfl
    have ti:∀ z:Int,cF false (.int .i64 z) = true:=fun _=>rfl
    simp only [aW,es,ei,ts,ti,e1,e2,t1,t2,if_true]
 obtain ⟨R',m1,a1⟩:=key R steps hs.len fun j s hj=>by
  obtain ⟨p,q,h1,h2,-⟩:=hs.row j s hj
  obtain ⟨a1,a2,-⟩:=h2 (by have:=(List.getElem?_eq_some_iff.1 hj).1; omega)
  exact ⟨p,q,h1,a1,a2⟩
 have hfl:R.flatten.length = n * 5:=by rw [m_ R hs.IQ,hs.len,hn]
 have htk:(R.flatten.drop 0).take (n * 5) = R.flatten:=by rw [drop_zero,take_of_length_le (by omega)]
 refine ⟨.bL false R' (ex && decide (0 < 5) && (0 + n * 5 == R.flatten.length)),?_,rfl,.inr ⟨R',_,rfl,a1⟩⟩
 rw [bP]
 simp only [hs.hb,h.cR]
 rw [if_pos (by omega)]
 have m2:aW (fun v=>match bP Y E.ty false 11 v with
   | some v=>if cF false v then some v else Ax.no "snap: borrowed"
   | none=>none) ((R.flatten.drop 0).take (n * 5)) = some R'.flatten:=by rw [htk]; exact m1
 refine Eq.trans (congrArg (fun o=>match o with
  | some l=>some (V.bL false (Ax.rows 5 n l) (ex && decide (0 < 5) && (0 + n * 5 == R.flatten.length)))
  | none=>none) m2) ?_
 show some (V.bL false (Ax.rows 5 n R'.flatten) _) = _
 have hl':n = R'.length:=by rw [a1.len,hn]
 rw [hl',show Ax.rows 5 R'.length R'.flatten = R' from lH (sz:=5) R' (Lay.lens (L:=gE) a1)]
end
end
section
section
variable {E:Env} {Z:Sg} {K:V -> Sg -> Prop}
def R9 (v:V) (x:aG):Prop:=∃ a b c d,v = .agg [.str x.name,a,b,c,d] /\ kE aM a x.ins /\ kE aM b x.outs /\ kE aM c x.after /\ kE gE d x.steps
theorem qD (h:bK E) {Y:Sg} {w:V} {l:List aX} (ow:bD aM 9 Y w l):∃ v',aV.one Y E.ty false w = some v' /\ kE aM v' l:=by
 obtain ⟨v',h1,h2,h3⟩:=BS (m:=10) h ow
 refine ⟨v',?_,h3⟩
 unfold aV.one
 rw [show dY = 10 + 2 from rfl,h1]
 simp only [h2,if_true]
theorem PI.Xd {Y:Sg} {b i u:Nat} {R:List (List V)} {ex:Bool} {steps:List AxS.Step} {cs:List V} {y:O} (h:PI Y b i R ex steps) (hz:Y[1]? = some (.cells u cs true)) (hu:u ≠ 9) (hb:2 <= b):PI (Y.set 1 y) b i R ex steps:=by
 refine ⟨by rw [getElem?_set_ne (by omega)]; exact h.hb,h.len,h.IQ,fun j s hj=>?_⟩
 obtain ⟨p,q,h1,h2,h3⟩:=h.row j s hj
 refine ⟨p,q,h1,fun hlt=>?_,h3⟩
 obtain ⟨a1,a2,a3,a4⟩:=h2 hlt
 exact ⟨bD.set a1 (kC hz hu a1),bD.set a2 (kC hz hu a2),a3,a4⟩
theorem Pk (h:bK E) (h':uX E) {v:V} {x:aG} (hv:HK v x) (hs:Small x):aB E 70 [v] Z fun v σ'=>σ' = Z /\ R9 v x:=by
 have ev:=hv.snap (E:=E) Z
 obtain ⟨a,b,c,d,rfl,ia,ib,ic,id⟩:=hv
 have o1:=aL ia.bE
 have o2:=aL ib.bE
 have o3:=aL ic.bE
 have o4:=aL id.bE
 have l4:=hs.steps
 rw [aH h'.hs70 h'.sp70 h'.fn70 h'.md70 (args':=[.agg [.str x.name,a,b,c,d]]) (by simp only [aW,ev]),aZ (by kernel_rfl)]
 simp only [aA,Tryz.f70,KP,↓reduceIte,reduceLT,reduceAdd,h.bJ,o1,o2,o3,o4]
 refine Zc h h' ia ib ic id hs _ ?_ ?_
 ·exact (by simp +decide only [GS])
 intro F1 τ1 w1 w2 w3 w4 g1 g2 b0 z0 ow1 ow2 ow3 ow4 sep
 have g2:F1.get 2 = .ref 1 0:=g2.trans (by simp +decide only [GS])
 obtain ⟨k1,t1⟩:=nQ ow1
 obtain ⟨k2,t2⟩:=nQ ow2
 obtain ⟨k3,t3⟩:=nQ ow3
 rcases ow4 with ⟨rfl,hst⟩ | ⟨b4,rs,ex,rfl,hb,ha⟩
 ·have ln:∀ Z,lenOf E Z 35 .aC = some 0:=fun Z=>by unfold lenOf; rw [h.fG]
  simp only [KP,Ax.loadAt,↓reduceIte,reduceLT,reduceCtorEq,h.fG,h.bJ,g1,b0,ln]
  rw [aF]
  have hz1:=(List.getElem?_eq_some_iff.1 z0).1
  have s1:∀ y,(τ1.set 1 y)[1]? = some y:=fun y=>getElem?_set_self hz1
  obtain ⟨a',e1,j1⟩:=qD h (bD.set (y:=O.cells 37 [.str x.name,w1,w2,w3,.aC] true) ow1 (kC z0 (by decide) ow1))
  obtain ⟨b',e2,j2⟩:=qD h (bD.set (y:=O.cells 37 [.str x.name,w1,w2,w3,.aC] true) ow2 (kC z0 (by decide) ow2))
  obtain ⟨c',e3,j3⟩:=qD h (bD.set (y:=O.cells 37 [.str x.name,w1,w2,w3,.aC] true) ow3 (kC z0 (by decide) ow3))
  have e0:∀ Y (z:aX),aV.one Y E.ty false (.str z) = some (.str z):=fun Y z=>rfl
  have e5:∀ Y,aV.one Y E.ty false .aC = some .aC:=fun Y=>rfl
  simp only [KP,Ax.loadAt,Ax.storeAt,↓reduceIte,reduceEqDiff,reduceLT,reduceAdd,Int.reduceLT,h.bJ,g1,g2,b0,z0,k1,k2,k3,s1,e0,e1,e2,e3,e5,cP,aV,aW]
  exact ⟨a',b',c',.aC,rfl,j1,j2,j3,.inl ⟨rfl,hst⟩⟩
 ·generalize hn:x.steps.length = n at *
  obtain ⟨hb2,d1,d2,d3⟩:=sep b4 rfl
  have ln:∀ Z,lenOf E Z 35 (.sl b4 0 n none) = some n:=fun Z=>by unfold lenOf; rw [h.fG]
  simp only [KP,Ax.loadAt,↓reduceIte,reduceLT,reduceCtorEq,h.fG,h.bJ,g1,b0,ln]
  refine aU (fun i F Y=>F.get 1 = .ref 0 0 /\ F.get 2 = .ref 1 0 /\ F.get 22 = .int .i64 (n:Int) /\ F.get 23 = .int .i64 (i:Int) /\ Y[0]? = some (O.cells 37 [.str x.name,w1,w2,w3,.sl b4 0 n none] true) /\ Y[1]? = some (O.cells 37 [.str [],.aC,.aC,.aC,.aC] true) /\ bD aM 9 Y w1 x.ins /\ bD aM 9 Y w2 x.outs /\ bD aM 9 Y w3 x.after /\ ∃ R,PI Y b4 i R ex x.steps) n ?_ ?_ n 0 _ _ (by omega) (gY (by simp +decide only [GS,g1,g2,and_self]) ⟨b0,z0,ow1,ow2,ow3,rs,PI.start hb ha⟩)
  ·rintro i F Y hi ⟨g1,g2,g22,g23,b0,z0,ow1,ow2,ow3,R,sa⟩ next
   obtain ⟨s,hsi⟩:∃ y,x.steps[i]? = some y:=⟨_,List.getElem?_eq_getElem (by omega)⟩
   obtain ⟨p,q,hr,-,hpq⟩:=sa.row i s hsi
   obtain ⟨ip,iq⟩:=hpq (Nat.le_refl _)
   have hsm:=mem_of_getElem? hsi
   have hlt:=eE hi
   have hadd:=bY i (by omega)
   rw [aF]
   simp only [KP,↓reduceIte,reduceEqDiff,reduceLT,g22,g23,hlt]
   refine Zb h h' b0 sa.hb sa.IQ hr hi ip iq (hs.args s hsm) (hs.lits s hsm) hb2 _ ?_ ?_ ?_
   ·exact (by simp +decide only [GS,g1])
   ·exact (by simp +decide only [GS])
   intro F' τ' wp wq hF hb' op oq hk f1 f2
   have q1:F'.get 1 = .ref 0 0:=(hF 1 (by simp)).trans (by simp +decide only [GS,g1])
   have q2:F'.get 2 = .ref 1 0:=(hF 2 (by simp)).trans (by simp +decide only [GS,g2])
   have q22:F'.get 22 = .int .i64 (n:Int):=(hF 22 (by simp)).trans (by simp +decide only [GS,g22])
   have q23:F'.get 23 = .int .i64 (i:Int):=(hF 23 (by simp)).trans (by simp +decide only [GS,g23])
   simp only [KP,↓reduceIte,reduceLT,q23,hadd]
   exact next _ _ (gY (by simp +decide only [GS,q1,q2,q22,and_self]) ⟨hk 0 _ b0 (by omega),hk 1 _ z0 (by omega),ow1.keep fun c o hc ho=>hk c o ho (fun e=>d1 (by rw [hc,e])),ow2.keep fun c o hc ho=>hk c o ho (fun e=>d2 (by rw [hc,e])),ow3.keep fun c o hc ho=>hk c o ho (fun e=>d3 (by rw [hc,e])),_,sa.step hsi hb' op oq hk f1 f2⟩)
  ·rintro F Y ⟨g1,g2,g22,g23,b0,z0,ow1,ow2,ow3,R,sa⟩
   have hlt:=eF (Nat.lt_irrefl n)
   have hz1:=(List.getElem?_eq_some_iff.1 z0).1
   have s1:∀ y,(Y.set 1 y)[1]? = some y:=fun y=>getElem?_set_self hz1
   obtain ⟨a',e1,j1⟩:=qD h (bD.set (y:=O.cells 37 [.str x.name,w1,w2,w3,.sl b4 0 n none] true) ow1 (kC z0 (by decide) ow1))
   obtain ⟨b',e2,j2⟩:=qD h (bD.set (y:=O.cells 37 [.str x.name,w1,w2,w3,.sl b4 0 n none] true) ow2 (kC z0 (by decide) ow2))
   obtain ⟨c',e3,j3⟩:=qD h (bD.set (y:=O.cells 37 [.str x.name,w1,w2,w3,.sl b4 0 n none] true) ow3 (kC z0 (by decide) ow3))
   obtain ⟨d',e4,t4,j4⟩:=F8 h (sa.Xd (y:=O.cells 37 [.str x.name,w1,w2,w3,.sl b4 0 n none] true) z0 (by decide) hb2) hn.symm
   have e4:aV.one (Y.set 1 (O.cells 37 [.str x.name,w1,w2,w3,.sl b4 0 n none] true)) E.ty false (.sl b4 0 n none) = some d':=by
    unfold aV.one
    rw [show dY = 12 from rfl,e4]
    simp only [t4,if_true]
   have e0:∀ Y (z:aX),aV.one Y E.ty false (.str z) = some (.str z):=fun Y z=>rfl
   rw [aF]
   simp only [KP,Ax.loadAt,Ax.storeAt,↓reduceIte,reduceEqDiff,reduceLT,reduceAdd,h.bJ,g1,g2,g22,g23,hlt,b0,z0,k1,k2,k3,s1,e0,e1,e2,e3,e4,cP,aV,aW]
   exact ⟨a',b',c',d',rfl,j1,j2,j3,j4⟩
end
end
end Go.Proofs.YtlbbdpkjeeiahaaGreatDoor
end
section
namespace Go.Proofs.YtlbbdpkjeeiahaaGreatDoor.Lb
open Go Go.Ax Go.AxS
section
def Mt (v:V) (l:List aK):Prop:=(v = .aC /\ l = []) \/ ∃ full,v = .bL false (l.map row) full
theorem Mt.lv {v:V} {l:List aK} (h:Mt v l):LV v l:=h.imp id fun ⟨full,e⟩=>⟨false,full,e⟩
section
variable {E:Env} {Z:Sg} {K:V -> Sg -> Prop}
theorem Sh (n:Nat):(if (20:Int) < (n:Int) then (20:Int) else (n:Int)) = ((min n 20:Nat):Int):=by
 split <;> omega
theorem nZ (l:List aK):AZ 2 (l.map row) = true:=by
 cases l with
 | nil=>rfl
 | cons x l=>rfl
theorem B8 (n:Nat) (h:n <= 1000000000000):roomy n 24 = true:=by
 unfold roomy
 rw [decide_eq_true_eq]
 omega
theorem DR (n:Nat) (h:n <= 1000000000000):lJ n 24 = true:=by
 unfold lJ
 rw [decide_eq_true_eq]
 omega
theorem qV (g full:Bool) (l:List aK):elems Z 2 (.bL g (l.map row) full) = some (l.flatMap row,l.length):=by
 show (if AZ 2 (l.map row) = true then some ((l.map row).flatten,(l.map row).length) else none) = _
 rw [nZ,if_pos rfl,CL,length_map]
theorem Zf (h:cU E) {v:V} {l:List aK} (hv:SV Z v l):aB E 20 [v] Z fun v' σ'=>σ' = Z /\ Mt v' (l.take 20):=by
 obtain ⟨v1,e1,hv1⟩:=Bk h hv
 rw [aH h.hs20 h.M_ h.fn20 h.md20 (args':=[v1]) (by simp only [aW,e1]),aZ (by kernel_rfl)]
 rcases hv1 with ⟨rfl,rfl⟩ | ⟨g,full,rfl⟩
 ·simp only [aA,Tryz.f20,KP,Ax.lenOf,↓reduceIte,reduceEqDiff,reduceLT,Nat.reduceBEq,reduceCtorEq,Int.reduceLT,Int.reduceLE,h.eI,h.mK,gT,Ax.slice,Ax.bound,Ax.append,Ax.elems,d_,lR]
  exact .inl ⟨rfl,rfl⟩
 ·have hb1:(0:Int) <= ((min l.length 20:Nat):Int):=Int.natCast_nonneg _
  have hb2:decide (((min l.length 20:Nat):Int) <= (l.length:Int)) = true:=decide_eq_true (by omega)
  have hm:(l.map row).take (min l.length 20) = (l.take 20).map row:=by
   rw [<- List.map_take]
   congr 1
   rw [List.take_eq_take_iff]
   omega
  have hl:(l.take 20).length <= 20:=by simp; omega
  have hr:=DR (l.take 20).length (by omega)
  by_cases hn:(l.take 20).length = 0
  ·simp only [aA,Tryz.f20,KP,Ax.lenOf,↓reduceIte,reduceEqDiff,reduceLT,Nat.reduceBEq,reduceCtorEq,h.eI,h.mK,gT,Ax.slice,Ax.bound,Ax.append,d_,lR,length_map,Sh,nZ,hb2,Int.toNat_natCast,Nat.sub_zero,hm,qV,hn]
   exact .inl ⟨rfl,List.length_eq_zero_iff.1 hn⟩
  ·simp only [aA,Tryz.f20,KP,Ax.lenOf,↓reduceIte,reduceEqDiff,reduceLT,Nat.reduceBEq,reduceCtorEq,h.eI,h.mK,gT,Ax.slice,Ax.bound,Ax.append,d_,lR,length_map,Sh,nZ,hb2,Int.toNat_natCast,Nat.sub_zero,hm,qV,hn,hr]
   obtain ⟨v',e,hv'⟩:=FB (Z:=[.cells 46 ((l.take 20).flatMap row) false]) h (.inr (.inr ⟨0,_,_,rfl,rfl,take_of_length_le (by rw [iI]; omega)⟩))
   rw [e]
   exact hv'
end
end
section
section
variable {E:Env} {Z:Sg} {K:V -> Sg -> Prop}
theorem Bj (n:Nat) (h:n <= 10000000000000):wr .i64 ((n:Int) + 1) = ((n + 1:Nat):Int):=by
 rw [yX,if_pos]
 ·rfl
 ·rw [Bool.and_eq_true,decide_eq_true_eq,decide_eq_true_eq]
  exact ⟨show (-9223372036854775808:Int) <= (n:Int) + 1 by omega,show (n:Int) + 1 <= (9223372036854775807:Int) by omega⟩
theorem yI (h:cU E) (c:Bool) (a b:Bool) (s t:List Nat):oA E 46 c (.agg [.bool a,.str s]) (.agg [.bool b,.str t]) = some (decide (((a,s):aK) = (b,t))):=by
 unfold oA
 simp only [h.eI,h.Rt,Ax.eqs]
 rw [xE]
 cases a <;> cases b <;> simp
theorem RL (h:cU E) (a b:Bool) (s t:List Nat):aB E 77 [.agg [.bool a,.str s],.agg [.bool b,.str t]] Z K = K (.bool (lt (a,s) (b,t))) Z:=by
 refine aB.of ?_
 rw [aH h.hs77 h.sp77 h.fn77 h.md77 (args':=[.agg [.bool a,.str s],.agg [.bool b,.str t]]) (rfl),aZ (by kernel_rfl)]
 cases a <;> cases b
 all_goals simp only [aA,Tryz.f77,KP,Ax.loadAt,↓reduceIte,reduceEqDiff,reduceLT,reduceAdd,reduceCtorEq,h.DB,h.c_,h.eI,oA]
 all_goals exact rfl
theorem Ke (h:cU E) {ops:Array Oper} {l:List Oper} {dst:Option Nat} {st:List jO} {Q:Ax.X -> Fr -> Sg -> Prop} {fr:Fr} (a b:Bool) (s t:List Nat):AV E 77 [.agg [.bool a,.str s],.agg [.bool b,.str t]] Z dst fr ops l st Q = dB E ops l (some (dV fr dst (.bool (lt (a,s) (b,t))),Z)) st Q:=Hr fun _=>RL h a b s t
theorem NH (h:cU E) {a b:V} {l m:List aK} (ha:LV a l) (hb:LV b m) (hlen:l.length = m.length) (hsm:l.length <= 1000000000000) {s:List jO} {Q:Ax.X -> Fr -> Sg -> Prop}
  (hT:l = m -> ∀ F',M E s .normal ⟨26,F'⟩ Z Q) (hF:l ≠ m -> ∀ F':FT,F'.get 4 = .bool false -> M E s .ret ⟨26,F'⟩ Z Q) :
  ∀ (k i:Nat) (F:FT),i + k = l.length -> l.take i = m.take i -> F.get 0 = a -> F.get 1 = b -> F.get 5 = .int .i64 (i:Int) -> R E (.loop (cutAt [1,1,0,1,2,2] (aA Tryz.f25).code)) (.blk 0 :: s) ⟨26,F⟩ Z Q:=by
 have la:lenOf E Z 40 a = some l.length:=wI h (ha.sv Z)
 have d6:=h.Y5
 simp only [aA,Tryz.f25,cutAt,Option.getD_some] at d6
 intro k
 induction k with
 | zero=>
  intro i F hi ht g0 g1 g5
  have hlt:decide ((i:Int) < (l.length:Int)) = false:=decide_eq_false (by omega)
  rw [aF]
  simp only [aA,Tryz.f25,KP,↓reduceIte,reduceEqDiff,reduceLT,reduceCtorEq,cutAt,g0,g5,la,hlt]
  refine hT ?_ _
  rw [take_of_length_le (by omega),take_of_length_le (by omega)] at ht
  exact ht
 | succ k ih=>
  intro i F hi ht g0 g1 g5
  have hlt:decide ((i:Int) < (l.length:Int)) = true:=decide_eq_true (by omega)
  obtain ⟨x,hx⟩:∃ x,l[i]? = some x:=⟨_,List.getElem?_eq_getElem (by omega)⟩
  obtain ⟨y,hy⟩:∃ y,m[i]? = some y:=⟨_,List.getElem?_eq_getElem (by omega)⟩
  obtain ⟨pa,e1,e2⟩:=sF h (ha.sv Z) hx
  obtain ⟨pb,e3,e4⟩:=sF h (hb.sv Z) hy
  have e2:=e2 Z (cQ.refl Z)
  have e4:=e4 Z (cQ.refl Z)
  have hadd:=Bj i (by omega)
  have t1:l.take (i + 1) = l.take i ++ [x]:=by rw [take_add_one,hx]; rfl
  have t2:m.take (i + 1) = m.take i ++ [y]:=by rw [take_add_one,hy]; rfl
  rw [aF]
  by_cases hxy:x = y
  ·have hd:decide (((x.1,x.2):aK) = (y.1,y.2)) = true:=decide_eq_true hxy
   simp only [aA,Tryz.f25,KP,↓reduceIte,reduceEqDiff,reduceLT,reduceCtorEq,cutAt,g0,g1,g5,la,hlt,aT d6,bM,e1,e2,e3,e4,yI h,hd,hadd]
   refine ih (i + 1) _ (by omega) (by rw [t1,t2,ht,hxy]) ?_ ?_ ?_ <;> simp only [FT.cJ,g0,g1,↓reduceIte,reduceEqDiff,reduceCtorEq]
  ·have hd:decide (((x.1,x.2):aK) = (y.1,y.2)) = false:=decide_eq_false hxy
   simp only [aA,Tryz.f25,KP,↓reduceIte,reduceEqDiff,reduceLT,reduceCtorEq,cutAt,g0,g1,g5,la,hlt,aT d6,bM,e1,e2,e3,e4,yI h,hd]
   refine hF (fun e=>?_) _ ?_
   ·subst e
    rw [hx] at hy
    exact hxy (Option.some.inj hy)
   ·simp only [FT.cJ,↓reduceIte]
theorem Pc (h:cU E) {v w:V} {l m:List aK} (hv:SV Z v l) (hw:SV Z w m) (hsm:l.length <= 1000000000000):aB E 25 [v,w] Z K = K (.bool (decide (l = m))) Z:=by
 refine aB.of ?_
 obtain ⟨a,e1,ha⟩:=Bk h hv
 obtain ⟨b,e2,hb⟩:=Bk h hw
 rw [aH h.hs25 h.M5 h.fn25 h.md25 (args':=[a,b]) (by simp only [aW,e1,e2]),aZ (by kernel_rfl)]
 have la:lenOf E [] 40 a = some l.length:=wI h (ha.sv [])
 have lb:lenOf E [] 40 b = some m.length:=wI h (hb.sv [])
 by_cases hlen:l.length = m.length
 ·have hd:decide ((l.length:Int) = (m.length:Int)) = true:=decide_eq_true (by omega)
  simp only [aA,Tryz.f25,KP,↓reduceIte,reduceEqDiff,reduceLT,reduceAdd,reduceCtorEq,la,lb,hd]
  refine NH h ha hb hlen hsm (fun e F'=>?_) (fun e F' g4=>?_) l.length 0 _ (by omega) rfl ?_ ?_ ?_
  ·simp only [KP,↓reduceIte,reduceLT]
   subst e
   rw [decide_eq_true rfl]
   exact rfl
  ·simp only [KP,↓reduceIte,reduceLT,g4]
   rw [decide_eq_false e]
   exact rfl
  all_goals simp only [FT.cJ,KP,↓reduceIte,reduceEqDiff,reduceCtorEq]
  all_goals rfl
 ·have hd:decide ((l.length:Int) = (m.length:Int)) = false:=decide_eq_false (by omega)
  simp only [aA,Tryz.f25,KP,↓reduceIte,reduceEqDiff,reduceLT,reduceAdd,reduceCtorEq,la,lb,hd]
  rw [decide_eq_false (fun e=>hlen (by rw [e]))]
  exact rfl
end
end
section
def mC (ks:List aK):List (V × V):=ks.map fun k=>(V.agg [.bool k.1,.str k.2],V.bool true)
structure bZ (Z:Sg) (b m:Nat) (ks:List aK):Prop where
 obj:Z[b]? = some (.cells 86 [.mp m] true)
 map:Z[m]? = some (.map (mC ks))
 nodup:ks.Nodup
def Kp (Z σ':Sg) (m:Nat):Prop:=∀ (j:Nat) (o:O),j ≠ m -> Z[j]? = some o -> σ'[j]? = some o
def lB (Z σ':Sg):Prop:=∀ (j:Nat) (o:O),Z[j]? = some o -> σ'[j]? = some o
theorem lB.refl (Z:Sg):lB Z Z:=fun _ _ h=>h
theorem lB.trans {Z Y ρ:Sg} (h:lB Z Y) (k:lB Y ρ):lB Z ρ:=fun j o e=>k j o (h j o e)
theorem lB.app (Z Y:Sg):lB Z (Z ++ Y):=fun _ _ h=>jV h Y
theorem lB.tR {Z σ':Sg} (h:lB Z σ'):cQ Z σ':=fun b t cs ex e=>h _ _ e
theorem Kp.refl (Z:Sg) (m:Nat):Kp Z Z m:=fun _ _ _ h=>h
theorem Kp.trans {Z Y ρ:Sg} {m:Nat} (h:Kp Z Y m) (k:Kp Y ρ m):Kp Z ρ m:=fun j o hj e=>k j o hj (h j o hj e)
theorem Kp.tR {Z σ':Sg} {m:Nat} {es:List (V × V)} (h:Kp Z σ' m) (hm:Z[m]? = some (.map es)):cQ Z σ':=fun b t cs ex e=>h _ _ (fun hb=>by subst hb; rw [hm] at e; cases e) e
theorem lB.kp {Z σ':Sg} (h:lB Z σ') (m:Nat):Kp Z σ' m:=fun j o _ e=>h j o e
theorem bZ.ne {Z:Sg} {b m:Nat} {ks:List aK} (h:bZ Z b m ks):b ≠ m:=fun e=>by
 subst e; have:=h.obj; rw [h.map] at this; cases this
theorem bZ.kD {Z σ':Sg} {b m:Nat} {ks:List aK} (h:bZ Z b m ks) (k:lB Z σ'):bZ σ' b m ks:=⟨k _ _ h.obj,k _ _ h.map,h.nodup⟩
theorem bZ.kp {Z σ':Sg} {b m m':Nat} {ks ks':List aK} {b':Nat} (h:bZ Z b m ks) (h':bZ Z b' m' ks') (hm:m ≠ m') (k:Kp Z σ' m'):bZ σ' b m ks:=
 ⟨k _ _ (fun e=>by subst e; have:=h.obj; rw [h'.map] at this; cases this) h.obj,k _ _ hm h.map,h.nodup⟩
section
variable {E:Env} {Z:Sg} {K:V -> Sg -> Prop}
theorem qT (h:cU E) (a b:Bool) (s t:List Nat):eO E 46 (.agg [.bool a,.str s]) (.agg [.bool b,.str t]) = some (decide (((a,s):aK) = (b,t))):=by
 unfold eO
 simp only [h.eI,h.Rt,Ax.eqs]
 rw [xE]
 cases a <;> cases b <;> simp
theorem qP (h:cU E) (a:Bool) (s:List Nat):dS E 46 (.agg [.bool a,.str s]) = true:=by
 unfold dS
 simp only [h.eI,h.Rt,Ax.eqs]
 rfl
theorem II (y:aK) (r:List aK) (x:aK) (hxy:x ≠ y):jL (y :: r) x = y :: jL r x:=by
 unfold jL
 by_cases hx:x ∈ r
 ·rw [if_pos hx,if_pos (mem_cons_of_mem _ hx)]
 ·rw [if_neg hx,if_neg (by simp [hxy,hx])]; rfl
theorem D6 (h:cU E) (x:aK):∀ ks:List aK,kK (eO E 46) (.agg [.bool x.1,.str x.2]) (.bool true) (mC ks) = some (mC (jL ks x))
 | []=>rfl
 | y :: r=>by
  show (match eO E 46 (.agg [.bool x.1,.str x.2]) (.agg [.bool y.1,.str y.2]) with
   | some true=>some ((V.agg [.bool x.1,.str x.2],V.bool true) :: mC r)
   | some false=>(match kK (eO E 46) (.agg [.bool x.1,.str x.2]) (.bool true) (mC r) with
    | some r'=>some ((V.agg [.bool y.1,.str y.2],V.bool true) :: r')
    | none=>none)
   | none=>none) = _
  rw [qT h,D6 h x r]
  by_cases hxy:x = y
  ·rw [decide_eq_true (show ((x.1,x.2):aK) = (y.1,y.2) from hxy)]
   subst hxy
   unfold jL
   rw [if_pos (mem_cons_self ..)]
   rfl
  ·rw [decide_eq_false (show ¬ ((x.1,x.2):aK) = (y.1,y.2) from hxy),II y r x hxy]
   rfl
theorem KW (h:cU E) (a:Bool) (s:List Nat):storeAt E (Z ++ [.cells 46 [.bool false,.str []] true]) 46 (.ref Z.length 0) (.agg [.bool a,.str s]) = some (Z ++ [.cells 46 [.bool a,.str s] true]):=by
 unfold storeAt
 simp only [h.eI]
 rw [getElem?_append_right (Nat.le_refl _),Nat.sub_self]
 refine (if_pos rfl).trans ?_
 rw [List.set_append_right _ _ (Nat.le_refl _),Nat.sub_self]
 rfl
theorem Oi (h:cU E) (a:Bool) (s:List Nat):loadAt E (Z ++ [.cells 46 [.bool a,.str s] true]) 46 (.ref Z.length 0) = some (.agg [.bool a,.str s]):=by
 unfold loadAt
 simp only [h.eI]
 rw [getElem?_append_right (Nat.le_refl _),Nat.sub_self]
 rfl
theorem qM (h:cU E) {b m:Nat} (hb:Z[b]? = some (.cells 86 [.mp m] true)):loadAt E Z 82 (.ref b 0) = some (.mp m):=by
 unfold loadAt
 simp only [h.vA,hb]
 rfl
theorem E3 (h:cU E) {m:Nat} {ks:List aK} (hm:Z[m]? = some (.map (mC ks))) (x:aK):mapUpdate E Z 82 (.mp m) (.agg [.bool x.1,.str x.2]) (.bool true) = some (Z.set m (.map (mC (jL ks x)))):=by
 unfold mapUpdate
 simp only [h.vA,qP h,hm,D6 h]
 rfl
theorem Br (h:cU E) {m:Nat} {ks:List aK} (hm:Z[m]? = some (.map (mC ks))):lenOf E Z 82 (.mp m) = some ks.length:=by
 unfold lenOf
 simp only [h.vA,hm]
 simp [mC]
theorem HO (h:cU E) {b m:Nat} {ks l:List aK} {v:V} {n0:Int} (hsm:l.length <= 10000000000) {σ0:Sg} {s:List jO} {Q:Ax.X -> Fr -> Sg -> Prop}
  (hQ:∀ (F':FT) (σ':Sg),bZ σ' b m (keys ks l) -> Kp σ0 σ' m -> F'.get 0 = .ref b 0 -> F'.get 5 = .int .i64 n0 -> M E s .normal ⟨48,F'⟩ σ' Q) :
  ∀ (k i:Nat) (F:FT) (σ':Sg),i + k = l.length -> bZ σ' b m (keys ks (l.take i)) -> SV σ' v l -> Kp σ0 σ' m -> F.get 0 = .ref b 0 -> F.get 5 = .int .i64 n0 -> F.get 27 = v -> F.get 28 = .int .i64 (l.length:Int) -> F.get 29 = .int .i64 (i:Int) ->
   R E (.loop (cutAt [1,1,1,1,0,1,2,2] (aA Tryz.f71).code)) (.blk 0 :: s) ⟨48,F⟩ σ' Q:=by
 have d9:=h.YZ
 simp only [aA,Tryz.f71,cutAt,Option.getD_some] at d9
 intro k
 induction k with
 | zero=>
  intro i F σ' hi hs hv hk g0 g5 g27 g28 g29
  have hlt:decide ((i:Int) < (l.length:Int)) = false:=decide_eq_false (by omega)
  rw [aF]
  simp only [aA,Tryz.f71,KP,↓reduceIte,reduceLT,cutAt,g28,g29,hlt]
  rw [take_of_length_le (by omega)] at hs
  refine hQ _ _ hs hk ?_ ?_ <;> simp only [FT.cJ,g0,g5,↓reduceIte,reduceEqDiff,reduceCtorEq]
 | succ k ih=>
  intro i F σ' hi hs hv hk g0 g5 g27 g28 g29
  have hlt:decide ((i:Int) < (l.length:Int)) = true:=decide_eq_true (by omega)
  obtain ⟨x,hx⟩:∃ x,l[i]? = some x:=⟨_,List.getElem?_eq_getElem (by omega)⟩
  obtain ⟨pa,e1,e2⟩:=sF h hv hx
  have e2:=e2 _ (cQ.refl _)
  have hadd:=Bj i (by omega)
  have lm:=qM h (jV hs.obj [.cells 46 [.bool x.1,.str x.2] true])
  have pm:=E3 h (jV hs.map [.cells 46 [.bool x.1,.str x.2] true]) x
  rw [aF]
  simp only [aA,Tryz.f71,KP,↓reduceIte,reduceEqDiff,reduceLT,reduceCtorEq,h.eI,h.vA,h.u_,h.AY,cutAt,g0,g27,g28,g29,hlt,e1,e2,KW h,Oi h,lm,pm,aT d9,bM,hadd]
  have hml:=(List.getElem?_eq_some_iff.1 hs.map).1
  refine ih (i + 1) _ _ (by omega) ⟨?_,?_,?_⟩ ?_ ?_ ?_ ?_ ?_ ?_ ?_
  ·rw [getElem?_set_ne hs.ne.symm]
   exact jV hs.obj _
  ·rw [getElem?_set_self (by rw [length_append]; omega)]
   rw [take_add_one,hx]
   show some (O.map (mC (jL (keys ks (l.take i)) x))) = some (O.map (mC (List.foldl jL ks (l.take i ++ [x]))))
   rw [List.foldl_append]
   rfl
  ·rw [take_add_one,hx]
   show (List.foldl jL ks (l.take i ++ [x])).Nodup
   rw [List.foldl_append]
   exact GU hs.nodup
  ·refine hv.keep fun j t cs ex e=>?_
   rw [getElem?_set_ne (fun hj=>by subst hj; rw [hs.map] at e; cases e)]
   exact jV e _
  ·refine hk.trans fun j o hj e=>?_
   rw [getElem?_set_ne (fun h=>hj h.symm)]
   exact jV e _
  all_goals simp only [FT.cJ,g0,g5,g27,g28,↓reduceIte,reduceEqDiff,reduceCtorEq]
theorem Su (a b:Nat) (ha:a <= 1000000000000) (hb:b <= 1000000000000):wr .i64 ((a:Int) - (b:Int)) = (a:Int) - (b:Int):=by
 rw [yX,if_pos]
 rw [Bool.and_eq_true,decide_eq_true_eq,decide_eq_true_eq]
 exact ⟨show (-9223372036854775808:Int) <= _ by omega,show _ <= (9223372036854775807:Int) by omega⟩
theorem HA (h:cU E) {b m:Nat} {ks l:List aK} {v:V} (hs:bZ Z b m ks) (hv:SV Z v l) (hsm:l.length <= 10000000000) (hks:ks.length <= 10000000000) :
  aB E 71 [.ref b 0,v] Z fun r σ'=>r = .int .i64 (((keys ks l).length:Int) - (ks.length:Int)) /\ bZ σ' b m (keys ks l) /\ Kp Z σ' m:=by
 rw [dF h.Xl h.UM h.X9 h.Wn,aZ (by kernel_rfl)]
 have lm:=qM h hs.obj
 have lk:=Br h hs.map
 have lv:lenOf E Z 40 v = some l.length:=wI h hv
 simp only [aA,Tryz.f71,KP,↓reduceIte,reduceEqDiff,reduceLT,reduceAdd,reduceCtorEq,h.tA,h.vA,h.u_,h.AY,lm,lk,lv,oA]
 refine HO h hsm (σ0:=Z) (n0:=(ks.length:Int)) (fun F' σ' hs' hk' g0 g5=>?_) l.length 0 _ Z (by omega) hs hv (Kp.refl _ _) ?_ ?_ ?_ ?_ ?_
 ·have lm2:=qM h hs'.obj
  have lk2:=Br h hs'.map
  have hl:=pJ (xs:=l) (l:=ks)
  have hsub:=Su (keys ks l).length ks.length (by omega) (by omega)
  simp only [KP,↓reduceIte,reduceEqDiff,reduceLT,reduceCtorEq,h.vA,h.u_,h.AY,lm2,lk2,g0,g5,hsub]
  exact ⟨hs',hk'⟩
 all_goals simp only [FT.cJ,KP,↓reduceIte,reduceEqDiff,reduceCtorEq]
 all_goals rfl
end
end
section
section
variable {E:Env} {Z:Sg} {K:V -> Sg -> Prop}
theorem Oh (h:cU E) {b:Nat} (hb:Z[b]? = some (.cells 86 [.bU] true)):loadAt E Z 82 (.ref b 0) = some .bU:=by
 unfold loadAt
 simp only [h.vA,hb]
 rfl
theorem KX (h:cU E) {b m:Nat} {u:V} (hb:Z[b]? = some (.cells 86 [u] true)):storeAt E Z 82 (.ref b 0) (.mp m) = some (Z.set b (.cells 86 [.mp m] true)):=by
 unfold storeAt
 simp only [h.vA,hb]
 rfl
theorem Ps (h:cU E) {b:Nat} {l:List aK} {v:V} (hb:Z[b]? = some (.cells 86 [.bU] true)) (hv:SV Z v l) (hsm:l.length <= 10000000000) :
  aB E 71 [.ref b 0,v] Z fun r σ'=>∃ m,bZ σ' b m (keys [] l) /\ Z.length <= m /\ ∀ j o,j ≠ b -> Z[j]? = some o -> σ'[j]? = some o:=by
 rw [dF h.Xl h.UM h.X9 h.Wn,aZ (by kernel_rfl)]
 have hbl:=(List.getElem?_eq_some_iff.1 hb).1
 have ln:=Oh h hb
 have st:=KX h (m:=Z.length) (jV hb [.map []])
 have hs1:bZ ((Z ++ [O.map []]).set b (.cells 86 [.mp Z.length] true)) b Z.length []:=by
  refine ⟨getElem?_set_self (by rw [length_append]; omega),?_,nodup_nil⟩
  rw [getElem?_set_ne (by omega),getElem?_append_right (Nat.le_refl _),Nat.sub_self]
  rfl
 have hk1:∀ j o,j ≠ b -> Z[j]? = some o -> ((Z ++ [O.map []]).set b (.cells 86 [.mp Z.length] true))[j]? = some o:=fun j o hj e=>by
  rw [getElem?_set_ne (fun e=>hj e.symm)]
  exact jV e _
 have hv1:SV ((Z ++ [O.map []]).set b (.cells 86 [.mp Z.length] true)) v l:=by
  rcases hv with hv | hv | ⟨j,cs,ex,e1,e2,e3⟩
  ·exact .inl hv
  ·exact .inr (.inl hv)
  ·refine .inr (.inr ⟨j,cs,ex,e1,hk1 j _ (fun e=>?_) e2,e3⟩)
   subst e; rw [hb] at e2; cases e2
 have lm:=qM h hs1.obj
 have lk:=Br h hs1.map
 have lv:∀ σ',lenOf E σ' 40 v = some l.length:=fun σ'=>by
  unfold lenOf
  rw [h.mK]
  rcases hv with ⟨rfl,rfl⟩ | ⟨g,full,rfl⟩ | ⟨j,cs,ex,rfl,e2,e3⟩
  ·rfl
  ·simp
  ·rfl
 simp only [aA,Tryz.f71,KP,↓reduceIte,reduceEqDiff,reduceLT,reduceAdd,reduceCtorEq,h.tA,h.vA,h.u_,h.AY,ln,st,lm,lk,lv,oA]
 refine HO h hsm (σ0:=(Z ++ [O.map []]).set b (.cells 86 [.mp Z.length] true)) (n0:=0) (fun F' σ' hs' hk' g0 g5=>?_) l.length 0 _ _ (by omega) hs1 hv1 (Kp.refl _ _) ?_ ?_ ?_ ?_ ?_
 ·have lm2:=qM h hs'.obj
  have lk2:=Br h hs'.map
  simp only [KP,↓reduceIte,reduceEqDiff,reduceLT,reduceCtorEq,h.vA,h.u_,h.AY,lm2,lk2,g0,g5]
  refine ⟨Z.length,hs',Nat.le_refl _,fun j o hj e=>?_⟩
  have hjl:=(List.getElem?_eq_some_iff.1 e).1
  exact hk' j o (by omega) (hk1 j o hj e)
 all_goals simp only [FT.cJ,KP,↓reduceIte,reduceEqDiff,reduceCtorEq]
 all_goals rfl
theorem Po (h:cU E) {l:List aK} {v:V} (hv:SV Z v l) (hsm:l.length <= 10000000000) :
  aB E 44 [v] Z fun r σ'=>∃ m,r = .ref Z.length 0 /\ bZ σ' Z.length m (keys [] l) /\ Z.length < m /\ lB Z σ':=by
 rw [dF h.hs44 h.sp44 h.fn44 h.md44,aZ (by kernel_rfl)]
 simp only [aA,Tryz.f44,KP,↓reduceIte,reduceEqDiff,reduceLT,reduceCtorEq,h.u_,h.AY,Ax.fill]
 have hb:(Z ++ [O.cells 86 [.bU] true])[Z.length]? = some (.cells 86 [.bU] true):=by
  rw [getElem?_append_right (Nat.le_refl _),Nat.sub_self]; rfl
 refine aI (Ps h hb (hv.keep (cQ.app _ _)) hsm) ?_
 rintro r σ' ⟨m,hs,hm,hk⟩
 simp only [KP,↓reduceIte,reduceEqDiff,reduceLT]
 rw [length_append] at hm
 refine ⟨m,hs,by simp at hm; omega,fun j o e=>?_⟩
 have hjl:=(List.getElem?_eq_some_iff.1 e).1
 exact hk j o (by omega) (jV e _)
theorem DP (ks:List aK):(mC ks).map (fun (e:V × V)=>rowOf e.1) = ks.map row:=by
 unfold mC
 rw [map_map]
 rfl
theorem wQ:∀ ks:List aK,(∀ k ∈ ks,k.2.length <= 9223372036854775807) -> allRows kQ (ks.map row) = true
 | [],_=>rfl
 | k :: ks,hk=>by
  show (match Nat.ble k.2.length 9223372036854775807 with
   | true=>allRows kQ (ks.map row)
   | false=>false) = true
  rw [Nat.ble_eq_true_of_le (hk k (mem_cons_self ..))]
  exact wQ ks fun x hx=>hk x (mem_cons_of_mem _ hx)
theorem KZ {ks:List aK} (hn:ks.Nodup) (hlen:ks.length <= 1000000) (hstr:∀ k ∈ ks,k.2.length <= 9223372036854775807) {j m:Nat} (hj:Z[j]? = some (.cells 82 [.mp m] true)) (hm:Z[m]? = some (.map (mC ks))) :
  kS 46 [129] [] 89 [.fn 129 [] [.ref j 0],.fn 89 [] []] Z = some (if ks = [] then (.aC,Z) else (.sl Z.length 0 ks.length none,Z ++ [.cells 46 ((setOf ks).flatMap row) false])):=by
 have hk:keysOf Z [129] [] (.fn 129 [] [.ref j 0]) = some (ks.map row):=by
  unfold keysOf
  simp only [hj]
  show (match Z[m]? with
   | some (.map es)=>some (es.map fun (e:V × V)=>rowOf e.1)
   | _=>none) = _
  rw [hm]
  exact congrArg some (DP ks)
 show pK 46 [129] [] kQ qN (.fn 129 [] [.ref j 0]) Z = _
 unfold pK
 rw [hk]
 cases hks:ks with
 | nil=>rfl
 | cons k r=>
  have ha:=wQ ks hstr
  have hs:=DF hn
  rw [hks] at ha hs hlen
  rw [map_cons] at ha hs ⊢
  rw [if_neg (by simp)]
  show (match allRows kQ (row k :: r.map row),Nat.ble (row k :: r.map row).length 1000000 with
   | true,true=>some (V.sl Z.length 0 (row k :: r.map row).length none,Z ++ [O.cells 46 (kH qN (row k :: r.map row)).flatten false])
   | _,_=>none) = _
  rw [ha,Nat.ble_eq_true_of_le (by simpa using hlen),hs,CL]
  simp
theorem Ub (h:cU E) {m:Nat}:aB E 88 [.mp m] Z K = K (.fn 129 [] [.ref Z.length 0]) (Z ++ [.cells 82 [.mp m] true]):=by
 refine aB.of ?_
 rw [dF h.Xi h.UK h.X7 h.Wl,aZ (by kernel_rfl)]
 simp only [aA,Tryz.f88,KP,↓reduceIte,reduceEqDiff,reduceLT,h.vA]
theorem TG (h:cU E) {m:Nat} {ops:Array Oper} {l:List Oper} {dst:Option Nat} {st:List jO} {Q:Ax.X -> Fr -> Sg -> Prop} {fr:Fr}:AV E 88 [.mp m] Z dst fr ops l st Q = dB E ops l (some (dV fr dst (.fn 129 [] [.ref Z.length 0]),Z ++ [.cells 82 [.mp m] true])) st Q:=Hr fun _=>Ub h
def Own (Z σ':Sg) (r:V) (l:List aK):Prop:=(r = .aC /\ l = []) \/ ∃ j,Z.length <= j /\ r = .sl j 0 l.length none /\ σ'[j]? = some (.cells 46 (l.flatMap row) false)
theorem Own.sv {Z σ':Sg} {r:V} {l:List aK} (h:Own Z σ' r l):SV σ' r l:=by
 rcases h with h | ⟨j,_,h1,h2⟩
 ·exact .inl h
 ·exact .inr (.inr ⟨j,_,_,h1,h2,take_of_length_le (by rw [iI]; exact Nat.le_refl _)⟩)
theorem Zj (h:cU E) {b m:Nat} {ks:List aK} (hs:bZ Z b m ks) (hlen:ks.length <= 1000000) (hstr:∀ k ∈ ks,k.2.length <= 9223372036854775807) :
  aB E 50 [.ref b 0] Z fun r σ'=>Own Z σ' r (setOf ks) /\ lB Z σ':=by
 rw [dF h.Xm h.UN h.X_ h.Wo,aZ (by kernel_rfl)]
 have lm:=qM h hs.obj
 simp only [aA,Tryz.f50,KP,↓reduceIte,reduceLT,reduceCtorEq,h.vA,h.u_,h.Jr,lm,oA,TG h]
 have hj:(Z ++ [O.cells 82 [.mp m] true])[Z.length]? = some (.cells 82 [.mp m] true):=by
  rw [getElem?_append_right (Nat.le_refl _),Nat.sub_self]; rfl
 have hsk:=KZ hs.nodup hlen hstr hj (jV hs.map _)
 unfold AV
 rw [nP h.Xj,hsk]
 by_cases hks:ks = []
 ·rw [if_pos hks,G7]
  simp only [KP,↓reduceIte,reduceLT]
  subst hks
  exact ⟨.inl ⟨rfl,rfl⟩,lB.app _ _⟩
 ·rw [if_neg hks,G7]
  simp only [KP,↓reduceIte,reduceLT]
  refine ⟨.inr ⟨_,?_,by rw [xA hs.nodup],?_⟩,fun j o e=>jV (jV e _) _⟩
  ·rw [length_append]; omega
  ·rw [getElem?_append_right (Nat.le_refl _),Nat.sub_self]; rfl
end
end
section
section
variable {E:Env} {Z:Sg} {K:V -> Sg -> Prop}
theorem GJ {α:Type} {f:α -> Option α}:∀ l:List α,(∀ x ∈ l,f x = some x) -> aW f l = some l
 | [],_=>rfl
 | x :: l,h=>by rw [aW,h x (mem_cons_self ..),GJ l fun y hy=>h y (mem_cons_of_mem _ hy)]
theorem Cj (h:cU E) (x:aK):∀ ks:List aK,iQ (eO E 46) (.agg [.bool x.1,.str x.2]) (mC ks) = some (if x ∈ ks then some (.bool true) else none)
 | []=>rfl
 | y :: r=>by
  show (match eO E 46 (.agg [.bool x.1,.str x.2]) (.agg [.bool y.1,.str y.2]) with
   | some true=>some (some (V.bool true))
   | some false=>iQ (eO E 46) (.agg [.bool x.1,.str x.2]) (mC r)
   | none=>none) = _
  rw [qT h,Cj h x r]
  by_cases hxy:x = y
  ·rw [decide_eq_true (show ((x.1,x.2):aK) = (y.1,y.2) from hxy)]
   show some (some (V.bool true)) = some (if x ∈ y :: r then some (V.bool true) else none)
   rw [if_pos (by rw [hxy]; exact mem_cons_self ..)]
  ·rw [decide_eq_false (show ¬ ((x.1,x.2):aK) = (y.1,y.2) from hxy)]
   by_cases hx:x ∈ r
   ·rw [if_pos hx,if_pos (mem_cons_of_mem _ hx)]
   ·rw [if_neg hx,if_neg (by simp [hxy,hx])]
structure UnionE (E:Env):Prop where
 hs:E.hspec 46 = none
 sp:E.spec 46 = none
 fn:E.fn 46 = some (aA Tryz.f46)
 md:E.mode 46 = .shared
end
end
end Go.Proofs.YtlbbdpkjeeiahaaGreatDoor.Lb
end
section
namespace Go.Proofs.YtlbbdpkjeeiahaaGreatDoor
open Go Go.Ax Go.AxS
section
section
variable {E:Env} {Z:Sg} {K:V -> Sg -> Prop}
structure dD where
 key:aK
 s:Nat
 m:Nat
 ks:List aK
def oO (x:aK):V:=.agg [.bool x.1,.str x.2]
def nT (e:dD):V × V:=(oO e.key,.ref e.s 0)
structure iK (Z:Sg) (b:Nat) (L:List dD):Prop where
 map:Z[b]? = some (.map (L.map nT))
 sets:∀ e ∈ L,Lb.bZ Z e.s e.m e.ks
 nodup:(L.map dD.key).Nodup
theorem Ck (hl:Lb.cU E) (x:aK):∀ L:List dD,iQ (eO E 46) (oO x) (L.map nT) = some ((L.find? fun e=>decide (x = e.key)).map fun e=>.ref e.s 0)
 | []=>rfl
 | e :: L=>by
  show (match eO E 46 (.agg [.bool x.1,.str x.2]) (.agg [.bool e.key.1,.str e.key.2]) with
   | some true=>some (some (V.ref e.s 0))
   | some false=>iQ (eO E 46) (oO x) (L.map nT)
   | none=>none) = _
  rw [Lb.qT hl,find?_cons]
  by_cases h:x = e.key
  ·rw [decide_eq_true (show ((x.1,x.2):aK) = (e.key.1,e.key.2) from h)]; rfl
  ·rw [decide_eq_false (show ¬ ((x.1,x.2):aK) = (e.key.1,e.key.2) from h)]
   exact Ck hl x L
theorem D7 (hl:Lb.cU E) (x:aK) (s m:Nat) (ks:List aK):∀ L:List dD,(∀ e ∈ L,x ≠ e.key) -> kK (eO E 46) (oO x) (.ref s 0) (L.map nT) = some ((L ++ [dD.mk x s m ks]).map nT)
 | [],_=>rfl
 | e :: L,h=>by
  have hx:=h e (mem_cons_self ..)
  show (match eO E 46 (.agg [.bool x.1,.str x.2]) (.agg [.bool e.key.1,.str e.key.2]) with
   | some true=>some ((oO x,V.ref s 0) :: L.map nT)
   | some false=>(match kK (eO E 46) (oO x) (.ref s 0) (L.map nT) with
    | some r=>some (nT e :: r)
    | none=>none)
   | none=>none) = _
  rw [Lb.qT hl,decide_eq_false (show ¬ ((x.1,x.2):aK) = (e.key.1,e.key.2) from hx),D7 hl x s m ks L fun y hy=>h y (mem_cons_of_mem _ hy)]
  rfl
def bN (L:List dD) (x:aK):Option dD:=L.find? fun e=>decide (x = e.key)
theorem Ec (h':uX E) (hl:Lb.cU E) {Z:Sg} {b:Nat} {L:List dD} (hm:Z[b]? = some (.map (L.map nT))) (x:aK):lookup E Z 105 (.mp b) (oO x) false = some (match bN L x with | some e=>.ref e.s 0 | none=>.fW):=by
 have hk:=Lb.qP hl x.1 x.2
 unfold Ax.lookup
 simp only [h'.qB,hl.tA,oO,hk,entriesOf,hm,Bool.not_true,Bool.false_eq_true,if_false]
 have:=Ck hl x L
 unfold oO at this
 rw [this]
 unfold bN
 cases L.find? fun e=>decide (x = e.key) <;> rfl
theorem xY (h':uX E) (hl:Lb.cU E) {Z:Sg} {b:Nat} {L:List dD} (hm:iK Z b L) (x:aK):lookup E Z 105 (.mp b) (oO x) false = some (match bN L x with | some e=>.ref e.s 0 | none=>.fW):=Ec h' hl hm.map x
theorem E3 (h':uX E) (hl:Lb.cU E) {Z:Sg} {b:Nat} {L:List dD} (hm:iK Z b L) {x:aK} (hx:bN L x = none) {s m:Nat} {ks:List aK}:mapUpdate E Z 105 (.mp b) (oO x) (.ref s 0) = some (Z.set b (.map ((L ++ [dD.mk x s m ks]).map nT))):=by
 have hk:=Lb.qP hl x.1 x.2
 have hne:∀ e ∈ L,x ≠ e.key:=fun e he hxe=>by
  have:=find?_eq_none.1 hx e he
  simp [hxe] at this
 have:=D7 hl x s m ks L hne
 unfold oO at this
 unfold Ax.mapUpdate
 simp only [h'.qB,oO,hk,hm.map,this,eY,V.a_,Bool.not_true,Bool.or_self,Bool.false_eq_true,if_false,Option.map_some]
end
end
section
section
variable {E:Env} {Z:Sg} {K:V -> Sg -> Prop}
theorem bZ.keep {Z σ':Sg} {s m x:Nat} {ks:List aK} {es:List (V × V)} (h:Lb.bZ Z s m ks) (hx:Z[x]? = some (.map es)) (hm:m ≠ x) (k:∀ (j:Nat) (o:O),j ≠ x -> Z[j]? = some o -> σ'[j]? = some o):Lb.bZ σ' s m ks:=by
 refine ⟨k _ _ (fun e=>?_) h.obj,k _ _ hm h.map,h.nodup⟩
 have:=h.obj
 rw [e,hx] at this
 cases this
theorem iK.keep {Z σ':Sg} {b x:Nat} {L:List dD} {es:List (V × V)} (h:iK Z b L) (hx:Z[x]? = some (.map es)) (hb:b ≠ x) (hm:x ∉ L.map dD.m) (k:∀ (j:Nat) (o:O),j ≠ x -> Z[j]? = some o -> σ'[j]? = some o):iK σ' b L:=
 ⟨k _ _ hb h.map,fun e he=>bZ.keep (h.sets e he) hx (fun e'=>hm (mem_map.2 ⟨e,he,e'⟩)) k,h.nodup⟩
def pE (L:List dD) (x:aK) (ks:List aK):List dD:=L.map fun e=>if e.key = x then { e with ks:=ks } else e
theorem KT (L:List dD) (x:aK) (ks:List aK):(pE L x ks).map nT = L.map nT:=by
 unfold pE
 rw [map_map]
 refine List.map_congr_left fun e _=>?_
 show nT (if e.key = x then _ else e) = nT e
 by_cases h:e.key = x
 ·rw [if_pos h]; rfl
 ·rw [if_neg h]
theorem Dz (L:List dD) (x:aK) (ks:List aK):(pE L x ks).map dD.key = L.map dD.key:=by
 unfold pE
 rw [map_map]
 refine List.map_congr_left fun e _=>?_
 show dD.key (if e.key = x then _ else e) = e.key
 by_cases h:e.key = x
 ·rw [if_pos h]
 ·rw [if_neg h]
theorem Jp (L:List dD) (x:aK) (ks:List aK):(pE L x ks).map dD.m = L.map dD.m:=by
 unfold pE
 rw [map_map]
 refine List.map_congr_left fun e _=>?_
 show dD.m (if e.key = x then _ else e) = e.m
 by_cases h:e.key = x
 ·rw [if_pos h]
 ·rw [if_neg h]
theorem zN {β:Type} {f:dD -> β}:∀ {L:List dD},(L.map f).Nodup -> ∀ e ∈ L,∀ e' ∈ L,f e = f e' -> e = e'
 | [],_,e,he,_,_,_=>by cases he
 | a :: L,h,e,he,e',he',hm=>by
  rw [map_cons,nodup_cons] at h
  rcases mem_cons.1 he with h1 | h1 <;> rcases mem_cons.1 he' with h2 | h2
  ·rw [h1,h2]
  ·exact absurd (mem_map.2 ⟨e',h2,by rw [<- hm,h1]⟩) h.1
  ·exact absurd (mem_map.2 ⟨e,h1,by rw [hm,h2]⟩) h.1
  ·exact zN h.2 e h1 e' h2 hm
theorem iK.up {Z σ':Sg} {b:Nat} {L:List dD} {e:dD} {ks:List aK} (h:iK Z b L) (he:e ∈ L) (hnd:(L.map dD.m).Nodup) (hb:b ≠ e.m) (hs:Lb.bZ σ' e.s e.m ks) (k:∀ (j:Nat) (o:O),j ≠ e.m -> Z[j]? = some o -> σ'[j]? = some o):iK σ' b (pE L e.key ks):=by
 refine ⟨by rw [KT]; exact k _ _ hb h.map,fun a ha=>?_,by rw [Dz]; exact h.nodup⟩
 obtain ⟨a0,ha0,rfl⟩:=mem_map.1 ha
 by_cases hk:a0.key = e.key
 ·have hae:a0 = e:=zN h.nodup a0 ha0 e he hk
  subst hae
  rw [if_pos rfl]
  exact hs
 ·rw [if_neg hk]
  exact bZ.keep (h.sets a0 ha0) (h.sets e he).map (fun e'=>hk (by rw [zN hnd a0 ha0 e he e'])) k
structure nG (E:Env) (Z:Sg) (gb m0 m1 sa ma b3 b4:Nat) (es0 es1:List (V × V)) (A:List aK) (L3 L4:List dD):Prop where
 g:Z[gb]? = some (.cells 107 [.mp m0,.mp m1,.ref sa 0,.mp b3,.mp b4] true)
 rules:Z[m0]? = some (.map es0)
 jJ:Z[m1]? = some (.map es1)
 all:Lb.bZ Z sa ma A
 jI:iK Z b3 L3
 jA:iK Z b4 L4
 sep:(m0 :: m1 :: ma :: b3 :: b4 :: (L3.map dD.m ++ L4.map dD.m)).Nodup
end
end
section
section
variable {E:Env} {Z:Sg} {K:V -> Sg -> Prop}
theorem bZ.app {Z:Sg} {s m:Nat} {ks:List aK} (h:Lb.bZ Z s m ks) (y:O):Lb.bZ (Z ++ [y]) s m ks:=⟨aN h.obj,aN h.map,h.nodup⟩
theorem iK.app {Z:Sg} {b:Nat} {L:List dD} (h:iK Z b L) (y:O):iK (Z ++ [y]) b L:=⟨aN h.map,fun e he=>bZ.app (h.sets e he) y,h.nodup⟩
theorem nG.app {{Z:Sg}} {{gb m0 m1 sa ma b3 b4:Nat}} {{es0 es1:List (V × V)}} {{A:List aK}} {{L3 L4:List dD}} (h:nG E Z gb m0 m1 sa ma b3 b4 es0 es1 A L3 L4) (y:O):nG E (Z ++ [y]) gb m0 m1 sa ma b3 b4 es0 es1 A L3 L4:=
 ⟨aN h.g,aN h.rules,aN h.jJ,bZ.app h.all y,h.jI.app y,h.jA.app y,h.sep⟩
theorem nG.more {{Z σ':Sg}} {{gb m0 m1 sa ma b3 b4:Nat}} {{es0 es1:List (V × V)}} {{A:List aK}} {{L3 L4:List dD}} (h:nG E Z gb m0 m1 sa ma b3 b4 es0 es1 A L3 L4) {A':List aK} (hs:Lb.bZ σ' sa ma A') (k:∀ (j:Nat) (o:O),j ≠ ma -> Z[j]? = some o -> σ'[j]? = some o):nG E σ' gb m0 m1 sa ma b3 b4 es0 es1 A' L3 L4:=by
 have sep:=h.sep
 simp only [nodup_cons,mem_cons,mem_append,not_or] at sep
 obtain ⟨⟨-,n0,-⟩,⟨n1,-⟩,⟨n3,n4,n5,n6⟩,-⟩:=sep
 have hx:=h.all.map
 have ng:gb ≠ ma:=fun e=>by
  have:=h.g
  rw [e,hx] at this
  cases this
 exact ⟨k _ _ ng h.g,k _ _ n0 h.rules,k _ _ n1 h.jJ,hs,h.jI.keep hx (fun e=>n3 e.symm) n5 k,h.jA.keep hx (fun e=>n4 e.symm) n6 k,h.sep⟩
theorem nG.rule {{Z:Sg}} {{gb m0 m1 sa ma b3 b4:Nat}} {{es0 es1:List (V × V)}} {{A:List aK}} {{L3 L4:List dD}} (h:nG E Z gb m0 m1 sa ma b3 b4 es0 es1 A L3 L4) (es:List (V × V)):nG E (Z.set m0 (.map es)) gb m0 m1 sa ma b3 b4 es es1 A L3 L4:=by
 have sep:=h.sep
 simp only [nodup_cons,mem_cons,mem_append,not_or] at sep
 obtain ⟨⟨n1,na,n3,n4,n5,n6⟩,-⟩:=sep
 have hx:=h.rules
 have ng:gb ≠ m0:=fun e=>by
  have:=h.g
  rw [e,hx] at this
  cases this
 have k:∀ (j:Nat) (o:O),j ≠ m0 -> Z[j]? = some o -> (Z.set m0 (.map es))[j]? = some o:=fun j o hj ho=>by
  rw [getElem?_set_ne (Ne.symm hj)]; exact ho
 exact ⟨k _ _ ng h.g,getElem?_set_self (List.getElem?_eq_some_iff.1 hx).1,k _ _ (Ne.symm n1) h.jJ,bZ.keep h.all hx (Ne.symm na) k,h.jI.keep hx (Ne.symm n3) n5 k,h.jA.keep hx (Ne.symm n4) n6 k,h.sep⟩
theorem nG.Ob {{Z:Sg}} {{gb m0 m1 sa ma b3 b4:Nat}} {{es0 es1:List (V × V)}} {{A:List aK}} {{L3 L4:List dD}} (h:nG E Z gb m0 m1 sa ma b3 b4 es0 es1 A L3 L4) (es:List (V × V)):nG E (Z.set m1 (.map es)) gb m0 m1 sa ma b3 b4 es0 es A L3 L4:=by
 have sep:=h.sep
 simp only [nodup_cons,mem_cons,mem_append,not_or] at sep
 obtain ⟨⟨n1,-⟩,⟨na,n3,n4,n5,n6⟩,-⟩:=sep
 have hx:=h.jJ
 have ng:gb ≠ m1:=fun e=>by
  have:=h.g
  rw [e,hx] at this
  cases this
 have k:∀ (j:Nat) (o:O),j ≠ m1 -> Z[j]? = some o -> (Z.set m1 (.map es))[j]? = some o:=fun j o hj ho=>by
  rw [getElem?_set_ne (Ne.symm hj)]; exact ho
 exact ⟨k _ _ ng h.g,k _ _ n1 h.rules,getElem?_set_self (List.getElem?_eq_some_iff.1 hx).1,bZ.keep h.all hx (Ne.symm na) k,h.jI.keep hx (Ne.symm n3) n5 k,h.jA.keep hx (Ne.symm n4) n6 k,h.sep⟩
end
end
section
section
variable {E:Env} {Z:Sg} {K:V -> Sg -> Prop}
theorem nG.facts {Z:Sg} {gb m0 m1 sa ma b3 b4:Nat} {es0 es1:List (V × V)} {A:List aK} {L3 L4:List dD} (h:nG E Z gb m0 m1 sa ma b3 b4 es0 es1 A L3 L4):(L3.map dD.m).Nodup /\ (L4.map dD.m).Nodup /\ ∀ x,x ∈ L3.map dD.m \/ x ∈ L4.map dD.m -> m0 ≠ x /\ m1 ≠ x /\ ma ≠ x /\ b3 ≠ x /\ b4 ≠ x:=by
 have sep:=h.sep
 simp only [nodup_cons,mem_cons,mem_append,not_or,nodup_append] at sep
 obtain ⟨⟨-,-,-,-,a5,a6⟩,⟨-,-,-,b5,b6⟩,⟨-,-,c5,c6⟩,⟨-,d5,d6⟩,⟨e5,e6⟩,f1,f2,-⟩:=sep
 refine ⟨f1,f2,fun x hx=>?_⟩
 rcases hx with hx | hx
 ·exact ⟨fun e=>a5 (by rw [e]; exact hx),fun e=>b5 (by rw [e]; exact hx),fun e=>c5 (by rw [e]; exact hx),fun e=>d5 (by rw [e]; exact hx),fun e=>e5 (by rw [e]; exact hx)⟩
 ·exact ⟨fun e=>a6 (by rw [e]; exact hx),fun e=>b6 (by rw [e]; exact hx),fun e=>c6 (by rw [e]; exact hx),fun e=>d6 (by rw [e]; exact hx),fun e=>e6 (by rw [e]; exact hx)⟩
theorem nG.Sm {Z:Sg} {gb m0 m1 sa ma b3 b4:Nat} {es0 es1:List (V × V)} {A:List aK} {L3 L4:List dD} (h:nG E Z gb m0 m1 sa ma b3 b4 es0 es1 A L3 L4):∀ x ∈ L3.map dD.m,x ∉ L4.map dD.m:=by
 have sep:=h.sep
 simp only [nodup_cons,mem_cons,mem_append,not_or,nodup_append] at sep
 obtain ⟨-,-,-,-,-,-,-,f3⟩:=sep
 exact fun x hx hy=>f3 x hx x hy rfl
theorem nG.N0 {{Z σ':Sg}} {{gb m0 m1 sa ma b3 b4:Nat}} {{es0 es1:List (V × V)}} {{A:List aK}} {{L3 L4:List dD}} (h:nG E Z gb m0 m1 sa ma b3 b4 es0 es1 A L3 L4) {e:dD} (he:e ∈ L3) {ks:List aK} (hs:Lb.bZ σ' e.s e.m ks) (k:∀ (j:Nat) (o:O),j ≠ e.m -> Z[j]? = some o -> σ'[j]? = some o):nG E σ' gb m0 m1 sa ma b3 b4 es0 es1 A (pE L3 e.key ks) L4:=by
 obtain ⟨f1,f2,f3⟩:=h.facts
 have hm:e.m ∈ L3.map dD.m:=mem_map.2 ⟨e,he,rfl⟩
 obtain ⟨n1,n2,n3,n4,n5⟩:=f3 e.m (Or.inl hm)
 have hx:=(h.jI.sets e he).map
 have ng:gb ≠ e.m:=fun e'=>by
  have:=h.g
  rw [e',hx] at this
  cases this
 have nb:=n4
 exact ⟨k _ _ ng h.g,k _ _ n1 h.rules,k _ _ n2 h.jJ,bZ.keep h.all hx n3 k,iK.up h.jI he f1 nb hs k,h.jA.keep hx n5 (fun hx'=>h.Sm _ hm hx') k,by rw [Jp]; exact h.sep⟩
theorem nG.MD {{Z σ':Sg}} {{gb m0 m1 sa ma b3 b4:Nat}} {{es0 es1:List (V × V)}} {{A:List aK}} {{L3 L4:List dD}} (h:nG E Z gb m0 m1 sa ma b3 b4 es0 es1 A L3 L4) {e:dD} (he:e ∈ L4) {ks:List aK} (hs:Lb.bZ σ' e.s e.m ks) (k:∀ (j:Nat) (o:O),j ≠ e.m -> Z[j]? = some o -> σ'[j]? = some o):nG E σ' gb m0 m1 sa ma b3 b4 es0 es1 A L3 (pE L4 e.key ks):=by
 obtain ⟨f1,f2,f3⟩:=h.facts
 have hm:e.m ∈ L4.map dD.m:=mem_map.2 ⟨e,he,rfl⟩
 obtain ⟨n1,n2,n3,n4,n5⟩:=f3 e.m (Or.inr hm)
 have hx:=(h.jA.sets e he).map
 have ng:gb ≠ e.m:=fun e'=>by
  have:=h.g
  rw [e',hx] at this
  cases this
 have nb:=n5
 exact ⟨k _ _ ng h.g,k _ _ n1 h.rules,k _ _ n2 h.jJ,bZ.keep h.all hx n3 k,h.jI.keep hx n4 (fun hx'=>h.Sm _ hx' hm) k,iK.up h.jA he f2 nb hs k,by rw [Jp]; exact h.sep⟩
end
end
section
section
variable {E:Env} {Z:Sg} {K:V -> Sg -> Prop}
theorem iK.kD {Z σ1:Sg} {b:Nat} {L:List dD} (h:iK Z b L) (k:Lb.lB Z σ1):iK σ1 b L:=⟨k _ _ h.map,fun e he=>⟨k _ _ (h.sets e he).obj,k _ _ (h.sets e he).map,(h.sets e he).nodup⟩,h.nodup⟩
theorem nG.kD {{Z σ1:Sg}} {{gb m0 m1 sa ma b3 b4:Nat}} {{es0 es1:List (V × V)}} {{A:List aK}} {{L3 L4:List dD}} (h:nG E Z gb m0 m1 sa ma b3 b4 es0 es1 A L3 L4) (k:Lb.lB Z σ1):nG E σ1 gb m0 m1 sa ma b3 b4 es0 es1 A L3 L4:=
 ⟨k _ _ h.g,k _ _ h.rules,k _ _ h.jJ,⟨k _ _ h.all.obj,k _ _ h.all.map,h.all.nodup⟩,h.jI.kD k,h.jA.kD k,h.sep⟩
theorem nG.below {Z:Sg} {gb m0 m1 sa ma b3 b4:Nat} {es0 es1:List (V × V)} {A:List aK} {L3 L4:List dD} (h:nG E Z gb m0 m1 sa ma b3 b4 es0 es1 A L3 L4) {m:Nat} (hm:Z.length <= m):m ∉ m0 :: m1 :: ma :: b3 :: b4 :: (L3.map dD.m ++ L4.map dD.m):=by
 have lt:∀ {i:Nat} {o:O},Z[i]? = some o -> i < m:=fun e=>Nat.lt_of_lt_of_le (List.getElem?_eq_some_iff.1 e).1 hm
 have h0:=lt h.rules
 have h1:=lt h.jJ
 have h2:=lt h.all.map
 have h3:=lt h.jI.map
 have h4:=lt h.jA.map
 intro hx
 simp only [mem_cons,mem_append,mem_map] at hx
 rcases hx with e | e | e | e | e | ⟨e,he,e'⟩ | ⟨e,he,e'⟩
 ·omega
 ·omega
 ·omega
 ·omega
 ·omega
 ·have:=lt (h.jI.sets e he).map; omega
 ·have:=lt (h.jA.sets e he).map; omega
theorem iK.new {Z:Sg} {b:Nat} {L:List dD} {x:aK} {s m:Nat} (h:iK Z b L) (hx:bN L x = none) (hs:Lb.bZ Z s m []) (hb:b ∉ L.map dD.m) (hm:m ≠ b):iK (Z.set b (.map ((L ++ [dD.mk x s m []]).map nT))) b (L ++ [dD.mk x s m []]):=by
 have k:∀ (j:Nat) (o:O),j ≠ b -> Z[j]? = some o -> (Z.set b (.map ((L ++ [dD.mk x s m []]).map nT)))[j]? = some o:=fun j o hj ho=>by
  rw [getElem?_set_ne (Ne.symm hj)]; exact ho
 refine ⟨getElem?_set_self (List.getElem?_eq_some_iff.1 h.map).1,fun e he=>?_,?_⟩
 ·rcases mem_append.1 he with he | he
  ·exact bZ.keep (h.sets e he) h.map (fun e'=>hb (mem_map.2 ⟨e,he,e'⟩)) k
  ·rw [mem_singleton.1 he]
   exact bZ.keep hs h.map hm k
 ·rw [map_append,nodup_append]
  refine ⟨h.nodup,by simp,fun y hy z hz e=>?_⟩
  obtain ⟨a,ha,rfl⟩:=mem_map.1 hy
  have hz:z = x:=by simpa using hz
  have:=find?_eq_none.1 hx a ha
  simp [<- hz,<- e] at this
theorem nG.Qo {{Z σ1:Sg}} {{gb m0 m1 sa ma b3 b4:Nat}} {{es0 es1:List (V × V)}} {{A:List aK}} {{L3 L4:List dD}} (h:nG E Z gb m0 m1 sa ma b3 b4 es0 es1 A L3 L4) {x:aK} (hx:bN L3 x = none) {s m:Nat} (k1:Lb.lB Z σ1) (hs:Lb.bZ σ1 s m []) (hm:Z.length <= m):nG E (σ1.set b3 (.map ((L3 ++ [dD.mk x s m []]).map nT))) gb m0 m1 sa ma b3 b4 es0 es1 A (L3 ++ [dD.mk x s m []]) L4:=by
 have h1:=h.kD k1
 have fresh:=h.below hm
 have hx1:=h1.jI.map
 have sep:=h.sep
 simp only [nodup_cons,mem_cons,mem_append,not_or] at sep
 obtain ⟨⟨-,-,a3,-⟩,⟨-,b3',-⟩,⟨c3,-⟩,⟨n3,n4,n5⟩,-⟩:=sep
 have hmb:m ≠ b3:=fun e=>fresh (by rw [e]; simp)
 have new:=iK.new h1.jI hx hs n4 hmb
 have ng:gb ≠ b3:=fun e=>by
  have:=h1.g
  rw [e,hx1] at this
  cases this
 have k:∀ (j:Nat) (o:O),j ≠ b3 -> σ1[j]? = some o -> (σ1.set b3 (.map ((L3 ++ [dD.mk x s m []]).map nT)))[j]? = some o:=fun j o hj ho=>by
  rw [getElem?_set_ne (Ne.symm hj)]; exact ho
 have hp:(m0 :: m1 :: ma :: b3 :: b4 :: ((L3 ++ [dD.mk x s m []]).map dD.m ++ L4.map dD.m)).Perm (m :: (m0 :: m1 :: ma :: b3 :: b4 :: (L3.map dD.m ++ L4.map dD.m))):=by simpa using List.perm_middle (l₁:=m0 :: m1 :: ma :: b3 :: b4 :: L3.map dD.m) (a:=m) (l₂:=L4.map dD.m)
 exact ⟨k _ _ ng h1.g,k _ _ a3 h1.rules,k _ _ b3' h1.jJ,bZ.keep h1.all hx1 c3 k,new,h1.jA.keep hx1 (fun e=>n3 e.symm) n5 k,hp.nodup_iff.2 (nodup_cons.2 ⟨fresh,h.sep⟩)⟩
theorem nG.PS {{Z σ1:Sg}} {{gb m0 m1 sa ma b3 b4:Nat}} {{es0 es1:List (V × V)}} {{A:List aK}} {{L3 L4:List dD}} (h:nG E Z gb m0 m1 sa ma b3 b4 es0 es1 A L3 L4) {x:aK} (hx:bN L4 x = none) {s m:Nat} (k1:Lb.lB Z σ1) (hs:Lb.bZ σ1 s m []) (hm:Z.length <= m):nG E (σ1.set b4 (.map ((L4 ++ [dD.mk x s m []]).map nT))) gb m0 m1 sa ma b3 b4 es0 es1 A L3 (L4 ++ [dD.mk x s m []]):=by
 have h1:=h.kD k1
 have fresh:=h.below hm
 have hx1:=h1.jA.map
 have sep:=h.sep
 simp only [nodup_cons,mem_cons,mem_append,not_or] at sep
 obtain ⟨⟨-,-,-,a3,-⟩,⟨-,-,b3',-⟩,⟨-,c3,-⟩,⟨n3,-,-⟩,⟨n4,n5⟩,-⟩:=sep
 have hmb:m ≠ b4:=fun e=>fresh (by rw [e]; simp)
 have new:=iK.new h1.jA hx hs n5 hmb
 have ng:gb ≠ b4:=fun e=>by
  have:=h1.g
  rw [e,hx1] at this
  cases this
 have k:∀ (j:Nat) (o:O),j ≠ b4 -> σ1[j]? = some o -> (σ1.set b4 (.map ((L4 ++ [dD.mk x s m []]).map nT)))[j]? = some o:=fun j o hj ho=>by
  rw [getElem?_set_ne (Ne.symm hj)]; exact ho
 have hp:(m0 :: m1 :: ma :: b3 :: b4 :: (L3.map dD.m ++ (L4 ++ [dD.mk x s m []]).map dD.m)).Perm (m :: (m0 :: m1 :: ma :: b3 :: b4 :: (L3.map dD.m ++ L4.map dD.m))):=by simpa using List.perm_middle (l₁:=m0 :: m1 :: ma :: b3 :: b4 :: (L3.map dD.m ++ L4.map dD.m)) (a:=m) (l₂:=[])
 exact ⟨k _ _ ng h1.g,k _ _ a3 h1.rules,k _ _ b3' h1.jJ,bZ.keep h1.all hx1 c3 k,h1.jI.keep hx1 n3 n4 k,new,hp.nodup_iff.2 (nodup_cons.2 ⟨fresh,h.sep⟩)⟩
end
end
section
section
variable {E:Env} {Z:Sg} {K:V -> Sg -> Prop}
theorem Xa (h:bK E) (h':uX E) (hl:Lb.cU E) {Y:Sg} {{gb m0 m1 sa ma b3 b4:Nat}} {{es0 es1:List (V × V)}} {{A:List aK}} {{L3 L4:List dD}} (ga:nG E Y gb m0 m1 sa ma b3 b4 es0 es1 A L3 L4) {x y:aK} {n0 n1:Nat} (hx:Y[n0]? = some (O.cells 46 [.bool x.1,.str x.2] true)) (hy:Y[n1]? = some (O.cells 46 [.bool y.1,.str y.2] true)) (hA:A.length <= 1000000) (F:FT) (g0:F.get 0 = .ref gb 0) (g4:F.get 4 = .ref n0 0) (g5:F.get 5 = .ref n1 0) {st:List jO} {Q:Ax.X -> Fr -> Sg -> Prop}
  (hk:∀ F' τ',(∀ k,k ∈ [0,4,5] -> F'.get k = F.get k) -> nG E τ' gb m0 m1 sa ma b3 b4 es0 es1 (keys A [x,y]) L3 L4 -> τ'[n0]? = some (O.cells 46 [.bool x.1,.str x.2] true) -> τ'[n1]? = some (O.cells 46 [.bool y.1,.str y.2] true) -> Lb.cQ Y τ' -> M E st .normal ⟨57,F'⟩ τ' Q):Ax.R E (.region 1 (opsOf (cutAt [1,0] (aA Tryz.f73).code)) true) st ⟨57,F⟩ Y Q:=by
 have ga1:=ga.app (O.cells 46 [.bool x.1,.str x.2,.bool y.1,.str y.2] true)
 have hx1:=aN (x:=O.cells 46 [.bool x.1,.str x.2,.bool y.1,.str y.2] true) hx
 have hy1:=aN (x:=O.cells 46 [.bool x.1,.str x.2,.bool y.1,.str y.2] true) hy
 have hsv:Lb.SV (Y ++ [O.cells 46 [.bool x.1,.str x.2,.bool y.1,.str y.2] true]) (.sl Y.length 0 2 none) [x,y]:=.inr (.inr ⟨Y.length,_,true,rfl,aO,rfl⟩)
 obtain ⟨n,r,τ2,hcall,hr,hset,hkp⟩:=Lb.HA hl ga1.all hsv (show 2 <= 10000000000 by omega) (by omega)
 have ga2:=ga1.more hset hkp
 have hma:=ga1.all.map
 have ne:∀ {k:Nat} {t:Nat} {cs:List V} {ex:Bool},(Y ++ [O.cells 46 [.bool x.1,.str x.2,.bool y.1,.str y.2] true])[k]? = some (.cells t cs ex) -> k ≠ ma:=fun hk e=>by
  rw [e,hma] at hk
  cases hk
 have hx2:=hkp _ _ (ne hx1) hx1
 have hy2:=hkp _ _ (ne hy1) hy1
 have g:=ga.g
 have g1:=ga1.g
 have vr:pP 12 (.ref sa 0) (.ref sa 0) = true:=by unfold pP; simp
 have key:∃ F',cC E (ev E n) (opsOf (cutAt [1,0] (aA Tryz.f73).code)) ⟨57,F⟩ Y = some (⟨57,F'⟩,τ2) /\ (∀ k,k ∈ [0,4,5] -> F'.get k = F.get k):=by
  unfold cC
  rw [h'.UA,h'.V9]
  simp only [aA,Tryz.f73,KP,Ax.loadAt,↓reduceIte,reduceEqDiff,reduceLT,reduceLeDiff,reduceAdd,reduceMul,reduceCtorEq,h.mK,h.eI,opsOf,cutAt,Fz.lits,fO,bG,bW,jP,Ax.comp,Ax.last,fI,Ax.again,Ax.fill,fQ,Nat.zero_mul,hl.tA,h'.sO,g0,g4,g5,hx,hy,g,g1,hcall,vr]
  refine ⟨_,rfl,fun k hk=>?_⟩
  simp only [mem_cons,List.not_mem_nil,or_false] at hk
  rcases hk with rfl | rfl | rfl <;> simp +decide only [GS]
 obtain ⟨F',hD,hF⟩:=key
 exact Eq.mpr (h_ hD) (hk F' τ2 hF ga2 hx2 hy2 ((Lb.cQ.app Y _).trans (Lb.Kp.tR hkp hma)))
end
end
section
section
variable {E:Env} {Z:Sg} {K:V -> Sg -> Prop}
theorem iE {L:List dD} {x:aK} {e:dD} (h:bN L x = some e):e ∈ L /\ x = e.key:=by
 unfold bN at h
 exact ⟨List.mem_of_find?_eq_some h,by have:=find?_some h; simpa using this⟩
theorem J7 (h:bK E) (h':uX E) (hl:Lb.cU E) {Y:Sg} {nb mb:Nat} {L:List dD} {x y:aK} {e:dD} (hm:iK Y mb L) (he:bN L x = some e) (hb:Y[nb]? = some (O.cells 144 [.mp mb,.bool x.1,.str x.2,.bool y.1,.str y.2] true)) (hks:e.ks.length <= 1000000) (hmb:mb ≠ e.m) (F:FT) (g7:F.get 7 = .ref nb 0) {st:List jO} {Q:Ax.X -> Fr -> Sg -> Prop}
  (hk:∀ F' τ',(∀ k,k ∈ [0,4,5,7,30,31,32] -> F'.get k = F.get k) -> Lb.bZ τ' e.s e.m (keys e.ks [y]) -> Lb.Kp (Y ++ [O.cells 46 [.bool y.1,.str y.2] true]) τ' e.m -> M E st .normal ⟨57,F'⟩ τ' Q):Ax.R E (.region 7 (opsOf (cutAt [1,1,1,2,2,1,1,0,2,1,1] (aA Tryz.f73).code)) true) st ⟨57,F⟩ Y Q:=by
 obtain ⟨hme,hxe⟩:=iE he
 have hm1:=hm.app (O.cells 46 [.bool y.1,.str y.2] true)
 have hb1:=aN (x:=O.cells 46 [.bool y.1,.str y.2] true) hb
 have hs1:=hm1.sets e hme
 have hsv:Lb.SV (Y ++ [O.cells 46 [.bool y.1,.str y.2] true]) (.sl Y.length 0 1 none) [y]:=.inr (.inr ⟨Y.length,_,true,rfl,aO,rfl⟩)
 obtain ⟨n,r,τ2,hcall,hr,hset,hkp⟩:=Lb.HA hl hs1 hsv (show 1 <= 10000000000 by omega) (by omega)
 have ne:nb ≠ e.m:=fun e'=>by
  have:=hs1.map
  rw [<- e',hb1] at this
  cases this
 have lk:lookup E Y 105 (.mp mb) (.agg [.bool x.1,.str x.2]) false = some (.ref e.s 0):=by
  have:=xY h' hl hm x
  rw [he] at this
  exact this
 have lk1:lookup E (Y ++ [O.cells 46 [.bool y.1,.str y.2] true]) 105 (.mp mb) (.agg [.bool x.1,.str x.2]) false = some (.ref e.s 0):=by
  have:=xY h' hl hm1 x
  rw [he] at this
  exact this
 have lk2:lookup E τ2 105 (.mp mb) (.agg [.bool x.1,.str x.2]) false = some (.ref e.s 0):=by
  have:=Ec h' hl (hkp _ _ hmb hm1.map) x
  rw [he] at this
  exact this
 have vr:pP 12 (.ref e.s 0) (.ref e.s 0) = true:=by unfold pP; simp
 have vm:pP 12 (.mp mb) (.mp mb) = true:=by unfold pP; simp
 have vl:pP 12 (.agg [.bool x.1,.str x.2]) (.agg [.bool x.1,.str x.2]) = true:=pC fun z hz=>by
  simp only [mem_cons,List.not_mem_nil,or_false] at hz
  rcases hz with rfl | rfl
  ·show decide (x.1 = x.1) = true
   simp
  ·exact Ak 10 x.2
 have key:∃ F',cC E (ev E n) (opsOf (cutAt [1,1,1,2,2,1,1,0,2,1,1] (aA Tryz.f73).code)) ⟨57,F⟩ Y = some (⟨57,F'⟩,τ2) /\ (∀ k,k ∈ [0,4,5,7,30,31,32] -> F'.get k = F.get k):=by
  unfold cC
  rw [h'.Uy,h'.V7]
  simp only [aA,Tryz.f73,KP,Ax.loadAt,↓reduceIte,reduceEqDiff,reduceLT,reduceLeDiff,reduceAdd,reduceMul,reduceCtorEq,h.mK,h.eI,opsOf,cutAt,Fz.lits,fO,bG,bW,jP,Ax.comp,Ax.last,fI,Ax.again,Ax.fill,fQ,Nat.zero_mul,h'.qB,h'.wW,g7,hb,hb1,lk,lk1,hcall,vr,vm,vl]
  refine ⟨_,rfl,fun k hk=>?_⟩
  simp only [mem_cons,List.not_mem_nil,or_false] at hk
  rcases hk with rfl | rfl | rfl | rfl | rfl | rfl | rfl <;> simp +decide only [GS]
 obtain ⟨F',hD,hF⟩:=key
 exact Eq.mpr (h_ hD) (hk F' τ2 hF hset hkp)
end
end
section
section
variable {E:Env} {Z:Sg} {K:V -> Sg -> Prop}
theorem Si (h:bK E) (h':uX E) (hl:Lb.cU E) {Y:Sg} {nb mb:Nat} {L:List dD} {x y:aK} (hm:iK Y mb L) (he:bN L x = none) (hb:Y[nb]? = some (O.cells 144 [.mp mb,.bool x.1,.str x.2,.bool y.1,.str y.2] true)) (F:FT) (g7:F.get 7 = .ref nb 0) {st:List jO} {Q:Ax.X -> Fr -> Sg -> Prop}
  (hk:∀ F' τ1 m,(∀ k,k ∈ [0,4,5,7,30,31,32] -> F'.get k = F.get k) -> Lb.lB Y τ1 -> Lb.bZ τ1 Y.length m [] -> Y.length < m -> M E st .normal ⟨57,F'⟩ (τ1.set mb (.map ((L ++ [dD.mk x Y.length m []]).map nT))) Q):Ax.R E (.region 6 (opsOf (cutAt [1,1,1,2,2,1,1,0,2,1,0,1,0] (aA Tryz.f73).code)) true) st ⟨57,F⟩ Y Q:=by
 obtain ⟨n,r,τ1,hcall,m,rfl,hset,hlt,kD⟩:=Lb.Po hl (Z:=Y) (v:=.aC) (l:=[]) (.inl ⟨rfl,rfl⟩) (by simp)
 have hb1:=kD _ _ hb
 have put:=E3 h' hl (hm.kD kD) he (s:=Y.length) (m:=m) (ks:=[])
 unfold oO at put
 have vm:pP 12 (.mp mb) (.mp mb) = true:=by unfold pP; simp
 have vl:pP 12 (.agg [.bool x.1,.str x.2]) (.agg [.bool x.1,.str x.2]) = true:=pC fun z hz=>by
  simp only [mem_cons,List.not_mem_nil,or_false] at hz
  rcases hz with rfl | rfl
  ·show decide (x.1 = x.1) = true
   simp
  ·exact Ak 10 x.2
 have key:∃ F',cC E (ev E n) (opsOf (cutAt [1,1,1,2,2,1,1,0,2,1,0,1,0] (aA Tryz.f73).code)) ⟨57,F⟩ Y = some (⟨57,F'⟩,τ1.set mb (.map ((L ++ [dD.mk x Y.length m []]).map nT))) /\ (∀ k,k ∈ [0,4,5,7,30,31,32] -> F'.get k = F.get k):=by
  unfold cC
  rw [h'.Uz,h'.V8]
  simp only [aA,Tryz.f73,KP,Ax.loadAt,↓reduceIte,reduceEqDiff,reduceLT,reduceLeDiff,reduceAdd,reduceCtorEq,h.eI,opsOf,cutAt,fO,bG,bW,jP,Ax.comp,Ax.last,fI,Ax.again,aR,h'.qB,h'.wW,g7,hb,hb1,hcall,put,vm,vl]
  refine ⟨_,rfl,fun k hk=>?_⟩
  simp only [mem_cons,List.not_mem_nil,or_false] at hk
  rcases hk with rfl | rfl | rfl | rfl | rfl | rfl | rfl <;> simp +decide only [GS]
 obtain ⟨F',hD,hF⟩:=key
 exact Eq.mpr (h_ hD) (hk F' τ1 m hF kD hset hlt)
end
end
section
section
variable {E:Env} {Z:Sg} {K:V -> Sg -> Prop}
def qO (L:List dD) (z:aK):List aK:=match bN L z with
 | some e=>e.ks
 | none=>[]
theorem Gg (L:List dD) (x:aK) (ks:List aK) (z:aK):bN (pE L x ks) z = (bN L z).map fun e=>if e.key = x then { e with ks:=ks } else e:=by
 unfold bN pE
 induction L with
 | nil=>rfl
 | cons e L ih=>
  rw [map_cons,find?_cons,find?_cons]
  have hk:(if e.key = x then { e with ks:=ks } else e).key = e.key:=by
   by_cases h:e.key = x
   ·rw [if_pos h]
   ·rw [if_neg h]
  rw [hk]
  by_cases hz:z = e.key
  ·rw [decide_eq_true hz]; rfl
  ·rw [decide_eq_false hz]; exact ih
theorem QE {L:List dD} {e:dD} {x:aK} (he:bN L x = some e) (ks:List aK) (z:aK):qO (pE L e.key ks) z = if z = x then ks else qO L z:=by
 obtain ⟨hme,hxe⟩:=iE he
 unfold qO
 rw [Gg]
 by_cases hz:z = x
 ·rw [if_pos hz,hz,he]
  show (match (some (if e.key = e.key then { e with ks:=ks } else e):Option dD) with
   | some e=>e.ks
   | none=>[]) = ks
  rw [if_pos rfl]
 ·rw [if_neg hz]
  cases hq:bN L z with
  | none=>rfl
  | some q=>
   obtain ⟨-,hzq⟩:=iE hq
   show (if q.key = e.key then { q with ks:=ks } else q).ks = q.ks
   rw [if_neg (fun e'=>hz (by rw [hzq,e',hxe]))]
theorem xB (L:List dD) (e:dD) (hx:bN L e.key = none) (z:aK):bN (L ++ [e]) z = if z = e.key then some e else bN L z:=by
 unfold bN at *
 rw [List.find?_append]
 by_cases hz:z = e.key
 ·rw [if_pos hz,hz,hx,find?_cons,decide_eq_true rfl]; rfl
 ·rw [if_neg hz,find?_cons,decide_eq_false hz,List.find?_nil]
  cases List.find? (fun e=>decide (z = e.key)) L <;> rfl
structure Grow (L:List dD) (x y:aK) (L':List dD):Prop where
 mem:∀ z w,w ∈ qO L' z ↔ w ∈ qO L z \/ (z = x /\ w = y)
 len:∀ n,(∀ e ∈ L,e.ks.length <= n) -> ∀ e ∈ L',e.ks.length <= n + 1
 key:∀ z,z ∈ L'.map dD.key ↔ z ∈ L.map dD.key \/ z = x
theorem Ts {L:List dD} {x:aK}:x ∈ L.map dD.key ↔ ∃ e,bN L x = some e:=by
 constructor
 ·intro h
  obtain ⟨e,he,rfl⟩:=mem_map.1 h
  cases hq:bN L e.key with
  | some q=>exact ⟨q,rfl⟩
  | none=>
   have:=find?_eq_none.1 hq e he
   simp at this
 ·rintro ⟨e,he⟩
  obtain ⟨h1,h2⟩:=iE he
  exact mem_map.2 ⟨e,h1,h2.symm⟩
theorem Ox (l:List aK) (y:aK):keys l [y] = jL l y:=rfl
theorem LA (l:List aK) (y:aK):(jL l y).length <= l.length + 1:=by
 unfold jL
 by_cases h:y ∈ l
 ·rw [if_pos h]; omega
 ·rw [if_neg h,length_append]; exact Nat.le_refl _
theorem Grow.up {L:List dD} {e:dD} {x:aK} (he:bN L x = some e) (y:aK):Grow L x y (pE L e.key (keys e.ks [y])):=by
 obtain ⟨hme,hxe⟩:=iE he
 refine ⟨fun z w=>?_,fun n hn a ha=>?_,fun z=>?_⟩
 ·rw [QE he]
  by_cases hz:z = x
  ·have:qO L z = e.ks:=by unfold qO; rw [hz,he]
   rw [if_pos hz,this,Ox,Ea]
   exact ⟨fun h=>h.imp id fun h=>⟨hz,h⟩,fun h=>h.imp id And.right⟩
  ·rw [if_neg hz]
   exact ⟨.inl,fun h=>h.elim id fun h=>absurd h.1 hz⟩
 ·obtain ⟨a0,ha0,rfl⟩:=mem_map.1 ha
  by_cases hk:a0.key = e.key
  ·rw [if_pos hk]
   have:=LA e.ks y
   have:=hn e hme
   show (jL e.ks y).length <= n + 1
   omega
  ·rw [if_neg hk]
   have:=hn a0 ha0
   omega
 ·rw [Dz]
  refine ⟨.inl,fun h=>h.elim id fun h=>?_⟩
  rw [h]
  exact Ts.2 ⟨e,he⟩
theorem Grow.new {L:List dD} {x:aK} {s m:Nat} (hx:bN L x = none) (y:aK):bN (L ++ [dD.mk x s m []]) x = some (dD.mk x s m []) /\ Grow L x y (pE (L ++ [dD.mk x s m []]) x (keys [] [y])):=by
 have he:bN (L ++ [dD.mk x s m []]) x = some (dD.mk x s m []):=by rw [xB _ _ hx,if_pos rfl]
 have g:=Grow.up he y
 refine ⟨he,fun z w=>?_,fun n hn a ha=>?_,fun z=>?_⟩
 ·rw [g.mem]
  have:qO (L ++ [dD.mk x s m []]) z = qO L z:=by
   unfold qO
   rw [xB _ _ hx]
   by_cases hz:z = x
   ·rw [if_pos hz,hz,hx]
   ·rw [if_neg hz]
  rw [this]
 ·refine g.len n (fun e he=>?_) a ha
  rcases mem_append.1 he with he | he
  ·exact hn e he
  ·rw [mem_singleton.1 he]; exact Nat.zero_le _
 ·rw [g.key,map_append,mem_append]
  constructor
  ·rintro ((h | h) | h)
   ·exact .inl h
   ·exact .inr (by simpa using h)
   ·exact .inr h
  ·exact fun h=>h.imp .inl id
end
end
section
section
variable {E:Env} {Z:Sg} {K:V -> Sg -> Prop}
theorem Kp.tR {Z σ':Sg} {m:Nat} {es:List (V × V)} (h:Lb.Kp Z σ' m) (hm:Z[m]? = some (.map es)):Lb.cQ Z σ':=Lb.Kp.tR h hm
theorem cQ.Bg (Z:Sg) (y:O):Lb.cQ Z (Z ++ [y]):=Lb.cQ.app Z [y]
theorem map_lt {Z:Sg} {b:Nat} {o:O} (h:Z[b]? = some o):b < Z.length:=(List.getElem?_eq_some_iff.1 h).1
theorem Qy (h:bK E) (h':uX E) (hl:Lb.cU E) {Y:Sg} {gb m0 m1 sa ma b3 b4:Nat} {es0 es1:List (V × V)} {A:List aK} {L3 L4:List dD} (ga:nG E Y gb m0 m1 sa ma b3 b4 es0 es1 A L3 L4) {x y:aK} {blk:Nat} (hb:Y[blk]? = some (O.cells 144 [.mp b3,.bool x.1,.str x.2,.bool y.1,.str y.2,.mp b4,.bool y.1,.str y.2,.bool x.1,.str x.2] true)) (hks:∀ e ∈ L3,e.ks.length <= 1000000) (F:FT) (g30:F.get 30 = .sl blk 0 2 none) (g32:F.get 32 = .int .i64 0) {st:List jO} {Q:Ax.X -> Fr -> Sg -> Prop}
  (hk:∀ F' τ' L',(∀ k,k ∈ [0,4,5,30,31,32] -> F'.get k = F.get k) -> nG E τ' gb m0 m1 sa ma b3 b4 es0 es1 A L' L4 -> Grow L3 x y L' -> Lb.cQ Y τ' -> M E st .normal ⟨57,F'⟩ τ' Q):Ax.R E (cutAt [1,1,1,2,2,1,1,0,2] (aA Tryz.f73).code) st ⟨57,F⟩ Y Q:=by
 have ia:indexAddr E 145 (.sl blk 0 2 none) (.int .i64 0) = some (.ref blk 0):=by unfold Ax.indexAddr; simp only [h'.Jq,h'.wW]; rfl
 have ga1:=ga.app (O.cells 144 [.mp b3,.bool x.1,.str x.2,.bool y.1,.str y.2] true)
 have hnb:(Y ++ [O.cells 144 [.mp b3,.bool x.1,.str x.2,.bool y.1,.str y.2] true])[Y.length]? = some (O.cells 144 [.mp b3,.bool x.1,.str x.2,.bool y.1,.str y.2] true):=aO
 have lk:=xY h' hl ga1.jI x
 unfold oO at lk
 rcases hq:bN L3 x with _ | e
 ·rw [hq] at lk
  have r7:=fun (ρ:Sg) (m:Nat) gm he hbx hln hne F g7 st Q hk=>J7 (Y:=ρ) (nb:=Y.length) (mb:=b3) (L:=L3 ++ [dD.mk x (Y ++ [O.cells 144 [.mp b3,.bool x.1,.str x.2,.bool y.1,.str y.2] true]).length m []]) (x:=x) (y:=y) (e:=dD.mk x (Y ++ [O.cells 144 [.mp b3,.bool x.1,.str x.2,.bool y.1,.str y.2] true]).length m []) h h' hl gm he hbx hln hne F g7 (st:=st) (Q:=Q) hk
  have r6:=fun F g7 st Q hk=>Si (Y:=Y ++ [O.cells 144 [.mp b3,.bool x.1,.str x.2,.bool y.1,.str y.2] true]) (nb:=Y.length) (mb:=b3) (L:=L3) (x:=x) (y:=y) h h' hl ga1.jI hq hnb F g7 (st:=st) (Q:=Q) hk
  rw [show cutAt [1,1,1,2,2,1,1,0,2] (aA Tryz.f73).code = .seq (cutAt [1,1,1,2,2,1,1,0,2,0] (aA Tryz.f73).code) (.seq (.seq (cutAt [1,1,1,2,2,1,1,0,2,1,0,0] (aA Tryz.f73).code) (.cond (.tmp 41) (cutAt [1,1,1,2,2,1,1,0,2,1,0,1,0] (aA Tryz.f73).code) .skip)) (cutAt [1,1,1,2,2,1,1,0,2,1,1] (aA Tryz.f73).code)) from rfl]
  rw [show cutAt [1,1,1,2,2,1,1,0,2,1,0,1,0] (aA Tryz.f73).code = .region 6 (opsOf (cutAt [1,1,1,2,2,1,1,0,2,1,0,1,0] (aA Tryz.f73).code)) true from rfl,show cutAt [1,1,1,2,2,1,1,0,2,1,1] (aA Tryz.f73).code = .region 7 (opsOf (cutAt [1,1,1,2,2,1,1,0,2,1,1] (aA Tryz.f73).code)) true from rfl]
  generalize opsOf (cutAt [1,1,1,2,2,1,1,0,2,1,0,1,0] (aA Tryz.f73).code) = O6 at r6 ⊢
  generalize opsOf (cutAt [1,1,1,2,2,1,1,0,2,1,1] (aA Tryz.f73).code) = O7 at r7 ⊢
  have e77:oA E 77 true .fW .fW = some true:=by unfold oA; rw [hl.tA]
  simp only [aA,Tryz.f73,KP,Ax.loadAt,Ax.storeAt,↓reduceIte,reduceEqDiff,reduceLT,reduceLeDiff,reduceAdd,reduceCtorEq,h.eI,e77,cutAt,h'.wW,h'.qB,g30,g32,ia,hb,hnb,lk,aO,cH]
  refine r6 _ ?_ _ _ (fun F1 τ1 m hF1 kD hset hlt=>?_)
  ·simp +decide only [GS]
  have hx1:=ga1.jI.map
  have ga2:=ga1.Qo hq kD hset (Nat.le_of_lt hlt)
  have hmb:b3 < (Y ++ [O.cells 144 [.mp b3,.bool x.1,.str x.2,.bool y.1,.str y.2] true]).length:=map_lt hx1
  have hnb2:(τ1.set b3 (.map ((L3 ++ [dD.mk x (Y ++ [O.cells 144 [.mp b3,.bool x.1,.str x.2,.bool y.1,.str y.2] true]).length m []]).map nT)))[Y.length]? = some (O.cells 144 [.mp b3,.bool x.1,.str x.2,.bool y.1,.str y.2] true):=by
   rw [getElem?_set_ne]
   ·exact kD _ _ hnb
   ·intro e
    have q:=hx1.symm.trans ((congrArg (fun i=>(Y ++ [O.cells 144 [.mp b3,.bool x.1,.str x.2,.bool y.1,.str y.2] true])[i]?) e).trans hnb)
    cases q
  rw [W8]
  refine r7 _ m ga2.jI (Grow.new hq y).1 hnb2 (Nat.zero_le _) (show b3 ≠ m by omega) _ ?_ _ _ (fun F2 τ2 hF2 hset2 kp=>?_)
  ·exact (hF1 7 (by simp)).trans (by simp +decide only [GS])
  have gb2:=ga2.app (O.cells 46 [.bool y.1,.str y.2] true)
  have ga3:=gb2.N0 (iE (Grow.new hq y).1).1 hset2 kp
  refine hk _ _ _ (fun k hk=>?_) ga3 (Grow.new hq y).2 ?_
  ·have h7:k ∈ [0,4,5,7,30,31,32]:=by
    simp only [mem_cons,List.not_mem_nil,or_false] at hk ⊢
    omega
   refine (hF2 k h7).trans ((hF1 k h7).trans ?_)
   simp only [mem_cons,List.not_mem_nil,or_false] at hk
   rcases hk with rfl | rfl | rfl | rfl | rfl | rfl <;> simp +decide only [GS]
  ·exact ((((cQ.Bg Y _).trans kD.tR).trans (Lb.cQ.EV (kD _ _ hx1))).trans (cQ.Bg _ _)).trans (Lb.Kp.tR kp (gb2.jI.sets _ (iE (Grow.new hq y).1).1).map)
 ·rw [hq] at lk
  have e77:oA E 77 true (.ref e.s 0) .fW = some false:=by unfold oA; rw [hl.tA]
  obtain ⟨hme,hxe⟩:=iE hq
  obtain ⟨-,-,f3⟩:=ga1.facts
  have hmb:=f3 e.m (by first | exact .inl (mem_map.2 ⟨e,hme,rfl⟩) | exact .inr (mem_map.2 ⟨e,hme,rfl⟩))
  have r7:=fun F g7 st Q hk=>J7 (Y:=Y ++ [O.cells 144 [.mp b3,.bool x.1,.str x.2,.bool y.1,.str y.2] true]) (nb:=Y.length) (mb:=b3) (L:=L3) (x:=x) (y:=y) (e:=e) h h' hl ga1.jI hq hnb (hks e hme) (by first | exact hmb.2.2.2.1 | exact hmb.2.2.2.2) F g7 (st:=st) (Q:=Q) hk
  rw [show cutAt [1,1,1,2,2,1,1,0,2] (aA Tryz.f73).code = .seq (cutAt [1,1,1,2,2,1,1,0,2,0] (aA Tryz.f73).code) (.seq (.seq (cutAt [1,1,1,2,2,1,1,0,2,1,0,0] (aA Tryz.f73).code) (.cond (.tmp 41) (cutAt [1,1,1,2,2,1,1,0,2,1,0,1,0] (aA Tryz.f73).code) .skip)) (cutAt [1,1,1,2,2,1,1,0,2,1,1] (aA Tryz.f73).code)) from rfl]
  rw [show cutAt [1,1,1,2,2,1,1,0,2,1,0,1,0] (aA Tryz.f73).code = .region 6 (opsOf (cutAt [1,1,1,2,2,1,1,0,2,1,0,1,0] (aA Tryz.f73).code)) true from rfl,show cutAt [1,1,1,2,2,1,1,0,2,1,1] (aA Tryz.f73).code = .region 7 (opsOf (cutAt [1,1,1,2,2,1,1,0,2,1,1] (aA Tryz.f73).code)) true from rfl]
  generalize opsOf (cutAt [1,1,1,2,2,1,1,0,2,1,0,1,0] (aA Tryz.f73).code) = O6 at ⊢
  generalize opsOf (cutAt [1,1,1,2,2,1,1,0,2,1,1] (aA Tryz.f73).code) = O7 at r7 ⊢
  simp only [aA,Tryz.f73,KP,Ax.loadAt,Ax.storeAt,↓reduceIte,reduceEqDiff,reduceLT,reduceLeDiff,reduceAdd,reduceCtorEq,h.eI,e77,cutAt,h'.wW,h'.qB,g30,g32,ia,hb,hnb,lk,aO,cH]
  refine r7 _ ?_ _ _ (fun F2 τ2 hF2 hset2 kp=>?_)
  ·simp +decide only [GS]
  have gb2:=ga1.app (O.cells 46 [.bool y.1,.str y.2] true)
  have ga3:=gb2.N0 hme hset2 kp
  refine hk _ _ _ (fun k hk=>?_) ga3 (Grow.up hq y) ?_
  ·have h7:k ∈ [0,4,5,7,30,31,32]:=by
    simp only [mem_cons,List.not_mem_nil,or_false] at hk ⊢
    omega
   refine (hF2 k h7).trans ?_
   simp only [mem_cons,List.not_mem_nil,or_false] at hk
   rcases hk with rfl | rfl | rfl | rfl | rfl | rfl <;> simp +decide only [GS]
  ·exact ((cQ.Bg Y _).trans (cQ.Bg _ _)).trans (Lb.Kp.tR kp (gb2.jI.sets e hme).map)
theorem Qx (h:bK E) (h':uX E) (hl:Lb.cU E) {Y:Sg} {gb m0 m1 sa ma b3 b4:Nat} {es0 es1:List (V × V)} {A:List aK} {L3 L4:List dD} (ga:nG E Y gb m0 m1 sa ma b3 b4 es0 es1 A L3 L4) {x y:aK} {blk:Nat} (hb:Y[blk]? = some (O.cells 144 [.mp b3,.bool x.1,.str x.2,.bool y.1,.str y.2,.mp b4,.bool y.1,.str y.2,.bool x.1,.str x.2] true)) (hks:∀ e ∈ L4,e.ks.length <= 1000000) (F:FT) (g30:F.get 30 = .sl blk 0 2 none) (g32:F.get 32 = .int .i64 1) {st:List jO} {Q:Ax.X -> Fr -> Sg -> Prop}
  (hk:∀ F' τ' L',(∀ k,k ∈ [0,4,5,30,31,32] -> F'.get k = F.get k) -> nG E τ' gb m0 m1 sa ma b3 b4 es0 es1 A L3 L' -> Grow L4 y x L' -> Lb.cQ Y τ' -> M E st .normal ⟨57,F'⟩ τ' Q):Ax.R E (cutAt [1,1,1,2,2,1,1,0,2] (aA Tryz.f73).code) st ⟨57,F⟩ Y Q:=by
 have ia:indexAddr E 145 (.sl blk 0 2 none) (.int .i64 1) = some (.ref blk 5):=by unfold Ax.indexAddr; simp only [h'.Jq,h'.wW]; rfl
 have ga1:=ga.app (O.cells 144 [.mp b4,.bool y.1,.str y.2,.bool x.1,.str x.2] true)
 have hnb:(Y ++ [O.cells 144 [.mp b4,.bool y.1,.str y.2,.bool x.1,.str x.2] true])[Y.length]? = some (O.cells 144 [.mp b4,.bool y.1,.str y.2,.bool x.1,.str x.2] true):=aO
 have lk:=xY h' hl ga1.jA y
 unfold oO at lk
 rcases hq:bN L4 y with _ | e
 ·rw [hq] at lk
  have r7:=fun (ρ:Sg) (m:Nat) gm he hbx hln hne F g7 st Q hk=>J7 (Y:=ρ) (nb:=Y.length) (mb:=b4) (L:=L4 ++ [dD.mk y (Y ++ [O.cells 144 [.mp b4,.bool y.1,.str y.2,.bool x.1,.str x.2] true]).length m []]) (x:=y) (y:=x) (e:=dD.mk y (Y ++ [O.cells 144 [.mp b4,.bool y.1,.str y.2,.bool x.1,.str x.2] true]).length m []) h h' hl gm he hbx hln hne F g7 (st:=st) (Q:=Q) hk
  have r6:=fun F g7 st Q hk=>Si (Y:=Y ++ [O.cells 144 [.mp b4,.bool y.1,.str y.2,.bool x.1,.str x.2] true]) (nb:=Y.length) (mb:=b4) (L:=L4) (x:=y) (y:=x) h h' hl ga1.jA hq hnb F g7 (st:=st) (Q:=Q) hk
  rw [show cutAt [1,1,1,2,2,1,1,0,2] (aA Tryz.f73).code = .seq (cutAt [1,1,1,2,2,1,1,0,2,0] (aA Tryz.f73).code) (.seq (.seq (cutAt [1,1,1,2,2,1,1,0,2,1,0,0] (aA Tryz.f73).code) (.cond (.tmp 41) (cutAt [1,1,1,2,2,1,1,0,2,1,0,1,0] (aA Tryz.f73).code) .skip)) (cutAt [1,1,1,2,2,1,1,0,2,1,1] (aA Tryz.f73).code)) from rfl]
  rw [show cutAt [1,1,1,2,2,1,1,0,2,1,0,1,0] (aA Tryz.f73).code = .region 6 (opsOf (cutAt [1,1,1,2,2,1,1,0,2,1,0,1,0] (aA Tryz.f73).code)) true from rfl,show cutAt [1,1,1,2,2,1,1,0,2,1,1] (aA Tryz.f73).code = .region 7 (opsOf (cutAt [1,1,1,2,2,1,1,0,2,1,1] (aA Tryz.f73).code)) true from rfl]
  generalize opsOf (cutAt [1,1,1,2,2,1,1,0,2,1,0,1,0] (aA Tryz.f73).code) = O6 at r6 ⊢
  generalize opsOf (cutAt [1,1,1,2,2,1,1,0,2,1,1] (aA Tryz.f73).code) = O7 at r7 ⊢
  have e77:oA E 77 true .fW .fW = some true:=by unfold oA; rw [hl.tA]
  simp only [aA,Tryz.f73,KP,Ax.loadAt,Ax.storeAt,↓reduceIte,reduceEqDiff,reduceLT,reduceLeDiff,reduceAdd,reduceCtorEq,h.eI,e77,cutAt,h'.wW,h'.qB,g30,g32,ia,hb,hnb,lk,aO,cH]
  refine r6 _ ?_ _ _ (fun F1 τ1 m hF1 kD hset hlt=>?_)
  ·simp +decide only [GS]
  have hx1:=ga1.jA.map
  have ga2:=ga1.PS hq kD hset (Nat.le_of_lt hlt)
  have hmb:b4 < (Y ++ [O.cells 144 [.mp b4,.bool y.1,.str y.2,.bool x.1,.str x.2] true]).length:=map_lt hx1
  have hnb2:(τ1.set b4 (.map ((L4 ++ [dD.mk y (Y ++ [O.cells 144 [.mp b4,.bool y.1,.str y.2,.bool x.1,.str x.2] true]).length m []]).map nT)))[Y.length]? = some (O.cells 144 [.mp b4,.bool y.1,.str y.2,.bool x.1,.str x.2] true):=by
   rw [getElem?_set_ne]
   ·exact kD _ _ hnb
   ·intro e
    have q:=hx1.symm.trans ((congrArg (fun i=>(Y ++ [O.cells 144 [.mp b4,.bool y.1,.str y.2,.bool x.1,.str x.2] true])[i]?) e).trans hnb)
    cases q
  rw [W8]
  refine r7 _ m ga2.jA (Grow.new hq x).1 hnb2 (Nat.zero_le _) (show b4 ≠ m by omega) _ ?_ _ _ (fun F2 τ2 hF2 hset2 kp=>?_)
  ·exact (hF1 7 (by simp)).trans (by simp +decide only [GS])
  have gb2:=ga2.app (O.cells 46 [.bool x.1,.str x.2] true)
  have ga3:=gb2.MD (iE (Grow.new hq x).1).1 hset2 kp
  refine hk _ _ _ (fun k hk=>?_) ga3 (Grow.new hq x).2 ?_
  ·have h7:k ∈ [0,4,5,7,30,31,32]:=by
    simp only [mem_cons,List.not_mem_nil,or_false] at hk ⊢
    omega
   refine (hF2 k h7).trans ((hF1 k h7).trans ?_)
   simp only [mem_cons,List.not_mem_nil,or_false] at hk
   rcases hk with rfl | rfl | rfl | rfl | rfl | rfl <;> simp +decide only [GS]
  ·exact ((((cQ.Bg Y _).trans kD.tR).trans (Lb.cQ.EV (kD _ _ hx1))).trans (cQ.Bg _ _)).trans (Lb.Kp.tR kp (gb2.jA.sets _ (iE (Grow.new hq x).1).1).map)
 ·rw [hq] at lk
  have e77:oA E 77 true (.ref e.s 0) .fW = some false:=by unfold oA; rw [hl.tA]
  obtain ⟨hme,hxe⟩:=iE hq
  obtain ⟨-,-,f3⟩:=ga1.facts
  have hmb:=f3 e.m (by first | exact .inl (mem_map.2 ⟨e,hme,rfl⟩) | exact .inr (mem_map.2 ⟨e,hme,rfl⟩))
  have r7:=fun F g7 st Q hk=>J7 (Y:=Y ++ [O.cells 144 [.mp b4,.bool y.1,.str y.2,.bool x.1,.str x.2] true]) (nb:=Y.length) (mb:=b4) (L:=L4) (x:=y) (y:=x) (e:=e) h h' hl ga1.jA hq hnb (hks e hme) (by first | exact hmb.2.2.2.1 | exact hmb.2.2.2.2) F g7 (st:=st) (Q:=Q) hk
  rw [show cutAt [1,1,1,2,2,1,1,0,2] (aA Tryz.f73).code = .seq (cutAt [1,1,1,2,2,1,1,0,2,0] (aA Tryz.f73).code) (.seq (.seq (cutAt [1,1,1,2,2,1,1,0,2,1,0,0] (aA Tryz.f73).code) (.cond (.tmp 41) (cutAt [1,1,1,2,2,1,1,0,2,1,0,1,0] (aA Tryz.f73).code) .skip)) (cutAt [1,1,1,2,2,1,1,0,2,1,1] (aA Tryz.f73).code)) from rfl]
  rw [show cutAt [1,1,1,2,2,1,1,0,2,1,0,1,0] (aA Tryz.f73).code = .region 6 (opsOf (cutAt [1,1,1,2,2,1,1,0,2,1,0,1,0] (aA Tryz.f73).code)) true from rfl,show cutAt [1,1,1,2,2,1,1,0,2,1,1] (aA Tryz.f73).code = .region 7 (opsOf (cutAt [1,1,1,2,2,1,1,0,2,1,1] (aA Tryz.f73).code)) true from rfl]
  generalize opsOf (cutAt [1,1,1,2,2,1,1,0,2,1,0,1,0] (aA Tryz.f73).code) = O6 at ⊢
  generalize opsOf (cutAt [1,1,1,2,2,1,1,0,2,1,1] (aA Tryz.f73).code) = O7 at r7 ⊢
  simp only [aA,Tryz.f73,KP,Ax.loadAt,Ax.storeAt,↓reduceIte,reduceEqDiff,reduceLT,reduceLeDiff,reduceAdd,reduceCtorEq,h.eI,e77,cutAt,h'.wW,h'.qB,g30,g32,ia,hb,hnb,lk,aO,cH]
  refine r7 _ ?_ _ _ (fun F2 τ2 hF2 hset2 kp=>?_)
  ·simp +decide only [GS]
  have gb2:=ga1.app (O.cells 46 [.bool x.1,.str x.2] true)
  have ga3:=gb2.MD hme hset2 kp
  refine hk _ _ _ (fun k hk=>?_) ga3 (Grow.up hq x) ?_
  ·have h7:k ∈ [0,4,5,7,30,31,32]:=by
    simp only [mem_cons,List.not_mem_nil,or_false] at hk ⊢
    omega
   refine (hF2 k h7).trans ?_
   simp only [mem_cons,List.not_mem_nil,or_false] at hk
   rcases hk with rfl | rfl | rfl | rfl | rfl | rfl <;> simp +decide only [GS]
  ·exact ((cQ.Bg Y _).trans (cQ.Bg _ _)).trans (Lb.Kp.tR kp (gb2.jA.sets e hme).map)
end
end
section
section
variable {E:Env} {Z:Sg} {K:V -> Sg -> Prop}
theorem Ph (h:bK E) (h':uX E) (hl:Lb.cU E) {Y:Sg} {gb m0 m1 sa ma b3 b4:Nat} {es0 es1:List (V × V)} {A:List aK} {L3 L4:List dD} (ga:nG E Y gb m0 m1 sa ma b3 b4 es0 es1 A L3 L4) {x y:aK} (hA:A.length <= 1000000) (hk3:∀ e ∈ L3,e.ks.length <= 1000000) (hk4:∀ e ∈ L4,e.ks.length <= 1000000):aB E 73 [.ref gb 0,.agg [.bool x.1,.str x.2],.agg [.bool y.1,.str y.2]] Y fun v τ'=>v = .fZ [] /\ ∃ L3' L4',nG E τ' gb m0 m1 sa ma b3 b4 es0 es1 (keys A [x,y]) L3' L4' /\ Grow L3 x y L3' /\ Grow L4 y x L4' /\ Lb.cQ Y τ':=by
 rw [dF h'.hs73 h'.sp73 h'.fn73 h'.md73,aZ (by kernel_rfl)]
 have rn:=fun {Y} {L3 L4} {blk} A ga hb hks F g30 g32 st Q hk=>Qy (Y:=Y) (L3:=L3) (L4:=L4) (A:=A) (x:=x) (y:=y) (blk:=blk) (gb:=gb) (m0:=m0) (m1:=m1) (sa:=sa) (ma:=ma) (b3:=b3) (b4:=b4) (es0:=es0) (es1:=es1) h h' hl ga hb hks F g30 g32 (st:=st) (Q:=Q) hk
 have ru:=fun {Y} {L3 L4} {blk} A ga hb hks F g30 g32 st Q hk=>Qx (Y:=Y) (L3:=L3) (L4:=L4) (A:=A) (x:=x) (y:=y) (blk:=blk) (gb:=gb) (m0:=m0) (m1:=m1) (sa:=sa) (ma:=ma) (b3:=b3) (b4:=b4) (es0:=es0) (es1:=es1) h h' hl ga hb hks F g30 g32 (st:=st) (Q:=Q) hk
 have r1:=fun {Y} {n0 n1} ga hx hy F g0 g4 g5 st Q hk=>Xa (Y:=Y) (n0:=n0) (n1:=n1) (A:=A) (L3:=L3) (L4:=L4) (x:=x) (y:=y) (gb:=gb) (m0:=m0) (m1:=m1) (sa:=sa) (ma:=ma) (b3:=b3) (b4:=b4) (es0:=es0) (es1:=es1) h h' hl ga hx hy hA F g0 g4 g5 (st:=st) (Q:=Q) hk
 have d2:=h'.YY
 rw [show (aA Tryz.f73).code = .seq (cutAt [0] (aA Tryz.f73).code) (.seq (cutAt [1,0] (aA Tryz.f73).code) (.seq (cutAt [1,1,0] (aA Tryz.f73).code) (.block 0 (.loop (.seq (cutAt [1,1,1,2,2,0] (aA Tryz.f73).code) (.seq (cutAt [1,1,1,2,2,1,0] (aA Tryz.f73).code) (.seq (.block 1 (cutAt [1,1,1,2,2,1,1,0,2] (aA Tryz.f73).code)) (cutAt [1,1,1,2,2,1,1,1] (aA Tryz.f73).code)))))))) from rfl]
 rw [show cutAt [1,0] (aA Tryz.f73).code = .region 1 (opsOf (cutAt [1,0] (aA Tryz.f73).code)) true from rfl]
 generalize opsOf (cutAt [1,0] (aA Tryz.f73).code) = O1 at r1 ⊢
 generalize cutAt [1,1,1,2,2,1,1,0,2] (aA Tryz.f73).code = B at rn ru ⊢
 generalize hD2:cutAt [1,1,0] (aA Tryz.f73).code = D2 at d2 ⊢
 simp only [aA,Tryz.f73,KP,↓reduceIte,reduceEqDiff,reduceLT,reduceAdd,h.eI,cutAt]
 have gx:nG E (Y ++ [O.cells 46 [.bool x.1,.str x.2] true] ++ [O.cells 46 [.bool y.1,.str y.2] true]) gb m0 m1 sa ma b3 b4 es0 es1 A L3 L4:=(ga.app _).app _
 refine r1 gx (aN aO) aO _ ?_ ?_ ?_ _ _ (fun F1 τ1 hF1 ga1 hx1 hy1 kc1=>?_)
 ·simp +decide only [GS]
 ·simp +decide only [GS]
 ·simp +decide only [GS]
 have q0:F1.get 0 = .ref gb 0:=(hF1 0 (by simp)).trans (by simp +decide only [GS])
 have q4:F1.get 4 = .ref Y.length 0:=(hF1 4 (by simp)).trans (by simp +decide only [GS])
 have q5:F1.get 5 = .ref (Y ++ [O.cells 46 [.bool x.1,.str x.2] true]).length 0:=(hF1 5 (by simp)).trans (by simp +decide only [GS])
 have hg:=ga1.g
 have kc0:Lb.cQ Y τ1:=(((cQ.Bg Y _).trans (cQ.Bg _ _)).trans kc1)
 generalize (Y ++ [O.cells 46 [.bool x.1,.str x.2] true]).length = n1 at *
 generalize Y.length = n0 at *
 rw [W8]
 subst hD2
 simp only [aA,Tryz.f73,cutAt,Option.getD_some] at d2
 have lz:∀ (Z:Sg) (b:Nat),lenOf E Z 145 (.sl b 0 2 none) = some 2:=fun Z b=>by unfold lenOf; rw [h'.Jq]
 have d0:decide ((0:Int) < ((2:Nat):Int)) = true:=rfl
 have d1:decide ((1:Int) < ((2:Nat):Int)) = true:=rfl
 have d2':decide ((2:Int) < ((2:Nat):Int)) = false:=rfl
 have w1:wr .i64 1 = 1:=rfl
 have w2:wr .i64 2 = 2:=rfl
 simp only [aA,Tryz.f73,KP,Ax.loadAt,↓reduceIte,reduceEqDiff,reduceLT,reduceLeDiff,reduceAdd,reduceMul,reduceCtorEq,h.eI,lz,cutAt,aT d2,bM,h'.qB,h'.wW,h'.Jq,h'.sO,hg,hx1,hy1,q0,q4,q5,Ax.fill,Ax.placeOf,fQ,Nat.zero_mul]
 have ga2:=ga1.app (O.cells 144 [.mp b3,.bool x.1,.str x.2,.bool y.1,.str y.2,.mp b4,.bool y.1,.str y.2,.bool x.1,.str x.2] true)
 have hb2:(τ1 ++ [O.cells 144 [.mp b3,.bool x.1,.str x.2,.bool y.1,.str y.2,.mp b4,.bool y.1,.str y.2,.bool x.1,.str x.2] true])[τ1.length]? = some (O.cells 144 [.mp b3,.bool x.1,.str x.2,.bool y.1,.str y.2,.mp b4,.bool y.1,.str y.2,.bool x.1,.str x.2] true):=aO
 have kc2:Lb.cQ Y (τ1 ++ [O.cells 144 [.mp b3,.bool x.1,.str x.2,.bool y.1,.str y.2,.mp b4,.bool y.1,.str y.2,.bool x.1,.str x.2] true]):=kc0.trans (cQ.Bg _ _)
 generalize τ1 ++ [O.cells 144 [.mp b3,.bool x.1,.str x.2,.bool y.1,.str y.2,.mp b4,.bool y.1,.str y.2,.bool x.1,.str x.2] true] = τ2 at *
 generalize τ1.length = blk at *
 rw [aF]
 simp only [KP,↓reduceIte,reduceEqDiff,reduceLT,d0]
 refine rn _ ga2 hb2 hk3 _ ?_ ?_ _ _ (fun F3 τ3 L3' hF3 ga3 gr3 kc3=>?_)
 ·simp +decide only [GS]
 ·simp +decide only [GS]
 have q30:F3.get 30 = .sl blk 0 2 none:=(hF3 30 (by simp)).trans (by simp +decide only [GS])
 have q31:F3.get 31 = .int .i64 ((2:Nat):Int):=(hF3 31 (by simp)).trans (by simp +decide only [GS])
 have q32:F3.get 32 = .int .i64 0:=(hF3 32 (by simp)).trans (by simp +decide only [GS])
 simp only [KP,↓reduceIte,reduceLT,Int.reduceAdd,w1,q32]
 rw [aF]
 simp only [KP,↓reduceIte,reduceEqDiff,reduceLT,d1,q31]
 refine ru _ ga3 (kc3 _ _ _ _ hb2) hk4 _ ?_ ?_ _ _ (fun F4 τ4 L4' hF4 ga4 gr4 kc4=>?_)
 ·simp +decide only [GS,q30]
 ·simp +decide only [GS]
 have q31':F4.get 31 = .int .i64 ((2:Nat):Int):=(hF4 31 (by simp)).trans (by simp +decide only [GS,q31])
 have q32':F4.get 32 = .int .i64 1:=(hF4 32 (by simp)).trans (by simp +decide only [GS])
 simp only [KP,↓reduceIte,reduceLT,Int.reduceAdd,w2,q32']
 rw [aF]
 simp only [KP,↓reduceIte,reduceEqDiff,reduceLT,d2',q31']
 exact ⟨_,_,ga4,gr3,gr4,(kc2.trans kc3).trans kc4⟩
end
end
section
section
variable {E:Env} {Z:Sg} {K:V -> Sg -> Prop}
def dQ (r:aG):List (aK × aK):=r.ins.map (fun f=>(((true,r.name):aK),((false,f):aK))) ++ r.outs.map (fun f=>(((false,f):aK),((true,r.name):aK)))
def fU (r:aG):aK:=(true,r.name)
structure vD (X:List aK) (P:List (aK × aK)) (A:List aK) (L3 L4:List dD):Prop where
 all:∀ x,x ∈ A ↔ x ∈ X \/ ∃ p ∈ P,x = p.1 \/ x = p.2
 need:∀ z w,w ∈ qO L3 z ↔ (z,w) ∈ P
 user:∀ z w,w ∈ qO L4 z ↔ (w,z) ∈ P
 Om:A.length <= X.length + 2 * P.length
 On:∀ e ∈ L3,e.ks.length <= P.length
 QA:∀ e ∈ L4,e.ks.length <= P.length
theorem vD.nil:vD [] [] [] [] []:=⟨fun x=>by simp,fun z w=>by simp [qO,bN],fun z w=>by simp [qO,bN],Nat.le_refl _,(fun e he=>by cases he),(fun e he=>by cases he)⟩
theorem vD.link {X:List aK} {P:List (aK × aK)} {A:List aK} {L3 L4 L3' L4':List dD} {x y:aK} (h:vD X P A L3 L4) (g3:Grow L3 x y L3') (g4:Grow L4 y x L4'):vD X (P ++ [(x,y)]) (keys A [x,y]) L3' L4':=by
 refine ⟨fun z=>?_,fun z w=>?_,fun z w=>?_,?_,fun e he=>?_,fun e he=>?_⟩
 ·rw [mem_keys,h.all]
  constructor
  ·rintro ((h1 | ⟨p,hp,h1⟩) | h1)
   ·exact .inl h1
   ·exact .inr ⟨p,List.mem_append_left _ hp,h1⟩
   ·refine .inr ⟨(x,y),by simp,by simpa using h1⟩
  ·rintro (h1 | ⟨p,hp,h1⟩)
   ·exact .inl (.inl h1)
   ·rcases mem_append.1 hp with hp | hp
    ·exact .inl (.inr ⟨p,hp,h1⟩)
    ·rw [mem_singleton.1 hp] at h1
     exact .inr (by simpa using h1)
 ·rw [g3.mem,h.need,mem_append,mem_singleton]
  exact or_congr Iff.rfl ⟨fun q=>by rw [q.1,q.2],fun q=>⟨congrArg Prod.fst q,congrArg Prod.snd q⟩⟩
 ·rw [g4.mem,h.user,mem_append,mem_singleton]
  exact or_congr Iff.rfl ⟨fun q=>by rw [q.1,q.2],fun q=>⟨congrArg Prod.snd q,congrArg Prod.fst q⟩⟩
 ·have:=pJ (xs:=[x,y]) (l:=A)
  have:=h.Om
  simp only [length_append,length_cons,length_nil] at *
  omega
 ·rw [length_append]; exact g3.len _ h.On e he
 ·rw [length_append]; exact g4.len _ h.QA e he
theorem vD.rule {X:List aK} {P:List (aK × aK)} {A:List aK} {L3 L4:List dD} (x:aK) (h:vD X P A L3 L4):vD (X ++ [x]) P (keys A [x]) L3 L4:=by
 refine ⟨fun z=>?_,h.need,h.user,?_,h.On,h.QA⟩
 ·rw [mem_keys,h.all,mem_append]
  constructor
  ·rintro ((h1 | h1) | h1)
   ·exact .inl (.inl h1)
   ·exact .inr h1
   ·exact .inl (.inr h1)
  ·rintro ((h1 | h1) | h1)
   ·exact .inl (.inl h1)
   ·exact .inr h1
   ·exact .inl (.inr h1)
 ·have:=pJ (xs:=[x]) (l:=A)
  have:=h.Om
  simp only [length_append,length_cons,length_nil] at *
  omega
theorem Lh (r:aG) (hs:Small r):(dQ r).length <= 16:=by
 unfold dQ
 rw [length_append,length_map,length_map]
 have:=hs.ins
 have:=hs.outs
 omega
theorem oU:∀ (rs:List aG),(∀ r ∈ rs,Small r) -> (rs.flatMap dQ).length <= 16 * rs.length
 | [],_=>Nat.le_refl _
 | r :: rs,h=>by
  rw [flatMap_cons,length_append,length_cons]
  have:=Lh r (h r (mem_cons_self ..))
  have:=oU rs fun q hq=>h q (mem_cons_of_mem _ hq)
  omega
def RM (es:List (V × V)) (rs:List aG):Prop:=eS (fun e r=>e.1 = V.str r.name /\ R9 e.2 r) es rs
theorem R9.ok {v:V} {r:aG} (h:R9 v r):eY v = true:=by
 obtain ⟨a,b,c,d,rfl,h1,h2,h3,h4⟩:=h
 simp only [eY,List.all_cons,List.all_nil,aL h1.is.bE,aL h2.is.bE,aL h3.is.bE,aL h4.is.bE,Bool.and_true]
 rfl
theorem KS (h:bK E) (h':uX E) {Y:Sg} {b:Nat} {es:List (V × V)} {rs:List aG} {r:aG} {v:V} (hb:Y[b]? = some (.map es)) (ha:RM es rs) (hn:∀ q ∈ rs,q.name ≠ r.name) (hv:R9 v r) :
  mapUpdate E Y 103 (.mp b) (.str r.name) v = some (Y.set b (.map (es ++ [(.str r.name,v)]))) /\ RM (es ++ [(.str r.name,v)]) (rs ++ [r]):=by
 refine ⟨?_,ha.append (.one ⟨rfl,hv⟩)⟩
 have hk:dS E 9 (.str r.name) = true:=by unfold dS; rw [h.c_]
 have hp:=Ci h (k:=r.name) (v:=v) (es:=es) fun e he=>by
  obtain ⟨q,hq,h1,-⟩:=ha.mem he
  exact ⟨q.name,h1,hn q hq⟩
 unfold Ax.mapUpdate
 simp only [h'.MJ,hk,hv.ok,hb,hp,Bool.not_true,Bool.or_self,Bool.false_eq_true,if_false,Option.map_some]
theorem D5 {eq:V -> V -> Option Bool} {k v:V}:∀ {es es':List (V × V)},kK eq k v es = some es' -> ∀ e ∈ es',e ∈ es \/ e = (k,v)
 | [],es',h,e,he=>by
  cases h
  exact .inr (mem_singleton.1 he)
 | (k0,v0) :: r,es',h,e,he=>by
  unfold kK at h
  cases hq:eq k k0 with
  | none=>rw [hq] at h; cases h
  | some b=>
   rw [hq] at h
   cases b with
   | true=>
    cases h
    rcases mem_cons.1 he with h1 | h1
    ·exact .inr h1
    ·exact .inl (mem_cons_of_mem _ h1)
   | false=>
    dsimp only at h
    cases hr:kK eq k v r with
    | none=>rw [hr] at h; cases h
    | some r'=>
     rw [hr] at h
     cases h
     rcases mem_cons.1 he with h1 | h1
     ·exact .inl (by rw [h1]; exact mem_cons_self ..)
     ·exact (D5 hr e h1).imp (mem_cons_of_mem _) id
def Du (es:List (V × V)):Prop:=∀ e ∈ es,∃ n,e.2 = V.str n
theorem PU (h:bK E) {Z:Sg} {b:Nat} {es:List (V × V)} {get:aX -> Option V} (hb:Z[b]? = some (.map es)) (hs:SM E es get) (hv:Du es) (k n:aX):∃ es',mapUpdate E Z 104 (.mp b) (.str k) (.str n) = some (Z.set b (.map es')) /\ SM E es' (fun q=>if q = k then some (.str n) else get q) /\ Du es':=by
 obtain ⟨es',h1,h2⟩:=ET h (v:=.str n) k rfl hs
 have hk:dS E 9 (.str k) = true:=by unfold dS; rw [h.c_]
 refine ⟨es',?_,h2,fun e he=>?_⟩
 ·unfold Ax.mapUpdate
  simp only [h.Am,hk,hb,h1,eY,V.a_,Bool.not_true,Bool.or_self,Bool.false_eq_true,if_false,Option.map_some]
 ·rcases D5 h1 e he with h3 | h3
  ·exact hv e h3
  ·exact ⟨n,by rw [h3]⟩
theorem FC (h:bK E) (h':uX E) {s:aX}:aB E 72 [.str s] Z K = K (.agg [.bool true,.str s]) Z:=by
 refine aB.of ?_
 rw [aH h'.hs72 h'.sp72 h'.fn72 h'.md72 (args':=[.str s]) (by simp only [aW,dA]),aZ (by kernel_rfl)]
 simp only [aA,Tryz.f72,KP,Ax.loadAt,Ax.storeAt,↓reduceIte,reduceEqDiff,reduceLT,reduceAdd,reduceCtorEq,h.DB,h.c_,h.eI,Ax.fill,Ax.placeOf]
 exact rfl
theorem QN (h:bK E) (h':uX E) {s:aX}:KC E 72 [.str s] Z (.agg [.bool true,.str s]) Z:=dN fun _=>FC h h'
theorem RQ (h:bK E) (h':uX E) {s:aX}:aB E 74 [.str s] Z K = K (.agg [.bool false,.str s]) Z:=by
 refine aB.of ?_
 rw [aH h'.hs74 h'.sp74 h'.fn74 h'.md74 (args':=[.str s]) (by simp only [aW,dA]),aZ (by kernel_rfl)]
 simp only [aA,Tryz.f74,KP,Ax.loadAt,Ax.storeAt,↓reduceIte,reduceEqDiff,reduceLT,reduceAdd,reduceCtorEq,h.DB,h.c_,h.eI,Ax.fill,Ax.placeOf]
 exact rfl
theorem Kf (h:bK E) (h':uX E) {s:aX}:KC E 74 [.str s] Z (.agg [.bool false,.str s]) Z:=dN fun _=>RQ h h'
end
end
section
section
variable {E:Env} {Z:Sg} {K:V -> Sg -> Prop}
theorem Wh (h:bK E) (h':uX E) (hl:Lb.cU E) {Y:Sg} {gb m0 m1 sa ma b3 b4:Nat} {es0 es1:List (V × V)} {A:List aK} {L3 L4:List dD} (ga:nG E Y gb m0 m1 sa ma b3 b4 es0 es1 A L3 L4) {r:aG} {p1 p2 p3 p4:V} {y:Nat} (hy:Y[y]? = some (O.cells 37 [.str r.name,p1,p2,p3,p4] true)) (hA:A.length <= 1000000) (F:FT) (g5:F.get 5 = .ref gb 0) (g7:F.get 7 = .ref y 0) {st:List jO} {Q:Ax.X -> Fr -> Sg -> Prop}
  (hk:∀ F' τ',(∀ k,k ∈ [0,5,7,26,27,28] -> F'.get k = F.get k) -> nG E τ' gb m0 m1 sa ma b3 b4 es0 es1 (keys A [fU r]) L3 L4 -> Lb.cQ Y τ' -> M E st .normal ⟨88,F'⟩ τ' Q):Ax.R E (.region 9 (opsOf (cutAt [1,1,1,0,1,2,2,1,1,0,2,1,1,0] (aA Tryz.f19).code)) true) st ⟨88,F⟩ Y Q:=by
 have ga1:=ga.app (O.cells 46 [.bool true,.str r.name] true)
 have hsv:Lb.SV (Y ++ [O.cells 46 [.bool true,.str r.name] true]) (.sl Y.length 0 1 none) [fU r]:=.inr (.inr ⟨Y.length,_,true,rfl,aO,rfl⟩)
 obtain ⟨n1,v1,τ2,⟨hr,hset,hkp⟩,c1⟩:=aB.up (Lb.HA hl ga1.all hsv (show 1 <= 10000000000 by omega) (by omega))
 obtain ⟨n2,v2,ρ2,⟨e2,e2'⟩,c2⟩:=aB.up (show aB E 72 [.str r.name] Y fun v σ'=>v = .agg [.bool true,.str r.name] /\ σ' = Y by rw [FC h h']; exact ⟨rfl,rfl⟩)
 obtain ⟨n3,v3,ρ3,⟨e3,e3'⟩,c3⟩:=aB.up (show aB E 72 [.str r.name] (Y ++ [O.cells 46 [.bool true,.str r.name] true]) fun v σ'=>v = .agg [.bool true,.str r.name] /\ σ' = Y ++ [O.cells 46 [.bool true,.str r.name] true] by rw [FC h h']; exact ⟨rfl,rfl⟩)
 rw [e2,e2'] at c2
 rw [e3,e3'] at c3
 have c1:=c1 (n1 + n2 + n3) (by omega)
 have c2:=c2 (n1 + n2 + n3) (by omega)
 have c3:=c3 (n1 + n2 + n3) (by omega)
 generalize n1 + n2 + n3 = n at c1 c2 c3
 have ga2:=ga1.more hset hkp
 have hma:=ga1.all.map
 have ne:∀ {k:Nat} {t:Nat} {cs:List V} {ex:Bool},(Y ++ [O.cells 46 [.bool true,.str r.name] true])[k]? = some (.cells t cs ex) -> k ≠ ma:=fun hk e=>by
  rw [e,hma] at hk
  cases hk
 have g:=ga.g
 have g1:=ga1.g
 have vr:pP 12 (.ref sa 0) (.ref sa 0) = true:=by unfold pP; simp
 have key:∃ F',cC E (ev E n) (opsOf (cutAt [1,1,1,0,1,2,2,1,1,0,2,1,1,0] (aA Tryz.f19).code)) ⟨88,F⟩ Y = some (⟨88,F'⟩,τ2) /\ (∀ k,k ∈ [0,5,7,26,27,28] -> F'.get k = F.get k):=by
  unfold cC
  rw [h'.UF,h'.Wd]
  simp only [aA,Tryz.f19,KP,Ax.loadAt,↓reduceIte,reduceEqDiff,reduceLT,reduceLeDiff,reduceAdd,reduceMul,reduceCtorEq,h.c_,h.bJ,h.mK,h.eI,opsOf,cutAt,Fz.lits,fO,bG,bW,jP,Ax.comp,Ax.last,fI,Ax.again,Ax.fill,fQ,Nat.zero_mul,hl.tA,h'.sO,g5,g7,hy,g,g1,c1,c2,vr]
  refine ⟨_,rfl,fun k hk=>?_⟩
  simp only [mem_cons,List.not_mem_nil,or_false] at hk
  rcases hk with rfl | rfl | rfl | rfl | rfl | rfl <;> simp +decide only [GS]
 obtain ⟨F',hD,hF⟩:=key
 exact Eq.mpr (h_ hD) (hk F' τ2 hF ga2 ((cQ.Bg Y _).trans (Lb.Kp.tR hkp hma)))
end
end
section
section
variable {E:Env} {Z:Sg} {K:V -> Sg -> Prop}
theorem H8 {r:aG} {j:Nat} {s:aX} (hj:r.ins[j]? = some s):(r.ins.take (j + 1)).map (fun f=>(((true,r.name):aK),((false,f):aK))) = (r.ins.take j).map (fun f=>(((true,r.name):aK),((false,f):aK))) ++ [(((true,r.name):aK),((false,s):aK))]:=by
 rw [take_add_one,hj,map_append]; rfl
theorem FY {r:aG} {j:Nat} {s:aX} (hj:r.outs[j]? = some s):(r.outs.take (j + 1)).map (fun f=>(((false,f):aK),((true,r.name):aK))) = (r.outs.take j).map (fun f=>(((false,f):aK),((true,r.name):aK))) ++ [(((false,s):aK),((true,r.name):aK))]:=by
 rw [take_add_one,hj,map_append]; rfl
theorem NX (h:bK E) (h':uX E) (hl:Lb.cU E) {Y:Sg} {gb m0 m1 sa ma b3 b4:Nat} {es0 es1:List (V × V)} {A:List aK} {L3 L4:List dD} (ga:nG E Y gb m0 m1 sa ma b3 b4 es0 es1 A L3 L4) {X:List aK} {P:List (aK × aK)} (li:vD X P A L3 L4) (hX:X.length <= 1000) (hP:P.length <= 100000) {a c27:V} {i:Nat} {r:aG} {g:Bool} {p1 p2 p3 p4:V} (e1:indexAddr E 22 a (.int .i64 (i:Int)) = some (.dU g [.str r.name,p1,p2,p3,p4])) (i1:IS aM p1 r.ins) (i2:IS aM p2 r.outs) (i3:IS aM p3 r.after) (i4:IS eX p4 r.steps) (hs:Small r) {rs:List aG} (ha:RM es0 rs) (hn:∀ q ∈ rs,q.name ≠ r.name) {get:aX -> Option V} {Pm:aX -> aX -> Prop} (hsm:SM E es1 get) (hsv:Du es1) (hmk:MK get Pm)
  (F:FT) (g0:F.get 0 = a) (g5:F.get 5 = .ref gb 0) (g26:F.get 26 = a) (g27:F.get 27 = c27) (g28:F.get 28 = .int .i64 (i:Int)) {st:List jO} {Q:Ax.X -> Fr -> Sg -> Prop}
  (hk:∀ F' τ' es0' es1' get' A' L3' L4',F'.get 0 = a -> F'.get 5 = .ref gb 0 -> F'.get 26 = a -> F'.get 27 = c27 -> F'.get 28 = .int .i64 (i:Int) -> nG E τ' gb m0 m1 sa ma b3 b4 es0' es1' A' L3' L4' -> vD (X ++ [fU r]) (P ++ dQ r) A' L3' L4' -> RM es0' (rs ++ [r]) -> SM E es1' get' -> Du es1' -> MK get' (fun k n=>Pm k n \/ (k ∈ r.outs /\ n = r.name)) -> M E st .normal ⟨88,F'⟩ τ' Q):Ax.R E (cutAt [1,1,1,0,1,2,2,1,1,0,2] (aA Tryz.f19).code) st ⟨88,F⟩ Y Q:=by
 have o1:=aL i1.bE
 have o2:=aL i2.bE
 have o3:=aL i3.bE
 have o4:=aL i4.bE
 have a1:=hs.ins
 have a2:=hs.outs
 have l1:=bO h i1
 have l2:=bO h i2
 have d8:=h'.Y9
 simp only [aA,Tryz.f19,cutAt,Option.getD_some] at d8
 have d18:=h'.TV
 simp only [aA,Tryz.f19,cutAt,Option.getD_some] at d18
 have d19:=h'.TU
 simp only [aA,Tryz.f19,cutAt,Option.getD_some] at d19
 have r9:=fun {Y} {es0} {y} ga hy hA F g5 g7 st Q hk=>Wh (Y:=Y) (y:=y) (r:=r) (p1:=p1) (p2:=p2) (p3:=p3) (p4:=p4) (A:=A) (L3:=L3) (L4:=L4) (gb:=gb) (m0:=m0) (m1:=m1) (sa:=sa) (ma:=ma) (b3:=b3) (b4:=b4) (es0:=es0) (es1:=es1) h h' hl ga hy hA F g5 g7 (st:=st) (Q:=Q) hk
 rw [show cutAt [1,1,1,0,1,2,2,1,1,0,2] (aA Tryz.f19).code = .seq (cutAt [1,1,1,0,1,2,2,1,1,0,2,0] (aA Tryz.f19).code) (.seq (cutAt [1,1,1,0,1,2,2,1,1,0,2,1,0] (aA Tryz.f19).code) (.seq (.region 9 (opsOf (cutAt [1,1,1,0,1,2,2,1,1,0,2,1,1,0] (aA Tryz.f19).code)) true) (cutAt [1,1,1,0,1,2,2,1,1,0,2,1,1,1] (aA Tryz.f19).code))) from rfl]
 generalize opsOf (cutAt [1,1,1,0,1,2,2,1,1,0,2,1,1,0] (aA Tryz.f19).code) = O9 at r9 ⊢
 generalize hREST:cutAt [1,1,1,0,1,2,2,1,1,0,2,1,1,1] (aA Tryz.f19).code = REST
 have ga1:=ga.app (O.cells 37 [.str r.name,p1,p2,p3,p4] true)
 have hy1:(Y ++ [O.cells 37 [.str r.name,p1,p2,p3,p4] true])[Y.length]? = some (O.cells 37 [.str r.name,p1,p2,p3,p4] true):=aO
 have gg1:=ga1.g
 simp only [aA,Tryz.f19,KP,Ax.loadAt,Ax.storeAt,↓reduceIte,reduceEqDiff,reduceLT,reduceAdd,reduceCtorEq,h.c_,h.bJ,cutAt,aT d8,bM,h'.sO,h'.MJ,g5,g26,g28,e1,o1,o2,o3,o4,gg1,hy1,aO,cH]
 generalize Y ++ [O.cells 37 [.str r.name,p1,p2,p3,p4] true] = τ1 at *
 generalize Y.length = y at *
 refine aI (Pk h h' (v:=.agg [.str r.name,p1,p2,p3,p4]) ⟨p1,p2,p3,p4,rfl,i1,i2,i3,i4⟩ hs) ?_
 rintro v σ' ⟨rfl,hv⟩
 obtain ⟨hu,hrm⟩:=KS h h' ga1.rules ha hn hv
 have ga2:=ga1.rule (es0 ++ [(.str r.name,v)])
 have hy2:(σ'.set m0 (.map (es0 ++ [(.str r.name,v)])))[y]? = some (O.cells 37 [.str r.name,p1,p2,p3,p4] true):=Lb.cQ.EV ga1.rules _ _ _ _ hy1
 simp only [KP,↓reduceIte,reduceEqDiff,reduceLT,hu]
 generalize σ'.set m0 (.map (es0 ++ [(.str r.name,v)])) = τ2 at *
 refine r9 ga2 hy2 (by have:=li.Om; omega) _ ?_ ?_ _ _ (fun F3 τ3 hF3 ga3 kc3=>?_)
 ·simp +decide only [GS,g5]
 ·simp +decide only [GS]
 have li3:=li.rule (fU r)
 have hy3:=kc3 _ _ _ _ hy2
 have q0:F3.get 0 = a:=(hF3 0 (by simp)).trans (by simp +decide only [GS,g0])
 have q5:F3.get 5 = .ref gb 0:=(hF3 5 (by simp)).trans (by simp +decide only [GS,g5])
 have HQ:F3.get 26 = a:=(hF3 26 (by simp)).trans (by simp +decide only [GS,g26])
 have VT:F3.get 27 = c27:=(hF3 27 (by simp)).trans (by simp +decide only [GS,g27])
 have VS:F3.get 28 = .int .i64 (i:Int):=(hF3 28 (by simp)).trans (by simp +decide only [GS,g28])
 have q7:F3.get 7 = .ref y 0:=(hF3 7 (by simp)).trans (by simp +decide only [GS])
 have hX3:(X ++ [fU r]).length <= 1001:=by rw [length_append]; simp only [length_cons,length_nil]; omega
 subst hREST
 generalize X ++ [fU r] = X3 at *
 generalize keys A [fU r] = A3 at *
 have kr:=fun (Y:Sg)=>QN (Z:=Y) h h' (s:=r.name)
 rw [W8]
 simp only [aA,Tryz.f19,KP,Ax.loadAt,↓reduceIte,reduceLT,reduceCtorEq,h.bB,h.bJ,cutAt,q7,hy3,l1]
 refine aU (fun j F Y=>F.get 0 = a /\ F.get 5 = .ref gb 0 /\ F.get 26 = a /\ F.get 27 = c27 /\ F.get 28 = .int .i64 (i:Int) /\ F.get 7 = .ref y 0 /\ F.get 50 = p1 /\ F.get 51 = .int .i64 (r.ins.length:Int) /\ F.get 52 = .int .i64 (j:Int) /\ Y[y]? = some (O.cells 37 [.str r.name,p1,p2,p3,p4] true) /\ ∃ A L3 L4,nG E Y gb m0 m1 sa ma b3 b4 (es0 ++ [(.str r.name,v)]) es1 A L3 L4 /\ vD X3 (P ++ (r.ins.take j).map (fun f=>(((true,r.name):aK),((false,f):aK)))) A L3 L4) r.ins.length ?_ ?_ r.ins.length 0 _ _ (by omega) (vO (by simp +decide only [GS,q0,q5,HQ,VT,VS,q7,and_self]) ⟨hy3,A3,L3,L4,ga3,by rw [List.take_zero,map_nil,append_nil]; exact li3⟩)
 ·rintro j F Y hj ⟨g0,g5,g26,g27,g28,g7,g50,g51,g52,hy,A,L3,L4,ga,li⟩ next
  obtain ⟨s,hsj⟩:∃ y,r.ins[j]? = some y:=⟨_,List.getElem?_eq_getElem hj⟩
  obtain ⟨g',e2⟩:=gG h i1 hsj
  have hlt:=eE hj
  have hadd:=bY j (by omega)
  have hPl:(P ++ (r.ins.take j).map (fun f=>(((true,r.name):aK),((false,f):aK)))).length <= 100010:=by rw [length_append,length_map,length_take]; omega
  have kf:=fun (Y:Sg)=>Kf (Z:=Y) h h' (s:=s)
  rw [aF]
  simp only [KP,Ax.loadAt,↓reduceIte,reduceEqDiff,reduceLT,reduceCtorEq,h.c_,h.bJ,g5,g7,g50,g51,g52,hlt,e2,hy,kr,kf]
  refine aI (Ph h h' hl ga (x:=(true,r.name)) (y:=(false,s)) (by have:=li.Om; omega) (fun e he=>by have:=li.On e he; omega) (fun e he=>by have:=li.QA e he; omega)) ?_
  rintro v2 τ' ⟨rfl,L3',L4',ga',gr3,gr4,kc⟩
  simp only [KP,↓reduceIte,reduceEqDiff,reduceLT,g52,hadd]
  refine next _ _ (vO (by simp +decide only [GS,g0,g5,g26,g27,g28,g7,g50,g51,and_self]) ⟨kc _ _ _ _ hy,_,L3',L4',ga',?_⟩)
  rw [H8 hsj,<- append_assoc]
  exact li.link gr3 gr4
 rintro F Y ⟨g0,g5,g26,g27,g28,g7,g50,g51,g52,hy,A,L3,L4,ga,li⟩
 rw [take_of_length_le (Nat.le_refl _)] at li
 have hPl:(P ++ r.ins.map (fun f=>(((true,r.name):aK),((false,f):aK)))).length <= 100010:=by rw [length_append,length_map]; omega
 rw [aF]
 have hlt:=eF (Nat.lt_irrefl r.ins.length)
 simp only [KP,Ax.loadAt,↓reduceIte,reduceEqDiff,reduceLT,reduceCtorEq,h.bB,h.bJ,g51,g52,hlt,g7,hy,l2]
 generalize hP2:P ++ r.ins.map (fun f=>(((true,r.name):aK),((false,f):aK))) = P2 at *
 refine aU (fun j F Y=>F.get 0 = a /\ F.get 5 = .ref gb 0 /\ F.get 26 = a /\ F.get 27 = c27 /\ F.get 28 = .int .i64 (i:Int) /\ F.get 7 = .ref y 0 /\ F.get 65 = p2 /\ F.get 66 = .int .i64 (r.outs.length:Int) /\ F.get 67 = .int .i64 (j:Int) /\ Y[y]? = some (O.cells 37 [.str r.name,p1,p2,p3,p4] true) /\ ∃ es1 get A L3 L4,nG E Y gb m0 m1 sa ma b3 b4 (es0 ++ [(.str r.name,v)]) es1 A L3 L4 /\ vD X3 (P2 ++ (r.outs.take j).map (fun f=>(((false,f):aK),((true,r.name):aK)))) A L3 L4 /\ SM E es1 get /\ Du es1 /\ MK get (fun k n=>Pm k n \/ (k ∈ r.outs.take j /\ n = r.name))) r.outs.length ?_ ?_ r.outs.length 0 _ _ (by omega) (vO (by simp +decide only [GS,g0,g5,g26,g27,g28,g7,and_self]) ⟨hy,es1,get,A,L3,L4,ga,by rw [List.take_zero,map_nil,append_nil]; exact li,hsm,hsv,hmk.congr fun k n=>by simp⟩)
 ·rintro j F Y hj ⟨g0,g5,g26,g27,g28,g7,g65,g66,g67,hy,es1,get,A,L3,L4,ga,li,hsm,hsv,hmk⟩ next
  obtain ⟨s,hsj⟩:∃ y,r.outs[j]? = some y:=⟨_,List.getElem?_eq_getElem hj⟩
  obtain ⟨g',e2⟩:=gG h i2 hsj
  have hlt:=eE hj
  have hadd:=bY j (by omega)
  have hPl2:(P2 ++ (r.outs.take j).map (fun f=>(((false,f):aK),((true,r.name):aK)))).length <= 100020:=by rw [length_append,length_map,length_take]; omega
  have kf:=fun (Y:Sg)=>Kf (Z:=Y) h h' (s:=s)
  rw [aF]
  simp only [KP,Ax.loadAt,↓reduceIte,reduceEqDiff,reduceLT,reduceCtorEq,h.c_,h.bJ,aT d18,bM,g5,g7,g65,g66,g67,hlt,e2,hy,kr,kf]
  refine aI (Ph h h' hl ga (x:=(false,s)) (y:=(true,r.name)) (by have:=li.Om; omega) (fun e he=>by have:=li.On e he; omega) (fun e he=>by have:=li.QA e he; omega)) ?_
  rintro v2 τ' ⟨rfl,L3',L4',ga',gr3,gr4,kc⟩
  have hy':=kc _ _ _ _ hy
  have hg':=ga'.g
  obtain ⟨es1',hu,hsm',hsv'⟩:=PU h ga'.jJ hsm hsv s r.name
  have ga2:=ga'.Ob es1'
  simp only [KP,Ax.loadAt,↓reduceIte,reduceEqDiff,reduceLT,reduceCtorEq,h.c_,h.bJ,h.Am,aT d19,bM,h'.sO,g5,g7,g67,hadd,hy',hg',hu]
  refine next _ _ (vO (by simp +decide only [GS,g0,g5,g26,g27,g28,g7,g65,g66,and_self]) ⟨Lb.cQ.EV ga'.jJ _ _ _ _ hy',es1',_,_,L3',L4',ga2,?_,hsm',hsv',(hmk.put s r.name).congr fun k n=>?_⟩)
  ·rw [FY hsj,<- append_assoc]
   exact li.link gr3 gr4
  ·rw [fL hsj k]
   constructor
   ·rintro ((h1 | h1) | h1)
    ·exact .inl h1
    ·exact .inr ⟨.inl h1.1,h1.2⟩
    ·exact .inr ⟨.inr h1.1,h1.2⟩
   ·rintro (h1 | ⟨h1 | h1,h2⟩)
    ·exact .inl (.inl h1)
    ·exact .inl (.inr ⟨h1,h2⟩)
    ·exact .inr ⟨h1,h2⟩
 rintro F Y ⟨g0,g5,g26,g27,g28,g7,g65,g66,g67,hy,es1,get,A,L3,L4,ga,li,hsm,hsv,hmk⟩
 rw [take_of_length_le (Nat.le_refl _)] at li hmk
 rw [aF]
 have hlt:=eF (Nat.lt_irrefl r.outs.length)
 simp only [KP,↓reduceIte,reduceLT,g66,g67,hlt]
 refine hk _ _ _ _ _ _ _ _ (by simp +decide only [GS,g0]) (by simp +decide only [GS,g5]) (by simp +decide only [GS,g26]) (by simp +decide only [GS,g27]) (by simp +decide only [GS,g28]) ga ?_ hrm hsm hsv hmk
 unfold dQ
 rw [<- append_assoc,hP2]
 exact li
end
end
section
section
variable {E:Env} {Z:Sg} {K:V -> Sg -> Prop}
theorem En {rs:List aG} {i:Nat} {r:aG} (hr:rs[i]? = some r):(rs.take (i + 1)).flatMap dQ = (rs.take i).flatMap dQ ++ dQ r /\ (rs.take (i + 1)).map fU = (rs.take i).map fU ++ [fU r]:=by
 rw [take_add_one,hr]
 simp
theorem nw_c (h:bK E) (h':uX E) (hl:Lb.cU E) {a:V} {rs:List aG} (ia:IS dZ a rs) (hs:∀ x ∈ rs,Small x) (hsh:ED rs) (hlen:rs.length <= 1000) (F:FT) (g0:F.get 0 = a) {K:V -> Sg -> Prop}
  (hk:∀ Y gb ma b3 b4 es0 es1 get A L3 L4,nG E Y gb 0 1 2 ma b3 b4 es0 es1 A L3 L4 -> vD (rs.map fU) (rs.flatMap dQ) A L3 L4 -> RM es0 rs -> SM E es1 get -> Du es1 -> MK get (Mk rs) -> K (.ref gb 0) Y):Ax.R E (cutAt [1,1] (aA Tryz.f19).code) [] ⟨88,F⟩ [] (mD E (aA Tryz.f19).results K):=by
 have la:=cV h ia
 have inner:=fun {Y gb ma b3 b4 es0 es1 A L3 L4} ga {X P} li hX hP {i r g p1 p2 p3 p4} e1 i1 i2 i3 i4 hs {rs2} ha hn {get Pm} hsm hsv hmk F g0 g5 g26 g27 g28 st Q hk=>NX (Y:=Y) (gb:=gb) (m0:=0) (m1:=1) (sa:=2) (ma:=ma) (b3:=b3) (b4:=b4) (es0:=es0) (es1:=es1) (A:=A) (L3:=L3) (L4:=L4) (X:=X) (P:=P) (a:=a) (c27:=.int .i64 (rs.length:Int)) (i:=i) (r:=r) (g:=g) (p1:=p1) (p2:=p2) (p3:=p3) (p4:=p4) (rs:=rs2) (get:=get) (Pm:=Pm) h h' hl ga li hX hP e1 i1 i2 i3 i4 hs ha hn hsm hsv hmk F g0 g5 g26 g27 g28 (st:=st) (Q:=Q) hk
 rw [show cutAt [1,1] (aA Tryz.f19).code = .seq (cutAt [1,1,0] (aA Tryz.f19).code) (.seq (.seq (cutAt [1,1,1,0,0] (aA Tryz.f19).code) (.block 0 (.loop (.seq (cutAt [1,1,1,0,1,2,2,0] (aA Tryz.f19).code) (.seq (cutAt [1,1,1,0,1,2,2,1,0] (aA Tryz.f19).code) (.seq (.block 1 (cutAt [1,1,1,0,1,2,2,1,1,0,2] (aA Tryz.f19).code)) (cutAt [1,1,1,0,1,2,2,1,1,1] (aA Tryz.f19).code))))))) (cutAt [1,1,1,1] (aA Tryz.f19).code)) from rfl]
 generalize cutAt [1,1,1,0,1,2,2,1,1,0,2] (aA Tryz.f19).code = B at inner ⊢
 simp only [aA,Tryz.f19,KP,↓reduceIte,reduceLT,cutAt]
 refine aI (Lb.Po hl (Z:=[.map [],.map []]) (v:=.aC) (l:=[]) (.inl ⟨rfl,rfl⟩) (by simp)) ?_
 rintro v τ1 ⟨m,rfl,hset,hlt,kD⟩
 have k0:=kD 0 _ rfl
 have k1:=kD 1 _ rfl
 have hs2:Lb.bZ τ1 2 m []:=hset
 have hlt:2 < m:=hlt
 have hml:=(List.getElem?_eq_some_iff.1 hs2.map).1
 simp only [KP,↓reduceIte,reduceEqDiff,reduceLT,reduceAdd,reduceCtorEq,h.Am,Ax.fill,Ax.placeOf,hl.tA,h'.sO,h'.MJ,h'.qB,g0,la]
 have ga0:nG E (τ1 ++ [.map []] ++ [.map []] ++ [.cells 107 [.mp 0,.mp 1,.ref 2 0,.mp τ1.length,.mp (τ1 ++ [O.map []]).length] true]) (τ1 ++ [O.map []] ++ [O.map []]).length 0 1 2 m τ1.length (τ1 ++ [O.map []]).length [] [] [] [] []:=by
  refine ⟨aO,aN (aN (aN k0)),aN (aN (aN k1)),bZ.app (bZ.app (bZ.app hs2 _) _) _,⟨aN (aN aO),(fun e he=>by cases he),nodup_nil⟩,⟨aN aO,(fun e he=>by cases he),nodup_nil⟩,?_⟩
  rw [length_append]
  simp only [map_nil,append_nil,nodup_cons,mem_cons,List.not_mem_nil,or_false,not_or,length_cons,length_nil,not_false_eq_true,nodup_nil,and_true]
  omega
 generalize τ1 ++ [.map []] ++ [.map []] ++ [.cells 107 [.mp 0,.mp 1,.ref 2 0,.mp τ1.length,.mp (τ1 ++ [O.map []]).length] true] = τ2 at *
 generalize (τ1 ++ [O.map []] ++ [O.map []]).length = gb at *
 generalize (τ1 ++ [O.map []]).length = b4 at *
 generalize τ1.length = b3 at *
 refine aU (fun i F Y=>F.get 0 = a /\ F.get 5 = .ref gb 0 /\ F.get 26 = a /\ F.get 27 = .int .i64 (rs.length:Int) /\ F.get 28 = .int .i64 (i:Int) /\ ∃ es0 es1 get A L3 L4,nG E Y gb 0 1 2 m b3 b4 es0 es1 A L3 L4 /\ vD ((rs.take i).map fU) ((rs.take i).flatMap dQ) A L3 L4 /\ RM es0 (rs.take i) /\ SM E es1 get /\ Du es1 /\ MK get (Mk (rs.take i))) rs.length ?_ ?_ rs.length 0 _ _ (by omega) (mH (by simp +decide only [GS,g0,and_self]) ⟨[],[],fun _=>none,[],[],[],ga0,vD.nil,.nil,Il,(fun e he=>by cases he),MK.nil.congr fun k n=>⟨fun h=>h.elim,fun ⟨q,hq,_⟩=>by cases hq⟩⟩)
 ·rintro i F Y hi ⟨g0,g5,g26,g27,g28,es0,es1,get,A,L3,L4,ga,li,ha,hsm,hsv,hmk⟩ next
  obtain ⟨r,hr⟩:∃ y,rs[i]? = some y:=⟨_,List.getElem?_eq_getElem hi⟩
  obtain ⟨g,p1,p2,p3,p4,e1,i1,i2,i3,i4⟩:=fD h ia hr
  have hrm:=mem_of_getElem? hr
  have hlt:=eE hi
  have hadd:=bY i (by omega)
  have hnn:∀ q ∈ rs.take i,q.name ≠ r.name:=fun q hq e=>by
   obtain ⟨j,hj⟩:=List.mem_iff_getElem?.1 hq
   have hji:j < i:=by have:=(List.getElem?_eq_some_iff.1 hj).1; rw [length_take] at this; omega
   rw [List.getElem?_take_of_lt hji] at hj
   have:=hsh.nodup j i q r hj hr e
   omega
  have hXl:((rs.take i).map fU).length <= 1000:=by rw [length_map,length_take]; omega
  have hPl:((rs.take i).flatMap dQ).length <= 100000:=by
   have:=oU (rs.take i) fun q hq=>hs q (List.mem_of_mem_take hq)
   rw [length_take] at this
   omega
  rw [aF]
  simp only [KP,↓reduceIte,reduceLT,g27,g28,hlt]
  refine inner ga li hXl hPl e1 i1 i2 i3 i4 (hs r hrm) ha hnn hsm hsv hmk _ ?_ ?_ ?_ ?_ ?_ _ _ (fun F2 τ2 es0' es1' get' A' L3' L4' q0 q5 HQ VT VS ga' li' ha' hsm' hsv' hmk'=>?_)
  ·simp +decide only [GS,g0]
  ·simp +decide only [GS,g5]
  ·simp +decide only [GS,g26]
  ·simp +decide only [GS,g27]
  ·simp +decide only [GS,g28]
  simp only [KP,↓reduceIte,reduceLT,VS,hadd]
  refine next _ _ (mH (by simp +decide only [GS,q0,q5,HQ,VT,and_self]) ⟨es0',es1',get',A',L3',L4',ga',?_,?_,hsm',hsv',hmk'.congr fun k n=>(KI hr k n).symm⟩)
  ·rw [(En hr).1,(En hr).2]; exact li'
  ·rw [take_add_one,hr]; exact ha'
 ·rintro F Y ⟨g0,g5,g26,g27,g28,es0,es1,get,A,L3,L4,ga,li,ha,hsm,hsv,hmk⟩
  rw [take_of_length_le (Nat.le_refl _)] at li ha hmk
  have hlt:=eF (Nat.lt_irrefl rs.length)
  rw [aF]
  simp only [KP,↓reduceIte,reduceEqDiff,reduceLT,g5,g27,g28,hlt]
  exact hk _ _ _ _ _ _ _ _ _ _ _ ga li ha hsm hsv hmk
end
end
section
section
variable {E:Env} {Z:Sg} {K:V -> Sg -> Prop}
def vU (ks:List aK):V:=.dU false [.imp false (Lb.mC ks)]
def CU (e:dD):V × V:=(oO e.key,vU e.ks)
def gV (es0 es1:List (V × V)) (A:List aK) (L3 L4:List dD):V:=.dU false [.imp false es0,.imp false es1,vU A,.imp false (L3.map CU),.imp false (L4.map CU)]
structure PJ (E:Env) (rs:List aG) (es0 es1:List (V × V)) (get:aX -> Option V) (A:List aK) (L3 L4:List dD):Prop where
 rules:RM es0 rs
 sm:SM E es1 get
 sv:Du es1
 Ob:MK get (Mk rs)
 li:vD (rs.map fU) (rs.flatMap dQ) A L3 L4
 nA:A.Nodup
 n3:(L3.map dD.key).Nodup
 n4:(L4.map dD.key).Nodup
 k3:∀ e ∈ L3,e.ks.Nodup
 k4:∀ e ∈ L4,e.ks.Nodup
def PM (E:Env) (rs:List aG) (v:V):Prop:=∃ es0 es1 get A L3 L4,v = gV es0 es1 A L3 L4 /\ PJ E rs es0 es1 get A L3 L4
theorem GI {α β γ:Type} {f:β -> Option γ} {g:α -> β} {k:α -> γ}:∀ {l:List α},(∀ x ∈ l,f (g x) = some (k x)) -> aW f (l.map g) = some (l.map k)
 | [],_=>rfl
 | x :: l,h=>by rw [map_cons,aW,h x (mem_cons_self ..),GI fun y hy=>h y (mem_cons_of_mem _ hy)]; rfl
theorem BZ {Z:Sg} {b m n:Nat} {ks:List aK} (hs:Lb.bZ Z b m ks):bP Z E.ty false (n + 3) (.ref b 0) = some (vU ks):=by
 have e1:bP Z E.ty false (n + 2) (.mp m) = some (.imp false (Lb.mC ks)):=by
  rw [bP]
  simp only [hs.map]
  rw [Lb.GJ (Lb.mC ks)]
  intro e he
  obtain ⟨k,_,rfl⟩:=mem_map.1 he
  rfl
 rw [bP]
 simp only [hs.obj,drop_zero]
 show (match aW (fun v=>match bP Z E.ty false (n + 2) v with
  | some v=>if cF false v then some v else no "snap: borrowed"
  | none=>none) [V.mp m] with
  | some l=>some (V.dU false l)
  | none=>none) = _
 simp only [aW,e1]
 rfl
theorem BX {Z:Sg} {b n:Nat} {L:List dD} (hm:iK Z b L):bP Z E.ty false (n + 4) (.mp b) = some (.imp false (L.map CU)):=by
 rw [bP]
 simp only [hm.map]
 rw [GI (k:=CU) fun e he=>?_]
 have h1:=BZ (E:=E) (n:=n) (hm.sets e he)
 have hp:(oO e.key).cells.all Ax.plainCell = true:=rfl
 show (if (oO e.key).cells.all Ax.plainCell = true then (match (match bP Z E.ty false (n + 3) (.ref e.s 0) with
   | some v=>if cF false v then some v else no "snap: borrowed"
   | none=>none) with
   | some v=>some (oO e.key,v)
   | none=>none) else none) = _
 rw [if_pos hp,h1]
 rfl
theorem Gc {Z:Sg} {b n:Nat} {es:List (V × V)} {rs:List aG} (hb:Z[b]? = some (.map es)) (ha:RM es rs):bP Z E.ty false (n + 2) (.mp b) = some (.imp false es):=by
 rw [bP]
 simp only [hb]
 rw [iU fun e he=>?_]
 obtain ⟨r,-,e1,a,b,c,d,e2,i1,i2,i3,i4⟩:=ha.mem he
 obtain ⟨k,v⟩:=e
 dsimp only at e1 e2
 subst e1 e2
 have hp:(V.str r.name).cells.all Ax.plainCell = true:=rfl
 have q:∀ c:V,Ax.bE c = true -> bP Z E.ty false (n + 1) c = some c:=fun c h1=>jR h1
 have t0:cF false (V.str r.name) = true:=rfl
 simp only [hp,if_true,aW,q (.str r.name) rfl,q a i1.is.bE,q b i2.is.bE,q c i3.is.bE,q d i4.is.bE,t0,i1.tag,i2.tag,i3.tag,i4.tag]
theorem Ik {Z:Sg} {b n:Nat} {es:List (V × V)} {get:aX -> Option V} (hb:Z[b]? = some (.map es)) (hs:SM E es get) (hv:Du es):bP Z E.ty false (n + 2) (.mp b) = some (.imp false es):=by
 rw [bP]
 simp only [hb]
 rw [iU fun e he=>?_]
 obtain ⟨k,e1⟩:=(hs.1 e he).1
 obtain ⟨m,e2⟩:=hv e he
 obtain ⟨a,v⟩:=e
 dsimp only at e1 e2
 subst e1 e2
 rfl
theorem Ij {Z:Sg} {gb m0 m1 sa ma b3 b4:Nat} {es0 es1:List (V × V)} {get:aX -> Option V} {A:List aK} {L3 L4:List dD} {rs:List aG} (ga:nG E Z gb m0 m1 sa ma b3 b4 es0 es1 A L3 L4) (ha:RM es0 rs) (hs:SM E es1 get) (hv:Du es1):cP Z E.ty false (.ref gb 0) = some (gV es0 es1 A L3 L4):=by
 have s0:=Gc (E:=E) (n:=9) ga.rules ha
 have s1:=Ik (E:=E) (n:=9) ga.jJ hs hv
 have s2:=BZ (E:=E) (n:=8) ga.all
 have s3:=BX (E:=E) (n:=7) ga.jI
 have s4:=BX (E:=E) (n:=7) ga.jA
 have e:bP Z E.ty false 12 (.ref gb 0) = some (gV es0 es1 A L3 L4):=by
  rw [bP]
  simp only [ga.g,drop_zero]
  show (match aW (fun v=>match bP Z E.ty false 11 v with
   | some v=>if cF false v then some v else no "snap: borrowed"
   | none=>none) [V.mp m0,V.mp m1,V.ref sa 0,V.mp b3,V.mp b4] with
   | some l=>some (V.dU false l)
   | none=>none) = _
  simp only [aW,s0,s1,s2,s3,s4]
  rfl
 show (match bP Z E.ty false 12 (.ref gb 0) with
  | some v=>if cF false v then some v else no "snap: borrowed"
  | none=>none) = _
 rw [e]
 rfl
theorem I7 (h:bK E) (h':uX E) (hl:Lb.cU E) {a:V} {rs:List aG} (ha:LS dZ 37 Z a rs) (hs:∀ x ∈ rs,Small x) (hlen:rs.length <= 4294967296):aB E 19 [a] Z fun v σ'=>σ' = Z /\ ((¬ mW rs /\ v = .fW) \/ (mW rs /\ PM E rs v)):=by
 obtain ⟨a',ea,ia⟩:=eT h ha
 rw [aH h'.hs19 h'.Nb h'.fn19 h'.md19 (args':=[a']) (by simp only [aW,ea]),aZ (by kernel_rfl)]
 have key:=fun hsh hlen F g0 hk=>nw_c (a:=a') (rs:=rs) h h' hl ia hs hsh hlen F g0 (K:=fun v σ1=>match cP σ1 E.ty false v with
   | some v=>((¬ mW rs /\ v = .fW) \/ (mW rs /\ PM E rs v))
   | none=>False) hk
 rw [show (aA Tryz.f19).code = .seq (cutAt [0] (aA Tryz.f19).code) (.seq (cutAt [1,0] (aA Tryz.f19).code) (cutAt [1,1] (aA Tryz.f19).code)) from rfl]
 generalize cutAt [1,1] (aA Tryz.f19).code = C at key ⊢
 simp only [aA,Tryz.f19,KP,↓reduceIte,reduceLT,reduceCtorEq,cutAt]
 refine aI (Uj h (ia.ls _ 37) hs hlen) ?_
 rintro v σ' ⟨rfl,e,nm,rfl,hE⟩
 by_cases he:e = 0
 ·have q:=decide_eq_true he
  have hr:=hE.zero.1 he
  have hg:=yB hr.1
  have h40:=hg.len
  simp only [KP,↓reduceIte,reduceEqDiff,reduceLT,q]
  refine key hg.short (Nat.le_trans h40 (by decide)) _ ?_ ?_
  ·simp +decide only [GS]
  intro Y gb ma b3 b4 es0 es1 get A L3 L4 ga li ha hsm hsv hmk
  rw [Ij ga ha hsm hsv]
  exact .inr ⟨hr,es0,es1,get,A,L3,L4,rfl,ha,hsm,hsv,hmk,li,ga.all.nodup,ga.jI.nodup,ga.jA.nodup,fun e he=>(ga.jI.sets e he).nodup,fun e he=>(ga.jA.sets e he).nodup⟩
 ·have q:=decide_eq_false he
  simp only [KP,↓reduceIte,reduceEqDiff,reduceLT,q]
  exact .inl ⟨mt hE.zero.2 he,rfl⟩
end
end
section
structure PK (E:Env):Prop where
 hs23:E.hspec 23 = none
 M7:E.spec 23 = none
 fn23:E.fn 23 = some (aA Tryz.f23)
 md23:E.mode 23 = .eV
 hs36:E.hspec 36 = none
 sp36:E.spec 36 = none
 fn36:E.fn 36 = some (aA Tryz.f36)
 md36:E.mode 36 = .eV
 hs26:E.hspec 26 = none
 M4:E.spec 26 = none
 fn26:E.fn 26 = some (aA Tryz.f26)
 md26:E.mode 26 = .eV
 hs33:E.hspec 33 = none
 sp33:E.spec 33 = none
 fn33:E.fn 33 = some (aA Tryz.f33)
 md33:E.mode 33 = .eV
 hs39:E.hspec 39 = none
 sp39:E.spec 39 = none
 fn39:E.fn 39 = some (aA Tryz.f39)
 md39:E.mode 39 = .eV
 Xk:E.hspec 76 = none
 UL:E.spec 76 = none
 X8:E.fn 76 = some (aA Tryz.f76)
 Wm:E.mode 76 = .eV
 Y8:aP E (cutAt [1,1,0] (aA Tryz.f23).code) = true
 d36_3:aP E (cutAt [1,1,0] (aA Tryz.f36).code) = true
 Y4:aP E (cutAt [1,0,2,0] (aA Tryz.f26).code) = true
 Y3:aP E (cutAt [1,0,2,1,1,1,1,0] (aA Tryz.f26).code) = true
section
variable {E:Env} {Z:Sg} {K:V -> Sg -> Prop}
def Jj (v:V) (l:List aK):Prop:=(v = .aC /\ l = []) \/ ∃ full,v = .bL false (l.map row) full
theorem Jj.lv {v:V} {l:List aK} (h:Jj v l):Lb.LV v l:=h.imp id fun ⟨f,e⟩=>⟨false,f,e⟩
def FK (ks:List aK):Prop:=ks.length <= 1000000 /\ ∀ k ∈ ks,k.2.length <= 9223372036854775807
theorem DN:∀ l:List aK,Ax.rows 2 l.length (l.flatMap row) = l.map row
 | []=>rfl
 | x :: l=>by
  rw [length_cons,flatMap_cons,Ax.rows,map_cons]
  have h1:(row x ++ l.flatMap row).take 2 = row x:=rfl
  have h2:(row x ++ l.flatMap row).drop 2 = l.flatMap row:=rfl
  rw [h1,h2,DN l]
theorem K0 (hl:Lb.cU E) {Z:Sg} {j:Nat} {l:List aK} {ex:Bool} (hj:Z[j]? = some (.cells 46 (l.flatMap row) ex)):∃ v',cP Z E.ty false (.sl j 0 l.length none) = some v' /\ Jj v' l:=by
 have hlen:(l.flatMap row).length = l.length * 2:=Lb.iI l
 obtain ⟨full,e⟩:=BW (g:=false) (n:=l.length) hj hl.eI (show l.length * 2 <= _ by omega) (fun c hc=>by
  rw [show (l.flatMap row).take (l.length * 2) = l.flatMap row from take_of_length_le (by omega)] at hc
  obtain ⟨x,-,hx⟩:=mem_flatMap.1 hc
  unfold row at hx
  simp only [mem_cons,List.not_mem_nil,or_false] at hx
  rcases hx with rfl | rfl <;> exact ⟨rfl,rfl⟩)
 refine ⟨_,e,.inr ⟨full,?_⟩⟩
 show V.bL false (Ax.rows 2 l.length ((l.flatMap row).take (l.length * 2))) full = _
 rw [take_of_length_le (by omega),DN]
theorem vE (hl:Lb.cU E) {Z σ':Sg} {r:V} {l:List aK} (h:Lb.Own Z σ' r l):∃ v',cP σ' E.ty false r = some v' /\ Jj v' l:=by
 rcases h with ⟨rfl,rfl⟩ | ⟨j,-,rfl,hj⟩
 ·exact ⟨.aC,rfl,.inl ⟨rfl,rfl⟩⟩
 ·exact K0 hl hj
theorem Ig {ks:List aK} (hn:ks.Nodup) (hs:FK ks) {j:Nat} {g:Bool} (hj:Z[j]? = some (.cells 82 [.imp g (Lb.mC ks)] true)) :
  kS 46 [129] [] 89 [.fn 129 [] [.ref j 0],.fn 89 [] []] Z = some (if ks = [] then (.aC,Z) else (.sl Z.length 0 ks.length none,Z ++ [.cells 46 ((setOf ks).flatMap row) false])):=by
 have hk:keysOf Z [129] [] (.fn 129 [] [.ref j 0]) = some (ks.map row):=by
  unfold keysOf
  simp only [hj]
  exact congrArg some (Lb.DP ks)
 show pK 46 [129] [] kQ qN (.fn 129 [] [.ref j 0]) Z = _
 unfold pK
 rw [hk]
 cases hks:ks with
 | nil=>rfl
 | cons k r=>
  have ha:=Lb.wQ ks hs.2
  have hk2:=DF hn
  have hlen:=hs.1
  rw [hks] at ha hk2 hlen
  rw [map_cons] at ha hk2 ⊢
  rw [if_neg (by simp)]
  show (match allRows kQ (row k :: r.map row),Nat.ble (row k :: r.map row).length 1000000 with
   | true,true=>some (V.sl Z.length 0 (row k :: r.map row).length none,Z ++ [O.cells 46 (kH qN (row k :: r.map row)).flatten false])
   | _,_=>none) = _
  rw [ha,Nat.ble_eq_true_of_le (by simpa using hlen),hk2,Lb.CL]
  simp
theorem RX (hl:Lb.cU E) (h:bK E) {g:Bool} {es:List (V × V)}:aB E 88 [.imp g es] Z K = K (.fn 129 [] [.ref Z.length 0]) (Z ++ [.cells 82 [.imp g es] true]):=by
 refine aB.of ?_
 rw [dF hl.Xi hl.UK hl.X7 hl.Wl,aZ (by kernel_rfl)]
 simp only [aA,Tryz.f88,KP,↓reduceIte,reduceEqDiff,reduceLT,hl.vA]
theorem Uk (hl:Lb.cU E) (h:bK E) {g g':Bool} {ks:List aK} (hn:ks.Nodup) (hsm:FK ks):aB E 50 [.dU g [.imp g' (Lb.mC ks)]] Z fun r σ'=>Lb.Own Z σ' r (setOf ks):=by
 rw [dF hl.Xm hl.UN hl.X_ hl.Wo,aZ (by kernel_rfl)]
 have kk:=dN fun K=>RX (Z:=Z) (K:=K) hl h (g:=g') (es:=Lb.mC ks)
 simp only [aA,Tryz.f50,KP,Ax.loadAt,↓reduceIte,reduceLT,reduceCtorEq,hl.vA,hl.u_,hl.Jr,oA,kk]
 have hj:(Z ++ [O.cells 82 [.imp g' (Lb.mC ks)] true])[Z.length]? = some (.cells 82 [.imp g' (Lb.mC ks)] true):=aO
 have hsk:=Ig hn hsm hj
 unfold AV
 rw [nP hl.Xj,hsk]
 by_cases hks:ks = []
 ·rw [if_pos hks]
  simp only [cZ]
  simp only [KP,↓reduceIte,reduceLT]
  subst hks
  exact .inl ⟨rfl,rfl⟩
 ·rw [if_neg hks]
  simp only [cZ]
  simp only [KP,↓reduceIte,reduceLT]
  refine .inr ⟨_,?_,by rw [xA hn],?_⟩
  ·rw [length_append]; omega
  ·exact aO
theorem Ue (hl:Lb.cU E) (h:bK E) {g g':Bool} {ks:List aK} (x:aK):aB E 48 [.dU g [.imp g' (Lb.mC ks)],.agg [.bool x.1,.str x.2]] Z K = K (.bool (decide (x ∈ ks))) Z:=by
 refine aB.of ?_
 have hi:Ax.bE (.dU g [.imp g' (Lb.mC ks)]) = true:=rfl
 have e1:=dG (Z:=Z) (ty:=E.ty) hi (cE hi)
 have e2:aV Z E.ty true (.agg [.bool x.1,.str x.2]) = some (.agg [.bool x.1,.str x.2]):=rfl
 have d1:=hl.Y2
 simp only [aA,Tryz.f48,cutAt,Option.getD_some] at d1
 rw [aH hl.hs48 hl.sp48 hl.fn48 hl.md48 (args':=[.dU g [.imp g' (Lb.mC ks)],.agg [.bool x.1,.str x.2]]) (by simp only [aW,e1,e2]),aZ (by kernel_rfl)]
 have hk:=Lb.qP hl x.1 x.2
 have hf:=Lb.Cj hl x ks
 by_cases hx:x ∈ ks
 ·simp only [aA,Tryz.f48,KP,Ax.loadAt,↓reduceIte,reduceEqDiff,reduceLT,reduceAdd,reduceCtorEq,h.DB,h.eI,hl.vA,hl.u_,hl.Jr,oA,aT d1,bM,Ax.lookup,hk,Ax.entriesOf,hf,hx]
  exact rfl
 ·simp only [aA,Tryz.f48,KP,Ax.loadAt,↓reduceIte,reduceEqDiff,reduceLT,reduceAdd,reduceCtorEq,h.DB,h.eI,hl.vA,hl.u_,hl.Jr,oA,aT d1,bM,Ax.lookup,hk,Ax.entriesOf,hf,hx]
  exact rfl
end
end
section
section
variable {E:Env} {Z:Sg} {K:V -> Sg -> Prop}
def lY (rs:List aG):List aK:=setOf (rs.map fU ++ (rs.flatMap dQ).flatMap fun p=>[p.1,p.2])
def mF (rs:List aG) (x:aK):List aK:=setOf (((rs.flatMap dQ).filter fun p=>decide (p.1 = x)).map Prod.snd)
def Jo (rs:List aG) (x:aK):List aK:=setOf (((rs.flatMap dQ).filter fun p=>decide (p.2 = x)).map Prod.fst)
theorem zP {rs:List aG} {x w:aK}:w ∈ mF rs x ↔ (x,w) ∈ rs.flatMap dQ:=by
 unfold mF
 rw [gI,mem_map]
 constructor
 ·rintro ⟨⟨a,b⟩,h1,rfl⟩
  obtain ⟨h1,h2⟩:=mem_filter.1 h1
  rw [<- of_decide_eq_true h2]
  exact h1
 ·exact fun h1=>⟨(x,w),mem_filter.2 ⟨h1,decide_eq_true rfl⟩,rfl⟩
theorem Lr {rs:List aG} {x w:aK}:w ∈ Jo rs x ↔ (w,x) ∈ rs.flatMap dQ:=by
 unfold Jo
 rw [gI,mem_map]
 constructor
 ·rintro ⟨⟨a,b⟩,h1,rfl⟩
  obtain ⟨h1,h2⟩:=mem_filter.1 h1
  rw [<- of_decide_eq_true h2]
  exact h1
 ·exact fun h1=>⟨(w,x),mem_filter.2 ⟨h1,decide_eq_true rfl⟩,rfl⟩
theorem xX {rs:List aG} {x:aK}:x ∈ lY rs ↔ x ∈ rs.map fU \/ ∃ p ∈ rs.flatMap dQ,x = p.1 \/ x = p.2:=by
 unfold lY
 rw [gI,mem_append,mem_flatMap]
 refine or_congr Iff.rfl (exists_congr fun p=>and_congr Iff.rfl ?_)
 simp
theorem KH (rs:List aG):Up (lY rs):=lF _
theorem Ch (rs:List aG) (x:aK):Up (mF rs x):=lF _
theorem ME (rs:List aG) (x:aK):Up (Jo rs x):=lF _
structure Fits (rs:List aG):Prop where
 ok:mW rs
 small:∀ x ∈ rs,Small x
theorem AA {s:aX} (h:bH s = true):s.length <= 40:=by
 unfold bH at h
 simp only [Bool.and_eq_true,decide_eq_true_eq] at h
 exact h.1.2
theorem Iz {s:aX} (h:bH s = true):s ≠ []:=by
 rintro rfl
 revert h
 decide
theorem Fits.form {rs:List aG} (h:Fits rs):∀ r ∈ rs,jM r = true:=fun r hr=>by
 have h0:=h.ok.1
 unfold gF at h0
 cases hf:rs.find? (fun r=>decide (bA r ≠ 0)) with
 | some q=>
  rw [hf] at h0
  have:=find?_some hf
  exact absurd h0 (of_decide_eq_true this)
 | none=>
  have:=find?_eq_none.1 hf r hr
  have h1:bA r = 0:=by
   refine Classical.byContradiction fun hne=>this (decide_eq_true hne)
  unfold bA at h1
  by_cases hq:jM r = false
  ·rw [if_pos hq] at h1; cases h1
  ·simpa using hq
theorem Fits.names {rs:List aG} (h:Fits rs):∀ r ∈ rs,bH r.name = true /\ (∀ f ∈ r.ins,bH f = true) /\ ∀ f ∈ r.outs,bH f = true:=fun r hr=>by
 have:=h.form r hr
 rw [Ej] at this
 simp only [Bool.and_eq_true,List.all_eq_true] at this
 exact ⟨this.1.1.1.1.1,this.1.1.1.2,this.1.1.2⟩
theorem Fits.pair {rs:List aG} (h:Fits rs) {p:aK × aK} (hp:p ∈ rs.flatMap dQ):bH p.1.2 = true /\ bH p.2.2 = true:=by
 obtain ⟨r,hr,hp⟩:=mem_flatMap.1 hp
 obtain ⟨h1,h2,h3⟩:=h.names r hr
 unfold dQ at hp
 rcases mem_append.1 hp with hp | hp
 ·obtain ⟨f,hf,rfl⟩:=mem_map.1 hp
  exact ⟨h1,h2 f hf⟩
 ·obtain ⟨f,hf,rfl⟩:=mem_map.1 hp
  exact ⟨h3 f hf,h1⟩
theorem Fits.lab {rs:List aG} (h:Fits rs) {x:aK} (hx:x ∈ lY rs):bH x.2 = true:=by
 rcases xX.1 hx with hx | ⟨p,hp,rfl | rfl⟩
 ·obtain ⟨r,hr,rfl⟩:=mem_map.1 hx
  exact (h.names r hr).1
 ·exact (h.pair hp).1
 ·exact (h.pair hp).2
theorem Fits.len {rs:List aG} (h:Fits rs):rs.length <= 40:=(yB h.ok.1).len
theorem Fits.V2 {rs:List aG} (h:Fits rs):(rs.flatMap dQ).length <= 640:=by
 have:=oU rs h.small
 have:=h.len
 omega
section
variable {rs:List aG} {es0 es1:List (V × V)} {get:aX -> Option V} {A:List aK} {L3 L4:List dD}
theorem PJ.all (hi:PJ E rs es0 es1 get A L3 L4):setOf A = lY rs:=Gf fun x=>by
 rw [hi.li.all,mem_append,mem_flatMap]
 refine or_congr Iff.rfl (exists_congr fun p=>and_congr Iff.rfl ?_)
 simp
theorem Ou {L:List dD} {e:dD} {x:aK} (he:bN L x = some e):qO L x = e.ks:=by unfold qO; rw [he]
theorem QD {L:List dD} {x:aK} (he:bN L x = none):qO L x = []:=by unfold qO; rw [he]
theorem PJ.need (hi:PJ E rs es0 es1 get A L3 L4) (x:aK):setOf (qO L3 x) = mF rs x:=rD (lF _) (Ch rs x) fun w=>by rw [gI,hi.li.need,zP]
theorem PJ.user (hi:PJ E rs es0 es1 get A L3 L4) (x:aK):setOf (qO L4 x) = Jo rs x:=rD (lF _) (ME rs x) fun w=>by rw [gI,hi.li.user,Lr]
theorem PJ.S7 (hi:PJ E rs es0 es1 get A L3 L4) (hf:Fits rs) {e:dD} {x:aK} (he:bN L3 x = some e):FK e.ks:=by
 refine ⟨?_,fun k hk=>?_⟩
 ·have h1:=hi.li.On e (iE he).1
  have h2:=hf.V2
  omega
 ·rw [<- Ou he,hi.li.need] at hk
  have h2:k.2.length <= 40:=AA (hf.pair hk).2
  omega
end
theorem Cl (hl:Lb.cU E) (x:aK):∀ L:List dD,iQ (eO E 46) (oO x) (L.map CU) = some ((L.find? fun e=>decide (x = e.key)).map fun e=>vU e.ks)
 | []=>rfl
 | e :: L=>by
  show (match eO E 46 (.agg [.bool x.1,.str x.2]) (.agg [.bool e.key.1,.str e.key.2]) with
   | some true=>some (some (vU e.ks))
   | some false=>iQ (eO E 46) (oO x) (L.map CU)
   | none=>none) = _
  rw [Lb.qT hl,find?_cons]
  by_cases h:x = e.key
  ·rw [decide_eq_true (show ((x.1,x.2):aK) = (e.key.1,e.key.2) from h)]; rfl
  ·rw [decide_eq_false (show ¬ ((x.1,x.2):aK) = (e.key.1,e.key.2) from h)]
   exact Cl hl x L
theorem Lw (h':uX E) (hl:Lb.cU E) {Z:Sg} {g:Bool} {L:List dD} (x:aK):lookup E Z 105 (.imp g (L.map CU)) (.agg [.bool x.1,.str x.2]) false = some (match bN L x with | some e=>vU e.ks | none=>.fW):=by
 have hk:=Lb.qP hl x.1 x.2
 unfold Ax.lookup
 simp only [h'.qB,hl.tA,hk,entriesOf,Bool.not_true,Bool.false_eq_true,if_false]
 have:=Cl hl x L
 unfold oO at this
 rw [this]
 unfold bN
 cases L.find? fun e=>decide (x = e.key) <;> rfl
theorem b_of (h:bK E) (h':uX E) (hl:Lb.cU E) (q:PK E) {ks:List aK} (hn:ks.Nodup) (hs:FK ks):aB E 76 [vU ks] Z fun v σ'=>σ' = Z /\ Jj v (setOf ks):=by
 have hi:Ax.bE (vU ks) = true:=rfl
 have e1:=dG (Z:=Z) (ty:=E.ty) hi (cE hi)
 rw [aH q.Xk q.UL q.X8 q.Wm (args':=[vU ks]) (by simp only [aW,e1]),aZ (by kernel_rfl)]
 simp only [aA,Tryz.f76,KP,↓reduceIte,reduceLT,reduceCtorEq,hl.tA,hl.u_,hl.AY,oA,vU]
 refine aI (Uk hl h hn hs) ?_
 intro r σ' ho
 obtain ⟨v',hv,hlv⟩:=vE hl ho
 simp only [KP,↓reduceIte,reduceLT,hv]
 exact hlv
theorem Ze (h:bK E) (h':uX E) (hl:Lb.cU E) (q:PK E):aB E 76 [.fW] Z fun v σ'=>σ' = Z /\ Jj v []:=by
 have e1:aV Z E.ty true .fW = some .fW:=rfl
 rw [aH q.Xk q.UL q.X8 q.Wm (args':=[.fW]) (by simp only [aW,e1]),aZ (by kernel_rfl)]
 simp only [aA,Tryz.f76,KP,↓reduceIte,reduceLT,reduceCtorEq,hl.tA,oA]
 exact .inl ⟨rfl,rfl⟩
theorem Hz (h:bK E) (h':uX E) (hl:Lb.cU E) (q:PK E) {g:V} {rs:List aG} (hg:PM E rs g) (hf:Fits rs) (x:aK):aB E 23 [g,.agg [.bool x.1,.str x.2]] Z fun v σ'=>σ' = Z /\ Jj v (mF rs x):=by
 obtain ⟨es0,es1,get,A,L3,L4,rfl,hi⟩:=hg
 have him:Ax.bE (gV es0 es1 A L3 L4) = true:=rfl
 have e1:=dG (Z:=Z) (ty:=E.ty) him (cE him)
 have e2:aV Z E.ty true (.agg [.bool x.1,.str x.2]) = some (.agg [.bool x.1,.str x.2]):=rfl
 have d3:=q.Y8
 simp only [aA,Tryz.f23,cutAt,Option.getD_some] at d3
 rw [aH q.hs23 q.M7 q.fn23 q.md23 (args':=[gV es0 es1 A L3 L4,.agg [.bool x.1,.str x.2]]) (by simp only [aW,e1,e2]),aZ (by kernel_rfl)]
 have en:oA E 41 true (.dU false [.imp false es0,.imp false es1,vU A,.imp false (L3.map CU),.imp false (L4.map CU)]) .fW = some false:=by unfold oA; rw [h'.UH]
 have lk:=fun Z g=>Lw (Z:=Z) (g:=g) (L:=L3) h' hl x
 rw [<- hi.need]
 cases hk:bN L3 x with
 | none=>
  rw [hk] at lk
  rw [QD hk]
  simp only [aA,Tryz.f23,KP,Ax.loadAt,↓reduceIte,reduceEqDiff,reduceLT,reduceAdd,reduceCtorEq,h.eI,h'.sO,h'.qB,gV,en,lk,aT d3,bM]
  refine aI (Ze h h' hl q) ?_
  rintro r σ' ⟨rfl,hr⟩
  rcases hr with ⟨rfl,-⟩ | ⟨full,rfl⟩
  ·simp only [KP,↓reduceIte,reduceLT]
   exact .inl ⟨rfl,rfl⟩
  ·simp only [KP,↓reduceIte,reduceLT]
   exact .inr ⟨full,rfl⟩
 | some e=>
  rw [hk] at lk
  rw [Ou hk]
  simp only [aA,Tryz.f23,KP,Ax.loadAt,↓reduceIte,reduceEqDiff,reduceLT,reduceAdd,reduceCtorEq,h.eI,h'.sO,h'.qB,gV,en,lk,aT d3,bM]
  refine aI (b_of h h' hl q (hi.k3 e (iE hk).1) (hi.S7 hf hk)) ?_
  rintro r σ' ⟨rfl,hr⟩
  rcases hr with ⟨rfl,h0⟩ | ⟨full,rfl⟩
  ·simp only [KP,↓reduceIte,reduceLT]
   exact .inl ⟨rfl,h0⟩
  ·simp only [KP,↓reduceIte,reduceLT]
   exact .inr ⟨full,rfl⟩
end
end
section
section
variable {E:Env} {Z:Sg} {K:V -> Sg -> Prop}
def rQ (rs:List aG) (f:aX):Option aG:=rs.find? fun r=>decide (f ∈ r.outs)
def kindOf (rs:List aG) (x:aK):Int:=if x ∈ lY rs then (if x.1 = true then 1 else if (rQ rs x.2).isSome = true then 2 else 3) else 0
theorem lP {rs:List aG} {f:aX} {r:aG} (h:rQ rs f = some r):r ∈ rs /\ f ∈ r.outs:=⟨List.mem_of_find?_eq_some h,by have:=find?_some h; exact of_decide_eq_true this⟩
theorem Fc {rs:List aG} {f:aX} (h:rQ rs f = none):∀ r ∈ rs,f ∉ r.outs:=fun r hr hf=>by
 have:=find?_eq_none.1 h r hr
 exact this (decide_eq_true hf)
theorem PJ.get {rs:List aG} {es0 es1:List (V × V)} {get:aX -> Option V} {A:List aK} {L3 L4:List dD} (hi:PJ E rs es0 es1 get A L3 L4) (hf:Fits rs) (f:aX):get f = (rQ rs f).map fun r=>V.str r.name:=by
 rcases hi.Ob f with ⟨h1,h2⟩ | ⟨n,⟨r,hr,hfr,rfl⟩,h2⟩
 ·rw [h1]
  cases hm:rQ rs f with
  | none=>rfl
  | some r=>exact absurd ⟨r,(lP hm).1,(lP hm).2,rfl⟩ (h2 r.name)
 ·rw [h2]
  cases hm:rQ rs f with
  | none=>exact absurd hfr (Fc hm r hr)
  | some r'=>
   have:=(yB hf.ok.1).short.jJ f r.name r'.name ⟨r,hr,hfr,rfl⟩ ⟨r',(lP hm).1,(lP hm).2,rfl⟩
   rw [this]; rfl
theorem Og (h:bK E) {Z:Sg} {x:V} {es:List (V × V)} {get:aX -> Option V} (hx:entriesOf Z x = some es) (hs:SM E es get) (k:aX):lookup E Z 104 x (.str k) false = some (match get k with | some v=>v | none=>.str []):=by
 have hk:dS E 9 (.str k) = true:=by unfold dS; rw [h.c_]
 unfold Ax.lookup
 simp only [h.Am,h.c_,hk,hx,hs.2 k,Bool.not_true,Bool.false_eq_true,if_false]
 cases get k <;> rfl
theorem RP (h:bK E) (h':uX E) (hl:Lb.cU E) (q:PK E) {g:V} {rs:List aG} (hg:PM E rs g) (hf:Fits rs) (x:aK):aB E 26 [g,.agg [.bool x.1,.str x.2]] Z K = K (.int .i64 (kindOf rs x)) Z:=by
 refine aB.of ?_
 obtain ⟨es0,es1,get,A,L3,L4,rfl,hi⟩:=hg
 have him:Ax.bE (gV es0 es1 A L3 L4) = true:=rfl
 have e1:=dG (Z:=Z) (ty:=E.ty) him (cE him)
 have e2:aV Z E.ty true (.agg [.bool x.1,.str x.2]) = some (.agg [.bool x.1,.str x.2]):=rfl
 have d1:=q.Y4
 simp only [aA,Tryz.f26,cutAt,Option.getD_some] at d1
 have d5:=q.Y3
 simp only [aA,Tryz.f26,cutAt,Option.getD_some] at d5
 rw [aH q.hs26 q.M4 q.fn26 q.md26 (args':=[gV es0 es1 A L3 L4,.agg [.bool x.1,.str x.2]]) (by simp only [aW,e1,e2]),aZ (by kernel_rfl)]
 have en:oA E 41 true (.dU false [.imp false es0,.imp false es1,.dU false [.imp false (Lb.mC A)],.imp false (L3.map CU),.imp false (L4.map CU)]) .fW = some false:=by unfold oA; rw [h'.UH]
 have kh:=fun (Y:Sg)=>dN fun K=>Ue (Z:=Y) (K:=K) hl h (g:=false) (g':=false) (ks:=A) x
 have hA:decide (x ∈ A) = decide (x ∈ lY rs):=by rw [<- hi.all]; simp only [gI]
 rw [hA] at kh
 have lk:=fun Z=>Og (Z:=Z) (x:=.imp false es1) h rfl hi.sm x.2
 rw [hi.get hf] at lk
 have s0:∀ a b:aX,sP .neq a b = some (.bool (!Ax.seq a b)):=fun a b=>rfl
 unfold kindOf
 by_cases hx:x ∈ lY rs
 ·rw [decide_eq_true hx] at kh
  rw [if_pos hx]
  cases hb:x.1 with
  | true=>
   rw [hb] at kh
   simp only [aA,Tryz.f26,KP,Ax.loadAt,↓reduceIte,reduceEqDiff,reduceLT,reduceAdd,reduceCtorEq,h.DB,h.eI,hl.tA,hl.u_,hl.AY,h'.sO,gV,vU,en,kh,aT d1,bM]
   exact rfl
  | false=>
   rw [hb] at kh
   cases hm:rQ rs x.2 with
   | none=>
    rw [hm] at lk
    have z:Ax.seq ([]:aX) [] = true:=rfl
    simp only [aA,Tryz.f26,KP,Ax.loadAt,↓reduceIte,reduceEqDiff,reduceLT,reduceAdd,reduceCtorEq,h.DB,h.c_,h.eI,h.Am,kV,hl.tA,hl.u_,hl.AY,h'.sO,gV,vU,en,kh,lk,s0,z,aT d1,aT d5,bM]
    exact rfl
   | some r=>
    rw [hm] at lk
    have z:Ax.seq r.name [] = false:=f_ (Iz (hf.names r (lP hm).1).1)
    simp only [aA,Tryz.f26,KP,Ax.loadAt,↓reduceIte,reduceEqDiff,reduceLT,reduceAdd,reduceCtorEq,h.DB,h.c_,h.eI,h.Am,kV,hl.tA,hl.u_,hl.AY,h'.sO,gV,vU,en,kh,lk,s0,z,aT d1,aT d5,bM]
    exact rfl
 ·rw [decide_eq_false hx] at kh
  rw [if_neg hx]
  simp only [aA,Tryz.f26,KP,Ax.loadAt,↓reduceIte,reduceEqDiff,reduceLT,reduceAdd,reduceCtorEq,h.eI,hl.tA,hl.u_,hl.AY,h'.sO,gV,vU,en,kh,aT d1,bM]
  exact rfl
theorem R9.ru {v:V} {x:aG} (h:R9 v x):HK v x:=by
 obtain ⟨a,b,c,d,rfl,h1,h2,h3,h4⟩:=h
 exact ⟨a,b,c,d,rfl,h1.is,h2.is,h3.is,rT h4.is rG⟩
end
end
section
section
variable {E:Env} {Z:Sg} {K:V -> Sg -> Prop}
def jK:Lay aK:=⟨fun r x=>r = row x,2,fun _ _ h=>by rw [h]; rfl,fun _ _ h c hc=>by
 rw [h] at hc
 unfold row at hc
 simp only [mem_cons,List.not_mem_nil,or_false] at hc
 rcases hc with rfl | rfl <;> rfl⟩
theorem C_:∀ l:List aK,eS jK.P (l.map row) l
 | []=>.nil
 | x :: l=>.cons rfl (C_ l)
theorem Jj.Xh {v:V} {l:List aK} (h:Jj v l):kE jK v l:=h.imp id fun ⟨f,e⟩=>⟨_,f,e,C_ l⟩
theorem LV.is {v:V} {l:List aK} (h:Lb.LV v l):IS jK v l:=h.imp id fun ⟨g,f,e⟩=>⟨g,_,f,e,C_ l⟩
theorem xF:∀ {rs:List (List V)} {l:List aK},eS jK.P rs l -> rs = l.map row
 | _,_,.nil=>rfl
 | _,_,.cons h t=>by rw [map_cons,<- xF t,show _ = _ from h]
theorem IS.lv {v:V} {l:List aK} (h:IS jK v l):Lb.LV v l:=h.imp id fun ⟨g,rs,f,e,a⟩=>⟨g,f,by rw [e,xF a]⟩
theorem x_ (h:bK E) {v:V} {l} (ia:IS jK v l) (Z:Sg):lenOf E Z 40 v = some l.length:=pW h.mK rfl (ia.ls Z 46)
theorem FD (h:bK E) {v:V} {l} (ia:IS jK v l) {i:Nat} {x} (hx:l[i]? = some x):∃ g,indexAddr E 40 v (.int .i64 (i:Int)) = some (.dU g [.bool x.1,.str x.2]):=by
 obtain ⟨g,r,h1,h2⟩:=IS.at h.mK rfl h.eI rfl ia hx
 exact ⟨g,by rw [h1,show r = row x from h2]; rfl⟩
theorem BU (h:bK E) {v:V} {l} (ha:LS jK 46 Z v l):∃ v',aV Z E.ty true v = some v' /\ IS jK v' l:=Bl h.eI rfl ha
theorem yI (hl:Lb.cU E) {b:Bool} (x y:aK):oA E 46 b (.agg [.bool x.1,.str x.2]) (.agg [.bool y.1,.str y.2]) = some (decide (x = y)):=by
 unfold oA
 rw [hl.eI]
 simp only [hl.Rt,Ax.eqs,xE,Bool.and_true,Option.some.injEq]
 rw [Bool.eq_iff_iff]
 simp only [Bool.and_eq_true,beq_iff_eq,decide_eq_true_eq]
 exact ⟨fun ⟨h1,h2⟩=>Prod.ext h1 h2,fun h=>by rw [h]; exact ⟨rfl,rfl⟩⟩
end
end
section
section
variable {E:Env} {Z:Sg} {K:V -> Sg -> Prop}
theorem R9.snap {Y:Sg} {v:V} {x:aG} (hv:R9 v x):aV Y E.ty false v = some v:=by
 obtain ⟨a,b,c,d,rfl,h1,h2,h3,h4⟩:=hv
 have q:∀ c:V,Ax.bE c = true -> cF false c = true -> aV.one Y E.ty false c = some c:=fun c h1 h2=>by
  unfold aV.one
  rw [show dY = 11 + 1 from rfl,jR h1]
  simp only [h2,if_true]
 show (match aW (aV.one Y E.ty false) [.str x.name,a,b,c,d] with
  | some l=>some (V.agg l)
  | none=>none) = _
 simp only [aW,q (.str x.name) rfl rfl,q a h1.is.bE h1.tag,q b h2.is.bE h2.tag,q c h3.is.bE h3.tag,q d h4.is.bE h4.tag]
theorem Ls {rs:List aG} {p:aK × aK}:p ∈ rs.flatMap dQ ↔ ∃ r ∈ rs,(∃ f ∈ r.ins,p = (((true,r.name):aK),((false,f):aK))) \/ ∃ f ∈ r.outs,p = (((false,f):aK),((true,r.name):aK)):=by
 rw [mem_flatMap]
 refine exists_congr fun r=>and_congr Iff.rfl ?_
 unfold dQ
 rw [mem_append,mem_map,mem_map]
 exact or_congr (exists_congr fun f=>and_congr Iff.rfl eq_comm) (exists_congr fun f=>and_congr Iff.rfl eq_comm)
theorem JY {rs:List aG} {a b:aK} (hp:(a,b) ∈ rs.flatMap dQ):a ∈ lY rs /\ b ∈ lY rs:=⟨xX.2 (.inr ⟨_,hp,.inl rfl⟩),xX.2 (.inr ⟨_,hp,.inr rfl⟩)⟩
end
end
structure GbL (E:Env):Prop where
 hs9:E.hspec 9 = none
 sp9:E.spec 9 = none
 fn9:E.fn 9 = some (aA Tryz.f9)
 md9:E.mode 9 = .eV
 d9_13:aP E (cutAt [1,1,1,1,1,1,0,1,2,2,1,1,0,2,1,0,1,2,2,1,1,0,2,1,0] (aA Tryz.f9).code) = true
 d9_19:aP E (cutAt [1,1,1,1,1,1,0,1,2,2,1,1,0,2,1,1,0,1,2,2,1,1,0,2,1,0] (aA Tryz.f9).code) = true
 d9_30:aP E (cutAt [1,1,1,1,1,1,0,1,2,2,1,1,0,2,1,1,1,1,1,2,1,1,1,0,1,0] (aA Tryz.f9).code) = true
 Uu:∀ {Z:Sg} {K:V -> Sg -> Prop},aB E 11 [] Z K = K (.bool true) Z
section
section
variable {E:Env} {Z:Sg} {K:V -> Sg -> Prop}
theorem pB {rs:List aG} (hf:Fits rs):(lY rs).length <= 2000:=by
 have h1:=hf.V2
 have h2:=hf.len
 refine Nat.le_trans (fR (b:=rs.map fU ++ (rs.flatMap dQ).flatMap fun p=>[p.1,p.2]) (KH rs).nodup fun x hx=>gI.1 hx) ?_
 have h3:∀ P:List (aK × aK),(P.flatMap fun p=>[p.1,p.2]).length = 2 * P.length:=fun P=>by
  induction P with
  | nil=>rfl
  | cons p P ih=>rw [flatMap_cons,length_append,ih]; simp only [length_cons,length_nil]; omega
 rw [length_append,length_map,h3]
 omega
end
end
end Go.Proofs.YtlbbdpkjeeiahaaGreatDoor
end
