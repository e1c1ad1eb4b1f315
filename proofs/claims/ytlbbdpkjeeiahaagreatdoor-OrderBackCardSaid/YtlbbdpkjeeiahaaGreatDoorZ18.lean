/- Part 18 of the proof. -/
import Derived.Test.YtlbbdpkjeeiahaaGreatDoorZ17
import Derived.Test.YtlbbdpkjeeiahaaGreatDoorZ16
import Derived.Test.YtlbbdpkjeeiahaaGreatDoorZ15
set_option maxHeartbeats 8000000
set_option linter.unusedVariables false
set_option maxRecDepth 10000
open Nat (reduceLT reduceEqDiff reduceLeDiff reduceAdd reduceMul)
open List (getElem?_set_ne getElem?_set_self length_nil length_append length_cons nodup_cons mem_cons length_map mem_map length_take flatten_cons mem_cons_self getElem?_append_right mem_cons_of_mem take_of_length_le mem_of_getElem? drop_zero take_add_one nodup_nil map_map map_cons find?_cons find?_eq_none mem_append nodup_append mem_singleton map_append find?_some flatMap_cons map_nil append_nil append_assoc mem_flatMap mem_filter)
open Int (reduceNeg)
section
namespace Go.Proofs.YtlbbdpkjeeiahaaGreatDoor
open Go Go.Ax Go.AxS
section
section
variable {E:Env} {Z:Sg} {K:V -> Sg -> Prop}
theorem H8 {Y:Sg} {w:V} {l:List aU} {k:Nat} {es:List (V × V)} (hb:Y[k]? = some (.map es)) (ow:bF aK 9 Y w l):aQ w ≠ some k:=by
 rcases ow with ⟨rfl,-⟩ | ⟨b,rs,ex,rfl,hc,-⟩
 ·intro e; cases e
 ·intro e
  cases e
  rw [hb] at hc
  cases hc
structure uJ (rs:List aG) (o:List aU):Prop where
 len:o.length = rs.length
 nodup:o.Nodup
 mem:∀ x ∈ o,x ∈ rs.map aG.name
 behind:∀ (i k:Nat) (p q:aG),rs[i]? = some p -> rs[k]? = some q -> iM rs false i k = true -> ∀ (j:Nat),o[j]? = some p.name -> q.name ∈ o.take j
structure yD (E:Env) (Y:Sg) (es:List (V × V)) (p:aU -> Bool):Prop where
 b0:Y[0]? = some (.cells 96 [.imp false es] true)
 b2:Y[2]? = some (.cells 98 [.mp 1] true)
 b1:∃ e1,Y[1]? = some (.map e1) /\ SB E e1 p
theorem yD.app {Y:Sg} {es:List (V × V)} {p:aU -> Bool} (h:yD E Y es p) (y:O):yD E (Y ++ [y]) es p:=by
 obtain ⟨e1,h1,h2⟩:=h.b1
 exact ⟨aM h.b0,aM h.b2,e1,aM h1,h2⟩
theorem yD.sp {Y τ':Sg} {es:List (V × V)} {p:aU -> Bool} {w:V} {l:List aU} (h:yD E Y es p) (ow:bF aK 9 Y w l) (sp:Sp Y τ' w):yD E τ' es p:=by
 obtain ⟨e1,h1,h2⟩:=h.b1
 exact ⟨sp _ _ h.b0 (jY h.b0 (by decide) ow),sp _ _ h.b2 (jY h.b2 (by decide) ow),e1,sp _ _ h1 (H8 h1 ow),h2⟩
theorem yD.put {Y:Sg} {es e1:List (V × V)} {p q:aU -> Bool} (h:yD E Y es p) (hs:SB E e1 q):yD E (Y.set 1 (.map e1)) es q:=by
 obtain ⟨e0,h1,-⟩:=h.b1
 exact ⟨by rw [getElem?_set_ne (by decide)]; exact h.b0,by rw [getElem?_set_ne (by decide)]; exact h.b2,e1,by rw [getElem?_set_self (List.getElem?_eq_some_iff.1 h1).1],hs⟩
end
end
section
structure sD (E:Env):Prop where
 nW:E.ty 105 = some { kd:=.map 46 77,size:=1,bytes:=8,zero:=.bU }
 pB:E.ty 107 = some { kd:=.i_ [(0,103),(1,104),(2,77),(3,105),(4,105)],size:=5,bytes:=40,zero:=.agg [.bU,.bU,.fP,.bU,.bU] }
 RU:E.ty 41 = some { kd:=.ptr 107,size:=1,bytes:=8,zero:=.fP }
 Mf:E.ty 103 = some { kd:=.map 9 37,size:=1,bytes:=8,zero:=.bU }
 wI:E.ty 144 = some { kd:=.i_ [(0,105),(1,46),(3,46)],size:=5,bytes:=56,zero:=.agg [.bU,.bool false,.str [],.bool false,.str []] }
 I3:E.ty 145 = some { kd:=.sl 144,size:=1,bytes:=24,zero:=.aD }
 hs70:E.hspec 70 = none
 sp70:E.spec 70 = none
 fn70:E.fn 70 = some (aA Tryz.f70)
 md70:E.mode 70 = .eU
 Xf:E.hspec 113 = none
 UK:E.spec 113 = none
 X0:E.fn 113 = some (aA Tryz.f113)
 Wg:E.mode 113 = .shared
 hs19:E.hspec 19 = none
 MF:E.spec 19 = none
 fn19:E.fn 19 = some (aA Tryz.f19)
 md19:E.mode 19 = .eU
 hs73:E.hspec 73 = none
 sp73:E.spec 73 = none
 fn73:E.fn 73 = some (aA Tryz.f73)
 md73:E.mode 73 = .shared
 hs72:E.hspec 72 = none
 sp72:E.spec 72 = none
 fn72:E.fn 72 = some (aA Tryz.f72)
 md72:E.mode 72 = .eU
 hs74:E.hspec 74 = none
 sp74:E.spec 74 = none
 fn74:E.fn 74 = some (aA Tryz.f74)
 md74:E.mode 74 = .eU
 hs37:E.hspec 37 = none
 sp37:E.spec 37 = none
 fn37:E.fn 37 = some (aA Tryz.f37)
 md37:E.mode 37 = .eU
 hs63:E.hspec 63 = none
 sp63:E.spec 63 = none
 fn63:E.fn 63 = some (aA Tryz.f63)
 md63:E.mode 63 = .eU
 T3:gJ E (opsOf (cutAt [1,0] (aA Tryz.f70).code)) = .no
 Vw:cM E .no (opsOf (cutAt [1,0] (aA Tryz.f70).code)) = some [⟨2,4,true,false⟩,  ⟨2,7,true,false⟩,  ⟨2,10,true,false⟩,  ⟨5,7,true,false⟩,  ⟨5,10,true,false⟩,  ⟨8,10,true,false⟩]
 T2:gJ E (opsOf (cutAt [1,1,0,1,2,2,1,1,0,2,1] (aA Tryz.f70).code)) = .no
 Vv:cM E .no (opsOf (cutAt [1,1,0,1,2,2,1,1,0,2,1] (aA Tryz.f70).code)) = some [⟨1,12,false,true⟩,  ⟨1,19,false,true⟩,  ⟨4,12,false,true⟩,  ⟨4,19,false,true⟩,  ⟨4,22,false,true⟩,  ⟨12,14,true,false⟩,  ⟨12,18,true,false⟩]
 Yv:aO E (cutAt [1,1,1,0,1,2,2,1,1,0,2,1,0] (aA Tryz.f19).code) = true
 T6:gJ E (opsOf (cutAt [1,1,1,0,1,2,2,1,1,0,2,1,1,0] (aA Tryz.f19).code)) = .no
 Vz:cM E .no (opsOf (cutAt [1,1,1,0,1,2,2,1,1,0,2,1,1,0] (aA Tryz.f19).code)) = some [⟨3,7,false,true⟩]
 Tm:aO E (cutAt [1,1,1,0,1,2,2,1,1,0,2,1,1,1,1,1,2,2,1,1,0,2,1,0] (aA Tryz.f19).code) = true
 Tl:aO E (cutAt [1,1,1,0,1,2,2,1,1,0,2,1,1,1,1,1,2,2,1,1,0,2,1,1] (aA Tryz.f19).code) = true
 T1:gJ E (opsOf (cutAt [1,0] (aA Tryz.f73).code)) = .no
 Vu:cM E .no (opsOf (cutAt [1,0] (aA Tryz.f73).code)) = some [⟨3,6,false,true⟩]
 Yl:aO E (cutAt [1,1,0] (aA Tryz.f73).code) = true
 T0:gJ E (opsOf (cutAt [1,1,1,2,2,1,1,0,2,1,0,1,0] (aA Tryz.f73).code)) = .no
 Vt:cM E .no (opsOf (cutAt [1,1,1,2,2,1,1,0,2,1,0,1,0] (aA Tryz.f73).code)) = some [⟨1,4,false,true⟩,  ⟨3,4,false,true⟩]
 TZ:gJ E (opsOf (cutAt [1,1,1,2,2,1,1,0,2,1,1] (aA Tryz.f73).code)) = .no
 Vs:cM E .no (opsOf (cutAt [1,1,1,2,2,1,1,0,2,1,1] (aA Tryz.f73).code)) = some [⟨1,7,false,true⟩,  ⟨3,7,false,true⟩,  ⟨4,7,false,true⟩]
 z63_17:gJ E (opsOf (cutAt [1,1,1,1,0,1,2,2,1,1,0,2,1,1,1,1] (aA Tryz.f63).code)) = .no
 p63_17:cM E .no (opsOf (cutAt [1,1,1,1,0,1,2,2,1,1,0,2,1,1,1,1] (aA Tryz.f63).code)) = some [⟨2,4,false,true⟩]
section
variable {E:Env} {Z:Sg} {K:V -> Sg -> Prop}
theorem aB.up {f:Nat} {args:List V} {K:V -> Sg -> Prop} (h:aB E f args Z K):∃ n v σ',K v σ' /\ ∀ m,n <= m -> fR E (ev E m) f args Z = some (v,σ'):=by
 obtain ⟨n,v,σ',hc,hk⟩:=h
 exact ⟨n,v,σ',hk,fun m hm=>rX (lN E hm) hc⟩
theorem Ln (h:bM E):nC E 35 true .aD .aD = some true:=by unfold nC; rw [h.fF]
theorem Lm (h:bM E) {g:Bool} {rs:List (List V)} {f:Bool}:nC E 35 true (.bR g rs f) .aD = some false:=by unfold nC; rw [h.fF]
theorem LQ (h:bM E) (h':sD E) {a:V} {l:List AxS.Step} (ia:IS eW a l) (hl:l.length <= 1000):aB E 113 [a] Z fun v σ'=>bF eW 75 σ' v l /\ Kp Z σ' /\ ∀ b,aQ v = some b -> Z.length <= b:=by
 rw [c_ h'.Xf h'.UK h'.X0 h'.Wg,aZ (by kernel_rfl)]
 rcases ia with ⟨rfl,rfl⟩ | ⟨g,rs,full,rfl,ha⟩
 ·simp only [aA,Tryz.f113,KP,↓reduceIte,reduceLT,reduceCtorEq,Ln h]
  exact ⟨.inl ⟨rfl,rfl⟩,fun _ _ h=>h,fun b hb=>by cases hb⟩
 ·obtain ⟨rs',e,ha'⟩:=qN (L:=eW) (x:=.bR g rs full) (l:=l) (.inr ⟨g,rs,full,rfl,ha⟩) (Z ++ [O.cells 75 [] true])
  obtain ⟨w',τ',h1,h2,h3,h4,h5⟩:=jQ (ats:=#[35,35]) (Z:=Z ++ [O.cells 75 [] true]) (w:=.sl Z.length 0 0 none) (l:=[]) (L:=eW) h.fF rfl h.cQ rfl (by decide) (Ag h) rfl (.inr ⟨Z.length,[],true,rfl,aP,.nil⟩) e ha' (eT (b:=1000) (by decide) (by simp only [length_nil]; omega))
  rw [List.nil_append] at h2
  simp only [aA,Tryz.f113,KP,↓reduceIte,reduceEqDiff,reduceLT,reduceLeDiff,reduceCtorEq,h.fF,h.cQ,Lm h,h1,Ax.fill,gU,Nat.zero_mul]
  refine ⟨h2,fun c o hc=>h3 _ _ (aM hc) fun e=>?_,fun b hb=>?_⟩
  ·cases e
   exact absurd (List.getElem?_eq_some_iff.1 hc).1 (Nat.lt_irrefl _)
  ·rcases h5 b hb with g | g
   ·cases g; exact Nat.le_refl _
   ·simp only [length_append,length_cons,length_nil] at g; omega
end
end
section
structure OrL (E:Env):Prop where
 Qo:E.hspec 3 = none
 Mw:E.spec 3 = none
 fn3:E.fn 3 = some (aA Tryz.f3)
 md3:E.mode 3 = .eU
 TV:∀ {Z:Sg} {K:V -> Sg -> Prop},aB E 11 [] Z K = K (.bool true) Z
section
variable {E:Env} {Z:Sg} {K:V -> Sg -> Prop}
theorem Ap {α:Type} {p:α -> Bool}:∀ {l:List α} {k:Nat},bE p l = some k -> ∀ (j:Nat) (y:α),j < k -> l[j]? = some y -> p y = false
 | [],_,h,_,_,_,_=>by cases h
 | x :: l,k,h,j,y,hj,hy=>by
  rw [bE] at h
  by_cases hx:p x = true
  ·rw [if_pos hx] at h; cases h; omega
  ·rw [if_neg hx] at h
   cases hf:bE p l with
   | none=>rw [hf] at h; cases h
   | some m=>
    rw [hf] at h
    cases h
    cases j with
    | zero=>cases hy; simpa using hx
    | succ j=>exact Ap hf j y (Nat.lt_of_succ_lt_succ hj) hy
theorem uJ.all {rs:List aG} {o:List aU} (h:uJ rs o) (hn:(rs.map aG.name).Nodup):∀ x ∈ rs.map aG.name,x ∈ o:=fun x hx=>by
 refine Classical.byContradiction fun hxo=>?_
 have:=uB (a:=x :: o) (b:=rs.map aG.name) (nodup_cons.2 ⟨hxo,h.nodup⟩) fun y hy=>by
  rcases mem_cons.1 hy with rfl | hy
  ·exact hx
  ·exact h.mem y hy
 rw [length_cons,length_map,h.len] at this
 omega
theorem uJ.idx {rs:List aG} {o:List aU} (h:uJ rs o) (hn:(rs.map aG.name).Nodup) {r:aG} (hr:r ∈ rs):∃ j,bE (fun x=>decide (x = r.name)) o = some j /\ o[j]? = some r.name:=by
 obtain ⟨j,hj⟩:=mU (p:=fun x:aU=>decide (x = r.name)) (h.all hn r.name (mem_map.2 ⟨r,hr,rfl⟩)) (decide_eq_true rfl)
 obtain ⟨x,h1,h2⟩:=jI hj
 exact ⟨j,hj,by rw [h1,of_decide_eq_true h2]⟩
theorem uJ.lt {rs:List aG} {o:List aU} (h:uJ rs o) {i k j m:Nat} {p q:aG} (hp:rs[i]? = some p) (hq:rs[k]? = some q) (hm:iM rs false i k = true) (hj:o[j]? = some p.name) (hk:bE (fun x=>decide (x = q.name)) o = some m):m < j:=by
 have hmem:=h.behind i k p q hp hq hm j hj
 obtain ⟨t,ht⟩:=List.mem_iff_getElem?.1 hmem
 have htj:t < j:=by have:=(List.getElem?_eq_some_iff.1 ht).1; rw [length_take] at this; omega
 rw [List.getElem?_take_of_lt htj] at ht
 refine Nat.lt_of_le_of_lt (Nat.le_of_not_lt fun hlt=>?_) htj
 have:=Ap hk t q.name hlt ht
 simp at this
end
end
section
section
variable {E:Env} {Z:Sg} {K:V -> Sg -> Prop}
theorem nK {α:Type} {L:Lay α} {t:Nat} {Y:Sg} {w:V} {l:List α} (ow:bF L t Y w l):w.a_ = true /\ w.cells = [w]:=by
 rcases ow with ⟨rfl,-⟩ | ⟨b,rs,ex,rfl,-⟩ <;> exact ⟨rfl,rfl⟩
theorem t_ {α:Type} {L:Lay α} {t:Nat} {Y:Sg} {w:V} {l:List α} {y:O} (ow:bF L t Y w l) (h:∀ b,aQ w = some b -> 2 <= b):bF L t (Y.set 0 y) w l:=ow.keep fun c o hc ho=>by
 rw [getElem?_set_ne (by have:=h c hc; omega)]; exact ho
theorem sY {α:Type} {L:Lay α} {t:Nat} {Y:Sg} {w:V} {l:List α} {b:Nat} (ow:bF L t Y w l) (h:aQ w = some b):b < Y.length:=by
 rcases ow with ⟨rfl,-⟩ | ⟨b',rs,ex,rfl,hb,-⟩
 ·cases h
 ·cases h
  exact (List.getElem?_eq_some_iff.1 hb).1
theorem EX {Y τ':Sg} (h:Kp Y τ'):Y.length <= τ'.length:=by
 refine Nat.le_of_not_lt fun hlt=>?_
 obtain ⟨o,ho⟩:∃ o,Y[τ'.length]? = some o:=⟨_,List.getElem?_eq_getElem hlt⟩
 exact absurd (List.getElem?_eq_some_iff.1 (h _ _ ho)).1 (Nat.lt_irrefl _)
theorem Yz (h:bM E) (h':sD E) {x:aG} {a b c d:V} (ia:IS aK a x.ins) (ib:IS aK b x.outs) (ic:IS aK c x.after) (id:IS eW d x.steps) (hs:Small x) (F:FT) (g1:F.get 1 = .ref 0 0) {st:List kA} {Q:Ax.X -> Fr -> Sg -> Prop}
  (hk:∀ F' Y w1 w2 w3 w4,F'.get 1 = .ref 0 0 -> F'.get 2 = F.get 2 -> Y[0]? = some (O.cells 37 [.str x.name,w1,w2,w3,w4] true) -> Y[1]? = some (O.cells 37 [.str [],.aD,.aD,.aD,.aD] true) -> bF aK 9 Y w1 x.ins -> bF aK 9 Y w2 x.outs -> bF aK 9 Y w3 x.after -> bF eW 75 Y w4 x.steps -> (∀ b,aQ w4 = some b -> 2 <= b /\ aQ w1 ≠ some b /\ aQ w2 ≠ some b /\ aQ w3 ≠ some b) -> M E st .normal ⟨52,F'⟩ Y Q) :
  R E (.region 1 (opsOf (cutAt [1,0] (aA Tryz.f70).code)) true) st ⟨52,F⟩ [O.cells 37 [.str x.name,a,b,c,d] true,O.cells 37 [.str [],.aD,.aD,.aD,.aD] true] Q:=by
 have l1:=hs.ins
 have l2:=hs.outs
 have l3:=hs.after
 have l4:=hs.steps
 obtain ⟨n1,w1,τ1,⟨ow1,kp1,fr1⟩,c1⟩:=aB.up (rZ (Z:=[O.cells 37 [.str x.name,a,b,c,d] true,O.cells 37 [.str [],.aD,.aD,.aD,.aD] true]) h ia (by omega))
 obtain ⟨n2,w2,τ2,⟨ow2,kp2,fr2⟩,c2⟩:=aB.up (rZ (Z:=τ1) h ib (by omega))
 obtain ⟨n3,w3,τ3,⟨ow3,kp3,fr3⟩,c3⟩:=aB.up (rZ (Z:=τ2) h ic (by omega))
 obtain ⟨n4,w4,τ4,⟨ow4,kp4,fr4⟩,c4⟩:=aB.up (LQ (Z:=τ3) h h' id (by omega))
 have c1:=c1 (n1 + n2 + n3 + n4) (by omega)
 have c2:=c2 (n1 + n2 + n3 + n4) (by omega)
 have c3:=c3 (n1 + n2 + n3 + n4) (by omega)
 have c4:=c4 (n1 + n2 + n3 + n4) (by omega)
 generalize n1 + n2 + n3 + n4 = n at c1 c2 c3 c4
 have k0:∀ Y:Sg,Kp [O.cells 37 [.str x.name,a,b,c,d] true,O.cells 37 [.str [],.aD,.aD,.aD,.aD] true] Y -> Y[0]? = some (O.cells 37 [.str x.name,a,b,c,d] true) /\ Y[1]? = some (O.cells 37 [.str [],.aD,.aD,.aD,.aD] true):=fun Y hk=>⟨hk 0 _ rfl,hk 1 _ rfl⟩
 have q2:Kp [O.cells 37 [.str x.name,a,b,c,d] true,O.cells 37 [.str [],.aD,.aD,.aD,.aD] true] τ2:=fun c o e=>kp2 c o (kp1 c o e)
 have q3:Kp [O.cells 37 [.str x.name,a,b,c,d] true,O.cells 37 [.str [],.aD,.aD,.aD,.aD] true] τ3:=fun c o e=>kp3 c o (q2 c o e)
 have q4:Kp [O.cells 37 [.str x.name,a,b,c,d] true,O.cells 37 [.str [],.aD,.aD,.aD,.aD] true] τ4:=fun c o e=>kp4 c o (q3 c o e)
 obtain ⟨b1,z1⟩:=k0 τ1 kp1
 obtain ⟨b2,z2⟩:=k0 τ2 q2
 obtain ⟨b3,z3⟩:=k0 τ3 q3
 obtain ⟨b4,z4⟩:=k0 τ4 q4
 have hlt4:=(List.getElem?_eq_some_iff.1 b4).1
 have s1:∀ y,(τ4.set 0 y)[0]? = some y:=fun y=>getElem?_set_self hlt4
 obtain ⟨o1,t1⟩:=nK ow1
 obtain ⟨o2,t2⟩:=nK ow2
 obtain ⟨o3,t3⟩:=nK ow3
 obtain ⟨o4,t4⟩:=nK ow4
 have v1:=cA 10 ia
 have v2:=cA 10 ib
 have v3:=cA 10 ic
 have v4:=nT 9 id
 have key:∃ F',cE E (ev E n) (opsOf (cutAt [1,0] (aA Tryz.f70).code)) ⟨52,F⟩ [O.cells 37 [.str x.name,a,b,c,d] true,O.cells 37 [.str [],.aD,.aD,.aD,.aD] true] = some (⟨52,F'⟩,τ4.set 0 (O.cells 37 [.str x.name,w1,w2,w3,w4] true)) /\ F'.get 1 = .ref 0 0 /\ F'.get 2 = F.get 2:=by
  unfold cE
  rw [h'.T3,h'.Vw]
  simp only [aA,Tryz.f70,KP,Ax.loadAt,Ax.storeAt,↓reduceIte,reduceEqDiff,reduceLT,reduceLeDiff,reduceAdd,reduceCtorEq,h.bA,h.fF,h.bK,opsOf,cutAt,gZ,bJ,bX,jV,Ax.comp,Ax.last,hU,Ax.again,g1,c1,c2,c3,c4,b1,b2,b3,b4,s1,o1,o2,o3,o4,t1,t2,t3,t4,v2,v3,v4,List.set_set]
  exact ⟨_,rfl,(by simp +decide only [GS,g1,and_self])⟩
 obtain ⟨F',hD,f1,f2⟩:=key
 have n1:=EX kp1
 have n2:=EX kp2
 have n3:=EX kp3
 have n0:([O.cells 37 [.str x.name,a,b,c,d] true,O.cells 37 [.str [],.aD,.aD,.aD,.aD] true]:Sg).length = 2:=rfl
 rw [n0] at n1 fr1
 have k2:∀ b,aQ w2 = some b -> 2 <= b:=fun b hb=>by have:=fr2 b hb; omega
 have k3:∀ b,aQ w3 = some b -> 2 <= b:=fun b hb=>by have:=fr3 b hb; omega
 have k4:∀ b,aQ w4 = some b -> 2 <= b:=fun b hb=>by have:=fr4 b hb; omega
 refine Eq.mpr (gY hD) (hk F' _ w1 w2 w3 w4 f1 f2 (s1 _) (by rw [getElem?_set_ne (by decide)]; exact z4) (t_ (ow1.keep fun c o _ hc=>kp4 c o (kp3 c o (kp2 c o hc))) fr1) (t_ (ow2.keep fun c o _ hc=>kp4 c o (kp3 c o hc)) k2) (t_ (ow3.keep fun c o _ hc=>kp4 c o hc) k3) (t_ ow4 k4) fun b hb=>⟨k4 b hb,fun e=>?_,fun e=>?_,fun e=>?_⟩)
 ·have:=fr4 b hb; have:=sY ow1 e; omega
 ·have:=fr4 b hb; have:=sY ow2 e; omega
 ·have:=fr4 b hb; have:=sY ow3 e; omega
end
end
section
section
variable {E:Env} {Z:Sg} {K:V -> Sg -> Prop}
theorem zL {k:Nat} (hk:k < 5):∀ {R:List (List V)} {i:Nat} {r:List V},(∀ x ∈ R,x.length = 5) -> R[i]? = some r -> R.flatten[i * 5 + k]? = r[k]?
 | [],_,_,_,h=>by cases h
 | x :: R,0,r,hx,h=>by
  cases h
  rw [flatten_cons,Nat.zero_mul,Nat.zero_add,List.getElem?_append_left (by rw [hx _ (mem_cons_self ..)]; exact hk)]
 | x :: R,i + 1,r,hx,h=>by
  have hl:=hx _ (mem_cons_self ..)
  rw [flatten_cons,getElem?_append_right (by omega),show (i + 1) * 5 + k - x.length = i * 5 + k by omega]
  exact zL hk (fun y hy=>hx y (mem_cons_of_mem _ hy)) h
theorem D4 {k:Nat} {v:V} (hk:k < 5):∀ {R:List (List V)} {i:Nat} {r:List V},(∀ x ∈ R,x.length = 5) -> R[i]? = some r -> setCells R.flatten (i * 5 + k) [v] = (R.set i (r.set k v)).flatten
 | [],_,_,_,h=>by cases h
 | x :: R,0,r,hx,h=>by
  cases h
  have hl:=hx _ (mem_cons_self ..)
  rw [List.set_cons_zero,flatten_cons,flatten_cons,Nat.zero_mul,Nat.zero_add]
  unfold setCells
  rw [List.take_append_of_le_length (by omega),List.drop_append_of_le_length (by rw [List.length_singleton]; omega),List.set_eq_take_append_cons_drop,if_pos (by omega)]
  simp
 | x :: R,i + 1,r,hx,h=>by
  have hl:=hx _ (mem_cons_self ..)
  have ih:=D4 (v:=v) hk (fun y hy=>hx y (mem_cons_of_mem _ hy)) h
  rw [List.set_cons_succ,flatten_cons,flatten_cons,<- ih]
  unfold setCells
  rw [List.take_append,take_of_length_le (by omega),show (i + 1) * 5 + k - x.length = i * 5 + k by omega,List.drop_append,List.drop_of_length_le (by omega),show (i + 1) * 5 + k + [v].length - x.length = i * 5 + k + [v].length by omega]
  simp
theorem Ig (h:bM E) {Y:Sg} {b i k:Nat} {R:List (List V)} {r:List V} {v:V} {ex:Bool} (hb:Y[b]? = some (.cells 75 R.flatten ex)) (hx:∀ x ∈ R,x.length = 5) (hr:R[i]? = some r) (hk:k < 5) (hv:r[k]? = some v):loadAt E Y 28 (.ref b (i * 5 + k)) = some v:=by
 unfold Ax.loadAt
 simp only [h.bA,hb,zL hk hx hr,hv,Ax.isAgg]
 rfl
theorem Mm (h:bM E) {Y:Sg} {b i k:Nat} {R:List (List V)} {r:List V} {v:V} {ex:Bool} (hb:Y[b]? = some (.cells 75 R.flatten ex)) (hx:∀ x ∈ R,x.length = 5) (hr:R[i]? = some r) (hk:k < 5) (hc:v.cells = [v]) (ho:v.a_ = true):storeAt E Y 28 (.ref b (i * 5 + k)) v = some (Y.set b (.cells 75 (R.set i (r.set k v)).flatten ex)):=by
 unfold Ax.storeAt
 have hl:i * 5 + k + 1 <= R.flatten.length:=by
  have:=zL hk hx hr
  have hrl:=hx r (mem_of_getElem? hr)
  rw [List.getElem?_eq_getElem (show k < r.length by omega)] at this
  have:=(List.getElem?_eq_some_iff.1 this).1
  omega
 simp only [h.bA,hb,hc,length_cons,length_nil,List.all_cons,List.all_nil,ho,decide_eq_true hl,D4 hk hx hr]
 rfl
theorem S9 (h:bM E) {b n i:Nat} (hi:i < n):indexAddr E 35 (.sl b 0 n none) (.int .i64 (i:Int)) = some (.ref b (i * 5)):=by
 unfold Ax.indexAddr
 simp only [h.fF,h.cQ,show ¬ ((i:Int) < 0) by omega,if_false,Int.toNat_natCast,hi,if_true,Nat.zero_add]
theorem MW {R:List (List V)} {i k:Nat} {r:List V} {v:V} (hx:∀ x ∈ R,x.length = 5) (hr:R[i]? = some r):∀ x ∈ R.set i (r.set k v),x.length = 5:=fun x hm=>by
 rcases List.mem_or_eq_of_mem_set hm with hm | rfl
 ·exact hx x hm
 ·rw [List.length_set]; exact hx r (mem_of_getElem? hr)
theorem Yy (h:bM E) (h':sD E) {x:aG} {w1 w2 w3 p q:V} {s:AxS.Step} {b n i:Nat} {R:List (List V)} {ex:Bool} {Y:Sg} (h0:Y[0]? = some (O.cells 37 [.str x.name,w1,w2,w3,.sl b 0 n none] true)) (hb:Y[b]? = some (.cells 75 R.flatten ex)) (hx:∀ x ∈ R,x.length = 5) (hr:R[i]? = some ([.str s.out,.int .i64 s.op,p,q,.int .i64 s.n])) (hi:i < n) (ip:IS aK p s.args) (iq:IS aK q s.lits) (l1:s.args.length <= 8) (l2:s.lits.length <= 3) (hb2:2 <= b)
  (F:FT) (g1:F.get 1 = .ref 0 0) (g3:F.get 3 = .int .i64 (i:Int)) {st:List kA} {Q:Ax.X -> Fr -> Sg -> Prop}
  (hk:∀ F' τ' wp wq,(∀ k,k ∈ [1,2,22,23] -> F'.get k = F.get k) -> τ'[b]? = some (.cells 75 (R.set i ([.str s.out,.int .i64 s.op,wp,wq,.int .i64 s.n])).flatten ex) -> bF aK 9 τ' wp s.args -> bF aK 9 τ' wq s.lits -> (∀ (c:Nat) (o:O),Y[c]? = some o -> c ≠ b -> τ'[c]? = some o) -> (∀ c,aQ wp = some c -> Y.length <= c) -> (∀ c,aQ wq = some c -> Y.length <= c) -> M E st .normal ⟨52,F'⟩ τ' Q) :
  Ax.R E (.region 5 (opsOf (cutAt [1,1,0,1,2,2,1,1,0,2,1] (aA Tryz.f70).code)) true) st ⟨52,F⟩ Y Q:=by
 obtain ⟨n1,wp,τ1,⟨ow1,kp1,fr1⟩,c1⟩:=aB.up (rZ (Z:=Y) h ip (by omega))
 obtain ⟨n2,wq,τ2,⟨ow2,kp2,fr2⟩,c2⟩:=aB.up (rZ (Z:=τ1) h iq (by omega))
 have c1:=c1 (n1 + n2) (by omega)
 have c2:=c2 (n1 + n2) (by omega)
 generalize n1 + n2 = m at c1 c2
 have h01:=kp1 _ _ h0
 have h02:=kp2 _ _ h01
 have hb1:=kp1 _ _ hb
 have hb2':=kp2 _ _ hb1
 obtain ⟨o1,t1⟩:=nK ow1
 obtain ⟨o2,t2⟩:=nK ow2
 have e1:=S9 h hi (b:=b) (n:=n)
 have f1:=Ig h hb hx hr (k:=2) (by decide) rfl
 have f2:=Ig h hb1 hx hr (k:=3) (by decide) rfl
 have f2'':=Ig h hb hx hr (k:=3) (by decide) rfl
 have s1:=Mm h hb2' hx hr (k:=2) (v:=wp) (by decide) t1 o1
 have hbl:=(List.getElem?_eq_some_iff.1 hb2').1
 have hR:(R.set i ([.str s.out,.int .i64 s.op,wp,q,.int .i64 s.n]))[i]? = some ([.str s.out,.int .i64 s.op,wp,q,.int .i64 s.n]):=getElem?_set_self (List.getElem?_eq_some_iff.1 hr).1
 have s2:=Mm h (Y:=τ2.set b (.cells 75 (R.set i ([.str s.out,.int .i64 s.op,wp,q,.int .i64 s.n])).flatten ex)) (v:=wq) (getElem?_set_self hbl) (MW (k:=2) (v:=wp) hx hr) hR (k:=3) (by decide) t2 o2
 have s1:storeAt E τ2 28 (.ref b (i * 5 + 2)) wp = some (τ2.set b (.cells 75 (R.set i ([.str s.out,.int .i64 s.op,wp,q,.int .i64 s.n])).flatten ex)):=s1
 have s2:storeAt E (τ2.set b (.cells 75 (R.set i ([.str s.out,.int .i64 s.op,wp,q,.int .i64 s.n])).flatten ex)) 28 (.ref b (i * 5 + 3)) wq = some (τ2.set b (.cells 75 (R.set i ([.str s.out,.int .i64 s.op,wp,wq,.int .i64 s.n])).flatten ex)):=by
  rw [s2,List.set_set,List.set_set]
  rfl
 have lw:loadAt E Y 35 (.ref 0 4) = some (.sl b 0 n none):=by unfold Ax.loadAt; simp only [h.fF,h0]; rfl
 have lw1:loadAt E τ1 35 (.ref 0 4) = some (.sl b 0 n none):=by unfold Ax.loadAt; simp only [h.fF,h01]; rfl
 have lw2:loadAt E τ2 35 (.ref 0 4) = some (.sl b 0 n none):=by unfold Ax.loadAt; simp only [h.fF,h02]; rfl
 have lw3:∀ y,loadAt E (τ2.set b y) 35 (.ref 0 4) = some (.sl b 0 n none):=fun y=>by
  have h03:(τ2.set b y)[0]? = some (O.cells 37 [.str x.name,w1,w2,w3,.sl b 0 n none] true):=by rw [getElem?_set_ne (by omega)]; exact h02
  unfold Ax.loadAt; simp only [h.fF,h03]; rfl
 have vq:=cA 10 iq
 have v0:qV 12 (.sl b 0 n none) (.sl b 0 n none) = true:=by unfold qV; simp
 have key:∃ F',cE E (ev E m) (opsOf (cutAt [1,1,0,1,2,2,1,1,0,2,1] (aA Tryz.f70).code)) ⟨52,F⟩ Y = some (⟨52,F'⟩,τ2.set b (.cells 75 (R.set i ([.str s.out,.int .i64 s.op,wp,wq,.int .i64 s.n])).flatten ex)) /\ (∀ k,k ∈ [1,2,22,23] -> F'.get k = F.get k):=by
  unfold cE
  rw [h'.T2,h'.Vv]
  simp only [aA,Tryz.f70,KP,↓reduceIte,reduceEqDiff,reduceLT,reduceAdd,reduceCtorEq,h.bA,h.fF,h.bK,h.cQ,opsOf,cutAt,gZ,bJ,bX,jV,Ax.comp,Ax.last,hU,Ax.again,g1,g3,c1,c2,lw,lw1,lw2,lw3,e1,f1,f2,f2'',s1,s2,vq,v0]
  refine ⟨_,rfl,fun k hk=>?_⟩
  simp only [mem_cons,List.not_mem_nil,or_false] at hk
  rcases hk with rfl | rfl | rfl | rfl <;> simp +decide only [GS]
 obtain ⟨F',hD,hF⟩:=key
 have hlen1:=EX kp1
 have hne:∀ {w:V},(∀ c,aQ w = some c -> Y.length <= c) -> aQ w ≠ some b:=fun hfr e=>by
  have:=hfr b e
  have:=(List.getElem?_eq_some_iff.1 hb).1
  omega
 have fr2':∀ c,aQ wq = some c -> Y.length <= c:=fun c hc=>by have:=fr2 c hc; omega
 refine Eq.mpr (gY hD) (hk F' _ wp wq hF (getElem?_set_self hbl) (bF.set (ow1.keep fun c o _ hc=>kp2 c o hc) (hne fr1)) (bF.set ow2 (hne fr2')) (fun c o hc hcb=>?_) fr1 fr2')
 rw [getElem?_set_ne (Ne.symm hcb)]
 exact kp2 _ _ (kp1 _ _ hc)
end
end
section
section
variable {E:Env} {Z:Sg} {K:V -> Sg -> Prop}
theorem Hg {β γ:Type} {P:β -> γ -> Prop}:∀ {a:List β} {b:List γ},eR P a b -> ∀ {j:Nat} {y:γ},b[j]? = some y -> ∃ x,a[j]? = some x /\ P x y
 | _,_,.nil,_,_,h=>by cases h
 | _ :: _,_ :: _,.cons h t,0,_,e=>by cases e; exact ⟨_,rfl,h⟩
 | _ :: _,_ :: _,.cons h t,j + 1,_,e=>by
  obtain ⟨x,h1,h2⟩:=Hg t (j:=j) e
  exact ⟨x,h1,h2⟩
structure O5 (Y:Sg) (b i:Nat) (R:List (List V)) (ex:Bool) (steps:List AxS.Step):Prop where
 hb:Y[b]? = some (.cells 75 R.flatten ex)
 len:R.length = steps.length
 Is:∀ x ∈ R,x.length = 5
 row:∀ (j:Nat) (s:AxS.Step),steps[j]? = some s -> ∃ p q,R[j]? = some ([.str s.out,.int .i64 s.op,p,q,.int .i64 s.n]) /\ (j < i -> bF aK 9 Y p s.args /\ bF aK 9 Y q s.lits /\ aQ p ≠ some b /\ aQ q ≠ some b) /\ (i <= j -> IS aK p s.args /\ IS aK q s.lits)
theorem O5.start {Y:Sg} {b:Nat} {rs:List (List V)} {ex:Bool} {steps:List AxS.Step} (hb:Y[b]? = some (.cells 75 rs.flatten ex)) (ha:eR eW.P rs steps):O5 Y b 0 rs ex steps:=by
 refine ⟨hb,ha.len,Lay.lens ha,fun j s hj=>?_⟩
 obtain ⟨r,h1,a,l,rfl,h2,h3⟩:=Hg ha hj
 exact ⟨a,l,h1,fun h=>by omega,fun _=>⟨h2,h3⟩⟩
theorem O5.step {Y τ':Sg} {b i:Nat} {R:List (List V)} {ex:Bool} {steps:List AxS.Step} {s:AxS.Step} {wp wq:V} (h:O5 Y b i R ex steps) (hs:steps[i]? = some s) (hb:τ'[b]? = some (.cells 75 (R.set i ([.str s.out,.int .i64 s.op,wp,wq,.int .i64 s.n])).flatten ex)) (o1:bF aK 9 τ' wp s.args) (o2:bF aK 9 τ' wq s.lits) (k:∀ (c:Nat) (o:O),Y[c]? = some o -> c ≠ b -> τ'[c]? = some o) (f1:∀ c,aQ wp = some c -> Y.length <= c) (f2:∀ c,aQ wq = some c -> Y.length <= c):O5 τ' b (i + 1) (R.set i ([.str s.out,.int .i64 s.op,wp,wq,.int .i64 s.n])) ex steps:=by
 have hbl:=(List.getElem?_eq_some_iff.1 h.hb).1
 have hil:i < R.length:=by rw [h.len]; exact (List.getElem?_eq_some_iff.1 hs).1
 refine ⟨hb,by rw [List.length_set]; exact h.len,fun x hx=>?_,fun j t hj=>?_⟩
 ·rcases List.mem_or_eq_of_mem_set hx with hx | rfl
  ·exact h.Is x hx
  ·rfl
 ·by_cases hij:i = j
  ·subst hij
   rw [hs] at hj
   cases hj
   refine ⟨wp,wq,getElem?_set_self hil,fun _=>⟨o1,o2,fun e=>?_,fun e=>?_⟩,fun h=>by omega⟩
   ·have:=f1 b e; omega
   ·have:=f2 b e; omega
  ·obtain ⟨p,q,h1,h2,h3⟩:=h.row j t hj
   refine ⟨p,q,by rw [getElem?_set_ne hij]; exact h1,fun hlt=>?_,fun hle=>h3 (by omega)⟩
   obtain ⟨a1,a2,a3,a4⟩:=h2 (by omega)
   exact ⟨a1.keep fun c o hc ho=>k c o ho (fun e=>a3 (by rw [hc,e])),a2.keep fun c o hc ho=>k c o ho (fun e=>a4 (by rw [hc,e])),a3,a4⟩
theorem SD {Y:Sg} {w:V} {l:List aU} (ow:bF aK 9 Y w l):OL Y w l:=by
 rcases ow with h | ⟨b,rs,ex,rfl,hb,ha⟩
 ·exact .inl h
 ·obtain rfl:=A1 ha
  rw [Cm] at hb
  exact .inr ⟨b,_,ex,rfl,hb,take_of_length_le (by rw [length_map]; exact Nat.le_refl _)⟩
theorem Pq {v:V} {l:List aU} (h:RH v l):kB aK v l:=by
 rcases h with h | ⟨full,rfl⟩
 ·exact .inl h
 ·exact .inr ⟨_,full,rfl,yO l⟩
theorem Bw (h:bM E) {Y:Sg} {w:V} {l:List aU} {m:Nat} (ow:bF aK 9 Y w l):∃ v',bT Y E.ty false (m + 2) w = some v' /\ cK false v' = true /\ kB aK v' l:=by
 obtain ⟨v',h1,h2⟩:=(SD ow).snap (m:=m) h
 exact ⟨v',h1,h2.tag,Pq h2⟩
theorem Gk {α β:Type} {f:α -> Option β}:∀ {a:List α} {a':List β} {b:List α} {b':List β},aX f a = some a' -> aX f b = some b' -> aX f (a ++ b) = some (a' ++ b')
 | [],a',b,b',h1,h2=>by cases h1; exact h2
 | x :: a,a',b,b',h1,h2=>by
  rw [aX] at h1
  cases hx:f x with
  | none=>rw [hx] at h1; cases h1
  | some y=>
   cases hm:aX f a with
   | none=>rw [hx,hm] at h1; cases h1
   | some l=>
    rw [hx,hm] at h1
    cases h1
    rw [List.cons_append,aX,hx,Gk hm h2]
    rfl
theorem FE (h:bM E) {Y:Sg} {b n:Nat} {R:List (List V)} {ex:Bool} {steps:List AxS.Step} (hs:O5 Y b n R ex steps) (hn:n = steps.length):∃ v',bT Y E.ty false 12 (.sl b 0 n none) = some v' /\ cK false v' = true /\ kB gA v' steps:=by
 have key:∀ (R:List (List V)) (steps:List AxS.Step),R.length = steps.length -> (∀ (j:Nat) (s:AxS.Step),steps[j]? = some s -> ∃ p q,R[j]? = some ([.str s.out,.int .i64 s.op,p,q,.int .i64 s.n]) /\ bF aK 9 Y p s.args /\ bF aK 9 Y q s.lits) -> ∃ R',aX (fun v=>match bT Y E.ty false 11 v with
   | some v=>if cK false v then some v else Ax.no "snap: borrowed"
   | none=>none) R.flatten = some R'.flatten /\ eR gA.P R' steps:=by
  intro R
  induction R with
  | nil=>
   intro steps hl _
   have:steps = []:=List.eq_nil_of_length_eq_zero hl.symm
   subst this
   exact ⟨[],rfl,.nil⟩
  | cons r R ih=>
   intro steps hl hr
   cases steps with
   | nil=>cases hl
   | cons s steps=>
    obtain ⟨R',m1,a1⟩:=ih steps (by simpa using hl) fun j t hj=>hr (j + 1) t hj
    obtain ⟨p,q,h1,h2,h3⟩:=hr 0 s rfl
    cases h1
    obtain ⟨p',e1,t1,i1⟩:=Bw (m:=9) h h2
    obtain ⟨q',e2,t2,i2⟩:=Bw (m:=9) h h3
    refine ⟨([.str s.out,.int .i64 s.op,p',q',.int .i64 s.n]) :: R',?_,.cons ⟨p',q',rfl,i1,i2⟩ a1⟩
    rw [flatten_cons,flatten_cons]
    refine Gk ?_ m1
    have es:∀ z:aU,bT Y E.ty false 11 (.str z) = some (.str z):=fun z=>jK rfl
    have ei:∀ z:Int,bT Y E.ty false 11 (.int .i64 z) = some (.int .i64 z):=fun z=>jK rfl
    have ts:∀ z:aU,cK false (.str z) = true:=fun _=>rfl
    have ti:∀ z:Int,cK false (.int .i64 z) = true:=fun _=>rfl
    simp only [aX,es,ei,ts,ti,e1,e2,t1,t2,if_true]
 obtain ⟨R',m1,a1⟩:=key R steps hs.len fun j s hj=>by
  obtain ⟨p,q,h1,h2,-⟩:=hs.row j s hj
  obtain ⟨a1,a2,-⟩:=h2 (by have:=(List.getElem?_eq_some_iff.1 hj).1; omega)
  exact ⟨p,q,h1,a1,a2⟩
 have hfl:R.flatten.length = n * 5:=by rw [mT R hs.Is,hs.len,hn]
 have htk:(R.flatten.drop 0).take (n * 5) = R.flatten:=by rw [drop_zero,take_of_length_le (by omega)]
 refine ⟨.bR false R' (ex && decide (0 < 5) && (0 + n * 5 == R.flatten.length)),?_,rfl,.inr ⟨R',_,rfl,a1⟩⟩
 rw [bT]
 simp only [hs.hb,h.cQ]
 rw [if_pos (by omega)]
 have m2:aX (fun v=>match bT Y E.ty false 11 v with
   | some v=>if cK false v then some v else Ax.no "snap: borrowed"
   | none=>none) ((R.flatten.drop 0).take (n * 5)) = some R'.flatten:=by rw [htk]; exact m1
 refine Eq.trans (congrArg (fun o=>match o with
  | some l=>some (V.bR false (Ax.rows 5 n l) (ex && decide (0 < 5) && (0 + n * 5 == R.flatten.length)))
  | none=>none) m2) ?_
 show some (V.bR false (Ax.rows 5 n R'.flatten) _) = _
 have hl':n = R'.length:=by rw [a1.len,hn]
 rw [hl',show Ax.rows 5 R'.length R'.flatten = R' from lE (sz:=5) R' (Lay.lens (L:=gA) a1)]
end
end
section
section
variable {E:Env} {Z:Sg} {K:V -> Sg -> Prop}
def Rx (v:V) (x:aG):Prop:=∃ a b c d,v = .agg [.str x.name,a,b,c,d] /\ kB aK a x.ins /\ kB aK b x.outs /\ kB aK c x.after /\ kB gA d x.steps
theorem pY (h:bM E) {Y:Sg} {w:V} {l:List aU} (ow:bF aK 9 Y w l):∃ v',aT.one Y E.ty false w = some v' /\ kB aK v' l:=by
 obtain ⟨v',h1,h2,h3⟩:=Bw (m:=10) h ow
 refine ⟨v',?_,h3⟩
 unfold aT.one
 rw [show dV = 10 + 2 from rfl,h1]
 simp only [h2,if_true]
theorem O5.Ww {Y:Sg} {b i u:Nat} {R:List (List V)} {ex:Bool} {steps:List AxS.Step} {cs:List V} {y:O} (h:O5 Y b i R ex steps) (hz:Y[1]? = some (.cells u cs true)) (hu:u ≠ 9) (hb:2 <= b):O5 (Y.set 1 y) b i R ex steps:=by
 refine ⟨by rw [getElem?_set_ne (by omega)]; exact h.hb,h.len,h.Is,fun j s hj=>?_⟩
 obtain ⟨p,q,h1,h2,h3⟩:=h.row j s hj
 refine ⟨p,q,h1,fun hlt=>?_,h3⟩
 obtain ⟨a1,a2,a3,a4⟩:=h2 hlt
 exact ⟨bF.set a1 (jY hz hu a1),bF.set a2 (jY hz hu a2),a3,a4⟩
theorem OE (h:bM E) (h':sD E) {v:V} {x:aG} (hv:Hl v x) (hs:Small x):aB E 70 [v] Z fun v σ'=>σ' = Z /\ Rx v x:=by
 have ev:=hv.snap (E:=E) Z
 obtain ⟨a,b,c,d,rfl,ia,ib,ic,id⟩:=hv
 have o1:=aJ ia.bD
 have o2:=aJ ib.bD
 have o3:=aJ ic.bD
 have o4:=aJ id.bD
 have l4:=hs.steps
 rw [aH h'.hs70 h'.sp70 h'.fn70 h'.md70 (args':=[.agg [.str x.name,a,b,c,d]]) (by simp only [aX,ev]),aZ (by kernel_rfl)]
 simp only [aA,Tryz.f70,KP,↓reduceIte,reduceLT,reduceAdd,h.bK,o1,o2,o3,o4]
 refine Yz h h' ia ib ic id hs _ ?_ ?_
 ·exact (by simp +decide only [GS])
 intro F1 τ1 w1 w2 w3 w4 g1 g2 b0 z0 ow1 ow2 ow3 ow4 sep
 have g2:F1.get 2 = .ref 1 0:=g2.trans (by simp +decide only [GS])
 obtain ⟨k1,t1⟩:=nK ow1
 obtain ⟨k2,t2⟩:=nK ow2
 obtain ⟨k3,t3⟩:=nK ow3
 rcases ow4 with ⟨rfl,hst⟩ | ⟨b4,rs,ex,rfl,hb,ha⟩
 ·have ln:∀ Z,lenOf E Z 35 .aD = some 0:=fun Z=>by unfold lenOf; rw [h.fF]
  simp only [KP,Ax.loadAt,↓reduceIte,reduceLT,reduceCtorEq,h.fF,h.bK,g1,b0,ln]
  rw [aF]
  have hz1:=(List.getElem?_eq_some_iff.1 z0).1
  have s1:∀ y,(τ1.set 1 y)[1]? = some y:=fun y=>getElem?_set_self hz1
  obtain ⟨a',e1,j1⟩:=pY h (bF.set (y:=O.cells 37 [.str x.name,w1,w2,w3,.aD] true) ow1 (jY z0 (by decide) ow1))
  obtain ⟨b',e2,j2⟩:=pY h (bF.set (y:=O.cells 37 [.str x.name,w1,w2,w3,.aD] true) ow2 (jY z0 (by decide) ow2))
  obtain ⟨c',e3,j3⟩:=pY h (bF.set (y:=O.cells 37 [.str x.name,w1,w2,w3,.aD] true) ow3 (jY z0 (by decide) ow3))
  have e0:∀ Y (z:aU),aT.one Y E.ty false (.str z) = some (.str z):=fun Y z=>rfl
  have e5:∀ Y,aT.one Y E.ty false .aD = some .aD:=fun Y=>rfl
  simp only [KP,Ax.loadAt,Ax.storeAt,↓reduceIte,reduceEqDiff,reduceLT,reduceAdd,Int.reduceLT,h.bK,g1,g2,b0,z0,k1,k2,k3,s1,e0,e1,e2,e3,e5,cP,aT,aX]
  exact ⟨a',b',c',.aD,rfl,j1,j2,j3,.inl ⟨rfl,hst⟩⟩
 ·generalize hn:x.steps.length = n at *
  obtain ⟨hb2,d1,d2,d3⟩:=sep b4 rfl
  have ln:∀ Z,lenOf E Z 35 (.sl b4 0 n none) = some n:=fun Z=>by unfold lenOf; rw [h.fF]
  simp only [KP,Ax.loadAt,↓reduceIte,reduceLT,reduceCtorEq,h.fF,h.bK,g1,b0,ln]
  refine aV (fun i F Y=>F.get 1 = .ref 0 0 /\ F.get 2 = .ref 1 0 /\ F.get 22 = .int .i64 (n:Int) /\ F.get 23 = .int .i64 (i:Int) /\ Y[0]? = some (O.cells 37 [.str x.name,w1,w2,w3,.sl b4 0 n none] true) /\ Y[1]? = some (O.cells 37 [.str [],.aD,.aD,.aD,.aD] true) /\ bF aK 9 Y w1 x.ins /\ bF aK 9 Y w2 x.outs /\ bF aK 9 Y w3 x.after /\ ∃ R,O5 Y b4 i R ex x.steps) n ?_ ?_ n 0 _ _ (by omega) (gR (by simp +decide only [GS,g1,g2,and_self]) ⟨b0,z0,ow1,ow2,ow3,rs,O5.start hb ha⟩)
  ·rintro i F Y hi ⟨g1,g2,g22,g23,b0,z0,ow1,ow2,ow3,R,sa⟩ next
   obtain ⟨s,hsi⟩:∃ y,x.steps[i]? = some y:=⟨_,List.getElem?_eq_getElem (by omega)⟩
   obtain ⟨p,q,hr,-,hpq⟩:=sa.row i s hsi
   obtain ⟨ip,iq⟩:=hpq (Nat.le_refl _)
   have hsm:=mem_of_getElem? hsi
   have hlt:=eD hi
   have hadd:=bZ i (by omega)
   rw [aF]
   simp only [KP,↓reduceIte,reduceEqDiff,reduceLT,g22,g23,hlt]
   refine Yy h h' b0 sa.hb sa.Is hr hi ip iq (hs.args s hsm) (hs.lits s hsm) hb2 _ ?_ ?_ ?_
   ·exact (by simp +decide only [GS,g1])
   ·exact (by simp +decide only [GS])
   intro F' τ' wp wq hF hb' op oq hk f1 f2
   have q1:F'.get 1 = .ref 0 0:=(hF 1 (by simp)).trans (by simp +decide only [GS,g1])
   have q2:F'.get 2 = .ref 1 0:=(hF 2 (by simp)).trans (by simp +decide only [GS,g2])
   have q22:F'.get 22 = .int .i64 (n:Int):=(hF 22 (by simp)).trans (by simp +decide only [GS,g22])
   have q23:F'.get 23 = .int .i64 (i:Int):=(hF 23 (by simp)).trans (by simp +decide only [GS,g23])
   simp only [KP,↓reduceIte,reduceLT,q23,hadd]
   exact next _ _ (gR (by simp +decide only [GS,q1,q2,q22,and_self]) ⟨hk 0 _ b0 (by omega),hk 1 _ z0 (by omega),ow1.keep fun c o hc ho=>hk c o ho (fun e=>d1 (by rw [hc,e])),ow2.keep fun c o hc ho=>hk c o ho (fun e=>d2 (by rw [hc,e])),ow3.keep fun c o hc ho=>hk c o ho (fun e=>d3 (by rw [hc,e])),_,sa.step hsi hb' op oq hk f1 f2⟩)
  ·rintro F Y ⟨g1,g2,g22,g23,b0,z0,ow1,ow2,ow3,R,sa⟩
   have hlt:=eE (Nat.lt_irrefl n)
   have hz1:=(List.getElem?_eq_some_iff.1 z0).1
   have s1:∀ y,(Y.set 1 y)[1]? = some y:=fun y=>getElem?_set_self hz1
   obtain ⟨a',e1,j1⟩:=pY h (bF.set (y:=O.cells 37 [.str x.name,w1,w2,w3,.sl b4 0 n none] true) ow1 (jY z0 (by decide) ow1))
   obtain ⟨b',e2,j2⟩:=pY h (bF.set (y:=O.cells 37 [.str x.name,w1,w2,w3,.sl b4 0 n none] true) ow2 (jY z0 (by decide) ow2))
   obtain ⟨c',e3,j3⟩:=pY h (bF.set (y:=O.cells 37 [.str x.name,w1,w2,w3,.sl b4 0 n none] true) ow3 (jY z0 (by decide) ow3))
   obtain ⟨d',e4,t4,j4⟩:=FE h (sa.Ww (y:=O.cells 37 [.str x.name,w1,w2,w3,.sl b4 0 n none] true) z0 (by decide) hb2) hn.symm
   have e4:aT.one (Y.set 1 (O.cells 37 [.str x.name,w1,w2,w3,.sl b4 0 n none] true)) E.ty false (.sl b4 0 n none) = some d':=by
    unfold aT.one
    rw [show dV = 12 from rfl,e4]
    simp only [t4,if_true]
   have e0:∀ Y (z:aU),aT.one Y E.ty false (.str z) = some (.str z):=fun Y z=>rfl
   rw [aF]
   simp only [KP,Ax.loadAt,Ax.storeAt,↓reduceIte,reduceEqDiff,reduceLT,reduceAdd,h.bK,g1,g2,g22,g23,hlt,b0,z0,k1,k2,k3,s1,e0,e1,e2,e3,e4,cP,aT,aX]
   exact ⟨a',b',c',d',rfl,j1,j2,j3,j4⟩
end
end
end Go.Proofs.YtlbbdpkjeeiahaaGreatDoor
end
section
namespace Go.Proofs.YtlbbdpkjeeiahaaGreatDoor.Lb
open Go Go.Ax Go.AxS
def LVf (v:V) (l:List aL):Prop:=(v = .aD /\ l = []) \/ ∃ full,v = .bR false (l.map row) full
theorem LVf.lv {v:V} {l:List aL} (h:LVf v l):LV v l:=h.imp id fun ⟨full,e⟩=>⟨false,full,e⟩
section
section
variable {E:Env} {Z:Sg} {K:V -> Sg -> Prop}
theorem Pd (n:Nat) (h:n <= 10000000000000):wr .i64 ((n:Int) + 1) = ((n + 1:Nat):Int):=by
 rw [yG,if_pos]
 ·rfl
 ·rw [Bool.and_eq_true,decide_eq_true_eq,decide_eq_true_eq]
  exact ⟨show (-9223372036854775808:Int) <= (n:Int) + 1 by omega,show (n:Int) + 1 <= (9223372036854775807:Int) by omega⟩
theorem J_ (h:dP E) (c:Bool) (a b:Bool) (s t:List Nat):nC E 46 c (.agg [.bool a,.str s]) (.agg [.bool b,.str t]) = some (decide (((a,s):aL) = (b,t))):=by
 unfold nC
 simp only [h.eM,h.QK,Ax.eqs]
 rw [wR]
 cases a <;> cases b <;> simp
end
end
section
def lV (ks:List aL):List (V × V):=ks.map fun k=>(V.agg [.bool k.1,.str k.2],V.bool true)
structure bY (Z:Sg) (b m:Nat) (ks:List aL):Prop where
 obj:Z[b]? = some (.cells 86 [.mp m] true)
 map:Z[m]? = some (.map (lV ks))
 nodup:ks.Nodup
def Kp (Z σ':Sg) (m:Nat):Prop:=∀ (j:Nat) (o:O),j ≠ m -> Z[j]? = some o -> σ'[j]? = some o
def lA (Z σ':Sg):Prop:=∀ (j:Nat) (o:O),Z[j]? = some o -> σ'[j]? = some o
theorem lA.refl (Z:Sg):lA Z Z:=fun _ _ h=>h
theorem lA.trans {Z Y ρ:Sg} (h:lA Z Y) (k:lA Y ρ):lA Z ρ:=fun j o e=>k j o (h j o e)
theorem lA.app (Z Y:Sg):lA Z (Z ++ Y):=fun _ _ h=>jO h Y
theorem lA.tH {Z σ':Sg} (h:lA Z σ'):dK Z σ':=fun b t cs ex e=>h _ _ e
theorem Kp.refl (Z:Sg) (m:Nat):Kp Z Z m:=fun _ _ _ h=>h
theorem Kp.trans {Z Y ρ:Sg} {m:Nat} (h:Kp Z Y m) (k:Kp Y ρ m):Kp Z ρ m:=fun j o hj e=>k j o hj (h j o hj e)
theorem Kp.tH {Z σ':Sg} {m:Nat} {es:List (V × V)} (h:Kp Z σ' m) (hm:Z[m]? = some (.map es)):dK Z σ':=fun b t cs ex e=>h _ _ (fun hb=>by subst hb; rw [hm] at e; cases e) e
theorem lA.kp {Z σ':Sg} (h:lA Z σ') (m:Nat):Kp Z σ' m:=fun j o _ e=>h j o e
theorem bY.ne {Z:Sg} {b m:Nat} {ks:List aL} (h:bY Z b m ks):b ≠ m:=fun e=>by
 subst e; have:=h.obj; rw [h.map] at this; cases this
theorem bY.jZ {Z σ':Sg} {b m:Nat} {ks:List aL} (h:bY Z b m ks) (k:lA Z σ'):bY σ' b m ks:=⟨k _ _ h.obj,k _ _ h.map,h.nodup⟩
theorem bY.kp {Z σ':Sg} {b m m':Nat} {ks ks':List aL} {b':Nat} (h:bY Z b m ks) (h':bY Z b' m' ks') (hm:m ≠ m') (k:Kp Z σ' m'):bY σ' b m ks:=
 ⟨k _ _ (fun e=>by subst e; have:=h.obj; rw [h'.map] at this; cases this) h.obj,k _ _ hm h.map,h.nodup⟩
section
variable {E:Env} {Z:Sg} {K:V -> Sg -> Prop}
theorem qM (h:dP E) (a b:Bool) (s t:List Nat):eN E 46 (.agg [.bool a,.str s]) (.agg [.bool b,.str t]) = some (decide (((a,s):aL) = (b,t))):=by
 unfold eN
 simp only [h.eM,h.QK,Ax.eqs]
 rw [wR]
 cases a <;> cases b <;> simp
theorem qJ (h:dP E) (a:Bool) (s:List Nat):dQ E 46 (.agg [.bool a,.str s]) = true:=by
 unfold dQ
 simp only [h.eM,h.QK,Ax.eqs]
 rfl
theorem Il (y:aL) (r:List aL) (x:aL) (hxy:x ≠ y):jH (y :: r) x = y :: jH r x:=by
 unfold jH
 by_cases hx:x ∈ r
 ·rw [if_pos hx,if_pos (mem_cons_of_mem _ hx)]
 ·rw [if_neg hx,if_neg (by simp [hxy,hx])]; rfl
theorem DH (h:dP E) (x:aL):∀ ks:List aL,kI (eN E 46) (.agg [.bool x.1,.str x.2]) (.bool true) (lV ks) = some (lV (jH ks x))
 | []=>rfl
 | y :: r=>by
  show (match eN E 46 (.agg [.bool x.1,.str x.2]) (.agg [.bool y.1,.str y.2]) with
   | some true=>some ((V.agg [.bool x.1,.str x.2],V.bool true) :: lV r)
   | some false=>(match kI (eN E 46) (.agg [.bool x.1,.str x.2]) (.bool true) (lV r) with
    | some r'=>some ((V.agg [.bool y.1,.str y.2],V.bool true) :: r')
    | none=>none)
   | none=>none) = _
  rw [qM h,DH h x r]
  by_cases hxy:x = y
  ·rw [decide_eq_true (show ((x.1,x.2):aL) = (y.1,y.2) from hxy)]
   subst hxy
   unfold jH
   rw [if_pos (mem_cons_self ..)]
   rfl
  ·rw [decide_eq_false (show ¬ ((x.1,x.2):aL) = (y.1,y.2) from hxy),Il y r x hxy]
   rfl
theorem Kz (h:dP E) (a:Bool) (s:List Nat):storeAt E (Z ++ [.cells 46 [.bool false,.str []] true]) 46 (.ref Z.length 0) (.agg [.bool a,.str s]) = some (Z ++ [.cells 46 [.bool a,.str s] true]):=by
 unfold storeAt
 simp only [h.eM]
 rw [getElem?_append_right (Nat.le_refl _),Nat.sub_self]
 refine (if_pos rfl).trans ?_
 rw [List.set_append_right _ _ (Nat.le_refl _),Nat.sub_self]
 rfl
theorem NG (h:dP E) (a:Bool) (s:List Nat):loadAt E (Z ++ [.cells 46 [.bool a,.str s] true]) 46 (.ref Z.length 0) = some (.agg [.bool a,.str s]):=by
 unfold loadAt
 simp only [h.eM]
 rw [getElem?_append_right (Nat.le_refl _),Nat.sub_self]
 rfl
theorem qG (h:dP E) {b m:Nat} (hb:Z[b]? = some (.cells 86 [.mp m] true)):loadAt E Z 82 (.ref b 0) = some (.mp m):=by
 unfold loadAt
 simp only [h.uN,hb]
 rfl
theorem EE (h:dP E) {m:Nat} {ks:List aL} (hm:Z[m]? = some (.map (lV ks))) (x:aL):mapUpdate E Z 82 (.mp m) (.agg [.bool x.1,.str x.2]) (.bool true) = some (Z.set m (.map (lV (jH ks x)))):=by
 unfold mapUpdate
 simp only [h.uN,qJ h,hm,DH h]
 rfl
theorem A5 (h:dP E) {m:Nat} {ks:List aL} (hm:Z[m]? = some (.map (lV ks))):lenOf E Z 82 (.mp m) = some ks.length:=by
 unfold lenOf
 simp only [h.uN,hm]
 simp [lV]
theorem Hr (h:dP E) {b m:Nat} {ks l:List aL} {v:V} {n0:Int} (hsm:l.length <= 10000000000) {σ0:Sg} {s:List kA} {Q:Ax.X -> Fr -> Sg -> Prop}
  (hQ:∀ (F':FT) (σ':Sg),bY σ' b m (keys ks l) -> Kp σ0 σ' m -> F'.get 0 = .ref b 0 -> F'.get 5 = .int .i64 n0 -> M E s .normal ⟨48,F'⟩ σ' Q) :
  ∀ (k i:Nat) (F:FT) (σ':Sg),i + k = l.length -> bY σ' b m (keys ks (l.take i)) -> SV σ' v l -> Kp σ0 σ' m -> F.get 0 = .ref b 0 -> F.get 5 = .int .i64 n0 -> F.get 27 = v -> F.get 28 = .int .i64 (l.length:Int) -> F.get 29 = .int .i64 (i:Int) ->
   R E (.loop (cutAt [1,1,1,1,0,1,2,2] (aA Tryz.f71).code)) (.blk 0 :: s) ⟨48,F⟩ σ' Q:=by
 have d9:=h.Ym
 simp only [aA,Tryz.f71,cutAt,Option.getD_some] at d9
 intro k
 induction k with
 | zero=>
  intro i F σ' hi hs hv hk g0 g5 g27 g28 g29
  have hlt:decide ((i:Int) < (l.length:Int)) = false:=decide_eq_false (by omega)
  rw [aF]
  simp only [aA,Tryz.f71,KP,↓reduceIte,reduceLT,cutAt,g28,g29,hlt]
  rw [take_of_length_le (by omega)] at hs
  refine hQ _ _ hs hk ?_ ?_ <;> simp only [FT.jN,g0,g5,↓reduceIte,reduceEqDiff,reduceCtorEq]
 | succ k ih=>
  intro i F σ' hi hs hv hk g0 g5 g27 g28 g29
  have hlt:decide ((i:Int) < (l.length:Int)) = true:=decide_eq_true (by omega)
  obtain ⟨x,hx⟩:∃ x,l[i]? = some x:=⟨_,List.getElem?_eq_getElem (by omega)⟩
  obtain ⟨pa,e1,e2⟩:=QM h hv hx
  have e2:=e2 _ (dK.refl _)
  have hadd:=Pd i (by omega)
  have lm:=qG h (jO hs.obj [.cells 46 [.bool x.1,.str x.2] true])
  have pm:=EE h (jO hs.map [.cells 46 [.bool x.1,.str x.2] true]) x
  rw [aF]
  simp only [aA,Tryz.f71,KP,↓reduceIte,reduceEqDiff,reduceLT,reduceCtorEq,h.eM,h.uN,h.uM,h.AG,cutAt,g0,g27,g28,g29,hlt,e1,e2,Kz h,NG h,lm,pm,aW d9,bS,hadd]
  have hml:=(List.getElem?_eq_some_iff.1 hs.map).1
  refine ih (i + 1) _ _ (by omega) ⟨?_,?_,?_⟩ ?_ ?_ ?_ ?_ ?_ ?_ ?_
  ·rw [getElem?_set_ne hs.ne.symm]
   exact jO hs.obj _
  ·rw [getElem?_set_self (by rw [length_append]; omega)]
   rw [take_add_one,hx]
   show some (O.map (lV (jH (keys ks (l.take i)) x))) = some (O.map (lV (List.foldl jH ks (l.take i ++ [x]))))
   rw [List.foldl_append]
   rfl
  ·rw [take_add_one,hx]
   show (List.foldl jH ks (l.take i ++ [x])).Nodup
   rw [List.foldl_append]
   exact Gu hs.nodup
  ·refine hv.keep fun j t cs ex e=>?_
   rw [getElem?_set_ne (fun hj=>by subst hj; rw [hs.map] at e; cases e)]
   exact jO e _
  ·refine hk.trans fun j o hj e=>?_
   rw [getElem?_set_ne (fun h=>hj h.symm)]
   exact jO e _
  all_goals simp only [FT.jN,g0,g5,g27,g28,↓reduceIte,reduceEqDiff,reduceCtorEq]
theorem RN (a b:Nat) (ha:a <= 1000000000000) (hb:b <= 1000000000000):wr .i64 ((a:Int) - (b:Int)) = (a:Int) - (b:Int):=by
 rw [yG,if_pos]
 rw [Bool.and_eq_true,decide_eq_true_eq,decide_eq_true_eq]
 exact ⟨show (-9223372036854775808:Int) <= _ by omega,show _ <= (9223372036854775807:Int) by omega⟩
theorem G7 (h:dP E) {b m:Nat} {ks l:List aL} {v:V} (hs:bY Z b m ks) (hv:SV Z v l) (hsm:l.length <= 10000000000) (hks:ks.length <= 10000000000) :
  aB E 71 [.ref b 0,v] Z fun r σ'=>r = .int .i64 (((keys ks l).length:Int) - (ks.length:Int)) /\ bY σ' b m (keys ks l) /\ Kp Z σ' m:=by
 rw [c_ h.WD h.Ub h.Xv h.VJ,aZ (by kernel_rfl)]
 have lm:=qG h hs.obj
 have lk:=A5 h hs.map
 have lv:lenOf E Z 40 v = some l.length:=SI h hv
 simp only [aA,Tryz.f71,KP,↓reduceIte,reduceEqDiff,reduceLT,reduceAdd,reduceCtorEq,h.sP,h.uN,h.uM,h.AG,lm,lk,lv,nC]
 refine Hr h hsm (σ0:=Z) (n0:=(ks.length:Int)) (fun F' σ' hs' hk' g0 g5=>?_) l.length 0 _ Z (by omega) hs hv (Kp.refl _ _) ?_ ?_ ?_ ?_ ?_
 ·have lm2:=qG h hs'.obj
  have lk2:=A5 h hs'.map
  have hl:=pF (xs:=l) (l:=ks)
  have hsub:=RN (keys ks l).length ks.length (by omega) (by omega)
  simp only [KP,↓reduceIte,reduceEqDiff,reduceLT,reduceCtorEq,h.uN,h.uM,h.AG,lm2,lk2,g0,g5,hsub]
  exact ⟨hs',hk'⟩
 all_goals simp only [FT.jN,KP,↓reduceIte,reduceEqDiff,reduceCtorEq]
 all_goals rfl
end
end
section
section
variable {E:Env} {Z:Sg} {K:V -> Sg -> Prop}
theorem NF (h:dP E) {b:Nat} (hb:Z[b]? = some (.cells 86 [.bU] true)):loadAt E Z 82 (.ref b 0) = some .bU:=by
 unfold loadAt
 simp only [h.uN,hb]
 rfl
theorem KA (h:dP E) {b m:Nat} {u:V} (hb:Z[b]? = some (.cells 86 [u] true)):storeAt E Z 82 (.ref b 0) (.mp m) = some (Z.set b (.cells 86 [.mp m] true)):=by
 unfold storeAt
 simp only [h.uN,hb]
 rfl
theorem ON (h:dP E) {b:Nat} {l:List aL} {v:V} (hb:Z[b]? = some (.cells 86 [.bU] true)) (hv:SV Z v l) (hsm:l.length <= 10000000000) :
  aB E 71 [.ref b 0,v] Z fun r σ'=>∃ m,bY σ' b m (keys [] l) /\ Z.length <= m /\ ∀ j o,j ≠ b -> Z[j]? = some o -> σ'[j]? = some o:=by
 rw [c_ h.WD h.Ub h.Xv h.VJ,aZ (by kernel_rfl)]
 have hbl:=(List.getElem?_eq_some_iff.1 hb).1
 have ln:=NF h hb
 have st:=KA h (m:=Z.length) (jO hb [.map []])
 have hs1:bY ((Z ++ [O.map []]).set b (.cells 86 [.mp Z.length] true)) b Z.length []:=by
  refine ⟨getElem?_set_self (by rw [length_append]; omega),?_,nodup_nil⟩
  rw [getElem?_set_ne (by omega),getElem?_append_right (Nat.le_refl _),Nat.sub_self]
  rfl
 have hk1:∀ j o,j ≠ b -> Z[j]? = some o -> ((Z ++ [O.map []]).set b (.cells 86 [.mp Z.length] true))[j]? = some o:=fun j o hj e=>by
  rw [getElem?_set_ne (fun e=>hj e.symm)]
  exact jO e _
 have hv1:SV ((Z ++ [O.map []]).set b (.cells 86 [.mp Z.length] true)) v l:=by
  rcases hv with hv | hv | ⟨j,cs,ex,e1,e2,e3⟩
  ·exact .inl hv
  ·exact .inr (.inl hv)
  ·refine .inr (.inr ⟨j,cs,ex,e1,hk1 j _ (fun e=>?_) e2,e3⟩)
   subst e; rw [hb] at e2; cases e2
 have lm:=qG h hs1.obj
 have lk:=A5 h hs1.map
 have lv:∀ σ',lenOf E σ' 40 v = some l.length:=fun σ'=>by
  unfold lenOf
  rw [h.oW]
  rcases hv with ⟨rfl,rfl⟩ | ⟨g,full,rfl⟩ | ⟨j,cs,ex,rfl,e2,e3⟩
  ·rfl
  ·simp
  ·rfl
 simp only [aA,Tryz.f71,KP,↓reduceIte,reduceEqDiff,reduceLT,reduceAdd,reduceCtorEq,h.sP,h.uN,h.uM,h.AG,ln,st,lm,lk,lv,nC]
 refine Hr h hsm (σ0:=(Z ++ [O.map []]).set b (.cells 86 [.mp Z.length] true)) (n0:=0) (fun F' σ' hs' hk' g0 g5=>?_) l.length 0 _ _ (by omega) hs1 hv1 (Kp.refl _ _) ?_ ?_ ?_ ?_ ?_
 ·have lm2:=qG h hs'.obj
  have lk2:=A5 h hs'.map
  simp only [KP,↓reduceIte,reduceEqDiff,reduceLT,reduceCtorEq,h.uN,h.uM,h.AG,lm2,lk2,g0,g5]
  refine ⟨Z.length,hs',Nat.le_refl _,fun j o hj e=>?_⟩
  have hjl:=(List.getElem?_eq_some_iff.1 e).1
  exact hk' j o (by omega) (hk1 j o hj e)
 all_goals simp only [FT.jN,KP,↓reduceIte,reduceEqDiff,reduceCtorEq]
 all_goals rfl
theorem OH (h:dP E) {l:List aL} {v:V} (hv:SV Z v l) (hsm:l.length <= 10000000000) :
  aB E 44 [v] Z fun r σ'=>∃ m,r = .ref Z.length 0 /\ bY σ' Z.length m (keys [] l) /\ Z.length < m /\ lA Z σ':=by
 rw [c_ h.hs44 h.sp44 h.fn44 h.md44,aZ (by kernel_rfl)]
 simp only [aA,Tryz.f44,KP,↓reduceIte,reduceEqDiff,reduceLT,reduceCtorEq,h.uM,h.AG,Ax.fill]
 have hb:(Z ++ [O.cells 86 [.bU] true])[Z.length]? = some (.cells 86 [.bU] true):=by
  rw [getElem?_append_right (Nat.le_refl _),Nat.sub_self]; rfl
 refine aN (ON h hb (hv.keep (dK.app _ _)) hsm) ?_
 rintro r σ' ⟨m,hs,hm,hk⟩
 simp only [KP,↓reduceIte,reduceEqDiff,reduceLT]
 rw [length_append] at hm
 refine ⟨m,hs,by simp at hm; omega,fun j o e=>?_⟩
 have hjl:=(List.getElem?_eq_some_iff.1 e).1
 exact hk j o (by omega) (jO e _)
theorem Du (ks:List aL):(lV ks).map (fun (e:V × V)=>rowOf e.1) = ks.map row:=by
 unfold lV
 rw [map_map]
 rfl
theorem wC:∀ ks:List aL,(∀ k ∈ ks,k.2.length <= 9223372036854775807) -> allRows kP (ks.map row) = true
 | [],_=>rfl
 | k :: ks,hk=>by
  show (match Nat.ble k.2.length 9223372036854775807 with
   | true=>allRows kP (ks.map row)
   | false=>false) = true
  rw [Nat.ble_eq_true_of_le (hk k (mem_cons_self ..))]
  exact wC ks fun x hx=>hk x (mem_cons_of_mem _ hx)
theorem KD {ks:List aL} (hn:ks.Nodup) (hlen:ks.length <= 1000000) (hstr:∀ k ∈ ks,k.2.length <= 9223372036854775807) {j m:Nat} (hj:Z[j]? = some (.cells 82 [.mp m] true)) (hm:Z[m]? = some (.map (lV ks))) :
  kR 46 [129] [] 89 [.fn 129 [] [.ref j 0],.fn 89 [] []] Z = some (if ks = [] then (.aD,Z) else (.sl Z.length 0 ks.length none,Z ++ [.cells 46 ((setOf ks).flatMap row) false])):=by
 have hk:keysOf Z [129] [] (.fn 129 [] [.ref j 0]) = some (ks.map row):=by
  unfold keysOf
  simp only [hj]
  show (match Z[m]? with
   | some (.map es)=>some (es.map fun (e:V × V)=>rowOf e.1)
   | _=>none) = _
  rw [hm]
  exact congrArg some (Du ks)
 show pG 46 [129] [] kP qH (.fn 129 [] [.ref j 0]) Z = _
 unfold pG
 rw [hk]
 cases hks:ks with
 | nil=>rfl
 | cons k r=>
  have ha:=wC ks hstr
  have hs:=Dj hn
  rw [hks] at ha hs hlen
  rw [map_cons] at ha hs ⊢
  rw [if_neg (by simp)]
  show (match allRows kP (row k :: r.map row),Nat.ble (row k :: r.map row).length 1000000 with
   | true,true=>some (V.sl Z.length 0 (row k :: r.map row).length none,Z ++ [O.cells 46 (kE qH (row k :: r.map row)).flatten false])
   | _,_=>none) = _
  rw [ha,Nat.ble_eq_true_of_le (by simpa using hlen),hs,GN]
  simp
theorem TD (h:dP E) {m:Nat}:aB E 88 [.mp m] Z K = K (.fn 129 [] [.ref Z.length 0]) (Z ++ [.cells 82 [.mp m] true]):=by
 refine aB.of ?_
 rw [c_ h.WA h.T_ h.Xt h.VH,aZ (by kernel_rfl)]
 simp only [aA,Tryz.f88,KP,↓reduceIte,reduceEqDiff,reduceLT,h.uN]
theorem S7 (h:dP E) {m:Nat} {ops:Array Oper} {l:List Oper} {dst:Option Nat} {st:List kA} {Q:Ax.X -> Fr -> Sg -> Prop} {fr:Fr}:CQ E 88 [.mp m] Z dst fr ops l st Q = dB E ops l (some (dX fr dst (.fn 129 [] [.ref Z.length 0]),Z ++ [.cells 82 [.mp m] true])) st Q:=Oq fun _=>TD h
def Own (Z σ':Sg) (r:V) (l:List aL):Prop:=(r = .aD /\ l = []) \/ ∃ j,Z.length <= j /\ r = .sl j 0 l.length none /\ σ'[j]? = some (.cells 46 (l.flatMap row) false)
theorem Own.sv {Z σ':Sg} {r:V} {l:List aL} (h:Own Z σ' r l):SV σ' r l:=by
 rcases h with h | ⟨j,_,h1,h2⟩
 ·exact .inl h
 ·exact .inr (.inr ⟨j,_,_,h1,h2,take_of_length_le (by rw [pH]; exact Nat.le_refl _)⟩)
theorem YI (h:dP E) {b m:Nat} {ks:List aL} (hs:bY Z b m ks) (hlen:ks.length <= 1000000) (hstr:∀ k ∈ ks,k.2.length <= 9223372036854775807) :
  aB E 50 [.ref b 0] Z fun r σ'=>Own Z σ' r (setOf ks) /\ lA Z σ':=by
 rw [c_ h.WE h.Uc h.Xw h.VK,aZ (by kernel_rfl)]
 have lm:=qG h hs.obj
 simp only [aA,Tryz.f50,KP,↓reduceIte,reduceLT,reduceCtorEq,h.uN,h.uM,h.I4,lm,nC,S7 h]
 have hj:(Z ++ [O.cells 82 [.mp m] true])[Z.length]? = some (.cells 82 [.mp m] true):=by
  rw [getElem?_append_right (Nat.le_refl _),Nat.sub_self]; rfl
 have hsk:=KD hs.nodup hlen hstr hj (jO hs.map _)
 unfold CQ
 rw [nJ h.WB,hsk]
 by_cases hks:ks = []
 ·rw [if_pos hks,GI]
  simp only [KP,↓reduceIte,reduceLT]
  subst hks
  exact ⟨.inl ⟨rfl,rfl⟩,lA.app _ _⟩
 ·rw [if_neg hks,GI]
  simp only [KP,↓reduceIte,reduceLT]
  refine ⟨.inr ⟨_,?_,by rw [wN hs.nodup],?_⟩,fun j o e=>jO (jO e _) _⟩
  ·rw [length_append]; omega
  ·rw [getElem?_append_right (Nat.le_refl _),Nat.sub_self]; rfl
end
end
section
section
variable {E:Env} {Z:Sg} {K:V -> Sg -> Prop}
theorem Gj {α:Type} {f:α -> Option α}:∀ l:List α,(∀ x ∈ l,f x = some x) -> aX f l = some l
 | [],_=>rfl
 | x :: l,h=>by rw [aX,h x (mem_cons_self ..),Gj l fun y hy=>h y (mem_cons_of_mem _ hy)]
theorem BR (h:dP E) (x:aL):∀ ks:List aL,iN (eN E 46) (.agg [.bool x.1,.str x.2]) (lV ks) = some (if x ∈ ks then some (.bool true) else none)
 | []=>rfl
 | y :: r=>by
  show (match eN E 46 (.agg [.bool x.1,.str x.2]) (.agg [.bool y.1,.str y.2]) with
   | some true=>some (some (V.bool true))
   | some false=>iN (eN E 46) (.agg [.bool x.1,.str x.2]) (lV r)
   | none=>none) = _
  rw [qM h,BR h x r]
  by_cases hxy:x = y
  ·rw [decide_eq_true (show ((x.1,x.2):aL) = (y.1,y.2) from hxy)]
   show some (some (V.bool true)) = some (if x ∈ y :: r then some (V.bool true) else none)
   rw [if_pos (by rw [hxy]; exact mem_cons_self ..)]
  ·rw [decide_eq_false (show ¬ ((x.1,x.2):aL) = (y.1,y.2) from hxy)]
   by_cases hx:x ∈ r
   ·rw [if_pos hx,if_pos (mem_cons_of_mem _ hx)]
   ·rw [if_neg hx,if_neg (by simp [hxy,hx])]
structure UnionE (E:Env):Prop where
 hs:E.hspec 46 = none
 sp:E.spec 46 = none
 fn:E.fn 46 = some (aA Tryz.f46)
 md:E.mode 46 = .shared
end
end
end Go.Proofs.YtlbbdpkjeeiahaaGreatDoor.Lb
end
section
namespace Go.Proofs.YtlbbdpkjeeiahaaGreatDoor
open Go Go.Ax Go.AxS
section
section
variable {E:Env} {Z:Sg} {K:V -> Sg -> Prop}
structure cW where
 key:aL
 s:Nat
 m:Nat
 ks:List aL
def oI (x:aL):V:=.agg [.bool x.1,.str x.2]
def nO (e:cW):V × V:=(oI e.key,.ref e.s 0)
structure iH (Z:Sg) (b:Nat) (L:List cW):Prop where
 map:Z[b]? = some (.map (L.map nO))
 sets:∀ e ∈ L,Lb.bY Z e.s e.m e.ks
 nodup:(L.map cW.key).Nodup
theorem BS (hl:Lb.dP E) (x:aL):∀ L:List cW,iN (eN E 46) (oI x) (L.map nO) = some ((L.find? fun e=>decide (x = e.key)).map fun e=>.ref e.s 0)
 | []=>rfl
 | e :: L=>by
  show (match eN E 46 (.agg [.bool x.1,.str x.2]) (.agg [.bool e.key.1,.str e.key.2]) with
   | some true=>some (some (V.ref e.s 0))
   | some false=>iN (eN E 46) (oI x) (L.map nO)
   | none=>none) = _
  rw [Lb.qM hl,find?_cons]
  by_cases h:x = e.key
  ·rw [decide_eq_true (show ((x.1,x.2):aL) = (e.key.1,e.key.2) from h)]; rfl
  ·rw [decide_eq_false (show ¬ ((x.1,x.2):aL) = (e.key.1,e.key.2) from h)]
   exact BS hl x L
theorem DI (hl:Lb.dP E) (x:aL) (s m:Nat) (ks:List aL):∀ L:List cW,(∀ e ∈ L,x ≠ e.key) -> kI (eN E 46) (oI x) (.ref s 0) (L.map nO) = some ((L ++ [cW.mk x s m ks]).map nO)
 | [],_=>rfl
 | e :: L,h=>by
  have hx:=h e (mem_cons_self ..)
  show (match eN E 46 (.agg [.bool x.1,.str x.2]) (.agg [.bool e.key.1,.str e.key.2]) with
   | some true=>some ((oI x,V.ref s 0) :: L.map nO)
   | some false=>(match kI (eN E 46) (oI x) (.ref s 0) (L.map nO) with
    | some r=>some (nO e :: r)
    | none=>none)
   | none=>none) = _
  rw [Lb.qM hl,decide_eq_false (show ¬ ((x.1,x.2):aL) = (e.key.1,e.key.2) from hx),DI hl x s m ks L fun y hy=>h y (mem_cons_of_mem _ hy)]
  rfl
def bL (L:List cW) (x:aL):Option cW:=L.find? fun e=>decide (x = e.key)
theorem DP (h':sD E) (hl:Lb.dP E) {Z:Sg} {b:Nat} {L:List cW} (hm:Z[b]? = some (.map (L.map nO))) (x:aL):lookup E Z 105 (.mp b) (oI x) false = some (match bL L x with | some e=>.ref e.s 0 | none=>.fP):=by
 have hk:=Lb.qJ hl x.1 x.2
 unfold Ax.lookup
 simp only [h'.nW,hl.sP,oI,hk,entriesOf,hm,Bool.not_true,Bool.false_eq_true,if_false]
 have:=BS hl x L
 unfold oI at this
 rw [this]
 unfold bL
 cases L.find? fun e=>decide (x = e.key) <;> rfl
theorem xJ (h':sD E) (hl:Lb.dP E) {Z:Sg} {b:Nat} {L:List cW} (hm:iH Z b L) (x:aL):lookup E Z 105 (.mp b) (oI x) false = some (match bL L x with | some e=>.ref e.s 0 | none=>.fP):=DP h' hl hm.map x
theorem EE (h':sD E) (hl:Lb.dP E) {Z:Sg} {b:Nat} {L:List cW} (hm:iH Z b L) {x:aL} (hx:bL L x = none) {s m:Nat} {ks:List aL}:mapUpdate E Z 105 (.mp b) (oI x) (.ref s 0) = some (Z.set b (.map ((L ++ [cW.mk x s m ks]).map nO))):=by
 have hk:=Lb.qJ hl x.1 x.2
 have hne:∀ e ∈ L,x ≠ e.key:=fun e he hxe=>by
  have:=find?_eq_none.1 hx e he
  simp [hxe] at this
 have:=DI hl x s m ks L hne
 unfold oI at this
 unfold Ax.mapUpdate
 simp only [h'.nW,oI,hk,hm.map,this,eX,V.a_,Bool.not_true,Bool.or_self,Bool.false_eq_true,if_false,Option.map_some]
end
end
section
section
variable {E:Env} {Z:Sg} {K:V -> Sg -> Prop}
theorem bY.keep {Z σ':Sg} {s m x:Nat} {ks:List aL} {es:List (V × V)} (h:Lb.bY Z s m ks) (hx:Z[x]? = some (.map es)) (hm:m ≠ x) (k:∀ (j:Nat) (o:O),j ≠ x -> Z[j]? = some o -> σ'[j]? = some o):Lb.bY σ' s m ks:=by
 refine ⟨k _ _ (fun e=>?_) h.obj,k _ _ hm h.map,h.nodup⟩
 have:=h.obj
 rw [e,hx] at this
 cases this
theorem iH.keep {Z σ':Sg} {b x:Nat} {L:List cW} {es:List (V × V)} (h:iH Z b L) (hx:Z[x]? = some (.map es)) (hb:b ≠ x) (hm:x ∉ L.map cW.m) (k:∀ (j:Nat) (o:O),j ≠ x -> Z[j]? = some o -> σ'[j]? = some o):iH σ' b L:=
 ⟨k _ _ hb h.map,fun e he=>bY.keep (h.sets e he) hx (fun e'=>hm (mem_map.2 ⟨e,he,e'⟩)) k,h.nodup⟩
def pA (L:List cW) (x:aL) (ks:List aL):List cW:=L.map fun e=>if e.key = x then { e with ks:=ks } else e
theorem Kw (L:List cW) (x:aL) (ks:List aL):(pA L x ks).map nO = L.map nO:=by
 unfold pA
 rw [map_map]
 refine List.map_congr_left fun e _=>?_
 show nO (if e.key = x then _ else e) = nO e
 by_cases h:e.key = x
 ·rw [if_pos h]; rfl
 ·rw [if_neg h]
theorem Dd (L:List cW) (x:aL) (ks:List aL):(pA L x ks).map cW.key = L.map cW.key:=by
 unfold pA
 rw [map_map]
 refine List.map_congr_left fun e _=>?_
 show cW.key (if e.key = x then _ else e) = e.key
 by_cases h:e.key = x
 ·rw [if_pos h]
 ·rw [if_neg h]
theorem I2 (L:List cW) (x:aL) (ks:List aL):(pA L x ks).map cW.m = L.map cW.m:=by
 unfold pA
 rw [map_map]
 refine List.map_congr_left fun e _=>?_
 show cW.m (if e.key = x then _ else e) = e.m
 by_cases h:e.key = x
 ·rw [if_pos h]
 ·rw [if_neg h]
theorem yZ {β:Type} {f:cW -> β}:∀ {L:List cW},(L.map f).Nodup -> ∀ e ∈ L,∀ e' ∈ L,f e = f e' -> e = e'
 | [],_,e,he,_,_,_=>by cases he
 | a :: L,h,e,he,e',he',hm=>by
  rw [map_cons,nodup_cons] at h
  rcases mem_cons.1 he with h1 | h1 <;> rcases mem_cons.1 he' with h2 | h2
  ·rw [h1,h2]
  ·exact absurd (mem_map.2 ⟨e',h2,by rw [<- hm,h1]⟩) h.1
  ·exact absurd (mem_map.2 ⟨e,h1,by rw [hm,h2]⟩) h.1
  ·exact yZ h.2 e h1 e' h2 hm
theorem iH.up {Z σ':Sg} {b:Nat} {L:List cW} {e:cW} {ks:List aL} (h:iH Z b L) (he:e ∈ L) (hnd:(L.map cW.m).Nodup) (hb:b ≠ e.m) (hs:Lb.bY σ' e.s e.m ks) (k:∀ (j:Nat) (o:O),j ≠ e.m -> Z[j]? = some o -> σ'[j]? = some o):iH σ' b (pA L e.key ks):=by
 refine ⟨by rw [Kw]; exact k _ _ hb h.map,fun a ha=>?_,by rw [Dd]; exact h.nodup⟩
 obtain ⟨a0,ha0,rfl⟩:=mem_map.1 ha
 by_cases hk:a0.key = e.key
 ·have hae:a0 = e:=yZ h.nodup a0 ha0 e he hk
  subst hae
  rw [if_pos rfl]
  exact hs
 ·rw [if_neg hk]
  exact bY.keep (h.sets a0 ha0) (h.sets e he).map (fun e'=>hk (by rw [yZ hnd a0 ha0 e he e'])) k
structure m_ (E:Env) (Z:Sg) (gb m0 m1 sa ma b3 b4:Nat) (es0 es1:List (V × V)) (A:List aL) (L3 L4:List cW):Prop where
 g:Z[gb]? = some (.cells 107 [.mp m0,.mp m1,.ref sa 0,.mp b3,.mp b4] true)
 rules:Z[m0]? = some (.map es0)
 jG:Z[m1]? = some (.map es1)
 all:Lb.bY Z sa ma A
 jF:iH Z b3 L3
 iZ:iH Z b4 L4
 sep:(m0 :: m1 :: ma :: b3 :: b4 :: (L3.map cW.m ++ L4.map cW.m)).Nodup
end
end
section
section
variable {E:Env} {Z:Sg} {K:V -> Sg -> Prop}
theorem bY.app {Z:Sg} {s m:Nat} {ks:List aL} (h:Lb.bY Z s m ks) (y:O):Lb.bY (Z ++ [y]) s m ks:=⟨aM h.obj,aM h.map,h.nodup⟩
theorem iH.app {Z:Sg} {b:Nat} {L:List cW} (h:iH Z b L) (y:O):iH (Z ++ [y]) b L:=⟨aM h.map,fun e he=>bY.app (h.sets e he) y,h.nodup⟩
theorem m_.app {{Z:Sg}} {{gb m0 m1 sa ma b3 b4:Nat}} {{es0 es1:List (V × V)}} {{A:List aL}} {{L3 L4:List cW}} (h:m_ E Z gb m0 m1 sa ma b3 b4 es0 es1 A L3 L4) (y:O):m_ E (Z ++ [y]) gb m0 m1 sa ma b3 b4 es0 es1 A L3 L4:=
 ⟨aM h.g,aM h.rules,aM h.jG,bY.app h.all y,h.jF.app y,h.iZ.app y,h.sep⟩
theorem m_.more {{Z σ':Sg}} {{gb m0 m1 sa ma b3 b4:Nat}} {{es0 es1:List (V × V)}} {{A:List aL}} {{L3 L4:List cW}} (h:m_ E Z gb m0 m1 sa ma b3 b4 es0 es1 A L3 L4) {A':List aL} (hs:Lb.bY σ' sa ma A') (k:∀ (j:Nat) (o:O),j ≠ ma -> Z[j]? = some o -> σ'[j]? = some o):m_ E σ' gb m0 m1 sa ma b3 b4 es0 es1 A' L3 L4:=by
 have sep:=h.sep
 simp only [nodup_cons,mem_cons,mem_append,not_or] at sep
 obtain ⟨⟨-,n0,-⟩,⟨n1,-⟩,⟨n3,n4,n5,n6⟩,-⟩:=sep
 have hx:=h.all.map
 have ng:gb ≠ ma:=fun e=>by
  have:=h.g
  rw [e,hx] at this
  cases this
 exact ⟨k _ _ ng h.g,k _ _ n0 h.rules,k _ _ n1 h.jG,hs,h.jF.keep hx (fun e=>n3 e.symm) n5 k,h.iZ.keep hx (fun e=>n4 e.symm) n6 k,h.sep⟩
theorem m_.rule {{Z:Sg}} {{gb m0 m1 sa ma b3 b4:Nat}} {{es0 es1:List (V × V)}} {{A:List aL}} {{L3 L4:List cW}} (h:m_ E Z gb m0 m1 sa ma b3 b4 es0 es1 A L3 L4) (es:List (V × V)):m_ E (Z.set m0 (.map es)) gb m0 m1 sa ma b3 b4 es es1 A L3 L4:=by
 have sep:=h.sep
 simp only [nodup_cons,mem_cons,mem_append,not_or] at sep
 obtain ⟨⟨n1,na,n3,n4,n5,n6⟩,-⟩:=sep
 have hx:=h.rules
 have ng:gb ≠ m0:=fun e=>by
  have:=h.g
  rw [e,hx] at this
  cases this
 have k:∀ (j:Nat) (o:O),j ≠ m0 -> Z[j]? = some o -> (Z.set m0 (.map es))[j]? = some o:=fun j o hj ho=>by
  rw [getElem?_set_ne (Ne.symm hj)]; exact ho
 exact ⟨k _ _ ng h.g,getElem?_set_self (List.getElem?_eq_some_iff.1 hx).1,k _ _ (Ne.symm n1) h.jG,bY.keep h.all hx (Ne.symm na) k,h.jF.keep hx (Ne.symm n3) n5 k,h.iZ.keep hx (Ne.symm n4) n6 k,h.sep⟩
theorem m_.Ny {{Z:Sg}} {{gb m0 m1 sa ma b3 b4:Nat}} {{es0 es1:List (V × V)}} {{A:List aL}} {{L3 L4:List cW}} (h:m_ E Z gb m0 m1 sa ma b3 b4 es0 es1 A L3 L4) (es:List (V × V)):m_ E (Z.set m1 (.map es)) gb m0 m1 sa ma b3 b4 es0 es A L3 L4:=by
 have sep:=h.sep
 simp only [nodup_cons,mem_cons,mem_append,not_or] at sep
 obtain ⟨⟨n1,-⟩,⟨na,n3,n4,n5,n6⟩,-⟩:=sep
 have hx:=h.jG
 have ng:gb ≠ m1:=fun e=>by
  have:=h.g
  rw [e,hx] at this
  cases this
 have k:∀ (j:Nat) (o:O),j ≠ m1 -> Z[j]? = some o -> (Z.set m1 (.map es))[j]? = some o:=fun j o hj ho=>by
  rw [getElem?_set_ne (Ne.symm hj)]; exact ho
 exact ⟨k _ _ ng h.g,k _ _ n1 h.rules,getElem?_set_self (List.getElem?_eq_some_iff.1 hx).1,bY.keep h.all hx (Ne.symm na) k,h.jF.keep hx (Ne.symm n3) n5 k,h.iZ.keep hx (Ne.symm n4) n6 k,h.sep⟩
end
end
section
section
variable {E:Env} {Z:Sg} {K:V -> Sg -> Prop}
theorem m_.facts {Z:Sg} {gb m0 m1 sa ma b3 b4:Nat} {es0 es1:List (V × V)} {A:List aL} {L3 L4:List cW} (h:m_ E Z gb m0 m1 sa ma b3 b4 es0 es1 A L3 L4):(L3.map cW.m).Nodup /\ (L4.map cW.m).Nodup /\ ∀ x,x ∈ L3.map cW.m \/ x ∈ L4.map cW.m -> m0 ≠ x /\ m1 ≠ x /\ ma ≠ x /\ b3 ≠ x /\ b4 ≠ x:=by
 have sep:=h.sep
 simp only [nodup_cons,mem_cons,mem_append,not_or,nodup_append] at sep
 obtain ⟨⟨-,-,-,-,a5,a6⟩,⟨-,-,-,b5,b6⟩,⟨-,-,c5,c6⟩,⟨-,d5,d6⟩,⟨e5,e6⟩,f1,f2,-⟩:=sep
 refine ⟨f1,f2,fun x hx=>?_⟩
 rcases hx with hx | hx
 ·exact ⟨fun e=>a5 (by rw [e]; exact hx),fun e=>b5 (by rw [e]; exact hx),fun e=>c5 (by rw [e]; exact hx),fun e=>d5 (by rw [e]; exact hx),fun e=>e5 (by rw [e]; exact hx)⟩
 ·exact ⟨fun e=>a6 (by rw [e]; exact hx),fun e=>b6 (by rw [e]; exact hx),fun e=>c6 (by rw [e]; exact hx),fun e=>d6 (by rw [e]; exact hx),fun e=>e6 (by rw [e]; exact hx)⟩
theorem m_.RE {Z:Sg} {gb m0 m1 sa ma b3 b4:Nat} {es0 es1:List (V × V)} {A:List aL} {L3 L4:List cW} (h:m_ E Z gb m0 m1 sa ma b3 b4 es0 es1 A L3 L4):∀ x ∈ L3.map cW.m,x ∉ L4.map cW.m:=by
 have sep:=h.sep
 simp only [nodup_cons,mem_cons,mem_append,not_or,nodup_append] at sep
 obtain ⟨-,-,-,-,-,-,-,f3⟩:=sep
 exact fun x hx hy=>f3 x hx x hy rfl
theorem m_.Nn {{Z σ':Sg}} {{gb m0 m1 sa ma b3 b4:Nat}} {{es0 es1:List (V × V)}} {{A:List aL}} {{L3 L4:List cW}} (h:m_ E Z gb m0 m1 sa ma b3 b4 es0 es1 A L3 L4) {e:cW} (he:e ∈ L3) {ks:List aL} (hs:Lb.bY σ' e.s e.m ks) (k:∀ (j:Nat) (o:O),j ≠ e.m -> Z[j]? = some o -> σ'[j]? = some o):m_ E σ' gb m0 m1 sa ma b3 b4 es0 es1 A (pA L3 e.key ks) L4:=by
 obtain ⟨f1,f2,f3⟩:=h.facts
 have hm:e.m ∈ L3.map cW.m:=mem_map.2 ⟨e,he,rfl⟩
 obtain ⟨n1,n2,n3,n4,n5⟩:=f3 e.m (Or.inl hm)
 have hx:=(h.jF.sets e he).map
 have ng:gb ≠ e.m:=fun e'=>by
  have:=h.g
  rw [e',hx] at this
  cases this
 have nb:=n4
 exact ⟨k _ _ ng h.g,k _ _ n1 h.rules,k _ _ n2 h.jG,bY.keep h.all hx n3 k,iH.up h.jF he f1 nb hs k,h.iZ.keep hx n5 (fun hx'=>h.RE _ hm hx') k,by rw [I2]; exact h.sep⟩
theorem m_.L_ {{Z σ':Sg}} {{gb m0 m1 sa ma b3 b4:Nat}} {{es0 es1:List (V × V)}} {{A:List aL}} {{L3 L4:List cW}} (h:m_ E Z gb m0 m1 sa ma b3 b4 es0 es1 A L3 L4) {e:cW} (he:e ∈ L4) {ks:List aL} (hs:Lb.bY σ' e.s e.m ks) (k:∀ (j:Nat) (o:O),j ≠ e.m -> Z[j]? = some o -> σ'[j]? = some o):m_ E σ' gb m0 m1 sa ma b3 b4 es0 es1 A L3 (pA L4 e.key ks):=by
 obtain ⟨f1,f2,f3⟩:=h.facts
 have hm:e.m ∈ L4.map cW.m:=mem_map.2 ⟨e,he,rfl⟩
 obtain ⟨n1,n2,n3,n4,n5⟩:=f3 e.m (Or.inr hm)
 have hx:=(h.iZ.sets e he).map
 have ng:gb ≠ e.m:=fun e'=>by
  have:=h.g
  rw [e',hx] at this
  cases this
 have nb:=n5
 exact ⟨k _ _ ng h.g,k _ _ n1 h.rules,k _ _ n2 h.jG,bY.keep h.all hx n3 k,h.jF.keep hx n4 (fun hx'=>h.RE _ hx' hm) k,iH.up h.iZ he f2 nb hs k,by rw [I2]; exact h.sep⟩
end
end
section
section
variable {E:Env} {Z:Sg} {K:V -> Sg -> Prop}
theorem iH.jZ {Z σ1:Sg} {b:Nat} {L:List cW} (h:iH Z b L) (k:Lb.lA Z σ1):iH σ1 b L:=⟨k _ _ h.map,fun e he=>⟨k _ _ (h.sets e he).obj,k _ _ (h.sets e he).map,(h.sets e he).nodup⟩,h.nodup⟩
theorem m_.jZ {{Z σ1:Sg}} {{gb m0 m1 sa ma b3 b4:Nat}} {{es0 es1:List (V × V)}} {{A:List aL}} {{L3 L4:List cW}} (h:m_ E Z gb m0 m1 sa ma b3 b4 es0 es1 A L3 L4) (k:Lb.lA Z σ1):m_ E σ1 gb m0 m1 sa ma b3 b4 es0 es1 A L3 L4:=
 ⟨k _ _ h.g,k _ _ h.rules,k _ _ h.jG,⟨k _ _ h.all.obj,k _ _ h.all.map,h.all.nodup⟩,h.jF.jZ k,h.iZ.jZ k,h.sep⟩
theorem m_.below {Z:Sg} {gb m0 m1 sa ma b3 b4:Nat} {es0 es1:List (V × V)} {A:List aL} {L3 L4:List cW} (h:m_ E Z gb m0 m1 sa ma b3 b4 es0 es1 A L3 L4) {m:Nat} (hm:Z.length <= m):m ∉ m0 :: m1 :: ma :: b3 :: b4 :: (L3.map cW.m ++ L4.map cW.m):=by
 have lt:∀ {i:Nat} {o:O},Z[i]? = some o -> i < m:=fun e=>Nat.lt_of_lt_of_le (List.getElem?_eq_some_iff.1 e).1 hm
 have h0:=lt h.rules
 have h1:=lt h.jG
 have h2:=lt h.all.map
 have h3:=lt h.jF.map
 have h4:=lt h.iZ.map
 intro hx
 simp only [mem_cons,mem_append,mem_map] at hx
 rcases hx with e | e | e | e | e | ⟨e,he,e'⟩ | ⟨e,he,e'⟩
 ·omega
 ·omega
 ·omega
 ·omega
 ·omega
 ·have:=lt (h.jF.sets e he).map; omega
 ·have:=lt (h.iZ.sets e he).map; omega
theorem iH.new {Z:Sg} {b:Nat} {L:List cW} {x:aL} {s m:Nat} (h:iH Z b L) (hx:bL L x = none) (hs:Lb.bY Z s m []) (hb:b ∉ L.map cW.m) (hm:m ≠ b):iH (Z.set b (.map ((L ++ [cW.mk x s m []]).map nO))) b (L ++ [cW.mk x s m []]):=by
 have k:∀ (j:Nat) (o:O),j ≠ b -> Z[j]? = some o -> (Z.set b (.map ((L ++ [cW.mk x s m []]).map nO)))[j]? = some o:=fun j o hj ho=>by
  rw [getElem?_set_ne (Ne.symm hj)]; exact ho
 refine ⟨getElem?_set_self (List.getElem?_eq_some_iff.1 h.map).1,fun e he=>?_,?_⟩
 ·rcases mem_append.1 he with he | he
  ·exact bY.keep (h.sets e he) h.map (fun e'=>hb (mem_map.2 ⟨e,he,e'⟩)) k
  ·rw [mem_singleton.1 he]
   exact bY.keep hs h.map hm k
 ·rw [map_append,nodup_append]
  refine ⟨h.nodup,by simp,fun y hy z hz e=>?_⟩
  obtain ⟨a,ha,rfl⟩:=mem_map.1 hy
  have hz:z = x:=by simpa using hz
  have:=find?_eq_none.1 hx a ha
  simp [<- hz,<- e] at this
theorem m_.PN {{Z σ1:Sg}} {{gb m0 m1 sa ma b3 b4:Nat}} {{es0 es1:List (V × V)}} {{A:List aL}} {{L3 L4:List cW}} (h:m_ E Z gb m0 m1 sa ma b3 b4 es0 es1 A L3 L4) {x:aL} (hx:bL L3 x = none) {s m:Nat} (k1:Lb.lA Z σ1) (hs:Lb.bY σ1 s m []) (hm:Z.length <= m):m_ E (σ1.set b3 (.map ((L3 ++ [cW.mk x s m []]).map nO))) gb m0 m1 sa ma b3 b4 es0 es1 A (L3 ++ [cW.mk x s m []]) L4:=by
 have h1:=h.jZ k1
 have fresh:=h.below hm
 have hx1:=h1.jF.map
 have sep:=h.sep
 simp only [nodup_cons,mem_cons,mem_append,not_or] at sep
 obtain ⟨⟨-,-,a3,-⟩,⟨-,b3',-⟩,⟨c3,-⟩,⟨n3,n4,n5⟩,-⟩:=sep
 have hmb:m ≠ b3:=fun e=>fresh (by rw [e]; simp)
 have new:=iH.new h1.jF hx hs n4 hmb
 have ng:gb ≠ b3:=fun e=>by
  have:=h1.g
  rw [e,hx1] at this
  cases this
 have k:∀ (j:Nat) (o:O),j ≠ b3 -> σ1[j]? = some o -> (σ1.set b3 (.map ((L3 ++ [cW.mk x s m []]).map nO)))[j]? = some o:=fun j o hj ho=>by
  rw [getElem?_set_ne (Ne.symm hj)]; exact ho
 have hp:(m0 :: m1 :: ma :: b3 :: b4 :: ((L3 ++ [cW.mk x s m []]).map cW.m ++ L4.map cW.m)).Perm (m :: (m0 :: m1 :: ma :: b3 :: b4 :: (L3.map cW.m ++ L4.map cW.m))):=by simpa using List.perm_middle (l₁:=m0 :: m1 :: ma :: b3 :: b4 :: L3.map cW.m) (a:=m) (l₂:=L4.map cW.m)
 exact ⟨k _ _ ng h1.g,k _ _ a3 h1.rules,k _ _ b3' h1.jG,bY.keep h1.all hx1 c3 k,new,h1.iZ.keep hx1 (fun e=>n3 e.symm) n5 k,hp.nodup_iff.2 (nodup_cons.2 ⟨fresh,h.sep⟩)⟩
theorem m_.Pg {{Z σ1:Sg}} {{gb m0 m1 sa ma b3 b4:Nat}} {{es0 es1:List (V × V)}} {{A:List aL}} {{L3 L4:List cW}} (h:m_ E Z gb m0 m1 sa ma b3 b4 es0 es1 A L3 L4) {x:aL} (hx:bL L4 x = none) {s m:Nat} (k1:Lb.lA Z σ1) (hs:Lb.bY σ1 s m []) (hm:Z.length <= m):m_ E (σ1.set b4 (.map ((L4 ++ [cW.mk x s m []]).map nO))) gb m0 m1 sa ma b3 b4 es0 es1 A L3 (L4 ++ [cW.mk x s m []]):=by
 have h1:=h.jZ k1
 have fresh:=h.below hm
 have hx1:=h1.iZ.map
 have sep:=h.sep
 simp only [nodup_cons,mem_cons,mem_append,not_or] at sep
 obtain ⟨⟨-,-,-,a3,-⟩,⟨-,-,b3',-⟩,⟨-,c3,-⟩,⟨n3,-,-⟩,⟨n4,n5⟩,-⟩:=sep
 have hmb:m ≠ b4:=fun e=>fresh (by rw [e]; simp)
 have new:=iH.new h1.iZ hx hs n5 hmb
 have ng:gb ≠ b4:=fun e=>by
  have:=h1.g
  rw [e,hx1] at this
  cases this
 have k:∀ (j:Nat) (o:O),j ≠ b4 -> σ1[j]? = some o -> (σ1.set b4 (.map ((L4 ++ [cW.mk x s m []]).map nO)))[j]? = some o:=fun j o hj ho=>by
  rw [getElem?_set_ne (Ne.symm hj)]; exact ho
 have hp:(m0 :: m1 :: ma :: b3 :: b4 :: (L3.map cW.m ++ (L4 ++ [cW.mk x s m []]).map cW.m)).Perm (m :: (m0 :: m1 :: ma :: b3 :: b4 :: (L3.map cW.m ++ L4.map cW.m))):=by simpa using List.perm_middle (l₁:=m0 :: m1 :: ma :: b3 :: b4 :: (L3.map cW.m ++ L4.map cW.m)) (a:=m) (l₂:=[])
 exact ⟨k _ _ ng h1.g,k _ _ a3 h1.rules,k _ _ b3' h1.jG,bY.keep h1.all hx1 c3 k,h1.jF.keep hx1 n3 n4 k,new,hp.nodup_iff.2 (nodup_cons.2 ⟨fresh,h.sep⟩)⟩
end
end
section
section
variable {E:Env} {Z:Sg} {K:V -> Sg -> Prop}
theorem Wt (h:bM E) (h':sD E) (hl:Lb.dP E) {Y:Sg} {{gb m0 m1 sa ma b3 b4:Nat}} {{es0 es1:List (V × V)}} {{A:List aL}} {{L3 L4:List cW}} (ga:m_ E Y gb m0 m1 sa ma b3 b4 es0 es1 A L3 L4) {x y:aL} {n0 n1:Nat} (hx:Y[n0]? = some (O.cells 46 [.bool x.1,.str x.2] true)) (hy:Y[n1]? = some (O.cells 46 [.bool y.1,.str y.2] true)) (hA:A.length <= 1000000) (F:FT) (g0:F.get 0 = .ref gb 0) (g4:F.get 4 = .ref n0 0) (g5:F.get 5 = .ref n1 0) {st:List kA} {Q:Ax.X -> Fr -> Sg -> Prop}
  (hk:∀ F' τ',(∀ k,k ∈ [0,4,5] -> F'.get k = F.get k) -> m_ E τ' gb m0 m1 sa ma b3 b4 es0 es1 (keys A [x,y]) L3 L4 -> τ'[n0]? = some (O.cells 46 [.bool x.1,.str x.2] true) -> τ'[n1]? = some (O.cells 46 [.bool y.1,.str y.2] true) -> Lb.dK Y τ' -> M E st .normal ⟨57,F'⟩ τ' Q):Ax.R E (.region 1 (opsOf (cutAt [1,0] (aA Tryz.f73).code)) true) st ⟨57,F⟩ Y Q:=by
 have ga1:=ga.app (O.cells 46 [.bool x.1,.str x.2,.bool y.1,.str y.2] true)
 have hx1:=aM (x:=O.cells 46 [.bool x.1,.str x.2,.bool y.1,.str y.2] true) hx
 have hy1:=aM (x:=O.cells 46 [.bool x.1,.str x.2,.bool y.1,.str y.2] true) hy
 have hsv:Lb.SV (Y ++ [O.cells 46 [.bool x.1,.str x.2,.bool y.1,.str y.2] true]) (.sl Y.length 0 2 none) [x,y]:=.inr (.inr ⟨Y.length,_,true,rfl,aP,rfl⟩)
 obtain ⟨n,r,τ2,hcall,hr,hset,hkp⟩:=Lb.G7 hl ga1.all hsv (show 2 <= 10000000000 by omega) (by omega)
 have ga2:=ga1.more hset hkp
 have hma:=ga1.all.map
 have ne:∀ {k:Nat} {t:Nat} {cs:List V} {ex:Bool},(Y ++ [O.cells 46 [.bool x.1,.str x.2,.bool y.1,.str y.2] true])[k]? = some (.cells t cs ex) -> k ≠ ma:=fun hk e=>by
  rw [e,hma] at hk
  cases hk
 have hx2:=hkp _ _ (ne hx1) hx1
 have hy2:=hkp _ _ (ne hy1) hy1
 have g:=ga.g
 have g1:=ga1.g
 have vr:qV 12 (.ref sa 0) (.ref sa 0) = true:=by unfold qV; simp
 have key:∃ F',cE E (ev E n) (opsOf (cutAt [1,0] (aA Tryz.f73).code)) ⟨57,F⟩ Y = some (⟨57,F'⟩,τ2) /\ (∀ k,k ∈ [0,4,5] -> F'.get k = F.get k):=by
  unfold cE
  rw [h'.T1,h'.Vu]
  simp only [aA,Tryz.f73,KP,Ax.loadAt,↓reduceIte,reduceEqDiff,reduceLT,reduceLeDiff,reduceAdd,reduceMul,reduceCtorEq,h.oW,h.eM,opsOf,cutAt,Fz.lits,gZ,bJ,bX,jV,Ax.comp,Ax.last,hU,Ax.again,Ax.fill,gU,Nat.zero_mul,hl.sP,h'.pB,g0,g4,g5,hx,hy,g,g1,hcall,vr]
  refine ⟨_,rfl,fun k hk=>?_⟩
  simp only [mem_cons,List.not_mem_nil,or_false] at hk
  rcases hk with rfl | rfl | rfl <;> simp +decide only [GS]
 obtain ⟨F',hD,hF⟩:=key
 exact Eq.mpr (gY hD) (hk F' τ2 hF ga2 hx2 hy2 ((Lb.dK.app Y _).trans (Lb.Kp.tH hkp hma)))
end
end
section
section
variable {E:Env} {Z:Sg} {K:V -> Sg -> Prop}
theorem fQ {L:List cW} {x:aL} {e:cW} (h:bL L x = some e):e ∈ L /\ x = e.key:=by
 unfold bL at h
 exact ⟨List.mem_of_find?_eq_some h,by have:=find?_some h; simpa using this⟩
theorem JI (h:bM E) (h':sD E) (hl:Lb.dP E) {Y:Sg} {nb mb:Nat} {L:List cW} {x y:aL} {e:cW} (hm:iH Y mb L) (he:bL L x = some e) (hb:Y[nb]? = some (O.cells 144 [.mp mb,.bool x.1,.str x.2,.bool y.1,.str y.2] true)) (hks:e.ks.length <= 1000000) (hmb:mb ≠ e.m) (F:FT) (g7:F.get 7 = .ref nb 0) {st:List kA} {Q:Ax.X -> Fr -> Sg -> Prop}
  (hk:∀ F' τ',(∀ k,k ∈ [0,4,5,7,30,31,32] -> F'.get k = F.get k) -> Lb.bY τ' e.s e.m (keys e.ks [y]) -> Lb.Kp (Y ++ [O.cells 46 [.bool y.1,.str y.2] true]) τ' e.m -> M E st .normal ⟨57,F'⟩ τ' Q):Ax.R E (.region 7 (opsOf (cutAt [1,1,1,2,2,1,1,0,2,1,1] (aA Tryz.f73).code)) true) st ⟨57,F⟩ Y Q:=by
 obtain ⟨hme,hxe⟩:=fQ he
 have hm1:=hm.app (O.cells 46 [.bool y.1,.str y.2] true)
 have hb1:=aM (x:=O.cells 46 [.bool y.1,.str y.2] true) hb
 have hs1:=hm1.sets e hme
 have hsv:Lb.SV (Y ++ [O.cells 46 [.bool y.1,.str y.2] true]) (.sl Y.length 0 1 none) [y]:=.inr (.inr ⟨Y.length,_,true,rfl,aP,rfl⟩)
 obtain ⟨n,r,τ2,hcall,hr,hset,hkp⟩:=Lb.G7 hl hs1 hsv (show 1 <= 10000000000 by omega) (by omega)
 have ne:nb ≠ e.m:=fun e'=>by
  have:=hs1.map
  rw [<- e',hb1] at this
  cases this
 have lk:lookup E Y 105 (.mp mb) (.agg [.bool x.1,.str x.2]) false = some (.ref e.s 0):=by
  have:=xJ h' hl hm x
  rw [he] at this
  exact this
 have lk1:lookup E (Y ++ [O.cells 46 [.bool y.1,.str y.2] true]) 105 (.mp mb) (.agg [.bool x.1,.str x.2]) false = some (.ref e.s 0):=by
  have:=xJ h' hl hm1 x
  rw [he] at this
  exact this
 have lk2:lookup E τ2 105 (.mp mb) (.agg [.bool x.1,.str x.2]) false = some (.ref e.s 0):=by
  have:=DP h' hl (hkp _ _ hmb hm1.map) x
  rw [he] at this
  exact this
 have vr:qV 12 (.ref e.s 0) (.ref e.s 0) = true:=by unfold qV; simp
 have vm:qV 12 (.mp mb) (.mp mb) = true:=by unfold qV; simp
 have vl:qV 12 (.agg [.bool x.1,.str x.2]) (.agg [.bool x.1,.str x.2]) = true:=oV fun z hz=>by
  simp only [mem_cons,List.not_mem_nil,or_false] at hz
  rcases hz with rfl | rfl
  ·show decide (x.1 = x.1) = true
   simp
  ·exact wG 10 x.2
 have key:∃ F',cE E (ev E n) (opsOf (cutAt [1,1,1,2,2,1,1,0,2,1,1] (aA Tryz.f73).code)) ⟨57,F⟩ Y = some (⟨57,F'⟩,τ2) /\ (∀ k,k ∈ [0,4,5,7,30,31,32] -> F'.get k = F.get k):=by
  unfold cE
  rw [h'.TZ,h'.Vs]
  simp only [aA,Tryz.f73,KP,Ax.loadAt,↓reduceIte,reduceEqDiff,reduceLT,reduceLeDiff,reduceAdd,reduceMul,reduceCtorEq,h.oW,h.eM,opsOf,cutAt,Fz.lits,gZ,bJ,bX,jV,Ax.comp,Ax.last,hU,Ax.again,Ax.fill,gU,Nat.zero_mul,h'.nW,h'.wI,g7,hb,hb1,lk,lk1,hcall,vr,vm,vl]
  refine ⟨_,rfl,fun k hk=>?_⟩
  simp only [mem_cons,List.not_mem_nil,or_false] at hk
  rcases hk with rfl | rfl | rfl | rfl | rfl | rfl | rfl <;> simp +decide only [GS]
 obtain ⟨F',hD,hF⟩:=key
 exact Eq.mpr (gY hD) (hk F' τ2 hF hset hkp)
end
end
section
section
variable {E:Env} {Z:Sg} {K:V -> Sg -> Prop}
theorem RA (h:bM E) (h':sD E) (hl:Lb.dP E) {Y:Sg} {nb mb:Nat} {L:List cW} {x y:aL} (hm:iH Y mb L) (he:bL L x = none) (hb:Y[nb]? = some (O.cells 144 [.mp mb,.bool x.1,.str x.2,.bool y.1,.str y.2] true)) (F:FT) (g7:F.get 7 = .ref nb 0) {st:List kA} {Q:Ax.X -> Fr -> Sg -> Prop}
  (hk:∀ F' τ1 m,(∀ k,k ∈ [0,4,5,7,30,31,32] -> F'.get k = F.get k) -> Lb.lA Y τ1 -> Lb.bY τ1 Y.length m [] -> Y.length < m -> M E st .normal ⟨57,F'⟩ (τ1.set mb (.map ((L ++ [cW.mk x Y.length m []]).map nO))) Q):Ax.R E (.region 6 (opsOf (cutAt [1,1,1,2,2,1,1,0,2,1,0,1,0] (aA Tryz.f73).code)) true) st ⟨57,F⟩ Y Q:=by
 obtain ⟨n,r,τ1,hcall,m,rfl,hset,hlt,jZ⟩:=Lb.OH hl (Z:=Y) (v:=.aD) (l:=[]) (.inl ⟨rfl,rfl⟩) (by simp)
 have hb1:=jZ _ _ hb
 have put:=EE h' hl (hm.jZ jZ) he (s:=Y.length) (m:=m) (ks:=[])
 unfold oI at put
 have vm:qV 12 (.mp mb) (.mp mb) = true:=by unfold qV; simp
 have vl:qV 12 (.agg [.bool x.1,.str x.2]) (.agg [.bool x.1,.str x.2]) = true:=oV fun z hz=>by
  simp only [mem_cons,List.not_mem_nil,or_false] at hz
  rcases hz with rfl | rfl
  ·show decide (x.1 = x.1) = true
   simp
  ·exact wG 10 x.2
 have key:∃ F',cE E (ev E n) (opsOf (cutAt [1,1,1,2,2,1,1,0,2,1,0,1,0] (aA Tryz.f73).code)) ⟨57,F⟩ Y = some (⟨57,F'⟩,τ1.set mb (.map ((L ++ [cW.mk x Y.length m []]).map nO))) /\ (∀ k,k ∈ [0,4,5,7,30,31,32] -> F'.get k = F.get k):=by
  unfold cE
  rw [h'.T0,h'.Vt]
  simp only [aA,Tryz.f73,KP,Ax.loadAt,↓reduceIte,reduceEqDiff,reduceLT,reduceLeDiff,reduceAdd,reduceCtorEq,h.eM,opsOf,cutAt,gZ,bJ,bX,jV,Ax.comp,Ax.last,hU,Ax.again,aR,h'.nW,h'.wI,g7,hb,hb1,hcall,put,vm,vl]
  refine ⟨_,rfl,fun k hk=>?_⟩
  simp only [mem_cons,List.not_mem_nil,or_false] at hk
  rcases hk with rfl | rfl | rfl | rfl | rfl | rfl | rfl <;> simp +decide only [GS]
 obtain ⟨F',hD,hF⟩:=key
 exact Eq.mpr (gY hD) (hk F' τ1 m hF jZ hset hlt)
end
end
section
section
variable {E:Env} {Z:Sg} {K:V -> Sg -> Prop}
def qI (L:List cW) (z:aL):List aL:=match bL L z with
 | some e=>e.ks
 | none=>[]
theorem FN (L:List cW) (x:aL) (ks:List aL) (z:aL):bL (pA L x ks) z = (bL L z).map fun e=>if e.key = x then { e with ks:=ks } else e:=by
 unfold bL pA
 induction L with
 | nil=>rfl
 | cons e L ih=>
  rw [map_cons,find?_cons,find?_cons]
  have hk:(if e.key = x then { e with ks:=ks } else e).key = e.key:=by
   by_cases h:e.key = x
   ·rw [if_pos h]
   ·rw [if_neg h]
  rw [hk]
  by_cases hz:z = e.key
  ·rw [decide_eq_true hz]; rfl
  ·rw [decide_eq_false hz]; exact ih
theorem P7 {L:List cW} {e:cW} {x:aL} (he:bL L x = some e) (ks:List aL) (z:aL):qI (pA L e.key ks) z = if z = x then ks else qI L z:=by
 obtain ⟨hme,hxe⟩:=fQ he
 unfold qI
 rw [FN]
 by_cases hz:z = x
 ·rw [if_pos hz,hz,he]
  show (match (some (if e.key = e.key then { e with ks:=ks } else e):Option cW) with
   | some e=>e.ks
   | none=>[]) = ks
  rw [if_pos rfl]
 ·rw [if_neg hz]
  cases hq:bL L z with
  | none=>rfl
  | some q=>
   obtain ⟨-,hzq⟩:=fQ hq
   show (if q.key = e.key then { q with ks:=ks } else q).ks = q.ks
   rw [if_neg (fun e'=>hz (by rw [hzq,e',hxe]))]
theorem wO (L:List cW) (e:cW) (hx:bL L e.key = none) (z:aL):bL (L ++ [e]) z = if z = e.key then some e else bL L z:=by
 unfold bL at *
 rw [List.find?_append]
 by_cases hz:z = e.key
 ·rw [if_pos hz,hz,hx,find?_cons,decide_eq_true rfl]; rfl
 ·rw [if_neg hz,find?_cons,decide_eq_false hz,List.find?_nil]
  cases List.find? (fun e=>decide (z = e.key)) L <;> rfl
structure Grow (L:List cW) (x y:aL) (L':List cW):Prop where
 mem:∀ z w,w ∈ qI L' z ↔ w ∈ qI L z \/ (z = x /\ w = y)
 len:∀ n,(∀ e ∈ L,e.ks.length <= n) -> ∀ e ∈ L',e.ks.length <= n + 1
 key:∀ z,z ∈ L'.map cW.key ↔ z ∈ L.map cW.key \/ z = x
theorem SQ {L:List cW} {x:aL}:x ∈ L.map cW.key ↔ ∃ e,bL L x = some e:=by
 constructor
 ·intro h
  obtain ⟨e,he,rfl⟩:=mem_map.1 h
  cases hq:bL L e.key with
  | some q=>exact ⟨q,rfl⟩
  | none=>
   have:=find?_eq_none.1 hq e he
   simp at this
 ·rintro ⟨e,he⟩
  obtain ⟨h1,h2⟩:=fQ he
  exact mem_map.2 ⟨e,h1,h2.symm⟩
theorem NR (l:List aL) (y:aL):keys l [y] = jH l y:=rfl
theorem K6 (l:List aL) (y:aL):(jH l y).length <= l.length + 1:=by
 unfold jH
 by_cases h:y ∈ l
 ·rw [if_pos h]; omega
 ·rw [if_neg h,length_append]; exact Nat.le_refl _
theorem Grow.up {L:List cW} {e:cW} {x:aL} (he:bL L x = some e) (y:aL):Grow L x y (pA L e.key (keys e.ks [y])):=by
 obtain ⟨hme,hxe⟩:=fQ he
 refine ⟨fun z w=>?_,fun n hn a ha=>?_,fun z=>?_⟩
 ·rw [P7 he]
  by_cases hz:z = x
  ·have:qI L z = e.ks:=by unfold qI; rw [hz,he]
   rw [if_pos hz,this,NR,DM]
   exact ⟨fun h=>h.imp id fun h=>⟨hz,h⟩,fun h=>h.imp id And.right⟩
  ·rw [if_neg hz]
   exact ⟨.inl,fun h=>h.elim id fun h=>absurd h.1 hz⟩
 ·obtain ⟨a0,ha0,rfl⟩:=mem_map.1 ha
  by_cases hk:a0.key = e.key
  ·rw [if_pos hk]
   have:=K6 e.ks y
   have:=hn e hme
   show (jH e.ks y).length <= n + 1
   omega
  ·rw [if_neg hk]
   have:=hn a0 ha0
   omega
 ·rw [Dd]
  refine ⟨.inl,fun h=>h.elim id fun h=>?_⟩
  rw [h]
  exact SQ.2 ⟨e,he⟩
theorem Grow.new {L:List cW} {x:aL} {s m:Nat} (hx:bL L x = none) (y:aL):bL (L ++ [cW.mk x s m []]) x = some (cW.mk x s m []) /\ Grow L x y (pA (L ++ [cW.mk x s m []]) x (keys [] [y])):=by
 have he:bL (L ++ [cW.mk x s m []]) x = some (cW.mk x s m []):=by rw [wO _ _ hx,if_pos rfl]
 have g:=Grow.up he y
 refine ⟨he,fun z w=>?_,fun n hn a ha=>?_,fun z=>?_⟩
 ·rw [g.mem]
  have:qI (L ++ [cW.mk x s m []]) z = qI L z:=by
   unfold qI
   rw [wO _ _ hx]
   by_cases hz:z = x
   ·rw [if_pos hz,hz,hx]
   ·rw [if_neg hz]
  rw [this]
 ·refine g.len n (fun e he=>?_) a ha
  rcases mem_append.1 he with he | he
  ·exact hn e he
  ·rw [mem_singleton.1 he]; exact Nat.zero_le _
 ·rw [g.key,map_append,mem_append]
  constructor
  ·rintro ((h | h) | h)
   ·exact .inl h
   ·exact .inr (by simpa using h)
   ·exact .inr h
  ·exact fun h=>h.imp .inl id
end
end
section
section
variable {E:Env} {Z:Sg} {K:V -> Sg -> Prop}
theorem Kp.tH {Z σ':Sg} {m:Nat} {es:List (V × V)} (h:Lb.Kp Z σ' m) (hm:Z[m]? = some (.map es)):Lb.dK Z σ':=Lb.Kp.tH h hm
theorem dK.AU (Z:Sg) (y:O):Lb.dK Z (Z ++ [y]):=Lb.dK.app Z [y]
theorem map_lt {Z:Sg} {b:Nat} {o:O} (h:Z[b]? = some o):b < Z.length:=(List.getElem?_eq_some_iff.1 h).1
theorem P3 (h:bM E) (h':sD E) (hl:Lb.dP E) {Y:Sg} {gb m0 m1 sa ma b3 b4:Nat} {es0 es1:List (V × V)} {A:List aL} {L3 L4:List cW} (ga:m_ E Y gb m0 m1 sa ma b3 b4 es0 es1 A L3 L4) {x y:aL} {blk:Nat} (hb:Y[blk]? = some (O.cells 144 [.mp b3,.bool x.1,.str x.2,.bool y.1,.str y.2,.mp b4,.bool y.1,.str y.2,.bool x.1,.str x.2] true)) (hks:∀ e ∈ L3,e.ks.length <= 1000000) (F:FT) (g30:F.get 30 = .sl blk 0 2 none) (g32:F.get 32 = .int .i64 0) {st:List kA} {Q:Ax.X -> Fr -> Sg -> Prop}
  (hk:∀ F' τ' L',(∀ k,k ∈ [0,4,5,30,31,32] -> F'.get k = F.get k) -> m_ E τ' gb m0 m1 sa ma b3 b4 es0 es1 A L' L4 -> Grow L3 x y L' -> Lb.dK Y τ' -> M E st .normal ⟨57,F'⟩ τ' Q):Ax.R E (cutAt [1,1,1,2,2,1,1,0,2] (aA Tryz.f73).code) st ⟨57,F⟩ Y Q:=by
 have ia:indexAddr E 145 (.sl blk 0 2 none) (.int .i64 0) = some (.ref blk 0):=by unfold Ax.indexAddr; simp only [h'.I3,h'.wI]; rfl
 have ga1:=ga.app (O.cells 144 [.mp b3,.bool x.1,.str x.2,.bool y.1,.str y.2] true)
 have hnb:(Y ++ [O.cells 144 [.mp b3,.bool x.1,.str x.2,.bool y.1,.str y.2] true])[Y.length]? = some (O.cells 144 [.mp b3,.bool x.1,.str x.2,.bool y.1,.str y.2] true):=aP
 have lk:=xJ h' hl ga1.jF x
 unfold oI at lk
 rcases hq:bL L3 x with _ | e
 ·rw [hq] at lk
  have r7:=fun (ρ:Sg) (m:Nat) gm he hbx hln hne F g7 st Q hk=>JI (Y:=ρ) (nb:=Y.length) (mb:=b3) (L:=L3 ++ [cW.mk x (Y ++ [O.cells 144 [.mp b3,.bool x.1,.str x.2,.bool y.1,.str y.2] true]).length m []]) (x:=x) (y:=y) (e:=cW.mk x (Y ++ [O.cells 144 [.mp b3,.bool x.1,.str x.2,.bool y.1,.str y.2] true]).length m []) h h' hl gm he hbx hln hne F g7 (st:=st) (Q:=Q) hk
  have r6:=fun F g7 st Q hk=>RA (Y:=Y ++ [O.cells 144 [.mp b3,.bool x.1,.str x.2,.bool y.1,.str y.2] true]) (nb:=Y.length) (mb:=b3) (L:=L3) (x:=x) (y:=y) h h' hl ga1.jF hq hnb F g7 (st:=st) (Q:=Q) hk
  rw [show cutAt [1,1,1,2,2,1,1,0,2] (aA Tryz.f73).code = .seq (cutAt [1,1,1,2,2,1,1,0,2,0] (aA Tryz.f73).code) (.seq (.seq (cutAt [1,1,1,2,2,1,1,0,2,1,0,0] (aA Tryz.f73).code) (.cond (.tmp 41) (cutAt [1,1,1,2,2,1,1,0,2,1,0,1,0] (aA Tryz.f73).code) .skip)) (cutAt [1,1,1,2,2,1,1,0,2,1,1] (aA Tryz.f73).code)) from rfl]
  rw [show cutAt [1,1,1,2,2,1,1,0,2,1,0,1,0] (aA Tryz.f73).code = .region 6 (opsOf (cutAt [1,1,1,2,2,1,1,0,2,1,0,1,0] (aA Tryz.f73).code)) true from rfl,show cutAt [1,1,1,2,2,1,1,0,2,1,1] (aA Tryz.f73).code = .region 7 (opsOf (cutAt [1,1,1,2,2,1,1,0,2,1,1] (aA Tryz.f73).code)) true from rfl]
  generalize opsOf (cutAt [1,1,1,2,2,1,1,0,2,1,0,1,0] (aA Tryz.f73).code) = O6 at r6 ⊢
  generalize opsOf (cutAt [1,1,1,2,2,1,1,0,2,1,1] (aA Tryz.f73).code) = O7 at r7 ⊢
  have e77:nC E 77 true .fP .fP = some true:=by unfold nC; rw [hl.sP]
  simp only [aA,Tryz.f73,KP,Ax.loadAt,Ax.storeAt,↓reduceIte,reduceEqDiff,reduceLT,reduceLeDiff,reduceAdd,reduceCtorEq,h.eM,e77,cutAt,h'.wI,h'.nW,g30,g32,ia,hb,hnb,lk,aP,cL]
  refine r6 _ ?_ _ _ (fun F1 τ1 m hF1 jZ hset hlt=>?_)
  ·simp +decide only [GS]
  have hx1:=ga1.jF.map
  have ga2:=ga1.PN hq jZ hset (Nat.le_of_lt hlt)
  have hmb:b3 < (Y ++ [O.cells 144 [.mp b3,.bool x.1,.str x.2,.bool y.1,.str y.2] true]).length:=map_lt hx1
  have hnb2:(τ1.set b3 (.map ((L3 ++ [cW.mk x (Y ++ [O.cells 144 [.mp b3,.bool x.1,.str x.2,.bool y.1,.str y.2] true]).length m []]).map nO)))[Y.length]? = some (O.cells 144 [.mp b3,.bool x.1,.str x.2,.bool y.1,.str y.2] true):=by
   rw [getElem?_set_ne]
   ·exact jZ _ _ hnb
   ·intro e
    have q:=hx1.symm.trans ((congrArg (fun i=>(Y ++ [O.cells 144 [.mp b3,.bool x.1,.str x.2,.bool y.1,.str y.2] true])[i]?) e).trans hnb)
    cases q
  rw [Wq]
  refine r7 _ m ga2.jF (Grow.new hq y).1 hnb2 (Nat.zero_le _) (show b3 ≠ m by omega) _ ?_ _ _ (fun F2 τ2 hF2 hset2 kp=>?_)
  ·exact (hF1 7 (by simp)).trans (by simp +decide only [GS])
  have gb2:=ga2.app (O.cells 46 [.bool y.1,.str y.2] true)
  have ga3:=gb2.Nn (fQ (Grow.new hq y).1).1 hset2 kp
  refine hk _ _ _ (fun k hk=>?_) ga3 (Grow.new hq y).2 ?_
  ·have h7:k ∈ [0,4,5,7,30,31,32]:=by
    simp only [mem_cons,List.not_mem_nil,or_false] at hk ⊢
    omega
   refine (hF2 k h7).trans ((hF1 k h7).trans ?_)
   simp only [mem_cons,List.not_mem_nil,or_false] at hk
   rcases hk with rfl | rfl | rfl | rfl | rfl | rfl <;> simp +decide only [GS]
  ·exact ((((dK.AU Y _).trans jZ.tH).trans (Lb.dK.EA (jZ _ _ hx1))).trans (dK.AU _ _)).trans (Lb.Kp.tH kp (gb2.jF.sets _ (fQ (Grow.new hq y).1).1).map)
 ·rw [hq] at lk
  have e77:nC E 77 true (.ref e.s 0) .fP = some false:=by unfold nC; rw [hl.sP]
  obtain ⟨hme,hxe⟩:=fQ hq
  obtain ⟨-,-,f3⟩:=ga1.facts
  have hmb:=f3 e.m (by first | exact .inl (mem_map.2 ⟨e,hme,rfl⟩) | exact .inr (mem_map.2 ⟨e,hme,rfl⟩))
  have r7:=fun F g7 st Q hk=>JI (Y:=Y ++ [O.cells 144 [.mp b3,.bool x.1,.str x.2,.bool y.1,.str y.2] true]) (nb:=Y.length) (mb:=b3) (L:=L3) (x:=x) (y:=y) (e:=e) h h' hl ga1.jF hq hnb (hks e hme) (by first | exact hmb.2.2.2.1 | exact hmb.2.2.2.2) F g7 (st:=st) (Q:=Q) hk
  rw [show cutAt [1,1,1,2,2,1,1,0,2] (aA Tryz.f73).code = .seq (cutAt [1,1,1,2,2,1,1,0,2,0] (aA Tryz.f73).code) (.seq (.seq (cutAt [1,1,1,2,2,1,1,0,2,1,0,0] (aA Tryz.f73).code) (.cond (.tmp 41) (cutAt [1,1,1,2,2,1,1,0,2,1,0,1,0] (aA Tryz.f73).code) .skip)) (cutAt [1,1,1,2,2,1,1,0,2,1,1] (aA Tryz.f73).code)) from rfl]
  rw [show cutAt [1,1,1,2,2,1,1,0,2,1,0,1,0] (aA Tryz.f73).code = .region 6 (opsOf (cutAt [1,1,1,2,2,1,1,0,2,1,0,1,0] (aA Tryz.f73).code)) true from rfl,show cutAt [1,1,1,2,2,1,1,0,2,1,1] (aA Tryz.f73).code = .region 7 (opsOf (cutAt [1,1,1,2,2,1,1,0,2,1,1] (aA Tryz.f73).code)) true from rfl]
  generalize opsOf (cutAt [1,1,1,2,2,1,1,0,2,1,0,1,0] (aA Tryz.f73).code) = O6 at ⊢
  generalize opsOf (cutAt [1,1,1,2,2,1,1,0,2,1,1] (aA Tryz.f73).code) = O7 at r7 ⊢
  simp only [aA,Tryz.f73,KP,Ax.loadAt,Ax.storeAt,↓reduceIte,reduceEqDiff,reduceLT,reduceLeDiff,reduceAdd,reduceCtorEq,h.eM,e77,cutAt,h'.wI,h'.nW,g30,g32,ia,hb,hnb,lk,aP,cL]
  refine r7 _ ?_ _ _ (fun F2 τ2 hF2 hset2 kp=>?_)
  ·simp +decide only [GS]
  have gb2:=ga1.app (O.cells 46 [.bool y.1,.str y.2] true)
  have ga3:=gb2.Nn hme hset2 kp
  refine hk _ _ _ (fun k hk=>?_) ga3 (Grow.up hq y) ?_
  ·have h7:k ∈ [0,4,5,7,30,31,32]:=by
    simp only [mem_cons,List.not_mem_nil,or_false] at hk ⊢
    omega
   refine (hF2 k h7).trans ?_
   simp only [mem_cons,List.not_mem_nil,or_false] at hk
   rcases hk with rfl | rfl | rfl | rfl | rfl | rfl <;> simp +decide only [GS]
  ·exact ((dK.AU Y _).trans (dK.AU _ _)).trans (Lb.Kp.tH kp (gb2.jF.sets e hme).map)
theorem PZ (h:bM E) (h':sD E) (hl:Lb.dP E) {Y:Sg} {gb m0 m1 sa ma b3 b4:Nat} {es0 es1:List (V × V)} {A:List aL} {L3 L4:List cW} (ga:m_ E Y gb m0 m1 sa ma b3 b4 es0 es1 A L3 L4) {x y:aL} {blk:Nat} (hb:Y[blk]? = some (O.cells 144 [.mp b3,.bool x.1,.str x.2,.bool y.1,.str y.2,.mp b4,.bool y.1,.str y.2,.bool x.1,.str x.2] true)) (hks:∀ e ∈ L4,e.ks.length <= 1000000) (F:FT) (g30:F.get 30 = .sl blk 0 2 none) (g32:F.get 32 = .int .i64 1) {st:List kA} {Q:Ax.X -> Fr -> Sg -> Prop}
  (hk:∀ F' τ' L',(∀ k,k ∈ [0,4,5,30,31,32] -> F'.get k = F.get k) -> m_ E τ' gb m0 m1 sa ma b3 b4 es0 es1 A L3 L' -> Grow L4 y x L' -> Lb.dK Y τ' -> M E st .normal ⟨57,F'⟩ τ' Q):Ax.R E (cutAt [1,1,1,2,2,1,1,0,2] (aA Tryz.f73).code) st ⟨57,F⟩ Y Q:=by
 have ia:indexAddr E 145 (.sl blk 0 2 none) (.int .i64 1) = some (.ref blk 5):=by unfold Ax.indexAddr; simp only [h'.I3,h'.wI]; rfl
 have ga1:=ga.app (O.cells 144 [.mp b4,.bool y.1,.str y.2,.bool x.1,.str x.2] true)
 have hnb:(Y ++ [O.cells 144 [.mp b4,.bool y.1,.str y.2,.bool x.1,.str x.2] true])[Y.length]? = some (O.cells 144 [.mp b4,.bool y.1,.str y.2,.bool x.1,.str x.2] true):=aP
 have lk:=xJ h' hl ga1.iZ y
 unfold oI at lk
 rcases hq:bL L4 y with _ | e
 ·rw [hq] at lk
  have r7:=fun (ρ:Sg) (m:Nat) gm he hbx hln hne F g7 st Q hk=>JI (Y:=ρ) (nb:=Y.length) (mb:=b4) (L:=L4 ++ [cW.mk y (Y ++ [O.cells 144 [.mp b4,.bool y.1,.str y.2,.bool x.1,.str x.2] true]).length m []]) (x:=y) (y:=x) (e:=cW.mk y (Y ++ [O.cells 144 [.mp b4,.bool y.1,.str y.2,.bool x.1,.str x.2] true]).length m []) h h' hl gm he hbx hln hne F g7 (st:=st) (Q:=Q) hk
  have r6:=fun F g7 st Q hk=>RA (Y:=Y ++ [O.cells 144 [.mp b4,.bool y.1,.str y.2,.bool x.1,.str x.2] true]) (nb:=Y.length) (mb:=b4) (L:=L4) (x:=y) (y:=x) h h' hl ga1.iZ hq hnb F g7 (st:=st) (Q:=Q) hk
  rw [show cutAt [1,1,1,2,2,1,1,0,2] (aA Tryz.f73).code = .seq (cutAt [1,1,1,2,2,1,1,0,2,0] (aA Tryz.f73).code) (.seq (.seq (cutAt [1,1,1,2,2,1,1,0,2,1,0,0] (aA Tryz.f73).code) (.cond (.tmp 41) (cutAt [1,1,1,2,2,1,1,0,2,1,0,1,0] (aA Tryz.f73).code) .skip)) (cutAt [1,1,1,2,2,1,1,0,2,1,1] (aA Tryz.f73).code)) from rfl]
  rw [show cutAt [1,1,1,2,2,1,1,0,2,1,0,1,0] (aA Tryz.f73).code = .region 6 (opsOf (cutAt [1,1,1,2,2,1,1,0,2,1,0,1,0] (aA Tryz.f73).code)) true from rfl,show cutAt [1,1,1,2,2,1,1,0,2,1,1] (aA Tryz.f73).code = .region 7 (opsOf (cutAt [1,1,1,2,2,1,1,0,2,1,1] (aA Tryz.f73).code)) true from rfl]
  generalize opsOf (cutAt [1,1,1,2,2,1,1,0,2,1,0,1,0] (aA Tryz.f73).code) = O6 at r6 ⊢
  generalize opsOf (cutAt [1,1,1,2,2,1,1,0,2,1,1] (aA Tryz.f73).code) = O7 at r7 ⊢
  have e77:nC E 77 true .fP .fP = some true:=by unfold nC; rw [hl.sP]
  simp only [aA,Tryz.f73,KP,Ax.loadAt,Ax.storeAt,↓reduceIte,reduceEqDiff,reduceLT,reduceLeDiff,reduceAdd,reduceCtorEq,h.eM,e77,cutAt,h'.wI,h'.nW,g30,g32,ia,hb,hnb,lk,aP,cL]
  refine r6 _ ?_ _ _ (fun F1 τ1 m hF1 jZ hset hlt=>?_)
  ·simp +decide only [GS]
  have hx1:=ga1.iZ.map
  have ga2:=ga1.Pg hq jZ hset (Nat.le_of_lt hlt)
  have hmb:b4 < (Y ++ [O.cells 144 [.mp b4,.bool y.1,.str y.2,.bool x.1,.str x.2] true]).length:=map_lt hx1
  have hnb2:(τ1.set b4 (.map ((L4 ++ [cW.mk y (Y ++ [O.cells 144 [.mp b4,.bool y.1,.str y.2,.bool x.1,.str x.2] true]).length m []]).map nO)))[Y.length]? = some (O.cells 144 [.mp b4,.bool y.1,.str y.2,.bool x.1,.str x.2] true):=by
   rw [getElem?_set_ne]
   ·exact jZ _ _ hnb
   ·intro e
    have q:=hx1.symm.trans ((congrArg (fun i=>(Y ++ [O.cells 144 [.mp b4,.bool y.1,.str y.2,.bool x.1,.str x.2] true])[i]?) e).trans hnb)
    cases q
  rw [Wq]
  refine r7 _ m ga2.iZ (Grow.new hq x).1 hnb2 (Nat.zero_le _) (show b4 ≠ m by omega) _ ?_ _ _ (fun F2 τ2 hF2 hset2 kp=>?_)
  ·exact (hF1 7 (by simp)).trans (by simp +decide only [GS])
  have gb2:=ga2.app (O.cells 46 [.bool x.1,.str x.2] true)
  have ga3:=gb2.L_ (fQ (Grow.new hq x).1).1 hset2 kp
  refine hk _ _ _ (fun k hk=>?_) ga3 (Grow.new hq x).2 ?_
  ·have h7:k ∈ [0,4,5,7,30,31,32]:=by
    simp only [mem_cons,List.not_mem_nil,or_false] at hk ⊢
    omega
   refine (hF2 k h7).trans ((hF1 k h7).trans ?_)
   simp only [mem_cons,List.not_mem_nil,or_false] at hk
   rcases hk with rfl | rfl | rfl | rfl | rfl | rfl <;> simp +decide only [GS]
  ·exact ((((dK.AU Y _).trans jZ.tH).trans (Lb.dK.EA (jZ _ _ hx1))).trans (dK.AU _ _)).trans (Lb.Kp.tH kp (gb2.iZ.sets _ (fQ (Grow.new hq x).1).1).map)
 ·rw [hq] at lk
  have e77:nC E 77 true (.ref e.s 0) .fP = some false:=by unfold nC; rw [hl.sP]
  obtain ⟨hme,hxe⟩:=fQ hq
  obtain ⟨-,-,f3⟩:=ga1.facts
  have hmb:=f3 e.m (by first | exact .inl (mem_map.2 ⟨e,hme,rfl⟩) | exact .inr (mem_map.2 ⟨e,hme,rfl⟩))
  have r7:=fun F g7 st Q hk=>JI (Y:=Y ++ [O.cells 144 [.mp b4,.bool y.1,.str y.2,.bool x.1,.str x.2] true]) (nb:=Y.length) (mb:=b4) (L:=L4) (x:=y) (y:=x) (e:=e) h h' hl ga1.iZ hq hnb (hks e hme) (by first | exact hmb.2.2.2.1 | exact hmb.2.2.2.2) F g7 (st:=st) (Q:=Q) hk
  rw [show cutAt [1,1,1,2,2,1,1,0,2] (aA Tryz.f73).code = .seq (cutAt [1,1,1,2,2,1,1,0,2,0] (aA Tryz.f73).code) (.seq (.seq (cutAt [1,1,1,2,2,1,1,0,2,1,0,0] (aA Tryz.f73).code) (.cond (.tmp 41) (cutAt [1,1,1,2,2,1,1,0,2,1,0,1,0] (aA Tryz.f73).code) .skip)) (cutAt [1,1,1,2,2,1,1,0,2,1,1] (aA Tryz.f73).code)) from rfl]
  rw [show cutAt [1,1,1,2,2,1,1,0,2,1,0,1,0] (aA Tryz.f73).code = .region 6 (opsOf (cutAt [1,1,1,2,2,1,1,0,2,1,0,1,0] (aA Tryz.f73).code)) true from rfl,show cutAt [1,1,1,2,2,1,1,0,2,1,1] (aA Tryz.f73).code = .region 7 (opsOf (cutAt [1,1,1,2,2,1,1,0,2,1,1] (aA Tryz.f73).code)) true from rfl]
  generalize opsOf (cutAt [1,1,1,2,2,1,1,0,2,1,0,1,0] (aA Tryz.f73).code) = O6 at ⊢
  generalize opsOf (cutAt [1,1,1,2,2,1,1,0,2,1,1] (aA Tryz.f73).code) = O7 at r7 ⊢
  simp only [aA,Tryz.f73,KP,Ax.loadAt,Ax.storeAt,↓reduceIte,reduceEqDiff,reduceLT,reduceLeDiff,reduceAdd,reduceCtorEq,h.eM,e77,cutAt,h'.wI,h'.nW,g30,g32,ia,hb,hnb,lk,aP,cL]
  refine r7 _ ?_ _ _ (fun F2 τ2 hF2 hset2 kp=>?_)
  ·simp +decide only [GS]
  have gb2:=ga1.app (O.cells 46 [.bool x.1,.str x.2] true)
  have ga3:=gb2.L_ hme hset2 kp
  refine hk _ _ _ (fun k hk=>?_) ga3 (Grow.up hq x) ?_
  ·have h7:k ∈ [0,4,5,7,30,31,32]:=by
    simp only [mem_cons,List.not_mem_nil,or_false] at hk ⊢
    omega
   refine (hF2 k h7).trans ?_
   simp only [mem_cons,List.not_mem_nil,or_false] at hk
   rcases hk with rfl | rfl | rfl | rfl | rfl | rfl <;> simp +decide only [GS]
  ·exact ((dK.AU Y _).trans (dK.AU _ _)).trans (Lb.Kp.tH kp (gb2.iZ.sets e hme).map)
end
end
section
section
variable {E:Env} {Z:Sg} {K:V -> Sg -> Prop}
theorem OA (h:bM E) (h':sD E) (hl:Lb.dP E) {Y:Sg} {gb m0 m1 sa ma b3 b4:Nat} {es0 es1:List (V × V)} {A:List aL} {L3 L4:List cW} (ga:m_ E Y gb m0 m1 sa ma b3 b4 es0 es1 A L3 L4) {x y:aL} (hA:A.length <= 1000000) (hk3:∀ e ∈ L3,e.ks.length <= 1000000) (hk4:∀ e ∈ L4,e.ks.length <= 1000000):aB E 73 [.ref gb 0,.agg [.bool x.1,.str x.2],.agg [.bool y.1,.str y.2]] Y fun v τ'=>v = .fV [] /\ ∃ L3' L4',m_ E τ' gb m0 m1 sa ma b3 b4 es0 es1 (keys A [x,y]) L3' L4' /\ Grow L3 x y L3' /\ Grow L4 y x L4' /\ Lb.dK Y τ':=by
 rw [c_ h'.hs73 h'.sp73 h'.fn73 h'.md73,aZ (by kernel_rfl)]
 have rn:=fun {Y} {L3 L4} {blk} A ga hb hks F g30 g32 st Q hk=>P3 (Y:=Y) (L3:=L3) (L4:=L4) (A:=A) (x:=x) (y:=y) (blk:=blk) (gb:=gb) (m0:=m0) (m1:=m1) (sa:=sa) (ma:=ma) (b3:=b3) (b4:=b4) (es0:=es0) (es1:=es1) h h' hl ga hb hks F g30 g32 (st:=st) (Q:=Q) hk
 have ru:=fun {Y} {L3 L4} {blk} A ga hb hks F g30 g32 st Q hk=>PZ (Y:=Y) (L3:=L3) (L4:=L4) (A:=A) (x:=x) (y:=y) (blk:=blk) (gb:=gb) (m0:=m0) (m1:=m1) (sa:=sa) (ma:=ma) (b3:=b3) (b4:=b4) (es0:=es0) (es1:=es1) h h' hl ga hb hks F g30 g32 (st:=st) (Q:=Q) hk
 have r1:=fun {Y} {n0 n1} ga hx hy F g0 g4 g5 st Q hk=>Wt (Y:=Y) (n0:=n0) (n1:=n1) (A:=A) (L3:=L3) (L4:=L4) (x:=x) (y:=y) (gb:=gb) (m0:=m0) (m1:=m1) (sa:=sa) (ma:=ma) (b3:=b3) (b4:=b4) (es0:=es0) (es1:=es1) h h' hl ga hx hy hA F g0 g4 g5 (st:=st) (Q:=Q) hk
 have d2:=h'.Yl
 rw [show (aA Tryz.f73).code = .seq (cutAt [0] (aA Tryz.f73).code) (.seq (cutAt [1,0] (aA Tryz.f73).code) (.seq (cutAt [1,1,0] (aA Tryz.f73).code) (.block 0 (.loop (.seq (cutAt [1,1,1,2,2,0] (aA Tryz.f73).code) (.seq (cutAt [1,1,1,2,2,1,0] (aA Tryz.f73).code) (.seq (.block 1 (cutAt [1,1,1,2,2,1,1,0,2] (aA Tryz.f73).code)) (cutAt [1,1,1,2,2,1,1,1] (aA Tryz.f73).code)))))))) from rfl]
 rw [show cutAt [1,0] (aA Tryz.f73).code = .region 1 (opsOf (cutAt [1,0] (aA Tryz.f73).code)) true from rfl]
 generalize opsOf (cutAt [1,0] (aA Tryz.f73).code) = O1 at r1 ⊢
 generalize cutAt [1,1,1,2,2,1,1,0,2] (aA Tryz.f73).code = B at rn ru ⊢
 generalize hD2:cutAt [1,1,0] (aA Tryz.f73).code = D2 at d2 ⊢
 simp only [aA,Tryz.f73,KP,↓reduceIte,reduceEqDiff,reduceLT,reduceAdd,h.eM,cutAt]
 have gx:m_ E (Y ++ [O.cells 46 [.bool x.1,.str x.2] true] ++ [O.cells 46 [.bool y.1,.str y.2] true]) gb m0 m1 sa ma b3 b4 es0 es1 A L3 L4:=(ga.app _).app _
 refine r1 gx (aM aP) aP _ ?_ ?_ ?_ _ _ (fun F1 τ1 hF1 ga1 hx1 hy1 kc1=>?_)
 ·simp +decide only [GS]
 ·simp +decide only [GS]
 ·simp +decide only [GS]
 have q0:F1.get 0 = .ref gb 0:=(hF1 0 (by simp)).trans (by simp +decide only [GS])
 have q4:F1.get 4 = .ref Y.length 0:=(hF1 4 (by simp)).trans (by simp +decide only [GS])
 have q5:F1.get 5 = .ref (Y ++ [O.cells 46 [.bool x.1,.str x.2] true]).length 0:=(hF1 5 (by simp)).trans (by simp +decide only [GS])
 have hg:=ga1.g
 have kc0:Lb.dK Y τ1:=(((dK.AU Y _).trans (dK.AU _ _)).trans kc1)
 generalize (Y ++ [O.cells 46 [.bool x.1,.str x.2] true]).length = n1 at *
 generalize Y.length = n0 at *
 rw [Wq]
 subst hD2
 simp only [aA,Tryz.f73,cutAt,Option.getD_some] at d2
 have lz:∀ (Z:Sg) (b:Nat),lenOf E Z 145 (.sl b 0 2 none) = some 2:=fun Z b=>by unfold lenOf; rw [h'.I3]
 have d0:decide ((0:Int) < ((2:Nat):Int)) = true:=rfl
 have d1:decide ((1:Int) < ((2:Nat):Int)) = true:=rfl
 have d2':decide ((2:Int) < ((2:Nat):Int)) = false:=rfl
 have w1:wr .i64 1 = 1:=rfl
 have w2:wr .i64 2 = 2:=rfl
 simp only [aA,Tryz.f73,KP,Ax.loadAt,↓reduceIte,reduceEqDiff,reduceLT,reduceLeDiff,reduceAdd,reduceMul,reduceCtorEq,h.eM,lz,cutAt,aW d2,bS,h'.nW,h'.wI,h'.I3,h'.pB,hg,hx1,hy1,q0,q4,q5,Ax.fill,Ax.placeOf,gU,Nat.zero_mul]
 have ga2:=ga1.app (O.cells 144 [.mp b3,.bool x.1,.str x.2,.bool y.1,.str y.2,.mp b4,.bool y.1,.str y.2,.bool x.1,.str x.2] true)
 have hb2:(τ1 ++ [O.cells 144 [.mp b3,.bool x.1,.str x.2,.bool y.1,.str y.2,.mp b4,.bool y.1,.str y.2,.bool x.1,.str x.2] true])[τ1.length]? = some (O.cells 144 [.mp b3,.bool x.1,.str x.2,.bool y.1,.str y.2,.mp b4,.bool y.1,.str y.2,.bool x.1,.str x.2] true):=aP
 have kc2:Lb.dK Y (τ1 ++ [O.cells 144 [.mp b3,.bool x.1,.str x.2,.bool y.1,.str y.2,.mp b4,.bool y.1,.str y.2,.bool x.1,.str x.2] true]):=kc0.trans (dK.AU _ _)
 generalize τ1 ++ [O.cells 144 [.mp b3,.bool x.1,.str x.2,.bool y.1,.str y.2,.mp b4,.bool y.1,.str y.2,.bool x.1,.str x.2] true] = τ2 at *
 generalize τ1.length = blk at *
 rw [aF]
 simp only [KP,↓reduceIte,reduceEqDiff,reduceLT,d0]
 refine rn _ ga2 hb2 hk3 _ ?_ ?_ _ _ (fun F3 τ3 L3' hF3 ga3 gr3 kc3=>?_)
 ·simp +decide only [GS]
 ·simp +decide only [GS]
 have q30:F3.get 30 = .sl blk 0 2 none:=(hF3 30 (by simp)).trans (by simp +decide only [GS])
 have q31:F3.get 31 = .int .i64 ((2:Nat):Int):=(hF3 31 (by simp)).trans (by simp +decide only [GS])
 have q32:F3.get 32 = .int .i64 0:=(hF3 32 (by simp)).trans (by simp +decide only [GS])
 simp only [KP,↓reduceIte,reduceLT,Int.reduceAdd,w1,q32]
 rw [aF]
 simp only [KP,↓reduceIte,reduceEqDiff,reduceLT,d1,q31]
 refine ru _ ga3 (kc3 _ _ _ _ hb2) hk4 _ ?_ ?_ _ _ (fun F4 τ4 L4' hF4 ga4 gr4 kc4=>?_)
 ·simp +decide only [GS,q30]
 ·simp +decide only [GS]
 have q31':F4.get 31 = .int .i64 ((2:Nat):Int):=(hF4 31 (by simp)).trans (by simp +decide only [GS,q31])
 have q32':F4.get 32 = .int .i64 1:=(hF4 32 (by simp)).trans (by simp +decide only [GS])
 simp only [KP,↓reduceIte,reduceLT,Int.reduceAdd,w2,q32']
 rw [aF]
 simp only [KP,↓reduceIte,reduceEqDiff,reduceLT,d2',q31']
 exact ⟨_,_,ga4,gr3,gr4,(kc2.trans kc3).trans kc4⟩
end
end
section
section
variable {E:Env} {Z:Sg} {K:V -> Sg -> Prop}
def eH (r:aG):List (aL × aL):=r.ins.map (fun f=>(((true,r.name):aL),((false,f):aL))) ++ r.outs.map (fun f=>(((false,f):aL),((true,r.name):aL)))
def gG (r:aG):aL:=(true,r.name)
structure uR (X:List aL) (P:List (aL × aL)) (A:List aL) (L3 L4:List cW):Prop where
 all:∀ x,x ∈ A ↔ x ∈ X \/ ∃ p ∈ P,x = p.1 \/ x = p.2
 need:∀ z w,w ∈ qI L3 z ↔ (z,w) ∈ P
 user:∀ z w,w ∈ qI L4 z ↔ (w,z) ∈ P
 NJ:A.length <= X.length + 2 * P.length
 NL:∀ e ∈ L3,e.ks.length <= P.length
 NK:∀ e ∈ L4,e.ks.length <= P.length
theorem uR.nil:uR [] [] [] [] []:=⟨fun x=>by simp,fun z w=>by simp [qI,bL],fun z w=>by simp [qI,bL],Nat.le_refl _,(fun e he=>by cases he),(fun e he=>by cases he)⟩
theorem uR.link {X:List aL} {P:List (aL × aL)} {A:List aL} {L3 L4 L3' L4':List cW} {x y:aL} (h:uR X P A L3 L4) (g3:Grow L3 x y L3') (g4:Grow L4 y x L4'):uR X (P ++ [(x,y)]) (keys A [x,y]) L3' L4':=by
 refine ⟨fun z=>?_,fun z w=>?_,fun z w=>?_,?_,fun e he=>?_,fun e he=>?_⟩
 ·rw [mem_keys,h.all]
  constructor
  ·rintro ((h1 | ⟨p,hp,h1⟩) | h1)
   ·exact .inl h1
   ·exact .inr ⟨p,List.mem_append_left _ hp,h1⟩
   ·refine .inr ⟨(x,y),by simp,by simpa using h1⟩
  ·rintro (h1 | ⟨p,hp,h1⟩)
   ·exact .inl (.inl h1)
   ·rcases mem_append.1 hp with hp | hp
    ·exact .inl (.inr ⟨p,hp,h1⟩)
    ·rw [mem_singleton.1 hp] at h1
     exact .inr (by simpa using h1)
 ·rw [g3.mem,h.need,mem_append,mem_singleton]
  exact or_congr Iff.rfl ⟨fun q=>by rw [q.1,q.2],fun q=>⟨congrArg Prod.fst q,congrArg Prod.snd q⟩⟩
 ·rw [g4.mem,h.user,mem_append,mem_singleton]
  exact or_congr Iff.rfl ⟨fun q=>by rw [q.1,q.2],fun q=>⟨congrArg Prod.snd q,congrArg Prod.fst q⟩⟩
 ·have:=pF (xs:=[x,y]) (l:=A)
  have:=h.NJ
  simp only [length_append,length_cons,length_nil] at *
  omega
 ·rw [length_append]; exact g3.len _ h.NL e he
 ·rw [length_append]; exact g4.len _ h.NK e he
theorem uR.rule {X:List aL} {P:List (aL × aL)} {A:List aL} {L3 L4:List cW} (x:aL) (h:uR X P A L3 L4):uR (X ++ [x]) P (keys A [x]) L3 L4:=by
 refine ⟨fun z=>?_,h.need,h.user,?_,h.NL,h.NK⟩
 ·rw [mem_keys,h.all,mem_append]
  constructor
  ·rintro ((h1 | h1) | h1)
   ·exact .inl (.inl h1)
   ·exact .inr h1
   ·exact .inl (.inr h1)
  ·rintro ((h1 | h1) | h1)
   ·exact .inl (.inl h1)
   ·exact .inr h1
   ·exact .inl (.inr h1)
 ·have:=pF (xs:=[x]) (l:=A)
  have:=h.NJ
  simp only [length_append,length_cons,length_nil] at *
  omega
theorem KT (r:aG) (hs:Small r):(eH r).length <= 16:=by
 unfold eH
 rw [length_append,length_map,length_map]
 have:=hs.ins
 have:=hs.outs
 omega
theorem oM:∀ (rs:List aG),(∀ r ∈ rs,Small r) -> (rs.flatMap eH).length <= 16 * rs.length
 | [],_=>Nat.le_refl _
 | r :: rs,h=>by
  rw [flatMap_cons,length_append,length_cons]
  have:=KT r (h r (mem_cons_self ..))
  have:=oM rs fun q hq=>h q (mem_cons_of_mem _ hq)
  omega
def RM (es:List (V × V)) (rs:List aG):Prop:=eR (fun e r=>e.1 = V.str r.name /\ Rx e.2 r) es rs
theorem Rx.ok {v:V} {r:aG} (h:Rx v r):eX v = true:=by
 obtain ⟨a,b,c,d,rfl,h1,h2,h3,h4⟩:=h
 simp only [eX,List.all_cons,List.all_nil,aJ h1.is.bD,aJ h2.is.bD,aJ h3.is.bD,aJ h4.is.bD,Bool.and_true]
 rfl
theorem Kv (h:bM E) (h':sD E) {Y:Sg} {b:Nat} {es:List (V × V)} {rs:List aG} {r:aG} {v:V} (hb:Y[b]? = some (.map es)) (ha:RM es rs) (hn:∀ q ∈ rs,q.name ≠ r.name) (hv:Rx v r) :
  mapUpdate E Y 103 (.mp b) (.str r.name) v = some (Y.set b (.map (es ++ [(.str r.name,v)]))) /\ RM (es ++ [(.str r.name,v)]) (rs ++ [r]):=by
 refine ⟨?_,ha.append (.one ⟨rfl,hv⟩)⟩
 have hk:dQ E 9 (.str r.name) = true:=by unfold dQ; rw [h.dA]
 have hp:=BQ h (k:=r.name) (v:=v) (es:=es) fun e he=>by
  obtain ⟨q,hq,h1,-⟩:=ha.mem he
  exact ⟨q.name,h1,hn q hq⟩
 unfold Ax.mapUpdate
 simp only [h'.Mf,hk,hv.ok,hb,hp,Bool.not_true,Bool.or_self,Bool.false_eq_true,if_false,Option.map_some]
theorem DG {eq:V -> V -> Option Bool} {k v:V}:∀ {es es':List (V × V)},kI eq k v es = some es' -> ∀ e ∈ es',e ∈ es \/ e = (k,v)
 | [],es',h,e,he=>by
  cases h
  exact .inr (mem_singleton.1 he)
 | (k0,v0) :: r,es',h,e,he=>by
  unfold kI at h
  cases hq:eq k k0 with
  | none=>rw [hq] at h; cases h
  | some b=>
   rw [hq] at h
   cases b with
   | true=>
    cases h
    rcases mem_cons.1 he with h1 | h1
    ·exact .inr h1
    ·exact .inl (mem_cons_of_mem _ h1)
   | false=>
    dsimp only at h
    cases hr:kI eq k v r with
    | none=>rw [hr] at h; cases h
    | some r'=>
     rw [hr] at h
     cases h
     rcases mem_cons.1 he with h1 | h1
     ·exact .inl (by rw [h1]; exact mem_cons_self ..)
     ·exact (DG hr e h1).imp (mem_cons_of_mem _) id
def C8 (es:List (V × V)):Prop:=∀ e ∈ es,∃ n,e.2 = V.str n
theorem Pj (h:bM E) {Z:Sg} {b:Nat} {es:List (V × V)} {get:aU -> Option V} (hb:Z[b]? = some (.map es)) (hs:SM E es get) (hv:C8 es) (k n:aU):∃ es',mapUpdate E Z 104 (.mp b) (.str k) (.str n) = some (Z.set b (.map es')) /\ SM E es' (fun q=>if q = k then some (.str n) else get q) /\ C8 es':=by
 obtain ⟨es',h1,h2⟩:=Ey h (v:=.str n) k rfl hs
 have hk:dQ E 9 (.str k) = true:=by unfold dQ; rw [h.dA]
 refine ⟨es',?_,h2,fun e he=>?_⟩
 ·unfold Ax.mapUpdate
  simp only [h.zZ,hk,hb,h1,eX,V.a_,Bool.not_true,Bool.or_self,Bool.false_eq_true,if_false,Option.map_some]
 ·rcases DG h1 e he with h3 | h3
  ·exact hv e h3
  ·exact ⟨n,by rw [h3]⟩
theorem Fb (h:bM E) (h':sD E) {s:aU}:aB E 72 [.str s] Z K = K (.agg [.bool true,.str s]) Z:=by
 refine aB.of ?_
 rw [aH h'.hs72 h'.sp72 h'.fn72 h'.md72 (args':=[.str s]) (by simp only [aX,cZ]),aZ (by kernel_rfl)]
 simp only [aA,Tryz.f72,KP,Ax.loadAt,Ax.storeAt,↓reduceIte,reduceEqDiff,reduceLT,reduceAdd,reduceCtorEq,h.Df,h.dA,h.eM,Ax.fill,Ax.placeOf]
 exact rfl
theorem Qe (h:bM E) (h':sD E) {s:aU}:KC E 72 [.str s] Z (.agg [.bool true,.str s]) Z:=dM fun _=>Fb h h'
theorem Ra (h:bM E) (h':sD E) {s:aU}:aB E 74 [.str s] Z K = K (.agg [.bool false,.str s]) Z:=by
 refine aB.of ?_
 rw [aH h'.hs74 h'.sp74 h'.fn74 h'.md74 (args':=[.str s]) (by simp only [aX,cZ]),aZ (by kernel_rfl)]
 simp only [aA,Tryz.f74,KP,Ax.loadAt,Ax.storeAt,↓reduceIte,reduceEqDiff,reduceLT,reduceAdd,reduceCtorEq,h.Df,h.dA,h.eM,Ax.fill,Ax.placeOf]
 exact rfl
theorem JR (h:bM E) (h':sD E) {s:aU}:KC E 74 [.str s] Z (.agg [.bool false,.str s]) Z:=dM fun _=>Ra h h'
end
end
section
section
variable {E:Env} {Z:Sg} {K:V -> Sg -> Prop}
theorem VD (h:bM E) (h':sD E) (hl:Lb.dP E) {Y:Sg} {gb m0 m1 sa ma b3 b4:Nat} {es0 es1:List (V × V)} {A:List aL} {L3 L4:List cW} (ga:m_ E Y gb m0 m1 sa ma b3 b4 es0 es1 A L3 L4) {r:aG} {p1 p2 p3 p4:V} {y:Nat} (hy:Y[y]? = some (O.cells 37 [.str r.name,p1,p2,p3,p4] true)) (hA:A.length <= 1000000) (F:FT) (g5:F.get 5 = .ref gb 0) (g7:F.get 7 = .ref y 0) {st:List kA} {Q:Ax.X -> Fr -> Sg -> Prop}
  (hk:∀ F' τ',(∀ k,k ∈ [0,5,7,26,27,28] -> F'.get k = F.get k) -> m_ E τ' gb m0 m1 sa ma b3 b4 es0 es1 (keys A [gG r]) L3 L4 -> Lb.dK Y τ' -> M E st .normal ⟨88,F'⟩ τ' Q):Ax.R E (.region 9 (opsOf (cutAt [1,1,1,0,1,2,2,1,1,0,2,1,1,0] (aA Tryz.f19).code)) true) st ⟨88,F⟩ Y Q:=by
 have ga1:=ga.app (O.cells 46 [.bool true,.str r.name] true)
 have hsv:Lb.SV (Y ++ [O.cells 46 [.bool true,.str r.name] true]) (.sl Y.length 0 1 none) [gG r]:=.inr (.inr ⟨Y.length,_,true,rfl,aP,rfl⟩)
 obtain ⟨n1,v1,τ2,⟨hr,hset,hkp⟩,c1⟩:=aB.up (Lb.G7 hl ga1.all hsv (show 1 <= 10000000000 by omega) (by omega))
 obtain ⟨n2,v2,ρ2,⟨e2,e2'⟩,c2⟩:=aB.up (show aB E 72 [.str r.name] Y fun v σ'=>v = .agg [.bool true,.str r.name] /\ σ' = Y by rw [Fb h h']; exact ⟨rfl,rfl⟩)
 obtain ⟨n3,v3,ρ3,⟨e3,e3'⟩,c3⟩:=aB.up (show aB E 72 [.str r.name] (Y ++ [O.cells 46 [.bool true,.str r.name] true]) fun v σ'=>v = .agg [.bool true,.str r.name] /\ σ' = Y ++ [O.cells 46 [.bool true,.str r.name] true] by rw [Fb h h']; exact ⟨rfl,rfl⟩)
 rw [e2,e2'] at c2
 rw [e3,e3'] at c3
 have c1:=c1 (n1 + n2 + n3) (by omega)
 have c2:=c2 (n1 + n2 + n3) (by omega)
 have c3:=c3 (n1 + n2 + n3) (by omega)
 generalize n1 + n2 + n3 = n at c1 c2 c3
 have ga2:=ga1.more hset hkp
 have hma:=ga1.all.map
 have ne:∀ {k:Nat} {t:Nat} {cs:List V} {ex:Bool},(Y ++ [O.cells 46 [.bool true,.str r.name] true])[k]? = some (.cells t cs ex) -> k ≠ ma:=fun hk e=>by
  rw [e,hma] at hk
  cases hk
 have g:=ga.g
 have g1:=ga1.g
 have vr:qV 12 (.ref sa 0) (.ref sa 0) = true:=by unfold qV; simp
 have key:∃ F',cE E (ev E n) (opsOf (cutAt [1,1,1,0,1,2,2,1,1,0,2,1,1,0] (aA Tryz.f19).code)) ⟨88,F⟩ Y = some (⟨88,F'⟩,τ2) /\ (∀ k,k ∈ [0,5,7,26,27,28] -> F'.get k = F.get k):=by
  unfold cE
  rw [h'.T6,h'.Vz]
  simp only [aA,Tryz.f19,KP,Ax.loadAt,↓reduceIte,reduceEqDiff,reduceLT,reduceLeDiff,reduceAdd,reduceMul,reduceCtorEq,h.dA,h.bK,h.oW,h.eM,opsOf,cutAt,Fz.lits,gZ,bJ,bX,jV,Ax.comp,Ax.last,hU,Ax.again,Ax.fill,gU,Nat.zero_mul,hl.sP,h'.pB,g5,g7,hy,g,g1,c1,c2,vr]
  refine ⟨_,rfl,fun k hk=>?_⟩
  simp only [mem_cons,List.not_mem_nil,or_false] at hk
  rcases hk with rfl | rfl | rfl | rfl | rfl | rfl <;> simp +decide only [GS]
 obtain ⟨F',hD,hF⟩:=key
 exact Eq.mpr (gY hD) (hk F' τ2 hF ga2 ((dK.AU Y _).trans (Lb.Kp.tH hkp hma)))
end
end
section
section
variable {E:Env} {Z:Sg} {K:V -> Sg -> Prop}
theorem HH {r:aG} {j:Nat} {s:aU} (hj:r.ins[j]? = some s):(r.ins.take (j + 1)).map (fun f=>(((true,r.name):aL),((false,f):aL))) = (r.ins.take j).map (fun f=>(((true,r.name):aL),((false,f):aL))) ++ [(((true,r.name):aL),((false,s):aL))]:=by
 rw [take_add_one,hj,map_append]; rfl
theorem Fx {r:aG} {j:Nat} {s:aU} (hj:r.outs[j]? = some s):(r.outs.take (j + 1)).map (fun f=>(((false,f):aL),((true,r.name):aL))) = (r.outs.take j).map (fun f=>(((false,f):aL),((true,r.name):aL))) ++ [(((false,s):aL),((true,r.name):aL))]:=by
 rw [take_add_one,hj,map_append]; rfl
theorem Nj (h:bM E) (h':sD E) (hl:Lb.dP E) {Y:Sg} {gb m0 m1 sa ma b3 b4:Nat} {es0 es1:List (V × V)} {A:List aL} {L3 L4:List cW} (ga:m_ E Y gb m0 m1 sa ma b3 b4 es0 es1 A L3 L4) {X:List aL} {P:List (aL × aL)} (li:uR X P A L3 L4) (hX:X.length <= 1000) (hP:P.length <= 100000) {a c27:V} {i:Nat} {r:aG} {g:Bool} {p1 p2 p3 p4:V} (e1:indexAddr E 22 a (.int .i64 (i:Int)) = some (.dN g [.str r.name,p1,p2,p3,p4])) (i1:IS aK p1 r.ins) (i2:IS aK p2 r.outs) (i3:IS aK p3 r.after) (i4:IS eW p4 r.steps) (hs:Small r) {rs:List aG} (ha:RM es0 rs) (hn:∀ q ∈ rs,q.name ≠ r.name) {get:aU -> Option V} {Pm:aU -> aU -> Prop} (hsm:SM E es1 get) (hsv:C8 es1) (hmk:MK get Pm)
  (F:FT) (g0:F.get 0 = a) (g5:F.get 5 = .ref gb 0) (g26:F.get 26 = a) (g27:F.get 27 = c27) (g28:F.get 28 = .int .i64 (i:Int)) {st:List kA} {Q:Ax.X -> Fr -> Sg -> Prop}
  (hk:∀ F' τ' es0' es1' get' A' L3' L4',F'.get 0 = a -> F'.get 5 = .ref gb 0 -> F'.get 26 = a -> F'.get 27 = c27 -> F'.get 28 = .int .i64 (i:Int) -> m_ E τ' gb m0 m1 sa ma b3 b4 es0' es1' A' L3' L4' -> uR (X ++ [gG r]) (P ++ eH r) A' L3' L4' -> RM es0' (rs ++ [r]) -> SM E es1' get' -> C8 es1' -> MK get' (fun k n=>Pm k n \/ (k ∈ r.outs /\ n = r.name)) -> M E st .normal ⟨88,F'⟩ τ' Q):Ax.R E (cutAt [1,1,1,0,1,2,2,1,1,0,2] (aA Tryz.f19).code) st ⟨88,F⟩ Y Q:=by
 have o1:=aJ i1.bD
 have o2:=aJ i2.bD
 have o3:=aJ i3.bD
 have o4:=aJ i4.bD
 have a1:=hs.ins
 have a2:=hs.outs
 have l1:=bN h i1
 have l2:=bN h i2
 have d8:=h'.Yv
 simp only [aA,Tryz.f19,cutAt,Option.getD_some] at d8
 have d18:=h'.Tm
 simp only [aA,Tryz.f19,cutAt,Option.getD_some] at d18
 have d19:=h'.Tl
 simp only [aA,Tryz.f19,cutAt,Option.getD_some] at d19
 have r9:=fun {Y} {es0} {y} ga hy hA F g5 g7 st Q hk=>VD (Y:=Y) (y:=y) (r:=r) (p1:=p1) (p2:=p2) (p3:=p3) (p4:=p4) (A:=A) (L3:=L3) (L4:=L4) (gb:=gb) (m0:=m0) (m1:=m1) (sa:=sa) (ma:=ma) (b3:=b3) (b4:=b4) (es0:=es0) (es1:=es1) h h' hl ga hy hA F g5 g7 (st:=st) (Q:=Q) hk
 rw [show cutAt [1,1,1,0,1,2,2,1,1,0,2] (aA Tryz.f19).code = .seq (cutAt [1,1,1,0,1,2,2,1,1,0,2,0] (aA Tryz.f19).code) (.seq (cutAt [1,1,1,0,1,2,2,1,1,0,2,1,0] (aA Tryz.f19).code) (.seq (.region 9 (opsOf (cutAt [1,1,1,0,1,2,2,1,1,0,2,1,1,0] (aA Tryz.f19).code)) true) (cutAt [1,1,1,0,1,2,2,1,1,0,2,1,1,1] (aA Tryz.f19).code))) from rfl]
 generalize opsOf (cutAt [1,1,1,0,1,2,2,1,1,0,2,1,1,0] (aA Tryz.f19).code) = O9 at r9 ⊢
 generalize hREST:cutAt [1,1,1,0,1,2,2,1,1,0,2,1,1,1] (aA Tryz.f19).code = REST
 have ga1:=ga.app (O.cells 37 [.str r.name,p1,p2,p3,p4] true)
 have hy1:(Y ++ [O.cells 37 [.str r.name,p1,p2,p3,p4] true])[Y.length]? = some (O.cells 37 [.str r.name,p1,p2,p3,p4] true):=aP
 have gg1:=ga1.g
 simp only [aA,Tryz.f19,KP,Ax.loadAt,Ax.storeAt,↓reduceIte,reduceEqDiff,reduceLT,reduceAdd,reduceCtorEq,h.dA,h.bK,cutAt,aW d8,bS,h'.pB,h'.Mf,g5,g26,g28,e1,o1,o2,o3,o4,gg1,hy1,aP,cL]
 generalize Y ++ [O.cells 37 [.str r.name,p1,p2,p3,p4] true] = τ1 at *
 generalize Y.length = y at *
 refine aN (OE h h' (v:=.agg [.str r.name,p1,p2,p3,p4]) ⟨p1,p2,p3,p4,rfl,i1,i2,i3,i4⟩ hs) ?_
 rintro v σ' ⟨rfl,hv⟩
 obtain ⟨hu,hrm⟩:=Kv h h' ga1.rules ha hn hv
 have ga2:=ga1.rule (es0 ++ [(.str r.name,v)])
 have hy2:(σ'.set m0 (.map (es0 ++ [(.str r.name,v)])))[y]? = some (O.cells 37 [.str r.name,p1,p2,p3,p4] true):=Lb.dK.EA ga1.rules _ _ _ _ hy1
 simp only [KP,↓reduceIte,reduceEqDiff,reduceLT,hu]
 generalize σ'.set m0 (.map (es0 ++ [(.str r.name,v)])) = τ2 at *
 refine r9 ga2 hy2 (by have:=li.NJ; omega) _ ?_ ?_ _ _ (fun F3 τ3 hF3 ga3 kc3=>?_)
 ·simp +decide only [GS,g5]
 ·simp +decide only [GS]
 have li3:=li.rule (gG r)
 have hy3:=kc3 _ _ _ _ hy2
 have q0:F3.get 0 = a:=(hF3 0 (by simp)).trans (by simp +decide only [GS,g0])
 have q5:F3.get 5 = .ref gb 0:=(hF3 5 (by simp)).trans (by simp +decide only [GS,g5])
 have Ht:F3.get 26 = a:=(hF3 26 (by simp)).trans (by simp +decide only [GS,g26])
 have Vh:F3.get 27 = c27:=(hF3 27 (by simp)).trans (by simp +decide only [GS,g27])
 have Vg:F3.get 28 = .int .i64 (i:Int):=(hF3 28 (by simp)).trans (by simp +decide only [GS,g28])
 have q7:F3.get 7 = .ref y 0:=(hF3 7 (by simp)).trans (by simp +decide only [GS])
 have hX3:(X ++ [gG r]).length <= 1001:=by rw [length_append]; simp only [length_cons,length_nil]; omega
 subst hREST
 generalize X ++ [gG r] = X3 at *
 generalize keys A [gG r] = A3 at *
 have kr:=fun (Y:Sg)=>Qe (Z:=Y) h h' (s:=r.name)
 rw [Wq]
 simp only [aA,Tryz.f19,KP,Ax.loadAt,↓reduceIte,reduceLT,reduceCtorEq,h.bA,h.bK,cutAt,q7,hy3,l1]
 refine aV (fun j F Y=>F.get 0 = a /\ F.get 5 = .ref gb 0 /\ F.get 26 = a /\ F.get 27 = c27 /\ F.get 28 = .int .i64 (i:Int) /\ F.get 7 = .ref y 0 /\ F.get 50 = p1 /\ F.get 51 = .int .i64 (r.ins.length:Int) /\ F.get 52 = .int .i64 (j:Int) /\ Y[y]? = some (O.cells 37 [.str r.name,p1,p2,p3,p4] true) /\ ∃ A L3 L4,m_ E Y gb m0 m1 sa ma b3 b4 (es0 ++ [(.str r.name,v)]) es1 A L3 L4 /\ uR X3 (P ++ (r.ins.take j).map (fun f=>(((true,r.name):aL),((false,f):aL)))) A L3 L4) r.ins.length ?_ ?_ r.ins.length 0 _ _ (by omega) (Ay (by simp +decide only [GS,q0,q5,Ht,Vh,Vg,q7,and_self]) ⟨hy3,A3,L3,L4,ga3,by rw [List.take_zero,map_nil,append_nil]; exact li3⟩)
 ·rintro j F Y hj ⟨g0,g5,g26,g27,g28,g7,g50,g51,g52,hy,A,L3,L4,ga,li⟩ next
  obtain ⟨s,hsj⟩:∃ y,r.ins[j]? = some y:=⟨_,List.getElem?_eq_getElem hj⟩
  obtain ⟨g',e2⟩:=gC h i1 hsj
  have hlt:=eD hj
  have hadd:=bZ j (by omega)
  have hPl:(P ++ (r.ins.take j).map (fun f=>(((true,r.name):aL),((false,f):aL)))).length <= 100010:=by rw [length_append,length_map,length_take]; omega
  have kf:=fun (Y:Sg)=>JR (Z:=Y) h h' (s:=s)
  rw [aF]
  simp only [KP,Ax.loadAt,↓reduceIte,reduceEqDiff,reduceLT,reduceCtorEq,h.dA,h.bK,g5,g7,g50,g51,g52,hlt,e2,hy,kr,kf]
  refine aN (OA h h' hl ga (x:=(true,r.name)) (y:=(false,s)) (by have:=li.NJ; omega) (fun e he=>by have:=li.NL e he; omega) (fun e he=>by have:=li.NK e he; omega)) ?_
  rintro v2 τ' ⟨rfl,L3',L4',ga',gr3,gr4,kc⟩
  simp only [KP,↓reduceIte,reduceEqDiff,reduceLT,g52,hadd]
  refine next _ _ (Ay (by simp +decide only [GS,g0,g5,g26,g27,g28,g7,g50,g51,and_self]) ⟨kc _ _ _ _ hy,_,L3',L4',ga',?_⟩)
  rw [HH hsj,<- append_assoc]
  exact li.link gr3 gr4
 rintro F Y ⟨g0,g5,g26,g27,g28,g7,g50,g51,g52,hy,A,L3,L4,ga,li⟩
 rw [take_of_length_le (Nat.le_refl _)] at li
 have hPl:(P ++ r.ins.map (fun f=>(((true,r.name):aL),((false,f):aL)))).length <= 100010:=by rw [length_append,length_map]; omega
 rw [aF]
 have hlt:=eE (Nat.lt_irrefl r.ins.length)
 simp only [KP,Ax.loadAt,↓reduceIte,reduceEqDiff,reduceLT,reduceCtorEq,h.bA,h.bK,g51,g52,hlt,g7,hy,l2]
 generalize hP2:P ++ r.ins.map (fun f=>(((true,r.name):aL),((false,f):aL))) = P2 at *
 refine aV (fun j F Y=>F.get 0 = a /\ F.get 5 = .ref gb 0 /\ F.get 26 = a /\ F.get 27 = c27 /\ F.get 28 = .int .i64 (i:Int) /\ F.get 7 = .ref y 0 /\ F.get 65 = p2 /\ F.get 66 = .int .i64 (r.outs.length:Int) /\ F.get 67 = .int .i64 (j:Int) /\ Y[y]? = some (O.cells 37 [.str r.name,p1,p2,p3,p4] true) /\ ∃ es1 get A L3 L4,m_ E Y gb m0 m1 sa ma b3 b4 (es0 ++ [(.str r.name,v)]) es1 A L3 L4 /\ uR X3 (P2 ++ (r.outs.take j).map (fun f=>(((false,f):aL),((true,r.name):aL)))) A L3 L4 /\ SM E es1 get /\ C8 es1 /\ MK get (fun k n=>Pm k n \/ (k ∈ r.outs.take j /\ n = r.name))) r.outs.length ?_ ?_ r.outs.length 0 _ _ (by omega) (Ay (by simp +decide only [GS,g0,g5,g26,g27,g28,g7,and_self]) ⟨hy,es1,get,A,L3,L4,ga,by rw [List.take_zero,map_nil,append_nil]; exact li,hsm,hsv,hmk.congr fun k n=>by simp⟩)
 ·rintro j F Y hj ⟨g0,g5,g26,g27,g28,g7,g65,g66,g67,hy,es1,get,A,L3,L4,ga,li,hsm,hsv,hmk⟩ next
  obtain ⟨s,hsj⟩:∃ y,r.outs[j]? = some y:=⟨_,List.getElem?_eq_getElem hj⟩
  obtain ⟨g',e2⟩:=gC h i2 hsj
  have hlt:=eD hj
  have hadd:=bZ j (by omega)
  have hPl2:(P2 ++ (r.outs.take j).map (fun f=>(((false,f):aL),((true,r.name):aL)))).length <= 100020:=by rw [length_append,length_map,length_take]; omega
  have kf:=fun (Y:Sg)=>JR (Z:=Y) h h' (s:=s)
  rw [aF]
  simp only [KP,Ax.loadAt,↓reduceIte,reduceEqDiff,reduceLT,reduceCtorEq,h.dA,h.bK,aW d18,bS,g5,g7,g65,g66,g67,hlt,e2,hy,kr,kf]
  refine aN (OA h h' hl ga (x:=(false,s)) (y:=(true,r.name)) (by have:=li.NJ; omega) (fun e he=>by have:=li.NL e he; omega) (fun e he=>by have:=li.NK e he; omega)) ?_
  rintro v2 τ' ⟨rfl,L3',L4',ga',gr3,gr4,kc⟩
  have hy':=kc _ _ _ _ hy
  have hg':=ga'.g
  obtain ⟨es1',hu,hsm',hsv'⟩:=Pj h ga'.jG hsm hsv s r.name
  have ga2:=ga'.Ny es1'
  simp only [KP,Ax.loadAt,↓reduceIte,reduceEqDiff,reduceLT,reduceCtorEq,h.dA,h.bK,h.zZ,aW d19,bS,h'.pB,g5,g7,g67,hadd,hy',hg',hu]
  refine next _ _ (Ay (by simp +decide only [GS,g0,g5,g26,g27,g28,g7,g65,g66,and_self]) ⟨Lb.dK.EA ga'.jG _ _ _ _ hy',es1',_,_,L3',L4',ga2,?_,hsm',hsv',(hmk.put s r.name).congr fun k n=>?_⟩)
  ·rw [Fx hsj,<- append_assoc]
   exact li.link gr3 gr4
  ·rw [fJ hsj k]
   constructor
   ·rintro ((h1 | h1) | h1)
    ·exact .inl h1
    ·exact .inr ⟨.inl h1.1,h1.2⟩
    ·exact .inr ⟨.inr h1.1,h1.2⟩
   ·rintro (h1 | ⟨h1 | h1,h2⟩)
    ·exact .inl (.inl h1)
    ·exact .inl (.inr ⟨h1,h2⟩)
    ·exact .inr ⟨h1,h2⟩
 rintro F Y ⟨g0,g5,g26,g27,g28,g7,g65,g66,g67,hy,es1,get,A,L3,L4,ga,li,hsm,hsv,hmk⟩
 rw [take_of_length_le (Nat.le_refl _)] at li hmk
 rw [aF]
 have hlt:=eE (Nat.lt_irrefl r.outs.length)
 simp only [KP,↓reduceIte,reduceLT,g66,g67,hlt]
 refine hk _ _ _ _ _ _ _ _ (by simp +decide only [GS,g0]) (by simp +decide only [GS,g5]) (by simp +decide only [GS,g26]) (by simp +decide only [GS,g27]) (by simp +decide only [GS,g28]) ga ?_ hrm hsm hsv hmk
 unfold eH
 rw [<- append_assoc,hP2]
 exact li
end
end
section
section
variable {E:Env} {Z:Sg} {K:V -> Sg -> Prop}
theorem D3 {rs:List aG} {i:Nat} {r:aG} (hr:rs[i]? = some r):(rs.take (i + 1)).flatMap eH = (rs.take i).flatMap eH ++ eH r /\ (rs.take (i + 1)).map gG = (rs.take i).map gG ++ [gG r]:=by
 rw [take_add_one,hr]
 simp
theorem nw_c (h:bM E) (h':sD E) (hl:Lb.dP E) {a:V} {rs:List aG} (ia:IS dW a rs) (hs:∀ x ∈ rs,Small x) (hsh:Eh rs) (hlen:rs.length <= 1000) (F:FT) (g0:F.get 0 = a) {K:V -> Sg -> Prop}
  (hk:∀ Y gb ma b3 b4 es0 es1 get A L3 L4,m_ E Y gb 0 1 2 ma b3 b4 es0 es1 A L3 L4 -> uR (rs.map gG) (rs.flatMap eH) A L3 L4 -> RM es0 rs -> SM E es1 get -> C8 es1 -> MK get (Mk rs) -> K (.ref gb 0) Y):Ax.R E (cutAt [1,1] (aA Tryz.f19).code) [] ⟨88,F⟩ [] (mG E (aA Tryz.f19).results K):=by
 have la:=cT h ia
 have inner:=fun {Y gb ma b3 b4 es0 es1 A L3 L4} ga {X P} li hX hP {i r g p1 p2 p3 p4} e1 i1 i2 i3 i4 hs {rs2} ha hn {get Pm} hsm hsv hmk F g0 g5 g26 g27 g28 st Q hk=>Nj (Y:=Y) (gb:=gb) (m0:=0) (m1:=1) (sa:=2) (ma:=ma) (b3:=b3) (b4:=b4) (es0:=es0) (es1:=es1) (A:=A) (L3:=L3) (L4:=L4) (X:=X) (P:=P) (a:=a) (c27:=.int .i64 (rs.length:Int)) (i:=i) (r:=r) (g:=g) (p1:=p1) (p2:=p2) (p3:=p3) (p4:=p4) (rs:=rs2) (get:=get) (Pm:=Pm) h h' hl ga li hX hP e1 i1 i2 i3 i4 hs ha hn hsm hsv hmk F g0 g5 g26 g27 g28 (st:=st) (Q:=Q) hk
 rw [show cutAt [1,1] (aA Tryz.f19).code = .seq (cutAt [1,1,0] (aA Tryz.f19).code) (.seq (.seq (cutAt [1,1,1,0,0] (aA Tryz.f19).code) (.block 0 (.loop (.seq (cutAt [1,1,1,0,1,2,2,0] (aA Tryz.f19).code) (.seq (cutAt [1,1,1,0,1,2,2,1,0] (aA Tryz.f19).code) (.seq (.block 1 (cutAt [1,1,1,0,1,2,2,1,1,0,2] (aA Tryz.f19).code)) (cutAt [1,1,1,0,1,2,2,1,1,1] (aA Tryz.f19).code))))))) (cutAt [1,1,1,1] (aA Tryz.f19).code)) from rfl]
 generalize cutAt [1,1,1,0,1,2,2,1,1,0,2] (aA Tryz.f19).code = B at inner ⊢
 simp only [aA,Tryz.f19,KP,↓reduceIte,reduceLT,cutAt]
 refine aN (Lb.OH hl (Z:=[.map [],.map []]) (v:=.aD) (l:=[]) (.inl ⟨rfl,rfl⟩) (by simp)) ?_
 rintro v τ1 ⟨m,rfl,hset,hlt,jZ⟩
 have k0:=jZ 0 _ rfl
 have k1:=jZ 1 _ rfl
 have hs2:Lb.bY τ1 2 m []:=hset
 have hlt:2 < m:=hlt
 have hml:=(List.getElem?_eq_some_iff.1 hs2.map).1
 simp only [KP,↓reduceIte,reduceEqDiff,reduceLT,reduceAdd,reduceCtorEq,h.zZ,Ax.fill,Ax.placeOf,hl.sP,h'.pB,h'.Mf,h'.nW,g0,la]
 have ga0:m_ E (τ1 ++ [.map []] ++ [.map []] ++ [.cells 107 [.mp 0,.mp 1,.ref 2 0,.mp τ1.length,.mp (τ1 ++ [O.map []]).length] true]) (τ1 ++ [O.map []] ++ [O.map []]).length 0 1 2 m τ1.length (τ1 ++ [O.map []]).length [] [] [] [] []:=by
  refine ⟨aP,aM (aM (aM k0)),aM (aM (aM k1)),bY.app (bY.app (bY.app hs2 _) _) _,⟨aM (aM aP),(fun e he=>by cases he),nodup_nil⟩,⟨aM aP,(fun e he=>by cases he),nodup_nil⟩,?_⟩
  rw [length_append]
  simp only [map_nil,append_nil,nodup_cons,mem_cons,List.not_mem_nil,or_false,not_or,length_cons,length_nil,not_false_eq_true,nodup_nil,and_true]
  omega
 generalize τ1 ++ [.map []] ++ [.map []] ++ [.cells 107 [.mp 0,.mp 1,.ref 2 0,.mp τ1.length,.mp (τ1 ++ [O.map []]).length] true] = τ2 at *
 generalize (τ1 ++ [O.map []] ++ [O.map []]).length = gb at *
 generalize (τ1 ++ [O.map []]).length = b4 at *
 generalize τ1.length = b3 at *
 refine aV (fun i F Y=>F.get 0 = a /\ F.get 5 = .ref gb 0 /\ F.get 26 = a /\ F.get 27 = .int .i64 (rs.length:Int) /\ F.get 28 = .int .i64 (i:Int) /\ ∃ es0 es1 get A L3 L4,m_ E Y gb 0 1 2 m b3 b4 es0 es1 A L3 L4 /\ uR ((rs.take i).map gG) ((rs.take i).flatMap eH) A L3 L4 /\ RM es0 (rs.take i) /\ SM E es1 get /\ C8 es1 /\ MK get (Mk (rs.take i))) rs.length ?_ ?_ rs.length 0 _ _ (by omega) (lY (by simp +decide only [GS,g0,and_self]) ⟨[],[],fun _=>none,[],[],[],ga0,uR.nil,.nil,HT,(fun e he=>by cases he),MK.nil.congr fun k n=>⟨fun h=>h.elim,fun ⟨q,hq,_⟩=>by cases hq⟩⟩)
 ·rintro i F Y hi ⟨g0,g5,g26,g27,g28,es0,es1,get,A,L3,L4,ga,li,ha,hsm,hsv,hmk⟩ next
  obtain ⟨r,hr⟩:∃ y,rs[i]? = some y:=⟨_,List.getElem?_eq_getElem hi⟩
  obtain ⟨g,p1,p2,p3,p4,e1,i1,i2,i3,i4⟩:=fC h ia hr
  have hrm:=mem_of_getElem? hr
  have hlt:=eD hi
  have hadd:=bZ i (by omega)
  have hnn:∀ q ∈ rs.take i,q.name ≠ r.name:=fun q hq e=>by
   obtain ⟨j,hj⟩:=List.mem_iff_getElem?.1 hq
   have hji:j < i:=by have:=(List.getElem?_eq_some_iff.1 hj).1; rw [length_take] at this; omega
   rw [List.getElem?_take_of_lt hji] at hj
   have:=hsh.nodup j i q r hj hr e
   omega
  have hXl:((rs.take i).map gG).length <= 1000:=by rw [length_map,length_take]; omega
  have hPl:((rs.take i).flatMap eH).length <= 100000:=by
   have:=oM (rs.take i) fun q hq=>hs q (List.mem_of_mem_take hq)
   rw [length_take] at this
   omega
  rw [aF]
  simp only [KP,↓reduceIte,reduceLT,g27,g28,hlt]
  refine inner ga li hXl hPl e1 i1 i2 i3 i4 (hs r hrm) ha hnn hsm hsv hmk _ ?_ ?_ ?_ ?_ ?_ _ _ (fun F2 τ2 es0' es1' get' A' L3' L4' q0 q5 Ht Vh Vg ga' li' ha' hsm' hsv' hmk'=>?_)
  ·simp +decide only [GS,g0]
  ·simp +decide only [GS,g5]
  ·simp +decide only [GS,g26]
  ·simp +decide only [GS,g27]
  ·simp +decide only [GS,g28]
  simp only [KP,↓reduceIte,reduceLT,Vg,hadd]
  refine next _ _ (lY (by simp +decide only [GS,q0,q5,Ht,Vh,and_self]) ⟨es0',es1',get',A',L3',L4',ga',?_,?_,hsm',hsv',hmk'.congr fun k n=>(Kk hr k n).symm⟩)
  ·rw [(D3 hr).1,(D3 hr).2]; exact li'
  ·rw [take_add_one,hr]; exact ha'
 ·rintro F Y ⟨g0,g5,g26,g27,g28,es0,es1,get,A,L3,L4,ga,li,ha,hsm,hsv,hmk⟩
  rw [take_of_length_le (Nat.le_refl _)] at li ha hmk
  have hlt:=eE (Nat.lt_irrefl rs.length)
  rw [aF]
  simp only [KP,↓reduceIte,reduceEqDiff,reduceLT,g5,g27,g28,hlt]
  exact hk _ _ _ _ _ _ _ _ _ _ _ ga li ha hsm hsv hmk
end
end
section
section
variable {E:Env} {Z:Sg} {K:V -> Sg -> Prop}
def uO (ks:List aL):V:=.dN false [.imp false (Lb.lV ks)]
def zO (e:cW):V × V:=(oI e.key,uO e.ks)
def gV (es0 es1:List (V × V)) (A:List aL) (L3 L4:List cW):V:=.dN false [.imp false es0,.imp false es1,uO A,.imp false (L3.map zO),.imp false (L4.map zO)]
structure LZ (E:Env) (rs:List aG) (es0 es1:List (V × V)) (get:aU -> Option V) (A:List aL) (L3 L4:List cW):Prop where
 rules:RM es0 rs
 sm:SM E es1 get
 sv:C8 es1
 Ny:MK get (Mk rs)
 li:uR (rs.map gG) (rs.flatMap eH) A L3 L4
 nA:A.Nodup
 n3:(L3.map cW.key).Nodup
 n4:(L4.map cW.key).Nodup
 k3:∀ e ∈ L3,e.ks.Nodup
 k4:∀ e ∈ L4,e.ks.Nodup
def IX (E:Env) (rs:List aG) (v:V):Prop:=∃ es0 es1 get A L3 L4,v = gV es0 es1 A L3 L4 /\ LZ E rs es0 es1 get A L3 L4
theorem Gi {α β γ:Type} {f:β -> Option γ} {g:α -> β} {k:α -> γ}:∀ {l:List α},(∀ x ∈ l,f (g x) = some (k x)) -> aX f (l.map g) = some (l.map k)
 | [],_=>rfl
 | x :: l,h=>by rw [map_cons,aX,h x (mem_cons_self ..),Gi fun y hy=>h y (mem_cons_of_mem _ hy)]; rfl
theorem BB {Z:Sg} {b m n:Nat} {ks:List aL} (hs:Lb.bY Z b m ks):bT Z E.ty false (n + 3) (.ref b 0) = some (uO ks):=by
 have e1:bT Z E.ty false (n + 2) (.mp m) = some (.imp false (Lb.lV ks)):=by
  rw [bT]
  simp only [hs.map]
  rw [Lb.Gj (Lb.lV ks)]
  intro e he
  obtain ⟨k,_,rfl⟩:=mem_map.1 he
  rfl
 rw [bT]
 simp only [hs.obj,drop_zero]
 show (match aX (fun v=>match bT Z E.ty false (n + 2) v with
  | some v=>if cK false v then some v else no "snap: borrowed"
  | none=>none) [V.mp m] with
  | some l=>some (V.dN false l)
  | none=>none) = _
 simp only [aX,e1]
 rfl
theorem BA {Z:Sg} {b n:Nat} {L:List cW} (hm:iH Z b L):bT Z E.ty false (n + 4) (.mp b) = some (.imp false (L.map zO)):=by
 rw [bT]
 simp only [hm.map]
 rw [Gi (k:=zO) fun e he=>?_]
 have h1:=BB (E:=E) (n:=n) (hm.sets e he)
 have hp:(oI e.key).cells.all Ax.plainCell = true:=rfl
 show (if (oI e.key).cells.all Ax.plainCell = true then (match (match bT Z E.ty false (n + 3) (.ref e.s 0) with
   | some v=>if cK false v then some v else no "snap: borrowed"
   | none=>none) with
   | some v=>some (oI e.key,v)
   | none=>none) else none) = _
 rw [if_pos hp,h1]
 rfl
theorem FJ {Z:Sg} {b n:Nat} {es:List (V × V)} {rs:List aG} (hb:Z[b]? = some (.map es)) (ha:RM es rs):bT Z E.ty false (n + 2) (.mp b) = some (.imp false es):=by
 rw [bT]
 simp only [hb]
 rw [iR fun e he=>?_]
 obtain ⟨r,-,e1,a,b,c,d,e2,i1,i2,i3,i4⟩:=ha.mem he
 obtain ⟨k,v⟩:=e
 dsimp only at e1 e2
 subst e1 e2
 have hp:(V.str r.name).cells.all Ax.plainCell = true:=rfl
 have q:∀ c:V,Ax.bD c = true -> bT Z E.ty false (n + 1) c = some c:=fun c h1=>jK h1
 have t0:cK false (V.str r.name) = true:=rfl
 simp only [hp,if_true,aX,q (.str r.name) rfl,q a i1.is.bD,q b i2.is.bD,q c i3.is.bD,q d i4.is.bD,t0,i1.tag,i2.tag,i3.tag,i4.tag]
theorem HS {Z:Sg} {b n:Nat} {es:List (V × V)} {get:aU -> Option V} (hb:Z[b]? = some (.map es)) (hs:SM E es get) (hv:C8 es):bT Z E.ty false (n + 2) (.mp b) = some (.imp false es):=by
 rw [bT]
 simp only [hb]
 rw [iR fun e he=>?_]
 obtain ⟨k,e1⟩:=(hs.1 e he).1
 obtain ⟨m,e2⟩:=hv e he
 obtain ⟨a,v⟩:=e
 dsimp only at e1 e2
 subst e1 e2
 rfl
theorem HR {Z:Sg} {gb m0 m1 sa ma b3 b4:Nat} {es0 es1:List (V × V)} {get:aU -> Option V} {A:List aL} {L3 L4:List cW} {rs:List aG} (ga:m_ E Z gb m0 m1 sa ma b3 b4 es0 es1 A L3 L4) (ha:RM es0 rs) (hs:SM E es1 get) (hv:C8 es1):cP Z E.ty false (.ref gb 0) = some (gV es0 es1 A L3 L4):=by
 have s0:=FJ (E:=E) (n:=9) ga.rules ha
 have s1:=HS (E:=E) (n:=9) ga.jG hs hv
 have s2:=BB (E:=E) (n:=8) ga.all
 have s3:=BA (E:=E) (n:=7) ga.jF
 have s4:=BA (E:=E) (n:=7) ga.iZ
 have e:bT Z E.ty false 12 (.ref gb 0) = some (gV es0 es1 A L3 L4):=by
  rw [bT]
  simp only [ga.g,drop_zero]
  show (match aX (fun v=>match bT Z E.ty false 11 v with
   | some v=>if cK false v then some v else no "snap: borrowed"
   | none=>none) [V.mp m0,V.mp m1,V.ref sa 0,V.mp b3,V.mp b4] with
   | some l=>some (V.dN false l)
   | none=>none) = _
  simp only [aX,s0,s1,s2,s3,s4]
  rfl
 show (match bT Z E.ty false 12 (.ref gb 0) with
  | some v=>if cK false v then some v else no "snap: borrowed"
  | none=>none) = _
 rw [e]
 rfl
theorem IG (h:bM E) (h':sD E) (hl:Lb.dP E) {a:V} {rs:List aG} (ha:LS dW 37 Z a rs) (hs:∀ x ∈ rs,Small x) (hlen:rs.length <= 4294967296):aB E 19 [a] Z fun v σ'=>σ' = Z /\ ((¬ mO rs /\ v = .fP) \/ (mO rs /\ IX E rs v)):=by
 obtain ⟨a',ea,ia⟩:=eS h ha
 rw [aH h'.hs19 h'.MF h'.fn19 h'.md19 (args':=[a']) (by simp only [aX,ea]),aZ (by kernel_rfl)]
 have key:=fun hsh hlen F g0 hk=>nw_c (a:=a') (rs:=rs) h h' hl ia hs hsh hlen F g0 (K:=fun v σ1=>match cP σ1 E.ty false v with
   | some v=>((¬ mO rs /\ v = .fP) \/ (mO rs /\ IX E rs v))
   | none=>False) hk
 rw [show (aA Tryz.f19).code = .seq (cutAt [0] (aA Tryz.f19).code) (.seq (cutAt [1,0] (aA Tryz.f19).code) (cutAt [1,1] (aA Tryz.f19).code)) from rfl]
 generalize cutAt [1,1] (aA Tryz.f19).code = C at key ⊢
 simp only [aA,Tryz.f19,KP,↓reduceIte,reduceLT,reduceCtorEq,cutAt]
 refine aN (TL h (ia.ls _ 37) hs hlen) ?_
 rintro v σ' ⟨rfl,e,nm,rfl,hE⟩
 by_cases he:e = 0
 ·have q:=decide_eq_true he
  have hr:=hE.zero.1 he
  have hg:=A9 hr.1
  have h40:=hg.len
  simp only [KP,↓reduceIte,reduceEqDiff,reduceLT,q]
  refine key hg.short (Nat.le_trans h40 (by decide)) _ ?_ ?_
  ·simp +decide only [GS]
  intro Y gb ma b3 b4 es0 es1 get A L3 L4 ga li ha hsm hsv hmk
  rw [HR ga ha hsm hsv]
  exact .inr ⟨hr,es0,es1,get,A,L3,L4,rfl,ha,hsm,hsv,hmk,li,ga.all.nodup,ga.jF.nodup,ga.iZ.nodup,fun e he=>(ga.jF.sets e he).nodup,fun e he=>(ga.iZ.sets e he).nodup⟩
 ·have q:=decide_eq_false he
  simp only [KP,↓reduceIte,reduceEqDiff,reduceLT,q]
  exact .inl ⟨mt hE.zero.2 he,rfl⟩
end
end
section
structure Hw (E:Env):Prop where
 hs23:E.hspec 23 = none
 MC:E.spec 23 = none
 fn23:E.fn 23 = some (aA Tryz.f23)
 md23:E.mode 23 = .eU
 hs36:E.hspec 36 = none
 sp36:E.spec 36 = none
 fn36:E.fn 36 = some (aA Tryz.f36)
 md36:E.mode 36 = .eU
 hs26:E.hspec 26 = none
 MB:E.spec 26 = none
 fn26:E.fn 26 = some (aA Tryz.f26)
 md26:E.mode 26 = .eU
 hs33:E.hspec 33 = none
 sp33:E.spec 33 = none
 fn33:E.fn 33 = some (aA Tryz.f33)
 md33:E.mode 33 = .eU
 hs39:E.hspec 39 = none
 sp39:E.spec 39 = none
 fn39:E.fn 39 = some (aA Tryz.f39)
 md39:E.mode 39 = .eU
 WC:E.hspec 76 = none
 Ua:E.spec 76 = none
 Xu:E.fn 76 = some (aA Tryz.f76)
 VI:E.mode 76 = .eU
 Yu:aO E (cutAt [1,1,0] (aA Tryz.f23).code) = true
 Yq:aO E (cutAt [1,1,0] (aA Tryz.f36).code) = true
 Yt:aO E (cutAt [1,0,2,0] (aA Tryz.f26).code) = true
 Ys:aO E (cutAt [1,0,2,1,1,1,1,0] (aA Tryz.f26).code) = true
section
variable {E:Env} {Z:Sg} {K:V -> Sg -> Prop}
def Hv (v:V) (l:List aL):Prop:=(v = .aD /\ l = []) \/ ∃ full,v = .bR false (l.map row) full
theorem Hv.lv {v:V} {l:List aL} (h:Hv v l):Lb.LV v l:=h.imp id fun ⟨f,e⟩=>⟨false,f,e⟩
def CN (ks:List aL):Prop:=ks.length <= 1000000 /\ ∀ k ∈ ks,k.2.length <= 9223372036854775807
theorem Dt:∀ l:List aL,Ax.rows 2 l.length (l.flatMap row) = l.map row
 | []=>rfl
 | x :: l=>by
  rw [length_cons,flatMap_cons,Ax.rows,map_cons]
  have h1:(row x ++ l.flatMap row).take 2 = row x:=rfl
  have h2:(row x ++ l.flatMap row).drop 2 = l.flatMap row:=rfl
  rw [h1,h2,Dt l]
theorem KE (hl:Lb.dP E) {Z:Sg} {j:Nat} {l:List aL} {ex:Bool} (hj:Z[j]? = some (.cells 46 (l.flatMap row) ex)):∃ v',cP Z E.ty false (.sl j 0 l.length none) = some v' /\ Hv v' l:=by
 have hlen:(l.flatMap row).length = l.length * 2:=Lb.pH l
 obtain ⟨full,e⟩:=Bz (g:=false) (n:=l.length) hj hl.eM (show l.length * 2 <= _ by omega) (fun c hc=>by
  rw [show (l.flatMap row).take (l.length * 2) = l.flatMap row from take_of_length_le (by omega)] at hc
  obtain ⟨x,-,hx⟩:=mem_flatMap.1 hc
  unfold row at hx
  simp only [mem_cons,List.not_mem_nil,or_false] at hx
  rcases hx with rfl | rfl <;> exact ⟨rfl,rfl⟩)
 refine ⟨_,e,.inr ⟨full,?_⟩⟩
 show V.bR false (Ax.rows 2 l.length ((l.flatMap row).take (l.length * 2))) full = _
 rw [take_of_length_le (by omega),Dt]
theorem uU (hl:Lb.dP E) {Z σ':Sg} {r:V} {l:List aL} (h:Lb.Own Z σ' r l):∃ v',cP σ' E.ty false r = some v' /\ Hv v' l:=by
 rcases h with ⟨rfl,rfl⟩ | ⟨j,-,rfl,hj⟩
 ·exact ⟨.aD,rfl,.inl ⟨rfl,rfl⟩⟩
 ·exact KE hl hj
theorem HO {ks:List aL} (hn:ks.Nodup) (hs:CN ks) {j:Nat} {g:Bool} (hj:Z[j]? = some (.cells 82 [.imp g (Lb.lV ks)] true)) :
  kR 46 [129] [] 89 [.fn 129 [] [.ref j 0],.fn 89 [] []] Z = some (if ks = [] then (.aD,Z) else (.sl Z.length 0 ks.length none,Z ++ [.cells 46 ((setOf ks).flatMap row) false])):=by
 have hk:keysOf Z [129] [] (.fn 129 [] [.ref j 0]) = some (ks.map row):=by
  unfold keysOf
  simp only [hj]
  exact congrArg some (Lb.Du ks)
 show pG 46 [129] [] kP qH (.fn 129 [] [.ref j 0]) Z = _
 unfold pG
 rw [hk]
 cases hks:ks with
 | nil=>rfl
 | cons k r=>
  have ha:=Lb.wC ks hs.2
  have hk2:=Dj hn
  have hlen:=hs.1
  rw [hks] at ha hk2 hlen
  rw [map_cons] at ha hk2 ⊢
  rw [if_neg (by simp)]
  show (match allRows kP (row k :: r.map row),Nat.ble (row k :: r.map row).length 1000000 with
   | true,true=>some (V.sl Z.length 0 (row k :: r.map row).length none,Z ++ [O.cells 46 (kE qH (row k :: r.map row)).flatten false])
   | _,_=>none) = _
  rw [ha,Nat.ble_eq_true_of_le (by simpa using hlen),hk2,Lb.GN]
  simp
theorem Rm (hl:Lb.dP E) (h:bM E) {g:Bool} {es:List (V × V)}:aB E 88 [.imp g es] Z K = K (.fn 129 [] [.ref Z.length 0]) (Z ++ [.cells 82 [.imp g es] true]):=by
 refine aB.of ?_
 rw [c_ hl.WA hl.T_ hl.Xt hl.VH,aZ (by kernel_rfl)]
 simp only [aA,Tryz.f88,KP,↓reduceIte,reduceEqDiff,reduceLT,hl.uN]
theorem TM (hl:Lb.dP E) (h:bM E) {g g':Bool} {ks:List aL} (hn:ks.Nodup) (hsm:CN ks):aB E 50 [.dN g [.imp g' (Lb.lV ks)]] Z fun r σ'=>Lb.Own Z σ' r (setOf ks):=by
 rw [c_ hl.WE hl.Uc hl.Xw hl.VK,aZ (by kernel_rfl)]
 have kk:=dM fun K=>Rm (Z:=Z) (K:=K) hl h (g:=g') (es:=Lb.lV ks)
 simp only [aA,Tryz.f50,KP,Ax.loadAt,↓reduceIte,reduceLT,reduceCtorEq,hl.uN,hl.uM,hl.I4,nC,kk]
 have hj:(Z ++ [O.cells 82 [.imp g' (Lb.lV ks)] true])[Z.length]? = some (.cells 82 [.imp g' (Lb.lV ks)] true):=aP
 have hsk:=HO hn hsm hj
 unfold CQ
 rw [nJ hl.WB,hsk]
 by_cases hks:ks = []
 ·rw [if_pos hks]
  simp only [cV]
  simp only [KP,↓reduceIte,reduceLT]
  subst hks
  exact .inl ⟨rfl,rfl⟩
 ·rw [if_neg hks]
  simp only [cV]
  simp only [KP,↓reduceIte,reduceLT]
  refine .inr ⟨_,?_,by rw [wN hn],?_⟩
  ·rw [length_append]; omega
  ·exact aP
theorem TG (hl:Lb.dP E) (h:bM E) {g g':Bool} {ks:List aL} (x:aL):aB E 48 [.dN g [.imp g' (Lb.lV ks)],.agg [.bool x.1,.str x.2]] Z K = K (.bool (decide (x ∈ ks))) Z:=by
 refine aB.of ?_
 have hi:Ax.bD (.dN g [.imp g' (Lb.lV ks)]) = true:=rfl
 have e1:=cO (Z:=Z) (ty:=E.ty) hi (b_ hi)
 have e2:aT Z E.ty true (.agg [.bool x.1,.str x.2]) = some (.agg [.bool x.1,.str x.2]):=rfl
 have d1:=hl.Yp
 simp only [aA,Tryz.f48,cutAt,Option.getD_some] at d1
 rw [aH hl.hs48 hl.sp48 hl.fn48 hl.md48 (args':=[.dN g [.imp g' (Lb.lV ks)],.agg [.bool x.1,.str x.2]]) (by simp only [aX,e1,e2]),aZ (by kernel_rfl)]
 have hk:=Lb.qJ hl x.1 x.2
 have hf:=Lb.BR hl x ks
 by_cases hx:x ∈ ks
 ·simp only [aA,Tryz.f48,KP,Ax.loadAt,↓reduceIte,reduceEqDiff,reduceLT,reduceAdd,reduceCtorEq,h.Df,h.eM,hl.uN,hl.uM,hl.I4,nC,aW d1,bS,Ax.lookup,hk,Ax.entriesOf,hf,hx]
  exact rfl
 ·simp only [aA,Tryz.f48,KP,Ax.loadAt,↓reduceIte,reduceEqDiff,reduceLT,reduceAdd,reduceCtorEq,h.Df,h.eM,hl.uN,hl.uM,hl.I4,nC,aW d1,bS,Ax.lookup,hk,Ax.entriesOf,hf,hx]
  exact rfl
end
end
section
section
variable {E:Env} {Z:Sg} {K:V -> Sg -> Prop}
def jR (rs:List aG):List aL:=setOf (rs.map gG ++ (rs.flatMap eH).flatMap fun p=>[p.1,p.2])
def uY (rs:List aG) (x:aL):List aL:=setOf (((rs.flatMap eH).filter fun p=>decide (p.1 = x)).map Prod.snd)
def uS (rs:List aG) (x:aL):List aL:=setOf (((rs.flatMap eH).filter fun p=>decide (p.2 = x)).map Prod.fst)
theorem zB {rs:List aG} {x w:aL}:w ∈ uY rs x ↔ (x,w) ∈ rs.flatMap eH:=by
 unfold uY
 rw [iA,mem_map]
 constructor
 ·rintro ⟨⟨a,b⟩,h1,rfl⟩
  obtain ⟨h1,h2⟩:=mem_filter.1 h1
  rw [<- of_decide_eq_true h2]
  exact h1
 ·exact fun h1=>⟨(x,w),mem_filter.2 ⟨h1,decide_eq_true rfl⟩,rfl⟩
theorem zA {rs:List aG} {x w:aL}:w ∈ uS rs x ↔ (w,x) ∈ rs.flatMap eH:=by
 unfold uS
 rw [iA,mem_map]
 constructor
 ·rintro ⟨⟨a,b⟩,h1,rfl⟩
  obtain ⟨h1,h2⟩:=mem_filter.1 h1
  rw [<- of_decide_eq_true h2]
  exact h1
 ·exact fun h1=>⟨(w,x),mem_filter.2 ⟨h1,decide_eq_true rfl⟩,rfl⟩
theorem BW {rs:List aG} {x:aL}:x ∈ jR rs ↔ x ∈ rs.map gG \/ ∃ p ∈ rs.flatMap eH,x = p.1 \/ x = p.2:=by
 unfold jR
 rw [iA,mem_append,mem_flatMap]
 refine or_congr Iff.rfl (exists_congr fun p=>and_congr Iff.rfl ?_)
 simp
theorem Rt (rs:List aG):Up (jR rs):=mQ _
theorem Gb (rs:List aG) (x:aL):Up (uY rs x):=mQ _
theorem Ft (rs:List aG) (x:aL):Up (uS rs x):=mQ _
structure Fits (rs:List aG):Prop where
 ok:mO rs
 small:∀ x ∈ rs,Small x
theorem tE {s:aU} (h:bH s = true):s.length <= 40:=by
 unfold bH at h
 simp only [Bool.and_eq_true,decide_eq_true_eq] at h
 exact h.1.2
theorem Ib {s:aU} (h:bH s = true):s ≠ []:=by
 rintro rfl
 revert h
 decide
theorem Fits.form {rs:List aG} (h:Fits rs):∀ r ∈ rs,j_ r = true:=fun r hr=>by
 have h0:=h.ok.1
 unfold gB at h0
 cases hf:rs.find? (fun r=>decide (bB r ≠ 0)) with
 | some q=>
  rw [hf] at h0
  have:=find?_some hf
  exact absurd h0 (of_decide_eq_true this)
 | none=>
  have:=find?_eq_none.1 hf r hr
  have h1:bB r = 0:=by
   refine Classical.byContradiction fun hne=>this (decide_eq_true hne)
  unfold bB at h1
  by_cases hq:j_ r = false
  ·rw [if_pos hq] at h1; cases h1
  ·simpa using hq
theorem Fits.names {rs:List aG} (h:Fits rs):∀ r ∈ rs,bH r.name = true /\ (∀ f ∈ r.ins,bH f = true) /\ ∀ f ∈ r.outs,bH f = true:=fun r hr=>by
 have:=h.form r hr
 rw [DW] at this
 simp only [Bool.and_eq_true,List.all_eq_true] at this
 exact ⟨this.1.1.1.1.1,this.1.1.1.2,this.1.1.2⟩
theorem Fits.pair {rs:List aG} (h:Fits rs) {p:aL × aL} (hp:p ∈ rs.flatMap eH):bH p.1.2 = true /\ bH p.2.2 = true:=by
 obtain ⟨r,hr,hp⟩:=mem_flatMap.1 hp
 obtain ⟨h1,h2,h3⟩:=h.names r hr
 unfold eH at hp
 rcases mem_append.1 hp with hp | hp
 ·obtain ⟨f,hf,rfl⟩:=mem_map.1 hp
  exact ⟨h1,h2 f hf⟩
 ·obtain ⟨f,hf,rfl⟩:=mem_map.1 hp
  exact ⟨h3 f hf,h1⟩
theorem Fits.lab {rs:List aG} (h:Fits rs) {x:aL} (hx:x ∈ jR rs):bH x.2 = true:=by
 rcases BW.1 hx with hx | ⟨p,hp,rfl | rfl⟩
 ·obtain ⟨r,hr,rfl⟩:=mem_map.1 hx
  exact (h.names r hr).1
 ·exact (h.pair hp).1
 ·exact (h.pair hp).2
theorem Fits.len {rs:List aG} (h:Fits rs):rs.length <= 40:=(A9 h.ok.1).len
theorem Fits.Sz {rs:List aG} (h:Fits rs):(rs.flatMap eH).length <= 640:=by
 have:=oM rs h.small
 have:=h.len
 omega
section
variable {rs:List aG} {es0 es1:List (V × V)} {get:aU -> Option V} {A:List aL} {L3 L4:List cW}
theorem LZ.all (hi:LZ E rs es0 es1 get A L3 L4):setOf A = jR rs:=FM fun x=>by
 rw [hi.li.all,mem_append,mem_flatMap]
 refine or_congr Iff.rfl (exists_congr fun p=>and_congr Iff.rfl ?_)
 simp
theorem EW {L:List cW} {e:cW} {x:aL} (he:bL L x = some e):qI L x = e.ks:=by unfold qI; rw [he]
theorem JN {L:List cW} {x:aL} (he:bL L x = none):qI L x = []:=by unfold qI; rw [he]
theorem LZ.need (hi:LZ E rs es0 es1 get A L3 L4) (x:aL):setOf (qI L3 x) = uY rs x:=Es (mQ _) (Gb rs x) fun w=>by rw [iA,hi.li.need,zB]
theorem LZ.user (hi:LZ E rs es0 es1 get A L3 L4) (x:aL):setOf (qI L4 x) = uS rs x:=Es (mQ _) (Ft rs x) fun w=>by rw [iA,hi.li.user,zA]
theorem LZ.Sq (hi:LZ E rs es0 es1 get A L3 L4) (hf:Fits rs) {e:cW} {x:aL} (he:bL L3 x = some e):CN e.ks:=by
 refine ⟨?_,fun k hk=>?_⟩
 ·have h1:=hi.li.NL e (fQ he).1
  have h2:=hf.Sz
  omega
 ·rw [<- EW he,hi.li.need] at hk
  have h2:k.2.length <= 40:=tE (hf.pair hk).2
  omega
theorem LZ.Sn (hi:LZ E rs es0 es1 get A L3 L4) (hf:Fits rs) {e:cW} {x:aL} (he:bL L4 x = some e):CN e.ks:=by
 refine ⟨?_,fun k hk=>?_⟩
 ·have h1:=hi.li.NK e (fQ he).1
  have h2:=hf.Sz
  omega
 ·rw [<- EW he,hi.li.user] at hk
  have h2:k.2.length <= 40:=tE (hf.pair hk).1
  omega
end
theorem BU (hl:Lb.dP E) (x:aL):∀ L:List cW,iN (eN E 46) (oI x) (L.map zO) = some ((L.find? fun e=>decide (x = e.key)).map fun e=>uO e.ks)
 | []=>rfl
 | e :: L=>by
  show (match eN E 46 (.agg [.bool x.1,.str x.2]) (.agg [.bool e.key.1,.str e.key.2]) with
   | some true=>some (some (uO e.ks))
   | some false=>iN (eN E 46) (oI x) (L.map zO)
   | none=>none) = _
  rw [Lb.qM hl,find?_cons]
  by_cases h:x = e.key
  ·rw [decide_eq_true (show ((x.1,x.2):aL) = (e.key.1,e.key.2) from h)]; rfl
  ·rw [decide_eq_false (show ¬ ((x.1,x.2):aL) = (e.key.1,e.key.2) from h)]
   exact BU hl x L
theorem DO (h':sD E) (hl:Lb.dP E) {Z:Sg} {g:Bool} {L:List cW} (x:aL):lookup E Z 105 (.imp g (L.map zO)) (.agg [.bool x.1,.str x.2]) false = some (match bL L x with | some e=>uO e.ks | none=>.fP):=by
 have hk:=Lb.qJ hl x.1 x.2
 unfold Ax.lookup
 simp only [h'.nW,hl.sP,hk,entriesOf,Bool.not_true,Bool.false_eq_true,if_false]
 have:=BU hl x L
 unfold oI at this
 rw [this]
 unfold bL
 cases L.find? fun e=>decide (x = e.key) <;> rfl
theorem YD (h:bM E) (h':sD E) (hl:Lb.dP E) (q:Hw E) {ks:List aL} (hn:ks.Nodup) (hs:CN ks):aB E 76 [uO ks] Z fun v σ'=>σ' = Z /\ Hv v (setOf ks):=by
 have hi:Ax.bD (uO ks) = true:=rfl
 have e1:=cO (Z:=Z) (ty:=E.ty) hi (b_ hi)
 rw [aH q.WC q.Ua q.Xu q.VI (args':=[uO ks]) (by simp only [aX,e1]),aZ (by kernel_rfl)]
 simp only [aA,Tryz.f76,KP,↓reduceIte,reduceLT,reduceCtorEq,hl.sP,hl.uM,hl.AG,nC,uO]
 refine aN (TM hl h hn hs) ?_
 intro r σ' ho
 obtain ⟨v',hv,hlv⟩:=uU hl ho
 simp only [KP,↓reduceIte,reduceLT,hv]
 exact hlv
theorem RG (h:bM E) (h':sD E) (hl:Lb.dP E) (q:Hw E):aB E 76 [.fP] Z fun v σ'=>σ' = Z /\ Hv v []:=by
 have e1:aT Z E.ty true .fP = some .fP:=rfl
 rw [aH q.WC q.Ua q.Xu q.VI (args':=[.fP]) (by simp only [aX,e1]),aZ (by kernel_rfl)]
 simp only [aA,Tryz.f76,KP,↓reduceIte,reduceLT,reduceCtorEq,hl.sP,nC]
 exact .inl ⟨rfl,rfl⟩
theorem OC (h:bM E) (h':sD E) (hl:Lb.dP E) (q:Hw E) {g:V} {rs:List aG} (hg:IX E rs g) (hf:Fits rs) (x:aL):aB E 23 [g,.agg [.bool x.1,.str x.2]] Z fun v σ'=>σ' = Z /\ Hv v (uY rs x):=by
 obtain ⟨es0,es1,get,A,L3,L4,rfl,hi⟩:=hg
 have him:Ax.bD (gV es0 es1 A L3 L4) = true:=rfl
 have e1:=cO (Z:=Z) (ty:=E.ty) him (b_ him)
 have e2:aT Z E.ty true (.agg [.bool x.1,.str x.2]) = some (.agg [.bool x.1,.str x.2]):=rfl
 have d3:=q.Yu
 simp only [aA,Tryz.f23,cutAt,Option.getD_some] at d3
 rw [aH q.hs23 q.MC q.fn23 q.md23 (args':=[gV es0 es1 A L3 L4,.agg [.bool x.1,.str x.2]]) (by simp only [aX,e1,e2]),aZ (by kernel_rfl)]
 have en:nC E 41 true (.dN false [.imp false es0,.imp false es1,uO A,.imp false (L3.map zO),.imp false (L4.map zO)]) .fP = some false:=by unfold nC; rw [h'.RU]
 have lk:=fun Z g=>DO (Z:=Z) (g:=g) (L:=L3) h' hl x
 rw [<- hi.need]
 cases hk:bL L3 x with
 | none=>
  rw [hk] at lk
  rw [JN hk]
  simp only [aA,Tryz.f23,KP,Ax.loadAt,↓reduceIte,reduceEqDiff,reduceLT,reduceAdd,reduceCtorEq,h.eM,h'.pB,h'.nW,gV,en,lk,aW d3,bS]
  refine aN (RG h h' hl q) ?_
  rintro r σ' ⟨rfl,hr⟩
  rcases hr with ⟨rfl,-⟩ | ⟨full,rfl⟩
  ·simp only [KP,↓reduceIte,reduceLT]
   exact .inl ⟨rfl,rfl⟩
  ·simp only [KP,↓reduceIte,reduceLT]
   exact .inr ⟨full,rfl⟩
 | some e=>
  rw [hk] at lk
  rw [EW hk]
  simp only [aA,Tryz.f23,KP,Ax.loadAt,↓reduceIte,reduceEqDiff,reduceLT,reduceAdd,reduceCtorEq,h.eM,h'.pB,h'.nW,gV,en,lk,aW d3,bS]
  refine aN (YD h h' hl q (hi.k3 e (fQ hk).1) (hi.Sq hf hk)) ?_
  rintro r σ' ⟨rfl,hr⟩
  rcases hr with ⟨rfl,h0⟩ | ⟨full,rfl⟩
  ·simp only [KP,↓reduceIte,reduceLT]
   exact .inl ⟨rfl,h0⟩
  ·simp only [KP,↓reduceIte,reduceLT]
   exact .inr ⟨full,rfl⟩
theorem OB (h:bM E) (h':sD E) (hl:Lb.dP E) (q:Hw E) {g:V} {rs:List aG} (hg:IX E rs g) (hf:Fits rs) (x:aL):aB E 36 [g,.agg [.bool x.1,.str x.2]] Z fun v σ'=>σ' = Z /\ Hv v (uS rs x):=by
 obtain ⟨es0,es1,get,A,L3,L4,rfl,hi⟩:=hg
 have him:Ax.bD (gV es0 es1 A L3 L4) = true:=rfl
 have e1:=cO (Z:=Z) (ty:=E.ty) him (b_ him)
 have e2:aT Z E.ty true (.agg [.bool x.1,.str x.2]) = some (.agg [.bool x.1,.str x.2]):=rfl
 have d3:=q.Yq
 simp only [aA,Tryz.f36,cutAt,Option.getD_some] at d3
 rw [aH q.hs36 q.sp36 q.fn36 q.md36 (args':=[gV es0 es1 A L3 L4,.agg [.bool x.1,.str x.2]]) (by simp only [aX,e1,e2]),aZ (by kernel_rfl)]
 have en:nC E 41 true (.dN false [.imp false es0,.imp false es1,uO A,.imp false (L3.map zO),.imp false (L4.map zO)]) .fP = some false:=by unfold nC; rw [h'.RU]
 have lk:=fun Z g=>DO (Z:=Z) (g:=g) (L:=L4) h' hl x
 rw [<- hi.user]
 cases hk:bL L4 x with
 | none=>
  rw [hk] at lk
  rw [JN hk]
  simp only [aA,Tryz.f36,KP,Ax.loadAt,↓reduceIte,reduceEqDiff,reduceLT,reduceAdd,reduceCtorEq,h.eM,h'.pB,h'.nW,gV,en,lk,aW d3,bS]
  refine aN (RG h h' hl q) ?_
  rintro r σ' ⟨rfl,hr⟩
  rcases hr with ⟨rfl,-⟩ | ⟨full,rfl⟩
  ·simp only [KP,↓reduceIte,reduceLT]
   exact .inl ⟨rfl,rfl⟩
  ·simp only [KP,↓reduceIte,reduceLT]
   exact .inr ⟨full,rfl⟩
 | some e=>
  rw [hk] at lk
  rw [EW hk]
  simp only [aA,Tryz.f36,KP,Ax.loadAt,↓reduceIte,reduceEqDiff,reduceLT,reduceAdd,reduceCtorEq,h.eM,h'.pB,h'.nW,gV,en,lk,aW d3,bS]
  refine aN (YD h h' hl q (hi.k4 e (fQ hk).1) (hi.Sn hf hk)) ?_
  rintro r σ' ⟨rfl,hr⟩
  rcases hr with ⟨rfl,h0⟩ | ⟨full,rfl⟩
  ·simp only [KP,↓reduceIte,reduceLT]
   exact .inl ⟨rfl,h0⟩
  ·simp only [KP,↓reduceIte,reduceLT]
   exact .inr ⟨full,rfl⟩
end
end
section
section
variable {E:Env} {Z:Sg} {K:V -> Sg -> Prop}
def rH (rs:List aG) (f:aU):Option aG:=rs.find? fun r=>decide (f ∈ r.outs)
def kindOf (rs:List aG) (x:aL):Int:=if x ∈ jR rs then (if x.1 = true then 1 else if (rH rs x.2).isSome = true then 2 else 3) else 0
theorem lK {rs:List aG} {f:aU} {r:aG} (h:rH rs f = some r):r ∈ rs /\ f ∈ r.outs:=⟨List.mem_of_find?_eq_some h,by have:=find?_some h; exact of_decide_eq_true this⟩
theorem EO {rs:List aG} {f:aU} (h:rH rs f = none):∀ r ∈ rs,f ∉ r.outs:=fun r hr hf=>by
 have:=find?_eq_none.1 h r hr
 exact this (decide_eq_true hf)
theorem LZ.get {rs:List aG} {es0 es1:List (V × V)} {get:aU -> Option V} {A:List aL} {L3 L4:List cW} (hi:LZ E rs es0 es1 get A L3 L4) (hf:Fits rs) (f:aU):get f = (rH rs f).map fun r=>V.str r.name:=by
 rcases hi.Ny f with ⟨h1,h2⟩ | ⟨n,⟨r,hr,hfr,rfl⟩,h2⟩
 ·rw [h1]
  cases hm:rH rs f with
  | none=>rfl
  | some r=>exact absurd ⟨r,(lK hm).1,(lK hm).2,rfl⟩ (h2 r.name)
 ·rw [h2]
  cases hm:rH rs f with
  | none=>exact absurd hfr (EO hm r hr)
  | some r'=>
   have:=(A9 hf.ok.1).short.jG f r.name r'.name ⟨r,hr,hfr,rfl⟩ ⟨r',(lK hm).1,(lK hm).2,rfl⟩
   rw [this]; rfl
theorem ND (h:bM E) {Z:Sg} {x:V} {es:List (V × V)} {get:aU -> Option V} (hx:entriesOf Z x = some es) (hs:SM E es get) (k:aU):lookup E Z 104 x (.str k) false = some (match get k with | some v=>v | none=>.str []):=by
 have hk:dQ E 9 (.str k) = true:=by unfold dQ; rw [h.dA]
 unfold Ax.lookup
 simp only [h.zZ,h.dA,hk,hx,hs.2 k,Bool.not_true,Bool.false_eq_true,if_false]
 cases get k <;> rfl
theorem Bc (h:bM E) (h':sD E) (hl:Lb.dP E) (q:Hw E) {g:V} {rs:List aG} (hg:IX E rs g) (hf:Fits rs) (x:aL):aB E 26 [g,.agg [.bool x.1,.str x.2]] Z K = K (.int .i64 (kindOf rs x)) Z:=by
 refine aB.of ?_
 obtain ⟨es0,es1,get,A,L3,L4,rfl,hi⟩:=hg
 have him:Ax.bD (gV es0 es1 A L3 L4) = true:=rfl
 have e1:=cO (Z:=Z) (ty:=E.ty) him (b_ him)
 have e2:aT Z E.ty true (.agg [.bool x.1,.str x.2]) = some (.agg [.bool x.1,.str x.2]):=rfl
 have d1:=q.Yt
 simp only [aA,Tryz.f26,cutAt,Option.getD_some] at d1
 have d5:=q.Ys
 simp only [aA,Tryz.f26,cutAt,Option.getD_some] at d5
 rw [aH q.hs26 q.MB q.fn26 q.md26 (args':=[gV es0 es1 A L3 L4,.agg [.bool x.1,.str x.2]]) (by simp only [aX,e1,e2]),aZ (by kernel_rfl)]
 have en:nC E 41 true (.dN false [.imp false es0,.imp false es1,.dN false [.imp false (Lb.lV A)],.imp false (L3.map zO),.imp false (L4.map zO)]) .fP = some false:=by unfold nC; rw [h'.RU]
 have kh:=fun (Y:Sg)=>dM fun K=>TG (Z:=Y) (K:=K) hl h (g:=false) (g':=false) (ks:=A) x
 have hA:decide (x ∈ A) = decide (x ∈ jR rs):=by rw [<- hi.all]; simp only [iA]
 rw [hA] at kh
 have lk:=fun Z=>ND (Z:=Z) (x:=.imp false es1) h rfl hi.sm x.2
 rw [hi.get hf] at lk
 have s0:∀ a b:aU,sF .neq a b = some (.bool (!Ax.seq a b)):=fun a b=>rfl
 unfold kindOf
 by_cases hx:x ∈ jR rs
 ·rw [decide_eq_true hx] at kh
  rw [if_pos hx]
  cases hb:x.1 with
  | true=>
   rw [hb] at kh
   simp only [aA,Tryz.f26,KP,Ax.loadAt,↓reduceIte,reduceEqDiff,reduceLT,reduceAdd,reduceCtorEq,h.Df,h.eM,hl.sP,hl.uM,hl.AG,h'.pB,gV,uO,en,kh,aW d1,bS]
   exact rfl
  | false=>
   rw [hb] at kh
   cases hm:rH rs x.2 with
   | none=>
    rw [hm] at lk
    have z:Ax.seq ([]:aU) [] = true:=rfl
    simp only [aA,Tryz.f26,KP,Ax.loadAt,↓reduceIte,reduceEqDiff,reduceLT,reduceAdd,reduceCtorEq,h.Df,h.dA,h.eM,h.zZ,kU,hl.sP,hl.uM,hl.AG,h'.pB,gV,uO,en,kh,lk,s0,z,aW d1,aW d5,bS]
    exact rfl
   | some r=>
    rw [hm] at lk
    have z:Ax.seq r.name [] = false:=fW (Ib (hf.names r (lK hm).1).1)
    simp only [aA,Tryz.f26,KP,Ax.loadAt,↓reduceIte,reduceEqDiff,reduceLT,reduceAdd,reduceCtorEq,h.Df,h.dA,h.eM,h.zZ,kU,hl.sP,hl.uM,hl.AG,h'.pB,gV,uO,en,kh,lk,s0,z,aW d1,aW d5,bS]
    exact rfl
 ·rw [decide_eq_false hx] at kh
  rw [if_neg hx]
  simp only [aA,Tryz.f26,KP,Ax.loadAt,↓reduceIte,reduceEqDiff,reduceLT,reduceAdd,reduceCtorEq,h.eM,hl.sP,hl.uM,hl.AG,h'.pB,gV,uO,en,kh,aW d1,bS]
  exact rfl
theorem Rx.ru {v:V} {x:aG} (h:Rx v x):Hl v x:=by
 obtain ⟨a,b,c,d,rfl,h1,h2,h3,h4⟩:=h
 exact ⟨a,b,c,d,rfl,h1.is,h2.is,h3.is,rK h4.is qX⟩
end
end
section
section
variable {E:Env} {Z:Sg} {K:V -> Sg -> Prop}
def iE:Lay aL:=⟨fun r x=>r = row x,2,fun _ _ h=>by rw [h]; rfl,fun _ _ h c hc=>by
 rw [h] at hc
 unfold row at hc
 simp only [mem_cons,List.not_mem_nil,or_false] at hc
 rcases hc with rfl | rfl <;> rfl⟩
theorem CL:∀ l:List aL,eR iE.P (l.map row) l
 | []=>.nil
 | x :: l=>.cons rfl (CL l)
theorem Hv.isf {v:V} {l:List aL} (h:Hv v l):kB iE v l:=h.imp id fun ⟨f,e⟩=>⟨_,f,e,CL l⟩
theorem LV.is {v:V} {l:List aL} (h:Lb.LV v l):IS iE v l:=h.imp id fun ⟨g,f,e⟩=>⟨g,_,f,e,CL l⟩
theorem wS:∀ {rs:List (List V)} {l:List aL},eR iE.P rs l -> rs = l.map row
 | _,_,.nil=>rfl
 | _,_,.cons h t=>by rw [map_cons,<- wS t,show _ = _ from h]
theorem IS.lv {v:V} {l:List aL} (h:IS iE v l):Lb.LV v l:=h.imp id fun ⟨g,rs,f,e,a⟩=>⟨g,f,by rw [e,wS a]⟩
theorem xM (h:bM E) {v:V} {l} (ia:IS iE v l) (Z:Sg):lenOf E Z 40 v = some l.length:=pS h.oW rfl (ia.ls Z 46)
theorem IJ (h:bM E) {v:V} {l} (ia:IS iE v l) {i:Nat} {x} (hx:l[i]? = some x):∃ g,indexAddr E 40 v (.int .i64 (i:Int)) = some (.dN g [.bool x.1,.str x.2]):=by
 obtain ⟨g,r,h1,h2⟩:=IS.at h.oW rfl h.eM rfl ia hx
 exact ⟨g,by rw [h1,show r = row x from h2]; rfl⟩
theorem qZ (h:bM E) {v:V} {l} (ha:LS iE 46 Z v l):∃ v',aT Z E.ty true v = some v' /\ IS iE v' l:=AX h.eM rfl ha
theorem J_ (hl:Lb.dP E) {b:Bool} (x y:aL):nC E 46 b (.agg [.bool x.1,.str x.2]) (.agg [.bool y.1,.str y.2]) = some (decide (x = y)):=by
 unfold nC
 rw [hl.eM]
 simp only [hl.QK,Ax.eqs,wR,Bool.and_true,Option.some.injEq]
 rw [Bool.eq_iff_iff]
 simp only [Bool.and_eq_true,beq_iff_eq,decide_eq_true_eq]
 exact ⟨fun ⟨h1,h2⟩=>Prod.ext h1 h2,fun h=>by rw [h]; exact ⟨rfl,rfl⟩⟩
theorem MS (Z:Sg) (x:aL):aT Z E.ty true (.agg [.bool x.1,.str x.2]) = some (.agg [.bool x.1,.str x.2]):=rfl
theorem Kg (h:bM E) (hl:Lb.dP E) {a:V} {l:List aL} {s:aL} (ha:LS iE 46 Z a l) (hsm:l.length <= 4294967296):aB E 28 [a,.agg [.bool s.1,.str s.2]] Z K = K (.int .i64 (idx (bE (fun x=>decide (x = s)) l))) Z:=by
 refine aB.of ?_
 obtain ⟨a',ea,ia⟩:=qZ h ha
 have es:=MS (E:=E) Z s
 have d4:=hl.Yr
 simp only [aA,Tryz.f28,cutAt,Option.getD_some] at d4
 rw [aH hl.hs28 hl.Mz hl.fn28 hl.md28 (args':=[a',.agg [.bool s.1,.str s.2]]) (by simp only [aX,ea,es]),aZ (by kernel_rfl)]
 simp only [aA,Tryz.f28,KP,↓reduceIte,reduceLT,reduceAdd,reduceNeg,h.eM]
 have la:=xM h ia
 refine aV (fun i F Y=>Y[0]? = some (O.cells 46 [.bool s.1,.str s.2] true) /\ F.get 0 = a' /\ F.get 3 = .ref 0 0 /\ F.get 5 = .int .i64 (i:Int) /\ ∀ j y,j < i -> l[j]? = some y -> y ≠ s) l.length ?_ ?_ l.length 0 _ _ (by omega) ⟨rfl,(fL (by simp +decide only [GS,and_self]) (fun j y hj=>by omega))⟩
 ·rintro i F Y hi ⟨hb,g0,g3,g5,hp⟩ next
  obtain ⟨x,hx⟩:∃ x,l[i]? = some x:=⟨_,List.getElem?_eq_getElem hi⟩
  obtain ⟨g,e1⟩:=IJ h ia hx
  have hlt:=eD hi
  have hadd:=bZ i (by omega)
  have ev:=fun b=>J_ (b:=b) hl x s
  rw [aF]
  by_cases hxs:x = s
  ·rw [decide_eq_true hxs] at ev
   simp only [KP,Ax.loadAt,↓reduceIte,reduceEqDiff,reduceLT,reduceAdd,reduceCtorEq,reduceNeg,h.eM,g0,g3,g5,la,hlt,e1,hb,ev,aW d4,bS]
   rw [gK (i:=i) (x:=x) (fun j y hj hy=>decide_eq_false (hp j y hj hy)) hx (decide_eq_true hxs)]
   exact rfl
  ·rw [decide_eq_false hxs] at ev
   simp only [KP,Ax.loadAt,↓reduceIte,reduceEqDiff,reduceLT,reduceAdd,reduceCtorEq,reduceNeg,h.eM,g0,g3,g5,la,hlt,e1,hb,ev,hadd,aW d4,bS]
   refine next _ _ ⟨hb,(fL (by simp +decide only [GS,g0,g3,and_self]) (fun j y hj hy=>?_))⟩
   rcases Nat.lt_or_ge j i with g | g
   ·exact hp j y g hy
   ·obtain rfl:j = i:=by omega
    rw [hx] at hy; cases hy; exact hxs
 ·rintro F Y ⟨hb,g0,g3,g5,hp⟩
  have hlt:=eE (Nat.lt_irrefl l.length)
  rw [aF]
  simp only [KP,↓reduceIte,reduceEqDiff,reduceLT,reduceCtorEq,reduceNeg,g0,g5,la,hlt]
  rw [fH fun x hx=>by
   obtain ⟨j,hj,e⟩:=List.getElem_of_mem hx
   exact decide_eq_false (hp j x hj (by rw [List.getElem?_eq_getElem hj,e]))]
  exact rfl
theorem Qn {l:List aL} {s:aL} (hs:s ∈ l):decide (idx (bE (fun x=>decide (x = s)) l) < 0) = false:=by
 obtain ⟨j,hj⟩:=mU (p:=fun x:aL=>decide (x = s)) hs (decide_eq_true rfl)
 rw [hj]
 exact decide_eq_false (by show ¬ ((j:Int) < 0); omega)
theorem NW {l:List aL} {s:aL} (hs:s ∉ l):decide (idx (bE (fun x=>decide (x = s)) l) < 0) = true:=by
 rw [fH (p:=fun x:aL=>decide (x = s)) fun x hx=>decide_eq_false fun e:x = s=>hs (by rw [<- e]; exact hx)]
 rfl
end
end
section
section
variable {E:Env} {Z:Sg} {K:V -> Sg -> Prop}
theorem Rx.snap {Y:Sg} {v:V} {x:aG} (hv:Rx v x):aT Y E.ty false v = some v:=by
 obtain ⟨a,b,c,d,rfl,h1,h2,h3,h4⟩:=hv
 have q:∀ c:V,Ax.bD c = true -> cK false c = true -> aT.one Y E.ty false c = some c:=fun c h1 h2=>by
  unfold aT.one
  rw [show dV = 11 + 1 from rfl,jK h1]
  simp only [h2,if_true]
 show (match aX (aT.one Y E.ty false) [.str x.name,a,b,c,d] with
  | some l=>some (V.agg l)
  | none=>none) = _
 simp only [aX,q (.str x.name) rfl rfl,q a h1.is.bD h1.tag,q b h2.is.bD h2.tag,q c h3.is.bD h3.tag,q d h4.is.bD h4.tag]
theorem Jy {rs:List aG} {a b:aL} (hp:(a,b) ∈ rs.flatMap eH):a ∈ jR rs /\ b ∈ jR rs:=⟨BW.2 (.inr ⟨_,hp,.inl rfl⟩),BW.2 (.inr ⟨_,hp,.inr rfl⟩)⟩
end
end
structure GbL (E:Env):Prop where
 hs9:E.hspec 9 = none
 sp9:E.spec 9 = none
 fn9:E.fn 9 = some (aA Tryz.f9)
 md9:E.mode 9 = .eU
 d9_13:aO E (cutAt [1,1,1,1,1,1,0,1,2,2,1,1,0,2,1,0,1,2,2,1,1,0,2,1,0] (aA Tryz.f9).code) = true
 d9_19:aO E (cutAt [1,1,1,1,1,1,0,1,2,2,1,1,0,2,1,1,0,1,2,2,1,1,0,2,1,0] (aA Tryz.f9).code) = true
 d9_30:aO E (cutAt [1,1,1,1,1,1,0,1,2,2,1,1,0,2,1,1,1,1,1,2,1,1,1,0,1,0] (aA Tryz.f9).code) = true
 TV:∀ {Z:Sg} {K:V -> Sg -> Prop},aB E 11 [] Z K = K (.bool true) Z
section
section
variable {E:Env} {Z:Sg} {K:V -> Sg -> Prop}
theorem yC {rs:List aG} (hf:Fits rs):(jR rs).length <= 2000:=by
 have h1:=hf.Sz
 have h2:=hf.len
 refine Nat.le_trans (kG (b:=rs.map gG ++ (rs.flatMap eH).flatMap fun p=>[p.1,p.2]) (Rt rs).nodup fun x hx=>iA.1 hx) ?_
 have h3:∀ P:List (aL × aL),(P.flatMap fun p=>[p.1,p.2]).length = 2 * P.length:=fun P=>by
  induction P with
  | nil=>rfl
  | cons p P ih=>rw [flatMap_cons,length_append,ih]; simp only [length_cons,length_nil]; omega
 rw [length_append,length_map,h3]
 omega
end
end
end Go.Proofs.YtlbbdpkjeeiahaaGreatDoor
end
