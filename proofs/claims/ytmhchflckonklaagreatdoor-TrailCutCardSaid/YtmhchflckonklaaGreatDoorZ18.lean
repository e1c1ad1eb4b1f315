/- Part 18 of the proof. -/
import Derived.Test.YtmhchflckonklaaGreatDoorY
import Derived.Test.YtmhchflckonklaaGreatDoorZ17
import Derived.Test.YtmhchflckonklaaGreatDoorZ16
import Derived.Test.YtmhchflckonklaaGreatDoorZ15
set_option maxHeartbeats 8000000
set_option linter.unusedVariables false
set_option maxRecDepth 10000
open Nat (reduceLT reduceEqDiff reduceLeDiff reduceAdd reduceMul)
open List (nodup_nil find?_some map_nil)
section
namespace Go.Proofs.YtmhchflckonklaaGreatDoor
open Go Go.Ax Go.AxS
section
section
variable {E:Env} {Z:Sg} {K:V -> Sg -> Prop}
theorem Tr {Y:Sg} {w:V} {l:List bC} {k:Nat} {es:List (V × V)} (hb:Y[k]? = some (.map es)) (ow:bA aO 9 Y w l):aQ w ≠ some k:=by
 rcases ow with ⟨rfl,-⟩ | ⟨b,rs,ex,rfl,hc,-⟩
 ·intro e; cases e
 ·intro e
  cases e
  rw [hb] at hc
  cases hc
structure InOrder (rs:List aC) (o:List bC):Prop where
 len:o.length = rs.length
 nodup:o.Nodup
 mem:∀ x ∈ o,x ∈ rs.map aC.name
 behind:∀ (i k:Nat) (p q:aC),rs[i]? = some p -> rs[k]? = some q -> iE rs false i k = true -> ∀ (j:Nat),o[j]? = some p.name -> q.name ∈ o.take j
structure yP (E:Env) (Y:Sg) (es:List (V × V)) (p:bC -> Bool):Prop where
 b0:Y[0]? = some (.cells 101 [.imp false es] true)
 b2:Y[2]? = some (.cells 103 [.mp 1] true)
 b1:∃ e1,Y[1]? = some (.map e1) /\ SB E e1 p
theorem yP.app {Y:Sg} {es:List (V × V)} {p:bC -> Bool} (h:yP E Y es p) (y:O):yP E (Y ++ [y]) es p:=by
 obtain ⟨e1,h1,h2⟩:=h.b1
 exact ⟨aN h.b0,aN h.b2,e1,aN h1,h2⟩
theorem yP.sp {Y τ':Sg} {es:List (V × V)} {p:bC -> Bool} {w:V} {l:List bC} (h:yP E Y es p) (ow:bA aO 9 Y w l) (sp:Sp Y τ' w):yP E τ' es p:=by
 obtain ⟨e1,h1,h2⟩:=h.b1
 exact ⟨sp _ _ h.b0 (kX h.b0 (by decide) ow),sp _ _ h.b2 (kX h.b2 (by decide) ow),e1,sp _ _ h1 (Tr h1 ow),h2⟩
theorem yP.put {Y:Sg} {es e1:List (V × V)} {p q:bC -> Bool} (h:yP E Y es p) (hs:SB E e1 q):yP E (Y.set 1 (.map e1)) es q:=by
 obtain ⟨e0,h1,-⟩:=h.b1
 exact ⟨by rw [No (by decide)]; exact h.b0,by rw [No (by decide)]; exact h.b2,e1,by rw [ZV (AI.1 h1).1],hs⟩
end
end
section
section
variable {E:Env} {Z:Sg} {K:V -> Sg -> Prop}
theorem JW {Z:Sg} {k t:Nat} {cs cs':List V} {ex:Bool} (hb:Z[k]? = some (.cells t cs ex)) (hm:aW (fun v=>match bO Z E.ty true 11 v with
   | some v=>if cH true v then some v else Ax.no "snap: borrowed"
   | none=>none) cs = some cs'):aS.one Z E.ty true (.ref k 0) = some (.cW true cs'):=by
 have e:bO Z E.ty true 12 (.ref k 0) = some (.cW true cs'):=by
  rw [bO]
  simp only [hb,cn]
  exact ZL (fun o=>match o with
   | some l=>some (V.cW true l)
   | none=>none) hm
 unfold aS.one
 rw [show dJ = 12 from rfl,e]
 rfl
end
end
section
structure pV (E:Env):Prop where
 vQ:E.ty 92 = some { kd:=.map 51 69,size:=1,bytes:=8,zero:=.bU }
 wT:E.ty 94 = some { kd:=.jC [(0,90),(1,91),(2,69),(3,92),(4,92)],size:=5,bytes:=40,zero:=.agg [.bU,.bU,.fP,.bU,.bU] }
 Su:E.ty 27 = some { kd:=.ptr 94,size:=1,bytes:=8,zero:=.fP }
 St:E.ty 90 = some { kd:=.map 9 46,size:=1,bytes:=8,zero:=.bU }
 wU:E.ty 144 = some { kd:=.jC [(0,92),(1,51),(3,51)],size:=5,bytes:=56,zero:=.agg [.bU,.bool false,.str [],.bool false,.str []] }
 Jq:E.ty 145 = some { kd:=.sl 144,size:=1,bytes:=24,zero:=.aD }
 hs62:E.hspec 62 = none
 sp62:E.spec 62 = none
 fn62:E.fn 62 = some (aA Tryz.f62)
 md62:E.mode 62 = .eW
 Yc:E.hspec 117 = none
 VC:E.spec 117 = none
 Y0:E.fn 117 = some (aA Tryz.f117)
 Xh:E.mode 117 = .shared
 hs13:E.hspec 13 = none
 MR:E.spec 13 = none
 fn13:E.fn 13 = some (aA Tryz.f13)
 md13:E.mode 13 = .eW
 hs65:E.hspec 65 = none
 sp65:E.spec 65 = none
 fn65:E.fn 65 = some (aA Tryz.f65)
 md65:E.mode 65 = .shared
 hs64:E.hspec 64 = none
 sp64:E.spec 64 = none
 fn64:E.fn 64 = some (aA Tryz.f64)
 md64:E.mode 64 = .eW
 hs66:E.hspec 66 = none
 sp66:E.spec 66 = none
 fn66:E.fn 66 = some (aA Tryz.f66)
 md66:E.mode 66 = .eW
 hs50:E.hspec 50 = none
 sp50:E.spec 50 = none
 fn50:E.fn 50 = some (aA Tryz.f50)
 md50:E.mode 50 = .eW
 hs72:E.hspec 72 = none
 sp72:E.spec 72 = none
 fn72:E.fn 72 = some (aA Tryz.f72)
 md72:E.mode 72 = .eW
 UQ:fA E (opsOf (cutAt [1,0] (aA Tryz.f62).code)) = .no
 Wr:cC E .no (opsOf (cutAt [1,0] (aA Tryz.f62).code)) = some [⟨2,4,true,false⟩,  ⟨2,7,true,false⟩,  ⟨2,10,true,false⟩,  ⟨5,7,true,false⟩,  ⟨5,10,true,false⟩,  ⟨8,10,true,false⟩]
 UP:fA E (opsOf (cutAt [1,1,0,1,2,2,1,1,0,2,1] (aA Tryz.f62).code)) = .no
 Wq:cC E .no (opsOf (cutAt [1,1,0,1,2,2,1,1,0,2,1] (aA Tryz.f62).code)) = some [⟨1,12,false,true⟩,  ⟨1,19,false,true⟩,  ⟨4,12,false,true⟩,  ⟨4,19,false,true⟩,  ⟨4,22,false,true⟩,  ⟨12,14,true,false⟩,  ⟨12,18,true,false⟩]
 Zv:aL E (cutAt [1,1,1,0,1,2,2,1,1,0,2,1,0] (aA Tryz.f13).code) = true
 UR:fA E (opsOf (cutAt [1,1,1,0,1,2,2,1,1,0,2,1,1,0] (aA Tryz.f13).code)) = .no
 Ws:cC E .no (opsOf (cutAt [1,1,1,0,1,2,2,1,1,0,2,1,1,0] (aA Tryz.f13).code)) = some [⟨3,7,false,true⟩]
 Ub:aL E (cutAt [1,1,1,0,1,2,2,1,1,0,2,1,1,1,1,1,2,2,1,1,0,2,1,0] (aA Tryz.f13).code) = true
 Ua:aL E (cutAt [1,1,1,0,1,2,2,1,1,0,2,1,1,1,1,1,2,2,1,1,0,2,1,1] (aA Tryz.f13).code) = true
 UO:fA E (opsOf (cutAt [1,0] (aA Tryz.f65).code)) = .no
 Wo:cC E .no (opsOf (cutAt [1,0] (aA Tryz.f65).code)) = some [⟨3,6,false,true⟩]
 Zm:aL E (cutAt [1,1,0] (aA Tryz.f65).code) = true
 UN:fA E (opsOf (cutAt [1,1,1,2,2,1,1,0,2,1,0,1,0] (aA Tryz.f65).code)) = .no
 Wn:cC E .no (opsOf (cutAt [1,1,1,2,2,1,1,0,2,1,0,1,0] (aA Tryz.f65).code)) = some [⟨1,4,false,true⟩,  ⟨3,4,false,true⟩]
 UM:fA E (opsOf (cutAt [1,1,1,2,2,1,1,0,2,1,1] (aA Tryz.f65).code)) = .no
 Wm:cC E .no (opsOf (cutAt [1,1,1,2,2,1,1,0,2,1,1] (aA Tryz.f65).code)) = some [⟨1,7,false,true⟩,  ⟨3,7,false,true⟩,  ⟨4,7,false,true⟩]
 z72_17:fA E (opsOf (cutAt [1,1,1,1,0,1,2,2,1,1,0,2,1,1,1,1] (aA Tryz.f72).code)) = .no
 p72_17:cC E .no (opsOf (cutAt [1,1,1,1,0,1,2,2,1,1,0,2,1,1,1,1] (aA Tryz.f72).code)) = some [⟨2,4,false,true⟩]
section
variable {E:Env} {Z:Sg} {K:V -> Sg -> Prop}
theorem aB.up {f:Nat} {args:List V} {K:V -> Sg -> Prop} (h:aB E f args Z K):∃ n v σ',K v σ' /\ ∀ m,n <= m -> fW E (ev E m) f args Z = some (v,σ'):=by
 obtain ⟨n,v,σ',hc,hk⟩:=h
 exact ⟨n,v,σ',hk,fun m hm=>sI (lV E hm) hc⟩
theorem LK (h:bH E):nY E 44 true .aD .aD = some true:=by unfold nY; rw [h.fI]
theorem LJ (h:bH E) {g:Bool} {rs:List (List V)} {f:Bool}:nY E 44 true (.bS g rs f) .aD = some false:=by unfold nY; rw [h.fI]
theorem Mf (h:bH E) (h':pV E) {a:V} {l:List AxS.Step} (ia:IS eZ a l) (hl:l.length <= 1000):aB E 117 [a] Z fun v σ'=>bA eZ 113 σ' v l /\ Kp Z σ' /\ ∀ b,aQ v = some b -> Z.length <= b:=by
 rw [dF h'.Yc h'.VC h'.Y0 h'.Xh,aX (by kernel_rfl)]
 rcases ia with ⟨rfl,rfl⟩ | ⟨g,rs,full,rfl,ha⟩
 ·simp only [aA,Tryz.f117,KP,↓reduceIte,reduceLT,reduceCtorEq,LK h]
  exact ⟨.inl ⟨rfl,rfl⟩,fun _ _ h=>h,fun b hb=>by cases hb⟩
 ·obtain ⟨rs',e,ha'⟩:=kR (L:=eZ) (x:=.bS g rs full) (l:=l) (.inr ⟨g,rs,full,rfl,ha⟩) (Z ++ [O.cells 113 [] true])
  obtain ⟨w',τ',h1,h2,h3,h4,h5⟩:=gT (ats:=#[44,44]) (Z:=Z ++ [O.cells 113 [] true]) (w:=.sl Z.length 0 0 none) (l:=[]) (L:=eZ) h.fI rfl h.bN rfl (by decide) (Ap h) rfl (.inr ⟨Z.length,[],true,rfl,aK,.nil⟩) e ha' (dD (b:=1000) (by decide) (by simp only [ZN]; omega))
  rw [af] at h2
  simp only [aA,Tryz.f117,KP,↓reduceIte,reduceEqDiff,reduceLT,reduceLeDiff,reduceCtorEq,h.fI,h.bN,LJ h,h1,Ax.fill,iA,dz]
  refine ⟨h2,fun c o hc=>h3 _ _ (aN hc) fun e=>?_,fun b hb=>?_⟩
  ·cases e
   exact absurd (AI.1 hc).1 (ZT _)
  ·rcases h5 b hb with g | g
   ·cases g; exact Z1 _
   ·simp only [Z7,Z0,ZN] at g; omega
end
end
section
section
variable {E:Env} {Z:Sg} {K:V -> Sg -> Prop}
theorem nU {α:Type} {L:Lay α} {t:Nat} {Y:Sg} {w:V} {l:List α} (ow:bA L t Y w l):w.aZ = true /\ w.cells = [w]:=by
 rcases ow with ⟨rfl,-⟩ | ⟨b,rs,ex,rfl,-⟩ <;> exact ⟨rfl,rfl⟩
theorem uM {α:Type} {L:Lay α} {t:Nat} {Y:Sg} {w:V} {l:List α} {y:O} (ow:bA L t Y w l) (h:∀ b,aQ w = some b -> 2 <= b):bA L t (Y.set 0 y) w l:=ow.keep fun c o hc ho=>by
 rw [No (by have:=h c hc; omega)]; exact ho
theorem tM {α:Type} {L:Lay α} {t:Nat} {Y:Sg} {w:V} {l:List α} {b:Nat} (ow:bA L t Y w l) (h:aQ w = some b):b < Y.length:=by
 rcases ow with ⟨rfl,-⟩ | ⟨b',rs,ex,rfl,hb,-⟩
 ·cases h
 ·cases h
  exact (AI.1 hb).1
theorem Fc {Y τ':Sg} (h:Kp Y τ'):Y.length <= τ'.length:=by
 refine k8 fun hlt=>?_
 obtain ⟨o,ho⟩:∃ o,Y[τ'.length]? = some o:=⟨_,AT hlt⟩
 exact absurd (AI.1 (h _ _ ho)).1 (ZT _)
theorem Zy (h:bH E) (h':pV E) {x:aC} {a b c d:V} (ia:IS aO a x.ins) (ib:IS aO b x.outs) (ic:IS aO c x.after) (id:IS eZ d x.steps) (hs:Small x) (F:FT) (g1:F.get 1 = .ref 0 0) {st:List jG} {Q:Ax.X -> Fr -> Sg -> Prop}
  (hk:∀ F' Y w1 w2 w3 w4,F'.get 1 = .ref 0 0 -> F'.get 2 = F.get 2 -> Y[0]? = some (O.cells 46 [.str x.name,w1,w2,w3,w4] true) -> Y[1]? = some (O.cells 46 [.str [],.aD,.aD,.aD,.aD] true) -> bA aO 9 Y w1 x.ins -> bA aO 9 Y w2 x.outs -> bA aO 9 Y w3 x.after -> bA eZ 113 Y w4 x.steps -> (∀ b,aQ w4 = some b -> 2 <= b /\ aQ w1 ≠ some b /\ aQ w2 ≠ some b /\ aQ w3 ≠ some b) -> M E st .normal ⟨52,F'⟩ Y Q) :
  R E (.region 1 (opsOf (cutAt [1,0] (aA Tryz.f62).code)) true) st ⟨52,F⟩ [O.cells 46 [.str x.name,a,b,c,d] true,O.cells 46 [.str [],.aD,.aD,.aD,.aD] true] Q:=by
 have l1:=hs.ins
 have l2:=hs.outs
 have l3:=hs.after
 have l4:=hs.steps
 obtain ⟨n1,w1,τ1,⟨ow1,kp1,fr1⟩,c1⟩:=aB.up (sK (Z:=[O.cells 46 [.str x.name,a,b,c,d] true,O.cells 46 [.str [],.aD,.aD,.aD,.aD] true]) h ia (by omega))
 obtain ⟨n2,w2,τ2,⟨ow2,kp2,fr2⟩,c2⟩:=aB.up (sK (Z:=τ1) h ib (by omega))
 obtain ⟨n3,w3,τ3,⟨ow3,kp3,fr3⟩,c3⟩:=aB.up (sK (Z:=τ2) h ic (by omega))
 obtain ⟨n4,w4,τ4,⟨ow4,kp4,fr4⟩,c4⟩:=aB.up (Mf (Z:=τ3) h h' id (by omega))
 have c1:=c1 (n1 + n2 + n3 + n4) (by omega)
 have c2:=c2 (n1 + n2 + n3 + n4) (by omega)
 have c3:=c3 (n1 + n2 + n3 + n4) (by omega)
 have c4:=c4 (n1 + n2 + n3 + n4) (by omega)
 generalize n1 + n2 + n3 + n4 = n at c1 c2 c3 c4
 have k0:∀ Y:Sg,Kp [O.cells 46 [.str x.name,a,b,c,d] true,O.cells 46 [.str [],.aD,.aD,.aD,.aD] true] Y -> Y[0]? = some (O.cells 46 [.str x.name,a,b,c,d] true) /\ Y[1]? = some (O.cells 46 [.str [],.aD,.aD,.aD,.aD] true):=fun Y hk=>⟨hk 0 _ rfl,hk 1 _ rfl⟩
 have q2:Kp [O.cells 46 [.str x.name,a,b,c,d] true,O.cells 46 [.str [],.aD,.aD,.aD,.aD] true] τ2:=fun c o e=>kp2 c o (kp1 c o e)
 have q3:Kp [O.cells 46 [.str x.name,a,b,c,d] true,O.cells 46 [.str [],.aD,.aD,.aD,.aD] true] τ3:=fun c o e=>kp3 c o (q2 c o e)
 have q4:Kp [O.cells 46 [.str x.name,a,b,c,d] true,O.cells 46 [.str [],.aD,.aD,.aD,.aD] true] τ4:=fun c o e=>kp4 c o (q3 c o e)
 obtain ⟨b1,z1⟩:=k0 τ1 kp1
 obtain ⟨b2,z2⟩:=k0 τ2 q2
 obtain ⟨b3,z3⟩:=k0 τ3 q3
 obtain ⟨b4,z4⟩:=k0 τ4 q4
 have hlt4:=(AI.1 b4).1
 have s1:∀ y,(τ4.set 0 y)[0]? = some y:=fun y=>ZV hlt4
 obtain ⟨o1,t1⟩:=nU ow1
 obtain ⟨o2,t2⟩:=nU ow2
 obtain ⟨o3,t3⟩:=nU ow3
 obtain ⟨o4,t4⟩:=nU ow4
 have v1:=cF 10 ia
 have v2:=cF 10 ib
 have v3:=cF 10 ic
 have v4:=oD 9 id
 have key:∃ F',cE E (ev E n) (opsOf (cutAt [1,0] (aA Tryz.f62).code)) ⟨52,F⟩ [O.cells 46 [.str x.name,a,b,c,d] true,O.cells 46 [.str [],.aD,.aD,.aD,.aD] true] = some (⟨52,F'⟩,τ4.set 0 (O.cells 46 [.str x.name,w1,w2,w3,w4] true)) /\ F'.get 1 = .ref 0 0 /\ F'.get 2 = F.get 2:=by
  unfold cE
  rw [h'.UQ,h'.Wr]
  simp only [aA,Tryz.f62,KP,Ax.loadAt,Ax.storeAt,↓reduceIte,reduceEqDiff,reduceLT,reduceLeDiff,reduceAdd,reduceCtorEq,h.a_,h.fI,h.bK,opsOf,cutAt,gL,bF,b_,jW,Ax.comp,Ax.last,gH,Ax.again,g1,c1,c2,c3,c4,b1,b2,b3,b4,s1,o1,o2,o3,o4,t1,t2,t3,t4,v2,v3,v4,List.set_set]
  exact ⟨_,rfl,(by simp +decide only [GS,g1,Z5])⟩
 obtain ⟨F',hD,f1,f2⟩:=key
 have n1:=Fc kp1
 have n2:=Fc kp2
 have n3:=Fc kp3
 have n0:([O.cells 46 [.str x.name,a,b,c,d] true,O.cells 46 [.str [],.aD,.aD,.aD,.aD] true]:Sg).length = 2:=rfl
 rw [n0] at n1 fr1
 have k2:∀ b,aQ w2 = some b -> 2 <= b:=fun b hb=>by have:=fr2 b hb; omega
 have k3:∀ b,aQ w3 = some b -> 2 <= b:=fun b hb=>by have:=fr3 b hb; omega
 have k4:∀ b,aQ w4 = some b -> 2 <= b:=fun b hb=>by have:=fr4 b hb; omega
 refine Eq.mpr (gP hD) (hk F' _ w1 w2 w3 w4 f1 f2 (s1 _) (by rw [No (by decide)]; exact z4) (uM (ow1.keep fun c o _ hc=>kp4 c o (kp3 c o (kp2 c o hc))) fr1) (uM (ow2.keep fun c o _ hc=>kp4 c o (kp3 c o hc)) k2) (uM (ow3.keep fun c o _ hc=>kp4 c o hc) k3) (uM ow4 k4) fun b hb=>⟨k4 b hb,fun e=>?_,fun e=>?_,fun e=>?_⟩)
 ·have:=fr4 b hb; have:=tM ow1 e; omega
 ·have:=fr4 b hb; have:=tM ow2 e; omega
 ·have:=fr4 b hb; have:=tM ow3 e; omega
end
end
section
section
variable {E:Env} {Z:Sg} {K:V -> Sg -> Prop}
theorem zU {k:Nat} (hk:k < 5):∀ {R:List (List V)} {i:Nat} {r:List V},(∀ x ∈ R,x.length = 5) -> R[i]? = some r -> R.flatten[i * 5 + k]? = r[k]?
 | [],_,_,_,h=>by cases h
 | x :: R,0,r,hx,h=>by
  cases h
  rw [az,dz,an,Z8 (by rw [hx _ (IN ..)]; exact hk)]
 | x :: R,i + 1,r,hx,h=>by
  have hl:=hx _ (IN ..)
  rw [az,ZR (by omega),show (i + 1) * 5 + k - x.length = i * 5 + k by omega]
  exact zU hk (fun y hy=>hx y (OF _ hy)) h
theorem Eh {k:Nat} {v:V} (hk:k < 5):∀ {R:List (List V)} {i:Nat} {r:List V},(∀ x ∈ R,x.length = 5) -> R[i]? = some r -> setCells R.flatten (i * 5 + k) [v] = (R.set i (r.set k v)).flatten
 | [],_,_,_,h=>by cases h
 | x :: R,0,r,hx,h=>by
  cases h
  have hl:=hx _ (IN ..)
  rw [ij,az,az,dz,an]
  unfold setCells
  rw [List.take_append_of_le_length (by omega),List.drop_append_of_le_length (by rw [cq]; omega),List.set_eq_take_append_cons_drop,ZO (by omega)]
  simp
 | x :: R,i + 1,r,hx,h=>by
  have hl:=hx _ (IN ..)
  have ih:=Eh (v:=v) hk (fun y hy=>hx y (OF _ hy)) h
  rw [jo,az,az,<- ih]
  unfold setCells
  rw [List.take_append,Z6 (by omega),show (i + 1) * 5 + k - x.length = i * 5 + k by omega,List.drop_append,jm (by omega),show (i + 1) * 5 + k + [v].length - x.length = i * 5 + k + [v].length by omega]
  simp
theorem IJ (h:bH E) {Y:Sg} {b i k:Nat} {R:List (List V)} {r:List V} {v:V} {ex:Bool} (hb:Y[b]? = some (.cells 113 R.flatten ex)) (hx:∀ x ∈ R,x.length = 5) (hr:R[i]? = some r) (hk:k < 5) (hv:r[k]? = some v):loadAt E Y 24 (.ref b (i * 5 + k)) = some v:=by
 unfold Ax.loadAt
 simp only [h.a_,hb,zU hk hx hr,hv,Ax.isAgg]
 rfl
theorem ME (h:bH E) {Y:Sg} {b i k:Nat} {R:List (List V)} {r:List V} {v:V} {ex:Bool} (hb:Y[b]? = some (.cells 113 R.flatten ex)) (hx:∀ x ∈ R,x.length = 5) (hr:R[i]? = some r) (hk:k < 5) (hc:v.cells = [v]) (ho:v.aZ = true):storeAt E Y 24 (.ref b (i * 5 + k)) v = some (Y.set b (.cells 113 (R.set i (r.set k v)).flatten ex)):=by
 unfold Ax.storeAt
 have hl:i * 5 + k + 1 <= R.flatten.length:=by
  have:=zU hk hx hr
  have hrl:=hx r (Z2 hr)
  rw [AT (show k < r.length by omega)] at this
  have:=(AI.1 this).1
  omega
 simp only [h.a_,hb,hc,Z0,ZN,dw,gy,ho,BY hl,Eh hk hx hr]
 rfl
theorem TS (h:bH E) {b n i:Nat} (hi:i < n):indexAddr E 44 (.sl b 0 n none) (.int .i64 (i:Int)) = some (.ref b (i * 5)):=by
 unfold Ax.indexAddr
 simp only [h.fI,h.bN,show ¬ ((i:Int) < 0) by omega,ZK,b9,hi,ZP,an]
theorem M3 {R:List (List V)} {i k:Nat} {r:List V} {v:V} (hx:∀ x ∈ R,x.length = 5) (hr:R[i]? = some r):∀ x ∈ R.set i (r.set k v),x.length = 5:=fun x hm=>by
 rcases List.mem_or_eq_of_mem_set hm with hm | rfl
 ·exact hx x hm
 ·rw [bq]; exact hx r (Z2 hr)
theorem Zx (h:bH E) (h':pV E) {x:aC} {w1 w2 w3 p q:V} {s:AxS.Step} {b n i:Nat} {R:List (List V)} {ex:Bool} {Y:Sg} (h0:Y[0]? = some (O.cells 46 [.str x.name,w1,w2,w3,.sl b 0 n none] true)) (hb:Y[b]? = some (.cells 113 R.flatten ex)) (hx:∀ x ∈ R,x.length = 5) (hr:R[i]? = some ([.str s.out,.int .i64 s.op,p,q,.int .i64 s.n])) (hi:i < n) (ip:IS aO p s.args) (iq:IS aO q s.lits) (l1:s.args.length <= 8) (l2:s.lits.length <= 3) (hb2:2 <= b)
  (F:FT) (g1:F.get 1 = .ref 0 0) (g3:F.get 3 = .int .i64 (i:Int)) {st:List jG} {Q:Ax.X -> Fr -> Sg -> Prop}
  (hk:∀ F' τ' wp wq,(∀ k,k ∈ [1,2,22,23] -> F'.get k = F.get k) -> τ'[b]? = some (.cells 113 (R.set i ([.str s.out,.int .i64 s.op,wp,wq,.int .i64 s.n])).flatten ex) -> bA aO 9 τ' wp s.args -> bA aO 9 τ' wq s.lits -> (∀ (c:Nat) (o:O),Y[c]? = some o -> c ≠ b -> τ'[c]? = some o) -> (∀ c,aQ wp = some c -> Y.length <= c) -> (∀ c,aQ wq = some c -> Y.length <= c) -> M E st .normal ⟨52,F'⟩ τ' Q) :
  Ax.R E (.region 5 (opsOf (cutAt [1,1,0,1,2,2,1,1,0,2,1] (aA Tryz.f62).code)) true) st ⟨52,F⟩ Y Q:=by
 obtain ⟨n1,wp,τ1,⟨ow1,kp1,fr1⟩,c1⟩:=aB.up (sK (Z:=Y) h ip (by omega))
 obtain ⟨n2,wq,τ2,⟨ow2,kp2,fr2⟩,c2⟩:=aB.up (sK (Z:=τ1) h iq (by omega))
 have c1:=c1 (n1 + n2) (by omega)
 have c2:=c2 (n1 + n2) (by omega)
 generalize n1 + n2 = m at c1 c2
 have h01:=kp1 _ _ h0
 have h02:=kp2 _ _ h01
 have hb1:=kp1 _ _ hb
 have hb2':=kp2 _ _ hb1
 obtain ⟨o1,t1⟩:=nU ow1
 obtain ⟨o2,t2⟩:=nU ow2
 have e1:=TS h hi (b:=b) (n:=n)
 have f1:=IJ h hb hx hr (k:=2) (by decide) rfl
 have f2:=IJ h hb1 hx hr (k:=3) (by decide) rfl
 have f2'':=IJ h hb hx hr (k:=3) (by decide) rfl
 have s1:=ME h hb2' hx hr (k:=2) (v:=wp) (by decide) t1 o1
 have hbl:=(AI.1 hb2').1
 have hR:(R.set i ([.str s.out,.int .i64 s.op,wp,q,.int .i64 s.n]))[i]? = some ([.str s.out,.int .i64 s.op,wp,q,.int .i64 s.n]):=ZV (AI.1 hr).1
 have s2:=ME h (Y:=τ2.set b (.cells 113 (R.set i ([.str s.out,.int .i64 s.op,wp,q,.int .i64 s.n])).flatten ex)) (v:=wq) (ZV hbl) (M3 (k:=2) (v:=wp) hx hr) hR (k:=3) (by decide) t2 o2
 have s1:storeAt E τ2 24 (.ref b (i * 5 + 2)) wp = some (τ2.set b (.cells 113 (R.set i ([.str s.out,.int .i64 s.op,wp,q,.int .i64 s.n])).flatten ex)):=s1
 have s2:storeAt E (τ2.set b (.cells 113 (R.set i ([.str s.out,.int .i64 s.op,wp,q,.int .i64 s.n])).flatten ex)) 24 (.ref b (i * 5 + 3)) wq = some (τ2.set b (.cells 113 (R.set i ([.str s.out,.int .i64 s.op,wp,wq,.int .i64 s.n])).flatten ex)):=by
  rw [s2,List.set_set,List.set_set]
  rfl
 have lw:loadAt E Y 44 (.ref 0 4) = some (.sl b 0 n none):=by unfold Ax.loadAt; simp only [h.fI,h0]; rfl
 have lw1:loadAt E τ1 44 (.ref 0 4) = some (.sl b 0 n none):=by unfold Ax.loadAt; simp only [h.fI,h01]; rfl
 have lw2:loadAt E τ2 44 (.ref 0 4) = some (.sl b 0 n none):=by unfold Ax.loadAt; simp only [h.fI,h02]; rfl
 have lw3:∀ y,loadAt E (τ2.set b y) 44 (.ref 0 4) = some (.sl b 0 n none):=fun y=>by
  have h03:(τ2.set b y)[0]? = some (O.cells 46 [.str x.name,w1,w2,w3,.sl b 0 n none] true):=by rw [No (by omega)]; exact h02
  unfold Ax.loadAt; simp only [h.fI,h03]; rfl
 have vq:=cF 10 iq
 have v0:sO 12 (.sl b 0 n none) (.sl b 0 n none) = true:=by unfold sO; simp
 have key:∃ F',cE E (ev E m) (opsOf (cutAt [1,1,0,1,2,2,1,1,0,2,1] (aA Tryz.f62).code)) ⟨52,F⟩ Y = some (⟨52,F'⟩,τ2.set b (.cells 113 (R.set i ([.str s.out,.int .i64 s.op,wp,wq,.int .i64 s.n])).flatten ex)) /\ (∀ k,k ∈ [1,2,22,23] -> F'.get k = F.get k):=by
  unfold cE
  rw [h'.UP,h'.Wq]
  simp only [aA,Tryz.f62,KP,↓reduceIte,reduceEqDiff,reduceLT,reduceAdd,reduceCtorEq,h.a_,h.fI,h.bK,h.bN,opsOf,cutAt,gL,bF,b_,jW,Ax.comp,Ax.last,gH,Ax.again,g1,g3,c1,c2,lw,lw1,lw2,lw3,e1,f1,f2,f2'',s1,s2,vq,v0]
  refine ⟨_,rfl,fun k hk=>?_⟩
  simp only [By,ZY,bt] at hk
  rcases hk with rfl | rfl | rfl | rfl <;> simp +decide only [GS]
 obtain ⟨F',hD,hF⟩:=key
 have hlen1:=Fc kp1
 have hne:∀ {w:V},(∀ c,aQ w = some c -> Y.length <= c) -> aQ w ≠ some b:=fun hfr e=>by
  have:=hfr b e
  have:=(AI.1 hb).1
  omega
 have fr2':∀ c,aQ wq = some c -> Y.length <= c:=fun c hc=>by have:=fr2 c hc; omega
 refine Eq.mpr (gP hD) (hk F' _ wp wq hF (ZV hbl) (bA.set (ow1.keep fun c o _ hc=>kp2 c o hc) (hne fr1)) (bA.set ow2 (hne fr2')) (fun c o hc hcb=>?_) fr1 fr2')
 rw [No (gr hcb)]
 exact kp2 _ _ (kp1 _ _ hc)
end
end
section
section
variable {E:Env} {Z:Sg} {K:V -> Sg -> Prop}
theorem HJ {β γ:Type} {P:β -> γ -> Prop}:∀ {a:List β} {b:List γ},eP P a b -> ∀ {j:Nat} {y:γ},b[j]? = some y -> ∃ x,a[j]? = some x /\ P x y
 | _,_,.nil,_,_,h=>by cases h
 | _ :: _,_ :: _,.cons h t,0,_,e=>by cases e; exact ⟨_,rfl,h⟩
 | _ :: _,_ :: _,.cons h t,j + 1,_,e=>by
  obtain ⟨x,h1,h2⟩:=HJ t (j:=j) e
  exact ⟨x,h1,h2⟩
structure Pa (Y:Sg) (b i:Nat) (R:List (List V)) (ex:Bool) (steps:List AxS.Step):Prop where
 hb:Y[b]? = some (.cells 113 R.flatten ex)
 len:R.length = steps.length
 IZ:∀ x ∈ R,x.length = 5
 row:∀ (j:Nat) (s:AxS.Step),steps[j]? = some s -> ∃ p q,R[j]? = some ([.str s.out,.int .i64 s.op,p,q,.int .i64 s.n]) /\ (j < i -> bA aO 9 Y p s.args /\ bA aO 9 Y q s.lits /\ aQ p ≠ some b /\ aQ q ≠ some b) /\ (i <= j -> IS aO p s.args /\ IS aO q s.lits)
theorem Pa.start {Y:Sg} {b:Nat} {rs:List (List V)} {ex:Bool} {steps:List AxS.Step} (hb:Y[b]? = some (.cells 113 rs.flatten ex)) (ha:eP eZ.P rs steps):Pa Y b 0 rs ex steps:=by
 refine ⟨hb,ha.len,Lay.lens ha,fun j s hj=>?_⟩
 obtain ⟨r,h1,a,l,rfl,h2,h3⟩:=HJ ha hj
 exact ⟨a,l,h1,fun h=>by omega,fun _=>⟨h2,h3⟩⟩
theorem Pa.step {Y τ':Sg} {b i:Nat} {R:List (List V)} {ex:Bool} {steps:List AxS.Step} {s:AxS.Step} {wp wq:V} (h:Pa Y b i R ex steps) (hs:steps[i]? = some s) (hb:τ'[b]? = some (.cells 113 (R.set i ([.str s.out,.int .i64 s.op,wp,wq,.int .i64 s.n])).flatten ex)) (o1:bA aO 9 τ' wp s.args) (o2:bA aO 9 τ' wq s.lits) (k:∀ (c:Nat) (o:O),Y[c]? = some o -> c ≠ b -> τ'[c]? = some o) (f1:∀ c,aQ wp = some c -> Y.length <= c) (f2:∀ c,aQ wq = some c -> Y.length <= c):Pa τ' b (i + 1) (R.set i ([.str s.out,.int .i64 s.op,wp,wq,.int .i64 s.n])) ex steps:=by
 have hbl:=(AI.1 h.hb).1
 have hil:i < R.length:=by rw [h.len]; exact (AI.1 hs).1
 refine ⟨hb,by rw [bq]; exact h.len,fun x hx=>?_,fun j t hj=>?_⟩
 ·rcases List.mem_or_eq_of_mem_set hx with hx | rfl
  ·exact h.IZ x hx
  ·rfl
 ·by_cases hij:i = j
  ·subst hij
   rw [hs] at hj
   cases hj
   refine ⟨wp,wq,ZV hil,fun _=>⟨o1,o2,fun e=>?_,fun e=>?_⟩,fun h=>by omega⟩
   ·have:=f1 b e; omega
   ·have:=f2 b e; omega
  ·obtain ⟨p,q,h1,h2,h3⟩:=h.row j t hj
   refine ⟨p,q,by rw [No hij]; exact h1,fun hlt=>?_,fun hle=>h3 (by omega)⟩
   obtain ⟨a1,a2,a3,a4⟩:=h2 (by omega)
   exact ⟨a1.keep fun c o hc ho=>k c o ho (fun e=>a3 (by rw [hc,e])),a2.keep fun c o hc ho=>k c o ho (fun e=>a4 (by rw [hc,e])),a3,a4⟩
theorem Tq {Y:Sg} {w:V} {l:List bC} (ow:bA aO 9 Y w l):OL Y w l:=by
 rcases ow with h | ⟨b,rs,ex,rfl,hb,ha⟩
 ·exact .inl h
 ·obtain rfl:=Ba ha
  rw [Cy] at hb
  exact .inr ⟨b,_,ex,rfl,hb,Z6 (by rw [ZS]; exact Z1 _)⟩
theorem Pu {v:V} {l:List bC} (h:Sa v l):jT aO v l:=by
 rcases h with h | ⟨full,rfl⟩
 ·exact .inl h
 ·exact .inr ⟨_,full,rfl,y_ l⟩
theorem BH (h:bH E) {Y:Sg} {w:V} {l:List bC} {m:Nat} (ow:bA aO 9 Y w l):∃ v',bO Y E.ty false (m + 2) w = some v' /\ cH false v' = true /\ jT aO v' l:=by
 obtain ⟨v',h1,h2⟩:=(Tq ow).snap (m:=m) h
 exact ⟨v',h1,h2.tag,Pu h2⟩
theorem GL {α β:Type} {f:α -> Option β}:∀ {a:List α} {a':List β} {b:List α} {b':List β},aW f a = some a' -> aW f b = some b' -> aW f (a ++ b) = some (a' ++ b')
 | [],a',b,b',h1,h2=>by cases h1; exact h2
 | x :: a,a',b,b',h1,h2=>by
  rw [aW] at h1
  cases hx:f x with
  | none=>rw [hx] at h1; cases h1
  | some y=>
   cases hm:aW f a with
   | none=>rw [hx,hm] at h1; cases h1
   | some l=>
    rw [hx,hm] at h1
    cases h1
    rw [bg,aW,hx,GL hm h2]
    rfl
theorem F8 (h:bH E) {Y:Sg} {b n:Nat} {R:List (List V)} {ex:Bool} {steps:List AxS.Step} (hs:Pa Y b n R ex steps) (hn:n = steps.length):∃ v',bO Y E.ty false 12 (.sl b 0 n none) = some v' /\ cH false v' = true /\ jT fS v' steps:=by
 have key:∀ (R:List (List V)) (steps:List AxS.Step),R.length = steps.length -> (∀ (j:Nat) (s:AxS.Step),steps[j]? = some s -> ∃ p q,R[j]? = some ([.str s.out,.int .i64 s.op,p,q,.int .i64 s.n]) /\ bA aO 9 Y p s.args /\ bA aO 9 Y q s.lits) -> ∃ R',aW (fun v=>match bO Y E.ty false 11 v with
   | some v=>if cH false v then some v else Ax.no "snap: borrowed"
   | none=>none) R.flatten = some R'.flatten /\ eP fS.P R' steps:=by
  intro R
  induction R with
  | nil=>
   intro steps hl _
   have:steps = []:=List.eq_nil_of_length_eq_zero hl.symm
   subst this
   exact ⟨[],rfl,.nil⟩
  | cons r R ih=>
   intro steps hl hr
   cases steps with
   | nil=>cases hl
   | cons s steps=>
    obtain ⟨R',m1,a1⟩:=ih steps (by simpa using hl) fun j t hj=>hr (j + 1) t hj
    obtain ⟨p,q,h1,h2,h3⟩:=hr 0 s rfl
    cases h1
    obtain ⟨p',e1,t1,i1⟩:=BH (m:=9) h h2
    obtain ⟨q',e2,t2,i2⟩:=BH (m:=9) h h3
    refine ⟨([.str s.out,.int .i64 s.op,p',q',.int .i64 s.n]) :: R',?_,.cons ⟨p',q',rfl,i1,i2⟩ a1⟩
    rw [az,az]
    refine GL ?_ m1
    have es:∀ z:bC,bO Y E.ty false 11 (.str z) = some (.str z):=fun z=>iW rfl
    have ei:∀ z:Int,bO Y E.ty false 11 (.int .i64 z) = some (.int .i64 z):=fun z=>iW rfl
    have ts:∀ z:bC,cH false (.str z) = true:=fun _=>rfl
    have ti:∀ z:Int,cH false (.int .i64 z) = true:=fun _=>rfl
    simp only [aW,es,ei,ts,ti,e1,e2,t1,t2,ZP]
 obtain ⟨R',m1,a1⟩:=key R steps hs.len fun j s hj=>by
  obtain ⟨p,q,h1,h2,-⟩:=hs.row j s hj
  obtain ⟨a1,a2,-⟩:=h2 (by have:=(AI.1 hj).1; omega)
  exact ⟨p,q,h1,a1,a2⟩
 have hfl:R.flatten.length = n * 5:=by rw [nE R hs.IZ,hs.len,hn]
 have htk:(R.flatten.drop 0).take (n * 5) = R.flatten:=by rw [cn,Z6 (by omega)]
 refine ⟨.bS false R' (ex && decide (0 < 5) && (0 + n * 5 == R.flatten.length)),?_,rfl,.inr ⟨R',_,rfl,a1⟩⟩
 rw [bO]
 simp only [hs.hb,h.bN]
 rw [ZO (by omega)]
 have m2:aW (fun v=>match bO Y E.ty false 11 v with
   | some v=>if cH false v then some v else Ax.no "snap: borrowed"
   | none=>none) ((R.flatten.drop 0).take (n * 5)) = some R'.flatten:=by rw [htk]; exact m1
 refine Eq.trans (ZL (fun o=>match o with
  | some l=>some (V.bS false (Ax.rows 5 n l) (ex && decide (0 < 5) && (0 + n * 5 == R.flatten.length)))
  | none=>none) m2) ?_
 show some (V.bS false (Ax.rows 5 n R'.flatten) _) = _
 have hl':n = R'.length:=by rw [a1.len,hn]
 rw [hl',show Ax.rows 5 R'.length R'.flatten = R' from lN (sz:=5) R' (Lay.lens (L:=fS) a1)]
end
end
section
section
variable {E:Env} {Z:Sg} {K:V -> Sg -> Prop}
def RQ (v:V) (x:aC):Prop:=∃ a b c d,v = .agg [.str x.name,a,b,c,d] /\ jT aO a x.ins /\ jT aO b x.outs /\ jT aO c x.after /\ jT fS d x.steps
theorem qG (h:bH E) {Y:Sg} {w:V} {l:List bC} (ow:bA aO 9 Y w l):∃ v',aS.one Y E.ty false w = some v' /\ jT aO v' l:=by
 obtain ⟨v',h1,h2,h3⟩:=BH (m:=10) h ow
 refine ⟨v',?_,h3⟩
 unfold aS.one
 rw [show dJ = 10 + 2 from rfl,h1]
 simp only [h2,ZP]
theorem Pa.Xw {Y:Sg} {b i u:Nat} {R:List (List V)} {ex:Bool} {steps:List AxS.Step} {cs:List V} {y:O} (h:Pa Y b i R ex steps) (hz:Y[1]? = some (.cells u cs true)) (hu:u ≠ 9) (hb:2 <= b):Pa (Y.set 1 y) b i R ex steps:=by
 refine ⟨by rw [No (by omega)]; exact h.hb,h.len,h.IZ,fun j s hj=>?_⟩
 obtain ⟨p,q,h1,h2,h3⟩:=h.row j s hj
 refine ⟨p,q,h1,fun hlt=>?_,h3⟩
 obtain ⟨a1,a2,a3,a4⟩:=h2 hlt
 exact ⟨bA.set a1 (kX hz hu a1),bA.set a2 (kX hz hu a2),a3,a4⟩
theorem OI (h:bH E) (h':pV E) {v:V} {x:aC} (hv:HN v x) (hs:Small x):aB E 62 [v] Z fun v σ'=>σ' = Z /\ RQ v x:=by
 have ev:=hv.snap (E:=E) Z
 obtain ⟨a,b,c,d,rfl,ia,ib,ic,id⟩:=hv
 have o1:=aM ia.bD
 have o2:=aM ib.bD
 have o3:=aM ic.bD
 have o4:=aM id.bD
 have l4:=hs.steps
 rw [aH h'.hs62 h'.sp62 h'.fn62 h'.md62 (args':=[.agg [.str x.name,a,b,c,d]]) (by simp only [aW,ev]),aX (by kernel_rfl)]
 simp only [aA,Tryz.f62,KP,↓reduceIte,reduceLT,reduceAdd,h.bK,o1,o2,o3,o4]
 refine Zy h h' ia ib ic id hs _ ?_ ?_
 ·exact (by simp +decide only [GS])
 intro F1 τ1 w1 w2 w3 w4 g1 g2 b0 z0 ow1 ow2 ow3 ow4 sep
 have g2:F1.get 2 = .ref 1 0:=g2.trans (by simp +decide only [GS])
 obtain ⟨k1,t1⟩:=nU ow1
 obtain ⟨k2,t2⟩:=nU ow2
 obtain ⟨k3,t3⟩:=nU ow3
 rcases ow4 with ⟨rfl,hst⟩ | ⟨b4,rs,ex,rfl,hb,ha⟩
 ·have ln:∀ Z,lenOf E Z 44 .aD = some 0:=fun Z=>by unfold lenOf; rw [h.fI]
  simp only [KP,Ax.loadAt,↓reduceIte,reduceLT,reduceCtorEq,h.fI,h.bK,g1,b0,ln]
  rw [aG]
  have hz1:=(AI.1 z0).1
  have s1:∀ y,(τ1.set 1 y)[1]? = some y:=fun y=>ZV hz1
  obtain ⟨a',e1,j1⟩:=qG h (bA.set (y:=O.cells 46 [.str x.name,w1,w2,w3,.aD] true) ow1 (kX z0 (by decide) ow1))
  obtain ⟨b',e2,j2⟩:=qG h (bA.set (y:=O.cells 46 [.str x.name,w1,w2,w3,.aD] true) ow2 (kX z0 (by decide) ow2))
  obtain ⟨c',e3,j3⟩:=qG h (bA.set (y:=O.cells 46 [.str x.name,w1,w2,w3,.aD] true) ow3 (kX z0 (by decide) ow3))
  have e0:∀ Y (z:bC),aS.one Y E.ty false (.str z) = some (.str z):=fun Y z=>rfl
  have e5:∀ Y,aS.one Y E.ty false .aD = some .aD:=fun Y=>rfl
  simp only [KP,Ax.loadAt,Ax.storeAt,↓reduceIte,reduceEqDiff,reduceLT,reduceAdd,Int.reduceLT,h.bK,g1,g2,b0,z0,k1,k2,k3,s1,e0,e1,e2,e3,e5,cK,aS,aW]
  exact ⟨a',b',c',.aD,rfl,j1,j2,j3,.inl ⟨rfl,hst⟩⟩
 ·generalize hn:x.steps.length = n at *
  obtain ⟨hb2,d1,d2,d3⟩:=sep b4 rfl
  have ln:∀ Z,lenOf E Z 44 (.sl b4 0 n none) = some n:=fun Z=>by unfold lenOf; rw [h.fI]
  simp only [KP,Ax.loadAt,↓reduceIte,reduceLT,reduceCtorEq,h.fI,h.bK,g1,b0,ln]
  refine aV (fun i F Y=>F.get 1 = .ref 0 0 /\ F.get 2 = .ref 1 0 /\ F.get 22 = .int .i64 (n:Int) /\ F.get 23 = .int .i64 (i:Int) /\ Y[0]? = some (O.cells 46 [.str x.name,w1,w2,w3,.sl b4 0 n none] true) /\ Y[1]? = some (O.cells 46 [.str [],.aD,.aD,.aD,.aD] true) /\ bA aO 9 Y w1 x.ins /\ bA aO 9 Y w2 x.outs /\ bA aO 9 Y w3 x.after /\ ∃ R,Pa Y b4 i R ex x.steps) n ?_ ?_ n 0 _ _ (by omega) (fE (by simp +decide only [GS,g1,g2,Z5]) ⟨b0,z0,ow1,ow2,ow3,rs,Pa.start hb ha⟩)
  ·rintro i F Y hi ⟨g1,g2,g22,g23,b0,z0,ow1,ow2,ow3,R,sa⟩ next
   obtain ⟨s,hsi⟩:∃ y,x.steps[i]? = some y:=⟨_,AT (by omega)⟩
   obtain ⟨p,q,hr,-,hpq⟩:=sa.row i s hsi
   obtain ⟨ip,iq⟩:=hpq (Z1 _)
   have hsm:=Z2 hsi
   have hlt:=dZ hi
   have hadd:=bY i (by omega)
   rw [aG]
   simp only [KP,↓reduceIte,reduceEqDiff,reduceLT,g22,g23,hlt]
   refine Zx h h' b0 sa.hb sa.IZ hr hi ip iq (hs.args s hsm) (hs.lits s hsm) hb2 _ ?_ ?_ ?_
   ·exact (by simp +decide only [GS,g1])
   ·exact (by simp +decide only [GS])
   intro F' τ' wp wq hF hb' op oq hk f1 f2
   have q1:F'.get 1 = .ref 0 0:=(hF 1 (by simp)).trans (by simp +decide only [GS,g1])
   have q2:F'.get 2 = .ref 1 0:=(hF 2 (by simp)).trans (by simp +decide only [GS,g2])
   have q22:F'.get 22 = .int .i64 (n:Int):=(hF 22 (by simp)).trans (by simp +decide only [GS,g22])
   have q23:F'.get 23 = .int .i64 (i:Int):=(hF 23 (by simp)).trans (by simp +decide only [GS,g23])
   simp only [KP,↓reduceIte,reduceLT,q23,hadd]
   exact next _ _ (fE (by simp +decide only [GS,q1,q2,q22,Z5]) ⟨hk 0 _ b0 (by omega),hk 1 _ z0 (by omega),ow1.keep fun c o hc ho=>hk c o ho (fun e=>d1 (by rw [hc,e])),ow2.keep fun c o hc ho=>hk c o ho (fun e=>d2 (by rw [hc,e])),ow3.keep fun c o hc ho=>hk c o ho (fun e=>d3 (by rw [hc,e])),_,sa.step hsi hb' op oq hk f1 f2⟩)
  ·rintro F Y ⟨g1,g2,g22,g23,b0,z0,ow1,ow2,ow3,R,sa⟩
   have hlt:=d_ (ZT n)
   have hz1:=(AI.1 z0).1
   have s1:∀ y,(Y.set 1 y)[1]? = some y:=fun y=>ZV hz1
   obtain ⟨a',e1,j1⟩:=qG h (bA.set (y:=O.cells 46 [.str x.name,w1,w2,w3,.sl b4 0 n none] true) ow1 (kX z0 (by decide) ow1))
   obtain ⟨b',e2,j2⟩:=qG h (bA.set (y:=O.cells 46 [.str x.name,w1,w2,w3,.sl b4 0 n none] true) ow2 (kX z0 (by decide) ow2))
   obtain ⟨c',e3,j3⟩:=qG h (bA.set (y:=O.cells 46 [.str x.name,w1,w2,w3,.sl b4 0 n none] true) ow3 (kX z0 (by decide) ow3))
   obtain ⟨d',e4,t4,j4⟩:=F8 h (sa.Xw (y:=O.cells 46 [.str x.name,w1,w2,w3,.sl b4 0 n none] true) z0 (by decide) hb2) hn.symm
   have e4:aS.one (Y.set 1 (O.cells 46 [.str x.name,w1,w2,w3,.sl b4 0 n none] true)) E.ty false (.sl b4 0 n none) = some d':=by
    unfold aS.one
    rw [show dJ = 12 from rfl,e4]
    simp only [t4,ZP]
   have e0:∀ Y (z:bC),aS.one Y E.ty false (.str z) = some (.str z):=fun Y z=>rfl
   rw [aG]
   simp only [KP,Ax.loadAt,Ax.storeAt,↓reduceIte,reduceEqDiff,reduceLT,reduceAdd,h.bK,g1,g2,g22,g23,hlt,b0,z0,k1,k2,k3,s1,e0,e1,e2,e3,e4,cK,aS,aW]
   exact ⟨a',b',c',d',rfl,j1,j2,j3,j4⟩
end
end
end Go.Proofs.YtmhchflckonklaaGreatDoor
end
section
namespace Go.Proofs.YtmhchflckonklaaGreatDoor.Lb
open Go Go.Ax Go.AxS
def LVf (v:V) (l:List aI):Prop:=(v = .aD /\ l = []) \/ ∃ full,v = .bS false (l.map row) full
theorem LVf.lv {v:V} {l:List aI} (h:LVf v l):LV v l:=h.imp id fun ⟨full,e⟩=>⟨false,full,e⟩
section
section
variable {E:Env} {Z:Sg} {K:V -> Sg -> Prop}
theorem Pg (n:Nat) (h:n <= 10000000000000):wr .i64 ((n:Int) + 1) = ((n + 1:Nat):Int):=by
 rw [yS,ZO]
 ·rfl
 ·rw [Z3,IT,IT]
  exact ⟨show (-9223372036854775808:Int) <= (n:Int) + 1 by omega,show (n:Int) + 1 <= (9223372036854775807:Int) by omega⟩
theorem Kx (h:cQ E) (c:Bool) (a b:Bool) (s t:List Nat):nY E 51 c (.agg [.bool a,.str s]) (.agg [.bool b,.str t]) = some (decide (((a,s):aI) = (b,t))):=by
 unfold nY
 simp only [h.cP,h.QW,Ax.eqs]
 rw [xC]
 cases a <;> cases b <;> simp
end
end
section
def mD (ks:List aI):List (V × V):=ks.map fun k=>(V.agg [.bool k.1,.str k.2],V.bool true)
structure cR (Z:Sg) (b m:Nat) (ks:List aI):Prop where
 obj:Z[b]? = some (.cells 80 [.mp m] true)
 map:Z[m]? = some (.map (mD ks))
 nodup:ks.Nodup
def Kp (Z σ':Sg) (m:Nat):Prop:=∀ (j:Nat) (o:O),j ≠ m -> Z[j]? = some o -> σ'[j]? = some o
def qF (Z σ':Sg):Prop:=∀ (j:Nat) (o:O),Z[j]? = some o -> σ'[j]? = some o
theorem qF.refl (Z:Sg):qF Z Z:=fun _ _ h=>h
theorem qF.trans {Z Y ρ:Sg} (h:qF Z Y) (k:qF Y ρ):qF Z ρ:=fun j o e=>k j o (h j o e)
theorem qF.app (Z Y:Sg):qF Z (Z ++ Y):=fun _ _ h=>j_ h Y
theorem qF.tU {Z σ':Sg} (h:qF Z σ'):dR Z σ':=fun b t cs ex e=>h _ _ e
theorem Kp.refl (Z:Sg) (m:Nat):Kp Z Z m:=fun _ _ _ h=>h
theorem Kp.trans {Z Y ρ:Sg} {m:Nat} (h:Kp Z Y m) (k:Kp Y ρ m):Kp Z ρ m:=fun j o hj e=>k j o hj (h j o hj e)
theorem Kp.tU {Z σ':Sg} {m:Nat} {es:List (V × V)} (h:Kp Z σ' m) (hm:Z[m]? = some (.map es)):dR Z σ':=fun b t cs ex e=>h _ _ (fun hb=>by subst hb; rw [hm] at e; cases e) e
theorem qF.kp {Z σ':Sg} (h:qF Z σ') (m:Nat):Kp Z σ' m:=fun j o _ e=>h j o e
theorem cR.ne {Z:Sg} {b m:Nat} {ks:List aI} (h:cR Z b m ks):b ≠ m:=fun e=>by
 subst e; have:=h.obj; rw [h.map] at this; cases this
theorem cR.nW {Z σ':Sg} {b m:Nat} {ks:List aI} (h:cR Z b m ks) (k:qF Z σ'):cR σ' b m ks:=⟨k _ _ h.obj,k _ _ h.map,h.nodup⟩
theorem cR.kp {Z σ':Sg} {b m m':Nat} {ks ks':List aI} {b':Nat} (h:cR Z b m ks) (h':cR Z b' m' ks') (hm:m ≠ m') (k:Kp Z σ' m'):cR σ' b m ks:=
 ⟨k _ _ (fun e=>by subst e; have:=h.obj; rw [h'.map] at this; cases this) h.obj,k _ _ hm h.map,h.nodup⟩
section
variable {E:Env} {Z:Sg} {K:V -> Sg -> Prop}
theorem mM (h:cQ E) (a b:Bool) (s t:List Nat):dQ E 51 (.agg [.bool a,.str s]) (.agg [.bool b,.str t]) = some (decide (((a,s):aI) = (b,t))):=by
 unfold dQ
 simp only [h.cP,h.QW,Ax.eqs]
 rw [xC]
 cases a <;> cases b <;> simp
theorem lG (h:cQ E) (a:Bool) (s:List Nat):dX E 51 (.agg [.bool a,.str s]) = true:=by
 unfold dX
 simp only [h.cP,h.QW,Ax.eqs]
 rfl
theorem IQ (y:aI) (r:List aI) (x:aI) (hxy:x ≠ y):jS (y :: r) x = y :: jS r x:=by
 unfold jS
 by_cases hx:x ∈ r
 ·rw [ZO hx,ZO (OF _ hx)]
 ·rw [ZM hx,ZM (by simp [hxy,hx])]; rfl
theorem DT (h:cQ E) (x:aI):∀ ks:List aI,jY (dQ E 51) (.agg [.bool x.1,.str x.2]) (.bool true) (mD ks) = some (mD (jS ks x))
 | []=>rfl
 | y :: r=>by
  show (match dQ E 51 (.agg [.bool x.1,.str x.2]) (.agg [.bool y.1,.str y.2]) with
   | some true=>some ((V.agg [.bool x.1,.str x.2],V.bool true) :: mD r)
   | some false=>(match jY (dQ E 51) (.agg [.bool x.1,.str x.2]) (.bool true) (mD r) with
    | some r'=>some ((V.agg [.bool y.1,.str y.2],V.bool true) :: r')
    | none=>none)
   | none=>none) = _
  rw [mM h,DT h x r]
  by_cases hxy:x = y
  ·rw [BY (show ((x.1,x.2):aI) = (y.1,y.2) from hxy)]
   subst hxy
   unfold jS
   rw [ZO (IN ..)]
   rfl
  ·rw [AS (show ¬ ((x.1,x.2):aI) = (y.1,y.2) from hxy),IQ y r x hxy]
   rfl
theorem KU (h:cQ E) (a:Bool) (s:List Nat):storeAt E (Z ++ [.cells 51 [.bool false,.str []] true]) 51 (.ref Z.length 0) (.agg [.bool a,.str s]) = some (Z ++ [.cells 51 [.bool a,.str s] true]):=by
 unfold storeAt
 simp only [h.cP]
 rw [ZR (Z1 _),gz]
 refine (ZO rfl).trans ?_
 rw [js _ _ (Z1 _),gz]
 rfl
theorem NN (h:cQ E) (a:Bool) (s:List Nat):loadAt E (Z ++ [.cells 51 [.bool a,.str s] true]) 51 (.ref Z.length 0) = some (.agg [.bool a,.str s]):=by
 unfold loadAt
 simp only [h.cP]
 rw [ZR (Z1 _),gz]
 rfl
theorem qQ (h:cQ E) {b m:Nat} (hb:Z[b]? = some (.cells 80 [.mp m] true)):loadAt E Z 76 (.ref b 0) = some (.mp m):=by
 unfold loadAt
 simp only [h.uZ,hb]
 rfl
theorem EX (h:cQ E) {m:Nat} {ks:List aI} (hm:Z[m]? = some (.map (mD ks))) (x:aI):mapUpdate E Z 76 (.mp m) (.agg [.bool x.1,.str x.2]) (.bool true) = some (Z.set m (.map (mD (jS ks x)))):=by
 unfold mapUpdate
 simp only [h.uZ,lG h,hm,DT h]
 rfl
theorem Bd (h:cQ E) {m:Nat} {ks:List aI} (hm:Z[m]? = some (.map (mD ks))):lenOf E Z 76 (.mp m) = some ks.length:=by
 unfold lenOf
 simp only [h.uZ,hm]
 simp [mD]
theorem HR (h:cQ E) {b m:Nat} {ks l:List aI} {v:V} {n0:Int} (hsm:l.length <= 10000000000) {σ0:Sg} {s:List jG} {Q:Ax.X -> Fr -> Sg -> Prop}
  (hQ:∀ (F':FT) (σ':Sg),cR σ' b m (keys ks l) -> Kp σ0 σ' m -> F'.get 0 = .ref b 0 -> F'.get 5 = .int .i64 n0 -> M E s .normal ⟨48,F'⟩ σ' Q) :
  ∀ (k i:Nat) (F:FT) (σ':Sg),i + k = l.length -> cR σ' b m (keys ks (l.take i)) -> SV σ' v l -> Kp σ0 σ' m -> F.get 0 = .ref b 0 -> F.get 5 = .int .i64 n0 -> F.get 27 = v -> F.get 28 = .int .i64 (l.length:Int) -> F.get 29 = .int .i64 (i:Int) ->
   R E (.loop (cutAt [1,1,1,1,0,1,2,2] (aA Tryz.f63).code)) (.blk 0 :: s) ⟨48,F⟩ σ' Q:=by
 have d9:=h.Zn
 simp only [aA,Tryz.f63,cutAt,Z9] at d9
 intro k
 induction k with
 | zero=>
  intro i F σ' hi hs hv hk g0 g5 g27 g28 g29
  have hlt:decide ((i:Int) < (l.length:Int)) = false:=AS (by omega)
  rw [aG]
  simp only [aA,Tryz.f63,KP,↓reduceIte,reduceLT,cutAt,g28,g29,hlt]
  rw [Z6 (by omega)] at hs
  refine hQ _ _ hs hk ?_ ?_ <;> simp only [FT.jZ,g0,g5,↓reduceIte,reduceEqDiff,reduceCtorEq]
 | succ k ih=>
  intro i F σ' hi hs hv hk g0 g5 g27 g28 g29
  have hlt:decide ((i:Int) < (l.length:Int)) = true:=BY (by omega)
  obtain ⟨x,hx⟩:∃ x,l[i]? = some x:=⟨_,AT (by omega)⟩
  obtain ⟨pa,e1,e2⟩:=QY h hv hx
  have e2:=e2 _ (dR.refl _)
  have hadd:=Pg i (by omega)
  have lm:=qQ h (j_ hs.obj [.cells 51 [.bool x.1,.str x.2] true])
  have pm:=EX h (j_ hs.map [.cells 51 [.bool x.1,.str x.2] true]) x
  rw [aG]
  simp only [aA,Tryz.f63,KP,↓reduceIte,reduceEqDiff,reduceLT,reduceCtorEq,h.cP,h.uZ,h.uY,h.AO,cutAt,g0,g27,g28,g29,hlt,e1,e2,KU h,NN h,lm,pm,aU d9,bM,hadd]
  have hml:=(AI.1 hs.map).1
  refine ih (i + 1) _ _ (by omega) ⟨?_,?_,?_⟩ ?_ ?_ ?_ ?_ ?_ ?_ ?_
  ·rw [No hs.ne.symm]
   exact j_ hs.obj _
  ·rw [ZV (by rw [Z7]; omega)]
   rw [bh,hx]
   show some (O.map (mD (jS (keys ks (l.take i)) x))) = some (O.map (mD (List.foldl jS ks (l.take i ++ [x]))))
   rw [List.foldl_append]
   rfl
  ·rw [bh,hx]
   show (List.foldl jS ks (l.take i ++ [x])).Nodup
   rw [List.foldl_append]
   exact GV hs.nodup
  ·refine hv.keep fun j t cs ex e=>?_
   rw [No (fun hj=>by subst hj; rw [hs.map] at e; cases e)]
   exact j_ e _
  ·refine hk.trans fun j o hj e=>?_
   rw [No (fun h=>hj h.symm)]
   exact j_ e _
  all_goals simp only [FT.jZ,g0,g5,g27,g28,↓reduceIte,reduceEqDiff,reduceCtorEq]
theorem Sl (a b:Nat) (ha:a <= 1000000000000) (hb:b <= 1000000000000):wr .i64 ((a:Int) - (b:Int)) = (a:Int) - (b:Int):=by
 rw [yS,ZO]
 rw [Z3,IT,IT]
 exact ⟨show (-9223372036854775808:Int) <= _ by omega,show _ <= (9223372036854775807:Int) by omega⟩
theorem OQ (h:cQ E) {b m:Nat} {ks l:List aI} {v:V} (hs:cR Z b m ks) (hv:SV Z v l) (hsm:l.length <= 10000000000) (hks:ks.length <= 10000000000) :
  aB E 63 [.ref b 0,v] Z fun r σ'=>r = .int .i64 (((keys ks l).length:Int) - (ks.length:Int)) /\ cR σ' b m (keys ks l) /\ Kp Z σ' m:=by
 rw [dF h.XB h.U1 h.Yr h.WD,aX (by kernel_rfl)]
 have lm:=qQ h hs.obj
 have lk:=Bd h hs.map
 have lv:lenOf E Z 23 v = some l.length:=Tw h hv
 simp only [aA,Tryz.f63,KP,↓reduceIte,reduceEqDiff,reduceLT,reduceAdd,reduceCtorEq,h.tA,h.uZ,h.uY,h.AO,lm,lk,lv,nY]
 refine HR h hsm (σ0:=Z) (n0:=(ks.length:Int)) (fun F' σ' hs' hk' g0 g5=>?_) l.length 0 _ Z (by omega) hs hv (Kp.refl _ _) ?_ ?_ ?_ ?_ ?_
 ·have lm2:=qQ h hs'.obj
  have lk2:=Bd h hs'.map
  have hl:=nC (xs:=l) (l:=ks)
  have hsub:=Sl (keys ks l).length ks.length (by omega) (by omega)
  simp only [KP,↓reduceIte,reduceEqDiff,reduceLT,reduceCtorEq,h.uZ,h.uY,h.AO,lm2,lk2,g0,g5,hsub]
  exact ⟨hs',hk'⟩
 all_goals simp only [FT.jZ,KP,↓reduceIte,reduceEqDiff,reduceCtorEq]
 all_goals rfl
end
end
section
section
variable {E:Env} {Z:Sg} {K:V -> Sg -> Prop}
theorem NL (h:cQ E) {b:Nat} (hb:Z[b]? = some (.cells 80 [.bU] true)):loadAt E Z 76 (.ref b 0) = some .bU:=by
 unfold loadAt
 simp only [h.uZ,hb]
 rfl
theorem KV (h:cQ E) {b m:Nat} {u:V} (hb:Z[b]? = some (.cells 80 [u] true)):storeAt E Z 76 (.ref b 0) (.mp m) = some (Z.set b (.cells 80 [.mp m] true)):=by
 unfold storeAt
 simp only [h.uZ,hb]
 rfl
theorem OP (h:cQ E) {b:Nat} {l:List aI} {v:V} (hb:Z[b]? = some (.cells 80 [.bU] true)) (hv:SV Z v l) (hsm:l.length <= 10000000000) :
  aB E 63 [.ref b 0,v] Z fun r σ'=>∃ m,cR σ' b m (keys [] l) /\ Z.length <= m /\ ∀ j o,j ≠ b -> Z[j]? = some o -> σ'[j]? = some o:=by
 rw [dF h.XB h.U1 h.Yr h.WD,aX (by kernel_rfl)]
 have hbl:=(AI.1 hb).1
 have ln:=NL h hb
 have st:=KV h (m:=Z.length) (j_ hb [.map []])
 have hs1:cR ((Z ++ [O.map []]).set b (.cells 80 [.mp Z.length] true)) b Z.length []:=by
  refine ⟨ZV (by rw [Z7]; omega),?_,nodup_nil⟩
  rw [No (by omega),ZR (Z1 _),gz]
  rfl
 have hk1:∀ j o,j ≠ b -> Z[j]? = some o -> ((Z ++ [O.map []]).set b (.cells 80 [.mp Z.length] true))[j]? = some o:=fun j o hj e=>by
  rw [No (fun e=>hj e.symm)]
  exact j_ e _
 have hv1:SV ((Z ++ [O.map []]).set b (.cells 80 [.mp Z.length] true)) v l:=by
  rcases hv with hv | hv | ⟨j,cs,ex,e1,e2,e3⟩
  ·exact .inl hv
  ·exact .inr (.inl hv)
  ·refine .inr (.inr ⟨j,cs,ex,e1,hk1 j _ (fun e=>?_) e2,e3⟩)
   subst e; rw [hb] at e2; cases e2
 have lm:=qQ h hs1.obj
 have lk:=Bd h hs1.map
 have lv:∀ σ',lenOf E σ' 23 v = some l.length:=fun σ'=>by
  unfold lenOf
  rw [h.kI]
  rcases hv with ⟨rfl,rfl⟩ | ⟨g,full,rfl⟩ | ⟨j,cs,ex,rfl,e2,e3⟩
  ·rfl
  ·simp
  ·rfl
 simp only [aA,Tryz.f63,KP,↓reduceIte,reduceEqDiff,reduceLT,reduceAdd,reduceCtorEq,h.tA,h.uZ,h.uY,h.AO,ln,st,lm,lk,lv,nY]
 refine HR h hsm (σ0:=(Z ++ [O.map []]).set b (.cells 80 [.mp Z.length] true)) (n0:=0) (fun F' σ' hs' hk' g0 g5=>?_) l.length 0 _ _ (by omega) hs1 hv1 (Kp.refl _ _) ?_ ?_ ?_ ?_ ?_
 ·have lm2:=qQ h hs'.obj
  have lk2:=Bd h hs'.map
  simp only [KP,↓reduceIte,reduceEqDiff,reduceLT,reduceCtorEq,h.uZ,h.uY,h.AO,lm2,lk2,g0,g5]
  refine ⟨Z.length,hs',Z1 _,fun j o hj e=>?_⟩
  have hjl:=(AI.1 e).1
  exact hk' j o (by omega) (hk1 j o hj e)
 all_goals simp only [FT.jZ,KP,↓reduceIte,reduceEqDiff,reduceCtorEq]
 all_goals rfl
theorem OK (h:cQ E) {l:List aI} {v:V} (hv:SV Z v l) (hsm:l.length <= 10000000000) :
  aB E 46 [v] Z fun r σ'=>∃ m,r = .ref Z.length 0 /\ cR σ' Z.length m (keys [] l) /\ Z.length < m /\ qF Z σ':=by
 rw [dF h.hs46 h.sp46 h.fn46 h.md46,aX (by kernel_rfl)]
 simp only [aA,Tryz.f46,KP,↓reduceIte,reduceEqDiff,reduceLT,reduceCtorEq,h.uY,h.AO,Ax.fill]
 have hb:(Z ++ [O.cells 80 [.bU] true])[Z.length]? = some (.cells 80 [.bU] true):=by
  rw [ZR (Z1 _),gz]; rfl
 refine aP (OP h hb (hv.keep (dR.app _ _)) hsm) ?_
 rintro r σ' ⟨m,hs,hm,hk⟩
 simp only [KP,↓reduceIte,reduceEqDiff,reduceLT]
 rw [Z7] at hm
 refine ⟨m,hs,by simp at hm; omega,fun j o e=>?_⟩
 have hjl:=(AI.1 e).1
 exact hk j o (by omega) (j_ e _)
theorem DG (ks:List aI):(mD ks).map (fun (e:V × V)=>rowOf e.1) = ks.map row:=by
 unfold mD
 rw [iz]
 rfl
theorem wN:∀ ks:List aI,(∀ k ∈ ks,k.2.length <= 9223372036854775807) -> allRows kY (ks.map row) = true
 | [],_=>rfl
 | k :: ks,hk=>by
  show (match Nat.ble k.2.length 9223372036854775807 with
   | true=>allRows kY (ks.map row)
   | false=>false) = true
  rw [ja (hk k (IN ..))]
  exact wN ks fun x hx=>hk x (OF _ hx)
theorem KY {ks:List aI} (hn:ks.Nodup) (hlen:ks.length <= 1000000) (hstr:∀ k ∈ ks,k.2.length <= 9223372036854775807) {j m:Nat} (hj:Z[j]? = some (.cells 76 [.mp m] true)) (hm:Z[m]? = some (.map (mD ks))) :
  kZ 51 [148] [] 109 [.fn 148 [] [.ref j 0],.fn 109 [] []] Z = some (if ks = [] then (.aD,Z) else (.sl Z.length 0 ks.length none,Z ++ [.cells 51 ((setOf ks).flatMap row) false])):=by
 have hk:keysOf Z [148] [] (.fn 148 [] [.ref j 0]) = some (ks.map row):=by
  unfold keysOf
  simp only [hj]
  show (match Z[m]? with
   | some (.map es)=>some (es.map fun (e:V × V)=>rowOf e.1)
   | _=>none) = _
  rw [hm]
  exact ZL some (DG ks)
 show pQ 51 [148] [] kY qR (.fn 148 [] [.ref j 0]) Z = _
 unfold pQ
 rw [hk]
 cases hks:ks with
 | nil=>rfl
 | cons k r=>
  have ha:=wN ks hstr
  have hs:=Dx hn
  rw [hks] at ha hs hlen
  rw [ZQ] at ha hs ⊢
  rw [ZM (by simp)]
  show (match allRows kY (row k :: r.map row),Nat.ble (row k :: r.map row).length 1000000 with
   | true,true=>some (V.sl Z.length 0 (row k :: r.map row).length none,Z ++ [O.cells 51 (kL qR (row k :: r.map row)).flatten false])
   | _,_=>none) = _
  rw [ha,ja (by simpa using hlen),hs,Hh]
  simp
theorem Uq (h:cQ E) {m:Nat}:aB E 108 [.mp m] Z K = K (.fn 148 [] [.ref Z.length 0]) (Z ++ [.cells 76 [.mp m] true]):=by
 refine aB.of ?_
 rw [dF h.R1 h.RS h.R4 h.RW,aX (by kernel_rfl)]
 simp only [aA,Tryz.f108,KP,↓reduceIte,reduceEqDiff,reduceLT,h.uZ]
theorem TQ (h:cQ E) {m:Nat} {ops:Array Oper} {l:List Oper} {dst:Option Nat} {st:List jG} {Q:Ax.X -> Fr -> Sg -> Prop} {fr:Fr}:C1 E 108 [.mp m] Z dst fr ops l st Q = dH E ops l (some (eD fr dst (.fn 148 [] [.ref Z.length 0]),Z ++ [.cells 76 [.mp m] true])) st Q:=Ow fun _=>Uq h
def Own (Z σ':Sg) (r:V) (l:List aI):Prop:=(r = .aD /\ l = []) \/ ∃ j,Z.length <= j /\ r = .sl j 0 l.length none /\ σ'[j]? = some (.cells 51 (l.flatMap row) false)
theorem Own.sv {Z σ':Sg} {r:V} {l:List aI} (h:Own Z σ' r l):SV σ' r l:=by
 rcases h with h | ⟨j,_,h1,h2⟩
 ·exact .inl h
 ·exact .inr (.inr ⟨j,_,_,h1,h2,Z6 (by rw [pR]; exact Z1 _)⟩)
theorem ZE (h:cQ E) {b m:Nat} {ks:List aI} (hs:cR Z b m ks) (hlen:ks.length <= 1000000) (hstr:∀ k ∈ ks,k.2.length <= 9223372036854775807) :
  aB E 54 [.ref b 0] Z fun r σ'=>Own Z σ' r (setOf ks) /\ qF Z σ':=by
 rw [dF h.XC h.U2 h.Ys h.WE,aX (by kernel_rfl)]
 have lm:=qQ h hs.obj
 simp only [aA,Tryz.f54,KP,↓reduceIte,reduceLT,reduceCtorEq,h.uZ,h.uY,h.Jr,lm,nY,TQ h]
 have hj:(Z ++ [O.cells 76 [.mp m] true])[Z.length]? = some (.cells 76 [.mp m] true):=by
  rw [ZR (Z1 _),gz]; rfl
 have hsk:=KY hs.nodup hlen hstr hj (j_ hs.map _)
 unfold C1
 rw [nT h.R2,hsk]
 by_cases hks:ks = []
 ·rw [ZO hks,G9]
  simp only [KP,↓reduceIte,reduceLT]
  subst hks
  exact ⟨.inl ⟨rfl,rfl⟩,qF.app _ _⟩
 ·rw [ZM hks,G9]
  simp only [KP,↓reduceIte,reduceLT]
  refine ⟨.inr ⟨_,?_,by rw [wZ hs.nodup],?_⟩,fun j o e=>j_ (j_ e _) _⟩
  ·rw [Z7]; omega
  ·rw [ZR (Z1 _),gz]; rfl
end
end
section
section
variable {E:Env} {Z:Sg} {K:V -> Sg -> Prop}
theorem GK {α:Type} {f:α -> Option α}:∀ l:List α,(∀ x ∈ l,f x = some x) -> aW f l = some l
 | [],_=>rfl
 | x :: l,h=>by rw [aW,h x (IN ..),GK l fun y hy=>h y (OF _ hy)]
theorem B5 (h:cQ E) (x:aI):∀ ks:List aI,iG (dQ E 51) (.agg [.bool x.1,.str x.2]) (mD ks) = some (if x ∈ ks then some (.bool true) else none)
 | []=>rfl
 | y :: r=>by
  show (match dQ E 51 (.agg [.bool x.1,.str x.2]) (.agg [.bool y.1,.str y.2]) with
   | some true=>some (some (V.bool true))
   | some false=>iG (dQ E 51) (.agg [.bool x.1,.str x.2]) (mD r)
   | none=>none) = _
  rw [mM h,B5 h x r]
  by_cases hxy:x = y
  ·rw [BY (show ((x.1,x.2):aI) = (y.1,y.2) from hxy)]
   show some (some (V.bool true)) = some (if x ∈ y :: r then some (V.bool true) else none)
   rw [ZO (by rw [hxy]; exact IN ..)]
  ·rw [AS (show ¬ ((x.1,x.2):aI) = (y.1,y.2) from hxy)]
   by_cases hx:x ∈ r
   ·rw [ZO hx,ZO (OF _ hx)]
   ·rw [ZM hx,ZM (by simp [hxy,hx])]
structure UnionE (E:Env):Prop where
 hs:E.hspec 49 = none
 sp:E.spec 49 = none
 fn:E.fn 49 = some (aA Tryz.f49)
 md:E.mode 49 = .shared
end
end
end Go.Proofs.YtmhchflckonklaaGreatDoor.Lb
end
section
namespace Go.Proofs.YtmhchflckonklaaGreatDoor
open Go Go.Ax Go.AxS
section
section
variable {E:Env} {Z:Sg} {K:V -> Sg -> Prop}
structure dA where
 key:aI
 s:Nat
 m:Nat
 ks:List aI
def jR (x:aI):V:=.agg [.bool x.1,.str x.2]
def nZ (e:dA):V × V:=(jR e.key,.ref e.s 0)
structure iO (Z:Sg) (b:Nat) (L:List dA):Prop where
 map:Z[b]? = some (.map (L.map nZ))
 sets:∀ e ∈ L,Lb.cR Z e.s e.m e.ks
 nodup:(L.map dA.key).Nodup
theorem B6 (hl:Lb.cQ E) (x:aI):∀ L:List dA,iG (dQ E 51) (jR x) (L.map nZ) = some ((L.find? fun e=>decide (x = e.key)).map fun e=>.ref e.s 0)
 | []=>rfl
 | e :: L=>by
  show (match dQ E 51 (.agg [.bool x.1,.str x.2]) (.agg [.bool e.key.1,.str e.key.2]) with
   | some true=>some (some (V.ref e.s 0))
   | some false=>iG (dQ E 51) (jR x) (L.map nZ)
   | none=>none) = _
  rw [Lb.mM hl,jj]
  by_cases h:x = e.key
  ·rw [BY (show ((x.1,x.2):aI) = (e.key.1,e.key.2) from h)]; rfl
  ·rw [AS (show ¬ ((x.1,x.2):aI) = (e.key.1,e.key.2) from h)]
   exact B6 hl x L
theorem DU (hl:Lb.cQ E) (x:aI) (s m:Nat) (ks:List aI):∀ L:List dA,(∀ e ∈ L,x ≠ e.key) -> jY (dQ E 51) (jR x) (.ref s 0) (L.map nZ) = some ((L ++ [dA.mk x s m ks]).map nZ)
 | [],_=>rfl
 | e :: L,h=>by
  have hx:=h e (IN ..)
  show (match dQ E 51 (.agg [.bool x.1,.str x.2]) (.agg [.bool e.key.1,.str e.key.2]) with
   | some true=>some ((jR x,V.ref s 0) :: L.map nZ)
   | some false=>(match jY (dQ E 51) (jR x) (.ref s 0) (L.map nZ) with
    | some r=>some (nZ e :: r)
    | none=>none)
   | none=>none) = _
  rw [Lb.mM hl,AS (show ¬ ((x.1,x.2):aI) = (e.key.1,e.key.2) from hx),DU hl x s m ks L fun y hy=>h y (OF _ hy)]
  rfl
def bL (L:List dA) (x:aI):Option dA:=L.find? fun e=>decide (x = e.key)
theorem D6 (h':pV E) (hl:Lb.cQ E) {Z:Sg} {b:Nat} {L:List dA} (hm:Z[b]? = some (.map (L.map nZ))) (x:aI):lookup E Z 92 (.mp b) (jR x) false = some (match bL L x with | some e=>.ref e.s 0 | none=>.fP):=by
 have hk:=Lb.lG hl x.1 x.2
 unfold Ax.lookup
 simp only [h'.vQ,hl.tA,jR,hk,entriesOf,hm,aq,Z4,ZK]
 have:=B6 hl x L
 unfold jR at this
 rw [this]
 unfold bL
 cases L.find? fun e=>decide (x = e.key) <;> rfl
theorem xV (h':pV E) (hl:Lb.cQ E) {Z:Sg} {b:Nat} {L:List dA} (hm:iO Z b L) (x:aI):lookup E Z 92 (.mp b) (jR x) false = some (match bL L x with | some e=>.ref e.s 0 | none=>.fP):=D6 h' hl hm.map x
theorem EX (h':pV E) (hl:Lb.cQ E) {Z:Sg} {b:Nat} {L:List dA} (hm:iO Z b L) {x:aI} (hx:bL L x = none) {s m:Nat} {ks:List aI}:mapUpdate E Z 92 (.mp b) (jR x) (.ref s 0) = some (Z.set b (.map ((L ++ [dA.mk x s m ks]).map nZ))):=by
 have hk:=Lb.lG hl x.1 x.2
 have hne:∀ e ∈ L,x ≠ e.key:=fun e he hxe=>by
  have:=jc.1 hx e he
  simp [hxe] at this
 have:=DU hl x s m ks L hne
 unfold jR at this
 unfold Ax.mapUpdate
 simp only [h'.vQ,jR,hk,hm.map,this,eT,V.aZ,aq,ey,Z4,ZK,ZX]
end
end
section
section
variable {E:Env} {Z:Sg} {K:V -> Sg -> Prop}
theorem cR.keep {Z σ':Sg} {s m x:Nat} {ks:List aI} {es:List (V × V)} (h:Lb.cR Z s m ks) (hx:Z[x]? = some (.map es)) (hm:m ≠ x) (k:∀ (j:Nat) (o:O),j ≠ x -> Z[j]? = some o -> σ'[j]? = some o):Lb.cR σ' s m ks:=by
 refine ⟨k _ _ (fun e=>?_) h.obj,k _ _ hm h.map,h.nodup⟩
 have:=h.obj
 rw [e,hx] at this
 cases this
theorem iO.keep {Z σ':Sg} {b x:Nat} {L:List dA} {es:List (V × V)} (h:iO Z b L) (hx:Z[x]? = some (.map es)) (hb:b ≠ x) (hm:x ∉ L.map dA.m) (k:∀ (j:Nat) (o:O),j ≠ x -> Z[j]? = some o -> σ'[j]? = some o):iO σ' b L:=
 ⟨k _ _ hb h.map,fun e he=>cR.keep (h.sets e he) hx (fun e'=>hm (ah.2 ⟨e,he,e'⟩)) k,h.nodup⟩
def pL (L:List dA) (x:aI) (ks:List aI):List dA:=L.map fun e=>if e.key = x then { e with ks:=ks } else e
theorem KS (L:List dA) (x:aI) (ks:List aI):(pL L x ks).map nZ = L.map nZ:=by
 unfold pL
 rw [iz]
 refine fc fun e _=>?_
 show nZ (if e.key = x then _ else e) = nZ e
 by_cases h:e.key = x
 ·rw [ZO h]; rfl
 ·rw [ZM h]
theorem Ds (L:List dA) (x:aI) (ks:List aI):(pL L x ks).map dA.key = L.map dA.key:=by
 unfold pL
 rw [iz]
 refine fc fun e _=>?_
 show dA.key (if e.key = x then _ else e) = e.key
 by_cases h:e.key = x
 ·rw [ZO h]
 ·rw [ZM h]
theorem Jp (L:List dA) (x:aI) (ks:List aI):(pL L x ks).map dA.m = L.map dA.m:=by
 unfold pL
 rw [iz]
 refine fc fun e _=>?_
 show dA.m (if e.key = x then _ else e) = e.m
 by_cases h:e.key = x
 ·rw [ZO h]
 ·rw [ZM h]
theorem zJ {β:Type} {f:dA -> β}:∀ {L:List dA},(L.map f).Nodup -> ∀ e ∈ L,∀ e' ∈ L,f e = f e' -> e = e'
 | [],_,e,he,_,_,_=>by cases he
 | a :: L,h,e,he,e',he',hm=>by
  rw [ZQ,ay] at h
  rcases By.1 he with h1 | h1 <;> rcases By.1 he' with h2 | h2
  ·rw [h1,h2]
  ·exact absurd (ah.2 ⟨e',h2,by rw [<- hm,h1]⟩) h.1
  ·exact absurd (ah.2 ⟨e,h1,by rw [hm,h2]⟩) h.1
  ·exact zJ h.2 e h1 e' h2 hm
theorem iO.up {Z σ':Sg} {b:Nat} {L:List dA} {e:dA} {ks:List aI} (h:iO Z b L) (he:e ∈ L) (hnd:(L.map dA.m).Nodup) (hb:b ≠ e.m) (hs:Lb.cR σ' e.s e.m ks) (k:∀ (j:Nat) (o:O),j ≠ e.m -> Z[j]? = some o -> σ'[j]? = some o):iO σ' b (pL L e.key ks):=by
 refine ⟨by rw [KS]; exact k _ _ hb h.map,fun a ha=>?_,by rw [Ds]; exact h.nodup⟩
 obtain ⟨a0,ha0,rfl⟩:=ah.1 ha
 by_cases hk:a0.key = e.key
 ·have hae:a0 = e:=zJ h.nodup a0 ha0 e he hk
  subst hae
  rw [ZO rfl]
  exact hs
 ·rw [ZM hk]
  exact cR.keep (h.sets a0 ha0) (h.sets e he).map (fun e'=>hk (by rw [zJ hnd a0 ha0 e he e'])) k
structure nL (E:Env) (Z:Sg) (gb m0 m1 sa ma b3 b4:Nat) (es0 es1:List (V × V)) (A:List aI) (L3 L4:List dA):Prop where
 g:Z[gb]? = some (.cells 94 [.mp m0,.mp m1,.ref sa 0,.mp b3,.mp b4] true)
 rules:Z[m0]? = some (.map es0)
 jA:Z[m1]? = some (.map es1)
 all:Lb.cR Z sa ma A
 jP:iO Z b3 L3
 jH:iO Z b4 L4
 sep:(m0 :: m1 :: ma :: b3 :: b4 :: (L3.map dA.m ++ L4.map dA.m)).Nodup
end
end
section
section
variable {E:Env} {Z:Sg} {K:V -> Sg -> Prop}
theorem cR.app {Z:Sg} {s m:Nat} {ks:List aI} (h:Lb.cR Z s m ks) (y:O):Lb.cR (Z ++ [y]) s m ks:=⟨aN h.obj,aN h.map,h.nodup⟩
theorem iO.app {Z:Sg} {b:Nat} {L:List dA} (h:iO Z b L) (y:O):iO (Z ++ [y]) b L:=⟨aN h.map,fun e he=>cR.app (h.sets e he) y,h.nodup⟩
theorem nL.app {{Z:Sg}} {{gb m0 m1 sa ma b3 b4:Nat}} {{es0 es1:List (V × V)}} {{A:List aI}} {{L3 L4:List dA}} (h:nL E Z gb m0 m1 sa ma b3 b4 es0 es1 A L3 L4) (y:O):nL E (Z ++ [y]) gb m0 m1 sa ma b3 b4 es0 es1 A L3 L4:=
 ⟨aN h.g,aN h.rules,aN h.jA,cR.app h.all y,h.jP.app y,h.jH.app y,h.sep⟩
theorem nL.more {{Z σ':Sg}} {{gb m0 m1 sa ma b3 b4:Nat}} {{es0 es1:List (V × V)}} {{A:List aI}} {{L3 L4:List dA}} (h:nL E Z gb m0 m1 sa ma b3 b4 es0 es1 A L3 L4) {A':List aI} (hs:Lb.cR σ' sa ma A') (k:∀ (j:Nat) (o:O),j ≠ ma -> Z[j]? = some o -> σ'[j]? = some o):nL E σ' gb m0 m1 sa ma b3 b4 es0 es1 A' L3 L4:=by
 have sep:=h.sep
 simp only [ay,By,aa,lg] at sep
 obtain ⟨⟨-,n0,-⟩,⟨n1,-⟩,⟨n3,n4,n5,n6⟩,-⟩:=sep
 have hx:=h.all.map
 have ng:gb ≠ ma:=fun e=>by
  have:=h.g
  rw [e,hx] at this
  cases this
 exact ⟨k _ _ ng h.g,k _ _ n0 h.rules,k _ _ n1 h.jA,hs,h.jP.keep hx (fun e=>n3 e.symm) n5 k,h.jH.keep hx (fun e=>n4 e.symm) n6 k,h.sep⟩
theorem nL.rule {{Z:Sg}} {{gb m0 m1 sa ma b3 b4:Nat}} {{es0 es1:List (V × V)}} {{A:List aI}} {{L3 L4:List dA}} (h:nL E Z gb m0 m1 sa ma b3 b4 es0 es1 A L3 L4) (es:List (V × V)):nL E (Z.set m0 (.map es)) gb m0 m1 sa ma b3 b4 es es1 A L3 L4:=by
 have sep:=h.sep
 simp only [ay,By,aa,lg] at sep
 obtain ⟨⟨n1,na,n3,n4,n5,n6⟩,-⟩:=sep
 have hx:=h.rules
 have ng:gb ≠ m0:=fun e=>by
  have:=h.g
  rw [e,hx] at this
  cases this
 have k:∀ (j:Nat) (o:O),j ≠ m0 -> Z[j]? = some o -> (Z.set m0 (.map es))[j]? = some o:=fun j o hj ho=>by
  rw [No (gr hj)]; exact ho
 exact ⟨k _ _ ng h.g,ZV (AI.1 hx).1,k _ _ (gr n1) h.jA,cR.keep h.all hx (gr na) k,h.jP.keep hx (gr n3) n5 k,h.jH.keep hx (gr n4) n6 k,h.sep⟩
theorem nL.ND {{Z:Sg}} {{gb m0 m1 sa ma b3 b4:Nat}} {{es0 es1:List (V × V)}} {{A:List aI}} {{L3 L4:List dA}} (h:nL E Z gb m0 m1 sa ma b3 b4 es0 es1 A L3 L4) (es:List (V × V)):nL E (Z.set m1 (.map es)) gb m0 m1 sa ma b3 b4 es0 es A L3 L4:=by
 have sep:=h.sep
 simp only [ay,By,aa,lg] at sep
 obtain ⟨⟨n1,-⟩,⟨na,n3,n4,n5,n6⟩,-⟩:=sep
 have hx:=h.jA
 have ng:gb ≠ m1:=fun e=>by
  have:=h.g
  rw [e,hx] at this
  cases this
 have k:∀ (j:Nat) (o:O),j ≠ m1 -> Z[j]? = some o -> (Z.set m1 (.map es))[j]? = some o:=fun j o hj ho=>by
  rw [No (gr hj)]; exact ho
 exact ⟨k _ _ ng h.g,k _ _ n1 h.rules,ZV (AI.1 hx).1,cR.keep h.all hx (gr na) k,h.jP.keep hx (gr n3) n5 k,h.jH.keep hx (gr n4) n6 k,h.sep⟩
end
end
section
section
variable {E:Env} {Z:Sg} {K:V -> Sg -> Prop}
theorem nL.facts {Z:Sg} {gb m0 m1 sa ma b3 b4:Nat} {es0 es1:List (V × V)} {A:List aI} {L3 L4:List dA} (h:nL E Z gb m0 m1 sa ma b3 b4 es0 es1 A L3 L4):(L3.map dA.m).Nodup /\ (L4.map dA.m).Nodup /\ ∀ x,x ∈ L3.map dA.m \/ x ∈ L4.map dA.m -> m0 ≠ x /\ m1 ≠ x /\ ma ≠ x /\ b3 ≠ x /\ b4 ≠ x:=by
 have sep:=h.sep
 simp only [ay,By,aa,lg,gu] at sep
 obtain ⟨⟨-,-,-,-,a5,a6⟩,⟨-,-,-,b5,b6⟩,⟨-,-,c5,c6⟩,⟨-,d5,d6⟩,⟨e5,e6⟩,f1,f2,-⟩:=sep
 refine ⟨f1,f2,fun x hx=>?_⟩
 rcases hx with hx | hx
 ·exact ⟨fun e=>a5 (by rw [e]; exact hx),fun e=>b5 (by rw [e]; exact hx),fun e=>c5 (by rw [e]; exact hx),fun e=>d5 (by rw [e]; exact hx),fun e=>e5 (by rw [e]; exact hx)⟩
 ·exact ⟨fun e=>a6 (by rw [e]; exact hx),fun e=>b6 (by rw [e]; exact hx),fun e=>c6 (by rw [e]; exact hx),fun e=>d6 (by rw [e]; exact hx),fun e=>e6 (by rw [e]; exact hx)⟩
theorem nL.R7 {Z:Sg} {gb m0 m1 sa ma b3 b4:Nat} {es0 es1:List (V × V)} {A:List aI} {L3 L4:List dA} (h:nL E Z gb m0 m1 sa ma b3 b4 es0 es1 A L3 L4):∀ x ∈ L3.map dA.m,x ∉ L4.map dA.m:=by
 have sep:=h.sep
 simp only [ay,By,aa,lg,gu] at sep
 obtain ⟨-,-,-,-,-,-,-,f3⟩:=sep
 exact fun x hx hy=>f3 x hx x hy rfl
theorem nL.Nt {{Z σ':Sg}} {{gb m0 m1 sa ma b3 b4:Nat}} {{es0 es1:List (V × V)}} {{A:List aI}} {{L3 L4:List dA}} (h:nL E Z gb m0 m1 sa ma b3 b4 es0 es1 A L3 L4) {e:dA} (he:e ∈ L3) {ks:List aI} (hs:Lb.cR σ' e.s e.m ks) (k:∀ (j:Nat) (o:O),j ≠ e.m -> Z[j]? = some o -> σ'[j]? = some o):nL E σ' gb m0 m1 sa ma b3 b4 es0 es1 A (pL L3 e.key ks) L4:=by
 obtain ⟨f1,f2,f3⟩:=h.facts
 have hm:e.m ∈ L3.map dA.m:=ah.2 ⟨e,he,rfl⟩
 obtain ⟨n1,n2,n3,n4,n5⟩:=f3 e.m (Or.inl hm)
 have hx:=(h.jP.sets e he).map
 have ng:gb ≠ e.m:=fun e'=>by
  have:=h.g
  rw [e',hx] at this
  cases this
 have nb:=n4
 exact ⟨k _ _ ng h.g,k _ _ n1 h.rules,k _ _ n2 h.jA,cR.keep h.all hx n3 k,iO.up h.jP he f1 nb hs k,h.jH.keep hx n5 (fun hx'=>h.R7 _ hm hx') k,by rw [Jp]; exact h.sep⟩
theorem nL.Mt {{Z σ':Sg}} {{gb m0 m1 sa ma b3 b4:Nat}} {{es0 es1:List (V × V)}} {{A:List aI}} {{L3 L4:List dA}} (h:nL E Z gb m0 m1 sa ma b3 b4 es0 es1 A L3 L4) {e:dA} (he:e ∈ L4) {ks:List aI} (hs:Lb.cR σ' e.s e.m ks) (k:∀ (j:Nat) (o:O),j ≠ e.m -> Z[j]? = some o -> σ'[j]? = some o):nL E σ' gb m0 m1 sa ma b3 b4 es0 es1 A L3 (pL L4 e.key ks):=by
 obtain ⟨f1,f2,f3⟩:=h.facts
 have hm:e.m ∈ L4.map dA.m:=ah.2 ⟨e,he,rfl⟩
 obtain ⟨n1,n2,n3,n4,n5⟩:=f3 e.m (Or.inr hm)
 have hx:=(h.jH.sets e he).map
 have ng:gb ≠ e.m:=fun e'=>by
  have:=h.g
  rw [e',hx] at this
  cases this
 have nb:=n5
 exact ⟨k _ _ ng h.g,k _ _ n1 h.rules,k _ _ n2 h.jA,cR.keep h.all hx n3 k,h.jP.keep hx n4 (fun hx'=>h.R7 _ hx' hm) k,iO.up h.jH he f2 nb hs k,by rw [Jp]; exact h.sep⟩
end
end
section
section
variable {E:Env} {Z:Sg} {K:V -> Sg -> Prop}
theorem iO.nW {Z σ1:Sg} {b:Nat} {L:List dA} (h:iO Z b L) (k:Lb.qF Z σ1):iO σ1 b L:=⟨k _ _ h.map,fun e he=>⟨k _ _ (h.sets e he).obj,k _ _ (h.sets e he).map,(h.sets e he).nodup⟩,h.nodup⟩
theorem nL.nW {{Z σ1:Sg}} {{gb m0 m1 sa ma b3 b4:Nat}} {{es0 es1:List (V × V)}} {{A:List aI}} {{L3 L4:List dA}} (h:nL E Z gb m0 m1 sa ma b3 b4 es0 es1 A L3 L4) (k:Lb.qF Z σ1):nL E σ1 gb m0 m1 sa ma b3 b4 es0 es1 A L3 L4:=
 ⟨k _ _ h.g,k _ _ h.rules,k _ _ h.jA,⟨k _ _ h.all.obj,k _ _ h.all.map,h.all.nodup⟩,h.jP.nW k,h.jH.nW k,h.sep⟩
theorem nL.below {Z:Sg} {gb m0 m1 sa ma b3 b4:Nat} {es0 es1:List (V × V)} {A:List aI} {L3 L4:List dA} (h:nL E Z gb m0 m1 sa ma b3 b4 es0 es1 A L3 L4) {m:Nat} (hm:Z.length <= m):m ∉ m0 :: m1 :: ma :: b3 :: b4 :: (L3.map dA.m ++ L4.map dA.m):=by
 have lt:∀ {i:Nat} {o:O},Z[i]? = some o -> i < m:=fun e=>dj (AI.1 e).1 hm
 have h0:=lt h.rules
 have h1:=lt h.jA
 have h2:=lt h.all.map
 have h3:=lt h.jP.map
 have h4:=lt h.jH.map
 intro hx
 simp only [By,aa,ah] at hx
 rcases hx with e | e | e | e | e | ⟨e,he,e'⟩ | ⟨e,he,e'⟩
 ·omega
 ·omega
 ·omega
 ·omega
 ·omega
 ·have:=lt (h.jP.sets e he).map; omega
 ·have:=lt (h.jH.sets e he).map; omega
theorem iO.new {Z:Sg} {b:Nat} {L:List dA} {x:aI} {s m:Nat} (h:iO Z b L) (hx:bL L x = none) (hs:Lb.cR Z s m []) (hb:b ∉ L.map dA.m) (hm:m ≠ b):iO (Z.set b (.map ((L ++ [dA.mk x s m []]).map nZ))) b (L ++ [dA.mk x s m []]):=by
 have k:∀ (j:Nat) (o:O),j ≠ b -> Z[j]? = some o -> (Z.set b (.map ((L ++ [dA.mk x s m []]).map nZ)))[j]? = some o:=fun j o hj ho=>by
  rw [No (gr hj)]; exact ho
 refine ⟨ZV (AI.1 h.map).1,fun e he=>?_,?_⟩
 ·rcases aa.1 he with he | he
  ·exact cR.keep (h.sets e he) h.map (fun e'=>hb (ah.2 ⟨e,he,e'⟩)) k
  ·rw [ae.1 he]
   exact cR.keep hs h.map hm k
 ·rw [cj,gu]
  refine ⟨h.nodup,by simp,fun y hy z hz e=>?_⟩
  obtain ⟨a,ha,rfl⟩:=ah.1 hy
  have hz:z = x:=by simpa using hz
  have:=jc.1 hx a ha
  simp [<- hz,<- e] at this
theorem nL.P3 {{Z σ1:Sg}} {{gb m0 m1 sa ma b3 b4:Nat}} {{es0 es1:List (V × V)}} {{A:List aI}} {{L3 L4:List dA}} (h:nL E Z gb m0 m1 sa ma b3 b4 es0 es1 A L3 L4) {x:aI} (hx:bL L3 x = none) {s m:Nat} (k1:Lb.qF Z σ1) (hs:Lb.cR σ1 s m []) (hm:Z.length <= m):nL E (σ1.set b3 (.map ((L3 ++ [dA.mk x s m []]).map nZ))) gb m0 m1 sa ma b3 b4 es0 es1 A (L3 ++ [dA.mk x s m []]) L4:=by
 have h1:=h.nW k1
 have fresh:=h.below hm
 have hx1:=h1.jP.map
 have sep:=h.sep
 simp only [ay,By,aa,lg] at sep
 obtain ⟨⟨-,-,a3,-⟩,⟨-,b3',-⟩,⟨c3,-⟩,⟨n3,n4,n5⟩,-⟩:=sep
 have hmb:m ≠ b3:=fun e=>fresh (by rw [e]; simp)
 have new:=iO.new h1.jP hx hs n4 hmb
 have ng:gb ≠ b3:=fun e=>by
  have:=h1.g
  rw [e,hx1] at this
  cases this
 have k:∀ (j:Nat) (o:O),j ≠ b3 -> σ1[j]? = some o -> (σ1.set b3 (.map ((L3 ++ [dA.mk x s m []]).map nZ)))[j]? = some o:=fun j o hj ho=>by
  rw [No (gr hj)]; exact ho
 have hp:(m0 :: m1 :: ma :: b3 :: b4 :: ((L3 ++ [dA.mk x s m []]).map dA.m ++ L4.map dA.m)).Perm (m :: (m0 :: m1 :: ma :: b3 :: b4 :: (L3.map dA.m ++ L4.map dA.m))):=by simpa using gk (l₁:=m0 :: m1 :: ma :: b3 :: b4 :: L3.map dA.m) (a:=m) (l₂:=L4.map dA.m)
 exact ⟨k _ _ ng h1.g,k _ _ a3 h1.rules,k _ _ b3' h1.jA,cR.keep h1.all hx1 c3 k,new,h1.jH.keep hx1 (fun e=>n3 e.symm) n5 k,hp.nodup_iff.2 (ay.2 ⟨fresh,h.sep⟩)⟩
theorem nL.Pj {{Z σ1:Sg}} {{gb m0 m1 sa ma b3 b4:Nat}} {{es0 es1:List (V × V)}} {{A:List aI}} {{L3 L4:List dA}} (h:nL E Z gb m0 m1 sa ma b3 b4 es0 es1 A L3 L4) {x:aI} (hx:bL L4 x = none) {s m:Nat} (k1:Lb.qF Z σ1) (hs:Lb.cR σ1 s m []) (hm:Z.length <= m):nL E (σ1.set b4 (.map ((L4 ++ [dA.mk x s m []]).map nZ))) gb m0 m1 sa ma b3 b4 es0 es1 A L3 (L4 ++ [dA.mk x s m []]):=by
 have h1:=h.nW k1
 have fresh:=h.below hm
 have hx1:=h1.jH.map
 have sep:=h.sep
 simp only [ay,By,aa,lg] at sep
 obtain ⟨⟨-,-,-,a3,-⟩,⟨-,-,b3',-⟩,⟨-,c3,-⟩,⟨n3,-,-⟩,⟨n4,n5⟩,-⟩:=sep
 have hmb:m ≠ b4:=fun e=>fresh (by rw [e]; simp)
 have new:=iO.new h1.jH hx hs n5 hmb
 have ng:gb ≠ b4:=fun e=>by
  have:=h1.g
  rw [e,hx1] at this
  cases this
 have k:∀ (j:Nat) (o:O),j ≠ b4 -> σ1[j]? = some o -> (σ1.set b4 (.map ((L4 ++ [dA.mk x s m []]).map nZ)))[j]? = some o:=fun j o hj ho=>by
  rw [No (gr hj)]; exact ho
 have hp:(m0 :: m1 :: ma :: b3 :: b4 :: (L3.map dA.m ++ (L4 ++ [dA.mk x s m []]).map dA.m)).Perm (m :: (m0 :: m1 :: ma :: b3 :: b4 :: (L3.map dA.m ++ L4.map dA.m))):=by simpa using gk (l₁:=m0 :: m1 :: ma :: b3 :: b4 :: (L3.map dA.m ++ L4.map dA.m)) (a:=m) (l₂:=[])
 exact ⟨k _ _ ng h1.g,k _ _ a3 h1.rules,k _ _ b3' h1.jA,cR.keep h1.all hx1 c3 k,h1.jP.keep hx1 n3 n4 k,new,hp.nodup_iff.2 (ay.2 ⟨fresh,h.sep⟩)⟩
end
end
section
section
variable {E:Env} {Z:Sg} {K:V -> Sg -> Prop}
theorem Xt (h:bH E) (h':pV E) (hl:Lb.cQ E) {Y:Sg} {{gb m0 m1 sa ma b3 b4:Nat}} {{es0 es1:List (V × V)}} {{A:List aI}} {{L3 L4:List dA}} (ga:nL E Y gb m0 m1 sa ma b3 b4 es0 es1 A L3 L4) {x y:aI} {n0 n1:Nat} (hx:Y[n0]? = some (O.cells 51 [.bool x.1,.str x.2] true)) (hy:Y[n1]? = some (O.cells 51 [.bool y.1,.str y.2] true)) (hA:A.length <= 1000000) (F:FT) (g0:F.get 0 = .ref gb 0) (g4:F.get 4 = .ref n0 0) (g5:F.get 5 = .ref n1 0) {st:List jG} {Q:Ax.X -> Fr -> Sg -> Prop}
  (hk:∀ F' τ',(∀ k,k ∈ [0,4,5] -> F'.get k = F.get k) -> nL E τ' gb m0 m1 sa ma b3 b4 es0 es1 (keys A [x,y]) L3 L4 -> τ'[n0]? = some (O.cells 51 [.bool x.1,.str x.2] true) -> τ'[n1]? = some (O.cells 51 [.bool y.1,.str y.2] true) -> Lb.dR Y τ' -> M E st .normal ⟨57,F'⟩ τ' Q):Ax.R E (.region 1 (opsOf (cutAt [1,0] (aA Tryz.f65).code)) true) st ⟨57,F⟩ Y Q:=by
 have ga1:=ga.app (O.cells 51 [.bool x.1,.str x.2,.bool y.1,.str y.2] true)
 have hx1:=aN (x:=O.cells 51 [.bool x.1,.str x.2,.bool y.1,.str y.2] true) hx
 have hy1:=aN (x:=O.cells 51 [.bool x.1,.str x.2,.bool y.1,.str y.2] true) hy
 have hsv:Lb.SV (Y ++ [O.cells 51 [.bool x.1,.str x.2,.bool y.1,.str y.2] true]) (.sl Y.length 0 2 none) [x,y]:=.inr (.inr ⟨Y.length,_,true,rfl,aK,rfl⟩)
 obtain ⟨n,r,τ2,hcall,hr,hset,hkp⟩:=Lb.OQ hl ga1.all hsv (show 2 <= 10000000000 by omega) (by omega)
 have ga2:=ga1.more hset hkp
 have hma:=ga1.all.map
 have ne:∀ {k:Nat} {t:Nat} {cs:List V} {ex:Bool},(Y ++ [O.cells 51 [.bool x.1,.str x.2,.bool y.1,.str y.2] true])[k]? = some (.cells t cs ex) -> k ≠ ma:=fun hk e=>by
  rw [e,hma] at hk
  cases hk
 have hx2:=hkp _ _ (ne hx1) hx1
 have hy2:=hkp _ _ (ne hy1) hy1
 have g:=ga.g
 have g1:=ga1.g
 have vr:sO 12 (.ref sa 0) (.ref sa 0) = true:=by unfold sO; simp
 have key:∃ F',cE E (ev E n) (opsOf (cutAt [1,0] (aA Tryz.f65).code)) ⟨57,F⟩ Y = some (⟨57,F'⟩,τ2) /\ (∀ k,k ∈ [0,4,5] -> F'.get k = F.get k):=by
  unfold cE
  rw [h'.UO,h'.Wo]
  simp only [aA,Tryz.f65,KP,Ax.loadAt,↓reduceIte,reduceEqDiff,reduceLT,reduceLeDiff,reduceAdd,reduceMul,reduceCtorEq,h.kI,h.cP,opsOf,cutAt,Fz.lits,gL,bF,b_,jW,Ax.comp,Ax.last,gH,Ax.again,Ax.fill,iA,dz,hl.tA,h'.wT,g0,g4,g5,hx,hy,g,g1,hcall,vr]
  refine ⟨_,rfl,fun k hk=>?_⟩
  simp only [By,ZY,bt] at hk
  rcases hk with rfl | rfl | rfl <;> simp +decide only [GS]
 obtain ⟨F',hD,hF⟩:=key
 exact Eq.mpr (gP hD) (hk F' τ2 hF ga2 hx2 hy2 ((Lb.dR.app Y _).trans (Lb.Kp.tU hkp hma)))
end
end
section
section
variable {E:Env} {Z:Sg} {K:V -> Sg -> Prop}
theorem fU {L:List dA} {x:aI} {e:dA} (h:bL L x = some e):e ∈ L /\ x = e.key:=by
 unfold bL at h
 exact ⟨List.mem_of_find?_eq_some h,by have:=find?_some h; simpa using this⟩
theorem J6 (h:bH E) (h':pV E) (hl:Lb.cQ E) {Y:Sg} {nb mb:Nat} {L:List dA} {x y:aI} {e:dA} (hm:iO Y mb L) (he:bL L x = some e) (hb:Y[nb]? = some (O.cells 144 [.mp mb,.bool x.1,.str x.2,.bool y.1,.str y.2] true)) (hks:e.ks.length <= 1000000) (hmb:mb ≠ e.m) (F:FT) (g7:F.get 7 = .ref nb 0) {st:List jG} {Q:Ax.X -> Fr -> Sg -> Prop}
  (hk:∀ F' τ',(∀ k,k ∈ [0,4,5,7,30,31,32] -> F'.get k = F.get k) -> Lb.cR τ' e.s e.m (keys e.ks [y]) -> Lb.Kp (Y ++ [O.cells 51 [.bool y.1,.str y.2] true]) τ' e.m -> M E st .normal ⟨57,F'⟩ τ' Q):Ax.R E (.region 7 (opsOf (cutAt [1,1,1,2,2,1,1,0,2,1,1] (aA Tryz.f65).code)) true) st ⟨57,F⟩ Y Q:=by
 obtain ⟨hme,hxe⟩:=fU he
 have hm1:=hm.app (O.cells 51 [.bool y.1,.str y.2] true)
 have hb1:=aN (x:=O.cells 51 [.bool y.1,.str y.2] true) hb
 have hs1:=hm1.sets e hme
 have hsv:Lb.SV (Y ++ [O.cells 51 [.bool y.1,.str y.2] true]) (.sl Y.length 0 1 none) [y]:=.inr (.inr ⟨Y.length,_,true,rfl,aK,rfl⟩)
 obtain ⟨n,r,τ2,hcall,hr,hset,hkp⟩:=Lb.OQ hl hs1 hsv (show 1 <= 10000000000 by omega) (by omega)
 have ne:nb ≠ e.m:=fun e'=>by
  have:=hs1.map
  rw [<- e',hb1] at this
  cases this
 have lk:lookup E Y 92 (.mp mb) (.agg [.bool x.1,.str x.2]) false = some (.ref e.s 0):=by
  have:=xV h' hl hm x
  rw [he] at this
  exact this
 have lk1:lookup E (Y ++ [O.cells 51 [.bool y.1,.str y.2] true]) 92 (.mp mb) (.agg [.bool x.1,.str x.2]) false = some (.ref e.s 0):=by
  have:=xV h' hl hm1 x
  rw [he] at this
  exact this
 have lk2:lookup E τ2 92 (.mp mb) (.agg [.bool x.1,.str x.2]) false = some (.ref e.s 0):=by
  have:=D6 h' hl (hkp _ _ hmb hm1.map) x
  rw [he] at this
  exact this
 have vr:sO 12 (.ref e.s 0) (.ref e.s 0) = true:=by unfold sO; simp
 have vm:sO 12 (.mp mb) (.mp mb) = true:=by unfold sO; simp
 have vl:sO 12 (.agg [.bool x.1,.str x.2]) (.agg [.bool x.1,.str x.2]) = true:=pJ fun z hz=>by
  simp only [By,ZY,bt] at hz
  rcases hz with rfl | rfl
  ·show decide (x.1 = x.1) = true
   simp
  ·exact wR 10 x.2
 have key:∃ F',cE E (ev E n) (opsOf (cutAt [1,1,1,2,2,1,1,0,2,1,1] (aA Tryz.f65).code)) ⟨57,F⟩ Y = some (⟨57,F'⟩,τ2) /\ (∀ k,k ∈ [0,4,5,7,30,31,32] -> F'.get k = F.get k):=by
  unfold cE
  rw [h'.UM,h'.Wm]
  simp only [aA,Tryz.f65,KP,Ax.loadAt,↓reduceIte,reduceEqDiff,reduceLT,reduceLeDiff,reduceAdd,reduceMul,reduceCtorEq,h.kI,h.cP,opsOf,cutAt,Fz.lits,gL,bF,b_,jW,Ax.comp,Ax.last,gH,Ax.again,Ax.fill,iA,dz,h'.vQ,h'.wU,g7,hb,hb1,lk,lk1,hcall,vr,vm,vl]
  refine ⟨_,rfl,fun k hk=>?_⟩
  simp only [By,ZY,bt] at hk
  rcases hk with rfl | rfl | rfl | rfl | rfl | rfl | rfl <;> simp +decide only [GS]
 obtain ⟨F',hD,hF⟩:=key
 exact Eq.mpr (gP hD) (hk F' τ2 hF hset hkp)
end
end
section
section
variable {E:Env} {Z:Sg} {K:V -> Sg -> Prop}
theorem RX (h:bH E) (h':pV E) (hl:Lb.cQ E) {Y:Sg} {nb mb:Nat} {L:List dA} {x y:aI} (hm:iO Y mb L) (he:bL L x = none) (hb:Y[nb]? = some (O.cells 144 [.mp mb,.bool x.1,.str x.2,.bool y.1,.str y.2] true)) (F:FT) (g7:F.get 7 = .ref nb 0) {st:List jG} {Q:Ax.X -> Fr -> Sg -> Prop}
  (hk:∀ F' τ1 m,(∀ k,k ∈ [0,4,5,7,30,31,32] -> F'.get k = F.get k) -> Lb.qF Y τ1 -> Lb.cR τ1 Y.length m [] -> Y.length < m -> M E st .normal ⟨57,F'⟩ (τ1.set mb (.map ((L ++ [dA.mk x Y.length m []]).map nZ))) Q):Ax.R E (.region 6 (opsOf (cutAt [1,1,1,2,2,1,1,0,2,1,0,1,0] (aA Tryz.f65).code)) true) st ⟨57,F⟩ Y Q:=by
 obtain ⟨n,r,τ1,hcall,m,rfl,hset,hlt,nW⟩:=Lb.OK hl (Z:=Y) (v:=.aD) (l:=[]) (.inl ⟨rfl,rfl⟩) (by simp)
 have hb1:=nW _ _ hb
 have put:=EX h' hl (hm.nW nW) he (s:=Y.length) (m:=m) (ks:=[])
 unfold jR at put
 have vm:sO 12 (.mp mb) (.mp mb) = true:=by unfold sO; simp
 have vl:sO 12 (.agg [.bool x.1,.str x.2]) (.agg [.bool x.1,.str x.2]) = true:=pJ fun z hz=>by
  simp only [By,ZY,bt] at hz
  rcases hz with rfl | rfl
  ·show decide (x.1 = x.1) = true
   simp
  ·exact wR 10 x.2
 have key:∃ F',cE E (ev E n) (opsOf (cutAt [1,1,1,2,2,1,1,0,2,1,0,1,0] (aA Tryz.f65).code)) ⟨57,F⟩ Y = some (⟨57,F'⟩,τ1.set mb (.map ((L ++ [dA.mk x Y.length m []]).map nZ))) /\ (∀ k,k ∈ [0,4,5,7,30,31,32] -> F'.get k = F.get k):=by
  unfold cE
  rw [h'.UN,h'.Wn]
  simp only [aA,Tryz.f65,KP,Ax.loadAt,↓reduceIte,reduceEqDiff,reduceLT,reduceLeDiff,reduceAdd,reduceCtorEq,h.cP,opsOf,cutAt,gL,bF,b_,jW,Ax.comp,Ax.last,gH,Ax.again,aR,h'.vQ,h'.wU,g7,hb,hb1,hcall,put,vm,vl]
  refine ⟨_,rfl,fun k hk=>?_⟩
  simp only [By,ZY,bt] at hk
  rcases hk with rfl | rfl | rfl | rfl | rfl | rfl | rfl <;> simp +decide only [GS]
 obtain ⟨F',hD,hF⟩:=key
 exact Eq.mpr (gP hD) (hk F' τ1 m hF nW hset hlt)
end
end
section
section
variable {E:Env} {Z:Sg} {K:V -> Sg -> Prop}
def qS (L:List dA) (z:aI):List aI:=match bL L z with
 | some e=>e.ks
 | none=>[]
theorem Gg (L:List dA) (x:aI) (ks:List aI) (z:aI):bL (pL L x ks) z = (bL L z).map fun e=>if e.key = x then { e with ks:=ks } else e:=by
 unfold bL pL
 induction L with
 | nil=>rfl
 | cons e L ih=>
  rw [ZQ,jj,jj]
  have hk:(if e.key = x then { e with ks:=ks } else e).key = e.key:=by
   by_cases h:e.key = x
   ·rw [ZO h]
   ·rw [ZM h]
  rw [hk]
  by_cases hz:z = e.key
  ·rw [BY hz]; rfl
  ·rw [AS hz]; exact ih
theorem Qh {L:List dA} {e:dA} {x:aI} (he:bL L x = some e) (ks:List aI) (z:aI):qS (pL L e.key ks) z = if z = x then ks else qS L z:=by
 obtain ⟨hme,hxe⟩:=fU he
 unfold qS
 rw [Gg]
 by_cases hz:z = x
 ·rw [ZO hz,hz,he]
  show (match (some (if e.key = e.key then { e with ks:=ks } else e):Option dA) with
   | some e=>e.ks
   | none=>[]) = ks
  rw [ZO rfl]
 ·rw [ZM hz]
  cases hq:bL L z with
  | none=>rfl
  | some q=>
   obtain ⟨-,hzq⟩:=fU hq
   show (if q.key = e.key then { q with ks:=ks } else q).ks = q.ks
   rw [ZM (fun e'=>hz (by rw [hzq,e',hxe]))]
theorem w_ (L:List dA) (e:dA) (hx:bL L e.key = none) (z:aI):bL (L ++ [e]) z = if z = e.key then some e else bL L z:=by
 unfold bL at *
 rw [List.find?_append]
 by_cases hz:z = e.key
 ·rw [ZO hz,hz,hx,jj,BY rfl]; rfl
 ·rw [ZM hz,jj,AS hz,List.find?_nil]
  cases List.find? (fun e=>decide (z = e.key)) L <;> rfl
structure Grow (L:List dA) (x y:aI) (L':List dA):Prop where
 mem:∀ z w,w ∈ qS L' z ↔ w ∈ qS L z \/ (z = x /\ w = y)
 len:∀ n,(∀ e ∈ L,e.ks.length <= n) -> ∀ e ∈ L',e.ks.length <= n + 1
 key:∀ z,z ∈ L'.map dA.key ↔ z ∈ L.map dA.key \/ z = x
theorem TD {L:List dA} {x:aI}:x ∈ L.map dA.key ↔ ∃ e,bL L x = some e:=by
 constructor
 ·intro h
  obtain ⟨e,he,rfl⟩:=ah.1 h
  cases hq:bL L e.key with
  | some q=>exact ⟨q,rfl⟩
  | none=>
   have:=jc.1 hq e he
   simp at this
 ·rintro ⟨e,he⟩
  obtain ⟨h1,h2⟩:=fU he
  exact ah.2 ⟨e,h1,h2.symm⟩
theorem NW (l:List aI) (y:aI):keys l [y] = jS l y:=rfl
theorem Ls (l:List aI) (y:aI):(jS l y).length <= l.length + 1:=by
 unfold jS
 by_cases h:y ∈ l
 ·rw [ZO h]; omega
 ·rw [ZM h,Z7]; exact Z1 _
theorem Grow.up {L:List dA} {e:dA} {x:aI} (he:bL L x = some e) (y:aI):Grow L x y (pL L e.key (keys e.ks [y])):=by
 obtain ⟨hme,hxe⟩:=fU he
 refine ⟨fun z w=>?_,fun n hn a ha=>?_,fun z=>?_⟩
 ·rw [Qh he]
  by_cases hz:z = x
  ·have:qS L z = e.ks:=by unfold qS; rw [hz,he]
   rw [ZO hz,this,NW,DZ]
   exact ⟨fun h=>h.imp id fun h=>⟨hz,h⟩,fun h=>h.imp id And.right⟩
  ·rw [ZM hz]
   exact ⟨.inl,fun h=>h.elim id fun h=>absurd h.1 hz⟩
 ·obtain ⟨a0,ha0,rfl⟩:=ah.1 ha
  by_cases hk:a0.key = e.key
  ·rw [ZO hk]
   have:=Ls e.ks y
   have:=hn e hme
   show (jS e.ks y).length <= n + 1
   omega
  ·rw [ZM hk]
   have:=hn a0 ha0
   omega
 ·rw [Ds]
  refine ⟨.inl,fun h=>h.elim id fun h=>?_⟩
  rw [h]
  exact TD.2 ⟨e,he⟩
theorem Grow.new {L:List dA} {x:aI} {s m:Nat} (hx:bL L x = none) (y:aI):bL (L ++ [dA.mk x s m []]) x = some (dA.mk x s m []) /\ Grow L x y (pL (L ++ [dA.mk x s m []]) x (keys [] [y])):=by
 have he:bL (L ++ [dA.mk x s m []]) x = some (dA.mk x s m []):=by rw [w_ _ _ hx,ZO rfl]
 have g:=Grow.up he y
 refine ⟨he,fun z w=>?_,fun n hn a ha=>?_,fun z=>?_⟩
 ·rw [g.mem]
  have:qS (L ++ [dA.mk x s m []]) z = qS L z:=by
   unfold qS
   rw [w_ _ _ hx]
   by_cases hz:z = x
   ·rw [ZO hz,hz,hx]
   ·rw [ZM hz]
  rw [this]
 ·refine g.len n (fun e he=>?_) a ha
  rcases aa.1 he with he | he
  ·exact hn e he
  ·rw [ae.1 he]; exact dc _
 ·rw [g.key,cj,aa]
  constructor
  ·rintro ((h | h) | h)
   ·exact .inl h
   ·exact .inr (by simpa using h)
   ·exact .inr h
  ·exact fun h=>h.imp .inl id
end
end
section
section
variable {E:Env} {Z:Sg} {K:V -> Sg -> Prop}
theorem Kp.tU {Z σ':Sg} {m:Nat} {es:List (V × V)} (h:Lb.Kp Z σ' m) (hm:Z[m]? = some (.map es)):Lb.dR Z σ':=Lb.Kp.tU h hm
theorem dR.A5 (Z:Sg) (y:O):Lb.dR Z (Z ++ [y]):=Lb.dR.app Z [y]
theorem map_lt {Z:Sg} {b:Nat} {o:O} (h:Z[b]? = some o):b < Z.length:=(AI.1 h).1
theorem Qc (h:bH E) (h':pV E) (hl:Lb.cQ E) {Y:Sg} {gb m0 m1 sa ma b3 b4:Nat} {es0 es1:List (V × V)} {A:List aI} {L3 L4:List dA} (ga:nL E Y gb m0 m1 sa ma b3 b4 es0 es1 A L3 L4) {x y:aI} {blk:Nat} (hb:Y[blk]? = some (O.cells 144 [.mp b3,.bool x.1,.str x.2,.bool y.1,.str y.2,.mp b4,.bool y.1,.str y.2,.bool x.1,.str x.2] true)) (hks:∀ e ∈ L3,e.ks.length <= 1000000) (F:FT) (g30:F.get 30 = .sl blk 0 2 none) (g32:F.get 32 = .int .i64 0) {st:List jG} {Q:Ax.X -> Fr -> Sg -> Prop}
  (hk:∀ F' τ' L',(∀ k,k ∈ [0,4,5,30,31,32] -> F'.get k = F.get k) -> nL E τ' gb m0 m1 sa ma b3 b4 es0 es1 A L' L4 -> Grow L3 x y L' -> Lb.dR Y τ' -> M E st .normal ⟨57,F'⟩ τ' Q):Ax.R E (cutAt [1,1,1,2,2,1,1,0,2] (aA Tryz.f65).code) st ⟨57,F⟩ Y Q:=by
 have ia:indexAddr E 145 (.sl blk 0 2 none) (.int .i64 0) = some (.ref blk 0):=by unfold Ax.indexAddr; simp only [h'.Jq,h'.wU]; rfl
 have ga1:=ga.app (O.cells 144 [.mp b3,.bool x.1,.str x.2,.bool y.1,.str y.2] true)
 have hnb:(Y ++ [O.cells 144 [.mp b3,.bool x.1,.str x.2,.bool y.1,.str y.2] true])[Y.length]? = some (O.cells 144 [.mp b3,.bool x.1,.str x.2,.bool y.1,.str y.2] true):=aK
 have lk:=xV h' hl ga1.jP x
 unfold jR at lk
 rcases hq:bL L3 x with _ | e
 ·rw [hq] at lk
  have r7:=fun (ρ:Sg) (m:Nat) gm he hbx hln hne F g7 st Q hk=>J6 (Y:=ρ) (nb:=Y.length) (mb:=b3) (L:=L3 ++ [dA.mk x (Y ++ [O.cells 144 [.mp b3,.bool x.1,.str x.2,.bool y.1,.str y.2] true]).length m []]) (x:=x) (y:=y) (e:=dA.mk x (Y ++ [O.cells 144 [.mp b3,.bool x.1,.str x.2,.bool y.1,.str y.2] true]).length m []) h h' hl gm he hbx hln hne F g7 (st:=st) (Q:=Q) hk
  have r6:=fun F g7 st Q hk=>RX (Y:=Y ++ [O.cells 144 [.mp b3,.bool x.1,.str x.2,.bool y.1,.str y.2] true]) (nb:=Y.length) (mb:=b3) (L:=L3) (x:=x) (y:=y) h h' hl ga1.jP hq hnb F g7 (st:=st) (Q:=Q) hk
  rw [show cutAt [1,1,1,2,2,1,1,0,2] (aA Tryz.f65).code = .seq (cutAt [1,1,1,2,2,1,1,0,2,0] (aA Tryz.f65).code) (.seq (.seq (cutAt [1,1,1,2,2,1,1,0,2,1,0,0] (aA Tryz.f65).code) (.cond (.tmp 41) (cutAt [1,1,1,2,2,1,1,0,2,1,0,1,0] (aA Tryz.f65).code) .skip)) (cutAt [1,1,1,2,2,1,1,0,2,1,1] (aA Tryz.f65).code)) from rfl]
  rw [show cutAt [1,1,1,2,2,1,1,0,2,1,0,1,0] (aA Tryz.f65).code = .region 6 (opsOf (cutAt [1,1,1,2,2,1,1,0,2,1,0,1,0] (aA Tryz.f65).code)) true from rfl,show cutAt [1,1,1,2,2,1,1,0,2,1,1] (aA Tryz.f65).code = .region 7 (opsOf (cutAt [1,1,1,2,2,1,1,0,2,1,1] (aA Tryz.f65).code)) true from rfl]
  generalize opsOf (cutAt [1,1,1,2,2,1,1,0,2,1,0,1,0] (aA Tryz.f65).code) = O6 at r6 ⊢
  generalize opsOf (cutAt [1,1,1,2,2,1,1,0,2,1,1] (aA Tryz.f65).code) = O7 at r7 ⊢
  have e77:nY E 69 true .fP .fP = some true:=by unfold nY; rw [hl.tA]
  simp only [aA,Tryz.f65,KP,Ax.loadAt,Ax.storeAt,↓reduceIte,reduceEqDiff,reduceLT,reduceLeDiff,reduceAdd,reduceCtorEq,h.cP,e77,cutAt,h'.wU,h'.vQ,g30,g32,ia,hb,hnb,lk,aK,bV]
  refine r6 _ ?_ _ _ (fun F1 τ1 m hF1 nW hset hlt=>?_)
  ·simp +decide only [GS]
  have hx1:=ga1.jP.map
  have ga2:=ga1.P3 hq nW hset (Nat.le_of_lt hlt)
  have hmb:b3 < (Y ++ [O.cells 144 [.mp b3,.bool x.1,.str x.2,.bool y.1,.str y.2] true]).length:=map_lt hx1
  have hnb2:(τ1.set b3 (.map ((L3 ++ [dA.mk x (Y ++ [O.cells 144 [.mp b3,.bool x.1,.str x.2,.bool y.1,.str y.2] true]).length m []]).map nZ)))[Y.length]? = some (O.cells 144 [.mp b3,.bool x.1,.str x.2,.bool y.1,.str y.2] true):=by
   rw [No]
   ·exact nW _ _ hnb
   ·intro e
    have q:=hx1.symm.trans ((ZL (fun i=>(Y ++ [O.cells 144 [.mp b3,.bool x.1,.str x.2,.bool y.1,.str y.2] true])[i]?) e).trans hnb)
    cases q
  rw [Ln]
  refine r7 _ m ga2.jP (Grow.new hq y).1 hnb2 (dc _) (show b3 ≠ m by omega) _ ?_ _ _ (fun F2 τ2 hF2 hset2 kp=>?_)
  ·exact (hF1 7 (by simp)).trans (by simp +decide only [GS])
  have gb2:=ga2.app (O.cells 51 [.bool y.1,.str y.2] true)
  have ga3:=gb2.Nt (fU (Grow.new hq y).1).1 hset2 kp
  refine hk _ _ _ (fun k hk=>?_) ga3 (Grow.new hq y).2 ?_
  ·have h7:k ∈ [0,4,5,7,30,31,32]:=by
    simp only [By,ZY,bt] at hk ⊢
    omega
   refine (hF2 k h7).trans ((hF1 k h7).trans ?_)
   simp only [By,ZY,bt] at hk
   rcases hk with rfl | rfl | rfl | rfl | rfl | rfl <;> simp +decide only [GS]
  ·exact ((((dR.A5 Y _).trans nW.tU).trans (Lb.dR.ET (nW _ _ hx1))).trans (dR.A5 _ _)).trans (Lb.Kp.tU kp (gb2.jP.sets _ (fU (Grow.new hq y).1).1).map)
 ·rw [hq] at lk
  have e77:nY E 69 true (.ref e.s 0) .fP = some false:=by unfold nY; rw [hl.tA]
  obtain ⟨hme,hxe⟩:=fU hq
  obtain ⟨-,-,f3⟩:=ga1.facts
  have hmb:=f3 e.m (by first | exact .inl (ah.2 ⟨e,hme,rfl⟩) | exact .inr (ah.2 ⟨e,hme,rfl⟩))
  have r7:=fun F g7 st Q hk=>J6 (Y:=Y ++ [O.cells 144 [.mp b3,.bool x.1,.str x.2,.bool y.1,.str y.2] true]) (nb:=Y.length) (mb:=b3) (L:=L3) (x:=x) (y:=y) (e:=e) h h' hl ga1.jP hq hnb (hks e hme) (by first | exact hmb.2.2.2.1 | exact hmb.2.2.2.2) F g7 (st:=st) (Q:=Q) hk
  rw [show cutAt [1,1,1,2,2,1,1,0,2] (aA Tryz.f65).code = .seq (cutAt [1,1,1,2,2,1,1,0,2,0] (aA Tryz.f65).code) (.seq (.seq (cutAt [1,1,1,2,2,1,1,0,2,1,0,0] (aA Tryz.f65).code) (.cond (.tmp 41) (cutAt [1,1,1,2,2,1,1,0,2,1,0,1,0] (aA Tryz.f65).code) .skip)) (cutAt [1,1,1,2,2,1,1,0,2,1,1] (aA Tryz.f65).code)) from rfl]
  rw [show cutAt [1,1,1,2,2,1,1,0,2,1,0,1,0] (aA Tryz.f65).code = .region 6 (opsOf (cutAt [1,1,1,2,2,1,1,0,2,1,0,1,0] (aA Tryz.f65).code)) true from rfl,show cutAt [1,1,1,2,2,1,1,0,2,1,1] (aA Tryz.f65).code = .region 7 (opsOf (cutAt [1,1,1,2,2,1,1,0,2,1,1] (aA Tryz.f65).code)) true from rfl]
  generalize opsOf (cutAt [1,1,1,2,2,1,1,0,2,1,0,1,0] (aA Tryz.f65).code) = O6 at ⊢
  generalize opsOf (cutAt [1,1,1,2,2,1,1,0,2,1,1] (aA Tryz.f65).code) = O7 at r7 ⊢
  simp only [aA,Tryz.f65,KP,Ax.loadAt,Ax.storeAt,↓reduceIte,reduceEqDiff,reduceLT,reduceLeDiff,reduceAdd,reduceCtorEq,h.cP,e77,cutAt,h'.wU,h'.vQ,g30,g32,ia,hb,hnb,lk,aK,bV]
  refine r7 _ ?_ _ _ (fun F2 τ2 hF2 hset2 kp=>?_)
  ·simp +decide only [GS]
  have gb2:=ga1.app (O.cells 51 [.bool y.1,.str y.2] true)
  have ga3:=gb2.Nt hme hset2 kp
  refine hk _ _ _ (fun k hk=>?_) ga3 (Grow.up hq y) ?_
  ·have h7:k ∈ [0,4,5,7,30,31,32]:=by
    simp only [By,ZY,bt] at hk ⊢
    omega
   refine (hF2 k h7).trans ?_
   simp only [By,ZY,bt] at hk
   rcases hk with rfl | rfl | rfl | rfl | rfl | rfl <;> simp +decide only [GS]
  ·exact ((dR.A5 Y _).trans (dR.A5 _ _)).trans (Lb.Kp.tU kp (gb2.jP.sets e hme).map)
theorem Qb (h:bH E) (h':pV E) (hl:Lb.cQ E) {Y:Sg} {gb m0 m1 sa ma b3 b4:Nat} {es0 es1:List (V × V)} {A:List aI} {L3 L4:List dA} (ga:nL E Y gb m0 m1 sa ma b3 b4 es0 es1 A L3 L4) {x y:aI} {blk:Nat} (hb:Y[blk]? = some (O.cells 144 [.mp b3,.bool x.1,.str x.2,.bool y.1,.str y.2,.mp b4,.bool y.1,.str y.2,.bool x.1,.str x.2] true)) (hks:∀ e ∈ L4,e.ks.length <= 1000000) (F:FT) (g30:F.get 30 = .sl blk 0 2 none) (g32:F.get 32 = .int .i64 1) {st:List jG} {Q:Ax.X -> Fr -> Sg -> Prop}
  (hk:∀ F' τ' L',(∀ k,k ∈ [0,4,5,30,31,32] -> F'.get k = F.get k) -> nL E τ' gb m0 m1 sa ma b3 b4 es0 es1 A L3 L' -> Grow L4 y x L' -> Lb.dR Y τ' -> M E st .normal ⟨57,F'⟩ τ' Q):Ax.R E (cutAt [1,1,1,2,2,1,1,0,2] (aA Tryz.f65).code) st ⟨57,F⟩ Y Q:=by
 have ia:indexAddr E 145 (.sl blk 0 2 none) (.int .i64 1) = some (.ref blk 5):=by unfold Ax.indexAddr; simp only [h'.Jq,h'.wU]; rfl
 have ga1:=ga.app (O.cells 144 [.mp b4,.bool y.1,.str y.2,.bool x.1,.str x.2] true)
 have hnb:(Y ++ [O.cells 144 [.mp b4,.bool y.1,.str y.2,.bool x.1,.str x.2] true])[Y.length]? = some (O.cells 144 [.mp b4,.bool y.1,.str y.2,.bool x.1,.str x.2] true):=aK
 have lk:=xV h' hl ga1.jH y
 unfold jR at lk
 rcases hq:bL L4 y with _ | e
 ·rw [hq] at lk
  have r7:=fun (ρ:Sg) (m:Nat) gm he hbx hln hne F g7 st Q hk=>J6 (Y:=ρ) (nb:=Y.length) (mb:=b4) (L:=L4 ++ [dA.mk y (Y ++ [O.cells 144 [.mp b4,.bool y.1,.str y.2,.bool x.1,.str x.2] true]).length m []]) (x:=y) (y:=x) (e:=dA.mk y (Y ++ [O.cells 144 [.mp b4,.bool y.1,.str y.2,.bool x.1,.str x.2] true]).length m []) h h' hl gm he hbx hln hne F g7 (st:=st) (Q:=Q) hk
  have r6:=fun F g7 st Q hk=>RX (Y:=Y ++ [O.cells 144 [.mp b4,.bool y.1,.str y.2,.bool x.1,.str x.2] true]) (nb:=Y.length) (mb:=b4) (L:=L4) (x:=y) (y:=x) h h' hl ga1.jH hq hnb F g7 (st:=st) (Q:=Q) hk
  rw [show cutAt [1,1,1,2,2,1,1,0,2] (aA Tryz.f65).code = .seq (cutAt [1,1,1,2,2,1,1,0,2,0] (aA Tryz.f65).code) (.seq (.seq (cutAt [1,1,1,2,2,1,1,0,2,1,0,0] (aA Tryz.f65).code) (.cond (.tmp 41) (cutAt [1,1,1,2,2,1,1,0,2,1,0,1,0] (aA Tryz.f65).code) .skip)) (cutAt [1,1,1,2,2,1,1,0,2,1,1] (aA Tryz.f65).code)) from rfl]
  rw [show cutAt [1,1,1,2,2,1,1,0,2,1,0,1,0] (aA Tryz.f65).code = .region 6 (opsOf (cutAt [1,1,1,2,2,1,1,0,2,1,0,1,0] (aA Tryz.f65).code)) true from rfl,show cutAt [1,1,1,2,2,1,1,0,2,1,1] (aA Tryz.f65).code = .region 7 (opsOf (cutAt [1,1,1,2,2,1,1,0,2,1,1] (aA Tryz.f65).code)) true from rfl]
  generalize opsOf (cutAt [1,1,1,2,2,1,1,0,2,1,0,1,0] (aA Tryz.f65).code) = O6 at r6 ⊢
  generalize opsOf (cutAt [1,1,1,2,2,1,1,0,2,1,1] (aA Tryz.f65).code) = O7 at r7 ⊢
  have e77:nY E 69 true .fP .fP = some true:=by unfold nY; rw [hl.tA]
  simp only [aA,Tryz.f65,KP,Ax.loadAt,Ax.storeAt,↓reduceIte,reduceEqDiff,reduceLT,reduceLeDiff,reduceAdd,reduceCtorEq,h.cP,e77,cutAt,h'.wU,h'.vQ,g30,g32,ia,hb,hnb,lk,aK,bV]
  refine r6 _ ?_ _ _ (fun F1 τ1 m hF1 nW hset hlt=>?_)
  ·simp +decide only [GS]
  have hx1:=ga1.jH.map
  have ga2:=ga1.Pj hq nW hset (Nat.le_of_lt hlt)
  have hmb:b4 < (Y ++ [O.cells 144 [.mp b4,.bool y.1,.str y.2,.bool x.1,.str x.2] true]).length:=map_lt hx1
  have hnb2:(τ1.set b4 (.map ((L4 ++ [dA.mk y (Y ++ [O.cells 144 [.mp b4,.bool y.1,.str y.2,.bool x.1,.str x.2] true]).length m []]).map nZ)))[Y.length]? = some (O.cells 144 [.mp b4,.bool y.1,.str y.2,.bool x.1,.str x.2] true):=by
   rw [No]
   ·exact nW _ _ hnb
   ·intro e
    have q:=hx1.symm.trans ((ZL (fun i=>(Y ++ [O.cells 144 [.mp b4,.bool y.1,.str y.2,.bool x.1,.str x.2] true])[i]?) e).trans hnb)
    cases q
  rw [Ln]
  refine r7 _ m ga2.jH (Grow.new hq x).1 hnb2 (dc _) (show b4 ≠ m by omega) _ ?_ _ _ (fun F2 τ2 hF2 hset2 kp=>?_)
  ·exact (hF1 7 (by simp)).trans (by simp +decide only [GS])
  have gb2:=ga2.app (O.cells 51 [.bool x.1,.str x.2] true)
  have ga3:=gb2.Mt (fU (Grow.new hq x).1).1 hset2 kp
  refine hk _ _ _ (fun k hk=>?_) ga3 (Grow.new hq x).2 ?_
  ·have h7:k ∈ [0,4,5,7,30,31,32]:=by
    simp only [By,ZY,bt] at hk ⊢
    omega
   refine (hF2 k h7).trans ((hF1 k h7).trans ?_)
   simp only [By,ZY,bt] at hk
   rcases hk with rfl | rfl | rfl | rfl | rfl | rfl <;> simp +decide only [GS]
  ·exact ((((dR.A5 Y _).trans nW.tU).trans (Lb.dR.ET (nW _ _ hx1))).trans (dR.A5 _ _)).trans (Lb.Kp.tU kp (gb2.jH.sets _ (fU (Grow.new hq x).1).1).map)
 ·rw [hq] at lk
  have e77:nY E 69 true (.ref e.s 0) .fP = some false:=by unfold nY; rw [hl.tA]
  obtain ⟨hme,hxe⟩:=fU hq
  obtain ⟨-,-,f3⟩:=ga1.facts
  have hmb:=f3 e.m (by first | exact .inl (ah.2 ⟨e,hme,rfl⟩) | exact .inr (ah.2 ⟨e,hme,rfl⟩))
  have r7:=fun F g7 st Q hk=>J6 (Y:=Y ++ [O.cells 144 [.mp b4,.bool y.1,.str y.2,.bool x.1,.str x.2] true]) (nb:=Y.length) (mb:=b4) (L:=L4) (x:=y) (y:=x) (e:=e) h h' hl ga1.jH hq hnb (hks e hme) (by first | exact hmb.2.2.2.1 | exact hmb.2.2.2.2) F g7 (st:=st) (Q:=Q) hk
  rw [show cutAt [1,1,1,2,2,1,1,0,2] (aA Tryz.f65).code = .seq (cutAt [1,1,1,2,2,1,1,0,2,0] (aA Tryz.f65).code) (.seq (.seq (cutAt [1,1,1,2,2,1,1,0,2,1,0,0] (aA Tryz.f65).code) (.cond (.tmp 41) (cutAt [1,1,1,2,2,1,1,0,2,1,0,1,0] (aA Tryz.f65).code) .skip)) (cutAt [1,1,1,2,2,1,1,0,2,1,1] (aA Tryz.f65).code)) from rfl]
  rw [show cutAt [1,1,1,2,2,1,1,0,2,1,0,1,0] (aA Tryz.f65).code = .region 6 (opsOf (cutAt [1,1,1,2,2,1,1,0,2,1,0,1,0] (aA Tryz.f65).code)) true from rfl,show cutAt [1,1,1,2,2,1,1,0,2,1,1] (aA Tryz.f65).code = .region 7 (opsOf (cutAt [1,1,1,2,2,1,1,0,2,1,1] (aA Tryz.f65).code)) true from rfl]
  generalize opsOf (cutAt [1,1,1,2,2,1,1,0,2,1,0,1,0] (aA Tryz.f65).code) = O6 at ⊢
  generalize opsOf (cutAt [1,1,1,2,2,1,1,0,2,1,1] (aA Tryz.f65).code) = O7 at r7 ⊢
  simp only [aA,Tryz.f65,KP,Ax.loadAt,Ax.storeAt,↓reduceIte,reduceEqDiff,reduceLT,reduceLeDiff,reduceAdd,reduceCtorEq,h.cP,e77,cutAt,h'.wU,h'.vQ,g30,g32,ia,hb,hnb,lk,aK,bV]
  refine r7 _ ?_ _ _ (fun F2 τ2 hF2 hset2 kp=>?_)
  ·simp +decide only [GS]
  have gb2:=ga1.app (O.cells 51 [.bool x.1,.str x.2] true)
  have ga3:=gb2.Mt hme hset2 kp
  refine hk _ _ _ (fun k hk=>?_) ga3 (Grow.up hq x) ?_
  ·have h7:k ∈ [0,4,5,7,30,31,32]:=by
    simp only [By,ZY,bt] at hk ⊢
    omega
   refine (hF2 k h7).trans ?_
   simp only [By,ZY,bt] at hk
   rcases hk with rfl | rfl | rfl | rfl | rfl | rfl <;> simp +decide only [GS]
  ·exact ((dR.A5 Y _).trans (dR.A5 _ _)).trans (Lb.Kp.tU kp (gb2.jH.sets e hme).map)
end
end
section
section
variable {E:Env} {Z:Sg} {K:V -> Sg -> Prop}
theorem OE (h:bH E) (h':pV E) (hl:Lb.cQ E) {Y:Sg} {gb m0 m1 sa ma b3 b4:Nat} {es0 es1:List (V × V)} {A:List aI} {L3 L4:List dA} (ga:nL E Y gb m0 m1 sa ma b3 b4 es0 es1 A L3 L4) {x y:aI} (hA:A.length <= 1000000) (hk3:∀ e ∈ L3,e.ks.length <= 1000000) (hk4:∀ e ∈ L4,e.ks.length <= 1000000):aB E 65 [.ref gb 0,.agg [.bool x.1,.str x.2],.agg [.bool y.1,.str y.2]] Y fun v τ'=>v = .gB [] /\ ∃ L3' L4',nL E τ' gb m0 m1 sa ma b3 b4 es0 es1 (keys A [x,y]) L3' L4' /\ Grow L3 x y L3' /\ Grow L4 y x L4' /\ Lb.dR Y τ':=by
 rw [dF h'.hs65 h'.sp65 h'.fn65 h'.md65,aX (by kernel_rfl)]
 have rn:=fun {Y} {L3 L4} {blk} A ga hb hks F g30 g32 st Q hk=>Qc (Y:=Y) (L3:=L3) (L4:=L4) (A:=A) (x:=x) (y:=y) (blk:=blk) (gb:=gb) (m0:=m0) (m1:=m1) (sa:=sa) (ma:=ma) (b3:=b3) (b4:=b4) (es0:=es0) (es1:=es1) h h' hl ga hb hks F g30 g32 (st:=st) (Q:=Q) hk
 have ru:=fun {Y} {L3 L4} {blk} A ga hb hks F g30 g32 st Q hk=>Qb (Y:=Y) (L3:=L3) (L4:=L4) (A:=A) (x:=x) (y:=y) (blk:=blk) (gb:=gb) (m0:=m0) (m1:=m1) (sa:=sa) (ma:=ma) (b3:=b3) (b4:=b4) (es0:=es0) (es1:=es1) h h' hl ga hb hks F g30 g32 (st:=st) (Q:=Q) hk
 have r1:=fun {Y} {n0 n1} ga hx hy F g0 g4 g5 st Q hk=>Xt (Y:=Y) (n0:=n0) (n1:=n1) (A:=A) (L3:=L3) (L4:=L4) (x:=x) (y:=y) (gb:=gb) (m0:=m0) (m1:=m1) (sa:=sa) (ma:=ma) (b3:=b3) (b4:=b4) (es0:=es0) (es1:=es1) h h' hl ga hx hy hA F g0 g4 g5 (st:=st) (Q:=Q) hk
 have d2:=h'.Zm
 rw [show (aA Tryz.f65).code = .seq (cutAt [0] (aA Tryz.f65).code) (.seq (cutAt [1,0] (aA Tryz.f65).code) (.seq (cutAt [1,1,0] (aA Tryz.f65).code) (.block 0 (.loop (.seq (cutAt [1,1,1,2,2,0] (aA Tryz.f65).code) (.seq (cutAt [1,1,1,2,2,1,0] (aA Tryz.f65).code) (.seq (.block 1 (cutAt [1,1,1,2,2,1,1,0,2] (aA Tryz.f65).code)) (cutAt [1,1,1,2,2,1,1,1] (aA Tryz.f65).code)))))))) from rfl]
 rw [show cutAt [1,0] (aA Tryz.f65).code = .region 1 (opsOf (cutAt [1,0] (aA Tryz.f65).code)) true from rfl]
 generalize opsOf (cutAt [1,0] (aA Tryz.f65).code) = O1 at r1 ⊢
 generalize cutAt [1,1,1,2,2,1,1,0,2] (aA Tryz.f65).code = B at rn ru ⊢
 generalize hD2:cutAt [1,1,0] (aA Tryz.f65).code = D2 at d2 ⊢
 simp only [aA,Tryz.f65,KP,↓reduceIte,reduceEqDiff,reduceLT,reduceAdd,h.cP,cutAt]
 have gx:nL E (Y ++ [O.cells 51 [.bool x.1,.str x.2] true] ++ [O.cells 51 [.bool y.1,.str y.2] true]) gb m0 m1 sa ma b3 b4 es0 es1 A L3 L4:=(ga.app _).app _
 refine r1 gx (aN aK) aK _ ?_ ?_ ?_ _ _ (fun F1 τ1 hF1 ga1 hx1 hy1 kc1=>?_)
 ·simp +decide only [GS]
 ·simp +decide only [GS]
 ·simp +decide only [GS]
 have q0:F1.get 0 = .ref gb 0:=(hF1 0 (by simp)).trans (by simp +decide only [GS])
 have q4:F1.get 4 = .ref Y.length 0:=(hF1 4 (by simp)).trans (by simp +decide only [GS])
 have q5:F1.get 5 = .ref (Y ++ [O.cells 51 [.bool x.1,.str x.2] true]).length 0:=(hF1 5 (by simp)).trans (by simp +decide only [GS])
 have hg:=ga1.g
 have kc0:Lb.dR Y τ1:=(((dR.A5 Y _).trans (dR.A5 _ _)).trans kc1)
 generalize (Y ++ [O.cells 51 [.bool x.1,.str x.2] true]).length = n1 at *
 generalize Y.length = n0 at *
 rw [Ln]
 subst hD2
 simp only [aA,Tryz.f65,cutAt,Z9] at d2
 have lz:∀ (Z:Sg) (b:Nat),lenOf E Z 145 (.sl b 0 2 none) = some 2:=fun Z b=>by unfold lenOf; rw [h'.Jq]
 have d0:decide ((0:Int) < ((2:Nat):Int)) = true:=rfl
 have d1:decide ((1:Int) < ((2:Nat):Int)) = true:=rfl
 have d2':decide ((2:Int) < ((2:Nat):Int)) = false:=rfl
 have w1:wr .i64 1 = 1:=rfl
 have w2:wr .i64 2 = 2:=rfl
 simp only [aA,Tryz.f65,KP,Ax.loadAt,↓reduceIte,reduceEqDiff,reduceLT,reduceLeDiff,reduceAdd,reduceMul,reduceCtorEq,h.cP,lz,cutAt,aU d2,bM,h'.vQ,h'.wU,h'.Jq,h'.wT,hg,hx1,hy1,q0,q4,q5,Ax.fill,Ax.placeOf,iA,dz]
 have ga2:=ga1.app (O.cells 144 [.mp b3,.bool x.1,.str x.2,.bool y.1,.str y.2,.mp b4,.bool y.1,.str y.2,.bool x.1,.str x.2] true)
 have hb2:(τ1 ++ [O.cells 144 [.mp b3,.bool x.1,.str x.2,.bool y.1,.str y.2,.mp b4,.bool y.1,.str y.2,.bool x.1,.str x.2] true])[τ1.length]? = some (O.cells 144 [.mp b3,.bool x.1,.str x.2,.bool y.1,.str y.2,.mp b4,.bool y.1,.str y.2,.bool x.1,.str x.2] true):=aK
 have kc2:Lb.dR Y (τ1 ++ [O.cells 144 [.mp b3,.bool x.1,.str x.2,.bool y.1,.str y.2,.mp b4,.bool y.1,.str y.2,.bool x.1,.str x.2] true]):=kc0.trans (dR.A5 _ _)
 generalize τ1 ++ [O.cells 144 [.mp b3,.bool x.1,.str x.2,.bool y.1,.str y.2,.mp b4,.bool y.1,.str y.2,.bool x.1,.str x.2] true] = τ2 at *
 generalize τ1.length = blk at *
 rw [aG]
 simp only [KP,↓reduceIte,reduceEqDiff,reduceLT,d0]
 refine rn _ ga2 hb2 hk3 _ ?_ ?_ _ _ (fun F3 τ3 L3' hF3 ga3 gr3 kc3=>?_)
 ·simp +decide only [GS]
 ·simp +decide only [GS]
 have q30:F3.get 30 = .sl blk 0 2 none:=(hF3 30 (by simp)).trans (by simp +decide only [GS])
 have q31:F3.get 31 = .int .i64 ((2:Nat):Int):=(hF3 31 (by simp)).trans (by simp +decide only [GS])
 have q32:F3.get 32 = .int .i64 0:=(hF3 32 (by simp)).trans (by simp +decide only [GS])
 simp only [KP,↓reduceIte,reduceLT,Int.reduceAdd,w1,q32]
 rw [aG]
 simp only [KP,↓reduceIte,reduceEqDiff,reduceLT,d1,q31]
 refine ru _ ga3 (kc3 _ _ _ _ hb2) hk4 _ ?_ ?_ _ _ (fun F4 τ4 L4' hF4 ga4 gr4 kc4=>?_)
 ·simp +decide only [GS,q30]
 ·simp +decide only [GS]
 have q31':F4.get 31 = .int .i64 ((2:Nat):Int):=(hF4 31 (by simp)).trans (by simp +decide only [GS,q31])
 have q32':F4.get 32 = .int .i64 1:=(hF4 32 (by simp)).trans (by simp +decide only [GS])
 simp only [KP,↓reduceIte,reduceLT,Int.reduceAdd,w2,q32']
 rw [aG]
 simp only [KP,↓reduceIte,reduceEqDiff,reduceLT,d2',q31']
 exact ⟨_,_,ga4,gr3,gr4,(kc2.trans kc3).trans kc4⟩
end
end
section
section
variable {E:Env} {Z:Sg} {K:V -> Sg -> Prop}
def dU (r:aC):List (aI × aI):=r.ins.map (fun f=>(((true,r.name):aI),((false,f):aI))) ++ r.outs.map (fun f=>(((false,f):aI),((true,r.name):aI)))
def gO (r:aC):aI:=(true,r.name)
structure vB (X:List aI) (P:List (aI × aI)) (A:List aI) (L3 L4:List dA):Prop where
 all:∀ x,x ∈ A ↔ x ∈ X \/ ∃ p ∈ P,x = p.1 \/ x = p.2
 need:∀ z w,w ∈ qS L3 z ↔ (z,w) ∈ P
 user:∀ z w,w ∈ qS L4 z ↔ (w,z) ∈ P
 NQ:A.length <= X.length + 2 * P.length
 NS:∀ e ∈ L3,e.ks.length <= P.length
 NR:∀ e ∈ L4,e.ks.length <= P.length
theorem vB.nil:vB [] [] [] [] []:=⟨fun x=>by simp,fun z w=>by simp [qS,bL],fun z w=>by simp [qS,bL],Z1 _,(fun e he=>by cases he),(fun e he=>by cases he)⟩
theorem vB.link {X:List aI} {P:List (aI × aI)} {A:List aI} {L3 L4 L3' L4':List dA} {x y:aI} (h:vB X P A L3 L4) (g3:Grow L3 x y L3') (g4:Grow L4 y x L4'):vB X (P ++ [(x,y)]) (keys A [x,y]) L3' L4':=by
 refine ⟨fun z=>?_,fun z w=>?_,fun z w=>?_,?_,fun e he=>?_,fun e he=>?_⟩
 ·rw [mem_keys,h.all]
  constructor
  ·rintro ((h1 | ⟨p,hp,h1⟩) | h1)
   ·exact .inl h1
   ·exact .inr ⟨p,List.mem_append_left _ hp,h1⟩
   ·refine .inr ⟨(x,y),by simp,by simpa using h1⟩
  ·rintro (h1 | ⟨p,hp,h1⟩)
   ·exact .inl (.inl h1)
   ·rcases aa.1 hp with hp | hp
    ·exact .inl (.inr ⟨p,hp,h1⟩)
    ·rw [ae.1 hp] at h1
     exact .inr (by simpa using h1)
 ·rw [g3.mem,h.need,aa,ae]
  exact or_congr mc ⟨fun q=>by rw [q.1,q.2],fun q=>⟨ZL Prod.fst q,ZL Prod.snd q⟩⟩
 ·rw [g4.mem,h.user,aa,ae]
  exact or_congr mc ⟨fun q=>by rw [q.1,q.2],fun q=>⟨ZL Prod.snd q,ZL Prod.fst q⟩⟩
 ·have:=nC (xs:=[x,y]) (l:=A)
  have:=h.NQ
  simp only [Z7,Z0,ZN] at *
  omega
 ·rw [Z7]; exact g3.len _ h.NS e he
 ·rw [Z7]; exact g4.len _ h.NR e he
theorem vB.rule {X:List aI} {P:List (aI × aI)} {A:List aI} {L3 L4:List dA} (x:aI) (h:vB X P A L3 L4):vB (X ++ [x]) P (keys A [x]) L3 L4:=by
 refine ⟨fun z=>?_,h.need,h.user,?_,h.NS,h.NR⟩
 ·rw [mem_keys,h.all,aa]
  constructor
  ·rintro ((h1 | h1) | h1)
   ·exact .inl (.inl h1)
   ·exact .inr h1
   ·exact .inl (.inr h1)
  ·rintro ((h1 | h1) | h1)
   ·exact .inl (.inl h1)
   ·exact .inr h1
   ·exact .inl (.inr h1)
 ·have:=nC (xs:=[x]) (l:=A)
  have:=h.NQ
  simp only [Z7,Z0,ZN] at *
  omega
theorem Lc (r:aC) (hs:Small r):(dU r).length <= 16:=by
 unfold dU
 rw [Z7,ZS,ZS]
 have:=hs.ins
 have:=hs.outs
 omega
theorem pC:∀ (rs:List aC),(∀ r ∈ rs,Small r) -> (rs.flatMap dU).length <= 16 * rs.length
 | [],_=>Z1 _
 | r :: rs,h=>by
  rw [fh,Z7,Z0]
  have:=Lc r (h r (IN ..))
  have:=pC rs fun q hq=>h q (OF _ hq)
  omega
def RM (es:List (V × V)) (rs:List aC):Prop:=eP (fun e r=>e.1 = V.str r.name /\ RQ e.2 r) es rs
theorem RQ.ok {v:V} {r:aC} (h:RQ v r):eT v = true:=by
 obtain ⟨a,b,c,d,rfl,h1,h2,h3,h4⟩:=h
 simp only [eT,dw,gy,aM h1.is.bD,aM h2.is.bD,aM h3.is.bD,aM h4.is.bD,jd]
 rfl
theorem KR (h:bH E) (h':pV E) {Y:Sg} {b:Nat} {es:List (V × V)} {rs:List aC} {r:aC} {v:V} (hb:Y[b]? = some (.map es)) (ha:RM es rs) (hn:∀ q ∈ rs,q.name ≠ r.name) (hv:RQ v r) :
  mapUpdate E Y 90 (.mp b) (.str r.name) v = some (Y.set b (.map (es ++ [(.str r.name,v)]))) /\ RM (es ++ [(.str r.name,v)]) (rs ++ [r]):=by
 refine ⟨?_,ha.append (.one ⟨rfl,hv⟩)⟩
 have hk:dX E 9 (.str r.name) = true:=by unfold dX; rw [h.dG]
 have hp:=B4 h (k:=r.name) (v:=v) (es:=es) fun e he=>by
  obtain ⟨q,hq,h1,-⟩:=ha.mem he
  exact ⟨q.name,h1,hn q hq⟩
 unfold Ax.mapUpdate
 simp only [h'.St,hk,hv.ok,hb,hp,aq,ey,Z4,ZK,ZX]
theorem DS {eq:V -> V -> Option Bool} {k v:V}:∀ {es es':List (V × V)},jY eq k v es = some es' -> ∀ e ∈ es',e ∈ es \/ e = (k,v)
 | [],es',h,e,he=>by
  cases h
  exact .inr (ae.1 he)
 | (k0,v0) :: r,es',h,e,he=>by
  unfold jY at h
  cases hq:eq k k0 with
  | none=>rw [hq] at h; cases h
  | some b=>
   rw [hq] at h
   cases b with
   | true=>
    cases h
    rcases By.1 he with h1 | h1
    ·exact .inr h1
    ·exact .inl (OF _ h1)
   | false=>
    dsimp only at h
    cases hr:jY eq k v r with
    | none=>rw [hr] at h; cases h
    | some r'=>
     rw [hr] at h
     cases h
     rcases By.1 he with h1 | h1
     ·exact .inl (by rw [h1]; exact IN ..)
     ·exact (DS hr e h1).imp (OF _) id
def Dk (es:List (V × V)):Prop:=∀ e ∈ es,∃ n,e.2 = V.str n
theorem Pn (h:bH E) {Z:Sg} {b:Nat} {es:List (V × V)} {get:bC -> Option V} (hb:Z[b]? = some (.map es)) (hs:SM E es get) (hv:Dk es) (k n:bC):∃ es',mapUpdate E Z 91 (.mp b) (.str k) (.str n) = some (Z.set b (.map es')) /\ SM E es' (fun q=>if q = k then some (.str n) else get q) /\ Dk es':=by
 obtain ⟨es',h1,h2⟩:=ER h (v:=.str n) k rfl hs
 have hk:dX E 9 (.str k) = true:=by unfold dX; rw [h.dG]
 refine ⟨es',?_,h2,fun e he=>?_⟩
 ·unfold Ax.mapUpdate
  simp only [h.FU,hk,hb,h1,eT,V.aZ,aq,ey,Z4,ZK,ZX]
 ·rcases DS h1 e he with h3 | h3
  ·exact hv e h3
  ·exact ⟨n,by rw [h3]⟩
theorem Fu (h:bH E) (h':pV E) {s:bC}:aB E 64 [.str s] Z K = K (.agg [.bool true,.str s]) Z:=by
 refine aB.of ?_
 rw [aH h'.hs64 h'.sp64 h'.fn64 h'.md64 (args':=[.str s]) (by simp only [aW,dB]),aX (by kernel_rfl)]
 simp only [aA,Tryz.f64,KP,Ax.loadAt,Ax.storeAt,↓reduceIte,reduceEqDiff,reduceLT,reduceAdd,reduceCtorEq,h.EJ,h.dG,h.cP,Ax.fill,Ax.placeOf]
 exact rfl
theorem Qp (h:bH E) (h':pV E) {s:bC}:KC E 64 [.str s] Z (.agg [.bool true,.str s]) Z:=dK fun _=>Fu h h'
theorem Rr (h:bH E) (h':pV E) {s:bC}:aB E 66 [.str s] Z K = K (.agg [.bool false,.str s]) Z:=by
 refine aB.of ?_
 rw [aH h'.hs66 h'.sp66 h'.fn66 h'.md66 (args':=[.str s]) (by simp only [aW,dB]),aX (by kernel_rfl)]
 simp only [aA,Tryz.f66,KP,Ax.loadAt,Ax.storeAt,↓reduceIte,reduceEqDiff,reduceLT,reduceAdd,reduceCtorEq,h.EJ,h.dG,h.cP,Ax.fill,Ax.placeOf]
 exact rfl
theorem Kf (h:bH E) (h':pV E) {s:bC}:KC E 66 [.str s] Z (.agg [.bool false,.str s]) Z:=dK fun _=>Rr h h'
end
end
section
section
variable {E:Env} {Z:Sg} {K:V -> Sg -> Prop}
theorem Wx (h:bH E) (h':pV E) (hl:Lb.cQ E) {Y:Sg} {gb m0 m1 sa ma b3 b4:Nat} {es0 es1:List (V × V)} {A:List aI} {L3 L4:List dA} (ga:nL E Y gb m0 m1 sa ma b3 b4 es0 es1 A L3 L4) {r:aC} {p1 p2 p3 p4:V} {y:Nat} (hy:Y[y]? = some (O.cells 46 [.str r.name,p1,p2,p3,p4] true)) (hA:A.length <= 1000000) (F:FT) (g5:F.get 5 = .ref gb 0) (g7:F.get 7 = .ref y 0) {st:List jG} {Q:Ax.X -> Fr -> Sg -> Prop}
  (hk:∀ F' τ',(∀ k,k ∈ [0,5,7,26,27,28] -> F'.get k = F.get k) -> nL E τ' gb m0 m1 sa ma b3 b4 es0 es1 (keys A [gO r]) L3 L4 -> Lb.dR Y τ' -> M E st .normal ⟨88,F'⟩ τ' Q):Ax.R E (.region 9 (opsOf (cutAt [1,1,1,0,1,2,2,1,1,0,2,1,1,0] (aA Tryz.f13).code)) true) st ⟨88,F⟩ Y Q:=by
 have ga1:=ga.app (O.cells 51 [.bool true,.str r.name] true)
 have hsv:Lb.SV (Y ++ [O.cells 51 [.bool true,.str r.name] true]) (.sl Y.length 0 1 none) [gO r]:=.inr (.inr ⟨Y.length,_,true,rfl,aK,rfl⟩)
 obtain ⟨n1,v1,τ2,⟨hr,hset,hkp⟩,c1⟩:=aB.up (Lb.OQ hl ga1.all hsv (show 1 <= 10000000000 by omega) (by omega))
 obtain ⟨n2,v2,ρ2,⟨e2,e2'⟩,c2⟩:=aB.up (show aB E 64 [.str r.name] Y fun v σ'=>v = .agg [.bool true,.str r.name] /\ σ' = Y by rw [Fu h h']; exact ⟨rfl,rfl⟩)
 obtain ⟨n3,v3,ρ3,⟨e3,e3'⟩,c3⟩:=aB.up (show aB E 64 [.str r.name] (Y ++ [O.cells 51 [.bool true,.str r.name] true]) fun v σ'=>v = .agg [.bool true,.str r.name] /\ σ' = Y ++ [O.cells 51 [.bool true,.str r.name] true] by rw [Fu h h']; exact ⟨rfl,rfl⟩)
 rw [e2,e2'] at c2
 rw [e3,e3'] at c3
 have c1:=c1 (n1 + n2 + n3) (by omega)
 have c2:=c2 (n1 + n2 + n3) (by omega)
 have c3:=c3 (n1 + n2 + n3) (by omega)
 generalize n1 + n2 + n3 = n at c1 c2 c3
 have ga2:=ga1.more hset hkp
 have hma:=ga1.all.map
 have ne:∀ {k:Nat} {t:Nat} {cs:List V} {ex:Bool},(Y ++ [O.cells 51 [.bool true,.str r.name] true])[k]? = some (.cells t cs ex) -> k ≠ ma:=fun hk e=>by
  rw [e,hma] at hk
  cases hk
 have g:=ga.g
 have g1:=ga1.g
 have vr:sO 12 (.ref sa 0) (.ref sa 0) = true:=by unfold sO; simp
 have key:∃ F',cE E (ev E n) (opsOf (cutAt [1,1,1,0,1,2,2,1,1,0,2,1,1,0] (aA Tryz.f13).code)) ⟨88,F⟩ Y = some (⟨88,F'⟩,τ2) /\ (∀ k,k ∈ [0,5,7,26,27,28] -> F'.get k = F.get k):=by
  unfold cE
  rw [h'.UR,h'.Ws]
  simp only [aA,Tryz.f13,KP,Ax.loadAt,↓reduceIte,reduceEqDiff,reduceLT,reduceLeDiff,reduceAdd,reduceMul,reduceCtorEq,h.dG,h.kI,h.bK,h.cP,opsOf,cutAt,Fz.lits,gL,bF,b_,jW,Ax.comp,Ax.last,gH,Ax.again,Ax.fill,iA,dz,hl.tA,h'.wT,g5,g7,hy,g,g1,c1,c2,vr]
  refine ⟨_,rfl,fun k hk=>?_⟩
  simp only [By,ZY,bt] at hk
  rcases hk with rfl | rfl | rfl | rfl | rfl | rfl <;> simp +decide only [GS]
 obtain ⟨F',hD,hF⟩:=key
 exact Eq.mpr (gP hD) (hk F' τ2 hF ga2 ((dR.A5 Y _).trans (Lb.Kp.tU hkp hma)))
end
end
section
section
variable {E:Env} {Z:Sg} {K:V -> Sg -> Prop}
theorem Ic {r:aC} {j:Nat} {s:bC} (hj:r.ins[j]? = some s):(r.ins.take (j + 1)).map (fun f=>(((true,r.name):aI),((false,f):aI))) = (r.ins.take j).map (fun f=>(((true,r.name):aI),((false,f):aI))) ++ [(((true,r.name):aI),((false,s):aI))]:=by
 rw [bh,hj,cj]; rfl
theorem FY {r:aC} {j:Nat} {s:bC} (hj:r.outs[j]? = some s):(r.outs.take (j + 1)).map (fun f=>(((false,f):aI),((true,r.name):aI))) = (r.outs.take j).map (fun f=>(((false,f):aI),((true,r.name):aI))) ++ [(((false,s):aI),((true,r.name):aI))]:=by
 rw [bh,hj,cj]; rfl
theorem Nr (h:bH E) (h':pV E) (hl:Lb.cQ E) {Y:Sg} {gb m0 m1 sa ma b3 b4:Nat} {es0 es1:List (V × V)} {A:List aI} {L3 L4:List dA} (ga:nL E Y gb m0 m1 sa ma b3 b4 es0 es1 A L3 L4) {X:List aI} {P:List (aI × aI)} (li:vB X P A L3 L4) (hX:X.length <= 1000) (hP:P.length <= 100000) {a c27:V} {i:Nat} {r:aC} {g:Bool} {p1 p2 p3 p4:V} (e1:indexAddr E 22 a (.int .i64 (i:Int)) = some (.cW g [.str r.name,p1,p2,p3,p4])) (i1:IS aO p1 r.ins) (i2:IS aO p2 r.outs) (i3:IS aO p3 r.after) (i4:IS eZ p4 r.steps) (hs:Small r) {rs:List aC} (ha:RM es0 rs) (hn:∀ q ∈ rs,q.name ≠ r.name) {get:bC -> Option V} {Pm:bC -> bC -> Prop} (hsm:SM E es1 get) (hsv:Dk es1) (hmk:MK get Pm)
  (F:FT) (g0:F.get 0 = a) (g5:F.get 5 = .ref gb 0) (g26:F.get 26 = a) (g27:F.get 27 = c27) (g28:F.get 28 = .int .i64 (i:Int)) {st:List jG} {Q:Ax.X -> Fr -> Sg -> Prop}
  (hk:∀ F' τ' es0' es1' get' A' L3' L4',F'.get 0 = a -> F'.get 5 = .ref gb 0 -> F'.get 26 = a -> F'.get 27 = c27 -> F'.get 28 = .int .i64 (i:Int) -> nL E τ' gb m0 m1 sa ma b3 b4 es0' es1' A' L3' L4' -> vB (X ++ [gO r]) (P ++ dU r) A' L3' L4' -> RM es0' (rs ++ [r]) -> SM E es1' get' -> Dk es1' -> MK get' (fun k n=>Pm k n \/ (k ∈ r.outs /\ n = r.name)) -> M E st .normal ⟨88,F'⟩ τ' Q):Ax.R E (cutAt [1,1,1,0,1,2,2,1,1,0,2] (aA Tryz.f13).code) st ⟨88,F⟩ Y Q:=by
 have o1:=aM i1.bD
 have o2:=aM i2.bD
 have o3:=aM i3.bD
 have o4:=aM i4.bD
 have a1:=hs.ins
 have a2:=hs.outs
 have l1:=bP h i1
 have l2:=bP h i2
 have d8:=h'.Zv
 simp only [aA,Tryz.f13,cutAt,Z9] at d8
 have d18:=h'.Ub
 simp only [aA,Tryz.f13,cutAt,Z9] at d18
 have d19:=h'.Ua
 simp only [aA,Tryz.f13,cutAt,Z9] at d19
 have r9:=fun {Y} {es0} {y} ga hy hA F g5 g7 st Q hk=>Wx (Y:=Y) (y:=y) (r:=r) (p1:=p1) (p2:=p2) (p3:=p3) (p4:=p4) (A:=A) (L3:=L3) (L4:=L4) (gb:=gb) (m0:=m0) (m1:=m1) (sa:=sa) (ma:=ma) (b3:=b3) (b4:=b4) (es0:=es0) (es1:=es1) h h' hl ga hy hA F g5 g7 (st:=st) (Q:=Q) hk
 rw [show cutAt [1,1,1,0,1,2,2,1,1,0,2] (aA Tryz.f13).code = .seq (cutAt [1,1,1,0,1,2,2,1,1,0,2,0] (aA Tryz.f13).code) (.seq (cutAt [1,1,1,0,1,2,2,1,1,0,2,1,0] (aA Tryz.f13).code) (.seq (.region 9 (opsOf (cutAt [1,1,1,0,1,2,2,1,1,0,2,1,1,0] (aA Tryz.f13).code)) true) (cutAt [1,1,1,0,1,2,2,1,1,0,2,1,1,1] (aA Tryz.f13).code))) from rfl]
 generalize opsOf (cutAt [1,1,1,0,1,2,2,1,1,0,2,1,1,0] (aA Tryz.f13).code) = O9 at r9 ⊢
 generalize hREST:cutAt [1,1,1,0,1,2,2,1,1,0,2,1,1,1] (aA Tryz.f13).code = REST
 have ga1:=ga.app (O.cells 46 [.str r.name,p1,p2,p3,p4] true)
 have hy1:(Y ++ [O.cells 46 [.str r.name,p1,p2,p3,p4] true])[Y.length]? = some (O.cells 46 [.str r.name,p1,p2,p3,p4] true):=aK
 have gg1:=ga1.g
 simp only [aA,Tryz.f13,KP,Ax.loadAt,Ax.storeAt,↓reduceIte,reduceEqDiff,reduceLT,reduceAdd,reduceCtorEq,h.dG,h.bK,cutAt,aU d8,bM,h'.wT,h'.St,g5,g26,g28,e1,o1,o2,o3,o4,gg1,hy1,aK,bV]
 generalize Y ++ [O.cells 46 [.str r.name,p1,p2,p3,p4] true] = τ1 at *
 generalize Y.length = y at *
 refine aP (OI h h' (v:=.agg [.str r.name,p1,p2,p3,p4]) ⟨p1,p2,p3,p4,rfl,i1,i2,i3,i4⟩ hs) ?_
 rintro v σ' ⟨rfl,hv⟩
 obtain ⟨hu,hrm⟩:=KR h h' ga1.rules ha hn hv
 have ga2:=ga1.rule (es0 ++ [(.str r.name,v)])
 have hy2:(σ'.set m0 (.map (es0 ++ [(.str r.name,v)])))[y]? = some (O.cells 46 [.str r.name,p1,p2,p3,p4] true):=Lb.dR.ET ga1.rules _ _ _ _ hy1
 simp only [KP,↓reduceIte,reduceEqDiff,reduceLT,hu]
 generalize σ'.set m0 (.map (es0 ++ [(.str r.name,v)])) = τ2 at *
 refine r9 ga2 hy2 (by have:=li.NQ; omega) _ ?_ ?_ _ _ (fun F3 τ3 hF3 ga3 kc3=>?_)
 ·simp +decide only [GS,g5]
 ·simp +decide only [GS]
 have li3:=li.rule (gO r)
 have hy3:=kc3 _ _ _ _ hy2
 have q0:F3.get 0 = a:=(hF3 0 (by simp)).trans (by simp +decide only [GS,g0])
 have q5:F3.get 5 = .ref gb 0:=(hF3 5 (by simp)).trans (by simp +decide only [GS,g5])
 have HT:F3.get 26 = a:=(hF3 26 (by simp)).trans (by simp +decide only [GS,g26])
 have Wb:F3.get 27 = c27:=(hF3 27 (by simp)).trans (by simp +decide only [GS,g27])
 have Wa:F3.get 28 = .int .i64 (i:Int):=(hF3 28 (by simp)).trans (by simp +decide only [GS,g28])
 have q7:F3.get 7 = .ref y 0:=(hF3 7 (by simp)).trans (by simp +decide only [GS])
 have hX3:(X ++ [gO r]).length <= 1001:=by rw [Z7]; simp only [Z0,ZN]; omega
 subst hREST
 generalize X ++ [gO r] = X3 at *
 generalize keys A [gO r] = A3 at *
 have kr:=fun (Y:Sg)=>Qp (Z:=Y) h h' (s:=r.name)
 rw [Ln]
 simp only [aA,Tryz.f13,KP,Ax.loadAt,↓reduceIte,reduceLT,reduceCtorEq,h.a_,h.bK,cutAt,q7,hy3,l1]
 refine aV (fun j F Y=>F.get 0 = a /\ F.get 5 = .ref gb 0 /\ F.get 26 = a /\ F.get 27 = c27 /\ F.get 28 = .int .i64 (i:Int) /\ F.get 7 = .ref y 0 /\ F.get 50 = p1 /\ F.get 51 = .int .i64 (r.ins.length:Int) /\ F.get 52 = .int .i64 (j:Int) /\ Y[y]? = some (O.cells 46 [.str r.name,p1,p2,p3,p4] true) /\ ∃ A L3 L4,nL E Y gb m0 m1 sa ma b3 b4 (es0 ++ [(.str r.name,v)]) es1 A L3 L4 /\ vB X3 (P ++ (r.ins.take j).map (fun f=>(((true,r.name):aI),((false,f):aI)))) A L3 L4) r.ins.length ?_ ?_ r.ins.length 0 _ _ (by omega) (AH (by simp +decide only [GS,q0,q5,HT,Wb,Wa,q7,Z5]) ⟨hy3,A3,L3,L4,ga3,by rw [jf,map_nil,cw]; exact li3⟩)
 ·rintro j F Y hj ⟨g0,g5,g26,g27,g28,g7,g50,g51,g52,hy,A,L3,L4,ga,li⟩ next
  obtain ⟨s,hsj⟩:∃ y,r.ins[j]? = some y:=⟨_,AT hj⟩
  obtain ⟨g',e2⟩:=gI h i1 hsj
  have hlt:=dZ hj
  have hadd:=bY j (by omega)
  have hPl:(P ++ (r.ins.take j).map (fun f=>(((true,r.name):aI),((false,f):aI)))).length <= 100010:=by rw [Z7,ZS,ZW]; omega
  have kf:=fun (Y:Sg)=>Kf (Z:=Y) h h' (s:=s)
  rw [aG]
  simp only [KP,Ax.loadAt,↓reduceIte,reduceEqDiff,reduceLT,reduceCtorEq,h.dG,h.bK,g5,g7,g50,g51,g52,hlt,e2,hy,kr,kf]
  refine aP (OE h h' hl ga (x:=(true,r.name)) (y:=(false,s)) (by have:=li.NQ; omega) (fun e he=>by have:=li.NS e he; omega) (fun e he=>by have:=li.NR e he; omega)) ?_
  rintro v2 τ' ⟨rfl,L3',L4',ga',gr3,gr4,kc⟩
  simp only [KP,↓reduceIte,reduceEqDiff,reduceLT,g52,hadd]
  refine next _ _ (AH (by simp +decide only [GS,g0,g5,g26,g27,g28,g7,g50,g51,Z5]) ⟨kc _ _ _ _ hy,_,L3',L4',ga',?_⟩)
  rw [Ic hsj,<- ag]
  exact li.link gr3 gr4
 rintro F Y ⟨g0,g5,g26,g27,g28,g7,g50,g51,g52,hy,A,L3,L4,ga,li⟩
 rw [Z6 (Z1 _)] at li
 have hPl:(P ++ r.ins.map (fun f=>(((true,r.name):aI),((false,f):aI)))).length <= 100010:=by rw [Z7,ZS]; omega
 rw [aG]
 have hlt:=d_ (ZT r.ins.length)
 simp only [KP,Ax.loadAt,↓reduceIte,reduceEqDiff,reduceLT,reduceCtorEq,h.a_,h.bK,g51,g52,hlt,g7,hy,l2]
 generalize hP2:P ++ r.ins.map (fun f=>(((true,r.name):aI),((false,f):aI))) = P2 at *
 refine aV (fun j F Y=>F.get 0 = a /\ F.get 5 = .ref gb 0 /\ F.get 26 = a /\ F.get 27 = c27 /\ F.get 28 = .int .i64 (i:Int) /\ F.get 7 = .ref y 0 /\ F.get 65 = p2 /\ F.get 66 = .int .i64 (r.outs.length:Int) /\ F.get 67 = .int .i64 (j:Int) /\ Y[y]? = some (O.cells 46 [.str r.name,p1,p2,p3,p4] true) /\ ∃ es1 get A L3 L4,nL E Y gb m0 m1 sa ma b3 b4 (es0 ++ [(.str r.name,v)]) es1 A L3 L4 /\ vB X3 (P2 ++ (r.outs.take j).map (fun f=>(((false,f):aI),((true,r.name):aI)))) A L3 L4 /\ SM E es1 get /\ Dk es1 /\ MK get (fun k n=>Pm k n \/ (k ∈ r.outs.take j /\ n = r.name))) r.outs.length ?_ ?_ r.outs.length 0 _ _ (by omega) (AH (by simp +decide only [GS,g0,g5,g26,g27,g28,g7,Z5]) ⟨hy,es1,get,A,L3,L4,ga,by rw [jf,map_nil,cw]; exact li,hsm,hsv,hmk.congr fun k n=>by simp⟩)
 ·rintro j F Y hj ⟨g0,g5,g26,g27,g28,g7,g65,g66,g67,hy,es1,get,A,L3,L4,ga,li,hsm,hsv,hmk⟩ next
  obtain ⟨s,hsj⟩:∃ y,r.outs[j]? = some y:=⟨_,AT hj⟩
  obtain ⟨g',e2⟩:=gI h i2 hsj
  have hlt:=dZ hj
  have hadd:=bY j (by omega)
  have hPl2:(P2 ++ (r.outs.take j).map (fun f=>(((false,f):aI),((true,r.name):aI)))).length <= 100020:=by rw [Z7,ZS,ZW]; omega
  have kf:=fun (Y:Sg)=>Kf (Z:=Y) h h' (s:=s)
  rw [aG]
  simp only [KP,Ax.loadAt,↓reduceIte,reduceEqDiff,reduceLT,reduceCtorEq,h.dG,h.bK,aU d18,bM,g5,g7,g65,g66,g67,hlt,e2,hy,kr,kf]
  refine aP (OE h h' hl ga (x:=(false,s)) (y:=(true,r.name)) (by have:=li.NQ; omega) (fun e he=>by have:=li.NS e he; omega) (fun e he=>by have:=li.NR e he; omega)) ?_
  rintro v2 τ' ⟨rfl,L3',L4',ga',gr3,gr4,kc⟩
  have hy':=kc _ _ _ _ hy
  have hg':=ga'.g
  obtain ⟨es1',hu,hsm',hsv'⟩:=Pn h ga'.jA hsm hsv s r.name
  have ga2:=ga'.ND es1'
  simp only [KP,Ax.loadAt,↓reduceIte,reduceEqDiff,reduceLT,reduceCtorEq,h.dG,h.bK,h.FU,aU d19,bM,h'.wT,g5,g7,g67,hadd,hy',hg',hu]
  refine next _ _ (AH (by simp +decide only [GS,g0,g5,g26,g27,g28,g7,g65,g66,Z5]) ⟨Lb.dR.ET ga'.jA _ _ _ _ hy',es1',_,_,L3',L4',ga2,?_,hsm',hsv',(hmk.put s r.name).congr fun k n=>?_⟩)
  ·rw [FY hsj,<- ag]
   exact li.link gr3 gr4
  ·rw [fO hsj k]
   constructor
   ·rintro ((h1 | h1) | h1)
    ·exact .inl h1
    ·exact .inr ⟨.inl h1.1,h1.2⟩
    ·exact .inr ⟨.inr h1.1,h1.2⟩
   ·rintro (h1 | ⟨h1 | h1,h2⟩)
    ·exact .inl (.inl h1)
    ·exact .inl (.inr ⟨h1,h2⟩)
    ·exact .inr ⟨h1,h2⟩
 rintro F Y ⟨g0,g5,g26,g27,g28,g7,g65,g66,g67,hy,es1,get,A,L3,L4,ga,li,hsm,hsv,hmk⟩
 rw [Z6 (Z1 _)] at li hmk
 rw [aG]
 have hlt:=d_ (ZT r.outs.length)
 simp only [KP,↓reduceIte,reduceLT,g66,g67,hlt]
 refine hk _ _ _ _ _ _ _ _ (by simp +decide only [GS,g0]) (by simp +decide only [GS,g5]) (by simp +decide only [GS,g26]) (by simp +decide only [GS,g27]) (by simp +decide only [GS,g28]) ga ?_ hrm hsm hsv hmk
 unfold dU
 rw [<- ag,hP2]
 exact li
end
end
section
section
variable {E:Env} {Z:Sg} {K:V -> Sg -> Prop}
theorem Eg {rs:List aC} {i:Nat} {r:aC} (hr:rs[i]? = some r):(rs.take (i + 1)).flatMap dU = (rs.take i).flatMap dU ++ dU r /\ (rs.take (i + 1)).map gO = (rs.take i).map gO ++ [gO r]:=by
 rw [bh,hr]
 simp
theorem nw_c (h:bH E) (h':pV E) (hl:Lb.cQ E) {a:V} {rs:List aC} (ia:IS eC a rs) (hs:∀ x ∈ rs,Small x) (hsh:Ev rs) (hlen:rs.length <= 1000) (F:FT) (g0:F.get 0 = a) {K:V -> Sg -> Prop}
  (hk:∀ Y gb ma b3 b4 es0 es1 get A L3 L4,nL E Y gb 0 1 2 ma b3 b4 es0 es1 A L3 L4 -> vB (rs.map gO) (rs.flatMap dU) A L3 L4 -> RM es0 rs -> SM E es1 get -> Dk es1 -> MK get (Mk rs) -> K (.ref gb 0) Y):Ax.R E (cutAt [1,1] (aA Tryz.f13).code) [] ⟨88,F⟩ [] (mE E (aA Tryz.f13).results K):=by
 have la:=cV h ia
 have inner:=fun {Y gb ma b3 b4 es0 es1 A L3 L4} ga {X P} li hX hP {i r g p1 p2 p3 p4} e1 i1 i2 i3 i4 hs {rs2} ha hn {get Pm} hsm hsv hmk F g0 g5 g26 g27 g28 st Q hk=>Nr (Y:=Y) (gb:=gb) (m0:=0) (m1:=1) (sa:=2) (ma:=ma) (b3:=b3) (b4:=b4) (es0:=es0) (es1:=es1) (A:=A) (L3:=L3) (L4:=L4) (X:=X) (P:=P) (a:=a) (c27:=.int .i64 (rs.length:Int)) (i:=i) (r:=r) (g:=g) (p1:=p1) (p2:=p2) (p3:=p3) (p4:=p4) (rs:=rs2) (get:=get) (Pm:=Pm) h h' hl ga li hX hP e1 i1 i2 i3 i4 hs ha hn hsm hsv hmk F g0 g5 g26 g27 g28 (st:=st) (Q:=Q) hk
 rw [show cutAt [1,1] (aA Tryz.f13).code = .seq (cutAt [1,1,0] (aA Tryz.f13).code) (.seq (.seq (cutAt [1,1,1,0,0] (aA Tryz.f13).code) (.block 0 (.loop (.seq (cutAt [1,1,1,0,1,2,2,0] (aA Tryz.f13).code) (.seq (cutAt [1,1,1,0,1,2,2,1,0] (aA Tryz.f13).code) (.seq (.block 1 (cutAt [1,1,1,0,1,2,2,1,1,0,2] (aA Tryz.f13).code)) (cutAt [1,1,1,0,1,2,2,1,1,1] (aA Tryz.f13).code))))))) (cutAt [1,1,1,1] (aA Tryz.f13).code)) from rfl]
 generalize cutAt [1,1,1,0,1,2,2,1,1,0,2] (aA Tryz.f13).code = B at inner ⊢
 simp only [aA,Tryz.f13,KP,↓reduceIte,reduceLT,cutAt]
 refine aP (Lb.OK hl (Z:=[.map [],.map []]) (v:=.aD) (l:=[]) (.inl ⟨rfl,rfl⟩) (by simp)) ?_
 rintro v τ1 ⟨m,rfl,hset,hlt,nW⟩
 have k0:=nW 0 _ rfl
 have k1:=nW 1 _ rfl
 have hs2:Lb.cR τ1 2 m []:=hset
 have hlt:2 < m:=hlt
 have hml:=(AI.1 hs2.map).1
 simp only [KP,↓reduceIte,reduceEqDiff,reduceLT,reduceAdd,reduceCtorEq,h.FU,Ax.fill,Ax.placeOf,hl.tA,h'.wT,h'.St,h'.vQ,g0,la]
 have ga0:nL E (τ1 ++ [.map []] ++ [.map []] ++ [.cells 94 [.mp 0,.mp 1,.ref 2 0,.mp τ1.length,.mp (τ1 ++ [O.map []]).length] true]) (τ1 ++ [O.map []] ++ [O.map []]).length 0 1 2 m τ1.length (τ1 ++ [O.map []]).length [] [] [] [] []:=by
  refine ⟨aK,aN (aN (aN k0)),aN (aN (aN k1)),cR.app (cR.app (cR.app hs2 _) _) _,⟨aN (aN aK),(fun e he=>by cases he),nodup_nil⟩,⟨aN aK,(fun e he=>by cases he),nodup_nil⟩,?_⟩
  rw [Z7]
  simp only [map_nil,cw,ay,By,ZY,bt,lg,Z0,ZN,ju,nodup_nil,ai]
  omega
 generalize τ1 ++ [.map []] ++ [.map []] ++ [.cells 94 [.mp 0,.mp 1,.ref 2 0,.mp τ1.length,.mp (τ1 ++ [O.map []]).length] true] = τ2 at *
 generalize (τ1 ++ [O.map []] ++ [O.map []]).length = gb at *
 generalize (τ1 ++ [O.map []]).length = b4 at *
 generalize τ1.length = b3 at *
 refine aV (fun i F Y=>F.get 0 = a /\ F.get 5 = .ref gb 0 /\ F.get 26 = a /\ F.get 27 = .int .i64 (rs.length:Int) /\ F.get 28 = .int .i64 (i:Int) /\ ∃ es0 es1 get A L3 L4,nL E Y gb 0 1 2 m b3 b4 es0 es1 A L3 L4 /\ vB ((rs.take i).map gO) ((rs.take i).flatMap dU) A L3 L4 /\ RM es0 (rs.take i) /\ SM E es1 get /\ Dk es1 /\ MK get (Mk (rs.take i))) rs.length ?_ ?_ rs.length 0 _ _ (by omega) (iJ (by simp +decide only [GS,g0,Z5]) ⟨[],[],fun _=>none,[],[],[],ga0,vB.nil,.nil,Ir,(fun e he=>by cases he),MK.nil.congr fun k n=>⟨fun h=>h.elim,fun ⟨q,hq,_⟩=>by cases hq⟩⟩)
 ·rintro i F Y hi ⟨g0,g5,g26,g27,g28,es0,es1,get,A,L3,L4,ga,li,ha,hsm,hsv,hmk⟩ next
  obtain ⟨r,hr⟩:∃ y,rs[i]? = some y:=⟨_,AT hi⟩
  obtain ⟨g,p1,p2,p3,p4,e1,i1,i2,i3,i4⟩:=fF h ia hr
  have hrm:=Z2 hr
  have hlt:=dZ hi
  have hadd:=bY i (by omega)
  have hnn:∀ q ∈ rs.take i,q.name ≠ r.name:=fun q hq e=>by
   obtain ⟨j,hj⟩:=cr.1 hq
   have hji:j < i:=by have:=(AI.1 hj).1; rw [ZW] at this; omega
   rw [br hji] at hj
   have:=hsh.nodup j i q r hj hr e
   omega
  have hXl:((rs.take i).map gO).length <= 1000:=by rw [ZS,ZW]; omega
  have hPl:((rs.take i).flatMap dU).length <= 100000:=by
   have:=pC (rs.take i) fun q hq=>hs q (ik hq)
   rw [ZW] at this
   omega
  rw [aG]
  simp only [KP,↓reduceIte,reduceLT,g27,g28,hlt]
  refine inner ga li hXl hPl e1 i1 i2 i3 i4 (hs r hrm) ha hnn hsm hsv hmk _ ?_ ?_ ?_ ?_ ?_ _ _ (fun F2 τ2 es0' es1' get' A' L3' L4' q0 q5 HT Wb Wa ga' li' ha' hsm' hsv' hmk'=>?_)
  ·simp +decide only [GS,g0]
  ·simp +decide only [GS,g5]
  ·simp +decide only [GS,g26]
  ·simp +decide only [GS,g27]
  ·simp +decide only [GS,g28]
  simp only [KP,↓reduceIte,reduceLT,Wa,hadd]
  refine next _ _ (iJ (by simp +decide only [GS,q0,q5,HT,Wb,Z5]) ⟨es0',es1',get',A',L3',L4',ga',?_,?_,hsm',hsv',hmk'.congr fun k n=>(KH hr k n).symm⟩)
  ·rw [(Eg hr).1,(Eg hr).2]; exact li'
  ·rw [bh,hr]; exact ha'
 ·rintro F Y ⟨g0,g5,g26,g27,g28,es0,es1,get,A,L3,L4,ga,li,ha,hsm,hsv,hmk⟩
  rw [Z6 (Z1 _)] at li ha hmk
  have hlt:=d_ (ZT rs.length)
  rw [aG]
  simp only [KP,↓reduceIte,reduceEqDiff,reduceLT,g5,g27,g28,hlt]
  exact hk _ _ _ _ _ _ _ _ _ _ _ ga li ha hsm hsv hmk
end
end
section
section
variable {E:Env} {Z:Sg} {K:V -> Sg -> Prop}
def u_ (ks:List aI):V:=.cW false [.imp false (Lb.mD ks)]
def zX (e:dA):V × V:=(jR e.key,u_ e.ks)
def gV (es0 es1:List (V × V)) (A:List aI) (L3 L4:List dA):V:=.cW false [.imp false es0,.imp false es1,u_ A,.imp false (L3.map zX),.imp false (L4.map zX)]
structure Ml (E:Env) (rs:List aC) (es0 es1:List (V × V)) (get:bC -> Option V) (A:List aI) (L3 L4:List dA):Prop where
 rules:RM es0 rs
 sm:SM E es1 get
 sv:Dk es1
 ND:MK get (Mk rs)
 li:vB (rs.map gO) (rs.flatMap dU) A L3 L4
 nA:A.Nodup
 n3:(L3.map dA.key).Nodup
 n4:(L4.map dA.key).Nodup
 k3:∀ e ∈ L3,e.ks.Nodup
 k4:∀ e ∈ L4,e.ks.Nodup
def Ex (E:Env) (rs:List aC) (v:V):Prop:=∃ es0 es1 get A L3 L4,v = gV es0 es1 A L3 L4 /\ Ml E rs es0 es1 get A L3 L4
theorem B_ {α β γ:Type} {f:β -> Option γ} {g:α -> β} {k:α -> γ}:∀ {l:List α},(∀ x ∈ l,f (g x) = some (k x)) -> aW f (l.map g) = some (l.map k)
 | [],_=>rfl
 | x :: l,h=>by rw [ZQ,aW,h x (IN ..),B_ fun y hy=>h y (OF _ hy)]; rfl
theorem BM {Z:Sg} {b m n:Nat} {ks:List aI} (hs:Lb.cR Z b m ks):bO Z E.ty false (n + 3) (.ref b 0) = some (u_ ks):=by
 have e1:bO Z E.ty false (n + 2) (.mp m) = some (.imp false (Lb.mD ks)):=by
  rw [bO]
  simp only [hs.map]
  rw [Lb.GK (Lb.mD ks)]
  intro e he
  obtain ⟨k,_,rfl⟩:=ah.1 he
  rfl
 rw [bO]
 simp only [hs.obj,cn]
 show (match aW (fun v=>match bO Z E.ty false (n + 2) v with
  | some v=>if cH false v then some v else no "snap: borrowed"
  | none=>none) [V.mp m] with
  | some l=>some (V.cW false l)
  | none=>none) = _
 simp only [aW,e1]
 rfl
theorem BL {Z:Sg} {b n:Nat} {L:List dA} (hm:iO Z b L):bO Z E.ty false (n + 4) (.mp b) = some (.imp false (L.map zX)):=by
 rw [bO]
 simp only [hm.map]
 rw [B_ (k:=zX) fun e he=>?_]
 have h1:=BM (E:=E) (n:=n) (hm.sets e he)
 have hp:(jR e.key).cells.all Ax.plainCell = true:=rfl
 show (if (jR e.key).cells.all Ax.plainCell = true then (match (match bO Z E.ty false (n + 3) (.ref e.s 0) with
   | some v=>if cH false v then some v else no "snap: borrowed"
   | none=>none) with
   | some v=>some (jR e.key,v)
   | none=>none) else none) = _
 rw [ZO hp,h1]
 rfl
theorem Gc {Z:Sg} {b n:Nat} {es:List (V × V)} {rs:List aC} (hb:Z[b]? = some (.map es)) (ha:RM es rs):bO Z E.ty false (n + 2) (.mp b) = some (.imp false es):=by
 rw [bO]
 simp only [hb]
 rw [gK fun e he=>?_]
 obtain ⟨r,-,e1,a,b,c,d,e2,i1,i2,i3,i4⟩:=ha.mem he
 obtain ⟨k,v⟩:=e
 dsimp only at e1 e2
 subst e1 e2
 have hp:(V.str r.name).cells.all Ax.plainCell = true:=rfl
 have q:∀ c:V,Ax.bD c = true -> bO Z E.ty false (n + 1) c = some c:=fun c h1=>iW h1
 have t0:cH false (V.str r.name) = true:=rfl
 simp only [hp,ZP,aW,q (.str r.name) rfl,q a i1.is.bD,q b i2.is.bD,q c i3.is.bD,q d i4.is.bD,t0,i1.tag,i2.tag,i3.tag,i4.tag]
theorem Iq {Z:Sg} {b n:Nat} {es:List (V × V)} {get:bC -> Option V} (hb:Z[b]? = some (.map es)) (hs:SM E es get) (hv:Dk es):bO Z E.ty false (n + 2) (.mp b) = some (.imp false es):=by
 rw [bO]
 simp only [hb]
 rw [gK fun e he=>?_]
 obtain ⟨k,e1⟩:=(hs.1 e he).1
 obtain ⟨m,e2⟩:=hv e he
 obtain ⟨a,v⟩:=e
 dsimp only at e1 e2
 subst e1 e2
 rfl
theorem Ip {Z:Sg} {gb m0 m1 sa ma b3 b4:Nat} {es0 es1:List (V × V)} {get:bC -> Option V} {A:List aI} {L3 L4:List dA} {rs:List aC} (ga:nL E Z gb m0 m1 sa ma b3 b4 es0 es1 A L3 L4) (ha:RM es0 rs) (hs:SM E es1 get) (hv:Dk es1):cK Z E.ty false (.ref gb 0) = some (gV es0 es1 A L3 L4):=by
 have s0:=Gc (E:=E) (n:=9) ga.rules ha
 have s1:=Iq (E:=E) (n:=9) ga.jA hs hv
 have s2:=BM (E:=E) (n:=8) ga.all
 have s3:=BL (E:=E) (n:=7) ga.jP
 have s4:=BL (E:=E) (n:=7) ga.jH
 have e:bO Z E.ty false 12 (.ref gb 0) = some (gV es0 es1 A L3 L4):=by
  rw [bO]
  simp only [ga.g,cn]
  show (match aW (fun v=>match bO Z E.ty false 11 v with
   | some v=>if cH false v then some v else no "snap: borrowed"
   | none=>none) [V.mp m0,V.mp m1,V.ref sa 0,V.mp b3,V.mp b4] with
   | some l=>some (V.cW false l)
   | none=>none) = _
  simp only [aW,s0,s1,s2,s3,s4]
  rfl
 show (match bO Z E.ty false 12 (.ref gb 0) with
  | some v=>if cH false v then some v else no "snap: borrowed"
  | none=>none) = _
 rw [e]
 rfl
theorem Jb (h:bH E) (h':pV E) (hl:Lb.cQ E) {a:V} {rs:List aC} (ha:LS eC 46 Z a rs) (hs:∀ x ∈ rs,Small x) (hlen:rs.length <= 4294967296):aB E 13 [a] Z fun v σ'=>σ' = Z /\ ((¬ mX rs /\ v = .fP) \/ (mX rs /\ Ex E rs v)):=by
 obtain ⟨a',ea,ia⟩:=eX h ha
 rw [aH h'.hs13 h'.MR h'.fn13 h'.md13 (args':=[a']) (by simp only [aW,ea]),aX (by kernel_rfl)]
 have key:=fun hsh hlen F g0 hk=>nw_c (a:=a') (rs:=rs) h h' hl ia hs hsh hlen F g0 (K:=fun v σ1=>match cK σ1 E.ty false v with
   | some v=>((¬ mX rs /\ v = .fP) \/ (mX rs /\ Ex E rs v))
   | none=>False) hk
 rw [show (aA Tryz.f13).code = .seq (cutAt [0] (aA Tryz.f13).code) (.seq (cutAt [1,0] (aA Tryz.f13).code) (cutAt [1,1] (aA Tryz.f13).code)) from rfl]
 generalize cutAt [1,1] (aA Tryz.f13).code = C at key ⊢
 simp only [aA,Tryz.f13,KP,↓reduceIte,reduceLT,reduceCtorEq,cutAt]
 refine aP (Uz h (ia.ls _ 46) hs hlen) ?_
 rintro v σ' ⟨rfl,e,nm,rfl,hE⟩
 by_cases he:e = 0
 ·have q:=BY he
  have hr:=hE.zero.1 he
  have hg:=rY hr.1
  have h40:=hg.len
  simp only [KP,↓reduceIte,reduceEqDiff,reduceLT,q]
  refine key hg.short (cm h40 (by decide)) _ ?_ ?_
  ·simp +decide only [GS]
  intro Y gb ma b3 b4 es0 es1 get A L3 L4 ga li ha hsm hsv hmk
  rw [Ip ga ha hsm hsv]
  exact .inr ⟨hr,es0,es1,get,A,L3,L4,rfl,ha,hsm,hsv,hmk,li,ga.all.nodup,ga.jP.nodup,ga.jH.nodup,fun e he=>(ga.jP.sets e he).nodup,fun e he=>(ga.jH.sets e he).nodup⟩
 ·have q:=AS he
  simp only [KP,↓reduceIte,reduceEqDiff,reduceLT,q]
  exact .inl ⟨mt hE.zero.2 he,rfl⟩
end
end
section
structure Dn (E:Env):Prop where
 hs58:E.hspec 58 = none
 sp58:E.spec 58 = none
 fn58:E.fn 58 = some (aA Tryz.f58)
 md58:E.mode 58 = .eW
 hs71:E.hspec 71 = none
 sp71:E.spec 71 = none
 fn71:E.fn 71 = some (aA Tryz.f71)
 md71:E.mode 71 = .eW
 hs57:E.hspec 57 = none
 sp57:E.spec 57 = none
 fn57:E.fn 57 = some (aA Tryz.f57)
 md57:E.mode 57 = .eW
 RZ:E.hspec 110 = none
 RR:E.spec 110 = none
 R3:E.fn 110 = some (aA Tryz.f110)
 RV:E.mode 110 = .eW
 Zq:aL E (cutAt [1,1,0] (aA Tryz.f58).code) = true
 Zl:aL E (cutAt [1,1,0] (aA Tryz.f71).code) = true
 Zs:aL E (cutAt [1,0,2,0] (aA Tryz.f57).code) = true
 Zr:aL E (cutAt [1,0,2,1,1,1,1,0] (aA Tryz.f57).code) = true
section
variable {E:Env} {Z:Sg} {K:V -> Sg -> Prop}
def C0 (v:V) (l:List aI):Prop:=(v = .aD /\ l = []) \/ ∃ full,v = .bS false (l.map row) full
theorem C0.lv {v:V} {l:List aI} (h:C0 v l):Lb.LV v l:=h.imp id fun ⟨f,e⟩=>⟨false,f,e⟩
def CX (ks:List aI):Prop:=ks.length <= 1000000 /\ ∀ k ∈ ks,k.2.length <= 9223372036854775807
theorem DF:∀ l:List aI,Ax.rows 2 l.length (l.flatMap row) = l.map row
 | []=>rfl
 | x :: l=>by
  rw [Z0,fh,Ax.rows,ZQ]
  have h1:(row x ++ l.flatMap row).take 2 = row x:=rfl
  have h2:(row x ++ l.flatMap row).drop 2 = l.flatMap row:=rfl
  rw [h1,h2,DF l]
theorem KZ (hl:Lb.cQ E) {Z:Sg} {j:Nat} {l:List aI} {ex:Bool} (hj:Z[j]? = some (.cells 51 (l.flatMap row) ex)):∃ v',cK Z E.ty false (.sl j 0 l.length none) = some v' /\ C0 v' l:=by
 have hlen:(l.flatMap row).length = l.length * 2:=Lb.pR l
 obtain ⟨full,e⟩:=BK (g:=false) (n:=l.length) hj hl.cP (show l.length * 2 <= _ by omega) (fun c hc=>by
  rw [show (l.flatMap row).take (l.length * 2) = l.flatMap row from Z6 (by omega)] at hc
  obtain ⟨x,-,hx⟩:=jb.1 hc
  unfold row at hx
  simp only [By,ZY,bt] at hx
  rcases hx with rfl | rfl <;> exact ⟨rfl,rfl⟩)
 refine ⟨_,e,.inr ⟨full,?_⟩⟩
 show V.bS false (Ax.rows 2 l.length ((l.flatMap row).take (l.length * 2))) full = _
 rw [Z6 (by omega),DF]
theorem C8 (hl:Lb.cQ E) {Z σ':Sg} {r:V} {l:List aI} (h:Lb.Own Z σ' r l):∃ v',cK σ' E.ty false r = some v' /\ C0 v' l:=by
 rcases h with ⟨rfl,rfl⟩ | ⟨j,-,rfl,hj⟩
 ·exact ⟨.aD,rfl,.inl ⟨rfl,rfl⟩⟩
 ·exact KZ hl hj
theorem Il {ks:List aI} (hn:ks.Nodup) (hs:CX ks) {j:Nat} {g:Bool} (hj:Z[j]? = some (.cells 76 [.imp g (Lb.mD ks)] true)) :
  kZ 51 [148] [] 109 [.fn 148 [] [.ref j 0],.fn 109 [] []] Z = some (if ks = [] then (.aD,Z) else (.sl Z.length 0 ks.length none,Z ++ [.cells 51 ((setOf ks).flatMap row) false])):=by
 have hk:keysOf Z [148] [] (.fn 148 [] [.ref j 0]) = some (ks.map row):=by
  unfold keysOf
  simp only [hj]
  exact ZL some (Lb.DG ks)
 show pQ 51 [148] [] kY qR (.fn 148 [] [.ref j 0]) Z = _
 unfold pQ
 rw [hk]
 cases hks:ks with
 | nil=>rfl
 | cons k r=>
  have ha:=Lb.wN ks hs.2
  have hk2:=Dx hn
  have hlen:=hs.1
  rw [hks] at ha hk2 hlen
  rw [ZQ] at ha hk2 ⊢
  rw [ZM (by simp)]
  show (match allRows kY (row k :: r.map row),Nat.ble (row k :: r.map row).length 1000000 with
   | true,true=>some (V.sl Z.length 0 (row k :: r.map row).length none,Z ++ [O.cells 51 (kL qR (row k :: r.map row)).flatten false])
   | _,_=>none) = _
  rw [ha,ja (by simpa using hlen),hk2,Lb.Hh]
  simp
theorem Ry (hl:Lb.cQ E) (h:bH E) {g:Bool} {es:List (V × V)}:aB E 108 [.imp g es] Z K = K (.fn 148 [] [.ref Z.length 0]) (Z ++ [.cells 76 [.imp g es] true]):=by
 refine aB.of ?_
 rw [dF hl.R1 hl.RS hl.R4 hl.RW,aX (by kernel_rfl)]
 simp only [aA,Tryz.f108,KP,↓reduceIte,reduceEqDiff,reduceLT,hl.uZ]
theorem UA (hl:Lb.cQ E) (h:bH E) {g g':Bool} {ks:List aI} (hn:ks.Nodup) (hsm:CX ks):aB E 54 [.cW g [.imp g' (Lb.mD ks)]] Z fun r σ'=>Lb.Own Z σ' r (setOf ks):=by
 rw [dF hl.XC hl.U2 hl.Ys hl.WE,aX (by kernel_rfl)]
 have kk:=dK fun K=>Ry (Z:=Z) (K:=K) hl h (g:=g') (es:=Lb.mD ks)
 simp only [aA,Tryz.f54,KP,Ax.loadAt,↓reduceIte,reduceLT,reduceCtorEq,hl.uZ,hl.uY,hl.Jr,nY,kk]
 have hj:(Z ++ [O.cells 76 [.imp g' (Lb.mD ks)] true])[Z.length]? = some (.cells 76 [.imp g' (Lb.mD ks)] true):=aK
 have hsk:=Il hn hsm hj
 unfold C1
 rw [nT hl.R2,hsk]
 by_cases hks:ks = []
 ·rw [ZO hks]
  simp only [c_]
  simp only [KP,↓reduceIte,reduceLT]
  subst hks
  exact .inl ⟨rfl,rfl⟩
 ·rw [ZM hks]
  simp only [c_]
  simp only [KP,↓reduceIte,reduceLT]
  refine .inr ⟨_,?_,by rw [wZ hn],?_⟩
  ·rw [Z7]; omega
  ·exact aK
theorem Uu (hl:Lb.cQ E) (h:bH E) {g g':Bool} {ks:List aI} (x:aI):aB E 52 [.cW g [.imp g' (Lb.mD ks)],.agg [.bool x.1,.str x.2]] Z K = K (.bool (decide (x ∈ ks))) Z:=by
 refine aB.of ?_
 have hi:Ax.bD (.cW g [.imp g' (Lb.mD ks)]) = true:=rfl
 have e1:=cN (Z:=Z) (ty:=E.ty) hi (cA hi)
 have e2:aS Z E.ty true (.agg [.bool x.1,.str x.2]) = some (.agg [.bool x.1,.str x.2]):=rfl
 have d1:=hl.Zt
 simp only [aA,Tryz.f52,cutAt,Z9] at d1
 rw [aH hl.hs52 hl.sp52 hl.fn52 hl.md52 (args':=[.cW g [.imp g' (Lb.mD ks)],.agg [.bool x.1,.str x.2]]) (by simp only [aW,e1,e2]),aX (by kernel_rfl)]
 have hk:=Lb.lG hl x.1 x.2
 have hf:=Lb.B5 hl x ks
 by_cases hx:x ∈ ks
 ·simp only [aA,Tryz.f52,KP,Ax.loadAt,↓reduceIte,reduceEqDiff,reduceLT,reduceAdd,reduceCtorEq,h.EJ,h.cP,hl.uZ,hl.uY,hl.Jr,nY,aU d1,bM,Ax.lookup,hk,Ax.entriesOf,hf,hx]
  exact rfl
 ·simp only [aA,Tryz.f52,KP,Ax.loadAt,↓reduceIte,reduceEqDiff,reduceLT,reduceAdd,reduceCtorEq,h.EJ,h.cP,hl.uZ,hl.uY,hl.Jr,nY,aU d1,bM,Ax.lookup,hk,Ax.entriesOf,hf,hx]
  exact rfl
end
end
section
section
variable {E:Env} {Z:Sg} {K:V -> Sg -> Prop}
def gC (rs:List aC):List aI:=setOf (rs.map gO ++ (rs.flatMap dU).flatMap fun p=>[p.1,p.2])
def iS (rs:List aC) (x:aI):List aI:=setOf (((rs.flatMap dU).filter fun p=>decide (p.1 = x)).map Prod.snd)
def jI (rs:List aC) (x:aI):List aI:=setOf (((rs.flatMap dU).filter fun p=>decide (p.2 = x)).map Prod.fst)
theorem qO {rs:List aC} {x w:aI}:w ∈ iS rs x ↔ (x,w) ∈ rs.flatMap dU:=by
 unfold iS
 rw [iH,ah]
 constructor
 ·rintro ⟨⟨a,b⟩,h1,rfl⟩
  obtain ⟨h1,h2⟩:=kj.1 h1
  rw [<- bf h2]
  exact h1
 ·exact fun h1=>⟨(x,w),kj.2 ⟨h1,BY rfl⟩,rfl⟩
theorem zL {rs:List aC} {x w:aI}:w ∈ jI rs x ↔ (w,x) ∈ rs.flatMap dU:=by
 unfold jI
 rw [iH,ah]
 constructor
 ·rintro ⟨⟨a,b⟩,h1,rfl⟩
  obtain ⟨h1,h2⟩:=kj.1 h1
  rw [<- bf h2]
  exact h1
 ·exact fun h1=>⟨(w,x),kj.2 ⟨h1,BY rfl⟩,rfl⟩
theorem GI {rs:List aC} {x:aI}:x ∈ gC rs ↔ x ∈ rs.map gO \/ ∃ p ∈ rs.flatMap dU,x = p.1 \/ x = p.2:=by
 unfold gC
 rw [iH,aa,jb]
 refine or_congr mc (exists_congr fun p=>and_congr mc ?_)
 simp
theorem KG (rs:List aC):Up (gC rs):=m_ _
theorem B1 (rs:List aC) (x:aI):Up (iS rs x):=m_ _
theorem FO (rs:List aC) (x:aI):Up (jI rs x):=m_ _
structure Fits (rs:List aC):Prop where
 ok:mX rs
 small:∀ x ∈ rs,Small x
theorem As {s:bC} (h:bG s = true):s.length <= 40:=by
 unfold bG at h
 simp only [Z3,IT] at h
 exact h.1.2
theorem IG {s:bC} (h:bG s = true):s ≠ []:=by
 rintro rfl
 revert h
 decide
theorem Fits.form {rs:List aC} (h:Fits rs):∀ r ∈ rs,kH r = true:=fun r hr=>by
 have h0:=h.ok.1
 unfold gG at h0
 cases hf:rs.find? (fun r=>decide (bB r ≠ 0)) with
 | some q=>
  rw [hf] at h0
  have:=find?_some hf
  exact absurd h0 (bf this)
 | none=>
  have:=jc.1 hf r hr
  have h1:bB r = 0:=by
   refine Classical.byContradiction fun hne=>this (BY hne)
  unfold bB at h1
  by_cases hq:kH r = false
  ·rw [ZO hq] at h1; cases h1
  ·simpa using hq
theorem Fits.names {rs:List aC} (h:Fits rs):∀ r ∈ rs,bG r.name = true /\ (∀ f ∈ r.ins,bG f = true) /\ ∀ f ∈ r.outs,bG f = true:=fun r hr=>by
 have:=h.form r hr
 rw [Ec] at this
 simp only [Z3,bl] at this
 exact ⟨this.1.1.1.1.1,this.1.1.1.2,this.1.1.2⟩
theorem Fits.pair {rs:List aC} (h:Fits rs) {p:aI × aI} (hp:p ∈ rs.flatMap dU):bG p.1.2 = true /\ bG p.2.2 = true:=by
 obtain ⟨r,hr,hp⟩:=jb.1 hp
 obtain ⟨h1,h2,h3⟩:=h.names r hr
 unfold dU at hp
 rcases aa.1 hp with hp | hp
 ·obtain ⟨f,hf,rfl⟩:=ah.1 hp
  exact ⟨h1,h2 f hf⟩
 ·obtain ⟨f,hf,rfl⟩:=ah.1 hp
  exact ⟨h3 f hf,h1⟩
theorem Fits.len {rs:List aC} (h:Fits rs):rs.length <= 40:=(rY h.ok.1).len
theorem Fits.Tk {rs:List aC} (h:Fits rs):(rs.flatMap dU).length <= 640:=by
 have:=pC rs h.small
 have:=h.len
 omega
section
variable {rs:List aC} {es0 es1:List (V × V)} {get:bC -> Option V} {A:List aI} {L3 L4:List dA}
theorem Ml.all (hi:Ml E rs es0 es1 get A L3 L4):setOf A = gC rs:=Gf fun x=>by
 rw [hi.li.all,aa,jb]
 refine or_congr mc (exists_congr fun p=>and_congr mc ?_)
 simp
theorem Fb {L:List dA} {e:dA} {x:aI} (he:bL L x = some e):qS L x = e.ks:=by unfold qS; rw [he]
theorem Ka {L:List dA} {x:aI} (he:bL L x = none):qS L x = []:=by unfold qS; rw [he]
theorem Ml.need (hi:Ml E rs es0 es1 get A L3 L4) (x:aI):setOf (qS L3 x) = iS rs x:=EI (m_ _) (B1 rs x) fun w=>by rw [iH,hi.li.need,qO]
theorem Ml.user (hi:Ml E rs es0 es1 get A L3 L4) (x:aI):setOf (qS L4 x) = jI rs x:=EI (m_ _) (FO rs x) fun w=>by rw [iH,hi.li.user,zL]
theorem Ml.Tc (hi:Ml E rs es0 es1 get A L3 L4) (hf:Fits rs) {e:dA} {x:aI} (he:bL L3 x = some e):CX e.ks:=by
 refine ⟨?_,fun k hk=>?_⟩
 ·have h1:=hi.li.NS e (fU he).1
  have h2:=hf.Tk
  omega
 ·rw [<- Fb he,hi.li.need] at hk
  have h2:k.2.length <= 40:=As (hf.pair hk).2
  omega
theorem Ml.Ta (hi:Ml E rs es0 es1 get A L3 L4) (hf:Fits rs) {e:dA} {x:aI} (he:bL L4 x = some e):CX e.ks:=by
 refine ⟨?_,fun k hk=>?_⟩
 ·have h1:=hi.li.NR e (fU he).1
  have h2:=hf.Tk
  omega
 ·rw [<- Fb he,hi.li.user] at hk
  have h2:k.2.length <= 40:=As (hf.pair hk).1
  omega
end
theorem B7 (hl:Lb.cQ E) (x:aI):∀ L:List dA,iG (dQ E 51) (jR x) (L.map zX) = some ((L.find? fun e=>decide (x = e.key)).map fun e=>u_ e.ks)
 | []=>rfl
 | e :: L=>by
  show (match dQ E 51 (.agg [.bool x.1,.str x.2]) (.agg [.bool e.key.1,.str e.key.2]) with
   | some true=>some (some (u_ e.ks))
   | some false=>iG (dQ E 51) (jR x) (L.map zX)
   | none=>none) = _
  rw [Lb.mM hl,jj]
  by_cases h:x = e.key
  ·rw [BY (show ((x.1,x.2):aI) = (e.key.1,e.key.2) from h)]; rfl
  ·rw [AS (show ¬ ((x.1,x.2):aI) = (e.key.1,e.key.2) from h)]
   exact B7 hl x L
theorem D5 (h':pV E) (hl:Lb.cQ E) {Z:Sg} {g:Bool} {L:List dA} (x:aI):lookup E Z 92 (.imp g (L.map zX)) (.agg [.bool x.1,.str x.2]) false = some (match bL L x with | some e=>u_ e.ks | none=>.fP):=by
 have hk:=Lb.lG hl x.1 x.2
 unfold Ax.lookup
 simp only [h'.vQ,hl.tA,hk,entriesOf,aq,Z4,ZK]
 have:=B7 hl x L
 unfold jR at this
 rw [this]
 unfold bL
 cases L.find? fun e=>decide (x = e.key) <;> rfl
theorem ZA (h:bH E) (h':pV E) (hl:Lb.cQ E) (q:Dn E) {ks:List aI} (hn:ks.Nodup) (hs:CX ks):aB E 110 [u_ ks] Z fun v σ'=>σ' = Z /\ C0 v (setOf ks):=by
 have hi:Ax.bD (u_ ks) = true:=rfl
 have e1:=cN (Z:=Z) (ty:=E.ty) hi (cA hi)
 rw [aH q.RZ q.RR q.R3 q.RV (args':=[u_ ks]) (by simp only [aW,e1]),aX (by kernel_rfl)]
 simp only [aA,Tryz.f110,KP,↓reduceIte,reduceLT,reduceCtorEq,hl.tA,hl.uY,hl.AO,nY,u_]
 refine aP (UA hl h hn hs) ?_
 intro r σ' ho
 obtain ⟨v',hv,hlv⟩:=C8 hl ho
 simp only [KP,↓reduceIte,reduceLT,hv]
 exact hlv
theorem R9 (h:bH E) (h':pV E) (hl:Lb.cQ E) (q:Dn E):aB E 110 [.fP] Z fun v σ'=>σ' = Z /\ C0 v []:=by
 have e1:aS Z E.ty true .fP = some .fP:=rfl
 rw [aH q.RZ q.RR q.R3 q.RV (args':=[.fP]) (by simp only [aW,e1]),aX (by kernel_rfl)]
 simp only [aA,Tryz.f110,KP,↓reduceIte,reduceLT,reduceCtorEq,hl.tA,nY]
 exact .inl ⟨rfl,rfl⟩
theorem HC (h:bH E) (h':pV E) (hl:Lb.cQ E) (q:Dn E) {g:V} {rs:List aC} (hg:Ex E rs g) (hf:Fits rs) (x:aI):aB E 58 [g,.agg [.bool x.1,.str x.2]] Z fun v σ'=>σ' = Z /\ C0 v (iS rs x):=by
 obtain ⟨es0,es1,get,A,L3,L4,rfl,hi⟩:=hg
 have him:Ax.bD (gV es0 es1 A L3 L4) = true:=rfl
 have e1:=cN (Z:=Z) (ty:=E.ty) him (cA him)
 have e2:aS Z E.ty true (.agg [.bool x.1,.str x.2]) = some (.agg [.bool x.1,.str x.2]):=rfl
 have d3:=q.Zq
 simp only [aA,Tryz.f58,cutAt,Z9] at d3
 rw [aH q.hs58 q.sp58 q.fn58 q.md58 (args':=[gV es0 es1 A L3 L4,.agg [.bool x.1,.str x.2]]) (by simp only [aW,e1,e2]),aX (by kernel_rfl)]
 have en:nY E 27 true (.cW false [.imp false es0,.imp false es1,u_ A,.imp false (L3.map zX),.imp false (L4.map zX)]) .fP = some false:=by unfold nY; rw [h'.Su]
 have lk:=fun Z g=>D5 (Z:=Z) (g:=g) (L:=L3) h' hl x
 rw [<- hi.need]
 cases hk:bL L3 x with
 | none=>
  rw [hk] at lk
  rw [Ka hk]
  simp only [aA,Tryz.f58,KP,Ax.loadAt,↓reduceIte,reduceEqDiff,reduceLT,reduceAdd,reduceCtorEq,h.cP,h'.wT,h'.vQ,gV,en,lk,aU d3,bM]
  refine aP (R9 h h' hl q) ?_
  rintro r σ' ⟨rfl,hr⟩
  rcases hr with ⟨rfl,-⟩ | ⟨full,rfl⟩
  ·simp only [KP,↓reduceIte,reduceLT]
   exact .inl ⟨rfl,rfl⟩
  ·simp only [KP,↓reduceIte,reduceLT]
   exact .inr ⟨full,rfl⟩
 | some e=>
  rw [hk] at lk
  rw [Fb hk]
  simp only [aA,Tryz.f58,KP,Ax.loadAt,↓reduceIte,reduceEqDiff,reduceLT,reduceAdd,reduceCtorEq,h.cP,h'.wT,h'.vQ,gV,en,lk,aU d3,bM]
  refine aP (ZA h h' hl q (hi.k3 e (fU hk).1) (hi.Tc hf hk)) ?_
  rintro r σ' ⟨rfl,hr⟩
  rcases hr with ⟨rfl,h0⟩ | ⟨full,rfl⟩
  ·simp only [KP,↓reduceIte,reduceLT]
   exact .inl ⟨rfl,h0⟩
  ·simp only [KP,↓reduceIte,reduceLT]
   exact .inr ⟨full,rfl⟩
theorem OG (h:bH E) (h':pV E) (hl:Lb.cQ E) (q:Dn E) {g:V} {rs:List aC} (hg:Ex E rs g) (hf:Fits rs) (x:aI):aB E 71 [g,.agg [.bool x.1,.str x.2]] Z fun v σ'=>σ' = Z /\ C0 v (jI rs x):=by
 obtain ⟨es0,es1,get,A,L3,L4,rfl,hi⟩:=hg
 have him:Ax.bD (gV es0 es1 A L3 L4) = true:=rfl
 have e1:=cN (Z:=Z) (ty:=E.ty) him (cA him)
 have e2:aS Z E.ty true (.agg [.bool x.1,.str x.2]) = some (.agg [.bool x.1,.str x.2]):=rfl
 have d3:=q.Zl
 simp only [aA,Tryz.f71,cutAt,Z9] at d3
 rw [aH q.hs71 q.sp71 q.fn71 q.md71 (args':=[gV es0 es1 A L3 L4,.agg [.bool x.1,.str x.2]]) (by simp only [aW,e1,e2]),aX (by kernel_rfl)]
 have en:nY E 27 true (.cW false [.imp false es0,.imp false es1,u_ A,.imp false (L3.map zX),.imp false (L4.map zX)]) .fP = some false:=by unfold nY; rw [h'.Su]
 have lk:=fun Z g=>D5 (Z:=Z) (g:=g) (L:=L4) h' hl x
 rw [<- hi.user]
 cases hk:bL L4 x with
 | none=>
  rw [hk] at lk
  rw [Ka hk]
  simp only [aA,Tryz.f71,KP,Ax.loadAt,↓reduceIte,reduceEqDiff,reduceLT,reduceAdd,reduceCtorEq,h.cP,h'.wT,h'.vQ,gV,en,lk,aU d3,bM]
  refine aP (R9 h h' hl q) ?_
  rintro r σ' ⟨rfl,hr⟩
  rcases hr with ⟨rfl,-⟩ | ⟨full,rfl⟩
  ·simp only [KP,↓reduceIte,reduceLT]
   exact .inl ⟨rfl,rfl⟩
  ·simp only [KP,↓reduceIte,reduceLT]
   exact .inr ⟨full,rfl⟩
 | some e=>
  rw [hk] at lk
  rw [Fb hk]
  simp only [aA,Tryz.f71,KP,Ax.loadAt,↓reduceIte,reduceEqDiff,reduceLT,reduceAdd,reduceCtorEq,h.cP,h'.wT,h'.vQ,gV,en,lk,aU d3,bM]
  refine aP (ZA h h' hl q (hi.k4 e (fU hk).1) (hi.Ta hf hk)) ?_
  rintro r σ' ⟨rfl,hr⟩
  rcases hr with ⟨rfl,h0⟩ | ⟨full,rfl⟩
  ·simp only [KP,↓reduceIte,reduceLT]
   exact .inl ⟨rfl,h0⟩
  ·simp only [KP,↓reduceIte,reduceLT]
   exact .inr ⟨full,rfl⟩
end
end
section
section
variable {E:Env} {Z:Sg} {K:V -> Sg -> Prop}
def rQ (rs:List aC) (f:bC):Option aC:=rs.find? fun r=>decide (f ∈ r.outs)
def kindOf (rs:List aC) (x:aI):Int:=if x ∈ gC rs then (if x.1 = true then 1 else if (rQ rs x.2).isSome = true then 2 else 3) else 0
theorem lT {rs:List aC} {f:bC} {r:aC} (h:rQ rs f = some r):r ∈ rs /\ f ∈ r.outs:=⟨List.mem_of_find?_eq_some h,by have:=find?_some h; exact bf this⟩
theorem E4 {rs:List aC} {f:bC} (h:rQ rs f = none):∀ r ∈ rs,f ∉ r.outs:=fun r hr hf=>by
 have:=jc.1 h r hr
 exact this (BY hf)
theorem Ml.get {rs:List aC} {es0 es1:List (V × V)} {get:bC -> Option V} {A:List aI} {L3 L4:List dA} (hi:Ml E rs es0 es1 get A L3 L4) (hf:Fits rs) (f:bC):get f = (rQ rs f).map fun r=>V.str r.name:=by
 rcases hi.ND f with ⟨h1,h2⟩ | ⟨n,⟨r,hr,hfr,rfl⟩,h2⟩
 ·rw [h1]
  cases hm:rQ rs f with
  | none=>rfl
  | some r=>exact absurd ⟨r,(lT hm).1,(lT hm).2,rfl⟩ (h2 r.name)
 ·rw [h2]
  cases hm:rQ rs f with
  | none=>exact absurd hfr (E4 hm r hr)
  | some r'=>
   have:=(rY hf.ok.1).short.jA f r.name r'.name ⟨r,hr,hfr,rfl⟩ ⟨r',(lT hm).1,(lT hm).2,rfl⟩
   rw [this]; rfl
theorem NJ (h:bH E) {Z:Sg} {x:V} {es:List (V × V)} {get:bC -> Option V} (hx:entriesOf Z x = some es) (hs:SM E es get) (k:bC):lookup E Z 91 x (.str k) false = some (match get k with | some v=>v | none=>.str []):=by
 have hk:dX E 9 (.str k) = true:=by unfold dX; rw [h.dG]
 unfold Ax.lookup
 simp only [h.FU,h.dG,hk,hx,hs.2 k,aq,Z4,ZK]
 cases get k <;> rfl
theorem KD (h:bH E) (h':pV E) (hl:Lb.cQ E) (q:Dn E) {g:V} {rs:List aC} (hg:Ex E rs g) (hf:Fits rs) (x:aI):aB E 57 [g,.agg [.bool x.1,.str x.2]] Z K = K (.int .i64 (kindOf rs x)) Z:=by
 refine aB.of ?_
 obtain ⟨es0,es1,get,A,L3,L4,rfl,hi⟩:=hg
 have him:Ax.bD (gV es0 es1 A L3 L4) = true:=rfl
 have e1:=cN (Z:=Z) (ty:=E.ty) him (cA him)
 have e2:aS Z E.ty true (.agg [.bool x.1,.str x.2]) = some (.agg [.bool x.1,.str x.2]):=rfl
 have d1:=q.Zs
 simp only [aA,Tryz.f57,cutAt,Z9] at d1
 have d5:=q.Zr
 simp only [aA,Tryz.f57,cutAt,Z9] at d5
 rw [aH q.hs57 q.sp57 q.fn57 q.md57 (args':=[gV es0 es1 A L3 L4,.agg [.bool x.1,.str x.2]]) (by simp only [aW,e1,e2]),aX (by kernel_rfl)]
 have en:nY E 27 true (.cW false [.imp false es0,.imp false es1,.cW false [.imp false (Lb.mD A)],.imp false (L3.map zX),.imp false (L4.map zX)]) .fP = some false:=by unfold nY; rw [h'.Su]
 have kh:=fun (Y:Sg)=>dK fun K=>Uu (Z:=Y) (K:=K) hl h (g:=false) (g':=false) (ks:=A) x
 have hA:decide (x ∈ A) = decide (x ∈ gC rs):=by rw [<- hi.all]; simp only [iH]
 rw [hA] at kh
 have lk:=fun Z=>NJ (Z:=Z) (x:=.imp false es1) h rfl hi.sm x.2
 rw [hi.get hf] at lk
 have s0:∀ a b:bC,sQ .neq a b = some (.bool (!Ax.seq a b)):=fun a b=>rfl
 unfold kindOf
 by_cases hx:x ∈ gC rs
 ·rw [BY hx] at kh
  rw [ZO hx]
  cases hb:x.1 with
  | true=>
   rw [hb] at kh
   simp only [aA,Tryz.f57,KP,Ax.loadAt,↓reduceIte,reduceEqDiff,reduceLT,reduceAdd,reduceCtorEq,h.EJ,h.cP,hl.tA,hl.uY,hl.AO,h'.wT,gV,u_,en,kh,aU d1,bM]
   exact rfl
  | false=>
   rw [hb] at kh
   cases hm:rQ rs x.2 with
   | none=>
    rw [hm] at lk
    have z:Ax.seq ([]:bC) [] = true:=rfl
    simp only [aA,Tryz.f57,KP,Ax.loadAt,↓reduceIte,reduceEqDiff,reduceLT,reduceAdd,reduceCtorEq,h.EJ,h.dG,h.cP,h.FU,lB,hl.tA,hl.uY,hl.AO,h'.wT,gV,u_,en,kh,lk,s0,z,aU d1,aU d5,bM]
    exact rfl
   | some r=>
    rw [hm] at lk
    have z:Ax.seq r.name [] = false:=gD (IG (hf.names r (lT hm).1).1)
    simp only [aA,Tryz.f57,KP,Ax.loadAt,↓reduceIte,reduceEqDiff,reduceLT,reduceAdd,reduceCtorEq,h.EJ,h.dG,h.cP,h.FU,lB,hl.tA,hl.uY,hl.AO,h'.wT,gV,u_,en,kh,lk,s0,z,aU d1,aU d5,bM]
    exact rfl
 ·rw [AS hx] at kh
  rw [ZM hx]
  simp only [aA,Tryz.f57,KP,Ax.loadAt,↓reduceIte,reduceEqDiff,reduceLT,reduceAdd,reduceCtorEq,h.cP,hl.tA,hl.uY,hl.AO,h'.wT,gV,u_,en,kh,aU d1,bM]
  exact rfl
theorem RQ.ru {v:V} {x:aC} (h:RQ v x):HN v x:=by
 obtain ⟨a,b,c,d,rfl,h1,h2,h3,h4⟩:=h
 exact ⟨a,b,c,d,rfl,h1.is,h2.is,h3.is,rT h4.is rE⟩
end
end
section
section
variable {E:Env} {Z:Sg} {K:V -> Sg -> Prop}
def eU:Lay aI:=⟨fun r x=>r = row x,2,fun _ _ h=>by rw [h]; rfl,fun _ _ h c hc=>by
 rw [h] at hc
 unfold row at hc
 simp only [By,ZY,bt] at hc
 rcases hc with rfl | rfl <;> rfl⟩
theorem yO:∀ l:List aI,eP eU.P (l.map row) l
 | []=>.nil
 | x :: l=>.cons rfl (yO l)
theorem C0.Pe {v:V} {l:List aI} (h:C0 v l):jT eU v l:=h.imp id fun ⟨f,e⟩=>⟨_,f,e,yO l⟩
theorem LV.is {v:V} {l:List aI} (h:Lb.LV v l):IS eU v l:=h.imp id fun ⟨g,f,e⟩=>⟨g,_,f,e,yO l⟩
theorem rI:∀ {rs:List (List V)} {l:List aI},eP eU.P rs l -> rs = l.map row
 | _,_,.nil=>rfl
 | _,_,.cons h t=>by rw [ZQ,<- rI t,show _ = _ from h]
theorem IS.lv {v:V} {l:List aI} (h:IS eU v l):Lb.LV v l:=h.imp id fun ⟨g,rs,f,e,a⟩=>⟨g,f,by rw [e,rI a]⟩
theorem iT (h:bH E) {v:V} {l} (ia:IS eU v l) (Z:Sg):lenOf E Z 23 v = some l.length:=nM h.kI rfl (ia.ls Z 51)
theorem wL (h:bH E) {v:V} {l} (ia:IS eU v l) {i:Nat} {x} (hx:l[i]? = some x):∃ g,indexAddr E 23 v (.int .i64 (i:Int)) = some (.cW g [.bool x.1,.str x.2]):=by
 obtain ⟨g,r,h1,h2⟩:=IS.at h.kI rfl h.cP rfl ia hx
 exact ⟨g,by rw [h1,show r = row x from h2]; rfl⟩
theorem kV (h:bH E) {v:V} {l} (ha:LS eU 51 Z v l):∃ v',aS Z E.ty true v = some v' /\ IS eU v' l:=A8 h.cP rfl ha
theorem Kx (hl:Lb.cQ E) {b:Bool} (x y:aI):nY E 51 b (.agg [.bool x.1,.str x.2]) (.agg [.bool y.1,.str y.2]) = some (decide (x = y)):=by
 unfold nY
 rw [hl.cP]
 simp only [hl.QW,Ax.eqs,xC,jd,eu]
 rw [b8]
 simp only [Z3,ck,IT]
 exact ⟨fun ⟨h1,h2⟩=>Prod.ext h1 h2,fun h=>by rw [h]; exact ⟨rfl,rfl⟩⟩
theorem BI (Z:Sg) (x:aI):aS Z E.ty true (.agg [.bool x.1,.str x.2]) = some (.agg [.bool x.1,.str x.2]):=rfl
end
end
section
section
variable {E:Env} {Z:Sg} {K:V -> Sg -> Prop}
theorem RQ.snap {Y:Sg} {v:V} {x:aC} (hv:RQ v x):aS Y E.ty false v = some v:=by
 obtain ⟨a,b,c,d,rfl,h1,h2,h3,h4⟩:=hv
 have q:∀ c:V,Ax.bD c = true -> cH false c = true -> aS.one Y E.ty false c = some c:=fun c h1 h2=>by
  unfold aS.one
  rw [show dJ = 11 + 1 from rfl,iW h1]
  simp only [h2,ZP]
 show (match aW (aS.one Y E.ty false) [.str x.name,a,b,c,d] with
  | some l=>some (V.agg l)
  | none=>none) = _
 simp only [aW,q (.str x.name) rfl rfl,q a h1.is.bD h1.tag,q b h2.is.bD h2.tag,q c h3.is.bD h3.tag,q d h4.is.bD h4.tag]
theorem DY {rs:List aC} {p:aI × aI}:p ∈ rs.flatMap dU ↔ ∃ r ∈ rs,(∃ f ∈ r.ins,p = (((true,r.name):aI),((false,f):aI))) \/ ∃ f ∈ r.outs,p = (((false,f):aI),((true,r.name):aI)):=by
 rw [jb]
 refine exists_congr fun r=>and_congr mc ?_
 unfold dU
 rw [aa,ah,ah]
 exact or_congr (exists_congr fun f=>and_congr mc eq_comm) (exists_congr fun f=>and_congr mc eq_comm)
theorem JV {rs:List aC} {a b:aI} (hp:(a,b) ∈ rs.flatMap dU):a ∈ gC rs /\ b ∈ gC rs:=⟨GI.2 (.inr ⟨_,hp,.inl rfl⟩),GI.2 (.inr ⟨_,hp,.inr rfl⟩)⟩
theorem K4 {rs:List aC} (hf:Fits rs) {r r':aC} (h1:r ∈ rs) (h2:r' ∈ rs) (he:r.name = r'.name):r = r':=by
 obtain ⟨i,hi⟩:=cr.1 h1
 obtain ⟨j,hj⟩:=cr.1 h2
 have:=(rY hf.ok.1).short.nodup i j r r' hi hj he
 subst this
 rw [hi] at hj
 exact au hj
end
end
section
section
variable {E:Env} {Z:Sg} {K:V -> Sg -> Prop}
theorem uE {rs:List aC} (hf:Fits rs):(gC rs).length <= 2000:=by
 have h1:=hf.Tk
 have h2:=hf.len
 refine cm (kN (b:=rs.map gO ++ (rs.flatMap dU).flatMap fun p=>[p.1,p.2]) (KG rs).nodup fun x hx=>iH.1 hx) ?_
 have h3:∀ P:List (aI × aI),(P.flatMap fun p=>[p.1,p.2]).length = 2 * P.length:=fun P=>by
  induction P with
  | nil=>rfl
  | cons p P ih=>rw [fh,Z7,ih]; simp only [Z0,ZN]; omega
 rw [Z7,ZS,h3]
 omega
end
end
section
structure RcE (E:Env):Prop where
 hs70:E.hspec 70 = none
 sp70:E.spec 70 = none
 fn70:E.fn 70 = some (aA Tryz.f70)
 md70:E.mode 70 = .eW
 hs17:E.hspec 17 = none
 PB:E.spec 17 = none
 fn17:E.fn 17 = some (aA Tryz.f17)
 md17:E.mode 17 = .eW
 hs19:E.hspec 19 = none
 Pz:E.spec 19 = none
 fn19:E.fn 19 = some (aA Tryz.f19)
 md19:E.mode 19 = .eW
section
variable {E:Env} {Z:Sg} {K:V -> Sg -> Prop}
theorem P_ {c:Code} {s:List jG} {w:Nat} {Q:Ax.X -> Fr -> Sg -> Prop} (I:Nat -> FT -> Sg -> Prop)
  (step:∀ n F Y,I n F Y -> (∀ n' F' τ',n' < n -> I n' F' τ' -> Ax.R E (.loop c) s ⟨w,F'⟩ τ' Q) -> Ax.R E (.loop c) s ⟨w,F⟩ Y Q):∀ (n:Nat) (F:FT) (Y:Sg),I n F Y -> Ax.R E (.loop c) s ⟨w,F⟩ Y Q:=by
 intro n
 induction n using Nat.strongRecOn with
 | _ n ih=>exact fun F Y h=>step n F Y h fun n' F' τ' hn h'=>ih n' hn F' τ' h'
theorem LL {Y:Sg} {x:aI} {ex:Bool}:elems (Y ++ [.cells 51 [.bool x.1,.str x.2] ex]) 2 (.sl Y.length 0 1 none) = some ([row x].flatten,[x].length):=by
 simp only [elems,aK]
 rfl
theorem oP (hl:Lb.cQ E):iR E #[23,23] = true:=by
 unfold iR
 simp only [hl.kI,aj,ak,Z_]
 rfl
theorem Fy (hl:Lb.cQ E) {Y:Sg} {w:V} {l:List aI} {x:aI} {ex:Bool} (ow:bA eU 51 Y w l) (hb:l.length <= 1000000):∃ w' τ',Ax.append E (Y ++ [.cells 51 [.bool x.1,.str x.2] ex]) #[23,23] w (.sl Y.length 0 1 none) = some (w',τ') /\ bA eU 51 τ' w' (l ++ [x]) /\ Sp (Y ++ [.cells 51 [.bool x.1,.str x.2] ex]) τ' w /\ ∀ c,aQ w' = some c -> aQ w = some c \/ Y.length <= c:=by
 obtain ⟨w',τ',h1,h2,h3,-,h5⟩:=gT (m:=[x]) (new:=[row x]) hl.kI rfl hl.cP rfl (by decide) (oP hl) rfl (ow.app [.cells 51 [.bool x.1,.str x.2] ex]) LL (.one rfl) (dD (b:=1000001) (by decide) (by simp only [Z0,ZN]; omega))
 exact ⟨w',τ',h1,h2,h3,fun c hc=>(h5 c hc).imp id fun h=>by rw [Z7] at h; omega⟩
def Rk (nx:aI -> List aI) (s0:aI -> Prop):Nat -> aI -> Prop
 | 0,x=>s0 x
 | k + 1,x=>Rk nx s0 k x \/ ∃ y,Rk nx s0 k y /\ x ∈ nx y
def RN (nx:aI -> List aI) (s0:aI -> Prop) (bJ:Int) (x:aI):Prop:=(bJ < 0 /\ ∃ n,Rk nx s0 n x) \/ (0 <= bJ /\ Rk nx s0 bJ.toNat x)
section
variable {nx:aI -> List aI} {s0:aI -> Prop}
theorem Rk.mono {x : aI} : ∀ {k n : Nat}, k <= n -> Rk nx s0 k x -> Rk nx s0 n x
  | k, 0, h, hx => by obtain rfl : k = 0 := by omega
                      exact hx
  | k, n + 1, h, hx => by
    rcases ZZ n k with h1 | h1
    · obtain rfl : k = n + 1 := by omega
      exact hx
    · exact .inl (Rk.mono h1 hx)
theorem Rk.closed {k:Nat} (hc:∀ y x,Rk nx s0 k y -> x ∈ nx y -> Rk nx s0 k x):∀ (n:Nat) {x:aI},Rk nx s0 n x -> Rk nx s0 k x
 | 0,_,hx=>Rk.mono (dc k) hx
 | n + 1,_,.inl hx=>Rk.closed hc n hx
 | n + 1,_,.inr ⟨y,hy,hx⟩=>hc y _ (Rk.closed hc n hy) hx
structure Rd (nx:aI -> List aI) (s0:aI -> Prop) (k:Nat) (A now:List aI):Prop where
 all:∀ x,x ∈ A ↔ Rk nx s0 k x
 sub:∀ x,x ∈ now -> x ∈ A
 rest:∀ y,y ∈ A -> y ∉ now -> ∀ x,x ∈ nx y -> x ∈ A
theorem Rd.start {A now:List aI} (h1:∀ x,x ∈ A ↔ s0 x) (h2:∀ x,x ∈ now ↔ x ∈ A):Rd nx s0 0 A now:=⟨h1,fun x h=>(h2 x).1 h,fun y h h'=>absurd ((h2 y).2 h) h'⟩
theorem Rd.next {k:Nat} {A now A' more:List aI} (h:Rd nx s0 k A now) (h1:∀ x,x ∈ A' ↔ x ∈ A \/ ∃ y ∈ now,x ∈ nx y) (h2:∀ x,x ∈ more ↔ x ∈ A' /\ x ∉ A):Rd nx s0 (k + 1) A' more:=by
 have key:∀ y x,y ∈ A -> x ∈ nx y -> x ∈ A':=fun y x hy hx=>by
  by_cases hn:y ∈ now
  ·exact (h1 x).2 (.inr ⟨y,hn,hx⟩)
  ·exact (h1 x).2 (.inl (h.rest y hy hn x hx))
 refine ⟨fun x=>?_,fun x hx=>((h2 x).1 hx).1,fun y hy hn x hx=>?_⟩
 ·constructor
  ·intro hx
   rcases (h1 x).1 hx with hx | ⟨y,hy,hx⟩
   ·exact .inl ((h.all x).1 hx)
   ·exact .inr ⟨y,(h.all y).1 (h.sub y hy),hx⟩
  ·rintro (hx | ⟨y,hy,hx⟩)
   ·exact (h1 x).2 (.inl ((h.all x).2 hx))
   ·exact key y x ((h.all y).2 hy) hx
 ·by_cases hA:y ∈ A
  ·exact key y x hA hx
  ·exact absurd ((h2 y).2 ⟨hy,hA⟩) hn
theorem Rd.bJ {k:Nat} {A now:List aI} (h:Rd nx s0 k A now) (x:aI):x ∈ A ↔ RN nx s0 (k:Int) x:=by
 rw [h.all]
 unfold RN
 constructor
 ·exact fun hx=>.inr ⟨by omega,by rw [b9]; exact hx⟩
 ·rintro (⟨h1,-⟩ | ⟨-,hx⟩)
  ·omega
  ·rw [b9] at hx; exact hx
theorem Rd.still {k:Nat} {A:List aI} {bJ:Int} (h:Rd nx s0 k A []) (hk:0 <= bJ -> (k:Int) <= bJ) (x:aI):x ∈ A ↔ RN nx s0 bJ x:=by
 have hc:∀ y x,Rk nx s0 k y -> x ∈ nx y -> Rk nx s0 k x:=fun y x hy hx=>(h.all x).1 (h.rest y ((h.all y).2 hy) (by simp) x hx)
 rw [h.all]
 unfold RN
 constructor
 ·intro hx
  by_cases hf:bJ < 0
  ·exact .inl ⟨hf,k,hx⟩
  ·exact .inr ⟨by omega,Rk.mono (by have:=hk (by omega); omega) hx⟩
 ·rintro (⟨-,n,hx⟩ | ⟨-,hx⟩)
  ·exact Rk.closed hc n hx
  ·exact Rk.closed hc _ hx
theorem Rk.sub {P:aI -> Prop} (h0:∀ x,s0 x -> P x) (hn:∀ y x,x ∈ nx y -> P x):∀ (n:Nat) {x:aI},Rk nx s0 n x -> P x
 | 0,_,hx=>h0 _ hx
 | n + 1,_,.inl hx=>Rk.sub h0 hn n hx
 | n + 1,_,.inr ⟨y,_,hx⟩=>hn y _ hx
end
theorem RU {Y:Sg} {w:V} {l:List aI} {c:Nat} (ow:bA eU 51 Y w l) (h:aQ w = some c):c < Y.length:=by
 rcases ow with ⟨rfl,-⟩ | ⟨b,rs,ex,rfl,hb,-⟩
 ·cases h
 ·cases h; exact (AI.1 hb).1
theorem Gv {Y:Sg} {w:V} {l:List aI} {c:Nat} (ow:bA eU 51 Y w l) (h:∀ u ex,Y[c]? ≠ some (.cells 51 u ex)):aQ w ≠ some c:=by
 rcases ow with ⟨rfl,-⟩ | ⟨b,rs,ex,rfl,hb,-⟩
 ·intro e; cases e
 ·intro e; cases e; exact h _ _ hb
theorem Ww {Y τ':Sg} {w v:V} {l:List aI} (ow:bA eU 51 Y w l) (hne:∀ c,aQ v = some c -> aQ w ≠ some c) (hk:Sp Y τ' v):bA eU 51 τ' w l:=ow.keep fun c o hc ho=>hk c o ho fun e=>hne c e hc
end
end
end Go.Proofs.YtmhchflckonklaaGreatDoor
end
