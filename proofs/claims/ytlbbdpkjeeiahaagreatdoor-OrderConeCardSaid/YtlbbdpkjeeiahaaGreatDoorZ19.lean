/- Part 19 of the proof's own texts (pressed by a program of its author's). -/
import Derived.Test.YtlbbdpkjeeiahaaGreatDoorZ18
import Derived.Test.YtlbbdpkjeeiahaaGreatDoorZ16
import Derived.Test.YtlbbdpkjeeiahaaGreatDoorZ15
section
set_option maxRecDepth 10000
set_option maxHeartbeats 8000000
set_option linter.unusedVariables false
namespace Go.Proofs.YtlbbdpkjeeiahaaGreatDoor
open Go Go.Ax Go.AxS
section
section
variable {E:Env} {Z:Sg} {K:V -> Sg -> Prop}
theorem HC {r:aG} {j:Nat} {s:aZ} (hj:r.ins[j]? = some s):(r.ins.take (j + 1)).map (fun f=>(((true,r.name):aM),((false,f):aM))) = (r.ins.take j).map (fun f=>(((true,r.name):aM),((false,f):aM))) ++ [(((true,r.name):aM),((false,s):aM))]:=by
 rw [List.take_add_one,hj,List.map_append]; rfl
theorem Fv {r:aG} {j:Nat} {s:aZ} (hj:r.outs[j]? = some s):(r.outs.take (j + 1)).map (fun f=>(((false,f):aM),((true,r.name):aM))) = (r.outs.take j).map (fun f=>(((false,f):aM),((true,r.name):aM))) ++ [(((false,s):aM),((true,r.name):aM))]:=by
 rw [List.take_add_one,hj,List.map_append]; rfl
theorem M7 (h:bM E) (h':sM E) (hl:Lb.eM E) {Y:Sg} {gb m0 m1 sa ma b3 b4:Nat} {es0 es1:List (V × V)} {A:List aM} {L3 L4:List c_} (ga:nC E Y gb m0 m1 sa ma b3 b4 es0 es1 A L3 L4) {X:List aM} {P:List (aM × aM)} (li:uS X P A L3 L4) (hX:X.length <= 1000) (hP:P.length <= 100000) {a c27:V} {i:Nat} {r:aG} {g:Bool} {p1 p2 p3 p4:V} (e1:indexAddr E 22 a (.int .i64 (i:Int)) = some (.dP g [.str r.name,p1,p2,p3,p4])) (i1:IS aK p1 r.ins) (i2:IS aK p2 r.outs) (i3:IS aK p3 r.after) (i4:IS eW p4 r.steps) (hs:Small r) {rs:List aG} (ha:RM es0 rs) (hn:∀ q ∈ rs,q.name ≠ r.name) {get:aZ -> Option V} {Pm:aZ -> aZ -> Prop} (hsm:SM E es1 get) (hsv:Dc es1) (hmk:MK get Pm)
  (F:FT) (g0:F.get 0 = a) (g5:F.get 5 = .ref gb 0) (g26:F.get 26 = a) (g27:F.get 27 = c27) (g28:F.get 28 = .int .i64 (i:Int)) {st:List kH} {Q:Ax.X -> Fr -> Sg -> Prop}
  (hk:∀ F' τ' es0' es1' get' A' L3' L4',F'.get 0 = a -> F'.get 5 = .ref gb 0 -> F'.get 26 = a -> F'.get 27 = c27 -> F'.get 28 = .int .i64 (i:Int) -> nC E τ' gb m0 m1 sa ma b3 b4 es0' es1' A' L3' L4' -> uS (X ++ [gE r]) (P ++ dI r) A' L3' L4' -> RM es0' (rs ++ [r]) -> SM E es1' get' -> Dc es1' -> MK get' (fun k n=>Pm k n \/ (k ∈ r.outs /\ n = r.name)) -> M E st .normal ⟨88,F'⟩ τ' Q):Ax.R E (cutAt [1,1,1,0,1,2,2,1,1,0,2] (aA Tryz.f19).code) st ⟨88,F⟩ Y Q:=by
 have o1:=aJ i1.bE
 have o2:=aJ i2.bE
 have o3:=aJ i3.bE
 have o4:=aJ i4.bE
 have a1:=hs.ins
 have a2:=hs.outs
 have l1:=bL h i1
 have l2:=bL h i2
 have d8:=h'.Yf
 simp only [aA,Tryz.f19,cutAt,Option.getD_some] at d8
 have d18:=h'.S8
 simp only [aA,Tryz.f19,cutAt,Option.getD_some] at d18
 have d19:=h'.S7
 simp only [aA,Tryz.f19,cutAt,Option.getD_some] at d19
 have r9:=fun {Y} {es0} {y} ga hy hA F g5 g7 st Q hk=>Vq (Y:=Y) (y:=y) (r:=r) (p1:=p1) (p2:=p2) (p3:=p3) (p4:=p4) (A:=A) (L3:=L3) (L4:=L4) (gb:=gb) (m0:=m0) (m1:=m1) (sa:=sa) (ma:=ma) (b3:=b3) (b4:=b4) (es0:=es0) (es1:=es1) h h' hl ga hy hA F g5 g7 (st:=st) (Q:=Q) hk
 rw [show cutAt [1,1,1,0,1,2,2,1,1,0,2] (aA Tryz.f19).code = .seq (cutAt [1,1,1,0,1,2,2,1,1,0,2,0] (aA Tryz.f19).code) (.seq (cutAt [1,1,1,0,1,2,2,1,1,0,2,1,0] (aA Tryz.f19).code) (.seq (.region 9 (opsOf (cutAt [1,1,1,0,1,2,2,1,1,0,2,1,1,0] (aA Tryz.f19).code)) true) (cutAt [1,1,1,0,1,2,2,1,1,0,2,1,1,1] (aA Tryz.f19).code))) from rfl]
 generalize opsOf (cutAt [1,1,1,0,1,2,2,1,1,0,2,1,1,0] (aA Tryz.f19).code) = O9 at r9 ⊢
 generalize hREST:cutAt [1,1,1,0,1,2,2,1,1,0,2,1,1,1] (aA Tryz.f19).code = REST
 have ga1:=ga.app (O.cells 37 [.str r.name,p1,p2,p3,p4] true)
 have hy1:(Y ++ [O.cells 37 [.str r.name,p1,p2,p3,p4] true])[Y.length]? = some (O.cells 37 [.str r.name,p1,p2,p3,p4] true):=aN
 have gg1:=ga1.g
 simp only [aA,Tryz.f19,KP,Ax.loadAt,Ax.storeAt,↓reduceIte,Nat.reduceEqDiff,Nat.reduceLT,Nat.reduceAdd,reduceCtorEq,h.cN,h.bI,cutAt,bA d8,bX,h'.sD,h'.L7,g5,g26,g28,e1,o1,o2,o3,o4,gg1,hy1,aN,cF]
 generalize Y ++ [O.cells 37 [.str r.name,p1,p2,p3,p4] true] = τ1 at *
 generalize Y.length = y at *
 refine aL (Oq h h' (v:=.agg [.str r.name,p1,p2,p3,p4]) ⟨p1,p2,p3,p4,rfl,i1,i2,i3,i4⟩ hs) ?_
 rintro v σ' ⟨rfl,hv⟩
 obtain ⟨hu,hrm⟩:=Kh h h' ga1.rules ha hn hv
 have ga2:=ga1.rule (es0 ++ [(.str r.name,v)])
 have hy2:(σ'.set m0 (.map (es0 ++ [(.str r.name,v)])))[y]? = some (O.cells 37 [.str r.name,p1,p2,p3,p4] true):=Lb.dL.Ez ga1.rules _ _ _ _ hy1
 simp only [KP,↓reduceIte,Nat.reduceEqDiff,Nat.reduceLT,hu]
 generalize σ'.set m0 (.map (es0 ++ [(.str r.name,v)])) = τ2 at *
 refine r9 ga2 hy2 (by have:=li.Nv; omega) _ ?_ ?_ _ _ (fun F3 τ3 hF3 ga3 kc3=>?_)
 ·simp +decide only [GS,g5]
 ·simp +decide only [GS]
 have li3:=li.rule (gE r)
 have hy3:=kc3 _ _ _ _ hy2
 have q0:F3.get 0 = a:=(hF3 0 (by simp)).trans (by simp +decide only [GS,g0])
 have q5:F3.get 5 = .ref gb 0:=(hF3 5 (by simp)).trans (by simp +decide only [GS,g5])
 have Hq:F3.get 26 = a:=(hF3 26 (by simp)).trans (by simp +decide only [GS,g26])
 have U4:F3.get 27 = c27:=(hF3 27 (by simp)).trans (by simp +decide only [GS,g27])
 have U3:F3.get 28 = .int .i64 (i:Int):=(hF3 28 (by simp)).trans (by simp +decide only [GS,g28])
 have q7:F3.get 7 = .ref y 0:=(hF3 7 (by simp)).trans (by simp +decide only [GS])
 have hX3:(X ++ [gE r]).length <= 1001:=by rw [List.length_append]; simp only [List.length_cons,List.length_nil]; omega
 subst hREST
 generalize X ++ [gE r] = X3 at *
 generalize keys A [gE r] = A3 at *
 have kr:=fun (Y:Sg)=>P4 (Z:=Y) h h' (s:=r.name)
 rw [Wa]
 simp only [aA,Tryz.f19,KP,Ax.loadAt,↓reduceIte,Nat.reduceLT,reduceCtorEq,h.aV,h.bI,cutAt,q7,hy3,l1]
 refine aR (fun j F Y=>F.get 0 = a /\ F.get 5 = .ref gb 0 /\ F.get 26 = a /\ F.get 27 = c27 /\ F.get 28 = .int .i64 (i:Int) /\ F.get 7 = .ref y 0 /\ F.get 50 = p1 /\ F.get 51 = .int .i64 (r.ins.length:Int) /\ F.get 52 = .int .i64 (j:Int) /\ Y[y]? = some (O.cells 37 [.str r.name,p1,p2,p3,p4] true) /\ ∃ A L3 L4,nC E Y gb m0 m1 sa ma b3 b4 (es0 ++ [(.str r.name,v)]) es1 A L3 L4 /\ uS X3 (P ++ (r.ins.take j).map (fun f=>(((true,r.name):aM),((false,f):aM)))) A L3 L4) r.ins.length ?_ ?_ r.ins.length 0 _ _ (by omega) (Au (by simp +decide only [GS,q0,q5,Hq,U4,U3,q7,and_self]) ⟨hy3,A3,L3,L4,ga3,by rw [List.take_zero,List.map_nil,List.append_nil]; exact li3⟩)
 ·rintro j F Y hj ⟨g0,g5,g26,g27,g28,g7,g50,g51,g52,hy,A,L3,L4,ga,li⟩ next
  obtain ⟨s,hsj⟩:∃ y,r.ins[j]? = some y:=⟨_,List.getElem?_eq_getElem hj⟩
  obtain ⟨g',e2⟩:=fI h i1 hsj
  have hlt:=dN hj
  have hadd:=bV j (by omega)
  have hPl:(P ++ (r.ins.take j).map (fun f=>(((true,r.name):aM),((false,f):aM)))).length <= 100010:=by rw [List.length_append,List.length_map,List.length_take]; omega
  have kf:=fun (Y:Sg)=>JJ (Z:=Y) h h' (s:=s)
  rw [aF]
  simp only [KP,Ax.loadAt,↓reduceIte,Nat.reduceEqDiff,Nat.reduceLT,reduceCtorEq,h.cN,h.bI,g5,g7,g50,g51,g52,hlt,e2,hy,kr,kf]
  refine aL (Om h h' hl ga (x:=(true,r.name)) (y:=(false,s)) (by have:=li.Nv; omega) (fun e he=>by have:=li.Nw e he; omega) (fun e he=>by have:=li.PM e he; omega)) ?_
  rintro v2 τ' ⟨rfl,L3',L4',ga',gr3,gr4,kc⟩
  simp only [KP,↓reduceIte,Nat.reduceEqDiff,Nat.reduceLT,g52,hadd]
  refine next _ _ (Au (by simp +decide only [GS,g0,g5,g26,g27,g28,g7,g50,g51,and_self]) ⟨kc _ _ _ _ hy,_,L3',L4',ga',?_⟩)
  rw [HC hsj,<- List.append_assoc]
  exact li.link gr3 gr4
 rintro F Y ⟨g0,g5,g26,g27,g28,g7,g50,g51,g52,hy,A,L3,L4,ga,li⟩
 rw [List.take_of_length_le (Nat.le_refl _)] at li
 have hPl:(P ++ r.ins.map (fun f=>(((true,r.name):aM),((false,f):aM)))).length <= 100010:=by rw [List.length_append,List.length_map]; omega
 rw [aF]
 have hlt:=dQ (Nat.lt_irrefl r.ins.length)
 simp only [KP,Ax.loadAt,↓reduceIte,Nat.reduceEqDiff,Nat.reduceLT,reduceCtorEq,h.aV,h.bI,g51,g52,hlt,g7,hy,l2]
 generalize hP2:P ++ r.ins.map (fun f=>(((true,r.name):aM),((false,f):aM))) = P2 at *
 refine aR (fun j F Y=>F.get 0 = a /\ F.get 5 = .ref gb 0 /\ F.get 26 = a /\ F.get 27 = c27 /\ F.get 28 = .int .i64 (i:Int) /\ F.get 7 = .ref y 0 /\ F.get 65 = p2 /\ F.get 66 = .int .i64 (r.outs.length:Int) /\ F.get 67 = .int .i64 (j:Int) /\ Y[y]? = some (O.cells 37 [.str r.name,p1,p2,p3,p4] true) /\ ∃ es1 get A L3 L4,nC E Y gb m0 m1 sa ma b3 b4 (es0 ++ [(.str r.name,v)]) es1 A L3 L4 /\ uS X3 (P2 ++ (r.outs.take j).map (fun f=>(((false,f):aM),((true,r.name):aM)))) A L3 L4 /\ SM E es1 get /\ Dc es1 /\ MK get (fun k n=>Pm k n \/ (k ∈ r.outs.take j /\ n = r.name))) r.outs.length ?_ ?_ r.outs.length 0 _ _ (by omega) (Au (by simp +decide only [GS,g0,g5,g26,g27,g28,g7,and_self]) ⟨hy,es1,get,A,L3,L4,ga,by rw [List.take_zero,List.map_nil,List.append_nil]; exact li,hsm,hsv,hmk.congr fun k n=>by simp⟩)
 ·rintro j F Y hj ⟨g0,g5,g26,g27,g28,g7,g65,g66,g67,hy,es1,get,A,L3,L4,ga,li,hsm,hsv,hmk⟩ next
  obtain ⟨s,hsj⟩:∃ y,r.outs[j]? = some y:=⟨_,List.getElem?_eq_getElem hj⟩
  obtain ⟨g',e2⟩:=fI h i2 hsj
  have hlt:=dN hj
  have hadd:=bV j (by omega)
  have hPl2:(P2 ++ (r.outs.take j).map (fun f=>(((false,f):aM),((true,r.name):aM)))).length <= 100020:=by rw [List.length_append,List.length_map,List.length_take]; omega
  have kf:=fun (Y:Sg)=>JJ (Z:=Y) h h' (s:=s)
  rw [aF]
  simp only [KP,Ax.loadAt,↓reduceIte,Nat.reduceEqDiff,Nat.reduceLT,reduceCtorEq,h.cN,h.bI,bA d18,bX,g5,g7,g65,g66,g67,hlt,e2,hy,kr,kf]
  refine aL (Om h h' hl ga (x:=(false,s)) (y:=(true,r.name)) (by have:=li.Nv; omega) (fun e he=>by have:=li.Nw e he; omega) (fun e he=>by have:=li.PM e he; omega)) ?_
  rintro v2 τ' ⟨rfl,L3',L4',ga',gr3,gr4,kc⟩
  have hy':=kc _ _ _ _ hy
  have hg':=ga'.g
  obtain ⟨es1',hu,hsm',hsv'⟩:=O2 h ga'.jJ hsm hsv s r.name
  have ga2:=ga'.Ni es1'
  simp only [KP,Ax.loadAt,↓reduceIte,Nat.reduceEqDiff,Nat.reduceLT,reduceCtorEq,h.cN,h.bI,h.zU,bA d19,bX,h'.sD,g5,g7,g67,hadd,hy',hg',hu]
  refine next _ _ (Au (by simp +decide only [GS,g0,g5,g26,g27,g28,g7,g65,g66,and_self]) ⟨Lb.dL.Ez ga'.jJ _ _ _ _ hy',es1',_,_,L3',L4',ga2,?_,hsm',hsv',(hmk.put s r.name).congr fun k n=>?_⟩)
  ·rw [Fv hsj,<- List.append_assoc]
   exact li.link gr3 gr4
  ·rw [fJ hsj k]
   constructor
   ·rintro ((h1 | h1) | h1)
    ·exact .inl h1
    ·exact .inr ⟨.inl h1.1,h1.2⟩
    ·exact .inr ⟨.inr h1.1,h1.2⟩
   ·rintro (h1 | ⟨h1 | h1,h2⟩)
    ·exact .inl (.inl h1)
    ·exact .inl (.inr ⟨h1,h2⟩)
    ·exact .inr ⟨h1,h2⟩
 rintro F Y ⟨g0,g5,g26,g27,g28,g7,g65,g66,g67,hy,es1,get,A,L3,L4,ga,li,hsm,hsv,hmk⟩
 rw [List.take_of_length_le (Nat.le_refl _)] at li hmk
 rw [aF]
 have hlt:=dQ (Nat.lt_irrefl r.outs.length)
 simp only [KP,↓reduceIte,Nat.reduceLT,g66,g67,hlt]
 refine hk _ _ _ _ _ _ _ _ (by simp +decide only [GS,g0]) (by simp +decide only [GS,g5]) (by simp +decide only [GS,g26]) (by simp +decide only [GS,g27]) (by simp +decide only [GS,g28]) ga ?_ hrm hsm hsv hmk
 unfold dI
 rw [<- List.append_assoc,hP2]
 exact li
end
end
section
section
variable {E:Env} {Z:Sg} {K:V -> Sg -> Prop}
theorem D1 {rs:List aG} {i:Nat} {r:aG} (hr:rs[i]? = some r):(rs.take (i + 1)).flatMap dI = (rs.take i).flatMap dI ++ dI r /\ (rs.take (i + 1)).map gE = (rs.take i).map gE ++ [gE r]:=by
 rw [List.take_add_one,hr]
 simp
theorem nw_c (h:bM E) (h':sM E) (hl:Lb.eM E) {a:V} {rs:List aG} (ia:IS dS a rs) (hs:∀ x ∈ rs,Small x) (hsh:Eg rs) (hlen:rs.length <= 1000) (F:FT) (g0:F.get 0 = a) {K:V -> Sg -> Prop}
  (hk:∀ Y gb ma b3 b4 es0 es1 get A L3 L4,nC E Y gb 0 1 2 ma b3 b4 es0 es1 A L3 L4 -> uS (rs.map gE) (rs.flatMap dI) A L3 L4 -> RM es0 rs -> SM E es1 get -> Dc es1 -> MK get (Mk rs) -> K (.ref gb 0) Y):Ax.R E (cutAt [1,1] (aA Tryz.f19).code) [] ⟨88,F⟩ [] (mI E (aA Tryz.f19).results K):=by
 have la:=cK h ia
 have inner:=fun {Y gb ma b3 b4 es0 es1 A L3 L4} ga {X P} li hX hP {i r g p1 p2 p3 p4} e1 i1 i2 i3 i4 hs {rs2} ha hn {get Pm} hsm hsv hmk F g0 g5 g26 g27 g28 st Q hk=>M7 (Y:=Y) (gb:=gb) (m0:=0) (m1:=1) (sa:=2) (ma:=ma) (b3:=b3) (b4:=b4) (es0:=es0) (es1:=es1) (A:=A) (L3:=L3) (L4:=L4) (X:=X) (P:=P) (a:=a) (c27:=.int .i64 (rs.length:Int)) (i:=i) (r:=r) (g:=g) (p1:=p1) (p2:=p2) (p3:=p3) (p4:=p4) (rs:=rs2) (get:=get) (Pm:=Pm) h h' hl ga li hX hP e1 i1 i2 i3 i4 hs ha hn hsm hsv hmk F g0 g5 g26 g27 g28 (st:=st) (Q:=Q) hk
 rw [show cutAt [1,1] (aA Tryz.f19).code = .seq (cutAt [1,1,0] (aA Tryz.f19).code) (.seq (.seq (cutAt [1,1,1,0,0] (aA Tryz.f19).code) (.block 0 (.loop (.seq (cutAt [1,1,1,0,1,2,2,0] (aA Tryz.f19).code) (.seq (cutAt [1,1,1,0,1,2,2,1,0] (aA Tryz.f19).code) (.seq (.block 1 (cutAt [1,1,1,0,1,2,2,1,1,0,2] (aA Tryz.f19).code)) (cutAt [1,1,1,0,1,2,2,1,1,1] (aA Tryz.f19).code))))))) (cutAt [1,1,1,1] (aA Tryz.f19).code)) from rfl]
 generalize cutAt [1,1,1,0,1,2,2,1,1,0,2] (aA Tryz.f19).code = B at inner ⊢
 simp only [aA,Tryz.f19,KP,↓reduceIte,Nat.reduceLT,cutAt]
 refine aL (Lb.Ou hl (Z:=[.map [],.map []]) (v:=.aC) (l:=[]) (.inl ⟨rfl,rfl⟩) (by simp)) ?_
 rintro v τ1 ⟨m,rfl,hset,hlt,jX⟩
 have k0:=jX 0 _ rfl
 have k1:=jX 1 _ rfl
 have hs2:Lb.bY τ1 2 m []:=hset
 have hlt:2 < m:=hlt
 have hml:=(List.getElem?_eq_some_iff.1 hs2.map).1
 simp only [KP,↓reduceIte,Nat.reduceEqDiff,Nat.reduceLT,Nat.reduceAdd,reduceCtorEq,h.zU,Ax.fill,Ax.placeOf,hl.sQ,h'.sD,h'.L7,h'.pW,g0,la]
 have ga0:nC E (τ1 ++ [.map []] ++ [.map []] ++ [.cells 107 [.mp 0,.mp 1,.ref 2 0,.mp τ1.length,.mp (τ1 ++ [O.map []]).length] true]) (τ1 ++ [O.map []] ++ [O.map []]).length 0 1 2 m τ1.length (τ1 ++ [O.map []]).length [] [] [] [] []:=by
  refine ⟨aN,aP (aP (aP k0)),aP (aP (aP k1)),bY.app (bY.app (bY.app hs2 _) _) _,⟨aP (aP aN),(fun e he=>by cases he),List.nodup_nil⟩,⟨aP aN,(fun e he=>by cases he),List.nodup_nil⟩,?_⟩
  rw [List.length_append]
  simp only [List.map_nil,List.append_nil,List.nodup_cons,List.mem_cons,List.not_mem_nil,or_false,not_or,List.length_cons,List.length_nil,not_false_eq_true,List.nodup_nil,and_true]
  omega
 generalize τ1 ++ [.map []] ++ [.map []] ++ [.cells 107 [.mp 0,.mp 1,.ref 2 0,.mp τ1.length,.mp (τ1 ++ [O.map []]).length] true] = τ2 at *
 generalize (τ1 ++ [O.map []] ++ [O.map []]).length = gb at *
 generalize (τ1 ++ [O.map []]).length = b4 at *
 generalize τ1.length = b3 at *
 refine aR (fun i F Y=>F.get 0 = a /\ F.get 5 = .ref gb 0 /\ F.get 26 = a /\ F.get 27 = .int .i64 (rs.length:Int) /\ F.get 28 = .int .i64 (i:Int) /\ ∃ es0 es1 get A L3 L4,nC E Y gb 0 1 2 m b3 b4 es0 es1 A L3 L4 /\ uS ((rs.take i).map gE) ((rs.take i).flatMap dI) A L3 L4 /\ RM es0 (rs.take i) /\ SM E es1 get /\ Dc es1 /\ MK get (Mk (rs.take i))) rs.length ?_ ?_ rs.length 0 _ _ (by omega) (lY (by simp +decide only [GS,g0,and_self]) ⟨[],[],fun _=>none,[],[],[],ga0,uS.nil,.nil,HO,(fun e he=>by cases he),MK.nil.congr fun k n=>⟨fun h=>h.elim,fun ⟨q,hq,_⟩=>by cases hq⟩⟩)
 ·rintro i F Y hi ⟨g0,g5,g26,g27,g28,es0,es1,get,A,L3,L4,ga,li,ha,hsm,hsv,hmk⟩ next
  obtain ⟨r,hr⟩:∃ y,rs[i]? = some y:=⟨_,List.getElem?_eq_getElem hi⟩
  obtain ⟨g,p1,p2,p3,p4,e1,i1,i2,i3,i4⟩:=eL h ia hr
  have hrm:=List.mem_of_getElem? hr
  have hlt:=dN hi
  have hadd:=bV i (by omega)
  have hnn:∀ q ∈ rs.take i,q.name ≠ r.name:=fun q hq e=>by
   obtain ⟨j,hj⟩:=List.mem_iff_getElem?.1 hq
   have hji:j < i:=by have:=(List.getElem?_eq_some_iff.1 hj).1; rw [List.length_take] at this; omega
   rw [List.getElem?_take_of_lt hji] at hj
   have:=hsh.nodup j i q r hj hr e
   omega
  have hXl:((rs.take i).map gE).length <= 1000:=by rw [List.length_map,List.length_take]; omega
  have hPl:((rs.take i).flatMap dI).length <= 100000:=by
   have:=oM (rs.take i) fun q hq=>hs q (List.mem_of_mem_take hq)
   rw [List.length_take] at this
   omega
  rw [aF]
  simp only [KP,↓reduceIte,Nat.reduceLT,g27,g28,hlt]
  refine inner ga li hXl hPl e1 i1 i2 i3 i4 (hs r hrm) ha hnn hsm hsv hmk _ ?_ ?_ ?_ ?_ ?_ _ _ (fun F2 τ2 es0' es1' get' A' L3' L4' q0 q5 Hq U4 U3 ga' li' ha' hsm' hsv' hmk'=>?_)
  ·simp +decide only [GS,g0]
  ·simp +decide only [GS,g5]
  ·simp +decide only [GS,g26]
  ·simp +decide only [GS,g27]
  ·simp +decide only [GS,g28]
  simp only [KP,↓reduceIte,Nat.reduceLT,U3,hadd]
  refine next _ _ (lY (by simp +decide only [GS,q0,q5,Hq,U4,and_self]) ⟨es0',es1',get',A',L3',L4',ga',?_,?_,hsm',hsv',hmk'.congr fun k n=>(J7 hr k n).symm⟩)
  ·rw [(D1 hr).1,(D1 hr).2]; exact li'
  ·rw [List.take_add_one,hr]; exact ha'
 ·rintro F Y ⟨g0,g5,g26,g27,g28,es0,es1,get,A,L3,L4,ga,li,ha,hsm,hsv,hmk⟩
  rw [List.take_of_length_le (Nat.le_refl _)] at li ha hmk
  have hlt:=dQ (Nat.lt_irrefl rs.length)
  rw [aF]
  simp only [KP,↓reduceIte,Nat.reduceEqDiff,Nat.reduceLT,g5,g27,g28,hlt]
  exact hk _ _ _ _ _ _ _ _ _ _ _ ga li ha hsm hsv hmk
end
end
section
section
variable {E:Env} {Z:Sg} {K:V -> Sg -> Prop}
def vJ (ks:List aM):V:=.dP false [.imp false (Lb.lV ks)]
def Cz (e:c_):V × V:=(oI e.key,vJ e.ks)
def gV (es0 es1:List (V × V)) (A:List aM) (L3 L4:List c_):V:=.dP false [.imp false es0,.imp false es1,vJ A,.imp false (L3.map Cz),.imp false (L4.map Cz)]
structure OV (E:Env) (rs:List aG) (es0 es1:List (V × V)) (get:aZ -> Option V) (A:List aM) (L3 L4:List c_):Prop where
 rules:RM es0 rs
 sm:SM E es1 get
 sv:Dc es1
 Ni:MK get (Mk rs)
 li:uS (rs.map gE) (rs.flatMap dI) A L3 L4
 nA:A.Nodup
 n3:(L3.map c_.key).Nodup
 n4:(L4.map c_.key).Nodup
 k3:∀ e ∈ L3,e.ks.Nodup
 k4:∀ e ∈ L4,e.ks.Nodup
def OU (E:Env) (rs:List aG) (v:V):Prop:=∃ es0 es1 get A L3 L4,v = gV es0 es1 A L3 L4 /\ OV E rs es0 es1 get A L3 L4
theorem Gh {α β γ:Type} {f:β -> Option γ} {g:α -> β} {k:α -> γ}:∀ {l:List α},(∀ x ∈ l,f (g x) = some (k x)) -> aW f (l.map g) = some (l.map k)
 | [],_=>rfl
 | x :: l,h=>by rw [List.map_cons,aW,h x (List.mem_cons_self ..),Gh fun y hy=>h y (List.mem_cons_of_mem _ hy)]; rfl
theorem Bz {Z:Sg} {b m n:Nat} {ks:List aM} (hs:Lb.bY Z b m ks):bR Z E.ty false (n + 3) (.ref b 0) = some (vJ ks):=by
 have e1:bR Z E.ty false (n + 2) (.mp m) = some (.imp false (Lb.lV ks)):=by
  rw [bR]
  simp only [hs.map]
  rw [Lb.Gi (Lb.lV ks)]
  intro e he
  obtain ⟨k,_,rfl⟩:=List.mem_map.1 he
  rfl
 rw [bR]
 simp only [hs.obj,List.drop_zero]
 show (match aW (fun v=>match bR Z E.ty false (n + 2) v with
  | some v=>if cP false v then some v else no "snap: borrowed"
  | none=>none) [V.mp m] with
  | some l=>some (V.dP false l)
  | none=>none) = _
 simp only [aW,e1]
 rfl
theorem Bx {Z:Sg} {b n:Nat} {L:List c_} (hm:iE Z b L):bR Z E.ty false (n + 4) (.mp b) = some (.imp false (L.map Cz)):=by
 rw [bR]
 simp only [hm.map]
 rw [Gh (k:=Cz) fun e he=>?_]
 have h1:=Bz (E:=E) (n:=n) (hm.sets e he)
 have hp:(oI e.key).cells.all Ax.plainCell = true:=rfl
 show (if (oI e.key).cells.all Ax.plainCell = true then (match (match bR Z E.ty false (n + 3) (.ref e.s 0) with
   | some v=>if cP false v then some v else no "snap: borrowed"
   | none=>none) with
   | some v=>some (oI e.key,v)
   | none=>none) else none) = _
 rw [if_pos hp,h1]
 rfl
theorem FI {Z:Sg} {b n:Nat} {es:List (V × V)} {rs:List aG} (hb:Z[b]? = some (.map es)) (ha:RM es rs):bR Z E.ty false (n + 2) (.mp b) = some (.imp false es):=by
 rw [bR]
 simp only [hb]
 rw [iS fun e he=>?_]
 obtain ⟨r,-,e1,a,b,c,d,e2,i1,i2,i3,i4⟩:=ha.mem he
 obtain ⟨k,v⟩:=e
 dsimp only at e1 e2
 subst e1 e2
 have hp:(V.str r.name).cells.all Ax.plainCell = true:=rfl
 have q:∀ c:V,Ax.bE c = true -> bR Z E.ty false (n + 1) c = some c:=fun c h1=>jL h1
 have t0:cP false (V.str r.name) = true:=rfl
 simp only [hp,if_true,aW,q (.str r.name) rfl,q a i1.is.bE,q b i2.is.bE,q c i3.is.bE,q d i4.is.bE,t0,i1.tag,i2.tag,i3.tag,i4.tag]
theorem HN {Z:Sg} {b n:Nat} {es:List (V × V)} {get:aZ -> Option V} (hb:Z[b]? = some (.map es)) (hs:SM E es get) (hv:Dc es):bR Z E.ty false (n + 2) (.mp b) = some (.imp false es):=by
 rw [bR]
 simp only [hb]
 rw [iS fun e he=>?_]
 obtain ⟨k,e1⟩:=(hs.1 e he).1
 obtain ⟨m,e2⟩:=hv e he
 obtain ⟨a,v⟩:=e
 dsimp only at e1 e2
 subst e1 e2
 rfl
theorem HM {Z:Sg} {gb m0 m1 sa ma b3 b4:Nat} {es0 es1:List (V × V)} {get:aZ -> Option V} {A:List aM} {L3 L4:List c_} {rs:List aG} (ga:nC E Z gb m0 m1 sa ma b3 b4 es0 es1 A L3 L4) (ha:RM es0 rs) (hs:SM E es1 get) (hv:Dc es1):cW Z E.ty false (.ref gb 0) = some (gV es0 es1 A L3 L4):=by
 have s0:=FI (E:=E) (n:=9) ga.rules ha
 have s1:=HN (E:=E) (n:=9) ga.jJ hs hv
 have s2:=Bz (E:=E) (n:=8) ga.all
 have s3:=Bx (E:=E) (n:=7) ga.jI
 have s4:=Bx (E:=E) (n:=7) ga.jB
 have e:bR Z E.ty false 12 (.ref gb 0) = some (gV es0 es1 A L3 L4):=by
  rw [bR]
  simp only [ga.g,List.drop_zero]
  show (match aW (fun v=>match bR Z E.ty false 11 v with
   | some v=>if cP false v then some v else no "snap: borrowed"
   | none=>none) [V.mp m0,V.mp m1,V.ref sa 0,V.mp b3,V.mp b4] with
   | some l=>some (V.dP false l)
   | none=>none) = _
  simp only [aW,s0,s1,s2,s3,s4]
  rfl
 show (match bR Z E.ty false 12 (.ref gb 0) with
  | some v=>if cP false v then some v else no "snap: borrowed"
  | none=>none) = _
 rw [e]
 rfl
theorem ID (h:bM E) (h':sM E) (hl:Lb.eM E) {a:V} {rs:List aG} (ha:LS dS 37 Z a rs) (hs:∀ x ∈ rs,Small x) (hlen:rs.length <= 4294967296):aB E 19 [a] Z fun v σ'=>σ' = Z /\ ((¬ mQ rs /\ v = .fR) \/ (mQ rs /\ OU E rs v)):=by
 obtain ⟨a',ea,ia⟩:=eR h ha
 rw [aH h'.hs19 h'.Mt h'.fn19 h'.md19 (args':=[a']) (by simp only [aW,ea]),a_ (by kernel_rfl)]
 have key:=fun hsh hlen F g0 hk=>nw_c (a:=a') (rs:=rs) h h' hl ia hs hsh hlen F g0 (K:=fun v σ1=>match cW σ1 E.ty false v with
   | some v=>((¬ mQ rs /\ v = .fR) \/ (mQ rs /\ OU E rs v))
   | none=>False) hk
 rw [show (aA Tryz.f19).code = .seq (cutAt [0] (aA Tryz.f19).code) (.seq (cutAt [1,0] (aA Tryz.f19).code) (cutAt [1,1] (aA Tryz.f19).code)) from rfl]
 generalize cutAt [1,1] (aA Tryz.f19).code = C at key ⊢
 simp only [aA,Tryz.f19,KP,↓reduceIte,Nat.reduceLT,reduceCtorEq,cutAt]
 refine aL (Tw h (ia.ls _ 37) hs hlen) ?_
 rintro v σ' ⟨rfl,e,nm,rfl,hE⟩
 by_cases he:e = 0
 ·have q:=decide_eq_true he
  have hr:=hE.zero.1 he
  have hg:=A6 hr.1
  have h40:=hg.len
  simp only [KP,↓reduceIte,Nat.reduceEqDiff,Nat.reduceLT,q]
  refine key hg.short (Nat.le_trans h40 (by decide)) _ ?_ ?_
  ·simp +decide only [GS]
  intro Y gb ma b3 b4 es0 es1 get A L3 L4 ga li ha hsm hsv hmk
  rw [HM ga ha hsm hsv]
  exact .inr ⟨hr,es0,es1,get,A,L3,L4,rfl,ha,hsm,hsv,hmk,li,ga.all.nodup,ga.jI.nodup,ga.jB.nodup,fun e he=>(ga.jI.sets e he).nodup,fun e he=>(ga.jB.sets e he).nodup⟩
 ·have q:=decide_eq_false he
  simp only [KP,↓reduceIte,Nat.reduceEqDiff,Nat.reduceLT,q]
  exact .inl ⟨mt hE.zero.2 he,rfl⟩
end
end
section
structure LN (E:Env):Prop where
 hs23:E.hspec 23 = none
 Mq:E.spec 23 = none
 fn23:E.fn 23 = some (aA Tryz.f23)
 md23:E.mode 23 = .fA
 hs36:E.hspec 36 = none
 sp36:E.spec 36 = none
 fn36:E.fn 36 = some (aA Tryz.f36)
 md36:E.mode 36 = .fA
 hs26:E.hspec 26 = none
 Mp:E.spec 26 = none
 fn26:E.fn 26 = some (aA Tryz.f26)
 md26:E.mode 26 = .fA
 hs33:E.hspec 33 = none
 sp33:E.spec 33 = none
 fn33:E.fn 33 = some (aA Tryz.f33)
 md33:E.mode 33 = .fA
 hs39:E.hspec 39 = none
 sp39:E.spec 39 = none
 fn39:E.fn 39 = some (aA Tryz.f39)
 md39:E.mode 39 = .fA
 Wm:E.hspec 76 = none
 TW:E.spec 76 = none
 Xf:E.fn 76 = some (aA Tryz.f76)
 Vv:E.mode 76 = .fA
 Ye:aO E (cutAt [1,1,0] (aA Tryz.f23).code) = true
 d36_3:aO E (cutAt [1,1,0] (aA Tryz.f36).code) = true
 Yd:aO E (cutAt [1,0,2,0] (aA Tryz.f26).code) = true
 Yc:aO E (cutAt [1,0,2,1,1,1,1,0] (aA Tryz.f26).code) = true
section
variable {E:Env} {Z:Sg} {K:V -> Sg -> Prop}
def J8 (v:V) (l:List aM):Prop:=(v = .aC /\ l = []) \/ ∃ full,v = .bQ false (l.map row) full
theorem J8.lv {v:V} {l:List aM} (h:J8 v l):Lb.LV v l:=h.imp id fun ⟨f,e⟩=>⟨false,f,e⟩
def Fi (ks:List aM):Prop:=ks.length <= 1000000 /\ ∀ k ∈ ks,k.2.length <= 9223372036854775807
theorem Dw:∀ l:List aM,Ax.rows 2 l.length (l.flatMap row) = l.map row
 | []=>rfl
 | x :: l=>by
  rw [List.length_cons,List.flatMap_cons,Ax.rows,List.map_cons]
  have h1:(row x ++ l.flatMap row).take 2 = row x:=rfl
  have h2:(row x ++ l.flatMap row).drop 2 = l.flatMap row:=rfl
  rw [h1,h2,Dw l]
theorem Ko (hl:Lb.eM E) {Z:Sg} {j:Nat} {l:List aM} {ex:Bool} (hj:Z[j]? = some (.cells 46 (l.flatMap row) ex)):∃ v',cW Z E.ty false (.sl j 0 l.length none) = some v' /\ J8 v' l:=by
 have hlen:(l.flatMap row).length = l.length * 2:=Lb.pG l
 obtain ⟨full,e⟩:=Bw (g:=false) (n:=l.length) hj hl.fM (show l.length * 2 <= _ by omega) (fun c hc=>by
  rw [show (l.flatMap row).take (l.length * 2) = l.flatMap row from List.take_of_length_le (by omega)] at hc
  obtain ⟨x,-,hx⟩:=List.mem_flatMap.1 hc
  unfold row at hx
  simp only [List.mem_cons,List.not_mem_nil,or_false] at hx
  rcases hx with rfl | rfl <;> exact ⟨rfl,rfl⟩)
 refine ⟨_,e,.inr ⟨full,?_⟩⟩
 show V.bQ false (Ax.rows 2 l.length ((l.flatMap row).take (l.length * 2))) full = _
 rw [List.take_of_length_le (by omega),Dw]
theorem uU (hl:Lb.eM E) {Z σ':Sg} {r:V} {l:List aM} (h:Lb.Own Z σ' r l):∃ v',cW σ' E.ty false r = some v' /\ J8 v' l:=by
 rcases h with ⟨rfl,rfl⟩ | ⟨j,-,rfl,hj⟩
 ·exact ⟨.aC,rfl,.inl ⟨rfl,rfl⟩⟩
 ·exact Ko hl hj
theorem HJ {ks:List aM} (hn:ks.Nodup) (hs:Fi ks) {j:Nat} {g:Bool} (hj:Z[j]? = some (.cells 82 [.imp g (Lb.lV ks)] true)) :
  kP 46 [129] [] 89 [.fn 129 [] [.ref j 0],.fn 89 [] []] Z = some (if ks = [] then (.aC,Z) else (.sl Z.length 0 ks.length none,Z ++ [.cells 46 ((setOf ks).flatMap row) false])):=by
 have hk:keysOf Z [129] [] (.fn 129 [] [.ref j 0]) = some (ks.map row):=by
  unfold keysOf
  simp only [hj]
  exact congrArg some (Lb.Dx ks)
 show pF 46 [129] [] kN qH (.fn 129 [] [.ref j 0]) Z = _
 unfold pF
 rw [hk]
 cases hks:ks with
 | nil=>rfl
 | cons k r=>
  have ha:=Lb.wC ks hs.2
  have hk2:=Dm hn
  have hlen:=hs.1
  rw [hks] at ha hk2 hlen
  rw [List.map_cons] at ha hk2 ⊢
  rw [if_neg (by simp)]
  show (match allRows kN (row k :: r.map row),Nat.ble (row k :: r.map row).length 1000000 with
   | true,true=>some (V.sl Z.length 0 (row k :: r.map row).length none,Z ++ [O.cells 46 (kB qH (row k :: r.map row)).flatten false])
   | _,_=>none) = _
  rw [ha,Nat.ble_eq_true_of_le (by simpa using hlen),hk2,Lb.GL]
  simp
theorem Q6 (hl:Lb.eM E) (h:bM E) {g:Bool} {es:List (V × V)}:aB E 88 [.imp g es] Z K = K (.fn 129 [] [.ref Z.length 0]) (Z ++ [.cells 82 [.imp g es] true]):=by
 refine aB.of ?_
 rw [dA hl.Wk hl.TV hl.Xe hl.Vu,a_ (by kernel_rfl)]
 simp only [aA,Tryz.f88,KP,↓reduceIte,Nat.reduceEqDiff,Nat.reduceLT,hl.uP]
theorem Tx (hl:Lb.eM E) (h:bM E) {g g':Bool} {ks:List aM} (hn:ks.Nodup) (hsm:Fi ks):aB E 50 [.dP g [.imp g' (Lb.lV ks)]] Z fun r σ'=>Lb.Own Z σ' r (setOf ks):=by
 rw [dA hl.Wo hl.TZ hl.Xh hl.Vx,a_ (by kernel_rfl)]
 have kk:=dO fun K=>Q6 (Z:=Z) (K:=K) hl h (g:=g') (es:=Lb.lV ks)
 simp only [aA,Tryz.f50,KP,Ax.loadAt,↓reduceIte,Nat.reduceLT,reduceCtorEq,hl.uP,hl.uO,hl.I0,pR,kk]
 have hj:(Z ++ [O.cells 82 [.imp g' (Lb.lV ks)] true])[Z.length]? = some (.cells 82 [.imp g' (Lb.lV ks)] true):=aN
 have hsk:=HJ hn hsm hj
 unfold CV
 rw [nK hl.Wl,hsk]
 by_cases hks:ks = []
 ·rw [if_pos hks]
  simp only [cU]
  simp only [KP,↓reduceIte,Nat.reduceLT]
  subst hks
  exact .inl ⟨rfl,rfl⟩
 ·rw [if_neg hks]
  simp only [cU]
  simp only [KP,↓reduceIte,Nat.reduceLT]
  refine .inr ⟨_,?_,by rw [wM hn],?_⟩
  ·rw [List.length_append]; omega
  ·exact aN
theorem Tr (hl:Lb.eM E) (h:bM E) {g g':Bool} {ks:List aM} (x:aM):aB E 48 [.dP g [.imp g' (Lb.lV ks)],.agg [.bool x.1,.str x.2]] Z K = K (.bool (decide (x ∈ ks))) Z:=by
 refine aB.of ?_
 have hi:Ax.bE (.dP g [.imp g' (Lb.lV ks)]) = true:=rfl
 have e1:=cR (Z:=Z) (ty:=E.ty) hi (b_ hi)
 have e2:aY Z E.ty true (.agg [.bool x.1,.str x.2]) = some (.agg [.bool x.1,.str x.2]):=rfl
 have d1:=hl.Yb
 simp only [aA,Tryz.f48,cutAt,Option.getD_some] at d1
 rw [aH hl.hs48 hl.sp48 hl.fn48 hl.md48 (args':=[.dP g [.imp g' (Lb.lV ks)],.agg [.bool x.1,.str x.2]]) (by simp only [aW,e1,e2]),a_ (by kernel_rfl)]
 have hk:=Lb.qJ hl x.1 x.2
 have hf:=Lb.BQ hl x ks
 by_cases hx:x ∈ ks
 ·simp only [aA,Tryz.f48,KP,Ax.loadAt,↓reduceIte,Nat.reduceEqDiff,Nat.reduceLT,Nat.reduceAdd,reduceCtorEq,h.AU,h.fM,hl.uP,hl.uO,hl.I0,pR,bA d1,bX,Ax.lookup,hk,Ax.entriesOf,hf,hx]
  exact rfl
 ·simp only [aA,Tryz.f48,KP,Ax.loadAt,↓reduceIte,Nat.reduceEqDiff,Nat.reduceLT,Nat.reduceAdd,reduceCtorEq,h.AU,h.fM,hl.uP,hl.uO,hl.I0,pR,bA d1,bX,Ax.lookup,hk,Ax.entriesOf,hf,hx]
  exact rfl
end
end
section
section
variable {E:Env} {Z:Sg} {K:V -> Sg -> Prop}
def mH (rs:List aG):List aM:=setOf (rs.map gE ++ (rs.flatMap dI).flatMap fun p=>[p.1,p.2])
def tE (rs:List aG) (x:aM):List aM:=setOf (((rs.flatMap dI).filter fun p=>decide (p.1 = x)).map Prod.snd)
def IX (rs:List aG) (x:aM):List aM:=setOf (((rs.flatMap dI).filter fun p=>decide (p.2 = x)).map Prod.fst)
theorem qE {rs:List aG} {x w:aM}:w ∈ tE rs x ↔ (x,w) ∈ rs.flatMap dI:=by
 unfold tE
 rw [gY,List.mem_map]
 constructor
 ·rintro ⟨⟨a,b⟩,h1,rfl⟩
  obtain ⟨h1,h2⟩:=List.mem_filter.1 h1
  rw [<- of_decide_eq_true h2]
  exact h1
 ·exact fun h1=>⟨(x,w),List.mem_filter.2 ⟨h1,decide_eq_true rfl⟩,rfl⟩
theorem KM {rs:List aG} {x w:aM}:w ∈ IX rs x ↔ (w,x) ∈ rs.flatMap dI:=by
 unfold IX
 rw [gY,List.mem_map]
 constructor
 ·rintro ⟨⟨a,b⟩,h1,rfl⟩
  obtain ⟨h1,h2⟩:=List.mem_filter.1 h1
  rw [<- of_decide_eq_true h2]
  exact h1
 ·exact fun h1=>⟨(w,x),List.mem_filter.2 ⟨h1,decide_eq_true rfl⟩,rfl⟩
theorem BV {rs:List aG} {x:aM}:x ∈ mH rs ↔ x ∈ rs.map gE \/ ∃ p ∈ rs.flatMap dI,x = p.1 \/ x = p.2:=by
 unfold mH
 rw [gY,List.mem_append,List.mem_flatMap]
 refine or_congr Iff.rfl (exists_congr fun p=>and_congr Iff.rfl ?_)
 simp
theorem Rc (rs:List aG):Up (mH rs):=mS _
theorem Ga (rs:List aG) (x:aM):Up (tE rs x):=mS _
theorem LZ (rs:List aG) (x:aM):Up (IX rs x):=mS _
structure Fits (rs:List aG):Prop where
 ok:mQ rs
 small:∀ x ∈ rs,Small x
theorem Ag {s:aZ} (h:bG s = true):s.length <= 40:=by
 unfold bG at h
 simp only [Bool.and_eq_true,decide_eq_true_eq] at h
 exact h.1.2
theorem H9 {s:aZ} (h:bG s = true):s ≠ []:=by
 rintro rfl
 revert h
 decide
theorem Fits.form {rs:List aG} (h:Fits rs):∀ r ∈ rs,jY r = true:=fun r hr=>by
 have h0:=h.ok.1
 unfold gA at h0
 cases hf:rs.find? (fun r=>decide (bB r ≠ 0)) with
 | some q=>
  rw [hf] at h0
  have:=List.find?_some hf
  exact absurd h0 (of_decide_eq_true this)
 | none=>
  have:=List.find?_eq_none.1 hf r hr
  have h1:bB r = 0:=by
   refine Classical.byContradiction fun hne=>this (decide_eq_true hne)
  unfold bB at h1
  by_cases hq:jY r = false
  ·rw [if_pos hq] at h1; cases h1
  ·simpa using hq
theorem Fits.names {rs:List aG} (h:Fits rs):∀ r ∈ rs,bG r.name = true /\ (∀ f ∈ r.ins,bG f = true) /\ ∀ f ∈ r.outs,bG f = true:=fun r hr=>by
 have:=h.form r hr
 rw [zD] at this
 simp only [Bool.and_eq_true,List.all_eq_true] at this
 exact ⟨this.1.1.1.1.1,this.1.1.1.2,this.1.1.2⟩
theorem Fits.pair {rs:List aG} (h:Fits rs) {p:aM × aM} (hp:p ∈ rs.flatMap dI):bG p.1.2 = true /\ bG p.2.2 = true:=by
 obtain ⟨r,hr,hp⟩:=List.mem_flatMap.1 hp
 obtain ⟨h1,h2,h3⟩:=h.names r hr
 unfold dI at hp
 rcases List.mem_append.1 hp with hp | hp
 ·obtain ⟨f,hf,rfl⟩:=List.mem_map.1 hp
  exact ⟨h1,h2 f hf⟩
 ·obtain ⟨f,hf,rfl⟩:=List.mem_map.1 hp
  exact ⟨h3 f hf,h1⟩
theorem Fits.lab {rs:List aG} (h:Fits rs) {x:aM} (hx:x ∈ mH rs):bG x.2 = true:=by
 rcases BV.1 hx with hx | ⟨p,hp,rfl | rfl⟩
 ·obtain ⟨r,hr,rfl⟩:=List.mem_map.1 hx
  exact (h.names r hr).1
 ·exact (h.pair hp).1
 ·exact (h.pair hp).2
theorem Fits.len {rs:List aG} (h:Fits rs):rs.length <= 40:=(A6 h.ok.1).len
theorem Fits.Va {rs:List aG} (h:Fits rs):(rs.flatMap dI).length <= 640:=by
 have:=oM rs h.small
 have:=h.len
 omega
section
variable {rs:List aG} {es0 es1:List (V × V)} {get:aZ -> Option V} {A:List aM} {L3 L4:List c_}
theorem OV.all (hi:OV E rs es0 es1 get A L3 L4):setOf A = mH rs:=FK fun x=>by
 rw [hi.li.all,List.mem_append,List.mem_flatMap]
 refine or_congr Iff.rfl (exists_congr fun p=>and_congr Iff.rfl ?_)
 simp
theorem NB {L:List c_} {e:c_} {x:aM} (he:bN L x = some e):qI L x = e.ks:=by unfold qI; rw [he]
theorem PS {L:List c_} {x:aM} (he:bN L x = none):qI L x = []:=by unfold qI; rw [he]
theorem OV.need (hi:OV E rs es0 es1 get A L3 L4) (x:aM):setOf (qI L3 x) = tE rs x:=Er (mS _) (Ga rs x) fun w=>by rw [gY,hi.li.need,qE]
theorem OV.user (hi:OV E rs es0 es1 get A L3 L4) (x:aM):setOf (qI L4 x) = IX rs x:=Er (mS _) (LZ rs x) fun w=>by rw [gY,hi.li.user,KM]
theorem OV.R8 (hi:OV E rs es0 es1 get A L3 L4) (hf:Fits rs) {e:c_} {x:aM} (he:bN L3 x = some e):Fi e.ks:=by
 refine ⟨?_,fun k hk=>?_⟩
 ·have h1:=hi.li.Nw e (hU he).1
  have h2:=hf.Va
  omega
 ·rw [<- NB he,hi.li.need] at hk
  have h2:k.2.length <= 40:=Ag (hf.pair hk).2
  omega
end
theorem BS (hl:Lb.eM E) (x:aM):∀ L:List c_,iM (eN E 46) (oI x) (L.map Cz) = some ((L.find? fun e=>decide (x = e.key)).map fun e=>vJ e.ks)
 | []=>rfl
 | e :: L=>by
  show (match eN E 46 (.agg [.bool x.1,.str x.2]) (.agg [.bool e.key.1,.str e.key.2]) with
   | some true=>some (some (vJ e.ks))
   | some false=>iM (eN E 46) (oI x) (L.map Cz)
   | none=>none) = _
  rw [Lb.qM hl,List.find?_cons]
  by_cases h:x = e.key
  ·rw [decide_eq_true (show ((x.1,x.2):aM) = (e.key.1,e.key.2) from h)]; rfl
  ·rw [decide_eq_false (show ¬ ((x.1,x.2):aM) = (e.key.1,e.key.2) from h)]
   exact BS hl x L
theorem KR (h':sM E) (hl:Lb.eM E) {Z:Sg} {g:Bool} {L:List c_} (x:aM):lookup E Z 105 (.imp g (L.map Cz)) (.agg [.bool x.1,.str x.2]) false = some (match bN L x with | some e=>vJ e.ks | none=>.fR):=by
 have hk:=Lb.qJ hl x.1 x.2
 unfold Ax.lookup
 simp only [h'.pW,hl.sQ,hk,entriesOf,Bool.not_true,Bool.false_eq_true,if_false]
 have:=BS hl x L
 unfold oI at this
 rw [this]
 unfold bN
 cases L.find? fun e=>decide (x = e.key) <;> rfl
theorem b_of (h:bM E) (h':sM E) (hl:Lb.eM E) (q:LN E) {ks:List aM} (hn:ks.Nodup) (hs:Fi ks):aB E 76 [vJ ks] Z fun v σ'=>σ' = Z /\ J8 v (setOf ks):=by
 have hi:Ax.bE (vJ ks) = true:=rfl
 have e1:=cR (Z:=Z) (ty:=E.ty) hi (b_ hi)
 rw [aH q.Wm q.TW q.Xf q.Vv (args':=[vJ ks]) (by simp only [aW,e1]),a_ (by kernel_rfl)]
 simp only [aA,Tryz.f76,KP,↓reduceIte,Nat.reduceLT,reduceCtorEq,hl.sQ,hl.uO,hl.AD,pR,vJ]
 refine aL (Tx hl h hn hs) ?_
 intro r σ' ho
 obtain ⟨v',hv,hlv⟩:=uU hl ho
 simp only [KP,↓reduceIte,Nat.reduceLT,hv]
 exact hlv
theorem Yl (h:bM E) (h':sM E) (hl:Lb.eM E) (q:LN E):aB E 76 [.fR] Z fun v σ'=>σ' = Z /\ J8 v []:=by
 have e1:aY Z E.ty true .fR = some .fR:=rfl
 rw [aH q.Wm q.TW q.Xf q.Vv (args':=[.fR]) (by simp only [aW,e1]),a_ (by kernel_rfl)]
 simp only [aA,Tryz.f76,KP,↓reduceIte,Nat.reduceLT,reduceCtorEq,hl.sQ,pR]
 exact .inl ⟨rfl,rfl⟩
theorem On (h:bM E) (h':sM E) (hl:Lb.eM E) (q:LN E) {g:V} {rs:List aG} (hg:OU E rs g) (hf:Fits rs) (x:aM):aB E 23 [g,.agg [.bool x.1,.str x.2]] Z fun v σ'=>σ' = Z /\ J8 v (tE rs x):=by
 obtain ⟨es0,es1,get,A,L3,L4,rfl,hi⟩:=hg
 have him:Ax.bE (gV es0 es1 A L3 L4) = true:=rfl
 have e1:=cR (Z:=Z) (ty:=E.ty) him (b_ him)
 have e2:aY Z E.ty true (.agg [.bool x.1,.str x.2]) = some (.agg [.bool x.1,.str x.2]):=rfl
 have d3:=q.Ye
 simp only [aA,Tryz.f23,cutAt,Option.getD_some] at d3
 rw [aH q.hs23 q.Mq q.fn23 q.md23 (args':=[gV es0 es1 A L3 L4,.agg [.bool x.1,.str x.2]]) (by simp only [aW,e1,e2]),a_ (by kernel_rfl)]
 have en:pR E 41 true (.dP false [.imp false es0,.imp false es1,vJ A,.imp false (L3.map Cz),.imp false (L4.map Cz)]) .fR = some false:=by unfold pR; rw [h'.TS]
 have lk:=fun Z g=>KR (Z:=Z) (g:=g) (L:=L3) h' hl x
 rw [<- hi.need]
 cases hk:bN L3 x with
 | none=>
  rw [hk] at lk
  rw [PS hk]
  simp only [aA,Tryz.f23,KP,Ax.loadAt,↓reduceIte,Nat.reduceEqDiff,Nat.reduceLT,Nat.reduceAdd,reduceCtorEq,h.fM,h'.sD,h'.pW,gV,en,lk,bA d3,bX]
  refine aL (Yl h h' hl q) ?_
  rintro r σ' ⟨rfl,hr⟩
  rcases hr with ⟨rfl,-⟩ | ⟨full,rfl⟩
  ·simp only [KP,↓reduceIte,Nat.reduceLT]
   exact .inl ⟨rfl,rfl⟩
  ·simp only [KP,↓reduceIte,Nat.reduceLT]
   exact .inr ⟨full,rfl⟩
 | some e=>
  rw [hk] at lk
  rw [NB hk]
  simp only [aA,Tryz.f23,KP,Ax.loadAt,↓reduceIte,Nat.reduceEqDiff,Nat.reduceLT,Nat.reduceAdd,reduceCtorEq,h.fM,h'.sD,h'.pW,gV,en,lk,bA d3,bX]
  refine aL (b_of h h' hl q (hi.k3 e (hU hk).1) (hi.R8 hf hk)) ?_
  rintro r σ' ⟨rfl,hr⟩
  rcases hr with ⟨rfl,h0⟩ | ⟨full,rfl⟩
  ·simp only [KP,↓reduceIte,Nat.reduceLT]
   exact .inl ⟨rfl,h0⟩
  ·simp only [KP,↓reduceIte,Nat.reduceLT]
   exact .inr ⟨full,rfl⟩
end
end
section
section
variable {E:Env} {Z:Sg} {K:V -> Sg -> Prop}
def rH (rs:List aG) (f:aZ):Option aG:=rs.find? fun r=>decide (f ∈ r.outs)
def kindOf (rs:List aG) (x:aM):Int:=if x ∈ mH rs then (if x.1 = true then 1 else if (rH rs x.2).isSome = true then 2 else 3) else 0
theorem lK {rs:List aG} {f:aZ} {r:aG} (h:rH rs f = some r):r ∈ rs /\ f ∈ r.outs:=⟨List.mem_of_find?_eq_some h,by have:=List.find?_some h; exact of_decide_eq_true this⟩
theorem EM {rs:List aG} {f:aZ} (h:rH rs f = none):∀ r ∈ rs,f ∉ r.outs:=fun r hr hf=>by
 have:=List.find?_eq_none.1 h r hr
 exact this (decide_eq_true hf)
theorem OV.get {rs:List aG} {es0 es1:List (V × V)} {get:aZ -> Option V} {A:List aM} {L3 L4:List c_} (hi:OV E rs es0 es1 get A L3 L4) (hf:Fits rs) (f:aZ):get f = (rH rs f).map fun r=>V.str r.name:=by
 rcases hi.Ni f with ⟨h1,h2⟩ | ⟨n,⟨r,hr,hfr,rfl⟩,h2⟩
 ·rw [h1]
  cases hm:rH rs f with
  | none=>rfl
  | some r=>exact absurd ⟨r,(lK hm).1,(lK hm).2,rfl⟩ (h2 r.name)
 ·rw [h2]
  cases hm:rH rs f with
  | none=>exact absurd hfr (EM hm r hr)
  | some r'=>
   have:=(A6 hf.ok.1).short.jJ f r.name r'.name ⟨r,hr,hfr,rfl⟩ ⟨r',(lK hm).1,(lK hm).2,rfl⟩
   rw [this]; rfl
theorem Np (h:bM E) {Z:Sg} {x:V} {es:List (V × V)} {get:aZ -> Option V} (hx:entriesOf Z x = some es) (hs:SM E es get) (k:aZ):lookup E Z 104 x (.str k) false = some (match get k with | some v=>v | none=>.str []):=by
 have hk:dU E 9 (.str k) = true:=by unfold dU; rw [h.cN]
 unfold Ax.lookup
 simp only [h.zU,h.cN,hk,hx,hs.2 k,Bool.not_true,Bool.false_eq_true,if_false]
 cases get k <;> rfl
theorem QU (h:bM E) (h':sM E) (hl:Lb.eM E) (q:LN E) {g:V} {rs:List aG} (hg:OU E rs g) (hf:Fits rs) (x:aM):aB E 26 [g,.agg [.bool x.1,.str x.2]] Z K = K (.int .i64 (kindOf rs x)) Z:=by
 refine aB.of ?_
 obtain ⟨es0,es1,get,A,L3,L4,rfl,hi⟩:=hg
 have him:Ax.bE (gV es0 es1 A L3 L4) = true:=rfl
 have e1:=cR (Z:=Z) (ty:=E.ty) him (b_ him)
 have e2:aY Z E.ty true (.agg [.bool x.1,.str x.2]) = some (.agg [.bool x.1,.str x.2]):=rfl
 have d1:=q.Yd
 simp only [aA,Tryz.f26,cutAt,Option.getD_some] at d1
 have d5:=q.Yc
 simp only [aA,Tryz.f26,cutAt,Option.getD_some] at d5
 rw [aH q.hs26 q.Mp q.fn26 q.md26 (args':=[gV es0 es1 A L3 L4,.agg [.bool x.1,.str x.2]]) (by simp only [aW,e1,e2]),a_ (by kernel_rfl)]
 have en:pR E 41 true (.dP false [.imp false es0,.imp false es1,.dP false [.imp false (Lb.lV A)],.imp false (L3.map Cz),.imp false (L4.map Cz)]) .fR = some false:=by unfold pR; rw [h'.TS]
 have kh:=fun (Y:Sg)=>dO fun K=>Tr (Z:=Y) (K:=K) hl h (g:=false) (g':=false) (ks:=A) x
 have hA:decide (x ∈ A) = decide (x ∈ mH rs):=by rw [<- hi.all]; simp only [gY]
 rw [hA] at kh
 have lk:=fun Z=>Np (Z:=Z) (x:=.imp false es1) h rfl hi.sm x.2
 rw [hi.get hf] at lk
 have s0:∀ a b:aZ,sE .neq a b = some (.bool (!Ax.seq a b)):=fun a b=>rfl
 unfold kindOf
 by_cases hx:x ∈ mH rs
 ·rw [decide_eq_true hx] at kh
  rw [if_pos hx]
  cases hb:x.1 with
  | true=>
   rw [hb] at kh
   simp only [aA,Tryz.f26,KP,Ax.loadAt,↓reduceIte,Nat.reduceEqDiff,Nat.reduceLT,Nat.reduceAdd,reduceCtorEq,h.AU,h.fM,hl.sQ,hl.uO,hl.AD,h'.sD,gV,vJ,en,kh,bA d1,bX]
   exact rfl
  | false=>
   rw [hb] at kh
   cases hm:rH rs x.2 with
   | none=>
    rw [hm] at lk
    have z:Ax.seq ([]:aZ) [] = true:=rfl
    simp only [aA,Tryz.f26,KP,Ax.loadAt,↓reduceIte,Nat.reduceEqDiff,Nat.reduceLT,Nat.reduceAdd,reduceCtorEq,h.AU,h.cN,h.fM,h.zU,kS,hl.sQ,hl.uO,hl.AD,h'.sD,gV,vJ,en,kh,lk,s0,z,bA d1,bA d5,bX]
    exact rfl
   | some r=>
    rw [hm] at lk
    have z:Ax.seq r.name [] = false:=fT (H9 (hf.names r (lK hm).1).1)
    simp only [aA,Tryz.f26,KP,Ax.loadAt,↓reduceIte,Nat.reduceEqDiff,Nat.reduceLT,Nat.reduceAdd,reduceCtorEq,h.AU,h.cN,h.fM,h.zU,kS,hl.sQ,hl.uO,hl.AD,h'.sD,gV,vJ,en,kh,lk,s0,z,bA d1,bA d5,bX]
    exact rfl
 ·rw [decide_eq_false hx] at kh
  rw [if_neg hx]
  simp only [aA,Tryz.f26,KP,Ax.loadAt,↓reduceIte,Nat.reduceEqDiff,Nat.reduceLT,Nat.reduceAdd,reduceCtorEq,h.fM,hl.sQ,hl.uO,hl.AD,h'.sD,gV,vJ,en,kh,bA d1,bX]
  exact rfl
theorem Rj.ru {v:V} {x:aG} (h:Rj v x):Hh v x:=by
 obtain ⟨a,b,c,d,rfl,h1,h2,h3,h4⟩:=h
 exact ⟨a,b,c,d,rfl,h1.is,h2.is,h3.is,pE h4.is qX⟩
end
end
section
section
variable {E:Env} {Z:Sg} {K:V -> Sg -> Prop}
def jA:Lay aM:=⟨fun r x=>r = row x,2,fun _ _ h=>by rw [h]; rfl,fun _ _ h c hc=>by
 rw [h] at hc
 unfold row at hc
 simp only [List.mem_cons,List.not_mem_nil,or_false] at hc
 rcases hc with rfl | rfl <;> rfl⟩
theorem CQ:∀ l:List aM,eT jA.P (l.map row) l
 | []=>.nil
 | x :: l=>.cons rfl (CQ l)
theorem J8.isf {v:V} {l:List aM} (h:J8 v l):jZ jA v l:=h.imp id fun ⟨f,e⟩=>⟨_,f,e,CQ l⟩
theorem LV.is {v:V} {l:List aM} (h:Lb.LV v l):IS jA v l:=h.imp id fun ⟨g,f,e⟩=>⟨g,_,f,e,CQ l⟩
theorem wQ:∀ {rs:List (List V)} {l:List aM},eT jA.P rs l -> rs = l.map row
 | _,_,.nil=>rfl
 | _,_,.cons h t=>by rw [List.map_cons,<- wQ t,show _ = _ from h]
theorem IS.lv {v:V} {l:List aM} (h:IS jA v l):Lb.LV v l:=h.imp id fun ⟨g,rs,f,e,a⟩=>⟨g,f,by rw [e,wQ a]⟩
theorem B7 (h:bM E) {v:V} {l} (ia:IS jA v l) (Z:Sg):lenOf E Z 40 v = some l.length:=nD h.pV rfl (ia.ls Z 46)
theorem IG (h:bM E) {v:V} {l} (ia:IS jA v l) {i:Nat} {x} (hx:l[i]? = some x):∃ g,indexAddr E 40 v (.int .i64 (i:Int)) = some (.dP g [.bool x.1,.str x.2]):=by
 obtain ⟨g,r,h1,h2⟩:=IS.at h.pV rfl h.fM rfl ia hx
 exact ⟨g,by rw [h1,show r = row x from h2]; rfl⟩
theorem Bu (h:bM E) {v:V} {l} (ha:LS jA 46 Z v l):∃ v',aY Z E.ty true v = some v' /\ IS jA v' l:=AV h.fM rfl ha
end
end
section
section
variable {E:Env} {Z:Sg} {K:V -> Sg -> Prop}
theorem Rj.snap {Y:Sg} {v:V} {x:aG} (hv:Rj v x):aY Y E.ty false v = some v:=by
 obtain ⟨a,b,c,d,rfl,h1,h2,h3,h4⟩:=hv
 have q:∀ c:V,Ax.bE c = true -> cP false c = true -> aY.one Y E.ty false c = some c:=fun c h1 h2=>by
  unfold aY.one
  rw [show dY = 11 + 1 from rfl,jL h1]
  simp only [h2,if_true]
 show (match aW (aY.one Y E.ty false) [.str x.name,a,b,c,d] with
  | some l=>some (V.agg l)
  | none=>none) = _
 simp only [aW,q (.str x.name) rfl rfl,q a h1.is.bE h1.tag,q b h2.is.bE h2.tag,q c h3.is.bE h3.tag,q d h4.is.bE h4.tag]
theorem yW {rs:List aG} {p:aM × aM}:p ∈ rs.flatMap dI ↔ ∃ r ∈ rs,(∃ f ∈ r.ins,p = (((true,r.name):aM),((false,f):aM))) \/ ∃ f ∈ r.outs,p = (((false,f):aM),((true,r.name):aM)):=by
 rw [List.mem_flatMap]
 refine exists_congr fun r=>and_congr Iff.rfl ?_
 unfold dI
 rw [List.mem_append,List.mem_map,List.mem_map]
 exact or_congr (exists_congr fun f=>and_congr Iff.rfl eq_comm) (exists_congr fun f=>and_congr Iff.rfl eq_comm)
theorem Js {rs:List aG} {a b:aM} (hp:(a,b) ∈ rs.flatMap dI):a ∈ mH rs /\ b ∈ mH rs:=⟨BV.2 (.inr ⟨_,hp,.inl rfl⟩),BV.2 (.inr ⟨_,hp,.inr rfl⟩)⟩
end
end
structure GbL (E:Env):Prop where
 hs9:E.hspec 9 = none
 sp9:E.spec 9 = none
 fn9:E.fn 9 = some (aA Tryz.f9)
 md9:E.mode 9 = .fA
 d9_13:aO E (cutAt [1,1,1,1,1,1,0,1,2,2,1,1,0,2,1,0,1,2,2,1,1,0,2,1,0] (aA Tryz.f9).code) = true
 d9_19:aO E (cutAt [1,1,1,1,1,1,0,1,2,2,1,1,0,2,1,1,0,1,2,2,1,1,0,2,1,0] (aA Tryz.f9).code) = true
 d9_30:aO E (cutAt [1,1,1,1,1,1,0,1,2,2,1,1,0,2,1,1,1,1,1,2,1,1,1,0,1,0] (aA Tryz.f9).code) = true
 beg:∀ {Z:Sg} {K:V -> Sg -> Prop},aB E 11 [] Z K = K (.bool true) Z
section
section
variable {E:Env} {Z:Sg} {K:V -> Sg -> Prop}
theorem CO {rs:List aG} (hf:Fits rs):(mH rs).length <= 2000:=by
 have h1:=hf.Va
 have h2:=hf.len
 refine Nat.le_trans (lI (b:=rs.map gE ++ (rs.flatMap dI).flatMap fun p=>[p.1,p.2]) (Rc rs).nodup fun x hx=>gY.1 hx) ?_
 have h3:∀ P:List (aM × aM),(P.flatMap fun p=>[p.1,p.2]).length = 2 * P.length:=fun P=>by
  induction P with
  | nil=>rfl
  | cons p P ih=>rw [List.flatMap_cons,List.length_append,ih]; simp only [List.length_cons,List.length_nil]; omega
 rw [List.length_append,List.length_map,h3]
 omega
end
end
section
structure Rh (E:Env):Prop where
 hs75:E.hspec 75 = none
 sp75:E.spec 75 = none
 fn75:E.fn 75 = some (aA Tryz.f75)
 md75:E.mode 75 = .fA
 hs21:E.hspec 21 = none
 Mr:E.spec 21 = none
 fn21:E.fn 21 = some (aA Tryz.f21)
 md21:E.mode 21 = .fA
 hs29:E.hspec 29 = none
 Pc:E.spec 29 = none
 fn29:E.fn 29 = some (aA Tryz.f29)
 md29:E.mode 29 = .fA
section
variable {E:Env} {Z:Sg} {K:V -> Sg -> Prop}
theorem PG {c:Code} {s:List kH} {w:Nat} {Q:Ax.X -> Fr -> Sg -> Prop} (I:Nat -> FT -> Sg -> Prop)
  (step:∀ n F Y,I n F Y -> (∀ n' F' τ',n' < n -> I n' F' τ' -> Ax.R E (.loop c) s ⟨w,F'⟩ τ' Q) -> Ax.R E (.loop c) s ⟨w,F⟩ Y Q):∀ (n:Nat) (F:FT) (Y:Sg),I n F Y -> Ax.R E (.loop c) s ⟨w,F⟩ Y Q:=by
 intro n
 induction n using Nat.strongRecOn with
 | _ n ih=>exact fun F Y h=>step n F Y h fun n' F' τ' hn h'=>ih n' hn F' τ' h'
theorem Lc {Y:Sg} {x:aM} {ex:Bool}:elems (Y ++ [.cells 46 [.bool x.1,.str x.2] ex]) 2 (.sl Y.length 0 1 none) = some ([row x].flatten,[x].length):=by
 simp only [elems,aN]
 rfl
theorem HV (hl:Lb.eM E):iL E #[40,40] = true:=by
 unfold iL
 simp only [hl.pV,List.getElem?_toArray,List.getElem?_cons_succ,List.getElem?_cons_zero]
 rfl
theorem Fe (hl:Lb.eM E) {Y:Sg} {w:V} {l:List aM} {x:aM} {ex:Bool} (ow:bD jA 46 Y w l) (hb:l.length <= 1000000):∃ w' τ',Ax.append E (Y ++ [.cells 46 [.bool x.1,.str x.2] ex]) #[40,40] w (.sl Y.length 0 1 none) = some (w',τ') /\ bD jA 46 τ' w' (l ++ [x]) /\ Sp (Y ++ [.cells 46 [.bool x.1,.str x.2] ex]) τ' w /\ ∀ c,aT w' = some c -> aT w = some c \/ Y.length <= c:=by
 obtain ⟨w',τ',h1,h2,h3,-,h5⟩:=jR (m:=[x]) (new:=[row x]) hl.pV rfl hl.fM rfl (by decide) (HV hl) rfl (ow.app [.cells 46 [.bool x.1,.str x.2] ex]) Lc (.one rfl) (eS (b:=1000001) (by decide) (by simp only [List.length_cons,List.length_nil]; omega))
 exact ⟨w',τ',h1,h2,h3,fun c hc=>(h5 c hc).imp id fun h=>by rw [List.length_append] at h; omega⟩
def Rk (nx:aM -> List aM) (s0:aM -> Prop):Nat -> aM -> Prop
 | 0,x=>s0 x
 | k + 1,x=>Rk nx s0 k x \/ ∃ y,Rk nx s0 k y /\ x ∈ nx y
def CT (nx:aM -> List aM) (s0:aM -> Prop) (bC:Int) (x:aM):Prop:=(bC < 0 /\ ∃ n,Rk nx s0 n x) \/ (0 <= bC /\ Rk nx s0 bC.toNat x)
section
variable {nx:aM -> List aM} {s0:aM -> Prop}
theorem Rk.mono {x : aM} : ∀ {k n : Nat}, k <= n -> Rk nx s0 k x -> Rk nx s0 n x
  | k, 0, h, hx => by obtain rfl : k = 0 := by omega
                      exact hx
  | k, n + 1, h, hx => by
    rcases Nat.lt_or_ge n k with h1 | h1
    · obtain rfl : k = n + 1 := by omega
      exact hx
    · exact .inl (Rk.mono h1 hx)
theorem Rk.closed {k:Nat} (hc:∀ y x,Rk nx s0 k y -> x ∈ nx y -> Rk nx s0 k x):∀ (n:Nat) {x:aM},Rk nx s0 n x -> Rk nx s0 k x
 | 0,_,hx=>Rk.mono (Nat.zero_le k) hx
 | n + 1,_,.inl hx=>Rk.closed hc n hx
 | n + 1,_,.inr ⟨y,hy,hx⟩=>hc y _ (Rk.closed hc n hy) hx
structure Rd (nx:aM -> List aM) (s0:aM -> Prop) (k:Nat) (A now:List aM):Prop where
 all:∀ x,x ∈ A ↔ Rk nx s0 k x
 sub:∀ x,x ∈ now -> x ∈ A
 rest:∀ y,y ∈ A -> y ∉ now -> ∀ x,x ∈ nx y -> x ∈ A
theorem Rd.start {A now:List aM} (h1:∀ x,x ∈ A ↔ s0 x) (h2:∀ x,x ∈ now ↔ x ∈ A):Rd nx s0 0 A now:=⟨h1,fun x h=>(h2 x).1 h,fun y h h'=>absurd ((h2 y).2 h) h'⟩
theorem Rd.next {k:Nat} {A now A' more:List aM} (h:Rd nx s0 k A now) (h1:∀ x,x ∈ A' ↔ x ∈ A \/ ∃ y ∈ now,x ∈ nx y) (h2:∀ x,x ∈ more ↔ x ∈ A' /\ x ∉ A):Rd nx s0 (k + 1) A' more:=by
 have key:∀ y x,y ∈ A -> x ∈ nx y -> x ∈ A':=fun y x hy hx=>by
  by_cases hn:y ∈ now
  ·exact (h1 x).2 (.inr ⟨y,hn,hx⟩)
  ·exact (h1 x).2 (.inl (h.rest y hy hn x hx))
 refine ⟨fun x=>?_,fun x hx=>((h2 x).1 hx).1,fun y hy hn x hx=>?_⟩
 ·constructor
  ·intro hx
   rcases (h1 x).1 hx with hx | ⟨y,hy,hx⟩
   ·exact .inl ((h.all x).1 hx)
   ·exact .inr ⟨y,(h.all y).1 (h.sub y hy),hx⟩
  ·rintro (hx | ⟨y,hy,hx⟩)
   ·exact (h1 x).2 (.inl ((h.all x).2 hx))
   ·exact key y x ((h.all y).2 hy) hx
 ·by_cases hA:y ∈ A
  ·exact key y x hA hx
  ·exact absurd ((h2 y).2 ⟨hy,hA⟩) hn
theorem Rd.bC {k:Nat} {A now:List aM} (h:Rd nx s0 k A now) (x:aM):x ∈ A ↔ CT nx s0 (k:Int) x:=by
 rw [h.all]
 unfold CT
 constructor
 ·exact fun hx=>.inr ⟨by omega,by rw [Int.toNat_natCast]; exact hx⟩
 ·rintro (⟨h1,-⟩ | ⟨-,hx⟩)
  ·omega
  ·rw [Int.toNat_natCast] at hx; exact hx
theorem Rd.still {k:Nat} {A:List aM} {bC:Int} (h:Rd nx s0 k A []) (hk:0 <= bC -> (k:Int) <= bC) (x:aM):x ∈ A ↔ CT nx s0 bC x:=by
 have hc:∀ y x,Rk nx s0 k y -> x ∈ nx y -> Rk nx s0 k x:=fun y x hy hx=>(h.all x).1 (h.rest y ((h.all y).2 hy) (by simp) x hx)
 rw [h.all]
 unfold CT
 constructor
 ·intro hx
  by_cases hf:bC < 0
  ·exact .inl ⟨hf,k,hx⟩
  ·exact .inr ⟨by omega,Rk.mono (by have:=hk (by omega); omega) hx⟩
 ·rintro (⟨-,n,hx⟩ | ⟨-,hx⟩)
  ·exact Rk.closed hc n hx
  ·exact Rk.closed hc _ hx
theorem Rk.sub {P:aM -> Prop} (h0:∀ x,s0 x -> P x) (hn:∀ y x,x ∈ nx y -> P x):∀ (n:Nat) {x:aM},Rk nx s0 n x -> P x
 | 0,_,hx=>h0 _ hx
 | n + 1,_,.inl hx=>Rk.sub h0 hn n hx
 | n + 1,_,.inr ⟨y,_,hx⟩=>hn y _ hx
end
theorem keys_in {A:List aM} {x:aM} (hx:x ∈ A):keys A [x] = A:=if_pos hx
theorem Gn {A:List aM} {x:aM} (hx:x ∉ A):keys A [x] = A ++ [x]:=if_neg hx
theorem Vp {Y:Sg} {w:V} {l:List aM} {c:Nat} (ow:bD jA 46 Y w l) (h:aT w = some c):c < Y.length:=by
 rcases ow with ⟨rfl,-⟩ | ⟨b,rs,ex,rfl,hb,-⟩
 ·cases h
 ·cases h; exact (List.getElem?_eq_some_iff.1 hb).1
theorem M3 {Y:Sg} {w:V} {l:List aM} {c:Nat} (ow:bD jA 46 Y w l) (h:∀ u ex,Y[c]? ≠ some (.cells 46 u ex)):aT w ≠ some c:=by
 rcases ow with ⟨rfl,-⟩ | ⟨b,rs,ex,rfl,hb,-⟩
 ·intro e; cases e
 ·intro e; cases e; exact h _ _ hb
theorem M4 {Y τ':Sg} {w:V} {l:List aM} {b m:Nat} {A:List aM} (ow:bD jA 46 Y w l) (hs:Lb.bY Y b m A) (hk:Lb.Kp Y τ' m):bD jA 46 τ' w l:=ow.keep fun c o hc ho=>hk c o (fun e=>by
 subst e
 exact M3 ow (fun u ex e=>by rw [hs.map] at e; cases e) hc) ho
theorem Vo {Y τ':Sg} {w v:V} {l:List aM} (ow:bD jA 46 Y w l) (hne:∀ c,aT v = some c -> aT w ≠ some c) (hk:Sp Y τ' v):bD jA 46 τ' w l:=ow.keep fun c o hc ho=>hk c o ho fun e=>hne c e hc
theorem MG {Y τ':Sg} {w:V} {l:List aM} {b m:Nat} {A:List aM} (hs:Lb.bY Y b m A) (ow:bD jA 46 Y w l) (hk:Sp Y τ' w):Lb.bY τ' b m A:=by
 refine ⟨hk _ _ hs.obj (M3 ow fun u ex e=>?_),hk _ _ hs.map (M3 ow fun u ex e=>?_),hs.nodup⟩
 ·rw [hs.obj] at e; cases e
 ·rw [hs.map] at e; cases e
theorem NA {Y:Sg} {x:aM}:Lb.SV (Y ++ [.cells 46 [.bool x.1,.str x.2] true]) (.sl Y.length 0 1 none) [x]:=.inr (.inr ⟨Y.length,_,true,rfl,aN,rfl⟩)
end
end
section
section
variable {E:Env} {Z:Sg} {K:V -> Sg -> Prop}
def NxL (E:Env) (k:Nat) (g:V) (nx:aM -> List aM):Prop:=∀ (Z:Sg) (x:aM),aB E k [g,.agg [.bool x.1,.str x.2]] Z fun v σ'=>σ' = Z /\ J8 v (nx x)
structure Ri (nx:aM -> List aM) (all A0:List aM) (P:aM -> Prop) (A more:List aM):Prop where
 mem:∀ x,x ∈ A ↔ x ∈ A0 \/ P x
 new:∀ x,x ∈ more ↔ x ∈ A /\ x ∉ A0
 sub:∀ x,x ∈ A -> x ∈ all
 len:more.length <= A.length
 nd:A.Nodup
 up:A0.length <= A.length /\ (more ≠ [] -> A0.length < A.length)
theorem Ri.le {nx:aM -> List aM} {all A0 A more:List aM} {P:aM -> Prop} (h:Ri nx all A0 P A more) (hal:all.length <= 2000):A.length <= 2000:=Nat.le_trans (lI h.nd h.sub) hal
theorem Ri.old {nx:aM -> List aM} {all A0 A more:List aM} {P P':aM -> Prop} (h:Ri nx all A0 P A more) {x:aM} (hx:x ∈ A) (hP:∀ y,P' y ↔ P y \/ y = x):Ri nx all A0 P' A more:=⟨fun y=>by
 rw [hP,<- or_assoc,<- h.mem]
 exact ⟨.inl,fun h=>h.elim id fun e=>by rw [e]; exact hx⟩,h.new,h.sub,h.len,h.nd,h.up⟩
theorem Ri.fresh {nx:aM -> List aM} {all A0 A more:List aM} {P P':aM -> Prop} (h:Ri nx all A0 P A more) {x:aM} (hx:x ∉ A) (ha:x ∈ all) (hP:∀ y,P' y ↔ P y \/ y = x):Ri nx all A0 P' (A ++ [x]) (more ++ [x]):=by
 have hx0:x ∉ A0:=fun e=>hx ((h.mem x).2 (.inl e))
 refine ⟨fun y=>?_,fun y=>?_,fun y hy=>?_,by simp only [List.length_append,List.length_cons,List.length_nil]; have:=h.len; omega,List.nodup_append.2 ⟨h.nd,List.pairwise_singleton ..,fun a ha b hb e=>hx (by rw [List.mem_singleton] at hb; rw [<- hb,<- e]; exact ha)⟩,?_⟩
 ·rw [hP,<- or_assoc,<- h.mem,List.mem_append,List.mem_singleton]
 ·rw [List.mem_append,List.mem_append,List.mem_singleton,h.new]
  constructor
  ·rintro (⟨h1,h2⟩ | rfl)
   ·exact ⟨.inl h1,h2⟩
   ·exact ⟨.inr rfl,hx0⟩
  ·rintro ⟨h1 | h1,h2⟩
   ·exact .inl ⟨h1,h2⟩
   ·exact .inr h1
 ·rcases List.mem_append.1 hy with h1 | h1
  ·exact h.sub y h1
  ·rw [List.mem_singleton.1 h1]; exact ha
 ·have:=h.up.1
  simp only [List.length_append,List.length_cons,List.length_nil]
  exact ⟨by omega,fun _=>by omega⟩
theorem Ri.congr {nx:aM -> List aM} {all A0 A more:List aM} {P P':aM -> Prop} (h:Ri nx all A0 P A more) (hP:∀ y,P' y ↔ P y):Ri nx all A0 P' A more:=⟨fun y=>by rw [hP]; exact h.mem y,h.new,h.sub,h.len,h.nd,h.up⟩
theorem mD {l:List aM} {j:Nat} {x:aM} (hj:l[j]? = some x) (y:aM):y ∈ l.take (j + 1) ↔ y ∈ l.take j \/ y = x:=by
 rw [List.take_add_one,hj]
 simp
theorem xK (a:Bool) (s:aZ):Ax.fill (fun j=>some (j * 2,2)) (gK 1 [V.bool false,V.str []]) [(0,V.agg [V.bool a,V.str s])] = some [.bool a,.str s]:=rfl
theorem Sn (hl:Lb.eM E) {Y:Sg} {w:V} {l:List aM} (on:bD jA 46 Y w l) {i:Nat} {y:aM} (hy:l[i]? = some y):∃ b o u cs ex,indexAddr E 40 w (.int .i64 (i:Int)) = some (.ref b o) /\ Y[b]? = some (.cells u cs ex) /\ o + 2 <= cs.length /\ (cs.drop o).take 2 = row y:=by
 obtain ⟨p,r0,e1,hr0,-,-,hp⟩:=Ea hl.pV rfl hl.fM rfl on.ls hy
 obtain rfl:r0 = row y:=hr0
 rcases hp with ⟨g,rfl⟩ | ⟨b,o,rfl,u,cs,ex,hb,hle,hrow⟩
 ·exfalso
  rcases on with ⟨rfl,rfl⟩ | ⟨b,rs,ex,rfl,hb,-⟩
  ·cases hy
  ·unfold indexAddr at e1
   simp only [hl.pV,hl.fM] at e1
   repeat' split at e1
   all_goals cases e1
 ·exact ⟨b,o,u,cs,ex,e1,hb,hle,hrow⟩
theorem Sb (h:bM E) (h':sM E) (hl:Lb.eM E) (q:LN E) (rc:Rh E) {k b m:Nat} {g:V} {nx:aM -> List aM} (hnx:NxL E k g nx) {all:List aM} (hall:∀ x y,y ∈ nx x -> y ∈ all) (hlen:all.length <= 2000) (hnl:∀ x,(nx x).length <= 2000) {A0 A more now:List aM} {P P':aM -> Prop} {wn wm:V} {i:Nat} {y:aM}
  {Y:Sg} (hs:Lb.bY Y b m A) (on:bD jA 46 Y wn now) (om:bD jA 46 Y wm more) (hne:∀ c,aT wm = some c -> aT wn ≠ some c) (hy:now[i]? = some y) (ri:Ri nx all A0 P A more) (hP:∀ x,P' x ↔ P x \/ x ∈ nx y)
  (F:FT) (g2:F.get 2 = .fn k [g] []) (g9:F.get 9 = .ref b 0) (g13:F.get 13 = wm) (g50:F.get 50 = wn) (g52:F.get 52 = .int .i64 (i:Int)) {st:List kH} {Q:Ax.X -> Fr -> Sg -> Prop}
  (hk:∀ F' τ' wm' A' more',(∀ k,k ∈ [1,2,9,50,51,52] -> F'.get k = F.get k) -> F'.get 13 = wm' -> Lb.bY τ' b m A' -> bD jA 46 τ' wn now -> bD jA 46 τ' wm' more' -> (∀ c,aT wm' = some c -> aT wn ≠ some c) -> Ri nx all A0 P' A' more' -> M E st .normal ⟨80,F'⟩ τ' Q):Ax.R E (cutAt [1,1,1,1,0,2,2,1,0,2,1,0,1,2,2,1,1,0,2] (aA Tryz.f75).code) st ⟨80,F⟩ Y Q:=by
 obtain ⟨c,o,u,cs,ex,e1,hc,hle,hrow⟩:=Sn hl on hy
 simp only [aA,Tryz.f75,KP,Ax.loadAt,Ax.storeAt,↓reduceIte,Nat.reduceEqDiff,Nat.reduceLT,Nat.reduceAdd,h.fM,cutAt,g2,g50,g52,e1,hc,hle,hrow,row,aN,cF]
 refine aL (hnx _ y) ?_
 rintro v σ' ⟨rfl,hv⟩
 have hvi:=hv.isf.is
 have la:=B7 h hvi
 have hnl:=hnl y
 have hs1:=hs.jX (Lb.kZ.app Y [O.cells 46 [.bool y.1,.str y.2] true])
 have on1:=on.app [O.cells 46 [.bool y.1,.str y.2] true]
 have om1:=om.app [O.cells 46 [.bool y.1,.str y.2] true]
 generalize Y ++ [O.cells 46 [.bool y.1,.str y.2] true] = τ1 at hs1 on1 om1 ⊢
 simp only [KP,↓reduceIte,Nat.reduceLT,la]
 have hadl:nx y ⊆ all:=fun x hx=>hall y x hx
 generalize nx y = L at hvi hv la hnl hP hadl
 refine aR (fun j F2 τ2=>(∀ k,k ∈ [1,2,9,50,51,52] -> F2.get k = F.get k) /\ F2.get 58 = v /\ F2.get 59 = .int .i64 (L.length:Int) /\ F2.get 60 = .int .i64 (j:Int) /\ ∃ A more wm,F2.get 13 = wm /\ Lb.bY τ2 b m A /\ bD jA 46 τ2 wn now /\ bD jA 46 τ2 wm more /\ (∀ c,aT wm = some c -> aT wn ≠ some c) /\ Ri nx all A0 (fun x=>P x \/ x ∈ L.take j) A more) L.length ?_ ?_ L.length 0 _ _ (by omega) ⟨?_,(fE (by simp +decide only [GS,and_self]) ⟨A,more,wm,(by simp +decide only [GS,g13]),hs1,on1,om1,hne,ri.congr fun x=>by simp⟩)⟩
 ·rintro j F2 τ2 hj ⟨hF,g58,g59,g60,A,more,wm,g13,hs,on,om,hne,ri⟩ next
  obtain ⟨x,hx⟩:∃ x,L[j]? = some x:=⟨_,List.getElem?_eq_getElem hj⟩
  obtain ⟨gi,e1⟩:=IG h hvi hx
  have hlt:=dN hj
  have hadd:=bV j (by omega)
  have f9:F2.get 9 = .ref b 0:=(hF 9 (by simp)).trans g9
  have hAl:=ri.le hlen
  have hml:=ri.len
  rw [aF]
  simp only [KP,Ax.loadAt,Ax.storeAt,↓reduceIte,Nat.reduceEqDiff,Nat.reduceLT,Nat.reduceLeDiff,Nat.reduceAdd,Nat.reduceMul,h.pV,h.fM,f9,g58,g59,g60,hlt,e1,aN,cF,xK]
  have hs2:=hs.jX (Lb.kZ.app τ2 [O.cells 46 [.bool x.1,.str x.2] true])
  have on2:=on.app [O.cells 46 [.bool x.1,.str x.2] true]
  have om2:=om.app [O.cells 46 [.bool x.1,.str x.2] true]
  have hz2:(τ2 ++ [O.cells 46 [.bool x.1,.str x.2] true])[τ2.length]? = some (O.cells 46 [.bool x.1,.str x.2] true):=aN
  generalize τ2 ++ [O.cells 46 [.bool x.1,.str x.2] true] = τ3 at hs2 on2 om2 hz2 ⊢
  generalize τ2.length = z at hz2 ⊢
  refine aL (Lb.G5 hl (hs2.jX (Lb.kZ.app τ3 [O.cells 46 [.bool x.1,.str x.2] true])) NA (show 1 <= 10000000000 by omega) (by omega)) ?_
  rintro v4 τ4 ⟨rfl,hs4,hk4⟩
  have Qc:=hs2.jX (Lb.kZ.app τ3 [O.cells 46 [.bool x.1,.str x.2] true])
  have on4:=M4 (on2.app _) Qc hk4
  have om4:=M4 (om2.app _) Qc hk4
  have hz4:=hk4 _ _ (fun e=>by
   have:=hs2.map
   rw [<- e,hz2] at this
   cases this) (aP (x:=O.cells 46 [.bool x.1,.str x.2] true) hz2)
  by_cases hxA:x ∈ A
  ·rw [keys_in hxA] at hs4 ⊢
   have hd:((A.length:Int) - (A.length:Int)) = 0:=by omega
   rw [hd]
   simp only [KP,↓reduceIte,Nat.reduceEqDiff,Nat.reduceLT,Int.reduceLT,g60,hadd]
   refine next _ _ ⟨?_,(fE (by simp +decide only [GS,g58,g59,and_self]) ⟨A,more,wm,(by simp +decide only [GS,g13]),hs4,on4.keep fun c o _ hc=>hc,om4,hne,ri.old hxA fun y=>?_⟩)⟩
   ·intro k hk
    rw [<- hF k hk]
    simp only [List.mem_cons,List.not_mem_nil,or_false] at hk
    rcases hk with rfl | rfl | rfl | rfl | rfl | rfl <;> simp +decide only [GS]
   ·rw [or_assoc,mD hx]
  ·rw [Gn hxA] at hs4 ⊢
   have hd:(((A ++ [x]).length:Int) - (A.length:Int)) = 1:=by rw [List.length_append,List.length_cons,List.length_nil]; omega
   rw [hd]
   obtain ⟨w',τ5,ha5,ow5,Rm,fr5⟩:=Fe (x:=x) (ex:=true) hl om4 (by omega)
   simp only [KP,Ax.loadAt,↓reduceIte,Nat.reduceEqDiff,Nat.reduceLT,Nat.reduceLeDiff,Nat.reduceAdd,Nat.reduceMul,Int.reduceLT,h.pV,h.fM,hz4,g13,xK,ha5,g60,hadd]
   refine next _ _ ⟨?_,(fE (by simp +decide only [GS,g58,g59,and_self]) ⟨A ++ [x],more ++ [x],w',(by simp +decide only [GS]),MG (hs4.jX (Lb.kZ.app τ4 _)) (om4.app _) Rm,Vo (on4.app _) (fun c hc=>hne c hc) Rm,ow5,fun c hc=>?_,ri.fresh hxA (hadl (List.mem_of_getElem? hx)) fun y=>?_⟩)⟩
   ·intro k hk
    rw [<- hF k hk]
    simp only [List.mem_cons,List.not_mem_nil,or_false] at hk
    rcases hk with rfl | rfl | rfl | rfl | rfl | rfl <;> simp +decide only [GS]
   ·rcases fr5 c hc with hc | hc
    ·exact hne c hc
    ·exact fun e=>by have:=Vp on4 e; omega
   ·rw [or_assoc,mD hx]
 ·rintro F2 τ2 ⟨hF,g58,g59,g60,A,more,wm,g13,hs,on,om,hne,ri⟩
  have hlt:=dQ (Nat.lt_irrefl L.length)
  rw [List.take_of_length_le (Nat.le_refl _)] at ri
  rw [aF]
  simp only [KP,↓reduceIte,Nat.reduceLT,g59,g60,hlt]
  refine hk _ _ wm A more ?_ (by simp +decide only [GS,g13]) hs on om hne (ri.congr hP)
  intro k hk
  rw [<- hF k hk]
  simp only [List.mem_cons,List.not_mem_nil,or_false] at hk
  rcases hk with rfl | rfl | rfl | rfl | rfl | rfl <;> simp +decide only [GS]
 ·intro k hk
  simp only [List.mem_cons,List.not_mem_nil,or_false] at hk
  rcases hk with rfl | rfl | rfl | rfl | rfl | rfl <;> simp +decide only [GS]
end
end
section
section
variable {E:Env} {Z:Sg} {K:V -> Sg -> Prop}
structure Sd (rs:List aG) (l A now:List aM):Prop where
 mem:∀ x,x ∈ A ↔ x ∈ l /\ x ∈ mH rs
 nw:∀ x,x ∈ now ↔ x ∈ A
 len:now.length <= A.length
theorem Sd.old {rs:List aG} {ls A now:List aM} {j:Nat} {x:aM} (h:Sd rs (ls.take j) A now) (hx:ls[j]? = some x) (hA:x ∈ mH rs -> x ∈ A):Sd rs (ls.take (j + 1)) A now:=⟨fun y=>by
 rw [h.mem,mD hx]
 constructor
 ·exact fun e=>⟨.inl e.1,e.2⟩
 ·rintro ⟨e | rfl,e2⟩
  ·exact ⟨e,e2⟩
  ·exact (h.mem _).1 (hA e2),h.nw,h.len⟩
theorem Sd.fresh {rs:List aG} {ls A now:List aM} {j:Nat} {x:aM} (h:Sd rs (ls.take j) A now) (hx:ls[j]? = some x) (ha:x ∈ mH rs):Sd rs (ls.take (j + 1)) (A ++ [x]) (now ++ [x]):=⟨fun y=>by
 rw [List.mem_append,h.mem,mD hx,List.mem_singleton]
 constructor
 ·rintro (e | rfl)
  ·exact ⟨.inl e.1,e.2⟩
  ·exact ⟨.inr rfl,ha⟩
 ·rintro ⟨e | rfl,e2⟩
  ·exact .inl ⟨e,e2⟩
  ·exact .inr rfl,fun y=>by rw [List.mem_append,List.mem_append,h.nw],by have:=h.len; rw [List.length_append,List.length_append]; omega⟩
theorem PU {rs:List aG} {x:aM} (hx:x ∈ mH rs):kindOf rs x ≠ 0:=by
 unfold kindOf
 rw [if_pos hx]
 split
 ·decide
 ·split <;> decide
theorem NC {rs:List aG} {x:aM} (hx:x ∉ mH rs):kindOf rs x = 0:=if_neg hx
theorem Pt (h:bM E) (h':sM E) (hl:Lb.eM E) (q:LN E) (rc:Rh E) {g:V} {rs:List aG} (hg:OU E rs g) (hf:Fits rs) {b m:Nat} {lv bC nf:V} {ls:List aM} (iv:IS jA lv ls) (hls:ls.length <= 1000000) {Y:Sg} (hs:Lb.bY Y b m [])
  (F:FT) (g0:F.get 0 = g) (g3:F.get 3 = lv) (g9:F.get 9 = .ref b 0) (g10:F.get 10 = .aC) {st:List kH} {Q:Ax.X -> Fr -> Sg -> Prop}
  (hk:∀ F' τ' wn A now,(∀ k,k ∈ [0,1,2,9] -> F'.get k = F.get k) -> F'.get 10 = wn -> Lb.bY τ' b m A -> bD jA 46 τ' wn now -> Sd rs ls A now -> M E st .normal ⟨80,F'⟩ τ' Q):Ax.R E (cutAt [1,1,1,0] (aA Tryz.f75).code) st ⟨80,F⟩ Y Q:=by
 have la:=B7 h iv
 simp only [aA,Tryz.f75,KP,↓reduceIte,Nat.reduceLT,cutAt,g3,la]
 refine aR (fun i F2 τ2=>(∀ k,k ∈ [0,1,2,9] -> F2.get k = F.get k) /\ F2.get 19 = lv /\ F2.get 20 = .int .i64 (ls.length:Int) /\ F2.get 21 = .int .i64 (i:Int) /\ ∃ A now wn,F2.get 10 = wn /\ Lb.bY τ2 b m A /\ bD jA 46 τ2 wn now /\ Sd rs (ls.take i) A now) ls.length ?_ ?_ ls.length 0 _ _ (by omega) ⟨?_,(fE (by simp +decide only [GS,and_self]) ⟨[],[],.aC,(by simp +decide only [GS,g10]),hs,.inl ⟨rfl,rfl⟩,(fun x=>by simp),(fun x=>by simp),Nat.le_refl _⟩)⟩
 ·rintro j F2 τ2 hj ⟨hF,g19,g20,g21,A,now,wn,g10,hs,on,sd⟩ next
  obtain ⟨x,hx⟩:∃ x,ls[j]? = some x:=⟨_,List.getElem?_eq_getElem hj⟩
  obtain ⟨gi,e1⟩:=IG h iv hx
  have hlt:=dN hj
  have hadd:=bV j (by omega)
  have f0:F2.get 0 = g:=(hF 0 (by simp)).trans g0
  have f9:F2.get 9 = .ref b 0:=(hF 9 (by simp)).trans g9
  have hAl:A.length <= 2000:=Nat.le_trans (lI hs.nodup fun y hy=>((sd.mem y).1 hy).2) (CO hf)
  have hnl:=sd.len
  have kk:=fun (Y:Sg)=>dO fun K=>QU (Z:=Y) (K:=K) h h' hl q hg hf x
  rw [aF]
  by_cases hxa:x ∈ mH rs
  ·have hkd:=PU hxa
   generalize kindOf rs x = kd at kk hkd
   have hkd:decide (kd = 0) = false:=decide_eq_false hkd
   simp only [KP,Ax.loadAt,Ax.storeAt,↓reduceIte,Nat.reduceEqDiff,Nat.reduceLT,Nat.reduceLeDiff,Nat.reduceAdd,Nat.reduceMul,reduceCtorEq,h.pV,h.fM,f0,f9,g19,g20,g21,hlt,e1,kk,hkd,aN,cF,xK]
   have hs2:=hs.jX (Lb.kZ.app τ2 [O.cells 46 [.bool x.1,.str x.2] true])
   have on2:=on.app [O.cells 46 [.bool x.1,.str x.2] true]
   have hz2:(τ2 ++ [O.cells 46 [.bool x.1,.str x.2] true])[τ2.length]? = some (O.cells 46 [.bool x.1,.str x.2] true):=aN
   generalize τ2 ++ [O.cells 46 [.bool x.1,.str x.2] true] = τ3 at hs2 on2 hz2 ⊢
   generalize τ2.length = z at hz2 ⊢
   have Qc:=hs2.jX (Lb.kZ.app τ3 [O.cells 46 [.bool x.1,.str x.2] true])
   refine aL (Lb.G5 hl Qc NA (show 1 <= 10000000000 by omega) (by omega)) ?_
   rintro v4 τ4 ⟨rfl,hs4,hk4⟩
   have on4:=M4 (on2.app _) Qc hk4
   have hz4:=hk4 _ _ (fun e=>by
    have:=hs2.map
    rw [<- e,hz2] at this
    cases this) (aP (x:=O.cells 46 [.bool x.1,.str x.2] true) hz2)
   by_cases hxA:x ∈ A
   ·rw [keys_in hxA] at hs4 ⊢
    have hd:((A.length:Int) - (A.length:Int)) = 0:=by omega
    rw [hd]
    simp only [KP,↓reduceIte,Nat.reduceEqDiff,Nat.reduceLT,Int.reduceLT,g21,hadd]
    refine next _ _ ⟨?_,(fE (by simp +decide only [GS,g19,g20,and_self]) ⟨A,now,wn,(by simp +decide only [GS,g10]),hs4,on4,sd.old hx fun _=>hxA⟩)⟩
    intro k hk
    rw [<- hF k hk]
    simp only [List.mem_cons,List.not_mem_nil,or_false] at hk
    rcases hk with rfl | rfl | rfl | rfl <;> simp +decide only [GS]
   ·rw [Gn hxA] at hs4 ⊢
    have hd:(((A ++ [x]).length:Int) - (A.length:Int)) = 1:=by rw [List.length_append,List.length_cons,List.length_nil]; omega
    rw [hd]
    obtain ⟨w',τ5,ha5,ow5,Rm,-⟩:=Fe (x:=x) (ex:=true) hl on4 (by omega)
    simp only [KP,Ax.loadAt,↓reduceIte,Nat.reduceEqDiff,Nat.reduceLT,Nat.reduceLeDiff,Nat.reduceAdd,Nat.reduceMul,Int.reduceLT,h.pV,h.fM,hz4,g10,xK,ha5,g21,hadd]
    refine next _ _ ⟨?_,(fE (by simp +decide only [GS,g19,g20,and_self]) ⟨A ++ [x],now ++ [x],w',(by simp +decide only [GS]),MG (hs4.jX (Lb.kZ.app τ4 _)) (on4.app _) Rm,ow5,sd.fresh hx hxa⟩)⟩
    intro k hk
    rw [<- hF k hk]
    simp only [List.mem_cons,List.not_mem_nil,or_false] at hk
    rcases hk with rfl | rfl | rfl | rfl <;> simp +decide only [GS]
  ·have hkd:=NC hxa
   rw [hkd] at kk
   simp only [KP,Ax.loadAt,Ax.storeAt,↓reduceIte,Nat.reduceEqDiff,Nat.reduceLT,Nat.reduceAdd,reduceCtorEq,h.fM,f0,g19,g20,g21,hlt,e1,kk,hadd,aN,cF]
   refine next _ _ ⟨?_,(fE (by simp +decide only [GS,g19,g20,and_self]) ⟨A,now,wn,(by simp +decide only [GS,g10]),hs.jX (Lb.kZ.app τ2 _),on.app _,sd.old hx fun e=>absurd e hxa⟩)⟩
   intro k hk
   rw [<- hF k hk]
   simp only [List.mem_cons,List.not_mem_nil,or_false] at hk
   rcases hk with rfl | rfl | rfl | rfl <;> simp +decide only [GS]
 ·rintro F2 τ2 ⟨hF,g19,g20,g21,A,now,wn,g10,hs,on,sd⟩
  have hlt:=dQ (Nat.lt_irrefl ls.length)
  rw [List.take_of_length_le (Nat.le_refl _)] at sd
  rw [aF]
  simp only [KP,↓reduceIte,Nat.reduceLT,g20,g21,hlt]
  refine hk _ _ wn A now ?_ (by simp +decide only [GS,g10]) hs on sd
  intro k hk
  rw [<- hF k hk]
  simp only [List.mem_cons,List.not_mem_nil,or_false] at hk
  rcases hk with rfl | rfl | rfl | rfl <;> simp +decide only [GS]
 ·intro k hk
  simp only [List.mem_cons,List.not_mem_nil,or_false] at hk
  rcases hk with rfl | rfl | rfl | rfl <;> simp +decide only [GS]
end
end
section
section
variable {E:Env} {Z:Sg} {K:V -> Sg -> Prop}
theorem Ky (h:bM E) (h':sM E) (hl:Lb.eM E) (q:LN E) (rc:Rh E) {k0 b m:Nat} {g:V} {nx:aM -> List aM} (hnx:NxL E k0 g nx) {all:List aM} (hall:∀ x y,y ∈ nx x -> y ∈ all) (hlen:all.length <= 2000) (hnl:∀ x,(nx x).length <= 2000) {s0:aM -> Prop} {bC:Int} (hf1:-1 <= bC) (hf2:bC <= 9223372036854775807)
  {A now:List aM} {wn:V} {Y:Sg} (hs:Lb.bY Y b m A) (on:bD jA 46 Y wn now) (hA:∀ x,x ∈ A ↔ s0 x) (hn:∀ x,x ∈ now ↔ x ∈ A) (hsub:∀ x,x ∈ A -> x ∈ all) (hnlen:now.length <= A.length)
  (F:FT) (g1:F.get 1 = .int .i64 bC) (g2:F.get 2 = .fn k0 [g] []) (g9:F.get 9 = .ref b 0) (g10:F.get 10 = wn) {st:List kH} {Q:Ax.X -> Fr -> Sg -> Prop}
  (hk:∀ F' τ' A',F'.get 9 = .ref b 0 -> Lb.bY τ' b m A' -> (∀ x,x ∈ A' -> x ∈ all) -> (∀ x,x ∈ A' ↔ CT nx s0 bC x) -> M E st .normal ⟨80,F'⟩ τ' Q):Ax.R E (cutAt [1,1,1,1,0] (aA Tryz.f75).code) st ⟨80,F⟩ Y Q:=by
 have one:=fun {A0 A more now P P' wn wm i y Y} hs on om hne hy ri hP F g2 g9 g13 g50 g52 st Q hk=>Sb (k:=k0) (b:=b) (m:=m) (A0:=A0) (A:=A) (more:=more) (now:=now) (P:=P) (P':=P') (wn:=wn) (wm:=wm) (i:=i) (y:=y) (Y:=Y) h h' hl q rc hnx hall hlen hnl hs on om hne hy ri hP F g2 g9 g13 g50 g52 (st:=st) (Q:=Q) hk
 rw [show (cutAt [1,1,1,1,0] (aA Tryz.f75).code) = .block 2 (.loop (.seq (cutAt [1,1,1,1,0,2,2,0] (aA Tryz.f75).code) (.seq (.block 3 (.seq (cutAt [1,1,1,1,0,2,2,1,0,2,0] (aA Tryz.f75).code) (.seq (.seq (cutAt [1,1,1,1,0,2,2,1,0,2,1,0,0] (aA Tryz.f75).code) (.block 4 (.loop (.seq (cutAt [1,1,1,1,0,2,2,1,0,2,1,0,1,2,2,0] (aA Tryz.f75).code) (.seq (cutAt [1,1,1,1,0,2,2,1,0,2,1,0,1,2,2,1,0] (aA Tryz.f75).code) (.seq (.block 5 (cutAt [1,1,1,1,0,2,2,1,0,2,1,0,1,2,2,1,1,0,2] (aA Tryz.f75).code)) (cutAt [1,1,1,1,0,2,2,1,0,2,1,0,1,2,2,1,1,1] (aA Tryz.f75).code))))))) (cutAt [1,1,1,1,0,2,2,1,0,2,1,1] (aA Tryz.f75).code)))) (cutAt [1,1,1,1,0,2,2,1,1] (aA Tryz.f75).code)))) from rfl]
 generalize cutAt [1,1,1,1,0,2,2,1,0,2,1,0,1,2,2,1,1,0,2] (aA Tryz.f75).code = B at one ⊢
 simp only [aA,Tryz.f75,KP,cutAt]
 refine PG (fun n F Y=>∃ (k:Nat) (A now:List aM) (wn:V),F.get 1 = .int .i64 (bC - (k:Int)) /\ F.get 2 = .fn k0 [g] [] /\ F.get 9 = .ref b 0 /\ F.get 10 = wn /\ Lb.bY Y b m A /\ bD jA 46 Y wn now /\ Rd nx s0 k A now /\ (∀ x,x ∈ A -> x ∈ all) /\ now.length <= A.length /\ (k <= A.length + 1 /\ (now ≠ [] -> k <= A.length)) /\ (0 <= bC -> (k:Int) <= bC) /\ ((now = [] /\ n = 2 * (2001 - A.length)) \/ (now ≠ [] /\ n = 2 * (2001 - A.length) + 1))) ?_ (2 * (2001 - A.length) + (if now = [] then 0 else 1)) _ _ ⟨0,A,now,wn,?_,(by simp +decide only [g2]),(by simp +decide only [g9]),(by simp +decide only [g10]),hs,on,Rd.start hA hn,hsub,hnlen,⟨by omega,fun _=>by omega⟩,fun _=>by omega,?_⟩
 ·clear hs on hA hn hsub hnlen g1 g2 g9 g10
  rintro n F Y ⟨k,A,now,wn,g1,g2,g9,g10,hs,on,rd,hsub,hnlen,hkl,hkf,hn⟩ next
  have hAl:A.length <= 2000:=Nat.le_trans (lI hs.nodup hsub) hlen
  have la:=fun (Z:Sg) (o:bD jA 46 Z wn now)=>nD hl.pV rfl o.ls
  have ln:=la _ on
  rw [aF]
  by_cases h0:now = []
  ·subst h0
   rw [List.length_nil] at ln
   simp only [KP,↓reduceIte,Nat.reduceEqDiff,Nat.reduceLT,Int.reduceLT,g10,ln]
   exact hk _ _ A (by simp +decide only [GS,g9]) hs hsub (rd.still hkf)
  by_cases hz:bC - (k:Int) = 0
  ·have hgt:decide ((0:Int) < (now.length:Int)) = true:=decide_eq_true (by have:=List.length_pos_iff.2 h0; omega)
   rw [hz] at g1
   simp only [KP,↓reduceIte,Nat.reduceEqDiff,Nat.reduceLT,g1,g10,ln,hgt]
   refine hk _ _ A (by simp +decide only [GS,g9]) hs hsub fun x=>?_
   rw [rd.bC,show (k:Int) = bC by omega]
  have hgt:decide ((0:Int) < (now.length:Int)) = true:=decide_eq_true (by have:=List.length_pos_iff.2 h0; omega)
  have hzd:decide (bC - (k:Int) = 0) = false:=decide_eq_false hz
  simp only [KP,↓reduceIte,Nat.reduceEqDiff,Nat.reduceLT,g1,g10,ln,hgt,hzd]
  have hnl2:now.length <= 2000:=by omega
  refine aR (fun i F2 τ2=>F2.get 1 = .int .i64 (bC - (k:Int)) /\ F2.get 2 = .fn k0 [g] [] /\ F2.get 9 = .ref b 0 /\ F2.get 50 = wn /\ F2.get 51 = .int .i64 (now.length:Int) /\ F2.get 52 = .int .i64 (i:Int) /\ ∃ A' more wm,F2.get 13 = wm /\ Lb.bY τ2 b m A' /\ bD jA 46 τ2 wn now /\ bD jA 46 τ2 wm more /\ (∀ c,aT wm = some c -> aT wn ≠ some c) /\ Ri nx all A (fun x=>∃ y ∈ now.take i,x ∈ nx y) A' more) now.length ?_ ?_ now.length 0 _ _ (by omega) (CI (by simp +decide only [GS,g1,g2,g9,and_self]) ⟨A,[],.aC,(by simp +decide only [GS]),hs,on,.inl ⟨rfl,rfl⟩,(fun c hc=>by cases hc),⟨fun x=>by simp,(fun x=>by simp),hsub,Nat.zero_le _,hs.nodup,Nat.le_refl _,fun e=>absurd rfl e⟩⟩)
  ·clear hs on g1 g2 g9
   rintro i F2 τ2 hi ⟨g1,g2,g9,g50,g51,g52,A',more,wm,g13,hs,on,om,hne,ri⟩ next2
   obtain ⟨y,hy⟩:∃ y,now[i]? = some y:=⟨_,List.getElem?_eq_getElem hi⟩
   have hlt:=dN hi
   have hadd:=bV i (by omega)
   rw [aF]
   simp only [KP,↓reduceIte,Nat.reduceLT,g51,g52,hlt]
   refine one hs on om hne hy ri (P':=fun x=>∃ y ∈ now.take (i + 1),x ∈ nx y) (fun x=>?_) _ ?_ ?_ ?_ ?_ ?_ _ _ (fun F3 τ3 wm' A3 more' hF g13' hs' on' om' hne' ri'=>?_)
   ·constructor
    ·rintro ⟨z,hz,hx⟩
     rcases (mD hy z).1 hz with h1 | rfl
     ·exact .inl ⟨z,h1,hx⟩
     ·exact .inr hx
    ·rintro (⟨z,hz,hx⟩ | hx)
     ·exact ⟨z,(mD hy z).2 (.inl hz),hx⟩
     ·exact ⟨y,(mD hy y).2 (.inr rfl),hx⟩
   ·simp +decide only [GS,g2]
   ·simp +decide only [GS,g9]
   ·simp +decide only [GS,g13]
   ·simp +decide only [GS,g50]
   ·simp +decide only [GS,g52]
   have q1:F3.get 1 = .int .i64 (bC - (k:Int)):=(hF 1 (by simp)).trans (by simp +decide only [GS,g1])
   have q2:F3.get 2 = .fn k0 [g] []:=(hF 2 (by simp)).trans (by simp +decide only [GS,g2])
   have q9:F3.get 9 = .ref b 0:=(hF 9 (by simp)).trans (by simp +decide only [GS,g9])
   have q50:F3.get 50 = wn:=(hF 50 (by simp)).trans (by simp +decide only [GS,g50])
   have q51:F3.get 51 = .int .i64 (now.length:Int):=(hF 51 (by simp)).trans (by simp +decide only [GS,g51])
   have q52:F3.get 52 = .int .i64 (i:Int):=(hF 52 (by simp)).trans (by simp +decide only [GS,g52])
   simp only [KP,↓reduceIte,Nat.reduceLT,q52,hadd]
   exact next2 _ _ (CI (by simp +decide only [GS,q1,q2,q9,q50,q51,and_self]) ⟨A3,more',wm',(by simp +decide only [GS,g13']),hs',on',om',hne',ri'⟩)
  ·clear hs on g1 g2 g9
   rintro F2 τ2 ⟨g1,g2,g9,g50,g51,g52,A',more,wm,g13,hs,on,om,hne,ri⟩
   have hlt:=dQ (Nat.lt_irrefl now.length)
   rw [List.take_of_length_le (Nat.le_refl _)] at ri
   have hA'l:=ri.le hlen
   have hw:wr .i64 (bC - (k:Int) - 1) = bC - ((k + 1:Nat):Int):=by
    rw [Rl _ (by omega) (by omega)]
    omega
   rw [aF]
   simp only [KP,↓reduceIte,Nat.reduceEqDiff,Nat.reduceLT,g1,g13,g51,g52,hlt,hw]
   have hup:=ri.up
   refine next (2 * (2001 - A'.length) + (if more = [] then 0 else 1)) _ _ ?_ ⟨k + 1,A',more,wm,(fZ (by simp +decide only [GS,g2,g9,and_self]) ⟨hs,om,rd.next ri.mem ri.new,ri.sub,ri.len,?_,?_,?_⟩)⟩
   ·rcases hn with ⟨h1,-⟩ | ⟨-,rfl⟩
    ·exact absurd h1 h0
    ·by_cases hm:more = []
     ·rw [if_pos hm]; omega
     ·rw [if_neg hm]; have:=hup.2 hm; omega
   ·have:=hkl.2 h0
    exact ⟨by omega,fun hm=>by have:=hup.2 hm; omega⟩
   ·intro hf; have:=hkf hf; omega
   ·by_cases hm:more = []
    ·exact .inl ⟨hm,by rw [if_pos hm]; rfl⟩
    ·exact .inr ⟨hm,by rw [if_neg hm]⟩
 ·rw [show bC - ((0:Nat):Int) = bC from by omega]
  simp +decide only [g1]
 ·by_cases h0:now = []
  ·exact .inl ⟨h0,by rw [if_pos h0]; rfl⟩
  ·exact .inr ⟨h0,by rw [if_neg h0]⟩
end
end
section
section
variable {E:Env} {Z:Sg} {K:V -> Sg -> Prop}
theorem OU.bE {g:V} {rs:List aG} (hg:OU E rs g):Ax.bE g = true:=by
 obtain ⟨es0,es1,get,A,L3,L4,rfl,-⟩:=hg
 rfl
theorem R7 {g:V} {rs:List aG} (hg:OU E rs g) (k:Nat) (Z:Sg):aY Z E.ty true (.fn k [g] []) = some (.fn k [g] []):=by
 have e:=cR (Z:=Z) (ty:=E.ty) hg.bE (b_ hg.bE)
 obtain ⟨es0,es1,get,A,L3,L4,rfl,-⟩:=hg
 have e':aY.one Z E.ty true (gV es0 es1 A L3 L4) = some (gV es0 es1 A L3 L4):=e
 show (match aW (aY.one Z E.ty true) [gV es0 es1 A L3 L4],aW (aY.one Z E.ty true) [] with
  | some a,some b=>some (V.fn k a b)
  | _,_=>none) = _
 simp only [aW,e']
theorem J8.cW {v:V} {l:List aM} (hv:J8 v l) (Y:Sg):cW Y E.ty false v = some v:=by
 rcases hv with ⟨rfl,-⟩ | ⟨full,rfl⟩ <;> rfl
theorem M9 {rs:List aG} (x y:aM) (hy:y ∈ tE rs x):y ∈ mH rs:=(Js (qE.1 hy)).2
theorem QO (h:bM E) (h':sM E) (hl:Lb.eM E) (q:LN E) (rc:Rh E) {k0:Nat} {g:V} {rs:List aG} (hg:OU E rs g) (hf:Fits rs) {nx:aM -> List aM} (hnx:NxL E k0 g nx) (hall:∀ x y,y ∈ nx x -> y ∈ mH rs) (hup:∀ x,Up (nx x)) {bC:Int} (hf1:-1 <= bC) (hf2:bC <= 9223372036854775807) {a:V} {ls:List aM} (ha:LS jA 46 Z a ls) (hls:ls.length <= 1000000) :
  aB E 75 [g,.int .i64 bC,.fn k0 [g] [],a] Z fun v σ'=>σ' = Z /\ ∃ l,J8 v l /\ Up l /\ (∀ x,x ∈ l -> x ∈ mH rs) /\ ∀ x,x ∈ l ↔ CT nx (fun x=>x ∈ ls /\ x ∈ mH rs) bC x:=by
 obtain ⟨a',ea,ia⟩:=Bu h ha
 have e1:=cR (Z:=Z) (ty:=E.ty) hg.bE (b_ hg.bE)
 have e2:=R7 hg k0 Z
 have e3:aY Z E.ty true (.int .i64 bC) = some (.int .i64 bC):=rfl
 have hlen:=CO hf
 have hnl:∀ x,(nx x).length <= 2000:=fun x=>Nat.le_trans (lI (hup x).nodup (hall x)) hlen
 rw [aH rc.hs75 rc.sp75 rc.fn75 rc.md75 (args':=[g,.int .i64 bC,.fn k0 [g] [],a']) (by simp only [aW,e1,e2,e3,ea]),a_ (by kernel_rfl)]
 have seed:=fun {b m Y} hs F g0 g3 g9 g10 st Q hk=>Pt (b:=b) (m:=m) (Y:=Y) h h' hl q rc hg hf (bC:=.int .i64 bC) (nf:=.fn k0 [g] []) ia hls hs F g0 g3 g9 g10 (st:=st) (Q:=Q) hk
 have rounds:=fun {b m A now wn Y} hs on hA hn hsub hnlen F g1 g2 g9 g10 st Q hk=>Ky (b:=b) (m:=m) (A:=A) (now:=now) (wn:=wn) (Y:=Y) h h' hl q rc hnx hall hlen hnl (s0:=fun x=>x ∈ ls /\ x ∈ mH rs) hf1 hf2 hs on hA hn hsub hnlen F g1 g2 g9 g10 (st:=st) (Q:=Q) hk
 rw [show (aA Tryz.f75).code = .seq (cutAt [0] (aA Tryz.f75).code) (.seq (cutAt [1,0] (aA Tryz.f75).code) (.seq (cutAt [1,1,0] (aA Tryz.f75).code) (.seq (cutAt [1,1,1,0] (aA Tryz.f75).code) (.seq (cutAt [1,1,1,1,0] (aA Tryz.f75).code) (cutAt [1,1,1,1,1] (aA Tryz.f75).code))))) from rfl]
 generalize cutAt [1,1,1,0] (aA Tryz.f75).code = S at seed ⊢
 generalize cutAt [1,1,1,1,0] (aA Tryz.f75).code = T at rounds ⊢
 simp only [aA,Tryz.f75,KP,↓reduceIte,Nat.reduceLT,Nat.reduceAdd,cutAt]
 refine aL (Lb.Ou hl (l:=[]) (.inl ⟨rfl,rfl⟩) (Nat.zero_le _)) ?_
 rintro v Y ⟨m,rfl,hs,-,-⟩
 rw [show ([]:Sg).length = 0 from rfl] at hs ⊢
 simp only [KP,↓reduceIte,Nat.reduceLT]
 refine seed hs _ ?_ ?_ ?_ ?_ _ _ (fun F2 τ2 wn A now hF g10 hs2 on2 sd=>?_)
 ·simp +decide only [GS]
 ·simp +decide only [GS]
 ·simp +decide only [GS]
 ·simp +decide only [GS]
 simp only [KP]
 have q1:F2.get 1 = .int .i64 bC:=(hF 1 (by simp)).trans (by simp +decide only [GS])
 have q2:F2.get 2 = .fn k0 [g] []:=(hF 2 (by simp)).trans (by simp +decide only [GS])
 have q9:F2.get 9 = .ref 0 0:=(hF 9 (by simp)).trans (by simp +decide only [GS])
 refine rounds hs2 on2 sd.mem sd.nw (fun x hx=>((sd.mem x).1 hx).2) sd.len _ ?_ ?_ ?_ ?_ _ _ (fun F3 τ3 A3 g9 Qc hsub hA3=>?_)
 ·simp +decide only [q1]
 ·simp +decide only [q2]
 ·simp +decide only [q9]
 ·simp +decide only [g10]
 have l3:=Nat.le_trans (lI Qc.nodup hsub) hlen
 simp only [KP,↓reduceIte,Nat.reduceLT,reduceCtorEq,hl.uO,hl.AD,g9]
 refine aL (Lb.Yp hl Qc (by omega) (fun x hx=>by have:=Ag (hf.lab (hsub x hx)); omega)) ?_
 rintro r τ4 ⟨ho,-⟩
 obtain ⟨v',hv,hlv⟩:=uU hl ho
 simp only [KP,↓reduceIte,Nat.reduceLT,hv]
 exact ⟨_,hlv,mS _,fun x hx=>hsub x (gY.1 hx),fun x=>by rw [gY]; exact hA3 x⟩
theorem Tt (h:bM E) (h':sM E) (hl:Lb.eM E) (q:LN E) (rc:Rh E) {g:V} {rs:List aG} (hg:OU E rs g) (hf:Fits rs) {bC:Int} (hf1:-9223372036854775808 <= bC) (hf2:bC <= 9223372036854775807) {a:V} {ls:List aM} (ha:LS jA 46 Z a ls) (hls:ls.length <= 1000000) :
  aB E 21 [g,.int .i64 bC,a] Z fun v σ'=>σ' = Z /\ ∃ l,J8 v l /\ Up l /\ (∀ x,x ∈ l -> x ∈ mH rs) /\ ∀ x,x ∈ l ↔ CT (tE rs) (fun x=>x ∈ ls /\ x ∈ mH rs) (if bC < -1 then -1 else bC) x:=by
 obtain ⟨a',ea,ia⟩:=Bu h ha
 have e1:=cR (Z:=Z) (ty:=E.ty) hg.bE (b_ hg.bE)
 have e3:aY Z E.ty true (.int .i64 bC) = some (.int .i64 bC):=rfl
 rw [aH rc.hs21 rc.Mr rc.fn21 rc.md21 (args':=[g,.int .i64 bC,a']) (by simp only [aW,e1,e3,ea]),a_ (by kernel_rfl)]
 have hm:iV true .i64 bC [.int .i64 (-1)] = some (if bC < -1 then -1 else bC):=rfl
 have hb:-1 <= (if bC < -1 then -1 else bC) /\ (if bC < -1 then -1 else bC) <= 9223372036854775807:=by split <;> omega
 generalize (if bC < -1 then -1 else bC) = far2 at hm hb ⊢
 simp only [aA,Tryz.f21,KP,↓reduceIte,Nat.reduceEqDiff,Nat.reduceLT,Nat.reduceAdd,reduceCtorEq,Int.reduceNeg,hm]
 refine aL (QO h h' hl q rc hg hf (nx:=tE rs) (fun Y x=>On h h' hl q hg hf x) M9 (Ga rs) hb.1 hb.2 (ia.ls [] 46) hls) ?_
 rintro v σ' ⟨rfl,l,hv,hr⟩
 have es:=hv.cW (E:=E) []
 simp only [KP,↓reduceIte,Nat.reduceLT,Int.reduceNeg,es]
 exact ⟨l,hv,hr⟩
end
end
section
structure CnE (E:Env):Prop where
 hs30:E.hspec 30 = none
 Mm:E.spec 30 = none
 fn30:E.fn 30 = some (aA Tryz.f30)
 md30:E.mode 30 = .fA
 hs6:E.hspec 6 = none
 TY:E.spec 6 = none
 fn6:E.fn 6 = some (aA Tryz.f6)
 md6:E.mode 6 = .fA
 beg:∀ {Z:Sg} {K:V -> Sg -> Prop},aB E 11 [] Z K = K (.bool true) Z
section
variable {E:Env} {Z:Sg} {K:V -> Sg -> Prop}
def sW (l:List aM):List aZ:=(l.filter fun x=>x.1).map Prod.snd
theorem H8 {l:List aM} {n:aZ}:n ∈ sW l ↔ ((true,n):aM) ∈ l:=by
 unfold sW
 rw [List.mem_map]
 constructor
 ·rintro ⟨⟨b,m⟩,h1,rfl⟩
  obtain ⟨h1,h2⟩:=List.mem_filter.1 h1
  have:b = true:=h2
  subst this
  exact h1
 ·exact fun h1=>⟨(true,n),List.mem_filter.2 ⟨h1,rfl⟩,rfl⟩
theorem FQ {l:List aM} {j:Nat} {x:aM} (hx:l[j]? = some x):sW (l.take (j + 1)) = sW (l.take j) ++ (if x.1 = true then [x.2] else []):=by
 unfold sW
 rw [List.take_add_one,hx,List.filter_append,List.map_append]
 congr 1
 cases hb:x.1 <;> simp [hb]
theorem BG (l:List aM):(sW l).length <= l.length:=by
 unfold sW
 rw [List.length_map]
 exact List.length_filter_le ..
def A7 (f:aZ):aM:=(false,f)
theorem K5 (a:Bool) (s:aZ):Ax.fill (fun j=>some (j * 2,2)) (gK 1 [V.bool false,V.str []]) [(0,V.agg [V.bool a,V.str s])] = some [.bool a,.str s]:=rfl
theorem Ls (h:bM E) (s:aZ):Ax.fill (Ax.placeOf E [(0,4),(1,9)]) [V.bool false,V.str []] [(1,V.str s)] = some [.bool false,.str s]:=by
 have e:Ax.placeOf E [(0,4),(1,9)] 1 = some (1,1):=by
  unfold Ax.placeOf
  simp only [List.getElem?_cons_succ,List.getElem?_cons_zero,h.cN]
 unfold Ax.fill
 rw [e]
 rfl
theorem Ox (h:bM E) (h':sM E) (hl:Lb.eM E) (q:LN E) (rc:Rh E) (cn:CnE E) {g:V} {rs:List aG} (hg:OU E rs g) (hf:Fits rs) {a:V} {fs:List aZ} (ha:LS aK 9 Z a fs) (hfs:fs.length <= 100000) :
  aB E 30 [g,a] Z fun v σ'=>σ' = Z /\ ∃ o,jZ aK v o /\ o.length <= 2000 /\ ∀ n,n ∈ o ↔ CT (tE rs) (fun x=>x ∈ fs.map A7 /\ x ∈ mH rs) (-1) (true,n):=by
 obtain ⟨a',ea,ia⟩:=iP h ha
 have e1:=cR (Z:=Z) (ty:=E.ty) hg.bE (b_ hg.bE)
 rw [aH cn.hs30 cn.Mm cn.fn30 cn.md30 (args':=[g,a']) (by simp only [aW,e1,ea]),a_ (by kernel_rfl)]
 have la:=bL h ia
 simp only [aA,Tryz.f30,KP,↓reduceIte,Nat.reduceEqDiff,Nat.reduceLT,Nat.reduceAdd,Int.reduceNeg,la]
 refine aR (fun i F Y=>F.get 0 = g /\ F.get 11 = a' /\ F.get 12 = .int .i64 (fs.length:Int) /\ F.get 13 = .int .i64 (i:Int) /\ ∃ w,F.get 5 = w /\ bD jA 46 Y w ((fs.take i).map A7)) fs.length ?_ ?_ fs.length 0 _ _ (by omega) (fZ (by simp +decide only [GS,and_self]) ⟨.aC,(by simp +decide only [GS]),.inl ⟨rfl,rfl⟩⟩)
 ·rintro i F Y hi ⟨g0,g11,g12,g13,w,g5,ow⟩ next
  obtain ⟨s,hs⟩:∃ x,fs[i]? = some x:=⟨_,List.getElem?_eq_getElem hi⟩
  obtain ⟨gi,e1⟩:=fI h ia hs
  have hlt:=dN hi
  have hadd:=bV i (by omega)
  obtain ⟨w',τ',hap,ow',-,-⟩:=Fe (x:=((false,s):aM)) (ex:=true) hl ow (by rw [List.length_map,List.length_take]; omega)
  dsimp only at hap
  rw [aF]
  simp only [KP,Ax.loadAt,↓reduceIte,Nat.reduceEqDiff,Nat.reduceLT,Nat.reduceLeDiff,Nat.reduceMul,Int.reduceNeg,h.AU,h.cN,h.pV,h.fM,g5,g11,g12,g13,hlt,hadd,e1,K5,hap,Ls h]
  refine next _ _ (fZ (by simp +decide only [GS,g0,g11,g12,and_self]) ⟨w',(by simp +decide only [GS]),?_⟩)
  rw [List.take_add_one,hs,List.map_append]
  exact ow'
 rintro F Y ⟨g0,g11,g12,g13,w,g5,ow⟩
 have hlt:=dQ (Nat.lt_irrefl fs.length)
 rw [List.take_of_length_le (Nat.le_refl _)] at ow
 rw [aF]
 simp only [KP,↓reduceIte,Nat.reduceEqDiff,Nat.reduceLT,reduceCtorEq,Int.reduceNeg,g0,g5,g12,g13,hlt]
 refine aL (Tt h h' hl q rc hg hf (bC:=-1) (by decide) (by decide) ow.ls (by rw [List.length_map]; omega)) ?_
 rintro v σ' ⟨rfl,l,hv,hup,hsub,hr⟩
 rw [show (if (-1:Int) < -1 then (-1:Int) else -1) = -1 from rfl] at hr
 have hvi:=hv.isf.is
 have lv:=B7 h hvi
 have hll:l.length <= 2000:=Nat.le_trans (lI hup.nodup hsub) (CO hf)
 simp only [KP,↓reduceIte,Nat.reduceLT,Int.reduceNeg,lv]
 refine aR (fun i F Y=>F.get 25 = v /\ F.get 26 = .int .i64 (l.length:Int) /\ F.get 27 = .int .i64 (i:Int) /\ ∃ w,F.get 8 = w /\ bD aK 9 Y w (sW (l.take i))) l.length ?_ ?_ l.length 0 _ _ (by omega) (fE (by simp +decide only [GS,and_self]) ⟨.aC,(by simp +decide only [GS]),.inl ⟨rfl,rfl⟩⟩)
 ·clear ow hlt g0 g11 g12 g13 g5
  rintro i F Y hi ⟨g25,g26,g27,w,g8,ow⟩ next
  obtain ⟨x,hx⟩:∃ x,l[i]? = some x:=⟨_,List.getElem?_eq_getElem hi⟩
  obtain ⟨gi,e1⟩:=IG h hvi hx
  have hlt:=dN hi
  have hadd:=bV i (by omega)
  have ht:=FQ hx
  have hrl:=BG (l.take i)
  rw [List.length_take] at hrl
  rw [aF]
  cases hb:x.1 with
  | false=>
   rw [hb] at e1 ht
   simp only [KP,Ax.loadAt,Ax.storeAt,↓reduceIte,Nat.reduceEqDiff,Nat.reduceLT,Nat.reduceAdd,reduceCtorEq,Int.reduceNeg,h.AU,h.fM,g25,g26,g27,hlt,hadd,e1,aN,cF]
   refine next _ _ (fE (by simp +decide only [GS,g25,g26,and_self]) ⟨w,(by simp +decide only [GS,g8]),?_⟩)
   rw [ht,if_neg (by decide),List.append_nil]
   exact ow.app _
  | true=>
   rw [hb] at e1 ht
   obtain ⟨w',τ',hap,ow',-,-⟩:=xX (s:=x.2) (ex:=true) h (ow.app [.cells 46 [.bool true,.str x.2] true]) (by omega)
   simp only [KP,Ax.loadAt,Ax.storeAt,↓reduceIte,Nat.reduceEqDiff,Nat.reduceLT,Nat.reduceLeDiff,Nat.reduceAdd,Nat.reduceMul,reduceCtorEq,Int.reduceNeg,h.AU,h.cN,h.aV,h.fM,g8,g25,g26,g27,hlt,hadd,e1,hap,iN,aN,cF]
   refine next _ _ (fE (by simp +decide only [GS,g25,g26,and_self]) ⟨w',(by simp +decide only [GS]),?_⟩)
   rw [ht,if_pos rfl]
   exact ow'
 rintro F Y ⟨g25,g26,g27,w,g8,ow⟩
 have hlt:=dQ (Nat.lt_irrefl l.length)
 rw [List.take_of_length_le (Nat.le_refl _)] at ow
 rw [aF]
 obtain ⟨v',hv',hi'⟩:=nY h.cN rfl Fx ow
 simp only [KP,↓reduceIte,Nat.reduceEqDiff,Nat.reduceLT,Int.reduceNeg,g26,g27,g8,hlt,hv']
 exact ⟨_,hi',Nat.le_trans (BG l) hll,fun n=>by rw [H8]; exact hr _⟩
end
end
end Go.Proofs.YtlbbdpkjeeiahaaGreatDoor
end
section
set_option maxRecDepth 100000
set_option maxHeartbeats 8000000
set_option linter.unusedVariables false
namespace Go.Proofs.YtlbbdpkjeeiahaaGreatDoor
open Go Go.Ax
theorem begL {Z:Sg} {K:V -> Sg -> Prop}:aB LE 11 [] Z K = K (.bool true) Z:=sO (s:=bH t11) (args':=[]) (v:=.bool true) (by kernel_rfl) (by kernel_rfl) rfl (by kernel_rfl) rfl
theorem Su:bM LE:=by constructor <;> kernel_rfl
theorem Sw:sM LE:=by constructor <;> kernel_rfl
theorem PN:Lb.eM LE:=by constructor <;> kernel_rfl
theorem Sy:LN LE:=by constructor <;> kernel_rfl
theorem Sv:Rh LE:=by constructor <;> kernel_rfl
theorem Sz:CnE LE:=by constructor <;> first | kernel_rfl | exact begL
end Go.Proofs.YtlbbdpkjeeiahaaGreatDoor
end
section
set_option maxRecDepth 10000
set_option maxHeartbeats 8000000
set_option linter.unusedVariables false
namespace Go.Proofs.YtlbbdpkjeeiahaaGreatDoor
open Go Go.Ax Go.AxS
section
section
variable {E:Env} {Z:Sg} {K:V -> Sg -> Prop}
theorem Fits.outs {rs:List aG} (hf:Fits rs) {r:aG} (hr:r ∈ rs):r.outs ≠ []:=by
 have:=hf.form r hr
 rw [zD] at this
 simp only [Bool.and_eq_true,decide_eq_true_eq] at this
 exact this.1.1.1.1.2
theorem Cg {l:List aZ} {s:aZ} (hs:s ∈ l):decide (0 <= idx (bJ (fun x=>decide (x = s)) l)) = true /\ decide (idx (bJ (fun x=>decide (x = s)) l) < 0) = false:=by
 obtain ⟨j,hj⟩:=mW (p:=fun x:aZ=>decide (x = s)) hs (decide_eq_true rfl)
 rw [hj]
 exact ⟨decide_eq_true (by show (0:Int) <= (j:Int); omega),decide_eq_false (by show ¬ ((j:Int) < 0); omega)⟩
theorem DU {l:List aZ} {s:aZ} (hs:s ∉ l):decide (0 <= idx (bJ (fun x=>decide (x = s)) l)) = false /\ decide (idx (bJ (fun x=>decide (x = s)) l) < 0) = true:=by
 rw [gH (p:=fun x:aZ=>decide (x = s)) fun x hx=>decide_eq_false fun e:x = s=>hs (by rw [<- e]; exact hx)]
 exact ⟨rfl,rfl⟩
def tV (rs:List aG) (fs:List aZ) (n:aZ):Prop:=CT (tE rs) (fun x=>x ∈ fs.map A7 /\ x ∈ mH rs) (-1) (true,n)
theorem ED {nx:aM -> List aM} {s0:aM -> Prop} {x:aM}:CT nx s0 (-1) x ↔ ∃ n,Rk nx s0 n x:=by
 unfold CT
 constructor
 ·rintro (⟨-,h⟩ | ⟨h,-⟩)
  ·exact h
  ·omega
 ·exact fun h=>.inl ⟨by omega,h⟩
theorem Ll {rs:List aG} {fs:List aZ} {i k:Nat} {p r:aG} (hp:rs[i]? = some p) (hr:rs[k]? = some r) (hn:gQ rs true i k = true) (hc:tV rs fs p.name):tV rs fs r.name:=by
 unfold tV at hc ⊢
 rw [ED] at hc ⊢
 obtain ⟨n,hn0⟩:=hc
 unfold gQ at hn
 rw [hp] at hn
 unfold uD at hn
 simp only [Bool.not_true,Bool.false_and,Bool.or_false,List.any_eq_true,decide_eq_true_eq] at hn
 obtain ⟨f,hf,hm⟩:=hn
 unfold eV at hm
 obtain ⟨r',hr',hfo⟩:=iJ hm
 rw [hr] at hr'
 cases hr'
 have hfo:f ∈ r.outs:=of_decide_eq_true hfo
 refine ⟨n + 2,.inr ⟨(false,f),.inr ⟨_,hn0,?_⟩,?_⟩⟩
 ·exact qE.2 (yW.2 ⟨p,List.mem_of_getElem? hp,.inl ⟨f,hf,rfl⟩⟩)
 ·exact qE.2 (yW.2 ⟨r,List.mem_of_getElem? hr,.inr ⟨f,hfo,rfl⟩⟩)
theorem Lm {rs:List aG} {fs:List aZ} {r:aG} (hr:r ∈ rs) {f:aZ} (hf:f ∈ fs) (ho:f ∈ r.outs):tV rs fs r.name:=by
 unfold tV
 rw [ED]
 have hp:(((false,f):aM),((true,r.name):aM)) ∈ rs.flatMap dI:=yW.2 ⟨r,hr,.inr ⟨f,ho,rfl⟩⟩
 exact ⟨1,.inr ⟨(false,f),⟨List.mem_map.2 ⟨f,hf,rfl⟩,(Js hp).1⟩,qE.2 hp⟩⟩
theorem N7 {rs:List aG} {n:aZ}:¬ tV rs [] n:=by
 unfold tV
 rw [ED]
 rintro ⟨k,hk⟩
 exact Rk.sub (P:=fun _=>False) (nx:=fun _=>[]) (s0:=fun _=>False) (fun _ h=>h) (fun _ _ h=>by cases h) 0 (x:=(true,n)) (by
  have:∀ (k:Nat) (x:aM),¬ Rk (tE rs) (fun x=>x ∈ ([]:List aZ).map A7 /\ x ∈ mH rs) k x:=fun k=>by
   induction k with
   | zero=>exact fun x h=>by cases h.1
   | succ k ih=>exact fun x h=>h.elim (ih x) fun ⟨y,hy,_⟩=>ih y hy
  exact absurd hk (this _ _))
theorem TT (p:Int) {n:Nat} (hn:0 < n) (hn2:n <= 64):∃ j:Nat,j < n /\ wr .i64 (p.tmod (n:Int) + (n:Int)) = p.tmod (n:Int) + (n:Int) /\ (p.tmod (n:Int) + (n:Int)).tmod (n:Int) = (j:Int):=by
 have h1:=Int.tmod_lt_of_pos p (b:=(n:Int)) (by omega)
 have h2:=Int.lt_tmod_of_pos p (b:=(n:Int)) (by omega)
 have h3:=Int.tmod_nonneg (a:=p.tmod (n:Int) + (n:Int)) (n:Int) (by omega)
 have h4:=Int.tmod_lt_of_pos (p.tmod (n:Int) + (n:Int)) (b:=(n:Int)) (by omega)
 exact ⟨((p.tmod (n:Int) + (n:Int)).tmod (n:Int)).toNat,by omega,Rl _ (by omega) (by omega),by omega⟩
theorem M6 (h:bM E) (h':sM E) (hl:Lb.eM E) (q:LN E) (rc:Rh E) (cn:CnE E) {rs:List aG} (hf:Fits rs) (hrl:rs.length <= 14) {va vp:V} (iv:IS mC va rs) {ps:List Int} (ip:IS EZ vp ps) (hpl:ps.length <= 17592186044416) {Y:Sg} (F:FT) (g0:F.get 0 = va) (g1:F.get 1 = vp) (g7:F.get 7 = .aC) {st:List kH} {Q:Ax.X -> Fr -> Sg -> Prop}
  (hk:∀ F' τ' w fs,(∀ k,k ∈ [0,1,4,6] -> F'.get k = F.get k) -> F'.get 7 = w -> bD aK 9 τ' w fs -> fs.length <= 3 -> M E st .normal ⟨128,F'⟩ τ' Q):Ax.R E (cutAt [1,1,1,1,1,1,0] (aA Tryz.f6).code) st ⟨128,F⟩ Y Q:=by
 have iv':IS dS va rs:=pE iv rA
 have la:=cK h iv'
 have lp:=Nu h ip
 have hn:∃ n,n <= 3 /\ (∀ i,i < n -> i < ps.length /\ 0 < rs.length) /\ (n = ps.length \/ n = 3 \/ rs.length = 0):=by
  rcases Nat.eq_zero_or_pos rs.length with h0 | h0
  ·exact ⟨0,by omega,fun i hi=>by omega,.inr (.inr h0)⟩
  ·rcases Nat.lt_or_ge ps.length 3 with h1 | h1
   ·exact ⟨ps.length,by omega,fun i hi=>⟨hi,h0⟩,.inl rfl⟩
   ·exact ⟨3,Nat.le_refl _,fun i hi=>⟨by omega,h0⟩,.inr (.inl rfl)⟩
 obtain ⟨n,hn3,hn,hne⟩:=hn
 simp only [aA,Tryz.f6,KP,↓reduceIte,Nat.reduceLT,cutAt]
 refine aR (fun i F2 τ2=>(∀ k,k ∈ [0,1,4,6] -> F2.get k = F.get k) /\ F2.get 8 = .int .i64 (i:Int) /\ ∃ w fs,F2.get 7 = w /\ bD aK 9 τ2 w fs /\ fs.length = i) n ?_ ?_ n 0 _ _ (by omega) ⟨?_,(by simp +decide only [GS]),.aC,[],(by simp +decide only [GS,g7]),.inl ⟨rfl,rfl⟩,rfl⟩
 ·rintro i F2 τ2 hi ⟨hF,g8,w,fs,g7,ow,hl2⟩ next
  have f0:F2.get 0 = va:=(hF 0 (by simp)).trans g0
  have f1:F2.get 1 = vp:=(hF 1 (by simp)).trans g1
  obtain ⟨hi1,hi2⟩:=hn i hi
  obtain ⟨p,hp⟩:∃ x,ps[i]? = some x:=⟨_,List.getElem?_eq_getElem hi1⟩
  obtain ⟨gi,r1,e1,hr1⟩:=Q_ h ip hp
  obtain rfl:r1 = [.int .i64 p]:=hr1
  obtain ⟨j,hj,t1,t2⟩:=TT p hi2 (by omega)
  obtain ⟨r,hr⟩:∃ x,rs[j]? = some x:=⟨_,List.getElem?_eq_getElem hj⟩
  obtain ⟨gr,a,b,c,d,e2,i1,i2,i3,i4⟩:=eL h iv' hr
  have ho:=hf.outs (List.mem_of_getElem? hr)
  obtain ⟨s,hs⟩:∃ s,r.outs[0]? = some s:=⟨_,List.getElem?_eq_getElem (List.length_pos_iff.2 ho)⟩
  obtain ⟨gs,e3⟩:=fI h i2 hs
  have e3:indexAddr E 28 b (.int .i64 0) = some (.dP gs [.str s]):=e3
  have hlt:=dN hi1
  have hadd:=bV i (by omega)
  have h3:decide ((i:Int) < 3) = true:=decide_eq_true (by omega)
  have h4:decide ((0:Int) < (rs.length:Int)) = true:=decide_eq_true (by omega)
  have h5:decide ((rs.length:Int) = 0) = false:=decide_eq_false (by omega)
  obtain ⟨w',τ',hap,ow',-,-⟩:=xX (s:=s) (ex:=true) h ow (by omega)
  rw [aF]
  simp only [KP,Ax.loadAt,↓reduceIte,Nat.reduceEqDiff,Nat.reduceLT,Nat.reduceLeDiff,Nat.reduceMul,reduceCtorEq,h.oZ,h.cN,h.aV,h.bI,f0,f1,g7,g8,la,lp,hlt,hadd,h3,h4,h5,e1,e2,e3,t1,t2,hap,iN]
  refine next _ _ ⟨?_,(by simp +decide only [GS]),w',fs ++ [s],(by simp +decide only [GS]),ow',by rw [List.length_append,hl2]; rfl⟩
  intro k hk
  rw [<- hF k hk]
  simp only [List.mem_cons,List.not_mem_nil,or_false] at hk
  rcases hk with rfl | rfl | rfl | rfl <;> simp +decide only [GS]
 ·rintro F2 τ2 ⟨hF,g8,w,fs,g7,ow,hl2⟩
  have f0:F2.get 0 = va:=(hF 0 (by simp)).trans g0
  have f1:F2.get 1 = vp:=(hF 1 (by simp)).trans g1
  rw [aF]
  by_cases h1:n = ps.length
  ·have hlt:decide ((n:Int) < (ps.length:Int)) = false:=decide_eq_false (by omega)
   simp only [KP,↓reduceIte,Nat.reduceEqDiff,Nat.reduceLT,f1,g8,lp,hlt]
   refine hk _ _ w fs ?_ (by simp +decide only [GS,g7]) ow (by omega)
   intro k hk
   rw [<- hF k hk]
   simp only [List.mem_cons,List.not_mem_nil,or_false] at hk
   rcases hk with rfl | rfl | rfl | rfl <;> simp +decide only [GS]
  have hlt:decide ((n:Int) < (ps.length:Int)) = decide (n < ps.length):=decide_eq_decide.2 (by omega)
  rcases hne with e | e | e
  ·exact absurd e h1
  ·have h3:decide ((n:Int) < 3) = false:=decide_eq_false (by omega)
   cases hb:decide (n < ps.length)
   ·rw [hb] at hlt
    simp only [KP,↓reduceIte,Nat.reduceEqDiff,Nat.reduceLT,f1,g8,lp,hlt]
    refine hk _ _ w fs ?_ (by simp +decide only [GS,g7]) ow (by omega)
    intro k hk
    rw [<- hF k hk]
    simp only [List.mem_cons,List.not_mem_nil,or_false] at hk
    rcases hk with rfl | rfl | rfl | rfl <;> simp +decide only [GS]
   ·rw [hb] at hlt
    simp only [KP,↓reduceIte,Nat.reduceEqDiff,Nat.reduceLT,f1,g8,lp,hlt,h3]
    refine hk _ _ w fs ?_ (by simp +decide only [GS,g7]) ow (by omega)
    intro k hk
    rw [<- hF k hk]
    simp only [List.mem_cons,List.not_mem_nil,or_false] at hk
    rcases hk with rfl | rfl | rfl | rfl <;> simp +decide only [GS]
  ·have h4:decide ((0:Int) < (rs.length:Int)) = false:=decide_eq_false (by omega)
   cases hb:decide (n < ps.length)
   ·rw [hb] at hlt
    simp only [KP,↓reduceIte,Nat.reduceEqDiff,Nat.reduceLT,f1,g8,lp,hlt]
    refine hk _ _ w fs ?_ (by simp +decide only [GS,g7]) ow (by omega)
    intro k hk
    rw [<- hF k hk]
    simp only [List.mem_cons,List.not_mem_nil,or_false] at hk
    rcases hk with rfl | rfl | rfl | rfl <;> simp +decide only [GS]
   rw [hb] at hlt
   cases hb3:decide ((n:Int) < 3)
   ·simp only [KP,↓reduceIte,Nat.reduceEqDiff,Nat.reduceLT,f1,g8,lp,hlt,hb3]
    refine hk _ _ w fs ?_ (by simp +decide only [GS,g7]) ow (by omega)
    intro k hk
    rw [<- hF k hk]
    simp only [List.mem_cons,List.not_mem_nil,or_false] at hk
    rcases hk with rfl | rfl | rfl | rfl <;> simp +decide only [GS]
   ·simp only [KP,↓reduceIte,Nat.reduceEqDiff,Nat.reduceLT,reduceCtorEq,f0,f1,g8,la,lp,hlt,hb3,h4]
    refine hk _ _ w fs ?_ (by simp +decide only [GS,g7]) ow (by omega)
    intro k hk
    rw [<- hF k hk]
    simp only [List.mem_cons,List.not_mem_nil,or_false] at hk
    rcases hk with rfl | rfl | rfl | rfl <;> simp +decide only [GS]
 ·intro k hk
  simp only [List.mem_cons,List.not_mem_nil,or_false] at hk
  rcases hk with rfl | rfl | rfl | rfl <;> simp +decide only [GS]
end
end
section
section
variable {E:Env} {Z:Sg} {K:V -> Sg -> Prop}
theorem HY (h:bM E) {Y:Sg} {w:V} {l:List aZ} (on:bD aK 9 Y w l) {i:Nat} {y:aZ} (hy:l[i]? = some y):∃ b o u cs ex,indexAddr E 28 w (.int .i64 (i:Int)) = some (.ref b o) /\ Y[b]? = some (.cells u cs ex) /\ cs[o]? = some (.str y):=by
 obtain ⟨p,r0,e1,hr0,-,-,hp⟩:=Ea h.aV rfl h.cN rfl on.ls hy
 obtain rfl:r0 = [.str y]:=hr0
 rcases hp with ⟨g,rfl⟩ | ⟨b,o,rfl,u,cs,ex,hb,hle,hrow⟩
 ·exfalso
  rcases on with ⟨rfl,rfl⟩ | ⟨b,rs,ex,rfl,hb,-⟩
  ·cases hy
  ·unfold indexAddr at e1
   simp only [h.aV,h.cN] at e1
   repeat' split at e1
   all_goals cases e1
 ·refine ⟨b,o,u,cs,ex,e1,hb,?_⟩
  have:((cs.drop o).take 1)[0]? = some (.str y):=by rw [show (cs.drop o).take 1 = [.str y] from hrow]; rfl
  rw [List.getElem?_take_of_lt (by omega),List.getElem?_drop] at this
  exact this
theorem G4 (h:bM E) (h':sM E) (hl:Lb.eM E) (q:LN E) (rc:Rh E) (cn:CnE E) {a vp:V} {rs:List aG} (ha:LS dS 37 Z a rs) (hraw:∀ x ∈ rs,Raw x) {ps:List Int} (ip:IS EZ vp ps) (hpl:ps.length <= 17592186044416):aB E 6 [a,vp] Z K = K (.bool true) Z:=by
 refine aB.of ?_
 obtain ⟨a',ea,ia⟩:=eR h ha
 have ep:=lA ip (E:=E) Z
 rw [aH cn.hs6 cn.TY cn.fn6 cn.md6 (args':=[a',vp]) (by simp only [aW,ea,ep]),a_ (by kernel_rfl)]
 have files:=fun {rs} hf hrl {va Y} iv F g0 g1 g7 st Q hk=>M6 (rs:=rs) (va:=va) (Y:=Y) h h' hl q rc cn hf hrl iv ip hpl F g0 g1 g7 (st:=st) (Q:=Q) hk
 have kb:=fun (Y:Sg)=>dO fun K=>cn.beg (Z:=Y) (K:=K)
 rw [show (aA Tryz.f6).code = .seq (cutAt [0] (aA Tryz.f6).code) (.seq (cutAt [1,0] (aA Tryz.f6).code) (.seq (cutAt [1,1,0] (aA Tryz.f6).code) (.seq (cutAt [1,1,1,0] (aA Tryz.f6).code) (.seq (cutAt [1,1,1,1,0] (aA Tryz.f6).code) (.seq (cutAt [1,1,1,1,1,0] (aA Tryz.f6).code) (.seq (cutAt [1,1,1,1,1,1,0] (aA Tryz.f6).code) (cutAt [1,1,1,1,1,1,1] (aA Tryz.f6).code))))))) from rfl]
 generalize cutAt [1,1,1,1,1,1,0] (aA Tryz.f6).code = B at files ⊢
 simp only [aA,Tryz.f6,KP,↓reduceIte,Nat.reduceLT,Nat.reduceAdd,reduceCtorEq,cutAt,kb]
 refine aL (Ts h (ia.ls [] 37) hraw) ?_
 rintro v σ' ⟨rfl,l,iv,hok,hl14,hsm⟩
 have iv':IS dS v l:=pE iv.is rA
 have hf:Fits l:=⟨hok,hsm⟩
 simp only [KP,↓reduceIte,Nat.reduceLT]
 refine aL (ID h h' hl (iv'.ls [] 37) hsm (by omega)) ?_
 rintro g σ' ⟨rfl,⟨hno,-⟩ | ⟨-,hg⟩⟩
 ·exact absurd hok hno
 simp only [KP,↓reduceIte,Nat.reduceLT]
 refine files hf hl14 iv.is _ ?_ ?_ ?_ _ _ (fun F2 τ2 w fs hF g7 ow hfl=>?_)
 ·simp +decide only [GS]
 ·simp +decide only [GS]
 ·simp +decide only [GS]
 have q0:F2.get 0 = v:=(hF 0 (by simp)).trans (by simp +decide only [GS])
 have q6:F2.get 6 = g:=(hF 6 (by simp)).trans (by simp +decide only [GS])
 simp only [KP,↓reduceIte,Nat.reduceEqDiff,Nat.reduceLT,q6,g7]
 refine aL (Ox h h' hl q rc cn hg hf ow.ls (by omega)) ?_
 rintro vc σ' ⟨rfl,o,hvc,hol,ho⟩
 simp only [KP,↓reduceIte,Nat.reduceLT,reduceCtorEq,q0]
 refine aL (J3 h (iv'.ls _ 37) ⟨by omega,hsm⟩ true) ?_
 rintro vm σ' ⟨rfl,hvm⟩
 have la:=cK h iv'
 have lf:=fun Z (o:bD aK 9 Z w fs)=>nD h.aV rfl o.ls
 have lf:=lf _ ow
 simp only [KP,↓reduceIte,Nat.reduceLT,reduceCtorEq,q0,la]
 have ho:∀ n,n ∈ o ↔ tV l fs n:=ho
 have kc:=fun s=>dO fun K=>IE (Z:=σ') (K:=K) (s:=s) h (hvc.is.ls σ' 9) (show o.length <= 4294967296 by omega)
 refine aR (fun i F Y=>Y = σ' /\ F.get 0 = v /\ F.get 6 = g /\ F.get 7 = w /\ F.get 9 = vc /\ F.get 10 = vm /\ F.get 65 = v /\ F.get 66 = .int .i64 (l.length:Int) /\ F.get 67 = .int .i64 (i:Int)) l.length ?_ ?_ l.length 0 _ _ (by omega) ⟨rfl,(by simp +decide only [GS,q0,q6,g7,and_self])⟩
 ·clear q0 q6 g7
  rintro i F Y hi ⟨rfl,g0,g6,g7,g9,g10,g65,g66,g67⟩ next
  obtain ⟨r,hr⟩:∃ x,l[i]? = some x:=⟨_,List.getElem?_eq_getElem hi⟩
  have hrm:=List.mem_of_getElem? hr
  obtain ⟨gr,p1,p2,p3,p4,e1,i1,i2,i3,i4⟩:=eL h iv' hr
  have hlt:=dN hi
  have hadd:=bV i (by omega)
  have ko:=fun s=>dO fun K=>IE (Z:=Y) (K:=K) (s:=s) h (i2.ls Y 9) (show r.outs.length <= 4294967296 by have:=(hsm r hrm).outs; omega)
  have kr:=kc r.name
  obtain ⟨bin,hb1,hb2⟩:∃ b,decide (0 <= idx (bJ (fun x=>decide (x = r.name)) o)) = b /\ (b = true ↔ r.name ∈ o):=by
   by_cases hin:r.name ∈ o
   ·exact ⟨true,(Cg hin).1,by simp [hin]⟩
   ·exact ⟨false,(DU hin).1,by simp [hin]⟩
  rw [aF]
  simp only [KP,Ax.loadAt,↓reduceIte,Nat.reduceEqDiff,Nat.reduceLT,reduceCtorEq,h.cN,h.bI,g0,g9,g66,g67,hlt,e1,la,kr,hb1]
  refine aR (fun k F τ2=>τ2 = Y /\ F.get 0 = v /\ F.get 6 = g /\ F.get 7 = w /\ F.get 9 = vc /\ F.get 10 = vm /\ F.get 11 = .int .i64 (i:Int) /\ F.get 12 = .bool bin /\ F.get 65 = v /\ F.get 66 = .int .i64 (l.length:Int) /\ F.get 67 = .int .i64 (i:Int) /\ F.get 79 = .int .i64 (l.length:Int) /\ F.get 80 = .int .i64 (k:Int)) l.length ?_ ?_ l.length 0 _ _ (by omega) ⟨rfl,(by simp +decide only [GS,g0,g6,g7,g9,g10,g65,g66,g67,and_self])⟩
  ·clear g0 g6 g7 g9 g10 g65 g66 g67
   rintro k F τ2 hk ⟨rfl,g0,g6,g7,g9,g10,g11,g12,g65,g66,g67,g79,g80⟩ next2
   obtain ⟨r2,hr2⟩:∃ x,l[k]? = some x:=⟨_,List.getElem?_eq_getElem hk⟩
   obtain ⟨gr2,s1,s2,s3,s4,e2,-,-,-,-⟩:=eL h iv' hr2
   obtain ⟨g3,rv,g4,e3,e4⟩:=BW h hvm.is hi hk
   have hlt:=dN hk
   have hadd:=bV k (by omega)
   have kr2:=kc r2.name
   rw [aF]
   cases bin with
   | false=>
    simp only [KP,↓reduceIte,Nat.reduceEqDiff,Nat.reduceLT,g12,g79,g80,hlt,hadd]
    exact next2 _ _ ⟨rfl,(by simp +decide only [GS,g0,g6,g7,g9,g10,g11,g12,g65,g66,g67,g79,and_self])⟩
   | true=>
    cases hm:gQ l true i k with
    | false=>
     rw [hm] at e4
     simp only [KP,Ax.loadAt,↓reduceIte,Nat.reduceEqDiff,Nat.reduceLT,h.AU,h.vG,g10,g11,g12,g79,g80,hlt,hadd,e3,e4]
     exact next2 _ _ ⟨rfl,(by simp +decide only [GS,g0,g6,g7,g9,g10,g11,g12,g65,g66,g67,g79,and_self])⟩
    | true=>
     rw [hm] at e4
     have hin2:r2.name ∈ o:=(ho _).2 (Ll hr hr2 hm ((ho _).1 (hb2.1 rfl)))
     have hd:=(Cg hin2).2
     simp only [KP,Ax.loadAt,↓reduceIte,Nat.reduceEqDiff,Nat.reduceLT,reduceCtorEq,h.AU,h.cN,h.bI,h.vG,g0,g9,g10,g11,g12,g79,g80,hlt,hadd,e2,e3,e4,kr2,hd]
     exact next2 _ _ ⟨rfl,(by simp +decide only [GS,g0,g6,g7,g9,g10,g11,g12,g65,g66,g67,g79,and_self])⟩
  ·clear g0 g6 g7 g9 g10 g65 g66 g67
   rintro F τ2 ⟨rfl,g0,g6,g7,g9,g10,g11,g12,g65,g66,g67,g79,g80⟩
   have hlt:=dQ (Nat.lt_irrefl l.length)
   rw [aF]
   simp only [KP,↓reduceIte,Nat.reduceEqDiff,Nat.reduceLT,g7,g79,g80,hlt,lf]
   refine aR (fun k F τ3=>τ3 = τ2 /\ F.get 0 = v /\ F.get 6 = g /\ F.get 7 = w /\ F.get 9 = vc /\ F.get 10 = vm /\ F.get 11 = .int .i64 (i:Int) /\ F.get 12 = .bool bin /\ F.get 65 = v /\ F.get 66 = .int .i64 (l.length:Int) /\ F.get 67 = .int .i64 (i:Int) /\ F.get 104 = w /\ F.get 105 = .int .i64 (fs.length:Int) /\ F.get 106 = .int .i64 (k:Int)) fs.length ?_ ?_ fs.length 0 _ _ (by omega) ⟨rfl,(by simp +decide only [GS,g0,g6,g7,g9,g10,g11,g12,g65,g66,g67,and_self])⟩
   ·clear g0 g6 g7 g9 g10 g11 g12 g65 g66 g67 g79 g80
    rintro k F τ2 hk ⟨rfl,g0,g6,g7,g9,g10,g11,g12,g65,g66,g67,g104,g105,g106⟩ next2
    obtain ⟨f,hfk⟩:∃ x,fs[k]? = some x:=⟨_,List.getElem?_eq_getElem hk⟩
    obtain ⟨c,oo,u,cs,ex,e2,e3,e4⟩:=HY h ow hfk
    have hlt:=dN hk
    have hadd:=bV k (by omega)
    have kf:=ko f
    rw [aF]
    by_cases hfo:f ∈ r.outs
    ·have hd:=(Cg hfo).1
     have:bin = true:=hb2.2 ((ho _).2 (Lm hrm (List.mem_of_getElem? hfk) hfo))
     subst this
     simp only [KP,Ax.loadAt,↓reduceIte,Nat.reduceEqDiff,Nat.reduceLT,reduceCtorEq,h.cN,h.aV,h.bI,g0,g11,g12,g104,g105,g106,hlt,hadd,e1,e2,e3,e4,kf,hd]
     exact next2 _ _ ⟨rfl,(by simp +decide only [GS,g0,g6,g7,g9,g10,g11,g12,g65,g66,g67,g104,g105,and_self])⟩
    ·have hd:=(DU hfo).1
     simp only [KP,Ax.loadAt,↓reduceIte,Nat.reduceEqDiff,Nat.reduceLT,reduceCtorEq,h.cN,h.aV,h.bI,g0,g11,g104,g105,g106,hlt,hadd,e1,e2,e3,e4,kf,hd]
     exact next2 _ _ ⟨rfl,(by simp +decide only [GS,g0,g6,g7,g9,g10,g11,g12,g65,g66,g67,g104,g105,and_self])⟩
   ·clear g0 g6 g7 g9 g10 g11 g12 g65 g66 g67 g79 g80
    rintro F τ2 ⟨rfl,g0,g6,g7,g9,g10,g11,g12,g65,g66,g67,g104,g105,g106⟩
    have hlt:=dQ (Nat.lt_irrefl fs.length)
    rw [aF]
    simp only [KP,↓reduceIte,Nat.reduceEqDiff,Nat.reduceLT,g67,g105,g106,hlt,hadd]
    exact next _ _ ⟨rfl,(by simp +decide only [GS,g0,g6,g7,g9,g10,g65,g66,and_self])⟩
 ·clear q0 q6 g7
  rintro F Y ⟨rfl,g0,g6,g7,g9,g10,g65,g66,g67⟩
  have hlt:=dQ (Nat.lt_irrefl l.length)
  rw [aF]
  simp only [KP,↓reduceIte,Nat.reduceEqDiff,Nat.reduceLT,g66,g67,g6,hlt]
  refine aL (Ox h h' hl q rc cn hg hf (a:=.aC) (fs:=[]) (.inl (.inl ⟨rfl,rfl⟩)) (Nat.zero_le _)) ?_
  rintro v2 σ2 ⟨rfl,o2,hv2,-,ho2⟩
  have h0:o2 = []:=List.eq_nil_iff_forall_not_mem.2 fun n hn=>N7 ((ho2 n).1 hn)
  subst h0
  have l2:=bL h hv2.is
  simp only [KP,↓reduceIte,Nat.reduceLT,l2,cW,aY]
  exact rfl
end
end
end Go.Proofs.YtlbbdpkjeeiahaaGreatDoor
end
section
set_option maxHeartbeats 8000000
set_option linter.unusedVariables false
namespace Go.Proofs.YtlbbdpkjeeiahaaGreatDoor
open Go Go.Ax Go.AxS
theorem C0 (a0:V) (l0:List aG) (i0:IS dS a0 l0) (r0:∀ x ∈ l0,Raw x) (a1:V) (l1:List Int) (i1:IS EZ a1 l1) (n1:l1.length <= 17592186044416):∃ k,Ax.call LE k 6 [a0,a1] = some (.bool true):=by
 have h:aB LE 6 [a0,a1] [] (fun v _=>v = .bool true):=by
  rw [G4 Su Sw PN Sy Sv Sz (i0.ls [] 37) r0 i1 n1]
 obtain ⟨n,v,σ',hc,rfl⟩:=h
 refine ⟨n,?_⟩
 have hm:aW (aY [] LE.ty true) [a0,a1] = some [a0,a1]:=by
  simp only [aW,lA i0 [],lA i1 []]
 unfold gI at hc
 rw [show LE.hspec 6 = none by kernel_rfl,show LE.spec 6 = none by kernel_rfl,show LE.fn 6 = some (aA Tryz.f6) by kernel_rfl,show LE.mode 6 = .fA by kernel_rfl] at hc
 simp only [hm] at hc
 unfold Ax.call
 rw [show LE.fn 6 = some (aA Tryz.f6) by kernel_rfl]
 dsimp only
 cases he:enter LE (ev LE n) (aA Tryz.f6) [a0,a1] [] with
 | none=>rw [he] at hc; cases hc
 | some y=>
  rw [he] at hc
  dsimp only at hc ⊢
  cases hs:cW y.2 LE.ty false y.1 with
  | none=>rw [hs] at hc; cases hc
  | some z=>rw [hs] at hc; cases hc; rfl
end Go.Proofs.YtlbbdpkjeeiahaaGreatDoor
end
