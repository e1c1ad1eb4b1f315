/- Part 19 of the proof's own texts (pressed by a program of its author's). -/
import Derived.Test.YtlbbdpkjeeiahaaGreatDoorZ18
import Derived.Test.YtlbbdpkjeeiahaaGreatDoorZ16
import Derived.Test.YtlbbdpkjeeiahaaGreatDoorZ15
section
set_option maxRecDepth 10000
set_option maxHeartbeats 8000000
set_option linter.unusedVariables false
namespace Go.Proofs.YtlbbdpkjeeiahaaGreatDoor
open Go Go.Ax Go.AxS
section
section
variable {E:Env} {Z:Sg} {K:V -> Sg -> Prop}
theorem Hx {r:aF} {j:Nat} {s:bA} (hj:r.ins[j]? = some s):(r.ins.take (j + 1)).map (fun f=>(((true,r.name):a_),((false,f):a_))) = (r.ins.take j).map (fun f=>(((true,r.name):a_),((false,f):a_))) ++ [(((true,r.name):a_),((false,s):a_))]:=by
 rw [List.take_add_one,hj,List.map_append]; rfl
theorem Ft {r:aF} {j:Nat} {s:bA} (hj:r.outs[j]? = some s):(r.outs.take (j + 1)).map (fun f=>(((false,f):a_),((true,r.name):a_))) = (r.outs.take j).map (fun f=>(((false,f):a_),((true,r.name):a_))) ++ [(((false,s):a_),((true,r.name):a_))]:=by
 rw [List.take_add_one,hj,List.map_append]; rfl
theorem MT (h:bK E) (h':sM E) (hl:Lb.eS E) {Y:Sg} {gb m0 m1 sa ma b3 b4:Nat} {es0 es1:List (V × V)} {A:List a_} {L3 L4:List cZ} (ga:mZ E Y gb m0 m1 sa ma b3 b4 es0 es1 A L3 L4) {X:List a_} {P:List (a_ × a_)} (li:uV X P A L3 L4) (hX:X.length <= 1000) (hP:P.length <= 100000) {a c27:V} {i:Nat} {r:aF} {g:Bool} {p1 p2 p3 p4:V} (e1:indexAddr E 22 a (.int .i64 (i:Int)) = some (.dB g [.str r.name,p1,p2,p3,p4])) (i1:IS aK p1 r.ins) (i2:IS aK p2 r.outs) (i3:IS aK p3 r.after) (i4:IS eW p4 r.steps) (hs:Small r) {rs:List aF} (ha:RM es0 rs) (hn:∀ q ∈ rs,q.name ≠ r.name) {get:bA -> Option V} {Pm:bA -> bA -> Prop} (hsm:SM E es1 get) (hsv:C_ es1) (hmk:MK get Pm)
  (F:FT) (g0:F.get 0 = a) (g5:F.get 5 = .ref gb 0) (g26:F.get 26 = a) (g27:F.get 27 = c27) (g28:F.get 28 = .int .i64 (i:Int)) {st:List mE} {Q:Ax.X -> Fr -> Sg -> Prop}
  (hk:∀ F' τ' es0' es1' get' A' L3' L4',F'.get 0 = a -> F'.get 5 = .ref gb 0 -> F'.get 26 = a -> F'.get 27 = c27 -> F'.get 28 = .int .i64 (i:Int) -> mZ E τ' gb m0 m1 sa ma b3 b4 es0' es1' A' L3' L4' -> uV (X ++ [gF r]) (P ++ cV r) A' L3' L4' -> RM es0' (rs ++ [r]) -> SM E es1' get' -> C_ es1' -> MK get' (fun k n=>Pm k n \/ (k ∈ r.outs /\ n = r.name)) -> M E st .normal ⟨88,F'⟩ τ' Q):Ax.R E (cutAt [1,1,1,0,1,2,2,1,1,0,2] (aA Tryz.f19).code) st ⟨88,F⟩ Y Q:=by
 have o1:=aI i1.bB
 have o2:=aI i2.bB
 have o3:=aI i3.bB
 have o4:=aI i4.bB
 have a1:=hs.ins
 have a2:=hs.outs
 have l1:=bL h i1
 have l2:=bL h i2
 have d8:=h'.XG
 simp only [aA,Tryz.f19,cutAt,Option.getD_some] at d8
 have d18:=h'.SG
 simp only [aA,Tryz.f19,cutAt,Option.getD_some] at d18
 have d19:=h'.SF
 simp only [aA,Tryz.f19,cutAt,Option.getD_some] at d19
 have r9:=fun {Y} {es0} {y} ga hy hA F g5 g7 st Q hk=>UU (Y:=Y) (y:=y) (r:=r) (p1:=p1) (p2:=p2) (p3:=p3) (p4:=p4) (A:=A) (L3:=L3) (L4:=L4) (gb:=gb) (m0:=m0) (m1:=m1) (sa:=sa) (ma:=ma) (b3:=b3) (b4:=b4) (es0:=es0) (es1:=es1) h h' hl ga hy hA F g5 g7 (st:=st) (Q:=Q) hk
 rw [show cutAt [1,1,1,0,1,2,2,1,1,0,2] (aA Tryz.f19).code = .seq (cutAt [1,1,1,0,1,2,2,1,1,0,2,0] (aA Tryz.f19).code) (.seq (cutAt [1,1,1,0,1,2,2,1,1,0,2,1,0] (aA Tryz.f19).code) (.seq (.region 9 (opsOf (cutAt [1,1,1,0,1,2,2,1,1,0,2,1,1,0] (aA Tryz.f19).code)) true) (cutAt [1,1,1,0,1,2,2,1,1,0,2,1,1,1] (aA Tryz.f19).code))) from rfl]
 generalize opsOf (cutAt [1,1,1,0,1,2,2,1,1,0,2,1,1,0] (aA Tryz.f19).code) = O9 at r9 ⊢
 generalize hREST:cutAt [1,1,1,0,1,2,2,1,1,0,2,1,1,1] (aA Tryz.f19).code = REST
 have ga1:=ga.app (O.cells 37 [.str r.name,p1,p2,p3,p4] true)
 have hy1:(Y ++ [O.cells 37 [.str r.name,p1,p2,p3,p4] true])[Y.length]? = some (O.cells 37 [.str r.name,p1,p2,p3,p4] true):=aO
 have gg1:=ga1.g
 simp only [aA,Tryz.f19,KP,Ax.loadAt,Ax.storeAt,↓reduceIte,Nat.reduceEqDiff,Nat.reduceLT,Nat.reduceAdd,reduceCtorEq,h.cQ,h.bG,cutAt,aR d8,bM,h'.lS,h'.Dg,g5,g26,g28,e1,o1,o2,o3,o4,gg1,hy1,aO,cK]
 generalize Y ++ [O.cells 37 [.str r.name,p1,p2,p3,p4] true] = τ1 at *
 generalize Y.length = y at *
 refine aL (G0 h h' (v:=.agg [.str r.name,p1,p2,p3,p4]) ⟨p1,p2,p3,p4,rfl,i1,i2,i3,i4⟩ hs) ?_
 rintro v σ' ⟨rfl,hv⟩
 obtain ⟨hu,hrm⟩:=J_ h h' ga1.rules ha hn hv
 have ga2:=ga1.rule (es0 ++ [(.str r.name,v)])
 have hy2:(σ'.set m0 (.map (es0 ++ [(.str r.name,v)])))[y]? = some (O.cells 37 [.str r.name,p1,p2,p3,p4] true):=Lb.dN.Ew ga1.rules _ _ _ _ hy1
 simp only [KP,↓reduceIte,Nat.reduceEqDiff,Nat.reduceLT,hu]
 generalize σ'.set m0 (.map (es0 ++ [(.str r.name,v)])) = τ2 at *
 refine r9 ga2 hy2 (by have:=li.KN; omega) _ ?_ ?_ _ _ (fun F3 τ3 hF3 ga3 kc3=>?_)
 ·simp +decide only [GS,g5]
 ·simp +decide only [GS]
 have li3:=li.rule (gF r)
 have hy3:=kc3 _ _ _ _ hy2
 have q0:F3.get 0 = a:=(hF3 0 (by simp)).trans (by simp +decide only [GS,g0])
 have q5:F3.get 5 = .ref gb 0:=(hF3 5 (by simp)).trans (by simp +decide only [GS,g5])
 have Ff:F3.get 26 = a:=(hF3 26 (by simp)).trans (by simp +decide only [GS,g26])
 have RU:F3.get 27 = c27:=(hF3 27 (by simp)).trans (by simp +decide only [GS,g27])
 have RT:F3.get 28 = .int .i64 (i:Int):=(hF3 28 (by simp)).trans (by simp +decide only [GS,g28])
 have q7:F3.get 7 = .ref y 0:=(hF3 7 (by simp)).trans (by simp +decide only [GS])
 have hX3:(X ++ [gF r]).length <= 1001:=by rw [List.length_append]; simp only [List.length_cons,List.length_nil]; omega
 subst hREST
 generalize X ++ [gF r] = X3 at *
 generalize keys A [gF r] = A3 at *
 have kr:=fun (Y:Sg)=>PA (Z:=Y) h h' (s:=r.name)
 rw [VC]
 simp only [aA,Tryz.f19,KP,Ax.loadAt,↓reduceIte,Nat.reduceLT,reduceCtorEq,h.aX,h.bG,cutAt,q7,hy3,l1]
 refine aS (fun j F Y=>F.get 0 = a /\ F.get 5 = .ref gb 0 /\ F.get 26 = a /\ F.get 27 = c27 /\ F.get 28 = .int .i64 (i:Int) /\ F.get 7 = .ref y 0 /\ F.get 50 = p1 /\ F.get 51 = .int .i64 (r.ins.length:Int) /\ F.get 52 = .int .i64 (j:Int) /\ Y[y]? = some (O.cells 37 [.str r.name,p1,p2,p3,p4] true) /\ ∃ A L3 L4,mZ E Y gb m0 m1 sa ma b3 b4 (es0 ++ [(.str r.name,v)]) es1 A L3 L4 /\ uV X3 (P ++ (r.ins.take j).map (fun f=>(((true,r.name):a_),((false,f):a_)))) A L3 L4) r.ins.length ?_ ?_ r.ins.length 0 _ _ (by omega) (Aw (by simp +decide only [GS,q0,q5,Ff,RU,RT,q7,and_self]) ⟨hy3,A3,L3,L4,ga3,by rw [List.take_zero,List.map_nil,List.append_nil]; exact li3⟩)
 ·rintro j F Y hj ⟨g0,g5,g26,g27,g28,g7,g50,g51,g52,hy,A,L3,L4,ga,li⟩ next
  obtain ⟨s,hsj⟩:∃ y,r.ins[j]? = some y:=⟨_,List.getElem?_eq_getElem hj⟩
  obtain ⟨g',e2⟩:=gB h i1 hsj
  have hlt:=eD hj
  have hadd:=bX j (by omega)
  have hPl:(P ++ (r.ins.take j).map (fun f=>(((true,r.name):a_),((false,f):a_)))).length <= 100010:=by rw [List.length_append,List.length_map,List.length_take]; omega
  have kf:=fun (Y:Sg)=>JB (Z:=Y) h h' (s:=s)
  rw [aG]
  simp only [KP,Ax.loadAt,↓reduceIte,Nat.reduceEqDiff,Nat.reduceLT,reduceCtorEq,h.cQ,h.bG,g5,g7,g50,g51,g52,hlt,e2,hy,kr,kf]
  refine aL (N6 h h' hl ga (x:=(true,r.name)) (y:=(false,s)) (by have:=li.KN; omega) (fun e he=>by have:=li.Nf e he; omega) (fun e he=>by have:=li.Nd e he; omega)) ?_
  rintro v2 τ' ⟨rfl,L3',L4',ga',gr3,gr4,kc⟩
  simp only [KP,↓reduceIte,Nat.reduceEqDiff,Nat.reduceLT,g52,hadd]
  refine next _ _ (Aw (by simp +decide only [GS,g0,g5,g26,g27,g28,g7,g50,g51,and_self]) ⟨kc _ _ _ _ hy,_,L3',L4',ga',?_⟩)
  rw [Hx hsj,<- List.append_assoc]
  exact li.link gr3 gr4
 rintro F Y ⟨g0,g5,g26,g27,g28,g7,g50,g51,g52,hy,A,L3,L4,ga,li⟩
 rw [List.take_of_length_le (Nat.le_refl _)] at li
 have hPl:(P ++ r.ins.map (fun f=>(((true,r.name):a_),((false,f):a_)))).length <= 100010:=by rw [List.length_append,List.length_map]; omega
 rw [aG]
 have hlt:=eE (Nat.lt_irrefl r.ins.length)
 simp only [KP,Ax.loadAt,↓reduceIte,Nat.reduceEqDiff,Nat.reduceLT,reduceCtorEq,h.aX,h.bG,g51,g52,hlt,g7,hy,l2]
 generalize hP2:P ++ r.ins.map (fun f=>(((true,r.name):a_),((false,f):a_))) = P2 at *
 refine aS (fun j F Y=>F.get 0 = a /\ F.get 5 = .ref gb 0 /\ F.get 26 = a /\ F.get 27 = c27 /\ F.get 28 = .int .i64 (i:Int) /\ F.get 7 = .ref y 0 /\ F.get 65 = p2 /\ F.get 66 = .int .i64 (r.outs.length:Int) /\ F.get 67 = .int .i64 (j:Int) /\ Y[y]? = some (O.cells 37 [.str r.name,p1,p2,p3,p4] true) /\ ∃ es1 get A L3 L4,mZ E Y gb m0 m1 sa ma b3 b4 (es0 ++ [(.str r.name,v)]) es1 A L3 L4 /\ uV X3 (P2 ++ (r.outs.take j).map (fun f=>(((false,f):a_),((true,r.name):a_)))) A L3 L4 /\ SM E es1 get /\ C_ es1 /\ MK get (fun k n=>Pm k n \/ (k ∈ r.outs.take j /\ n = r.name))) r.outs.length ?_ ?_ r.outs.length 0 _ _ (by omega) (Aw (by simp +decide only [GS,g0,g5,g26,g27,g28,g7,and_self]) ⟨hy,es1,get,A,L3,L4,ga,by rw [List.take_zero,List.map_nil,List.append_nil]; exact li,hsm,hsv,hmk.congr fun k n=>by simp⟩)
 ·rintro j F Y hj ⟨g0,g5,g26,g27,g28,g7,g65,g66,g67,hy,es1,get,A,L3,L4,ga,li,hsm,hsv,hmk⟩ next
  obtain ⟨s,hsj⟩:∃ y,r.outs[j]? = some y:=⟨_,List.getElem?_eq_getElem hj⟩
  obtain ⟨g',e2⟩:=gB h i2 hsj
  have hlt:=eD hj
  have hadd:=bX j (by omega)
  have hPl2:(P2 ++ (r.outs.take j).map (fun f=>(((false,f):a_),((true,r.name):a_)))).length <= 100020:=by rw [List.length_append,List.length_map,List.length_take]; omega
  have kf:=fun (Y:Sg)=>JB (Z:=Y) h h' (s:=s)
  rw [aG]
  simp only [KP,Ax.loadAt,↓reduceIte,Nat.reduceEqDiff,Nat.reduceLT,reduceCtorEq,h.cQ,h.bG,aR d18,bM,g5,g7,g65,g66,g67,hlt,e2,hy,kr,kf]
  refine aL (N6 h h' hl ga (x:=(false,s)) (y:=(true,r.name)) (by have:=li.KN; omega) (fun e he=>by have:=li.Nf e he; omega) (fun e he=>by have:=li.Nd e he; omega)) ?_
  rintro v2 τ' ⟨rfl,L3',L4',ga',gr3,gr4,kc⟩
  have hy':=kc _ _ _ _ hy
  have hg':=ga'.g
  obtain ⟨es1',hu,hsm',hsv'⟩:=OI h ga'.iT hsm hsv s r.name
  have ga2:=ga'.M4 es1'
  simp only [KP,Ax.loadAt,↓reduceIte,Nat.reduceEqDiff,Nat.reduceLT,reduceCtorEq,h.cQ,h.bG,h.uW,aR d19,bM,h'.lS,g5,g7,g67,hadd,hy',hg',hu]
  refine next _ _ (Aw (by simp +decide only [GS,g0,g5,g26,g27,g28,g7,g65,g66,and_self]) ⟨Lb.dN.Ew ga'.iT _ _ _ _ hy',es1',_,_,L3',L4',ga2,?_,hsm',hsv',(hmk.put s r.name).congr fun k n=>?_⟩)
  ·rw [Ft hsj,<- List.append_assoc]
   exact li.link gr3 gr4
  ·rw [fM hsj k]
   constructor
   ·rintro ((h1 | h1) | h1)
    ·exact .inl h1
    ·exact .inr ⟨.inl h1.1,h1.2⟩
    ·exact .inr ⟨.inr h1.1,h1.2⟩
   ·rintro (h1 | ⟨h1 | h1,h2⟩)
    ·exact .inl (.inl h1)
    ·exact .inl (.inr ⟨h1,h2⟩)
    ·exact .inr ⟨h1,h2⟩
 rintro F Y ⟨g0,g5,g26,g27,g28,g7,g65,g66,g67,hy,es1,get,A,L3,L4,ga,li,hsm,hsv,hmk⟩
 rw [List.take_of_length_le (Nat.le_refl _)] at li hmk
 rw [aG]
 have hlt:=eE (Nat.lt_irrefl r.outs.length)
 simp only [KP,↓reduceIte,Nat.reduceLT,g66,g67,hlt]
 refine hk _ _ _ _ _ _ _ _ (by simp +decide only [GS,g0]) (by simp +decide only [GS,g5]) (by simp +decide only [GS,g26]) (by simp +decide only [GS,g27]) (by simp +decide only [GS,g28]) ga ?_ hrm hsm hsv hmk
 unfold cV
 rw [<- List.append_assoc,hP2]
 exact li
end
end
section
section
variable {E:Env} {Z:Sg} {K:V -> Sg -> Prop}
theorem DZ {rs:List aF} {i:Nat} {r:aF} (hr:rs[i]? = some r):(rs.take (i + 1)).flatMap cV = (rs.take i).flatMap cV ++ cV r /\ (rs.take (i + 1)).map gF = (rs.take i).map gF ++ [gF r]:=by
 rw [List.take_add_one,hr]
 simp
theorem nw_c (h:bK E) (h':sM E) (hl:Lb.eS E) {a:V} {rs:List aF} (ia:IS dW a rs) (hs:∀ x ∈ rs,Small x) (hsh:Ee rs) (hlen:rs.length <= 1000) (F:FT) (g0:F.get 0 = a) {K:V -> Sg -> Prop}
  (hk:∀ Y gb ma b3 b4 es0 es1 get A L3 L4,mZ E Y gb 0 1 2 ma b3 b4 es0 es1 A L3 L4 -> uV (rs.map gF) (rs.flatMap cV) A L3 L4 -> RM es0 rs -> SM E es1 get -> C_ es1 -> MK get (Mk rs) -> K (.ref gb 0) Y):Ax.R E (cutAt [1,1] (aA Tryz.f19).code) [] ⟨88,F⟩ [] (mF E (aA Tryz.f19).results K):=by
 have la:=cT h ia
 have inner:=fun {Y gb ma b3 b4 es0 es1 A L3 L4} ga {X P} li hX hP {i r g p1 p2 p3 p4} e1 i1 i2 i3 i4 hs {rs2} ha hn {get Pm} hsm hsv hmk F g0 g5 g26 g27 g28 st Q hk=>MT (Y:=Y) (gb:=gb) (m0:=0) (m1:=1) (sa:=2) (ma:=ma) (b3:=b3) (b4:=b4) (es0:=es0) (es1:=es1) (A:=A) (L3:=L3) (L4:=L4) (X:=X) (P:=P) (a:=a) (c27:=.int .i64 (rs.length:Int)) (i:=i) (r:=r) (g:=g) (p1:=p1) (p2:=p2) (p3:=p3) (p4:=p4) (rs:=rs2) (get:=get) (Pm:=Pm) h h' hl ga li hX hP e1 i1 i2 i3 i4 hs ha hn hsm hsv hmk F g0 g5 g26 g27 g28 (st:=st) (Q:=Q) hk
 rw [show cutAt [1,1] (aA Tryz.f19).code = .seq (cutAt [1,1,0] (aA Tryz.f19).code) (.seq (.seq (cutAt [1,1,1,0,0] (aA Tryz.f19).code) (.block 0 (.loop (.seq (cutAt [1,1,1,0,1,2,2,0] (aA Tryz.f19).code) (.seq (cutAt [1,1,1,0,1,2,2,1,0] (aA Tryz.f19).code) (.seq (.block 1 (cutAt [1,1,1,0,1,2,2,1,1,0,2] (aA Tryz.f19).code)) (cutAt [1,1,1,0,1,2,2,1,1,1] (aA Tryz.f19).code))))))) (cutAt [1,1,1,1] (aA Tryz.f19).code)) from rfl]
 generalize cutAt [1,1,1,0,1,2,2,1,1,0,2] (aA Tryz.f19).code = B at inner ⊢
 simp only [aA,Tryz.f19,KP,↓reduceIte,Nat.reduceLT,cutAt]
 refine aL (Lb.QY hl (Z:=[.map [],.map []]) (v:=.aD) (l:=[]) (.inl ⟨rfl,rfl⟩) (by simp)) ?_
 rintro v τ1 ⟨m,rfl,hset,hlt,nJ⟩
 have k0:=nJ 0 _ rfl
 have k1:=nJ 1 _ rfl
 have hs2:Lb.cM τ1 2 m []:=hset
 have hlt:2 < m:=hlt
 have hml:=(List.getElem?_eq_some_iff.1 hs2.map).1
 simp only [KP,↓reduceIte,Nat.reduceEqDiff,Nat.reduceLT,Nat.reduceAdd,reduceCtorEq,h.uW,Ax.fill,Ax.placeOf,hl.sK,h'.lS,h'.Dg,h'.nU,g0,la]
 have ga0:mZ E (τ1 ++ [.map []] ++ [.map []] ++ [.cells 107 [.mp 0,.mp 1,.ref 2 0,.mp τ1.length,.mp (τ1 ++ [O.map []]).length] true]) (τ1 ++ [O.map []] ++ [O.map []]).length 0 1 2 m τ1.length (τ1 ++ [O.map []]).length [] [] [] [] []:=by
  refine ⟨aO,aN (aN (aN k0)),aN (aN (aN k1)),cM.app (cM.app (cM.app hs2 _) _) _,⟨aN (aN aO),(fun e he=>by cases he),List.nodup_nil⟩,⟨aN aO,(fun e he=>by cases he),List.nodup_nil⟩,?_⟩
  rw [List.length_append]
  simp only [List.map_nil,List.append_nil,List.nodup_cons,List.mem_cons,List.not_mem_nil,or_false,not_or,List.length_cons,List.length_nil,not_false_eq_true,List.nodup_nil,and_true]
  omega
 generalize τ1 ++ [.map []] ++ [.map []] ++ [.cells 107 [.mp 0,.mp 1,.ref 2 0,.mp τ1.length,.mp (τ1 ++ [O.map []]).length] true] = τ2 at *
 generalize (τ1 ++ [O.map []] ++ [O.map []]).length = gb at *
 generalize (τ1 ++ [O.map []]).length = b4 at *
 generalize τ1.length = b3 at *
 refine aS (fun i F Y=>F.get 0 = a /\ F.get 5 = .ref gb 0 /\ F.get 26 = a /\ F.get 27 = .int .i64 (rs.length:Int) /\ F.get 28 = .int .i64 (i:Int) /\ ∃ es0 es1 get A L3 L4,mZ E Y gb 0 1 2 m b3 b4 es0 es1 A L3 L4 /\ uV ((rs.take i).map gF) ((rs.take i).flatMap cV) A L3 L4 /\ RM es0 (rs.take i) /\ SM E es1 get /\ C_ es1 /\ MK get (Mk (rs.take i))) rs.length ?_ ?_ rs.length 0 _ _ (by omega) (lV (by simp +decide only [GS,g0,and_self]) ⟨[],[],fun _=>none,[],[],[],ga0,uV.nil,.nil,HK,(fun e he=>by cases he),MK.nil.congr fun k n=>⟨fun h=>h.elim,fun ⟨q,hq,_⟩=>by cases hq⟩⟩)
 ·rintro i F Y hi ⟨g0,g5,g26,g27,g28,es0,es1,get,A,L3,L4,ga,li,ha,hsm,hsv,hmk⟩ next
  obtain ⟨r,hr⟩:∃ y,rs[i]? = some y:=⟨_,List.getElem?_eq_getElem hi⟩
  obtain ⟨g,p1,p2,p3,p4,e1,i1,i2,i3,i4⟩:=fB h ia hr
  have hrm:=List.mem_of_getElem? hr
  have hlt:=eD hi
  have hadd:=bX i (by omega)
  have hnn:∀ q ∈ rs.take i,q.name ≠ r.name:=fun q hq e=>by
   obtain ⟨j,hj⟩:=List.mem_iff_getElem?.1 hq
   have hji:j < i:=by have:=(List.getElem?_eq_some_iff.1 hj).1; rw [List.length_take] at this; omega
   rw [List.getElem?_take_of_lt hji] at hj
   have:=hsh.nodup j i q r hj hr e
   omega
  have hXl:((rs.take i).map gF).length <= 1000:=by rw [List.length_map,List.length_take]; omega
  have hPl:((rs.take i).flatMap cV).length <= 100000:=by
   have:=oL (rs.take i) fun q hq=>hs q (List.mem_of_mem_take hq)
   rw [List.length_take] at this
   omega
  rw [aG]
  simp only [KP,↓reduceIte,Nat.reduceLT,g27,g28,hlt]
  refine inner ga li hXl hPl e1 i1 i2 i3 i4 (hs r hrm) ha hnn hsm hsv hmk _ ?_ ?_ ?_ ?_ ?_ _ _ (fun F2 τ2 es0' es1' get' A' L3' L4' q0 q5 Ff RU RT ga' li' ha' hsm' hsv' hmk'=>?_)
  ·simp +decide only [GS,g0]
  ·simp +decide only [GS,g5]
  ·simp +decide only [GS,g26]
  ·simp +decide only [GS,g27]
  ·simp +decide only [GS,g28]
  simp only [KP,↓reduceIte,Nat.reduceLT,RT,hadd]
  refine next _ _ (lV (by simp +decide only [GS,q0,q5,Ff,RU,and_self]) ⟨es0',es1',get',A',L3',L4',ga',?_,?_,hsm',hsv',hmk'.congr fun k n=>(J0 hr k n).symm⟩)
  ·rw [(DZ hr).1,(DZ hr).2]; exact li'
  ·rw [List.take_add_one,hr]; exact ha'
 ·rintro F Y ⟨g0,g5,g26,g27,g28,es0,es1,get,A,L3,L4,ga,li,ha,hsm,hsv,hmk⟩
  rw [List.take_of_length_le (Nat.le_refl _)] at li ha hmk
  have hlt:=eE (Nat.lt_irrefl rs.length)
  rw [aG]
  simp only [KP,↓reduceIte,Nat.reduceEqDiff,Nat.reduceLT,g5,g27,g28,hlt]
  exact hk _ _ _ _ _ _ _ _ _ _ _ ga li ha hsm hsv hmk
end
end
section
section
variable {E:Env} {Z:Sg} {K:V -> Sg -> Prop}
def sL (ks:List a_):V:=.dB false [.imp false (Lb.lR ks)]
def tT (e:cZ):V × V:=(oH e.key,sL e.ks)
def gV (es0 es1:List (V × V)) (A:List a_) (L3 L4:List cZ):V:=.dB false [.imp false es0,.imp false es1,sL A,.imp false (L3.map tT),.imp false (L4.map tT)]
structure IF (E:Env) (rs:List aF) (es0 es1:List (V × V)) (get:bA -> Option V) (A:List a_) (L3 L4:List cZ):Prop where
 rules:RM es0 rs
 sm:SM E es1 get
 sv:C_ es1
 M4:MK get (Mk rs)
 li:uV (rs.map gF) (rs.flatMap cV) A L3 L4
 nA:A.Nodup
 n3:(L3.map cZ.key).Nodup
 n4:(L4.map cZ.key).Nodup
 k3:∀ e ∈ L3,e.ks.Nodup
 k4:∀ e ∈ L4,e.ks.Nodup
def QL (E:Env) (rs:List aF) (v:V):Prop:=∃ es0 es1 get A L3 L4,v = gV es0 es1 A L3 L4 /\ IF E rs es0 es1 get A L3 L4
theorem Ge {α β γ:Type} {f:β -> Option γ} {g:α -> β} {k:α -> γ}:∀ {l:List α},(∀ x ∈ l,f (g x) = some (k x)) -> aU f (l.map g) = some (l.map k)
 | [],_=>rfl
 | x :: l,h=>by rw [List.map_cons,aU,h x (List.mem_cons_self ..),Ge fun y hy=>h y (List.mem_cons_of_mem _ hy)]; rfl
theorem Bz {Z:Sg} {b m n:Nat} {ks:List a_} (hs:Lb.cM Z b m ks):bS Z E.ty false (n + 3) (.ref b 0) = some (sL ks):=by
 have e1:bS Z E.ty false (n + 2) (.mp m) = some (.imp false (Lb.lR ks)):=by
  rw [bS]
  simp only [hs.map]
  rw [Lb.Gf (Lb.lR ks)]
  intro e he
  obtain ⟨k,_,rfl⟩:=List.mem_map.1 he
  rfl
 rw [bS]
 simp only [hs.obj,List.drop_zero]
 show (match aU (fun v=>match bS Z E.ty false (n + 2) v with
  | some v=>if cO false v then some v else no "snap: borrowed"
  | none=>none) [V.mp m] with
  | some l=>some (V.dB false l)
  | none=>none) = _
 simp only [aU,e1]
 rfl
theorem Bx {Z:Sg} {b n:Nat} {L:List cZ} (hm:iF Z b L):bS Z E.ty false (n + 4) (.mp b) = some (.imp false (L.map tT)):=by
 rw [bS]
 simp only [hm.map]
 rw [Ge (k:=tT) fun e he=>?_]
 have h1:=Bz (E:=E) (n:=n) (hm.sets e he)
 have hp:(oH e.key).cells.all Ax.plainCell = true:=rfl
 show (if (oH e.key).cells.all Ax.plainCell = true then (match (match bS Z E.ty false (n + 3) (.ref e.s 0) with
   | some v=>if cO false v then some v else no "snap: borrowed"
   | none=>none) with
   | some v=>some (oH e.key,v)
   | none=>none) else none) = _
 rw [if_pos hp,h1]
 rfl
theorem FF {Z:Sg} {b n:Nat} {es:List (V × V)} {rs:List aF} (hb:Z[b]? = some (.map es)) (ha:RM es rs):bS Z E.ty false (n + 2) (.mp b) = some (.imp false es):=by
 rw [bS]
 simp only [hb]
 rw [iQ fun e he=>?_]
 obtain ⟨r,-,e1,a,b,c,d,e2,i1,i2,i3,i4⟩:=ha.mem he
 obtain ⟨k,v⟩:=e
 dsimp only at e1 e2
 subst e1 e2
 have hp:(V.str r.name).cells.all Ax.plainCell = true:=rfl
 have q:∀ c:V,Ax.bB c = true -> bS Z E.ty false (n + 1) c = some c:=fun c h1=>jN h1
 have t0:cO false (V.str r.name) = true:=rfl
 simp only [hp,if_true,aU,q (.str r.name) rfl,q a i1.is.bB,q b i2.is.bB,q c i3.is.bB,q d i4.is.bB,t0,i1.tag,i2.tag,i3.tag,i4.tag]
theorem HJ {Z:Sg} {b n:Nat} {es:List (V × V)} {get:bA -> Option V} (hb:Z[b]? = some (.map es)) (hs:SM E es get) (hv:C_ es):bS Z E.ty false (n + 2) (.mp b) = some (.imp false es):=by
 rw [bS]
 simp only [hb]
 rw [iQ fun e he=>?_]
 obtain ⟨k,e1⟩:=(hs.1 e he).1
 obtain ⟨m,e2⟩:=hv e he
 obtain ⟨a,v⟩:=e
 dsimp only at e1 e2
 subst e1 e2
 rfl
theorem HI {Z:Sg} {gb m0 m1 sa ma b3 b4:Nat} {es0 es1:List (V × V)} {get:bA -> Option V} {A:List a_} {L3 L4:List cZ} {rs:List aF} (ga:mZ E Z gb m0 m1 sa ma b3 b4 es0 es1 A L3 L4) (ha:RM es0 rs) (hs:SM E es1 get) (hv:C_ es1):dD Z E.ty false (.ref gb 0) = some (gV es0 es1 A L3 L4):=by
 have s0:=FF (E:=E) (n:=9) ga.rules ha
 have s1:=HJ (E:=E) (n:=9) ga.iT hs hv
 have s2:=Bz (E:=E) (n:=8) ga.all
 have s3:=Bx (E:=E) (n:=7) ga.jH
 have s4:=Bx (E:=E) (n:=7) ga.i_
 have e:bS Z E.ty false 12 (.ref gb 0) = some (gV es0 es1 A L3 L4):=by
  rw [bS]
  simp only [ga.g,List.drop_zero]
  show (match aU (fun v=>match bS Z E.ty false 11 v with
   | some v=>if cO false v then some v else no "snap: borrowed"
   | none=>none) [V.mp m0,V.mp m1,V.ref sa 0,V.mp b3,V.mp b4] with
   | some l=>some (V.dB false l)
   | none=>none) = _
  simp only [aU,s0,s1,s2,s3,s4]
  rfl
 show (match bS Z E.ty false 12 (.ref gb 0) with
  | some v=>if cO false v then some v else no "snap: borrowed"
  | none=>none) = _
 rw [e]
 rfl
theorem Iv (h:bK E) (h':sM E) (hl:Lb.eS E) {a:V} {rs:List aF} (ha:LS dW 37 Z a rs) (hs:∀ x ∈ rs,Small x) (hlen:rs.length <= 4294967296):aB E 19 [a] Z fun v σ'=>σ' = Z /\ ((¬ mO rs /\ v = .fF) \/ (mO rs /\ QL E rs v)):=by
 obtain ⟨a',ea,ia⟩:=eR h ha
 rw [aH h'.hs19 h'.Mi h'.fn19 h'.md19 (args':=[a']) (by simp only [aU,ea]),aW (by kernel_rfl)]
 have key:=fun hsh hlen F g0 hk=>nw_c (a:=a') (rs:=rs) h h' hl ia hs hsh hlen F g0 (K:=fun v σ1=>match dD σ1 E.ty false v with
   | some v=>((¬ mO rs /\ v = .fF) \/ (mO rs /\ QL E rs v))
   | none=>False) hk
 rw [show (aA Tryz.f19).code = .seq (cutAt [0] (aA Tryz.f19).code) (.seq (cutAt [1,0] (aA Tryz.f19).code) (cutAt [1,1] (aA Tryz.f19).code)) from rfl]
 generalize cutAt [1,1] (aA Tryz.f19).code = C at key ⊢
 simp only [aA,Tryz.f19,KP,↓reduceIte,Nat.reduceLT,reduceCtorEq,cutAt]
 refine aL (S_ h (ia.ls _ 37) hs hlen) ?_
 rintro v σ' ⟨rfl,e,nm,rfl,hE⟩
 by_cases he:e = 0
 ·have q:=decide_eq_true he
  have hr:=hE.zero.1 he
  have hg:=rK hr.1
  have h40:=hg.len
  simp only [KP,↓reduceIte,Nat.reduceEqDiff,Nat.reduceLT,q]
  refine key hg.short (Nat.le_trans h40 (by decide)) _ ?_ ?_
  ·simp +decide only [GS]
  intro Y gb ma b3 b4 es0 es1 get A L3 L4 ga li ha hsm hsv hmk
  rw [HI ga ha hsm hsv]
  exact .inr ⟨hr,es0,es1,get,A,L3,L4,rfl,ha,hsm,hsv,hmk,li,ga.all.nodup,ga.jH.nodup,ga.i_.nodup,fun e he=>(ga.jH.sets e he).nodup,fun e he=>(ga.i_.sets e he).nodup⟩
 ·have q:=decide_eq_false he
  simp only [KP,↓reduceIte,Nat.reduceEqDiff,Nat.reduceLT,q]
  exact .inl ⟨mt hE.zero.2 he,rfl⟩
end
end
section
structure OB (E:Env):Prop where
 hs23:E.hspec 23 = none
 Mg:E.spec 23 = none
 fn23:E.fn 23 = some (aA Tryz.f23)
 md23:E.mode 23 = .fG
 hs36:E.hspec 36 = none
 sp36:E.spec 36 = none
 fn36:E.fn 36 = some (aA Tryz.f36)
 md36:E.mode 36 = .fG
 hs26:E.hspec 26 = none
 Mf:E.spec 26 = none
 fn26:E.fn 26 = some (aA Tryz.f26)
 md26:E.mode 26 = .fG
 hs33:E.hspec 33 = none
 sp33:E.spec 33 = none
 fn33:E.fn 33 = some (aA Tryz.f33)
 md33:E.mode 33 = .fG
 hs39:E.hspec 39 = none
 sp39:E.spec 39 = none
 fn39:E.fn 39 = some (aA Tryz.f39)
 md39:E.mode 39 = .fG
 VM:E.hspec 76 = none
 Tw:E.spec 76 = none
 Wy:E.fn 76 = some (aA Tryz.f76)
 UZ:E.mode 76 = .fG
 XF:aM E (cutAt [1,1,0] (aA Tryz.f23).code) = true
 XB:aM E (cutAt [1,1,0] (aA Tryz.f36).code) = true
 XE:aM E (cutAt [1,0,2,0] (aA Tryz.f26).code) = true
 XD:aM E (cutAt [1,0,2,1,1,1,1,0] (aA Tryz.f26).code) = true
section
variable {E:Env} {Z:Sg} {K:V -> Sg -> Prop}
def OA (v:V) (l:List a_):Prop:=(v = .aD /\ l = []) \/ ∃ full,v = .bR false (l.map row) full
theorem OA.lv {v:V} {l:List a_} (h:OA v l):Lb.LV v l:=h.imp id fun ⟨f,e⟩=>⟨false,f,e⟩
def zU (ks:List a_):Prop:=ks.length <= 1000000 /\ ∀ k ∈ ks,k.2.length <= 9223372036854775807
theorem Du:∀ l:List a_,Ax.rows 2 l.length (l.flatMap row) = l.map row
 | []=>rfl
 | x :: l=>by
  rw [List.length_cons,List.flatMap_cons,Ax.rows,List.map_cons]
  have h1:(row x ++ l.flatMap row).take 2 = row x:=rfl
  have h2:(row x ++ l.flatMap row).drop 2 = l.flatMap row:=rfl
  rw [h1,h2,Du l]
theorem Ki (hl:Lb.eS E) {Z:Sg} {j:Nat} {l:List a_} {ex:Bool} (hj:Z[j]? = some (.cells 46 (l.flatMap row) ex)):∃ v',dD Z E.ty false (.sl j 0 l.length none) = some v' /\ OA v' l:=by
 have hlen:(l.flatMap row).length = l.length * 2:=Lb.pB l
 obtain ⟨full,e⟩:=Bw (g:=false) (n:=l.length) hj hl.eU (show l.length * 2 <= _ by omega) (fun c hc=>by
  rw [show (l.flatMap row).take (l.length * 2) = l.flatMap row from List.take_of_length_le (by omega)] at hc
  obtain ⟨x,-,hx⟩:=List.mem_flatMap.1 hc
  unfold row at hx
  simp only [List.mem_cons,List.not_mem_nil,or_false] at hx
  rcases hx with rfl | rfl <;> exact ⟨rfl,rfl⟩)
 refine ⟨_,e,.inr ⟨full,?_⟩⟩
 show V.bR false (Ax.rows 2 l.length ((l.flatMap row).take (l.length * 2))) full = _
 rw [List.take_of_length_le (by omega),Du]
theorem uX (hl:Lb.eS E) {Z σ':Sg} {r:V} {l:List a_} (h:Lb.Own Z σ' r l):∃ v',dD σ' E.ty false r = some v' /\ OA v' l:=by
 rcases h with ⟨rfl,rfl⟩ | ⟨j,-,rfl,hj⟩
 ·exact ⟨.aD,rfl,.inl ⟨rfl,rfl⟩⟩
 ·exact Ki hl hj
theorem HE {ks:List a_} (hn:ks.Nodup) (hs:zU ks) {j:Nat} {g:Bool} (hj:Z[j]? = some (.cells 82 [.imp g (Lb.lR ks)] true)) :
  l_ 46 [129] [] 89 [.fn 129 [] [.ref j 0],.fn 89 [] []] Z = some (if ks = [] then (.aD,Z) else (.sl Z.length 0 ks.length none,Z ++ [.cells 46 ((setOf ks).flatMap row) false])):=by
 have hk:keysOf Z [129] [] (.fn 129 [] [.ref j 0]) = some (ks.map row):=by
  unfold keysOf
  simp only [hj]
  exact congrArg some (Lb.Ko ks)
 show uJ 46 [129] [] lZ tK (.fn 129 [] [.ref j 0]) Z = _
 unfold uJ
 rw [hk]
 cases hks:ks with
 | nil=>rfl
 | cons k r=>
  have ha:=Lb.CL ks hs.2
  have hk2:=Kh hn
  have hlen:=hs.1
  rw [hks] at ha hk2 hlen
  rw [List.map_cons] at ha hk2 ⊢
  rw [if_neg (by simp)]
  show (match allRows lZ (row k :: r.map row),Nat.ble (row k :: r.map row).length 1000000 with
   | true,true=>some (V.sl Z.length 0 (row k :: r.map row).length none,Z ++ [O.cells 46 (kT tK (row k :: r.map row)).flatten false])
   | _,_=>none) = _
  rw [ha,Nat.ble_eq_true_of_le (by simpa using hlen),hk2,Lb.NH]
  simp
theorem QB (hl:Lb.eS E) (h:bK E) {g:Bool} {es:List (V × V)}:aB E 88 [.imp g es] Z K = K (.fn 129 [] [.ref Z.length 0]) (Z ++ [.cells 82 [.imp g es] true]):=by
 refine aB.of ?_
 rw [eF hl.hs88 hl.sp88 hl.fn88 hl.md88,aW (by kernel_rfl)]
 simp only [aA,Tryz.f88,KP,↓reduceIte,Nat.reduceEqDiff,Nat.reduceLT,hl.wJ]
theorem Od (hl:Lb.eS E) (h:bK E) {g g':Bool} {ks:List a_} (hn:ks.Nodup) (hsm:zU ks):aB E 50 [.dB g [.imp g' (Lb.lR ks)]] Z fun r σ'=>Lb.Own Z σ' r (setOf ks):=by
 rw [eF hl.hs50 hl.sp50 hl.fn50 hl.md50,aW (by kernel_rfl)]
 have kk:=dM fun K=>QB (Z:=Z) (K:=K) hl h (g:=g') (es:=Lb.lR ks)
 simp only [aA,Tryz.f50,KP,Ax.loadAt,↓reduceIte,Nat.reduceLT,reduceCtorEq,hl.wJ,hl.vJ,hl.LU,lQ,kk]
 have hj:(Z ++ [O.cells 82 [.imp g' (Lb.lR ks)] true])[Z.length]? = some (.cells 82 [.imp g' (Lb.lR ks)] true):=aO
 have hsk:=HE hn hsm hj
 unfold J1
 rw [qQ hl.hs87,hsk]
 by_cases hks:ks = []
 ·rw [if_pos hks]
  simp only [cW]
  simp only [KP,↓reduceIte,Nat.reduceLT]
  subst hks
  exact .inl ⟨rfl,rfl⟩
 ·rw [if_neg hks]
  simp only [cW]
  simp only [KP,↓reduceIte,Nat.reduceLT]
  refine .inr ⟨_,?_,by rw [qW hn],?_⟩
  ·rw [List.length_append]; omega
  ·exact aO
theorem S5 (hl:Lb.eS E) (h:bK E) {g g':Bool} {ks:List a_} (x:a_):aB E 48 [.dB g [.imp g' (Lb.lR ks)],.agg [.bool x.1,.str x.2]] Z K = K (.bool (decide (x ∈ ks))) Z:=by
 refine aB.of ?_
 have hi:Ax.bB (.dB g [.imp g' (Lb.lR ks)]) = true:=rfl
 have e1:=cR (Z:=Z) (ty:=E.ty) hi (bZ hi)
 have e2:aZ Z E.ty true (.agg [.bool x.1,.str x.2]) = some (.agg [.bool x.1,.str x.2]):=rfl
 have d1:=hl.XA
 simp only [aA,Tryz.f48,cutAt,Option.getD_some] at d1
 rw [aH hl.hs48 hl.sp48 hl.fn48 hl.md48 (args':=[.dB g [.imp g' (Lb.lR ks)],.agg [.bool x.1,.str x.2]]) (by simp only [aU,e1,e2]),aW (by kernel_rfl)]
 have hk:=Lb.qC hl x.1 x.2
 have hf:=Lb.BP hl x ks
 by_cases hx:x ∈ ks
 ·simp only [aA,Tryz.f48,KP,Ax.loadAt,↓reduceIte,Nat.reduceEqDiff,Nat.reduceLT,Nat.reduceAdd,reduceCtorEq,h.CW,h.eU,hl.wJ,hl.vJ,hl.LU,lQ,aR d1,bM,Ax.lookup,hk,Ax.entriesOf,hf,hx]
  exact rfl
 ·simp only [aA,Tryz.f48,KP,Ax.loadAt,↓reduceIte,Nat.reduceEqDiff,Nat.reduceLT,Nat.reduceAdd,reduceCtorEq,h.CW,h.eU,hl.wJ,hl.vJ,hl.LU,lQ,aR d1,bM,Ax.lookup,hk,Ax.entriesOf,hf,hx]
  exact rfl
end
end
section
section
variable {E:Env} {Z:Sg} {K:V -> Sg -> Prop}
def qL (rs:List aF):List a_:=setOf (rs.map gF ++ (rs.flatMap cV).flatMap fun p=>[p.1,p.2])
def kC (rs:List aF) (x:a_):List a_:=setOf (((rs.flatMap cV).filter fun p=>decide (p.1 = x)).map Prod.snd)
def r_ (rs:List aF) (x:a_):List a_:=setOf (((rs.flatMap cV).filter fun p=>decide (p.2 = x)).map Prod.fst)
theorem kU {rs:List aF} {x w:a_}:w ∈ kC rs x ↔ (x,w) ∈ rs.flatMap cV:=by
 unfold kC
 rw [iP,List.mem_map]
 constructor
 ·rintro ⟨⟨a,b⟩,h1,rfl⟩
  obtain ⟨h1,h2⟩:=List.mem_filter.1 h1
  rw [<- of_decide_eq_true h2]
  exact h1
 ·exact fun h1=>⟨(x,w),List.mem_filter.2 ⟨h1,decide_eq_true rfl⟩,rfl⟩
theorem uH {rs:List aF} {x w:a_}:w ∈ r_ rs x ↔ (w,x) ∈ rs.flatMap cV:=by
 unfold r_
 rw [iP,List.mem_map]
 constructor
 ·rintro ⟨⟨a,b⟩,h1,rfl⟩
  obtain ⟨h1,h2⟩:=List.mem_filter.1 h1
  rw [<- of_decide_eq_true h2]
  exact h1
 ·exact fun h1=>⟨(w,x),List.mem_filter.2 ⟨h1,decide_eq_true rfl⟩,rfl⟩
theorem Gc {rs:List aF} {x:a_}:x ∈ qL rs ↔ x ∈ rs.map gF \/ ∃ p ∈ rs.flatMap cV,x = p.1 \/ x = p.2:=by
 unfold qL
 rw [iP,List.mem_append,List.mem_flatMap]
 refine or_congr Iff.rfl (exists_congr fun p=>and_congr Iff.rfl ?_)
 simp
theorem QI (rs:List aF):Up (qL rs):=nX _
theorem tE (rs:List aF) (x:a_):Up (kC rs x):=nX _
theorem Fo (rs:List aF) (x:a_):Up (r_ rs x):=nX _
structure Fits (rs:List aF):Prop where
 ok:mO rs
 small:∀ x ∈ rs,Small x
theorem tG {s:bA} (h:bE s = true):s.length <= 40:=by
 unfold bE at h
 simp only [Bool.and_eq_true,decide_eq_true_eq] at h
 exact h.1.2
theorem HW {s:bA} (h:bE s = true):s ≠ []:=by
 rintro rfl
 revert h
 decide
theorem Fits.form {rs:List aF} (h:Fits rs):∀ r ∈ rs,jK r = true:=fun r hr=>by
 have h0:=h.ok.1
 unfold gA at h0
 cases hf:rs.find? (fun r=>decide (aY r ≠ 0)) with
 | some q=>
  rw [hf] at h0
  have:=List.find?_some hf
  exact absurd h0 (of_decide_eq_true this)
 | none=>
  have:=List.find?_eq_none.1 hf r hr
  have h1:aY r = 0:=by
   refine Classical.byContradiction fun hne=>this (decide_eq_true hne)
  unfold aY at h1
  by_cases hq:jK r = false
  ·rw [if_pos hq] at h1; cases h1
  ·simpa using hq
theorem Fits.names {rs:List aF} (h:Fits rs):∀ r ∈ rs,bE r.name = true /\ (∀ f ∈ r.ins,bE f = true) /\ ∀ f ∈ r.outs,bE f = true:=fun r hr=>by
 have:=h.form r hr
 rw [DV] at this
 simp only [Bool.and_eq_true,List.all_eq_true] at this
 exact ⟨this.1.1.1.1.1,this.1.1.1.2,this.1.1.2⟩
theorem Fits.pair {rs:List aF} (h:Fits rs) {p:a_ × a_} (hp:p ∈ rs.flatMap cV):bE p.1.2 = true /\ bE p.2.2 = true:=by
 obtain ⟨r,hr,hp⟩:=List.mem_flatMap.1 hp
 obtain ⟨h1,h2,h3⟩:=h.names r hr
 unfold cV at hp
 rcases List.mem_append.1 hp with hp | hp
 ·obtain ⟨f,hf,rfl⟩:=List.mem_map.1 hp
  exact ⟨h1,h2 f hf⟩
 ·obtain ⟨f,hf,rfl⟩:=List.mem_map.1 hp
  exact ⟨h3 f hf,h1⟩
theorem Fits.lab {rs:List aF} (h:Fits rs) {x:a_} (hx:x ∈ qL rs):bE x.2 = true:=by
 rcases Gc.1 hx with hx | ⟨p,hp,rfl | rfl⟩
 ·obtain ⟨r,hr,rfl⟩:=List.mem_map.1 hx
  exact (h.names r hr).1
 ·exact (h.pair hp).1
 ·exact (h.pair hp).2
theorem Fits.len {rs:List aF} (h:Fits rs):rs.length <= 40:=(rK h.ok.1).len
theorem Fits.HQ {rs:List aF} (h:Fits rs):(rs.flatMap cV).length <= 640:=by
 have:=oL rs h.small
 have:=h.len
 omega
section
variable {rs:List aF} {es0 es1:List (V × V)} {get:bA -> Option V} {A:List a_} {L3 L4:List cZ}
theorem IF.all (hi:IF E rs es0 es1 get A L3 L4):setOf A = qL rs:=Ac fun x=>by
 rw [hi.li.all,List.mem_append,List.mem_flatMap]
 refine or_congr Iff.rfl (exists_congr fun p=>and_congr Iff.rfl ?_)
 simp
theorem IF.RI (hi:IF E rs es0 es1 get A L3 L4) (hf:Fits rs):zU A:=by
 refine ⟨?_,fun k hk=>?_⟩
 ·have h1:=hi.li.KN
  have h2:=hf.HQ
  have h3:=hf.len
  rw [List.length_map] at h1
  omega
 ·have h1:k ∈ qL rs:=by rw [<- hi.all,iP]; exact hk
  have:=tG (hf.lab h1)
  omega
theorem EN {L:List cZ} {e:cZ} {x:a_} (he:bI L x = some e):qB L x = e.ks:=by unfold qB; rw [he]
theorem Jw {L:List cZ} {x:a_} (he:bI L x = none):qB L x = []:=by unfold qB; rw [he]
theorem IF.need (hi:IF E rs es0 es1 get A L3 L4) (x:a_):setOf (qB L3 x) = kC rs x:=Bg (nX _) (tE rs x) fun w=>by rw [iP,hi.li.need,kU]
theorem IF.user (hi:IF E rs es0 es1 get A L3 L4) (x:a_):setOf (qB L4 x) = r_ rs x:=Bg (nX _) (Fo rs x) fun w=>by rw [iP,hi.li.user,uH]
theorem IF.RL (hi:IF E rs es0 es1 get A L3 L4) (hf:Fits rs) {e:cZ} {x:a_} (he:bI L3 x = some e):zU e.ks:=by
 refine ⟨?_,fun k hk=>?_⟩
 ·have h1:=hi.li.Nf e (fR he).1
  have h2:=hf.HQ
  omega
 ·rw [<- EN he,hi.li.need] at hk
  have h2:k.2.length <= 40:=tG (hf.pair hk).2
  omega
theorem IF.RJ (hi:IF E rs es0 es1 get A L3 L4) (hf:Fits rs) {e:cZ} {x:a_} (he:bI L4 x = some e):zU e.ks:=by
 refine ⟨?_,fun k hk=>?_⟩
 ·have h1:=hi.li.Nd e (fR he).1
  have h2:=hf.HQ
  omega
 ·rw [<- EN he,hi.li.user] at hk
  have h2:k.2.length <= 40:=tG (hf.pair hk).1
  omega
end
theorem BR (hl:Lb.eS E) (x:a_):∀ L:List cZ,gZ (eM E 46) (oH x) (L.map tT) = some ((L.find? fun e=>decide (x = e.key)).map fun e=>sL e.ks)
 | []=>rfl
 | e :: L=>by
  show (match eM E 46 (.agg [.bool x.1,.str x.2]) (.agg [.bool e.key.1,.str e.key.2]) with
   | some true=>some (some (sL e.ks))
   | some false=>gZ (eM E 46) (oH x) (L.map tT)
   | none=>none) = _
  rw [Lb.qF hl,List.find?_cons]
  by_cases h:x = e.key
  ·rw [decide_eq_true (show ((x.1,x.2):a_) = (e.key.1,e.key.2) from h)]; rfl
  ·rw [decide_eq_false (show ¬ ((x.1,x.2):a_) = (e.key.1,e.key.2) from h)]
   exact BR hl x L
theorem DN (h':sM E) (hl:Lb.eS E) {Z:Sg} {g:Bool} {L:List cZ} (x:a_):lookup E Z 105 (.imp g (L.map tT)) (.agg [.bool x.1,.str x.2]) false = some (match bI L x with | some e=>sL e.ks | none=>.fF):=by
 have hk:=Lb.qC hl x.1 x.2
 unfold Ax.lookup
 simp only [h'.nU,hl.sK,hk,entriesOf,Bool.not_true,Bool.false_eq_true,if_false]
 have:=BR hl x L
 unfold oH at this
 rw [this]
 unfold bI
 cases L.find? fun e=>decide (x = e.key) <;> rfl
theorem XM (h:bK E) (h':sM E) (hl:Lb.eS E) (q:OB E) {ks:List a_} (hn:ks.Nodup) (hs:zU ks):aB E 76 [sL ks] Z fun v σ'=>σ' = Z /\ OA v (setOf ks):=by
 have hi:Ax.bB (sL ks) = true:=rfl
 have e1:=cR (Z:=Z) (ty:=E.ty) hi (bZ hi)
 rw [aH q.VM q.Tw q.Wy q.UZ (args':=[sL ks]) (by simp only [aU,e1]),aW (by kernel_rfl)]
 simp only [aA,Tryz.f76,KP,↓reduceIte,Nat.reduceLT,reduceCtorEq,hl.sK,hl.vJ,hl.AF,lQ,sL]
 refine aL (Od hl h hn hs) ?_
 intro r σ' ho
 obtain ⟨v',hv,hlv⟩:=uX hl ho
 simp only [KP,↓reduceIte,Nat.reduceLT,hv]
 exact hlv
theorem QX (h:bK E) (h':sM E) (hl:Lb.eS E) (q:OB E):aB E 76 [.fF] Z fun v σ'=>σ' = Z /\ OA v []:=by
 have e1:aZ Z E.ty true .fF = some .fF:=rfl
 rw [aH q.VM q.Tw q.Wy q.UZ (args':=[.fF]) (by simp only [aU,e1]),aW (by kernel_rfl)]
 simp only [aA,Tryz.f76,KP,↓reduceIte,Nat.reduceLT,reduceCtorEq,hl.sK,lQ]
 exact .inl ⟨rfl,rfl⟩
theorem yA (h:bK E) (h':sM E) (hl:Lb.eS E) (q:OB E) {g:V} {rs:List aF} (hg:QL E rs g) (hf:Fits rs) (x:a_):aB E 23 [g,.agg [.bool x.1,.str x.2]] Z fun v σ'=>σ' = Z /\ OA v (kC rs x):=by
 obtain ⟨es0,es1,get,A,L3,L4,rfl,hi⟩:=hg
 have him:Ax.bB (gV es0 es1 A L3 L4) = true:=rfl
 have e1:=cR (Z:=Z) (ty:=E.ty) him (bZ him)
 have e2:aZ Z E.ty true (.agg [.bool x.1,.str x.2]) = some (.agg [.bool x.1,.str x.2]):=rfl
 have d3:=q.XF
 simp only [aA,Tryz.f23,cutAt,Option.getD_some] at d3
 rw [aH q.hs23 q.Mg q.fn23 q.md23 (args':=[gV es0 es1 A L3 L4,.agg [.bool x.1,.str x.2]]) (by simp only [aU,e1,e2]),aW (by kernel_rfl)]
 have en:lQ E 41 true (.dB false [.imp false es0,.imp false es1,sL A,.imp false (L3.map tT),.imp false (L4.map tT)]) .fF = some false:=by unfold lQ; rw [h'.Kb]
 have lk:=fun Z g=>DN (Z:=Z) (g:=g) (L:=L3) h' hl x
 rw [<- hi.need]
 cases hk:bI L3 x with
 | none=>
  rw [hk] at lk
  rw [Jw hk]
  simp only [aA,Tryz.f23,KP,Ax.loadAt,↓reduceIte,Nat.reduceEqDiff,Nat.reduceLT,Nat.reduceAdd,reduceCtorEq,h.eU,h'.lS,h'.nU,gV,en,lk,aR d3,bM]
  refine aL (QX h h' hl q) ?_
  rintro r σ' ⟨rfl,hr⟩
  rcases hr with ⟨rfl,-⟩ | ⟨full,rfl⟩
  ·simp only [KP,↓reduceIte,Nat.reduceLT]
   exact .inl ⟨rfl,rfl⟩
  ·simp only [KP,↓reduceIte,Nat.reduceLT]
   exact .inr ⟨full,rfl⟩
 | some e=>
  rw [hk] at lk
  rw [EN hk]
  simp only [aA,Tryz.f23,KP,Ax.loadAt,↓reduceIte,Nat.reduceEqDiff,Nat.reduceLT,Nat.reduceAdd,reduceCtorEq,h.eU,h'.lS,h'.nU,gV,en,lk,aR d3,bM]
  refine aL (XM h h' hl q (hi.k3 e (fR hk).1) (hi.RL hf hk)) ?_
  rintro r σ' ⟨rfl,hr⟩
  rcases hr with ⟨rfl,h0⟩ | ⟨full,rfl⟩
  ·simp only [KP,↓reduceIte,Nat.reduceLT]
   exact .inl ⟨rfl,h0⟩
  ·simp only [KP,↓reduceIte,Nat.reduceLT]
   exact .inr ⟨full,rfl⟩
theorem GZ (h:bK E) (h':sM E) (hl:Lb.eS E) (q:OB E) {g:V} {rs:List aF} (hg:QL E rs g) (hf:Fits rs) (x:a_):aB E 36 [g,.agg [.bool x.1,.str x.2]] Z fun v σ'=>σ' = Z /\ OA v (r_ rs x):=by
 obtain ⟨es0,es1,get,A,L3,L4,rfl,hi⟩:=hg
 have him:Ax.bB (gV es0 es1 A L3 L4) = true:=rfl
 have e1:=cR (Z:=Z) (ty:=E.ty) him (bZ him)
 have e2:aZ Z E.ty true (.agg [.bool x.1,.str x.2]) = some (.agg [.bool x.1,.str x.2]):=rfl
 have d3:=q.XB
 simp only [aA,Tryz.f36,cutAt,Option.getD_some] at d3
 rw [aH q.hs36 q.sp36 q.fn36 q.md36 (args':=[gV es0 es1 A L3 L4,.agg [.bool x.1,.str x.2]]) (by simp only [aU,e1,e2]),aW (by kernel_rfl)]
 have en:lQ E 41 true (.dB false [.imp false es0,.imp false es1,sL A,.imp false (L3.map tT),.imp false (L4.map tT)]) .fF = some false:=by unfold lQ; rw [h'.Kb]
 have lk:=fun Z g=>DN (Z:=Z) (g:=g) (L:=L4) h' hl x
 rw [<- hi.user]
 cases hk:bI L4 x with
 | none=>
  rw [hk] at lk
  rw [Jw hk]
  simp only [aA,Tryz.f36,KP,Ax.loadAt,↓reduceIte,Nat.reduceEqDiff,Nat.reduceLT,Nat.reduceAdd,reduceCtorEq,h.eU,h'.lS,h'.nU,gV,en,lk,aR d3,bM]
  refine aL (QX h h' hl q) ?_
  rintro r σ' ⟨rfl,hr⟩
  rcases hr with ⟨rfl,-⟩ | ⟨full,rfl⟩
  ·simp only [KP,↓reduceIte,Nat.reduceLT]
   exact .inl ⟨rfl,rfl⟩
  ·simp only [KP,↓reduceIte,Nat.reduceLT]
   exact .inr ⟨full,rfl⟩
 | some e=>
  rw [hk] at lk
  rw [EN hk]
  simp only [aA,Tryz.f36,KP,Ax.loadAt,↓reduceIte,Nat.reduceEqDiff,Nat.reduceLT,Nat.reduceAdd,reduceCtorEq,h.eU,h'.lS,h'.nU,gV,en,lk,aR d3,bM]
  refine aL (XM h h' hl q (hi.k4 e (fR hk).1) (hi.RJ hf hk)) ?_
  rintro r σ' ⟨rfl,hr⟩
  rcases hr with ⟨rfl,h0⟩ | ⟨full,rfl⟩
  ·simp only [KP,↓reduceIte,Nat.reduceLT]
   exact .inl ⟨rfl,h0⟩
  ·simp only [KP,↓reduceIte,Nat.reduceLT]
   exact .inr ⟨full,rfl⟩
theorem S0 (h:bK E) (h':sM E) (hl:Lb.eS E) (q:OB E) {g:V} {rs:List aF} (hg:QL E rs g) (hf:Fits rs):aB E 33 [g] Z fun v σ'=>σ' = Z /\ OA v (qL rs):=by
 obtain ⟨es0,es1,get,A,L3,L4,rfl,hi⟩:=hg
 have him:Ax.bB (gV es0 es1 A L3 L4) = true:=rfl
 have e1:=cR (Z:=Z) (ty:=E.ty) him (bZ him)
 rw [aH q.hs33 q.sp33 q.fn33 q.md33 (args':=[gV es0 es1 A L3 L4]) (by simp only [aU,e1]),aW (by kernel_rfl)]
 have en:lQ E 41 true (.dB false [.imp false es0,.imp false es1,.dB false [.imp false (Lb.lR A)],.imp false (L3.map tT),.imp false (L4.map tT)]) .fF = some false:=by unfold lQ; rw [h'.Kb]
 rw [<- hi.all]
 simp only [aA,Tryz.f33,KP,Ax.loadAt,↓reduceIte,Nat.reduceLT,reduceCtorEq,hl.sK,hl.vJ,hl.AF,h'.lS,gV,sL,en]
 refine aL (Od hl h hi.nA (hi.RI hf)) ?_
 intro r σ' ho
 obtain ⟨v',hv,hlv⟩:=uX hl ho
 simp only [KP,↓reduceIte,Nat.reduceLT,hv]
 exact hlv
end
end
section
section
variable {E:Env} {Z:Sg} {K:V -> Sg -> Prop}
def iY (rs:List aF) (f:bA):Option aF:=rs.find? fun r=>decide (f ∈ r.outs)
def kindOf (rs:List aF) (x:a_):Int:=if x ∈ qL rs then (if x.1 = true then 1 else if (iY rs x.2).isSome = true then 2 else 3) else 0
theorem fJ {rs:List aF} {f:bA} {r:aF} (h:iY rs f = some r):r ∈ rs /\ f ∈ r.outs:=⟨List.mem_of_find?_eq_some h,by have:=List.find?_some h; exact of_decide_eq_true this⟩
theorem xL {rs:List aF} {f:bA} (h:iY rs f = none):∀ r ∈ rs,f ∉ r.outs:=fun r hr hf=>by
 have:=List.find?_eq_none.1 h r hr
 exact this (decide_eq_true hf)
theorem IF.get {rs:List aF} {es0 es1:List (V × V)} {get:bA -> Option V} {A:List a_} {L3 L4:List cZ} (hi:IF E rs es0 es1 get A L3 L4) (hf:Fits rs) (f:bA):get f = (iY rs f).map fun r=>V.str r.name:=by
 rcases hi.M4 f with ⟨h1,h2⟩ | ⟨n,⟨r,hr,hfr,rfl⟩,h2⟩
 ·rw [h1]
  cases hm:iY rs f with
  | none=>rfl
  | some r=>exact absurd ⟨r,(fJ hm).1,(fJ hm).2,rfl⟩ (h2 r.name)
 ·rw [h2]
  cases hm:iY rs f with
  | none=>exact absurd hfr (xL hm r hr)
  | some r'=>
   have:=(rK hf.ok.1).short.iT f r.name r'.name ⟨r,hr,hfr,rfl⟩ ⟨r',(fJ hm).1,(fJ hm).2,rfl⟩
   rw [this]; rfl
theorem M9 (h:bK E) {Z:Sg} {x:V} {es:List (V × V)} {get:bA -> Option V} (hx:entriesOf Z x = some es) (hs:SM E es get) (k:bA):lookup E Z 104 x (.str k) false = some (match get k with | some v=>v | none=>.str []):=by
 have hk:dL E 9 (.str k) = true:=by unfold dL; rw [h.cQ]
 unfold Ax.lookup
 simp only [h.uW,h.cQ,hk,hx,hs.2 k,Bool.not_true,Bool.false_eq_true,if_false]
 cases get k <;> rfl
theorem Qt (h:bK E) (h':sM E) (hl:Lb.eS E) (q:OB E) {g:V} {rs:List aF} (hg:QL E rs g) (hf:Fits rs) (x:a_):aB E 26 [g,.agg [.bool x.1,.str x.2]] Z K = K (.int .i64 (kindOf rs x)) Z:=by
 refine aB.of ?_
 obtain ⟨es0,es1,get,A,L3,L4,rfl,hi⟩:=hg
 have him:Ax.bB (gV es0 es1 A L3 L4) = true:=rfl
 have e1:=cR (Z:=Z) (ty:=E.ty) him (bZ him)
 have e2:aZ Z E.ty true (.agg [.bool x.1,.str x.2]) = some (.agg [.bool x.1,.str x.2]):=rfl
 have d1:=q.XE
 simp only [aA,Tryz.f26,cutAt,Option.getD_some] at d1
 have d5:=q.XD
 simp only [aA,Tryz.f26,cutAt,Option.getD_some] at d5
 rw [aH q.hs26 q.Mf q.fn26 q.md26 (args':=[gV es0 es1 A L3 L4,.agg [.bool x.1,.str x.2]]) (by simp only [aU,e1,e2]),aW (by kernel_rfl)]
 have en:lQ E 41 true (.dB false [.imp false es0,.imp false es1,.dB false [.imp false (Lb.lR A)],.imp false (L3.map tT),.imp false (L4.map tT)]) .fF = some false:=by unfold lQ; rw [h'.Kb]
 have kh:=fun (Y:Sg)=>dM fun K=>S5 (Z:=Y) (K:=K) hl h (g:=false) (g':=false) (ks:=A) x
 have hA:decide (x ∈ A) = decide (x ∈ qL rs):=by rw [<- hi.all]; simp only [iP]
 rw [hA] at kh
 have lk:=fun Z=>M9 (Z:=Z) (x:=.imp false es1) h rfl hi.sm x.2
 rw [hi.get hf] at lk
 have s0:∀ a b:bA,sA .neq a b = some (.bool (!Ax.seq a b)):=fun a b=>rfl
 unfold kindOf
 by_cases hx:x ∈ qL rs
 ·rw [decide_eq_true hx] at kh
  rw [if_pos hx]
  cases hb:x.1 with
  | true=>
   rw [hb] at kh
   simp only [aA,Tryz.f26,KP,Ax.loadAt,↓reduceIte,Nat.reduceEqDiff,Nat.reduceLT,Nat.reduceAdd,reduceCtorEq,h.CW,h.eU,hl.sK,hl.vJ,hl.AF,h'.lS,gV,sL,en,kh,aR d1,bM]
   exact rfl
  | false=>
   rw [hb] at kh
   cases hm:iY rs x.2 with
   | none=>
    rw [hm] at lk
    have z:Ax.seq ([]:bA) [] = true:=rfl
    simp only [aA,Tryz.f26,KP,Ax.loadAt,↓reduceIte,Nat.reduceEqDiff,Nat.reduceLT,Nat.reduceAdd,reduceCtorEq,h.CW,h.cQ,h.eU,h.uW,jX,hl.sK,hl.vJ,hl.AF,h'.lS,gV,sL,en,kh,lk,s0,z,aR d1,aR d5,bM]
    exact rfl
   | some r=>
    rw [hm] at lk
    have z:Ax.seq r.name [] = false:=fP (HW (hf.names r (fJ hm).1).1)
    simp only [aA,Tryz.f26,KP,Ax.loadAt,↓reduceIte,Nat.reduceEqDiff,Nat.reduceLT,Nat.reduceAdd,reduceCtorEq,h.CW,h.cQ,h.eU,h.uW,jX,hl.sK,hl.vJ,hl.AF,h'.lS,gV,sL,en,kh,lk,s0,z,aR d1,aR d5,bM]
    exact rfl
 ·rw [decide_eq_false hx] at kh
  rw [if_neg hx]
  simp only [aA,Tryz.f26,KP,Ax.loadAt,↓reduceIte,Nat.reduceEqDiff,Nat.reduceLT,Nat.reduceAdd,reduceCtorEq,h.eU,hl.sK,hl.vJ,hl.AF,h'.lS,gV,sL,en,kh,aR d1,bM]
  exact rfl
theorem Lt (h:bK E) (h':sM E) (hl:Lb.eS E) (q:OB E) {g:V} {rs:List aF} (hg:QL E rs g) (hf:Fits rs) (f:bA):aB E 37 [g,.str f] Z K = K (.fI [.str ((iY rs f).elim [] aF.name),.bool (iY rs f).isSome]) Z:=by
 obtain ⟨es0,es1,get,A,L3,L4,rfl,hi⟩:=hg
 refine N8 h h' (g:=false) (g1:=false) hi.sm ?_
 rw [hi.get hf]
 cases iY rs f with
 | none=>exact .inl ⟨rfl,rfl⟩
 | some r=>exact .inr ⟨r.name,rfl,rfl⟩
def sN:aF:=⟨[],[],[],[],[]⟩
def dO (rs:List aF) (n:bA):Option aF:=rs.find? fun r=>decide (r.name = n)
theorem BZ (h:bK E) (h':sM E) {Z:Sg} {g:Bool} (n:bA):∀ {es:List (V × V)} {rs:List aF},RM es rs -> ∃ v,lookup E Z 103 (.imp g es) (.str n) true = some (.fI [v,.bool (dO rs n).isSome]) /\ LF v ((dO rs n).getD sN):=by
 intro es rs hr
 have hk:dL E 9 (.str n) = true:=by unfold dL; rw [h.cQ]
 have key:∃ r,gZ (eM E 9) (.str n) es = some r /\ match r with
   | some v=>∃ x,dO rs n = some x /\ LF v x
   | none=>dO rs n = none:=by
  induction hr with
  | nil=>exact ⟨none,rfl,rfl⟩
  | @cons e r es rs h1 h2 ih=>
   obtain ⟨k,v⟩:=e
   obtain ⟨e1,hc⟩:=h1
   dsimp only at e1 hc
   subst e1
   unfold dO
   rw [gZ,bU h,List.find?_cons]
   by_cases hq:r.name = n
   ·rw [gQ hq.symm,decide_eq_true hq]
    exact ⟨some v,rfl,r,rfl,hc⟩
   ·rw [fP (Ne.symm hq),decide_eq_false hq]
    exact ih
 obtain ⟨r,h1,h2⟩:=key
 cases r with
 | none=>
  refine ⟨.agg [.str [],.aD,.aD,.aD,.aD],?_,?_⟩
  ·unfold Ax.lookup
   simp only [h'.Dg,h.bG,hk,entriesOf,h1,h2,Bool.not_true,Bool.false_eq_true,if_false,if_true]
   rfl
  ·rw [h2]
   exact ⟨_,_,_,_,rfl,.inl ⟨rfl,rfl⟩,.inl ⟨rfl,rfl⟩,.inl ⟨rfl,rfl⟩,.inl ⟨rfl,rfl⟩⟩
 | some v=>
  obtain ⟨x,h3,h4⟩:=h2
  refine ⟨v,?_,by rw [h3]; exact h4⟩
  unfold Ax.lookup
  simp only [h'.Dg,h.bG,hk,entriesOf,h1,h3,Bool.not_true,Bool.false_eq_true,if_false,if_true]
  rfl
theorem LF.ru {v:V} {x:aF} (h:LF v x):G_ v x:=by
 obtain ⟨a,b,c,d,rfl,h1,h2,h3,h4⟩:=h
 exact ⟨a,b,c,d,rfl,h1.is,h2.is,h3.is,rF h4.is qS⟩
end
end
section
section
variable {E:Env} {Z:Sg} {K:V -> Sg -> Prop}
def B5:Lay a_:=⟨fun r x=>r = row x,2,fun _ _ h=>by rw [h]; rfl,fun _ _ h c hc=>by
 rw [h] at hc
 unfold row at hc
 simp only [List.mem_cons,List.not_mem_nil,or_false] at hc
 rcases hc with rfl | rfl <;> rfl⟩
theorem CN:∀ l:List a_,eT B5.P (l.map row) l
 | []=>.nil
 | x :: l=>.cons rfl (CN l)
theorem OA.Sr {v:V} {l:List a_} (h:OA v l):jY B5 v l:=h.imp id fun ⟨f,e⟩=>⟨_,f,e,CN l⟩
theorem LV.is {v:V} {l:List a_} (h:Lb.LV v l):IS B5 v l:=h.imp id fun ⟨g,f,e⟩=>⟨g,_,f,e,CN l⟩
theorem wU:∀ {rs:List (List V)} {l:List a_},eT B5.P rs l -> rs = l.map row
 | _,_,.nil=>rfl
 | _,_,.cons h t=>by rw [List.map_cons,<- wU t,show _ = _ from h]
theorem IS.lv {v:V} {l:List a_} (h:IS B5 v l):Lb.LV v l:=h.imp id fun ⟨g,rs,f,e,a⟩=>⟨g,f,by rw [e,wU a]⟩
theorem tI (h:bK E) {v:V} {l} (ia:IS B5 v l) (Z:Sg):lenOf E Z 40 v = some l.length:=rC h.CV rfl (ia.ls Z 46)
theorem CK (h:bK E) {v:V} {l} (ia:IS B5 v l) {i:Nat} {x} (hx:l[i]? = some x):∃ g,indexAddr E 40 v (.int .i64 (i:Int)) = some (.dB g [.bool x.1,.str x.2]):=by
 obtain ⟨g,r,h1,h2⟩:=IS.at h.CV rfl h.eU rfl ia hx
 exact ⟨g,by rw [h1,show r = row x from h2]; rfl⟩
theorem HH (h:bK E) {v:V} {l} (ha:LS B5 46 Z v l):∃ v',aZ Z E.ty true v = some v' /\ IS B5 v' l:=AX h.eU rfl ha
theorem EZ (hl:Lb.eS E) {b:Bool} (x y:a_):lQ E 46 b (.agg [.bool x.1,.str x.2]) (.agg [.bool y.1,.str y.2]) = some (decide (x = y)):=by
 unfold lQ
 rw [hl.eU]
 simp only [hl.P_,Ax.eqs,wT,Bool.and_true,Option.some.injEq]
 rw [Bool.eq_iff_iff]
 simp only [Bool.and_eq_true,beq_iff_eq,decide_eq_true_eq]
 exact ⟨fun ⟨h1,h2⟩=>Prod.ext h1 h2,fun h=>by rw [h]; exact ⟨rfl,rfl⟩⟩
theorem Mv (Z:Sg) (x:a_):aZ Z E.ty true (.agg [.bool x.1,.str x.2]) = some (.agg [.bool x.1,.str x.2]):=rfl
theorem Qs (h:bK E) (hl:Lb.eS E) {a:V} {l:List a_} {s:a_} (ha:LS B5 46 Z a l) (hsm:l.length <= 4294967296):aB E 28 [a,.agg [.bool s.1,.str s.2]] Z K = K (.int .i64 (idx (bJ (fun x=>decide (x = s)) l))) Z:=by
 refine aB.of ?_
 obtain ⟨a',ea,ia⟩:=HH h ha
 have es:=Mv (E:=E) Z s
 have d4:=hl.XC
 simp only [aA,Tryz.f28,cutAt,Option.getD_some] at d4
 rw [aH hl.hs28 hl.Me hl.fn28 hl.md28 (args':=[a',.agg [.bool s.1,.str s.2]]) (by simp only [aU,ea,es]),aW (by kernel_rfl)]
 simp only [aA,Tryz.f28,KP,↓reduceIte,Nat.reduceLT,Nat.reduceAdd,Int.reduceNeg,h.eU]
 have la:=tI h ia
 refine aS (fun i F Y=>Y[0]? = some (O.cells 46 [.bool s.1,.str s.2] true) /\ F.get 0 = a' /\ F.get 3 = .ref 0 0 /\ F.get 5 = .int .i64 (i:Int) /\ ∀ j y,j < i -> l[j]? = some y -> y ≠ s) l.length ?_ ?_ l.length 0 _ _ (by omega) ⟨rfl,(iL (by simp +decide only [GS,and_self]) (fun j y hj=>by omega))⟩
 ·rintro i F Y hi ⟨hb,g0,g3,g5,hp⟩ next
  obtain ⟨x,hx⟩:∃ x,l[i]? = some x:=⟨_,List.getElem?_eq_getElem hi⟩
  obtain ⟨g,e1⟩:=CK h ia hx
  have hlt:=eD hi
  have hadd:=bX i (by omega)
  have ev:=fun b=>EZ (b:=b) hl x s
  rw [aG]
  by_cases hxs:x = s
  ·rw [decide_eq_true hxs] at ev
   simp only [KP,Ax.loadAt,↓reduceIte,Nat.reduceEqDiff,Nat.reduceLT,Nat.reduceAdd,reduceCtorEq,Int.reduceNeg,h.eU,g0,g3,g5,la,hlt,e1,hb,ev,aR d4,bM]
   rw [gI (i:=i) (x:=x) (fun j y hj hy=>decide_eq_false (hp j y hj hy)) hx (decide_eq_true hxs)]
   exact rfl
  ·rw [decide_eq_false hxs] at ev
   simp only [KP,Ax.loadAt,↓reduceIte,Nat.reduceEqDiff,Nat.reduceLT,Nat.reduceAdd,reduceCtorEq,Int.reduceNeg,h.eU,g0,g3,g5,la,hlt,e1,hb,ev,hadd,aR d4,bM]
   refine next _ _ ⟨hb,(iL (by simp +decide only [GS,g0,g3,and_self]) (fun j y hj hy=>?_))⟩
   rcases Nat.lt_or_ge j i with g | g
   ·exact hp j y g hy
   ·obtain rfl:j = i:=by omega
    rw [hx] at hy; cases hy; exact hxs
 ·rintro F Y ⟨hb,g0,g3,g5,hp⟩
  have hlt:=eE (Nat.lt_irrefl l.length)
  rw [aG]
  simp only [KP,↓reduceIte,Nat.reduceEqDiff,Nat.reduceLT,reduceCtorEq,Int.reduceNeg,g0,g5,la,hlt]
  rw [gJ fun x hx=>by
   obtain ⟨j,hj,e⟩:=List.getElem_of_mem hx
   exact decide_eq_false (hp j x hj (by rw [List.getElem?_eq_getElem hj,e]))]
  exact rfl
theorem JA (h:bK E) (hl:Lb.eS E) {a:V} {l:List a_} {s:a_} (ha:LS B5 46 Z a l) (hsm:l.length <= 4294967296):KC E 28 [a,.agg [.bool s.1,.str s.2]] Z (.int .i64 (idx (bJ (fun x=>decide (x = s)) l))) Z:=dM fun _=>Qs h hl ha hsm
theorem JF {l:List a_} {s:a_} (hs:s ∈ l):decide (idx (bJ (fun x=>decide (x = s)) l) < 0) = false:=by
 obtain ⟨j,hj⟩:=mT (p:=fun x:a_=>decide (x = s)) hs (decide_eq_true rfl)
 rw [hj]
 exact decide_eq_false (by show ¬ ((j:Int) < 0); omega)
end
end
section
section
variable {E:Env} {Z:Sg} {K:V -> Sg -> Prop}
theorem AG {rs:List aF} (hf:Fits rs) (n:bA):Small ((dO rs n).getD sN):=by
 cases hr:dO rs n with
 | none=>exact ⟨Nat.zero_le _,Nat.zero_le _,Nat.zero_le _,Nat.zero_le _,(fun s hs=>by cases hs),(fun s hs=>by cases hs)⟩
 | some r=>exact hf.small r (List.mem_of_find?_eq_some hr)
theorem LF.snap {Y:Sg} {v:V} {x:aF} (hv:LF v x):aZ Y E.ty false v = some v:=by
 obtain ⟨a,b,c,d,rfl,h1,h2,h3,h4⟩:=hv
 have q:∀ c:V,Ax.bB c = true -> cO false c = true -> aZ.one Y E.ty false c = some c:=fun c h1 h2=>by
  unfold aZ.one
  rw [show dV = 11 + 1 from rfl,jN h1]
  simp only [h2,if_true]
 show (match aU (aZ.one Y E.ty false) [.str x.name,a,b,c,d] with
  | some l=>some (V.agg l)
  | none=>none) = _
 simp only [aU,q (.str x.name) rfl rfl,q a h1.is.bB h1.tag,q b h2.is.bB h2.tag,q c h3.is.bB h3.tag,q d h4.is.bB h4.tag]
theorem N7 (h:bK E) (h':sM E) (hl:Lb.eS E) (q:OB E) {g:V} {rs:List aF} (hg:QL E rs g) (hf:Fits rs) (n:bA):aB E 39 [g,.str n] Z fun v σ'=>σ' = Z /\ ∃ w,v = .fI [w,.bool (dO rs n).isSome] /\ LF w ((dO rs n).getD sN):=by
 obtain ⟨es0,es1,get,A,L3,L4,rfl,hi⟩:=hg
 have him:Ax.bB (gV es0 es1 A L3 L4) = true:=rfl
 have e1:=cR (Z:=Z) (ty:=E.ty) him (bZ him)
 rw [aH q.hs39 q.sp39 q.fn39 q.md39 (args':=[gV es0 es1 A L3 L4,.str n]) (by simp only [aU,e1,cJ]),aW (by kernel_rfl)]
 have en:lQ E 41 true (.dB false [.imp false es0,.imp false es1,sL A,.imp false (L3.map tT),.imp false (L4.map tT)]) .fF = some false:=by unfold lQ; rw [h'.Kb]
 obtain ⟨w,-,hc⟩:=BZ (Z:=[]) (g:=false) h h' n hi.rules
 have lk:=fun Z=>BZ (Z:=Z) (g:=false) h h' n hi.rules
 have hlk:∃ w,(∀ Z,lookup E Z 103 (.imp false es0) (.str n) true = some (.fI [w,.bool (dO rs n).isSome])) /\ LF w ((dO rs n).getD sN):=by
  obtain ⟨w,e,hc⟩:=lk []
  exact ⟨w,fun Z=>e,hc⟩
 obtain ⟨w,hlk,hc⟩:=hlk
 have hsm:=AG hf n
 generalize (dO rs n).getD sN = x at hc hsm ⊢
 generalize (dO rs n).isSome = b at hlk ⊢
 have hc0:=hc
 obtain ⟨a1,a2,a3,a4,rfl,j1,j2,j3,j4⟩:=hc
 have o1:=aI j1.is.bB
 have o2:=aI j2.is.bB
 have o3:=aI j3.is.bB
 have o4:=aI j4.is.bB
 simp only [aA,Tryz.f39,KP,Ax.loadAt,Ax.storeAt,↓reduceIte,Nat.reduceEqDiff,Nat.reduceLT,Nat.reduceAdd,reduceCtorEq,h.bG,h'.lS,h'.Dg,gV,en,hlk,o1,o2,o3,o4]
 refine aL (G0 h h' hc0.ru hsm) ?_
 rintro v σ' ⟨rfl,hv⟩
 have hv0:=hv
 obtain ⟨b1,b2,b3,b4,rfl,i1,i2,i3,i4⟩:=hv
 have p1:=aI i1.is.bB
 have p2:=aI i2.is.bB
 have p3:=aI i3.is.bB
 have p4:=aI i4.is.bB
 have es:=fun Y=>hv0.snap (E:=E) (Y:=Y)
 have eb:∀ Y,aZ Y E.ty false (.bool b) = some (.bool b):=fun Y=>rfl
 simp only [KP,Ax.loadAt,Ax.storeAt,↓reduceIte,Nat.reduceEqDiff,Nat.reduceLT,Nat.reduceAdd,h.bG,p1,p2,p3,p4,es,eb,dD,aU]
 exact ⟨_,rfl,hv0⟩
theorem p_ {rs:List aF} {p:a_ × a_}:p ∈ rs.flatMap cV ↔ ∃ r ∈ rs,(∃ f ∈ r.ins,p = (((true,r.name):a_),((false,f):a_))) \/ ∃ f ∈ r.outs,p = (((false,f):a_),((true,r.name):a_)):=by
 rw [List.mem_flatMap]
 refine exists_congr fun r=>and_congr Iff.rfl ?_
 unfold cV
 rw [List.mem_append,List.mem_map,List.mem_map]
 exact or_congr (exists_congr fun f=>and_congr Iff.rfl eq_comm) (exists_congr fun f=>and_congr Iff.rfl eq_comm)
theorem Ky {rs:List aF} {a b:a_} (hp:(a,b) ∈ rs.flatMap cV):a.1 ≠ b.1:=by
 obtain ⟨r,-,⟨f,-,e⟩ | ⟨f,-,e⟩⟩:=p_.1 hp
 ·cases e; simp
 ·cases e; simp
theorem F6 {rs:List aF} {f:bA} (hm:iY rs f = none):kC rs (false,f) = []:=by
 refine List.eq_nil_iff_forall_not_mem.2 fun w hw=>?_
 obtain ⟨r,hr,⟨g,-,e⟩ | ⟨g,hg,e⟩⟩:=p_.1 (kU.1 hw)
 ·cases e
 ·cases e; exact xL hm r hr hg
theorem KH {rs:List aF} (hf:Fits rs) {f:bA} {r:aF} (hm:iY rs f = some r):kC rs (false,f) = [(true,r.name)]:=by
 refine Bg (tE _ _) (List.pairwise_singleton ..) fun w=>?_
 rw [kU,p_,List.mem_singleton]
 constructor
 ·rintro ⟨r',hr',⟨g,-,e⟩ | ⟨g,hg,e⟩⟩
  ·cases e
  ·cases e
   rw [(rK hf.ok.1).short.iT f r.name r'.name ⟨r,(fJ hm).1,(fJ hm).2,rfl⟩ ⟨r',hr',hg,rfl⟩]
 ·rintro rfl
  exact ⟨r,(fJ hm).1,.inr ⟨f,(fJ hm).2,rfl⟩⟩
theorem BE {rs:List aF} {n:bA} {r:aF} (h:dO rs n = some r):r ∈ rs /\ r.name = n:=⟨List.mem_of_find?_eq_some h,by have:=List.find?_some h; exact of_decide_eq_true this⟩
theorem Ds {rs:List aF} (hf:Fits rs) {r r':aF} (h1:r ∈ rs) (h2:r' ∈ rs) (he:r.name = r'.name):r = r':=by
 obtain ⟨i,hi⟩:=List.mem_iff_getElem?.1 h1
 obtain ⟨j,hj⟩:=List.mem_iff_getElem?.1 h2
 have:=(rK hf.ok.1).short.nodup i j r r' hi hj he
 subst this
 rw [hi] at hj
 exact Option.some.inj hj
theorem Ex {rs:List aF} (hf:Fits rs) {r:aF} (hr:r ∈ rs):dO rs r.name = some r:=by
 cases h:dO rs r.name with
 | none=>
  have:=List.find?_eq_none.1 h r hr
  exact absurd (decide_eq_true rfl) this
 | some r'=>
  obtain ⟨h1,h2⟩:=BE h
  rw [Ds hf h1 hr h2]
theorem zX:∀ {l:List bA},jA l = false -> l.Nodup
 | [],_=>List.nodup_nil
 | x :: l,h=>by
  unfold jA at h
  simp only [Bool.or_eq_false_iff,decide_eq_false_iff_not] at h
  exact List.nodup_cons.2 ⟨h.1,zX h.2⟩
theorem Fits.Nr {rs:List aF} (hf:Fits rs) {r:aF} (hr:r ∈ rs):r.ins.Nodup:=by
 have h0:=(rK hf.ok.1).rule r hr
 unfold aY at h0
 by_cases h1:jK r = false
 ·rw [if_pos h1] at h0; cases h0
 rw [if_neg h1] at h0
 by_cases h2:long r = true
 ·rw [if_pos h2] at h0; cases h0
 rw [if_neg h2] at h0
 by_cases h3:eJ r = false
 ·rw [if_pos h3] at h0; cases h0
 have h3:eJ r = true:=by simpa using h3
 unfold eJ at h3
 simp only [Bool.and_eq_true] at h3
 exact zX (by simpa using h3.1.1.1.1.1.1)
theorem KG {rs:List aF} (hf:Fits rs) {r:aF} (hr:r ∈ rs):(kC rs (true,r.name)).length = r.ins.length:=by
 have hlm:(r.ins.map fun f=>((false,f):a_)).length = r.ins.length:=List.length_map _
 rw [<- hlm]
 refine same_length (tE _ _).nodup ?_ fun w=>?_
 ·rw [List.Nodup,List.pairwise_map]
  exact (hf.Nr hr).imp fun h e=>h (congrArg Prod.snd e)
 ·rw [kU,p_,List.mem_map]
  constructor
  ·rintro ⟨r',hr',⟨g,hg,e⟩ | ⟨g,hg,e⟩⟩
   ·have e1:r.name = r'.name:=congrArg (fun p=>p.1.2) e
    have:=Ds hf hr hr' e1
    subst this
    cases e
    exact ⟨g,hg,rfl⟩
   ·cases e
  ·rintro ⟨f,hfi,rfl⟩
   exact ⟨r,hr,.inl ⟨f,hfi,rfl⟩⟩
end
end
section
structure GbL (E:Env):Prop where
 hs9:E.hspec 9 = none
 Tv:E.spec 9 = none
 fn9:E.fn 9 = some (aA Tryz.f9)
 md9:E.mode 9 = .fG
 Xv:aM E (cutAt [1,1,1,1,1,1,0,1,2,2,1,1,0,2,1,0,1,2,2,1,1,0,2,1,0] (aA Tryz.f9).code) = true
 Xu:aM E (cutAt [1,1,1,1,1,1,0,1,2,2,1,1,0,2,1,1,0,1,2,2,1,1,0,2,1,0] (aA Tryz.f9).code) = true
 Xt:aM E (cutAt [1,1,1,1,1,1,0,1,2,2,1,1,0,2,1,1,1,1,1,2,1,1,1,0,1,0] (aA Tryz.f9).code) = true
 beg:∀ {Z:Sg} {K:V -> Sg -> Prop},aB E 11 [] Z K = K (.bool true) Z
section
variable {E:Env} {Z:Sg} {K:V -> Sg -> Prop}
theorem Ni {rs:List aF} {n:bA} (hx:((true,n):a_) ∈ qL rs):∃ r ∈ rs,r.name = n:=by
 rcases Gc.1 hx with hx | ⟨p,hp,hx⟩
 ·obtain ⟨r,hr,e⟩:=List.mem_map.1 hx
  exact ⟨r,hr,congrArg Prod.snd e⟩
 ·obtain ⟨r,hr,⟨f,-,rfl⟩ | ⟨f,-,rfl⟩⟩:=p_.1 hp
  ·rcases hx with e | e
   ·cases e; exact ⟨r,hr,rfl⟩
   ·cases e
  ·rcases hx with e | e
   ·cases e
   ·cases e; exact ⟨r,hr,rfl⟩
theorem NA (h:bK E) (h':sM E) (hl:Lb.eS E) (q:OB E) (gb:GbL E) {rs:List aF} (hf:Fits rs) {g:V} (hg:QL E rs g) {x:a_} (hx:x ∈ qL rs) {va c27:V} {i:Nat} {gi:Bool} (e1:indexAddr E 40 va (.int .i64 (i:Int)) = some (.dB gi [.bool x.1,.str x.2])) {Y:Sg} (F:FT) (g4:F.get 4 = g) (g26:F.get 26 = va) (g27:F.get 27 = c27) (g28:F.get 28 = .int .i64 (i:Int)) {st:List mE} {Q:Ax.X -> Fr -> Sg -> Prop}
  (hk:∀ F' τ',F'.get 4 = g -> F'.get 26 = va -> F'.get 27 = c27 -> F'.get 28 = .int .i64 (i:Int) -> M E st .normal ⟨124,F'⟩ τ' Q):Ax.R E (cutAt [1,1,1,1,1,1,0,1,2,2,1,1,0,2] (aA Tryz.f9).code) st ⟨124,F⟩ Y Q:=by
 have d13:=gb.Xv
 simp only [aA,Tryz.f9,cutAt,Option.getD_some] at d13
 have d19:=gb.Xu
 simp only [aA,Tryz.f9,cutAt,Option.getD_some] at d19
 have d30:=gb.Xt
 simp only [aA,Tryz.f9,cutAt,Option.getD_some] at d30
 have hb0:(Y ++ [O.cells 46 [.bool x.1,.str x.2] true])[Y.length]? = some (O.cells 46 [.bool x.1,.str x.2] true):=aO
 have hnl:(kC rs x).length <= 10000:=by
  have h1:=hf.HQ
  have h2:(kC rs x).length <= (rs.flatMap cV).length:=by
   rw [<- List.length_map (fun w=>((x,w):a_ × a_))]
   refine pW ?_ fun p hp=>?_
   ·rw [List.Nodup,List.pairwise_map]
    exact (tE rs x).nodup.imp fun h e=>h (congrArg Prod.snd e)
   ·obtain ⟨w,hw,rfl⟩:=List.mem_map.1 hp
    exact kU.1 hw
  omega
 have nlen:∀ z,(kC rs z).length <= 10000:=fun z=>by
  have h1:=hf.HQ
  have h2:(kC rs z).length <= (rs.flatMap cV).length:=by
   rw [<- List.length_map (fun w=>((z,w):a_ × a_))]
   refine pW ?_ fun p hp=>?_
   ·rw [List.Nodup,List.pairwise_map]
    exact (tE rs z).nodup.imp fun h e=>h (congrArg Prod.snd e)
   ·obtain ⟨w,hw,rfl⟩:=List.mem_map.1 hp
    exact kU.1 hw
  omega
 have ulen:∀ z,(r_ rs z).length <= 10000:=fun z=>by
  have h1:=hf.HQ
  have h2:(r_ rs z).length <= (rs.flatMap cV).length:=by
   rw [<- List.length_map (fun w=>((w,z):a_ × a_))]
   refine pW ?_ fun p hp=>?_
   ·rw [List.Nodup,List.pairwise_map]
    exact (Fo rs z).nodup.imp fun h e=>h (congrArg Prod.fst e)
   ·obtain ⟨w,hw,rfl⟩:=List.mem_map.1 hp
    exact uH.1 hw
  omega
 simp only [aA,Tryz.f9,KP,Ax.loadAt,Ax.storeAt,↓reduceIte,Nat.reduceEqDiff,Nat.reduceLT,Nat.reduceAdd,h.eU,cutAt,g4,g26,g28,e1,aO,cK]
 generalize Y ++ [O.cells 46 [.bool x.1,.str x.2] true] = τ1 at *
 generalize Y.length = y at *
 refine aL (yA h h' hl q hg hf x) ?_
 rintro vn σ' ⟨rfl,hvn⟩
 have hvi:=hvn.Sr.is
 have ln:=tI h hvi
 simp only [KP,↓reduceIte,Nat.reduceLT,ln]
 refine aS (fun j F Y=>F.get 4 = g /\ F.get 26 = va /\ F.get 27 = c27 /\ F.get 28 = .int .i64 (i:Int) /\ F.get 7 = .ref y 0 /\ F.get 34 = vn /\ F.get 35 = .int .i64 ((kC rs x).length:Int) /\ F.get 36 = .int .i64 (j:Int) /\ Y[y]? = some (O.cells 46 [.bool x.1,.str x.2] true)) (kC rs x).length ?_ ?_ (kC rs x).length 0 _ _ (by omega) (JT (by simp +decide only [GS,g4,g26,g27,g28,and_self]) hb0)
 ·rintro j F Y hj ⟨g4,g26,g27,g28,g7,g34,g35,g36,hb⟩ next
  obtain ⟨w,hw⟩:∃ w,(kC rs x)[j]? = some w:=⟨_,List.getElem?_eq_getElem hj⟩
  have hwm:=kU.1 (List.mem_of_getElem? hw)
  obtain ⟨gw,e2⟩:=CK h hvi hw
  have hlt:=eD hj
  have hadd:=bX j (by omega)
  have hb1:(Y ++ [O.cells 46 [.bool w.1,.str w.2] true])[y]? = some (O.cells 46 [.bool x.1,.str x.2] true):=aN hb
  have hbw:(Y ++ [O.cells 46 [.bool w.1,.str w.2] true])[Y.length]? = some (O.cells 46 [.bool w.1,.str w.2] true):=aO
  rw [aG]
  simp only [KP,Ax.loadAt,Ax.storeAt,↓reduceIte,Nat.reduceEqDiff,Nat.reduceLT,Nat.reduceAdd,h.eU,g4,g34,g35,g36,hlt,e2,aO,cK,aR d13,bM]
  generalize Y ++ [O.cells 46 [.bool w.1,.str w.2] true] = τ2 at *
  generalize Y.length = y2 at *
  refine aL (GZ h h' hl q hg hf w) ?_
  rintro vu σ' ⟨rfl,hvu⟩
  have kf:=fun (Y:Sg)=>JA (Z:=Y) h hl (s:=x) (hvu.Sr.is.ls Y 46) (by have:=ulen w; omega)
  have hin:=JF (s:=x) (uH.2 hwm)
  have hfl:(x.1 == w.1) = false:=by
   have:=Ky hwm
   cases h1:x.1 <;> cases h2:w.1 <;> simp_all
  simp only [KP,Ax.loadAt,↓reduceIte,Nat.reduceEqDiff,Nat.reduceLT,Nat.reduceAdd,reduceCtorEq,h.CW,h.eU,g7,g36,hadd,hb1,hbw,kf,hin,hfl,lQ]
  exact next _ _ (JT (by simp +decide only [GS,g4,g26,g27,g28,g7,g34,g35,and_self]) hb1)
 rintro F Y ⟨g4,g26,g27,g28,g7,g34,g35,g36,hb⟩
 have hlt:=eE (Nat.lt_irrefl (kC rs x).length)
 rw [aG]
 simp only [KP,Ax.loadAt,↓reduceIte,Nat.reduceEqDiff,Nat.reduceLT,Nat.reduceAdd,h.eU,g4,g7,g35,g36,hlt,hb]
 refine aL (GZ h h' hl q hg hf x) ?_
 rintro vu σ' ⟨rfl,hvu⟩
 have hui:=hvu.Sr.is
 have lu:=tI h hui
 simp only [KP,↓reduceIte,Nat.reduceLT,lu]
 refine aS (fun j F Y=>F.get 4 = g /\ F.get 26 = va /\ F.get 27 = c27 /\ F.get 28 = .int .i64 (i:Int) /\ F.get 7 = .ref y 0 /\ F.get 56 = vu /\ F.get 57 = .int .i64 ((r_ rs x).length:Int) /\ F.get 58 = .int .i64 (j:Int) /\ Y[y]? = some (O.cells 46 [.bool x.1,.str x.2] true)) (r_ rs x).length ?_ ?_ (r_ rs x).length 0 _ _ (by omega) (JT (by simp +decide only [GS,g4,g26,g27,g28,g7,and_self]) hb)
 ·rintro j F Y hj ⟨g4,g26,g27,g28,g7,g56,g57,g58,hb⟩ next
  obtain ⟨w,hw⟩:∃ w,(r_ rs x)[j]? = some w:=⟨_,List.getElem?_eq_getElem hj⟩
  have hwm:=uH.1 (List.mem_of_getElem? hw)
  obtain ⟨gw,e2⟩:=CK h hui hw
  have hlt:=eD hj
  have hadd:=bX j (by have:=ulen x; omega)
  have hb1:(Y ++ [O.cells 46 [.bool w.1,.str w.2] true])[y]? = some (O.cells 46 [.bool x.1,.str x.2] true):=aN hb
  have hbw:(Y ++ [O.cells 46 [.bool w.1,.str w.2] true])[Y.length]? = some (O.cells 46 [.bool w.1,.str w.2] true):=aO
  rw [aG]
  simp only [KP,Ax.loadAt,Ax.storeAt,↓reduceIte,Nat.reduceEqDiff,Nat.reduceLT,Nat.reduceAdd,h.eU,g4,g56,g57,g58,hlt,e2,aO,cK,aR d19,bM]
  generalize Y ++ [O.cells 46 [.bool w.1,.str w.2] true] = τ2 at *
  generalize Y.length = y2 at *
  refine aL (yA h h' hl q hg hf w) ?_
  rintro vv σ' ⟨rfl,hvv⟩
  have kf:=fun (Y:Sg)=>JA (Z:=Y) h hl (s:=x) (hvv.Sr.is.ls Y 46) (by have:=nlen w; omega)
  have hin:=JF (s:=x) (kU.2 hwm)
  simp only [KP,Ax.loadAt,↓reduceIte,Nat.reduceEqDiff,Nat.reduceLT,Nat.reduceAdd,h.eU,g7,g58,hadd,hb1,kf,hin]
  exact next _ _ (JT (by simp +decide only [GS,g4,g26,g27,g28,g7,g56,g57,and_self]) hb1)
 rintro F Y ⟨g4,g26,g27,g28,g7,g56,g57,g58,hb⟩
 have hlt:=eE (Nat.lt_irrefl (r_ rs x).length)
 rw [aG]
 simp only [KP,Ax.loadAt,↓reduceIte,Nat.reduceEqDiff,Nat.reduceLT,Nat.reduceAdd,h.eU,g4,g7,g57,g58,hlt,hb]
 refine aL (yA h h' hl q hg hf x) ?_
 rintro vn2 σ' ⟨rfl,hvn2⟩
 have ln2:=tI h hvn2.Sr.is
 have kk:=fun (Y:Sg)=>dM fun K=>Qt (Z:=Y) (K:=K) h h' hl q hg hf x
 have kv:kindOf rs x = if x.1 = true then 1 else if (iY rs x.2).isSome = true then 2 else 3:=if_pos hx
 by_cases hx1:x.1 = true
 ·rw [if_pos hx1] at kv
  rw [kv] at kk
  obtain ⟨r,hr,hrn⟩:=Ni (show (true,x.2) ∈ qL rs by rw [<- hx1]; exact hx)
  have hnr:dO rs x.2 = some r:=by rw [<- hrn]; exact Ex hf hr
  have hlen:(kC rs x).length = r.ins.length:=by
   rw [<- KG hf hr,hrn,<- hx1]
  simp only [KP,Ax.loadAt,↓reduceIte,Nat.reduceEqDiff,Nat.reduceLT,Nat.reduceAdd,reduceCtorEq,Int.reduceEq,h.cQ,h.eU,g4,g7,ln2,hb,kk]
  refine aL (N7 h h' hl q hg hf x.2) ?_
  rintro v σ' ⟨rfl,w,rfl,hc⟩
  rw [hnr] at hc
  obtain ⟨b1,b2,b3,b4,rfl,i1,i2,i3,i4⟩:=hc
  have p1:=aI i1.is.bB
  have p2:=aI i2.is.bB
  have p3:=aI i3.is.bB
  have p4:=aI i4.is.bB
  have li:=bL h i1.is
  have hq:decide (((kC rs x).length:Int) = (r.ins.length:Int)) = true:=decide_eq_true (by rw [hlen])
  have hs:(dO rs x.2).isSome = true:=by rw [hnr]; rfl
  simp only [KP,Ax.loadAt,Ax.storeAt,↓reduceIte,Nat.reduceEqDiff,Nat.reduceLT,Nat.reduceAdd,reduceCtorEq,h.aX,h.bG,hs,p1,p2,p3,p4,li,hq,aO,cK]
  exact hk _ _ (by simp +decide only [GS,g4]) (by simp +decide only [GS,g26]) (by simp +decide only [GS,g27]) (by simp +decide only [GS,g28])
 ·have hx0:x.1 = false:=by simpa using hx1
  have hxe:x = (false,x.2):=Prod.ext hx0 rfl
  rw [if_neg hx1] at kv
  have km:=fun (Y:Sg)=>dM fun K=>Lt (Z:=Y) (K:=K) h h' hl q hg hf x.2
  cases hm:iY rs x.2 with
  | none=>
   rw [hm,if_neg (by simp)] at kv
   rw [kv] at kk
   have hn0:kC rs x = []:=by rw [hxe]; exact F6 hm
   rw [hn0] at ln2
   simp only [KP,Ax.loadAt,↓reduceIte,Nat.reduceEqDiff,Nat.reduceLT,Nat.reduceAdd,h.eU,g4,g7,ln2,hb,kk]
   exact hk _ _ (by simp +decide only [GS,g4]) (by simp +decide only [GS,g26]) (by simp +decide only [GS,g27]) (by simp +decide only [GS,g28])
  | some r=>
   rw [hm,if_pos (show (some r).isSome = true from rfl)] at kv
   rw [hm] at km
   rw [kv] at kk
   have hn1:kC rs x = [(true,r.name)]:=by rw [hxe]; exact KH hf hm
   rw [hn1] at ln2
   have km:∀ Y,KC E 37 [g,.str x.2] Y (.fI [.str r.name,.bool true]) Y:=km
   have one:decide (((1:Nat):Int) = 1) = true:=rfl
   simp only [KP,Ax.loadAt,↓reduceIte,Nat.reduceEqDiff,Nat.reduceLT,Nat.reduceAdd,reduceCtorEq,Int.reduceEq,h.cQ,h.eU,g4,g7,ln2,hb,kk,km,one,aR d30,bM]
   refine aL (yA h h' hl q hg hf x) ?_
   rintro vv σ' ⟨rfl,hvv⟩
   rw [hn1] at hvv
   obtain ⟨ga,ea⟩:=CK h hvv.Sr.is (i:=0) (x:=(true,r.name)) rfl
   have ea:indexAddr E 40 vv (.int .i64 0) = some (.dB ga [.bool true,.str r.name]):=ea
   have kr:=fun (Y:Sg)=>dM fun K=>Lb.SZ (Z:=Y) (K:=K) hl r.name
   have ev:∀ b,lQ E 46 b (.agg [.bool true,.str r.name]) (.agg [.bool true,.str r.name]) = some true:=fun b=>by
    rw [show lQ E 46 b (.agg [.bool true,.str r.name]) (.agg [.bool true,.str r.name]) = some (decide (((true,r.name):a_) = (true,r.name))) from EZ hl (true,r.name) (true,r.name),decide_eq_true rfl]
   simp only [KP,Ax.loadAt,↓reduceIte,Nat.reduceEqDiff,Nat.reduceLT,Nat.reduceAdd,h.eU,ea,kr,ev]
   exact hk _ _ (by simp +decide only [GS,g4]) (by simp +decide only [GS,g26]) (by simp +decide only [GS,g27]) (by simp +decide only [GS,g28])
end
end
end Go.Proofs.YtlbbdpkjeeiahaaGreatDoor
end
section
set_option maxRecDepth 100000
set_option maxHeartbeats 8000000
set_option linter.unusedVariables false
namespace Go.Proofs.YtlbbdpkjeeiahaaGreatDoor
open Go Go.Ax
theorem begL {Z:Sg} {K:V -> Sg -> Prop}:aB LE 11 [] Z K = K (.bool true) Z:=sP (s:=bF t11) (args':=[]) (v:=.bool true) (by kernel_rfl) (by kernel_rfl) rfl (by kernel_rfl) rfl
theorem R5:bK LE:=by constructor <;> kernel_rfl
theorem R6:sM LE:=by constructor <;> kernel_rfl
theorem Pq:Lb.eS LE:=by constructor <;> kernel_rfl
theorem R7:OB LE:=by constructor <;> kernel_rfl
theorem R8:GbL LE:=by constructor <;> first | kernel_rfl | exact begL
end Go.Proofs.YtlbbdpkjeeiahaaGreatDoor
end
section
set_option maxRecDepth 10000
set_option maxHeartbeats 8000000
set_option linter.unusedVariables false
namespace Go.Proofs.YtlbbdpkjeeiahaaGreatDoor
open Go Go.Ax Go.AxS
section
section
variable {E:Env} {Z:Sg} {K:V -> Sg -> Prop}
theorem Ou {rs:List aF} (hf:Fits rs):(qL rs).length <= 2000:=by
 have h1:=hf.HQ
 have h2:=hf.len
 refine Nat.le_trans (pW (b:=rs.map gF ++ (rs.flatMap cV).flatMap fun p=>[p.1,p.2]) (QI rs).nodup fun x hx=>iP.1 hx) ?_
 have h3:∀ P:List (a_ × a_),(P.flatMap fun p=>[p.1,p.2]).length = 2 * P.length:=fun P=>by
  induction P with
  | nil=>rfl
  | cons p P ih=>rw [List.flatMap_cons,List.length_append,ih]; simp only [List.length_cons,List.length_nil]; omega
 rw [List.length_append,List.length_map,h3]
 omega
theorem G1 (h:bK E) (h':sM E) (hl:Lb.eS E) (q:OB E) (gb:GbL E) {a:V} {rs:List aF} (ha:LS dW 37 Z a rs) (hraw:∀ x ∈ rs,Raw x):aB E 9 [a] Z K = K (.bool true) Z:=by
 refine aB.of ?_
 obtain ⟨a',ea,ia⟩:=eR h ha
 rw [aH gb.hs9 gb.Tv gb.fn9 gb.md9 (args':=[a']) (by simp only [aU,ea]),aW (by kernel_rfl)]
 have inner:=fun {rs} hf {g} hg {x} hx {va} c27 {i gi} e1 {Y} F g4 g26 g27 g28 st Q hk=>NA (rs:=rs) (g:=g) (x:=x) (va:=va) (c27:=c27) (i:=i) (gi:=gi) (Y:=Y) h h' hl q gb hf hg hx e1 F g4 g26 g27 g28 (st:=st) (Q:=Q) hk
 have kb:=fun (Y:Sg)=>dM fun K=>gb.beg (Z:=Y) (K:=K)
 rw [show (aA Tryz.f9).code = .seq (cutAt [0] (aA Tryz.f9).code) (.seq (cutAt [1,0] (aA Tryz.f9).code) (.seq (cutAt [1,1,0] (aA Tryz.f9).code) (.seq (cutAt [1,1,1,0] (aA Tryz.f9).code) (.seq (cutAt [1,1,1,1,0] (aA Tryz.f9).code) (.seq (cutAt [1,1,1,1,1,0] (aA Tryz.f9).code) (.seq (.seq (cutAt [1,1,1,1,1,1,0,0] (aA Tryz.f9).code) (.block 0 (.loop (.seq (cutAt [1,1,1,1,1,1,0,1,2,2,0] (aA Tryz.f9).code) (.seq (cutAt [1,1,1,1,1,1,0,1,2,2,1,0] (aA Tryz.f9).code) (.seq (.block 1 (cutAt [1,1,1,1,1,1,0,1,2,2,1,1,0,2] (aA Tryz.f9).code)) (cutAt [1,1,1,1,1,1,0,1,2,2,1,1,1] (aA Tryz.f9).code))))))) (cutAt [1,1,1,1,1,1,1] (aA Tryz.f9).code))))))) from rfl]
 generalize cutAt [1,1,1,1,1,1,0,1,2,2,1,1,0,2] (aA Tryz.f9).code = B at inner ⊢
 simp only [aA,Tryz.f9,KP,↓reduceIte,Nat.reduceLT,reduceCtorEq,cutAt,kb]
 refine aL (S6 h (ia.ls [] 37) hraw) ?_
 rintro v σ' ⟨rfl,l,iv,hok,hl14,hsm⟩
 have iv':IS dW v l:=rF iv.is vN
 have hf:Fits l:=⟨hok,hsm⟩
 simp only [KP,↓reduceIte,Nat.reduceLT]
 refine aL (Iv h h' hl (iv'.ls [] 37) hsm (by omega)) ?_
 rintro g σ' ⟨rfl,⟨hno,-⟩ | ⟨-,hg⟩⟩
 ·exact absurd hok hno
 simp only [KP,↓reduceIte,Nat.reduceLT]
 refine aL (S0 h h' hl q hg hf) ?_
 rintro va σ' ⟨rfl,hva⟩
 have hvi:=hva.Sr.is
 have la:=tI h hvi
 have hal:=Ou hf
 simp only [KP,↓reduceIte,Nat.reduceLT,la]
 refine aS (fun i F Y=>F.get 4 = g /\ F.get 26 = va /\ F.get 27 = .int .i64 ((qL l).length:Int) /\ F.get 28 = .int .i64 (i:Int)) (qL l).length ?_ ?_ (qL l).length 0 _ _ (by omega) (by simp +decide only [GS,and_self])
 ·rintro i F Y hi ⟨g4,g26,g27,g28⟩ next
  obtain ⟨x,hx⟩:∃ x,(qL l)[i]? = some x:=⟨_,List.getElem?_eq_getElem hi⟩
  obtain ⟨gi,e1⟩:=CK h hvi hx
  have hlt:=eD hi
  have hadd:=bX i (by omega)
  rw [aG]
  simp only [KP,↓reduceIte,Nat.reduceLT,g27,g28,hlt]
  refine inner hf hg (List.mem_of_getElem? hx) (.int .i64 ((qL l).length:Int)) e1 _ ?_ ?_ ?_ ?_ _ _ (fun F2 τ2 q4 Ff RU RT=>?_)
  ·simp +decide only [GS,g4]
  ·simp +decide only [GS,g26]
  ·simp +decide only [GS,g27]
  ·simp +decide only [GS,g28]
  simp only [KP,↓reduceIte,Nat.reduceLT,RT,hadd]
  exact next _ _ (by simp +decide only [GS,q4,Ff,RU,and_self])
 ·rintro F Y ⟨g4,g26,g27,g28⟩
  have hlt:=eE (Nat.lt_irrefl (qL l).length)
  rw [aG]
  simp only [KP,↓reduceIte,Nat.reduceLT,g27,g28,hlt,dD,aZ]
  exact rfl
end
end
end Go.Proofs.YtlbbdpkjeeiahaaGreatDoor
end
section
set_option maxHeartbeats 8000000
set_option linter.unusedVariables false
namespace Go.Proofs.YtlbbdpkjeeiahaaGreatDoor
open Go Go.Ax Go.AxS
theorem CX (a0:V) (l0:List aF) (i0:IS dW a0 l0) (r0:∀ x ∈ l0,Raw x):∃ k,Ax.call LE k 9 [a0] = some (.bool true):=by
 have h:aB LE 9 [a0] [] (fun v _=>v = .bool true):=by
  rw [G1 R5 R6 Pq R7 R8 (i0.ls [] 37) r0]
 obtain ⟨n,v,σ',hc,rfl⟩:=h
 refine ⟨n,?_⟩
 have hm:aU (aZ [] LE.ty true) [a0] = some [a0]:=by
  simp only [aU,nW i0 []]
 unfold gK at hc
 rw [show LE.hspec 9 = none by kernel_rfl,show LE.spec 9 = none by kernel_rfl,show LE.fn 9 = some (aA Tryz.f9) by kernel_rfl,show LE.mode 9 = .fG by kernel_rfl] at hc
 simp only [hm] at hc
 unfold Ax.call
 rw [show LE.fn 9 = some (aA Tryz.f9) by kernel_rfl]
 dsimp only
 cases he:enter LE (ev LE n) (aA Tryz.f9) [a0] [] with
 | none=>rw [he] at hc; cases hc
 | some y=>
  rw [he] at hc
  dsimp only at hc ⊢
  cases hs:dD y.2 LE.ty false y.1 with
  | none=>rw [hs] at hc; cases hc
  | some z=>rw [hs] at hc; cases hc; rfl
end Go.Proofs.YtlbbdpkjeeiahaaGreatDoor
end
