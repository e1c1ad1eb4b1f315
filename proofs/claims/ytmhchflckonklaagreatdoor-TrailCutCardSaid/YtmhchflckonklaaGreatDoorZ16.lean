/- Part 16 of the proof. -/
import Derived.Test.YtmhchflckonklaaGreatDoorY
import Derived.Test.YtmhchflckonklaaGreatDoorZ15
import Derived.Test.YtmhchflckonklaaGreatDoorZ2
import Derived.Deep.Slices
import Derived.Test.YtmhchflckonklaaGreatDoorZ3
import Derived.Deep.SlicePairs
import Derived.KernelRfl
import Derived.Test.YtmhchflckonklaaGreatDoorZ14
set_option maxHeartbeats 8000000
set_option linter.unusedVariables false
set_option maxRecDepth 100000
open Nat (reduceEqDiff reduceLT reduceAdd reduceLeDiff reduceMul)
open List (map_nil)
open Int (reduceNeg)
section
namespace Go.Proofs.YtmhchflckonklaaGreatDoor
open Go Go.Ax Go.AxS
section
section
variable {E:Env} {Z:Sg} {K:V -> Sg -> Prop}
theorem Nv (x:aC):fC x = (!kJ x.ins && (!kJ x.outs && (!kJ x.after && (!decide (x.name ∈ x.after) && (iB x.ins x.steps && x.outs.all fun o=>!decide (o ∈ x.ins) && decide (o ∈ x.steps.map Step.out)))))):=by
 unfold fC
 rw [b8]
 simp only [Z3,bl,IT,da,decide_eq_false_iff_not,aa]
 constructor
 ·rintro ⟨⟨⟨⟨⟨⟨h1,h2⟩,h3⟩,h4⟩,h5⟩,h6⟩,h7⟩
  exact ⟨h1,h2,h3,h4,h6,fun o ho=>⟨h5 o ho,(h7 o ho).resolve_left (h5 o ho)⟩⟩
 ·rintro ⟨h1,h2,h3,h4,h6,h7⟩
  exact ⟨⟨⟨⟨⟨⟨h1,h2⟩,h3⟩,h4⟩,fun o ho=>(h7 o ho).1⟩,h6⟩,fun o ho=>.inr (h7 o ho).2⟩
theorem L8 (h:bH E) {v:V} {x:aC} (hv:HN v x) (hx:Small x):aB E 112 [v] Z K = K (.int .i64 (bB x)) Z:=by
 refine aB.of ?_
 have ev:=hv.snap (E:=E) Z
 obtain ⟨a,b,c,d,rfl,ia,ib,ic,id⟩:=hv
 have a1:=hx.ins
 have a2:=hx.outs
 have a3:=hx.after
 have a4:=hx.steps
 rw [aH h.Yh h.VH h.Y5 h.Xm (args':=[.agg [.str x.name,a,b,c,d]]) (by simp only [aW,ev]),aX (by kernel_rfl)]
 have ha:=aM ia.bD
 have hb:=aM ib.bD
 have hc:=aM ic.bD
 have hd:=aM id.bD
 have la:=bP h ia
 have lb:=bP h ib
 have lc:=bP h ic
 have ld:=lF h id
 have kf:=fun (Y:Sg)=>TM (Z:=Y) h (v:=.agg [.str x.name,a,b,c,d]) (x:=x) ⟨a,b,c,d,rfl,ia,ib,ic,id⟩ hx
 have key:=fun F g1 hk=>Is (K:=fun v σ1=>match cK σ1 E.ty false v with
    | some v=>v = .int .i64 (bB x)
    | none=>False) h ia ib id hx (c:=c) F g1 hk
 rw [show (aA Tryz.f112).code = .seq (cutAt [0] (aA Tryz.f112).code) (.seq (cutAt [1,0] (aA Tryz.f112).code) (cutAt [1,1] (aA Tryz.f112).code)) from rfl]
 generalize cutAt [1,1] (aA Tryz.f112).code = C at *
 by_cases f:kH x = true
 case neg=>
  have f:kH x = false:=by simpa using f
  rw [show bB x = 1 from ZO f]
  simp only [aA,Tryz.f112,KP,Ax.loadAt,↓reduceIte,reduceEqDiff,reduceLT,reduceAdd,h.bK,cutAt,ha,hb,hc,hd,kf,f]
  exact rfl
 have r1:bB x = if long x = true then 4 else if fC x = false then 2 else 0:=ZM (by simp [f])
 have q1:decide ((8:Int) < (x.ins.length:Int)) = decide (8 < x.ins.length):=by rw [b8]; simp only [IT]; omega
 have q2:decide ((4:Int) < (x.outs.length:Int)) = decide (4 < x.outs.length):=by rw [b8]; simp only [IT]; omega
 have q3:decide ((8:Int) < (x.after.length:Int)) = decide (8 < x.after.length):=by rw [b8]; simp only [IT]; omega
 have q4:decide ((12:Int) < (x.steps.length:Int)) = decide (12 < x.steps.length):=by rw [b8]; simp only [IT]; omega
 by_cases hl:long x = true
 ·rw [r1,ZO hl]
  unfold long at hl
  cases l1:decide (8 < x.ins.length) with
  | true=>
   simp only [aA,Tryz.f112,KP,Ax.loadAt,↓reduceIte,reduceEqDiff,reduceLT,reduceAdd,reduceCtorEq,h.a_,h.bK,cutAt,ha,hb,hc,hd,kf,f,la,q1,l1]
   exact rfl
  | false=>
   cases l2:decide (4 < x.outs.length) with
   | true=>
    simp only [aA,Tryz.f112,KP,Ax.loadAt,↓reduceIte,reduceEqDiff,reduceLT,reduceAdd,reduceCtorEq,h.a_,h.bK,cutAt,ha,hb,hc,hd,kf,f,la,lb,q1,q2,l1,l2]
    exact rfl
   | false=>
    cases l3:decide (8 < x.after.length) with
    | true=>
     simp only [aA,Tryz.f112,KP,Ax.loadAt,↓reduceIte,reduceEqDiff,reduceLT,reduceAdd,reduceCtorEq,h.a_,h.bK,cutAt,ha,hb,hc,hd,kf,f,la,lb,lc,q1,q2,q3,l1,l2,l3]
     exact rfl
    | false=>
     have l4:decide (12 < x.steps.length) = true:=by rw [l1,l2,l3] at hl; simpa using hl
     simp only [aA,Tryz.f112,KP,Ax.loadAt,↓reduceIte,reduceEqDiff,reduceLT,reduceAdd,reduceCtorEq,h.a_,h.fI,h.bK,cutAt,ha,hb,hc,hd,kf,f,la,lb,lc,ld,q1,q2,q3,q4,l1,l2,l3,l4]
     exact rfl
 rw [ZM hl,Nv] at r1
 have hl:long x = false:=by simpa using hl
 unfold long at hl
 simp only [Bool.or_eq_false_iff] at hl
 obtain ⟨⟨⟨l1,l2⟩,l3⟩,l4⟩:=hl
 have t1:=fun (Y:Sg)=>Fe (Z:=Y) h (a:=a) (l:=x.ins) (ia.ls Y 9) (by omega)
 have t2:=fun (Y:Sg)=>Fe (Z:=Y) h (a:=b) (l:=x.outs) (ib.ls Y 9) (by omega)
 have t3:=fun (Y:Sg)=>Fe (Z:=Y) h (a:=c) (l:=x.after) (ic.ls Y 9) (by omega)
 have t4:=fun (Y:Sg)=>rS (Z:=Y) h (a:=c) (l:=x.after) (s:=x.name) (ic.ls Y 9) (by omega)
 cases w1:kJ x.ins with
 | true=>
  rw [show bB x = 2 from by rw [r1,w1]; rfl]
  simp only [aA,Tryz.f112,KP,Ax.loadAt,↓reduceIte,reduceEqDiff,reduceLT,reduceAdd,reduceCtorEq,h.a_,h.fI,h.bK,cutAt,ha,hb,hc,hd,kf,f,la,lb,lc,ld,q1,q2,q3,q4,l1,l2,l3,l4,t1,w1]
  exact rfl
 | false=>
 cases w2:kJ x.outs with
 | true=>
  rw [show bB x = 2 from by rw [r1,w1,w2]; rfl]
  simp only [aA,Tryz.f112,KP,Ax.loadAt,↓reduceIte,reduceEqDiff,reduceLT,reduceAdd,reduceCtorEq,h.a_,h.fI,h.bK,cutAt,ha,hb,hc,hd,kf,f,la,lb,lc,ld,q1,q2,q3,q4,l1,l2,l3,l4,t1,w1,t2,w2]
  exact rfl
 | false=>
 cases w3:kJ x.after with
 | true=>
  rw [show bB x = 2 from by rw [r1,w1,w2,w3]; rfl]
  simp only [aA,Tryz.f112,KP,Ax.loadAt,↓reduceIte,reduceEqDiff,reduceLT,reduceAdd,reduceCtorEq,h.a_,h.fI,h.bK,cutAt,ha,hb,hc,hd,kf,f,la,lb,lc,ld,q1,q2,q3,q4,l1,l2,l3,l4,t1,w1,t2,w2,t3,w3]
  exact rfl
 | false=>
 by_cases w4:x.name ∈ x.after
 ·have s4:=Km w4
  rw [show bB x = 2 from by rw [r1,w1,w2,w3,BY w4]; rfl]
  simp only [aA,Tryz.f112,KP,Ax.loadAt,↓reduceIte,reduceEqDiff,reduceLT,reduceAdd,reduceCtorEq,h.dG,h.a_,h.fI,h.bK,cutAt,ha,hb,hc,hd,kf,f,la,lb,lc,ld,q1,q2,q3,q4,l1,l2,l3,l4,t1,w1,t2,w2,t3,w3,t4,kG,s4]
  exact rfl
 ·have s4:=Kn w4
  rw [w1,w2,w3,AS w4] at r1
  simp only [aA,Tryz.f112,KP,Ax.loadAt,↓reduceIte,reduceEqDiff,reduceLT,reduceAdd,reduceCtorEq,h.dG,h.a_,h.fI,h.bK,cutAt,ha,hb,hc,hd,kf,f,la,lb,lc,ld,q1,q2,q3,q4,l1,l2,l3,l4,t1,w1,t2,w2,t3,w3,t4,kG,s4]
  refine key _ (by simp +decide only [GS]) fun Y=>?_
  show V.int .i64 _ = V.int .i64 (bB x)
  rw [r1]
  refine ZL _ ?_
  by_cases e:iB x.ins x.steps = true /\ (x.outs.all fun o=>!decide (o ∈ x.ins) && decide (o ∈ x.steps.map Step.out)) = true
  ·rw [ZO e,e.1,e.2]; rfl
  ·rw [ZM e,ZO]
   simp only [je,er]
   cases u1:iB x.ins x.steps with
   | false=>rfl
   | true=>
    cases u2:(x.outs.all fun o=>!decide (o ∈ x.ins) && decide (o ∈ x.steps.map Step.out)) with
    | false=>rfl
    | true=>exact absurd ⟨u1,u2⟩ e
theorem Lu (h:bH E) {v:V} {x:aC} (hv:HN v x) (hx:Small x):KC E 112 [v] Z (.int .i64 (bB x)) Z:=dK fun _=>L8 h hv hx
end
end
section
section
variable {E:Env} {Z:Sg} {K:V -> Sg -> Prop}
def lI (n:Nat) (g:Nat -> Bool):List V:=(List.range n).map fun k=>V.bool (g k)
def rL (n i:Nat):List V:=(List.range i).map (fun j=>V.sl (j + 1) 0 n none) ++ List.replicate (n - i) .aD
def pK (ex:Bool) (n i:Nat) (c:Nat -> Nat -> Bool):Sg:=.cells 99 (rL n i) true :: (List.range i).map fun j=>O.cells 4 (lI n (c j)) ex
def HV (n:Nat) (c:Nat -> Nat -> Bool):List (List Bool):=(List.range n).map fun i=>(List.range n).map (c i)
def G_ (c:Nat -> Nat -> Bool) (i k:Nat) (b:Bool):Nat -> Nat -> Bool:=fun x y=>if x = i /\ y = k then b else c x y
theorem lO {n:Nat} {g:Nat -> Bool}:(lI n g).length = n:=by simp [lI]
theorem oS {n i:Nat} (h:i <= n):(rL n i).length = n:=by simp [rL]; omega
theorem tN {n i j:Nat} (h:j < i):(rL n i)[j]? = some (.sl (j + 1) 0 n none):=by
 unfold rL
 rw [Z8 (by simpa using h)]
 simp [h]
theorem xD {n k:Nat} {g:Nat -> Bool} (h:k < n):(lI n g)[k]? = some (.bool (g k)):=by simp [lI,h]
theorem Cr {ex:Bool} {n i:Nat} {c:Nat -> Nat -> Bool}:(pK ex n i c).length = i + 1:=by simp [pK]
theorem Yk {ex:Bool} {n i:Nat} {c:Nat -> Nat -> Bool}:(pK ex n i c)[0]? = some (.cells 99 (rL n i) true):=rfl
theorem Cq {ex:Bool} {n i j:Nat} {c:Nat -> Nat -> Bool} (h:j < i):(pK ex n i c)[j + 1]? = some (.cells 4 (lI n (c j)) ex):=by
 simp [pK,h]
theorem Fg (h:bH E) {n j:Nat} (hj:j < n):indexAddr E 61 (.sl 0 0 n none) (.int .i64 (j:Int)) = some (.ref 0 j):=by
 have hneg:¬ ((j:Int) < 0):=by omega
 unfold indexAddr
 simp only [hneg,ZK,h.Mw,h.yT,b9,hj,ZP,an,k9]
theorem Cl (h:bH E) {n j k:Nat} (hk:k < n):indexAddr E 99 (.sl (j + 1) 0 n none) (.int .i64 (k:Int)) = some (.ref (j + 1) k):=by
 have hneg:¬ ((k:Int) < 0):=by omega
 unfold indexAddr
 simp only [hneg,ZK,h.yT,h.EJ,b9,hk,ZP,an,k9]
theorem E8 (h:bH E) {ex:Bool} {n i j:Nat} {c:Nat -> Nat -> Bool} (hj:j < i):loadAt E (pK ex n i c) 99 (.ref 0 j) = some (.sl (j + 1) 0 n none):=by
 unfold loadAt
 simp only [h.yT,Yk,Ax.isAgg,Z4,ZK,tN hj]
theorem IK (h:bH E) {ex:Bool} {n i j k:Nat} {c:Nat -> Nat -> Bool} (hj:j < i) (hk:k < n):loadAt E (pK ex n i c) 4 (.ref (j + 1) k) = some (.bool (c j k)):=by
 unfold loadAt
 simp only [h.EJ,Cq hj,Ax.isAgg,Z4,ZK,xD hk]
theorem M9 {n k:Nat} {g:Nat -> Bool} {b:Bool} (hk:k < n):setCells (lI n g) k [.bool b] = lI n (fun y=>if y = k then b else g y):=by
 have e:setCells (lI n g) k [.bool b] = (lI n g).set k (.bool b):=by
  unfold setCells
  rw [List.set_eq_take_append_cons_drop,ZO (by rw [lO]; exact hk)]
  simp
 rw [e]
 apply gq
 intro i
 by_cases hi:i < n
 ·by_cases hik:k = i
  ·subst hik
   rw [ZV (by rw [lO]; exact hk),xD hk,ZO rfl]
  ·rw [No hik,xD hi,xD hi,ZM (fun e=>hik e.symm)]
 ·rw [dn (by rw [bq,lO]; omega),dn (by rw [lO]; omega)]
theorem Ii (h:bH E) {ex:Bool} {n i j k:Nat} {c:Nat -> Nat -> Bool} {b:Bool} (hj:j < i) (hk:k < n):storeAt E (pK ex n i c) 4 (.ref (j + 1) k) (.bool b) = some (pK ex n i (G_ c j k b)):=by
 unfold storeAt
 simp only [h.EJ,Cq hj]
 rw [ZO (by simp only [V.cells,V.aZ,Z0,ZN,dw,gy,lO,jd,Z3,IT]; exact ⟨rfl,by omega⟩)]
 refine ZL some ?_
 rw [show V.cells (.bool b) = [.bool b] from rfl,M9 hk]
 apply gq
 intro q
 cases q with
 | zero=>rw [No (by omega)]; rfl
 | succ q=>
  by_cases hq:q < i
  ·rw [Cq hq]
   by_cases hjq:j = q
   ·subst hjq
    rw [ZV (by rw [Cr]; omega)]
    congr 2
    unfold lI
    refine fc fun y _=>?_
    simp [G_]
   ·rw [No (by omega),Cq hq]
    congr 2
    unfold lI
    refine fc fun y _=>?_
    have:¬ (q = j /\ y = k):=fun e=>hjq e.1.symm
    simp [G_,this]
  ·rw [dn (by rw [bq,Cr]; omega),dn (by rw [Cr]; omega)]
theorem MF (h:bH E) {ex:Bool} {n i:Nat} {c:Nat -> Nat -> Bool} (hi:i < n):storeAt E (pK ex n i c ++ [.cells 4 (lI n (c i)) ex]) 99 (.ref 0 i) (.sl (i + 1) 0 n none) = some (pK ex n (i + 1) c):=by
 unfold storeAt
 have h0:(pK ex n i c ++ [O.cells 4 (lI n (c i)) ex])[0]? = some (.cells 99 (rL n i) true):=rfl
 simp only [h.yT,h0]
 rw [ZO (by simp only [V.cells,V.aZ,Z0,ZN,dw,gy,oS (Nat.le_of_lt hi),jd,Z3,IT]; exact ⟨rfl,by omega⟩)]
 refine ZL some ?_
 have e:setCells (rL n i) i [.sl (i + 1) 0 n none] = rL n (i + 1):=by
  unfold setCells
  apply gq
  intro q
  have hl:((rL n i).take i).length = i:=by rw [ZW,oS (Nat.le_of_lt hi)]; omega
  rcases fm q i with hq | rfl | hq
  ·rw [ag,Z8 (by omega),dm,ZO hq,tN hq,tN (by omega)]
  ·rw [ag,ZR (by omega),hl,gz,tN (by omega)]; rfl
  ·have e1:(rL n (i + 1))[q]? = if q < n then some .aD else none:=by
    unfold rL
    rw [ZR (by simp; omega),ZS,l5,List.getElem?_replicate]
    by_cases g:q < n
    ·rw [ZO (by omega),ZO g]
    ·rw [ZM (by omega),ZM g]
   rw [e1,ag,ZR (by omega),hl,ZR (by simp; omega),cq,ec]
   unfold rL
   rw [ZR (by simp; omega),ZS,l5,List.getElem?_replicate]
   by_cases g:q < n
   ·rw [ZO (by omega),ZO g]
   ·rw [ZM (by omega),ZM g]
 rw [show V.cells (.sl (i + 1) 0 n none) = [.sl (i + 1) 0 n none] from rfl,e]
 unfold pK
 rw [bg,ij,List.range_succ,cj]
 rfl
theorem J1 {n:Nat} {c:Nat -> Nat -> Bool} {i:Nat} (hi:i < n):(HV n c)[i]? = some ((List.range n).map (c i)):=by simp [HV,hi]
theorem P7 {n:Nat} {c:Nat -> Nat -> Bool}:(HV n c).length = n:=by simp [HV]
theorem PS {n:Nat} {g:Nat -> Bool} {k:Nat} (hk:k < n):((List.range n).map g)[k]? = some (g k):=by simp [hk]
theorem M8:∀ l:List V,Ax.rows 1 l.length l = l.map fun v=>[v]
 | []=>rfl
 | x :: l=>by
  show ((x :: l).take 1) :: Ax.rows 1 l.length ((x :: l).drop 1) = _
  rw [show (x :: l).drop 1 = l from rfl,M8 l]; rfl
theorem J2 {α β:Type} {f:α -> Option β}:∀ {l:List α} {m:List β},l.length = m.length -> (∀ (i:Nat) (a:α) (b:β),l[i]? = some a -> m[i]? = some b -> f a = some b) -> aW f l = some m
 | [],[],_,_=>rfl
 | a :: l,b :: m,hl,h=>by
  rw [aW,h 0 a b rfl rfl,J2 (l:=l) (m:=m) (by simpa using hl) fun i x y hx hy=>h (i + 1) x y hx hy]
 | [],_ :: _,hl,_=>by simp at hl
 | _ :: _,[],hl,_=>by simp at hl
theorem F9 (h:bH E) {ex:Bool} {n:Nat} {c:Nat -> Nat -> Bool}:∃ v,cK (pK ex n n c) E.ty false (.sl 0 0 n none) = some v /\ jT tI v (HV n c):=by
 let rv:Nat -> V:=fun i=>.bS false ((lI n (c i)).map fun v=>[v]) (ex && decide (0 < 1) && (0 + n * 1 == n))
 have hrow:∀ i,i < n -> ∀ m,bO (pK ex n n c) E.ty false (m + 2) (.sl (i + 1) 0 n none) = some (rv i):=fun i hi m=>by
  have hm:aW (fun v=>match bO (pK ex n n c) E.ty false (m + 1) v with
    | some v=>if cH false v then some v else no "snap: borrowed"
    | none=>none) (lI n (c i)) = some (lI n (c i)):=by
   refine gK fun x hx=>?_
   obtain ⟨k,_,rfl⟩:=ah.1 hx
   rfl
  rw [bO]
  simp only [Cq hi,h.EJ]
  rw [ZO (by rw [lO]; omega),cn,Z6 (by rw [lO]; omega)]
  refine (ZL (fun o=>match o with
   | some l=>some (V.bS false (Ax.rows 1 n l) (ex && decide (0 < 1) && (0 + n * 1 == (lI n (c i)).length)))
   | none=>none) hm).trans ?_
  show some (V.bS false (Ax.rows 1 n (lI n (c i))) (ex && decide (0 < 1) && (0 + n * 1 == (lI n (c i)).length))) = _
  have:Ax.rows 1 n (lI n (c i)) = (lI n (c i)).map fun v=>[v]:=by
   have:=M8 (lI n (c i)); rwa [lO] at this
  rw [this,lO]
 have hout:bO (pK ex n n c) E.ty false 12 (.sl 0 0 n none) = some (.bS false (((List.range n).map rv).map fun v=>[v]) (true && decide (0 < 1) && (0 + n * 1 == n))):=by
  have hm:aW (fun v=>match bO (pK ex n n c) E.ty false 11 v with
    | some v=>if cH false v then some v else no "snap: borrowed"
    | none=>none) (rL n n) = some ((List.range n).map rv):=by
   refine J2 (by rw [oS (Z1 n)]; simp) fun i a b ha hb=>?_
   have hi:i < n:=by
    have:=(AI.1 ha).1
    rwa [oS (Z1 n)] at this
   rw [tN hi] at ha
   cases ha
   have hb:some (rv i) = some b:=by rw [<- hb]; simp [hi]
   cases hb
   rw [hrow i hi 9]
   rfl
  rw [bO]
  simp only [Yk,h.yT]
  rw [ZO (by rw [oS (Z1 n)]; omega),cn,Z6 (by rw [oS (Z1 n)]; omega)]
  refine (ZL (fun o=>match o with
   | some l=>some (V.bS false (Ax.rows 1 n l) (true && decide (0 < 1) && (0 + n * 1 == (rL n n).length)))
   | none=>none) hm).trans ?_
  show some (V.bS false (Ax.rows 1 n ((List.range n).map rv)) (true && decide (0 < 1) && (0 + n * 1 == (rL n n).length))) = _
  have:Ax.rows 1 n ((List.range n).map rv) = ((List.range n).map rv).map fun v=>[v]:=by
   have:=M8 ((List.range n).map rv); rwa [show ((List.range n).map rv).length = n by simp] at this
  rw [this,oS (Z1 n)]
 refine ⟨.bS false (((List.range n).map rv).map fun v=>[v]) (true && decide (0 < 1) && (0 + n * 1 == n)),?_,.inr ⟨((List.range n).map rv).map fun v=>[v],true && decide (0 < 1) && (0 + n * 1 == n),rfl,?_⟩⟩
 ·show (match bO (pK ex n n c) E.ty false 12 (.sl 0 0 n none) with
   | some v=>if cH false v then some v else no "snap: borrowed"
   | none=>none) = _
  rw [hout]
  rfl
 ·unfold HV
  rw [iz]
  refine eP.map (P:=tI.P) (f:=(fun v=>[v]) ∘ rv) (g:=fun i=>(List.range n).map (c i)) (fun i=>⟨rv i,rfl,.inr ⟨false,(lI n (c i)).map fun v=>[v],ex && decide (0 < 1) && (0 + n * 1 == n),rfl,?_⟩⟩) _
  unfold lI
  rw [iz]
  exact eP.map (P:=CR.P) (f:=(fun v=>[v]) ∘ fun k=>V.bool (c i k)) (g:=c i) (fun k=>rfl) _
end
end
section
section
variable {E:Env} {Z:Sg} {K:V -> Sg -> Prop}
def zS (c:Nat -> Nat -> Bool) (i:Nat) (g:Nat -> Bool):Nat -> Nat -> Bool:=fun x=>if x = i then g else c x
theorem G6 {ex:Bool} {n i:Nat} {c c':Nat -> Nat -> Bool} (h:∀ j,j < i -> c j = c' j):pK ex n i c = pK ex n i c':=by
 unfold pK
 refine ZL _ (fc fun j hj=>?_)
 rw [h j (j6.1 hj)]
theorem SA (h:bH E) {ex:Bool} {n i:Nat} {c:Nat -> Nat -> Bool} {g:Nat -> Bool} (hi:i < n):storeAt E (pK ex n i c ++ [.cells 4 (lI n g) ex]) 99 (.ref 0 i) (.sl (i + 1) 0 n none) = some (pK ex n (i + 1) (zS c i g)):=by
 have:=MF (ex:=ex) (c:=zS c i g) h hi
 rw [G6 (c:=zS c i g) (c':=c) (fun j hj=>by unfold zS; rw [ZM (by omega)]),show zS c i g i = g from ZO rfl] at this
 exact this
theorem He {c:Nat -> Nat -> Bool} {i k:Nat} {g:Nat -> Bool} {b:Bool}:G_ (zS c i g) i k b = zS c i (fun y=>if y = k then b else g y):=by
 funext x y
 unfold G_ zS
 by_cases hx:x = i
 ·simp [hx]
 ·simp [hx]
theorem K7 (n:Nat):iA n [V.bool false] = lI n fun _=>false:=by
 have:∀ n:Nat,iA n [V.bool false] = List.replicate n (V.bool false):=by
  intro n
  induction n with
  | zero=>rfl
  | succ n ih=>rw [iA,ih]; rfl
 rw [this]
 unfold lI
 rw [List.map_const',l5]
theorem DI (n:Nat):iA n [V.aD] = rL n 0:=by
 have:∀ n:Nat,iA n [V.aD] = List.replicate n V.aD:=by
  intro n
  induction n with
  | zero=>rfl
  | succ n ih=>rw [iA,ih]; rfl
 rw [this]; rfl
theorem Cb {rs:List aC} {f:bC} {k:Nat} (h:fD rs f = some k):k < rs.length:=by
 unfold fD at h
 generalize (fun r:aC=>decide (f ∈ r.outs)) = p at h
 induction rs generalizing k with
 | nil=>cases h
 | cons r rs ih=>
  rw [bQ] at h
  split at h
  ·cases h; simp
  ·obtain ⟨j,hj,rfl⟩:=Option.map_eq_some_iff.1 h
   have:=ih hj; simp only [Z0]; omega
theorem DE {rs:List aC} {f:bC} {k:Nat} (h:fT rs f = some k):k < rs.length:=by
 unfold fT at h
 generalize (fun r:aC=>decide (r.name = f)) = p at h
 induction rs generalizing k with
 | nil=>cases h
 | cons r rs ih=>
  rw [bQ] at h
  split at h
  ·cases h; simp
  ·obtain ⟨j,hj,rfl⟩:=Option.map_eq_some_iff.1 h
   have:=ih hj; simp only [Z0]; omega
theorem pI {α:Type} {p:α -> Bool} {l:List α} {j:Nat} {x:α} (hx:l[j]? = some x):(l.take (j + 1)).any p = ((l.take j).any p || p x):=by
 rw [bh,hx,List.any_append]; simp
structure wO (rs:List aC):Prop where
 len:rs.length <= 64
 all:∀ x ∈ rs,Small x
theorem nD:idx none = -1:=rfl
theorem eV {k:Nat}:idx (some k) = (k:Int):=rfl
theorem Rw (h:bH E) {a:V} {rs:List aC} (ha:LS eC 46 Z a rs) (hs:wO rs) (data:Bool):aB E 78 [a,.bool data] Z fun v σ'=>σ' = Z /\ jT tI v (HV rs.length (iE rs data)):=by
 obtain ⟨a',ea,ia⟩:=eX h ha
 rw [aH h.hs78 h.sp78 h.fn78 h.md78 (args':=[a',.bool data]) (by simp only [aW,ea,show aS Z E.ty true (.bool data) = some (.bool data) from rfl]),aX (by kernel_rfl)]
 have la:=cV h ia
 have hn:=hs.len
 generalize hN:rs.length = n at *
 have c2:decide ((n:Int) * ((24:Nat):Int) <= 1099511627776) = true:=BY (by omega)
 have c3:decide ((n:Int) <= 1099511627776) = true:=BY (by omega)
 have c4:decide ((n:Int) * ((1:Nat):Int) <= 1099511627776) = true:=BY (by omega)
 have hinit:([O.cells 99 (rL n 0) true]:Sg) = pK true n 0 (iE rs data):=rfl
 simp only [aA,Tryz.f78,KP,↓reduceIte,reduceLT,reduceAdd,reduceCtorEq,h.Mw,h.yT,la,c2,c3,DI,b9,Int.le_refl,hinit]
 refine aV (fun i F Y=>Y = pK true n i (iE rs data) /\ F.get 0 = a' /\ F.get 1 = .bool data /\ F.get 5 = .sl 0 0 n none /\ F.get 6 = .int .i64 (i:Int)) n ?_ ?_ n 0 _ _ (by omega) ⟨rfl,(by simp +decide only [GS,Z5])⟩
 ·rintro i F Y hi ⟨rfl,g0,g1,g5,g6⟩ next
  obtain ⟨r,hr⟩:∃ y,rs[i]? = some y:=⟨_,AT (by omega)⟩
  have hsr:=hs.all r (Z2 hr)
  have a1:=hsr.ins
  have a3:=hsr.after
  obtain ⟨g,p1,p2,p3,p4,e1,i1,i2,i3,i4⟩:=fF h ia hr
  have l1:=bP h i1
  have l3:=bP h i3
  have hlt:=dZ hi
  have hadd:=bY i (by omega)
  have x1:=Fg h hi
  have s1:=SA (ex:=true) (c:=iE rs data) (g:=fun _=>false) h hi
  rw [aG]
  simp only [KP,↓reduceIte,reduceEqDiff,reduceLT,reduceCtorEq,J8 h,h.EJ,h.a_,h.bK,h.yT,g0,g5,g6,la,hlt,e1,l1,c3,c4,K7,b9,Int.le_refl,Cr,x1,s1]
  generalize hc:iE rs data = c at *
  have hmem:∀ x ∈ rs,x.outs.length <= 4294967296:=fun x hx=>by have:=(hs.all x hx).outs; omega
  refine aV (fun j F Y=>Y = pK true n (i + 1) (zS c i fun k=>(r.ins.take j).any fun f=>decide (fD rs f = some k)) /\ F.get 0 = a' /\ F.get 1 = .bool data /\ F.get 5 = .sl 0 0 n none /\ F.get 6 = .int .i64 (i:Int) /\ F.get 32 = p1 /\ F.get 33 = .int .i64 (r.ins.length:Int) /\ F.get 34 = .int .i64 (j:Int)) r.ins.length ?_ ?_ r.ins.length 0 _ _ (by omega) ⟨by simp,(by simp +decide only [GS,g0,g1,g5,g6,Z5])⟩
  ·rintro j F Y hj ⟨rfl,g0,g1,g5,g6,g32,g33,g34⟩ next2
   obtain ⟨f,hf⟩:∃ y,r.ins[j]? = some y:=⟨_,AT hj⟩
   obtain ⟨g,e2⟩:=gI h i1 hf
   have hlt2:=dZ hj
   have hadd2:=bY j (by omega)
   generalize hC:(zS c i fun k=>(r.ins.take j).any fun f=>decide (fD rs f = some k)) = C
   have km:=Kg (Z:=pK true n (i + 1) C) h (s:=f) (ia.ls _ 46) hmem (by omega)
   rw [aG]
   cases hm:fD rs f with
   | none=>
    simp only [KP,↓reduceIte,reduceEqDiff,reduceLT,reduceCtorEq,Int.reduceLE,reduceNeg,rR h,g0,g32,g33,g34,hlt2,e2,km,hm,nD,hadd2]
    refine next2 _ _ ⟨?_,(by simp +decide only [GS,g0,g1,g5,g6,g32,g33,Z5])⟩
    rw [<- hC]
    refine ZL _ (ZL _ (funext fun k=>?_))
    rw [pI hf,hm]; simp
   | some k=>
    have hk:=Cb hm
    rw [hN] at hk
    have c0:decide ((0:Int) <= (k:Int)) = true:=BY (by omega)
    have x2:=E8 (ex:=true) (c:=C) h (show i < i + 1 by omega) (n:=n)
    have x3:=Cl h (j:=i) hk
    have x4:=Ii (ex:=true) (c:=C) (b:=true) h (show i < i + 1 by omega) hk
    simp only [KP,↓reduceIte,reduceEqDiff,reduceLT,reduceCtorEq,rR h,g0,g5,g6,g32,g33,g34,hlt2,e2,km,hm,eV,x1,x2,x3,x4,hadd2]
    refine next2 _ _ ⟨?_,(by simp +decide only [GS,g0,g1,g5,g6,g32,g33,Z5])⟩
    rw [<- hC,He]
    refine ZL _ (ZL _ (funext fun y=>?_))
    rw [pI hf,hm]
    by_cases hy:y = k
    ·subst hy; simp
    ·rw [ZM hy,AS (fun e=>hy (au e).symm),Bool.or_false]
  ·rintro F Y ⟨rfl,g0,g1,g5,g6,g32,g33,g34⟩
   have hlt2:=d_ (ZT r.ins.length)
   rw [Z6 (Z1 _)]
   rw [aG]
   simp only [KP,↓reduceIte,reduceEqDiff,reduceLT,reduceCtorEq,J8 h,h.a_,h.bK,g0,g6,g33,g34,hlt2,e1,l3]
   refine aV (fun j F Y=>Y = pK true n (i + 1) (zS c i fun k=>(r.ins.any fun f=>decide (fD rs f = some k)) || (!data && (r.after.take j).any fun m=>decide (fT rs m = some k))) /\ F.get 0 = a' /\ F.get 1 = .bool data /\ F.get 5 = .sl 0 0 n none /\ F.get 6 = .int .i64 (i:Int) /\ F.get 54 = p3 /\ F.get 55 = .int .i64 (r.after.length:Int) /\ F.get 56 = .int .i64 (j:Int)) r.after.length ?_ ?_ r.after.length 0 _ _ (by omega) ⟨by simp,(by simp +decide only [GS,g0,g1,g5,g6,Z5])⟩
   ·rintro j F Y hj ⟨rfl,g0,g1,g5,g6,g32,g33,g34⟩ next2
    obtain ⟨f,hf⟩:∃ y,r.after[j]? = some y:=⟨_,AT hj⟩
    obtain ⟨g,e2⟩:=gI h i3 hf
    have hlt2:=dZ hj
    have hadd2:=bY j (by omega)
    generalize hC:(zS c i fun k=>(r.ins.any fun f=>decide (fD rs f = some k)) || (!data && (r.after.take j).any fun m=>decide (fT rs m = some k))) = C
    have km:=TR (Z:=pK true n (i + 1) C) h (s:=f) (ia.ls _ 46) (by omega)
    rw [aG]
    cases hm:fT rs f with
    | none=>
     simp only [KP,↓reduceIte,reduceEqDiff,reduceLT,reduceCtorEq,Int.reduceLE,reduceNeg,rR h,g0,g32,g33,g34,hlt2,e2,km,hm,nD,hadd2]
     refine next2 _ _ ⟨?_,(by simp +decide only [GS,g0,g1,g5,g6,g32,g33,Z5])⟩
     rw [<- hC]
     refine ZL _ (ZL _ (funext fun k=>?_))
     rw [pI hf,hm]; simp
    | some k=>
     have hk:=DE hm
     rw [hN] at hk
     have c0:decide ((0:Int) <= (k:Int)) = true:=BY (by omega)
     cases data with
     | true=>
      simp only [KP,↓reduceIte,reduceEqDiff,reduceLT,reduceCtorEq,rR h,g0,g1,g32,g33,g34,hlt2,e2,km,hm,eV,hadd2]
      refine next2 _ _ ⟨?_,(by simp +decide only [GS,g0,g1,g5,g6,g32,g33,Z5])⟩
      rw [<- hC]
      refine ZL _ (ZL _ (funext fun k=>?_))
      simp
     | false=>
      have x2:=E8 (ex:=true) (c:=C) h (show i < i + 1 by omega) (n:=n)
      have x3:=Cl h (j:=i) hk
      have x4:=Ii (ex:=true) (c:=C) (b:=true) h (show i < i + 1 by omega) hk
      simp only [KP,↓reduceIte,reduceEqDiff,reduceLT,reduceCtorEq,rR h,g0,g1,g5,g6,g32,g33,g34,hlt2,e2,km,hm,eV,x1,x2,x3,x4,hadd2]
      refine next2 _ _ ⟨?_,(by simp +decide only [GS,g0,g1,g5,g6,g32,g33,Z5])⟩
      rw [<- hC,He]
      refine ZL _ (ZL _ (funext fun y=>?_))
      rw [pI hf,hm]
      by_cases hy:y = k
      ·subst hy; simp
      ·rw [ZM hy,AS (fun e=>hy (au e).symm),Bool.or_false]
   ·rintro F Y ⟨rfl,g0,g1,g5,g6,g32,g33,g34⟩
    have hlt2:=d_ (ZT r.after.length)
    rw [Z6 (Z1 _)]
    rw [aG]
    simp only [KP,↓reduceIte,reduceEqDiff,reduceLT,g6,g33,g34,hlt2,hadd]
    refine next _ _ ⟨G6 fun j hj=>?_,(by simp +decide only [GS,g0,g1,g5,Z5])⟩
    unfold zS
    by_cases hji:j = i
    ·subst hji
     rw [ZO rfl,<- hc]
     funext k
     unfold iE uO
     rw [hr]
    ·rw [ZM hji]
 ·rintro F Y ⟨rfl,g0,g1,g5,g6⟩
  have hlt:=d_ (ZT n)
  rw [aG]
  obtain ⟨v,e1,hv⟩:=F9 (ex:=true) (n:=n) (c:=iE rs data) h
  simp only [KP,↓reduceIte,reduceEqDiff,reduceLT,reduceCtorEq,g0,g5,g6,la,hlt,e1]
  exact hv
end
end
section
section
variable {E:Env} {Z:Sg} {K:V -> Sg -> Prop}
theorem Jj {rs:List (List V)} {n:Nat} {g:Nat -> Bool} (h:eP CR.P rs ((List.range n).map g)):rs.flatten = lI n g:=by
 have:∀ {rs:List (List V)} {l:List Bool},eP CR.P rs l -> rs.flatten = l.map V.bool:=by
  intro rs l h
  induction h with
  | nil=>rfl
  | cons p _ ih=>rw [az,ih,show _ = [V.bool _] from p]; rfl
 rw [this h,iz]; rfl
theorem RG (h:bH E) {Y:Sg} {v:V} {n:Nat} {g:Nat -> Bool} (hn:0 < n) (hn2:n <= 64) (iv:IS CR v ((List.range n).map g)):Ax.append E Y #[99,99] .aD v = some (.sl Y.length 0 n none,Y ++ [.cells 4 (lI n g) false]):=by
 obtain ⟨rs,e,ha⟩:=kR iv Y
 have hn0:¬ n = 0:=by omega
 have e:elems Y 1 v = some (rs.flatten,n):=by rw [ZS,l5] at e; exact e
 have hr:pY n 1 = true:=DH (b:=64) (by decide) hn2
 unfold Ax.append
 simp only [show (#[99,99]:Array Nat)[0]? = some 99 from rfl,h.yT,h.EJ,Gt h,e,hn0,hr,ZP,ZK,aq,ey,Z4,Jj ha,Nat.reduceBEq]
def vL (m:Nat -> Nat -> Bool) (k i j:Nat):Nat -> Nat -> Bool:=fun x y=>if x < i \/ (x = i /\ y < j) then wk m (k + 1) x y else wk m k x y
theorem Uh {m:Nat -> Nat -> Bool} {k i j:Nat}:vL m k i j i k = wk m k i k:=by
 unfold vL; split
 ·exact Ms k i
 ·rfl
theorem Ug {m:Nat -> Nat -> Bool} {k i j y:Nat}:vL m k i j k y = wk m k k y:=by
 unfold vL; split
 ·exact Mr k y
 ·rfl
theorem Ui {m:Nat -> Nat -> Bool} {k i j:Nat}:vL m k i j i j = wk m k i j:=by
 unfold vL; rw [ZM (by omega)]
theorem Rf {m:Nat -> Nat -> Bool} {k i j:Nat} {b:Bool} (hb:b = wk m (k + 1) i j):G_ (vL m k i j) i j b = vL m k i (j + 1):=by
 funext x y
 unfold G_ vL
 by_cases h1:x = i
 ·subst h1
  by_cases h2:y = j
  ·subst h2
   rw [ZO ⟨rfl,rfl⟩,ZO (by omega),hb]
  ·rw [ZM (by omega)]
   by_cases h3:y < j
   ·rw [ZO (by omega),ZO (by omega)]
   ·rw [ZM (by omega),ZM (by omega)]
 ·rw [ZM (by omega)]
  by_cases h3:x < i
  ·rw [ZO (by omega),ZO (by omega)]
  ·rw [ZM (by omega),ZM (by omega)]
theorem uP {ex:Bool} {n i:Nat} {c c':Nat -> Nat -> Bool} (h:∀ j,j < i -> ∀ y,y < n -> c j y = c' j y):pK ex n i c = pK ex n i c':=by
 unfold pK
 refine ZL _ (fc fun j hj=>?_)
 refine ZL (fun l=>O.cells 4 l ex) (fc fun y hy=>?_)
 rw [h j (j6.1 hj) y (j6.1 hy)]
theorem OO (h:bH E) {a:V} {n:Nat} {m:Nat -> Nat -> Bool} (hn:n <= 64) (ia:IS tI a (HV n m)):aB E 91 [a] Z fun v σ'=>σ' = Z /\ jT tI v (HV n (wk m n)):=by
 rw [aH h.hs91 h.sp91 h.fn91 h.md91 (args':=[a]) (by simp only [aW,oJ ia Z]),aX (by kernel_rfl)]
 have la:=NP h ia
 rw [P7] at la
 have c2:decide ((n:Int) * ((24:Nat):Int) <= 1099511627776) = true:=BY (by omega)
 have c3:decide ((n:Int) <= 1099511627776) = true:=BY (by omega)
 have hinit:([O.cells 99 (rL n 0) true]:Sg) = pK false n 0 m:=rfl
 have d16:=h.T5
 simp only [aA,Tryz.f91,cutAt,Z9] at d16
 simp only [aA,Tryz.f91,KP,↓reduceIte,reduceLT,reduceCtorEq,h.Mw,h.yT,la,c2,c3,DI,b9,Int.le_refl,hinit]
 refine aV (fun i F Y=>Y = pK false n i m /\ F.get 0 = a /\ F.get 3 = .int .i64 (n:Int) /\ F.get 4 = .sl 0 0 n none /\ F.get 5 = .int .i64 (i:Int)) n ?_ ?_ n 0 _ _ (by omega) ⟨rfl,(by simp +decide only [GS,Z5])⟩
 ·rintro i F Y hi ⟨rfl,g0,g3,g4,g5⟩ next
  obtain ⟨g,r,e1,rv,hr,irv⟩:=KF h ia (J1 hi)
  have e1:indexAddr E 61 a (.int .i64 (i:Int)) = some (.cW g [rv]):=by rw [e1,hr]
  have hlt:=dZ hi
  have hadd:=bY i (by omega)
  have x1:=Fg h hi
  have ha:=RG (Y:=pK false n i m) h (by omega) hn irv
  rw [Cr] at ha
  have s1:=MF (ex:=false) (c:=m) h hi
  rw [aG]
  simp only [KP,↓reduceIte,reduceEqDiff,reduceLT,reduceCtorEq,mG h,g0,g3,g4,g5,hlt,e1,x1,ha,s1,hadd]
  exact next _ _ ⟨rfl,(by simp +decide only [GS,g0,g3,g4,Z5])⟩
 ·rintro F Y ⟨rfl,g0,g3,g4,g5⟩
  have hlt:=d_ (ZT n)
  rw [aG]
  simp only [KP,↓reduceIte,reduceEqDiff,reduceLT,g3,g5,hlt]
  refine aV (fun k F Y=>Y = pK false n n (wk m k) /\ F.get 3 = .int .i64 (n:Int) /\ F.get 4 = .sl 0 0 n none /\ F.get 6 = .int .i64 (k:Int)) n ?_ ?_ n 0 _ _ (by omega) ⟨rfl,(by simp +decide only [GS,g3,g4,Z5])⟩
  ·rintro k F Y hk ⟨rfl,g3,g4,g6⟩ next
   have hlt:=dZ hk
   have haddk:=bY k (by omega)
   rw [aG]
   simp only [KP,↓reduceIte,reduceEqDiff,reduceLT,g3,g6,hlt]
   refine aV (fun i F Y=>Y = pK false n n (vL m k i 0) /\ F.get 3 = .int .i64 (n:Int) /\ F.get 4 = .sl 0 0 n none /\ F.get 6 = .int .i64 (k:Int) /\ F.get 7 = .int .i64 (i:Int)) n ?_ ?_ n 0 _ _ (by omega) ⟨uP fun x hx y hy=>by unfold vL; rw [ZM (by omega)],(by simp +decide only [GS,g3,g4,g6,Z5])⟩
   ·rintro i F Y hi ⟨rfl,g3,g4,g6,g7⟩ next2
    have hlt:=dZ hi
    have haddi:=bY i (by omega)
    rw [aG]
    simp only [KP,↓reduceIte,reduceEqDiff,reduceLT,g3,g7,hlt]
    refine aV (fun j F Y=>Y = pK false n n (vL m k i j) /\ F.get 3 = .int .i64 (n:Int) /\ F.get 4 = .sl 0 0 n none /\ F.get 6 = .int .i64 (k:Int) /\ F.get 7 = .int .i64 (i:Int) /\ F.get 8 = .int .i64 (j:Int)) n ?_ ?_ n 0 _ _ (by omega) ⟨rfl,(by simp +decide only [GS,g3,g4,g6,g7,Z5])⟩
    ·rintro j F Y hj ⟨rfl,g3,g4,g6,g7,g8⟩ next3
     have hlt:=dZ hj
     have haddj:=bY j (by omega)
     have v1:=Uh (m:=m) (k:=k) (i:=i) (j:=j)
     have v2:=Ug (m:=m) (k:=k) (i:=i) (j:=j) (y:=j)
     have v3:=Ui (m:=m) (k:=k) (i:=i) (j:=j)
     have v4:=fun b hb=>Rf (m:=m) (k:=k) (i:=i) (j:=j) (b:=b) hb
     have v5:wk m k i k = false -> pK false n n (vL m k i j) = pK false n n (vL m k (i + 1) 0):=fun hb=>uP fun x hx y hy=>by
      unfold vL
      by_cases h1:x = i
      ·subst h1
       rw [ZO (show x < x + 1 \/ x = x + 1 /\ y < 0 by omega)]
       split
       ·rfl
       ·rw [wk,hb]; simp
      ·by_cases h3:x < i
       ·rw [ZO (by omega),ZO (by omega)]
       ·rw [ZM (by omega),ZM (by omega)]
     generalize hC:vL m k i j = C at *
     have y1:=Fg h hi
     have y2:=E8 (ex:=false) (c:=C) h hi (n:=n)
     have y3:=Cl h (j:=i) hk
     have y4:=IK (ex:=false) (c:=C) h hi hk
     have y5:=Cl h (j:=i) hj
     have y6:=IK (ex:=false) (c:=C) h hi hj
     have z1:=Fg h hk
     have z2:=E8 (ex:=false) (c:=C) h hk (n:=n)
     have z3:=Cl h (j:=k) hj
     have z4:=IK (ex:=false) (c:=C) h hk hj
     have st1:=fun b=>Ii (ex:=false) (c:=C) (b:=b) h hi hj
     rw [v1] at y4
     rw [v3] at y6
     rw [v2] at z4
     rw [aG]
     cases w1:wk m k i k with
     | false=>
      simp only [KP,↓reduceIte,reduceEqDiff,reduceLT,g3,g4,g6,g7,g8,hlt,y1,y2,y3,y4,w1,haddi]
      rw [v5 w1]
      exact next2 _ _ ⟨rfl,(by simp +decide only [GS,g3,g4,g6,Z5])⟩
     | true=>
      have w3:∀ b,b = (wk m k i j || wk m k k j) -> G_ C i j b = vL m k i (j + 1):=fun b hb=>v4 b (by rw [hb,wk,w1,er])
      cases w2:wk m k i j with
      | true=>
       simp only [KP,↓reduceIte,reduceEqDiff,reduceLT,g3,g4,g6,g7,g8,hlt,y1,y2,y3,y4,y5,y6,w1,w2,st1,haddj,aU d16,bM]
       rw [w3 true (by rw [w2]; rfl)]
       exact next3 _ _ ⟨rfl,(by simp +decide only [GS,g3,g4,g6,g7,Z5])⟩
      | false=>
       simp only [KP,↓reduceIte,reduceEqDiff,reduceLT,g3,g4,g6,g7,g8,hlt,y1,y2,y3,y4,y5,y6,z1,z2,z3,z4,w1,w2,st1,haddj,aU d16,bM]
       rw [w3 _ (by rw [w2,Bool.false_or])]
       exact next3 _ _ ⟨rfl,(by simp +decide only [GS,g3,g4,g6,g7,Z5])⟩
    ·rintro F Y ⟨rfl,g3,g4,g6,g7,g8⟩
     have hlt:=d_ (ZT n)
     have v5:pK false n n (vL m k i n) = pK false n n (vL m k (i + 1) 0):=uP fun x hx y hy=>by
      unfold vL
      by_cases h3:x < i + 1
      ·rw [ZO (by omega),ZO (by omega)]
      ·rw [ZM (by omega),ZM (by omega)]
     rw [aG]
     simp only [KP,↓reduceIte,reduceEqDiff,reduceLT,g3,g7,g8,hlt,haddi]
     rw [v5]
     exact next2 _ _ ⟨rfl,(by simp +decide only [GS,g3,g4,g6,Z5])⟩
   ·rintro F Y ⟨rfl,g3,g4,g6,g7⟩
    have hlt:=d_ (ZT n)
    have v5:pK false n n (vL m k n 0) = pK false n n (wk m (k + 1)):=uP fun x hx y hy=>by
     unfold vL
     rw [ZO (by omega)]
    rw [aG]
    simp only [KP,↓reduceIte,reduceEqDiff,reduceLT,g3,g6,g7,hlt,haddk]
    rw [v5]
    exact next _ _ ⟨rfl,(by simp +decide only [GS,g3,g4,Z5])⟩
  ·rintro F Y ⟨rfl,g3,g4,g6⟩
   have hlt:=d_ (ZT n)
   obtain ⟨v,e1,hv⟩:=F9 (ex:=false) (n:=n) (c:=wk m n) h
   rw [aG]
   simp only [KP,↓reduceIte,reduceEqDiff,reduceLT,g3,g4,g6,hlt,e1]
   exact hv
end
end
section
section
variable {E:Env} {Z:Sg} {K:V -> Sg -> Prop}
theorem E2 (h:bH E) {v:V} {n:Nat} {c:Nat -> Nat -> Bool} (iv:IS tI v (HV n c)) {i k:Nat} (hi:i < n) (hk:k < n):∃ g rv g2,indexAddr E 61 v (.int .i64 (i:Int)) = some (.cW g [rv]) /\ indexAddr E 99 rv (.int .i64 (k:Int)) = some (.cW g2 [.bool (c i k)]):=by
 obtain ⟨g,r,e1,rv,hr,irv⟩:=KF h iv (J1 hi)
 obtain ⟨g2,r2,e2,hr2⟩:=OX h irv (PS hk)
 exact ⟨g,rv,g2,by rw [e1,hr],by rw [e2,show r2 = [.bool (c i k)] from hr2]⟩
theorem zN (h:bH E) {n i:Nat} (hi:i < n):indexAddr E 109 (.sl 0 0 n none) (.int .i64 (i:Int)) = some (.ref 0 i):=by
 have hneg:¬ ((i:Int) < 0):=by omega
 unfold indexAddr
 simp only [hneg,ZK,h.My,h.mZ,b9,hi,ZP,an,k9]
theorem E9 (h:bH E) {Y:Sg} {bJ:List Int} {i:Nat} (hb:Y[0]? = some (O.cells 3 (bJ.map (V.int .i64)) true)) (hi:i < bJ.length):loadAt E Y 3 (.ref 0 i) = some (.int .i64 (eF bJ i)):=by
 unfold loadAt
 simp only [h.mZ,hb,Ax.isAgg,Z4,ZK,gp,AT hi,ZX]
 unfold eF
 rw [AT hi]; rfl
theorem FG (x:Int) (h1:-9223372036854775808 <= x) (h2:x <= 9223372036854775807):wr .i64 x = x:=by
 rw [yS,ZO]
 have h3:lo .i64 = -9223372036854775808:=rfl
 have h4:hi .i64 = 9223372036854775807:=rfl
 rw [h3,h4,Z3,IT,IT]
 exact ⟨h1,h2⟩
structure ZF (rs:List aC) (n first:Nat) (m:Nat -> Nat -> Bool) (bJ:List Int):Prop where
 cnt:rs.length = n
 le:n <= 64
 bJ:mB m n first (n + 1) 0 0 bJ
theorem PW {Y:Sg} {w:V} {l:List bC} {bJ:List Int} (hb:Y[0]? = some (O.cells 3 (bJ.map (V.int .i64)) true)) (ow:bA aO 9 Y w l):aQ w ≠ some 0:=by
 refine kX hb (by decide) ow
theorem Oi (h:bH E) {a vm:V} {rs:List aC} {n first:Nat} {m:Nat -> Nat -> Bool} {bJ:List Int} (t:ZF rs n first m bJ) (ia:IS eC a rs) (im:IS tI vm (HV n m)) {Y:Sg} {w:V} {l:List bC} {at_ left:Nat} (b0:Y[0]? = some (O.cells 3 (bJ.map (V.int .i64)) true)) (ow:bA aO 9 Y w l) (hl:l ≠ [] /\ l.length + left <= 100) (hat:at_ < n) (hle:0 < left -> ∃ k,k < n /\ m at_ k = true /\ eF bJ k = (left:Int))
  (F:FT) (g0:F.get 0 = a) (g3:F.get 3 = vm) (g7:F.get 7 = .sl 0 0 n none) (g14:F.get 14 = w) (g15:F.get 15 = .int .i64 (at_:Int)) (g16:F.get 16 = .int .i64 (left:Int))
  (hk:∀ Y w l,l ≠ [] -> bA aO 9 Y w l -> K w Y):R E (.loop (cutAt [1,1,1,1,1,1,1,1,1,1,1,1,1,1,0,1,2,2] (aA Tryz.f114).code)) [.blk 12,.k (cutAt [1,1,1,1,1,1,1,1,1,1,1,1,1,1,1] (aA Tryz.f114).code)] ⟨216,F⟩ Y (mE E (aA Tryz.f114).results K):=by
 have tn:=t.cnt
 have tl:=t.le
 have tfl:=t.bJ.len
 have la:=cV h ia
 rw [tn] at la
 have d44:=h.Q9
 simp only [aA,Tryz.f114,cutAt,Z9] at d44
 refine aV (fun i F Y=>Y[0]? = some (O.cells 3 (bJ.map (V.int .i64)) true) /\ F.get 0 = a /\ F.get 3 = vm /\ F.get 7 = .sl 0 0 n none /\ F.get 16 = .int .i64 ((left - i:Nat):Int) /\ (∃ w l,F.get 14 = w /\ bA aO 9 Y w l /\ l ≠ [] /\ l.length + (left - i) <= 100) /\ ∃ q:Nat,F.get 15 = .int .i64 (q:Int) /\ q < n /\ (0 < left - i -> ∃ k,k < n /\ m q k = true /\ eF bJ k = ((left - i:Nat):Int))) left ?_ ?_ left 0 _ _ (by omega) ⟨b0,g0,g3,g7,g16,⟨w,l,g14,ow,hl⟩,at_,g15,hat,hle⟩
 ·rintro i F Y hi ⟨b0,g0,g3,g7,g16,⟨w,l,g14,ow,hl1,hl2⟩,q,g15,hq,hex⟩ next
  obtain ⟨k0,hk0,hm0,hf0⟩:=hex (by omega)
  generalize hL:left - i = L at *
  have hgt:decide ((0:Int) < (L:Int)) = true:=BY (by omega)
  have hdn:=Dp L (by omega) (by omega)
  rw [aG]
  simp only [aA,Tryz.f114,KP,↓reduceIte,reduceLT,reduceNeg,cutAt,g16,hgt]
  refine aV (fun k F τ'=>τ' = Y /\ F.get 0 = a /\ F.get 3 = vm /\ F.get 7 = .sl 0 0 n none /\ F.get 14 = w /\ F.get 15 = .int .i64 (q:Int) /\ F.get 16 = .int .i64 (L:Int) /\ F.get 18 = .int .i64 (k:Int) /\ ∃ o:Option Nat,F.get 17 = .int .i64 (idx o) /\ ((o = none /\ ∀ j,j < k -> ¬ (m q j = true /\ eF bJ j = (L:Int))) \/ ∃ p,o = some p /\ p < n /\ m q p = true /\ eF bJ p = (L:Int))) n ?_ ?_ n 0 _ _ (by omega) ⟨rfl,(Ek (by simp +decide only [GS,g0,g3,g7,g14,g15,g16,Z5]) ⟨none,(by simp +decide only [GS,nD]),.inl ⟨rfl,fun j hj=>by omega⟩⟩)⟩
  ·rintro k F τ' hk ⟨rfl,g0,g3,g7,g14,g15,g16,g18,o,g17,ho⟩ next2
   have hlt:=dZ hk
   have hadd:=bY k (by omega)
   obtain ⟨u1,rv,u2,e1,e2⟩:=E2 h im hq hk
   have e3:=zN h hk
   have e4:=E9 h b0 (i:=k) (by omega)
   obtain ⟨rk,hrk⟩:∃ y,rs[k]? = some y:=⟨_,AT (by omega)⟩
   obtain ⟨v1,p1,p2,p3,p4,e5,-⟩:=fF h ia hrk
   rw [aG]
   cases c1:m q k with
   | false=>
    simp only [KP,↓reduceIte,reduceEqDiff,reduceLT,reduceCtorEq,reduceNeg,tS h,mG h,g0,g3,g15,g18,la,hlt,e1,e2,c1,hadd,aU d44,bM]
    refine next2 _ _ ⟨rfl,(Ek (by simp +decide only [GS,g0,g3,g7,g14,g15,g16,Z5]) ⟨o,(by simp +decide only [GS,g17]),ho.imp (fun ⟨h1,h2⟩=>⟨h1,fun j hj=>?_⟩) id⟩)⟩
    rcases ZZ j k with g | g
    ·exact h2 j g
    ·obtain rfl:j = k:=by omega
     rw [c1]; simp
   | true=>
    by_cases c2:eF bJ k = (L:Int)
    case neg=>
     have d2:decide (eF bJ k = (L:Int)) = false:=AS c2
     simp only [KP,↓reduceIte,reduceEqDiff,reduceLT,reduceCtorEq,reduceNeg,tS h,mG h,g0,g3,g7,g15,g16,g18,la,hlt,e1,e2,e3,e4,c1,d2,hadd,aU d44,bM]
     refine next2 _ _ ⟨rfl,(Ek (by simp +decide only [GS,g0,g3,g7,g14,g15,g16,Z5]) ⟨o,(by simp +decide only [GS,g17]),ho.imp (fun ⟨h1,h2⟩=>⟨h1,fun j hj=>?_⟩) id⟩)⟩
     rcases ZZ j k with g | g
     ·exact h2 j g
     ·obtain rfl:j = k:=by omega
      exact fun e=>c2 e.2
    have d2:decide (eF bJ k = (L:Int)) = true:=BY c2
    rcases ho with ⟨rfl,-⟩ | ⟨p,rfl,hp,hmp,hfp⟩
    ·simp only [KP,↓reduceIte,reduceEqDiff,reduceLT,reduceCtorEq,Int.reduceLT,reduceNeg,tS h,mG h,g0,g3,g7,g15,g16,g17,g18,la,hlt,e1,e2,e3,e4,c1,d2,hadd,nD,aU d44,bM]
     exact next2 _ _ ⟨rfl,(Ek (by simp +decide only [GS,g0,g3,g7,g14,g15,g16,Z5]) ⟨some k,(by simp +decide only [GS,eV]),.inr ⟨k,rfl,hk,c1,c2⟩⟩)⟩
    ·have c0:decide ((p:Int) < 0) = false:=AS (by omega)
     obtain ⟨rp,hrp⟩:∃ y,rs[p]? = some y:=⟨_,AT (by omega)⟩
     obtain ⟨v2,q1,q2,q3,q4,e6,-⟩:=fF h ia hrp
     cases c3:Ax.slt rk.name rp.name with
     | true=>
      simp only [KP,↓reduceIte,reduceEqDiff,reduceLT,reduceCtorEq,reduceNeg,tS h,rR h,mG h,h.dG,h.bK,g0,g3,g7,g15,g16,g17,g18,la,hlt,e1,e2,e3,e4,e5,e6,c1,d2,c0,c3,hadd,eV,aU d44,bM]
      exact next2 _ _ ⟨rfl,(Ek (by simp +decide only [GS,g0,g3,g7,g14,g15,g16,Z5]) ⟨some k,(by simp +decide only [GS,eV]),.inr ⟨k,rfl,hk,c1,c2⟩⟩)⟩
     | false=>
      simp only [KP,↓reduceIte,reduceEqDiff,reduceLT,reduceCtorEq,reduceNeg,tS h,rR h,mG h,h.dG,h.bK,g0,g3,g7,g15,g16,g17,g18,la,hlt,e1,e2,e3,e4,e5,e6,c1,d2,c0,c3,hadd,eV,aU d44,bM]
      exact next2 _ _ ⟨rfl,(Ek (by simp +decide only [GS,g0,g3,g7,g14,g15,g16,Z5]) ⟨some p,(by simp +decide only [GS,g17]),.inr ⟨p,rfl,hp,hmp,hfp⟩⟩)⟩
  ·rintro F τ' ⟨rfl,g0,g3,g7,g14,g15,g16,g18,o,g17,ho⟩
   have hlt:=d_ (ZT n)
   rcases ho with ⟨rfl,hno⟩ | ⟨p,rfl,hp,hmp,hfp⟩
   ·exact absurd ⟨hm0,hf0⟩ (hno k0 hk0)
   ·obtain ⟨rp,hrp⟩:∃ y,rs[p]? = some y:=⟨_,AT (by omega)⟩
    obtain ⟨v2,q1,q2,q3,q4,e6,-⟩:=fF h ia hrp
    obtain ⟨w2,τ2,ha2,o2,k2,n2⟩:=Fx (s:=rp.name) (ex:=true) h ow (by omega)
    rw [aG]
    simp only [KP,↓reduceIte,reduceEqDiff,reduceLT,reduceLeDiff,reduceMul,reduceCtorEq,reduceNeg,rR h,h.dG,h.a_,h.bK,g0,g14,g16,g17,g18,la,hlt,e6,eV,kP,ha2,hdn]
    clear hex
    have hLi:L - 1 = left - (i + 1):=by rw [<- hL,Nat.sub_sub]
    have b2:=k2 0 _ (aN b0) (PW b0 ow)
    refine next _ _ ⟨b2,(iU (by simp +decide only [GS,g0,g3,g7,Z5]) ⟨?_,⟨w2,_,(by simp +decide only [GS]),o2,by simp,?_⟩,p,(by simp +decide only [GS]),hp,fun hpos=>?_⟩)⟩
    ·rw [hLi]; exact (by simp +decide only [GS])
    ·simp only [Z7,Z0,ZN]; omega
    ·obtain ⟨e,he⟩:∃ e:Nat,L = e + 1:=⟨L - 1,by omega⟩
     obtain ⟨k',h1,h2,h3⟩:=t.bJ.down p e hp (by rw [hfp,he]; omega)
     exact ⟨k',h1,h2,by rw [h3]; omega⟩
 ·rintro F Y ⟨b0,g0,g3,g7,g16,⟨w,l,g14,ow,hl1,hl2⟩,-⟩
  rw [gz] at g16
  rw [aG]
  simp only [aA,Tryz.f114,KP,↓reduceIte,reduceEqDiff,reduceLT,Int.reduceLT,reduceNeg,cutAt,g16,g14]
  exact hk _ _ _ hl1 ow
end
end
section
section
variable {E:Env} {Z:Sg} {K:V -> Sg -> Prop}
theorem Ol (h:bH E) {a vm:V} {rs:List aC} {n first:Nat} {m:Nat -> Nat -> Bool} {bJ:List Int} (t:ZF rs n first m bJ) (ia:IS eC a rs) (im:IS tI vm (HV n m)) (hf:first < n) (hex:∃ k,k < n /\ m first k = true /\ 0 <= eF bJ k)
  (F:FT) (g0:F.get 0 = a) (g3:F.get 3 = vm) (g5:F.get 5 = .int .i64 (first:Int)) (g7:F.get 7 = .sl 0 0 n none)
  (hk:∀ Y w l,l ≠ [] -> bA aO 9 Y w l -> K w Y):R E (cutAt [1,1,1,1,1,1,1,1,1,1] (aA Tryz.f114).code) [] ⟨216,F⟩ [O.cells 3 (bJ.map (V.int .i64)) true] (mE E (aA Tryz.f114).results K):=by
 have tn:=t.cnt
 have tl:=t.le
 have tfl:=t.bJ.len
 have la:=cV h ia
 rw [tn] at la
 have b0:([O.cells 3 (bJ.map (V.int .i64)) true]:Sg)[0]? = some (O.cells 3 (bJ.map (V.int .i64)) true):=rfl
 have key:=fun Y w l at_ left b0 ow hl hat hle F g0 g3 g7 g14 g15 g16=>Oi (K:=K) h t ia im (Y:=Y) (w:=w) (l:=l) (at_:=at_) (left:=left) b0 ow hl hat hle F g0 g3 g7 g14 g15 g16 hk
 rw [show cutAt [1,1,1,1,1,1,1,1,1,1] (aA Tryz.f114).code = .seq (cutAt [1,1,1,1,1,1,1,1,1,1,0] (aA Tryz.f114).code) (.seq (.seq (cutAt [1,1,1,1,1,1,1,1,1,1,1,0,0] (aA Tryz.f114).code) (.block 10 (.loop (cutAt [1,1,1,1,1,1,1,1,1,1,1,0,1,2,2] (aA Tryz.f114).code)))) (.seq (cutAt [1,1,1,1,1,1,1,1,1,1,1,1,0] (aA Tryz.f114).code) (.seq (cutAt [1,1,1,1,1,1,1,1,1,1,1,1,1,0] (aA Tryz.f114).code) (.seq (.seq (cutAt [1,1,1,1,1,1,1,1,1,1,1,1,1,1,0,0] (aA Tryz.f114).code) (.block 12 (.loop (cutAt [1,1,1,1,1,1,1,1,1,1,1,1,1,1,0,1,2,2] (aA Tryz.f114).code)))) (cutAt [1,1,1,1,1,1,1,1,1,1,1,1,1,1,1] (aA Tryz.f114).code))))) from rfl]
 generalize cutAt [1,1,1,1,1,1,1,1,1,1,1,1,1,1,0,1,2,2] (aA Tryz.f114).code = D at *
 generalize cutAt [1,1,1,1,1,1,1,1,1,1,1,1,1,1,1] (aA Tryz.f114).code = C at *
 simp only [aA,Tryz.f114,KP,↓reduceIte,reduceLT,reduceNeg,cutAt]
 refine aV (fun k F Y=>Y = [O.cells 3 (bJ.map (V.int .i64)) true] /\ F.get 0 = a /\ F.get 3 = vm /\ F.get 5 = .int .i64 (first:Int) /\ F.get 7 = .sl 0 0 n none /\ F.get 13 = .int .i64 (k:Int) /\ ((F.get 12 = .int .i64 0 /\ ∀ j,j < k -> ¬ (m first j = true /\ 0 <= eF bJ j)) \/ ∃ (q e:Nat),F.get 12 = .int .i64 ((e + 1:Nat):Int) /\ q < n /\ m first q = true /\ eF bJ q = (e:Int))) n ?_ ?_ n 0 _ _ (by omega) ⟨rfl,(iJ (by simp +decide only [GS,g0,g3,g5,g7,Z5]) (.inl ⟨(by simp +decide only [GS]),fun j hj=>by omega⟩))⟩
 ·rintro k F Y hk2 ⟨rfl,g0,g3,g5,g7,g13,ho⟩ next
  have hlt:=dZ hk2
  have hadd:=bY k (by omega)
  obtain ⟨u1,rv,u2,e1,e2⟩:=E2 h im hf hk2
  have e3:=zN h hk2
  have e4:=E9 h b0 (i:=k) (by omega)
  rw [aG]
  have hno:¬ (m first k = true /\ 0 <= eF bJ k) -> ((F.get 12 = .int .i64 0 /\ ∀ j,j < k + 1 -> ¬ (m first j = true /\ 0 <= eF bJ j)) \/ ∃ (q e:Nat),F.get 12 = .int .i64 ((e + 1:Nat):Int) /\ q < n /\ m first q = true /\ eF bJ q = (e:Int)):=fun hn=>ho.imp (fun ⟨h1,h2⟩=>⟨h1,fun j hj=>by
   rcases ZZ j k with g | g
   ·exact h2 j g
   ·obtain rfl:j = k:=by omega
    exact hn⟩) id
  have tr:∀ {F':FT},F'.get 12 = F.get 12 -> ¬ (m first k = true /\ 0 <= eF bJ k) -> ((F'.get 12 = .int .i64 0 /\ ∀ j,j < k + 1 -> ¬ (m first j = true /\ 0 <= eF bJ j)) \/ ∃ (q e:Nat),F'.get 12 = .int .i64 ((e + 1:Nat):Int) /\ q < n /\ m first q = true /\ eF bJ q = (e:Int)):=fun hF hn=>by rw [hF]; exact hno hn
  cases c1:m first k with
  | false=>
   simp only [KP,↓reduceIte,reduceEqDiff,reduceLT,reduceCtorEq,tS h,mG h,g0,g3,g5,g13,la,hlt,e1,e2,c1,hadd]
   exact next _ _ ⟨rfl,(iJ (by simp +decide only [GS,g0,g3,g5,g7,Z5]) (tr (by simp +decide only [GS]) (fun e=>by rw [c1] at e; cases e.1)))⟩
  | true=>
   by_cases c2:0 <= eF bJ k
   case neg=>
    have d2:decide (0 <= eF bJ k) = false:=AS c2
    simp only [KP,↓reduceIte,reduceEqDiff,reduceLT,reduceCtorEq,tS h,mG h,g0,g3,g5,g7,g13,la,hlt,e1,e2,e3,e4,c1,d2,hadd]
    exact next _ _ ⟨rfl,(iJ (by simp +decide only [GS,g0,g3,g5,g7,Z5]) (tr (by simp +decide only [GS]) (fun e=>c2 e.2)))⟩
   obtain ⟨e,he⟩:=Int.eq_ofNat_of_zero_le c2
   have hsm:=t.bJ.small hk2
   have d2:decide ((0:Int) <= (e:Int)) = true:=BY (by omega)
   have hw:=bY e (by omega)
   rw [he] at e4
   rcases ho with ⟨g12,-⟩ | ⟨q,e',g12,hq,hm,hfq⟩
   ·simp only [KP,↓reduceIte,reduceEqDiff,reduceLT,reduceCtorEq,tS h,mG h,g0,g3,g5,g7,g13,g12,la,hlt,e1,e2,e3,e4,c1,hw,hadd]
    exact next _ _ ⟨rfl,(iJ (by simp +decide only [GS,g0,g3,g5,g7,Z5]) (.inr ⟨k,e,(by simp +decide only [GS]),hk2,c1,he⟩))⟩
   ·have d3:decide (((e' + 1:Nat):Int) = 0) = false:=AS (by omega)
    cases c3:decide (((e + 1:Nat):Int) < ((e' + 1:Nat):Int)) with
    | true=>
     simp only [KP,↓reduceIte,reduceEqDiff,reduceLT,reduceCtorEq,tS h,mG h,g0,g3,g5,g7,g13,g12,la,hlt,e1,e2,e3,e4,c1,d3,hw,c3,hadd]
     exact next _ _ ⟨rfl,(iJ (by simp +decide only [GS,g0,g3,g5,g7,Z5]) (.inr ⟨k,e,(by simp +decide only [GS]),hk2,c1,he⟩))⟩
    | false=>
     simp only [KP,↓reduceIte,reduceEqDiff,reduceLT,reduceCtorEq,tS h,mG h,g0,g3,g5,g7,g13,g12,la,hlt,e1,e2,e3,e4,c1,d3,hw,c3,hadd]
     exact next _ _ ⟨rfl,(iJ (by simp +decide only [GS,g0,g3,g5,g7,Z5]) (.inr ⟨q,e',(by simp +decide only [GS,g12]),hq,hm,hfq⟩))⟩
 ·rintro F Y ⟨rfl,g0,g3,g5,g7,g13,ho⟩
  have hlt:=d_ (ZT n)
  rcases ho with ⟨-,hno⟩ | ⟨q,e,g12,hq,hm,hfq⟩
  ·obtain ⟨k,h1,h2,h3⟩:=hex
   exact absurd ⟨h2,h3⟩ (hno k h1)
  ·have hsm:=t.bJ.small hq
   have hw:=Dp (e + 1) (by omega) (by omega)
   obtain ⟨rf,hrf⟩:∃ y,rs[first]? = some y:=⟨_,AT (by omega)⟩
   obtain ⟨v1,p1,p2,p3,p4,e5,-⟩:=fF h ia hrf
   rw [aG]
   simp only [KP,↓reduceIte,reduceEqDiff,reduceLT,reduceLeDiff,reduceMul,reduceCtorEq,rR h,h.dG,h.a_,h.bK,g0,g5,g13,g12,la,hlt,e5,kP,hw]
   refine key [O.cells 3 (bJ.map (V.int .i64)) true,.cells 9 [.str rf.name] true] (.sl 1 0 1 none) [rf.name] first e rfl (.inr ⟨1,[[.str rf.name]],true,rfl,rfl,.one rfl⟩) ⟨by simp,by simp only [Z0,ZN]; omega⟩ hf (fun _=>⟨q,hq,hm,hfq⟩) _ ?_ ?_ ?_ ?_ ?_ ?_
   ·exact (by simp +decide only [GS,g0])
   ·exact (by simp +decide only [GS,g3])
   ·exact (by simp +decide only [GS,g7])
   ·exact (by simp +decide only [GS])
   ·exact (by simp +decide only [GS])
   ·exact (by simp +decide only [GS,Nat.add_sub_cancel])
theorem Ij (h:bH E) {bJ:List Int} {i:Nat} {d:Int} (hi:i < bJ.length):storeAt E [O.cells 3 (bJ.map (V.int .i64)) true] 3 (.ref 0 i) (.int .i64 d) = some [O.cells 3 ((bJ.set i d).map (V.int .i64)) true]:=by
 unfold storeAt
 have h0:([O.cells 3 (bJ.map (V.int .i64)) true]:Sg)[0]? = some (O.cells 3 (bJ.map (V.int .i64)) true):=rfl
 simp only [h.mZ,h0]
 rw [ZO (by simp only [V.cells,V.aZ,Z0,ZN,dw,gy,ZS,jd,Z3,IT]; exact ⟨rfl,by omega⟩)]
 refine ZL some ?_
 show [O.cells 3 (setCells (bJ.map (V.int .i64)) i [V.int .i64 d]) true] = _
 have:setCells (bJ.map (V.int .i64)) i [V.int .i64 d] = (bJ.set i d).map (V.int .i64):=by
  unfold setCells
  rw [List.map_set,List.set_eq_take_append_cons_drop,ZO (by simpa using hi)]
  simp
 rw [this]
theorem Rb (h:bH E) {a vm:V} {rs:List aC} {n first:Nat} {m:Nat -> Nat -> Bool} (hn:rs.length = n) (hle:n <= 64) (ia:IS eC a rs) (im:IS tI vm (HV n m)) (hf:first < n) (hmn:∀ i j,m i j = true -> i < n /\ j < n) (hw:AxS.Way m first first) {bJ:List Int} (hfar:mB m n first 1 0 0 bJ)
  (F:FT) (g0:F.get 0 = a) (g3:F.get 3 = vm) (g5:F.get 5 = .int .i64 (first:Int)) (g7:F.get 7 = .sl 0 0 n none)
  (hk:∀ Y w l,l ≠ [] -> bA aO 9 Y w l -> K w Y):R E (cutAt [1,1,1,1,1,1,1,1,1] (aA Tryz.f114).code) [] ⟨216,F⟩ [O.cells 3 (bJ.map (V.int .i64)) true] (mE E (aA Tryz.f114).results K):=by
 have la:=cV h ia
 rw [hn] at la
 have key:=fun bJ (hfar:mB m n first (n + 1) 0 0 bJ) F g0 g3 g5 g7=>Ol (K:=K) h ⟨hn,hle,hfar⟩ ia im hf (hfar.first hmn hf hw) F g0 g3 g5 g7 hk
 rw [show cutAt [1,1,1,1,1,1,1,1,1] (aA Tryz.f114).code = .seq (cutAt [1,1,1,1,1,1,1,1,1,0] (aA Tryz.f114).code) (cutAt [1,1,1,1,1,1,1,1,1,1] (aA Tryz.f114).code) from rfl]
 generalize cutAt [1,1,1,1,1,1,1,1,1,1] (aA Tryz.f114).code = C at *
 simp only [aA,Tryz.f114,KP,↓reduceIte,reduceLT,reduceNeg,cutAt]
 refine aV (fun d F Y=>∃ bJ,Y = [O.cells 3 (bJ.map (V.int .i64)) true] /\ mB m n first (d + 1) 0 0 bJ /\ F.get 0 = a /\ F.get 3 = vm /\ F.get 5 = .int .i64 (first:Int) /\ F.get 7 = .sl 0 0 n none /\ F.get 9 = .int .i64 ((d + 1:Nat):Int)) n ?_ ?_ n 0 _ _ (by omega) ⟨bJ,rfl,hfar,(fE (by simp +decide only [GS,g0,g3,g5,g7,Z5]) (by simp +decide only [GS]; rfl))⟩
 ·rintro d F Y hd ⟨bJ,rfl,hfar,g0,g3,g5,g7,g9⟩ next
  have hle1:decide (((d + 1:Nat):Int) <= (n:Int)) = true:=BY (by omega)
  have haddd:=bY (d + 1) (by omega)
  have hsub:=Dp (d + 1) (by omega) (by omega)
  rw [aG]
  simp only [KP,↓reduceIte,reduceEqDiff,reduceLT,reduceCtorEq,g0,g9,la,hle1]
  refine aV (fun i F Y=>∃ bJ,Y = [O.cells 3 (bJ.map (V.int .i64)) true] /\ mB m n first (d + 1) i 0 bJ /\ F.get 0 = a /\ F.get 3 = vm /\ F.get 5 = .int .i64 (first:Int) /\ F.get 7 = .sl 0 0 n none /\ F.get 9 = .int .i64 ((d + 1:Nat):Int) /\ F.get 10 = .int .i64 (i:Int)) n ?_ ?_ n 0 _ _ (by omega) ⟨bJ,rfl,hfar,(by simp +decide only [GS,g0,g3,g5,g7,g9,Z5])⟩
  ·rintro i F Y hi ⟨bJ,rfl,hfar,g0,g3,g5,g7,g9,g10⟩ next2
   have hlt:=dZ hi
   have haddi:=bY i (by omega)
   rw [aG]
   simp only [KP,↓reduceIte,reduceEqDiff,reduceLT,reduceCtorEq,g0,g10,la,hlt]
   refine aV (fun k F Y=>∃ bJ,Y = [O.cells 3 (bJ.map (V.int .i64)) true] /\ mB m n first (d + 1) i k bJ /\ F.get 0 = a /\ F.get 3 = vm /\ F.get 5 = .int .i64 (first:Int) /\ F.get 7 = .sl 0 0 n none /\ F.get 9 = .int .i64 ((d + 1:Nat):Int) /\ F.get 10 = .int .i64 (i:Int) /\ F.get 11 = .int .i64 (k:Int)) n ?_ ?_ n 0 _ _ (by omega) ⟨bJ,rfl,hfar,(by simp +decide only [GS,g0,g3,g5,g7,g9,g10,Z5])⟩
   ·rintro k F Y hk2 ⟨bJ,rfl,hfar,g0,g3,g5,g7,g9,g10,g11⟩ next3
    have tfl:=hfar.len
    have b0:([O.cells 3 (bJ.map (V.int .i64)) true]:Sg)[0]? = some (O.cells 3 (bJ.map (V.int .i64)) true):=rfl
    have hlt:=dZ hk2
    have haddk:=bY k (by omega)
    obtain ⟨u1,rv,u2,e1,e2⟩:=E2 h im hi hk2
    have e3:=zN h hi
    have e4:=E9 h b0 (i:=i) (by omega)
    have e5:=zN h hk2
    have e6:=E9 h b0 (i:=k) (by omega)
    rw [aG]
    by_cases c0:eF bJ i < 0
    case neg=>
     have d0:decide (eF bJ i < 0) = false:=AS c0
     simp only [KP,↓reduceIte,reduceEqDiff,reduceLT,reduceCtorEq,g0,g7,g10,g11,la,hlt,e3,e4,d0,haddi]
     exact next2 _ _ ⟨bJ,rfl,hfar.next (.inr (by omega)) hi,(by simp +decide only [GS,g0,g3,g5,g7,g9,Z5])⟩
    have d0:decide (eF bJ i < 0) = true:=BY c0
    cases c1:m i k with
    | false=>
     simp only [KP,↓reduceIte,reduceEqDiff,reduceLT,reduceCtorEq,tS h,mG h,g0,g3,g7,g10,g11,la,hlt,e1,e2,e3,e4,d0,c1,haddk]
     exact next3 _ _ ⟨bJ,rfl,hfar.skip (fun e=>by rw [c1] at e; cases e.1),(by simp +decide only [GS,g0,g3,g5,g7,g9,g10,Z5])⟩
    | true=>
     by_cases c2:eF bJ k = (d:Int)
     ·have d2:decide (eF bJ k = ((d + 1 - 1:Nat):Int)) = true:=BY (by rw [c2]; rfl)
      have s1:=Ij h (bJ:=bJ) (i:=i) (d:=((d + 1:Nat):Int)) (by omega)
      simp only [KP,↓reduceIte,reduceEqDiff,reduceLT,reduceCtorEq,tS h,mG h,g0,g3,g7,g9,g10,g11,la,hlt,e1,e2,e3,e4,e5,e6,d0,c1,hsub,d2,s1,haddk]
      exact next3 _ _ ⟨_,rfl,hfar.put hi hk2 (by omega) c0 c1 (by rw [c2]; omega),(by simp +decide only [GS,g0,g3,g5,g7,g9,g10,Z5])⟩
     ·have d2:decide (eF bJ k = ((d + 1 - 1:Nat):Int)) = false:=AS (by rw [Nat.add_sub_cancel]; exact c2)
      simp only [KP,↓reduceIte,reduceEqDiff,reduceLT,reduceCtorEq,tS h,mG h,g0,g3,g7,g9,g10,g11,la,hlt,e1,e2,e3,e4,e5,e6,d0,c1,hsub,d2,haddk]
      exact next3 _ _ ⟨bJ,rfl,hfar.skip (fun e=>c2 (by rw [e.2]; omega)),(by simp +decide only [GS,g0,g3,g5,g7,g9,g10,Z5])⟩
   ·rintro F Y ⟨bJ,rfl,hfar,g0,g3,g5,g7,g9,g10,g11⟩
    have hlt:=d_ (ZT n)
    rw [aG]
    simp only [KP,↓reduceIte,reduceEqDiff,reduceLT,reduceCtorEq,g0,g10,g11,la,hlt,haddi]
    exact next2 _ _ ⟨bJ,rfl,hfar.next (.inl rfl) hi,(by simp +decide only [GS,g0,g3,g5,g7,g9,Z5])⟩
  ·rintro F Y ⟨bJ,rfl,hfar,g0,g3,g5,g7,g9,g10⟩
   have hlt:=d_ (ZT n)
   rw [aG]
   simp only [KP,↓reduceIte,reduceEqDiff,reduceLT,reduceCtorEq,g0,g9,g10,la,hlt,haddd]
   exact next _ _ ⟨bJ,rfl,hfar.round,(by simp +decide only [GS,g0,g3,g5,g7,Z5])⟩
 ·rintro F Y ⟨bJ,rfl,hfar,g0,g3,g5,g7,g9⟩
  have hle1:decide (((n + 1:Nat):Int) <= (n:Int)) = false:=AS (by omega)
  rw [aG]
  simp only [KP,↓reduceIte,reduceEqDiff,reduceLT,reduceCtorEq,g0,g9,la,hle1]
  refine key bJ hfar _ ?_ ?_ ?_ ?_
  ·exact (by simp +decide only [GS,g0])
  ·exact (by simp +decide only [GS,g3])
  ·exact (by simp +decide only [GS,g5])
  ·exact (by simp +decide only [GS,g7])
end
end
section
section
variable {E:Env} {Z:Sg} {K:V -> Sg -> Prop}
theorem Na (n:Nat):iA n [V.int .i64 0] = (List.replicate n (0:Int)).map (V.int .i64):=by
 induction n with
 | zero=>rfl
 | succ n ih=>rw [iA,ih]; rfl
theorem PM {n i:Nat} (hi:i < n):(List.replicate i (-1:Int) ++ List.replicate (n - i) 0).set i (-1) = List.replicate (i + 1) (-1) ++ List.replicate (n - (i + 1)) 0:=by
 obtain ⟨d,rfl⟩:∃ d,n = i + (d + 1):=⟨n - i - 1,by omega⟩
 rw [js _ _ (by simp),List.length_replicate,gz,show i + (d + 1) - i = d + 1 by omega,List.replicate_succ,ij,show i + (d + 1) - (i + 1) = d by omega,List.replicate_succ']
 simp
theorem Oj (h:bH E) {a vm:V} {rs:List aC} {n:Nat} {m:Nat -> Nat -> Bool} (hn:rs.length = n) (hle:n <= 64) (ia:IS eC a rs) (im:IS tI vm (HV n m)) (hmn:∀ i j,m i j = true -> i < n /\ j < n) {o:Option Nat} (ho:∀ f,o = some f -> f < n /\ AxS.Way m f f)
  (F:FT) (g0:F.get 0 = a) (g3:F.get 3 = vm) (g5:F.get 5 = .int .i64 (idx o))
  (hk:o ≠ none -> ∀ Y w l,l ≠ [] -> bA aO 9 Y w l -> K w Y) (hk0:o = none -> K .aD []):R E (cutAt [1,1,1,1,1] (aA Tryz.f114).code) [] ⟨216,F⟩ [] (mE E (aA Tryz.f114).results K):=by
 have la:=cV h ia
 rw [hn] at la
 cases o with
 | none=>
  simp only [aA,Tryz.f114,KP,↓reduceIte,reduceLT,Int.reduceLT,reduceNeg,cutAt,g5,nD]
  exact hk0 rfl
 | some first=>
  obtain ⟨hf,hw⟩:=ho first rfl
  have key:=fun bJ hfar F g0 g3 g5 g7=>Rb (K:=K) h hn hle ia im hf hmn hw (bJ:=bJ) hfar F g0 g3 g5 g7 (hk (by simp))
  have c0:decide ((first:Int) < 0) = false:=AS (by omega)
  have c2:decide ((n:Int) * ((8:Nat):Int) <= 1099511627776) = true:=BY (by omega)
  have c3:decide ((n:Int) <= 1099511627776) = true:=BY (by omega)
  have lf:∀ Z,lenOf E Z 109 (.sl 0 0 n none) = some n:=fun Z=>by unfold lenOf; rw [h.My]
  rw [show cutAt [1,1,1,1,1] (aA Tryz.f114).code = .seq (cutAt [1,1,1,1,1,0] (aA Tryz.f114).code) (.seq (cutAt [1,1,1,1,1,1,0] (aA Tryz.f114).code) (.seq (cutAt [1,1,1,1,1,1,1,0] (aA Tryz.f114).code) (.seq (cutAt [1,1,1,1,1,1,1,1,0] (aA Tryz.f114).code) (cutAt [1,1,1,1,1,1,1,1,1] (aA Tryz.f114).code)))) from rfl]
  generalize cutAt [1,1,1,1,1,1,1,1,1] (aA Tryz.f114).code = C at *
  simp only [aA,Tryz.f114,KP,↓reduceIte,reduceLT,reduceCtorEq,reduceNeg,h.mZ,h.My,cutAt,g0,g5,eV,c0,la,c2,c3,b9,Int.le_refl,Na,lf]
  refine aV (fun i F Y=>∃ bJ,Y = [O.cells 3 (bJ.map (V.int .i64)) true] /\ bJ = List.replicate i (-1) ++ List.replicate (n - i) 0 /\ F.get 0 = a /\ F.get 3 = vm /\ F.get 5 = .int .i64 (first:Int) /\ F.get 7 = .sl 0 0 n none /\ F.get 60 = .int .i64 (n:Int) /\ F.get 61 = .int .i64 (i:Int)) n ?_ ?_ n 0 _ _ (by omega) ⟨_,rfl,by simp,(by simp +decide only [GS,g0,g3,g5,eV,Z5])⟩
  ·rintro i F Y hi ⟨bJ,rfl,hfar,g0,g3,g5,g7,g60,g61⟩ next
   have hlt:=dZ hi
   have hadd:=bY i (by omega)
   have hfl:bJ.length = n:=by rw [hfar]; simp; omega
   have e1:=zN h hi
   have s1:=Ij h (bJ:=bJ) (i:=i) (d:=-1) (by omega)
   rw [aG]
   simp only [KP,↓reduceIte,reduceEqDiff,reduceLT,reduceNeg,g7,g60,g61,hlt,e1,s1,hadd]
   exact next _ _ ⟨_,rfl,by rw [hfar,PM hi],(by simp +decide only [GS,g0,g3,g5,g7,g60,Z5])⟩
  ·rintro F Y ⟨bJ,rfl,hfar,g0,g3,g5,g7,g60,g61⟩
   have hlt:=d_ (ZT n)
   have hfar:bJ = List.replicate n (-1):=by rw [hfar]; simp
   have e1:=zN h hf
   have s1:=Ij h (bJ:=bJ) (i:=first) (d:=0) (by rw [hfar]; simpa using hf)
   rw [aG]
   simp only [KP,↓reduceIte,reduceEqDiff,reduceLT,reduceNeg,g5,g7,g60,g61,hlt,e1,s1]
   refine key (bJ.set first 0) ?_ _ ?_ ?_ ?_ ?_
   ·rw [hfar]; exact mB.init hf
   ·exact (by simp +decide only [GS,g0])
   ·exact (by simp +decide only [GS,g3])
   ·exact (by simp +decide only [GS,g5])
   ·exact (by simp +decide only [GS,g7])
theorem Nu {rs:List aC} {d:Bool}:∀ i j,iE rs d i j = true -> i < rs.length /\ j < rs.length:=by
 intro i j hij
 unfold iE at hij
 split at hij
 ·rename_i r hr
  refine ⟨(AI.1 hr).1,?_⟩
  unfold uO at hij
  rw [bz] at hij
  rcases hij with hij | hij
  ·obtain ⟨f,_,hf⟩:=bp.1 hij
   exact Cb (bf hf)
  ·rw [Z3] at hij
   obtain ⟨f,_,hf⟩:=bp.1 hij.2
   exact DE (bf hf)
 ·cases hij
theorem Rc (h:bH E) {a:V} {rs:List aC} (hs:wO rs) (ia:IS eC a rs) (F:FT) (g0:F.get 0 = a)
  (hk:(∃ i,i < rs.length /\ AxS.Way (iE rs false) i i) -> ∀ Y w l,l ≠ [] -> bA aO 9 Y w l -> K w Y) (hk0:(∀ i,i < rs.length -> ¬ AxS.Way (iE rs false) i i) -> K .aD []):R E (aA Tryz.f114).code [] ⟨216,F⟩ [] (mE E (aA Tryz.f114).results K):=by
 have la:=cV h ia
 have hle:=hs.len
 have hmn:=Nu (rs:=rs) (d:=false)
 have bn:=Rw (Z:=[]) h (a:=a) (ia.ls [] 46) hs false
 generalize hm:iE rs false = m at *
 generalize hn:rs.length = n at *
 have key:=fun vm (im:IS tI vm (HV n m)) o ho F g0 g3 g5 hk hk0=>Oj (K:=K) h hn hle ia im hmn (o:=o) ho F g0 g3 g5 hk hk0
 have d7:=h.Uf
 simp only [aA,Tryz.f114,cutAt,Z9] at d7
 rw [show (aA Tryz.f114).code = .seq (cutAt [0] (aA Tryz.f114).code) (.seq (cutAt [1,0] (aA Tryz.f114).code) (.seq (cutAt [1,1,0] (aA Tryz.f114).code) (.seq (cutAt [1,1,1,0] (aA Tryz.f114).code) (.seq (cutAt [1,1,1,1,0] (aA Tryz.f114).code) (cutAt [1,1,1,1,1] (aA Tryz.f114).code))))) from rfl]
 generalize cutAt [1,1,1,1,1] (aA Tryz.f114).code = C at *
 simp only [aA,Tryz.f114,KP,↓reduceIte,reduceLT,reduceCtorEq,reduceNeg,cutAt,g0]
 refine aP bn ?_
 rintro vm σ' ⟨rfl,im⟩
 simp only [KP,↓reduceIte,reduceLT,reduceNeg]
 refine aP (OO (Z:=[]) h hle im.is) ?_
 rintro vc σ' ⟨rfl,ic⟩
 have im:=im.is
 have ic:=ic.is
 simp only [KP,↓reduceIte,reduceLT,reduceNeg]
 refine aV (fun i F Y=>Y = [] /\ F.get 0 = a /\ F.get 3 = vm /\ F.get 4 = vc /\ F.get 6 = .int .i64 (i:Int) /\ ∃ o:Option Nat,F.get 5 = .int .i64 (idx o) /\ ((o = none /\ ∀ j,j < i -> wk m n j j = false) \/ ∃ f,o = some f /\ f < n /\ wk m n f f = true)) n ?_ ?_ n 0 _ _ (by omega) ⟨rfl,(fE (by simp +decide only [GS,g0,Z5]) ⟨none,(by simp +decide only [GS,nD]),.inl ⟨rfl,fun j hj=>by omega⟩⟩)⟩
 ·rintro i F Y hi ⟨rfl,g0,g3,g4,g6,o,g5,ho⟩ next
  have hlt:=dZ hi
  have hadd:=bY i (by omega)
  obtain ⟨u1,rv,u2,e1,e2⟩:=E2 h ic hi hi
  obtain ⟨ri,hri⟩:∃ y,rs[i]? = some y:=⟨_,AT (by omega)⟩
  obtain ⟨v1,p1,p2,p3,p4,e3,-⟩:=fF h ia hri
  rw [aG]
  cases c1:wk m n i i with
  | false=>
   simp only [KP,↓reduceIte,reduceEqDiff,reduceLT,reduceCtorEq,tS h,mG h,g0,g4,g6,la,hlt,e1,e2,c1,hadd,aU d7,bM]
   refine next _ _ ⟨rfl,(fE (by simp +decide only [GS,g0,g3,g4,Z5]) ⟨o,(by simp +decide only [GS,g5]),ho.imp (fun ⟨h1,h2⟩=>⟨h1,fun j hj=>?_⟩) id⟩)⟩
   rcases ZZ j i with g | g
   ·exact h2 j g
   ·obtain rfl:j = i:=by omega
    exact c1
  | true=>
   rcases ho with ⟨rfl,-⟩ | ⟨f,rfl,hf,hwf⟩
   ·simp only [KP,↓reduceIte,reduceEqDiff,reduceLT,reduceCtorEq,Int.reduceLT,reduceNeg,tS h,mG h,g0,g4,g5,g6,la,hlt,e1,e2,c1,nD,hadd,aU d7,bM]
    exact next _ _ ⟨rfl,(fE (by simp +decide only [GS,g0,g3,g4,Z5]) ⟨some i,(by simp +decide only [GS,eV]),.inr ⟨i,rfl,hi,c1⟩⟩)⟩
   ·have c0:decide ((f:Int) < 0) = false:=AS (by omega)
    obtain ⟨rf,hrf⟩:∃ y,rs[f]? = some y:=⟨_,AT (by omega)⟩
    obtain ⟨v2,q1,q2,q3,q4,e4,-⟩:=fF h ia hrf
    cases c3:Ax.slt ri.name rf.name with
    | true=>
     simp only [KP,↓reduceIte,reduceEqDiff,reduceLT,reduceCtorEq,tS h,rR h,mG h,h.dG,h.bK,g0,g4,g5,g6,la,hlt,e1,e2,e3,e4,c1,c0,c3,eV,hadd,aU d7,bM]
     exact next _ _ ⟨rfl,(fE (by simp +decide only [GS,g0,g3,g4,Z5]) ⟨some i,(by simp +decide only [GS,eV]),.inr ⟨i,rfl,hi,c1⟩⟩)⟩
    | false=>
     simp only [KP,↓reduceIte,reduceEqDiff,reduceLT,reduceCtorEq,tS h,rR h,mG h,h.dG,h.bK,g0,g4,g5,g6,la,hlt,e1,e2,e3,e4,c1,c0,c3,eV,hadd,aU d7,bM]
     exact next _ _ ⟨rfl,(fE (by simp +decide only [GS,g0,g3,g4,Z5]) ⟨some f,(by simp +decide only [GS,g5]),.inr ⟨f,rfl,hf,hwf⟩⟩)⟩
 ·rintro F Y ⟨rfl,g0,g3,g4,g6,o,g5,ho⟩
  have hlt:=d_ (ZT n)
  rw [aG]
  simp only [KP,↓reduceIte,reduceEqDiff,reduceLT,reduceCtorEq,g0,g6,la,hlt]
  refine key vm im o (fun f hf=>?_) _ ?_ ?_ ?_ (fun ho2=>hk ?_) (fun ho2=>hk0 fun i hi hw=>?_)
  ·rcases ho with ⟨e,-⟩ | ⟨f',e,h1,h2⟩
   ·rw [e] at hf; cases hf
   ·rw [e] at hf; cases hf; exact ⟨h1,Bq h2⟩
  ·exact (by simp +decide only [GS,g0])
  ·exact (by simp +decide only [GS,g3])
  ·exact (by simp +decide only [GS,g5])
  ·rcases ho with ⟨e,-⟩ | ⟨f',e,h1,h2⟩
   ·exact absurd e ho2
   ·exact ⟨f',h1,Bq h2⟩
  ·rcases ho with ⟨-,h1⟩ | ⟨f',e,-⟩
   ·have:=Sm hmn hw
    rw [h1 i hi] at this; cases this
   ·rw [e] at ho2; cases ho2
theorem I_ (h:bH E) {a:V} {rs:List aC} (ha:LS eC 46 Z a rs) (hs:wO rs):aB E 114 [a] Z fun v σ'=>σ' = Z /\ ∃ l,jT aO v l /\ ((l ≠ [] /\ ∃ i,i < rs.length /\ AxS.Way (iE rs false) i i) \/ (l = [] /\ ∀ i,i < rs.length -> ¬ AxS.Way (iE rs false) i i)):=by
 obtain ⟨a',ea,ia⟩:=eX h ha
 rw [aH h.Yf h.VF h.Y3 h.Xk (args':=[a']) (by simp only [aW,ea]),aX (by kernel_rfl)]
 refine Rc h hs ia _ (by simp +decide only [GS]) (fun hc Y w l hl ow=>?_) fun hc=>?_
 ·obtain ⟨v',e1,hv⟩:=oI h.dG rfl (fun r x hr c hc=>by rw [show r = [.str x] from hr] at hc; cases hc with | head=>rfl | tail _ h=>cases h) ow
  show (match cK Y E.ty false w with
   | some v=>(fun v σ'=>σ' = Z /\ ∃ l,jT aO v l /\ ((l ≠ [] /\ ∃ i,i < rs.length /\ AxS.Way (iE rs false) i i) \/ (l = [] /\ ∀ i,i < rs.length -> ¬ AxS.Way (iE rs false) i i))) v Z
   | none=>False)
  rw [e1]
  exact ⟨rfl,l,hv,.inl ⟨hl,hc⟩⟩
 ·exact ⟨rfl,[],.inl ⟨rfl,rfl⟩,.inr ⟨rfl,hc⟩⟩
end
end
section
section
variable {E:Env} {Z:Sg} {K:V -> Sg -> Prop}
theorem M7 {x:aC} {a b c d:V} (h1:IS aO a x.ins) (h2:IS aO b x.outs) (h3:IS aO c x.after) (h4:IS eZ d x.steps):HN (.agg [.str x.name,a,b,c,d]) x:=⟨a,b,c,d,rfl,h1,h2,h3,h4⟩
theorem zW {rs:List aC} {i:Nat} {r:aC} (hr:rs[i]? = some r) (h:bB r ≠ 0) (hp:∀ (j:Nat) (s:aC),j < i -> rs[j]? = some s -> bB s = 0):gG rs = bB r:=by
 have:rs.find? (fun r=>decide (bB r ≠ 0)) = some r:=by
  rw [List.find?_eq_some_iff_getElem]
  refine ⟨BY h,i,(AI.1 hr).1,(AI.1 hr).2,fun j hj=>?_⟩
  have hjl:j < rs.length:=by have:=(AI.1 hr).1; omega
  simpa using hp j _ hj (AT hjl)
 unfold gG
 rw [this]
theorem yC {rs:List aC} (hp:∀ (j:Nat) (s:aC),rs[j]? = some s -> bB s = 0):gG rs = if 40 < rs.length then 4 else if sH rs = true then 2 else if gM rs = true then 2 else 0:=by
 have:rs.find? (fun r=>decide (bB r ≠ 0)) = none:=by
  rw [jc]
  intro x hx
  obtain ⟨j,hj,e⟩:=bu hx
  simpa using hp j x (by rw [AT hj,e])
 unfold gG
 rw [this]
theorem UB (h:bH E) {a:V} {rs:List aC} (hs:wO rs) (ia:IS eC a rs) (hp0:∀ (j:Nat) (s:aC),rs[j]? = some s -> bB s = 0) (h40:¬ 40 < rs.length) (hcl:sH rs = false) (F:FT) (g0:F.get 0 = a) (hk:∀ e nm,HQ rs e -> K (.gB [.int .i64 e,.str nm]) []):R E (cutAt [1,1,1,1] (aA Tryz.f60).code) [] ⟨110,F⟩ [] (mE E (aA Tryz.f60).results K):=by
 have la:=cV h ia
 have bc:=I_ (Z:=[]) h (a:=a) (ia.ls [] 46) hs
 have hE:=yC hp0
 rw [ZM h40,ZM (by rw [hcl]; simp)] at hE
 have d27:=h.T7
 simp only [aA,Tryz.f60,cutAt,Z9] at d27
 have d31:=h.T6
 simp only [aA,Tryz.f60,cutAt,Z9] at d31
 rw [show cutAt [1,1,1,1] (aA Tryz.f60).code = .seq (.seq (cutAt [1,1,1,1,0,0] (aA Tryz.f60).code) (.block 6 (.loop (cutAt [1,1,1,1,0,1,2,2] (aA Tryz.f60).code)))) (cutAt [1,1,1,1,1] (aA Tryz.f60).code) from rfl]
 have key:gM rs = false -> ∀ F:FT,F.get 0 = a -> R E (cutAt [1,1,1,1,1] (aA Tryz.f60).code) [] ⟨110,F⟩ [] (mE E (aA Tryz.f60).results K):=fun hst F g0=>by
  rw [ZM (by rw [hst]; simp)] at hE
  simp only [aA,Tryz.f60,KP,↓reduceIte,reduceLT,cutAt,g0]
  refine aP bc ?_
  rintro v σ' ⟨rfl,l,il,hl⟩
  have il:=il.is
  have ll:=bP h il
  rcases hl with ⟨hl,hring⟩ | ⟨rfl,hring⟩
  ·obtain ⟨y,r,rfl⟩:=jr hl
   obtain ⟨g,e1⟩:=gI h il (i:=0) (x:=y) rfl
   have e1:indexAddr E 24 v (.int .i64 0) = some (.cW g [.str y]):=e1
   have c0:decide ((0:Int) < ((r.length + 1:Nat):Int)) = true:=BY (by omega)
   simp only [KP,↓reduceIte,reduceEqDiff,reduceLT,rR h,ll,c0,e1,aU d31,bM]
   exact hk 3 y (.inr ⟨hE,.inl ⟨hring,rfl⟩⟩)
  ·have c0:decide ((0:Int) < ((([]:List bC).length:Nat):Int)) = false:=rfl
   simp only [KP,↓reduceIte,reduceEqDiff,reduceLT,Int.reduceLT,lB,ll]
   exact hk 0 [] (.inr ⟨hE,.inr ⟨fun ⟨i,h1,h2⟩=>hring i h1 h2,rfl⟩⟩)
 generalize cutAt [1,1,1,1,1] (aA Tryz.f60).code = C at *
 simp only [aA,Tryz.f60,KP,↓reduceIte,reduceLT,cutAt]
 refine aV (fun i F Y=>Y = [] /\ F.get 0 = a /\ F.get 10 = .int .i64 (i:Int) /\ ∀ j s,j < i -> rs[j]? = some s -> ∀ m ∈ s.after,fT rs m ≠ none) rs.length ?_ ?_ rs.length 0 _ _ (by omega) ⟨rfl,(lH (by simp +decide only [GS,g0,Z5]) (fun j s hj=>by omega))⟩
 ·rintro i F Y hi ⟨rfl,g0,g10,hp⟩ next
  obtain ⟨r,hr⟩:∃ y,rs[i]? = some y:=⟨_,AT hi⟩
  have a3:=(hs.all r (Z2 hr)).after
  obtain ⟨g,p1,p2,p3,p4,e1,i1,i2,i3,i4⟩:=fF h ia hr
  have l3:=bP h i3
  have hlt:=dZ hi
  have hadd:=bY i (by omega)
  rw [aG]
  simp only [KP,↓reduceIte,reduceEqDiff,reduceLT,reduceCtorEq,J8 h,h.a_,h.bK,g0,g10,la,hlt,e1,l3]
  refine aV (fun j F Y=>Y = [] /\ F.get 0 = a /\ F.get 10 = .int .i64 (i:Int) /\ F.get 86 = p3 /\ F.get 87 = .int .i64 (r.after.length:Int) /\ F.get 88 = .int .i64 (j:Int) /\ ∀ q m,q < j -> r.after[q]? = some m -> fT rs m ≠ none) r.after.length ?_ ?_ r.after.length 0 _ _ (by omega) ⟨rfl,(iJ (by simp +decide only [GS,g0,g10,Z5]) (fun q m hq=>by omega))⟩
  ·rintro j F Y hj ⟨rfl,g0,g10,g86,g87,g88,hq⟩ next2
   obtain ⟨m,hm⟩:∃ y,r.after[j]? = some y:=⟨_,AT hj⟩
   obtain ⟨g,e2⟩:=gI h i3 hm
   have hlt2:=dZ hj
   have hadd2:=bY j (by omega)
   have km:=TR (Z:=[]) h (s:=m) (ia.ls _ 46) (by omega)
   rw [aG]
   cases hat:fT rs m with
   | none=>
    simp only [KP,↓reduceIte,reduceEqDiff,reduceLT,reduceCtorEq,Int.reduceLT,reduceNeg,rR h,h.dG,h.bK,g0,g10,g86,g87,g88,hlt2,e1,e2,km,hat,nD,aU d27,bM]
    refine hk 2 _ (.inl ?_)
    have hst:gM rs = true:=by
     unfold gM
     rw [bp]
     exact ⟨r,Z2 hr,bp.2 ⟨m,Z2 hm,BY hat⟩⟩
    rw [ZO hst] at hE
    rw [hE]
    exact ⟨by decide,rfl⟩
   | some k=>
    have c0:decide ((k:Int) < 0) = false:=AS (by omega)
    simp only [KP,↓reduceIte,reduceEqDiff,reduceLT,reduceCtorEq,rR h,g0,g86,g87,g88,hlt2,e2,km,hat,eV,c0,hadd2]
    refine next2 _ _ ⟨rfl,(iJ (by simp +decide only [GS,g0,g10,g86,g87,Z5]) (fun q m' hq2 hm'=>?_))⟩
    rcases ZZ q j with g | g
    ·exact hq q m' g hm'
    ·obtain rfl:q = j:=by omega
     rw [hm] at hm'; cases hm'; rw [hat]; simp
  ·rintro F Y ⟨rfl,g0,g10,g86,g87,g88,hq⟩
   have hlt2:=d_ (ZT r.after.length)
   rw [aG]
   simp only [KP,↓reduceIte,reduceEqDiff,reduceLT,g10,g87,g88,hlt2,hadd]
   refine next _ _ ⟨rfl,(lH (by simp +decide only [GS,g0,Z5]) (fun j s hj hs2 m hm=>?_))⟩
   rcases ZZ j i with g | g
   ·exact hp j s g hs2 m hm
   ·obtain rfl:j = i:=by omega
    rw [hr] at hs2; cases hs2
    obtain ⟨q,hq2,e⟩:=bu hm
    exact hq q m hq2 (by rw [AT hq2,e])
 ·rintro F Y ⟨rfl,g0,g10,hp⟩
  have hlt:=d_ (ZT rs.length)
  rw [aG]
  simp only [KP,↓reduceIte,reduceEqDiff,reduceLT,reduceCtorEq,g0,g10,la,hlt]
  refine key ?_ _ (by simp +decide only [GS,g0])
  unfold gM
  rw [jh]
  intro s hs2
  rw [bp]
  rintro ⟨m,hm,e⟩
  obtain ⟨j,hj,e2⟩:=bu hs2
  exact hp j s hj (by rw [AT hj,e2]) m hm (bf e)
theorem LY {rs:List aC} {i:Nat} {r:aC} (hr:rs[i]? = some r):n_ rs i = (decide (∃ k,fT rs r.name = some k /\ k < i) || r.outs.any fun o=>decide (∃ k,fD rs o = some k /\ k < i)):=by
 have first_lt:∀ (p:aC -> Bool) (rs:List aC) (i:Nat),(∃ k,bQ p rs = some k /\ k < i) ↔ ∃ q ∈ rs.take i,p q = true:=by
  intro p rs
  induction rs with
  | nil=>intro i; simp [bQ]
  | cons r rs ih=>
   intro i
   rw [bQ]
   by_cases hp:p r = true
   ·rw [ZO hp]
    cases i with
    | zero=>simp
    | succ i=>simp [hp]
   ·rw [ZM hp]
    cases i with
    | zero=>simp
    | succ i=>
     rw [List.take_succ_cons]
     simp only [By,Option.map_eq_some_iff]
     constructor
     ·rintro ⟨k,⟨k',h1,rfl⟩,h2⟩
      obtain ⟨q,hq,hpq⟩:=(ih i).1 ⟨k',h1,by omega⟩
      exact ⟨q,.inr hq,hpq⟩
     ·rintro ⟨q,rfl | hq,hpq⟩
      ·exact absurd hpq hp
      ·obtain ⟨k,h1,h2⟩:=(ih i).2 ⟨q,hq,hpq⟩
       exact ⟨k + 1,⟨k,h1,rfl⟩,by omega⟩
 unfold n_ fT fD
 rw [hr]
 rw [b8]
 simp only [bp,bz,IT,first_lt]
 constructor
 ·rintro ⟨q,hq,h1 | ⟨o,ho,h2⟩⟩
  ·exact .inl ⟨q,hq,h1⟩
  ·exact .inr ⟨o,ho,q,hq,h2⟩
 ·rintro (⟨q,hq,h1⟩ | ⟨o,ho,q,hq,h2⟩)
  ·exact ⟨q,hq,.inl h1⟩
  ·exact ⟨q,hq,.inr ⟨o,ho,h2⟩⟩
theorem nF {α:Type} {p:α -> Bool} {l:List α} {x:α} (hx:x ∈ l) (hp:p x = true):∃ k,bQ p l = some k:=by
 cases h:bQ p l with
 | some k=>exact ⟨k,rfl⟩
 | none=>
  have h2:(bQ p l).isSome = true:=by rw [cB,bp]; exact ⟨x,hx,hp⟩
  rw [h] at h2; cases h2
theorem UC (h:bH E) {a:V} {rs:List aC} (hs:wO rs) (ia:IS eC a rs) (hp0:∀ (j:Nat) (s:aC),rs[j]? = some s -> bB s = 0) (h40:¬ 40 < rs.length) (F:FT) (g0:F.get 0 = a) (hk:∀ e nm,HQ rs e -> K (.gB [.int .i64 e,.str nm]) []):R E (cutAt [1,1,1] (aA Tryz.f60).code) [] ⟨110,F⟩ [] (mE E (aA Tryz.f60).results K):=by
 have la:=cV h ia
 have hE:=yC hp0
 have hmem:∀ x ∈ rs,x.outs.length <= 4294967296:=fun x hx=>by have:=(hs.all x hx).outs; omega
 rw [ZM h40] at hE
 have d19:=h.T8
 simp only [aA,Tryz.f60,cutAt,Z9] at d19
 have key:=fun hcl F g0=>UB (K:=K) h hs ia hp0 h40 hcl F g0 hk
 rw [show cutAt [1,1,1] (aA Tryz.f60).code = .seq (.seq (cutAt [1,1,1,0,0] (aA Tryz.f60).code) (.block 2 (.loop (cutAt [1,1,1,0,1,2,2] (aA Tryz.f60).code)))) (cutAt [1,1,1,1] (aA Tryz.f60).code) from rfl]
 generalize cutAt [1,1,1,1] (aA Tryz.f60).code = C at *
 simp only [aA,Tryz.f60,KP,↓reduceIte,reduceLT,cutAt]
 refine aV (fun i F Y=>Y = [] /\ F.get 0 = a /\ F.get 6 = .int .i64 (i:Int) /\ ∀ j,j < i -> n_ rs j = false) rs.length ?_ ?_ rs.length 0 _ _ (by omega) ⟨rfl,(lH (by simp +decide only [GS,g0,Z5]) (fun j hj=>by omega))⟩
 ·rintro i F Y hi ⟨rfl,g0,g6,hp⟩ next
  obtain ⟨r,hr⟩:∃ y,rs[i]? = some y:=⟨_,AT hi⟩
  have hrm:=Z2 hr
  have a3:=(hs.all r hrm).outs
  obtain ⟨g,p1,p2,p3,p4,e1,i1,i2,i3,i4⟩:=fF h ia hr
  have l2:=bP h i2
  have hlt:=dZ hi
  have hadd:=bY i (by omega)
  obtain ⟨k1,hk1⟩:=nF (p:=fun q:aC=>decide (q.name = r.name)) hrm (BY rfl)
  have hk1:fT rs r.name = some k1:=hk1
  have km:=TR (Z:=[]) h (s:=r.name) (ia.ls _ 46) (by omega)
  have hcl:=LY hr
  rw [show decide (∃ k,fT rs r.name = some k /\ k < i) = decide (k1 < i) by rw [hk1]; simp] at hcl
  have hb:decide ((k1:Int) < (i:Int)) = decide (k1 < i):=by rw [b8,IT,IT]; omega
  rw [aG]
  simp only [KP,↓reduceIte,reduceEqDiff,reduceLT,reduceCtorEq,rR h,J8 h,h.dG,h.a_,h.bK,g0,g6,la,hlt,e1,l2,km,hk1,eV,hb]
  refine aV (fun j F Y=>Y = [] /\ F.get 0 = a /\ F.get 6 = .int .i64 (i:Int) /\ F.get 55 = p2 /\ F.get 56 = .int .i64 (r.outs.length:Int) /\ F.get 57 = .int .i64 (j:Int) /\ F.get 7 = .bool (decide (k1 < i) || (r.outs.take j).any fun o=>decide (∃ k,fD rs o = some k /\ k < i))) r.outs.length ?_ ?_ r.outs.length 0 _ _ (by omega) ⟨rfl,(iJ (by simp +decide only [GS,g0,g6,Z5]) (by simp [FT.jZ]))⟩
  ·rintro j F Y hj ⟨rfl,g0,g6,g55,g56,g57,g7⟩ next2
   obtain ⟨m,hm⟩:∃ y,r.outs[j]? = some y:=⟨_,AT hj⟩
   have hmm:=Z2 hm
   obtain ⟨g,e2⟩:=gI h i2 hm
   have hlt2:=dZ hj
   have hadd2:=bY j (by omega)
   obtain ⟨k2,hk2⟩:=nF (p:=fun q:aC=>decide (m ∈ q.outs)) hrm (BY hmm)
   have hk2:fD rs m = some k2:=hk2
   have kk:=Kg (Z:=[]) h (s:=m) (ia.ls _ 46) hmem (by omega)
   have hb2:decide ((k2:Int) < (i:Int)) = decide (k2 < i):=by rw [b8,IT,IT]; omega
   have hnew:=pI (p:=fun o=>decide (∃ k,fD rs o = some k /\ k < i)) hm
   rw [show decide (∃ k,fD rs m = some k /\ k < i) = decide (k2 < i) by rw [hk2]; simp] at hnew
   rw [aG]
   cases hbad:(decide (k1 < i) || (r.outs.take j).any fun o=>decide (∃ k,fD rs o = some k /\ k < i)) with
   | true=>
    rw [hbad] at g7
    simp only [KP,↓reduceIte,reduceEqDiff,reduceLT,rR h,g55,g56,g57,g7,hlt2,e2,hadd2]
    refine next2 _ _ ⟨rfl,(iJ (by simp +decide only [GS,g0,g6,g55,g56,Z5]) ?_)⟩
    rw [hnew,<- Bool.or_assoc,hbad]
    simp only [FT.jZ,reduceEqDiff,↓reduceIte,Bool.true_or]
   | false=>
    rw [hbad] at g7
    simp only [KP,↓reduceIte,reduceEqDiff,reduceLT,reduceCtorEq,rR h,g0,g6,g55,g56,g57,g7,hlt2,e2,kk,hk2,eV,hb2,hadd2]
    refine next2 _ _ ⟨rfl,(iJ (by simp +decide only [GS,g0,g6,g55,g56,Z5]) ?_)⟩
    rw [hnew,<- Bool.or_assoc,hbad]
    simp only [FT.jZ,reduceEqDiff,↓reduceIte,Bool.false_or]
  ·rintro F Y ⟨rfl,g0,g6,g55,g56,g57,g7⟩
   have hlt2:=d_ (ZT r.outs.length)
   rw [Z6 (Z1 _),<- hcl] at g7
   rw [aG]
   cases hc:n_ rs i with
   | true=>
    rw [hc] at g7
    simp only [KP,↓reduceIte,reduceEqDiff,reduceLT,reduceCtorEq,rR h,h.dG,h.bK,g0,g6,g56,g57,g7,hlt2,e1,aU d19,bM]
    refine hk 2 _ (.inl ?_)
    have hst:sH rs = true:=by
     unfold sH
     rw [bp]
     exact ⟨i,j6.2 hi,hc⟩
    rw [ZO hst] at hE
    rw [hE]
    exact ⟨by decide,rfl⟩
   | false=>
    rw [hc] at g7
    simp only [KP,↓reduceIte,reduceEqDiff,reduceLT,g6,g56,g57,g7,hlt2,hadd]
    refine next _ _ ⟨rfl,(lH (by simp +decide only [GS,g0,Z5]) (fun j hj=>?_))⟩
    rcases ZZ j i with g | g
    ·exact hp j g
    ·obtain rfl:j = i:=by omega
     exact hc
 ·rintro F Y ⟨rfl,g0,g6,hp⟩
  have hlt:=d_ (ZT rs.length)
  rw [aG]
  simp only [KP,↓reduceIte,reduceEqDiff,reduceLT,reduceCtorEq,g0,g6,la,hlt]
  refine key ?_ _ (by simp +decide only [GS,g0])
  unfold sH
  rw [jh]
  intro i hi
  rw [hp i (j6.1 hi)]; simp
theorem RI (h:bH E) {a:V} {rs:List aC} (hs:wO rs) (ia:IS eC a rs) (F:FT) (g0:F.get 0 = a) (hk:∀ e nm,HQ rs e -> K (.gB [.int .i64 e,.str nm]) []):R E (aA Tryz.f60).code [] ⟨110,F⟩ [] (mE E (aA Tryz.f60).results K):=by
 have la:=cV h ia
 have hle:=hs.len
 have d6:=h.Zp
 simp only [aA,Tryz.f60,cutAt,Z9] at d6
 have key:=fun hp0 h40 F g0=>UC (K:=K) h hs ia hp0 h40 F g0 hk
 rw [show (aA Tryz.f60).code = .seq (cutAt [0] (aA Tryz.f60).code) (.seq (cutAt [1,0] (aA Tryz.f60).code) (.seq (cutAt [1,1,0] (aA Tryz.f60).code) (cutAt [1,1,1] (aA Tryz.f60).code))) from rfl]
 generalize cutAt [1,1,1] (aA Tryz.f60).code = C at *
 simp only [aA,Tryz.f60,KP,↓reduceIte,reduceLT,lB,cutAt]
 refine aV (fun i F Y=>Y = [] /\ F.get 0 = a /\ F.get 4 = .int .i64 (i:Int) /\ ∀ (j:Nat) (s:aC),j < i -> rs[j]? = some s -> bB s = 0) rs.length ?_ ?_ rs.length 0 _ _ (by omega) ⟨rfl,(lH (by simp +decide only [GS,g0,Z5]) (fun j s hj=>by omega))⟩
 ·rintro i F Y hi ⟨rfl,g0,g4,hp⟩ next
  obtain ⟨r,hr⟩:∃ y,rs[i]? = some y:=⟨_,AT hi⟩
  have hrs:=hs.all r (Z2 hr)
  obtain ⟨g,p1,p2,p3,p4,e1,i1,i2,i3,i4⟩:=fF h ia hr
  have hlt:=dZ hi
  have hadd:=bY i (by omega)
  have kr:=Lu (Z:=[]) h (M7 i1 i2 i3 i4) hrs
  rw [aG]
  by_cases he:bB r = 0
  ·have c0:decide (bB r = 0) = true:=BY he
   simp only [KP,↓reduceIte,reduceEqDiff,reduceLT,reduceCtorEq,RY h,g0,g4,la,hlt,e1,kr,c0,hadd]
   refine next _ _ ⟨rfl,(lH (by simp +decide only [GS,g0,Z5]) (fun j s hj hs2=>?_))⟩
   rcases ZZ j i with g | g
   ·exact hp j s g hs2
   ·obtain rfl:j = i:=by omega
    rw [hr] at hs2; cases hs2; exact he
  ·have c0:decide (bB r = 0) = false:=AS he
   simp only [KP,↓reduceIte,reduceEqDiff,reduceLT,reduceCtorEq,rR h,RY h,h.dG,h.bK,g0,g4,la,hlt,e1,kr,c0,aU d6,bM]
   exact hk _ _ (.inl ⟨by rw [zW hr he hp]; exact he,(zW hr he hp).symm⟩)
 ·rintro F Y ⟨rfl,g0,g4,hp⟩
  have hlt:=d_ (ZT rs.length)
  have hp0:∀ (j:Nat) (s:aC),rs[j]? = some s -> bB s = 0:=fun j s hs2=>hp j s (AI.1 hs2).1 hs2
  rw [aG]
  by_cases h40:40 < rs.length
  ·have c0:decide ((40:Int) < (rs.length:Int)) = true:=BY (by omega)
   simp only [KP,↓reduceIte,reduceEqDiff,reduceLT,reduceCtorEq,lB,g0,g4,la,hlt,c0]
   refine hk 4 _ (.inl ?_)
   rw [yC hp0,ZO h40]
   exact ⟨by decide,rfl⟩
  ·have c0:decide ((40:Int) < (rs.length:Int)) = false:=AS (by omega)
   simp only [KP,↓reduceIte,reduceEqDiff,reduceLT,reduceCtorEq,g0,g4,la,hlt,c0]
   exact key hp0 h40 _ (by simp +decide only [GS,g0])
theorem OA (h:bH E) {a:V} {rs:List aC} (ha:LS eC 46 Z a rs) (hs:wO rs):aB E 60 [a] Z fun v σ'=>σ' = Z /\ ∃ e nm,v = .gB [.int .i64 e,.str nm] /\ HQ rs e:=by
 obtain ⟨a',ea,ia⟩:=eX h ha
 rw [aH h.hs60 h.sp60 h.fn60 h.md60 (args':=[a']) (by simp only [aW,ea]),aX (by kernel_rfl)]
 exact RI h hs ia _ (by simp +decide only [GS]) fun e nm he=>⟨rfl,e,nm,rfl,he⟩
end
end
section
section
variable {E:Env} {Z:Sg} {K:V -> Sg -> Prop}
def fS:Lay AxS.Step:=⟨fun r x=>∃ a l,r = [.str x.out,.int .i64 x.op,a,l,.int .i64 x.n] /\ jT aO a x.args /\ jT aO l x.lits,5,fun _ _ ⟨_,_,h,_⟩=>by rw [h]; rfl,fun _ _ ⟨a,l,h,h1,h2⟩ c hc=>by
 rw [h] at hc
 simp only [By,ZY,bt] at hc
 rcases hc with rfl | rfl | rfl | rfl | rfl
 ·rfl
 ·rfl
 ·exact h1.is.bD
 ·exact h2.is.bD
 ·rfl⟩
theorem Ih:∀ r x,fS.P r x -> ∀ c ∈ r,cH false c = true:=fun r x ⟨a,l,h,h1,h2⟩ c hc=>by
 rw [h] at hc
 simp only [By,ZY,bt] at hc
 rcases hc with rfl | rfl | rfl | rfl | rfl
 ·rfl
 ·rfl
 ·exact h1.tag
 ·exact h2.tag
 ·rfl
theorem MB:∀ r x,aO.P r x -> ∀ c ∈ r,cH false c = true:=fun r x hr c hc=>by
 rw [show r = [.str x] from hr] at hc
 cases hc with
 | head=>rfl
 | tail _ h=>cases h
theorem yN (h:bH E) {v:V} {l:List bC} (iv:IS aO v l) (hl:l.length <= 8796093022208):∃ w Y v',Ax.append E [] #[24,24] .aD v = some (w,Y) /\ cK Y E.ty false w = some v' /\ jT aO v' l:=by
 obtain ⟨rs,e,ha⟩:=kR iv []
 have hr:pY l.length 16 = true:=by
  unfold pY
  rw [IT]
  exact cm (cz 17 hl) (by decide)
 obtain ⟨w,Y,h1,h2⟩:=O0 (ats:=#[24,24]) h.a_ rfl h.dG rfl (by decide) (jL h) rfl e ha hr
 obtain ⟨v',h3,h4⟩:=oI h.dG rfl MB h2
 exact ⟨w,Y,v',h1,h3,h4⟩
theorem iZ {c:V} (h:Ax.bD c = true):c.cells = [c]:=by cases c <;> first | rfl | cases h
theorem Dy (Z:Sg):aS Z E.ty true .aD = some .aD:=rfl
theorem Rl (h:bH E) {x:aC} {a b c d:V} (ia:IS aO a x.ins) (ib:IS aO b x.outs) (ic:IS aO c x.after) (hx:ZH x) {Y:Sg} {n0:Nat} (b0:Y[n0]? = some (O.cells 46 [.str x.name,a,b,c,d] true)) (F:FT) (g1:F.get 1 = .ref n0 0) (g2:F.get 2 = .ref (n0 + 1) 0) :
  ∃ F' a' b' c',cE E (ev E 0) (opsOf (cutAt [1,0] (aA Tryz.f67).code)) ⟨45,F⟩ Y = some (⟨45,F'⟩,Y ++ [O.cells 46 [.str x.name,a',b',c',.aD] true]) /\ F'.get 1 = .ref n0 0 /\ F'.get 2 = .ref (n0 + 1) 0 /\ F'.get 3 = .ref Y.length 0 /\ jT aO a' x.ins /\ jT aO b' x.outs /\ jT aO c' x.after:=by
 have a1:=hx.ins
 have a2:=hx.outs
 have a3:=hx.after
 obtain ⟨w1,τ1,a',h1,k1,i1⟩:=yN h ia (by omega)
 obtain ⟨w2,τ2,b',h2,k2,i2⟩:=yN h ib (by omega)
 obtain ⟨w3,τ3,c',h3,k3,i3⟩:=yN h ic (by omega)
 have s1:=fun Z=>oJ (E:=E) ia Z
 have s2:=fun Z=>oJ (E:=E) ib Z
 have s3:=fun Z=>oJ (E:=E) ic Z
 have v1:=cF 10 ia
 have v2:=cF 10 ib
 have v3:=cF 10 ic
 have u1:=cF 10 i1.is
 have u2:=cF 10 i2.is
 have u3:=cF 10 i3.is
 have o1:=aM i1.is.bD
 have o2:=aM i2.is.bD
 have o3:=aM i3.is.bD
 have n1:=iZ i1.is.bD
 have n2:=iZ i2.is.bD
 have n3:=iZ i3.is.bD
 have b0':=aN (x:=O.cells 46 [.str [],.aD,.aD,.aD,.aD] true) b0
 have vs:=wR 11 x.name
 unfold cE
 rw [h.UL,h.Wl]
 simp only [aA,Tryz.f67,KP,Ax.loadAt,Ax.storeAt,↓reduceIte,reduceEqDiff,reduceLT,reduceAdd,reduceCtorEq,h.dG,h.a_,h.fI,h.bK,opsOf,cutAt,Fz.apps,gL,bF,b_,jW,Ax.comp,Ax.last,gH,Ax.again,uC,aW,Ax.fill,Ax.placeOf,g1,b0,b0',h1,h2,h3,k1,k2,k3,s1,s2,s3,v1,v2,v3,u1,u2,u3,o1,o2,o3,vs,n1,n2,n3,Dy,aK,bV]
 exact ⟨_,a',b',c',rfl,(iU (by simp +decide only [GS,g1,g2,Z5]) ⟨i1,i2,i3⟩)⟩
def Kp (Z Y:Sg):Prop:=∀ (c:Nat) (o:O),Z[c]? = some o -> Y[c]? = some o
theorem Rm (h:bH E) {x:aC} {a b c d:V} (ia:IS aO a x.ins) (ib:IS aO b x.outs) (ic:IS aO c x.after) (hx:ZH x) {Y:Sg} {n0:Nat} (b0:Y[n0]? = some (O.cells 46 [.str x.name,a,b,c,d] true)) (F:FT) (g1:F.get 1 = .ref n0 0) (g2:F.get 2 = .ref (n0 + 1) 0) {st:List jG} {Q:Ax.X -> Fr -> Sg -> Prop}
  (hk:∀ F' a' b' c',F'.get 1 = .ref n0 0 -> F'.get 2 = .ref (n0 + 1) 0 -> F'.get 3 = .ref Y.length 0 -> jT aO a' x.ins -> jT aO b' x.outs -> jT aO c' x.after -> M E st .normal ⟨45,F'⟩ (Y ++ [O.cells 46 [.str x.name,a',b',c',.aD] true]) Q) :
  R E (.region 1 (opsOf (cutAt [1,0] (aA Tryz.f67).code)) true) st ⟨45,F⟩ Y Q:=by
 obtain ⟨F',a',b',c',hE,h1,h2,h3,h4,h5,h6⟩:=Rl h ia ib ic hx b0 F g1 g2
 exact Eq.mpr (gP hE) (hk F' a' b' c' h1 h2 h3 h4 h5 h6)
end
end
section
section
variable {E:Env} {Z:Sg} {K:V -> Sg -> Prop}
theorem tL {α:Type} {L:Lay α} {t u k:Nat} {Y:Sg} {w:V} {l:List α} {cs:List V} {ex:Bool} (hb:Y[k]? = some (.cells u cs ex)) (hu:u ≠ t) (ow:bA L t Y w l):aQ w ≠ some k:=by
 rcases ow with ⟨rfl,-⟩ | ⟨b,rs,ex,rfl,hc,-⟩
 ·intro e; cases e
 ·intro e; cases e; rw [hb] at hc; cases hc; exact hu rfl
theorem qJ {α:Type} {L:Lay α} {t:Nat} {Y:Sg} {w:V} {l:List α} (ow:bA L t Y w l):w.cells = [w] /\ w.aZ = true:=by
 rcases ow with ⟨rfl,-⟩ | ⟨b,rs,ex,rfl,-⟩ <;> exact ⟨rfl,rfl⟩
theorem uK {Y:Sg} {i:Nat} {x y:O} (h:Y[i]? = some y):(Y.set i x)[i]? = some x:=ZV (AI.1 h).1
theorem pX {Y:Sg} {i j:Nat} {x y:O} (h:Y[j]? = some y) (hij:i ≠ j):(Y.set i x)[j]? = some y:=by rw [No hij]; exact h
theorem Rj (h:bH E) {s:AxS.Step} {p q:V} (ip:IS aO p s.args) (iq:IS aO q s.lits) (hp:s.args.length <= 8796093022208) (hq:s.lits.length <= 8796093022208) {Y:Sg} (F:FT) (g5:F.get 5 = .ref Y.length 0) {st:List jG} {Q:Ax.X -> Fr -> Sg -> Prop}
  (hk:∀ F' p' q',(∀ i,i < 30 -> F'.get i = F.get i) -> jT aO p' s.args -> jT aO q' s.lits -> M E st .normal ⟨45,F'⟩ (Y ++ [O.cells 113 [.str s.out,.int .i64 s.op,p',q',.int .i64 s.n] true]) Q):R E (.region 6 (opsOf (cutAt [1,1,0,1,2,2,1,0,2,1,0] (aA Tryz.f67).code)) true) st ⟨45,F⟩ (Y ++ [O.cells 113 [.str s.out,.int .i64 s.op,p,q,.int .i64 s.n] true]) Q:=by
 obtain ⟨w1,τ1,p',h1,k1,i1⟩:=yN h ip (by omega)
 obtain ⟨w2,τ2,q',h2,k2,i2⟩:=yN h iq (by omega)
 have s1:=fun Z=>oJ (E:=E) ip Z
 have s2:=fun Z=>oJ (E:=E) iq Z
 have o1:=aM i1.is.bD
 have o2:=aM i2.is.bD
 have n1:=iZ i1.is.bD
 have n2:=iZ i2.is.bD
 have key:∃ F',cE E (ev E 0) (opsOf (cutAt [1,1,0,1,2,2,1,0,2,1,0] (aA Tryz.f67).code)) ⟨45,F⟩ (Y ++ [O.cells 113 [.str s.out,.int .i64 s.op,p,q,.int .i64 s.n] true]) = some (⟨45,F'⟩,Y ++ [O.cells 113 [.str s.out,.int .i64 s.op,p',q',.int .i64 s.n] true]) /\ ∀ i,i < 30 -> F'.get i = F.get i:=by
  unfold cE
  rw [h.UK,h.Wk]
  simp only [aA,Tryz.f67,KP,Ax.loadAt,Ax.storeAt,↓reduceIte,reduceEqDiff,reduceLT,reduceLeDiff,reduceAdd,reduceCtorEq,h.a_,h.bN,opsOf,cutAt,Fz.apps,bF,b_,jW,Ax.comp,uC,fV,aW,g5,h1,h2,k1,k2,s1,s2,o1,o2,n1,n2,Dy,aK,bV]
  refine ⟨_,rfl,fun i hi=>?_⟩
  simp only [FT.jZ]
  repeat rw [ZM (by omega)]
 obtain ⟨F',hE,hF⟩:=key
 exact Eq.mpr (gP hE) (hk F' p' q' hF i1 i2)
theorem OZ (h:bH E) {Y:Sg} {w:V} {l:List AxS.Step} {s:AxS.Step} {p q:V} (ow:bA fS 113 Y w l) (ip:jT aO p s.args) (iq:jT aO q s.lits) (hb:l.length <= 1000):∃ w' τ',Ax.append E (Y ++ [O.cells 113 [.str s.out,.int .i64 s.op,p,q,.int .i64 s.n] true]) #[44,44] w (.sl Y.length 0 1 none) = some (w',τ') /\ bA fS 113 τ' w' (l ++ [s]) /\ Sp (Y ++ [O.cells 113 [.str s.out,.int .i64 s.op,p,q,.int .i64 s.n] true]) τ' w /\ Y.length <= τ'.length /\ ∀ b,aQ w' = some b -> aQ w = some b \/ Y.length <= b:=by
 obtain ⟨w',τ',h1,h2,h3,h4,h5⟩:=gT (m:=[s]) (new:=[[.str s.out,.int .i64 s.op,p,q,.int .i64 s.n]]) h.fI rfl h.bN rfl (by decide) (Ap h) rfl (ow.app [O.cells 113 [.str s.out,.int .i64 s.op,p,q,.int .i64 s.n] true]) (mN rfl) (.one ⟨p,q,rfl,ip,iq⟩) (dD (b:=1001) (by decide) (by simp only [Z0,ZN]; omega))
 refine ⟨w',τ',h1,h2,h3,?_,fun b e=>?_⟩
 ·simp only [Z7,Z0,ZN] at h4; omega
 ·rcases h5 b e with g | g
  ·exact .inl g
  ·simp only [Z7,Z0,ZN] at g; exact .inr (by omega)
def ZJ (Y:Sg) (lo:Nat) (v:V) (x:aC):Prop:=∃ a b c w,v = .agg [.str x.name,a,b,c,w] /\ jT aO a x.ins /\ jT aO b x.outs /\ jT aO c x.after /\ bA fS 113 Y w x.steps /\ ∀ b,aQ w = some b -> lo <= b
theorem Ux (h:bH E) {v:V} {x:aC} (hv:HN v x) (hx:ZH x):aB E 67 [v] Z fun v' Y=>ZJ Y Z.length v' x /\ Kp Z Y:=by
 obtain ⟨a,b,c,d,rfl,ia,ib,ic,id⟩:=hv
 have a4:=hx.steps
 have ha:=aM ia.bD
 have hb:=aM ib.bD
 have hc:=aM ic.bD
 have hd:=aM id.bD
 have ld:=lF h id
 rw [dF h.hs67 h.sp67 h.fn67 h.md67,aX (by kernel_rfl)]
 simp only [aA,Tryz.f67,KP,↓reduceIte,reduceLT,reduceAdd,h.bK,ha,hb,hc,hd]
 have hlen:(Z ++ [O.cells 46 [.str x.name,a,b,c,d] true]).length = Z.length + 1:=by simp
 have b0:(Z ++ [O.cells 46 [.str x.name,a,b,c,d] true] ++ [O.cells 46 [.str [],.aD,.aD,.aD,.aD] true])[Z.length]? = some (O.cells 46 [.str x.name,a,b,c,d] true):=aN aK
 have z0:(Z ++ [O.cells 46 [.str x.name,a,b,c,d] true] ++ [O.cells 46 [.str [],.aD,.aD,.aD,.aD] true])[Z.length + 1]? = some (O.cells 46 [.str [],.aD,.aD,.aD,.aD] true):=by rw [<- hlen]; exact aK
 have kp:Kp Z (Z ++ [O.cells 46 [.str x.name,a,b,c,d] true] ++ [O.cells 46 [.str [],.aD,.aD,.aD,.aD] true]):=fun c o e=>aN (aN e)
 have hl2:(Z ++ [O.cells 46 [.str x.name,a,b,c,d] true] ++ [O.cells 46 [.str [],.aD,.aD,.aD,.aD] true]).length = Z.length + 2:=by simp
 simp only [hlen]
 generalize Z ++ [O.cells 46 [.str x.name,a,b,c,d] true] ++ [O.cells 46 [.str [],.aD,.aD,.aD,.aD] true] = Y at *
 refine Rm h ia ib ic hx b0 _ ?_ ?_ ?_
 ·exact (by simp +decide only [GS])
 ·exact (by simp +decide only [GS])
 intro F1 a' b' c' g1 g2 g3 i1 i2 i3
 simp only [KP,↓reduceIte,reduceLT]
 have b1:=aN (x:=O.cells 46 [.str x.name,a',b',c',.aD] true) b0
 have z1:=aN (x:=O.cells 46 [.str x.name,a',b',c',.aD] true) z0
 have kp1:Kp Z (Y ++ [O.cells 46 [.str x.name,a',b',c',.aD] true]):=fun c o e=>aN (kp c o e)
 have x1:(Y ++ [O.cells 46 [.str x.name,a',b',c',.aD] true])[Y.length]? = some (O.cells 46 [.str x.name,a',b',c',.aD] true):=aK
 rw [hl2] at x1 g3
 generalize Y ++ [O.cells 46 [.str x.name,a',b',c',.aD] true] = Y at *
 refine aV (fun i F Y=>Y[Z.length]? = some (O.cells 46 [.str x.name,a,b,c,d] true) /\ Y[Z.length + 1]? = some (O.cells 46 [.str [],.aD,.aD,.aD,.aD] true) /\ Kp Z Y /\ F.get 1 = .ref Z.length 0 /\ F.get 2 = .ref (Z.length + 1) 0 /\ F.get 3 = .ref (Z.length + 2) 0 /\ F.get 4 = .int .i64 (i:Int) /\ ∃ w,Y[Z.length + 2]? = some (O.cells 46 [.str x.name,a',b',c',w] true) /\ bA fS 113 Y w (x.steps.take i) /\ ∀ b,aQ w = some b -> Z.length <= b) x.steps.length ?_ ?_ x.steps.length 0 _ _ (by omega) ⟨b1,z1,kp1,(fE (by simp +decide only [GS,g1,g2,g3,Z5]) ⟨.aD,x1,.inl ⟨rfl,rfl⟩,fun b e=>by cases e⟩)⟩
 ·rintro i F Y hi ⟨b0,z0,kp,g1,g2,g3,g4,w,x0,ow,hw⟩ next
  obtain ⟨s,hst⟩:∃ y,x.steps[i]? = some y:=⟨_,AT hi⟩
  have hmem:=Z2 hst
  have a5:=hx.args s hmem
  have a6:=hx.lits s hmem
  obtain ⟨g,p,q,e1,ip,iq⟩:=uS h id hst
  have hop:=aM ip.bD
  have hoq:=aM iq.bD
  have hlt:=dZ hi
  have hadd:=bY i (by omega)
  rw [aG]
  simp only [KP,Ax.loadAt,Ax.storeAt,↓reduceIte,reduceEqDiff,reduceLT,reduceAdd,reduceCtorEq,h.fI,h.bK,h.bN,g1,g4,b0,ld,hlt,e1,hop,hoq,aK,bV]
  refine Rj h ip iq (by omega) (by omega) _ ?_ ?_
  ·exact (by simp +decide only [GS])
  intro F2 p' q' hF ip' iq'
  have k1:F2.get 1 = .ref Z.length 0:=by rw [hF 1 (by omega)]; exact (by simp +decide only [GS,g1])
  have k2:F2.get 2 = .ref (Z.length + 1) 0:=by rw [hF 2 (by omega)]; exact (by simp +decide only [GS,g2])
  have k3:F2.get 3 = .ref (Z.length + 2) 0:=by rw [hF 3 (by omega)]; exact (by simp +decide only [GS,g3])
  have k4:F2.get 4 = .int .i64 (i:Int):=by rw [hF 4 (by omega)]; exact (by simp +decide only [GS,g4])
  have k5:F2.get 5 = .ref Y.length 0:=by rw [hF 5 (by omega)]; exact (by simp +decide only [GS])
  have hop':=aM ip'.is.bD
  have hoq':=aM iq'.is.bD
  have b1:=aN (x:=O.cells 113 [.str s.out,.int .i64 s.op,p',q',.int .i64 s.n] true) b0
  have z1:=aN (x:=O.cells 113 [.str s.out,.int .i64 s.op,p',q',.int .i64 s.n] true) z0
  have x1:=aN (x:=O.cells 113 [.str s.out,.int .i64 s.op,p',q',.int .i64 s.n] true) x0
  have s1:(Y ++ [O.cells 113 [.str s.out,.int .i64 s.op,p',q',.int .i64 s.n] true])[Y.length]? = some (O.cells 113 [.str s.out,.int .i64 s.op,p',q',.int .i64 s.n] true):=aK
  have ow1:=ow.app [O.cells 113 [.str s.out,.int .i64 s.op,p',q',.int .i64 s.n] true]
  have kp1:Kp Z (Y ++ [O.cells 113 [.str s.out,.int .i64 s.op,p',q',.int .i64 s.n] true]):=fun c o e=>aN (kp c o e)
  have hle:Z.length <= (Y ++ [O.cells 113 [.str s.out,.int .i64 s.op,p',q',.int .i64 s.n] true]).length:=by
   have:=(AI.1 b1).1; omega
  generalize Y ++ [O.cells 113 [.str s.out,.int .i64 s.op,p',q',.int .i64 s.n] true] = τ2 at *
  generalize Y.length = y at *
  obtain ⟨w',τ3,ha3,ow3,Pc,hl3,hb3⟩:=OZ (s:=s) h ow1 ip' iq' (by rw [ZW]; omega)
  have x3:=Pc _ _ (aN x1) (tL x1 (by decide) ow1)
  have b3:=Pc _ _ (aN b1) (tL b1 (by decide) ow1)
  have z3:=Pc _ _ (aN z1) (tL z1 (by decide) ow1)
  have kp3:Kp Z τ3:=fun c o e=>Pc _ _ (aN (kp1 c o e)) (fun e2=>by
   have:=hw c e2
   have:=(AI.1 e).1
   omega)
  obtain ⟨hc1,hc2⟩:=qJ ow3
  simp only [KP,Ax.loadAt,Ax.storeAt,↓reduceIte,reduceEqDiff,reduceLT,reduceLeDiff,reduceAdd,reduceMul,reduceCtorEq,h.fI,h.bK,h.bN,k3,k4,k5,x1,x3,s1,ha3,hadd,hc1,hc2,hop',hoq',Ax.fill,iA,dz]
  refine next _ _ ⟨pX b3 (by omega),pX z3 (by omega),fun c o e=>pX (kp3 c o e) (by have:=(AI.1 e).1; omega),(fE (by simp +decide only [GS,k1,k2,k3,Z5]) ⟨w',uK x3,?_,fun b e=>?_⟩)⟩
  ·have e:x.steps.take (i + 1) = x.steps.take i ++ [s]:=by rw [bh,hst]; rfl
   rw [e]
   refine ow3.keep fun c o hc ho=>pX ho ?_
   intro e2
   rw [<- e2] at hc
   exact tL x3 (by decide) ow3 hc
  ·rcases hb3 b e with g | g
   ·exact hw b g
   ·omega
 ·rintro F Y ⟨b0,z0,kp,g1,g2,g3,g4,w,x0,ow,hw⟩
  have hlt:=d_ (ZT x.steps.length)
  obtain ⟨hc1,hc2⟩:=qJ ow
  have o1:=aM i1.is.bD
  have o2:=aM i2.is.bD
  have o3:=aM i3.is.bD
  have zz:=uK (x:=O.cells 46 [.str x.name,a',b',c',w] true) z0
  rw [Z6 (Z1 _)] at ow
  rw [aG]
  simp only [KP,Ax.loadAt,Ax.storeAt,↓reduceIte,reduceEqDiff,reduceLT,reduceAdd,reduceCtorEq,h.fI,h.bK,g1,g2,g3,g4,b0,x0,z0,zz,ld,hlt,hc2,o1,o2,o3]
  refine ⟨⟨a',b',c',w,rfl,i1,i2,i3,ow.keep fun c o hc ho=>pX ho ?_,hw⟩,fun c o e=>pX (kp c o e) (by have:=(AI.1 e).1; omega)⟩
  intro e2
  rw [<- e2] at hc
  exact tL z0 (by decide) ow hc
end
end
section
section
variable {E:Env} {Z:Sg} {K:V -> Sg -> Prop}
theorem DX (n k:Nat):jQ false .i64 (n:Int) [.int .i64 (k:Int)] = some ((min n k:Nat):Int):=by
 rw [min2]
 by_cases g:(k:Int) < (n:Int)
 ·rw [ZO g,Nat.min_eq_right (by omega)]
 ·rw [ZM g,kg (by omega)]
theorem wV {α:Type} (l:List α) (k:Nat):l.take (min l.length k) = l.take k:=by
 rw [List.take_eq_take_iff]; omega
theorem CI (h:bH E) {v:V} {l:List bC} (iv:IS aO v l) (k:Nat):∃ w,(∀ Z,Ax.slice E Z 24 v none (some (.int .i64 ((min l.length k:Nat):Int))) none = some w) /\ IS aO w (l.take k):=by
 obtain ⟨w,h1,h2⟩:=vS h iv (b:=min l.length k) (Nat.min_le_left _ _)
 exact ⟨w,h1,by rwa [wV] at h2⟩
theorem Ej (h:bH E) {v:V} {l:List bC} (iv:jT aO v l) (k:Nat):∃ w,(∀ Z,Ax.slice E Z 24 v none (some (.int .i64 ((min l.length k:Nat):Int))) none = some w) /\ jT aO w (l.take k):=by
 obtain ⟨w,h1,-,h2⟩:=oK (lo:=none) (hi:=some (.int .i64 ((min l.length k:Nat):Int))) (a:=0) (b:=min l.length k) h.a_ rfl h.dG rfl iv.is (.inr rfl) (.inl ⟨rfl,rfl⟩) (dc _) (Nat.min_le_left _ _)
 refine ⟨w,h1,?_⟩
 have:=h2 iv
 rw [cn,wV] at this
 exact this
theorem LP (h:bH E) {v:V} {l:List AxS.Step} (iv:IS eZ v l) (k:Nat):∃ w,(∀ Z,Ax.slice E Z 44 v none (some (.int .i64 ((min l.length k:Nat):Int))) none = some w) /\ IS eZ w (l.take k):=by
 obtain ⟨w,h1,h2,-⟩:=oK (lo:=none) (hi:=some (.int .i64 ((min l.length k:Nat):Int))) (a:=0) (b:=min l.length k) h.fI rfl h.bN rfl iv (.inr rfl) (.inl ⟨rfl,rfl⟩) (dc _) (Nat.min_le_left _ _)
 refine ⟨w,h1,?_⟩
 rw [cn,wV] at h2
 exact h2
def qW (x:aC):aC:={ x with ins:=x.ins.take 10,outs:=x.outs.take 6,after:=x.after.take 10,steps:=x.steps.take 14 }
def A2 (s:AxS.Step):AxS.Step:={ s with args:=s.args.take 8,lits:=s.lits.take 3 }
def cut (x:aC):aC:={ qW x with steps:=(x.steps.take 14).map A2 }
theorem LQ (x:aC):Small (cut x):=by
 refine ⟨?_,?_,?_,?_,fun s hs=>?_,fun s hs=>?_⟩
 ·show (x.ins.take 10).length <= 10; rw [ZW]; omega
 ·show (x.outs.take 6).length <= 6; rw [ZW]; omega
 ·show (x.after.take 10).length <= 10; rw [ZW]; omega
 ·show ((x.steps.take 14).map A2).length <= 14; rw [ZS,ZW]; omega
 ·obtain ⟨q,_,rfl⟩:=ah.1 hs
  show (q.args.take 8).length <= 8; rw [ZW]; omega
 ·obtain ⟨q,_,rfl⟩:=ah.1 hs
  show (q.lits.take 3).length <= 3; rw [ZW]; omega
structure Raw (x:aC):Prop where
 args:∀ s ∈ x.steps,s.args.length <= 8796093022208
 lits:∀ s ∈ x.steps,s.lits.length <= 8796093022208
theorem Raw.mid {x:aC} (h:Raw x):ZH (qW x):=by
 refine ⟨?_,?_,?_,?_,fun s hs=>h.args s (ik hs),fun s hs=>h.lits s (ik hs)⟩
 ·show (x.ins.take 10).length <= 10; rw [ZW]; omega
 ·show (x.outs.take 6).length <= 6; rw [ZW]; omega
 ·show (x.after.take 10).length <= 10; rw [ZW]; omega
 ·show (x.steps.take 14).length <= 14; rw [ZW]; omega
theorem NI (h:bH E) {x:aC} {a b c d:V} (ia:IS aO a x.ins) (ib:IS aO b x.outs) (ic:IS aO c x.after) (id:IS eZ d x.steps) (F:FT) (g1:F.get 1 = .ref 0 0) (g2:F.get 2 = .ref 1 0) {st:List jG} {Q:Ax.X -> Fr -> Sg -> Prop}
  (hk:∀ F' a' b' c' d',F'.get 1 = .ref 0 0 -> F'.get 2 = .ref 1 0 -> F'.get 3 = .ref 2 0 -> IS aO a' (x.ins.take 10) -> IS aO b' (x.outs.take 6) -> IS aO c' (x.after.take 10) -> IS eZ d' (x.steps.take 14) ->
   M E st .normal ⟨86,F'⟩ [O.cells 46 [.str x.name,a,b,c,d] true,O.cells 46 [.str [],.aD,.aD,.aD,.aD] true,O.cells 46 [.str x.name,a',b',c',d'] true] Q) :
  R E (.region 1 (opsOf (cutAt [1,0] (aA Tryz.f111).code)) true) st ⟨86,F⟩ [O.cells 46 [.str x.name,a,b,c,d] true,O.cells 46 [.str [],.aD,.aD,.aD,.aD] true] Q:=by
 obtain ⟨a',sa,ia'⟩:=CI h ia 10
 obtain ⟨b',sb,ib'⟩:=CI h ib 6
 obtain ⟨c',sc,ic'⟩:=CI h ic 10
 obtain ⟨d',sd,id'⟩:=LP h id 14
 have la:=bP h ia
 have lb:=bP h ib
 have lc:=bP h ic
 have ld:=lF h id
 have m1:=DX x.ins.length 10
 have m2:=DX x.outs.length 6
 have m3:=DX x.after.length 10
 have m4:=DX x.steps.length 14
 have o1:=aM ia'.bD
 have o2:=aM ib'.bD
 have o3:=aM ic'.bD
 have o4:=aM id'.bD
 have n1:=iZ ia'.bD
 have n2:=iZ ib'.bD
 have n3:=iZ ic'.bD
 have n4:=iZ id'.bD
 have v1:=cF 10 ia
 have v2:=cF 10 ib
 have v3:=cF 10 ic
 have v4:=oD 9 id
 have u1:=cF 10 ia'
 have u2:=cF 10 ib'
 have u3:=cF 10 ic'
 have u4:=oD 9 id'
 have vs:=wR 11 x.name
 have vi:=fun k i=>Jn 11 k i
 have m1:jQ false .i64 (x.ins.length:Int) [.int .i64 10] = some ((min x.ins.length 10:Nat):Int):=m1
 have m2:jQ false .i64 (x.outs.length:Int) [.int .i64 6] = some ((min x.outs.length 6:Nat):Int):=m2
 have m3:jQ false .i64 (x.after.length:Int) [.int .i64 10] = some ((min x.after.length 10:Nat):Int):=m3
 have m4:jQ false .i64 (x.steps.length:Int) [.int .i64 14] = some ((min x.steps.length 14:Nat):Int):=m4
 have key:∃ F',cE E (ev E 0) (opsOf (cutAt [1,0] (aA Tryz.f111).code)) ⟨86,F⟩ [O.cells 46 [.str x.name,a,b,c,d] true,O.cells 46 [.str [],.aD,.aD,.aD,.aD] true] = some (⟨86,F'⟩,[O.cells 46 [.str x.name,a,b,c,d] true,O.cells 46 [.str [],.aD,.aD,.aD,.aD] true,O.cells 46 [.str x.name,a',b',c',d'] true]) /\ F'.get 1 = .ref 0 0 /\ F'.get 2 = .ref 1 0 /\ F'.get 3 = .ref 2 0:=by
  unfold cE
  rw [h.Sj,h.To]
  simp only [aA,Tryz.f111,KP,Ax.loadAt,Ax.storeAt,↓reduceIte,reduceEqDiff,reduceLT,reduceAdd,reduceCtorEq,h.dG,h.a_,h.fI,h.bK,opsOf,cutAt,gL,bF,b_,jW,Ax.comp,Ax.last,gH,Ax.again,aR,Ax.fill,Ax.placeOf,g1,la,lb,lc,ld,sa,sb,sc,sd,m1,m2,m3,m4,o1,o2,o3,o4,n1,n2,n3,n4,v1,v2,v3,v4,u1,u2,u3,u4,vs,vi]
  exact ⟨_,rfl,(by simp +decide only [GS,g1,g2,Z5])⟩
 obtain ⟨F',hE,k1,k2,k3⟩:=key
 exact Eq.mpr (gP hE) (hk F' a' b' c' d' k1 k2 k3 ia' ib' ic' id')
theorem pD {sz:Nat}:∀ (rs:List (List V)),(∀ r ∈ rs,r.length = sz) -> ∀ (i:Nat) (r:List V),rs[i]? = some r -> ∀ k,k < sz -> rs.flatten[i * sz + k]? = r[k]?
 | [],_,i,r,e,_,_=>by cases e
 | x :: rs,h,0,r,e,k,hk=>by
  cases e
  have hr:=h x (IN ..)
  rw [az,dz,an,Z8 (by omega)]
 | x :: rs,h,i + 1,r,e,k,hk=>by
  have hr:=h x (IN ..)
  rw [az,ZR (by rw [fg]; omega),show (i + 1) * sz + k - x.length = i * sz + k by rw [fg]; omega]
  exact pD rs (fun y hy=>h y (OF _ hy)) i r e k hk
theorem M4 {sz:Nat} {rs:List (List V)} (h:∀ r ∈ rs,r.length = sz) {i:Nat} {r:List V} (e:rs[i]? = some r) {k:Nat} (hk:k < sz) (u:V):setCells rs.flatten (i * sz + k) [u] = (rs.set i (r.set k u)).flatten:=by
 have hil:=(AI.1 e).1
 have hrl:r.length = sz:=h r (Z2 e)
 have hfl:rs.flatten.length = rs.length * sz:=nE rs h
 have him:(i + 1) * sz <= rs.length * sz:=cz _ hil
 rw [fg] at him
 rw [<- BO rs i (r.set k u) h (by rw [bq]; exact hrl) hil]
 apply gq
 intro q
 unfold setCells
 have l1:(rs.flatten.take (i * sz + k)).length = i * sz + k:=by rw [ZW]; omega
 have l2:(rs.flatten.take (i * sz)).length = i * sz:=by rw [ZW]; omega
 rw [ag,ag,cq,bq,hrl]
 rcases fm q (i * sz + k) with hq | rfl | hq
 ·rw [Z8 (by omega),dm,ZO hq]
  by_cases g:q < i * sz
  ·rw [Z8 (by omega),dm,ZO g]
  ·rw [ZR (by omega),l2,Z8 (by rw [bq]; omega),No (by omega)]
   obtain ⟨d,rfl⟩:∃ d,q = i * sz + d:=⟨q - i * sz,by omega⟩
   rw [ji]
   exact pD rs h i r e d (by omega)
 ·have e0:([u] ++ rs.flatten.drop (i * sz + k + 1))[0]? = some u:=rfl
  rw [ZR (by omega),l1,gz,e0,ZR (by omega),l2,ji,Z8 (by rw [bq]; omega),ZV (by omega)]
 ·rw [ZR (by omega),l1,ZR (by rw [cq]; omega),cq,ec,show i * sz + k + 1 + (q - (i * sz + k) - 1) = q by omega]
  rw [ZR (by omega),l2]
  by_cases g:q - i * sz < sz
  ·rw [Z8 (by rw [bq]; omega),No (by omega)]
   obtain ⟨d,rfl⟩:∃ d,q = i * sz + d:=⟨q - i * sz,by omega⟩
   rw [ji]
   exact pD rs h i r e d (by omega)
  ·rw [ZR (by rw [bq]; omega),bq,hrl,ec,show i * sz + sz + (q - i * sz - sz) = q by omega]
end
end
end Go.Proofs.YtmhchflckonklaaGreatDoor
end
section
namespace Go.Proofs.YtmhchflckonklaaGreatDoor
open Go Go.Ax Go.AxS Go.ChangeShapes Go.WideShapes Go.ChangeAt Go.RowKit
section
theorem yK (s:ByteArray):(Ax.bytes s).length = s.size:=by
 unfold Ax.bytes
 rw [ZS]
 rfl
section
variable {W:World} {I:Bool -> Nat -> Prop} {blk:Nat}
theorem Ou {r:List V} {cs:List Value}:∀ {off:Nat},A6 W I r cs -> (∀ j,j < cs.length -> W.cell? ⟨blk,off + j,none⟩ = cs[j]?) -> dI W I r blk off:=by
 induction r generalizing cs with
 | nil=>intro off h hc; exact .nil
 | cons v r ih=>
  intro off h hc
  cases h with
  | cons _ x _ xs hv hr=>
   have h0:=hc 0 (by simp)
   refine .cons v x r (by simpa using h0) hv (ih hr fun j hj=>?_)
   have:=hc (j + 1) (by simpa using hj)
   rw [show off + 1 + j = off + (j + 1) by omega,this]
   rfl
theorem JR {sz off:Nat} {R:Nat -> List V} {C:Nat -> List Value}:∀ (n k:Nat),(∀ i,k <= i -> i < k + n -> (R i).length = sz /\ (C i).length = sz /\ A6 W I (R i) (C i) /\ ∀ j,j < sz -> W.cell? ⟨blk,off + i * sz + j,none⟩ = (C i)[j]?) ->
  eA W I sz ((List.range' k n).map R) blk (off + k * sz)
 | 0,k,_=>.nil
 | n + 1,k,h=>by
  rw [List.range'_succ,ZQ]
  obtain ⟨h1,h2,h3,h4⟩:=h k (Z1 _) (by omega)
  refine .cons _ _ h1 (Ou h3 fun j hj=>h4 j (by omega)) ?_
  have:=JR (off:=off) n (k + 1) fun i hi hn=>h i (by omega) (by omega)
  rw [show off + (k + 1) * sz = off + k * sz + sz by rw [fg]; omega] at this
  exact this
end
def Reads (W:World) (t n:Nat) (Q:List V -> Prop):Prop:=∀ {H:Type} (enc:TypeId × Value -> H) (fuel:Nat) (cs:List Value) (d:DataW H) (p:List MemPlace),DataW.trod enc Tryz.prog W 0 (fun _=>true) true fuel t cs = some (d,p) -> (DataW.weights Tryz.prog t d).all (· <= reachBytes) = true -> cs.length = n /\ ∃ r:List V,r.length = n /\ Q r /\ A6 W (vD W).bD r cs
theorem Reads.mono {W:World} {t n:Nat} {Q Q':List V -> Prop} (h:Reads W t n Q) (k:∀ r,Q r -> Q' r):Reads W t n Q':=fun enc fuel cs d p h1 h2=>by
 obtain ⟨a,r,b,c,e⟩:=h enc fuel cs d p h1 h2
 exact ⟨a,r,b,k r c,e⟩
def ES (s:bC):Prop:=s.length <= 9223372036854775806
theorem zA (W:World):Reads W 9 1 fun r=>∃ s,r = [.str s] /\ ES s:=fun enc fuel cs d p h hw=>by
 obtain ⟨s,rfl,hx,hl⟩:=DataW.trod_string Tryz.underlying9 h
 refine ⟨rfl,[.str (Ax.bytes s)],rfl,⟨_,rfl,?_⟩,.cons _ _ _ _ (.str _) .nil⟩
 unfold ES
 rw [yK]
 rw [show d = .lit (.string s.data.toList) from ZL Prod.fst hx,DataW.weights] at hw
 simp only [dw,gy,jd,IT] at hw
 have e:reachBytes = 140737488351232:=by decide
 have e1:s.size = s.data.toList.length:=rfl
 omega
theorem DJ (W:World):Reads W 3 1 fun r=>∃ n:Int,r = [.int .i64 n]:=fun enc fuel cs d p h hw=>by
 obtain ⟨n,rfl,hx,-⟩:=DataW.trod_int Tryz.underlying3 h
 exact ⟨rfl,[.int .i64 n],rfl,⟨n,rfl⟩,.cons _ _ _ _ (.int _ _) .nil⟩
theorem tR {H:Type} {e w:Nat} {d:DataW H}:∀ {l:List (DataW H)},d ∈ l -> w ∈ DataW.weights Tryz.prog e d -> w ∈ DataW.weightsAll Tryz.prog e l
 | x :: l,hd,hw=>by
  rw [DataW.weightsAll,aa]
  rcases By.1 hd with rfl | hd
  ·exact .inl hw
  ·exact .inr (tR hd hw)
theorem tJ {W:World} {α:Type} [Inhabited α] {L:Lay α} {B:α -> Prop} {t e n bb:Nat} (ht:Tryz.prog.underlying t = some (.slice e)) (ce:Tryz.prog.cellsOf e = n) (hb:Tryz.prog.bytesOf e = bb) (hn:0 < n) (he:Reads W e n fun r=>∃ x,L.P r x /\ B x) :
  Reads W t 1 fun r=>∃ v l,r = [v] /\ IS L v l /\ (∀ x ∈ l,B x) /\ l.length * bb <= reachBytes:=fun {H} enc fuel cs d p h hw=>by
 rcases Go.Deep.open_slice ht h with ⟨rfl,hx⟩ | ⟨a,len,cap,m,k,D,Pl,rfl,hbase,hlc,hcm,hm,hx,hel⟩
 ·exact ⟨rfl,[.aD],rfl,⟨.aD,[],rfl,.inl ⟨rfl,rfl⟩,fun x hx=>(by cases hx),by simp⟩,.cons _ _ _ _ .aD .nil⟩
 ·have hm:m = cap:=by rw [hm]; rfl
  subst hm
  have hd:d = _:=ZL Prod.fst hx
  dsimp only at hd
  have hwl:len * bb <= reachBytes /\ ∀ i,i < len -> (DataW.weights Tryz.prog e (D i)).all (· <= reachBytes) = true:=by
   rw [hd] at hw
   unfold DataW.weights at hw
   rw [ht] at hw
   simp only [dw,gh,Z3,bl,IT,ZS,l5] at hw
   refine ⟨?_,fun i hi=>?_⟩
   ·have h1:=hw.1
    rw [hb] at h1
    refine cm (cz _ (by omega)) h1
   ·rw [bl]
    intro w hwi
    rw [IT]
    exact hw.2.1 w (tR (ah.2 ⟨i,j6.2 hi,rfl⟩) hwi)
  by_cases hc:m = 0
  ·subst hc
   obtain rfl:len = 0:=by omega
   exact ⟨rfl,[.bS true [] false],rfl,⟨_,[],rfl,.inr ⟨true,[],false,rfl,.nil⟩,fun x hx=>(by cases hx),by simp⟩,.cons _ _ _ _ (.emp _ _ a) .nil⟩
  ·obtain ⟨cs0,h0,-⟩:=hel 0 (by omega)
   obtain ⟨-,hl0,hc0⟩:=World.cells?_some h0
   rw [ce] at hl0 hc0
   have hcell:=hc0 0 hn
   obtain ⟨blk,off,sp⟩:=a
   have hadd:((⟨blk,off,sp⟩:Addr).add (0 * n)).add 0 = ⟨blk,off,sp⟩:=by rw [dz]; rfl
   rw [hadd] at hcell
   have hsome:∃ v,W.cell? ⟨blk,off,sp⟩ = some v:=⟨_,hcell.trans (AT (by omega))⟩
   obtain ⟨v0,hv0⟩:=hsome
   have hsp:sp = none /\ blk < W.heap.size:=by
    unfold World.cell? at hv0
    split at hv0
    ·rename_i c u f hblk
     refine ⟨?_,(ZU.1 hblk).1⟩
     cases sp with
     | none=>rfl
     | some q=>simp at hv0
    ·cases hv0
   obtain ⟨rfl,hlt⟩:=hsp
   have each:∀ i,i < len -> ∃ q:List V × List Value × α,q.1.length = n /\ q.2.1.length = n /\ L.P q.1 q.2.2 /\ B q.2.2 /\ A6 W (vD W).bD q.1 q.2.1 /\ ∀ j,j < n -> W.cell? ⟨blk,off + i * n + j,none⟩ = q.2.1[j]?:=fun i hi=>by
    obtain ⟨cs',h1,h2⟩:=hel i (by omega)
    obtain ⟨h3,r,h4,⟨x,h5,h5'⟩,h6⟩:=he enc k cs' (D i) (Pl i) h2 (hwl.2 i hi)
    obtain ⟨-,hl1,hc1⟩:=World.cells?_some h1
    rw [ce] at hc1
    refine ⟨(r,cs',x),h4,h3,h5,h5',h6,fun j hj=>?_⟩
    have:=hc1 j hj
    have ea:((⟨blk,off,none⟩:Addr).add (i * n)).add j = ⟨blk,off + i * n + j,none⟩:=by
     rw [Go.Deep.add_add]
     unfold Addr.add
     split
     ·rename_i h0
      rw [show off + i * n + j = off by omega]
     ·rw [lj]
    rw [ea] at this
    exact this
   obtain ⟨q,hq⟩:=Go.Deep.choose_lt each
   refine ⟨rfl,[.bS true ((List.range' 0 len).map fun i=>(q i).1) false],rfl,⟨_,(List.range' 0 len).map fun i=>(q i).2.2,rfl,.inr ⟨true,_,false,rfl,?_⟩,fun x hx=>?_,by simpa using hwl.1⟩,.cons _ _ _ _ (.bS true _ false blk off len m n (Pr W blk hlt) (by simp) hlc (fun h=>by cases h) ?_) .nil⟩
   ·have hall:∀ (c k:Nat),(∀ i,k <= i -> i < k + c -> L.P (q i).1 (q i).2.2) -> eP L.P ((List.range' k c).map fun i=>(q i).1) ((List.range' k c).map fun i=>(q i).2.2):=by
     intro c
     induction c with
     | zero=>intro k _; exact .nil
     | succ c ih=>
      intro k hk
      rw [List.range'_succ,ZQ,ZQ]
      exact .cons (hk k (Z1 _) (by omega)) (ih (k + 1) fun i h1 h2=>hk i (by omega) (by omega))
    exact hall len 0 fun i _ hi=>(hq i (by omega)).2.2.1
   ·obtain ⟨i,hi,rfl⟩:=ah.1 hx
    rw [List.mem_range'_1] at hi
    exact (hq i (by omega)).2.2.2.1
   ·have:=JR (W:=W) (I:=Ax.sub true (vD W).bD) (blk:=blk) (off:=off) (sz:=n) (R:=fun i=>(q i).1) (C:=fun i=>(q i).2.1) len 0 fun i _ hi=>⟨(hq i (by omega)).1,(hq i (by omega)).2.1,(hq i (by omega)).2.2.2.2.1,(hq i (by omega)).2.2.2.2.2⟩
    rw [dz,jl] at this
    exact this
theorem rU {W:World} {I:Bool -> Nat -> Prop} {a:List V} {x:List Value} (h:A6 W I a x) {b:List V} {y:List Value} (k:A6 W I b y):A6 W I (a ++ b) (x ++ y):=by
 induction a generalizing x with
 | nil=>cases h; exact k
 | cons v a ih=>cases h with | cons _ z _ zs hv hr=>exact .cons _ _ _ _ hv (ih hr)
theorem IZ {β:Type} {l:List β} (h:l.length = 5):∃ a b c d e,l = [a,b,c,d,e]:=by
 match l,h with
 | [a,b,c,d,e],_=>exact ⟨a,b,c,d,e,rfl⟩
theorem one {β:Type} {l:List β} (h:l.length = 1):∃ a,l = [a]:=by
 match l,h with
 | [a],_=>exact ⟨a,rfl⟩
theorem BU {W:World} {t:Nat} {f0 f1 f2 f3 f4:Field} {Q0 Q1 Q2 Q3 Q4:List V -> Prop} (ht:Tryz.prog.underlying t = some (.struct #[f0,f1,f2,f3,f4])) (ct:Tryz.prog.cellsOf t = 5) (o0:f0.offset = 0) (o1:f1.offset = 1) (o2:f2.offset = 2) (o3:f3.offset = 3) (o4:f4.offset = 4)
  (c0:Tryz.prog.cellsOf f0.type = 1) (c1:Tryz.prog.cellsOf f1.type = 1) (c2:Tryz.prog.cellsOf f2.type = 1) (c3:Tryz.prog.cellsOf f3.type = 1) (c4:Tryz.prog.cellsOf f4.type = 1)
  (h0:Reads W f0.type 1 Q0) (h1:Reads W f1.type 1 Q1) (h2:Reads W f2.type 1 Q2) (h3:Reads W f3.type 1 Q3) (h4:Reads W f4.type 1 Q4) :
  Reads W t 5 fun r=>∃ a b c d e,r = [a,b,c,d,e] /\ Q0 [a] /\ Q1 [b] /\ Q2 [c] /\ Q3 [d] /\ Q4 [e]:=fun {H} enc fuel cs d p h hw=>by
 obtain ⟨xs,k,-,hx,hl,hxl,hf⟩:=DataW.trod_struct ht h
 rw [ct] at hl
 obtain ⟨v0,v1,v2,v3,v4,rfl⟩:=IZ hl
 have hxl:xs.length = 5:=hxl
 obtain ⟨y0,y1,y2,y3,y4,rfl⟩:=IZ hxl
 have hd:d = _:=ZL Prod.fst hx
 dsimp only at hd
 rw [hd] at hw
 unfold DataW.weights at hw
 rw [ht] at hw
 simp only [ZQ,map_nil,DataW.weightsEach,gh,Z3] at hw
 obtain ⟨w0,w1,w2,w3,w4,-⟩:=hw
 have g0:=hf 0 f0 rfl
 have g1:=hf 1 f1 rfl
 have g2:=hf 2 f2 rfl
 have g3:=hf 3 f3 rfl
 have g4:=hf 4 f4 rfl
 rw [o0,c0] at g0
 rw [o1,c1] at g1
 rw [o2,c2] at g2
 rw [o3,c3] at g3
 rw [o4,c4] at g4
 obtain ⟨-,r0,l0,q0,i0⟩:=h0 enc k [v0] y0.1 y0.2 g0 w0
 obtain ⟨-,r1,l1,q1,i1⟩:=h1 enc k [v1] y1.1 y1.2 g1 w1
 obtain ⟨-,r2,l2,q2,i2⟩:=h2 enc k [v2] y2.1 y2.2 g2 w2
 obtain ⟨-,r3,l3,q3,i3⟩:=h3 enc k [v3] y3.1 y3.2 g3 w3
 obtain ⟨-,r4,l4,q4,i4⟩:=h4 enc k [v4] y4.1 y4.2 g4 w4
 obtain ⟨a,rfl⟩:=one l0
 obtain ⟨b,rfl⟩:=one l1
 obtain ⟨c,rfl⟩:=one l2
 obtain ⟨d',rfl⟩:=one l3
 obtain ⟨e,rfl⟩:=one l4
 exact ⟨hl,[a,b,c,d',e],rfl,⟨a,b,c,d',e,rfl,q0,q1,q2,q3,q4⟩,rU i0 (rU i1 (rU i2 (rU i3 i4)))⟩
theorem oN (W:World):Reads W 24 1 fun r=>∃ v l,r = [v] /\ IS aO v l /\ (∀ x ∈ l,ES x) /\ l.length * 16 <= reachBytes:=
 tJ (L:=aO) Tryz.underlying24 (by kernel_rfl) (by kernel_rfl) (by decide) (Reads.mono (zA W) fun r ⟨s,h1,h2⟩=>⟨s,h1,h2⟩)
instance:Inhabited AxS.Step:=⟨⟨[],0,[],[],0⟩⟩
instance:Inhabited aC:=⟨⟨[],[],[],[],[]⟩⟩
def ZG (s:AxS.Step):Prop:=s.args.length <= 8796093022208 /\ s.lits.length <= 8796093022208
theorem Xv {n:Nat} (h:n * 16 <= reachBytes):n <= 8796093022208:=by
 have e:reachBytes = 140737488351232:=by decide
 omega
theorem Iu (W:World):Reads W 113 5 fun r=>∃ x,eZ.P r x /\ ZG x:=
 Reads.mono (BU Tryz.underlying113 (by kernel_rfl) rfl rfl rfl rfl rfl (by kernel_rfl) (by kernel_rfl) (by kernel_rfl) (by kernel_rfl) (by kernel_rfl) (zA W) (DJ W) (oN W) (oN W) (DJ W)) fun r ⟨a,b,c,d,e,hr,⟨s,h0,_⟩,⟨n,h1⟩,⟨v2,l2,h2,i2,_,b2⟩,⟨v3,l3,h3,i3,_,b3⟩,⟨m,h4⟩⟩=>by
  cases h0; cases h1; cases h2; cases h3; cases h4
  exact ⟨⟨s,n,l2,l3,m⟩,⟨_,_,hr,i2,i3⟩,Xv b2,Xv b3⟩
theorem Iv (W:World):Reads W 46 5 fun r=>∃ x,eC.P r x /\ Raw x:=
 Reads.mono (BU Tryz.underlying46 (by kernel_rfl) rfl rfl rfl rfl rfl (by kernel_rfl) (by kernel_rfl) (by kernel_rfl) (by kernel_rfl) (by kernel_rfl) (zA W) (oN W) (oN W) (oN W) (tJ (L:=eZ) Tryz.underlying44 (by kernel_rfl) rfl (by decide) (Iu W))) fun r ⟨a,b,c,d,e,hr,⟨s,h0,_⟩,⟨v1,l1,h1,i1,_⟩,⟨v2,l2,h2,i2,_⟩,⟨v3,l3,h3,i3,_⟩,⟨v4,l4,h4,i4,hB,_⟩⟩=>by
  cases h0; cases h1; cases h2; cases h3; cases h4
  exact ⟨⟨s,l1,l2,l3,l4⟩,⟨_,_,_,_,hr,i1,i2,i3,i4⟩,⟨fun s hs=>(hB s hs).1,fun s hs=>(hB s hs).2⟩⟩
theorem Gm (W:World):Reads W 22 1 fun r=>∃ v l,r = [v] /\ IS eC v l /\ (∀ x ∈ l,Raw x) /\ l.length * Tryz.prog.bytesOf 46 <= reachBytes:=
 tJ (L:=eC) Tryz.underlying22 (by kernel_rfl) rfl (by decide) (Iv W)
section
variable {H:Type} {enc:TypeId × Value -> H} {W:World} {base:Nat} {v:Value} {d:DataW H} {p:List MemPlace}
theorem RE {t:Nat} {Q:List V -> Prop} (hr:Reads W t 1 Q) (hc:v.cells = #[v]) (h:DataW.Trod enc Tryz.prog W 0 (fun _=>true) true t v d p) (hw:(DataW.weights Tryz.prog t d).all (· <= reachBytes) = true):∃ a,Q [a] /\ VR (vD W) a v:=by
 obtain ⟨fuel,h⟩:=h
 rw [hc] at h
 obtain ⟨-,r,h1,h2,h3⟩:=hr enc fuel _ d p h hw
 obtain ⟨a,rfl⟩:=one h1
 cases h3 with
 | cons _ _ _ _ hv _=>exact ⟨a,h2,.inl hv⟩
theorem Ge {t e:Nat} (ht:Tryz.prog.underlying t = some (.slice e)) (hv:Value.okWide Tryz.prog W .any base t v):v.cells = #[v]:=by
 unfold Value.okWide at hv
 rw [ht] at hv
 have hv:Cell.okWide Tryz.prog W .any base t v:=hv
 unfold Cell.okWide Cell.ok at hv
 rw [ht] at hv
 cases v with
 | slice q len cap=>rfl
 | _=>exact hv.elim
theorem Mg (hv:Value.okWide Tryz.prog W .any base 22 v) (h:DataW.Trod enc Tryz.prog W 0 (fun _=>true) true 22 v d p) (hw:(DataW.weights Tryz.prog 22 d).all (· <= reachBytes) = true):∃ a l,IS eC a l /\ (∀ x ∈ l,Raw x) /\ VR (vD W) a v:=by
 obtain ⟨a,⟨v',l,e,h1,h2,-⟩,h3⟩:=RE (Gm W) (Ge Tryz.underlying22 hv) h hw
 cases e
 exact ⟨a,l,h1,h2,h3⟩
end
end
end Go.Proofs.YtmhchflckonklaaGreatDoor
end
section
namespace Go.Proofs.YtmhchflckonklaaGreatDoor.Lb
open Go Go.Ax Go.AxS
section
structure cQ (E:Env):Prop where
 mZ:E.ty 3 = some { kd:=.int .i64,size:=1,bytes:=8,zero:=.int .i64 0 }
 EJ:E.ty 4 = some { kd:=.bool,size:=1,bytes:=1,zero:=.bool false }
 dG:E.ty 9 = some { kd:=.str,size:=1,bytes:=16,zero:=.str [] }
 kI:E.ty 23 = some { kd:=.sl 51,size:=1,bytes:=24,zero:=.aD }
 tA:E.ty 69 = some { kd:=.ptr 80,size:=1,bytes:=8,zero:=.fP }
 uZ:E.ty 76 = some { kd:=.map 51 4,size:=1,bytes:=8,zero:=.bU }
 uY:E.ty 78 = some { kd:=.jC [(0,76)],size:=1,bytes:=8,zero:=.agg [.bU] }
 AO:E.ty 80 = some { kd:=.jC [(0,78)],size:=1,bytes:=8,zero:=.agg [.bU] }
 cP:E.ty 51 = some { kd:=.jC [(0,4),(1,9)],size:=2,bytes:=24,zero:=.agg [.bool false,.str []] }
 Jr:E.ty 135 = some { kd:=.ptr 78,size:=1,bytes:=8,zero:=.fP }
 QW:E.eqs 51 = some [.bool,.str]
 R2:E.hspec 107 = some (kZ 51 [148] [] 109)
 hs15:E.hspec 15 = none
 PD:E.spec 15 = none
 fn15:E.fn 15 = some (aA Tryz.f15)
 md15:E.mode 15 = .eW
 hs48:E.hspec 48 = none
 sp48:E.spec 48 = none
 fn48:E.fn 48 = some (aA Tryz.f48)
 md48:E.mode 48 = .eW
 hs47:E.hspec 47 = none
 sp47:E.spec 47 = none
 fn47:E.fn 47 = some (aA Tryz.f47)
 md47:E.mode 47 = .eW
 hs46:E.hspec 46 = none
 sp46:E.spec 46 = none
 fn46:E.fn 46 = some (aA Tryz.f46)
 md46:E.mode 46 = .shared
 XB:E.hspec 63 = none
 U1:E.spec 63 = none
 Yr:E.fn 63 = some (aA Tryz.f63)
 WD:E.mode 63 = .shared
 hs105:E.hspec 105 = none
 sp105:E.spec 105 = none
 fn105:E.fn 105 = some (aA Tryz.f105)
 md105:E.mode 105 = .shared
 XC:E.hspec 54 = none
 U2:E.spec 54 = none
 Ys:E.fn 54 = some (aA Tryz.f54)
 WE:E.mode 54 = .shared
 hs52:E.hspec 52 = none
 sp52:E.spec 52 = none
 fn52:E.fn 52 = some (aA Tryz.f52)
 md52:E.mode 52 = .eW
 hs53:E.hspec 53 = none
 sp53:E.spec 53 = none
 fn53:E.fn 53 = some (aA Tryz.f53)
 md53:E.mode 53 = .eW
 hs131:E.hspec 131 = none
 sp131:E.spec 131 = none
 fn131:E.fn 131 = some (aA Tryz.f131)
 md131:E.mode 131 = .eW
 hs56:E.hspec 56 = none
 sp56:E.spec 56 = none
 fn56:E.fn 56 = some (aA Tryz.f56)
 md56:E.mode 56 = .eW
 hs55:E.hspec 55 = none
 sp55:E.spec 55 = none
 fn55:E.fn 55 = some (aA Tryz.f55)
 md55:E.mode 55 = .eW
 hs109:E.hspec 109 = none
 sp109:E.spec 109 = none
 fn109:E.fn 109 = some (aA Tryz.f109)
 md109:E.mode 109 = .eW
 hs149:E.hspec 149 = none
 sp149:E.spec 149 = none
 fn149:E.fn 149 = some (aA Tryz.f149)
 md149:E.mode 149 = .eW
 hs183:E.hspec 183 = none
 sp183:E.spec 183 = none
 fn183:E.fn 183 = some (aA Tryz.f183)
 md183:E.mode 183 = .eW
 R1:E.hspec 108 = none
 RS:E.spec 108 = none
 R4:E.fn 108 = some (aA Tryz.f108)
 RW:E.mode 108 = .shared
 hs68:E.hspec 68 = none
 sp68:E.spec 68 = none
 fn68:E.fn 68 = some (aA Tryz.f68)
 md68:E.mode 68 = .eW
 hs16:E.hspec 16 = none
 PC:E.spec 16 = none
 fn16:E.fn 16 = some (aA Tryz.f16)
 md16:E.mode 16 = .eW
 hs42:E.hspec 42 = none
 sp42:E.spec 42 = none
 fn42:E.fn 42 = some (aA Tryz.f42)
 md42:E.mode 42 = .eW
 hs104:E.hspec 104 = none
 sp104:E.spec 104 = none
 fn104:E.fn 104 = some (aA Tryz.f104)
 md104:E.mode 104 = .eW
 hs100:E.hspec 100 = none
 sp100:E.spec 100 = none
 fn100:E.fn 100 = some (aA Tryz.f100)
 md100:E.mode 100 = .eW
 hs130:E.hspec 130 = none
 sp130:E.spec 130 = none
 fn130:E.fn 130 = some (aA Tryz.f130)
 md130:E.mode 130 = .eW
 hs129:E.hspec 129 = none
 sp129:E.spec 129 = none
 fn129:E.fn 129 = some (aA Tryz.f129)
 md129:E.mode 129 = .shared
 XA:E.hspec 97 = none
 U0:E.spec 97 = none
 Yq:E.fn 97 = some (aA Tryz.f97)
 WC:E.mode 97 = .eW
 Zn:aL E (cutAt [1,1,1,1,0,1,2,2,1,1,0,2,1] (aA Tryz.f63).code) = true
 Zt:aL E (cutAt [1,0] (aA Tryz.f52).code) = true
 d131_1:aL E (cutAt [1,0] (aA Tryz.f131).code) = true
 d68_2:aL E (cutAt [1,1,0,2,2,0,0] (aA Tryz.f68).code) = true
 d68_4:aL E (cutAt [1,1,1,0,0] (aA Tryz.f68).code) = true
 z68_6:fA E (opsOf (cutAt [1,1,1,1,0] (aA Tryz.f68).code)) = .lit
 p68_6:cC E .lit (opsOf (cutAt [1,1,1,1,0] (aA Tryz.f68).code)) = some [⟨3,4,true,false⟩,⟨3,9,true,false⟩,⟨6,9,true,false⟩]
 d16_6:aL E (cutAt [1,1,0,1,2,2,1,0,2,0] (aA Tryz.f16).code) = true
 d42_4:aL E (cutAt [1,0,1,2,2,1,0,2,0] (aA Tryz.f42).code) = true
def dR (Z σ':Sg):Prop:=∀ (b t:Nat) (cs:List V) (ex:Bool),Z[b]? = some (.cells t cs ex) -> σ'[b]? = some (.cells t cs ex)
theorem dR.refl (Z:Sg):dR Z Z:=fun _ _ _ _ h=>h
theorem dR.trans {Z Y ρ:Sg} (h:dR Z Y) (k:dR Y ρ):dR Z ρ:=fun b t cs ex e=>k b t cs ex (h b t cs ex e)
theorem j_ {Z:Sg} {b:Nat} {o:O} (h:Z[b]? = some o) (Y:Sg):(Z ++ Y)[b]? = some o:=by
 rw [Z8 (AI.1 h).1]; exact h
theorem dR.app (Z Y:Sg):dR Z (Z ++ Y):=fun _ _ _ _ h=>j_ h Y
theorem dR.ET {Z:Sg} {m:Nat} {es es':List (V × V)} (h:Z[m]? = some (.map es)):dR Z (Z.set m (.map es')):=fun b t cs ex e=>by
 by_cases hb:m = b
 ·subst hb; rw [h] at e; cases e
 ·rw [No hb]; exact e
def SV (Z:Sg) (v:V) (l:List aI):Prop:=
 (v = .aD /\ l = []) \/ (∃ g full,v = .bS g (l.map row) full) \/ ∃ b cs ex,v = .sl b 0 l.length none /\ Z[b]? = some (.cells 51 cs ex) /\ cs.take (l.length * 2) = l.flatMap row
def LV (v:V) (l:List aI):Prop:=(v = .aD /\ l = []) \/ ∃ g full,v = .bS g (l.map row) full
theorem LV.sv {v:V} {l:List aI} (h:LV v l) (Z:Sg):SV Z v l:=h.imp id .inl
theorem SV.keep {Z σ':Sg} {v:V} {l:List aI} (h:SV Z v l) (k:dR Z σ'):SV σ' v l:=by
 rcases h with h | h | ⟨b,cs,ex,h1,h2,h3⟩
 ·exact .inl h
 ·exact .inr (.inl h)
 ·exact .inr (.inr ⟨b,cs,ex,h1,k _ _ _ _ h2,h3⟩)
theorem pR:∀ l:List aI,(l.flatMap row).length = l.length * 2
 | []=>rfl
 | x :: l=>by rw [fh,Z7,pR l,Z0]; show 2 + _ = _; omega
theorem Hh (l:List aI):(l.map row).flatten = l.flatMap row:=by rw [List.flatMap_def]
theorem Kr:∀ (l:List aI) (i:Nat) (x:aI),l[i]? = some x -> ((l.flatMap row).drop (i * 2)).take 2 = row x
 | [],i,x,h=>by simp at h
 | y :: l,0,x,h=>by cases h; rfl
 | y :: l,i + 1,x,h=>by
  rw [show (i + 1) * 2 = i * 2 + 2 by omega]
  show ((row y ++ l.flatMap row).drop (i * 2 + 2)).take 2 = _
  rw [jk,<- List.drop_drop]
  exact Kr l i x h
theorem xU {f:V -> Option V}:∀ l:List V,(∀ x ∈ l,f x = some x) -> aW f l = some l
 | [],_=>rfl
 | x :: l,h=>by
  rw [aW,h x (IN ..),xU l fun y hy=>h y (OF _ hy)]
section
variable {E:Env} {Z:Sg} {K:V -> Sg -> Prop}
theorem Tw (h:cQ E) {v:V} {l:List aI} (hv:SV Z v l):lenOf E Z 23 v = some l.length:=by
 unfold lenOf
 rw [h.kI]
 rcases hv with ⟨rfl,rfl⟩ | ⟨g,full,rfl⟩ | ⟨b,cs,ex,rfl,hb,hc⟩
 ·rfl
 ·simp
 ·rfl
theorem QY (h:cQ E) {v:V} {l:List aI} (hv:SV Z v l) {i:Nat} {x:aI} (hx:l[i]? = some x) :
  ∃ a,indexAddr E 23 v (.int .i64 (i:Int)) = some a /\ ∀ σ',dR Z σ' -> loadAt E σ' 51 a = some (.agg [.bool x.1,.str x.2]):=by
 have hi:=(AI.1 hx).1
 rcases hv with ⟨rfl,rfl⟩ | ⟨g,full,rfl⟩ | ⟨b,cs,ex,rfl,hb,hc⟩
 ·simp at hx
 ·have hr:(l.map row)[((i:Nat):Int).toNat]? = some (row x):=by
   rw [b9,gp,hx]; rfl
  refine ⟨.cW g (row x),?_,fun σ' _=>?_⟩
  ·unfold indexAddr
   simp only [h.kI,h.cP,hr]
   rw [ZM (by omega)]
   rfl
  ·unfold loadAt
   simp only [h.cP]
   rfl
 ·refine ⟨.ref b (0 + i * 2),?_,fun σ' k=>?_⟩
  ·unfold indexAddr
   simp only [h.kI,h.cP,b9]
   rw [ZM (by omega),ZO hi]
  ·have hlen:l.length * 2 <= cs.length:=by
    have:=ZL List.length hc
    rw [ZW,pR] at this
    omega
   unfold loadAt
   simp only [h.cP,k _ _ _ _ hb]
   have e:(cs.drop (0 + i * 2)).take 2 = row x:=by
    have:=Kr l i x hx
    rw [<- hc,List.drop_take,l7] at this
    rw [show min 2 (l.length * 2 - i * 2) = 2 by omega] at this
    rw [an]
    exact this
   rw [show Ax.isAgg (Kd.jC [(0,4),(1,9)]) = true from rfl]
   simp only [ZP]
   rw [ZO (by omega),e]
   rfl
end
end
end Go.Proofs.YtmhchflckonklaaGreatDoor.Lb
end
section
namespace Go.Proofs.YtmhchflckonklaaGreatDoor
open Go Go.Ax Go.ChangeShapes Go.WideShapes Go.ChangeAt Go.RowKit
section
section
variable {H:Type} {enc:TypeId × Value -> H} {W:World} {base:Nat} {v:Value} {d:DataW H} {p:List MemPlace}
theorem RF (hv:Value.okWide Tryz.prog W .any base 3 v):∃ x:Int,v = .int .i64 x /\ IntKind.has .i64 x:=by
 have e2:Tryz.prog.underlying 3 = some (.int .i64):=Tryz.underlying3
 unfold Value.okWide Cell.okWide Cell.ok at hv
 rw [e2] at hv
 cases v with
 | int k n=>exact ⟨n,by rw [show k = IntKind.i64 from hv.1],hv.2⟩
 | _=>exact hv.elim
theorem Aa (hv:Value.okWide Tryz.prog W .any base 51 v) (h:DataW.Trod enc Tryz.prog W 0 (fun _=>true) true 51 v d p) (hw:(DataW.weights Tryz.prog 51 d).all (· <= reachBytes) = true) :
  ∃ (x:Bool) (s:ByteArray),v = .agg #[.bool x,.string s] /\ (Ax.bytes s).length <= 9223372036854775806:=by
 obtain ⟨cs,rfl⟩:∃ cs,v = .agg cs:=by
  unfold Value.okWide at hv
  rw [Tryz.underlying51] at hv
  obtain ⟨cs,h1,_⟩:=hv
  exact ⟨cs,h1⟩
 obtain ⟨fuel,h⟩:=h
 obtain ⟨y0,y1,n,he,hl,u0,u1⟩:=trod_struct2 Tryz.underlying51 h
 have hl':cs.toList.length = 2:=hl.trans (by kernel_rfl)
 obtain ⟨l⟩:=cs
 match l,hl' with
 | [c0,c1],_=>
  obtain ⟨x,e0,_⟩:=DataW.trod_bool Tryz.underlying4 u0
  obtain ⟨s,e1,e1',_⟩:=DataW.trod_string Tryz.underlying9 u1
  have k0:Tryz.prog.cellsOf 4 = 1:=by kernel_rfl
  have k1:Tryz.prog.cellsOf 9 = 1:=by kernel_rfl
  have f0:[c0] = [Value.bool x]:=by rw [<- e0]; rw [k0]; rfl
  have f1:[c1] = [Value.string s]:=by rw [<- e1]; rw [k1]; rfl
  cases f0; cases f1
  refine ⟨x,s,rfl,?_⟩
  have hd:d = .agg [y0.1,y1.1]:=ZL Prod.fst he
  rw [hd,e1'] at hw
  unfold DataW.weights at hw
  rw [Tryz.underlying51] at hw
  simp only [ZQ,map_nil,DataW.weightsEach,DataW.weights,gh,Z3,dw,IT] at hw
  rw [yK]
  have:s.size = s.data.toList.length:=rfl
  have e:reachBytes = 140737488351232:=by decide
  omega
end
theorem Br (W:World) (x:Bool) (s:ByteArray):VR (vD W) (.agg [.bool x,.str (Ax.bytes s)]) (.agg #[.bool x,.string s]):=
 .agg _ [_,_] (.cons _ _ _ _ (.inl (.bool _)) (.cons _ _ _ _ (.inl (.str _)) .nil))
end
end Go.Proofs.YtmhchflckonklaaGreatDoor
end
section
namespace Go.Proofs.YtmhchflckonklaaGreatDoor
open Go Go.Ax
noncomputable def spL:BT (List V -> Option V):=(.node 179 (.node 155 (.leaf 11 (bI t11)) (.leaf 155 oH)) (.node 263 (.leaf 179 lE) (.node 304 (.leaf 263 kK) (.leaf 304 wW))))
noncomputable def LE:Env:=ground.env spL
end Go.Proofs.YtmhchflckonklaaGreatDoor
end
section
namespace Go.Proofs.YtmhchflckonklaaGreatDoor
open Go Go.Ax Go.ChangeShapes Go.WideShapes Go.ChangeAt Go.RowKit
theorem SD:spL.yR (fZ Tryz.prog (ground.env .nil)):=⟨⟨VX,MY⟩,⟨MX,⟨MW,MV⟩⟩⟩
theorem OT {G:Ax.Ground Tryz.prog} (hG:l_ G) (hgl:G.gl = Eb) {s:BT (List V -> Option V)} (hs:s.yR (fZ Tryz.prog (G.env .nil))) {n f:Nat} {vs:List V} {W:World} (hW:W.ShapedOpen Tryz.prog) (h:Ax.call (G.env s) n f vs = some (.bool true)) {xs:List Value} (hv:fB (vD W) vs xs) :
  Calls Tryz.prog f xs.toArray W fun e W'=>e = .returned (.bool true) /\ Below W.heap.size W W':=by
 refine (CO (hG.Og s) (hG.Od hs) mixed h (d:=vD W) rfl (Sw hW hgl) hv).mono ?_
 rintro e w' ⟨x,d',rfl,rfl,h1,h2,h3,h4⟩
 have hx:=h4.iK
 subst hx
 exact ⟨rfl,h2.os,h2.tape,h2.output,h2.size,fun k hk=>(h2.keep k hk fun ⟨b,⟨o,ho,_⟩,_⟩=>by cases ho).1⟩
end Go.Proofs.YtmhchflckonklaaGreatDoor
end
section
namespace Go.Proofs.YtmhchflckonklaaGreatDoor
open Go Go.Ax Go.AxS
section
section
variable {E:Env} {Z:Sg} {K:V -> Sg -> Prop}
theorem Sn (m b o n:Nat):sO (m + 1) (.sl b o n none) (.sl b o n none) = true:=by
 show (decide (b = b) && decide (o = o) && decide (n = n)) = true
 simp
theorem Js (h:bH E) {Y:Sg} {b:Nat} {ex:Bool} {rs:List (List V)} (hl:∀ r ∈ rs,r.length = 5) (hb:Y[b]? = some (.cells 113 rs.flatten ex)) {i:Nat} {r:List V} (hr:rs[i]? = some r) {k:Nat} (hk:k < 5) {u:V} (hu:Ax.bD u = true) :
  storeAt E Y 24 (.ref b (i * 5 + k)) u = some (Y.set b (.cells 113 (rs.set i (r.set k u)).flatten ex)):=by
 have hil:=(AI.1 hr).1
 have hfl:rs.flatten.length = rs.length * 5:=nE rs hl
 unfold storeAt
 simp only [h.a_,hb]
 rw [iZ hu,ZO (by simp only [Z0,ZN,dw,gy,aM hu,jd,Z3,IT]; exact ⟨rfl,by omega⟩),M4 hl hr hk]
theorem J_ (h:bH E) {Y:Sg} {b:Nat} {ex:Bool} {rs:List (List V)} (hl:∀ r ∈ rs,r.length = 5) (hb:Y[b]? = some (.cells 113 rs.flatten ex)) {i:Nat} {r:List V} (hr:rs[i]? = some r) {k:Nat} (hk:k < 5) {u:V} (hu:r[k]? = some u):loadAt E Y 24 (.ref b (i * 5 + k)) = some u:=by
 unfold loadAt
 simp only [h.a_,hb,Ax.isAgg,Z4,ZK]
 rw [pD rs hl i r hr k hk,hu]
theorem NH (h:bH E) {l:List AxS.Step} {s:AxS.Step} {nm:bC} {a' b' c' w:V} {Y:Sg} {i:Nat} (hi:l[i]? = some s) (x0:Y[2]? = some (O.cells 46 [.str nm,a',b',c',w] true)) (ow:bA fS 113 Y w l) (F:FT) (g1:F.get 2 = .ref 1 0) (g3:F.get 3 = .ref 2 0) (g4:F.get 4 = .int .i64 (i:Int)) {st:List jG} {Q:Ax.X -> Fr -> Sg -> Prop}
  (hk:∀ F' τ',(∀ k,k < 44 -> F'.get k = F.get k) -> bA fS 113 τ' w (l.set i (A2 s)) -> Sp Y τ' w -> M E st .normal ⟨86,F'⟩ τ' Q):R E (.region 6 (opsOf (cutAt [1,1,1,0,1,2,2,1,1,0,2,1] (aA Tryz.f111).code)) true) st ⟨86,F⟩ Y Q:=by
 have hil:=(AI.1 hi).1
 rcases ow with ⟨rfl,rfl⟩ | ⟨b,rs,ex,rfl,hb,ha⟩
 ·cases hi
 obtain ⟨r,hr,hP⟩:=ha.get i s hi
 obtain ⟨p,q,rfl,ip,iq⟩:=hP
 have hls:=Lay.lens ha
 have hls:∀ r ∈ rs,r.length = 5:=hls
 obtain ⟨p1,e1,ip1⟩:=Ej h ip 8
 obtain ⟨q1,e2,iq1⟩:=Ej h iq 3
 have lp:=bP h ip.is
 have lq:=bP h iq.is
 have m1:=DX s.args.length 8
 have m2:=DX s.lits.length 3
 have m1:jQ false .i64 (s.args.length:Int) [.int .i64 8] = some ((min s.args.length 8:Nat):Int):=m1
 have m2:jQ false .i64 (s.lits.length:Int) [.int .i64 3] = some ((min s.lits.length 3:Nat):Int):=m2
 have ix:indexAddr E 44 (.sl b 0 l.length none) (.int .i64 (i:Int)) = some (.ref b (i * 5)):=by
  have hneg:¬ ((i:Int) < 0):=by omega
  unfold indexAddr
  simp only [hneg,ZK,h.fI,h.bN,b9,hil,ZP,an]
 have d1:=J_ h hls hb hr (k:=2) (by omega) (u:=p) rfl
 have d2:=J_ h hls hb hr (k:=3) (by omega) (u:=q) rfl
 have s1:=Js h hls hb hr (k:=2) (by omega) (u:=p1) ip1.is.bD
 have hbl:=(AI.1 hb).1
 have hrl:=(AI.1 hr).1
 have hr1:(rs.set i [.str s.out,.int .i64 s.op,p1,q,.int .i64 s.n])[i]? = some [.str s.out,.int .i64 s.op,p1,q,.int .i64 s.n]:=ZV hrl
 have ha1:eP fS.P (rs.set i [.str s.out,.int .i64 s.op,p1,q,.int .i64 s.n]) (l.set i { s with args:=s.args.take 8 }):=ha.set (y:={ s with args:=s.args.take 8 }) ⟨p1,q,rfl,ip1,iq⟩ i
 have hls1:∀ r ∈ rs.set i [.str s.out,.int .i64 s.op,p1,q,.int .i64 s.n],r.length = 5:=Lay.lens ha1
 have s1:storeAt E Y 24 (.ref b (i * 5 + 2)) p1 = some (Y.set b (.cells 113 (rs.set i [.str s.out,.int .i64 s.op,p1,q,.int .i64 s.n]).flatten ex)):=s1
 have hb1:(Y.set b (.cells 113 (rs.set i [.str s.out,.int .i64 s.op,p1,q,.int .i64 s.n]).flatten ex))[b]? = some (.cells 113 (rs.set i [.str s.out,.int .i64 s.op,p1,q,.int .i64 s.n]).flatten ex):=uK hb
 have s2:=Js h hls1 hb1 hr1 (k:=3) (by omega) (u:=q1) iq1.is.bD
 have hb2:b ≠ 2:=fun e=>by subst e; rw [hb] at x0; cases x0
 have x1:(Y.set b (.cells 113 (rs.set i [.str s.out,.int .i64 s.op,p1,q,.int .i64 s.n]).flatten ex))[2]? = some (O.cells 46 [.str nm,a',b',c',.sl b 0 l.length none] true):=pX x0 hb2
 have ldx:∀ Y:Sg,Y[2]? = some (O.cells 46 [.str nm,a',b',c',.sl b 0 l.length none] true) -> loadAt E Y 44 (.ref 2 4) = some (.sl b 0 l.length none):=fun Y hx=>by
  unfold loadAt
  simp only [h.fI,hx,Ax.isAgg,Z4,ZK]
  rfl
 have w0:=ldx _ x0
 have w1:=ldx _ x1
 have v1:=Sn 11 b 0 l.length
 have v2:=fun k i=>Jn 11 k i
 have v3:=cF 10 iq1.is
 generalize hτ1:Y.set b (.cells 113 (rs.set i [.str s.out,.int .i64 s.op,p1,q,.int .i64 s.n]).flatten ex) = τ1 at *
 have key:∃ F',cE E (ev E 0) (opsOf (cutAt [1,1,1,0,1,2,2,1,1,0,2,1] (aA Tryz.f111).code)) ⟨86,F⟩ Y = some (⟨86,F'⟩,τ1.set b (.cells 113 ((rs.set i [.str s.out,.int .i64 s.op,p1,q,.int .i64 s.n]).set i ([V.str s.out,.int .i64 s.op,p1,q,.int .i64 s.n].set 3 q1)).flatten ex)) /\ ∀ k,k < 44 -> F'.get k = F.get k:=by
  unfold cE
  rw [h.Si,h.Tn]
  simp only [aA,Tryz.f111,KP,↓reduceIte,reduceEqDiff,reduceLT,reduceAdd,reduceCtorEq,h.a_,h.fI,h.bK,h.bN,opsOf,cutAt,gL,bF,b_,jW,Ax.comp,Ax.last,gH,Ax.again,aR,g3,g4,w0,w1,ix,d1,d2,lp,lq,m1,m2,e1,e2,s1,s2,v1,v2,v3]
  refine ⟨_,rfl,fun k hk=>?_⟩
  simp only [FT.jZ]
  repeat rw [ZM (by omega)]
 obtain ⟨F',hE,hF⟩:=key
 refine Eq.mpr (gP hE) (hk F' _ hF ?_ ?_)
 ·have hn:(l.set i (A2 s)).length = l.length:=bq
  refine .inr ⟨b,_,ex,by rw [hn],uK hb1,?_⟩
  rw [List.set_set]
  exact ha.set (y:=A2 s) ⟨p1,q1,rfl,ip1,iq1⟩ i
 ·intro c o e hne
  have hcb:b ≠ c:=fun e2=>hne (by rw [e2]; rfl)
  rw [<- hτ1,List.set_set,No hcb]; exact e
theorem E3 {l:List AxS.Step} {i:Nat} {s:AxS.Step} (hi:l[i]? = some s):((l.take i).map A2 ++ l.drop i).set i (A2 s) = (l.take (i + 1)).map A2 ++ l.drop (i + 1):=by
 have hil:=(AI.1 hi).1
 have h1:((l.take i).map A2).length = i:=by rw [ZS,ZW]; omega
 rw [js _ _ (by omega),h1,gz,List.drop_eq_getElem_cons hil,ij,bh,hi]
 simp
theorem Ma (h:bH E) {v:V} {x:aC} (hv:HN v x) (hx:Raw x):aB E 111 [v] Z fun v' σ'=>σ' = Z /\ ∃ a b c d,v' = .agg [.str x.name,a,b,c,d] /\ jT aO a (cut x).ins /\ jT aO b (cut x).outs /\ jT aO c (cut x).after /\ jT fS d (cut x).steps:=by
 have ev:=hv.snap (E:=E) Z
 obtain ⟨a,b,c,d,rfl,ia,ib,ic,id⟩:=hv
 rw [aH h.Yi h.VI h.Y6 h.Xn (args':=[.agg [.str x.name,a,b,c,d]]) (by simp only [aW,ev]),aX (by kernel_rfl)]
 have ha:=aM ia.bD
 have hb:=aM ib.bD
 have hc:=aM ic.bD
 have hd:=aM id.bD
 simp only [aA,Tryz.f111,KP,↓reduceIte,reduceLT,reduceAdd,h.bK,ha,hb,hc,hd]
 refine NI h ia ib ic id _ ?_ ?_ ?_
 ·exact (by simp +decide only [GS])
 ·exact (by simp +decide only [GS])
 intro F1 a1 b1 c1 d1 g1 g2 g3 i1 i2 i3 i4
 simp only [KP,Ax.loadAt,↓reduceIte,reduceLT,reduceAdd,h.bK,g3]
 refine aP (Ux h (x:=qW x) ⟨a1,b1,c1,d1,rfl,i1,i2,i3,i4⟩ hx.mid) ?_
 rintro v1 Y ⟨⟨a2,b2,c2,w,rfl,j1,j2,j3,ow,hw⟩,kp⟩
 have o1:=aM j1.is.bD
 have o2:=aM j2.is.bD
 have o3:=aM j3.is.bD
 obtain ⟨hc1,hc2⟩:=qJ ow
 have z0:Y[1]? = some (O.cells 46 [.str [],.aD,.aD,.aD,.aD] true):=kp 1 _ rfl
 have x0:=kp 2 _ (show ([O.cells 46 [.str x.name,a,b,c,d] true,O.cells 46 [.str [],.aD,.aD,.aD,.aD] true,O.cells 46 [.str x.name,a1,b1,c1,d1] true]:Sg)[2]? = _ from rfl)
 have hw3:∀ k,aQ w = some k -> 3 <= k:=hw
 have x1:=uK (x:=O.cells 46 [.str x.name,a2,b2,c2,w] true) x0
 have z1:=pX (x:=O.cells 46 [.str x.name,a2,b2,c2,w] true) z0 (show (2:Nat) ≠ 1 by omega)
 have ow1:bA fS 113 (Y.set 2 (O.cells 46 [.str x.name,a2,b2,c2,w] true)) w (qW x).steps:=ow.keep fun k o hk ho=>pX ho (fun e=>by have:=hw3 k hk; omega)
 have nm0:(qW x).name = x.name:=rfl
 have lw:∀ l:List AxS.Step,l.length = (qW x).steps.length -> ∀ Z,bA fS 113 Z w l -> lenOf E Z 44 w = some (qW x).steps.length:=fun l hl Z o=>by rw [<- hl]; exact nM h.fI rfl o.ls
 have lw1:=lw _ rfl _ ow1
 simp only [KP,Ax.loadAt,Ax.storeAt,↓reduceIte,reduceEqDiff,reduceLT,reduceAdd,reduceCtorEq,h.fI,h.bK,g3,nm0,x0,x1,lw1,o1,o2,o3,hc2]
 generalize Y.set 2 (O.cells 46 [.str x.name,a2,b2,c2,w] true) = Y at *
 refine aV (fun i F Y=>Y[1]? = some (O.cells 46 [.str [],.aD,.aD,.aD,.aD] true) /\ Y[2]? = some (O.cells 46 [.str x.name,a2,b2,c2,w] true) /\ bA fS 113 Y w (((qW x).steps.take i).map A2 ++ (qW x).steps.drop i) /\ F.get 2 = .ref 1 0 /\ F.get 3 = .ref 2 0 /\ F.get 40 = .int .i64 ((qW x).steps.length:Int) /\ F.get 41 = .int .i64 (i:Int)) (qW x).steps.length ?_ ?_ (qW x).steps.length 0 _ _ (by omega) ⟨z1,x1,by simpa using ow1,(by simp +decide only [GS,g2,g3,Z5])⟩
 ·rintro i F Y hi ⟨z0,x0,ow,g2,g3,g40,g41⟩ next
  obtain ⟨s,hst⟩:∃ y,(qW x).steps[i]? = some y:=⟨_,AT hi⟩
  have hlt:=dZ hi
  have hsz:(qW x).steps.length <= 14:=by show (x.steps.take 14).length <= 14; rw [ZW]; omega
  have hadd:=bY i (by omega)
  have hli:(((qW x).steps.take i).map A2 ++ (qW x).steps.drop i)[i]? = some s:=by
   rw [ZR (by rw [ZS,ZW]; omega),ZS,ZW,show i - min i (qW x).steps.length = 0 by omega,ec,jl,hst]
  rw [aG]
  simp only [KP,↓reduceIte,reduceEqDiff,reduceLT,g40,g41,hlt]
  refine NH h hli x0 ow _ ?_ ?_ ?_ ?_
  ·exact (by simp +decide only [GS,g2])
  ·exact (by simp +decide only [GS,g3])
  ·exact (by simp +decide only [GS])
  intro F2 τ2 hF ow2 sp
  have k2:F2.get 2 = .ref 1 0:=by rw [hF 2 (by omega)]; exact (by simp +decide only [GS,g2])
  have k3:F2.get 3 = .ref 2 0:=by rw [hF 3 (by omega)]; exact (by simp +decide only [GS,g3])
  have k40:F2.get 40 = .int .i64 ((qW x).steps.length:Int):=by rw [hF 40 (by omega)]; exact (by simp +decide only [GS,g40])
  have k41:F2.get 41 = .int .i64 (i:Int):=by rw [hF 41 (by omega)]; exact (by simp +decide only [GS,g41])
  simp only [KP,↓reduceIte,reduceLT,k41,hadd]
  rw [E3 hst] at ow2
  exact next _ _ ⟨sp _ _ z0 (tL z0 (by decide) ow),sp _ _ x0 (tL x0 (by decide) ow),ow2,(by simp +decide only [GS,k2,k3,k40,Z5])⟩
 ·rintro F Y ⟨z0,x0,ow,g2,g3,g40,g41⟩
  have hlt:=d_ (ZT (qW x).steps.length)
  rw [Z6 (Z1 _),jm (Z1 _),cw] at ow
  have hne:=tL z0 (show 46 ≠ 113 by decide) ow
  have zz:=uK (x:=O.cells 46 [.str x.name,a2,b2,c2,w] true) z0
  have ow3:bA fS 113 (Y.set 1 (O.cells 46 [.str x.name,a2,b2,c2,w] true)) w ((qW x).steps.map A2):=ow.keep fun k o hk ho=>pX ho (fun e=>by rw [<- e] at hk; exact hne hk)
  rw [aG]
  simp only [KP,Ax.loadAt,Ax.storeAt,↓reduceIte,reduceEqDiff,reduceLT,reduceAdd,h.bK,g2,g3,g40,g41,hlt,x0,z0,zz,o1,o2,o3,hc2]
  generalize Y.set 1 (O.cells 46 [.str x.name,a2,b2,c2,w] true) = Y at *
  obtain ⟨d',e1,id'⟩:=oI h.bN rfl Ih ow3
  have one:∀ {u:V},Ax.bD u = true -> cH false u = true -> aS.one Y E.ty false u = some u:=fun {u} h1 h2=>by
   have h3:=cN (Z:=Y) (ty:=E.ty) (g:=false) h1 h2
   cases u <;> first | exact h3 | cases h1
  have oned:aS.one Y E.ty false w = some d':=by
   rcases ow3 with ⟨rfl,-⟩ | ⟨b,rs,ex,rfl,-⟩
   ·exact e1
   ·exact e1
  have hsn:cK Y E.ty false (.agg [.str x.name,a2,b2,c2,w]) = some (.agg [.str x.name,a2,b2,c2,d']):=by
   show (match aW (aS.one Y E.ty false) [.str x.name,a2,b2,c2,w] with
    | some l=>some (V.agg l)
    | none=>none) = _
   simp only [aW,one (u:=.str x.name) rfl rfl,one j1.is.bD j1.tag,one j2.is.bD j2.tag,one j3.is.bD j3.tag,oned]
  rw [hsn]
  exact ⟨a2,b2,c2,d',rfl,j1,j2,j3,id'⟩
end
end
section
section
variable {E:Env} {Z:Sg} {K:V -> Sg -> Prop}
def mK:Lay aC:=⟨fun r x=>∃ a b c d,r = [.str x.name,a,b,c,d] /\ jT aO a x.ins /\ jT aO b x.outs /\ jT aO c x.after /\ jT fS d x.steps,5,fun _ _ ⟨_,_,_,_,h,_⟩=>by rw [h]; rfl,fun _ _ ⟨a,b,c,d,h,h1,h2,h3,h4⟩ k hk=>by
 rw [h] at hk
 simp only [By,ZY,bt] at hk
 rcases hk with rfl | rfl | rfl | rfl | rfl
 ·rfl
 ·exact h1.is.bD
 ·exact h2.is.bD
 ·exact h3.is.bD
 ·exact h4.is.bD⟩
theorem BQ:∀ r x,mK.P r x -> ∀ k ∈ r,cH false k = true:=fun r x ⟨a,b,c,d,h,h1,h2,h3,h4⟩ k hk=>by
 rw [h] at hk
 simp only [By,ZY,bt] at hk
 rcases hk with rfl | rfl | rfl | rfl | rfl
 ·rfl
 ·exact h1.tag
 ·exact h2.tag
 ·exact h3.tag
 ·exact h4.tag
theorem rT {α:Type} {L M:Lay α} {v:V} {l:List α} (h:IS L v l) (k:∀ r x,L.P r x -> M.P r x):IS M v l:=h.imp id fun ⟨g,rs,full,e,ha⟩=>⟨g,rs,full,e,ha.imp k⟩
theorem P9 {α:Type} {L M:Lay α} {t:Nat} {Z:Sg} {v:V} {l:List α} (h:LS L t Z v l) (hn:L.n = M.n) (k:∀ r x,L.P r x -> M.P r x):LS M t Z v l:=h.imp (fun h=>rT h k) fun ⟨b,cs,ex,rs,e,hb,ha,hc⟩=>⟨b,cs,ex,rs,e,hb,ha.imp k,by rw [<- hn]; exact hc⟩
theorem rE:∀ r x,fS.P r x -> eZ.P r x:=fun r x ⟨a,l,h,h1,h2⟩=>⟨a,l,h,h1.is,h2.is⟩
theorem vU:∀ r x,mK.P r x -> eC.P r x:=fun r x ⟨a,b,c,d,h,h1,h2,h3,h4⟩=>⟨a,b,c,d,h,h1.is,h2.is,h3.is,rT h4.is rE⟩
theorem HG (h:bH E) {Y:Sg} {w a b c d:V} {l:List aC} {r:aC} {ex:Bool} (ow:bA mK 46 Y w l) (h1:jT aO a r.ins) (h2:jT aO b r.outs) (h3:jT aO c r.after) (h4:jT fS d r.steps) (hb:l.length <= 1000) :
  ∃ w' τ',Ax.append E (Y ++ [.cells 46 [.str r.name,a,b,c,d] ex]) #[22,22] w (.sl Y.length 0 1 none) = some (w',τ') /\ bA mK 46 τ' w' (l ++ [r]) /\ Sp (Y ++ [.cells 46 [.str r.name,a,b,c,d] ex]) τ' w /\ Y.length <= τ'.length:=by
 obtain ⟨w',τ',q1,q2,q3,q4,-⟩:=gT (m:=[r]) (new:=[[.str r.name,a,b,c,d]]) h.Bt rfl h.bK rfl (by decide) (tK h) rfl (ow.app [.cells 46 [.str r.name,a,b,c,d] ex]) (mN rfl) (.one ⟨a,b,c,d,rfl,h1,h2,h3,h4⟩) (dD (b:=1001) (by decide) (by simp only [Z0,ZN]; omega))
 exact ⟨w',τ',q1,q2,q3,by simp only [Z7,Z0,ZN] at q4; omega⟩
theorem Ja (h:bH E) {a:V} {rs:List aC} (ha:LS eC 46 Z a rs) (hr:∀ x ∈ rs,Raw x):aB E 59 [a] Z fun v σ'=>σ' = Z /\ jT mK v ((rs.take 42).map cut):=by
 obtain ⟨a',ea,ia⟩:=eX h ha
 rw [aH h.hs59 h.sp59 h.fn59 h.md59 (args':=[a']) (by simp only [aW,ea]),aX (by kernel_rfl)]
 have la:=cV h ia
 simp only [aA,Tryz.f59,KP,↓reduceIte,reduceLT]
 refine aV (fun i F Y=>F.get 0 = a' /\ F.get 4 = .int .i64 (i:Int) /\ ∃ w,F.get 3 = w /\ bA mK 46 Y w ((rs.take i).map cut)) (min rs.length 42) ?_ ?_ (min rs.length 42) 0 _ _ (by omega) (lH (by simp +decide only [GS,Z5]) ⟨.aD,(by simp +decide only [GS]),.inl ⟨rfl,rfl⟩⟩)
 ·rintro i F Y hi ⟨g0,g4,w,g3,ow⟩ next
  obtain ⟨r,hri⟩:∃ y,rs[i]? = some y:=⟨_,AT (by omega)⟩
  have hraw:=hr r (Z2 hri)
  obtain ⟨g,p1,p2,p3,p4,e1,i1,i2,i3,i4⟩:=fF h ia hri
  have hlt:=dZ (show i < rs.length by omega)
  have hlt2:decide ((i:Int) < 42) = true:=BY (by omega)
  have hadd:=bY i (by omega)
  rw [aG]
  simp only [KP,Ax.loadAt,↓reduceIte,reduceEqDiff,reduceLT,reduceAdd,reduceCtorEq,h.bK,g0,g3,g4,la,hlt,hlt2,e1]
  refine aP (Ma h (M7 i1 i2 i3 i4) hraw) ?_
  rintro v σ' ⟨rfl,a1,b1,c1,d1,rfl,j1,j2,j3,j4⟩
  have o1:=aM j1.is.bD
  have o2:=aM j2.is.bD
  have o3:=aM j3.is.bD
  have o4:=aM j4.is.bD
  have hnm:r.name = (cut r).name:=rfl
  obtain ⟨w',τ',ha2,ow2,-,-⟩:=HG (r:=cut r) (ex:=true) h ow j1 j2 j3 j4 (by rw [ZS,ZW]; omega)
  rw [<- hnm] at ha2
  simp only [KP,↓reduceIte,reduceEqDiff,reduceLT,reduceLeDiff,reduceAdd,reduceMul,h.Bt,h.bK,g4,ha2,hadd,o1,o2,o3,o4,Ax.fill,iA,dz]
  refine next _ _ (lH (by simp +decide only [GS,g0,Z5]) ⟨w',(by simp +decide only [GS]),?_⟩)
  have e:(rs.take (i + 1)).map cut = (rs.take i).map cut ++ [cut r]:=by rw [bh,hri]; simp
  rw [e]
  exact ow2
 ·rintro F Y ⟨g0,g4,w,g3,ow⟩
  obtain ⟨v',e1,iv⟩:=oI h.bK rfl BQ ow
  have ht:rs.take (min rs.length 42) = rs.take 42:=wV rs 42
  rw [ht] at iv
  rw [aG]
  by_cases hlen:rs.length <= 42
  ·have hm:min rs.length 42 = rs.length:=kg hlen
   rw [hm] at g4
   have hlt:=d_ (ZT rs.length)
   simp only [KP,↓reduceIte,reduceEqDiff,reduceLT,reduceCtorEq,g0,g3,g4,la,hlt,e1]
   exact iv
  ·have hm:min rs.length 42 = 42:=Nat.min_eq_right (by omega)
   rw [hm] at g4
   have hlt:decide (((42:Nat):Int) < (rs.length:Int)) = true:=BY (by omega)
   have hlt2:decide (((42:Nat):Int) < 42) = false:=rfl
   simp only [KP,↓reduceIte,reduceEqDiff,reduceLT,reduceCtorEq,g0,g3,g4,la,hlt,hlt2,e1]
   exact iv
end
end
section
section
variable {E:Env} {Z:Sg} {K:V -> Sg -> Prop}
theorem QG (h:bH E) {Y:Sg} {w a b c d:V} {l:List aC} {r:aC} {y:Nat} (ow:bA mK 46 Y w l) (hy:Y[y]? = some (.cells 46 [.str r.name,a,b,c,d] true)) (j1:jT aO a r.ins) (j2:jT aO b r.outs) (j3:jT aO c r.after) (j4:jT fS d r.steps) (hs:∀ x ∈ l ++ [r],Small x) (hl:l.length <= 14)
  (F:FT) (g3:F.get 3 = w) (g5:F.get 5 = .ref y 0) {st:List jG} {Q:Ax.X -> Fr -> Sg -> Prop}
  (hk:∀ F' τ' e,(∀ k,k ∈ [0,3,5,9,10,11] -> F'.get k = F.get k) -> F'.get 6 = .int .i64 e -> HQ (l ++ [r]) e -> (∀ (k:Nat) (o:O),Y[k]? = some o -> τ'[k]? = some o) -> M E st .normal ⟨37,F'⟩ τ' Q):R E (.region 5 (opsOf (cutAt [1,1,0,1,2,2,1,1,0,2,1,0] (aA Tryz.f12).code)) true) st ⟨37,F⟩ Y Q:=by
 obtain ⟨rs,ee,hee⟩:=Oh (t:=46) (Z:=Y) ow.ls
 obtain ⟨w1,τ1,ha1,ow1,Pd,-,fb⟩:=gT (ats:=#[22,22]) (Z:=Y) (w:=.aD) (l:=[]) (L:=mK) (x:=w) (m:=l) h.Bt rfl h.bK rfl (by decide) (tK h) rfl (.inl ⟨rfl,rfl⟩) ee hee (dD (b:=1000) (by decide) (by simp only [ZN]; omega))
 obtain ⟨w2,τ2,ha2,ow2,Mn,-,-⟩:=gT (ats:=#[22,22]) (Z:=τ1) (x:=.bS false [[.str r.name,a,b,c,d]] true) (m:=[r]) (new:=[[.str r.name,a,b,c,d]]) h.Bt rfl h.bK rfl (by decide) (tK h) rfl ow1 rfl (.one ⟨a,b,c,d,rfl,j1,j2,j3,j4⟩) (dD (b:=1000) (by decide) (by simp only [af,Z0,ZN]; omega))
 rw [af] at ow2
 have hy1:τ1[y]? = some (.cells 46 [.str r.name,a,b,c,d] true):=Pd _ _ hy (by intro e; cases e)
 have hall:=OA (Z:=τ2) h (P9 ow2.ls rfl vU) ⟨by simp only [Z7,Z0,ZN]; omega,hs⟩
 obtain ⟨n,v,σ',hcall,hσ,e,nm,rfl,hE⟩:=hall
 rw [hσ] at hcall
 clear hσ σ'
 have o1:=aM j1.is.bD
 have o2:=aM j2.is.bD
 have o3:=aM j3.is.bD
 have o4:=aM j4.is.bD
 have t1:=j1.tag
 have t2:=j2.tag
 have t3:=j3.tag
 have t4:=j4.tag
 have ts:cH false (.str r.name) = true:=rfl
 have v1:=cF 10 j1.is
 have v2:=cF 10 j2.is
 have v3:=cF 10 j3.is
 have v4:=oD 9 (rT j4.is rE)
 have vs:=wR 10 r.name
 have va:sO 12 (.agg [.str r.name,a,b,c,d]) (.agg [.str r.name,a,b,c,d]) = true:=pJ fun x hx=>by
  simp only [By,ZY,bt] at hx
  rcases hx with rfl | rfl | rfl | rfl | rfl
  ·exact vs
  ·exact cF 9 j1.is
  ·exact cF 9 j2.is
  ·exact cF 9 j3.is
  ·exact oD 8 (rT j4.is rE)
 have key:∃ F',cE E (ev E n) (opsOf (cutAt [1,1,0,1,2,2,1,1,0,2,1,0] (aA Tryz.f12).code)) ⟨37,F⟩ Y = some (⟨37,F'⟩,τ2) /\ (∀ k,k ∈ [0,3,5,9,10,11] -> F'.get k = F.get k) /\ F'.get 6 = .int .i64 e:=by
  unfold cE
  rw [h.US,h.Wt]
  simp only [aA,Tryz.f12,KP,Ax.loadAt,↓reduceIte,reduceEqDiff,reduceLT,reduceLeDiff,reduceAdd,reduceMul,h.Bt,h.bK,opsOf,cutAt,Fz.lits,Fz.apps,gL,bF,b_,jW,Ax.comp,Ax.last,gH,Ax.again,xX,Ax.fill,iA,Ax.rows,dz,g3,g5,hy,hy1,ha1,ha2,hcall,o1,o2,o3,o4,t1,t2,t3,t4,ts,va]
  refine ⟨_,rfl,fun k hk=>?_,(by simp +decide only [GS])⟩
  simp only [By,ZY,bt] at hk
  rcases hk with rfl | rfl | rfl | rfl | rfl | rfl <;> simp +decide only [GS]
 obtain ⟨F',hD,h1,h2⟩:=key
 refine Eq.mpr (gP hD) (hk F' τ2 e h1 h2 hE fun k o ho=>?_)
 have h1':=Pd _ _ ho (by intro e; cases e)
 refine Mn _ _ h1' fun e=>?_
 rcases fb _ e with hb | hb
 ·cases hb
 ·exact absurd (AI.mp ho).1 (by omega)
theorem OW (h:bH E) {v:V} {l:List aC} (ia:IS mK v l) {i:Nat} {x:aC} (hx:l[i]? = some x):∃ g a b c d,indexAddr E 22 v (.int .i64 (i:Int)) = some (.cW g [.str x.name,a,b,c,d]) /\ jT aO a x.ins /\ jT aO b x.outs /\ jT aO c x.after /\ jT fS d x.steps:=by
 obtain ⟨g,r,e,a,b,c,d,hr,h1⟩:=IS.at h.Bt rfl h.bK rfl ia hx
 exact ⟨g,a,b,c,d,by rw [e,hr],h1⟩
theorem Gi:mX []:=⟨rfl,fun ⟨i,hi,_⟩=>absurd hi (by simp)⟩
theorem Uv (h:bH E) {a:V} {rs:List aC} (ha:LS eC 46 Z a rs) (hr:∀ x ∈ rs,Raw x):aB E 12 [a] Z fun v σ'=>σ' = Z /\ ∃ l,jT mK v l /\ mX l /\ l.length <= 14 /\ ∀ x ∈ l,Small x:=by
 obtain ⟨a',ea,ia⟩:=eX h ha
 rw [aH h.hs12 h.MS h.fn12 h.md12 (args':=[a']) (by simp only [aW,ea]),aX (by kernel_rfl)]
 simp only [aA,Tryz.f12,KP,↓reduceIte,reduceLT,reduceCtorEq]
 refine aP (Ja h (ia.ls [] 46) hr) ?_
 rintro v σ' ⟨rfl,iv⟩
 have sm:∀ x ∈ (rs.take 42).map cut,Small x:=fun x hx=>by
  obtain ⟨y,-,rfl⟩:=ah.1 hx
  exact LQ y
 have hl42:((rs.take 42).map cut).length <= 42:=by rw [ZS,ZW]; omega
 generalize (rs.take 42).map cut = ls at iv sm hl42
 have la:=cV h (rT iv.is vU)
 simp only [KP,↓reduceIte,reduceLT,la]
 refine aV (fun i F Y=>F.get 9 = v /\ F.get 10 = .int .i64 (ls.length:Int) /\ F.get 11 = .int .i64 (i:Int) /\ ∃ w l,F.get 3 = w /\ bA mK 46 Y w l /\ mX l /\ l.length <= 14 /\ ∀ x ∈ l,Small x) ls.length ?_ ?_ ls.length 0 _ _ (by omega) (iU (by simp +decide only [GS,Z5]) ⟨.aD,[],(by simp +decide only [GS]),.inl ⟨rfl,rfl⟩,Gi,by simp,fun x hx=>by cases hx⟩)
 ·rintro i F Y hi ⟨g9,g10,g11,w,l,g3,ow,hok,hlen,hsm⟩ next
  obtain ⟨r,hri⟩:∃ y,ls[i]? = some y:=⟨_,AT (by omega)⟩
  have hrs:=sm r (Z2 hri)
  obtain ⟨g,p1,p2,p3,p4,e1,i1,i2,i3,i4⟩:=OW h iv.is hri
  have hlt:=dZ hi
  have hadd:=bY i (by omega)
  rw [aG]
  have o1:=aM i1.is.bD
  have o2:=aM i2.is.bD
  have o3:=aM i3.is.bD
  have o4:=aM i4.is.bD
  simp only [KP,Ax.loadAt,Ax.storeAt,↓reduceIte,reduceEqDiff,reduceLT,reduceAdd,h.bK,g9,g10,g11,hlt,e1,o1,o2,o3,o4,aK,bV]
  refine QG h (ow.app _) (y:=Y.length) ?_ i1 i2 i3 i4 ?_ hlen _ ?_ ?_ ?_
  ·simp
  ·intro x hx
   rcases aa.1 hx with hx | hx
   ·exact hsm x hx
   ·rw [ae.1 hx]; exact hrs
  ·exact (by simp +decide only [GS,g3])
  ·exact (by simp +decide only [GS])
  intro F' τ' e hF h6 hE hT
  have q3:F'.get 3 = w:=(hF 3 (by simp)).trans (show _ = w by simp only [FT.jZ,reduceEqDiff,↓reduceIte,g3])
  have q5:F'.get 5 = .ref Y.length 0:=(hF 5 (by simp)).trans (by simp +decide only [GS])
  have q9:F'.get 9 = v:=(hF 9 (by simp)).trans (by simp +decide only [GS,g9])
  have FE:F'.get 10 = .int .i64 (ls.length:Int):=(hF 10 (by simp)).trans (by simp +decide only [GS,g10])
  have HU:F'.get 11 = .int .i64 (i:Int):=(hF 11 (by simp)).trans (by simp +decide only [GS,g11])
  have ow':bA mK 46 τ' w l:=(ow.app [O.cells 46 [.str r.name,p1,p2,p3,p4] true]).keep fun c o _ hc=>hT c o hc
  have hy:τ'[Y.length]? = some (O.cells 46 [.str r.name,p1,p2,p3,p4] true):=hT _ _ (by simp)
  have lw:=nM h.Bt rfl ow'.ls
  have hz:=hE.zero
  by_cases he:e = 0
  ·have c1:decide (e = 0) = true:=BY he
   by_cases h14:l.length < 14
   ·have c2:decide ((l.length:Int) < 14) = true:=BY (by omega)
    obtain ⟨w2,τ2,ha2,ow2,-,-⟩:=HG (ex:=true) h ow' i1 i2 i3 i4 (by omega)
    simp only [KP,Ax.loadAt,↓reduceIte,reduceEqDiff,reduceLT,reduceLeDiff,reduceAdd,reduceMul,h.Bt,h.bK,q3,q5,HU,h6,lw,c1,c2,hy,hadd,ha2,o1,o2,o3,o4,Ax.fill,iA,dz]
    refine next _ _ (iU (by simp +decide only [GS,q9,FE,Z5]) ⟨w2,l ++ [r],(by simp +decide only [GS]),ow2,hz.1 he,?_,?_⟩)
    ·rw [Z7,cq]; omega
    ·intro x hx
     rcases aa.1 hx with hx | hx
     ·exact hsm x hx
     ·rw [ae.1 hx]; exact hrs
   ·have c2:decide ((l.length:Int) < 14) = false:=AS (by omega)
    simp only [KP,↓reduceIte,reduceEqDiff,reduceLT,q3,HU,h6,lw,c1,c2,hadd]
    exact next _ _ (iU (by simp +decide only [GS,q9,FE,Z5]) ⟨w,l,(by simp +decide only [GS,q3]),ow',hok,hlen,hsm⟩)
  ·have c1:decide (e = 0) = false:=AS he
   simp only [KP,↓reduceIte,reduceEqDiff,reduceLT,HU,h6,c1,hadd]
   exact next _ _ (iU (by simp +decide only [GS,q9,FE,Z5]) ⟨w,l,(by simp +decide only [GS,q3]),ow',hok,hlen,hsm⟩)
 ·rintro F Y ⟨g9,g10,g11,w,l,g3,ow,hok,hlen,hsm⟩
  obtain ⟨v',e1,iv⟩:=oI h.bK rfl BQ ow
  have hlt:=d_ (ZT ls.length)
  rw [aG]
  simp only [KP,↓reduceIte,reduceEqDiff,reduceLT,g3,g10,g11,hlt,e1]
  exact ⟨l,iv,hok,hlen,hsm⟩
end
end
end Go.Proofs.YtmhchflckonklaaGreatDoor
end
