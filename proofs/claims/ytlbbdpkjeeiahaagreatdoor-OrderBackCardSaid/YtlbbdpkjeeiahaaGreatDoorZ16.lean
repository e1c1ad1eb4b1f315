/- Part 16 of the proof. -/
import Derived.Test.YtlbbdpkjeeiahaaGreatDoorZ15
import Derived.Test.YtlbbdpkjeeiahaaGreatDoorZ2
import Derived.Deep.Slices
import Derived.Test.YtlbbdpkjeeiahaaGreatDoorZ3
import Derived.Deep.SlicePairs
import Derived.KernelRfl
import Derived.Test.YtlbbdpkjeeiahaaGreatDoorZ14
set_option maxHeartbeats 8000000
set_option linter.unusedVariables false
set_option maxRecDepth 100000
open Nat (reduceEqDiff reduceLT reduceAdd reduceLeDiff reduceMul)
open List (mem_append getElem?_append_left getElem?_set_self getElem?_set_ne length_set length_cons length_nil map_congr_left length_take append_assoc getElem?_take getElem?_append_right length_map length_range length_singleton getElem?_drop set_cons_zero mem_map drop_zero take_of_length_le map_map mem_range take_add_one mem_of_getElem? flatten_cons length_append mem_cons mem_cons_self map_cons map_nil)
open Int (reduceNeg)
section
namespace Go.Proofs.YtlbbdpkjeeiahaaGreatDoor
open Go Go.Ax Go.AxS
section
section
variable {E:Env} {Z:Sg} {K:V -> Sg -> Prop}
theorem Nq (x:aG):fA x = (!kC x.ins && (!kC x.outs && (!kC x.after && (!decide (x.name ∈ x.after) && (gW x.ins x.steps && x.outs.all fun o=>!decide (o ∈ x.ins) && decide (o ∈ x.steps.map Step.out)))))):=by
 unfold fA
 rw [Bool.eq_iff_iff]
 simp only [Bool.and_eq_true,List.all_eq_true,decide_eq_true_eq,Bool.not_eq_true',decide_eq_false_iff_not,mem_append]
 constructor
 ·rintro ⟨⟨⟨⟨⟨⟨h1,h2⟩,h3⟩,h4⟩,h5⟩,h6⟩,h7⟩
  exact ⟨h1,h2,h3,h4,h6,fun o ho=>⟨h5 o ho,(h7 o ho).resolve_left (h5 o ho)⟩⟩
 ·rintro ⟨h1,h2,h3,h4,h6,h7⟩
  exact ⟨⟨⟨⟨⟨⟨h1,h2⟩,h3⟩,h4⟩,fun o ho=>(h7 o ho).1⟩,h6⟩,fun o ho=>.inr (h7 o ho).2⟩
theorem LI (h:bM E) {v:V} {x:aG} (hv:Hl v x) (hx:Small x):aB E 60 [v] Z K = K (.int .i64 (bB x)) Z:=by
 refine aB.of ?_
 have ev:=hv.snap (E:=E) Z
 obtain ⟨a,b,c,d,rfl,ia,ib,ic,id⟩:=hv
 have a1:=hx.ins
 have a2:=hx.outs
 have a3:=hx.after
 have a4:=hx.steps
 rw [aH h.hs60 h.sp60 h.fn60 h.md60 (args':=[.agg [.str x.name,a,b,c,d]]) (by simp only [aX,ev]),aZ (by kernel_rfl)]
 have ha:=aJ ia.bD
 have hb:=aJ ib.bD
 have hc:=aJ ic.bD
 have hd:=aJ id.bD
 have la:=bN h ia
 have lb:=bN h ib
 have lc:=bN h ic
 have ld:=kY h id
 have kf:=fun (Y:Sg)=>S3 (Z:=Y) h (v:=.agg [.str x.name,a,b,c,d]) (x:=x) ⟨a,b,c,d,rfl,ia,ib,ic,id⟩ hx
 have key:=fun F g1 hk=>HU (K:=fun v σ1=>match cP σ1 E.ty false v with
    | some v=>v = .int .i64 (bB x)
    | none=>False) h ia ib id hx (c:=c) F g1 hk
 rw [show (aA Tryz.f60).code = .seq (cutAt [0] (aA Tryz.f60).code) (.seq (cutAt [1,0] (aA Tryz.f60).code) (cutAt [1,1] (aA Tryz.f60).code)) from rfl]
 generalize cutAt [1,1] (aA Tryz.f60).code = C at *
 by_cases f:j_ x = true
 case neg=>
  have f:j_ x = false:=by simpa using f
  rw [show bB x = 1 from if_pos f]
  simp only [aA,Tryz.f60,KP,Ax.loadAt,↓reduceIte,reduceEqDiff,reduceLT,reduceAdd,h.bK,cutAt,ha,hb,hc,hd,kf,f]
  exact rfl
 have r1:bB x = if long x = true then 4 else if fA x = false then 2 else 0:=if_neg (by simp [f])
 have q1:decide ((8:Int) < (x.ins.length:Int)) = decide (8 < x.ins.length):=by rw [Bool.eq_iff_iff]; simp only [decide_eq_true_eq]; omega
 have q2:decide ((4:Int) < (x.outs.length:Int)) = decide (4 < x.outs.length):=by rw [Bool.eq_iff_iff]; simp only [decide_eq_true_eq]; omega
 have q3:decide ((8:Int) < (x.after.length:Int)) = decide (8 < x.after.length):=by rw [Bool.eq_iff_iff]; simp only [decide_eq_true_eq]; omega
 have q4:decide ((12:Int) < (x.steps.length:Int)) = decide (12 < x.steps.length):=by rw [Bool.eq_iff_iff]; simp only [decide_eq_true_eq]; omega
 by_cases hl:long x = true
 ·rw [r1,if_pos hl]
  unfold long at hl
  cases l1:decide (8 < x.ins.length) with
  | true=>
   simp only [aA,Tryz.f60,KP,Ax.loadAt,↓reduceIte,reduceEqDiff,reduceLT,reduceAdd,reduceCtorEq,h.bA,h.bK,cutAt,ha,hb,hc,hd,kf,f,la,q1,l1]
   exact rfl
  | false=>
   cases l2:decide (4 < x.outs.length) with
   | true=>
    simp only [aA,Tryz.f60,KP,Ax.loadAt,↓reduceIte,reduceEqDiff,reduceLT,reduceAdd,reduceCtorEq,h.bA,h.bK,cutAt,ha,hb,hc,hd,kf,f,la,lb,q1,q2,l1,l2]
    exact rfl
   | false=>
    cases l3:decide (8 < x.after.length) with
    | true=>
     simp only [aA,Tryz.f60,KP,Ax.loadAt,↓reduceIte,reduceEqDiff,reduceLT,reduceAdd,reduceCtorEq,h.bA,h.bK,cutAt,ha,hb,hc,hd,kf,f,la,lb,lc,q1,q2,q3,l1,l2,l3]
     exact rfl
    | false=>
     have l4:decide (12 < x.steps.length) = true:=by rw [l1,l2,l3] at hl; simpa using hl
     simp only [aA,Tryz.f60,KP,Ax.loadAt,↓reduceIte,reduceEqDiff,reduceLT,reduceAdd,reduceCtorEq,h.bA,h.fF,h.bK,cutAt,ha,hb,hc,hd,kf,f,la,lb,lc,ld,q1,q2,q3,q4,l1,l2,l3,l4]
     exact rfl
 rw [if_neg hl,Nq] at r1
 have hl:long x = false:=by simpa using hl
 unfold long at hl
 simp only [Bool.or_eq_false_iff] at hl
 obtain ⟨⟨⟨l1,l2⟩,l3⟩,l4⟩:=hl
 have t1:=fun (Y:Sg)=>EY (Z:=Y) h (a:=a) (l:=x.ins) (ia.ls Y 9) (by omega)
 have t2:=fun (Y:Sg)=>EY (Z:=Y) h (a:=b) (l:=x.outs) (ib.ls Y 9) (by omega)
 have t3:=fun (Y:Sg)=>EY (Z:=Y) h (a:=c) (l:=x.after) (ic.ls Y 9) (by omega)
 have t4:=fun (Y:Sg)=>rJ (Z:=Y) h (a:=c) (l:=x.after) (s:=x.name) (ic.ls Y 9) (by omega)
 cases w1:kC x.ins with
 | true=>
  rw [show bB x = 2 from by rw [r1,w1]; rfl]
  simp only [aA,Tryz.f60,KP,Ax.loadAt,↓reduceIte,reduceEqDiff,reduceLT,reduceAdd,reduceCtorEq,h.bA,h.fF,h.bK,cutAt,ha,hb,hc,hd,kf,f,la,lb,lc,ld,q1,q2,q3,q4,l1,l2,l3,l4,t1,w1]
  exact rfl
 | false=>
 cases w2:kC x.outs with
 | true=>
  rw [show bB x = 2 from by rw [r1,w1,w2]; rfl]
  simp only [aA,Tryz.f60,KP,Ax.loadAt,↓reduceIte,reduceEqDiff,reduceLT,reduceAdd,reduceCtorEq,h.bA,h.fF,h.bK,cutAt,ha,hb,hc,hd,kf,f,la,lb,lc,ld,q1,q2,q3,q4,l1,l2,l3,l4,t1,w1,t2,w2]
  exact rfl
 | false=>
 cases w3:kC x.after with
 | true=>
  rw [show bB x = 2 from by rw [r1,w1,w2,w3]; rfl]
  simp only [aA,Tryz.f60,KP,Ax.loadAt,↓reduceIte,reduceEqDiff,reduceLT,reduceAdd,reduceCtorEq,h.bA,h.fF,h.bK,cutAt,ha,hb,hc,hd,kf,f,la,lb,lc,ld,q1,q2,q3,q4,l1,l2,l3,l4,t1,w1,t2,w2,t3,w3]
  exact rfl
 | false=>
 by_cases w4:x.name ∈ x.after
 ·have s4:=J0 w4
  rw [show bB x = 2 from by rw [r1,w1,w2,w3,decide_eq_true w4]; rfl]
  simp only [aA,Tryz.f60,KP,Ax.loadAt,↓reduceIte,reduceEqDiff,reduceLT,reduceAdd,reduceCtorEq,h.dA,h.bA,h.fF,h.bK,cutAt,ha,hb,hc,hd,kf,f,la,lb,lc,ld,q1,q2,q3,q4,l1,l2,l3,l4,t1,w1,t2,w2,t3,w3,t4,kQ,s4]
  exact rfl
 ·have s4:=J1 w4
  rw [w1,w2,w3,decide_eq_false w4] at r1
  simp only [aA,Tryz.f60,KP,Ax.loadAt,↓reduceIte,reduceEqDiff,reduceLT,reduceAdd,reduceCtorEq,h.dA,h.bA,h.fF,h.bK,cutAt,ha,hb,hc,hd,kf,f,la,lb,lc,ld,q1,q2,q3,q4,l1,l2,l3,l4,t1,w1,t2,w2,t3,w3,t4,kQ,s4]
  refine key _ (by simp +decide only [GS]) fun Y=>?_
  show V.int .i64 _ = V.int .i64 (bB x)
  rw [r1]
  refine congrArg _ ?_
  by_cases e:gW x.ins x.steps = true /\ (x.outs.all fun o=>!decide (o ∈ x.ins) && decide (o ∈ x.steps.map Step.out)) = true
  ·rw [if_pos e,e.1,e.2]; rfl
  ·rw [if_neg e,if_pos]
   simp only [Bool.not_false,Bool.true_and]
   cases u1:gW x.ins x.steps with
   | false=>rfl
   | true=>
    cases u2:(x.outs.all fun o=>!decide (o ∈ x.ins) && decide (o ∈ x.steps.map Step.out)) with
    | false=>rfl
    | true=>exact absurd ⟨u1,u2⟩ e
theorem K8 (h:bM E) {v:V} {x:aG} (hv:Hl v x) (hx:Small x):KC E 60 [v] Z (.int .i64 (bB x)) Z:=dM fun _=>LI h hv hx
end
end
section
section
variable {E:Env} {Z:Sg} {K:V -> Sg -> Prop}
def k_ (n:Nat) (g:Nat -> Bool):List V:=(List.range n).map fun k=>V.bool (g k)
def rD (n i:Nat):List V:=(List.range i).map (fun j=>V.sl (j + 1) 0 n none) ++ List.replicate (n - i) .aD
def oZ (ex:Bool) (n i:Nat) (c:Nat -> Nat -> Bool):Sg:=.cells 38 (rD n i) true :: (List.range i).map fun j=>O.cells 4 (k_ n (c j)) ex
def Ic (n:Nat) (c:Nat -> Nat -> Bool):List (List Bool):=(List.range n).map fun i=>(List.range n).map (c i)
def GJ (c:Nat -> Nat -> Bool) (i k:Nat) (b:Bool):Nat -> Nat -> Bool:=fun x y=>if x = i /\ y = k then b else c x y
theorem lF {n:Nat} {g:Nat -> Bool}:(k_ n g).length = n:=by simp [k_]
theorem oD {n i:Nat} (h:i <= n):(rD n i).length = n:=by simp [rD]; omega
theorem sZ {n i j:Nat} (h:j < i):(rD n i)[j]? = some (.sl (j + 1) 0 n none):=by
 unfold rD
 rw [getElem?_append_left (by simpa using h)]
 simp [h]
theorem wT {n k:Nat} {g:Nat -> Bool} (h:k < n):(k_ n g)[k]? = some (.bool (g k)):=by simp [k_,h]
theorem Cg {ex:Bool} {n i:Nat} {c:Nat -> Nat -> Bool}:(oZ ex n i c).length = i + 1:=by simp [oZ]
theorem Xm {ex:Bool} {n i:Nat} {c:Nat -> Nat -> Bool}:(oZ ex n i c)[0]? = some (.cells 38 (rD n i) true):=rfl
theorem Cf {ex:Bool} {n i j:Nat} {c:Nat -> Nat -> Bool} (h:j < i):(oZ ex n i c)[j + 1]? = some (.cells 4 (k_ n (c j)) ex):=by
 simp [oZ,h]
theorem E0 (h:bM E) {n j:Nat} (hj:j < n):indexAddr E 32 (.sl 0 0 n none) (.int .i64 (j:Int)) = some (.ref 0 j):=by
 have hneg:¬ ((j:Int) < 0):=by omega
 unfold indexAddr
 simp only [hneg,if_false,h.Md,h.yH,Int.toNat_natCast,hj,if_true,Nat.zero_add,Nat.mul_one]
theorem Ca (h:bM E) {n j k:Nat} (hk:k < n):indexAddr E 38 (.sl (j + 1) 0 n none) (.int .i64 (k:Int)) = some (.ref (j + 1) k):=by
 have hneg:¬ ((k:Int) < 0):=by omega
 unfold indexAddr
 simp only [hneg,if_false,h.yH,h.Df,Int.toNat_natCast,hk,if_true,Nat.zero_add,Nat.mul_one]
theorem ET (h:bM E) {ex:Bool} {n i j:Nat} {c:Nat -> Nat -> Bool} (hj:j < i):loadAt E (oZ ex n i c) 38 (.ref 0 j) = some (.sl (j + 1) 0 n none):=by
 unfold loadAt
 simp only [h.yH,Xm,Ax.isAgg,Bool.false_eq_true,if_false,sZ hj]
theorem Ih (h:bM E) {ex:Bool} {n i j k:Nat} {c:Nat -> Nat -> Bool} (hj:j < i) (hk:k < n):loadAt E (oZ ex n i c) 4 (.ref (j + 1) k) = some (.bool (c j k)):=by
 unfold loadAt
 simp only [h.Df,Cf hj,Ax.isAgg,Bool.false_eq_true,if_false,wT hk]
theorem M3 {n k:Nat} {g:Nat -> Bool} {b:Bool} (hk:k < n):setCells (k_ n g) k [.bool b] = k_ n (fun y=>if y = k then b else g y):=by
 have e:setCells (k_ n g) k [.bool b] = (k_ n g).set k (.bool b):=by
  unfold setCells
  rw [List.set_eq_take_append_cons_drop,if_pos (by rw [lF]; exact hk)]
  simp
 rw [e]
 apply List.ext_getElem?
 intro i
 by_cases hi:i < n
 ·by_cases hik:k = i
  ·subst hik
   rw [getElem?_set_self (by rw [lF]; exact hk),wT hk,if_pos rfl]
  ·rw [getElem?_set_ne hik,wT hi,wT hi,if_neg (fun e=>hik e.symm)]
 ·rw [List.getElem?_eq_none (by rw [length_set,lF]; omega),List.getElem?_eq_none (by rw [lF]; omega)]
theorem HL (h:bM E) {ex:Bool} {n i j k:Nat} {c:Nat -> Nat -> Bool} {b:Bool} (hj:j < i) (hk:k < n):storeAt E (oZ ex n i c) 4 (.ref (j + 1) k) (.bool b) = some (oZ ex n i (GJ c j k b)):=by
 unfold storeAt
 simp only [h.Df,Cf hj]
 rw [if_pos (by simp only [V.cells,V.a_,length_cons,length_nil,List.all_cons,List.all_nil,lF,Bool.and_true,Bool.and_eq_true,decide_eq_true_eq]; exact ⟨rfl,by omega⟩)]
 refine congrArg some ?_
 rw [show V.cells (.bool b) = [.bool b] from rfl,M3 hk]
 apply List.ext_getElem?
 intro q
 cases q with
 | zero=>rw [getElem?_set_ne (by omega)]; rfl
 | succ q=>
  by_cases hq:q < i
  ·rw [Cf hq]
   by_cases hjq:j = q
   ·subst hjq
    rw [getElem?_set_self (by rw [Cg]; omega)]
    congr 2
    unfold k_
    refine map_congr_left fun y _=>?_
    simp [GJ]
   ·rw [getElem?_set_ne (by omega),Cf hq]
    congr 2
    unfold k_
    refine map_congr_left fun y _=>?_
    have:¬ (q = j /\ y = k):=fun e=>hjq e.1.symm
    simp [GJ,this]
  ·rw [List.getElem?_eq_none (by rw [length_set,Cg]; omega),List.getElem?_eq_none (by rw [Cg]; omega)]
theorem Mn (h:bM E) {ex:Bool} {n i:Nat} {c:Nat -> Nat -> Bool} (hi:i < n):storeAt E (oZ ex n i c ++ [.cells 4 (k_ n (c i)) ex]) 38 (.ref 0 i) (.sl (i + 1) 0 n none) = some (oZ ex n (i + 1) c):=by
 unfold storeAt
 have h0:(oZ ex n i c ++ [O.cells 4 (k_ n (c i)) ex])[0]? = some (.cells 38 (rD n i) true):=rfl
 simp only [h.yH,h0]
 rw [if_pos (by simp only [V.cells,V.a_,length_cons,length_nil,List.all_cons,List.all_nil,oD (Nat.le_of_lt hi),Bool.and_true,Bool.and_eq_true,decide_eq_true_eq]; exact ⟨rfl,by omega⟩)]
 refine congrArg some ?_
 have e:setCells (rD n i) i [.sl (i + 1) 0 n none] = rD n (i + 1):=by
  unfold setCells
  apply List.ext_getElem?
  intro q
  have hl:((rD n i).take i).length = i:=by rw [length_take,oD (Nat.le_of_lt hi)]; omega
  rcases Nat.lt_trichotomy q i with hq | rfl | hq
  ·rw [append_assoc,getElem?_append_left (by omega),getElem?_take,if_pos hq,sZ hq,sZ (by omega)]
  ·rw [append_assoc,getElem?_append_right (by omega),hl,Nat.sub_self,sZ (by omega)]; rfl
  ·have e1:(rD n (i + 1))[q]? = if q < n then some .aD else none:=by
    unfold rD
    rw [getElem?_append_right (by simp; omega),length_map,length_range,List.getElem?_replicate]
    by_cases g:q < n
    ·rw [if_pos (by omega),if_pos g]
    ·rw [if_neg (by omega),if_neg g]
   rw [e1,append_assoc,getElem?_append_right (by omega),hl,getElem?_append_right (by simp; omega),length_singleton,getElem?_drop]
   unfold rD
   rw [getElem?_append_right (by simp; omega),length_map,length_range,List.getElem?_replicate]
   by_cases g:q < n
   ·rw [if_pos (by omega),if_pos g]
   ·rw [if_neg (by omega),if_neg g]
 rw [show V.cells (.sl (i + 1) 0 n none) = [.sl (i + 1) 0 n none] from rfl,e]
 unfold oZ
 rw [List.cons_append,set_cons_zero,List.range_succ,List.map_append]
 rfl
theorem JD {n:Nat} {c:Nat -> Nat -> Bool} {i:Nat} (hi:i < n):(Ic n c)[i]? = some ((List.range n).map (c i)):=by simp [Ic,hi]
theorem PU {n:Nat} {c:Nat -> Nat -> Bool}:(Ic n c).length = n:=by simp [Ic]
theorem PF {n:Nat} {g:Nat -> Bool} {k:Nat} (hk:k < n):((List.range n).map g)[k]? = some (g k):=by simp [hk]
theorem M1:∀ l:List V,Ax.rows 1 l.length l = l.map fun v=>[v]
 | []=>rfl
 | x :: l=>by
  show ((x :: l).take 1) :: Ax.rows 1 l.length ((x :: l).drop 1) = _
  rw [show (x :: l).drop 1 = l from rfl,M1 l]; rfl
theorem JE {α β:Type} {f:α -> Option β}:∀ {l:List α} {m:List β},l.length = m.length -> (∀ (i:Nat) (a:α) (b:β),l[i]? = some a -> m[i]? = some b -> f a = some b) -> aX f l = some m
 | [],[],_,_=>rfl
 | a :: l,b :: m,hl,h=>by
  rw [aX,h 0 a b rfl rfl,JE (l:=l) (m:=m) (by simpa using hl) fun i x y hx hy=>h (i + 1) x y hx hy]
 | [],_ :: _,hl,_=>by simp at hl
 | _ :: _,[],hl,_=>by simp at hl
theorem FF (h:bM E) {ex:Bool} {n:Nat} {c:Nat -> Nat -> Bool}:∃ v,cP (oZ ex n n c) E.ty false (.sl 0 0 n none) = some v /\ kB uP v (Ic n c):=by
 let rv:Nat -> V:=fun i=>.bR false ((k_ n (c i)).map fun v=>[v]) (ex && decide (0 < 1) && (0 + n * 1 == n))
 have hrow:∀ i,i < n -> ∀ m,bT (oZ ex n n c) E.ty false (m + 2) (.sl (i + 1) 0 n none) = some (rv i):=fun i hi m=>by
  have hm:aX (fun v=>match bT (oZ ex n n c) E.ty false (m + 1) v with
    | some v=>if cK false v then some v else no "snap: borrowed"
    | none=>none) (k_ n (c i)) = some (k_ n (c i)):=by
   refine iR fun x hx=>?_
   obtain ⟨k,_,rfl⟩:=mem_map.1 hx
   rfl
  rw [bT]
  simp only [Cf hi,h.Df]
  rw [if_pos (by rw [lF]; omega),drop_zero,take_of_length_le (by rw [lF]; omega)]
  refine (congrArg (fun o=>match o with
   | some l=>some (V.bR false (Ax.rows 1 n l) (ex && decide (0 < 1) && (0 + n * 1 == (k_ n (c i)).length)))
   | none=>none) hm).trans ?_
  show some (V.bR false (Ax.rows 1 n (k_ n (c i))) (ex && decide (0 < 1) && (0 + n * 1 == (k_ n (c i)).length))) = _
  have:Ax.rows 1 n (k_ n (c i)) = (k_ n (c i)).map fun v=>[v]:=by
   have:=M1 (k_ n (c i)); rwa [lF] at this
  rw [this,lF]
 have hout:bT (oZ ex n n c) E.ty false 12 (.sl 0 0 n none) = some (.bR false (((List.range n).map rv).map fun v=>[v]) (true && decide (0 < 1) && (0 + n * 1 == n))):=by
  have hm:aX (fun v=>match bT (oZ ex n n c) E.ty false 11 v with
    | some v=>if cK false v then some v else no "snap: borrowed"
    | none=>none) (rD n n) = some ((List.range n).map rv):=by
   refine JE (by rw [oD (Nat.le_refl n)]; simp) fun i a b ha hb=>?_
   have hi:i < n:=by
    have:=(List.getElem?_eq_some_iff.1 ha).1
    rwa [oD (Nat.le_refl n)] at this
   rw [sZ hi] at ha
   cases ha
   have hb:some (rv i) = some b:=by rw [<- hb]; simp [hi]
   cases hb
   rw [hrow i hi 9]
   rfl
  rw [bT]
  simp only [Xm,h.yH]
  rw [if_pos (by rw [oD (Nat.le_refl n)]; omega),drop_zero,take_of_length_le (by rw [oD (Nat.le_refl n)]; omega)]
  refine (congrArg (fun o=>match o with
   | some l=>some (V.bR false (Ax.rows 1 n l) (true && decide (0 < 1) && (0 + n * 1 == (rD n n).length)))
   | none=>none) hm).trans ?_
  show some (V.bR false (Ax.rows 1 n ((List.range n).map rv)) (true && decide (0 < 1) && (0 + n * 1 == (rD n n).length))) = _
  have:Ax.rows 1 n ((List.range n).map rv) = ((List.range n).map rv).map fun v=>[v]:=by
   have:=M1 ((List.range n).map rv); rwa [show ((List.range n).map rv).length = n by simp] at this
  rw [this,oD (Nat.le_refl n)]
 refine ⟨.bR false (((List.range n).map rv).map fun v=>[v]) (true && decide (0 < 1) && (0 + n * 1 == n)),?_,.inr ⟨((List.range n).map rv).map fun v=>[v],true && decide (0 < 1) && (0 + n * 1 == n),rfl,?_⟩⟩
 ·show (match bT (oZ ex n n c) E.ty false 12 (.sl 0 0 n none) with
   | some v=>if cK false v then some v else no "snap: borrowed"
   | none=>none) = _
  rw [hout]
  rfl
 ·unfold Ic
  rw [map_map]
  refine eR.map (P:=uP.P) (f:=(fun v=>[v]) ∘ rv) (g:=fun i=>(List.range n).map (c i)) (fun i=>⟨rv i,rfl,.inr ⟨false,(k_ n (c i)).map fun v=>[v],ex && decide (0 < 1) && (0 + n * 1 == n),rfl,?_⟩⟩) _
  unfold k_
  rw [map_map]
  exact eR.map (P:=CH.P) (f:=(fun v=>[v]) ∘ fun k=>V.bool (c i k)) (g:=c i) (fun k=>rfl) _
end
end
section
section
variable {E:Env} {Z:Sg} {K:V -> Sg -> Prop}
def zJ (c:Nat -> Nat -> Bool) (i:Nat) (g:Nat -> Bool):Nat -> Nat -> Bool:=fun x=>if x = i then g else c x
theorem GF {ex:Bool} {n i:Nat} {c c':Nat -> Nat -> Bool} (h:∀ j,j < i -> c j = c' j):oZ ex n i c = oZ ex n i c':=by
 unfold oZ
 refine congrArg _ (map_congr_left fun j hj=>?_)
 rw [h j (mem_range.1 hj)]
theorem RX (h:bM E) {ex:Bool} {n i:Nat} {c:Nat -> Nat -> Bool} {g:Nat -> Bool} (hi:i < n):storeAt E (oZ ex n i c ++ [.cells 4 (k_ n g) ex]) 38 (.ref 0 i) (.sl (i + 1) 0 n none) = some (oZ ex n (i + 1) (zJ c i g)):=by
 have:=Mn (ex:=ex) (c:=zJ c i g) h hi
 rw [GF (c:=zJ c i g) (c':=c) (fun j hj=>by unfold zJ; rw [if_neg (by omega)]),show zJ c i g i = g from if_pos rfl] at this
 exact this
theorem GK {c:Nat -> Nat -> Bool} {i k:Nat} {g:Nat -> Bool} {b:Bool}:GJ (zJ c i g) i k b = zJ c i (fun y=>if y = k then b else g y):=by
 funext x y
 unfold GJ zJ
 by_cases hx:x = i
 ·simp [hx]
 ·simp [hx]
theorem KL (n:Nat):gU n [V.bool false] = k_ n fun _=>false:=by
 have:∀ n:Nat,gU n [V.bool false] = List.replicate n (V.bool false):=by
  intro n
  induction n with
  | zero=>rfl
  | succ n ih=>rw [gU,ih]; rfl
 rw [this]
 unfold k_
 rw [List.map_const',length_range]
theorem Dw (n:Nat):gU n [V.aD] = rD n 0:=by
 have:∀ n:Nat,gU n [V.aD] = List.replicate n V.aD:=by
  intro n
  induction n with
  | zero=>rfl
  | succ n ih=>rw [gU,ih]; rfl
 rw [this]; rfl
theorem BZ {rs:List aG} {f:aU} {k:Nat} (h:fB rs f = some k):k < rs.length:=by
 unfold fB at h
 generalize (fun r:aG=>decide (f ∈ r.outs)) = p at h
 induction rs generalizing k with
 | nil=>cases h
 | cons r rs ih=>
  rw [bE] at h
  split at h
  ·cases h; simp
  ·obtain ⟨j,hj,rfl⟩:=Option.map_eq_some_iff.1 h
   have:=ih hj; simp only [length_cons]; omega
theorem Ds {rs:List aG} {f:aU} {k:Nat} (h:fO rs f = some k):k < rs.length:=by
 unfold fO at h
 generalize (fun r:aG=>decide (r.name = f)) = p at h
 induction rs generalizing k with
 | nil=>cases h
 | cons r rs ih=>
  rw [bE] at h
  split at h
  ·cases h; simp
  ·obtain ⟨j,hj,rfl⟩:=Option.map_eq_some_iff.1 h
   have:=ih hj; simp only [length_cons]; omega
theorem oU {α:Type} {p:α -> Bool} {l:List α} {j:Nat} {x:α} (hx:l[j]? = some x):(l.take (j + 1)).any p = ((l.take j).any p || p x):=by
 rw [take_add_one,hx,List.any_append]; simp
structure wD (rs:List aG):Prop where
 len:rs.length <= 64
 all:∀ x ∈ rs,Small x
theorem mS:idx none = -1:=rfl
theorem eZ {k:Nat}:idx (some k) = (k:Int):=rfl
theorem Rj (h:bM E) {a:V} {rs:List aG} (ha:LS dW 37 Z a rs) (hs:wD rs) (data:Bool):aB E 17 [a,.bool data] Z fun v σ'=>σ' = Z /\ kB uP v (Ic rs.length (iM rs data)):=by
 obtain ⟨a',ea,ia⟩:=eS h ha
 rw [aH h.hs17 h.MH h.fn17 h.md17 (args':=[a',.bool data]) (by simp only [aX,ea,show aT Z E.ty true (.bool data) = some (.bool data) from rfl]),aZ (by kernel_rfl)]
 have la:=cT h ia
 have hn:=hs.len
 generalize hN:rs.length = n at *
 have c2:decide ((n:Int) * ((24:Nat):Int) <= 1099511627776) = true:=decide_eq_true (by omega)
 have c3:decide ((n:Int) <= 1099511627776) = true:=decide_eq_true (by omega)
 have c4:decide ((n:Int) * ((1:Nat):Int) <= 1099511627776) = true:=decide_eq_true (by omega)
 have hinit:([O.cells 38 (rD n 0) true]:Sg) = oZ true n 0 (iM rs data):=rfl
 simp only [aA,Tryz.f17,KP,↓reduceIte,reduceLT,reduceAdd,reduceCtorEq,h.Md,h.yH,la,c2,c3,Dw,Int.toNat_natCast,Int.le_refl,hinit]
 refine aV (fun i F Y=>Y = oZ true n i (iM rs data) /\ F.get 0 = a' /\ F.get 1 = .bool data /\ F.get 5 = .sl 0 0 n none /\ F.get 6 = .int .i64 (i:Int)) n ?_ ?_ n 0 _ _ (by omega) ⟨rfl,(by simp +decide only [GS,and_self])⟩
 ·rintro i F Y hi ⟨rfl,g0,g1,g5,g6⟩ next
  obtain ⟨r,hr⟩:∃ y,rs[i]? = some y:=⟨_,List.getElem?_eq_getElem (by omega)⟩
  have hsr:=hs.all r (mem_of_getElem? hr)
  have a1:=hsr.ins
  have a3:=hsr.after
  obtain ⟨g,p1,p2,p3,p4,e1,i1,i2,i3,i4⟩:=fC h ia hr
  have l1:=bN h i1
  have l3:=bN h i3
  have hlt:=eD hi
  have hadd:=bZ i (by omega)
  have x1:=E0 h hi
  have s1:=RX (ex:=true) (c:=iM rs data) (g:=fun _=>false) h hi
  rw [aF]
  simp only [KP,↓reduceIte,reduceEqDiff,reduceLT,reduceCtorEq,JK h,h.Df,h.bA,h.bK,h.yH,g0,g5,g6,la,hlt,e1,l1,c3,c4,KL,Int.toNat_natCast,Int.le_refl,Cg,x1,s1]
  generalize hc:iM rs data = c at *
  have hmem:∀ x ∈ rs,x.outs.length <= 4294967296:=fun x hx=>by have:=(hs.all x hx).outs; omega
  refine aV (fun j F Y=>Y = oZ true n (i + 1) (zJ c i fun k=>(r.ins.take j).any fun f=>decide (fB rs f = some k)) /\ F.get 0 = a' /\ F.get 1 = .bool data /\ F.get 5 = .sl 0 0 n none /\ F.get 6 = .int .i64 (i:Int) /\ F.get 32 = p1 /\ F.get 33 = .int .i64 (r.ins.length:Int) /\ F.get 34 = .int .i64 (j:Int)) r.ins.length ?_ ?_ r.ins.length 0 _ _ (by omega) ⟨by simp,(by simp +decide only [GS,g0,g1,g5,g6,and_self])⟩
  ·rintro j F Y hj ⟨rfl,g0,g1,g5,g6,g32,g33,g34⟩ next2
   obtain ⟨f,hf⟩:∃ y,r.ins[j]? = some y:=⟨_,List.getElem?_eq_getElem hj⟩
   obtain ⟨g,e2⟩:=gC h i1 hf
   have hlt2:=eD hj
   have hadd2:=bZ j (by omega)
   generalize hC:(zJ c i fun k=>(r.ins.take j).any fun f=>decide (fB rs f = some k)) = C
   have km:=JS (Z:=oZ true n (i + 1) C) h (s:=f) (ia.ls _ 37) hmem (by omega)
   rw [aF]
   cases hm:fB rs f with
   | none=>
    simp only [KP,↓reduceIte,reduceEqDiff,reduceLT,reduceCtorEq,Int.reduceLE,reduceNeg,rI h,g0,g32,g33,g34,hlt2,e2,km,hm,mS,hadd2]
    refine next2 _ _ ⟨?_,(by simp +decide only [GS,g0,g1,g5,g6,g32,g33,and_self])⟩
    rw [<- hC]
    refine congrArg _ (congrArg _ (funext fun k=>?_))
    rw [oU hf,hm]; simp
   | some k=>
    have hk:=BZ hm
    rw [hN] at hk
    have c0:decide ((0:Int) <= (k:Int)) = true:=decide_eq_true (by omega)
    have x2:=ET (ex:=true) (c:=C) h (show i < i + 1 by omega) (n:=n)
    have x3:=Ca h (j:=i) hk
    have x4:=HL (ex:=true) (c:=C) (b:=true) h (show i < i + 1 by omega) hk
    simp only [KP,↓reduceIte,reduceEqDiff,reduceLT,reduceCtorEq,rI h,g0,g5,g6,g32,g33,g34,hlt2,e2,km,hm,eZ,x1,x2,x3,x4,hadd2]
    refine next2 _ _ ⟨?_,(by simp +decide only [GS,g0,g1,g5,g6,g32,g33,and_self])⟩
    rw [<- hC,GK]
    refine congrArg _ (congrArg _ (funext fun y=>?_))
    rw [oU hf,hm]
    by_cases hy:y = k
    ·subst hy; simp
    ·rw [if_neg hy,decide_eq_false (fun e=>hy (Option.some.inj e).symm),Bool.or_false]
  ·rintro F Y ⟨rfl,g0,g1,g5,g6,g32,g33,g34⟩
   have hlt2:=eE (Nat.lt_irrefl r.ins.length)
   rw [take_of_length_le (Nat.le_refl _)]
   rw [aF]
   simp only [KP,↓reduceIte,reduceEqDiff,reduceLT,reduceCtorEq,JK h,h.bA,h.bK,g0,g6,g33,g34,hlt2,e1,l3]
   refine aV (fun j F Y=>Y = oZ true n (i + 1) (zJ c i fun k=>(r.ins.any fun f=>decide (fB rs f = some k)) || (!data && (r.after.take j).any fun m=>decide (fO rs m = some k))) /\ F.get 0 = a' /\ F.get 1 = .bool data /\ F.get 5 = .sl 0 0 n none /\ F.get 6 = .int .i64 (i:Int) /\ F.get 54 = p3 /\ F.get 55 = .int .i64 (r.after.length:Int) /\ F.get 56 = .int .i64 (j:Int)) r.after.length ?_ ?_ r.after.length 0 _ _ (by omega) ⟨by simp,(by simp +decide only [GS,g0,g1,g5,g6,and_self])⟩
   ·rintro j F Y hj ⟨rfl,g0,g1,g5,g6,g32,g33,g34⟩ next2
    obtain ⟨f,hf⟩:∃ y,r.after[j]? = some y:=⟨_,List.getElem?_eq_getElem hj⟩
    obtain ⟨g,e2⟩:=gC h i3 hf
    have hlt2:=eD hj
    have hadd2:=bZ j (by omega)
    generalize hC:(zJ c i fun k=>(r.ins.any fun f=>decide (fB rs f = some k)) || (!data && (r.after.take j).any fun m=>decide (fO rs m = some k))) = C
    have km:=S8 (Z:=oZ true n (i + 1) C) h (s:=f) (ia.ls _ 37) (by omega)
    rw [aF]
    cases hm:fO rs f with
    | none=>
     simp only [KP,↓reduceIte,reduceEqDiff,reduceLT,reduceCtorEq,Int.reduceLE,reduceNeg,rI h,g0,g32,g33,g34,hlt2,e2,km,hm,mS,hadd2]
     refine next2 _ _ ⟨?_,(by simp +decide only [GS,g0,g1,g5,g6,g32,g33,and_self])⟩
     rw [<- hC]
     refine congrArg _ (congrArg _ (funext fun k=>?_))
     rw [oU hf,hm]; simp
    | some k=>
     have hk:=Ds hm
     rw [hN] at hk
     have c0:decide ((0:Int) <= (k:Int)) = true:=decide_eq_true (by omega)
     cases data with
     | true=>
      simp only [KP,↓reduceIte,reduceEqDiff,reduceLT,reduceCtorEq,rI h,g0,g1,g32,g33,g34,hlt2,e2,km,hm,eZ,hadd2]
      refine next2 _ _ ⟨?_,(by simp +decide only [GS,g0,g1,g5,g6,g32,g33,and_self])⟩
      rw [<- hC]
      refine congrArg _ (congrArg _ (funext fun k=>?_))
      simp
     | false=>
      have x2:=ET (ex:=true) (c:=C) h (show i < i + 1 by omega) (n:=n)
      have x3:=Ca h (j:=i) hk
      have x4:=HL (ex:=true) (c:=C) (b:=true) h (show i < i + 1 by omega) hk
      simp only [KP,↓reduceIte,reduceEqDiff,reduceLT,reduceCtorEq,rI h,g0,g1,g5,g6,g32,g33,g34,hlt2,e2,km,hm,eZ,x1,x2,x3,x4,hadd2]
      refine next2 _ _ ⟨?_,(by simp +decide only [GS,g0,g1,g5,g6,g32,g33,and_self])⟩
      rw [<- hC,GK]
      refine congrArg _ (congrArg _ (funext fun y=>?_))
      rw [oU hf,hm]
      by_cases hy:y = k
      ·subst hy; simp
      ·rw [if_neg hy,decide_eq_false (fun e=>hy (Option.some.inj e).symm),Bool.or_false]
   ·rintro F Y ⟨rfl,g0,g1,g5,g6,g32,g33,g34⟩
    have hlt2:=eE (Nat.lt_irrefl r.after.length)
    rw [take_of_length_le (Nat.le_refl _)]
    rw [aF]
    simp only [KP,↓reduceIte,reduceEqDiff,reduceLT,g6,g33,g34,hlt2,hadd]
    refine next _ _ ⟨GF fun j hj=>?_,(by simp +decide only [GS,g0,g1,g5,and_self])⟩
    unfold zJ
    by_cases hji:j = i
    ·subst hji
     rw [if_pos rfl,<- hc]
     funext k
     unfold iM xF
     rw [hr]
    ·rw [if_neg hji]
 ·rintro F Y ⟨rfl,g0,g1,g5,g6⟩
  have hlt:=eE (Nat.lt_irrefl n)
  rw [aF]
  obtain ⟨v,e1,hv⟩:=FF (ex:=true) (n:=n) (c:=iM rs data) h
  simp only [KP,↓reduceIte,reduceEqDiff,reduceLT,reduceCtorEq,g0,g5,g6,la,hlt,e1]
  exact hv
end
end
section
section
variable {E:Env} {Z:Sg} {K:V -> Sg -> Prop}
theorem IU {rs:List (List V)} {n:Nat} {g:Nat -> Bool} (h:eR CH.P rs ((List.range n).map g)):rs.flatten = k_ n g:=by
 have:∀ {rs:List (List V)} {l:List Bool},eR CH.P rs l -> rs.flatten = l.map V.bool:=by
  intro rs l h
  induction h with
  | nil=>rfl
  | cons p _ ih=>rw [flatten_cons,ih,show _ = [V.bool _] from p]; rfl
 rw [this h,map_map]; rfl
theorem Rr (h:bM E) {Y:Sg} {v:V} {n:Nat} {g:Nat -> Bool} (hn:0 < n) (hn2:n <= 64) (iv:IS CH v ((List.range n).map g)):Ax.append E Y #[38,38] .aD v = some (.sl Y.length 0 n none,Y ++ [.cells 4 (k_ n g) false]):=by
 obtain ⟨rs,e,ha⟩:=qN iv Y
 have hn0:¬ n = 0:=by omega
 have e:elems Y 1 v = some (rs.flatten,n):=by rw [length_map,length_range] at e; exact e
 have hr:pN n 1 = true:=Dv (b:=64) (by decide) hn2
 unfold Ax.append
 simp only [show (#[38,38]:Array Nat)[0]? = some 38 from rfl,h.yH,h.Df,F5 h,e,hn0,hr,if_true,if_false,Bool.not_true,Bool.or_self,Bool.false_eq_true,IU ha,Nat.reduceBEq]
def vC (m:Nat -> Nat -> Bool) (k i j:Nat):Nat -> Nat -> Bool:=fun x y=>if x < i \/ (x = i /\ y < j) then wk m (k + 1) x y else wk m k x y
theorem Tv {m:Nat -> Nat -> Bool} {k i j:Nat}:vC m k i j i k = wk m k i k:=by
 unfold vC; split
 ·exact L7 k i
 ·rfl
theorem Tu {m:Nat -> Nat -> Bool} {k i j y:Nat}:vC m k i j k y = wk m k k y:=by
 unfold vC; split
 ·exact L6 k y
 ·rfl
theorem Tw {m:Nat -> Nat -> Bool} {k i j:Nat}:vC m k i j i j = wk m k i j:=by
 unfold vC; rw [if_neg (by omega)]
theorem QX {m:Nat -> Nat -> Bool} {k i j:Nat} {b:Bool} (hb:b = wk m (k + 1) i j):GJ (vC m k i j) i j b = vC m k i (j + 1):=by
 funext x y
 unfold GJ vC
 by_cases h1:x = i
 ·subst h1
  by_cases h2:y = j
  ·subst h2
   rw [if_pos ⟨rfl,rfl⟩,if_pos (by omega),hb]
  ·rw [if_neg (by omega)]
   by_cases h3:y < j
   ·rw [if_pos (by omega),if_pos (by omega)]
   ·rw [if_neg (by omega),if_neg (by omega)]
 ·rw [if_neg (by omega)]
  by_cases h3:x < i
  ·rw [if_pos (by omega),if_pos (by omega)]
  ·rw [if_neg (by omega),if_neg (by omega)]
theorem uC {ex:Bool} {n i:Nat} {c c':Nat -> Nat -> Bool} (h:∀ j,j < i -> ∀ y,y < n -> c j y = c' j y):oZ ex n i c = oZ ex n i c':=by
 unfold oZ
 refine congrArg _ (map_congr_left fun j hj=>?_)
 refine congrArg (fun l=>O.cells 4 l ex) (map_congr_left fun y hy=>?_)
 rw [h j (mem_range.1 hj) y (mem_range.1 hy)]
theorem OM (h:bM E) {a:V} {n:Nat} {m:Nat -> Nat -> Bool} (hn:n <= 64) (ia:IS uP a (Ic n m)):aB E 107 [a] Z fun v σ'=>σ' = Z /\ kB uP v (Ic n (wk m n)):=by
 rw [aH h.Xj h.UO h.X5 h.Wk (args':=[a]) (by simp only [aX,nY ia Z]),aZ (by kernel_rfl)]
 have la:=NI h ia
 rw [PU] at la
 have c2:decide ((n:Int) * ((24:Nat):Int) <= 1099511627776) = true:=decide_eq_true (by omega)
 have c3:decide ((n:Int) <= 1099511627776) = true:=decide_eq_true (by omega)
 have hinit:([O.cells 38 (rD n 0) true]:Sg) = oZ false n 0 m:=rfl
 have d16:=h.QT
 simp only [aA,Tryz.f107,cutAt,Option.getD_some] at d16
 simp only [aA,Tryz.f107,KP,↓reduceIte,reduceLT,reduceCtorEq,h.Md,h.yH,la,c2,c3,Dw,Int.toNat_natCast,Int.le_refl,hinit]
 refine aV (fun i F Y=>Y = oZ false n i m /\ F.get 0 = a /\ F.get 3 = .int .i64 (n:Int) /\ F.get 4 = .sl 0 0 n none /\ F.get 5 = .int .i64 (i:Int)) n ?_ ?_ n 0 _ _ (by omega) ⟨rfl,(by simp +decide only [GS,and_self])⟩
 ·rintro i F Y hi ⟨rfl,g0,g3,g4,g5⟩ next
  obtain ⟨g,r,e1,rv,hr,irv⟩:=Ki h ia (JD hi)
  have e1:indexAddr E 32 a (.int .i64 (i:Int)) = some (.dN g [rv]):=by rw [e1,hr]
  have hlt:=eD hi
  have hadd:=bZ i (by omega)
  have x1:=E0 h hi
  have ha:=Rr (Y:=oZ false n i m) h (by omega) hn irv
  rw [Cg] at ha
  have s1:=Mn (ex:=false) (c:=m) h hi
  rw [aF]
  simp only [KP,↓reduceIte,reduceEqDiff,reduceLT,reduceCtorEq,lX h,g0,g3,g4,g5,hlt,e1,x1,ha,s1,hadd]
  exact next _ _ ⟨rfl,(by simp +decide only [GS,g0,g3,g4,and_self])⟩
 ·rintro F Y ⟨rfl,g0,g3,g4,g5⟩
  have hlt:=eE (Nat.lt_irrefl n)
  rw [aF]
  simp only [KP,↓reduceIte,reduceEqDiff,reduceLT,g3,g5,hlt]
  refine aV (fun k F Y=>Y = oZ false n n (wk m k) /\ F.get 3 = .int .i64 (n:Int) /\ F.get 4 = .sl 0 0 n none /\ F.get 6 = .int .i64 (k:Int)) n ?_ ?_ n 0 _ _ (by omega) ⟨rfl,(by simp +decide only [GS,g3,g4,and_self])⟩
  ·rintro k F Y hk ⟨rfl,g3,g4,g6⟩ next
   have hlt:=eD hk
   have haddk:=bZ k (by omega)
   rw [aF]
   simp only [KP,↓reduceIte,reduceEqDiff,reduceLT,g3,g6,hlt]
   refine aV (fun i F Y=>Y = oZ false n n (vC m k i 0) /\ F.get 3 = .int .i64 (n:Int) /\ F.get 4 = .sl 0 0 n none /\ F.get 6 = .int .i64 (k:Int) /\ F.get 7 = .int .i64 (i:Int)) n ?_ ?_ n 0 _ _ (by omega) ⟨uC fun x hx y hy=>by unfold vC; rw [if_neg (by omega)],(by simp +decide only [GS,g3,g4,g6,and_self])⟩
   ·rintro i F Y hi ⟨rfl,g3,g4,g6,g7⟩ next2
    have hlt:=eD hi
    have haddi:=bZ i (by omega)
    rw [aF]
    simp only [KP,↓reduceIte,reduceEqDiff,reduceLT,g3,g7,hlt]
    refine aV (fun j F Y=>Y = oZ false n n (vC m k i j) /\ F.get 3 = .int .i64 (n:Int) /\ F.get 4 = .sl 0 0 n none /\ F.get 6 = .int .i64 (k:Int) /\ F.get 7 = .int .i64 (i:Int) /\ F.get 8 = .int .i64 (j:Int)) n ?_ ?_ n 0 _ _ (by omega) ⟨rfl,(by simp +decide only [GS,g3,g4,g6,g7,and_self])⟩
    ·rintro j F Y hj ⟨rfl,g3,g4,g6,g7,g8⟩ next3
     have hlt:=eD hj
     have haddj:=bZ j (by omega)
     have v1:=Tv (m:=m) (k:=k) (i:=i) (j:=j)
     have v2:=Tu (m:=m) (k:=k) (i:=i) (j:=j) (y:=j)
     have v3:=Tw (m:=m) (k:=k) (i:=i) (j:=j)
     have v4:=fun b hb=>QX (m:=m) (k:=k) (i:=i) (j:=j) (b:=b) hb
     have v5:wk m k i k = false -> oZ false n n (vC m k i j) = oZ false n n (vC m k (i + 1) 0):=fun hb=>uC fun x hx y hy=>by
      unfold vC
      by_cases h1:x = i
      ·subst h1
       rw [if_pos (show x < x + 1 \/ x = x + 1 /\ y < 0 by omega)]
       split
       ·rfl
       ·rw [wk,hb]; simp
      ·by_cases h3:x < i
       ·rw [if_pos (by omega),if_pos (by omega)]
       ·rw [if_neg (by omega),if_neg (by omega)]
     generalize hC:vC m k i j = C at *
     have y1:=E0 h hi
     have y2:=ET (ex:=false) (c:=C) h hi (n:=n)
     have y3:=Ca h (j:=i) hk
     have y4:=Ih (ex:=false) (c:=C) h hi hk
     have y5:=Ca h (j:=i) hj
     have y6:=Ih (ex:=false) (c:=C) h hi hj
     have z1:=E0 h hk
     have z2:=ET (ex:=false) (c:=C) h hk (n:=n)
     have z3:=Ca h (j:=k) hj
     have z4:=Ih (ex:=false) (c:=C) h hk hj
     have st1:=fun b=>HL (ex:=false) (c:=C) (b:=b) h hi hj
     rw [v1] at y4
     rw [v3] at y6
     rw [v2] at z4
     rw [aF]
     cases w1:wk m k i k with
     | false=>
      simp only [KP,↓reduceIte,reduceEqDiff,reduceLT,g3,g4,g6,g7,g8,hlt,y1,y2,y3,y4,w1,haddi]
      rw [v5 w1]
      exact next2 _ _ ⟨rfl,(by simp +decide only [GS,g3,g4,g6,and_self])⟩
     | true=>
      have w3:∀ b,b = (wk m k i j || wk m k k j) -> GJ C i j b = vC m k i (j + 1):=fun b hb=>v4 b (by rw [hb,wk,w1,Bool.true_and])
      cases w2:wk m k i j with
      | true=>
       simp only [KP,↓reduceIte,reduceEqDiff,reduceLT,g3,g4,g6,g7,g8,hlt,y1,y2,y3,y4,y5,y6,w1,w2,st1,haddj,aW d16,bS]
       rw [w3 true (by rw [w2]; rfl)]
       exact next3 _ _ ⟨rfl,(by simp +decide only [GS,g3,g4,g6,g7,and_self])⟩
      | false=>
       simp only [KP,↓reduceIte,reduceEqDiff,reduceLT,g3,g4,g6,g7,g8,hlt,y1,y2,y3,y4,y5,y6,z1,z2,z3,z4,w1,w2,st1,haddj,aW d16,bS]
       rw [w3 _ (by rw [w2,Bool.false_or])]
       exact next3 _ _ ⟨rfl,(by simp +decide only [GS,g3,g4,g6,g7,and_self])⟩
    ·rintro F Y ⟨rfl,g3,g4,g6,g7,g8⟩
     have hlt:=eE (Nat.lt_irrefl n)
     have v5:oZ false n n (vC m k i n) = oZ false n n (vC m k (i + 1) 0):=uC fun x hx y hy=>by
      unfold vC
      by_cases h3:x < i + 1
      ·rw [if_pos (by omega),if_pos (by omega)]
      ·rw [if_neg (by omega),if_neg (by omega)]
     rw [aF]
     simp only [KP,↓reduceIte,reduceEqDiff,reduceLT,g3,g7,g8,hlt,haddi]
     rw [v5]
     exact next2 _ _ ⟨rfl,(by simp +decide only [GS,g3,g4,g6,and_self])⟩
   ·rintro F Y ⟨rfl,g3,g4,g6,g7⟩
    have hlt:=eE (Nat.lt_irrefl n)
    have v5:oZ false n n (vC m k n 0) = oZ false n n (wk m (k + 1)):=uC fun x hx y hy=>by
     unfold vC
     rw [if_pos (by omega)]
    rw [aF]
    simp only [KP,↓reduceIte,reduceEqDiff,reduceLT,g3,g6,g7,hlt,haddk]
    rw [v5]
    exact next _ _ ⟨rfl,(by simp +decide only [GS,g3,g4,and_self])⟩
  ·rintro F Y ⟨rfl,g3,g4,g6⟩
   have hlt:=eE (Nat.lt_irrefl n)
   obtain ⟨v,e1,hv⟩:=FF (ex:=false) (n:=n) (c:=wk m n) h
   rw [aF]
   simp only [KP,↓reduceIte,reduceEqDiff,reduceLT,g3,g4,g6,hlt,e1]
   exact hv
end
end
section
section
variable {E:Env} {Z:Sg} {K:V -> Sg -> Prop}
theorem EM (h:bM E) {v:V} {n:Nat} {c:Nat -> Nat -> Bool} (iv:IS uP v (Ic n c)) {i k:Nat} (hi:i < n) (hk:k < n):∃ g rv g2,indexAddr E 32 v (.int .i64 (i:Int)) = some (.dN g [rv]) /\ indexAddr E 38 rv (.int .i64 (k:Int)) = some (.dN g2 [.bool (c i k)]):=by
 obtain ⟨g,r,e1,rv,hr,irv⟩:=Ki h iv (JD hi)
 obtain ⟨g2,r2,e2,hr2⟩:=OU h irv (PF hk)
 exact ⟨g,rv,g2,by rw [e1,hr],by rw [e2,show r2 = [.bool (c i k)] from hr2]⟩
theorem zD (h:bM E) {n i:Nat} (hi:i < n):indexAddr E 56 (.sl 0 0 n none) (.int .i64 (i:Int)) = some (.ref 0 i):=by
 have hneg:¬ ((i:Int) < 0):=by omega
 unfold indexAddr
 simp only [hneg,if_false,h.RT,h.pW,Int.toNat_natCast,hi,if_true,Nat.zero_add,Nat.mul_one]
theorem EU (h:bM E) {Y:Sg} {bC:List Int} {i:Nat} (hb:Y[0]? = some (O.cells 3 (bC.map (V.int .i64)) true)) (hi:i < bC.length):loadAt E Y 3 (.ref 0 i) = some (.int .i64 (dZ bC i)):=by
 unfold loadAt
 simp only [h.pW,hb,Ax.isAgg,Bool.false_eq_true,if_false,List.getElem?_map,List.getElem?_eq_getElem hi,Option.map_some]
 unfold dZ
 rw [List.getElem?_eq_getElem hi]; rfl
theorem T8 (x:Int) (h1:-9223372036854775808 <= x) (h2:x <= 9223372036854775807):wr .i64 x = x:=by
 rw [yG,if_pos]
 have h3:lo .i64 = -9223372036854775808:=rfl
 have h4:hi .i64 = 9223372036854775807:=rfl
 rw [h3,h4,Bool.and_eq_true,decide_eq_true_eq,decide_eq_true_eq]
 exact ⟨h1,h2⟩
structure YJ (rs:List aG) (n first:Nat) (m:Nat -> Nat -> Bool) (bC:List Int):Prop where
 cnt:rs.length = n
 le:n <= 64
 bC:lT m n first (n + 1) 0 0 bC
theorem PK {Y:Sg} {w:V} {l:List aU} {bC:List Int} (hb:Y[0]? = some (O.cells 3 (bC.map (V.int .i64)) true)) (ow:bF aK 9 Y w l):aQ w ≠ some 0:=by
 refine jY hb (by decide) ow
theorem Oe (h:bM E) {a vm:V} {rs:List aG} {n first:Nat} {m:Nat -> Nat -> Bool} {bC:List Int} (t:YJ rs n first m bC) (ia:IS dW a rs) (im:IS uP vm (Ic n m)) {Y:Sg} {w:V} {l:List aU} {at_ left:Nat} (b0:Y[0]? = some (O.cells 3 (bC.map (V.int .i64)) true)) (ow:bF aK 9 Y w l) (hl:l ≠ [] /\ l.length + left <= 100) (hat:at_ < n) (hle:0 < left -> ∃ k,k < n /\ m at_ k = true /\ dZ bC k = (left:Int))
  (F:FT) (g0:F.get 0 = a) (g3:F.get 3 = vm) (g7:F.get 7 = .sl 0 0 n none) (g14:F.get 14 = w) (g15:F.get 15 = .int .i64 (at_:Int)) (g16:F.get 16 = .int .i64 (left:Int))
  (hk:∀ Y w l,l ≠ [] -> bF aK 9 Y w l -> K w Y):R E (.loop (cutAt [1,1,1,1,1,1,1,1,1,1,1,1,1,1,0,1,2,2] (aA Tryz.f61).code)) [.blk 12,.k (cutAt [1,1,1,1,1,1,1,1,1,1,1,1,1,1,1] (aA Tryz.f61).code)] ⟨216,F⟩ Y (mG E (aA Tryz.f61).results K):=by
 have tn:=t.cnt
 have tl:=t.le
 have tfl:=t.bC.len
 have la:=cT h ia
 rw [tn] at la
 have d44:=h.Ti
 simp only [aA,Tryz.f61,cutAt,Option.getD_some] at d44
 refine aV (fun i F Y=>Y[0]? = some (O.cells 3 (bC.map (V.int .i64)) true) /\ F.get 0 = a /\ F.get 3 = vm /\ F.get 7 = .sl 0 0 n none /\ F.get 16 = .int .i64 ((left - i:Nat):Int) /\ (∃ w l,F.get 14 = w /\ bF aK 9 Y w l /\ l ≠ [] /\ l.length + (left - i) <= 100) /\ ∃ q:Nat,F.get 15 = .int .i64 (q:Int) /\ q < n /\ (0 < left - i -> ∃ k,k < n /\ m q k = true /\ dZ bC k = ((left - i:Nat):Int))) left ?_ ?_ left 0 _ _ (by omega) ⟨b0,g0,g3,g7,g16,⟨w,l,g14,ow,hl⟩,at_,g15,hat,hle⟩
 ·rintro i F Y hi ⟨b0,g0,g3,g7,g16,⟨w,l,g14,ow,hl1,hl2⟩,q,g15,hq,hex⟩ next
  obtain ⟨k0,hk0,hm0,hf0⟩:=hex (by omega)
  generalize hL:left - i = L at *
  have hgt:decide ((0:Int) < (L:Int)) = true:=decide_eq_true (by omega)
  have hdn:=Db L (by omega) (by omega)
  rw [aF]
  simp only [aA,Tryz.f61,KP,↓reduceIte,reduceLT,reduceNeg,cutAt,g16,hgt]
  refine aV (fun k F τ'=>τ' = Y /\ F.get 0 = a /\ F.get 3 = vm /\ F.get 7 = .sl 0 0 n none /\ F.get 14 = w /\ F.get 15 = .int .i64 (q:Int) /\ F.get 16 = .int .i64 (L:Int) /\ F.get 18 = .int .i64 (k:Int) /\ ∃ o:Option Nat,F.get 17 = .int .i64 (idx o) /\ ((o = none /\ ∀ j,j < k -> ¬ (m q j = true /\ dZ bC j = (L:Int))) \/ ∃ p,o = some p /\ p < n /\ m q p = true /\ dZ bC p = (L:Int))) n ?_ ?_ n 0 _ _ (by omega) ⟨rfl,(D7 (by simp +decide only [GS,g0,g3,g7,g14,g15,g16,and_self]) ⟨none,(by simp +decide only [GS,mS]),.inl ⟨rfl,fun j hj=>by omega⟩⟩)⟩
  ·rintro k F τ' hk ⟨rfl,g0,g3,g7,g14,g15,g16,g18,o,g17,ho⟩ next2
   have hlt:=eD hk
   have hadd:=bZ k (by omega)
   obtain ⟨u1,rv,u2,e1,e2⟩:=EM h im hq hk
   have e3:=zD h hk
   have e4:=EU h b0 (i:=k) (by omega)
   obtain ⟨rk,hrk⟩:∃ y,rs[k]? = some y:=⟨_,List.getElem?_eq_getElem (by omega)⟩
   obtain ⟨v1,p1,p2,p3,p4,e5,-⟩:=fC h ia hrk
   rw [aF]
   cases c1:m q k with
   | false=>
    simp only [KP,↓reduceIte,reduceEqDiff,reduceLT,reduceCtorEq,reduceNeg,tF h,lX h,g0,g3,g15,g18,la,hlt,e1,e2,c1,hadd,aW d44,bS]
    refine next2 _ _ ⟨rfl,(D7 (by simp +decide only [GS,g0,g3,g7,g14,g15,g16,and_self]) ⟨o,(by simp +decide only [GS,g17]),ho.imp (fun ⟨h1,h2⟩=>⟨h1,fun j hj=>?_⟩) id⟩)⟩
    rcases Nat.lt_or_ge j k with g | g
    ·exact h2 j g
    ·obtain rfl:j = k:=by omega
     rw [c1]; simp
   | true=>
    by_cases c2:dZ bC k = (L:Int)
    case neg=>
     have d2:decide (dZ bC k = (L:Int)) = false:=decide_eq_false c2
     simp only [KP,↓reduceIte,reduceEqDiff,reduceLT,reduceCtorEq,reduceNeg,tF h,lX h,g0,g3,g7,g15,g16,g18,la,hlt,e1,e2,e3,e4,c1,d2,hadd,aW d44,bS]
     refine next2 _ _ ⟨rfl,(D7 (by simp +decide only [GS,g0,g3,g7,g14,g15,g16,and_self]) ⟨o,(by simp +decide only [GS,g17]),ho.imp (fun ⟨h1,h2⟩=>⟨h1,fun j hj=>?_⟩) id⟩)⟩
     rcases Nat.lt_or_ge j k with g | g
     ·exact h2 j g
     ·obtain rfl:j = k:=by omega
      exact fun e=>c2 e.2
    have d2:decide (dZ bC k = (L:Int)) = true:=decide_eq_true c2
    rcases ho with ⟨rfl,-⟩ | ⟨p,rfl,hp,hmp,hfp⟩
    ·simp only [KP,↓reduceIte,reduceEqDiff,reduceLT,reduceCtorEq,Int.reduceLT,reduceNeg,tF h,lX h,g0,g3,g7,g15,g16,g17,g18,la,hlt,e1,e2,e3,e4,c1,d2,hadd,mS,aW d44,bS]
     exact next2 _ _ ⟨rfl,(D7 (by simp +decide only [GS,g0,g3,g7,g14,g15,g16,and_self]) ⟨some k,(by simp +decide only [GS,eZ]),.inr ⟨k,rfl,hk,c1,c2⟩⟩)⟩
    ·have c0:decide ((p:Int) < 0) = false:=decide_eq_false (by omega)
     obtain ⟨rp,hrp⟩:∃ y,rs[p]? = some y:=⟨_,List.getElem?_eq_getElem (by omega)⟩
     obtain ⟨v2,q1,q2,q3,q4,e6,-⟩:=fC h ia hrp
     cases c3:Ax.slt rk.name rp.name with
     | true=>
      simp only [KP,↓reduceIte,reduceEqDiff,reduceLT,reduceCtorEq,reduceNeg,tF h,rI h,lX h,h.dA,h.bK,g0,g3,g7,g15,g16,g17,g18,la,hlt,e1,e2,e3,e4,e5,e6,c1,d2,c0,c3,hadd,eZ,aW d44,bS]
      exact next2 _ _ ⟨rfl,(D7 (by simp +decide only [GS,g0,g3,g7,g14,g15,g16,and_self]) ⟨some k,(by simp +decide only [GS,eZ]),.inr ⟨k,rfl,hk,c1,c2⟩⟩)⟩
     | false=>
      simp only [KP,↓reduceIte,reduceEqDiff,reduceLT,reduceCtorEq,reduceNeg,tF h,rI h,lX h,h.dA,h.bK,g0,g3,g7,g15,g16,g17,g18,la,hlt,e1,e2,e3,e4,e5,e6,c1,d2,c0,c3,hadd,eZ,aW d44,bS]
      exact next2 _ _ ⟨rfl,(D7 (by simp +decide only [GS,g0,g3,g7,g14,g15,g16,and_self]) ⟨some p,(by simp +decide only [GS,g17]),.inr ⟨p,rfl,hp,hmp,hfp⟩⟩)⟩
  ·rintro F τ' ⟨rfl,g0,g3,g7,g14,g15,g16,g18,o,g17,ho⟩
   have hlt:=eE (Nat.lt_irrefl n)
   rcases ho with ⟨rfl,hno⟩ | ⟨p,rfl,hp,hmp,hfp⟩
   ·exact absurd ⟨hm0,hf0⟩ (hno k0 hk0)
   ·obtain ⟨rp,hrp⟩:∃ y,rs[p]? = some y:=⟨_,List.getElem?_eq_getElem (by omega)⟩
    obtain ⟨v2,q1,q2,q3,q4,e6,-⟩:=fC h ia hrp
    obtain ⟨w2,τ2,ha2,o2,k2,n2⟩:=Ff (s:=rp.name) (ex:=true) h ow (by omega)
    rw [aF]
    simp only [KP,↓reduceIte,reduceEqDiff,reduceLT,reduceLeDiff,reduceMul,reduceCtorEq,reduceNeg,rI h,h.dA,h.bA,h.bK,g0,g14,g16,g17,g18,la,hlt,e6,eZ,kJ,ha2,hdn]
    clear hex
    have hLi:L - 1 = left - (i + 1):=by rw [<- hL,Nat.sub_sub]
    have b2:=k2 0 _ (aM b0) (PK b0 ow)
    refine next _ _ ⟨b2,(fL (by simp +decide only [GS,g0,g3,g7,and_self]) ⟨?_,⟨w2,_,(by simp +decide only [GS]),o2,by simp,?_⟩,p,(by simp +decide only [GS]),hp,fun hpos=>?_⟩)⟩
    ·rw [hLi]; exact (by simp +decide only [GS])
    ·simp only [length_append,length_cons,length_nil]; omega
    ·obtain ⟨e,he⟩:∃ e:Nat,L = e + 1:=⟨L - 1,by omega⟩
     obtain ⟨k',h1,h2,h3⟩:=t.bC.down p e hp (by rw [hfp,he]; omega)
     exact ⟨k',h1,h2,by rw [h3]; omega⟩
 ·rintro F Y ⟨b0,g0,g3,g7,g16,⟨w,l,g14,ow,hl1,hl2⟩,-⟩
  rw [Nat.sub_self] at g16
  rw [aF]
  simp only [aA,Tryz.f61,KP,↓reduceIte,reduceEqDiff,reduceLT,Int.reduceLT,reduceNeg,cutAt,g16,g14]
  exact hk _ _ _ hl1 ow
end
end
section
section
variable {E:Env} {Z:Sg} {K:V -> Sg -> Prop}
theorem Og (h:bM E) {a vm:V} {rs:List aG} {n first:Nat} {m:Nat -> Nat -> Bool} {bC:List Int} (t:YJ rs n first m bC) (ia:IS dW a rs) (im:IS uP vm (Ic n m)) (hf:first < n) (hex:∃ k,k < n /\ m first k = true /\ 0 <= dZ bC k)
  (F:FT) (g0:F.get 0 = a) (g3:F.get 3 = vm) (g5:F.get 5 = .int .i64 (first:Int)) (g7:F.get 7 = .sl 0 0 n none)
  (hk:∀ Y w l,l ≠ [] -> bF aK 9 Y w l -> K w Y):R E (cutAt [1,1,1,1,1,1,1,1,1,1] (aA Tryz.f61).code) [] ⟨216,F⟩ [O.cells 3 (bC.map (V.int .i64)) true] (mG E (aA Tryz.f61).results K):=by
 have tn:=t.cnt
 have tl:=t.le
 have tfl:=t.bC.len
 have la:=cT h ia
 rw [tn] at la
 have b0:([O.cells 3 (bC.map (V.int .i64)) true]:Sg)[0]? = some (O.cells 3 (bC.map (V.int .i64)) true):=rfl
 have key:=fun Y w l at_ left b0 ow hl hat hle F g0 g3 g7 g14 g15 g16=>Oe (K:=K) h t ia im (Y:=Y) (w:=w) (l:=l) (at_:=at_) (left:=left) b0 ow hl hat hle F g0 g3 g7 g14 g15 g16 hk
 rw [show cutAt [1,1,1,1,1,1,1,1,1,1] (aA Tryz.f61).code = .seq (cutAt [1,1,1,1,1,1,1,1,1,1,0] (aA Tryz.f61).code) (.seq (.seq (cutAt [1,1,1,1,1,1,1,1,1,1,1,0,0] (aA Tryz.f61).code) (.block 10 (.loop (cutAt [1,1,1,1,1,1,1,1,1,1,1,0,1,2,2] (aA Tryz.f61).code)))) (.seq (cutAt [1,1,1,1,1,1,1,1,1,1,1,1,0] (aA Tryz.f61).code) (.seq (cutAt [1,1,1,1,1,1,1,1,1,1,1,1,1,0] (aA Tryz.f61).code) (.seq (.seq (cutAt [1,1,1,1,1,1,1,1,1,1,1,1,1,1,0,0] (aA Tryz.f61).code) (.block 12 (.loop (cutAt [1,1,1,1,1,1,1,1,1,1,1,1,1,1,0,1,2,2] (aA Tryz.f61).code)))) (cutAt [1,1,1,1,1,1,1,1,1,1,1,1,1,1,1] (aA Tryz.f61).code))))) from rfl]
 generalize cutAt [1,1,1,1,1,1,1,1,1,1,1,1,1,1,0,1,2,2] (aA Tryz.f61).code = D at *
 generalize cutAt [1,1,1,1,1,1,1,1,1,1,1,1,1,1,1] (aA Tryz.f61).code = C at *
 simp only [aA,Tryz.f61,KP,↓reduceIte,reduceLT,reduceNeg,cutAt]
 refine aV (fun k F Y=>Y = [O.cells 3 (bC.map (V.int .i64)) true] /\ F.get 0 = a /\ F.get 3 = vm /\ F.get 5 = .int .i64 (first:Int) /\ F.get 7 = .sl 0 0 n none /\ F.get 13 = .int .i64 (k:Int) /\ ((F.get 12 = .int .i64 0 /\ ∀ j,j < k -> ¬ (m first j = true /\ 0 <= dZ bC j)) \/ ∃ (q e:Nat),F.get 12 = .int .i64 ((e + 1:Nat):Int) /\ q < n /\ m first q = true /\ dZ bC q = (e:Int))) n ?_ ?_ n 0 _ _ (by omega) ⟨rfl,(lY (by simp +decide only [GS,g0,g3,g5,g7,and_self]) (.inl ⟨(by simp +decide only [GS]),fun j hj=>by omega⟩))⟩
 ·rintro k F Y hk2 ⟨rfl,g0,g3,g5,g7,g13,ho⟩ next
  have hlt:=eD hk2
  have hadd:=bZ k (by omega)
  obtain ⟨u1,rv,u2,e1,e2⟩:=EM h im hf hk2
  have e3:=zD h hk2
  have e4:=EU h b0 (i:=k) (by omega)
  rw [aF]
  have hno:¬ (m first k = true /\ 0 <= dZ bC k) -> ((F.get 12 = .int .i64 0 /\ ∀ j,j < k + 1 -> ¬ (m first j = true /\ 0 <= dZ bC j)) \/ ∃ (q e:Nat),F.get 12 = .int .i64 ((e + 1:Nat):Int) /\ q < n /\ m first q = true /\ dZ bC q = (e:Int)):=fun hn=>ho.imp (fun ⟨h1,h2⟩=>⟨h1,fun j hj=>by
   rcases Nat.lt_or_ge j k with g | g
   ·exact h2 j g
   ·obtain rfl:j = k:=by omega
    exact hn⟩) id
  have tr:∀ {F':FT},F'.get 12 = F.get 12 -> ¬ (m first k = true /\ 0 <= dZ bC k) -> ((F'.get 12 = .int .i64 0 /\ ∀ j,j < k + 1 -> ¬ (m first j = true /\ 0 <= dZ bC j)) \/ ∃ (q e:Nat),F'.get 12 = .int .i64 ((e + 1:Nat):Int) /\ q < n /\ m first q = true /\ dZ bC q = (e:Int)):=fun hF hn=>by rw [hF]; exact hno hn
  cases c1:m first k with
  | false=>
   simp only [KP,↓reduceIte,reduceEqDiff,reduceLT,reduceCtorEq,tF h,lX h,g0,g3,g5,g13,la,hlt,e1,e2,c1,hadd]
   exact next _ _ ⟨rfl,(lY (by simp +decide only [GS,g0,g3,g5,g7,and_self]) (tr (by simp +decide only [GS]) (fun e=>by rw [c1] at e; cases e.1)))⟩
  | true=>
   by_cases c2:0 <= dZ bC k
   case neg=>
    have d2:decide (0 <= dZ bC k) = false:=decide_eq_false c2
    simp only [KP,↓reduceIte,reduceEqDiff,reduceLT,reduceCtorEq,tF h,lX h,g0,g3,g5,g7,g13,la,hlt,e1,e2,e3,e4,c1,d2,hadd]
    exact next _ _ ⟨rfl,(lY (by simp +decide only [GS,g0,g3,g5,g7,and_self]) (tr (by simp +decide only [GS]) (fun e=>c2 e.2)))⟩
   obtain ⟨e,he⟩:=Int.eq_ofNat_of_zero_le c2
   have hsm:=t.bC.small hk2
   have d2:decide ((0:Int) <= (e:Int)) = true:=decide_eq_true (by omega)
   have hw:=bZ e (by omega)
   rw [he] at e4
   rcases ho with ⟨g12,-⟩ | ⟨q,e',g12,hq,hm,hfq⟩
   ·simp only [KP,↓reduceIte,reduceEqDiff,reduceLT,reduceCtorEq,tF h,lX h,g0,g3,g5,g7,g13,g12,la,hlt,e1,e2,e3,e4,c1,hw,hadd]
    exact next _ _ ⟨rfl,(lY (by simp +decide only [GS,g0,g3,g5,g7,and_self]) (.inr ⟨k,e,(by simp +decide only [GS]),hk2,c1,he⟩))⟩
   ·have d3:decide (((e' + 1:Nat):Int) = 0) = false:=decide_eq_false (by omega)
    cases c3:decide (((e + 1:Nat):Int) < ((e' + 1:Nat):Int)) with
    | true=>
     simp only [KP,↓reduceIte,reduceEqDiff,reduceLT,reduceCtorEq,tF h,lX h,g0,g3,g5,g7,g13,g12,la,hlt,e1,e2,e3,e4,c1,d3,hw,c3,hadd]
     exact next _ _ ⟨rfl,(lY (by simp +decide only [GS,g0,g3,g5,g7,and_self]) (.inr ⟨k,e,(by simp +decide only [GS]),hk2,c1,he⟩))⟩
    | false=>
     simp only [KP,↓reduceIte,reduceEqDiff,reduceLT,reduceCtorEq,tF h,lX h,g0,g3,g5,g7,g13,g12,la,hlt,e1,e2,e3,e4,c1,d3,hw,c3,hadd]
     exact next _ _ ⟨rfl,(lY (by simp +decide only [GS,g0,g3,g5,g7,and_self]) (.inr ⟨q,e',(by simp +decide only [GS,g12]),hq,hm,hfq⟩))⟩
 ·rintro F Y ⟨rfl,g0,g3,g5,g7,g13,ho⟩
  have hlt:=eE (Nat.lt_irrefl n)
  rcases ho with ⟨-,hno⟩ | ⟨q,e,g12,hq,hm,hfq⟩
  ·obtain ⟨k,h1,h2,h3⟩:=hex
   exact absurd ⟨h2,h3⟩ (hno k h1)
  ·have hsm:=t.bC.small hq
   have hw:=Db (e + 1) (by omega) (by omega)
   obtain ⟨rf,hrf⟩:∃ y,rs[first]? = some y:=⟨_,List.getElem?_eq_getElem (by omega)⟩
   obtain ⟨v1,p1,p2,p3,p4,e5,-⟩:=fC h ia hrf
   rw [aF]
   simp only [KP,↓reduceIte,reduceEqDiff,reduceLT,reduceLeDiff,reduceMul,reduceCtorEq,rI h,h.dA,h.bA,h.bK,g0,g5,g13,g12,la,hlt,e5,kJ,hw]
   refine key [O.cells 3 (bC.map (V.int .i64)) true,.cells 9 [.str rf.name] true] (.sl 1 0 1 none) [rf.name] first e rfl (.inr ⟨1,[[.str rf.name]],true,rfl,rfl,.one rfl⟩) ⟨by simp,by simp only [length_cons,length_nil]; omega⟩ hf (fun _=>⟨q,hq,hm,hfq⟩) _ ?_ ?_ ?_ ?_ ?_ ?_
   ·exact (by simp +decide only [GS,g0])
   ·exact (by simp +decide only [GS,g3])
   ·exact (by simp +decide only [GS,g7])
   ·exact (by simp +decide only [GS])
   ·exact (by simp +decide only [GS])
   ·exact (by simp +decide only [GS,Nat.add_sub_cancel])
theorem HM (h:bM E) {bC:List Int} {i:Nat} {d:Int} (hi:i < bC.length):storeAt E [O.cells 3 (bC.map (V.int .i64)) true] 3 (.ref 0 i) (.int .i64 d) = some [O.cells 3 ((bC.set i d).map (V.int .i64)) true]:=by
 unfold storeAt
 have h0:([O.cells 3 (bC.map (V.int .i64)) true]:Sg)[0]? = some (O.cells 3 (bC.map (V.int .i64)) true):=rfl
 simp only [h.pW,h0]
 rw [if_pos (by simp only [V.cells,V.a_,length_cons,length_nil,List.all_cons,List.all_nil,length_map,Bool.and_true,Bool.and_eq_true,decide_eq_true_eq]; exact ⟨rfl,by omega⟩)]
 refine congrArg some ?_
 show [O.cells 3 (setCells (bC.map (V.int .i64)) i [V.int .i64 d]) true] = _
 have:setCells (bC.map (V.int .i64)) i [V.int .i64 d] = (bC.set i d).map (V.int .i64):=by
  unfold setCells
  rw [List.map_set,List.set_eq_take_append_cons_drop,if_pos (by simpa using hi)]
  simp
 rw [this]
theorem QU (h:bM E) {a vm:V} {rs:List aG} {n first:Nat} {m:Nat -> Nat -> Bool} (hn:rs.length = n) (hle:n <= 64) (ia:IS dW a rs) (im:IS uP vm (Ic n m)) (hf:first < n) (hmn:∀ i j,m i j = true -> i < n /\ j < n) (hw:AxS.Way m first first) {bC:List Int} (hfar:lT m n first 1 0 0 bC)
  (F:FT) (g0:F.get 0 = a) (g3:F.get 3 = vm) (g5:F.get 5 = .int .i64 (first:Int)) (g7:F.get 7 = .sl 0 0 n none)
  (hk:∀ Y w l,l ≠ [] -> bF aK 9 Y w l -> K w Y):R E (cutAt [1,1,1,1,1,1,1,1,1] (aA Tryz.f61).code) [] ⟨216,F⟩ [O.cells 3 (bC.map (V.int .i64)) true] (mG E (aA Tryz.f61).results K):=by
 have la:=cT h ia
 rw [hn] at la
 have key:=fun bC (hfar:lT m n first (n + 1) 0 0 bC) F g0 g3 g5 g7=>Og (K:=K) h ⟨hn,hle,hfar⟩ ia im hf (hfar.first hmn hf hw) F g0 g3 g5 g7 hk
 rw [show cutAt [1,1,1,1,1,1,1,1,1] (aA Tryz.f61).code = .seq (cutAt [1,1,1,1,1,1,1,1,1,0] (aA Tryz.f61).code) (cutAt [1,1,1,1,1,1,1,1,1,1] (aA Tryz.f61).code) from rfl]
 generalize cutAt [1,1,1,1,1,1,1,1,1,1] (aA Tryz.f61).code = C at *
 simp only [aA,Tryz.f61,KP,↓reduceIte,reduceLT,reduceNeg,cutAt]
 refine aV (fun d F Y=>∃ bC,Y = [O.cells 3 (bC.map (V.int .i64)) true] /\ lT m n first (d + 1) 0 0 bC /\ F.get 0 = a /\ F.get 3 = vm /\ F.get 5 = .int .i64 (first:Int) /\ F.get 7 = .sl 0 0 n none /\ F.get 9 = .int .i64 ((d + 1:Nat):Int)) n ?_ ?_ n 0 _ _ (by omega) ⟨bC,rfl,hfar,(gR (by simp +decide only [GS,g0,g3,g5,g7,and_self]) (by simp +decide only [GS]; rfl))⟩
 ·rintro d F Y hd ⟨bC,rfl,hfar,g0,g3,g5,g7,g9⟩ next
  have hle1:decide (((d + 1:Nat):Int) <= (n:Int)) = true:=decide_eq_true (by omega)
  have haddd:=bZ (d + 1) (by omega)
  have hsub:=Db (d + 1) (by omega) (by omega)
  rw [aF]
  simp only [KP,↓reduceIte,reduceEqDiff,reduceLT,reduceCtorEq,g0,g9,la,hle1]
  refine aV (fun i F Y=>∃ bC,Y = [O.cells 3 (bC.map (V.int .i64)) true] /\ lT m n first (d + 1) i 0 bC /\ F.get 0 = a /\ F.get 3 = vm /\ F.get 5 = .int .i64 (first:Int) /\ F.get 7 = .sl 0 0 n none /\ F.get 9 = .int .i64 ((d + 1:Nat):Int) /\ F.get 10 = .int .i64 (i:Int)) n ?_ ?_ n 0 _ _ (by omega) ⟨bC,rfl,hfar,(by simp +decide only [GS,g0,g3,g5,g7,g9,and_self])⟩
  ·rintro i F Y hi ⟨bC,rfl,hfar,g0,g3,g5,g7,g9,g10⟩ next2
   have hlt:=eD hi
   have haddi:=bZ i (by omega)
   rw [aF]
   simp only [KP,↓reduceIte,reduceEqDiff,reduceLT,reduceCtorEq,g0,g10,la,hlt]
   refine aV (fun k F Y=>∃ bC,Y = [O.cells 3 (bC.map (V.int .i64)) true] /\ lT m n first (d + 1) i k bC /\ F.get 0 = a /\ F.get 3 = vm /\ F.get 5 = .int .i64 (first:Int) /\ F.get 7 = .sl 0 0 n none /\ F.get 9 = .int .i64 ((d + 1:Nat):Int) /\ F.get 10 = .int .i64 (i:Int) /\ F.get 11 = .int .i64 (k:Int)) n ?_ ?_ n 0 _ _ (by omega) ⟨bC,rfl,hfar,(by simp +decide only [GS,g0,g3,g5,g7,g9,g10,and_self])⟩
   ·rintro k F Y hk2 ⟨bC,rfl,hfar,g0,g3,g5,g7,g9,g10,g11⟩ next3
    have tfl:=hfar.len
    have b0:([O.cells 3 (bC.map (V.int .i64)) true]:Sg)[0]? = some (O.cells 3 (bC.map (V.int .i64)) true):=rfl
    have hlt:=eD hk2
    have haddk:=bZ k (by omega)
    obtain ⟨u1,rv,u2,e1,e2⟩:=EM h im hi hk2
    have e3:=zD h hi
    have e4:=EU h b0 (i:=i) (by omega)
    have e5:=zD h hk2
    have e6:=EU h b0 (i:=k) (by omega)
    rw [aF]
    by_cases c0:dZ bC i < 0
    case neg=>
     have d0:decide (dZ bC i < 0) = false:=decide_eq_false c0
     simp only [KP,↓reduceIte,reduceEqDiff,reduceLT,reduceCtorEq,g0,g7,g10,g11,la,hlt,e3,e4,d0,haddi]
     exact next2 _ _ ⟨bC,rfl,hfar.next (.inr (by omega)) hi,(by simp +decide only [GS,g0,g3,g5,g7,g9,and_self])⟩
    have d0:decide (dZ bC i < 0) = true:=decide_eq_true c0
    cases c1:m i k with
    | false=>
     simp only [KP,↓reduceIte,reduceEqDiff,reduceLT,reduceCtorEq,tF h,lX h,g0,g3,g7,g10,g11,la,hlt,e1,e2,e3,e4,d0,c1,haddk]
     exact next3 _ _ ⟨bC,rfl,hfar.skip (fun e=>by rw [c1] at e; cases e.1),(by simp +decide only [GS,g0,g3,g5,g7,g9,g10,and_self])⟩
    | true=>
     by_cases c2:dZ bC k = (d:Int)
     ·have d2:decide (dZ bC k = ((d + 1 - 1:Nat):Int)) = true:=decide_eq_true (by rw [c2]; rfl)
      have s1:=HM h (bC:=bC) (i:=i) (d:=((d + 1:Nat):Int)) (by omega)
      simp only [KP,↓reduceIte,reduceEqDiff,reduceLT,reduceCtorEq,tF h,lX h,g0,g3,g7,g9,g10,g11,la,hlt,e1,e2,e3,e4,e5,e6,d0,c1,hsub,d2,s1,haddk]
      exact next3 _ _ ⟨_,rfl,hfar.put hi hk2 (by omega) c0 c1 (by rw [c2]; omega),(by simp +decide only [GS,g0,g3,g5,g7,g9,g10,and_self])⟩
     ·have d2:decide (dZ bC k = ((d + 1 - 1:Nat):Int)) = false:=decide_eq_false (by rw [Nat.add_sub_cancel]; exact c2)
      simp only [KP,↓reduceIte,reduceEqDiff,reduceLT,reduceCtorEq,tF h,lX h,g0,g3,g7,g9,g10,g11,la,hlt,e1,e2,e3,e4,e5,e6,d0,c1,hsub,d2,haddk]
      exact next3 _ _ ⟨bC,rfl,hfar.skip (fun e=>c2 (by rw [e.2]; omega)),(by simp +decide only [GS,g0,g3,g5,g7,g9,g10,and_self])⟩
   ·rintro F Y ⟨bC,rfl,hfar,g0,g3,g5,g7,g9,g10,g11⟩
    have hlt:=eE (Nat.lt_irrefl n)
    rw [aF]
    simp only [KP,↓reduceIte,reduceEqDiff,reduceLT,reduceCtorEq,g0,g10,g11,la,hlt,haddi]
    exact next2 _ _ ⟨bC,rfl,hfar.next (.inl rfl) hi,(by simp +decide only [GS,g0,g3,g5,g7,g9,and_self])⟩
  ·rintro F Y ⟨bC,rfl,hfar,g0,g3,g5,g7,g9,g10⟩
   have hlt:=eE (Nat.lt_irrefl n)
   rw [aF]
   simp only [KP,↓reduceIte,reduceEqDiff,reduceLT,reduceCtorEq,g0,g9,g10,la,hlt,haddd]
   exact next _ _ ⟨bC,rfl,hfar.round,(by simp +decide only [GS,g0,g3,g5,g7,and_self])⟩
 ·rintro F Y ⟨bC,rfl,hfar,g0,g3,g5,g7,g9⟩
  have hle1:decide (((n + 1:Nat):Int) <= (n:Int)) = false:=decide_eq_false (by omega)
  rw [aF]
  simp only [KP,↓reduceIte,reduceEqDiff,reduceLT,reduceCtorEq,g0,g9,la,hle1]
  refine key bC hfar _ ?_ ?_ ?_ ?_
  ·exact (by simp +decide only [GS,g0])
  ·exact (by simp +decide only [GS,g3])
  ·exact (by simp +decide only [GS,g5])
  ·exact (by simp +decide only [GS,g7])
end
end
section
section
variable {E:Env} {Z:Sg} {K:V -> Sg -> Prop}
theorem M5 (n:Nat):gU n [V.int .i64 0] = (List.replicate n (0:Int)).map (V.int .i64):=by
 induction n with
 | zero=>rfl
 | succ n ih=>rw [gU,ih]; rfl
theorem PC {n i:Nat} (hi:i < n):(List.replicate i (-1:Int) ++ List.replicate (n - i) 0).set i (-1) = List.replicate (i + 1) (-1) ++ List.replicate (n - (i + 1)) 0:=by
 obtain ⟨d,rfl⟩:∃ d,n = i + (d + 1):=⟨n - i - 1,by omega⟩
 rw [List.set_append_right _ _ (by simp),List.length_replicate,Nat.sub_self,show i + (d + 1) - i = d + 1 by omega,List.replicate_succ,set_cons_zero,show i + (d + 1) - (i + 1) = d by omega,List.replicate_succ']
 simp
theorem Of (h:bM E) {a vm:V} {rs:List aG} {n:Nat} {m:Nat -> Nat -> Bool} (hn:rs.length = n) (hle:n <= 64) (ia:IS dW a rs) (im:IS uP vm (Ic n m)) (hmn:∀ i j,m i j = true -> i < n /\ j < n) {o:Option Nat} (ho:∀ f,o = some f -> f < n /\ AxS.Way m f f)
  (F:FT) (g0:F.get 0 = a) (g3:F.get 3 = vm) (g5:F.get 5 = .int .i64 (idx o))
  (hk:o ≠ none -> ∀ Y w l,l ≠ [] -> bF aK 9 Y w l -> K w Y) (hk0:o = none -> K .aD []):R E (cutAt [1,1,1,1,1] (aA Tryz.f61).code) [] ⟨216,F⟩ [] (mG E (aA Tryz.f61).results K):=by
 have la:=cT h ia
 rw [hn] at la
 cases o with
 | none=>
  simp only [aA,Tryz.f61,KP,↓reduceIte,reduceLT,Int.reduceLT,reduceNeg,cutAt,g5,mS]
  exact hk0 rfl
 | some first=>
  obtain ⟨hf,hw⟩:=ho first rfl
  have key:=fun bC hfar F g0 g3 g5 g7=>QU (K:=K) h hn hle ia im hf hmn hw (bC:=bC) hfar F g0 g3 g5 g7 (hk (by simp))
  have c0:decide ((first:Int) < 0) = false:=decide_eq_false (by omega)
  have c2:decide ((n:Int) * ((8:Nat):Int) <= 1099511627776) = true:=decide_eq_true (by omega)
  have c3:decide ((n:Int) <= 1099511627776) = true:=decide_eq_true (by omega)
  have lf:∀ Z,lenOf E Z 56 (.sl 0 0 n none) = some n:=fun Z=>by unfold lenOf; rw [h.RT]
  rw [show cutAt [1,1,1,1,1] (aA Tryz.f61).code = .seq (cutAt [1,1,1,1,1,0] (aA Tryz.f61).code) (.seq (cutAt [1,1,1,1,1,1,0] (aA Tryz.f61).code) (.seq (cutAt [1,1,1,1,1,1,1,0] (aA Tryz.f61).code) (.seq (cutAt [1,1,1,1,1,1,1,1,0] (aA Tryz.f61).code) (cutAt [1,1,1,1,1,1,1,1,1] (aA Tryz.f61).code)))) from rfl]
  generalize cutAt [1,1,1,1,1,1,1,1,1] (aA Tryz.f61).code = C at *
  simp only [aA,Tryz.f61,KP,↓reduceIte,reduceLT,reduceCtorEq,reduceNeg,h.pW,h.RT,cutAt,g0,g5,eZ,c0,la,c2,c3,Int.toNat_natCast,Int.le_refl,M5,lf]
  refine aV (fun i F Y=>∃ bC,Y = [O.cells 3 (bC.map (V.int .i64)) true] /\ bC = List.replicate i (-1) ++ List.replicate (n - i) 0 /\ F.get 0 = a /\ F.get 3 = vm /\ F.get 5 = .int .i64 (first:Int) /\ F.get 7 = .sl 0 0 n none /\ F.get 60 = .int .i64 (n:Int) /\ F.get 61 = .int .i64 (i:Int)) n ?_ ?_ n 0 _ _ (by omega) ⟨_,rfl,by simp,(by simp +decide only [GS,g0,g3,g5,eZ,and_self])⟩
  ·rintro i F Y hi ⟨bC,rfl,hfar,g0,g3,g5,g7,g60,g61⟩ next
   have hlt:=eD hi
   have hadd:=bZ i (by omega)
   have hfl:bC.length = n:=by rw [hfar]; simp; omega
   have e1:=zD h hi
   have s1:=HM h (bC:=bC) (i:=i) (d:=-1) (by omega)
   rw [aF]
   simp only [KP,↓reduceIte,reduceEqDiff,reduceLT,reduceNeg,g7,g60,g61,hlt,e1,s1,hadd]
   exact next _ _ ⟨_,rfl,by rw [hfar,PC hi],(by simp +decide only [GS,g0,g3,g5,g7,g60,and_self])⟩
  ·rintro F Y ⟨bC,rfl,hfar,g0,g3,g5,g7,g60,g61⟩
   have hlt:=eE (Nat.lt_irrefl n)
   have hfar:bC = List.replicate n (-1):=by rw [hfar]; simp
   have e1:=zD h hf
   have s1:=HM h (bC:=bC) (i:=first) (d:=0) (by rw [hfar]; simpa using hf)
   rw [aF]
   simp only [KP,↓reduceIte,reduceEqDiff,reduceLT,reduceNeg,g5,g7,g60,g61,hlt,e1,s1]
   refine key (bC.set first 0) ?_ _ ?_ ?_ ?_ ?_
   ·rw [hfar]; exact lT.init hf
   ·exact (by simp +decide only [GS,g0])
   ·exact (by simp +decide only [GS,g3])
   ·exact (by simp +decide only [GS,g5])
   ·exact (by simp +decide only [GS,g7])
theorem Np {rs:List aG} {d:Bool}:∀ i j,iM rs d i j = true -> i < rs.length /\ j < rs.length:=by
 intro i j hij
 unfold iM at hij
 split at hij
 ·rename_i r hr
  refine ⟨(List.getElem?_eq_some_iff.1 hr).1,?_⟩
  unfold xF at hij
  rw [Bool.or_eq_true] at hij
  rcases hij with hij | hij
  ·obtain ⟨f,_,hf⟩:=List.any_eq_true.1 hij
   exact BZ (of_decide_eq_true hf)
  ·rw [Bool.and_eq_true] at hij
   obtain ⟨f,_,hf⟩:=List.any_eq_true.1 hij.2
   exact Ds (of_decide_eq_true hf)
 ·cases hij
theorem QV (h:bM E) {a:V} {rs:List aG} (hs:wD rs) (ia:IS dW a rs) (F:FT) (g0:F.get 0 = a)
  (hk:(∃ i,i < rs.length /\ AxS.Way (iM rs false) i i) -> ∀ Y w l,l ≠ [] -> bF aK 9 Y w l -> K w Y) (hk0:(∀ i,i < rs.length -> ¬ AxS.Way (iM rs false) i i) -> K .aD []):R E (aA Tryz.f61).code [] ⟨216,F⟩ [] (mG E (aA Tryz.f61).results K):=by
 have la:=cT h ia
 have hle:=hs.len
 have hmn:=Np (rs:=rs) (d:=false)
 have bn:=Rj (Z:=[]) h (a:=a) (ia.ls [] 37) hs false
 generalize hm:iM rs false = m at *
 generalize hn:rs.length = n at *
 have key:=fun vm (im:IS uP vm (Ic n m)) o ho F g0 g3 g5 hk hk0=>Of (K:=K) h hn hle ia im hmn (o:=o) ho F g0 g3 g5 hk hk0
 have d7:=h.Yo
 simp only [aA,Tryz.f61,cutAt,Option.getD_some] at d7
 rw [show (aA Tryz.f61).code = .seq (cutAt [0] (aA Tryz.f61).code) (.seq (cutAt [1,0] (aA Tryz.f61).code) (.seq (cutAt [1,1,0] (aA Tryz.f61).code) (.seq (cutAt [1,1,1,0] (aA Tryz.f61).code) (.seq (cutAt [1,1,1,1,0] (aA Tryz.f61).code) (cutAt [1,1,1,1,1] (aA Tryz.f61).code))))) from rfl]
 generalize cutAt [1,1,1,1,1] (aA Tryz.f61).code = C at *
 simp only [aA,Tryz.f61,KP,↓reduceIte,reduceLT,reduceCtorEq,reduceNeg,cutAt,g0]
 refine aN bn ?_
 rintro vm σ' ⟨rfl,im⟩
 simp only [KP,↓reduceIte,reduceLT,reduceNeg]
 refine aN (OM (Z:=[]) h hle im.is) ?_
 rintro vc σ' ⟨rfl,ic⟩
 have im:=im.is
 have ic:=ic.is
 simp only [KP,↓reduceIte,reduceLT,reduceNeg]
 refine aV (fun i F Y=>Y = [] /\ F.get 0 = a /\ F.get 3 = vm /\ F.get 4 = vc /\ F.get 6 = .int .i64 (i:Int) /\ ∃ o:Option Nat,F.get 5 = .int .i64 (idx o) /\ ((o = none /\ ∀ j,j < i -> wk m n j j = false) \/ ∃ f,o = some f /\ f < n /\ wk m n f f = true)) n ?_ ?_ n 0 _ _ (by omega) ⟨rfl,(gR (by simp +decide only [GS,g0,and_self]) ⟨none,(by simp +decide only [GS,mS]),.inl ⟨rfl,fun j hj=>by omega⟩⟩)⟩
 ·rintro i F Y hi ⟨rfl,g0,g3,g4,g6,o,g5,ho⟩ next
  have hlt:=eD hi
  have hadd:=bZ i (by omega)
  obtain ⟨u1,rv,u2,e1,e2⟩:=EM h ic hi hi
  obtain ⟨ri,hri⟩:∃ y,rs[i]? = some y:=⟨_,List.getElem?_eq_getElem (by omega)⟩
  obtain ⟨v1,p1,p2,p3,p4,e3,-⟩:=fC h ia hri
  rw [aF]
  cases c1:wk m n i i with
  | false=>
   simp only [KP,↓reduceIte,reduceEqDiff,reduceLT,reduceCtorEq,tF h,lX h,g0,g4,g6,la,hlt,e1,e2,c1,hadd,aW d7,bS]
   refine next _ _ ⟨rfl,(gR (by simp +decide only [GS,g0,g3,g4,and_self]) ⟨o,(by simp +decide only [GS,g5]),ho.imp (fun ⟨h1,h2⟩=>⟨h1,fun j hj=>?_⟩) id⟩)⟩
   rcases Nat.lt_or_ge j i with g | g
   ·exact h2 j g
   ·obtain rfl:j = i:=by omega
    exact c1
  | true=>
   rcases ho with ⟨rfl,-⟩ | ⟨f,rfl,hf,hwf⟩
   ·simp only [KP,↓reduceIte,reduceEqDiff,reduceLT,reduceCtorEq,Int.reduceLT,reduceNeg,tF h,lX h,g0,g4,g5,g6,la,hlt,e1,e2,c1,mS,hadd,aW d7,bS]
    exact next _ _ ⟨rfl,(gR (by simp +decide only [GS,g0,g3,g4,and_self]) ⟨some i,(by simp +decide only [GS,eZ]),.inr ⟨i,rfl,hi,c1⟩⟩)⟩
   ·have c0:decide ((f:Int) < 0) = false:=decide_eq_false (by omega)
    obtain ⟨rf,hrf⟩:∃ y,rs[f]? = some y:=⟨_,List.getElem?_eq_getElem (by omega)⟩
    obtain ⟨v2,q1,q2,q3,q4,e4,-⟩:=fC h ia hrf
    cases c3:Ax.slt ri.name rf.name with
    | true=>
     simp only [KP,↓reduceIte,reduceEqDiff,reduceLT,reduceCtorEq,tF h,rI h,lX h,h.dA,h.bK,g0,g4,g5,g6,la,hlt,e1,e2,e3,e4,c1,c0,c3,eZ,hadd,aW d7,bS]
     exact next _ _ ⟨rfl,(gR (by simp +decide only [GS,g0,g3,g4,and_self]) ⟨some i,(by simp +decide only [GS,eZ]),.inr ⟨i,rfl,hi,c1⟩⟩)⟩
    | false=>
     simp only [KP,↓reduceIte,reduceEqDiff,reduceLT,reduceCtorEq,tF h,rI h,lX h,h.dA,h.bK,g0,g4,g5,g6,la,hlt,e1,e2,e3,e4,c1,c0,c3,eZ,hadd,aW d7,bS]
     exact next _ _ ⟨rfl,(gR (by simp +decide only [GS,g0,g3,g4,and_self]) ⟨some f,(by simp +decide only [GS,g5]),.inr ⟨f,rfl,hf,hwf⟩⟩)⟩
 ·rintro F Y ⟨rfl,g0,g3,g4,g6,o,g5,ho⟩
  have hlt:=eE (Nat.lt_irrefl n)
  rw [aF]
  simp only [KP,↓reduceIte,reduceEqDiff,reduceLT,reduceCtorEq,g0,g6,la,hlt]
  refine key vm im o (fun f hf=>?_) _ ?_ ?_ ?_ (fun ho2=>hk ?_) (fun ho2=>hk0 fun i hi hw=>?_)
  ·rcases ho with ⟨e,-⟩ | ⟨f',e,h1,h2⟩
   ·rw [e] at hf; cases hf
   ·rw [e] at hf; cases hf; exact ⟨h1,Bi h2⟩
  ·exact (by simp +decide only [GS,g0])
  ·exact (by simp +decide only [GS,g3])
  ·exact (by simp +decide only [GS,g5])
  ·rcases ho with ⟨e,-⟩ | ⟨f',e,h1,h2⟩
   ·exact absurd e ho2
   ·exact ⟨f',h1,Bi h2⟩
  ·rcases ho with ⟨-,h1⟩ | ⟨f',e,-⟩
   ·have:=RO hmn hw
    rw [h1 i hi] at this; cases this
   ·rw [e] at ho2; cases ho2
theorem IE (h:bM E) {a:V} {rs:List aG} (ha:LS dW 37 Z a rs) (hs:wD rs):aB E 61 [a] Z fun v σ'=>σ' = Z /\ ∃ l,kB aK v l /\ ((l ≠ [] /\ ∃ i,i < rs.length /\ AxS.Way (iM rs false) i i) \/ (l = [] /\ ∀ i,i < rs.length -> ¬ AxS.Way (iM rs false) i i)):=by
 obtain ⟨a',ea,ia⟩:=eS h ha
 rw [aH h.hs61 h.sp61 h.fn61 h.md61 (args':=[a']) (by simp only [aX,ea]),aZ (by kernel_rfl)]
 refine QV h hs ia _ (by simp +decide only [GS]) (fun hc Y w l hl ow=>?_) fun hc=>?_
 ·obtain ⟨v',e1,hv⟩:=pX h.dA rfl (fun r x hr c hc=>by rw [show r = [.str x] from hr] at hc; cases hc with | head=>rfl | tail _ h=>cases h) ow
  show (match cP Y E.ty false w with
   | some v=>(fun v σ'=>σ' = Z /\ ∃ l,kB aK v l /\ ((l ≠ [] /\ ∃ i,i < rs.length /\ AxS.Way (iM rs false) i i) \/ (l = [] /\ ∀ i,i < rs.length -> ¬ AxS.Way (iM rs false) i i))) v Z
   | none=>False)
  rw [e1]
  exact ⟨rfl,l,hv,.inl ⟨hl,hc⟩⟩
 ·exact ⟨rfl,[],.inl ⟨rfl,rfl⟩,.inr ⟨rfl,hc⟩⟩
end
end
section
section
variable {E:Env} {Z:Sg} {K:V -> Sg -> Prop}
theorem M0 {x:aG} {a b c d:V} (h1:IS aK a x.ins) (h2:IS aK b x.outs) (h3:IS aK c x.after) (h4:IS eW d x.steps):Hl (.agg [.str x.name,a,b,c,d]) x:=⟨a,b,c,d,rfl,h1,h2,h3,h4⟩
theorem zN {rs:List aG} {i:Nat} {r:aG} (hr:rs[i]? = some r) (h:bB r ≠ 0) (hp:∀ (j:Nat) (s:aG),j < i -> rs[j]? = some s -> bB s = 0):gB rs = bB r:=by
 have:rs.find? (fun r=>decide (bB r ≠ 0)) = some r:=by
  rw [List.find?_eq_some_iff_getElem]
  refine ⟨decide_eq_true h,i,(List.getElem?_eq_some_iff.1 hr).1,(List.getElem?_eq_some_iff.1 hr).2,fun j hj=>?_⟩
  have hjl:j < rs.length:=by have:=(List.getElem?_eq_some_iff.1 hr).1; omega
  simpa using hp j _ hj (List.getElem?_eq_getElem hjl)
 unfold gB
 rw [this]
theorem xS {rs:List aG} (hp:∀ (j:Nat) (s:aG),rs[j]? = some s -> bB s = 0):gB rs = if 40 < rs.length then 4 else if rW rs = true then 2 else if gE rs = true then 2 else 0:=by
 have:rs.find? (fun r=>decide (bB r ≠ 0)) = none:=by
  rw [List.find?_eq_none]
  intro x hx
  obtain ⟨j,hj,e⟩:=List.getElem_of_mem hx
  simpa using hp j x (by rw [List.getElem?_eq_getElem hj,e])
 unfold gB
 rw [this]
theorem TN (h:bM E) {a:V} {rs:List aG} (hs:wD rs) (ia:IS dW a rs) (hp0:∀ (j:Nat) (s:aG),rs[j]? = some s -> bB s = 0) (h40:¬ 40 < rs.length) (hcl:rW rs = false) (F:FT) (g0:F.get 0 = a) (hk:∀ e nm,Hq rs e -> K (.fV [.int .i64 e,.str nm]) []):R E (cutAt [1,1,1,1] (aA Tryz.f13).code) [] ⟨110,F⟩ [] (mG E (aA Tryz.f13).results K):=by
 have la:=cT h ia
 have bc:=IE (Z:=[]) h (a:=a) (ia.ls [] 37) hs
 have hE:=xS hp0
 rw [if_neg h40,if_neg (by rw [hcl]; simp)] at hE
 have d27:=h.Tp
 simp only [aA,Tryz.f13,cutAt,Option.getD_some] at d27
 have d31:=h.To
 simp only [aA,Tryz.f13,cutAt,Option.getD_some] at d31
 rw [show cutAt [1,1,1,1] (aA Tryz.f13).code = .seq (.seq (cutAt [1,1,1,1,0,0] (aA Tryz.f13).code) (.block 6 (.loop (cutAt [1,1,1,1,0,1,2,2] (aA Tryz.f13).code)))) (cutAt [1,1,1,1,1] (aA Tryz.f13).code) from rfl]
 have key:gE rs = false -> ∀ F:FT,F.get 0 = a -> R E (cutAt [1,1,1,1,1] (aA Tryz.f13).code) [] ⟨110,F⟩ [] (mG E (aA Tryz.f13).results K):=fun hst F g0=>by
  rw [if_neg (by rw [hst]; simp)] at hE
  simp only [aA,Tryz.f13,KP,↓reduceIte,reduceLT,cutAt,g0]
  refine aN bc ?_
  rintro v σ' ⟨rfl,l,il,hl⟩
  have il:=il.is
  have ll:=bN h il
  rcases hl with ⟨hl,hring⟩ | ⟨rfl,hring⟩
  ·obtain ⟨y,r,rfl⟩:=List.exists_cons_of_ne_nil hl
   obtain ⟨g,e1⟩:=gC h il (i:=0) (x:=y) rfl
   have e1:indexAddr E 28 v (.int .i64 0) = some (.dN g [.str y]):=e1
   have c0:decide ((0:Int) < ((r.length + 1:Nat):Int)) = true:=decide_eq_true (by omega)
   simp only [KP,↓reduceIte,reduceEqDiff,reduceLT,rI h,ll,c0,e1,aW d31,bS]
   exact hk 3 y (.inr ⟨hE,.inl ⟨hring,rfl⟩⟩)
  ·have c0:decide ((0:Int) < ((([]:List aU).length:Nat):Int)) = false:=rfl
   simp only [KP,↓reduceIte,reduceEqDiff,reduceLT,Int.reduceLT,kU,ll]
   exact hk 0 [] (.inr ⟨hE,.inr ⟨fun ⟨i,h1,h2⟩=>hring i h1 h2,rfl⟩⟩)
 generalize cutAt [1,1,1,1,1] (aA Tryz.f13).code = C at *
 simp only [aA,Tryz.f13,KP,↓reduceIte,reduceLT,cutAt]
 refine aV (fun i F Y=>Y = [] /\ F.get 0 = a /\ F.get 10 = .int .i64 (i:Int) /\ ∀ j s,j < i -> rs[j]? = some s -> ∀ m ∈ s.after,fO rs m ≠ none) rs.length ?_ ?_ rs.length 0 _ _ (by omega) ⟨rfl,(kZ (by simp +decide only [GS,g0,and_self]) (fun j s hj=>by omega))⟩
 ·rintro i F Y hi ⟨rfl,g0,g10,hp⟩ next
  obtain ⟨r,hr⟩:∃ y,rs[i]? = some y:=⟨_,List.getElem?_eq_getElem hi⟩
  have a3:=(hs.all r (mem_of_getElem? hr)).after
  obtain ⟨g,p1,p2,p3,p4,e1,i1,i2,i3,i4⟩:=fC h ia hr
  have l3:=bN h i3
  have hlt:=eD hi
  have hadd:=bZ i (by omega)
  rw [aF]
  simp only [KP,↓reduceIte,reduceEqDiff,reduceLT,reduceCtorEq,JK h,h.bA,h.bK,g0,g10,la,hlt,e1,l3]
  refine aV (fun j F Y=>Y = [] /\ F.get 0 = a /\ F.get 10 = .int .i64 (i:Int) /\ F.get 86 = p3 /\ F.get 87 = .int .i64 (r.after.length:Int) /\ F.get 88 = .int .i64 (j:Int) /\ ∀ q m,q < j -> r.after[q]? = some m -> fO rs m ≠ none) r.after.length ?_ ?_ r.after.length 0 _ _ (by omega) ⟨rfl,(lY (by simp +decide only [GS,g0,g10,and_self]) (fun q m hq=>by omega))⟩
  ·rintro j F Y hj ⟨rfl,g0,g10,g86,g87,g88,hq⟩ next2
   obtain ⟨m,hm⟩:∃ y,r.after[j]? = some y:=⟨_,List.getElem?_eq_getElem hj⟩
   obtain ⟨g,e2⟩:=gC h i3 hm
   have hlt2:=eD hj
   have hadd2:=bZ j (by omega)
   have km:=S8 (Z:=[]) h (s:=m) (ia.ls _ 37) (by omega)
   rw [aF]
   cases hat:fO rs m with
   | none=>
    simp only [KP,↓reduceIte,reduceEqDiff,reduceLT,reduceCtorEq,Int.reduceLT,reduceNeg,rI h,h.dA,h.bK,g0,g10,g86,g87,g88,hlt2,e1,e2,km,hat,mS,aW d27,bS]
    refine hk 2 _ (.inl ?_)
    have hst:gE rs = true:=by
     unfold gE
     rw [List.any_eq_true]
     exact ⟨r,mem_of_getElem? hr,List.any_eq_true.2 ⟨m,mem_of_getElem? hm,decide_eq_true hat⟩⟩
    rw [if_pos hst] at hE
    rw [hE]
    exact ⟨by decide,rfl⟩
   | some k=>
    have c0:decide ((k:Int) < 0) = false:=decide_eq_false (by omega)
    simp only [KP,↓reduceIte,reduceEqDiff,reduceLT,reduceCtorEq,rI h,g0,g86,g87,g88,hlt2,e2,km,hat,eZ,c0,hadd2]
    refine next2 _ _ ⟨rfl,(lY (by simp +decide only [GS,g0,g10,g86,g87,and_self]) (fun q m' hq2 hm'=>?_))⟩
    rcases Nat.lt_or_ge q j with g | g
    ·exact hq q m' g hm'
    ·obtain rfl:q = j:=by omega
     rw [hm] at hm'; cases hm'; rw [hat]; simp
  ·rintro F Y ⟨rfl,g0,g10,g86,g87,g88,hq⟩
   have hlt2:=eE (Nat.lt_irrefl r.after.length)
   rw [aF]
   simp only [KP,↓reduceIte,reduceEqDiff,reduceLT,g10,g87,g88,hlt2,hadd]
   refine next _ _ ⟨rfl,(kZ (by simp +decide only [GS,g0,and_self]) (fun j s hj hs2 m hm=>?_))⟩
   rcases Nat.lt_or_ge j i with g | g
   ·exact hp j s g hs2 m hm
   ·obtain rfl:j = i:=by omega
    rw [hr] at hs2; cases hs2
    obtain ⟨q,hq2,e⟩:=List.getElem_of_mem hm
    exact hq q m hq2 (by rw [List.getElem?_eq_getElem hq2,e])
 ·rintro F Y ⟨rfl,g0,g10,hp⟩
  have hlt:=eE (Nat.lt_irrefl rs.length)
  rw [aF]
  simp only [KP,↓reduceIte,reduceEqDiff,reduceLT,reduceCtorEq,g0,g10,la,hlt]
  refine key ?_ _ (by simp +decide only [GS,g0])
  unfold gE
  rw [List.any_eq_false]
  intro s hs2
  rw [List.any_eq_true]
  rintro ⟨m,hm,e⟩
  obtain ⟨j,hj,e2⟩:=List.getElem_of_mem hs2
  exact hp j s hj (by rw [List.getElem?_eq_getElem hj,e2]) m hm (of_decide_eq_true e)
theorem Lz {rs:List aG} {i:Nat} {r:aG} (hr:rs[i]? = some r):nP rs i = (decide (∃ k,fO rs r.name = some k /\ k < i) || r.outs.any fun o=>decide (∃ k,fB rs o = some k /\ k < i)):=by
 have first_lt:∀ (p:aG -> Bool) (rs:List aG) (i:Nat),(∃ k,bE p rs = some k /\ k < i) ↔ ∃ q ∈ rs.take i,p q = true:=by
  intro p rs
  induction rs with
  | nil=>intro i; simp [bE]
  | cons r rs ih=>
   intro i
   rw [bE]
   by_cases hp:p r = true
   ·rw [if_pos hp]
    cases i with
    | zero=>simp
    | succ i=>simp [hp]
   ·rw [if_neg hp]
    cases i with
    | zero=>simp
    | succ i=>
     rw [List.take_succ_cons]
     simp only [mem_cons,Option.map_eq_some_iff]
     constructor
     ·rintro ⟨k,⟨k',h1,rfl⟩,h2⟩
      obtain ⟨q,hq,hpq⟩:=(ih i).1 ⟨k',h1,by omega⟩
      exact ⟨q,.inr hq,hpq⟩
     ·rintro ⟨q,rfl | hq,hpq⟩
      ·exact absurd hpq hp
      ·obtain ⟨k,h1,h2⟩:=(ih i).2 ⟨q,hq,hpq⟩
       exact ⟨k + 1,⟨k,h1,rfl⟩,by omega⟩
 unfold nP fO fB
 rw [hr]
 rw [Bool.eq_iff_iff]
 simp only [List.any_eq_true,Bool.or_eq_true,decide_eq_true_eq,first_lt]
 constructor
 ·rintro ⟨q,hq,h1 | ⟨o,ho,h2⟩⟩
  ·exact .inl ⟨q,hq,h1⟩
  ·exact .inr ⟨o,ho,q,hq,h2⟩
 ·rintro (⟨q,hq,h1⟩ | ⟨o,ho,q,hq,h2⟩)
  ·exact ⟨q,hq,.inl h1⟩
  ·exact ⟨q,hq,.inr ⟨o,ho,h2⟩⟩
theorem mU {α:Type} {p:α -> Bool} {l:List α} {x:α} (hx:x ∈ l) (hp:p x = true):∃ k,bE p l = some k:=by
 cases h:bE p l with
 | some k=>exact ⟨k,rfl⟩
 | none=>
  have h2:(bE p l).isSome = true:=by rw [cC,List.any_eq_true]; exact ⟨x,hx,hp⟩
  rw [h] at h2; cases h2
theorem TO (h:bM E) {a:V} {rs:List aG} (hs:wD rs) (ia:IS dW a rs) (hp0:∀ (j:Nat) (s:aG),rs[j]? = some s -> bB s = 0) (h40:¬ 40 < rs.length) (F:FT) (g0:F.get 0 = a) (hk:∀ e nm,Hq rs e -> K (.fV [.int .i64 e,.str nm]) []):R E (cutAt [1,1,1] (aA Tryz.f13).code) [] ⟨110,F⟩ [] (mG E (aA Tryz.f13).results K):=by
 have la:=cT h ia
 have hE:=xS hp0
 have hmem:∀ x ∈ rs,x.outs.length <= 4294967296:=fun x hx=>by have:=(hs.all x hx).outs; omega
 rw [if_neg h40] at hE
 have d19:=h.Tq
 simp only [aA,Tryz.f13,cutAt,Option.getD_some] at d19
 have key:=fun hcl F g0=>TN (K:=K) h hs ia hp0 h40 hcl F g0 hk
 rw [show cutAt [1,1,1] (aA Tryz.f13).code = .seq (.seq (cutAt [1,1,1,0,0] (aA Tryz.f13).code) (.block 2 (.loop (cutAt [1,1,1,0,1,2,2] (aA Tryz.f13).code)))) (cutAt [1,1,1,1] (aA Tryz.f13).code) from rfl]
 generalize cutAt [1,1,1,1] (aA Tryz.f13).code = C at *
 simp only [aA,Tryz.f13,KP,↓reduceIte,reduceLT,cutAt]
 refine aV (fun i F Y=>Y = [] /\ F.get 0 = a /\ F.get 6 = .int .i64 (i:Int) /\ ∀ j,j < i -> nP rs j = false) rs.length ?_ ?_ rs.length 0 _ _ (by omega) ⟨rfl,(kZ (by simp +decide only [GS,g0,and_self]) (fun j hj=>by omega))⟩
 ·rintro i F Y hi ⟨rfl,g0,g6,hp⟩ next
  obtain ⟨r,hr⟩:∃ y,rs[i]? = some y:=⟨_,List.getElem?_eq_getElem hi⟩
  have hrm:=mem_of_getElem? hr
  have a3:=(hs.all r hrm).outs
  obtain ⟨g,p1,p2,p3,p4,e1,i1,i2,i3,i4⟩:=fC h ia hr
  have l2:=bN h i2
  have hlt:=eD hi
  have hadd:=bZ i (by omega)
  obtain ⟨k1,hk1⟩:=mU (p:=fun q:aG=>decide (q.name = r.name)) hrm (decide_eq_true rfl)
  have hk1:fO rs r.name = some k1:=hk1
  have km:=S8 (Z:=[]) h (s:=r.name) (ia.ls _ 37) (by omega)
  have hcl:=Lz hr
  rw [show decide (∃ k,fO rs r.name = some k /\ k < i) = decide (k1 < i) by rw [hk1]; simp] at hcl
  have hb:decide ((k1:Int) < (i:Int)) = decide (k1 < i):=by rw [Bool.eq_iff_iff,decide_eq_true_eq,decide_eq_true_eq]; omega
  rw [aF]
  simp only [KP,↓reduceIte,reduceEqDiff,reduceLT,reduceCtorEq,rI h,JK h,h.dA,h.bA,h.bK,g0,g6,la,hlt,e1,l2,km,hk1,eZ,hb]
  refine aV (fun j F Y=>Y = [] /\ F.get 0 = a /\ F.get 6 = .int .i64 (i:Int) /\ F.get 55 = p2 /\ F.get 56 = .int .i64 (r.outs.length:Int) /\ F.get 57 = .int .i64 (j:Int) /\ F.get 7 = .bool (decide (k1 < i) || (r.outs.take j).any fun o=>decide (∃ k,fB rs o = some k /\ k < i))) r.outs.length ?_ ?_ r.outs.length 0 _ _ (by omega) ⟨rfl,(lY (by simp +decide only [GS,g0,g6,and_self]) (by simp [FT.jN]))⟩
  ·rintro j F Y hj ⟨rfl,g0,g6,g55,g56,g57,g7⟩ next2
   obtain ⟨m,hm⟩:∃ y,r.outs[j]? = some y:=⟨_,List.getElem?_eq_getElem hj⟩
   have hmm:=mem_of_getElem? hm
   obtain ⟨g,e2⟩:=gC h i2 hm
   have hlt2:=eD hj
   have hadd2:=bZ j (by omega)
   obtain ⟨k2,hk2⟩:=mU (p:=fun q:aG=>decide (m ∈ q.outs)) hrm (decide_eq_true hmm)
   have hk2:fB rs m = some k2:=hk2
   have kk:=JS (Z:=[]) h (s:=m) (ia.ls _ 37) hmem (by omega)
   have hb2:decide ((k2:Int) < (i:Int)) = decide (k2 < i):=by rw [Bool.eq_iff_iff,decide_eq_true_eq,decide_eq_true_eq]; omega
   have hnew:=oU (p:=fun o=>decide (∃ k,fB rs o = some k /\ k < i)) hm
   rw [show decide (∃ k,fB rs m = some k /\ k < i) = decide (k2 < i) by rw [hk2]; simp] at hnew
   rw [aF]
   cases hbad:(decide (k1 < i) || (r.outs.take j).any fun o=>decide (∃ k,fB rs o = some k /\ k < i)) with
   | true=>
    rw [hbad] at g7
    simp only [KP,↓reduceIte,reduceEqDiff,reduceLT,rI h,g55,g56,g57,g7,hlt2,e2,hadd2]
    refine next2 _ _ ⟨rfl,(lY (by simp +decide only [GS,g0,g6,g55,g56,and_self]) ?_)⟩
    rw [hnew,<- Bool.or_assoc,hbad]
    simp only [FT.jN,reduceEqDiff,↓reduceIte,Bool.true_or]
   | false=>
    rw [hbad] at g7
    simp only [KP,↓reduceIte,reduceEqDiff,reduceLT,reduceCtorEq,rI h,g0,g6,g55,g56,g57,g7,hlt2,e2,kk,hk2,eZ,hb2,hadd2]
    refine next2 _ _ ⟨rfl,(lY (by simp +decide only [GS,g0,g6,g55,g56,and_self]) ?_)⟩
    rw [hnew,<- Bool.or_assoc,hbad]
    simp only [FT.jN,reduceEqDiff,↓reduceIte,Bool.false_or]
  ·rintro F Y ⟨rfl,g0,g6,g55,g56,g57,g7⟩
   have hlt2:=eE (Nat.lt_irrefl r.outs.length)
   rw [take_of_length_le (Nat.le_refl _),<- hcl] at g7
   rw [aF]
   cases hc:nP rs i with
   | true=>
    rw [hc] at g7
    simp only [KP,↓reduceIte,reduceEqDiff,reduceLT,reduceCtorEq,rI h,h.dA,h.bK,g0,g6,g56,g57,g7,hlt2,e1,aW d19,bS]
    refine hk 2 _ (.inl ?_)
    have hst:rW rs = true:=by
     unfold rW
     rw [List.any_eq_true]
     exact ⟨i,mem_range.2 hi,hc⟩
    rw [if_pos hst] at hE
    rw [hE]
    exact ⟨by decide,rfl⟩
   | false=>
    rw [hc] at g7
    simp only [KP,↓reduceIte,reduceEqDiff,reduceLT,g6,g56,g57,g7,hlt2,hadd]
    refine next _ _ ⟨rfl,(kZ (by simp +decide only [GS,g0,and_self]) (fun j hj=>?_))⟩
    rcases Nat.lt_or_ge j i with g | g
    ·exact hp j g
    ·obtain rfl:j = i:=by omega
     exact hc
 ·rintro F Y ⟨rfl,g0,g6,hp⟩
  have hlt:=eE (Nat.lt_irrefl rs.length)
  rw [aF]
  simp only [KP,↓reduceIte,reduceEqDiff,reduceLT,reduceCtorEq,g0,g6,la,hlt]
  refine key ?_ _ (by simp +decide only [GS,g0])
  unfold rW
  rw [List.any_eq_false]
  intro i hi
  rw [hp i (mem_range.1 hi)]; simp
theorem Rs (h:bM E) {a:V} {rs:List aG} (hs:wD rs) (ia:IS dW a rs) (F:FT) (g0:F.get 0 = a) (hk:∀ e nm,Hq rs e -> K (.fV [.int .i64 e,.str nm]) []):R E (aA Tryz.f13).code [] ⟨110,F⟩ [] (mG E (aA Tryz.f13).results K):=by
 have la:=cT h ia
 have hle:=hs.len
 have d6:=h.Yw
 simp only [aA,Tryz.f13,cutAt,Option.getD_some] at d6
 have key:=fun hp0 h40 F g0=>TO (K:=K) h hs ia hp0 h40 F g0 hk
 rw [show (aA Tryz.f13).code = .seq (cutAt [0] (aA Tryz.f13).code) (.seq (cutAt [1,0] (aA Tryz.f13).code) (.seq (cutAt [1,1,0] (aA Tryz.f13).code) (cutAt [1,1,1] (aA Tryz.f13).code))) from rfl]
 generalize cutAt [1,1,1] (aA Tryz.f13).code = C at *
 simp only [aA,Tryz.f13,KP,↓reduceIte,reduceLT,kU,cutAt]
 refine aV (fun i F Y=>Y = [] /\ F.get 0 = a /\ F.get 4 = .int .i64 (i:Int) /\ ∀ (j:Nat) (s:aG),j < i -> rs[j]? = some s -> bB s = 0) rs.length ?_ ?_ rs.length 0 _ _ (by omega) ⟨rfl,(kZ (by simp +decide only [GS,g0,and_self]) (fun j s hj=>by omega))⟩
 ·rintro i F Y hi ⟨rfl,g0,g4,hp⟩ next
  obtain ⟨r,hr⟩:∃ y,rs[i]? = some y:=⟨_,List.getElem?_eq_getElem hi⟩
  have hrs:=hs.all r (mem_of_getElem? hr)
  obtain ⟨g,p1,p2,p3,p4,e1,i1,i2,i3,i4⟩:=fC h ia hr
  have hlt:=eD hi
  have hadd:=bZ i (by omega)
  have kr:=K8 (Z:=[]) h (M0 i1 i2 i3 i4) hrs
  rw [aF]
  by_cases he:bB r = 0
  ·have c0:decide (bB r = 0) = true:=decide_eq_true he
   simp only [KP,↓reduceIte,reduceEqDiff,reduceLT,reduceCtorEq,RB h,g0,g4,la,hlt,e1,kr,c0,hadd]
   refine next _ _ ⟨rfl,(kZ (by simp +decide only [GS,g0,and_self]) (fun j s hj hs2=>?_))⟩
   rcases Nat.lt_or_ge j i with g | g
   ·exact hp j s g hs2
   ·obtain rfl:j = i:=by omega
    rw [hr] at hs2; cases hs2; exact he
  ·have c0:decide (bB r = 0) = false:=decide_eq_false he
   simp only [KP,↓reduceIte,reduceEqDiff,reduceLT,reduceCtorEq,rI h,RB h,h.dA,h.bK,g0,g4,la,hlt,e1,kr,c0,aW d6,bS]
   exact hk _ _ (.inl ⟨by rw [zN hr he hp]; exact he,(zN hr he hp).symm⟩)
 ·rintro F Y ⟨rfl,g0,g4,hp⟩
  have hlt:=eE (Nat.lt_irrefl rs.length)
  have hp0:∀ (j:Nat) (s:aG),rs[j]? = some s -> bB s = 0:=fun j s hs2=>hp j s (List.getElem?_eq_some_iff.1 hs2).1 hs2
  rw [aF]
  by_cases h40:40 < rs.length
  ·have c0:decide ((40:Int) < (rs.length:Int)) = true:=decide_eq_true (by omega)
   simp only [KP,↓reduceIte,reduceEqDiff,reduceLT,reduceCtorEq,kU,g0,g4,la,hlt,c0]
   refine hk 4 _ (.inl ?_)
   rw [xS hp0,if_pos h40]
   exact ⟨by decide,rfl⟩
  ·have c0:decide ((40:Int) < (rs.length:Int)) = false:=decide_eq_false (by omega)
   simp only [KP,↓reduceIte,reduceEqDiff,reduceLT,reduceCtorEq,g0,g4,la,hlt,c0]
   exact key hp0 h40 _ (by simp +decide only [GS,g0])
theorem Ow (h:bM E) {a:V} {rs:List aG} (ha:LS dW 37 Z a rs) (hs:wD rs):aB E 13 [a] Z fun v σ'=>σ' = Z /\ ∃ e nm,v = .fV [.int .i64 e,.str nm] /\ Hq rs e:=by
 obtain ⟨a',ea,ia⟩:=eS h ha
 rw [aH h.hs13 h.MJ h.fn13 h.md13 (args':=[a']) (by simp only [aX,ea]),aZ (by kernel_rfl)]
 exact Rs h hs ia _ (by simp +decide only [GS]) fun e nm he=>⟨rfl,e,nm,rfl,he⟩
end
end
section
section
variable {E:Env} {Z:Sg} {K:V -> Sg -> Prop}
def gA:Lay AxS.Step:=⟨fun r x=>∃ a l,r = [.str x.out,.int .i64 x.op,a,l,.int .i64 x.n] /\ kB aK a x.args /\ kB aK l x.lits,5,fun _ _ ⟨_,_,h,_⟩=>by rw [h]; rfl,fun _ _ ⟨a,l,h,h1,h2⟩ c hc=>by
 rw [h] at hc
 simp only [mem_cons,List.not_mem_nil,or_false] at hc
 rcases hc with rfl | rfl | rfl | rfl | rfl
 ·rfl
 ·rfl
 ·exact h1.is.bD
 ·exact h2.is.bD
 ·rfl⟩
theorem HK:∀ r x,gA.P r x -> ∀ c ∈ r,cK false c = true:=fun r x ⟨a,l,h,h1,h2⟩ c hc=>by
 rw [h] at hc
 simp only [mem_cons,List.not_mem_nil,or_false] at hc
 rcases hc with rfl | rfl | rfl | rfl | rfl
 ·rfl
 ·rfl
 ·exact h1.tag
 ·exact h2.tag
 ·rfl
theorem Mi:∀ r x,aK.P r x -> ∀ c ∈ r,cK false c = true:=fun r x hr c hc=>by
 rw [show r = [.str x] from hr] at hc
 cases hc with
 | head=>rfl
 | tail _ h=>cases h
theorem yB (h:bM E) {v:V} {l:List aU} (iv:IS aK v l) (hl:l.length <= 8796093022208):∃ w Y v',Ax.append E [] #[28,28] .aD v = some (w,Y) /\ cP Y E.ty false w = some v' /\ kB aK v' l:=by
 obtain ⟨rs,e,ha⟩:=qN iv []
 have hr:pN l.length 16 = true:=by
  unfold pN
  rw [decide_eq_true_eq]
  exact Nat.le_trans (Nat.mul_le_mul_right 17 hl) (by decide)
 obtain ⟨w,Y,h1,h2⟩:=OX (ats:=#[28,28]) h.bA rfl h.dA rfl (by decide) (jB h) rfl e ha hr
 obtain ⟨v',h3,h4⟩:=pX h.dA rfl Mi h2
 exact ⟨w,Y,v',h1,h3,h4⟩
theorem iS {c:V} (h:Ax.bD c = true):c.cells = [c]:=by cases c <;> first | rfl | cases h
theorem Dk (Z:Sg):aT Z E.ty true .aD = some .aD:=rfl
theorem Q5 (h:bM E) {x:aG} {a b c d:V} (ia:IS aK a x.ins) (ib:IS aK b x.outs) (ic:IS aK c x.after) (hx:YL x) {Y:Sg} {n0:Nat} (b0:Y[n0]? = some (O.cells 37 [.str x.name,a,b,c,d] true)) (F:FT) (g1:F.get 1 = .ref n0 0) (g2:F.get 2 = .ref (n0 + 1) 0) :
  ∃ F' a' b' c',cE E (ev E 0) (opsOf (cutAt [1,0] (aA Tryz.f78).code)) ⟨45,F⟩ Y = some (⟨45,F'⟩,Y ++ [O.cells 37 [.str x.name,a',b',c',.aD] true]) /\ F'.get 1 = .ref n0 0 /\ F'.get 2 = .ref (n0 + 1) 0 /\ F'.get 3 = .ref Y.length 0 /\ kB aK a' x.ins /\ kB aK b' x.outs /\ kB aK c' x.after:=by
 have a1:=hx.ins
 have a2:=hx.outs
 have a3:=hx.after
 obtain ⟨w1,τ1,a',h1,k1,i1⟩:=yB h ia (by omega)
 obtain ⟨w2,τ2,b',h2,k2,i2⟩:=yB h ib (by omega)
 obtain ⟨w3,τ3,c',h3,k3,i3⟩:=yB h ic (by omega)
 have s1:=fun Z=>nY (E:=E) ia Z
 have s2:=fun Z=>nY (E:=E) ib Z
 have s3:=fun Z=>nY (E:=E) ic Z
 have v1:=cA 10 ia
 have v2:=cA 10 ib
 have v3:=cA 10 ic
 have u1:=cA 10 i1.is
 have u2:=cA 10 i2.is
 have u3:=cA 10 i3.is
 have o1:=aJ i1.is.bD
 have o2:=aJ i2.is.bD
 have o3:=aJ i3.is.bD
 have n1:=iS i1.is.bD
 have n2:=iS i2.is.bD
 have n3:=iS i3.is.bD
 have b0':=aM (x:=O.cells 37 [.str [],.aD,.aD,.aD,.aD] true) b0
 have vs:=wG 11 x.name
 unfold cE
 rw [h.TY,h.Vr]
 simp only [aA,Tryz.f78,KP,Ax.loadAt,Ax.storeAt,↓reduceIte,reduceEqDiff,reduceLT,reduceAdd,reduceCtorEq,h.dA,h.bA,h.fF,h.bK,opsOf,cutAt,Fz.apps,gZ,bJ,bX,jV,Ax.comp,Ax.last,hU,Ax.again,tQ,aX,Ax.fill,Ax.placeOf,g1,b0,b0',h1,h2,h3,k1,k2,k3,s1,s2,s3,v1,v2,v3,u1,u2,u3,o1,o2,o3,vs,n1,n2,n3,Dk,aP,cL]
 exact ⟨_,a',b',c',rfl,(fL (by simp +decide only [GS,g1,g2,and_self]) ⟨i1,i2,i3⟩)⟩
def Kp (Z Y:Sg):Prop:=∀ (c:Nat) (o:O),Z[c]? = some o -> Y[c]? = some o
theorem Q6 (h:bM E) {x:aG} {a b c d:V} (ia:IS aK a x.ins) (ib:IS aK b x.outs) (ic:IS aK c x.after) (hx:YL x) {Y:Sg} {n0:Nat} (b0:Y[n0]? = some (O.cells 37 [.str x.name,a,b,c,d] true)) (F:FT) (g1:F.get 1 = .ref n0 0) (g2:F.get 2 = .ref (n0 + 1) 0) {st:List kA} {Q:Ax.X -> Fr -> Sg -> Prop}
  (hk:∀ F' a' b' c',F'.get 1 = .ref n0 0 -> F'.get 2 = .ref (n0 + 1) 0 -> F'.get 3 = .ref Y.length 0 -> kB aK a' x.ins -> kB aK b' x.outs -> kB aK c' x.after -> M E st .normal ⟨45,F'⟩ (Y ++ [O.cells 37 [.str x.name,a',b',c',.aD] true]) Q) :
  R E (.region 1 (opsOf (cutAt [1,0] (aA Tryz.f78).code)) true) st ⟨45,F⟩ Y Q:=by
 obtain ⟨F',a',b',c',hE,h1,h2,h3,h4,h5,h6⟩:=Q5 h ia ib ic hx b0 F g1 g2
 exact Eq.mpr (gY hE) (hk F' a' b' c' h1 h2 h3 h4 h5 h6)
end
end
section
section
variable {E:Env} {Z:Sg} {K:V -> Sg -> Prop}
theorem sX {α:Type} {L:Lay α} {t u k:Nat} {Y:Sg} {w:V} {l:List α} {cs:List V} {ex:Bool} (hb:Y[k]? = some (.cells u cs ex)) (hu:u ≠ t) (ow:bF L t Y w l):aQ w ≠ some k:=by
 rcases ow with ⟨rfl,-⟩ | ⟨b,rs,ex,rfl,hc,-⟩
 ·intro e; cases e
 ·intro e; cases e; rw [hb] at hc; cases hc; exact hu rfl
theorem qA {α:Type} {L:Lay α} {t:Nat} {Y:Sg} {w:V} {l:List α} (ow:bF L t Y w l):w.cells = [w] /\ w.a_ = true:=by
 rcases ow with ⟨rfl,-⟩ | ⟨b,rs,ex,rfl,-⟩ <;> exact ⟨rfl,rfl⟩
theorem tY {Y:Sg} {i:Nat} {x y:O} (h:Y[i]? = some y):(Y.set i x)[i]? = some x:=getElem?_set_self (List.getElem?_eq_some_iff.1 h).1
theorem pM {Y:Sg} {i j:Nat} {x y:O} (h:Y[j]? = some y) (hij:i ≠ j):(Y.set i x)[j]? = some y:=by rw [getElem?_set_ne hij]; exact h
theorem QZ (h:bM E) {s:AxS.Step} {p q:V} (ip:IS aK p s.args) (iq:IS aK q s.lits) (hp:s.args.length <= 8796093022208) (hq:s.lits.length <= 8796093022208) {Y:Sg} (F:FT) (g5:F.get 5 = .ref Y.length 0) {st:List kA} {Q:Ax.X -> Fr -> Sg -> Prop}
  (hk:∀ F' p' q',(∀ i,i < 30 -> F'.get i = F.get i) -> kB aK p' s.args -> kB aK q' s.lits -> M E st .normal ⟨45,F'⟩ (Y ++ [O.cells 75 [.str s.out,.int .i64 s.op,p',q',.int .i64 s.n] true]) Q):R E (.region 6 (opsOf (cutAt [1,1,0,1,2,2,1,0,2,1,0] (aA Tryz.f78).code)) true) st ⟨45,F⟩ (Y ++ [O.cells 75 [.str s.out,.int .i64 s.op,p,q,.int .i64 s.n] true]) Q:=by
 obtain ⟨w1,τ1,p',h1,k1,i1⟩:=yB h ip (by omega)
 obtain ⟨w2,τ2,q',h2,k2,i2⟩:=yB h iq (by omega)
 have s1:=fun Z=>nY (E:=E) ip Z
 have s2:=fun Z=>nY (E:=E) iq Z
 have o1:=aJ i1.is.bD
 have o2:=aJ i2.is.bD
 have n1:=iS i1.is.bD
 have n2:=iS i2.is.bD
 have key:∃ F',cE E (ev E 0) (opsOf (cutAt [1,1,0,1,2,2,1,0,2,1,0] (aA Tryz.f78).code)) ⟨45,F⟩ (Y ++ [O.cells 75 [.str s.out,.int .i64 s.op,p,q,.int .i64 s.n] true]) = some (⟨45,F'⟩,Y ++ [O.cells 75 [.str s.out,.int .i64 s.op,p',q',.int .i64 s.n] true]) /\ ∀ i,i < 30 -> F'.get i = F.get i:=by
  unfold cE
  rw [h.TX,h.Vq]
  simp only [aA,Tryz.f78,KP,Ax.loadAt,Ax.storeAt,↓reduceIte,reduceEqDiff,reduceLT,reduceLeDiff,reduceAdd,reduceCtorEq,h.bA,h.cQ,opsOf,cutAt,Fz.apps,bJ,bX,jV,Ax.comp,tQ,fK,aX,g5,h1,h2,k1,k2,s1,s2,o1,o2,n1,n2,Dk,aP,cL]
  refine ⟨_,rfl,fun i hi=>?_⟩
  simp only [FT.jN]
  repeat rw [if_neg (by omega)]
 obtain ⟨F',hE,hF⟩:=key
 exact Eq.mpr (gY hE) (hk F' p' q' hF i1 i2)
theorem OW (h:bM E) {Y:Sg} {w:V} {l:List AxS.Step} {s:AxS.Step} {p q:V} (ow:bF gA 75 Y w l) (ip:kB aK p s.args) (iq:kB aK q s.lits) (hb:l.length <= 1000):∃ w' τ',Ax.append E (Y ++ [O.cells 75 [.str s.out,.int .i64 s.op,p,q,.int .i64 s.n] true]) #[35,35] w (.sl Y.length 0 1 none) = some (w',τ') /\ bF gA 75 τ' w' (l ++ [s]) /\ Sp (Y ++ [O.cells 75 [.str s.out,.int .i64 s.op,p,q,.int .i64 s.n] true]) τ' w /\ Y.length <= τ'.length /\ ∀ b,aQ w' = some b -> aQ w = some b \/ Y.length <= b:=by
 obtain ⟨w',τ',h1,h2,h3,h4,h5⟩:=jQ (m:=[s]) (new:=[[.str s.out,.int .i64 s.op,p,q,.int .i64 s.n]]) h.fF rfl h.cQ rfl (by decide) (Ag h) rfl (ow.app [O.cells 75 [.str s.out,.int .i64 s.op,p,q,.int .i64 s.n] true]) (mD rfl) (.one ⟨p,q,rfl,ip,iq⟩) (eT (b:=1001) (by decide) (by simp only [length_cons,length_nil]; omega))
 refine ⟨w',τ',h1,h2,h3,?_,fun b e=>?_⟩
 ·simp only [length_append,length_cons,length_nil] at h4; omega
 ·rcases h5 b e with g | g
  ·exact .inl g
  ·simp only [length_append,length_cons,length_nil] at g; exact .inr (by omega)
def YM (Y:Sg) (lo:Nat) (v:V) (x:aG):Prop:=∃ a b c w,v = .agg [.str x.name,a,b,c,w] /\ kB aK a x.ins /\ kB aK b x.outs /\ kB aK c x.after /\ bF gA 75 Y w x.steps /\ ∀ b,aQ w = some b -> lo <= b
theorem TJ (h:bM E) {v:V} {x:aG} (hv:Hl v x) (hx:YL x):aB E 78 [v] Z fun v' Y=>YM Y Z.length v' x /\ Kp Z Y:=by
 obtain ⟨a,b,c,d,rfl,ia,ib,ic,id⟩:=hv
 have a4:=hx.steps
 have ha:=aJ ia.bD
 have hb:=aJ ib.bD
 have hc:=aJ ic.bD
 have hd:=aJ id.bD
 have ld:=kY h id
 rw [c_ h.hs78 h.sp78 h.fn78 h.md78,aZ (by kernel_rfl)]
 simp only [aA,Tryz.f78,KP,↓reduceIte,reduceLT,reduceAdd,h.bK,ha,hb,hc,hd]
 have hlen:(Z ++ [O.cells 37 [.str x.name,a,b,c,d] true]).length = Z.length + 1:=by simp
 have b0:(Z ++ [O.cells 37 [.str x.name,a,b,c,d] true] ++ [O.cells 37 [.str [],.aD,.aD,.aD,.aD] true])[Z.length]? = some (O.cells 37 [.str x.name,a,b,c,d] true):=aM aP
 have z0:(Z ++ [O.cells 37 [.str x.name,a,b,c,d] true] ++ [O.cells 37 [.str [],.aD,.aD,.aD,.aD] true])[Z.length + 1]? = some (O.cells 37 [.str [],.aD,.aD,.aD,.aD] true):=by rw [<- hlen]; exact aP
 have kp:Kp Z (Z ++ [O.cells 37 [.str x.name,a,b,c,d] true] ++ [O.cells 37 [.str [],.aD,.aD,.aD,.aD] true]):=fun c o e=>aM (aM e)
 have hl2:(Z ++ [O.cells 37 [.str x.name,a,b,c,d] true] ++ [O.cells 37 [.str [],.aD,.aD,.aD,.aD] true]).length = Z.length + 2:=by simp
 simp only [hlen]
 generalize Z ++ [O.cells 37 [.str x.name,a,b,c,d] true] ++ [O.cells 37 [.str [],.aD,.aD,.aD,.aD] true] = Y at *
 refine Q6 h ia ib ic hx b0 _ ?_ ?_ ?_
 ·exact (by simp +decide only [GS])
 ·exact (by simp +decide only [GS])
 intro F1 a' b' c' g1 g2 g3 i1 i2 i3
 simp only [KP,↓reduceIte,reduceLT]
 have b1:=aM (x:=O.cells 37 [.str x.name,a',b',c',.aD] true) b0
 have z1:=aM (x:=O.cells 37 [.str x.name,a',b',c',.aD] true) z0
 have kp1:Kp Z (Y ++ [O.cells 37 [.str x.name,a',b',c',.aD] true]):=fun c o e=>aM (kp c o e)
 have x1:(Y ++ [O.cells 37 [.str x.name,a',b',c',.aD] true])[Y.length]? = some (O.cells 37 [.str x.name,a',b',c',.aD] true):=aP
 rw [hl2] at x1 g3
 generalize Y ++ [O.cells 37 [.str x.name,a',b',c',.aD] true] = Y at *
 refine aV (fun i F Y=>Y[Z.length]? = some (O.cells 37 [.str x.name,a,b,c,d] true) /\ Y[Z.length + 1]? = some (O.cells 37 [.str [],.aD,.aD,.aD,.aD] true) /\ Kp Z Y /\ F.get 1 = .ref Z.length 0 /\ F.get 2 = .ref (Z.length + 1) 0 /\ F.get 3 = .ref (Z.length + 2) 0 /\ F.get 4 = .int .i64 (i:Int) /\ ∃ w,Y[Z.length + 2]? = some (O.cells 37 [.str x.name,a',b',c',w] true) /\ bF gA 75 Y w (x.steps.take i) /\ ∀ b,aQ w = some b -> Z.length <= b) x.steps.length ?_ ?_ x.steps.length 0 _ _ (by omega) ⟨b1,z1,kp1,(gR (by simp +decide only [GS,g1,g2,g3,and_self]) ⟨.aD,x1,.inl ⟨rfl,rfl⟩,fun b e=>by cases e⟩)⟩
 ·rintro i F Y hi ⟨b0,z0,kp,g1,g2,g3,g4,w,x0,ow,hw⟩ next
  obtain ⟨s,hst⟩:∃ y,x.steps[i]? = some y:=⟨_,List.getElem?_eq_getElem hi⟩
  have hmem:=mem_of_getElem? hst
  have a5:=hx.args s hmem
  have a6:=hx.lits s hmem
  obtain ⟨g,p,q,e1,ip,iq⟩:=uF h id hst
  have hop:=aJ ip.bD
  have hoq:=aJ iq.bD
  have hlt:=eD hi
  have hadd:=bZ i (by omega)
  rw [aF]
  simp only [KP,Ax.loadAt,Ax.storeAt,↓reduceIte,reduceEqDiff,reduceLT,reduceAdd,reduceCtorEq,h.fF,h.bK,h.cQ,g1,g4,b0,ld,hlt,e1,hop,hoq,aP,cL]
  refine QZ h ip iq (by omega) (by omega) _ ?_ ?_
  ·exact (by simp +decide only [GS])
  intro F2 p' q' hF ip' iq'
  have k1:F2.get 1 = .ref Z.length 0:=by rw [hF 1 (by omega)]; exact (by simp +decide only [GS,g1])
  have k2:F2.get 2 = .ref (Z.length + 1) 0:=by rw [hF 2 (by omega)]; exact (by simp +decide only [GS,g2])
  have k3:F2.get 3 = .ref (Z.length + 2) 0:=by rw [hF 3 (by omega)]; exact (by simp +decide only [GS,g3])
  have k4:F2.get 4 = .int .i64 (i:Int):=by rw [hF 4 (by omega)]; exact (by simp +decide only [GS,g4])
  have k5:F2.get 5 = .ref Y.length 0:=by rw [hF 5 (by omega)]; exact (by simp +decide only [GS])
  have hop':=aJ ip'.is.bD
  have hoq':=aJ iq'.is.bD
  have b1:=aM (x:=O.cells 75 [.str s.out,.int .i64 s.op,p',q',.int .i64 s.n] true) b0
  have z1:=aM (x:=O.cells 75 [.str s.out,.int .i64 s.op,p',q',.int .i64 s.n] true) z0
  have x1:=aM (x:=O.cells 75 [.str s.out,.int .i64 s.op,p',q',.int .i64 s.n] true) x0
  have s1:(Y ++ [O.cells 75 [.str s.out,.int .i64 s.op,p',q',.int .i64 s.n] true])[Y.length]? = some (O.cells 75 [.str s.out,.int .i64 s.op,p',q',.int .i64 s.n] true):=aP
  have ow1:=ow.app [O.cells 75 [.str s.out,.int .i64 s.op,p',q',.int .i64 s.n] true]
  have kp1:Kp Z (Y ++ [O.cells 75 [.str s.out,.int .i64 s.op,p',q',.int .i64 s.n] true]):=fun c o e=>aM (kp c o e)
  have hle:Z.length <= (Y ++ [O.cells 75 [.str s.out,.int .i64 s.op,p',q',.int .i64 s.n] true]).length:=by
   have:=(List.getElem?_eq_some_iff.1 b1).1; omega
  generalize Y ++ [O.cells 75 [.str s.out,.int .i64 s.op,p',q',.int .i64 s.n] true] = τ2 at *
  generalize Y.length = y at *
  obtain ⟨w',τ3,ha3,ow3,Mw,hl3,hb3⟩:=OW (s:=s) h ow1 ip' iq' (by rw [length_take]; omega)
  have x3:=Mw _ _ (aM x1) (sX x1 (by decide) ow1)
  have b3:=Mw _ _ (aM b1) (sX b1 (by decide) ow1)
  have z3:=Mw _ _ (aM z1) (sX z1 (by decide) ow1)
  have kp3:Kp Z τ3:=fun c o e=>Mw _ _ (aM (kp1 c o e)) (fun e2=>by
   have:=hw c e2
   have:=(List.getElem?_eq_some_iff.1 e).1
   omega)
  obtain ⟨hc1,hc2⟩:=qA ow3
  simp only [KP,Ax.loadAt,Ax.storeAt,↓reduceIte,reduceEqDiff,reduceLT,reduceLeDiff,reduceAdd,reduceMul,reduceCtorEq,h.fF,h.bK,h.cQ,k3,k4,k5,x1,x3,s1,ha3,hadd,hc1,hc2,hop',hoq',Ax.fill,gU,Nat.zero_mul]
  refine next _ _ ⟨pM b3 (by omega),pM z3 (by omega),fun c o e=>pM (kp3 c o e) (by have:=(List.getElem?_eq_some_iff.1 e).1; omega),(gR (by simp +decide only [GS,k1,k2,k3,and_self]) ⟨w',tY x3,?_,fun b e=>?_⟩)⟩
  ·have e:x.steps.take (i + 1) = x.steps.take i ++ [s]:=by rw [take_add_one,hst]; rfl
   rw [e]
   refine ow3.keep fun c o hc ho=>pM ho ?_
   intro e2
   rw [<- e2] at hc
   exact sX x3 (by decide) ow3 hc
  ·rcases hb3 b e with g | g
   ·exact hw b g
   ·omega
 ·rintro F Y ⟨b0,z0,kp,g1,g2,g3,g4,w,x0,ow,hw⟩
  have hlt:=eE (Nat.lt_irrefl x.steps.length)
  obtain ⟨hc1,hc2⟩:=qA ow
  have o1:=aJ i1.is.bD
  have o2:=aJ i2.is.bD
  have o3:=aJ i3.is.bD
  have zz:=tY (x:=O.cells 37 [.str x.name,a',b',c',w] true) z0
  rw [take_of_length_le (Nat.le_refl _)] at ow
  rw [aF]
  simp only [KP,Ax.loadAt,Ax.storeAt,↓reduceIte,reduceEqDiff,reduceLT,reduceAdd,reduceCtorEq,h.fF,h.bK,g1,g2,g3,g4,b0,x0,z0,zz,ld,hlt,hc2,o1,o2,o3]
  refine ⟨⟨a',b',c',w,rfl,i1,i2,i3,ow.keep fun c o hc ho=>pM ho ?_,hw⟩,fun c o e=>pM (kp c o e) (by have:=(List.getElem?_eq_some_iff.1 e).1; omega)⟩
  intro e2
  rw [<- e2] at hc
  exact sX z0 (by decide) ow hc
end
end
section
section
variable {E:Env} {Z:Sg} {K:V -> Sg -> Prop}
theorem DL (n k:Nat):iU false .i64 (n:Int) [.int .i64 (k:Int)] = some ((min n k:Nat):Int):=by
 rw [min2]
 by_cases g:(k:Int) < (n:Int)
 ·rw [if_pos g,Nat.min_eq_right (by omega)]
 ·rw [if_neg g,Nat.min_eq_left (by omega)]
theorem wJ {α:Type} (l:List α) (k:Nat):l.take (min l.length k) = l.take k:=by
 rw [List.take_eq_take_iff]; omega
theorem Cw (h:bM E) {v:V} {l:List aU} (iv:IS aK v l) (k:Nat):∃ w,(∀ Z,Ax.slice E Z 28 v none (some (.int .i64 ((min l.length k:Nat):Int))) none = some w) /\ IS aK w (l.take k):=by
 obtain ⟨w,h1,h2⟩:=vI h iv (b:=min l.length k) (Nat.min_le_left _ _)
 exact ⟨w,h1,by rwa [wJ] at h2⟩
theorem D6 (h:bM E) {v:V} {l:List aU} (iv:kB aK v l) (k:Nat):∃ w,(∀ Z,Ax.slice E Z 28 v none (some (.int .i64 ((min l.length k:Nat):Int))) none = some w) /\ kB aK w (l.take k):=by
 obtain ⟨w,h1,-,h2⟩:=BD (lo:=none) (hi:=some (.int .i64 ((min l.length k:Nat):Int))) (a:=0) (b:=min l.length k) h.bA rfl h.dA rfl iv.is (.inr rfl) (.inl ⟨rfl,rfl⟩) (Nat.zero_le _) (Nat.min_le_left _ _)
 refine ⟨w,h1,?_⟩
 have:=h2 iv
 rw [drop_zero,wJ] at this
 exact this
theorem Ls (h:bM E) {v:V} {l:List AxS.Step} (iv:IS eW v l) (k:Nat):∃ w,(∀ Z,Ax.slice E Z 35 v none (some (.int .i64 ((min l.length k:Nat):Int))) none = some w) /\ IS eW w (l.take k):=by
 obtain ⟨w,h1,h2,-⟩:=BD (lo:=none) (hi:=some (.int .i64 ((min l.length k:Nat):Int))) (a:=0) (b:=min l.length k) h.fF rfl h.cQ rfl iv (.inr rfl) (.inl ⟨rfl,rfl⟩) (Nat.zero_le _) (Nat.min_le_left _ _)
 refine ⟨w,h1,?_⟩
 rw [drop_zero,wJ] at h2
 exact h2
def qO (x:aG):aG:={ x with ins:=x.ins.take 10,outs:=x.outs.take 6,after:=x.after.take 10,steps:=x.steps.take 14 }
def AQ (s:AxS.Step):AxS.Step:={ s with args:=s.args.take 8,lits:=s.lits.take 3 }
def cut (x:aG):aG:={ qO x with steps:=(x.steps.take 14).map AQ }
theorem Lt (x:aG):Small (cut x):=by
 refine ⟨?_,?_,?_,?_,fun s hs=>?_,fun s hs=>?_⟩
 ·show (x.ins.take 10).length <= 10; rw [length_take]; omega
 ·show (x.outs.take 6).length <= 6; rw [length_take]; omega
 ·show (x.after.take 10).length <= 10; rw [length_take]; omega
 ·show ((x.steps.take 14).map AQ).length <= 14; rw [length_map,length_take]; omega
 ·obtain ⟨q,_,rfl⟩:=mem_map.1 hs
  show (q.args.take 8).length <= 8; rw [length_take]; omega
 ·obtain ⟨q,_,rfl⟩:=mem_map.1 hs
  show (q.lits.take 3).length <= 3; rw [length_take]; omega
structure Raw (x:aG):Prop where
 args:∀ s ∈ x.steps,s.args.length <= 8796093022208
 lits:∀ s ∈ x.steps,s.lits.length <= 8796093022208
theorem Raw.mid {x:aG} (h:Raw x):YL (qO x):=by
 refine ⟨?_,?_,?_,?_,fun s hs=>h.args s (List.mem_of_mem_take hs),fun s hs=>h.lits s (List.mem_of_mem_take hs)⟩
 ·show (x.ins.take 10).length <= 10; rw [length_take]; omega
 ·show (x.outs.take 6).length <= 6; rw [length_take]; omega
 ·show (x.after.take 10).length <= 10; rw [length_take]; omega
 ·show (x.steps.take 14).length <= 14; rw [length_take]; omega
theorem NC (h:bM E) {x:aG} {a b c d:V} (ia:IS aK a x.ins) (ib:IS aK b x.outs) (ic:IS aK c x.after) (id:IS eW d x.steps) (F:FT) (g1:F.get 1 = .ref 0 0) (g2:F.get 2 = .ref 1 0) {st:List kA} {Q:Ax.X -> Fr -> Sg -> Prop}
  (hk:∀ F' a' b' c' d',F'.get 1 = .ref 0 0 -> F'.get 2 = .ref 1 0 -> F'.get 3 = .ref 2 0 -> IS aK a' (x.ins.take 10) -> IS aK b' (x.outs.take 6) -> IS aK c' (x.after.take 10) -> IS eW d' (x.steps.take 14) ->
   M E st .normal ⟨86,F'⟩ [O.cells 37 [.str x.name,a,b,c,d] true,O.cells 37 [.str [],.aD,.aD,.aD,.aD] true,O.cells 37 [.str x.name,a',b',c',d'] true] Q) :
  R E (.region 1 (opsOf (cutAt [1,0] (aA Tryz.f59).code)) true) st ⟨86,F⟩ [O.cells 37 [.str x.name,a,b,c,d] true,O.cells 37 [.str [],.aD,.aD,.aD,.aD] true] Q:=by
 obtain ⟨a',sa,ia'⟩:=Cw h ia 10
 obtain ⟨b',sb,ib'⟩:=Cw h ib 6
 obtain ⟨c',sc,ic'⟩:=Cw h ic 10
 obtain ⟨d',sd,id'⟩:=Ls h id 14
 have la:=bN h ia
 have lb:=bN h ib
 have lc:=bN h ic
 have ld:=kY h id
 have m1:=DL x.ins.length 10
 have m2:=DL x.outs.length 6
 have m3:=DL x.after.length 10
 have m4:=DL x.steps.length 14
 have o1:=aJ ia'.bD
 have o2:=aJ ib'.bD
 have o3:=aJ ic'.bD
 have o4:=aJ id'.bD
 have n1:=iS ia'.bD
 have n2:=iS ib'.bD
 have n3:=iS ic'.bD
 have n4:=iS id'.bD
 have v1:=cA 10 ia
 have v2:=cA 10 ib
 have v3:=cA 10 ic
 have v4:=nT 9 id
 have u1:=cA 10 ia'
 have u2:=cA 10 ib'
 have u3:=cA 10 ic'
 have u4:=nT 9 id'
 have vs:=wG 11 x.name
 have vi:=fun k i=>I0 11 k i
 have m1:iU false .i64 (x.ins.length:Int) [.int .i64 10] = some ((min x.ins.length 10:Nat):Int):=m1
 have m2:iU false .i64 (x.outs.length:Int) [.int .i64 6] = some ((min x.outs.length 6:Nat):Int):=m2
 have m3:iU false .i64 (x.after.length:Int) [.int .i64 10] = some ((min x.after.length 10:Nat):Int):=m3
 have m4:iU false .i64 (x.steps.length:Int) [.int .i64 14] = some ((min x.steps.length 14:Nat):Int):=m4
 have key:∃ F',cE E (ev E 0) (opsOf (cutAt [1,0] (aA Tryz.f59).code)) ⟨86,F⟩ [O.cells 37 [.str x.name,a,b,c,d] true,O.cells 37 [.str [],.aD,.aD,.aD,.aD] true] = some (⟨86,F'⟩,[O.cells 37 [.str x.name,a,b,c,d] true,O.cells 37 [.str [],.aD,.aD,.aD,.aD] true,O.cells 37 [.str x.name,a',b',c',d'] true]) /\ F'.get 1 = .ref 0 0 /\ F'.get 2 = .ref 1 0 /\ F'.get 3 = .ref 2 0:=by
  unfold cE
  rw [h.T5,h.Vy]
  simp only [aA,Tryz.f59,KP,Ax.loadAt,Ax.storeAt,↓reduceIte,reduceEqDiff,reduceLT,reduceAdd,reduceCtorEq,h.dA,h.bA,h.fF,h.bK,opsOf,cutAt,gZ,bJ,bX,jV,Ax.comp,Ax.last,hU,Ax.again,aR,Ax.fill,Ax.placeOf,g1,la,lb,lc,ld,sa,sb,sc,sd,m1,m2,m3,m4,o1,o2,o3,o4,n1,n2,n3,n4,v1,v2,v3,v4,u1,u2,u3,u4,vs,vi]
  exact ⟨_,rfl,(by simp +decide only [GS,g1,g2,and_self])⟩
 obtain ⟨F',hE,k1,k2,k3⟩:=key
 exact Eq.mpr (gY hE) (hk F' a' b' c' d' k1 k2 k3 ia' ib' ic' id')
theorem oN {sz:Nat}:∀ (rs:List (List V)),(∀ r ∈ rs,r.length = sz) -> ∀ (i:Nat) (r:List V),rs[i]? = some r -> ∀ k,k < sz -> rs.flatten[i * sz + k]? = r[k]?
 | [],_,i,r,e,_,_=>by cases e
 | x :: rs,h,0,r,e,k,hk=>by
  cases e
  have hr:=h x (mem_cons_self ..)
  rw [flatten_cons,Nat.zero_mul,Nat.zero_add,getElem?_append_left (by omega)]
 | x :: rs,h,i + 1,r,e,k,hk=>by
  have hr:=h x (mem_cons_self ..)
  rw [flatten_cons,getElem?_append_right (by rw [Nat.succ_mul]; omega),show (i + 1) * sz + k - x.length = i * sz + k by rw [Nat.succ_mul]; omega]
  exact oN rs (fun y hy=>h y (List.mem_cons_of_mem _ hy)) i r e k hk
theorem MX {sz:Nat} {rs:List (List V)} (h:∀ r ∈ rs,r.length = sz) {i:Nat} {r:List V} (e:rs[i]? = some r) {k:Nat} (hk:k < sz) (u:V):setCells rs.flatten (i * sz + k) [u] = (rs.set i (r.set k u)).flatten:=by
 have hil:=(List.getElem?_eq_some_iff.1 e).1
 have hrl:r.length = sz:=h r (mem_of_getElem? e)
 have hfl:rs.flatten.length = rs.length * sz:=mT rs h
 have him:(i + 1) * sz <= rs.length * sz:=Nat.mul_le_mul_right _ hil
 rw [Nat.succ_mul] at him
 rw [<- BE rs i (r.set k u) h (by rw [length_set]; exact hrl) hil]
 apply List.ext_getElem?
 intro q
 unfold setCells
 have l1:(rs.flatten.take (i * sz + k)).length = i * sz + k:=by rw [length_take]; omega
 have l2:(rs.flatten.take (i * sz)).length = i * sz:=by rw [length_take]; omega
 rw [append_assoc,append_assoc,length_singleton,length_set,hrl]
 rcases Nat.lt_trichotomy q (i * sz + k) with hq | rfl | hq
 ·rw [getElem?_append_left (by omega),getElem?_take,if_pos hq]
  by_cases g:q < i * sz
  ·rw [getElem?_append_left (by omega),getElem?_take,if_pos g]
  ·rw [getElem?_append_right (by omega),l2,getElem?_append_left (by rw [length_set]; omega),getElem?_set_ne (by omega)]
   obtain ⟨d,rfl⟩:∃ d,q = i * sz + d:=⟨q - i * sz,by omega⟩
   rw [Nat.add_sub_cancel_left]
   exact oN rs h i r e d (by omega)
 ·have e0:([u] ++ rs.flatten.drop (i * sz + k + 1))[0]? = some u:=rfl
  rw [getElem?_append_right (by omega),l1,Nat.sub_self,e0,getElem?_append_right (by omega),l2,Nat.add_sub_cancel_left,getElem?_append_left (by rw [length_set]; omega),getElem?_set_self (by omega)]
 ·rw [getElem?_append_right (by omega),l1,getElem?_append_right (by rw [length_singleton]; omega),length_singleton,getElem?_drop,show i * sz + k + 1 + (q - (i * sz + k) - 1) = q by omega]
  rw [getElem?_append_right (by omega),l2]
  by_cases g:q - i * sz < sz
  ·rw [getElem?_append_left (by rw [length_set]; omega),getElem?_set_ne (by omega)]
   obtain ⟨d,rfl⟩:∃ d,q = i * sz + d:=⟨q - i * sz,by omega⟩
   rw [Nat.add_sub_cancel_left]
   exact oN rs h i r e d (by omega)
  ·rw [getElem?_append_right (by rw [length_set]; omega),length_set,hrl,getElem?_drop,show i * sz + sz + (q - i * sz - sz) = q by omega]
end
end
end Go.Proofs.YtlbbdpkjeeiahaaGreatDoor
end
section
namespace Go.Proofs.YtlbbdpkjeeiahaaGreatDoor
open Go Go.Ax Go.AxS Go.ChangeShapes Go.WideShapes Go.ChangeAt Go.RowKit
section
theorem xZ (s:ByteArray):(Ax.bytes s).length = s.size:=by
 unfold Ax.bytes
 rw [length_map]
 rfl
section
variable {W:World} {I:Bool -> Nat -> Prop} {blk:Nat}
theorem On {r:List V} {cs:List Value}:∀ {off:Nat},AV W I r cs -> (∀ j,j < cs.length -> W.cell? ⟨blk,off + j,none⟩ = cs[j]?) -> dD W I r blk off:=by
 induction r generalizing cs with
 | nil=>intro off h hc; exact .nil
 | cons v r ih=>
  intro off h hc
  cases h with
  | cons _ x _ xs hv hr=>
   have h0:=hc 0 (by simp)
   refine .cons v x r (by simpa using h0) hv (ih hr fun j hj=>?_)
   have:=hc (j + 1) (by simpa using hj)
   rw [show off + 1 + j = off + (j + 1) by omega,this]
   rfl
theorem Jt {sz off:Nat} {R:Nat -> List V} {C:Nat -> List Value}:∀ (n k:Nat),(∀ i,k <= i -> i < k + n -> (R i).length = sz /\ (C i).length = sz /\ AV W I (R i) (C i) /\ ∀ j,j < sz -> W.cell? ⟨blk,off + i * sz + j,none⟩ = (C i)[j]?) ->
  dS W I sz ((List.range' k n).map R) blk (off + k * sz)
 | 0,k,_=>.nil
 | n + 1,k,h=>by
  rw [List.range'_succ,map_cons]
  obtain ⟨h1,h2,h3,h4⟩:=h k (Nat.le_refl _) (by omega)
  refine .cons _ _ h1 (On h3 fun j hj=>h4 j (by omega)) ?_
  have:=Jt (off:=off) n (k + 1) fun i hi hn=>h i (by omega) (by omega)
  rw [show off + (k + 1) * sz = off + k * sz + sz by rw [Nat.succ_mul]; omega] at this
  exact this
end
def Reads (W:World) (t n:Nat) (Q:List V -> Prop):Prop:=∀ {H:Type} (enc:TypeId × Value -> H) (fuel:Nat) (cs:List Value) (d:DataW H) (p:List MemPlace),DataW.trod enc Tryz.prog W 0 (fun _=>true) true fuel t cs = some (d,p) -> (DataW.weights Tryz.prog t d).all (· <= reachBytes) = true -> cs.length = n /\ ∃ r:List V,r.length = n /\ Q r /\ AV W (uT W).bD r cs
theorem Reads.mono {W:World} {t n:Nat} {Q Q':List V -> Prop} (h:Reads W t n Q) (k:∀ r,Q r -> Q' r):Reads W t n Q':=fun enc fuel cs d p h1 h2=>by
 obtain ⟨a,r,b,c,e⟩:=h enc fuel cs d p h1 h2
 exact ⟨a,r,b,k r c,e⟩
def Ez (s:aU):Prop:=s.length <= 9223372036854775806
theorem yP (W:World):Reads W 9 1 fun r=>∃ s,r = [.str s] /\ Ez s:=fun enc fuel cs d p h hw=>by
 obtain ⟨s,rfl,hx,hl⟩:=DataW.trod_string Tryz.underlying9 h
 refine ⟨rfl,[.str (Ax.bytes s)],rfl,⟨_,rfl,?_⟩,.cons _ _ _ _ (.str _) .nil⟩
 unfold Ez
 rw [xZ]
 rw [show d = .lit (.string s.data.toList) from congrArg Prod.fst hx,DataW.weights] at hw
 simp only [List.all_cons,List.all_nil,Bool.and_true,decide_eq_true_eq] at hw
 have e:reachBytes = 140737488351232:=by decide
 have e1:s.size = s.data.toList.length:=rfl
 omega
theorem Dx (W:World):Reads W 3 1 fun r=>∃ n:Int,r = [.int .i64 n]:=fun enc fuel cs d p h hw=>by
 obtain ⟨n,rfl,hx,-⟩:=DataW.trod_int Tryz.underlying3 h
 exact ⟨rfl,[.int .i64 n],rfl,⟨n,rfl⟩,.cons _ _ _ _ (.int _ _) .nil⟩
theorem tD {H:Type} {e w:Nat} {d:DataW H}:∀ {l:List (DataW H)},d ∈ l -> w ∈ DataW.weights Tryz.prog e d -> w ∈ DataW.weightsAll Tryz.prog e l
 | x :: l,hd,hw=>by
  rw [DataW.weightsAll,mem_append]
  rcases mem_cons.1 hd with rfl | hd
  ·exact .inl hw
  ·exact .inr (tD hd hw)
theorem sV {W:World} {α:Type} [Inhabited α] {L:Lay α} {B:α -> Prop} {t e n bb:Nat} (ht:Tryz.prog.underlying t = some (.slice e)) (ce:Tryz.prog.cellsOf e = n) (hb:Tryz.prog.bytesOf e = bb) (hn:0 < n) (he:Reads W e n fun r=>∃ x,L.P r x /\ B x) :
  Reads W t 1 fun r=>∃ v l,r = [v] /\ IS L v l /\ (∀ x ∈ l,B x) /\ l.length * bb <= reachBytes:=fun {H} enc fuel cs d p h hw=>by
 rcases Go.Deep.open_slice ht h with ⟨rfl,hx⟩ | ⟨a,len,cap,m,k,D,Pl,rfl,hbase,hlc,hcm,hm,hx,hel⟩
 ·exact ⟨rfl,[.aD],rfl,⟨.aD,[],rfl,.inl ⟨rfl,rfl⟩,fun x hx=>(by cases hx),by simp⟩,.cons _ _ _ _ .aD .nil⟩
 ·have hm:m = cap:=by rw [hm]; rfl
  subst hm
  have hd:d = _:=congrArg Prod.fst hx
  dsimp only at hd
  have hwl:len * bb <= reachBytes /\ ∀ i,i < len -> (DataW.weights Tryz.prog e (D i)).all (· <= reachBytes) = true:=by
   rw [hd] at hw
   unfold DataW.weights at hw
   rw [ht] at hw
   simp only [List.all_cons,List.all_append,Bool.and_eq_true,List.all_eq_true,decide_eq_true_eq,length_map,length_range] at hw
   refine ⟨?_,fun i hi=>?_⟩
   ·have h1:=hw.1
    rw [hb] at h1
    refine Nat.le_trans (Nat.mul_le_mul_right _ (by omega)) h1
   ·rw [List.all_eq_true]
    intro w hwi
    rw [decide_eq_true_eq]
    exact hw.2.1 w (tD (mem_map.2 ⟨i,mem_range.2 hi,rfl⟩) hwi)
  by_cases hc:m = 0
  ·subst hc
   obtain rfl:len = 0:=by omega
   exact ⟨rfl,[.bR true [] false],rfl,⟨_,[],rfl,.inr ⟨true,[],false,rfl,.nil⟩,fun x hx=>(by cases hx),by simp⟩,.cons _ _ _ _ (.emp _ _ a) .nil⟩
  ·obtain ⟨cs0,h0,-⟩:=hel 0 (by omega)
   obtain ⟨-,hl0,hc0⟩:=World.cells?_some h0
   rw [ce] at hl0 hc0
   have hcell:=hc0 0 hn
   obtain ⟨blk,off,sp⟩:=a
   have hadd:((⟨blk,off,sp⟩:Addr).add (0 * n)).add 0 = ⟨blk,off,sp⟩:=by rw [Nat.zero_mul]; rfl
   rw [hadd] at hcell
   have hsome:∃ v,W.cell? ⟨blk,off,sp⟩ = some v:=⟨_,hcell.trans (List.getElem?_eq_getElem (by omega))⟩
   obtain ⟨v0,hv0⟩:=hsome
   have hsp:sp = none /\ blk < W.heap.size:=by
    unfold World.cell? at hv0
    split at hv0
    ·rename_i c u f hblk
     refine ⟨?_,(Array.getElem?_eq_some_iff.1 hblk).1⟩
     cases sp with
     | none=>rfl
     | some q=>simp at hv0
    ·cases hv0
   obtain ⟨rfl,hlt⟩:=hsp
   have each:∀ i,i < len -> ∃ q:List V × List Value × α,q.1.length = n /\ q.2.1.length = n /\ L.P q.1 q.2.2 /\ B q.2.2 /\ AV W (uT W).bD q.1 q.2.1 /\ ∀ j,j < n -> W.cell? ⟨blk,off + i * n + j,none⟩ = q.2.1[j]?:=fun i hi=>by
    obtain ⟨cs',h1,h2⟩:=hel i (by omega)
    obtain ⟨h3,r,h4,⟨x,h5,h5'⟩,h6⟩:=he enc k cs' (D i) (Pl i) h2 (hwl.2 i hi)
    obtain ⟨-,hl1,hc1⟩:=World.cells?_some h1
    rw [ce] at hc1
    refine ⟨(r,cs',x),h4,h3,h5,h5',h6,fun j hj=>?_⟩
    have:=hc1 j hj
    have ea:((⟨blk,off,none⟩:Addr).add (i * n)).add j = ⟨blk,off + i * n + j,none⟩:=by
     rw [Go.Deep.add_add]
     unfold Addr.add
     split
     ·rename_i h0
      rw [show off + i * n + j = off by omega]
     ·rw [Nat.add_assoc]
    rw [ea] at this
    exact this
   obtain ⟨q,hq⟩:=Go.Deep.choose_lt each
   refine ⟨rfl,[.bR true ((List.range' 0 len).map fun i=>(q i).1) false],rfl,⟨_,(List.range' 0 len).map fun i=>(q i).2.2,rfl,.inr ⟨true,_,false,rfl,?_⟩,fun x hx=>?_,by simpa using hwl.1⟩,.cons _ _ _ _ (.bR true _ false blk off len m n (Pp W blk hlt) (by simp) hlc (fun h=>by cases h) ?_) .nil⟩
   ·have hall:∀ (c k:Nat),(∀ i,k <= i -> i < k + c -> L.P (q i).1 (q i).2.2) -> eR L.P ((List.range' k c).map fun i=>(q i).1) ((List.range' k c).map fun i=>(q i).2.2):=by
     intro c
     induction c with
     | zero=>intro k _; exact .nil
     | succ c ih=>
      intro k hk
      rw [List.range'_succ,map_cons,map_cons]
      exact .cons (hk k (Nat.le_refl _) (by omega)) (ih (k + 1) fun i h1 h2=>hk i (by omega) (by omega))
    exact hall len 0 fun i _ hi=>(hq i (by omega)).2.2.1
   ·obtain ⟨i,hi,rfl⟩:=mem_map.1 hx
    rw [List.mem_range'_1] at hi
    exact (hq i (by omega)).2.2.2.1
   ·have:=Jt (W:=W) (I:=Ax.sub true (uT W).bD) (blk:=blk) (off:=off) (sz:=n) (R:=fun i=>(q i).1) (C:=fun i=>(q i).2.1) len 0 fun i _ hi=>⟨(hq i (by omega)).1,(hq i (by omega)).2.1,(hq i (by omega)).2.2.2.2.1,(hq i (by omega)).2.2.2.2.2⟩
    rw [Nat.zero_mul,Nat.add_zero] at this
    exact this
theorem rL {W:World} {I:Bool -> Nat -> Prop} {a:List V} {x:List Value} (h:AV W I a x) {b:List V} {y:List Value} (k:AV W I b y):AV W I (a ++ b) (x ++ y):=by
 induction a generalizing x with
 | nil=>cases h; exact k
 | cons v a ih=>cases h with | cons _ z _ zs hv hr=>exact .cons _ _ _ _ hv (ih hr)
theorem Is {β:Type} {l:List β} (h:l.length = 5):∃ a b c d e,l = [a,b,c,d,e]:=by
 match l,h with
 | [a,b,c,d,e],_=>exact ⟨a,b,c,d,e,rfl⟩
theorem one {β:Type} {l:List β} (h:l.length = 1):∃ a,l = [a]:=by
 match l,h with
 | [a],_=>exact ⟨a,rfl⟩
theorem BJ {W:World} {t:Nat} {f0 f1 f2 f3 f4:Field} {Q0 Q1 Q2 Q3 Q4:List V -> Prop} (ht:Tryz.prog.underlying t = some (.struct #[f0,f1,f2,f3,f4])) (ct:Tryz.prog.cellsOf t = 5) (o0:f0.offset = 0) (o1:f1.offset = 1) (o2:f2.offset = 2) (o3:f3.offset = 3) (o4:f4.offset = 4)
  (c0:Tryz.prog.cellsOf f0.type = 1) (c1:Tryz.prog.cellsOf f1.type = 1) (c2:Tryz.prog.cellsOf f2.type = 1) (c3:Tryz.prog.cellsOf f3.type = 1) (c4:Tryz.prog.cellsOf f4.type = 1)
  (h0:Reads W f0.type 1 Q0) (h1:Reads W f1.type 1 Q1) (h2:Reads W f2.type 1 Q2) (h3:Reads W f3.type 1 Q3) (h4:Reads W f4.type 1 Q4) :
  Reads W t 5 fun r=>∃ a b c d e,r = [a,b,c,d,e] /\ Q0 [a] /\ Q1 [b] /\ Q2 [c] /\ Q3 [d] /\ Q4 [e]:=fun {H} enc fuel cs d p h hw=>by
 obtain ⟨xs,k,-,hx,hl,hxl,hf⟩:=DataW.trod_struct ht h
 rw [ct] at hl
 obtain ⟨v0,v1,v2,v3,v4,rfl⟩:=Is hl
 have hxl:xs.length = 5:=hxl
 obtain ⟨y0,y1,y2,y3,y4,rfl⟩:=Is hxl
 have hd:d = _:=congrArg Prod.fst hx
 dsimp only at hd
 rw [hd] at hw
 unfold DataW.weights at hw
 rw [ht] at hw
 simp only [map_cons,map_nil,DataW.weightsEach,List.all_append,Bool.and_eq_true] at hw
 obtain ⟨w0,w1,w2,w3,w4,-⟩:=hw
 have g0:=hf 0 f0 rfl
 have g1:=hf 1 f1 rfl
 have g2:=hf 2 f2 rfl
 have g3:=hf 3 f3 rfl
 have g4:=hf 4 f4 rfl
 rw [o0,c0] at g0
 rw [o1,c1] at g1
 rw [o2,c2] at g2
 rw [o3,c3] at g3
 rw [o4,c4] at g4
 obtain ⟨-,r0,l0,q0,i0⟩:=h0 enc k [v0] y0.1 y0.2 g0 w0
 obtain ⟨-,r1,l1,q1,i1⟩:=h1 enc k [v1] y1.1 y1.2 g1 w1
 obtain ⟨-,r2,l2,q2,i2⟩:=h2 enc k [v2] y2.1 y2.2 g2 w2
 obtain ⟨-,r3,l3,q3,i3⟩:=h3 enc k [v3] y3.1 y3.2 g3 w3
 obtain ⟨-,r4,l4,q4,i4⟩:=h4 enc k [v4] y4.1 y4.2 g4 w4
 obtain ⟨a,rfl⟩:=one l0
 obtain ⟨b,rfl⟩:=one l1
 obtain ⟨c,rfl⟩:=one l2
 obtain ⟨d',rfl⟩:=one l3
 obtain ⟨e,rfl⟩:=one l4
 exact ⟨hl,[a,b,c,d',e],rfl,⟨a,b,c,d',e,rfl,q0,q1,q2,q3,q4⟩,rL i0 (rL i1 (rL i2 (rL i3 i4)))⟩
theorem oA (W:World):Reads W 28 1 fun r=>∃ v l,r = [v] /\ IS aK v l /\ (∀ x ∈ l,Ez x) /\ l.length * 16 <= reachBytes:=
 sV (L:=aK) Tryz.underlying28 (by kernel_rfl) (by kernel_rfl) (by decide) (Reads.mono (yP W) fun r ⟨s,h1,h2⟩=>⟨s,h1,h2⟩)
instance:Inhabited AxS.Step:=⟨⟨[],0,[],[],0⟩⟩
instance:Inhabited aG:=⟨⟨[],[],[],[],[]⟩⟩
def YK (s:AxS.Step):Prop:=s.args.length <= 8796093022208 /\ s.lits.length <= 8796093022208
theorem Wv {n:Nat} (h:n * 16 <= reachBytes):n <= 8796093022208:=by
 have e:reachBytes = 140737488351232:=by decide
 omega
theorem HV (W:World):Reads W 75 5 fun r=>∃ x,eW.P r x /\ YK x:=
 Reads.mono (BJ Tryz.underlying75 (by kernel_rfl) rfl rfl rfl rfl rfl (by kernel_rfl) (by kernel_rfl) (by kernel_rfl) (by kernel_rfl) (by kernel_rfl) (yP W) (Dx W) (oA W) (oA W) (Dx W)) fun r ⟨a,b,c,d,e,hr,⟨s,h0,_⟩,⟨n,h1⟩,⟨v2,l2,h2,i2,_,b2⟩,⟨v3,l3,h3,i3,_,b3⟩,⟨m,h4⟩⟩=>by
  cases h0; cases h1; cases h2; cases h3; cases h4
  exact ⟨⟨s,n,l2,l3,m⟩,⟨_,_,hr,i2,i3⟩,Wv b2,Wv b3⟩
theorem HW (W:World):Reads W 37 5 fun r=>∃ x,dW.P r x /\ Raw x:=
 Reads.mono (BJ Tryz.underlying37 (by kernel_rfl) rfl rfl rfl rfl rfl (by kernel_rfl) (by kernel_rfl) (by kernel_rfl) (by kernel_rfl) (by kernel_rfl) (yP W) (oA W) (oA W) (oA W) (sV (L:=eW) Tryz.underlying35 (by kernel_rfl) rfl (by decide) (HV W))) fun r ⟨a,b,c,d,e,hr,⟨s,h0,_⟩,⟨v1,l1,h1,i1,_⟩,⟨v2,l2,h2,i2,_⟩,⟨v3,l3,h3,i3,_⟩,⟨v4,l4,h4,i4,hB,_⟩⟩=>by
  cases h0; cases h1; cases h2; cases h3; cases h4
  exact ⟨⟨s,l1,l2,l3,l4⟩,⟨_,_,_,_,hr,i1,i2,i3,i4⟩,⟨fun s hs=>(hB s hs).1,fun s hs=>(hB s hs).2⟩⟩
theorem FW (W:World):Reads W 22 1 fun r=>∃ v l,r = [v] /\ IS dW v l /\ (∀ x ∈ l,Raw x) /\ l.length * Tryz.prog.bytesOf 37 <= reachBytes:=
 sV (L:=dW) Tryz.underlying22 (by kernel_rfl) rfl (by decide) (HW W)
section
variable {H:Type} {enc:TypeId × Value -> H} {W:World} {base:Nat} {v:Value} {d:DataW H} {p:List MemPlace}
theorem Rq {t:Nat} {Q:List V -> Prop} (hr:Reads W t 1 Q) (hc:v.cells = #[v]) (h:DataW.Trod enc Tryz.prog W 0 (fun _=>true) true t v d p) (hw:(DataW.weights Tryz.prog t d).all (· <= reachBytes) = true):∃ a,Q [a] /\ VR (uT W) a v:=by
 obtain ⟨fuel,h⟩:=h
 rw [hc] at h
 obtain ⟨-,r,h1,h2,h3⟩:=hr enc fuel _ d p h hw
 obtain ⟨a,rfl⟩:=one h1
 cases h3 with
 | cons _ _ _ _ hv _=>exact ⟨a,h2,.inl hv⟩
theorem FL {t e:Nat} (ht:Tryz.prog.underlying t = some (.slice e)) (hv:Value.okWide Tryz.prog W .any base t v):v.cells = #[v]:=by
 unfold Value.okWide at hv
 rw [ht] at hv
 have hv:Cell.okWide Tryz.prog W .any base t v:=hv
 unfold Cell.okWide Cell.ok at hv
 rw [ht] at hv
 cases v with
 | slice q len cap=>rfl
 | _=>exact hv.elim
theorem LR (hv:Value.okWide Tryz.prog W .any base 22 v) (h:DataW.Trod enc Tryz.prog W 0 (fun _=>true) true 22 v d p) (hw:(DataW.weights Tryz.prog 22 d).all (· <= reachBytes) = true):∃ a l,IS dW a l /\ (∀ x ∈ l,Raw x) /\ VR (uT W) a v:=by
 obtain ⟨a,⟨v',l,e,h1,h2,-⟩,h3⟩:=Rq (FW W) (FL Tryz.underlying22 hv) h hw
 cases e
 exact ⟨a,l,h1,h2,h3⟩
end
end
end Go.Proofs.YtlbbdpkjeeiahaaGreatDoor
end
section
namespace Go.Proofs.YtlbbdpkjeeiahaaGreatDoor.Lb
open Go Go.Ax Go.AxS
section
structure dP (E:Env):Prop where
 pW:E.ty 3 = some { kd:=.int .i64,size:=1,bytes:=8,zero:=.int .i64 0 }
 Df:E.ty 4 = some { kd:=.bool,size:=1,bytes:=1,zero:=.bool false }
 dA:E.ty 9 = some { kd:=.str,size:=1,bytes:=16,zero:=.str [] }
 oW:E.ty 40 = some { kd:=.sl 46,size:=1,bytes:=24,zero:=.aD }
 sP:E.ty 77 = some { kd:=.ptr 86,size:=1,bytes:=8,zero:=.fP }
 uN:E.ty 82 = some { kd:=.map 46 4,size:=1,bytes:=8,zero:=.bU }
 uM:E.ty 84 = some { kd:=.i_ [(0,82)],size:=1,bytes:=8,zero:=.agg [.bU] }
 AG:E.ty 86 = some { kd:=.i_ [(0,84)],size:=1,bytes:=8,zero:=.agg [.bU] }
 eM:E.ty 46 = some { kd:=.i_ [(0,4),(1,9)],size:=2,bytes:=24,zero:=.agg [.bool false,.str []] }
 I4:E.ty 118 = some { kd:=.ptr 84,size:=1,bytes:=8,zero:=.fP }
 QK:E.eqs 46 = some [.bool,.str]
 WB:E.hspec 87 = some (kR 46 [129] [] 89)
 hs20:E.hspec 20 = none
 Px:E.spec 20 = none
 fn20:E.fn 20 = some (aA Tryz.f20)
 md20:E.mode 20 = .eU
 hs42:E.hspec 42 = none
 sp42:E.spec 42 = none
 fn42:E.fn 42 = some (aA Tryz.f42)
 md42:E.mode 42 = .eU
 hs41:E.hspec 41 = none
 sp41:E.spec 41 = none
 fn41:E.fn 41 = some (aA Tryz.f41)
 md41:E.mode 41 = .eU
 hs44:E.hspec 44 = none
 sp44:E.spec 44 = none
 fn44:E.fn 44 = some (aA Tryz.f44)
 md44:E.mode 44 = .shared
 WD:E.hspec 71 = none
 Ub:E.spec 71 = none
 Xv:E.fn 71 = some (aA Tryz.f71)
 VJ:E.mode 71 = .shared
 hs85:E.hspec 85 = none
 sp85:E.spec 85 = none
 fn85:E.fn 85 = some (aA Tryz.f85)
 md85:E.mode 85 = .shared
 WE:E.hspec 50 = none
 Uc:E.spec 50 = none
 Xw:E.fn 50 = some (aA Tryz.f50)
 VK:E.mode 50 = .shared
 hs48:E.hspec 48 = none
 sp48:E.spec 48 = none
 fn48:E.fn 48 = some (aA Tryz.f48)
 md48:E.mode 48 = .eU
 hs49:E.hspec 49 = none
 sp49:E.spec 49 = none
 fn49:E.fn 49 = some (aA Tryz.f49)
 md49:E.mode 49 = .eU
 hs142:E.hspec 142 = none
 sp142:E.spec 142 = none
 fn142:E.fn 142 = some (aA Tryz.f142)
 md142:E.mode 142 = .eU
 hs52:E.hspec 52 = none
 sp52:E.spec 52 = none
 fn52:E.fn 52 = some (aA Tryz.f52)
 md52:E.mode 52 = .eU
 hs51:E.hspec 51 = none
 sp51:E.spec 51 = none
 fn51:E.fn 51 = some (aA Tryz.f51)
 md51:E.mode 51 = .eU
 hs89:E.hspec 89 = none
 sp89:E.spec 89 = none
 fn89:E.fn 89 = some (aA Tryz.f89)
 md89:E.mode 89 = .eU
 hs130:E.hspec 130 = none
 sp130:E.spec 130 = none
 fn130:E.fn 130 = some (aA Tryz.f130)
 md130:E.mode 130 = .eU
 hs175:E.hspec 175 = none
 sp175:E.spec 175 = none
 fn175:E.fn 175 = some (aA Tryz.f175)
 md175:E.mode 175 = .eU
 WA:E.hspec 88 = none
 T_:E.spec 88 = none
 Xt:E.fn 88 = some (aA Tryz.f88)
 VH:E.mode 88 = .shared
 hs22:E.hspec 22 = none
 Pw:E.spec 22 = none
 fn22:E.fn 22 = some (aA Tryz.f22)
 md22:E.mode 22 = .eU
 hs24:E.hspec 24 = none
 Pv:E.spec 24 = none
 fn24:E.fn 24 = some (aA Tryz.f24)
 md24:E.mode 24 = .eU
 hs25:E.hspec 25 = none
 Pu:E.spec 25 = none
 fn25:E.fn 25 = some (aA Tryz.f25)
 md25:E.mode 25 = .eU
 hs28:E.hspec 28 = none
 Mz:E.spec 28 = none
 fn28:E.fn 28 = some (aA Tryz.f28)
 md28:E.mode 28 = .eU
 hs77:E.hspec 77 = none
 sp77:E.spec 77 = none
 fn77:E.fn 77 = some (aA Tryz.f77)
 md77:E.mode 77 = .eU
 hs102:E.hspec 102 = none
 sp102:E.spec 102 = none
 fn102:E.fn 102 = some (aA Tryz.f102)
 md102:E.mode 102 = .eU
 hs141:E.hspec 141 = none
 sp141:E.spec 141 = none
 fn141:E.fn 141 = some (aA Tryz.f141)
 md141:E.mode 141 = .eU
 hs140:E.hspec 140 = none
 sp140:E.spec 140 = none
 fn140:E.fn 140 = some (aA Tryz.f140)
 md140:E.mode 140 = .shared
 hs83:E.hspec 83 = none
 sp83:E.spec 83 = none
 fn83:E.fn 83 = some (aA Tryz.f83)
 md83:E.mode 83 = .eU
 Ym:aO E (cutAt [1,1,1,1,0,1,2,2,1,1,0,2,1] (aA Tryz.f71).code) = true
 Yp:aO E (cutAt [1,0] (aA Tryz.f48).code) = true
 d142_1:aO E (cutAt [1,0] (aA Tryz.f142).code) = true
 d24_2:aO E (cutAt [1,1,0,2,2,0,0] (aA Tryz.f24).code) = true
 d24_4:aO E (cutAt [1,1,1,0,0] (aA Tryz.f24).code) = true
 z24_6:gJ E (opsOf (cutAt [1,1,1,1,0] (aA Tryz.f24).code)) = .lit
 p24_6:cM E .lit (opsOf (cutAt [1,1,1,1,0] (aA Tryz.f24).code)) = some [⟨3,4,true,false⟩,⟨3,9,true,false⟩,⟨6,9,true,false⟩]
 d25_6:aO E (cutAt [1,1,0,1,2,2,1,0,2,0] (aA Tryz.f25).code) = true
 Yr:aO E (cutAt [1,0,1,2,2,1,0,2,0] (aA Tryz.f28).code) = true
def dK (Z σ':Sg):Prop:=∀ (b t:Nat) (cs:List V) (ex:Bool),Z[b]? = some (.cells t cs ex) -> σ'[b]? = some (.cells t cs ex)
theorem dK.refl (Z:Sg):dK Z Z:=fun _ _ _ _ h=>h
theorem dK.trans {Z Y ρ:Sg} (h:dK Z Y) (k:dK Y ρ):dK Z ρ:=fun b t cs ex e=>k b t cs ex (h b t cs ex e)
theorem jO {Z:Sg} {b:Nat} {o:O} (h:Z[b]? = some o) (Y:Sg):(Z ++ Y)[b]? = some o:=by
 rw [getElem?_append_left (List.getElem?_eq_some_iff.1 h).1]; exact h
theorem dK.app (Z Y:Sg):dK Z (Z ++ Y):=fun _ _ _ _ h=>jO h Y
theorem dK.EA {Z:Sg} {m:Nat} {es es':List (V × V)} (h:Z[m]? = some (.map es)):dK Z (Z.set m (.map es')):=fun b t cs ex e=>by
 by_cases hb:m = b
 ·subst hb; rw [h] at e; cases e
 ·rw [getElem?_set_ne hb]; exact e
def SV (Z:Sg) (v:V) (l:List aL):Prop:=
 (v = .aD /\ l = []) \/ (∃ g full,v = .bR g (l.map row) full) \/ ∃ b cs ex,v = .sl b 0 l.length none /\ Z[b]? = some (.cells 46 cs ex) /\ cs.take (l.length * 2) = l.flatMap row
def LV (v:V) (l:List aL):Prop:=(v = .aD /\ l = []) \/ ∃ g full,v = .bR g (l.map row) full
theorem LV.sv {v:V} {l:List aL} (h:LV v l) (Z:Sg):SV Z v l:=h.imp id .inl
theorem SV.keep {Z σ':Sg} {v:V} {l:List aL} (h:SV Z v l) (k:dK Z σ'):SV σ' v l:=by
 rcases h with h | h | ⟨b,cs,ex,h1,h2,h3⟩
 ·exact .inl h
 ·exact .inr (.inl h)
 ·exact .inr (.inr ⟨b,cs,ex,h1,k _ _ _ _ h2,h3⟩)
theorem pH:∀ l:List aL,(l.flatMap row).length = l.length * 2
 | []=>rfl
 | x :: l=>by rw [List.flatMap_cons,length_append,pH l,length_cons]; show 2 + _ = _; omega
theorem GN (l:List aL):(l.map row).flatten = l.flatMap row:=by rw [List.flatMap_def]
theorem J5:∀ (l:List aL) (i:Nat) (x:aL),l[i]? = some x -> ((l.flatMap row).drop (i * 2)).take 2 = row x
 | [],i,x,h=>by simp at h
 | y :: l,0,x,h=>by cases h; rfl
 | y :: l,i + 1,x,h=>by
  rw [show (i + 1) * 2 = i * 2 + 2 by omega]
  show ((row y ++ l.flatMap row).drop (i * 2 + 2)).take 2 = _
  rw [Nat.add_comm,<- List.drop_drop]
  exact J5 l i x h
theorem xI {f:V -> Option V}:∀ l:List V,(∀ x ∈ l,f x = some x) -> aX f l = some l
 | [],_=>rfl
 | x :: l,h=>by
  rw [aX,h x (mem_cons_self ..),xI l fun y hy=>h y (List.mem_cons_of_mem _ hy)]
section
variable {E:Env} {Z:Sg} {K:V -> Sg -> Prop}
theorem SI (h:dP E) {v:V} {l:List aL} (hv:SV Z v l):lenOf E Z 40 v = some l.length:=by
 unfold lenOf
 rw [h.oW]
 rcases hv with ⟨rfl,rfl⟩ | ⟨g,full,rfl⟩ | ⟨b,cs,ex,rfl,hb,hc⟩
 ·rfl
 ·simp
 ·rfl
theorem QM (h:dP E) {v:V} {l:List aL} (hv:SV Z v l) {i:Nat} {x:aL} (hx:l[i]? = some x) :
  ∃ a,indexAddr E 40 v (.int .i64 (i:Int)) = some a /\ ∀ σ',dK Z σ' -> loadAt E σ' 46 a = some (.agg [.bool x.1,.str x.2]):=by
 have hi:=(List.getElem?_eq_some_iff.1 hx).1
 rcases hv with ⟨rfl,rfl⟩ | ⟨g,full,rfl⟩ | ⟨b,cs,ex,rfl,hb,hc⟩
 ·simp at hx
 ·have hr:(l.map row)[((i:Nat):Int).toNat]? = some (row x):=by
   rw [Int.toNat_natCast,List.getElem?_map,hx]; rfl
  refine ⟨.dN g (row x),?_,fun σ' _=>?_⟩
  ·unfold indexAddr
   simp only [h.oW,h.eM,hr]
   rw [if_neg (by omega)]
   rfl
  ·unfold loadAt
   simp only [h.eM]
   rfl
 ·refine ⟨.ref b (0 + i * 2),?_,fun σ' k=>?_⟩
  ·unfold indexAddr
   simp only [h.oW,h.eM,Int.toNat_natCast]
   rw [if_neg (by omega),if_pos hi]
  ·have hlen:l.length * 2 <= cs.length:=by
    have:=congrArg List.length hc
    rw [length_take,pH] at this
    omega
   unfold loadAt
   simp only [h.eM,k _ _ _ _ hb]
   have e:(cs.drop (0 + i * 2)).take 2 = row x:=by
    have:=J5 l i x hx
    rw [<- hc,List.drop_take,List.take_take] at this
    rw [show min 2 (l.length * 2 - i * 2) = 2 by omega] at this
    rw [Nat.zero_add]
    exact this
   rw [show Ax.isAgg (Kd.i_ [(0,4),(1,9)]) = true from rfl]
   simp only [if_true]
   rw [if_pos (by omega),e]
   rfl
end
end
end Go.Proofs.YtlbbdpkjeeiahaaGreatDoor.Lb
end
section
namespace Go.Proofs.YtlbbdpkjeeiahaaGreatDoor
open Go Go.Ax Go.ChangeShapes Go.WideShapes Go.ChangeAt Go.RowKit
section
section
variable {H:Type} {enc:TypeId × Value -> H} {W:World} {base:Nat} {v:Value} {d:DataW H} {p:List MemPlace}
theorem Eb (hv:Value.okWide Tryz.prog W .any base 46 v) (h:DataW.Trod enc Tryz.prog W 0 (fun _=>true) true 46 v d p) (hw:(DataW.weights Tryz.prog 46 d).all (· <= reachBytes) = true) :
  ∃ (x:Bool) (s:ByteArray),v = .agg #[.bool x,.string s] /\ (Ax.bytes s).length <= 9223372036854775806:=by
 obtain ⟨cs,rfl⟩:∃ cs,v = .agg cs:=by
  unfold Value.okWide at hv
  rw [Tryz.underlying46] at hv
  obtain ⟨cs,h1,_⟩:=hv
  exact ⟨cs,h1⟩
 obtain ⟨fuel,h⟩:=h
 obtain ⟨y0,y1,n,he,hl,u0,u1⟩:=trod_struct2 Tryz.underlying46 h
 have hl':cs.toList.length = 2:=hl.trans (by kernel_rfl)
 obtain ⟨l⟩:=cs
 match l,hl' with
 | [c0,c1],_=>
  obtain ⟨x,e0,_⟩:=DataW.trod_bool Tryz.underlying4 u0
  obtain ⟨s,e1,e1',_⟩:=DataW.trod_string Tryz.underlying9 u1
  have k0:Tryz.prog.cellsOf 4 = 1:=by kernel_rfl
  have k1:Tryz.prog.cellsOf 9 = 1:=by kernel_rfl
  have f0:[c0] = [Value.bool x]:=by rw [<- e0]; rw [k0]; rfl
  have f1:[c1] = [Value.string s]:=by rw [<- e1]; rw [k1]; rfl
  cases f0; cases f1
  refine ⟨x,s,rfl,?_⟩
  have hd:d = .agg [y0.1,y1.1]:=congrArg Prod.fst he
  rw [hd,e1'] at hw
  unfold DataW.weights at hw
  rw [Tryz.underlying46] at hw
  simp only [map_cons,map_nil,DataW.weightsEach,DataW.weights,List.all_append,Bool.and_eq_true,List.all_cons,decide_eq_true_eq] at hw
  rw [xZ]
  have:s.size = s.data.toList.length:=rfl
  have e:reachBytes = 140737488351232:=by decide
  omega
end
theorem Fq (W:World) (x:Bool) (s:ByteArray):VR (uT W) (.agg [.bool x,.str (Ax.bytes s)]) (.agg #[.bool x,.string s]):=
 .agg _ [_,_] (.cons _ _ _ _ (.inl (.bool _)) (.cons _ _ _ _ (.inl (.str _)) .nil))
end
end Go.Proofs.YtlbbdpkjeeiahaaGreatDoor
end
section
namespace Go.Proofs.YtlbbdpkjeeiahaaGreatDoor
open Go Go.Ax
noncomputable def spL:BT (List V -> Option V):=(.node 171 (.node 148 (.leaf 11 (bI t11)) (.leaf 148 nX)) (.node 254 (.leaf 171 kX) (.node 295 (.leaf 254 kD) (.leaf 295 wK))))
noncomputable def LE:Env:=ground.env spL
end Go.Proofs.YtlbbdpkjeeiahaaGreatDoor
end
section
namespace Go.Proofs.YtlbbdpkjeeiahaaGreatDoor
open Go Go.Ax Go.ChangeShapes Go.WideShapes Go.ChangeAt Go.RowKit
theorem RZ:spL.yF (fS Tryz.prog (ground.env .nil)):=⟨⟨U5,MQ⟩,⟨MP,⟨MO,MN⟩⟩⟩
theorem OO {G:Ax.Ground Tryz.prog} (hG:lS G) (hgl:G.gl = DV) {s:BT (List V -> Option V)} (hs:s.yF (fS Tryz.prog (G.env .nil))) {n f:Nat} {vs:List V} {W:World} (hW:W.ShapedOpen Tryz.prog) (h:Ax.call (G.env s) n f vs = some (.bool true)) {xs:List Value} (hv:e_ (uT W) vs xs) :
  Calls Tryz.prog f xs.toArray W fun e W'=>e = .returned (.bool true) /\ Below W.heap.size W W':=by
 refine (CD (hG.Oc s) (hG.N_ hs) mixed h (d:=uT W) rfl (RV hW hgl) hv).mono ?_
 rintro e w' ⟨x,d',rfl,rfl,h1,h2,h3,h4⟩
 have hx:=h4.iC
 subst hx
 exact ⟨rfl,h2.os,h2.tape,h2.output,h2.size,fun k hk=>(h2.keep k hk fun ⟨b,⟨o,ho,_⟩,_⟩=>by cases ho).1⟩
end Go.Proofs.YtlbbdpkjeeiahaaGreatDoor
end
section
namespace Go.Proofs.YtlbbdpkjeeiahaaGreatDoor
open Go Go.Ax Go.AxS
section
section
variable {E:Env} {Z:Sg} {K:V -> Sg -> Prop}
theorem RP (m b o n:Nat):qV (m + 1) (.sl b o n none) (.sl b o n none) = true:=by
 show (decide (b = b) && decide (o = o) && decide (n = n)) = true
 simp
theorem I6 (h:bM E) {Y:Sg} {b:Nat} {ex:Bool} {rs:List (List V)} (hl:∀ r ∈ rs,r.length = 5) (hb:Y[b]? = some (.cells 75 rs.flatten ex)) {i:Nat} {r:List V} (hr:rs[i]? = some r) {k:Nat} (hk:k < 5) {u:V} (hu:Ax.bD u = true) :
  storeAt E Y 28 (.ref b (i * 5 + k)) u = some (Y.set b (.cells 75 (rs.set i (r.set k u)).flatten ex)):=by
 have hil:=(List.getElem?_eq_some_iff.1 hr).1
 have hfl:rs.flatten.length = rs.length * 5:=mT rs hl
 unfold storeAt
 simp only [h.bA,hb]
 rw [iS hu,if_pos (by simp only [length_cons,length_nil,List.all_cons,List.all_nil,aJ hu,Bool.and_true,Bool.and_eq_true,decide_eq_true_eq]; exact ⟨rfl,by omega⟩),MX hl hr hk]
theorem JM (h:bM E) {Y:Sg} {b:Nat} {ex:Bool} {rs:List (List V)} (hl:∀ r ∈ rs,r.length = 5) (hb:Y[b]? = some (.cells 75 rs.flatten ex)) {i:Nat} {r:List V} (hr:rs[i]? = some r) {k:Nat} (hk:k < 5) {u:V} (hu:r[k]? = some u):loadAt E Y 28 (.ref b (i * 5 + k)) = some u:=by
 unfold loadAt
 simp only [h.bA,hb,Ax.isAgg,Bool.false_eq_true,if_false]
 rw [oN rs hl i r hr k hk,hu]
theorem NB (h:bM E) {l:List AxS.Step} {s:AxS.Step} {nm:aU} {a' b' c' w:V} {Y:Sg} {i:Nat} (hi:l[i]? = some s) (x0:Y[2]? = some (O.cells 37 [.str nm,a',b',c',w] true)) (ow:bF gA 75 Y w l) (F:FT) (g1:F.get 2 = .ref 1 0) (g3:F.get 3 = .ref 2 0) (g4:F.get 4 = .int .i64 (i:Int)) {st:List kA} {Q:Ax.X -> Fr -> Sg -> Prop}
  (hk:∀ F' τ',(∀ k,k < 44 -> F'.get k = F.get k) -> bF gA 75 τ' w (l.set i (AQ s)) -> Sp Y τ' w -> M E st .normal ⟨86,F'⟩ τ' Q):R E (.region 6 (opsOf (cutAt [1,1,1,0,1,2,2,1,1,0,2,1] (aA Tryz.f59).code)) true) st ⟨86,F⟩ Y Q:=by
 have hil:=(List.getElem?_eq_some_iff.1 hi).1
 rcases ow with ⟨rfl,rfl⟩ | ⟨b,rs,ex,rfl,hb,ha⟩
 ·cases hi
 obtain ⟨r,hr,hP⟩:=ha.get i s hi
 obtain ⟨p,q,rfl,ip,iq⟩:=hP
 have hls:=Lay.lens ha
 have hls:∀ r ∈ rs,r.length = 5:=hls
 obtain ⟨p1,e1,ip1⟩:=D6 h ip 8
 obtain ⟨q1,e2,iq1⟩:=D6 h iq 3
 have lp:=bN h ip.is
 have lq:=bN h iq.is
 have m1:=DL s.args.length 8
 have m2:=DL s.lits.length 3
 have m1:iU false .i64 (s.args.length:Int) [.int .i64 8] = some ((min s.args.length 8:Nat):Int):=m1
 have m2:iU false .i64 (s.lits.length:Int) [.int .i64 3] = some ((min s.lits.length 3:Nat):Int):=m2
 have ix:indexAddr E 35 (.sl b 0 l.length none) (.int .i64 (i:Int)) = some (.ref b (i * 5)):=by
  have hneg:¬ ((i:Int) < 0):=by omega
  unfold indexAddr
  simp only [hneg,if_false,h.fF,h.cQ,Int.toNat_natCast,hil,if_true,Nat.zero_add]
 have d1:=JM h hls hb hr (k:=2) (by omega) (u:=p) rfl
 have d2:=JM h hls hb hr (k:=3) (by omega) (u:=q) rfl
 have s1:=I6 h hls hb hr (k:=2) (by omega) (u:=p1) ip1.is.bD
 have hbl:=(List.getElem?_eq_some_iff.1 hb).1
 have hrl:=(List.getElem?_eq_some_iff.1 hr).1
 have hr1:(rs.set i [.str s.out,.int .i64 s.op,p1,q,.int .i64 s.n])[i]? = some [.str s.out,.int .i64 s.op,p1,q,.int .i64 s.n]:=getElem?_set_self hrl
 have ha1:eR gA.P (rs.set i [.str s.out,.int .i64 s.op,p1,q,.int .i64 s.n]) (l.set i { s with args:=s.args.take 8 }):=ha.set (y:={ s with args:=s.args.take 8 }) ⟨p1,q,rfl,ip1,iq⟩ i
 have hls1:∀ r ∈ rs.set i [.str s.out,.int .i64 s.op,p1,q,.int .i64 s.n],r.length = 5:=Lay.lens ha1
 have s1:storeAt E Y 28 (.ref b (i * 5 + 2)) p1 = some (Y.set b (.cells 75 (rs.set i [.str s.out,.int .i64 s.op,p1,q,.int .i64 s.n]).flatten ex)):=s1
 have hb1:(Y.set b (.cells 75 (rs.set i [.str s.out,.int .i64 s.op,p1,q,.int .i64 s.n]).flatten ex))[b]? = some (.cells 75 (rs.set i [.str s.out,.int .i64 s.op,p1,q,.int .i64 s.n]).flatten ex):=tY hb
 have s2:=I6 h hls1 hb1 hr1 (k:=3) (by omega) (u:=q1) iq1.is.bD
 have hb2:b ≠ 2:=fun e=>by subst e; rw [hb] at x0; cases x0
 have x1:(Y.set b (.cells 75 (rs.set i [.str s.out,.int .i64 s.op,p1,q,.int .i64 s.n]).flatten ex))[2]? = some (O.cells 37 [.str nm,a',b',c',.sl b 0 l.length none] true):=pM x0 hb2
 have ldx:∀ Y:Sg,Y[2]? = some (O.cells 37 [.str nm,a',b',c',.sl b 0 l.length none] true) -> loadAt E Y 35 (.ref 2 4) = some (.sl b 0 l.length none):=fun Y hx=>by
  unfold loadAt
  simp only [h.fF,hx,Ax.isAgg,Bool.false_eq_true,if_false]
  rfl
 have w0:=ldx _ x0
 have w1:=ldx _ x1
 have v1:=RP 11 b 0 l.length
 have v2:=fun k i=>I0 11 k i
 have v3:=cA 10 iq1.is
 generalize hτ1:Y.set b (.cells 75 (rs.set i [.str s.out,.int .i64 s.op,p1,q,.int .i64 s.n]).flatten ex) = τ1 at *
 have key:∃ F',cE E (ev E 0) (opsOf (cutAt [1,1,1,0,1,2,2,1,1,0,2,1] (aA Tryz.f59).code)) ⟨86,F⟩ Y = some (⟨86,F'⟩,τ1.set b (.cells 75 ((rs.set i [.str s.out,.int .i64 s.op,p1,q,.int .i64 s.n]).set i ([V.str s.out,.int .i64 s.op,p1,q,.int .i64 s.n].set 3 q1)).flatten ex)) /\ ∀ k,k < 44 -> F'.get k = F.get k:=by
  unfold cE
  rw [h.T4,h.Vx]
  simp only [aA,Tryz.f59,KP,↓reduceIte,reduceEqDiff,reduceLT,reduceAdd,reduceCtorEq,h.bA,h.fF,h.bK,h.cQ,opsOf,cutAt,gZ,bJ,bX,jV,Ax.comp,Ax.last,hU,Ax.again,aR,g3,g4,w0,w1,ix,d1,d2,lp,lq,m1,m2,e1,e2,s1,s2,v1,v2,v3]
  refine ⟨_,rfl,fun k hk=>?_⟩
  simp only [FT.jN]
  repeat rw [if_neg (by omega)]
 obtain ⟨F',hE,hF⟩:=key
 refine Eq.mpr (gY hE) (hk F' _ hF ?_ ?_)
 ·have hn:(l.set i (AQ s)).length = l.length:=length_set
  refine .inr ⟨b,_,ex,by rw [hn],tY hb1,?_⟩
  rw [List.set_set]
  exact ha.set (y:=AQ s) ⟨p1,q1,rfl,ip1,iq1⟩ i
 ·intro c o e hne
  have hcb:b ≠ c:=fun e2=>hne (by rw [e2]; rfl)
  rw [<- hτ1,List.set_set,getElem?_set_ne hcb]; exact e
theorem EN {l:List AxS.Step} {i:Nat} {s:AxS.Step} (hi:l[i]? = some s):((l.take i).map AQ ++ l.drop i).set i (AQ s) = (l.take (i + 1)).map AQ ++ l.drop (i + 1):=by
 have hil:=(List.getElem?_eq_some_iff.1 hi).1
 have h1:((l.take i).map AQ).length = i:=by rw [length_map,length_take]; omega
 rw [List.set_append_right _ _ (by omega),h1,Nat.sub_self,List.drop_eq_getElem_cons hil,set_cons_zero,take_add_one,hi]
 simp
theorem LL (h:bM E) {v:V} {x:aG} (hv:Hl v x) (hx:Raw x):aB E 59 [v] Z fun v' σ'=>σ' = Z /\ ∃ a b c d,v' = .agg [.str x.name,a,b,c,d] /\ kB aK a (cut x).ins /\ kB aK b (cut x).outs /\ kB aK c (cut x).after /\ kB gA d (cut x).steps:=by
 have ev:=hv.snap (E:=E) Z
 obtain ⟨a,b,c,d,rfl,ia,ib,ic,id⟩:=hv
 rw [aH h.hs59 h.sp59 h.fn59 h.md59 (args':=[.agg [.str x.name,a,b,c,d]]) (by simp only [aX,ev]),aZ (by kernel_rfl)]
 have ha:=aJ ia.bD
 have hb:=aJ ib.bD
 have hc:=aJ ic.bD
 have hd:=aJ id.bD
 simp only [aA,Tryz.f59,KP,↓reduceIte,reduceLT,reduceAdd,h.bK,ha,hb,hc,hd]
 refine NC h ia ib ic id _ ?_ ?_ ?_
 ·exact (by simp +decide only [GS])
 ·exact (by simp +decide only [GS])
 intro F1 a1 b1 c1 d1 g1 g2 g3 i1 i2 i3 i4
 simp only [KP,Ax.loadAt,↓reduceIte,reduceLT,reduceAdd,h.bK,g3]
 refine aN (TJ h (x:=qO x) ⟨a1,b1,c1,d1,rfl,i1,i2,i3,i4⟩ hx.mid) ?_
 rintro v1 Y ⟨⟨a2,b2,c2,w,rfl,j1,j2,j3,ow,hw⟩,kp⟩
 have o1:=aJ j1.is.bD
 have o2:=aJ j2.is.bD
 have o3:=aJ j3.is.bD
 obtain ⟨hc1,hc2⟩:=qA ow
 have z0:Y[1]? = some (O.cells 37 [.str [],.aD,.aD,.aD,.aD] true):=kp 1 _ rfl
 have x0:=kp 2 _ (show ([O.cells 37 [.str x.name,a,b,c,d] true,O.cells 37 [.str [],.aD,.aD,.aD,.aD] true,O.cells 37 [.str x.name,a1,b1,c1,d1] true]:Sg)[2]? = _ from rfl)
 have hw3:∀ k,aQ w = some k -> 3 <= k:=hw
 have x1:=tY (x:=O.cells 37 [.str x.name,a2,b2,c2,w] true) x0
 have z1:=pM (x:=O.cells 37 [.str x.name,a2,b2,c2,w] true) z0 (show (2:Nat) ≠ 1 by omega)
 have ow1:bF gA 75 (Y.set 2 (O.cells 37 [.str x.name,a2,b2,c2,w] true)) w (qO x).steps:=ow.keep fun k o hk ho=>pM ho (fun e=>by have:=hw3 k hk; omega)
 have nm0:(qO x).name = x.name:=rfl
 have lw:∀ l:List AxS.Step,l.length = (qO x).steps.length -> ∀ Z,bF gA 75 Z w l -> lenOf E Z 35 w = some (qO x).steps.length:=fun l hl Z o=>by rw [<- hl]; exact pS h.fF rfl o.ls
 have lw1:=lw _ rfl _ ow1
 simp only [KP,Ax.loadAt,Ax.storeAt,↓reduceIte,reduceEqDiff,reduceLT,reduceAdd,reduceCtorEq,h.fF,h.bK,g3,nm0,x0,x1,lw1,o1,o2,o3,hc2]
 generalize Y.set 2 (O.cells 37 [.str x.name,a2,b2,c2,w] true) = Y at *
 refine aV (fun i F Y=>Y[1]? = some (O.cells 37 [.str [],.aD,.aD,.aD,.aD] true) /\ Y[2]? = some (O.cells 37 [.str x.name,a2,b2,c2,w] true) /\ bF gA 75 Y w (((qO x).steps.take i).map AQ ++ (qO x).steps.drop i) /\ F.get 2 = .ref 1 0 /\ F.get 3 = .ref 2 0 /\ F.get 40 = .int .i64 ((qO x).steps.length:Int) /\ F.get 41 = .int .i64 (i:Int)) (qO x).steps.length ?_ ?_ (qO x).steps.length 0 _ _ (by omega) ⟨z1,x1,by simpa using ow1,(by simp +decide only [GS,g2,g3,and_self])⟩
 ·rintro i F Y hi ⟨z0,x0,ow,g2,g3,g40,g41⟩ next
  obtain ⟨s,hst⟩:∃ y,(qO x).steps[i]? = some y:=⟨_,List.getElem?_eq_getElem hi⟩
  have hlt:=eD hi
  have hsz:(qO x).steps.length <= 14:=by show (x.steps.take 14).length <= 14; rw [length_take]; omega
  have hadd:=bZ i (by omega)
  have hli:(((qO x).steps.take i).map AQ ++ (qO x).steps.drop i)[i]? = some s:=by
   rw [getElem?_append_right (by rw [length_map,length_take]; omega),length_map,length_take,show i - min i (qO x).steps.length = 0 by omega,getElem?_drop,Nat.add_zero,hst]
  rw [aF]
  simp only [KP,↓reduceIte,reduceEqDiff,reduceLT,g40,g41,hlt]
  refine NB h hli x0 ow _ ?_ ?_ ?_ ?_
  ·exact (by simp +decide only [GS,g2])
  ·exact (by simp +decide only [GS,g3])
  ·exact (by simp +decide only [GS])
  intro F2 τ2 hF ow2 sp
  have k2:F2.get 2 = .ref 1 0:=by rw [hF 2 (by omega)]; exact (by simp +decide only [GS,g2])
  have k3:F2.get 3 = .ref 2 0:=by rw [hF 3 (by omega)]; exact (by simp +decide only [GS,g3])
  have k40:F2.get 40 = .int .i64 ((qO x).steps.length:Int):=by rw [hF 40 (by omega)]; exact (by simp +decide only [GS,g40])
  have k41:F2.get 41 = .int .i64 (i:Int):=by rw [hF 41 (by omega)]; exact (by simp +decide only [GS,g41])
  simp only [KP,↓reduceIte,reduceLT,k41,hadd]
  rw [EN hst] at ow2
  exact next _ _ ⟨sp _ _ z0 (sX z0 (by decide) ow),sp _ _ x0 (sX x0 (by decide) ow),ow2,(by simp +decide only [GS,k2,k3,k40,and_self])⟩
 ·rintro F Y ⟨z0,x0,ow,g2,g3,g40,g41⟩
  have hlt:=eE (Nat.lt_irrefl (qO x).steps.length)
  rw [take_of_length_le (Nat.le_refl _),List.drop_of_length_le (Nat.le_refl _),List.append_nil] at ow
  have hne:=sX z0 (show 37 ≠ 75 by decide) ow
  have zz:=tY (x:=O.cells 37 [.str x.name,a2,b2,c2,w] true) z0
  have ow3:bF gA 75 (Y.set 1 (O.cells 37 [.str x.name,a2,b2,c2,w] true)) w ((qO x).steps.map AQ):=ow.keep fun k o hk ho=>pM ho (fun e=>by rw [<- e] at hk; exact hne hk)
  rw [aF]
  simp only [KP,Ax.loadAt,Ax.storeAt,↓reduceIte,reduceEqDiff,reduceLT,reduceAdd,h.bK,g2,g3,g40,g41,hlt,x0,z0,zz,o1,o2,o3,hc2]
  generalize Y.set 1 (O.cells 37 [.str x.name,a2,b2,c2,w] true) = Y at *
  obtain ⟨d',e1,id'⟩:=pX h.cQ rfl HK ow3
  have one:∀ {u:V},Ax.bD u = true -> cK false u = true -> aT.one Y E.ty false u = some u:=fun {u} h1 h2=>by
   have h3:=cO (Z:=Y) (ty:=E.ty) (g:=false) h1 h2
   cases u <;> first | exact h3 | cases h1
  have oned:aT.one Y E.ty false w = some d':=by
   rcases ow3 with ⟨rfl,-⟩ | ⟨b,rs,ex,rfl,-⟩
   ·exact e1
   ·exact e1
  have hsn:cP Y E.ty false (.agg [.str x.name,a2,b2,c2,w]) = some (.agg [.str x.name,a2,b2,c2,d']):=by
   show (match aX (aT.one Y E.ty false) [.str x.name,a2,b2,c2,w] with
    | some l=>some (V.agg l)
    | none=>none) = _
   simp only [aX,one (u:=.str x.name) rfl rfl,one j1.is.bD j1.tag,one j2.is.bD j2.tag,one j3.is.bD j3.tag,oned]
  rw [hsn]
  exact ⟨a2,b2,c2,d',rfl,j1,j2,j3,id'⟩
end
end
section
section
variable {E:Env} {Z:Sg} {K:V -> Sg -> Prop}
def nB:Lay aG:=⟨fun r x=>∃ a b c d,r = [.str x.name,a,b,c,d] /\ kB aK a x.ins /\ kB aK b x.outs /\ kB aK c x.after /\ kB gA d x.steps,5,fun _ _ ⟨_,_,_,_,h,_⟩=>by rw [h]; rfl,fun _ _ ⟨a,b,c,d,h,h1,h2,h3,h4⟩ k hk=>by
 rw [h] at hk
 simp only [mem_cons,List.not_mem_nil,or_false] at hk
 rcases hk with rfl | rfl | rfl | rfl | rfl
 ·rfl
 ·exact h1.is.bD
 ·exact h2.is.bD
 ·exact h3.is.bD
 ·exact h4.is.bD⟩
theorem BG:∀ r x,nB.P r x -> ∀ k ∈ r,cK false k = true:=fun r x ⟨a,b,c,d,h,h1,h2,h3,h4⟩ k hk=>by
 rw [h] at hk
 simp only [mem_cons,List.not_mem_nil,or_false] at hk
 rcases hk with rfl | rfl | rfl | rfl | rfl
 ·rfl
 ·exact h1.tag
 ·exact h2.tag
 ·exact h3.tag
 ·exact h4.tag
theorem rK {α:Type} {L M:Lay α} {v:V} {l:List α} (h:IS L v l) (k:∀ r x,L.P r x -> M.P r x):IS M v l:=h.imp id fun ⟨g,rs,full,e,ha⟩=>⟨g,rs,full,e,ha.imp k⟩
theorem PW {α:Type} {L M:Lay α} {t:Nat} {Z:Sg} {v:V} {l:List α} (h:LS L t Z v l) (hn:L.n = M.n) (k:∀ r x,L.P r x -> M.P r x):LS M t Z v l:=h.imp (fun h=>rK h k) fun ⟨b,cs,ex,rs,e,hb,ha,hc⟩=>⟨b,cs,ex,rs,e,hb,ha.imp k,by rw [<- hn]; exact hc⟩
theorem qX:∀ r x,gA.P r x -> eW.P r x:=fun r x ⟨a,l,h,h1,h2⟩=>⟨a,l,h,h1.is,h2.is⟩
theorem vK:∀ r x,nB.P r x -> dW.P r x:=fun r x ⟨a,b,c,d,h,h1,h2,h3,h4⟩=>⟨a,b,c,d,h,h1.is,h2.is,h3.is,rK h4.is qX⟩
theorem G_ (h:bM E) {Y:Sg} {w a b c d:V} {l:List aG} {r:aG} {ex:Bool} (ow:bF nB 37 Y w l) (h1:kB aK a r.ins) (h2:kB aK b r.outs) (h3:kB aK c r.after) (h4:kB gA d r.steps) (hb:l.length <= 1000) :
  ∃ w' τ',Ax.append E (Y ++ [.cells 37 [.str r.name,a,b,c,d] ex]) #[22,22] w (.sl Y.length 0 1 none) = some (w',τ') /\ bF nB 37 τ' w' (l ++ [r]) /\ Sp (Y ++ [.cells 37 [.str r.name,a,b,c,d] ex]) τ' w /\ Y.length <= τ'.length:=by
 obtain ⟨w',τ',q1,q2,q3,q4,-⟩:=jQ (m:=[r]) (new:=[[.str r.name,a,b,c,d]]) h.Bj rfl h.bK rfl (by decide) (sW h) rfl (ow.app [.cells 37 [.str r.name,a,b,c,d] ex]) (mD rfl) (.one ⟨a,b,c,d,rfl,h1,h2,h3,h4⟩) (eT (b:=1001) (by decide) (by simp only [length_cons,length_nil]; omega))
 exact ⟨w',τ',q1,q2,q3,by simp only [length_append,length_cons,length_nil] at q4; omega⟩
theorem IF (h:bM E) {a:V} {rs:List aG} (ha:LS dW 37 Z a rs) (hr:∀ x ∈ rs,Raw x):aB E 12 [a] Z fun v σ'=>σ' = Z /\ kB nB v ((rs.take 42).map cut):=by
 obtain ⟨a',ea,ia⟩:=eS h ha
 rw [aH h.hs12 h.ML h.fn12 h.md12 (args':=[a']) (by simp only [aX,ea]),aZ (by kernel_rfl)]
 have la:=cT h ia
 simp only [aA,Tryz.f12,KP,↓reduceIte,reduceLT]
 refine aV (fun i F Y=>F.get 0 = a' /\ F.get 4 = .int .i64 (i:Int) /\ ∃ w,F.get 3 = w /\ bF nB 37 Y w ((rs.take i).map cut)) (min rs.length 42) ?_ ?_ (min rs.length 42) 0 _ _ (by omega) (kZ (by simp +decide only [GS,and_self]) ⟨.aD,(by simp +decide only [GS]),.inl ⟨rfl,rfl⟩⟩)
 ·rintro i F Y hi ⟨g0,g4,w,g3,ow⟩ next
  obtain ⟨r,hri⟩:∃ y,rs[i]? = some y:=⟨_,List.getElem?_eq_getElem (by omega)⟩
  have hraw:=hr r (mem_of_getElem? hri)
  obtain ⟨g,p1,p2,p3,p4,e1,i1,i2,i3,i4⟩:=fC h ia hri
  have hlt:=eD (show i < rs.length by omega)
  have hlt2:decide ((i:Int) < 42) = true:=decide_eq_true (by omega)
  have hadd:=bZ i (by omega)
  rw [aF]
  simp only [KP,Ax.loadAt,↓reduceIte,reduceEqDiff,reduceLT,reduceAdd,reduceCtorEq,h.bK,g0,g3,g4,la,hlt,hlt2,e1]
  refine aN (LL h (M0 i1 i2 i3 i4) hraw) ?_
  rintro v σ' ⟨rfl,a1,b1,c1,d1,rfl,j1,j2,j3,j4⟩
  have o1:=aJ j1.is.bD
  have o2:=aJ j2.is.bD
  have o3:=aJ j3.is.bD
  have o4:=aJ j4.is.bD
  have hnm:r.name = (cut r).name:=rfl
  obtain ⟨w',τ',ha2,ow2,-,-⟩:=G_ (r:=cut r) (ex:=true) h ow j1 j2 j3 j4 (by rw [length_map,length_take]; omega)
  rw [<- hnm] at ha2
  simp only [KP,↓reduceIte,reduceEqDiff,reduceLT,reduceLeDiff,reduceAdd,reduceMul,h.Bj,h.bK,g4,ha2,hadd,o1,o2,o3,o4,Ax.fill,gU,Nat.zero_mul]
  refine next _ _ (kZ (by simp +decide only [GS,g0,and_self]) ⟨w',(by simp +decide only [GS]),?_⟩)
  have e:(rs.take (i + 1)).map cut = (rs.take i).map cut ++ [cut r]:=by rw [take_add_one,hri]; simp
  rw [e]
  exact ow2
 ·rintro F Y ⟨g0,g4,w,g3,ow⟩
  obtain ⟨v',e1,iv⟩:=pX h.bK rfl BG ow
  have ht:rs.take (min rs.length 42) = rs.take 42:=wJ rs 42
  rw [ht] at iv
  rw [aF]
  by_cases hlen:rs.length <= 42
  ·have hm:min rs.length 42 = rs.length:=Nat.min_eq_left hlen
   rw [hm] at g4
   have hlt:=eE (Nat.lt_irrefl rs.length)
   simp only [KP,↓reduceIte,reduceEqDiff,reduceLT,reduceCtorEq,g0,g3,g4,la,hlt,e1]
   exact iv
  ·have hm:min rs.length 42 = 42:=Nat.min_eq_right (by omega)
   rw [hm] at g4
   have hlt:decide (((42:Nat):Int) < (rs.length:Int)) = true:=decide_eq_true (by omega)
   have hlt2:decide (((42:Nat):Int) < 42) = false:=rfl
   simp only [KP,↓reduceIte,reduceEqDiff,reduceLT,reduceCtorEq,g0,g3,g4,la,hlt,hlt2,e1]
   exact iv
end
end
section
section
variable {E:Env} {Z:Sg} {K:V -> Sg -> Prop}
theorem Qx (h:bM E) {Y:Sg} {w a b c d:V} {l:List aG} {r:aG} {y:Nat} (ow:bF nB 37 Y w l) (hy:Y[y]? = some (.cells 37 [.str r.name,a,b,c,d] true)) (j1:kB aK a r.ins) (j2:kB aK b r.outs) (j3:kB aK c r.after) (j4:kB gA d r.steps) (hs:∀ x ∈ l ++ [r],Small x) (hl:l.length <= 14)
  (F:FT) (g3:F.get 3 = w) (g5:F.get 5 = .ref y 0) {st:List kA} {Q:Ax.X -> Fr -> Sg -> Prop}
  (hk:∀ F' τ' e,(∀ k,k ∈ [0,3,5,9,10,11] -> F'.get k = F.get k) -> F'.get 6 = .int .i64 e -> Hq (l ++ [r]) e -> (∀ (k:Nat) (o:O),Y[k]? = some o -> τ'[k]? = some o) -> M E st .normal ⟨37,F'⟩ τ' Q):R E (.region 5 (opsOf (cutAt [1,1,0,1,2,2,1,1,0,2,1,0] (aA Tryz.f16).code)) true) st ⟨37,F⟩ Y Q:=by
 obtain ⟨rs,ee,hee⟩:=Od (t:=37) (Z:=Y) ow.ls
 obtain ⟨w1,τ1,ha1,ow1,TS,-,fb⟩:=jQ (ats:=#[22,22]) (Z:=Y) (w:=.aD) (l:=[]) (L:=nB) (x:=w) (m:=l) h.Bj rfl h.bK rfl (by decide) (sW h) rfl (.inl ⟨rfl,rfl⟩) ee hee (eT (b:=1000) (by decide) (by simp only [length_nil]; omega))
 obtain ⟨w2,τ2,ha2,ow2,Ry,-,-⟩:=jQ (ats:=#[22,22]) (Z:=τ1) (x:=.bR false [[.str r.name,a,b,c,d]] true) (m:=[r]) (new:=[[.str r.name,a,b,c,d]]) h.Bj rfl h.bK rfl (by decide) (sW h) rfl ow1 rfl (.one ⟨a,b,c,d,rfl,j1,j2,j3,j4⟩) (eT (b:=1000) (by decide) (by simp only [List.nil_append,length_cons,length_nil]; omega))
 rw [List.nil_append] at ow2
 have hy1:τ1[y]? = some (.cells 37 [.str r.name,a,b,c,d] true):=TS _ _ hy (by intro e; cases e)
 have hall:=Ow (Z:=τ2) h (PW ow2.ls rfl vK) ⟨by simp only [length_append,length_cons,length_nil]; omega,hs⟩
 obtain ⟨n,v,σ',hcall,hσ,e,nm,rfl,hE⟩:=hall
 rw [hσ] at hcall
 clear hσ σ'
 have o1:=aJ j1.is.bD
 have o2:=aJ j2.is.bD
 have o3:=aJ j3.is.bD
 have o4:=aJ j4.is.bD
 have t1:=j1.tag
 have t2:=j2.tag
 have t3:=j3.tag
 have t4:=j4.tag
 have ts:cK false (.str r.name) = true:=rfl
 have v1:=cA 10 j1.is
 have v2:=cA 10 j2.is
 have v3:=cA 10 j3.is
 have v4:=nT 9 (rK j4.is qX)
 have vs:=wG 10 r.name
 have va:qV 12 (.agg [.str r.name,a,b,c,d]) (.agg [.str r.name,a,b,c,d]) = true:=oV fun x hx=>by
  simp only [mem_cons,List.not_mem_nil,or_false] at hx
  rcases hx with rfl | rfl | rfl | rfl | rfl
  ·exact vs
  ·exact cA 9 j1.is
  ·exact cA 9 j2.is
  ·exact cA 9 j3.is
  ·exact nT 8 (rK j4.is qX)
 have key:∃ F',cE E (ev E n) (opsOf (cutAt [1,1,0,1,2,2,1,1,0,2,1,0] (aA Tryz.f16).code)) ⟨37,F⟩ Y = some (⟨37,F'⟩,τ2) /\ (∀ k,k ∈ [0,3,5,9,10,11] -> F'.get k = F.get k) /\ F'.get 6 = .int .i64 e:=by
  unfold cE
  rw [h.T7,h.VA]
  simp only [aA,Tryz.f16,KP,Ax.loadAt,↓reduceIte,reduceEqDiff,reduceLT,reduceLeDiff,reduceAdd,reduceMul,h.Bj,h.bK,opsOf,cutAt,Fz.lits,Fz.apps,gZ,bJ,bX,jV,Ax.comp,Ax.last,hU,Ax.again,xL,Ax.fill,gU,Ax.rows,Nat.zero_mul,g3,g5,hy,hy1,ha1,ha2,hcall,o1,o2,o3,o4,t1,t2,t3,t4,ts,va]
  refine ⟨_,rfl,fun k hk=>?_,(by simp +decide only [GS])⟩
  simp only [mem_cons,List.not_mem_nil,or_false] at hk
  rcases hk with rfl | rfl | rfl | rfl | rfl | rfl <;> simp +decide only [GS]
 obtain ⟨F',hD,h1,h2⟩:=key
 refine Eq.mpr (gY hD) (hk F' τ2 e h1 h2 hE fun k o ho=>?_)
 have h1':=TS _ _ ho (by intro e; cases e)
 refine Ry _ _ h1' fun e=>?_
 rcases fb _ e with hb | hb
 ·cases hb
 ·exact absurd (List.getElem?_eq_some_iff.mp ho).1 (by omega)
theorem OT (h:bM E) {v:V} {l:List aG} (ia:IS nB v l) {i:Nat} {x:aG} (hx:l[i]? = some x):∃ g a b c d,indexAddr E 22 v (.int .i64 (i:Int)) = some (.dN g [.str x.name,a,b,c,d]) /\ kB aK a x.ins /\ kB aK b x.outs /\ kB aK c x.after /\ kB gA d x.steps:=by
 obtain ⟨g,r,e,a,b,c,d,hr,h1⟩:=IS.at h.Bj rfl h.bK rfl ia hx
 exact ⟨g,a,b,c,d,by rw [e,hr],h1⟩
theorem FP:mO []:=⟨rfl,fun ⟨i,hi,_⟩=>absurd hi (by simp)⟩
theorem TH (h:bM E) {a:V} {rs:List aG} (ha:LS dW 37 Z a rs) (hr:∀ x ∈ rs,Raw x):aB E 16 [a] Z fun v σ'=>σ' = Z /\ ∃ l,kB nB v l /\ mO l /\ l.length <= 14 /\ ∀ x ∈ l,Small x:=by
 obtain ⟨a',ea,ia⟩:=eS h ha
 rw [aH h.hs16 h.MI h.fn16 h.md16 (args':=[a']) (by simp only [aX,ea]),aZ (by kernel_rfl)]
 simp only [aA,Tryz.f16,KP,↓reduceIte,reduceLT,reduceCtorEq]
 refine aN (IF h (ia.ls [] 37) hr) ?_
 rintro v σ' ⟨rfl,iv⟩
 have sm:∀ x ∈ (rs.take 42).map cut,Small x:=fun x hx=>by
  obtain ⟨y,-,rfl⟩:=mem_map.1 hx
  exact Lt y
 have hl42:((rs.take 42).map cut).length <= 42:=by rw [length_map,length_take]; omega
 generalize (rs.take 42).map cut = ls at iv sm hl42
 have la:=cT h (rK iv.is vK)
 simp only [KP,↓reduceIte,reduceLT,la]
 refine aV (fun i F Y=>F.get 9 = v /\ F.get 10 = .int .i64 (ls.length:Int) /\ F.get 11 = .int .i64 (i:Int) /\ ∃ w l,F.get 3 = w /\ bF nB 37 Y w l /\ mO l /\ l.length <= 14 /\ ∀ x ∈ l,Small x) ls.length ?_ ?_ ls.length 0 _ _ (by omega) (fL (by simp +decide only [GS,and_self]) ⟨.aD,[],(by simp +decide only [GS]),.inl ⟨rfl,rfl⟩,FP,by simp,fun x hx=>by cases hx⟩)
 ·rintro i F Y hi ⟨g9,g10,g11,w,l,g3,ow,hok,hlen,hsm⟩ next
  obtain ⟨r,hri⟩:∃ y,ls[i]? = some y:=⟨_,List.getElem?_eq_getElem (by omega)⟩
  have hrs:=sm r (mem_of_getElem? hri)
  obtain ⟨g,p1,p2,p3,p4,e1,i1,i2,i3,i4⟩:=OT h iv.is hri
  have hlt:=eD hi
  have hadd:=bZ i (by omega)
  rw [aF]
  have o1:=aJ i1.is.bD
  have o2:=aJ i2.is.bD
  have o3:=aJ i3.is.bD
  have o4:=aJ i4.is.bD
  simp only [KP,Ax.loadAt,Ax.storeAt,↓reduceIte,reduceEqDiff,reduceLT,reduceAdd,h.bK,g9,g10,g11,hlt,e1,o1,o2,o3,o4,aP,cL]
  refine Qx h (ow.app _) (y:=Y.length) ?_ i1 i2 i3 i4 ?_ hlen _ ?_ ?_ ?_
  ·simp
  ·intro x hx
   rcases mem_append.1 hx with hx | hx
   ·exact hsm x hx
   ·rw [List.mem_singleton.1 hx]; exact hrs
  ·exact (by simp +decide only [GS,g3])
  ·exact (by simp +decide only [GS])
  intro F' τ' e hF h6 hE hT
  have q3:F'.get 3 = w:=(hF 3 (by simp)).trans (show _ = w by simp only [FT.jN,reduceEqDiff,↓reduceIte,g3])
  have q5:F'.get 5 = .ref Y.length 0:=(hF 5 (by simp)).trans (by simp +decide only [GS])
  have q9:F'.get 9 = v:=(hF 9 (by simp)).trans (by simp +decide only [GS,g9])
  have Fj:F'.get 10 = .int .i64 (ls.length:Int):=(hF 10 (by simp)).trans (by simp +decide only [GS,g10])
  have Hu:F'.get 11 = .int .i64 (i:Int):=(hF 11 (by simp)).trans (by simp +decide only [GS,g11])
  have ow':bF nB 37 τ' w l:=(ow.app [O.cells 37 [.str r.name,p1,p2,p3,p4] true]).keep fun c o _ hc=>hT c o hc
  have hy:τ'[Y.length]? = some (O.cells 37 [.str r.name,p1,p2,p3,p4] true):=hT _ _ (by simp)
  have lw:=pS h.Bj rfl ow'.ls
  have hz:=hE.zero
  by_cases he:e = 0
  ·have c1:decide (e = 0) = true:=decide_eq_true he
   by_cases h14:l.length < 14
   ·have c2:decide ((l.length:Int) < 14) = true:=decide_eq_true (by omega)
    obtain ⟨w2,τ2,ha2,ow2,-,-⟩:=G_ (ex:=true) h ow' i1 i2 i3 i4 (by omega)
    simp only [KP,Ax.loadAt,↓reduceIte,reduceEqDiff,reduceLT,reduceLeDiff,reduceAdd,reduceMul,h.Bj,h.bK,q3,q5,Hu,h6,lw,c1,c2,hy,hadd,ha2,o1,o2,o3,o4,Ax.fill,gU,Nat.zero_mul]
    refine next _ _ (fL (by simp +decide only [GS,q9,Fj,and_self]) ⟨w2,l ++ [r],(by simp +decide only [GS]),ow2,hz.1 he,?_,?_⟩)
    ·rw [length_append,length_singleton]; omega
    ·intro x hx
     rcases mem_append.1 hx with hx | hx
     ·exact hsm x hx
     ·rw [List.mem_singleton.1 hx]; exact hrs
   ·have c2:decide ((l.length:Int) < 14) = false:=decide_eq_false (by omega)
    simp only [KP,↓reduceIte,reduceEqDiff,reduceLT,q3,Hu,h6,lw,c1,c2,hadd]
    exact next _ _ (fL (by simp +decide only [GS,q9,Fj,and_self]) ⟨w,l,(by simp +decide only [GS,q3]),ow',hok,hlen,hsm⟩)
  ·have c1:decide (e = 0) = false:=decide_eq_false he
   simp only [KP,↓reduceIte,reduceEqDiff,reduceLT,Hu,h6,c1,hadd]
   exact next _ _ (fL (by simp +decide only [GS,q9,Fj,and_self]) ⟨w,l,(by simp +decide only [GS,q3]),ow',hok,hlen,hsm⟩)
 ·rintro F Y ⟨g9,g10,g11,w,l,g3,ow,hok,hlen,hsm⟩
  obtain ⟨v',e1,iv⟩:=pX h.bK rfl BG ow
  have hlt:=eE (Nat.lt_irrefl ls.length)
  rw [aF]
  simp only [KP,↓reduceIte,reduceEqDiff,reduceLT,g3,g10,g11,hlt,e1]
  exact ⟨l,iv,hok,hlen,hsm⟩
end
end
end Go.Proofs.YtlbbdpkjeeiahaaGreatDoor
end
