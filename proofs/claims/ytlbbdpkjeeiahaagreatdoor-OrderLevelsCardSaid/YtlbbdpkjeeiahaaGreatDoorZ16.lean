/- Part 16 of the proof. -/
import Derived.Test.YtlbbdpkjeeiahaaGreatDoorZ15
import Derived.Test.YtlbbdpkjeeiahaaGreatDoorZ2
import Derived.Deep.Slices
import Derived.Test.YtlbbdpkjeeiahaaGreatDoorZ3
import Derived.KernelRfl
import Derived.Test.YtlbbdpkjeeiahaaGreatDoorZ14
set_option maxHeartbeats 8000000
set_option linter.unusedVariables false
set_option maxRecDepth 100000
open Nat (reduceEqDiff reduceLT reduceAdd reduceLeDiff reduceMul)
open List (mem_append getElem?_append_left getElem?_set_self getElem?_set_ne length_set length_cons length_nil map_congr_left length_take append_assoc getElem?_take getElem?_append_right length_map length_range length_singleton getElem?_drop set_cons_zero mem_map drop_zero take_of_length_le map_map mem_range take_add_one mem_of_getElem? flatten_cons length_append mem_cons map_cons)
open Int (reduceNeg)
section
namespace Go.Proofs.YtlbbdpkjeeiahaaGreatDoor
open Go Go.Ax Go.AxS
section
section
variable {E:Env} {Z:Sg} {K:V -> Sg -> Prop}
theorem MH (x:aF):e_ x = (!kD x.ins && (!kD x.outs && (!kD x.after && (!decide (x.name ∈ x.after) && (gT x.ins x.steps && x.outs.all fun o=>!decide (o ∈ x.ins) && decide (o ∈ x.steps.map Step.out)))))):=by
 unfold e_
 rw [Bool.eq_iff_iff]
 simp only [Bool.and_eq_true,List.all_eq_true,decide_eq_true_eq,Bool.not_eq_true',decide_eq_false_iff_not,mem_append]
 constructor
 ·rintro ⟨⟨⟨⟨⟨⟨h1,h2⟩,h3⟩,h4⟩,h5⟩,h6⟩,h7⟩
  exact ⟨h1,h2,h3,h4,h6,fun o ho=>⟨h5 o ho,(h7 o ho).resolve_left (h5 o ho)⟩⟩
 ·rintro ⟨h1,h2,h3,h4,h6,h7⟩
  exact ⟨⟨⟨⟨⟨⟨h1,h2⟩,h3⟩,h4⟩,fun o ho=>(h7 o ho).1⟩,h6⟩,fun o ho=>.inr (h7 o ho).2⟩
theorem K9 (h:bM E) {v:V} {x:aF} (hv:GR v x) (hx:Small x):aB E 60 [v] Z K = K (.int .i64 (aY x)) Z:=by
 refine aB.of ?_
 have ev:=hv.snap (E:=E) Z
 obtain ⟨a,b,c,d,rfl,ia,ib,ic,id⟩:=hv
 have a1:=hx.ins
 have a2:=hx.outs
 have a3:=hx.after
 have a4:=hx.steps
 rw [aH h.hs60 h.sp60 h.fn60 h.md60 (args':=[.agg [.str x.name,a,b,c,d]]) (by simp only [aX,ev]),bD (by kernel_rfl)]
 have ha:=aI ia.bB
 have hb:=aI ib.bB
 have hc:=aI ic.bB
 have hd:=aI id.bB
 have la:=bK h ia
 have lb:=bK h ib
 have lc:=bK h ic
 have ld:=kV h id
 have kf:=fun (Y:Sg)=>Sh (Z:=Y) h (v:=.agg [.str x.name,a,b,c,d]) (x:=x) ⟨a,b,c,d,rfl,ia,ib,ic,id⟩ hx
 have key:=fun F g1 hk=>Hv (K:=fun v σ1=>match cT σ1 E.ty false v with
    | some v=>v = .int .i64 (aY x)
    | none=>False) h ia ib id hx (c:=c) F g1 hk
 rw [show (aA Tryz.f60).code = .seq (cutAt [0] (aA Tryz.f60).code) (.seq (cutAt [1,0] (aA Tryz.f60).code) (cutAt [1,1] (aA Tryz.f60).code)) from rfl]
 generalize cutAt [1,1] (aA Tryz.f60).code = C at *
 by_cases f:kA x = true
 case neg=>
  have f:kA x = false:=by simpa using f
  rw [show aY x = 1 from if_pos f]
  simp only [aA,Tryz.f60,KP,Ax.loadAt,↓reduceIte,reduceEqDiff,reduceLT,reduceAdd,h.bE,cutAt,ha,hb,hc,hd,kf,f]
  exact rfl
 have r1:aY x = if long x = true then 4 else if e_ x = false then 2 else 0:=if_neg (by simp [f])
 have q1:decide ((8:Int) < (x.ins.length:Int)) = decide (8 < x.ins.length):=by rw [Bool.eq_iff_iff]; simp only [decide_eq_true_eq]; omega
 have q2:decide ((4:Int) < (x.outs.length:Int)) = decide (4 < x.outs.length):=by rw [Bool.eq_iff_iff]; simp only [decide_eq_true_eq]; omega
 have q3:decide ((8:Int) < (x.after.length:Int)) = decide (8 < x.after.length):=by rw [Bool.eq_iff_iff]; simp only [decide_eq_true_eq]; omega
 have q4:decide ((12:Int) < (x.steps.length:Int)) = decide (12 < x.steps.length):=by rw [Bool.eq_iff_iff]; simp only [decide_eq_true_eq]; omega
 by_cases hl:long x = true
 ·rw [r1,if_pos hl]
  unfold long at hl
  cases l1:decide (8 < x.ins.length) with
  | true=>
   simp only [aA,Tryz.f60,KP,Ax.loadAt,↓reduceIte,reduceEqDiff,reduceLT,reduceAdd,reduceCtorEq,h.aS,h.bE,cutAt,ha,hb,hc,hd,kf,f,la,q1,l1]
   exact rfl
  | false=>
   cases l2:decide (4 < x.outs.length) with
   | true=>
    simp only [aA,Tryz.f60,KP,Ax.loadAt,↓reduceIte,reduceEqDiff,reduceLT,reduceAdd,reduceCtorEq,h.aS,h.bE,cutAt,ha,hb,hc,hd,kf,f,la,lb,q1,q2,l1,l2]
    exact rfl
   | false=>
    cases l3:decide (8 < x.after.length) with
    | true=>
     simp only [aA,Tryz.f60,KP,Ax.loadAt,↓reduceIte,reduceEqDiff,reduceLT,reduceAdd,reduceCtorEq,h.aS,h.bE,cutAt,ha,hb,hc,hd,kf,f,la,lb,lc,q1,q2,q3,l1,l2,l3]
     exact rfl
    | false=>
     have l4:decide (12 < x.steps.length) = true:=by rw [l1,l2,l3] at hl; simpa using hl
     simp only [aA,Tryz.f60,KP,Ax.loadAt,↓reduceIte,reduceEqDiff,reduceLT,reduceAdd,reduceCtorEq,h.aS,h.fE,h.bE,cutAt,ha,hb,hc,hd,kf,f,la,lb,lc,ld,q1,q2,q3,q4,l1,l2,l3,l4]
     exact rfl
 rw [if_neg hl,MH] at r1
 have hl:long x = false:=by simpa using hl
 unfold long at hl
 simp only [Bool.or_eq_false_iff] at hl
 obtain ⟨⟨⟨l1,l2⟩,l3⟩,l4⟩:=hl
 have t1:=fun (Y:Sg)=>EA (Z:=Y) h (a:=a) (l:=x.ins) (ia.ls Y 9) (by omega)
 have t2:=fun (Y:Sg)=>EA (Z:=Y) h (a:=b) (l:=x.outs) (ib.ls Y 9) (by omega)
 have t3:=fun (Y:Sg)=>EA (Z:=Y) h (a:=c) (l:=x.after) (ic.ls Y 9) (by omega)
 have t4:=fun (Y:Sg)=>rA (Z:=Y) h (a:=c) (l:=x.after) (s:=x.name) (ic.ls Y 9) (by omega)
 cases w1:kD x.ins with
 | true=>
  rw [show aY x = 2 from by rw [r1,w1]; rfl]
  simp only [aA,Tryz.f60,KP,Ax.loadAt,↓reduceIte,reduceEqDiff,reduceLT,reduceAdd,reduceCtorEq,h.aS,h.fE,h.bE,cutAt,ha,hb,hc,hd,kf,f,la,lb,lc,ld,q1,q2,q3,q4,l1,l2,l3,l4,t1,w1]
  exact rfl
 | false=>
 cases w2:kD x.outs with
 | true=>
  rw [show aY x = 2 from by rw [r1,w1,w2]; rfl]
  simp only [aA,Tryz.f60,KP,Ax.loadAt,↓reduceIte,reduceEqDiff,reduceLT,reduceAdd,reduceCtorEq,h.aS,h.fE,h.bE,cutAt,ha,hb,hc,hd,kf,f,la,lb,lc,ld,q1,q2,q3,q4,l1,l2,l3,l4,t1,w1,t2,w2]
  exact rfl
 | false=>
 cases w3:kD x.after with
 | true=>
  rw [show aY x = 2 from by rw [r1,w1,w2,w3]; rfl]
  simp only [aA,Tryz.f60,KP,Ax.loadAt,↓reduceIte,reduceEqDiff,reduceLT,reduceAdd,reduceCtorEq,h.aS,h.fE,h.bE,cutAt,ha,hb,hc,hd,kf,f,la,lb,lc,ld,q1,q2,q3,q4,l1,l2,l3,l4,t1,w1,t2,w2,t3,w3]
  exact rfl
 | false=>
 by_cases w4:x.name ∈ x.after
 ·have s4:=Jv w4
  rw [show aY x = 2 from by rw [r1,w1,w2,w3,decide_eq_true w4]; rfl]
  simp only [aA,Tryz.f60,KP,Ax.loadAt,↓reduceIte,reduceEqDiff,reduceLT,reduceAdd,reduceCtorEq,h.cK,h.aS,h.fE,h.bE,cutAt,ha,hb,hc,hd,kf,f,la,lb,lc,ld,q1,q2,q3,q4,l1,l2,l3,l4,t1,w1,t2,w2,t3,w3,t4,kM,s4]
  exact rfl
 ·have s4:=Jw w4
  rw [w1,w2,w3,decide_eq_false w4] at r1
  simp only [aA,Tryz.f60,KP,Ax.loadAt,↓reduceIte,reduceEqDiff,reduceLT,reduceAdd,reduceCtorEq,h.cK,h.aS,h.fE,h.bE,cutAt,ha,hb,hc,hd,kf,f,la,lb,lc,ld,q1,q2,q3,q4,l1,l2,l3,l4,t1,w1,t2,w2,t3,w3,t4,kM,s4]
  refine key _ (by simp +decide only [GS]) fun Y=>?_
  show V.int .i64 _ = V.int .i64 (aY x)
  rw [r1]
  refine congrArg _ ?_
  by_cases e:gT x.ins x.steps = true /\ (x.outs.all fun o=>!decide (o ∈ x.ins) && decide (o ∈ x.steps.map Step.out)) = true
  ·rw [if_pos e,e.1,e.2]; rfl
  ·rw [if_neg e,if_pos]
   simp only [Bool.not_false,Bool.true_and]
   cases u1:gT x.ins x.steps with
   | false=>rfl
   | true=>
    cases u2:(x.outs.all fun o=>!decide (o ∈ x.ins) && decide (o ∈ x.steps.map Step.out)) with
    | false=>rfl
    | true=>exact absurd ⟨u1,u2⟩ e
theorem KA (h:bM E) {v:V} {x:aF} (hv:GR v x) (hx:Small x):KC E 60 [v] Z (.int .i64 (aY x)) Z:=dA fun _=>K9 h hv hx
end
end
section
section
variable {E:Env} {Z:Sg} {K:V -> Sg -> Prop}
def kX (n:Nat) (g:Nat -> Bool):List V:=(List.range n).map fun k=>V.bool (g k)
def qU (n i:Nat):List V:=(List.range i).map (fun j=>V.sl (j + 1) 0 n none) ++ List.replicate (n - i) .aC
def oP (ex:Bool) (n i:Nat) (c:Nat -> Nat -> Bool):Sg:=.cells 38 (qU n i) true :: (List.range i).map fun j=>O.cells 4 (kX n (c j)) ex
def HF (n:Nat) (c:Nat -> Nat -> Bool):List (List Bool):=(List.range n).map fun i=>(List.range n).map (c i)
def Gl (c:Nat -> Nat -> Bool) (i k:Nat) (b:Bool):Nat -> Nat -> Bool:=fun x y=>if x = i /\ y = k then b else c x y
theorem lB {n:Nat} {g:Nat -> Bool}:(kX n g).length = n:=by simp [kX]
theorem n_ {n i:Nat} (h:i <= n):(qU n i).length = n:=by simp [qU]; omega
theorem sQ {n i j:Nat} (h:j < i):(qU n i)[j]? = some (.sl (j + 1) 0 n none):=by
 unfold qU
 rw [getElem?_append_left (by simpa using h)]
 simp [h]
theorem wK {n k:Nat} {g:Nat -> Bool} (h:k < n):(kX n g)[k]? = some (.bool (g k)):=by simp [kX,h]
theorem B6 {ex:Bool} {n i:Nat} {c:Nat -> Nat -> Bool}:(oP ex n i c).length = i + 1:=by simp [oP]
theorem Wr {ex:Bool} {n i:Nat} {c:Nat -> Nat -> Bool}:(oP ex n i c)[0]? = some (.cells 38 (qU n i) true):=rfl
theorem B5 {ex:Bool} {n i j:Nat} {c:Nat -> Nat -> Bool} (h:j < i):(oP ex n i c)[j + 1]? = some (.cells 4 (kX n (c j)) ex):=by
 simp [oP,h]
theorem EC (h:bM E) {n j:Nat} (hj:j < n):indexAddr E 32 (.sl 0 0 n none) (.int .i64 (j:Int)) = some (.ref 0 j):=by
 have hneg:¬ ((j:Int) < 0):=by omega
 unfold indexAddr
 simp only [hneg,if_false,h.LB,h.uY,Int.toNat_natCast,hj,if_true,Nat.zero_add,Nat.mul_one]
theorem BX (h:bM E) {n j k:Nat} (hk:k < n):indexAddr E 38 (.sl (j + 1) 0 n none) (.int .i64 (k:Int)) = some (.ref (j + 1) k):=by
 have hneg:¬ ((k:Int) < 0):=by omega
 unfold indexAddr
 simp only [hneg,if_false,h.uY,h.GY,Int.toNat_natCast,hk,if_true,Nat.zero_add,Nat.mul_one]
theorem Ew (h:bM E) {ex:Bool} {n i j:Nat} {c:Nat -> Nat -> Bool} (hj:j < i):loadAt E (oP ex n i c) 38 (.ref 0 j) = some (.sl (j + 1) 0 n none):=by
 unfold loadAt
 simp only [h.uY,Wr,Ax.isAgg,Bool.false_eq_true,if_false,sQ hj]
theorem HK (h:bM E) {ex:Bool} {n i j k:Nat} {c:Nat -> Nat -> Bool} (hj:j < i) (hk:k < n):loadAt E (oP ex n i c) 4 (.ref (j + 1) k) = some (.bool (c j k)):=by
 unfold loadAt
 simp only [h.GY,B5 hj,Ax.isAgg,Bool.false_eq_true,if_false,wK hk]
theorem Mj {n k:Nat} {g:Nat -> Bool} {b:Bool} (hk:k < n):setCells (kX n g) k [.bool b] = kX n (fun y=>if y = k then b else g y):=by
 have e:setCells (kX n g) k [.bool b] = (kX n g).set k (.bool b):=by
  unfold setCells
  rw [List.set_eq_take_append_cons_drop,if_pos (by rw [lB]; exact hk)]
  simp
 rw [e]
 apply List.ext_getElem?
 intro i
 by_cases hi:i < n
 ·by_cases hik:k = i
  ·subst hik
   rw [getElem?_set_self (by rw [lB]; exact hk),wK hk,if_pos rfl]
  ·rw [getElem?_set_ne hik,wK hi,wK hi,if_neg (fun e=>hik e.symm)]
 ·rw [List.getElem?_eq_none (by rw [length_set,lB]; omega),List.getElem?_eq_none (by rw [lB]; omega)]
theorem Hj (h:bM E) {ex:Bool} {n i j k:Nat} {c:Nat -> Nat -> Bool} {b:Bool} (hj:j < i) (hk:k < n):storeAt E (oP ex n i c) 4 (.ref (j + 1) k) (.bool b) = some (oP ex n i (Gl c j k b)):=by
 unfold storeAt
 simp only [h.GY,B5 hj]
 rw [if_pos (by simp only [V.cells,V.aW,length_cons,length_nil,List.all_cons,List.all_nil,lB,Bool.and_true,Bool.and_eq_true,decide_eq_true_eq]; exact ⟨rfl,by omega⟩)]
 refine congrArg some ?_
 rw [show V.cells (.bool b) = [.bool b] from rfl,Mj hk]
 apply List.ext_getElem?
 intro q
 cases q with
 | zero=>rw [getElem?_set_ne (by omega)]; rfl
 | succ q=>
  by_cases hq:q < i
  ·rw [B5 hq]
   by_cases hjq:j = q
   ·subst hjq
    rw [getElem?_set_self (by rw [B6]; omega)]
    congr 2
    unfold kX
    refine map_congr_left fun y _=>?_
    simp [Gl]
   ·rw [getElem?_set_ne (by omega),B5 hq]
    congr 2
    unfold kX
    refine map_congr_left fun y _=>?_
    have:¬ (q = j /\ y = k):=fun e=>hjq e.1.symm
    simp [Gl,this]
  ·rw [List.getElem?_eq_none (by rw [length_set,B6]; omega),List.getElem?_eq_none (by rw [B6]; omega)]
theorem LK (h:bM E) {ex:Bool} {n i:Nat} {c:Nat -> Nat -> Bool} (hi:i < n):storeAt E (oP ex n i c ++ [.cells 4 (kX n (c i)) ex]) 38 (.ref 0 i) (.sl (i + 1) 0 n none) = some (oP ex n (i + 1) c):=by
 unfold storeAt
 have h0:(oP ex n i c ++ [O.cells 4 (kX n (c i)) ex])[0]? = some (.cells 38 (qU n i) true):=rfl
 simp only [h.uY,h0]
 rw [if_pos (by simp only [V.cells,V.aW,length_cons,length_nil,List.all_cons,List.all_nil,n_ (Nat.le_of_lt hi),Bool.and_true,Bool.and_eq_true,decide_eq_true_eq]; exact ⟨rfl,by omega⟩)]
 refine congrArg some ?_
 have e:setCells (qU n i) i [.sl (i + 1) 0 n none] = qU n (i + 1):=by
  unfold setCells
  apply List.ext_getElem?
  intro q
  have hl:((qU n i).take i).length = i:=by rw [length_take,n_ (Nat.le_of_lt hi)]; omega
  rcases Nat.lt_trichotomy q i with hq | rfl | hq
  ·rw [append_assoc,getElem?_append_left (by omega),getElem?_take,if_pos hq,sQ hq,sQ (by omega)]
  ·rw [append_assoc,getElem?_append_right (by omega),hl,Nat.sub_self,sQ (by omega)]; rfl
  ·have e1:(qU n (i + 1))[q]? = if q < n then some .aC else none:=by
    unfold qU
    rw [getElem?_append_right (by simp; omega),length_map,length_range,List.getElem?_replicate]
    by_cases g:q < n
    ·rw [if_pos (by omega),if_pos g]
    ·rw [if_neg (by omega),if_neg g]
   rw [e1,append_assoc,getElem?_append_right (by omega),hl,getElem?_append_right (by simp; omega),length_singleton,getElem?_drop]
   unfold qU
   rw [getElem?_append_right (by simp; omega),length_map,length_range,List.getElem?_replicate]
   by_cases g:q < n
   ·rw [if_pos (by omega),if_pos g]
   ·rw [if_neg (by omega),if_neg g]
 rw [show V.cells (.sl (i + 1) 0 n none) = [.sl (i + 1) 0 n none] from rfl,e]
 unfold oP
 rw [List.cons_append,set_cons_zero,List.range_succ,List.map_append]
 rfl
theorem I_ {n:Nat} {c:Nat -> Nat -> Bool} {i:Nat} (hi:i < n):(HF n c)[i]? = some ((List.range n).map (c i)):=by simp [HF,hi]
theorem O4 {n:Nat} {c:Nat -> Nat -> Bool}:(HF n c).length = n:=by simp [HF]
theorem OO {n:Nat} {g:Nat -> Bool} {k:Nat} (hk:k < n):((List.range n).map g)[k]? = some (g k):=by simp [hk]
theorem Mi:∀ l:List V,Ax.rows 1 l.length l = l.map fun v=>[v]
 | []=>rfl
 | x :: l=>by
  show ((x :: l).take 1) :: Ax.rows 1 l.length ((x :: l).drop 1) = _
  rw [show (x :: l).drop 1 = l from rfl,Mi l]; rfl
theorem Ja {α β:Type} {f:α -> Option β}:∀ {l:List α} {m:List β},l.length = m.length -> (∀ (i:Nat) (a:α) (b:β),l[i]? = some a -> m[i]? = some b -> f a = some b) -> aX f l = some m
 | [],[],_,_=>rfl
 | a :: l,b :: m,hl,h=>by
  rw [aX,h 0 a b rfl rfl,Ja (l:=l) (m:=m) (by simpa using hl) fun i x y hx hy=>h (i + 1) x y hx hy]
 | [],_ :: _,hl,_=>by simp at hl
 | _ :: _,[],hl,_=>by simp at hl
theorem Fh (h:bM E) {ex:Bool} {n:Nat} {c:Nat -> Nat -> Bool}:∃ v,cT (oP ex n n c) E.ty false (.sl 0 0 n none) = some v /\ jW uG v (HF n c):=by
 let rv:Nat -> V:=fun i=>.bQ false ((kX n (c i)).map fun v=>[v]) (ex && decide (0 < 1) && (0 + n * 1 == n))
 have hrow:∀ i,i < n -> ∀ m,bN (oP ex n n c) E.ty false (m + 2) (.sl (i + 1) 0 n none) = some (rv i):=fun i hi m=>by
  have hm:aX (fun v=>match bN (oP ex n n c) E.ty false (m + 1) v with
    | some v=>if cH false v then some v else no "snap: borrowed"
    | none=>none) (kX n (c i)) = some (kX n (c i)):=by
   refine iQ fun x hx=>?_
   obtain ⟨k,_,rfl⟩:=mem_map.1 hx
   rfl
  rw [bN]
  simp only [B5 hi,h.GY]
  rw [if_pos (by rw [lB]; omega),drop_zero,take_of_length_le (by rw [lB]; omega)]
  refine (congrArg (fun o=>match o with
   | some l=>some (V.bQ false (Ax.rows 1 n l) (ex && decide (0 < 1) && (0 + n * 1 == (kX n (c i)).length)))
   | none=>none) hm).trans ?_
  show some (V.bQ false (Ax.rows 1 n (kX n (c i))) (ex && decide (0 < 1) && (0 + n * 1 == (kX n (c i)).length))) = _
  have:Ax.rows 1 n (kX n (c i)) = (kX n (c i)).map fun v=>[v]:=by
   have:=Mi (kX n (c i)); rwa [lB] at this
  rw [this,lB]
 have hout:bN (oP ex n n c) E.ty false 12 (.sl 0 0 n none) = some (.bQ false (((List.range n).map rv).map fun v=>[v]) (true && decide (0 < 1) && (0 + n * 1 == n))):=by
  have hm:aX (fun v=>match bN (oP ex n n c) E.ty false 11 v with
    | some v=>if cH false v then some v else no "snap: borrowed"
    | none=>none) (qU n n) = some ((List.range n).map rv):=by
   refine Ja (by rw [n_ (Nat.le_refl n)]; simp) fun i a b ha hb=>?_
   have hi:i < n:=by
    have:=(List.getElem?_eq_some_iff.1 ha).1
    rwa [n_ (Nat.le_refl n)] at this
   rw [sQ hi] at ha
   cases ha
   have hb:some (rv i) = some b:=by rw [<- hb]; simp [hi]
   cases hb
   rw [hrow i hi 9]
   rfl
  rw [bN]
  simp only [Wr,h.uY]
  rw [if_pos (by rw [n_ (Nat.le_refl n)]; omega),drop_zero,take_of_length_le (by rw [n_ (Nat.le_refl n)]; omega)]
  refine (congrArg (fun o=>match o with
   | some l=>some (V.bQ false (Ax.rows 1 n l) (true && decide (0 < 1) && (0 + n * 1 == (qU n n).length)))
   | none=>none) hm).trans ?_
  show some (V.bQ false (Ax.rows 1 n ((List.range n).map rv)) (true && decide (0 < 1) && (0 + n * 1 == (qU n n).length))) = _
  have:Ax.rows 1 n ((List.range n).map rv) = ((List.range n).map rv).map fun v=>[v]:=by
   have:=Mi ((List.range n).map rv); rwa [show ((List.range n).map rv).length = n by simp] at this
  rw [this,n_ (Nat.le_refl n)]
 refine ⟨.bQ false (((List.range n).map rv).map fun v=>[v]) (true && decide (0 < 1) && (0 + n * 1 == n)),?_,.inr ⟨((List.range n).map rv).map fun v=>[v],true && decide (0 < 1) && (0 + n * 1 == n),rfl,?_⟩⟩
 ·show (match bN (oP ex n n c) E.ty false 12 (.sl 0 0 n none) with
   | some v=>if cH false v then some v else no "snap: borrowed"
   | none=>none) = _
  rw [hout]
  rfl
 ·unfold HF
  rw [map_map]
  refine eN.map (P:=uG.P) (f:=(fun v=>[v]) ∘ rv) (g:=fun i=>(List.range n).map (c i)) (fun i=>⟨rv i,rfl,.inr ⟨false,(kX n (c i)).map fun v=>[v],ex && decide (0 < 1) && (0 + n * 1 == n),rfl,?_⟩⟩) _
  unfold kX
  rw [map_map]
  exact eN.map (P:=Cu.P) (f:=(fun v=>[v]) ∘ fun k=>V.bool (c i k)) (g:=c i) (fun k=>rfl) _
end
end
section
section
variable {E:Env} {Z:Sg} {K:V -> Sg -> Prop}
def y_ (c:Nat -> Nat -> Bool) (i:Nat) (g:Nat -> Bool):Nat -> Nat -> Bool:=fun x=>if x = i then g else c x
theorem Gi {ex:Bool} {n i:Nat} {c c':Nat -> Nat -> Bool} (h:∀ j,j < i -> c j = c' j):oP ex n i c = oP ex n i c':=by
 unfold oP
 refine congrArg _ (map_congr_left fun j hj=>?_)
 rw [h j (mem_range.1 hj)]
theorem Ro (h:bM E) {ex:Bool} {n i:Nat} {c:Nat -> Nat -> Bool} {g:Nat -> Bool} (hi:i < n):storeAt E (oP ex n i c ++ [.cells 4 (kX n g) ex]) 38 (.ref 0 i) (.sl (i + 1) 0 n none) = some (oP ex n (i + 1) (y_ c i g)):=by
 have:=LK (ex:=ex) (c:=y_ c i g) h hi
 rw [Gi (c:=y_ c i g) (c':=c) (fun j hj=>by unfold y_; rw [if_neg (by omega)]),show y_ c i g i = g from if_pos rfl] at this
 exact this
theorem Gm {c:Nat -> Nat -> Bool} {i k:Nat} {g:Nat -> Bool} {b:Bool}:Gl (y_ c i g) i k b = y_ c i (fun y=>if y = k then b else g y):=by
 funext x y
 unfold Gl y_
 by_cases hx:x = i
 ·simp [hx]
 ·simp [hx]
theorem J_ (n:Nat):gR n [V.bool false] = kX n fun _=>false:=by
 have:∀ n:Nat,gR n [V.bool false] = List.replicate n (V.bool false):=by
  intro n
  induction n with
  | zero=>rfl
  | succ n ih=>rw [gR,ih]; rfl
 rw [this]
 unfold kX
 rw [List.map_const',length_range]
theorem De (n:Nat):gR n [V.aC] = qU n 0:=by
 have:∀ n:Nat,gR n [V.aC] = List.replicate n V.aC:=by
  intro n
  induction n with
  | zero=>rfl
  | succ n ih=>rw [gR,ih]; rfl
 rw [this]; rfl
theorem BL {rs:List aF} {f:aM} {k:Nat} (h:fA rs f = some k):k < rs.length:=by
 unfold fA at h
 generalize (fun r:aF=>decide (f ∈ r.outs)) = p at h
 induction rs generalizing k with
 | nil=>cases h
 | cons r rs ih=>
  rw [bF] at h
  split at h
  ·cases h; simp
  ·obtain ⟨j,hj,rfl⟩:=Option.map_eq_some_iff.1 h
   have:=ih hj; simp only [length_cons]; omega
theorem Dd {rs:List aF} {f:aM} {k:Nat} (h:fF rs f = some k):k < rs.length:=by
 unfold fF at h
 generalize (fun r:aF=>decide (r.name = f)) = p at h
 induction rs generalizing k with
 | nil=>cases h
 | cons r rs ih=>
  rw [bF] at h
  split at h
  ·cases h; simp
  ·obtain ⟨j,hj,rfl⟩:=Option.map_eq_some_iff.1 h
   have:=ih hj; simp only [length_cons]; omega
theorem oN {α:Type} {p:α -> Bool} {l:List α} {j:Nat} {x:α} (hx:l[j]? = some x):(l.take (j + 1)).any p = ((l.take j).any p || p x):=by
 rw [take_add_one,hx,List.any_append]; simp
structure vV (rs:List aF):Prop where
 len:rs.length <= 64
 all:∀ x ∈ rs,Small x
theorem mO:idx none = -1:=rfl
theorem eS {k:Nat}:idx (some k) = (k:Int):=rfl
theorem JJ (h:bM E) {a:V} {rs:List aF} (ha:LS cV 37 Z a rs) (hs:vV rs) (data:Bool):aB E 17 [a,.bool data] Z fun v σ'=>σ' = Z /\ jW uG v (HF rs.length (fS rs data)):=by
 obtain ⟨a',ea,ia⟩:=dW h ha
 rw [aH h.hs17 h.L0 h.fn17 h.md17 (args':=[a',.bool data]) (by simp only [aX,ea,show aZ Z E.ty true (.bool data) = some (.bool data) from rfl]),bD (by kernel_rfl)]
 have la:=cA h ia
 have hn:=hs.len
 generalize hN:rs.length = n at *
 have c2:decide ((n:Int) * ((24:Nat):Int) <= 1099511627776) = true:=decide_eq_true (by omega)
 have c3:decide ((n:Int) <= 1099511627776) = true:=decide_eq_true (by omega)
 have c4:decide ((n:Int) * ((1:Nat):Int) <= 1099511627776) = true:=decide_eq_true (by omega)
 have hinit:([O.cells 38 (qU n 0) true]:Sg) = oP true n 0 (fS rs data):=rfl
 simp only [aA,Tryz.f17,KP,↓reduceIte,reduceLT,reduceAdd,reduceCtorEq,h.LB,h.uY,la,c2,c3,De,Int.toNat_natCast,Int.le_refl,hinit]
 refine aQ (fun i F Y=>Y = oP true n i (fS rs data) /\ F.get 0 = a' /\ F.get 1 = .bool data /\ F.get 5 = .sl 0 0 n none /\ F.get 6 = .int .i64 (i:Int)) n ?_ ?_ n 0 _ _ (by omega) ⟨rfl,(by simp +decide only [GS,and_self])⟩
 ·rintro i F Y hi ⟨rfl,g0,g1,g5,g6⟩ next
  obtain ⟨r,hr⟩:∃ y,rs[i]? = some y:=⟨_,List.getElem?_eq_getElem (by omega)⟩
  have hsr:=hs.all r (mem_of_getElem? hr)
  have a1:=hsr.ins
  have a3:=hsr.after
  obtain ⟨g,p1,p2,p3,p4,e1,i1,i2,i3,i4⟩:=eM h ia hr
  have l1:=bK h i1
  have l3:=bK h i3
  have hlt:=dR hi
  have hadd:=bU i (by omega)
  have x1:=EC h hi
  have s1:=Ro (ex:=true) (c:=fS rs data) (g:=fun _=>false) h hi
  rw [aG]
  simp only [KP,↓reduceIte,reduceEqDiff,reduceLT,reduceCtorEq,Ji h,h.GY,h.aS,h.bE,h.uY,g0,g5,g6,la,hlt,e1,l1,c3,c4,J_,Int.toNat_natCast,Int.le_refl,B6,x1,s1]
  generalize hc:fS rs data = c at *
  have hmem:∀ x ∈ rs,x.outs.length <= 4294967296:=fun x hx=>by have:=(hs.all x hx).outs; omega
  refine aQ (fun j F Y=>Y = oP true n (i + 1) (y_ c i fun k=>(r.ins.take j).any fun f=>decide (fA rs f = some k)) /\ F.get 0 = a' /\ F.get 1 = .bool data /\ F.get 5 = .sl 0 0 n none /\ F.get 6 = .int .i64 (i:Int) /\ F.get 32 = p1 /\ F.get 33 = .int .i64 (r.ins.length:Int) /\ F.get 34 = .int .i64 (j:Int)) r.ins.length ?_ ?_ r.ins.length 0 _ _ (by omega) ⟨by simp,(by simp +decide only [GS,g0,g1,g5,g6,and_self])⟩
  ·rintro j F Y hj ⟨rfl,g0,g1,g5,g6,g32,g33,g34⟩ next2
   obtain ⟨f,hf⟩:∃ y,r.ins[j]? = some y:=⟨_,List.getElem?_eq_getElem hj⟩
   obtain ⟨g,e2⟩:=fJ h i1 hf
   have hlt2:=dR hj
   have hadd2:=bU j (by omega)
   generalize hC:(y_ c i fun k=>(r.ins.take j).any fun f=>decide (fA rs f = some k)) = C
   have km:=Jo (Z:=oP true n (i + 1) C) h (s:=f) (ia.ls _ 37) hmem (by omega)
   rw [aG]
   cases hm:fA rs f with
   | none=>
    simp only [KP,↓reduceIte,reduceEqDiff,reduceLT,reduceCtorEq,Int.reduceLE,reduceNeg,qZ h,g0,g32,g33,g34,hlt2,e2,km,hm,mO,hadd2]
    refine next2 _ _ ⟨?_,(by simp +decide only [GS,g0,g1,g5,g6,g32,g33,and_self])⟩
    rw [<- hC]
    refine congrArg _ (congrArg _ (funext fun k=>?_))
    rw [oN hf,hm]; simp
   | some k=>
    have hk:=BL hm
    rw [hN] at hk
    have c0:decide ((0:Int) <= (k:Int)) = true:=decide_eq_true (by omega)
    have x2:=Ew (ex:=true) (c:=C) h (show i < i + 1 by omega) (n:=n)
    have x3:=BX h (j:=i) hk
    have x4:=Hj (ex:=true) (c:=C) (b:=true) h (show i < i + 1 by omega) hk
    simp only [KP,↓reduceIte,reduceEqDiff,reduceLT,reduceCtorEq,qZ h,g0,g5,g6,g32,g33,g34,hlt2,e2,km,hm,eS,x1,x2,x3,x4,hadd2]
    refine next2 _ _ ⟨?_,(by simp +decide only [GS,g0,g1,g5,g6,g32,g33,and_self])⟩
    rw [<- hC,Gm]
    refine congrArg _ (congrArg _ (funext fun y=>?_))
    rw [oN hf,hm]
    by_cases hy:y = k
    ·subst hy; simp
    ·rw [if_neg hy,decide_eq_false (fun e=>hy (Option.some.inj e).symm),Bool.or_false]
  ·rintro F Y ⟨rfl,g0,g1,g5,g6,g32,g33,g34⟩
   have hlt2:=dS (Nat.lt_irrefl r.ins.length)
   rw [take_of_length_le (Nat.le_refl _)]
   rw [aG]
   simp only [KP,↓reduceIte,reduceEqDiff,reduceLT,reduceCtorEq,Ji h,h.aS,h.bE,g0,g6,g33,g34,hlt2,e1,l3]
   refine aQ (fun j F Y=>Y = oP true n (i + 1) (y_ c i fun k=>(r.ins.any fun f=>decide (fA rs f = some k)) || (!data && (r.after.take j).any fun m=>decide (fF rs m = some k))) /\ F.get 0 = a' /\ F.get 1 = .bool data /\ F.get 5 = .sl 0 0 n none /\ F.get 6 = .int .i64 (i:Int) /\ F.get 54 = p3 /\ F.get 55 = .int .i64 (r.after.length:Int) /\ F.get 56 = .int .i64 (j:Int)) r.after.length ?_ ?_ r.after.length 0 _ _ (by omega) ⟨by simp,(by simp +decide only [GS,g0,g1,g5,g6,and_self])⟩
   ·rintro j F Y hj ⟨rfl,g0,g1,g5,g6,g32,g33,g34⟩ next2
    obtain ⟨f,hf⟩:∃ y,r.after[j]? = some y:=⟨_,List.getElem?_eq_getElem hj⟩
    obtain ⟨g,e2⟩:=fJ h i3 hf
    have hlt2:=dR hj
    have hadd2:=bU j (by omega)
    generalize hC:(y_ c i fun k=>(r.ins.any fun f=>decide (fA rs f = some k)) || (!data && (r.after.take j).any fun m=>decide (fF rs m = some k))) = C
    have km:=Sl (Z:=oP true n (i + 1) C) h (s:=f) (ia.ls _ 37) (by omega)
    rw [aG]
    cases hm:fF rs f with
    | none=>
     simp only [KP,↓reduceIte,reduceEqDiff,reduceLT,reduceCtorEq,Int.reduceLE,reduceNeg,qZ h,g0,g32,g33,g34,hlt2,e2,km,hm,mO,hadd2]
     refine next2 _ _ ⟨?_,(by simp +decide only [GS,g0,g1,g5,g6,g32,g33,and_self])⟩
     rw [<- hC]
     refine congrArg _ (congrArg _ (funext fun k=>?_))
     rw [oN hf,hm]; simp
    | some k=>
     have hk:=Dd hm
     rw [hN] at hk
     have c0:decide ((0:Int) <= (k:Int)) = true:=decide_eq_true (by omega)
     cases data with
     | true=>
      simp only [KP,↓reduceIte,reduceEqDiff,reduceLT,reduceCtorEq,qZ h,g0,g1,g32,g33,g34,hlt2,e2,km,hm,eS,hadd2]
      refine next2 _ _ ⟨?_,(by simp +decide only [GS,g0,g1,g5,g6,g32,g33,and_self])⟩
      rw [<- hC]
      refine congrArg _ (congrArg _ (funext fun k=>?_))
      simp
     | false=>
      have x2:=Ew (ex:=true) (c:=C) h (show i < i + 1 by omega) (n:=n)
      have x3:=BX h (j:=i) hk
      have x4:=Hj (ex:=true) (c:=C) (b:=true) h (show i < i + 1 by omega) hk
      simp only [KP,↓reduceIte,reduceEqDiff,reduceLT,reduceCtorEq,qZ h,g0,g1,g5,g6,g32,g33,g34,hlt2,e2,km,hm,eS,x1,x2,x3,x4,hadd2]
      refine next2 _ _ ⟨?_,(by simp +decide only [GS,g0,g1,g5,g6,g32,g33,and_self])⟩
      rw [<- hC,Gm]
      refine congrArg _ (congrArg _ (funext fun y=>?_))
      rw [oN hf,hm]
      by_cases hy:y = k
      ·subst hy; simp
      ·rw [if_neg hy,decide_eq_false (fun e=>hy (Option.some.inj e).symm),Bool.or_false]
   ·rintro F Y ⟨rfl,g0,g1,g5,g6,g32,g33,g34⟩
    have hlt2:=dS (Nat.lt_irrefl r.after.length)
    rw [take_of_length_le (Nat.le_refl _)]
    rw [aG]
    simp only [KP,↓reduceIte,reduceEqDiff,reduceLT,g6,g33,g34,hlt2,hadd]
    refine next _ _ ⟨Gi fun j hj=>?_,(by simp +decide only [GS,g0,g1,g5,and_self])⟩
    unfold y_
    by_cases hji:j = i
    ·subst hji
     rw [if_pos rfl,<- hc]
     funext k
     unfold fS wZ
     rw [hr]
    ·rw [if_neg hji]
 ·rintro F Y ⟨rfl,g0,g1,g5,g6⟩
  have hlt:=dS (Nat.lt_irrefl n)
  rw [aG]
  obtain ⟨v,e1,hv⟩:=Fh (ex:=true) (n:=n) (c:=fS rs data) h
  simp only [KP,↓reduceIte,reduceEqDiff,reduceLT,reduceCtorEq,g0,g5,g6,la,hlt,e1]
  exact hv
end
end
section
section
variable {E:Env} {Z:Sg} {K:V -> Sg -> Prop}
theorem Il {rs:List (List V)} {n:Nat} {g:Nat -> Bool} (h:eN Cu.P rs ((List.range n).map g)):rs.flatten = kX n g:=by
 have:∀ {rs:List (List V)} {l:List Bool},eN Cu.P rs l -> rs.flatten = l.map V.bool:=by
  intro rs l h
  induction h with
  | nil=>rfl
  | cons p _ ih=>rw [flatten_cons,ih,show _ = [V.bool _] from p]; rfl
 rw [this h,map_map]; rfl
theorem QC (h:bM E) {Y:Sg} {v:V} {n:Nat} {g:Nat -> Bool} (hn:0 < n) (hn2:n <= 64) (iv:IS Cu v ((List.range n).map g)):Ax.append E Y #[38,38] .aC v = some (.sl Y.length 0 n none,Y ++ [.cells 4 (kX n g) false]):=by
 obtain ⟨rs,e,ha⟩:=qD iv Y
 have hn0:¬ n = 0:=by omega
 have e:elems Y 1 v = some (rs.flatten,n):=by rw [length_map,length_range] at e; exact e
 have hr:nV n 1 = true:=yI (b:=64) (by decide) hn2
 unfold Ax.append
 simp only [show (#[38,38]:Array Nat)[0]? = some 38 from rfl,h.uY,h.GY,FF h,e,hn0,hr,if_true,if_false,Bool.not_true,Bool.or_self,Bool.false_eq_true,Il ha,Nat.reduceBEq]
def uS (m:Nat -> Nat -> Bool) (k i j:Nat):Nat -> Nat -> Bool:=fun x y=>if x < i \/ (x = i /\ y < j) then wk m (k + 1) x y else wk m k x y
theorem SL {m:Nat -> Nat -> Bool} {k i j:Nat}:uS m k i j i k = wk m k i k:=by
 unfold uS; split
 ·exact Lt k i
 ·rfl
theorem SK {m:Nat -> Nat -> Bool} {k i j y:Nat}:uS m k i j k y = wk m k k y:=by
 unfold uS; split
 ·exact Ls k y
 ·rfl
theorem SO {m:Nat -> Nat -> Bool} {k i j:Nat}:uS m k i j i j = wk m k i j:=by
 unfold uS; rw [if_neg (by omega)]
theorem Qj {m:Nat -> Nat -> Bool} {k i j:Nat} {b:Bool} (hb:b = wk m (k + 1) i j):Gl (uS m k i j) i j b = uS m k i (j + 1):=by
 funext x y
 unfold Gl uS
 by_cases h1:x = i
 ·subst h1
  by_cases h2:y = j
  ·subst h2
   rw [if_pos ⟨rfl,rfl⟩,if_pos (by omega),hb]
  ·rw [if_neg (by omega)]
   by_cases h3:y < j
   ·rw [if_pos (by omega),if_pos (by omega)]
   ·rw [if_neg (by omega),if_neg (by omega)]
 ·rw [if_neg (by omega)]
  by_cases h3:x < i
  ·rw [if_pos (by omega),if_pos (by omega)]
  ·rw [if_neg (by omega),if_neg (by omega)]
theorem tW {ex:Bool} {n i:Nat} {c c':Nat -> Nat -> Bool} (h:∀ j,j < i -> ∀ y,y < n -> c j y = c' j y):oP ex n i c = oP ex n i c':=by
 unfold oP
 refine congrArg _ (map_congr_left fun j hj=>?_)
 refine congrArg (fun l=>O.cells 4 l ex) (map_congr_left fun y hy=>?_)
 rw [h j (mem_range.1 hj) y (mem_range.1 hy)]
theorem NR (h:bM E) {a:V} {n:Nat} {m:Nat -> Nat -> Bool} (hn:n <= 64) (ia:IS uG a (HF n m)):aB E 107 [a] Z fun v σ'=>σ' = Z /\ jW uG v (HF n (wk m n)):=by
 rw [aH h.Wn h.T5 h.Xb h.Vv (args':=[a]) (by simp only [aX,nT ia Z]),bD (by kernel_rfl)]
 have la:=MW h ia
 rw [O4] at la
 have c2:decide ((n:Int) * ((24:Nat):Int) <= 1099511627776) = true:=decide_eq_true (by omega)
 have c3:decide ((n:Int) <= 1099511627776) = true:=decide_eq_true (by omega)
 have hinit:([O.cells 38 (qU n 0) true]:Sg) = oP false n 0 m:=rfl
 have d16:=h.Qf
 simp only [aA,Tryz.f107,cutAt,Option.getD_some] at d16
 simp only [aA,Tryz.f107,KP,↓reduceIte,reduceLT,reduceCtorEq,h.LB,h.uY,la,c2,c3,De,Int.toNat_natCast,Int.le_refl,hinit]
 refine aQ (fun i F Y=>Y = oP false n i m /\ F.get 0 = a /\ F.get 3 = .int .i64 (n:Int) /\ F.get 4 = .sl 0 0 n none /\ F.get 5 = .int .i64 (i:Int)) n ?_ ?_ n 0 _ _ (by omega) ⟨rfl,(by simp +decide only [GS,and_self])⟩
 ·rintro i F Y hi ⟨rfl,g0,g3,g4,g5⟩ next
  obtain ⟨g,r,e1,rv,hr,irv⟩:=JL h ia (I_ hi)
  have e1:indexAddr E 32 a (.int .i64 (i:Int)) = some (.dB g [rv]):=by rw [e1,hr]
  have hlt:=dR hi
  have hadd:=bU i (by omega)
  have x1:=EC h hi
  have ha:=QC (Y:=oP false n i m) h (by omega) hn irv
  rw [B6] at ha
  have s1:=LK (ex:=false) (c:=m) h hi
  rw [aG]
  simp only [KP,↓reduceIte,reduceEqDiff,reduceLT,reduceCtorEq,lX h,g0,g3,g4,g5,hlt,e1,x1,ha,s1,hadd]
  exact next _ _ ⟨rfl,(by simp +decide only [GS,g0,g3,g4,and_self])⟩
 ·rintro F Y ⟨rfl,g0,g3,g4,g5⟩
  have hlt:=dS (Nat.lt_irrefl n)
  rw [aG]
  simp only [KP,↓reduceIte,reduceEqDiff,reduceLT,g3,g5,hlt]
  refine aQ (fun k F Y=>Y = oP false n n (wk m k) /\ F.get 3 = .int .i64 (n:Int) /\ F.get 4 = .sl 0 0 n none /\ F.get 6 = .int .i64 (k:Int)) n ?_ ?_ n 0 _ _ (by omega) ⟨rfl,(by simp +decide only [GS,g3,g4,and_self])⟩
  ·rintro k F Y hk ⟨rfl,g3,g4,g6⟩ next
   have hlt:=dR hk
   have haddk:=bU k (by omega)
   rw [aG]
   simp only [KP,↓reduceIte,reduceEqDiff,reduceLT,g3,g6,hlt]
   refine aQ (fun i F Y=>Y = oP false n n (uS m k i 0) /\ F.get 3 = .int .i64 (n:Int) /\ F.get 4 = .sl 0 0 n none /\ F.get 6 = .int .i64 (k:Int) /\ F.get 7 = .int .i64 (i:Int)) n ?_ ?_ n 0 _ _ (by omega) ⟨tW fun x hx y hy=>by unfold uS; rw [if_neg (by omega)],(by simp +decide only [GS,g3,g4,g6,and_self])⟩
   ·rintro i F Y hi ⟨rfl,g3,g4,g6,g7⟩ next2
    have hlt:=dR hi
    have haddi:=bU i (by omega)
    rw [aG]
    simp only [KP,↓reduceIte,reduceEqDiff,reduceLT,g3,g7,hlt]
    refine aQ (fun j F Y=>Y = oP false n n (uS m k i j) /\ F.get 3 = .int .i64 (n:Int) /\ F.get 4 = .sl 0 0 n none /\ F.get 6 = .int .i64 (k:Int) /\ F.get 7 = .int .i64 (i:Int) /\ F.get 8 = .int .i64 (j:Int)) n ?_ ?_ n 0 _ _ (by omega) ⟨rfl,(by simp +decide only [GS,g3,g4,g6,g7,and_self])⟩
    ·rintro j F Y hj ⟨rfl,g3,g4,g6,g7,g8⟩ next3
     have hlt:=dR hj
     have haddj:=bU j (by omega)
     have v1:=SL (m:=m) (k:=k) (i:=i) (j:=j)
     have v2:=SK (m:=m) (k:=k) (i:=i) (j:=j) (y:=j)
     have v3:=SO (m:=m) (k:=k) (i:=i) (j:=j)
     have v4:=fun b hb=>Qj (m:=m) (k:=k) (i:=i) (j:=j) (b:=b) hb
     have v5:wk m k i k = false -> oP false n n (uS m k i j) = oP false n n (uS m k (i + 1) 0):=fun hb=>tW fun x hx y hy=>by
      unfold uS
      by_cases h1:x = i
      ·subst h1
       rw [if_pos (show x < x + 1 \/ x = x + 1 /\ y < 0 by omega)]
       split
       ·rfl
       ·rw [wk,hb]; simp
      ·by_cases h3:x < i
       ·rw [if_pos (by omega),if_pos (by omega)]
       ·rw [if_neg (by omega),if_neg (by omega)]
     generalize hC:uS m k i j = C at *
     have y1:=EC h hi
     have y2:=Ew (ex:=false) (c:=C) h hi (n:=n)
     have y3:=BX h (j:=i) hk
     have y4:=HK (ex:=false) (c:=C) h hi hk
     have y5:=BX h (j:=i) hj
     have y6:=HK (ex:=false) (c:=C) h hi hj
     have z1:=EC h hk
     have z2:=Ew (ex:=false) (c:=C) h hk (n:=n)
     have z3:=BX h (j:=k) hj
     have z4:=HK (ex:=false) (c:=C) h hk hj
     have st1:=fun b=>Hj (ex:=false) (c:=C) (b:=b) h hi hj
     rw [v1] at y4
     rw [v3] at y6
     rw [v2] at z4
     rw [aG]
     cases w1:wk m k i k with
     | false=>
      simp only [KP,↓reduceIte,reduceEqDiff,reduceLT,g3,g4,g6,g7,g8,hlt,y1,y2,y3,y4,w1,haddi]
      rw [v5 w1]
      exact next2 _ _ ⟨rfl,(by simp +decide only [GS,g3,g4,g6,and_self])⟩
     | true=>
      have w3:∀ b,b = (wk m k i j || wk m k k j) -> Gl C i j b = uS m k i (j + 1):=fun b hb=>v4 b (by rw [hb,wk,w1,Bool.true_and])
      cases w2:wk m k i j with
      | true=>
       simp only [KP,↓reduceIte,reduceEqDiff,reduceLT,g3,g4,g6,g7,g8,hlt,y1,y2,y3,y4,y5,y6,w1,w2,st1,haddj,bI d16,cB]
       rw [w3 true (by rw [w2]; rfl)]
       exact next3 _ _ ⟨rfl,(by simp +decide only [GS,g3,g4,g6,g7,and_self])⟩
      | false=>
       simp only [KP,↓reduceIte,reduceEqDiff,reduceLT,g3,g4,g6,g7,g8,hlt,y1,y2,y3,y4,y5,y6,z1,z2,z3,z4,w1,w2,st1,haddj,bI d16,cB]
       rw [w3 _ (by rw [w2,Bool.false_or])]
       exact next3 _ _ ⟨rfl,(by simp +decide only [GS,g3,g4,g6,g7,and_self])⟩
    ·rintro F Y ⟨rfl,g3,g4,g6,g7,g8⟩
     have hlt:=dS (Nat.lt_irrefl n)
     have v5:oP false n n (uS m k i n) = oP false n n (uS m k (i + 1) 0):=tW fun x hx y hy=>by
      unfold uS
      by_cases h3:x < i + 1
      ·rw [if_pos (by omega),if_pos (by omega)]
      ·rw [if_neg (by omega),if_neg (by omega)]
     rw [aG]
     simp only [KP,↓reduceIte,reduceEqDiff,reduceLT,g3,g7,g8,hlt,haddi]
     rw [v5]
     exact next2 _ _ ⟨rfl,(by simp +decide only [GS,g3,g4,g6,and_self])⟩
   ·rintro F Y ⟨rfl,g3,g4,g6,g7⟩
    have hlt:=dS (Nat.lt_irrefl n)
    have v5:oP false n n (uS m k n 0) = oP false n n (wk m (k + 1)):=tW fun x hx y hy=>by
     unfold uS
     rw [if_pos (by omega)]
    rw [aG]
    simp only [KP,↓reduceIte,reduceEqDiff,reduceLT,g3,g6,g7,hlt,haddk]
    rw [v5]
    exact next _ _ ⟨rfl,(by simp +decide only [GS,g3,g4,and_self])⟩
  ·rintro F Y ⟨rfl,g3,g4,g6⟩
   have hlt:=dS (Nat.lt_irrefl n)
   obtain ⟨v,e1,hv⟩:=Fh (ex:=false) (n:=n) (c:=wk m n) h
   rw [aG]
   simp only [KP,↓reduceIte,reduceEqDiff,reduceLT,g3,g4,g6,hlt,e1]
   exact hv
end
end
section
section
variable {E:Env} {Z:Sg} {K:V -> Sg -> Prop}
theorem BJ (h:bM E) {v:V} {n:Nat} {c:Nat -> Nat -> Bool} (iv:IS uG v (HF n c)) {i k:Nat} (hi:i < n) (hk:k < n):∃ g rv g2,indexAddr E 32 v (.int .i64 (i:Int)) = some (.dB g [rv]) /\ indexAddr E 38 rv (.int .i64 (k:Int)) = some (.dB g2 [.bool (c i k)]):=by
 obtain ⟨g,r,e1,rv,hr,irv⟩:=JL h iv (I_ hi)
 obtain ⟨g2,r2,e2,hr2⟩:=NZ h irv (OO hk)
 exact ⟨g,rv,g2,by rw [e1,hr],by rw [e2,show r2 = [.bool (c i k)] from hr2]⟩
theorem yV (h:bM E) {n i:Nat} (hi:i < n):indexAddr E 56 (.sl 0 0 n none) (.int .i64 (i:Int)) = some (.ref 0 i):=by
 have hneg:¬ ((i:Int) < 0):=by omega
 unfold indexAddr
 simp only [hneg,if_false,h.Rl,h.pM,Int.toNat_natCast,hi,if_true,Nat.zero_add,Nat.mul_one]
theorem Ex (h:bM E) {Y:Sg} {bO:List Int} {i:Nat} (hb:Y[0]? = some (O.cells 3 (bO.map (V.int .i64)) true)) (hi:i < bO.length):loadAt E Y 3 (.ref 0 i) = some (.int .i64 (eB bO i)):=by
 unfold loadAt
 simp only [h.pM,hb,Ax.isAgg,Bool.false_eq_true,if_false,List.getElem?_map,List.getElem?_eq_getElem hi,Option.map_some]
 unfold eB
 rw [List.getElem?_eq_getElem hi]; rfl
theorem QK (x:Int) (h1:-9223372036854775808 <= x) (h2:x <= 9223372036854775807):wr .i64 x = x:=by
 rw [yB,if_pos]
 have h3:lo .i64 = -9223372036854775808:=rfl
 have h4:hi .i64 = 9223372036854775807:=rfl
 rw [h3,h4,Bool.and_eq_true,decide_eq_true_eq,decide_eq_true_eq]
 exact ⟨h1,h2⟩
structure XI (rs:List aF) (n first:Nat) (m:Nat -> Nat -> Bool) (bO:List Int):Prop where
 cnt:rs.length = n
 le:n <= 64
 bO:lS m n first (n + 1) 0 0 bO
theorem OT {Y:Sg} {w:V} {l:List aM} {bO:List Int} (hb:Y[0]? = some (O.cells 3 (bO.map (V.int .i64)) true)) (ow:bH aJ 9 Y w l):aT w ≠ some 0:=by
 refine j_ hb (by decide) ow
theorem Nq (h:bM E) {a vm:V} {rs:List aF} {n first:Nat} {m:Nat -> Nat -> Bool} {bO:List Int} (t:XI rs n first m bO) (ia:IS cV a rs) (im:IS uG vm (HF n m)) {Y:Sg} {w:V} {l:List aM} {at_ left:Nat} (b0:Y[0]? = some (O.cells 3 (bO.map (V.int .i64)) true)) (ow:bH aJ 9 Y w l) (hl:l ≠ [] /\ l.length + left <= 100) (hat:at_ < n) (hle:0 < left -> ∃ k,k < n /\ m at_ k = true /\ eB bO k = (left:Int))
  (F:FT) (g0:F.get 0 = a) (g3:F.get 3 = vm) (g7:F.get 7 = .sl 0 0 n none) (g14:F.get 14 = w) (g15:F.get 15 = .int .i64 (at_:Int)) (g16:F.get 16 = .int .i64 (left:Int))
  (hk:∀ Y w l,l ≠ [] -> bH aJ 9 Y w l -> K w Y):R E (.loop (cutAt [1,1,1,1,1,1,1,1,1,1,1,1,1,1,0,1,2,2] (aA Tryz.f61).code)) [.blk 12,.k (cutAt [1,1,1,1,1,1,1,1,1,1,1,1,1,1,1] (aA Tryz.f61).code)] ⟨216,F⟩ Y (lT E (aA Tryz.f61).results K):=by
 have tn:=t.cnt
 have tl:=t.le
 have tfl:=t.bO.len
 have la:=cA h ia
 rw [tn] at la
 have d44:=h.Sx
 simp only [aA,Tryz.f61,cutAt,Option.getD_some] at d44
 refine aQ (fun i F Y=>Y[0]? = some (O.cells 3 (bO.map (V.int .i64)) true) /\ F.get 0 = a /\ F.get 3 = vm /\ F.get 7 = .sl 0 0 n none /\ F.get 16 = .int .i64 ((left - i:Nat):Int) /\ (∃ w l,F.get 14 = w /\ bH aJ 9 Y w l /\ l ≠ [] /\ l.length + (left - i) <= 100) /\ ∃ q:Nat,F.get 15 = .int .i64 (q:Int) /\ q < n /\ (0 < left - i -> ∃ k,k < n /\ m q k = true /\ eB bO k = ((left - i:Nat):Int))) left ?_ ?_ left 0 _ _ (by omega) ⟨b0,g0,g3,g7,g16,⟨w,l,g14,ow,hl⟩,at_,g15,hat,hle⟩
 ·rintro i F Y hi ⟨b0,g0,g3,g7,g16,⟨w,l,g14,ow,hl1,hl2⟩,q,g15,hq,hex⟩ next
  obtain ⟨k0,hk0,hm0,hf0⟩:=hex (by omega)
  generalize hL:left - i = L at *
  have hgt:decide ((0:Int) < (L:Int)) = true:=decide_eq_true (by omega)
  have hdn:=CZ L (by omega) (by omega)
  rw [aG]
  simp only [aA,Tryz.f61,KP,↓reduceIte,reduceLT,reduceNeg,cutAt,g16,hgt]
  refine aQ (fun k F τ'=>τ' = Y /\ F.get 0 = a /\ F.get 3 = vm /\ F.get 7 = .sl 0 0 n none /\ F.get 14 = w /\ F.get 15 = .int .i64 (q:Int) /\ F.get 16 = .int .i64 (L:Int) /\ F.get 18 = .int .i64 (k:Int) /\ ∃ o:Option Nat,F.get 17 = .int .i64 (idx o) /\ ((o = none /\ ∀ j,j < k -> ¬ (m q j = true /\ eB bO j = (L:Int))) \/ ∃ p,o = some p /\ p < n /\ m q p = true /\ eB bO p = (L:Int))) n ?_ ?_ n 0 _ _ (by omega) ⟨rfl,(uU (by simp +decide only [GS,g0,g3,g7,g14,g15,g16,and_self]) ⟨none,(by simp +decide only [GS,mO]),.inl ⟨rfl,fun j hj=>by omega⟩⟩)⟩
  ·rintro k F τ' hk ⟨rfl,g0,g3,g7,g14,g15,g16,g18,o,g17,ho⟩ next2
   have hlt:=dR hk
   have hadd:=bU k (by omega)
   obtain ⟨u1,rv,u2,e1,e2⟩:=BJ h im hq hk
   have e3:=yV h hk
   have e4:=Ex h b0 (i:=k) (by omega)
   obtain ⟨rk,hrk⟩:∃ y,rs[k]? = some y:=⟨_,List.getElem?_eq_getElem (by omega)⟩
   obtain ⟨v1,p1,p2,p3,p4,e5,-⟩:=eM h ia hrk
   rw [aG]
   cases c1:m q k with
   | false=>
    simp only [KP,↓reduceIte,reduceEqDiff,reduceLT,reduceCtorEq,reduceNeg,sX h,lX h,g0,g3,g15,g18,la,hlt,e1,e2,c1,hadd,bI d44,cB]
    refine next2 _ _ ⟨rfl,(uU (by simp +decide only [GS,g0,g3,g7,g14,g15,g16,and_self]) ⟨o,(by simp +decide only [GS,g17]),ho.imp (fun ⟨h1,h2⟩=>⟨h1,fun j hj=>?_⟩) id⟩)⟩
    rcases Nat.lt_or_ge j k with g | g
    ·exact h2 j g
    ·obtain rfl:j = k:=by omega
     rw [c1]; simp
   | true=>
    by_cases c2:eB bO k = (L:Int)
    case neg=>
     have d2:decide (eB bO k = (L:Int)) = false:=decide_eq_false c2
     simp only [KP,↓reduceIte,reduceEqDiff,reduceLT,reduceCtorEq,reduceNeg,sX h,lX h,g0,g3,g7,g15,g16,g18,la,hlt,e1,e2,e3,e4,c1,d2,hadd,bI d44,cB]
     refine next2 _ _ ⟨rfl,(uU (by simp +decide only [GS,g0,g3,g7,g14,g15,g16,and_self]) ⟨o,(by simp +decide only [GS,g17]),ho.imp (fun ⟨h1,h2⟩=>⟨h1,fun j hj=>?_⟩) id⟩)⟩
     rcases Nat.lt_or_ge j k with g | g
     ·exact h2 j g
     ·obtain rfl:j = k:=by omega
      exact fun e=>c2 e.2
    have d2:decide (eB bO k = (L:Int)) = true:=decide_eq_true c2
    rcases ho with ⟨rfl,-⟩ | ⟨p,rfl,hp,hmp,hfp⟩
    ·simp only [KP,↓reduceIte,reduceEqDiff,reduceLT,reduceCtorEq,Int.reduceLT,reduceNeg,sX h,lX h,g0,g3,g7,g15,g16,g17,g18,la,hlt,e1,e2,e3,e4,c1,d2,hadd,mO,bI d44,cB]
     exact next2 _ _ ⟨rfl,(uU (by simp +decide only [GS,g0,g3,g7,g14,g15,g16,and_self]) ⟨some k,(by simp +decide only [GS,eS]),.inr ⟨k,rfl,hk,c1,c2⟩⟩)⟩
    ·have c0:decide ((p:Int) < 0) = false:=decide_eq_false (by omega)
     obtain ⟨rp,hrp⟩:∃ y,rs[p]? = some y:=⟨_,List.getElem?_eq_getElem (by omega)⟩
     obtain ⟨v2,q1,q2,q3,q4,e6,-⟩:=eM h ia hrp
     cases c3:Ax.slt rk.name rp.name with
     | true=>
      simp only [KP,↓reduceIte,reduceEqDiff,reduceLT,reduceCtorEq,reduceNeg,sX h,qZ h,lX h,h.cK,h.bE,g0,g3,g7,g15,g16,g17,g18,la,hlt,e1,e2,e3,e4,e5,e6,c1,d2,c0,c3,hadd,eS,bI d44,cB]
      exact next2 _ _ ⟨rfl,(uU (by simp +decide only [GS,g0,g3,g7,g14,g15,g16,and_self]) ⟨some k,(by simp +decide only [GS,eS]),.inr ⟨k,rfl,hk,c1,c2⟩⟩)⟩
     | false=>
      simp only [KP,↓reduceIte,reduceEqDiff,reduceLT,reduceCtorEq,reduceNeg,sX h,qZ h,lX h,h.cK,h.bE,g0,g3,g7,g15,g16,g17,g18,la,hlt,e1,e2,e3,e4,e5,e6,c1,d2,c0,c3,hadd,eS,bI d44,cB]
      exact next2 _ _ ⟨rfl,(uU (by simp +decide only [GS,g0,g3,g7,g14,g15,g16,and_self]) ⟨some p,(by simp +decide only [GS,g17]),.inr ⟨p,rfl,hp,hmp,hfp⟩⟩)⟩
  ·rintro F τ' ⟨rfl,g0,g3,g7,g14,g15,g16,g18,o,g17,ho⟩
   have hlt:=dS (Nat.lt_irrefl n)
   rcases ho with ⟨rfl,hno⟩ | ⟨p,rfl,hp,hmp,hfp⟩
   ·exact absurd ⟨hm0,hf0⟩ (hno k0 hk0)
   ·obtain ⟨rp,hrp⟩:∃ y,rs[p]? = some y:=⟨_,List.getElem?_eq_getElem (by omega)⟩
    obtain ⟨v2,q1,q2,q3,q4,e6,-⟩:=eM h ia hrp
    obtain ⟨w2,τ2,ha2,o2,k2,n2⟩:=ET (s:=rp.name) (ex:=true) h ow (by omega)
    rw [aG]
    simp only [KP,↓reduceIte,reduceEqDiff,reduceLT,reduceLeDiff,reduceMul,reduceCtorEq,reduceNeg,qZ h,h.cK,h.aS,h.bE,g0,g14,g16,g17,g18,la,hlt,e6,eS,iM,ha2,hdn]
    clear hex
    have hLi:L - 1 = left - (i + 1):=by rw [<- hL,Nat.sub_sub]
    have b2:=k2 0 _ (aL b0) (OT b0 ow)
    refine next _ _ ⟨b2,(iZ (by simp +decide only [GS,g0,g3,g7,and_self]) ⟨?_,⟨w2,_,(by simp +decide only [GS]),o2,by simp,?_⟩,p,(by simp +decide only [GS]),hp,fun hpos=>?_⟩)⟩
    ·rw [hLi]; exact (by simp +decide only [GS])
    ·simp only [length_append,length_cons,length_nil]; omega
    ·obtain ⟨e,he⟩:∃ e:Nat,L = e + 1:=⟨L - 1,by omega⟩
     obtain ⟨k',h1,h2,h3⟩:=t.bO.down p e hp (by rw [hfp,he]; omega)
     exact ⟨k',h1,h2,by rw [h3]; omega⟩
 ·rintro F Y ⟨b0,g0,g3,g7,g16,⟨w,l,g14,ow,hl1,hl2⟩,-⟩
  rw [Nat.sub_self] at g16
  rw [aG]
  simp only [aA,Tryz.f61,KP,↓reduceIte,reduceEqDiff,reduceLT,Int.reduceLT,reduceNeg,cutAt,g16,g14]
  exact hk _ _ _ hl1 ow
end
end
section
section
variable {E:Env} {Z:Sg} {K:V -> Sg -> Prop}
theorem Ns (h:bM E) {a vm:V} {rs:List aF} {n first:Nat} {m:Nat -> Nat -> Bool} {bO:List Int} (t:XI rs n first m bO) (ia:IS cV a rs) (im:IS uG vm (HF n m)) (hf:first < n) (hex:∃ k,k < n /\ m first k = true /\ 0 <= eB bO k)
  (F:FT) (g0:F.get 0 = a) (g3:F.get 3 = vm) (g5:F.get 5 = .int .i64 (first:Int)) (g7:F.get 7 = .sl 0 0 n none)
  (hk:∀ Y w l,l ≠ [] -> bH aJ 9 Y w l -> K w Y):R E (cutAt [1,1,1,1,1,1,1,1,1,1] (aA Tryz.f61).code) [] ⟨216,F⟩ [O.cells 3 (bO.map (V.int .i64)) true] (lT E (aA Tryz.f61).results K):=by
 have tn:=t.cnt
 have tl:=t.le
 have tfl:=t.bO.len
 have la:=cA h ia
 rw [tn] at la
 have b0:([O.cells 3 (bO.map (V.int .i64)) true]:Sg)[0]? = some (O.cells 3 (bO.map (V.int .i64)) true):=rfl
 have key:=fun Y w l at_ left b0 ow hl hat hle F g0 g3 g7 g14 g15 g16=>Nq (K:=K) h t ia im (Y:=Y) (w:=w) (l:=l) (at_:=at_) (left:=left) b0 ow hl hat hle F g0 g3 g7 g14 g15 g16 hk
 rw [show cutAt [1,1,1,1,1,1,1,1,1,1] (aA Tryz.f61).code = .seq (cutAt [1,1,1,1,1,1,1,1,1,1,0] (aA Tryz.f61).code) (.seq (.seq (cutAt [1,1,1,1,1,1,1,1,1,1,1,0,0] (aA Tryz.f61).code) (.block 10 (.loop (cutAt [1,1,1,1,1,1,1,1,1,1,1,0,1,2,2] (aA Tryz.f61).code)))) (.seq (cutAt [1,1,1,1,1,1,1,1,1,1,1,1,0] (aA Tryz.f61).code) (.seq (cutAt [1,1,1,1,1,1,1,1,1,1,1,1,1,0] (aA Tryz.f61).code) (.seq (.seq (cutAt [1,1,1,1,1,1,1,1,1,1,1,1,1,1,0,0] (aA Tryz.f61).code) (.block 12 (.loop (cutAt [1,1,1,1,1,1,1,1,1,1,1,1,1,1,0,1,2,2] (aA Tryz.f61).code)))) (cutAt [1,1,1,1,1,1,1,1,1,1,1,1,1,1,1] (aA Tryz.f61).code))))) from rfl]
 generalize cutAt [1,1,1,1,1,1,1,1,1,1,1,1,1,1,0,1,2,2] (aA Tryz.f61).code = D at *
 generalize cutAt [1,1,1,1,1,1,1,1,1,1,1,1,1,1,1] (aA Tryz.f61).code = C at *
 simp only [aA,Tryz.f61,KP,↓reduceIte,reduceLT,reduceNeg,cutAt]
 refine aQ (fun k F Y=>Y = [O.cells 3 (bO.map (V.int .i64)) true] /\ F.get 0 = a /\ F.get 3 = vm /\ F.get 5 = .int .i64 (first:Int) /\ F.get 7 = .sl 0 0 n none /\ F.get 13 = .int .i64 (k:Int) /\ ((F.get 12 = .int .i64 0 /\ ∀ j,j < k -> ¬ (m first j = true /\ 0 <= eB bO j)) \/ ∃ (q e:Nat),F.get 12 = .int .i64 ((e + 1:Nat):Int) /\ q < n /\ m first q = true /\ eB bO q = (e:Int))) n ?_ ?_ n 0 _ _ (by omega) ⟨rfl,(lY (by simp +decide only [GS,g0,g3,g5,g7,and_self]) (.inl ⟨(by simp +decide only [GS]),fun j hj=>by omega⟩))⟩
 ·rintro k F Y hk2 ⟨rfl,g0,g3,g5,g7,g13,ho⟩ next
  have hlt:=dR hk2
  have hadd:=bU k (by omega)
  obtain ⟨u1,rv,u2,e1,e2⟩:=BJ h im hf hk2
  have e3:=yV h hk2
  have e4:=Ex h b0 (i:=k) (by omega)
  rw [aG]
  have hno:¬ (m first k = true /\ 0 <= eB bO k) -> ((F.get 12 = .int .i64 0 /\ ∀ j,j < k + 1 -> ¬ (m first j = true /\ 0 <= eB bO j)) \/ ∃ (q e:Nat),F.get 12 = .int .i64 ((e + 1:Nat):Int) /\ q < n /\ m first q = true /\ eB bO q = (e:Int)):=fun hn=>ho.imp (fun ⟨h1,h2⟩=>⟨h1,fun j hj=>by
   rcases Nat.lt_or_ge j k with g | g
   ·exact h2 j g
   ·obtain rfl:j = k:=by omega
    exact hn⟩) id
  have tr:∀ {F':FT},F'.get 12 = F.get 12 -> ¬ (m first k = true /\ 0 <= eB bO k) -> ((F'.get 12 = .int .i64 0 /\ ∀ j,j < k + 1 -> ¬ (m first j = true /\ 0 <= eB bO j)) \/ ∃ (q e:Nat),F'.get 12 = .int .i64 ((e + 1:Nat):Int) /\ q < n /\ m first q = true /\ eB bO q = (e:Int)):=fun hF hn=>by rw [hF]; exact hno hn
  cases c1:m first k with
  | false=>
   simp only [KP,↓reduceIte,reduceEqDiff,reduceLT,reduceCtorEq,sX h,lX h,g0,g3,g5,g13,la,hlt,e1,e2,c1,hadd]
   exact next _ _ ⟨rfl,(lY (by simp +decide only [GS,g0,g3,g5,g7,and_self]) (tr (by simp +decide only [GS]) (fun e=>by rw [c1] at e; cases e.1)))⟩
  | true=>
   by_cases c2:0 <= eB bO k
   case neg=>
    have d2:decide (0 <= eB bO k) = false:=decide_eq_false c2
    simp only [KP,↓reduceIte,reduceEqDiff,reduceLT,reduceCtorEq,sX h,lX h,g0,g3,g5,g7,g13,la,hlt,e1,e2,e3,e4,c1,d2,hadd]
    exact next _ _ ⟨rfl,(lY (by simp +decide only [GS,g0,g3,g5,g7,and_self]) (tr (by simp +decide only [GS]) (fun e=>c2 e.2)))⟩
   obtain ⟨e,he⟩:=Int.eq_ofNat_of_zero_le c2
   have hsm:=t.bO.small hk2
   have d2:decide ((0:Int) <= (e:Int)) = true:=decide_eq_true (by omega)
   have hw:=bU e (by omega)
   rw [he] at e4
   rcases ho with ⟨g12,-⟩ | ⟨q,e',g12,hq,hm,hfq⟩
   ·simp only [KP,↓reduceIte,reduceEqDiff,reduceLT,reduceCtorEq,sX h,lX h,g0,g3,g5,g7,g13,g12,la,hlt,e1,e2,e3,e4,c1,hw,hadd]
    exact next _ _ ⟨rfl,(lY (by simp +decide only [GS,g0,g3,g5,g7,and_self]) (.inr ⟨k,e,(by simp +decide only [GS]),hk2,c1,he⟩))⟩
   ·have d3:decide (((e' + 1:Nat):Int) = 0) = false:=decide_eq_false (by omega)
    cases c3:decide (((e + 1:Nat):Int) < ((e' + 1:Nat):Int)) with
    | true=>
     simp only [KP,↓reduceIte,reduceEqDiff,reduceLT,reduceCtorEq,sX h,lX h,g0,g3,g5,g7,g13,g12,la,hlt,e1,e2,e3,e4,c1,d3,hw,c3,hadd]
     exact next _ _ ⟨rfl,(lY (by simp +decide only [GS,g0,g3,g5,g7,and_self]) (.inr ⟨k,e,(by simp +decide only [GS]),hk2,c1,he⟩))⟩
    | false=>
     simp only [KP,↓reduceIte,reduceEqDiff,reduceLT,reduceCtorEq,sX h,lX h,g0,g3,g5,g7,g13,g12,la,hlt,e1,e2,e3,e4,c1,d3,hw,c3,hadd]
     exact next _ _ ⟨rfl,(lY (by simp +decide only [GS,g0,g3,g5,g7,and_self]) (.inr ⟨q,e',(by simp +decide only [GS,g12]),hq,hm,hfq⟩))⟩
 ·rintro F Y ⟨rfl,g0,g3,g5,g7,g13,ho⟩
  have hlt:=dS (Nat.lt_irrefl n)
  rcases ho with ⟨-,hno⟩ | ⟨q,e,g12,hq,hm,hfq⟩
  ·obtain ⟨k,h1,h2,h3⟩:=hex
   exact absurd ⟨h2,h3⟩ (hno k h1)
  ·have hsm:=t.bO.small hq
   have hw:=CZ (e + 1) (by omega) (by omega)
   obtain ⟨rf,hrf⟩:∃ y,rs[first]? = some y:=⟨_,List.getElem?_eq_getElem (by omega)⟩
   obtain ⟨v1,p1,p2,p3,p4,e5,-⟩:=eM h ia hrf
   rw [aG]
   simp only [KP,↓reduceIte,reduceEqDiff,reduceLT,reduceLeDiff,reduceMul,reduceCtorEq,qZ h,h.cK,h.aS,h.bE,g0,g5,g13,g12,la,hlt,e5,iM,hw]
   refine key [O.cells 3 (bO.map (V.int .i64)) true,.cells 9 [.str rf.name] true] (.sl 1 0 1 none) [rf.name] first e rfl (.inr ⟨1,[[.str rf.name]],true,rfl,rfl,.one rfl⟩) ⟨by simp,by simp only [length_cons,length_nil]; omega⟩ hf (fun _=>⟨q,hq,hm,hfq⟩) _ ?_ ?_ ?_ ?_ ?_ ?_
   ·exact (by simp +decide only [GS,g0])
   ·exact (by simp +decide only [GS,g3])
   ·exact (by simp +decide only [GS,g7])
   ·exact (by simp +decide only [GS])
   ·exact (by simp +decide only [GS])
   ·exact (by simp +decide only [GS,Nat.add_sub_cancel])
theorem Hl (h:bM E) {bO:List Int} {i:Nat} {d:Int} (hi:i < bO.length):storeAt E [O.cells 3 (bO.map (V.int .i64)) true] 3 (.ref 0 i) (.int .i64 d) = some [O.cells 3 ((bO.set i d).map (V.int .i64)) true]:=by
 unfold storeAt
 have h0:([O.cells 3 (bO.map (V.int .i64)) true]:Sg)[0]? = some (O.cells 3 (bO.map (V.int .i64)) true):=rfl
 simp only [h.pM,h0]
 rw [if_pos (by simp only [V.cells,V.aW,length_cons,length_nil,List.all_cons,List.all_nil,length_map,Bool.and_true,Bool.and_eq_true,decide_eq_true_eq]; exact ⟨rfl,by omega⟩)]
 refine congrArg some ?_
 show [O.cells 3 (setCells (bO.map (V.int .i64)) i [V.int .i64 d]) true] = _
 have:setCells (bO.map (V.int .i64)) i [V.int .i64 d] = (bO.set i d).map (V.int .i64):=by
  unfold setCells
  rw [List.map_set,List.set_eq_take_append_cons_drop,if_pos (by simpa using hi)]
  simp
 rw [this]
theorem Qg (h:bM E) {a vm:V} {rs:List aF} {n first:Nat} {m:Nat -> Nat -> Bool} (hn:rs.length = n) (hle:n <= 64) (ia:IS cV a rs) (im:IS uG vm (HF n m)) (hf:first < n) (hmn:∀ i j,m i j = true -> i < n /\ j < n) (hw:AxS.Way m first first) {bO:List Int} (hfar:lS m n first 1 0 0 bO)
  (F:FT) (g0:F.get 0 = a) (g3:F.get 3 = vm) (g5:F.get 5 = .int .i64 (first:Int)) (g7:F.get 7 = .sl 0 0 n none)
  (hk:∀ Y w l,l ≠ [] -> bH aJ 9 Y w l -> K w Y):R E (cutAt [1,1,1,1,1,1,1,1,1] (aA Tryz.f61).code) [] ⟨216,F⟩ [O.cells 3 (bO.map (V.int .i64)) true] (lT E (aA Tryz.f61).results K):=by
 have la:=cA h ia
 rw [hn] at la
 have key:=fun bO (hfar:lS m n first (n + 1) 0 0 bO) F g0 g3 g5 g7=>Ns (K:=K) h ⟨hn,hle,hfar⟩ ia im hf (hfar.first hmn hf hw) F g0 g3 g5 g7 hk
 rw [show cutAt [1,1,1,1,1,1,1,1,1] (aA Tryz.f61).code = .seq (cutAt [1,1,1,1,1,1,1,1,1,0] (aA Tryz.f61).code) (cutAt [1,1,1,1,1,1,1,1,1,1] (aA Tryz.f61).code) from rfl]
 generalize cutAt [1,1,1,1,1,1,1,1,1,1] (aA Tryz.f61).code = C at *
 simp only [aA,Tryz.f61,KP,↓reduceIte,reduceLT,reduceNeg,cutAt]
 refine aQ (fun d F Y=>∃ bO,Y = [O.cells 3 (bO.map (V.int .i64)) true] /\ lS m n first (d + 1) 0 0 bO /\ F.get 0 = a /\ F.get 3 = vm /\ F.get 5 = .int .i64 (first:Int) /\ F.get 7 = .sl 0 0 n none /\ F.get 9 = .int .i64 ((d + 1:Nat):Int)) n ?_ ?_ n 0 _ _ (by omega) ⟨bO,rfl,hfar,(gP (by simp +decide only [GS,g0,g3,g5,g7,and_self]) (by simp +decide only [GS]; rfl))⟩
 ·rintro d F Y hd ⟨bO,rfl,hfar,g0,g3,g5,g7,g9⟩ next
  have hle1:decide (((d + 1:Nat):Int) <= (n:Int)) = true:=decide_eq_true (by omega)
  have haddd:=bU (d + 1) (by omega)
  have hsub:=CZ (d + 1) (by omega) (by omega)
  rw [aG]
  simp only [KP,↓reduceIte,reduceEqDiff,reduceLT,reduceCtorEq,g0,g9,la,hle1]
  refine aQ (fun i F Y=>∃ bO,Y = [O.cells 3 (bO.map (V.int .i64)) true] /\ lS m n first (d + 1) i 0 bO /\ F.get 0 = a /\ F.get 3 = vm /\ F.get 5 = .int .i64 (first:Int) /\ F.get 7 = .sl 0 0 n none /\ F.get 9 = .int .i64 ((d + 1:Nat):Int) /\ F.get 10 = .int .i64 (i:Int)) n ?_ ?_ n 0 _ _ (by omega) ⟨bO,rfl,hfar,(by simp +decide only [GS,g0,g3,g5,g7,g9,and_self])⟩
  ·rintro i F Y hi ⟨bO,rfl,hfar,g0,g3,g5,g7,g9,g10⟩ next2
   have hlt:=dR hi
   have haddi:=bU i (by omega)
   rw [aG]
   simp only [KP,↓reduceIte,reduceEqDiff,reduceLT,reduceCtorEq,g0,g10,la,hlt]
   refine aQ (fun k F Y=>∃ bO,Y = [O.cells 3 (bO.map (V.int .i64)) true] /\ lS m n first (d + 1) i k bO /\ F.get 0 = a /\ F.get 3 = vm /\ F.get 5 = .int .i64 (first:Int) /\ F.get 7 = .sl 0 0 n none /\ F.get 9 = .int .i64 ((d + 1:Nat):Int) /\ F.get 10 = .int .i64 (i:Int) /\ F.get 11 = .int .i64 (k:Int)) n ?_ ?_ n 0 _ _ (by omega) ⟨bO,rfl,hfar,(by simp +decide only [GS,g0,g3,g5,g7,g9,g10,and_self])⟩
   ·rintro k F Y hk2 ⟨bO,rfl,hfar,g0,g3,g5,g7,g9,g10,g11⟩ next3
    have tfl:=hfar.len
    have b0:([O.cells 3 (bO.map (V.int .i64)) true]:Sg)[0]? = some (O.cells 3 (bO.map (V.int .i64)) true):=rfl
    have hlt:=dR hk2
    have haddk:=bU k (by omega)
    obtain ⟨u1,rv,u2,e1,e2⟩:=BJ h im hi hk2
    have e3:=yV h hi
    have e4:=Ex h b0 (i:=i) (by omega)
    have e5:=yV h hk2
    have e6:=Ex h b0 (i:=k) (by omega)
    rw [aG]
    by_cases c0:eB bO i < 0
    case neg=>
     have d0:decide (eB bO i < 0) = false:=decide_eq_false c0
     simp only [KP,↓reduceIte,reduceEqDiff,reduceLT,reduceCtorEq,g0,g7,g10,g11,la,hlt,e3,e4,d0,haddi]
     exact next2 _ _ ⟨bO,rfl,hfar.next (.inr (by omega)) hi,(by simp +decide only [GS,g0,g3,g5,g7,g9,and_self])⟩
    have d0:decide (eB bO i < 0) = true:=decide_eq_true c0
    cases c1:m i k with
    | false=>
     simp only [KP,↓reduceIte,reduceEqDiff,reduceLT,reduceCtorEq,sX h,lX h,g0,g3,g7,g10,g11,la,hlt,e1,e2,e3,e4,d0,c1,haddk]
     exact next3 _ _ ⟨bO,rfl,hfar.skip (fun e=>by rw [c1] at e; cases e.1),(by simp +decide only [GS,g0,g3,g5,g7,g9,g10,and_self])⟩
    | true=>
     by_cases c2:eB bO k = (d:Int)
     ·have d2:decide (eB bO k = ((d + 1 - 1:Nat):Int)) = true:=decide_eq_true (by rw [c2]; rfl)
      have s1:=Hl h (bO:=bO) (i:=i) (d:=((d + 1:Nat):Int)) (by omega)
      simp only [KP,↓reduceIte,reduceEqDiff,reduceLT,reduceCtorEq,sX h,lX h,g0,g3,g7,g9,g10,g11,la,hlt,e1,e2,e3,e4,e5,e6,d0,c1,hsub,d2,s1,haddk]
      exact next3 _ _ ⟨_,rfl,hfar.put hi hk2 (by omega) c0 c1 (by rw [c2]; omega),(by simp +decide only [GS,g0,g3,g5,g7,g9,g10,and_self])⟩
     ·have d2:decide (eB bO k = ((d + 1 - 1:Nat):Int)) = false:=decide_eq_false (by rw [Nat.add_sub_cancel]; exact c2)
      simp only [KP,↓reduceIte,reduceEqDiff,reduceLT,reduceCtorEq,sX h,lX h,g0,g3,g7,g9,g10,g11,la,hlt,e1,e2,e3,e4,e5,e6,d0,c1,hsub,d2,haddk]
      exact next3 _ _ ⟨bO,rfl,hfar.skip (fun e=>c2 (by rw [e.2]; omega)),(by simp +decide only [GS,g0,g3,g5,g7,g9,g10,and_self])⟩
   ·rintro F Y ⟨bO,rfl,hfar,g0,g3,g5,g7,g9,g10,g11⟩
    have hlt:=dS (Nat.lt_irrefl n)
    rw [aG]
    simp only [KP,↓reduceIte,reduceEqDiff,reduceLT,reduceCtorEq,g0,g10,g11,la,hlt,haddi]
    exact next2 _ _ ⟨bO,rfl,hfar.next (.inl rfl) hi,(by simp +decide only [GS,g0,g3,g5,g7,g9,and_self])⟩
  ·rintro F Y ⟨bO,rfl,hfar,g0,g3,g5,g7,g9,g10⟩
   have hlt:=dS (Nat.lt_irrefl n)
   rw [aG]
   simp only [KP,↓reduceIte,reduceEqDiff,reduceLT,reduceCtorEq,g0,g9,g10,la,hlt,haddd]
   exact next _ _ ⟨bO,rfl,hfar.round,(by simp +decide only [GS,g0,g3,g5,g7,and_self])⟩
 ·rintro F Y ⟨bO,rfl,hfar,g0,g3,g5,g7,g9⟩
  have hle1:decide (((n + 1:Nat):Int) <= (n:Int)) = false:=decide_eq_false (by omega)
  rw [aG]
  simp only [KP,↓reduceIte,reduceEqDiff,reduceLT,reduceCtorEq,g0,g9,la,hle1]
  refine key bO hfar _ ?_ ?_ ?_ ?_
  ·exact (by simp +decide only [GS,g0])
  ·exact (by simp +decide only [GS,g3])
  ·exact (by simp +decide only [GS,g5])
  ·exact (by simp +decide only [GS,g7])
end
end
section
section
variable {E:Env} {Z:Sg} {K:V -> Sg -> Prop}
theorem Mm (n:Nat):gR n [V.int .i64 0] = (List.replicate n (0:Int)).map (V.int .i64):=by
 induction n with
 | zero=>rfl
 | succ n ih=>rw [gR,ih]; rfl
theorem OK {n i:Nat} (hi:i < n):(List.replicate i (-1:Int) ++ List.replicate (n - i) 0).set i (-1) = List.replicate (i + 1) (-1) ++ List.replicate (n - (i + 1)) 0:=by
 obtain ⟨d,rfl⟩:∃ d,n = i + (d + 1):=⟨n - i - 1,by omega⟩
 rw [List.set_append_right _ _ (by simp),List.length_replicate,Nat.sub_self,show i + (d + 1) - i = d + 1 by omega,List.replicate_succ,set_cons_zero,show i + (d + 1) - (i + 1) = d by omega,List.replicate_succ']
 simp
theorem Nr (h:bM E) {a vm:V} {rs:List aF} {n:Nat} {m:Nat -> Nat -> Bool} (hn:rs.length = n) (hle:n <= 64) (ia:IS cV a rs) (im:IS uG vm (HF n m)) (hmn:∀ i j,m i j = true -> i < n /\ j < n) {o:Option Nat} (ho:∀ f,o = some f -> f < n /\ AxS.Way m f f)
  (F:FT) (g0:F.get 0 = a) (g3:F.get 3 = vm) (g5:F.get 5 = .int .i64 (idx o))
  (hk:o ≠ none -> ∀ Y w l,l ≠ [] -> bH aJ 9 Y w l -> K w Y) (hk0:o = none -> K .aC []):R E (cutAt [1,1,1,1,1] (aA Tryz.f61).code) [] ⟨216,F⟩ [] (lT E (aA Tryz.f61).results K):=by
 have la:=cA h ia
 rw [hn] at la
 cases o with
 | none=>
  simp only [aA,Tryz.f61,KP,↓reduceIte,reduceLT,Int.reduceLT,reduceNeg,cutAt,g5,mO]
  exact hk0 rfl
 | some first=>
  obtain ⟨hf,hw⟩:=ho first rfl
  have key:=fun bO hfar F g0 g3 g5 g7=>Qg (K:=K) h hn hle ia im hf hmn hw (bO:=bO) hfar F g0 g3 g5 g7 (hk (by simp))
  have c0:decide ((first:Int) < 0) = false:=decide_eq_false (by omega)
  have c2:decide ((n:Int) * ((8:Nat):Int) <= 1099511627776) = true:=decide_eq_true (by omega)
  have c3:decide ((n:Int) <= 1099511627776) = true:=decide_eq_true (by omega)
  have lf:∀ Z,lenOf E Z 56 (.sl 0 0 n none) = some n:=fun Z=>by unfold lenOf; rw [h.Rl]
  rw [show cutAt [1,1,1,1,1] (aA Tryz.f61).code = .seq (cutAt [1,1,1,1,1,0] (aA Tryz.f61).code) (.seq (cutAt [1,1,1,1,1,1,0] (aA Tryz.f61).code) (.seq (cutAt [1,1,1,1,1,1,1,0] (aA Tryz.f61).code) (.seq (cutAt [1,1,1,1,1,1,1,1,0] (aA Tryz.f61).code) (cutAt [1,1,1,1,1,1,1,1,1] (aA Tryz.f61).code)))) from rfl]
  generalize cutAt [1,1,1,1,1,1,1,1,1] (aA Tryz.f61).code = C at *
  simp only [aA,Tryz.f61,KP,↓reduceIte,reduceLT,reduceCtorEq,reduceNeg,h.pM,h.Rl,cutAt,g0,g5,eS,c0,la,c2,c3,Int.toNat_natCast,Int.le_refl,Mm,lf]
  refine aQ (fun i F Y=>∃ bO,Y = [O.cells 3 (bO.map (V.int .i64)) true] /\ bO = List.replicate i (-1) ++ List.replicate (n - i) 0 /\ F.get 0 = a /\ F.get 3 = vm /\ F.get 5 = .int .i64 (first:Int) /\ F.get 7 = .sl 0 0 n none /\ F.get 60 = .int .i64 (n:Int) /\ F.get 61 = .int .i64 (i:Int)) n ?_ ?_ n 0 _ _ (by omega) ⟨_,rfl,by simp,(by simp +decide only [GS,g0,g3,g5,eS,and_self])⟩
  ·rintro i F Y hi ⟨bO,rfl,hfar,g0,g3,g5,g7,g60,g61⟩ next
   have hlt:=dR hi
   have hadd:=bU i (by omega)
   have hfl:bO.length = n:=by rw [hfar]; simp; omega
   have e1:=yV h hi
   have s1:=Hl h (bO:=bO) (i:=i) (d:=-1) (by omega)
   rw [aG]
   simp only [KP,↓reduceIte,reduceEqDiff,reduceLT,reduceNeg,g7,g60,g61,hlt,e1,s1,hadd]
   exact next _ _ ⟨_,rfl,by rw [hfar,OK hi],(by simp +decide only [GS,g0,g3,g5,g7,g60,and_self])⟩
  ·rintro F Y ⟨bO,rfl,hfar,g0,g3,g5,g7,g60,g61⟩
   have hlt:=dS (Nat.lt_irrefl n)
   have hfar:bO = List.replicate n (-1):=by rw [hfar]; simp
   have e1:=yV h hf
   have s1:=Hl h (bO:=bO) (i:=first) (d:=0) (by rw [hfar]; simpa using hf)
   rw [aG]
   simp only [KP,↓reduceIte,reduceEqDiff,reduceLT,reduceNeg,g5,g7,g60,g61,hlt,e1,s1]
   refine key (bO.set first 0) ?_ _ ?_ ?_ ?_ ?_
   ·rw [hfar]; exact lS.init hf
   ·exact (by simp +decide only [GS,g0])
   ·exact (by simp +decide only [GS,g3])
   ·exact (by simp +decide only [GS,g5])
   ·exact (by simp +decide only [GS,g7])
theorem MG {rs:List aF} {d:Bool}:∀ i j,fS rs d i j = true -> i < rs.length /\ j < rs.length:=by
 intro i j hij
 unfold fS at hij
 split at hij
 ·rename_i r hr
  refine ⟨(List.getElem?_eq_some_iff.1 hr).1,?_⟩
  unfold wZ at hij
  rw [Bool.or_eq_true] at hij
  rcases hij with hij | hij
  ·obtain ⟨f,_,hf⟩:=List.any_eq_true.1 hij
   exact BL (of_decide_eq_true hf)
  ·rw [Bool.and_eq_true] at hij
   obtain ⟨f,_,hf⟩:=List.any_eq_true.1 hij.2
   exact Dd (of_decide_eq_true hf)
 ·cases hij
theorem Qh (h:bM E) {a:V} {rs:List aF} (hs:vV rs) (ia:IS cV a rs) (F:FT) (g0:F.get 0 = a)
  (hk:(∃ i,i < rs.length /\ AxS.Way (fS rs false) i i) -> ∀ Y w l,l ≠ [] -> bH aJ 9 Y w l -> K w Y) (hk0:(∀ i,i < rs.length -> ¬ AxS.Way (fS rs false) i i) -> K .aC []):R E (aA Tryz.f61).code [] ⟨216,F⟩ [] (lT E (aA Tryz.f61).results K):=by
 have la:=cA h ia
 have hle:=hs.len
 have hmn:=MG (rs:=rs) (d:=false)
 have bn:=JJ (Z:=[]) h (a:=a) (ia.ls [] 37) hs false
 generalize hm:fS rs false = m at *
 generalize hn:rs.length = n at *
 have key:=fun vm (im:IS uG vm (HF n m)) o ho F g0 g3 g5 hk hk0=>Nr (K:=K) h hn hle ia im hmn (o:=o) ho F g0 g3 g5 hk hk0
 have d7:=h.Xx
 simp only [aA,Tryz.f61,cutAt,Option.getD_some] at d7
 rw [show (aA Tryz.f61).code = .seq (cutAt [0] (aA Tryz.f61).code) (.seq (cutAt [1,0] (aA Tryz.f61).code) (.seq (cutAt [1,1,0] (aA Tryz.f61).code) (.seq (cutAt [1,1,1,0] (aA Tryz.f61).code) (.seq (cutAt [1,1,1,1,0] (aA Tryz.f61).code) (cutAt [1,1,1,1,1] (aA Tryz.f61).code))))) from rfl]
 generalize cutAt [1,1,1,1,1] (aA Tryz.f61).code = C at *
 simp only [aA,Tryz.f61,KP,↓reduceIte,reduceLT,reduceCtorEq,reduceNeg,cutAt,g0]
 refine aU bn ?_
 rintro vm σ' ⟨rfl,im⟩
 simp only [KP,↓reduceIte,reduceLT,reduceNeg]
 refine aU (NR (Z:=[]) h hle im.is) ?_
 rintro vc σ' ⟨rfl,ic⟩
 have im:=im.is
 have ic:=ic.is
 simp only [KP,↓reduceIte,reduceLT,reduceNeg]
 refine aQ (fun i F Y=>Y = [] /\ F.get 0 = a /\ F.get 3 = vm /\ F.get 4 = vc /\ F.get 6 = .int .i64 (i:Int) /\ ∃ o:Option Nat,F.get 5 = .int .i64 (idx o) /\ ((o = none /\ ∀ j,j < i -> wk m n j j = false) \/ ∃ f,o = some f /\ f < n /\ wk m n f f = true)) n ?_ ?_ n 0 _ _ (by omega) ⟨rfl,(gP (by simp +decide only [GS,g0,and_self]) ⟨none,(by simp +decide only [GS,mO]),.inl ⟨rfl,fun j hj=>by omega⟩⟩)⟩
 ·rintro i F Y hi ⟨rfl,g0,g3,g4,g6,o,g5,ho⟩ next
  have hlt:=dR hi
  have hadd:=bU i (by omega)
  obtain ⟨u1,rv,u2,e1,e2⟩:=BJ h ic hi hi
  obtain ⟨ri,hri⟩:∃ y,rs[i]? = some y:=⟨_,List.getElem?_eq_getElem (by omega)⟩
  obtain ⟨v1,p1,p2,p3,p4,e3,-⟩:=eM h ia hri
  rw [aG]
  cases c1:wk m n i i with
  | false=>
   simp only [KP,↓reduceIte,reduceEqDiff,reduceLT,reduceCtorEq,sX h,lX h,g0,g4,g6,la,hlt,e1,e2,c1,hadd,bI d7,cB]
   refine next _ _ ⟨rfl,(gP (by simp +decide only [GS,g0,g3,g4,and_self]) ⟨o,(by simp +decide only [GS,g5]),ho.imp (fun ⟨h1,h2⟩=>⟨h1,fun j hj=>?_⟩) id⟩)⟩
   rcases Nat.lt_or_ge j i with g | g
   ·exact h2 j g
   ·obtain rfl:j = i:=by omega
    exact c1
  | true=>
   rcases ho with ⟨rfl,-⟩ | ⟨f,rfl,hf,hwf⟩
   ·simp only [KP,↓reduceIte,reduceEqDiff,reduceLT,reduceCtorEq,Int.reduceLT,reduceNeg,sX h,lX h,g0,g4,g5,g6,la,hlt,e1,e2,c1,mO,hadd,bI d7,cB]
    exact next _ _ ⟨rfl,(gP (by simp +decide only [GS,g0,g3,g4,and_self]) ⟨some i,(by simp +decide only [GS,eS]),.inr ⟨i,rfl,hi,c1⟩⟩)⟩
   ·have c0:decide ((f:Int) < 0) = false:=decide_eq_false (by omega)
    obtain ⟨rf,hrf⟩:∃ y,rs[f]? = some y:=⟨_,List.getElem?_eq_getElem (by omega)⟩
    obtain ⟨v2,q1,q2,q3,q4,e4,-⟩:=eM h ia hrf
    cases c3:Ax.slt ri.name rf.name with
    | true=>
     simp only [KP,↓reduceIte,reduceEqDiff,reduceLT,reduceCtorEq,sX h,qZ h,lX h,h.cK,h.bE,g0,g4,g5,g6,la,hlt,e1,e2,e3,e4,c1,c0,c3,eS,hadd,bI d7,cB]
     exact next _ _ ⟨rfl,(gP (by simp +decide only [GS,g0,g3,g4,and_self]) ⟨some i,(by simp +decide only [GS,eS]),.inr ⟨i,rfl,hi,c1⟩⟩)⟩
    | false=>
     simp only [KP,↓reduceIte,reduceEqDiff,reduceLT,reduceCtorEq,sX h,qZ h,lX h,h.cK,h.bE,g0,g4,g5,g6,la,hlt,e1,e2,e3,e4,c1,c0,c3,eS,hadd,bI d7,cB]
     exact next _ _ ⟨rfl,(gP (by simp +decide only [GS,g0,g3,g4,and_self]) ⟨some f,(by simp +decide only [GS,g5]),.inr ⟨f,rfl,hf,hwf⟩⟩)⟩
 ·rintro F Y ⟨rfl,g0,g3,g4,g6,o,g5,ho⟩
  have hlt:=dS (Nat.lt_irrefl n)
  rw [aG]
  simp only [KP,↓reduceIte,reduceEqDiff,reduceLT,reduceCtorEq,g0,g6,la,hlt]
  refine key vm im o (fun f hf=>?_) _ ?_ ?_ ?_ (fun ho2=>hk ?_) (fun ho2=>hk0 fun i hi hw=>?_)
  ·rcases ho with ⟨e,-⟩ | ⟨f',e,h1,h2⟩
   ·rw [e] at hf; cases hf
   ·rw [e] at hf; cases hf; exact ⟨h1,A9 h2⟩
  ·exact (by simp +decide only [GS,g0])
  ·exact (by simp +decide only [GS,g3])
  ·exact (by simp +decide only [GS,g5])
  ·rcases ho with ⟨e,-⟩ | ⟨f',e,h1,h2⟩
   ·exact absurd e ho2
   ·exact ⟨f',h1,A9 h2⟩
  ·rcases ho with ⟨-,h1⟩ | ⟨f',e,-⟩
   ·have:=Rb hmn hw
    rw [h1 i hi] at this; cases this
   ·rw [e] at ho2; cases ho2
theorem Ia (h:bM E) {a:V} {rs:List aF} (ha:LS cV 37 Z a rs) (hs:vV rs):aB E 61 [a] Z fun v σ'=>σ' = Z /\ ∃ l,jW aJ v l /\ ((l ≠ [] /\ ∃ i,i < rs.length /\ AxS.Way (fS rs false) i i) \/ (l = [] /\ ∀ i,i < rs.length -> ¬ AxS.Way (fS rs false) i i)):=by
 obtain ⟨a',ea,ia⟩:=dW h ha
 rw [aH h.hs61 h.sp61 h.fn61 h.md61 (args':=[a']) (by simp only [aX,ea]),bD (by kernel_rfl)]
 refine Qh h hs ia _ (by simp +decide only [GS]) (fun hc Y w l hl ow=>?_) fun hc=>?_
 ·obtain ⟨v',e1,hv⟩:=pO h.cK rfl (fun r x hr c hc=>by rw [show r = [.str x] from hr] at hc; cases hc with | head=>rfl | tail _ h=>cases h) ow
  show (match cT Y E.ty false w with
   | some v=>(fun v σ'=>σ' = Z /\ ∃ l,jW aJ v l /\ ((l ≠ [] /\ ∃ i,i < rs.length /\ AxS.Way (fS rs false) i i) \/ (l = [] /\ ∀ i,i < rs.length -> ¬ AxS.Way (fS rs false) i i))) v Z
   | none=>False)
  rw [e1]
  exact ⟨rfl,l,hv,.inl ⟨hl,hc⟩⟩
 ·exact ⟨rfl,[],.inl ⟨rfl,rfl⟩,.inr ⟨rfl,hc⟩⟩
end
end
section
section
variable {E:Env} {Z:Sg} {K:V -> Sg -> Prop}
theorem Mh {x:aF} {a b c d:V} (h1:IS aJ a x.ins) (h2:IS aJ b x.outs) (h3:IS aJ c x.after) (h4:IS eV d x.steps):GR (.agg [.str x.name,a,b,c,d]) x:=⟨a,b,c,d,rfl,h1,h2,h3,h4⟩
theorem zF {rs:List aF} {i:Nat} {r:aF} (hr:rs[i]? = some r) (h:aY r ≠ 0) (hp:∀ (j:Nat) (s:aF),j < i -> rs[j]? = some s -> aY s = 0):fW rs = aY r:=by
 have:rs.find? (fun r=>decide (aY r ≠ 0)) = some r:=by
  rw [List.find?_eq_some_iff_getElem]
  refine ⟨decide_eq_true h,i,(List.getElem?_eq_some_iff.1 hr).1,(List.getElem?_eq_some_iff.1 hr).2,fun j hj=>?_⟩
  have hjl:j < rs.length:=by have:=(List.getElem?_eq_some_iff.1 hr).1; omega
  simpa using hp j _ hj (List.getElem?_eq_getElem hjl)
 unfold fW
 rw [this]
theorem xM {rs:List aF} (hp:∀ (j:Nat) (s:aF),rs[j]? = some s -> aY s = 0):fW rs = if 40 < rs.length then 4 else if rN rs = true then 2 else if f_ rs = true then 2 else 0:=by
 have:rs.find? (fun r=>decide (aY r ≠ 0)) = none:=by
  rw [List.find?_eq_none]
  intro x hx
  obtain ⟨j,hj,e⟩:=List.getElem_of_mem hx
  simpa using hp j x (by rw [List.getElem?_eq_getElem hj,e])
 unfold fW
 rw [this]
theorem S3 (h:bM E) {a:V} {rs:List aF} (hs:vV rs) (ia:IS cV a rs) (hp0:∀ (j:Nat) (s:aF),rs[j]? = some s -> aY s = 0) (h40:¬ 40 < rs.length) (hcl:rN rs = false) (F:FT) (g0:F.get 0 = a) (hk:∀ e nm,GW rs e -> K (.fN [.int .i64 e,.str nm]) []):R E (cutAt [1,1,1,1] (aA Tryz.f13).code) [] ⟨110,F⟩ [] (lT E (aA Tryz.f13).results K):=by
 have la:=cA h ia
 have bc:=Ia (Z:=[]) h (a:=a) (ia.ls [] 37) hs
 have hE:=xM hp0
 rw [if_neg h40,if_neg (by rw [hcl]; simp)] at hE
 have d27:=h.SF
 simp only [aA,Tryz.f13,cutAt,Option.getD_some] at d27
 have d31:=h.SE
 simp only [aA,Tryz.f13,cutAt,Option.getD_some] at d31
 rw [show cutAt [1,1,1,1] (aA Tryz.f13).code = .seq (.seq (cutAt [1,1,1,1,0,0] (aA Tryz.f13).code) (.block 6 (.loop (cutAt [1,1,1,1,0,1,2,2] (aA Tryz.f13).code)))) (cutAt [1,1,1,1,1] (aA Tryz.f13).code) from rfl]
 have key:f_ rs = false -> ∀ F:FT,F.get 0 = a -> R E (cutAt [1,1,1,1,1] (aA Tryz.f13).code) [] ⟨110,F⟩ [] (lT E (aA Tryz.f13).results K):=fun hst F g0=>by
  rw [if_neg (by rw [hst]; simp)] at hE
  simp only [aA,Tryz.f13,KP,↓reduceIte,reduceLT,cutAt,g0]
  refine aU bc ?_
  rintro v σ' ⟨rfl,l,il,hl⟩
  have il:=il.is
  have ll:=bK h il
  rcases hl with ⟨hl,hring⟩ | ⟨rfl,hring⟩
  ·obtain ⟨y,r,rfl⟩:=List.exists_cons_of_ne_nil hl
   obtain ⟨g,e1⟩:=fJ h il (i:=0) (x:=y) rfl
   have e1:indexAddr E 28 v (.int .i64 0) = some (.dB g [.str y]):=e1
   have c0:decide ((0:Int) < ((r.length + 1:Nat):Int)) = true:=decide_eq_true (by omega)
   simp only [KP,↓reduceIte,reduceEqDiff,reduceLT,qZ h,ll,c0,e1,bI d31,cB]
   exact hk 3 y (.inr ⟨hE,.inl ⟨hring,rfl⟩⟩)
  ·have c0:decide ((0:Int) < ((([]:List aM).length:Nat):Int)) = false:=rfl
   simp only [KP,↓reduceIte,reduceEqDiff,reduceLT,Int.reduceLT,kP,ll]
   exact hk 0 [] (.inr ⟨hE,.inr ⟨fun ⟨i,h1,h2⟩=>hring i h1 h2,rfl⟩⟩)
 generalize cutAt [1,1,1,1,1] (aA Tryz.f13).code = C at *
 simp only [aA,Tryz.f13,KP,↓reduceIte,reduceLT,cutAt]
 refine aQ (fun i F Y=>Y = [] /\ F.get 0 = a /\ F.get 10 = .int .i64 (i:Int) /\ ∀ j s,j < i -> rs[j]? = some s -> ∀ m ∈ s.after,fF rs m ≠ none) rs.length ?_ ?_ rs.length 0 _ _ (by omega) ⟨rfl,(kW (by simp +decide only [GS,g0,and_self]) (fun j s hj=>by omega))⟩
 ·rintro i F Y hi ⟨rfl,g0,g10,hp⟩ next
  obtain ⟨r,hr⟩:∃ y,rs[i]? = some y:=⟨_,List.getElem?_eq_getElem hi⟩
  have a3:=(hs.all r (mem_of_getElem? hr)).after
  obtain ⟨g,p1,p2,p3,p4,e1,i1,i2,i3,i4⟩:=eM h ia hr
  have l3:=bK h i3
  have hlt:=dR hi
  have hadd:=bU i (by omega)
  rw [aG]
  simp only [KP,↓reduceIte,reduceEqDiff,reduceLT,reduceCtorEq,Ji h,h.aS,h.bE,g0,g10,la,hlt,e1,l3]
  refine aQ (fun j F Y=>Y = [] /\ F.get 0 = a /\ F.get 10 = .int .i64 (i:Int) /\ F.get 86 = p3 /\ F.get 87 = .int .i64 (r.after.length:Int) /\ F.get 88 = .int .i64 (j:Int) /\ ∀ q m,q < j -> r.after[q]? = some m -> fF rs m ≠ none) r.after.length ?_ ?_ r.after.length 0 _ _ (by omega) ⟨rfl,(lY (by simp +decide only [GS,g0,g10,and_self]) (fun q m hq=>by omega))⟩
  ·rintro j F Y hj ⟨rfl,g0,g10,g86,g87,g88,hq⟩ next2
   obtain ⟨m,hm⟩:∃ y,r.after[j]? = some y:=⟨_,List.getElem?_eq_getElem hj⟩
   obtain ⟨g,e2⟩:=fJ h i3 hm
   have hlt2:=dR hj
   have hadd2:=bU j (by omega)
   have km:=Sl (Z:=[]) h (s:=m) (ia.ls _ 37) (by omega)
   rw [aG]
   cases hat:fF rs m with
   | none=>
    simp only [KP,↓reduceIte,reduceEqDiff,reduceLT,reduceCtorEq,Int.reduceLT,reduceNeg,qZ h,h.cK,h.bE,g0,g10,g86,g87,g88,hlt2,e1,e2,km,hat,mO,bI d27,cB]
    refine hk 2 _ (.inl ?_)
    have hst:f_ rs = true:=by
     unfold f_
     rw [List.any_eq_true]
     exact ⟨r,mem_of_getElem? hr,List.any_eq_true.2 ⟨m,mem_of_getElem? hm,decide_eq_true hat⟩⟩
    rw [if_pos hst] at hE
    rw [hE]
    exact ⟨by decide,rfl⟩
   | some k=>
    have c0:decide ((k:Int) < 0) = false:=decide_eq_false (by omega)
    simp only [KP,↓reduceIte,reduceEqDiff,reduceLT,reduceCtorEq,qZ h,g0,g86,g87,g88,hlt2,e2,km,hat,eS,c0,hadd2]
    refine next2 _ _ ⟨rfl,(lY (by simp +decide only [GS,g0,g10,g86,g87,and_self]) (fun q m' hq2 hm'=>?_))⟩
    rcases Nat.lt_or_ge q j with g | g
    ·exact hq q m' g hm'
    ·obtain rfl:q = j:=by omega
     rw [hm] at hm'; cases hm'; rw [hat]; simp
  ·rintro F Y ⟨rfl,g0,g10,g86,g87,g88,hq⟩
   have hlt2:=dS (Nat.lt_irrefl r.after.length)
   rw [aG]
   simp only [KP,↓reduceIte,reduceEqDiff,reduceLT,g10,g87,g88,hlt2,hadd]
   refine next _ _ ⟨rfl,(kW (by simp +decide only [GS,g0,and_self]) (fun j s hj hs2 m hm=>?_))⟩
   rcases Nat.lt_or_ge j i with g | g
   ·exact hp j s g hs2 m hm
   ·obtain rfl:j = i:=by omega
    rw [hr] at hs2; cases hs2
    obtain ⟨q,hq2,e⟩:=List.getElem_of_mem hm
    exact hq q m hq2 (by rw [List.getElem?_eq_getElem hq2,e])
 ·rintro F Y ⟨rfl,g0,g10,hp⟩
  have hlt:=dS (Nat.lt_irrefl rs.length)
  rw [aG]
  simp only [KP,↓reduceIte,reduceEqDiff,reduceLT,reduceCtorEq,g0,g10,la,hlt]
  refine key ?_ _ (by simp +decide only [GS,g0])
  unfold f_
  rw [List.any_eq_false]
  intro s hs2
  rw [List.any_eq_true]
  rintro ⟨m,hm,e⟩
  obtain ⟨j,hj,e2⟩:=List.getElem_of_mem hs2
  exact hp j s hj (by rw [List.getElem?_eq_getElem hj,e2]) m hm (of_decide_eq_true e)
theorem K1 {rs:List aF} {i:Nat} {r:aF} (hr:rs[i]? = some r):nK rs i = (decide (∃ k,fF rs r.name = some k /\ k < i) || r.outs.any fun o=>decide (∃ k,fA rs o = some k /\ k < i)):=by
 have first_lt:∀ (p:aF -> Bool) (rs:List aF) (i:Nat),(∃ k,bF p rs = some k /\ k < i) ↔ ∃ q ∈ rs.take i,p q = true:=by
  intro p rs
  induction rs with
  | nil=>intro i; simp [bF]
  | cons r rs ih=>
   intro i
   rw [bF]
   by_cases hp:p r = true
   ·rw [if_pos hp]
    cases i with
    | zero=>simp
    | succ i=>simp [hp]
   ·rw [if_neg hp]
    cases i with
    | zero=>simp
    | succ i=>
     rw [List.take_succ_cons]
     simp only [mem_cons,Option.map_eq_some_iff]
     constructor
     ·rintro ⟨k,⟨k',h1,rfl⟩,h2⟩
      obtain ⟨q,hq,hpq⟩:=(ih i).1 ⟨k',h1,by omega⟩
      exact ⟨q,.inr hq,hpq⟩
     ·rintro ⟨q,rfl | hq,hpq⟩
      ·exact absurd hpq hp
      ·obtain ⟨k,h1,h2⟩:=(ih i).2 ⟨q,hq,hpq⟩
       exact ⟨k + 1,⟨k,h1,rfl⟩,by omega⟩
 unfold nK fF fA
 rw [hr]
 rw [Bool.eq_iff_iff]
 simp only [List.any_eq_true,Bool.or_eq_true,decide_eq_true_eq,first_lt]
 constructor
 ·rintro ⟨q,hq,h1 | ⟨o,ho,h2⟩⟩
  ·exact .inl ⟨q,hq,h1⟩
  ·exact .inr ⟨o,ho,q,hq,h2⟩
 ·rintro (⟨q,hq,h1⟩ | ⟨o,ho,q,hq,h2⟩)
  ·exact ⟨q,hq,.inl h1⟩
  ·exact ⟨q,hq,.inr ⟨o,ho,h2⟩⟩
theorem jK {α:Type} {p:α -> Bool} {l:List α} {x:α} (hx:x ∈ l) (hp:p x = true):∃ k,bF p l = some k:=by
 cases h:bF p l with
 | some k=>exact ⟨k,rfl⟩
 | none=>
  have h2:(bF p l).isSome = true:=by rw [b_,List.any_eq_true]; exact ⟨x,hx,hp⟩
  rw [h] at h2; cases h2
theorem S4 (h:bM E) {a:V} {rs:List aF} (hs:vV rs) (ia:IS cV a rs) (hp0:∀ (j:Nat) (s:aF),rs[j]? = some s -> aY s = 0) (h40:¬ 40 < rs.length) (F:FT) (g0:F.get 0 = a) (hk:∀ e nm,GW rs e -> K (.fN [.int .i64 e,.str nm]) []):R E (cutAt [1,1,1] (aA Tryz.f13).code) [] ⟨110,F⟩ [] (lT E (aA Tryz.f13).results K):=by
 have la:=cA h ia
 have hE:=xM hp0
 have hmem:∀ x ∈ rs,x.outs.length <= 4294967296:=fun x hx=>by have:=(hs.all x hx).outs; omega
 rw [if_neg h40] at hE
 have d19:=h.SG
 simp only [aA,Tryz.f13,cutAt,Option.getD_some] at d19
 have key:=fun hcl F g0=>S3 (K:=K) h hs ia hp0 h40 hcl F g0 hk
 rw [show cutAt [1,1,1] (aA Tryz.f13).code = .seq (.seq (cutAt [1,1,1,0,0] (aA Tryz.f13).code) (.block 2 (.loop (cutAt [1,1,1,0,1,2,2] (aA Tryz.f13).code)))) (cutAt [1,1,1,1] (aA Tryz.f13).code) from rfl]
 generalize cutAt [1,1,1,1] (aA Tryz.f13).code = C at *
 simp only [aA,Tryz.f13,KP,↓reduceIte,reduceLT,cutAt]
 refine aQ (fun i F Y=>Y = [] /\ F.get 0 = a /\ F.get 6 = .int .i64 (i:Int) /\ ∀ j,j < i -> nK rs j = false) rs.length ?_ ?_ rs.length 0 _ _ (by omega) ⟨rfl,(kW (by simp +decide only [GS,g0,and_self]) (fun j hj=>by omega))⟩
 ·rintro i F Y hi ⟨rfl,g0,g6,hp⟩ next
  obtain ⟨r,hr⟩:∃ y,rs[i]? = some y:=⟨_,List.getElem?_eq_getElem hi⟩
  have hrm:=mem_of_getElem? hr
  have a3:=(hs.all r hrm).outs
  obtain ⟨g,p1,p2,p3,p4,e1,i1,i2,i3,i4⟩:=eM h ia hr
  have l2:=bK h i2
  have hlt:=dR hi
  have hadd:=bU i (by omega)
  obtain ⟨k1,hk1⟩:=jK (p:=fun q:aF=>decide (q.name = r.name)) hrm (decide_eq_true rfl)
  have hk1:fF rs r.name = some k1:=hk1
  have km:=Sl (Z:=[]) h (s:=r.name) (ia.ls _ 37) (by omega)
  have hcl:=K1 hr
  rw [show decide (∃ k,fF rs r.name = some k /\ k < i) = decide (k1 < i) by rw [hk1]; simp] at hcl
  have hb:decide ((k1:Int) < (i:Int)) = decide (k1 < i):=by rw [Bool.eq_iff_iff,decide_eq_true_eq,decide_eq_true_eq]; omega
  rw [aG]
  simp only [KP,↓reduceIte,reduceEqDiff,reduceLT,reduceCtorEq,qZ h,Ji h,h.cK,h.aS,h.bE,g0,g6,la,hlt,e1,l2,km,hk1,eS,hb]
  refine aQ (fun j F Y=>Y = [] /\ F.get 0 = a /\ F.get 6 = .int .i64 (i:Int) /\ F.get 55 = p2 /\ F.get 56 = .int .i64 (r.outs.length:Int) /\ F.get 57 = .int .i64 (j:Int) /\ F.get 7 = .bool (decide (k1 < i) || (r.outs.take j).any fun o=>decide (∃ k,fA rs o = some k /\ k < i))) r.outs.length ?_ ?_ r.outs.length 0 _ _ (by omega) ⟨rfl,(lY (by simp +decide only [GS,g0,g6,and_self]) (by simp [FT.jR]))⟩
  ·rintro j F Y hj ⟨rfl,g0,g6,g55,g56,g57,g7⟩ next2
   obtain ⟨m,hm⟩:∃ y,r.outs[j]? = some y:=⟨_,List.getElem?_eq_getElem hj⟩
   have hmm:=mem_of_getElem? hm
   obtain ⟨g,e2⟩:=fJ h i2 hm
   have hlt2:=dR hj
   have hadd2:=bU j (by omega)
   obtain ⟨k2,hk2⟩:=jK (p:=fun q:aF=>decide (m ∈ q.outs)) hrm (decide_eq_true hmm)
   have hk2:fA rs m = some k2:=hk2
   have kk:=Jo (Z:=[]) h (s:=m) (ia.ls _ 37) hmem (by omega)
   have hb2:decide ((k2:Int) < (i:Int)) = decide (k2 < i):=by rw [Bool.eq_iff_iff,decide_eq_true_eq,decide_eq_true_eq]; omega
   have hnew:=oN (p:=fun o=>decide (∃ k,fA rs o = some k /\ k < i)) hm
   rw [show decide (∃ k,fA rs m = some k /\ k < i) = decide (k2 < i) by rw [hk2]; simp] at hnew
   rw [aG]
   cases hbad:(decide (k1 < i) || (r.outs.take j).any fun o=>decide (∃ k,fA rs o = some k /\ k < i)) with
   | true=>
    rw [hbad] at g7
    simp only [KP,↓reduceIte,reduceEqDiff,reduceLT,qZ h,g55,g56,g57,g7,hlt2,e2,hadd2]
    refine next2 _ _ ⟨rfl,(lY (by simp +decide only [GS,g0,g6,g55,g56,and_self]) ?_)⟩
    rw [hnew,<- Bool.or_assoc,hbad]
    simp only [FT.jR,reduceEqDiff,↓reduceIte,Bool.true_or]
   | false=>
    rw [hbad] at g7
    simp only [KP,↓reduceIte,reduceEqDiff,reduceLT,reduceCtorEq,qZ h,g0,g6,g55,g56,g57,g7,hlt2,e2,kk,hk2,eS,hb2,hadd2]
    refine next2 _ _ ⟨rfl,(lY (by simp +decide only [GS,g0,g6,g55,g56,and_self]) ?_)⟩
    rw [hnew,<- Bool.or_assoc,hbad]
    simp only [FT.jR,reduceEqDiff,↓reduceIte,Bool.false_or]
  ·rintro F Y ⟨rfl,g0,g6,g55,g56,g57,g7⟩
   have hlt2:=dS (Nat.lt_irrefl r.outs.length)
   rw [take_of_length_le (Nat.le_refl _),<- hcl] at g7
   rw [aG]
   cases hc:nK rs i with
   | true=>
    rw [hc] at g7
    simp only [KP,↓reduceIte,reduceEqDiff,reduceLT,reduceCtorEq,qZ h,h.cK,h.bE,g0,g6,g56,g57,g7,hlt2,e1,bI d19,cB]
    refine hk 2 _ (.inl ?_)
    have hst:rN rs = true:=by
     unfold rN
     rw [List.any_eq_true]
     exact ⟨i,mem_range.2 hi,hc⟩
    rw [if_pos hst] at hE
    rw [hE]
    exact ⟨by decide,rfl⟩
   | false=>
    rw [hc] at g7
    simp only [KP,↓reduceIte,reduceEqDiff,reduceLT,g6,g56,g57,g7,hlt2,hadd]
    refine next _ _ ⟨rfl,(kW (by simp +decide only [GS,g0,and_self]) (fun j hj=>?_))⟩
    rcases Nat.lt_or_ge j i with g | g
    ·exact hp j g
    ·obtain rfl:j = i:=by omega
     exact hc
 ·rintro F Y ⟨rfl,g0,g6,hp⟩
  have hlt:=dS (Nat.lt_irrefl rs.length)
  rw [aG]
  simp only [KP,↓reduceIte,reduceEqDiff,reduceLT,reduceCtorEq,g0,g6,la,hlt]
  refine key ?_ _ (by simp +decide only [GS,g0])
  unfold rN
  rw [List.any_eq_false]
  intro i hi
  rw [hp i (mem_range.1 hi)]; simp
theorem QE (h:bM E) {a:V} {rs:List aF} (hs:vV rs) (ia:IS cV a rs) (F:FT) (g0:F.get 0 = a) (hk:∀ e nm,GW rs e -> K (.fN [.int .i64 e,.str nm]) []):R E (aA Tryz.f13).code [] ⟨110,F⟩ [] (lT E (aA Tryz.f13).results K):=by
 have la:=cA h ia
 have hle:=hs.len
 have d6:=h.Xz
 simp only [aA,Tryz.f13,cutAt,Option.getD_some] at d6
 have key:=fun hp0 h40 F g0=>S4 (K:=K) h hs ia hp0 h40 F g0 hk
 rw [show (aA Tryz.f13).code = .seq (cutAt [0] (aA Tryz.f13).code) (.seq (cutAt [1,0] (aA Tryz.f13).code) (.seq (cutAt [1,1,0] (aA Tryz.f13).code) (cutAt [1,1,1] (aA Tryz.f13).code))) from rfl]
 generalize cutAt [1,1,1] (aA Tryz.f13).code = C at *
 simp only [aA,Tryz.f13,KP,↓reduceIte,reduceLT,kP,cutAt]
 refine aQ (fun i F Y=>Y = [] /\ F.get 0 = a /\ F.get 4 = .int .i64 (i:Int) /\ ∀ (j:Nat) (s:aF),j < i -> rs[j]? = some s -> aY s = 0) rs.length ?_ ?_ rs.length 0 _ _ (by omega) ⟨rfl,(kW (by simp +decide only [GS,g0,and_self]) (fun j s hj=>by omega))⟩
 ·rintro i F Y hi ⟨rfl,g0,g4,hp⟩ next
  obtain ⟨r,hr⟩:∃ y,rs[i]? = some y:=⟨_,List.getElem?_eq_getElem hi⟩
  have hrs:=hs.all r (mem_of_getElem? hr)
  obtain ⟨g,p1,p2,p3,p4,e1,i1,i2,i3,i4⟩:=eM h ia hr
  have hlt:=dR hi
  have hadd:=bU i (by omega)
  have kr:=KA (Z:=[]) h (Mh i1 i2 i3 i4) hrs
  rw [aG]
  by_cases he:aY r = 0
  ·have c0:decide (aY r = 0) = true:=decide_eq_true he
   simp only [KP,↓reduceIte,reduceEqDiff,reduceLT,reduceCtorEq,QS h,g0,g4,la,hlt,e1,kr,c0,hadd]
   refine next _ _ ⟨rfl,(kW (by simp +decide only [GS,g0,and_self]) (fun j s hj hs2=>?_))⟩
   rcases Nat.lt_or_ge j i with g | g
   ·exact hp j s g hs2
   ·obtain rfl:j = i:=by omega
    rw [hr] at hs2; cases hs2; exact he
  ·have c0:decide (aY r = 0) = false:=decide_eq_false he
   simp only [KP,↓reduceIte,reduceEqDiff,reduceLT,reduceCtorEq,qZ h,QS h,h.cK,h.bE,g0,g4,la,hlt,e1,kr,c0,bI d6,cB]
   exact hk _ _ (.inl ⟨by rw [zF hr he hp]; exact he,(zF hr he hp).symm⟩)
 ·rintro F Y ⟨rfl,g0,g4,hp⟩
  have hlt:=dS (Nat.lt_irrefl rs.length)
  have hp0:∀ (j:Nat) (s:aF),rs[j]? = some s -> aY s = 0:=fun j s hs2=>hp j s (List.getElem?_eq_some_iff.1 hs2).1 hs2
  rw [aG]
  by_cases h40:40 < rs.length
  ·have c0:decide ((40:Int) < (rs.length:Int)) = true:=decide_eq_true (by omega)
   simp only [KP,↓reduceIte,reduceEqDiff,reduceLT,reduceCtorEq,kP,g0,g4,la,hlt,c0]
   refine hk 4 _ (.inl ?_)
   rw [xM hp0,if_pos h40]
   exact ⟨by decide,rfl⟩
  ·have c0:decide ((40:Int) < (rs.length:Int)) = false:=decide_eq_false (by omega)
   simp only [KP,↓reduceIte,reduceEqDiff,reduceLT,reduceCtorEq,g0,g4,la,hlt,c0]
   exact key hp0 h40 _ (by simp +decide only [GS,g0])
theorem NF (h:bM E) {a:V} {rs:List aF} (ha:LS cV 37 Z a rs) (hs:vV rs):aB E 13 [a] Z fun v σ'=>σ' = Z /\ ∃ e nm,v = .fN [.int .i64 e,.str nm] /\ GW rs e:=by
 obtain ⟨a',ea,ia⟩:=dW h ha
 rw [aH h.hs13 h.L5 h.fn13 h.md13 (args':=[a']) (by simp only [aX,ea]),bD (by kernel_rfl)]
 exact QE h hs ia _ (by simp +decide only [GS]) fun e nm he=>⟨rfl,e,nm,rfl,he⟩
end
end
section
section
variable {E:Env} {Z:Sg} {K:V -> Sg -> Prop}
def fV:Lay AxS.Step:=⟨fun r x=>∃ a l,r = [.str x.out,.int .i64 x.op,a,l,.int .i64 x.n] /\ jW aJ a x.args /\ jW aJ l x.lits,5,fun _ _ ⟨_,_,h,_⟩=>by rw [h]; rfl,fun _ _ ⟨a,l,h,h1,h2⟩ c hc=>by
 rw [h] at hc
 simp only [mem_cons,List.not_mem_nil,or_false] at hc
 rcases hc with rfl | rfl | rfl | rfl | rfl
 ·rfl
 ·rfl
 ·exact h1.is.bB
 ·exact h2.is.bB
 ·rfl⟩
theorem Hi:∀ r x,fV.P r x -> ∀ c ∈ r,cH false c = true:=fun r x ⟨a,l,h,h1,h2⟩ c hc=>by
 rw [h] at hc
 simp only [mem_cons,List.not_mem_nil,or_false] at hc
 rcases hc with rfl | rfl | rfl | rfl | rfl
 ·rfl
 ·rfl
 ·exact h1.tag
 ·exact h2.tag
 ·rfl
theorem LG:∀ r x,aJ.P r x -> ∀ c ∈ r,cH false c = true:=fun r x hr c hc=>by
 rw [show r = [.str x] from hr] at hc
 cases hc with
 | head=>rfl
 | tail _ h=>cases h
theorem xW (h:bM E) {v:V} {l:List aM} (iv:IS aJ v l) (hl:l.length <= 8796093022208):∃ w Y v',Ax.append E [] #[28,28] .aC v = some (w,Y) /\ cT Y E.ty false w = some v' /\ jW aJ v' l:=by
 obtain ⟨rs,e,ha⟩:=qD iv []
 have hr:nV l.length 16 = true:=by
  unfold nV
  rw [decide_eq_true_eq]
  exact Nat.le_trans (Nat.mul_le_mul_right 17 hl) (by decide)
 obtain ⟨w,Y,h1,h2⟩:=N5 (ats:=#[28,28]) h.aS rfl h.cK rfl (by decide) (gI h) rfl e ha hr
 obtain ⟨v',h3,h4⟩:=pO h.cK rfl LG h2
 exact ⟨w,Y,v',h1,h3,h4⟩
theorem iR {c:V} (h:Ax.bB c = true):c.cells = [c]:=by cases c <;> first | rfl | cases h
theorem C7 (Z:Sg):aZ Z E.ty true .aC = some .aC:=rfl
theorem Qm (h:bM E) {x:aF} {a b c d:V} (ia:IS aJ a x.ins) (ib:IS aJ b x.outs) (ic:IS aJ c x.after) (hx:XL x) {Y:Sg} {n0:Nat} (b0:Y[n0]? = some (O.cells 37 [.str x.name,a,b,c,d] true)) (F:FT) (g1:F.get 1 = .ref n0 0) (g2:F.get 2 = .ref (n0 + 1) 0) :
  ∃ F' a' b' c',cC E (ev E 0) (opsOf (cutAt [1,0] (aA Tryz.f78).code)) ⟨45,F⟩ Y = some (⟨45,F'⟩,Y ++ [O.cells 37 [.str x.name,a',b',c',.aC] true]) /\ F'.get 1 = .ref n0 0 /\ F'.get 2 = .ref (n0 + 1) 0 /\ F'.get 3 = .ref Y.length 0 /\ jW aJ a' x.ins /\ jW aJ b' x.outs /\ jW aJ c' x.after:=by
 have a1:=hx.ins
 have a2:=hx.outs
 have a3:=hx.after
 obtain ⟨w1,τ1,a',h1,k1,i1⟩:=xW h ia (by omega)
 obtain ⟨w2,τ2,b',h2,k2,i2⟩:=xW h ib (by omega)
 obtain ⟨w3,τ3,c',h3,k3,i3⟩:=xW h ic (by omega)
 have s1:=fun Z=>nT (E:=E) ia Z
 have s2:=fun Z=>nT (E:=E) ib Z
 have s3:=fun Z=>nT (E:=E) ic Z
 have v1:=bY 10 ia
 have v2:=bY 10 ib
 have v3:=bY 10 ic
 have u1:=bY 10 i1.is
 have u2:=bY 10 i2.is
 have u3:=bY 10 i3.is
 have o1:=aI i1.is.bB
 have o2:=aI i2.is.bB
 have o3:=aI i3.is.bB
 have n1:=iR i1.is.bB
 have n2:=iR i2.is.bB
 have n3:=iR i3.is.bB
 have b0':=aL (x:=O.cells 37 [.str [],.aC,.aC,.aC,.aC] true) b0
 have vs:=vZ 11 x.name
 unfold cC
 rw [h.Tf,h.UJ]
 simp only [aA,Tryz.f78,KP,Ax.loadAt,Ax.storeAt,↓reduceIte,reduceEqDiff,reduceLT,reduceAdd,reduceCtorEq,h.cK,h.aS,h.fE,h.bE,opsOf,cutAt,Fz.apps,gW,bJ,bW,kC,Ax.comp,Ax.last,g_,Ax.again,tK,aX,Ax.fill,Ax.placeOf,g1,b0,b0',h1,h2,h3,k1,k2,k3,s1,s2,s3,v1,v2,v3,u1,u2,u3,o1,o2,o3,vs,n1,n2,n3,C7,aR,cU]
 exact ⟨_,a',b',c',rfl,(iZ (by simp +decide only [GS,g1,g2,and_self]) ⟨i1,i2,i3⟩)⟩
def Kp (Z Y:Sg):Prop:=∀ (c:Nat) (o:O),Z[c]? = some o -> Y[c]? = some o
theorem Qn (h:bM E) {x:aF} {a b c d:V} (ia:IS aJ a x.ins) (ib:IS aJ b x.outs) (ic:IS aJ c x.after) (hx:XL x) {Y:Sg} {n0:Nat} (b0:Y[n0]? = some (O.cells 37 [.str x.name,a,b,c,d] true)) (F:FT) (g1:F.get 1 = .ref n0 0) (g2:F.get 2 = .ref (n0 + 1) 0) {st:List kY} {Q:Ax.X -> Fr -> Sg -> Prop}
  (hk:∀ F' a' b' c',F'.get 1 = .ref n0 0 -> F'.get 2 = .ref (n0 + 1) 0 -> F'.get 3 = .ref Y.length 0 -> jW aJ a' x.ins -> jW aJ b' x.outs -> jW aJ c' x.after -> M E st .normal ⟨45,F'⟩ (Y ++ [O.cells 37 [.str x.name,a',b',c',.aC] true]) Q) :
  R E (.region 1 (opsOf (cutAt [1,0] (aA Tryz.f78).code)) true) st ⟨45,F⟩ Y Q:=by
 obtain ⟨F',a',b',c',hE,h1,h2,h3,h4,h5,h6⟩:=Qm h ia ib ic hx b0 F g1 g2
 exact Eq.mpr (iI hE) (hk F' a' b' c' h1 h2 h3 h4 h5 h6)
end
end
section
section
variable {E:Env} {Z:Sg} {K:V -> Sg -> Prop}
theorem sO {α:Type} {L:Lay α} {t u k:Nat} {Y:Sg} {w:V} {l:List α} {cs:List V} {ex:Bool} (hb:Y[k]? = some (.cells u cs ex)) (hu:u ≠ t) (ow:bH L t Y w l):aT w ≠ some k:=by
 rcases ow with ⟨rfl,-⟩ | ⟨b,rs,ex,rfl,hc,-⟩
 ·intro e; cases e
 ·intro e; cases e; rw [hb] at hc; cases hc; exact hu rfl
theorem pT {α:Type} {L:Lay α} {t:Nat} {Y:Sg} {w:V} {l:List α} (ow:bH L t Y w l):w.cells = [w] /\ w.aW = true:=by
 rcases ow with ⟨rfl,-⟩ | ⟨b,rs,ex,rfl,-⟩ <;> exact ⟨rfl,rfl⟩
theorem tR {Y:Sg} {i:Nat} {x y:O} (h:Y[i]? = some y):(Y.set i x)[i]? = some x:=getElem?_set_self (List.getElem?_eq_some_iff.1 h).1
theorem pD {Y:Sg} {i j:Nat} {x y:O} (h:Y[j]? = some y) (hij:i ≠ j):(Y.set i x)[j]? = some y:=by rw [getElem?_set_ne hij]; exact h
theorem Ql (h:bM E) {s:AxS.Step} {p q:V} (ip:IS aJ p s.args) (iq:IS aJ q s.lits) (hp:s.args.length <= 8796093022208) (hq:s.lits.length <= 8796093022208) {Y:Sg} (F:FT) (g5:F.get 5 = .ref Y.length 0) {st:List kY} {Q:Ax.X -> Fr -> Sg -> Prop}
  (hk:∀ F' p' q',(∀ i,i < 30 -> F'.get i = F.get i) -> jW aJ p' s.args -> jW aJ q' s.lits -> M E st .normal ⟨45,F'⟩ (Y ++ [O.cells 75 [.str s.out,.int .i64 s.op,p',q',.int .i64 s.n] true]) Q):R E (.region 6 (opsOf (cutAt [1,1,0,1,2,2,1,0,2,1,0] (aA Tryz.f78).code)) true) st ⟨45,F⟩ (Y ++ [O.cells 75 [.str s.out,.int .i64 s.op,p,q,.int .i64 s.n] true]) Q:=by
 obtain ⟨w1,τ1,p',h1,k1,i1⟩:=xW h ip (by omega)
 obtain ⟨w2,τ2,q',h2,k2,i2⟩:=xW h iq (by omega)
 have s1:=fun Z=>nT (E:=E) ip Z
 have s2:=fun Z=>nT (E:=E) iq Z
 have o1:=aI i1.is.bB
 have o2:=aI i2.is.bB
 have n1:=iR i1.is.bB
 have n2:=iR i2.is.bB
 have key:∃ F',cC E (ev E 0) (opsOf (cutAt [1,1,0,1,2,2,1,0,2,1,0] (aA Tryz.f78).code)) ⟨45,F⟩ (Y ++ [O.cells 75 [.str s.out,.int .i64 s.op,p,q,.int .i64 s.n] true]) = some (⟨45,F'⟩,Y ++ [O.cells 75 [.str s.out,.int .i64 s.op,p',q',.int .i64 s.n] true]) /\ ∀ i,i < 30 -> F'.get i = F.get i:=by
  unfold cC
  rw [h.Te,h.UI]
  simp only [aA,Tryz.f78,KP,Ax.loadAt,Ax.storeAt,↓reduceIte,reduceEqDiff,reduceLT,reduceLeDiff,reduceAdd,reduceCtorEq,h.aS,h.cP,opsOf,cutAt,Fz.apps,bJ,bW,kC,Ax.comp,tK,fU,aX,g5,h1,h2,k1,k2,s1,s2,o1,o2,n1,n2,C7,aR,cU]
  refine ⟨_,rfl,fun i hi=>?_⟩
  simp only [FT.jR]
  repeat rw [if_neg (by omega)]
 obtain ⟨F',hE,hF⟩:=key
 exact Eq.mpr (iI hE) (hk F' p' q' hF i1 i2)
theorem N4 (h:bM E) {Y:Sg} {w:V} {l:List AxS.Step} {s:AxS.Step} {p q:V} (ow:bH fV 75 Y w l) (ip:jW aJ p s.args) (iq:jW aJ q s.lits) (hb:l.length <= 1000):∃ w' τ',Ax.append E (Y ++ [O.cells 75 [.str s.out,.int .i64 s.op,p,q,.int .i64 s.n] true]) #[35,35] w (.sl Y.length 0 1 none) = some (w',τ') /\ bH fV 75 τ' w' (l ++ [s]) /\ Sp (Y ++ [O.cells 75 [.str s.out,.int .i64 s.op,p,q,.int .i64 s.n] true]) τ' w /\ Y.length <= τ'.length /\ ∀ b,aT w' = some b -> aT w = some b \/ Y.length <= b:=by
 obtain ⟨w',τ',h1,h2,h3,h4,h5⟩:=i_ (m:=[s]) (new:=[[.str s.out,.int .i64 s.op,p,q,.int .i64 s.n]]) h.fE rfl h.cP rfl (by decide) (Aa h) rfl (ow.app [O.cells 75 [.str s.out,.int .i64 s.op,p,q,.int .i64 s.n] true]) (jT rfl) (.one ⟨p,q,rfl,ip,iq⟩) (dX (b:=1001) (by decide) (by simp only [length_cons,length_nil]; omega))
 refine ⟨w',τ',h1,h2,h3,?_,fun b e=>?_⟩
 ·simp only [length_append,length_cons,length_nil] at h4; omega
 ·rcases h5 b e with g | g
  ·exact .inl g
  ·simp only [length_append,length_cons,length_nil] at g; exact .inr (by omega)
def XM (Y:Sg) (lo:Nat) (v:V) (x:aF):Prop:=∃ a b c w,v = .agg [.str x.name,a,b,c,w] /\ jW aJ a x.ins /\ jW aJ b x.outs /\ jW aJ c x.after /\ bH fV 75 Y w x.steps /\ ∀ b,aT w = some b -> lo <= b
theorem S1 (h:bM E) {v:V} {x:aF} (hv:GR v x) (hx:XL x):aB E 78 [v] Z fun v' Y=>XM Y Z.length v' x /\ Kp Z Y:=by
 obtain ⟨a,b,c,d,rfl,ia,ib,ic,id⟩:=hv
 have a4:=hx.steps
 have ha:=aI ia.bB
 have hb:=aI ib.bB
 have hc:=aI ic.bB
 have hd:=aI id.bB
 have ld:=kV h id
 rw [fK h.hs78 h.sp78 h.fn78 h.md78,bD (by kernel_rfl)]
 simp only [aA,Tryz.f78,KP,↓reduceIte,reduceLT,reduceAdd,h.bE,ha,hb,hc,hd]
 have hlen:(Z ++ [O.cells 37 [.str x.name,a,b,c,d] true]).length = Z.length + 1:=by simp
 have b0:(Z ++ [O.cells 37 [.str x.name,a,b,c,d] true] ++ [O.cells 37 [.str [],.aC,.aC,.aC,.aC] true])[Z.length]? = some (O.cells 37 [.str x.name,a,b,c,d] true):=aL aR
 have z0:(Z ++ [O.cells 37 [.str x.name,a,b,c,d] true] ++ [O.cells 37 [.str [],.aC,.aC,.aC,.aC] true])[Z.length + 1]? = some (O.cells 37 [.str [],.aC,.aC,.aC,.aC] true):=by rw [<- hlen]; exact aR
 have kp:Kp Z (Z ++ [O.cells 37 [.str x.name,a,b,c,d] true] ++ [O.cells 37 [.str [],.aC,.aC,.aC,.aC] true]):=fun c o e=>aL (aL e)
 have hl2:(Z ++ [O.cells 37 [.str x.name,a,b,c,d] true] ++ [O.cells 37 [.str [],.aC,.aC,.aC,.aC] true]).length = Z.length + 2:=by simp
 simp only [hlen]
 generalize Z ++ [O.cells 37 [.str x.name,a,b,c,d] true] ++ [O.cells 37 [.str [],.aC,.aC,.aC,.aC] true] = Y at *
 refine Qn h ia ib ic hx b0 _ ?_ ?_ ?_
 ·exact (by simp +decide only [GS])
 ·exact (by simp +decide only [GS])
 intro F1 a' b' c' g1 g2 g3 i1 i2 i3
 simp only [KP,↓reduceIte,reduceLT]
 have b1:=aL (x:=O.cells 37 [.str x.name,a',b',c',.aC] true) b0
 have z1:=aL (x:=O.cells 37 [.str x.name,a',b',c',.aC] true) z0
 have kp1:Kp Z (Y ++ [O.cells 37 [.str x.name,a',b',c',.aC] true]):=fun c o e=>aL (kp c o e)
 have x1:(Y ++ [O.cells 37 [.str x.name,a',b',c',.aC] true])[Y.length]? = some (O.cells 37 [.str x.name,a',b',c',.aC] true):=aR
 rw [hl2] at x1 g3
 generalize Y ++ [O.cells 37 [.str x.name,a',b',c',.aC] true] = Y at *
 refine aQ (fun i F Y=>Y[Z.length]? = some (O.cells 37 [.str x.name,a,b,c,d] true) /\ Y[Z.length + 1]? = some (O.cells 37 [.str [],.aC,.aC,.aC,.aC] true) /\ Kp Z Y /\ F.get 1 = .ref Z.length 0 /\ F.get 2 = .ref (Z.length + 1) 0 /\ F.get 3 = .ref (Z.length + 2) 0 /\ F.get 4 = .int .i64 (i:Int) /\ ∃ w,Y[Z.length + 2]? = some (O.cells 37 [.str x.name,a',b',c',w] true) /\ bH fV 75 Y w (x.steps.take i) /\ ∀ b,aT w = some b -> Z.length <= b) x.steps.length ?_ ?_ x.steps.length 0 _ _ (by omega) ⟨b1,z1,kp1,(gP (by simp +decide only [GS,g1,g2,g3,and_self]) ⟨.aC,x1,.inl ⟨rfl,rfl⟩,fun b e=>by cases e⟩)⟩
 ·rintro i F Y hi ⟨b0,z0,kp,g1,g2,g3,g4,w,x0,ow,hw⟩ next
  obtain ⟨s,hst⟩:∃ y,x.steps[i]? = some y:=⟨_,List.getElem?_eq_getElem hi⟩
  have hmem:=mem_of_getElem? hst
  have a5:=hx.args s hmem
  have a6:=hx.lits s hmem
  obtain ⟨g,p,q,e1,ip,iq⟩:=t_ h id hst
  have hop:=aI ip.bB
  have hoq:=aI iq.bB
  have hlt:=dR hi
  have hadd:=bU i (by omega)
  rw [aG]
  simp only [KP,Ax.loadAt,Ax.storeAt,↓reduceIte,reduceEqDiff,reduceLT,reduceAdd,reduceCtorEq,h.fE,h.bE,h.cP,g1,g4,b0,ld,hlt,e1,hop,hoq,aR,cU]
  refine Ql h ip iq (by omega) (by omega) _ ?_ ?_
  ·exact (by simp +decide only [GS])
  intro F2 p' q' hF ip' iq'
  have k1:F2.get 1 = .ref Z.length 0:=by rw [hF 1 (by omega)]; exact (by simp +decide only [GS,g1])
  have k2:F2.get 2 = .ref (Z.length + 1) 0:=by rw [hF 2 (by omega)]; exact (by simp +decide only [GS,g2])
  have k3:F2.get 3 = .ref (Z.length + 2) 0:=by rw [hF 3 (by omega)]; exact (by simp +decide only [GS,g3])
  have k4:F2.get 4 = .int .i64 (i:Int):=by rw [hF 4 (by omega)]; exact (by simp +decide only [GS,g4])
  have k5:F2.get 5 = .ref Y.length 0:=by rw [hF 5 (by omega)]; exact (by simp +decide only [GS])
  have hop':=aI ip'.is.bB
  have hoq':=aI iq'.is.bB
  have b1:=aL (x:=O.cells 75 [.str s.out,.int .i64 s.op,p',q',.int .i64 s.n] true) b0
  have z1:=aL (x:=O.cells 75 [.str s.out,.int .i64 s.op,p',q',.int .i64 s.n] true) z0
  have x1:=aL (x:=O.cells 75 [.str s.out,.int .i64 s.op,p',q',.int .i64 s.n] true) x0
  have s1:(Y ++ [O.cells 75 [.str s.out,.int .i64 s.op,p',q',.int .i64 s.n] true])[Y.length]? = some (O.cells 75 [.str s.out,.int .i64 s.op,p',q',.int .i64 s.n] true):=aR
  have ow1:=ow.app [O.cells 75 [.str s.out,.int .i64 s.op,p',q',.int .i64 s.n] true]
  have kp1:Kp Z (Y ++ [O.cells 75 [.str s.out,.int .i64 s.op,p',q',.int .i64 s.n] true]):=fun c o e=>aL (kp c o e)
  have hle:Z.length <= (Y ++ [O.cells 75 [.str s.out,.int .i64 s.op,p',q',.int .i64 s.n] true]).length:=by
   have:=(List.getElem?_eq_some_iff.1 b1).1; omega
  generalize Y ++ [O.cells 75 [.str s.out,.int .i64 s.op,p',q',.int .i64 s.n] true] = τ2 at *
  generalize Y.length = y at *
  obtain ⟨w',τ3,ha3,ow3,Fe,hl3,hb3⟩:=N4 (s:=s) h ow1 ip' iq' (by rw [length_take]; omega)
  have x3:=Fe _ _ (aL x1) (sO x1 (by decide) ow1)
  have b3:=Fe _ _ (aL b1) (sO b1 (by decide) ow1)
  have z3:=Fe _ _ (aL z1) (sO z1 (by decide) ow1)
  have kp3:Kp Z τ3:=fun c o e=>Fe _ _ (aL (kp1 c o e)) (fun e2=>by
   have:=hw c e2
   have:=(List.getElem?_eq_some_iff.1 e).1
   omega)
  obtain ⟨hc1,hc2⟩:=pT ow3
  simp only [KP,Ax.loadAt,Ax.storeAt,↓reduceIte,reduceEqDiff,reduceLT,reduceLeDiff,reduceAdd,reduceMul,reduceCtorEq,h.fE,h.bE,h.cP,k3,k4,k5,x1,x3,s1,ha3,hadd,hc1,hc2,hop',hoq',Ax.fill,gR,Nat.zero_mul]
  refine next _ _ ⟨pD b3 (by omega),pD z3 (by omega),fun c o e=>pD (kp3 c o e) (by have:=(List.getElem?_eq_some_iff.1 e).1; omega),(gP (by simp +decide only [GS,k1,k2,k3,and_self]) ⟨w',tR x3,?_,fun b e=>?_⟩)⟩
  ·have e:x.steps.take (i + 1) = x.steps.take i ++ [s]:=by rw [take_add_one,hst]; rfl
   rw [e]
   refine ow3.keep fun c o hc ho=>pD ho ?_
   intro e2
   rw [<- e2] at hc
   exact sO x3 (by decide) ow3 hc
  ·rcases hb3 b e with g | g
   ·exact hw b g
   ·omega
 ·rintro F Y ⟨b0,z0,kp,g1,g2,g3,g4,w,x0,ow,hw⟩
  have hlt:=dS (Nat.lt_irrefl x.steps.length)
  obtain ⟨hc1,hc2⟩:=pT ow
  have o1:=aI i1.is.bB
  have o2:=aI i2.is.bB
  have o3:=aI i3.is.bB
  have zz:=tR (x:=O.cells 37 [.str x.name,a',b',c',w] true) z0
  rw [take_of_length_le (Nat.le_refl _)] at ow
  rw [aG]
  simp only [KP,Ax.loadAt,Ax.storeAt,↓reduceIte,reduceEqDiff,reduceLT,reduceAdd,reduceCtorEq,h.fE,h.bE,g1,g2,g3,g4,b0,x0,z0,zz,ld,hlt,hc2,o1,o2,o3]
  refine ⟨⟨a',b',c',w,rfl,i1,i2,i3,ow.keep fun c o hc ho=>pD ho ?_,hw⟩,fun c o e=>pD (kp c o e) (by have:=(List.getElem?_eq_some_iff.1 e).1; omega)⟩
  intro e2
  rw [<- e2] at hc
  exact sO z0 (by decide) ow hc
end
end
section
section
variable {E:Env} {Z:Sg} {K:V -> Sg -> Prop}
theorem Du (n k:Nat):iT false .i64 (n:Int) [.int .i64 (k:Int)] = some ((min n k:Nat):Int):=by
 rw [min2]
 by_cases g:(k:Int) < (n:Int)
 ·rw [if_pos g,Nat.min_eq_right (by omega)]
 ·rw [if_neg g,Nat.min_eq_left (by omega)]
theorem wB {α:Type} (l:List α) (k:Nat):l.take (min l.length k) = l.take k:=by
 rw [List.take_eq_take_iff]; omega
theorem Ck (h:bM E) {v:V} {l:List aM} (iv:IS aJ v l) (k:Nat):∃ w,(∀ Z,Ax.slice E Z 28 v none (some (.int .i64 ((min l.length k:Nat):Int))) none = some w) /\ IS aJ w (l.take k):=by
 obtain ⟨w,h1,h2⟩:=u_ h iv (b:=min l.length k) (Nat.min_le_left _ _)
 exact ⟨w,h1,by rwa [wB] at h2⟩
theorem DK (h:bM E) {v:V} {l:List aM} (iv:jW aJ v l) (k:Nat):∃ w,(∀ Z,Ax.slice E Z 28 v none (some (.int .i64 ((min l.length k:Nat):Int))) none = some w) /\ jW aJ w (l.take k):=by
 obtain ⟨w,h1,-,h2⟩:=Bq (lo:=none) (hi:=some (.int .i64 ((min l.length k:Nat):Int))) (a:=0) (b:=min l.length k) h.aS rfl h.cK rfl iv.is (.inr rfl) (.inl ⟨rfl,rfl⟩) (Nat.zero_le _) (Nat.min_le_left _ _)
 refine ⟨w,h1,?_⟩
 have:=h2 iv
 rw [drop_zero,wB] at this
 exact this
theorem KV (h:bM E) {v:V} {l:List AxS.Step} (iv:IS eV v l) (k:Nat):∃ w,(∀ Z,Ax.slice E Z 35 v none (some (.int .i64 ((min l.length k:Nat):Int))) none = some w) /\ IS eV w (l.take k):=by
 obtain ⟨w,h1,h2,-⟩:=Bq (lo:=none) (hi:=some (.int .i64 ((min l.length k:Nat):Int))) (a:=0) (b:=min l.length k) h.fE rfl h.cP rfl iv (.inr rfl) (.inl ⟨rfl,rfl⟩) (Nat.zero_le _) (Nat.min_le_left _ _)
 refine ⟨w,h1,?_⟩
 rw [drop_zero,wB] at h2
 exact h2
def qE (x:aF):aF:={ x with ins:=x.ins.take 10,outs:=x.outs.take 6,after:=x.after.take 10,steps:=x.steps.take 14 }
def AH (s:AxS.Step):AxS.Step:={ s with args:=s.args.take 8,lits:=s.lits.take 3 }
def cut (x:aF):aF:={ qE x with steps:=(x.steps.take 14).map AH }
theorem KW (x:aF):Small (cut x):=by
 refine ⟨?_,?_,?_,?_,fun s hs=>?_,fun s hs=>?_⟩
 ·show (x.ins.take 10).length <= 10; rw [length_take]; omega
 ·show (x.outs.take 6).length <= 6; rw [length_take]; omega
 ·show (x.after.take 10).length <= 10; rw [length_take]; omega
 ·show ((x.steps.take 14).map AH).length <= 14; rw [length_map,length_take]; omega
 ·obtain ⟨q,_,rfl⟩:=mem_map.1 hs
  show (q.args.take 8).length <= 8; rw [length_take]; omega
 ·obtain ⟨q,_,rfl⟩:=mem_map.1 hs
  show (q.lits.take 3).length <= 3; rw [length_take]; omega
structure Raw (x:aF):Prop where
 args:∀ s ∈ x.steps,s.args.length <= 8796093022208
 lits:∀ s ∈ x.steps,s.lits.length <= 8796093022208
theorem Raw.mid {x:aF} (h:Raw x):XL (qE x):=by
 refine ⟨?_,?_,?_,?_,fun s hs=>h.args s (List.mem_of_mem_take hs),fun s hs=>h.lits s (List.mem_of_mem_take hs)⟩
 ·show (x.ins.take 10).length <= 10; rw [length_take]; omega
 ·show (x.outs.take 6).length <= 6; rw [length_take]; omega
 ·show (x.after.take 10).length <= 10; rw [length_take]; omega
 ·show (x.steps.take 14).length <= 14; rw [length_take]; omega
theorem MS (h:bM E) {x:aF} {a b c d:V} (ia:IS aJ a x.ins) (ib:IS aJ b x.outs) (ic:IS aJ c x.after) (id:IS eV d x.steps) (F:FT) (g1:F.get 1 = .ref 0 0) (g2:F.get 2 = .ref 1 0) {st:List kY} {Q:Ax.X -> Fr -> Sg -> Prop}
  (hk:∀ F' a' b' c' d',F'.get 1 = .ref 0 0 -> F'.get 2 = .ref 1 0 -> F'.get 3 = .ref 2 0 -> IS aJ a' (x.ins.take 10) -> IS aJ b' (x.outs.take 6) -> IS aJ c' (x.after.take 10) -> IS eV d' (x.steps.take 14) ->
   M E st .normal ⟨86,F'⟩ [O.cells 37 [.str x.name,a,b,c,d] true,O.cells 37 [.str [],.aC,.aC,.aC,.aC] true,O.cells 37 [.str x.name,a',b',c',d'] true] Q) :
  R E (.region 1 (opsOf (cutAt [1,0] (aA Tryz.f59).code)) true) st ⟨86,F⟩ [O.cells 37 [.str x.name,a,b,c,d] true,O.cells 37 [.str [],.aC,.aC,.aC,.aC] true] Q:=by
 obtain ⟨a',sa,ia'⟩:=Ck h ia 10
 obtain ⟨b',sb,ib'⟩:=Ck h ib 6
 obtain ⟨c',sc,ic'⟩:=Ck h ic 10
 obtain ⟨d',sd,id'⟩:=KV h id 14
 have la:=bK h ia
 have lb:=bK h ib
 have lc:=bK h ic
 have ld:=kV h id
 have m1:=Du x.ins.length 10
 have m2:=Du x.outs.length 6
 have m3:=Du x.after.length 10
 have m4:=Du x.steps.length 14
 have o1:=aI ia'.bB
 have o2:=aI ib'.bB
 have o3:=aI ic'.bB
 have o4:=aI id'.bB
 have n1:=iR ia'.bB
 have n2:=iR ib'.bB
 have n3:=iR ic'.bB
 have n4:=iR id'.bB
 have v1:=bY 10 ia
 have v2:=bY 10 ib
 have v3:=bY 10 ic
 have v4:=nO 9 id
 have u1:=bY 10 ia'
 have u2:=bY 10 ib'
 have u3:=bY 10 ic'
 have u4:=nO 9 id'
 have vs:=vZ 11 x.name
 have vi:=fun k i=>Iq 11 k i
 have m1:iT false .i64 (x.ins.length:Int) [.int .i64 10] = some ((min x.ins.length 10:Nat):Int):=m1
 have m2:iT false .i64 (x.outs.length:Int) [.int .i64 6] = some ((min x.outs.length 6:Nat):Int):=m2
 have m3:iT false .i64 (x.after.length:Int) [.int .i64 10] = some ((min x.after.length 10:Nat):Int):=m3
 have m4:iT false .i64 (x.steps.length:Int) [.int .i64 14] = some ((min x.steps.length 14:Nat):Int):=m4
 have key:∃ F',cC E (ev E 0) (opsOf (cutAt [1,0] (aA Tryz.f59).code)) ⟨86,F⟩ [O.cells 37 [.str x.name,a,b,c,d] true,O.cells 37 [.str [],.aC,.aC,.aC,.aC] true] = some (⟨86,F'⟩,[O.cells 37 [.str x.name,a,b,c,d] true,O.cells 37 [.str [],.aC,.aC,.aC,.aC] true,O.cells 37 [.str x.name,a',b',c',d'] true]) /\ F'.get 1 = .ref 0 0 /\ F'.get 2 = .ref 1 0 /\ F'.get 3 = .ref 2 0:=by
  unfold cC
  rw [h.Tm,h.UQ]
  simp only [aA,Tryz.f59,KP,Ax.loadAt,Ax.storeAt,↓reduceIte,reduceEqDiff,reduceLT,reduceAdd,reduceCtorEq,h.cK,h.aS,h.fE,h.bE,opsOf,cutAt,gW,bJ,bW,kC,Ax.comp,Ax.last,g_,Ax.again,aO,Ax.fill,Ax.placeOf,g1,la,lb,lc,ld,sa,sb,sc,sd,m1,m2,m3,m4,o1,o2,o3,o4,n1,n2,n3,n4,v1,v2,v3,v4,u1,u2,u3,u4,vs,vi]
  exact ⟨_,rfl,(by simp +decide only [GS,g1,g2,and_self])⟩
 obtain ⟨F',hE,k1,k2,k3⟩:=key
 exact Eq.mpr (iI hE) (hk F' a' b' c' d' k1 k2 k3 ia' ib' ic' id')
theorem oI {sz:Nat}:∀ (rs:List (List V)),(∀ r ∈ rs,r.length = sz) -> ∀ (i:Nat) (r:List V),rs[i]? = some r -> ∀ k,k < sz -> rs.flatten[i * sz + k]? = r[k]?
 | [],_,i,r,e,_,_=>by cases e
 | x :: rs,h,0,r,e,k,hk=>by
  cases e
  have hr:=h x (List.mem_cons_self ..)
  rw [flatten_cons,Nat.zero_mul,Nat.zero_add,getElem?_append_left (by omega)]
 | x :: rs,h,i + 1,r,e,k,hk=>by
  have hr:=h x (List.mem_cons_self ..)
  rw [flatten_cons,getElem?_append_right (by rw [Nat.succ_mul]; omega),show (i + 1) * sz + k - x.length = i * sz + k by rw [Nat.succ_mul]; omega]
  exact oI rs (fun y hy=>h y (List.mem_cons_of_mem _ hy)) i r e k hk
theorem Me {sz:Nat} {rs:List (List V)} (h:∀ r ∈ rs,r.length = sz) {i:Nat} {r:List V} (e:rs[i]? = some r) {k:Nat} (hk:k < sz) (u:V):setCells rs.flatten (i * sz + k) [u] = (rs.set i (r.set k u)).flatten:=by
 have hil:=(List.getElem?_eq_some_iff.1 e).1
 have hrl:r.length = sz:=h r (mem_of_getElem? e)
 have hfl:rs.flatten.length = rs.length * sz:=mQ rs h
 have him:(i + 1) * sz <= rs.length * sz:=Nat.mul_le_mul_right _ hil
 rw [Nat.succ_mul] at him
 rw [<- Br rs i (r.set k u) h (by rw [length_set]; exact hrl) hil]
 apply List.ext_getElem?
 intro q
 unfold setCells
 have l1:(rs.flatten.take (i * sz + k)).length = i * sz + k:=by rw [length_take]; omega
 have l2:(rs.flatten.take (i * sz)).length = i * sz:=by rw [length_take]; omega
 rw [append_assoc,append_assoc,length_singleton,length_set,hrl]
 rcases Nat.lt_trichotomy q (i * sz + k) with hq | rfl | hq
 ·rw [getElem?_append_left (by omega),getElem?_take,if_pos hq]
  by_cases g:q < i * sz
  ·rw [getElem?_append_left (by omega),getElem?_take,if_pos g]
  ·rw [getElem?_append_right (by omega),l2,getElem?_append_left (by rw [length_set]; omega),getElem?_set_ne (by omega)]
   obtain ⟨d,rfl⟩:∃ d,q = i * sz + d:=⟨q - i * sz,by omega⟩
   rw [Nat.add_sub_cancel_left]
   exact oI rs h i r e d (by omega)
 ·have e0:([u] ++ rs.flatten.drop (i * sz + k + 1))[0]? = some u:=rfl
  rw [getElem?_append_right (by omega),l1,Nat.sub_self,e0,getElem?_append_right (by omega),l2,Nat.add_sub_cancel_left,getElem?_append_left (by rw [length_set]; omega),getElem?_set_self (by omega)]
 ·rw [getElem?_append_right (by omega),l1,getElem?_append_right (by rw [length_singleton]; omega),length_singleton,getElem?_drop,show i * sz + k + 1 + (q - (i * sz + k) - 1) = q by omega]
  rw [getElem?_append_right (by omega),l2]
  by_cases g:q - i * sz < sz
  ·rw [getElem?_append_left (by rw [length_set]; omega),getElem?_set_ne (by omega)]
   obtain ⟨d,rfl⟩:∃ d,q = i * sz + d:=⟨q - i * sz,by omega⟩
   rw [Nat.add_sub_cancel_left]
   exact oI rs h i r e d (by omega)
  ·rw [getElem?_append_right (by rw [length_set]; omega),length_set,hrl,getElem?_drop,show i * sz + sz + (q - i * sz - sz) = q by omega]
end
end
end Go.Proofs.YtlbbdpkjeeiahaaGreatDoor
end
section
namespace Go.Proofs.YtlbbdpkjeeiahaaGreatDoor
open Go Go.Ax Go.AxS Go.ChangeShapes Go.WideShapes Go.ChangeAt Go.RowKit
section
theorem EN (s:ByteArray):(Ax.bytes s).length = s.size:=by
 unfold Ax.bytes
 rw [length_map]
 rfl
section
variable {W:World} {I:Bool -> Nat -> Prop} {blk:Nat}
theorem Nz {r:List V} {cs:List Value}:∀ {off:Nat},AN W I r cs -> (∀ j,j < cs.length -> W.cell? ⟨blk,off + j,none⟩ = cs[j]?) -> cZ W I r blk off:=by
 induction r generalizing cs with
 | nil=>intro off h hc; exact .nil
 | cons v r ih=>
  intro off h hc
  cases h with
  | cons _ x _ xs hv hr=>
   have h0:=hc 0 (by simp)
   refine .cons v x r (by simpa using h0) hv (ih hr fun j hj=>?_)
   have:=hc (j + 1) (by simpa using hj)
   rw [show off + 1 + j = off + (j + 1) by omega,this]
   rfl
theorem I1 {sz off:Nat} {R:Nat -> List V} {C:Nat -> List Value}:∀ (n k:Nat),(∀ i,k <= i -> i < k + n -> (R i).length = sz /\ (C i).length = sz /\ AN W I (R i) (C i) /\ ∀ j,j < sz -> W.cell? ⟨blk,off + i * sz + j,none⟩ = (C i)[j]?) ->
  dZ W I sz ((List.range' k n).map R) blk (off + k * sz)
 | 0,k,_=>.nil
 | n + 1,k,h=>by
  rw [List.range'_succ,map_cons]
  obtain ⟨h1,h2,h3,h4⟩:=h k (Nat.le_refl _) (by omega)
  refine .cons _ _ h1 (Nz h3 fun j hj=>h4 j (by omega)) ?_
  have:=I1 (off:=off) n (k + 1) fun i hi hn=>h i (by omega) (by omega)
  rw [show off + (k + 1) * sz = off + k * sz + sz by rw [Nat.succ_mul]; omega] at this
  exact this
end
def Reads (W:World) (t n:Nat) (Q:List V -> Prop):Prop:=∀ {H:Type} (enc:TypeId × Value -> H) (fuel:Nat) (cs:List Value) (d:DataW H) (p:List MemPlace),DataW.trod enc Tryz.prog W 0 (fun _=>true) true fuel t cs = some (d,p) -> (DataW.weights Tryz.prog t d).all (· <= reachBytes) = true -> cs.length = n /\ ∃ r:List V,r.length = n /\ Q r /\ AN W (wA W).bB r cs
theorem Reads.mono {W:World} {t n:Nat} {Q Q':List V -> Prop} (h:Reads W t n Q) (k:∀ r,Q r -> Q' r):Reads W t n Q':=fun enc fuel cs d p h1 h2=>by
 obtain ⟨a,r,b,c,e⟩:=h enc fuel cs d p h1 h2
 exact ⟨a,r,b,k r c,e⟩
def Ef (s:aM):Prop:=s.length <= 9223372036854775806
theorem yJ (W:World):Reads W 9 1 fun r=>∃ s,r = [.str s] /\ Ef s:=fun enc fuel cs d p h hw=>by
 obtain ⟨s,rfl,hx,hl⟩:=DataW.trod_string Tryz.underlying9 h
 refine ⟨rfl,[.str (Ax.bytes s)],rfl,⟨_,rfl,?_⟩,.cons _ _ _ _ (.str _) .nil⟩
 unfold Ef
 rw [EN]
 rw [show d = .lit (.string s.data.toList) from congrArg Prod.fst hx,DataW.weights] at hw
 simp only [List.all_cons,List.all_nil,Bool.and_true,decide_eq_true_eq] at hw
 have e:reachBytes = 140737488351232:=by decide
 have e1:s.size = s.data.toList.length:=rfl
 omega
theorem Df (W:World):Reads W 3 1 fun r=>∃ n:Int,r = [.int .i64 n]:=fun enc fuel cs d p h hw=>by
 obtain ⟨n,rfl,hx,-⟩:=DataW.trod_int Tryz.underlying3 h
 exact ⟨rfl,[.int .i64 n],rfl,⟨n,rfl⟩,.cons _ _ _ _ (.int _ _) .nil⟩
theorem sV {H:Type} {e w:Nat} {d:DataW H}:∀ {l:List (DataW H)},d ∈ l -> w ∈ DataW.weights Tryz.prog e d -> w ∈ DataW.weightsAll Tryz.prog e l
 | x :: l,hd,hw=>by
  rw [DataW.weightsAll,mem_append]
  rcases mem_cons.1 hd with rfl | hd
  ·exact .inl hw
  ·exact .inr (sV hd hw)
theorem sM {W:World} {α:Type} [Inhabited α] {L:Lay α} {B:α -> Prop} {t e n bb:Nat} (ht:Tryz.prog.underlying t = some (.slice e)) (ce:Tryz.prog.cellsOf e = n) (hb:Tryz.prog.bytesOf e = bb) (hn:0 < n) (he:Reads W e n fun r=>∃ x,L.P r x /\ B x) :
  Reads W t 1 fun r=>∃ v l,r = [v] /\ IS L v l /\ (∀ x ∈ l,B x) /\ l.length * bb <= reachBytes:=fun {H} enc fuel cs d p h hw=>by
 rcases Go.Deep.open_slice ht h with ⟨rfl,hx⟩ | ⟨a,len,cap,m,k,D,Pl,rfl,hbase,hlc,hcm,hm,hx,hel⟩
 ·exact ⟨rfl,[.aC],rfl,⟨.aC,[],rfl,.inl ⟨rfl,rfl⟩,fun x hx=>(by cases hx),by simp⟩,.cons _ _ _ _ .aC .nil⟩
 ·have hm:m = cap:=by rw [hm]; rfl
  subst hm
  have hd:d = _:=congrArg Prod.fst hx
  dsimp only at hd
  have hwl:len * bb <= reachBytes /\ ∀ i,i < len -> (DataW.weights Tryz.prog e (D i)).all (· <= reachBytes) = true:=by
   rw [hd] at hw
   unfold DataW.weights at hw
   rw [ht] at hw
   simp only [List.all_cons,List.all_append,Bool.and_eq_true,List.all_eq_true,decide_eq_true_eq,length_map,length_range] at hw
   refine ⟨?_,fun i hi=>?_⟩
   ·have h1:=hw.1
    rw [hb] at h1
    refine Nat.le_trans (Nat.mul_le_mul_right _ (by omega)) h1
   ·rw [List.all_eq_true]
    intro w hwi
    rw [decide_eq_true_eq]
    exact hw.2.1 w (sV (mem_map.2 ⟨i,mem_range.2 hi,rfl⟩) hwi)
  by_cases hc:m = 0
  ·subst hc
   obtain rfl:len = 0:=by omega
   exact ⟨rfl,[.bQ true [] false],rfl,⟨_,[],rfl,.inr ⟨true,[],false,rfl,.nil⟩,fun x hx=>(by cases hx),by simp⟩,.cons _ _ _ _ (.emp _ _ a) .nil⟩
  ·obtain ⟨cs0,h0,-⟩:=hel 0 (by omega)
   obtain ⟨-,hl0,hc0⟩:=World.cells?_some h0
   rw [ce] at hl0 hc0
   have hcell:=hc0 0 hn
   obtain ⟨blk,off,sp⟩:=a
   have hadd:((⟨blk,off,sp⟩:Addr).add (0 * n)).add 0 = ⟨blk,off,sp⟩:=by rw [Nat.zero_mul]; rfl
   rw [hadd] at hcell
   have hsome:∃ v,W.cell? ⟨blk,off,sp⟩ = some v:=⟨_,hcell.trans (List.getElem?_eq_getElem (by omega))⟩
   obtain ⟨v0,hv0⟩:=hsome
   have hsp:sp = none /\ blk < W.heap.size:=by
    unfold World.cell? at hv0
    split at hv0
    ·rename_i c u f hblk
     refine ⟨?_,(Array.getElem?_eq_some_iff.1 hblk).1⟩
     cases sp with
     | none=>rfl
     | some q=>simp at hv0
    ·cases hv0
   obtain ⟨rfl,hlt⟩:=hsp
   have each:∀ i,i < len -> ∃ q:List V × List Value × α,q.1.length = n /\ q.2.1.length = n /\ L.P q.1 q.2.2 /\ B q.2.2 /\ AN W (wA W).bB q.1 q.2.1 /\ ∀ j,j < n -> W.cell? ⟨blk,off + i * n + j,none⟩ = q.2.1[j]?:=fun i hi=>by
    obtain ⟨cs',h1,h2⟩:=hel i (by omega)
    obtain ⟨h3,r,h4,⟨x,h5,h5'⟩,h6⟩:=he enc k cs' (D i) (Pl i) h2 (hwl.2 i hi)
    obtain ⟨-,hl1,hc1⟩:=World.cells?_some h1
    rw [ce] at hc1
    refine ⟨(r,cs',x),h4,h3,h5,h5',h6,fun j hj=>?_⟩
    have:=hc1 j hj
    have ea:((⟨blk,off,none⟩:Addr).add (i * n)).add j = ⟨blk,off + i * n + j,none⟩:=by
     rw [Go.Deep.add_add]
     unfold Addr.add
     split
     ·rename_i h0
      rw [show off + i * n + j = off by omega]
     ·rw [Nat.add_assoc]
    rw [ea] at this
    exact this
   obtain ⟨q,hq⟩:=Go.Deep.choose_lt each
   refine ⟨rfl,[.bQ true ((List.range' 0 len).map fun i=>(q i).1) false],rfl,⟨_,(List.range' 0 len).map fun i=>(q i).2.2,rfl,.inr ⟨true,_,false,rfl,?_⟩,fun x hx=>?_,by simpa using hwl.1⟩,.cons _ _ _ _ (.bQ true _ false blk off len m n (On W blk hlt) (by simp) hlc (fun h=>by cases h) ?_) .nil⟩
   ·have hall:∀ (c k:Nat),(∀ i,k <= i -> i < k + c -> L.P (q i).1 (q i).2.2) -> eN L.P ((List.range' k c).map fun i=>(q i).1) ((List.range' k c).map fun i=>(q i).2.2):=by
     intro c
     induction c with
     | zero=>intro k _; exact .nil
     | succ c ih=>
      intro k hk
      rw [List.range'_succ,map_cons,map_cons]
      exact .cons (hk k (Nat.le_refl _) (by omega)) (ih (k + 1) fun i h1 h2=>hk i (by omega) (by omega))
    exact hall len 0 fun i _ hi=>(hq i (by omega)).2.2.1
   ·obtain ⟨i,hi,rfl⟩:=mem_map.1 hx
    rw [List.mem_range'_1] at hi
    exact (hq i (by omega)).2.2.2.1
   ·have:=I1 (W:=W) (I:=Ax.sub true (wA W).bB) (blk:=blk) (off:=off) (sz:=n) (R:=fun i=>(q i).1) (C:=fun i=>(q i).2.1) len 0 fun i _ hi=>⟨(hq i (by omega)).1,(hq i (by omega)).2.1,(hq i (by omega)).2.2.2.2.1,(hq i (by omega)).2.2.2.2.2⟩
    rw [Nat.zero_mul,Nat.add_zero] at this
    exact this
theorem rC {W:World} {I:Bool -> Nat -> Prop} {a:List V} {x:List Value} (h:AN W I a x) {b:List V} {y:List Value} (k:AN W I b y):AN W I (a ++ b) (x ++ y):=by
 induction a generalizing x with
 | nil=>cases h; exact k
 | cons v a ih=>cases h with | cons _ z _ zs hv hr=>exact .cons _ _ _ _ hv (ih hr)
theorem HU {β:Type} {l:List β} (h:l.length = 5):∃ a b c d e,l = [a,b,c,d,e]:=by
 match l,h with
 | [a,b,c,d,e],_=>exact ⟨a,b,c,d,e,rfl⟩
theorem one {β:Type} {l:List β} (h:l.length = 1):∃ a,l = [a]:=by
 match l,h with
 | [a],_=>exact ⟨a,rfl⟩
theorem Bz {W:World} {t:Nat} {f0 f1 f2 f3 f4:Field} {Q0 Q1 Q2 Q3 Q4:List V -> Prop} (ht:Tryz.prog.underlying t = some (.struct #[f0,f1,f2,f3,f4])) (ct:Tryz.prog.cellsOf t = 5) (o0:f0.offset = 0) (o1:f1.offset = 1) (o2:f2.offset = 2) (o3:f3.offset = 3) (o4:f4.offset = 4)
  (c0:Tryz.prog.cellsOf f0.type = 1) (c1:Tryz.prog.cellsOf f1.type = 1) (c2:Tryz.prog.cellsOf f2.type = 1) (c3:Tryz.prog.cellsOf f3.type = 1) (c4:Tryz.prog.cellsOf f4.type = 1)
  (h0:Reads W f0.type 1 Q0) (h1:Reads W f1.type 1 Q1) (h2:Reads W f2.type 1 Q2) (h3:Reads W f3.type 1 Q3) (h4:Reads W f4.type 1 Q4) :
  Reads W t 5 fun r=>∃ a b c d e,r = [a,b,c,d,e] /\ Q0 [a] /\ Q1 [b] /\ Q2 [c] /\ Q3 [d] /\ Q4 [e]:=fun {H} enc fuel cs d p h hw=>by
 obtain ⟨xs,k,-,hx,hl,hxl,hf⟩:=DataW.trod_struct ht h
 rw [ct] at hl
 obtain ⟨v0,v1,v2,v3,v4,rfl⟩:=HU hl
 have hxl:xs.length = 5:=hxl
 obtain ⟨y0,y1,y2,y3,y4,rfl⟩:=HU hxl
 have hd:d = _:=congrArg Prod.fst hx
 dsimp only at hd
 rw [hd] at hw
 unfold DataW.weights at hw
 rw [ht] at hw
 simp only [map_cons,List.map_nil,DataW.weightsEach,List.all_append,Bool.and_eq_true] at hw
 obtain ⟨w0,w1,w2,w3,w4,-⟩:=hw
 have g0:=hf 0 f0 rfl
 have g1:=hf 1 f1 rfl
 have g2:=hf 2 f2 rfl
 have g3:=hf 3 f3 rfl
 have g4:=hf 4 f4 rfl
 rw [o0,c0] at g0
 rw [o1,c1] at g1
 rw [o2,c2] at g2
 rw [o3,c3] at g3
 rw [o4,c4] at g4
 obtain ⟨-,r0,l0,q0,i0⟩:=h0 enc k [v0] y0.1 y0.2 g0 w0
 obtain ⟨-,r1,l1,q1,i1⟩:=h1 enc k [v1] y1.1 y1.2 g1 w1
 obtain ⟨-,r2,l2,q2,i2⟩:=h2 enc k [v2] y2.1 y2.2 g2 w2
 obtain ⟨-,r3,l3,q3,i3⟩:=h3 enc k [v3] y3.1 y3.2 g3 w3
 obtain ⟨-,r4,l4,q4,i4⟩:=h4 enc k [v4] y4.1 y4.2 g4 w4
 obtain ⟨a,rfl⟩:=one l0
 obtain ⟨b,rfl⟩:=one l1
 obtain ⟨c,rfl⟩:=one l2
 obtain ⟨d',rfl⟩:=one l3
 obtain ⟨e,rfl⟩:=one l4
 exact ⟨hl,[a,b,c,d',e],rfl,⟨a,b,c,d',e,rfl,q0,q1,q2,q3,q4⟩,rC i0 (rC i1 (rC i2 (rC i3 i4)))⟩
theorem nX (W:World):Reads W 28 1 fun r=>∃ v l,r = [v] /\ IS aJ v l /\ (∀ x ∈ l,Ef x) /\ l.length * 16 <= reachBytes:=
 sM (L:=aJ) Tryz.underlying28 (by kernel_rfl) (by kernel_rfl) (by decide) (Reads.mono (yJ W) fun r ⟨s,h1,h2⟩=>⟨s,h1,h2⟩)
instance:Inhabited AxS.Step:=⟨⟨[],0,[],[],0⟩⟩
instance:Inhabited aF:=⟨⟨[],[],[],[],[]⟩⟩
def XJ (s:AxS.Step):Prop:=s.args.length <= 8796093022208 /\ s.lits.length <= 8796093022208
theorem VG {n:Nat} (h:n * 16 <= reachBytes):n <= 8796093022208:=by
 have e:reachBytes = 140737488351232:=by decide
 omega
theorem Hw (W:World):Reads W 75 5 fun r=>∃ x,eV.P r x /\ XJ x:=
 Reads.mono (Bz Tryz.underlying75 (by kernel_rfl) rfl rfl rfl rfl rfl (by kernel_rfl) (by kernel_rfl) (by kernel_rfl) (by kernel_rfl) (by kernel_rfl) (yJ W) (Df W) (nX W) (nX W) (Df W)) fun r ⟨a,b,c,d,e,hr,⟨s,h0,_⟩,⟨n,h1⟩,⟨v2,l2,h2,i2,_,b2⟩,⟨v3,l3,h3,i3,_,b3⟩,⟨m,h4⟩⟩=>by
  cases h0; cases h1; cases h2; cases h3; cases h4
  exact ⟨⟨s,n,l2,l3,m⟩,⟨_,_,hr,i2,i3⟩,VG b2,VG b3⟩
theorem Hx (W:World):Reads W 37 5 fun r=>∃ x,cV.P r x /\ Raw x:=
 Reads.mono (Bz Tryz.underlying37 (by kernel_rfl) rfl rfl rfl rfl rfl (by kernel_rfl) (by kernel_rfl) (by kernel_rfl) (by kernel_rfl) (by kernel_rfl) (yJ W) (nX W) (nX W) (nX W) (sM (L:=eV) Tryz.underlying35 (by kernel_rfl) rfl (by decide) (Hw W))) fun r ⟨a,b,c,d,e,hr,⟨s,h0,_⟩,⟨v1,l1,h1,i1,_⟩,⟨v2,l2,h2,i2,_⟩,⟨v3,l3,h3,i3,_⟩,⟨v4,l4,h4,i4,hB,_⟩⟩=>by
  cases h0; cases h1; cases h2; cases h3; cases h4
  exact ⟨⟨s,l1,l2,l3,l4⟩,⟨_,_,_,_,hr,i1,i2,i3,i4⟩,⟨fun s hs=>(hB s hs).1,fun s hs=>(hB s hs).2⟩⟩
theorem Fy (W:World):Reads W 22 1 fun r=>∃ v l,r = [v] /\ IS cV v l /\ (∀ x ∈ l,Raw x) /\ l.length * Tryz.prog.bytesOf 37 <= reachBytes:=
 sM (L:=cV) Tryz.underlying22 (by kernel_rfl) rfl (by decide) (Hx W)
section
variable {H:Type} {enc:TypeId × Value -> H} {W:World} {base:Nat} {v:Value} {d:DataW H} {p:List MemPlace}
theorem QB {t:Nat} {Q:List V -> Prop} (hr:Reads W t 1 Q) (hc:v.cells = #[v]) (h:DataW.Trod enc Tryz.prog W 0 (fun _=>true) true t v d p) (hw:(DataW.weights Tryz.prog t d).all (· <= reachBytes) = true):∃ a,Q [a] /\ VR (wA W) a v:=by
 obtain ⟨fuel,h⟩:=h
 rw [hc] at h
 obtain ⟨-,r,h1,h2,h3⟩:=hr enc fuel _ d p h hw
 obtain ⟨a,rfl⟩:=one h1
 cases h3 with
 | cons _ _ _ _ hv _=>exact ⟨a,h2,.inl hv⟩
theorem Fq {t e:Nat} (ht:Tryz.prog.underlying t = some (.slice e)) (hv:Value.okWide Tryz.prog W .any base t v):v.cells = #[v]:=by
 unfold Value.okWide at hv
 rw [ht] at hv
 have hv:Cell.okWide Tryz.prog W .any base t v:=hv
 unfold Cell.okWide Cell.ok at hv
 rw [ht] at hv
 cases v with
 | slice q len cap=>rfl
 | _=>exact hv.elim
theorem Li (hv:Value.okWide Tryz.prog W .any base 22 v) (h:DataW.Trod enc Tryz.prog W 0 (fun _=>true) true 22 v d p) (hw:(DataW.weights Tryz.prog 22 d).all (· <= reachBytes) = true):∃ a l,IS cV a l /\ (∀ x ∈ l,Raw x) /\ VR (wA W) a v:=by
 obtain ⟨a,⟨v',l,e,h1,h2,-⟩,h3⟩:=QB (Fy W) (Fq Tryz.underlying22 hv) h hw
 cases e
 exact ⟨a,l,h1,h2,h3⟩
end
end
end Go.Proofs.YtlbbdpkjeeiahaaGreatDoor
end
section
namespace Go.Proofs.YtlbbdpkjeeiahaaGreatDoor
open Go Go.Ax
noncomputable def spL:BT (List V -> Option V):=(.node 171 (.node 148 (.leaf 11 (bG t11)) (.leaf 148 nS)) (.node 254 (.leaf 171 kT) (.node 295 (.leaf 254 kE) (.leaf 295 wC))))
noncomputable def LE:Env:=ground.env spL
end Go.Proofs.YtlbbdpkjeeiahaaGreatDoor
end
section
namespace Go.Proofs.YtlbbdpkjeeiahaaGreatDoor
open Go Go.Ax Go.ChangeShapes Go.WideShapes Go.ChangeAt Go.RowKit
theorem Rq:spL.yA (fP Tryz.prog (ground.env .nil)):=⟨⟨Uk,Ma⟩,⟨L_,⟨L9,L8⟩⟩⟩
theorem NV {G:Ax.Ground Tryz.prog} (hG:lR G) (hgl:G.gl = DD) {s:BT (List V -> Option V)} (hs:s.yA (fP Tryz.prog (G.env .nil))) {n f:Nat} {vs:List V} {W:World} (hW:W.ShapedOpen Tryz.prog) (h:Ax.call (G.env s) n f vs = some (.bool true)) {xs:List Value} (hv:eY (wA W) vs xs) :
  Calls Tryz.prog f xs.toArray W fun e W'=>e = .returned (.bool true) /\ Below W.heap.size W W':=by
 refine (Cq (hG.Nl s) (hG.Ni hs) mixed h (d:=wA W) rfl (Rm hW hgl) hv).mono ?_
 rintro e w' ⟨x,d',rfl,rfl,h1,h2,h3,h4⟩
 have hx:=h4.iB
 subst hx
 exact ⟨rfl,h2.os,h2.tape,h2.output,h2.size,fun k hk=>(h2.keep k hk fun ⟨b,⟨o,ho,_⟩,_⟩=>by cases ho).1⟩
end Go.Proofs.YtlbbdpkjeeiahaaGreatDoor
end
section
namespace Go.Proofs.YtlbbdpkjeeiahaaGreatDoor
open Go Go.Ax Go.AxS
section
section
variable {E:Env} {Z:Sg} {K:V -> Sg -> Prop}
theorem Rc (m b o n:Nat):r_ (m + 1) (.sl b o n none) (.sl b o n none) = true:=by
 show (decide (b = b) && decide (o = o) && decide (n = n)) = true
 simp
theorem Iw (h:bM E) {Y:Sg} {b:Nat} {ex:Bool} {rs:List (List V)} (hl:∀ r ∈ rs,r.length = 5) (hb:Y[b]? = some (.cells 75 rs.flatten ex)) {i:Nat} {r:List V} (hr:rs[i]? = some r) {k:Nat} (hk:k < 5) {u:V} (hu:Ax.bB u = true) :
  storeAt E Y 28 (.ref b (i * 5 + k)) u = some (Y.set b (.cells 75 (rs.set i (r.set k u)).flatten ex)):=by
 have hil:=(List.getElem?_eq_some_iff.1 hr).1
 have hfl:rs.flatten.length = rs.length * 5:=mQ rs hl
 unfold storeAt
 simp only [h.aS,hb]
 rw [iR hu,if_pos (by simp only [length_cons,length_nil,List.all_cons,List.all_nil,aI hu,Bool.and_true,Bool.and_eq_true,decide_eq_true_eq]; exact ⟨rfl,by omega⟩),Me hl hr hk]
theorem Jk (h:bM E) {Y:Sg} {b:Nat} {ex:Bool} {rs:List (List V)} (hl:∀ r ∈ rs,r.length = 5) (hb:Y[b]? = some (.cells 75 rs.flatten ex)) {i:Nat} {r:List V} (hr:rs[i]? = some r) {k:Nat} (hk:k < 5) {u:V} (hu:r[k]? = some u):loadAt E Y 28 (.ref b (i * 5 + k)) = some u:=by
 unfold loadAt
 simp only [h.aS,hb,Ax.isAgg,Bool.false_eq_true,if_false]
 rw [oI rs hl i r hr k hk,hu]
theorem MR (h:bM E) {l:List AxS.Step} {s:AxS.Step} {nm:aM} {a' b' c' w:V} {Y:Sg} {i:Nat} (hi:l[i]? = some s) (x0:Y[2]? = some (O.cells 37 [.str nm,a',b',c',w] true)) (ow:bH fV 75 Y w l) (F:FT) (g1:F.get 2 = .ref 1 0) (g3:F.get 3 = .ref 2 0) (g4:F.get 4 = .int .i64 (i:Int)) {st:List kY} {Q:Ax.X -> Fr -> Sg -> Prop}
  (hk:∀ F' τ',(∀ k,k < 44 -> F'.get k = F.get k) -> bH fV 75 τ' w (l.set i (AH s)) -> Sp Y τ' w -> M E st .normal ⟨86,F'⟩ τ' Q):R E (.region 6 (opsOf (cutAt [1,1,1,0,1,2,2,1,1,0,2,1] (aA Tryz.f59).code)) true) st ⟨86,F⟩ Y Q:=by
 have hil:=(List.getElem?_eq_some_iff.1 hi).1
 rcases ow with ⟨rfl,rfl⟩ | ⟨b,rs,ex,rfl,hb,ha⟩
 ·cases hi
 obtain ⟨r,hr,hP⟩:=ha.get i s hi
 obtain ⟨p,q,rfl,ip,iq⟩:=hP
 have hls:=Lay.lens ha
 have hls:∀ r ∈ rs,r.length = 5:=hls
 obtain ⟨p1,e1,ip1⟩:=DK h ip 8
 obtain ⟨q1,e2,iq1⟩:=DK h iq 3
 have lp:=bK h ip.is
 have lq:=bK h iq.is
 have m1:=Du s.args.length 8
 have m2:=Du s.lits.length 3
 have m1:iT false .i64 (s.args.length:Int) [.int .i64 8] = some ((min s.args.length 8:Nat):Int):=m1
 have m2:iT false .i64 (s.lits.length:Int) [.int .i64 3] = some ((min s.lits.length 3:Nat):Int):=m2
 have ix:indexAddr E 35 (.sl b 0 l.length none) (.int .i64 (i:Int)) = some (.ref b (i * 5)):=by
  have hneg:¬ ((i:Int) < 0):=by omega
  unfold indexAddr
  simp only [hneg,if_false,h.fE,h.cP,Int.toNat_natCast,hil,if_true,Nat.zero_add]
 have d1:=Jk h hls hb hr (k:=2) (by omega) (u:=p) rfl
 have d2:=Jk h hls hb hr (k:=3) (by omega) (u:=q) rfl
 have s1:=Iw h hls hb hr (k:=2) (by omega) (u:=p1) ip1.is.bB
 have hbl:=(List.getElem?_eq_some_iff.1 hb).1
 have hrl:=(List.getElem?_eq_some_iff.1 hr).1
 have hr1:(rs.set i [.str s.out,.int .i64 s.op,p1,q,.int .i64 s.n])[i]? = some [.str s.out,.int .i64 s.op,p1,q,.int .i64 s.n]:=getElem?_set_self hrl
 have ha1:eN fV.P (rs.set i [.str s.out,.int .i64 s.op,p1,q,.int .i64 s.n]) (l.set i { s with args:=s.args.take 8 }):=ha.set (y:={ s with args:=s.args.take 8 }) ⟨p1,q,rfl,ip1,iq⟩ i
 have hls1:∀ r ∈ rs.set i [.str s.out,.int .i64 s.op,p1,q,.int .i64 s.n],r.length = 5:=Lay.lens ha1
 have s1:storeAt E Y 28 (.ref b (i * 5 + 2)) p1 = some (Y.set b (.cells 75 (rs.set i [.str s.out,.int .i64 s.op,p1,q,.int .i64 s.n]).flatten ex)):=s1
 have hb1:(Y.set b (.cells 75 (rs.set i [.str s.out,.int .i64 s.op,p1,q,.int .i64 s.n]).flatten ex))[b]? = some (.cells 75 (rs.set i [.str s.out,.int .i64 s.op,p1,q,.int .i64 s.n]).flatten ex):=tR hb
 have s2:=Iw h hls1 hb1 hr1 (k:=3) (by omega) (u:=q1) iq1.is.bB
 have hb2:b ≠ 2:=fun e=>by subst e; rw [hb] at x0; cases x0
 have x1:(Y.set b (.cells 75 (rs.set i [.str s.out,.int .i64 s.op,p1,q,.int .i64 s.n]).flatten ex))[2]? = some (O.cells 37 [.str nm,a',b',c',.sl b 0 l.length none] true):=pD x0 hb2
 have ldx:∀ Y:Sg,Y[2]? = some (O.cells 37 [.str nm,a',b',c',.sl b 0 l.length none] true) -> loadAt E Y 35 (.ref 2 4) = some (.sl b 0 l.length none):=fun Y hx=>by
  unfold loadAt
  simp only [h.fE,hx,Ax.isAgg,Bool.false_eq_true,if_false]
  rfl
 have w0:=ldx _ x0
 have w1:=ldx _ x1
 have v1:=Rc 11 b 0 l.length
 have v2:=fun k i=>Iq 11 k i
 have v3:=bY 10 iq1.is
 generalize hτ1:Y.set b (.cells 75 (rs.set i [.str s.out,.int .i64 s.op,p1,q,.int .i64 s.n]).flatten ex) = τ1 at *
 have key:∃ F',cC E (ev E 0) (opsOf (cutAt [1,1,1,0,1,2,2,1,1,0,2,1] (aA Tryz.f59).code)) ⟨86,F⟩ Y = some (⟨86,F'⟩,τ1.set b (.cells 75 ((rs.set i [.str s.out,.int .i64 s.op,p1,q,.int .i64 s.n]).set i ([V.str s.out,.int .i64 s.op,p1,q,.int .i64 s.n].set 3 q1)).flatten ex)) /\ ∀ k,k < 44 -> F'.get k = F.get k:=by
  unfold cC
  rw [h.Tl,h.UP]
  simp only [aA,Tryz.f59,KP,↓reduceIte,reduceEqDiff,reduceLT,reduceAdd,reduceCtorEq,h.aS,h.fE,h.bE,h.cP,opsOf,cutAt,gW,bJ,bW,kC,Ax.comp,Ax.last,g_,Ax.again,aO,g3,g4,w0,w1,ix,d1,d2,lp,lq,m1,m2,e1,e2,s1,s2,v1,v2,v3]
  refine ⟨_,rfl,fun k hk=>?_⟩
  simp only [FT.jR]
  repeat rw [if_neg (by omega)]
 obtain ⟨F',hE,hF⟩:=key
 refine Eq.mpr (iI hE) (hk F' _ hF ?_ ?_)
 ·have hn:(l.set i (AH s)).length = l.length:=length_set
  refine .inr ⟨b,_,ex,by rw [hn],tR hb1,?_⟩
  rw [List.set_set]
  exact ha.set (y:=AH s) ⟨p1,q1,rfl,ip1,iq1⟩ i
 ·intro c o e hne
  have hcb:b ≠ c:=fun e2=>hne (by rw [e2]; rfl)
  rw [<- hτ1,List.set_set,getElem?_set_ne hcb]; exact e
theorem Es {l:List AxS.Step} {i:Nat} {s:AxS.Step} (hi:l[i]? = some s):((l.take i).map AH ++ l.drop i).set i (AH s) = (l.take (i + 1)).map AH ++ l.drop (i + 1):=by
 have hil:=(List.getElem?_eq_some_iff.1 hi).1
 have h1:((l.take i).map AH).length = i:=by rw [length_map,length_take]; omega
 rw [List.set_append_right _ _ (by omega),h1,Nat.sub_self,List.drop_eq_getElem_cons hil,set_cons_zero,take_add_one,hi]
 simp
theorem Ld (h:bM E) {v:V} {x:aF} (hv:GR v x) (hx:Raw x):aB E 59 [v] Z fun v' σ'=>σ' = Z /\ ∃ a b c d,v' = .agg [.str x.name,a,b,c,d] /\ jW aJ a (cut x).ins /\ jW aJ b (cut x).outs /\ jW aJ c (cut x).after /\ jW fV d (cut x).steps:=by
 have ev:=hv.snap (E:=E) Z
 obtain ⟨a,b,c,d,rfl,ia,ib,ic,id⟩:=hv
 rw [aH h.hs59 h.sp59 h.fn59 h.md59 (args':=[.agg [.str x.name,a,b,c,d]]) (by simp only [aX,ev]),bD (by kernel_rfl)]
 have ha:=aI ia.bB
 have hb:=aI ib.bB
 have hc:=aI ic.bB
 have hd:=aI id.bB
 simp only [aA,Tryz.f59,KP,↓reduceIte,reduceLT,reduceAdd,h.bE,ha,hb,hc,hd]
 refine MS h ia ib ic id _ ?_ ?_ ?_
 ·exact (by simp +decide only [GS])
 ·exact (by simp +decide only [GS])
 intro F1 a1 b1 c1 d1 g1 g2 g3 i1 i2 i3 i4
 simp only [KP,Ax.loadAt,↓reduceIte,reduceLT,reduceAdd,h.bE,g3]
 refine aU (S1 h (x:=qE x) ⟨a1,b1,c1,d1,rfl,i1,i2,i3,i4⟩ hx.mid) ?_
 rintro v1 Y ⟨⟨a2,b2,c2,w,rfl,j1,j2,j3,ow,hw⟩,kp⟩
 have o1:=aI j1.is.bB
 have o2:=aI j2.is.bB
 have o3:=aI j3.is.bB
 obtain ⟨hc1,hc2⟩:=pT ow
 have z0:Y[1]? = some (O.cells 37 [.str [],.aC,.aC,.aC,.aC] true):=kp 1 _ rfl
 have x0:=kp 2 _ (show ([O.cells 37 [.str x.name,a,b,c,d] true,O.cells 37 [.str [],.aC,.aC,.aC,.aC] true,O.cells 37 [.str x.name,a1,b1,c1,d1] true]:Sg)[2]? = _ from rfl)
 have hw3:∀ k,aT w = some k -> 3 <= k:=hw
 have x1:=tR (x:=O.cells 37 [.str x.name,a2,b2,c2,w] true) x0
 have z1:=pD (x:=O.cells 37 [.str x.name,a2,b2,c2,w] true) z0 (show (2:Nat) ≠ 1 by omega)
 have ow1:bH fV 75 (Y.set 2 (O.cells 37 [.str x.name,a2,b2,c2,w] true)) w (qE x).steps:=ow.keep fun k o hk ho=>pD ho (fun e=>by have:=hw3 k hk; omega)
 have nm0:(qE x).name = x.name:=rfl
 have lw:∀ l:List AxS.Step,l.length = (qE x).steps.length -> ∀ Z,bH fV 75 Z w l -> lenOf E Z 35 w = some (qE x).steps.length:=fun l hl Z o=>by rw [<- hl]; exact pI h.fE rfl o.ls
 have lw1:=lw _ rfl _ ow1
 simp only [KP,Ax.loadAt,Ax.storeAt,↓reduceIte,reduceEqDiff,reduceLT,reduceAdd,reduceCtorEq,h.fE,h.bE,g3,nm0,x0,x1,lw1,o1,o2,o3,hc2]
 generalize Y.set 2 (O.cells 37 [.str x.name,a2,b2,c2,w] true) = Y at *
 refine aQ (fun i F Y=>Y[1]? = some (O.cells 37 [.str [],.aC,.aC,.aC,.aC] true) /\ Y[2]? = some (O.cells 37 [.str x.name,a2,b2,c2,w] true) /\ bH fV 75 Y w (((qE x).steps.take i).map AH ++ (qE x).steps.drop i) /\ F.get 2 = .ref 1 0 /\ F.get 3 = .ref 2 0 /\ F.get 40 = .int .i64 ((qE x).steps.length:Int) /\ F.get 41 = .int .i64 (i:Int)) (qE x).steps.length ?_ ?_ (qE x).steps.length 0 _ _ (by omega) ⟨z1,x1,by simpa using ow1,(by simp +decide only [GS,g2,g3,and_self])⟩
 ·rintro i F Y hi ⟨z0,x0,ow,g2,g3,g40,g41⟩ next
  obtain ⟨s,hst⟩:∃ y,(qE x).steps[i]? = some y:=⟨_,List.getElem?_eq_getElem hi⟩
  have hlt:=dR hi
  have hsz:(qE x).steps.length <= 14:=by show (x.steps.take 14).length <= 14; rw [length_take]; omega
  have hadd:=bU i (by omega)
  have hli:(((qE x).steps.take i).map AH ++ (qE x).steps.drop i)[i]? = some s:=by
   rw [getElem?_append_right (by rw [length_map,length_take]; omega),length_map,length_take,show i - min i (qE x).steps.length = 0 by omega,getElem?_drop,Nat.add_zero,hst]
  rw [aG]
  simp only [KP,↓reduceIte,reduceEqDiff,reduceLT,g40,g41,hlt]
  refine MR h hli x0 ow _ ?_ ?_ ?_ ?_
  ·exact (by simp +decide only [GS,g2])
  ·exact (by simp +decide only [GS,g3])
  ·exact (by simp +decide only [GS])
  intro F2 τ2 hF ow2 sp
  have k2:F2.get 2 = .ref 1 0:=by rw [hF 2 (by omega)]; exact (by simp +decide only [GS,g2])
  have k3:F2.get 3 = .ref 2 0:=by rw [hF 3 (by omega)]; exact (by simp +decide only [GS,g3])
  have k40:F2.get 40 = .int .i64 ((qE x).steps.length:Int):=by rw [hF 40 (by omega)]; exact (by simp +decide only [GS,g40])
  have k41:F2.get 41 = .int .i64 (i:Int):=by rw [hF 41 (by omega)]; exact (by simp +decide only [GS,g41])
  simp only [KP,↓reduceIte,reduceLT,k41,hadd]
  rw [Es hst] at ow2
  exact next _ _ ⟨sp _ _ z0 (sO z0 (by decide) ow),sp _ _ x0 (sO x0 (by decide) ow),ow2,(by simp +decide only [GS,k2,k3,k40,and_self])⟩
 ·rintro F Y ⟨z0,x0,ow,g2,g3,g40,g41⟩
  have hlt:=dS (Nat.lt_irrefl (qE x).steps.length)
  rw [take_of_length_le (Nat.le_refl _),List.drop_of_length_le (Nat.le_refl _),List.append_nil] at ow
  have hne:=sO z0 (show 37 ≠ 75 by decide) ow
  have zz:=tR (x:=O.cells 37 [.str x.name,a2,b2,c2,w] true) z0
  have ow3:bH fV 75 (Y.set 1 (O.cells 37 [.str x.name,a2,b2,c2,w] true)) w ((qE x).steps.map AH):=ow.keep fun k o hk ho=>pD ho (fun e=>by rw [<- e] at hk; exact hne hk)
  rw [aG]
  simp only [KP,Ax.loadAt,Ax.storeAt,↓reduceIte,reduceEqDiff,reduceLT,reduceAdd,h.bE,g2,g3,g40,g41,hlt,x0,z0,zz,o1,o2,o3,hc2]
  generalize Y.set 1 (O.cells 37 [.str x.name,a2,b2,c2,w] true) = Y at *
  obtain ⟨d',e1,id'⟩:=pO h.cP rfl Hi ow3
  have one:∀ {u:V},Ax.bB u = true -> cH false u = true -> aZ.one Y E.ty false u = some u:=fun {u} h1 h2=>by
   have h3:=eZ (Z:=Y) (ty:=E.ty) (g:=false) h1 h2
   cases u <;> first | exact h3 | cases h1
  have oned:aZ.one Y E.ty false w = some d':=by
   rcases ow3 with ⟨rfl,-⟩ | ⟨b,rs,ex,rfl,-⟩
   ·exact e1
   ·exact e1
  have hsn:cT Y E.ty false (.agg [.str x.name,a2,b2,c2,w]) = some (.agg [.str x.name,a2,b2,c2,d']):=by
   show (match aX (aZ.one Y E.ty false) [.str x.name,a2,b2,c2,w] with
    | some l=>some (V.agg l)
    | none=>none) = _
   simp only [aX,one (u:=.str x.name) rfl rfl,one j1.is.bB j1.tag,one j2.is.bB j2.tag,one j3.is.bB j3.tag,oned]
  rw [hsn]
  exact ⟨a2,b2,c2,d',rfl,j1,j2,j3,id'⟩
end
end
section
section
variable {E:Env} {Z:Sg} {K:V -> Sg -> Prop}
def mX:Lay aF:=⟨fun r x=>∃ a b c d,r = [.str x.name,a,b,c,d] /\ jW aJ a x.ins /\ jW aJ b x.outs /\ jW aJ c x.after /\ jW fV d x.steps,5,fun _ _ ⟨_,_,_,_,h,_⟩=>by rw [h]; rfl,fun _ _ ⟨a,b,c,d,h,h1,h2,h3,h4⟩ k hk=>by
 rw [h] at hk
 simp only [mem_cons,List.not_mem_nil,or_false] at hk
 rcases hk with rfl | rfl | rfl | rfl | rfl
 ·rfl
 ·exact h1.is.bB
 ·exact h2.is.bB
 ·exact h3.is.bB
 ·exact h4.is.bB⟩
theorem Bu:∀ r x,mX.P r x -> ∀ k ∈ r,cH false k = true:=fun r x ⟨a,b,c,d,h,h1,h2,h3,h4⟩ k hk=>by
 rw [h] at hk
 simp only [mem_cons,List.not_mem_nil,or_false] at hk
 rcases hk with rfl | rfl | rfl | rfl | rfl
 ·rfl
 ·exact h1.tag
 ·exact h2.tag
 ·exact h3.tag
 ·exact h4.tag
theorem rB {α:Type} {L M:Lay α} {v:V} {l:List α} (h:IS L v l) (k:∀ r x,L.P r x -> M.P r x):IS M v l:=h.imp id fun ⟨g,rs,full,e,ha⟩=>⟨g,rs,full,e,ha.imp k⟩
theorem Pc {α:Type} {L M:Lay α} {t:Nat} {Z:Sg} {v:V} {l:List α} (h:LS L t Z v l) (hn:L.n = M.n) (k:∀ r x,L.P r x -> M.P r x):LS M t Z v l:=h.imp (fun h=>rB h k) fun ⟨b,cs,ex,rs,e,hb,ha,hc⟩=>⟨b,cs,ex,rs,e,hb,ha.imp k,by rw [<- hn]; exact hc⟩
theorem qO:∀ r x,fV.P r x -> eV.P r x:=fun r x ⟨a,l,h,h1,h2⟩=>⟨a,l,h,h1.is,h2.is⟩
theorem vB:∀ r x,mX.P r x -> cV.P r x:=fun r x ⟨a,b,c,d,h,h1,h2,h3,h4⟩=>⟨a,b,c,d,h,h1.is,h2.is,h3.is,rB h4.is qO⟩
theorem GJ (h:bM E) {Y:Sg} {w a b c d:V} {l:List aF} {r:aF} {ex:Bool} (ow:bH mX 37 Y w l) (h1:jW aJ a r.ins) (h2:jW aJ b r.outs) (h3:jW aJ c r.after) (h4:jW fV d r.steps) (hb:l.length <= 1000) :
  ∃ w' τ',Ax.append E (Y ++ [.cells 37 [.str r.name,a,b,c,d] ex]) #[22,22] w (.sl Y.length 0 1 none) = some (w',τ') /\ bH mX 37 τ' w' (l ++ [r]) /\ Sp (Y ++ [.cells 37 [.str r.name,a,b,c,d] ex]) τ' w /\ Y.length <= τ'.length:=by
 obtain ⟨w',τ',q1,q2,q3,q4,-⟩:=i_ (m:=[r]) (new:=[[.str r.name,a,b,c,d]]) h.A_ rfl h.bE rfl (by decide) (sN h) rfl (ow.app [.cells 37 [.str r.name,a,b,c,d] ex]) (jT rfl) (.one ⟨a,b,c,d,rfl,h1,h2,h3,h4⟩) (dX (b:=1001) (by decide) (by simp only [length_cons,length_nil]; omega))
 exact ⟨w',τ',q1,q2,q3,by simp only [length_append,length_cons,length_nil] at q4; omega⟩
theorem Ib (h:bM E) {a:V} {rs:List aF} (ha:LS cV 37 Z a rs) (hr:∀ x ∈ rs,Raw x):aB E 12 [a] Z fun v σ'=>σ' = Z /\ jW mX v ((rs.take 42).map cut):=by
 obtain ⟨a',ea,ia⟩:=dW h ha
 rw [aH h.hs12 h.L6 h.fn12 h.md12 (args':=[a']) (by simp only [aX,ea]),bD (by kernel_rfl)]
 have la:=cA h ia
 simp only [aA,Tryz.f12,KP,↓reduceIte,reduceLT]
 refine aQ (fun i F Y=>F.get 0 = a' /\ F.get 4 = .int .i64 (i:Int) /\ ∃ w,F.get 3 = w /\ bH mX 37 Y w ((rs.take i).map cut)) (min rs.length 42) ?_ ?_ (min rs.length 42) 0 _ _ (by omega) (kW (by simp +decide only [GS,and_self]) ⟨.aC,(by simp +decide only [GS]),.inl ⟨rfl,rfl⟩⟩)
 ·rintro i F Y hi ⟨g0,g4,w,g3,ow⟩ next
  obtain ⟨r,hri⟩:∃ y,rs[i]? = some y:=⟨_,List.getElem?_eq_getElem (by omega)⟩
  have hraw:=hr r (mem_of_getElem? hri)
  obtain ⟨g,p1,p2,p3,p4,e1,i1,i2,i3,i4⟩:=eM h ia hri
  have hlt:=dR (show i < rs.length by omega)
  have hlt2:decide ((i:Int) < 42) = true:=decide_eq_true (by omega)
  have hadd:=bU i (by omega)
  rw [aG]
  simp only [KP,Ax.loadAt,↓reduceIte,reduceEqDiff,reduceLT,reduceAdd,reduceCtorEq,h.bE,g0,g3,g4,la,hlt,hlt2,e1]
  refine aU (Ld h (Mh i1 i2 i3 i4) hraw) ?_
  rintro v σ' ⟨rfl,a1,b1,c1,d1,rfl,j1,j2,j3,j4⟩
  have o1:=aI j1.is.bB
  have o2:=aI j2.is.bB
  have o3:=aI j3.is.bB
  have o4:=aI j4.is.bB
  have hnm:r.name = (cut r).name:=rfl
  obtain ⟨w',τ',ha2,ow2,-,-⟩:=GJ (r:=cut r) (ex:=true) h ow j1 j2 j3 j4 (by rw [length_map,length_take]; omega)
  rw [<- hnm] at ha2
  simp only [KP,↓reduceIte,reduceEqDiff,reduceLT,reduceLeDiff,reduceAdd,reduceMul,h.A_,h.bE,g4,ha2,hadd,o1,o2,o3,o4,Ax.fill,gR,Nat.zero_mul]
  refine next _ _ (kW (by simp +decide only [GS,g0,and_self]) ⟨w',(by simp +decide only [GS]),?_⟩)
  have e:(rs.take (i + 1)).map cut = (rs.take i).map cut ++ [cut r]:=by rw [take_add_one,hri]; simp
  rw [e]
  exact ow2
 ·rintro F Y ⟨g0,g4,w,g3,ow⟩
  obtain ⟨v',e1,iv⟩:=pO h.bE rfl Bu ow
  have ht:rs.take (min rs.length 42) = rs.take 42:=wB rs 42
  rw [ht] at iv
  rw [aG]
  by_cases hlen:rs.length <= 42
  ·have hm:min rs.length 42 = rs.length:=Nat.min_eq_left hlen
   rw [hm] at g4
   have hlt:=dS (Nat.lt_irrefl rs.length)
   simp only [KP,↓reduceIte,reduceEqDiff,reduceLT,reduceCtorEq,g0,g3,g4,la,hlt,e1]
   exact iv
  ·have hm:min rs.length 42 = 42:=Nat.min_eq_right (by omega)
   rw [hm] at g4
   have hlt:decide (((42:Nat):Int) < (rs.length:Int)) = true:=decide_eq_true (by omega)
   have hlt2:decide (((42:Nat):Int) < 42) = false:=rfl
   simp only [KP,↓reduceIte,reduceEqDiff,reduceLT,reduceCtorEq,g0,g3,g4,la,hlt,hlt2,e1]
   exact iv
end
end
section
section
variable {E:Env} {Z:Sg} {K:V -> Sg -> Prop}
theorem PT (h:bM E) {Y:Sg} {w a b c d:V} {l:List aF} {r:aF} {y:Nat} (ow:bH mX 37 Y w l) (hy:Y[y]? = some (.cells 37 [.str r.name,a,b,c,d] true)) (j1:jW aJ a r.ins) (j2:jW aJ b r.outs) (j3:jW aJ c r.after) (j4:jW fV d r.steps) (hs:∀ x ∈ l ++ [r],Small x) (hl:l.length <= 14)
  (F:FT) (g3:F.get 3 = w) (g5:F.get 5 = .ref y 0) {st:List kY} {Q:Ax.X -> Fr -> Sg -> Prop}
  (hk:∀ F' τ' e,(∀ k,k ∈ [0,3,5,9,10,11] -> F'.get k = F.get k) -> F'.get 6 = .int .i64 e -> GW (l ++ [r]) e -> (∀ (k:Nat) (o:O),Y[k]? = some o -> τ'[k]? = some o) -> M E st .normal ⟨37,F'⟩ τ' Q):R E (.region 5 (opsOf (cutAt [1,1,0,1,2,2,1,1,0,2,1,0] (aA Tryz.f16).code)) true) st ⟨37,F⟩ Y Q:=by
 obtain ⟨rs,ee,hee⟩:=Np (t:=37) (Z:=Y) ow.ls
 obtain ⟨w1,τ1,ha1,ow1,S8,-,fb⟩:=i_ (ats:=#[22,22]) (Z:=Y) (w:=.aC) (l:=[]) (L:=mX) (x:=w) (m:=l) h.A_ rfl h.bE rfl (by decide) (sN h) rfl (.inl ⟨rfl,rfl⟩) ee hee (dX (b:=1000) (by decide) (by simp only [length_nil]; omega))
 obtain ⟨w2,τ2,ha2,ow2,QL,-,-⟩:=i_ (ats:=#[22,22]) (Z:=τ1) (x:=.bQ false [[.str r.name,a,b,c,d]] true) (m:=[r]) (new:=[[.str r.name,a,b,c,d]]) h.A_ rfl h.bE rfl (by decide) (sN h) rfl ow1 rfl (.one ⟨a,b,c,d,rfl,j1,j2,j3,j4⟩) (dX (b:=1000) (by decide) (by simp only [List.nil_append,length_cons,length_nil]; omega))
 rw [List.nil_append] at ow2
 have hy1:τ1[y]? = some (.cells 37 [.str r.name,a,b,c,d] true):=S8 _ _ hy (by intro e; cases e)
 have hall:=NF (Z:=τ2) h (Pc ow2.ls rfl vB) ⟨by simp only [length_append,length_cons,length_nil]; omega,hs⟩
 obtain ⟨n,v,σ',hcall,hσ,e,nm,rfl,hE⟩:=hall
 rw [hσ] at hcall
 clear hσ σ'
 have o1:=aI j1.is.bB
 have o2:=aI j2.is.bB
 have o3:=aI j3.is.bB
 have o4:=aI j4.is.bB
 have t1:=j1.tag
 have t2:=j2.tag
 have t3:=j3.tag
 have t4:=j4.tag
 have ts:cH false (.str r.name) = true:=rfl
 have v1:=bY 10 j1.is
 have v2:=bY 10 j2.is
 have v3:=bY 10 j3.is
 have v4:=nO 9 (rB j4.is qO)
 have vs:=vZ 10 r.name
 have va:r_ 12 (.agg [.str r.name,a,b,c,d]) (.agg [.str r.name,a,b,c,d]) = true:=oO fun x hx=>by
  simp only [mem_cons,List.not_mem_nil,or_false] at hx
  rcases hx with rfl | rfl | rfl | rfl | rfl
  ·exact vs
  ·exact bY 9 j1.is
  ·exact bY 9 j2.is
  ·exact bY 9 j3.is
  ·exact nO 8 (rB j4.is qO)
 have key:∃ F',cC E (ev E n) (opsOf (cutAt [1,1,0,1,2,2,1,1,0,2,1,0] (aA Tryz.f16).code)) ⟨37,F⟩ Y = some (⟨37,F'⟩,τ2) /\ (∀ k,k ∈ [0,3,5,9,10,11] -> F'.get k = F.get k) /\ F'.get 6 = .int .i64 e:=by
  unfold cC
  rw [h.To,h.US]
  simp only [aA,Tryz.f16,KP,Ax.loadAt,↓reduceIte,reduceEqDiff,reduceLT,reduceLeDiff,reduceAdd,reduceMul,h.A_,h.bE,opsOf,cutAt,Fz.lits,Fz.apps,gW,bJ,bW,kC,Ax.comp,Ax.last,g_,Ax.again,BQ,Ax.fill,gR,Ax.rows,Nat.zero_mul,g3,g5,hy,hy1,ha1,ha2,hcall,o1,o2,o3,o4,t1,t2,t3,t4,ts,va]
  refine ⟨_,rfl,fun k hk=>?_,(by simp +decide only [GS])⟩
  simp only [mem_cons,List.not_mem_nil,or_false] at hk
  rcases hk with rfl | rfl | rfl | rfl | rfl | rfl <;> simp +decide only [GS]
 obtain ⟨F',hD,h1,h2⟩:=key
 refine Eq.mpr (iI hD) (hk F' τ2 e h1 h2 hE fun k o ho=>?_)
 have h1':=S8 _ _ ho (by intro e; cases e)
 refine QL _ _ h1' fun e=>?_
 rcases fb _ e with hb | hb
 ·cases hb
 ·exact absurd (List.getElem?_eq_some_iff.mp ho).1 (by omega)
theorem NY (h:bM E) {v:V} {l:List aF} (ia:IS mX v l) {i:Nat} {x:aF} (hx:l[i]? = some x):∃ g a b c d,indexAddr E 22 v (.int .i64 (i:Int)) = some (.dB g [.str x.name,a,b,c,d]) /\ jW aJ a x.ins /\ jW aJ b x.outs /\ jW aJ c x.after /\ jW fV d x.steps:=by
 obtain ⟨g,r,e,a,b,c,d,hr,h1⟩:=IS.at h.A_ rfl h.bE rfl ia hx
 exact ⟨g,a,b,c,d,by rw [e,hr],h1⟩
theorem Fv:eU []:=⟨rfl,fun ⟨i,hi,_⟩=>absurd hi (by simp)⟩
theorem S0 (h:bM E) {a:V} {rs:List aF} (ha:LS cV 37 Z a rs) (hr:∀ x ∈ rs,Raw x):aB E 16 [a] Z fun v σ'=>σ' = Z /\ ∃ l,jW mX v l /\ eU l /\ l.length <= 14 /\ ∀ x ∈ l,Small x:=by
 obtain ⟨a',ea,ia⟩:=dW h ha
 rw [aH h.hs16 h.L1 h.fn16 h.md16 (args':=[a']) (by simp only [aX,ea]),bD (by kernel_rfl)]
 simp only [aA,Tryz.f16,KP,↓reduceIte,reduceLT,reduceCtorEq]
 refine aU (Ib h (ia.ls [] 37) hr) ?_
 rintro v σ' ⟨rfl,iv⟩
 have sm:∀ x ∈ (rs.take 42).map cut,Small x:=fun x hx=>by
  obtain ⟨y,-,rfl⟩:=mem_map.1 hx
  exact KW y
 have hl42:((rs.take 42).map cut).length <= 42:=by rw [length_map,length_take]; omega
 generalize (rs.take 42).map cut = ls at iv sm hl42
 have la:=cA h (rB iv.is vB)
 simp only [KP,↓reduceIte,reduceLT,la]
 refine aQ (fun i F Y=>F.get 9 = v /\ F.get 10 = .int .i64 (ls.length:Int) /\ F.get 11 = .int .i64 (i:Int) /\ ∃ w l,F.get 3 = w /\ bH mX 37 Y w l /\ eU l /\ l.length <= 14 /\ ∀ x ∈ l,Small x) ls.length ?_ ?_ ls.length 0 _ _ (by omega) (iZ (by simp +decide only [GS,and_self]) ⟨.aC,[],(by simp +decide only [GS]),.inl ⟨rfl,rfl⟩,Fv,by simp,fun x hx=>by cases hx⟩)
 ·rintro i F Y hi ⟨g9,g10,g11,w,l,g3,ow,hok,hlen,hsm⟩ next
  obtain ⟨r,hri⟩:∃ y,ls[i]? = some y:=⟨_,List.getElem?_eq_getElem (by omega)⟩
  have hrs:=sm r (mem_of_getElem? hri)
  obtain ⟨g,p1,p2,p3,p4,e1,i1,i2,i3,i4⟩:=NY h iv.is hri
  have hlt:=dR hi
  have hadd:=bU i (by omega)
  rw [aG]
  have o1:=aI i1.is.bB
  have o2:=aI i2.is.bB
  have o3:=aI i3.is.bB
  have o4:=aI i4.is.bB
  simp only [KP,Ax.loadAt,Ax.storeAt,↓reduceIte,reduceEqDiff,reduceLT,reduceAdd,h.bE,g9,g10,g11,hlt,e1,o1,o2,o3,o4,aR,cU]
  refine PT h (ow.app _) (y:=Y.length) ?_ i1 i2 i3 i4 ?_ hlen _ ?_ ?_ ?_
  ·simp
  ·intro x hx
   rcases mem_append.1 hx with hx | hx
   ·exact hsm x hx
   ·rw [List.mem_singleton.1 hx]; exact hrs
  ·exact (by simp +decide only [GS,g3])
  ·exact (by simp +decide only [GS])
  intro F' τ' e hF h6 hE hT
  have q3:F'.get 3 = w:=(hF 3 (by simp)).trans (show _ = w by simp only [FT.jR,reduceEqDiff,↓reduceIte,g3])
  have q5:F'.get 5 = .ref Y.length 0:=(hF 5 (by simp)).trans (by simp +decide only [GS])
  have q9:F'.get 9 = v:=(hF 9 (by simp)).trans (by simp +decide only [GS,g9])
  have EX:F'.get 10 = .int .i64 (ls.length:Int):=(hF 10 (by simp)).trans (by simp +decide only [GS,g10])
  have G1:F'.get 11 = .int .i64 (i:Int):=(hF 11 (by simp)).trans (by simp +decide only [GS,g11])
  have ow':bH mX 37 τ' w l:=(ow.app [O.cells 37 [.str r.name,p1,p2,p3,p4] true]).keep fun c o _ hc=>hT c o hc
  have hy:τ'[Y.length]? = some (O.cells 37 [.str r.name,p1,p2,p3,p4] true):=hT _ _ (by simp)
  have lw:=pI h.A_ rfl ow'.ls
  have hz:=hE.zero
  by_cases he:e = 0
  ·have c1:decide (e = 0) = true:=decide_eq_true he
   by_cases h14:l.length < 14
   ·have c2:decide ((l.length:Int) < 14) = true:=decide_eq_true (by omega)
    obtain ⟨w2,τ2,ha2,ow2,-,-⟩:=GJ (ex:=true) h ow' i1 i2 i3 i4 (by omega)
    simp only [KP,Ax.loadAt,↓reduceIte,reduceEqDiff,reduceLT,reduceLeDiff,reduceAdd,reduceMul,h.A_,h.bE,q3,q5,G1,h6,lw,c1,c2,hy,hadd,ha2,o1,o2,o3,o4,Ax.fill,gR,Nat.zero_mul]
    refine next _ _ (iZ (by simp +decide only [GS,q9,EX,and_self]) ⟨w2,l ++ [r],(by simp +decide only [GS]),ow2,hz.1 he,?_,?_⟩)
    ·rw [length_append,length_singleton]; omega
    ·intro x hx
     rcases mem_append.1 hx with hx | hx
     ·exact hsm x hx
     ·rw [List.mem_singleton.1 hx]; exact hrs
   ·have c2:decide ((l.length:Int) < 14) = false:=decide_eq_false (by omega)
    simp only [KP,↓reduceIte,reduceEqDiff,reduceLT,q3,G1,h6,lw,c1,c2,hadd]
    exact next _ _ (iZ (by simp +decide only [GS,q9,EX,and_self]) ⟨w,l,(by simp +decide only [GS,q3]),ow',hok,hlen,hsm⟩)
  ·have c1:decide (e = 0) = false:=decide_eq_false he
   simp only [KP,↓reduceIte,reduceEqDiff,reduceLT,G1,h6,c1,hadd]
   exact next _ _ (iZ (by simp +decide only [GS,q9,EX,and_self]) ⟨w,l,(by simp +decide only [GS,q3]),ow',hok,hlen,hsm⟩)
 ·rintro F Y ⟨g9,g10,g11,w,l,g3,ow,hok,hlen,hsm⟩
  obtain ⟨v',e1,iv⟩:=pO h.bE rfl Bu ow
  have hlt:=dS (Nat.lt_irrefl ls.length)
  rw [aG]
  simp only [KP,↓reduceIte,reduceEqDiff,reduceLT,g3,g10,g11,hlt,e1]
  exact ⟨l,iv,hok,hlen,hsm⟩
end
end
section
section
variable {E:Env} {Z:Sg} {K:V -> Sg -> Prop}
theorem qQ {k:Nat} {caps:List V} (hc:∀ c ∈ caps,Ax.bB c = true) (Z:Sg):aZ Z E.ty true (.fn k [] caps) = some (.fn k [] caps):=by
 have e:aX (aZ.one Z E.ty true) caps = some caps:=iQ fun c hx=>by
  have:=eZ (Z:=Z) (ty:=E.ty) (g:=true) (hc c hx) (dG (hc c hx))
  have h2:=hc c hx
  cases c <;> first | exact this | cases h2
 simp only [aZ,e,aX]
theorem Qy (h:bM E) {a:V} {l:List aM} {k:Nat} {caps:List V} {P:aM -> Bool} (ha:LS aJ 9 Z a l) (hsm:l.length <= 4294967296) (hc:∀ c ∈ caps,Ax.bB c = true) (hP:∀ (y:aM) (v:V),y ∈ l -> v = .str y -> aB E k ([v] ++ caps) [] fun u Y=>Y = [] /\ u = .bool (P y)) {fv:V} (ef:aZ Z E.ty true fv = some (.fn k [] caps)):aB E 65 [a,fv] Z K = K (.int .i64 (idx (bF P l))) Z:=by
 refine aB.of ?_
 obtain ⟨a',ea,ia⟩:=jM h ha
 rw [aH h.hs65 h.sp65 h.fn65 h.md65 (args':=[a',.fn k [] caps]) (by simp only [aX,ea,ef]),bD (by kernel_rfl)]
 have la:=bK h ia
 simp only [aA,Tryz.f65,KP,↓reduceIte,reduceLT,reduceAdd,reduceCtorEq,reduceNeg,la]
 refine aQ (fun i F Y=>Y = [] /\ F.get 0 = a' /\ F.get 1 = .fn k [] caps /\ F.get 8 = .int .i64 (i:Int) /\ F.get 7 = .int .i64 (l.length:Int) /\ ∀ j y,j < i -> l[j]? = some y -> P y = false) l.length ?_ ?_ l.length 0 _ _ (by omega) ⟨rfl,(gP (by simp +decide only [GS,and_self]) (fun j y hj=>by omega))⟩
 ·rintro i F Y hi ⟨rfl,g0,g1,g8,g7,hp⟩ next
  obtain ⟨x,hx⟩:∃ x,l[i]? = some x:=⟨_,List.getElem?_eq_getElem hi⟩
  obtain ⟨g,e1⟩:=fJ h ia hx
  have hv:V.str x = .str x:=rfl
  have hlt:=dR hi
  have hadd:=bU i (by omega)
  rw [aG]
  simp only [KP,Ax.loadAt,↓reduceIte,reduceEqDiff,reduceLT,reduceCtorEq,reduceNeg,h.cK,g0,g1,g7,g8,hlt,e1]
  refine aU (hP x _ (mem_of_getElem? hx) hv) ?_
  rintro u Y ⟨rfl,rfl⟩
  by_cases hxs:P x = true
  ·simp only [KP,↓reduceIte,reduceEqDiff,reduceLT,reduceNeg,hxs]
   rw [iK (i:=i) (x:=x) hp hx hxs]
   exact rfl
  ·have hxs:P x = false:=by simpa using hxs
   simp only [KP,↓reduceIte,reduceEqDiff,reduceLT,reduceNeg,g8,hxs,hadd]
   refine next _ _ ⟨rfl,(gP (by simp +decide only [GS,g0,g1,g7,and_self]) (fun j y hj hy=>?_))⟩
   rcases Nat.lt_or_ge j i with g | g
   ·exact hp j y g hy
   ·obtain rfl:j = i:=by omega
    rw [hx] at hy; cases hy; exact hxs
 ·rintro F Y ⟨rfl,g0,g1,g8,g7,hp⟩
  have hlt:=dS (Nat.lt_irrefl l.length)
  rw [aG]
  simp only [KP,↓reduceIte,reduceLT,reduceNeg,g7,g8,hlt]
  rw [gF fun x hx=>by
   obtain ⟨j,hj,e⟩:=List.getElem_of_mem hx
   exact hp j x hj (by rw [List.getElem?_eq_getElem hj,e])]
  exact rfl
theorem SZ (h:bM E) {a:V} {l:List aM} {k:Nat} {caps:List V} {P:aM -> Bool} (ha:LS aJ 9 Z a l) (hsm:l.length <= 4294967296) (hc:∀ c ∈ caps,Ax.bB c = true) (hP:∀ (y:aM) (v:V),y ∈ l -> v = .str y -> aB E k ([v] ++ caps) [] fun u Y=>Y = [] /\ u = .bool (P y)):aB E 65 [a,.fn k [] caps] Z K = K (.int .i64 (idx (bF P l))) Z:=Qy h ha hsm hc hP (qQ hc Z)
theorem oM (h:bM E) {a:V} {l:List aM} {k:Nat} {caps:List V} {P:aM -> Bool} (ha:LS aJ 9 Z a l) (hsm:l.length <= 4294967296) (hc:∀ c ∈ caps,Ax.bB c = true) (hP:∀ (y:aM) (v:V),y ∈ l -> v = .str y -> aB E k ([v] ++ caps) [] fun u Y=>Y = [] /\ u = .bool (P y)) {fv:V} (ef:aZ Z E.ty true fv = some (.fn k [] caps)):aB E 67 [a,fv] Z K = K (.bool (l.any P)) Z:=by
 refine aB.of ?_
 obtain ⟨a',ea,ia⟩:=jM h ha
 rw [aH h.hs67 h.sp67 h.fn67 h.md67 (args':=[a',.fn k [] caps]) (by simp only [aX,ea,ef]),bD (by kernel_rfl)]
 have key:=fun K=>SZ (Z:=[]) (K:=K) h (ia.ls [] 9) hsm hc hP
 have kk:=dA key
 simp only [aA,Tryz.f67,KP,↓reduceIte,reduceEqDiff,reduceLT,reduceAdd,reduceCtorEq,kk,kM,b_]
 exact rfl
theorem JK (h:bM E) {a:V} {l:List aM} {k:Nat} {caps:List V} {P:aM -> Bool} (ha:LS aJ 9 Z a l) (hsm:l.length <= 4294967296) (hc:∀ c ∈ caps,Ax.bB c = true) (hP:∀ (y:aM) (v:V),y ∈ l -> v = .str y -> aB E k ([v] ++ caps) [] fun u Y=>Y = [] /\ u = .bool (P y)):aB E 67 [a,.fn k [] caps] Z K = K (.bool (l.any P)) Z:=oM h ha hsm hc hP (qQ hc Z)
theorem Jp (h:bM E) {a:V} {l:List aM} {k:Nat} {caps:List V} {P:aM -> Bool} (ha:LS aJ 9 Z a l) (hsm:l.length <= 4294967296) (hc:∀ c ∈ caps,Ax.bB c = true) (hP:∀ (y:aM) (v:V),y ∈ l -> v = .str y -> aB E k ([v] ++ caps) [] fun u Y=>Y = [] /\ u = .bool (P y)):KC E 67 [a,.fn k [] caps] Z (.bool (l.any P)) Z:=dA fun _=>JK h ha hsm hc hP
theorem Lf (h:bM E) {a:V} {l:List AxS.Step} {k:Nat} {caps:List V} {P:AxS.Step -> Bool} (ha:LS eV 75 Z a l) (hsm:l.length <= 4294967296) (hc:∀ c ∈ caps,Ax.bB c = true) (hP:∀ (y:AxS.Step) (v:V),y ∈ l -> Lm v y -> aB E k ([v] ++ caps) [] fun u Y=>Y = [] /\ u = .bool (P y)) {fv:V} (ef:aZ Z E.ty true fv = some (.fn k [] caps)):aB E 237 [a,fv] Z K = K (.int .i64 (idx (bF P l))) Z:=by
 refine aB.of ?_
 obtain ⟨a',ea,ia⟩:=Bk h ha
 rw [aH h.VS h.TB h.WE h.U4 (args':=[a',.fn k [] caps]) (by simp only [aX,ea,ef]),bD (by kernel_rfl)]
 have la:=kV h ia
 simp only [aA,Tryz.f237,KP,↓reduceIte,reduceLT,reduceAdd,reduceCtorEq,reduceNeg,la]
 refine aQ (fun i F Y=>Y = [] /\ F.get 0 = a' /\ F.get 1 = .fn k [] caps /\ F.get 8 = .int .i64 (i:Int) /\ F.get 7 = .int .i64 (l.length:Int) /\ ∀ j y,j < i -> l[j]? = some y -> P y = false) l.length ?_ ?_ l.length 0 _ _ (by omega) ⟨rfl,(gP (by simp +decide only [GS,and_self]) (fun j y hj=>by omega))⟩
 ·rintro i F Y hi ⟨rfl,g0,g1,g8,g7,hp⟩ next
  obtain ⟨x,hx⟩:∃ x,l[i]? = some x:=⟨_,List.getElem?_eq_getElem hi⟩
  obtain ⟨g,p1,p2,e1,i1,i2⟩:=t_ h ia hx
  have hv:Lm (.agg [.str x.out,.int .i64 x.op,p1,p2,.int .i64 x.n]) x:=⟨p1,p2,rfl,i1,i2⟩
  have hlt:=dR hi
  have hadd:=bU i (by omega)
  rw [aG]
  simp only [KP,Ax.loadAt,↓reduceIte,reduceEqDiff,reduceLT,reduceAdd,reduceCtorEq,reduceNeg,h.cP,g0,g1,g7,g8,hlt,e1]
  refine aU (hP x _ (mem_of_getElem? hx) hv) ?_
  rintro u Y ⟨rfl,rfl⟩
  by_cases hxs:P x = true
  ·simp only [KP,↓reduceIte,reduceEqDiff,reduceLT,reduceNeg,hxs]
   rw [iK (i:=i) (x:=x) hp hx hxs]
   exact rfl
  ·have hxs:P x = false:=by simpa using hxs
   simp only [KP,↓reduceIte,reduceEqDiff,reduceLT,reduceNeg,g8,hxs,hadd]
   refine next _ _ ⟨rfl,(gP (by simp +decide only [GS,g0,g1,g7,and_self]) (fun j y hj hy=>?_))⟩
   rcases Nat.lt_or_ge j i with g | g
   ·exact hp j y g hy
   ·obtain rfl:j = i:=by omega
    rw [hx] at hy; cases hy; exact hxs
 ·rintro F Y ⟨rfl,g0,g1,g8,g7,hp⟩
  have hlt:=dS (Nat.lt_irrefl l.length)
  rw [aG]
  simp only [KP,↓reduceIte,reduceLT,reduceNeg,g7,g8,hlt]
  rw [gF fun x hx=>by
   obtain ⟨j,hj,e⟩:=List.getElem_of_mem hx
   exact hp j x hj (by rw [List.getElem?_eq_getElem hj,e])]
  exact rfl
theorem NO (h:bM E) {a:V} {l:List AxS.Step} {k:Nat} {caps:List V} {P:AxS.Step -> Bool} (ha:LS eV 75 Z a l) (hsm:l.length <= 4294967296) (hc:∀ c ∈ caps,Ax.bB c = true) (hP:∀ (y:AxS.Step) (v:V),y ∈ l -> Lm v y -> aB E k ([v] ++ caps) [] fun u Y=>Y = [] /\ u = .bool (P y)):aB E 237 [a,.fn k [] caps] Z K = K (.int .i64 (idx (bF P l))) Z:=Lf h ha hsm hc hP (qQ hc Z)
theorem Ie (h:bM E) {a:V} {l:List AxS.Step} {k:Nat} {caps:List V} {P:AxS.Step -> Bool} (ha:LS eV 75 Z a l) (hsm:l.length <= 4294967296) (hc:∀ c ∈ caps,Ax.bB c = true) (hP:∀ (y:AxS.Step) (v:V),y ∈ l -> Lm v y -> aB E k ([v] ++ caps) [] fun u Y=>Y = [] /\ u = .bool (P y)) {fv:V} (ef:aZ Z E.ty true fv = some (.fn k [] caps)):aB E 200 [a,fv] Z K = K (.bool (l.any P)) Z:=by
 refine aB.of ?_
 obtain ⟨a',ea,ia⟩:=Bk h ha
 rw [aH h.VZ h.TI h.WM h.Va (args':=[a',.fn k [] caps]) (by simp only [aX,ea,ef]),bD (by kernel_rfl)]
 have key:=fun K=>NO (Z:=[]) (K:=K) h (ia.ls [] 75) hsm hc hP
 have kk:=dA key
 simp only [aA,Tryz.f200,KP,↓reduceIte,reduceEqDiff,reduceLT,reduceAdd,reduceCtorEq,kk,kM,b_]
 exact rfl
theorem Lg (h:bM E) {a:V} {l:List AxS.Step} {k:Nat} {caps:List V} {P:AxS.Step -> Bool} (ha:LS eV 75 Z a l) (hsm:l.length <= 4294967296) (hc:∀ c ∈ caps,Ax.bB c = true) (hP:∀ (y:AxS.Step) (v:V),y ∈ l -> Lm v y -> aB E k ([v] ++ caps) [] fun u Y=>Y = [] /\ u = .bool (P y)):aB E 200 [a,.fn k [] caps] Z K = K (.bool (l.any P)) Z:=Ie h ha hsm hc hP (qQ hc Z)
theorem KH (h:bM E) {a:V} {l:List AxS.Step} {k:Nat} {caps:List V} {P:AxS.Step -> Bool} (ha:LS eV 75 Z a l) (hsm:l.length <= 4294967296) (hc:∀ c ∈ caps,Ax.bB c = true) (hP:∀ (y:AxS.Step) (v:V),y ∈ l -> Lm v y -> aB E k ([v] ++ caps) [] fun u Y=>Y = [] /\ u = .bool (P y)):KC E 200 [a,.fn k [] caps] Z (.bool (l.any P)) Z:=dA fun _=>Lg h ha hsm hc hP
theorem XG (h:bM E) {a:V} {l:List aM} {s:aM} (ha:LS aJ 9 Z a l) (hsm:l.length <= 4294967296):aB E 131 [a,.str s] Z K = K (.int .i64 (idx (bF (fun x=>decide (x = s)) l))) Z:=by
 refine aB.of ?_
 obtain ⟨a',ea,ia⟩:=jM h ha
 rw [aH h.Wg h.TY h.W5 h.Vo (args':=[a',.str s]) (by simp only [aX,ea,cL]),bD (by kernel_rfl)]
 have la:=bK h ia
 simp only [aA,Tryz.f131,KP,↓reduceIte,reduceLT,reduceAdd,reduceCtorEq,reduceNeg,la]
 refine aQ (fun i F Y=>Y = [] /\ F.get 0 = a' /\ F.get 1 = .str s /\ F.get 8 = .int .i64 (i:Int) /\ F.get 7 = .int .i64 (l.length:Int) /\ ∀ j y,j < i -> l[j]? = some y -> y ≠ s) l.length ?_ ?_ l.length 0 _ _ (by omega) ⟨rfl,(gP (by simp +decide only [GS,and_self]) (fun j y hj=>by omega))⟩
 ·rintro i F Y hi ⟨rfl,g0,g1,g8,g7,hp⟩ next
  obtain ⟨x,hx⟩:∃ x,l[i]? = some x:=⟨_,List.getElem?_eq_getElem hi⟩
  obtain ⟨g,e1⟩:=fJ h ia hx
  have hlt:=dR hi
  have hadd:=bU i (by omega)
  rw [aG]
  by_cases hxs:x = s
  ·have hs:=gX hxs.symm
   simp only [KP,Ax.loadAt,↓reduceIte,reduceEqDiff,reduceLT,reduceCtorEq,reduceNeg,h.cK,g0,g1,g7,g8,hlt,e1,hs]
   rw [iK (i:=i) (x:=x) (fun j y hj hy=>decide_eq_false (hp j y hj hy)) hx (decide_eq_true hxs)]
   exact rfl
  ·have hs:=gB (Ne.symm hxs)
   simp only [KP,Ax.loadAt,↓reduceIte,reduceEqDiff,reduceLT,reduceCtorEq,reduceNeg,h.cK,g0,g1,g7,g8,hlt,e1,hs,hadd]
   refine next _ _ ⟨rfl,(gP (by simp +decide only [GS,g0,g1,g7,and_self]) (fun j y hj hy=>?_))⟩
   rcases Nat.lt_or_ge j i with g | g
   ·exact hp j y g hy
   ·obtain rfl:j = i:=by omega
    rw [hx] at hy; cases hy; exact hxs
 ·rintro F Y ⟨rfl,g0,g1,g8,g7,hp⟩
  have hlt:=dS (Nat.lt_irrefl l.length)
  rw [aG]
  simp only [KP,↓reduceIte,reduceLT,reduceNeg,g7,g8,hlt]
  rw [gF fun x hx=>by
   obtain ⟨j,hj,e⟩:=List.getElem_of_mem hx
   exact decide_eq_false (hp j x hj (by rw [List.getElem?_eq_getElem hj,e]))]
  exact rfl
theorem S2 (h:bM E) {a:V} {l:List aM} {s:aM} (ha:LS aJ 9 Z a l) (hsm:l.length <= 4294967296):aB E 92 [a,.str s] Z K = K (.bool (decide (s ∈ l))) Z:=by
 refine aB.of ?_
 obtain ⟨a',ea,ia⟩:=jM h ha
 rw [aH h.hs92 h.sp92 h.fn92 h.md92 (args':=[a',.str s]) (by simp only [aX,ea,cL]),bD (by kernel_rfl)]
 have kk:=dA (fun K=>XG (Z:=[]) (s:=s) (K:=K) h (ia.ls [] 9) hsm)
 simp only [aA,Tryz.f92,KP,↓reduceIte,reduceEqDiff,reduceLT,reduceAdd,reduceCtorEq,kk,kM,b_,any_eq]
 exact rfl
theorem BW (h:bM E) {a:V} {l:List aM} {s:aM} (ha:LS aJ 9 Z a l) (hsm:l.length <= 4294967296):KC E 92 [a,.str s] Z (.bool (decide (s ∈ l))) Z:=dA fun _=>S2 h ha hsm
end
end
end Go.Proofs.YtlbbdpkjeeiahaaGreatDoor
end
