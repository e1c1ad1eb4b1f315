/- Part 16 of the proof. -/
import Derived.Test.YtlbbdpkjeeiahaaGreatDoorZ15
import Derived.Test.YtlbbdpkjeeiahaaGreatDoorZ2
import Derived.Deep.Slices
import Derived.Test.YtlbbdpkjeeiahaaGreatDoorZ3
import Derived.Deep.SlicePairs
import Derived.KernelRfl
import Derived.Test.YtlbbdpkjeeiahaaGreatDoorZ14
set_option maxHeartbeats 8000000
set_option linter.unusedVariables false
set_option maxRecDepth 100000
open Nat (reduceEqDiff reduceLT reduceAdd reduceLeDiff reduceMul)
open List (mem_append getElem?_append_left getElem?_set_self getElem?_set_ne length_set length_cons length_nil map_congr_left length_take append_assoc getElem?_take getElem?_append_right length_map length_range length_singleton getElem?_drop set_cons_zero mem_map drop_zero take_of_length_le map_map mem_range take_add_one mem_of_getElem? flatten_cons length_append mem_cons mem_cons_self map_cons)
open Int (reduceNeg)
section
namespace Go.Proofs.YtlbbdpkjeeiahaaGreatDoor
open Go Go.Ax Go.AxS
section
section
variable {E:Env} {Z:Sg} {K:V -> Sg -> Prop}
theorem N5 (x:aG):fB x = (!kF x.ins && (!kF x.outs && (!kF x.after && (!decide (x.name ∈ x.after) && (g_ x.ins x.steps && x.outs.all fun o=>!decide (o ∈ x.ins) && decide (o ∈ x.steps.map Step.out)))))):=by
 unfold fB
 rw [Bool.eq_iff_iff]
 simp only [Bool.and_eq_true,List.all_eq_true,decide_eq_true_eq,Bool.not_eq_true',decide_eq_false_iff_not,mem_append]
 constructor
 ·rintro ⟨⟨⟨⟨⟨⟨h1,h2⟩,h3⟩,h4⟩,h5⟩,h6⟩,h7⟩
  exact ⟨h1,h2,h3,h4,h6,fun o ho=>⟨h5 o ho,(h7 o ho).resolve_left (h5 o ho)⟩⟩
 ·rintro ⟨h1,h2,h3,h4,h6,h7⟩
  exact ⟨⟨⟨⟨⟨⟨h1,h2⟩,h3⟩,h4⟩,fun o ho=>(h7 o ho).1⟩,h6⟩,fun o ho=>.inr (h7 o ho).2⟩
theorem Me (h:bK E) {v:V} {x:aG} (hv:HK v x) (hx:Small x):aB E 60 [v] Z K = K (.int .i64 (bA x)) Z:=by
 refine aB.of ?_
 have ev:=hv.snap (E:=E) Z
 obtain ⟨a,b,c,d,rfl,ia,ib,ic,id⟩:=hv
 have a1:=hx.ins
 have a2:=hx.outs
 have a3:=hx.after
 have a4:=hx.steps
 rw [aH h.hs60 h.sp60 h.fn60 h.md60 (args':=[.agg [.str x.name,a,b,c,d]]) (by simp only [aW,ev]),aZ (by kernel_rfl)]
 have ha:=aL ia.bE
 have hb:=aL ib.bE
 have hc:=aL ic.bE
 have hd:=aL id.bE
 have la:=bO h ia
 have lb:=bO h ib
 have lc:=bO h ic
 have ld:=kZ h id
 have kf:=fun (Y:Sg)=>TC (Z:=Y) h (v:=.agg [.str x.name,a,b,c,d]) (x:=x) ⟨a,b,c,d,rfl,ia,ib,ic,id⟩ hx
 have key:=fun F g1 hk=>Im (K:=fun v σ1=>match cP σ1 E.ty false v with
    | some v=>v = .int .i64 (bA x)
    | none=>False) h ia ib id hx (c:=c) F g1 hk
 rw [show (aA Tryz.f60).code = .seq (cutAt [0] (aA Tryz.f60).code) (.seq (cutAt [1,0] (aA Tryz.f60).code) (cutAt [1,1] (aA Tryz.f60).code)) from rfl]
 generalize cutAt [1,1] (aA Tryz.f60).code = C at *
 by_cases f:jM x = true
 case neg=>
  have f:jM x = false:=by simpa using f
  rw [show bA x = 1 from if_pos f]
  simp only [aA,Tryz.f60,KP,Ax.loadAt,↓reduceIte,reduceEqDiff,reduceLT,reduceAdd,h.bJ,cutAt,ha,hb,hc,hd,kf,f]
  exact rfl
 have r1:bA x = if long x = true then 4 else if fB x = false then 2 else 0:=if_neg (by simp [f])
 have q1:decide ((8:Int) < (x.ins.length:Int)) = decide (8 < x.ins.length):=by rw [Bool.eq_iff_iff]; simp only [decide_eq_true_eq]; omega
 have q2:decide ((4:Int) < (x.outs.length:Int)) = decide (4 < x.outs.length):=by rw [Bool.eq_iff_iff]; simp only [decide_eq_true_eq]; omega
 have q3:decide ((8:Int) < (x.after.length:Int)) = decide (8 < x.after.length):=by rw [Bool.eq_iff_iff]; simp only [decide_eq_true_eq]; omega
 have q4:decide ((12:Int) < (x.steps.length:Int)) = decide (12 < x.steps.length):=by rw [Bool.eq_iff_iff]; simp only [decide_eq_true_eq]; omega
 by_cases hl:long x = true
 ·rw [r1,if_pos hl]
  unfold long at hl
  cases l1:decide (8 < x.ins.length) with
  | true=>
   simp only [aA,Tryz.f60,KP,Ax.loadAt,↓reduceIte,reduceEqDiff,reduceLT,reduceAdd,reduceCtorEq,h.bB,h.bJ,cutAt,ha,hb,hc,hd,kf,f,la,q1,l1]
   exact rfl
  | false=>
   cases l2:decide (4 < x.outs.length) with
   | true=>
    simp only [aA,Tryz.f60,KP,Ax.loadAt,↓reduceIte,reduceEqDiff,reduceLT,reduceAdd,reduceCtorEq,h.bB,h.bJ,cutAt,ha,hb,hc,hd,kf,f,la,lb,q1,q2,l1,l2]
    exact rfl
   | false=>
    cases l3:decide (8 < x.after.length) with
    | true=>
     simp only [aA,Tryz.f60,KP,Ax.loadAt,↓reduceIte,reduceEqDiff,reduceLT,reduceAdd,reduceCtorEq,h.bB,h.bJ,cutAt,ha,hb,hc,hd,kf,f,la,lb,lc,q1,q2,q3,l1,l2,l3]
     exact rfl
    | false=>
     have l4:decide (12 < x.steps.length) = true:=by rw [l1,l2,l3] at hl; simpa using hl
     simp only [aA,Tryz.f60,KP,Ax.loadAt,↓reduceIte,reduceEqDiff,reduceLT,reduceAdd,reduceCtorEq,h.bB,h.fG,h.bJ,cutAt,ha,hb,hc,hd,kf,f,la,lb,lc,ld,q1,q2,q3,q4,l1,l2,l3,l4]
     exact rfl
 rw [if_neg hl,N5] at r1
 have hl:long x = false:=by simpa using hl
 unfold long at hl
 simp only [Bool.or_eq_false_iff] at hl
 obtain ⟨⟨⟨l1,l2⟩,l3⟩,l4⟩:=hl
 have t1:=fun (Y:Sg)=>Fl (Z:=Y) h (a:=a) (l:=x.ins) (ia.ls Y 9) (by omega)
 have t2:=fun (Y:Sg)=>Fl (Z:=Y) h (a:=b) (l:=x.outs) (ib.ls Y 9) (by omega)
 have t3:=fun (Y:Sg)=>Fl (Z:=Y) h (a:=c) (l:=x.after) (ic.ls Y 9) (by omega)
 have t4:=fun (Y:Sg)=>rS (Z:=Y) h (a:=c) (l:=x.after) (s:=x.name) (ic.ls Y 9) (by omega)
 cases w1:kF x.ins with
 | true=>
  rw [show bA x = 2 from by rw [r1,w1]; rfl]
  simp only [aA,Tryz.f60,KP,Ax.loadAt,↓reduceIte,reduceEqDiff,reduceLT,reduceAdd,reduceCtorEq,h.bB,h.fG,h.bJ,cutAt,ha,hb,hc,hd,kf,f,la,lb,lc,ld,q1,q2,q3,q4,l1,l2,l3,l4,t1,w1]
  exact rfl
 | false=>
 cases w2:kF x.outs with
 | true=>
  rw [show bA x = 2 from by rw [r1,w1,w2]; rfl]
  simp only [aA,Tryz.f60,KP,Ax.loadAt,↓reduceIte,reduceEqDiff,reduceLT,reduceAdd,reduceCtorEq,h.bB,h.fG,h.bJ,cutAt,ha,hb,hc,hd,kf,f,la,lb,lc,ld,q1,q2,q3,q4,l1,l2,l3,l4,t1,w1,t2,w2]
  exact rfl
 | false=>
 cases w3:kF x.after with
 | true=>
  rw [show bA x = 2 from by rw [r1,w1,w2,w3]; rfl]
  simp only [aA,Tryz.f60,KP,Ax.loadAt,↓reduceIte,reduceEqDiff,reduceLT,reduceAdd,reduceCtorEq,h.bB,h.fG,h.bJ,cutAt,ha,hb,hc,hd,kf,f,la,lb,lc,ld,q1,q2,q3,q4,l1,l2,l3,l4,t1,w1,t2,w2,t3,w3]
  exact rfl
 | false=>
 by_cases w4:x.name ∈ x.after
 ·have s4:=Kn w4
  rw [show bA x = 2 from by rw [r1,w1,w2,w3,decide_eq_true w4]; rfl]
  simp only [aA,Tryz.f60,KP,Ax.loadAt,↓reduceIte,reduceEqDiff,reduceLT,reduceAdd,reduceCtorEq,h.c_,h.bB,h.fG,h.bJ,cutAt,ha,hb,hc,hd,kf,f,la,lb,lc,ld,q1,q2,q3,q4,l1,l2,l3,l4,t1,w1,t2,w2,t3,w3,t4,kR,s4]
  exact rfl
 ·have s4:=Ko w4
  rw [w1,w2,w3,decide_eq_false w4] at r1
  simp only [aA,Tryz.f60,KP,Ax.loadAt,↓reduceIte,reduceEqDiff,reduceLT,reduceAdd,reduceCtorEq,h.c_,h.bB,h.fG,h.bJ,cutAt,ha,hb,hc,hd,kf,f,la,lb,lc,ld,q1,q2,q3,q4,l1,l2,l3,l4,t1,w1,t2,w2,t3,w3,t4,kR,s4]
  refine key _ (by simp +decide only [GS]) fun Y=>?_
  show V.int .i64 _ = V.int .i64 (bA x)
  rw [r1]
  refine congrArg _ ?_
  by_cases e:g_ x.ins x.steps = true /\ (x.outs.all fun o=>!decide (o ∈ x.ins) && decide (o ∈ x.steps.map Step.out)) = true
  ·rw [if_pos e,e.1,e.2]; rfl
  ·rw [if_neg e,if_pos]
   simp only [Bool.not_false,Bool.true_and]
   cases u1:g_ x.ins x.steps with
   | false=>rfl
   | true=>
    cases u2:(x.outs.all fun o=>!decide (o ∈ x.ins) && decide (o ∈ x.steps.map Step.out)) with
    | false=>rfl
    | true=>exact absurd ⟨u1,u2⟩ e
theorem LC (h:bK E) {v:V} {x:aG} (hv:HK v x) (hx:Small x):KC E 60 [v] Z (.int .i64 (bA x)) Z:=dN fun _=>Me h hv hx
end
end
section
section
variable {E:Env} {Z:Sg} {K:V -> Sg -> Prop}
def lA (n:Nat) (g:Nat -> Bool):List V:=(List.range n).map fun k=>V.bool (g k)
def rM (n i:Nat):List V:=(List.range i).map (fun j=>V.sl (j + 1) 0 n none) ++ List.replicate (n - i) .aC
def pD (ex:Bool) (n i:Nat) (c:Nat -> Nat -> Bool):Sg:=.cells 38 (rM n i) true :: (List.range i).map fun j=>O.cells 4 (lA n (c j)) ex
def IA (n:Nat) (c:Nat -> Nat -> Bool):List (List Bool):=(List.range n).map fun i=>(List.range n).map (c i)
def G8 (c:Nat -> Nat -> Bool) (i k:Nat) (b:Bool):Nat -> Nat -> Bool:=fun x y=>if x = i /\ y = k then b else c x y
theorem lI {n:Nat} {g:Nat -> Bool}:(lA n g).length = n:=by simp [lA]
theorem oI {n i:Nat} (h:i <= n):(rM n i).length = n:=by simp [rM]; omega
theorem tM {n i j:Nat} (h:j < i):(rM n i)[j]? = some (.sl (j + 1) 0 n none):=by
 unfold rM
 rw [getElem?_append_left (by simpa using h)]
 simp [h]
theorem xG {n k:Nat} {g:Nat -> Bool} (h:k < n):(lA n g)[k]? = some (.bool (g k)):=by simp [lA,h]
theorem CF {ex:Bool} {n i:Nat} {c:Nat -> Nat -> Bool}:(pD ex n i c).length = i + 1:=by simp [pD]
theorem XZ {ex:Bool} {n i:Nat} {c:Nat -> Nat -> Bool}:(pD ex n i c)[0]? = some (.cells 38 (rM n i) true):=rfl
theorem CE {ex:Bool} {n i j:Nat} {c:Nat -> Nat -> Bool} (h:j < i):(pD ex n i c)[j + 1]? = some (.cells 4 (lA n (c j)) ex):=by
 simp [pD,h]
theorem Fo (h:bK E) {n j:Nat} (hj:j < n):indexAddr E 32 (.sl 0 0 n none) (.int .i64 (j:Int)) = some (.ref 0 j):=by
 have hneg:¬ ((j:Int) < 0):=by omega
 unfold indexAddr
 simp only [hneg,if_false,h.MH,h.yY,Int.toNat_natCast,hj,if_true,Nat.zero_add,Nat.mul_one]
theorem Cz (h:bK E) {n j k:Nat} (hk:k < n):indexAddr E 38 (.sl (j + 1) 0 n none) (.int .i64 (k:Int)) = some (.ref (j + 1) k):=by
 have hneg:¬ ((k:Int) < 0):=by omega
 unfold indexAddr
 simp only [hneg,if_false,h.yY,h.DB,Int.toNat_natCast,hk,if_true,Nat.zero_add,Nat.mul_one]
theorem Fh (h:bK E) {ex:Bool} {n i j:Nat} {c:Nat -> Nat -> Bool} (hj:j < i):loadAt E (pD ex n i c) 38 (.ref 0 j) = some (.sl (j + 1) 0 n none):=by
 unfold loadAt
 simp only [h.yY,XZ,Ax.isAgg,Bool.false_eq_true,if_false,tM hj]
theorem ID (h:bK E) {ex:Bool} {n i j k:Nat} {c:Nat -> Nat -> Bool} (hj:j < i) (hk:k < n):loadAt E (pD ex n i c) 4 (.ref (j + 1) k) = some (.bool (c j k)):=by
 unfold loadAt
 simp only [h.DB,CE hj,Ax.isAgg,Bool.false_eq_true,if_false,xG hk]
theorem NA {n k:Nat} {g:Nat -> Bool} {b:Bool} (hk:k < n):setCells (lA n g) k [.bool b] = lA n (fun y=>if y = k then b else g y):=by
 have e:setCells (lA n g) k [.bool b] = (lA n g).set k (.bool b):=by
  unfold setCells
  rw [List.set_eq_take_append_cons_drop,if_pos (by rw [lI]; exact hk)]
  simp
 rw [e]
 apply List.ext_getElem?
 intro i
 by_cases hi:i < n
 ·by_cases hik:k = i
  ·subst hik
   rw [getElem?_set_self (by rw [lI]; exact hk),xG hk,if_pos rfl]
  ·rw [getElem?_set_ne hik,xG hi,xG hi,if_neg (fun e=>hik e.symm)]
 ·rw [List.getElem?_eq_none (by rw [length_set,lI]; omega),List.getElem?_eq_none (by rw [lI]; omega)]
theorem Ib (h:bK E) {ex:Bool} {n i j k:Nat} {c:Nat -> Nat -> Bool} {b:Bool} (hj:j < i) (hk:k < n):storeAt E (pD ex n i c) 4 (.ref (j + 1) k) (.bool b) = some (pD ex n i (G8 c j k b)):=by
 unfold storeAt
 simp only [h.DB,CE hj]
 rw [if_pos (by simp only [V.cells,V.a_,length_cons,length_nil,List.all_cons,List.all_nil,lI,Bool.and_true,Bool.and_eq_true,decide_eq_true_eq]; exact ⟨rfl,by omega⟩)]
 refine congrArg some ?_
 rw [show V.cells (.bool b) = [.bool b] from rfl,NA hk]
 apply List.ext_getElem?
 intro q
 cases q with
 | zero=>rw [getElem?_set_ne (by omega)]; rfl
 | succ q=>
  by_cases hq:q < i
  ·rw [CE hq]
   by_cases hjq:j = q
   ·subst hjq
    rw [getElem?_set_self (by rw [CF]; omega)]
    congr 2
    unfold lA
    refine map_congr_left fun y _=>?_
    simp [G8]
   ·rw [getElem?_set_ne (by omega),CE hq]
    congr 2
    unfold lA
    refine map_congr_left fun y _=>?_
    have:¬ (q = j /\ y = k):=fun e=>hjq e.1.symm
    simp [G8,this]
  ·rw [List.getElem?_eq_none (by rw [length_set,CF]; omega),List.getElem?_eq_none (by rw [CF]; omega)]
theorem MS (h:bK E) {ex:Bool} {n i:Nat} {c:Nat -> Nat -> Bool} (hi:i < n):storeAt E (pD ex n i c ++ [.cells 4 (lA n (c i)) ex]) 38 (.ref 0 i) (.sl (i + 1) 0 n none) = some (pD ex n (i + 1) c):=by
 unfold storeAt
 have h0:(pD ex n i c ++ [O.cells 4 (lA n (c i)) ex])[0]? = some (.cells 38 (rM n i) true):=rfl
 simp only [h.yY,h0]
 rw [if_pos (by simp only [V.cells,V.a_,length_cons,length_nil,List.all_cons,List.all_nil,oI (Nat.le_of_lt hi),Bool.and_true,Bool.and_eq_true,decide_eq_true_eq]; exact ⟨rfl,by omega⟩)]
 refine congrArg some ?_
 have e:setCells (rM n i) i [.sl (i + 1) 0 n none] = rM n (i + 1):=by
  unfold setCells
  apply List.ext_getElem?
  intro q
  have hl:((rM n i).take i).length = i:=by rw [length_take,oI (Nat.le_of_lt hi)]; omega
  rcases Nat.lt_trichotomy q i with hq | rfl | hq
  ·rw [append_assoc,getElem?_append_left (by omega),getElem?_take,if_pos hq,tM hq,tM (by omega)]
  ·rw [append_assoc,getElem?_append_right (by omega),hl,Nat.sub_self,tM (by omega)]; rfl
  ·have e1:(rM n (i + 1))[q]? = if q < n then some .aC else none:=by
    unfold rM
    rw [getElem?_append_right (by simp; omega),length_map,length_range,List.getElem?_replicate]
    by_cases g:q < n
    ·rw [if_pos (by omega),if_pos g]
    ·rw [if_neg (by omega),if_neg g]
   rw [e1,append_assoc,getElem?_append_right (by omega),hl,getElem?_append_right (by simp; omega),length_singleton,getElem?_drop]
   unfold rM
   rw [getElem?_append_right (by simp; omega),length_map,length_range,List.getElem?_replicate]
   by_cases g:q < n
   ·rw [if_pos (by omega),if_pos g]
   ·rw [if_neg (by omega),if_neg g]
 rw [show V.cells (.sl (i + 1) 0 n none) = [.sl (i + 1) 0 n none] from rfl,e]
 unfold pD
 rw [List.cons_append,set_cons_zero,List.range_succ,List.map_append]
 rfl
theorem J2 {n:Nat} {c:Nat -> Nat -> Bool} {i:Nat} (hi:i < n):(IA n c)[i]? = some ((List.range n).map (c i)):=by simp [IA,hi]
theorem Qs {n:Nat} {c:Nat -> Nat -> Bool}:(IA n c).length = n:=by simp [IA]
theorem Qf {n:Nat} {g:Nat -> Bool} {k:Nat} (hk:k < n):((List.range n).map g)[k]? = some (g k):=by simp [hk]
theorem Nz:∀ l:List V,Ax.rows 1 l.length l = l.map fun v=>[v]
 | []=>rfl
 | x :: l=>by
  show ((x :: l).take 1) :: Ax.rows 1 l.length ((x :: l).drop 1) = _
  rw [show (x :: l).drop 1 = l from rfl,Nz l]; rfl
theorem J3 {α β:Type} {f:α -> Option β}:∀ {l:List α} {m:List β},l.length = m.length -> (∀ (i:Nat) (a:α) (b:β),l[i]? = some a -> m[i]? = some b -> f a = some b) -> aW f l = some m
 | [],[],_,_=>rfl
 | a :: l,b :: m,hl,h=>by
  rw [aW,h 0 a b rfl rfl,J3 (l:=l) (m:=m) (by simpa using hl) fun i x y hx hy=>h (i + 1) x y hx hy]
 | [],_ :: _,hl,_=>by simp at hl
 | _ :: _,[],hl,_=>by simp at hl
theorem F9 (h:bK E) {ex:Bool} {n:Nat} {c:Nat -> Nat -> Bool}:∃ v,cP (pD ex n n c) E.ty false (.sl 0 0 n none) = some v /\ kE vB v (IA n c):=by
 let rv:Nat -> V:=fun i=>.bL false ((lA n (c i)).map fun v=>[v]) (ex && decide (0 < 1) && (0 + n * 1 == n))
 have hrow:∀ i,i < n -> ∀ m,bP (pD ex n n c) E.ty false (m + 2) (.sl (i + 1) 0 n none) = some (rv i):=fun i hi m=>by
  have hm:aW (fun v=>match bP (pD ex n n c) E.ty false (m + 1) v with
    | some v=>if cF false v then some v else no "snap: borrowed"
    | none=>none) (lA n (c i)) = some (lA n (c i)):=by
   refine iU fun x hx=>?_
   obtain ⟨k,_,rfl⟩:=mem_map.1 hx
   rfl
  rw [bP]
  simp only [CE hi,h.DB]
  rw [if_pos (by rw [lI]; omega),drop_zero,take_of_length_le (by rw [lI]; omega)]
  refine (congrArg (fun o=>match o with
   | some l=>some (V.bL false (Ax.rows 1 n l) (ex && decide (0 < 1) && (0 + n * 1 == (lA n (c i)).length)))
   | none=>none) hm).trans ?_
  show some (V.bL false (Ax.rows 1 n (lA n (c i))) (ex && decide (0 < 1) && (0 + n * 1 == (lA n (c i)).length))) = _
  have:Ax.rows 1 n (lA n (c i)) = (lA n (c i)).map fun v=>[v]:=by
   have:=Nz (lA n (c i)); rwa [lI] at this
  rw [this,lI]
 have hout:bP (pD ex n n c) E.ty false 12 (.sl 0 0 n none) = some (.bL false (((List.range n).map rv).map fun v=>[v]) (true && decide (0 < 1) && (0 + n * 1 == n))):=by
  have hm:aW (fun v=>match bP (pD ex n n c) E.ty false 11 v with
    | some v=>if cF false v then some v else no "snap: borrowed"
    | none=>none) (rM n n) = some ((List.range n).map rv):=by
   refine J3 (by rw [oI (Nat.le_refl n)]; simp) fun i a b ha hb=>?_
   have hi:i < n:=by
    have:=(List.getElem?_eq_some_iff.1 ha).1
    rwa [oI (Nat.le_refl n)] at this
   rw [tM hi] at ha
   cases ha
   have hb:some (rv i) = some b:=by rw [<- hb]; simp [hi]
   cases hb
   rw [hrow i hi 9]
   rfl
  rw [bP]
  simp only [XZ,h.yY]
  rw [if_pos (by rw [oI (Nat.le_refl n)]; omega),drop_zero,take_of_length_le (by rw [oI (Nat.le_refl n)]; omega)]
  refine (congrArg (fun o=>match o with
   | some l=>some (V.bL false (Ax.rows 1 n l) (true && decide (0 < 1) && (0 + n * 1 == (rM n n).length)))
   | none=>none) hm).trans ?_
  show some (V.bL false (Ax.rows 1 n ((List.range n).map rv)) (true && decide (0 < 1) && (0 + n * 1 == (rM n n).length))) = _
  have:Ax.rows 1 n ((List.range n).map rv) = ((List.range n).map rv).map fun v=>[v]:=by
   have:=Nz ((List.range n).map rv); rwa [show ((List.range n).map rv).length = n by simp] at this
  rw [this,oI (Nat.le_refl n)]
 refine ⟨.bL false (((List.range n).map rv).map fun v=>[v]) (true && decide (0 < 1) && (0 + n * 1 == n)),?_,.inr ⟨((List.range n).map rv).map fun v=>[v],true && decide (0 < 1) && (0 + n * 1 == n),rfl,?_⟩⟩
 ·show (match bP (pD ex n n c) E.ty false 12 (.sl 0 0 n none) with
   | some v=>if cF false v then some v else no "snap: borrowed"
   | none=>none) = _
  rw [hout]
  rfl
 ·unfold IA
  rw [map_map]
  refine eS.map (P:=vB.P) (f:=(fun v=>[v]) ∘ rv) (g:=fun i=>(List.range n).map (c i)) (fun i=>⟨rv i,rfl,.inr ⟨false,(lA n (c i)).map fun v=>[v],ex && decide (0 < 1) && (0 + n * 1 == n),rfl,?_⟩⟩) _
  unfold lA
  rw [map_map]
  exact eS.map (P:=C6.P) (f:=(fun v=>[v]) ∘ fun k=>V.bool (c i k)) (g:=c i) (fun k=>rfl) _
end
end
section
section
variable {E:Env} {Z:Sg} {K:V -> Sg -> Prop}
def zV (c:Nat -> Nat -> Bool) (i:Nat) (g:Nat -> Bool):Nat -> Nat -> Bool:=fun x=>if x = i then g else c x
theorem G4 {ex:Bool} {n i:Nat} {c c':Nat -> Nat -> Bool} (h:∀ j,j < i -> c j = c' j):pD ex n i c = pD ex n i c':=by
 unfold pD
 refine congrArg _ (map_congr_left fun j hj=>?_)
 rw [h j (mem_range.1 hj)]
theorem SE (h:bK E) {ex:Bool} {n i:Nat} {c:Nat -> Nat -> Bool} {g:Nat -> Bool} (hi:i < n):storeAt E (pD ex n i c ++ [.cells 4 (lA n g) ex]) 38 (.ref 0 i) (.sl (i + 1) 0 n none) = some (pD ex n (i + 1) (zV c i g)):=by
 have:=MS (ex:=ex) (c:=zV c i g) h hi
 rw [G4 (c:=zV c i g) (c':=c) (fun j hj=>by unfold zV; rw [if_neg (by omega)]),show zV c i g i = g from if_pos rfl] at this
 exact this
theorem G9 {c:Nat -> Nat -> Bool} {i k:Nat} {g:Nat -> Bool} {b:Bool}:G8 (zV c i g) i k b = zV c i (fun y=>if y = k then b else g y):=by
 funext x y
 unfold G8 zV
 by_cases hx:x = i
 ·simp [hx]
 ·simp [hx]
theorem K8 (n:Nat):fQ n [V.bool false] = lA n fun _=>false:=by
 have:∀ n:Nat,fQ n [V.bool false] = List.replicate n (V.bool false):=by
  intro n
  induction n with
  | zero=>rfl
  | succ n ih=>rw [fQ,ih]; rfl
 rw [this]
 unfold lA
 rw [List.map_const',length_range]
theorem DT (n:Nat):fQ n [V.aC] = rM n 0:=by
 have:∀ n:Nat,fQ n [V.aC] = List.replicate n V.aC:=by
  intro n
  induction n with
  | zero=>rfl
  | succ n ih=>rw [fQ,ih]; rfl
 rw [this]; rfl
theorem Co {rs:List aG} {f:aX} {k:Nat} (h:fC rs f = some k):k < rs.length:=by
 unfold fC at h
 generalize (fun r:aG=>decide (f ∈ r.outs)) = p at h
 induction rs generalizing k with
 | nil=>cases h
 | cons r rs ih=>
  rw [bQ] at h
  split at h
  ·cases h; simp
  ·obtain ⟨j,hj,rfl⟩:=Option.map_eq_some_iff.1 h
   have:=ih hj; simp only [length_cons]; omega
theorem DM {rs:List aG} {f:aX} {k:Nat} (h:fP rs f = some k):k < rs.length:=by
 unfold fP at h
 generalize (fun r:aG=>decide (r.name = f)) = p at h
 induction rs generalizing k with
 | nil=>cases h
 | cons r rs ih=>
  rw [bQ] at h
  split at h
  ·cases h; simp
  ·obtain ⟨j,hj,rfl⟩:=Option.map_eq_some_iff.1 h
   have:=ih hj; simp only [length_cons]; omega
theorem pA {α:Type} {p:α -> Bool} {l:List α} {j:Nat} {x:α} (hx:l[j]? = some x):(l.take (j + 1)).any p = ((l.take j).any p || p x):=by
 rw [take_add_one,hx,List.any_append]; simp
structure wR (rs:List aG):Prop where
 len:rs.length <= 64
 all:∀ x ∈ rs,Small x
theorem mZ:idx none = -1:=rfl
theorem e_ {k:Nat}:idx (some k) = (k:Int):=rfl
theorem RV (h:bK E) {a:V} {rs:List aG} (ha:LS dZ 37 Z a rs) (hs:wR rs) (data:Bool):aB E 17 [a,.bool data] Z fun v σ'=>σ' = Z /\ kE vB v (IA rs.length (iP rs data)):=by
 obtain ⟨a',ea,ia⟩:=eT h ha
 rw [aH h.hs17 h.Nd h.fn17 h.md17 (args':=[a',.bool data]) (by simp only [aW,ea,show aV Z E.ty true (.bool data) = some (.bool data) from rfl]),aZ (by kernel_rfl)]
 have la:=cV h ia
 have hn:=hs.len
 generalize hN:rs.length = n at *
 have c2:decide ((n:Int) * ((24:Nat):Int) <= 1099511627776) = true:=decide_eq_true (by omega)
 have c3:decide ((n:Int) <= 1099511627776) = true:=decide_eq_true (by omega)
 have c4:decide ((n:Int) * ((1:Nat):Int) <= 1099511627776) = true:=decide_eq_true (by omega)
 have hinit:([O.cells 38 (rM n 0) true]:Sg) = pD true n 0 (iP rs data):=rfl
 simp only [aA,Tryz.f17,KP,↓reduceIte,reduceLT,reduceAdd,reduceCtorEq,h.MH,h.yY,la,c2,c3,DT,Int.toNat_natCast,Int.le_refl,hinit]
 refine aU (fun i F Y=>Y = pD true n i (iP rs data) /\ F.get 0 = a' /\ F.get 1 = .bool data /\ F.get 5 = .sl 0 0 n none /\ F.get 6 = .int .i64 (i:Int)) n ?_ ?_ n 0 _ _ (by omega) ⟨rfl,(by simp +decide only [GS,and_self])⟩
 ·rintro i F Y hi ⟨rfl,g0,g1,g5,g6⟩ next
  obtain ⟨r,hr⟩:∃ y,rs[i]? = some y:=⟨_,List.getElem?_eq_getElem (by omega)⟩
  have hsr:=hs.all r (mem_of_getElem? hr)
  have a1:=hsr.ins
  have a3:=hsr.after
  obtain ⟨g,p1,p2,p3,p4,e1,i1,i2,i3,i4⟩:=fD h ia hr
  have l1:=bO h i1
  have l3:=bO h i3
  have hlt:=eE hi
  have hadd:=bY i (by omega)
  have x1:=Fo h hi
  have s1:=SE (ex:=true) (c:=iP rs data) (g:=fun _=>false) h hi
  rw [aF]
  simp only [KP,↓reduceIte,reduceEqDiff,reduceLT,reduceCtorEq,J9 h,h.DB,h.bB,h.bJ,h.yY,g0,g5,g6,la,hlt,e1,l1,c3,c4,K8,Int.toNat_natCast,Int.le_refl,CF,x1,s1]
  generalize hc:iP rs data = c at *
  have hmem:∀ x ∈ rs,x.outs.length <= 4294967296:=fun x hx=>by have:=(hs.all x hx).outs; omega
  refine aU (fun j F Y=>Y = pD true n (i + 1) (zV c i fun k=>(r.ins.take j).any fun f=>decide (fC rs f = some k)) /\ F.get 0 = a' /\ F.get 1 = .bool data /\ F.get 5 = .sl 0 0 n none /\ F.get 6 = .int .i64 (i:Int) /\ F.get 32 = p1 /\ F.get 33 = .int .i64 (r.ins.length:Int) /\ F.get 34 = .int .i64 (j:Int)) r.ins.length ?_ ?_ r.ins.length 0 _ _ (by omega) ⟨by simp,(by simp +decide only [GS,g0,g1,g5,g6,and_self])⟩
  ·rintro j F Y hj ⟨rfl,g0,g1,g5,g6,g32,g33,g34⟩ next2
   obtain ⟨f,hf⟩:∃ y,r.ins[j]? = some y:=⟨_,List.getElem?_eq_getElem hj⟩
   obtain ⟨g,e2⟩:=gG h i1 hf
   have hlt2:=eE hj
   have hadd2:=bY j (by omega)
   generalize hC:(zV c i fun k=>(r.ins.take j).any fun f=>decide (fC rs f = some k)) = C
   have km:=Kg (Z:=pD true n (i + 1) C) h (s:=f) (ia.ls _ 37) hmem (by omega)
   rw [aF]
   cases hm:fC rs f with
   | none=>
    simp only [KP,↓reduceIte,reduceEqDiff,reduceLT,reduceCtorEq,Int.reduceLE,reduceNeg,rR h,g0,g32,g33,g34,hlt2,e2,km,hm,mZ,hadd2]
    refine next2 _ _ ⟨?_,(by simp +decide only [GS,g0,g1,g5,g6,g32,g33,and_self])⟩
    rw [<- hC]
    refine congrArg _ (congrArg _ (funext fun k=>?_))
    rw [pA hf,hm]; simp
   | some k=>
    have hk:=Co hm
    rw [hN] at hk
    have c0:decide ((0:Int) <= (k:Int)) = true:=decide_eq_true (by omega)
    have x2:=Fh (ex:=true) (c:=C) h (show i < i + 1 by omega) (n:=n)
    have x3:=Cz h (j:=i) hk
    have x4:=Ib (ex:=true) (c:=C) (b:=true) h (show i < i + 1 by omega) hk
    simp only [KP,↓reduceIte,reduceEqDiff,reduceLT,reduceCtorEq,rR h,g0,g5,g6,g32,g33,g34,hlt2,e2,km,hm,e_,x1,x2,x3,x4,hadd2]
    refine next2 _ _ ⟨?_,(by simp +decide only [GS,g0,g1,g5,g6,g32,g33,and_self])⟩
    rw [<- hC,G9]
    refine congrArg _ (congrArg _ (funext fun y=>?_))
    rw [pA hf,hm]
    by_cases hy:y = k
    ·subst hy; simp
    ·rw [if_neg hy,decide_eq_false (fun e=>hy (Option.some.inj e).symm),Bool.or_false]
  ·rintro F Y ⟨rfl,g0,g1,g5,g6,g32,g33,g34⟩
   have hlt2:=eF (Nat.lt_irrefl r.ins.length)
   rw [take_of_length_le (Nat.le_refl _)]
   rw [aF]
   simp only [KP,↓reduceIte,reduceEqDiff,reduceLT,reduceCtorEq,J9 h,h.bB,h.bJ,g0,g6,g33,g34,hlt2,e1,l3]
   refine aU (fun j F Y=>Y = pD true n (i + 1) (zV c i fun k=>(r.ins.any fun f=>decide (fC rs f = some k)) || (!data && (r.after.take j).any fun m=>decide (fP rs m = some k))) /\ F.get 0 = a' /\ F.get 1 = .bool data /\ F.get 5 = .sl 0 0 n none /\ F.get 6 = .int .i64 (i:Int) /\ F.get 54 = p3 /\ F.get 55 = .int .i64 (r.after.length:Int) /\ F.get 56 = .int .i64 (j:Int)) r.after.length ?_ ?_ r.after.length 0 _ _ (by omega) ⟨by simp,(by simp +decide only [GS,g0,g1,g5,g6,and_self])⟩
   ·rintro j F Y hj ⟨rfl,g0,g1,g5,g6,g32,g33,g34⟩ next2
    obtain ⟨f,hf⟩:∃ y,r.after[j]? = some y:=⟨_,List.getElem?_eq_getElem hj⟩
    obtain ⟨g,e2⟩:=gG h i3 hf
    have hlt2:=eE hj
    have hadd2:=bY j (by omega)
    generalize hC:(zV c i fun k=>(r.ins.any fun f=>decide (fC rs f = some k)) || (!data && (r.after.take j).any fun m=>decide (fP rs m = some k))) = C
    have km:=TH (Z:=pD true n (i + 1) C) h (s:=f) (ia.ls _ 37) (by omega)
    rw [aF]
    cases hm:fP rs f with
    | none=>
     simp only [KP,↓reduceIte,reduceEqDiff,reduceLT,reduceCtorEq,Int.reduceLE,reduceNeg,rR h,g0,g32,g33,g34,hlt2,e2,km,hm,mZ,hadd2]
     refine next2 _ _ ⟨?_,(by simp +decide only [GS,g0,g1,g5,g6,g32,g33,and_self])⟩
     rw [<- hC]
     refine congrArg _ (congrArg _ (funext fun k=>?_))
     rw [pA hf,hm]; simp
    | some k=>
     have hk:=DM hm
     rw [hN] at hk
     have c0:decide ((0:Int) <= (k:Int)) = true:=decide_eq_true (by omega)
     cases data with
     | true=>
      simp only [KP,↓reduceIte,reduceEqDiff,reduceLT,reduceCtorEq,rR h,g0,g1,g32,g33,g34,hlt2,e2,km,hm,e_,hadd2]
      refine next2 _ _ ⟨?_,(by simp +decide only [GS,g0,g1,g5,g6,g32,g33,and_self])⟩
      rw [<- hC]
      refine congrArg _ (congrArg _ (funext fun k=>?_))
      simp
     | false=>
      have x2:=Fh (ex:=true) (c:=C) h (show i < i + 1 by omega) (n:=n)
      have x3:=Cz h (j:=i) hk
      have x4:=Ib (ex:=true) (c:=C) (b:=true) h (show i < i + 1 by omega) hk
      simp only [KP,↓reduceIte,reduceEqDiff,reduceLT,reduceCtorEq,rR h,g0,g1,g5,g6,g32,g33,g34,hlt2,e2,km,hm,e_,x1,x2,x3,x4,hadd2]
      refine next2 _ _ ⟨?_,(by simp +decide only [GS,g0,g1,g5,g6,g32,g33,and_self])⟩
      rw [<- hC,G9]
      refine congrArg _ (congrArg _ (funext fun y=>?_))
      rw [pA hf,hm]
      by_cases hy:y = k
      ·subst hy; simp
      ·rw [if_neg hy,decide_eq_false (fun e=>hy (Option.some.inj e).symm),Bool.or_false]
   ·rintro F Y ⟨rfl,g0,g1,g5,g6,g32,g33,g34⟩
    have hlt2:=eF (Nat.lt_irrefl r.after.length)
    rw [take_of_length_le (Nat.le_refl _)]
    rw [aF]
    simp only [KP,↓reduceIte,reduceEqDiff,reduceLT,g6,g33,g34,hlt2,hadd]
    refine next _ _ ⟨G4 fun j hj=>?_,(by simp +decide only [GS,g0,g1,g5,and_self])⟩
    unfold zV
    by_cases hji:j = i
    ·subst hji
     rw [if_pos rfl,<- hc]
     funext k
     unfold iP xU
     rw [hr]
    ·rw [if_neg hji]
 ·rintro F Y ⟨rfl,g0,g1,g5,g6⟩
  have hlt:=eF (Nat.lt_irrefl n)
  rw [aF]
  obtain ⟨v,e1,hv⟩:=F9 (ex:=true) (n:=n) (c:=iP rs data) h
  simp only [KP,↓reduceIte,reduceEqDiff,reduceLT,reduceCtorEq,g0,g5,g6,la,hlt,e1]
  exact hv
end
end
section
section
variable {E:Env} {Z:Sg} {K:V -> Sg -> Prop}
theorem Jg {rs:List (List V)} {n:Nat} {g:Nat -> Bool} (h:eS C6.P rs ((List.range n).map g)):rs.flatten = lA n g:=by
 have:∀ {rs:List (List V)} {l:List Bool},eS C6.P rs l -> rs.flatten = l.map V.bool:=by
  intro rs l h
  induction h with
  | nil=>rfl
  | cons p _ ih=>rw [flatten_cons,ih,show _ = [V.bool _] from p]; rfl
 rw [this h,map_map]; rfl
theorem R4 (h:bK E) {Y:Sg} {v:V} {n:Nat} {g:Nat -> Bool} (hn:0 < n) (hn2:n <= 64) (iv:IS C6 v ((List.range n).map g)):Ax.append E Y #[38,38] .aC v = some (.sl Y.length 0 n none,Y ++ [.cells 4 (lA n g) false]):=by
 obtain ⟨rs,e,ha⟩:=qW iv Y
 have hn0:¬ n = 0:=by omega
 have e:elems Y 1 v = some (rs.flatten,n):=by rw [length_map,length_range] at e; exact e
 have hr:lJ n 1 = true:=DS (b:=64) (by decide) hn2
 unfold Ax.append
 simp only [show (#[38,38]:Array Nat)[0]? = some 38 from rfl,h.yY,h.DB,Gs h,e,hn0,hr,if_true,if_false,Bool.not_true,Bool.or_self,Bool.false_eq_true,Jg ha,Nat.reduceBEq]
def vM (m:Nat -> Nat -> Bool) (k i j:Nat):Nat -> Nat -> Bool:=fun x y=>if x < i \/ (x = i /\ y < j) then wk m (k + 1) x y else wk m k x y
theorem T4 {m:Nat -> Nat -> Bool} {k i j:Nat}:vM m k i j i k = wk m k i k:=by
 unfold vM; split
 ·exact MA k i
 ·rfl
theorem T3 {m:Nat -> Nat -> Bool} {k i j y:Nat}:vM m k i j k y = wk m k k y:=by
 unfold vM; split
 ·exact Mz k y
 ·rfl
theorem T5 {m:Nat -> Nat -> Bool} {k i j:Nat}:vM m k i j i j = wk m k i j:=by
 unfold vM; rw [if_neg (by omega)]
theorem RC {m:Nat -> Nat -> Bool} {k i j:Nat} {b:Bool} (hb:b = wk m (k + 1) i j):G8 (vM m k i j) i j b = vM m k i (j + 1):=by
 funext x y
 unfold G8 vM
 by_cases h1:x = i
 ·subst h1
  by_cases h2:y = j
  ·subst h2
   rw [if_pos ⟨rfl,rfl⟩,if_pos (by omega),hb]
  ·rw [if_neg (by omega)]
   by_cases h3:y < j
   ·rw [if_pos (by omega),if_pos (by omega)]
   ·rw [if_neg (by omega),if_neg (by omega)]
 ·rw [if_neg (by omega)]
  by_cases h3:x < i
  ·rw [if_pos (by omega),if_pos (by omega)]
  ·rw [if_neg (by omega),if_neg (by omega)]
theorem uP {ex:Bool} {n i:Nat} {c c':Nat -> Nat -> Bool} (h:∀ j,j < i -> ∀ y,y < n -> c j y = c' j y):pD ex n i c = pD ex n i c':=by
 unfold pD
 refine congrArg _ (map_congr_left fun j hj=>?_)
 refine congrArg (fun l=>O.cells 4 l ex) (map_congr_left fun y hy=>?_)
 rw [h j (mem_range.1 hj) y (mem_range.1 hy)]
theorem Pr (h:bK E) {a:V} {n:Nat} {m:Nat -> Nat -> Bool} (hn:n <= 64) (ia:IS vB a (IA n m)):aB E 107 [a] Z fun v σ'=>σ' = Z /\ kE vB v (IA n (wk m n)):=by
 rw [aH h.XW h.Vp h.YH h.WZ (args':=[a]) (by simp only [aW,lD ia Z]),aZ (by kernel_rfl)]
 have la:=Ol h ia
 rw [Qs] at la
 have c2:decide ((n:Int) * ((24:Nat):Int) <= 1099511627776) = true:=decide_eq_true (by omega)
 have c3:decide ((n:Int) <= 1099511627776) = true:=decide_eq_true (by omega)
 have hinit:([O.cells 38 (rM n 0) true]:Sg) = pD false n 0 m:=rfl
 have d16:=h.Ry
 simp only [aA,Tryz.f107,cutAt,Option.getD_some] at d16
 simp only [aA,Tryz.f107,KP,↓reduceIte,reduceLT,reduceCtorEq,h.MH,h.yY,la,c2,c3,DT,Int.toNat_natCast,Int.le_refl,hinit]
 refine aU (fun i F Y=>Y = pD false n i m /\ F.get 0 = a /\ F.get 3 = .int .i64 (n:Int) /\ F.get 4 = .sl 0 0 n none /\ F.get 5 = .int .i64 (i:Int)) n ?_ ?_ n 0 _ _ (by omega) ⟨rfl,(by simp +decide only [GS,and_self])⟩
 ·rintro i F Y hi ⟨rfl,g0,g3,g4,g5⟩ next
  obtain ⟨g,r,e1,rv,hr,irv⟩:=KF h ia (J2 hi)
  have e1:indexAddr E 32 a (.int .i64 (i:Int)) = some (.dU g [rv]):=by rw [e1,hr]
  have hlt:=eE hi
  have hadd:=bY i (by omega)
  have x1:=Fo h hi
  have ha:=R4 (Y:=pD false n i m) h (by omega) hn irv
  rw [CF] at ha
  have s1:=MS (ex:=false) (c:=m) h hi
  rw [aF]
  simp only [KP,↓reduceIte,reduceEqDiff,reduceLT,reduceCtorEq,mG h,g0,g3,g4,g5,hlt,e1,x1,ha,s1,hadd]
  exact next _ _ ⟨rfl,(by simp +decide only [GS,g0,g3,g4,and_self])⟩
 ·rintro F Y ⟨rfl,g0,g3,g4,g5⟩
  have hlt:=eF (Nat.lt_irrefl n)
  rw [aF]
  simp only [KP,↓reduceIte,reduceEqDiff,reduceLT,g3,g5,hlt]
  refine aU (fun k F Y=>Y = pD false n n (wk m k) /\ F.get 3 = .int .i64 (n:Int) /\ F.get 4 = .sl 0 0 n none /\ F.get 6 = .int .i64 (k:Int)) n ?_ ?_ n 0 _ _ (by omega) ⟨rfl,(by simp +decide only [GS,g3,g4,and_self])⟩
  ·rintro k F Y hk ⟨rfl,g3,g4,g6⟩ next
   have hlt:=eE hk
   have haddk:=bY k (by omega)
   rw [aF]
   simp only [KP,↓reduceIte,reduceEqDiff,reduceLT,g3,g6,hlt]
   refine aU (fun i F Y=>Y = pD false n n (vM m k i 0) /\ F.get 3 = .int .i64 (n:Int) /\ F.get 4 = .sl 0 0 n none /\ F.get 6 = .int .i64 (k:Int) /\ F.get 7 = .int .i64 (i:Int)) n ?_ ?_ n 0 _ _ (by omega) ⟨uP fun x hx y hy=>by unfold vM; rw [if_neg (by omega)],(by simp +decide only [GS,g3,g4,g6,and_self])⟩
   ·rintro i F Y hi ⟨rfl,g3,g4,g6,g7⟩ next2
    have hlt:=eE hi
    have haddi:=bY i (by omega)
    rw [aF]
    simp only [KP,↓reduceIte,reduceEqDiff,reduceLT,g3,g7,hlt]
    refine aU (fun j F Y=>Y = pD false n n (vM m k i j) /\ F.get 3 = .int .i64 (n:Int) /\ F.get 4 = .sl 0 0 n none /\ F.get 6 = .int .i64 (k:Int) /\ F.get 7 = .int .i64 (i:Int) /\ F.get 8 = .int .i64 (j:Int)) n ?_ ?_ n 0 _ _ (by omega) ⟨rfl,(by simp +decide only [GS,g3,g4,g6,g7,and_self])⟩
    ·rintro j F Y hj ⟨rfl,g3,g4,g6,g7,g8⟩ next3
     have hlt:=eE hj
     have haddj:=bY j (by omega)
     have v1:=T4 (m:=m) (k:=k) (i:=i) (j:=j)
     have v2:=T3 (m:=m) (k:=k) (i:=i) (j:=j) (y:=j)
     have v3:=T5 (m:=m) (k:=k) (i:=i) (j:=j)
     have v4:=fun b hb=>RC (m:=m) (k:=k) (i:=i) (j:=j) (b:=b) hb
     have v5:wk m k i k = false -> pD false n n (vM m k i j) = pD false n n (vM m k (i + 1) 0):=fun hb=>uP fun x hx y hy=>by
      unfold vM
      by_cases h1:x = i
      ·subst h1
       rw [if_pos (show x < x + 1 \/ x = x + 1 /\ y < 0 by omega)]
       split
       ·rfl
       ·rw [wk,hb]; simp
      ·by_cases h3:x < i
       ·rw [if_pos (by omega),if_pos (by omega)]
       ·rw [if_neg (by omega),if_neg (by omega)]
     generalize hC:vM m k i j = C at *
     have y1:=Fo h hi
     have y2:=Fh (ex:=false) (c:=C) h hi (n:=n)
     have y3:=Cz h (j:=i) hk
     have y4:=ID (ex:=false) (c:=C) h hi hk
     have y5:=Cz h (j:=i) hj
     have y6:=ID (ex:=false) (c:=C) h hi hj
     have z1:=Fo h hk
     have z2:=Fh (ex:=false) (c:=C) h hk (n:=n)
     have z3:=Cz h (j:=k) hj
     have z4:=ID (ex:=false) (c:=C) h hk hj
     have st1:=fun b=>Ib (ex:=false) (c:=C) (b:=b) h hi hj
     rw [v1] at y4
     rw [v3] at y6
     rw [v2] at z4
     rw [aF]
     cases w1:wk m k i k with
     | false=>
      simp only [KP,↓reduceIte,reduceEqDiff,reduceLT,g3,g4,g6,g7,g8,hlt,y1,y2,y3,y4,w1,haddi]
      rw [v5 w1]
      exact next2 _ _ ⟨rfl,(by simp +decide only [GS,g3,g4,g6,and_self])⟩
     | true=>
      have w3:∀ b,b = (wk m k i j || wk m k k j) -> G8 C i j b = vM m k i (j + 1):=fun b hb=>v4 b (by rw [hb,wk,w1,Bool.true_and])
      cases w2:wk m k i j with
      | true=>
       simp only [KP,↓reduceIte,reduceEqDiff,reduceLT,g3,g4,g6,g7,g8,hlt,y1,y2,y3,y4,y5,y6,w1,w2,st1,haddj,aT d16,bM]
       rw [w3 true (by rw [w2]; rfl)]
       exact next3 _ _ ⟨rfl,(by simp +decide only [GS,g3,g4,g6,g7,and_self])⟩
      | false=>
       simp only [KP,↓reduceIte,reduceEqDiff,reduceLT,g3,g4,g6,g7,g8,hlt,y1,y2,y3,y4,y5,y6,z1,z2,z3,z4,w1,w2,st1,haddj,aT d16,bM]
       rw [w3 _ (by rw [w2,Bool.false_or])]
       exact next3 _ _ ⟨rfl,(by simp +decide only [GS,g3,g4,g6,g7,and_self])⟩
    ·rintro F Y ⟨rfl,g3,g4,g6,g7,g8⟩
     have hlt:=eF (Nat.lt_irrefl n)
     have v5:pD false n n (vM m k i n) = pD false n n (vM m k (i + 1) 0):=uP fun x hx y hy=>by
      unfold vM
      by_cases h3:x < i + 1
      ·rw [if_pos (by omega),if_pos (by omega)]
      ·rw [if_neg (by omega),if_neg (by omega)]
     rw [aF]
     simp only [KP,↓reduceIte,reduceEqDiff,reduceLT,g3,g7,g8,hlt,haddi]
     rw [v5]
     exact next2 _ _ ⟨rfl,(by simp +decide only [GS,g3,g4,g6,and_self])⟩
   ·rintro F Y ⟨rfl,g3,g4,g6,g7⟩
    have hlt:=eF (Nat.lt_irrefl n)
    have v5:pD false n n (vM m k n 0) = pD false n n (wk m (k + 1)):=uP fun x hx y hy=>by
     unfold vM
     rw [if_pos (by omega)]
    rw [aF]
    simp only [KP,↓reduceIte,reduceEqDiff,reduceLT,g3,g6,g7,hlt,haddk]
    rw [v5]
    exact next _ _ ⟨rfl,(by simp +decide only [GS,g3,g4,and_self])⟩
  ·rintro F Y ⟨rfl,g3,g4,g6⟩
   have hlt:=eF (Nat.lt_irrefl n)
   obtain ⟨v,e1,hv⟩:=F9 (ex:=false) (n:=n) (c:=wk m n) h
   rw [aF]
   simp only [KP,↓reduceIte,reduceEqDiff,reduceLT,g3,g4,g6,hlt,e1]
   exact hv
end
end
section
section
variable {E:Env} {Z:Sg} {K:V -> Sg -> Prop}
theorem E_ (h:bK E) {v:V} {n:Nat} {c:Nat -> Nat -> Bool} (iv:IS vB v (IA n c)) {i k:Nat} (hi:i < n) (hk:k < n):∃ g rv g2,indexAddr E 32 v (.int .i64 (i:Int)) = some (.dU g [rv]) /\ indexAddr E 38 rv (.int .i64 (k:Int)) = some (.dU g2 [.bool (c i k)]):=by
 obtain ⟨g,r,e1,rv,hr,irv⟩:=KF h iv (J2 hi)
 obtain ⟨g2,r2,e2,hr2⟩:=Px h irv (Qf hk)
 exact ⟨g,rv,g2,by rw [e1,hr],by rw [e2,show r2 = [.bool (c i k)] from hr2]⟩
theorem zR (h:bK E) {n i:Nat} (hi:i < n):indexAddr E 56 (.sl 0 0 n none) (.int .i64 (i:Int)) = some (.ref 0 i):=by
 have hneg:¬ ((i:Int) < 0):=by omega
 unfold indexAddr
 simp only [hneg,if_false,h.SA,h.qA,Int.toNat_natCast,hi,if_true,Nat.zero_add,Nat.mul_one]
theorem Fi (h:bK E) {Y:Sg} {bC:List Int} {i:Nat} (hb:Y[0]? = some (O.cells 3 (bC.map (V.int .i64)) true)) (hi:i < bC.length):loadAt E Y 3 (.ref 0 i) = some (.int .i64 (eB bC i)):=by
 unfold loadAt
 simp only [h.qA,hb,Ax.isAgg,Bool.false_eq_true,if_false,List.getElem?_map,List.getElem?_eq_getElem hi,Option.map_some]
 unfold eB
 rw [List.getElem?_eq_getElem hi]; rfl
theorem Sa (x:Int) (h1:-9223372036854775808 <= x) (h2:x <= 9223372036854775807):wr .i64 x = x:=by
 rw [yX,if_pos]
 have h3:lo .i64 = -9223372036854775808:=rfl
 have h4:hi .i64 = 9223372036854775807:=rfl
 rw [h3,h4,Bool.and_eq_true,decide_eq_true_eq,decide_eq_true_eq]
 exact ⟨h1,h2⟩
structure Zk (rs:List aG) (n first:Nat) (m:Nat -> Nat -> Bool) (bC:List Int):Prop where
 cnt:rs.length = n
 le:n <= 64
 bC:l_ m n first (n + 1) 0 0 bC
theorem Ql {Y:Sg} {w:V} {l:List aX} {bC:List Int} (hb:Y[0]? = some (O.cells 3 (bC.map (V.int .i64)) true)) (ow:bD aM 9 Y w l):aQ w ≠ some 0:=by
 refine kC hb (by decide) ow
theorem OV (h:bK E) {a vm:V} {rs:List aG} {n first:Nat} {m:Nat -> Nat -> Bool} {bC:List Int} (t:Zk rs n first m bC) (ia:IS dZ a rs) (im:IS vB vm (IA n m)) {Y:Sg} {w:V} {l:List aX} {at_ left:Nat} (b0:Y[0]? = some (O.cells 3 (bC.map (V.int .i64)) true)) (ow:bD aM 9 Y w l) (hl:l ≠ [] /\ l.length + left <= 100) (hat:at_ < n) (hle:0 < left -> ∃ k,k < n /\ m at_ k = true /\ eB bC k = (left:Int))
  (F:FT) (g0:F.get 0 = a) (g3:F.get 3 = vm) (g7:F.get 7 = .sl 0 0 n none) (g14:F.get 14 = w) (g15:F.get 15 = .int .i64 (at_:Int)) (g16:F.get 16 = .int .i64 (left:Int))
  (hk:∀ Y w l,l ≠ [] -> bD aM 9 Y w l -> K w Y):R E (.loop (cutAt [1,1,1,1,1,1,1,1,1,1,1,1,1,1,0,1,2,2] (aA Tryz.f61).code)) [.blk 12,.k (cutAt [1,1,1,1,1,1,1,1,1,1,1,1,1,1,1] (aA Tryz.f61).code)] ⟨216,F⟩ Y (mD E (aA Tryz.f61).results K):=by
 have tn:=t.cnt
 have tl:=t.le
 have tfl:=t.bC.len
 have la:=cV h ia
 rw [tn] at la
 have d44:=h.TR
 simp only [aA,Tryz.f61,cutAt,Option.getD_some] at d44
 refine aU (fun i F Y=>Y[0]? = some (O.cells 3 (bC.map (V.int .i64)) true) /\ F.get 0 = a /\ F.get 3 = vm /\ F.get 7 = .sl 0 0 n none /\ F.get 16 = .int .i64 ((left - i:Nat):Int) /\ (∃ w l,F.get 14 = w /\ bD aM 9 Y w l /\ l ≠ [] /\ l.length + (left - i) <= 100) /\ ∃ q:Nat,F.get 15 = .int .i64 (q:Int) /\ q < n /\ (0 < left - i -> ∃ k,k < n /\ m q k = true /\ eB bC k = ((left - i:Nat):Int))) left ?_ ?_ left 0 _ _ (by omega) ⟨b0,g0,g3,g7,g16,⟨w,l,g14,ow,hl⟩,at_,g15,hat,hle⟩
 ·rintro i F Y hi ⟨b0,g0,g3,g7,g16,⟨w,l,g14,ow,hl1,hl2⟩,q,g15,hq,hex⟩ next
  obtain ⟨k0,hk0,hm0,hf0⟩:=hex (by omega)
  generalize hL:left - i = L at *
  have hgt:decide ((0:Int) < (L:Int)) = true:=decide_eq_true (by omega)
  have hdn:=Dx L (by omega) (by omega)
  rw [aF]
  simp only [aA,Tryz.f61,KP,↓reduceIte,reduceLT,reduceNeg,cutAt,g16,hgt]
  refine aU (fun k F τ'=>τ' = Y /\ F.get 0 = a /\ F.get 3 = vm /\ F.get 7 = .sl 0 0 n none /\ F.get 14 = w /\ F.get 15 = .int .i64 (q:Int) /\ F.get 16 = .int .i64 (L:Int) /\ F.get 18 = .int .i64 (k:Int) /\ ∃ o:Option Nat,F.get 17 = .int .i64 (idx o) /\ ((o = none /\ ∀ j,j < k -> ¬ (m q j = true /\ eB bC j = (L:Int))) \/ ∃ p,o = some p /\ p < n /\ m q p = true /\ eB bC p = (L:Int))) n ?_ ?_ n 0 _ _ (by omega) ⟨rfl,(Es (by simp +decide only [GS,g0,g3,g7,g14,g15,g16,and_self]) ⟨none,(by simp +decide only [GS,mZ]),.inl ⟨rfl,fun j hj=>by omega⟩⟩)⟩
  ·rintro k F τ' hk ⟨rfl,g0,g3,g7,g14,g15,g16,g18,o,g17,ho⟩ next2
   have hlt:=eE hk
   have hadd:=bY k (by omega)
   obtain ⟨u1,rv,u2,e1,e2⟩:=E_ h im hq hk
   have e3:=zR h hk
   have e4:=Fi h b0 (i:=k) (by omega)
   obtain ⟨rk,hrk⟩:∃ y,rs[k]? = some y:=⟨_,List.getElem?_eq_getElem (by omega)⟩
   obtain ⟨v1,p1,p2,p3,p4,e5,-⟩:=fD h ia hrk
   rw [aF]
   cases c1:m q k with
   | false=>
    simp only [KP,↓reduceIte,reduceEqDiff,reduceLT,reduceCtorEq,reduceNeg,tP h,mG h,g0,g3,g15,g18,la,hlt,e1,e2,c1,hadd,aT d44,bM]
    refine next2 _ _ ⟨rfl,(Es (by simp +decide only [GS,g0,g3,g7,g14,g15,g16,and_self]) ⟨o,(by simp +decide only [GS,g17]),ho.imp (fun ⟨h1,h2⟩=>⟨h1,fun j hj=>?_⟩) id⟩)⟩
    rcases Nat.lt_or_ge j k with g | g
    ·exact h2 j g
    ·obtain rfl:j = k:=by omega
     rw [c1]; simp
   | true=>
    by_cases c2:eB bC k = (L:Int)
    case neg=>
     have d2:decide (eB bC k = (L:Int)) = false:=decide_eq_false c2
     simp only [KP,↓reduceIte,reduceEqDiff,reduceLT,reduceCtorEq,reduceNeg,tP h,mG h,g0,g3,g7,g15,g16,g18,la,hlt,e1,e2,e3,e4,c1,d2,hadd,aT d44,bM]
     refine next2 _ _ ⟨rfl,(Es (by simp +decide only [GS,g0,g3,g7,g14,g15,g16,and_self]) ⟨o,(by simp +decide only [GS,g17]),ho.imp (fun ⟨h1,h2⟩=>⟨h1,fun j hj=>?_⟩) id⟩)⟩
     rcases Nat.lt_or_ge j k with g | g
     ·exact h2 j g
     ·obtain rfl:j = k:=by omega
      exact fun e=>c2 e.2
    have d2:decide (eB bC k = (L:Int)) = true:=decide_eq_true c2
    rcases ho with ⟨rfl,-⟩ | ⟨p,rfl,hp,hmp,hfp⟩
    ·simp only [KP,↓reduceIte,reduceEqDiff,reduceLT,reduceCtorEq,Int.reduceLT,reduceNeg,tP h,mG h,g0,g3,g7,g15,g16,g17,g18,la,hlt,e1,e2,e3,e4,c1,d2,hadd,mZ,aT d44,bM]
     exact next2 _ _ ⟨rfl,(Es (by simp +decide only [GS,g0,g3,g7,g14,g15,g16,and_self]) ⟨some k,(by simp +decide only [GS,e_]),.inr ⟨k,rfl,hk,c1,c2⟩⟩)⟩
    ·have c0:decide ((p:Int) < 0) = false:=decide_eq_false (by omega)
     obtain ⟨rp,hrp⟩:∃ y,rs[p]? = some y:=⟨_,List.getElem?_eq_getElem (by omega)⟩
     obtain ⟨v2,q1,q2,q3,q4,e6,-⟩:=fD h ia hrp
     cases c3:Ax.slt rk.name rp.name with
     | true=>
      simp only [KP,↓reduceIte,reduceEqDiff,reduceLT,reduceCtorEq,reduceNeg,tP h,rR h,mG h,h.c_,h.bJ,g0,g3,g7,g15,g16,g17,g18,la,hlt,e1,e2,e3,e4,e5,e6,c1,d2,c0,c3,hadd,e_,aT d44,bM]
      exact next2 _ _ ⟨rfl,(Es (by simp +decide only [GS,g0,g3,g7,g14,g15,g16,and_self]) ⟨some k,(by simp +decide only [GS,e_]),.inr ⟨k,rfl,hk,c1,c2⟩⟩)⟩
     | false=>
      simp only [KP,↓reduceIte,reduceEqDiff,reduceLT,reduceCtorEq,reduceNeg,tP h,rR h,mG h,h.c_,h.bJ,g0,g3,g7,g15,g16,g17,g18,la,hlt,e1,e2,e3,e4,e5,e6,c1,d2,c0,c3,hadd,e_,aT d44,bM]
      exact next2 _ _ ⟨rfl,(Es (by simp +decide only [GS,g0,g3,g7,g14,g15,g16,and_self]) ⟨some p,(by simp +decide only [GS,g17]),.inr ⟨p,rfl,hp,hmp,hfp⟩⟩)⟩
  ·rintro F τ' ⟨rfl,g0,g3,g7,g14,g15,g16,g18,o,g17,ho⟩
   have hlt:=eF (Nat.lt_irrefl n)
   rcases ho with ⟨rfl,hno⟩ | ⟨p,rfl,hp,hmp,hfp⟩
   ·exact absurd ⟨hm0,hf0⟩ (hno k0 hk0)
   ·obtain ⟨rp,hrp⟩:∃ y,rs[p]? = some y:=⟨_,List.getElem?_eq_getElem (by omega)⟩
    obtain ⟨v2,q1,q2,q3,q4,e6,-⟩:=fD h ia hrp
    obtain ⟨w2,τ2,ha2,o2,k2,n2⟩:=FG (s:=rp.name) (ex:=true) h ow (by omega)
    rw [aF]
    simp only [KP,↓reduceIte,reduceEqDiff,reduceLT,reduceLeDiff,reduceMul,reduceCtorEq,reduceNeg,rR h,h.c_,h.bB,h.bJ,g0,g14,g16,g17,g18,la,hlt,e6,e_,kL,ha2,hdn]
    clear hex
    have hLi:L - 1 = left - (i + 1):=by rw [<- hL,Nat.sub_sub]
    have b2:=k2 0 _ (aN b0) (Ql b0 ow)
    refine next _ _ ⟨b2,(gD (by simp +decide only [GS,g0,g3,g7,and_self]) ⟨?_,⟨w2,_,(by simp +decide only [GS]),o2,by simp,?_⟩,p,(by simp +decide only [GS]),hp,fun hpos=>?_⟩)⟩
    ·rw [hLi]; exact (by simp +decide only [GS])
    ·simp only [length_append,length_cons,length_nil]; omega
    ·obtain ⟨e,he⟩:∃ e:Nat,L = e + 1:=⟨L - 1,by omega⟩
     obtain ⟨k',h1,h2,h3⟩:=t.bC.down p e hp (by rw [hfp,he]; omega)
     exact ⟨k',h1,h2,by rw [h3]; omega⟩
 ·rintro F Y ⟨b0,g0,g3,g7,g16,⟨w,l,g14,ow,hl1,hl2⟩,-⟩
  rw [Nat.sub_self] at g16
  rw [aF]
  simp only [aA,Tryz.f61,KP,↓reduceIte,reduceEqDiff,reduceLT,Int.reduceLT,reduceNeg,cutAt,g16,g14]
  exact hk _ _ _ hl1 ow
end
end
section
section
variable {E:Env} {Z:Sg} {K:V -> Sg -> Prop}
theorem OX (h:bK E) {a vm:V} {rs:List aG} {n first:Nat} {m:Nat -> Nat -> Bool} {bC:List Int} (t:Zk rs n first m bC) (ia:IS dZ a rs) (im:IS vB vm (IA n m)) (hf:first < n) (hex:∃ k,k < n /\ m first k = true /\ 0 <= eB bC k)
  (F:FT) (g0:F.get 0 = a) (g3:F.get 3 = vm) (g5:F.get 5 = .int .i64 (first:Int)) (g7:F.get 7 = .sl 0 0 n none)
  (hk:∀ Y w l,l ≠ [] -> bD aM 9 Y w l -> K w Y):R E (cutAt [1,1,1,1,1,1,1,1,1,1] (aA Tryz.f61).code) [] ⟨216,F⟩ [O.cells 3 (bC.map (V.int .i64)) true] (mD E (aA Tryz.f61).results K):=by
 have tn:=t.cnt
 have tl:=t.le
 have tfl:=t.bC.len
 have la:=cV h ia
 rw [tn] at la
 have b0:([O.cells 3 (bC.map (V.int .i64)) true]:Sg)[0]? = some (O.cells 3 (bC.map (V.int .i64)) true):=rfl
 have key:=fun Y w l at_ left b0 ow hl hat hle F g0 g3 g7 g14 g15 g16=>OV (K:=K) h t ia im (Y:=Y) (w:=w) (l:=l) (at_:=at_) (left:=left) b0 ow hl hat hle F g0 g3 g7 g14 g15 g16 hk
 rw [show cutAt [1,1,1,1,1,1,1,1,1,1] (aA Tryz.f61).code = .seq (cutAt [1,1,1,1,1,1,1,1,1,1,0] (aA Tryz.f61).code) (.seq (.seq (cutAt [1,1,1,1,1,1,1,1,1,1,1,0,0] (aA Tryz.f61).code) (.block 10 (.loop (cutAt [1,1,1,1,1,1,1,1,1,1,1,0,1,2,2] (aA Tryz.f61).code)))) (.seq (cutAt [1,1,1,1,1,1,1,1,1,1,1,1,0] (aA Tryz.f61).code) (.seq (cutAt [1,1,1,1,1,1,1,1,1,1,1,1,1,0] (aA Tryz.f61).code) (.seq (.seq (cutAt [1,1,1,1,1,1,1,1,1,1,1,1,1,1,0,0] (aA Tryz.f61).code) (.block 12 (.loop (cutAt [1,1,1,1,1,1,1,1,1,1,1,1,1,1,0,1,2,2] (aA Tryz.f61).code)))) (cutAt [1,1,1,1,1,1,1,1,1,1,1,1,1,1,1] (aA Tryz.f61).code))))) from rfl]
 generalize cutAt [1,1,1,1,1,1,1,1,1,1,1,1,1,1,0,1,2,2] (aA Tryz.f61).code = D at *
 generalize cutAt [1,1,1,1,1,1,1,1,1,1,1,1,1,1,1] (aA Tryz.f61).code = C at *
 simp only [aA,Tryz.f61,KP,↓reduceIte,reduceLT,reduceNeg,cutAt]
 refine aU (fun k F Y=>Y = [O.cells 3 (bC.map (V.int .i64)) true] /\ F.get 0 = a /\ F.get 3 = vm /\ F.get 5 = .int .i64 (first:Int) /\ F.get 7 = .sl 0 0 n none /\ F.get 13 = .int .i64 (k:Int) /\ ((F.get 12 = .int .i64 0 /\ ∀ j,j < k -> ¬ (m first j = true /\ 0 <= eB bC j)) \/ ∃ (q e:Nat),F.get 12 = .int .i64 ((e + 1:Nat):Int) /\ q < n /\ m first q = true /\ eB bC q = (e:Int))) n ?_ ?_ n 0 _ _ (by omega) ⟨rfl,(mH (by simp +decide only [GS,g0,g3,g5,g7,and_self]) (.inl ⟨(by simp +decide only [GS]),fun j hj=>by omega⟩))⟩
 ·rintro k F Y hk2 ⟨rfl,g0,g3,g5,g7,g13,ho⟩ next
  have hlt:=eE hk2
  have hadd:=bY k (by omega)
  obtain ⟨u1,rv,u2,e1,e2⟩:=E_ h im hf hk2
  have e3:=zR h hk2
  have e4:=Fi h b0 (i:=k) (by omega)
  rw [aF]
  have hno:¬ (m first k = true /\ 0 <= eB bC k) -> ((F.get 12 = .int .i64 0 /\ ∀ j,j < k + 1 -> ¬ (m first j = true /\ 0 <= eB bC j)) \/ ∃ (q e:Nat),F.get 12 = .int .i64 ((e + 1:Nat):Int) /\ q < n /\ m first q = true /\ eB bC q = (e:Int)):=fun hn=>ho.imp (fun ⟨h1,h2⟩=>⟨h1,fun j hj=>by
   rcases Nat.lt_or_ge j k with g | g
   ·exact h2 j g
   ·obtain rfl:j = k:=by omega
    exact hn⟩) id
  have tr:∀ {F':FT},F'.get 12 = F.get 12 -> ¬ (m first k = true /\ 0 <= eB bC k) -> ((F'.get 12 = .int .i64 0 /\ ∀ j,j < k + 1 -> ¬ (m first j = true /\ 0 <= eB bC j)) \/ ∃ (q e:Nat),F'.get 12 = .int .i64 ((e + 1:Nat):Int) /\ q < n /\ m first q = true /\ eB bC q = (e:Int)):=fun hF hn=>by rw [hF]; exact hno hn
  cases c1:m first k with
  | false=>
   simp only [KP,↓reduceIte,reduceEqDiff,reduceLT,reduceCtorEq,tP h,mG h,g0,g3,g5,g13,la,hlt,e1,e2,c1,hadd]
   exact next _ _ ⟨rfl,(mH (by simp +decide only [GS,g0,g3,g5,g7,and_self]) (tr (by simp +decide only [GS]) (fun e=>by rw [c1] at e; cases e.1)))⟩
  | true=>
   by_cases c2:0 <= eB bC k
   case neg=>
    have d2:decide (0 <= eB bC k) = false:=decide_eq_false c2
    simp only [KP,↓reduceIte,reduceEqDiff,reduceLT,reduceCtorEq,tP h,mG h,g0,g3,g5,g7,g13,la,hlt,e1,e2,e3,e4,c1,d2,hadd]
    exact next _ _ ⟨rfl,(mH (by simp +decide only [GS,g0,g3,g5,g7,and_self]) (tr (by simp +decide only [GS]) (fun e=>c2 e.2)))⟩
   obtain ⟨e,he⟩:=Int.eq_ofNat_of_zero_le c2
   have hsm:=t.bC.small hk2
   have d2:decide ((0:Int) <= (e:Int)) = true:=decide_eq_true (by omega)
   have hw:=bY e (by omega)
   rw [he] at e4
   rcases ho with ⟨g12,-⟩ | ⟨q,e',g12,hq,hm,hfq⟩
   ·simp only [KP,↓reduceIte,reduceEqDiff,reduceLT,reduceCtorEq,tP h,mG h,g0,g3,g5,g7,g13,g12,la,hlt,e1,e2,e3,e4,c1,hw,hadd]
    exact next _ _ ⟨rfl,(mH (by simp +decide only [GS,g0,g3,g5,g7,and_self]) (.inr ⟨k,e,(by simp +decide only [GS]),hk2,c1,he⟩))⟩
   ·have d3:decide (((e' + 1:Nat):Int) = 0) = false:=decide_eq_false (by omega)
    cases c3:decide (((e + 1:Nat):Int) < ((e' + 1:Nat):Int)) with
    | true=>
     simp only [KP,↓reduceIte,reduceEqDiff,reduceLT,reduceCtorEq,tP h,mG h,g0,g3,g5,g7,g13,g12,la,hlt,e1,e2,e3,e4,c1,d3,hw,c3,hadd]
     exact next _ _ ⟨rfl,(mH (by simp +decide only [GS,g0,g3,g5,g7,and_self]) (.inr ⟨k,e,(by simp +decide only [GS]),hk2,c1,he⟩))⟩
    | false=>
     simp only [KP,↓reduceIte,reduceEqDiff,reduceLT,reduceCtorEq,tP h,mG h,g0,g3,g5,g7,g13,g12,la,hlt,e1,e2,e3,e4,c1,d3,hw,c3,hadd]
     exact next _ _ ⟨rfl,(mH (by simp +decide only [GS,g0,g3,g5,g7,and_self]) (.inr ⟨q,e',(by simp +decide only [GS,g12]),hq,hm,hfq⟩))⟩
 ·rintro F Y ⟨rfl,g0,g3,g5,g7,g13,ho⟩
  have hlt:=eF (Nat.lt_irrefl n)
  rcases ho with ⟨-,hno⟩ | ⟨q,e,g12,hq,hm,hfq⟩
  ·obtain ⟨k,h1,h2,h3⟩:=hex
   exact absurd ⟨h2,h3⟩ (hno k h1)
  ·have hsm:=t.bC.small hq
   have hw:=Dx (e + 1) (by omega) (by omega)
   obtain ⟨rf,hrf⟩:∃ y,rs[first]? = some y:=⟨_,List.getElem?_eq_getElem (by omega)⟩
   obtain ⟨v1,p1,p2,p3,p4,e5,-⟩:=fD h ia hrf
   rw [aF]
   simp only [KP,↓reduceIte,reduceEqDiff,reduceLT,reduceLeDiff,reduceMul,reduceCtorEq,rR h,h.c_,h.bB,h.bJ,g0,g5,g13,g12,la,hlt,e5,kL,hw]
   refine key [O.cells 3 (bC.map (V.int .i64)) true,.cells 9 [.str rf.name] true] (.sl 1 0 1 none) [rf.name] first e rfl (.inr ⟨1,[[.str rf.name]],true,rfl,rfl,.one rfl⟩) ⟨by simp,by simp only [length_cons,length_nil]; omega⟩ hf (fun _=>⟨q,hq,hm,hfq⟩) _ ?_ ?_ ?_ ?_ ?_ ?_
   ·exact (by simp +decide only [GS,g0])
   ·exact (by simp +decide only [GS,g3])
   ·exact (by simp +decide only [GS,g7])
   ·exact (by simp +decide only [GS])
   ·exact (by simp +decide only [GS])
   ·exact (by simp +decide only [GS,Nat.add_sub_cancel])
theorem Ic (h:bK E) {bC:List Int} {i:Nat} {d:Int} (hi:i < bC.length):storeAt E [O.cells 3 (bC.map (V.int .i64)) true] 3 (.ref 0 i) (.int .i64 d) = some [O.cells 3 ((bC.set i d).map (V.int .i64)) true]:=by
 unfold storeAt
 have h0:([O.cells 3 (bC.map (V.int .i64)) true]:Sg)[0]? = some (O.cells 3 (bC.map (V.int .i64)) true):=rfl
 simp only [h.qA,h0]
 rw [if_pos (by simp only [V.cells,V.a_,length_cons,length_nil,List.all_cons,List.all_nil,length_map,Bool.and_true,Bool.and_eq_true,decide_eq_true_eq]; exact ⟨rfl,by omega⟩)]
 refine congrArg some ?_
 show [O.cells 3 (setCells (bC.map (V.int .i64)) i [V.int .i64 d]) true] = _
 have:setCells (bC.map (V.int .i64)) i [V.int .i64 d] = (bC.set i d).map (V.int .i64):=by
  unfold setCells
  rw [List.map_set,List.set_eq_take_append_cons_drop,if_pos (by simpa using hi)]
  simp
 rw [this]
theorem Rz (h:bK E) {a vm:V} {rs:List aG} {n first:Nat} {m:Nat -> Nat -> Bool} (hn:rs.length = n) (hle:n <= 64) (ia:IS dZ a rs) (im:IS vB vm (IA n m)) (hf:first < n) (hmn:∀ i j,m i j = true -> i < n /\ j < n) (hw:AxS.Way m first first) {bC:List Int} (hfar:l_ m n first 1 0 0 bC)
  (F:FT) (g0:F.get 0 = a) (g3:F.get 3 = vm) (g5:F.get 5 = .int .i64 (first:Int)) (g7:F.get 7 = .sl 0 0 n none)
  (hk:∀ Y w l,l ≠ [] -> bD aM 9 Y w l -> K w Y):R E (cutAt [1,1,1,1,1,1,1,1,1] (aA Tryz.f61).code) [] ⟨216,F⟩ [O.cells 3 (bC.map (V.int .i64)) true] (mD E (aA Tryz.f61).results K):=by
 have la:=cV h ia
 rw [hn] at la
 have key:=fun bC (hfar:l_ m n first (n + 1) 0 0 bC) F g0 g3 g5 g7=>OX (K:=K) h ⟨hn,hle,hfar⟩ ia im hf (hfar.first hmn hf hw) F g0 g3 g5 g7 hk
 rw [show cutAt [1,1,1,1,1,1,1,1,1] (aA Tryz.f61).code = .seq (cutAt [1,1,1,1,1,1,1,1,1,0] (aA Tryz.f61).code) (cutAt [1,1,1,1,1,1,1,1,1,1] (aA Tryz.f61).code) from rfl]
 generalize cutAt [1,1,1,1,1,1,1,1,1,1] (aA Tryz.f61).code = C at *
 simp only [aA,Tryz.f61,KP,↓reduceIte,reduceLT,reduceNeg,cutAt]
 refine aU (fun d F Y=>∃ bC,Y = [O.cells 3 (bC.map (V.int .i64)) true] /\ l_ m n first (d + 1) 0 0 bC /\ F.get 0 = a /\ F.get 3 = vm /\ F.get 5 = .int .i64 (first:Int) /\ F.get 7 = .sl 0 0 n none /\ F.get 9 = .int .i64 ((d + 1:Nat):Int)) n ?_ ?_ n 0 _ _ (by omega) ⟨bC,rfl,hfar,(gY (by simp +decide only [GS,g0,g3,g5,g7,and_self]) (by simp +decide only [GS]; rfl))⟩
 ·rintro d F Y hd ⟨bC,rfl,hfar,g0,g3,g5,g7,g9⟩ next
  have hle1:decide (((d + 1:Nat):Int) <= (n:Int)) = true:=decide_eq_true (by omega)
  have haddd:=bY (d + 1) (by omega)
  have hsub:=Dx (d + 1) (by omega) (by omega)
  rw [aF]
  simp only [KP,↓reduceIte,reduceEqDiff,reduceLT,reduceCtorEq,g0,g9,la,hle1]
  refine aU (fun i F Y=>∃ bC,Y = [O.cells 3 (bC.map (V.int .i64)) true] /\ l_ m n first (d + 1) i 0 bC /\ F.get 0 = a /\ F.get 3 = vm /\ F.get 5 = .int .i64 (first:Int) /\ F.get 7 = .sl 0 0 n none /\ F.get 9 = .int .i64 ((d + 1:Nat):Int) /\ F.get 10 = .int .i64 (i:Int)) n ?_ ?_ n 0 _ _ (by omega) ⟨bC,rfl,hfar,(by simp +decide only [GS,g0,g3,g5,g7,g9,and_self])⟩
  ·rintro i F Y hi ⟨bC,rfl,hfar,g0,g3,g5,g7,g9,g10⟩ next2
   have hlt:=eE hi
   have haddi:=bY i (by omega)
   rw [aF]
   simp only [KP,↓reduceIte,reduceEqDiff,reduceLT,reduceCtorEq,g0,g10,la,hlt]
   refine aU (fun k F Y=>∃ bC,Y = [O.cells 3 (bC.map (V.int .i64)) true] /\ l_ m n first (d + 1) i k bC /\ F.get 0 = a /\ F.get 3 = vm /\ F.get 5 = .int .i64 (first:Int) /\ F.get 7 = .sl 0 0 n none /\ F.get 9 = .int .i64 ((d + 1:Nat):Int) /\ F.get 10 = .int .i64 (i:Int) /\ F.get 11 = .int .i64 (k:Int)) n ?_ ?_ n 0 _ _ (by omega) ⟨bC,rfl,hfar,(by simp +decide only [GS,g0,g3,g5,g7,g9,g10,and_self])⟩
   ·rintro k F Y hk2 ⟨bC,rfl,hfar,g0,g3,g5,g7,g9,g10,g11⟩ next3
    have tfl:=hfar.len
    have b0:([O.cells 3 (bC.map (V.int .i64)) true]:Sg)[0]? = some (O.cells 3 (bC.map (V.int .i64)) true):=rfl
    have hlt:=eE hk2
    have haddk:=bY k (by omega)
    obtain ⟨u1,rv,u2,e1,e2⟩:=E_ h im hi hk2
    have e3:=zR h hi
    have e4:=Fi h b0 (i:=i) (by omega)
    have e5:=zR h hk2
    have e6:=Fi h b0 (i:=k) (by omega)
    rw [aF]
    by_cases c0:eB bC i < 0
    case neg=>
     have d0:decide (eB bC i < 0) = false:=decide_eq_false c0
     simp only [KP,↓reduceIte,reduceEqDiff,reduceLT,reduceCtorEq,g0,g7,g10,g11,la,hlt,e3,e4,d0,haddi]
     exact next2 _ _ ⟨bC,rfl,hfar.next (.inr (by omega)) hi,(by simp +decide only [GS,g0,g3,g5,g7,g9,and_self])⟩
    have d0:decide (eB bC i < 0) = true:=decide_eq_true c0
    cases c1:m i k with
    | false=>
     simp only [KP,↓reduceIte,reduceEqDiff,reduceLT,reduceCtorEq,tP h,mG h,g0,g3,g7,g10,g11,la,hlt,e1,e2,e3,e4,d0,c1,haddk]
     exact next3 _ _ ⟨bC,rfl,hfar.skip (fun e=>by rw [c1] at e; cases e.1),(by simp +decide only [GS,g0,g3,g5,g7,g9,g10,and_self])⟩
    | true=>
     by_cases c2:eB bC k = (d:Int)
     ·have d2:decide (eB bC k = ((d + 1 - 1:Nat):Int)) = true:=decide_eq_true (by rw [c2]; rfl)
      have s1:=Ic h (bC:=bC) (i:=i) (d:=((d + 1:Nat):Int)) (by omega)
      simp only [KP,↓reduceIte,reduceEqDiff,reduceLT,reduceCtorEq,tP h,mG h,g0,g3,g7,g9,g10,g11,la,hlt,e1,e2,e3,e4,e5,e6,d0,c1,hsub,d2,s1,haddk]
      exact next3 _ _ ⟨_,rfl,hfar.put hi hk2 (by omega) c0 c1 (by rw [c2]; omega),(by simp +decide only [GS,g0,g3,g5,g7,g9,g10,and_self])⟩
     ·have d2:decide (eB bC k = ((d + 1 - 1:Nat):Int)) = false:=decide_eq_false (by rw [Nat.add_sub_cancel]; exact c2)
      simp only [KP,↓reduceIte,reduceEqDiff,reduceLT,reduceCtorEq,tP h,mG h,g0,g3,g7,g9,g10,g11,la,hlt,e1,e2,e3,e4,e5,e6,d0,c1,hsub,d2,haddk]
      exact next3 _ _ ⟨bC,rfl,hfar.skip (fun e=>c2 (by rw [e.2]; omega)),(by simp +decide only [GS,g0,g3,g5,g7,g9,g10,and_self])⟩
   ·rintro F Y ⟨bC,rfl,hfar,g0,g3,g5,g7,g9,g10,g11⟩
    have hlt:=eF (Nat.lt_irrefl n)
    rw [aF]
    simp only [KP,↓reduceIte,reduceEqDiff,reduceLT,reduceCtorEq,g0,g10,g11,la,hlt,haddi]
    exact next2 _ _ ⟨bC,rfl,hfar.next (.inl rfl) hi,(by simp +decide only [GS,g0,g3,g5,g7,g9,and_self])⟩
  ·rintro F Y ⟨bC,rfl,hfar,g0,g3,g5,g7,g9,g10⟩
   have hlt:=eF (Nat.lt_irrefl n)
   rw [aF]
   simp only [KP,↓reduceIte,reduceEqDiff,reduceLT,reduceCtorEq,g0,g9,g10,la,hlt,haddd]
   exact next _ _ ⟨bC,rfl,hfar.round,(by simp +decide only [GS,g0,g3,g5,g7,and_self])⟩
 ·rintro F Y ⟨bC,rfl,hfar,g0,g3,g5,g7,g9⟩
  have hle1:decide (((n + 1:Nat):Int) <= (n:Int)) = false:=decide_eq_false (by omega)
  rw [aF]
  simp only [KP,↓reduceIte,reduceEqDiff,reduceLT,reduceCtorEq,g0,g9,la,hle1]
  refine key bC hfar _ ?_ ?_ ?_ ?_
  ·exact (by simp +decide only [GS,g0])
  ·exact (by simp +decide only [GS,g3])
  ·exact (by simp +decide only [GS,g5])
  ·exact (by simp +decide only [GS,g7])
end
end
section
section
variable {E:Env} {Z:Sg} {K:V -> Sg -> Prop}
theorem ND (n:Nat):fQ n [V.int .i64 0] = (List.replicate n (0:Int)).map (V.int .i64):=by
 induction n with
 | zero=>rfl
 | succ n ih=>rw [fQ,ih]; rfl
theorem Qc {n i:Nat} (hi:i < n):(List.replicate i (-1:Int) ++ List.replicate (n - i) 0).set i (-1) = List.replicate (i + 1) (-1) ++ List.replicate (n - (i + 1)) 0:=by
 obtain ⟨d,rfl⟩:∃ d,n = i + (d + 1):=⟨n - i - 1,by omega⟩
 rw [List.set_append_right _ _ (by simp),List.length_replicate,Nat.sub_self,show i + (d + 1) - i = d + 1 by omega,List.replicate_succ,set_cons_zero,show i + (d + 1) - (i + 1) = d by omega,List.replicate_succ']
 simp
theorem OW (h:bK E) {a vm:V} {rs:List aG} {n:Nat} {m:Nat -> Nat -> Bool} (hn:rs.length = n) (hle:n <= 64) (ia:IS dZ a rs) (im:IS vB vm (IA n m)) (hmn:∀ i j,m i j = true -> i < n /\ j < n) {o:Option Nat} (ho:∀ f,o = some f -> f < n /\ AxS.Way m f f)
  (F:FT) (g0:F.get 0 = a) (g3:F.get 3 = vm) (g5:F.get 5 = .int .i64 (idx o))
  (hk:o ≠ none -> ∀ Y w l,l ≠ [] -> bD aM 9 Y w l -> K w Y) (hk0:o = none -> K .aC []):R E (cutAt [1,1,1,1,1] (aA Tryz.f61).code) [] ⟨216,F⟩ [] (mD E (aA Tryz.f61).results K):=by
 have la:=cV h ia
 rw [hn] at la
 cases o with
 | none=>
  simp only [aA,Tryz.f61,KP,↓reduceIte,reduceLT,Int.reduceLT,reduceNeg,cutAt,g5,mZ]
  exact hk0 rfl
 | some first=>
  obtain ⟨hf,hw⟩:=ho first rfl
  have key:=fun bC hfar F g0 g3 g5 g7=>Rz (K:=K) h hn hle ia im hf hmn hw (bC:=bC) hfar F g0 g3 g5 g7 (hk (by simp))
  have c0:decide ((first:Int) < 0) = false:=decide_eq_false (by omega)
  have c2:decide ((n:Int) * ((8:Nat):Int) <= 1099511627776) = true:=decide_eq_true (by omega)
  have c3:decide ((n:Int) <= 1099511627776) = true:=decide_eq_true (by omega)
  have lf:∀ Z,lenOf E Z 56 (.sl 0 0 n none) = some n:=fun Z=>by unfold lenOf; rw [h.SA]
  rw [show cutAt [1,1,1,1,1] (aA Tryz.f61).code = .seq (cutAt [1,1,1,1,1,0] (aA Tryz.f61).code) (.seq (cutAt [1,1,1,1,1,1,0] (aA Tryz.f61).code) (.seq (cutAt [1,1,1,1,1,1,1,0] (aA Tryz.f61).code) (.seq (cutAt [1,1,1,1,1,1,1,1,0] (aA Tryz.f61).code) (cutAt [1,1,1,1,1,1,1,1,1] (aA Tryz.f61).code)))) from rfl]
  generalize cutAt [1,1,1,1,1,1,1,1,1] (aA Tryz.f61).code = C at *
  simp only [aA,Tryz.f61,KP,↓reduceIte,reduceLT,reduceCtorEq,reduceNeg,h.qA,h.SA,cutAt,g0,g5,e_,c0,la,c2,c3,Int.toNat_natCast,Int.le_refl,ND,lf]
  refine aU (fun i F Y=>∃ bC,Y = [O.cells 3 (bC.map (V.int .i64)) true] /\ bC = List.replicate i (-1) ++ List.replicate (n - i) 0 /\ F.get 0 = a /\ F.get 3 = vm /\ F.get 5 = .int .i64 (first:Int) /\ F.get 7 = .sl 0 0 n none /\ F.get 60 = .int .i64 (n:Int) /\ F.get 61 = .int .i64 (i:Int)) n ?_ ?_ n 0 _ _ (by omega) ⟨_,rfl,by simp,(by simp +decide only [GS,g0,g3,g5,e_,and_self])⟩
  ·rintro i F Y hi ⟨bC,rfl,hfar,g0,g3,g5,g7,g60,g61⟩ next
   have hlt:=eE hi
   have hadd:=bY i (by omega)
   have hfl:bC.length = n:=by rw [hfar]; simp; omega
   have e1:=zR h hi
   have s1:=Ic h (bC:=bC) (i:=i) (d:=-1) (by omega)
   rw [aF]
   simp only [KP,↓reduceIte,reduceEqDiff,reduceLT,reduceNeg,g7,g60,g61,hlt,e1,s1,hadd]
   exact next _ _ ⟨_,rfl,by rw [hfar,Qc hi],(by simp +decide only [GS,g0,g3,g5,g7,g60,and_self])⟩
  ·rintro F Y ⟨bC,rfl,hfar,g0,g3,g5,g7,g60,g61⟩
   have hlt:=eF (Nat.lt_irrefl n)
   have hfar:bC = List.replicate n (-1):=by rw [hfar]; simp
   have e1:=zR h hf
   have s1:=Ic h (bC:=bC) (i:=first) (d:=0) (by rw [hfar]; simpa using hf)
   rw [aF]
   simp only [KP,↓reduceIte,reduceEqDiff,reduceLT,reduceNeg,g5,g7,g60,g61,hlt,e1,s1]
   refine key (bC.set first 0) ?_ _ ?_ ?_ ?_ ?_
   ·rw [hfar]; exact l_.init hf
   ·exact (by simp +decide only [GS,g0])
   ·exact (by simp +decide only [GS,g3])
   ·exact (by simp +decide only [GS,g5])
   ·exact (by simp +decide only [GS,g7])
theorem N4 {rs:List aG} {d:Bool}:∀ i j,iP rs d i j = true -> i < rs.length /\ j < rs.length:=by
 intro i j hij
 unfold iP at hij
 split at hij
 ·rename_i r hr
  refine ⟨(List.getElem?_eq_some_iff.1 hr).1,?_⟩
  unfold xU at hij
  rw [Bool.or_eq_true] at hij
  rcases hij with hij | hij
  ·obtain ⟨f,_,hf⟩:=List.any_eq_true.1 hij
   exact Co (of_decide_eq_true hf)
  ·rw [Bool.and_eq_true] at hij
   obtain ⟨f,_,hf⟩:=List.any_eq_true.1 hij.2
   exact DM (of_decide_eq_true hf)
 ·cases hij
theorem RA (h:bK E) {a:V} {rs:List aG} (hs:wR rs) (ia:IS dZ a rs) (F:FT) (g0:F.get 0 = a)
  (hk:(∃ i,i < rs.length /\ AxS.Way (iP rs false) i i) -> ∀ Y w l,l ≠ [] -> bD aM 9 Y w l -> K w Y) (hk0:(∀ i,i < rs.length -> ¬ AxS.Way (iP rs false) i i) -> K .aC []):R E (aA Tryz.f61).code [] ⟨216,F⟩ [] (mD E (aA Tryz.f61).results K):=by
 have la:=cV h ia
 have hle:=hs.len
 have hmn:=N4 (rs:=rs) (d:=false)
 have bn:=RV (Z:=[]) h (a:=a) (ia.ls [] 37) hs false
 generalize hm:iP rs false = m at *
 generalize hn:rs.length = n at *
 have key:=fun vm (im:IS vB vm (IA n m)) o ho F g0 g3 g5 hk hk0=>OW (K:=K) h hn hle ia im hmn (o:=o) ho F g0 g3 g5 hk hk0
 have d7:=h.Y1
 simp only [aA,Tryz.f61,cutAt,Option.getD_some] at d7
 rw [show (aA Tryz.f61).code = .seq (cutAt [0] (aA Tryz.f61).code) (.seq (cutAt [1,0] (aA Tryz.f61).code) (.seq (cutAt [1,1,0] (aA Tryz.f61).code) (.seq (cutAt [1,1,1,0] (aA Tryz.f61).code) (.seq (cutAt [1,1,1,1,0] (aA Tryz.f61).code) (cutAt [1,1,1,1,1] (aA Tryz.f61).code))))) from rfl]
 generalize cutAt [1,1,1,1,1] (aA Tryz.f61).code = C at *
 simp only [aA,Tryz.f61,KP,↓reduceIte,reduceLT,reduceCtorEq,reduceNeg,cutAt,g0]
 refine aI bn ?_
 rintro vm σ' ⟨rfl,im⟩
 simp only [KP,↓reduceIte,reduceLT,reduceNeg]
 refine aI (Pr (Z:=[]) h hle im.is) ?_
 rintro vc σ' ⟨rfl,ic⟩
 have im:=im.is
 have ic:=ic.is
 simp only [KP,↓reduceIte,reduceLT,reduceNeg]
 refine aU (fun i F Y=>Y = [] /\ F.get 0 = a /\ F.get 3 = vm /\ F.get 4 = vc /\ F.get 6 = .int .i64 (i:Int) /\ ∃ o:Option Nat,F.get 5 = .int .i64 (idx o) /\ ((o = none /\ ∀ j,j < i -> wk m n j j = false) \/ ∃ f,o = some f /\ f < n /\ wk m n f f = true)) n ?_ ?_ n 0 _ _ (by omega) ⟨rfl,(gY (by simp +decide only [GS,g0,and_self]) ⟨none,(by simp +decide only [GS,mZ]),.inl ⟨rfl,fun j hj=>by omega⟩⟩)⟩
 ·rintro i F Y hi ⟨rfl,g0,g3,g4,g6,o,g5,ho⟩ next
  have hlt:=eE hi
  have hadd:=bY i (by omega)
  obtain ⟨u1,rv,u2,e1,e2⟩:=E_ h ic hi hi
  obtain ⟨ri,hri⟩:∃ y,rs[i]? = some y:=⟨_,List.getElem?_eq_getElem (by omega)⟩
  obtain ⟨v1,p1,p2,p3,p4,e3,-⟩:=fD h ia hri
  rw [aF]
  cases c1:wk m n i i with
  | false=>
   simp only [KP,↓reduceIte,reduceEqDiff,reduceLT,reduceCtorEq,tP h,mG h,g0,g4,g6,la,hlt,e1,e2,c1,hadd,aT d7,bM]
   refine next _ _ ⟨rfl,(gY (by simp +decide only [GS,g0,g3,g4,and_self]) ⟨o,(by simp +decide only [GS,g5]),ho.imp (fun ⟨h1,h2⟩=>⟨h1,fun j hj=>?_⟩) id⟩)⟩
   rcases Nat.lt_or_ge j i with g | g
   ·exact h2 j g
   ·obtain rfl:j = i:=by omega
    exact c1
  | true=>
   rcases ho with ⟨rfl,-⟩ | ⟨f,rfl,hf,hwf⟩
   ·simp only [KP,↓reduceIte,reduceEqDiff,reduceLT,reduceCtorEq,Int.reduceLT,reduceNeg,tP h,mG h,g0,g4,g5,g6,la,hlt,e1,e2,c1,mZ,hadd,aT d7,bM]
    exact next _ _ ⟨rfl,(gY (by simp +decide only [GS,g0,g3,g4,and_self]) ⟨some i,(by simp +decide only [GS,e_]),.inr ⟨i,rfl,hi,c1⟩⟩)⟩
   ·have c0:decide ((f:Int) < 0) = false:=decide_eq_false (by omega)
    obtain ⟨rf,hrf⟩:∃ y,rs[f]? = some y:=⟨_,List.getElem?_eq_getElem (by omega)⟩
    obtain ⟨v2,q1,q2,q3,q4,e4,-⟩:=fD h ia hrf
    cases c3:Ax.slt ri.name rf.name with
    | true=>
     simp only [KP,↓reduceIte,reduceEqDiff,reduceLT,reduceCtorEq,tP h,rR h,mG h,h.c_,h.bJ,g0,g4,g5,g6,la,hlt,e1,e2,e3,e4,c1,c0,c3,e_,hadd,aT d7,bM]
     exact next _ _ ⟨rfl,(gY (by simp +decide only [GS,g0,g3,g4,and_self]) ⟨some i,(by simp +decide only [GS,e_]),.inr ⟨i,rfl,hi,c1⟩⟩)⟩
    | false=>
     simp only [KP,↓reduceIte,reduceEqDiff,reduceLT,reduceCtorEq,tP h,rR h,mG h,h.c_,h.bJ,g0,g4,g5,g6,la,hlt,e1,e2,e3,e4,c1,c0,c3,e_,hadd,aT d7,bM]
     exact next _ _ ⟨rfl,(gY (by simp +decide only [GS,g0,g3,g4,and_self]) ⟨some f,(by simp +decide only [GS,g5]),.inr ⟨f,rfl,hf,hwf⟩⟩)⟩
 ·rintro F Y ⟨rfl,g0,g3,g4,g6,o,g5,ho⟩
  have hlt:=eF (Nat.lt_irrefl n)
  rw [aF]
  simp only [KP,↓reduceIte,reduceEqDiff,reduceLT,reduceCtorEq,g0,g6,la,hlt]
  refine key vm im o (fun f hf=>?_) _ ?_ ?_ ?_ (fun ho2=>hk ?_) (fun ho2=>hk0 fun i hi hw=>?_)
  ·rcases ho with ⟨e,-⟩ | ⟨f',e,h1,h2⟩
   ·rw [e] at hf; cases hf
   ·rw [e] at hf; cases hf; exact ⟨h1,BG h2⟩
  ·exact (by simp +decide only [GS,g0])
  ·exact (by simp +decide only [GS,g3])
  ·exact (by simp +decide only [GS,g5])
  ·rcases ho with ⟨e,-⟩ | ⟨f',e,h1,h2⟩
   ·exact absurd e ho2
   ·exact ⟨f',h1,BG h2⟩
  ·rcases ho with ⟨-,h1⟩ | ⟨f',e,-⟩
   ·have:=Sv hmn hw
    rw [h1 i hi] at this; cases this
   ·rw [e] at ho2; cases ho2
theorem I5 (h:bK E) {a:V} {rs:List aG} (ha:LS dZ 37 Z a rs) (hs:wR rs):aB E 61 [a] Z fun v σ'=>σ' = Z /\ ∃ l,kE aM v l /\ ((l ≠ [] /\ ∃ i,i < rs.length /\ AxS.Way (iP rs false) i i) \/ (l = [] /\ ∀ i,i < rs.length -> ¬ AxS.Way (iP rs false) i i)):=by
 obtain ⟨a',ea,ia⟩:=eT h ha
 rw [aH h.hs61 h.sp61 h.fn61 h.md61 (args':=[a']) (by simp only [aW,ea]),aZ (by kernel_rfl)]
 refine RA h hs ia _ (by simp +decide only [GS]) (fun hc Y w l hl ow=>?_) fun hc=>?_
 ·obtain ⟨v',e1,hv⟩:=qC h.c_ rfl (fun r x hr c hc=>by rw [show r = [.str x] from hr] at hc; cases hc with | head=>rfl | tail _ h=>cases h) ow
  show (match cP Y E.ty false w with
   | some v=>(fun v σ'=>σ' = Z /\ ∃ l,kE aM v l /\ ((l ≠ [] /\ ∃ i,i < rs.length /\ AxS.Way (iP rs false) i i) \/ (l = [] /\ ∀ i,i < rs.length -> ¬ AxS.Way (iP rs false) i i))) v Z
   | none=>False)
  rw [e1]
  exact ⟨rfl,l,hv,.inl ⟨hl,hc⟩⟩
 ·exact ⟨rfl,[],.inl ⟨rfl,rfl⟩,.inr ⟨rfl,hc⟩⟩
end
end
section
section
variable {E:Env} {Z:Sg} {K:V -> Sg -> Prop}
theorem Ny {x:aG} {a b c d:V} (h1:IS aM a x.ins) (h2:IS aM b x.outs) (h3:IS aM c x.after) (h4:IS eX d x.steps):HK (.agg [.str x.name,a,b,c,d]) x:=⟨a,b,c,d,rfl,h1,h2,h3,h4⟩
theorem zZ {rs:List aG} {i:Nat} {r:aG} (hr:rs[i]? = some r) (h:bA r ≠ 0) (hp:∀ (j:Nat) (s:aG),j < i -> rs[j]? = some s -> bA s = 0):gF rs = bA r:=by
 have:rs.find? (fun r=>decide (bA r ≠ 0)) = some r:=by
  rw [List.find?_eq_some_iff_getElem]
  refine ⟨decide_eq_true h,i,(List.getElem?_eq_some_iff.1 hr).1,(List.getElem?_eq_some_iff.1 hr).2,fun j hj=>?_⟩
  have hjl:j < rs.length:=by have:=(List.getElem?_eq_some_iff.1 hr).1; omega
  simpa using hp j _ hj (List.getElem?_eq_getElem hjl)
 unfold gF
 rw [this]
theorem yH {rs:List aG} (hp:∀ (j:Nat) (s:aG),rs[j]? = some s -> bA s = 0):gF rs = if 40 < rs.length then 4 else if sH rs = true then 2 else if gJ rs = true then 2 else 0:=by
 have:rs.find? (fun r=>decide (bA r ≠ 0)) = none:=by
  rw [List.find?_eq_none]
  intro x hx
  obtain ⟨j,hj,e⟩:=List.getElem_of_mem hx
  simpa using hp j x (by rw [List.getElem?_eq_getElem hj,e])
 unfold gF
 rw [this]
theorem Ul (h:bK E) {a:V} {rs:List aG} (hs:wR rs) (ia:IS dZ a rs) (hp0:∀ (j:Nat) (s:aG),rs[j]? = some s -> bA s = 0) (h40:¬ 40 < rs.length) (hcl:sH rs = false) (F:FT) (g0:F.get 0 = a) (hk:∀ e nm,HN rs e -> K (.fZ [.int .i64 e,.str nm]) []):R E (cutAt [1,1,1,1] (aA Tryz.f13).code) [] ⟨110,F⟩ [] (mD E (aA Tryz.f13).results K):=by
 have la:=cV h ia
 have bc:=I5 (Z:=[]) h (a:=a) (ia.ls [] 37) hs
 have hE:=yH hp0
 rw [if_neg h40,if_neg (by rw [hcl]; simp)] at hE
 have d27:=h.TY
 simp only [aA,Tryz.f13,cutAt,Option.getD_some] at d27
 have d31:=h.TX
 simp only [aA,Tryz.f13,cutAt,Option.getD_some] at d31
 rw [show cutAt [1,1,1,1] (aA Tryz.f13).code = .seq (.seq (cutAt [1,1,1,1,0,0] (aA Tryz.f13).code) (.block 6 (.loop (cutAt [1,1,1,1,0,1,2,2] (aA Tryz.f13).code)))) (cutAt [1,1,1,1,1] (aA Tryz.f13).code) from rfl]
 have key:gJ rs = false -> ∀ F:FT,F.get 0 = a -> R E (cutAt [1,1,1,1,1] (aA Tryz.f13).code) [] ⟨110,F⟩ [] (mD E (aA Tryz.f13).results K):=fun hst F g0=>by
  rw [if_neg (by rw [hst]; simp)] at hE
  simp only [aA,Tryz.f13,KP,↓reduceIte,reduceLT,cutAt,g0]
  refine aI bc ?_
  rintro v σ' ⟨rfl,l,il,hl⟩
  have il:=il.is
  have ll:=bO h il
  rcases hl with ⟨hl,hring⟩ | ⟨rfl,hring⟩
  ·obtain ⟨y,r,rfl⟩:=List.exists_cons_of_ne_nil hl
   obtain ⟨g,e1⟩:=gG h il (i:=0) (x:=y) rfl
   have e1:indexAddr E 28 v (.int .i64 0) = some (.dU g [.str y]):=e1
   have c0:decide ((0:Int) < ((r.length + 1:Nat):Int)) = true:=decide_eq_true (by omega)
   simp only [KP,↓reduceIte,reduceEqDiff,reduceLT,rR h,ll,c0,e1,aT d31,bM]
   exact hk 3 y (.inr ⟨hE,.inl ⟨hring,rfl⟩⟩)
  ·have c0:decide ((0:Int) < ((([]:List aX).length:Nat):Int)) = false:=rfl
   simp only [KP,↓reduceIte,reduceEqDiff,reduceLT,Int.reduceLT,kV,ll]
   exact hk 0 [] (.inr ⟨hE,.inr ⟨fun ⟨i,h1,h2⟩=>hring i h1 h2,rfl⟩⟩)
 generalize cutAt [1,1,1,1,1] (aA Tryz.f13).code = C at *
 simp only [aA,Tryz.f13,KP,↓reduceIte,reduceLT,cutAt]
 refine aU (fun i F Y=>Y = [] /\ F.get 0 = a /\ F.get 10 = .int .i64 (i:Int) /\ ∀ j s,j < i -> rs[j]? = some s -> ∀ m ∈ s.after,fP rs m ≠ none) rs.length ?_ ?_ rs.length 0 _ _ (by omega) ⟨rfl,(k_ (by simp +decide only [GS,g0,and_self]) (fun j s hj=>by omega))⟩
 ·rintro i F Y hi ⟨rfl,g0,g10,hp⟩ next
  obtain ⟨r,hr⟩:∃ y,rs[i]? = some y:=⟨_,List.getElem?_eq_getElem hi⟩
  have a3:=(hs.all r (mem_of_getElem? hr)).after
  obtain ⟨g,p1,p2,p3,p4,e1,i1,i2,i3,i4⟩:=fD h ia hr
  have l3:=bO h i3
  have hlt:=eE hi
  have hadd:=bY i (by omega)
  rw [aF]
  simp only [KP,↓reduceIte,reduceEqDiff,reduceLT,reduceCtorEq,J9 h,h.bB,h.bJ,g0,g10,la,hlt,e1,l3]
  refine aU (fun j F Y=>Y = [] /\ F.get 0 = a /\ F.get 10 = .int .i64 (i:Int) /\ F.get 86 = p3 /\ F.get 87 = .int .i64 (r.after.length:Int) /\ F.get 88 = .int .i64 (j:Int) /\ ∀ q m,q < j -> r.after[q]? = some m -> fP rs m ≠ none) r.after.length ?_ ?_ r.after.length 0 _ _ (by omega) ⟨rfl,(mH (by simp +decide only [GS,g0,g10,and_self]) (fun q m hq=>by omega))⟩
  ·rintro j F Y hj ⟨rfl,g0,g10,g86,g87,g88,hq⟩ next2
   obtain ⟨m,hm⟩:∃ y,r.after[j]? = some y:=⟨_,List.getElem?_eq_getElem hj⟩
   obtain ⟨g,e2⟩:=gG h i3 hm
   have hlt2:=eE hj
   have hadd2:=bY j (by omega)
   have km:=TH (Z:=[]) h (s:=m) (ia.ls _ 37) (by omega)
   rw [aF]
   cases hat:fP rs m with
   | none=>
    simp only [KP,↓reduceIte,reduceEqDiff,reduceLT,reduceCtorEq,Int.reduceLT,reduceNeg,rR h,h.c_,h.bJ,g0,g10,g86,g87,g88,hlt2,e1,e2,km,hat,mZ,aT d27,bM]
    refine hk 2 _ (.inl ?_)
    have hst:gJ rs = true:=by
     unfold gJ
     rw [List.any_eq_true]
     exact ⟨r,mem_of_getElem? hr,List.any_eq_true.2 ⟨m,mem_of_getElem? hm,decide_eq_true hat⟩⟩
    rw [if_pos hst] at hE
    rw [hE]
    exact ⟨by decide,rfl⟩
   | some k=>
    have c0:decide ((k:Int) < 0) = false:=decide_eq_false (by omega)
    simp only [KP,↓reduceIte,reduceEqDiff,reduceLT,reduceCtorEq,rR h,g0,g86,g87,g88,hlt2,e2,km,hat,e_,c0,hadd2]
    refine next2 _ _ ⟨rfl,(mH (by simp +decide only [GS,g0,g10,g86,g87,and_self]) (fun q m' hq2 hm'=>?_))⟩
    rcases Nat.lt_or_ge q j with g | g
    ·exact hq q m' g hm'
    ·obtain rfl:q = j:=by omega
     rw [hm] at hm'; cases hm'; rw [hat]; simp
  ·rintro F Y ⟨rfl,g0,g10,g86,g87,g88,hq⟩
   have hlt2:=eF (Nat.lt_irrefl r.after.length)
   rw [aF]
   simp only [KP,↓reduceIte,reduceEqDiff,reduceLT,g10,g87,g88,hlt2,hadd]
   refine next _ _ ⟨rfl,(k_ (by simp +decide only [GS,g0,and_self]) (fun j s hj hs2 m hm=>?_))⟩
   rcases Nat.lt_or_ge j i with g | g
   ·exact hp j s g hs2 m hm
   ·obtain rfl:j = i:=by omega
    rw [hr] at hs2; cases hs2
    obtain ⟨q,hq2,e⟩:=List.getElem_of_mem hm
    exact hq q m hq2 (by rw [List.getElem?_eq_getElem hq2,e])
 ·rintro F Y ⟨rfl,g0,g10,hp⟩
  have hlt:=eF (Nat.lt_irrefl rs.length)
  rw [aF]
  simp only [KP,↓reduceIte,reduceEqDiff,reduceLT,reduceCtorEq,g0,g10,la,hlt]
  refine key ?_ _ (by simp +decide only [GS,g0])
  unfold gJ
  rw [List.any_eq_false]
  intro s hs2
  rw [List.any_eq_true]
  rintro ⟨m,hm,e⟩
  obtain ⟨j,hj,e2⟩:=List.getElem_of_mem hs2
  exact hp j s hj (by rw [List.getElem?_eq_getElem hj,e2]) m hm (of_decide_eq_true e)
theorem L7 {rs:List aG} {i:Nat} {r:aG} (hr:rs[i]? = some r):nU rs i = (decide (∃ k,fP rs r.name = some k /\ k < i) || r.outs.any fun o=>decide (∃ k,fC rs o = some k /\ k < i)):=by
 have first_lt:∀ (p:aG -> Bool) (rs:List aG) (i:Nat),(∃ k,bQ p rs = some k /\ k < i) ↔ ∃ q ∈ rs.take i,p q = true:=by
  intro p rs
  induction rs with
  | nil=>intro i; simp [bQ]
  | cons r rs ih=>
   intro i
   rw [bQ]
   by_cases hp:p r = true
   ·rw [if_pos hp]
    cases i with
    | zero=>simp
    | succ i=>simp [hp]
   ·rw [if_neg hp]
    cases i with
    | zero=>simp
    | succ i=>
     rw [List.take_succ_cons]
     simp only [mem_cons,Option.map_eq_some_iff]
     constructor
     ·rintro ⟨k,⟨k',h1,rfl⟩,h2⟩
      obtain ⟨q,hq,hpq⟩:=(ih i).1 ⟨k',h1,by omega⟩
      exact ⟨q,.inr hq,hpq⟩
     ·rintro ⟨q,rfl | hq,hpq⟩
      ·exact absurd hpq hp
      ·obtain ⟨k,h1,h2⟩:=(ih i).2 ⟨q,hq,hpq⟩
       exact ⟨k + 1,⟨k,h1,rfl⟩,by omega⟩
 unfold nU fP fC
 rw [hr]
 rw [Bool.eq_iff_iff]
 simp only [List.any_eq_true,Bool.or_eq_true,decide_eq_true_eq,first_lt]
 constructor
 ·rintro ⟨q,hq,h1 | ⟨o,ho,h2⟩⟩
  ·exact .inl ⟨q,hq,h1⟩
  ·exact .inr ⟨o,ho,q,hq,h2⟩
 ·rintro (⟨q,hq,h1⟩ | ⟨o,ho,q,hq,h2⟩)
  ·exact ⟨q,hq,.inl h1⟩
  ·exact ⟨q,hq,.inr ⟨o,ho,h2⟩⟩
theorem pL {α:Type} {p:α -> Bool} {l:List α} {x:α} (hx:x ∈ l) (hp:p x = true):∃ k,bQ p l = some k:=by
 cases h:bQ p l with
 | some k=>exact ⟨k,rfl⟩
 | none=>
  have h2:(bQ p l).isSome = true:=by rw [cB,List.any_eq_true]; exact ⟨x,hx,hp⟩
  rw [h] at h2; cases h2
theorem Um (h:bK E) {a:V} {rs:List aG} (hs:wR rs) (ia:IS dZ a rs) (hp0:∀ (j:Nat) (s:aG),rs[j]? = some s -> bA s = 0) (h40:¬ 40 < rs.length) (F:FT) (g0:F.get 0 = a) (hk:∀ e nm,HN rs e -> K (.fZ [.int .i64 e,.str nm]) []):R E (cutAt [1,1,1] (aA Tryz.f13).code) [] ⟨110,F⟩ [] (mD E (aA Tryz.f13).results K):=by
 have la:=cV h ia
 have hE:=yH hp0
 have hmem:∀ x ∈ rs,x.outs.length <= 4294967296:=fun x hx=>by have:=(hs.all x hx).outs; omega
 rw [if_neg h40] at hE
 have d19:=h.TZ
 simp only [aA,Tryz.f13,cutAt,Option.getD_some] at d19
 have key:=fun hcl F g0=>Ul (K:=K) h hs ia hp0 h40 hcl F g0 hk
 rw [show cutAt [1,1,1] (aA Tryz.f13).code = .seq (.seq (cutAt [1,1,1,0,0] (aA Tryz.f13).code) (.block 2 (.loop (cutAt [1,1,1,0,1,2,2] (aA Tryz.f13).code)))) (cutAt [1,1,1,1] (aA Tryz.f13).code) from rfl]
 generalize cutAt [1,1,1,1] (aA Tryz.f13).code = C at *
 simp only [aA,Tryz.f13,KP,↓reduceIte,reduceLT,cutAt]
 refine aU (fun i F Y=>Y = [] /\ F.get 0 = a /\ F.get 6 = .int .i64 (i:Int) /\ ∀ j,j < i -> nU rs j = false) rs.length ?_ ?_ rs.length 0 _ _ (by omega) ⟨rfl,(k_ (by simp +decide only [GS,g0,and_self]) (fun j hj=>by omega))⟩
 ·rintro i F Y hi ⟨rfl,g0,g6,hp⟩ next
  obtain ⟨r,hr⟩:∃ y,rs[i]? = some y:=⟨_,List.getElem?_eq_getElem hi⟩
  have hrm:=mem_of_getElem? hr
  have a3:=(hs.all r hrm).outs
  obtain ⟨g,p1,p2,p3,p4,e1,i1,i2,i3,i4⟩:=fD h ia hr
  have l2:=bO h i2
  have hlt:=eE hi
  have hadd:=bY i (by omega)
  obtain ⟨k1,hk1⟩:=pL (p:=fun q:aG=>decide (q.name = r.name)) hrm (decide_eq_true rfl)
  have hk1:fP rs r.name = some k1:=hk1
  have km:=TH (Z:=[]) h (s:=r.name) (ia.ls _ 37) (by omega)
  have hcl:=L7 hr
  rw [show decide (∃ k,fP rs r.name = some k /\ k < i) = decide (k1 < i) by rw [hk1]; simp] at hcl
  have hb:decide ((k1:Int) < (i:Int)) = decide (k1 < i):=by rw [Bool.eq_iff_iff,decide_eq_true_eq,decide_eq_true_eq]; omega
  rw [aF]
  simp only [KP,↓reduceIte,reduceEqDiff,reduceLT,reduceCtorEq,rR h,J9 h,h.c_,h.bB,h.bJ,g0,g6,la,hlt,e1,l2,km,hk1,e_,hb]
  refine aU (fun j F Y=>Y = [] /\ F.get 0 = a /\ F.get 6 = .int .i64 (i:Int) /\ F.get 55 = p2 /\ F.get 56 = .int .i64 (r.outs.length:Int) /\ F.get 57 = .int .i64 (j:Int) /\ F.get 7 = .bool (decide (k1 < i) || (r.outs.take j).any fun o=>decide (∃ k,fC rs o = some k /\ k < i))) r.outs.length ?_ ?_ r.outs.length 0 _ _ (by omega) ⟨rfl,(mH (by simp +decide only [GS,g0,g6,and_self]) (by simp [FT.cJ]))⟩
  ·rintro j F Y hj ⟨rfl,g0,g6,g55,g56,g57,g7⟩ next2
   obtain ⟨m,hm⟩:∃ y,r.outs[j]? = some y:=⟨_,List.getElem?_eq_getElem hj⟩
   have hmm:=mem_of_getElem? hm
   obtain ⟨g,e2⟩:=gG h i2 hm
   have hlt2:=eE hj
   have hadd2:=bY j (by omega)
   obtain ⟨k2,hk2⟩:=pL (p:=fun q:aG=>decide (m ∈ q.outs)) hrm (decide_eq_true hmm)
   have hk2:fC rs m = some k2:=hk2
   have kk:=Kg (Z:=[]) h (s:=m) (ia.ls _ 37) hmem (by omega)
   have hb2:decide ((k2:Int) < (i:Int)) = decide (k2 < i):=by rw [Bool.eq_iff_iff,decide_eq_true_eq,decide_eq_true_eq]; omega
   have hnew:=pA (p:=fun o=>decide (∃ k,fC rs o = some k /\ k < i)) hm
   rw [show decide (∃ k,fC rs m = some k /\ k < i) = decide (k2 < i) by rw [hk2]; simp] at hnew
   rw [aF]
   cases hbad:(decide (k1 < i) || (r.outs.take j).any fun o=>decide (∃ k,fC rs o = some k /\ k < i)) with
   | true=>
    rw [hbad] at g7
    simp only [KP,↓reduceIte,reduceEqDiff,reduceLT,rR h,g55,g56,g57,g7,hlt2,e2,hadd2]
    refine next2 _ _ ⟨rfl,(mH (by simp +decide only [GS,g0,g6,g55,g56,and_self]) ?_)⟩
    rw [hnew,<- Bool.or_assoc,hbad]
    simp only [FT.cJ,reduceEqDiff,↓reduceIte,Bool.true_or]
   | false=>
    rw [hbad] at g7
    simp only [KP,↓reduceIte,reduceEqDiff,reduceLT,reduceCtorEq,rR h,g0,g6,g55,g56,g57,g7,hlt2,e2,kk,hk2,e_,hb2,hadd2]
    refine next2 _ _ ⟨rfl,(mH (by simp +decide only [GS,g0,g6,g55,g56,and_self]) ?_)⟩
    rw [hnew,<- Bool.or_assoc,hbad]
    simp only [FT.cJ,reduceEqDiff,↓reduceIte,Bool.false_or]
  ·rintro F Y ⟨rfl,g0,g6,g55,g56,g57,g7⟩
   have hlt2:=eF (Nat.lt_irrefl r.outs.length)
   rw [take_of_length_le (Nat.le_refl _),<- hcl] at g7
   rw [aF]
   cases hc:nU rs i with
   | true=>
    rw [hc] at g7
    simp only [KP,↓reduceIte,reduceEqDiff,reduceLT,reduceCtorEq,rR h,h.c_,h.bJ,g0,g6,g56,g57,g7,hlt2,e1,aT d19,bM]
    refine hk 2 _ (.inl ?_)
    have hst:sH rs = true:=by
     unfold sH
     rw [List.any_eq_true]
     exact ⟨i,mem_range.2 hi,hc⟩
    rw [if_pos hst] at hE
    rw [hE]
    exact ⟨by decide,rfl⟩
   | false=>
    rw [hc] at g7
    simp only [KP,↓reduceIte,reduceEqDiff,reduceLT,g6,g56,g57,g7,hlt2,hadd]
    refine next _ _ ⟨rfl,(k_ (by simp +decide only [GS,g0,and_self]) (fun j hj=>?_))⟩
    rcases Nat.lt_or_ge j i with g | g
    ·exact hp j g
    ·obtain rfl:j = i:=by omega
     exact hc
 ·rintro F Y ⟨rfl,g0,g6,hp⟩
  have hlt:=eF (Nat.lt_irrefl rs.length)
  rw [aF]
  simp only [KP,↓reduceIte,reduceEqDiff,reduceLT,reduceCtorEq,g0,g6,la,hlt]
  refine key ?_ _ (by simp +decide only [GS,g0])
  unfold sH
  rw [List.any_eq_false]
  intro i hi
  rw [hp i (mem_range.1 hi)]; simp
theorem R5 (h:bK E) {a:V} {rs:List aG} (hs:wR rs) (ia:IS dZ a rs) (F:FT) (g0:F.get 0 = a) (hk:∀ e nm,HN rs e -> K (.fZ [.int .i64 e,.str nm]) []):R E (aA Tryz.f13).code [] ⟨110,F⟩ [] (mD E (aA Tryz.f13).results K):=by
 have la:=cV h ia
 have hle:=hs.len
 have d6:=h.Y_
 simp only [aA,Tryz.f13,cutAt,Option.getD_some] at d6
 have key:=fun hp0 h40 F g0=>Um (K:=K) h hs ia hp0 h40 F g0 hk
 rw [show (aA Tryz.f13).code = .seq (cutAt [0] (aA Tryz.f13).code) (.seq (cutAt [1,0] (aA Tryz.f13).code) (.seq (cutAt [1,1,0] (aA Tryz.f13).code) (cutAt [1,1,1] (aA Tryz.f13).code))) from rfl]
 generalize cutAt [1,1,1] (aA Tryz.f13).code = C at *
 simp only [aA,Tryz.f13,KP,↓reduceIte,reduceLT,kV,cutAt]
 refine aU (fun i F Y=>Y = [] /\ F.get 0 = a /\ F.get 4 = .int .i64 (i:Int) /\ ∀ (j:Nat) (s:aG),j < i -> rs[j]? = some s -> bA s = 0) rs.length ?_ ?_ rs.length 0 _ _ (by omega) ⟨rfl,(k_ (by simp +decide only [GS,g0,and_self]) (fun j s hj=>by omega))⟩
 ·rintro i F Y hi ⟨rfl,g0,g4,hp⟩ next
  obtain ⟨r,hr⟩:∃ y,rs[i]? = some y:=⟨_,List.getElem?_eq_getElem hi⟩
  have hrs:=hs.all r (mem_of_getElem? hr)
  obtain ⟨g,p1,p2,p3,p4,e1,i1,i2,i3,i4⟩:=fD h ia hr
  have hlt:=eE hi
  have hadd:=bY i (by omega)
  have kr:=LC (Z:=[]) h (Ny i1 i2 i3 i4) hrs
  rw [aF]
  by_cases he:bA r = 0
  ·have c0:decide (bA r = 0) = true:=decide_eq_true he
   simp only [KP,↓reduceIte,reduceEqDiff,reduceLT,reduceCtorEq,Sj h,g0,g4,la,hlt,e1,kr,c0,hadd]
   refine next _ _ ⟨rfl,(k_ (by simp +decide only [GS,g0,and_self]) (fun j s hj hs2=>?_))⟩
   rcases Nat.lt_or_ge j i with g | g
   ·exact hp j s g hs2
   ·obtain rfl:j = i:=by omega
    rw [hr] at hs2; cases hs2; exact he
  ·have c0:decide (bA r = 0) = false:=decide_eq_false he
   simp only [KP,↓reduceIte,reduceEqDiff,reduceLT,reduceCtorEq,rR h,Sj h,h.c_,h.bJ,g0,g4,la,hlt,e1,kr,c0,aT d6,bM]
   exact hk _ _ (.inl ⟨by rw [zZ hr he hp]; exact he,(zZ hr he hp).symm⟩)
 ·rintro F Y ⟨rfl,g0,g4,hp⟩
  have hlt:=eF (Nat.lt_irrefl rs.length)
  have hp0:∀ (j:Nat) (s:aG),rs[j]? = some s -> bA s = 0:=fun j s hs2=>hp j s (List.getElem?_eq_some_iff.1 hs2).1 hs2
  rw [aF]
  by_cases h40:40 < rs.length
  ·have c0:decide ((40:Int) < (rs.length:Int)) = true:=decide_eq_true (by omega)
   simp only [KP,↓reduceIte,reduceEqDiff,reduceLT,reduceCtorEq,kV,g0,g4,la,hlt,c0]
   refine hk 4 _ (.inl ?_)
   rw [yH hp0,if_pos h40]
   exact ⟨by decide,rfl⟩
  ·have c0:decide ((40:Int) < (rs.length:Int)) = false:=decide_eq_false (by omega)
   simp only [KP,↓reduceIte,reduceEqDiff,reduceLT,reduceCtorEq,g0,g4,la,hlt,c0]
   exact key hp0 h40 _ (by simp +decide only [GS,g0])
theorem Pb (h:bK E) {a:V} {rs:List aG} (ha:LS dZ 37 Z a rs) (hs:wR rs):aB E 13 [a] Z fun v σ'=>σ' = Z /\ ∃ e nm,v = .fZ [.int .i64 e,.str nm] /\ HN rs e:=by
 obtain ⟨a',ea,ia⟩:=eT h ha
 rw [aH h.hs13 h.Ng h.fn13 h.md13 (args':=[a']) (by simp only [aW,ea]),aZ (by kernel_rfl)]
 exact R5 h hs ia _ (by simp +decide only [GS]) fun e nm he=>⟨rfl,e,nm,rfl,he⟩
end
end
section
section
variable {E:Env} {Z:Sg} {K:V -> Sg -> Prop}
def gE:Lay AxS.Step:=⟨fun r x=>∃ a l,r = [.str x.out,.int .i64 x.op,a,l,.int .i64 x.n] /\ kE aM a x.args /\ kE aM l x.lits,5,fun _ _ ⟨_,_,h,_⟩=>by rw [h]; rfl,fun _ _ ⟨a,l,h,h1,h2⟩ c hc=>by
 rw [h] at hc
 simp only [mem_cons,List.not_mem_nil,or_false] at hc
 rcases hc with rfl | rfl | rfl | rfl | rfl
 ·rfl
 ·rfl
 ·exact h1.is.bE
 ·exact h2.is.bE
 ·rfl⟩
theorem Ia:∀ r x,gE.P r x -> ∀ c ∈ r,cF false c = true:=fun r x ⟨a,l,h,h1,h2⟩ c hc=>by
 rw [h] at hc
 simp only [mem_cons,List.not_mem_nil,or_false] at hc
 rcases hc with rfl | rfl | rfl | rfl | rfl
 ·rfl
 ·rfl
 ·exact h1.tag
 ·exact h2.tag
 ·rfl
theorem MO:∀ r x,aM.P r x -> ∀ c ∈ r,cF false c = true:=fun r x hr c hc=>by
 rw [show r = [.str x] from hr] at hc
 cases hc with
 | head=>rfl
 | tail _ h=>cases h
theorem yT (h:bK E) {v:V} {l:List aX} (iv:IS aM v l) (hl:l.length <= 8796093022208):∃ w Y v',Ax.append E [] #[28,28] .aC v = some (w,Y) /\ cP Y E.ty false w = some v' /\ kE aM v' l:=by
 obtain ⟨rs,e,ha⟩:=qW iv []
 have hr:lJ l.length 16 = true:=by
  unfold lJ
  rw [decide_eq_true_eq]
  exact Nat.le_trans (Nat.mul_le_mul_right 17 hl) (by decide)
 obtain ⟨w,Y,h1,h2⟩:=PA (ats:=#[28,28]) h.bB rfl h.c_ rfl (by decide) (jD h) rfl e ha hr
 obtain ⟨v',h3,h4⟩:=qC h.c_ rfl MO h2
 exact ⟨w,Y,v',h1,h3,h4⟩
theorem iV {c:V} (h:Ax.bE c = true):c.cells = [c]:=by cases c <;> first | rfl | cases h
theorem DG (Z:Sg):aV Z E.ty true .aC = some .aC:=rfl
theorem RF (h:bK E) {x:aG} {a b c d:V} (ia:IS aM a x.ins) (ib:IS aM b x.outs) (ic:IS aM c x.after) (hx:Zm x) {Y:Sg} {n0:Nat} (b0:Y[n0]? = some (O.cells 37 [.str x.name,a,b,c,d] true)) (F:FT) (g1:F.get 1 = .ref n0 0) (g2:F.get 2 = .ref (n0 + 1) 0) :
  ∃ F' a' b' c',cC E (ev E 0) (opsOf (cutAt [1,0] (aA Tryz.f78).code)) ⟨45,F⟩ Y = some (⟨45,F'⟩,Y ++ [O.cells 37 [.str x.name,a',b',c',.aC] true]) /\ F'.get 1 = .ref n0 0 /\ F'.get 2 = .ref (n0 + 1) 0 /\ F'.get 3 = .ref Y.length 0 /\ kE aM a' x.ins /\ kE aM b' x.outs /\ kE aM c' x.after:=by
 have a1:=hx.ins
 have a2:=hx.outs
 have a3:=hx.after
 obtain ⟨w1,τ1,a',h1,k1,i1⟩:=yT h ia (by omega)
 obtain ⟨w2,τ2,b',h2,k2,i2⟩:=yT h ib (by omega)
 obtain ⟨w3,τ3,c',h3,k3,i3⟩:=yT h ic (by omega)
 have s1:=fun Z=>lD (E:=E) ia Z
 have s2:=fun Z=>lD (E:=E) ib Z
 have s3:=fun Z=>lD (E:=E) ic Z
 have v1:=b_ 10 ia
 have v2:=b_ 10 ib
 have v3:=b_ 10 ic
 have u1:=b_ 10 i1.is
 have u2:=b_ 10 i2.is
 have u3:=b_ 10 i3.is
 have o1:=aL i1.is.bE
 have o2:=aL i2.is.bE
 have o3:=aL i3.is.bE
 have n1:=iV i1.is.bE
 have n2:=iV i2.is.bE
 have n3:=iV i3.is.bE
 have b0':=aN (x:=O.cells 37 [.str [],.aC,.aC,.aC,.aC] true) b0
 have vs:=Ak 11 x.name
 unfold cC
 rw [h.Ux,h.V6]
 simp only [aA,Tryz.f78,KP,Ax.loadAt,Ax.storeAt,↓reduceIte,reduceEqDiff,reduceLT,reduceAdd,reduceCtorEq,h.c_,h.bB,h.fG,h.bJ,opsOf,cutAt,Fz.apps,fO,bG,bW,jP,Ax.comp,Ax.last,fI,Ax.again,t_,aW,Ax.fill,Ax.placeOf,g1,b0,b0',h1,h2,h3,k1,k2,k3,s1,s2,s3,v1,v2,v3,u1,u2,u3,o1,o2,o3,vs,n1,n2,n3,DG,aO,cH]
 exact ⟨_,a',b',c',rfl,(gD (by simp +decide only [GS,g1,g2,and_self]) ⟨i1,i2,i3⟩)⟩
def Kp (Z Y:Sg):Prop:=∀ (c:Nat) (o:O),Z[c]? = some o -> Y[c]? = some o
theorem RG (h:bK E) {x:aG} {a b c d:V} (ia:IS aM a x.ins) (ib:IS aM b x.outs) (ic:IS aM c x.after) (hx:Zm x) {Y:Sg} {n0:Nat} (b0:Y[n0]? = some (O.cells 37 [.str x.name,a,b,c,d] true)) (F:FT) (g1:F.get 1 = .ref n0 0) (g2:F.get 2 = .ref (n0 + 1) 0) {st:List jO} {Q:Ax.X -> Fr -> Sg -> Prop}
  (hk:∀ F' a' b' c',F'.get 1 = .ref n0 0 -> F'.get 2 = .ref (n0 + 1) 0 -> F'.get 3 = .ref Y.length 0 -> kE aM a' x.ins -> kE aM b' x.outs -> kE aM c' x.after -> M E st .normal ⟨45,F'⟩ (Y ++ [O.cells 37 [.str x.name,a',b',c',.aC] true]) Q) :
  R E (.region 1 (opsOf (cutAt [1,0] (aA Tryz.f78).code)) true) st ⟨45,F⟩ Y Q:=by
 obtain ⟨F',a',b',c',hE,h1,h2,h3,h4,h5,h6⟩:=RF h ia ib ic hx b0 F g1 g2
 exact Eq.mpr (h_ hE) (hk F' a' b' c' h1 h2 h3 h4 h5 h6)
end
end
section
section
variable {E:Env} {Z:Sg} {K:V -> Sg -> Prop}
theorem tK {α:Type} {L:Lay α} {t u k:Nat} {Y:Sg} {w:V} {l:List α} {cs:List V} {ex:Bool} (hb:Y[k]? = some (.cells u cs ex)) (hu:u ≠ t) (ow:bD L t Y w l):aQ w ≠ some k:=by
 rcases ow with ⟨rfl,-⟩ | ⟨b,rs,ex,rfl,hc,-⟩
 ·intro e; cases e
 ·intro e; cases e; rw [hb] at hc; cases hc; exact hu rfl
theorem qG {α:Type} {L:Lay α} {t:Nat} {Y:Sg} {w:V} {l:List α} (ow:bD L t Y w l):w.cells = [w] /\ w.a_ = true:=by
 rcases ow with ⟨rfl,-⟩ | ⟨b,rs,ex,rfl,-⟩ <;> exact ⟨rfl,rfl⟩
theorem uI {Y:Sg} {i:Nat} {x y:O} (h:Y[i]? = some y):(Y.set i x)[i]? = some x:=getElem?_set_self (List.getElem?_eq_some_iff.1 h).1
theorem pR {Y:Sg} {i j:Nat} {x y:O} (h:Y[j]? = some y) (hij:i ≠ j):(Y.set i x)[j]? = some y:=by rw [getElem?_set_ne hij]; exact h
theorem RE (h:bK E) {s:AxS.Step} {p q:V} (ip:IS aM p s.args) (iq:IS aM q s.lits) (hp:s.args.length <= 8796093022208) (hq:s.lits.length <= 8796093022208) {Y:Sg} (F:FT) (g5:F.get 5 = .ref Y.length 0) {st:List jO} {Q:Ax.X -> Fr -> Sg -> Prop}
  (hk:∀ F' p' q',(∀ i,i < 30 -> F'.get i = F.get i) -> kE aM p' s.args -> kE aM q' s.lits -> M E st .normal ⟨45,F'⟩ (Y ++ [O.cells 75 [.str s.out,.int .i64 s.op,p',q',.int .i64 s.n] true]) Q):R E (.region 6 (opsOf (cutAt [1,1,0,1,2,2,1,0,2,1,0] (aA Tryz.f78).code)) true) st ⟨45,F⟩ (Y ++ [O.cells 75 [.str s.out,.int .i64 s.op,p,q,.int .i64 s.n] true]) Q:=by
 obtain ⟨w1,τ1,p',h1,k1,i1⟩:=yT h ip (by omega)
 obtain ⟨w2,τ2,q',h2,k2,i2⟩:=yT h iq (by omega)
 have s1:=fun Z=>lD (E:=E) ip Z
 have s2:=fun Z=>lD (E:=E) iq Z
 have o1:=aL i1.is.bE
 have o2:=aL i2.is.bE
 have n1:=iV i1.is.bE
 have n2:=iV i2.is.bE
 have key:∃ F',cC E (ev E 0) (opsOf (cutAt [1,1,0,1,2,2,1,0,2,1,0] (aA Tryz.f78).code)) ⟨45,F⟩ (Y ++ [O.cells 75 [.str s.out,.int .i64 s.op,p,q,.int .i64 s.n] true]) = some (⟨45,F'⟩,Y ++ [O.cells 75 [.str s.out,.int .i64 s.op,p',q',.int .i64 s.n] true]) /\ ∀ i,i < 30 -> F'.get i = F.get i:=by
  unfold cC
  rw [h.Uw,h.V5]
  simp only [aA,Tryz.f78,KP,Ax.loadAt,Ax.storeAt,↓reduceIte,reduceEqDiff,reduceLT,reduceLeDiff,reduceAdd,reduceCtorEq,h.bB,h.cR,opsOf,cutAt,Fz.apps,bG,bW,jP,Ax.comp,t_,gC,aW,g5,h1,h2,k1,k2,s1,s2,o1,o2,n1,n2,DG,aO,cH]
  refine ⟨_,rfl,fun i hi=>?_⟩
  simp only [FT.cJ]
  repeat rw [if_neg (by omega)]
 obtain ⟨F',hE,hF⟩:=key
 exact Eq.mpr (h_ hE) (hk F' p' q' hF i1 i2)
theorem Pz (h:bK E) {Y:Sg} {w:V} {l:List AxS.Step} {s:AxS.Step} {p q:V} (ow:bD gE 75 Y w l) (ip:kE aM p s.args) (iq:kE aM q s.lits) (hb:l.length <= 1000):∃ w' τ',Ax.append E (Y ++ [O.cells 75 [.str s.out,.int .i64 s.op,p,q,.int .i64 s.n] true]) #[35,35] w (.sl Y.length 0 1 none) = some (w',τ') /\ bD gE 75 τ' w' (l ++ [s]) /\ Sp (Y ++ [O.cells 75 [.str s.out,.int .i64 s.op,p,q,.int .i64 s.n] true]) τ' w /\ Y.length <= τ'.length /\ ∀ b,aQ w' = some b -> aQ w = some b \/ Y.length <= b:=by
 obtain ⟨w',τ',h1,h2,h3,h4,h5⟩:=jX (m:=[s]) (new:=[[.str s.out,.int .i64 s.op,p,q,.int .i64 s.n]]) h.fG rfl h.cR rfl (by decide) (Av h) rfl (ow.app [O.cells 75 [.str s.out,.int .i64 s.op,p,q,.int .i64 s.n] true]) (mM rfl) (.one ⟨p,q,rfl,ip,iq⟩) (eU (b:=1001) (by decide) (by simp only [length_cons,length_nil]; omega))
 refine ⟨w',τ',h1,h2,h3,?_,fun b e=>?_⟩
 ·simp only [length_append,length_cons,length_nil] at h4; omega
 ·rcases h5 b e with g | g
  ·exact .inl g
  ·simp only [length_append,length_cons,length_nil] at g; exact .inr (by omega)
def Zn (Y:Sg) (lo:Nat) (v:V) (x:aG):Prop:=∃ a b c w,v = .agg [.str x.name,a,b,c,w] /\ kE aM a x.ins /\ kE aM b x.outs /\ kE aM c x.after /\ bD gE 75 Y w x.steps /\ ∀ b,aQ w = some b -> lo <= b
theorem Uh (h:bK E) {v:V} {x:aG} (hv:HK v x) (hx:Zm x):aB E 78 [v] Z fun v' Y=>Zn Y Z.length v' x /\ Kp Z Y:=by
 obtain ⟨a,b,c,d,rfl,ia,ib,ic,id⟩:=hv
 have a4:=hx.steps
 have ha:=aL ia.bE
 have hb:=aL ib.bE
 have hc:=aL ic.bE
 have hd:=aL id.bE
 have ld:=kZ h id
 rw [dF h.hs78 h.sp78 h.fn78 h.md78,aZ (by kernel_rfl)]
 simp only [aA,Tryz.f78,KP,↓reduceIte,reduceLT,reduceAdd,h.bJ,ha,hb,hc,hd]
 have hlen:(Z ++ [O.cells 37 [.str x.name,a,b,c,d] true]).length = Z.length + 1:=by simp
 have b0:(Z ++ [O.cells 37 [.str x.name,a,b,c,d] true] ++ [O.cells 37 [.str [],.aC,.aC,.aC,.aC] true])[Z.length]? = some (O.cells 37 [.str x.name,a,b,c,d] true):=aN aO
 have z0:(Z ++ [O.cells 37 [.str x.name,a,b,c,d] true] ++ [O.cells 37 [.str [],.aC,.aC,.aC,.aC] true])[Z.length + 1]? = some (O.cells 37 [.str [],.aC,.aC,.aC,.aC] true):=by rw [<- hlen]; exact aO
 have kp:Kp Z (Z ++ [O.cells 37 [.str x.name,a,b,c,d] true] ++ [O.cells 37 [.str [],.aC,.aC,.aC,.aC] true]):=fun c o e=>aN (aN e)
 have hl2:(Z ++ [O.cells 37 [.str x.name,a,b,c,d] true] ++ [O.cells 37 [.str [],.aC,.aC,.aC,.aC] true]).length = Z.length + 2:=by simp
 simp only [hlen]
 generalize Z ++ [O.cells 37 [.str x.name,a,b,c,d] true] ++ [O.cells 37 [.str [],.aC,.aC,.aC,.aC] true] = Y at *
 refine RG h ia ib ic hx b0 _ ?_ ?_ ?_
 ·exact (by simp +decide only [GS])
 ·exact (by simp +decide only [GS])
 intro F1 a' b' c' g1 g2 g3 i1 i2 i3
 simp only [KP,↓reduceIte,reduceLT]
 have b1:=aN (x:=O.cells 37 [.str x.name,a',b',c',.aC] true) b0
 have z1:=aN (x:=O.cells 37 [.str x.name,a',b',c',.aC] true) z0
 have kp1:Kp Z (Y ++ [O.cells 37 [.str x.name,a',b',c',.aC] true]):=fun c o e=>aN (kp c o e)
 have x1:(Y ++ [O.cells 37 [.str x.name,a',b',c',.aC] true])[Y.length]? = some (O.cells 37 [.str x.name,a',b',c',.aC] true):=aO
 rw [hl2] at x1 g3
 generalize Y ++ [O.cells 37 [.str x.name,a',b',c',.aC] true] = Y at *
 refine aU (fun i F Y=>Y[Z.length]? = some (O.cells 37 [.str x.name,a,b,c,d] true) /\ Y[Z.length + 1]? = some (O.cells 37 [.str [],.aC,.aC,.aC,.aC] true) /\ Kp Z Y /\ F.get 1 = .ref Z.length 0 /\ F.get 2 = .ref (Z.length + 1) 0 /\ F.get 3 = .ref (Z.length + 2) 0 /\ F.get 4 = .int .i64 (i:Int) /\ ∃ w,Y[Z.length + 2]? = some (O.cells 37 [.str x.name,a',b',c',w] true) /\ bD gE 75 Y w (x.steps.take i) /\ ∀ b,aQ w = some b -> Z.length <= b) x.steps.length ?_ ?_ x.steps.length 0 _ _ (by omega) ⟨b1,z1,kp1,(gY (by simp +decide only [GS,g1,g2,g3,and_self]) ⟨.aC,x1,.inl ⟨rfl,rfl⟩,fun b e=>by cases e⟩)⟩
 ·rintro i F Y hi ⟨b0,z0,kp,g1,g2,g3,g4,w,x0,ow,hw⟩ next
  obtain ⟨s,hst⟩:∃ y,x.steps[i]? = some y:=⟨_,List.getElem?_eq_getElem hi⟩
  have hmem:=mem_of_getElem? hst
  have a5:=hx.args s hmem
  have a6:=hx.lits s hmem
  obtain ⟨g,p,q,e1,ip,iq⟩:=uS h id hst
  have hop:=aL ip.bE
  have hoq:=aL iq.bE
  have hlt:=eE hi
  have hadd:=bY i (by omega)
  rw [aF]
  simp only [KP,Ax.loadAt,Ax.storeAt,↓reduceIte,reduceEqDiff,reduceLT,reduceAdd,reduceCtorEq,h.fG,h.bJ,h.cR,g1,g4,b0,ld,hlt,e1,hop,hoq,aO,cH]
  refine RE h ip iq (by omega) (by omega) _ ?_ ?_
  ·exact (by simp +decide only [GS])
  intro F2 p' q' hF ip' iq'
  have k1:F2.get 1 = .ref Z.length 0:=by rw [hF 1 (by omega)]; exact (by simp +decide only [GS,g1])
  have k2:F2.get 2 = .ref (Z.length + 1) 0:=by rw [hF 2 (by omega)]; exact (by simp +decide only [GS,g2])
  have k3:F2.get 3 = .ref (Z.length + 2) 0:=by rw [hF 3 (by omega)]; exact (by simp +decide only [GS,g3])
  have k4:F2.get 4 = .int .i64 (i:Int):=by rw [hF 4 (by omega)]; exact (by simp +decide only [GS,g4])
  have k5:F2.get 5 = .ref Y.length 0:=by rw [hF 5 (by omega)]; exact (by simp +decide only [GS])
  have hop':=aL ip'.is.bE
  have hoq':=aL iq'.is.bE
  have b1:=aN (x:=O.cells 75 [.str s.out,.int .i64 s.op,p',q',.int .i64 s.n] true) b0
  have z1:=aN (x:=O.cells 75 [.str s.out,.int .i64 s.op,p',q',.int .i64 s.n] true) z0
  have x1:=aN (x:=O.cells 75 [.str s.out,.int .i64 s.op,p',q',.int .i64 s.n] true) x0
  have s1:(Y ++ [O.cells 75 [.str s.out,.int .i64 s.op,p',q',.int .i64 s.n] true])[Y.length]? = some (O.cells 75 [.str s.out,.int .i64 s.op,p',q',.int .i64 s.n] true):=aO
  have ow1:=ow.app [O.cells 75 [.str s.out,.int .i64 s.op,p',q',.int .i64 s.n] true]
  have kp1:Kp Z (Y ++ [O.cells 75 [.str s.out,.int .i64 s.op,p',q',.int .i64 s.n] true]):=fun c o e=>aN (kp c o e)
  have hle:Z.length <= (Y ++ [O.cells 75 [.str s.out,.int .i64 s.op,p',q',.int .i64 s.n] true]).length:=by
   have:=(List.getElem?_eq_some_iff.1 b1).1; omega
  generalize Y ++ [O.cells 75 [.str s.out,.int .i64 s.op,p',q',.int .i64 s.n] true] = τ2 at *
  generalize Y.length = y at *
  obtain ⟨w',τ3,ha3,ow3,M1,hl3,hb3⟩:=Pz (s:=s) h ow1 ip' iq' (by rw [length_take]; omega)
  have x3:=M1 _ _ (aN x1) (tK x1 (by decide) ow1)
  have b3:=M1 _ _ (aN b1) (tK b1 (by decide) ow1)
  have z3:=M1 _ _ (aN z1) (tK z1 (by decide) ow1)
  have kp3:Kp Z τ3:=fun c o e=>M1 _ _ (aN (kp1 c o e)) (fun e2=>by
   have:=hw c e2
   have:=(List.getElem?_eq_some_iff.1 e).1
   omega)
  obtain ⟨hc1,hc2⟩:=qG ow3
  simp only [KP,Ax.loadAt,Ax.storeAt,↓reduceIte,reduceEqDiff,reduceLT,reduceLeDiff,reduceAdd,reduceMul,reduceCtorEq,h.fG,h.bJ,h.cR,k3,k4,k5,x1,x3,s1,ha3,hadd,hc1,hc2,hop',hoq',Ax.fill,fQ,Nat.zero_mul]
  refine next _ _ ⟨pR b3 (by omega),pR z3 (by omega),fun c o e=>pR (kp3 c o e) (by have:=(List.getElem?_eq_some_iff.1 e).1; omega),(gY (by simp +decide only [GS,k1,k2,k3,and_self]) ⟨w',uI x3,?_,fun b e=>?_⟩)⟩
  ·have e:x.steps.take (i + 1) = x.steps.take i ++ [s]:=by rw [take_add_one,hst]; rfl
   rw [e]
   refine ow3.keep fun c o hc ho=>pR ho ?_
   intro e2
   rw [<- e2] at hc
   exact tK x3 (by decide) ow3 hc
  ·rcases hb3 b e with g | g
   ·exact hw b g
   ·omega
 ·rintro F Y ⟨b0,z0,kp,g1,g2,g3,g4,w,x0,ow,hw⟩
  have hlt:=eF (Nat.lt_irrefl x.steps.length)
  obtain ⟨hc1,hc2⟩:=qG ow
  have o1:=aL i1.is.bE
  have o2:=aL i2.is.bE
  have o3:=aL i3.is.bE
  have zz:=uI (x:=O.cells 37 [.str x.name,a',b',c',w] true) z0
  rw [take_of_length_le (Nat.le_refl _)] at ow
  rw [aF]
  simp only [KP,Ax.loadAt,Ax.storeAt,↓reduceIte,reduceEqDiff,reduceLT,reduceAdd,reduceCtorEq,h.fG,h.bJ,g1,g2,g3,g4,b0,x0,z0,zz,ld,hlt,hc2,o1,o2,o3]
  refine ⟨⟨a',b',c',w,rfl,i1,i2,i3,ow.keep fun c o hc ho=>pR ho ?_,hw⟩,fun c o e=>pR (kp c o e) (by have:=(List.getElem?_eq_some_iff.1 e).1; omega)⟩
  intro e2
  rw [<- e2] at hc
  exact tK z0 (by decide) ow hc
end
end
section
section
variable {E:Env} {Z:Sg} {K:V -> Sg -> Prop}
theorem D_ (n k:Nat):gT false .i64 (n:Int) [.int .i64 (k:Int)] = some ((min n k:Nat):Int):=by
 rw [min2]
 by_cases g:(k:Int) < (n:Int)
 ·rw [if_pos g,Nat.min_eq_right (by omega)]
 ·rw [if_neg g,Nat.min_eq_left (by omega)]
theorem wX {α:Type} (l:List α) (k:Nat):l.take (min l.length k) = l.take k:=by
 rw [List.take_eq_take_iff]; omega
theorem CW (h:bK E) {v:V} {l:List aX} (iv:IS aM v l) (k:Nat):∃ w,(∀ Z,Ax.slice E Z 28 v none (some (.int .i64 ((min l.length k:Nat):Int))) none = some w) /\ IS aM w (l.take k):=by
 obtain ⟨w,h1,h2⟩:=vT h iv (b:=min l.length k) (Nat.min_le_left _ _)
 exact ⟨w,h1,by rwa [wX] at h2⟩
theorem Er (h:bK E) {v:V} {l:List aX} (iv:kE aM v l) (k:Nat):∃ w,(∀ Z,Ax.slice E Z 28 v none (some (.int .i64 ((min l.length k:Nat):Int))) none = some w) /\ kE aM w (l.take k):=by
 obtain ⟨w,h1,-,h2⟩:=B1 (lo:=none) (hi:=some (.int .i64 ((min l.length k:Nat):Int))) (a:=0) (b:=min l.length k) h.bB rfl h.c_ rfl iv.is (.inr rfl) (.inl ⟨rfl,rfl⟩) (Nat.zero_le _) (Nat.min_le_left _ _)
 refine ⟨w,h1,?_⟩
 have:=h2 iv
 rw [drop_zero,wX] at this
 exact this
theorem LZ (h:bK E) {v:V} {l:List AxS.Step} (iv:IS eX v l) (k:Nat):∃ w,(∀ Z,Ax.slice E Z 35 v none (some (.int .i64 ((min l.length k:Nat):Int))) none = some w) /\ IS eX w (l.take k):=by
 obtain ⟨w,h1,h2,-⟩:=B1 (lo:=none) (hi:=some (.int .i64 ((min l.length k:Nat):Int))) (a:=0) (b:=min l.length k) h.fG rfl h.cR rfl iv (.inr rfl) (.inl ⟨rfl,rfl⟩) (Nat.zero_le _) (Nat.min_le_left _ _)
 refine ⟨w,h1,?_⟩
 rw [drop_zero,wX] at h2
 exact h2
def qX (x:aG):aG:={ x with ins:=x.ins.take 10,outs:=x.outs.take 6,after:=x.after.take 10,steps:=x.steps.take 14 }
def Be (s:AxS.Step):AxS.Step:={ s with args:=s.args.take 8,lits:=s.lits.take 3 }
def cut (x:aG):aG:={ qX x with steps:=(x.steps.take 14).map Be }
theorem L0 (x:aG):Small (cut x):=by
 refine ⟨?_,?_,?_,?_,fun s hs=>?_,fun s hs=>?_⟩
 ·show (x.ins.take 10).length <= 10; rw [length_take]; omega
 ·show (x.outs.take 6).length <= 6; rw [length_take]; omega
 ·show (x.after.take 10).length <= 10; rw [length_take]; omega
 ·show ((x.steps.take 14).map Be).length <= 14; rw [length_map,length_take]; omega
 ·obtain ⟨q,_,rfl⟩:=mem_map.1 hs
  show (q.args.take 8).length <= 8; rw [length_take]; omega
 ·obtain ⟨q,_,rfl⟩:=mem_map.1 hs
  show (q.lits.take 3).length <= 3; rw [length_take]; omega
structure Raw (x:aG):Prop where
 args:∀ s ∈ x.steps,s.args.length <= 8796093022208
 lits:∀ s ∈ x.steps,s.lits.length <= 8796093022208
theorem Raw.mid {x:aG} (h:Raw x):Zm (qX x):=by
 refine ⟨?_,?_,?_,?_,fun s hs=>h.args s (List.mem_of_mem_take hs),fun s hs=>h.lits s (List.mem_of_mem_take hs)⟩
 ·show (x.ins.take 10).length <= 10; rw [length_take]; omega
 ·show (x.outs.take 6).length <= 6; rw [length_take]; omega
 ·show (x.after.take 10).length <= 10; rw [length_take]; omega
 ·show (x.steps.take 14).length <= 14; rw [length_take]; omega
theorem Of (h:bK E) {x:aG} {a b c d:V} (ia:IS aM a x.ins) (ib:IS aM b x.outs) (ic:IS aM c x.after) (id:IS eX d x.steps) (F:FT) (g1:F.get 1 = .ref 0 0) (g2:F.get 2 = .ref 1 0) {st:List jO} {Q:Ax.X -> Fr -> Sg -> Prop}
  (hk:∀ F' a' b' c' d',F'.get 1 = .ref 0 0 -> F'.get 2 = .ref 1 0 -> F'.get 3 = .ref 2 0 -> IS aM a' (x.ins.take 10) -> IS aM b' (x.outs.take 6) -> IS aM c' (x.after.take 10) -> IS eX d' (x.steps.take 14) ->
   M E st .normal ⟨86,F'⟩ [O.cells 37 [.str x.name,a,b,c,d] true,O.cells 37 [.str [],.aC,.aC,.aC,.aC] true,O.cells 37 [.str x.name,a',b',c',d'] true] Q) :
  R E (.region 1 (opsOf (cutAt [1,0] (aA Tryz.f59).code)) true) st ⟨86,F⟩ [O.cells 37 [.str x.name,a,b,c,d] true,O.cells 37 [.str [],.aC,.aC,.aC,.aC] true] Q:=by
 obtain ⟨a',sa,ia'⟩:=CW h ia 10
 obtain ⟨b',sb,ib'⟩:=CW h ib 6
 obtain ⟨c',sc,ic'⟩:=CW h ic 10
 obtain ⟨d',sd,id'⟩:=LZ h id 14
 have la:=bO h ia
 have lb:=bO h ib
 have lc:=bO h ic
 have ld:=kZ h id
 have m1:=D_ x.ins.length 10
 have m2:=D_ x.outs.length 6
 have m3:=D_ x.after.length 10
 have m4:=D_ x.steps.length 14
 have o1:=aL ia'.bE
 have o2:=aL ib'.bE
 have o3:=aL ic'.bE
 have o4:=aL id'.bE
 have n1:=iV ia'.bE
 have n2:=iV ib'.bE
 have n3:=iV ic'.bE
 have n4:=iV id'.bE
 have v1:=b_ 10 ia
 have v2:=b_ 10 ib
 have v3:=b_ 10 ic
 have v4:=nY 9 id
 have u1:=b_ 10 ia'
 have u2:=b_ 10 ib'
 have u3:=b_ 10 ic'
 have u4:=nY 9 id'
 have vs:=Ak 11 x.name
 have vi:=fun k i=>Jn 11 k i
 have m1:gT false .i64 (x.ins.length:Int) [.int .i64 10] = some ((min x.ins.length 10:Nat):Int):=m1
 have m2:gT false .i64 (x.outs.length:Int) [.int .i64 6] = some ((min x.outs.length 6:Nat):Int):=m2
 have m3:gT false .i64 (x.after.length:Int) [.int .i64 10] = some ((min x.after.length 10:Nat):Int):=m3
 have m4:gT false .i64 (x.steps.length:Int) [.int .i64 14] = some ((min x.steps.length 14:Nat):Int):=m4
 have key:∃ F',cC E (ev E 0) (opsOf (cutAt [1,0] (aA Tryz.f59).code)) ⟨86,F⟩ [O.cells 37 [.str x.name,a,b,c,d] true,O.cells 37 [.str [],.aC,.aC,.aC,.aC] true] = some (⟨86,F'⟩,[O.cells 37 [.str x.name,a,b,c,d] true,O.cells 37 [.str [],.aC,.aC,.aC,.aC] true,O.cells 37 [.str x.name,a',b',c',d'] true]) /\ F'.get 1 = .ref 0 0 /\ F'.get 2 = .ref 1 0 /\ F'.get 3 = .ref 2 0:=by
  unfold cC
  rw [h.UE,h.Wc]
  simp only [aA,Tryz.f59,KP,Ax.loadAt,Ax.storeAt,↓reduceIte,reduceEqDiff,reduceLT,reduceAdd,reduceCtorEq,h.c_,h.bB,h.fG,h.bJ,opsOf,cutAt,fO,bG,bW,jP,Ax.comp,Ax.last,fI,Ax.again,aR,Ax.fill,Ax.placeOf,g1,la,lb,lc,ld,sa,sb,sc,sd,m1,m2,m3,m4,o1,o2,o3,o4,n1,n2,n3,n4,v1,v2,v3,v4,u1,u2,u3,u4,vs,vi]
  exact ⟨_,rfl,(by simp +decide only [GS,g1,g2,and_self])⟩
 obtain ⟨F',hE,k1,k2,k3⟩:=key
 exact Eq.mpr (h_ hE) (hk F' a' b' c' d' k1 k2 k3 ia' ib' ic' id')
theorem oV {sz:Nat}:∀ (rs:List (List V)),(∀ r ∈ rs,r.length = sz) -> ∀ (i:Nat) (r:List V),rs[i]? = some r -> ∀ k,k < sz -> rs.flatten[i * sz + k]? = r[k]?
 | [],_,i,r,e,_,_=>by cases e
 | x :: rs,h,0,r,e,k,hk=>by
  cases e
  have hr:=h x (mem_cons_self ..)
  rw [flatten_cons,Nat.zero_mul,Nat.zero_add,getElem?_append_left (by omega)]
 | x :: rs,h,i + 1,r,e,k,hk=>by
  have hr:=h x (mem_cons_self ..)
  rw [flatten_cons,getElem?_append_right (by rw [Nat.succ_mul]; omega),show (i + 1) * sz + k - x.length = i * sz + k by rw [Nat.succ_mul]; omega]
  exact oV rs (fun y hy=>h y (List.mem_cons_of_mem _ hy)) i r e k hk
theorem Nu {sz:Nat} {rs:List (List V)} (h:∀ r ∈ rs,r.length = sz) {i:Nat} {r:List V} (e:rs[i]? = some r) {k:Nat} (hk:k < sz) (u:V):setCells rs.flatten (i * sz + k) [u] = (rs.set i (r.set k u)).flatten:=by
 have hil:=(List.getElem?_eq_some_iff.1 e).1
 have hrl:r.length = sz:=h r (mem_of_getElem? e)
 have hfl:rs.flatten.length = rs.length * sz:=m_ rs h
 have him:(i + 1) * sz <= rs.length * sz:=Nat.mul_le_mul_right _ hil
 rw [Nat.succ_mul] at him
 rw [<- B4 rs i (r.set k u) h (by rw [length_set]; exact hrl) hil]
 apply List.ext_getElem?
 intro q
 unfold setCells
 have l1:(rs.flatten.take (i * sz + k)).length = i * sz + k:=by rw [length_take]; omega
 have l2:(rs.flatten.take (i * sz)).length = i * sz:=by rw [length_take]; omega
 rw [append_assoc,append_assoc,length_singleton,length_set,hrl]
 rcases Nat.lt_trichotomy q (i * sz + k) with hq | rfl | hq
 ·rw [getElem?_append_left (by omega),getElem?_take,if_pos hq]
  by_cases g:q < i * sz
  ·rw [getElem?_append_left (by omega),getElem?_take,if_pos g]
  ·rw [getElem?_append_right (by omega),l2,getElem?_append_left (by rw [length_set]; omega),getElem?_set_ne (by omega)]
   obtain ⟨d,rfl⟩:∃ d,q = i * sz + d:=⟨q - i * sz,by omega⟩
   rw [Nat.add_sub_cancel_left]
   exact oV rs h i r e d (by omega)
 ·have e0:([u] ++ rs.flatten.drop (i * sz + k + 1))[0]? = some u:=rfl
  rw [getElem?_append_right (by omega),l1,Nat.sub_self,e0,getElem?_append_right (by omega),l2,Nat.add_sub_cancel_left,getElem?_append_left (by rw [length_set]; omega),getElem?_set_self (by omega)]
 ·rw [getElem?_append_right (by omega),l1,getElem?_append_right (by rw [length_singleton]; omega),length_singleton,getElem?_drop,show i * sz + k + 1 + (q - (i * sz + k) - 1) = q by omega]
  rw [getElem?_append_right (by omega),l2]
  by_cases g:q - i * sz < sz
  ·rw [getElem?_append_left (by rw [length_set]; omega),getElem?_set_ne (by omega)]
   obtain ⟨d,rfl⟩:∃ d,q = i * sz + d:=⟨q - i * sz,by omega⟩
   rw [Nat.add_sub_cancel_left]
   exact oV rs h i r e d (by omega)
  ·rw [getElem?_append_right (by rw [length_set]; omega),length_set,hrl,getElem?_drop,show i * sz + sz + (q - i * sz - sz) = q by omega]
end
end
end Go.Proofs.YtlbbdpkjeeiahaaGreatDoor
end
section
namespace Go.Proofs.YtlbbdpkjeeiahaaGreatDoor
open Go Go.Ax Go.AxS Go.ChangeShapes Go.WideShapes Go.ChangeAt Go.RowKit
section
theorem yQ (s:ByteArray):(Ax.bytes s).length = s.size:=by
 unfold Ax.bytes
 rw [length_map]
 rfl
section
variable {W:World} {I:Bool -> Nat -> Prop} {blk:Nat}
theorem O4 {r:List V} {cs:List Value}:∀ {off:Nat},Bh W I r cs -> (∀ j,j < cs.length -> W.cell? ⟨blk,off + j,none⟩ = cs[j]?) -> dH W I r blk off:=by
 induction r generalizing cs with
 | nil=>intro off h hc; exact .nil
 | cons v r ih=>
  intro off h hc
  cases h with
  | cons _ x _ xs hv hr=>
   have h0:=hc 0 (by simp)
   refine .cons v x r (by simpa using h0) hv (ih hr fun j hj=>?_)
   have:=hc (j + 1) (by simpa using hj)
   rw [show off + 1 + j = off + (j + 1) by omega,this]
   rfl
theorem JU {sz off:Nat} {R:Nat -> List V} {C:Nat -> List Value}:∀ (n k:Nat),(∀ i,k <= i -> i < k + n -> (R i).length = sz /\ (C i).length = sz /\ Bh W I (R i) (C i) /\ ∀ j,j < sz -> W.cell? ⟨blk,off + i * sz + j,none⟩ = (C i)[j]?) ->
  dP W I sz ((List.range' k n).map R) blk (off + k * sz)
 | 0,k,_=>.nil
 | n + 1,k,h=>by
  rw [List.range'_succ,map_cons]
  obtain ⟨h1,h2,h3,h4⟩:=h k (Nat.le_refl _) (by omega)
  refine .cons _ _ h1 (O4 h3 fun j hj=>h4 j (by omega)) ?_
  have:=JU (off:=off) n (k + 1) fun i hi hn=>h i (by omega) (by omega)
  rw [show off + (k + 1) * sz = off + k * sz + sz by rw [Nat.succ_mul]; omega] at this
  exact this
end
def Reads (W:World) (t n:Nat) (Q:List V -> Prop):Prop:=∀ {H:Type} (enc:TypeId × Value -> H) (fuel:Nat) (cs:List Value) (d:DataW H) (p:List MemPlace),DataW.trod enc Tryz.prog W 0 (fun _=>true) true fuel t cs = some (d,p) -> (DataW.weights Tryz.prog t d).all (· <= reachBytes) = true -> cs.length = n /\ ∃ r:List V,r.length = n /\ Q r /\ Bh W (tD W).bE r cs
theorem Reads.mono {W:World} {t n:Nat} {Q Q':List V -> Prop} (h:Reads W t n Q) (k:∀ r,Q r -> Q' r):Reads W t n Q':=fun enc fuel cs d p h1 h2=>by
 obtain ⟨a,r,b,c,e⟩:=h enc fuel cs d p h1 h2
 exact ⟨a,r,b,k r c,e⟩
def EU (s:aX):Prop:=s.length <= 9223372036854775806
theorem zG (W:World):Reads W 9 1 fun r=>∃ s,r = [.str s] /\ EU s:=fun enc fuel cs d p h hw=>by
 obtain ⟨s,rfl,hx,hl⟩:=DataW.trod_string Tryz.underlying9 h
 refine ⟨rfl,[.str (Ax.bytes s)],rfl,⟨_,rfl,?_⟩,.cons _ _ _ _ (.str _) .nil⟩
 unfold EU
 rw [yQ]
 rw [show d = .lit (.string s.data.toList) from congrArg Prod.fst hx,DataW.weights] at hw
 simp only [List.all_cons,List.all_nil,Bool.and_true,decide_eq_true_eq] at hw
 have e:reachBytes = 140737488351232:=by decide
 have e1:s.size = s.data.toList.length:=rfl
 omega
theorem DU (W:World):Reads W 3 1 fun r=>∃ n:Int,r = [.int .i64 n]:=fun enc fuel cs d p h hw=>by
 obtain ⟨n,rfl,hx,-⟩:=DataW.trod_int Tryz.underlying3 h
 exact ⟨rfl,[.int .i64 n],rfl,⟨n,rfl⟩,.cons _ _ _ _ (.int _ _) .nil⟩
theorem oL {H:Type} {e w:Nat} {d:DataW H}:∀ {l:List (DataW H)},d ∈ l -> w ∈ DataW.weights Tryz.prog e d -> w ∈ DataW.weightsAll Tryz.prog e l
 | x :: l,hd,hw=>by
  rw [DataW.weightsAll,mem_append]
  rcases mem_cons.1 hd with rfl | hd
  ·exact .inl hw
  ·exact .inr (oL hd hw)
theorem tI {W:World} {α:Type} [Inhabited α] {L:Lay α} {B:α -> Prop} {t e n bb:Nat} (ht:Tryz.prog.underlying t = some (.slice e)) (ce:Tryz.prog.cellsOf e = n) (hb:Tryz.prog.bytesOf e = bb) (hn:0 < n) (he:Reads W e n fun r=>∃ x,L.P r x /\ B x) :
  Reads W t 1 fun r=>∃ v l,r = [v] /\ IS L v l /\ (∀ x ∈ l,B x) /\ l.length * bb <= reachBytes:=fun {H} enc fuel cs d p h hw=>by
 rcases Go.Deep.open_slice ht h with ⟨rfl,hx⟩ | ⟨a,len,cap,m,k,D,Pl,rfl,hbase,hlc,hcm,hm,hx,hel⟩
 ·exact ⟨rfl,[.aC],rfl,⟨.aC,[],rfl,.inl ⟨rfl,rfl⟩,fun x hx=>(by cases hx),by simp⟩,.cons _ _ _ _ .aC .nil⟩
 ·have hm:m = cap:=by rw [hm]; rfl
  subst hm
  have hd:d = _:=congrArg Prod.fst hx
  dsimp only at hd
  have hwl:len * bb <= reachBytes /\ ∀ i,i < len -> (DataW.weights Tryz.prog e (D i)).all (· <= reachBytes) = true:=by
   rw [hd] at hw
   unfold DataW.weights at hw
   rw [ht] at hw
   simp only [List.all_cons,List.all_append,Bool.and_eq_true,List.all_eq_true,decide_eq_true_eq,length_map,length_range] at hw
   refine ⟨?_,fun i hi=>?_⟩
   ·have h1:=hw.1
    rw [hb] at h1
    refine Nat.le_trans (Nat.mul_le_mul_right _ (by omega)) h1
   ·rw [List.all_eq_true]
    intro w hwi
    rw [decide_eq_true_eq]
    exact hw.2.1 w (oL (mem_map.2 ⟨i,mem_range.2 hi,rfl⟩) hwi)
  by_cases hc:m = 0
  ·subst hc
   obtain rfl:len = 0:=by omega
   exact ⟨rfl,[.bL true [] false],rfl,⟨_,[],rfl,.inr ⟨true,[],false,rfl,.nil⟩,fun x hx=>(by cases hx),by simp⟩,.cons _ _ _ _ (.emp _ _ a) .nil⟩
  ·obtain ⟨cs0,h0,-⟩:=hel 0 (by omega)
   obtain ⟨-,hl0,hc0⟩:=World.cells?_some h0
   rw [ce] at hl0 hc0
   have hcell:=hc0 0 hn
   obtain ⟨blk,off,sp⟩:=a
   have hadd:((⟨blk,off,sp⟩:Addr).add (0 * n)).add 0 = ⟨blk,off,sp⟩:=by rw [Nat.zero_mul]; rfl
   rw [hadd] at hcell
   have hsome:∃ v,W.cell? ⟨blk,off,sp⟩ = some v:=⟨_,hcell.trans (List.getElem?_eq_getElem (by omega))⟩
   obtain ⟨v0,hv0⟩:=hsome
   have hsp:sp = none /\ blk < W.heap.size:=by
    unfold World.cell? at hv0
    split at hv0
    ·rename_i c u f hblk
     refine ⟨?_,(Array.getElem?_eq_some_iff.1 hblk).1⟩
     cases sp with
     | none=>rfl
     | some q=>simp at hv0
    ·cases hv0
   obtain ⟨rfl,hlt⟩:=hsp
   have each:∀ i,i < len -> ∃ q:List V × List Value × α,q.1.length = n /\ q.2.1.length = n /\ L.P q.1 q.2.2 /\ B q.2.2 /\ Bh W (tD W).bE q.1 q.2.1 /\ ∀ j,j < n -> W.cell? ⟨blk,off + i * n + j,none⟩ = q.2.1[j]?:=fun i hi=>by
    obtain ⟨cs',h1,h2⟩:=hel i (by omega)
    obtain ⟨h3,r,h4,⟨x,h5,h5'⟩,h6⟩:=he enc k cs' (D i) (Pl i) h2 (hwl.2 i hi)
    obtain ⟨-,hl1,hc1⟩:=World.cells?_some h1
    rw [ce] at hc1
    refine ⟨(r,cs',x),h4,h3,h5,h5',h6,fun j hj=>?_⟩
    have:=hc1 j hj
    have ea:((⟨blk,off,none⟩:Addr).add (i * n)).add j = ⟨blk,off + i * n + j,none⟩:=by
     rw [Go.Deep.add_add]
     unfold Addr.add
     split
     ·rename_i h0
      rw [show off + i * n + j = off by omega]
     ·rw [Nat.add_assoc]
    rw [ea] at this
    exact this
   obtain ⟨q,hq⟩:=Go.Deep.choose_lt each
   refine ⟨rfl,[.bL true ((List.range' 0 len).map fun i=>(q i).1) false],rfl,⟨_,(List.range' 0 len).map fun i=>(q i).2.2,rfl,.inr ⟨true,_,false,rfl,?_⟩,fun x hx=>?_,by simpa using hwl.1⟩,.cons _ _ _ _ (.bL true _ false blk off len m n (Js W blk hlt) (by simp) hlc (fun h=>by cases h) ?_) .nil⟩
   ·have hall:∀ (c k:Nat),(∀ i,k <= i -> i < k + c -> L.P (q i).1 (q i).2.2) -> eS L.P ((List.range' k c).map fun i=>(q i).1) ((List.range' k c).map fun i=>(q i).2.2):=by
     intro c
     induction c with
     | zero=>intro k _; exact .nil
     | succ c ih=>
      intro k hk
      rw [List.range'_succ,map_cons,map_cons]
      exact .cons (hk k (Nat.le_refl _) (by omega)) (ih (k + 1) fun i h1 h2=>hk i (by omega) (by omega))
    exact hall len 0 fun i _ hi=>(hq i (by omega)).2.2.1
   ·obtain ⟨i,hi,rfl⟩:=mem_map.1 hx
    rw [List.mem_range'_1] at hi
    exact (hq i (by omega)).2.2.2.1
   ·have:=JU (W:=W) (I:=Ax.sub true (tD W).bE) (blk:=blk) (off:=off) (sz:=n) (R:=fun i=>(q i).1) (C:=fun i=>(q i).2.1) len 0 fun i _ hi=>⟨(hq i (by omega)).1,(hq i (by omega)).2.1,(hq i (by omega)).2.2.2.2.1,(hq i (by omega)).2.2.2.2.2⟩
    rw [Nat.zero_mul,Nat.add_zero] at this
    exact this
theorem rU {W:World} {I:Bool -> Nat -> Prop} {a:List V} {x:List Value} (h:Bh W I a x) {b:List V} {y:List Value} (k:Bh W I b y):Bh W I (a ++ b) (x ++ y):=by
 induction a generalizing x with
 | nil=>cases h; exact k
 | cons v a ih=>cases h with | cons _ z _ zs hv hr=>exact .cons _ _ _ _ hv (ih hr)
theorem IQ {β:Type} {l:List β} (h:l.length = 5):∃ a b c d e,l = [a,b,c,d,e]:=by
 match l,h with
 | [a,b,c,d,e],_=>exact ⟨a,b,c,d,e,rfl⟩
theorem one {β:Type} {l:List β} (h:l.length = 1):∃ a,l = [a]:=by
 match l,h with
 | [a],_=>exact ⟨a,rfl⟩
theorem B_ {W:World} {t:Nat} {f0 f1 f2 f3 f4:Field} {Q0 Q1 Q2 Q3 Q4:List V -> Prop} (ht:Tryz.prog.underlying t = some (.struct #[f0,f1,f2,f3,f4])) (ct:Tryz.prog.cellsOf t = 5) (o0:f0.offset = 0) (o1:f1.offset = 1) (o2:f2.offset = 2) (o3:f3.offset = 3) (o4:f4.offset = 4)
  (c0:Tryz.prog.cellsOf f0.type = 1) (c1:Tryz.prog.cellsOf f1.type = 1) (c2:Tryz.prog.cellsOf f2.type = 1) (c3:Tryz.prog.cellsOf f3.type = 1) (c4:Tryz.prog.cellsOf f4.type = 1)
  (h0:Reads W f0.type 1 Q0) (h1:Reads W f1.type 1 Q1) (h2:Reads W f2.type 1 Q2) (h3:Reads W f3.type 1 Q3) (h4:Reads W f4.type 1 Q4) :
  Reads W t 5 fun r=>∃ a b c d e,r = [a,b,c,d,e] /\ Q0 [a] /\ Q1 [b] /\ Q2 [c] /\ Q3 [d] /\ Q4 [e]:=fun {H} enc fuel cs d p h hw=>by
 obtain ⟨xs,k,-,hx,hl,hxl,hf⟩:=DataW.trod_struct ht h
 rw [ct] at hl
 obtain ⟨v0,v1,v2,v3,v4,rfl⟩:=IQ hl
 have hxl:xs.length = 5:=hxl
 obtain ⟨y0,y1,y2,y3,y4,rfl⟩:=IQ hxl
 have hd:d = _:=congrArg Prod.fst hx
 dsimp only at hd
 rw [hd] at hw
 unfold DataW.weights at hw
 rw [ht] at hw
 simp only [map_cons,List.map_nil,DataW.weightsEach,List.all_append,Bool.and_eq_true] at hw
 obtain ⟨w0,w1,w2,w3,w4,-⟩:=hw
 have g0:=hf 0 f0 rfl
 have g1:=hf 1 f1 rfl
 have g2:=hf 2 f2 rfl
 have g3:=hf 3 f3 rfl
 have g4:=hf 4 f4 rfl
 rw [o0,c0] at g0
 rw [o1,c1] at g1
 rw [o2,c2] at g2
 rw [o3,c3] at g3
 rw [o4,c4] at g4
 obtain ⟨-,r0,l0,q0,i0⟩:=h0 enc k [v0] y0.1 y0.2 g0 w0
 obtain ⟨-,r1,l1,q1,i1⟩:=h1 enc k [v1] y1.1 y1.2 g1 w1
 obtain ⟨-,r2,l2,q2,i2⟩:=h2 enc k [v2] y2.1 y2.2 g2 w2
 obtain ⟨-,r3,l3,q3,i3⟩:=h3 enc k [v3] y3.1 y3.2 g3 w3
 obtain ⟨-,r4,l4,q4,i4⟩:=h4 enc k [v4] y4.1 y4.2 g4 w4
 obtain ⟨a,rfl⟩:=one l0
 obtain ⟨b,rfl⟩:=one l1
 obtain ⟨c,rfl⟩:=one l2
 obtain ⟨d',rfl⟩:=one l3
 obtain ⟨e,rfl⟩:=one l4
 exact ⟨hl,[a,b,c,d',e],rfl,⟨a,b,c,d',e,rfl,q0,q1,q2,q3,q4⟩,rU i0 (rU i1 (rU i2 (rU i3 i4)))⟩
theorem oF (W:World):Reads W 28 1 fun r=>∃ v l,r = [v] /\ IS aM v l /\ (∀ x ∈ l,EU x) /\ l.length * 16 <= reachBytes:=
 tI (L:=aM) Tryz.underlying28 (by kernel_rfl) (by kernel_rfl) (by decide) (Reads.mono (zG W) fun r ⟨s,h1,h2⟩=>⟨s,h1,h2⟩)
instance:Inhabited AxS.Step:=⟨⟨[],0,[],[],0⟩⟩
instance:Inhabited aG:=⟨⟨[],[],[],[],[]⟩⟩
def Zl (s:AxS.Step):Prop:=s.args.length <= 8796093022208 /\ s.lits.length <= 8796093022208
theorem Xc {n:Nat} (h:n * 16 <= reachBytes):n <= 8796093022208:=by
 have e:reachBytes = 140737488351232:=by decide
 omega
theorem Io (W:World):Reads W 75 5 fun r=>∃ x,eX.P r x /\ Zl x:=
 Reads.mono (B_ Tryz.underlying75 (by kernel_rfl) rfl rfl rfl rfl rfl (by kernel_rfl) (by kernel_rfl) (by kernel_rfl) (by kernel_rfl) (by kernel_rfl) (zG W) (DU W) (oF W) (oF W) (DU W)) fun r ⟨a,b,c,d,e,hr,⟨s,h0,_⟩,⟨n,h1⟩,⟨v2,l2,h2,i2,_,b2⟩,⟨v3,l3,h3,i3,_,b3⟩,⟨m,h4⟩⟩=>by
  cases h0; cases h1; cases h2; cases h3; cases h4
  exact ⟨⟨s,n,l2,l3,m⟩,⟨_,_,hr,i2,i3⟩,Xc b2,Xc b3⟩
theorem Ip (W:World):Reads W 37 5 fun r=>∃ x,dZ.P r x /\ Raw x:=
 Reads.mono (B_ Tryz.underlying37 (by kernel_rfl) rfl rfl rfl rfl rfl (by kernel_rfl) (by kernel_rfl) (by kernel_rfl) (by kernel_rfl) (by kernel_rfl) (zG W) (oF W) (oF W) (oF W) (tI (L:=eX) Tryz.underlying35 (by kernel_rfl) rfl (by decide) (Io W))) fun r ⟨a,b,c,d,e,hr,⟨s,h0,_⟩,⟨v1,l1,h1,i1,_⟩,⟨v2,l2,h2,i2,_⟩,⟨v3,l3,h3,i3,_⟩,⟨v4,l4,h4,i4,hB,_⟩⟩=>by
  cases h0; cases h1; cases h2; cases h3; cases h4
  exact ⟨⟨s,l1,l2,l3,l4⟩,⟨_,_,_,_,hr,i1,i2,i3,i4⟩,⟨fun s hs=>(hB s hs).1,fun s hs=>(hB s hs).2⟩⟩
theorem Gm (W:World):Reads W 22 1 fun r=>∃ v l,r = [v] /\ IS dZ v l /\ (∀ x ∈ l,Raw x) /\ l.length * Tryz.prog.bytesOf 37 <= reachBytes:=
 tI (L:=dZ) Tryz.underlying22 (by kernel_rfl) rfl (by decide) (Ip W)
section
variable {H:Type} {enc:TypeId × Value -> H} {W:World} {base:Nat} {v:Value} {d:DataW H} {p:List MemPlace}
theorem R2 {t:Nat} {Q:List V -> Prop} (hr:Reads W t 1 Q) (hc:v.cells = #[v]) (h:DataW.Trod enc Tryz.prog W 0 (fun _=>true) true t v d p) (hw:(DataW.weights Tryz.prog t d).all (· <= reachBytes) = true):∃ a,Q [a] /\ VR (tD W) a v:=by
 obtain ⟨fuel,h⟩:=h
 rw [hc] at h
 obtain ⟨-,r,h1,h2,h3⟩:=hr enc fuel _ d p h hw
 obtain ⟨a,rfl⟩:=one h1
 cases h3 with
 | cons _ _ _ _ hv _=>exact ⟨a,h2,.inl hv⟩
theorem Ge {t e:Nat} (ht:Tryz.prog.underlying t = some (.slice e)) (hv:Value.okWide Tryz.prog W .any base t v):v.cells = #[v]:=by
 unfold Value.okWide at hv
 rw [ht] at hv
 have hv:Cell.okWide Tryz.prog W .any base t v:=hv
 unfold Cell.okWide Cell.ok at hv
 rw [ht] at hv
 cases v with
 | slice q len cap=>rfl
 | _=>exact hv.elim
theorem Mo (hv:Value.okWide Tryz.prog W .any base 22 v) (h:DataW.Trod enc Tryz.prog W 0 (fun _=>true) true 22 v d p) (hw:(DataW.weights Tryz.prog 22 d).all (· <= reachBytes) = true):∃ a l,IS dZ a l /\ (∀ x ∈ l,Raw x) /\ VR (tD W) a v:=by
 obtain ⟨a,⟨v',l,e,h1,h2,-⟩,h3⟩:=R2 (Gm W) (Ge Tryz.underlying22 hv) h hw
 cases e
 exact ⟨a,l,h1,h2,h3⟩
end
end
end Go.Proofs.YtlbbdpkjeeiahaaGreatDoor
end
section
namespace Go.Proofs.YtlbbdpkjeeiahaaGreatDoor.Lb
open Go Go.Ax Go.AxS
section
structure cU (E:Env):Prop where
 qA:E.ty 3 = some { kd:=.int .i64,size:=1,bytes:=8,zero:=.int .i64 0 }
 DB:E.ty 4 = some { kd:=.bool,size:=1,bytes:=1,zero:=.bool false }
 c_:E.ty 9 = some { kd:=.str,size:=1,bytes:=16,zero:=.str [] }
 mK:E.ty 40 = some { kd:=.sl 46,size:=1,bytes:=24,zero:=.aC }
 tA:E.ty 77 = some { kd:=.ptr 86,size:=1,bytes:=8,zero:=.fW }
 vA:E.ty 82 = some { kd:=.map 46 4,size:=1,bytes:=8,zero:=.bU }
 u_:E.ty 84 = some { kd:=.jB [(0,82)],size:=1,bytes:=8,zero:=.agg [.bU] }
 AY:E.ty 86 = some { kd:=.jB [(0,84)],size:=1,bytes:=8,zero:=.agg [.bU] }
 eI:E.ty 46 = some { kd:=.jB [(0,4),(1,9)],size:=2,bytes:=24,zero:=.agg [.bool false,.str []] }
 Jr:E.ty 118 = some { kd:=.ptr 84,size:=1,bytes:=8,zero:=.fW }
 Rt:E.eqs 46 = some [.bool,.str]
 Xj:E.hspec 87 = some (kS 46 [129] [] 89)
 hs20:E.hspec 20 = none
 M_:E.spec 20 = none
 fn20:E.fn 20 = some (aA Tryz.f20)
 md20:E.mode 20 = .eV
 hs42:E.hspec 42 = none
 sp42:E.spec 42 = none
 fn42:E.fn 42 = some (aA Tryz.f42)
 md42:E.mode 42 = .eV
 hs41:E.hspec 41 = none
 sp41:E.spec 41 = none
 fn41:E.fn 41 = some (aA Tryz.f41)
 md41:E.mode 41 = .eV
 hs44:E.hspec 44 = none
 sp44:E.spec 44 = none
 fn44:E.fn 44 = some (aA Tryz.f44)
 md44:E.mode 44 = .shared
 Xl:E.hspec 71 = none
 UM:E.spec 71 = none
 X9:E.fn 71 = some (aA Tryz.f71)
 Wn:E.mode 71 = .shared
 hs85:E.hspec 85 = none
 sp85:E.spec 85 = none
 fn85:E.fn 85 = some (aA Tryz.f85)
 md85:E.mode 85 = .shared
 Xm:E.hspec 50 = none
 UN:E.spec 50 = none
 X_:E.fn 50 = some (aA Tryz.f50)
 Wo:E.mode 50 = .shared
 hs48:E.hspec 48 = none
 sp48:E.spec 48 = none
 fn48:E.fn 48 = some (aA Tryz.f48)
 md48:E.mode 48 = .eV
 hs49:E.hspec 49 = none
 sp49:E.spec 49 = none
 fn49:E.fn 49 = some (aA Tryz.f49)
 md49:E.mode 49 = .eV
 hs142:E.hspec 142 = none
 sp142:E.spec 142 = none
 fn142:E.fn 142 = some (aA Tryz.f142)
 md142:E.mode 142 = .eV
 hs52:E.hspec 52 = none
 sp52:E.spec 52 = none
 fn52:E.fn 52 = some (aA Tryz.f52)
 md52:E.mode 52 = .eV
 hs51:E.hspec 51 = none
 sp51:E.spec 51 = none
 fn51:E.fn 51 = some (aA Tryz.f51)
 md51:E.mode 51 = .eV
 hs89:E.hspec 89 = none
 sp89:E.spec 89 = none
 fn89:E.fn 89 = some (aA Tryz.f89)
 md89:E.mode 89 = .eV
 hs130:E.hspec 130 = none
 sp130:E.spec 130 = none
 fn130:E.fn 130 = some (aA Tryz.f130)
 md130:E.mode 130 = .eV
 hs175:E.hspec 175 = none
 sp175:E.spec 175 = none
 fn175:E.fn 175 = some (aA Tryz.f175)
 md175:E.mode 175 = .eV
 Xi:E.hspec 88 = none
 UK:E.spec 88 = none
 X7:E.fn 88 = some (aA Tryz.f88)
 Wl:E.mode 88 = .shared
 hs22:E.hspec 22 = none
 M8:E.spec 22 = none
 fn22:E.fn 22 = some (aA Tryz.f22)
 md22:E.mode 22 = .eV
 hs24:E.hspec 24 = none
 M6:E.spec 24 = none
 fn24:E.fn 24 = some (aA Tryz.f24)
 md24:E.mode 24 = .eV
 hs25:E.hspec 25 = none
 M5:E.spec 25 = none
 fn25:E.fn 25 = some (aA Tryz.f25)
 md25:E.mode 25 = .eV
 hs28:E.hspec 28 = none
 P7:E.spec 28 = none
 fn28:E.fn 28 = some (aA Tryz.f28)
 md28:E.mode 28 = .eV
 hs77:E.hspec 77 = none
 sp77:E.spec 77 = none
 fn77:E.fn 77 = some (aA Tryz.f77)
 md77:E.mode 77 = .eV
 hs102:E.hspec 102 = none
 sp102:E.spec 102 = none
 fn102:E.fn 102 = some (aA Tryz.f102)
 md102:E.mode 102 = .eV
 hs141:E.hspec 141 = none
 sp141:E.spec 141 = none
 fn141:E.fn 141 = some (aA Tryz.f141)
 md141:E.mode 141 = .eV
 hs140:E.hspec 140 = none
 sp140:E.spec 140 = none
 fn140:E.fn 140 = some (aA Tryz.f140)
 md140:E.mode 140 = .shared
 hs83:E.hspec 83 = none
 sp83:E.spec 83 = none
 fn83:E.fn 83 = some (aA Tryz.f83)
 md83:E.mode 83 = .eV
 YZ:aP E (cutAt [1,1,1,1,0,1,2,2,1,1,0,2,1] (aA Tryz.f71).code) = true
 Y2:aP E (cutAt [1,0] (aA Tryz.f48).code) = true
 d142_1:aP E (cutAt [1,0] (aA Tryz.f142).code) = true
 Y7:aP E (cutAt [1,1,0,2,2,0,0] (aA Tryz.f24).code) = true
 Y6:aP E (cutAt [1,1,1,0,0] (aA Tryz.f24).code) = true
 R_:gN E (opsOf (cutAt [1,1,1,1,0] (aA Tryz.f24).code)) = .lit
 Sf:cN E .lit (opsOf (cutAt [1,1,1,1,0] (aA Tryz.f24).code)) = some [⟨3,4,true,false⟩,⟨3,9,true,false⟩,⟨6,9,true,false⟩]
 Y5:aP E (cutAt [1,1,0,1,2,2,1,0,2,0] (aA Tryz.f25).code) = true
 d28_4:aP E (cutAt [1,0,1,2,2,1,0,2,0] (aA Tryz.f28).code) = true
def cQ (Z σ':Sg):Prop:=∀ (b t:Nat) (cs:List V) (ex:Bool),Z[b]? = some (.cells t cs ex) -> σ'[b]? = some (.cells t cs ex)
theorem cQ.refl (Z:Sg):cQ Z Z:=fun _ _ _ _ h=>h
theorem cQ.trans {Z Y ρ:Sg} (h:cQ Z Y) (k:cQ Y ρ):cQ Z ρ:=fun b t cs ex e=>k b t cs ex (h b t cs ex e)
theorem jV {Z:Sg} {b:Nat} {o:O} (h:Z[b]? = some o) (Y:Sg):(Z ++ Y)[b]? = some o:=by
 rw [getElem?_append_left (List.getElem?_eq_some_iff.1 h).1]; exact h
theorem cQ.app (Z Y:Sg):cQ Z (Z ++ Y):=fun _ _ _ _ h=>jV h Y
theorem cQ.EV {Z:Sg} {m:Nat} {es es':List (V × V)} (h:Z[m]? = some (.map es)):cQ Z (Z.set m (.map es')):=fun b t cs ex e=>by
 by_cases hb:m = b
 ·subst hb; rw [h] at e; cases e
 ·rw [getElem?_set_ne hb]; exact e
def SV (Z:Sg) (v:V) (l:List aK):Prop:=
 (v = .aC /\ l = []) \/ (∃ g full,v = .bL g (l.map row) full) \/ ∃ b cs ex,v = .sl b 0 l.length none /\ Z[b]? = some (.cells 46 cs ex) /\ cs.take (l.length * 2) = l.flatMap row
def LV (v:V) (l:List aK):Prop:=(v = .aC /\ l = []) \/ ∃ g full,v = .bL g (l.map row) full
theorem LV.sv {v:V} {l:List aK} (h:LV v l) (Z:Sg):SV Z v l:=h.imp id .inl
theorem SV.keep {Z σ':Sg} {v:V} {l:List aK} (h:SV Z v l) (k:cQ Z σ'):SV σ' v l:=by
 rcases h with h | h | ⟨b,cs,ex,h1,h2,h3⟩
 ·exact .inl h
 ·exact .inr (.inl h)
 ·exact .inr (.inr ⟨b,cs,ex,h1,k _ _ _ _ h2,h3⟩)
theorem iI:∀ l:List aK,(l.flatMap row).length = l.length * 2
 | []=>rfl
 | x :: l=>by rw [List.flatMap_cons,length_append,iI l,length_cons]; show 2 + _ = _; omega
theorem CL (l:List aK):(l.map row).flatten = l.flatMap row:=by rw [List.flatMap_def]
theorem DO:∀ l:List aK,rows 2 l.length (l.flatMap row) = l.map row
 | []=>rfl
 | x :: l=>by
  show ((row x ++ l.flatMap row).take 2) :: rows 2 l.length ((row x ++ l.flatMap row).drop 2) = _
  rw [show (row x ++ l.flatMap row).take 2 = row x from rfl,show (row x ++ l.flatMap row).drop 2 = l.flatMap row from rfl,DO l]
  rfl
theorem Ku:∀ (l:List aK) (i:Nat) (x:aK),l[i]? = some x -> ((l.flatMap row).drop (i * 2)).take 2 = row x
 | [],i,x,h=>by simp at h
 | y :: l,0,x,h=>by cases h; rfl
 | y :: l,i + 1,x,h=>by
  rw [show (i + 1) * 2 = i * 2 + 2 by omega]
  show ((row y ++ l.flatMap row).drop (i * 2 + 2)).take 2 = _
  rw [Nat.add_comm,<- List.drop_drop]
  exact Ku l i x h
theorem uO {f:V -> Option V}:∀ l:List V,(∀ x ∈ l,f x = some x) -> aW f l = some l
 | [],_=>rfl
 | x :: l,h=>by
  rw [aW,h x (mem_cons_self ..),uO l fun y hy=>h y (List.mem_cons_of_mem _ hy)]
theorem K6 {l:List aK} {v:V} (h:v ∈ l.flatMap row):(∃ b,v = .bool b) \/ ∃ s,v = .str s:=by
 rw [List.mem_flatMap] at h
 obtain ⟨x,_,hx⟩:=h
 simp only [row,mem_cons,List.not_mem_nil,or_false] at hx
 rcases hx with rfl | rfl
 ·exact .inl ⟨_,rfl⟩
 ·exact .inr ⟨_,rfl⟩
section
variable {E:Env} {Z:Sg} {K:V -> Sg -> Prop}
theorem JQ (h:cU E) (g:Bool) {b:Nat} {cs:List V} {ex:Bool} {l:List aK} (hb:Z[b]? = some (.cells 46 cs ex)) (hc:cs.take (l.length * 2) = l.flatMap row) :
  ∃ full,aV Z E.ty g (.sl b 0 l.length none) = some (.bL g (l.map row) full):=by
 have hlen:l.length * 2 <= cs.length:=by
  have:=congrArg List.length hc
  rw [length_take,iI] at this
  omega
 have hm:aW (fun v=>match bP Z E.ty g 11 v with
   | some v=>if cF g v then some v else no "snap: borrowed"
   | none=>none) (l.flatMap row) = some (l.flatMap row):=by
  refine uO _ fun x hx=>?_
  rcases K6 hx with ⟨b,rfl⟩ | ⟨s,rfl⟩
  ·cases g <;> rfl
  ·cases g <;> rfl
 refine ⟨(match (none:Option Nat) with
  | some k=>k == l.length
  | none=>ex && decide (0 < 2) && (0 + l.length * 2 == cs.length)),?_⟩
 have e:bP Z E.ty g 12 (.sl b 0 l.length none) = some (.bL g (l.map row) (ex && decide (0 < 2) && (0 + l.length * 2 == cs.length))):=by
  rw [bP]
  simp only [hb,h.eI]
  rw [if_pos (by omega),drop_zero,hc]
  show (match aW (fun v=>match bP Z E.ty g 11 v with
   | some v=>if cF g v then some v else no "snap: borrowed"
   | none=>none) (l.flatMap row) with
   | some l'=>some (V.bL g (rows 2 l.length l') (ex && decide (0 < 2) && (0 + l.length * 2 == cs.length)))
   | none=>none) = _
  rw [hm]
  simp only [DO]
 show (match bP Z E.ty g 12 (.sl b 0 l.length none) with
  | some v=>if cF g v then some v else no "snap: borrowed"
  | none=>none) = _
 rw [e]
 cases g <;> rfl
theorem Bk (h:cU E) {v:V} {l:List aK} (hv:SV Z v l):∃ v',aV Z E.ty true v = some v' /\ LV v' l:=by
 rcases hv with ⟨rfl,rfl⟩ | ⟨g,full,rfl⟩ | ⟨b,cs,ex,rfl,hb,hc⟩
 ·exact ⟨.aC,rfl,.inl ⟨rfl,rfl⟩⟩
 ·exact ⟨_,rfl,.inr ⟨g,full,rfl⟩⟩
 ·obtain ⟨full,e⟩:=JQ h true hb hc
  exact ⟨_,e,.inr ⟨true,full,rfl⟩⟩
theorem FB (h:cU E) {v:V} {l:List aK} (hv:(v = .aC /\ l = []) \/ (∃ full,v = .bL false (l.map row) full) \/ ∃ b cs ex,v = .sl b 0 l.length none /\ Z[b]? = some (.cells 46 cs ex) /\ cs.take (l.length * 2) = l.flatMap row) :
  ∃ v',cP Z E.ty false v = some v' /\ ((v' = .aC /\ l = []) \/ ∃ full,v' = .bL false (l.map row) full):=by
 rcases hv with ⟨rfl,rfl⟩ | ⟨full,rfl⟩ | ⟨b,cs,ex,rfl,hb,hc⟩
 ·exact ⟨.aC,rfl,.inl ⟨rfl,rfl⟩⟩
 ·exact ⟨_,rfl,.inr ⟨full,rfl⟩⟩
 ·obtain ⟨full,e⟩:=JQ h false hb hc
  exact ⟨_,e,.inr ⟨full,rfl⟩⟩
theorem wI (h:cU E) {v:V} {l:List aK} (hv:SV Z v l):lenOf E Z 40 v = some l.length:=by
 unfold lenOf
 rw [h.mK]
 rcases hv with ⟨rfl,rfl⟩ | ⟨g,full,rfl⟩ | ⟨b,cs,ex,rfl,hb,hc⟩
 ·rfl
 ·simp
 ·rfl
theorem sF (h:cU E) {v:V} {l:List aK} (hv:SV Z v l) {i:Nat} {x:aK} (hx:l[i]? = some x) :
  ∃ a,indexAddr E 40 v (.int .i64 (i:Int)) = some a /\ ∀ σ',cQ Z σ' -> loadAt E σ' 46 a = some (.agg [.bool x.1,.str x.2]):=by
 have hi:=(List.getElem?_eq_some_iff.1 hx).1
 rcases hv with ⟨rfl,rfl⟩ | ⟨g,full,rfl⟩ | ⟨b,cs,ex,rfl,hb,hc⟩
 ·simp at hx
 ·have hr:(l.map row)[((i:Nat):Int).toNat]? = some (row x):=by
   rw [Int.toNat_natCast,List.getElem?_map,hx]; rfl
  refine ⟨.dU g (row x),?_,fun σ' _=>?_⟩
  ·unfold indexAddr
   simp only [h.mK,h.eI,hr]
   rw [if_neg (by omega)]
   rfl
  ·unfold loadAt
   simp only [h.eI]
   rfl
 ·refine ⟨.ref b (0 + i * 2),?_,fun σ' k=>?_⟩
  ·unfold indexAddr
   simp only [h.mK,h.eI,Int.toNat_natCast]
   rw [if_neg (by omega),if_pos hi]
  ·have hlen:l.length * 2 <= cs.length:=by
    have:=congrArg List.length hc
    rw [length_take,iI] at this
    omega
   unfold loadAt
   simp only [h.eI,k _ _ _ _ hb]
   have e:(cs.drop (0 + i * 2)).take 2 = row x:=by
    have:=Ku l i x hx
    rw [<- hc,List.drop_take,List.take_take] at this
    rw [show min 2 (l.length * 2 - i * 2) = 2 by omega] at this
    rw [Nat.zero_add]
    exact this
   rw [show Ax.isAgg (Kd.jB [(0,4),(1,9)]) = true from rfl]
   simp only [if_true]
   rw [if_pos (by omega),e]
   rfl
end
end
end Go.Proofs.YtlbbdpkjeeiahaaGreatDoor.Lb
end
section
namespace Go.Proofs.YtlbbdpkjeeiahaaGreatDoor
open Go Go.Ax Go.ChangeShapes Go.WideShapes Go.ChangeAt Go.RowKit
section
section
variable {H:Type} {enc:TypeId × Value -> H} {W:World} {base:Nat} {v:Value} {d:DataW H} {p:List MemPlace}
theorem R3 (hv:Value.okWide Tryz.prog W .any base 3 v):∃ x:Int,v = .int .i64 x /\ IntKind.has .i64 x:=by
 have e2:Tryz.prog.underlying 3 = some (.int .i64):=Tryz.underlying3
 unfold Value.okWide Cell.okWide Cell.ok at hv
 rw [e2] at hv
 cases v with
 | int k n=>exact ⟨n,by rw [show k = IntKind.i64 from hv.1],hv.2⟩
 | _=>exact hv.elim
end
def BA:Value -> Bool
 | .bool b=>b
 | _=>false
def rF:Value -> ByteArray
 | .string s=>s
 | _=>⟨#[]⟩
theorem DQ {W:World} {I:Bool -> Nat -> Prop} {blk off:Nat} (b:Nat -> Bool) (s:Nat -> ByteArray):∀ (n k:Nat),(∀ i,k <= i -> i < k + n -> W.cell? ⟨blk,off + i * 2,none⟩ = some (.bool (b i)) /\ W.cell? ⟨blk,off + i * 2 + 1,none⟩ = some (.string (s i))) ->
  dP W I 2 ((List.range' k n).map fun i=>Go.AxS.row (b i,Ax.bytes (s i))) blk (off + k * 2)
 | 0,k,_=>.nil
 | n + 1,k,h=>by
  rw [List.range'_succ,map_cons]
  obtain ⟨h1,h2⟩:=h k (Nat.le_refl _) (by omega)
  refine .cons _ _ rfl (.cons _ _ _ h1 (.bool _) (.cons _ _ _ h2 (.str _) .nil)) ?_
  have:=DQ (W:=W) (I:=I) (blk:=blk) (off:=off) b s n (k + 1) fun i hi hn=>h i (by omega) (by omega)
  rw [show off + (k + 1) * 2 = off + k * 2 + 2 by omega] at this
  exact this
theorem I_ {H:Type} {enc:TypeId × Value -> H} {W:World} {base:Nat} {v:Value} {d:DataW H} {p:List MemPlace} (hv:Value.okWide Tryz.prog W .any base 40 v) (h:DataW.Trod enc Tryz.prog W 0 (fun _=>true) true 40 v d p) (hw:(DataW.weights Tryz.prog 40 d).all (· <= reachBytes) = true) :
  ∃ (a:V) (l:List Go.AxS.aK),Lb.LV a l /\ (∀ k ∈ l,k.2.length <= 9223372036854775806) /\ VR (tD W) a v:=by
 have e22:Tryz.prog.underlying 40 = some (.slice 46):=Tryz.underlying40
 unfold Value.okWide at hv
 rw [e22] at hv
 have hv:Cell.okWide Tryz.prog W .any base 40 v:=hv
 unfold Cell.okWide Cell.ok at hv
 rw [e22] at hv
 cases v with
 | slice q len cap=>
  obtain ⟨fuel,h⟩:=h
  have h':DataW.trod enc Tryz.prog W 0 (fun _=>true) true fuel 40 [.slice q len cap] = some (d,p):=h
  rcases Go.Deep.open_slice_pairs e22 Tryz.underlying46 (by kernel_rfl) rfl rfl (by kernel_rfl) (by kernel_rfl) h' with ⟨hc,_⟩ | ⟨a,len',cap',m,n,V0,V1,D0,D1,P0,P1,hc,_,hlc,_,hm,hx,he⟩
  ·cases hc
   exact ⟨.aC,[],.inl ⟨rfl,rfl⟩,fun k hk=>(by cases hk),.inl .aC⟩
  ·cases hc
   have hv:len <= cap /\ (cap:Int) <= IntKind.i64.max /\ W.has Tryz.prog .any base a 46 cap:=hv
   obtain ⟨_,_,_,hsp,rw_,cl,hshape,_⟩:=hv
   obtain ⟨blk,off,sp⟩:=a
   have hsp:sp = none:=hsp
   subst hsp
   have hm:m = cap:=by rw [hm]; rfl
   subst hm
   have each:∀ i,i < len -> W.cell? ⟨blk,off + i * 2,none⟩ = some (.bool (BA (V0 i))) /\ W.cell? ⟨blk,off + i * 2 + 1,none⟩ = some (.string (rF (V1 i))) /\ D1 i = .lit (.string (rF (V1 i)).data.toList):=by
    intro i hi
    obtain ⟨q0,q1,t0,t1⟩:=he i (by omega)
    obtain ⟨x,e0,_⟩:=DataW.trod_bool Tryz.underlying4 t0
    obtain ⟨s,e1,e1',_⟩:=DataW.trod_string Tryz.underlying9 t1
    have e0:V0 i = .bool x:=List.head_eq_of_cons_eq e0
    have e1:V1 i = .string s:=List.head_eq_of_cons_eq e1
    have e2:D1 i = .lit (.string s.data.toList):=congrArg Prod.fst e1'
    rw [e0] at q0
    rw [e1] at q1
    have ea:∀ k,(⟨blk,off,none⟩:Addr).add k = ⟨blk,off + k,none⟩:=fun k=>by unfold Addr.add; first | rfl | simp
    rw [ea] at q0 q1
    rw [<- Nat.add_assoc] at q1
    refine ⟨by rw [e0]; exact q0,by rw [e1]; exact q1,by rw [e1]; exact e2⟩
   have hd:d = .slice ((List.range len).map fun i=>.agg [D0 i,D1 i]) ((List.range (m - len)).map fun j=>.agg [D0 (len + j),D1 (len + j)]):=congrArg Prod.fst hx
   have hlen:∀ i,i < len -> (rF (V1 i)).data.toList.length <= reachBytes:=by
    intro i hi
    rw [hd,DataW.weights,e22] at hw
    simp only [List.all_cons,List.all_append,Bool.and_eq_true,List.all_eq_true,decide_eq_true_eq] at hw
    refine hw.2.1 _ (oL (mem_map.2 ⟨i,mem_range.2 hi,rfl⟩) ?_)
    rw [DataW.weights,Tryz.underlying46,(each i hi).2.2]
    simp [DataW.weightsEach,DataW.weights]
   have hblk:blk < W.heap.size:=by
    rcases Nat.lt_or_ge blk W.heap.size with g | g
    ·exact g
    ·unfold World.shape? at hshape
     rw [Array.getElem?_eq_none g] at hshape
     cases hshape
   refine ⟨.bL true (((List.range' 0 len).map fun i=>(BA (V0 i),Ax.bytes (rF (V1 i)))).map Go.AxS.row) false,(List.range' 0 len).map fun i=>(BA (V0 i),Ax.bytes (rF (V1 i))),.inr ⟨true,false,rfl⟩,?_,.inl ?_⟩
   ·intro k hk
    obtain ⟨i,hi,rfl⟩:=mem_map.1 hk
    rw [List.mem_range'_1] at hi
    have:=hlen i (by omega)
    show (Ax.bytes (rF (V1 i))).length <= _
    rw [yQ]
    have e1:(rF (V1 i)).size = (rF (V1 i)).data.toList.length:=rfl
    have e:reachBytes = 140737488351232:=by decide
    omega
   ·refine .bL true _ false blk off len m 2 (Js W blk hblk) (by simp) hlc (fun h=>by cases h) ?_
    rw [map_map]
    have:=DQ (W:=W) (I:=Ax.sub true (tD W).bE) (blk:=blk) (off:=off) (fun i=>BA (V0 i)) (fun i=>rF (V1 i)) len 0 fun i _ hi=>⟨(each i (by omega)).1,(each i (by omega)).2.1⟩
    rw [Nat.zero_mul,Nat.add_zero] at this
    exact this
 | _=>exact hv.elim
end
end Go.Proofs.YtlbbdpkjeeiahaaGreatDoor
end
section
namespace Go.Proofs.YtlbbdpkjeeiahaaGreatDoor
open Go Go.Ax
noncomputable def spL:BT (List V -> Option V):=(.node 171 (.node 148 (.leaf 11 (bI t11)) (.leaf 148 oC)) (.node 254 (.leaf 171 kY) (.node 295 (.leaf 254 kG) (.leaf 295 wY))))
noncomputable def LE:Env:=ground.env spL
end Go.Proofs.YtlbbdpkjeeiahaaGreatDoor
end
section
namespace Go.Proofs.YtlbbdpkjeeiahaaGreatDoor
open Go Go.Ax Go.ChangeShapes Go.WideShapes Go.ChangeAt Go.RowKit
theorem SG:spL.yW (fS Tryz.prog (ground.env .nil)):=⟨⟨VF,Nn⟩,⟨Nl,⟨Nk,Nj⟩⟩⟩
theorem Pt {G:Ax.Ground Tryz.prog} (hG:lZ G) (hgl:G.gl = Ei) {s:BT (List V -> Option V)} (hs:s.yW (fS Tryz.prog (G.env .nil))) {n f:Nat} {vs:List V} {W:World} (hW:W.ShapedOpen Tryz.prog) (h:Ax.call (G.env s) n f vs = some (.bool true)) {xs:List Value} (hv:fA (tD W) vs xs) :
  Calls Tryz.prog f xs.toArray W fun e W'=>e = .returned (.bool true) /\ Below W.heap.size W W':=by
 refine (C3 (hG.OT s) (hG.OO hs) mixed h (d:=tD W) rfl (SC hW hgl) hv).mono ?_
 rintro e w' ⟨x,d',rfl,rfl,h1,h2,h3,h4⟩
 have hx:=h4.iF
 subst hx
 exact ⟨rfl,h2.os,h2.tape,h2.output,h2.size,fun k hk=>(h2.keep k hk fun ⟨b,⟨o,ho,_⟩,_⟩=>by cases ho).1⟩
end Go.Proofs.YtlbbdpkjeeiahaaGreatDoor
end
section
namespace Go.Proofs.YtlbbdpkjeeiahaaGreatDoor
open Go Go.Ax Go.AxS
section
section
variable {E:Env} {Z:Sg} {K:V -> Sg -> Prop}
theorem Sw (m b o n:Nat):pP (m + 1) (.sl b o n none) (.sl b o n none) = true:=by
 show (decide (b = b) && decide (o = o) && decide (n = n)) = true
 simp
theorem Ju (h:bK E) {Y:Sg} {b:Nat} {ex:Bool} {rs:List (List V)} (hl:∀ r ∈ rs,r.length = 5) (hb:Y[b]? = some (.cells 75 rs.flatten ex)) {i:Nat} {r:List V} (hr:rs[i]? = some r) {k:Nat} (hk:k < 5) {u:V} (hu:Ax.bE u = true) :
  storeAt E Y 28 (.ref b (i * 5 + k)) u = some (Y.set b (.cells 75 (rs.set i (r.set k u)).flatten ex)):=by
 have hil:=(List.getElem?_eq_some_iff.1 hr).1
 have hfl:rs.flatten.length = rs.length * 5:=m_ rs hl
 unfold storeAt
 simp only [h.bB,hb]
 rw [iV hu,if_pos (by simp only [length_cons,length_nil,List.all_cons,List.all_nil,aL hu,Bool.and_true,Bool.and_eq_true,decide_eq_true_eq]; exact ⟨rfl,by omega⟩),Nu hl hr hk]
theorem Ka (h:bK E) {Y:Sg} {b:Nat} {ex:Bool} {rs:List (List V)} (hl:∀ r ∈ rs,r.length = 5) (hb:Y[b]? = some (.cells 75 rs.flatten ex)) {i:Nat} {r:List V} (hr:rs[i]? = some r) {k:Nat} (hk:k < 5) {u:V} (hu:r[k]? = some u):loadAt E Y 28 (.ref b (i * 5 + k)) = some u:=by
 unfold loadAt
 simp only [h.bB,hb,Ax.isAgg,Bool.false_eq_true,if_false]
 rw [oV rs hl i r hr k hk,hu]
theorem Oe (h:bK E) {l:List AxS.Step} {s:AxS.Step} {nm:aX} {a' b' c' w:V} {Y:Sg} {i:Nat} (hi:l[i]? = some s) (x0:Y[2]? = some (O.cells 37 [.str nm,a',b',c',w] true)) (ow:bD gE 75 Y w l) (F:FT) (g1:F.get 2 = .ref 1 0) (g3:F.get 3 = .ref 2 0) (g4:F.get 4 = .int .i64 (i:Int)) {st:List jO} {Q:Ax.X -> Fr -> Sg -> Prop}
  (hk:∀ F' τ',(∀ k,k < 44 -> F'.get k = F.get k) -> bD gE 75 τ' w (l.set i (Be s)) -> Sp Y τ' w -> M E st .normal ⟨86,F'⟩ τ' Q):R E (.region 6 (opsOf (cutAt [1,1,1,0,1,2,2,1,1,0,2,1] (aA Tryz.f59).code)) true) st ⟨86,F⟩ Y Q:=by
 have hil:=(List.getElem?_eq_some_iff.1 hi).1
 rcases ow with ⟨rfl,rfl⟩ | ⟨b,rs,ex,rfl,hb,ha⟩
 ·cases hi
 obtain ⟨r,hr,hP⟩:=ha.get i s hi
 obtain ⟨p,q,rfl,ip,iq⟩:=hP
 have hls:=Lay.lens ha
 have hls:∀ r ∈ rs,r.length = 5:=hls
 obtain ⟨p1,e1,ip1⟩:=Er h ip 8
 obtain ⟨q1,e2,iq1⟩:=Er h iq 3
 have lp:=bO h ip.is
 have lq:=bO h iq.is
 have m1:=D_ s.args.length 8
 have m2:=D_ s.lits.length 3
 have m1:gT false .i64 (s.args.length:Int) [.int .i64 8] = some ((min s.args.length 8:Nat):Int):=m1
 have m2:gT false .i64 (s.lits.length:Int) [.int .i64 3] = some ((min s.lits.length 3:Nat):Int):=m2
 have ix:indexAddr E 35 (.sl b 0 l.length none) (.int .i64 (i:Int)) = some (.ref b (i * 5)):=by
  have hneg:¬ ((i:Int) < 0):=by omega
  unfold indexAddr
  simp only [hneg,if_false,h.fG,h.cR,Int.toNat_natCast,hil,if_true,Nat.zero_add]
 have d1:=Ka h hls hb hr (k:=2) (by omega) (u:=p) rfl
 have d2:=Ka h hls hb hr (k:=3) (by omega) (u:=q) rfl
 have s1:=Ju h hls hb hr (k:=2) (by omega) (u:=p1) ip1.is.bE
 have hbl:=(List.getElem?_eq_some_iff.1 hb).1
 have hrl:=(List.getElem?_eq_some_iff.1 hr).1
 have hr1:(rs.set i [.str s.out,.int .i64 s.op,p1,q,.int .i64 s.n])[i]? = some [.str s.out,.int .i64 s.op,p1,q,.int .i64 s.n]:=getElem?_set_self hrl
 have ha1:eS gE.P (rs.set i [.str s.out,.int .i64 s.op,p1,q,.int .i64 s.n]) (l.set i { s with args:=s.args.take 8 }):=ha.set (y:={ s with args:=s.args.take 8 }) ⟨p1,q,rfl,ip1,iq⟩ i
 have hls1:∀ r ∈ rs.set i [.str s.out,.int .i64 s.op,p1,q,.int .i64 s.n],r.length = 5:=Lay.lens ha1
 have s1:storeAt E Y 28 (.ref b (i * 5 + 2)) p1 = some (Y.set b (.cells 75 (rs.set i [.str s.out,.int .i64 s.op,p1,q,.int .i64 s.n]).flatten ex)):=s1
 have hb1:(Y.set b (.cells 75 (rs.set i [.str s.out,.int .i64 s.op,p1,q,.int .i64 s.n]).flatten ex))[b]? = some (.cells 75 (rs.set i [.str s.out,.int .i64 s.op,p1,q,.int .i64 s.n]).flatten ex):=uI hb
 have s2:=Ju h hls1 hb1 hr1 (k:=3) (by omega) (u:=q1) iq1.is.bE
 have hb2:b ≠ 2:=fun e=>by subst e; rw [hb] at x0; cases x0
 have x1:(Y.set b (.cells 75 (rs.set i [.str s.out,.int .i64 s.op,p1,q,.int .i64 s.n]).flatten ex))[2]? = some (O.cells 37 [.str nm,a',b',c',.sl b 0 l.length none] true):=pR x0 hb2
 have ldx:∀ Y:Sg,Y[2]? = some (O.cells 37 [.str nm,a',b',c',.sl b 0 l.length none] true) -> loadAt E Y 35 (.ref 2 4) = some (.sl b 0 l.length none):=fun Y hx=>by
  unfold loadAt
  simp only [h.fG,hx,Ax.isAgg,Bool.false_eq_true,if_false]
  rfl
 have w0:=ldx _ x0
 have w1:=ldx _ x1
 have v1:=Sw 11 b 0 l.length
 have v2:=fun k i=>Jn 11 k i
 have v3:=b_ 10 iq1.is
 generalize hτ1:Y.set b (.cells 75 (rs.set i [.str s.out,.int .i64 s.op,p1,q,.int .i64 s.n]).flatten ex) = τ1 at *
 have key:∃ F',cC E (ev E 0) (opsOf (cutAt [1,1,1,0,1,2,2,1,1,0,2,1] (aA Tryz.f59).code)) ⟨86,F⟩ Y = some (⟨86,F'⟩,τ1.set b (.cells 75 ((rs.set i [.str s.out,.int .i64 s.op,p1,q,.int .i64 s.n]).set i ([V.str s.out,.int .i64 s.op,p1,q,.int .i64 s.n].set 3 q1)).flatten ex)) /\ ∀ k,k < 44 -> F'.get k = F.get k:=by
  unfold cC
  rw [h.UD,h.Wb]
  simp only [aA,Tryz.f59,KP,↓reduceIte,reduceEqDiff,reduceLT,reduceAdd,reduceCtorEq,h.bB,h.fG,h.bJ,h.cR,opsOf,cutAt,fO,bG,bW,jP,Ax.comp,Ax.last,fI,Ax.again,aR,g3,g4,w0,w1,ix,d1,d2,lp,lq,m1,m2,e1,e2,s1,s2,v1,v2,v3]
  refine ⟨_,rfl,fun k hk=>?_⟩
  simp only [FT.cJ]
  repeat rw [if_neg (by omega)]
 obtain ⟨F',hE,hF⟩:=key
 refine Eq.mpr (h_ hE) (hk F' _ hF ?_ ?_)
 ·have hn:(l.set i (Be s)).length = l.length:=length_set
  refine .inr ⟨b,_,ex,by rw [hn],uI hb1,?_⟩
  rw [List.set_set]
  exact ha.set (y:=Be s) ⟨p1,q1,rfl,ip1,iq1⟩ i
 ·intro c o e hne
  have hcb:b ≠ c:=fun e2=>hne (by rw [e2]; rfl)
  rw [<- hτ1,List.set_set,getElem?_set_ne hcb]; exact e
theorem Fb {l:List AxS.Step} {i:Nat} {s:AxS.Step} (hi:l[i]? = some s):((l.take i).map Be ++ l.drop i).set i (Be s) = (l.take (i + 1)).map Be ++ l.drop (i + 1):=by
 have hil:=(List.getElem?_eq_some_iff.1 hi).1
 have h1:((l.take i).map Be).length = i:=by rw [length_map,length_take]; omega
 rw [List.set_append_right _ _ (by omega),h1,Nat.sub_self,List.drop_eq_getElem_cons hil,set_cons_zero,take_add_one,hi]
 simp
theorem Mh (h:bK E) {v:V} {x:aG} (hv:HK v x) (hx:Raw x):aB E 59 [v] Z fun v' σ'=>σ' = Z /\ ∃ a b c d,v' = .agg [.str x.name,a,b,c,d] /\ kE aM a (cut x).ins /\ kE aM b (cut x).outs /\ kE aM c (cut x).after /\ kE gE d (cut x).steps:=by
 have ev:=hv.snap (E:=E) Z
 obtain ⟨a,b,c,d,rfl,ia,ib,ic,id⟩:=hv
 rw [aH h.hs59 h.sp59 h.fn59 h.md59 (args':=[.agg [.str x.name,a,b,c,d]]) (by simp only [aW,ev]),aZ (by kernel_rfl)]
 have ha:=aL ia.bE
 have hb:=aL ib.bE
 have hc:=aL ic.bE
 have hd:=aL id.bE
 simp only [aA,Tryz.f59,KP,↓reduceIte,reduceLT,reduceAdd,h.bJ,ha,hb,hc,hd]
 refine Of h ia ib ic id _ ?_ ?_ ?_
 ·exact (by simp +decide only [GS])
 ·exact (by simp +decide only [GS])
 intro F1 a1 b1 c1 d1 g1 g2 g3 i1 i2 i3 i4
 simp only [KP,Ax.loadAt,↓reduceIte,reduceLT,reduceAdd,h.bJ,g3]
 refine aI (Uh h (x:=qX x) ⟨a1,b1,c1,d1,rfl,i1,i2,i3,i4⟩ hx.mid) ?_
 rintro v1 Y ⟨⟨a2,b2,c2,w,rfl,j1,j2,j3,ow,hw⟩,kp⟩
 have o1:=aL j1.is.bE
 have o2:=aL j2.is.bE
 have o3:=aL j3.is.bE
 obtain ⟨hc1,hc2⟩:=qG ow
 have z0:Y[1]? = some (O.cells 37 [.str [],.aC,.aC,.aC,.aC] true):=kp 1 _ rfl
 have x0:=kp 2 _ (show ([O.cells 37 [.str x.name,a,b,c,d] true,O.cells 37 [.str [],.aC,.aC,.aC,.aC] true,O.cells 37 [.str x.name,a1,b1,c1,d1] true]:Sg)[2]? = _ from rfl)
 have hw3:∀ k,aQ w = some k -> 3 <= k:=hw
 have x1:=uI (x:=O.cells 37 [.str x.name,a2,b2,c2,w] true) x0
 have z1:=pR (x:=O.cells 37 [.str x.name,a2,b2,c2,w] true) z0 (show (2:Nat) ≠ 1 by omega)
 have ow1:bD gE 75 (Y.set 2 (O.cells 37 [.str x.name,a2,b2,c2,w] true)) w (qX x).steps:=ow.keep fun k o hk ho=>pR ho (fun e=>by have:=hw3 k hk; omega)
 have nm0:(qX x).name = x.name:=rfl
 have lw:∀ l:List AxS.Step,l.length = (qX x).steps.length -> ∀ Z,bD gE 75 Z w l -> lenOf E Z 35 w = some (qX x).steps.length:=fun l hl Z o=>by rw [<- hl]; exact pW h.fG rfl o.ls
 have lw1:=lw _ rfl _ ow1
 simp only [KP,Ax.loadAt,Ax.storeAt,↓reduceIte,reduceEqDiff,reduceLT,reduceAdd,reduceCtorEq,h.fG,h.bJ,g3,nm0,x0,x1,lw1,o1,o2,o3,hc2]
 generalize Y.set 2 (O.cells 37 [.str x.name,a2,b2,c2,w] true) = Y at *
 refine aU (fun i F Y=>Y[1]? = some (O.cells 37 [.str [],.aC,.aC,.aC,.aC] true) /\ Y[2]? = some (O.cells 37 [.str x.name,a2,b2,c2,w] true) /\ bD gE 75 Y w (((qX x).steps.take i).map Be ++ (qX x).steps.drop i) /\ F.get 2 = .ref 1 0 /\ F.get 3 = .ref 2 0 /\ F.get 40 = .int .i64 ((qX x).steps.length:Int) /\ F.get 41 = .int .i64 (i:Int)) (qX x).steps.length ?_ ?_ (qX x).steps.length 0 _ _ (by omega) ⟨z1,x1,by simpa using ow1,(by simp +decide only [GS,g2,g3,and_self])⟩
 ·rintro i F Y hi ⟨z0,x0,ow,g2,g3,g40,g41⟩ next
  obtain ⟨s,hst⟩:∃ y,(qX x).steps[i]? = some y:=⟨_,List.getElem?_eq_getElem hi⟩
  have hlt:=eE hi
  have hsz:(qX x).steps.length <= 14:=by show (x.steps.take 14).length <= 14; rw [length_take]; omega
  have hadd:=bY i (by omega)
  have hli:(((qX x).steps.take i).map Be ++ (qX x).steps.drop i)[i]? = some s:=by
   rw [getElem?_append_right (by rw [length_map,length_take]; omega),length_map,length_take,show i - min i (qX x).steps.length = 0 by omega,getElem?_drop,Nat.add_zero,hst]
  rw [aF]
  simp only [KP,↓reduceIte,reduceEqDiff,reduceLT,g40,g41,hlt]
  refine Oe h hli x0 ow _ ?_ ?_ ?_ ?_
  ·exact (by simp +decide only [GS,g2])
  ·exact (by simp +decide only [GS,g3])
  ·exact (by simp +decide only [GS])
  intro F2 τ2 hF ow2 sp
  have k2:F2.get 2 = .ref 1 0:=by rw [hF 2 (by omega)]; exact (by simp +decide only [GS,g2])
  have k3:F2.get 3 = .ref 2 0:=by rw [hF 3 (by omega)]; exact (by simp +decide only [GS,g3])
  have k40:F2.get 40 = .int .i64 ((qX x).steps.length:Int):=by rw [hF 40 (by omega)]; exact (by simp +decide only [GS,g40])
  have k41:F2.get 41 = .int .i64 (i:Int):=by rw [hF 41 (by omega)]; exact (by simp +decide only [GS,g41])
  simp only [KP,↓reduceIte,reduceLT,k41,hadd]
  rw [Fb hst] at ow2
  exact next _ _ ⟨sp _ _ z0 (tK z0 (by decide) ow),sp _ _ x0 (tK x0 (by decide) ow),ow2,(by simp +decide only [GS,k2,k3,k40,and_self])⟩
 ·rintro F Y ⟨z0,x0,ow,g2,g3,g40,g41⟩
  have hlt:=eF (Nat.lt_irrefl (qX x).steps.length)
  rw [take_of_length_le (Nat.le_refl _),List.drop_of_length_le (Nat.le_refl _),List.append_nil] at ow
  have hne:=tK z0 (show 37 ≠ 75 by decide) ow
  have zz:=uI (x:=O.cells 37 [.str x.name,a2,b2,c2,w] true) z0
  have ow3:bD gE 75 (Y.set 1 (O.cells 37 [.str x.name,a2,b2,c2,w] true)) w ((qX x).steps.map Be):=ow.keep fun k o hk ho=>pR ho (fun e=>by rw [<- e] at hk; exact hne hk)
  rw [aF]
  simp only [KP,Ax.loadAt,Ax.storeAt,↓reduceIte,reduceEqDiff,reduceLT,reduceAdd,h.bJ,g2,g3,g40,g41,hlt,x0,z0,zz,o1,o2,o3,hc2]
  generalize Y.set 1 (O.cells 37 [.str x.name,a2,b2,c2,w] true) = Y at *
  obtain ⟨d',e1,id'⟩:=qC h.cR rfl Ia ow3
  have one:∀ {u:V},Ax.bE u = true -> cF false u = true -> aV.one Y E.ty false u = some u:=fun {u} h1 h2=>by
   have h3:=dG (Z:=Y) (ty:=E.ty) (g:=false) h1 h2
   cases u <;> first | exact h3 | cases h1
  have oned:aV.one Y E.ty false w = some d':=by
   rcases ow3 with ⟨rfl,-⟩ | ⟨b,rs,ex,rfl,-⟩
   ·exact e1
   ·exact e1
  have hsn:cP Y E.ty false (.agg [.str x.name,a2,b2,c2,w]) = some (.agg [.str x.name,a2,b2,c2,d']):=by
   show (match aW (aV.one Y E.ty false) [.str x.name,a2,b2,c2,w] with
    | some l=>some (V.agg l)
    | none=>none) = _
   simp only [aW,one (u:=.str x.name) rfl rfl,one j1.is.bE j1.tag,one j2.is.bE j2.tag,one j3.is.bE j3.tag,oned]
  rw [hsn]
  exact ⟨a2,b2,c2,d',rfl,j1,j2,j3,id'⟩
end
end
section
section
variable {E:Env} {Z:Sg} {K:V -> Sg -> Prop}
def nH:Lay aG:=⟨fun r x=>∃ a b c d,r = [.str x.name,a,b,c,d] /\ kE aM a x.ins /\ kE aM b x.outs /\ kE aM c x.after /\ kE gE d x.steps,5,fun _ _ ⟨_,_,_,_,h,_⟩=>by rw [h]; rfl,fun _ _ ⟨a,b,c,d,h,h1,h2,h3,h4⟩ k hk=>by
 rw [h] at hk
 simp only [mem_cons,List.not_mem_nil,or_false] at hk
 rcases hk with rfl | rfl | rfl | rfl | rfl
 ·rfl
 ·exact h1.is.bE
 ·exact h2.is.bE
 ·exact h3.is.bE
 ·exact h4.is.bE⟩
theorem B6:∀ r x,nH.P r x -> ∀ k ∈ r,cF false k = true:=fun r x ⟨a,b,c,d,h,h1,h2,h3,h4⟩ k hk=>by
 rw [h] at hk
 simp only [mem_cons,List.not_mem_nil,or_false] at hk
 rcases hk with rfl | rfl | rfl | rfl | rfl
 ·rfl
 ·exact h1.tag
 ·exact h2.tag
 ·exact h3.tag
 ·exact h4.tag
theorem rT {α:Type} {L M:Lay α} {v:V} {l:List α} (h:IS L v l) (k:∀ r x,L.P r x -> M.P r x):IS M v l:=h.imp id fun ⟨g,rs,full,e,ha⟩=>⟨g,rs,full,e,ha.imp k⟩
theorem Qu {α:Type} {L M:Lay α} {t:Nat} {Z:Sg} {v:V} {l:List α} (h:LS L t Z v l) (hn:L.n = M.n) (k:∀ r x,L.P r x -> M.P r x):LS M t Z v l:=h.imp (fun h=>rT h k) fun ⟨b,cs,ex,rs,e,hb,ha,hc⟩=>⟨b,cs,ex,rs,e,hb,ha.imp k,by rw [<- hn]; exact hc⟩
theorem rG:∀ r x,gE.P r x -> eX.P r x:=fun r x ⟨a,l,h,h1,h2⟩=>⟨a,l,h,h1.is,h2.is⟩
theorem vW:∀ r x,nH.P r x -> dZ.P r x:=fun r x ⟨a,b,c,d,h,h1,h2,h3,h4⟩=>⟨a,b,c,d,h,h1.is,h2.is,h3.is,rT h4.is rG⟩
theorem HD (h:bK E) {Y:Sg} {w a b c d:V} {l:List aG} {r:aG} {ex:Bool} (ow:bD nH 37 Y w l) (h1:kE aM a r.ins) (h2:kE aM b r.outs) (h3:kE aM c r.after) (h4:kE gE d r.steps) (hb:l.length <= 1000) :
  ∃ w' τ',Ax.append E (Y ++ [.cells 37 [.str r.name,a,b,c,d] ex]) #[22,22] w (.sl Y.length 0 1 none) = some (w',τ') /\ bD nH 37 τ' w' (l ++ [r]) /\ Sp (Y ++ [.cells 37 [.str r.name,a,b,c,d] ex]) τ' w /\ Y.length <= τ'.length:=by
 obtain ⟨w',τ',q1,q2,q3,q4,-⟩:=jX (m:=[r]) (new:=[[.str r.name,a,b,c,d]]) h.BH rfl h.bJ rfl (by decide) (tJ h) rfl (ow.app [.cells 37 [.str r.name,a,b,c,d] ex]) (mM rfl) (.one ⟨a,b,c,d,rfl,h1,h2,h3,h4⟩) (eU (b:=1001) (by decide) (by simp only [length_cons,length_nil]; omega))
 exact ⟨w',τ',q1,q2,q3,by simp only [length_append,length_cons,length_nil] at q4; omega⟩
theorem I6 (h:bK E) {a:V} {rs:List aG} (ha:LS dZ 37 Z a rs) (hr:∀ x ∈ rs,Raw x):aB E 12 [a] Z fun v σ'=>σ' = Z /\ kE nH v ((rs.take 42).map cut):=by
 obtain ⟨a',ea,ia⟩:=eT h ha
 rw [aH h.hs12 h.Nh h.fn12 h.md12 (args':=[a']) (by simp only [aW,ea]),aZ (by kernel_rfl)]
 have la:=cV h ia
 simp only [aA,Tryz.f12,KP,↓reduceIte,reduceLT]
 refine aU (fun i F Y=>F.get 0 = a' /\ F.get 4 = .int .i64 (i:Int) /\ ∃ w,F.get 3 = w /\ bD nH 37 Y w ((rs.take i).map cut)) (min rs.length 42) ?_ ?_ (min rs.length 42) 0 _ _ (by omega) (k_ (by simp +decide only [GS,and_self]) ⟨.aC,(by simp +decide only [GS]),.inl ⟨rfl,rfl⟩⟩)
 ·rintro i F Y hi ⟨g0,g4,w,g3,ow⟩ next
  obtain ⟨r,hri⟩:∃ y,rs[i]? = some y:=⟨_,List.getElem?_eq_getElem (by omega)⟩
  have hraw:=hr r (mem_of_getElem? hri)
  obtain ⟨g,p1,p2,p3,p4,e1,i1,i2,i3,i4⟩:=fD h ia hri
  have hlt:=eE (show i < rs.length by omega)
  have hlt2:decide ((i:Int) < 42) = true:=decide_eq_true (by omega)
  have hadd:=bY i (by omega)
  rw [aF]
  simp only [KP,Ax.loadAt,↓reduceIte,reduceEqDiff,reduceLT,reduceAdd,reduceCtorEq,h.bJ,g0,g3,g4,la,hlt,hlt2,e1]
  refine aI (Mh h (Ny i1 i2 i3 i4) hraw) ?_
  rintro v σ' ⟨rfl,a1,b1,c1,d1,rfl,j1,j2,j3,j4⟩
  have o1:=aL j1.is.bE
  have o2:=aL j2.is.bE
  have o3:=aL j3.is.bE
  have o4:=aL j4.is.bE
  have hnm:r.name = (cut r).name:=rfl
  obtain ⟨w',τ',ha2,ow2,-,-⟩:=HD (r:=cut r) (ex:=true) h ow j1 j2 j3 j4 (by rw [length_map,length_take]; omega)
  rw [<- hnm] at ha2
  simp only [KP,↓reduceIte,reduceEqDiff,reduceLT,reduceLeDiff,reduceAdd,reduceMul,h.BH,h.bJ,g4,ha2,hadd,o1,o2,o3,o4,Ax.fill,fQ,Nat.zero_mul]
  refine next _ _ (k_ (by simp +decide only [GS,g0,and_self]) ⟨w',(by simp +decide only [GS]),?_⟩)
  have e:(rs.take (i + 1)).map cut = (rs.take i).map cut ++ [cut r]:=by rw [take_add_one,hri]; simp
  rw [e]
  exact ow2
 ·rintro F Y ⟨g0,g4,w,g3,ow⟩
  obtain ⟨v',e1,iv⟩:=qC h.bJ rfl B6 ow
  have ht:rs.take (min rs.length 42) = rs.take 42:=wX rs 42
  rw [ht] at iv
  rw [aF]
  by_cases hlen:rs.length <= 42
  ·have hm:min rs.length 42 = rs.length:=Nat.min_eq_left hlen
   rw [hm] at g4
   have hlt:=eF (Nat.lt_irrefl rs.length)
   simp only [KP,↓reduceIte,reduceEqDiff,reduceLT,reduceCtorEq,g0,g3,g4,la,hlt,e1]
   exact iv
  ·have hm:min rs.length 42 = 42:=Nat.min_eq_right (by omega)
   rw [hm] at g4
   have hlt:decide (((42:Nat):Int) < (rs.length:Int)) = true:=decide_eq_true (by omega)
   have hlt2:decide (((42:Nat):Int) < 42) = false:=rfl
   simp only [KP,↓reduceIte,reduceEqDiff,reduceLT,reduceCtorEq,g0,g3,g4,la,hlt,hlt2,e1]
   exact iv
end
end
section
section
variable {E:Env} {Z:Sg} {K:V -> Sg -> Prop}
theorem Rb (h:bK E) {Y:Sg} {w a b c d:V} {l:List aG} {r:aG} {y:Nat} (ow:bD nH 37 Y w l) (hy:Y[y]? = some (.cells 37 [.str r.name,a,b,c,d] true)) (j1:kE aM a r.ins) (j2:kE aM b r.outs) (j3:kE aM c r.after) (j4:kE gE d r.steps) (hs:∀ x ∈ l ++ [r],Small x) (hl:l.length <= 14)
  (F:FT) (g3:F.get 3 = w) (g5:F.get 5 = .ref y 0) {st:List jO} {Q:Ax.X -> Fr -> Sg -> Prop}
  (hk:∀ F' τ' e,(∀ k,k ∈ [0,3,5,9,10,11] -> F'.get k = F.get k) -> F'.get 6 = .int .i64 e -> HN (l ++ [r]) e -> (∀ (k:Nat) (o:O),Y[k]? = some o -> τ'[k]? = some o) -> M E st .normal ⟨37,F'⟩ τ' Q):R E (.region 5 (opsOf (cutAt [1,1,0,1,2,2,1,1,0,2,1,0] (aA Tryz.f16).code)) true) st ⟨37,F⟩ Y Q:=by
 obtain ⟨rs,ee,hee⟩:=OU (t:=37) (Z:=Y) ow.ls
 obtain ⟨w1,τ1,ha1,ow1,Ur,-,fb⟩:=jX (ats:=#[22,22]) (Z:=Y) (w:=.aC) (l:=[]) (L:=nH) (x:=w) (m:=l) h.BH rfl h.bJ rfl (by decide) (tJ h) rfl (.inl ⟨rfl,rfl⟩) ee hee (eU (b:=1000) (by decide) (by simp only [length_nil]; omega))
 obtain ⟨w2,τ2,ha2,ow2,Sb,-,-⟩:=jX (ats:=#[22,22]) (Z:=τ1) (x:=.bL false [[.str r.name,a,b,c,d]] true) (m:=[r]) (new:=[[.str r.name,a,b,c,d]]) h.BH rfl h.bJ rfl (by decide) (tJ h) rfl ow1 rfl (.one ⟨a,b,c,d,rfl,j1,j2,j3,j4⟩) (eU (b:=1000) (by decide) (by simp only [List.nil_append,length_cons,length_nil]; omega))
 rw [List.nil_append] at ow2
 have hy1:τ1[y]? = some (.cells 37 [.str r.name,a,b,c,d] true):=Ur _ _ hy (by intro e; cases e)
 have hall:=Pb (Z:=τ2) h (Qu ow2.ls rfl vW) ⟨by simp only [length_append,length_cons,length_nil]; omega,hs⟩
 obtain ⟨n,v,σ',hcall,hσ,e,nm,rfl,hE⟩:=hall
 rw [hσ] at hcall
 clear hσ σ'
 have o1:=aL j1.is.bE
 have o2:=aL j2.is.bE
 have o3:=aL j3.is.bE
 have o4:=aL j4.is.bE
 have t1:=j1.tag
 have t2:=j2.tag
 have t3:=j3.tag
 have t4:=j4.tag
 have ts:cF false (.str r.name) = true:=rfl
 have v1:=b_ 10 j1.is
 have v2:=b_ 10 j2.is
 have v3:=b_ 10 j3.is
 have v4:=nY 9 (rT j4.is rG)
 have vs:=Ak 10 r.name
 have va:pP 12 (.agg [.str r.name,a,b,c,d]) (.agg [.str r.name,a,b,c,d]) = true:=pC fun x hx=>by
  simp only [mem_cons,List.not_mem_nil,or_false] at hx
  rcases hx with rfl | rfl | rfl | rfl | rfl
  ·exact vs
  ·exact b_ 9 j1.is
  ·exact b_ 9 j2.is
  ·exact b_ 9 j3.is
  ·exact nY 8 (rT j4.is rG)
 have key:∃ F',cC E (ev E n) (opsOf (cutAt [1,1,0,1,2,2,1,1,0,2,1,0] (aA Tryz.f16).code)) ⟨37,F⟩ Y = some (⟨37,F'⟩,τ2) /\ (∀ k,k ∈ [0,3,5,9,10,11] -> F'.get k = F.get k) /\ F'.get 6 = .int .i64 e:=by
  unfold cC
  rw [h.UG,h.We]
  simp only [aA,Tryz.f16,KP,Ax.loadAt,↓reduceIte,reduceEqDiff,reduceLT,reduceLeDiff,reduceAdd,reduceMul,h.BH,h.bJ,opsOf,cutAt,Fz.lits,Fz.apps,fO,bG,bW,jP,Ax.comp,Ax.last,fI,Ax.again,sS,Ax.fill,fQ,Ax.rows,Nat.zero_mul,g3,g5,hy,hy1,ha1,ha2,hcall,o1,o2,o3,o4,t1,t2,t3,t4,ts,va]
  refine ⟨_,rfl,fun k hk=>?_,(by simp +decide only [GS])⟩
  simp only [mem_cons,List.not_mem_nil,or_false] at hk
  rcases hk with rfl | rfl | rfl | rfl | rfl | rfl <;> simp +decide only [GS]
 obtain ⟨F',hD,h1,h2⟩:=key
 refine Eq.mpr (h_ hD) (hk F' τ2 e h1 h2 hE fun k o ho=>?_)
 have h1':=Ur _ _ ho (by intro e; cases e)
 refine Sb _ _ h1' fun e=>?_
 rcases fb _ e with hb | hb
 ·cases hb
 ·exact absurd (List.getElem?_eq_some_iff.mp ho).1 (by omega)
theorem Pw (h:bK E) {v:V} {l:List aG} (ia:IS nH v l) {i:Nat} {x:aG} (hx:l[i]? = some x):∃ g a b c d,indexAddr E 22 v (.int .i64 (i:Int)) = some (.dU g [.str x.name,a,b,c,d]) /\ kE aM a x.ins /\ kE aM b x.outs /\ kE aM c x.after /\ kE gE d x.steps:=by
 obtain ⟨g,r,e,a,b,c,d,hr,h1⟩:=IS.at h.BH rfl h.bJ rfl ia hx
 exact ⟨g,a,b,c,d,by rw [e,hr],h1⟩
theorem Gi:mW []:=⟨rfl,fun ⟨i,hi,_⟩=>absurd hi (by simp)⟩
theorem Uf (h:bK E) {a:V} {rs:List aG} (ha:LS dZ 37 Z a rs) (hr:∀ x ∈ rs,Raw x):aB E 16 [a] Z fun v σ'=>σ' = Z /\ ∃ l,kE nH v l /\ mW l /\ l.length <= 14 /\ ∀ x ∈ l,Small x:=by
 obtain ⟨a',ea,ia⟩:=eT h ha
 rw [aH h.hs16 h.Nf h.fn16 h.md16 (args':=[a']) (by simp only [aW,ea]),aZ (by kernel_rfl)]
 simp only [aA,Tryz.f16,KP,↓reduceIte,reduceLT,reduceCtorEq]
 refine aI (I6 h (ia.ls [] 37) hr) ?_
 rintro v σ' ⟨rfl,iv⟩
 have sm:∀ x ∈ (rs.take 42).map cut,Small x:=fun x hx=>by
  obtain ⟨y,-,rfl⟩:=mem_map.1 hx
  exact L0 y
 have hl42:((rs.take 42).map cut).length <= 42:=by rw [length_map,length_take]; omega
 generalize (rs.take 42).map cut = ls at iv sm hl42
 have la:=cV h (rT iv.is vW)
 simp only [KP,↓reduceIte,reduceLT,la]
 refine aU (fun i F Y=>F.get 9 = v /\ F.get 10 = .int .i64 (ls.length:Int) /\ F.get 11 = .int .i64 (i:Int) /\ ∃ w l,F.get 3 = w /\ bD nH 37 Y w l /\ mW l /\ l.length <= 14 /\ ∀ x ∈ l,Small x) ls.length ?_ ?_ ls.length 0 _ _ (by omega) (gD (by simp +decide only [GS,and_self]) ⟨.aC,[],(by simp +decide only [GS]),.inl ⟨rfl,rfl⟩,Gi,by simp,fun x hx=>by cases hx⟩)
 ·rintro i F Y hi ⟨g9,g10,g11,w,l,g3,ow,hok,hlen,hsm⟩ next
  obtain ⟨r,hri⟩:∃ y,ls[i]? = some y:=⟨_,List.getElem?_eq_getElem (by omega)⟩
  have hrs:=sm r (mem_of_getElem? hri)
  obtain ⟨g,p1,p2,p3,p4,e1,i1,i2,i3,i4⟩:=Pw h iv.is hri
  have hlt:=eE hi
  have hadd:=bY i (by omega)
  rw [aF]
  have o1:=aL i1.is.bE
  have o2:=aL i2.is.bE
  have o3:=aL i3.is.bE
  have o4:=aL i4.is.bE
  simp only [KP,Ax.loadAt,Ax.storeAt,↓reduceIte,reduceEqDiff,reduceLT,reduceAdd,h.bJ,g9,g10,g11,hlt,e1,o1,o2,o3,o4,aO,cH]
  refine Rb h (ow.app _) (y:=Y.length) ?_ i1 i2 i3 i4 ?_ hlen _ ?_ ?_ ?_
  ·simp
  ·intro x hx
   rcases mem_append.1 hx with hx | hx
   ·exact hsm x hx
   ·rw [List.mem_singleton.1 hx]; exact hrs
  ·exact (by simp +decide only [GS,g3])
  ·exact (by simp +decide only [GS])
  intro F' τ' e hF h6 hE hT
  have q3:F'.get 3 = w:=(hF 3 (by simp)).trans (show _ = w by simp only [FT.cJ,reduceEqDiff,↓reduceIte,g3])
  have q5:F'.get 5 = .ref Y.length 0:=(hF 5 (by simp)).trans (by simp +decide only [GS])
  have q9:F'.get 9 = v:=(hF 9 (by simp)).trans (by simp +decide only [GS,g9])
  have FL:F'.get 10 = .int .i64 (ls.length:Int):=(hF 10 (by simp)).trans (by simp +decide only [GS,g10])
  have HR:F'.get 11 = .int .i64 (i:Int):=(hF 11 (by simp)).trans (by simp +decide only [GS,g11])
  have ow':bD nH 37 τ' w l:=(ow.app [O.cells 37 [.str r.name,p1,p2,p3,p4] true]).keep fun c o _ hc=>hT c o hc
  have hy:τ'[Y.length]? = some (O.cells 37 [.str r.name,p1,p2,p3,p4] true):=hT _ _ (by simp)
  have lw:=pW h.BH rfl ow'.ls
  have hz:=hE.zero
  by_cases he:e = 0
  ·have c1:decide (e = 0) = true:=decide_eq_true he
   by_cases h14:l.length < 14
   ·have c2:decide ((l.length:Int) < 14) = true:=decide_eq_true (by omega)
    obtain ⟨w2,τ2,ha2,ow2,-,-⟩:=HD (ex:=true) h ow' i1 i2 i3 i4 (by omega)
    simp only [KP,Ax.loadAt,↓reduceIte,reduceEqDiff,reduceLT,reduceLeDiff,reduceAdd,reduceMul,h.BH,h.bJ,q3,q5,HR,h6,lw,c1,c2,hy,hadd,ha2,o1,o2,o3,o4,Ax.fill,fQ,Nat.zero_mul]
    refine next _ _ (gD (by simp +decide only [GS,q9,FL,and_self]) ⟨w2,l ++ [r],(by simp +decide only [GS]),ow2,hz.1 he,?_,?_⟩)
    ·rw [length_append,length_singleton]; omega
    ·intro x hx
     rcases mem_append.1 hx with hx | hx
     ·exact hsm x hx
     ·rw [List.mem_singleton.1 hx]; exact hrs
   ·have c2:decide ((l.length:Int) < 14) = false:=decide_eq_false (by omega)
    simp only [KP,↓reduceIte,reduceEqDiff,reduceLT,q3,HR,h6,lw,c1,c2,hadd]
    exact next _ _ (gD (by simp +decide only [GS,q9,FL,and_self]) ⟨w,l,(by simp +decide only [GS,q3]),ow',hok,hlen,hsm⟩)
  ·have c1:decide (e = 0) = false:=decide_eq_false he
   simp only [KP,↓reduceIte,reduceEqDiff,reduceLT,HR,h6,c1,hadd]
   exact next _ _ (gD (by simp +decide only [GS,q9,FL,and_self]) ⟨w,l,(by simp +decide only [GS,q3]),ow',hok,hlen,hsm⟩)
 ·rintro F Y ⟨g9,g10,g11,w,l,g3,ow,hok,hlen,hsm⟩
  obtain ⟨v',e1,iv⟩:=qC h.bJ rfl B6 ow
  have hlt:=eF (Nat.lt_irrefl ls.length)
  rw [aF]
  simp only [KP,↓reduceIte,reduceEqDiff,reduceLT,g3,g10,g11,hlt,e1]
  exact ⟨l,iv,hok,hlen,hsm⟩
end
end
end Go.Proofs.YtlbbdpkjeeiahaaGreatDoor
end
