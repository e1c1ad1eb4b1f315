/- Part 14 of the proof. -/
import Derived.Test.YtlbbdpkjeeiahaaGreatDoorZ13
import Derived.Sort.MapsRangeIn
import Derived.RangeFuncFrom
import Derived.RangeFuncGives
import Derived.Test.YtlbbdpkjeeiahaaGreatDoorZ3
import Derived.Shelf.SlIter.Collect
import Derived.Shelf.AbstractIn
import Derived.Shelf.SortM.SortNone
import Derived.Shelf.SlSortCmp.NoneTotal
import Derived.Ground.SlsfProg
import Derived.Ground.SlgmProg
import Derived.Test.YtlbbdpkjeeiahaaGreatDoorProg
import Derived.Test.YtlbbdpkjeeiahaaGreatDoorZ2
import Derived.Sort.OwnSorted
import Derived.Shelf.SortM.Plain
import Derived.Test.YtlbbdpkjeeiahaaGreatDoorZ4
import Derived.Test.YtlbbdpkjeeiahaaGreatDoorZ5
import Derived.Test.YtlbbdpkjeeiahaaGreatDoorZ6
import Derived.Test.YtlbbdpkjeeiahaaGreatDoorZ7
import Derived.Test.YtlbbdpkjeeiahaaGreatDoorZ8
import Derived.Test.YtlbbdpkjeeiahaaGreatDoorZ9
import Derived.Test.YtlbbdpkjeeiahaaGreatDoorZ10
import Derived.Test.YtlbbdpkjeeiahaaGreatDoorZ11
import Derived.Test.YtlbbdpkjeeiahaaGreatDoorZ12
import Derived.Test.YtlbbdpkjeeiahaaGreatDoorZ0
set_option maxHeartbeats 8000000
set_option linter.unusedVariables false
open Nat (reduceEqDiff reduceLT reduceAdd reduceSub)
open List (getElem?_cons_zero length_cons length_nil drop_nil length_map mem_map map_map mem_cons_self map_cons map_append append_toArray append_assoc pairwise_cons mem_cons flatMap_cons length_append getElem?_take_of_lt flatten_cons)
section
namespace Go.Ax
open Go Go.Proofs
section
section
variable {E:Env}
theorem reg0 {n:Nat} {fr:Fr} {Z:Sg} {Q:X -> Fr -> Sg -> Prop} (hn:fr.n = 119) (q:∀ fr':Fr,fr'.n = 119 -> (∀ t,t < 4 -> fr'.get t = fr.get t) -> Q .normal fr' Z):eF E (n + 1) (bk [0]) fr Z Q:=by
 simp only [bk,AO,aA,Tryz.f148,Option.getD_some]
 simp only [cR,cG,dJ,bW,aP,ofValue,bC,if_true,eG,bJ,kC,comp,Option.map_some]
 refine q _ ?_ ?_
 ·simp only [Fr.aV,hn]
 ·exact fun t ht=>by simp only [Fr.aD]; repeat (rw [if_neg (by omega)])
theorem reg1 (h196:E.ty 203 = some { kd:=.map 9 3,size:=1,bytes:=8,zero:=.bS }) (h111:E.ty 96 = some { kd:=.map 9 28,size:=1,bytes:=8,zero:=.bS }) (h44:E.ty 28 = some { kd:=.sl 9,size:=1,bytes:=24,zero:=.aC })
  (h9:E.ty 9 = some { kd:=.str,size:=1,bytes:=16,zero:=.str [] }) (h3:E.ty 3 = some { kd:=.int .i64,size:=1,bytes:=8,zero:=.int .i64 0 }) (h4:E.ty 4 = some { kd:=.bool,size:=1,bytes:=1,zero:=.bool false })
  {n:Nat} {fr:Fr} {f:List Nat} {Q:X -> Fr -> Sg -> Prop} (hn:fr.n = 119) (g1:fr.get 1 = some (.str f)) (q:∀ fr':Fr,fr'.n = 119 -> fr'.get 5 = some (.ref 1 0) -> (∀ t,t < 4 -> fr'.get t = fr.get t) -> Q .normal fr' [.map [(.str f,.int .i64 ((0:Nat):Int))],.cells 203 [.mp 0] true]):eF E (n + 1) (bk [1,0]) fr [] Q:=by
 have hm:jI iE (.str f) (.int .i64 0) [] = some [(.str f,.int .i64 ((0:Nat):Int))]:=rfl
 simp only [bk,AO,aA,Tryz.f148,Option.getD_some]
 simp only [cR,cG,dJ,bW,aP,ofValue,bC,if_true,eG,bJ,kC,comp,aO,dH,jE,qW,lF,oJ,Option.map_some,Fr.aD,Fr.aV,hn,getElem?_cons_zero,List.getElem?_cons_succ,reduceEqDiff,reduceLT,and_true,if_false,h196,h9,storeAt,dM,bV h9,mapUpdate,eR,V.aW,Bool.not_true,Bool.or_self,Bool.false_eq_true,Bool.and_self,BEq.rfl,decide_true,length_cons,length_nil,V.cells,setCells,List.take_zero,List.nil_append,List.drop_succ_cons,List.append_nil,List.set_cons_zero,List.set_cons_succ,Nat.zero_add,List.all_cons,List.all_nil,Nat.le_refl,drop_nil,g1,hm,List.cons_append]
 refine q _ ?_ ?_ ?_
 ·simp only [Fr.aV,hn]
 ·simp only [Fr.aD,Fr.aV,hn,reduceEqDiff,reduceLT,and_true,if_true,if_false]
 ·exact fun t ht=>by simp only [Fr.aD]; repeat (rw [if_neg (by omega)])
theorem reg2 {n:Nat} {fr:Fr} {Z:Sg} {Q:X -> Fr -> Sg -> Prop} (hn:fr.n = 119) (q:∀ fr':Fr,fr'.n = 119 -> fr'.get 6 = some (.bool true) -> (∀ t,t < 6 -> fr'.get t = fr.get t) -> Q .normal fr' Z):eF E (n + 1) (bk [1,1,0,0]) fr Z Q:=by
 simp only [bk,AO,aA,Tryz.f148,Option.getD_some]
 simp only [cR,cG,dJ,bW,aP,ofValue,bC,if_true,eG,bJ,kC,comp,Option.map_some]
 refine q _ ?_ ?_ ?_
 ·simp only [Fr.aV,hn]
 ·simp only [Fr.aD,hn,reduceLT,and_true,if_true]
 ·exact fun t ht=>by simp only [Fr.aD]; repeat (rw [if_neg (by omega)])
theorem Us (h196:E.ty 203 = some { kd:=.map 9 3,size:=1,bytes:=8,zero:=.bS }) (h111:E.ty 96 = some { kd:=.map 9 28,size:=1,bytes:=8,zero:=.bS }) (h44:E.ty 28 = some { kd:=.sl 9,size:=1,bytes:=24,zero:=.aC })
  (h9:E.ty 9 = some { kd:=.str,size:=1,bytes:=16,zero:=.str [] }) (h3:E.ty 3 = some { kd:=.int .i64,size:=1,bytes:=8,zero:=.int .i64 0 }) (h4:E.ty 4 = some { kd:=.bool,size:=1,bytes:=1,zero:=.bool false })
  {n:Nat} {fr:Fr} {Z:Sg} {Q:X -> Fr -> Sg -> Prop} (hn:fr.n = 119) (q:∀ fr':Fr,fr'.n = 119 -> fr'.get 15 = some (.ref Z.length 0) -> (∀ t,t < 15 -> fr'.get t = fr.get t) -> Q .normal fr' (Z ++ [.cells 3 [.int .i64 (rL none)] true])):eF E (n + 1) (bk [1,1,1,0]) fr Z Q:=by
 have h1:(Z ++ [O.cells 3 [.int .i64 0] true])[Z.length]? = some (.cells 3 [.int .i64 0] true):=by simp
 have h2:∀ x,(Z ++ [O.cells 3 [.int .i64 0] true]).set Z.length x = Z ++ [x]:=fun x=>by simp
 simp only [bk,AO,aA,Tryz.f148,Option.getD_some]
 simp only [cR,cG,dJ,bW,aP,ofValue,bC,if_true,eG,bJ,kC,comp,Option.map_some,hn,qW,h3,V.cells,jE,Fr.aD,reduceLT,and_true,if_true,storeAt,h1,h2,length_cons,length_nil,BEq.rfl,List.all_cons,List.all_nil,V.aW,Bool.and_true,Nat.zero_add,Nat.le_refl,decide_true,setCells,List.take_zero,List.nil_append,List.drop_succ_cons,drop_nil,List.append_nil]
 refine q _ ?_ ?_ ?_
 ·simp only [Fr.aV,hn]
 ·simp only [Fr.aD,hn,reduceLT,and_true,if_true]
 ·exact fun t ht=>by simp only [Fr.aD]; repeat (rw [if_neg (by omega)])
theorem Ur (h196:E.ty 203 = some { kd:=.map 9 3,size:=1,bytes:=8,zero:=.bS }) (h111:E.ty 96 = some { kd:=.map 9 28,size:=1,bytes:=8,zero:=.bS }) (h44:E.ty 28 = some { kd:=.sl 9,size:=1,bytes:=24,zero:=.aC })
  (h9:E.ty 9 = some { kd:=.str,size:=1,bytes:=16,zero:=.str [] }) (h3:E.ty 3 = some { kd:=.int .i64,size:=1,bytes:=8,zero:=.int .i64 0 }) (h4:E.ty 4 = some { kd:=.bool,size:=1,bytes:=1,zero:=.bool false })
  {n:Nat} {fr:Fr} {Z:Sg} {g:Bool} {es:List (V × V)} (hbk:fC es) {f:List Nat} {Q:X -> Fr -> Sg -> Prop} (hn:fr.n = 119) (g0:fr.get 0 = some (.imp g es)) (g1:fr.get 1 = some (.str f))
  (q:∀ fr':Fr,fr'.n = 119 -> fr'.get 70 = some (valOf es f) -> fr'.get 71 = some (.int .i64 ((bA es f).length:Int)) -> fr'.get 72 = some (.int .i64 ((0:Nat):Int)) -> (∀ t,t < 17 -> fr'.get t = fr.get t) -> Q .normal fr' Z):eF E (n + 1) (bk [1,1,1,1,0,0]) fr Z Q:=by
 obtain ⟨r,hr1,hr2⟩:=xI (x:=f) hbk
 have hln:lenOf E Z 28 (valOf es f) = some (bA es f).length:=by
  rcases sG (x:=f) hbk with ⟨h1,h2⟩ | ⟨g,full,h1⟩
  ·rw [h1,h2]; simp only [lenOf,h44,length_nil]
  ·rw [h1]; simp only [lenOf,h44,length_map]
 simp only [bk,AO,aA,Tryz.f148,Option.getD_some]
 cases r with
 | none=>
  simp only [Option.getD_none] at hr2
  rw [<- hr2] at hln
  simp only [cR,cG,dJ,bW,aP,eK,ofValue,bC,if_true,eG,bJ,kC,comp,aO,dK,eA,builtin,Option.map_some,Fr.aD,Fr.aV,hn,getElem?_cons_zero,List.getElem?_toArray,reduceEqDiff,reduceLT,and_true,if_false,h111,h44,h9,lookup,dM,entriesOf,bV h9,Bool.not_true,Bool.false_eq_true,Option.isSome_some,V.cells,setCells,g0,g1,hr1,hln]
  refine q _ ?_ ?_ ?_ ?_ ?_
  ·simp only [Fr.aV,hn]
  ·simp only [Fr.aD,Fr.aV,hn,reduceEqDiff,reduceLT,and_true,if_true,if_false,hr2]
  ·simp only [Fr.aD,Fr.aV,hn,reduceEqDiff,reduceLT,and_true,if_true,if_false]
  ·simp only [Fr.aD,Fr.aV,hn,reduceEqDiff,reduceLT,and_true,if_true,if_false]; rfl
  ·exact fun t ht=>by simp only [Fr.aD]; repeat (rw [if_neg (by omega)])
 | some v=>
  simp only [Option.getD_some] at hr2
  rw [<- hr2] at hln
  simp only [cR,cG,dJ,bW,aP,eK,ofValue,bC,if_true,eG,bJ,kC,comp,aO,dK,eA,builtin,Option.map_some,Fr.aD,Fr.aV,hn,getElem?_cons_zero,List.getElem?_toArray,reduceEqDiff,reduceLT,and_true,if_false,h111,h44,h9,lookup,dM,entriesOf,bV h9,Bool.not_true,Bool.false_eq_true,Option.isSome_some,V.cells,setCells,g0,g1,hr1,hln]
  refine q _ ?_ ?_ ?_ ?_ ?_
  ·simp only [Fr.aV,hn]
  ·simp only [Fr.aD,Fr.aV,hn,reduceEqDiff,reduceLT,and_true,if_true,if_false,hr2]
  ·simp only [Fr.aD,Fr.aV,hn,reduceEqDiff,reduceLT,and_true,if_true,if_false]
  ·simp only [Fr.aD,Fr.aV,hn,reduceEqDiff,reduceLT,and_true,if_true,if_false]; rfl
  ·exact fun t ht=>by simp only [Fr.aD]; repeat (rw [if_neg (by omega)])
theorem Uq (h196:E.ty 203 = some { kd:=.map 9 3,size:=1,bytes:=8,zero:=.bS }) (h111:E.ty 96 = some { kd:=.map 9 28,size:=1,bytes:=8,zero:=.bS }) (h44:E.ty 28 = some { kd:=.sl 9,size:=1,bytes:=24,zero:=.aC })
  (h9:E.ty 9 = some { kd:=.str,size:=1,bytes:=16,zero:=.str [] }) (h3:E.ty 3 = some { kd:=.int .i64,size:=1,bytes:=8,zero:=.int .i64 0 }) (h4:E.ty 4 = some { kd:=.bool,size:=1,bytes:=1,zero:=.bool false })
  {n:Nat} {fr:Fr} {Z:Sg} {B:Nat} {acc:Option Nat} (sB:Z[B]? = some (.cells 3 [.int .i64 (rL acc)] true)) {Q:X -> Fr -> Sg -> Prop} (hn:fr.n = 119) (g15:fr.get 15 = some (.ref B 0))
  (q0:acc = none -> ∀ fr':Fr,fr'.get 4 = some .aC -> Q .ret fr' Z) (q1:∀ b,acc = some b -> ∀ fr':Fr,fr'.n = 119 -> (∀ t,t < 94 -> fr'.get t = fr.get t) -> Q .normal fr' Z):eF E (n + 5) (bk [1,1,1,1,1,0]) fr Z Q:=by
 simp only [bk,AO,aA,Tryz.f148,Option.getD_some]
 cases acc with
 | none=>
  have hc:decide (rL none < 0) = true:=by decide
  simp only [eO,D5,cJ,eP,cR,cG,dJ,bW,aP,ofValue,bC,if_true,eG,bJ,kC,comp,gO,eI,Option.map_some,Fr.aD,Fr.aV,hn,getElem?_cons_zero,reduceEqDiff,reduceLT,and_true,if_false,h3,loadAt,isAgg,bin,arith,Bool.false_eq_true,iJ,g15,sB,hc]
  refine q0 rfl _ ?_
  simp only [Fr.aD,Fr.aV,hn,reduceEqDiff,reduceLT,and_true,if_true,if_false]
 | some b=>
  have hc:decide (rL (some b) < 0) = false:=decide_eq_false (by simp only [rL]; omega)
  simp only [eO,D5,cJ,eP,cR,cG,dJ,bW,aP,ofValue,bC,if_true,eG,bJ,kC,comp,gO,eI,Option.map_some,Fr.aD,Fr.aV,hn,getElem?_cons_zero,reduceEqDiff,reduceLT,and_true,if_false,h3,loadAt,isAgg,bin,arith,Bool.false_eq_true,iJ,g15,sB,hc]
  refine q1 b rfl _ ?_ ?_
  ·simp only [Fr.aV,hn]
  ·exact fun t ht=>by simp only [Fr.aD]; repeat (rw [if_neg (by omega)])
theorem Uo (h196:E.ty 203 = some { kd:=.map 9 3,size:=1,bytes:=8,zero:=.bS }) (h111:E.ty 96 = some { kd:=.map 9 28,size:=1,bytes:=8,zero:=.bS }) (h44:E.ty 28 = some { kd:=.sl 9,size:=1,bytes:=24,zero:=.aC })
  (h9:E.ty 9 = some { kd:=.str,size:=1,bytes:=16,zero:=.str [] }) (h3:E.ty 3 = some { kd:=.int .i64,size:=1,bytes:=8,zero:=.int .i64 0 }) (h4:E.ty 4 = some { kd:=.bool,size:=1,bytes:=1,zero:=.bool false })
  {n:Nat} {fr:Fr} {Z:Sg} {f:List Nat} {Q:X -> Fr -> Sg -> Prop} (hn:fr.n = 119) (g1:fr.get 1 = some (.str f)) (q:∀ fr':Fr,fr'.n = 119 -> fr'.get 20 = some (.sl Z.length 0 1 none) -> (∀ t,t < 20 -> fr'.get t = fr.get t) -> Q .normal fr' (Z ++ [.cells 9 [.str f] true])):eF E (n + 1) (bk [1,1,1,1,1,1,0]) fr Z Q:=by
 have hl:=Jh h196 h111 h44 h9 h3 h4 (fr:=fr.put 96 (.str f)) (Z:=Z) (x:=96) (s:=f) (by simp only [aP,Fr.aD,hn,reduceLT,and_true,if_true])
 simp only [bk,AO,aA,Tryz.f148,Option.getD_some]
 simp only [cR,cG,dJ,bW,aP,if_true,eG,bJ,kC,comp,Fz.lits,Option.map_some,Fr.aD,Fr.aV,hn,reduceEqDiff,reduceLT,and_true,if_false,Bool.false_eq_true,g1,hl]
 refine q _ ?_ ?_ ?_
 ·simp only [Fr.aV,hn]
 ·simp only [Fr.aD,Fr.aV,hn,reduceEqDiff,reduceLT,and_true,if_true,if_false]
 ·exact fun t ht=>by simp only [Fr.aD]; repeat (rw [if_neg (by omega)])
theorem Un {n:Nat} {fr:Fr} {Z:Sg} {f:List Nat} {Q:X -> Fr -> Sg -> Prop} (hn:fr.n = 119) (g1:fr.get 1 = some (.str f)) (q:∀ fr':Fr,fr'.n = 119 -> fr'.get 21 = some (.str f) -> (∀ t,t < 21 -> fr'.get t = fr.get t) -> Q .normal fr' Z):eF E (n + 1) (bk [1,1,1,1,1,1,1,0,0]) fr Z Q:=by
 simp only [bk,AO,aA,Tryz.f148,Option.getD_some]
 simp only [cR,cG,dJ,bW,aP,if_true,eG,bJ,kC,comp,Option.map_some,hn,g1,Fr.aD,reduceLT,and_true]
 refine q _ ?_ ?_ ?_
 ·simp only [Fr.aV,hn]
 ·simp only [Fr.aD,Fr.aV,hn,reduceEqDiff,reduceLT,and_true,if_true,if_false]
 ·exact fun t ht=>by simp only [Fr.aD]; repeat (rw [if_neg (by omega)])
theorem Um {n:Nat} {fr:Fr} {Z:Sg} {v:V} {Q:X -> Fr -> Sg -> Prop} (hn:fr.n = 119) (g20:fr.get 20 = some v) (q:∀ fr':Fr,fr'.get 4 = some v -> Q .ret fr' Z):eF E (n + 3) (bk [1,1,1,1,1,1,1,1]) fr Z Q:=by
 simp only [bk,AO,aA,Tryz.f148,Option.getD_some]
 simp only [cJ,D5,cR,cG,dJ,bW,aP,if_true,eG,bJ,kC,comp,Option.map_some,hn,g20,Fr.aD,reduceLT,and_true]
 refine q _ ?_
 simp only [Fr.aD,Fr.aV,hn,reduceEqDiff,reduceLT,and_true,if_true,if_false]
theorem Ke (h196:E.ty 203 = some { kd:=.map 9 3,size:=1,bytes:=8,zero:=.bS }) (h111:E.ty 96 = some { kd:=.map 9 28,size:=1,bytes:=8,zero:=.bS }) (h44:E.ty 28 = some { kd:=.sl 9,size:=1,bytes:=24,zero:=.aC })
  (h9:E.ty 9 = some { kd:=.str,size:=1,bytes:=16,zero:=.str [] }) (h3:E.ty 3 = some { kd:=.int .i64,size:=1,bytes:=8,zero:=.int .i64 0 }) (h4:E.ty 4 = some { kd:=.bool,size:=1,bytes:=1,zero:=.bool false }) (f1:E.hspec 65 = none) (f2:E.spec 65 = none) (f3:E.fn 65 = some (aA Tryz.f65)) (f4:E.mode 65 = .eT) (f5:E.hspec 179 = none) (f6:E.spec 179 = none) (f7:E.fn 179 = some (aA Tryz.f179)) (f8:E.mode 179 = .shared)
  {es:List (V × V)} {f:List Nat} {g:Bool} (hbk:fC es) (hnd:(es.map ks).Nodup) {fe:List (V × V)} (hok:lZ fe) (hfar:∀ x,bO fe x = rY es f x) {B:Nat} (hB:2 <= B) {K:Nat} (hK:K <= 4000000000000000000) (hl:∀ x,(bA es x).length <= K) (N:Nat) :
  ∀ (b:Nat) (at_:List Nat) (cs:List V) (ex:Bool) (C:Nat) (fr:Fr) (Z:Sg),b <= 1000000 -> (b = 0 \/ ∃ nx ∈ bA es at_,rY es f nx = some b) -> cs.length + b <= 2000000 -> fr.n = 119 -> fr.get 0 = some (.imp g es) -> fr.get 5 = some (.ref 1 0) -> fr.get 15 = some (.ref B 0) -> fr.get 20 = some (.sl C 0 cs.length none) -> fr.get 21 = some (.str at_) ->
   Z[0]? = some (.map fe) -> Z[1]? = some (.cells 203 [.mp 0] true) -> Z[B]? = some (.cells 3 [.int .i64 (b:Int)] true) -> Z[C]? = some (.cells 9 cs ex) -> B ≠ C -> 2 <= C ->
   eF E (N + K + b + 71) (.loop (bk [1,1,1,1,1,1,1,0,1,2,2])) fr Z fun x fr' σ'=>x = .exit 8 /\ fr'.n = 119 /\ ∃ C',fr'.get 20 = some (.sl C' 0 (cs ++ (sF es (dI es es.length [f]) at_ b).map V.str).length none) /\ σ'[C']? = some (.cells 9 (cs ++ (sF es (dI es es.length [f]) at_ b).map V.str) (ex && Nat.beq b 0)):=by
 intro b
 induction b with
 | zero=>
  intro at_ cs ex C fr Z hb hex hln hn g0 g5 g15 g20 g21 s0 s1 sB sC hBC hC
  show eF E ((N + K + 70) + 1) _ _ _ _
  rw [mM]
  refine BC h196 h111 h44 h9 h3 h4 f1 f2 f3 f4 f5 f6 f7 f8 hbk hok hn g0 g5 g15 g20 g21 s0 s1 sB sC hBC hB hC (by omega) hb hK (hl at_) N (fun _ fr' k1 k2=>?_) (fun h=>absurd h (Nat.lt_irrefl _))
  refine ⟨rfl,k1,C,?_,?_⟩
  ·rw [k2 20 (by omega)]
   simpa [sF] using g20
  ·simpa [sF] using sC
 | succ b ih=>
  intro at_ cs ex C fr Z hb hex hln hn g0 g5 g15 g20 g21 s0 s1 sB sC hBC hC
  have hf0:N + K + (b + 1) + 71 = ((N + b + 1) + K + 70) + 1:=by omega
  rw [hf0,mM]
  refine BC h196 h111 h44 h9 h3 h4 f1 f2 f3 f4 f5 f6 f7 f8 hbk hok hn g0 g5 g15 g20 g21 s0 s1 sB sC hBC hB hC (by omega) hb hK (hl at_) (N + b + 1) (fun h=>by omega) (fun _=>?_)
  have hex':∃ nx ∈ bA es at_,fI nx (dI es es.length [f]) = some (b + 1):=hex.resolve_left (by omega)
  obtain ⟨idx,a,h1,h2,h3',h4'⟩:=zU _ _ _ hex'
  refine ⟨idx,a,h1,by rw [hfar]; exact h3',fun j x hj hx=>by rw [hfar]; exact h4' j x hj hx,?_⟩
  intro fr' σ' C' k1 k2 k3 k4 t0 t1 tB tC hBC' hC'
  have hway:sF es (dI es es.length [f]) at_ (b + 1) = a :: sF es (dI es es.length [f]) a b:=by simp only [sF,h2]
  have hex2:b = 0 \/ ∃ nx ∈ bA es a,rY es f nx = some b:=.inr (KU hbk hnd h3')
  have:=ih a (cs ++ [.str a]) false C' fr' σ' (by omega) hex2 (by simp; omega) k1 (by rw [k2 0 (by omega)]; exact g0) (by rw [k2 5 (by omega)]; exact g5) (by rw [k2 15 (by omega)]; exact g15) k3 k4 t0 t1 (by simpa using tB) tC hBC' hC'
  rw [show (N + b + 1) + K + 70 = N + K + b + 71 by omega]
  refine d_ _ this ?_
  rintro x fr2 σ2 ⟨rfl,b1,C2,b2,b3⟩
  refine ⟨rfl,b1,C2,?_,?_⟩
  ·rw [hway]; simpa using b2
  ·rw [hway]
   have e:(ex && Nat.beq (b + 1) 0) = false:=by cases ex <;> rfl
   rw [e]
   simpa using b3
theorem nU:∀ (cs:List V),rows 1 cs.length cs = cs.map fun c=>[c]
 | []=>rfl
 | c :: cs=>by simp [rows,nU cs]
theorem jM (h196:E.ty 203 = some { kd:=.map 9 3,size:=1,bytes:=8,zero:=.bS }) (h111:E.ty 96 = some { kd:=.map 9 28,size:=1,bytes:=8,zero:=.bS }) (h44:E.ty 28 = some { kd:=.sl 9,size:=1,bytes:=24,zero:=.aC })
  (h9:E.ty 9 = some { kd:=.str,size:=1,bytes:=16,zero:=.str [] }) (h3:E.ty 3 = some { kd:=.int .i64,size:=1,bytes:=8,zero:=.int .i64 0 }) (h4:E.ty 4 = some { kd:=.bool,size:=1,bytes:=1,zero:=.bool false })
  {Z:Sg} {C:Nat} {l:List (List Nat)} {ex:Bool} (hC:Z[C]? = some (.cells 9 (l.map V.str) ex)):cT Z E.ty false (.sl C 0 (l.map V.str).length none) = some (.bQ false (l.map fun s=>[V.str s]) ex):=by
 have hs:bN Z E.ty false 12 (.sl C 0 (l.map V.str).length none) = some (.bQ false (l.map fun s=>[V.str s]) ex):=by
  rw [bN]
  simp only [hC,h9,Nat.zero_add,Nat.mul_one,Nat.le_refl,if_true,List.drop_zero,List.take_length]
  rw [xB]
  rotate_left
  ·intro x hx
   obtain ⟨s,_,rfl⟩:=mem_map.1 hx
   simp [bN,cH]
  simp only [nU,map_map,Nat.lt_add_one,decide_true,Bool.and_true,BEq.rfl]
  rfl
 simp only [cT,aZ,aZ.one,c_,hs,cH,Bool.not_false,Bool.or_true,if_true]
theorem GF (h196:E.ty 203 = some { kd:=.map 9 3,size:=1,bytes:=8,zero:=.bS }) (h111:E.ty 96 = some { kd:=.map 9 28,size:=1,bytes:=8,zero:=.bS }) (h44:E.ty 28 = some { kd:=.sl 9,size:=1,bytes:=24,zero:=.aC })
  (h9:E.ty 9 = some { kd:=.str,size:=1,bytes:=16,zero:=.str [] }) (h3:E.ty 3 = some { kd:=.int .i64,size:=1,bytes:=8,zero:=.int .i64 0 }) (h4:E.ty 4 = some { kd:=.bool,size:=1,bytes:=1,zero:=.bool false }) (f1:E.hspec 65 = none) (f2:E.spec 65 = none) (f3:E.fn 65 = some (aA Tryz.f65)) (f4:E.mode 65 = .eT) (f5:E.hspec 179 = none) (f6:E.spec 179 = none) (f7:E.fn 179 = some (aA Tryz.f179)) (f8:E.mode 179 = .shared)
  {es:List (V × V)} {f:List Nat} {g:Bool} (hbk:fC es) (hnd:(es.map ks).Nodup) (hes:es.length <= 1000000) {K:Nat} (hK:K <= 1000000) (hKl:∀ e ∈ es,(iA e.2).length <= K):∃ n,A2 E n (aA Tryz.f148) [.imp g es,.str f] [] fun v Z=>cT Z E.ty false v = some (mY es f):=by
 have hnl:∀ x,(bA es x).length <= K:=by
  intro x
  clear hnd hes
  induction es with
  | nil=>simp [bA]
  | cons e es ih=>
   obtain ⟨⟨q,hq⟩,_⟩:=hbk e (mem_cons_self ..)
   obtain ⟨k',v'⟩:=e
   simp only at hq
   subst hq
   simp only [bA]
   cases seq q x with
   | true=>exact hKl _ (mem_cons_self ..)
   | false=>exact ih hbk.tail fun e he=>hKl e (List.mem_cons_of_mem _ he)
 obtain ⟨fr0,hf0,hn0,hg0⟩:=Fr.BZ (n:=(aA Tryz.f148).ntmps) (vs:=[.imp g es,.str f]) (show 2 <= 119 by decide)
 have hn0:fr0.n = 119:=hn0
 have i0:=hg0 0 _ rfl
 have i1:=hg0 1 _ rfl
 have e1:(aA Tryz.f148).code = .seq (bk [0]) (.seq (bk [1,0]) (.seq (.seq (bk [1,1,0,0]) (.block 0 (.loop (bk [1,1,0,1,2,2])))) (.seq (bk [1,1,1,0]) (.seq (.seq (bk [1,1,1,1,0,0]) (.block 6 (.loop (bk [1,1,1,1,0,1,2,2])))) (.seq (bk [1,1,1,1,1,0]) (.seq (bk [1,1,1,1,1,1,0]) (.seq (.seq (bk [1,1,1,1,1,1,1,0,0]) (.block 8 (.loop (bk [1,1,1,1,1,1,1,0,1,2,2])))) (bk [1,1,1,1,1,1,1,1])))))))):=rfl
 have hF0:EY es f [(.str f,.int .i64 ((0:Nat):Int))]:=by
  have hfar:∀ x,bO [(.str f,.int .i64 ((0:Nat):Int))] x = if x = f then some 0 else none:=by
   intro x
   simp only [bO]
   cases h:seq f x with
   | true=>rw [kI] at h; simp [h]
   | false=>rw [jO] at h; simp [h.symm]
  refine ⟨fun e he=>?_,by rw [hfar,if_pos rfl],fun x k hx=>?_,fun x k hx=>?_,by simp,fun k hk=>?_⟩
  ·simp only [List.mem_singleton] at he
   exact ⟨f,0,he⟩
  ·rw [hfar] at hx
   split at hx
   ·rename_i e; injection hx with hx; subst hx e; exact .zero
   ·cases hx
  ·rw [hfar] at hx
   split at hx
   ·injection hx with hx; subst hx; simp
   ·cases hx
  ·simp only [map_cons,List.map_nil,List.mem_singleton] at hk
   subst hk
   exact mem_cons_self ..
 obtain ⟨m,hm⟩:∃ m,Kb es f [(.str f,.int .i64 ((0:Nat):Int))] < m:=⟨_,Nat.lt_succ_self _⟩
 obtain ⟨S,hS⟩:∃ S,S = K + es.length + m + 200:=⟨_,rfl⟩
 refine ⟨S + 30,fr0,hf0,?_⟩
 rw [e1]
 show eF E ((S + 29) + 1) _ _ _ _
 rw [cJ]
 refine reg0 (n:=S + 28) hn0 (fun fr1 a1 a2=>?_)
 show eF E ((S + 28) + 1) _ _ _ _
 rw [cJ]
 refine reg1 h196 h111 h44 h9 h3 h4 (n:=S + 27) a1 (by rw [a2 1 (by omega)]; exact i1) (fun fr2 b1 b2 b3=>?_)
 show eF E ((S + 27) + 1) _ _ _ _
 rw [cJ]
 show eF E ((S + 26) + 1) _ _ _ _
 rw [cJ]
 refine reg2 (n:=S + 25) b1 (fun fr3 c1 c2 c3=>?_)
 show eF E ((S + 25) + 1) _ _ _ _
 rw [cN]
 obtain ⟨N1,hN1⟩:∃ N1,S + 25 = N1 + K + es.length + m + 90:=⟨135,by omega⟩
 rw [hN1]
 refine d_ _ (HB h196 h111 h44 h9 h3 h4 hes hbk hnd (by omega:K <= 4000000000000000000) hKl N1 m [] fr3 _ true (fun _=>hm) (fun h=>by cases h) hF0 c1 (by rw [c3 0 (by omega),b3 0 (by omega),a2 0 (by omega)]; exact i0) c2 (by rw [c3 5 (by omega)]; exact b2)) ?_
 rintro x fr4 σ4 ⟨rfl,fe,its,hF,hC,rfl,d1,d2⟩
 simp only [if_true]
 have hdist:∀ x,bO fe x = rY es f x:=fun x=>(hF.dist hbk hnd (fun y nx hy=>by
  obtain ⟨v,h1,h2⟩:=wY hbk hy
  exact hC _ h1 y rfl nx h2) x).symm
 show eF E ((S + 26) + 1) _ _ _ _
 rw [cJ]
 have j0:fr4.get 0 = some (.imp g es):=by rw [d2 0 (by omega),c3 0 (by omega),b3 0 (by omega),a2 0 (by omega)]; exact i0
 have j1:fr4.get 1 = some (.str f):=by rw [d2 1 (by omega),c3 1 (by omega),b3 1 (by omega),a2 1 (by omega)]; exact i1
 have j5:fr4.get 5 = some (.ref 1 0):=by rw [d2 5 (by omega),c3 5 (by omega)]; exact b2
 refine Us h196 h111 h44 h9 h3 h4 (n:=S + 25) d1 (fun fr5 p1 p2 p3=>?_)
 show eF E ((S + 25) + 1) _ _ _ _
 rw [cJ]
 show eF E ((S + 24) + 1) _ _ _ _
 rw [cJ]
 refine Ur h196 h111 h44 h9 h3 h4 (n:=S + 23) hbk p1 (by rw [p3 0 (by omega)]; exact j0) (by rw [p3 1 (by omega)]; exact j1) (fun fr6 q1 q2 q3 q4 q5=>?_)
 show eF E ((S + 23) + 1) _ _ _ _
 rw [cN]
 have hnlf:=hnl f
 obtain ⟨N2,hN2⟩:∃ N2,S + 23 = N2 + (bA es f).length + 21:=⟨S + 2 - (bA es f).length,by omega⟩
 rw [hN2]
 refine d_ _ (K6 h196 h111 h44 h9 h3 h4 (sG (x:=f) hbk) (B:=its.length + 2) (by omega) hF.ok (by omega) N2 (bA es f).length 0 fr6 _ none (by omega) rfl q1 q2 q3 q4 (by rw [q5 5 (by omega),p3 5 (by omega)]; exact j5) (by rw [q5 15 (by omega)]; exact p2) rfl rfl (by simp)) ?_
 rintro x fr7 σ7 ⟨rfl,r1,r2,s0,s1,sB⟩
 simp only [if_true]
 show eF E ((S + 24) + 1) _ _ _ _
 rw [cJ]
 have hbest:(bA es f).foldl (eC (bO fe)) none = iC (dI es es.length [f]) (bA es f):=by
  have:=DL (dI es es.length [f]) (bA es f) none
  rw [show (bO fe) = fun x=>fI x (dI es es.length [f]) from funext hdist,this]
  rfl
 rw [hbest] at sB
 have k0:fr7.get 0 = some (.imp g es):=by rw [r2 0 (by omega),q5 0 (by omega),p3 0 (by omega)]; exact j0
 have k1:fr7.get 1 = some (.str f):=by rw [r2 1 (by omega),q5 1 (by omega),p3 1 (by omega)]; exact j1
 have k5:fr7.get 5 = some (.ref 1 0):=by rw [r2 5 (by omega),q5 5 (by omega),p3 5 (by omega)]; exact j5
 have k15:fr7.get 15 = some (.ref (its.length + 2) 0):=by rw [r2 15 (by omega),q5 15 (by omega)]; exact p2
 show eF E ((S + 19) + 5) _ _ _ _
 refine Uq h196 h111 h44 h9 h3 h4 sB r1 k15 (fun hnone fr8 h8=>?_) (fun b hsome fr8 u1 u2=>?_)
 ·refine ⟨.inr rfl,[.aC],by simp only [aA,Tryz.f148,results,h8],?_⟩
  simp only [mY,hnone]
  simp [cT,aZ,aZ.one,c_,bN,cH]
 ·show eF E ((S + 23) + 1) _ _ _ _
  rw [cJ]
  refine Uo h196 h111 h44 h9 h3 h4 (n:=S + 22) u1 (by rw [u2 1 (by omega)]; exact k1) (fun fr9 v1 v2 v3=>?_)
  show eF E ((S + 22) + 1) _ _ _ _
  rw [cJ]
  show eF E ((S + 21) + 1) _ _ _ _
  rw [cJ]
  refine Un (n:=S + 20) v1 (by rw [v3 1 (by omega),u2 1 (by omega)]; exact k1) (fun fra w1 w2 w3=>?_)
  show eF E ((S + 20) + 1) _ _ _ _
  rw [cN]
  rw [hsome] at sB
  obtain ⟨nb,nb1,nb2⟩:=xU _ _ _ hsome
  have hbl:b <= es.length:=((kO hbk hnd).1 (show rY es f nb = some b from nb2)).1
  obtain ⟨N3,hN3⟩:∃ N3,S + 20 = N3 + K + b + 71:=⟨S + 20 - K - b - 71,by omega⟩
  rw [hN3]
  have hBl:=(List.getElem?_eq_some_iff.1 sB).1
  have left:∀ j o,σ7[j]? = some o -> (σ7 ++ [O.cells 9 [.str f] true])[j]? = some o:=fun j o ho=>by
   rw [List.getElem?_append_left (List.getElem?_eq_some_iff.1 ho).1]; exact ho
  refine d_ _ (Ke h196 h111 h44 h9 h3 h4 f1 f2 f3 f4 f5 f6 f7 f8 hbk hnd hF.ok hdist (B:=its.length + 2) (by omega) (by omega:K <= 4000000000000000000) hnl N3 b f [.str f] true σ7.length fra _ (by omega) (.inr ⟨nb,nb1,nb2⟩) (by simp; omega) w1 (by rw [w3 0 (by omega),v3 0 (by omega),u2 0 (by omega)]; exact k0) (by rw [w3 5 (by omega),v3 5 (by omega),u2 5 (by omega)]; exact k5) (by rw [w3 15 (by omega),v3 15 (by omega),u2 15 (by omega)]; exact k15) (by rw [w3 20 (by omega)]; exact v2) w2 (left _ _ s0) (left _ _ s1) (left _ _ sB) (by simp) (by omega) (by omega)) ?_
  rintro x frb σb ⟨rfl,y1,C',y2,y3⟩
  simp only [if_true]
  show eF E ((S + 19) + 3) _ _ _ _
  refine Um y1 y2 (fun frc z1=>?_)
  have e2:[V.str f] ++ (sF es (dI es es.length [f]) f b).map V.str = (f :: sF es (dI es es.length [f]) f b).map V.str:=rfl
  rw [e2] at y3 z1
  refine ⟨.inr rfl,[_],by simp only [aA,Tryz.f148,results,z1]; rfl,?_⟩
  have:=jM h196 h111 h44 h9 h3 h4 y3
  simp only [mY,hsome]
  simpa using this
theorem Fc (he:cQ Tryz.prog E) (hfs:mU Tryz.prog E) (hmix:Tryz.prog.follows .mixedOrders = true) (hF:E.fn 148 = some (aA Tryz.f148)) (h196:E.ty 203 = some { kd:=.map 9 3,size:=1,bytes:=8,zero:=.bS }) (h111:E.ty 96 = some { kd:=.map 9 28,size:=1,bytes:=8,zero:=.bS }) (h44:E.ty 28 = some { kd:=.sl 9,size:=1,bytes:=24,zero:=.aC })
  (h9:E.ty 9 = some { kd:=.str,size:=1,bytes:=16,zero:=.str [] }) (h3:E.ty 3 = some { kd:=.int .i64,size:=1,bytes:=8,zero:=.int .i64 0 }) (h4:E.ty 4 = some { kd:=.bool,size:=1,bytes:=1,zero:=.bool false }) (f1:E.hspec 65 = none) (f2:E.spec 65 = none) (f3:E.fn 65 = some (aA Tryz.f65)) (f4:E.mode 65 = .eT) (f5:E.hspec 179 = none) (f6:E.spec 179 = none) (f7:E.fn 179 = some (aA Tryz.f179)) (f8:E.mode 179 = .shared):fP Tryz.prog E 148 nS:=by
 refine Eb he hfs hmix hF ?_
 intro vs v h
 unfold nS at h
 split at h
 case h_2=>cases h
 rename_i g es f
 split at h
 case h_2=>cases h
 rename_i h1 h2 hlen
 injection h with h; subst h
 rw [Nat.ble_eq] at hlen
 have hbk:=kQ h1
 exact GF h196 h111 h44 h9 h3 h4 f1 f2 f3 f4 f5 f6 f7 f8 hbk (CN h2 fun e he=>(hbk e he).1) hlen (Nat.le_refl 1000000) (Cz h1)
end
end
end Go.Ax
end
section
namespace Go.Ax
open Go Go.RowKit
section
open Go.ChangeMaps (setBlock)
structure Rg (W:World) (b r:Nat) (left:List Value):Prop where
 ex:∃ (en:Array MapEntry) (cl:Nat) (seen:Array Nat),W.heap[r]? = some (.mapIter (some b) cl seen cl) /\ W.heap[b]? = some (.map en cl) /\ MapKept.Stamped en cl /\ left.Perm ((en.toList.filter fun e=>!seen.contains e.born).map (·.key))
theorem Rg.kept {W W':World} {b r:Nat} {left:List Value} (h:Rg W b r left) (hk:KeepsWalks W W'):Rg W' b r left:=by
 obtain ⟨en,cl,seen,h1,h2,h3,h4⟩:=h.ex
 exact ⟨en,cl,seen,hk.same r _ h1 rfl,hk.same b _ h2 rfl,h3,h4⟩
def Bx (W:World) (b r:Nat):Nat:=match W.heap[r]?,W.heap[b]? with
 | some (.mapIter _ _ seen _),some (.map en _)=>(en.toList.filter fun e=>!seen.contains e.born).length
 | _,_=>0
theorem Rg.left_eq {W:World} {b r:Nat} {left:List Value} (h:Rg W b r left):Bx W b r = left.length:=by
 obtain ⟨en,cl,seen,h1,h2,_,h4⟩:=h.ex
 have:=h4.length_eq
 simp only [Bx,h1,h2,this,length_map]
theorem Rg.walk {W:World} {b r:Nat} {left:List Value} (h:Rg W b r left):∃ o:Obj,W.heap[r]? = some o /\ o.isWalk = true:=by
 obtain ⟨en,cl,seen,h1,_⟩:=h.ex
 exact ⟨_,h1,rfl⟩
section
variable {F:Fence} {n:Nat} {P:Program} (w:World) {ops:Array Oper} {rest:List Oper} {o:Oper} {a:Act} {Q:Exit -> Act -> World -> Prop}
theorem kZ (hg:o.guard = none) (m:Operand) (t:TypeId) (hop:o.op = Op.range t m) (k e:TypeId) (ht:P.underlying t = some (.map k e)) (b:Nat) (en:Array MapEntry) (cl:Nat)
  (hm:a.eval m = .map (some b)) (hb:w.heap[b]? = some (.map en cl)) (hst:MapKept.Stamped en cl)
  (hK:∀ w',Rg w' b w.heap.size (en.toList.map (·.key)) -> w.grownBy w' none -> w'.heap.size = w.heap.size + 1 -> wpListIn F n P ops Q rest (a.put o.dst (.pointer (some ⟨w.heap.size,0,none⟩))) w') :
  wpListIn F n P ops Q (o :: rest) a w:=by
 refine wpListIn_plain hg fun K' hK'=>?_
 have hr:(Instr.range t (.map (some b))).run P w = .ok (.pointer (some ⟨w.heap.size,0,none⟩)) (w.alloc (.mapIter (some b) cl #[] cl)):=by
  simp only [Instr.range,Sem.run_bind,run_underlying ht,getObj,Sem.run,hb,Result.andThen]
  rfl
 have hblt:=(Array.getElem?_eq_some_iff.1 hb).1
 unfold Oper.wpIn
 refine ⟨?_,?_⟩
 ·simp [Oper.about,hop]
 ·rw [Oper.semAt_plain F _ _ (by rw [hop]; intro c hc'; cases hc')]
  simp only [execOp,hop,hm,hr,Result.andThen,Sem.run_bind,Sem.run_pure]
  refine hK' _ _ (hK _ ⟨en,cl,#[],World.alloc_heap_new w _,(Below.heap_alloc w _ b hblt).trans hb,hst,?_⟩ (World.grownBy_alloc w _ none) (by simp))
  rw [List.filter_eq_self.2 (fun e _=>by simp)]
theorem l_ (hg:o.guard = none) (it:Operand) (hop:o.op = Op.next it false) (b r:Nat) (left:List Value)
  (hit:a.eval it = .pointer (some ⟨r,0,none⟩)) (h:Rg w b r left)
  (hDone:left = [] -> wpListIn F n P ops Q rest (a.put o.dst (.tuple #[.bool false])) w)
  (hMore:∀ (x v:Value) (w':World) (left':List Value),(x :: left').Perm left -> Rg w' b r left' -> w.grownBy w' (some r) -> w'.heap.size = w.heap.size ->
   (Instr.entry (.pointer (some ⟨r,0,none⟩))).run P w' = .ok (.tuple #[x,v]) w' -> wpListIn F n P ops Q rest (a.put o.dst (.tuple #[.bool true,x,v])) w') :
  wpListIn F n P ops Q (o :: rest) a w:=by
 refine wpListIn_plain hg fun K' hK'=>?_
 unfold Oper.wpIn
 refine ⟨by simp [Oper.about,hop],?_⟩
 rw [Oper.semAt_plain F _ _ (by rw [hop]; intro c hc'; cases hc')]
 obtain ⟨en,cl,seen,h1,h2,h3,h4⟩:=h.ex
 rcases run_next_at (P:=P) w o.type r b cl cl seen en cl h1 h2 h3.1 (Nat.le_refl _) with ⟨e0,r2⟩ | ⟨q,r1,w1,r2,r3⟩
 ·simp only [execOp,hop,hit,r2,Result.andThen,Sem.run_bind,Sem.run_pure]
  refine hK' _ _ (hDone ?_)
  have:(en.toList.filter fun e=>!seen.contains e.born) = []:=by
   have:=Array.eq_empty_of_size_eq_zero e0
   simpa [leftOf] using congrArg Array.toList this
  rw [this] at h4
  exact List.perm_nil.1 h4
 ·simp only [execOp,hop,hit,r3,Result.andThen,Sem.run_bind,Sem.run_pure]
  have hw1:w1.heap = w.heap:=by rcases r2 with rfl | rfl <;> rfl
  have hrlt:=(Array.getElem?_eq_some_iff.1 h1).1
  have hne:b ≠ r:=by intro e; subst e; rw [h1] at h2; cases h2
  have hqen:q ∈ en.toList /\ (!seen.contains q.born) = true:=by
   simpa [leftOf] using r1
  have hr':(setBlock w1 r (.mapIter (some b) cl (seen.push q.born) cl)).heap[r]? = some (.mapIter (some b) cl (seen.push q.born) cl):=by
   show (w1.heap.setIfInBounds r _)[r]? = _
   rw [hw1]
   simp [hrlt]
  have hb':(setBlock w1 r (.mapIter (some b) cl (seen.push q.born) cl)).heap[b]? = some (.map en cl):=by
   show (w1.heap.setIfInBounds r _)[b]? = _
   rw [hw1,Array.getElem?_setIfInBounds_ne (Ne.symm hne)]
   exact h2
  have hf:(en.toList.filter fun e=>!(seen.push q.born).contains e.born) = (en.toList.filter fun e=>!seen.contains e.born).filter fun e=>!(e.born == q.born):=by
   rw [List.filter_filter]
   refine List.filter_congr fun e _=>?_
   simp only [Array.contains_push,Bool.not_or]
   rw [Bool.and_comm]
  obtain ⟨la,lz,hl⟩:=List.append_of_mem (List.mem_filter.2 hqen:q ∈ en.toList.filter fun e=>!seen.contains e.born)
  have hself:(la ++ q :: lz).filter (fun e:MapEntry=>!(e.born == q.born)) = la ++ lz:=by
   have hnd2:((la ++ q :: lz).map (·.born)).Nodup:=by rw [<- hl]; exact h3.2.1.sublist (List.filter_sublist.map _)
   rw [map_append,map_cons,List.nodup_append] at hnd2
   obtain ⟨n1,n2,n3⟩:=hnd2
   rw [List.nodup_cons] at n2
   rw [List.filter_append,List.filter_cons]
   have q0:(!(q.born == q.born)) = false:=by simp
   rw [q0,if_neg (by simp)]
   congr 1
   ·rw [List.filter_eq_self]
    intro e he
    have:e.born ≠ q.born:=fun h=>n3 _ (List.mem_map_of_mem he) _ (mem_cons_self ..) h
    simp [this]
   ·rw [List.filter_eq_self]
    intro e he
    have:e.born ≠ q.born:=fun h=>n2.1 (by rw [<- h]; exact List.mem_map_of_mem he)
    simp [this]
  refine hK' _ _ (hMore q.key q.val _ ((la ++ lz).map (·.key)) ?_ ⟨en,cl,seen.push q.born,hr',hb',h3,by rw [hf,hl,hself]⟩ ?_ ?_ (run_entry_at _ r b cl seen en cl q hr' hb' hqen.1 h3.2.1))
  ·refine List.Perm.trans ?_ h4.symm
   rw [hl]
   simp only [map_append,map_cons]
   exact List.perm_middle.symm
  ·refine ⟨?_,?_,?_,?_,fun k hk hne=>?_⟩
   ·rcases r2 with rfl | rfl <;> rfl
   ·rcases r2 with rfl | rfl <;> rfl
   ·rcases r2 with rfl | rfl <;> rfl
   ·show w.heap.size <= (w1.heap.setIfInBounds r _).size
    rw [hw1]; simp
   ·show (w1.heap.setIfInBounds r _)[k]? = _
    rw [hw1,Array.getElem?_setIfInBounds_ne]
    intro e; exact hne (by rw [e])
  ·show (w1.heap.setIfInBounds r _).size = _
   rw [hw1]; simp
end
end
end Go.Ax
end
section
namespace Go.AxC
open Go Go.Proofs Go.Ax Go.RowKit Go.Maps Go.Sort Go.Shelf
def pJ (x:Bool × ByteArray):Value:=.agg #[.bool x.1,.string x.2]
def encS (x:ByteArray):Value:=.string x
def eL (x:Bool × ByteArray):List Value:=[.bool x.1,.string x.2]
def oK (x:ByteArray):List Value:=[.string x]
set_option maxRecDepth 100000 in
theorem F8 (F:Fence) (n:Nat) (hF:F.fn 129) (hro:F.round = none) (hn:1 <= n) (Bm b:Nat) (en:Array MapEntry) (cl:Nat) (w:World) (hBm:Bm < w.heap.size)
  (hm:w.cell? ⟨Bm,0,none⟩ = some (.map (some b))) (hb:w.heap[b]? = some (.map en cl)) (hst:MapKept.Stamped en cl) (hk:∀ x ∈ en.toList.map (·.key),∃ y,x = pJ y) :
  SeqStopsK F n Tryz.prog 129 #[.pointer (some ⟨Bm,0,none⟩)] (fun x=>#[pJ x]) KeepsWalks (fun xs=>(xs.map pJ).Perm (en.toList.map (·.key))) (fun _=>True) en.size w:=by
 intro l J Jx W hW hJ hJx hY h0
 replace hm:W.cell? ⟨Bm,0,none⟩ = some (.map (some b)):=(hW.cell (p:=⟨Bm,0,none⟩) hBm).trans hm
 replace hb:W.heap[b]? = some (.map en cl):=(hW.block b (Array.getElem?_eq_some_iff.1 hb).1).trans hb
 refine callsIn_of_wp Tryz.func129 rfl hF ?_ hro
 simp only [Tryz.ntmps129,List.size_toArray,length_cons,length_nil,reduceAdd,reduceSub,Array.replicate_succ,Array.replicate_zero,List.push_toArray,append_toArray,List.nil_append,List.cons_append]
 gi_wp2_with (first
  | (gi_at_range; refine kZ _ rfl _ _ rfl _ _ Tryz.underlying82 b en cl rfl hb hst ?_; intro w0 hrg0 hg0 hs0)
  | gi_in)
 gi_loopw [] (fun wr=>∃ (left:List Value) (ss:List (Bool × ByteArray)),Rg wr b W.heap.size left /\ (ss.map pJ ++ left).Perm (en.toList.map (·.key)) /\ J ss wr)
  (fun wr=>Bx wr b W.heap.size)
 case atStart=>
  exact ⟨_,[],hrg0,by simp,hJ [] W w0 none h0 hg0 (fun r e=>by cases e)⟩
 case round=>
  obtain ⟨left,ss,hrg,hp,hJs⟩:=hrel
  gi_wp2_with (first
   | (gi_at_next; refine l_ _ rfl _ rfl b W.heap.size left rfl hrg ?_ ?_)
   | gi_in)
  ·intro hl0
   gi_wp2
   go_end0
   refine ⟨⟨_,rfl⟩,.inl ⟨ss,?_,hJs⟩⟩
   rw [hl0] at hp
   simpa using hp
  ·intro x v w2 left2 hpl hrg2 hg2 hs2 hen
   have hx:x ∈ en.toList.map (·.key):=hp.mem_iff.1 (List.mem_append_right _ (hpl.mem_iff.1 (mem_cons_self ..)))
   obtain ⟨y,rfl⟩:=hk x hx
   have hJ2:J ss w2:=hJ ss wr w2 (some W.heap.size) hJs hg2 (fun r e=>by cases e; exact ⟨Nat.le_refl _,hrg.walk⟩)
   have hp2:((ss ++ [y]).map pJ ++ left2).Perm (en.toList.map (·.key)):=by
    refine List.Perm.trans ?_ hp
    rw [map_append,append_assoc]
    exact List.Perm.append_left _ hpl
   have hlen:ss.length < en.size:=by
    have:=hp2.length_eq
    simp at this
    omega
   obtain ⟨q1,q2⟩:=y
   have hJ3:J ss (w2.alloc (.cells #[.bool q1,.string q2] 46)):=hJ ss w2 _ none hJ2 (World.grownBy_alloc w2 _ none) (fun r e=>by cases e)
   have hrg3:Rg (w2.alloc (.cells #[.bool q1,.string q2] 46)) b W.heap.size left2:=hrg2.kept (KeepsWalks.alloc _ _)
   obtain ⟨fn,tmps,assign,body,hy,hR⟩:=hY ss (q1,q2) _ hJ3 hlen
   have hll:=hpl.length_eq
   simp only [pJ] at hen hy
   simp only [pJ]
   clear hs2
   gi_wp2
   refine hR.mono ?_
   rintro e W3 (⟨rfl,hJ4,hk3⟩ | ⟨rfl,hJx3⟩)
   ·gi_wp2
    have hrg4:=hrg3.kept hk3
    go_roundw
    case rel=>exact ⟨left2,ss ++ [(q1,q2)],hrg4,hp2,hJ4⟩
    case measure=>rw [hrg4.left_eq,hrg.left_eq]; simp at hll; omega
   ·gi_wp2
    refine bodyPost_ret (results_none rfl _ _ _) rfl ?_
    exact ⟨⟨_,rfl⟩,.inr ⟨ss ++ [(q1,q2)],trivial,hJx3⟩⟩
set_option maxRecDepth 100000 in
theorem F7 (F:Fence) (n:Nat) (hF:F.fn 138) (hro:F.round = none) (hn:1 <= n) (Bm b:Nat) (en:Array MapEntry) (cl:Nat) (w:World) (hBm:Bm < w.heap.size)
  (hm:w.cell? ⟨Bm,0,none⟩ = some (.map (some b))) (hb:w.heap[b]? = some (.map en cl)) (hst:MapKept.Stamped en cl) (hk:∀ x ∈ en.toList.map (·.key),∃ y,x = encS y) :
  SeqStopsK F n Tryz.prog 138 #[.pointer (some ⟨Bm,0,none⟩)] (fun x=>#[encS x]) KeepsWalks (fun xs=>(xs.map encS).Perm (en.toList.map (·.key))) (fun _=>True) en.size w:=by
 intro l J Jx W hW hJ hJx hY h0
 replace hm:W.cell? ⟨Bm,0,none⟩ = some (.map (some b)):=(hW.cell (p:=⟨Bm,0,none⟩) hBm).trans hm
 replace hb:W.heap[b]? = some (.map en cl):=(hW.block b (Array.getElem?_eq_some_iff.1 hb).1).trans hb
 refine callsIn_of_wp Tryz.func138 rfl hF ?_ hro
 simp only [Tryz.ntmps138,List.size_toArray,length_cons,length_nil,reduceAdd,reduceSub,Array.replicate_succ,Array.replicate_zero,List.push_toArray,append_toArray,List.nil_append,List.cons_append]
 gi_wp2_with (first
  | (gi_at_range; refine kZ _ rfl _ _ rfl _ _ Tryz.underlying98 b en cl rfl hb hst ?_; intro w0 hrg0 hg0 hs0)
  | gi_in)
 gi_loopw [] (fun wr=>∃ (left:List Value) (ss:List (ByteArray)),Rg wr b W.heap.size left /\ (ss.map encS ++ left).Perm (en.toList.map (·.key)) /\ J ss wr)
  (fun wr=>Bx wr b W.heap.size)
 case atStart=>
  exact ⟨_,[],hrg0,by simp,hJ [] W w0 none h0 hg0 (fun r e=>by cases e)⟩
 case round=>
  obtain ⟨left,ss,hrg,hp,hJs⟩:=hrel
  gi_wp2_with (first
   | (gi_at_next; refine l_ _ rfl _ rfl b W.heap.size left rfl hrg ?_ ?_)
   | gi_in)
  ·intro hl0
   gi_wp2
   go_end0
   refine ⟨⟨_,rfl⟩,.inl ⟨ss,?_,hJs⟩⟩
   rw [hl0] at hp
   simpa using hp
  ·intro x v w2 left2 hpl hrg2 hg2 hs2 hen
   have hx:x ∈ en.toList.map (·.key):=hp.mem_iff.1 (List.mem_append_right _ (hpl.mem_iff.1 (mem_cons_self ..)))
   obtain ⟨y,rfl⟩:=hk x hx
   have hJ2:J ss w2:=hJ ss wr w2 (some W.heap.size) hJs hg2 (fun r e=>by cases e; exact ⟨Nat.le_refl _,hrg.walk⟩)
   have hp2:((ss ++ [y]).map encS ++ left2).Perm (en.toList.map (·.key)):=by
    refine List.Perm.trans ?_ hp
    rw [map_append,append_assoc]
    exact List.Perm.append_left _ hpl
   have hlen:ss.length < en.size:=by
    have:=hp2.length_eq
    simp at this
    omega
   obtain ⟨q1,hq1⟩:∃ q1,q1 = y:=⟨_,rfl⟩
   subst hq1
   have hJ3:=hJ2
   have hrg3:=hrg2
   obtain ⟨fn,tmps,assign,body,hy,hR⟩:=hY ss q1 _ hJ3 hlen
   have hll:=hpl.length_eq
   simp only [encS] at hen hy
   simp only [encS]
   clear hs2
   gi_wp2
   refine hR.mono ?_
   rintro e W3 (⟨rfl,hJ4,hk3⟩ | ⟨rfl,hJx3⟩)
   ·gi_wp2
    have hrg4:=hrg3.kept hk3
    go_roundw
    case rel=>exact ⟨left2,ss ++ [q1],hrg4,hp2,hJ4⟩
    case measure=>rw [hrg4.left_eq,hrg.left_eq]; simp at hll; omega
   ·gi_wp2
    refine bodyPost_ret (results_none rfl _ _ _) rfl ?_
    exact ⟨⟨_,rfl⟩,.inr ⟨ss ++ [q1],trivial,hJx3⟩⟩
set_option maxRecDepth 100000 in
theorem F6 (F:Fence) (n:Nat) (hF:F.fn 314) (hro:F.round = none) (hn:1 <= n) (Bm b:Nat) (en:Array MapEntry) (cl:Nat) (w:World) (hBm:Bm < w.heap.size)
  (hm:w.cell? ⟨Bm,0,none⟩ = some (.map (some b))) (hb:w.heap[b]? = some (.map en cl)) (hst:MapKept.Stamped en cl) (hk:∀ x ∈ en.toList.map (·.key),∃ y,x = encS y) :
  SeqStopsK F n Tryz.prog 314 #[.pointer (some ⟨Bm,0,none⟩)] (fun x=>#[encS x]) KeepsWalks (fun xs=>(xs.map encS).Perm (en.toList.map (·.key))) (fun _=>True) en.size w:=by
 intro l J Jx W hW hJ hJx hY h0
 replace hm:W.cell? ⟨Bm,0,none⟩ = some (.map (some b)):=(hW.cell (p:=⟨Bm,0,none⟩) hBm).trans hm
 replace hb:W.heap[b]? = some (.map en cl):=(hW.block b (Array.getElem?_eq_some_iff.1 hb).1).trans hb
 refine callsIn_of_wp Tryz.func314 rfl hF ?_ hro
 simp only [Tryz.ntmps314,List.size_toArray,length_cons,length_nil,reduceAdd,reduceSub,Array.replicate_succ,Array.replicate_zero,List.push_toArray,append_toArray,List.nil_append,List.cons_append]
 gi_wp2_with (first
  | (gi_at_range; refine kZ _ rfl _ _ rfl _ _ Tryz.underlying104 b en cl rfl hb hst ?_; intro w0 hrg0 hg0 hs0)
  | gi_in)
 gi_loopw [] (fun wr=>∃ (left:List Value) (ss:List (ByteArray)),Rg wr b W.heap.size left /\ (ss.map encS ++ left).Perm (en.toList.map (·.key)) /\ J ss wr)
  (fun wr=>Bx wr b W.heap.size)
 case atStart=>
  exact ⟨_,[],hrg0,by simp,hJ [] W w0 none h0 hg0 (fun r e=>by cases e)⟩
 case round=>
  obtain ⟨left,ss,hrg,hp,hJs⟩:=hrel
  gi_wp2_with (first
   | (gi_at_next; refine l_ _ rfl _ rfl b W.heap.size left rfl hrg ?_ ?_)
   | gi_in)
  ·intro hl0
   gi_wp2
   go_end0
   refine ⟨⟨_,rfl⟩,.inl ⟨ss,?_,hJs⟩⟩
   rw [hl0] at hp
   simpa using hp
  ·intro x v w2 left2 hpl hrg2 hg2 hs2 hen
   have hx:x ∈ en.toList.map (·.key):=hp.mem_iff.1 (List.mem_append_right _ (hpl.mem_iff.1 (mem_cons_self ..)))
   obtain ⟨y,rfl⟩:=hk x hx
   have hJ2:J ss w2:=hJ ss wr w2 (some W.heap.size) hJs hg2 (fun r e=>by cases e; exact ⟨Nat.le_refl _,hrg.walk⟩)
   have hp2:((ss ++ [y]).map encS ++ left2).Perm (en.toList.map (·.key)):=by
    refine List.Perm.trans ?_ hp
    rw [map_append,append_assoc]
    exact List.Perm.append_left _ hpl
   have hlen:ss.length < en.size:=by
    have:=hp2.length_eq
    simp at this
    omega
   obtain ⟨q1,hq1⟩:∃ q1,q1 = y:=⟨_,rfl⟩
   subst hq1
   have hJ3:=hJ2
   have hrg3:=hrg2
   obtain ⟨fn,tmps,assign,body,hy,hR⟩:=hY ss q1 _ hJ3 hlen
   have hll:=hpl.length_eq
   simp only [encS] at hen hy
   simp only [encS]
   clear hs2
   gi_wp2
   refine hR.mono ?_
   rintro e W3 (⟨rfl,hJ4,hk3⟩ | ⟨rfl,hJx3⟩)
   ·gi_wp2
    have hrg4:=hrg3.kept hk3
    go_roundw
    case rel=>exact ⟨left2,ss ++ [q1],hrg4,hp2,hJ4⟩
    case measure=>rw [hrg4.left_eq,hrg.left_eq]; simp at hll; omega
   ·gi_wp2
    refine bodyPost_ret (results_none rfl _ _ _) rfl ?_
    exact ⟨⟨_,rfl⟩,.inr ⟨ss ++ [q1],trivial,hJx3⟩⟩
def Je:Option Code -> Code
 | some (.seq _ (.seq (.seq _ (.block _ (.rangeFunc _ _ a _))) _))=>a
 | _=>.skip
def Jd:Option Code -> Code
 | some (.seq _ (.seq (.seq _ (.block _ (.rangeFunc _ _ _ b))) _))=>b
 | _=>.skip
def Lp (n:Nat) (A B:World):Prop:=KeepsWalks A B /\ Below n A B
theorem HN {α:Type} {F:Fence} {n:Nat} {P:Program} {g:Nat} {lb:Array Value} {encs:α -> Array Value} {S Sp:List α -> Prop} {N:Nat} {w:World} (m:Nat) (h:SeqStopsK F n P g lb encs KeepsWalks S Sp N w):SeqStopsK F n P g lb encs (Lp m) S Sp N w:=
 fun l J Jx W hW hJ hJx hY h0=>h l J Jx W hW hJ hJx (fun pre x W1 h1 h2=>by
  obtain ⟨fn,tmps,assign,body,hy,hR⟩:=hY pre x W1 h1 h2
  exact ⟨fn,tmps,assign,body,hy,hR.mono fun e W' h=>h.imp (fun ⟨a,b,c⟩=>⟨a,b,c.1⟩) id⟩) h0
theorem DN {n:Nat} {w A B:World} (h:Below n w A) (k:Below n w B) (hs:A.heap.size <= B.heap.size):Below n A B:=
 ⟨k.os.trans h.os.symm,k.tape.trans h.tape.symm,k.output.trans h.output.symm,hs,fun i hi=>(k.block i hi).trans (h.block i hi).symm⟩
theorem EM (w:World) (x y:Value) (t:TypeId):∀ j u,[x,y][j]? = some u -> (w.alloc (.cells #[x,y] t)).cell? ((⟨w.heap.size,0,none⟩:Addr).add j) = some u:=by
 intro j u hj
 match j,hj with
 | 0,hj=>simp at hj; subst hj; simp [Addr.add]
 | 1,hj=>simp at hj; subst hj; simp [Addr.add]
noncomputable def zM:Code:=Je Tryz.f173.body
noncomputable def EV:Code:=Jd Tryz.f173.body
noncomputable def lQ (fn:FuncId) (sv:Value) (Bs D:Nat) (st:LoopState) (pend:Option Code):Loop:=
 { state:=st,pending:=pend,fn,tmps:=#[.slice none 0 0,sv,.pointer (some ⟨Bs,0,none⟩),undef,.slice none 0 0,undef,sv,undef,undef,undef,undef,undef,undef],params:=#[7],assign:=zM,body:=EV,defers:=D }
structure GV (w0:World) (fn:FuncId) (sv:Value) (Bs l D:Nat) (ss:List (Bool × ByteArray)) (W:World):Prop where
 box:∃ v,W.heap[Bs]? = some (.cells #[v] 40 (0,0)) /\ W.ownsRow w0.heap.size 46 2 v ss.length (ss.flatMap eL) /\ (v = .slice none 0 0 ↔ ss = [])
 L:W.heap[l]? = some (.loop (lQ fn sv Bs D .ready none))
 K:W.heap[D]? = some (.deferred (some []))
 below:Below w0.heap.size w0 W
theorem Ik (w0:World) (fn:FuncId) (sv:Value) (Bs l D B:Nat) (hB:w0.heap.size <= B):AbidesFrom B (GV w0 fn sv Bs l D):=fun s W W' row h hg hrow=>by
 have hrow':∀ r,row = some r -> ∃ o:Obj,W.heap[r]? = some o /\ o.isWalk = true:=fun r e=>(hrow r e).2
 obtain ⟨v,hv,hr,hn⟩:=h.box
 exact ⟨⟨v,(grownBy_keeps hg hrow' hv rfl).trans hv,ownsRow_abides_a hr hg hrow',hn⟩,(grownBy_keeps hg hrow' h.L rfl).trans h.L,(grownBy_keeps hg hrow' h.K rfl).trans h.K,
  h.below.grown hg h.below.size (fun k e=>Nat.le_trans hB (hrow k e).1)⟩
set_option maxRecDepth 100000 in
theorem N7 (F : Fence) (m : Nat) (w0 : World) (fn : FuncId) (hfn : F.fn fn) (sv : Value) (Bs l D : Nat) (hBl : Bs ≠ l) (hDl : D ≠ l) (hDB : D ≠ Bs) (h0B : w0.heap.size <= Bs) (h0l : w0.heap.size <= l)
    (N : Nat) (hN : N <= maxLen) (hNb : N * 24 <= 140737488355328) (ss : List (Bool × ByteArray)) (x : Bool × ByteArray) (W : World) (h : GV w0 fn sv Bs l D ss W) (hlen : ss.length < N) :
    YieldAt F m Tryz.prog l #[pJ x] W fun e W' => e = .returned (.bool true) /\ GV w0 fn sv Bs l D (ss ++ [x]) W' /\ Lp w0.heap.size W W' := by
  obtain ⟨q1, q2⟩ := x
  obtain ⟨v, hv, hrow, _⟩ := h.box
  have h' := h
  refine ⟨fn, #[.slice none 0 0, sv, .pointer (some ⟨Bs, 0, none⟩), undef, .slice none 0 0, undef, sv, pJ (q1, q2), undef, undef, undef, undef, undef], zM, EV, by simpa [lQ] using run_yield (P := Tryz.prog) (args := #[pJ (q1, q2)]) h.L rfl, roundIn_of_wpIn hfn ?_⟩
  have hBW : Bs < W.heap.size := (Array.getElem?_eq_some_iff.1 hv).1
  have hlW : l < W.heap.size := (Array.getElem?_eq_some_iff.1 h.L).1
  have hDW : D < W.heap.size := (Array.getElem?_eq_some_iff.1 h.K).1
  have hv1 : (W.alloc (.cells #[.bool q1, .string q2] 46)).heap[Bs]? = some (.cells #[v] 40 (0, 0)) := (Below.heap_alloc _ _ Bs hBW).trans hv
  have hL1 : (W.alloc (.cells #[.bool q1, .string q2] 46)).heap[l]? = some (.loop (lQ fn sv Bs D .ready none)) := (Below.heap_alloc _ _ l hlW).trans h.L
  have hK1 : (W.alloc (.cells #[.bool q1, .string q2] 46)).heap[D]? = some (.deferred (some [])) := (Below.heap_alloc _ _ D hDW).trans h.K
  have hrow1 : (W.alloc (.cells #[.bool q1, .string q2] 46)).ownsRow w0.heap.size 46 2 v ss.length (ss.flatMap eL) := hrow.alloc _
  have hb1 : Below w0.heap.size w0 (W.alloc (.cells #[.bool q1, .string q2] 46)) := h.below.alloc h.below.size _
  have hk1 : KeepsWalks W (W.alloc (.cells #[.bool q1, .string q2] 46)) := KeepsWalks.alloc _ _
  have hbr := run_beginRound (P := Tryz.prog) hL1 rfl
  obtain ⟨W2, hW2⟩ : ∃ W2, (W.alloc (.cells #[.bool q1, .string q2] 46)).putObj l (.loop { lQ fn sv Bs D .ready none with state := .busy }) = W2 := ⟨_, rfl⟩
  rw [hW2] at hbr
  have hl1 : l < (W.alloc (.cells #[.bool q1, .string q2] 46)).heap.size := (Array.getElem?_eq_some_iff.1 hL1).1
  have hg2 : (W.alloc (.cells #[.bool q1, .string q2] 46)).grownBy W2 (some l) := by rw [<- hW2]; exact grownBy_putObj_a _ _ _
  have hk2 : KeepsWalks W W2 := hk1.trans (by rw [<- hW2]; exact KeepsWalks.putObj _ hL1 rfl)
  have hv2 : W2.heap[Bs]? = some (.cells #[v] 40 (0, 0)) := by rw [<- hW2]; exact (World.putObj_heap_other hBl).trans hv1
  have hK2 : W2.heap[D]? = some (.deferred (some [])) := by rw [<- hW2]; exact (World.putObj_heap_other hDl).trans hK1
  have hL2 : W2.heap[l]? = some (.loop { lQ fn sv Bs D .ready none with state := .busy }) := by rw [<- hW2]; exact World.putObj_heap_same hl1
  have hrow2 : W2.ownsRow w0.heap.size 46 2 v ss.length (ss.flatMap eL) := hrow1.kept hg2 (ownsRow_ne_a hrow1 hL1 (fun cur e => by cases e))
  have hb2 : Below w0.heap.size w0 W2 := hb1.grown hg2 hb1.size (fun k e => by cases e; exact h0l)
  have hBlt : Bs < W2.heap.size := (Array.getElem?_eq_some_iff.1 hv2).1
  have hl2 : l < W2.heap.size := (Array.getElem?_eq_some_iff.1 hL2).1
  have hDlt : D < W2.heap.size := (Array.getElem?_eq_some_iff.1 hK2).1
  obtain ⟨hc2, hf2⟩ := cell_of_box_a hv2
  have hx2 : W2.heap[W.heap.size]? = some (.cells #[.bool q1, .string q2] 46 (0, 0)) := by rw [<- hW2]; exact (World.putObj_heap_other (by omega)).trans (World.alloc_heap_new W _)
  have hxA : W2.cell? ⟨W.heap.size, 0, none⟩ = some (.bool q1) := by simp [World.cell?, hx2]
  have hxB : W2.cell? ⟨W.heap.size, 1, none⟩ = some (.string q2) := by simp [World.cell?, hx2]
  have oS : ∀ {j : Nat} {o : Obj}, W2.heap[j]? = some o -> (∀ cur, o ≠ .cells cur 46 (0, 0)) -> some j ≠ v.ownBlock := fun hj hno => by
    rcases ownsRow_ne_a hrow2 hj hno with e | e
    · rw [e]; simp
    · exact fun e' => e e'.symm
  clear hW2
  simp only [zM, Je, Tryz.f173, pJ]
  gi_wp2_with (rw [Oper.semAt_eq _ _ _ (fun c h => by cases h)]; go_simp; try go_bits)
  simp only [EV, Jd, Tryz.f173]
  gi_wp2_with (first
    | (gi_at_builtin; refine wpListIn_append_own _ rfl _ _ 40 rfl w0.heap.size 46 _ (.agg #[.bool false, .string ⟨#[]⟩]) 2 24 Tryz.underlying40 Tryz.type46 rfl rfl rfl rfl (by decide) _ _ _ rfl (hrow2.alloc _) ⟨W2.heap.size, 0, none⟩ 1 1 [.bool q1, .string q2] rfl rfl (EM _ _ _ _) (by simp [Value.oneCell']) (by omega) (by omega) (by have := hb2.size; simp; omega) ?_; intro v' w3 hown' hg3 hnil3
       have hv3 : w3.heap[Bs]? = some (.cells #[v] 40 (0, 0)) := (hg3.block Bs (by simp; omega) (oS hv2 (fun cur e => by cases e))).trans ((Below.heap_alloc _ _ Bs hBlt).trans hv2)
       obtain ⟨hc3, hf3⟩ := cell_of_box_a hv3
       obtain ⟨g', cap', cur', rfl, hbase', hgb', hr1, hr2, hr3, hr4⟩ : ∃ g' cap' cur', v' = .slice (some ⟨g', 0, none⟩) (ss.length + 1) cap' /\ w0.heap.size <= g' /\ w3.heap[g']? = some (.cells cur' 46 (0, 0)) /\ ss.length + 1 <= cap' /\ cap' <= maxLen /\ cur'.size = cap' * 2 /\ cur'.toList.take ((ss.length + 1) * 2) = ss.flatMap eL ++ [.bool q1, .string q2] := by
         rcases hown'.2 with ⟨_, h0⟩ | h'
         · exact absurd h0 (by omega)
         · exact h'
       go_frame)
    | (rw [Oper.semAt_eq _ _ _ (fun c h => by cases h)]; go_simp; try go_bits))
  have hg3' : (W2.alloc (.cells #[.bool q1, .string q2] 46)).grownBy w3 v.ownBlock := hg3
  have hL3 : w3.heap[l]? = some (.loop { lQ fn sv Bs D .ready none with state := .busy }) := (hg3'.block l (by simp; omega) (oS hL2 (fun cur e => by cases e))).trans ((Below.heap_alloc _ _ l hl2).trans hL2)
  have hK3 : w3.heap[D]? = some (.deferred (some [])) := (hg3'.block D (by simp; omega) (oS hK2 (fun cur e => by cases e))).trans ((Below.heap_alloc _ _ D hDlt).trans hK2)
  obtain ⟨w4, hw4⟩ : ∃ w4, w3.setCell ⟨Bs, 0, none⟩ (.slice (some ⟨g', 0, none⟩) (ss.length + 1) cap') = w4 := ⟨_, rfl⟩
  rw [hw4]
  have hg4 : w3.grownBy w4 (some Bs) := by rw [<- hw4]; exact grownBy_setCell0_a _ _ _
  have hv4 : w4.heap[Bs]? = some (.cells #[.slice (some ⟨g', 0, none⟩) (ss.length + 1) cap'] 40 (0, 0)) := by rw [<- hw4]; exact heap_setCell_box_a _ hv3
  have hL4 : w4.heap[l]? = some (.loop { lQ fn sv Bs D .ready none with state := .busy }) := (hg4.block l (Array.getElem?_eq_some_iff.1 hL3).1 (fun e => hBl (by cases e; rfl))).trans hL3
  have hK4 : w4.heap[D]? = some (.deferred (some [])) := (hg4.block D (Array.getElem?_eq_some_iff.1 hK3).1 (fun e => hDB (by cases e; rfl))).trans hK3
  have hrow4 := hown'.kept hg4 (ownsRow_ne_a hown' hv3 (fun cur e => by cases e))
  have hl4 : l < w4.heap.size := (Array.getElem?_eq_some_iff.1 hL4).1
  have hb3 : Below w0.heap.size w0 w3 := (hb2.alloc hb2.size _).grown hg3' (by have := hb2.size; simp; omega) (fun k e => (hrow2.lt k e).1)
  have hb4 : Below w0.heap.size w0 w4 := hb3.grown hg4 hb3.size (fun k e => by cases e; exact h0B)
  have hk4 : KeepsWalks W w4 := ((hk2.trans (KeepsWalks.alloc _ _)).trans (KeepsWalks.of_grownBy hg3' (ownsRow_not_walk_a (hrow2.alloc _)))).trans (by rw [<- hw4]; exact KeepsWalks.setCell _ _ _)
  clear hw4
  have hb5 := hb4.grown (grownBy_putObj_a w4 l (.loop { { lQ fn sv Bs D .ready none with state := .busy } with state := if (none : Option Code).isNone then .ready else .done, pending := none })) hb4.size (fun k e => by cases e; exact h0l)
  have hk5 := hk4.trans (KeepsWalks.putObj (.loop { { lQ fn sv Bs D .ready none with state := .busy } with state := if (none : Option Code).isNone then .ready else .done, pending := none }) hL4 rfl)
  refine ⟨_, _, run_endRound none hL4, rfl, ⟨⟨_, (World.putObj_heap_other hBl).trans hv4, ?_, by simp⟩, World.putObj_heap_same hl4, (World.putObj_heap_other hDl).trans hK4, hb5⟩, hk5, DN h'.below hb5 hk5.size⟩
  have := hrow4.kept (grownBy_putObj_a w4 l (.loop { { lQ fn sv Bs D .ready none with state := .busy } with state := if (none : Option Code).isNone then .ready else .done, pending := none })) (ownsRow_ne_a hrow4 hL4 (fun cur e => by cases e))
  simpa [eL] using this
set_option maxRecDepth 100000 in
theorem Ii (F : Fence) (n : Nat) (hF : F.fn 173) (hro : F.round = none) (hn : 2 <= n) (g : Nat) (lb : Array Value) (hFg : F.fn g) (eg : ∀ args w, (callFunc g args).run Tryz.prog w = .ok (.enter g args) w)
    (S : List (Bool × ByteArray) -> Prop) (N : Nat) (hN : N <= maxLen) (hNb : N * 24 <= 140737488355328) (w : World) (hseq : SeqStopsK F (n - 1) Tryz.prog g lb (fun x => #[pJ x]) (Lp w.heap.size) S (fun _ => True) N w) :
    CallsIn F n Tryz.prog 173 #[.slice none 0 0, .func (.func g) #[] lb] w fun e w' => ∃ (v : Value) (ss : List (Bool × ByteArray)), e = .returned v /\ S ss /\ w'.ownsRow w.heap.size 46 2 v ss.length (ss.flatMap eL) /\ (v = .slice none 0 0 ↔ ss = []) /\ Below w.heap.size w w' := by
  have h1 : 1 <= n := by omega
  refine callsIn_of_wp_marks Tryz.func173 rfl hF ?_ hro
  simp only [Tryz.ntmps173, List.size_toArray, length_cons, length_nil, reduceAdd, reduceSub, Array.replicate_succ, Array.replicate_zero, List.push_toArray, append_toArray, List.nil_append, List.cons_append]
  gi_wp2
  refine wpIn_rangeFunc ?_
  intro fn hfn
  rw [hro]
  obtain ⟨W0, hW0⟩ : ∃ W0, w.alloc (.cells #[.slice none 0 0] 40) = W0 := ⟨_, rfl⟩
  have hs0 : W0.heap.size = w.heap.size + 1 := by rw [<- hW0]; simp
  have hv0 : W0.heap[w.heap.size]? = some (.cells #[.slice none 0 0] 40 (0, 0)) := by rw [<- hW0]; exact World.alloc_heap_new w _
  have hb0 : Below w.heap.size w W0 := by rw [<- hW0]; exact (Below.refl _ w).alloc (Nat.le_refl _) _
  rw [hW0]
  obtain ⟨W1, hW1⟩ : ∃ W1, (W0.alloc (.deferred (some []))).alloc (.loop (lQ fn (.func (.func g) #[] lb) w.heap.size W0.heap.size .ready none)) = W1 := ⟨_, rfl⟩
  have hold : ∀ k, k < W0.heap.size -> W1.heap[k]? = W0.heap[k]? := fun k hk => by
    rw [<- hW1]; exact (Below.heap_alloc _ _ k (by simp; omega)).trans (Below.heap_alloc _ _ k hk)
  have hb1 : Below w.heap.size w W1 := by rw [<- hW1]; exact (hb0.alloc hb0.size _).alloc (by have := hb0.size; simp; omega) _
  have hM : GV w fn (.func (.func g) #[] lb) w.heap.size (W0.heap.size + 1) W0.heap.size [] W1 :=
    ⟨⟨_, (hold w.heap.size (by omega)).trans hv0, ⟨rfl, .inl ⟨rfl, rfl⟩⟩, by simp⟩,
     by rw [<- hW1]; have := World.alloc_heap_new (W0.alloc (.deferred (some []))) (.loop (lQ fn (.func (.func g) #[] lb) w.heap.size W0.heap.size .ready none)); rwa [World.size_alloc] at this,
     by rw [<- hW1]; exact (Below.heap_alloc _ _ _ (by simp)).trans (World.alloc_heap_new W0 _), hb1⟩
  refine ⟨W0.heap.size + 1, [{ target := .collected W0.heap.size, args := #[] }], W1, { target := .fn (.func g) lb, args := #[.func (.yield (W0.heap.size + 1)) #[] #[]] }, W1, g,
    #[.func (.yield (W0.heap.size + 1)) #[] #[]] ++ lb, W1, ?_, ?_, ?_, ?_, fun _ => h1, ?_⟩
  · rw [<- hW1]; exact run_enterLoop_outer _ _ _ _ _
  · simp [resolve, go_sem]
  · intro f' hf'; simp [Target.leads] at hf'; subst hf'; exact hFg
  · simp [invoke, go_sem, eg]
  · refine (hseq (W0.heap.size + 1) (GV w fn (.func (.func g) #[] lb) w.heap.size (W0.heap.size + 1) W0.heap.size) (fun _ _ => False) W1 hb1 (Ik _ _ _ _ _ _ _ hb1.size) (fun _ _ _ _ h _ _ => h)
      (fun pre x W hJ hl => by
        obtain ⟨fn', tmps, assign, body, hy, hR⟩ := N7 F (n - 1 - 1) w fn hfn _ w.heap.size (W0.heap.size + 1) W0.heap.size (by omega) (by omega) (by omega) (Nat.le_refl _) (by omega) N hN hNb pre x W hJ hl
        exact ⟨fn', tmps, assign, body, hy, hR.mono fun e W' h => .inl h⟩) hM).mono ?_
    rintro e W2 ⟨⟨v0, rfl⟩, ⟨ss, hS, h2⟩ | ⟨_, _, hf⟩⟩
    case inr => exact hf.elim
    obtain ⟨v, hv, hrow, hnil⟩ := h2.box
    have hend := run_endLoop (P := Tryz.prog) h2.L (by simp [lQ])
    obtain ⟨W3, hW3⟩ : ∃ W3, W2.putObj (W0.heap.size + 1) (.loop { lQ fn (.func (.func g) #[] lb) w.heap.size W0.heap.size .ready none with state := .exhausted }) = W3 := ⟨_, rfl⟩
    rw [hW3] at hend
    have hg3 : W2.grownBy W3 (some (W0.heap.size + 1)) := by rw [<- hW3]; exact grownBy_putObj_a _ _ _
    have hv3 : W3.heap[w.heap.size]? = some (.cells #[v] 40 (0, 0)) := by rw [<- hW3]; exact (World.putObj_heap_other (by omega)).trans hv
    have hK3 : W3.heap[W0.heap.size]? = some (.deferred (some [])) := by rw [<- hW3]; exact (World.putObj_heap_other (by omega)).trans h2.K
    have hrow3 := hrow.kept hg3 (ownsRow_ne_a hrow h2.L (fun cur e => by cases e))
    have hb3 : Below w.heap.size w W3 := h2.below.grown hg3 h2.below.size (fun k e => by cases e; omega)
    obtain ⟨hc3, hf3⟩ := cell_of_box_a hv3
    clear hW3
    refine ⟨none, W3, hend, ?_⟩
    gi_wp2
    rw [<- hs0]
    refine ⟨by simp, .inl ⟨_, _, rfl, run_takeDeferred hK3, ?_⟩⟩
    exact ⟨_, results_tmp rfl _ _ _, v, ss, rfl, hS, hrow3.kept (grownBy_putObj_a _ _ _) (ownsRow_ne_a hrow3 hK3 (fun cur e => by cases e)), hnil, hb3.grown (grownBy_putObj_a _ _ _) hb3.size (fun k e => by cases e; omega)⟩
theorem Nv (F:Fence) (n:Nat) (hC:F.fn 127) (hF:F.fn 173) (hro:F.round = none) (hn:3 <= n) (g:Nat) (lb:Array Value) (hFg:F.fn g) (eg:∀ args w,(callFunc g args).run Tryz.prog w = .ok (.enter g args) w)
  (S:List (Bool × ByteArray) -> Prop) (N:Nat) (hN:N <= maxLen) (hNb:N * 24 <= 140737488355328) (w:World) (hseq:SeqStopsK F (n - 1 - 1) Tryz.prog g lb (fun x=>#[pJ x]) (Lp w.heap.size) S (fun _=>True) N w) :
  CallsIn F n Tryz.prog 127 #[.func (.func g) #[] lb] w fun e w'=>∃ (v:Value) (ss:List (Bool × ByteArray)),e = .returned v /\ S ss /\ w'.ownsRow w.heap.size 46 2 v ss.length (ss.flatMap eL) /\ (v = .slice none 0 0 ↔ ss = []) /\ Below w.heap.size w w':=by
 have h1:1 <= n:=by omega
 refine callsIn_of_wp Tryz.func127 rfl hC ?_ hro
 simp only [Tryz.ntmps127,List.size_toArray,length_cons,length_nil,reduceAdd,reduceSub,Array.replicate_succ,Array.replicate_zero,List.push_toArray,append_toArray,List.nil_append,List.cons_append]
 gi_wp2_with (gi_at_call 173; refine (Ii F (n - 1) hF hro (by omega) g lb hFg eg S N hN hNb _ hseq).mono ?_; rintro e w' ⟨v,ss,rfl,hS,hrow,hnil,hb⟩)
 go_ret
 exact ⟨v,ss,rfl,hS,hrow,hnil,hb⟩
noncomputable def zL:Code:=Je Tryz.f176.body
noncomputable def EU:Code:=Jd Tryz.f176.body
noncomputable def mD (fn:FuncId) (sv:Value) (Bs D:Nat) (st:LoopState) (pend:Option Code):Loop:=
 { state:=st,pending:=pend,fn,tmps:=#[.slice none 0 0,sv,.pointer (some ⟨Bs,0,none⟩),undef,.slice none 0 0,undef,sv,undef,undef,undef,undef,undef,undef],params:=#[7],assign:=zL,body:=EU,defers:=D }
structure GU (w0:World) (fn:FuncId) (sv:Value) (Bs l D:Nat) (ss:List (ByteArray)) (W:World):Prop where
 box:∃ v,W.heap[Bs]? = some (.cells #[v] 28 (0,0)) /\ W.ownsRow w0.heap.size 9 1 v ss.length (ss.flatMap oK) /\ (v = .slice none 0 0 ↔ ss = [])
 L:W.heap[l]? = some (.loop (mD fn sv Bs D .ready none))
 K:W.heap[D]? = some (.deferred (some []))
 below:Below w0.heap.size w0 W
theorem Ij (w0:World) (fn:FuncId) (sv:Value) (Bs l D B:Nat) (hB:w0.heap.size <= B):AbidesFrom B (GU w0 fn sv Bs l D):=fun s W W' row h hg hrow=>by
 have hrow':∀ r,row = some r -> ∃ o:Obj,W.heap[r]? = some o /\ o.isWalk = true:=fun r e=>(hrow r e).2
 obtain ⟨v,hv,hr,hn⟩:=h.box
 exact ⟨⟨v,(grownBy_keeps hg hrow' hv rfl).trans hv,ownsRow_abides_a hr hg hrow',hn⟩,(grownBy_keeps hg hrow' h.L rfl).trans h.L,(grownBy_keeps hg hrow' h.K rfl).trans h.K,
  h.below.grown hg h.below.size (fun k e=>Nat.le_trans hB (hrow k e).1)⟩
set_option maxRecDepth 100000 in
theorem N6 (F : Fence) (m : Nat) (w0 : World) (fn : FuncId) (hfn : F.fn fn) (sv : Value) (Bs l D : Nat) (hBl : Bs ≠ l) (hDl : D ≠ l) (hDB : D ≠ Bs) (h0B : w0.heap.size <= Bs) (h0l : w0.heap.size <= l)
    (N : Nat) (hN : N <= maxLen) (hNb : N * 16 <= 140737488355328) (ss : List (ByteArray)) (x : ByteArray) (W : World) (h : GU w0 fn sv Bs l D ss W) (hlen : ss.length < N) :
    YieldAt F m Tryz.prog l #[encS x] W fun e W' => e = .returned (.bool true) /\ GU w0 fn sv Bs l D (ss ++ [x]) W' /\ Lp w0.heap.size W W' := by
  obtain ⟨q1, hq1⟩ : ∃ q1, q1 = x := ⟨_, rfl⟩
  subst hq1
  obtain ⟨v, hv, hrow, _⟩ := h.box
  have h' := h
  refine ⟨fn, #[.slice none 0 0, sv, .pointer (some ⟨Bs, 0, none⟩), undef, .slice none 0 0, undef, sv, encS q1, undef, undef, undef, undef, undef], zL, EU, by simpa [mD] using run_yield (P := Tryz.prog) (args := #[encS q1]) h.L rfl, roundIn_of_wpIn hfn ?_⟩
  have hv1 := hv
  have hL1 := h.L
  have hK1 := h.K
  have hrow1 := hrow
  have hb1 := h.below
  have hk1 := KeepsWalks.refl W
  have hbr := run_beginRound (P := Tryz.prog) hL1 rfl
  obtain ⟨W2, hW2⟩ : ∃ W2, W.putObj l (.loop { mD fn sv Bs D .ready none with state := .busy }) = W2 := ⟨_, rfl⟩
  rw [hW2] at hbr
  have hl1 : l < W.heap.size := (Array.getElem?_eq_some_iff.1 hL1).1
  have hg2 : W.grownBy W2 (some l) := by rw [<- hW2]; exact grownBy_putObj_a _ _ _
  have hk2 : KeepsWalks W W2 := hk1.trans (by rw [<- hW2]; exact KeepsWalks.putObj _ hL1 rfl)
  have hv2 : W2.heap[Bs]? = some (.cells #[v] 28 (0, 0)) := by rw [<- hW2]; exact (World.putObj_heap_other hBl).trans hv1
  have hK2 : W2.heap[D]? = some (.deferred (some [])) := by rw [<- hW2]; exact (World.putObj_heap_other hDl).trans hK1
  have hL2 : W2.heap[l]? = some (.loop { mD fn sv Bs D .ready none with state := .busy }) := by rw [<- hW2]; exact World.putObj_heap_same hl1
  have hrow2 : W2.ownsRow w0.heap.size 9 1 v ss.length (ss.flatMap oK) := hrow1.kept hg2 (ownsRow_ne_a hrow1 hL1 (fun cur e => by cases e))
  have hb2 : Below w0.heap.size w0 W2 := hb1.grown hg2 hb1.size (fun k e => by cases e; exact h0l)
  have hBlt : Bs < W2.heap.size := (Array.getElem?_eq_some_iff.1 hv2).1
  have hl2 : l < W2.heap.size := (Array.getElem?_eq_some_iff.1 hL2).1
  have hDlt : D < W2.heap.size := (Array.getElem?_eq_some_iff.1 hK2).1
  obtain ⟨hc2, hf2⟩ := cell_of_box_a hv2
  have oS : ∀ {j : Nat} {o : Obj}, W2.heap[j]? = some o -> (∀ cur, o ≠ .cells cur 9 (0, 0)) -> some j ≠ v.ownBlock := fun hj hno => by
    rcases ownsRow_ne_a hrow2 hj hno with e | e
    · rw [e]; simp
    · exact fun e' => e e'.symm
  clear hW2
  simp only [zL, Je, Tryz.f176, encS]
  gi_wp2_with (rw [Oper.semAt_eq _ _ _ (fun c h => by cases h)]; go_simp; try go_bits)
  simp only [EU, Jd, Tryz.f176]
  gi_wp2_with (first
    | (gi_at_builtin; refine wpListIn_append_own _ rfl _ _ 28 rfl w0.heap.size 9 _ (.string ⟨#[]⟩) 1 16 Tryz.underlying28 Tryz.type9 rfl rfl rfl rfl (by decide) _ _ _ rfl (hrow2.alloc _) ⟨W2.heap.size, 0, none⟩ 1 1 [.string q1] rfl rfl (cell_one_new _ _ _) (by simp [Value.oneCell']) (by omega) (by omega) (by have := hb2.size; simp; omega) ?_; intro v' w3 hown' hg3 hnil3
       have hv3 : w3.heap[Bs]? = some (.cells #[v] 28 (0, 0)) := (hg3.block Bs (by simp; omega) (oS hv2 (fun cur e => by cases e))).trans ((Below.heap_alloc _ _ Bs hBlt).trans hv2)
       obtain ⟨hc3, hf3⟩ := cell_of_box_a hv3
       obtain ⟨g', cap', cur', rfl, hbase', hgb', hr1, hr2, hr3, hr4⟩ : ∃ g' cap' cur', v' = .slice (some ⟨g', 0, none⟩) (ss.length + 1) cap' /\ w0.heap.size <= g' /\ w3.heap[g']? = some (.cells cur' 9 (0, 0)) /\ ss.length + 1 <= cap' /\ cap' <= maxLen /\ cur'.size = cap' * 1 /\ cur'.toList.take ((ss.length + 1) * 1) = ss.flatMap oK ++ [.string q1] := by
         rcases hown'.2 with ⟨_, h0⟩ | h'
         · exact absurd h0 (by omega)
         · exact h'
       go_frame)
    | (rw [Oper.semAt_eq _ _ _ (fun c h => by cases h)]; go_simp; try go_bits))
  have hg3' : (W2.alloc (.cells #[.string q1] 9)).grownBy w3 v.ownBlock := hg3
  have hL3 : w3.heap[l]? = some (.loop { mD fn sv Bs D .ready none with state := .busy }) := (hg3'.block l (by simp; omega) (oS hL2 (fun cur e => by cases e))).trans ((Below.heap_alloc _ _ l hl2).trans hL2)
  have hK3 : w3.heap[D]? = some (.deferred (some [])) := (hg3'.block D (by simp; omega) (oS hK2 (fun cur e => by cases e))).trans ((Below.heap_alloc _ _ D hDlt).trans hK2)
  obtain ⟨w4, hw4⟩ : ∃ w4, w3.setCell ⟨Bs, 0, none⟩ (.slice (some ⟨g', 0, none⟩) (ss.length + 1) cap') = w4 := ⟨_, rfl⟩
  rw [hw4]
  have hg4 : w3.grownBy w4 (some Bs) := by rw [<- hw4]; exact grownBy_setCell0_a _ _ _
  have hv4 : w4.heap[Bs]? = some (.cells #[.slice (some ⟨g', 0, none⟩) (ss.length + 1) cap'] 28 (0, 0)) := by rw [<- hw4]; exact heap_setCell_box_a _ hv3
  have hL4 : w4.heap[l]? = some (.loop { mD fn sv Bs D .ready none with state := .busy }) := (hg4.block l (Array.getElem?_eq_some_iff.1 hL3).1 (fun e => hBl (by cases e; rfl))).trans hL3
  have hK4 : w4.heap[D]? = some (.deferred (some [])) := (hg4.block D (Array.getElem?_eq_some_iff.1 hK3).1 (fun e => hDB (by cases e; rfl))).trans hK3
  have hrow4 := hown'.kept hg4 (ownsRow_ne_a hown' hv3 (fun cur e => by cases e))
  have hl4 : l < w4.heap.size := (Array.getElem?_eq_some_iff.1 hL4).1
  have hb3 : Below w0.heap.size w0 w3 := (hb2.alloc hb2.size _).grown hg3' (by have := hb2.size; simp; omega) (fun k e => (hrow2.lt k e).1)
  have hb4 : Below w0.heap.size w0 w4 := hb3.grown hg4 hb3.size (fun k e => by cases e; exact h0B)
  have hk4 : KeepsWalks W w4 := ((hk2.trans (KeepsWalks.alloc _ _)).trans (KeepsWalks.of_grownBy hg3' (ownsRow_not_walk_a (hrow2.alloc _)))).trans (by rw [<- hw4]; exact KeepsWalks.setCell _ _ _)
  clear hw4
  have hb5 := hb4.grown (grownBy_putObj_a w4 l (.loop { { mD fn sv Bs D .ready none with state := .busy } with state := if (none : Option Code).isNone then .ready else .done, pending := none })) hb4.size (fun k e => by cases e; exact h0l)
  have hk5 := hk4.trans (KeepsWalks.putObj (.loop { { mD fn sv Bs D .ready none with state := .busy } with state := if (none : Option Code).isNone then .ready else .done, pending := none }) hL4 rfl)
  refine ⟨_, _, run_endRound none hL4, rfl, ⟨⟨_, (World.putObj_heap_other hBl).trans hv4, ?_, by simp⟩, World.putObj_heap_same hl4, (World.putObj_heap_other hDl).trans hK4, hb5⟩, hk5, DN h'.below hb5 hk5.size⟩
  have := hrow4.kept (grownBy_putObj_a w4 l (.loop { { mD fn sv Bs D .ready none with state := .busy } with state := if (none : Option Code).isNone then .ready else .done, pending := none })) (ownsRow_ne_a hrow4 hL4 (fun cur e => by cases e))
  simpa [oK] using this
set_option maxRecDepth 100000 in
theorem Ih (F : Fence) (n : Nat) (hF : F.fn 176) (hro : F.round = none) (hn : 2 <= n) (g : Nat) (lb : Array Value) (hFg : F.fn g) (eg : ∀ args w, (callFunc g args).run Tryz.prog w = .ok (.enter g args) w)
    (S : List (ByteArray) -> Prop) (N : Nat) (hN : N <= maxLen) (hNb : N * 16 <= 140737488355328) (w : World) (hseq : SeqStopsK F (n - 1) Tryz.prog g lb (fun x => #[encS x]) (Lp w.heap.size) S (fun _ => True) N w) :
    CallsIn F n Tryz.prog 176 #[.slice none 0 0, .func (.func g) #[] lb] w fun e w' => ∃ (v : Value) (ss : List (ByteArray)), e = .returned v /\ S ss /\ w'.ownsRow w.heap.size 9 1 v ss.length (ss.flatMap oK) /\ (v = .slice none 0 0 ↔ ss = []) /\ Below w.heap.size w w' := by
  have h1 : 1 <= n := by omega
  refine callsIn_of_wp_marks Tryz.func176 rfl hF ?_ hro
  simp only [Tryz.ntmps176, List.size_toArray, length_cons, length_nil, reduceAdd, reduceSub, Array.replicate_succ, Array.replicate_zero, List.push_toArray, append_toArray, List.nil_append, List.cons_append]
  gi_wp2
  refine wpIn_rangeFunc ?_
  intro fn hfn
  rw [hro]
  obtain ⟨W0, hW0⟩ : ∃ W0, w.alloc (.cells #[.slice none 0 0] 28) = W0 := ⟨_, rfl⟩
  have hs0 : W0.heap.size = w.heap.size + 1 := by rw [<- hW0]; simp
  have hv0 : W0.heap[w.heap.size]? = some (.cells #[.slice none 0 0] 28 (0, 0)) := by rw [<- hW0]; exact World.alloc_heap_new w _
  have hb0 : Below w.heap.size w W0 := by rw [<- hW0]; exact (Below.refl _ w).alloc (Nat.le_refl _) _
  rw [hW0]
  obtain ⟨W1, hW1⟩ : ∃ W1, (W0.alloc (.deferred (some []))).alloc (.loop (mD fn (.func (.func g) #[] lb) w.heap.size W0.heap.size .ready none)) = W1 := ⟨_, rfl⟩
  have hold : ∀ k, k < W0.heap.size -> W1.heap[k]? = W0.heap[k]? := fun k hk => by
    rw [<- hW1]; exact (Below.heap_alloc _ _ k (by simp; omega)).trans (Below.heap_alloc _ _ k hk)
  have hb1 : Below w.heap.size w W1 := by rw [<- hW1]; exact (hb0.alloc hb0.size _).alloc (by have := hb0.size; simp; omega) _
  have hM : GU w fn (.func (.func g) #[] lb) w.heap.size (W0.heap.size + 1) W0.heap.size [] W1 :=
    ⟨⟨_, (hold w.heap.size (by omega)).trans hv0, ⟨rfl, .inl ⟨rfl, rfl⟩⟩, by simp⟩,
     by rw [<- hW1]; have := World.alloc_heap_new (W0.alloc (.deferred (some []))) (.loop (mD fn (.func (.func g) #[] lb) w.heap.size W0.heap.size .ready none)); rwa [World.size_alloc] at this,
     by rw [<- hW1]; exact (Below.heap_alloc _ _ _ (by simp)).trans (World.alloc_heap_new W0 _), hb1⟩
  refine ⟨W0.heap.size + 1, [{ target := .collected W0.heap.size, args := #[] }], W1, { target := .fn (.func g) lb, args := #[.func (.yield (W0.heap.size + 1)) #[] #[]] }, W1, g,
    #[.func (.yield (W0.heap.size + 1)) #[] #[]] ++ lb, W1, ?_, ?_, ?_, ?_, fun _ => h1, ?_⟩
  · rw [<- hW1]; exact run_enterLoop_outer _ _ _ _ _
  · simp [resolve, go_sem]
  · intro f' hf'; simp [Target.leads] at hf'; subst hf'; exact hFg
  · simp [invoke, go_sem, eg]
  · refine (hseq (W0.heap.size + 1) (GU w fn (.func (.func g) #[] lb) w.heap.size (W0.heap.size + 1) W0.heap.size) (fun _ _ => False) W1 hb1 (Ij _ _ _ _ _ _ _ hb1.size) (fun _ _ _ _ h _ _ => h)
      (fun pre x W hJ hl => by
        obtain ⟨fn', tmps, assign, body, hy, hR⟩ := N6 F (n - 1 - 1) w fn hfn _ w.heap.size (W0.heap.size + 1) W0.heap.size (by omega) (by omega) (by omega) (Nat.le_refl _) (by omega) N hN hNb pre x W hJ hl
        exact ⟨fn', tmps, assign, body, hy, hR.mono fun e W' h => .inl h⟩) hM).mono ?_
    rintro e W2 ⟨⟨v0, rfl⟩, ⟨ss, hS, h2⟩ | ⟨_, _, hf⟩⟩
    case inr => exact hf.elim
    obtain ⟨v, hv, hrow, hnil⟩ := h2.box
    have hend := run_endLoop (P := Tryz.prog) h2.L (by simp [mD])
    obtain ⟨W3, hW3⟩ : ∃ W3, W2.putObj (W0.heap.size + 1) (.loop { mD fn (.func (.func g) #[] lb) w.heap.size W0.heap.size .ready none with state := .exhausted }) = W3 := ⟨_, rfl⟩
    rw [hW3] at hend
    have hg3 : W2.grownBy W3 (some (W0.heap.size + 1)) := by rw [<- hW3]; exact grownBy_putObj_a _ _ _
    have hv3 : W3.heap[w.heap.size]? = some (.cells #[v] 28 (0, 0)) := by rw [<- hW3]; exact (World.putObj_heap_other (by omega)).trans hv
    have hK3 : W3.heap[W0.heap.size]? = some (.deferred (some [])) := by rw [<- hW3]; exact (World.putObj_heap_other (by omega)).trans h2.K
    have hrow3 := hrow.kept hg3 (ownsRow_ne_a hrow h2.L (fun cur e => by cases e))
    have hb3 : Below w.heap.size w W3 := h2.below.grown hg3 h2.below.size (fun k e => by cases e; omega)
    obtain ⟨hc3, hf3⟩ := cell_of_box_a hv3
    clear hW3
    refine ⟨none, W3, hend, ?_⟩
    gi_wp2
    rw [<- hs0]
    refine ⟨by simp, .inl ⟨_, _, rfl, run_takeDeferred hK3, ?_⟩⟩
    exact ⟨_, results_tmp rfl _ _ _, v, ss, rfl, hS, hrow3.kept (grownBy_putObj_a _ _ _) (ownsRow_ne_a hrow3 hK3 (fun cur e => by cases e)), hnil, hb3.grown (grownBy_putObj_a _ _ _) hb3.size (fun k e => by cases e; omega)⟩
theorem Nu (F:Fence) (n:Nat) (hC:F.fn 137) (hF:F.fn 176) (hro:F.round = none) (hn:3 <= n) (g:Nat) (lb:Array Value) (hFg:F.fn g) (eg:∀ args w,(callFunc g args).run Tryz.prog w = .ok (.enter g args) w)
  (S:List (ByteArray) -> Prop) (N:Nat) (hN:N <= maxLen) (hNb:N * 16 <= 140737488355328) (w:World) (hseq:SeqStopsK F (n - 1 - 1) Tryz.prog g lb (fun x=>#[encS x]) (Lp w.heap.size) S (fun _=>True) N w) :
  CallsIn F n Tryz.prog 137 #[.func (.func g) #[] lb] w fun e w'=>∃ (v:Value) (ss:List (ByteArray)),e = .returned v /\ S ss /\ w'.ownsRow w.heap.size 9 1 v ss.length (ss.flatMap oK) /\ (v = .slice none 0 0 ↔ ss = []) /\ Below w.heap.size w w':=by
 have h1:1 <= n:=by omega
 refine callsIn_of_wp Tryz.func137 rfl hC ?_ hro
 simp only [Tryz.ntmps137,List.size_toArray,length_cons,length_nil,reduceAdd,reduceSub,Array.replicate_succ,Array.replicate_zero,List.push_toArray,append_toArray,List.nil_append,List.cons_append]
 gi_wp2_with (gi_at_call 176; refine (Ih F (n - 1) hF hro (by omega) g lb hFg eg S N hN hNb _ hseq).mono ?_; rintro e w' ⟨v,ss,rfl,hS,hrow,hnil,hb⟩)
 go_ret
 exact ⟨v,ss,rfl,hS,hrow,hnil,hb⟩
end Go.AxC
end
section
namespace Go.Proofs
open Go.Shelf
def Tryz.sort64_ren:Go.Shelf.Ren:=⟨fun | 6=>64 | 8=>112 | 9=>111 | 19=>158 | 20=>159 | 21=>149 | 22=>150 | 23=>151 | 24=>152 | 25=>153 | 26=>154 | 27=>155 | 28=>156 | 29=>157 | 36=>180 | 31=>181 | 32=>182 | 37=>183 | 38=>184 | 39=>175 | 41=>215 | n=>n,fun | 27=>28 | 29=>9 | 3=>3 | 32=>142 | 26=>28 | 0=>0 | 44=>179 | 46=>181 | 4=>4 | 36=>172 | 35=>171 | 41=>116 | 5=>5 | 9=>9 | 53=>204 | 57=>208 | 63=>233 | 64=>234 | n=>n,fun | n=>n⟩
theorem Tryz.sort64:Go.Proofs.SlLaysM.n6 Tryz.prog Tryz.sort64_ren:={
 mixed:=by kernel_rfl
 f6:=⟨Tryz.f64.name,by decide,Tryz.func64.trans (congrArg some (by kernel_rfl))⟩
 f8:=Tryz.func112.trans (congrArg some (by kernel_rfl))
 f9:=⟨Tryz.f111.name,by decide,Tryz.func111.trans (congrArg some (by kernel_rfl))⟩
 f19:=Tryz.func158.trans (congrArg some (by kernel_rfl))
 f20:=Tryz.func159.trans (congrArg some (by kernel_rfl))
 f21:=⟨Tryz.f149.name,by decide,Tryz.func149.trans (congrArg some (by kernel_rfl))⟩
 f22:=⟨Tryz.f150.name,by decide,Tryz.func150.trans (congrArg some (by kernel_rfl))⟩
 f23:=⟨Tryz.f151.name,by decide,Tryz.func151.trans (congrArg some (by kernel_rfl))⟩
 f24:=⟨Tryz.f152.name,by decide,Tryz.func152.trans (congrArg some (by kernel_rfl))⟩
 f25:=⟨Tryz.f153.name,by decide,Tryz.func153.trans (congrArg some (by kernel_rfl))⟩
 f26:=⟨Tryz.f154.name,by decide,Tryz.func154.trans (congrArg some (by kernel_rfl))⟩
 f27:=⟨Tryz.f155.name,by decide,Tryz.func155.trans (congrArg some (by kernel_rfl))⟩
 f28:=⟨Tryz.f156.name,by decide,Tryz.func156.trans (congrArg some (by kernel_rfl))⟩
 f29:=⟨Tryz.f157.name,by decide,Tryz.func157.trans (congrArg some (by kernel_rfl))⟩
 f31:=Tryz.func181.trans (congrArg some (by kernel_rfl))
 f32:=Tryz.func182.trans (congrArg some (by kernel_rfl))
 f36:=⟨Tryz.f180.name,by decide,Tryz.func180.trans (congrArg some (by kernel_rfl))⟩
 f37:=⟨Tryz.f183.name,by decide,Tryz.func183.trans (congrArg some (by kernel_rfl))⟩
 f38:=⟨Tryz.f184.name,by decide,Tryz.func184.trans (congrArg some (by kernel_rfl))⟩
 f39:=⟨Tryz.f175.name,by decide,Tryz.func175.trans (congrArg some (by kernel_rfl))⟩
 f41:=⟨Tryz.f215.name,by decide,Tryz.func215.trans (congrArg some (by kernel_rfl))⟩
 t0:=Tryz.underlying0
 a0:=Tryz.isAgg0
 z0:=Tryz.sizeOf0
 v0:=Tryz.zeroValue0
 t3:=Tryz.underlying3
 a3:=Tryz.isAgg3
 z3:=Tryz.sizeOf3
 v3:=Tryz.zeroValue3
 t4:=Tryz.underlying4
 a4:=Tryz.isAgg4
 z4:=Tryz.sizeOf4
 v4:=Tryz.zeroValue4
 t5:=Tryz.underlying5
 a5:=Tryz.isAgg5
 z5:=Tryz.sizeOf5
 v5:=Tryz.zeroValue5
 t9:=Tryz.underlying9
 a9:=Tryz.isAgg9
 z9:=Tryz.sizeOf9
 v9:=Tryz.zeroValue9
 t26:=Tryz.underlying28
 a26:=Tryz.isAgg28
 z26:=Tryz.sizeOf28
 v26:=Tryz.zeroValue28
 t27:=Tryz.underlying28
 a27:=Tryz.isAgg28
 z27:=Tryz.sizeOf28
 v27:=Tryz.zeroValue28
 t29:=Tryz.underlying9
 a29:=Tryz.isAgg9
 z29:=Tryz.sizeOf9
 v29:=Tryz.zeroValue9
 t32:=Tryz.underlying142
 a32:=Tryz.isAgg142
 z32:=Tryz.sizeOf142
 v32:=Tryz.zeroValue142
 t35:=Tryz.underlying171
 a35:=Tryz.isAgg171
 z35:=Tryz.sizeOf171
 v35:=Tryz.zeroValue171
 t36:=Tryz.underlying172
 a36:=Tryz.isAgg172
 z36:=Tryz.sizeOf172
 v36:=Tryz.zeroValue172
 t41:=Tryz.underlying116
 a41:=Tryz.isAgg116
 z41:=Tryz.sizeOf116
 v41:=Tryz.zeroValue116
 t44:=Tryz.underlying179
 a44:=Tryz.isAgg179
 z44:=Tryz.sizeOf179
 v44:=Tryz.zeroValue179
 t46:=Tryz.underlying181
 a46:=Tryz.isAgg181
 z46:=Tryz.sizeOf181
 v46:=Tryz.zeroValue181
 t53:=Tryz.underlying204
 a53:=Tryz.isAgg204
 z53:=Tryz.sizeOf204
 v53:=Tryz.zeroValue204
 t57:=Tryz.underlying208
 a57:=Tryz.isAgg208
 z57:=Tryz.sizeOf208
 v57:=Tryz.zeroValue208
 t63:=Tryz.underlying233
 a63:=Tryz.isAgg233
 z63:=Tryz.sizeOf233
 v63:=Tryz.zeroValue233
 t64:=Tryz.underlying234
 a64:=Tryz.isAgg234
 z64:=Tryz.sizeOf234
 v64:=Tryz.zeroValue234 }
def Tryz.sort128_ren:Go.Shelf.Ren:=⟨fun | 6=>128 | 15=>112 | 14=>174 | 28=>158 | 29=>159 | 20=>207 | 21=>208 | 22=>209 | 23=>210 | 24=>211 | 25=>212 | 26=>213 | 27=>214 | 46=>242 | 47=>181 | 48=>182 | 49=>243 | 50=>244 | 57=>283 | n=>n,fun | 22=>40 | 24=>46 | 25=>123 | 3=>3 | 39=>142 | 0=>0 | 53=>179 | 55=>181 | 4=>4 | 46=>172 | 45=>171 | 50=>116 | 5=>5 | 9=>9 | 66=>204 | 70=>208 | 76=>233 | 77=>234 | n=>n,fun | n=>n⟩
theorem Tryz.sort128:Go.Proofs.SlLaysF0.n6 Tryz.prog Tryz.sort128_ren:={
 mixed:=by kernel_rfl
 f6:=⟨Tryz.f128.name,by decide,Tryz.func128.trans (congrArg some (by kernel_rfl))⟩
 f14:=⟨Tryz.f174.name,by decide,Tryz.func174.trans (congrArg some (by kernel_rfl))⟩
 f15:=Tryz.func112.trans (congrArg some (by kernel_rfl))
 f20:=⟨Tryz.f207.name,by decide,Tryz.func207.trans (congrArg some (by kernel_rfl))⟩
 f21:=⟨Tryz.f208.name,by decide,Tryz.func208.trans (congrArg some (by kernel_rfl))⟩
 f22:=⟨Tryz.f209.name,by decide,Tryz.func209.trans (congrArg some (by kernel_rfl))⟩
 f23:=⟨Tryz.f210.name,by decide,Tryz.func210.trans (congrArg some (by kernel_rfl))⟩
 f24:=⟨Tryz.f211.name,by decide,Tryz.func211.trans (congrArg some (by kernel_rfl))⟩
 f25:=⟨Tryz.f212.name,by decide,Tryz.func212.trans (congrArg some (by kernel_rfl))⟩
 f26:=⟨Tryz.f213.name,by decide,Tryz.func213.trans (congrArg some (by kernel_rfl))⟩
 f27:=⟨Tryz.f214.name,by decide,Tryz.func214.trans (congrArg some (by kernel_rfl))⟩
 f28:=Tryz.func158.trans (congrArg some (by kernel_rfl))
 f29:=Tryz.func159.trans (congrArg some (by kernel_rfl))
 f46:=⟨Tryz.f242.name,by decide,Tryz.func242.trans (congrArg some (by kernel_rfl))⟩
 f47:=Tryz.func181.trans (congrArg some (by kernel_rfl))
 f48:=Tryz.func182.trans (congrArg some (by kernel_rfl))
 f49:=⟨Tryz.f243.name,by decide,Tryz.func243.trans (congrArg some (by kernel_rfl))⟩
 f50:=⟨Tryz.f244.name,by decide,Tryz.func244.trans (congrArg some (by kernel_rfl))⟩
 f57:=⟨Tryz.f283.name,by decide,Tryz.func283.trans (congrArg some (by kernel_rfl))⟩
 t0:=Tryz.underlying0
 a0:=Tryz.isAgg0
 z0:=Tryz.sizeOf0
 v0:=Tryz.zeroValue0
 t3:=Tryz.underlying3
 a3:=Tryz.isAgg3
 z3:=Tryz.sizeOf3
 v3:=Tryz.zeroValue3
 t4:=Tryz.underlying4
 a4:=Tryz.isAgg4
 z4:=Tryz.sizeOf4
 v4:=Tryz.zeroValue4
 t5:=Tryz.underlying5
 a5:=Tryz.isAgg5
 z5:=Tryz.sizeOf5
 v5:=Tryz.zeroValue5
 t9:=Tryz.underlying9
 a9:=Tryz.isAgg9
 z9:=Tryz.sizeOf9
 v9:=Tryz.zeroValue9
 t22:=Tryz.underlying40
 a22:=Tryz.isAgg40
 z22:=Tryz.sizeOf40
 v22:=Tryz.zeroValue40
 t25:=Tryz.underlying123
 a25:=Tryz.isAgg123
 z25:=Tryz.sizeOf123
 v25:=Tryz.zeroValue123
 t39:=Tryz.underlying142
 a39:=Tryz.isAgg142
 z39:=Tryz.sizeOf142
 v39:=Tryz.zeroValue142
 t45:=Tryz.underlying171
 a45:=Tryz.isAgg171
 z45:=Tryz.sizeOf171
 v45:=Tryz.zeroValue171
 t46:=Tryz.underlying172
 a46:=Tryz.isAgg172
 z46:=Tryz.sizeOf172
 v46:=Tryz.zeroValue172
 t50:=Tryz.underlying116
 a50:=Tryz.isAgg116
 z50:=Tryz.sizeOf116
 v50:=Tryz.zeroValue116
 t53:=Tryz.underlying179
 a53:=Tryz.isAgg179
 z53:=Tryz.sizeOf179
 v53:=Tryz.zeroValue179
 t55:=Tryz.underlying181
 a55:=Tryz.isAgg181
 z55:=Tryz.sizeOf181
 v55:=Tryz.zeroValue181
 t66:=Tryz.underlying204
 a66:=Tryz.isAgg204
 z66:=Tryz.sizeOf204
 v66:=Tryz.zeroValue204
 t70:=Tryz.underlying208
 a70:=Tryz.isAgg208
 z70:=Tryz.sizeOf208
 v70:=Tryz.zeroValue208
 t76:=Tryz.underlying233
 a76:=Tryz.isAgg233
 z76:=Tryz.sizeOf233
 v76:=Tryz.zeroValue233
 t77:=Tryz.underlying234
 a77:=Tryz.isAgg234
 z77:=Tryz.sizeOf234
 v77:=Tryz.zeroValue234 }
end Go.Proofs
end
section
namespace Go.AxC
open Go Go.Proofs Go.Ax Go.RowKit Go.Maps Go.Sort Go.Shelf
def Bf (s t:ByteArray):Int:=match Op.bytesLess s.toList t.toList with
 | true=>-1
 | false=>match Op.bytesLess t.toList s.toList with
  | true=>1
  | false=>0
def BR (x y:Bool × ByteArray):Int:=match x.1,y.1 with
 | true,false=>1
 | false,true=>-1
 | _,_=>Bf x.2 y.2
theorem PE (s:ByteArray) (w:World):Calls Tryz.prog 175 #[.string s] w fun e w'=>e = .returned (.bool false) /\ w' = w:=by
 go_enter Tryz.func175,Tryz.ntmps175
 go_wp2
 go_ret
 exact ⟨rfl,rfl⟩
theorem AY:∀ a b:List UInt8,(!Op.bytesLess a b && !(a == b)) = Op.bytesLess b a
 | [],[]=>by decide
 | [],b :: y=>by simp [Op.bytesLess]
 | a :: x,[]=>by simp [Op.bytesLess]
 | a :: x,b :: y=>by
  have ih:=AY x y
  simp only [Op.bytesLess,List.cons_beq_cons]
  rcases Nat.lt_trichotomy a.toNat b.toNat with h | h | h
  ·have h1:a < b:=UInt8.lt_iff_toNat_lt.2 h
   have h2:¬ b < a:=fun e=>by have:=UInt8.lt_iff_toNat_lt.1 e; omega
   have h3:¬ b = a:=fun e=>by subst e; omega
   simp [h1,h2,h3]
  ·have h0:a = b:=UInt8.toNat_inj.1 h
   subst h0
   have h2:¬ a < a:=fun e=>by have:=UInt8.lt_iff_toNat_lt.1 e; omega
   simp only [h2,decide_false,BEq.rfl,Bool.true_and,Bool.false_or]
   exact ih
  ·have h1:b < a:=UInt8.lt_iff_toNat_lt.2 h
   have h2:¬ a < b:=fun e=>by have:=UInt8.lt_iff_toNat_lt.1 e; omega
   have h3:¬ a = b:=fun e=>by subst e; omega
   simp [h1,h2,h3]
theorem J8 (s t:ByteArray) (w:World):(binOp .gtr 9 (.string s) (.string t)).run Tryz.prog w = .ok (.bool (Op.bytesLess t.toList s.toList)) w:=by
 simp only [binOp]
 simp only [Op.stringOp,Bool.not_or,AY]
 rfl
theorem K0 (s t:ByteArray) (w:World):Calls Tryz.prog 130 #[.string s,.string t] w fun e w'=>e = .returned (.int .i64 (Bf s t)) /\ w' = w:=by
 have hg:=J8 s t w
 go_enter Tryz.func130,Tryz.ntmps130
 go_wp2_with (go_at_call 175; refine (PE _ _).mono ?_; rintro e w' ⟨rfl,rfl⟩)
 all_goals go_ret
 all_goals refine ⟨?_,rfl⟩
 all_goals simp [Bf, *]
theorem OV (x y : Bool × ByteArray) (w : World) : Calls Tryz.prog 89 #[pJ x, pJ y] w fun e w' => e = .returned (.int .i64 (BR x y)) /\ ∃ os, w' = grow w os := by
  obtain ⟨x1, x2⟩ := x
  obtain ⟨y1, y2⟩ := y
  suffices h : Calls Tryz.prog 89 #[.agg #[.bool x1, .string x2], .agg #[.bool y1, .string y2]] w fun e w' => e = .returned (.int .i64 (BR (x1, x2) (y1, y2))) /\ w' = grow w #[.cells #[.bool x1, .string x2] 46, .cells #[.bool y1, .string y2] 46] from h.mono fun e w' ⟨h1, h2⟩ => ⟨h1, _, h2⟩
  have hw : grow w #[.cells #[.bool x1, .string x2] 46, .cells #[.bool y1, .string y2] 46] = (w.alloc (.cells #[.bool x1, .string x2] 46)).alloc (.cells #[.bool y1, .string y2] 46) := by
    simp only [alloc_eq_grow, grow_grow]; rfl
  rw [hw]
  clear hw
  cases x1 <;> cases y1 <;>
  (go_enter Tryz.func89, Tryz.ntmps89
   go_wp2_with (go_at_call 130; refine (K0 _ _ _).mono ?_; rintro e w' ⟨rfl, rfl⟩)
   go_ret
   exact ⟨rfl, rfl⟩)
end Go.AxC
end
section
namespace Go.AxC
open Go Go.Proofs Go.Ax Go.RowKit Go.Sort
section
structure Ob {α:Type} (lt:α -> α -> Bool):Prop where
 irrefl:∀ x,lt x x = false
 trans:∀ x y z,lt x y = true -> lt y z = true -> lt x z = true
 total:∀ x y,lt x y = false -> lt y x = false -> x = y
section
variable {α:Type} {lt:α -> α -> Bool}
theorem Ob.asymm (h:Ob lt) {x y:α} (hx:lt x y = true):lt y x = false:=by
 cases hy:lt y x with
 | false=>rfl
 | true=>have:=h.trans _ _ _ hx hy; rw [h.irrefl] at this; cases this
theorem Ob.swo (h:Ob lt):SWO lt:=by
 refine ⟨h.irrefl,h.trans,fun x y z h1 h2=>?_⟩
 cases h3:lt x z with
 | false=>rfl
 | true=>
  cases h4:lt z y with
  | true=>have:=h.trans _ _ _ h3 h4; rw [h1] at this; cases this
  | false=>
   have:=h.total _ _ h2 h4
   subst this
   rw [h1] at h3; cases h3
def AD (lt:α -> α -> Bool) (x:α):List α -> List α
 | []=>[x]
 | y :: r=>if lt x y then x :: y :: r else y :: AD lt x r
def gN (lt:α -> α -> Bool) (l:List α):List α:=l.foldl (fun acc x=>AD lt x acc) []
def QH (lt:α -> α -> Bool) (l:List α):Prop:=l.Pairwise fun x y=>lt y x = false
theorem yY (x:α):∀ l,(AD lt x l).Perm (x :: l)
 | []=>.refl _
 | y :: r=>by
  simp only [AD]
  split
  ·exact .refl _
  ·exact ((yY x r).cons y).trans (.swap x y r)
theorem Gg (h:Ob lt) (x:α):∀ l,QH lt l -> QH lt (AD lt x l)
 | [],_=>by simp [AD,QH]
 | y :: r,hs=>by
  rw [QH,pairwise_cons] at hs
  obtain ⟨h1,h2⟩:=hs
  simp only [AD]
  split
  ·rename_i hxy
   refine pairwise_cons.2 ⟨fun z hz=>?_,pairwise_cons.2 ⟨h1,h2⟩⟩
   rcases mem_cons.1 hz with rfl | hz
   ·exact h.asymm hxy
   ·cases hzx:lt z x with
    | false=>rfl
    | true=>have:=h.trans _ _ _ hzx hxy; rw [h1 z hz] at this; cases this
  ·rename_i hxy
   refine pairwise_cons.2 ⟨fun z hz=>?_,Gg h x r h2⟩
   rcases mem_cons.1 ((yY x r).mem_iff.1 hz) with rfl | hz
   ·simpa using hxy
   ·exact h1 z hz
theorem B9:∀ (l acc:List α),(l.foldl (fun acc x=>AD lt x acc) acc).Perm (acc ++ l)
 | [],acc=>by simp
 | x :: l,acc=>by
  refine (B9 l _).trans ?_
  refine ((yY x acc).append_right l).trans ?_
  exact List.perm_middle.symm
theorem kK (l:List α):(gN lt l).Perm l:=by
 have:=B9 (lt:=lt) l []
 rw [List.nil_append] at this
 exact this
theorem DF (h:Ob lt):∀ (l acc:List α),QH lt acc -> QH lt (l.foldl (fun acc x=>AD lt x acc) acc)
 | [],acc,ha=>ha
 | x :: l,acc,ha=>DF h l _ (Gg h x acc ha)
theorem tQ (h:Ob lt) (l:List α):QH lt (gN lt l):=DF h l [] List.Pairwise.nil
theorem Rp (h:Ob lt) {l l':List α} (hp:l.Perm l') (h1:QH lt l) (h2:QH lt l'):l = l':=
 List.Perm.eq_of_pairwise (le:=fun x y=>lt y x = false) (fun a b _ _ ha hb=>h.total _ _ hb ha) h1 h2 hp
theorem Ff (h:Ob lt) {l l':List α} (hp:l.Perm l'):gN lt l = gN lt l':=Rp h ((kK l).trans (hp.trans (kK l').symm)) (tQ h l) (tQ h l')
theorem Ge {lk:List V -> List V -> Bool} (abs:α -> List V) (x:α):∀ l,Gf lk (abs x) (l.map abs) = (AD (fun x y=>lk (abs x) (abs y)) x l).map abs
 | []=>rfl
 | y :: r=>by
  simp only [map_cons,Gf,AD]
  split
  ·rfl
  ·simp only [map_cons,Ge abs x r]
theorem DE {lk:List V -> List V -> Bool} (abs:α -> List V):∀ (l acc:List α),(l.map abs).foldl (fun acc x=>Gf lk x acc) (acc.map abs) = (l.foldl (fun acc x=>AD (fun x y=>lk (abs x) (abs y)) x acc) acc).map abs
 | [],_=>rfl
 | x :: l,acc=>by
  simp only [map_cons,List.foldl_cons,Ge]
  exact DE abs l _
theorem yF {lk:List V -> List V -> Bool} (abs:α -> List V) (l:List α):lV lk (l.map abs) = (gN (fun x y=>lk (abs x) (abs y)) l).map abs:=DE abs l []
end
def nM (x:ByteArray):List V:=[.str (Ax.bytes x)]
def zQ (x:Bool × ByteArray):List V:=[.bool x.1,.str (Ax.bytes x.2)]
def CQ (x y:ByteArray):Bool:=strLt (nM x) (nM y)
def Jc (x y:Bool × ByteArray):Bool:=F5 (zQ x) (zQ y)
theorem Ae (a:List UInt8):Op.bytesLess a a = false:=by
 have:=AY a a
 simpa using this.symm
theorem vO (a b c:List UInt8) (h1:Op.bytesLess a b = true) (h2:Op.bytesLess b c = true):Op.bytesLess a c = true:=by
 rw [bytesLess_eq] at *
 simp only [decide_eq_true_eq] at *
 exact List.lt_trans h1 h2
theorem vP (a b:List UInt8) (h1:Op.bytesLess a b = false) (h2:Op.bytesLess b a = false):a = b:=by
 have:=AY a b
 rw [h1,h2] at this
 simpa using this
theorem toList_data (x:ByteArray):x.toList = x.data.toList:=by rw [ByteArray.toList_eq]
theorem BM (x y:ByteArray):CQ x y = Op.bytesLess x.data.toList y.data.toList:=by
 show slt (Ax.bytes x) (Ax.bytes y) = _
 exact Dc _ _
theorem KM {x y:ByteArray} (h:x.data.toList = y.data.toList):x = y:=by
 cases x; cases y
 simp only [ByteArray.mk.injEq]
 exact Array.toList_inj.1 h
theorem LH:Ob CQ:=by
 refine ⟨fun x=>?_,fun x y z h1 h2=>?_,fun x y h1 h2=>?_⟩
 ·rw [BM]; exact Ae _
 ·rw [BM] at *; exact vO _ _ _ h1 h2
 ·rw [BM] at *; exact KM (vP _ _ h1 h2)
theorem Eu (x y:Bool × ByteArray):Jc x y = match x.1,y.1 with
  | false,true=>true
  | true,false=>false
  | _,_=>CQ x.2 y.2:=by
 obtain ⟨a,x⟩:=x
 obtain ⟨b,y⟩:=y
 cases a <;> cases b <;> rfl
theorem Hh:Ob Jc:=by
 refine ⟨fun x=>?_,fun x y z h1 h2=>?_,fun x y h1 h2=>?_⟩
 ·rw [Eu]; obtain ⟨a,x⟩:=x; cases a <;> exact LH.irrefl _
 ·rw [Eu] at *
  obtain ⟨a,x⟩:=x
  obtain ⟨b,y⟩:=y
  obtain ⟨c,z⟩:=z
  cases a <;> cases b <;> cases c <;> dsimp only at * <;> first | rfl | exact LH.trans _ _ _ h1 h2 | (cases h1; done) | (cases h2; done)
 ·rw [Eu] at *
  obtain ⟨a,x⟩:=x
  obtain ⟨b,y⟩:=y
  cases a <;> cases b <;> dsimp only at * <;> first | (cases h1; done) | (cases h2; done) | (have:=LH.total _ _ h1 h2; subst this; rfl)
theorem BN:ltOf BR = Jc:=by
 funext x y
 rw [Eu]
 obtain ⟨a,x⟩:=x
 obtain ⟨b,y⟩:=y
 have hs:decide (Bf x y < 0) = CQ x y:=by
  rw [BM]
  simp only [Bf,toList_data]
  cases Op.bytesLess x.data.toList y.data.toList <;> cases Op.bytesLess y.data.toList x.data.toList <;> rfl
 cases a <;> cases b <;> first | rfl | exact hs
theorem Ac (ss:List ByteArray):(ss.map fun x=>x.data.toList).mergeSort (fun x y=>decide (x <= y)) = (gN CQ ss).map fun x=>x.data.toList:=by
 have e:(fun x y:List UInt8=>decide (x <= y)) = fun x y=>!Op.bytesLess y x:=by
  funext x y
  rw [bytesLess_eq]
  simp only [<- decide_not]
  congr 1
 rw [e]
 refine List.Perm.eq_of_pairwise (le:=fun x y=>Op.bytesLess y x = false) (fun a b _ _ ha hb=>vP _ _ hb ha) ?_ ?_ ?_
 ·have:=List.pairwise_mergeSort (le:=fun x y=>!Op.bytesLess y x) (fun a b c h1 h2=>by
   simp only [Bool.not_eq_true'] at *
   cases h:Op.bytesLess c a with
   | false=>rfl
   | true=>
    cases h3:Op.bytesLess b c with
    | true=>have:=vO _ _ _ h3 h; rw [h1] at this; cases this
    | false=>have:=vP _ _ h3 h2; subst this; rw [h1] at h; cases h) (fun a b=>by
   cases h:Op.bytesLess b a with
   | false=>simp
   | true=>
    cases h2:Op.bytesLess a b with
    | false=>simp
    | true=>have:=vO _ _ _ h h2; rw [Ae] at this; cases this) (ss.map fun x=>x.data.toList)
  exact this.imp (by simp)
 ·rw [List.pairwise_map]
  have:=tQ LH ss
  exact this.imp (fun {a b} h=>by rw [BM] at h; exact h)
 ·exact (List.mergeSort_perm _ _).trans ((kK ss).symm.map _)
theorem FU (ss:List (Bool × ByteArray)):ss.mergeSort (fun x y=>!Jc y x) = gN Jc ss:=by
 refine List.Perm.eq_of_pairwise (le:=fun x y=>Jc y x = false) (fun a b _ _ ha hb=>Hh.total _ _ hb ha) ?_ (tQ Hh ss) ((List.mergeSort_perm _ _).trans (kK ss).symm)
 have:=List.pairwise_mergeSort (le:=fun x y=>!Jc y x) (fun a b c h1 h2=>by
   simp only [Bool.not_eq_true'] at *
   exact Hh.swo.ntrans _ _ _ h2 h1) (fun a b=>by
   cases h:Jc b a with
   | false=>simp
   | true=>simp [Hh.asymm h]) ss
 exact this.imp (by simp)
end
end Go.AxC
end
section
namespace Go.AxC
open Go Go.Proofs Go.Ax Go.RowKit Go.Maps Go.Sort Go.Shelf
theorem Am (x:ByteArray):encStr x.data.toList = encS x:=by
 cases x; simp [encStr,encS]
theorem zD (ss:List ByteArray):ss.flatMap oK = (ss.map fun x=>x.data.toList).map encStr:=by
 induction ss with
 | nil=>rfl
 | cons x r ih=>simp only [flatMap_cons,map_cons,ih,Am]; rfl
theorem OH (w:World) (g:Nat) (lb:Array Value) (eg:∀ args w,(callFunc g args).run Tryz.prog w = .ok (.enter g args) w)
  (S:List ByteArray -> Prop) (N:Nat) (hN:N <= maxLen) (hNb:N * 16 <= 140737488355328) (hSN:∀ ss,S ss -> ss.length <= N) (hseq:SeqStopsK Fence.wide 2 Tryz.prog g lb (fun x=>#[encS x]) (Lp w.heap.size) S (fun _=>True) N w) :
  Calls Tryz.prog 99 #[.func (.func g) #[] lb] w fun e w'=>∃ (v:Value) (ss:List ByteArray),e = .returned v /\ S ss /\
   w'.ownsRow w.heap.size 9 1 v ss.length ((gN CQ ss).flatMap oK) /\ (v = .slice none 0 0 ↔ ss = []) /\ Below w.heap.size w w':=by
 have hC:=callsIn_wide.1 (Nu Fence.wide 4 trivial trivial rfl (by omega) g lb trivial eg S N hN hNb w hseq)
 go_enter Tryz.func99,Tryz.ntmps99
 go_wp2_with (go_at_call 137; refine hC.mono ?_; rintro e W ⟨v,ss,rfl,hS,hrow,hnil,hb⟩)
 rcases hrow.2 with ⟨rfl,hz⟩ | ⟨gb,cap,cur,rfl,hbase,hgb,r1,r2,r3,r4⟩
 ·have hss:ss = []:=List.eq_nil_of_length_eq_zero hz
  subst hss
  have hN:=AnyM.slices_Sort_string_none Tryz.sort64 none 0 W
  go_wp2_with (go_at_call 64; refine hN.mono ?_; rintro e w' ⟨rfl,rfl⟩)
  go_ret
  exact ⟨.slice none 0 0,[],rfl,hS,by simpa [gN] using hrow,by simp,hb⟩
 ·have hH:Holds encStr W gb 0 (ss.map fun x=>x.data.toList).toArray:=holds_of_block hgb (by rw [<- zD]; simpa using r4)
  have hgl:gb < W.heap.size:=(Array.getElem?_eq_some_iff.1 hgb).1
  have hsz:(ss.map fun x=>x.data.toList).length < 4611686018427387904:=by have:=hSN ss hS; simp; omega
  have cS:=AnyM.slices_Sort_string Tryz.sort64 gb 0 cap (ss.map fun x=>x.data.toList) W hH hgl hsz
  rw [length_map,Ac] at cS
  go_wp2_with (go_at_call 64; refine cS.mono ?_; rintro e w' ⟨rfl,nn,os,rfl⟩)
  go_ret
  refine ⟨_,ss,rfl,hS,?_,hnil,hb.grown (grownBy_sorted _) hb.size (fun j hj=>by cases hj; exact hbase)⟩
  have hp:=(kK (lt:=CQ) ss).length_eq
  have:=ownsRow_sorted (base:=w.heap.size) (ss:=ss.map fun x=>x.data.toList) (ts:=(gN CQ ss).map fun x=>x.data.toList) (n:=nn) (os:=os) (by simp [hp]) hbase hgb (by simpa using r1) r2 r3
  rw [zD]
  simpa using this
theorem oI:∀ (l:List (Bool × ByteArray)) (t:Nat),t < l.length * 2 -> (l.flatMap eL)[t]? = some (eL l[t / 2]!)[t % 2]!
 | [],t,h=>absurd h (by simp)
 | x :: r,0,_=>rfl
 | x :: r,1,_=>rfl
 | x :: r,t + 2,h=>by
  have ih:=oI r t (by simp at h; omega)
  have e1:(t + 2) / 2 = t / 2 + 1:=by omega
  have e2:(t + 2) % 2 = t % 2:=by omega
  rw [e1,e2]
  simpa [eL] using ih
theorem qA:∀ l:List (Bool × ByteArray),(l.flatMap eL).length = l.length * 2
 | []=>rfl
 | x :: r=>by
  have:=qA r
  simp only [flatMap_cons,length_append,length_cons,this]
  simp [eL]
  omega
theorem vS (d:Array (Bool × ByteArray)):(flatK eL 2 d).toList = d.toList.flatMap eL:=by
 apply List.ext_getElem?
 intro t
 by_cases ht:t < d.size * 2
 ·rw [oI _ _ (by simpa using ht),Array.getElem?_toList]
  have:=get_flatK eL 2 d t ht
  have hs:t < (flatK eL 2 d).size:=by simpa using ht
  rw [getElem!_pos (flatK eL 2 d) t hs] at this
  have h2:t / 2 < d.size:=by omega
  have e:d.toList[t / 2]! = d[t / 2]!:=by rw [getElem!_pos d (t / 2) h2,getElem!_pos d.toList (t / 2) (by simpa using h2)]; simp
  rw [Array.getElem?_eq_getElem hs,this,e]
 ·have h1:(d.toList.flatMap eL).length <= t:=by
   rw [qA,Array.length_toList]
   exact Nat.le_of_not_lt ht
  have h2:(flatK eL 2 d).toList.length <= t:=by
   rw [Array.length_toList,size_flatK]
   exact Nat.le_of_not_lt ht
  rw [List.getElem?_eq_none h1,List.getElem?_eq_none h2]
theorem EG {w:World} {g:Nat} {cur:Array Value} {e:TypeId} {Fa:Array Value} (hb:w.heap[g]? = some (.cells cur e (0,0))) (ht:cur.toList.take Fa.size = Fa.toList):Holds id w g 0 Fa:=by
 intro j hj
 refine ⟨?_,by simp [World.frozen?,hb]⟩
 have h1:(cur.toList.take Fa.size)[j]? = Fa.toList[j]?:=by rw [ht]
 rw [getElem?_take_of_lt hj] at h1
 simp only [World.cell?,hb,Nat.zero_add]
 simp only [Option.isSome_none,Bool.false_eq_true,if_false]
 rw [<- Array.getElem?_toList,h1]
 simp [hj]
theorem EH {w:World} {g n:Nat} {os:Array Obj} {cur:Array Value} {e:TypeId} (d:Array Value) (hb:w.heap[g]? = some (.cells cur e (0,0))) :
  (grow (putRow id (Sort.ahead w n) g 0 d) os).heap[g]? = some (.cells (putCells id 0 d cur) e (0,0)):=by
 have hg:g < w.heap.size:=(Array.getElem?_eq_some_iff.1 hb).1
 rw [heap_grow_old _ _ (by simpa using hg)]
 simp [putRow,mapBlock,Sort.ahead,Array.getElem?_modify,hb,onCells]
theorem AF {w:World} {g n:Nat} {os:Array Obj} (d:Array Value):w.grownBy (grow (putRow id (Sort.ahead w n) g 0 d) os) (some g):=by
 refine ⟨rfl,rfl,rfl,by simp,fun k hk hne=>?_⟩
 rw [heap_grow_old _ _ (by simpa using hk)]
 have:g ≠ k:=fun e=>hne (by rw [e])
 simp [putRow,mapBlock,Sort.ahead,Array.getElem?_modify,this]
theorem Be (cur:Array Value) (ts:Array Value) (h:ts.size <= cur.size):(putCells id 0 ts cur).toList.take ts.size = ts.toList:=by
 apply List.ext_getElem?
 intro j
 by_cases hj:j < ts.size
 ·rw [getElem?_take_of_lt hj,Array.getElem?_toList]
  simp [putCells,hj,show j < cur.size by omega]
 ·rw [List.getElem?_take_eq_none (by omega),List.getElem?_eq_none (by simp; omega)]
theorem OI (w:World) (g:Nat) (lb:Array Value) (eg:∀ args w,(callFunc g args).run Tryz.prog w = .ok (.enter g args) w)
  (S:List (Bool × ByteArray) -> Prop) (N:Nat) (hN:N <= maxLen) (hNb:N * 24 <= 140737488355328) (hSN:∀ ss,S ss -> ss.length <= N) (hseq:SeqStopsK Fence.wide 2 Tryz.prog g lb (fun x=>#[pJ x]) (Lp w.heap.size) S (fun _=>True) N w) :
  Calls Tryz.prog 87 #[.func (.func g) #[] lb,.func (.func 89) #[] #[]] w fun e w'=>∃ (v:Value) (ss:List (Bool × ByteArray)),e = .returned v /\ S ss /\
   w'.ownsRow w.heap.size 46 2 v ss.length ((gN Jc ss).flatMap eL) /\ (v = .slice none 0 0 ↔ ss = []) /\ Below w.heap.size w w':=by
 have hC:=callsIn_wide.1 (Nv Fence.wide 4 trivial trivial rfl (by omega) g lb trivial eg S N hN hNb w hseq)
 have eo:∀ args w,(callFunc 89 args).run Tryz.prog w = .ok (.enter 89 args) w:=enters_of Tryz.func89 (by kernel_rfl) rfl
 go_enter Tryz.func87,Tryz.ntmps87
 go_wp2_with (go_at_call 127; refine hC.mono ?_; rintro e W ⟨v,ss,rfl,hS,hrow,hnil,hb⟩)
 rcases hrow.2 with ⟨rfl,hz⟩ | ⟨gb,cap,cur,rfl,hbase,hgb,r1,r2,r3,r4⟩
 ·have hss:ss = []:=List.eq_nil_of_length_eq_zero hz
  subst hss
  have hN:=AnyF.slices_SortFunc_none Tryz.sort128 none 0 (.func (.func 89) #[] #[]) W
  go_wp2_with (go_at_call 128; refine hN.mono ?_; rintro e w' ⟨rfl,rfl⟩)
  go_ret
  exact ⟨.slice none 0 0,[],rfl,hS,by simpa [gN] using hrow,by simp,hb⟩
 ·have hH:HoldsK eL 2 W gb 0 ss.toArray:=EG hgb (by rw [vS]; simpa using r4)
  have hgl:gb < W.heap.size:=(Array.getElem?_eq_some_iff.1 hgb).1
  have hsz:ss.toArray.size < 4611686018427387904:=by have:=hSN ss hS; simp; omega
  have hcmp:CmpLays Tryz.prog 89 #[] eL 2 BR gb 0 ss.toArray.size W:=fun m os dk _ x y=>
   (OV x y (sortWorldK eL 2 W gb 0 m dk os)).mono fun e w' ⟨h1,os',h2⟩=>⟨h1,0,os',h2⟩
  have cS:=AnyQ.slices_SortFunc_total Tryz.sort128 2 Tryz.isAgg46 Tryz.sizeOf46 eL (fun _=>rfl) (fun x v hv=>by simp [eL] at hv; rcases hv with rfl | rfl <;> rfl) BR (by rw [BN]; exact Hh.swo)
   89 #[] gb 0 cap ss.toArray W eo hcmp hH hgl hsz (by rw [BN]; exact Hh.total)
  rw [BN,List.size_toArray,List.toList_toArray,FU] at cS
  go_wp2_with (go_at_call 128; refine cS.mono ?_; rintro e w' ⟨rfl,nn,os,rfl⟩)
  go_ret
  have hp:=(kK (lt:=Jc) ss).length_eq
  have hsF:(flatK eL 2 (gN Jc ss).toArray).size = ss.length * 2:=by simp [hp]
  refine ⟨_,ss,rfl,hS,⟨?_,.inr ⟨gb,cap,_,rfl,hbase,EH _ hgb,r1,r2,?_,?_⟩⟩,hnil,hb.grown (AF _) hb.size (fun j hj=>by cases hj; exact hbase)⟩
  ·rw [<- vS (gN Jc ss).toArray]
   simpa using hsF
  ·simpa [putCells] using r3
  ·have hle:ss.length * 2 <= cap * 2:=Nat.mul_le_mul_right _ r1
   have:=Be cur (flatK eL 2 (gN Jc ss).toArray) (by rw [hsF,r3]; exact hle)
   rw [hsF,vS] at this
   simpa using this
end Go.AxC
end
section
namespace Go.Ax
open Go Go.Proofs
section
def Cx.jY (c:Cx) (w:World) (gb:Nat) (o:O) (n z:Nat):Cx:=
 { c with w:=w,Z:=c.Z ++ [o],blk:=fun b=>if b = c.Z.length then gb else c.blk b,tot:=fun b=>if b = c.Z.length then n else c.tot b,vX:=fun b=>if b = c.Z.length then z else c.vX b }
section
variable {E:Env} {c:Cx}
theorem zP (h:SR E c) {w:World} {gb n z:Nat} {o:O} (hb:Go.RowKit.Below c.w.heap.size c.w w) (hg:c.w.heap.size <= gb):Ext c (c.jY w gb o n z) where
 size:=hb.size
 keep:=fun k hk ho=>by
  refine ⟨hb.block k hk,fun ⟨b,hl,hbk⟩=>?_⟩
  rcases gD hl with hl | ⟨rfl,_⟩
  ·refine ho ⟨b,hl,?_⟩
   have:=dL hl
   simpa [Cx.jY,Nat.ne_of_lt this] using hbk
  ·simp [Cx.jY] at hbk; omega
 len:=by simp [Cx.jY]
 blk:=fun b hb=>by simp [Cx.jY,Nat.ne_of_lt hb]
 tot:=fun b hb=>by simp [Cx.jY,Nat.ne_of_lt hb]
 vX:=fun b hb=>by simp [Cx.jY,Nat.ne_of_lt hb]
 mT:=rfl
 os:=hb.os
 tape:=hb.tape
 output:=hb.output
theorem N_ (h:SR E c) {w:World} {gb n z:Nat} {o:O} (hb:Go.RowKit.Below c.w.heap.size c.w w) (hg:c.w.heap.size <= gb) (ho:tN E (c.jY w gb o n z) c.Z.length o):SR E (c.jY w gb o n z) where
 inj:=fun b b' hl hl' e=>by
  rcases gD hl with hl | ⟨rfl,_⟩ <;> rcases gD hl' with hl' | ⟨rfl,_⟩
  ·have:=dL hl; have:=dL hl'
   refine h.inj b b' hl hl' ?_
   simpa [Cx.jY,Nat.ne_of_lt (dL hl),Nat.ne_of_lt (dL hl')] using e
  ·have:=h.lt hl
   simp [Cx.jY,Nat.ne_of_lt (dL hl)] at e; omega
  ·have:=h.lt hl'
   simp [Cx.jY,Nat.ne_of_lt (dL hl')] at e; omega
  ·rfl
 obj:=fun b o' hbo=>by
  by_cases hlt:b < c.Z.length
  ·have hb':c.Z[b]? = some o':=by simpa [Cx.jY,List.getElem?_append_left hlt] using hbo
   by_cases hl:live c.Z b
   ·refine (h.obj b o' hb').mono (zP h hb hg) hlt ?_
    exact hb.block _ (h.lt hl)
   ·cases o' with
    | dead=>exact True.intro
    | _=>exact (hl ⟨_,hb',rfl⟩).elim
  ·have:b = c.Z.length:=by
    have:=(List.getElem?_eq_some_iff.1 hbo).1
    simp [Cx.jY] at this; omega
   subst this
   simp [Cx.jY] at hbo
   subst hbo
   exact ho
 mT:=fun b hl=>by
  rcases gD hl with hl | ⟨rfl,_⟩
  ·have:=h.mT b hl
   simpa [Cx.jY,Nat.ne_of_lt (dL hl)] using this
  ·intro ha
   have:=h.iF _ ha
   simp [Cx.jY] at this
   omega
 iF:=fun k hk=>by
  have:=h.iF k hk
  have:=hb.size
  show k < w.heap.size
  omega
 gl:=oG (zP h hb hg) h.gl
theorem DU (h:SR E c) {w:World} (hb:Go.RowKit.Below c.w.heap.size c.w w) {t sz len:Nat} {i:Ty} (hi:E.ty t = some i) (hsz:i.size = sz) {v:Value} {xs:List Value} {cs:List V} (hrow:w.ownsRow c.w.heap.size t sz v len xs) (hv:v ≠ .slice none 0 0)
  (hl:cs.length = xs.length) (hok:cs.all V.aW = true) (hr:∀ (c':Cx) (j:Nat) (a:V),cs[j]? = some a -> ∃ x,xs[j]? = some x /\ VR c' a x):jX E c (.sl c.Z.length 0 len none) (c.Z ++ [.cells t cs false]) v w:=by
 rcases hrow.2 with ⟨e,_⟩ | ⟨gb,cap,cur,rfl,hbase,hgb,r1,r2,r3,r4⟩
 ·exact absurd e hv
 have hlen:=hrow.1
 have hcl:cs.length <= cur.size:=by rw [hl,hlen,r3]; exact Nat.mul_le_mul_right _ r1
 have hne:∀ {α:Type} (x y:α),(if c.Z.length = c.Z.length then x else y) = x:=fun x y=>if_pos rfl
 refine ⟨c.jY w gb (.cells t cs false) cur.size sz,rfl,rfl,zP h hb hbase,N_ h hb hbase ⟨cur,?_,?_,⟨i,hi,?_⟩,hcl,(fun e=>by cases e),hok,fun j a hj=>?_⟩,?_⟩
 ·show w.heap[if c.Z.length = c.Z.length then gb else _]? = _
  rw [hne]; exact hgb
 ·show cur.size = if c.Z.length = c.Z.length then _ else _
  rw [hne]
 ·show (if c.Z.length = c.Z.length then sz else _) = _
  rw [hne,hsz]
 ·obtain ⟨x,h1,h2⟩:=hr (c.jY w gb (.cells t cs false) cur.size sz) j a hj
  refine ⟨x,?_,h2⟩
  have hjl:j < len * sz:=by rw [<- hlen]; exact (List.getElem?_eq_some_iff.1 h1).1
  rw [<- r4,getElem?_take_of_lt hjl,Array.getElem?_toList] at h1
  exact h1
 ·have:=VR.sl (c:=c.jY w gb (.cells t cs false) cur.size sz) c.Z.length 0 len none cap (by simp [Cx.jY]) r1 (fun k e=>by cases e) (fun _=>by
   show 0 + cap * (if c.Z.length = c.Z.length then sz else _) = if c.Z.length = c.Z.length then cur.size else _
   rw [hne,hne,r3,Nat.zero_add])
  have e:(c.jY w gb (.cells t cs false) cur.size sz).blk c.Z.length = gb:=if_pos rfl
  rw [e] at this
  exact this
theorem DV (h:SR E c) {w:World} (hb:Go.RowKit.Below c.w.heap.size c.w w):jX E c .aC c.Z (.slice none 0 0) w:=by
 obtain ⟨k1,k2⟩:=tY h (w:=w) hb.size (fun k hk=>hb.block k hk) hb.os hb.tape hb.output
 exact ⟨c.outer w,rfl,rfl,k1,k2,.inl .aC⟩
end
end
end Go.Ax
end
section
namespace Go.AxC
open Go Go.Proofs Go.Ax Go.RowKit Go.Maps Go.Sort Go.Shelf
set_option maxRecDepth 100000 in
theorem E3 (F:Fence) (n:Nat) (hF:F.fn 247) (hro:F.round = none) (hn:1 <= n) (Bm:Nat) (p:Option Addr) (cap:Nat) (xs:List ByteArray) (w:World) (hBm:Bm < w.heap.size) (hx:xs.length <= 1000000)
  (hm:w.cell? ⟨Bm,0,none⟩ = some (.slice p xs.length cap)) (hp:∀ j x,xs[j]? = some x -> ∃ blk off,p = some ⟨blk,off,none⟩ /\ w.cell? ⟨blk,off + j,none⟩ = some (.string x)) :
  SeqStopsK F n Tryz.prog 247 #[.pointer (some ⟨Bm,0,none⟩)] (fun x=>#[encS x]) (Lp w.heap.size) (fun ss=>ss = xs) (fun _=>True) xs.length w:=by
 intro l J Jx W hW hJ hJx hY h0
 replace hm:W.cell? ⟨Bm,0,none⟩ = some (.slice p xs.length cap):=(hW.cell (p:=⟨Bm,0,none⟩) hBm).trans hm
 refine callsIn_of_wp Tryz.func247 rfl hF ?_ hro
 simp only [Tryz.ntmps247,List.size_toArray,length_cons,length_nil,reduceAdd,reduceSub,Array.replicate_succ,Array.replicate_zero,List.push_toArray,append_toArray,List.nil_append,List.cons_append]
 gi_wp2
 gi_loopw [7] (fun v7 wr=>∃ i:Nat,v7 = .int .i64 (i:Int) /\ i <= xs.length /\ J (xs.take i) wr /\ Below w.heap.size w wr)
  (fun v7 wr=>match v7 with | .int _ k=>xs.length - k.toNat | _=>0)
 case atStart=>
  exact ⟨0,rfl,Nat.zero_le _,h0,hW⟩
 case round=>
  obtain ⟨i,rfl,hi,hJi,hb⟩:=hrel
  by_cases hlt:i < xs.length
  ·have hii:((i:Int) < (xs.length:Int)):=by omega
   have hxi:xs[i]? = some xs[i]:=List.getElem?_eq_getElem hlt
   obtain ⟨blk,off,rfl,hc⟩:=hp i _ hxi
   have hc':wr.cell? ⟨blk,off + i,none⟩ = some (.string xs[i]):=(hb.cell (p:=⟨blk,off + i,none⟩) (by
    unfold World.cell? at hc
    cases ho:w.heap[blk]? with
    | none=>simp [ho] at hc
    | some o=>exact (Array.getElem?_eq_some_iff.1 ho).1)).trans hc
   obtain ⟨fn,tmps,assign,body,hy,hR⟩:=hY (xs.take i) xs[i] wr hJi (by simp; omega)
   simp only [encS] at hy
   have htk:xs.take i ++ [xs[i]] = xs.take (i + 1):=by simp
   have h63:IntKind.i64.wrap ((i:Int) + 1) = (i:Int) + 1:=by
    have:i + 1 <= 1000000:=by omega
    simp only [IntKind.wrap,IntKind.bits,IntKind.signed]
    simp
    omega
   gi_wp2
   refine hR.mono ?_
   rintro e W3 (⟨rfl,hJ4,hk3⟩ | ⟨rfl,hJx3⟩)
   ·rw [htk] at hJ4
    gi_wp2
    go_roundw
    case rel=>exact ⟨i + 1,by rw [Int.natCast_add]; rfl,by omega,hJ4,hb.trans hk3.2⟩
    case measure=>
     show xs.length - ((i:Int) + 1).toNat < xs.length - (i:Int).toNat
     omega
   ·gi_wp2
    refine bodyPost_ret (results_none rfl _ _ _) rfl ?_
    exact ⟨⟨_,rfl⟩,.inr ⟨_,trivial,hJx3⟩⟩
  ·have hie:i = xs.length:=by omega
   subst hie
   gi_wp2
   go_end0
   exact ⟨⟨_,rfl⟩,.inl ⟨xs,rfl,by simpa using hJi⟩⟩
end Go.AxC
end
section
namespace Go.AxC
open Go Go.Proofs Go.Ax Go.RowKit Go.Sort
section
section
variable {E:Env} {c:Cx}
theorem tJ (hs:SR E c) {b t:Nat} {X:V} {ex:Bool} (hb:c.Z[b]? = some (.cells t [X] ex)):∃ x,c.w.cell? ⟨c.blk b,0,none⟩ = some x /\ VR c X x /\ c.blk b < c.w.heap.size:=by
 obtain ⟨arr,h1,_,_,_,_,_,h2⟩:=hs.obj b _ hb
 obtain ⟨x,h3,h4⟩:=h2 0 X rfl
 exact ⟨x,by simp [World.cell?,h1,h3],h4,(Array.getElem?_eq_some_iff.1 h1).1⟩
theorem MM (hs:SR E c) {X:V} {es:List (V × V)} (hX:(∃ m,X = .mp m /\ c.Z[m]? = some (.map es)) \/ ∃ g,X = .imp g es) {x:Value} (hv:VR c X x) :
  ∃ blk en cl l,x = .map (some blk) /\ c.w.heap[blk]? = some (.map en cl) /\ S7 en cl /\ l.Perm en.toList /\ iD c es l:=by
 rcases hX with ⟨m,rfl,hm⟩ | ⟨g,rfl⟩
 ·obtain ⟨en,cl,h1,h2,l,h3,h4⟩:=hs.obj m _ hm
  cases hv with
  | mp _ h=>exact ⟨_,en,cl,l,rfl,h1,h2,h3,h4⟩
  | inl h=>cases h
 ·obtain ⟨m,en,cl,l,hx,_,h1,h2,h3,h4⟩:=hv.rE
  exact ⟨m,en,cl,l,hx,h1,h2,h3,h4.MN⟩
theorem rowS {I:Bool -> Nat -> Prop} {w:World} {k:V} {x:Value} (h:qK w I k x) (hr:jZ (rowOf k) = true):∃ y,x = encS y /\ rowOf k = nM y:=by
 cases h with
 | one h=>cases h with
  | str s=>exact ⟨s,rfl,rfl⟩
  | _=>simp [rowOf,V.cells,jZ] at hr
 | agg cs xs h=>
  match cs,hr with
  | [],hr=>simp [rowOf,V.cells,jZ] at hr
  | [_],hr=>simp [rowOf,jZ] at hr
  | _ :: _ :: _,hr=>simp [rowOf,V.cells,jZ] at hr
theorem uG {I:Bool -> Nat -> Prop} {w:World} {k:V} {x:Value} (h:qK w I k x) (hr:q_ (rowOf k) = true):∃ y,x = pJ y /\ rowOf k = zQ y:=by
 cases h with
 | one h=>cases h <;> simp [rowOf,V.cells,q_] at hr
 | agg cs xs h=>
  match cs,hr with
  | [],hr=>simp [rowOf,V.cells,q_] at hr
  | [_],hr=>simp [rowOf,q_] at hr
  | [a,b],hr=>
   cases h with
   | cons _ y _ ys h1 h2=>cases h2 with
    | cons _ z _ zs h3 h4=>
     cases h4
     cases h1 <;> first | (cases h3 <;> first | exact ⟨(_,_),rfl,rfl⟩ | (simp [rowOf,V.cells,q_] at hr; done)) | (simp [rowOf,V.cells,q_] at hr; done)
  | _ :: _ :: _ :: _,hr=>simp [rowOf,V.cells,q_] at hr
theorem Jm {α:Type} {enc:α -> Value} {abs:α -> List V} {p:List V -> Bool} (hrow:∀ {k:V} {x:Value},qK c.w c.bB k x -> p (rowOf k) = true -> ∃ y,x = enc y /\ rowOf k = abs y)
  {es:List (V × V)} {l:List MapEntry} (hm:iD c es l):allRows p (es.map fun e=>rowOf e.1) = true -> ∃ ys:List α,l.map (·.key) = ys.map enc /\ (es.map fun e=>rowOf e.1) = ys.map abs:=by
 induction hm with
 | nil=>exact fun _=>⟨[],rfl,rfl⟩
 | cons k v es e l hk hv hr ih=>
  intro h
  simp only [map_cons,allRows] at h
  split at h
  case h_2=>cases h
  rename_i h1
  obtain ⟨y,e1,e2⟩:=hrow hk h1
  obtain ⟨ys,e3,e4⟩:=ih h
  exact ⟨y :: ys,by simp [e1,e3],by simp [e2,e4]⟩
theorem Nk:∀ zs:List ByteArray,(zs.map nM).flatten.length = (zs.flatMap oK).length /\ (zs.map nM).flatten.all V.aW = true /\ ∀ (c':Cx) (j:Nat) (a:V),(zs.map nM).flatten[j]? = some a -> ∃ x,(zs.flatMap oK)[j]? = some x /\ VR c' a x
 | []=>⟨rfl,rfl,fun _ j a h=>by simp at h⟩
 | z :: zs=>by
  obtain ⟨h1,h2,h3⟩:=Nk zs
  refine ⟨by simp [nM,oK] at h1 ⊢; exact h1,by simp only [map_cons,flatten_cons,List.all_append,h2]; rfl,fun c' j a h=>?_⟩
  match j,h with
  | 0,h=>
   injection (show some (V.str (Ax.bytes z)) = some a from h) with h
   subst h
   exact ⟨.string z,rfl,.inl (.str z)⟩
  | j + 1,h=>exact h3 c' j a h
theorem QT:∀ zs:List (Bool × ByteArray),(zs.map zQ).flatten.length = (zs.flatMap eL).length /\ (zs.map zQ).flatten.all V.aW = true /\ ∀ (c':Cx) (j:Nat) (a:V),(zs.map zQ).flatten[j]? = some a -> ∃ x,(zs.flatMap eL)[j]? = some x /\ VR c' a x
 | []=>⟨rfl,rfl,fun _ j a h=>by simp at h⟩
 | z :: zs=>by
  obtain ⟨h1,h2,h3⟩:=QT zs
  refine ⟨by simp only [map_cons,flatten_cons,flatMap_cons,length_append,h1]; rfl,by simp only [map_cons,flatten_cons,List.all_append,h2]; rfl,fun c' j a h=>?_⟩
  match j,h with
  | 0,h=>
   injection (show some (V.bool z.1) = some a from h) with h
   subst h
   exact ⟨.bool z.1,rfl,.inl (.bool _)⟩
  | 1,h=>
   injection (show some (V.str (Ax.bytes z.2)) = some a from h) with h
   subst h
   exact ⟨.string z.2,rfl,.inl (.str z.2)⟩
  | j + 2,h=>exact h3 c' j a h
end
theorem BB {α:Type} {enc:α -> Value} (dec:Value -> α) (hd:∀ x,dec (enc x) = x) {a b:List α} (h:(a.map enc).Perm (b.map enc)):a.Perm b:=by
 have:=h.map dec
 simpa [map_map,Function.comp_def,hd] using this
def Xs:Value -> ByteArray
 | .string s=>s
 | _=>default
def decL:Value -> Bool × ByteArray
 | .agg #[.bool b,.string s]=>(b,s)
 | _=>default
theorem wI {α:Type} {F:Fence} {n:Nat} {P:Program} {g:Nat} {lb:Array Value} {encs:α -> Array Value} {Kp:World -> World -> Prop} {S S' Sp:List α -> Prop} {N:Nat} {w:World} (h:SeqStopsK F n P g lb encs Kp S Sp N w) (hS:∀ xs,S xs -> S' xs):SeqStopsK F n P g lb encs Kp S' Sp N w:=
 fun l J Jx W hW hJ hJx hY h0=>(h l J Jx W hW hJ hJx hY h0).mono fun e W' ⟨h1,h2⟩=>⟨h1,h2.imp (fun ⟨xs,a,b⟩=>⟨xs,hS xs a,b⟩) id⟩
end
section
section
variable {E:Env} {c:Cx}
theorem Xe (hs:SR E c) {i:Ty} (hi:E.ty 9 = some i) (h1:i.size = 1) (g:Nat) (lb:Array Value) (eg:∀ args w,(callFunc g args).run Tryz.prog w = .ok (.enter g args) w) (ys:List ByteArray) (hlen:ys.length <= 1000000)
  (hseq:SeqStopsK Fence.wide 2 Tryz.prog g lb (fun x=>#[encS x]) (Lp c.w.heap.size) (fun ss=>ss.Perm ys) (fun _=>True) ys.length c.w) :
  rR Tryz.prog 99 [.func (.func g) #[] lb] c.w fun x w'=>(ys = [] -> jX E c .aC c.Z x w') /\ (ys ≠ [] -> jX E c (.sl c.Z.length 0 ys.length none) (c.Z ++ [.cells 9 (lV strLt (ys.map nM)).flatten false]) x w'):=by
 refine .inl ⟨Tryz.call99 _ _,(OH c.w g lb eg _ ys.length (by simp only [maxLen]; omega) (by omega) (fun ss h=>Nat.le_of_eq h.length_eq) hseq).mono ?_⟩
 rintro e w' ⟨v,ss,rfl,hp,hrow,hnil,hb⟩
 have hl:=hp.length_eq
 refine ⟨v,rfl,fun h0=>?_,fun h0=>?_⟩
 ·subst h0
  rw [hnil.2 (List.perm_nil.1 hp)]
  exact DV hs hb
 ·have hss:ss ≠ []:=fun e=>h0 (List.perm_nil.1 (by rw [e] at hp; exact hp.symm))
  have hv:v ≠ .slice none 0 0:=fun e=>hss (hnil.1 e)
  rw [Ff LH hp,hl] at hrow
  obtain ⟨k1,k2,k3⟩:=Nk (gN CQ ys)
  rw [yF nM]
  exact DU hs hb hi h1 hrow hv k1 k2 k3
theorem finL (hs:SR E c) {i:Ty} (hi:E.ty 46 = some i) (h1:i.size = 2) (g:Nat) (lb:Array Value) (eg:∀ args w,(callFunc g args).run Tryz.prog w = .ok (.enter g args) w) (ys:List (Bool × ByteArray)) (hlen:ys.length <= 1000000)
  (hseq:SeqStopsK Fence.wide 2 Tryz.prog g lb (fun x=>#[pJ x]) (Lp c.w.heap.size) (fun ss=>ss.Perm ys) (fun _=>True) ys.length c.w) :
  rR Tryz.prog 87 [.func (.func g) #[] lb,.func (.func 89) #[] #[]] c.w fun x w'=>(ys = [] -> jX E c .aC c.Z x w') /\ (ys ≠ [] -> jX E c (.sl c.Z.length 0 ys.length none) (c.Z ++ [.cells 46 (lV F5 (ys.map zQ)).flatten false]) x w'):=by
 refine .inl ⟨Tryz.call87 _ _,(OI c.w g lb eg _ ys.length (by simp only [maxLen]; omega) (by omega) (fun ss h=>Nat.le_of_eq h.length_eq) hseq).mono ?_⟩
 rintro e w' ⟨v,ss,rfl,hp,hrow,hnil,hb⟩
 have hl:=hp.length_eq
 refine ⟨v,rfl,fun h0=>?_,fun h0=>?_⟩
 ·subst h0
  rw [hnil.2 (List.perm_nil.1 hp)]
  exact DV hs hb
 ·have hss:ss ≠ []:=fun e=>h0 (List.perm_nil.1 (by rw [e] at hp; exact hp.symm))
  have hv:v ≠ .slice none 0 0:=fun e=>hss (hnil.1 e)
  rw [Ff Hh hp,hl] at hrow
  obtain ⟨k1,k2,k3⟩:=QT (gN Jc ys)
  rw [yF zQ]
  exact DU hs hb hi h1 hrow hv k1 k2 k3
theorem Ah {t:Nat} {fk fv:List Nat} {ok:List V -> Bool} {lt:List V -> List V -> Bool} {x:V} {Z σ':Sg} {v:V} (h:AW t fk fv ok lt x Z = some (v,σ')) :
  ∃ rows,keysOf Z fk fv x = some rows /\ allRows ok rows = true /\ Nat.ble rows.length 1000000 = true /\ ((rows = [] /\ v = .aC /\ σ' = Z) \/ (rows ≠ [] /\ v = .sl Z.length 0 rows.length none /\ σ' = Z ++ [.cells t (lV lt rows).flatten false])):=by
 unfold AW at h
 split at h
 ·rename_i hk
  injection h with h; injection h with h1 h2
  exact ⟨[],hk,rfl,rfl,.inl ⟨rfl,h1.symm,h2.symm⟩⟩
 ·rename_i l hne hk
  split at h
  case h_2=>cases h
  rename_i h3 h4
  injection h with h; injection h with h1 h2
  exact ⟨l,hk,h3,h4,.inr ⟨fun e=>hne e,h1.symm,h2.symm⟩⟩
 ·cases h
theorem jQ {n:Nat}:∀ {l:List Nat},FM n l = true -> n ∈ l
 | [],h=>by cases h
 | a :: r,h=>by
  simp only [FM] at h
  split at h
  ·rename_i e
   have e:=Nat.eq_of_beq_eq_true e
   subst e
   exact mem_cons_self ..
  ·exact List.mem_cons_of_mem _ (jQ h)
theorem Nj {f b:Nat} {x:Value} (hv:VR c (.fn f [] [.ref b 0]) x):x = .func (.func f) #[] #[.pointer (some ⟨c.blk b,0,none⟩)]:=by
 cases hv with
 | inl h=>cases h
 | fn _ _ _ xs ys ha hb=>
  cases ha
  cases hb with
  | cons _ y _ zs h1 h2=>
   cases h2
   obtain ⟨e,_⟩:=h1.gU
   rw [e]
theorem uT {I:Bool -> Nat -> Prop} {w:World}:∀ {xs:List (List V)} {blk off:Nat},dZ w I 1 xs blk off -> allRows jZ xs = true -> ∃ ys:List ByteArray,xs = ys.map nM /\ ∀ j y,ys[j]? = some y -> w.cell? ⟨blk,off + j,none⟩ = some (.string y)
 | [],_,_,_,_=>⟨[],rfl,fun j y h=>by simp at h⟩
 | r :: xs,blk,off,h,hok=>by
  cases h with
  | cons _ _ hl hc hr=>
   simp only [allRows] at hok
   split at hok
   case h_2=>cases hok
   rename_i h1
   obtain ⟨ys,e,hy⟩:=uT hr hok
   cases hc with
   | nil=>cases hl
   | cons v x cs h2 h3 h4=>
    cases h4 with
    | cons=>simp at hl
    | nil=>
     cases h3 <;> first | (simp [jZ] at h1; done) | skip
     rename_i s
     refine ⟨s :: ys,by rw [e]; rfl,fun j y hj=>?_⟩
     match j,hj with
     | 0,hj=>injection hj with hj; subst hj; exact h2
     | j + 1,hj=>
      have:=hy j y hj
      rwa [Nat.add_assoc,Nat.add_comm 1 j] at this
theorem nU {I:Bool -> Nat -> Prop} {w:World} {sz:Nat} {xs:List (List V)} {blk off:Nat} (h:dZ w I sz xs blk off) (hok:allRows jZ xs = true):xs = [] \/ sz = 1:=by
 cases h with
 | nil=>exact .inl rfl
 | cons r xs hl hc hr=>
  right
  simp only [allRows] at hok
  split at hok
  case h_2=>cases hok
  rename_i h1
  match r,h1,hl with
  | [],h1,_=>cases h1
  | [_],_,hl=>exact hl.symm
  | _ :: _ :: _,h1,_=>simp [jZ] at h1
theorem pK {cs:List V} {arr:Array Value} (hc:∀ (j:Nat) (v:V),cs[j]? = some v -> ∃ x,arr[j]? = some x /\ VR c v x):∀ (l:List V) (off:Nat),(∀ j v,l[j]? = some v -> cs[off + j]? = some v) -> allRows jZ (l.map fun v=>[v]) = true -> ∃ ys:List ByteArray,(l.map fun v=>[v]) = ys.map nM /\ ∀ j y,ys[j]? = some y -> arr[off + j]? = some (.string y)
 | [],_,_,_=>⟨[],rfl,fun j y h=>by simp at h⟩
 | v :: l,off,hl,hok=>by
  simp only [map_cons,allRows] at hok
  split at hok
  case h_2=>cases hok
  rename_i h1
  obtain ⟨ys,e,hy⟩:=pK hc l (off + 1) (fun j w hj=>by have:=hl (j + 1) w hj; rwa [<- Nat.add_assoc,Nat.add_right_comm] at this) hok
  obtain ⟨x,h2,h3⟩:=hc off v (hl 0 v rfl)
  have hx:∃ s,x = .string s /\ v = .str (Ax.bytes s):=by
   cases v <;> first | (simp [jZ] at h1; done) | skip
   obtain ⟨s,h4,h5⟩:=h3.eH
   exact ⟨s,h4,by rw [h5]⟩
  obtain ⟨s,rfl,rfl⟩:=hx
  refine ⟨s :: ys,by rw [map_cons,e]; rfl,fun j y hj=>?_⟩
  match j,hj with
  | 0,hj=>injection hj with hj; subst hj; exact h2
  | j + 1,hj=>
   have:=hy j y hj
   rwa [Nat.add_assoc,Nat.add_comm 1 j] at this
end
end
section
section
variable {E:Env} {c:Cx}
theorem IZ (hs:SR E c) {i:Ty} (hi:E.ty 9 = some i) (h1:i.size = 1) {f b t:Nat} {X:V} {ex:Bool} {es:List (V × V)} (hf:f ∈ [138,314]) (hb:c.Z[b]? = some (.cells t [X] ex))
  (hX:(∃ m,X = .mp m /\ c.Z[m]? = some (.map es)) \/ ∃ g,X = .imp g es) (hok:allRows jZ (es.map fun e=>rowOf e.1) = true) (hlen:Nat.ble (es.map fun e=>rowOf e.1).length 1000000 = true) :
  ∃ ys:List ByteArray,(es.map fun e=>rowOf e.1) = ys.map nM /\ rR Tryz.prog 99 [.func (.func f) #[] #[.pointer (some ⟨c.blk b,0,none⟩)]] c.w fun x w'=>(ys = [] -> jX E c .aC c.Z x w') /\ (ys ≠ [] -> jX E c (.sl c.Z.length 0 ys.length none) (c.Z ++ [.cells 9 (lV strLt (ys.map nM)).flatten false]) x w'):=by
 obtain ⟨x,hx,hvx,hblt⟩:=tJ hs hb
 obtain ⟨blk,en,cl,l,rfl,h2,h3,h4,h5⟩:=MM hs hX hvx
 obtain ⟨ys,e1,e2⟩:=Jm (enc:=encS) (abs:=nM) (fun h hr=>rowS h hr) h5 hok
 have hl:ys.length <= 1000000:=by rw [e2,length_map] at hlen; exact Nat.le_of_ble_eq_true hlen
 have hken:(en.toList.map (·.key)).Perm (ys.map encS):=by rw [<- e1]; exact (h4.map _).symm
 have hks:∀ x ∈ en.toList.map (·.key),∃ y,x = encS y:=fun x hx=>by
  have:=hken.mem_iff.1 hx
  obtain ⟨y,_,rfl⟩:=mem_map.1 this
  exact ⟨y,rfl⟩
 have hsz:en.size = ys.length:=by have:=hken.length_eq; simpa using this
 refine ⟨ys,e2,Xe hs hi h1 f _ ?_ ys hl ?_⟩
 ·simp only [mem_cons,List.not_mem_nil,or_false] at hf
  rcases hf with rfl | rfl
  ·exact enters_of Tryz.func138 (by kernel_rfl) rfl
  ·exact enters_of Tryz.func314 (by kernel_rfl) rfl
 ·rw [<- hsz]
  simp only [mem_cons,List.not_mem_nil,or_false] at hf
  rcases hf with rfl | rfl
  ·exact wI (HN _ (F7 Fence.wide 2 trivial rfl (by omega) (c.blk b) blk en cl c.w hblt hx h2 h3.st hks)) fun xs hp=>BB Xs (fun _=>rfl) (hp.trans hken)
  ·exact wI (HN _ (F6 Fence.wide 2 trivial rfl (by omega) (c.blk b) blk en cl c.w hblt hx h2 h3.st hks)) fun xs hp=>BB Xs (fun _=>rfl) (hp.trans hken)
theorem I0 (hs:SR E c) {i:Ty} (hi:E.ty 46 = some i) (h1:i.size = 2) {f b t:Nat} {X:V} {ex:Bool} {es:List (V × V)} (hf:f ∈ [129]) (hb:c.Z[b]? = some (.cells t [X] ex))
  (hX:(∃ m,X = .mp m /\ c.Z[m]? = some (.map es)) \/ ∃ g,X = .imp g es) (hok:allRows q_ (es.map fun e=>rowOf e.1) = true) (hlen:Nat.ble (es.map fun e=>rowOf e.1).length 1000000 = true) :
  ∃ ys:List (Bool × ByteArray),(es.map fun e=>rowOf e.1) = ys.map zQ /\ rR Tryz.prog 87 [.func (.func f) #[] #[.pointer (some ⟨c.blk b,0,none⟩)],.func (.func 89) #[] #[]] c.w fun x w'=>(ys = [] -> jX E c .aC c.Z x w') /\ (ys ≠ [] -> jX E c (.sl c.Z.length 0 ys.length none) (c.Z ++ [.cells 46 (lV F5 (ys.map zQ)).flatten false]) x w'):=by
 obtain ⟨x,hx,hvx,hblt⟩:=tJ hs hb
 obtain ⟨blk,en,cl,l,rfl,h2,h3,h4,h5⟩:=MM hs hX hvx
 obtain ⟨ys,e1,e2⟩:=Jm (enc:=pJ) (abs:=zQ) (fun h hr=>uG h hr) h5 hok
 have hl:ys.length <= 1000000:=by rw [e2,length_map] at hlen; exact Nat.le_of_ble_eq_true hlen
 have hken:(en.toList.map (·.key)).Perm (ys.map pJ):=by rw [<- e1]; exact (h4.map _).symm
 have hks:∀ x ∈ en.toList.map (·.key),∃ y,x = pJ y:=fun x hx=>by
  have:=hken.mem_iff.1 hx
  obtain ⟨y,_,rfl⟩:=mem_map.1 this
  exact ⟨y,rfl⟩
 have hsz:en.size = ys.length:=by have:=hken.length_eq; simpa using this
 refine ⟨ys,e2,finL hs hi h1 f _ ?_ ys hl ?_⟩
 ·simp only [mem_cons,List.not_mem_nil,or_false] at hf
  subst hf
  exact enters_of Tryz.func129 (by kernel_rfl) rfl
 ·rw [<- hsz]
  simp only [mem_cons,List.not_mem_nil,or_false] at hf
  subst hf
  exact wI (HN _ (F8 Fence.wide 2 trivial rfl (by omega) (c.blk b) blk en cl c.w hblt hx h2 h3.st hks)) fun xs hp=>BB decL (fun _=>rfl) (hp.trans hken)
theorem AP (hs:SR E c) {i:Ty} (hi:E.ty 9 = some i) (h1:i.size = 1) {f b t:Nat} {X:V} {ex:Bool} (hf:f ∈ [247]) (hb:c.Z[b]? = some (.cells t [X] ex)) (ys:List ByteArray) (hl:ys.length <= 1000000)
  (hX:∀ x,c.w.cell? ⟨c.blk b,0,none⟩ = some x -> VR c X x -> ∃ p cap,x = .slice p ys.length cap /\ ∀ j y,ys[j]? = some y -> ∃ blk off,p = some ⟨blk,off,none⟩ /\ c.w.cell? ⟨blk,off + j,none⟩ = some (.string y)) :
  rR Tryz.prog 99 [.func (.func f) #[] #[.pointer (some ⟨c.blk b,0,none⟩)]] c.w fun x w'=>(ys = [] -> jX E c .aC c.Z x w') /\ (ys ≠ [] -> jX E c (.sl c.Z.length 0 ys.length none) (c.Z ++ [.cells 9 (lV strLt (ys.map nM)).flatten false]) x w'):=by
 obtain ⟨x,hx,hvx,hblt⟩:=tJ hs hb
 obtain ⟨p,cap,rfl,hp⟩:=hX x hx hvx
 simp only [mem_cons,List.not_mem_nil,or_false] at hf
 subst hf
 exact Xe hs hi h1 _ _ (enters_of Tryz.func247 (by kernel_rfl) rfl) ys hl (wI (E3 Fence.wide 2 trivial rfl (by omega) (c.blk b) p cap ys c.w hblt hl hx hp) fun xs e=>by rw [e])
theorem CR {i:Ty} (hi:E.ty 9 = some i) (h1:i.size = 1):gH Tryz.prog E 99 (rF 9 [138,314] [247]):=by
 intro c vs xs v σ' hs hv h
 unfold rF at h
 split at h
 case h_2=>cases h
 rename_i x
 cases hv with
 | cons _ y _ zs hv1 hv2=>
 cases hv2
 obtain ⟨rows,hk,hok,hlen,hres⟩:=Ah h
 have fin:∀ (ys:List ByteArray),rows = ys.map nM -> rR Tryz.prog 99 [y] c.w (fun x w'=>(ys = [] -> jX E c .aC c.Z x w') /\ (ys ≠ [] -> jX E c (.sl c.Z.length 0 ys.length none) (c.Z ++ [.cells 9 (lV strLt (ys.map nM)).flatten false]) x w')) -> rR Tryz.prog 99 [y] c.w (jX E c v σ'):=by
  intro ys e hr
  refine hr.mono fun x w' ⟨k1,k2⟩=>?_
  rcases hres with ⟨r0,rfl,rfl⟩ | ⟨r0,rfl,rfl⟩
  ·exact k1 (by rw [e] at r0; simpa using r0)
  ·have:=k2 (fun e0=>r0 (by rw [e,e0]; rfl))
   rw [e,length_map]
   exact this
 unfold keysOf at hk
 split at hk
 case h_2=>cases hk
 rename_i f b
 have hy:=Nj hv1
 subst hy
 split at hk
 ·rename_i hb hf
  split at hk
  case h_2=>cases hk
  rename_i es hm
  have hk:=Option.some.inj hk
  subst hk
  obtain ⟨ys,e,hr⟩:=IZ hs hi h1 (jQ hf) hb (.inl ⟨_,rfl,hm⟩) hok hlen
  exact fin ys e hr
 ·rename_i hb hf
  have hk:=Option.some.inj hk
  subst hk
  obtain ⟨ys,e,hr⟩:=IZ hs hi h1 (jQ hf) hb (.inr ⟨_,rfl⟩) hok hlen
  exact fin ys e hr
 ·rename_i hb hf
  have hk:=Option.some.inj hk
  subst hk
  refine fin [] rfl (AP hs hi h1 (jQ hf) hb [] (Nat.zero_le _) fun x _ hx=>?_)
  have:x = .slice none 0 0:=by cases hx with | inl h=>cases h; rfl
  exact ⟨none,0,this,fun j y h=>by simp at h⟩
 ·rename_i t g xs full ex hb hf
  have hk:=Option.some.inj hk
  subst hk
  obtain ⟨x0,hx0,hv0,_⟩:=tJ hs hb
  obtain ⟨blk,off,sp,cap,sz,rfl,hsp,_,_,hr⟩:=hv0.mH
  rcases hsp with ⟨rfl,-⟩ | ⟨rfl,rfl⟩
  case inr=>
   refine fin [] rfl (AP hs hi h1 (jQ hf) hb [] (Nat.zero_le _) fun x hx _=>?_)
   rw [hx0] at hx
   have hx:=Option.some.inj hx
   subst hx
   exact ⟨_,0,rfl,fun j y hj=>by simp at hj⟩
  obtain ⟨ys,e,hy⟩:∃ ys:List ByteArray,xs = ys.map nM /\ ∀ j y,ys[j]? = some y -> c.w.cell? ⟨blk,off + j,none⟩ = some (.string y):=by
   rcases nU hr hok with rfl | rfl
   ·exact ⟨[],rfl,fun j y h=>by simp at h⟩
   ·exact uT hr hok
  have hl:xs.length = ys.length:=by rw [e,length_map]
  refine fin ys e (AP hs hi h1 (jQ hf) hb ys (by rw [<- hl]; exact Nat.le_of_ble_eq_true hlen) fun x hx _=>?_)
  rw [hx0] at hx
  have hx:=Option.some.inj hx
  subst hx
  exact ⟨_,cap,by rw [hl],fun j y hj=>⟨blk,off,rfl,hy j y hj⟩⟩
 ·rename_i t m off len cap ex hb hf
  split at hk
  case h_2=>cases hk
  rename_i t' cs ex' hm
  split at hk
  case h_2=>cases hk
  rename_i hle
  have hk:=Option.some.inj hk
  subst hk
  have hle:=Nat.le_of_ble_eq_true hle
  obtain ⟨x0,hx0,hv0,_⟩:=tJ hs hb
  obtain ⟨arr,k1,k2,k3,k4,k5,k6,k7⟩:=hs.obj m _ hm
  obtain ⟨ys,e,hy⟩:=pK k7 ((cs.drop off).take len) off (fun j w hj=>by
   have hjl:j < len:=Nat.lt_of_lt_of_le (List.getElem?_eq_some_iff.1 hj).1 (by rw [List.length_take]; exact Nat.min_le_left _ _)
   rw [getElem?_take_of_lt hjl,List.getElem?_drop] at hj
   exact hj) hok
  have hl:ys.length = len:=by
   have:=congrArg List.length e
   simp only [length_map,List.length_take,List.length_drop] at this
   omega
  cases hv0 with
  | inl h=>cases h
  | sl _ _ _ _ cap' h2 h3 h4 h5=>
   refine fin ys e (AP hs hi h1 (jQ hf) hb ys (by
    have:=Nat.le_of_ble_eq_true hlen
    rw [e,length_map] at this
    exact this) fun x hx _=>?_)
   rw [hx0] at hx
   have hx:=Option.some.inj hx
   subst hx
   exact ⟨_,cap',by rw [hl],fun j y hj=>⟨c.blk m,off,rfl,by
    have:=hy j y hj
    simp [World.cell?,k1,this]⟩⟩
 ·cases hk
theorem CS {i:Ty} (hi:E.ty 46 = some i) (h1:i.size = 2):gH Tryz.prog E 87 (oE 46 [129] [] 89):=by
 intro c vs xs v σ' hs hv h
 unfold oE at h
 split at h
 case h_2=>cases h
 rename_i x fo
 split at h
 case h_2=>cases h
 rename_i hfo
 have hfo:=Nat.eq_of_beq_eq_true hfo
 subst hfo
 cases hv with
 | cons _ y _ zs hv1 hv2=>
 cases hv2 with
 | cons _ y2 _ zs2 hv3 hv4=>
 cases hv4
 have hy2:y2 = .func (.func 89) #[] #[]:=by
  cases hv3 with
  | inl h=>cases h; rfl
  | fn _ _ _ a b ha hb=>cases ha; cases hb; rfl
 subst hy2
 obtain ⟨rows,hk,hok,hlen,hres⟩:=Ah h
 have fin:∀ (ys:List (Bool × ByteArray)),rows = ys.map zQ -> rR Tryz.prog 87 [y,.func (.func 89) #[] #[]] c.w (fun x w'=>(ys = [] -> jX E c .aC c.Z x w') /\ (ys ≠ [] -> jX E c (.sl c.Z.length 0 ys.length none) (c.Z ++ [.cells 46 (lV F5 (ys.map zQ)).flatten false]) x w')) -> rR Tryz.prog 87 [y,.func (.func 89) #[] #[]] c.w (jX E c v σ'):=by
  intro ys e hr
  refine hr.mono fun x w' ⟨k1,k2⟩=>?_
  rcases hres with ⟨r0,rfl,rfl⟩ | ⟨r0,rfl,rfl⟩
  ·exact k1 (by rw [e] at r0; simpa using r0)
  ·have:=k2 (fun e0=>r0 (by rw [e,e0]; rfl))
   rw [e,length_map]
   exact this
 unfold keysOf at hk
 split at hk
 case h_2=>cases hk
 rename_i f b
 have hy:=Nj hv1
 subst hy
 split at hk
 ·rename_i hb hf
  split at hk
  case h_2=>cases hk
  rename_i es hm
  have hk:=Option.some.inj hk
  subst hk
  obtain ⟨ys,e,hr⟩:=I0 hs hi h1 (jQ hf) hb (.inl ⟨_,rfl,hm⟩) hok hlen
  exact fin ys e hr
 ·rename_i hb hf
  have hk:=Option.some.inj hk
  subst hk
  obtain ⟨ys,e,hr⟩:=I0 hs hi h1 (jQ hf) hb (.inr ⟨_,rfl⟩) hok hlen
  exact fin ys e hr
 ·rename_i hf; cases hf
 ·rename_i hf; cases hf
 ·rename_i hf; cases hf
 ·cases hk
end
end
end Go.AxC
end
section
namespace Go.AxC
open Go Go.Proofs Go.Ax Go.RowKit Go.Sort Go.Shelf
theorem Ny {arr:Array Value}:∀ (ys:List ByteArray),(∀ j y,ys[j]? = some y -> arr[0 + j]? = some (Value.string y)) -> arr.toList.take (ys.map fun x=>x.data.toList).length = (ys.map fun x=>x.data.toList).map encStr:=by
 intro ys h
 apply List.ext_getElem?
 intro j
 rw [length_map,map_map]
 by_cases hj:j < ys.length
 ·rw [getElem?_take_of_lt hj,Array.getElem?_toList]
  have:=h j ys[j] (List.getElem?_eq_getElem hj)
  rw [Nat.zero_add] at this
  rw [this,List.getElem?_map,List.getElem?_eq_getElem hj]
  exact congrArg some (Am ys[j]).symm
 ·rw [List.getElem?_take_eq_none (by omega),List.getElem?_eq_none (by simp; omega)]
theorem GP:∀ zs:List ByteArray,((zs.map nM).flatten).length = zs.length
 | []=>rfl
 | z :: zs=>by simp only [map_cons,flatten_cons,length_append,GP zs,nM,length_cons,length_nil]; omega
theorem Gj (E:Env) {i:Ty} (hi:E.ty 9 = some i) (h1:i.size = 1):gH Tryz.prog E 64 (oF 9):=by
 intro c vs xs v σ' hs hv h
 unfold oF at h
 split at h
 ·injection h with h; injection h with e1 e2
  subst e1 e2
  cases hv with
  | cons _ y _ zs hv1 hv2=>
  cases hv2
  have hy:y = .slice none 0 0:=by cases hv1 with | inl h=>cases h; rfl
  subst hy
  refine .inl ⟨Tryz.call64 _ _,(AnyM.slices_Sort_string_none Tryz.sort64 none 0 c.w).mono ?_⟩
  rintro e w' ⟨rfl,rfl⟩
  exact ⟨_,rfl,c,rfl,rfl,Ext.refl c,hs,.fN [] [] .nil⟩
 ·rename_i b len cap
  split at h
  case h_2=>cases h
  rename_i u cs ex hb
  split at h
  case h_2=>cases h
  rename_i h2 h3 h4 h5
  injection h with h; injection h with e1 e2
  subst e1 e2
  have h2:=Nat.eq_of_beq_eq_true h2
  have h3:=Nat.eq_of_beq_eq_true h3
  have h5:=Nat.le_of_ble_eq_true h5
  subst h2
  cases hv with
  | cons _ y _ zs hv1 hv2=>
  cases hv2
  obtain ⟨arr,k1,k2,k3,k4,k5,k6,k7⟩:=hs.obj b _ hb
  obtain ⟨ys,e,hy⟩:=pK k7 cs 0 (fun j w hj=>by rw [Nat.zero_add]; exact hj) h4
  have hl:ys.length = cs.length:=by
   have:=congrArg List.length e
   simpa using this.symm
  have hlv:live c.Z b:=⟨_,hb,rfl⟩
  cases hv1 with
  | inl h=>cases h
  | sl _ _ _ _ cap' g2 g3 g4 g5=>
   have hH:=holds_of_block (ss:=ys.map fun x=>x.data.toList) k1 (Ny ys hy)
   have hgl:c.blk b < c.w.heap.size:=(Array.getElem?_eq_some_iff.1 k1).1
   have cS:=AnyM.slices_Sort_string Tryz.sort64 (c.blk b) 0 cap' (ys.map fun x=>x.data.toList) c.w hH hgl (by rw [length_map]; omega)
   rw [length_map,hl,<- h3,Ac] at cS
   refine .inl ⟨Tryz.call64 _ _,cS.mono ?_⟩
   rintro e' w' ⟨rfl,n,os,rfl⟩
   refine ⟨_,rfl,?_⟩
   have hp:=(kK (lt:=CQ) ys).length_eq
   have hheap:=heap_sorted (n:=n) (os:=os) ((gN CQ ys).map fun x=>x.data.toList).toArray k1
   have hgrow:=grownBy_sorted (w:=c.w) (g:=c.blk b) (n:=n) (os:=os) ((gN CQ ys).map fun x=>x.data.toList).toArray
   have htake:=take_putCells arr ((gN CQ ys).map fun x=>x.data.toList) (by rw [length_map,hp,hl]; exact k4)
   rw [<- zD] at htake
   generalize grow (putRow encStr (Sort.ahead c.w n) (c.blk b) 0 ((gN CQ ys).map fun x=>x.data.toList).toArray) os = w' at *
   have hsz:(putCells encStr 0 ((gN CQ ys).map fun x=>x.data.toList).toArray arr).size = arr.size:=by simp [putCells]
   generalize putCells encStr 0 ((gN CQ ys).map fun x=>x.data.toList).toArray arr = arr' at *
   obtain ⟨f1,f2,f3⟩:=Nk (gN CQ ys)
   have hrows:(lV strLt (cs.map fun v=>[v])).flatten = ((gN CQ ys).map nM).flatten:=by
    rw [e,yF nM]; rfl
   rw [hrows]
   have hlen:(((gN CQ ys).map nM).flatten).length = cs.length:=by
    rw [GP,hp,hl]
   let c1:=c.put b (.cells arr' 9 (0,0)) (.cells 9 ((gN CQ ys).map nM).flatten ex)
   have x1:Ext c c1:=Cx.mG hlv _ _
   have s1:SR E c1:=Cx.vE hs hlv _ _ ⟨arr',by
    show (c.w.heap.setIfInBounds (c.blk b) _)[c.blk b]? = _
    simp [hgl],hsz.trans k2,k3,by rw [hlen,hsz]; exact k4,fun e=>by rw [hlen,hsz]; exact k5 e,f2,fun j a hj=>by
     obtain ⟨x,q1,q2⟩:=f3 c1 j a hj
     refine ⟨x,?_,q2⟩
     rw [<- htake] at q1
     have hjl:j < ((gN CQ ys).map fun x=>x.data.toList).length:=by
      rw [length_map,hp,hl,<- hlen]
      exact (List.getElem?_eq_some_iff.1 hj).1
     rw [getElem?_take_of_lt hjl,Array.getElem?_toList] at q1
     exact q1⟩
   have hc1:c1.w.heap.size = c.w.heap.size:=by simp [c1,Cx.put]
   obtain ⟨x2,s2⟩:=tY s1 (w:=w') (by rw [hc1]; exact hgrow.size) (fun k hk=>by
    rw [hc1] at hk
    by_cases hkb:k = c.blk b
    ·subst hkb
     rw [hheap]
     simp [c1,Cx.put,hgl]
    ·rw [hgrow.block k hk (fun e=>hkb (Option.some.inj e))]
     simp [c1,Cx.put,Ne.symm hkb]) hgrow.os hgrow.tape hgrow.output
   exact ⟨c1.outer w',rfl,rfl,x1.trans x2,s2,.fN [] [] .nil⟩
 ·cases h
end Go.AxC
end
section
namespace Go.Proofs.YtlbbdpkjeeiahaaGreatDoor
open Go Go.Ax
theorem mixed:Tryz.prog.follows .mixedOrders = true:=by kernel_rfl
noncomputable def bare:Ax.Ground Tryz.prog:={ ground with hspec:=.nil }
theorem VF:∀ t,ground.CF t = true -> liesAt Tryz.prog Tryz.prog.depth t 1 0 t 1 = true:=by
 intro t h
 have h':Nat.beq t 260 = true:=h
 have e:=Nat.eq_of_beq_eq_true h'
 subst e
 show liesAt Tryz.prog Tryz.prog.depth 260 1 0 260 1 = true
 kernel_rfl
theorem NB:lR bare:=⟨E5,Gp,Gw,VF,trivial⟩
theorem JH:cQ Tryz.prog (bare.env .nil):=NB.Nl _
theorem JG:mU Tryz.prog (bare.env .nil):=NB.Ni (s:=.nil) trivial
theorem N8:Ax.Alike (bare.env .nil) (ground.env .nil):=⟨rfl,rfl⟩
theorem L9:fP Tryz.prog (ground.env .nil) 254 kE:=yE _
theorem L_:fP Tryz.prog (ground.env .nil) 171 kT:=Ec _ rfl
theorem L8:fP Tryz.prog (ground.env .nil) 295 wC:=Ho _ rfl
theorem Ma:fP Tryz.prog (ground.env .nil) 148 nS:=
 (Fc (E:=bare.env .nil) JH JG mixed (by kernel_rfl) (by kernel_rfl) (by kernel_rfl) (by kernel_rfl) (by kernel_rfl) (by kernel_rfl) (by kernel_rfl) (by kernel_rfl) (by kernel_rfl) (by kernel_rfl) (by kernel_rfl) (by kernel_rfl) (by kernel_rfl) (by kernel_rfl) (by kernel_rfl)).alike N8
theorem Ws:gH Tryz.prog (ground.env .nil) 99 (rF 9 [138,314] [247]):=
 Go.AxC.CR (i:=cK) (by kernel_rfl) (by kernel_rfl)
theorem Wt:gH Tryz.prog (ground.env .nil) 87 (oE 46 [129] [] 89):=
 Go.AxC.CS (i:=nE) (by kernel_rfl) (by kernel_rfl)
theorem Sr:gH Tryz.prog (ground.env .nil) 136 Jt:=
 (Nc (E:=bare.env .nil) JH JG mixed (by kernel_rfl) (sz:=qN.size) (by_:=qN.bytes) (zv:=qN.zero) (sz9:=cK.size) (by9:=cK.bytes) (z9:=cK.zero) (by kernel_rfl) (by kernel_rfl)).alike N8
theorem Wu:gH Tryz.prog (ground.env .nil) 64 (oF 9):=Go.AxC.Gj _ (i:=cK) (by kernel_rfl) (by kernel_rfl)
theorem Sq:gH Tryz.prog (ground.env .nil) 305 AX:=HS _
theorem Sn:gH Tryz.prog (ground.env .nil) 307 (Js 5):=Nb _ (i:=ty5) (by kernel_rfl) (by kernel_rfl) Tryz.underlying5
theorem Gk:lR ground:=⟨E5,Gp,Gw,VF,⟨⟨Wu,⟨Wt,Ws⟩⟩,⟨Sr,⟨Sq,Sn⟩⟩⟩⟩
abbrev jV (s:BT (List V -> Option V)):Prop:=s.yA (fP Tryz.prog (ground.env .nil))
abbrev uW (f:Nat) (t:List (List V × V)):Prop:=fP Tryz.prog (ground.env .nil) f (bG t)
theorem L7:jV sp0:=⟨⟨Ma,L_⟩,⟨L9,L8⟩⟩
theorem dY {s:BT (List V -> Option V)} (hs:jV s) {f:Nat} {F:Ax.Fn} (hF:Jz.get f = some F) {t:List (List V × V)} (h:jD (ground.env s) f t = true):fP Tryz.prog (ground.env .nil) f (bG t):=Gk.memo hs mixed hF (I2 h)
theorem fR {s:BT (List V -> Option V)} {f:Nat} {t:List (List V × V)} (h:uW f t) (k:jV s):jV (s.put f (bG t)):=BT.El (p:=fP Tryz.prog (ground.env .nil)) h k
theorem Rt:uW 253 t253:=dY L7 (F:=aA Tryz.f253) (by kernel_rfl) a253
theorem LX:jV S8:=fR Rt L7
theorem Rv:uW 224 t224:=dY LX (F:=aA Tryz.f224) (by kernel_rfl) a224
theorem LW:jV QL:=fR Rv LX
theorem RB:uW 186 t186:=dY LW (F:=aA Tryz.f186) (by kernel_rfl) a186
theorem LU:jV Fe:=fR RB LW
theorem Rx:uW 199 t199:=dY LU (F:=aA Tryz.f199) (by kernel_rfl) a199
theorem LR:jV sp4:=fR Rx LU
theorem RE:uW 125 t125:=dY LR (F:=aA Tryz.f125) (by kernel_rfl) a125
theorem LQ:jV sp5:=fR RE LR
theorem Rw:uW 202 t202:=dY LQ (F:=aA Tryz.f202) (by kernel_rfl) a202
theorem LP:jV sp6:=fR Rw LQ
theorem RF:uW 124 t124:=dY LP (F:=aA Tryz.f124) (by kernel_rfl) a124
theorem LO:jV Tt:=fR RF LP
theorem RJ:uW 108 t108:=dY LO (F:=aA Tryz.f108) (by kernel_rfl) a108
theorem LN:jV sp8:=fR RJ LO
theorem RD:uW 147 t147:=dY LN (F:=aA Tryz.f147) (by kernel_rfl) a147
theorem LM:jV sp9:=fR RD LN
theorem RI:uW 109 t109:=dY LM (F:=aA Tryz.f109) (by kernel_rfl) a109
theorem IX:jV Rs:=fR RI LM
theorem Ue:uW 62 t62:=dY IX (F:=aA Tryz.f62) (by kernel_rfl) a62
theorem IW:jV Rr:=fR Ue IX
theorem Uc:uW 70 t70:=dY IW (F:=aA Tryz.f70) (by kernel_rfl) a70
theorem IV:jV L6:=fR Uc IW
theorem Uh:uW 19 t19:=dY IV (F:=aA Tryz.f19) (by kernel_rfl) a19
theorem IU:jV L5:=fR Uh IV
theorem Ud:uW 63 t63:=dY IU (F:=aA Tryz.f63) (by kernel_rfl) a63
theorem IQ:jV OG:=fR Ud IU
theorem Uj:uW 14 t14:=dY IQ (F:=aA Tryz.f14) (by kernel_rfl) a14
theorem IP:jV L2:=fR Uj IQ
theorem Ui:uW 15 t15:=dY IP (F:=aA Tryz.f15) (by kernel_rfl) a15
theorem IM:jV L1:=fR Ui IP
theorem T8:uW 94 t94:=dY IM (F:=aA Tryz.f94) (by kernel_rfl) a94
theorem IL:jV L0:=fR T8 IM
theorem T9:uW 93 t93:=dY IL (F:=aA Tryz.f93) (by kernel_rfl) a93
theorem IK:jV LZ:=fR T9 IL
theorem Ug:uW 53 t53:=dY IK (F:=aA Tryz.f53) (by kernel_rfl) a53
theorem IJ:jV LY:=fR Ug IK
theorem Uf:uW 54 t54:=dY IJ (F:=aA Tryz.f54) (by kernel_rfl) a54
theorem II:jV OE:=fR Uf IJ
theorem RH:uW 114 t114:=dY II (F:=aA Tryz.f114) (by kernel_rfl) a114
theorem IG:jV OD:=fR RH II
theorem RG:uW 117 t117:=dY IG (F:=aA Tryz.f117) (by kernel_rfl) a117
theorem IF:jV OC:=fR RG IG
theorem RA:uW 189 t189:=dY IF (F:=aA Tryz.f189) (by kernel_rfl) a189
theorem IE:jV OB:=fR RA IF
theorem Rz:uW 190 t190:=dY IE (F:=aA Tryz.f190) (by kernel_rfl) a190
theorem ID:jV OA:=fR Rz IE
theorem Ry:uW 193 t193:=dY ID (F:=aA Tryz.f193) (by kernel_rfl) a193
theorem IC:jV Oz:=fR Ry ID
theorem Ru:uW 229 t229:=dY IC (F:=aA Tryz.f229) (by kernel_rfl) a229
theorem IB:jV Oy:=fR Ru IC
theorem RC:uW 163 t163:=dY IB (F:=aA Tryz.f163) (by kernel_rfl) a163
theorem IA:jV Ox:=fR RC IB
theorem T_:uW 86 t86:=dY IA (F:=aA Tryz.f86) (by kernel_rfl) a86
theorem Iz:jV Ow:=fR T_ IA
theorem Ub:uW 75 t75:=dY Iz (F:=aA Tryz.f75) (by kernel_rfl) a75
theorem Iy:jV Ov:=fR Ub Iz
theorem Ua:uW 82 t82:=dY Iy (F:=aA Tryz.f82) (by kernel_rfl) a82
theorem Ot:jV Ou:=fR Ua Iy
theorem Uk:uW 11 t11:=dY Ot (F:=aA Tryz.f11) (by kernel_rfl) S5
end Go.Proofs.YtlbbdpkjeeiahaaGreatDoor
end
section
namespace Go.Ax
open Go
section
def tM (r r':xY):Prop:=∀ c fr Z x,r c fr Z = some x -> r' c fr Z = some x
section
variable {E:Env} {r r':xY}
theorem Ci (h:tM r r') {F:Fn} {args:List V} {Z:Sg} {x:V × Sg} (he:enter E r F args Z = some x):enter E r' F args Z = some x:=by
 unfold enter at he ⊢
 cases hi:Fr.init F.ntmps args with
 | none=>rw [hi] at he; cases he
 | some fr=>
  rw [hi] at he
  dsimp only at he ⊢
  cases hr:r F.code fr Z with
  | none=>rw [hr] at he; cases he
  | some y=>rw [h _ _ _ _ hr]; rw [hr] at he; exact he
theorem rO (h:tM r r') {f:Nat} {args:List V} {Z:Sg} {x:V × Sg} (he:gG E r f args Z = some x):gG E r' f args Z = some x:=by
 unfold gG at he ⊢
 cases h1:E.hspec f with
 | some s=>rw [h1] at he; exact he
 | none=>
 rw [h1] at he
 dsimp only at he ⊢
 cases h2:E.spec f with
 | some s=>rw [h2] at he; exact he
 | none=>
 rw [h2] at he
 dsimp only at he ⊢
 cases h3:E.fn f with
 | none=>rw [h3] at he; cases he
 | some F=>
 rw [h3] at he
 dsimp only at he ⊢
 have eT:∀ (g:Bool),(match aX (aZ Z E.ty g) args with
    | some args'=>match enter E r F args' [] with
     | some (v,σ1)=>match cT σ1 E.ty false v with
      | some v=>some (v,if g then Z else kill Z (args.flatMap (lO Z)))
      | none=>no ("result of function " ++ toString f)
     | none=>no ("in function " ++ toString f)
    | none=>no ("args of function " ++ toString f)) = some x -> (match aX (aZ Z E.ty g) args with
    | some args'=>match enter E r' F args' [] with
     | some (v,σ1)=>match cT σ1 E.ty false v with
      | some v=>some (v,if g then Z else kill Z (args.flatMap (lO Z)))
      | none=>no ("result of function " ++ toString f)
     | none=>no ("in function " ++ toString f)
    | none=>no ("args of function " ++ toString f)) = some x:=by
  intro g he
  cases h4:aX (aZ Z E.ty g) args with
  | none=>rw [h4] at he; cases he
  | some args'=>
   rw [h4] at he
   dsimp only at he ⊢
   cases h5:enter E r F args' [] with
   | none=>rw [h5] at he; cases he
   | some y=>rw [Ci h h5]; rw [h5] at he; exact he
 cases hm:E.mode f with
 | shared=>
  rw [hm] at he
  dsimp only at he ⊢
  cases h5:enter E r F args Z with
  | none=>rw [h5] at he; cases he
  | some y=>rw [Ci h h5]; rw [h5] at he; exact he
 | eT=>rw [hm] at he; exact eT _ he
 | move=>rw [hm] at he; exact eT _ he
theorem wS (h:tM r r') {dr:Fz} {op:Op} {fr:Fr} {Z:Sg} {x:V × Sg} (he:kC E r dr op fr Z = some x):kC E r' dr op fr Z = some x:=by
 unfold kC at he ⊢
 cases hc:comp E op with
 | plain f=>rw [hc] at he; exact he
 | lit t len parts=>rw [hc] at he; exact he
 | app args ats=>rw [hc] at he; exact he
 | call f args=>
  rw [hc] at he
  dsimp only at he ⊢
  split at he
  ·exact rO h he
  ·cases he
theorem Bi (h:tM r r') {dr:Fz} {ops:Array Oper} {o:Oper} {fr:Fr} {Z:Sg} {x:Fr × Sg} (he:bJ E r dr ops o fr Z = some x):bJ E r' dr ops o fr Z = some x:=by
 unfold bJ at he ⊢
 split at he
 ·rename_i hw
  rw [if_pos hw]
  cases ho:kC E r dr o.op fr Z with
  | none=>rw [ho] at he; cases he
  | some y=>rw [wS h ho]; rw [ho] at he; exact he
 ·rename_i hw
  rw [if_neg hw]; exact he
theorem rK (h:tM r r') {dr:Fz} {ops:Array Oper}:∀ {l:List Oper} {fr:Fr} {Z:Sg} {x:Fr × Sg},fU E r dr ops l fr Z = some x -> fU E r' dr ops l fr Z = some x
 | [],_,_,_,he=>he
 | o :: l,fr,Z,x,he=>by
  rw [fU] at he ⊢
  cases ho:bJ E r dr ops o fr Z with
  | none=>rw [ho] at he; cases he
  | some y=>rw [Bi h ho]; rw [ho] at he; exact rK h he
theorem Bd (h:tM r r') {dr:Fz} {ops:Array Oper}:∀ {l:List Oper} {fr:Fr} {Z:Sg} {x:List (Fr × Sg)},gW E r dr ops l fr Z = some x -> gW E r' dr ops l fr Z = some x
 | [],_,_,_,he=>he
 | o :: l,fr,Z,x,he=>by
  rw [gW] at he ⊢
  cases ho:bJ E r dr ops o fr Z with
  | none=>rw [ho] at he; cases he
  | some y=>
   rw [Bi h ho]; rw [ho] at he
   dsimp only at he ⊢
   cases ht:gW E r dr ops l y.1 y.2 with
   | none=>rw [ht] at he; cases he
   | some z=>rw [Bd h ht]; rw [ht] at he; exact he
theorem CB (h:tM r r') {dr:Fz} {ops:Array Oper} {o:Oper} {fr:Fr} {Z Y:Sg} (he:again E r dr ops o fr Z Y = true):again E r' dr ops o fr Z Y = true:=by
 unfold again at he ⊢
 rw [Bool.or_eq_true] at he ⊢
 refine he.imp id fun he=>?_
 cases h1:kC E r dr o.op fr Z with
 | none=>rw [h1] at he; cases he
 | some y=>
  rw [h1] at he
  rw [wS h h1]
  cases h2:kC E r dr o.op fr Y with
  | none=>rw [h2] at he; cases he
  | some z=>rw [h2] at he; rw [wS h h2]; exact he
theorem FL (h:tM r r') {dr:Fz} {ops:Array Oper} {ts:List (Fr × Sg)} {d:CY} (he:g_ E r dr ops ts d = true):g_ E r' dr ops ts d = true:=by
 unfold g_ at he ⊢
 split at he
 ·simp only [Bool.and_eq_true,Bool.or_eq_true] at he ⊢
  exact ⟨he.1.imp id (CB h),he.2.imp id (CB h)⟩
 ·cases he
theorem tG (h:tM r r') {ops:Array Oper} {fr:Fr} {Z:Sg} {x:Fr × Sg} (he:cC E r ops fr Z = some x):cC E r' ops fr Z = some x:=by
 unfold cC at he ⊢
 split at he
 ·cases he
 ·exact rK h he
 ·rename_i l hn e
  cases ht:gW E r (gE E ops) ops ops.toList fr Z with
  | none=>rw [ht] at he; cases he
  | some ts=>
   rw [ht] at he
   rw [Bd h ht]
   dsimp only at he ⊢
   split at he
   ·rename_i hl
    rw [if_pos]
    ·cases l with
     | nil=>exact absurd rfl (hn ·)
     | cons d l=>exact he
    ·rw [List.all_eq_true] at hl ⊢
     exact fun d hd=>FL h (hl d hd)
   ·cases he
end
theorem Gu (E:Env):∀ n,tM (ev E n) (ev E (n + 1))
 | 0=>fun c fr Z x h=>by rw [ev] at h; cases h
 | n + 1=>fun c fr Z x h=>by
  have ih:=Gu E n
  cases c with
  | skip=>rw [ev] at h ⊢; exact h
  | exit id=>rw [ev] at h ⊢; exact h
  | ret=>rw [ev] at h ⊢; exact h
  | seq a b=>
   rw [ev] at h ⊢
   try dsimp only at h ⊢
   cases ha:ev E n a fr Z with
   | none=>rw [ha] at h; cases h
   | some y=>
    rw [ih _ _ _ _ ha]; rw [ha] at h
    obtain ⟨x1,fr1,σ1⟩:=y
    cases x1 with
    | normal=>exact ih _ _ _ _ h
    | exit id=>cases h; rfl
    | ret=>cases h; rfl
  | cond c t e=>
   rw [ev] at h ⊢
   try dsimp only at h ⊢
   split at h
   ·exact ih _ _ _ _ h
   ·exact ih _ _ _ _ h
   ·cases h
  | block id a=>
   rw [ev] at h ⊢
   try dsimp only at h ⊢
   cases ha:ev E n a fr Z with
   | none=>rw [ha] at h; cases h
   | some y=>rw [ih _ _ _ _ ha]; rw [ha] at h; exact h
  | loop a=>
   rw [ev] at h ⊢
   try dsimp only at h ⊢
   cases ha:ev E n a fr Z with
   | none=>rw [ha] at h; cases h
   | some y=>
    rw [ih _ _ _ _ ha]; rw [ha] at h
    obtain ⟨x1,fr1,σ1⟩:=y
    cases x1 with
    | normal=>exact ih _ _ _ _ h
    | exit id=>cases h; rfl
    | ret=>cases h; rfl
  | region id ops draw=>
   rw [ev] at h ⊢
   try dsimp only at h ⊢
   cases draw with
   | true=>
    simp only [if_true] at h ⊢
    cases ha:cC E (ev E n) ops fr Z with
    | none=>rw [ha] at h; cases h
    | some y=>rw [tG ih ha]; rw [ha] at h; exact h
   | false=>
    simp only [Bool.false_eq_true,if_false] at h ⊢
    cases ha:fU E (ev E n) .no ops ops.toList fr Z with
    | none=>rw [ha] at h; cases h
    | some y=>rw [rK ih ha]; rw [ha] at h; exact h
  | _=>unfold ev at h; cases h
theorem lK (E : Env) {n m : Nat} (h : n <= m) : tM (ev E n) (ev E m) := by
  induction m with
  | zero => obtain rfl : n = 0 := by omega
            exact fun _ _ _ _ h => h
  | succ m ih =>
    by_cases e : n = m + 1
    · subst e; exact fun _ _ _ _ h => h
    · exact fun c fr Z x hx => Gu E m _ _ _ _ (ih (by omega) c fr Z x hx)
def Wp (E:Env) (c:Code) (fr:Fr) (Z:Sg) (Q:X -> Fr -> Sg -> Prop):Prop:=∃ n x fr' σ',ev E n c fr Z = some (x,fr',σ') /\ Q x fr' σ'
def rZ (E:Env) (ops:Array Oper) (l:List Oper) (fr:Fr) (Z:Sg) (Q:Fr -> Sg -> Prop):Prop:=∃ n fr' σ',fU E (ev E n) .no ops l fr Z = some (fr',σ') /\ Q fr' σ'
def Oa (E:Env) (ops:Array Oper) (fr:Fr) (Z:Sg) (Q:Fr -> Sg -> Prop):Prop:=∃ n fr' σ',cC E (ev E n) ops fr Z = some (fr',σ') /\ Q fr' σ'
def jU (E:Env) (op:Op) (fr:Fr) (Z:Sg) (K:V -> Sg -> Prop):Prop:=∃ n v σ',kC E (ev E n) .no op fr Z = some (v,σ') /\ K v σ'
def aB (E:Env) (f:Nat) (args:List V) (Z:Sg) (K:V -> Sg -> Prop):Prop:=∃ n v σ',gG E (ev E n) f args Z = some (v,σ') /\ K v σ'
section
variable {E:Env} {fr:Fr} {Z:Sg} {Q:X -> Fr -> Sg -> Prop}
theorem Wp.of {n:Nat} {c:Code} {x:X} {fr':Fr} {σ':Sg} (h:ev E n c fr Z = some (x,fr',σ')) (hq:Q x fr' σ'):Wp E c fr Z Q:=⟨n,x,fr',σ',h,hq⟩
theorem Wp.mono {Q':X -> Fr -> Sg -> Prop} {c:Code} (h:Wp E c fr Z Q) (hq:∀ x fr Z,Q x fr Z -> Q' x fr Z):Wp E c fr Z Q':=by
 obtain ⟨n,x,fr',σ',h1,h2⟩:=h
 exact ⟨n,x,fr',σ',h1,hq _ _ _ h2⟩
theorem wp_skip:Wp E .skip fr Z Q = Q .normal fr Z:=propext ⟨fun ⟨n,x,fr',σ',h,hq⟩=>by
 cases n with
 | zero=>cases h
 | succ n=>rw [ev] at h; cases h; exact hq,fun h=>⟨1,_,_,_,rfl,h⟩⟩
theorem wp_exit {id:Nat}:Wp E (.exit id) fr Z Q = Q (.exit id) fr Z:=propext ⟨fun ⟨n,x,fr',σ',h,hq⟩=>by
 cases n with
 | zero=>cases h
 | succ n=>rw [ev] at h; cases h; exact hq,fun h=>⟨1,_,_,_,rfl,h⟩⟩
theorem wp_ret:Wp E .ret fr Z Q = Q .ret fr Z:=propext ⟨fun ⟨n,x,fr',σ',h,hq⟩=>by
 cases n with
 | zero=>cases h
 | succ n=>rw [ev] at h; cases h; exact hq,fun h=>⟨1,_,_,_,rfl,h⟩⟩
theorem wp_seq {a b:Code}:Wp E (.seq a b) fr Z Q = Wp E a fr Z fun x fr Z=>match x with
  | .normal=>Wp E b fr Z Q
  | x=>Q x fr Z:=propext ⟨fun ⟨n,x,fr',σ',h,hq⟩=>by
 cases n with
 | zero=>cases h
 | succ n=>
  rw [ev] at h
  try dsimp only at h
  cases ha:ev E n a fr Z with
  | none=>rw [ha] at h; cases h
  | some y=>
   rw [ha] at h
   obtain ⟨x1,fr1,σ1⟩:=y
   refine ⟨n,x1,fr1,σ1,ha,?_⟩
   cases x1 with
   | normal=>exact ⟨n,x,fr',σ',h,hq⟩
   | _=>cases h; exact hq,fun ⟨n,x,fr1,σ1,h,hq⟩=>by
 cases x with
 | normal=>
  obtain ⟨m,x,fr',σ',h2,hq⟩:=hq
  refine ⟨max n m + 1,x,fr',σ',?_,hq⟩
  rw [ev]
  try dsimp only
  rw [lK E (Nat.le_max_left n m) _ _ _ _ h]
  exact lK E (Nat.le_max_right n m) _ _ _ _ h2
 | exit id=>exact ⟨n + 1,_,fr1,σ1,by rw [ev]; (try dsimp only); rw [h],hq⟩
 | ret=>exact ⟨n + 1,_,fr1,σ1,by rw [ev]; (try dsimp only); rw [h],hq⟩⟩
theorem wp_cond {c:Operand} {t e:Code}:Wp E (.cond c t e) fr Z Q = match aP fr c with
  | some (.bool true)=>Wp E t fr Z Q
  | some (.bool false)=>Wp E e fr Z Q
  | _=>False:=by
 apply propext
 constructor
 ·rintro ⟨n,x,fr',σ',h,hq⟩
  cases n with
  | zero=>cases h
  | succ n=>
   rw [ev] at h
   try dsimp only at h
   split at h
   ·rename_i e1
    rw [e1]; exact ⟨n,_,_,_,h,hq⟩
   ·rename_i e1
    rw [e1]; exact ⟨n,_,_,_,h,hq⟩
   ·cases h
 ·intro h
  split at h
  ·rename_i e1
   obtain ⟨n,x,fr',σ',h,hq⟩:=h
   refine ⟨n + 1,x,fr',σ',?_,hq⟩
   rw [ev]; (try dsimp only); rw [e1]; exact h
  ·rename_i e1
   obtain ⟨n,x,fr',σ',h,hq⟩:=h
   refine ⟨n + 1,x,fr',σ',?_,hq⟩
   rw [ev]; (try dsimp only); rw [e1]; exact h
  ·exact h.elim
theorem wp_block {id:Nat} {c:Code}:Wp E (.block id c) fr Z Q = Wp E c fr Z fun x fr Z=>match x with
  | .exit id'=>if id' = id then Q .normal fr Z else Q (.exit id') fr Z
  | x=>Q x fr Z:=propext ⟨fun ⟨n,x,fr',σ',h,hq⟩=>by
 cases n with
 | zero=>cases h
 | succ n=>
  rw [ev] at h
  try dsimp only at h
  cases ha:ev E n c fr Z with
  | none=>rw [ha] at h; cases h
  | some y=>
   rw [ha] at h
   obtain ⟨x1,fr1,σ1⟩:=y
   refine ⟨n,x1,fr1,σ1,ha,?_⟩
   cases x1 with
   | exit id'=>
    try dsimp only at h ⊢
    split at h
    ·rename_i e; rw [if_pos e]; cases h; exact hq
    ·rename_i e; rw [if_neg e]; cases h; exact hq
   | _=>cases h; exact hq,fun ⟨n,x,fr1,σ1,h,hq⟩=>by
 cases x with
 | exit id'=>
  try dsimp only at hq
  split at hq
  ·rename_i e; exact ⟨n + 1,_,fr1,σ1,by rw [ev]; (try dsimp only); rw [h]; (try dsimp only); rw [if_pos e],hq⟩
  ·rename_i e; exact ⟨n + 1,_,fr1,σ1,by rw [ev]; (try dsimp only); rw [h]; (try dsimp only); rw [if_neg e],hq⟩
 | normal=>exact ⟨n + 1,_,fr1,σ1,by rw [ev]; (try dsimp only); rw [h],hq⟩
 | ret=>exact ⟨n + 1,_,fr1,σ1,by rw [ev]; (try dsimp only); rw [h],hq⟩⟩
theorem wp_loop {c:Code}:Wp E (.loop c) fr Z Q = Wp E c fr Z fun x fr Z=>match x with
  | .normal=>Wp E (.loop c) fr Z Q
  | x=>Q x fr Z:=propext ⟨fun ⟨n,x,fr',σ',h,hq⟩=>by
 cases n with
 | zero=>cases h
 | succ n=>
  rw [ev] at h
  try dsimp only at h
  cases ha:ev E n c fr Z with
  | none=>rw [ha] at h; cases h
  | some y=>
   rw [ha] at h
   obtain ⟨x1,fr1,σ1⟩:=y
   refine ⟨n,x1,fr1,σ1,ha,?_⟩
   cases x1 with
   | normal=>exact ⟨n,x,fr',σ',h,hq⟩
   | _=>cases h; exact hq,fun ⟨n,x,fr1,σ1,h,hq⟩=>by
 cases x with
 | normal=>
  obtain ⟨m,x,fr',σ',h2,hq⟩:=hq
  refine ⟨max n m + 1,x,fr',σ',?_,hq⟩
  rw [ev]
  try dsimp only
  rw [lK E (Nat.le_max_left n m) _ _ _ _ h]
  exact lK E (Nat.le_max_right n m) _ _ _ _ h2
 | exit id=>exact ⟨n + 1,_,fr1,σ1,by rw [ev]; (try dsimp only); rw [h],hq⟩
 | ret=>exact ⟨n + 1,_,fr1,σ1,by rw [ev]; (try dsimp only); rw [h],hq⟩⟩
theorem Lq {id:Nat} {ops:Array Oper}:Wp E (.region id ops false) fr Z Q = rZ E ops ops.toList fr Z (Q .normal):=propext ⟨fun ⟨n,x,fr',σ',h,hq⟩=>by
 cases n with
 | zero=>cases h
 | succ n=>
  rw [ev] at h
  simp only [Bool.false_eq_true,if_false] at h
  cases ha:fU E (ev E n) .no ops ops.toList fr Z with
  | none=>rw [ha] at h; cases h
  | some y=>rw [ha] at h; cases h; exact ⟨n,_,_,ha,hq⟩,fun ⟨n,fr1,σ1,h,hq⟩=>⟨n + 1,_,fr1,σ1,by rw [ev]; simp only [Bool.false_eq_true,if_false]; rw [h],hq⟩⟩
theorem Ip {id:Nat} {ops:Array Oper}:Wp E (.region id ops true) fr Z Q = Oa E ops fr Z (Q .normal):=propext ⟨fun ⟨n,x,fr',σ',h,hq⟩=>by
 cases n with
 | zero=>cases h
 | succ n=>
  rw [ev] at h
  simp only [if_true] at h
  cases ha:cC E (ev E n) ops fr Z with
  | none=>rw [ha] at h; cases h
  | some y=>rw [ha] at h; cases h; exact ⟨n,_,_,ha,hq⟩,fun ⟨n,fr1,σ1,h,hq⟩=>⟨n + 1,_,fr1,σ1,by rw [ev]; simp only [if_true]; rw [h],hq⟩⟩
section
variable {ops:Array Oper} {Q:Fr -> Sg -> Prop}
theorem JP:rZ E ops [] fr Z Q = Q fr Z:=propext ⟨fun ⟨n,fr',σ',h,hq⟩=>by rw [fU] at h; cases h; exact hq,fun h=>⟨0,fr,Z,rfl,h⟩⟩
theorem wpOps_cons {o:Oper} {l:List Oper}:rZ E ops (o :: l) fr Z Q = if bW ops o fr = true then jU E o.op fr Z (fun v Z=>rZ E ops l (eG fr o.dst v) Z Q) else rZ E ops l (eG fr o.dst .undef) Z Q:=by
 by_cases hw:bW ops o fr = true
 ·rw [if_pos hw]
  refine propext ⟨fun ⟨n,fr',σ',h,hq⟩=>?_,fun ⟨n,v,σ1,h,m,fr',σ',h2,hq⟩=>?_⟩
  ·rw [fU] at h
   unfold bJ at h
   rw [if_pos hw] at h
   cases ho:kC E (ev E n) .no o.op fr Z with
   | none=>rw [ho] at h; cases h
   | some y=>rw [ho] at h; exact ⟨n,y.1,y.2,ho,n,fr',σ',h,hq⟩
  ·refine ⟨max n m,fr',σ',?_,hq⟩
   rw [fU]
   unfold bJ
   rw [if_pos hw,wS (lK E (Nat.le_max_left n m)) h]
   exact rK (lK E (Nat.le_max_right n m)) h2
 ·rw [if_neg hw]
  refine propext ⟨fun ⟨n,fr',σ',h,hq⟩=>?_,fun ⟨n,fr',σ',h,hq⟩=>?_⟩
  ·rw [fU] at h
   unfold bJ at h
   rw [if_neg hw] at h
   exact ⟨n,fr',σ',h,hq⟩
  ·refine ⟨n,fr',σ',?_,hq⟩
   rw [fU]
   unfold bJ
   rw [if_neg hw]
   exact h
end
section
variable {K:V -> Sg -> Prop}
def got (o:Option (V × Sg)) (K:V -> Sg -> Prop):Prop:=match o with
 | some (v,Z)=>K v Z
 | none=>False
theorem bR {op:Op} {f:Fr -> Sg -> Option (V × Sg)} (h:comp E op = .plain f):jU E op fr Z K = got (f fr Z) K:=by
 unfold jU kC
 rw [h]
 try dsimp only
 cases f fr Z with
 | none=>exact propext ⟨fun ⟨_,_,_,h,_⟩=>(by cases h),fun h=>h.elim⟩
 | some y=>exact propext ⟨fun ⟨_,_,_,h,hk⟩=>(by cases h; exact hk),fun h=>⟨0,_,_,rfl,h⟩⟩
end
theorem aB.of {f:Nat} {args:List V} {v:V} {σ':Sg} {K:V -> Sg -> Prop} (h:aB E f args Z fun u Y=>u = v /\ Y = σ'):aB E f args Z K = K v σ':=by
 obtain ⟨n,u,Y,h,rfl,rfl⟩:=h
 refine propext ⟨fun ⟨m,w,ρ,h2,hk⟩=>?_,fun hk=>⟨n,u,Y,h,hk⟩⟩
 have a:=rO (lK E (Nat.le_max_left n m)) h
 rw [rO (lK E (Nat.le_max_right n m)) h2] at a
 cases a
 exact hk
end
end
end Go.Ax
end
