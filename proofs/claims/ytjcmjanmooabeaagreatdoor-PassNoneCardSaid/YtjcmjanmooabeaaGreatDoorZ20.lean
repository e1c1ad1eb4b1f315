/- Part 20 of the proof. -/
import Derived.Test.YtjcmjanmooabeaaGreatDoorZ19
import Derived.Test.YtjcmjanmooabeaaGreatDoorZ18
import Derived.Sort.MapsRangeIn
import Derived.RangeFuncFrom
import Derived.RangeFuncGives
import Derived.Test.YtjcmjanmooabeaaGreatDoorZ4
import Derived.Shelf.SlIter.Collect
import Derived.Shelf.AbstractIn
import Derived.Shelf.SortM.SortNone
import Derived.Shelf.SlSortCmp.NoneTotal
import Derived.Ground.SlsfProg
import Derived.Ground.SlgmProg
import Derived.Test.YtjcmjanmooabeaaGreatDoorProg
import Derived.Test.YtjcmjanmooabeaaGreatDoorZ3
import Derived.Sort.OwnSorted
import Derived.Shelf.SortM.Plain
set_option maxHeartbeats 8000000
set_option linter.unusedVariables false
set_option linter.unusedSimpArgs false
section
namespace Go.Ax
open Go Go.Proofs
section
section
variable {E:Env}
theorem reg0 {n:Nat}{fr:Fr}{Z:Sg}{Q:X->Fr->Sg->Prop}(hn:fr.n=119) (q:∀fr':Fr,fr'.n=119->(∀t,t<4->fr'.get t=fr.get t)->Q .normal fr' Z):wpA E (n+1) (bk [0]) fr Z Q:=by
 simp only[bk,sel,fnOf,Tryz.f70,Option.getD_some]
 simp only[wpA_reg,wpOpsA,isNext,wants,evalO,ofValue,ofValue1,if_true,putS,stepO,opW,comp,Option.map_some,Fr.put_n,hn]
 refine q _ ?_ ?_
 ·simp only[Fr.put_n,hn]
 ·exact λt ht=>by simp only[Fr.get_put];repeat (rw[if_neg (by omega)])
theorem reg1 (h196:E.ty 150=some { kd:=.map 9 3,size:=1,bytes:=8,zero:=.nilm })(h111:E.ty 91=some { kd:=.map 9 33,size:=1,bytes:=8,zero:=.nilm })(h44:E.ty 33=some { kd:=.sl 9,size:=1,bytes:=24,zero:=.nils })
  (h9:E.ty 9=some { kd:=.str,size:=1,bytes:=16,zero:=.str [] })(h3:E.ty 3=some { kd:=.int .i64,size:=1,bytes:=8,zero:=.int .i64 0 })(h4:E.ty 4=some { kd:=.bool,size:=1,bytes:=1,zero:=.bool false })
  {n:Nat}{fr:Fr}{f:List Nat}{Q:X->Fr->Sg->Prop}(hn:fr.n=119) (g1:fr.get 1=some (.str f)) (q:∀fr':Fr,fr'.n=119->fr'.get 5=some (.ref 1 0)->(∀t,t<4->fr'.get t=fr.get t)->Q .normal fr' [.map [(.str f,.int .i64 ((0:Nat):Int))],.cells 150 [.mp 0] true]):wpA E (n+1) (bk [1,0]) fr [] Q:=by
 have hm:mput strEq (.str f) (.int .i64 0) []=some [(.str f,.int .i64 ((0:Nat):Int))]:=rfl
 simp only[bk,sel,fnOf,Tryz.f70,Option.getD_some]
 simp only[wpA_skip,wpA_exit,wpA_ret,wpA_seq,wpA_cond,wpA_block,wpA_reg,wpOpsA,isNext,wants,yielded,evalO,evalOs,ofValue,ofValue1,if_true,true_and,putS,stepO,opW,comp,Fz.apps,Fz.lits,plainOp,oExtract,oEntry,oMapUpdate,oLookup,oLoad,oStore,oBinOp,oUnOp,oPick,oIndexAddr,oBuiltin,oAlloc,oMakeMap,oRange,evalX,builtin,Option.map_some,Option.bind_some,Option.bind_none,Option.map_none,Fr.get_put,Fr.put_n,hn,List.getElem?_cons_zero,List.getElem?_cons_succ,List.getElem?_nil,List.getElem?_toArray,List.getElem?_append_left,Nat.reduceEqDiff,Nat.reduceLT,Nat.reduceAdd,and_true,and_false,if_false,reduceCtorEq,h196,h111,h44,h9,h3,h4,loadAt,storeAt,isAgg,lookup,keyOk,entriesOf,eqKey_str h9,bin,arith,unop,isConst,mapUpdate,okMapVal,V.okCell,Bool.not_true,Bool.not_false,Bool.or_self,Bool.or_false,Bool.false_or,Bool.or_true,Bool.true_or,Bool.false_eq_true,Bool.true_and,Bool.and_true,Bool.and_self,Option.isSome_some,Option.isSome_none,BEq.rfl,beq_self_eq_true,decide_true,Option.some.injEq,Nat.beq_refl,List.length_cons,List.length_nil,V.cells,setCells,List.take_zero,List.drop_zero,List.nil_append,List.drop_succ_cons,List.append_nil,List.set_cons_zero,List.set_cons_succ,Nat.zero_add,Nat.add_zero,List.all_cons,List.all_nil,Option.getD_some,Option.getD_none,Nat.le_refl,Int.natCast_nonneg,List.drop_nil,List.head?_cons,eqI_eq,ltI_eq,leI_eq,beq_iff_eq,g1,hm,List.cons_append]
 refine q _ ?_ ?_ ?_
 ·simp only[Fr.put_n,hn]
 ·simp only[Fr.get_put,Fr.put_n,hn,Nat.reduceEqDiff,Nat.reduceLT,and_true,if_true,if_false,false_and]
 ·exact λt ht=>by simp only[Fr.get_put];repeat (rw[if_neg (by omega)])
theorem reg2 {n:Nat}{fr:Fr}{Z:Sg}{Q:X->Fr->Sg->Prop}(hn:fr.n=119) (q:∀fr':Fr,fr'.n=119->fr'.get 6=some (.bool true)->(∀t,t<6->fr'.get t=fr.get t)->Q .normal fr' Z):wpA E (n+1) (bk [1,1,0,0]) fr Z Q:=by
 simp only[bk,sel,fnOf,Tryz.f70,Option.getD_some]
 simp only[wpA_reg,wpOpsA,isNext,wants,evalO,ofValue,ofValue1,if_true,putS,stepO,opW,comp,Option.map_some,Fr.put_n,hn]
 refine q _ ?_ ?_ ?_
 ·simp only[Fr.put_n,hn]
 ·simp only[Fr.get_put,Fr.put_n,hn,Nat.reduceEqDiff,Nat.reduceLT,and_true,if_true,if_false,false_and]
 ·exact λt ht=>by simp only[Fr.get_put];repeat (rw[if_neg (by omega)])
theorem reg17 (h196:E.ty 150=some { kd:=.map 9 3,size:=1,bytes:=8,zero:=.nilm })(h111:E.ty 91=some { kd:=.map 9 33,size:=1,bytes:=8,zero:=.nilm })(h44:E.ty 33=some { kd:=.sl 9,size:=1,bytes:=24,zero:=.nils })
  (h9:E.ty 9=some { kd:=.str,size:=1,bytes:=16,zero:=.str [] })(h3:E.ty 3=some { kd:=.int .i64,size:=1,bytes:=8,zero:=.int .i64 0 })(h4:E.ty 4=some { kd:=.bool,size:=1,bytes:=1,zero:=.bool false })
  {n:Nat}{fr:Fr}{Z:Sg}{Q:X->Fr->Sg->Prop}(hn:fr.n=119) (q:∀fr':Fr,fr'.n=119->fr'.get 15=some (.ref Z.length 0)->(∀t,t<15->fr'.get t=fr.get t)->Q .normal fr' (Z++[.cells 3 [.int .i64 (encB none)] true])):wpA E (n+1) (bk [1,1,1,0]) fr Z Q:=by
 have h1:(Z++[O.cells 3 [.int .i64 0] true])[Z.length]?=some (.cells 3 [.int .i64 0] true):=by simp
 have h2:∀x,(Z++[O.cells 3 [.int .i64 0] true]).set Z.length x=Z++[x]:=λx=>by simp
 simp only[bk,sel,fnOf,Tryz.f70,Option.getD_some]
 simp only[wpA_reg,wpOpsA,isNext,wants,evalO,ofValue,ofValue1,if_true,putS,stepO,opW,comp,Option.map_some,Fr.put_n,hn,oAlloc,h3,V.cells,oStore,Fr.get_put,Nat.reduceLT,Nat.reduceEqDiff,and_true,if_true,storeAt,h1,h2,List.length_cons,List.length_nil,BEq.rfl,List.all_cons,List.all_nil,V.okCell,Bool.and_true,Bool.true_and,Nat.zero_add,Nat.le_refl,decide_true,setCells,List.take_zero,List.nil_append,List.drop_succ_cons,List.drop_nil,List.append_nil]
 refine q _ ?_ ?_ ?_
 ·simp only[Fr.put_n,hn]
 ·simp only[Fr.get_put,Fr.put_n,hn,Nat.reduceEqDiff,Nat.reduceLT,and_true,if_true,if_false,false_and]
 ·exact λt ht=>by simp only[Fr.get_put];repeat (rw[if_neg (by omega)])
theorem reg18 (h196:E.ty 150=some { kd:=.map 9 3,size:=1,bytes:=8,zero:=.nilm })(h111:E.ty 91=some { kd:=.map 9 33,size:=1,bytes:=8,zero:=.nilm })(h44:E.ty 33=some { kd:=.sl 9,size:=1,bytes:=24,zero:=.nils })
  (h9:E.ty 9=some { kd:=.str,size:=1,bytes:=16,zero:=.str [] })(h3:E.ty 3=some { kd:=.int .i64,size:=1,bytes:=8,zero:=.int .i64 0 })(h4:E.ty 4=some { kd:=.bool,size:=1,bytes:=1,zero:=.bool false })
  {n:Nat}{fr:Fr}{Z:Sg}{g:Bool}{es:List (V × V)}(hbk:BackOk es) {f:List Nat}{Q:X->Fr->Sg->Prop}(hn:fr.n=119) (g0:fr.get 0=some (.imp g es)) (g1:fr.get 1=some (.str f))
  (q:∀fr':Fr,fr'.n=119->fr'.get 70=some (valOf es f)->fr'.get 71=some (.int .i64 ((nextOf es f).length:Int))->fr'.get 72=some (.int .i64 ((0:Nat):Int))->(∀t,t<17->fr'.get t=fr.get t)->Q .normal fr' Z):wpA E (n+1) (bk [1,1,1,1,0,0]) fr Z Q:=by
 obtain⟨r,hr1,hr2⟩:=find_all (x:=f) hbk
 have hln:lenOf E Z 33 (valOf es f)=some (nextOf es f).length:=by
  rcases valOf_sv (x:=f) hbk with⟨h1,h2⟩ | ⟨g,full,h1⟩
  ·rw[h1,h2];simp only[lenOf,h44,List.length_nil]
  ·rw[h1];simp only[lenOf,h44,List.length_map]
 simp only[bk,sel,fnOf,Tryz.f70,Option.getD_some]
 cases r with
 |none=>
  simp only[Option.getD_none]at hr2
  rw[<- hr2]at hln
  simp only[wpA_skip,wpA_exit,wpA_ret,wpA_seq,wpA_cond,wpA_block,wpA_reg,wpOpsA,isNext,wants,yielded,evalO,evalOs,ofValue,ofValue1,if_true,true_and,putS,stepO,opW,comp,Fz.apps,Fz.lits,plainOp,oExtract,oEntry,oMapUpdate,oLookup,oLoad,oStore,oBinOp,oUnOp,oPick,oIndexAddr,oBuiltin,oAlloc,oMakeMap,oRange,evalX,builtin,Option.map_some,Option.bind_some,Option.bind_none,Option.map_none,Fr.get_put,Fr.put_n,hn,List.getElem?_cons_zero,List.getElem?_cons_succ,List.getElem?_nil,List.getElem?_toArray,List.getElem?_append_left,Nat.reduceEqDiff,Nat.reduceLT,Nat.reduceAdd,and_true,and_false,if_false,reduceCtorEq,h196,h111,h44,h9,h3,h4,loadAt,storeAt,isAgg,lookup,keyOk,entriesOf,eqKey_str h9,bin,arith,unop,isConst,mapUpdate,okMapVal,V.okCell,Bool.not_true,Bool.not_false,Bool.or_self,Bool.or_false,Bool.false_or,Bool.or_true,Bool.true_or,Bool.false_eq_true,Bool.true_and,Bool.and_true,Bool.and_self,Option.isSome_some,Option.isSome_none,BEq.rfl,beq_self_eq_true,decide_true,Option.some.injEq,Nat.beq_refl,List.length_cons,List.length_nil,V.cells,setCells,List.take_zero,List.drop_zero,List.nil_append,List.drop_succ_cons,List.append_nil,List.set_cons_zero,List.set_cons_succ,Nat.zero_add,Nat.add_zero,List.all_cons,List.all_nil,Option.getD_some,Option.getD_none,Nat.le_refl,Int.natCast_nonneg,List.drop_nil,List.head?_cons,eqI_eq,ltI_eq,leI_eq,beq_iff_eq,g0,g1,hr1,hln]
  refine q _ ?_ ?_ ?_ ?_ ?_
  ·simp only[Fr.put_n,hn]
  ·simp only[Fr.get_put,Fr.put_n,hn,Nat.reduceEqDiff,Nat.reduceLT,and_true,if_true,if_false,false_and,hr2]
  ·simp only[Fr.get_put,Fr.put_n,hn,Nat.reduceEqDiff,Nat.reduceLT,and_true,if_true,if_false,false_and]
  ·simp only[Fr.get_put,Fr.put_n,hn,Nat.reduceEqDiff,Nat.reduceLT,and_true,if_true,if_false,false_and];rfl
  ·exact λt ht=>by simp only[Fr.get_put];repeat (rw[if_neg (by omega)])
 |some v=>
  simp only[Option.getD_some]at hr2
  rw[<- hr2]at hln
  simp only[wpA_skip,wpA_exit,wpA_ret,wpA_seq,wpA_cond,wpA_block,wpA_reg,wpOpsA,isNext,wants,yielded,evalO,evalOs,ofValue,ofValue1,if_true,true_and,putS,stepO,opW,comp,Fz.apps,Fz.lits,plainOp,oExtract,oEntry,oMapUpdate,oLookup,oLoad,oStore,oBinOp,oUnOp,oPick,oIndexAddr,oBuiltin,oAlloc,oMakeMap,oRange,evalX,builtin,Option.map_some,Option.bind_some,Option.bind_none,Option.map_none,Fr.get_put,Fr.put_n,hn,List.getElem?_cons_zero,List.getElem?_cons_succ,List.getElem?_nil,List.getElem?_toArray,List.getElem?_append_left,Nat.reduceEqDiff,Nat.reduceLT,Nat.reduceAdd,and_true,and_false,if_false,reduceCtorEq,h196,h111,h44,h9,h3,h4,loadAt,storeAt,isAgg,lookup,keyOk,entriesOf,eqKey_str h9,bin,arith,unop,isConst,mapUpdate,okMapVal,V.okCell,Bool.not_true,Bool.not_false,Bool.or_self,Bool.or_false,Bool.false_or,Bool.or_true,Bool.true_or,Bool.false_eq_true,Bool.true_and,Bool.and_true,Bool.and_self,Option.isSome_some,Option.isSome_none,BEq.rfl,beq_self_eq_true,decide_true,Option.some.injEq,Nat.beq_refl,List.length_cons,List.length_nil,V.cells,setCells,List.take_zero,List.drop_zero,List.nil_append,List.drop_succ_cons,List.append_nil,List.set_cons_zero,List.set_cons_succ,Nat.zero_add,Nat.add_zero,List.all_cons,List.all_nil,Option.getD_some,Option.getD_none,Nat.le_refl,Int.natCast_nonneg,List.drop_nil,List.head?_cons,eqI_eq,ltI_eq,leI_eq,beq_iff_eq,g0,g1,hr1,hln]
  refine q _ ?_ ?_ ?_ ?_ ?_
  ·simp only[Fr.put_n,hn]
  ·simp only[Fr.get_put,Fr.put_n,hn,Nat.reduceEqDiff,Nat.reduceLT,and_true,if_true,if_false,false_and,hr2]
  ·simp only[Fr.get_put,Fr.put_n,hn,Nat.reduceEqDiff,Nat.reduceLT,and_true,if_true,if_false,false_and]
  ·simp only[Fr.get_put,Fr.put_n,hn,Nat.reduceEqDiff,Nat.reduceLT,and_true,if_true,if_false,false_and];rfl
  ·exact λt ht=>by simp only[Fr.get_put];repeat (rw[if_neg (by omega)])
theorem reg25 (h196:E.ty 150=some { kd:=.map 9 3,size:=1,bytes:=8,zero:=.nilm })(h111:E.ty 91=some { kd:=.map 9 33,size:=1,bytes:=8,zero:=.nilm })(h44:E.ty 33=some { kd:=.sl 9,size:=1,bytes:=24,zero:=.nils })
  (h9:E.ty 9=some { kd:=.str,size:=1,bytes:=16,zero:=.str [] })(h3:E.ty 3=some { kd:=.int .i64,size:=1,bytes:=8,zero:=.int .i64 0 })(h4:E.ty 4=some { kd:=.bool,size:=1,bytes:=1,zero:=.bool false })
  {n:Nat}{fr:Fr}{Z:Sg}{B:Nat}{acc:Option Nat} (sB:Z[B]?=some (.cells 3 [.int .i64 (encB acc)] true)) {Q:X->Fr->Sg->Prop}(hn:fr.n=119) (g15:fr.get 15=some (.ref B 0))
  (q0:acc=none->∀fr':Fr,fr'.get 4=some .nils->Q .ret fr' Z) (q1:∀b,acc=some b->∀fr':Fr,fr'.n=119->(∀t,t<94->fr'.get t=fr.get t)->Q .normal fr' Z):wpA E (n+5) (bk [1,1,1,1,1,0]) fr Z Q:=by
 simp only[bk,sel,fnOf,Tryz.f70,Option.getD_some]
 cases acc with
 |none=>
  have hc:decide (encB none<0)=true:=by decide
  simp only[wpA_skip,wpA_exit,wpA_ret,wpA_seq,wpA_cond,wpA_block,wpA_reg,wpOpsA,isNext,wants,yielded,evalO,evalOs,ofValue,ofValue1,if_true,true_and,putS,stepO,opW,comp,Fz.apps,Fz.lits,plainOp,oExtract,oEntry,oMapUpdate,oLookup,oLoad,oStore,oBinOp,oUnOp,oPick,oIndexAddr,oBuiltin,oAlloc,oMakeMap,oRange,evalX,builtin,Option.map_some,Option.bind_some,Option.bind_none,Option.map_none,Fr.get_put,Fr.put_n,hn,List.getElem?_cons_zero,List.getElem?_cons_succ,List.getElem?_nil,List.getElem?_toArray,List.getElem?_append_left,Nat.reduceEqDiff,Nat.reduceLT,Nat.reduceAdd,and_true,and_false,if_false,reduceCtorEq,h196,h111,h44,h9,h3,h4,loadAt,storeAt,isAgg,lookup,keyOk,entriesOf,eqKey_str h9,bin,arith,unop,isConst,mapUpdate,okMapVal,V.okCell,Bool.not_true,Bool.not_false,Bool.or_self,Bool.or_false,Bool.false_or,Bool.or_true,Bool.true_or,Bool.false_eq_true,Bool.true_and,Bool.and_true,Bool.and_self,Option.isSome_some,Option.isSome_none,BEq.rfl,beq_self_eq_true,decide_true,Option.some.injEq,Nat.beq_refl,List.length_cons,List.length_nil,V.cells,setCells,List.take_zero,List.drop_zero,List.nil_append,List.drop_succ_cons,List.append_nil,List.set_cons_zero,List.set_cons_succ,Nat.zero_add,Nat.add_zero,List.all_cons,List.all_nil,Option.getD_some,Option.getD_none,Nat.le_refl,Int.natCast_nonneg,List.drop_nil,List.head?_cons,eqI_eq,ltI_eq,leI_eq,beq_iff_eq,g15,sB,hc]
  refine q0 rfl _ ?_
  simp only[Fr.get_put,Fr.put_n,hn,Nat.reduceEqDiff,Nat.reduceLT,and_true,if_true,if_false,false_and]
 |some b=>
  have hc:decide (encB (some b)<0)=false:=decide_eq_false (by simp only[encB];omega)
  simp only[wpA_skip,wpA_exit,wpA_ret,wpA_seq,wpA_cond,wpA_block,wpA_reg,wpOpsA,isNext,wants,yielded,evalO,evalOs,ofValue,ofValue1,if_true,true_and,putS,stepO,opW,comp,Fz.apps,Fz.lits,plainOp,oExtract,oEntry,oMapUpdate,oLookup,oLoad,oStore,oBinOp,oUnOp,oPick,oIndexAddr,oBuiltin,oAlloc,oMakeMap,oRange,evalX,builtin,Option.map_some,Option.bind_some,Option.bind_none,Option.map_none,Fr.get_put,Fr.put_n,hn,List.getElem?_cons_zero,List.getElem?_cons_succ,List.getElem?_nil,List.getElem?_toArray,List.getElem?_append_left,Nat.reduceEqDiff,Nat.reduceLT,Nat.reduceAdd,and_true,and_false,if_false,reduceCtorEq,h196,h111,h44,h9,h3,h4,loadAt,storeAt,isAgg,lookup,keyOk,entriesOf,eqKey_str h9,bin,arith,unop,isConst,mapUpdate,okMapVal,V.okCell,Bool.not_true,Bool.not_false,Bool.or_self,Bool.or_false,Bool.false_or,Bool.or_true,Bool.true_or,Bool.false_eq_true,Bool.true_and,Bool.and_true,Bool.and_self,Option.isSome_some,Option.isSome_none,BEq.rfl,beq_self_eq_true,decide_true,Option.some.injEq,Nat.beq_refl,List.length_cons,List.length_nil,V.cells,setCells,List.take_zero,List.drop_zero,List.nil_append,List.drop_succ_cons,List.append_nil,List.set_cons_zero,List.set_cons_succ,Nat.zero_add,Nat.add_zero,List.all_cons,List.all_nil,Option.getD_some,Option.getD_none,Nat.le_refl,Int.natCast_nonneg,List.drop_nil,List.head?_cons,eqI_eq,ltI_eq,leI_eq,beq_iff_eq,g15,sB,hc]
  refine q1 b rfl _ ?_ ?_
  ·simp only[Fr.put_n,hn]
  ·exact λt ht=>by simp only[Fr.get_put];repeat (rw[if_neg (by omega)])
theorem reg27 (h196:E.ty 150=some { kd:=.map 9 3,size:=1,bytes:=8,zero:=.nilm })(h111:E.ty 91=some { kd:=.map 9 33,size:=1,bytes:=8,zero:=.nilm })(h44:E.ty 33=some { kd:=.sl 9,size:=1,bytes:=24,zero:=.nils })
  (h9:E.ty 9=some { kd:=.str,size:=1,bytes:=16,zero:=.str [] })(h3:E.ty 3=some { kd:=.int .i64,size:=1,bytes:=8,zero:=.int .i64 0 })(h4:E.ty 4=some { kd:=.bool,size:=1,bytes:=1,zero:=.bool false })
  {n:Nat}{fr:Fr}{Z:Sg}{f:List Nat}{Q:X->Fr->Sg->Prop}(hn:fr.n=119) (g1:fr.get 1=some (.str f)) (q:∀fr':Fr,fr'.n=119->fr'.get 20=some (.sl Z.length 0 1 none)->(∀t,t<20->fr'.get t=fr.get t)->Q .normal fr' (Z++[.cells 9 [.str f] true])):wpA E (n+1) (bk [1,1,1,1,1,1,0]) fr Z Q:=by
 have hl:=lit_one h196 h111 h44 h9 h3 h4 (fr:=fr.put 96 (.str f)) (Z:=Z) (x:=96) (s:=f) (by simp only[evalO,Fr.get_put,Fr.put_n,hn,Nat.reduceEqDiff,Nat.reduceLT,and_true,if_true,if_false,false_and])
 simp only[bk,sel,fnOf,Tryz.f70,Option.getD_some]
 simp only[wpA_skip,wpA_exit,wpA_ret,wpA_seq,wpA_cond,wpA_block,wpA_reg,wpOpsA,isNext,wants,yielded,evalO,evalOs,ofValue,ofValue1,if_true,true_and,putS,stepO,opW,comp,Fz.apps,Fz.lits,plainOp,oExtract,oEntry,oMapUpdate,oLookup,oLoad,oStore,oBinOp,oUnOp,oPick,oIndexAddr,oBuiltin,oAlloc,oMakeMap,oRange,evalX,builtin,Option.map_some,Option.bind_some,Option.bind_none,Option.map_none,Fr.get_put,Fr.put_n,hn,List.getElem?_cons_zero,List.getElem?_cons_succ,List.getElem?_nil,List.getElem?_toArray,List.getElem?_append_left,Nat.reduceEqDiff,Nat.reduceLT,Nat.reduceAdd,and_true,and_false,if_false,reduceCtorEq,h196,h111,h44,h9,h3,h4,loadAt,storeAt,isAgg,lookup,keyOk,entriesOf,eqKey_str h9,bin,arith,unop,isConst,mapUpdate,okMapVal,V.okCell,Bool.not_true,Bool.not_false,Bool.or_self,Bool.or_false,Bool.false_or,Bool.or_true,Bool.true_or,Bool.false_eq_true,Bool.true_and,Bool.and_true,Bool.and_self,Option.isSome_some,Option.isSome_none,BEq.rfl,beq_self_eq_true,decide_true,Option.some.injEq,Nat.beq_refl,List.length_cons,List.length_nil,V.cells,setCells,List.take_zero,List.drop_zero,List.nil_append,List.drop_succ_cons,List.append_nil,List.set_cons_zero,List.set_cons_succ,Nat.zero_add,Nat.add_zero,List.all_cons,List.all_nil,Option.getD_some,Option.getD_none,Nat.le_refl,Int.natCast_nonneg,List.drop_nil,List.head?_cons,eqI_eq,ltI_eq,leI_eq,beq_iff_eq,g1,hl]
 refine q _ ?_ ?_ ?_
 ·simp only[Fr.put_n,hn]
 ·simp only[Fr.get_put,Fr.put_n,hn,Nat.reduceEqDiff,Nat.reduceLT,and_true,if_true,if_false,false_and]
 ·exact λt ht=>by simp only[Fr.get_put];repeat (rw[if_neg (by omega)])
theorem reg28 {n:Nat}{fr:Fr}{Z:Sg}{f:List Nat}{Q:X->Fr->Sg->Prop}(hn:fr.n=119) (g1:fr.get 1=some (.str f)) (q:∀fr':Fr,fr'.n=119->fr'.get 21=some (.str f)->(∀t,t<21->fr'.get t=fr.get t)->Q .normal fr' Z):wpA E (n+1) (bk [1,1,1,1,1,1,1,0,0]) fr Z Q:=by
 simp only[bk,sel,fnOf,Tryz.f70,Option.getD_some]
 simp only[wpA_reg,wpOpsA,isNext,wants,evalO,ofValue,ofValue1,if_true,putS,stepO,opW,comp,Option.map_some,Fr.put_n,hn,g1,Fr.get_put,Nat.reduceLT,Nat.reduceEqDiff,and_true]
 refine q _ ?_ ?_ ?_
 ·simp only[Fr.put_n,hn]
 ·simp only[Fr.get_put,Fr.put_n,hn,Nat.reduceEqDiff,Nat.reduceLT,and_true,if_true,if_false,false_and]
 ·exact λt ht=>by simp only[Fr.get_put];repeat (rw[if_neg (by omega)])
theorem reg34 {n:Nat}{fr:Fr}{Z:Sg}{v:V}{Q:X->Fr->Sg->Prop}(hn:fr.n=119) (g20:fr.get 20=some v) (q:∀fr':Fr,fr'.get 4=some v->Q .ret fr' Z):wpA E (n+3) (bk [1,1,1,1,1,1,1,1]) fr Z Q:=by
 simp only[bk,sel,fnOf,Tryz.f70,Option.getD_some]
 simp only[wpA_seq,wpA_ret,wpA_reg,wpOpsA,isNext,wants,evalO,ofValue,ofValue1,if_true,putS,stepO,opW,comp,Option.map_some,Fr.put_n,hn,g20,Fr.get_put,Nat.reduceLT,Nat.reduceEqDiff,and_true]
 refine q _ ?_
 simp only[Fr.get_put,Fr.put_n,hn,Nat.reduceEqDiff,Nat.reduceLT,and_true,if_true,if_false,false_and]
theorem path_loop (h196:E.ty 150=some { kd:=.map 9 3,size:=1,bytes:=8,zero:=.nilm })(h111:E.ty 91=some { kd:=.map 9 33,size:=1,bytes:=8,zero:=.nilm })(h44:E.ty 33=some { kd:=.sl 9,size:=1,bytes:=24,zero:=.nils })
  (h9:E.ty 9=some { kd:=.str,size:=1,bytes:=16,zero:=.str [] })(h3:E.ty 3=some { kd:=.int .i64,size:=1,bytes:=8,zero:=.int .i64 0 })(h4:E.ty 4=some { kd:=.bool,size:=1,bytes:=1,zero:=.bool false }) (f1:E.hspec 51=none) (f2:E.spec 51=none) (f3:E.fn 51=some (fnOf Tryz.f51)) (f4:E.mode 51=.iso) (f5:E.hspec 118=none) (f6:E.spec 118=none) (f7:E.fn 118=some (fnOf Tryz.f118)) (f8:E.mode 118=.shared)
  {es:List (V × V)}{f:List Nat}{g:Bool}(hbk:BackOk es)(hnd:(es.map ks).Nodup) {fe:List (V × V)}(hok:FarOk fe)(hfar:∀x,far fe x=distF es f x) {B:Nat}(hB:2<=B) {K:Nat}(hK:K<=4000000000000000000)(hl:∀x,(nextOf es x).length<=K) (N:Nat) :
  ∀(b:Nat) (at_:List Nat) (cs:List V) (ex:Bool) (C:Nat) (fr:Fr) (Z:Sg),b<=1000000->(b=0\/∃nx∈nextOf es at_,distF es f nx=some b)->cs.length+b<=2000000->fr.n=119->fr.get 0=some (.imp g es)->fr.get 5=some (.ref 1 0)->fr.get 15=some (.ref B 0)->fr.get 20=some (.sl C 0 cs.length none)->fr.get 21=some (.str at_) ->
   Z[0]?=some (.map fe)->Z[1]?=some (.cells 150 [.mp 0] true)->Z[B]?=some (.cells 3 [.int .i64 (b:Int)] true)->Z[C]?=some (.cells 9 cs ex)->B≠C->2<=C ->
   wpA E (N+K+b+71) (.loop (bk [1,1,1,1,1,1,1,0,1,2,2])) fr Z λx fr' σ'=>x=.exit 8/\fr'.n=119/\∃C',fr'.get 20=some (.sl C' 0 (cs++(wayOf es (layers es es.length [f]) at_ b).map V.str).length none)/\σ'[C']?=some (.cells 9 (cs++(wayOf es (layers es es.length [f]) at_ b).map V.str) (ex&&Nat.beq b 0)):=by
 intro b
 induction b with
 |zero=>
  intro at_ cs ex C fr Z hb hex hln hn g0 g5 g15 g20 g21 s0 s1 sB sC hBC hC
  show wpA E ((N+K+70)+1) _ _ _ _
  rw[wpA_loop]
  refine path_round h196 h111 h44 h9 h3 h4 f1 f2 f3 f4 f5 f6 f7 f8 hbk hok hn g0 g5 g15 g20 g21 s0 s1 sB sC hBC hB hC (by omega) hb hK (hl at_) N (λ_ fr' k1 k2=>?_) (λh=>absurd h (Nat.lt_irrefl _))
  refine⟨rfl,k1,C,?_,?_⟩
  ·rw[k2 20 (by omega)]
   simpa [wayOf]using g20
  ·simpa [wayOf]using sC
 |succ b ih=>
  intro at_ cs ex C fr Z hb hex hln hn g0 g5 g15 g20 g21 s0 s1 sB sC hBC hC
  have hf0:N+K+(b+1)+71=((N+b+1)+K+70)+1:=by omega
  rw[hf0,wpA_loop]
  refine path_round h196 h111 h44 h9 h3 h4 f1 f2 f3 f4 f5 f6 f7 f8 hbk hok hn g0 g5 g15 g20 g21 s0 s1 sB sC hBC hB hC (by omega) hb hK (hl at_) (N+b+1) (λh=>by omega) (λ_=>?_)
  have hex':∃nx∈nextOf es at_,distIn nx (layers es es.length [f])=some (b+1):=hex.resolve_left (by omega)
  obtain⟨idx,a,h1,h2,h3',h4'⟩:=stepOf_find _ _ _ hex'
  refine⟨idx,a,h1,by rw[hfar];exact h3',λj x hj hx=>by rw[hfar];exact h4' j x hj hx,?_⟩
  intro fr' σ' C' k1 k2 k3 k4 t0 t1 tB tC hBC' hC'
  have hway:wayOf es (layers es es.length [f]) at_ (b+1)=a::wayOf es (layers es es.length [f]) a b:=by simp only[wayOf,h2]
  have hex2:b=0\/∃nx∈nextOf es a,distF es f nx=some b:=.inr (dist_step hbk hnd h3')
  have:=ih a (cs++[.str a]) false C' fr' σ' (by omega) hex2 (by simp;omega) k1 (by rw[k2 0 (by omega)];exact g0) (by rw[k2 5 (by omega)];exact g5) (by rw[k2 15 (by omega)];exact g15) k3 k4 t0 t1 (by simpa using tB) tC hBC' hC'
  rw[show (N+b+1)+K+70=N+K+b+71 by omega]
  refine wpA_mono _ this ?_
  rintro x fr2 σ2 ⟨rfl,b1,C2,b2,b3⟩
  refine⟨rfl,b1,C2,?_,?_⟩
  ·rw[hway];simpa using b2
  ·rw[hway]
   have e:(ex&&Nat.beq (b+1) 0)=false:=by cases ex <;> rfl
   rw[e]
   simpa using b3
theorem rows_one:∀(cs:List V),rows 1 cs.length cs=cs.map λc=>[c]
 | []=>rfl
 |c::cs=>by simp[rows,rows_one cs]
theorem snap_strs (h196:E.ty 150=some { kd:=.map 9 3,size:=1,bytes:=8,zero:=.nilm })(h111:E.ty 91=some { kd:=.map 9 33,size:=1,bytes:=8,zero:=.nilm })(h44:E.ty 33=some { kd:=.sl 9,size:=1,bytes:=24,zero:=.nils })
  (h9:E.ty 9=some { kd:=.str,size:=1,bytes:=16,zero:=.str [] })(h3:E.ty 3=some { kd:=.int .i64,size:=1,bytes:=8,zero:=.int .i64 0 })(h4:E.ty 4=some { kd:=.bool,size:=1,bytes:=1,zero:=.bool false })
  {Z:Sg}{C:Nat}{l:List (List Nat)}{ex:Bool}(hC:Z[C]?=some (.cells 9 (l.map V.str) ex)):snapT Z E.ty false (.sl C 0 (l.map V.str).length none)=some (.isl false (l.map λs=>[V.str s]) ex):=by
 have hs:snapC Z E.ty false 12 (.sl C 0 (l.map V.str).length none)=some (.isl false (l.map λs=>[V.str s]) ex):=by
  rw[snapC]
  simp only[hC,h9,Nat.zero_add,Nat.mul_one,Nat.le_refl,if_true,List.drop_zero,List.take_length]
  rw[mapO_id]
  rotate_left
  ·intro x hx
   obtain⟨s,_,rfl⟩:=List.mem_map.1 hx
   simp[snapC,tagOk]
  simp only[rows_one,List.map_map,Nat.lt_add_one,decide_true,Bool.and_true,BEq.rfl]
  rfl
 simp only[snapT,snapV,snapV.one,snapFuel,hs,tagOk,Bool.not_false,Bool.or_true,if_true]
theorem back_enters (h196:E.ty 150=some { kd:=.map 9 3,size:=1,bytes:=8,zero:=.nilm })(h111:E.ty 91=some { kd:=.map 9 33,size:=1,bytes:=8,zero:=.nilm })(h44:E.ty 33=some { kd:=.sl 9,size:=1,bytes:=24,zero:=.nils })
  (h9:E.ty 9=some { kd:=.str,size:=1,bytes:=16,zero:=.str [] })(h3:E.ty 3=some { kd:=.int .i64,size:=1,bytes:=8,zero:=.int .i64 0 })(h4:E.ty 4=some { kd:=.bool,size:=1,bytes:=1,zero:=.bool false }) (f1:E.hspec 51=none) (f2:E.spec 51=none) (f3:E.fn 51=some (fnOf Tryz.f51)) (f4:E.mode 51=.iso) (f5:E.hspec 118=none) (f6:E.spec 118=none) (f7:E.fn 118=some (fnOf Tryz.f118)) (f8:E.mode 118=.shared)
  {es:List (V × V)}{f:List Nat}{g:Bool}(hbk:BackOk es)(hnd:(es.map ks).Nodup)(hes:es.length<=1000000) {K:Nat}(hK:K<=1000000)(hKl:∀e∈es,(listOf e.2).length<=K):∃n,entersA E n (fnOf Tryz.f70) [.imp g es,.str f] [] λv Z=>snapT Z E.ty false v=some (backOf es f):=by
 have hnl:∀x,(nextOf es x).length<=K:=by
  intro x
  clear hnd hes
  induction es with
  |nil=>simp[nextOf]
  |cons e es ih=>
   obtain⟨⟨q,hq⟩,_⟩:=hbk e (List.mem_cons_self ..)
   obtain⟨k',v'⟩:=e
   simp only at hq
   subst hq
   simp only[nextOf]
   cases seq q x with
   |true=>exact hKl _ (List.mem_cons_self ..)
   |false=>exact ih hbk.tail λe he=>hKl e (List.mem_cons_of_mem _ he)
 obtain⟨fr0,hf0,hn0,hg0⟩:=Fr.init_get (n:=(fnOf Tryz.f70).ntmps) (vs:=[.imp g es,.str f]) (show 2<=119 by decide)
 have hn0:fr0.n=119:=hn0
 have i0:=hg0 0 _ rfl
 have i1:=hg0 1 _ rfl
 have e1:(fnOf Tryz.f70).code=.seq (bk [0]) (.seq (bk [1,0]) (.seq (.seq (bk [1,1,0,0]) (.block 0 (.loop (bk [1,1,0,1,2,2])))) (.seq (bk [1,1,1,0]) (.seq (.seq (bk [1,1,1,1,0,0]) (.block 6 (.loop (bk [1,1,1,1,0,1,2,2])))) (.seq (bk [1,1,1,1,1,0]) (.seq (bk [1,1,1,1,1,1,0]) (.seq (.seq (bk [1,1,1,1,1,1,1,0,0]) (.block 8 (.loop (bk [1,1,1,1,1,1,1,0,1,2,2])))) (bk [1,1,1,1,1,1,1,1])))))))):=rfl
 have hF0:Far es f [(.str f,.int .i64 ((0:Nat):Int))]:=by
  have hfar:∀x,far [(.str f,.int .i64 ((0:Nat):Int))] x=if x=f then some 0 else none:=by
   intro x
   simp only[far]
   cases h:seq f x with
   |true=>rw[seq_iff]at h;simp[h]
   |false=>rw[seq_false]at h;simp[h.symm]
  refine⟨λe he=>?_,by rw[hfar,if_pos rfl],λx k hx=>?_,λx k hx=>?_,by simp,λk hk=>?_⟩
  ·simp only[List.mem_singleton]at he
   exact⟨f,0,he⟩
  ·rw[hfar]at hx
   split at hx
   ·rename_i e;injection hx with hx;subst hx e;exact .zero
   ·cases hx
  ·rw[hfar]at hx
   split at hx
   ·injection hx with hx;subst hx;simp
   ·cases hx
  ·simp only[List.map_cons,List.map_nil,List.mem_singleton]at hk
   subst hk
   exact List.mem_cons_self ..
 obtain⟨m,hm⟩:∃m,pot es f [(.str f,.int .i64 ((0:Nat):Int))]<m:=⟨_,Nat.lt_succ_self _⟩
 obtain⟨S,hS⟩:∃S,S=K+es.length+m+200:=⟨_,rfl⟩
 refine⟨S+30,fr0,hf0,?_⟩
 rw[e1]
 show wpA E ((S+29)+1) _ _ _ _
 rw[wpA_seq]
 refine reg0 (n:=S+28) hn0 (λfr1 a1 a2=>?_)
 show wpA E ((S+28)+1) _ _ _ _
 rw[wpA_seq]
 refine reg1 h196 h111 h44 h9 h3 h4 (n:=S+27) a1 (by rw[a2 1 (by omega)];exact i1) (λfr2 b1 b2 b3=>?_)
 show wpA E ((S+27)+1) _ _ _ _
 rw[wpA_seq]
 show wpA E ((S+26)+1) _ _ _ _
 rw[wpA_seq]
 refine reg2 (n:=S+25) b1 (λfr3 c1 c2 c3=>?_)
 show wpA E ((S+25)+1) _ _ _ _
 rw[wpA_block]
 obtain⟨N1,hN1⟩:∃N1,S+25=N1+K+es.length+m+90:=⟨135,by omega⟩
 rw[hN1]
 refine wpA_mono _ (outer_loop h196 h111 h44 h9 h3 h4 hes hbk hnd (by omega:K<=4000000000000000000) hKl N1 m [] fr3 _ true (λ_=>hm) (λh=>by cases h) hF0 c1 (by rw[c3 0 (by omega),b3 0 (by omega),a2 0 (by omega)];exact i0) c2 (by rw[c3 5 (by omega)];exact b2)) ?_
 rintro x fr4 σ4 ⟨rfl,fe,its,hF,hC,rfl,d1,d2⟩
 simp only[if_true]
 have hdist:∀x,far fe x=distF es f x:=λx=>(hF.dist hbk hnd (λy nx hy=>by
  obtain⟨v,h1,h2⟩:=next_key hbk hy
  exact hC _ h1 y rfl nx h2) x).symm
 show wpA E ((S+26)+1) _ _ _ _
 rw[wpA_seq]
 have j0:fr4.get 0=some (.imp g es):=by rw[d2 0 (by omega),c3 0 (by omega),b3 0 (by omega),a2 0 (by omega)];exact i0
 have j1:fr4.get 1=some (.str f):=by rw[d2 1 (by omega),c3 1 (by omega),b3 1 (by omega),a2 1 (by omega)];exact i1
 have j5:fr4.get 5=some (.ref 1 0):=by rw[d2 5 (by omega),c3 5 (by omega)];exact b2
 refine reg17 h196 h111 h44 h9 h3 h4 (n:=S+25) d1 (λfr5 p1 p2 p3=>?_)
 show wpA E ((S+25)+1) _ _ _ _
 rw[wpA_seq]
 show wpA E ((S+24)+1) _ _ _ _
 rw[wpA_seq]
 refine reg18 h196 h111 h44 h9 h3 h4 (n:=S+23) hbk p1 (by rw[p3 0 (by omega)];exact j0) (by rw[p3 1 (by omega)];exact j1) (λfr6 q1 q2 q3 q4 q5=>?_)
 show wpA E ((S+23)+1) _ _ _ _
 rw[wpA_block]
 have hnlf:=hnl f
 obtain⟨N2,hN2⟩:∃N2,S+23=N2+(nextOf es f).length+21:=⟨S+2-(nextOf es f).length,by omega⟩
 rw[hN2]
 refine wpA_mono _ (best_loop h196 h111 h44 h9 h3 h4 (valOf_sv (x:=f) hbk) (B:=its.length+2) (by omega) hF.ok (by omega) N2 (nextOf es f).length 0 fr6 _ none (by omega) rfl q1 q2 q3 q4 (by rw[q5 5 (by omega),p3 5 (by omega)];exact j5) (by rw[q5 15 (by omega)];exact p2) rfl rfl (by simp)) ?_
 rintro x fr7 σ7 ⟨rfl,r1,r2,s0,s1,sB⟩
 simp only[if_true]
 show wpA E ((S+24)+1) _ _ _ _
 rw[wpA_seq]
 have hbest:(nextOf es f).foldl (bestStep (far fe)) none=bestOf (layers es es.length [f]) (nextOf es f):=by
  have:=best_fold (layers es es.length [f]) (nextOf es f) none
  rw[show (far fe)=λx=>distIn x (layers es es.length [f]) from funext hdist,this]
  rfl
 rw[hbest]at sB
 have k0:fr7.get 0=some (.imp g es):=by rw[r2 0 (by omega),q5 0 (by omega),p3 0 (by omega)];exact j0
 have k1:fr7.get 1=some (.str f):=by rw[r2 1 (by omega),q5 1 (by omega),p3 1 (by omega)];exact j1
 have k5:fr7.get 5=some (.ref 1 0):=by rw[r2 5 (by omega),q5 5 (by omega),p3 5 (by omega)];exact j5
 have k15:fr7.get 15=some (.ref (its.length+2) 0):=by rw[r2 15 (by omega),q5 15 (by omega)];exact p2
 show wpA E ((S+19)+5) _ _ _ _
 refine reg25 h196 h111 h44 h9 h3 h4 sB r1 k15 (λhnone fr8 h8=>?_) (λb hsome fr8 u1 u2=>?_)
 ·refine⟨.inr rfl,[.nils],by simp only[fnOf,Tryz.f70,results,h8],?_⟩
  simp only[backOf,hnone]
  simp[snapT,snapV,snapV.one,snapFuel,snapC,tagOk]
 ·show wpA E ((S+23)+1) _ _ _ _
  rw[wpA_seq]
  refine reg27 h196 h111 h44 h9 h3 h4 (n:=S+22) u1 (by rw[u2 1 (by omega)];exact k1) (λfr9 v1 v2 v3=>?_)
  show wpA E ((S+22)+1) _ _ _ _
  rw[wpA_seq]
  show wpA E ((S+21)+1) _ _ _ _
  rw[wpA_seq]
  refine reg28 (n:=S+20) v1 (by rw[v3 1 (by omega),u2 1 (by omega)];exact k1) (λfra w1 w2 w3=>?_)
  show wpA E ((S+20)+1) _ _ _ _
  rw[wpA_block]
  rw[hsome]at sB
  obtain⟨nb,nb1,nb2⟩:=best_mem _ _ _ hsome
  have hbl:b<=es.length:=((distF_some hbk hnd).1 (show distF es f nb=some b from nb2)).1
  obtain⟨N3,hN3⟩:∃N3,S+20=N3+K+b+71:=⟨S+20-K-b-71,by omega⟩
  rw[hN3]
  have hBl:=(List.getElem?_eq_some_iff.1 sB).1
  have left:∀j o,σ7[j]?=some o->(σ7++[O.cells 9 [.str f] true])[j]?=some o:=λj o ho=>by
   rw[List.getElem?_append_left (List.getElem?_eq_some_iff.1 ho).1];exact ho
  refine wpA_mono _ (path_loop h196 h111 h44 h9 h3 h4 f1 f2 f3 f4 f5 f6 f7 f8 hbk hnd hF.ok hdist (B:=its.length+2) (by omega) (by omega:K<=4000000000000000000) hnl N3 b f [.str f] true σ7.length fra _ (by omega) (.inr ⟨nb,nb1,nb2⟩) (by simp;omega) w1 (by rw[w3 0 (by omega),v3 0 (by omega),u2 0 (by omega)];exact k0) (by rw[w3 5 (by omega),v3 5 (by omega),u2 5 (by omega)];exact k5) (by rw[w3 15 (by omega),v3 15 (by omega),u2 15 (by omega)];exact k15) (by rw[w3 20 (by omega)];exact v2) w2 (left _ _ s0) (left _ _ s1) (left _ _ sB) (by simp) (by omega) (by omega)) ?_
  rintro x frb σb ⟨rfl,y1,C',y2,y3⟩
  simp only[if_true]
  show wpA E ((S+19)+3) _ _ _ _
  refine reg34 y1 y2 (λfrc z1=>?_)
  have e2:[V.str f]++(wayOf es (layers es es.length [f]) f b).map V.str=(f::wayOf es (layers es es.length [f]) f b).map V.str:=rfl
  rw[e2]at y3 z1
  refine⟨.inr rfl,[_],by simp only[fnOf,Tryz.f70,results,z1];rfl,?_⟩
  have:=snap_strs h196 h111 h44 h9 h3 h4 y3
  simp only[backOf,hsome]
  simpa using this
theorem specBack_ok (he:EnvOk Tryz.prog E)(hfs:FnsOk Tryz.prog E)(hmix:Tryz.prog.follows .mixedOrders=true)(hF:E.fn 70=some (fnOf Tryz.f70))(h196:E.ty 150=some { kd:=.map 9 3,size:=1,bytes:=8,zero:=.nilm })(h111:E.ty 91=some { kd:=.map 9 33,size:=1,bytes:=8,zero:=.nilm })(h44:E.ty 33=some { kd:=.sl 9,size:=1,bytes:=24,zero:=.nils })
  (h9:E.ty 9=some { kd:=.str,size:=1,bytes:=16,zero:=.str [] })(h3:E.ty 3=some { kd:=.int .i64,size:=1,bytes:=8,zero:=.int .i64 0 })(h4:E.ty 4=some { kd:=.bool,size:=1,bytes:=1,zero:=.bool false }) (f1:E.hspec 51=none) (f2:E.spec 51=none) (f3:E.fn 51=some (fnOf Tryz.f51)) (f4:E.mode 51=.iso) (f5:E.hspec 118=none) (f6:E.spec 118=none) (f7:E.fn 118=some (fnOf Tryz.f118)) (f8:E.mode 118=.shared):SpecOk Tryz.prog E 70 specBack:=by
 refine spec_of_runs he hfs hmix hF ?_
 intro vs v h
 unfold specBack at h
 split at h
 case h_2=>cases h
 rename_i g es f
 split at h
 case h_2=>cases h
 rename_i h1 h2 hlen
 injection h with h;subst h
 rw[Nat.ble_eq]at hlen
 have hbk:=backOk_iff h1
 exact back_enters h196 h111 h44 h9 h3 h4 f1 f2 f3 f4 f5 f6 f7 f8 hbk (nodupKeys_iff h2 λe he=>(hbk e he).1) hlen (Nat.le_refl 1000000) (backOk_len h1)
end
end
end Go.Ax
end
section
namespace Go.Ax
open Go Go.RowKit
section
open Go.ChangeMaps (setBlock)
structure Rg (W:World) (b r:Nat) (left:List Value):Prop where
 ex:∃(en:Array MapEntry) (cl:Nat) (seen:Array Nat),W.heap[r]?=some (.mapIter (some b) cl seen cl)/\W.heap[b]?=some (.map en cl)/\MapKept.Stamped en cl/\left.Perm ((en.toList.filter λe=>!seen.contains e.born).map (·.key))
theorem Rg.kept {W W':World}{b r:Nat}{left:List Value}(h:Rg W b r left)(hk:KeepsWalks W W'):Rg W' b r left:=by
 obtain⟨en,cl,seen,h1,h2,h3,h4⟩:=h.ex
 exact⟨en,cl,seen,hk.same r _ h1 rfl,hk.same b _ h2 rfl,h3,h4⟩
def rgLeft (W:World) (b r:Nat):Nat:=match W.heap[r]?,W.heap[b]? with
 |some (.mapIter _ _ seen _),some (.map en _)=>(en.toList.filter λe=>!seen.contains e.born).length
 |_,_=>0
theorem Rg.left_eq {W:World}{b r:Nat}{left:List Value}(h:Rg W b r left):rgLeft W b r=left.length:=by
 obtain⟨en,cl,seen,h1,h2,_,h4⟩:=h.ex
 have:=h4.length_eq
 simp only[rgLeft,h1,h2,this,List.length_map]
theorem Rg.walk {W:World}{b r:Nat}{left:List Value}(h:Rg W b r left):∃o:Obj,W.heap[r]?=some o/\o.isWalk=true:=by
 obtain⟨en,cl,seen,h1,_⟩:=h.ex
 exact⟨_,h1,rfl⟩
section
variable {F:Fence}{n:Nat}{P:Program} (w:World) {ops:Array Oper}{rest:List Oper}{o:Oper}{a:Act}{Q:Exit->Act->World->Prop}
theorem wpListIn_range_rg (hg:o.guard=none) (m:Operand) (t:TypeId)(hop:o.op=Op.range t m) (k e:TypeId)(ht:P.underlying t=some (.map k e)) (b:Nat) (en:Array MapEntry) (cl:Nat)
  (hm:a.eval m=.map (some b))(hb:w.heap[b]?=some (.map en cl))(hst:MapKept.Stamped en cl)
  (hK:∀w',Rg w' b w.heap.size (en.toList.map (·.key))->w.grownBy w' none->w'.heap.size=w.heap.size+1->wpListIn F n P ops Q rest (a.put o.dst (.pointer (some ⟨w.heap.size,0,none⟩))) w') :
  wpListIn F n P ops Q (o::rest) a w:=by
 refine wpListIn_plain hg λK' hK'=>?_
 have hr:(Instr.range t (.map (some b))).run P w=.ok (.pointer (some ⟨w.heap.size,0,none⟩)) (w.alloc (.mapIter (some b) cl #[] cl)):=by
  simp only[Instr.range,Sem.run_bind,run_underlying ht,getObj,Sem.run,hb,Result.andThen]
  rfl
 have hblt:=(Array.getElem?_eq_some_iff.1 hb).1
 unfold Oper.wpIn
 refine⟨?_,?_⟩
 ·simp[Oper.about,hop]
 ·rw[Oper.semAt_plain F _ _ (by rw[hop];intro c hc';cases hc')]
  simp only[execOp,hop,hm,hr,Result.andThen,Sem.run_bind,Sem.run_pure]
  refine hK' _ _ (hK _ ⟨en,cl,#[],World.alloc_heap_new w _,(Below.heap_alloc w _ b hblt).trans hb,hst,?_⟩ (World.grownBy_alloc w _ none) (by simp))
  rw[List.filter_eq_self.2 (λe _=>by simp)]
theorem wpListIn_next_rg (hg:o.guard=none) (it:Operand)(hop:o.op=Op.next it false) (b r:Nat) (left:List Value)
  (hit:a.eval it=.pointer (some ⟨r,0,none⟩))(h:Rg w b r left)
  (hDone:left=[]->wpListIn F n P ops Q rest (a.put o.dst (.tuple #[.bool false])) w)
  (hMore:∀(x v:Value) (w':World) (left':List Value),(x::left').Perm left->Rg w' b r left'->w.grownBy w' (some r)->w'.heap.size=w.heap.size ->
   (Instr.entry (.pointer (some ⟨r,0,none⟩))).run P w'=.ok (.tuple #[x,v]) w'->wpListIn F n P ops Q rest (a.put o.dst (.tuple #[.bool true,x,v])) w') :
  wpListIn F n P ops Q (o::rest) a w:=by
 refine wpListIn_plain hg λK' hK'=>?_
 unfold Oper.wpIn
 refine⟨by simp[Oper.about,hop],?_⟩
 rw[Oper.semAt_plain F _ _ (by rw[hop];intro c hc';cases hc')]
 obtain⟨en,cl,seen,h1,h2,h3,h4⟩:=h.ex
 rcases run_next_at (P:=P) w o.type r b cl cl seen en cl h1 h2 h3.1 (Nat.le_refl _) with⟨e0,r2⟩ | ⟨q,r1,w1,r2,r3⟩
 ·simp only[execOp,hop,hit,r2,Result.andThen,Sem.run_bind,Sem.run_pure]
  refine hK' _ _ (hDone ?_)
  have:(en.toList.filter λe=>!seen.contains e.born)=[]:=by
   have:=Array.eq_empty_of_size_eq_zero e0
   simpa [leftOf]using congrArg Array.toList this
  rw[this]at h4
  exact List.perm_nil.1 h4
 ·simp only[execOp,hop,hit,r3,Result.andThen,Sem.run_bind,Sem.run_pure]
  have hw1:w1.heap=w.heap:=by rcases r2 with rfl | rfl <;> rfl
  have hrlt:=(Array.getElem?_eq_some_iff.1 h1).1
  have hne:b≠r:=by intro e;subst e;rw[h1]at h2;cases h2
  have hqen:q∈en.toList/\(!seen.contains q.born)=true:=by
   simpa [leftOf]using r1
  have hr':(setBlock w1 r (.mapIter (some b) cl (seen.push q.born) cl)).heap[r]?=some (.mapIter (some b) cl (seen.push q.born) cl):=by
   show (w1.heap.setIfInBounds r _)[r]?=_
   rw[hw1]
   simp[hrlt]
  have hb':(setBlock w1 r (.mapIter (some b) cl (seen.push q.born) cl)).heap[b]?=some (.map en cl):=by
   show (w1.heap.setIfInBounds r _)[b]?=_
   rw[hw1,Array.getElem?_setIfInBounds_ne (Ne.symm hne)]
   exact h2
  have hf:(en.toList.filter λe=>!(seen.push q.born).contains e.born)=(en.toList.filter λe=>!seen.contains e.born).filter λe=>!(e.born==q.born):=by
   rw[List.filter_filter]
   refine List.filter_congr λe _=>?_
   simp only[Array.contains_push,Bool.not_or]
   rw[Bool.and_comm]
  obtain⟨la,lz,hl⟩:=List.append_of_mem (List.mem_filter.2 hqen:q∈en.toList.filter λe=>!seen.contains e.born)
  have hself:(la++q::lz).filter (λe:MapEntry=>!(e.born==q.born))=la++lz:=by
   have hnd2:((la++q::lz).map (·.born)).Nodup:=by rw[<- hl];exact h3.2.1.sublist (List.filter_sublist.map _)
   rw[List.map_append,List.map_cons,List.nodup_append]at hnd2
   obtain⟨n1,n2,n3⟩:=hnd2
   rw[List.nodup_cons]at n2
   rw[List.filter_append,List.filter_cons]
   have q0:(!(q.born==q.born))=false:=by simp
   rw[q0,if_neg (by simp)]
   congr 1
   ·rw[List.filter_eq_self]
    intro e he
    have:e.born≠q.born:=λh=>n3 _ (List.mem_map_of_mem he) _ (List.mem_cons_self ..) h
    simp[this]
   ·rw[List.filter_eq_self]
    intro e he
    have:e.born≠q.born:=λh=>n2.1 (by rw[<- h];exact List.mem_map_of_mem he)
    simp[this]
  refine hK' _ _ (hMore q.key q.val _ ((la++lz).map (·.key)) ?_ ⟨en,cl,seen.push q.born,hr',hb',h3,by rw[hf,hl,hself]⟩ ?_ ?_ (run_entry_at _ r b cl seen en cl q hr' hb' hqen.1 h3.2.1))
  ·refine List.Perm.trans ?_ h4.symm
   rw[hl]
   simp only[List.map_append,List.map_cons]
   exact List.perm_middle.symm
  ·refine⟨?_,?_,?_,?_,λk hk hne=>?_⟩
   ·rcases r2 with rfl | rfl <;> rfl
   ·rcases r2 with rfl | rfl <;> rfl
   ·rcases r2 with rfl | rfl <;> rfl
   ·show w.heap.size<=(w1.heap.setIfInBounds r _).size
    rw[hw1];simp
   ·show (w1.heap.setIfInBounds r _)[k]?=_
    rw[hw1,Array.getElem?_setIfInBounds_ne]
    intro e;exact hne (by rw[e])
  ·show (w1.heap.setIfInBounds r _).size=_
   rw[hw1];simp
end
end
end Go.Ax
end
section
namespace Go.AxC
open Go Go.Proofs Go.Ax Go.RowKit Go.Maps Go.Sort Go.Shelf
def encL (x:Bool × ByteArray):Value:=.agg #[.bool x.1,.string x.2]
def encS (x:ByteArray):Value:=.string x
def cellsL (x:Bool × ByteArray):List Value:=[.bool x.1,.string x.2]
def cellsS (x:ByteArray):List Value:=[.string x]
set_option maxRecDepth 100000 in
theorem keysL_stops (F:Fence) (n:Nat)(hF:F.fn 184)(hro:F.round=none)(hn:1<=n) (Bm b:Nat) (en:Array MapEntry) (cl:Nat) (w:World)(hBm:Bm<w.heap.size)
  (hm:w.cell? ⟨Bm,0,none⟩=some (.map (some b)))(hb:w.heap[b]?=some (.map en cl))(hst:MapKept.Stamped en cl)(hk:∀x∈en.toList.map (·.key),∃y,x=encL y) :
  SeqStopsK F n Tryz.prog 184 #[.pointer (some ⟨Bm,0,none⟩)] (λx=>#[encL x]) KeepsWalks (λxs=>(xs.map encL).Perm (en.toList.map (·.key))) (λ_=>True) en.size w:=by
 intro l J Jx W hW hJ hJx hY h0
 replace hm:W.cell? ⟨Bm,0,none⟩=some (.map (some b)):=(hW.cell (p:=⟨Bm,0,none⟩) hBm).trans hm
 replace hb:W.heap[b]?=some (.map en cl):=(hW.block b (Array.getElem?_eq_some_iff.1 hb).1).trans hb
 refine callsIn_of_wp Tryz.func184 rfl hF ?_ hro
 simp only[Tryz.ntmps184,List.size_toArray,List.length_cons,List.length_nil,Nat.reduceAdd,Nat.reduceSub,Array.replicate_succ,Array.replicate_zero,List.push_toArray,List.append_toArray,List.nil_append,List.cons_append]
 gi_wp2_with (first
  |(gi_at_range;refine wpListIn_range_rg _ rfl _ _ rfl _ _ Tryz.underlying113 b en cl rfl hb hst ?_;intro w0 hrg0 hg0 hs0)
  |gi_in)
 gi_loopw [] (λwr=>∃(left:List Value) (ss:List (Bool × ByteArray)),Rg wr b W.heap.size left/\(ss.map encL++left).Perm (en.toList.map (·.key))/\J ss wr)
  (λwr=>rgLeft wr b W.heap.size)
 case atStart=>
  exact⟨_,[],hrg0,by simp,hJ [] W w0 none h0 hg0 (λr e=>by cases e)⟩
 case round=>
  obtain⟨left,ss,hrg,hp,hJs⟩:=hrel
  gi_wp2_with (first
   |(gi_at_next;refine wpListIn_next_rg _ rfl _ rfl b W.heap.size left rfl hrg ?_ ?_)
   |gi_in)
  ·intro hl0
   gi_wp2
   go_end0
   refine⟨⟨_,rfl⟩,.inl ⟨ss,?_,hJs⟩⟩
   rw[hl0]at hp
   simpa using hp
  ·intro x v w2 left2 hpl hrg2 hg2 hs2 hen
   have hx:x∈en.toList.map (·.key):=hp.mem_iff.1 (List.mem_append_right _ (hpl.mem_iff.1 (List.mem_cons_self ..)))
   obtain⟨y,rfl⟩:=hk x hx
   have hJ2:J ss w2:=hJ ss wr w2 (some W.heap.size) hJs hg2 (λr e=>by cases e;exact⟨Nat.le_refl _,hrg.walk⟩)
   have hp2:((ss++[y]).map encL++left2).Perm (en.toList.map (·.key)):=by
    refine List.Perm.trans ?_ hp
    rw[List.map_append,List.append_assoc]
    exact List.Perm.append_left _ hpl
   have hlen:ss.length<en.size:=by
    have:=hp2.length_eq
    simp at this
    omega
   obtain⟨q1,q2⟩:=y
   have hJ3:J ss (w2.alloc (.cells #[.bool q1,.string q2] 105)):=hJ ss w2 _ none hJ2 (World.grownBy_alloc w2 _ none) (λr e=>by cases e)
   have hrg3:Rg (w2.alloc (.cells #[.bool q1,.string q2] 105)) b W.heap.size left2:=hrg2.kept (KeepsWalks.alloc _ _)
   obtain⟨fn,tmps,assign,body,hy,hR⟩:=hY ss (q1,q2) _ hJ3 hlen
   have hll:=hpl.length_eq
   simp only[encL]at hen hy
   simp only[encL]
   clear hs2
   gi_wp2
   refine hR.mono ?_
   rintro e W3 (⟨rfl,hJ4,hk3⟩ | ⟨rfl,hJx3⟩)
   ·gi_wp2
    have hrg4:=hrg3.kept hk3
    go_roundw
    case rel=>exact⟨left2,ss++[(q1,q2)],hrg4,hp2,hJ4⟩
    case measure=>rw[hrg4.left_eq,hrg.left_eq];simp at hll;omega
   ·gi_wp2
    refine bodyPost_ret (results_none rfl _ _ _) rfl ?_
    exact⟨⟨_,rfl⟩,.inr ⟨ss++[(q1,q2)],trivial,hJx3⟩⟩
set_option maxRecDepth 100000 in
theorem keysS_stops (F:Fence) (n:Nat)(hF:F.fn 187)(hro:F.round=none)(hn:1<=n) (Bm b:Nat) (en:Array MapEntry) (cl:Nat) (w:World)(hBm:Bm<w.heap.size)
  (hm:w.cell? ⟨Bm,0,none⟩=some (.map (some b)))(hb:w.heap[b]?=some (.map en cl))(hst:MapKept.Stamped en cl)(hk:∀x∈en.toList.map (·.key),∃y,x=encS y) :
  SeqStopsK F n Tryz.prog 187 #[.pointer (some ⟨Bm,0,none⟩)] (λx=>#[encS x]) KeepsWalks (λxs=>(xs.map encS).Perm (en.toList.map (·.key))) (λ_=>True) en.size w:=by
 intro l J Jx W hW hJ hJx hY h0
 replace hm:W.cell? ⟨Bm,0,none⟩=some (.map (some b)):=(hW.cell (p:=⟨Bm,0,none⟩) hBm).trans hm
 replace hb:W.heap[b]?=some (.map en cl):=(hW.block b (Array.getElem?_eq_some_iff.1 hb).1).trans hb
 refine callsIn_of_wp Tryz.func187 rfl hF ?_ hro
 simp only[Tryz.ntmps187,List.size_toArray,List.length_cons,List.length_nil,Nat.reduceAdd,Nat.reduceSub,Array.replicate_succ,Array.replicate_zero,List.push_toArray,List.append_toArray,List.nil_append,List.cons_append]
 gi_wp2_with (first
  |(gi_at_range;refine wpListIn_range_rg _ rfl _ _ rfl _ _ Tryz.underlying90 b en cl rfl hb hst ?_;intro w0 hrg0 hg0 hs0)
  |gi_in)
 gi_loopw [] (λwr=>∃(left:List Value) (ss:List (ByteArray)),Rg wr b W.heap.size left/\(ss.map encS++left).Perm (en.toList.map (·.key))/\J ss wr)
  (λwr=>rgLeft wr b W.heap.size)
 case atStart=>
  exact⟨_,[],hrg0,by simp,hJ [] W w0 none h0 hg0 (λr e=>by cases e)⟩
 case round=>
  obtain⟨left,ss,hrg,hp,hJs⟩:=hrel
  gi_wp2_with (first
   |(gi_at_next;refine wpListIn_next_rg _ rfl _ rfl b W.heap.size left rfl hrg ?_ ?_)
   |gi_in)
  ·intro hl0
   gi_wp2
   go_end0
   refine⟨⟨_,rfl⟩,.inl ⟨ss,?_,hJs⟩⟩
   rw[hl0]at hp
   simpa using hp
  ·intro x v w2 left2 hpl hrg2 hg2 hs2 hen
   have hx:x∈en.toList.map (·.key):=hp.mem_iff.1 (List.mem_append_right _ (hpl.mem_iff.1 (List.mem_cons_self ..)))
   obtain⟨y,rfl⟩:=hk x hx
   have hJ2:J ss w2:=hJ ss wr w2 (some W.heap.size) hJs hg2 (λr e=>by cases e;exact⟨Nat.le_refl _,hrg.walk⟩)
   have hp2:((ss++[y]).map encS++left2).Perm (en.toList.map (·.key)):=by
    refine List.Perm.trans ?_ hp
    rw[List.map_append,List.append_assoc]
    exact List.Perm.append_left _ hpl
   have hlen:ss.length<en.size:=by
    have:=hp2.length_eq
    simp at this
    omega
   obtain⟨q1,hq1⟩:∃q1,q1=y:=⟨_,rfl⟩
   subst hq1
   have hJ3:=hJ2
   have hrg3:=hrg2
   obtain⟨fn,tmps,assign,body,hy,hR⟩:=hY ss q1 _ hJ3 hlen
   have hll:=hpl.length_eq
   simp only[encS]at hen hy
   simp only[encS]
   clear hs2
   gi_wp2
   refine hR.mono ?_
   rintro e W3 (⟨rfl,hJ4,hk3⟩ | ⟨rfl,hJx3⟩)
   ·gi_wp2
    have hrg4:=hrg3.kept hk3
    go_roundw
    case rel=>exact⟨left2,ss++[q1],hrg4,hp2,hJ4⟩
    case measure=>rw[hrg4.left_eq,hrg.left_eq];simp at hll;omega
   ·gi_wp2
    refine bodyPost_ret (results_none rfl _ _ _) rfl ?_
    exact⟨⟨_,rfl⟩,.inr ⟨ss++[q1],trivial,hJx3⟩⟩
set_option maxRecDepth 100000 in
theorem keysT_stops (F:Fence) (n:Nat)(hF:F.fn 318)(hro:F.round=none)(hn:1<=n) (Bm b:Nat) (en:Array MapEntry) (cl:Nat) (w:World)(hBm:Bm<w.heap.size)
  (hm:w.cell? ⟨Bm,0,none⟩=some (.map (some b)))(hb:w.heap[b]?=some (.map en cl))(hst:MapKept.Stamped en cl)(hk:∀x∈en.toList.map (·.key),∃y,x=encS y) :
  SeqStopsK F n Tryz.prog 318 #[.pointer (some ⟨Bm,0,none⟩)] (λx=>#[encS x]) KeepsWalks (λxs=>(xs.map encS).Perm (en.toList.map (·.key))) (λ_=>True) en.size w:=by
 intro l J Jx W hW hJ hJx hY h0
 replace hm:W.cell? ⟨Bm,0,none⟩=some (.map (some b)):=(hW.cell (p:=⟨Bm,0,none⟩) hBm).trans hm
 replace hb:W.heap[b]?=some (.map en cl):=(hW.block b (Array.getElem?_eq_some_iff.1 hb).1).trans hb
 refine callsIn_of_wp Tryz.func318 rfl hF ?_ hro
 simp only[Tryz.ntmps318,List.size_toArray,List.length_cons,List.length_nil,Nat.reduceAdd,Nat.reduceSub,Array.replicate_succ,Array.replicate_zero,List.push_toArray,List.append_toArray,List.nil_append,List.cons_append]
 gi_wp2_with (first
  |(gi_at_range;refine wpListIn_range_rg _ rfl _ _ rfl _ _ Tryz.underlying75 b en cl rfl hb hst ?_;intro w0 hrg0 hg0 hs0)
  |gi_in)
 gi_loopw [] (λwr=>∃(left:List Value) (ss:List (ByteArray)),Rg wr b W.heap.size left/\(ss.map encS++left).Perm (en.toList.map (·.key))/\J ss wr)
  (λwr=>rgLeft wr b W.heap.size)
 case atStart=>
  exact⟨_,[],hrg0,by simp,hJ [] W w0 none h0 hg0 (λr e=>by cases e)⟩
 case round=>
  obtain⟨left,ss,hrg,hp,hJs⟩:=hrel
  gi_wp2_with (first
   |(gi_at_next;refine wpListIn_next_rg _ rfl _ rfl b W.heap.size left rfl hrg ?_ ?_)
   |gi_in)
  ·intro hl0
   gi_wp2
   go_end0
   refine⟨⟨_,rfl⟩,.inl ⟨ss,?_,hJs⟩⟩
   rw[hl0]at hp
   simpa using hp
  ·intro x v w2 left2 hpl hrg2 hg2 hs2 hen
   have hx:x∈en.toList.map (·.key):=hp.mem_iff.1 (List.mem_append_right _ (hpl.mem_iff.1 (List.mem_cons_self ..)))
   obtain⟨y,rfl⟩:=hk x hx
   have hJ2:J ss w2:=hJ ss wr w2 (some W.heap.size) hJs hg2 (λr e=>by cases e;exact⟨Nat.le_refl _,hrg.walk⟩)
   have hp2:((ss++[y]).map encS++left2).Perm (en.toList.map (·.key)):=by
    refine List.Perm.trans ?_ hp
    rw[List.map_append,List.append_assoc]
    exact List.Perm.append_left _ hpl
   have hlen:ss.length<en.size:=by
    have:=hp2.length_eq
    simp at this
    omega
   obtain⟨q1,hq1⟩:∃q1,q1=y:=⟨_,rfl⟩
   subst hq1
   have hJ3:=hJ2
   have hrg3:=hrg2
   obtain⟨fn,tmps,assign,body,hy,hR⟩:=hY ss q1 _ hJ3 hlen
   have hll:=hpl.length_eq
   simp only[encS]at hen hy
   simp only[encS]
   clear hs2
   gi_wp2
   refine hR.mono ?_
   rintro e W3 (⟨rfl,hJ4,hk3⟩ | ⟨rfl,hJx3⟩)
   ·gi_wp2
    have hrg4:=hrg3.kept hk3
    go_roundw
    case rel=>exact⟨left2,ss++[q1],hrg4,hp2,hJ4⟩
    case measure=>rw[hrg4.left_eq,hrg.left_eq];simp at hll;omega
   ·gi_wp2
    refine bodyPost_ret (results_none rfl _ _ _) rfl ?_
    exact⟨⟨_,rfl⟩,.inr ⟨ss++[q1],trivial,hJx3⟩⟩
def loopA:Option Code->Code
 |some (.seq _ (.seq (.seq _ (.block _ (.rangeFunc _ _ a _))) _))=>a
 |_=>.skip
def loopB:Option Code->Code
 |some (.seq _ (.seq (.seq _ (.block _ (.rangeFunc _ _ _ b))) _))=>b
 |_=>.skip
def Kp2 (n:Nat) (A B:World):Prop:=KeepsWalks A B/\Below n A B
theorem kp2_of {α:Type}{F:Fence}{n:Nat}{P:Program}{g:Nat}{lb:Array Value}{encs:α->Array Value}{S Sp:List α->Prop}{N:Nat}{w:World} (m:Nat)(h:SeqStopsK F n P g lb encs KeepsWalks S Sp N w):SeqStopsK F n P g lb encs (Kp2 m) S Sp N w:=
 λl J Jx W hW hJ hJx hY h0=>h l J Jx W hW hJ hJx (λpre x W1 h1 h2=>by
  obtain⟨fn,tmps,assign,body,hy,hR⟩:=hY pre x W1 h1 h2
  exact⟨fn,tmps,assign,body,hy,hR.mono λe W' h=>h.imp (λ⟨a,b,c⟩=>⟨a,b,c.1⟩) id⟩) h0
theorem below_two {n:Nat}{w A B:World}(h:Below n w A) (k:Below n w B)(hs:A.heap.size<=B.heap.size):Below n A B:=
 ⟨k.os.trans h.os.symm,k.tape.trans h.tape.symm,k.output.trans h.output.symm,hs,λi hi=>(k.block i hi).trans (h.block i hi).symm⟩
theorem cell_two_new (w:World) (x y:Value) (t:TypeId):∀j u,[x,y][j]?=some u->(w.alloc (.cells #[x,y] t)).cell? ((⟨w.heap.size,0,none⟩:Addr).add j)=some u:=by
 intro j u hj
 match j,hj with
 |0,hj=>simp at hj;subst hj;simp[Addr.add]
 |1,hj=>simp at hj;subst hj;simp[Addr.add]
noncomputable def apAssignL:Code:=loopA Tryz.f221.body
noncomputable def apBodyL:Code:=loopB Tryz.f221.body
noncomputable def apRecL (fn:FuncId) (sv:Value) (Bs D:Nat) (st:LoopState) (pend:Option Code):Loop:=
 { state:=st,pending:=pend,fn,tmps:=#[.slice none 0 0,sv,.pointer (some ⟨Bs,0,none⟩),undef,.slice none 0 0,undef,sv,undef,undef,undef,undef,undef,undef],params:=#[7],assign:=apAssignL,body:=apBodyL,defers:=D }
structure ApAtL (w0:World) (fn:FuncId) (sv:Value) (Bs l D:Nat) (ss:List (Bool × ByteArray)) (W:World):Prop where
 box:∃v,W.heap[Bs]?=some (.cells #[v] 107 (0,0))/\W.ownsRow w0.heap.size 105 2 v ss.length (ss.flatMap cellsL)/\(v=.slice none 0 0 ↔ ss=[])
 L:W.heap[l]?=some (.loop (apRecL fn sv Bs D .ready none))
 K:W.heap[D]?=some (.deferred (some []))
 below:Below w0.heap.size w0 W
theorem ap_abidesL (w0:World) (fn:FuncId) (sv:Value) (Bs l D B:Nat)(hB:w0.heap.size<=B):AbidesFrom B (ApAtL w0 fn sv Bs l D):=λs W W' row h hg hrow=>by
 have hrow':∀r,row=some r->∃o:Obj,W.heap[r]?=some o/\o.isWalk=true:=λr e=>(hrow r e).2
 obtain⟨v,hv,hr,hn⟩:=h.box
 exact⟨⟨v,(grownBy_keeps hg hrow' hv rfl).trans hv,ownsRow_abides_a hr hg hrow',hn⟩,(grownBy_keeps hg hrow' h.L rfl).trans h.L,(grownBy_keeps hg hrow' h.K rfl).trans h.K,
  h.below.grown hg h.below.size (λk e=>Nat.le_trans hB (hrow k e).1)⟩
set_option maxRecDepth 100000 in
theorem apYieldL (F : Fence) (m : Nat) (w0 : World) (fn : FuncId) (hfn : F.fn fn) (sv : Value) (Bs l D : Nat) (hBl : Bs ≠ l) (hDl : D ≠ l) (hDB : D ≠ Bs) (h0B : w0.heap.size <= Bs) (h0l : w0.heap.size <= l)
    (N : Nat) (hN : N <= maxLen) (hNb : N * 24 <= 140737488355328) (ss : List (Bool × ByteArray)) (x : Bool × ByteArray) (W : World) (h : ApAtL w0 fn sv Bs l D ss W) (hlen : ss.length < N) :
    YieldAt F m Tryz.prog l #[encL x] W fun e W' => e = .returned (.bool true) /\ ApAtL w0 fn sv Bs l D (ss ++ [x]) W' /\ Kp2 w0.heap.size W W' := by
  obtain ⟨q1, q2⟩ := x
  obtain ⟨v, hv, hrow, _⟩ := h.box
  have h' := h
  refine ⟨fn, #[.slice none 0 0, sv, .pointer (some ⟨Bs, 0, none⟩), undef, .slice none 0 0, undef, sv, encL (q1, q2), undef, undef, undef, undef, undef], apAssignL, apBodyL, by simpa [apRecL] using run_yield (P := Tryz.prog) (args := #[encL (q1, q2)]) h.L rfl, roundIn_of_wpIn hfn ?_⟩
  have hBW : Bs < W.heap.size := (Array.getElem?_eq_some_iff.1 hv).1
  have hlW : l < W.heap.size := (Array.getElem?_eq_some_iff.1 h.L).1
  have hDW : D < W.heap.size := (Array.getElem?_eq_some_iff.1 h.K).1
  have hv1 : (W.alloc (.cells #[.bool q1, .string q2] 105)).heap[Bs]? = some (.cells #[v] 107 (0, 0)) := (Below.heap_alloc _ _ Bs hBW).trans hv
  have hL1 : (W.alloc (.cells #[.bool q1, .string q2] 105)).heap[l]? = some (.loop (apRecL fn sv Bs D .ready none)) := (Below.heap_alloc _ _ l hlW).trans h.L
  have hK1 : (W.alloc (.cells #[.bool q1, .string q2] 105)).heap[D]? = some (.deferred (some [])) := (Below.heap_alloc _ _ D hDW).trans h.K
  have hrow1 : (W.alloc (.cells #[.bool q1, .string q2] 105)).ownsRow w0.heap.size 105 2 v ss.length (ss.flatMap cellsL) := hrow.alloc _
  have hb1 : Below w0.heap.size w0 (W.alloc (.cells #[.bool q1, .string q2] 105)) := h.below.alloc h.below.size _
  have hk1 : KeepsWalks W (W.alloc (.cells #[.bool q1, .string q2] 105)) := KeepsWalks.alloc _ _
  have hbr := run_beginRound (P := Tryz.prog) hL1 rfl
  obtain ⟨W2, hW2⟩ : ∃ W2, (W.alloc (.cells #[.bool q1, .string q2] 105)).putObj l (.loop { apRecL fn sv Bs D .ready none with state := .busy }) = W2 := ⟨_, rfl⟩
  rw [hW2] at hbr
  have hl1 : l < (W.alloc (.cells #[.bool q1, .string q2] 105)).heap.size := (Array.getElem?_eq_some_iff.1 hL1).1
  have hg2 : (W.alloc (.cells #[.bool q1, .string q2] 105)).grownBy W2 (some l) := by rw [<- hW2]; exact grownBy_putObj_a _ _ _
  have hk2 : KeepsWalks W W2 := hk1.trans (by rw [<- hW2]; exact KeepsWalks.putObj _ hL1 rfl)
  have hv2 : W2.heap[Bs]? = some (.cells #[v] 107 (0, 0)) := by rw [<- hW2]; exact (World.putObj_heap_other hBl).trans hv1
  have hK2 : W2.heap[D]? = some (.deferred (some [])) := by rw [<- hW2]; exact (World.putObj_heap_other hDl).trans hK1
  have hL2 : W2.heap[l]? = some (.loop { apRecL fn sv Bs D .ready none with state := .busy }) := by rw [<- hW2]; exact World.putObj_heap_same hl1
  have hrow2 : W2.ownsRow w0.heap.size 105 2 v ss.length (ss.flatMap cellsL) := hrow1.kept hg2 (ownsRow_ne_a hrow1 hL1 (fun cur e => by cases e))
  have hb2 : Below w0.heap.size w0 W2 := hb1.grown hg2 hb1.size (fun k e => by cases e; exact h0l)
  have hBlt : Bs < W2.heap.size := (Array.getElem?_eq_some_iff.1 hv2).1
  have hl2 : l < W2.heap.size := (Array.getElem?_eq_some_iff.1 hL2).1
  have hDlt : D < W2.heap.size := (Array.getElem?_eq_some_iff.1 hK2).1
  obtain ⟨hc2, hf2⟩ := cell_of_box_a hv2
  have hx2 : W2.heap[W.heap.size]? = some (.cells #[.bool q1, .string q2] 105 (0, 0)) := by rw [<- hW2]; exact (World.putObj_heap_other (by omega)).trans (World.alloc_heap_new W _)
  have hxA : W2.cell? ⟨W.heap.size, 0, none⟩ = some (.bool q1) := by simp [World.cell?, hx2]
  have hxB : W2.cell? ⟨W.heap.size, 1, none⟩ = some (.string q2) := by simp [World.cell?, hx2]
  have ne_of : ∀ {j : Nat} {o : Obj}, W2.heap[j]? = some o -> (∀ cur, o ≠ .cells cur 105 (0, 0)) -> some j ≠ v.ownBlock := fun hj hno => by
    rcases ownsRow_ne_a hrow2 hj hno with e | e
    · rw [e]; simp
    · exact fun e' => e e'.symm
  clear hW2
  simp only [apAssignL, loopA, Tryz.f221, encL]
  gi_wp2_with (rw [Oper.semAt_eq _ _ _ (fun c h => by cases h)]; go_simp; try go_bits)
  simp only [apBodyL, loopB, Tryz.f221]
  gi_wp2_with (first
    | (gi_at_builtin; refine wpListIn_append_own _ rfl _ _ 107 rfl w0.heap.size 105 _ (.agg #[.bool false, .string ⟨#[]⟩]) 2 24 Tryz.underlying107 Tryz.type105 rfl rfl rfl rfl (by decide) _ _ _ rfl (hrow2.alloc _) ⟨W2.heap.size, 0, none⟩ 1 1 [.bool q1, .string q2] rfl rfl (cell_two_new _ _ _ _) (by simp [Value.oneCell']) (by omega) (by omega) (by have := hb2.size; simp; omega) ?_; intro v' w3 hown' hg3 hnil3
       have hv3 : w3.heap[Bs]? = some (.cells #[v] 107 (0, 0)) := (hg3.block Bs (by simp; omega) (ne_of hv2 (fun cur e => by cases e))).trans ((Below.heap_alloc _ _ Bs hBlt).trans hv2)
       obtain ⟨hc3, hf3⟩ := cell_of_box_a hv3
       obtain ⟨g', cap', cur', rfl, hbase', hgb', hr1, hr2, hr3, hr4⟩ : ∃ g' cap' cur', v' = .slice (some ⟨g', 0, none⟩) (ss.length + 1) cap' /\ w0.heap.size <= g' /\ w3.heap[g']? = some (.cells cur' 105 (0, 0)) /\ ss.length + 1 <= cap' /\ cap' <= maxLen /\ cur'.size = cap' * 2 /\ cur'.toList.take ((ss.length + 1) * 2) = ss.flatMap cellsL ++ [.bool q1, .string q2] := by
         rcases hown'.2 with ⟨_, h0⟩ | h'
         · exact absurd h0 (by omega)
         · exact h'
       go_frame)
    | (rw [Oper.semAt_eq _ _ _ (fun c h => by cases h)]; go_simp; try go_bits))
  have hg3' : (W2.alloc (.cells #[.bool q1, .string q2] 105)).grownBy w3 v.ownBlock := hg3
  have hL3 : w3.heap[l]? = some (.loop { apRecL fn sv Bs D .ready none with state := .busy }) := (hg3'.block l (by simp; omega) (ne_of hL2 (fun cur e => by cases e))).trans ((Below.heap_alloc _ _ l hl2).trans hL2)
  have hK3 : w3.heap[D]? = some (.deferred (some [])) := (hg3'.block D (by simp; omega) (ne_of hK2 (fun cur e => by cases e))).trans ((Below.heap_alloc _ _ D hDlt).trans hK2)
  obtain ⟨w4, hw4⟩ : ∃ w4, w3.setCell ⟨Bs, 0, none⟩ (.slice (some ⟨g', 0, none⟩) (ss.length + 1) cap') = w4 := ⟨_, rfl⟩
  rw [hw4]
  have hg4 : w3.grownBy w4 (some Bs) := by rw [<- hw4]; exact grownBy_setCell0_a _ _ _
  have hv4 : w4.heap[Bs]? = some (.cells #[.slice (some ⟨g', 0, none⟩) (ss.length + 1) cap'] 107 (0, 0)) := by rw [<- hw4]; exact heap_setCell_box_a _ hv3
  have hL4 : w4.heap[l]? = some (.loop { apRecL fn sv Bs D .ready none with state := .busy }) := (hg4.block l (Array.getElem?_eq_some_iff.1 hL3).1 (fun e => hBl (by cases e; rfl))).trans hL3
  have hK4 : w4.heap[D]? = some (.deferred (some [])) := (hg4.block D (Array.getElem?_eq_some_iff.1 hK3).1 (fun e => hDB (by cases e; rfl))).trans hK3
  have hrow4 := hown'.kept hg4 (ownsRow_ne_a hown' hv3 (fun cur e => by cases e))
  have hl4 : l < w4.heap.size := (Array.getElem?_eq_some_iff.1 hL4).1
  have hb3 : Below w0.heap.size w0 w3 := (hb2.alloc hb2.size _).grown hg3' (by have := hb2.size; simp; omega) (fun k e => (hrow2.lt k e).1)
  have hb4 : Below w0.heap.size w0 w4 := hb3.grown hg4 hb3.size (fun k e => by cases e; exact h0B)
  have hk4 : KeepsWalks W w4 := ((hk2.trans (KeepsWalks.alloc _ _)).trans (KeepsWalks.of_grownBy hg3' (ownsRow_not_walk_a (hrow2.alloc _)))).trans (by rw [<- hw4]; exact KeepsWalks.setCell _ _ _)
  clear hw4
  have hb5 := hb4.grown (grownBy_putObj_a w4 l (.loop { { apRecL fn sv Bs D .ready none with state := .busy } with state := if (none : Option Code).isNone then .ready else .done, pending := none })) hb4.size (fun k e => by cases e; exact h0l)
  have hk5 := hk4.trans (KeepsWalks.putObj (.loop { { apRecL fn sv Bs D .ready none with state := .busy } with state := if (none : Option Code).isNone then .ready else .done, pending := none }) hL4 rfl)
  refine ⟨_, _, run_endRound none hL4, rfl, ⟨⟨_, (World.putObj_heap_other hBl).trans hv4, ?_, by simp⟩, World.putObj_heap_same hl4, (World.putObj_heap_other hDl).trans hK4, hb5⟩, hk5, below_two h'.below hb5 hk5.size⟩
  have := hrow4.kept (grownBy_putObj_a w4 l (.loop { { apRecL fn sv Bs D .ready none with state := .busy } with state := if (none : Option Code).isNone then .ready else .done, pending := none })) (ownsRow_ne_a hrow4 hL4 (fun cur e => by cases e))
  simpa [cellsL] using this
set_option maxRecDepth 100000 in
theorem appendSeqL (F : Fence) (n : Nat) (hF : F.fn 221) (hro : F.round = none) (hn : 2 <= n) (g : Nat) (lb : Array Value) (hFg : F.fn g) (eg : ∀ args w, (callFunc g args).run Tryz.prog w = .ok (.enter g args) w)
    (S : List (Bool × ByteArray) -> Prop) (N : Nat) (hN : N <= maxLen) (hNb : N * 24 <= 140737488355328) (w : World) (hseq : SeqStopsK F (n - 1) Tryz.prog g lb (fun x => #[encL x]) (Kp2 w.heap.size) S (fun _ => True) N w) :
    CallsIn F n Tryz.prog 221 #[.slice none 0 0, .func (.func g) #[] lb] w fun e w' => ∃ (v : Value) (ss : List (Bool × ByteArray)), e = .returned v /\ S ss /\ w'.ownsRow w.heap.size 105 2 v ss.length (ss.flatMap cellsL) /\ (v = .slice none 0 0 ↔ ss = []) /\ Below w.heap.size w w' := by
  have h1 : 1 <= n := by omega
  refine callsIn_of_wp_marks Tryz.func221 rfl hF ?_ hro
  simp only [Tryz.ntmps221, List.size_toArray, List.length_cons, List.length_nil, Nat.reduceAdd, Nat.reduceSub, Array.replicate_succ, Array.replicate_zero, List.push_toArray, List.append_toArray, List.nil_append, List.cons_append]
  gi_wp2
  refine wpIn_rangeFunc ?_
  intro fn hfn
  rw [hro]
  obtain ⟨W0, hW0⟩ : ∃ W0, w.alloc (.cells #[.slice none 0 0] 107) = W0 := ⟨_, rfl⟩
  have hs0 : W0.heap.size = w.heap.size + 1 := by rw [<- hW0]; simp
  have hv0 : W0.heap[w.heap.size]? = some (.cells #[.slice none 0 0] 107 (0, 0)) := by rw [<- hW0]; exact World.alloc_heap_new w _
  have hb0 : Below w.heap.size w W0 := by rw [<- hW0]; exact (Below.refl _ w).alloc (Nat.le_refl _) _
  rw [hW0]
  obtain ⟨W1, hW1⟩ : ∃ W1, (W0.alloc (.deferred (some []))).alloc (.loop (apRecL fn (.func (.func g) #[] lb) w.heap.size W0.heap.size .ready none)) = W1 := ⟨_, rfl⟩
  have hold : ∀ k, k < W0.heap.size -> W1.heap[k]? = W0.heap[k]? := fun k hk => by
    rw [<- hW1]; exact (Below.heap_alloc _ _ k (by simp; omega)).trans (Below.heap_alloc _ _ k hk)
  have hb1 : Below w.heap.size w W1 := by rw [<- hW1]; exact (hb0.alloc hb0.size _).alloc (by have := hb0.size; simp; omega) _
  have hs1 : W1.heap.size = W0.heap.size + 2 := by rw [<- hW1]; simp
  have hM : ApAtL w fn (.func (.func g) #[] lb) w.heap.size (W0.heap.size + 1) W0.heap.size [] W1 :=
    ⟨⟨_, (hold w.heap.size (by omega)).trans hv0, ⟨rfl, .inl ⟨rfl, rfl⟩⟩, by simp⟩,
     by rw [<- hW1]; have := World.alloc_heap_new (W0.alloc (.deferred (some []))) (.loop (apRecL fn (.func (.func g) #[] lb) w.heap.size W0.heap.size .ready none)); rwa [World.size_alloc] at this,
     by rw [<- hW1]; exact (Below.heap_alloc _ _ _ (by simp)).trans (World.alloc_heap_new W0 _), hb1⟩
  refine ⟨W0.heap.size + 1, [{ target := .collected W0.heap.size, args := #[] }], W1, { target := .fn (.func g) lb, args := #[.func (.yield (W0.heap.size + 1)) #[] #[]] }, W1, g,
    #[.func (.yield (W0.heap.size + 1)) #[] #[]] ++ lb, W1, ?_, ?_, ?_, ?_, fun _ => h1, ?_⟩
  · rw [<- hW1]; exact run_enterLoop_outer _ _ _ _ _
  · simp [resolve, go_sem]
  · intro f' hf'; simp [Target.leads] at hf'; subst hf'; exact hFg
  · simp [invoke, go_sem, eg]
  · refine (hseq (W0.heap.size + 1) (ApAtL w fn (.func (.func g) #[] lb) w.heap.size (W0.heap.size + 1) W0.heap.size) (fun _ _ => False) W1 hb1 (ap_abidesL _ _ _ _ _ _ _ hb1.size) (fun _ _ _ _ h _ _ => h)
      (fun pre x W hJ hl => by
        obtain ⟨fn', tmps, assign, body, hy, hR⟩ := apYieldL F (n - 1 - 1) w fn hfn _ w.heap.size (W0.heap.size + 1) W0.heap.size (by omega) (by omega) (by omega) (Nat.le_refl _) (by omega) N hN hNb pre x W hJ hl
        exact ⟨fn', tmps, assign, body, hy, hR.mono fun e W' h => .inl h⟩) hM).mono ?_
    rintro e W2 ⟨⟨v0, rfl⟩, ⟨ss, hS, h2⟩ | ⟨_, _, hf⟩⟩
    case inr => exact hf.elim
    obtain ⟨v, hv, hrow, hnil⟩ := h2.box
    have hend := run_endLoop (P := Tryz.prog) h2.L (by simp [apRecL])
    obtain ⟨W3, hW3⟩ : ∃ W3, W2.putObj (W0.heap.size + 1) (.loop { apRecL fn (.func (.func g) #[] lb) w.heap.size W0.heap.size .ready none with state := .exhausted }) = W3 := ⟨_, rfl⟩
    rw [hW3] at hend
    have hg3 : W2.grownBy W3 (some (W0.heap.size + 1)) := by rw [<- hW3]; exact grownBy_putObj_a _ _ _
    have hv3 : W3.heap[w.heap.size]? = some (.cells #[v] 107 (0, 0)) := by rw [<- hW3]; exact (World.putObj_heap_other (by omega)).trans hv
    have hK3 : W3.heap[W0.heap.size]? = some (.deferred (some [])) := by rw [<- hW3]; exact (World.putObj_heap_other (by omega)).trans h2.K
    have hrow3 := hrow.kept hg3 (ownsRow_ne_a hrow h2.L (fun cur e => by cases e))
    have hb3 : Below w.heap.size w W3 := h2.below.grown hg3 h2.below.size (fun k e => by cases e; omega)
    obtain ⟨hc3, hf3⟩ := cell_of_box_a hv3
    clear hW3
    refine ⟨none, W3, hend, ?_⟩
    gi_wp2
    rw [<- hs0]
    refine ⟨by simp, .inl ⟨_, _, rfl, run_takeDeferred hK3, ?_⟩⟩
    exact ⟨_, results_tmp rfl _ _ _, v, ss, rfl, hS, hrow3.kept (grownBy_putObj_a _ _ _) (ownsRow_ne_a hrow3 hK3 (fun cur e => by cases e)), hnil, hb3.grown (grownBy_putObj_a _ _ _) hb3.size (fun k e => by cases e; omega)⟩
theorem collectL (F:Fence) (n:Nat)(hC:F.fn 182)(hF:F.fn 221)(hro:F.round=none)(hn:3<=n) (g:Nat) (lb:Array Value)(hFg:F.fn g) (eg:∀args w,(callFunc g args).run Tryz.prog w=.ok (.enter g args) w)
  (S:List (Bool × ByteArray)->Prop) (N:Nat)(hN:N<=maxLen)(hNb:N*24<=140737488355328) (w:World)(hseq:SeqStopsK F (n-1-1) Tryz.prog g lb (λx=>#[encL x]) (Kp2 w.heap.size) S (λ_=>True) N w) :
  CallsIn F n Tryz.prog 182 #[.func (.func g) #[] lb] w λe w'=>∃(v:Value) (ss:List (Bool × ByteArray)),e=.returned v/\S ss/\w'.ownsRow w.heap.size 105 2 v ss.length (ss.flatMap cellsL)/\(v=.slice none 0 0 ↔ ss=[])/\Below w.heap.size w w':=by
 have h1:1<=n:=by omega
 refine callsIn_of_wp Tryz.func182 rfl hC ?_ hro
 simp only[Tryz.ntmps182,List.size_toArray,List.length_cons,List.length_nil,Nat.reduceAdd,Nat.reduceSub,Array.replicate_succ,Array.replicate_zero,List.push_toArray,List.append_toArray,List.nil_append,List.cons_append]
 gi_wp2_with (gi_at_call 221;refine (appendSeqL F (n-1) hF hro (by omega) g lb hFg eg S N hN hNb _ hseq).mono ?_;rintro e w' ⟨v,ss,rfl,hS,hrow,hnil,hb⟩)
 go_ret
 exact⟨v,ss,rfl,hS,hrow,hnil,hb⟩
noncomputable def apAssignS:Code:=loopA Tryz.f223.body
noncomputable def apBodyS:Code:=loopB Tryz.f223.body
noncomputable def apRecS (fn:FuncId) (sv:Value) (Bs D:Nat) (st:LoopState) (pend:Option Code):Loop:=
 { state:=st,pending:=pend,fn,tmps:=#[.slice none 0 0,sv,.pointer (some ⟨Bs,0,none⟩),undef,.slice none 0 0,undef,sv,undef,undef,undef,undef,undef,undef],params:=#[7],assign:=apAssignS,body:=apBodyS,defers:=D }
structure ApAtS (w0:World) (fn:FuncId) (sv:Value) (Bs l D:Nat) (ss:List (ByteArray)) (W:World):Prop where
 box:∃v,W.heap[Bs]?=some (.cells #[v] 33 (0,0))/\W.ownsRow w0.heap.size 9 1 v ss.length (ss.flatMap cellsS)/\(v=.slice none 0 0 ↔ ss=[])
 L:W.heap[l]?=some (.loop (apRecS fn sv Bs D .ready none))
 K:W.heap[D]?=some (.deferred (some []))
 below:Below w0.heap.size w0 W
theorem ap_abidesS (w0:World) (fn:FuncId) (sv:Value) (Bs l D B:Nat)(hB:w0.heap.size<=B):AbidesFrom B (ApAtS w0 fn sv Bs l D):=λs W W' row h hg hrow=>by
 have hrow':∀r,row=some r->∃o:Obj,W.heap[r]?=some o/\o.isWalk=true:=λr e=>(hrow r e).2
 obtain⟨v,hv,hr,hn⟩:=h.box
 exact⟨⟨v,(grownBy_keeps hg hrow' hv rfl).trans hv,ownsRow_abides_a hr hg hrow',hn⟩,(grownBy_keeps hg hrow' h.L rfl).trans h.L,(grownBy_keeps hg hrow' h.K rfl).trans h.K,
  h.below.grown hg h.below.size (λk e=>Nat.le_trans hB (hrow k e).1)⟩
set_option maxRecDepth 100000 in
theorem apYieldS (F : Fence) (m : Nat) (w0 : World) (fn : FuncId) (hfn : F.fn fn) (sv : Value) (Bs l D : Nat) (hBl : Bs ≠ l) (hDl : D ≠ l) (hDB : D ≠ Bs) (h0B : w0.heap.size <= Bs) (h0l : w0.heap.size <= l)
    (N : Nat) (hN : N <= maxLen) (hNb : N * 16 <= 140737488355328) (ss : List (ByteArray)) (x : ByteArray) (W : World) (h : ApAtS w0 fn sv Bs l D ss W) (hlen : ss.length < N) :
    YieldAt F m Tryz.prog l #[encS x] W fun e W' => e = .returned (.bool true) /\ ApAtS w0 fn sv Bs l D (ss ++ [x]) W' /\ Kp2 w0.heap.size W W' := by
  obtain ⟨q1, hq1⟩ : ∃ q1, q1 = x := ⟨_, rfl⟩
  subst hq1
  obtain ⟨v, hv, hrow, _⟩ := h.box
  have h' := h
  refine ⟨fn, #[.slice none 0 0, sv, .pointer (some ⟨Bs, 0, none⟩), undef, .slice none 0 0, undef, sv, encS q1, undef, undef, undef, undef, undef], apAssignS, apBodyS, by simpa [apRecS] using run_yield (P := Tryz.prog) (args := #[encS q1]) h.L rfl, roundIn_of_wpIn hfn ?_⟩
  have hv1 := hv
  have hL1 := h.L
  have hK1 := h.K
  have hrow1 := hrow
  have hb1 := h.below
  have hk1 := KeepsWalks.refl W
  have hbr := run_beginRound (P := Tryz.prog) hL1 rfl
  obtain ⟨W2, hW2⟩ : ∃ W2, W.putObj l (.loop { apRecS fn sv Bs D .ready none with state := .busy }) = W2 := ⟨_, rfl⟩
  rw [hW2] at hbr
  have hl1 : l < W.heap.size := (Array.getElem?_eq_some_iff.1 hL1).1
  have hg2 : W.grownBy W2 (some l) := by rw [<- hW2]; exact grownBy_putObj_a _ _ _
  have hk2 : KeepsWalks W W2 := hk1.trans (by rw [<- hW2]; exact KeepsWalks.putObj _ hL1 rfl)
  have hv2 : W2.heap[Bs]? = some (.cells #[v] 33 (0, 0)) := by rw [<- hW2]; exact (World.putObj_heap_other hBl).trans hv1
  have hK2 : W2.heap[D]? = some (.deferred (some [])) := by rw [<- hW2]; exact (World.putObj_heap_other hDl).trans hK1
  have hL2 : W2.heap[l]? = some (.loop { apRecS fn sv Bs D .ready none with state := .busy }) := by rw [<- hW2]; exact World.putObj_heap_same hl1
  have hrow2 : W2.ownsRow w0.heap.size 9 1 v ss.length (ss.flatMap cellsS) := hrow1.kept hg2 (ownsRow_ne_a hrow1 hL1 (fun cur e => by cases e))
  have hb2 : Below w0.heap.size w0 W2 := hb1.grown hg2 hb1.size (fun k e => by cases e; exact h0l)
  have hBlt : Bs < W2.heap.size := (Array.getElem?_eq_some_iff.1 hv2).1
  have hl2 : l < W2.heap.size := (Array.getElem?_eq_some_iff.1 hL2).1
  have hDlt : D < W2.heap.size := (Array.getElem?_eq_some_iff.1 hK2).1
  obtain ⟨hc2, hf2⟩ := cell_of_box_a hv2
  have ne_of : ∀ {j : Nat} {o : Obj}, W2.heap[j]? = some o -> (∀ cur, o ≠ .cells cur 9 (0, 0)) -> some j ≠ v.ownBlock := fun hj hno => by
    rcases ownsRow_ne_a hrow2 hj hno with e | e
    · rw [e]; simp
    · exact fun e' => e e'.symm
  clear hW2
  simp only [apAssignS, loopA, Tryz.f223, encS]
  gi_wp2_with (rw [Oper.semAt_eq _ _ _ (fun c h => by cases h)]; go_simp; try go_bits)
  simp only [apBodyS, loopB, Tryz.f223]
  gi_wp2_with (first
    | (gi_at_builtin; refine wpListIn_append_own _ rfl _ _ 33 rfl w0.heap.size 9 _ (.string ⟨#[]⟩) 1 16 Tryz.underlying33 Tryz.type9 rfl rfl rfl rfl (by decide) _ _ _ rfl (hrow2.alloc _) ⟨W2.heap.size, 0, none⟩ 1 1 [.string q1] rfl rfl (cell_one_new _ _ _) (by simp [Value.oneCell']) (by omega) (by omega) (by have := hb2.size; simp; omega) ?_; intro v' w3 hown' hg3 hnil3
       have hv3 : w3.heap[Bs]? = some (.cells #[v] 33 (0, 0)) := (hg3.block Bs (by simp; omega) (ne_of hv2 (fun cur e => by cases e))).trans ((Below.heap_alloc _ _ Bs hBlt).trans hv2)
       obtain ⟨hc3, hf3⟩ := cell_of_box_a hv3
       obtain ⟨g', cap', cur', rfl, hbase', hgb', hr1, hr2, hr3, hr4⟩ : ∃ g' cap' cur', v' = .slice (some ⟨g', 0, none⟩) (ss.length + 1) cap' /\ w0.heap.size <= g' /\ w3.heap[g']? = some (.cells cur' 9 (0, 0)) /\ ss.length + 1 <= cap' /\ cap' <= maxLen /\ cur'.size = cap' * 1 /\ cur'.toList.take ((ss.length + 1) * 1) = ss.flatMap cellsS ++ [.string q1] := by
         rcases hown'.2 with ⟨_, h0⟩ | h'
         · exact absurd h0 (by omega)
         · exact h'
       go_frame)
    | (rw [Oper.semAt_eq _ _ _ (fun c h => by cases h)]; go_simp; try go_bits))
  have hg3' : (W2.alloc (.cells #[.string q1] 9)).grownBy w3 v.ownBlock := hg3
  have hL3 : w3.heap[l]? = some (.loop { apRecS fn sv Bs D .ready none with state := .busy }) := (hg3'.block l (by simp; omega) (ne_of hL2 (fun cur e => by cases e))).trans ((Below.heap_alloc _ _ l hl2).trans hL2)
  have hK3 : w3.heap[D]? = some (.deferred (some [])) := (hg3'.block D (by simp; omega) (ne_of hK2 (fun cur e => by cases e))).trans ((Below.heap_alloc _ _ D hDlt).trans hK2)
  obtain ⟨w4, hw4⟩ : ∃ w4, w3.setCell ⟨Bs, 0, none⟩ (.slice (some ⟨g', 0, none⟩) (ss.length + 1) cap') = w4 := ⟨_, rfl⟩
  rw [hw4]
  have hg4 : w3.grownBy w4 (some Bs) := by rw [<- hw4]; exact grownBy_setCell0_a _ _ _
  have hv4 : w4.heap[Bs]? = some (.cells #[.slice (some ⟨g', 0, none⟩) (ss.length + 1) cap'] 33 (0, 0)) := by rw [<- hw4]; exact heap_setCell_box_a _ hv3
  have hL4 : w4.heap[l]? = some (.loop { apRecS fn sv Bs D .ready none with state := .busy }) := (hg4.block l (Array.getElem?_eq_some_iff.1 hL3).1 (fun e => hBl (by cases e; rfl))).trans hL3
  have hK4 : w4.heap[D]? = some (.deferred (some [])) := (hg4.block D (Array.getElem?_eq_some_iff.1 hK3).1 (fun e => hDB (by cases e; rfl))).trans hK3
  have hrow4 := hown'.kept hg4 (ownsRow_ne_a hown' hv3 (fun cur e => by cases e))
  have hl4 : l < w4.heap.size := (Array.getElem?_eq_some_iff.1 hL4).1
  have hb3 : Below w0.heap.size w0 w3 := (hb2.alloc hb2.size _).grown hg3' (by have := hb2.size; simp; omega) (fun k e => (hrow2.lt k e).1)
  have hb4 : Below w0.heap.size w0 w4 := hb3.grown hg4 hb3.size (fun k e => by cases e; exact h0B)
  have hk4 : KeepsWalks W w4 := ((hk2.trans (KeepsWalks.alloc _ _)).trans (KeepsWalks.of_grownBy hg3' (ownsRow_not_walk_a (hrow2.alloc _)))).trans (by rw [<- hw4]; exact KeepsWalks.setCell _ _ _)
  clear hw4
  have hb5 := hb4.grown (grownBy_putObj_a w4 l (.loop { { apRecS fn sv Bs D .ready none with state := .busy } with state := if (none : Option Code).isNone then .ready else .done, pending := none })) hb4.size (fun k e => by cases e; exact h0l)
  have hk5 := hk4.trans (KeepsWalks.putObj (.loop { { apRecS fn sv Bs D .ready none with state := .busy } with state := if (none : Option Code).isNone then .ready else .done, pending := none }) hL4 rfl)
  refine ⟨_, _, run_endRound none hL4, rfl, ⟨⟨_, (World.putObj_heap_other hBl).trans hv4, ?_, by simp⟩, World.putObj_heap_same hl4, (World.putObj_heap_other hDl).trans hK4, hb5⟩, hk5, below_two h'.below hb5 hk5.size⟩
  have := hrow4.kept (grownBy_putObj_a w4 l (.loop { { apRecS fn sv Bs D .ready none with state := .busy } with state := if (none : Option Code).isNone then .ready else .done, pending := none })) (ownsRow_ne_a hrow4 hL4 (fun cur e => by cases e))
  simpa [cellsS] using this
set_option maxRecDepth 100000 in
theorem appendSeqS (F : Fence) (n : Nat) (hF : F.fn 223) (hro : F.round = none) (hn : 2 <= n) (g : Nat) (lb : Array Value) (hFg : F.fn g) (eg : ∀ args w, (callFunc g args).run Tryz.prog w = .ok (.enter g args) w)
    (S : List (ByteArray) -> Prop) (N : Nat) (hN : N <= maxLen) (hNb : N * 16 <= 140737488355328) (w : World) (hseq : SeqStopsK F (n - 1) Tryz.prog g lb (fun x => #[encS x]) (Kp2 w.heap.size) S (fun _ => True) N w) :
    CallsIn F n Tryz.prog 223 #[.slice none 0 0, .func (.func g) #[] lb] w fun e w' => ∃ (v : Value) (ss : List (ByteArray)), e = .returned v /\ S ss /\ w'.ownsRow w.heap.size 9 1 v ss.length (ss.flatMap cellsS) /\ (v = .slice none 0 0 ↔ ss = []) /\ Below w.heap.size w w' := by
  have h1 : 1 <= n := by omega
  refine callsIn_of_wp_marks Tryz.func223 rfl hF ?_ hro
  simp only [Tryz.ntmps223, List.size_toArray, List.length_cons, List.length_nil, Nat.reduceAdd, Nat.reduceSub, Array.replicate_succ, Array.replicate_zero, List.push_toArray, List.append_toArray, List.nil_append, List.cons_append]
  gi_wp2
  refine wpIn_rangeFunc ?_
  intro fn hfn
  rw [hro]
  obtain ⟨W0, hW0⟩ : ∃ W0, w.alloc (.cells #[.slice none 0 0] 33) = W0 := ⟨_, rfl⟩
  have hs0 : W0.heap.size = w.heap.size + 1 := by rw [<- hW0]; simp
  have hv0 : W0.heap[w.heap.size]? = some (.cells #[.slice none 0 0] 33 (0, 0)) := by rw [<- hW0]; exact World.alloc_heap_new w _
  have hb0 : Below w.heap.size w W0 := by rw [<- hW0]; exact (Below.refl _ w).alloc (Nat.le_refl _) _
  rw [hW0]
  obtain ⟨W1, hW1⟩ : ∃ W1, (W0.alloc (.deferred (some []))).alloc (.loop (apRecS fn (.func (.func g) #[] lb) w.heap.size W0.heap.size .ready none)) = W1 := ⟨_, rfl⟩
  have hold : ∀ k, k < W0.heap.size -> W1.heap[k]? = W0.heap[k]? := fun k hk => by
    rw [<- hW1]; exact (Below.heap_alloc _ _ k (by simp; omega)).trans (Below.heap_alloc _ _ k hk)
  have hb1 : Below w.heap.size w W1 := by rw [<- hW1]; exact (hb0.alloc hb0.size _).alloc (by have := hb0.size; simp; omega) _
  have hs1 : W1.heap.size = W0.heap.size + 2 := by rw [<- hW1]; simp
  have hM : ApAtS w fn (.func (.func g) #[] lb) w.heap.size (W0.heap.size + 1) W0.heap.size [] W1 :=
    ⟨⟨_, (hold w.heap.size (by omega)).trans hv0, ⟨rfl, .inl ⟨rfl, rfl⟩⟩, by simp⟩,
     by rw [<- hW1]; have := World.alloc_heap_new (W0.alloc (.deferred (some []))) (.loop (apRecS fn (.func (.func g) #[] lb) w.heap.size W0.heap.size .ready none)); rwa [World.size_alloc] at this,
     by rw [<- hW1]; exact (Below.heap_alloc _ _ _ (by simp)).trans (World.alloc_heap_new W0 _), hb1⟩
  refine ⟨W0.heap.size + 1, [{ target := .collected W0.heap.size, args := #[] }], W1, { target := .fn (.func g) lb, args := #[.func (.yield (W0.heap.size + 1)) #[] #[]] }, W1, g,
    #[.func (.yield (W0.heap.size + 1)) #[] #[]] ++ lb, W1, ?_, ?_, ?_, ?_, fun _ => h1, ?_⟩
  · rw [<- hW1]; exact run_enterLoop_outer _ _ _ _ _
  · simp [resolve, go_sem]
  · intro f' hf'; simp [Target.leads] at hf'; subst hf'; exact hFg
  · simp [invoke, go_sem, eg]
  · refine (hseq (W0.heap.size + 1) (ApAtS w fn (.func (.func g) #[] lb) w.heap.size (W0.heap.size + 1) W0.heap.size) (fun _ _ => False) W1 hb1 (ap_abidesS _ _ _ _ _ _ _ hb1.size) (fun _ _ _ _ h _ _ => h)
      (fun pre x W hJ hl => by
        obtain ⟨fn', tmps, assign, body, hy, hR⟩ := apYieldS F (n - 1 - 1) w fn hfn _ w.heap.size (W0.heap.size + 1) W0.heap.size (by omega) (by omega) (by omega) (Nat.le_refl _) (by omega) N hN hNb pre x W hJ hl
        exact ⟨fn', tmps, assign, body, hy, hR.mono fun e W' h => .inl h⟩) hM).mono ?_
    rintro e W2 ⟨⟨v0, rfl⟩, ⟨ss, hS, h2⟩ | ⟨_, _, hf⟩⟩
    case inr => exact hf.elim
    obtain ⟨v, hv, hrow, hnil⟩ := h2.box
    have hend := run_endLoop (P := Tryz.prog) h2.L (by simp [apRecS])
    obtain ⟨W3, hW3⟩ : ∃ W3, W2.putObj (W0.heap.size + 1) (.loop { apRecS fn (.func (.func g) #[] lb) w.heap.size W0.heap.size .ready none with state := .exhausted }) = W3 := ⟨_, rfl⟩
    rw [hW3] at hend
    have hg3 : W2.grownBy W3 (some (W0.heap.size + 1)) := by rw [<- hW3]; exact grownBy_putObj_a _ _ _
    have hv3 : W3.heap[w.heap.size]? = some (.cells #[v] 33 (0, 0)) := by rw [<- hW3]; exact (World.putObj_heap_other (by omega)).trans hv
    have hK3 : W3.heap[W0.heap.size]? = some (.deferred (some [])) := by rw [<- hW3]; exact (World.putObj_heap_other (by omega)).trans h2.K
    have hrow3 := hrow.kept hg3 (ownsRow_ne_a hrow h2.L (fun cur e => by cases e))
    have hb3 : Below w.heap.size w W3 := h2.below.grown hg3 h2.below.size (fun k e => by cases e; omega)
    obtain ⟨hc3, hf3⟩ := cell_of_box_a hv3
    clear hW3
    refine ⟨none, W3, hend, ?_⟩
    gi_wp2
    rw [<- hs0]
    refine ⟨by simp, .inl ⟨_, _, rfl, run_takeDeferred hK3, ?_⟩⟩
    exact ⟨_, results_tmp rfl _ _ _, v, ss, rfl, hS, hrow3.kept (grownBy_putObj_a _ _ _) (ownsRow_ne_a hrow3 hK3 (fun cur e => by cases e)), hnil, hb3.grown (grownBy_putObj_a _ _ _) hb3.size (fun k e => by cases e; omega)⟩
theorem collectS (F:Fence) (n:Nat)(hC:F.fn 186)(hF:F.fn 223)(hro:F.round=none)(hn:3<=n) (g:Nat) (lb:Array Value)(hFg:F.fn g) (eg:∀args w,(callFunc g args).run Tryz.prog w=.ok (.enter g args) w)
  (S:List (ByteArray)->Prop) (N:Nat)(hN:N<=maxLen)(hNb:N*16<=140737488355328) (w:World)(hseq:SeqStopsK F (n-1-1) Tryz.prog g lb (λx=>#[encS x]) (Kp2 w.heap.size) S (λ_=>True) N w) :
  CallsIn F n Tryz.prog 186 #[.func (.func g) #[] lb] w λe w'=>∃(v:Value) (ss:List (ByteArray)),e=.returned v/\S ss/\w'.ownsRow w.heap.size 9 1 v ss.length (ss.flatMap cellsS)/\(v=.slice none 0 0 ↔ ss=[])/\Below w.heap.size w w':=by
 have h1:1<=n:=by omega
 refine callsIn_of_wp Tryz.func186 rfl hC ?_ hro
 simp only[Tryz.ntmps186,List.size_toArray,List.length_cons,List.length_nil,Nat.reduceAdd,Nat.reduceSub,Array.replicate_succ,Array.replicate_zero,List.push_toArray,List.append_toArray,List.nil_append,List.cons_append]
 gi_wp2_with (gi_at_call 223;refine (appendSeqS F (n-1) hF hro (by omega) g lb hFg eg S N hN hNb _ hseq).mono ?_;rintro e w' ⟨v,ss,rfl,hS,hrow,hnil,hb⟩)
 go_ret
 exact⟨v,ss,rfl,hS,hrow,hnil,hb⟩
end Go.AxC
end
section
namespace Go.Proofs
open Go.Shelf
def Tryz.sort69_ren:Go.Shelf.Ren:=⟨fun | 6=>69 | 8=>117 | 9=>116 | 19=>179 | 20=>180 | 21=>170 | 22=>171 | 23=>172 | 24=>173 | 25=>174 | 26=>175 | 27=>176 | 28=>177 | 29=>178 | 36=>215 | 31=>216 | 32=>217 | 37=>218 | 38=>219 | 39=>220 | 41=>253 | n=>n,fun | 27=>33 | 29=>9 | 3=>3 | 32=>149 | 26=>33 | 0=>0 | 44=>213 | 46=>215 | 4=>4 | 36=>206 | 35=>205 | 41=>151 | 5=>5 | 9=>9 | 53=>243 | 57=>247 | 63=>279 | 64=>280 | n=>n,fun | n=>n⟩
theorem Tryz.sort69:Go.Proofs.SlLaysM.n6 Tryz.prog Tryz.sort69_ren:={
 mixed:=by kernel_rfl
 f6:=⟨Tryz.f69.name,by decide,Tryz.func69.trans (congrArg some (by kernel_rfl))⟩
 f8:=Tryz.func117.trans (congrArg some (by kernel_rfl))
 f9:=⟨Tryz.f116.name,by decide,Tryz.func116.trans (congrArg some (by kernel_rfl))⟩
 f19:=Tryz.func179.trans (congrArg some (by kernel_rfl))
 f20:=Tryz.func180.trans (congrArg some (by kernel_rfl))
 f21:=⟨Tryz.f170.name,by decide,Tryz.func170.trans (congrArg some (by kernel_rfl))⟩
 f22:=⟨Tryz.f171.name,by decide,Tryz.func171.trans (congrArg some (by kernel_rfl))⟩
 f23:=⟨Tryz.f172.name,by decide,Tryz.func172.trans (congrArg some (by kernel_rfl))⟩
 f24:=⟨Tryz.f173.name,by decide,Tryz.func173.trans (congrArg some (by kernel_rfl))⟩
 f25:=⟨Tryz.f174.name,by decide,Tryz.func174.trans (congrArg some (by kernel_rfl))⟩
 f26:=⟨Tryz.f175.name,by decide,Tryz.func175.trans (congrArg some (by kernel_rfl))⟩
 f27:=⟨Tryz.f176.name,by decide,Tryz.func176.trans (congrArg some (by kernel_rfl))⟩
 f28:=⟨Tryz.f177.name,by decide,Tryz.func177.trans (congrArg some (by kernel_rfl))⟩
 f29:=⟨Tryz.f178.name,by decide,Tryz.func178.trans (congrArg some (by kernel_rfl))⟩
 f31:=Tryz.func216.trans (congrArg some (by kernel_rfl))
 f32:=Tryz.func217.trans (congrArg some (by kernel_rfl))
 f36:=⟨Tryz.f215.name,by decide,Tryz.func215.trans (congrArg some (by kernel_rfl))⟩
 f37:=⟨Tryz.f218.name,by decide,Tryz.func218.trans (congrArg some (by kernel_rfl))⟩
 f38:=⟨Tryz.f219.name,by decide,Tryz.func219.trans (congrArg some (by kernel_rfl))⟩
 f39:=⟨Tryz.f220.name,by decide,Tryz.func220.trans (congrArg some (by kernel_rfl))⟩
 f41:=⟨Tryz.f253.name,by decide,Tryz.func253.trans (congrArg some (by kernel_rfl))⟩
 t0:=Tryz.underlying0
 a0:=Tryz.isAgg0
 z0:=Tryz.sizeOf0
 v0:=Tryz.zeroValue0
 t3:=Tryz.underlying3
 a3:=Tryz.isAgg3
 z3:=Tryz.sizeOf3
 v3:=Tryz.zeroValue3
 t4:=Tryz.underlying4
 a4:=Tryz.isAgg4
 z4:=Tryz.sizeOf4
 v4:=Tryz.zeroValue4
 t5:=Tryz.underlying5
 a5:=Tryz.isAgg5
 z5:=Tryz.sizeOf5
 v5:=Tryz.zeroValue5
 t9:=Tryz.underlying9
 a9:=Tryz.isAgg9
 z9:=Tryz.sizeOf9
 v9:=Tryz.zeroValue9
 t26:=Tryz.underlying33
 a26:=Tryz.isAgg33
 z26:=Tryz.sizeOf33
 v26:=Tryz.zeroValue33
 t27:=Tryz.underlying33
 a27:=Tryz.isAgg33
 z27:=Tryz.sizeOf33
 v27:=Tryz.zeroValue33
 t29:=Tryz.underlying9
 a29:=Tryz.isAgg9
 z29:=Tryz.sizeOf9
 v29:=Tryz.zeroValue9
 t32:=Tryz.underlying149
 a32:=Tryz.isAgg149
 z32:=Tryz.sizeOf149
 v32:=Tryz.zeroValue149
 t35:=Tryz.underlying205
 a35:=Tryz.isAgg205
 z35:=Tryz.sizeOf205
 v35:=Tryz.zeroValue205
 t36:=Tryz.underlying206
 a36:=Tryz.isAgg206
 z36:=Tryz.sizeOf206
 v36:=Tryz.zeroValue206
 t41:=Tryz.underlying151
 a41:=Tryz.isAgg151
 z41:=Tryz.sizeOf151
 v41:=Tryz.zeroValue151
 t44:=Tryz.underlying213
 a44:=Tryz.isAgg213
 z44:=Tryz.sizeOf213
 v44:=Tryz.zeroValue213
 t46:=Tryz.underlying215
 a46:=Tryz.isAgg215
 z46:=Tryz.sizeOf215
 v46:=Tryz.zeroValue215
 t53:=Tryz.underlying243
 a53:=Tryz.isAgg243
 z53:=Tryz.sizeOf243
 v53:=Tryz.zeroValue243
 t57:=Tryz.underlying247
 a57:=Tryz.isAgg247
 z57:=Tryz.sizeOf247
 v57:=Tryz.zeroValue247
 t63:=Tryz.underlying279
 a63:=Tryz.isAgg279
 z63:=Tryz.sizeOf279
 v63:=Tryz.zeroValue279
 t64:=Tryz.underlying280
 a64:=Tryz.isAgg280
 z64:=Tryz.sizeOf280
 v64:=Tryz.zeroValue280 }
def Tryz.sort183_ren:Go.Shelf.Ren:=⟨fun | 6=>183 | 15=>117 | 14=>222 | 28=>179 | 29=>180 | 20=>254 | 21=>255 | 22=>256 | 23=>257 | 24=>258 | 25=>259 | 26=>260 | 27=>261 | 46=>294 | 47=>216 | 48=>217 | 49=>295 | 50=>296 | 57=>312 | n=>n,fun | 22=>107 | 24=>105 | 25=>167 | 3=>3 | 39=>149 | 0=>0 | 53=>213 | 55=>215 | 4=>4 | 46=>206 | 45=>205 | 50=>151 | 5=>5 | 9=>9 | 66=>243 | 70=>247 | 76=>279 | 77=>280 | n=>n,fun | n=>n⟩
theorem Tryz.sort183:Go.Proofs.SlLaysF0.n6 Tryz.prog Tryz.sort183_ren:={
 mixed:=by kernel_rfl
 f6:=⟨Tryz.f183.name,by decide,Tryz.func183.trans (congrArg some (by kernel_rfl))⟩
 f14:=⟨Tryz.f222.name,by decide,Tryz.func222.trans (congrArg some (by kernel_rfl))⟩
 f15:=Tryz.func117.trans (congrArg some (by kernel_rfl))
 f20:=⟨Tryz.f254.name,by decide,Tryz.func254.trans (congrArg some (by kernel_rfl))⟩
 f21:=⟨Tryz.f255.name,by decide,Tryz.func255.trans (congrArg some (by kernel_rfl))⟩
 f22:=⟨Tryz.f256.name,by decide,Tryz.func256.trans (congrArg some (by kernel_rfl))⟩
 f23:=⟨Tryz.f257.name,by decide,Tryz.func257.trans (congrArg some (by kernel_rfl))⟩
 f24:=⟨Tryz.f258.name,by decide,Tryz.func258.trans (congrArg some (by kernel_rfl))⟩
 f25:=⟨Tryz.f259.name,by decide,Tryz.func259.trans (congrArg some (by kernel_rfl))⟩
 f26:=⟨Tryz.f260.name,by decide,Tryz.func260.trans (congrArg some (by kernel_rfl))⟩
 f27:=⟨Tryz.f261.name,by decide,Tryz.func261.trans (congrArg some (by kernel_rfl))⟩
 f28:=Tryz.func179.trans (congrArg some (by kernel_rfl))
 f29:=Tryz.func180.trans (congrArg some (by kernel_rfl))
 f46:=⟨Tryz.f294.name,by decide,Tryz.func294.trans (congrArg some (by kernel_rfl))⟩
 f47:=Tryz.func216.trans (congrArg some (by kernel_rfl))
 f48:=Tryz.func217.trans (congrArg some (by kernel_rfl))
 f49:=⟨Tryz.f295.name,by decide,Tryz.func295.trans (congrArg some (by kernel_rfl))⟩
 f50:=⟨Tryz.f296.name,by decide,Tryz.func296.trans (congrArg some (by kernel_rfl))⟩
 f57:=⟨Tryz.f312.name,by decide,Tryz.func312.trans (congrArg some (by kernel_rfl))⟩
 t0:=Tryz.underlying0
 a0:=Tryz.isAgg0
 z0:=Tryz.sizeOf0
 v0:=Tryz.zeroValue0
 t3:=Tryz.underlying3
 a3:=Tryz.isAgg3
 z3:=Tryz.sizeOf3
 v3:=Tryz.zeroValue3
 t4:=Tryz.underlying4
 a4:=Tryz.isAgg4
 z4:=Tryz.sizeOf4
 v4:=Tryz.zeroValue4
 t5:=Tryz.underlying5
 a5:=Tryz.isAgg5
 z5:=Tryz.sizeOf5
 v5:=Tryz.zeroValue5
 t9:=Tryz.underlying9
 a9:=Tryz.isAgg9
 z9:=Tryz.sizeOf9
 v9:=Tryz.zeroValue9
 t22:=Tryz.underlying107
 a22:=Tryz.isAgg107
 z22:=Tryz.sizeOf107
 v22:=Tryz.zeroValue107
 t25:=Tryz.underlying167
 a25:=Tryz.isAgg167
 z25:=Tryz.sizeOf167
 v25:=Tryz.zeroValue167
 t39:=Tryz.underlying149
 a39:=Tryz.isAgg149
 z39:=Tryz.sizeOf149
 v39:=Tryz.zeroValue149
 t45:=Tryz.underlying205
 a45:=Tryz.isAgg205
 z45:=Tryz.sizeOf205
 v45:=Tryz.zeroValue205
 t46:=Tryz.underlying206
 a46:=Tryz.isAgg206
 z46:=Tryz.sizeOf206
 v46:=Tryz.zeroValue206
 t50:=Tryz.underlying151
 a50:=Tryz.isAgg151
 z50:=Tryz.sizeOf151
 v50:=Tryz.zeroValue151
 t53:=Tryz.underlying213
 a53:=Tryz.isAgg213
 z53:=Tryz.sizeOf213
 v53:=Tryz.zeroValue213
 t55:=Tryz.underlying215
 a55:=Tryz.isAgg215
 z55:=Tryz.sizeOf215
 v55:=Tryz.zeroValue215
 t66:=Tryz.underlying243
 a66:=Tryz.isAgg243
 z66:=Tryz.sizeOf243
 v66:=Tryz.zeroValue243
 t70:=Tryz.underlying247
 a70:=Tryz.isAgg247
 z70:=Tryz.sizeOf247
 v70:=Tryz.zeroValue247
 t76:=Tryz.underlying279
 a76:=Tryz.isAgg279
 z76:=Tryz.sizeOf279
 v76:=Tryz.zeroValue279
 t77:=Tryz.underlying280
 a77:=Tryz.isAgg280
 z77:=Tryz.sizeOf280
 v77:=Tryz.zeroValue280 }
end Go.Proofs
end
section
namespace Go.AxC
open Go Go.Proofs Go.Ax Go.RowKit Go.Maps Go.Sort Go.Shelf
def strCmp (s t:ByteArray):Int:=match Op.bytesLess s.toList t.toList with
 |true=>-1
 |false=>match Op.bytesLess t.toList s.toList with
  |true=>1
  |false=>0
def labCmp (x y:Bool × ByteArray):Int:=match x.1,y.1 with
 |true,false=>1
 |false,true=>-1
 |_,_=>strCmp x.2 y.2
theorem isNaN_s (s:ByteArray) (w:World):Calls Tryz.prog 220 #[.string s] w λe w'=>e=.returned (.bool false)/\w'=w:=by
 go_enter Tryz.func220,Tryz.ntmps220
 go_wp2
 go_ret
 exact⟨rfl,rfl⟩
theorem gt_list:∀a b:List UInt8,(!Op.bytesLess a b && !(a==b))=Op.bytesLess b a
 | [],[]=>by decide
 | [],b::y=>by simp[Op.bytesLess]
 |a::x,[]=>by simp[Op.bytesLess]
 |a::x,b::y=>by
  have ih:=gt_list x y
  simp only[Op.bytesLess,List.cons_beq_cons]
  rcases Nat.lt_trichotomy a.toNat b.toNat with h | h | h
  ·have h1:a<b:=UInt8.lt_iff_toNat_lt.2 h
   have h2:¬ b<a:=λe=>by have:=UInt8.lt_iff_toNat_lt.1 e;omega
   have h3:¬ b=a:=λe=>by subst e;omega
   simp[h1,h2,h3]
  ·have h0:a=b:=UInt8.toNat_inj.1 h
   subst h0
   have h2:¬ a<a:=λe=>by have:=UInt8.lt_iff_toNat_lt.1 e;omega
   simp only[h2,decide_false,BEq.rfl,Bool.true_and,Bool.false_or]
   exact ih
  ·have h1:b<a:=UInt8.lt_iff_toNat_lt.2 h
   have h2:¬ a<b:=λe=>by have:=UInt8.lt_iff_toNat_lt.1 e;omega
   have h3:¬ a=b:=λe=>by subst e;omega
   simp[h1,h2,h3]
theorem run_gtr_s (s t:ByteArray) (w:World):(binOp .gtr 9 (.string s) (.string t)).run Tryz.prog w=.ok (.bool (Op.bytesLess t.toList s.toList)) w:=by
 simp only[binOp,Sem.run_bind,run_underlying Tryz.underlying9,Result.andThen_ok]
 simp only[Op.stringOp,Bool.not_or,gt_list]
 rfl
theorem compare_s (s t:ByteArray) (w:World):Calls Tryz.prog 185 #[.string s,.string t] w λe w'=>e=.returned (.int .i64 (strCmp s t))/\w'=w:=by
 have hg:=run_gtr_s s t w
 go_enter Tryz.func185,Tryz.ntmps185
 go_wp2_with (go_at_call 220;refine (isNaN_s _ _).mono ?_;rintro e w' ⟨rfl,rfl⟩)
 all_goals go_ret
 all_goals refine⟨?_,rfl⟩
 all_goals simp[strCmp, *]
theorem order_s (x y : Bool × ByteArray) (w : World) : Calls Tryz.prog 138 #[encL x, encL y] w fun e w' => e = .returned (.int .i64 (labCmp x y)) /\ ∃ os, w' = grow w os := by
  obtain ⟨x1, x2⟩ := x
  obtain ⟨y1, y2⟩ := y
  suffices h : Calls Tryz.prog 138 #[.agg #[.bool x1, .string x2], .agg #[.bool y1, .string y2]] w fun e w' => e = .returned (.int .i64 (labCmp (x1, x2) (y1, y2))) /\ w' = grow w #[.cells #[.bool x1, .string x2] 105, .cells #[.bool y1, .string y2] 105] from h.mono fun e w' ⟨h1, h2⟩ => ⟨h1, _, h2⟩
  have hw : grow w #[.cells #[.bool x1, .string x2] 105, .cells #[.bool y1, .string y2] 105] = (w.alloc (.cells #[.bool x1, .string x2] 105)).alloc (.cells #[.bool y1, .string y2] 105) := by
    simp only [alloc_eq_grow, grow_grow]; rfl
  rw [hw]
  clear hw
  cases x1 <;> cases y1 <;>
  (go_enter Tryz.func138, Tryz.ntmps138
   go_wp2_with (go_at_call 185; refine (compare_s _ _ _).mono ?_; rintro e w' ⟨rfl, rfl⟩)
   go_ret
   exact ⟨rfl, rfl⟩)
end Go.AxC
end
section
namespace Go.AxC
open Go Go.Proofs Go.Ax Go.RowKit Go.Sort
section
structure STO {α:Type} (lt:α->α->Bool):Prop where
 irrefl:∀x,lt x x=false
 trans:∀x y z,lt x y=true->lt y z=true->lt x z=true
 total:∀x y,lt x y=false->lt y x=false->x=y
section
variable {α:Type}{lt:α->α->Bool}
theorem STO.asymm (h:STO lt) {x y:α}(hx:lt x y=true):lt y x=false:=by
 cases hy:lt y x with
 |false=>rfl
 |true=>have:=h.trans _ _ _ hx hy;rw[h.irrefl]at this;cases this
theorem STO.swo (h:STO lt):SWO lt:=by
 refine⟨h.irrefl,h.trans,λx y z h1 h2=>?_⟩
 cases h3:lt x z with
 |false=>rfl
 |true=>
  cases h4:lt z y with
  |true=>have:=h.trans _ _ _ h3 h4;rw[h1]at this;cases this
  |false=>
   have:=h.total _ _ h2 h4
   subst this
   rw[h1]at h3;cases h3
def insA (lt:α->α->Bool) (x:α):List α->List α
 | []=>[x]
 |y::r=>if lt x y then x::y::r else y::insA lt x r
def sortA (lt:α->α->Bool) (l:List α):List α:=l.foldl (λacc x=>insA lt x acc) []
def Srt (lt:α->α->Bool) (l:List α):Prop:=l.Pairwise λx y=>lt y x=false
theorem insA_perm (x:α):∀l,(insA lt x l).Perm (x::l)
 | []=>.refl _
 |y::r=>by
  simp only[insA]
  split
  ·exact .refl _
  ·exact ((insA_perm x r).cons y).trans (.swap x y r)
theorem insA_srt (h:STO lt) (x:α):∀l,Srt lt l->Srt lt (insA lt x l)
 | [],_=>by simp[insA,Srt]
 |y::r,hs=>by
  rw[Srt,List.pairwise_cons]at hs
  obtain⟨h1,h2⟩:=hs
  simp only[insA]
  split
  ·rename_i hxy
   refine List.pairwise_cons.2 ⟨λz hz=>?_,List.pairwise_cons.2 ⟨h1,h2⟩⟩
   rcases List.mem_cons.1 hz with rfl | hz
   ·exact h.asymm hxy
   ·cases hzx:lt z x with
    |false=>rfl
    |true=>have:=h.trans _ _ _ hzx hxy;rw[h1 z hz]at this;cases this
  ·rename_i hxy
   refine List.pairwise_cons.2 ⟨λz hz=>?_,insA_srt h x r h2⟩
   rcases List.mem_cons.1 ((insA_perm x r).mem_iff.1 hz) with rfl | hz
   ·simpa using hxy
   ·exact h1 z hz
theorem foldA_perm:∀(l acc:List α),(l.foldl (λacc x=>insA lt x acc) acc).Perm (acc++l)
 | [],acc=>by simp
 |x::l,acc=>by
  refine (foldA_perm l _).trans ?_
  refine ((insA_perm x acc).append_right l).trans ?_
  exact List.perm_middle.symm
theorem sortA_perm (l:List α):(sortA lt l).Perm l:=by
 have:=foldA_perm (lt:=lt) l []
 rw[List.nil_append]at this
 exact this
theorem foldA_srt (h:STO lt):∀(l acc:List α),Srt lt acc->Srt lt (l.foldl (λacc x=>insA lt x acc) acc)
 | [],acc,ha=>ha
 |x::l,acc,ha=>foldA_srt h l _ (insA_srt h x acc ha)
theorem sortA_srt (h:STO lt) (l:List α):Srt lt (sortA lt l):=foldA_srt h l [] List.Pairwise.nil
theorem srt_eq (h:STO lt) {l l':List α}(hp:l.Perm l')(h1:Srt lt l)(h2:Srt lt l'):l=l':=
 List.Perm.eq_of_pairwise (le:=λx y=>lt y x=false) (λa b _ _ ha hb=>h.total _ _ hb ha) h1 h2 hp
theorem sortA_eq (h:STO lt) {l l':List α}(hp:l.Perm l'):sortA lt l=sortA lt l':=srt_eq h ((sortA_perm l).trans (hp.trans (sortA_perm l').symm)) (sortA_srt h l) (sortA_srt h l')
theorem insK_map {lk:List V->List V->Bool} (abs:α->List V) (x:α):∀l,insK lk (abs x) (l.map abs)=(insA (λx y=>lk (abs x) (abs y)) x l).map abs
 | []=>rfl
 |y::r=>by
  simp only[List.map_cons,insK,insA]
  split
  ·rfl
  ·simp only[List.map_cons,insK_map abs x r]
theorem foldK_map {lk:List V->List V->Bool} (abs:α->List V):∀(l acc:List α),(l.map abs).foldl (λacc x=>insK lk x acc) (acc.map abs)=(l.foldl (λacc x=>insA (λx y=>lk (abs x) (abs y)) x acc) acc).map abs
 | [],_=>rfl
 |x::l,acc=>by
  simp only[List.map_cons,List.foldl_cons,insK_map]
  exact foldK_map abs l _
theorem sortK_map {lk:List V->List V->Bool} (abs:α->List V) (l:List α):sortK lk (l.map abs)=(sortA (λx y=>lk (abs x) (abs y)) l).map abs:=foldK_map abs l []
end
def absS (x:ByteArray):List V:=[.str (Ax.bytes x)]
def absL (x:Bool × ByteArray):List V:=[.bool x.1,.str (Ax.bytes x.2)]
def ltS (x y:ByteArray):Bool:=strLt (absS x) (absS y)
def ltL (x y:Bool × ByteArray):Bool:=labLt (absL x) (absL y)
theorem less_irrefl (a:List UInt8):Op.bytesLess a a=false:=by
 have:=gt_list a a
 simpa using this.symm
theorem less_trans (a b c:List UInt8)(h1:Op.bytesLess a b=true)(h2:Op.bytesLess b c=true):Op.bytesLess a c=true:=by
 rw[bytesLess_eq]at *
 simp only[decide_eq_true_eq]at *
 exact List.lt_trans h1 h2
theorem less_total (a b:List UInt8)(h1:Op.bytesLess a b=false)(h2:Op.bytesLess b a=false):a=b:=by
 have:=gt_list a b
 rw[h1,h2]at this
 simpa using this
theorem toList_data (x:ByteArray):x.toList=x.data.toList:=by rw[ByteArray.toList_eq]
theorem ltS_eq (x y:ByteArray):ltS x y=Op.bytesLess x.data.toList y.data.toList:=by
 show slt (Ax.bytes x) (Ax.bytes y)=_
 exact slt_bytes _ _
theorem ext_bytes {x y:ByteArray}(h:x.data.toList=y.data.toList):x=y:=by
 cases x;cases y
 simp only[ByteArray.mk.injEq]
 exact Array.toList_inj.1 h
theorem stoS:STO ltS:=by
 refine⟨λx=>?_,λx y z h1 h2=>?_,λx y h1 h2=>?_⟩
 ·rw[ltS_eq];exact less_irrefl _
 ·rw[ltS_eq]at *;exact less_trans _ _ _ h1 h2
 ·rw[ltS_eq]at *;exact ext_bytes (less_total _ _ h1 h2)
theorem ltL_eq (x y:Bool × ByteArray):ltL x y=match x.1,y.1 with
  |false,true=>true
  |true,false=>false
  |_,_=>ltS x.2 y.2:=by
 obtain⟨a,x⟩:=x
 obtain⟨b,y⟩:=y
 cases a <;> cases b <;> rfl
theorem stoL:STO ltL:=by
 refine⟨λx=>?_,λx y z h1 h2=>?_,λx y h1 h2=>?_⟩
 ·rw[ltL_eq];obtain⟨a,x⟩:=x;cases a <;> exact stoS.irrefl _
 ·rw[ltL_eq]at *
  obtain⟨a,x⟩:=x
  obtain⟨b,y⟩:=y
  obtain⟨c,z⟩:=z
  cases a <;> cases b <;> cases c <;> dsimp only at * <;> first | rfl | exact stoS.trans _ _ _ h1 h2 | (cases h1;done) | (cases h2;done)
 ·rw[ltL_eq]at *
  obtain⟨a,x⟩:=x
  obtain⟨b,y⟩:=y
  cases a <;> cases b <;> dsimp only at * <;> first | (cases h1;done) | (cases h2;done) | (have:=stoS.total _ _ h1 h2;subst this;rfl)
theorem ltOf_lab:ltOf labCmp=ltL:=by
 funext x y
 rw[ltL_eq]
 obtain⟨a,x⟩:=x
 obtain⟨b,y⟩:=y
 have hs:decide (strCmp x y<0)=ltS x y:=by
  rw[ltS_eq]
  simp only[strCmp,toList_data]
  cases Op.bytesLess x.data.toList y.data.toList <;> cases Op.bytesLess y.data.toList x.data.toList <;> rfl
 cases a <;> cases b <;> first | rfl | exact hs
theorem merge_sortA (ss:List ByteArray):(ss.map λx=>x.data.toList).mergeSort (λx y=>decide (x<=y))=(sortA ltS ss).map λx=>x.data.toList:=by
 have e:(λx y:List UInt8=>decide (x<=y))=λx y=>!Op.bytesLess y x:=by
  funext x y
  rw[bytesLess_eq]
  simp only[<- decide_not]
  congr 1
 rw[e]
 refine List.Perm.eq_of_pairwise (le:=λx y=>Op.bytesLess y x=false) (λa b _ _ ha hb=>less_total _ _ hb ha) ?_ ?_ ?_
 ·have:=List.pairwise_mergeSort (le:=λx y=>!Op.bytesLess y x) (λa b c h1 h2=>by
   simp only[Bool.not_eq_true']at *
   cases h:Op.bytesLess c a with
   |false=>rfl
   |true=>
    cases h3:Op.bytesLess b c with
    |true=>have:=less_trans _ _ _ h3 h;rw[h1]at this;cases this
    |false=>have:=less_total _ _ h3 h2;subst this;rw[h1]at h;cases h) (λa b=>by
   cases h:Op.bytesLess b a with
   |false=>simp
   |true=>
    cases h2:Op.bytesLess a b with
    |false=>simp
    |true=>have:=less_trans _ _ _ h h2;rw[less_irrefl]at this;cases this) (ss.map λx=>x.data.toList)
  exact this.imp (by simp)
 ·rw[List.pairwise_map]
  have:=sortA_srt stoS ss
  exact this.imp (λ{a b} h=>by rw[ltS_eq]at h;exact h)
 ·exact (List.mergeSort_perm _ _).trans ((sortA_perm ss).symm.map _)
theorem merge_sortL (ss:List (Bool × ByteArray)):ss.mergeSort (λx y=>!ltL y x)=sortA ltL ss:=by
 refine List.Perm.eq_of_pairwise (le:=λx y=>ltL y x=false) (λa b _ _ ha hb=>stoL.total _ _ hb ha) ?_ (sortA_srt stoL ss) ((List.mergeSort_perm _ _).trans (sortA_perm ss).symm)
 have:=List.pairwise_mergeSort (le:=λx y=>!ltL y x) (λa b c h1 h2=>by
   simp only[Bool.not_eq_true']at *
   exact stoL.swo.ntrans _ _ _ h2 h1) (λa b=>by
   cases h:ltL b a with
   |false=>simp
   |true=>simp[stoL.asymm h]) ss
 exact this.imp (by simp)
end
end Go.AxC
end
section
namespace Go.AxC
open Go Go.Proofs Go.Ax Go.RowKit Go.Maps Go.Sort Go.Shelf
theorem encStr_data (x:ByteArray):encStr x.data.toList=encS x:=by
 cases x;simp[encStr,encS]
theorem flat_encS (ss:List ByteArray):ss.flatMap cellsS=(ss.map λx=>x.data.toList).map encStr:=by
 induction ss with
 |nil=>rfl
 |cons x r ih=>simp only[List.flatMap_cons,List.map_cons,ih,encStr_data];rfl
theorem sortedS (w:World) (g:Nat) (lb:Array Value) (eg:∀args w,(callFunc g args).run Tryz.prog w=.ok (.enter g args) w)
  (S:List ByteArray->Prop) (N:Nat)(hN:N<=maxLen)(hNb:N*16<=140737488355328)(hSN:∀ss,S ss->ss.length<=N)(hseq:SeqStopsK Fence.wide 2 Tryz.prog g lb (λx=>#[encS x]) (Kp2 w.heap.size) S (λ_=>True) N w) :
  Calls Tryz.prog 143 #[.func (.func g) #[] lb] w λe w'=>∃(v:Value) (ss:List ByteArray),e=.returned v/\S ss /\
   w'.ownsRow w.heap.size 9 1 v ss.length ((sortA ltS ss).flatMap cellsS)/\(v=.slice none 0 0 ↔ ss=[])/\Below w.heap.size w w':=by
 have hC:=callsIn_wide.1 (collectS Fence.wide 4 trivial trivial rfl (by omega) g lb trivial eg S N hN hNb w hseq)
 go_enter Tryz.func143,Tryz.ntmps143
 go_wp2_with (go_at_call 186;refine hC.mono ?_;rintro e W ⟨v,ss,rfl,hS,hrow,hnil,hb⟩)
 rcases hrow.2 with⟨rfl,hz⟩ | ⟨gb,cap,cur,rfl,hbase,hgb,r1,r2,r3,r4⟩
 ·have hss:ss=[]:=List.eq_nil_of_length_eq_zero hz
  subst hss
  have hN:=AnyM.slices_Sort_string_none Tryz.sort69 none 0 W
  go_wp2_with (go_at_call 69;refine hN.mono ?_;rintro e w' ⟨rfl,rfl⟩)
  go_ret
  exact⟨.slice none 0 0,[],rfl,hS,by simpa [sortA]using hrow,by simp,hb⟩
 ·have hH:Holds encStr W gb 0 (ss.map λx=>x.data.toList).toArray:=holds_of_block hgb (by rw[<- flat_encS];simpa using r4)
  have hgl:gb<W.heap.size:=(Array.getElem?_eq_some_iff.1 hgb).1
  have hsz:(ss.map λx=>x.data.toList).length<4611686018427387904:=by have:=hSN ss hS;simp;omega
  have cS:=AnyM.slices_Sort_string Tryz.sort69 gb 0 cap (ss.map λx=>x.data.toList) W hH hgl hsz
  rw[List.length_map,merge_sortA]at cS
  go_wp2_with (go_at_call 69;refine cS.mono ?_;rintro e w' ⟨rfl,nn,os,rfl⟩)
  go_ret
  refine⟨_,ss,rfl,hS,?_,hnil,hb.grown (grownBy_sorted _) hb.size (λj hj=>by cases hj;exact hbase)⟩
  have hp:=(sortA_perm (lt:=ltS) ss).length_eq
  have:=ownsRow_sorted (base:=w.heap.size) (ss:=ss.map λx=>x.data.toList) (ts:=(sortA ltS ss).map λx=>x.data.toList) (n:=nn) (os:=os) (by simp[hp]) hbase hgb (by simpa using r1) r2 r3
  rw[flat_encS]
  simpa using this
theorem flat_get:∀(l:List (Bool × ByteArray)) (t:Nat),t<l.length*2->(l.flatMap cellsL)[t]?=some (cellsL l[t / 2]!)[t % 2]!
 | [],t,h=>absurd h (by simp)
 |x::r,0,_=>rfl
 |x::r,1,_=>rfl
 |x::r,t+2,h=>by
  have ih:=flat_get r t (by simp at h;omega)
  have e1:(t+2) / 2=t / 2+1:=by omega
  have e2:(t+2) % 2=t % 2:=by omega
  rw[e1,e2]
  simpa [cellsL]using ih
theorem flat_len:∀l:List (Bool × ByteArray),(l.flatMap cellsL).length=l.length*2
 | []=>rfl
 |x::r=>by
  have:=flat_len r
  simp only[List.flatMap_cons,List.length_append,List.length_cons,this]
  simp[cellsL]
  omega
theorem flatK_list (d:Array (Bool × ByteArray)):(flatK cellsL 2 d).toList=d.toList.flatMap cellsL:=by
 apply List.ext_getElem?
 intro t
 by_cases ht:t<d.size*2
 ·rw[flat_get _ _ (by simpa using ht),Array.getElem?_toList]
  have:=get_flatK cellsL 2 d t ht
  have hs:t<(flatK cellsL 2 d).size:=by simpa using ht
  rw[getElem!_pos (flatK cellsL 2 d) t hs]at this
  have h2:t / 2<d.size:=by omega
  have e:d.toList[t / 2]! = d[t / 2]!:=by rw[getElem!_pos d (t / 2) h2,getElem!_pos d.toList (t / 2) (by simpa using h2)];simp
  rw[Array.getElem?_eq_getElem hs,this,e]
 ·have h1:(d.toList.flatMap cellsL).length<=t:=by
   rw[flat_len,Array.length_toList]
   exact Nat.le_of_not_lt ht
  have h2:(flatK cellsL 2 d).toList.length<=t:=by
   rw[Array.length_toList,size_flatK]
   exact Nat.le_of_not_lt ht
  rw[List.getElem?_eq_none h1,List.getElem?_eq_none h2]
theorem holds_blockF {w:World}{g:Nat}{cur:Array Value}{e:TypeId}{Fa:Array Value}(hb:w.heap[g]?=some (.cells cur e (0,0)))(ht:cur.toList.take Fa.size=Fa.toList):Holds id w g 0 Fa:=by
 intro j hj
 refine⟨?_,by simp[World.frozen?,hb]⟩
 have h1:(cur.toList.take Fa.size)[j]?=Fa.toList[j]?:=by rw[ht]
 rw[List.getElem?_take_of_lt hj]at h1
 simp only[World.cell?,hb,Nat.zero_add]
 simp only[Option.isSome_none,Bool.false_eq_true,if_false]
 rw[<- Array.getElem?_toList,h1]
 simp[hj]
theorem heap_sortedF {w:World}{g n:Nat}{os:Array Obj}{cur:Array Value}{e:TypeId} (d:Array Value)(hb:w.heap[g]?=some (.cells cur e (0,0))) :
  (grow (putRow id (Sort.ahead w n) g 0 d) os).heap[g]?=some (.cells (putCells id 0 d cur) e (0,0)):=by
 have hg:g<w.heap.size:=(Array.getElem?_eq_some_iff.1 hb).1
 rw[heap_grow_old _ _ (by simpa using hg)]
 simp[putRow,mapBlock,Sort.ahead,Array.getElem?_modify,hb,onCells]
theorem grownBy_sortedF {w:World}{g n:Nat}{os:Array Obj} (d:Array Value):w.grownBy (grow (putRow id (Sort.ahead w n) g 0 d) os) (some g):=by
 refine⟨rfl,rfl,rfl,by simp,λk hk hne=>?_⟩
 rw[heap_grow_old _ _ (by simpa using hk)]
 have:g≠k:=λe=>hne (by rw[e])
 simp[putRow,mapBlock,Sort.ahead,Array.getElem?_modify,this]
theorem take_putCellsF (cur:Array Value) (ts:Array Value)(h:ts.size<=cur.size):(putCells id 0 ts cur).toList.take ts.size=ts.toList:=by
 apply List.ext_getElem?
 intro j
 by_cases hj:j<ts.size
 ·rw[List.getElem?_take_of_lt hj,Array.getElem?_toList]
  simp[putCells,hj,show j<cur.size by omega]
 ·rw[List.getElem?_take_eq_none (by omega),List.getElem?_eq_none (by simp;omega)]
theorem sortedL (w:World) (g:Nat) (lb:Array Value) (eg:∀args w,(callFunc g args).run Tryz.prog w=.ok (.enter g args) w)
  (S:List (Bool × ByteArray)->Prop) (N:Nat)(hN:N<=maxLen)(hNb:N*24<=140737488355328)(hSN:∀ss,S ss->ss.length<=N)(hseq:SeqStopsK Fence.wide 2 Tryz.prog g lb (λx=>#[encL x]) (Kp2 w.heap.size) S (λ_=>True) N w) :
  Calls Tryz.prog 136 #[.func (.func g) #[] lb,.func (.func 138) #[] #[]] w λe w'=>∃(v:Value) (ss:List (Bool × ByteArray)),e=.returned v/\S ss /\
   w'.ownsRow w.heap.size 105 2 v ss.length ((sortA ltL ss).flatMap cellsL)/\(v=.slice none 0 0 ↔ ss=[])/\Below w.heap.size w w':=by
 have hC:=callsIn_wide.1 (collectL Fence.wide 4 trivial trivial rfl (by omega) g lb trivial eg S N hN hNb w hseq)
 have eo:∀args w,(callFunc 138 args).run Tryz.prog w=.ok (.enter 138 args) w:=enters_of Tryz.func138 (by kernel_rfl) rfl
 go_enter Tryz.func136,Tryz.ntmps136
 go_wp2_with (go_at_call 182;refine hC.mono ?_;rintro e W ⟨v,ss,rfl,hS,hrow,hnil,hb⟩)
 rcases hrow.2 with⟨rfl,hz⟩ | ⟨gb,cap,cur,rfl,hbase,hgb,r1,r2,r3,r4⟩
 ·have hss:ss=[]:=List.eq_nil_of_length_eq_zero hz
  subst hss
  have hN:=AnyF.slices_SortFunc_none Tryz.sort183 none 0 (.func (.func 138) #[] #[]) W
  go_wp2_with (go_at_call 183;refine hN.mono ?_;rintro e w' ⟨rfl,rfl⟩)
  go_ret
  exact⟨.slice none 0 0,[],rfl,hS,by simpa [sortA]using hrow,by simp,hb⟩
 ·have hH:HoldsK cellsL 2 W gb 0 ss.toArray:=holds_blockF hgb (by rw[flatK_list];simpa using r4)
  have hgl:gb<W.heap.size:=(Array.getElem?_eq_some_iff.1 hgb).1
  have hsz:ss.toArray.size<4611686018427387904:=by have:=hSN ss hS;simp;omega
  have hcmp:CmpLays Tryz.prog 138 #[] cellsL 2 labCmp gb 0 ss.toArray.size W:=λm os dk _ x y=>
   (order_s x y (sortWorldK cellsL 2 W gb 0 m dk os)).mono λe w' ⟨h1,os',h2⟩=>⟨h1,0,os',h2⟩
  have cS:=AnyQ.slices_SortFunc_total Tryz.sort183 2 Tryz.isAgg105 Tryz.sizeOf105 cellsL (λ_=>rfl) (λx v hv=>by simp[cellsL]at hv;rcases hv with rfl | rfl <;> rfl) labCmp (by rw[ltOf_lab];exact stoL.swo)
   138 #[] gb 0 cap ss.toArray W eo hcmp hH hgl hsz (by rw[ltOf_lab];exact stoL.total)
  rw[ltOf_lab,List.size_toArray,List.toList_toArray,merge_sortL]at cS
  go_wp2_with (go_at_call 183;refine cS.mono ?_;rintro e w' ⟨rfl,nn,os,rfl⟩)
  go_ret
  have hp:=(sortA_perm (lt:=ltL) ss).length_eq
  have hsF:(flatK cellsL 2 (sortA ltL ss).toArray).size=ss.length*2:=by simp[hp]
  refine⟨_,ss,rfl,hS,⟨?_,.inr ⟨gb,cap,_,rfl,hbase,heap_sortedF _ hgb,r1,r2,?_,?_⟩⟩,hnil,hb.grown (grownBy_sortedF _) hb.size (λj hj=>by cases hj;exact hbase)⟩
  ·rw[<- flatK_list (sortA ltL ss).toArray]
   simpa using hsF
  ·simpa [putCells]using r3
  ·have hle:ss.length*2<=cap*2:=Nat.mul_le_mul_right _ r1
   have:=take_putCellsF cur (flatK cellsL 2 (sortA ltL ss).toArray) (by rw[hsF,r3];exact hle)
   rw[hsF,flatK_list]at this
   simpa using this
end Go.AxC
end
section
namespace Go.Ax
open Go Go.Proofs
section
def Cx.adopt (c:Cx) (w:World) (gb:Nat) (o:O) (n z:Nat):Cx:=
 { c with w:=w,Z:=c.Z++[o],blk:=λb=>if b=c.Z.length then gb else c.blk b,tot:=λb=>if b=c.Z.length then n else c.tot b,esz:=λb=>if b=c.Z.length then z else c.esz b }
section
variable {E:Env}{c:Cx}
theorem adopt_ext (h:SR E c) {w:World}{gb n z:Nat}{o:O}(hb:Go.RowKit.Below c.w.heap.size c.w w)(hg:c.w.heap.size<=gb):Ext c (c.adopt w gb o n z) where
 size:=hb.size
 keep:=λk hk ho=>by
  refine⟨hb.block k hk,λ⟨b,hl,hbk⟩=>?_⟩
  rcases live_append hl with hl | ⟨rfl,_⟩
  ·refine ho ⟨b,hl,?_⟩
   have:=live_lt hl
   simpa [Cx.adopt,Nat.ne_of_lt this]using hbk
  ·simp[Cx.adopt]at hbk;omega
 len:=by simp[Cx.adopt]
 blk:=λb hb=>by simp[Cx.adopt,Nat.ne_of_lt hb]
 tot:=λb hb=>by simp[Cx.adopt,Nat.ne_of_lt hb]
 esz:=λb hb=>by simp[Cx.adopt,Nat.ne_of_lt hb]
 anc:=rfl
 os:=hb.os
 tape:=hb.tape
 output:=hb.output
theorem adopt_sr (h:SR E c) {w:World}{gb n z:Nat}{o:O}(hb:Go.RowKit.Below c.w.heap.size c.w w)(hg:c.w.heap.size<=gb)(ho:ObjR E (c.adopt w gb o n z) c.Z.length o):SR E (c.adopt w gb o n z) where
 inj:=λb b' hl hl' e=>by
  rcases live_append hl with hl | ⟨rfl,_⟩ <;> rcases live_append hl' with hl' | ⟨rfl,_⟩
  ·have:=live_lt hl;have:=live_lt hl'
   refine h.inj b b' hl hl' ?_
   simpa [Cx.adopt,Nat.ne_of_lt (live_lt hl),Nat.ne_of_lt (live_lt hl')]using e
  ·have:=h.lt hl
   simp[Cx.adopt,Nat.ne_of_lt (live_lt hl)]at e;omega
  ·have:=h.lt hl'
   simp[Cx.adopt,Nat.ne_of_lt (live_lt hl')]at e;omega
  ·rfl
 obj:=λb o' hbo=>by
  by_cases hlt:b<c.Z.length
  ·have hb':c.Z[b]?=some o':=by simpa [Cx.adopt,List.getElem?_append_left hlt]using hbo
   by_cases hl:live c.Z b
   ·refine (h.obj b o' hb').mono (adopt_ext h hb hg) hlt ?_
    exact hb.block _ (h.lt hl)
   ·cases o' with
    |dead=>exact True.intro
    |_=>exact (hl ⟨_,hb',rfl⟩).elim
  ·have:b=c.Z.length:=by
    have:=(List.getElem?_eq_some_iff.1 hbo).1
    simp[Cx.adopt]at this;omega
   subst this
   simp[Cx.adopt]at hbo
   subst hbo
   exact ho
 anc:=λb hl=>by
  rcases live_append hl with hl | ⟨rfl,_⟩
  ·have:=h.anc b hl
   simpa [Cx.adopt,Nat.ne_of_lt (live_lt hl)]using this
  ·intro ha
   have:=h.ancLt _ ha
   simp[Cx.adopt]at this
   omega
 ancLt:=λk hk=>by
  have:=h.ancLt k hk
  have:=hb.size
  show k<w.heap.size
  omega
 gl:=gl_ext (adopt_ext h hb hg) h.gl
theorem adopt_row (h:SR E c) {w:World}(hb:Go.RowKit.Below c.w.heap.size c.w w) {t sz len:Nat}{i:Ty}(hi:E.ty t=some i)(hsz:i.size=sz) {v:Value}{xs:List Value}{cs:List V}(hrow:w.ownsRow c.w.heap.size t sz v len xs)(hv:v≠.slice none 0 0)
  (hl:cs.length=xs.length)(hok:cs.all V.okCell=true)(hr:∀(c':Cx) (j:Nat) (a:V),cs[j]?=some a->∃x,xs[j]?=some x/\VR c' a x):Back E c (.sl c.Z.length 0 len none) (c.Z++[.cells t cs false]) v w:=by
 rcases hrow.2 with⟨e,_⟩ | ⟨gb,cap,cur,rfl,hbase,hgb,r1,r2,r3,r4⟩
 ·exact absurd e hv
 have hlen:=hrow.1
 have hcl:cs.length<=cur.size:=by rw[hl,hlen,r3];exact Nat.mul_le_mul_right _ r1
 have hne:∀{α:Type} (x y:α),(if c.Z.length=c.Z.length then x else y)=x:=λx y=>if_pos rfl
 refine⟨c.adopt w gb (.cells t cs false) cur.size sz,rfl,rfl,adopt_ext h hb hbase,adopt_sr h hb hbase ⟨cur,?_,?_,⟨i,hi,?_⟩,hcl,(λe=>by cases e),hok,λj a hj=>?_⟩,?_⟩
 ·show w.heap[if c.Z.length=c.Z.length then gb else _]?=_
  rw[hne];exact hgb
 ·show cur.size=if c.Z.length=c.Z.length then _ else _
  rw[hne]
 ·show (if c.Z.length=c.Z.length then sz else _)=_
  rw[hne,hsz]
 ·obtain⟨x,h1,h2⟩:=hr (c.adopt w gb (.cells t cs false) cur.size sz) j a hj
  refine⟨x,?_,h2⟩
  have hjl:j<len*sz:=by rw[<- hlen];exact (List.getElem?_eq_some_iff.1 h1).1
  rw[<- r4,List.getElem?_take_of_lt hjl,Array.getElem?_toList]at h1
  exact h1
 ·have:=VR.sl (c:=c.adopt w gb (.cells t cs false) cur.size sz) c.Z.length 0 len none cap (by simp[Cx.adopt]) r1 (λk e=>by cases e) (λ_=>by
   show 0+cap*(if c.Z.length=c.Z.length then sz else _)=if c.Z.length=c.Z.length then cur.size else _
   rw[hne,hne,r3,Nat.zero_add])
  have e:(c.adopt w gb (.cells t cs false) cur.size sz).blk c.Z.length=gb:=if_pos rfl
  rw[e]at this
  exact this
theorem adopt_nil (h:SR E c) {w:World}(hb:Go.RowKit.Below c.w.heap.size c.w w):Back E c .nils c.Z (.slice none 0 0) w:=by
 obtain⟨k1,k2⟩:=grow_ok h (w:=w) hb.size (λk hk=>hb.block k hk) hb.os hb.tape hb.output
 exact⟨c.outer w,rfl,rfl,k1,k2,.inl .nils⟩
end
end
end Go.Ax
end
