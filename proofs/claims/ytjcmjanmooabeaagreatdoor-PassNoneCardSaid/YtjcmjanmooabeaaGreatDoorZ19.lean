/- Part 19 of the proof. -/
import Derived.Test.YtjcmjanmooabeaaGreatDoorZ18
import Derived.Test.YtjcmjanmooabeaaGreatDoorZ4
import Derived.KernelRfl
set_option maxHeartbeats 8000000
set_option linter.unusedVariables false
set_option linter.unusedSimpArgs false
section
namespace Go.Ax
open Go Go.Proofs
section
def sel:List Nat->Code->Code
 | [],c=>c
 |0::p,.seq a _=>sel p a
 |1::p,.seq _ b=>sel p b
 |2::p,.block _ c=>sel p c
 |2::p,.loop c=>sel p c
 |_,c=>c
noncomputable def bk (p:List Nat):Code:=sel p (fnOf Tryz.f70).code
section
variable {E:Env}
theorem add1 {d:Nat}(h:d<=4000000000000000000):wr .i64 (addI (d:Int) 1)=((d+1:Nat):Int):=by
 rw[addI_eq,wr_eq]
 have e:(2:Int) ^ IntKind.i64.bits=18446744073709551616:=by decide
 have e2:(2:Int) ^ (IntKind.i64.bits-1)=9223372036854775808:=by decide
 have e3:IntKind.i64.signed=true:=rfl
 unfold IntKind.wrap
 simp only[e,e2,e3,Bool.true_and,decide_eq_true_eq]
 split <;> omega
theorem edge_round (h196:E.ty 150=some { kd:=.map 9 3,size:=1,bytes:=8,zero:=.nilm })(h111:E.ty 91=some { kd:=.map 9 33,size:=1,bytes:=8,zero:=.nilm })(h44:E.ty 33=some { kd:=.sl 9,size:=1,bytes:=24,zero:=.nils })
  (h9:E.ty 9=some { kd:=.str,size:=1,bytes:=16,zero:=.str [] })(h3:E.ty 3=some { kd:=.int .i64,size:=1,bytes:=8,zero:=.int .i64 0 })(h4:E.ty 4=some { kd:=.bool,size:=1,bytes:=1,zero:=.bool false })
  (n:Nat) (fr:Fr)(hn:fr.n=119) {lv:V}{l:List (List Nat)}(hl:SV lv l) {i:Nat} (g34:fr.get 34=some lv) (g35:fr.get 35=some (.int .i64 (l.length:Int))) (g36:fr.get 36=some (.int .i64 (i:Int))) {name:List Nat} (g7:fr.get 7=some (.str name)) {tb:Bool} (g6:fr.get 6=some (.bool tb)) (g5:fr.get 5=some (.ref 1 0))
  {fe:List (V × V)}(hok:FarOk fe)(hsm:∀x k,far fe x=some k->k<=1000000)(hlen:l.length<=4000000000000000000) {its:Sg}{Q:X->Fr->Sg->Prop}
  (q0:i=l.length->∀fr':Fr,fr'.n=119->(∀t,t≠37->fr'.get t=fr.get t)->Q (.exit 4) fr' (.map fe::.cells 150 [.mp 0] true::its))
  (q1:∀nx,l[i]?=some nx->((∀d,far fe nx=some d->∃w,far fe name=some w/\w<=d+1)->∀fr':Fr,fr'.n=119->fr'.get 36=some (.int .i64 ((i+1:Nat):Int))->(∀t,t<10\/t=28\/t=34\/t=35->fr'.get t=fr.get t)->Q .normal fr' (.map fe::.cells 150 [.mp 0] true::its)) /\
   ∀d,far fe nx=some d->(∀w,far fe name=some w->d+1<w)->∀fe',mput strEq (.str name) (.int .i64 ((d+1:Nat):Int)) fe=some fe'->∀fr':Fr,fr'.n=119->fr'.get 36=some (.int .i64 ((i+1:Nat):Int))->fr'.get 6=some (.bool true)->(∀t,t<10/\t≠6\/t=28\/t=34\/t=35->fr'.get t=fr.get t)->Q .normal fr' (.map fe'::.cells 150 [.mp 0] true::its))
  (hi:i<=l.length):wpA E (n+20) (bk [1,1,0,1,2,2,1,2,1,1,2,2,1,1,2,1,1,2,2]) fr (.map fe::.cells 150 [.mp 0] true::its) Q:=by
 simp only[bk,sel,fnOf,Tryz.f70,Option.getD_some]
 by_cases hil:i=l.length
 ·have hlt:decide ((i:Int)<(l.length:Int))=false:=decide_eq_false (by omega)
  simp only[wpA_skip,wpA_exit,wpA_ret,wpA_seq,wpA_cond,wpA_block,wpA_reg,wpOpsA,isNext,wants,yielded,evalO,evalOs,ofValue,ofValue1,if_true,true_and,putS,stepO,opW,comp,Fz.apps,Fz.lits,plainOp,oExtract,oEntry,oMapUpdate,oLookup,oLoad,oStore,oBinOp,oUnOp,oPick,oIndexAddr,oBuiltin,oAlloc,oMakeMap,oRange,evalX,builtin,Option.map_some,Option.bind_some,Option.bind_none,Option.map_none,Fr.get_put,Fr.put_n,hn,List.getElem?_cons_zero,List.getElem?_cons_succ,List.getElem?_nil,List.getElem?_toArray,List.getElem?_append_left,Nat.reduceEqDiff,Nat.reduceLT,Nat.reduceAdd,and_true,and_false,if_false,reduceCtorEq,h196,h111,h44,h9,h3,h4,loadAt,storeAt,isAgg,lookup,keyOk,entriesOf,eqKey_str h9,bin,arith,unop,isConst,mapUpdate,okMapVal,V.okCell,Bool.not_true,Bool.not_false,Bool.or_self,Bool.or_false,Bool.false_or,Bool.or_true,Bool.true_or,Bool.false_eq_true,Bool.true_and,Bool.and_true,Bool.and_self,Option.isSome_some,Option.isSome_none,BEq.rfl,beq_self_eq_true,decide_true,Option.some.injEq,Nat.beq_refl,List.length_cons,List.length_nil,V.cells,setCells,List.take_zero,List.drop_zero,List.nil_append,List.drop_succ_cons,List.append_nil,List.set_cons_zero,List.set_cons_succ,Nat.zero_add,Nat.add_zero,List.all_cons,List.all_nil,Option.getD_some,Option.getD_none,Nat.le_refl,Int.natCast_nonneg,List.drop_nil,List.head?_cons,eqI_eq,ltI_eq,leI_eq,beq_iff_eq,g34,g35,g36,hlt]
  refine q0 hil _ (by simp only[Fr.put_n,hn]) λt ht=>by simp only[Fr.get_put,ht,false_and,if_false]
 ·obtain⟨nx,hnx⟩:∃nx,l[i]?=some nx:=⟨_,List.getElem?_eq_getElem (by omega)⟩
  have hlt:decide ((i:Int)<(l.length:Int))=true:=decide_eq_true (by omega)
  obtain⟨g,full,rfl⟩:∃g full,lv=.isl g (l.map λs=>[V.str s]) full:=by
   rcases hl with⟨_,rfl⟩ | h
   ·simp at hnx
   ·exact h
  have hrow:(l.map λs=>[V.str s])[i]?=some [V.str nx]:=by simp[hnx]
  have hidx:indexAddr E 33 (.isl g (l.map λs=>[V.str s]) full) (.int .i64 (i:Int))=some (.ipt g [.str nx]):=by
   simp only[indexAddr,h44,h9]
   rw[if_neg (by omega),Int.toNat_natCast,hrow]
   simp
  obtain⟨q1a,q1b⟩:=q1 nx hnx
  have hadd:wr .i64 (addI (i:Int) 1)=((i+1:Nat):Int):=add1 (by omega)
  have fnx:=far_find (x:=nx) hok
  have fnm:=far_find (x:=name) hok
  cases hd:far fe nx with
  |none=>
   rw[hd]at fnx
   cases hw:far fe name with
   |none=>
    rw[hw]at fnm
    simp only[wpA_skip,wpA_exit,wpA_ret,wpA_seq,wpA_cond,wpA_block,wpA_reg,wpOpsA,isNext,wants,yielded,evalO,evalOs,ofValue,ofValue1,if_true,true_and,putS,stepO,opW,comp,Fz.apps,Fz.lits,plainOp,oExtract,oEntry,oMapUpdate,oLookup,oLoad,oStore,oBinOp,oUnOp,oPick,oIndexAddr,oBuiltin,oAlloc,oMakeMap,oRange,evalX,builtin,Option.map_some,Option.bind_some,Option.bind_none,Option.map_none,Fr.get_put,Fr.put_n,hn,List.getElem?_cons_zero,List.getElem?_cons_succ,List.getElem?_nil,List.getElem?_toArray,List.getElem?_append_left,Nat.reduceEqDiff,Nat.reduceLT,Nat.reduceAdd,and_true,and_false,if_false,reduceCtorEq,h196,h111,h44,h9,h3,h4,loadAt,storeAt,isAgg,lookup,keyOk,entriesOf,eqKey_str h9,bin,arith,unop,isConst,mapUpdate,okMapVal,V.okCell,Bool.not_true,Bool.not_false,Bool.or_self,Bool.or_false,Bool.false_or,Bool.or_true,Bool.true_or,Bool.false_eq_true,Bool.true_and,Bool.and_true,Bool.and_self,Option.isSome_some,Option.isSome_none,BEq.rfl,beq_self_eq_true,decide_true,Option.some.injEq,Nat.beq_refl,List.length_cons,List.length_nil,V.cells,setCells,List.take_zero,List.drop_zero,List.nil_append,List.drop_succ_cons,List.append_nil,List.set_cons_zero,List.set_cons_succ,Nat.zero_add,Nat.add_zero,List.all_cons,List.all_nil,Option.getD_some,Option.getD_none,Nat.le_refl,Int.natCast_nonneg,List.drop_nil,List.head?_cons,eqI_eq,ltI_eq,leI_eq,beq_iff_eq,g34,g35,g36,g5,g7,hlt,hidx,fnx,fnm,hadd]
    refine q1a (λd h=>by rw[hd]at h;cases h) _ ?_ ?_ ?_
    ·simp only[Fr.put_n,hn]
    ·simp only[Fr.get_put,Fr.put_n,hn,Nat.reduceLT,and_true,if_true]
    ·intro t ht
     have:t<10\/t=28\/t=34\/t=35:=ht
     simp only[Fr.get_put]
     repeat (rw[if_neg (by omega)])
   |some w=>
    rw[hw]at fnm
    simp only[wpA_skip,wpA_exit,wpA_ret,wpA_seq,wpA_cond,wpA_block,wpA_reg,wpOpsA,isNext,wants,yielded,evalO,evalOs,ofValue,ofValue1,if_true,true_and,putS,stepO,opW,comp,Fz.apps,Fz.lits,plainOp,oExtract,oEntry,oMapUpdate,oLookup,oLoad,oStore,oBinOp,oUnOp,oPick,oIndexAddr,oBuiltin,oAlloc,oMakeMap,oRange,evalX,builtin,Option.map_some,Option.bind_some,Option.bind_none,Option.map_none,Fr.get_put,Fr.put_n,hn,List.getElem?_cons_zero,List.getElem?_cons_succ,List.getElem?_nil,List.getElem?_toArray,List.getElem?_append_left,Nat.reduceEqDiff,Nat.reduceLT,Nat.reduceAdd,and_true,and_false,if_false,reduceCtorEq,h196,h111,h44,h9,h3,h4,loadAt,storeAt,isAgg,lookup,keyOk,entriesOf,eqKey_str h9,bin,arith,unop,isConst,mapUpdate,okMapVal,V.okCell,Bool.not_true,Bool.not_false,Bool.or_self,Bool.or_false,Bool.false_or,Bool.or_true,Bool.true_or,Bool.false_eq_true,Bool.true_and,Bool.and_true,Bool.and_self,Option.isSome_some,Option.isSome_none,BEq.rfl,beq_self_eq_true,decide_true,Option.some.injEq,Nat.beq_refl,List.length_cons,List.length_nil,V.cells,setCells,List.take_zero,List.drop_zero,List.nil_append,List.drop_succ_cons,List.append_nil,List.set_cons_zero,List.set_cons_succ,Nat.zero_add,Nat.add_zero,List.all_cons,List.all_nil,Option.getD_some,Option.getD_none,Nat.le_refl,Int.natCast_nonneg,List.drop_nil,List.head?_cons,eqI_eq,ltI_eq,leI_eq,beq_iff_eq,g34,g35,g36,g5,g7,hlt,hidx,fnx,fnm,hadd]
    refine q1a (λd h=>by rw[hd]at h;cases h) _ ?_ ?_ ?_
    ·simp only[Fr.put_n,hn]
    ·simp only[Fr.get_put,Fr.put_n,hn,Nat.reduceLT,and_true,if_true]
    ·intro t ht
     simp only[Fr.get_put]
     repeat (rw[if_neg (by omega)])
  |some d=>
   rw[hd]at fnx
   have hd1:=hsm nx d hd
   have hdd:wr .i64 (addI (d:Int) 1)=((d+1:Nat):Int):=add1 (by omega)
   cases hw:far fe name with
   |none=>
    rw[hw]at fnm
    obtain⟨fe',k1,k2,k3,_⟩:=far_put (x:=name) (m:=d+1) hok
    simp only[wpA_skip,wpA_exit,wpA_ret,wpA_seq,wpA_cond,wpA_block,wpA_reg,wpOpsA,isNext,wants,yielded,evalO,evalOs,ofValue,ofValue1,if_true,true_and,putS,stepO,opW,comp,Fz.apps,Fz.lits,plainOp,oExtract,oEntry,oMapUpdate,oLookup,oLoad,oStore,oBinOp,oUnOp,oPick,oIndexAddr,oBuiltin,oAlloc,oMakeMap,oRange,evalX,builtin,Option.map_some,Option.bind_some,Option.bind_none,Option.map_none,Fr.get_put,Fr.put_n,hn,List.getElem?_cons_zero,List.getElem?_cons_succ,List.getElem?_nil,List.getElem?_toArray,List.getElem?_append_left,Nat.reduceEqDiff,Nat.reduceLT,Nat.reduceAdd,and_true,and_false,if_false,reduceCtorEq,h196,h111,h44,h9,h3,h4,loadAt,storeAt,isAgg,lookup,keyOk,entriesOf,eqKey_str h9,bin,arith,unop,isConst,mapUpdate,okMapVal,V.okCell,Bool.not_true,Bool.not_false,Bool.or_self,Bool.or_false,Bool.false_or,Bool.or_true,Bool.true_or,Bool.false_eq_true,Bool.true_and,Bool.and_true,Bool.and_self,Option.isSome_some,Option.isSome_none,BEq.rfl,beq_self_eq_true,decide_true,Option.some.injEq,Nat.beq_refl,List.length_cons,List.length_nil,V.cells,setCells,List.take_zero,List.drop_zero,List.nil_append,List.drop_succ_cons,List.append_nil,List.set_cons_zero,List.set_cons_succ,Nat.zero_add,Nat.add_zero,List.all_cons,List.all_nil,Option.getD_some,Option.getD_none,Nat.le_refl,Int.natCast_nonneg,List.drop_nil,List.head?_cons,eqI_eq,ltI_eq,leI_eq,beq_iff_eq,g34,g35,g36,g5,g7,hlt,hidx,fnx,fnm,hadd,hdd,k1]
    refine q1b d hd (λw h=>by rw[hw]at h;cases h) fe' k1 _ ?_ ?_ ?_ ?_
    ·simp only[Fr.put_n,hn]
    ·simp only[Fr.get_put,Fr.put_n,hn,Nat.reduceLT,and_true,if_true]
    ·simp only[Fr.get_put,Fr.put_n,hn,Nat.reduceEqDiff,Nat.reduceLT,and_true,if_true,if_false,false_and]
    ·intro t ht
     simp only[Fr.get_put]
     repeat (rw[if_neg (by omega)])
   |some w=>
    rw[hw]at fnm
    by_cases hlt2:d+1<w
    ·obtain⟨fe',k1,k2,k3,_⟩:=far_put (x:=name) (m:=d+1) hok
     have hcmp:decide (((d+1:Nat):Int)<(w:Int))=true:=decide_eq_true (by omega)
     simp only[wpA_skip,wpA_exit,wpA_ret,wpA_seq,wpA_cond,wpA_block,wpA_reg,wpOpsA,isNext,wants,yielded,evalO,evalOs,ofValue,ofValue1,if_true,true_and,putS,stepO,opW,comp,Fz.apps,Fz.lits,plainOp,oExtract,oEntry,oMapUpdate,oLookup,oLoad,oStore,oBinOp,oUnOp,oPick,oIndexAddr,oBuiltin,oAlloc,oMakeMap,oRange,evalX,builtin,Option.map_some,Option.bind_some,Option.bind_none,Option.map_none,Fr.get_put,Fr.put_n,hn,List.getElem?_cons_zero,List.getElem?_cons_succ,List.getElem?_nil,List.getElem?_toArray,List.getElem?_append_left,Nat.reduceEqDiff,Nat.reduceLT,Nat.reduceAdd,and_true,and_false,if_false,reduceCtorEq,h196,h111,h44,h9,h3,h4,loadAt,storeAt,isAgg,lookup,keyOk,entriesOf,eqKey_str h9,bin,arith,unop,isConst,mapUpdate,okMapVal,V.okCell,Bool.not_true,Bool.not_false,Bool.or_self,Bool.or_false,Bool.false_or,Bool.or_true,Bool.true_or,Bool.false_eq_true,Bool.true_and,Bool.and_true,Bool.and_self,Option.isSome_some,Option.isSome_none,BEq.rfl,beq_self_eq_true,decide_true,Option.some.injEq,Nat.beq_refl,List.length_cons,List.length_nil,V.cells,setCells,List.take_zero,List.drop_zero,List.nil_append,List.drop_succ_cons,List.append_nil,List.set_cons_zero,List.set_cons_succ,Nat.zero_add,Nat.add_zero,List.all_cons,List.all_nil,Option.getD_some,Option.getD_none,Nat.le_refl,Int.natCast_nonneg,List.drop_nil,List.head?_cons,eqI_eq,ltI_eq,leI_eq,beq_iff_eq,g34,g35,g36,g5,g7,hlt,hidx,fnx,fnm,hadd,hdd,k1,hcmp]
     refine q1b d hd (λw' h=>by rw[hw]at h;injection h with h;omega) fe' k1 _ ?_ ?_ ?_ ?_
     ·simp only[Fr.put_n,hn]
     ·simp only[Fr.get_put,Fr.put_n,hn,Nat.reduceLT,and_true,if_true]
     ·simp only[Fr.get_put,Fr.put_n,hn,Nat.reduceEqDiff,Nat.reduceLT,and_true,if_true,if_false,false_and]
     ·intro t ht
      simp only[Fr.get_put]
      repeat (rw[if_neg (by omega)])
    ·have hcmp:decide (((d+1:Nat):Int)<(w:Int))=false:=decide_eq_false (by omega)
     simp only[wpA_skip,wpA_exit,wpA_ret,wpA_seq,wpA_cond,wpA_block,wpA_reg,wpOpsA,isNext,wants,yielded,evalO,evalOs,ofValue,ofValue1,if_true,true_and,putS,stepO,opW,comp,Fz.apps,Fz.lits,plainOp,oExtract,oEntry,oMapUpdate,oLookup,oLoad,oStore,oBinOp,oUnOp,oPick,oIndexAddr,oBuiltin,oAlloc,oMakeMap,oRange,evalX,builtin,Option.map_some,Option.bind_some,Option.bind_none,Option.map_none,Fr.get_put,Fr.put_n,hn,List.getElem?_cons_zero,List.getElem?_cons_succ,List.getElem?_nil,List.getElem?_toArray,List.getElem?_append_left,Nat.reduceEqDiff,Nat.reduceLT,Nat.reduceAdd,and_true,and_false,if_false,reduceCtorEq,h196,h111,h44,h9,h3,h4,loadAt,storeAt,isAgg,lookup,keyOk,entriesOf,eqKey_str h9,bin,arith,unop,isConst,mapUpdate,okMapVal,V.okCell,Bool.not_true,Bool.not_false,Bool.or_self,Bool.or_false,Bool.false_or,Bool.or_true,Bool.true_or,Bool.false_eq_true,Bool.true_and,Bool.and_true,Bool.and_self,Option.isSome_some,Option.isSome_none,BEq.rfl,beq_self_eq_true,decide_true,Option.some.injEq,Nat.beq_refl,List.length_cons,List.length_nil,V.cells,setCells,List.take_zero,List.drop_zero,List.nil_append,List.drop_succ_cons,List.append_nil,List.set_cons_zero,List.set_cons_succ,Nat.zero_add,Nat.add_zero,List.all_cons,List.all_nil,Option.getD_some,Option.getD_none,Nat.le_refl,Int.natCast_nonneg,List.drop_nil,List.head?_cons,eqI_eq,ltI_eq,leI_eq,beq_iff_eq,g34,g35,g36,g5,g7,hlt,hidx,fnx,fnm,hadd,hdd,hcmp]
     refine q1a (λd' h=>by rw[hd]at h;injection h with h;exact⟨w,hw,by omega⟩) _ ?_ ?_ ?_
     ·simp only[Fr.put_n,hn]
     ·simp only[Fr.get_put,Fr.put_n,hn,Nat.reduceLT,and_true,if_true]
     ·intro t ht
      simp only[Fr.get_put]
      repeat (rw[if_neg (by omega)])
theorem edge_loop (h196:E.ty 150=some { kd:=.map 9 3,size:=1,bytes:=8,zero:=.nilm })(h111:E.ty 91=some { kd:=.map 9 33,size:=1,bytes:=8,zero:=.nilm })(h44:E.ty 33=some { kd:=.sl 9,size:=1,bytes:=24,zero:=.nils })
  (h9:E.ty 9=some { kd:=.str,size:=1,bytes:=16,zero:=.str [] })(h3:E.ty 3=some { kd:=.int .i64,size:=1,bytes:=8,zero:=.int .i64 0 })(h4:E.ty 4=some { kd:=.bool,size:=1,bytes:=1,zero:=.bool false })
  {es:List (V × V)}{f:List Nat}(hes:es.length<=1000000)(hbk:BackOk es)(hnd:(es.map ks).Nodup) {name:List Nat}{lv:V}(hmem:(V.str name,lv)∈es) {l:List (List Nat)}(hlv:SV lv l)(hln:nextOf es name=l)(hlen:l.length<=4000000000000000000) {its:Sg}{fe0:List (V × V)}{tb0:Bool} (N:Nat) :
  ∀(m i:Nat) (fr:Fr) (fe:List (V × V)) (tb:Bool),m+i=l.length->Far es f fe->fr.n=119->fr.get 34=some lv->fr.get 35=some (.int .i64 (l.length:Int))->fr.get 36=some (.int .i64 (i:Int))->fr.get 7=some (.str name)->fr.get 6=some (.bool tb)->fr.get 5=some (.ref 1 0) ->
   ((tb=tb0/\fe=fe0/\∀j nx,j<i->l[j]?=some nx->Closed1 fe0 name nx)\/(tb=true/\pot es f fe<pot es f fe0)) ->
   wpA E (N+m+21) (.loop (bk [1,1,0,1,2,2,1,2,1,1,2,2,1,1,2,1,1,2,2])) fr (.map fe::.cells 150 [.mp 0] true::its) λx fr' σ'=>x=.exit 4/\∃fe' tb',Far es f fe'/\σ'=.map fe'::.cells 150 [.mp 0] true::its/\fr'.n=119/\fr'.get 6=some (.bool tb')/\(∀t,t<10/\t≠6\/t=28->fr'.get t=fr.get t) /\
    ((tb'=tb0/\fe'=fe0/\∀nx∈l,Closed1 fe0 name nx)\/(tb'=true/\pot es f fe'<pot es f fe0)):=by
 intro m
 induction m with
 |zero=>
  intro i fr fe tb hi hF hn g34 g35 g36 g7 g6 g5 hacc
  show wpA E ((N+20)+1) _ _ _ _
  rw[wpA]
  refine edge_round h196 h111 h44 h9 h3 h4 N fr hn hlv g34 g35 g36 g7 g6 g5 hF.ok (λx k hx=>by have:=hF.lt hx;omega) hlen ?_ (λnx hnx=>?_) (by omega)
  ·intro _ fr' k1 k2
   refine⟨rfl,fe,tb,hF,rfl,k1,by rw[k2 6 (by omega)];exact g6,λt ht=>k2 t (by omega),?_⟩
   rcases hacc with⟨a1,a2,a3⟩ | h
   ·refine .inl ⟨a1,a2,λnx hnx=>?_⟩
    obtain⟨j,hj⟩:=List.getElem?_of_mem hnx
    exact a3 j nx (by have:=(List.getElem?_eq_some_iff.1 hj).1;omega) hj
   ·exact .inr h
  ·have:=(List.getElem?_eq_some_iff.1 hnx).1
   omega
 |succ m ih=>
  intro i fr fe tb hi hF hn g34 g35 g36 g7 g6 g5 hacc
  show wpA E ((N+m+1+20)+1) _ _ _ _
  rw[wpA]
  refine edge_round h196 h111 h44 h9 h3 h4 (N+m+1) fr hn hlv g34 g35 g36 g7 g6 g5 hF.ok (λx k hx=>by have:=hF.lt hx;omega) hlen (λh=>by omega) (λnx hnx=>⟨?_,?_⟩) (by omega)
  ·intro hc fr' k1 k2 k3
   have:=ih (i+1) fr' fe tb (by omega) hF k1 (by rw[k3 34 (by omega)];exact g34) (by rw[k3 35 (by omega)];exact g35) k2 (by rw[k3 7 (by omega)];exact g7) (by rw[k3 6 (by omega)];exact g6) (by rw[k3 5 (by omega)];exact g5) (by
    rcases hacc with⟨a1,a2,a3⟩ | h
    ·refine .inl ⟨a1,a2,λj nx' hj hnx'=>?_⟩
     by_cases e:j=i
     ·subst e
      rw[hnx]at hnx'
      injection hnx' with hnx';subst hnx'
      intro d hd
      rw[<- a2]at hd ⊢
      exact hc d hd
     ·exact a3 j nx' (by omega) hnx'
    ·exact .inr h)
   refine wpA_mono _ this ?_
   rintro x fr2 σ2 ⟨rfl,fe',tb',b1,b2,b3,b4,b5,b6⟩
   exact⟨rfl,fe',tb',b1,b2,b3,b4,λt ht=>(b5 t ht).trans (k3 t (by omega)),b6⟩
  ·intro d hd hw fe' hp fr' k1 k2 k3 k4
   have hnx':nx∈nextOf es name:=by rw[hln];exact List.mem_of_getElem? hnx
   obtain⟨c1,c2⟩:=hF.relax hnx' (List.mem_map.2 ⟨_,hmem,rfl⟩) hd hw hp
   have:=ih (i+1) fr' fe' true (by omega) c1 k1 (by rw[k4 34 (by omega)];exact g34) (by rw[k4 35 (by omega)];exact g35) k2 (by rw[k4 7 (by omega)];exact g7) k3 (by rw[k4 5 (by omega)];exact g5) (by
    refine .inr ⟨rfl,?_⟩
    rcases hacc with⟨_,a2,_⟩ | ⟨_,h⟩
    ·rw[<- a2];exact c2
    ·omega)
   refine wpA_mono _ this ?_
   rintro x fr2 σ2 ⟨rfl,fe2,tb',b1,b2,b3,b4,b5,b6⟩
   exact⟨rfl,fe2,tb',b1,b2,b3,b4,λt ht=>(b5 t ht).trans (k4 t (by omega)),b6⟩
theorem entry_round (h196:E.ty 150=some { kd:=.map 9 3,size:=1,bytes:=8,zero:=.nilm })(h111:E.ty 91=some { kd:=.map 9 33,size:=1,bytes:=8,zero:=.nilm })(h44:E.ty 33=some { kd:=.sl 9,size:=1,bytes:=24,zero:=.nils })
  (h9:E.ty 9=some { kd:=.str,size:=1,bytes:=16,zero:=.str [] })(h3:E.ty 3=some { kd:=.int .i64,size:=1,bytes:=8,zero:=.int .i64 0 })(h4:E.ty 4=some { kd:=.bool,size:=1,bytes:=1,zero:=.bool false })
  (n:Nat) (fr:Fr)(hn:fr.n=119) {k:Nat} (g28:fr.get 28=some (.ref (k+2) 0)) {a b:O}{its:Sg}{left:List (V × V)}{cur:Option (V × V)}(hk:its[k]?=some (.mit left cur)) {Q:X->Fr->Sg->Prop}(hleft:∀e∈left,(∃s,e.1=.str s)/\∃l,SV e.2 l)
  (q0:left=[]->∀fr':Fr,fr'.n=119->(∀t,t<29->fr'.get t=fr.get t)->Q (.exit 2) fr' (a::b::its))
  (q1:∀p e z name l,left=p++e::z->e.1=.str name->SV e.2 l->∀fr':Fr,fr'.n=119->fr'.get 34=some e.2->fr'.get 35=some (.int .i64 (l.length:Int))->fr'.get 36=some (.int .i64 ((0:Nat):Int))->fr'.get 7=some (.str name)->(∀t,t<7\/t=28->fr'.get t=fr.get t) ->
   wpA E (n+20) (.block 4 (.loop (bk [1,1,0,1,2,2,1,2,1,1,2,2,1,1,2,1,1,2,2]))) fr' (a::b::its.set k (.mit (p++z) (some e))) λx fr Z=>match x with
    | .exit id=>if id=3 then Q .normal fr Z else Q (.exit id) fr Z
    |x=>Q x fr Z) :
  wpA E (n+25) (bk [1,1,0,1,2,2,1,2,1,1,2,2]) fr (a::b::its) Q:=by
 have hkl:=(List.getElem?_eq_some_iff.1 hk).1
 have hk2:(a::b::its)[k+2]?=some (.mit left cur):=by simpa using hk
 have hset:∀o,(a::b::its).set (k+2) o=a::b::its.set k o:=λo=>rfl
 have hget:∀o,(a::b::its.set k o)[k+2]?=some o:=λo=>by simp[hkl]
 have e1:bk [1,1,0,1,2,2,1,2,1,1,2,2]=.seq (bk ([1,1,0,1,2,2,1,2,1,1,2,2]++[0])) (.seq (bk ([1,1,0,1,2,2,1,2,1,1,2,2]++[1,0])) (.block 3 (.seq (bk ([1,1,0,1,2,2,1,2,1,1,2,2]++[1,1,2,0])) (.seq (bk ([1,1,0,1,2,2,1,2,1,1,2,2]++[1,1,2,1,0])) (.block 4 (.loop (bk [1,1,0,1,2,2,1,2,1,1,2,2,1,1,2,1,1,2,2]))))))):=rfl
 rw[e1]
 generalize hB:Code.block 3 _=B3
 simp only[bk,sel,List.cons_append,List.nil_append,fnOf,Tryz.f70,Option.getD_some]
 simp only[wpA_skip,wpA_exit,wpA_ret,wpA_seq,wpA_cond,wpA_block,wpA_reg,wpOpsA,isNext,wants,nextA,evalO,g28,hk2,if_true,true_and,putS,stepO,opW,comp,Fz.apps,Fz.lits,plainOp,oExtract,Option.map_some,Fr.get_put,Fr.put_n,hn,List.getElem?_cons_zero,List.getElem?_cons_succ,Nat.reduceEqDiff,Nat.reduceLT,and_true,and_false,if_false,reduceCtorEq,hset]
 refine⟨?_,?_⟩
 ·intro hl
  refine q0 hl _ (by simp only[Fr.put_n,hn]) λt ht=>?_
  simp only[Fr.get_put]
  repeat (rw[if_neg (by omega)])
 ·intro p e z hl
  obtain⟨⟨name,hname⟩,l,hsv⟩:=hleft e (by rw[hl];simp)
  have hln:lenOf E (a::b::its.set k (.mit (p++z) (some e))) 33 e.2=some l.length:=by
   rcases hsv with⟨h1,h2⟩ | ⟨g,full,h1⟩
   ·rw[h1,h2];simp only[lenOf,h44,List.length_nil]
   ·rw[h1];simp only[lenOf,h44,List.length_map]
  rw[<- hB]
  clear hB
  generalize hrest:Code.block 4 (.loop (bk [1,1,0,1,2,2,1,2,1,1,2,2,1,1,2,1,1,2,2]))=rest at q1 ⊢
  simp only[bk,sel,List.cons_append,List.nil_append,fnOf,Tryz.f70,Option.getD_some]
  simp only[wpA_skip,wpA_exit,wpA_ret,wpA_seq,wpA_cond,wpA_block,wpA_reg,wpOpsA,isNext,wants,yielded,evalO,evalOs,ofValue,ofValue1,if_true,true_and,putS,stepO,opW,comp,Fz.apps,Fz.lits,plainOp,oExtract,oEntry,oMapUpdate,oLookup,oLoad,oStore,oBinOp,oUnOp,oPick,oIndexAddr,oBuiltin,oAlloc,oMakeMap,oRange,evalX,builtin,Option.map_some,Option.bind_some,Option.bind_none,Option.map_none,Fr.get_put,Fr.put_n,hn,List.getElem?_cons_zero,List.getElem?_cons_succ,List.getElem?_nil,List.getElem?_toArray,List.getElem?_append_left,Nat.reduceEqDiff,Nat.reduceLT,Nat.reduceAdd,and_true,and_false,if_false,reduceCtorEq,h196,h111,h44,h9,h3,h4,loadAt,storeAt,isAgg,lookup,keyOk,entriesOf,eqKey_str h9,bin,arith,unop,isConst,mapUpdate,okMapVal,V.okCell,Bool.not_true,Bool.not_false,Bool.or_self,Bool.or_false,Bool.false_or,Bool.or_true,Bool.true_or,Bool.false_eq_true,Bool.true_and,Bool.and_true,Bool.and_self,Option.isSome_some,Option.isSome_none,BEq.rfl,beq_self_eq_true,decide_true,Option.some.injEq,Nat.beq_refl,List.length_cons,List.length_nil,V.cells,setCells,List.take_zero,List.drop_zero,List.nil_append,List.drop_succ_cons,List.append_nil,List.set_cons_zero,List.set_cons_succ,Nat.zero_add,Nat.add_zero,List.all_cons,List.all_nil,Option.getD_some,Option.getD_none,Nat.le_refl,Int.natCast_nonneg,List.drop_nil,List.head?_cons,eqI_eq,ltI_eq,leI_eq,beq_iff_eq,g28,oEntry,hget,hln]
  refine q1 p e z name l hl hname hsv _ ?_ ?_ ?_ ?_ ?_ ?_
  ·simp only[Fr.put_n,hn]
  ·simp only[Fr.get_put,Fr.put_n,hn,Nat.reduceEqDiff,Nat.reduceLT,and_true,if_true,if_false,false_and]
  ·simp only[Fr.get_put,Fr.put_n,hn,Nat.reduceEqDiff,Nat.reduceLT,and_true,if_true,if_false,false_and]
  ·simp only[Fr.get_put,Fr.put_n,hn,Nat.reduceEqDiff,Nat.reduceLT,and_true,if_true,if_false,false_and];rfl
  ·simp only[Fr.get_put,Fr.put_n,hn,Nat.reduceEqDiff,Nat.reduceLT,and_true,if_true,if_false,false_and,hname]
  ·intro t ht
   simp only[Fr.get_put]
   repeat (rw[if_neg (by omega)])
theorem entries_loop (h196:E.ty 150=some { kd:=.map 9 3,size:=1,bytes:=8,zero:=.nilm })(h111:E.ty 91=some { kd:=.map 9 33,size:=1,bytes:=8,zero:=.nilm })(h44:E.ty 33=some { kd:=.sl 9,size:=1,bytes:=24,zero:=.nils })
  (h9:E.ty 9=some { kd:=.str,size:=1,bytes:=16,zero:=.str [] })(h3:E.ty 3=some { kd:=.int .i64,size:=1,bytes:=8,zero:=.int .i64 0 })(h4:E.ty 4=some { kd:=.bool,size:=1,bytes:=1,zero:=.bool false })
  {es:List (V × V)}{f:List Nat}(hes:es.length<=1000000)(hbk:BackOk es)(hnd:(es.map ks).Nodup) {K:Nat}(hK:K<=4000000000000000000)(hKl:∀e∈es,(listOf e.2).length<=K) {k:Nat}{fe0:List (V × V)} (N:Nat) :
  ∀(m:Nat) (left p:List (V × V)) (cur:Option (V × V)) (its:Sg) (fr:Fr) (fe:List (V × V)) (tb:Bool),left.length=m->(p++left).Perm es->its[k]?=some (.mit left cur)->Far es f fe->fr.n=119->fr.get 28=some (.ref (k+2) 0)->fr.get 6=some (.bool tb)->fr.get 5=some (.ref 1 0) ->
   ((tb=false/\fe=fe0/\∀e∈p,∀name,e.1=.str name->∀nx∈listOf e.2,Closed1 fe0 name nx)\/(tb=true/\pot es f fe<pot es f fe0)) ->
   wpA E (N+K+m+50) (.loop (bk [1,1,0,1,2,2,1,2,1,1,2,2])) fr (.map fe::.cells 150 [.mp 0] true::its) λx fr' σ'=>x=.exit 2/\∃fe' tb' its',Far es f fe'/\its'.length=its.length/\σ'=.map fe'::.cells 150 [.mp 0] true::its'/\fr'.n=119/\fr'.get 6=some (.bool tb')/\(∀t,t<6->fr'.get t=fr.get t) /\
    ((tb'=false/\fe'=fe0/\∀e∈es,∀name,e.1=.str name->∀nx∈listOf e.2,Closed1 fe0 name nx)\/(tb'=true/\pot es f fe'<pot es f fe0)):=by
 intro m
 induction m with
 |zero=>
  intro left p cur its fr fe tb hl hp hk hF hn g28 g6 g5 hacc
  have:left=[]:=List.length_eq_zero_iff.1 hl
  subst this
  show wpA E ((N+K+24)+25+1) _ _ _ _
  rw[wpA_loop]
  refine entry_round h196 h111 h44 h9 h3 h4 (N+K+24) fr hn g28 hk (λe he=>by cases he) (λ_ fr' k1 k2=>?_) (λp e z name l h=>by simp at h)
  refine⟨rfl,fe,tb,its,hF,rfl,rfl,k1,by rw[k2 6 (by omega)];exact g6,λt ht=>k2 t (by omega),?_⟩
  rcases hacc with⟨a1,a2,a3⟩ | h
  ·exact .inl ⟨a1,a2,λe he=>a3 e (by have:=hp.mem_iff.2 he;simpa using this)⟩
  ·exact .inr h
 |succ m ih=>
  intro left p cur its fr fe tb hl hp hk hF hn g28 g6 g5 hacc
  show wpA E ((N+K+m+25)+25+1) _ _ _ _
  rw[wpA_loop]
  have hmem:∀e∈left,e∈es:=λe he=>hp.mem_iff.1 (List.mem_append_right _ he)
  have hkl:=(List.getElem?_eq_some_iff.1 hk).1
  refine entry_round h196 h111 h44 h9 h3 h4 (N+K+m+25) fr hn g28 hk (λe he=>⟨(hbk e (hmem e he)).1,_,(hbk e (hmem e he)).2⟩) (λh=>by rw[h]at hl;simp at hl) ?_
  intro pa e z name l hz hname hsv fr' k1 k2 k3 k4 k5 k6
  have hee:e∈es:=hmem e (by rw[hz];simp)
  have hme:(V.str name,e.2)∈es:=by rw[<- hname];exact hee
  have hlist:listOf e.2=l:=by
   rcases hsv with⟨h1,h2⟩ | ⟨g,full,h1⟩
   ·rw[h1,h2];rfl
   ·rw[h1]
    have:∀l:List (List Nat),rowStrs (l.map λs=>[V.str s])=l:=λl=>by
     induction l with
     |nil=>rfl
     |cons a l ih=>simp[rowStrs,ih]
    exact this l
  have hnext:nextOf es name=l:=by rw[nextOf_mem hbk hnd hme,hlist]
  have hlK:l.length<=K:=by rw[<- hlist];exact hKl e hee
  show wpA E ((N+K+m+44)+1) _ _ _ _
  rw[wpA_block]
  obtain⟨N',hN'⟩:∃N',N+K+m+44=N'+l.length+21:=⟨N+K+m+23-l.length,by omega⟩
  rw[hN']
  have hloop:=edge_loop (tb0:=tb) (fe0:=fe) h196 h111 h44 h9 h3 h4 hes hbk hnd hme hsv hnext (by omega) (its:=its.set k (.mit (pa++z) (some e))) N' l.length 0 fr' fe tb (by omega) hF k1 k2 k3 k4 k5 (by rw[k6 6 (by omega)];exact g6) (by rw[k6 5 (by omega)];exact g5) (.inl ⟨rfl,rfl,λj nx hj=>by omega⟩)
  refine wpA_mono _ hloop ?_
  rintro x fr2 σ2 ⟨rfl,fe',tb',b1,b2,b3,b4,b5,b6⟩
  subst b2
  simp only[Nat.reduceEqDiff,if_true,if_false]
  have hp2:((p++[e])++(pa++z)).Perm es:=by
   refine List.Perm.trans ?_ hp
   rw[hz,List.append_assoc]
   exact List.Perm.append_left p (by simpa using (List.perm_middle (l₁:=pa) (a:=e) (l₂:=z)).symm)
  have:=ih (pa++z) (p++[e]) (some e) (its.set k (.mit (pa++z) (some e))) fr2 fe' tb' (by rw[hz]at hl;simp at hl ⊢;omega) hp2 (by simp[hkl]) b1 b3 (by rw[b5 28 (by omega),k6 28 (by omega)];exact g28) b4 (by rw[b5 5 (by omega),k6 5 (by omega)];exact g5) (by
   rcases b6 with⟨c1,c2,c3⟩ | ⟨c1,c2⟩
   ·rcases hacc with⟨a1,a2,a3⟩ | ⟨a1,a2⟩
    ·refine .inl ⟨by rw[c1,a1],by rw[c2,a2],λe' he' name' hn' nx hnx=>?_⟩
     rcases List.mem_append.1 he' with he' | he'
     ·exact a3 e' he' name' hn' nx hnx
     ·simp only[List.mem_singleton]at he'
      subst he'
      rw[hname]at hn'
      injection hn' with hn'
      subst hn'
      rw[<- a2]
      exact c3 nx (by rw[<- hlist];exact hnx)
    ·exact .inr ⟨by rw[c1,a1],by rw[c2];exact a2⟩
   ·refine .inr ⟨c1,?_⟩
    rcases hacc with⟨_,a2,_⟩ | ⟨_,a2⟩
    ·rw[<- a2];exact c2
    ·omega)
  refine wpA_mono _ this ?_
  rintro x fr3 σ3 ⟨rfl,fe2,tb2,its2,d1,d2,d3,d4,d5,d6,d7⟩
  exact⟨rfl,fe2,tb2,its2,d1,by rw[d2];simp,d3,d4,d5,λt ht=>(d6 t ht).trans ((b5 t (by omega)).trans (k6 t (by omega))),d7⟩
def AllClosed (es:List (V × V)) (fe:List (V × V)):Prop:=∀e∈es,∀name,e.1=.str name->∀nx∈listOf e.2,Closed1 fe name nx
theorem outer_round (h196:E.ty 150=some { kd:=.map 9 3,size:=1,bytes:=8,zero:=.nilm })(h111:E.ty 91=some { kd:=.map 9 33,size:=1,bytes:=8,zero:=.nilm })(h44:E.ty 33=some { kd:=.sl 9,size:=1,bytes:=24,zero:=.nils })
  (h9:E.ty 9=some { kd:=.str,size:=1,bytes:=16,zero:=.str [] })(h3:E.ty 3=some { kd:=.int .i64,size:=1,bytes:=8,zero:=.int .i64 0 })(h4:E.ty 4=some { kd:=.bool,size:=1,bytes:=1,zero:=.bool false })
  {es:List (V × V)}{g:Bool} (n:Nat) {its:Sg}{a b:O}{fr:Fr}{tb:Bool}(hn:fr.n=119) (g0:fr.get 0=some (.imp g es)) (g6:fr.get 6=some (.bool tb)) {Q:X->Fr->Sg->Prop}
  (q0:tb=false->∀fr':Fr,fr'.n=119->(∀t,t<26->fr'.get t=fr.get t)->Q (.exit 0) fr' (a::b::its))
  (q1:tb=true->∀fr':Fr,fr'.n=119->fr'.get 28=some (.ref (its.length+2) 0)->fr'.get 6=some (.bool false)->(∀t,t<6->fr'.get t=fr.get t) ->
   wpA E (n+20) (.block 2 (.loop (bk [1,1,0,1,2,2,1,2,1,1,2,2]))) fr' (a::b::(its++[.mit es none])) λx fr Z=>match x with
    | .exit id=>if id=1 then Q .normal fr Z else Q (.exit id) fr Z
    |x=>Q x fr Z) :
  wpA E (n+24) (bk [1,1,0,1,2,2]) fr (a::b::its) Q:=by
 have e1:bk [1,1,0,1,2,2]=.seq (bk ([1,1,0,1,2,2]++[0])) (.block 1 (.seq (bk ([1,1,0,1,2,2]++[1,2,0])) (.seq (bk ([1,1,0,1,2,2]++[1,2,1,0])) (.block 2 (.loop (bk [1,1,0,1,2,2,1,2,1,1,2,2])))))):=rfl
 rw[e1]
 generalize hB:Code.block 2 (.loop (bk [1,1,0,1,2,2,1,2,1,1,2,2]))=B2 at q1 ⊢
 simp only[bk,sel,List.cons_append,List.nil_append,fnOf,Tryz.f70,Option.getD_some]
 cases tb with
 |false=>
  simp only[wpA_skip,wpA_exit,wpA_ret,wpA_seq,wpA_cond,wpA_block,wpA_reg,wpOpsA,isNext,wants,yielded,evalO,evalOs,ofValue,ofValue1,if_true,true_and,putS,stepO,opW,comp,Fz.apps,Fz.lits,plainOp,oExtract,oEntry,oMapUpdate,oLookup,oLoad,oStore,oBinOp,oUnOp,oPick,oIndexAddr,oBuiltin,oAlloc,oMakeMap,oRange,evalX,builtin,Option.map_some,Option.bind_some,Option.bind_none,Option.map_none,Fr.get_put,Fr.put_n,hn,List.getElem?_cons_zero,List.getElem?_cons_succ,List.getElem?_nil,List.getElem?_toArray,List.getElem?_append_left,Nat.reduceEqDiff,Nat.reduceLT,Nat.reduceAdd,and_true,and_false,if_false,reduceCtorEq,h196,h111,h44,h9,h3,h4,loadAt,storeAt,isAgg,lookup,keyOk,entriesOf,eqKey_str h9,bin,arith,unop,isConst,mapUpdate,okMapVal,V.okCell,Bool.not_true,Bool.not_false,Bool.or_self,Bool.or_false,Bool.false_or,Bool.or_true,Bool.true_or,Bool.false_eq_true,Bool.true_and,Bool.and_true,Bool.and_self,Option.isSome_some,Option.isSome_none,BEq.rfl,beq_self_eq_true,decide_true,Option.some.injEq,Nat.beq_refl,List.length_cons,List.length_nil,V.cells,setCells,List.take_zero,List.drop_zero,List.nil_append,List.drop_succ_cons,List.append_nil,List.set_cons_zero,List.set_cons_succ,Nat.zero_add,Nat.add_zero,List.all_cons,List.all_nil,Option.getD_some,Option.getD_none,Nat.le_refl,Int.natCast_nonneg,List.drop_nil,List.head?_cons,eqI_eq,ltI_eq,leI_eq,beq_iff_eq,g6]
  refine q0 rfl _ (by simp only[Fr.put_n,hn]) λt ht=>?_
  simp only[Fr.get_put]
  repeat (rw[if_neg (by omega)])
 |true=>
  simp only[wpA_skip,wpA_exit,wpA_ret,wpA_seq,wpA_cond,wpA_block,wpA_reg,wpOpsA,isNext,wants,yielded,evalO,evalOs,ofValue,ofValue1,if_true,true_and,putS,stepO,opW,comp,Fz.apps,Fz.lits,plainOp,oExtract,oEntry,oMapUpdate,oLookup,oLoad,oStore,oBinOp,oUnOp,oPick,oIndexAddr,oBuiltin,oAlloc,oMakeMap,oRange,evalX,builtin,Option.map_some,Option.bind_some,Option.bind_none,Option.map_none,Fr.get_put,Fr.put_n,hn,List.getElem?_cons_zero,List.getElem?_cons_succ,List.getElem?_nil,List.getElem?_toArray,List.getElem?_append_left,Nat.reduceEqDiff,Nat.reduceLT,Nat.reduceAdd,and_true,and_false,if_false,reduceCtorEq,h196,h111,h44,h9,h3,h4,loadAt,storeAt,isAgg,lookup,keyOk,entriesOf,eqKey_str h9,bin,arith,unop,isConst,mapUpdate,okMapVal,V.okCell,Bool.not_true,Bool.not_false,Bool.or_self,Bool.or_false,Bool.false_or,Bool.or_true,Bool.true_or,Bool.false_eq_true,Bool.true_and,Bool.and_true,Bool.and_self,Option.isSome_some,Option.isSome_none,BEq.rfl,beq_self_eq_true,decide_true,Option.some.injEq,Nat.beq_refl,List.length_cons,List.length_nil,V.cells,setCells,List.take_zero,List.drop_zero,List.nil_append,List.drop_succ_cons,List.append_nil,List.set_cons_zero,List.set_cons_succ,Nat.zero_add,Nat.add_zero,List.all_cons,List.all_nil,Option.getD_some,Option.getD_none,Nat.le_refl,Int.natCast_nonneg,List.drop_nil,List.head?_cons,eqI_eq,ltI_eq,leI_eq,beq_iff_eq,g6,g0]
  refine q1 rfl _ ?_ ?_ ?_ ?_
  ·simp only[Fr.put_n,hn]
  ·simp only[Fr.get_put,Fr.put_n,hn,Nat.reduceEqDiff,Nat.reduceLT,and_true,if_true,if_false,false_and]
  ·simp only[Fr.get_put,Fr.put_n,hn,Nat.reduceEqDiff,Nat.reduceLT,and_true,if_true,if_false,false_and]
  ·intro t ht
   simp only[Fr.get_put]
   repeat (rw[if_neg (by omega)])
theorem outer_loop (h196:E.ty 150=some { kd:=.map 9 3,size:=1,bytes:=8,zero:=.nilm })(h111:E.ty 91=some { kd:=.map 9 33,size:=1,bytes:=8,zero:=.nilm })(h44:E.ty 33=some { kd:=.sl 9,size:=1,bytes:=24,zero:=.nils })
  (h9:E.ty 9=some { kd:=.str,size:=1,bytes:=16,zero:=.str [] })(h3:E.ty 3=some { kd:=.int .i64,size:=1,bytes:=8,zero:=.int .i64 0 })(h4:E.ty 4=some { kd:=.bool,size:=1,bytes:=1,zero:=.bool false })
  {es:List (V × V)}{f:List Nat}(hes:es.length<=1000000)(hbk:BackOk es)(hnd:(es.map ks).Nodup) {K:Nat}(hK:K<=4000000000000000000)(hKl:∀e∈es,(listOf e.2).length<=K) {g:Bool} (N:Nat) :
  ∀(m:Nat) (its:Sg) (fr:Fr) (fe:List (V × V)) (tb:Bool),(tb=true->pot es f fe<m)->(tb=false->AllClosed es fe)->Far es f fe->fr.n=119->fr.get 0=some (.imp g es)->fr.get 6=some (.bool tb)->fr.get 5=some (.ref 1 0) ->
   wpA E (N+K+es.length+m+90) (.loop (bk [1,1,0,1,2,2])) fr (.map fe::.cells 150 [.mp 0] true::its) λx fr' σ'=>x=.exit 0/\∃fe' its',Far es f fe'/\AllClosed es fe'/\σ'=.map fe'::.cells 150 [.mp 0] true::its'/\fr'.n=119/\(∀t,t<6->fr'.get t=fr.get t):=by
 have stop:∀(n:Nat) (its:Sg) (fr:Fr) (fe:List (V × V)),AllClosed es fe->Far es f fe->fr.n=119->fr.get 0=some (.imp g es)->fr.get 6=some (.bool false) ->
   wpA E (n+25) (.loop (bk [1,1,0,1,2,2])) fr (.map fe::.cells 150 [.mp 0] true::its) λx fr' σ'=>x=.exit 0/\∃fe' its',Far es f fe'/\AllClosed es fe'/\σ'=.map fe'::.cells 150 [.mp 0] true::its'/\fr'.n=119/\(∀t,t<6->fr'.get t=fr.get t):=by
  intro n its fr fe hc hF hn g0 g6
  show wpA E ((n+24)+1) _ _ _ _
  rw[wpA_loop]
  refine outer_round h196 h111 h44 h9 h3 h4 n hn g0 g6 (λ_ fr' k1 k2=>?_) (λh=>by cases h)
  exact⟨rfl,fe,its,hF,hc,rfl,k1,λt ht=>k2 t (by omega)⟩
 intro m
 induction m with
 |zero=>
  intro its fr fe tb hp hc hF hn g0 g6 g5
  cases tb with
  |false=>exact stop (N+K+es.length+65) its fr fe (hc rfl) hF hn g0 g6
  |true=>exact absurd (hp rfl) (Nat.not_lt_zero _)
 |succ m ih=>
  intro its fr fe tb hp hc hF hn g0 g6 g5
  cases tb with
  |false=>exact stop (N+K+es.length+m+66) its fr fe (hc rfl) hF hn g0 g6
  |true=>
   show wpA E ((N+K+es.length+m+66+24)+1) _ _ _ _
   rw[wpA_loop]
   refine outer_round h196 h111 h44 h9 h3 h4 (N+K+es.length+m+66) hn g0 g6 (λh=>by cases h) (λ_ fr' k1 k2 k3 k4=>?_)
   show wpA E ((N+K+es.length+m+85)+1) _ _ _ _
   rw[wpA_block]
   obtain⟨N',hN'⟩:∃N',N+K+es.length+m+85=N'+K+es.length+50:=⟨N+m+35,by omega⟩
   rw[hN']
   have:=entries_loop (fe0:=fe) h196 h111 h44 h9 h3 h4 hes hbk hnd hK hKl (k:=its.length) N' es.length es [] none (its++[.mit es none]) fr' fe false rfl (by simp) (by simp) hF k1 k2 k3 (by rw[k4 5 (by omega)];exact g5) (.inl ⟨rfl,rfl,λe he=>by cases he⟩)
   refine wpA_mono _ this ?_
   rintro x fr2 σ2 ⟨rfl,fe',tb',its',b1,b2,b3,b4,b5,b6,b7⟩
   subst b3
   simp only[Nat.reduceEqDiff,if_true,if_false]
   have g0':fr2.get 0=some (.imp g es):=by rw[b6 0 (by omega),k4 0 (by omega)];exact g0
   rcases b7 with⟨rfl,rfl,c3⟩ | ⟨rfl,c2⟩
   ·have:=stop (N+K+es.length+m+65) its' fr2 fe' c3 b1 b4 g0' b5
    refine wpA_mono _ this ?_
    rintro x fr3 σ3 ⟨rfl,fe2,its2,d1,d2,d3,d4,d5⟩
    exact⟨rfl,fe2,its2,d1,d2,d3,d4,λt ht=>(d5 t ht).trans ((b6 t ht).trans (k4 t ht))⟩
   ·have:=ih its' fr2 fe' true (λ_=>by have:=hp rfl;omega) (λh=>by cases h) b1 b4 g0' b5 (by rw[b6 5 (by omega),k4 5 (by omega)];exact g5)
    refine wpA_mono _ this ?_
    rintro x fr3 σ3 ⟨rfl,fe2,its2,d1,d2,d3,d4,d5⟩
    exact⟨rfl,fe2,its2,d1,d2,d3,d4,λt ht=>(d5 t ht).trans ((b6 t ht).trans (k4 t ht))⟩
end
end
section
section
variable {E:Env}
def encB:Option Nat->Int
 |none=>-1
 |some b=>(b:Int)
theorem best_round (h196:E.ty 150=some { kd:=.map 9 3,size:=1,bytes:=8,zero:=.nilm })(h111:E.ty 91=some { kd:=.map 9 33,size:=1,bytes:=8,zero:=.nilm })(h44:E.ty 33=some { kd:=.sl 9,size:=1,bytes:=24,zero:=.nils })
  (h9:E.ty 9=some { kd:=.str,size:=1,bytes:=16,zero:=.str [] })(h3:E.ty 3=some { kd:=.int .i64,size:=1,bytes:=8,zero:=.int .i64 0 })(h4:E.ty 4=some { kd:=.bool,size:=1,bytes:=1,zero:=.bool false })
  (n:Nat) (fr:Fr)(hn:fr.n=119) {lv:V}{l:List (List Nat)}(hl:SV lv l) {i B:Nat} (g70:fr.get 70=some lv) (g71:fr.get 71=some (.int .i64 (l.length:Int))) (g72:fr.get 72=some (.int .i64 (i:Int))) (g5:fr.get 5=some (.ref 1 0)) (g15:fr.get 15=some (.ref B 0))
  {fe:List (V × V)}(hok:FarOk fe)(hlen:l.length<=4000000000000000000) {Z:Sg}{acc:Option Nat} (s0:Z[0]?=some (.map fe)) (s1:Z[1]?=some (.cells 150 [.mp 0] true)) (sB:Z[B]?=some (.cells 3 [.int .i64 (encB acc)] true)) {Q:X->Fr->Sg->Prop}
  (q0:i=l.length->∀fr':Fr,fr'.n=119->(∀t,t≠73->fr'.get t=fr.get t)->Q (.exit 6) fr' Z)
  (q1:∀nx,l[i]?=some nx->∀σ',((σ'=Z/\bestStep (far fe) acc nx=acc)\/σ'=Z.set B (.cells 3 [.int .i64 (encB (bestStep (far fe) acc nx))] true))->∀fr':Fr,fr'.n=119->fr'.get 72=some (.int .i64 ((i+1:Nat):Int))->(∀t,t<17\/t=70\/t=71->fr'.get t=fr.get t)->Q .normal fr' σ')
  (hi:i<=l.length):wpA E (n+20) (bk [1,1,1,1,0,1,2,2]) fr Z Q:=by
 simp only[bk,sel,fnOf,Tryz.f70,Option.getD_some]
 by_cases hil:i=l.length
 ·have hlt:decide ((i:Int)<(l.length:Int))=false:=decide_eq_false (by omega)
  simp only[wpA_skip,wpA_exit,wpA_ret,wpA_seq,wpA_cond,wpA_block,wpA_reg,wpOpsA,isNext,wants,yielded,evalO,evalOs,ofValue,ofValue1,if_true,true_and,putS,stepO,opW,comp,Fz.apps,Fz.lits,plainOp,oExtract,oEntry,oMapUpdate,oLookup,oLoad,oStore,oBinOp,oUnOp,oPick,oIndexAddr,oBuiltin,oAlloc,oMakeMap,oRange,evalX,builtin,Option.map_some,Option.bind_some,Option.bind_none,Option.map_none,Fr.get_put,Fr.put_n,hn,List.getElem?_cons_zero,List.getElem?_cons_succ,List.getElem?_nil,List.getElem?_toArray,List.getElem?_append_left,Nat.reduceEqDiff,Nat.reduceLT,Nat.reduceAdd,and_true,and_false,if_false,reduceCtorEq,h196,h111,h44,h9,h3,h4,loadAt,storeAt,isAgg,lookup,keyOk,entriesOf,eqKey_str h9,bin,arith,unop,isConst,mapUpdate,okMapVal,V.okCell,Bool.not_true,Bool.not_false,Bool.or_self,Bool.or_false,Bool.false_or,Bool.or_true,Bool.true_or,Bool.false_eq_true,Bool.true_and,Bool.and_true,Bool.and_self,Option.isSome_some,Option.isSome_none,BEq.rfl,beq_self_eq_true,decide_true,Option.some.injEq,Nat.beq_refl,List.length_cons,List.length_nil,V.cells,setCells,List.take_zero,List.drop_zero,List.nil_append,List.drop_succ_cons,List.append_nil,List.set_cons_zero,List.set_cons_succ,Nat.zero_add,Nat.add_zero,List.all_cons,List.all_nil,Option.getD_some,Option.getD_none,Nat.le_refl,Int.natCast_nonneg,List.drop_nil,List.head?_cons,eqI_eq,ltI_eq,leI_eq,beq_iff_eq,g70,g71,g72,hlt]
  refine q0 hil _ (by simp only[Fr.put_n,hn]) λt ht=>by simp only[Fr.get_put,ht,false_and,if_false]
 ·obtain⟨nx,hnx⟩:∃nx,l[i]?=some nx:=⟨_,List.getElem?_eq_getElem (by omega)⟩
  have hlt:decide ((i:Int)<(l.length:Int))=true:=decide_eq_true (by omega)
  obtain⟨g,full,rfl⟩:∃g full,lv=.isl g (l.map λs=>[V.str s]) full:=by
   rcases hl with⟨_,rfl⟩ | h
   ·simp at hnx
   ·exact h
  have hrow:(l.map λs=>[V.str s])[i]?=some [V.str nx]:=by simp[hnx]
  have hidx:indexAddr E 33 (.isl g (l.map λs=>[V.str s]) full) (.int .i64 (i:Int))=some (.ipt g [.str nx]):=by
   simp only[indexAddr,h44,h9]
   rw[if_neg (by omega),Int.toNat_natCast,hrow]
   simp
  have hadd:wr .i64 (addI (i:Int) 1)=((i+1:Nat):Int):=add1 (by omega)
  have fnx:=far_find (x:=nx) hok
  have q1:=q1 nx hnx
  cases hd:far fe nx with
  |none=>
   rw[hd]at fnx
   simp only[wpA_skip,wpA_exit,wpA_ret,wpA_seq,wpA_cond,wpA_block,wpA_reg,wpOpsA,isNext,wants,yielded,evalO,evalOs,ofValue,ofValue1,if_true,true_and,putS,stepO,opW,comp,Fz.apps,Fz.lits,plainOp,oExtract,oEntry,oMapUpdate,oLookup,oLoad,oStore,oBinOp,oUnOp,oPick,oIndexAddr,oBuiltin,oAlloc,oMakeMap,oRange,evalX,builtin,Option.map_some,Option.bind_some,Option.bind_none,Option.map_none,Fr.get_put,Fr.put_n,hn,List.getElem?_cons_zero,List.getElem?_cons_succ,List.getElem?_nil,List.getElem?_toArray,List.getElem?_append_left,Nat.reduceEqDiff,Nat.reduceLT,Nat.reduceAdd,and_true,and_false,if_false,reduceCtorEq,h196,h111,h44,h9,h3,h4,loadAt,storeAt,isAgg,lookup,keyOk,entriesOf,eqKey_str h9,bin,arith,unop,isConst,mapUpdate,okMapVal,V.okCell,Bool.not_true,Bool.not_false,Bool.or_self,Bool.or_false,Bool.false_or,Bool.or_true,Bool.true_or,Bool.false_eq_true,Bool.true_and,Bool.and_true,Bool.and_self,Option.isSome_some,Option.isSome_none,BEq.rfl,beq_self_eq_true,decide_true,Option.some.injEq,Nat.beq_refl,List.length_cons,List.length_nil,V.cells,setCells,List.take_zero,List.drop_zero,List.nil_append,List.drop_succ_cons,List.append_nil,List.set_cons_zero,List.set_cons_succ,Nat.zero_add,Nat.add_zero,List.all_cons,List.all_nil,Option.getD_some,Option.getD_none,Nat.le_refl,Int.natCast_nonneg,List.drop_nil,List.head?_cons,eqI_eq,ltI_eq,leI_eq,beq_iff_eq,g70,g71,g72,g5,hlt,hidx,fnx,hadd,s0,s1]
   refine q1 Z (.inl ⟨rfl,by simp only[bestStep,hd]⟩) _ ?_ ?_ ?_
   ·simp only[Fr.put_n,hn]
   ·simp only[Fr.get_put,Fr.put_n,hn,Nat.reduceEqDiff,Nat.reduceLT,and_true,if_true,if_false,false_and]
   ·intro t ht
    simp only[Fr.get_put]
    repeat (rw[if_neg (by omega)])
  |some d=>
   rw[hd]at fnx
   cases acc with
   |none=>
    have hcmp:decide (encB none<0)=true:=by decide
    simp only[wpA_skip,wpA_exit,wpA_ret,wpA_seq,wpA_cond,wpA_block,wpA_reg,wpOpsA,isNext,wants,yielded,evalO,evalOs,ofValue,ofValue1,if_true,true_and,putS,stepO,opW,comp,Fz.apps,Fz.lits,plainOp,oExtract,oEntry,oMapUpdate,oLookup,oLoad,oStore,oBinOp,oUnOp,oPick,oIndexAddr,oBuiltin,oAlloc,oMakeMap,oRange,evalX,builtin,Option.map_some,Option.bind_some,Option.bind_none,Option.map_none,Fr.get_put,Fr.put_n,hn,List.getElem?_cons_zero,List.getElem?_cons_succ,List.getElem?_nil,List.getElem?_toArray,List.getElem?_append_left,Nat.reduceEqDiff,Nat.reduceLT,Nat.reduceAdd,and_true,and_false,if_false,reduceCtorEq,h196,h111,h44,h9,h3,h4,loadAt,storeAt,isAgg,lookup,keyOk,entriesOf,eqKey_str h9,bin,arith,unop,isConst,mapUpdate,okMapVal,V.okCell,Bool.not_true,Bool.not_false,Bool.or_self,Bool.or_false,Bool.false_or,Bool.or_true,Bool.true_or,Bool.false_eq_true,Bool.true_and,Bool.and_true,Bool.and_self,Option.isSome_some,Option.isSome_none,BEq.rfl,beq_self_eq_true,decide_true,Option.some.injEq,Nat.beq_refl,List.length_cons,List.length_nil,V.cells,setCells,List.take_zero,List.drop_zero,List.nil_append,List.drop_succ_cons,List.append_nil,List.set_cons_zero,List.set_cons_succ,Nat.zero_add,Nat.add_zero,List.all_cons,List.all_nil,Option.getD_some,Option.getD_none,Nat.le_refl,Int.natCast_nonneg,List.drop_nil,List.head?_cons,eqI_eq,ltI_eq,leI_eq,beq_iff_eq,g70,g71,g72,g5,g15,hlt,hidx,fnx,hadd,s0,s1,sB,hcmp]
    refine q1 _ (.inr (by simp only[bestStep,hd,encB])) _ ?_ ?_ ?_
    ·simp only[Fr.put_n,hn]
    ·simp only[Fr.get_put,Fr.put_n,hn,Nat.reduceEqDiff,Nat.reduceLT,and_true,if_true,if_false,false_and]
    ·intro t ht
     simp only[Fr.get_put]
     repeat (rw[if_neg (by omega)])
   |some b=>
    have hcmp0:decide (encB (some b)<0)=false:=decide_eq_false (by simp only[encB];omega)
    by_cases hlt2:d<b
    ·have hcmp:decide ((d:Int)<encB (some b))=true:=decide_eq_true (by simp only[encB];omega)
     simp only[wpA_skip,wpA_exit,wpA_ret,wpA_seq,wpA_cond,wpA_block,wpA_reg,wpOpsA,isNext,wants,yielded,evalO,evalOs,ofValue,ofValue1,if_true,true_and,putS,stepO,opW,comp,Fz.apps,Fz.lits,plainOp,oExtract,oEntry,oMapUpdate,oLookup,oLoad,oStore,oBinOp,oUnOp,oPick,oIndexAddr,oBuiltin,oAlloc,oMakeMap,oRange,evalX,builtin,Option.map_some,Option.bind_some,Option.bind_none,Option.map_none,Fr.get_put,Fr.put_n,hn,List.getElem?_cons_zero,List.getElem?_cons_succ,List.getElem?_nil,List.getElem?_toArray,List.getElem?_append_left,Nat.reduceEqDiff,Nat.reduceLT,Nat.reduceAdd,and_true,and_false,if_false,reduceCtorEq,h196,h111,h44,h9,h3,h4,loadAt,storeAt,isAgg,lookup,keyOk,entriesOf,eqKey_str h9,bin,arith,unop,isConst,mapUpdate,okMapVal,V.okCell,Bool.not_true,Bool.not_false,Bool.or_self,Bool.or_false,Bool.false_or,Bool.or_true,Bool.true_or,Bool.false_eq_true,Bool.true_and,Bool.and_true,Bool.and_self,Option.isSome_some,Option.isSome_none,BEq.rfl,beq_self_eq_true,decide_true,Option.some.injEq,Nat.beq_refl,List.length_cons,List.length_nil,V.cells,setCells,List.take_zero,List.drop_zero,List.nil_append,List.drop_succ_cons,List.append_nil,List.set_cons_zero,List.set_cons_succ,Nat.zero_add,Nat.add_zero,List.all_cons,List.all_nil,Option.getD_some,Option.getD_none,Nat.le_refl,Int.natCast_nonneg,List.drop_nil,List.head?_cons,eqI_eq,ltI_eq,leI_eq,beq_iff_eq,g70,g71,g72,g5,g15,hlt,hidx,fnx,hadd,s0,s1,sB,hcmp0,hcmp]
     refine q1 _ (.inr (by simp only[bestStep,hd,encB,if_pos hlt2])) _ ?_ ?_ ?_
     ·simp only[Fr.put_n,hn]
     ·simp only[Fr.get_put,Fr.put_n,hn,Nat.reduceEqDiff,Nat.reduceLT,and_true,if_true,if_false,false_and]
     ·intro t ht
      simp only[Fr.get_put]
      repeat (rw[if_neg (by omega)])
    ·have hcmp:decide ((d:Int)<encB (some b))=false:=decide_eq_false (by simp only[encB];omega)
     simp only[wpA_skip,wpA_exit,wpA_ret,wpA_seq,wpA_cond,wpA_block,wpA_reg,wpOpsA,isNext,wants,yielded,evalO,evalOs,ofValue,ofValue1,if_true,true_and,putS,stepO,opW,comp,Fz.apps,Fz.lits,plainOp,oExtract,oEntry,oMapUpdate,oLookup,oLoad,oStore,oBinOp,oUnOp,oPick,oIndexAddr,oBuiltin,oAlloc,oMakeMap,oRange,evalX,builtin,Option.map_some,Option.bind_some,Option.bind_none,Option.map_none,Fr.get_put,Fr.put_n,hn,List.getElem?_cons_zero,List.getElem?_cons_succ,List.getElem?_nil,List.getElem?_toArray,List.getElem?_append_left,Nat.reduceEqDiff,Nat.reduceLT,Nat.reduceAdd,and_true,and_false,if_false,reduceCtorEq,h196,h111,h44,h9,h3,h4,loadAt,storeAt,isAgg,lookup,keyOk,entriesOf,eqKey_str h9,bin,arith,unop,isConst,mapUpdate,okMapVal,V.okCell,Bool.not_true,Bool.not_false,Bool.or_self,Bool.or_false,Bool.false_or,Bool.or_true,Bool.true_or,Bool.false_eq_true,Bool.true_and,Bool.and_true,Bool.and_self,Option.isSome_some,Option.isSome_none,BEq.rfl,beq_self_eq_true,decide_true,Option.some.injEq,Nat.beq_refl,List.length_cons,List.length_nil,V.cells,setCells,List.take_zero,List.drop_zero,List.nil_append,List.drop_succ_cons,List.append_nil,List.set_cons_zero,List.set_cons_succ,Nat.zero_add,Nat.add_zero,List.all_cons,List.all_nil,Option.getD_some,Option.getD_none,Nat.le_refl,Int.natCast_nonneg,List.drop_nil,List.head?_cons,eqI_eq,ltI_eq,leI_eq,beq_iff_eq,g70,g71,g72,g5,g15,hlt,hidx,fnx,hadd,s0,s1,sB,hcmp0,hcmp]
     refine q1 Z (.inl ⟨rfl,by simp only[bestStep,hd,if_neg hlt2]⟩) _ ?_ ?_ ?_
     ·simp only[Fr.put_n,hn]
     ·simp only[Fr.get_put,Fr.put_n,hn,Nat.reduceEqDiff,Nat.reduceLT,and_true,if_true,if_false,false_and]
     ·intro t ht
      simp only[Fr.get_put]
      repeat (rw[if_neg (by omega)])
theorem best_loop (h196:E.ty 150=some { kd:=.map 9 3,size:=1,bytes:=8,zero:=.nilm })(h111:E.ty 91=some { kd:=.map 9 33,size:=1,bytes:=8,zero:=.nilm })(h44:E.ty 33=some { kd:=.sl 9,size:=1,bytes:=24,zero:=.nils })
  (h9:E.ty 9=some { kd:=.str,size:=1,bytes:=16,zero:=.str [] })(h3:E.ty 3=some { kd:=.int .i64,size:=1,bytes:=8,zero:=.int .i64 0 })(h4:E.ty 4=some { kd:=.bool,size:=1,bytes:=1,zero:=.bool false })
  {lv:V}{l:List (List Nat)}(hl:SV lv l) {B:Nat}(hB:2<=B) {fe:List (V × V)}(hok:FarOk fe)(hlen:l.length<=4000000000000000000) (N:Nat) :
  ∀(m i:Nat) (fr:Fr) (Z:Sg) (acc:Option Nat),m+i=l.length->acc=(l.take i).foldl (bestStep (far fe)) none->fr.n=119->fr.get 70=some lv->fr.get 71=some (.int .i64 (l.length:Int))->fr.get 72=some (.int .i64 (i:Int))->fr.get 5=some (.ref 1 0)->fr.get 15=some (.ref B 0) ->
   Z[0]?=some (.map fe)->Z[1]?=some (.cells 150 [.mp 0] true)->Z[B]?=some (.cells 3 [.int .i64 (encB acc)] true) ->
   wpA E (N+m+21) (.loop (bk [1,1,1,1,0,1,2,2])) fr Z λx fr' σ'=>x=.exit 6/\fr'.n=119/\(∀t,t<17->fr'.get t=fr.get t)/\σ'[0]?=some (.map fe)/\σ'[1]?=some (.cells 150 [.mp 0] true)/\σ'[B]?=some (.cells 3 [.int .i64 (encB (l.foldl (bestStep (far fe)) none))] true):=by
 intro m
 induction m with
 |zero=>
  intro i fr Z acc hi ha hn g70 g71 g72 g5 g15 s0 s1 sB
  show wpA E ((N+20)+1) _ _ _ _
  rw[wpA_loop]
  refine best_round h196 h111 h44 h9 h3 h4 N fr hn hl g70 g71 g72 g5 g15 hok hlen s0 s1 sB (λ_ fr' k1 k2=>?_) (λnx hnx=>?_) (by omega)
  ·refine⟨rfl,k1,λt ht=>k2 t (by omega),s0,s1,?_⟩
   rw[sB,ha,List.take_of_length_le (by omega)]
  ·have:=(List.getElem?_eq_some_iff.1 hnx).1
   omega
 |succ m ih=>
  intro i fr Z acc hi ha hn g70 g71 g72 g5 g15 s0 s1 sB
  show wpA E ((N+m+1+20)+1) _ _ _ _
  rw[wpA_loop]
  refine best_round h196 h111 h44 h9 h3 h4 (N+m+1) fr hn hl g70 g71 g72 g5 g15 hok hlen s0 s1 sB (λh=>by omega) (λnx hnx σ' hσ fr' k1 k2 k3=>?_) (by omega)
  have hacc:bestStep (far fe) acc nx=(l.take (i+1)).foldl (bestStep (far fe)) none:=by
   rw[List.take_add_one,hnx,ha]
   simp
  have hBl:=(List.getElem?_eq_some_iff.1 sB).1
  obtain⟨t0,t1,tB⟩:σ'[0]?=some (.map fe)/\σ'[1]?=some (.cells 150 [.mp 0] true)/\σ'[B]?=some (.cells 3 [.int .i64 (encB (bestStep (far fe) acc nx))] true):=by
   rcases hσ with⟨rfl,h⟩ | rfl
   ·exact⟨s0,s1,by rw[h];exact sB⟩
   ·exact⟨by rw[List.getElem?_set_ne (by omega)];exact s0,by rw[List.getElem?_set_ne (by omega)];exact s1,by simp[hBl]⟩
  have:=ih (i+1) fr' σ' _ (by omega) hacc k1 (by rw[k3 70 (by omega)];exact g70) (by rw[k3 71 (by omega)];exact g71) k2 (by rw[k3 5 (by omega)];exact g5) (by rw[k3 15 (by omega)];exact g15) t0 t1 tB
  refine wpA_mono _ this ?_
  rintro x fr2 σ2 ⟨rfl,b1,b2,b3⟩
  exact⟨rfl,b1,λt ht=>(b2 t ht).trans (k3 t (by omega)),b3⟩
end
end
section
theorem Fr.fill_get:∀(vs:List V) (fr:Fr) (i:Nat),i+vs.length<=fr.n->(fr.fill i vs).n=fr.n/\∀t,(fr.fill i vs).get t=if i<=t/\t<i+vs.length then vs[t-i]? else fr.get t
 | [],fr,i,_=>⟨rfl,λt=>by rw[if_neg (by simp only[List.length_nil];omega)];rfl⟩
 |v::vs,fr,i,h=>by
  simp only[List.length_cons]at h
  obtain⟨h1,h2⟩:=Fr.fill_get vs (fr.put i v) (i+1) (by rw[Fr.put_n];omega)
  refine⟨by rw[Fr.fill,h1,Fr.put_n],λt=>?_⟩
  rw[Fr.fill,h2,Fr.get_put]
  simp only[List.length_cons]
  by_cases e:t=i
  ·subst e
   rw[if_neg (by omega),if_pos (by omega),if_pos (by omega),Nat.sub_self]
   rfl
  ·by_cases e2:i+1<=t/\t<i+1+vs.length
   ·rw[if_pos e2,if_pos (by omega),show t-i=(t-(i+1))+1 by omega]
    rfl
   ·rw[if_neg e2,if_neg (by omega),if_neg (by omega)]
theorem Fr.init_get {n:Nat}{vs:List V}(h:vs.length<=n):∃fr,Fr.init n vs=some fr/\fr.n=n/\∀t v,vs[t]?=some v->fr.get t=some v:=by
 obtain⟨h1,h2⟩:=Fr.fill_get vs ⟨n,.leaf⟩ 0 (by simpa using h)
 refine⟨_,by unfold Fr.init;rw[show Nat.ble vs.length n=true by rw[Nat.ble_eq];exact h],h1,λt v hv=>?_⟩
 have:=(List.getElem?_eq_some_iff.1 hv).1
 rw[h2,if_pos (by omega)]
 simpa using hv
section
variable {E:Env}
theorem clo_run (h196:E.ty 150=some { kd:=.map 9 3,size:=1,bytes:=8,zero:=.nilm })(h111:E.ty 91=some { kd:=.map 9 33,size:=1,bytes:=8,zero:=.nilm })(h44:E.ty 33=some { kd:=.sl 9,size:=1,bytes:=24,zero:=.nils })
  (h9:E.ty 9=some { kd:=.str,size:=1,bytes:=16,zero:=.str [] })(h3:E.ty 3=some { kd:=.int .i64,size:=1,bytes:=8,zero:=.int .i64 0 })(h4:E.ty 4=some { kd:=.bool,size:=1,bytes:=1,zero:=.bool false })
  {fe:List (V × V)}(hok:FarOk fe) (n:Nat) (nx:List Nat) {g1 g2 g3:Bool} (b:Nat) (Z:Sg) :
  enter E (ev E (n+10)) (fnOf Tryz.f118) [.str nx,.ipt g1 [.imp g2 fe],.ipt g3 [.int .i64 (b:Int)]] Z=some (.bool (decide (far fe nx=some b)),Z):=by
 obtain⟨fr,hf,hn,hg⟩:=Fr.init_get (n:=(fnOf Tryz.f118).ntmps) (vs:=[.str nx,.ipt g1 [.imp g2 fe],.ipt g3 [.int .i64 (b:Int)]]) (show 3<=19 by decide)
 have g0:=hg 0 _ rfl
 have g1':=hg 1 _ rfl
 have g2':=hg 2 _ rfl
 have hn:fr.n=19:=hn
 have fnx:=far_find (x:=nx) hok
 unfold enter
 rw[hf]
 simp only[fnOf,Tryz.f118,Option.getD_some]
 cases hd:far fe nx with
 |none=>
  rw[hd]at fnx
  simp only[ev_skip,ev_exit,ev_ret,ev_seq,ev_cond,ev_block,ev_reg,evOps,wants,yielded,evalO,evalOs,ofValue,ofValue1,if_true,true_and,putS,stepO,opW,comp,Fz.apps,Fz.lits,plainOp,oExtract,oEntry,oMapUpdate,oLookup,oLoad,oStore,oBinOp,oUnOp,oPick,oIndexAddr,oBuiltin,oAlloc,oMakeMap,oRange,evalX,builtin,Option.map_some,Option.bind_some,Option.bind_none,Option.map_none,Fr.get_put,Fr.put_n,hn,List.getElem?_cons_zero,List.getElem?_cons_succ,List.getElem?_nil,List.getElem?_toArray,List.getElem?_append_left,Nat.reduceEqDiff,Nat.reduceLT,Nat.reduceAdd,and_true,and_false,if_false,reduceCtorEq,h196,h111,h44,h9,h3,h4,loadAt,storeAt,isAgg,lookup,keyOk,entriesOf,eqKey_str h9,bin,arith,unop,isConst,mapUpdate,okMapVal,V.okCell,Bool.not_true,Bool.not_false,Bool.or_self,Bool.or_false,Bool.false_or,Bool.or_true,Bool.true_or,Bool.false_eq_true,Bool.true_and,Bool.and_true,Bool.and_self,Option.isSome_some,Option.isSome_none,BEq.rfl,beq_self_eq_true,decide_true,Option.some.injEq,Nat.beq_refl,List.length_cons,List.length_nil,V.cells,setCells,List.take_zero,List.drop_zero,List.nil_append,List.drop_succ_cons,List.append_nil,List.set_cons_zero,List.set_cons_succ,Nat.zero_add,Nat.add_zero,List.all_cons,List.all_nil,Option.getD_some,Option.getD_none,Nat.le_refl,Int.natCast_nonneg,List.drop_nil,List.head?_cons,eqI_eq,ltI_eq,leI_eq,beq_iff_eq,g0,g1',g2',fnx,results]
  simp
 |some d=>
  rw[hd]at fnx
  have:decide ((d:Int)=(b:Int))=decide (d=b):=by
   by_cases h:d=b
   ·rw[decide_eq_true h,decide_eq_true (by omega)]
   ·rw[decide_eq_false h,decide_eq_false (by omega)]
  simp only[ev_skip,ev_exit,ev_ret,ev_seq,ev_cond,ev_block,ev_reg,evOps,wants,yielded,evalO,evalOs,ofValue,ofValue1,if_true,true_and,putS,stepO,opW,comp,Fz.apps,Fz.lits,plainOp,oExtract,oEntry,oMapUpdate,oLookup,oLoad,oStore,oBinOp,oUnOp,oPick,oIndexAddr,oBuiltin,oAlloc,oMakeMap,oRange,evalX,builtin,Option.map_some,Option.bind_some,Option.bind_none,Option.map_none,Fr.get_put,Fr.put_n,hn,List.getElem?_cons_zero,List.getElem?_cons_succ,List.getElem?_nil,List.getElem?_toArray,List.getElem?_append_left,Nat.reduceEqDiff,Nat.reduceLT,Nat.reduceAdd,and_true,and_false,if_false,reduceCtorEq,h196,h111,h44,h9,h3,h4,loadAt,storeAt,isAgg,lookup,keyOk,entriesOf,eqKey_str h9,bin,arith,unop,isConst,mapUpdate,okMapVal,V.okCell,Bool.not_true,Bool.not_false,Bool.or_self,Bool.or_false,Bool.false_or,Bool.or_true,Bool.true_or,Bool.false_eq_true,Bool.true_and,Bool.and_true,Bool.and_self,Option.isSome_some,Option.isSome_none,BEq.rfl,beq_self_eq_true,decide_true,Option.some.injEq,Nat.beq_refl,List.length_cons,List.length_nil,V.cells,setCells,List.take_zero,List.drop_zero,List.nil_append,List.drop_succ_cons,List.append_nil,List.set_cons_zero,List.set_cons_succ,Nat.zero_add,Nat.add_zero,List.all_cons,List.all_nil,Option.getD_some,Option.getD_none,Nat.le_refl,Int.natCast_nonneg,List.drop_nil,List.head?_cons,eqI_eq,ltI_eq,leI_eq,beq_iff_eq,g0,g1',g2',fnx,results,this]
noncomputable def ix (p:List Nat):Code:=sel p (fnOf Tryz.f51).code
theorem idx_round (h196:E.ty 150=some { kd:=.map 9 3,size:=1,bytes:=8,zero:=.nilm })(h111:E.ty 91=some { kd:=.map 9 33,size:=1,bytes:=8,zero:=.nilm })(h44:E.ty 33=some { kd:=.sl 9,size:=1,bytes:=24,zero:=.nils })
  (h9:E.ty 9=some { kd:=.str,size:=1,bytes:=16,zero:=.str [] })(h3:E.ty 3=some { kd:=.int .i64,size:=1,bytes:=8,zero:=.int .i64 0 })(h4:E.ty 4=some { kd:=.bool,size:=1,bytes:=1,zero:=.bool false })
  {pr:List Nat->Bool}{k c:Nat}{caps:List V}{Z:Sg}(hcl:∀n nx,callF E (ev E (n+c)) k (.str nx::caps) Z=some (.bool (pr nx),Z)) {g full:Bool}{l:List (List Nat)}(hlen:l.length<=4000000000000000000) {i:Nat}{a:List Nat}(ha:l[i]?=some a) (N:Nat) (fr:Fr)
  (hn:fr.n=19) (g0:fr.get 0=some (.isl g (l.map λs=>[V.str s]) full)) (g1:fr.get 1=some (.fn k [] caps)) (g7:fr.get 7=some (.int .i64 (l.length:Int))) (g8:fr.get 8=some (.int .i64 (i:Int))) {Q:Option (X × Fr × Sg)->Prop}
  (q1:pr a=true->∀fr':Fr,fr'.get 4=some (.int .i64 (i:Int))->Q (some (.ret,fr',Z)))
  (q2:pr a=false->∀fr':Fr,fr'.n=19->fr'.get 8=some (.int .i64 ((i+1:Nat):Int))->(∀t,t=0\/t=1\/t=7->fr'.get t=fr.get t)->Q (some (.normal,fr',Z))):Q (ev E (N+c+20) (ix [1,0,1,2,2]) fr Z):=by
 have hil:=(List.getElem?_eq_some_iff.1 ha).1
 have hlt:decide ((i:Int)<(l.length:Int))=true:=decide_eq_true (by omega)
 have hrow:(l.map λs=>[V.str s])[i]?=some [V.str a]:=by simp[ha]
 have hidx:indexAddr E 33 (.isl g (l.map λs=>[V.str s]) full) (.int .i64 (i:Int))=some (.ipt g [.str a]):=by
  simp only[indexAddr,h44,h9]
  rw[if_neg (by omega),Int.toNat_natCast,hrow]
  simp
 have hadd:wr .i64 (addI (i:Int) 1)=((i+1:Nat):Int):=add1 (by omega)
 simp only[ix,sel,fnOf,Tryz.f51,Option.getD_some]
 cases hp:pr a with
 |true=>
  have hc:∀d,callF E (ev E (N+c+d)) k (.str a::caps) Z=some (.bool true,Z):=λd=>by
   rw[show N+c+d=(N+d)+c by omega,hcl,hp]
  simp only[ev_skip,ev_exit,ev_ret,ev_seq,ev_cond,ev_block,ev_reg,evOps,wants,yielded,evalO,evalOs,ofValue,ofValue1,if_true,true_and,putS,stepO,opW,comp,Fz.apps,Fz.lits,plainOp,oExtract,oEntry,oMapUpdate,oLookup,oLoad,oStore,oBinOp,oUnOp,oPick,oIndexAddr,oBuiltin,oAlloc,oMakeMap,oRange,evalX,builtin,Option.map_some,Option.bind_some,Option.bind_none,Option.map_none,Fr.get_put,Fr.put_n,hn,List.getElem?_cons_zero,List.getElem?_cons_succ,List.getElem?_nil,List.getElem?_toArray,List.getElem?_append_left,Nat.reduceEqDiff,Nat.reduceLT,Nat.reduceAdd,and_true,and_false,if_false,reduceCtorEq,h196,h111,h44,h9,h3,h4,loadAt,storeAt,isAgg,lookup,keyOk,entriesOf,eqKey_str h9,bin,arith,unop,isConst,mapUpdate,okMapVal,V.okCell,Bool.not_true,Bool.not_false,Bool.or_self,Bool.or_false,Bool.false_or,Bool.or_true,Bool.true_or,Bool.false_eq_true,Bool.true_and,Bool.and_true,Bool.and_self,Option.isSome_some,Option.isSome_none,BEq.rfl,beq_self_eq_true,decide_true,Option.some.injEq,Nat.beq_refl,List.length_cons,List.length_nil,V.cells,setCells,List.take_zero,List.drop_zero,List.nil_append,List.drop_succ_cons,List.append_nil,List.set_cons_zero,List.set_cons_succ,Nat.zero_add,Nat.add_zero,List.all_cons,List.all_nil,Option.getD_some,Option.getD_none,Nat.le_refl,Int.natCast_nonneg,List.drop_nil,List.head?_cons,eqI_eq,ltI_eq,leI_eq,beq_iff_eq,List.cons_append,g0,g1,g7,g8,hlt,hidx,hc]
  refine q1 hp _ ?_
  simp only[Fr.get_put,Fr.put_n,hn,Nat.reduceEqDiff,Nat.reduceLT,and_true,if_true,if_false,false_and]
 |false=>
  have hc:∀d,callF E (ev E (N+c+d)) k (.str a::caps) Z=some (.bool false,Z):=λd=>by
   rw[show N+c+d=(N+d)+c by omega,hcl,hp]
  simp only[ev_skip,ev_exit,ev_ret,ev_seq,ev_cond,ev_block,ev_reg,evOps,wants,yielded,evalO,evalOs,ofValue,ofValue1,if_true,true_and,putS,stepO,opW,comp,Fz.apps,Fz.lits,plainOp,oExtract,oEntry,oMapUpdate,oLookup,oLoad,oStore,oBinOp,oUnOp,oPick,oIndexAddr,oBuiltin,oAlloc,oMakeMap,oRange,evalX,builtin,Option.map_some,Option.bind_some,Option.bind_none,Option.map_none,Fr.get_put,Fr.put_n,hn,List.getElem?_cons_zero,List.getElem?_cons_succ,List.getElem?_nil,List.getElem?_toArray,List.getElem?_append_left,Nat.reduceEqDiff,Nat.reduceLT,Nat.reduceAdd,and_true,and_false,if_false,reduceCtorEq,h196,h111,h44,h9,h3,h4,loadAt,storeAt,isAgg,lookup,keyOk,entriesOf,eqKey_str h9,bin,arith,unop,isConst,mapUpdate,okMapVal,V.okCell,Bool.not_true,Bool.not_false,Bool.or_self,Bool.or_false,Bool.false_or,Bool.or_true,Bool.true_or,Bool.false_eq_true,Bool.true_and,Bool.and_true,Bool.and_self,Option.isSome_some,Option.isSome_none,BEq.rfl,beq_self_eq_true,decide_true,Option.some.injEq,Nat.beq_refl,List.length_cons,List.length_nil,V.cells,setCells,List.take_zero,List.drop_zero,List.nil_append,List.drop_succ_cons,List.append_nil,List.set_cons_zero,List.set_cons_succ,Nat.zero_add,Nat.add_zero,List.all_cons,List.all_nil,Option.getD_some,Option.getD_none,Nat.le_refl,Int.natCast_nonneg,List.drop_nil,List.head?_cons,eqI_eq,ltI_eq,leI_eq,beq_iff_eq,List.cons_append,g0,g1,g7,g8,hlt,hidx,hc,hadd]
  refine q2 hp _ ?_ ?_ ?_
  ·simp only[Fr.put_n,hn]
  ·simp only[Fr.get_put,Fr.put_n,hn,Nat.reduceEqDiff,Nat.reduceLT,and_true,if_true,if_false,false_and]
  ·intro t ht
   simp only[Fr.get_put]
   repeat (rw[if_neg (by omega)])
theorem idx_loop (h196:E.ty 150=some { kd:=.map 9 3,size:=1,bytes:=8,zero:=.nilm })(h111:E.ty 91=some { kd:=.map 9 33,size:=1,bytes:=8,zero:=.nilm })(h44:E.ty 33=some { kd:=.sl 9,size:=1,bytes:=24,zero:=.nils })
  (h9:E.ty 9=some { kd:=.str,size:=1,bytes:=16,zero:=.str [] })(h3:E.ty 3=some { kd:=.int .i64,size:=1,bytes:=8,zero:=.int .i64 0 })(h4:E.ty 4=some { kd:=.bool,size:=1,bytes:=1,zero:=.bool false })
  {pr:List Nat->Bool}{k c:Nat}{caps:List V}{Z:Sg}(hcl:∀n nx,callF E (ev E (n+c)) k (.str nx::caps) Z=some (.bool (pr nx),Z)) {g full:Bool}{l:List (List Nat)}(hlen:l.length<=4000000000000000000) {idx:Nat}{a:List Nat}(ha:l[idx]?=some a)(hpa:pr a=true)(hno:∀j x,j<idx->l[j]?=some x->pr x=false) (N:Nat) :
  ∀(m i:Nat) (fr:Fr),m+i=idx->fr.n=19->fr.get 0=some (.isl g (l.map λs=>[V.str s]) full)->fr.get 1=some (.fn k [] caps)->fr.get 7=some (.int .i64 (l.length:Int))->fr.get 8=some (.int .i64 (i:Int)) ->
   ∃fr',ev E (N+m+c+21) (.loop (ix [1,0,1,2,2])) fr Z=some (.ret,fr',Z)/\fr'.get 4=some (.int .i64 (idx:Int)):=by
 have hil:=(List.getElem?_eq_some_iff.1 ha).1
 intro m
 induction m with
 |zero=>
  intro i fr hi hn g0 g1 g7 g8
  have hii:i=idx:=by omega
  subst hii
  show ∃fr',ev E ((N+c+20)+1) _ _ _=_/\_
  rw[ev_loop']
  refine idx_round (Q:=λr=>∃fr',afterLoop E (N+c+20) (ix [1,0,1,2,2]) r=some (.ret,fr',Z)/\fr'.get 4=some (.int .i64 (i:Int))) h196 h111 h44 h9 h3 h4 hcl hlen ha N fr hn g0 g1 g7 g8 (λ_ fr' k1=>⟨fr',rfl,k1⟩) (λh=>?_)
  rw[hpa]at h;cases h
 |succ m ih=>
  intro i fr hi hn g0 g1 g7 g8
  obtain⟨x,hx⟩:∃x,l[i]?=some x:=⟨_,List.getElem?_eq_getElem (by omega)⟩
  show ∃fr',ev E ((N+(m+1)+c+20)+1) _ _ _=_/\_
  rw[ev_loop']
  refine idx_round (Q:=λr=>∃fr',afterLoop E (N+(m+1)+c+20) (ix [1,0,1,2,2]) r=some (.ret,fr',Z)/\fr'.get 4=some (.int .i64 (idx:Int))) h196 h111 h44 h9 h3 h4 hcl hlen hx (N+(m+1)) fr hn g0 g1 g7 g8 (λh=>?_) (λ_ fr' k1 k2 k3=>?_)
  ·rw[hno i x (by omega) hx]at h;cases h
  ·obtain⟨fr2,h1,h2⟩:=ih (i+1) fr' (by omega) k1 (by rw[k3 0 (by omega)];exact g0) (by rw[k3 1 (by omega)];exact g1) (by rw[k3 7 (by omega)];exact g7) k2
   refine⟨fr2,?_,h2⟩
   simp only[afterLoop]
   rw[show N+(m+1)+c+20=N+m+c+21 by omega]
   exact h1
theorem idx_enter (h196:E.ty 150=some { kd:=.map 9 3,size:=1,bytes:=8,zero:=.nilm })(h111:E.ty 91=some { kd:=.map 9 33,size:=1,bytes:=8,zero:=.nilm })(h44:E.ty 33=some { kd:=.sl 9,size:=1,bytes:=24,zero:=.nils })
  (h9:E.ty 9=some { kd:=.str,size:=1,bytes:=16,zero:=.str [] })(h3:E.ty 3=some { kd:=.int .i64,size:=1,bytes:=8,zero:=.int .i64 0 })(h4:E.ty 4=some { kd:=.bool,size:=1,bytes:=1,zero:=.bool false })
  {pr:List Nat->Bool}{k c:Nat}{caps:List V}{Z:Sg}(hcl:∀n nx,callF E (ev E (n+c)) k (.str nx::caps) Z=some (.bool (pr nx),Z)) {g full:Bool}{l:List (List Nat)}(hlen:l.length<=4000000000000000000) {idx:Nat}{a:List Nat}(ha:l[idx]?=some a)(hpa:pr a=true)(hno:∀j x,j<idx->l[j]?=some x->pr x=false) (N:Nat) :
  enter E (ev E (N+idx+c+26)) (fnOf Tryz.f51) [.isl g (l.map λs=>[V.str s]) full,.fn k [] caps] Z=some (.int .i64 (idx:Int),Z):=by
 obtain⟨fr,hf,hn,hg⟩:=Fr.init_get (n:=(fnOf Tryz.f51).ntmps) (vs:=[.isl g (l.map λs=>[V.str s]) full,.fn k [] caps]) (show 2<=19 by decide)
 have g0:=hg 0 _ rfl
 have g1:=hg 1 _ rfl
 have hn:fr.n=19:=hn
 unfold enter
 rw[hf]
 have e1:(fnOf Tryz.f51).code=.seq (ix [0]) (.seq (.seq (ix [1,0,0]) (.block 0 (.loop (ix [1,0,1,2,2])))) (ix [1,1])):=rfl
 rw[e1]
 generalize hL:Code.loop (ix [1,0,1,2,2])=L
 generalize hR:ix [1,1]=R
 simp only[ix,sel,fnOf,Tryz.f51,Option.getD_some]
 simp only[ev_skip,ev_exit,ev_ret,ev_seq,ev_cond,ev_block,ev_reg,evOps,wants,yielded,evalO,evalOs,ofValue,ofValue1,if_true,true_and,putS,stepO,opW,comp,Fz.apps,Fz.lits,plainOp,oExtract,oEntry,oMapUpdate,oLookup,oLoad,oStore,oBinOp,oUnOp,oPick,oIndexAddr,oBuiltin,oAlloc,oMakeMap,oRange,evalX,builtin,Option.map_some,Option.bind_some,Option.bind_none,Option.map_none,Fr.get_put,Fr.put_n,hn,List.getElem?_cons_zero,List.getElem?_cons_succ,List.getElem?_nil,List.getElem?_toArray,List.getElem?_append_left,Nat.reduceEqDiff,Nat.reduceLT,Nat.reduceAdd,and_true,and_false,if_false,reduceCtorEq,h196,h111,h44,h9,h3,h4,loadAt,storeAt,isAgg,lookup,keyOk,entriesOf,eqKey_str h9,bin,arith,unop,isConst,mapUpdate,okMapVal,V.okCell,Bool.not_true,Bool.not_false,Bool.or_self,Bool.or_false,Bool.false_or,Bool.or_true,Bool.true_or,Bool.false_eq_true,Bool.true_and,Bool.and_true,Bool.and_self,Option.isSome_some,Option.isSome_none,BEq.rfl,beq_self_eq_true,decide_true,Option.some.injEq,Nat.beq_refl,List.length_cons,List.length_nil,V.cells,setCells,List.take_zero,List.drop_zero,List.nil_append,List.drop_succ_cons,List.append_nil,List.set_cons_zero,List.set_cons_succ,Nat.zero_add,Nat.add_zero,List.all_cons,List.all_nil,Option.getD_some,Option.getD_none,Nat.le_refl,Int.natCast_nonneg,List.drop_nil,List.head?_cons,eqI_eq,ltI_eq,leI_eq,beq_iff_eq,List.cons_append,g0,g1,lenOf,List.length_map]
 rw[<- hL]
 have key:∀fr:Fr,fr.n=19->fr.get 0=some (.isl g (l.map λs=>[V.str s]) full)->fr.get 1=some (.fn k [] caps)->fr.get 7=some (.int .i64 (l.length:Int))->fr.get 8=some (.int .i64 0) ->
   ∃fr',ev E (N+idx+c+22) (.loop (ix [1,0,1,2,2])) fr Z=some (.ret,fr',Z)/\fr'.get 4=some (.int .i64 (idx:Int)):=by
  intro fr hn g0 g1 g7 g8
  have:=idx_loop h196 h111 h44 h9 h3 h4 hcl hlen ha hpa hno (N+1) idx 0 fr (by omega) hn g0 g1 g7 g8
  rwa [show N+1+idx+c+21=N+idx+c+22 by omega]at this
 generalize hfx:Fr.put (Fr.put (Fr.put (Fr.put fr 4 _) 6 _) 7 _) 8 _=fx
 obtain⟨fr',k1,k2⟩:=key fx (by rw[<- hfx];simp only[Fr.put_n,hn]) (by rw[<- hfx];simp only[Fr.get_put,Fr.put_n,hn,Nat.reduceEqDiff,Nat.reduceLT,and_true,if_true,if_false,false_and,g0]) (by rw[<- hfx];simp only[Fr.get_put,Fr.put_n,hn,Nat.reduceEqDiff,Nat.reduceLT,and_true,if_true,if_false,false_and,g1]) (by rw[<- hfx];simp only[Fr.get_put,Fr.put_n,hn,Nat.reduceEqDiff,Nat.reduceLT,and_true,if_true,if_false,false_and]) (by rw[<- hfx];simp only[Fr.get_put,Fr.put_n,hn,Nat.reduceEqDiff,Nat.reduceLT,and_true,if_true,if_false,false_and])
 rw[k1]
 simp only[results,k2]
end
end
section
section
variable {E:Env}
theorem mapO_id {α:Type}{F:α->Option α}:∀{l:List α},(∀x∈l,F x=some x)->mapO F l=some l
 | [],_=>rfl
 |x::l,h=>by
  simp only[mapO,h x (List.mem_cons_self ..),mapO_id λy hy=>h y (List.mem_cons_of_mem _ hy)]
theorem snap_map {Z:Sg}{ty:Nat->Option Ty}{n b:Nat}{fe:List (V × V)}(hb:Z[b]?=some (.map fe))(h:FarOk fe):snapC Z ty true (n+2) (.mp b)=some (.imp true fe):=by
 rw[snapC]
 simp only[hb]
 rw[mapO_id]
 intro e he
 obtain⟨k,m,rfl⟩:=h e he
 simp[snapC,tagOk,V.cells,plainCell]
theorem snap_box {Z:Sg}{ty:Nat->Option Ty}{b t:Nat}{c c':V}(hb:Z[b]?=some (.cells t [c] true))(hc:snapC Z ty true 11 c=some c')(ht:tagOk true c'=true):snapV.one Z ty true (.ref b 0)=some (.ipt true [c']):=by
 unfold snapV.one
 rw[show snapFuel=11+1 from rfl,snapC]
 simp only[hb,List.drop_zero,mapO,hc,ht,if_true]
 rfl
theorem idx_call (h196:E.ty 150=some { kd:=.map 9 3,size:=1,bytes:=8,zero:=.nilm })(h111:E.ty 91=some { kd:=.map 9 33,size:=1,bytes:=8,zero:=.nilm })(h44:E.ty 33=some { kd:=.sl 9,size:=1,bytes:=24,zero:=.nils })
  (h9:E.ty 9=some { kd:=.str,size:=1,bytes:=16,zero:=.str [] })(h3:E.ty 3=some { kd:=.int .i64,size:=1,bytes:=8,zero:=.int .i64 0 })(h4:E.ty 4=some { kd:=.bool,size:=1,bytes:=1,zero:=.bool false }) (f1:E.hspec 51=none) (f2:E.spec 51=none) (f3:E.fn 51=some (fnOf Tryz.f51)) (f4:E.mode 51=.iso) (f5:E.hspec 118=none) (f6:E.spec 118=none) (f7:E.fn 118=some (fnOf Tryz.f118)) (f8:E.mode 118=.shared)
  {fe:List (V × V)}(hok:FarOk fe) {Z:Sg}{B:Nat} (s0:Z[0]?=some (.map fe)) (s1:Z[1]?=some (.cells 150 [.mp 0] true)) {b:Nat} (sB:Z[B]?=some (.cells 3 [.int .i64 (b:Int)] true)) {lv:V}{l:List (List Nat)}(hl:SV lv l)(hlen:l.length<=4000000000000000000)
  {idx:Nat}{a:List Nat}(ha:l[idx]?=some a)(hpa:far fe a=some b)(hno:∀j x,j<idx->l[j]?=some x->far fe x≠some b) (N:Nat) :
  callF E (ev E (N+l.length+40)) 51 [lv,.fn 118 [] [.ref 1 0,.ref B 0]] Z=some (.int .i64 (idx:Int),Z):=by
 obtain⟨g,full,rfl⟩:∃g full,lv=.isl g (l.map λs=>[V.str s]) full:=by
  rcases hl with⟨_,rfl⟩ | h
  ·simp at ha
  ·exact h
 have hil:=(List.getElem?_eq_some_iff.1 ha).1
 have hsn:mapO (snapV Z E.ty true) [.isl g (l.map λs=>[V.str s]) full,.fn 118 [] [.ref 1 0,.ref B 0]]=some [.isl g (l.map λs=>[V.str s]) full,.fn 118 [] [.ipt true [.imp true fe],.ipt true [.int .i64 (b:Int)]]]:=by
  have k1:=snap_box (ty:=E.ty) s1 (snap_map (n:=9) s0 hok) rfl
  have k2:=snap_box (ty:=E.ty) sB (c':=.int .i64 (b:Int)) (by simp only[snapC]) rfl
  have k3:snapV Z E.ty true (.isl g (l.map λs=>[V.str s]) full)=some (.isl g (l.map λs=>[V.str s]) full):=by
   simp only[snapV,snapV.one,snapFuel,snapC,tagOk,Bool.true_or,if_true]
  have k4:snapV Z E.ty true (.fn 118 [] [.ref 1 0,.ref B 0])=some (.fn 118 [] [.ipt true [.imp true fe],.ipt true [.int .i64 (b:Int)]]):=by
   simp only[snapV,mapO,k1,k2]
  simp only[mapO,k3,k4]
 have hcl:∀n nx,callF E (ev E (n+11)) 118 (.str nx::[.ipt true [.imp true fe],.ipt true [.int .i64 (b:Int)]]) []=some (.bool (decide (far fe nx=some b)),[]):=λn nx=>by
  have:=clo_run h196 h111 h44 h9 h3 h4 hok (n+1) nx (g1:=true) (g2:=true) (g3:=true) b []
  unfold callF
  simp only[f5,f6,f7,f8]
  rw[show n+11=n+1+10 by omega,this]
 have hen:=idx_enter h196 h111 h44 h9 h3 h4 (Z:=[]) hcl (g:=g) (full:=full) hlen ha (by simp[hpa]) (λj x hj hx=>by simp[hno j x hj hx]) (N+l.length-idx+3)
 rw[show N+l.length-idx+3+idx+11+26=N+l.length+40 by omega]at hen
 unfold callF
 simp only[f1,f2,f3,f4,hsn,hen,snapT,snapV,snapV.one,snapFuel,snapC,tagOk,if_true]
theorem lit_one (h196:E.ty 150=some { kd:=.map 9 3,size:=1,bytes:=8,zero:=.nilm })(h111:E.ty 91=some { kd:=.map 9 33,size:=1,bytes:=8,zero:=.nilm })(h44:E.ty 33=some { kd:=.sl 9,size:=1,bytes:=24,zero:=.nils })
  (h9:E.ty 9=some { kd:=.str,size:=1,bytes:=16,zero:=.str [] })(h3:E.ty 3=some { kd:=.int .i64,size:=1,bytes:=8,zero:=.int .i64 0 })(h4:E.ty 4=some { kd:=.bool,size:=1,bytes:=1,zero:=.bool false })
  {fr:Fr}{Z:Sg}{x:Nat}{s:List Nat}(h:evalO fr (.tmp x)=some (.str s)):oBuildSlice E fr Z 33 1 #[(0,.tmp x)]=some (.sl Z.length 0 1 none,Z++[.cells 9 [.str s] true]):=by
 simp[oBuildSlice,h44,h9,evalPs,h,fill,reps,V.cells,V.okCell,setCells]
theorem append_one (h196:E.ty 150=some { kd:=.map 9 3,size:=1,bytes:=8,zero:=.nilm })(h111:E.ty 91=some { kd:=.map 9 33,size:=1,bytes:=8,zero:=.nilm })(h44:E.ty 33=some { kd:=.sl 9,size:=1,bytes:=24,zero:=.nils })
  (h9:E.ty 9=some { kd:=.str,size:=1,bytes:=16,zero:=.str [] })(h3:E.ty 3=some { kd:=.int .i64,size:=1,bytes:=8,zero:=.int .i64 0 })(h4:E.ty 4=some { kd:=.bool,size:=1,bytes:=1,zero:=.bool false })
  {Z:Sg}{C:Nat}{cs:List V}{ex:Bool}{v:V}(hC:Z[C]?=some (.cells 9 cs ex))(hlen:cs.length<=2000000) :
  append E (Z++[.cells 9 [v] true]) #[33,33] (.sl C 0 cs.length none) (.sl Z.length 0 1 none)=some (.sl (Z.length+1) 0 (cs.length+1) none,(if ex then Z else Z.set C .dead)++[.cells 9 [v] true]++[.cells 9 (cs++[v]) false]):=by
 have hCl:=(List.getElem?_eq_some_iff.1 hC).1
 have hC':(Z++[.cells 9 [v] true])[C]?=some (.cells 9 cs ex):=by rw[List.getElem?_append_left hCl];exact hC
 have hD:(Z++[.cells 9 [v] true])[Z.length]?=some (.cells 9 [v] true):=by simp
 have hr:roomy (cs.length+1) 16=true:=by
  unfold roomy
  rw[decide_eq_true_eq]
  omega
 have hp:plainArg E #[33,33]=true:=by
  simp[plainArg,h44,isIntK]
 have he:elems (Z++[.cells 9 [v] true]) 1 (.sl Z.length 0 1 none)=some ([v],1):=by
  simp only[elems,hD]
  simp
 unfold append
 simp only[List.getElem?_toArray,List.getElem?_cons_zero,h44,h9,hp,he,hC',hr]
 cases ex with
 |true=>simp;intro h;omega
 |false=>simp[List.set_append_left _ _ hCl];intro h;omega
theorem sub1 {b:Nat}(h0:0<b)(h:b<=1000000):wr .i64 (subI (b:Int) 1)=((b-1:Nat):Int):=by
 have e:(2:Int) ^ IntKind.i64.bits=18446744073709551616:=by decide
 have e2:(2:Int) ^ (IntKind.i64.bits-1)=9223372036854775808:=by decide
 have e3:IntKind.i64.signed=true:=rfl
 rw[subI_eq,wr_eq]
 unfold IntKind.wrap
 simp only[e,e2,e3,Bool.true_and,decide_eq_true_eq]
 split <;> omega
theorem path_round (h196:E.ty 150=some { kd:=.map 9 3,size:=1,bytes:=8,zero:=.nilm })(h111:E.ty 91=some { kd:=.map 9 33,size:=1,bytes:=8,zero:=.nilm })(h44:E.ty 33=some { kd:=.sl 9,size:=1,bytes:=24,zero:=.nils })
  (h9:E.ty 9=some { kd:=.str,size:=1,bytes:=16,zero:=.str [] })(h3:E.ty 3=some { kd:=.int .i64,size:=1,bytes:=8,zero:=.int .i64 0 })(h4:E.ty 4=some { kd:=.bool,size:=1,bytes:=1,zero:=.bool false }) (f1:E.hspec 51=none) (f2:E.spec 51=none) (f3:E.fn 51=some (fnOf Tryz.f51)) (f4:E.mode 51=.iso) (f5:E.hspec 118=none) (f6:E.spec 118=none) (f7:E.fn 118=some (fnOf Tryz.f118)) (f8:E.mode 118=.shared)
  {es:List (V × V)}{g:Bool}(hbk:BackOk es) {fe:List (V × V)}(hok:FarOk fe) {fr:Fr}(hn:fr.n=119) {B C:Nat}{at_:List Nat}{cs:List V}{ex:Bool} (g0:fr.get 0=some (.imp g es)) (g5:fr.get 5=some (.ref 1 0)) (g15:fr.get 15=some (.ref B 0)) (g20:fr.get 20=some (.sl C 0 cs.length none)) (g21:fr.get 21=some (.str at_))
  {Z:Sg}{b:Nat} (s0:Z[0]?=some (.map fe)) (s1:Z[1]?=some (.cells 150 [.mp 0] true)) (sB:Z[B]?=some (.cells 3 [.int .i64 (b:Int)] true)) (sC:Z[C]?=some (.cells 9 cs ex))(hBC:B≠C)(hB:2<=B)(hC:2<=C)(hlen:cs.length<=2000000)(hb:b<=1000000) {K:Nat}(hK:K<=4000000000000000000)(hl:(nextOf es at_).length<=K) (N:Nat) {Q:X->Fr->Sg->Prop}
  (q0:b=0->∀fr':Fr,fr'.n=119->(∀t,t<99->fr'.get t=fr.get t)->Q (.exit 8) fr' Z)
  (q1:0<b->∃(idx:Nat) (a:List Nat),(nextOf es at_)[idx]?=some a/\far fe a=some b/\(∀j x,j<idx->(nextOf es at_)[j]?=some x->far fe x≠some b) /\
   ∀(fr':Fr) (σ':Sg) (C':Nat),fr'.n=119->(∀t,t<20->fr'.get t=fr.get t)->fr'.get 20=some (.sl C' 0 (cs++[V.str a]).length none)->fr'.get 21=some (.str a)->σ'[0]?=some (.map fe)->σ'[1]?=some (.cells 150 [.mp 0] true)->σ'[B]?=some (.cells 3 [.int .i64 ((b-1:Nat):Int)] true)->σ'[C']?=some (.cells 9 (cs++[.str a]) false)->B≠C'->2<=C'->Q .normal fr' σ') :
  wpA E (N+K+70) (bk [1,1,1,1,1,1,1,0,1,2,2]) fr Z Q:=by
 by_cases hb0:b=0
 ·have hcmp:decide ((0:Int)<(b:Int))=false:=decide_eq_false (by omega)
  simp only[bk,sel,fnOf,Tryz.f70,Option.getD_some]
  simp only[wpA_skip,wpA_exit,wpA_ret,wpA_seq,wpA_cond,wpA_block,wpA_reg,wpOpsA,isNext,wants,yielded,evalO,evalOs,ofValue,ofValue1,if_true,true_and,putS,stepO,opW,comp,Fz.apps,Fz.lits,plainOp,oExtract,oEntry,oMapUpdate,oLookup,oLoad,oStore,oBinOp,oUnOp,oPick,oIndexAddr,oBuiltin,oAlloc,oMakeMap,oRange,evalX,builtin,Option.map_some,Option.bind_some,Option.bind_none,Option.map_none,Fr.get_put,Fr.put_n,hn,List.getElem?_cons_zero,List.getElem?_cons_succ,List.getElem?_nil,List.getElem?_toArray,List.getElem?_append_left,Nat.reduceEqDiff,Nat.reduceLT,Nat.reduceAdd,and_true,and_false,if_false,reduceCtorEq,h196,h111,h44,h9,h3,h4,loadAt,storeAt,isAgg,lookup,keyOk,entriesOf,eqKey_str h9,bin,arith,unop,isConst,mapUpdate,okMapVal,V.okCell,Bool.not_true,Bool.not_false,Bool.or_self,Bool.or_false,Bool.false_or,Bool.or_true,Bool.true_or,Bool.false_eq_true,Bool.true_and,Bool.and_true,Bool.and_self,Option.isSome_some,Option.isSome_none,BEq.rfl,beq_self_eq_true,decide_true,Option.some.injEq,Nat.beq_refl,List.length_cons,List.length_nil,V.cells,setCells,List.take_zero,List.drop_zero,List.nil_append,List.drop_succ_cons,List.append_nil,List.set_cons_zero,List.set_cons_succ,Nat.zero_add,Nat.add_zero,List.all_cons,List.all_nil,Option.getD_some,Option.getD_none,Nat.le_refl,Int.natCast_nonneg,List.drop_nil,List.head?_cons,eqI_eq,ltI_eq,leI_eq,beq_iff_eq,g15,sB,hcmp]
  refine q0 hb0 _ (by simp only[Fr.put_n,hn]) λt ht=>?_
  simp only[Fr.get_put]
  repeat (rw[if_neg (by omega)])
 ·obtain⟨idx,a,ha,hpa,hno,q1⟩:=q1 (by omega)
  have hcmp:decide ((0:Int)<(b:Int))=true:=decide_eq_true (by omega)
  obtain⟨r,hr1,hr2⟩:=find_all (x:=at_) hbk
  have hsv:=valOf_sv (x:=at_) hbk
  have hcall:∀d,callF E (ev E (N+K+(d+40))) 51 [valOf es at_,.fn 118 [] [.ref 1 0,.ref B 0]] Z=some (.int .i64 (idx:Int),Z):=λd=>by
   have:=idx_call h196 h111 h44 h9 h3 h4 f1 f2 f3 f4 f5 f6 f7 f8 hok s0 s1 sB hsv (by omega) ha hpa hno (N+K-(nextOf es at_).length+d)
   rw[show N+K-(nextOf es at_).length+d+(nextOf es at_).length+40=N+K+(d+40) by omega]at this
   exact this
  obtain⟨gg,full,hv⟩:∃gg full,valOf es at_=.isl gg ((nextOf es at_).map λs=>[V.str s]) full:=by
   rcases hsv with⟨_,h⟩ | h
   ·rw[h]at ha;simp at ha
   ·exact h
  have hr3:mfind strEq (.str at_) es=some (some (valOf es at_)):=by
   cases r with
   |none=>rw[hv]at hr2;cases hr2
   |some v=>rw[hr1];simp only[Option.getD_some]at hr2;rw[hr2]
  have hrow:((nextOf es at_).map λs=>[V.str s])[idx]?=some [V.str a]:=by simp[ha]
  have hidx:indexAddr E 33 (valOf es at_) (.int .i64 (idx:Int))=some (.ipt gg [.str a]):=by
   rw[hv]
   simp only[indexAddr,h44,h9]
   rw[if_neg (by omega),Int.toNat_natCast,hrow]
   simp
  have hlit:∀(fr:Fr) (x:Nat) (s:List Nat),evalO fr (.tmp x)=some (.str s)->oBuildSlice E fr Z 33 1 #[(0,.tmp x)]=some (.sl Z.length 0 1 none,Z++[.cells 9 [.str s] true]):=λfr x s h=>lit_one h196 h111 h44 h9 h3 h4 h
  have happ:=append_one h196 h111 h44 h9 h3 h4 (v:=.str a) sC hlen
  simp only[bk,sel,fnOf,Tryz.f70,Option.getD_some]
  simp only[wpA_skip,wpA_exit,wpA_ret,wpA_seq,wpA_cond,wpA_block,wpA_reg,wpOpsA,isNext,wants,yielded,evalO,evalOs,ofValue,ofValue1,if_true,true_and,putS,stepO,opW,comp,Fz.apps,Fz.lits,plainOp,oExtract,oEntry,oMapUpdate,oLookup,oLoad,oStore,oBinOp,oUnOp,oPick,oIndexAddr,oBuiltin,oAlloc,oMakeMap,oRange,evalX,builtin,Option.map_some,Option.bind_some,Option.bind_none,Option.map_none,Fr.get_put,Fr.put_n,hn,List.getElem?_cons_zero,List.getElem?_cons_succ,List.getElem?_nil,List.getElem?_toArray,List.getElem?_append_left,Nat.reduceEqDiff,Nat.reduceLT,Nat.reduceAdd,and_true,and_false,if_false,reduceCtorEq,h196,h111,h44,h9,h3,h4,loadAt,storeAt,isAgg,lookup,keyOk,entriesOf,eqKey_str h9,bin,arith,unop,isConst,mapUpdate,okMapVal,V.okCell,Bool.not_true,Bool.not_false,Bool.or_self,Bool.or_false,Bool.false_or,Bool.or_true,Bool.true_or,Bool.false_eq_true,Bool.true_and,Bool.and_true,Bool.and_self,Option.isSome_some,Option.isSome_none,BEq.rfl,beq_self_eq_true,decide_true,Option.some.injEq,Nat.beq_refl,List.length_cons,List.length_nil,V.cells,setCells,List.take_zero,List.drop_zero,List.nil_append,List.drop_succ_cons,List.append_nil,List.set_cons_zero,List.set_cons_succ,Nat.zero_add,Nat.add_zero,List.all_cons,List.all_nil,Option.getD_some,Option.getD_none,Nat.le_refl,Int.natCast_nonneg,List.drop_nil,List.head?_cons,eqI_eq,ltI_eq,leI_eq,beq_iff_eq,List.cons_append,oMakeFunc,g0,g5,g15,g20,g21,sB,hcmp,hr3,hcall,hidx]
  generalize hfx:Fr.put _ 115 _=fx
  have x115:evalO fx (.tmp 115)=some (.str a):=by rw[<- hfx];simp only[evalO,Fr.get_put,Fr.put_n,hn,Nat.reduceEqDiff,Nat.reduceLT,and_true,if_true,if_false,false_and]
  have x114:fx.get 114=some (.sl C 0 cs.length none):=by rw[<- hfx];simp only[Fr.get_put,Fr.put_n,hn,Nat.reduceEqDiff,Nat.reduceLT,and_true,if_true,if_false,false_and]
  have x21:fx.get 21=some (.str a):=by rw[<- hfx];simp only[Fr.get_put,Fr.put_n,hn,Nat.reduceEqDiff,Nat.reduceLT,and_true,if_true,if_false,false_and]
  have x15:fx.get 15=some (.ref B 0):=by rw[<- hfx];simp only[Fr.get_put,Fr.put_n,hn,Nat.reduceEqDiff,Nat.reduceLT,and_true,if_true,if_false,false_and,g15]
  have xlo:∀t,t<20->fx.get t=fr.get t:=by
   intro t ht
   rw[<- hfx]
   simp only[Fr.get_put]
   repeat (rw[if_neg (by omega)])
  have xn:fx.n=119:=by rw[<- hfx];simp only[Fr.put_n,hn]
  clear hfx
  rw[hlit fx 115 a x115]
  have hn:=xn
  obtain⟨Y,hτ⟩:∃Y,(if ex then Z else Z.set C .dead)++[O.cells 9 [.str a] true]++[O.cells 9 (cs++[.str a]) false]=Y:=⟨_,rfl⟩
  rw[hτ]at happ
  have hBl:=(List.getElem?_eq_some_iff.1 sB).1
  have hCl:=(List.getElem?_eq_some_iff.1 sC).1
  have hin:∀j o,j≠C->Z[j]?=some o->Y[j]?=some o:=by
   intro j o hj ho
   have hjl:=(List.getElem?_eq_some_iff.1 ho).1
   rw[<- hτ]
   cases ex with
   |true=>
    simp only[if_true]
    rw[List.append_assoc,List.getElem?_append_left hjl]
    exact ho
   |false=>
    simp only[Bool.false_eq_true,if_false]
    rw[List.append_assoc,List.getElem?_append_left (by simpa using hjl),List.getElem?_set_ne (λe=>hj e.symm)]
    exact ho
  have t0:=hin 0 _ (by omega) s0
  have t1:=hin 1 _ (by omega) s1
  have tB:=hin B _ hBC sB
  have tlen:(if ex then Z else Z.set C .dead).length=Z.length:=by cases ex <;> simp
  have tC:Y[Z.length+1]?=some (.cells 9 (cs++[.str a]) false):=by
   rw[<- hτ,List.getElem?_append_right (by simp[tlen])]
   simp[tlen]
  have hsub:=sub1 (by omega:0<b) hb
  simp only[wpA_skip,wpA_exit,wpA_ret,wpA_seq,wpA_cond,wpA_block,wpA_reg,wpOpsA,isNext,wants,yielded,evalO,evalOs,ofValue,ofValue1,if_true,true_and,putS,stepO,opW,comp,Fz.apps,Fz.lits,plainOp,oExtract,oEntry,oMapUpdate,oLookup,oLoad,oStore,oBinOp,oUnOp,oPick,oIndexAddr,oBuiltin,oAlloc,oMakeMap,oRange,evalX,builtin,Option.map_some,Option.bind_some,Option.bind_none,Option.map_none,Fr.get_put,Fr.put_n,hn,List.getElem?_cons_zero,List.getElem?_cons_succ,List.getElem?_nil,List.getElem?_toArray,List.getElem?_append_left,Nat.reduceEqDiff,Nat.reduceLT,Nat.reduceAdd,and_true,and_false,if_false,reduceCtorEq,h196,h111,h44,h9,h3,h4,loadAt,storeAt,isAgg,lookup,keyOk,entriesOf,eqKey_str h9,bin,arith,unop,isConst,mapUpdate,okMapVal,V.okCell,Bool.not_true,Bool.not_false,Bool.or_self,Bool.or_false,Bool.false_or,Bool.or_true,Bool.true_or,Bool.false_eq_true,Bool.true_and,Bool.and_true,Bool.and_self,Option.isSome_some,Option.isSome_none,BEq.rfl,beq_self_eq_true,decide_true,Option.some.injEq,Nat.beq_refl,List.length_cons,List.length_nil,V.cells,setCells,List.take_zero,List.drop_zero,List.nil_append,List.drop_succ_cons,List.append_nil,List.set_cons_zero,List.set_cons_succ,Nat.zero_add,Nat.add_zero,List.all_cons,List.all_nil,Option.getD_some,Option.getD_none,Nat.le_refl,Int.natCast_nonneg,List.drop_nil,List.head?_cons,eqI_eq,ltI_eq,leI_eq,beq_iff_eq,List.cons_append,happ,x114,x15,tB,hsub]
  refine q1 _ _ (Z.length+1) ?_ ?_ ?_ ?_ ?_ ?_ ?_ ?_ ?_ ?_
  ·simp only[Fr.put_n,hn]
  ·intro t ht
   simp only[Fr.get_put]
   repeat (rw[if_neg (by omega)])
   exact xlo t ht
  ·simp only[Fr.get_put,Fr.put_n,hn,Nat.reduceEqDiff,Nat.reduceLT,and_true,if_true,if_false,false_and,List.length_append,List.length_cons,List.length_nil]
  ·simp only[Fr.get_put,Fr.put_n,hn,Nat.reduceEqDiff,Nat.reduceLT,and_true,if_true,if_false,false_and,x21]
  ·rw[List.getElem?_set_ne (by omega)];exact t0
  ·rw[List.getElem?_set_ne (by omega)];exact t1
  ·have:=(List.getElem?_eq_some_iff.1 tB).1
   simp[this]
  ·rw[List.getElem?_set_ne (by omega)];exact tC
  ·omega
  ·omega
end
end
end Go.Ax
end
