/- AX: SpanChain's run. -/
import Derived.Test.YtmbhjdkbcgngiaaGreatDoorZ39
set_option linter.unusedVariables false
set_option linter.unusedSimpArgs false
namespace Go.Proofs.YtmbhjdkbcgngiaaGreatDoor
open Go Go.Ax
set_option maxRecDepth 100000 in
set_option maxHeartbeats 2000000 in
theorem run_spanChain (n : Int) (hn : True) (d : Bool) : ∃ k, Ax.call SE k 5 [.int .i64 n, .bool d] = some (.bool true) := by
  refine call_of_enter SEfn ?_
  obtain ⟨r, hr, e1, e2, e3⟩ := mod7 n
  obtain ⟨C, hC⟩ : ∃ C, C = (fnOf Tryz.f5).code := ⟨_, rfl⟩
  obtain ⟨R, hR⟩ : ∃ R, R = cutAt [1, 1, 1, 1] C := ⟨_, rfl⟩
  have hc : (fnOf Tryz.f5).code = .seq (cutAt [0] C) (.seq (cutAt [1, 0] C) (.seq (cutAt [1, 1, 0] C) (.seq (cutAt [1, 1, 1, 0] C) R))) := by
    subst hR; subst hC; kernel_rfl
  unfold WpEnter
  rw [hc]
  subst hC
  obtain ⟨Q, hQ⟩ : ∃ Q : X → Fr → Sg → Prop, Q = fun x fr σ => match x with
      | .exit _ => False
      | _ => ret1 SE (fnOf Tryz.f5).results (fun u σ1 => snapT σ1 SE.ty false u = some (V.bool true)) fr σ := ⟨_, rfl⟩
  show (match Fr.init (fnOf Tryz.f5).ntmps [.int .i64 n, .bool d] with
    | none => False
    | some fr => Wp SE _ fr [] fun x fr σ => match x with
      | .exit _ => False
      | _ => ret1 SE (fnOf Tryz.f5).results (fun u σ1 => snapT σ1 SE.ty false u = some (V.bool true)) fr σ)
  rw [← hQ]
  simp only [fnOf, Tryz.f5, cutAt, ↓Ax.wp_skip, ↓Ax.wp_exit, ↓Ax.wp_ret, ↓Ax.wp_seq, ↓Ax.wp_cond, ↓Ax.wp_block, ↓Ax.wp_reg_arr, ↓Ax.wpOps_go, ↓Ax.wpOps_guard, ↓Ax.wpOps_nil, Ax.yielded, app3_nil, app3_def, ↓wpOp_move, ↓wpOp_assign, ↓wpOp_pick, ↓wpOp_alloc, ↓wpOp_box, ↓wpOp_build, ↓wpOp_buildSlice, ↓wpOp_load, ↓wpOp_store, ↓wpOp_nilCheck, ↓wpOp_binOp, ↓wpOp_unOp, ↓wpOp_convert, ↓wpOp_range, ↓wpOp_next, ↓wpOp_makeInterface, ↓wpOp_makeFunc, ↓wpOp_makeMap, ↓wpOp_makeSlice, ↓wpOp_slice, ↓wpOp_fieldAddr, ↓wpOp_field, ↓wpOp_indexAddr, ↓wpOp_index, ↓wpOp_lookup, ↓wpOp_mapUpdate, ↓wpOp_extract, ↓wpOp_builtin, ↓wpOp_call, Ax.evalO, Ax.evalOs, Ax.evalPs, Ax.evalX, Ax.ofValue, Ax.ofValue1, Ax.ofValues, Ax.putS, Ax.oPick, Ax.oAlloc, Ax.oBox, Ax.oBuild, Ax.oBuildSlice, Ax.oLoad, Ax.oStore, Ax.oNilCheck, Ax.oBinOp, Ax.oUnOp, Ax.oConvert, Ax.oMakeInterface, Ax.oMakeFunc, Ax.oMakeMap, Ax.oMakeSlice, Ax.oSlice, Ax.oFieldAddr, Ax.oField, Ax.oIndexAddr, Ax.oIndex, Ax.oLookup, Ax.oMapUpdate, Ax.oExtract, Ax.oBuiltin, Ax.builtin, Ax.lenOf, Ax.loadAt, Ax.storeAt, Ax.isAgg, Ax.isAggV, Ax.fieldAddr, Ax.field, Ax.part, Ax.bin, Ax.strOp, Ax.arith, Ax.unop, Ax.isConst, Ax.V.okCell, Ax.V.cells, Ax.setCells, ↓Ax.ret1, Ax.results, Fr.get_put, Fr.put_n, get_leafS, Fr.init, Fr.fill, ↓reduceIte, if_true, if_false, ite_true, ite_false, true_and, and_true, false_and, and_false, Option.map_some, Option.map_none, Option.bind_some, Option.bind_none, Option.some.injEq, Option.getD_some, Option.getD_none, Option.isSome_some, Option.isSome_none, List.getElem?_cons_zero, List.getElem?_cons_succ, List.getElem?_nil, List.getElem?_toArray, Nat.reduceEqDiff, Nat.reduceLT, Nat.reduceLeDiff, Nat.reduceAdd, Nat.reduceMul, Nat.reduceBEq, reduceCtorEq, Bool.not_true, Bool.not_false, Bool.or_self, Bool.or_false, Bool.false_or, Bool.or_true, Bool.true_or, Bool.false_eq_true, Bool.true_eq_false, Bool.true_and, Bool.and_true, Bool.false_and, Bool.and_false, Bool.and_self, BEq.rfl, beq_self_eq_true, decide_true, decide_false, Nat.beq_refl, List.length_cons, List.length_nil, List.take_zero, List.take_succ_cons, List.take_nil, List.drop_zero, List.drop_succ_cons, List.drop_nil, List.append_eq, List.nil_append, List.cons_append, List.append_nil, List.set_cons_zero, List.set_cons_succ, Nat.zero_add, Nat.add_zero, List.all_cons, List.all_nil, List.head?_cons, Nat.le_refl, Int.natCast_nonneg, Int.reduceEq, Int.reduceLT, Int.reduceLE, Int.reduceAdd, Int.reduceSub, Int.reduceNeg, eqI_eq, ltI_eq, leI_eq, addI_eq, subI_eq, beq_iff_eq, Bool.not_eq_true, ↓c_begun, e1, e2, e3]
  subst hR
  subst hQ
  match r, hr, d with
  | 0, _, true => exact wp_of_evRet (span_0true n)
  | 0, _, false => exact wp_of_evRet (span_0false n)
  | 1, _, true => exact wp_of_evRet (span_1true n)
  | 1, _, false => exact wp_of_evRet (span_1false n)
  | 2, _, true => exact wp_of_evRet (span_2true n)
  | 2, _, false => exact wp_of_evRet (span_2false n)
  | 3, _, true => exact wp_of_evRet (span_3true n)
  | 3, _, false => exact wp_of_evRet (span_3false n)
  | 4, _, true => exact wp_of_evRet (span_4true n)
  | 4, _, false => exact wp_of_evRet (span_4false n)
  | 5, _, true => exact wp_of_evRet (span_5true n)
  | 5, _, false => exact wp_of_evRet (span_5false n)
  | 6, _, true => exact wp_of_evRet (span_6true n)
  | 6, _, false => exact wp_of_evRet (span_6false n)
end Go.Proofs.YtmbhjdkbcgngiaaGreatDoor
