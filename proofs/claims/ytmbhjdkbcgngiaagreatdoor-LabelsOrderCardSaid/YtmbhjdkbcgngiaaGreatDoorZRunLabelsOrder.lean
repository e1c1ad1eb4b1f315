/- AX: LabelsOrder's run. -/
import Derived.Test.YtmbhjdkbcgngiaaGreatDoorZ15
set_option linter.unusedVariables false
set_option linter.unusedSimpArgs false
set_option maxHeartbeats 400000
set_option maxRecDepth 100000
namespace Go.Proofs.YtmbhjdkbcgngiaaGreatDoor
open Go Go.Ax Go.AxS
theorem lo_begun {σ : Sg} {K : V → Sg → Prop} : WpCall LE 9 [] σ K = K (.bool true) σ := wpCall_spec Lhs9 Lsp9 (args' := []) (v := .bool true) rfl (by kernel_rfl) rfl
theorem lo_code : (fnOf Tryz.f4).code = .seq (cutAt [0] (fnOf Tryz.f4).code) (.seq (cutAt [1, 0] (fnOf Tryz.f4).code) (.seq (cutAt [1, 1, 0] (fnOf Tryz.f4).code) (.seq (cutAt [1, 1, 1, 0] (fnOf Tryz.f4).code) (.seq (cutAt [1, 1, 1, 1, 0] (fnOf Tryz.f4).code) .ret)))) := by kernel_rfl
theorem lo_reg5 : undraw (cutAt [1, 1, 1, 1, 0] (fnOf Tryz.f4).code) = .region 5 loOps false := by kernel_rfl
theorem lo_ab : loOps.toList = loA ++ loB := (List.take_append_drop 43 loOps.toList).symm
theorem lo_join {a b c x y : Bool} {s t u : List Nat} (hA : LoA a b c s t u x y) (hB : LoB a b c s t u) {F : FT} {Q : Fr → Sg → Prop} (g3 : F.get 3 = .ref 0 0) (g4 : F.get 4 = .ref 1 0) (g5 : F.get 5 = .ref 2 0) (g8 : F.get 8 = .bool x) (g9 : F.get 9 = .bool y)
    (h : ∀ F' : FT, F'.get 6 = .bool true → Q ⟨106, F'⟩ (loSg a b c s t u)) : WpOps LE loOps (loA ++ loB) ⟨106, F⟩ (loSg a b c s t u) Q := by
  rw [wpOps_append]
  exact hA F (fun _ fr σ => WpOps LE loOps loB fr σ Q) g3 g4 g5 g8 g9 fun F' g3 g4 g61 => hB F' (fun _ fr σ => Q fr σ) g3 g4 g61 h
theorem lo_all (a b c : Bool) (s t u : List Nat) (hA : LoA a b c s t u (lt (a, s) (b, t)) (lt (b, t) (a, s))) (hB : LoB a b c s t u) :
    ∃ k, Ax.call LE k 4 [.agg [.bool a, .str s], .agg [.bool b, .str t], .agg [.bool c, .str u]] = some (.bool true) := by
  refine call_of_enter Lfn4 ?_
  unfold WpEnter
  rw [lo_code]
  obtain ⟨R, hR⟩ : ∃ R, R = cutAt [1, 1, 1, 1, 0] (fnOf Tryz.f4).code := ⟨_, rfl⟩
  obtain ⟨D, hD⟩ : ∃ D, D = undraw (cutAt [1, 1, 1, 0] (fnOf Tryz.f4).code) := ⟨_, rfl⟩
  have e4 : ∀ (fr : Fr) (σ : Sg) (Q : Ax.X → Fr → Sg → Prop), Wp LE (cutAt [1, 1, 1, 0] (fnOf Tryz.f4).code) fr σ Q = Wp LE D fr σ Q := fun fr σ Q => by rw [wp_undraw lo_d4, hD]
  rw [← hR]
  simp only [Ax.wp_seq, e4]
  subst hD
  simp only [fnOf, Tryz.f4, cutAt, undraw, ↓Ax.wp_skip, ↓Ax.wp_exit, ↓Ax.wp_ret, ↓Ax.wp_seq, ↓Ax.wp_cond, ↓Ax.wp_block, ↓Ax.wp_reg_arr, ↓Ax.wpOps_go, ↓Ax.wpOps_guard, ↓Ax.wpOps_nil, Ax.yielded, app3_nil, app3_def, ↓wpOp_move, ↓wpOp_assign, ↓wpOp_pick, ↓wpOp_alloc, ↓wpOp_box, ↓wpOp_build, ↓wpOp_buildSlice, ↓wpOp_load, ↓wpOp_store, ↓wpOp_nilCheck, ↓wpOp_binOp, ↓wpOp_unOp, ↓wpOp_convert, ↓wpOp_range, ↓wpOp_next, ↓wpOp_makeInterface, ↓wpOp_makeFunc, ↓wpOp_makeMap, ↓wpOp_makeSlice, ↓wpOp_slice, ↓wpOp_fieldAddr, ↓wpOp_field, ↓wpOp_indexAddr, ↓wpOp_index, ↓wpOp_lookup, ↓wpOp_mapUpdate, ↓wpOp_extract, ↓wpOp_builtin, ↓wpOp_call, Ax.evalO, Ax.evalOs, Ax.evalPs, Ax.evalX, Ax.ofValue, Ax.ofValue1, Ax.ofValues, Ax.putS, Ax.oPick, Ax.oAlloc, Ax.oBox, Ax.oBuild, Ax.oBuildSlice, Ax.oLoad, Ax.oStore, Ax.oNilCheck, Ax.oBinOp, Ax.oUnOp, Ax.oConvert, Ax.oMakeInterface, Ax.oMakeFunc, Ax.oMakeMap, Ax.oMakeSlice, Ax.oSlice, Ax.oFieldAddr, Ax.oField, Ax.oIndexAddr, Ax.oIndex, Ax.oLookup, Ax.oMapUpdate, Ax.oExtract, Ax.oBuiltin, Ax.builtin, Ax.lenOf, Ax.loadAt, Ax.storeAt, Ax.isAgg, Ax.isAggV, Ax.fieldAddr, Ax.field, Ax.part, Ax.bin, Ax.strOp, Ax.arith, Ax.unop, Ax.isConst, Ax.V.okCell, Ax.V.cells, Ax.setCells, ↓Ax.ret1, Ax.results, Ax.Fr.put_mk, Ax.Fr.get_mk, Ax.FT.get_set, Ax.FT.get_leaf, Ax.Fr.init, Ax.Fr.fill, ↓reduceIte, if_true, if_false, ite_true, ite_false, true_and, and_true, false_and, and_false, Option.map_some, Option.map_none, Option.bind_some, Option.bind_none, Option.some.injEq, Option.getD_some, Option.getD_none, Option.isSome_some, Option.isSome_none, List.getElem?_cons_zero, List.getElem?_cons_succ, List.getElem?_nil, List.getElem?_toArray, Nat.reduceEqDiff, Nat.reduceLT, Nat.reduceLeDiff, Nat.reduceAdd, Nat.reduceMul, Nat.reduceBEq, reduceCtorEq, Bool.not_true, Bool.not_false, Bool.or_self, Bool.or_false, Bool.false_or, Bool.or_true, Bool.true_or, Bool.false_eq_true, Bool.true_eq_false, Bool.true_and, Bool.and_true, Bool.false_and, Bool.and_false, Bool.and_self, BEq.rfl, beq_self_eq_true, decide_true, decide_false, Nat.beq_refl, List.length_cons, List.length_nil, List.take_zero, List.take_succ_cons, List.take_nil, List.drop_zero, List.drop_succ_cons, List.drop_nil, List.append_eq, List.nil_append, List.cons_append, List.append_nil, List.set_cons_zero, List.set_cons_succ, Nat.zero_add, Nat.add_zero, List.all_cons, List.all_nil, List.head?_cons, Nat.le_refl, Int.natCast_nonneg, Int.reduceEq, Int.reduceLT, Int.reduceLE, Int.reduceAdd, Int.reduceSub, Int.reduceNeg, eqI_eq, ltI_eq, leI_eq, addI_eq, subI_eq, beq_iff_eq, Bool.not_eq_true, Lty34, Lty9, Lty3, Lty4, Leq34, ↓lo_begun, ↓c_Less]
  subst hR
  rw [wp_undraw lo_d5, lo_reg5, Ax.wp_reg, lo_ab]
  refine lo_join hA hB ?_ ?_ ?_ ?_ ?_ fun F'' g6 => ?_
  all_goals simp only [↓Ax.wp_skip, ↓Ax.wp_exit, ↓Ax.wp_ret, ↓Ax.wp_seq, ↓Ax.wp_cond, ↓Ax.wp_block, ↓Ax.wp_reg_arr, ↓Ax.wpOps_go, ↓Ax.wpOps_guard, ↓Ax.wpOps_nil, Ax.yielded, app3_nil, app3_def, ↓wpOp_move, ↓wpOp_assign, ↓wpOp_pick, ↓wpOp_alloc, ↓wpOp_box, ↓wpOp_build, ↓wpOp_buildSlice, ↓wpOp_load, ↓wpOp_store, ↓wpOp_nilCheck, ↓wpOp_binOp, ↓wpOp_unOp, ↓wpOp_convert, ↓wpOp_range, ↓wpOp_next, ↓wpOp_makeInterface, ↓wpOp_makeFunc, ↓wpOp_makeMap, ↓wpOp_makeSlice, ↓wpOp_slice, ↓wpOp_fieldAddr, ↓wpOp_field, ↓wpOp_indexAddr, ↓wpOp_index, ↓wpOp_lookup, ↓wpOp_mapUpdate, ↓wpOp_extract, ↓wpOp_builtin, ↓wpOp_call, Ax.evalO, Ax.evalOs, Ax.evalPs, Ax.evalX, Ax.ofValue, Ax.ofValue1, Ax.ofValues, Ax.putS, Ax.oPick, Ax.oAlloc, Ax.oBox, Ax.oBuild, Ax.oBuildSlice, Ax.oLoad, Ax.oStore, Ax.oNilCheck, Ax.oBinOp, Ax.oUnOp, Ax.oConvert, Ax.oMakeInterface, Ax.oMakeFunc, Ax.oMakeMap, Ax.oMakeSlice, Ax.oSlice, Ax.oFieldAddr, Ax.oField, Ax.oIndexAddr, Ax.oIndex, Ax.oLookup, Ax.oMapUpdate, Ax.oExtract, Ax.oBuiltin, Ax.builtin, Ax.lenOf, Ax.loadAt, Ax.storeAt, Ax.isAgg, Ax.isAggV, Ax.fieldAddr, Ax.field, Ax.part, Ax.bin, Ax.strOp, Ax.arith, Ax.unop, Ax.isConst, Ax.V.okCell, Ax.V.cells, Ax.setCells, ↓Ax.ret1, Ax.results, Ax.Fr.put_mk, Ax.Fr.get_mk, Ax.FT.get_set, Ax.FT.get_leaf, Ax.Fr.init, Ax.Fr.fill, ↓reduceIte, if_true, if_false, ite_true, ite_false, true_and, and_true, false_and, and_false, Option.map_some, Option.map_none, Option.bind_some, Option.bind_none, Option.some.injEq, Option.getD_some, Option.getD_none, Option.isSome_some, Option.isSome_none, List.getElem?_cons_zero, List.getElem?_cons_succ, List.getElem?_nil, List.getElem?_toArray, Nat.reduceEqDiff, Nat.reduceLT, Nat.reduceLeDiff, Nat.reduceAdd, Nat.reduceMul, Nat.reduceBEq, reduceCtorEq, Bool.not_true, Bool.not_false, Bool.or_self, Bool.or_false, Bool.false_or, Bool.or_true, Bool.true_or, Bool.false_eq_true, Bool.true_eq_false, Bool.true_and, Bool.and_true, Bool.false_and, Bool.and_false, Bool.and_self, BEq.rfl, beq_self_eq_true, decide_true, decide_false, Nat.beq_refl, List.length_cons, List.length_nil, List.take_zero, List.take_succ_cons, List.take_nil, List.drop_zero, List.drop_succ_cons, List.drop_nil, List.append_eq, List.nil_append, List.cons_append, List.append_nil, List.set_cons_zero, List.set_cons_succ, Nat.zero_add, Nat.add_zero, List.all_cons, List.all_nil, List.head?_cons, Nat.le_refl, Int.natCast_nonneg, Int.reduceEq, Int.reduceLT, Int.reduceLE, Int.reduceAdd, Int.reduceSub, Int.reduceNeg, eqI_eq, ltI_eq, leI_eq, addI_eq, subI_eq, beq_iff_eq, Bool.not_eq_true, ↓reduceIte, if_true, if_false, ite_true, ite_false, true_and, and_true, false_and, and_false, Option.map_some, Option.map_none, Option.bind_some, Option.bind_none, Option.some.injEq, Option.getD_some, Option.getD_none, Option.isSome_some, Option.isSome_none, List.getElem?_cons_zero, List.getElem?_cons_succ, List.getElem?_nil, List.getElem?_toArray, Nat.reduceEqDiff, Nat.reduceLT, Nat.reduceLeDiff, Nat.reduceAdd, Nat.reduceMul, Nat.reduceBEq, reduceCtorEq, Bool.not_true, Bool.not_false, Bool.or_self, Bool.or_false, Bool.false_or, Bool.or_true, Bool.true_or, Bool.false_eq_true, Bool.true_eq_false, Bool.true_and, Bool.and_true, Bool.false_and, Bool.and_false, Bool.and_self, BEq.rfl, beq_self_eq_true, decide_true, decide_false, Nat.beq_refl, List.length_cons, List.length_nil, List.take_zero, List.take_succ_cons, List.take_nil, List.drop_zero, List.drop_succ_cons, List.drop_nil, List.append_eq, List.nil_append, List.cons_append, List.append_nil, List.set_cons_zero, List.set_cons_succ, Nat.zero_add, Nat.add_zero, List.all_cons, List.all_nil, List.head?_cons, Nat.le_refl, Int.natCast_nonneg, Int.reduceEq, Int.reduceLT, Int.reduceLE, Int.reduceAdd, Int.reduceSub, Int.reduceNeg, eqI_eq, ltI_eq, leI_eq, addI_eq, subI_eq, beq_iff_eq, Bool.not_eq_true]
  simp only [g6]
  exact rfl
theorem run_labelsOrder (a : Bool) (s : List Nat) (ls : s.length ≤ 9223372036854775806) (b : Bool) (t : List Nat) (lt1 : t.length ≤ 9223372036854775806) (c : Bool) (u : List Nat) (lu : u.length ≤ 9223372036854775806) :
    ∃ k, Ax.call LE k 4 [.agg [.bool a, .str s], .agg [.bool b, .str t], .agg [.bool c, .str u]] = some (.bool true) := by
  have tr : ∀ x y z : Lab, lt x y = true → lt y z = true → lt x z = true := lt_trans
  have nm : ∀ a : Bool, Ax.seq (nameOf (a, s)) (nameOf (a, t)) = Ax.seq s t := fun a => by
    cases a
    · rfl
    · show Ax.seq (58 :: s) (58 :: t) = _
      rw [seq_cons]; simp
  refine lo_all a b c s t u ?_ ?_
  · cases a <;> cases b
    · cases hs : slt s t with
      | true =>
        rw [show lt (false, s) (false, t) = true from hs, lt_asymm (show lt (false, s) (false, t) = true from hs)]
        have he : Ax.seq s t = false := by rw [seq_dec]; refine decide_eq_false fun e => ?_; subst e; rw [slt_irrefl] at hs; cases hs
        cases hz : lt (false, t) (c, u)
        · exact loA_0 c s t u he hz
        · exact loA_1 c s t u he hz (tr _ _ _ (show lt (false, s) (false, t) = true from hs) hz)
      | false =>
        rw [show lt (false, s) (false, t) = false from hs]
        cases hs2 : slt t s with
        | true =>
          rw [show lt (false, t) (false, s) = true from hs2]
          have he : Ax.seq s t = false := by rw [seq_dec]; refine decide_eq_false fun e => ?_; subst e; rw [slt_irrefl] at hs2; cases hs2
          exact loA_2 c s t u he
        | false =>
          rw [show lt (false, t) (false, s) = false from hs2]
          exact loA_3 c s t u (by rw [seq_dec, decide_eq_true_eq]; exact slt_total _ _ hs hs2)
    · cases hz : lt (true, t) (c, u)
      · exact loA_4 c s t u hz
      · exact loA_5 c s t u hz (tr (false, s) (true, t) (c, u) rfl hz)
    · exact loA_6 c s t u
    · cases hs : slt s t with
      | true =>
        rw [show lt (true, s) (true, t) = true from hs, lt_asymm (show lt (true, s) (true, t) = true from hs)]
        have he : Ax.seq s t = false := by rw [seq_dec]; refine decide_eq_false fun e => ?_; subst e; rw [slt_irrefl] at hs; cases hs
        cases hz : lt (true, t) (c, u)
        · exact loA_7 c s t u he hz
        · exact loA_8 c s t u he hz (tr _ _ _ (show lt (true, s) (true, t) = true from hs) hz)
      | false =>
        rw [show lt (true, s) (true, t) = false from hs]
        cases hs2 : slt t s with
        | true =>
          rw [show lt (true, t) (true, s) = true from hs2]
          have he : Ax.seq s t = false := by rw [seq_dec]; refine decide_eq_false fun e => ?_; subst e; rw [slt_irrefl] at hs2; cases hs2
          exact loA_9 c s t u he
        | false =>
          rw [show lt (true, t) (true, s) = false from hs2]
          exact loA_10 c s t u (by rw [seq_dec, decide_eq_true_eq]; exact slt_total _ _ hs hs2)
  · cases a <;> cases b
    · cases he : Ax.seq s t with
      | true => exact loB_0 c s t u ls lt1 he ((nm false).trans he)
      | false =>
        cases h1 : Ax.seq s (58 :: t) <;> cases h2 : Ax.seq t (58 :: s)
        · exact loB_1 c s t u ls lt1 he h1 h2 ((nm false).trans he)
        · exact loB_2 c s t u ls lt1 he h1 h2 ((nm false).trans he)
        · exact loB_3 c s t u ls lt1 he h1 h2 ((nm false).trans he)
        · exact loB_4 c s t u ls lt1 he h1 h2 ((nm false).trans he)
    · cases h1 : Ax.seq s (58 :: t) <;> cases h2 : Ax.seq t (58 :: s)
      · exact loB_5 c s t u ls lt1 h1 h2 h1
      · exact loB_6 c s t u ls lt1 h1 h2 h1
      · exact loB_7 c s t u ls lt1 h1 h2 h1
      · exact loB_8 c s t u ls lt1 h1 h2 h1
    · cases h1 : Ax.seq s (58 :: t) <;> cases h2 : Ax.seq t (58 :: s)
      · exact loB_9 c s t u ls lt1 h1 h2 ((seqComm _ _).trans h2)
      · exact loB_10 c s t u ls lt1 h1 h2 ((seqComm _ _).trans h2)
      · exact loB_11 c s t u ls lt1 h1 h2 ((seqComm _ _).trans h2)
      · exact loB_12 c s t u ls lt1 h1 h2 ((seqComm _ _).trans h2)
    · cases he : Ax.seq s t with
      | true => exact loB_13 c s t u ls lt1 he ((nm true).trans he)
      | false =>
        cases h1 : Ax.seq s (58 :: t) <;> cases h2 : Ax.seq t (58 :: s)
        · exact loB_14 c s t u ls lt1 he h1 h2 ((nm true).trans he)
        · exact loB_15 c s t u ls lt1 he h1 h2 ((nm true).trans he)
        · exact loB_16 c s t u ls lt1 he h1 h2 ((nm true).trans he)
        · exact loB_17 c s t u ls lt1 he h1 h2 ((nm true).trans he)
end Go.Proofs.YtmbhjdkbcgngiaaGreatDoor
