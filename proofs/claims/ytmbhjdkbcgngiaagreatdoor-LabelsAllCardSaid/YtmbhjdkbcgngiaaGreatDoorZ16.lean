/- AX: labels: the reference's sets. -/
/- AX: labels: the reference's Add: a new list. -/
/- AX: labels: the reference's Add and Set. -/
/- AX: labels: the reference's Set. -/
/- AX: labels: orders, names. -/
/- AX: the reference's Find and Name; appends to a list of one's own. -/
/- AX: LabelsAll's loop: what the two share, and what is left, as the reference tells it. -/
import Derived.Test.YtmbhjdkbcgngiaaGreatDoorZ15
import Derived.Test.YtmbhjdkbcgngiaaGreatDoorZ13
section
set_option linter.unusedVariables false
set_option linter.unusedSimpArgs false
set_option maxHeartbeats 1000000
set_option maxRecDepth 10000
namespace Go.Proofs.YtmbhjdkbcgngiaaGreatDoor
open Go Go.Ax Go.AxS
/-- the place of a label -/
def pos : List Lab → Lab → Nat
  | [], _ => 0
  | y :: r, x => if lt y x = true then pos r x + 1 else 0
theorem pos_le : ∀ (l : List Lab) (x : Lab), pos l x ≤ l.length
  | [], _ => Nat.le_refl _
  | y :: r, x => by
    simp only [pos, List.length_cons]
    have := pos_le r x
    split <;> omega
theorem pos_lt : ∀ (l : List Lab) (x : Lab) (i : Nat), i < pos l x → ∃ y, l[i]? = some y ∧ lt y x = true
  | [], _, i, h => by simp [pos] at h
  | y :: r, x, 0, h => by
    simp only [pos] at h
    split at h
    · rename_i hy; exact ⟨y, rfl, hy⟩
    · omega
  | y :: r, x, i + 1, h => by
    simp only [pos] at h
    split at h
    · obtain ⟨z, h1, h2⟩ := pos_lt r x i (by omega)
      exact ⟨z, h1, h2⟩
    · omega
theorem pos_at : ∀ (l : List Lab) (x y : Lab), l[pos l x]? = some y → lt y x = false
  | [], _, _, h => by simp [pos] at h
  | z :: r, x, y, h => by
    simp only [pos] at h
    split at h
    · exact pos_at r x y h
    · rename_i hz
      have : z = y := by simpa using h
      subst this
      simpa using hz
theorem put_pos : ∀ (l : List Lab) (x : Lab), put l x = if l[pos l x]? = some x then l else l.take (pos l x) ++ x :: l.drop (pos l x)
  | [], x => by simp [put, pos]
  | y :: r, x => by
    by_cases hy : lt y x = true
    · have e : pos (y :: r) x = pos r x + 1 := by simp only [pos, hy, if_true]
      have p : put (y :: r) x = y :: put r x := by simp only [put, hy, if_true]
      rw [p, put_pos r x]
      simp only [e, List.getElem?_cons_succ, List.take_succ_cons, List.drop_succ_cons, List.cons_append]
      split <;> rfl
    · have e : pos (y :: r) x = 0 := by simp only [pos, hy, if_false]; rfl
      have p : put (y :: r) x = if y = x then y :: r else x :: y :: r := by simp only [put, hy, if_false]; rfl
      rw [p]
      simp only [e, List.getElem?_cons_zero, Option.some.injEq, List.take_zero, List.drop_zero, List.nil_append]
theorem veq_str (n : Nat) (s : List Nat) : veq (n + 1) (.str s) (.str s) = true := by
  show Ax.seq s s = true
  exact (seq_iff s s).2 rfl
theorem veq_row (x : Lab) : all2 (veq 11) (row x) (row x) = true := by
  show ((x.1 == x.1) && (Ax.seq x.2 x.2 && true)) = true
  rw [(seq_iff x.2 x.2).2 rfl]
  simp
theorem all2_rows {g : List V → List V → Bool} : ∀ l : List Lab, (∀ x, g (row x) (row x) = true) → all2 g (l.map row) (l.map row) = true
  | [], _ => rfl
  | x :: l, h => by
    show (g (row x) (row x) && all2 g (l.map row) (l.map row)) = true
    rw [h, all2_rows l h]; rfl
theorem veq_agg (a : Bool) (s : List Nat) : veq 12 (.agg [.bool a, .str s]) (.agg [.bool a, .str s]) = true := veq_row (a, s)
theorem veq_isl (g full : Bool) (l : List Lab) : veq 12 (.isl g (l.map row) full) (.isl g (l.map row) full) = true := by
  show (g == g && all2 (all2 (veq 11)) (l.map row) (l.map row) && full == full) = true
  rw [all2_rows l veq_row]; simp
section
variable {E : Env} {σ : Sg} {K : V → Sg → Prop}
theorem load_box (h : LabE E) (a : Bool) (s : List Nat) (ex : Bool) (τ : Sg) : loadAt E (.cells 34 [.bool a, .str s] ex :: τ) 34 (.ref 0 0) = some (.agg [.bool a, .str s]) := by
  unfold loadAt
  rw [h.ty34]
  rfl
theorem rAdd_loop (h : LabE E) {v : V} {l : List Lab} {x : Lab} (hv : LV v l) (hsm : l.length ≤ 1000000000000) {s : List Kont} {Q : Ax.X → Fr → Sg → Prop}
    (hQ : ∀ F' : FT, F'.get 0 = v → F'.get 3 = .ref 0 0 → F'.get 5 = .int .i64 (pos l x : Int) → M E s .normal ⟨44, F'⟩ [.cells 34 [.bool x.1, .str x.2] true] Q) :
    ∀ (k i : Nat) (F : FT), i + k = pos l x → F.get 0 = v → F.get 3 = .ref 0 0 → F.get 5 = .int .i64 (i : Int) → R E (.loop (cutAt [1, 1, 0, 2, 2] (fnOf Tryz.f30).code)) (.blk 0 :: s) ⟨44, F⟩ [.cells 34 [.bool x.1, .str x.2] true] Q := by
  have la : ∀ σ, lenOf E σ 22 v = some l.length := fun σ => len_SV h (hv.sv σ)
  have hk : pos l x ≤ l.length := pos_le l x
  have d2 := h.d30_2
  simp only [fnOf, Tryz.f30, cutAt, Option.getD_some] at d2
  intro k
  induction k with
  | zero =>
    intro i F hi g0 g3 g5
    rw [Ax.r_loop]
    by_cases hil : i < l.length
    · have hlt : decide ((i : Int) < (l.length : Int)) = true := decide_eq_true (by omega)
      obtain ⟨y, hy⟩ : ∃ y, l[i]? = some y := ⟨_, List.getElem?_eq_getElem hil⟩
      obtain ⟨pa, e1, e2⟩ := elem_SV h (hv.sv [.cells 34 [.bool x.1, .str x.2] true]) hy
      have e2 := e2 _ (KeepC.refl _)
      have hm : lt (y.1, y.2) (x.1, x.2) = false := pos_at l x y (by rw [← hi]; exact hy)
      simp only [fnOf, Tryz.f30, KP, Ax.storeAt, ↓reduceIte, Nat.reduceEqDiff, Nat.reduceLT, Nat.reduceLeDiff, Nat.reduceAdd, Nat.reduceMul, Nat.reduceBEq, reduceCtorEq, Int.reduceEq, Int.reduceLT, Int.reduceLE, Int.reduceAdd, Int.reduceSub, Int.reduceNeg, h.ty3, h.ty4, h.ty9, h.ty34, h.ty22, h.eq34, cutAt, g0, g3, g5, la, hlt, Ax.r_undraw d2, Ax.undraw, e1, e2, load_box h, k_rLess h, hm]
      refine hQ _ ?_ ?_ ?_ <;> simp only [Ax.FT.fill, Ax.FT.get_set, g0, g3, g5, KP, ↓reduceIte, Nat.reduceEqDiff, Nat.reduceLT, Nat.reduceLeDiff, Nat.reduceAdd, Nat.reduceMul, Nat.reduceBEq, reduceCtorEq, Int.reduceEq, Int.reduceLT, Int.reduceLE, Int.reduceAdd, Int.reduceSub, Int.reduceNeg]
      rw [← hi, Nat.add_zero]
    · have hlt : decide ((i : Int) < (l.length : Int)) = false := decide_eq_false (by omega)
      simp only [fnOf, Tryz.f30, KP, Ax.storeAt, ↓reduceIte, Nat.reduceEqDiff, Nat.reduceLT, Nat.reduceLeDiff, Nat.reduceAdd, Nat.reduceMul, Nat.reduceBEq, reduceCtorEq, Int.reduceEq, Int.reduceLT, Int.reduceLE, Int.reduceAdd, Int.reduceSub, Int.reduceNeg, h.ty3, h.ty4, h.ty9, h.ty34, h.ty22, h.eq34, cutAt, g0, g3, g5, la, hlt, Ax.r_undraw d2, Ax.undraw]
      refine hQ _ ?_ ?_ ?_ <;> simp only [Ax.FT.fill, Ax.FT.get_set, g0, g3, g5, KP, ↓reduceIte, Nat.reduceEqDiff, Nat.reduceLT, Nat.reduceLeDiff, Nat.reduceAdd, Nat.reduceMul, Nat.reduceBEq, reduceCtorEq, Int.reduceEq, Int.reduceLT, Int.reduceLE, Int.reduceAdd, Int.reduceSub, Int.reduceNeg]
      rw [← hi, Nat.add_zero]
  | succ k ih =>
    intro i F hi g0 g3 g5
    obtain ⟨y, hy, hn⟩ := pos_lt l x i (by omega)
    have hlt : decide ((i : Int) < (l.length : Int)) = true := decide_eq_true (by omega)
    obtain ⟨pa, e1, e2⟩ := elem_SV h (hv.sv [.cells 34 [.bool x.1, .str x.2] true]) hy
    have e2 := e2 _ (KeepC.refl _)
    have hm : lt (y.1, y.2) (x.1, x.2) = true := hn
    have hadd := wr_succ i (by omega)
    rw [Ax.r_loop]
    simp only [fnOf, Tryz.f30, KP, Ax.storeAt, ↓reduceIte, Nat.reduceEqDiff, Nat.reduceLT, Nat.reduceLeDiff, Nat.reduceAdd, Nat.reduceMul, Nat.reduceBEq, reduceCtorEq, Int.reduceEq, Int.reduceLT, Int.reduceLE, Int.reduceAdd, Int.reduceSub, Int.reduceNeg, h.ty3, h.ty4, h.ty9, h.ty34, h.ty22, h.eq34, cutAt, g0, g3, g5, la, hlt, Ax.r_undraw d2, Ax.undraw, e1, e2, load_box h, k_rLess h, hm, hadd]
    refine ih (i + 1) _ (by omega) ?_ ?_ ?_ <;> simp only [Ax.FT.fill, Ax.FT.get_set, g0, g3, KP, ↓reduceIte, Nat.reduceEqDiff, Nat.reduceLT, Nat.reduceLeDiff, Nat.reduceAdd, Nat.reduceMul, Nat.reduceBEq, reduceCtorEq, Int.reduceEq, Int.reduceLT, Int.reduceLE, Int.reduceAdd, Int.reduceSub, Int.reduceNeg]
end
end Go.Proofs.YtmbhjdkbcgngiaaGreatDoor
end
section
set_option linter.unusedVariables false
set_option linter.unusedSimpArgs false
set_option maxHeartbeats 2000000
set_option maxRecDepth 10000
namespace Go.Proofs.YtmbhjdkbcgngiaaGreatDoor
open Go Go.Ax Go.AxS
section
variable {E : Env} {σ : Sg} {K : V → Sg → Prop}
theorem elems_lit (σ : Sg) (g full : Bool) (a : Bool) (s : List Nat) : elems σ 2 (.isl g [[.bool a, .str s]] full) = some ([.bool a, .str s], 1) := rfl
theorem elems_nil (σ : Sg) (g full : Bool) : elems σ 2 (.isl g [] full) = some ([], 0) := rfl
theorem szOk_nil : szOk 2 [] = true := rfl
theorem veq_isl_nil (g full : Bool) : veq 12 (.isl g [] full) (.isl g [] full) = true := veq_isl g full []
theorem roomy1 : roomy 1 24 = true := by decide
theorem rAdd_reg (h : LabE E) {l : List Lab} {x : Lab} {g full : Bool} (hsm : l.length ≤ 100000000000) (F : FT) (g0 : F.get 0 = .isl g (l.map row) full) (g3 : F.get 3 = .ref 0 0) (g5 : F.get 5 = .int .i64 (pos l x : Int)) :
    ∃ F' b cs σ', evDraw E (ev E 0) (opsOf (cutAt [1, 1, 1, 1, 0] (fnOf Tryz.f30).code)) ⟨44, F⟩ [.cells 34 [.bool x.1, .str x.2] true] = some (⟨44, F'⟩, σ') ∧ F'.get 4 = .sl b 0 (l.length + 1) none ∧ σ'[b]? = some (.cells 34 cs false) ∧ cs = (l.take (pos l x) ++ x :: l.drop (pos l x)).flatMap row := by
  have hk : pos l x ≤ l.length := pos_le l x
  generalize pos l x = k at *
  have hd1 : decide ((0 : Int) ≤ (k : Int)) = true := decide_eq_true (by omega)
  have hd2 : decide ((k : Int) ≤ (l.length : Int)) = true := decide_eq_true (by omega)
  have hm1 : (l.map row).take k = (l.take k).map row := by rw [List.map_take]
  have hm2 : ((l.map row).drop k).take (l.length - k) = (l.drop k).map row := by
    rw [List.take_of_length_le (by simp), List.map_drop]
  have n1 : (l.take k).length = k := by rw [List.length_take]; omega
  have n2 : (l.drop k).length = l.length - k := List.length_drop
  have f1 : ((l.take k).flatMap row).length = k * 2 := by rw [flat_length, n1]
  have f2 : ((k + 1) * 2 ≤ k * 2) = False := by simp only [eq_iff_iff, iff_false]; omega
  have f3 : ((l.take k).flatMap row).take (k * 2) = (l.take k).flatMap row := List.take_of_length_le (by omega)
  have f4 : ((l.take k).flatMap row ++ [V.bool x.1, V.str x.2]).length = (k + 1) * 2 := by rw [List.length_append, f1]; show _ + 2 = _; omega
  have f6 : ((l.take k).flatMap row ++ [V.bool x.1, V.str x.2]).take ((k + 1) * 2) = (l.take k).flatMap row ++ [V.bool x.1, V.str x.2] := List.take_of_length_le (by omega)
  have r1 : roomy k 24 = true := roomy_ok k (by omega)
  have r2 : roomy (k + 1) 24 = true := roomy_ok _ (by omega)
  have r3 : roomy (k + 1 + (l.length - k)) 24 = true := roomy_ok _ (by omega)
  have f7 : k + 1 + (l.length - k) = l.length + 1 := by omega
  have f8 : (l.take k ++ x :: l.drop k).flatMap row = (l.take k).flatMap row ++ [V.bool x.1, V.str x.2] ++ (l.drop k).flatMap row := by simp [List.flatMap_append, List.flatMap_cons, row]
  unfold evDraw
  rw [h.z30_6, h.p30_6]
  by_cases hp : k = 0
  · subst hp
    by_cases hq : l.length = 0
    · obtain rfl := List.length_eq_zero_iff.1 hq
      simp only [opsOf, cutAt, fnOf, Tryz.f30, Ax.trail, Ax.stepO, Ax.wants, Ax.opW, Ax.comp, Ax.litOp, Ax.last, Ax.needOk, Ax.again, Ax.slice, Ax.bound, Ax.append, Ax.plainArg, Ax.isIntK, Ax.fill, Ax.reps, Ax.rows, Ax.tagOk, Ax.fullOf, Ax.plainOp, KP, Ax.storeAt, ↓reduceIte, Nat.reduceEqDiff, Nat.reduceLT, Nat.reduceLeDiff, Nat.reduceAdd, Nat.reduceMul, Nat.reduceBEq, reduceCtorEq, Int.reduceEq, Int.reduceLT, Int.reduceLE, Int.reduceAdd, Int.reduceSub, Int.reduceNeg, h.ty3, h.ty4, h.ty9, h.ty34, h.ty22, h.eq34, g0, g3, g5, List.length_map, szOk_rows, hd1, hd2, Int.toNat_natCast, Nat.sub_zero, hm1, hm2, elems_isl, elems_lit, load_box h, n1, n2, Ax.cast0, List.map_nil, elems_nil, szOk_nil, roomy1, List.take_nil, List.drop_nil, veq_agg, veq_isl_nil, veq_isl]
      exact ⟨_, 1, _, _, rfl, by simp only [Ax.FT.get_set, KP, ↓reduceIte, Nat.reduceEqDiff, Nat.reduceLT, Nat.reduceLeDiff, Nat.reduceAdd, Nat.reduceMul, Nat.reduceBEq, reduceCtorEq, Int.reduceEq, Int.reduceLT, Int.reduceLE, Int.reduceAdd, Int.reduceSub, Int.reduceNeg], rfl, rfl⟩
    · have hm3 : (l.map row).take l.length = l.map row := List.take_of_length_le (by simp)
      have f10 : ((1 + l.length) * 2 ≤ 2) = False := by simp only [eq_iff_iff, iff_false]; omega
      have r4 : roomy (1 + l.length) 24 = true := roomy_ok _ (by omega)
      simp only [opsOf, cutAt, fnOf, Tryz.f30, Ax.trail, Ax.stepO, Ax.wants, Ax.opW, Ax.comp, Ax.litOp, Ax.last, Ax.needOk, Ax.again, Ax.slice, Ax.bound, Ax.append, Ax.plainArg, Ax.isIntK, Ax.fill, Ax.reps, Ax.rows, Ax.tagOk, Ax.fullOf, Ax.plainOp, KP, Ax.storeAt, ↓reduceIte, Nat.reduceEqDiff, Nat.reduceLT, Nat.reduceLeDiff, Nat.reduceAdd, Nat.reduceMul, Nat.reduceBEq, reduceCtorEq, Int.reduceEq, Int.reduceLT, Int.reduceLE, Int.reduceAdd, Int.reduceSub, Int.reduceNeg, h.ty3, h.ty4, h.ty9, h.ty34, h.ty22, h.eq34, g0, g3, g5, List.length_map, szOk_rows, hd1, hd2, Int.toNat_natCast, Nat.sub_zero, elems_isl, elems_lit, load_box h, n1, n2, Ax.cast0, elems_nil, szOk_nil, roomy1, hm3, f10, r4, hq, veq_agg, veq_isl]
      exact ⟨_, 2, _, _, rfl, by simp only [Ax.FT.get_set, Nat.add_comm 1 l.length, KP, ↓reduceIte, Nat.reduceEqDiff, Nat.reduceLT, Nat.reduceLeDiff, Nat.reduceAdd, Nat.reduceMul, Nat.reduceBEq, reduceCtorEq, Int.reduceEq, Int.reduceLT, Int.reduceLE, Int.reduceAdd, Int.reduceSub, Int.reduceNeg], rfl, rfl⟩
  · by_cases hq : l.length - k = 0
    · have f9 : ((l.take k).flatMap row ++ [V.bool x.1, V.str x.2]).drop ((k + 1) * 2) = [] := List.drop_of_length_le (by omega)
      simp only [opsOf, cutAt, fnOf, Tryz.f30, Ax.trail, Ax.stepO, Ax.wants, Ax.opW, Ax.comp, Ax.litOp, Ax.last, Ax.needOk, Ax.again, Ax.slice, Ax.bound, Ax.append, Ax.plainArg, Ax.isIntK, Ax.fill, Ax.reps, Ax.rows, Ax.tagOk, Ax.fullOf, Ax.plainOp, KP, Ax.storeAt, ↓reduceIte, Nat.reduceEqDiff, Nat.reduceLT, Nat.reduceLeDiff, Nat.reduceAdd, Nat.reduceMul, Nat.reduceBEq, reduceCtorEq, Int.reduceEq, Int.reduceLT, Int.reduceLE, Int.reduceAdd, Int.reduceSub, Int.reduceNeg, h.ty3, h.ty4, h.ty9, h.ty34, h.ty22, h.eq34, g0, g3, g5, List.length_map, szOk_rows, hd1, hd2, Int.toNat_natCast, Nat.sub_zero, hm1, hm2, elems_isl, elems_lit, load_box h, n1, n2, hp, hq, r1, r2, f1, f2, f3, f4, f6, veq_agg, veq_isl, veq_isl_nil, elems_nil, f9]
      have f12 : l.drop k = [] := List.drop_of_length_le (by omega)
      have f11 : l.length = k := by omega
      exact ⟨_, 2, _, _, rfl, by simp only [Ax.FT.get_set, f11, KP, ↓reduceIte, Nat.reduceEqDiff, Nat.reduceLT, Nat.reduceLeDiff, Nat.reduceAdd, Nat.reduceMul, Nat.reduceBEq, reduceCtorEq, Int.reduceEq, Int.reduceLT, Int.reduceLE, Int.reduceAdd, Int.reduceSub, Int.reduceNeg], rfl, by rw [f8]; simp [f12]⟩
    · have f5 : ((k + 1 + (l.length - k)) * 2 ≤ (k + 1) * 2) = False := by simp only [eq_iff_iff, iff_false]; omega
      simp only [opsOf, cutAt, fnOf, Tryz.f30, Ax.trail, Ax.stepO, Ax.wants, Ax.opW, Ax.comp, Ax.litOp, Ax.last, Ax.needOk, Ax.again, Ax.slice, Ax.bound, Ax.append, Ax.plainArg, Ax.isIntK, Ax.fill, Ax.reps, Ax.rows, Ax.tagOk, Ax.fullOf, Ax.plainOp, KP, Ax.storeAt, ↓reduceIte, Nat.reduceEqDiff, Nat.reduceLT, Nat.reduceLeDiff, Nat.reduceAdd, Nat.reduceMul, Nat.reduceBEq, reduceCtorEq, Int.reduceEq, Int.reduceLT, Int.reduceLE, Int.reduceAdd, Int.reduceSub, Int.reduceNeg, h.ty3, h.ty4, h.ty9, h.ty34, h.ty22, h.eq34, g0, g3, g5, List.length_map, szOk_rows, hd1, hd2, Int.toNat_natCast, Nat.sub_zero, hm1, hm2, elems_isl, elems_lit, load_box h, n1, n2, hp, hq, r1, r2, r3, f1, f2, f3, f4, f5, f6, veq_agg, veq_isl]
      exact ⟨_, 3, _, _, rfl, by simp only [Ax.FT.get_set, f7, KP, ↓reduceIte, Nat.reduceEqDiff, Nat.reduceLT, Nat.reduceLeDiff, Nat.reduceAdd, Nat.reduceMul, Nat.reduceBEq, reduceCtorEq, Int.reduceEq, Int.reduceLT, Int.reduceLE, Int.reduceAdd, Int.reduceSub, Int.reduceNeg], rfl, f8.symm⟩
end
end Go.Proofs.YtmbhjdkbcgngiaaGreatDoor
end
section
set_option linter.unusedVariables false
set_option linter.unusedSimpArgs false
set_option maxHeartbeats 2000000
set_option maxRecDepth 10000
namespace Go.Proofs.YtmbhjdkbcgngiaaGreatDoor
open Go Go.Ax Go.AxS
section
variable {E : Env} {σ : Sg} {K : V → Sg → Prop}
theorem veq_nils : veq 12 .nils .nils = true := rfl
theorem elems_nils (σ : Sg) : elems σ 2 .nils = some ([], 0) := rfl
theorem rAdd_regN (h : LabE E) {x : Lab} (F : FT) (g0 : F.get 0 = .nils) (g3 : F.get 3 = .ref 0 0) (g5 : F.get 5 = .int .i64 0) :
    ∃ F' σ', evDraw E (ev E 0) (opsOf (cutAt [1, 1, 1, 1, 0] (fnOf Tryz.f30).code)) ⟨44, F⟩ [.cells 34 [.bool x.1, .str x.2] true] = some (⟨44, F'⟩, σ') ∧ F'.get 4 = .sl 1 0 1 none ∧ σ'[1]? = some (.cells 34 [.bool x.1, .str x.2] false) := by
  unfold evDraw
  rw [h.z30_6, h.p30_6]
  simp only [opsOf, cutAt, fnOf, Tryz.f30, Ax.trail, Ax.stepO, Ax.wants, Ax.opW, Ax.comp, Ax.litOp, Ax.last, Ax.needOk, Ax.again, Ax.slice, Ax.bound, Ax.append, Ax.plainArg, Ax.isIntK, Ax.fill, Ax.reps, Ax.rows, Ax.tagOk, Ax.fullOf, Ax.plainOp, KP, Ax.storeAt, ↓reduceIte, Nat.reduceEqDiff, Nat.reduceLT, Nat.reduceLeDiff, Nat.reduceAdd, Nat.reduceMul, Nat.reduceBEq, reduceCtorEq, Int.reduceEq, Int.reduceLT, Int.reduceLE, Int.reduceAdd, Int.reduceSub, Int.reduceNeg, h.ty3, h.ty4, h.ty9, h.ty34, h.ty22, h.eq34, g0, g3, g5, Ax.cast0, elems_nils, elems_lit, load_box h, roomy1, veq_agg, veq_nils]
  exact ⟨_, _, rfl, by simp only [Ax.FT.get_set, KP, ↓reduceIte, Nat.reduceEqDiff, Nat.reduceLT, Nat.reduceLeDiff, Nat.reduceAdd, Nat.reduceMul, Nat.reduceBEq, reduceCtorEq, Int.reduceEq, Int.reduceLT, Int.reduceLE, Int.reduceAdd, Int.reduceSub, Int.reduceNeg], rfl⟩
theorem b_rAdd (h : LabE E) {v : V} {l : List Lab} {x : Lab} (hv : LVf v l) (hsm : l.length ≤ 100000000000) : WpCall E 30 [v, .agg [.bool x.1, .str x.2]] σ fun v' σ' => σ' = σ ∧ LVf v' (put l x) := by
  have e1 : snapV σ E.ty true v = some v := by rcases hv with ⟨rfl, _⟩ | ⟨full, rfl⟩ <;> rfl
  have e2 : snapV σ E.ty true (.agg [.bool x.1, .str x.2]) = some (.agg [.bool x.1, .str x.2]) := rfl
  have la : ∀ σ, lenOf E σ 22 v = some l.length := fun σ => len_SV h (hv.lv.sv σ)
  have hk : pos l x ≤ l.length := pos_le l x
  have d4 := h.d30_4
  simp only [fnOf, Tryz.f30, cutAt, Option.getD_some] at d4
  rw [wpCall_iso h.hs30 h.sp30 h.fn30 h.md30 (args' := [v, .agg [.bool x.1, .str x.2]]) (by simp only [mapO, e1, e2]), enterF (by kernel_rfl)]
  simp only [fnOf, Tryz.f30, KP, Ax.storeAt, ↓reduceIte, Nat.reduceEqDiff, Nat.reduceLT, Nat.reduceLeDiff, Nat.reduceAdd, Nat.reduceMul, Nat.reduceBEq, reduceCtorEq, Int.reduceEq, Int.reduceLT, Int.reduceLE, Int.reduceAdd, Int.reduceSub, Int.reduceNeg, h.ty3, h.ty4, h.ty9, h.ty34, h.ty22, h.eq34]
  refine rAdd_loop h hv.lv (by omega) (fun F' g0 g3 g5 => ?_) (pos l x) 0 _ (by omega) ?_ ?_ ?_
  rotate_left
  · simp only [Ax.FT.fill, Ax.FT.get_set, KP, ↓reduceIte, Nat.reduceEqDiff, Nat.reduceLT, Nat.reduceLeDiff, Nat.reduceAdd, Nat.reduceMul, Nat.reduceBEq, reduceCtorEq, Int.reduceEq, Int.reduceLT, Int.reduceLE, Int.reduceAdd, Int.reduceSub, Int.reduceNeg]
  · simp only [Ax.FT.fill, Ax.FT.get_set, KP, ↓reduceIte, Nat.reduceEqDiff, Nat.reduceLT, Nat.reduceLeDiff, Nat.reduceAdd, Nat.reduceMul, Nat.reduceBEq, reduceCtorEq, Int.reduceEq, Int.reduceLT, Int.reduceLE, Int.reduceAdd, Int.reduceSub, Int.reduceNeg]
  · simp only [Ax.FT.fill, Ax.FT.get_set, KP, ↓reduceIte, Nat.reduceEqDiff, Nat.reduceLT, Nat.reduceLeDiff, Nat.reduceAdd, Nat.reduceMul, Nat.reduceBEq, reduceCtorEq, Int.reduceEq, Int.reduceLT, Int.reduceLE, Int.reduceAdd, Int.reduceSub, Int.reduceNeg]
    try rfl
  have fin : l[pos l x]? ≠ some x → ∀ (F2 : FT), F2.get 0 = v → F2.get 3 = .ref 0 0 → F2.get 5 = .int .i64 (pos l x : Int) →
      R E (.region 6 (opsOf (cutAt [1, 1, 1, 1, 0] (fnOf Tryz.f30).code)) true) [.k .ret] ⟨44, F2⟩ [.cells 34 [.bool x.1, .str x.2] true] (EndK E (fnOf Tryz.f30).results fun v σ1 => match snapT σ1 E.ty false v with
        | some v => σ = σ ∧ LVf v (put l x)
        | none => False) := by
    intro hne F2 k0 k3 k5
    have hp := put_pos l x
    rw [if_neg hne] at hp
    rcases hv with ⟨rfl, rfl⟩ | ⟨full, rfl⟩
    · obtain ⟨F3, σ3, hE, q4, qb⟩ := rAdd_regN h (x := x) F2 k0 k3 k5
      refine Eq.mpr (r_drawn hE) ?_
      simp only [fnOf, Tryz.f30, KP, Ax.storeAt, ↓reduceIte, Nat.reduceEqDiff, Nat.reduceLT, Nat.reduceLeDiff, Nat.reduceAdd, Nat.reduceMul, Nat.reduceBEq, reduceCtorEq, Int.reduceEq, Int.reduceLT, Int.reduceLE, Int.reduceAdd, Int.reduceSub, Int.reduceNeg, h.ty3, h.ty4, h.ty9, h.ty34, h.ty22, h.eq34, q4]
      obtain ⟨v', e, hv'⟩ := back_SV (σ := σ3) (l := [x]) h (.inr (.inr ⟨1, _, _, rfl, qb, rfl⟩))
      have e : snapT σ3 E.ty false (.sl 1 0 1 none) = some v' := e
      rw [e]
      exact hv'
    · obtain ⟨F3, b, cs, σ3, hE, q4, qb, qc⟩ := rAdd_reg h hsm F2 k0 k3 k5
      refine Eq.mpr (r_drawn hE) ?_
      simp only [fnOf, Tryz.f30, KP, Ax.storeAt, ↓reduceIte, Nat.reduceEqDiff, Nat.reduceLT, Nat.reduceLeDiff, Nat.reduceAdd, Nat.reduceMul, Nat.reduceBEq, reduceCtorEq, Int.reduceEq, Int.reduceLT, Int.reduceLE, Int.reduceAdd, Int.reduceSub, Int.reduceNeg, h.ty3, h.ty4, h.ty9, h.ty34, h.ty22, h.eq34, q4]
      have hl : (put l x).length = l.length + 1 := by rw [hp, List.length_append, List.length_take, List.length_cons, List.length_drop]; omega
      obtain ⟨v', e, hv'⟩ := back_SV (σ := σ3) (l := put l x) h (.inr (.inr ⟨b, cs, false, rfl, qb, by rw [qc, ← hp]; exact List.take_of_length_le (by rw [flat_length]; omega)⟩))
      rw [← hl, e]
      exact hv'
  by_cases hil : pos l x < l.length
  · have hlt : decide ((pos l x : Int) < (l.length : Int)) = true := decide_eq_true (by omega)
    obtain ⟨y, hy⟩ : ∃ y, l[pos l x]? = some y := ⟨_, List.getElem?_eq_getElem hil⟩
    obtain ⟨pa, p1, p2⟩ := elem_SV h (hv.lv.sv [.cells 34 [.bool x.1, .str x.2] true]) hy
    have p2 := p2 _ (KeepC.refl _)
    by_cases hyx : y = x
    · have hd : decide (((y.1, y.2) : Lab) = (x.1, x.2)) = true := decide_eq_true hyx
      simp only [fnOf, Tryz.f30, KP, Ax.storeAt, ↓reduceIte, Nat.reduceEqDiff, Nat.reduceLT, Nat.reduceLeDiff, Nat.reduceAdd, Nat.reduceMul, Nat.reduceBEq, reduceCtorEq, Int.reduceEq, Int.reduceLT, Int.reduceLE, Int.reduceAdd, Int.reduceSub, Int.reduceNeg, h.ty3, h.ty4, h.ty9, h.ty34, h.ty22, h.eq34, g0, g3, g5, la, hlt, Ax.r_undraw d4, Ax.undraw, p1, p2, load_box h, eqV_lab h, hd]
      have hp := put_pos l x
      rw [if_pos (by rw [hy, hyx])] at hp
      rw [hp]
      rcases hv with ⟨rfl, rfl⟩ | ⟨full, rfl⟩
      · exact .inl ⟨rfl, rfl⟩
      · exact .inr ⟨full, rfl⟩
    · have hd : decide (((y.1, y.2) : Lab) = (x.1, x.2)) = false := decide_eq_false hyx
      simp only [fnOf, Tryz.f30, KP, Ax.storeAt, ↓reduceIte, Nat.reduceEqDiff, Nat.reduceLT, Nat.reduceLeDiff, Nat.reduceAdd, Nat.reduceMul, Nat.reduceBEq, reduceCtorEq, Int.reduceEq, Int.reduceLT, Int.reduceLE, Int.reduceAdd, Int.reduceSub, Int.reduceNeg, h.ty3, h.ty4, h.ty9, h.ty34, h.ty22, h.eq34, g0, g3, g5, la, hlt, Ax.r_undraw d4, Ax.undraw, p1, p2, load_box h, eqV_lab h, hd]
      have := fin (by rw [hy]; exact fun e => hyx (Option.some.inj e))
      simp only [true_and] at this
      refine this _ ?_ ?_ ?_ <;> simp only [Ax.FT.fill, Ax.FT.get_set, g0, g3, g5, KP, ↓reduceIte, Nat.reduceEqDiff, Nat.reduceLT, Nat.reduceLeDiff, Nat.reduceAdd, Nat.reduceMul, Nat.reduceBEq, reduceCtorEq, Int.reduceEq, Int.reduceLT, Int.reduceLE, Int.reduceAdd, Int.reduceSub, Int.reduceNeg]
  · have hlt : decide ((pos l x : Int) < (l.length : Int)) = false := decide_eq_false (by omega)
    simp only [fnOf, Tryz.f30, KP, Ax.storeAt, ↓reduceIte, Nat.reduceEqDiff, Nat.reduceLT, Nat.reduceLeDiff, Nat.reduceAdd, Nat.reduceMul, Nat.reduceBEq, reduceCtorEq, Int.reduceEq, Int.reduceLT, Int.reduceLE, Int.reduceAdd, Int.reduceSub, Int.reduceNeg, h.ty3, h.ty4, h.ty9, h.ty34, h.ty22, h.eq34, g0, g3, g5, la, hlt, Ax.r_undraw d4, Ax.undraw]
    have := fin (by rw [List.getElem?_eq_none (by omega)]; simp)
    simp only [true_and] at this
    refine this _ ?_ ?_ ?_ <;> simp only [Ax.FT.fill, Ax.FT.get_set, g0, g3, g5, KP, ↓reduceIte, Nat.reduceEqDiff, Nat.reduceLT, Nat.reduceLeDiff, Nat.reduceAdd, Nat.reduceMul, Nat.reduceBEq, reduceCtorEq, Int.reduceEq, Int.reduceLT, Int.reduceLE, Int.reduceAdd, Int.reduceSub, Int.reduceNeg]
end
end Go.Proofs.YtmbhjdkbcgngiaaGreatDoor
end
section
set_option linter.unusedVariables false
set_option linter.unusedSimpArgs false
set_option maxHeartbeats 2000000
set_option maxRecDepth 10000
namespace Go.Proofs.YtmbhjdkbcgngiaaGreatDoor
open Go Go.Ax Go.AxS
theorem put_length : ∀ (l : List Lab) (x : Lab), (put l x).length ≤ l.length + 1
  | [], _ => Nat.le_refl _
  | y :: r, x => by
    simp only [put]
    have := put_length r x
    split
    · simp only [List.length_cons]; omega
    · split <;> simp
theorem foldl_put_length : ∀ (l acc : List Lab), (l.foldl put acc).length ≤ acc.length + l.length
  | [], _ => Nat.le_refl _
  | x :: l, acc => by
    have h1 := foldl_put_length l (put acc x)
    have h2 := put_length acc x
    simp only [List.foldl_cons, List.length_cons]
    omega
section
variable {E : Env} {σ : Sg} {K : V → Sg → Prop}
theorem rSet_loop (h : LabE E) {a : V} {l : List Lab} (ha : LV a l) (hsm : l.length ≤ 10000000000) {s : List Kont} {Q : Ax.X → Fr → Sg → Prop}
    (hQ : ∀ (F' : FT) (w : V), LVf w (setOf l) → F'.get 3 = w → M E s .normal ⟨18, F'⟩ σ Q) :
    ∀ (k i : Nat) (F : FT) (w : V), i + k = l.length → LVf w (setOf (l.take i)) → F.get 0 = a → F.get 3 = w → F.get 4 = .int .i64 (i : Int) → R E (.loop (cutAt [1, 1, 0, 1, 2, 2] (fnOf Tryz.f18).code)) (.blk 0 :: s) ⟨18, F⟩ σ Q := by
  have la : lenOf E σ 22 a = some l.length := len_SV h (ha.sv σ)
  intro k
  induction k with
  | zero =>
    intro i F w hi hw g0 g3 g4
    have hlt : decide ((i : Int) < (l.length : Int)) = false := decide_eq_false (by omega)
    rw [Ax.r_loop]
    simp only [fnOf, Tryz.f18, KP, Ax.storeAt, ↓reduceIte, Nat.reduceEqDiff, Nat.reduceLT, Nat.reduceLeDiff, Nat.reduceAdd, Nat.reduceMul, Nat.reduceBEq, reduceCtorEq, Int.reduceEq, Int.reduceLT, Int.reduceLE, Int.reduceAdd, Int.reduceSub, Int.reduceNeg, h.ty3, h.ty4, h.ty9, h.ty34, h.ty22, h.eq34, cutAt, g0, g3, g4, la, hlt]
    rw [List.take_of_length_le (by omega)] at hw
    refine hQ _ w hw ?_
    simp only [Ax.FT.fill, Ax.FT.get_set, g3, KP, ↓reduceIte, Nat.reduceEqDiff, Nat.reduceLT, Nat.reduceLeDiff, Nat.reduceAdd, Nat.reduceMul, Nat.reduceBEq, reduceCtorEq, Int.reduceEq, Int.reduceLT, Int.reduceLE, Int.reduceAdd, Int.reduceSub, Int.reduceNeg]
  | succ k ih =>
    intro i F w hi hw g0 g3 g4
    have hlt : decide ((i : Int) < (l.length : Int)) = true := decide_eq_true (by omega)
    obtain ⟨x, hx⟩ : ∃ x, l[i]? = some x := ⟨_, List.getElem?_eq_getElem (by omega)⟩
    obtain ⟨pa, e1, e2⟩ := elem_SV h (ha.sv σ) hx
    have e2 := e2 σ (KeepC.refl σ)
    have hadd := wr_succ i (by omega)
    have hlen : (setOf (l.take i)).length ≤ 100000000000 := by
      have := foldl_put_length (l.take i) []
      have h2 : (l.take i).length ≤ l.length := by rw [List.length_take]; omega
      simp only [List.length_nil] at this
      show ((l.take i).foldl put []).length ≤ _
      omega
    rw [Ax.r_loop]
    simp only [fnOf, Tryz.f18, KP, Ax.storeAt, ↓reduceIte, Nat.reduceEqDiff, Nat.reduceLT, Nat.reduceLeDiff, Nat.reduceAdd, Nat.reduceMul, Nat.reduceBEq, reduceCtorEq, Int.reduceEq, Int.reduceLT, Int.reduceLE, Int.reduceAdd, Int.reduceSub, Int.reduceNeg, h.ty3, h.ty4, h.ty9, h.ty34, h.ty22, h.eq34, cutAt, g0, g3, g4, la, hlt, e1, e2]
    refine callK_intro (b_rAdd h (x := x) hw hlen) ?_
    rintro w' σ' ⟨rfl, hw'⟩
    simp only [fnOf, Tryz.f18, KP, Ax.storeAt, ↓reduceIte, Nat.reduceEqDiff, Nat.reduceLT, Nat.reduceLeDiff, Nat.reduceAdd, Nat.reduceMul, Nat.reduceBEq, reduceCtorEq, Int.reduceEq, Int.reduceLT, Int.reduceLE, Int.reduceAdd, Int.reduceSub, Int.reduceNeg, h.ty3, h.ty4, h.ty9, h.ty34, h.ty22, h.eq34, cutAt, g0, g3, g4, hadd]
    refine ih (i + 1) _ w' (by omega) ?_ ?_ ?_ ?_
    · rw [List.take_add_one, hx]
      show LVf w' ((l.take i ++ [x]).foldl put [])
      rw [List.foldl_append]
      exact hw'
    all_goals simp only [Ax.FT.fill, Ax.FT.get_set, g0, KP, ↓reduceIte, Nat.reduceEqDiff, Nat.reduceLT, Nat.reduceLeDiff, Nat.reduceAdd, Nat.reduceMul, Nat.reduceBEq, reduceCtorEq, Int.reduceEq, Int.reduceLT, Int.reduceLE, Int.reduceAdd, Int.reduceSub, Int.reduceNeg]
theorem b_rSet (h : LabE E) {v : V} {l : List Lab} (hv : SV σ v l) (hsm : l.length ≤ 10000000000) : WpCall E 18 [v] σ fun v' σ' => σ' = σ ∧ LVf v' (setOf l) := by
  obtain ⟨a, e1, ha⟩ := snap_SV h hv
  rw [wpCall_iso h.hs18 h.sp18 h.fn18 h.md18 (args' := [a]) (by simp only [mapO, e1]), enterF (by kernel_rfl)]
  simp only [fnOf, Tryz.f18, KP, Ax.storeAt, ↓reduceIte, Nat.reduceEqDiff, Nat.reduceLT, Nat.reduceLeDiff, Nat.reduceAdd, Nat.reduceMul, Nat.reduceBEq, reduceCtorEq, Int.reduceEq, Int.reduceLT, Int.reduceLE, Int.reduceAdd, Int.reduceSub, Int.reduceNeg, h.ty3, h.ty4, h.ty9, h.ty34, h.ty22, h.eq34]
  refine rSet_loop h ha hsm (fun F' w hw g3 => ?_) l.length 0 _ .nils (by omega) (.inl ⟨rfl, rfl⟩) ?_ ?_ ?_
  · simp only [fnOf, Tryz.f18, KP, Ax.storeAt, ↓reduceIte, Nat.reduceEqDiff, Nat.reduceLT, Nat.reduceLeDiff, Nat.reduceAdd, Nat.reduceMul, Nat.reduceBEq, reduceCtorEq, Int.reduceEq, Int.reduceLT, Int.reduceLE, Int.reduceAdd, Int.reduceSub, Int.reduceNeg, h.ty3, h.ty4, h.ty9, h.ty34, h.ty22, h.eq34, g3]
    rcases hw with ⟨rfl, e⟩ | ⟨full, rfl⟩
    · exact .inl ⟨rfl, e⟩
    · exact .inr ⟨full, rfl⟩
  all_goals simp only [Ax.FT.fill, Ax.FT.get_set, KP, ↓reduceIte, Nat.reduceEqDiff, Nat.reduceLT, Nat.reduceLeDiff, Nat.reduceAdd, Nat.reduceMul, Nat.reduceBEq, reduceCtorEq, Int.reduceEq, Int.reduceLT, Int.reduceLE, Int.reduceAdd, Int.reduceSub, Int.reduceNeg]
  all_goals rfl
end
end Go.Proofs.YtmbhjdkbcgngiaaGreatDoor
end
section
set_option linter.unusedVariables false
set_option linter.unusedSimpArgs false
set_option maxHeartbeats 2000000
namespace Go.Proofs.YtmbhjdkbcgngiaaGreatDoor
open Go Go.Ax Go.AxS
variable {σ : Sg} {K : V → Sg → Prop}
theorem c_isNaN (s : List Nat) : WpCall LE 127 [.str s] σ K = K (.bool false) σ := by
  refine WpCall.of ?_
  rw [wpCall_iso Lhs127 Lsp127 Lfn127 Lmd127 rfl]
  simp only [WpEnter, fnOf, Tryz.f127, ↓Ax.wp_skip, ↓Ax.wp_exit, ↓Ax.wp_ret, ↓Ax.wp_seq, ↓Ax.wp_cond, ↓Ax.wp_block, ↓Ax.wp_reg_arr, ↓Ax.wpOps_go, ↓Ax.wpOps_guard, ↓Ax.wpOps_nil, Ax.yielded, app3_nil, app3_def, ↓wpOp_move, ↓wpOp_assign, ↓wpOp_pick, ↓wpOp_alloc, ↓wpOp_box, ↓wpOp_build, ↓wpOp_buildSlice, ↓wpOp_load, ↓wpOp_store, ↓wpOp_nilCheck, ↓wpOp_binOp, ↓wpOp_unOp, ↓wpOp_convert, ↓wpOp_range, ↓wpOp_next, ↓wpOp_makeInterface, ↓wpOp_makeFunc, ↓wpOp_makeMap, ↓wpOp_makeSlice, ↓wpOp_slice, ↓wpOp_fieldAddr, ↓wpOp_field, ↓wpOp_indexAddr, ↓wpOp_index, ↓wpOp_lookup, ↓wpOp_mapUpdate, ↓wpOp_extract, ↓wpOp_builtin, ↓wpOp_call, Ax.evalO, Ax.evalOs, Ax.evalPs, Ax.evalX, Ax.ofValue, Ax.ofValue1, Ax.ofValues, Ax.putS, Ax.oPick, Ax.oAlloc, Ax.oBox, Ax.oBuild, Ax.oBuildSlice, Ax.oLoad, Ax.oStore, Ax.oNilCheck, Ax.oBinOp, Ax.oUnOp, Ax.oConvert, Ax.oMakeInterface, Ax.oMakeFunc, Ax.oMakeMap, Ax.oMakeSlice, Ax.oSlice, Ax.oFieldAddr, Ax.oField, Ax.oIndexAddr, Ax.oIndex, Ax.oLookup, Ax.oMapUpdate, Ax.oExtract, Ax.oBuiltin, Ax.builtin, Ax.lenOf, Ax.loadAt, Ax.storeAt, Ax.isAgg, Ax.isAggV, Ax.fieldAddr, Ax.field, Ax.part, Ax.bin, Ax.strOp, Ax.arith, Ax.unop, Ax.isConst, Ax.V.okCell, Ax.V.cells, Ax.setCells, ↓Ax.ret1, Ax.results, Ax.Fr.put_mk, Ax.Fr.get_mk, Ax.FT.get_set, Ax.FT.get_leaf, Ax.Fr.init, Ax.Fr.fill, ↓reduceIte, if_true, if_false, ite_true, ite_false, true_and, and_true, false_and, and_false, Option.map_some, Option.map_none, Option.bind_some, Option.bind_none, Option.some.injEq, Option.getD_some, Option.getD_none, Option.isSome_some, Option.isSome_none, List.getElem?_cons_zero, List.getElem?_cons_succ, List.getElem?_nil, List.getElem?_toArray, Nat.reduceEqDiff, Nat.reduceLT, Nat.reduceLeDiff, Nat.reduceAdd, Nat.reduceMul, Nat.reduceBEq, reduceCtorEq, Bool.not_true, Bool.not_false, Bool.or_self, Bool.or_false, Bool.false_or, Bool.or_true, Bool.true_or, Bool.false_eq_true, Bool.true_eq_false, Bool.true_and, Bool.and_true, Bool.false_and, Bool.and_false, Bool.and_self, BEq.rfl, beq_self_eq_true, decide_true, decide_false, Nat.beq_refl, List.length_cons, List.length_nil, List.take_zero, List.take_succ_cons, List.take_nil, List.drop_zero, List.drop_succ_cons, List.drop_nil, List.append_eq, List.nil_append, List.cons_append, List.append_nil, List.set_cons_zero, List.set_cons_succ, Nat.zero_add, Nat.add_zero, List.all_cons, List.all_nil, List.head?_cons, Nat.le_refl, Int.natCast_nonneg, Int.reduceEq, Int.reduceLT, Int.reduceLE, Int.reduceAdd, Int.reduceSub, Int.reduceNeg, eqI_eq, ltI_eq, leI_eq, addI_eq, subI_eq, beq_iff_eq, Bool.not_eq_true, Lty34, Lty9, Lty3, Lty4, Leq34, seq_dec]
  exact rfl
def cmpOf (s t : List Nat) : Int := if slt s t = true then -1 else if s = t then 0 else 1
theorem gt_dec (s t : List Nat) : (!(slt s t || Ax.seq s t)) = decide (cmpOf s t = 1) := by
  rw [seq_dec]
  unfold cmpOf
  cases h : slt s t with
  | true => rfl
  | false =>
    by_cases e : s = t
    · simp [e]
    · simp [e]
theorem c_cmp (s t : List Nat) : WpCall LE 96 [.str s, .str t] σ K = K (.int .i64 (cmpOf s t)) σ := by
  refine WpCall.of ?_
  rw [wpCall_iso Lhs96 Lsp96 Lfn96 Lmd96 rfl]
  cases h : slt s t with
  | true =>
    have e : cmpOf s t = -1 := by unfold cmpOf; rw [if_pos h]
    rw [e]
    simp only [WpEnter, fnOf, Tryz.f96, ↓Ax.wp_skip, ↓Ax.wp_exit, ↓Ax.wp_ret, ↓Ax.wp_seq, ↓Ax.wp_cond, ↓Ax.wp_block, ↓Ax.wp_reg_arr, ↓Ax.wpOps_go, ↓Ax.wpOps_guard, ↓Ax.wpOps_nil, Ax.yielded, app3_nil, app3_def, ↓wpOp_move, ↓wpOp_assign, ↓wpOp_pick, ↓wpOp_alloc, ↓wpOp_box, ↓wpOp_build, ↓wpOp_buildSlice, ↓wpOp_load, ↓wpOp_store, ↓wpOp_nilCheck, ↓wpOp_binOp, ↓wpOp_unOp, ↓wpOp_convert, ↓wpOp_range, ↓wpOp_next, ↓wpOp_makeInterface, ↓wpOp_makeFunc, ↓wpOp_makeMap, ↓wpOp_makeSlice, ↓wpOp_slice, ↓wpOp_fieldAddr, ↓wpOp_field, ↓wpOp_indexAddr, ↓wpOp_index, ↓wpOp_lookup, ↓wpOp_mapUpdate, ↓wpOp_extract, ↓wpOp_builtin, ↓wpOp_call, Ax.evalO, Ax.evalOs, Ax.evalPs, Ax.evalX, Ax.ofValue, Ax.ofValue1, Ax.ofValues, Ax.putS, Ax.oPick, Ax.oAlloc, Ax.oBox, Ax.oBuild, Ax.oBuildSlice, Ax.oLoad, Ax.oStore, Ax.oNilCheck, Ax.oBinOp, Ax.oUnOp, Ax.oConvert, Ax.oMakeInterface, Ax.oMakeFunc, Ax.oMakeMap, Ax.oMakeSlice, Ax.oSlice, Ax.oFieldAddr, Ax.oField, Ax.oIndexAddr, Ax.oIndex, Ax.oLookup, Ax.oMapUpdate, Ax.oExtract, Ax.oBuiltin, Ax.builtin, Ax.lenOf, Ax.loadAt, Ax.storeAt, Ax.isAgg, Ax.isAggV, Ax.fieldAddr, Ax.field, Ax.part, Ax.bin, Ax.strOp, Ax.arith, Ax.unop, Ax.isConst, Ax.V.okCell, Ax.V.cells, Ax.setCells, ↓Ax.ret1, Ax.results, Ax.Fr.put_mk, Ax.Fr.get_mk, Ax.FT.get_set, Ax.FT.get_leaf, Ax.Fr.init, Ax.Fr.fill, ↓reduceIte, if_true, if_false, ite_true, ite_false, true_and, and_true, false_and, and_false, Option.map_some, Option.map_none, Option.bind_some, Option.bind_none, Option.some.injEq, Option.getD_some, Option.getD_none, Option.isSome_some, Option.isSome_none, List.getElem?_cons_zero, List.getElem?_cons_succ, List.getElem?_nil, List.getElem?_toArray, Nat.reduceEqDiff, Nat.reduceLT, Nat.reduceLeDiff, Nat.reduceAdd, Nat.reduceMul, Nat.reduceBEq, reduceCtorEq, Bool.not_true, Bool.not_false, Bool.or_self, Bool.or_false, Bool.false_or, Bool.or_true, Bool.true_or, Bool.false_eq_true, Bool.true_eq_false, Bool.true_and, Bool.and_true, Bool.false_and, Bool.and_false, Bool.and_self, BEq.rfl, beq_self_eq_true, decide_true, decide_false, Nat.beq_refl, List.length_cons, List.length_nil, List.take_zero, List.take_succ_cons, List.take_nil, List.drop_zero, List.drop_succ_cons, List.drop_nil, List.append_eq, List.nil_append, List.cons_append, List.append_nil, List.set_cons_zero, List.set_cons_succ, Nat.zero_add, Nat.add_zero, List.all_cons, List.all_nil, List.head?_cons, Nat.le_refl, Int.natCast_nonneg, Int.reduceEq, Int.reduceLT, Int.reduceLE, Int.reduceAdd, Int.reduceSub, Int.reduceNeg, eqI_eq, ltI_eq, leI_eq, addI_eq, subI_eq, beq_iff_eq, Bool.not_eq_true, Lty34, Lty9, Lty3, Lty4, Leq34, ↓c_isNaN, h]
    exact rfl
  | false =>
    by_cases k : s = t
    · have e : cmpOf s t = 0 := by unfold cmpOf; rw [h, if_neg (by simp), if_pos k]
      rw [e]
      simp only [WpEnter, fnOf, Tryz.f96, ↓Ax.wp_skip, ↓Ax.wp_exit, ↓Ax.wp_ret, ↓Ax.wp_seq, ↓Ax.wp_cond, ↓Ax.wp_block, ↓Ax.wp_reg_arr, ↓Ax.wpOps_go, ↓Ax.wpOps_guard, ↓Ax.wpOps_nil, Ax.yielded, app3_nil, app3_def, ↓wpOp_move, ↓wpOp_assign, ↓wpOp_pick, ↓wpOp_alloc, ↓wpOp_box, ↓wpOp_build, ↓wpOp_buildSlice, ↓wpOp_load, ↓wpOp_store, ↓wpOp_nilCheck, ↓wpOp_binOp, ↓wpOp_unOp, ↓wpOp_convert, ↓wpOp_range, ↓wpOp_next, ↓wpOp_makeInterface, ↓wpOp_makeFunc, ↓wpOp_makeMap, ↓wpOp_makeSlice, ↓wpOp_slice, ↓wpOp_fieldAddr, ↓wpOp_field, ↓wpOp_indexAddr, ↓wpOp_index, ↓wpOp_lookup, ↓wpOp_mapUpdate, ↓wpOp_extract, ↓wpOp_builtin, ↓wpOp_call, Ax.evalO, Ax.evalOs, Ax.evalPs, Ax.evalX, Ax.ofValue, Ax.ofValue1, Ax.ofValues, Ax.putS, Ax.oPick, Ax.oAlloc, Ax.oBox, Ax.oBuild, Ax.oBuildSlice, Ax.oLoad, Ax.oStore, Ax.oNilCheck, Ax.oBinOp, Ax.oUnOp, Ax.oConvert, Ax.oMakeInterface, Ax.oMakeFunc, Ax.oMakeMap, Ax.oMakeSlice, Ax.oSlice, Ax.oFieldAddr, Ax.oField, Ax.oIndexAddr, Ax.oIndex, Ax.oLookup, Ax.oMapUpdate, Ax.oExtract, Ax.oBuiltin, Ax.builtin, Ax.lenOf, Ax.loadAt, Ax.storeAt, Ax.isAgg, Ax.isAggV, Ax.fieldAddr, Ax.field, Ax.part, Ax.bin, Ax.strOp, Ax.arith, Ax.unop, Ax.isConst, Ax.V.okCell, Ax.V.cells, Ax.setCells, ↓Ax.ret1, Ax.results, Ax.Fr.put_mk, Ax.Fr.get_mk, Ax.FT.get_set, Ax.FT.get_leaf, Ax.Fr.init, Ax.Fr.fill, ↓reduceIte, if_true, if_false, ite_true, ite_false, true_and, and_true, false_and, and_false, Option.map_some, Option.map_none, Option.bind_some, Option.bind_none, Option.some.injEq, Option.getD_some, Option.getD_none, Option.isSome_some, Option.isSome_none, List.getElem?_cons_zero, List.getElem?_cons_succ, List.getElem?_nil, List.getElem?_toArray, Nat.reduceEqDiff, Nat.reduceLT, Nat.reduceLeDiff, Nat.reduceAdd, Nat.reduceMul, Nat.reduceBEq, reduceCtorEq, Bool.not_true, Bool.not_false, Bool.or_self, Bool.or_false, Bool.false_or, Bool.or_true, Bool.true_or, Bool.false_eq_true, Bool.true_eq_false, Bool.true_and, Bool.and_true, Bool.false_and, Bool.and_false, Bool.and_self, BEq.rfl, beq_self_eq_true, decide_true, decide_false, Nat.beq_refl, List.length_cons, List.length_nil, List.take_zero, List.take_succ_cons, List.take_nil, List.drop_zero, List.drop_succ_cons, List.drop_nil, List.append_eq, List.nil_append, List.cons_append, List.append_nil, List.set_cons_zero, List.set_cons_succ, Nat.zero_add, Nat.add_zero, List.all_cons, List.all_nil, List.head?_cons, Nat.le_refl, Int.natCast_nonneg, Int.reduceEq, Int.reduceLT, Int.reduceLE, Int.reduceAdd, Int.reduceSub, Int.reduceNeg, eqI_eq, ltI_eq, leI_eq, addI_eq, subI_eq, beq_iff_eq, Bool.not_eq_true, Lty34, Lty9, Lty3, Lty4, Leq34, ↓c_isNaN, h, seq_dec, k, slt_irrefl]
      exact rfl
    · have e : cmpOf s t = 1 := by unfold cmpOf; rw [h, if_neg (by simp), if_neg k]
      rw [e]
      simp only [WpEnter, fnOf, Tryz.f96, ↓Ax.wp_skip, ↓Ax.wp_exit, ↓Ax.wp_ret, ↓Ax.wp_seq, ↓Ax.wp_cond, ↓Ax.wp_block, ↓Ax.wp_reg_arr, ↓Ax.wpOps_go, ↓Ax.wpOps_guard, ↓Ax.wpOps_nil, Ax.yielded, app3_nil, app3_def, ↓wpOp_move, ↓wpOp_assign, ↓wpOp_pick, ↓wpOp_alloc, ↓wpOp_box, ↓wpOp_build, ↓wpOp_buildSlice, ↓wpOp_load, ↓wpOp_store, ↓wpOp_nilCheck, ↓wpOp_binOp, ↓wpOp_unOp, ↓wpOp_convert, ↓wpOp_range, ↓wpOp_next, ↓wpOp_makeInterface, ↓wpOp_makeFunc, ↓wpOp_makeMap, ↓wpOp_makeSlice, ↓wpOp_slice, ↓wpOp_fieldAddr, ↓wpOp_field, ↓wpOp_indexAddr, ↓wpOp_index, ↓wpOp_lookup, ↓wpOp_mapUpdate, ↓wpOp_extract, ↓wpOp_builtin, ↓wpOp_call, Ax.evalO, Ax.evalOs, Ax.evalPs, Ax.evalX, Ax.ofValue, Ax.ofValue1, Ax.ofValues, Ax.putS, Ax.oPick, Ax.oAlloc, Ax.oBox, Ax.oBuild, Ax.oBuildSlice, Ax.oLoad, Ax.oStore, Ax.oNilCheck, Ax.oBinOp, Ax.oUnOp, Ax.oConvert, Ax.oMakeInterface, Ax.oMakeFunc, Ax.oMakeMap, Ax.oMakeSlice, Ax.oSlice, Ax.oFieldAddr, Ax.oField, Ax.oIndexAddr, Ax.oIndex, Ax.oLookup, Ax.oMapUpdate, Ax.oExtract, Ax.oBuiltin, Ax.builtin, Ax.lenOf, Ax.loadAt, Ax.storeAt, Ax.isAgg, Ax.isAggV, Ax.fieldAddr, Ax.field, Ax.part, Ax.bin, Ax.strOp, Ax.arith, Ax.unop, Ax.isConst, Ax.V.okCell, Ax.V.cells, Ax.setCells, ↓Ax.ret1, Ax.results, Ax.Fr.put_mk, Ax.Fr.get_mk, Ax.FT.get_set, Ax.FT.get_leaf, Ax.Fr.init, Ax.Fr.fill, ↓reduceIte, if_true, if_false, ite_true, ite_false, true_and, and_true, false_and, and_false, Option.map_some, Option.map_none, Option.bind_some, Option.bind_none, Option.some.injEq, Option.getD_some, Option.getD_none, Option.isSome_some, Option.isSome_none, List.getElem?_cons_zero, List.getElem?_cons_succ, List.getElem?_nil, List.getElem?_toArray, Nat.reduceEqDiff, Nat.reduceLT, Nat.reduceLeDiff, Nat.reduceAdd, Nat.reduceMul, Nat.reduceBEq, reduceCtorEq, Bool.not_true, Bool.not_false, Bool.or_self, Bool.or_false, Bool.false_or, Bool.or_true, Bool.true_or, Bool.false_eq_true, Bool.true_eq_false, Bool.true_and, Bool.and_true, Bool.false_and, Bool.and_false, Bool.and_self, BEq.rfl, beq_self_eq_true, decide_true, decide_false, Nat.beq_refl, List.length_cons, List.length_nil, List.take_zero, List.take_succ_cons, List.take_nil, List.drop_zero, List.drop_succ_cons, List.drop_nil, List.append_eq, List.nil_append, List.cons_append, List.append_nil, List.set_cons_zero, List.set_cons_succ, Nat.zero_add, Nat.add_zero, List.all_cons, List.all_nil, List.head?_cons, Nat.le_refl, Int.natCast_nonneg, Int.reduceEq, Int.reduceLT, Int.reduceLE, Int.reduceAdd, Int.reduceSub, Int.reduceNeg, eqI_eq, ltI_eq, leI_eq, addI_eq, subI_eq, beq_iff_eq, Bool.not_eq_true, Lty34, Lty9, Lty3, Lty4, Leq34, ↓c_isNaN, h, seq_dec, k]
      exact rfl
def ordOf (x y : Lab) : Int := if lt x y = true then -1 else if x = y then 0 else 1
theorem c_order (a b : Bool) (s t : List Nat) : WpCall LE 55 [.agg [.bool a, .str s], .agg [.bool b, .str t]] σ K = K (.int .i64 (ordOf (a, s) (b, t))) σ := by
  refine WpCall.of ?_
  rw [wpCall_iso Lhs55 Lsp55 Lfn55 Lmd55 rfl]
  cases a <;> cases b
  · have e : ordOf (false, s) (false, t) = cmpOf s t := by simp [ordOf, cmpOf, lt]
    rw [e]
    simp only [WpEnter, fnOf, Tryz.f55, ↓Ax.wp_skip, ↓Ax.wp_exit, ↓Ax.wp_ret, ↓Ax.wp_seq, ↓Ax.wp_cond, ↓Ax.wp_block, ↓Ax.wp_reg_arr, ↓Ax.wpOps_go, ↓Ax.wpOps_guard, ↓Ax.wpOps_nil, Ax.yielded, app3_nil, app3_def, ↓wpOp_move, ↓wpOp_assign, ↓wpOp_pick, ↓wpOp_alloc, ↓wpOp_box, ↓wpOp_build, ↓wpOp_buildSlice, ↓wpOp_load, ↓wpOp_store, ↓wpOp_nilCheck, ↓wpOp_binOp, ↓wpOp_unOp, ↓wpOp_convert, ↓wpOp_range, ↓wpOp_next, ↓wpOp_makeInterface, ↓wpOp_makeFunc, ↓wpOp_makeMap, ↓wpOp_makeSlice, ↓wpOp_slice, ↓wpOp_fieldAddr, ↓wpOp_field, ↓wpOp_indexAddr, ↓wpOp_index, ↓wpOp_lookup, ↓wpOp_mapUpdate, ↓wpOp_extract, ↓wpOp_builtin, ↓wpOp_call, Ax.evalO, Ax.evalOs, Ax.evalPs, Ax.evalX, Ax.ofValue, Ax.ofValue1, Ax.ofValues, Ax.putS, Ax.oPick, Ax.oAlloc, Ax.oBox, Ax.oBuild, Ax.oBuildSlice, Ax.oLoad, Ax.oStore, Ax.oNilCheck, Ax.oBinOp, Ax.oUnOp, Ax.oConvert, Ax.oMakeInterface, Ax.oMakeFunc, Ax.oMakeMap, Ax.oMakeSlice, Ax.oSlice, Ax.oFieldAddr, Ax.oField, Ax.oIndexAddr, Ax.oIndex, Ax.oLookup, Ax.oMapUpdate, Ax.oExtract, Ax.oBuiltin, Ax.builtin, Ax.lenOf, Ax.loadAt, Ax.storeAt, Ax.isAgg, Ax.isAggV, Ax.fieldAddr, Ax.field, Ax.part, Ax.bin, Ax.strOp, Ax.arith, Ax.unop, Ax.isConst, Ax.V.okCell, Ax.V.cells, Ax.setCells, ↓Ax.ret1, Ax.results, Ax.Fr.put_mk, Ax.Fr.get_mk, Ax.FT.get_set, Ax.FT.get_leaf, Ax.Fr.init, Ax.Fr.fill, ↓reduceIte, if_true, if_false, ite_true, ite_false, true_and, and_true, false_and, and_false, Option.map_some, Option.map_none, Option.bind_some, Option.bind_none, Option.some.injEq, Option.getD_some, Option.getD_none, Option.isSome_some, Option.isSome_none, List.getElem?_cons_zero, List.getElem?_cons_succ, List.getElem?_nil, List.getElem?_toArray, Nat.reduceEqDiff, Nat.reduceLT, Nat.reduceLeDiff, Nat.reduceAdd, Nat.reduceMul, Nat.reduceBEq, reduceCtorEq, Bool.not_true, Bool.not_false, Bool.or_self, Bool.or_false, Bool.false_or, Bool.or_true, Bool.true_or, Bool.false_eq_true, Bool.true_eq_false, Bool.true_and, Bool.and_true, Bool.false_and, Bool.and_false, Bool.and_self, BEq.rfl, beq_self_eq_true, decide_true, decide_false, Nat.beq_refl, List.length_cons, List.length_nil, List.take_zero, List.take_succ_cons, List.take_nil, List.drop_zero, List.drop_succ_cons, List.drop_nil, List.append_eq, List.nil_append, List.cons_append, List.append_nil, List.set_cons_zero, List.set_cons_succ, Nat.zero_add, Nat.add_zero, List.all_cons, List.all_nil, List.head?_cons, Nat.le_refl, Int.natCast_nonneg, Int.reduceEq, Int.reduceLT, Int.reduceLE, Int.reduceAdd, Int.reduceSub, Int.reduceNeg, eqI_eq, ltI_eq, leI_eq, addI_eq, subI_eq, beq_iff_eq, Bool.not_eq_true, Lty34, Lty9, Lty3, Lty4, Leq34, ↓c_cmp]
    exact rfl
  · have e : ordOf (false, s) (true, t) = -1 := by simp [ordOf, lt]
    rw [e]
    simp only [WpEnter, fnOf, Tryz.f55, ↓Ax.wp_skip, ↓Ax.wp_exit, ↓Ax.wp_ret, ↓Ax.wp_seq, ↓Ax.wp_cond, ↓Ax.wp_block, ↓Ax.wp_reg_arr, ↓Ax.wpOps_go, ↓Ax.wpOps_guard, ↓Ax.wpOps_nil, Ax.yielded, app3_nil, app3_def, ↓wpOp_move, ↓wpOp_assign, ↓wpOp_pick, ↓wpOp_alloc, ↓wpOp_box, ↓wpOp_build, ↓wpOp_buildSlice, ↓wpOp_load, ↓wpOp_store, ↓wpOp_nilCheck, ↓wpOp_binOp, ↓wpOp_unOp, ↓wpOp_convert, ↓wpOp_range, ↓wpOp_next, ↓wpOp_makeInterface, ↓wpOp_makeFunc, ↓wpOp_makeMap, ↓wpOp_makeSlice, ↓wpOp_slice, ↓wpOp_fieldAddr, ↓wpOp_field, ↓wpOp_indexAddr, ↓wpOp_index, ↓wpOp_lookup, ↓wpOp_mapUpdate, ↓wpOp_extract, ↓wpOp_builtin, ↓wpOp_call, Ax.evalO, Ax.evalOs, Ax.evalPs, Ax.evalX, Ax.ofValue, Ax.ofValue1, Ax.ofValues, Ax.putS, Ax.oPick, Ax.oAlloc, Ax.oBox, Ax.oBuild, Ax.oBuildSlice, Ax.oLoad, Ax.oStore, Ax.oNilCheck, Ax.oBinOp, Ax.oUnOp, Ax.oConvert, Ax.oMakeInterface, Ax.oMakeFunc, Ax.oMakeMap, Ax.oMakeSlice, Ax.oSlice, Ax.oFieldAddr, Ax.oField, Ax.oIndexAddr, Ax.oIndex, Ax.oLookup, Ax.oMapUpdate, Ax.oExtract, Ax.oBuiltin, Ax.builtin, Ax.lenOf, Ax.loadAt, Ax.storeAt, Ax.isAgg, Ax.isAggV, Ax.fieldAddr, Ax.field, Ax.part, Ax.bin, Ax.strOp, Ax.arith, Ax.unop, Ax.isConst, Ax.V.okCell, Ax.V.cells, Ax.setCells, ↓Ax.ret1, Ax.results, Ax.Fr.put_mk, Ax.Fr.get_mk, Ax.FT.get_set, Ax.FT.get_leaf, Ax.Fr.init, Ax.Fr.fill, ↓reduceIte, if_true, if_false, ite_true, ite_false, true_and, and_true, false_and, and_false, Option.map_some, Option.map_none, Option.bind_some, Option.bind_none, Option.some.injEq, Option.getD_some, Option.getD_none, Option.isSome_some, Option.isSome_none, List.getElem?_cons_zero, List.getElem?_cons_succ, List.getElem?_nil, List.getElem?_toArray, Nat.reduceEqDiff, Nat.reduceLT, Nat.reduceLeDiff, Nat.reduceAdd, Nat.reduceMul, Nat.reduceBEq, reduceCtorEq, Bool.not_true, Bool.not_false, Bool.or_self, Bool.or_false, Bool.false_or, Bool.or_true, Bool.true_or, Bool.false_eq_true, Bool.true_eq_false, Bool.true_and, Bool.and_true, Bool.false_and, Bool.and_false, Bool.and_self, BEq.rfl, beq_self_eq_true, decide_true, decide_false, Nat.beq_refl, List.length_cons, List.length_nil, List.take_zero, List.take_succ_cons, List.take_nil, List.drop_zero, List.drop_succ_cons, List.drop_nil, List.append_eq, List.nil_append, List.cons_append, List.append_nil, List.set_cons_zero, List.set_cons_succ, Nat.zero_add, Nat.add_zero, List.all_cons, List.all_nil, List.head?_cons, Nat.le_refl, Int.natCast_nonneg, Int.reduceEq, Int.reduceLT, Int.reduceLE, Int.reduceAdd, Int.reduceSub, Int.reduceNeg, eqI_eq, ltI_eq, leI_eq, addI_eq, subI_eq, beq_iff_eq, Bool.not_eq_true, Lty34, Lty9, Lty3, Lty4, Leq34, ↓c_cmp]
    exact rfl
  · have e : ordOf (true, s) (false, t) = 1 := by simp [ordOf, lt]
    rw [e]
    simp only [WpEnter, fnOf, Tryz.f55, ↓Ax.wp_skip, ↓Ax.wp_exit, ↓Ax.wp_ret, ↓Ax.wp_seq, ↓Ax.wp_cond, ↓Ax.wp_block, ↓Ax.wp_reg_arr, ↓Ax.wpOps_go, ↓Ax.wpOps_guard, ↓Ax.wpOps_nil, Ax.yielded, app3_nil, app3_def, ↓wpOp_move, ↓wpOp_assign, ↓wpOp_pick, ↓wpOp_alloc, ↓wpOp_box, ↓wpOp_build, ↓wpOp_buildSlice, ↓wpOp_load, ↓wpOp_store, ↓wpOp_nilCheck, ↓wpOp_binOp, ↓wpOp_unOp, ↓wpOp_convert, ↓wpOp_range, ↓wpOp_next, ↓wpOp_makeInterface, ↓wpOp_makeFunc, ↓wpOp_makeMap, ↓wpOp_makeSlice, ↓wpOp_slice, ↓wpOp_fieldAddr, ↓wpOp_field, ↓wpOp_indexAddr, ↓wpOp_index, ↓wpOp_lookup, ↓wpOp_mapUpdate, ↓wpOp_extract, ↓wpOp_builtin, ↓wpOp_call, Ax.evalO, Ax.evalOs, Ax.evalPs, Ax.evalX, Ax.ofValue, Ax.ofValue1, Ax.ofValues, Ax.putS, Ax.oPick, Ax.oAlloc, Ax.oBox, Ax.oBuild, Ax.oBuildSlice, Ax.oLoad, Ax.oStore, Ax.oNilCheck, Ax.oBinOp, Ax.oUnOp, Ax.oConvert, Ax.oMakeInterface, Ax.oMakeFunc, Ax.oMakeMap, Ax.oMakeSlice, Ax.oSlice, Ax.oFieldAddr, Ax.oField, Ax.oIndexAddr, Ax.oIndex, Ax.oLookup, Ax.oMapUpdate, Ax.oExtract, Ax.oBuiltin, Ax.builtin, Ax.lenOf, Ax.loadAt, Ax.storeAt, Ax.isAgg, Ax.isAggV, Ax.fieldAddr, Ax.field, Ax.part, Ax.bin, Ax.strOp, Ax.arith, Ax.unop, Ax.isConst, Ax.V.okCell, Ax.V.cells, Ax.setCells, ↓Ax.ret1, Ax.results, Ax.Fr.put_mk, Ax.Fr.get_mk, Ax.FT.get_set, Ax.FT.get_leaf, Ax.Fr.init, Ax.Fr.fill, ↓reduceIte, if_true, if_false, ite_true, ite_false, true_and, and_true, false_and, and_false, Option.map_some, Option.map_none, Option.bind_some, Option.bind_none, Option.some.injEq, Option.getD_some, Option.getD_none, Option.isSome_some, Option.isSome_none, List.getElem?_cons_zero, List.getElem?_cons_succ, List.getElem?_nil, List.getElem?_toArray, Nat.reduceEqDiff, Nat.reduceLT, Nat.reduceLeDiff, Nat.reduceAdd, Nat.reduceMul, Nat.reduceBEq, reduceCtorEq, Bool.not_true, Bool.not_false, Bool.or_self, Bool.or_false, Bool.false_or, Bool.or_true, Bool.true_or, Bool.false_eq_true, Bool.true_eq_false, Bool.true_and, Bool.and_true, Bool.false_and, Bool.and_false, Bool.and_self, BEq.rfl, beq_self_eq_true, decide_true, decide_false, Nat.beq_refl, List.length_cons, List.length_nil, List.take_zero, List.take_succ_cons, List.take_nil, List.drop_zero, List.drop_succ_cons, List.drop_nil, List.append_eq, List.nil_append, List.cons_append, List.append_nil, List.set_cons_zero, List.set_cons_succ, Nat.zero_add, Nat.add_zero, List.all_cons, List.all_nil, List.head?_cons, Nat.le_refl, Int.natCast_nonneg, Int.reduceEq, Int.reduceLT, Int.reduceLE, Int.reduceAdd, Int.reduceSub, Int.reduceNeg, eqI_eq, ltI_eq, leI_eq, addI_eq, subI_eq, beq_iff_eq, Bool.not_eq_true, Lty34, Lty9, Lty3, Lty4, Leq34, ↓c_cmp]
    exact rfl
  · have e : ordOf (true, s) (true, t) = cmpOf s t := by simp [ordOf, cmpOf, lt]
    rw [e]
    simp only [WpEnter, fnOf, Tryz.f55, ↓Ax.wp_skip, ↓Ax.wp_exit, ↓Ax.wp_ret, ↓Ax.wp_seq, ↓Ax.wp_cond, ↓Ax.wp_block, ↓Ax.wp_reg_arr, ↓Ax.wpOps_go, ↓Ax.wpOps_guard, ↓Ax.wpOps_nil, Ax.yielded, app3_nil, app3_def, ↓wpOp_move, ↓wpOp_assign, ↓wpOp_pick, ↓wpOp_alloc, ↓wpOp_box, ↓wpOp_build, ↓wpOp_buildSlice, ↓wpOp_load, ↓wpOp_store, ↓wpOp_nilCheck, ↓wpOp_binOp, ↓wpOp_unOp, ↓wpOp_convert, ↓wpOp_range, ↓wpOp_next, ↓wpOp_makeInterface, ↓wpOp_makeFunc, ↓wpOp_makeMap, ↓wpOp_makeSlice, ↓wpOp_slice, ↓wpOp_fieldAddr, ↓wpOp_field, ↓wpOp_indexAddr, ↓wpOp_index, ↓wpOp_lookup, ↓wpOp_mapUpdate, ↓wpOp_extract, ↓wpOp_builtin, ↓wpOp_call, Ax.evalO, Ax.evalOs, Ax.evalPs, Ax.evalX, Ax.ofValue, Ax.ofValue1, Ax.ofValues, Ax.putS, Ax.oPick, Ax.oAlloc, Ax.oBox, Ax.oBuild, Ax.oBuildSlice, Ax.oLoad, Ax.oStore, Ax.oNilCheck, Ax.oBinOp, Ax.oUnOp, Ax.oConvert, Ax.oMakeInterface, Ax.oMakeFunc, Ax.oMakeMap, Ax.oMakeSlice, Ax.oSlice, Ax.oFieldAddr, Ax.oField, Ax.oIndexAddr, Ax.oIndex, Ax.oLookup, Ax.oMapUpdate, Ax.oExtract, Ax.oBuiltin, Ax.builtin, Ax.lenOf, Ax.loadAt, Ax.storeAt, Ax.isAgg, Ax.isAggV, Ax.fieldAddr, Ax.field, Ax.part, Ax.bin, Ax.strOp, Ax.arith, Ax.unop, Ax.isConst, Ax.V.okCell, Ax.V.cells, Ax.setCells, ↓Ax.ret1, Ax.results, Ax.Fr.put_mk, Ax.Fr.get_mk, Ax.FT.get_set, Ax.FT.get_leaf, Ax.Fr.init, Ax.Fr.fill, ↓reduceIte, if_true, if_false, ite_true, ite_false, true_and, and_true, false_and, and_false, Option.map_some, Option.map_none, Option.bind_some, Option.bind_none, Option.some.injEq, Option.getD_some, Option.getD_none, Option.isSome_some, Option.isSome_none, List.getElem?_cons_zero, List.getElem?_cons_succ, List.getElem?_nil, List.getElem?_toArray, Nat.reduceEqDiff, Nat.reduceLT, Nat.reduceLeDiff, Nat.reduceAdd, Nat.reduceMul, Nat.reduceBEq, reduceCtorEq, Bool.not_true, Bool.not_false, Bool.or_self, Bool.or_false, Bool.false_or, Bool.or_true, Bool.true_or, Bool.false_eq_true, Bool.true_eq_false, Bool.true_and, Bool.and_true, Bool.false_and, Bool.and_false, Bool.and_self, BEq.rfl, beq_self_eq_true, decide_true, decide_false, Nat.beq_refl, List.length_cons, List.length_nil, List.take_zero, List.take_succ_cons, List.take_nil, List.drop_zero, List.drop_succ_cons, List.drop_nil, List.append_eq, List.nil_append, List.cons_append, List.append_nil, List.set_cons_zero, List.set_cons_succ, Nat.zero_add, Nat.add_zero, List.all_cons, List.all_nil, List.head?_cons, Nat.le_refl, Int.natCast_nonneg, Int.reduceEq, Int.reduceLT, Int.reduceLE, Int.reduceAdd, Int.reduceSub, Int.reduceNeg, eqI_eq, ltI_eq, leI_eq, addI_eq, subI_eq, beq_iff_eq, Bool.not_eq_true, Lty34, Lty9, Lty3, Lty4, Leq34, ↓c_cmp]
    exact rfl
theorem ordOf_neg (x y : Lab) : decide (ordOf x y < 0) = lt x y := by
  unfold ordOf
  cases h : lt x y with
  | true => rfl
  | false => by_cases e : x = y <;> simp [e]
theorem c_Less (a b : Bool) (s t : List Nat) : WpCall LE 20 [.agg [.bool a, .str s], .agg [.bool b, .str t]] σ K = K (.bool (lt (a, s) (b, t))) σ := by
  refine WpCall.of ?_
  rw [wpCall_iso Lhs20 Lsp20 Lfn20 Lmd20 rfl]
  simp only [WpEnter, fnOf, Tryz.f20, ↓Ax.wp_skip, ↓Ax.wp_exit, ↓Ax.wp_ret, ↓Ax.wp_seq, ↓Ax.wp_cond, ↓Ax.wp_block, ↓Ax.wp_reg_arr, ↓Ax.wpOps_go, ↓Ax.wpOps_guard, ↓Ax.wpOps_nil, Ax.yielded, app3_nil, app3_def, ↓wpOp_move, ↓wpOp_assign, ↓wpOp_pick, ↓wpOp_alloc, ↓wpOp_box, ↓wpOp_build, ↓wpOp_buildSlice, ↓wpOp_load, ↓wpOp_store, ↓wpOp_nilCheck, ↓wpOp_binOp, ↓wpOp_unOp, ↓wpOp_convert, ↓wpOp_range, ↓wpOp_next, ↓wpOp_makeInterface, ↓wpOp_makeFunc, ↓wpOp_makeMap, ↓wpOp_makeSlice, ↓wpOp_slice, ↓wpOp_fieldAddr, ↓wpOp_field, ↓wpOp_indexAddr, ↓wpOp_index, ↓wpOp_lookup, ↓wpOp_mapUpdate, ↓wpOp_extract, ↓wpOp_builtin, ↓wpOp_call, Ax.evalO, Ax.evalOs, Ax.evalPs, Ax.evalX, Ax.ofValue, Ax.ofValue1, Ax.ofValues, Ax.putS, Ax.oPick, Ax.oAlloc, Ax.oBox, Ax.oBuild, Ax.oBuildSlice, Ax.oLoad, Ax.oStore, Ax.oNilCheck, Ax.oBinOp, Ax.oUnOp, Ax.oConvert, Ax.oMakeInterface, Ax.oMakeFunc, Ax.oMakeMap, Ax.oMakeSlice, Ax.oSlice, Ax.oFieldAddr, Ax.oField, Ax.oIndexAddr, Ax.oIndex, Ax.oLookup, Ax.oMapUpdate, Ax.oExtract, Ax.oBuiltin, Ax.builtin, Ax.lenOf, Ax.loadAt, Ax.storeAt, Ax.isAgg, Ax.isAggV, Ax.fieldAddr, Ax.field, Ax.part, Ax.bin, Ax.strOp, Ax.arith, Ax.unop, Ax.isConst, Ax.V.okCell, Ax.V.cells, Ax.setCells, ↓Ax.ret1, Ax.results, Ax.Fr.put_mk, Ax.Fr.get_mk, Ax.FT.get_set, Ax.FT.get_leaf, Ax.Fr.init, Ax.Fr.fill, ↓reduceIte, if_true, if_false, ite_true, ite_false, true_and, and_true, false_and, and_false, Option.map_some, Option.map_none, Option.bind_some, Option.bind_none, Option.some.injEq, Option.getD_some, Option.getD_none, Option.isSome_some, Option.isSome_none, List.getElem?_cons_zero, List.getElem?_cons_succ, List.getElem?_nil, List.getElem?_toArray, Nat.reduceEqDiff, Nat.reduceLT, Nat.reduceLeDiff, Nat.reduceAdd, Nat.reduceMul, Nat.reduceBEq, reduceCtorEq, Bool.not_true, Bool.not_false, Bool.or_self, Bool.or_false, Bool.false_or, Bool.or_true, Bool.true_or, Bool.false_eq_true, Bool.true_eq_false, Bool.true_and, Bool.and_true, Bool.false_and, Bool.and_false, Bool.and_self, BEq.rfl, beq_self_eq_true, decide_true, decide_false, Nat.beq_refl, List.length_cons, List.length_nil, List.take_zero, List.take_succ_cons, List.take_nil, List.drop_zero, List.drop_succ_cons, List.drop_nil, List.append_eq, List.nil_append, List.cons_append, List.append_nil, List.set_cons_zero, List.set_cons_succ, Nat.zero_add, Nat.add_zero, List.all_cons, List.all_nil, List.head?_cons, Nat.le_refl, Int.natCast_nonneg, Int.reduceEq, Int.reduceLT, Int.reduceLE, Int.reduceAdd, Int.reduceSub, Int.reduceNeg, eqI_eq, ltI_eq, leI_eq, addI_eq, subI_eq, beq_iff_eq, Bool.not_eq_true, Lty34, Lty9, Lty3, Lty4, Leq34, ↓c_order, ordOf_neg]
  exact rfl
def nameOf (x : Lab) : List Nat := if x.1 = true then 58 :: x.2 else x.2
theorem c_Name (a : Bool) (s : List Nat) (hs : s.length ≤ 9223372036854775806) : WpCall LE 21 [.agg [.bool a, .str s]] σ K = K (.str (nameOf (a, s))) σ := by
  refine WpCall.of ?_
  rw [wpCall_iso Lhs21 Lsp21 Lfn21 Lmd21 rfl]
  have hl : decide ((Ax.bytes (ByteArray.mk #[58])).length + s.length ≤ 9223372036854775807) = true := decide_eq_true (by show 1 + s.length ≤ _; omega)
  cases a
  · simp only [WpEnter, fnOf, Tryz.f21, ↓Ax.wp_skip, ↓Ax.wp_exit, ↓Ax.wp_ret, ↓Ax.wp_seq, ↓Ax.wp_cond, ↓Ax.wp_block, ↓Ax.wp_reg_arr, ↓Ax.wpOps_go, ↓Ax.wpOps_guard, ↓Ax.wpOps_nil, Ax.yielded, app3_nil, app3_def, ↓wpOp_move, ↓wpOp_assign, ↓wpOp_pick, ↓wpOp_alloc, ↓wpOp_box, ↓wpOp_build, ↓wpOp_buildSlice, ↓wpOp_load, ↓wpOp_store, ↓wpOp_nilCheck, ↓wpOp_binOp, ↓wpOp_unOp, ↓wpOp_convert, ↓wpOp_range, ↓wpOp_next, ↓wpOp_makeInterface, ↓wpOp_makeFunc, ↓wpOp_makeMap, ↓wpOp_makeSlice, ↓wpOp_slice, ↓wpOp_fieldAddr, ↓wpOp_field, ↓wpOp_indexAddr, ↓wpOp_index, ↓wpOp_lookup, ↓wpOp_mapUpdate, ↓wpOp_extract, ↓wpOp_builtin, ↓wpOp_call, Ax.evalO, Ax.evalOs, Ax.evalPs, Ax.evalX, Ax.ofValue, Ax.ofValue1, Ax.ofValues, Ax.putS, Ax.oPick, Ax.oAlloc, Ax.oBox, Ax.oBuild, Ax.oBuildSlice, Ax.oLoad, Ax.oStore, Ax.oNilCheck, Ax.oBinOp, Ax.oUnOp, Ax.oConvert, Ax.oMakeInterface, Ax.oMakeFunc, Ax.oMakeMap, Ax.oMakeSlice, Ax.oSlice, Ax.oFieldAddr, Ax.oField, Ax.oIndexAddr, Ax.oIndex, Ax.oLookup, Ax.oMapUpdate, Ax.oExtract, Ax.oBuiltin, Ax.builtin, Ax.lenOf, Ax.loadAt, Ax.storeAt, Ax.isAgg, Ax.isAggV, Ax.fieldAddr, Ax.field, Ax.part, Ax.bin, Ax.strOp, Ax.arith, Ax.unop, Ax.isConst, Ax.V.okCell, Ax.V.cells, Ax.setCells, ↓Ax.ret1, Ax.results, Ax.Fr.put_mk, Ax.Fr.get_mk, Ax.FT.get_set, Ax.FT.get_leaf, Ax.Fr.init, Ax.Fr.fill, ↓reduceIte, if_true, if_false, ite_true, ite_false, true_and, and_true, false_and, and_false, Option.map_some, Option.map_none, Option.bind_some, Option.bind_none, Option.some.injEq, Option.getD_some, Option.getD_none, Option.isSome_some, Option.isSome_none, List.getElem?_cons_zero, List.getElem?_cons_succ, List.getElem?_nil, List.getElem?_toArray, Nat.reduceEqDiff, Nat.reduceLT, Nat.reduceLeDiff, Nat.reduceAdd, Nat.reduceMul, Nat.reduceBEq, reduceCtorEq, Bool.not_true, Bool.not_false, Bool.or_self, Bool.or_false, Bool.false_or, Bool.or_true, Bool.true_or, Bool.false_eq_true, Bool.true_eq_false, Bool.true_and, Bool.and_true, Bool.false_and, Bool.and_false, Bool.and_self, BEq.rfl, beq_self_eq_true, decide_true, decide_false, Nat.beq_refl, List.length_cons, List.length_nil, List.take_zero, List.take_succ_cons, List.take_nil, List.drop_zero, List.drop_succ_cons, List.drop_nil, List.append_eq, List.nil_append, List.cons_append, List.append_nil, List.set_cons_zero, List.set_cons_succ, Nat.zero_add, Nat.add_zero, List.all_cons, List.all_nil, List.head?_cons, Nat.le_refl, Int.natCast_nonneg, Int.reduceEq, Int.reduceLT, Int.reduceLE, Int.reduceAdd, Int.reduceSub, Int.reduceNeg, eqI_eq, ltI_eq, leI_eq, addI_eq, subI_eq, beq_iff_eq, Bool.not_eq_true, Lty34, Lty9, Lty3, Lty4, Leq34]
    exact rfl
  · simp only [WpEnter, fnOf, Tryz.f21, ↓Ax.wp_skip, ↓Ax.wp_exit, ↓Ax.wp_ret, ↓Ax.wp_seq, ↓Ax.wp_cond, ↓Ax.wp_block, ↓Ax.wp_reg_arr, ↓Ax.wpOps_go, ↓Ax.wpOps_guard, ↓Ax.wpOps_nil, Ax.yielded, app3_nil, app3_def, ↓wpOp_move, ↓wpOp_assign, ↓wpOp_pick, ↓wpOp_alloc, ↓wpOp_box, ↓wpOp_build, ↓wpOp_buildSlice, ↓wpOp_load, ↓wpOp_store, ↓wpOp_nilCheck, ↓wpOp_binOp, ↓wpOp_unOp, ↓wpOp_convert, ↓wpOp_range, ↓wpOp_next, ↓wpOp_makeInterface, ↓wpOp_makeFunc, ↓wpOp_makeMap, ↓wpOp_makeSlice, ↓wpOp_slice, ↓wpOp_fieldAddr, ↓wpOp_field, ↓wpOp_indexAddr, ↓wpOp_index, ↓wpOp_lookup, ↓wpOp_mapUpdate, ↓wpOp_extract, ↓wpOp_builtin, ↓wpOp_call, Ax.evalO, Ax.evalOs, Ax.evalPs, Ax.evalX, Ax.ofValue, Ax.ofValue1, Ax.ofValues, Ax.putS, Ax.oPick, Ax.oAlloc, Ax.oBox, Ax.oBuild, Ax.oBuildSlice, Ax.oLoad, Ax.oStore, Ax.oNilCheck, Ax.oBinOp, Ax.oUnOp, Ax.oConvert, Ax.oMakeInterface, Ax.oMakeFunc, Ax.oMakeMap, Ax.oMakeSlice, Ax.oSlice, Ax.oFieldAddr, Ax.oField, Ax.oIndexAddr, Ax.oIndex, Ax.oLookup, Ax.oMapUpdate, Ax.oExtract, Ax.oBuiltin, Ax.builtin, Ax.lenOf, Ax.loadAt, Ax.storeAt, Ax.isAgg, Ax.isAggV, Ax.fieldAddr, Ax.field, Ax.part, Ax.bin, Ax.strOp, Ax.arith, Ax.unop, Ax.isConst, Ax.V.okCell, Ax.V.cells, Ax.setCells, ↓Ax.ret1, Ax.results, Ax.Fr.put_mk, Ax.Fr.get_mk, Ax.FT.get_set, Ax.FT.get_leaf, Ax.Fr.init, Ax.Fr.fill, ↓reduceIte, if_true, if_false, ite_true, ite_false, true_and, and_true, false_and, and_false, Option.map_some, Option.map_none, Option.bind_some, Option.bind_none, Option.some.injEq, Option.getD_some, Option.getD_none, Option.isSome_some, Option.isSome_none, List.getElem?_cons_zero, List.getElem?_cons_succ, List.getElem?_nil, List.getElem?_toArray, Nat.reduceEqDiff, Nat.reduceLT, Nat.reduceLeDiff, Nat.reduceAdd, Nat.reduceMul, Nat.reduceBEq, reduceCtorEq, Bool.not_true, Bool.not_false, Bool.or_self, Bool.or_false, Bool.false_or, Bool.or_true, Bool.true_or, Bool.false_eq_true, Bool.true_eq_false, Bool.true_and, Bool.and_true, Bool.false_and, Bool.and_false, Bool.and_self, BEq.rfl, beq_self_eq_true, decide_true, decide_false, Nat.beq_refl, List.length_cons, List.length_nil, List.take_zero, List.take_succ_cons, List.take_nil, List.drop_zero, List.drop_succ_cons, List.drop_nil, List.append_eq, List.nil_append, List.cons_append, List.append_nil, List.set_cons_zero, List.set_cons_succ, Nat.zero_add, Nat.add_zero, List.all_cons, List.all_nil, List.head?_cons, Nat.le_refl, Int.natCast_nonneg, Int.reduceEq, Int.reduceLT, Int.reduceLE, Int.reduceAdd, Int.reduceSub, Int.reduceNeg, eqI_eq, ltI_eq, leI_eq, addI_eq, subI_eq, beq_iff_eq, Bool.not_eq_true, Lty34, Lty9, Lty3, Lty4, Leq34, hl]
    exact rfl
end Go.Proofs.YtmbhjdkbcgngiaaGreatDoor
end
section
set_option linter.unusedVariables false
set_option linter.unusedSimpArgs false
set_option maxHeartbeats 4000000
set_option maxRecDepth 10000
namespace Go.Proofs.YtmbhjdkbcgngiaaGreatDoor
open Go Go.Ax Go.AxS
section
variable {E : Env} {σ : Sg} {K : V → Sg → Prop}
theorem b_rName (h : LabE E) (a : Bool) (s : List Nat) (hs : s.length ≤ 9223372036854775806) : WpCall E 34 [.agg [.bool a, .str s]] σ K = K (.str (nameOf (a, s))) σ := by
  refine WpCall.of ?_
  rw [wpCall_iso h.hs34 h.sp34 h.fn34 h.md34 (args' := [.agg [.bool a, .str s]]) (rfl), enterF (by kernel_rfl)]
  have hl : decide ((Ax.bytes ⟨#[58]⟩).length + s.length ≤ 9223372036854775807) = true := decide_eq_true (by have : (Ax.bytes ⟨#[58]⟩).length = 1 := rfl; omega)
  cases a <;>
  · simp only [fnOf, Tryz.f34, KP, Ax.lenOf, Ax.loadAt, Ax.storeAt, ↓reduceIte, Nat.reduceEqDiff, Nat.reduceLT, Nat.reduceLeDiff, Nat.reduceAdd, Nat.reduceMul, Nat.reduceBEq, reduceCtorEq, Int.reduceEq, Int.reduceLT, Int.reduceLE, Int.reduceAdd, Int.reduceSub, Int.reduceNeg, h.ty3, h.ty4, h.ty9, h.ty34, h.ty22, h.ty25, h.ty28, h.ty30, h.ty32, h.ty61, h.eq34, hl]
    exact rfl
def sameP (x : Lab) : Lab → Bool := fun y => decide (y = x)
theorem Find_loop (h : LabE E) {x : Lab} {a : V} {l : List Lab} (ha : LV a l) (hsm : l.length ≤ 1000000000000) {s : List Kont} {Q : Ax.X → Fr → Sg → Prop}
    (hN : idx (sameP x) l 0 = -1 → ∀ F', M E s .normal ⟨19, F'⟩ [.cells 34 [.bool x.1, .str x.2] true] Q) (hR : ∀ (i : Nat) (F' : FT), idx (sameP x) l 0 = (i : Int) → F'.get 4 = .int .i64 (i : Int) → M E s .ret ⟨19, F'⟩ [.cells 34 [.bool x.1, .str x.2] true] Q) :
    ∀ (k i : Nat) (F : FT), i + k = l.length → idx (sameP x) l 0 = idx (sameP x) (l.drop i) i → F.get 0 = a → F.get 3 = .ref 0 0 → F.get 5 = .int .i64 (i : Int) → R E (.loop (cutAt [1, 0, 1, 2, 2] (fnOf Tryz.f27).code)) (.blk 0 :: s) ⟨19, F⟩ [.cells 34 [.bool x.1, .str x.2] true] Q := by
  have la : ∀ σ, lenOf E σ 22 a = some l.length := fun σ => len_SV h (ha.sv σ)
  have d4 := h.d27_4
  simp only [fnOf, Tryz.f27, cutAt, Option.getD_some] at d4
  intro k
  induction k with
  | zero =>
    intro i F hi hd g0 g3 g5
    have hlt : decide ((i : Int) < (l.length : Int)) = false := decide_eq_false (by omega)
    rw [Ax.r_loop]
    simp only [fnOf, Tryz.f27, KP, ↓reduceIte, Nat.reduceEqDiff, Nat.reduceLT, Nat.reduceLeDiff, Nat.reduceAdd, Nat.reduceMul, Nat.reduceBEq, reduceCtorEq, Int.reduceEq, Int.reduceLT, Int.reduceLE, Int.reduceAdd, Int.reduceSub, Int.reduceNeg, h.ty3, h.ty4, h.ty9, h.ty34, h.ty22, h.ty25, h.ty28, h.ty30, h.ty32, h.ty61, h.eq34, cutAt, g0, g3, g5, la, hlt]
    refine hN ?_ _
    rw [hd, List.drop_of_length_le (by omega)]
    rfl
  | succ k ih =>
    intro i F hi hd g0 g3 g5
    have hlt : decide ((i : Int) < (l.length : Int)) = true := decide_eq_true (by omega)
    obtain ⟨y, hy⟩ : ∃ y, l[i]? = some y := ⟨_, List.getElem?_eq_getElem (by omega)⟩
    obtain ⟨pa, e1, e2⟩ := elem_SV h (ha.sv [O.cells 34 [.bool x.1, .str x.2] true]) hy
    have e2 := e2 _ (KeepC.refl _)
    have hadd := wr_succ i (by omega)
    rw [idx_drop (sameP x) l i y hy] at hd
    rw [Ax.r_loop]
    by_cases hxy : y = x
    · have hq : decide (((y.1, y.2) : Lab) = (x.1, x.2)) = true := decide_eq_true hxy
      have hs : sameP x y = true := decide_eq_true hxy
      rw [if_pos hs] at hd
      simp only [fnOf, Tryz.f27, KP, ↓reduceIte, Nat.reduceEqDiff, Nat.reduceLT, Nat.reduceLeDiff, Nat.reduceAdd, Nat.reduceMul, Nat.reduceBEq, reduceCtorEq, Int.reduceEq, Int.reduceLT, Int.reduceLE, Int.reduceAdd, Int.reduceSub, Int.reduceNeg, h.ty3, h.ty4, h.ty9, h.ty34, h.ty22, h.ty25, h.ty28, h.ty30, h.ty32, h.ty61, h.eq34, cutAt, g0, g3, g5, la, hlt, Ax.r_undraw d4, Ax.undraw, e1, e2, load_bx h, eqV_lab h, hq]
      refine hR i _ hd ?_
      simp only [Ax.FT.fill, Ax.FT.get_set, KP, ↓reduceIte, Nat.reduceEqDiff, Nat.reduceLT, Nat.reduceLeDiff, Nat.reduceAdd, Nat.reduceMul, Nat.reduceBEq, reduceCtorEq, Int.reduceEq, Int.reduceLT, Int.reduceLE, Int.reduceAdd, Int.reduceSub, Int.reduceNeg]
    · have hq : decide (((y.1, y.2) : Lab) = (x.1, x.2)) = false := decide_eq_false hxy
      rw [if_neg (by unfold sameP; rw [decide_eq_false hxy]; simp)] at hd
      simp only [fnOf, Tryz.f27, KP, ↓reduceIte, Nat.reduceEqDiff, Nat.reduceLT, Nat.reduceLeDiff, Nat.reduceAdd, Nat.reduceMul, Nat.reduceBEq, reduceCtorEq, Int.reduceEq, Int.reduceLT, Int.reduceLE, Int.reduceAdd, Int.reduceSub, Int.reduceNeg, h.ty3, h.ty4, h.ty9, h.ty34, h.ty22, h.ty25, h.ty28, h.ty30, h.ty32, h.ty61, h.eq34, cutAt, g0, g3, g5, la, hlt, Ax.r_undraw d4, Ax.undraw, e1, e2, load_bx h, eqV_lab h, hq, hadd]
      refine ih (i + 1) _ (by omega) hd ?_ ?_ ?_ <;> simp only [Ax.FT.fill, Ax.FT.get_set, g0, g3, KP, ↓reduceIte, Nat.reduceEqDiff, Nat.reduceLT, Nat.reduceLeDiff, Nat.reduceAdd, Nat.reduceMul, Nat.reduceBEq, reduceCtorEq, Int.reduceEq, Int.reduceLT, Int.reduceLE, Int.reduceAdd, Int.reduceSub, Int.reduceNeg]
theorem b_Find (h : LabE E) {v : V} {l : List Lab} (x : Lab) (hv : SV σ v l) (hsm : l.length ≤ 1000000000000) :
    WpCall E 27 [v, .agg [.bool x.1, .str x.2]] σ K = K (.int .i64 (idx (sameP x) l 0)) σ := by
  refine WpCall.of ?_
  obtain ⟨a, e1, ha⟩ := snap_SV h hv
  have e2 : snapV σ E.ty true (.agg [.bool x.1, .str x.2]) = some (.agg [.bool x.1, .str x.2]) := rfl
  rw [wpCall_iso h.hs27 h.sp27 h.fn27 h.md27 (args' := [a, .agg [.bool x.1, .str x.2]]) (by simp only [mapO, e1, e2]), enterF (by kernel_rfl)]
  simp only [fnOf, Tryz.f27, KP, ↓reduceIte, Nat.reduceEqDiff, Nat.reduceLT, Nat.reduceLeDiff, Nat.reduceAdd, Nat.reduceMul, Nat.reduceBEq, reduceCtorEq, Int.reduceEq, Int.reduceLT, Int.reduceLE, Int.reduceAdd, Int.reduceSub, Int.reduceNeg, h.ty3, h.ty4, h.ty9, h.ty34, h.ty22, h.ty25, h.ty28, h.ty30, h.ty32, h.ty61, h.eq34]
  refine Find_loop h ha hsm (fun e F' => ?_) (fun i F' e g4 => ?_) l.length 0 _ (by omega) rfl ?_ ?_ ?_
  · simp only [fnOf, Tryz.f27, KP, ↓reduceIte, Nat.reduceEqDiff, Nat.reduceLT, Nat.reduceLeDiff, Nat.reduceAdd, Nat.reduceMul, Nat.reduceBEq, reduceCtorEq, Int.reduceEq, Int.reduceLT, Int.reduceLE, Int.reduceAdd, Int.reduceSub, Int.reduceNeg, h.ty3, h.ty4, h.ty9, h.ty34, h.ty22, h.ty25, h.ty28, h.ty30, h.ty32, h.ty61, h.eq34]
    rw [e]
    exact rfl
  · simp only [fnOf, Tryz.f27, KP, ↓reduceIte, Nat.reduceEqDiff, Nat.reduceLT, Nat.reduceLeDiff, Nat.reduceAdd, Nat.reduceMul, Nat.reduceBEq, reduceCtorEq, Int.reduceEq, Int.reduceLT, Int.reduceLE, Int.reduceAdd, Int.reduceSub, Int.reduceNeg, h.ty3, h.ty4, h.ty9, h.ty34, h.ty22, h.ty25, h.ty28, h.ty30, h.ty32, h.ty61, h.eq34, g4]
    rw [e]
    exact rfl
  all_goals simp only [Ax.FT.fill, Ax.FT.get_set, KP, ↓reduceIte, Nat.reduceEqDiff, Nat.reduceLT, Nat.reduceLeDiff, Nat.reduceAdd, Nat.reduceMul, Nat.reduceBEq, reduceCtorEq, Int.reduceEq, Int.reduceLT, Int.reduceLE, Int.reduceAdd, Int.reduceSub, Int.reduceNeg]
  all_goals rfl
theorem find_mem (x : Lab) (l : List Lab) : decide (0 ≤ idx (sameP x) l 0) = decide (x ∈ l) := by
  rcases idx_cases (sameP x) l 0 with ⟨e, hall⟩ | ⟨a, y, b, hl, e, hy, -⟩
  · rw [e, decide_eq_false (by omega)]
    refine (decide_eq_false fun hx => ?_).symm
    have := hall x hx
    unfold sameP at this
    rw [decide_eq_true rfl] at this
    cases this
  · rw [e, decide_eq_true (by omega)]
    have e2 : y = x := of_decide_eq_true hy
    subst e2
    exact (decide_eq_true (by rw [hl]; exact List.mem_append_right _ (List.mem_cons_self ..))).symm
/-- a list of one's own, made behind L -/
def OW (L : Nat) (σ : Sg) (v : V) (l : List Lab) : Prop := (v = .nils ∧ l = []) ∨ ∃ j, L ≤ j ∧ v = .sl j 0 l.length none ∧ σ[j]? = some (.cells 34 (l.flatMap row) false)
theorem OW.sv {L : Nat} {v : V} {l : List Lab} (h : OW L σ v l) : SV σ v l := by
  rcases h with h | ⟨j, _, h1, h2⟩
  · exact .inl h
  · exact .inr (.inr ⟨j, _, _, h1, h2, List.take_of_length_le (by rw [flat_length]; exact Nat.le_refl _)⟩)
def Apart (v w : V) : Prop := ∀ j n c j' n' c', v = .sl j 0 n c → w = .sl j' 0 n' c' → j ≠ j'
theorem setCells_nil (cs : List V) (o : Nat) : setCells cs o [] = cs := by
  unfold setCells
  rw [List.append_nil, List.length_nil, Nat.add_zero, List.take_append_drop]
/-- append to a list of one's own -/
theorem app_OW (h : LabE E) {L : Nat} {v w x : V} {l m lw : List Lab} (hL : L ≤ σ.length) (hv : OW L σ v l) (hx : elems σ 2 x = some (m.flatMap row, m.length)) (hsm : l.length + m.length ≤ 1000000000) (hw : OW L σ w lw) (ha : Apart v w) :
    ∃ v' σ', Ax.append E σ #[22, 22] v x = some (v', σ') ∧ OW L σ' v' (l ++ m) ∧ OW L σ' w lw ∧ Apart v' w ∧ L ≤ σ'.length ∧ (∀ j o, j < L → σ[j]? = some o → σ'[j]? = some o) := by
  have pl : plainArg E #[22, 22] = true := by
    show (match E.ty 22 with
      | some xi => !isIntK xi.kd
      | none => false) = true
    rw [h.ty22]
    rfl
  have ht : (#[22, 22] : Array Nat)[0]? = some 22 := rfl
  have keepw : ∀ τ : Sg, OW L σ w lw → OW L (σ ++ τ) w lw := fun τ hw => hw.imp id fun ⟨j, h1, h2, h3⟩ => ⟨j, h1, h2, get_app h3 τ⟩
  have apw : ∀ n, OW L σ w lw → Apart (.sl σ.length 0 n none) w := fun n hw j n c j' n' c' e1 e2 => by
    cases e1
    rcases hw with ⟨rfl, -⟩ | ⟨j2, -, rfl, h3⟩
    · cases e2
    · cases e2
      have := (List.getElem?_eq_some_iff.1 h3).1
      omega
  rcases hv with ⟨rfl, rfl⟩ | ⟨j, hj, rfl, hc⟩
  · by_cases hm : m.length = 0
    · have hm' : m = [] := List.length_eq_zero_iff.1 hm
      subst hm'
      refine ⟨.nils, σ, ?_, .inl ⟨rfl, rfl⟩, hw, (fun j n c j' n' c' e => by cases e), hL, fun _ _ _ e => e⟩
      unfold Ax.append
      simp only [ht, h.ty22, h.ty34, pl, hx]
      rfl
    · refine ⟨.sl σ.length 0 m.length none, σ ++ [.cells 34 (m.flatMap row) false], ?_, .inr ⟨_, hL, rfl, ?_⟩, keepw _ hw, apw _ hw, by rw [List.length_append]; omega, fun j o _ e => get_app e _⟩
      · unfold Ax.append
        simp only [ht, h.ty22, h.ty34, pl, hx]
        rw [if_neg hm, roomy_ok m.length (by omega)]
        rfl
      · rw [List.getElem?_append_right (Nat.le_refl _), Nat.sub_self]; rfl
  · have hjl := (List.getElem?_eq_some_iff.1 hc).1
    have hfl := flat_length l
    have c1 : decide (0 + l.length * 2 ≤ (l.flatMap row).length) = true := decide_eq_true (by omega)
    have rm : roomy (l.length + m.length) 24 = true := roomy_ok _ (by omega)
    by_cases hm : m.length = 0
    · have hm' : m = [] := List.length_eq_zero_iff.1 hm
      subst hm'
      refine ⟨.sl j 0 l.length none, σ, ?_, .inr ⟨j, hj, by rw [List.append_nil], by rw [List.append_nil]; exact hc⟩, hw, ha, hL, fun _ _ _ e => e⟩
      unfold Ax.append
      simp only [ht, h.ty22, h.ty34, pl, hx, hc]
      rw [c1, rm]
      have c2 : 0 + (l.length + ([] : List Lab).length) * 2 ≤ (l.flatMap row).length := by rw [List.length_nil]; omega
      show (if 0 + (l.length + ([] : List Lab).length) * 2 ≤ (l.flatMap row).length then some (V.sl j 0 (l.length + ([] : List Lab).length) none, σ.set j (.cells 34 (setCells (l.flatMap row) (0 + l.length * 2) ([].flatMap row)) false)) else _) = _
      rw [if_pos c2, show (([] : List Lab).flatMap row) = [] from rfl, setCells_nil]
      have : σ.set j (.cells 34 (l.flatMap row) false) = σ := by
        rw [← (List.getElem?_eq_some_iff.1 hc).2, List.set_getElem_self]
      rw [this]
      rfl
    · refine ⟨.sl σ.length 0 (l.length + m.length) none, σ.set j .dead ++ [.cells 34 (l.flatMap row ++ m.flatMap row) false], ?_, .inr ⟨_, hL, by rw [List.length_append], ?_⟩, ?_, apw _ hw, ?_, fun j' o hj' e => get_app (by rw [List.getElem?_set_ne (by omega)]; exact e) _⟩
      · unfold Ax.append
        simp only [ht, h.ty22, h.ty34, pl, hx, hc]
        rw [c1, rm]
        have c2 : ¬ (0 + (l.length + m.length) * 2 ≤ (l.flatMap row).length) := by omega
        show (if 0 + (l.length + m.length) * 2 ≤ (l.flatMap row).length then _ else some (V.sl σ.length 0 (l.length + m.length) none, σ.set j .dead ++ [.cells 34 ((l.flatMap row).take (l.length * 2) ++ m.flatMap row) false])) = _
        rw [if_neg c2, List.take_of_length_le (by omega)]
      · rw [show σ.length = (σ.set j O.dead).length by rw [List.length_set], List.getElem?_append_right (Nat.le_refl _), Nat.sub_self, List.flatMap_append]
        rfl
      · refine hw.imp id fun ⟨j2, h1, h2, h3⟩ => ⟨j2, h1, h2, get_app ?_ _⟩
        have := ha j _ _ j2 _ _ rfl h2
        rw [List.getElem?_set_ne this]
        exact h3
      · rw [List.length_append, List.length_set]; omega
end
end Go.Proofs.YtmbhjdkbcgngiaaGreatDoor
end
section
set_option linter.unusedVariables false
set_option linter.unusedSimpArgs false
set_option maxHeartbeats 4000000
set_option maxRecDepth 10000
namespace Go.Proofs.YtmbhjdkbcgngiaaGreatDoor
open Go Go.Ax Go.AxS
section
variable {E : Env} {σ : Sg} {K : V → Sg → Prop}
structure TwoL (σ0 σ' : Sg) (vm vb : V) (lm lb : List Lab) : Prop where
  kp : ∀ j o, j < σ0.length → σ0[j]? = some o → σ'[j]? = some o
  len : σ0.length ≤ σ'.length
  om : OW σ0.length σ' vm lm
  ob : OW σ0.length σ' vb lb
  ap : Apart vm vb
theorem OW.app {L : Nat} {v : V} {l : List Lab} (h : OW L σ v l) (τ : Sg) : OW L (σ ++ τ) v l := h.imp id fun ⟨j, h1, h2, h3⟩ => ⟨j, h1, h2, get_app h3 τ⟩
theorem Apart.symm {v w : V} (h : Apart v w) : Apart w v := fun j n c j' n' c' e1 e2 e => h _ _ _ _ _ _ e2 e1 e.symm
theorem all_loop (h : LabE E) {F0 : FT} {p q : V} {P Q0 : List Lab} (hp : LV p P) (hq : LV q Q0) (hsP : P.length ≤ 10000) (hsQ : Q0.length ≤ 10000) {σ0 : Sg} {s : List Kont} {Q : Ax.X → Fr → Sg → Prop} (q13 : F0.get 13 = q)
    (hQ : ∀ (F' : FT) (σ' : Sg) (vm vb : V), TwoL σ0 σ' vm vb (P.filter fun x => decide (x ∈ Q0)) (P.filter fun x => !decide (x ∈ Q0)) → F'.get 14 = vm → F'.get 15 = vb → F'.get 0 = F0.get 0 → F'.get 1 = F0.get 1 → F'.get 6 = F0.get 6 → F'.get 7 = F0.get 7 → F'.get 10 = F0.get 10 → F'.get 11 = F0.get 11 → F'.get 12 = F0.get 12 → F'.get 13 = F0.get 13 → M E s .normal ⟨187, F'⟩ σ' Q) :
    ∀ (k i : Nat) (F : FT) (σ' : Sg) (vm vb : V), i + k = P.length → TwoL σ0 σ' vm vb ((P.take i).filter fun x => decide (x ∈ Q0)) ((P.take i).filter fun x => !decide (x ∈ Q0)) → F.get 14 = vm → F.get 15 = vb → F.get 38 = p → F.get 39 = .int .i64 (P.length : Int) → F.get 40 = .int .i64 (i : Int) → F.get 0 = F0.get 0 → F.get 1 = F0.get 1 → F.get 6 = F0.get 6 → F.get 7 = F0.get 7 → F.get 10 = F0.get 10 → F.get 11 = F0.get 11 → F.get 12 = F0.get 12 → F.get 13 = F0.get 13 →
      R E (.loop (cutAt [1, 1, 1, 1, 1, 1, 1, 0, 1, 2, 2] (fnOf Tryz.f6).code)) (.blk 0 :: s) ⟨187, F⟩ σ' Q := by
  intro k
  induction k with
  | zero =>
    intro i F σ' vm vb hi ht g14 g15 g38 g39 g40 f0 f1 f6 f7 f10 f11 f12 f13
    have hlt : decide ((i : Int) < (P.length : Int)) = false := decide_eq_false (by omega)
    rw [List.take_of_length_le (by omega)] at ht
    rw [Ax.r_loop]
    simp only [fnOf, Tryz.f6, KP, ↓reduceIte, Nat.reduceEqDiff, Nat.reduceLT, Nat.reduceLeDiff, Nat.reduceAdd, Nat.reduceMul, Nat.reduceBEq, reduceCtorEq, Int.reduceEq, Int.reduceLT, Int.reduceLE, Int.reduceAdd, Int.reduceSub, Int.reduceNeg, h.ty3, h.ty4, h.ty9, h.ty34, h.ty22, h.ty25, h.ty28, h.ty30, h.ty32, h.ty61, h.eq34, cutAt, g38, g39, g40, hlt]
    refine hQ _ _ _ _ ht ?_ ?_ ?_ ?_ ?_ ?_ ?_ ?_ ?_ ?_ <;> simp only [Ax.FT.fill, Ax.FT.get_set, g14, g15, f0, f1, f6, f7, f10, f11, f12, f13, KP, ↓reduceIte, Nat.reduceEqDiff, Nat.reduceLT, Nat.reduceLeDiff, Nat.reduceAdd, Nat.reduceMul, Nat.reduceBEq, reduceCtorEq, Int.reduceEq, Int.reduceLT, Int.reduceLE, Int.reduceAdd, Int.reduceSub, Int.reduceNeg]
  | succ k ih =>
    intro i F σ' vm vb hi ht g14 g15 g38 g39 g40 f0 f1 f6 f7 f10 f11 f12 f13
    have hlt : decide ((i : Int) < (P.length : Int)) = true := decide_eq_true (by omega)
    obtain ⟨x, hx⟩ : ∃ x, P[i]? = some x := ⟨_, List.getElem?_eq_getElem (by omega)⟩
    obtain ⟨pa, e1, e2⟩ := elem_SV h (hp.sv σ') hx
    have e2' := e2 σ' (KeepC.refl _)
    have e2 := e2 _ (KeepC.app σ' [O.cells 34 [.bool false, .str []] true])
    have hadd := wr_succ i (by omega)
    have t1 : P.take (i + 1) = P.take i ++ [x] := by rw [List.take_add_one, hx]; rfl
    have hl1 : ((P.take i).filter fun x => decide (x ∈ Q0)).length + 1 ≤ 1000000000 := by
      have := List.length_filter_le (fun x => decide (x ∈ Q0)) (P.take i)
      rw [List.length_take] at this
      omega
    have hl2 : ((P.take i).filter fun x => !decide (x ∈ Q0)).length + 1 ≤ 1000000000 := by
      have := List.length_filter_le (fun x => !decide (x ∈ Q0)) (P.take i)
      rw [List.length_take] at this
      omega
    have f13' := f13.trans q13
    rw [Ax.r_loop]
    simp only [fnOf, Tryz.f6, KP, ↓reduceIte, Nat.reduceEqDiff, Nat.reduceLT, Nat.reduceLeDiff, Nat.reduceAdd, Nat.reduceMul, Nat.reduceBEq, reduceCtorEq, Int.reduceEq, Int.reduceLT, Int.reduceLE, Int.reduceAdd, Int.reduceSub, Int.reduceNeg, h.ty3, h.ty4, h.ty9, h.ty34, h.ty22, h.ty25, h.ty28, h.ty30, h.ty32, h.ty61, h.eq34, cutAt, g38, g39, g40, hlt, e1, e2, e2', store_new h, load_new h, f13']
    rw [callK_of fun K => b_Find (K := K) h x (hq.sv _) (by omega)]
    have fm := find_mem x Q0
    by_cases hxq : x ∈ Q0
    · rw [decide_eq_true hxq] at fm
      have c1 : (σ' ++ [O.cells 34 [.bool x.1, .str x.2] true] ++ [O.cells 34 [.bool x.1, .str x.2] true])[(σ' ++ [O.cells 34 [.bool x.1, .str x.2] true]).length]? = some (.cells 34 [.bool x.1, .str x.2] true) := by
        rw [List.getElem?_append_right (Nat.le_refl _), Nat.sub_self]; rfl
      have el : elems (σ' ++ [O.cells 34 [.bool x.1, .str x.2] true] ++ [O.cells 34 [.bool x.1, .str x.2] true]) 2 (.sl (σ' ++ [O.cells 34 [.bool x.1, .str x.2] true]).length 0 1 none) = some ([x].flatMap row, [x].length) := by
        show (match (σ' ++ [O.cells 34 [.bool x.1, .str x.2] true] ++ [O.cells 34 [.bool x.1, .str x.2] true])[(σ' ++ [O.cells 34 [.bool x.1, .str x.2] true]).length]? with
          | some (.cells _ cs _) => if 0 + 1 * 2 ≤ cs.length then some ((cs.drop 0).take (1 * 2), 1) else none
          | _ => none) = _
        rw [c1]; rfl
      obtain ⟨v', σ4, ea, o1, o2, ap', len', kp'⟩ := app_OW h (v := vm) (w := vb) (m := [x]) (show σ0.length ≤ (σ' ++ [O.cells 34 [.bool x.1, .str x.2] true] ++ [O.cells 34 [.bool x.1, .str x.2] true]).length by rw [List.length_append, List.length_append]; have := ht.len; omega)
        ((ht.om.app _).app _) el (by rw [List.length_singleton]; exact hl1) ((ht.ob.app _).app _) ht.ap
      simp only [fnOf, Tryz.f6, KP, ↓reduceIte, Nat.reduceEqDiff, Nat.reduceLT, Nat.reduceLeDiff, Nat.reduceAdd, Nat.reduceMul, Nat.reduceBEq, reduceCtorEq, Int.reduceEq, Int.reduceLT, Int.reduceLE, Int.reduceAdd, Int.reduceSub, Int.reduceNeg, h.ty3, h.ty4, h.ty9, h.ty34, h.ty22, h.ty25, h.ty28, h.ty30, h.ty32, h.ty61, h.eq34, cutAt, g14, g15, g38, g39, g40, fm, store_new h, load_new h, Ax.fill, Ax.reps, ea, hadd]
      refine ih (i + 1) _ _ v' vb (by omega) ⟨fun j o hj e => kp' j o hj (get_app (get_app (ht.kp j o hj e) _) _), len', ?_, ?_, ap'⟩ ?_ ?_ ?_ ?_ ?_ ?_ ?_ ?_ ?_ ?_ ?_ ?_ ?_ 
      · rw [t1, List.filter_append]
        simpa [hxq] using o1
      · rw [t1, List.filter_append]
        simpa [hxq] using o2
      all_goals simp only [Ax.FT.fill, Ax.FT.get_set, g14, g15, g38, g39, f0, f1, f6, f7, f10, f11, f12, f13, KP, ↓reduceIte, Nat.reduceEqDiff, Nat.reduceLT, Nat.reduceLeDiff, Nat.reduceAdd, Nat.reduceMul, Nat.reduceBEq, reduceCtorEq, Int.reduceEq, Int.reduceLT, Int.reduceLE, Int.reduceAdd, Int.reduceSub, Int.reduceNeg]
    · rw [decide_eq_false hxq] at fm
      have c1 : (σ' ++ [O.cells 34 [.bool x.1, .str x.2] true] ++ [O.cells 34 [.bool x.1, .str x.2] true])[(σ' ++ [O.cells 34 [.bool x.1, .str x.2] true]).length]? = some (.cells 34 [.bool x.1, .str x.2] true) := by
        rw [List.getElem?_append_right (Nat.le_refl _), Nat.sub_self]; rfl
      have el : elems (σ' ++ [O.cells 34 [.bool x.1, .str x.2] true] ++ [O.cells 34 [.bool x.1, .str x.2] true]) 2 (.sl (σ' ++ [O.cells 34 [.bool x.1, .str x.2] true]).length 0 1 none) = some ([x].flatMap row, [x].length) := by
        show (match (σ' ++ [O.cells 34 [.bool x.1, .str x.2] true] ++ [O.cells 34 [.bool x.1, .str x.2] true])[(σ' ++ [O.cells 34 [.bool x.1, .str x.2] true]).length]? with
          | some (.cells _ cs _) => if 0 + 1 * 2 ≤ cs.length then some ((cs.drop 0).take (1 * 2), 1) else none
          | _ => none) = _
        rw [c1]; rfl
      obtain ⟨v', σ4, ea, o1, o2, ap', len', kp'⟩ := app_OW h (v := vb) (w := vm) (m := [x]) (show σ0.length ≤ (σ' ++ [O.cells 34 [.bool x.1, .str x.2] true] ++ [O.cells 34 [.bool x.1, .str x.2] true]).length by rw [List.length_append, List.length_append]; have := ht.len; omega)
        ((ht.ob.app _).app _) el (by rw [List.length_singleton]; exact hl2) ((ht.om.app _).app _) ht.ap.symm
      simp only [fnOf, Tryz.f6, KP, ↓reduceIte, Nat.reduceEqDiff, Nat.reduceLT, Nat.reduceLeDiff, Nat.reduceAdd, Nat.reduceMul, Nat.reduceBEq, reduceCtorEq, Int.reduceEq, Int.reduceLT, Int.reduceLE, Int.reduceAdd, Int.reduceSub, Int.reduceNeg, h.ty3, h.ty4, h.ty9, h.ty34, h.ty22, h.ty25, h.ty28, h.ty30, h.ty32, h.ty61, h.eq34, cutAt, g14, g15, g38, g39, g40, fm, store_new h, load_new h, Ax.fill, Ax.reps, ea, hadd]
      refine ih (i + 1) _ _ vm v' (by omega) ⟨fun j o hj e => kp' j o hj (get_app (get_app (ht.kp j o hj e) _) _), len', ?_, ?_, ap'.symm⟩ ?_ ?_ ?_ ?_ ?_ ?_ ?_ ?_ ?_ ?_ ?_ ?_ ?_ 
      · rw [t1, List.filter_append]
        simpa [hxq] using o2
      · rw [t1, List.filter_append]
        simpa [hxq] using o1
      all_goals simp only [Ax.FT.fill, Ax.FT.get_set, g14, g15, g38, g39, f0, f1, f6, f7, f10, f11, f12, f13, KP, ↓reduceIte, Nat.reduceEqDiff, Nat.reduceLT, Nat.reduceLeDiff, Nat.reduceAdd, Nat.reduceMul, Nat.reduceBEq, reduceCtorEq, Int.reduceEq, Int.reduceLT, Int.reduceLE, Int.reduceAdd, Int.reduceSub, Int.reduceNeg]
end
end Go.Proofs.YtmbhjdkbcgngiaaGreatDoor
end
