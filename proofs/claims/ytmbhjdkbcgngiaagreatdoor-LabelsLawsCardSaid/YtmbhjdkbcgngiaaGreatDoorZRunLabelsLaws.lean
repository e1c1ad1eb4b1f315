/- AX: LabelsLaws' run: unions, what is shared, what is left of three sets go together as sets do. -/
import Derived.Test.YtmbhjdkbcgngiaaGreatDoorZ15
set_option linter.unusedVariables false
set_option linter.unusedSimpArgs false
set_option maxHeartbeats 4000000
set_option maxRecDepth 10000
namespace Go.Proofs.YtmbhjdkbcgngiaaGreatDoor
open Go Go.Ax Go.AxS
structure LawsE (E : Env) : Prop where
  lab : LabE E
  un : UnionI E
  fn : E.fn 7 = some (fnOf Tryz.f7)
  beg : ∀ (σ : Sg) (K : V → Sg → Prop), WpCall E 9 [] σ K = K (.bool true) σ
  d8 : isPlainDraw E (cutAt [1, 1, 1, 1, 1, 1, 1, 0] (fnOf Tryz.f7).code) = true
section
variable {E : Env}
theorem laws_run (h : LawsE E) {a b c : V} {la lb lc : List Lab} (ha : LV a la) (hb : LV b lb) (hc : LV c lc) (sa : ∀ k ∈ la, k.2.length ≤ 9223372036854775806) (sb : ∀ k ∈ lb, k.2.length ≤ 9223372036854775806) (sc : ∀ k ∈ lc, k.2.length ≤ 9223372036854775806) :
    WpEnter E (fnOf Tryz.f7) [a, b, c] [] fun u σ1 => snapT σ1 E.ty false u = some (.bool true) := by
  have u := h.un
  have beg := h.beg
  have d8 := h.d8
  replace h := h.lab
  simp only [fnOf, Tryz.f7, cutAt, KP, ↓reduceIte, Nat.reduceEqDiff, Nat.reduceLT, Nat.reduceLeDiff, Nat.reduceAdd, Nat.reduceMul, Nat.reduceBEq, reduceCtorEq, Int.reduceEq, Int.reduceLT, Int.reduceLE, Int.reduceAdd, Int.reduceSub, Int.reduceNeg] at d8
  have kbeg : ∀ (ops : Array Oper) (l : List Oper) (dst : Option Nat) (st : List Kont) (Q : Ax.X → Fr → Sg → Prop) (fr : Fr) (σ : Sg), CallK E 9 [] σ dst fr ops l st Q = RunK E ops l (some (putS fr dst (.bool true), σ)) st Q := fun ops l dst st Q fr σ => callK_of (beg σ)
  rw [enterF (by kernel_rfl)]
  simp only [fnOf, Tryz.f7, KP, Ax.lenOf, Ax.loadAt, Ax.storeAt, ↓reduceIte, Nat.reduceEqDiff, Nat.reduceLT, Nat.reduceLeDiff, Nat.reduceAdd, Nat.reduceMul, Nat.reduceBEq, reduceCtorEq, Int.reduceEq, Int.reduceLT, Int.reduceLE, Int.reduceAdd, Int.reduceSub, Int.reduceNeg, h.ty3, h.ty4, h.ty9, h.ty34, h.ty22, h.ty25, h.ty28, h.ty30, h.ty32, h.ty61, h.eq34, kbeg]
  refine callK_intro (b_few h (ha.sv _)) ?_
  rintro x1 _ ⟨rfl, hx1⟩
  simp only [fnOf, Tryz.f7, KP, Ax.lenOf, Ax.loadAt, Ax.storeAt, ↓reduceIte, Nat.reduceEqDiff, Nat.reduceLT, Nat.reduceLeDiff, Nat.reduceAdd, Nat.reduceMul, Nat.reduceBEq, reduceCtorEq, Int.reduceEq, Int.reduceLT, Int.reduceLE, Int.reduceAdd, Int.reduceSub, Int.reduceNeg, h.ty3, h.ty4, h.ty9, h.ty34, h.ty22, h.ty25, h.ty28, h.ty30, h.ty32, h.ty61, h.eq34]
  refine callK_intro (b_New h (hx1.lv.sv _) (by rw [List.length_take]; omega)) ?_
  rintro _ σ1 ⟨m1, rfl, S1, hm1, kp1⟩
  simp only [fnOf, Tryz.f7, KP, Ax.lenOf, Ax.loadAt, Ax.storeAt, ↓reduceIte, Nat.reduceEqDiff, Nat.reduceLT, Nat.reduceLeDiff, Nat.reduceAdd, Nat.reduceMul, Nat.reduceBEq, reduceCtorEq, Int.reduceEq, Int.reduceLT, Int.reduceLE, Int.reduceAdd, Int.reduceSub, Int.reduceNeg, h.ty3, h.ty4, h.ty9, h.ty34, h.ty22, h.ty25, h.ty28, h.ty30, h.ty32, h.ty61, h.eq34]
  refine callK_intro (b_few h (hb.sv _)) ?_
  rintro x2 _ ⟨rfl, hx2⟩
  simp only [fnOf, Tryz.f7, KP, Ax.lenOf, Ax.loadAt, Ax.storeAt, ↓reduceIte, Nat.reduceEqDiff, Nat.reduceLT, Nat.reduceLeDiff, Nat.reduceAdd, Nat.reduceMul, Nat.reduceBEq, reduceCtorEq, Int.reduceEq, Int.reduceLT, Int.reduceLE, Int.reduceAdd, Int.reduceSub, Int.reduceNeg, h.ty3, h.ty4, h.ty9, h.ty34, h.ty22, h.ty25, h.ty28, h.ty30, h.ty32, h.ty61, h.eq34]
  refine callK_intro (b_New h (hx2.lv.sv _) (by rw [List.length_take]; omega)) ?_
  rintro _ σ2 ⟨m2, rfl, S2, hm2, kp2⟩
  simp only [fnOf, Tryz.f7, KP, Ax.lenOf, Ax.loadAt, Ax.storeAt, ↓reduceIte, Nat.reduceEqDiff, Nat.reduceLT, Nat.reduceLeDiff, Nat.reduceAdd, Nat.reduceMul, Nat.reduceBEq, reduceCtorEq, Int.reduceEq, Int.reduceLT, Int.reduceLE, Int.reduceAdd, Int.reduceSub, Int.reduceNeg, h.ty3, h.ty4, h.ty9, h.ty34, h.ty22, h.ty25, h.ty28, h.ty30, h.ty32, h.ty61, h.eq34]
  refine callK_intro (b_few h (hc.sv _)) ?_
  rintro x3 _ ⟨rfl, hx3⟩
  simp only [fnOf, Tryz.f7, KP, Ax.lenOf, Ax.loadAt, Ax.storeAt, ↓reduceIte, Nat.reduceEqDiff, Nat.reduceLT, Nat.reduceLeDiff, Nat.reduceAdd, Nat.reduceMul, Nat.reduceBEq, reduceCtorEq, Int.reduceEq, Int.reduceLT, Int.reduceLE, Int.reduceAdd, Int.reduceSub, Int.reduceNeg, h.ty3, h.ty4, h.ty9, h.ty34, h.ty22, h.ty25, h.ty28, h.ty30, h.ty32, h.ty61, h.eq34]
  refine callK_intro (b_New h (hx3.lv.sv _) (by rw [List.length_take]; omega)) ?_
  rintro _ σ3 ⟨m3, rfl, S3, hm3, kp3⟩
  simp only [fnOf, Tryz.f7, KP, Ax.lenOf, Ax.loadAt, Ax.storeAt, ↓reduceIte, Nat.reduceEqDiff, Nat.reduceLT, Nat.reduceLeDiff, Nat.reduceAdd, Nat.reduceMul, Nat.reduceBEq, reduceCtorEq, Int.reduceEq, Int.reduceLT, Int.reduceLE, Int.reduceAdd, Int.reduceSub, Int.reduceNeg, h.ty3, h.ty4, h.ty9, h.ty34, h.ty22, h.ty25, h.ty28, h.ty30, h.ty32, h.ty61, h.eq34]
  obtain ⟨U, hU⟩ : ∃ U, U = la.take 20 ++ (lb.take 20 ++ lc.take 20) := ⟨_, rfl⟩
  have ub : UB U := by
    subst hU
    refine ⟨by simp only [List.length_append, List.length_take]; omega, fun k hk => ?_⟩
    rcases List.mem_append.1 hk with hk | hk
    · exact sa k (List.mem_of_mem_take hk)
    · rcases List.mem_append.1 hk with hk | hk
      · exact sb k (List.mem_of_mem_take hk)
      · exact sc k (List.mem_of_mem_take hk)
  have X : TZ U σ3 (.ref 0 0) _ _ := TZ.ofSet (S1.kall (kp2.trans kp3)) (fun x hx => by rw [hU]; exact List.mem_append_left _ hx)
  have Y : TZ U σ3 _ _ _ := TZ.ofSet (S2.kall kp3) (fun x hx => by rw [hU]; exact List.mem_append_right _ (List.mem_append_left _ hx))
  have Z : TZ U σ3 _ _ _ := TZ.ofSet S3 (fun x hx => by rw [hU]; exact List.mem_append_right _ (List.mem_append_right _ hx))
  refine callK_intro (c_Meet h ub Y Z) ?_
  rintro _ σ3 ⟨rfl, g1, g1', k1, rfl, z1⟩
  simp only [fnOf, Tryz.f7, KP, Ax.lenOf, Ax.loadAt, Ax.storeAt, ↓reduceIte, Nat.reduceEqDiff, Nat.reduceLT, Nat.reduceLeDiff, Nat.reduceAdd, Nat.reduceMul, Nat.reduceBEq, reduceCtorEq, Int.reduceEq, Int.reduceLT, Int.reduceLE, Int.reduceAdd, Int.reduceSub, Int.reduceNeg, h.ty3, h.ty4, h.ty9, h.ty34, h.ty22, h.ty25, h.ty28, h.ty30, h.ty32, h.ty61, h.eq34, Ax.eqV]
  refine callK_intro (c_Union h u ub X (z1 σ3)) ?_
  rintro _ σ3 ⟨rfl, g2, g2', k2, rfl, z2⟩
  simp only [fnOf, Tryz.f7, KP, Ax.lenOf, Ax.loadAt, Ax.storeAt, ↓reduceIte, Nat.reduceEqDiff, Nat.reduceLT, Nat.reduceLeDiff, Nat.reduceAdd, Nat.reduceMul, Nat.reduceBEq, reduceCtorEq, Int.reduceEq, Int.reduceLT, Int.reduceLE, Int.reduceAdd, Int.reduceSub, Int.reduceNeg, h.ty3, h.ty4, h.ty9, h.ty34, h.ty22, h.ty25, h.ty28, h.ty30, h.ty32, h.ty61, h.eq34, Ax.eqV]
  refine callK_intro (c_Union h u ub X Y) ?_
  rintro _ σ3 ⟨rfl, g3, g3', k3, rfl, z3⟩
  simp only [fnOf, Tryz.f7, KP, Ax.lenOf, Ax.loadAt, Ax.storeAt, ↓reduceIte, Nat.reduceEqDiff, Nat.reduceLT, Nat.reduceLeDiff, Nat.reduceAdd, Nat.reduceMul, Nat.reduceBEq, reduceCtorEq, Int.reduceEq, Int.reduceLT, Int.reduceLE, Int.reduceAdd, Int.reduceSub, Int.reduceNeg, h.ty3, h.ty4, h.ty9, h.ty34, h.ty22, h.ty25, h.ty28, h.ty30, h.ty32, h.ty61, h.eq34, Ax.eqV]
  refine callK_intro (c_Union h u ub X Z) ?_
  rintro _ σ3 ⟨rfl, g4, g4', k4, rfl, z4⟩
  simp only [fnOf, Tryz.f7, KP, Ax.lenOf, Ax.loadAt, Ax.storeAt, ↓reduceIte, Nat.reduceEqDiff, Nat.reduceLT, Nat.reduceLeDiff, Nat.reduceAdd, Nat.reduceMul, Nat.reduceBEq, reduceCtorEq, Int.reduceEq, Int.reduceLT, Int.reduceLE, Int.reduceAdd, Int.reduceSub, Int.reduceNeg, h.ty3, h.ty4, h.ty9, h.ty34, h.ty22, h.ty25, h.ty28, h.ty30, h.ty32, h.ty61, h.eq34, Ax.eqV]
  refine callK_intro (c_Meet h ub (z3 σ3) (z4 σ3)) ?_
  rintro _ σ3 ⟨rfl, g5, g5', k5, rfl, z5⟩
  simp only [fnOf, Tryz.f7, KP, Ax.lenOf, Ax.loadAt, Ax.storeAt, ↓reduceIte, Nat.reduceEqDiff, Nat.reduceLT, Nat.reduceLeDiff, Nat.reduceAdd, Nat.reduceMul, Nat.reduceBEq, reduceCtorEq, Int.reduceEq, Int.reduceLT, Int.reduceLE, Int.reduceAdd, Int.reduceSub, Int.reduceNeg, h.ty3, h.ty4, h.ty9, h.ty34, h.ty22, h.ty25, h.ty28, h.ty30, h.ty32, h.ty61, h.eq34, Ax.eqV]
  refine callK_intro (c_Union h u ub Y Z) ?_
  rintro _ σ3 ⟨rfl, g6, g6', k6, rfl, z6⟩
  simp only [fnOf, Tryz.f7, KP, Ax.lenOf, Ax.loadAt, Ax.storeAt, ↓reduceIte, Nat.reduceEqDiff, Nat.reduceLT, Nat.reduceLeDiff, Nat.reduceAdd, Nat.reduceMul, Nat.reduceBEq, reduceCtorEq, Int.reduceEq, Int.reduceLT, Int.reduceLE, Int.reduceAdd, Int.reduceSub, Int.reduceNeg, h.ty3, h.ty4, h.ty9, h.ty34, h.ty22, h.ty25, h.ty28, h.ty30, h.ty32, h.ty61, h.eq34, Ax.eqV]
  refine callK_intro (c_But h ub X (z6 σ3)) ?_
  rintro _ σ3 ⟨rfl, g7, g7', k7, rfl, z7⟩
  simp only [fnOf, Tryz.f7, KP, Ax.lenOf, Ax.loadAt, Ax.storeAt, ↓reduceIte, Nat.reduceEqDiff, Nat.reduceLT, Nat.reduceLeDiff, Nat.reduceAdd, Nat.reduceMul, Nat.reduceBEq, reduceCtorEq, Int.reduceEq, Int.reduceLT, Int.reduceLE, Int.reduceAdd, Int.reduceSub, Int.reduceNeg, h.ty3, h.ty4, h.ty9, h.ty34, h.ty22, h.ty25, h.ty28, h.ty30, h.ty32, h.ty61, h.eq34, Ax.eqV]
  refine callK_intro (c_But h ub X Y) ?_
  rintro _ σ3 ⟨rfl, g8, g8', k8, rfl, z8⟩
  simp only [fnOf, Tryz.f7, KP, Ax.lenOf, Ax.loadAt, Ax.storeAt, ↓reduceIte, Nat.reduceEqDiff, Nat.reduceLT, Nat.reduceLeDiff, Nat.reduceAdd, Nat.reduceMul, Nat.reduceBEq, reduceCtorEq, Int.reduceEq, Int.reduceLT, Int.reduceLE, Int.reduceAdd, Int.reduceSub, Int.reduceNeg, h.ty3, h.ty4, h.ty9, h.ty34, h.ty22, h.ty25, h.ty28, h.ty30, h.ty32, h.ty61, h.eq34, Ax.eqV]
  refine callK_intro (c_But h ub (z8 σ3) Z) ?_
  rintro _ σ3 ⟨rfl, g9, g9', k9, rfl, z9⟩
  simp only [fnOf, Tryz.f7, KP, Ax.lenOf, Ax.loadAt, Ax.storeAt, ↓reduceIte, Nat.reduceEqDiff, Nat.reduceLT, Nat.reduceLeDiff, Nat.reduceAdd, Nat.reduceMul, Nat.reduceBEq, reduceCtorEq, Int.reduceEq, Int.reduceLT, Int.reduceLE, Int.reduceAdd, Int.reduceSub, Int.reduceNeg, h.ty3, h.ty4, h.ty9, h.ty34, h.ty22, h.ty25, h.ty28, h.ty30, h.ty32, h.ty61, h.eq34, Ax.eqV]
  refine callK_intro (c_Meet h ub X Y) ?_
  rintro _ σ3 ⟨rfl, g10, g10', k10, rfl, z10⟩
  simp only [fnOf, Tryz.f7, KP, Ax.lenOf, Ax.loadAt, Ax.storeAt, ↓reduceIte, Nat.reduceEqDiff, Nat.reduceLT, Nat.reduceLeDiff, Nat.reduceAdd, Nat.reduceMul, Nat.reduceBEq, reduceCtorEq, Int.reduceEq, Int.reduceLT, Int.reduceLE, Int.reduceAdd, Int.reduceSub, Int.reduceNeg, h.ty3, h.ty4, h.ty9, h.ty34, h.ty22, h.ty25, h.ty28, h.ty30, h.ty32, h.ty61, h.eq34, Ax.eqV]
  refine callK_intro (c_But h ub X Y) ?_
  rintro _ σ3 ⟨rfl, g11, g11', k11, rfl, z11⟩
  simp only [fnOf, Tryz.f7, KP, Ax.lenOf, Ax.loadAt, Ax.storeAt, ↓reduceIte, Nat.reduceEqDiff, Nat.reduceLT, Nat.reduceLeDiff, Nat.reduceAdd, Nat.reduceMul, Nat.reduceBEq, reduceCtorEq, Int.reduceEq, Int.reduceLT, Int.reduceLE, Int.reduceAdd, Int.reduceSub, Int.reduceNeg, h.ty3, h.ty4, h.ty9, h.ty34, h.ty22, h.ty25, h.ty28, h.ty30, h.ty32, h.ty61, h.eq34, Ax.eqV]
  refine callK_intro (c_But h ub X (z11 σ3)) ?_
  rintro _ σ3 ⟨rfl, g12, g12', k12, rfl, z12⟩
  simp only [fnOf, Tryz.f7, KP, Ax.lenOf, Ax.loadAt, Ax.storeAt, ↓reduceIte, Nat.reduceEqDiff, Nat.reduceLT, Nat.reduceLeDiff, Nat.reduceAdd, Nat.reduceMul, Nat.reduceBEq, reduceCtorEq, Int.reduceEq, Int.reduceLT, Int.reduceLE, Int.reduceAdd, Int.reduceSub, Int.reduceNeg, h.ty3, h.ty4, h.ty9, h.ty34, h.ty22, h.ty25, h.ty28, h.ty30, h.ty32, h.ty61, h.eq34, Ax.eqV]
  simp only [fnOf, Tryz.f7, KP, Ax.lenOf, Ax.loadAt, Ax.storeAt, ↓reduceIte, Nat.reduceEqDiff, Nat.reduceLT, Nat.reduceLeDiff, Nat.reduceAdd, Nat.reduceMul, Nat.reduceBEq, reduceCtorEq, Int.reduceEq, Int.reduceLT, Int.reduceLE, Int.reduceAdd, Int.reduceSub, Int.reduceNeg, h.ty3, h.ty4, h.ty9, h.ty34, h.ty22, h.ty25, h.ty28, h.ty30, h.ty32, h.ty61, h.eq34, Ax.r_undraw d8, Ax.undraw, Ax.eqV]
  rw [callK_of fun K => c_Eq (K := K) h ub (z2 σ3) (z5 σ3) (fun x => by by_cases p1 : x ∈ la.take 20 <;> by_cases p2 : x ∈ lb.take 20 <;> by_cases p3 : x ∈ lc.take 20 <;> simp [p1, p2, p3])]
  simp only [fnOf, Tryz.f7, KP, Ax.lenOf, Ax.loadAt, Ax.storeAt, ↓reduceIte, Nat.reduceEqDiff, Nat.reduceLT, Nat.reduceLeDiff, Nat.reduceAdd, Nat.reduceMul, Nat.reduceBEq, reduceCtorEq, Int.reduceEq, Int.reduceLT, Int.reduceLE, Int.reduceAdd, Int.reduceSub, Int.reduceNeg, h.ty3, h.ty4, h.ty9, h.ty34, h.ty22, h.ty25, h.ty28, h.ty30, h.ty32, h.ty61, h.eq34, Ax.eqV]
  rw [callK_of fun K => c_Eq (K := K) h ub (z7 σ3) (z9 σ3) (fun x => by by_cases p1 : x ∈ la.take 20 <;> by_cases p2 : x ∈ lb.take 20 <;> by_cases p3 : x ∈ lc.take 20 <;> simp [p1, p2, p3])]
  simp only [fnOf, Tryz.f7, KP, Ax.lenOf, Ax.loadAt, Ax.storeAt, ↓reduceIte, Nat.reduceEqDiff, Nat.reduceLT, Nat.reduceLeDiff, Nat.reduceAdd, Nat.reduceMul, Nat.reduceBEq, reduceCtorEq, Int.reduceEq, Int.reduceLT, Int.reduceLE, Int.reduceAdd, Int.reduceSub, Int.reduceNeg, h.ty3, h.ty4, h.ty9, h.ty34, h.ty22, h.ty25, h.ty28, h.ty30, h.ty32, h.ty61, h.eq34, Ax.eqV]
  rw [callK_of fun K => c_Eq (K := K) h ub (z10 σ3) (z12 σ3) (fun x => by by_cases p1 : x ∈ la.take 20 <;> by_cases p2 : x ∈ lb.take 20 <;> by_cases p3 : x ∈ lc.take 20 <;> simp [p1, p2, p3])]
  simp only [fnOf, Tryz.f7, KP, Ax.lenOf, Ax.loadAt, Ax.storeAt, ↓reduceIte, Nat.reduceEqDiff, Nat.reduceLT, Nat.reduceLeDiff, Nat.reduceAdd, Nat.reduceMul, Nat.reduceBEq, reduceCtorEq, Int.reduceEq, Int.reduceLT, Int.reduceLE, Int.reduceAdd, Int.reduceSub, Int.reduceNeg, h.ty3, h.ty4, h.ty9, h.ty34, h.ty22, h.ty25, h.ty28, h.ty30, h.ty32, h.ty61, h.eq34, Ax.eqV]
  refine callK_intro (c_Meet h ub X X) ?_
  rintro _ σ3 ⟨rfl, g13, g13', k13, rfl, z13⟩
  simp only [fnOf, Tryz.f7, KP, Ax.lenOf, Ax.loadAt, Ax.storeAt, ↓reduceIte, Nat.reduceEqDiff, Nat.reduceLT, Nat.reduceLeDiff, Nat.reduceAdd, Nat.reduceMul, Nat.reduceBEq, reduceCtorEq, Int.reduceEq, Int.reduceLT, Int.reduceLE, Int.reduceAdd, Int.reduceSub, Int.reduceNeg, h.ty3, h.ty4, h.ty9, h.ty34, h.ty22, h.ty25, h.ty28, h.ty30, h.ty32, h.ty61, h.eq34, Ax.eqV]
  rw [callK_of fun K => c_Eq (K := K) h ub (z13 σ3) X (fun x => by by_cases p1 : x ∈ la.take 20 <;> by_cases p2 : x ∈ lb.take 20 <;> by_cases p3 : x ∈ lc.take 20 <;> simp [p1, p2, p3])]
  simp only [fnOf, Tryz.f7, KP, Ax.lenOf, Ax.loadAt, Ax.storeAt, ↓reduceIte, Nat.reduceEqDiff, Nat.reduceLT, Nat.reduceLeDiff, Nat.reduceAdd, Nat.reduceMul, Nat.reduceBEq, reduceCtorEq, Int.reduceEq, Int.reduceLT, Int.reduceLE, Int.reduceAdd, Int.reduceSub, Int.reduceNeg, h.ty3, h.ty4, h.ty9, h.ty34, h.ty22, h.ty25, h.ty28, h.ty30, h.ty32, h.ty61, h.eq34, Ax.eqV]
  refine callK_intro (c_But h ub X X) ?_
  rintro _ σ3 ⟨rfl, g14, g14', k14, rfl, z14⟩
  simp only [fnOf, Tryz.f7, KP, Ax.lenOf, Ax.loadAt, Ax.storeAt, ↓reduceIte, Nat.reduceEqDiff, Nat.reduceLT, Nat.reduceLeDiff, Nat.reduceAdd, Nat.reduceMul, Nat.reduceBEq, reduceCtorEq, Int.reduceEq, Int.reduceLT, Int.reduceLE, Int.reduceAdd, Int.reduceSub, Int.reduceNeg, h.ty3, h.ty4, h.ty9, h.ty34, h.ty22, h.ty25, h.ty28, h.ty30, h.ty32, h.ty61, h.eq34, Ax.eqV]
  have e14 : k14 = [] := List.eq_nil_iff_forall_not_mem.2 fun x hx => (((z14 σ3).mem x).1 hx).2 (((z14 σ3).mem x).1 hx).1
  subst e14
  rw [callK_of fun K => b_Len (K := K) h (z14 σ3).tv]
  simp only [fnOf, Tryz.f7, KP, Ax.lenOf, Ax.loadAt, Ax.storeAt, ↓reduceIte, Nat.reduceEqDiff, Nat.reduceLT, Nat.reduceLeDiff, Nat.reduceAdd, Nat.reduceMul, Nat.reduceBEq, reduceCtorEq, Int.reduceEq, Int.reduceLT, Int.reduceLE, Int.reduceAdd, Int.reduceSub, Int.reduceNeg, h.ty3, h.ty4, h.ty9, h.ty34, h.ty22, h.ty25, h.ty28, h.ty30, h.ty32, h.ty61, h.eq34, Ax.eqV]
  rw [callK_of fun K => b_Len (K := K) h (z2 σ3).tv]
  simp only [fnOf, Tryz.f7, KP, Ax.lenOf, Ax.loadAt, Ax.storeAt, ↓reduceIte, Nat.reduceEqDiff, Nat.reduceLT, Nat.reduceLeDiff, Nat.reduceAdd, Nat.reduceMul, Nat.reduceBEq, reduceCtorEq, Int.reduceEq, Int.reduceLT, Int.reduceLE, Int.reduceAdd, Int.reduceSub, Int.reduceNeg, h.ty3, h.ty4, h.ty9, h.ty34, h.ty22, h.ty25, h.ty28, h.ty30, h.ty32, h.ty61, h.eq34, Ax.eqV]
  refine callK_intro (c_Meet h ub Y Z) ?_
  rintro _ σ3 ⟨rfl, g15, g15', k15, rfl, z15⟩
  simp only [fnOf, Tryz.f7, KP, Ax.lenOf, Ax.loadAt, Ax.storeAt, ↓reduceIte, Nat.reduceEqDiff, Nat.reduceLT, Nat.reduceLeDiff, Nat.reduceAdd, Nat.reduceMul, Nat.reduceBEq, reduceCtorEq, Int.reduceEq, Int.reduceLT, Int.reduceLE, Int.reduceAdd, Int.reduceSub, Int.reduceNeg, h.ty3, h.ty4, h.ty9, h.ty34, h.ty22, h.ty25, h.ty28, h.ty30, h.ty32, h.ty61, h.eq34, Ax.eqV]
  refine callK_intro (c_Meet h ub X (z15 σ3)) ?_
  rintro _ σ3 ⟨rfl, g16, g16', k16, rfl, z16⟩
  simp only [fnOf, Tryz.f7, KP, Ax.lenOf, Ax.loadAt, Ax.storeAt, ↓reduceIte, Nat.reduceEqDiff, Nat.reduceLT, Nat.reduceLeDiff, Nat.reduceAdd, Nat.reduceMul, Nat.reduceBEq, reduceCtorEq, Int.reduceEq, Int.reduceLT, Int.reduceLE, Int.reduceAdd, Int.reduceSub, Int.reduceNeg, h.ty3, h.ty4, h.ty9, h.ty34, h.ty22, h.ty25, h.ty28, h.ty30, h.ty32, h.ty61, h.eq34, Ax.eqV]
  rw [callK_of fun K => b_Len (K := K) h (z16 σ3).tv]
  simp only [fnOf, Tryz.f7, KP, Ax.lenOf, Ax.loadAt, Ax.storeAt, ↓reduceIte, Nat.reduceEqDiff, Nat.reduceLT, Nat.reduceLeDiff, Nat.reduceAdd, Nat.reduceMul, Nat.reduceBEq, reduceCtorEq, Int.reduceEq, Int.reduceLT, Int.reduceLE, Int.reduceAdd, Int.reduceSub, Int.reduceNeg, h.ty3, h.ty4, h.ty9, h.ty34, h.ty22, h.ty25, h.ty28, h.ty30, h.ty32, h.ty61, h.eq34, Ax.eqV]
  rw [callK_of fun K => b_Len (K := K) h X.tv]
  simp only [fnOf, Tryz.f7, KP, Ax.lenOf, Ax.loadAt, Ax.storeAt, ↓reduceIte, Nat.reduceEqDiff, Nat.reduceLT, Nat.reduceLeDiff, Nat.reduceAdd, Nat.reduceMul, Nat.reduceBEq, reduceCtorEq, Int.reduceEq, Int.reduceLT, Int.reduceLE, Int.reduceAdd, Int.reduceSub, Int.reduceNeg, h.ty3, h.ty4, h.ty9, h.ty34, h.ty22, h.ty25, h.ty28, h.ty30, h.ty32, h.ty61, h.eq34, Ax.eqV]
  refine callK_intro (c_Meet h ub Y Z) ?_
  rintro _ σ3 ⟨rfl, g17, g17', k17, rfl, z17⟩
  simp only [fnOf, Tryz.f7, KP, Ax.lenOf, Ax.loadAt, Ax.storeAt, ↓reduceIte, Nat.reduceEqDiff, Nat.reduceLT, Nat.reduceLeDiff, Nat.reduceAdd, Nat.reduceMul, Nat.reduceBEq, reduceCtorEq, Int.reduceEq, Int.reduceLT, Int.reduceLE, Int.reduceAdd, Int.reduceSub, Int.reduceNeg, h.ty3, h.ty4, h.ty9, h.ty34, h.ty22, h.ty25, h.ty28, h.ty30, h.ty32, h.ty61, h.eq34, Ax.eqV]
  rw [callK_of fun K => b_Len (K := K) h (z17 σ3).tv]
  simp only [fnOf, Tryz.f7, KP, Ax.lenOf, Ax.loadAt, Ax.storeAt, ↓reduceIte, Nat.reduceEqDiff, Nat.reduceLT, Nat.reduceLeDiff, Nat.reduceAdd, Nat.reduceMul, Nat.reduceBEq, reduceCtorEq, Int.reduceEq, Int.reduceLT, Int.reduceLE, Int.reduceAdd, Int.reduceSub, Int.reduceNeg, h.ty3, h.ty4, h.ty9, h.ty34, h.ty22, h.ty25, h.ty28, h.ty30, h.ty32, h.ty61, h.eq34, Ax.eqV]
  have cl := count_law X.tv.1 (z17 σ3).tv.1 (z2 σ3).tv.1 (z16 σ3).tv.1 (fun x => by rw [(z2 σ3).mem, X.mem, (z17 σ3).mem]) (fun x => by rw [(z16 σ3).mem, X.mem, (z17 σ3).mem])
  rw [show ((k2.length : Int) + (k16.length : Int)) = ((keys [] (la.take 20)).length : Int) + (k17.length : Int) by omega, decide_eq_true rfl]
  rfl
theorem le_lawsU : UnionI LE := ⟨Lhs13, Lsp13, Lfn13, Lmd13⟩
theorem le_laws : LawsE LE := ⟨le_lab, le_lawsU, Lfn7, fun σ K => wpCall_spec Lhs9 Lsp9 (args' := []) (v := .bool true) rfl (by kernel_rfl) rfl, by kernel_rfl⟩
theorem run_labelsLaws (a : V) (l : List Lab) (ha : LV a l) (hl : ∀ k ∈ l, k.2.length ≤ 9223372036854775806) (b : V) (m : List Lab) (hb : LV b m) (hm : ∀ k ∈ m, k.2.length ≤ 9223372036854775806) (c : V) (n : List Lab) (hc : LV c n) (hn : ∀ k ∈ n, k.2.length ≤ 9223372036854775806) : ∃ k, Ax.call LE k 7 [a, b, c] = some (.bool true) :=
  call_of_enter Lfn7 (laws_run le_laws ha hb hc hl hm hn)
end
end Go.Proofs.YtmbhjdkbcgngiaaGreatDoor
