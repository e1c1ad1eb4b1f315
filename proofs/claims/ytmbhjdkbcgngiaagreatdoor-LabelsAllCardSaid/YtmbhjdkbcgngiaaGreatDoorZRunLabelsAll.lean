/- AX: LabelsAll's run: what is in sets of labels, in which order; unions, what is shared, what is left. -/
import Derived.Test.YtmbhjdkbcgngiaaGreatDoorZ16
set_option linter.unusedVariables false
set_option linter.unusedSimpArgs false
set_option maxHeartbeats 8000000
set_option maxRecDepth 10000
namespace Go.Proofs.YtmbhjdkbcgngiaaGreatDoor
open Go Go.Ax Go.AxS
structure AllE (E : Env) : Prop where
  lab : LabE E
  un : UnionI E
  fn : E.fn 6 = some (fnOf Tryz.f6)
  beg : ∀ (σ : Sg) (K : V → Sg → Prop), WpCall E 9 [] σ K = K (.bool true) σ
  less : ∀ (σ : Sg) (K : V → Sg → Prop) (a b : Bool) (s t : List Nat), WpCall E 20 [.agg [.bool a, .str s], .agg [.bool b, .str t]] σ K = K (.bool (lt (a, s) (b, t))) σ
  name : ∀ (σ : Sg) (K : V → Sg → Prop) (a : Bool) (s : List Nat), s.length ≤ 9223372036854775806 → WpCall E 21 [.agg [.bool a, .str s]] σ K = K (.str (nameOf (a, s))) σ
  d19 : isPlainDraw E (cutAt [1, 1, 1, 1, 1, 1, 1, 1, 1, 1, 1, 0] (fnOf Tryz.f6).code) = true
  d20 : isPlainDraw E (cutAt [1, 1, 1, 1, 1, 1, 1, 1, 1, 1, 1, 1, 0] (fnOf Tryz.f6).code) = true
section
variable {E : Env} {σ : Sg}
theorem keys_set' (l : List Lab) : setOf (keys [] l) = setOf l := setOf_congr fun x => by rw [mem_keys]; simp
theorem eqV_bool (h : LabE E) (c a b : Bool) : Ax.eqV E 4 c (.bool a) (.bool b) = some (a == b) := by
  unfold Ax.eqV
  rw [h.ty4]
theorem elems_LVf {v : V} {l : List Lab} (hv : LVf v l) : elems σ 2 v = some (l.flatMap row, l.length) := by
  rcases hv with ⟨rfl, rfl⟩ | ⟨full, rfl⟩
  · rfl
  · exact elems_isl false full l
theorem Own.keepL {σ1 σ2 : Sg} {r : V} {l : List Lab} (ho : Own σ σ1 r l) (k : ∀ j o, j < σ1.length → σ1[j]? = some o → σ2[j]? = some o) : Own σ σ2 r l :=
  ho.imp id fun ⟨j, h1, h2, h3⟩ => ⟨j, h1, h2, k j _ (List.getElem?_eq_some_iff.1 h3).1 h3⟩
theorem OW.keepL {L : Nat} {σ2 : Sg} {r : V} {l : List Lab} (ho : OW L σ r l) (k : ∀ j o, j < σ.length → σ[j]? = some o → σ2[j]? = some o) : OW L σ2 r l :=
  ho.imp id fun ⟨j, h1, h2, h3⟩ => ⟨j, h1, h2, k j _ (List.getElem?_eq_some_iff.1 h3).1 h3⟩
theorem SetAt.keepL {σ2 : Sg} {b m : Nat} {ks : List Lab} (s : SetAt σ b m ks) (k : ∀ j o, j < σ.length → σ[j]? = some o → σ2[j]? = some o) : SetAt σ2 b m ks :=
  ⟨k _ _ (List.getElem?_eq_some_iff.1 s.obj).1 s.obj, k _ _ (List.getElem?_eq_some_iff.1 s.map).1 s.map, s.nodup⟩
theorem all_run (hE : AllE E) {a b : V} {la lb : List Lab} {x y : Lab} (ha : LV a la) (hb : LV b lb) (sa : ∀ k ∈ la, k.2.length ≤ 9223372036854775806) (sb : ∀ k ∈ lb, k.2.length ≤ 9223372036854775806) (sx : x.2.length ≤ 9223372036854775806) (sy : y.2.length ≤ 9223372036854775806) :
    WpEnter E (fnOf Tryz.f6) [a, b, .agg [.bool x.1, .str x.2], .agg [.bool y.1, .str y.2]] [] fun u σ1 => snapT σ1 E.ty false u = some (.bool true) := by
  have h := hE.lab
  have u := hE.un
  have d19 := hE.d19
  have d20 := hE.d20
  simp only [fnOf, Tryz.f6, cutAt, KP, ↓reduceIte, Nat.reduceEqDiff, Nat.reduceLT, Nat.reduceLeDiff, Nat.reduceAdd, Nat.reduceMul, Nat.reduceBEq, reduceCtorEq, Int.reduceEq, Int.reduceLT, Int.reduceLE, Int.reduceAdd, Int.reduceSub, Int.reduceNeg] at d19 d20
  have kbeg : ∀ (ops : Array Oper) (l : List Oper) (dst : Option Nat) (st : List Kont) (Q : Ax.X → Fr → Sg → Prop) (fr : Fr) (σ : Sg), CallK E 9 [] σ dst fr ops l st Q = RunK E ops l (some (putS fr dst (.bool true), σ)) st Q := fun ops l dst st Q fr σ => callK_of (hE.beg σ)
  rw [enterF (by kernel_rfl)]
  simp only [fnOf, Tryz.f6, KP, ↓reduceIte, Nat.reduceEqDiff, Nat.reduceLT, Nat.reduceLeDiff, Nat.reduceAdd, Nat.reduceMul, Nat.reduceBEq, reduceCtorEq, Int.reduceEq, Int.reduceLT, Int.reduceLE, Int.reduceAdd, Int.reduceSub, Int.reduceNeg, h.ty3, h.ty4, h.ty9, h.ty34, h.ty22, h.ty25, h.ty28, h.ty30, h.ty32, h.ty61, h.eq34, kbeg]
  refine callK_intro (b_few h (ha.sv _)) ?_
  rintro x1 _ ⟨rfl, hx1⟩
  simp only [fnOf, Tryz.f6, KP, ↓reduceIte, Nat.reduceEqDiff, Nat.reduceLT, Nat.reduceLeDiff, Nat.reduceAdd, Nat.reduceMul, Nat.reduceBEq, reduceCtorEq, Int.reduceEq, Int.reduceLT, Int.reduceLE, Int.reduceAdd, Int.reduceSub, Int.reduceNeg, h.ty3, h.ty4, h.ty9, h.ty34, h.ty22, h.ty25, h.ty28, h.ty30, h.ty32, h.ty61, h.eq34]
  refine callK_intro (b_few h (hb.sv _)) ?_
  rintro x2 _ ⟨rfl, hx2⟩
  simp only [fnOf, Tryz.f6, KP, ↓reduceIte, Nat.reduceEqDiff, Nat.reduceLT, Nat.reduceLeDiff, Nat.reduceAdd, Nat.reduceMul, Nat.reduceBEq, reduceCtorEq, Int.reduceEq, Int.reduceLT, Int.reduceLE, Int.reduceAdd, Int.reduceSub, Int.reduceNeg, h.ty3, h.ty4, h.ty9, h.ty34, h.ty22, h.ty25, h.ty28, h.ty30, h.ty32, h.ty61, h.eq34]
  refine callK_intro (b_New h (hx1.lv.sv _) (by rw [List.length_take]; omega)) ?_
  rintro _ σ1 ⟨m1, rfl, S1, hm1, kp1⟩
  simp only [fnOf, Tryz.f6, KP, ↓reduceIte, Nat.reduceEqDiff, Nat.reduceLT, Nat.reduceLeDiff, Nat.reduceAdd, Nat.reduceMul, Nat.reduceBEq, reduceCtorEq, Int.reduceEq, Int.reduceLT, Int.reduceLE, Int.reduceAdd, Int.reduceSub, Int.reduceNeg, h.ty3, h.ty4, h.ty9, h.ty34, h.ty22, h.ty25, h.ty28, h.ty30, h.ty32, h.ty61, h.eq34]
  refine callK_intro (b_New h (hx2.lv.sv _) (by rw [List.length_take]; omega)) ?_
  rintro _ σ2 ⟨m2, rfl, S2, hm2, kp2⟩
  simp only [fnOf, Tryz.f6, KP, ↓reduceIte, Nat.reduceEqDiff, Nat.reduceLT, Nat.reduceLeDiff, Nat.reduceAdd, Nat.reduceMul, Nat.reduceBEq, reduceCtorEq, Int.reduceEq, Int.reduceLT, Int.reduceLE, Int.reduceAdd, Int.reduceSub, Int.reduceNeg, h.ty3, h.ty4, h.ty9, h.ty34, h.ty22, h.ty25, h.ty28, h.ty30, h.ty32, h.ty61, h.eq34]
  refine callK_intro (b_rSet h (hx1.lv.sv _) (by rw [List.length_take]; omega)) ?_
  rintro p1 σ2 ⟨rfl, hp1⟩
  simp only [fnOf, Tryz.f6, KP, ↓reduceIte, Nat.reduceEqDiff, Nat.reduceLT, Nat.reduceLeDiff, Nat.reduceAdd, Nat.reduceMul, Nat.reduceBEq, reduceCtorEq, Int.reduceEq, Int.reduceLT, Int.reduceLE, Int.reduceAdd, Int.reduceSub, Int.reduceNeg, h.ty3, h.ty4, h.ty9, h.ty34, h.ty22, h.ty25, h.ty28, h.ty30, h.ty32, h.ty61, h.eq34]
  refine callK_intro (b_rSet h (hx2.lv.sv _) (by rw [List.length_take]; omega)) ?_
  rintro p2 σ2 ⟨rfl, hp2⟩
  simp only [fnOf, Tryz.f6, KP, ↓reduceIte, Nat.reduceEqDiff, Nat.reduceLT, Nat.reduceLeDiff, Nat.reduceAdd, Nat.reduceMul, Nat.reduceBEq, reduceCtorEq, Int.reduceEq, Int.reduceLT, Int.reduceLE, Int.reduceAdd, Int.reduceSub, Int.reduceNeg, h.ty3, h.ty4, h.ty9, h.ty34, h.ty22, h.ty25, h.ty28, h.ty30, h.ty32, h.ty61, h.eq34]
  obtain ⟨U, hU⟩ : ∃ U, U = x :: y :: (la.take 20 ++ lb.take 20) := ⟨_, rfl⟩
  have ub : UB U := by
    subst hU
    refine ⟨by simp only [List.length_cons, List.length_append, List.length_take]; omega, fun k hk => ?_⟩
    rcases List.mem_cons.1 hk with rfl | hk
    · exact sx
    rcases List.mem_cons.1 hk with rfl | hk
    · exact sy
    rcases List.mem_append.1 hk with hk | hk
    · exact sa k (List.mem_of_mem_take hk)
    · exact sb k (List.mem_of_mem_take hk)
  have S1' := S1.kall kp2
  have nP : (setOf (la.take 20)).length ≤ 20 := by
    have := foldl_put_length (la.take 20) []
    rw [List.length_take, List.length_nil] at this
    show ((la.take 20).foldl put []).length ≤ 20
    omega
  have nQ : (setOf (lb.take 20)).length ≤ 20 := by
    have := foldl_put_length (lb.take 20) []
    rw [List.length_take, List.length_nil] at this
    show ((lb.take 20).foldl put []).length ≤ 20
    omega
  have lP : ∀ σ, lenOf E σ 22 p1 = some (setOf (la.take 20)).length := fun σ => len_SV h (hp1.lv.sv σ)
  simp only [fnOf, Tryz.f6, KP, ↓reduceIte, Nat.reduceEqDiff, Nat.reduceLT, Nat.reduceLeDiff, Nat.reduceAdd, Nat.reduceMul, Nat.reduceBEq, reduceCtorEq, Int.reduceEq, Int.reduceLT, Int.reduceLE, Int.reduceAdd, Int.reduceSub, Int.reduceNeg, h.ty3, h.ty4, h.ty9, h.ty34, h.ty22, h.ty25, h.ty28, h.ty30, h.ty32, h.ty61, h.eq34, lP]
  refine all_loop (F0 := ?F0) h hp1.lv hp2.lv (by omega) (by omega) (σ0 := σ2) ?q13 (fun F' σ4 vm vb ht g14 g15 f0 f1 f6 f7 f10 f11 f12 f13 => ?_) (setOf (la.take 20)).length 0 _ σ2 .nils .nils (by omega) ⟨fun _ _ _ e => e, Nat.le_refl _, .inl ⟨rfl, rfl⟩, .inl ⟨rfl, rfl⟩, (fun j n c j' n' c' e => by cases e)⟩ ?_ ?_ ?_ ?_ ?_ ?_ ?_ ?_ ?_ ?_ ?_ ?_ ?_ 
  any_goals (first | exact rfl | skip)
  · exact rfl
  simp only [Ax.FT.fill, Ax.FT.get_set, KP, ↓reduceIte, Nat.reduceEqDiff, Nat.reduceLT, Nat.reduceLeDiff, Nat.reduceAdd, Nat.reduceMul, Nat.reduceBEq, reduceCtorEq, Int.reduceEq, Int.reduceLT, Int.reduceLE, Int.reduceAdd, Int.reduceSub, Int.reduceNeg] at f0 f1 f6 f7 f10 f11 f12 f13
  have gall : True := trivial
  have X1 : SetAt σ4 2 m1 (keys [] (la.take 20)) := S1'.keepL ht.kp
  have X2 := S2.keepL ht.kp
  have X : TZ U σ4 (.ref 2 0) _ _ := TZ.ofSet X1 (fun z hz => by rw [hU]; exact List.mem_cons_of_mem _ (List.mem_cons_of_mem _ (List.mem_append_left _ hz)))
  have Y : TZ U σ4 _ _ _ := TZ.ofSet X2 (fun z hz => by rw [hU]; exact List.mem_cons_of_mem _ (List.mem_cons_of_mem _ (List.mem_append_right _ hz)))
  simp only [fnOf, Tryz.f6, KP, ↓reduceIte, Nat.reduceEqDiff, Nat.reduceLT, Nat.reduceLeDiff, Nat.reduceAdd, Nat.reduceMul, Nat.reduceBEq, reduceCtorEq, Int.reduceEq, Int.reduceLT, Int.reduceLE, Int.reduceAdd, Int.reduceSub, Int.reduceNeg, h.ty3, h.ty4, h.ty9, h.ty34, h.ty22, h.ty25, h.ty28, h.ty30, h.ty32, h.ty61, h.eq34, g14, g15, f0, f1, f6, f7, f10, f11, f12, f13]
  refine callK_intro (c_Union h u ub X Y) ?_
  rintro _ σ4 ⟨rfl, gu, gu', ku, rfl, zu⟩
  simp only [fnOf, Tryz.f6, KP, ↓reduceIte, Nat.reduceEqDiff, Nat.reduceLT, Nat.reduceLeDiff, Nat.reduceAdd, Nat.reduceMul, Nat.reduceBEq, reduceCtorEq, Int.reduceEq, Int.reduceLT, Int.reduceLE, Int.reduceAdd, Int.reduceSub, Int.reduceNeg, h.ty3, h.ty4, h.ty9, h.ty34, h.ty22, h.ty25, h.ty28, h.ty30, h.ty32, h.ty61, h.eq34, g14, g15, f0, f1, f6, f7, f10, f11, f12, f13]
  refine callK_intro (c_Meet h ub X Y) ?_
  rintro _ σ4 ⟨rfl, gm, gm', km, rfl, zm⟩
  simp only [fnOf, Tryz.f6, KP, ↓reduceIte, Nat.reduceEqDiff, Nat.reduceLT, Nat.reduceLeDiff, Nat.reduceAdd, Nat.reduceMul, Nat.reduceBEq, reduceCtorEq, Int.reduceEq, Int.reduceLT, Int.reduceLE, Int.reduceAdd, Int.reduceSub, Int.reduceNeg, h.ty3, h.ty4, h.ty9, h.ty34, h.ty22, h.ty25, h.ty28, h.ty30, h.ty32, h.ty61, h.eq34, g14, g15, f0, f1, f6, f7, f10, f11, f12, f13]
  refine callK_intro (c_But h ub X Y) ?_
  rintro _ σ4 ⟨rfl, gd, gd', kd, rfl, zd⟩
  simp only [fnOf, Tryz.f6, KP, ↓reduceIte, Nat.reduceEqDiff, Nat.reduceLT, Nat.reduceLeDiff, Nat.reduceAdd, Nat.reduceMul, Nat.reduceBEq, reduceCtorEq, Int.reduceEq, Int.reduceLT, Int.reduceLE, Int.reduceAdd, Int.reduceSub, Int.reduceNeg, h.ty3, h.ty4, h.ty9, h.ty34, h.ty22, h.ty25, h.ty28, h.ty30, h.ty32, h.ty61, h.eq34, g14, g15, f0, f1, f6, f7, f10, f11, f12, f13, Ax.eqV]
  have smX := X.small ub
  have smY := Y.small ub
  refine callK_intro (b_All h X1 (by have := smX.1; omega) smX.2) ?_
  rintro r5 σ5 ⟨o5, k5⟩
  simp only [fnOf, Tryz.f6, KP, ↓reduceIte, Nat.reduceEqDiff, Nat.reduceLT, Nat.reduceLeDiff, Nat.reduceAdd, Nat.reduceMul, Nat.reduceBEq, reduceCtorEq, Int.reduceEq, Int.reduceLT, Int.reduceLE, Int.reduceAdd, Int.reduceSub, Int.reduceNeg, h.ty3, h.ty4, h.ty9, h.ty34, h.ty22, h.ty25, h.ty28, h.ty30, h.ty32, h.ty61, h.eq34, g14, g15, f0, f1, f6, f7, f10, f11, f12, f13, Ax.eqV]
  have c5 : (setOf (keys [] (la.take 20))).length ≤ 1000000000000 := by rw [setOf_length X1.nodup]; have := smX.1; omega
  rw [callK_of fun K => b_rEq (K := K) h o5.sv (hp1.lv.sv _) c5, keys_set', decide_eq_true rfl]
  simp only [fnOf, Tryz.f6, KP, ↓reduceIte, Nat.reduceEqDiff, Nat.reduceLT, Nat.reduceLeDiff, Nat.reduceAdd, Nat.reduceMul, Nat.reduceBEq, reduceCtorEq, Int.reduceEq, Int.reduceLT, Int.reduceLE, Int.reduceAdd, Int.reduceSub, Int.reduceNeg, h.ty3, h.ty4, h.ty9, h.ty34, h.ty22, h.ty25, h.ty28, h.ty30, h.ty32, h.ty61, h.eq34, g14, g15, f0, f1, f6, f7, f10, f11, f12, f13, Ax.eqV]
  refine callK_intro (b_AllI h ⟨(zu σ5).tv.1, _, _, rfl⟩ ((zu σ5).small ub)) ?_
  rintro r6 σ6 ⟨o6, k6⟩
  have nt1 : (la.take 20).length ≤ 20 := by rw [List.length_take]; omega
  have nt2 : (lb.take 20).length ≤ 20 := by rw [List.length_take]; omega
  obtain ⟨v7, σ7, a7, o7, -, -, len7, kp7⟩ := app_OW h (σ := σ6) (L := σ6.length) (v := .nils) (l := []) (w := .nils) (lw := []) (Nat.le_refl _) (.inl ⟨rfl, rfl⟩) (elems_LVf hx1) (by rw [List.length_nil]; omega) (.inl ⟨rfl, rfl⟩) (fun j n c j' n' c' e => by cases e)
  obtain ⟨v8, σ8, a8, o8, -, -, len8, kp8⟩ := app_OW h (σ := σ7) (L := σ6.length) (v := v7) (l := [] ++ la.take 20) (w := .nils) (lw := []) len7 o7 (elems_LVf hx2) (by rw [List.nil_append]; omega) (.inl ⟨rfl, rfl⟩) (fun j n c j' n' c' _ e => by cases e)
  rw [List.nil_append] at o8
  have kp68 : ∀ j o, j < σ6.length → σ6[j]? = some o → σ8[j]? = some o := fun j o hj e => kp8 j o hj (kp7 j o hj e)
  simp only [fnOf, Tryz.f6, KP, ↓reduceIte, Nat.reduceEqDiff, Nat.reduceLT, Nat.reduceLeDiff, Nat.reduceAdd, Nat.reduceMul, Nat.reduceBEq, reduceCtorEq, Int.reduceEq, Int.reduceLT, Int.reduceLE, Int.reduceAdd, Int.reduceSub, Int.reduceNeg, h.ty3, h.ty4, h.ty9, h.ty34, h.ty22, h.ty25, h.ty28, h.ty30, h.ty32, h.ty61, h.eq34, g14, g15, f0, f1, f6, f7, f10, f11, f12, f13, Ax.eqV, a7, a8]
  refine callK_intro (b_rSet h o8.sv (by rw [List.length_append]; omega)) ?_
  rintro p9 σ8 ⟨rfl, hp9⟩
  simp only [fnOf, Tryz.f6, KP, ↓reduceIte, Nat.reduceEqDiff, Nat.reduceLT, Nat.reduceLeDiff, Nat.reduceAdd, Nat.reduceMul, Nat.reduceBEq, reduceCtorEq, Int.reduceEq, Int.reduceLT, Int.reduceLE, Int.reduceAdd, Int.reduceSub, Int.reduceNeg, h.ty3, h.ty4, h.ty9, h.ty34, h.ty22, h.ty25, h.ty28, h.ty30, h.ty32, h.ty61, h.eq34, g14, g15, f0, f1, f6, f7, f10, f11, f12, f13, Ax.eqV]
  have c6 : (setOf ku).length ≤ 1000000000000 := by rw [setOf_length (zu σ4).tv.1]; have := ((zu σ4).small ub).1; omega
  have e6 : setOf ku = setOf (la.take 20 ++ lb.take 20) := setOf_congr fun z => by rw [(zu σ4).mem, List.mem_append]
  rw [callK_of fun K => b_rEq (K := K) h (o6.keepL kp68).sv (hp9.lv.sv _) c6, decide_eq_true e6]
  simp only [fnOf, Tryz.f6, KP, ↓reduceIte, Nat.reduceEqDiff, Nat.reduceLT, Nat.reduceLeDiff, Nat.reduceAdd, Nat.reduceMul, Nat.reduceBEq, reduceCtorEq, Int.reduceEq, Int.reduceLT, Int.reduceLE, Int.reduceAdd, Int.reduceSub, Int.reduceNeg, h.ty3, h.ty4, h.ty9, h.ty34, h.ty22, h.ty25, h.ty28, h.ty30, h.ty32, h.ty61, h.eq34, g14, g15, f0, f1, f6, f7, f10, f11, f12, f13, Ax.eqV]
  have k48 : ∀ j o, j < σ4.length → σ4[j]? = some o → σ8[j]? = some o := fun j o hj e => kp68 j o (List.getElem?_eq_some_iff.1 (k6 _ _ (k5 _ _ e))).1 (k6 _ _ (k5 _ _ e))
  refine callK_intro (b_AllI h ⟨(zm σ4).tv.1, _, _, rfl⟩ ((zm σ4).small ub)) ?_
  rintro r10 σ10 ⟨o10, k10⟩
  simp only [fnOf, Tryz.f6, KP, ↓reduceIte, Nat.reduceEqDiff, Nat.reduceLT, Nat.reduceLeDiff, Nat.reduceAdd, Nat.reduceMul, Nat.reduceBEq, reduceCtorEq, Int.reduceEq, Int.reduceLT, Int.reduceLE, Int.reduceAdd, Int.reduceSub, Int.reduceNeg, h.ty3, h.ty4, h.ty9, h.ty34, h.ty22, h.ty25, h.ty28, h.ty30, h.ty32, h.ty61, h.eq34, g14, g15, f0, f1, f6, f7, f10, f11, f12, f13, Ax.eqV]
  have om := (ht.om.keepL k48).sv.keep k10.keepC
  have c10 : (setOf km).length ≤ 1000000000000 := by rw [setOf_length (zm σ4).tv.1]; have := ((zm σ4).small ub).1; omega
  have e10 : setOf km = (setOf (la.take 20)).filter fun z => decide (z ∈ setOf (lb.take 20)) := up_ext (setOf_up _) ((setOf_up _).filter _) fun z => by
    rw [mem_setOf, (zm σ4).mem, List.mem_filter, mem_setOf, decide_eq_true_iff, mem_setOf]
  rw [callK_of fun K => b_rEq (K := K) h o10.sv om c10, decide_eq_true e10]
  simp only [fnOf, Tryz.f6, KP, ↓reduceIte, Nat.reduceEqDiff, Nat.reduceLT, Nat.reduceLeDiff, Nat.reduceAdd, Nat.reduceMul, Nat.reduceBEq, reduceCtorEq, Int.reduceEq, Int.reduceLT, Int.reduceLE, Int.reduceAdd, Int.reduceSub, Int.reduceNeg, h.ty3, h.ty4, h.ty9, h.ty34, h.ty22, h.ty25, h.ty28, h.ty30, h.ty32, h.ty61, h.eq34, g14, g15, f0, f1, f6, f7, f10, f11, f12, f13, Ax.eqV]
  refine callK_intro (b_AllI h ⟨(zd σ4).tv.1, _, _, rfl⟩ ((zd σ4).small ub)) ?_
  rintro r11 σ11 ⟨o11, k11⟩
  simp only [fnOf, Tryz.f6, KP, ↓reduceIte, Nat.reduceEqDiff, Nat.reduceLT, Nat.reduceLeDiff, Nat.reduceAdd, Nat.reduceMul, Nat.reduceBEq, reduceCtorEq, Int.reduceEq, Int.reduceLT, Int.reduceLE, Int.reduceAdd, Int.reduceSub, Int.reduceNeg, h.ty3, h.ty4, h.ty9, h.ty34, h.ty22, h.ty25, h.ty28, h.ty30, h.ty32, h.ty61, h.eq34, g14, g15, f0, f1, f6, f7, f10, f11, f12, f13, Ax.eqV]
  have ob := ((ht.ob.keepL k48).sv.keep k10.keepC).keep k11.keepC
  have c11 : (setOf kd).length ≤ 1000000000000 := by rw [setOf_length (zd σ4).tv.1]; have := ((zd σ4).small ub).1; omega
  have e11 : setOf kd = (setOf (la.take 20)).filter fun z => !decide (z ∈ setOf (lb.take 20)) := up_ext (setOf_up _) ((setOf_up _).filter _) fun z => by
    rw [mem_setOf, (zd σ4).mem, List.mem_filter, mem_setOf, Bool.not_eq_true', decide_eq_false_iff_not, mem_setOf]
  rw [callK_of fun K => b_rEq (K := K) h o11.sv ob c11, decide_eq_true e11]
  simp only [fnOf, Tryz.f6, KP, ↓reduceIte, Nat.reduceEqDiff, Nat.reduceLT, Nat.reduceLeDiff, Nat.reduceAdd, Nat.reduceMul, Nat.reduceBEq, reduceCtorEq, Int.reduceEq, Int.reduceLT, Int.reduceLE, Int.reduceAdd, Int.reduceSub, Int.reduceNeg, h.ty3, h.ty4, h.ty9, h.ty34, h.ty22, h.ty25, h.ty28, h.ty30, h.ty32, h.ty61, h.eq34, g14, g15, f0, f1, f6, f7, f10, f11, f12, f13, Ax.eqV]
  have k411 : ∀ j o, j < σ4.length → σ4[j]? = some o → σ11[j]? = some o := fun j o hj e => k11 _ _ (k10 _ _ (k48 j o hj e))
  have k211 : ∀ j o, j < σ2.length → σ2[j]? = some o → σ11[j]? = some o := fun j o hj e => k411 j o (List.getElem?_eq_some_iff.1 (ht.kp j o hj e)).1 (ht.kp j o hj e)
  have A0 : σ2[0]? = some (.cells 34 [.bool x.1, .str x.2] true) := kp2 _ _ (kp1 _ _ rfl)
  have A1 : σ2[1]? = some (.cells 34 [.bool y.1, .str y.2] true) := kp2 _ _ (kp1 _ _ rfl)
  have B0 := k211 _ _ (List.getElem?_eq_some_iff.1 A0).1 A0
  have B1 := k211 _ _ (List.getElem?_eq_some_iff.1 A1).1 A1
  have L0 := load_own h (o := 0) (x := x) B0 (Nat.le_refl _) rfl
  have L1 := load_own h (o := 0) (x := y) B1 (Nat.le_refl _) rfl
  simp only [fnOf, Tryz.f6, KP, ↓reduceIte, Nat.reduceEqDiff, Nat.reduceLT, Nat.reduceLeDiff, Nat.reduceAdd, Nat.reduceMul, Nat.reduceBEq, reduceCtorEq, Int.reduceEq, Int.reduceLT, Int.reduceLE, Int.reduceAdd, Int.reduceSub, Int.reduceNeg, h.ty3, h.ty4, h.ty9, h.ty34, h.ty22, h.ty25, h.ty28, h.ty30, h.ty32, h.ty61, h.eq34, g14, g15, f0, f1, f6, f7, f10, f11, f12, f13, L0, L1, Ax.fill, Ax.reps]
  have Z1 := (X1.keepL k411).kall (Kall.app σ11 [.cells 34 [.bool x.1, .str x.2, .bool y.1, .str y.2, .bool x.1, .str x.2] true])
  have Z2 := (X2.keepL k411).kall (Kall.app σ11 [.cells 34 [.bool x.1, .str x.2, .bool y.1, .str y.2, .bool x.1, .str x.2] true])
  have Sv : SV (σ11 ++ [.cells 34 [.bool x.1, .str x.2, .bool y.1, .str y.2, .bool x.1, .str x.2] true]) (.sl σ11.length 0 3 none) [x, y, x] :=
    .inr (.inr ⟨σ11.length, _, true, rfl, by rw [List.getElem?_append_right (Nat.le_refl _), Nat.sub_self]; rfl, rfl⟩)
  refine callK_intro (b_Add h Z1 Sv (by simp) (by have := smX.1; omega)) ?_
  rintro _ σ12 ⟨rfl, Z1', k12⟩
  simp only [fnOf, Tryz.f6, KP, ↓reduceIte, Nat.reduceEqDiff, Nat.reduceLT, Nat.reduceLeDiff, Nat.reduceAdd, Nat.reduceMul, Nat.reduceBEq, reduceCtorEq, Int.reduceEq, Int.reduceLT, Int.reduceLE, Int.reduceAdd, Int.reduceSub, Int.reduceNeg, h.ty3, h.ty4, h.ty9, h.ty34, h.ty22, h.ty25, h.ty28, h.ty30, h.ty32, h.ty61, h.eq34, g14, g15, f0, f1, f6, f7, f10, f11, f12, f13]
  have nm1 : ∀ j o, σ2[j]? = some o → j ≠ m1 → σ12[j]? = some o := fun j o e hj => k12 j o hj (get_app (k211 j o (List.getElem?_eq_some_iff.1 e).1 e) _)
  have hm1' := hm1
  simp only [List.length_cons, List.length_nil] at hm1'
  have C0 := nm1 _ _ A0 (by omega)
  have C1 := nm1 _ _ A1 (by omega)
  have M0 := load_own h (o := 0) (x := x) C0 (Nat.le_refl _) rfl
  have M1 := load_own h (o := 0) (x := y) C1 (Nat.le_refl _) rfl
  have lt1 := (List.getElem?_eq_some_iff.1 S1.map).1
  have ne12 : m2 ≠ m1 := by omega
  have Z2' : SetAt σ12 σ1.length m2 (keys [] (lb.take 20)) := Z2.kp Z1 ne12 k12
  simp only [fnOf, Tryz.f6, KP, ↓reduceIte, Nat.reduceEqDiff, Nat.reduceLT, Nat.reduceLeDiff, Nat.reduceAdd, Nat.reduceMul, Nat.reduceBEq, reduceCtorEq, Int.reduceEq, Int.reduceLT, Int.reduceLE, Int.reduceAdd, Int.reduceSub, Int.reduceNeg, h.ty3, h.ty4, h.ty9, h.ty34, h.ty22, h.ty25, h.ty28, h.ty30, h.ty32, h.ty61, h.eq34, g14, g15, f0, f1, f6, f7, f10, f11, f12, f13, Ax.r_undraw d19, Ax.undraw, M0, M1]
  refine callK_intro (b_rAdd h hp1 (by omega)) ?_
  rintro w1 σ12 ⟨rfl, hw1⟩
  simp only [fnOf, Tryz.f6, KP, ↓reduceIte, Nat.reduceEqDiff, Nat.reduceLT, Nat.reduceLeDiff, Nat.reduceAdd, Nat.reduceMul, Nat.reduceBEq, reduceCtorEq, Int.reduceEq, Int.reduceLT, Int.reduceLE, Int.reduceAdd, Int.reduceSub, Int.reduceNeg, h.ty3, h.ty4, h.ty9, h.ty34, h.ty22, h.ty25, h.ty28, h.ty30, h.ty32, h.ty61, h.eq34, g14, g15, f0, f1, f6, f7, f10, f11, f12, f13, M0, M1]
  have pl1 := put_length (setOf (la.take 20)) x
  refine callK_intro (b_rAdd h hw1 (by omega)) ?_
  rintro w2 σ12 ⟨rfl, hw2⟩
  simp only [fnOf, Tryz.f6, KP, ↓reduceIte, Nat.reduceEqDiff, Nat.reduceLT, Nat.reduceLeDiff, Nat.reduceAdd, Nat.reduceMul, Nat.reduceBEq, reduceCtorEq, Int.reduceEq, Int.reduceLT, Int.reduceLE, Int.reduceAdd, Int.reduceSub, Int.reduceNeg, h.ty3, h.ty4, h.ty9, h.ty34, h.ty22, h.ty25, h.ty28, h.ty30, h.ty32, h.ty61, h.eq34, g14, g15, f0, f1, f6, f7, f10, f11, f12, f13, M0, M1, Ax.r_undraw d20, Ax.undraw]
  have X12 : TZ U σ12 (.ref 2 0) (keys (keys [] (la.take 20)) [x, y, x]) (fun z => z ∈ la.take 20 ∨ z ∈ [x, y, x]) :=
    ⟨⟨Z1'.nodup, .inl ⟨2, m1, rfl, Z1'⟩⟩, fun z => by rw [mem_keys, mem_keys]; simp, fun z hz => by
      rw [hU]
      rcases hz with hz | hz
      · exact List.mem_cons_of_mem _ (List.mem_cons_of_mem _ (List.mem_append_left _ hz))
      · simp only [List.mem_cons, List.not_mem_nil, or_false] at hz
        rcases hz with rfl | rfl | rfl <;> simp⟩
  have Y12 : TZ U σ12 _ _ _ := TZ.ofSet Z2' (fun z hz => by rw [hU]; exact List.mem_cons_of_mem _ (List.mem_cons_of_mem _ (List.mem_append_right _ hz)))
  have eW : setOf (keys (keys [] (la.take 20)) [x, y, x]) = put (put (setOf (la.take 20)) x) y := up_ext (setOf_up _) (put_up (put_up (setOf_up _))) fun z => by
    rw [mem_setOf, X12.mem, mem_put, mem_put, mem_setOf]
    simp only [List.mem_cons, List.not_mem_nil, or_false]
    constructor
    · rintro (h1 | h1 | h1 | h1)
      · exact .inl (.inl h1)
      · exact .inl (.inr h1)
      · exact .inr h1
      · exact .inl (.inr h1)
    · rintro ((h1 | h1) | h1)
      · exact .inl h1
      · exact .inr (.inl h1)
      · exact .inr (.inr (.inl h1))
  obtain ⟨W, hW⟩ : ∃ W, put (put (setOf (la.take 20)) x) y = W := ⟨_, rfl⟩
  rw [hW] at eW hw2
  have pl2 := put_length (put (setOf (la.take 20)) x) y
  rw [hW] at pl2
  rw [callK_of fun K => b_SEq (K := K) h X12.tv Y12.tv (X12.small ub) (Y12.small ub), eW, keys_set']
  simp only [fnOf, Tryz.f6, KP, ↓reduceIte, Nat.reduceEqDiff, Nat.reduceLT, Nat.reduceLeDiff, Nat.reduceAdd, Nat.reduceMul, Nat.reduceBEq, reduceCtorEq, Int.reduceEq, Int.reduceLT, Int.reduceLE, Int.reduceAdd, Int.reduceSub, Int.reduceNeg, h.ty3, h.ty4, h.ty9, h.ty34, h.ty22, h.ty25, h.ty28, h.ty30, h.ty32, h.ty61, h.eq34, g14, g15, f0, f1, f6, f7, f10, f11, f12, f13]
  rw [callK_of fun K => b_rEq (K := K) h (hw2.lv.sv _) (hp2.lv.sv _) (by omega)]
  have lW := len_SV h (hw2.lv.sv σ12)
  have lP := lP σ12
  have eL : (keys (keys [] (la.take 20)) [x, y, x]).length = W.length := by rw [← eW, setOf_length X12.tv.1]
  have eP : (keys [] (la.take 20)).length = (setOf (la.take 20)).length := by rw [← keys_set', setOf_length X1.nodup]
  have hsub := wr_sub W.length (setOf (la.take 20)).length (by omega) (by omega)
  simp only [fnOf, Tryz.f6, KP, ↓reduceIte, Nat.reduceEqDiff, Nat.reduceLT, Nat.reduceLeDiff, Nat.reduceAdd, Nat.reduceMul, Nat.reduceBEq, reduceCtorEq, Int.reduceEq, Int.reduceLT, Int.reduceLE, Int.reduceAdd, Int.reduceSub, Int.reduceNeg, h.ty3, h.ty4, h.ty9, h.ty34, h.ty22, h.ty25, h.ty28, h.ty30, h.ty32, h.ty61, h.eq34, g14, g15, f0, f1, f6, f7, f10, f11, f12, f13, eqV_bool h, BEq.rfl, lW, lP, hsub, eL, eP]
  rw [callK_of fun K => b_Len (K := K) h X12.tv]
  simp only [fnOf, Tryz.f6, KP, ↓reduceIte, Nat.reduceEqDiff, Nat.reduceLT, Nat.reduceLeDiff, Nat.reduceAdd, Nat.reduceMul, Nat.reduceBEq, reduceCtorEq, Int.reduceEq, Int.reduceLT, Int.reduceLE, Int.reduceAdd, Int.reduceSub, Int.reduceNeg, h.ty3, h.ty4, h.ty9, h.ty34, h.ty22, h.ty25, h.ty28, h.ty30, h.ty32, h.ty61, h.eq34, g14, g15, f0, f1, f6, f7, f10, f11, f12, f13, eqV_bool h, BEq.rfl, lW, lP, hsub, eL, eP, M0, M1]
  rw [callK_of fun K => b_HasT (K := K) h X12.tv x, decide_eq_true ((X12.mem x).2 (.inr (List.mem_cons_self ..)))]
  simp only [fnOf, Tryz.f6, KP, ↓reduceIte, Nat.reduceEqDiff, Nat.reduceLT, Nat.reduceLeDiff, Nat.reduceAdd, Nat.reduceMul, Nat.reduceBEq, reduceCtorEq, Int.reduceEq, Int.reduceLT, Int.reduceLE, Int.reduceAdd, Int.reduceSub, Int.reduceNeg, h.ty3, h.ty4, h.ty9, h.ty34, h.ty22, h.ty25, h.ty28, h.ty30, h.ty32, h.ty61, h.eq34, g14, g15, f0, f1, f6, f7, f10, f11, f12, f13, eqV_bool h, BEq.rfl, lW, lP, hsub, eL, eP, M0, M1]
  rw [callK_of fun K => b_HasT (K := K) h Y12.tv x]
  simp only [fnOf, Tryz.f6, KP, ↓reduceIte, Nat.reduceEqDiff, Nat.reduceLT, Nat.reduceLeDiff, Nat.reduceAdd, Nat.reduceMul, Nat.reduceBEq, reduceCtorEq, Int.reduceEq, Int.reduceLT, Int.reduceLE, Int.reduceAdd, Int.reduceSub, Int.reduceNeg, h.ty3, h.ty4, h.ty9, h.ty34, h.ty22, h.ty25, h.ty28, h.ty30, h.ty32, h.ty61, h.eq34, g14, g15, f0, f1, f6, f7, f10, f11, f12, f13, eqV_bool h, BEq.rfl, lW, lP, hsub, eL, eP, M0, M1]
  rw [callK_of fun K => b_Find (K := K) h x (hp2.lv.sv _) (by omega)]
  have fm := find_mem x (setOf (lb.take 20))
  have fe : decide (x ∈ keys [] (lb.take 20)) = decide (x ∈ setOf (lb.take 20)) := by
    congr 1
    rw [mem_setOf, mem_keys]
    simp
  rw [fe]
  simp only [fnOf, Tryz.f6, KP, ↓reduceIte, Nat.reduceEqDiff, Nat.reduceLT, Nat.reduceLeDiff, Nat.reduceAdd, Nat.reduceMul, Nat.reduceBEq, reduceCtorEq, Int.reduceEq, Int.reduceLT, Int.reduceLE, Int.reduceAdd, Int.reduceSub, Int.reduceNeg, h.ty3, h.ty4, h.ty9, h.ty34, h.ty22, h.ty25, h.ty28, h.ty30, h.ty32, h.ty61, h.eq34, g14, g15, f0, f1, f6, f7, f10, f11, f12, f13, eqV_bool h, fm, BEq.rfl, lW, lP, hsub, eL, eP, M0, M1]
  rw [callK_of fun K => hE.less σ12 K x.1 y.1 x.2 y.2]
  simp only [fnOf, Tryz.f6, KP, ↓reduceIte, Nat.reduceEqDiff, Nat.reduceLT, Nat.reduceLeDiff, Nat.reduceAdd, Nat.reduceMul, Nat.reduceBEq, reduceCtorEq, Int.reduceEq, Int.reduceLT, Int.reduceLE, Int.reduceAdd, Int.reduceSub, Int.reduceNeg, h.ty3, h.ty4, h.ty9, h.ty34, h.ty22, h.ty25, h.ty28, h.ty30, h.ty32, h.ty61, h.eq34, g14, g15, f0, f1, f6, f7, f10, f11, f12, f13, eqV_bool h, M0, M1]
  rw [callK_of fun K => b_rLess (K := K) h x.1 y.1 x.2 y.2]
  simp only [fnOf, Tryz.f6, KP, ↓reduceIte, Nat.reduceEqDiff, Nat.reduceLT, Nat.reduceLeDiff, Nat.reduceAdd, Nat.reduceMul, Nat.reduceBEq, reduceCtorEq, Int.reduceEq, Int.reduceLT, Int.reduceLE, Int.reduceAdd, Int.reduceSub, Int.reduceNeg, h.ty3, h.ty4, h.ty9, h.ty34, h.ty22, h.ty25, h.ty28, h.ty30, h.ty32, h.ty61, h.eq34, g14, g15, f0, f1, f6, f7, f10, f11, f12, f13, eqV_bool h, M0, M1]
  rw [callK_of fun K => hE.name σ12 K x.1 x.2 sx]
  simp only [fnOf, Tryz.f6, KP, ↓reduceIte, Nat.reduceEqDiff, Nat.reduceLT, Nat.reduceLeDiff, Nat.reduceAdd, Nat.reduceMul, Nat.reduceBEq, reduceCtorEq, Int.reduceEq, Int.reduceLT, Int.reduceLE, Int.reduceAdd, Int.reduceSub, Int.reduceNeg, h.ty3, h.ty4, h.ty9, h.ty34, h.ty22, h.ty25, h.ty28, h.ty30, h.ty32, h.ty61, h.eq34, g14, g15, f0, f1, f6, f7, f10, f11, f12, f13, eqV_bool h, M0, M1]
  rw [callK_of fun K => b_rName (K := K) h x.1 x.2 sx]
  simp only [fnOf, Tryz.f6, KP, ↓reduceIte, Nat.reduceEqDiff, Nat.reduceLT, Nat.reduceLeDiff, Nat.reduceAdd, Nat.reduceMul, Nat.reduceBEq, reduceCtorEq, Int.reduceEq, Int.reduceLT, Int.reduceLE, Int.reduceAdd, Int.reduceSub, Int.reduceNeg, h.ty3, h.ty4, h.ty9, h.ty34, h.ty22, h.ty25, h.ty28, h.ty30, h.ty32, h.ty61, h.eq34, g14, g15, f0, f1, f6, f7, f10, f11, f12, f13, M0, M1, seq_dec]
  exact rfl
theorem le_all : AllE LE := ⟨le_lab, ⟨Lhs13, Lsp13, Lfn13, Lmd13⟩, Lfn6, fun σ K => wpCall_spec Lhs9 Lsp9 (args' := []) (v := .bool true) rfl (by kernel_rfl) rfl, fun σ K a b s t => c_Less a b s t, fun σ K a s hs => c_Name a s hs, by kernel_rfl, by kernel_rfl⟩
theorem run_labelsAll (a : V) (l : List Lab) (ha : LV a l) (hl : ∀ k ∈ l, k.2.length ≤ 9223372036854775806) (b : V) (m : List Lab) (hb : LV b m) (hm : ∀ k ∈ m, k.2.length ≤ 9223372036854775806) (x : Bool) (s : List Nat) (hs : s.length ≤ 9223372036854775806) (y : Bool) (t : List Nat) (ht : t.length ≤ 9223372036854775806) :
    ∃ k, Ax.call LE k 6 [a, b, .agg [.bool x, .str s], .agg [.bool y, .str t]] = some (.bool true) :=
  call_of_enter Lfn6 (all_run le_all (x := (x, s)) (y := (y, t)) ha hb hl hm hs ht)
end
end Go.Proofs.YtmbhjdkbcgngiaaGreatDoor
