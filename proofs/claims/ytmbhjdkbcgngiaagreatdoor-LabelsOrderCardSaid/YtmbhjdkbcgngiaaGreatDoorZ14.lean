/- AX: arguments of rows. -/
/- AX: sets of labels as rising lists: the plain law. -/
/- AX: labels: orders, names. -/
import Derived.Test.YtmbhjdkbcgngiaaGreatDoorZ13
import Derived.Deep.SlicePairs
import Derived.Test.YtmbhjdkbcgngiaaGreatDoorZ3
import Derived.Test.YtmbhjdkbcgngiaaGreatDoorZ12
section
set_option linter.unusedVariables false
set_option maxRecDepth 100000
namespace Go.Proofs.YtmbhjdkbcgngiaaGreatDoor
open Go Go.Ax Go.ChangeShapes Go.WideShapes Go.ChangeAt Go.RowKit
section
variable {H : Type} {enc : TypeId × Value → H} {W : World} {base : Nat} {v : Value} {d : DataW H} {p : List MemPlace}
theorem arg_int (hv : Value.okWide Tryz.prog W .any base 3 v) : ∃ x : Int, v = .int .i64 x ∧ True := by
  have e2 : Tryz.prog.underlying 3 = some (.int .i64) := Tryz.underlying3
  unfold Value.okWide Cell.okWide Cell.ok at hv
  rw [e2] at hv
  cases v with
  | int k n => exact ⟨n, by rw [show k = IntKind.i64 from hv.1], trivial⟩
  | _ => exact hv.elim
theorem arg_bool (hv : Value.okWide Tryz.prog W .any base 4 v) : ∃ x : Bool, v = .bool x ∧ True := by
  have e2 : Tryz.prog.underlying 4 = some .bool := Tryz.underlying4
  unfold Value.okWide Cell.okWide Cell.ok at hv
  rw [e2] at hv
  cases v with
  | bool x => exact ⟨x, rfl, trivial⟩
  | _ => exact hv.elim
theorem bytes_length (s : ByteArray) : (Ax.bytes s).length = s.size := by
  unfold Ax.bytes
  rw [List.length_map]
  rfl
theorem arg_label (hv : Value.okWide Tryz.prog W .any base 34 v) (h : DataW.Trod enc Tryz.prog W 0 (fun _ => true) true 34 v d p) (hw : (DataW.weights Tryz.prog 34 d).all (· ≤ reachBytes) = true) :
    ∃ (x : Bool) (s : ByteArray), v = .agg #[.bool x, .string s] ∧ (Ax.bytes s).length ≤ 9223372036854775806 := by
  obtain ⟨cs, rfl⟩ : ∃ cs, v = .agg cs := by
    unfold Value.okWide at hv
    rw [Tryz.underlying34] at hv
    obtain ⟨cs, h1, _⟩ := hv
    exact ⟨cs, h1⟩
  obtain ⟨fuel, h⟩ := h
  obtain ⟨y0, y1, n, he, hl, u0, u1⟩ := trod_struct2 Tryz.underlying34 h
  have hl' : cs.toList.length = 2 := hl.trans (by kernel_rfl)
  obtain ⟨l⟩ := cs
  match l, hl' with
  | [c0, c1], _ =>
    obtain ⟨x, e0, _⟩ := DataW.trod_bool Tryz.underlying4 u0
    obtain ⟨s, e1, e1', _⟩ := DataW.trod_string Tryz.underlying9 u1
    have k0 : Tryz.prog.cellsOf 4 = 1 := by kernel_rfl
    have k1 : Tryz.prog.cellsOf 9 = 1 := by kernel_rfl
    have f0 : [c0] = [Value.bool x] := by rw [← e0]; rw [k0]; rfl
    have f1 : [c1] = [Value.string s] := by rw [← e1]; rw [k1]; rfl
    cases f0; cases f1
    refine ⟨x, s, rfl, ?_⟩
    have hd : d = .agg [y0.1, y1.1] := congrArg Prod.fst he
    rw [hd, e1'] at hw
    unfold DataW.weights at hw
    rw [Tryz.underlying34] at hw
    simp only [List.map_cons, List.map_nil, DataW.weightsEach, DataW.weights, List.all_append, Bool.and_eq_true, List.all_cons, decide_eq_true_eq] at hw
    have hs : s.data.toList.length ≤ reachBytes := hw.2.1.1
    rw [bytes_length]
    have : s.size = s.data.toList.length := rfl
    have e : reachBytes = 140737488351232 := by decide
    omega
end
theorem vr_label (W : World) (x : Bool) (s : ByteArray) : VR (topCx W) (.agg [.bool x, .str (Ax.bytes s)]) (.agg #[.bool x, .string s]) :=
  .agg _ [_, _] (.cons _ _ _ _ (.inl (.bool _)) (.cons _ _ _ _ (.inl (.str _)) .nil))
end Go.Proofs.YtmbhjdkbcgngiaaGreatDoor
end
section
namespace Go.AxS
open Go Go.Ax
theorem slt_irrefl : ∀ s, slt s s = false
  | [] => rfl
  | a :: s => by rw [slt_cons]; simp [slt_irrefl s]
theorem slt_trans : ∀ s t u, slt s t = true → slt t u = true → slt s u = true
  | _, [], _, h, _ => by cases ‹List Nat› <;> simp [slt] at h
  | _, _ :: _, [], _, h => by simp [slt] at h
  | [], b :: t, c :: u, _, _ => rfl
  | a :: s, b :: t, c :: u, h1, h2 => by
    rw [slt_cons] at h1 h2 ⊢
    simp only [Bool.or_eq_true, Bool.and_eq_true, decide_eq_true_eq] at h1 h2 ⊢
    rcases h1 with h1 | ⟨rfl, h1⟩
    · rcases h2 with h2 | ⟨rfl, h2⟩
      · exact .inl (by omega)
      · exact .inl h1
    · rcases h2 with h2 | ⟨rfl, h2⟩
      · exact .inl h2
      · exact .inr ⟨rfl, slt_trans s t u h1 h2⟩
theorem slt_total : ∀ s t, slt s t = false → slt t s = false → s = t
  | [], [], _, _ => rfl
  | [], _ :: _, h, _ => by simp [slt] at h
  | _ :: _, [], _, h => by simp [slt] at h
  | a :: s, b :: t, h1, h2 => by
    rw [slt_cons] at h1 h2
    simp only [Bool.or_eq_false_iff, Bool.and_eq_false_iff, decide_eq_false_iff_not] at h1 h2
    have e : a = b := by omega
    subst e
    rw [slt_total s t (h1.2.resolve_left (fun h => h rfl)) (h2.2.resolve_left (fun h => h rfl))]
theorem seq_iff : ∀ s t : List Nat, Ax.seq s t = true ↔ s = t
  | [], [] => by simp [Ax.seq]
  | [], _ :: _ => by simp [Ax.seq]
  | _ :: _, [] => by simp [Ax.seq]
  | a :: s, b :: t => by rw [seq_cons]; simp [seq_iff s t]
theorem seq_dec (s t : List Nat) : Ax.seq s t = decide (s = t) := by
  rw [Bool.eq_iff_iff, seq_iff]; simp

/-! ### labels -/
abbrev Lab := Bool × List Nat
def row (x : Lab) : List V := [.bool x.1, .str x.2]
def lt (x y : Lab) : Bool := match x.1, y.1 with
  | false, true => true
  | true, false => false
  | _, _ => slt x.2 y.2
theorem lt_row (x y : Lab) : labLt (row x) (row y) = lt x y := by
  obtain ⟨a, s⟩ := x; obtain ⟨b, t⟩ := y
  cases a <;> cases b <;> rfl
theorem row_inj {x y : Lab} (h : row x = row y) : x = y := by
  obtain ⟨a, s⟩ := x; obtain ⟨b, t⟩ := y
  simp only [row, List.cons.injEq, V.bool.injEq, V.str.injEq, and_true] at h
  rw [h.1, h.2]
theorem lt_irrefl (x : Lab) : lt x x = false := by
  obtain ⟨a, s⟩ := x
  cases a <;> exact slt_irrefl s
theorem lt_trans (x y z : Lab) (h1 : lt x y = true) (h2 : lt y z = true) : lt x z = true := by
  obtain ⟨a, s⟩ := x; obtain ⟨b, t⟩ := y; obtain ⟨c, u⟩ := z
  cases a <;> cases b <;> cases c <;> simp only [lt] at h1 h2 ⊢ <;> first | exact slt_trans _ _ _ h1 h2 | rfl | exact absurd h1 Bool.false_ne_true | exact absurd h2 Bool.false_ne_true
theorem lt_total (x y : Lab) (h1 : lt x y = false) (h2 : lt y x = false) : x = y := by
  obtain ⟨a, s⟩ := x; obtain ⟨b, t⟩ := y
  cases a <;> cases b <;> simp only [lt] at h1 h2 <;> first | rw [slt_total _ _ h1 h2] | exact absurd h1.symm Bool.false_ne_true | exact absurd h2.symm Bool.false_ne_true
theorem lt_asymm {x y : Lab} (h : lt x y = true) : lt y x = false := by
  cases hy : lt y x with
  | false => rfl
  | true => have := lt_trans _ _ _ h hy; rw [lt_irrefl] at this; cases this

/-! ### rising lists -/
def Up (l : List Lab) : Prop := l.Pairwise fun x y => lt x y = true
theorem up_ext : ∀ {l m : List Lab}, Up l → Up m → (∀ x, x ∈ l ↔ x ∈ m) → l = m
  | [], [], _, _, _ => rfl
  | [], y :: m, _, _, h => by have := (h y).2 (List.mem_cons_self ..); cases this
  | x :: l, [], _, _, h => by have := (h x).1 (List.mem_cons_self ..); cases this
  | x :: l, y :: m, h1, h2, h => by
    rw [Up, List.pairwise_cons] at h1 h2
    have e : x = y := by
      rcases List.mem_cons.1 ((h x).1 (List.mem_cons_self ..)) with e | hx
      · exact e
      rcases List.mem_cons.1 ((h y).2 (List.mem_cons_self ..)) with e | hy
      · exact e.symm
      have := lt_asymm (h1.1 y hy)
      rw [h2.1 x hx] at this; cases this
    subst e
    rw [up_ext h1.2 h2.2 fun z => ⟨fun hz => ?_, fun hz => ?_⟩]
    · rcases List.mem_cons.1 ((h z).1 (List.mem_cons_of_mem _ hz)) with rfl | hz'
      · have := h1.1 z hz; rw [lt_irrefl] at this; cases this
      · exact hz'
    · rcases List.mem_cons.1 ((h z).2 (List.mem_cons_of_mem _ hz)) with rfl | hz'
      · have := h2.1 z hz; rw [lt_irrefl] at this; cases this
      · exact hz'
theorem Up.nodup {l : List Lab} (h : Up l) : l.Nodup := h.imp fun hxy e => by
  subst e; rw [lt_irrefl] at hxy; cases hxy
/-- put in its place, once -/
def put : List Lab → Lab → List Lab
  | [], x => [x]
  | y :: r, x => if lt y x = true then y :: put r x else if y = x then y :: r else x :: y :: r
theorem mem_put {x z : Lab} : ∀ {l : List Lab}, z ∈ put l x ↔ z ∈ l ∨ z = x
  | [] => by simp [put]
  | y :: r => by
    simp only [put]
    split
    · rw [List.mem_cons, mem_put, List.mem_cons, or_assoc]
    · split
      · rename_i e; subst e
        simp only [List.mem_cons]
        constructor
        · intro h; exact .inl h
        · rintro (h | rfl)
          · exact h
          · exact .inl rfl
      · simp only [List.mem_cons]
        constructor
        · rintro (rfl | h)
          · exact .inr rfl
          · exact .inl h
        · rintro (h | rfl)
          · exact .inr h
          · exact .inl rfl
theorem put_up {x : Lab} : ∀ {l : List Lab}, Up l → Up (put l x)
  | [], _ => by simp [put, Up]
  | y :: r, h => by
    have h0 := h
    rw [Up, List.pairwise_cons] at h
    simp only [put]
    split
    · rename_i hyx
      refine List.pairwise_cons.2 ⟨fun z hz => ?_, put_up h.2⟩
      rcases mem_put.1 hz with hz | rfl
      · exact h.1 z hz
      · exact hyx
    · rename_i hyx
      split
      · exact h0
      · rename_i hne
        have hxy : lt x y = true := by
          cases hc : lt x y with
          | true => rfl
          | false => exact absurd (lt_total _ _ (by simpa using hyx) hc) hne
        refine List.pairwise_cons.2 ⟨fun z hz => ?_, h0⟩
        rcases List.mem_cons.1 hz with rfl | hz
        · exact hxy
        · exact lt_trans _ _ _ hxy (h.1 z hz)
def setOf (l : List Lab) : List Lab := l.foldl put []
theorem foldl_put_up : ∀ (l acc : List Lab), Up acc → Up (l.foldl put acc)
  | [], _, h => h
  | _ :: l, _, h => foldl_put_up l _ (put_up h)
theorem mem_foldl_put {z : Lab} : ∀ (l acc : List Lab), z ∈ l.foldl put acc ↔ z ∈ acc ∨ z ∈ l
  | [], acc => by simp
  | x :: l, acc => by
    rw [List.foldl_cons, mem_foldl_put l, mem_put, List.mem_cons, or_assoc]
theorem setOf_up (l : List Lab) : Up (setOf l) := foldl_put_up l [] List.Pairwise.nil
theorem mem_setOf {l : List Lab} {z : Lab} : z ∈ setOf l ↔ z ∈ l := by
  rw [setOf, mem_foldl_put]; simp
theorem setOf_self {l : List Lab} (h : Up l) : setOf l = l := up_ext (setOf_up l) h fun _ => mem_setOf
theorem setOf_congr {l m : List Lab} (h : ∀ x, x ∈ l ↔ x ∈ m) : setOf l = setOf m := up_ext (setOf_up l) (setOf_up m) fun x => by rw [mem_setOf, mem_setOf, h]

/-! ### what sortK makes -/
theorem insK_row (x : Lab) : ∀ {l : List Lab}, Up l → x ∉ l → insK labLt (row x) (l.map row) = (put l x).map row
  | [], _, _ => rfl
  | y :: r, h, hx => by
    rw [Up, List.pairwise_cons] at h
    rw [List.mem_cons, not_or] at hx
    simp only [List.map_cons, insK, put, lt_row]
    cases hxy : lt x y with
    | true =>
      rw [if_pos rfl, if_neg (by rw [lt_asymm hxy]; simp), if_neg (fun e => hx.1 e.symm)]
      rfl
    | false =>
      have hyx : lt y x = true := by
        cases hc : lt y x with
        | true => rfl
        | false => exact absurd (lt_total _ _ hxy hc) hx.1
      rw [if_neg (by simp), if_pos hyx, insK_row x h.2 hx.2]
      rfl
theorem foldK_row : ∀ (l acc : List Lab), Up acc → l.Nodup → (∀ x ∈ l, x ∉ acc) → (l.map row).foldl (fun acc x => insK labLt x acc) (acc.map row) = (l.foldl put acc).map row
  | [], _, _, _, _ => rfl
  | x :: l, acc, h, hn, hd => by
    rw [List.nodup_cons] at hn
    rw [List.map_cons, List.foldl_cons, List.foldl_cons, insK_row x h (hd x (List.mem_cons_self ..))]
    refine foldK_row l _ (put_up h) hn.2 fun z hz hm => ?_
    rcases mem_put.1 hm with hm | rfl
    · exact hd z (List.mem_cons_of_mem _ hz) hm
    · exact hn.1 hz
theorem sortK_row {l : List Lab} (hn : l.Nodup) : sortK labLt (l.map row) = (setOf l).map row := foldK_row l [] List.Pairwise.nil hn fun _ _ h => by cases h
theorem setOf_length {l : List Lab} (hn : l.Nodup) : (setOf l).length = l.length := by
  suffices ∀ (l acc : List Lab), l.Nodup → (∀ x ∈ l, x ∉ acc) → (l.foldl put acc).length = acc.length + l.length by
    have := this l [] hn (fun _ _ h => by cases h)
    simpa [setOf] using this
  intro l
  induction l with
  | nil => intro acc _ _; simp
  | cons x l ih =>
    intro acc hn hd
    rw [List.nodup_cons] at hn
    have hp : ∀ {m : List Lab}, x ∉ m → (put m x).length = m.length + 1 := by
      intro m
      induction m with
      | nil => intro _; rfl
      | cons y r ihr =>
        intro hx
        rw [List.mem_cons, not_or] at hx
        simp only [put]
        split
        · simp [ihr hx.2]
        · rw [if_neg (fun e => hx.1 e.symm)]; simp
    rw [List.foldl_cons, ih _ hn.2, hp (hd x (List.mem_cons_self ..)), List.length_cons]
    · omega
    · intro z hz hm
      rcases mem_put.1 hm with hm | rfl
      · exact hd z (List.mem_cons_of_mem _ hz) hm
      · exact hn.1 hz

/-! ### the keys of a map, as they came -/
def keyIn (l : List Lab) (x : Lab) : List Lab := if x ∈ l then l else l ++ [x]
def keys (l : List Lab) (xs : List Lab) : List Lab := xs.foldl keyIn l
theorem mem_keyIn {l : List Lab} {x z : Lab} : z ∈ keyIn l x ↔ z ∈ l ∨ z = x := by
  unfold keyIn
  split
  · rename_i h
    constructor
    · exact .inl
    · rintro (h' | rfl)
      · exact h'
      · exact h
  · simp
theorem keyIn_nodup {l : List Lab} {x : Lab} (h : l.Nodup) : (keyIn l x).Nodup := by
  unfold keyIn
  split
  · exact h
  · rename_i hx
    rw [List.nodup_append]
    refine ⟨h, by simp, ?_⟩
    intro a ha b hb e
    rw [List.mem_singleton] at hb
    subst hb; subst e
    exact hx ha
theorem mem_keys {z : Lab} : ∀ {xs l : List Lab}, z ∈ keys l xs ↔ z ∈ l ∨ z ∈ xs
  | [], l => by simp [keys]
  | x :: xs, l => by
    show z ∈ keys (keyIn l x) xs ↔ _
    rw [mem_keys, mem_keyIn, List.mem_cons, or_assoc]
theorem keys_nodup : ∀ {xs l : List Lab}, l.Nodup → (keys l xs).Nodup
  | [], _, h => h
  | _ :: xs, _, h => keys_nodup (xs := xs) (keyIn_nodup h)
theorem keys_length : ∀ {xs l : List Lab}, (keys l xs).length ≤ l.length + xs.length
  | [], l => by simp [keys]
  | x :: xs, l => by
    show (keys (keyIn l x) xs).length ≤ _
    have := keys_length (xs := xs) (l := keyIn l x)
    have h2 : (keyIn l x).length ≤ l.length + 1 := by unfold keyIn; split <;> simp
    simp only [List.length_cons]
    omega
/-- how many there are in all -/
theorem filter_count (p : Lab → Bool) : ∀ l : List Lab, (l.filter p).length + (l.filter fun x => !p x).length = l.length
  | [] => rfl
  | x :: l => by
    have := filter_count p l
    cases h : p x <;> simp [h] <;> omega
theorem same_length {l m : List Lab} (hl : l.Nodup) (hm : m.Nodup) (h : ∀ x, x ∈ l ↔ x ∈ m) : l.length = m.length := by
  rw [← setOf_length hl, ← setOf_length hm, setOf_congr h]
theorem count_law {p q u m : List Lab} (hp : p.Nodup) (hq : q.Nodup) (hu : u.Nodup) (hm : m.Nodup) (h1 : ∀ x, x ∈ u ↔ x ∈ p ∨ x ∈ q) (h2 : ∀ x, x ∈ m ↔ x ∈ p ∧ x ∈ q) : u.length + m.length = p.length + q.length := by
  have e1 : u.length = (p ++ q.filter fun x => !decide (x ∈ p)).length := by
    refine same_length hu ?_ fun x => ?_
    · rw [List.nodup_append]
      refine ⟨hp, hq.filter _, fun a ha b hb e => ?_⟩
      subst e
      rw [List.mem_filter] at hb
      simp [ha] at hb
    · rw [h1, List.mem_append, List.mem_filter]
      by_cases hx : x ∈ p <;> simp [hx]
  have e2 : m.length = (q.filter fun x => decide (x ∈ p)).length := by
    refine same_length hm (hq.filter _) fun x => ?_
    rw [h2, List.mem_filter]
    simp [and_comm]
  have := filter_count (fun x => decide (x ∈ p)) q
  rw [e1, e2, List.length_append]
  omega
end Go.AxS
end
section
set_option linter.unusedVariables false
set_option linter.unusedSimpArgs false
set_option maxHeartbeats 2000000
namespace Go.Proofs.YtmbhjdkbcgngiaaGreatDoor
open Go Go.Ax Go.AxS
variable {σ : Sg} {K : V → Sg → Prop}
theorem c_isNaN (s : List Nat) : WpCall LE 127 [.str s] σ K = K (.bool false) σ := by
  refine WpCall.of ?_
  rw [wpCall_iso Lhs127 Lsp127 Lfn127 Lmd127 rfl]
  simp only [WpEnter, fnOf, Tryz.f127, ↓Ax.wp_skip, ↓Ax.wp_exit, ↓Ax.wp_ret, ↓Ax.wp_seq, ↓Ax.wp_cond, ↓Ax.wp_block, ↓Ax.wp_reg_arr, ↓Ax.wpOps_go, ↓Ax.wpOps_guard, ↓Ax.wpOps_nil, Ax.yielded, app3_nil, app3_def, ↓wpOp_move, ↓wpOp_assign, ↓wpOp_pick, ↓wpOp_alloc, ↓wpOp_box, ↓wpOp_build, ↓wpOp_buildSlice, ↓wpOp_load, ↓wpOp_store, ↓wpOp_nilCheck, ↓wpOp_binOp, ↓wpOp_unOp, ↓wpOp_convert, ↓wpOp_range, ↓wpOp_next, ↓wpOp_makeInterface, ↓wpOp_makeFunc, ↓wpOp_makeMap, ↓wpOp_makeSlice, ↓wpOp_slice, ↓wpOp_fieldAddr, ↓wpOp_field, ↓wpOp_indexAddr, ↓wpOp_index, ↓wpOp_lookup, ↓wpOp_mapUpdate, ↓wpOp_extract, ↓wpOp_builtin, ↓wpOp_call, Ax.evalO, Ax.evalOs, Ax.evalPs, Ax.evalX, Ax.ofValue, Ax.ofValue1, Ax.ofValues, Ax.putS, Ax.oPick, Ax.oAlloc, Ax.oBox, Ax.oBuild, Ax.oBuildSlice, Ax.oLoad, Ax.oStore, Ax.oNilCheck, Ax.oBinOp, Ax.oUnOp, Ax.oConvert, Ax.oMakeInterface, Ax.oMakeFunc, Ax.oMakeMap, Ax.oMakeSlice, Ax.oSlice, Ax.oFieldAddr, Ax.oField, Ax.oIndexAddr, Ax.oIndex, Ax.oLookup, Ax.oMapUpdate, Ax.oExtract, Ax.oBuiltin, Ax.builtin, Ax.lenOf, Ax.loadAt, Ax.storeAt, Ax.isAgg, Ax.isAggV, Ax.fieldAddr, Ax.field, Ax.part, Ax.bin, Ax.strOp, Ax.arith, Ax.unop, Ax.isConst, Ax.V.okCell, Ax.V.cells, Ax.setCells, ↓Ax.ret1, Ax.results, Ax.Fr.put_mk, Ax.Fr.get_mk, Ax.FT.get_set, Ax.FT.get_leaf, Ax.Fr.init, Ax.Fr.fill, ↓reduceIte, if_true, if_false, ite_true, ite_false, true_and, and_true, false_and, and_false, Option.map_some, Option.map_none, Option.bind_some, Option.bind_none, Option.some.injEq, Option.getD_some, Option.getD_none, Option.isSome_some, Option.isSome_none, List.getElem?_cons_zero, List.getElem?_cons_succ, List.getElem?_nil, List.getElem?_toArray, Nat.reduceEqDiff, Nat.reduceLT, Nat.reduceLeDiff, Nat.reduceAdd, Nat.reduceMul, Nat.reduceBEq, reduceCtorEq, Bool.not_true, Bool.not_false, Bool.or_self, Bool.or_false, Bool.false_or, Bool.or_true, Bool.true_or, Bool.false_eq_true, Bool.true_eq_false, Bool.true_and, Bool.and_true, Bool.false_and, Bool.and_false, Bool.and_self, BEq.rfl, beq_self_eq_true, decide_true, decide_false, Nat.beq_refl, List.length_cons, List.length_nil, List.take_zero, List.take_succ_cons, List.take_nil, List.drop_zero, List.drop_succ_cons, List.drop_nil, List.append_eq, List.nil_append, List.cons_append, List.append_nil, List.set_cons_zero, List.set_cons_succ, Nat.zero_add, Nat.add_zero, List.all_cons, List.all_nil, List.head?_cons, Nat.le_refl, Int.natCast_nonneg, Int.reduceEq, Int.reduceLT, Int.reduceLE, Int.reduceAdd, Int.reduceSub, Int.reduceNeg, eqI_eq, ltI_eq, leI_eq, addI_eq, subI_eq, beq_iff_eq, Bool.not_eq_true, Lty34, Lty9, Lty3, Lty4, Leq34, seq_dec]
  exact rfl
def cmpOf (s t : List Nat) : Int := if slt s t = true then -1 else if s = t then 0 else 1
theorem gt_dec (s t : List Nat) : (!(slt s t || Ax.seq s t)) = decide (cmpOf s t = 1) := by
  rw [seq_dec]
  unfold cmpOf
  cases h : slt s t with
  | true => rfl
  | false =>
    by_cases e : s = t
    · simp [e]
    · simp [e]
theorem c_cmp (s t : List Nat) : WpCall LE 96 [.str s, .str t] σ K = K (.int .i64 (cmpOf s t)) σ := by
  refine WpCall.of ?_
  rw [wpCall_iso Lhs96 Lsp96 Lfn96 Lmd96 rfl]
  cases h : slt s t with
  | true =>
    have e : cmpOf s t = -1 := by unfold cmpOf; rw [if_pos h]
    rw [e]
    simp only [WpEnter, fnOf, Tryz.f96, ↓Ax.wp_skip, ↓Ax.wp_exit, ↓Ax.wp_ret, ↓Ax.wp_seq, ↓Ax.wp_cond, ↓Ax.wp_block, ↓Ax.wp_reg_arr, ↓Ax.wpOps_go, ↓Ax.wpOps_guard, ↓Ax.wpOps_nil, Ax.yielded, app3_nil, app3_def, ↓wpOp_move, ↓wpOp_assign, ↓wpOp_pick, ↓wpOp_alloc, ↓wpOp_box, ↓wpOp_build, ↓wpOp_buildSlice, ↓wpOp_load, ↓wpOp_store, ↓wpOp_nilCheck, ↓wpOp_binOp, ↓wpOp_unOp, ↓wpOp_convert, ↓wpOp_range, ↓wpOp_next, ↓wpOp_makeInterface, ↓wpOp_makeFunc, ↓wpOp_makeMap, ↓wpOp_makeSlice, ↓wpOp_slice, ↓wpOp_fieldAddr, ↓wpOp_field, ↓wpOp_indexAddr, ↓wpOp_index, ↓wpOp_lookup, ↓wpOp_mapUpdate, ↓wpOp_extract, ↓wpOp_builtin, ↓wpOp_call, Ax.evalO, Ax.evalOs, Ax.evalPs, Ax.evalX, Ax.ofValue, Ax.ofValue1, Ax.ofValues, Ax.putS, Ax.oPick, Ax.oAlloc, Ax.oBox, Ax.oBuild, Ax.oBuildSlice, Ax.oLoad, Ax.oStore, Ax.oNilCheck, Ax.oBinOp, Ax.oUnOp, Ax.oConvert, Ax.oMakeInterface, Ax.oMakeFunc, Ax.oMakeMap, Ax.oMakeSlice, Ax.oSlice, Ax.oFieldAddr, Ax.oField, Ax.oIndexAddr, Ax.oIndex, Ax.oLookup, Ax.oMapUpdate, Ax.oExtract, Ax.oBuiltin, Ax.builtin, Ax.lenOf, Ax.loadAt, Ax.storeAt, Ax.isAgg, Ax.isAggV, Ax.fieldAddr, Ax.field, Ax.part, Ax.bin, Ax.strOp, Ax.arith, Ax.unop, Ax.isConst, Ax.V.okCell, Ax.V.cells, Ax.setCells, ↓Ax.ret1, Ax.results, Ax.Fr.put_mk, Ax.Fr.get_mk, Ax.FT.get_set, Ax.FT.get_leaf, Ax.Fr.init, Ax.Fr.fill, ↓reduceIte, if_true, if_false, ite_true, ite_false, true_and, and_true, false_and, and_false, Option.map_some, Option.map_none, Option.bind_some, Option.bind_none, Option.some.injEq, Option.getD_some, Option.getD_none, Option.isSome_some, Option.isSome_none, List.getElem?_cons_zero, List.getElem?_cons_succ, List.getElem?_nil, List.getElem?_toArray, Nat.reduceEqDiff, Nat.reduceLT, Nat.reduceLeDiff, Nat.reduceAdd, Nat.reduceMul, Nat.reduceBEq, reduceCtorEq, Bool.not_true, Bool.not_false, Bool.or_self, Bool.or_false, Bool.false_or, Bool.or_true, Bool.true_or, Bool.false_eq_true, Bool.true_eq_false, Bool.true_and, Bool.and_true, Bool.false_and, Bool.and_false, Bool.and_self, BEq.rfl, beq_self_eq_true, decide_true, decide_false, Nat.beq_refl, List.length_cons, List.length_nil, List.take_zero, List.take_succ_cons, List.take_nil, List.drop_zero, List.drop_succ_cons, List.drop_nil, List.append_eq, List.nil_append, List.cons_append, List.append_nil, List.set_cons_zero, List.set_cons_succ, Nat.zero_add, Nat.add_zero, List.all_cons, List.all_nil, List.head?_cons, Nat.le_refl, Int.natCast_nonneg, Int.reduceEq, Int.reduceLT, Int.reduceLE, Int.reduceAdd, Int.reduceSub, Int.reduceNeg, eqI_eq, ltI_eq, leI_eq, addI_eq, subI_eq, beq_iff_eq, Bool.not_eq_true, Lty34, Lty9, Lty3, Lty4, Leq34, ↓c_isNaN, h]
    exact rfl
  | false =>
    by_cases k : s = t
    · have e : cmpOf s t = 0 := by unfold cmpOf; rw [h, if_neg (by simp), if_pos k]
      rw [e]
      simp only [WpEnter, fnOf, Tryz.f96, ↓Ax.wp_skip, ↓Ax.wp_exit, ↓Ax.wp_ret, ↓Ax.wp_seq, ↓Ax.wp_cond, ↓Ax.wp_block, ↓Ax.wp_reg_arr, ↓Ax.wpOps_go, ↓Ax.wpOps_guard, ↓Ax.wpOps_nil, Ax.yielded, app3_nil, app3_def, ↓wpOp_move, ↓wpOp_assign, ↓wpOp_pick, ↓wpOp_alloc, ↓wpOp_box, ↓wpOp_build, ↓wpOp_buildSlice, ↓wpOp_load, ↓wpOp_store, ↓wpOp_nilCheck, ↓wpOp_binOp, ↓wpOp_unOp, ↓wpOp_convert, ↓wpOp_range, ↓wpOp_next, ↓wpOp_makeInterface, ↓wpOp_makeFunc, ↓wpOp_makeMap, ↓wpOp_makeSlice, ↓wpOp_slice, ↓wpOp_fieldAddr, ↓wpOp_field, ↓wpOp_indexAddr, ↓wpOp_index, ↓wpOp_lookup, ↓wpOp_mapUpdate, ↓wpOp_extract, ↓wpOp_builtin, ↓wpOp_call, Ax.evalO, Ax.evalOs, Ax.evalPs, Ax.evalX, Ax.ofValue, Ax.ofValue1, Ax.ofValues, Ax.putS, Ax.oPick, Ax.oAlloc, Ax.oBox, Ax.oBuild, Ax.oBuildSlice, Ax.oLoad, Ax.oStore, Ax.oNilCheck, Ax.oBinOp, Ax.oUnOp, Ax.oConvert, Ax.oMakeInterface, Ax.oMakeFunc, Ax.oMakeMap, Ax.oMakeSlice, Ax.oSlice, Ax.oFieldAddr, Ax.oField, Ax.oIndexAddr, Ax.oIndex, Ax.oLookup, Ax.oMapUpdate, Ax.oExtract, Ax.oBuiltin, Ax.builtin, Ax.lenOf, Ax.loadAt, Ax.storeAt, Ax.isAgg, Ax.isAggV, Ax.fieldAddr, Ax.field, Ax.part, Ax.bin, Ax.strOp, Ax.arith, Ax.unop, Ax.isConst, Ax.V.okCell, Ax.V.cells, Ax.setCells, ↓Ax.ret1, Ax.results, Ax.Fr.put_mk, Ax.Fr.get_mk, Ax.FT.get_set, Ax.FT.get_leaf, Ax.Fr.init, Ax.Fr.fill, ↓reduceIte, if_true, if_false, ite_true, ite_false, true_and, and_true, false_and, and_false, Option.map_some, Option.map_none, Option.bind_some, Option.bind_none, Option.some.injEq, Option.getD_some, Option.getD_none, Option.isSome_some, Option.isSome_none, List.getElem?_cons_zero, List.getElem?_cons_succ, List.getElem?_nil, List.getElem?_toArray, Nat.reduceEqDiff, Nat.reduceLT, Nat.reduceLeDiff, Nat.reduceAdd, Nat.reduceMul, Nat.reduceBEq, reduceCtorEq, Bool.not_true, Bool.not_false, Bool.or_self, Bool.or_false, Bool.false_or, Bool.or_true, Bool.true_or, Bool.false_eq_true, Bool.true_eq_false, Bool.true_and, Bool.and_true, Bool.false_and, Bool.and_false, Bool.and_self, BEq.rfl, beq_self_eq_true, decide_true, decide_false, Nat.beq_refl, List.length_cons, List.length_nil, List.take_zero, List.take_succ_cons, List.take_nil, List.drop_zero, List.drop_succ_cons, List.drop_nil, List.append_eq, List.nil_append, List.cons_append, List.append_nil, List.set_cons_zero, List.set_cons_succ, Nat.zero_add, Nat.add_zero, List.all_cons, List.all_nil, List.head?_cons, Nat.le_refl, Int.natCast_nonneg, Int.reduceEq, Int.reduceLT, Int.reduceLE, Int.reduceAdd, Int.reduceSub, Int.reduceNeg, eqI_eq, ltI_eq, leI_eq, addI_eq, subI_eq, beq_iff_eq, Bool.not_eq_true, Lty34, Lty9, Lty3, Lty4, Leq34, ↓c_isNaN, h, seq_dec, k, slt_irrefl]
      exact rfl
    · have e : cmpOf s t = 1 := by unfold cmpOf; rw [h, if_neg (by simp), if_neg k]
      rw [e]
      simp only [WpEnter, fnOf, Tryz.f96, ↓Ax.wp_skip, ↓Ax.wp_exit, ↓Ax.wp_ret, ↓Ax.wp_seq, ↓Ax.wp_cond, ↓Ax.wp_block, ↓Ax.wp_reg_arr, ↓Ax.wpOps_go, ↓Ax.wpOps_guard, ↓Ax.wpOps_nil, Ax.yielded, app3_nil, app3_def, ↓wpOp_move, ↓wpOp_assign, ↓wpOp_pick, ↓wpOp_alloc, ↓wpOp_box, ↓wpOp_build, ↓wpOp_buildSlice, ↓wpOp_load, ↓wpOp_store, ↓wpOp_nilCheck, ↓wpOp_binOp, ↓wpOp_unOp, ↓wpOp_convert, ↓wpOp_range, ↓wpOp_next, ↓wpOp_makeInterface, ↓wpOp_makeFunc, ↓wpOp_makeMap, ↓wpOp_makeSlice, ↓wpOp_slice, ↓wpOp_fieldAddr, ↓wpOp_field, ↓wpOp_indexAddr, ↓wpOp_index, ↓wpOp_lookup, ↓wpOp_mapUpdate, ↓wpOp_extract, ↓wpOp_builtin, ↓wpOp_call, Ax.evalO, Ax.evalOs, Ax.evalPs, Ax.evalX, Ax.ofValue, Ax.ofValue1, Ax.ofValues, Ax.putS, Ax.oPick, Ax.oAlloc, Ax.oBox, Ax.oBuild, Ax.oBuildSlice, Ax.oLoad, Ax.oStore, Ax.oNilCheck, Ax.oBinOp, Ax.oUnOp, Ax.oConvert, Ax.oMakeInterface, Ax.oMakeFunc, Ax.oMakeMap, Ax.oMakeSlice, Ax.oSlice, Ax.oFieldAddr, Ax.oField, Ax.oIndexAddr, Ax.oIndex, Ax.oLookup, Ax.oMapUpdate, Ax.oExtract, Ax.oBuiltin, Ax.builtin, Ax.lenOf, Ax.loadAt, Ax.storeAt, Ax.isAgg, Ax.isAggV, Ax.fieldAddr, Ax.field, Ax.part, Ax.bin, Ax.strOp, Ax.arith, Ax.unop, Ax.isConst, Ax.V.okCell, Ax.V.cells, Ax.setCells, ↓Ax.ret1, Ax.results, Ax.Fr.put_mk, Ax.Fr.get_mk, Ax.FT.get_set, Ax.FT.get_leaf, Ax.Fr.init, Ax.Fr.fill, ↓reduceIte, if_true, if_false, ite_true, ite_false, true_and, and_true, false_and, and_false, Option.map_some, Option.map_none, Option.bind_some, Option.bind_none, Option.some.injEq, Option.getD_some, Option.getD_none, Option.isSome_some, Option.isSome_none, List.getElem?_cons_zero, List.getElem?_cons_succ, List.getElem?_nil, List.getElem?_toArray, Nat.reduceEqDiff, Nat.reduceLT, Nat.reduceLeDiff, Nat.reduceAdd, Nat.reduceMul, Nat.reduceBEq, reduceCtorEq, Bool.not_true, Bool.not_false, Bool.or_self, Bool.or_false, Bool.false_or, Bool.or_true, Bool.true_or, Bool.false_eq_true, Bool.true_eq_false, Bool.true_and, Bool.and_true, Bool.false_and, Bool.and_false, Bool.and_self, BEq.rfl, beq_self_eq_true, decide_true, decide_false, Nat.beq_refl, List.length_cons, List.length_nil, List.take_zero, List.take_succ_cons, List.take_nil, List.drop_zero, List.drop_succ_cons, List.drop_nil, List.append_eq, List.nil_append, List.cons_append, List.append_nil, List.set_cons_zero, List.set_cons_succ, Nat.zero_add, Nat.add_zero, List.all_cons, List.all_nil, List.head?_cons, Nat.le_refl, Int.natCast_nonneg, Int.reduceEq, Int.reduceLT, Int.reduceLE, Int.reduceAdd, Int.reduceSub, Int.reduceNeg, eqI_eq, ltI_eq, leI_eq, addI_eq, subI_eq, beq_iff_eq, Bool.not_eq_true, Lty34, Lty9, Lty3, Lty4, Leq34, ↓c_isNaN, h, seq_dec, k]
      exact rfl
def ordOf (x y : Lab) : Int := if lt x y = true then -1 else if x = y then 0 else 1
theorem c_order (a b : Bool) (s t : List Nat) : WpCall LE 55 [.agg [.bool a, .str s], .agg [.bool b, .str t]] σ K = K (.int .i64 (ordOf (a, s) (b, t))) σ := by
  refine WpCall.of ?_
  rw [wpCall_iso Lhs55 Lsp55 Lfn55 Lmd55 rfl]
  cases a <;> cases b
  · have e : ordOf (false, s) (false, t) = cmpOf s t := by simp [ordOf, cmpOf, lt]
    rw [e]
    simp only [WpEnter, fnOf, Tryz.f55, ↓Ax.wp_skip, ↓Ax.wp_exit, ↓Ax.wp_ret, ↓Ax.wp_seq, ↓Ax.wp_cond, ↓Ax.wp_block, ↓Ax.wp_reg_arr, ↓Ax.wpOps_go, ↓Ax.wpOps_guard, ↓Ax.wpOps_nil, Ax.yielded, app3_nil, app3_def, ↓wpOp_move, ↓wpOp_assign, ↓wpOp_pick, ↓wpOp_alloc, ↓wpOp_box, ↓wpOp_build, ↓wpOp_buildSlice, ↓wpOp_load, ↓wpOp_store, ↓wpOp_nilCheck, ↓wpOp_binOp, ↓wpOp_unOp, ↓wpOp_convert, ↓wpOp_range, ↓wpOp_next, ↓wpOp_makeInterface, ↓wpOp_makeFunc, ↓wpOp_makeMap, ↓wpOp_makeSlice, ↓wpOp_slice, ↓wpOp_fieldAddr, ↓wpOp_field, ↓wpOp_indexAddr, ↓wpOp_index, ↓wpOp_lookup, ↓wpOp_mapUpdate, ↓wpOp_extract, ↓wpOp_builtin, ↓wpOp_call, Ax.evalO, Ax.evalOs, Ax.evalPs, Ax.evalX, Ax.ofValue, Ax.ofValue1, Ax.ofValues, Ax.putS, Ax.oPick, Ax.oAlloc, Ax.oBox, Ax.oBuild, Ax.oBuildSlice, Ax.oLoad, Ax.oStore, Ax.oNilCheck, Ax.oBinOp, Ax.oUnOp, Ax.oConvert, Ax.oMakeInterface, Ax.oMakeFunc, Ax.oMakeMap, Ax.oMakeSlice, Ax.oSlice, Ax.oFieldAddr, Ax.oField, Ax.oIndexAddr, Ax.oIndex, Ax.oLookup, Ax.oMapUpdate, Ax.oExtract, Ax.oBuiltin, Ax.builtin, Ax.lenOf, Ax.loadAt, Ax.storeAt, Ax.isAgg, Ax.isAggV, Ax.fieldAddr, Ax.field, Ax.part, Ax.bin, Ax.strOp, Ax.arith, Ax.unop, Ax.isConst, Ax.V.okCell, Ax.V.cells, Ax.setCells, ↓Ax.ret1, Ax.results, Ax.Fr.put_mk, Ax.Fr.get_mk, Ax.FT.get_set, Ax.FT.get_leaf, Ax.Fr.init, Ax.Fr.fill, ↓reduceIte, if_true, if_false, ite_true, ite_false, true_and, and_true, false_and, and_false, Option.map_some, Option.map_none, Option.bind_some, Option.bind_none, Option.some.injEq, Option.getD_some, Option.getD_none, Option.isSome_some, Option.isSome_none, List.getElem?_cons_zero, List.getElem?_cons_succ, List.getElem?_nil, List.getElem?_toArray, Nat.reduceEqDiff, Nat.reduceLT, Nat.reduceLeDiff, Nat.reduceAdd, Nat.reduceMul, Nat.reduceBEq, reduceCtorEq, Bool.not_true, Bool.not_false, Bool.or_self, Bool.or_false, Bool.false_or, Bool.or_true, Bool.true_or, Bool.false_eq_true, Bool.true_eq_false, Bool.true_and, Bool.and_true, Bool.false_and, Bool.and_false, Bool.and_self, BEq.rfl, beq_self_eq_true, decide_true, decide_false, Nat.beq_refl, List.length_cons, List.length_nil, List.take_zero, List.take_succ_cons, List.take_nil, List.drop_zero, List.drop_succ_cons, List.drop_nil, List.append_eq, List.nil_append, List.cons_append, List.append_nil, List.set_cons_zero, List.set_cons_succ, Nat.zero_add, Nat.add_zero, List.all_cons, List.all_nil, List.head?_cons, Nat.le_refl, Int.natCast_nonneg, Int.reduceEq, Int.reduceLT, Int.reduceLE, Int.reduceAdd, Int.reduceSub, Int.reduceNeg, eqI_eq, ltI_eq, leI_eq, addI_eq, subI_eq, beq_iff_eq, Bool.not_eq_true, Lty34, Lty9, Lty3, Lty4, Leq34, ↓c_cmp]
    exact rfl
  · have e : ordOf (false, s) (true, t) = -1 := by simp [ordOf, lt]
    rw [e]
    simp only [WpEnter, fnOf, Tryz.f55, ↓Ax.wp_skip, ↓Ax.wp_exit, ↓Ax.wp_ret, ↓Ax.wp_seq, ↓Ax.wp_cond, ↓Ax.wp_block, ↓Ax.wp_reg_arr, ↓Ax.wpOps_go, ↓Ax.wpOps_guard, ↓Ax.wpOps_nil, Ax.yielded, app3_nil, app3_def, ↓wpOp_move, ↓wpOp_assign, ↓wpOp_pick, ↓wpOp_alloc, ↓wpOp_box, ↓wpOp_build, ↓wpOp_buildSlice, ↓wpOp_load, ↓wpOp_store, ↓wpOp_nilCheck, ↓wpOp_binOp, ↓wpOp_unOp, ↓wpOp_convert, ↓wpOp_range, ↓wpOp_next, ↓wpOp_makeInterface, ↓wpOp_makeFunc, ↓wpOp_makeMap, ↓wpOp_makeSlice, ↓wpOp_slice, ↓wpOp_fieldAddr, ↓wpOp_field, ↓wpOp_indexAddr, ↓wpOp_index, ↓wpOp_lookup, ↓wpOp_mapUpdate, ↓wpOp_extract, ↓wpOp_builtin, ↓wpOp_call, Ax.evalO, Ax.evalOs, Ax.evalPs, Ax.evalX, Ax.ofValue, Ax.ofValue1, Ax.ofValues, Ax.putS, Ax.oPick, Ax.oAlloc, Ax.oBox, Ax.oBuild, Ax.oBuildSlice, Ax.oLoad, Ax.oStore, Ax.oNilCheck, Ax.oBinOp, Ax.oUnOp, Ax.oConvert, Ax.oMakeInterface, Ax.oMakeFunc, Ax.oMakeMap, Ax.oMakeSlice, Ax.oSlice, Ax.oFieldAddr, Ax.oField, Ax.oIndexAddr, Ax.oIndex, Ax.oLookup, Ax.oMapUpdate, Ax.oExtract, Ax.oBuiltin, Ax.builtin, Ax.lenOf, Ax.loadAt, Ax.storeAt, Ax.isAgg, Ax.isAggV, Ax.fieldAddr, Ax.field, Ax.part, Ax.bin, Ax.strOp, Ax.arith, Ax.unop, Ax.isConst, Ax.V.okCell, Ax.V.cells, Ax.setCells, ↓Ax.ret1, Ax.results, Ax.Fr.put_mk, Ax.Fr.get_mk, Ax.FT.get_set, Ax.FT.get_leaf, Ax.Fr.init, Ax.Fr.fill, ↓reduceIte, if_true, if_false, ite_true, ite_false, true_and, and_true, false_and, and_false, Option.map_some, Option.map_none, Option.bind_some, Option.bind_none, Option.some.injEq, Option.getD_some, Option.getD_none, Option.isSome_some, Option.isSome_none, List.getElem?_cons_zero, List.getElem?_cons_succ, List.getElem?_nil, List.getElem?_toArray, Nat.reduceEqDiff, Nat.reduceLT, Nat.reduceLeDiff, Nat.reduceAdd, Nat.reduceMul, Nat.reduceBEq, reduceCtorEq, Bool.not_true, Bool.not_false, Bool.or_self, Bool.or_false, Bool.false_or, Bool.or_true, Bool.true_or, Bool.false_eq_true, Bool.true_eq_false, Bool.true_and, Bool.and_true, Bool.false_and, Bool.and_false, Bool.and_self, BEq.rfl, beq_self_eq_true, decide_true, decide_false, Nat.beq_refl, List.length_cons, List.length_nil, List.take_zero, List.take_succ_cons, List.take_nil, List.drop_zero, List.drop_succ_cons, List.drop_nil, List.append_eq, List.nil_append, List.cons_append, List.append_nil, List.set_cons_zero, List.set_cons_succ, Nat.zero_add, Nat.add_zero, List.all_cons, List.all_nil, List.head?_cons, Nat.le_refl, Int.natCast_nonneg, Int.reduceEq, Int.reduceLT, Int.reduceLE, Int.reduceAdd, Int.reduceSub, Int.reduceNeg, eqI_eq, ltI_eq, leI_eq, addI_eq, subI_eq, beq_iff_eq, Bool.not_eq_true, Lty34, Lty9, Lty3, Lty4, Leq34, ↓c_cmp]
    exact rfl
  · have e : ordOf (true, s) (false, t) = 1 := by simp [ordOf, lt]
    rw [e]
    simp only [WpEnter, fnOf, Tryz.f55, ↓Ax.wp_skip, ↓Ax.wp_exit, ↓Ax.wp_ret, ↓Ax.wp_seq, ↓Ax.wp_cond, ↓Ax.wp_block, ↓Ax.wp_reg_arr, ↓Ax.wpOps_go, ↓Ax.wpOps_guard, ↓Ax.wpOps_nil, Ax.yielded, app3_nil, app3_def, ↓wpOp_move, ↓wpOp_assign, ↓wpOp_pick, ↓wpOp_alloc, ↓wpOp_box, ↓wpOp_build, ↓wpOp_buildSlice, ↓wpOp_load, ↓wpOp_store, ↓wpOp_nilCheck, ↓wpOp_binOp, ↓wpOp_unOp, ↓wpOp_convert, ↓wpOp_range, ↓wpOp_next, ↓wpOp_makeInterface, ↓wpOp_makeFunc, ↓wpOp_makeMap, ↓wpOp_makeSlice, ↓wpOp_slice, ↓wpOp_fieldAddr, ↓wpOp_field, ↓wpOp_indexAddr, ↓wpOp_index, ↓wpOp_lookup, ↓wpOp_mapUpdate, ↓wpOp_extract, ↓wpOp_builtin, ↓wpOp_call, Ax.evalO, Ax.evalOs, Ax.evalPs, Ax.evalX, Ax.ofValue, Ax.ofValue1, Ax.ofValues, Ax.putS, Ax.oPick, Ax.oAlloc, Ax.oBox, Ax.oBuild, Ax.oBuildSlice, Ax.oLoad, Ax.oStore, Ax.oNilCheck, Ax.oBinOp, Ax.oUnOp, Ax.oConvert, Ax.oMakeInterface, Ax.oMakeFunc, Ax.oMakeMap, Ax.oMakeSlice, Ax.oSlice, Ax.oFieldAddr, Ax.oField, Ax.oIndexAddr, Ax.oIndex, Ax.oLookup, Ax.oMapUpdate, Ax.oExtract, Ax.oBuiltin, Ax.builtin, Ax.lenOf, Ax.loadAt, Ax.storeAt, Ax.isAgg, Ax.isAggV, Ax.fieldAddr, Ax.field, Ax.part, Ax.bin, Ax.strOp, Ax.arith, Ax.unop, Ax.isConst, Ax.V.okCell, Ax.V.cells, Ax.setCells, ↓Ax.ret1, Ax.results, Ax.Fr.put_mk, Ax.Fr.get_mk, Ax.FT.get_set, Ax.FT.get_leaf, Ax.Fr.init, Ax.Fr.fill, ↓reduceIte, if_true, if_false, ite_true, ite_false, true_and, and_true, false_and, and_false, Option.map_some, Option.map_none, Option.bind_some, Option.bind_none, Option.some.injEq, Option.getD_some, Option.getD_none, Option.isSome_some, Option.isSome_none, List.getElem?_cons_zero, List.getElem?_cons_succ, List.getElem?_nil, List.getElem?_toArray, Nat.reduceEqDiff, Nat.reduceLT, Nat.reduceLeDiff, Nat.reduceAdd, Nat.reduceMul, Nat.reduceBEq, reduceCtorEq, Bool.not_true, Bool.not_false, Bool.or_self, Bool.or_false, Bool.false_or, Bool.or_true, Bool.true_or, Bool.false_eq_true, Bool.true_eq_false, Bool.true_and, Bool.and_true, Bool.false_and, Bool.and_false, Bool.and_self, BEq.rfl, beq_self_eq_true, decide_true, decide_false, Nat.beq_refl, List.length_cons, List.length_nil, List.take_zero, List.take_succ_cons, List.take_nil, List.drop_zero, List.drop_succ_cons, List.drop_nil, List.append_eq, List.nil_append, List.cons_append, List.append_nil, List.set_cons_zero, List.set_cons_succ, Nat.zero_add, Nat.add_zero, List.all_cons, List.all_nil, List.head?_cons, Nat.le_refl, Int.natCast_nonneg, Int.reduceEq, Int.reduceLT, Int.reduceLE, Int.reduceAdd, Int.reduceSub, Int.reduceNeg, eqI_eq, ltI_eq, leI_eq, addI_eq, subI_eq, beq_iff_eq, Bool.not_eq_true, Lty34, Lty9, Lty3, Lty4, Leq34, ↓c_cmp]
    exact rfl
  · have e : ordOf (true, s) (true, t) = cmpOf s t := by simp [ordOf, cmpOf, lt]
    rw [e]
    simp only [WpEnter, fnOf, Tryz.f55, ↓Ax.wp_skip, ↓Ax.wp_exit, ↓Ax.wp_ret, ↓Ax.wp_seq, ↓Ax.wp_cond, ↓Ax.wp_block, ↓Ax.wp_reg_arr, ↓Ax.wpOps_go, ↓Ax.wpOps_guard, ↓Ax.wpOps_nil, Ax.yielded, app3_nil, app3_def, ↓wpOp_move, ↓wpOp_assign, ↓wpOp_pick, ↓wpOp_alloc, ↓wpOp_box, ↓wpOp_build, ↓wpOp_buildSlice, ↓wpOp_load, ↓wpOp_store, ↓wpOp_nilCheck, ↓wpOp_binOp, ↓wpOp_unOp, ↓wpOp_convert, ↓wpOp_range, ↓wpOp_next, ↓wpOp_makeInterface, ↓wpOp_makeFunc, ↓wpOp_makeMap, ↓wpOp_makeSlice, ↓wpOp_slice, ↓wpOp_fieldAddr, ↓wpOp_field, ↓wpOp_indexAddr, ↓wpOp_index, ↓wpOp_lookup, ↓wpOp_mapUpdate, ↓wpOp_extract, ↓wpOp_builtin, ↓wpOp_call, Ax.evalO, Ax.evalOs, Ax.evalPs, Ax.evalX, Ax.ofValue, Ax.ofValue1, Ax.ofValues, Ax.putS, Ax.oPick, Ax.oAlloc, Ax.oBox, Ax.oBuild, Ax.oBuildSlice, Ax.oLoad, Ax.oStore, Ax.oNilCheck, Ax.oBinOp, Ax.oUnOp, Ax.oConvert, Ax.oMakeInterface, Ax.oMakeFunc, Ax.oMakeMap, Ax.oMakeSlice, Ax.oSlice, Ax.oFieldAddr, Ax.oField, Ax.oIndexAddr, Ax.oIndex, Ax.oLookup, Ax.oMapUpdate, Ax.oExtract, Ax.oBuiltin, Ax.builtin, Ax.lenOf, Ax.loadAt, Ax.storeAt, Ax.isAgg, Ax.isAggV, Ax.fieldAddr, Ax.field, Ax.part, Ax.bin, Ax.strOp, Ax.arith, Ax.unop, Ax.isConst, Ax.V.okCell, Ax.V.cells, Ax.setCells, ↓Ax.ret1, Ax.results, Ax.Fr.put_mk, Ax.Fr.get_mk, Ax.FT.get_set, Ax.FT.get_leaf, Ax.Fr.init, Ax.Fr.fill, ↓reduceIte, if_true, if_false, ite_true, ite_false, true_and, and_true, false_and, and_false, Option.map_some, Option.map_none, Option.bind_some, Option.bind_none, Option.some.injEq, Option.getD_some, Option.getD_none, Option.isSome_some, Option.isSome_none, List.getElem?_cons_zero, List.getElem?_cons_succ, List.getElem?_nil, List.getElem?_toArray, Nat.reduceEqDiff, Nat.reduceLT, Nat.reduceLeDiff, Nat.reduceAdd, Nat.reduceMul, Nat.reduceBEq, reduceCtorEq, Bool.not_true, Bool.not_false, Bool.or_self, Bool.or_false, Bool.false_or, Bool.or_true, Bool.true_or, Bool.false_eq_true, Bool.true_eq_false, Bool.true_and, Bool.and_true, Bool.false_and, Bool.and_false, Bool.and_self, BEq.rfl, beq_self_eq_true, decide_true, decide_false, Nat.beq_refl, List.length_cons, List.length_nil, List.take_zero, List.take_succ_cons, List.take_nil, List.drop_zero, List.drop_succ_cons, List.drop_nil, List.append_eq, List.nil_append, List.cons_append, List.append_nil, List.set_cons_zero, List.set_cons_succ, Nat.zero_add, Nat.add_zero, List.all_cons, List.all_nil, List.head?_cons, Nat.le_refl, Int.natCast_nonneg, Int.reduceEq, Int.reduceLT, Int.reduceLE, Int.reduceAdd, Int.reduceSub, Int.reduceNeg, eqI_eq, ltI_eq, leI_eq, addI_eq, subI_eq, beq_iff_eq, Bool.not_eq_true, Lty34, Lty9, Lty3, Lty4, Leq34, ↓c_cmp]
    exact rfl
theorem ordOf_neg (x y : Lab) : decide (ordOf x y < 0) = lt x y := by
  unfold ordOf
  cases h : lt x y with
  | true => rfl
  | false => by_cases e : x = y <;> simp [e]
theorem c_Less (a b : Bool) (s t : List Nat) : WpCall LE 20 [.agg [.bool a, .str s], .agg [.bool b, .str t]] σ K = K (.bool (lt (a, s) (b, t))) σ := by
  refine WpCall.of ?_
  rw [wpCall_iso Lhs20 Lsp20 Lfn20 Lmd20 rfl]
  simp only [WpEnter, fnOf, Tryz.f20, ↓Ax.wp_skip, ↓Ax.wp_exit, ↓Ax.wp_ret, ↓Ax.wp_seq, ↓Ax.wp_cond, ↓Ax.wp_block, ↓Ax.wp_reg_arr, ↓Ax.wpOps_go, ↓Ax.wpOps_guard, ↓Ax.wpOps_nil, Ax.yielded, app3_nil, app3_def, ↓wpOp_move, ↓wpOp_assign, ↓wpOp_pick, ↓wpOp_alloc, ↓wpOp_box, ↓wpOp_build, ↓wpOp_buildSlice, ↓wpOp_load, ↓wpOp_store, ↓wpOp_nilCheck, ↓wpOp_binOp, ↓wpOp_unOp, ↓wpOp_convert, ↓wpOp_range, ↓wpOp_next, ↓wpOp_makeInterface, ↓wpOp_makeFunc, ↓wpOp_makeMap, ↓wpOp_makeSlice, ↓wpOp_slice, ↓wpOp_fieldAddr, ↓wpOp_field, ↓wpOp_indexAddr, ↓wpOp_index, ↓wpOp_lookup, ↓wpOp_mapUpdate, ↓wpOp_extract, ↓wpOp_builtin, ↓wpOp_call, Ax.evalO, Ax.evalOs, Ax.evalPs, Ax.evalX, Ax.ofValue, Ax.ofValue1, Ax.ofValues, Ax.putS, Ax.oPick, Ax.oAlloc, Ax.oBox, Ax.oBuild, Ax.oBuildSlice, Ax.oLoad, Ax.oStore, Ax.oNilCheck, Ax.oBinOp, Ax.oUnOp, Ax.oConvert, Ax.oMakeInterface, Ax.oMakeFunc, Ax.oMakeMap, Ax.oMakeSlice, Ax.oSlice, Ax.oFieldAddr, Ax.oField, Ax.oIndexAddr, Ax.oIndex, Ax.oLookup, Ax.oMapUpdate, Ax.oExtract, Ax.oBuiltin, Ax.builtin, Ax.lenOf, Ax.loadAt, Ax.storeAt, Ax.isAgg, Ax.isAggV, Ax.fieldAddr, Ax.field, Ax.part, Ax.bin, Ax.strOp, Ax.arith, Ax.unop, Ax.isConst, Ax.V.okCell, Ax.V.cells, Ax.setCells, ↓Ax.ret1, Ax.results, Ax.Fr.put_mk, Ax.Fr.get_mk, Ax.FT.get_set, Ax.FT.get_leaf, Ax.Fr.init, Ax.Fr.fill, ↓reduceIte, if_true, if_false, ite_true, ite_false, true_and, and_true, false_and, and_false, Option.map_some, Option.map_none, Option.bind_some, Option.bind_none, Option.some.injEq, Option.getD_some, Option.getD_none, Option.isSome_some, Option.isSome_none, List.getElem?_cons_zero, List.getElem?_cons_succ, List.getElem?_nil, List.getElem?_toArray, Nat.reduceEqDiff, Nat.reduceLT, Nat.reduceLeDiff, Nat.reduceAdd, Nat.reduceMul, Nat.reduceBEq, reduceCtorEq, Bool.not_true, Bool.not_false, Bool.or_self, Bool.or_false, Bool.false_or, Bool.or_true, Bool.true_or, Bool.false_eq_true, Bool.true_eq_false, Bool.true_and, Bool.and_true, Bool.false_and, Bool.and_false, Bool.and_self, BEq.rfl, beq_self_eq_true, decide_true, decide_false, Nat.beq_refl, List.length_cons, List.length_nil, List.take_zero, List.take_succ_cons, List.take_nil, List.drop_zero, List.drop_succ_cons, List.drop_nil, List.append_eq, List.nil_append, List.cons_append, List.append_nil, List.set_cons_zero, List.set_cons_succ, Nat.zero_add, Nat.add_zero, List.all_cons, List.all_nil, List.head?_cons, Nat.le_refl, Int.natCast_nonneg, Int.reduceEq, Int.reduceLT, Int.reduceLE, Int.reduceAdd, Int.reduceSub, Int.reduceNeg, eqI_eq, ltI_eq, leI_eq, addI_eq, subI_eq, beq_iff_eq, Bool.not_eq_true, Lty34, Lty9, Lty3, Lty4, Leq34, ↓c_order, ordOf_neg]
  exact rfl
def nameOf (x : Lab) : List Nat := if x.1 = true then 58 :: x.2 else x.2
theorem c_Name (a : Bool) (s : List Nat) (hs : s.length ≤ 9223372036854775806) : WpCall LE 21 [.agg [.bool a, .str s]] σ K = K (.str (nameOf (a, s))) σ := by
  refine WpCall.of ?_
  rw [wpCall_iso Lhs21 Lsp21 Lfn21 Lmd21 rfl]
  have hl : decide ((Ax.bytes (ByteArray.mk #[58])).length + s.length ≤ 9223372036854775807) = true := decide_eq_true (by show 1 + s.length ≤ _; omega)
  cases a
  · simp only [WpEnter, fnOf, Tryz.f21, ↓Ax.wp_skip, ↓Ax.wp_exit, ↓Ax.wp_ret, ↓Ax.wp_seq, ↓Ax.wp_cond, ↓Ax.wp_block, ↓Ax.wp_reg_arr, ↓Ax.wpOps_go, ↓Ax.wpOps_guard, ↓Ax.wpOps_nil, Ax.yielded, app3_nil, app3_def, ↓wpOp_move, ↓wpOp_assign, ↓wpOp_pick, ↓wpOp_alloc, ↓wpOp_box, ↓wpOp_build, ↓wpOp_buildSlice, ↓wpOp_load, ↓wpOp_store, ↓wpOp_nilCheck, ↓wpOp_binOp, ↓wpOp_unOp, ↓wpOp_convert, ↓wpOp_range, ↓wpOp_next, ↓wpOp_makeInterface, ↓wpOp_makeFunc, ↓wpOp_makeMap, ↓wpOp_makeSlice, ↓wpOp_slice, ↓wpOp_fieldAddr, ↓wpOp_field, ↓wpOp_indexAddr, ↓wpOp_index, ↓wpOp_lookup, ↓wpOp_mapUpdate, ↓wpOp_extract, ↓wpOp_builtin, ↓wpOp_call, Ax.evalO, Ax.evalOs, Ax.evalPs, Ax.evalX, Ax.ofValue, Ax.ofValue1, Ax.ofValues, Ax.putS, Ax.oPick, Ax.oAlloc, Ax.oBox, Ax.oBuild, Ax.oBuildSlice, Ax.oLoad, Ax.oStore, Ax.oNilCheck, Ax.oBinOp, Ax.oUnOp, Ax.oConvert, Ax.oMakeInterface, Ax.oMakeFunc, Ax.oMakeMap, Ax.oMakeSlice, Ax.oSlice, Ax.oFieldAddr, Ax.oField, Ax.oIndexAddr, Ax.oIndex, Ax.oLookup, Ax.oMapUpdate, Ax.oExtract, Ax.oBuiltin, Ax.builtin, Ax.lenOf, Ax.loadAt, Ax.storeAt, Ax.isAgg, Ax.isAggV, Ax.fieldAddr, Ax.field, Ax.part, Ax.bin, Ax.strOp, Ax.arith, Ax.unop, Ax.isConst, Ax.V.okCell, Ax.V.cells, Ax.setCells, ↓Ax.ret1, Ax.results, Ax.Fr.put_mk, Ax.Fr.get_mk, Ax.FT.get_set, Ax.FT.get_leaf, Ax.Fr.init, Ax.Fr.fill, ↓reduceIte, if_true, if_false, ite_true, ite_false, true_and, and_true, false_and, and_false, Option.map_some, Option.map_none, Option.bind_some, Option.bind_none, Option.some.injEq, Option.getD_some, Option.getD_none, Option.isSome_some, Option.isSome_none, List.getElem?_cons_zero, List.getElem?_cons_succ, List.getElem?_nil, List.getElem?_toArray, Nat.reduceEqDiff, Nat.reduceLT, Nat.reduceLeDiff, Nat.reduceAdd, Nat.reduceMul, Nat.reduceBEq, reduceCtorEq, Bool.not_true, Bool.not_false, Bool.or_self, Bool.or_false, Bool.false_or, Bool.or_true, Bool.true_or, Bool.false_eq_true, Bool.true_eq_false, Bool.true_and, Bool.and_true, Bool.false_and, Bool.and_false, Bool.and_self, BEq.rfl, beq_self_eq_true, decide_true, decide_false, Nat.beq_refl, List.length_cons, List.length_nil, List.take_zero, List.take_succ_cons, List.take_nil, List.drop_zero, List.drop_succ_cons, List.drop_nil, List.append_eq, List.nil_append, List.cons_append, List.append_nil, List.set_cons_zero, List.set_cons_succ, Nat.zero_add, Nat.add_zero, List.all_cons, List.all_nil, List.head?_cons, Nat.le_refl, Int.natCast_nonneg, Int.reduceEq, Int.reduceLT, Int.reduceLE, Int.reduceAdd, Int.reduceSub, Int.reduceNeg, eqI_eq, ltI_eq, leI_eq, addI_eq, subI_eq, beq_iff_eq, Bool.not_eq_true, Lty34, Lty9, Lty3, Lty4, Leq34]
    exact rfl
  · simp only [WpEnter, fnOf, Tryz.f21, ↓Ax.wp_skip, ↓Ax.wp_exit, ↓Ax.wp_ret, ↓Ax.wp_seq, ↓Ax.wp_cond, ↓Ax.wp_block, ↓Ax.wp_reg_arr, ↓Ax.wpOps_go, ↓Ax.wpOps_guard, ↓Ax.wpOps_nil, Ax.yielded, app3_nil, app3_def, ↓wpOp_move, ↓wpOp_assign, ↓wpOp_pick, ↓wpOp_alloc, ↓wpOp_box, ↓wpOp_build, ↓wpOp_buildSlice, ↓wpOp_load, ↓wpOp_store, ↓wpOp_nilCheck, ↓wpOp_binOp, ↓wpOp_unOp, ↓wpOp_convert, ↓wpOp_range, ↓wpOp_next, ↓wpOp_makeInterface, ↓wpOp_makeFunc, ↓wpOp_makeMap, ↓wpOp_makeSlice, ↓wpOp_slice, ↓wpOp_fieldAddr, ↓wpOp_field, ↓wpOp_indexAddr, ↓wpOp_index, ↓wpOp_lookup, ↓wpOp_mapUpdate, ↓wpOp_extract, ↓wpOp_builtin, ↓wpOp_call, Ax.evalO, Ax.evalOs, Ax.evalPs, Ax.evalX, Ax.ofValue, Ax.ofValue1, Ax.ofValues, Ax.putS, Ax.oPick, Ax.oAlloc, Ax.oBox, Ax.oBuild, Ax.oBuildSlice, Ax.oLoad, Ax.oStore, Ax.oNilCheck, Ax.oBinOp, Ax.oUnOp, Ax.oConvert, Ax.oMakeInterface, Ax.oMakeFunc, Ax.oMakeMap, Ax.oMakeSlice, Ax.oSlice, Ax.oFieldAddr, Ax.oField, Ax.oIndexAddr, Ax.oIndex, Ax.oLookup, Ax.oMapUpdate, Ax.oExtract, Ax.oBuiltin, Ax.builtin, Ax.lenOf, Ax.loadAt, Ax.storeAt, Ax.isAgg, Ax.isAggV, Ax.fieldAddr, Ax.field, Ax.part, Ax.bin, Ax.strOp, Ax.arith, Ax.unop, Ax.isConst, Ax.V.okCell, Ax.V.cells, Ax.setCells, ↓Ax.ret1, Ax.results, Ax.Fr.put_mk, Ax.Fr.get_mk, Ax.FT.get_set, Ax.FT.get_leaf, Ax.Fr.init, Ax.Fr.fill, ↓reduceIte, if_true, if_false, ite_true, ite_false, true_and, and_true, false_and, and_false, Option.map_some, Option.map_none, Option.bind_some, Option.bind_none, Option.some.injEq, Option.getD_some, Option.getD_none, Option.isSome_some, Option.isSome_none, List.getElem?_cons_zero, List.getElem?_cons_succ, List.getElem?_nil, List.getElem?_toArray, Nat.reduceEqDiff, Nat.reduceLT, Nat.reduceLeDiff, Nat.reduceAdd, Nat.reduceMul, Nat.reduceBEq, reduceCtorEq, Bool.not_true, Bool.not_false, Bool.or_self, Bool.or_false, Bool.false_or, Bool.or_true, Bool.true_or, Bool.false_eq_true, Bool.true_eq_false, Bool.true_and, Bool.and_true, Bool.false_and, Bool.and_false, Bool.and_self, BEq.rfl, beq_self_eq_true, decide_true, decide_false, Nat.beq_refl, List.length_cons, List.length_nil, List.take_zero, List.take_succ_cons, List.take_nil, List.drop_zero, List.drop_succ_cons, List.drop_nil, List.append_eq, List.nil_append, List.cons_append, List.append_nil, List.set_cons_zero, List.set_cons_succ, Nat.zero_add, Nat.add_zero, List.all_cons, List.all_nil, List.head?_cons, Nat.le_refl, Int.natCast_nonneg, Int.reduceEq, Int.reduceLT, Int.reduceLE, Int.reduceAdd, Int.reduceSub, Int.reduceNeg, eqI_eq, ltI_eq, leI_eq, addI_eq, subI_eq, beq_iff_eq, Bool.not_eq_true, Lty34, Lty9, Lty3, Lty4, Leq34, hl]
    exact rfl
end Go.Proofs.YtmbhjdkbcgngiaaGreatDoor
end
