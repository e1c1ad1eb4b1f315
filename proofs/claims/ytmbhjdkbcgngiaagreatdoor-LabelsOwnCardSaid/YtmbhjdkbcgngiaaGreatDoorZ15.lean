/- AX: sets of labels as rising lists: the plain law. -/
/- AX: what runs over labels need to know of an environment; slices of labels in AX's eyes. -/
/- AX: arguments of rows. -/
import Derived.Test.YtmbhjdkbcgngiaaGreatDoorZ3
import Derived.Test.YtmbhjdkbcgngiaaGreatDoorZ13
import Derived.Test.YtmbhjdkbcgngiaaGreatDoorZ14
import Derived.Deep.SlicePairs
section
namespace Go.AxS
open Go Go.Ax
theorem slt_irrefl : ∀ s, slt s s = false
  | [] => rfl
  | a :: s => by rw [slt_cons]; simp [slt_irrefl s]
theorem slt_trans : ∀ s t u, slt s t = true → slt t u = true → slt s u = true
  | _, [], _, h, _ => by cases ‹List Nat› <;> simp [slt] at h
  | _, _ :: _, [], _, h => by simp [slt] at h
  | [], b :: t, c :: u, _, _ => rfl
  | a :: s, b :: t, c :: u, h1, h2 => by
    rw [slt_cons] at h1 h2 ⊢
    simp only [Bool.or_eq_true, Bool.and_eq_true, decide_eq_true_eq] at h1 h2 ⊢
    rcases h1 with h1 | ⟨rfl, h1⟩
    · rcases h2 with h2 | ⟨rfl, h2⟩
      · exact .inl (by omega)
      · exact .inl h1
    · rcases h2 with h2 | ⟨rfl, h2⟩
      · exact .inl h2
      · exact .inr ⟨rfl, slt_trans s t u h1 h2⟩
theorem slt_total : ∀ s t, slt s t = false → slt t s = false → s = t
  | [], [], _, _ => rfl
  | [], _ :: _, h, _ => by simp [slt] at h
  | _ :: _, [], _, h => by simp [slt] at h
  | a :: s, b :: t, h1, h2 => by
    rw [slt_cons] at h1 h2
    simp only [Bool.or_eq_false_iff, Bool.and_eq_false_iff, decide_eq_false_iff_not] at h1 h2
    have e : a = b := by omega
    subst e
    rw [slt_total s t (h1.2.resolve_left (fun h => h rfl)) (h2.2.resolve_left (fun h => h rfl))]
theorem seq_iff : ∀ s t : List Nat, Ax.seq s t = true ↔ s = t
  | [], [] => by simp [Ax.seq]
  | [], _ :: _ => by simp [Ax.seq]
  | _ :: _, [] => by simp [Ax.seq]
  | a :: s, b :: t => by rw [seq_cons]; simp [seq_iff s t]
theorem seq_dec (s t : List Nat) : Ax.seq s t = decide (s = t) := by
  rw [Bool.eq_iff_iff, seq_iff]; simp

/-! ### labels -/
abbrev Lab := Bool × List Nat
def row (x : Lab) : List V := [.bool x.1, .str x.2]
def lt (x y : Lab) : Bool := match x.1, y.1 with
  | false, true => true
  | true, false => false
  | _, _ => slt x.2 y.2
theorem lt_row (x y : Lab) : labLt (row x) (row y) = lt x y := by
  obtain ⟨a, s⟩ := x; obtain ⟨b, t⟩ := y
  cases a <;> cases b <;> rfl
theorem row_inj {x y : Lab} (h : row x = row y) : x = y := by
  obtain ⟨a, s⟩ := x; obtain ⟨b, t⟩ := y
  simp only [row, List.cons.injEq, V.bool.injEq, V.str.injEq, and_true] at h
  rw [h.1, h.2]
theorem lt_irrefl (x : Lab) : lt x x = false := by
  obtain ⟨a, s⟩ := x
  cases a <;> exact slt_irrefl s
theorem lt_trans (x y z : Lab) (h1 : lt x y = true) (h2 : lt y z = true) : lt x z = true := by
  obtain ⟨a, s⟩ := x; obtain ⟨b, t⟩ := y; obtain ⟨c, u⟩ := z
  cases a <;> cases b <;> cases c <;> simp only [lt] at h1 h2 ⊢ <;> first | exact slt_trans _ _ _ h1 h2 | rfl | exact absurd h1 Bool.false_ne_true | exact absurd h2 Bool.false_ne_true
theorem lt_total (x y : Lab) (h1 : lt x y = false) (h2 : lt y x = false) : x = y := by
  obtain ⟨a, s⟩ := x; obtain ⟨b, t⟩ := y
  cases a <;> cases b <;> simp only [lt] at h1 h2 <;> first | rw [slt_total _ _ h1 h2] | exact absurd h1.symm Bool.false_ne_true | exact absurd h2.symm Bool.false_ne_true
theorem lt_asymm {x y : Lab} (h : lt x y = true) : lt y x = false := by
  cases hy : lt y x with
  | false => rfl
  | true => have := lt_trans _ _ _ h hy; rw [lt_irrefl] at this; cases this

/-! ### rising lists -/
def Up (l : List Lab) : Prop := l.Pairwise fun x y => lt x y = true
theorem up_ext : ∀ {l m : List Lab}, Up l → Up m → (∀ x, x ∈ l ↔ x ∈ m) → l = m
  | [], [], _, _, _ => rfl
  | [], y :: m, _, _, h => by have := (h y).2 (List.mem_cons_self ..); cases this
  | x :: l, [], _, _, h => by have := (h x).1 (List.mem_cons_self ..); cases this
  | x :: l, y :: m, h1, h2, h => by
    rw [Up, List.pairwise_cons] at h1 h2
    have e : x = y := by
      rcases List.mem_cons.1 ((h x).1 (List.mem_cons_self ..)) with e | hx
      · exact e
      rcases List.mem_cons.1 ((h y).2 (List.mem_cons_self ..)) with e | hy
      · exact e.symm
      have := lt_asymm (h1.1 y hy)
      rw [h2.1 x hx] at this; cases this
    subst e
    rw [up_ext h1.2 h2.2 fun z => ⟨fun hz => ?_, fun hz => ?_⟩]
    · rcases List.mem_cons.1 ((h z).1 (List.mem_cons_of_mem _ hz)) with rfl | hz'
      · have := h1.1 z hz; rw [lt_irrefl] at this; cases this
      · exact hz'
    · rcases List.mem_cons.1 ((h z).2 (List.mem_cons_of_mem _ hz)) with rfl | hz'
      · have := h2.1 z hz; rw [lt_irrefl] at this; cases this
      · exact hz'
theorem Up.nodup {l : List Lab} (h : Up l) : l.Nodup := h.imp fun hxy e => by
  subst e; rw [lt_irrefl] at hxy; cases hxy
/-- put in its place, once -/
def put : List Lab → Lab → List Lab
  | [], x => [x]
  | y :: r, x => if lt y x = true then y :: put r x else if y = x then y :: r else x :: y :: r
theorem mem_put {x z : Lab} : ∀ {l : List Lab}, z ∈ put l x ↔ z ∈ l ∨ z = x
  | [] => by simp [put]
  | y :: r => by
    simp only [put]
    split
    · rw [List.mem_cons, mem_put, List.mem_cons, or_assoc]
    · split
      · rename_i e; subst e
        simp only [List.mem_cons]
        constructor
        · intro h; exact .inl h
        · rintro (h | rfl)
          · exact h
          · exact .inl rfl
      · simp only [List.mem_cons]
        constructor
        · rintro (rfl | h)
          · exact .inr rfl
          · exact .inl h
        · rintro (h | rfl)
          · exact .inr h
          · exact .inl rfl
theorem put_up {x : Lab} : ∀ {l : List Lab}, Up l → Up (put l x)
  | [], _ => by simp [put, Up]
  | y :: r, h => by
    have h0 := h
    rw [Up, List.pairwise_cons] at h
    simp only [put]
    split
    · rename_i hyx
      refine List.pairwise_cons.2 ⟨fun z hz => ?_, put_up h.2⟩
      rcases mem_put.1 hz with hz | rfl
      · exact h.1 z hz
      · exact hyx
    · rename_i hyx
      split
      · exact h0
      · rename_i hne
        have hxy : lt x y = true := by
          cases hc : lt x y with
          | true => rfl
          | false => exact absurd (lt_total _ _ (by simpa using hyx) hc) hne
        refine List.pairwise_cons.2 ⟨fun z hz => ?_, h0⟩
        rcases List.mem_cons.1 hz with rfl | hz
        · exact hxy
        · exact lt_trans _ _ _ hxy (h.1 z hz)
def setOf (l : List Lab) : List Lab := l.foldl put []
theorem foldl_put_up : ∀ (l acc : List Lab), Up acc → Up (l.foldl put acc)
  | [], _, h => h
  | _ :: l, _, h => foldl_put_up l _ (put_up h)
theorem mem_foldl_put {z : Lab} : ∀ (l acc : List Lab), z ∈ l.foldl put acc ↔ z ∈ acc ∨ z ∈ l
  | [], acc => by simp
  | x :: l, acc => by
    rw [List.foldl_cons, mem_foldl_put l, mem_put, List.mem_cons, or_assoc]
theorem setOf_up (l : List Lab) : Up (setOf l) := foldl_put_up l [] List.Pairwise.nil
theorem mem_setOf {l : List Lab} {z : Lab} : z ∈ setOf l ↔ z ∈ l := by
  rw [setOf, mem_foldl_put]; simp
theorem setOf_self {l : List Lab} (h : Up l) : setOf l = l := up_ext (setOf_up l) h fun _ => mem_setOf
theorem setOf_congr {l m : List Lab} (h : ∀ x, x ∈ l ↔ x ∈ m) : setOf l = setOf m := up_ext (setOf_up l) (setOf_up m) fun x => by rw [mem_setOf, mem_setOf, h]

/-! ### what sortK makes -/
theorem insK_row (x : Lab) : ∀ {l : List Lab}, Up l → x ∉ l → insK labLt (row x) (l.map row) = (put l x).map row
  | [], _, _ => rfl
  | y :: r, h, hx => by
    rw [Up, List.pairwise_cons] at h
    rw [List.mem_cons, not_or] at hx
    simp only [List.map_cons, insK, put, lt_row]
    cases hxy : lt x y with
    | true =>
      rw [if_pos rfl, if_neg (by rw [lt_asymm hxy]; simp), if_neg (fun e => hx.1 e.symm)]
      rfl
    | false =>
      have hyx : lt y x = true := by
        cases hc : lt y x with
        | true => rfl
        | false => exact absurd (lt_total _ _ hxy hc) hx.1
      rw [if_neg (by simp), if_pos hyx, insK_row x h.2 hx.2]
      rfl
theorem foldK_row : ∀ (l acc : List Lab), Up acc → l.Nodup → (∀ x ∈ l, x ∉ acc) → (l.map row).foldl (fun acc x => insK labLt x acc) (acc.map row) = (l.foldl put acc).map row
  | [], _, _, _, _ => rfl
  | x :: l, acc, h, hn, hd => by
    rw [List.nodup_cons] at hn
    rw [List.map_cons, List.foldl_cons, List.foldl_cons, insK_row x h (hd x (List.mem_cons_self ..))]
    refine foldK_row l _ (put_up h) hn.2 fun z hz hm => ?_
    rcases mem_put.1 hm with hm | rfl
    · exact hd z (List.mem_cons_of_mem _ hz) hm
    · exact hn.1 hz
theorem sortK_row {l : List Lab} (hn : l.Nodup) : sortK labLt (l.map row) = (setOf l).map row := foldK_row l [] List.Pairwise.nil hn fun _ _ h => by cases h
theorem setOf_length {l : List Lab} (hn : l.Nodup) : (setOf l).length = l.length := by
  suffices ∀ (l acc : List Lab), l.Nodup → (∀ x ∈ l, x ∉ acc) → (l.foldl put acc).length = acc.length + l.length by
    have := this l [] hn (fun _ _ h => by cases h)
    simpa [setOf] using this
  intro l
  induction l with
  | nil => intro acc _ _; simp
  | cons x l ih =>
    intro acc hn hd
    rw [List.nodup_cons] at hn
    have hp : ∀ {m : List Lab}, x ∉ m → (put m x).length = m.length + 1 := by
      intro m
      induction m with
      | nil => intro _; rfl
      | cons y r ihr =>
        intro hx
        rw [List.mem_cons, not_or] at hx
        simp only [put]
        split
        · simp [ihr hx.2]
        · rw [if_neg (fun e => hx.1 e.symm)]; simp
    rw [List.foldl_cons, ih _ hn.2, hp (hd x (List.mem_cons_self ..)), List.length_cons]
    · omega
    · intro z hz hm
      rcases mem_put.1 hm with hm | rfl
      · exact hd z (List.mem_cons_of_mem _ hz) hm
      · exact hn.1 hz

/-! ### the keys of a map, as they came -/
def keyIn (l : List Lab) (x : Lab) : List Lab := if x ∈ l then l else l ++ [x]
def keys (l : List Lab) (xs : List Lab) : List Lab := xs.foldl keyIn l
theorem mem_keyIn {l : List Lab} {x z : Lab} : z ∈ keyIn l x ↔ z ∈ l ∨ z = x := by
  unfold keyIn
  split
  · rename_i h
    constructor
    · exact .inl
    · rintro (h' | rfl)
      · exact h'
      · exact h
  · simp
theorem keyIn_nodup {l : List Lab} {x : Lab} (h : l.Nodup) : (keyIn l x).Nodup := by
  unfold keyIn
  split
  · exact h
  · rename_i hx
    rw [List.nodup_append]
    refine ⟨h, by simp, ?_⟩
    intro a ha b hb e
    rw [List.mem_singleton] at hb
    subst hb; subst e
    exact hx ha
theorem mem_keys {z : Lab} : ∀ {xs l : List Lab}, z ∈ keys l xs ↔ z ∈ l ∨ z ∈ xs
  | [], l => by simp [keys]
  | x :: xs, l => by
    show z ∈ keys (keyIn l x) xs ↔ _
    rw [mem_keys, mem_keyIn, List.mem_cons, or_assoc]
theorem keys_nodup : ∀ {xs l : List Lab}, l.Nodup → (keys l xs).Nodup
  | [], _, h => h
  | _ :: xs, _, h => keys_nodup (xs := xs) (keyIn_nodup h)
theorem keys_length : ∀ {xs l : List Lab}, (keys l xs).length ≤ l.length + xs.length
  | [], l => by simp [keys]
  | x :: xs, l => by
    show (keys (keyIn l x) xs).length ≤ _
    have := keys_length (xs := xs) (l := keyIn l x)
    have h2 : (keyIn l x).length ≤ l.length + 1 := by unfold keyIn; split <;> simp
    simp only [List.length_cons]
    omega
/-- how many there are in all -/
theorem filter_count (p : Lab → Bool) : ∀ l : List Lab, (l.filter p).length + (l.filter fun x => !p x).length = l.length
  | [] => rfl
  | x :: l => by
    have := filter_count p l
    cases h : p x <;> simp [h] <;> omega
theorem same_length {l m : List Lab} (hl : l.Nodup) (hm : m.Nodup) (h : ∀ x, x ∈ l ↔ x ∈ m) : l.length = m.length := by
  rw [← setOf_length hl, ← setOf_length hm, setOf_congr h]
theorem count_law {p q u m : List Lab} (hp : p.Nodup) (hq : q.Nodup) (hu : u.Nodup) (hm : m.Nodup) (h1 : ∀ x, x ∈ u ↔ x ∈ p ∨ x ∈ q) (h2 : ∀ x, x ∈ m ↔ x ∈ p ∧ x ∈ q) : u.length + m.length = p.length + q.length := by
  have e1 : u.length = (p ++ q.filter fun x => !decide (x ∈ p)).length := by
    refine same_length hu ?_ fun x => ?_
    · rw [List.nodup_append]
      refine ⟨hp, hq.filter _, fun a ha b hb e => ?_⟩
      subst e
      rw [List.mem_filter] at hb
      simp [ha] at hb
    · rw [h1, List.mem_append, List.mem_filter]
      by_cases hx : x ∈ p <;> simp [hx]
  have e2 : m.length = (q.filter fun x => decide (x ∈ p)).length := by
    refine same_length hm (hq.filter _) fun x => ?_
    rw [h2, List.mem_filter]
    simp [and_comm]
  have := filter_count (fun x => decide (x ∈ p)) q
  rw [e1, e2, List.length_append]
  omega
end Go.AxS
end
section
set_option linter.unusedVariables false
set_option linter.unusedSimpArgs false
namespace Go.Proofs.YtmbhjdkbcgngiaaGreatDoor
open Go Go.Ax Go.AxS
structure LabE (E : Env) : Prop where
  ty3 : E.ty 3 = some { kd := .int .i64, size := 1, bytes := 8, zero := .int .i64 0 }
  ty4 : E.ty 4 = some { kd := .bool, size := 1, bytes := 1, zero := .bool false }
  ty9 : E.ty 9 = some { kd := .str, size := 1, bytes := 16, zero := .str [] }
  ty22 : E.ty 22 = some { kd := .sl 34, size := 1, bytes := 24, zero := .nils }
  ty25 : E.ty 25 = some { kd := .ptr 32, size := 1, bytes := 8, zero := .nilp }
  ty28 : E.ty 28 = some { kd := .map 34 4, size := 1, bytes := 8, zero := .nilm }
  ty30 : E.ty 30 = some { kd := .strct [(0, 28)], size := 1, bytes := 8, zero := .agg [.nilm] }
  ty32 : E.ty 32 = some { kd := .strct [(0, 30)], size := 1, bytes := 8, zero := .agg [.nilm] }
  ty34 : E.ty 34 = some { kd := .strct [(0, 4), (1, 9)], size := 2, bytes := 24, zero := .agg [.bool false, .str []] }
  ty61 : E.ty 61 = some { kd := .ptr 30, size := 1, bytes := 8, zero := .nilp }
  eq34 : E.eqs 34 = some [.bool, .str]
  hs53 : E.hspec 53 = some (hSortedLab 34 [95] [] 55)
  hs10 : E.hspec 10 = none
  sp10 : E.spec 10 = none
  fn10 : E.fn 10 = some (fnOf Tryz.f10)
  md10 : E.mode 10 = .iso
  hs15 : E.hspec 15 = none
  sp15 : E.spec 15 = none
  fn15 : E.fn 15 = some (fnOf Tryz.f15)
  md15 : E.mode 15 = .iso
  hs16 : E.hspec 16 = none
  sp16 : E.spec 16 = none
  fn16 : E.fn 16 = some (fnOf Tryz.f16)
  md16 : E.mode 16 = .iso
  hs11 : E.hspec 11 = none
  sp11 : E.spec 11 = none
  fn11 : E.fn 11 = some (fnOf Tryz.f11)
  md11 : E.mode 11 = .shared
  hs14 : E.hspec 14 = none
  sp14 : E.spec 14 = none
  fn14 : E.fn 14 = some (fnOf Tryz.f14)
  md14 : E.mode 14 = .shared
  hs56 : E.hspec 56 = none
  sp56 : E.spec 56 = none
  fn56 : E.fn 56 = some (fnOf Tryz.f56)
  md56 : E.mode 56 = .shared
  hs12 : E.hspec 12 = none
  sp12 : E.spec 12 = none
  fn12 : E.fn 12 = some (fnOf Tryz.f12)
  md12 : E.mode 12 = .shared
  hs19 : E.hspec 19 = none
  sp19 : E.spec 19 = none
  fn19 : E.fn 19 = some (fnOf Tryz.f19)
  md19 : E.mode 19 = .iso
  hs32 : E.hspec 32 = none
  sp32 : E.spec 32 = none
  fn32 : E.fn 32 = some (fnOf Tryz.f32)
  md32 : E.mode 32 = .iso
  hs68 : E.hspec 68 = none
  sp68 : E.spec 68 = none
  fn68 : E.fn 68 = some (fnOf Tryz.f68)
  md68 : E.mode 68 = .iso
  hs20 : E.hspec 20 = none
  sp20 : E.spec 20 = none
  fn20 : E.fn 20 = some (fnOf Tryz.f20)
  md20 : E.mode 20 = .iso
  hs21 : E.hspec 21 = none
  sp21 : E.spec 21 = none
  fn21 : E.fn 21 = some (fnOf Tryz.f21)
  md21 : E.mode 21 = .iso
  hs55 : E.hspec 55 = none
  sp55 : E.spec 55 = none
  fn55 : E.fn 55 = some (fnOf Tryz.f55)
  md55 : E.mode 55 = .iso
  hs96 : E.hspec 96 = none
  sp96 : E.spec 96 = none
  fn96 : E.fn 96 = some (fnOf Tryz.f96)
  md96 : E.mode 96 = .iso
  hs127 : E.hspec 127 = none
  sp127 : E.spec 127 = none
  fn127 : E.fn 127 = some (fnOf Tryz.f127)
  md127 : E.mode 127 = .iso
  hs54 : E.hspec 54 = none
  sp54 : E.spec 54 = none
  fn54 : E.fn 54 = some (fnOf Tryz.f54)
  md54 : E.mode 54 = .shared
  hs18 : E.hspec 18 = none
  sp18 : E.spec 18 = none
  fn18 : E.fn 18 = some (fnOf Tryz.f18)
  md18 : E.mode 18 = .iso
  hs30 : E.hspec 30 = none
  sp30 : E.spec 30 = none
  fn30 : E.fn 30 = some (fnOf Tryz.f30)
  md30 : E.mode 30 = .iso
  hs17 : E.hspec 17 = none
  sp17 : E.spec 17 = none
  fn17 : E.fn 17 = some (fnOf Tryz.f17)
  md17 : E.mode 17 = .iso
  hs27 : E.hspec 27 = none
  sp27 : E.spec 27 = none
  fn27 : E.fn 27 = some (fnOf Tryz.f27)
  md27 : E.mode 27 = .iso
  hs33 : E.hspec 33 = none
  sp33 : E.spec 33 = none
  fn33 : E.fn 33 = some (fnOf Tryz.f33)
  md33 : E.mode 33 = .iso
  hs34 : E.hspec 34 = none
  sp34 : E.spec 34 = none
  fn34 : E.fn 34 = some (fnOf Tryz.f34)
  md34 : E.mode 34 = .iso
  hs28 : E.hspec 28 = none
  sp28 : E.spec 28 = none
  fn28 : E.fn 28 = some (fnOf Tryz.f28)
  md28 : E.mode 28 = .iso
  hs67 : E.hspec 67 = none
  sp67 : E.spec 67 = none
  fn67 : E.fn 67 = some (fnOf Tryz.f67)
  md67 : E.mode 67 = .iso
  hs29 : E.hspec 29 = none
  sp29 : E.spec 29 = none
  fn29 : E.fn 29 = some (fnOf Tryz.f29)
  md29 : E.mode 29 = .iso
  hs31 : E.hspec 31 = none
  sp31 : E.spec 31 = none
  fn31 : E.fn 31 = some (fnOf Tryz.f31)
  md31 : E.mode 31 = .iso
  hs66 : E.hspec 66 = none
  sp66 : E.spec 66 = none
  fn66 : E.fn 66 = some (fnOf Tryz.f66)
  md66 : E.mode 66 = .shared
  hs80 : E.hspec 80 = none
  sp80 : E.spec 80 = none
  fn80 : E.fn 80 = some (fnOf Tryz.f80)
  md80 : E.mode 80 = .iso
  hs69 : E.hspec 69 = none
  sp69 : E.spec 69 = none
  fn69 : E.fn 69 = some (fnOf Tryz.f69)
  md69 : E.mode 69 = .iso
  d14_9 : isPlainDraw E (cutAt [1, 1, 1, 1, 0, 1, 2, 2, 1, 1, 0, 2, 1] (fnOf Tryz.f14).code) = true
  d19_1 : isPlainDraw E (cutAt [1, 0] (fnOf Tryz.f19).code) = true
  d68_1 : isPlainDraw E (cutAt [1, 0] (fnOf Tryz.f68).code) = true
  d30_2 : isPlainDraw E (cutAt [1, 1, 0, 2, 2, 0, 0] (fnOf Tryz.f30).code) = true
  d30_4 : isPlainDraw E (cutAt [1, 1, 1, 0, 0] (fnOf Tryz.f30).code) = true
  z30_6 : frzOf E (opsOf (cutAt [1, 1, 1, 1, 0] (fnOf Tryz.f30).code)) = true
  p30_6 : drawPlan E true (opsOf (cutAt [1, 1, 1, 1, 0] (fnOf Tryz.f30).code)) = some [⟨3, 4, true, false⟩, ⟨3, 9, true, false⟩, ⟨6, 9, true, false⟩]
  d17_6 : isPlainDraw E (cutAt [1, 1, 0, 1, 2, 2, 1, 0, 2, 0] (fnOf Tryz.f17).code) = true
  d27_4 : isPlainDraw E (cutAt [1, 0, 1, 2, 2, 1, 0, 2, 0] (fnOf Tryz.f27).code) = true
  d69_6 : isPlainDraw E (cutAt [1, 1, 0, 1, 2, 2, 1, 1, 0, 2, 1, 0] (fnOf Tryz.f69).code) = true
theorem le_lab : LabE LE := ⟨Lty3, Lty4, Lty9, Lty22, Lty25, Lty28, Lty30, Lty32, Lty34, Lty61, Leq34, Lhs53, Lhs10, Lsp10, Lfn10, Lmd10, Lhs15, Lsp15, Lfn15, Lmd15, Lhs16, Lsp16, Lfn16, Lmd16, Lhs11, Lsp11, Lfn11, Lmd11, Lhs14, Lsp14, Lfn14, Lmd14, Lhs56, Lsp56, Lfn56, Lmd56, Lhs12, Lsp12, Lfn12, Lmd12, Lhs19, Lsp19, Lfn19, Lmd19, Lhs32, Lsp32, Lfn32, Lmd32, Lhs68, Lsp68, Lfn68, Lmd68, Lhs20, Lsp20, Lfn20, Lmd20, Lhs21, Lsp21, Lfn21, Lmd21, Lhs55, Lsp55, Lfn55, Lmd55, Lhs96, Lsp96, Lfn96, Lmd96, Lhs127, Lsp127, Lfn127, Lmd127, Lhs54, Lsp54, Lfn54, Lmd54, Lhs18, Lsp18, Lfn18, Lmd18, Lhs30, Lsp30, Lfn30, Lmd30, Lhs17, Lsp17, Lfn17, Lmd17, Lhs27, Lsp27, Lfn27, Lmd27, Lhs33, Lsp33, Lfn33, Lmd33, Lhs34, Lsp34, Lfn34, Lmd34, Lhs28, Lsp28, Lfn28, Lmd28, Lhs67, Lsp67, Lfn67, Lmd67, Lhs29, Lsp29, Lfn29, Lmd29, Lhs31, Lsp31, Lfn31, Lmd31, Lhs66, Lsp66, Lfn66, Lmd66, Lhs80, Lsp80, Lfn80, Lmd80, Lhs69, Lsp69, Lfn69, Lmd69, by kernel_rfl, by kernel_rfl, by kernel_rfl, by kernel_rfl, by kernel_rfl, by kernel_rfl, by kernel_rfl, by kernel_rfl, by kernel_rfl, by kernel_rfl⟩

/-! ### slices of labels -/
/-- what stands in cells stays -/
def KeepC (σ σ' : Sg) : Prop := ∀ (b t : Nat) (cs : List V) (ex : Bool), σ[b]? = some (.cells t cs ex) → σ'[b]? = some (.cells t cs ex)
theorem KeepC.refl (σ : Sg) : KeepC σ σ := fun _ _ _ _ h => h
theorem KeepC.trans {σ τ ρ : Sg} (h : KeepC σ τ) (k : KeepC τ ρ) : KeepC σ ρ := fun b t cs ex e => k b t cs ex (h b t cs ex e)
theorem get_app {σ : Sg} {b : Nat} {o : O} (h : σ[b]? = some o) (τ : Sg) : (σ ++ τ)[b]? = some o := by
  rw [List.getElem?_append_left (List.getElem?_eq_some_iff.1 h).1]; exact h
theorem KeepC.app (σ τ : Sg) : KeepC σ (σ ++ τ) := fun _ _ _ _ h => get_app h τ
theorem KeepC.setMap {σ : Sg} {m : Nat} {es es' : List (V × V)} (h : σ[m]? = some (.map es)) : KeepC σ (σ.set m (.map es')) := fun b t cs ex e => by
  by_cases hb : m = b
  · subst hb; rw [h] at e; cases e
  · rw [List.getElem?_set_ne hb]; exact e
def SV (σ : Sg) (v : V) (l : List Lab) : Prop :=
  (v = .nils ∧ l = []) ∨ (∃ g full, v = .isl g (l.map row) full) ∨ ∃ b cs ex, v = .sl b 0 l.length none ∧ σ[b]? = some (.cells 34 cs ex) ∧ cs.take (l.length * 2) = l.flatMap row
def LV (v : V) (l : List Lab) : Prop := (v = .nils ∧ l = []) ∨ ∃ g full, v = .isl g (l.map row) full
theorem LV.sv {v : V} {l : List Lab} (h : LV v l) (σ : Sg) : SV σ v l := h.imp id .inl
theorem SV.keep {σ σ' : Sg} {v : V} {l : List Lab} (h : SV σ v l) (k : KeepC σ σ') : SV σ' v l := by
  rcases h with h | h | ⟨b, cs, ex, h1, h2, h3⟩
  · exact .inl h
  · exact .inr (.inl h)
  · exact .inr (.inr ⟨b, cs, ex, h1, k _ _ _ _ h2, h3⟩)
theorem flat_length : ∀ l : List Lab, (l.flatMap row).length = l.length * 2
  | [] => rfl
  | x :: l => by rw [List.flatMap_cons, List.length_append, flat_length l, List.length_cons]; show 2 + _ = _; omega
theorem flat_map (l : List Lab) : (l.map row).flatten = l.flatMap row := by rw [List.flatMap_def]
theorem rows_flat : ∀ l : List Lab, rows 2 l.length (l.flatMap row) = l.map row
  | [] => rfl
  | x :: l => by
    show ((row x ++ l.flatMap row).take 2) :: rows 2 l.length ((row x ++ l.flatMap row).drop 2) = _
    rw [show (row x ++ l.flatMap row).take 2 = row x from rfl, show (row x ++ l.flatMap row).drop 2 = l.flatMap row from rfl, rows_flat l]
    rfl
theorem flat_at : ∀ (l : List Lab) (i : Nat) (x : Lab), l[i]? = some x → ((l.flatMap row).drop (i * 2)).take 2 = row x
  | [], i, x, h => by simp at h
  | y :: l, 0, x, h => by cases h; rfl
  | y :: l, i + 1, x, h => by
    rw [show (i + 1) * 2 = i * 2 + 2 by omega]
    show ((row y ++ l.flatMap row).drop (i * 2 + 2)).take 2 = _
    rw [Nat.add_comm, ← List.drop_drop]
    exact flat_at l i x h
theorem mapO_id {f : V → Option V} : ∀ l : List V, (∀ x ∈ l, f x = some x) → mapO f l = some l
  | [], _ => rfl
  | x :: l, h => by
    rw [mapO, h x (List.mem_cons_self ..), mapO_id l fun y hy => h y (List.mem_cons_of_mem _ hy)]
theorem row_plain {l : List Lab} {v : V} (h : v ∈ l.flatMap row) : (∃ b, v = .bool b) ∨ ∃ s, v = .str s := by
  rw [List.mem_flatMap] at h
  obtain ⟨x, _, hx⟩ := h
  simp only [row, List.mem_cons, List.not_mem_nil, or_false] at hx
  rcases hx with rfl | rfl
  · exact .inl ⟨_, rfl⟩
  · exact .inr ⟨_, rfl⟩
section
variable {E : Env} {σ : Sg} {K : V → Sg → Prop}
theorem snap_sl (h : LabE E) (g : Bool) {b : Nat} {cs : List V} {ex : Bool} {l : List Lab} (hb : σ[b]? = some (.cells 34 cs ex)) (hc : cs.take (l.length * 2) = l.flatMap row) :
    ∃ full, snapV σ E.ty g (.sl b 0 l.length none) = some (.isl g (l.map row) full) := by
  have hlen : l.length * 2 ≤ cs.length := by
    have := congrArg List.length hc
    rw [List.length_take, flat_length] at this
    omega
  have hm : mapO (fun v => match snapC σ E.ty g 11 v with
      | some v => if tagOk g v then some v else no "snap: borrowed"
      | none => none) (l.flatMap row) = some (l.flatMap row) := by
    refine mapO_id _ fun x hx => ?_
    rcases row_plain hx with ⟨b, rfl⟩ | ⟨s, rfl⟩
    · cases g <;> rfl
    · cases g <;> rfl
  refine ⟨(match (none : Option Nat) with
    | some k => k == l.length
    | none => ex && decide (0 < 2) && (0 + l.length * 2 == cs.length)), ?_⟩
  have e : snapC σ E.ty g 12 (.sl b 0 l.length none) = some (.isl g (l.map row) (ex && decide (0 < 2) && (0 + l.length * 2 == cs.length))) := by
    rw [snapC]
    simp only [hb, h.ty34]
    rw [if_pos (by omega), List.drop_zero, hc]
    show (match mapO (fun v => match snapC σ E.ty g 11 v with
      | some v => if tagOk g v then some v else no "snap: borrowed"
      | none => none) (l.flatMap row) with
      | some l' => some (V.isl g (rows 2 l.length l') (ex && decide (0 < 2) && (0 + l.length * 2 == cs.length)))
      | none => none) = _
    rw [hm]
    simp only [rows_flat]
  show (match snapC σ E.ty g 12 (.sl b 0 l.length none) with
    | some v => if tagOk g v then some v else no "snap: borrowed"
    | none => none) = _
  rw [e]
  cases g <;> rfl
theorem snap_SV (h : LabE E) {v : V} {l : List Lab} (hv : SV σ v l) : ∃ v', snapV σ E.ty true v = some v' ∧ LV v' l := by
  rcases hv with ⟨rfl, rfl⟩ | ⟨g, full, rfl⟩ | ⟨b, cs, ex, rfl, hb, hc⟩
  · exact ⟨.nils, rfl, .inl ⟨rfl, rfl⟩⟩
  · exact ⟨_, rfl, .inr ⟨g, full, rfl⟩⟩
  · obtain ⟨full, e⟩ := snap_sl h true hb hc
    exact ⟨_, e, .inr ⟨true, full, rfl⟩⟩
/-- what a function hands back of a slice -/
theorem back_SV (h : LabE E) {v : V} {l : List Lab} (hv : (v = .nils ∧ l = []) ∨ (∃ full, v = .isl false (l.map row) full) ∨ ∃ b cs ex, v = .sl b 0 l.length none ∧ σ[b]? = some (.cells 34 cs ex) ∧ cs.take (l.length * 2) = l.flatMap row) :
    ∃ v', snapT σ E.ty false v = some v' ∧ ((v' = .nils ∧ l = []) ∨ ∃ full, v' = .isl false (l.map row) full) := by
  rcases hv with ⟨rfl, rfl⟩ | ⟨full, rfl⟩ | ⟨b, cs, ex, rfl, hb, hc⟩
  · exact ⟨.nils, rfl, .inl ⟨rfl, rfl⟩⟩
  · exact ⟨_, rfl, .inr ⟨full, rfl⟩⟩
  · obtain ⟨full, e⟩ := snap_sl h false hb hc
    exact ⟨_, e, .inr ⟨full, rfl⟩⟩
theorem len_SV (h : LabE E) {v : V} {l : List Lab} (hv : SV σ v l) : lenOf E σ 22 v = some l.length := by
  unfold lenOf
  rw [h.ty22]
  rcases hv with ⟨rfl, rfl⟩ | ⟨g, full, rfl⟩ | ⟨b, cs, ex, rfl, hb, hc⟩
  · rfl
  · simp
  · rfl
theorem elem_SV (h : LabE E) {v : V} {l : List Lab} (hv : SV σ v l) {i : Nat} {x : Lab} (hx : l[i]? = some x) :
    ∃ a, indexAddr E 22 v (.int .i64 (i : Int)) = some a ∧ ∀ σ', KeepC σ σ' → loadAt E σ' 34 a = some (.agg [.bool x.1, .str x.2]) := by
  have hi := (List.getElem?_eq_some_iff.1 hx).1
  rcases hv with ⟨rfl, rfl⟩ | ⟨g, full, rfl⟩ | ⟨b, cs, ex, rfl, hb, hc⟩
  · simp at hx
  · have hr : (l.map row)[((i : Nat) : Int).toNat]? = some (row x) := by
      rw [Int.toNat_natCast, List.getElem?_map, hx]; rfl
    refine ⟨.ipt g (row x), ?_, fun σ' _ => ?_⟩
    · unfold indexAddr
      simp only [h.ty22, h.ty34, hr]
      rw [if_neg (by omega)]
      rfl
    · unfold loadAt
      simp only [h.ty34]
      rfl
  · refine ⟨.ref b (0 + i * 2), ?_, fun σ' k => ?_⟩
    · unfold indexAddr
      simp only [h.ty22, h.ty34, Int.toNat_natCast]
      rw [if_neg (by omega), if_pos hi]
    · have hlen : l.length * 2 ≤ cs.length := by
        have := congrArg List.length hc
        rw [List.length_take, flat_length] at this
        omega
      unfold loadAt
      simp only [h.ty34, k _ _ _ _ hb]
      have e : (cs.drop (0 + i * 2)).take 2 = row x := by
        have := flat_at l i x hx
        rw [← hc, List.drop_take, List.take_take] at this
        rw [show min 2 (l.length * 2 - i * 2) = 2 by omega] at this
        rw [Nat.zero_add]
        exact this
      rw [show Ax.isAgg (Kd.strct [(0, 4), (1, 9)]) = true from rfl]
      simp only [if_true]
      rw [if_pos (by omega), e]
      rfl
end
end Go.Proofs.YtmbhjdkbcgngiaaGreatDoor
end
section
set_option linter.unusedVariables false
set_option maxRecDepth 100000
namespace Go.Proofs.YtmbhjdkbcgngiaaGreatDoor
open Go Go.Ax Go.ChangeShapes Go.WideShapes Go.ChangeAt Go.RowKit
section
variable {H : Type} {enc : TypeId × Value → H} {W : World} {base : Nat} {v : Value} {d : DataW H} {p : List MemPlace}
theorem arg_int (hv : Value.okWide Tryz.prog W .any base 3 v) : ∃ x : Int, v = .int .i64 x ∧ True := by
  have e2 : Tryz.prog.underlying 3 = some (.int .i64) := Tryz.underlying3
  unfold Value.okWide Cell.okWide Cell.ok at hv
  rw [e2] at hv
  cases v with
  | int k n => exact ⟨n, by rw [show k = IntKind.i64 from hv.1], trivial⟩
  | _ => exact hv.elim
theorem arg_bool (hv : Value.okWide Tryz.prog W .any base 4 v) : ∃ x : Bool, v = .bool x ∧ True := by
  have e2 : Tryz.prog.underlying 4 = some .bool := Tryz.underlying4
  unfold Value.okWide Cell.okWide Cell.ok at hv
  rw [e2] at hv
  cases v with
  | bool x => exact ⟨x, rfl, trivial⟩
  | _ => exact hv.elim
theorem bytes_length (s : ByteArray) : (Ax.bytes s).length = s.size := by
  unfold Ax.bytes
  rw [List.length_map]
  rfl
theorem arg_label (hv : Value.okWide Tryz.prog W .any base 34 v) (h : DataW.Trod enc Tryz.prog W 0 (fun _ => true) true 34 v d p) (hw : (DataW.weights Tryz.prog 34 d).all (· ≤ reachBytes) = true) :
    ∃ (x : Bool) (s : ByteArray), v = .agg #[.bool x, .string s] ∧ (Ax.bytes s).length ≤ 9223372036854775806 := by
  obtain ⟨cs, rfl⟩ : ∃ cs, v = .agg cs := by
    unfold Value.okWide at hv
    rw [Tryz.underlying34] at hv
    obtain ⟨cs, h1, _⟩ := hv
    exact ⟨cs, h1⟩
  obtain ⟨fuel, h⟩ := h
  obtain ⟨y0, y1, n, he, hl, u0, u1⟩ := trod_struct2 Tryz.underlying34 h
  have hl' : cs.toList.length = 2 := hl.trans (by kernel_rfl)
  obtain ⟨l⟩ := cs
  match l, hl' with
  | [c0, c1], _ =>
    obtain ⟨x, e0, _⟩ := DataW.trod_bool Tryz.underlying4 u0
    obtain ⟨s, e1, e1', _⟩ := DataW.trod_string Tryz.underlying9 u1
    have k0 : Tryz.prog.cellsOf 4 = 1 := by kernel_rfl
    have k1 : Tryz.prog.cellsOf 9 = 1 := by kernel_rfl
    have f0 : [c0] = [Value.bool x] := by rw [← e0]; rw [k0]; rfl
    have f1 : [c1] = [Value.string s] := by rw [← e1]; rw [k1]; rfl
    cases f0; cases f1
    refine ⟨x, s, rfl, ?_⟩
    have hd : d = .agg [y0.1, y1.1] := congrArg Prod.fst he
    rw [hd, e1'] at hw
    unfold DataW.weights at hw
    rw [Tryz.underlying34] at hw
    simp only [List.map_cons, List.map_nil, DataW.weightsEach, DataW.weights, List.all_append, Bool.and_eq_true, List.all_cons, decide_eq_true_eq] at hw
    have hs : s.data.toList.length ≤ reachBytes := hw.2.1.1
    rw [bytes_length]
    have : s.size = s.data.toList.length := rfl
    have e : reachBytes = 140737488351232 := by decide
    omega
end
/-! ### slices of labels -/
theorem mem_weightsAll {H : Type} {e w : Nat} {d : DataW H} : ∀ {l : List (DataW H)}, d ∈ l → w ∈ DataW.weights Tryz.prog e d → w ∈ DataW.weightsAll Tryz.prog e l
  | x :: l, hd, hw => by
    rw [DataW.weightsAll, List.mem_append]
    rcases List.mem_cons.1 hd with rfl | hd
    · exact .inl hw
    · exact .inr (mem_weightsAll hd hw)
def boolOfV : Value → Bool
  | .bool b => b
  | _ => false
def strOfV : Value → ByteArray
  | .string s => s
  | _ => ⟨#[]⟩
theorem rowsAt_of {W : World} {I : Bool → Nat → Prop} {blk off : Nat} (b : Nat → Bool) (s : Nat → ByteArray) : ∀ (n k : Nat), (∀ i, k ≤ i → i < k + n → W.cell? ⟨blk, off + i * 2, none⟩ = some (.bool (b i)) ∧ W.cell? ⟨blk, off + i * 2 + 1, none⟩ = some (.string (s i))) →
    RowsAt W I 2 ((List.range' k n).map fun i => Go.AxS.row (b i, Ax.bytes (s i))) blk (off + k * 2)
  | 0, k, _ => .nil
  | n + 1, k, h => by
    rw [List.range'_succ, List.map_cons]
    obtain ⟨h1, h2⟩ := h k (Nat.le_refl _) (by omega)
    refine .cons _ _ rfl (.cons _ _ _ h1 (.bool _) (.cons _ _ _ h2 (.str _) .nil)) ?_
    have := rowsAt_of (W := W) (I := I) (blk := blk) (off := off) b s n (k + 1) fun i hi hn => h i (by omega) (by omega)
    rw [show off + (k + 1) * 2 = off + k * 2 + 2 by omega] at this
    exact this
theorem arg_labels {H : Type} {enc : TypeId × Value → H} {W : World} {base : Nat} {v : Value} {d : DataW H} {p : List MemPlace} (hv : Value.okWide Tryz.prog W .any base 22 v) (h : DataW.Trod enc Tryz.prog W 0 (fun _ => true) true 22 v d p) (hw : (DataW.weights Tryz.prog 22 d).all (· ≤ reachBytes) = true) :
    ∃ (a : V) (l : List Go.AxS.Lab), LV a l ∧ (∀ k ∈ l, k.2.length ≤ 9223372036854775806) ∧ VR (topCx W) a v := by
  have e22 : Tryz.prog.underlying 22 = some (.slice 34) := Tryz.underlying22
  unfold Value.okWide at hv
  rw [e22] at hv
  have hv : Cell.okWide Tryz.prog W .any base 22 v := hv
  unfold Cell.okWide Cell.ok at hv
  rw [e22] at hv
  cases v with
  | slice q len cap =>
    obtain ⟨fuel, h⟩ := h
    have h' : DataW.trod enc Tryz.prog W 0 (fun _ => true) true fuel 22 [.slice q len cap] = some (d, p) := h
    rcases Go.Deep.open_slice_pairs e22 Tryz.underlying34 (by kernel_rfl) rfl rfl (by kernel_rfl) (by kernel_rfl) h' with ⟨hc, _⟩ | ⟨a, len', cap', m, n, V0, V1, D0, D1, P0, P1, hc, _, hlc, _, hm, hx, he⟩
    · cases hc
      exact ⟨.nils, [], .inl ⟨rfl, rfl⟩, fun k hk => (by cases hk), .inl .nils⟩
    · cases hc
      have hv : len ≤ cap ∧ (cap : Int) ≤ IntKind.i64.max ∧ W.has Tryz.prog .any base a 34 cap := hv
      obtain ⟨_, _, _, hsp, rw_, cl, hshape, _⟩ := hv
      obtain ⟨blk, off, sp⟩ := a
      have hsp : sp = none := hsp
      subst hsp
      have hm : m = cap := by rw [hm]; rfl
      subst hm
      have each : ∀ i, i < len → W.cell? ⟨blk, off + i * 2, none⟩ = some (.bool (boolOfV (V0 i))) ∧ W.cell? ⟨blk, off + i * 2 + 1, none⟩ = some (.string (strOfV (V1 i))) ∧ D1 i = .lit (.string (strOfV (V1 i)).data.toList) := by
        intro i hi
        obtain ⟨q0, q1, t0, t1⟩ := he i (by omega)
        obtain ⟨x, e0, _⟩ := DataW.trod_bool Tryz.underlying4 t0
        obtain ⟨s, e1, e1', _⟩ := DataW.trod_string Tryz.underlying9 t1
        have e0 : V0 i = .bool x := List.head_eq_of_cons_eq e0
        have e1 : V1 i = .string s := List.head_eq_of_cons_eq e1
        have e2 : D1 i = .lit (.string s.data.toList) := congrArg Prod.fst e1'
        rw [e0] at q0
        rw [e1] at q1
        have ea : ∀ k, (⟨blk, off, none⟩ : Addr).add k = ⟨blk, off + k, none⟩ := fun k => by unfold Addr.add; first | rfl | simp
        rw [ea] at q0 q1
        rw [← Nat.add_assoc] at q1
        refine ⟨by rw [e0]; exact q0, by rw [e1]; exact q1, by rw [e1]; exact e2⟩
      have hd : d = .slice ((List.range len).map fun i => .agg [D0 i, D1 i]) ((List.range (m - len)).map fun j => .agg [D0 (len + j), D1 (len + j)]) := congrArg Prod.fst hx
      have hlen : ∀ i, i < len → (strOfV (V1 i)).data.toList.length ≤ reachBytes := by
        intro i hi
        rw [hd, DataW.weights, e22] at hw
        simp only [List.all_cons, List.all_append, Bool.and_eq_true, List.all_eq_true, decide_eq_true_eq] at hw
        refine hw.2.1 _ (mem_weightsAll (List.mem_map.2 ⟨i, List.mem_range.2 hi, rfl⟩) ?_)
        rw [DataW.weights, Tryz.underlying34, (each i hi).2.2]
        simp [DataW.weightsEach, DataW.weights]
      have hblk : blk < W.heap.size := by
        rcases Nat.lt_or_ge blk W.heap.size with g | g
        · exact g
        · unfold World.shape? at hshape
          rw [Array.getElem?_eq_none g] at hshape
          cases hshape
      refine ⟨.isl true (((List.range' 0 len).map fun i => (boolOfV (V0 i), Ax.bytes (strOfV (V1 i)))).map Go.AxS.row) false, (List.range' 0 len).map fun i => (boolOfV (V0 i), Ax.bytes (strOfV (V1 i))), .inr ⟨true, false, rfl⟩, ?_, .inl ?_⟩
      · intro k hk
        obtain ⟨i, hi, rfl⟩ := List.mem_map.1 hk
        rw [List.mem_range'_1] at hi
        have := hlen i (by omega)
        show (Ax.bytes (strOfV (V1 i))).length ≤ _
        rw [bytes_length]
        have e1 : (strOfV (V1 i)).size = (strOfV (V1 i)).data.toList.length := rfl
        have e : reachBytes = 140737488351232 := by decide
        omega
      · refine .isl true _ false blk off len m 2 (top_imm W blk hblk) (by simp) hlc (fun h => by cases h) ?_
        rw [List.map_map]
        have := rowsAt_of (W := W) (I := Ax.sub true (topCx W).imm) (blk := blk) (off := off) (fun i => boolOfV (V0 i)) (fun i => strOfV (V1 i)) len 0 fun i _ hi => ⟨(each i (by omega)).1, (each i (by omega)).2.1⟩
        rw [Nat.zero_mul, Nat.add_zero] at this
        exact this
  | _ => exact hv.elim
theorem vr_label (W : World) (x : Bool) (s : ByteArray) : VR (topCx W) (.agg [.bool x, .str (Ax.bytes s)]) (.agg #[.bool x, .string s]) :=
  .agg _ [_, _] (.cons _ _ _ _ (.inl (.bool _)) (.cons _ _ _ _ (.inl (.str _)) .nil))
end Go.Proofs.YtmbhjdkbcgngiaaGreatDoor
end
