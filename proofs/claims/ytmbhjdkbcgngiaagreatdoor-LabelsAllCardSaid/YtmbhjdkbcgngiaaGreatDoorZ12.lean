/- AX: the contracts of slices.Sorted at strings, slices.SortedFunc at labels. -/
/- AX: hSortedStr, hSortedLab. -/
/- AX: hSortedStr, hSortedLab: the contracts. -/
/- AX: the seat's ground holds: the contracts of the library's functions, joined. -/
/- AX: known answers are specs: printed by memotab.py. -/
/- AX: what a code comes to, whatever the fuel: monotone in the fuel; a predicate transformer with contracts of calls. -/
/- AX: the transformer at single operations and at calls. -/
import Derived.Test.YtmbhjdkbcgngiaaGreatDoorZ11
import Derived.Test.YtmbhjdkbcgngiaaGreatDoorZ3
import Derived.Test.YtmbhjdkbcgngiaaGreatDoorZ10
import Derived.Test.YtmbhjdkbcgngiaaGreatDoorZ5
import Derived.Test.YtmbhjdkbcgngiaaGreatDoorZ6
import Derived.Test.YtmbhjdkbcgngiaaGreatDoorZ7
import Derived.Test.YtmbhjdkbcgngiaaGreatDoorZ8
import Derived.Test.YtmbhjdkbcgngiaaGreatDoorZ9
import Derived.Test.YtmbhjdkbcgngiaaGreatDoorZ0
section
set_option linter.unusedVariables false
set_option linter.unusedSimpArgs false
namespace Go.AxC
open Go Go.Proofs Go.Ax Go.RowKit Go.Sort
section
variable {E : Env} {c : Cx}
theorem box_cell (hs : SR E c) {b t : Nat} {X : V} {ex : Bool} (hb : c.σ[b]? = some (.cells t [X] ex)) : ∃ x, c.w.cell? ⟨c.blk b, 0, none⟩ = some x ∧ VR c X x ∧ c.blk b < c.w.heap.size := by
  obtain ⟨arr, h1, _, _, _, _, _, h2⟩ := hs.obj b _ hb
  obtain ⟨x, h3, h4⟩ := h2 0 X rfl
  exact ⟨x, by simp [World.cell?, h1, h3], h4, (Array.getElem?_eq_some_iff.1 h1).1⟩
theorem map_of (hs : SR E c) {X : V} {es : List (V × V)} (hX : (∃ m, X = .mp m ∧ c.σ[m]? = some (.map es)) ∨ ∃ g, X = .imp g es) {x : Value} (hv : VR c X x) :
    ∃ blk en cl l, x = .map (some blk) ∧ c.w.heap[blk]? = some (.map en cl) ∧ MOk en cl ∧ l.Perm en.toList ∧ MapR c es l := by
  rcases hX with ⟨m, rfl, hm⟩ | ⟨g, rfl⟩
  · obtain ⟨en, cl, h1, h2, l, h3, h4⟩ := hs.obj m _ hm
    cases hv with
    | mp _ h => exact ⟨_, en, cl, l, rfl, h1, h2, h3, h4⟩
    | inl h => cases h
  · obtain ⟨m, en, cl, l, hx, _, h1, h2, h3, h4⟩ := hv.imp_inv
    exact ⟨m, en, cl, l, hx, h1, h2, h3, h4.mapR⟩
theorem rowS {I : Bool → Nat → Prop} {w : World} {k : V} {x : Value} (h : IRa w I k x) (hr : strRow (rowOf k) = true) : ∃ y, x = encS y ∧ rowOf k = absS y := by
  cases h with
  | one h => cases h with
    | str s => exact ⟨s, rfl, rfl⟩
    | _ => simp [rowOf, V.cells, strRow] at hr
  | agg cs xs h =>
    match cs, hr with
    | [], hr => simp [rowOf, V.cells, strRow] at hr
    | [_], hr => simp [rowOf, strRow] at hr
    | _ :: _ :: _, hr => simp [rowOf, V.cells, strRow] at hr
theorem rowL {I : Bool → Nat → Prop} {w : World} {k : V} {x : Value} (h : IRa w I k x) (hr : labRow (rowOf k) = true) : ∃ y, x = encL y ∧ rowOf k = absL y := by
  cases h with
  | one h => cases h <;> simp [rowOf, V.cells, labRow] at hr
  | agg cs xs h =>
    match cs, hr with
    | [], hr => simp [rowOf, V.cells, labRow] at hr
    | [_], hr => simp [rowOf, labRow] at hr
    | [a, b], hr =>
      cases h with
      | cons _ y _ ys h1 h2 => cases h2 with
        | cons _ z _ zs h3 h4 =>
          cases h4
          cases h1 <;> first | (cases h3 <;> first | exact ⟨(_, _), rfl, rfl⟩ | (simp [rowOf, V.cells, labRow] at hr; done)) | (simp [rowOf, V.cells, labRow] at hr; done)
    | _ :: _ :: _ :: _, hr => simp [rowOf, V.cells, labRow] at hr
theorem keys_of {α : Type} {enc : α → Value} {abs : α → List V} {p : List V → Bool} (hrow : ∀ {k : V} {x : Value}, IRa c.w c.imm k x → p (rowOf k) = true → ∃ y, x = enc y ∧ rowOf k = abs y)
    {es : List (V × V)} {l : List MapEntry} (hm : MapR c es l) : allRows p (es.map fun e => rowOf e.1) = true → ∃ ys : List α, l.map (·.key) = ys.map enc ∧ (es.map fun e => rowOf e.1) = ys.map abs := by
  induction hm with
  | nil => exact fun _ => ⟨[], rfl, rfl⟩
  | cons k v es e l hk hv hr ih =>
    intro h
    simp only [List.map_cons, allRows] at h
    split at h
    case h_2 => cases h
    rename_i h1
    obtain ⟨y, e1, e2⟩ := hrow hk h1
    obtain ⟨ys, e3, e4⟩ := ih h
    exact ⟨y :: ys, by simp [e1, e3], by simp [e2, e4]⟩
theorem flatS : ∀ zs : List ByteArray, (zs.map absS).flatten.length = (zs.flatMap cellsS).length ∧ (zs.map absS).flatten.all V.okCell = true ∧ ∀ (c' : Cx) (j : Nat) (a : V), (zs.map absS).flatten[j]? = some a → ∃ x, (zs.flatMap cellsS)[j]? = some x ∧ VR c' a x
  | [] => ⟨rfl, rfl, fun _ j a h => by simp at h⟩
  | z :: zs => by
    obtain ⟨h1, h2, h3⟩ := flatS zs
    refine ⟨by simp [absS, cellsS] at h1 ⊢; exact h1, by simp only [List.map_cons, List.flatten_cons, List.all_append, h2]; rfl, fun c' j a h => ?_⟩
    match j, h with
    | 0, h =>
      injection (show some (V.str (Ax.bytes z)) = some a from h) with h
      subst h
      exact ⟨.string z, rfl, .inl (.str z)⟩
    | j + 1, h => exact h3 c' j a h
theorem flatL : ∀ zs : List (Bool × ByteArray), (zs.map absL).flatten.length = (zs.flatMap cellsL).length ∧ (zs.map absL).flatten.all V.okCell = true ∧ ∀ (c' : Cx) (j : Nat) (a : V), (zs.map absL).flatten[j]? = some a → ∃ x, (zs.flatMap cellsL)[j]? = some x ∧ VR c' a x
  | [] => ⟨rfl, rfl, fun _ j a h => by simp at h⟩
  | z :: zs => by
    obtain ⟨h1, h2, h3⟩ := flatL zs
    refine ⟨by simp only [List.map_cons, List.flatten_cons, List.flatMap_cons, List.length_append, h1]; rfl, by simp only [List.map_cons, List.flatten_cons, List.all_append, h2]; rfl, fun c' j a h => ?_⟩
    match j, h with
    | 0, h =>
      injection (show some (V.bool z.1) = some a from h) with h
      subst h
      exact ⟨.bool z.1, rfl, .inl (.bool _)⟩
    | 1, h =>
      injection (show some (V.str (Ax.bytes z.2)) = some a from h) with h
      subst h
      exact ⟨.string z.2, rfl, .inl (.str z.2)⟩
    | j + 2, h => exact h3 c' j a h
end
theorem perm_dec {α : Type} {enc : α → Value} (dec : Value → α) (hd : ∀ x, dec (enc x) = x) {a b : List α} (h : (a.map enc).Perm (b.map enc)) : a.Perm b := by
  have := h.map dec
  simpa [List.map_map, Function.comp_def, hd] using this
def decS : Value → ByteArray
  | .string s => s
  | _ => default
def decL : Value → Bool × ByteArray
  | .agg #[.bool b, .string s] => (b, s)
  | _ => default
theorem seq_perm {α : Type} {F : Fence} {n : Nat} {P : Program} {g : Nat} {lb : Array Value} {encs : α → Array Value} {Kp : World → World → Prop} {S S' Sp : List α → Prop} {N : Nat} {w : World} (h : SeqStopsK F n P g lb encs Kp S Sp N w) (hS : ∀ xs, S xs → S' xs) : SeqStopsK F n P g lb encs Kp S' Sp N w :=
  fun l J Jx W hW hJ hJx hY h0 => (h l J Jx W hW hJ hJx hY h0).mono fun e W' ⟨h1, h2⟩ => ⟨h1, h2.imp (fun ⟨xs, a, b⟩ => ⟨xs, hS xs a, b⟩) id⟩
end Go.AxC
end
section
set_option linter.unusedVariables false
set_option linter.unusedSimpArgs false
namespace Go.AxC
open Go Go.Proofs Go.Ax Go.RowKit Go.Sort
section
variable {E : Env} {c : Cx}
theorem finS (hs : SR E c) {i : Ty} (hi : E.ty 9 = some i) (h1 : i.size = 1) (g : Nat) (lb : Array Value) (eg : ∀ args w, (callFunc g args).run Tryz.prog w = .ok (.enter g args) w) (ys : List ByteArray) (hlen : ys.length ≤ 1000000)
    (hseq : SeqStopsK Fence.wide 2 Tryz.prog g lb (fun x => #[encS x]) (Kp2 c.w.heap.size) (fun ss => ss.Perm ys) (fun _ => True) ys.length c.w) :
    Runs Tryz.prog 64 [.func (.func g) #[] lb] c.w fun x w' => (ys = [] → Back E c .nils c.σ x w') ∧ (ys ≠ [] → Back E c (.sl c.σ.length 0 ys.length none) (c.σ ++ [.cells 9 (sortK strLt (ys.map absS)).flatten false]) x w') := by
  refine .inl ⟨Tryz.call64 _ _, (sortedS c.w g lb eg _ ys.length (by simp only [maxLen]; omega) (by omega) (fun ss h => Nat.le_of_eq h.length_eq) hseq).mono ?_⟩
  rintro e w' ⟨v, ss, rfl, hp, hrow, hnil, hb⟩
  have hl := hp.length_eq
  refine ⟨v, rfl, fun h0 => ?_, fun h0 => ?_⟩
  · subst h0
    rw [hnil.2 (List.perm_nil.1 hp)]
    exact adopt_nil hs hb
  · have hss : ss ≠ [] := fun e => h0 (List.perm_nil.1 (by rw [e] at hp; exact hp.symm))
    have hv : v ≠ .slice none 0 0 := fun e => hss (hnil.1 e)
    rw [sortA_eq stoS hp, hl] at hrow
    obtain ⟨k1, k2, k3⟩ := flatS (sortA ltS ys)
    rw [sortK_map absS]
    exact adopt_row hs hb hi h1 hrow hv k1 k2 k3
theorem finL (hs : SR E c) {i : Ty} (hi : E.ty 34 = some i) (h1 : i.size = 2) (g : Nat) (lb : Array Value) (eg : ∀ args w, (callFunc g args).run Tryz.prog w = .ok (.enter g args) w) (ys : List (Bool × ByteArray)) (hlen : ys.length ≤ 1000000)
    (hseq : SeqStopsK Fence.wide 2 Tryz.prog g lb (fun x => #[encL x]) (Kp2 c.w.heap.size) (fun ss => ss.Perm ys) (fun _ => True) ys.length c.w) :
    Runs Tryz.prog 53 [.func (.func g) #[] lb, .func (.func 55) #[] #[]] c.w fun x w' => (ys = [] → Back E c .nils c.σ x w') ∧ (ys ≠ [] → Back E c (.sl c.σ.length 0 ys.length none) (c.σ ++ [.cells 34 (sortK labLt (ys.map absL)).flatten false]) x w') := by
  refine .inl ⟨Tryz.call53 _ _, (sortedL c.w g lb eg _ ys.length (by simp only [maxLen]; omega) (by omega) (fun ss h => Nat.le_of_eq h.length_eq) hseq).mono ?_⟩
  rintro e w' ⟨v, ss, rfl, hp, hrow, hnil, hb⟩
  have hl := hp.length_eq
  refine ⟨v, rfl, fun h0 => ?_, fun h0 => ?_⟩
  · subst h0
    rw [hnil.2 (List.perm_nil.1 hp)]
    exact adopt_nil hs hb
  · have hss : ss ≠ [] := fun e => h0 (List.perm_nil.1 (by rw [e] at hp; exact hp.symm))
    have hv : v ≠ .slice none 0 0 := fun e => hss (hnil.1 e)
    rw [sortA_eq stoL hp, hl] at hrow
    obtain ⟨k1, k2, k3⟩ := flatL (sortA ltL ys)
    rw [sortK_map absL]
    exact adopt_row hs hb hi h1 hrow hv k1 k2 k3
/-- from the spec's own answer to what is left -/
theorem hSorted_inv {t : Nat} {fk fv : List Nat} {ok : List V → Bool} {lt : List V → List V → Bool} {x : V} {σ σ' : Sg} {v : V} (h : hSorted t fk fv ok lt x σ = some (v, σ')) :
    ∃ rows, keysOf σ fk fv x = some rows ∧ allRows ok rows = true ∧ Nat.ble rows.length 1000000 = true ∧ ((rows = [] ∧ v = .nils ∧ σ' = σ) ∨ (rows ≠ [] ∧ v = .sl σ.length 0 rows.length none ∧ σ' = σ ++ [.cells t (sortK lt rows).flatten false])) := by
  unfold hSorted at h
  split at h
  · rename_i hk
    injection h with h; injection h with h1 h2
    exact ⟨[], hk, rfl, rfl, .inl ⟨rfl, h1.symm, h2.symm⟩⟩
  · rename_i l hne hk
    split at h
    case h_2 => cases h
    rename_i h3 h4
    injection h with h; injection h with h1 h2
    exact ⟨l, hk, h3, h4, .inr ⟨fun e => hne e, h1.symm, h2.symm⟩⟩
  · cases h
theorem natIn_mem {n : Nat} : ∀ {l : List Nat}, natIn n l = true → n ∈ l
  | [], h => by cases h
  | a :: r, h => by
    simp only [natIn] at h
    split at h
    · rename_i e
      have e := Nat.eq_of_beq_eq_true e
      subst e
      exact List.mem_cons_self ..
    · exact List.mem_cons_of_mem _ (natIn_mem h)
/-- the closure's value -/
theorem fn_box {f b : Nat} {x : Value} (hv : VR c (.fn f [] [.ref b 0]) x) : x = .func (.func f) #[] #[.pointer (some ⟨c.blk b, 0, none⟩)] := by
  cases hv with
  | inl h => cases h
  | fn _ _ _ xs ys ha hb =>
    cases ha
    cases hb with
    | cons _ y _ zs h1 h2 =>
      cases h2
      obtain ⟨e, _⟩ := h1.ref_inv
      rw [e]
theorem cells_of_rows {I : Bool → Nat → Prop} {w : World} : ∀ {xs : List (List V)} {blk off : Nat}, RowsAt w I 1 xs blk off → allRows strRow xs = true → ∃ ys : List ByteArray, xs = ys.map absS ∧ ∀ j y, ys[j]? = some y → w.cell? ⟨blk, off + j, none⟩ = some (.string y)
  | [], _, _, _, _ => ⟨[], rfl, fun j y h => by simp at h⟩
  | r :: xs, blk, off, h, hok => by
    cases h with
    | cons _ _ hl hc hr =>
      simp only [allRows] at hok
      split at hok
      case h_2 => cases hok
      rename_i h1
      obtain ⟨ys, e, hy⟩ := cells_of_rows hr hok
      cases hc with
      | nil => cases hl
      | cons v x cs h2 h3 h4 =>
        cases h4 with
        | cons => simp at hl
        | nil =>
          cases h3 <;> first | (simp [strRow] at h1; done) | skip
          rename_i s
          refine ⟨s :: ys, by rw [e]; rfl, fun j y hj => ?_⟩
          match j, hj with
          | 0, hj => injection hj with hj; subst hj; exact h2
          | j + 1, hj =>
            have := hy j y hj
            rwa [Nat.add_assoc, Nat.add_comm 1 j] at this
theorem rows_one {I : Bool → Nat → Prop} {w : World} {sz : Nat} {xs : List (List V)} {blk off : Nat} (h : RowsAt w I sz xs blk off) (hok : allRows strRow xs = true) : xs = [] ∨ sz = 1 := by
  cases h with
  | nil => exact .inl rfl
  | cons r xs hl hc hr =>
    right
    simp only [allRows] at hok
    split at hok
    case h_2 => cases hok
    rename_i h1
    match r, h1, hl with
    | [], h1, _ => cases h1
    | [_], _, hl => exact hl.symm
    | _ :: _ :: _, h1, _ => simp [strRow] at h1
theorem cells_of_list {cs : List V} {arr : Array Value} (hc : ∀ (j : Nat) (v : V), cs[j]? = some v → ∃ x, arr[j]? = some x ∧ VR c v x) : ∀ (l : List V) (off : Nat), (∀ j v, l[j]? = some v → cs[off + j]? = some v) → allRows strRow (l.map fun v => [v]) = true → ∃ ys : List ByteArray, (l.map fun v => [v]) = ys.map absS ∧ ∀ j y, ys[j]? = some y → arr[off + j]? = some (.string y)
  | [], _, _, _ => ⟨[], rfl, fun j y h => by simp at h⟩
  | v :: l, off, hl, hok => by
    simp only [List.map_cons, allRows] at hok
    split at hok
    case h_2 => cases hok
    rename_i h1
    obtain ⟨ys, e, hy⟩ := cells_of_list hc l (off + 1) (fun j w hj => by have := hl (j + 1) w hj; rwa [← Nat.add_assoc, Nat.add_right_comm] at this) hok
    obtain ⟨x, h2, h3⟩ := hc off v (hl 0 v rfl)
    have hx : ∃ s, x = .string s ∧ v = .str (Ax.bytes s) := by
      cases v <;> first | (simp [strRow] at h1; done) | skip
      obtain ⟨s, h4, h5⟩ := h3.str_inv
      exact ⟨s, h4, by rw [h5]⟩
    obtain ⟨s, rfl, rfl⟩ := hx
    refine ⟨s :: ys, by rw [List.map_cons, e]; rfl, fun j y hj => ?_⟩
    match j, hj with
    | 0, hj => injection hj with hj; subst hj; exact h2
    | j + 1, hj =>
      have := hy j y hj
      rwa [Nat.add_assoc, Nat.add_comm 1 j] at this
end
end Go.AxC
end
section
set_option linter.unusedVariables false
set_option linter.unusedSimpArgs false
namespace Go.AxC
open Go Go.Proofs Go.Ax Go.RowKit Go.Sort
section
variable {E : Env} {c : Cx}
theorem runMapS (hs : SR E c) {i : Ty} (hi : E.ty 9 = some i) (h1 : i.size = 1) {f b t : Nat} {X : V} {ex : Bool} {es : List (V × V)} (hf : f ∈ [105, 292]) (hb : c.σ[b]? = some (.cells t [X] ex))
    (hX : (∃ m, X = .mp m ∧ c.σ[m]? = some (.map es)) ∨ ∃ g, X = .imp g es) (hok : allRows strRow (es.map fun e => rowOf e.1) = true) (hlen : Nat.ble (es.map fun e => rowOf e.1).length 1000000 = true) :
    ∃ ys : List ByteArray, (es.map fun e => rowOf e.1) = ys.map absS ∧ Runs Tryz.prog 64 [.func (.func f) #[] #[.pointer (some ⟨c.blk b, 0, none⟩)]] c.w fun x w' => (ys = [] → Back E c .nils c.σ x w') ∧ (ys ≠ [] → Back E c (.sl c.σ.length 0 ys.length none) (c.σ ++ [.cells 9 (sortK strLt (ys.map absS)).flatten false]) x w') := by
  obtain ⟨x, hx, hvx, hblt⟩ := box_cell hs hb
  obtain ⟨blk, en, cl, l, rfl, h2, h3, h4, h5⟩ := map_of hs hX hvx
  obtain ⟨ys, e1, e2⟩ := keys_of (enc := encS) (abs := absS) (fun h hr => rowS h hr) h5 hok
  have hl : ys.length ≤ 1000000 := by rw [e2, List.length_map] at hlen; exact Nat.le_of_ble_eq_true hlen
  have hken : (en.toList.map (·.key)).Perm (ys.map encS) := by rw [← e1]; exact (h4.map _).symm
  have hks : ∀ x ∈ en.toList.map (·.key), ∃ y, x = encS y := fun x hx => by
    have := hken.mem_iff.1 hx
    obtain ⟨y, _, rfl⟩ := List.mem_map.1 this
    exact ⟨y, rfl⟩
  have hsz : en.size = ys.length := by have := hken.length_eq; simpa using this
  refine ⟨ys, e2, finS hs hi h1 f _ ?_ ys hl ?_⟩
  · simp only [List.mem_cons, List.not_mem_nil, or_false] at hf
    rcases hf with rfl | rfl
    · exact enters_of Tryz.func105 (by kernel_rfl) rfl
    · exact enters_of Tryz.func292 (by kernel_rfl) rfl
  · rw [← hsz]
    simp only [List.mem_cons, List.not_mem_nil, or_false] at hf
    rcases hf with rfl | rfl
    · exact seq_perm (kp2_of _ (keysS_stops Fence.wide 2 trivial rfl (by omega) (c.blk b) blk en cl c.w hblt hx h2 h3.st hks)) fun xs hp => perm_dec decS (fun _ => rfl) (hp.trans hken)
    · exact seq_perm (kp2_of _ (keysT_stops Fence.wide 2 trivial rfl (by omega) (c.blk b) blk en cl c.w hblt hx h2 h3.st hks)) fun xs hp => perm_dec decS (fun _ => rfl) (hp.trans hken)
theorem runMapL (hs : SR E c) {i : Ty} (hi : E.ty 34 = some i) (h1 : i.size = 2) {f b t : Nat} {X : V} {ex : Bool} {es : List (V × V)} (hf : f ∈ [95]) (hb : c.σ[b]? = some (.cells t [X] ex))
    (hX : (∃ m, X = .mp m ∧ c.σ[m]? = some (.map es)) ∨ ∃ g, X = .imp g es) (hok : allRows labRow (es.map fun e => rowOf e.1) = true) (hlen : Nat.ble (es.map fun e => rowOf e.1).length 1000000 = true) :
    ∃ ys : List (Bool × ByteArray), (es.map fun e => rowOf e.1) = ys.map absL ∧ Runs Tryz.prog 53 [.func (.func f) #[] #[.pointer (some ⟨c.blk b, 0, none⟩)], .func (.func 55) #[] #[]] c.w fun x w' => (ys = [] → Back E c .nils c.σ x w') ∧ (ys ≠ [] → Back E c (.sl c.σ.length 0 ys.length none) (c.σ ++ [.cells 34 (sortK labLt (ys.map absL)).flatten false]) x w') := by
  obtain ⟨x, hx, hvx, hblt⟩ := box_cell hs hb
  obtain ⟨blk, en, cl, l, rfl, h2, h3, h4, h5⟩ := map_of hs hX hvx
  obtain ⟨ys, e1, e2⟩ := keys_of (enc := encL) (abs := absL) (fun h hr => rowL h hr) h5 hok
  have hl : ys.length ≤ 1000000 := by rw [e2, List.length_map] at hlen; exact Nat.le_of_ble_eq_true hlen
  have hken : (en.toList.map (·.key)).Perm (ys.map encL) := by rw [← e1]; exact (h4.map _).symm
  have hks : ∀ x ∈ en.toList.map (·.key), ∃ y, x = encL y := fun x hx => by
    have := hken.mem_iff.1 hx
    obtain ⟨y, _, rfl⟩ := List.mem_map.1 this
    exact ⟨y, rfl⟩
  have hsz : en.size = ys.length := by have := hken.length_eq; simpa using this
  refine ⟨ys, e2, finL hs hi h1 f _ ?_ ys hl ?_⟩
  · simp only [List.mem_cons, List.not_mem_nil, or_false] at hf
    subst hf
    exact enters_of Tryz.func95 (by kernel_rfl) rfl
  · rw [← hsz]
    simp only [List.mem_cons, List.not_mem_nil, or_false] at hf
    subst hf
    exact seq_perm (kp2_of _ (keysL_stops Fence.wide 2 trivial rfl (by omega) (c.blk b) blk en cl c.w hblt hx h2 h3.st hks)) fun xs hp => perm_dec decL (fun _ => rfl) (hp.trans hken)
theorem runValS (hs : SR E c) {i : Ty} (hi : E.ty 9 = some i) (h1 : i.size = 1) {f b t : Nat} {X : V} {ex : Bool} (hf : f ∈ [226]) (hb : c.σ[b]? = some (.cells t [X] ex)) (ys : List ByteArray) (hl : ys.length ≤ 1000000)
    (hX : ∀ x, c.w.cell? ⟨c.blk b, 0, none⟩ = some x → VR c X x → ∃ p cap, x = .slice p ys.length cap ∧ ∀ j y, ys[j]? = some y → ∃ blk off, p = some ⟨blk, off, none⟩ ∧ c.w.cell? ⟨blk, off + j, none⟩ = some (.string y)) :
    Runs Tryz.prog 64 [.func (.func f) #[] #[.pointer (some ⟨c.blk b, 0, none⟩)]] c.w fun x w' => (ys = [] → Back E c .nils c.σ x w') ∧ (ys ≠ [] → Back E c (.sl c.σ.length 0 ys.length none) (c.σ ++ [.cells 9 (sortK strLt (ys.map absS)).flatten false]) x w') := by
  obtain ⟨x, hx, hvx, hblt⟩ := box_cell hs hb
  obtain ⟨p, cap, rfl, hp⟩ := hX x hx hvx
  simp only [List.mem_cons, List.not_mem_nil, or_false] at hf
  subst hf
  exact finS hs hi h1 _ _ (enters_of Tryz.func226 (by kernel_rfl) rfl) ys hl (seq_perm (valsS_stops Fence.wide 2 trivial rfl (by omega) (c.blk b) p cap ys c.w hblt hl hx hp) fun xs e => by rw [e])
theorem hSortedStr_ok {i : Ty} (hi : E.ty 9 = some i) (h1 : i.size = 1) : HspecOk Tryz.prog E 64 (hSortedStr 9 [105, 292] [226]) := by
  intro c vs xs v σ' hs hv h
  unfold hSortedStr at h
  split at h
  case h_2 => cases h
  rename_i x
  cases hv with
  | cons _ y _ zs hv1 hv2 =>
  cases hv2
  obtain ⟨rows, hk, hok, hlen, hres⟩ := hSorted_inv h
  have fin : ∀ (ys : List ByteArray), rows = ys.map absS → Runs Tryz.prog 64 [y] c.w (fun x w' => (ys = [] → Back E c .nils c.σ x w') ∧ (ys ≠ [] → Back E c (.sl c.σ.length 0 ys.length none) (c.σ ++ [.cells 9 (sortK strLt (ys.map absS)).flatten false]) x w')) → Runs Tryz.prog 64 [y] c.w (Back E c v σ') := by
    intro ys e hr
    refine hr.mono fun x w' ⟨k1, k2⟩ => ?_
    rcases hres with ⟨r0, rfl, rfl⟩ | ⟨r0, rfl, rfl⟩
    · exact k1 (by rw [e] at r0; simpa using r0)
    · have := k2 (fun e0 => r0 (by rw [e, e0]; rfl))
      rw [e, List.length_map]
      exact this
  unfold keysOf at hk
  split at hk
  case h_2 => cases hk
  rename_i f b
  have hy := fn_box hv1
  subst hy
  split at hk
  · rename_i hb hf
    split at hk
    case h_2 => cases hk
    rename_i es hm
    have hk := Option.some.inj hk
    subst hk
    obtain ⟨ys, e, hr⟩ := runMapS hs hi h1 (natIn_mem hf) hb (.inl ⟨_, rfl, hm⟩) hok hlen
    exact fin ys e hr
  · rename_i hb hf
    have hk := Option.some.inj hk
    subst hk
    obtain ⟨ys, e, hr⟩ := runMapS hs hi h1 (natIn_mem hf) hb (.inr ⟨_, rfl⟩) hok hlen
    exact fin ys e hr
  · rename_i hb hf
    have hk := Option.some.inj hk
    subst hk
    refine fin [] rfl (runValS hs hi h1 (natIn_mem hf) hb [] (Nat.zero_le _) fun x _ hx => ?_)
    have : x = .slice none 0 0 := by cases hx with | inl h => cases h; rfl
    exact ⟨none, 0, this, fun j y h => by simp at h⟩
  · rename_i t g xs full ex hb hf
    have hk := Option.some.inj hk
    subst hk
    obtain ⟨x0, hx0, hv0, _⟩ := box_cell hs hb
    obtain ⟨blk, off, cap, sz, rfl, _, _, _, hr⟩ := hv0.isl_inv
    obtain ⟨ys, e, hy⟩ : ∃ ys : List ByteArray, xs = ys.map absS ∧ ∀ j y, ys[j]? = some y → c.w.cell? ⟨blk, off + j, none⟩ = some (.string y) := by
      rcases rows_one hr hok with rfl | rfl
      · exact ⟨[], rfl, fun j y h => by simp at h⟩
      · exact cells_of_rows hr hok
    have hl : xs.length = ys.length := by rw [e, List.length_map]
    refine fin ys e (runValS hs hi h1 (natIn_mem hf) hb ys (by rw [← hl]; exact Nat.le_of_ble_eq_true hlen) fun x hx _ => ?_)
    rw [hx0] at hx
    have hx := Option.some.inj hx
    subst hx
    exact ⟨_, cap, by rw [hl], fun j y hj => ⟨blk, off, rfl, hy j y hj⟩⟩
  · rename_i t m off len cap ex hb hf
    split at hk
    case h_2 => cases hk
    rename_i t' cs ex' hm
    split at hk
    case h_2 => cases hk
    rename_i hle
    have hk := Option.some.inj hk
    subst hk
    have hle := Nat.le_of_ble_eq_true hle
    obtain ⟨x0, hx0, hv0, _⟩ := box_cell hs hb
    obtain ⟨arr, k1, k2, k3, k4, k5, k6, k7⟩ := hs.obj m _ hm
    obtain ⟨ys, e, hy⟩ := cells_of_list k7 ((cs.drop off).take len) off (fun j w hj => by
      have hjl : j < len := Nat.lt_of_lt_of_le (List.getElem?_eq_some_iff.1 hj).1 (by rw [List.length_take]; exact Nat.min_le_left _ _)
      rw [List.getElem?_take_of_lt hjl, List.getElem?_drop] at hj
      exact hj) hok
    have hl : ys.length = len := by
      have := congrArg List.length e
      simp only [List.length_map, List.length_take, List.length_drop] at this
      omega
    cases hv0 with
    | inl h => cases h
    | sl _ _ _ _ cap' h2 h3 h4 h5 =>
      refine fin ys e (runValS hs hi h1 (natIn_mem hf) hb ys (by
        have := Nat.le_of_ble_eq_true hlen
        rw [e, List.length_map] at this
        exact this) fun x hx _ => ?_)
      rw [hx0] at hx
      have hx := Option.some.inj hx
      subst hx
      exact ⟨_, cap', by rw [hl], fun j y hj => ⟨c.blk m, off, rfl, by
        have := hy j y hj
        simp [World.cell?, k1, this]⟩⟩
  · cases hk
theorem hSortedLab_ok {i : Ty} (hi : E.ty 34 = some i) (h1 : i.size = 2) : HspecOk Tryz.prog E 53 (hSortedLab 34 [95] [] 55) := by
  intro c vs xs v σ' hs hv h
  unfold hSortedLab at h
  split at h
  case h_2 => cases h
  rename_i x fo
  split at h
  case h_2 => cases h
  rename_i hfo
  have hfo := Nat.eq_of_beq_eq_true hfo
  subst hfo
  cases hv with
  | cons _ y _ zs hv1 hv2 =>
  cases hv2 with
  | cons _ y2 _ zs2 hv3 hv4 =>
  cases hv4
  have hy2 : y2 = .func (.func 55) #[] #[] := by
    cases hv3 with
    | inl h => cases h; rfl
    | fn _ _ _ a b ha hb => cases ha; cases hb; rfl
  subst hy2
  obtain ⟨rows, hk, hok, hlen, hres⟩ := hSorted_inv h
  have fin : ∀ (ys : List (Bool × ByteArray)), rows = ys.map absL → Runs Tryz.prog 53 [y, .func (.func 55) #[] #[]] c.w (fun x w' => (ys = [] → Back E c .nils c.σ x w') ∧ (ys ≠ [] → Back E c (.sl c.σ.length 0 ys.length none) (c.σ ++ [.cells 34 (sortK labLt (ys.map absL)).flatten false]) x w')) → Runs Tryz.prog 53 [y, .func (.func 55) #[] #[]] c.w (Back E c v σ') := by
    intro ys e hr
    refine hr.mono fun x w' ⟨k1, k2⟩ => ?_
    rcases hres with ⟨r0, rfl, rfl⟩ | ⟨r0, rfl, rfl⟩
    · exact k1 (by rw [e] at r0; simpa using r0)
    · have := k2 (fun e0 => r0 (by rw [e, e0]; rfl))
      rw [e, List.length_map]
      exact this
  unfold keysOf at hk
  split at hk
  case h_2 => cases hk
  rename_i f b
  have hy := fn_box hv1
  subst hy
  split at hk
  · rename_i hb hf
    split at hk
    case h_2 => cases hk
    rename_i es hm
    have hk := Option.some.inj hk
    subst hk
    obtain ⟨ys, e, hr⟩ := runMapL hs hi h1 (natIn_mem hf) hb (.inl ⟨_, rfl, hm⟩) hok hlen
    exact fin ys e hr
  · rename_i hb hf
    have hk := Option.some.inj hk
    subst hk
    obtain ⟨ys, e, hr⟩ := runMapL hs hi h1 (natIn_mem hf) hb (.inr ⟨_, rfl⟩) hok hlen
    exact fin ys e hr
  · rename_i hf; cases hf
  · rename_i hf; cases hf
  · rename_i hf; cases hf
  · cases hk
end
end Go.AxC
end
section
namespace Go.Proofs.YtmbhjdkbcgngiaaGreatDoor
open Go Go.Ax
theorem mixed : Tryz.prog.follows .mixedOrders = true := by kernel_rfl
noncomputable def bare : Ax.Ground Tryz.prog := { ground with hspec := .nil }
theorem lies : ∀ t, ground.lie t = true → liesAt Tryz.prog Tryz.prog.depth t 1 0 t 1 = true := by
  intro t h
  have h' : Nat.beq t 249 = true := h
  have e := Nat.eq_of_beq_eq_true h'
  subst e
  show liesAt Tryz.prog Tryz.prog.depth 249 1 0 249 1 = true
  kernel_rfl
theorem bareOk : GroundOk bare := ⟨tyTab_ok, fnTab_ok, eqTab_ok, lies, trivial⟩
theorem bareEnv : EnvOk Tryz.prog (bare.env .nil) := bareOk.envOk _
theorem bareFns : FnsOk Tryz.prog (bare.env .nil) := bareOk.fnsOk (s := .nil) trivial
theorem alikeB : Ax.Alike (bare.env .nil) (ground.env .nil) := ⟨rfl, rfl⟩
theorem sok233 : SpecOk Tryz.prog (ground.env .nil) 233 specIndexByte := specIndexByte_ok _
theorem sok155 : SpecOk Tryz.prog (ground.env .nil) 155 specSplit := specSplit_ok _ rfl
theorem sok273 : SpecOk Tryz.prog (ground.env .nil) 273 specCut := specCut_ok _ rfl
theorem sok131 : SpecOk Tryz.prog (ground.env .nil) 131 specBack :=
  (specBack_ok (E := bare.env .nil) bareEnv bareFns mixed (by kernel_rfl) (by kernel_rfl) (by kernel_rfl) (by kernel_rfl) (by kernel_rfl) (by kernel_rfl) (by kernel_rfl) (by kernel_rfl) (by kernel_rfl) (by kernel_rfl) (by kernel_rfl) (by kernel_rfl) (by kernel_rfl) (by kernel_rfl) (by kernel_rfl)).alike alikeB
theorem spec0_ok : specTab.All (SpecOk Tryz.prog (ground.env .nil)) := ⟨⟨sok131, sok155⟩, ⟨sok233, sok273⟩⟩
theorem hok64 : HspecOk Tryz.prog (ground.env .nil) 64 (hSortedStr 9 [105, 292] [226]) :=
  Go.AxC.hSortedStr_ok (i := ty9) (by kernel_rfl) (by kernel_rfl)
theorem hok53 : HspecOk Tryz.prog (ground.env .nil) 53 (hSortedLab 34 [95] [] 55) :=
  Go.AxC.hSortedLab_ok (i := ty34) (by kernel_rfl) (by kernel_rfl)
theorem hok99 : HspecOk Tryz.prog (ground.env .nil) 99 hCopy :=
  (hCopy_ok (E := bare.env .nil) bareEnv bareFns mixed (by kernel_rfl) (sz := ty101.size) (by_ := ty101.bytes) (zv := ty101.zero) (sz9 := ty9.size) (by9 := ty9.bytes) (z9 := ty9.zero) (by kernel_rfl) (by kernel_rfl)).alike alikeB
theorem hok283 : HspecOk Tryz.prog (ground.env .nil) 283 hEscape := hEscape_ok _
theorem hok285 : HspecOk Tryz.prog (ground.env .nil) 285 (hMake 5) := hMake_ok _ (i := ty5) (by kernel_rfl) (by kernel_rfl) Tryz.underlying5
theorem groundOk : GroundOk ground := ⟨tyTab_ok, fnTab_ok, eqTab_ok, lies, ⟨⟨hok53, hok64⟩, ⟨hok99, ⟨hok283, hok285⟩⟩⟩⟩
end Go.Proofs.YtmbhjdkbcgngiaaGreatDoor
end
section
namespace Go.Proofs.YtmbhjdkbcgngiaaGreatDoor
open Go Go.Ax
theorem sp0_ok : sp0.All (SpecOk Tryz.prog (ground.env .nil)) := ⟨⟨sok131, sok155⟩, ⟨sok233, sok273⟩⟩
theorem sok232 : SpecOk Tryz.prog (ground.env .nil) 232 (memoSpec t232) := groundOk.memo sp0_ok mixed (F := fnOf Tryz.f232) (by kernel_rfl) (.cons 100000 a232_0 (.cons 100000 a232_1 (.cons 100000 a232_2 (.cons 100000 a232_3 (.cons 100000 a232_4 (.cons 100000 a232_5 (.cons 100000 a232_6 (.cons 100000 a232_7 (.cons 100000 a232_8 (.cons 100000 a232_9 (.nil)))))))))))
theorem sp1_ok : sp1.All (SpecOk Tryz.prog (ground.env .nil)) := ⟨⟨sok131, sok155⟩, ⟨sok232, ⟨sok233, sok273⟩⟩⟩
theorem sok205 : SpecOk Tryz.prog (ground.env .nil) 205 (memoSpec t205) := groundOk.memo sp1_ok mixed (F := fnOf Tryz.f205) (by kernel_rfl) (.cons 100000 a205_0 (.cons 100000 a205_1 (.cons 100000 a205_2 (.cons 100000 a205_3 (.cons 100000 a205_4 (.cons 100000 a205_5 (.cons 100000 a205_6 (.cons 100000 a205_7 (.cons 100000 a205_8 (.cons 100000 a205_9 (.cons 100000 a205_10 (.nil))))))))))))
theorem sp2_ok : sp2.All (SpecOk Tryz.prog (ground.env .nil)) := ⟨⟨sok131, ⟨sok155, sok205⟩⟩, ⟨sok232, ⟨sok233, sok273⟩⟩⟩
theorem sok172 : SpecOk Tryz.prog (ground.env .nil) 172 (memoSpec t172) := groundOk.memo sp2_ok mixed (F := fnOf Tryz.f172) (by kernel_rfl) (.cons 100000 a172_0 (.cons 100000 a172_1 (.cons 100000 a172_2 (.cons 100000 a172_3 (.cons 100000 a172_4 (.cons 100000 a172_5 (.cons 100000 a172_6 (.cons 100000 a172_7 (.cons 100000 a172_8 (.cons 100000 a172_9 (.cons 100000 a172_10 (.cons 100000 a172_11 (.cons 100000 a172_12 (.cons 100000 a172_13 (.nil)))))))))))))))
theorem sp3_ok : sp3.All (SpecOk Tryz.prog (ground.env .nil)) := ⟨⟨sok131, ⟨sok155, sok172⟩⟩, ⟨⟨sok205, sok232⟩, ⟨sok233, sok273⟩⟩⟩
theorem sok185 : SpecOk Tryz.prog (ground.env .nil) 185 (memoSpec t185) := groundOk.memo sp3_ok mixed (F := fnOf Tryz.f185) (by kernel_rfl) (.cons 100000 a185_0 (.cons 100000 a185_1 (.cons 100000 a185_2 (.cons 100000 a185_3 (.cons 100000 a185_4 (.cons 100000 a185_5 (.cons 100000 a185_6 (.cons 100000 a185_7 (.cons 100000 a185_8 (.nil))))))))))
theorem sp4_ok : sp4.All (SpecOk Tryz.prog (ground.env .nil)) := ⟨⟨⟨sok131, sok155⟩, ⟨sok172, sok185⟩⟩, ⟨⟨sok205, sok232⟩, ⟨sok233, sok273⟩⟩⟩
theorem sok122 : SpecOk Tryz.prog (ground.env .nil) 122 (memoSpec t122) := groundOk.memo sp4_ok mixed (F := fnOf Tryz.f122) (by kernel_rfl) (.cons 100000 a122_0 (.cons 100000 a122_1 (.cons 100000 a122_2 (.cons 100000 a122_3 (.cons 100000 a122_4 (.cons 100000 a122_5 (.cons 100000 a122_6 (.nil))))))))
theorem sp5_ok : sp5.All (SpecOk Tryz.prog (ground.env .nil)) := ⟨⟨⟨sok122, sok131⟩, ⟨sok155, sok172⟩⟩, ⟨⟨sok185, sok205⟩, ⟨sok232, ⟨sok233, sok273⟩⟩⟩⟩
theorem sok188 : SpecOk Tryz.prog (ground.env .nil) 188 (memoSpec t188) := groundOk.memo sp5_ok mixed (F := fnOf Tryz.f188) (by kernel_rfl) (.cons 100000 a188_0 (.cons 100000 a188_1 (.cons 100000 a188_2 (.cons 100000 a188_3 (.cons 100000 a188_4 (.cons 100000 a188_5 (.cons 100000 a188_6 (.cons 100000 a188_7 (.cons 100000 a188_8 (.cons 100000 a188_9 (.nil)))))))))))
theorem sp6_ok : sp6.All (SpecOk Tryz.prog (ground.env .nil)) := ⟨⟨⟨sok122, sok131⟩, ⟨sok155, ⟨sok172, sok185⟩⟩⟩, ⟨⟨sok188, sok205⟩, ⟨sok232, ⟨sok233, sok273⟩⟩⟩⟩
theorem sok121 : SpecOk Tryz.prog (ground.env .nil) 121 (memoSpec t121) := groundOk.memo sp6_ok mixed (F := fnOf Tryz.f121) (by kernel_rfl) (.cons 100000 a121_0 (.cons 100000 a121_1 (.cons 100000 a121_2 (.cons 100000 a121_3 (.cons 100000 a121_4 (.nil))))))
theorem sp7_ok : sp7.All (SpecOk Tryz.prog (ground.env .nil)) := ⟨⟨⟨sok121, sok122⟩, ⟨sok131, ⟨sok155, sok172⟩⟩⟩, ⟨⟨sok185, ⟨sok188, sok205⟩⟩, ⟨sok232, ⟨sok233, sok273⟩⟩⟩⟩
theorem sok97 : SpecOk Tryz.prog (ground.env .nil) 97 (memoSpec t97) := groundOk.memo sp7_ok mixed (F := fnOf Tryz.f97) (by kernel_rfl) (.cons 100000 a97_0 (.cons 100000 a97_1 (.cons 100000 a97_2 (.nil))))
theorem sp8_ok : sp8.All (SpecOk Tryz.prog (ground.env .nil)) := ⟨⟨⟨sok97, ⟨sok121, sok122⟩⟩, ⟨sok131, ⟨sok155, sok172⟩⟩⟩, ⟨⟨sok185, ⟨sok188, sok205⟩⟩, ⟨sok232, ⟨sok233, sok273⟩⟩⟩⟩
theorem sok130 : SpecOk Tryz.prog (ground.env .nil) 130 (memoSpec t130) := groundOk.memo sp8_ok mixed (F := fnOf Tryz.f130) (by kernel_rfl) (.cons 100000 a130_0 (.cons 100000 a130_1 (.cons 100000 a130_2 (.nil))))
theorem sp9_ok : sp9.All (SpecOk Tryz.prog (ground.env .nil)) := ⟨⟨⟨sok97, ⟨sok121, sok122⟩⟩, ⟨sok130, ⟨sok131, sok155⟩⟩⟩, ⟨⟨sok172, ⟨sok185, sok188⟩⟩, ⟨⟨sok205, sok232⟩, ⟨sok233, sok273⟩⟩⟩⟩
theorem sok98 : SpecOk Tryz.prog (ground.env .nil) 98 (memoSpec t98) := groundOk.memo sp9_ok mixed (F := fnOf Tryz.f98) (by kernel_rfl) (.cons 100000 a98_0 (.cons 100000 a98_1 (.cons 100000 a98_2 (.nil))))
theorem sp10_ok : sp10.All (SpecOk Tryz.prog (ground.env .nil)) := ⟨⟨⟨sok97, ⟨sok98, sok121⟩⟩, ⟨⟨sok122, sok130⟩, ⟨sok131, sok155⟩⟩⟩, ⟨⟨sok172, ⟨sok185, sok188⟩⟩, ⟨⟨sok205, sok232⟩, ⟨sok233, sok273⟩⟩⟩⟩
theorem sok57 : SpecOk Tryz.prog (ground.env .nil) 57 (memoSpec t57) := groundOk.memo sp10_ok mixed (F := fnOf Tryz.f57) (by kernel_rfl) (.cons 100000 a57_0 (.cons 100000 a57_1 (.cons 100000 a57_2 (.nil))))
theorem sp11_ok : sp11.All (SpecOk Tryz.prog (ground.env .nil)) := ⟨⟨⟨sok57, ⟨sok97, sok98⟩⟩, ⟨⟨sok121, sok122⟩, ⟨sok130, sok131⟩⟩⟩, ⟨⟨⟨sok155, sok172⟩, ⟨sok185, sok188⟩⟩, ⟨⟨sok205, sok232⟩, ⟨sok233, sok273⟩⟩⟩⟩
theorem sok70 : SpecOk Tryz.prog (ground.env .nil) 70 (memoSpec t70) := groundOk.memo sp11_ok mixed (F := fnOf Tryz.f70) (by kernel_rfl) (.cons 100000 a70_0 (.cons 100000 a70_1 (.cons 100000 a70_2 (.nil))))
theorem sp12_ok : sp12.All (SpecOk Tryz.prog (ground.env .nil)) := ⟨⟨⟨⟨sok57, sok70⟩, ⟨sok97, sok98⟩⟩, ⟨⟨sok121, sok122⟩, ⟨sok130, sok131⟩⟩⟩, ⟨⟨⟨sok155, sok172⟩, ⟨sok185, sok188⟩⟩, ⟨⟨sok205, sok232⟩, ⟨sok233, sok273⟩⟩⟩⟩
theorem sok46 : SpecOk Tryz.prog (ground.env .nil) 46 (memoSpec t46) := groundOk.memo sp12_ok mixed (F := fnOf Tryz.f46) (by kernel_rfl) (.cons 100000 a46_0 (.nil))
theorem sp13_ok : sp13.All (SpecOk Tryz.prog (ground.env .nil)) := ⟨⟨⟨⟨sok46, sok57⟩, ⟨sok70, sok97⟩⟩, ⟨⟨sok98, sok121⟩, ⟨sok122, sok130⟩⟩⟩, ⟨⟨⟨sok131, sok155⟩, ⟨sok172, sok185⟩⟩, ⟨⟨sok188, sok205⟩, ⟨sok232, ⟨sok233, sok273⟩⟩⟩⟩⟩
theorem sok73 : SpecOk Tryz.prog (ground.env .nil) 73 (memoSpec t73) := groundOk.memo sp13_ok mixed (F := fnOf Tryz.f73) (by kernel_rfl) (.cons 100000 a73_0 (.nil))
theorem sp14_ok : sp14.All (SpecOk Tryz.prog (ground.env .nil)) := ⟨⟨⟨⟨sok46, sok57⟩, ⟨sok70, sok73⟩⟩, ⟨⟨sok97, sok98⟩, ⟨sok121, ⟨sok122, sok130⟩⟩⟩⟩, ⟨⟨⟨sok131, sok155⟩, ⟨sok172, sok185⟩⟩, ⟨⟨sok188, sok205⟩, ⟨sok232, ⟨sok233, sok273⟩⟩⟩⟩⟩
theorem sok42 : SpecOk Tryz.prog (ground.env .nil) 42 (memoSpec t42) := groundOk.memo sp14_ok mixed (F := fnOf Tryz.f42) (by kernel_rfl) (.cons 100000 a42_0 (.nil))
theorem sp15_ok : sp15.All (SpecOk Tryz.prog (ground.env .nil)) := ⟨⟨⟨⟨sok42, sok46⟩, ⟨sok57, sok70⟩⟩, ⟨⟨sok73, sok97⟩, ⟨sok98, ⟨sok121, sok122⟩⟩⟩⟩, ⟨⟨⟨sok130, sok131⟩, ⟨sok155, ⟨sok172, sok185⟩⟩⟩, ⟨⟨sok188, sok205⟩, ⟨sok232, ⟨sok233, sok273⟩⟩⟩⟩⟩
theorem sok47 : SpecOk Tryz.prog (ground.env .nil) 47 (memoSpec t47) := groundOk.memo sp15_ok mixed (F := fnOf Tryz.f47) (by kernel_rfl) (.cons 100000 a47_0 (.nil))
theorem sp16_ok : sp16.All (SpecOk Tryz.prog (ground.env .nil)) := ⟨⟨⟨⟨sok42, sok46⟩, ⟨sok47, ⟨sok57, sok70⟩⟩⟩, ⟨⟨sok73, sok97⟩, ⟨sok98, ⟨sok121, sok122⟩⟩⟩⟩, ⟨⟨⟨sok130, sok131⟩, ⟨sok155, ⟨sok172, sok185⟩⟩⟩, ⟨⟨sok188, sok205⟩, ⟨sok232, ⟨sok233, sok273⟩⟩⟩⟩⟩
theorem sok58 : SpecOk Tryz.prog (ground.env .nil) 58 (memoSpec t58) := groundOk.memo sp16_ok mixed (F := fnOf Tryz.f58) (by kernel_rfl) (.cons 100000 a58_0 (.nil))
theorem sp17_ok : sp17.All (SpecOk Tryz.prog (ground.env .nil)) := ⟨⟨⟨⟨sok42, sok46⟩, ⟨sok47, ⟨sok57, sok58⟩⟩⟩, ⟨⟨sok70, sok73⟩, ⟨sok97, ⟨sok98, sok121⟩⟩⟩⟩, ⟨⟨⟨sok122, sok130⟩, ⟨sok131, ⟨sok155, sok172⟩⟩⟩, ⟨⟨sok185, ⟨sok188, sok205⟩⟩, ⟨sok232, ⟨sok233, sok273⟩⟩⟩⟩⟩
theorem sok63 : SpecOk Tryz.prog (ground.env .nil) 63 (memoSpec t63) := groundOk.memo sp17_ok mixed (F := fnOf Tryz.f63) (by kernel_rfl) (.cons 100000 a63_0 (.nil))
theorem sp18_ok : sp18.All (SpecOk Tryz.prog (ground.env .nil)) := ⟨⟨⟨⟨sok42, sok46⟩, ⟨sok47, ⟨sok57, sok58⟩⟩⟩, ⟨⟨sok63, ⟨sok70, sok73⟩⟩, ⟨sok97, ⟨sok98, sok121⟩⟩⟩⟩, ⟨⟨⟨sok122, sok130⟩, ⟨sok131, ⟨sok155, sok172⟩⟩⟩, ⟨⟨sok185, ⟨sok188, sok205⟩⟩, ⟨sok232, ⟨sok233, sok273⟩⟩⟩⟩⟩
theorem sok50 : SpecOk Tryz.prog (ground.env .nil) 50 (memoSpec t50) := groundOk.memo sp18_ok mixed (F := fnOf Tryz.f50) (by kernel_rfl) (.cons 100000 a50_0 (.nil))
theorem sp19_ok : sp19.All (SpecOk Tryz.prog (ground.env .nil)) := ⟨⟨⟨⟨sok42, sok46⟩, ⟨sok47, ⟨sok50, sok57⟩⟩⟩, ⟨⟨sok58, ⟨sok63, sok70⟩⟩, ⟨sok73, ⟨sok97, sok98⟩⟩⟩⟩, ⟨⟨⟨sok121, ⟨sok122, sok130⟩⟩, ⟨sok131, ⟨sok155, sok172⟩⟩⟩, ⟨⟨sok185, ⟨sok188, sok205⟩⟩, ⟨sok232, ⟨sok233, sok273⟩⟩⟩⟩⟩
theorem sok24 : SpecOk Tryz.prog (ground.env .nil) 24 (memoSpec t24) := groundOk.memo sp19_ok mixed (F := fnOf Tryz.f24) (by kernel_rfl) (.cons 100000 a24_0 (.nil))
theorem sp20_ok : sp20.All (SpecOk Tryz.prog (ground.env .nil)) := ⟨⟨⟨⟨sok24, ⟨sok42, sok46⟩⟩, ⟨sok47, ⟨sok50, sok57⟩⟩⟩, ⟨⟨sok58, ⟨sok63, sok70⟩⟩, ⟨sok73, ⟨sok97, sok98⟩⟩⟩⟩, ⟨⟨⟨sok121, ⟨sok122, sok130⟩⟩, ⟨sok131, ⟨sok155, sok172⟩⟩⟩, ⟨⟨sok185, ⟨sok188, sok205⟩⟩, ⟨sok232, ⟨sok233, sok273⟩⟩⟩⟩⟩
theorem sok111 : SpecOk Tryz.prog (ground.env .nil) 111 (memoSpec t111) := groundOk.memo sp20_ok mixed (F := fnOf Tryz.f111) (by kernel_rfl) (.cons 100000 a111_0 (.cons 100000 a111_1 (.cons 100000 a111_2 (.nil))))
theorem sp21_ok : sp21.All (SpecOk Tryz.prog (ground.env .nil)) := ⟨⟨⟨⟨sok24, ⟨sok42, sok46⟩⟩, ⟨sok47, ⟨sok50, sok57⟩⟩⟩, ⟨⟨sok58, ⟨sok63, sok70⟩⟩, ⟨sok73, ⟨sok97, sok98⟩⟩⟩⟩, ⟨⟨⟨sok111, ⟨sok121, sok122⟩⟩, ⟨sok130, ⟨sok131, sok155⟩⟩⟩, ⟨⟨sok172, ⟨sok185, sok188⟩⟩, ⟨⟨sok205, sok232⟩, ⟨sok233, sok273⟩⟩⟩⟩⟩
theorem sok114 : SpecOk Tryz.prog (ground.env .nil) 114 (memoSpec t114) := groundOk.memo sp21_ok mixed (F := fnOf Tryz.f114) (by kernel_rfl) (.cons 100000 a114_0 (.nil))
theorem sp22_ok : sp22.All (SpecOk Tryz.prog (ground.env .nil)) := ⟨⟨⟨⟨sok24, ⟨sok42, sok46⟩⟩, ⟨sok47, ⟨sok50, sok57⟩⟩⟩, ⟨⟨sok58, ⟨sok63, sok70⟩⟩, ⟨⟨sok73, sok97⟩, ⟨sok98, sok111⟩⟩⟩⟩, ⟨⟨⟨sok114, ⟨sok121, sok122⟩⟩, ⟨sok130, ⟨sok131, sok155⟩⟩⟩, ⟨⟨sok172, ⟨sok185, sok188⟩⟩, ⟨⟨sok205, sok232⟩, ⟨sok233, sok273⟩⟩⟩⟩⟩
theorem sok175 : SpecOk Tryz.prog (ground.env .nil) 175 (memoSpec t175) := groundOk.memo sp22_ok mixed (F := fnOf Tryz.f175) (by kernel_rfl) (.cons 100000 a175_0 (.cons 100000 a175_1 (.cons 100000 a175_2 (.nil))))
theorem sp23_ok : sp23.All (SpecOk Tryz.prog (ground.env .nil)) := ⟨⟨⟨⟨sok24, ⟨sok42, sok46⟩⟩, ⟨sok47, ⟨sok50, sok57⟩⟩⟩, ⟨⟨sok58, ⟨sok63, sok70⟩⟩, ⟨⟨sok73, sok97⟩, ⟨sok98, sok111⟩⟩⟩⟩, ⟨⟨⟨sok114, ⟨sok121, sok122⟩⟩, ⟨⟨sok130, sok131⟩, ⟨sok155, sok172⟩⟩⟩, ⟨⟨sok175, ⟨sok185, sok188⟩⟩, ⟨⟨sok205, sok232⟩, ⟨sok233, sok273⟩⟩⟩⟩⟩
theorem sok176 : SpecOk Tryz.prog (ground.env .nil) 176 (memoSpec t176) := groundOk.memo sp23_ok mixed (F := fnOf Tryz.f176) (by kernel_rfl) (.cons 100000 a176_0 (.cons 100000 a176_1 (.nil)))
theorem sp24_ok : sp24.All (SpecOk Tryz.prog (ground.env .nil)) := ⟨⟨⟨⟨sok24, ⟨sok42, sok46⟩⟩, ⟨⟨sok47, sok50⟩, ⟨sok57, sok58⟩⟩⟩, ⟨⟨sok63, ⟨sok70, sok73⟩⟩, ⟨⟨sok97, sok98⟩, ⟨sok111, sok114⟩⟩⟩⟩, ⟨⟨⟨sok121, ⟨sok122, sok130⟩⟩, ⟨⟨sok131, sok155⟩, ⟨sok172, sok175⟩⟩⟩, ⟨⟨sok176, ⟨sok185, sok188⟩⟩, ⟨⟨sok205, sok232⟩, ⟨sok233, sok273⟩⟩⟩⟩⟩
theorem sok179 : SpecOk Tryz.prog (ground.env .nil) 179 (memoSpec t179) := groundOk.memo sp24_ok mixed (F := fnOf Tryz.f179) (by kernel_rfl) (.cons 100000 a179_0 (.nil))
theorem sp25_ok : sp25.All (SpecOk Tryz.prog (ground.env .nil)) := ⟨⟨⟨⟨sok24, ⟨sok42, sok46⟩⟩, ⟨⟨sok47, sok50⟩, ⟨sok57, sok58⟩⟩⟩, ⟨⟨sok63, ⟨sok70, sok73⟩⟩, ⟨⟨sok97, sok98⟩, ⟨sok111, sok114⟩⟩⟩⟩, ⟨⟨⟨sok121, ⟨sok122, sok130⟩⟩, ⟨⟨sok131, sok155⟩, ⟨sok172, sok175⟩⟩⟩, ⟨⟨⟨sok176, sok179⟩, ⟨sok185, sok188⟩⟩, ⟨⟨sok205, sok232⟩, ⟨sok233, sok273⟩⟩⟩⟩⟩
theorem sok210 : SpecOk Tryz.prog (ground.env .nil) 210 (memoSpec t210) := groundOk.memo sp25_ok mixed (F := fnOf Tryz.f210) (by kernel_rfl) (.cons 100000 a210_0 (.nil))
theorem sp26_ok : sp26.All (SpecOk Tryz.prog (ground.env .nil)) := ⟨⟨⟨⟨sok24, ⟨sok42, sok46⟩⟩, ⟨⟨sok47, sok50⟩, ⟨sok57, sok58⟩⟩⟩, ⟨⟨⟨sok63, sok70⟩, ⟨sok73, sok97⟩⟩, ⟨⟨sok98, sok111⟩, ⟨sok114, sok121⟩⟩⟩⟩, ⟨⟨⟨sok122, ⟨sok130, sok131⟩⟩, ⟨⟨sok155, sok172⟩, ⟨sok175, sok176⟩⟩⟩, ⟨⟨⟨sok179, sok185⟩, ⟨sok188, sok205⟩⟩, ⟨⟨sok210, sok232⟩, ⟨sok233, sok273⟩⟩⟩⟩⟩
theorem sok147 : SpecOk Tryz.prog (ground.env .nil) 147 (memoSpec t147) := groundOk.memo sp26_ok mixed (F := fnOf Tryz.f147) (by kernel_rfl) (.cons 100000 a147_0 (.nil))
theorem sp27_ok : sp27.All (SpecOk Tryz.prog (ground.env .nil)) := ⟨⟨⟨⟨sok24, ⟨sok42, sok46⟩⟩, ⟨⟨sok47, sok50⟩, ⟨sok57, sok58⟩⟩⟩, ⟨⟨⟨sok63, sok70⟩, ⟨sok73, sok97⟩⟩, ⟨⟨sok98, sok111⟩, ⟨sok114, sok121⟩⟩⟩⟩, ⟨⟨⟨⟨sok122, sok130⟩, ⟨sok131, sok147⟩⟩, ⟨⟨sok155, sok172⟩, ⟨sok175, sok176⟩⟩⟩, ⟨⟨⟨sok179, sok185⟩, ⟨sok188, sok205⟩⟩, ⟨⟨sok210, sok232⟩, ⟨sok233, sok273⟩⟩⟩⟩⟩
theorem sok87 : SpecOk Tryz.prog (ground.env .nil) 87 (memoSpec t87) := groundOk.memo sp27_ok mixed (F := fnOf Tryz.f87) (by kernel_rfl) (.cons 100000 a87_0 (.nil))
theorem sp28_ok : sp28.All (SpecOk Tryz.prog (ground.env .nil)) := ⟨⟨⟨⟨⟨sok24, sok42⟩, ⟨sok46, sok47⟩⟩, ⟨⟨sok50, sok57⟩, ⟨sok58, sok63⟩⟩⟩, ⟨⟨⟨sok70, sok73⟩, ⟨sok87, sok97⟩⟩, ⟨⟨sok98, sok111⟩, ⟨sok114, sok121⟩⟩⟩⟩, ⟨⟨⟨⟨sok122, sok130⟩, ⟨sok131, sok147⟩⟩, ⟨⟨sok155, sok172⟩, ⟨sok175, sok176⟩⟩⟩, ⟨⟨⟨sok179, sok185⟩, ⟨sok188, sok205⟩⟩, ⟨⟨sok210, sok232⟩, ⟨sok233, sok273⟩⟩⟩⟩⟩
theorem sok72 : SpecOk Tryz.prog (ground.env .nil) 72 (memoSpec t72) := groundOk.memo sp28_ok mixed (F := fnOf Tryz.f72) (by kernel_rfl) (.cons 100000 a72_0 (.cons 100000 a72_1 (.cons 100000 a72_2 (.cons 100000 a72_3 (.cons 100000 a72_4 (.nil))))))
theorem sp29_ok : sp29.All (SpecOk Tryz.prog (ground.env .nil)) := ⟨⟨⟨⟨⟨sok24, sok42⟩, ⟨sok46, sok47⟩⟩, ⟨⟨sok50, sok57⟩, ⟨sok58, sok63⟩⟩⟩, ⟨⟨⟨sok70, sok72⟩, ⟨sok73, sok87⟩⟩, ⟨⟨sok97, sok98⟩, ⟨sok111, sok114⟩⟩⟩⟩, ⟨⟨⟨⟨sok121, sok122⟩, ⟨sok130, sok131⟩⟩, ⟨⟨sok147, sok155⟩, ⟨sok172, sok175⟩⟩⟩, ⟨⟨⟨sok176, sok179⟩, ⟨sok185, sok188⟩⟩, ⟨⟨sok205, sok210⟩, ⟨sok232, ⟨sok233, sok273⟩⟩⟩⟩⟩⟩
theorem sok79 : SpecOk Tryz.prog (ground.env .nil) 79 (memoSpec t79) := groundOk.memo sp29_ok mixed (F := fnOf Tryz.f79) (by kernel_rfl) (.cons 100000 a79_0 (.nil))
theorem sp30_ok : sp30.All (SpecOk Tryz.prog (ground.env .nil)) := ⟨⟨⟨⟨⟨sok24, sok42⟩, ⟨sok46, sok47⟩⟩, ⟨⟨sok50, sok57⟩, ⟨sok58, sok63⟩⟩⟩, ⟨⟨⟨sok70, sok72⟩, ⟨sok73, sok79⟩⟩, ⟨⟨sok87, sok97⟩, ⟨sok98, ⟨sok111, sok114⟩⟩⟩⟩⟩, ⟨⟨⟨⟨sok121, sok122⟩, ⟨sok130, sok131⟩⟩, ⟨⟨sok147, sok155⟩, ⟨sok172, sok175⟩⟩⟩, ⟨⟨⟨sok176, sok179⟩, ⟨sok185, sok188⟩⟩, ⟨⟨sok205, sok210⟩, ⟨sok232, ⟨sok233, sok273⟩⟩⟩⟩⟩⟩
theorem sok9 : SpecOk Tryz.prog (ground.env .nil) 9 (memoSpec t9) := groundOk.memo sp30_ok mixed (F := fnOf Tryz.f9) (by kernel_rfl) (.cons 100000 a9_0 (.nil))
theorem sp31_ok : sp31.All (SpecOk Tryz.prog (ground.env .nil)) := ⟨⟨⟨⟨⟨sok9, sok24⟩, ⟨sok42, sok46⟩⟩, ⟨⟨sok47, sok50⟩, ⟨sok57, sok58⟩⟩⟩, ⟨⟨⟨sok63, sok70⟩, ⟨sok72, sok73⟩⟩, ⟨⟨sok79, sok87⟩, ⟨sok97, ⟨sok98, sok111⟩⟩⟩⟩⟩, ⟨⟨⟨⟨sok114, sok121⟩, ⟨sok122, sok130⟩⟩, ⟨⟨sok131, sok147⟩, ⟨sok155, ⟨sok172, sok175⟩⟩⟩⟩, ⟨⟨⟨sok176, sok179⟩, ⟨sok185, sok188⟩⟩, ⟨⟨sok205, sok210⟩, ⟨sok232, ⟨sok233, sok273⟩⟩⟩⟩⟩⟩
end Go.Proofs.YtmbhjdkbcgngiaaGreatDoor
end
section
namespace Go.Ax
open Go
set_option linter.unusedVariables false
set_option linter.unusedSimpArgs false
/-! ### more fuel, the same answer -/
def RunLe (r r' : Run) : Prop := ∀ c fr σ x, r c fr σ = some x → r' c fr σ = some x
section
variable {E : Env} {r r' : Run}
theorem enter_mono (h : RunLe r r') {F : Fn} {args : List V} {σ : Sg} {x : V × Sg} (he : enter E r F args σ = some x) : enter E r' F args σ = some x := by
  unfold enter at he ⊢
  cases hi : Fr.init F.ntmps args with
  | none => rw [hi] at he; cases he
  | some fr =>
    rw [hi] at he
    dsimp only at he ⊢
    cases hr : r F.code fr σ with
    | none => rw [hr] at he; cases he
    | some y => rw [h _ _ _ _ hr]; rw [hr] at he; exact he
theorem callF_mono (h : RunLe r r') {f : Nat} {args : List V} {σ : Sg} {x : V × Sg} (he : callF E r f args σ = some x) : callF E r' f args σ = some x := by
  unfold callF at he ⊢
  cases h1 : E.hspec f with
  | some s => rw [h1] at he; exact he
  | none =>
  rw [h1] at he
  dsimp only at he ⊢
  cases h2 : E.spec f with
  | some s => rw [h2] at he; exact he
  | none =>
  rw [h2] at he
  dsimp only at he ⊢
  cases h3 : E.fn f with
  | none => rw [h3] at he; cases he
  | some F =>
  rw [h3] at he
  dsimp only at he ⊢
  have iso : ∀ (g : Bool), (match mapO (snapV σ E.ty g) args with
        | some args' => match enter E r F args' [] with
          | some (v, σ1) => match snapT σ1 E.ty false v with
            | some v => some (v, if g then σ else kill σ (args.flatMap (blocksV σ)))
            | none => no ("result of function " ++ toString f)
          | none => no ("in function " ++ toString f)
        | none => no ("args of function " ++ toString f)) = some x → (match mapO (snapV σ E.ty g) args with
        | some args' => match enter E r' F args' [] with
          | some (v, σ1) => match snapT σ1 E.ty false v with
            | some v => some (v, if g then σ else kill σ (args.flatMap (blocksV σ)))
            | none => no ("result of function " ++ toString f)
          | none => no ("in function " ++ toString f)
        | none => no ("args of function " ++ toString f)) = some x := by
    intro g he
    cases h4 : mapO (snapV σ E.ty g) args with
    | none => rw [h4] at he; cases he
    | some args' =>
      rw [h4] at he
      dsimp only at he ⊢
      cases h5 : enter E r F args' [] with
      | none => rw [h5] at he; cases he
      | some y => rw [enter_mono h h5]; rw [h5] at he; exact he
  cases hm : E.mode f with
  | shared =>
    rw [hm] at he
    dsimp only at he ⊢
    cases h5 : enter E r F args σ with
    | none => rw [h5] at he; cases he
    | some y => rw [enter_mono h h5]; rw [h5] at he; exact he
  | iso => rw [hm] at he; exact iso _ he
  | move => rw [hm] at he; exact iso _ he
theorem opW_mono (h : RunLe r r') {dr : Bool} {op : Op} {fr : Fr} {σ : Sg} {x : V × Sg} (he : opW E r dr op fr σ = some x) : opW E r' dr op fr σ = some x := by
  unfold opW at he ⊢
  cases hc : comp E op with
  | plain f => rw [hc] at he; exact he
  | lit t len parts => rw [hc] at he; exact he
  | call f args =>
    rw [hc] at he
    dsimp only at he ⊢
    split at he
    · exact callF_mono h he
    · cases he
theorem stepO_mono (h : RunLe r r') {dr : Bool} {ops : Array Oper} {o : Oper} {fr : Fr} {σ : Sg} {x : Fr × Sg} (he : stepO E r dr ops o fr σ = some x) : stepO E r' dr ops o fr σ = some x := by
  unfold stepO at he ⊢
  split at he
  · rename_i hw
    rw [if_pos hw]
    cases ho : opW E r dr o.op fr σ with
    | none => rw [ho] at he; cases he
    | some y => rw [opW_mono h ho]; rw [ho] at he; exact he
  · rename_i hw
    rw [if_neg hw]; exact he
theorem evOps_mono (h : RunLe r r') {dr : Bool} {ops : Array Oper} : ∀ {l : List Oper} {fr : Fr} {σ : Sg} {x : Fr × Sg}, evOps E r dr ops l fr σ = some x → evOps E r' dr ops l fr σ = some x
  | [], _, _, _, he => he
  | o :: l, fr, σ, x, he => by
    rw [evOps] at he ⊢
    cases ho : stepO E r dr ops o fr σ with
    | none => rw [ho] at he; cases he
    | some y => rw [stepO_mono h ho]; rw [ho] at he; exact evOps_mono h he
theorem trail_mono (h : RunLe r r') {dr : Bool} {ops : Array Oper} : ∀ {l : List Oper} {fr : Fr} {σ : Sg} {x : List (Fr × Sg)}, trail E r dr ops l fr σ = some x → trail E r' dr ops l fr σ = some x
  | [], _, _, _, he => he
  | o :: l, fr, σ, x, he => by
    rw [trail] at he ⊢
    cases ho : stepO E r dr ops o fr σ with
    | none => rw [ho] at he; cases he
    | some y =>
      rw [stepO_mono h ho]; rw [ho] at he
      dsimp only at he ⊢
      cases ht : trail E r dr ops l y.1 y.2 with
      | none => rw [ht] at he; cases he
      | some z => rw [trail_mono h ht]; rw [ht] at he; exact he
theorem again_mono (h : RunLe r r') {dr : Bool} {ops : Array Oper} {o : Oper} {fr : Fr} {σ τ : Sg} (he : again E r dr ops o fr σ τ = true) : again E r' dr ops o fr σ τ = true := by
  unfold again at he ⊢
  rw [Bool.or_eq_true] at he ⊢
  refine he.imp id fun he => ?_
  cases h1 : opW E r dr o.op fr σ with
  | none => rw [h1] at he; cases he
  | some y =>
    rw [h1] at he
    rw [opW_mono h h1]
    cases h2 : opW E r dr o.op fr τ with
    | none => rw [h2] at he; cases he
    | some z => rw [h2] at he; rw [opW_mono h h2]; exact he
theorem needOk_mono (h : RunLe r r') {dr : Bool} {ops : Array Oper} {ts : List (Fr × Sg)} {d : Need} (he : needOk E r dr ops ts d = true) : needOk E r' dr ops ts d = true := by
  unfold needOk at he ⊢
  split at he
  · simp only [Bool.and_eq_true, Bool.or_eq_true] at he ⊢
    exact ⟨he.1.imp id (again_mono h), he.2.imp id (again_mono h)⟩
  · cases he
theorem evDraw_mono (h : RunLe r r') {ops : Array Oper} {fr : Fr} {σ : Sg} {x : Fr × Sg} (he : evDraw E r ops fr σ = some x) : evDraw E r' ops fr σ = some x := by
  unfold evDraw at he ⊢
  split at he
  · cases he
  · exact evOps_mono h he
  · rename_i l hn e
    cases ht : trail E r (frzOf E ops) ops ops.toList fr σ with
    | none => rw [ht] at he; cases he
    | some ts =>
      rw [ht] at he
      rw [trail_mono h ht]
      dsimp only at he ⊢
      split at he
      · rename_i hl
        rw [if_pos]
        · cases l with
          | nil => exact absurd rfl (hn ·)
          | cons d l => exact he
        · rw [List.all_eq_true] at hl ⊢
          exact fun d hd => needOk_mono h (hl d hd)
      · cases he
end
theorem ev_mono1 (E : Env) : ∀ n, RunLe (ev E n) (ev E (n + 1))
  | 0 => fun c fr σ x h => by rw [ev] at h; cases h
  | n + 1 => fun c fr σ x h => by
    have ih := ev_mono1 E n
    cases c with
    | skip => rw [ev] at h ⊢; exact h
    | exit id => rw [ev] at h ⊢; exact h
    | ret => rw [ev] at h ⊢; exact h
    | seq a b =>
      rw [ev] at h ⊢
      try dsimp only at h ⊢
      cases ha : ev E n a fr σ with
      | none => rw [ha] at h; cases h
      | some y =>
        rw [ih _ _ _ _ ha]; rw [ha] at h
        obtain ⟨x1, fr1, σ1⟩ := y
        cases x1 with
        | normal => exact ih _ _ _ _ h
        | exit id => cases h; rfl
        | ret => cases h; rfl
    | cond c t e =>
      rw [ev] at h ⊢
      try dsimp only at h ⊢
      split at h
      · exact ih _ _ _ _ h
      · exact ih _ _ _ _ h
      · cases h
    | block id a =>
      rw [ev] at h ⊢
      try dsimp only at h ⊢
      cases ha : ev E n a fr σ with
      | none => rw [ha] at h; cases h
      | some y => rw [ih _ _ _ _ ha]; rw [ha] at h; exact h
    | loop a =>
      rw [ev] at h ⊢
      try dsimp only at h ⊢
      cases ha : ev E n a fr σ with
      | none => rw [ha] at h; cases h
      | some y =>
        rw [ih _ _ _ _ ha]; rw [ha] at h
        obtain ⟨x1, fr1, σ1⟩ := y
        cases x1 with
        | normal => exact ih _ _ _ _ h
        | exit id => cases h; rfl
        | ret => cases h; rfl
    | region id ops draw =>
      rw [ev] at h ⊢
      try dsimp only at h ⊢
      cases draw with
      | true =>
        simp only [if_true] at h ⊢
        cases ha : evDraw E (ev E n) ops fr σ with
        | none => rw [ha] at h; cases h
        | some y => rw [evDraw_mono ih ha]; rw [ha] at h; exact h
      | false =>
        simp only [Bool.false_eq_true, if_false] at h ⊢
        cases ha : evOps E (ev E n) false ops ops.toList fr σ with
        | none => rw [ha] at h; cases h
        | some y => rw [evOps_mono ih ha]; rw [ha] at h; exact h
    | _ => unfold ev at h; cases h
theorem ev_mono (E : Env) {n m : Nat} (h : n ≤ m) : RunLe (ev E n) (ev E m) := by
  induction m with
  | zero => obtain rfl : n = 0 := by omega
            exact fun _ _ _ _ h => h
  | succ m ih =>
    by_cases e : n = m + 1
    · subst e; exact fun _ _ _ _ h => h
    · exact fun c fr σ x hx => ev_mono1 E m _ _ _ _ (ih (by omega) c fr σ x hx)
theorem call_mono {E : Env} {n m f : Nat} {args : List V} {v : V} (h : n ≤ m) (hc : Ax.call E n f args = some v) : Ax.call E m f args = some v := by
  unfold Ax.call at hc ⊢
  cases hf : E.fn f with
  | none => rw [hf] at hc; cases hc
  | some F =>
    rw [hf] at hc
    dsimp only at hc ⊢
    cases he : enter E (ev E n) F args [] with
    | none => rw [he] at hc; cases hc
    | some y => rw [enter_mono (ev_mono E h) he]; rw [he] at hc; exact hc

/-! ### the transformer -/
/-- some fuel is enough, and what comes out is as wanted -/
def Wp (E : Env) (c : Code) (fr : Fr) (σ : Sg) (Q : X → Fr → Sg → Prop) : Prop := ∃ n x fr' σ', ev E n c fr σ = some (x, fr', σ') ∧ Q x fr' σ'
def WpOps (E : Env) (ops : Array Oper) (l : List Oper) (fr : Fr) (σ : Sg) (Q : Fr → Sg → Prop) : Prop := ∃ n fr' σ', evOps E (ev E n) false ops l fr σ = some (fr', σ') ∧ Q fr' σ'
def WpDraw (E : Env) (ops : Array Oper) (fr : Fr) (σ : Sg) (Q : Fr → Sg → Prop) : Prop := ∃ n fr' σ', evDraw E (ev E n) ops fr σ = some (fr', σ') ∧ Q fr' σ'
def WpOp (E : Env) (op : Op) (fr : Fr) (σ : Sg) (K : V → Sg → Prop) : Prop := ∃ n v σ', opW E (ev E n) false op fr σ = some (v, σ') ∧ K v σ'
def WpCall (E : Env) (f : Nat) (args : List V) (σ : Sg) (K : V → Sg → Prop) : Prop := ∃ n v σ', callF E (ev E n) f args σ = some (v, σ') ∧ K v σ'
section
variable {E : Env} {fr : Fr} {σ : Sg} {Q : X → Fr → Sg → Prop}
theorem Wp.of {n : Nat} {c : Code} {x : X} {fr' : Fr} {σ' : Sg} (h : ev E n c fr σ = some (x, fr', σ')) (hq : Q x fr' σ') : Wp E c fr σ Q := ⟨n, x, fr', σ', h, hq⟩
theorem Wp.mono {Q' : X → Fr → Sg → Prop} {c : Code} (h : Wp E c fr σ Q) (hq : ∀ x fr σ, Q x fr σ → Q' x fr σ) : Wp E c fr σ Q' := by
  obtain ⟨n, x, fr', σ', h1, h2⟩ := h
  exact ⟨n, x, fr', σ', h1, hq _ _ _ h2⟩
theorem wp_skip : Wp E .skip fr σ Q = Q .normal fr σ := propext ⟨fun ⟨n, x, fr', σ', h, hq⟩ => by
  cases n with
  | zero => cases h
  | succ n => rw [ev] at h; cases h; exact hq, fun h => ⟨1, _, _, _, rfl, h⟩⟩
theorem wp_exit {id : Nat} : Wp E (.exit id) fr σ Q = Q (.exit id) fr σ := propext ⟨fun ⟨n, x, fr', σ', h, hq⟩ => by
  cases n with
  | zero => cases h
  | succ n => rw [ev] at h; cases h; exact hq, fun h => ⟨1, _, _, _, rfl, h⟩⟩
theorem wp_ret : Wp E .ret fr σ Q = Q .ret fr σ := propext ⟨fun ⟨n, x, fr', σ', h, hq⟩ => by
  cases n with
  | zero => cases h
  | succ n => rw [ev] at h; cases h; exact hq, fun h => ⟨1, _, _, _, rfl, h⟩⟩
theorem wp_seq {a b : Code} : Wp E (.seq a b) fr σ Q = Wp E a fr σ fun x fr σ => match x with
    | .normal => Wp E b fr σ Q
    | x => Q x fr σ := propext ⟨fun ⟨n, x, fr', σ', h, hq⟩ => by
  cases n with
  | zero => cases h
  | succ n =>
    rw [ev] at h
    try dsimp only at h
    cases ha : ev E n a fr σ with
    | none => rw [ha] at h; cases h
    | some y =>
      rw [ha] at h
      obtain ⟨x1, fr1, σ1⟩ := y
      refine ⟨n, x1, fr1, σ1, ha, ?_⟩
      cases x1 with
      | normal => exact ⟨n, x, fr', σ', h, hq⟩
      | _ => cases h; exact hq, fun ⟨n, x, fr1, σ1, h, hq⟩ => by
  cases x with
  | normal =>
    obtain ⟨m, x, fr', σ', h2, hq⟩ := hq
    refine ⟨max n m + 1, x, fr', σ', ?_, hq⟩
    rw [ev]
    try dsimp only
    rw [ev_mono E (Nat.le_max_left n m) _ _ _ _ h]
    exact ev_mono E (Nat.le_max_right n m) _ _ _ _ h2
  | exit id => exact ⟨n + 1, _, fr1, σ1, by rw [ev]; (try dsimp only); rw [h], hq⟩
  | ret => exact ⟨n + 1, _, fr1, σ1, by rw [ev]; (try dsimp only); rw [h], hq⟩⟩
theorem wp_cond {c : Operand} {t e : Code} : Wp E (.cond c t e) fr σ Q = match evalO fr c with
    | some (.bool true) => Wp E t fr σ Q
    | some (.bool false) => Wp E e fr σ Q
    | _ => False := by
  apply propext
  constructor
  · rintro ⟨n, x, fr', σ', h, hq⟩
    cases n with
    | zero => cases h
    | succ n =>
      rw [ev] at h
      try dsimp only at h
      split at h
      · rename_i e1
        rw [e1]; exact ⟨n, _, _, _, h, hq⟩
      · rename_i e1
        rw [e1]; exact ⟨n, _, _, _, h, hq⟩
      · cases h
  · intro h
    split at h
    · rename_i e1
      obtain ⟨n, x, fr', σ', h, hq⟩ := h
      refine ⟨n + 1, x, fr', σ', ?_, hq⟩
      rw [ev]; (try dsimp only); rw [e1]; exact h
    · rename_i e1
      obtain ⟨n, x, fr', σ', h, hq⟩ := h
      refine ⟨n + 1, x, fr', σ', ?_, hq⟩
      rw [ev]; (try dsimp only); rw [e1]; exact h
    · exact h.elim
theorem wp_block {id : Nat} {c : Code} : Wp E (.block id c) fr σ Q = Wp E c fr σ fun x fr σ => match x with
    | .exit id' => if id' = id then Q .normal fr σ else Q (.exit id') fr σ
    | x => Q x fr σ := propext ⟨fun ⟨n, x, fr', σ', h, hq⟩ => by
  cases n with
  | zero => cases h
  | succ n =>
    rw [ev] at h
    try dsimp only at h
    cases ha : ev E n c fr σ with
    | none => rw [ha] at h; cases h
    | some y =>
      rw [ha] at h
      obtain ⟨x1, fr1, σ1⟩ := y
      refine ⟨n, x1, fr1, σ1, ha, ?_⟩
      cases x1 with
      | exit id' =>
        try dsimp only at h ⊢
        split at h
        · rename_i e; rw [if_pos e]; cases h; exact hq
        · rename_i e; rw [if_neg e]; cases h; exact hq
      | _ => cases h; exact hq, fun ⟨n, x, fr1, σ1, h, hq⟩ => by
  cases x with
  | exit id' =>
    try dsimp only at hq
    split at hq
    · rename_i e; exact ⟨n + 1, _, fr1, σ1, by rw [ev]; (try dsimp only); rw [h]; (try dsimp only); rw [if_pos e], hq⟩
    · rename_i e; exact ⟨n + 1, _, fr1, σ1, by rw [ev]; (try dsimp only); rw [h]; (try dsimp only); rw [if_neg e], hq⟩
  | normal => exact ⟨n + 1, _, fr1, σ1, by rw [ev]; (try dsimp only); rw [h], hq⟩
  | ret => exact ⟨n + 1, _, fr1, σ1, by rw [ev]; (try dsimp only); rw [h], hq⟩⟩
theorem wp_loop {c : Code} : Wp E (.loop c) fr σ Q = Wp E c fr σ fun x fr σ => match x with
    | .normal => Wp E (.loop c) fr σ Q
    | x => Q x fr σ := propext ⟨fun ⟨n, x, fr', σ', h, hq⟩ => by
  cases n with
  | zero => cases h
  | succ n =>
    rw [ev] at h
    try dsimp only at h
    cases ha : ev E n c fr σ with
    | none => rw [ha] at h; cases h
    | some y =>
      rw [ha] at h
      obtain ⟨x1, fr1, σ1⟩ := y
      refine ⟨n, x1, fr1, σ1, ha, ?_⟩
      cases x1 with
      | normal => exact ⟨n, x, fr', σ', h, hq⟩
      | _ => cases h; exact hq, fun ⟨n, x, fr1, σ1, h, hq⟩ => by
  cases x with
  | normal =>
    obtain ⟨m, x, fr', σ', h2, hq⟩ := hq
    refine ⟨max n m + 1, x, fr', σ', ?_, hq⟩
    rw [ev]
    try dsimp only
    rw [ev_mono E (Nat.le_max_left n m) _ _ _ _ h]
    exact ev_mono E (Nat.le_max_right n m) _ _ _ _ h2
  | exit id => exact ⟨n + 1, _, fr1, σ1, by rw [ev]; (try dsimp only); rw [h], hq⟩
  | ret => exact ⟨n + 1, _, fr1, σ1, by rw [ev]; (try dsimp only); rw [h], hq⟩⟩
theorem wp_reg {id : Nat} {ops : Array Oper} : Wp E (.region id ops false) fr σ Q = WpOps E ops ops.toList fr σ (Q .normal) := propext ⟨fun ⟨n, x, fr', σ', h, hq⟩ => by
  cases n with
  | zero => cases h
  | succ n =>
    rw [ev] at h
    simp only [Bool.false_eq_true, if_false] at h
    cases ha : evOps E (ev E n) false ops ops.toList fr σ with
    | none => rw [ha] at h; cases h
    | some y => rw [ha] at h; cases h; exact ⟨n, _, _, ha, hq⟩, fun ⟨n, fr1, σ1, h, hq⟩ => ⟨n + 1, _, fr1, σ1, by rw [ev]; simp only [Bool.false_eq_true, if_false]; rw [h], hq⟩⟩
theorem wp_draw {id : Nat} {ops : Array Oper} : Wp E (.region id ops true) fr σ Q = WpDraw E ops fr σ (Q .normal) := propext ⟨fun ⟨n, x, fr', σ', h, hq⟩ => by
  cases n with
  | zero => cases h
  | succ n =>
    rw [ev] at h
    simp only [if_true] at h
    cases ha : evDraw E (ev E n) ops fr σ with
    | none => rw [ha] at h; cases h
    | some y => rw [ha] at h; cases h; exact ⟨n, _, _, ha, hq⟩, fun ⟨n, fr1, σ1, h, hq⟩ => ⟨n + 1, _, fr1, σ1, by rw [ev]; simp only [if_true]; rw [h], hq⟩⟩
/-- a drawn region whose plan asks for nothing -/
theorem wpDraw_plain {ops : Array Oper} {Q : Fr → Sg → Prop} (hs : frzOf E ops = false) (hp : drawPlan E false ops = some []) : WpDraw E ops fr σ Q = WpOps E ops ops.toList fr σ Q := by
  unfold WpDraw WpOps evDraw
  rw [hs, hp]
section
variable {ops : Array Oper} {Q : Fr → Sg → Prop}
theorem wpOps_nil : WpOps E ops [] fr σ Q = Q fr σ := propext ⟨fun ⟨n, fr', σ', h, hq⟩ => by rw [evOps] at h; cases h; exact hq, fun h => ⟨0, fr, σ, rfl, h⟩⟩
theorem wpOps_cons {o : Oper} {l : List Oper} : WpOps E ops (o :: l) fr σ Q = if wants ops o fr = true then WpOp E o.op fr σ (fun v σ => WpOps E ops l (putS fr o.dst v) σ Q) else WpOps E ops l (putS fr o.dst .undef) σ Q := by
  by_cases hw : wants ops o fr = true
  · rw [if_pos hw]
    refine propext ⟨fun ⟨n, fr', σ', h, hq⟩ => ?_, fun ⟨n, v, σ1, h, m, fr', σ', h2, hq⟩ => ?_⟩
    · rw [evOps] at h
      unfold stepO at h
      rw [if_pos hw] at h
      cases ho : opW E (ev E n) false o.op fr σ with
      | none => rw [ho] at h; cases h
      | some y => rw [ho] at h; exact ⟨n, y.1, y.2, ho, n, fr', σ', h, hq⟩
    · refine ⟨max n m, fr', σ', ?_, hq⟩
      rw [evOps]
      unfold stepO
      rw [if_pos hw, opW_mono (ev_mono E (Nat.le_max_left n m)) h]
      exact evOps_mono (ev_mono E (Nat.le_max_right n m)) h2
  · rw [if_neg hw]
    refine propext ⟨fun ⟨n, fr', σ', h, hq⟩ => ?_, fun ⟨n, fr', σ', h, hq⟩ => ?_⟩
    · rw [evOps] at h
      unfold stepO at h
      rw [if_neg hw] at h
      exact ⟨n, fr', σ', h, hq⟩
    · refine ⟨n, fr', σ', ?_, hq⟩
      rw [evOps]
      unfold stepO
      rw [if_neg hw]
      exact h
end
section
variable {K : V → Sg → Prop}
/-- an option's answer -/
def got (o : Option (V × Sg)) (K : V → Sg → Prop) : Prop := match o with
  | some (v, σ) => K v σ
  | none => False
theorem got_some {v : V} : got (some (v, σ)) K = K v σ := rfl
theorem wpOp_plain {op : Op} {f : Fr → Sg → Option (V × Sg)} (h : comp E op = .plain f) : WpOp E op fr σ K = got (f fr σ) K := by
  unfold WpOp opW
  rw [h]
  try dsimp only
  cases f fr σ with
  | none => exact propext ⟨fun ⟨_, _, _, h, _⟩ => (by cases h), fun h => h.elim⟩
  | some y => exact propext ⟨fun ⟨_, _, _, h, hk⟩ => (by cases h; exact hk), fun h => ⟨0, _, _, rfl, h⟩⟩
end
theorem WpCall.of {f : Nat} {args : List V} {v : V} {σ' : Sg} {K : V → Sg → Prop} (h : WpCall E f args σ fun u τ => u = v ∧ τ = σ') : WpCall E f args σ K = K v σ' := by
  obtain ⟨n, u, τ, h, rfl, rfl⟩ := h
  refine propext ⟨fun ⟨m, w, ρ, h2, hk⟩ => ?_, fun hk => ⟨n, u, τ, h, hk⟩⟩
  have a := callF_mono (ev_mono E (Nat.le_max_left n m)) h
  rw [callF_mono (ev_mono E (Nat.le_max_right n m)) h2] at a
  cases a
  exact hk
end
end Go.Ax
end
section
namespace Go.Ax
open Go
set_option linter.unusedVariables false
set_option linter.unusedSimpArgs false
/-! ### frames -/
def FT.set (F : FT) (t : Nat) (v : V) : FT := FT.put v (t + 1) F t
theorem FT.get_set {F : FT} {u t : Nat} {v : V} : (FT.set F u v).get t = if t = u then v else F.get t := FT.get_put v (u + 1) F u t (by omega)
theorem Fr.put_mk {n u : Nat} {F : FT} {v : V} : Fr.put ⟨n, F⟩ u v = if u < n then ⟨n, FT.set F u v⟩ else ⟨n, F⟩ := by
  unfold Fr.put
  cases h : Nat.blt u n with
  | true => rw [Nat.blt_eq] at h; rw [if_pos h]; rfl
  | false => rw [if_neg]; intro g; rw [← Nat.blt_eq] at g; rw [h] at g; cases g
theorem Fr.get_mk {n t : Nat} {F : FT} : Fr.get ⟨n, F⟩ t = if t < n then some (F.get t) else none := by
  unfold Fr.get
  cases h : Nat.blt t n with
  | true => rw [Nat.blt_eq] at h; rw [if_pos h]
  | false => rw [if_neg]; intro g; rw [← Nat.blt_eq] at g; rw [h] at g; cases g
theorem wp_reg_arr {E : Env} {fr : Fr} {σ : Sg} {id : Nat} {l : List Oper} {Q : X → Fr → Sg → Prop} : Wp E (.region id l.toArray false) fr σ Q = WpOps E l.toArray l fr σ (Q .normal) := wp_reg
section
variable {E : Env} {fr : Fr} {σ : Sg} {ops : Array Oper} {l : List Oper} {Q : Fr → Sg → Prop} {dst : Option Nat} {op : Op} {ty : Nat} {pos : String} {after : Array Edge}
theorem wpOps_go : WpOps E ops (⟨dst, op, ty, pos, after, none⟩ :: l) fr σ Q = WpOp E op fr σ fun v σ => WpOps E ops l (putS fr dst v) σ Q := by
  rw [wpOps_cons]; exact if_pos rfl
theorem wpOps_guard {j : Nat} {want : Bool} : WpOps E ops (⟨dst, op, ty, pos, after, some (j, want)⟩ :: l) fr σ Q = match yielded ops fr j == some want with
    | true => WpOp E op fr σ fun v σ => WpOps E ops l (putS fr dst v) σ Q
    | false => WpOps E ops l (putS fr dst .undef) σ Q := by
  rw [wpOps_cons]
  show (if (yielded ops fr j == some want) = true then _ else _) = _
  cases yielded ops fr j == some want with
  | true => rw [if_pos rfl]
  | false => rw [if_neg (by simp)]
end
section
variable {E : Env} {fr : Fr} {σ : Sg} {K : V → Sg → Prop}
theorem got_none : got (none : Option (V × Sg)) K = False := rfl
theorem got_def {o : Option (V × Sg)} : got o K = (match o with
    | some (v, σ) => K v σ
    | none => False) := rfl
/-- all arguments of a call -/
def app3 (a b c : List V) : Option (List V) := some (a ++ b ++ c)
theorem app3_nil {l : List V} : app3 [] l [] = some l := by simp [app3]
theorem app3_def {a l b : List V} : app3 a l b = some (a ++ l ++ b) := rfl
theorem wpOp_move {x : Operand} : WpOp E (.move x) fr σ K = (match (evalO fr x).map (·, σ) with
    | some (v, σ) => K v σ
    | none => False) := (wpOp_plain (f := fun fr σ => (evalO fr x).map (·, σ)) rfl).trans got_def
theorem wpOp_assign {x : Operand} : WpOp E (.assign x) fr σ K = (match (evalO fr x).map (·, σ) with
    | some (v, σ) => K v σ
    | none => False) := (wpOp_plain (f := fun fr σ => (evalO fr x).map (·, σ)) rfl).trans got_def
theorem wpOp_pick {c a b : Operand} : WpOp E (.pick c a b) fr σ K = (match oPick E fr σ c a b with
    | some (v, σ) => K v σ
    | none => False) := (wpOp_plain (f := fun fr σ => oPick E fr σ c a b) rfl).trans got_def
theorem wpOp_alloc {e : Nat} : WpOp E (.alloc e) fr σ K = (match oAlloc E fr σ e with
    | some (v, σ) => K v σ
    | none => False) := (wpOp_plain (f := fun fr σ => oAlloc E fr σ e) rfl).trans got_def
theorem wpOp_box {e : Nat} {x : Operand} : WpOp E (.box e x) fr σ K = (match oBox E fr σ e x with
    | some (v, σ) => K v σ
    | none => False) := (wpOp_plain (f := fun fr σ => oBox E fr σ e x) rfl).trans got_def
theorem wpOp_build {t : Nat} {parts : Array (Nat × Operand)} : WpOp E (.build t parts) fr σ K = (match oBuild E fr σ t parts with
    | some (v, σ) => K v σ
    | none => False) := (wpOp_plain (f := fun fr σ => oBuild E fr σ t parts) rfl).trans got_def
theorem wpOp_buildSlice {t len : Nat} {parts : Array (Nat × Operand)} : WpOp E (.buildSlice t len parts) fr σ K = (match oBuildSlice E fr σ t len parts with
    | some (v, σ) => K v σ
    | none => False) := by
  refine propext ⟨fun ⟨_, v, σ', h, hk⟩ => ?_, fun h => ?_⟩
  · have h : oBuildSlice E fr σ t len parts = some (v, σ') := h
    rw [h]; exact hk
  · split at h
    · rename_i v σ' e
      exact ⟨0, v, σ', e, h⟩
    · exact h.elim
theorem wpOp_load {t : Nat} {a : Operand} : WpOp E (.load t a) fr σ K = (match oLoad E fr σ t a with
    | some (v, σ) => K v σ
    | none => False) := (wpOp_plain (f := fun fr σ => oLoad E fr σ t a) rfl).trans got_def
theorem wpOp_store {t : Nat} {a x : Operand} : WpOp E (.store t a x) fr σ K = (match oStore E fr σ t a x with
    | some (v, σ) => K v σ
    | none => False) := (wpOp_plain (f := fun fr σ => oStore E fr σ t a x) rfl).trans got_def
theorem wpOp_nilCheck {x : Operand} : WpOp E (.nilCheck x) fr σ K = (match oNilCheck E fr σ x with
    | some (v, σ) => K v σ
    | none => False) := (wpOp_plain (f := fun fr σ => oNilCheck E fr σ x) rfl).trans got_def
theorem wpOp_binOp {op : BinOp} {t u : Nat} {x y : Operand} : WpOp E (.binOp op t x y u) fr σ K = (match oBinOp E fr σ op t x y with
    | some (v, σ) => K v σ
    | none => False) := (wpOp_plain (f := fun fr σ => oBinOp E fr σ op t x y) rfl).trans got_def
theorem wpOp_unOp {op : UnOp} {t : Nat} {x : Operand} : WpOp E (.unOp op t x) fr σ K = (match oUnOp E fr σ op x with
    | some (v, σ) => K v σ
    | none => False) := (wpOp_plain (f := fun fr σ => oUnOp E fr σ op x) rfl).trans got_def
theorem wpOp_convert {s d : Nat} {x : Operand} : WpOp E (.convert s d x) fr σ K = (match oConvert E fr σ s d x with
    | some (v, σ) => K v σ
    | none => False) := (wpOp_plain (f := fun fr σ => oConvert E fr σ s d x) rfl).trans got_def
theorem wpOp_range {t : Nat} {x : Operand} : WpOp E (.range t x) fr σ K = (match oRange E fr σ t x with
    | some (v, σ) => K v σ
    | none => False) := (wpOp_plain (f := fun fr σ => oRange E fr σ t x) rfl).trans got_def
theorem wpOp_next {x : Operand} : WpOp E (.next x true) fr σ K = (match oNext E fr σ x with
    | some (v, σ) => K v σ
    | none => False) := (wpOp_plain (f := fun fr σ => oNext E fr σ x) rfl).trans got_def
theorem wpOp_makeInterface {t : Nat} {x : Operand} : WpOp E (.makeInterface t x) fr σ K = (match oMakeInterface E fr σ t x with
    | some (v, σ) => K v σ
    | none => False) := (wpOp_plain (f := fun fr σ => oMakeInterface E fr σ t x) rfl).trans got_def
theorem wpOp_makeFunc {f : Nat} {a b : Array Operand} : WpOp E (.makeFunc (.func f) a b) fr σ K = (match oMakeFunc E fr σ f a b with
    | some (v, σ) => K v σ
    | none => False) := (wpOp_plain (f := fun fr σ => oMakeFunc E fr σ f a b) rfl).trans got_def
theorem wpOp_makeMap {t : Nat} {r : Option Operand} : WpOp E (.makeMap t r) fr σ K = (match oMakeMap E fr σ t r with
    | some (v, σ) => K v σ
    | none => False) := (wpOp_plain (f := fun fr σ => oMakeMap E fr σ t r) rfl).trans got_def
theorem wpOp_makeSlice {t : Nat} {l c : Operand} : WpOp E (.makeSlice t l c) fr σ K = (match oMakeSlice E fr σ t l c with
    | some (v, σ) => K v σ
    | none => False) := (wpOp_plain (f := fun fr σ => oMakeSlice E fr σ t l c) rfl).trans got_def
theorem wpOp_slice {t : Nat} {x : Operand} {lo hi mx : Option Operand} : WpOp E (.slice t x lo hi mx) fr σ K = (match oSlice E fr σ t x lo hi mx with
    | some (v, σ) => K v σ
    | none => False) := (wpOp_plain (f := fun fr σ => oSlice E fr σ t x lo hi mx) rfl).trans got_def
theorem wpOp_fieldAddr {t f : Nat} {x : Operand} : WpOp E (.fieldAddr t x f) fr σ K = (match oFieldAddr E fr σ t x f with
    | some (v, σ) => K v σ
    | none => False) := (wpOp_plain (f := fun fr σ => oFieldAddr E fr σ t x f) rfl).trans got_def
theorem wpOp_field {t f : Nat} {x : Operand} : WpOp E (.field t x f) fr σ K = (match oField E fr σ t x f with
    | some (v, σ) => K v σ
    | none => False) := (wpOp_plain (f := fun fr σ => oField E fr σ t x f) rfl).trans got_def
theorem wpOp_indexAddr {t : Nat} {x i : Operand} : WpOp E (.indexAddr t x i) fr σ K = (match oIndexAddr E fr σ t x i with
    | some (v, σ) => K v σ
    | none => False) := (wpOp_plain (f := fun fr σ => oIndexAddr E fr σ t x i) rfl).trans got_def
theorem wpOp_index {t : Nat} {x i : Operand} : WpOp E (.index t x i) fr σ K = (match oIndex E fr σ t x i with
    | some (v, σ) => K v σ
    | none => False) := (wpOp_plain (f := fun fr σ => oIndex E fr σ t x i) rfl).trans got_def
theorem wpOp_lookup {t : Nat} {x k : Operand} {ok : Bool} : WpOp E (.lookup t x k ok) fr σ K = (match oLookup E fr σ t x k ok with
    | some (v, σ) => K v σ
    | none => False) := (wpOp_plain (f := fun fr σ => oLookup E fr σ t x k ok) rfl).trans got_def
theorem wpOp_mapUpdate {t : Nat} {m k x : Operand} : WpOp E (.mapUpdate t m k x) fr σ K = (match oMapUpdate E fr σ t m k x with
    | some (v, σ) => K v σ
    | none => False) := (wpOp_plain (f := fun fr σ => oMapUpdate E fr σ t m k x) rfl).trans got_def
theorem wpOp_extract {t : Operand} {i : Nat} : WpOp E (.extract t i) fr σ K = (match oExtract E fr σ t i with
    | some (v, σ) => K v σ
    | none => False) := (wpOp_plain (f := fun fr σ => oExtract E fr σ t i) rfl).trans got_def
theorem wpOp_builtin {b : Builtin} {args : Array Operand} {ats : Array Nat} : WpOp E (.call { callee := .builtin b, args := args, argTypes := ats }) fr σ K = (match oBuiltin E fr σ b args ats with
    | some (v, σ) => K v σ
    | none => False) := (wpOp_plain (f := fun fr σ => oBuiltin E fr σ b args ats) rfl).trans got_def
theorem wpOp_call {f : Operand} {args : Array Operand} {ats : Array Nat} : WpOp E (.call { callee := .value f, args := args, argTypes := ats }) fr σ K = match evalO fr f, evalOs fr args.toList with
    | some (.fn k first cap), some l => (match app3 first l cap with
      | some l => WpCall E k l σ K
      | none => False)
    | _, _ => False := by
  refine propext ⟨fun ⟨n, v, σ', h, hk⟩ => ?_, fun h => ?_⟩
  · have h : (match evalO fr f, evalOs fr args.toList with
      | some (.fn k first cap), some l => callF E (ev E n) k (first ++ l ++ cap) σ
      | _, _ => no "call") = some (v, σ') := h
    split at h
    · exact ⟨n, v, σ', h, hk⟩
    · cases h
  · split at h
    · rename_i e1 e2
      obtain ⟨n, v, σ', h, hk⟩ := h
      refine ⟨n, v, σ', ?_, hk⟩
      show (match evalO fr f, evalOs fr args.toList with
        | some (.fn k first cap), some l => callF E (ev E n) k (first ++ l ++ cap) σ
        | _, _ => no "call") = some (v, σ')
      rw [e1, e2]; exact h
    · exact h.elim

/-! ### calls -/
def ret1 (E : Env) (rs : List ResultVar) (K : V → Sg → Prop) (fr : Fr) (σ : Sg) : Prop := match results E fr σ rs with
  | some [v] => K v σ
  | some vs => K (.tup vs) σ
  | none => False
/-- a function's body, at arguments -/
def WpEnter (E : Env) (F : Fn) (args : List V) (σ : Sg) (K : V → Sg → Prop) : Prop := match Fr.init F.ntmps args with
  | none => False
  | some fr => Wp E F.code fr σ fun x fr σ => match x with
    | .exit _ => False
    | _ => ret1 E F.results K fr σ
theorem wpEnter_iff {F : Fn} {args : List V} : WpEnter E F args σ K ↔ ∃ n v σ', enter E (ev E n) F args σ = some (v, σ') ∧ K v σ' := by
  unfold WpEnter enter
  cases hi : Fr.init F.ntmps args with
  | none => exact ⟨fun h => h.elim, fun ⟨_, _, _, h, _⟩ => by cases h⟩
  | some fr =>
    try dsimp only
    constructor
    · rintro ⟨n, x, fr', σ', h, hq⟩
      refine ⟨n, ?_⟩
      rw [h]
      cases x with
      | exit id => exact hq.elim
      | normal =>
        simp only [ret1] at hq
        split at hq
        · rename_i v e; exact ⟨v, σ', by simp only [e], hq⟩
        · rename_i vs hn e
          refine ⟨.tup vs, σ', ?_, hq⟩
          simp only [e]
        · exact hq.elim
      | ret =>
        simp only [ret1] at hq
        split at hq
        · rename_i v e; exact ⟨v, σ', by simp only [e], hq⟩
        · rename_i vs hn e
          refine ⟨.tup vs, σ', ?_, hq⟩
          simp only [e]
        · exact hq.elim
    · rintro ⟨n, v, σ', h, hk⟩
      have fin : ∀ (fr1 : Fr) (σ1 : Sg), (match results E fr1 σ1 F.results with
          | some [v] => some (v, σ1)
          | some vs => some (V.tup vs, σ1)
          | none => no "results") = some (v, σ') → ret1 E F.results K fr1 σ1 := by
        intro fr1 σ1 h
        unfold ret1
        split at h
        · cases h; exact hk
        · rename_i vs hn e
          cases h
          cases vs with
          | nil => exact hk
          | cons a l => cases l with
            | nil => exact absurd rfl (hn a)
            | cons b l => exact hk
        · cases h
      cases he : ev E n F.code fr σ with
      | none => rw [he] at h; cases h
      | some y =>
        obtain ⟨x, fr1, σ1⟩ := y
        rw [he] at h
        refine ⟨n, x, fr1, σ1, he, ?_⟩
        cases x with
        | exit id => cases h
        | normal => exact fin _ _ h
        | ret => exact fin _ _ h
theorem wpCall_hspec {f : Nat} {args : List V} {s : List V → Sg → Option (V × Sg)} (h1 : E.hspec f = some s) : WpCall E f args σ K = got (s args σ) K := by
  unfold WpCall callF
  rw [h1]
  dsimp only
  cases s args σ with
  | none => exact propext ⟨fun ⟨_, _, _, h, _⟩ => (by cases h), fun h => h.elim⟩
  | some y => exact propext ⟨fun ⟨_, _, _, h, hk⟩ => (by cases h; exact hk), fun h => ⟨0, _, _, rfl, h⟩⟩
theorem wpCall_spec {f : Nat} {args args' : List V} {s : List V → Option V} {v v' : V} (h1 : E.hspec f = none) (h2 : E.spec f = some s) (h3 : mapO (snapV σ E.ty true) args = some args') (h4 : s args' = some v) (h5 : snapT [] E.ty false v = some v') : WpCall E f args σ K = K v' σ := by
  have : ∀ r, callF E r f args σ = some (v', σ) := fun r => by
    unfold callF
    rw [h1, h2, h3]
    dsimp only
    rw [h4]
    dsimp only
    rw [h5]
  exact propext ⟨fun ⟨n, _, _, h, hk⟩ => (by rw [this] at h; cases h; exact hk), fun h => ⟨0, _, _, this _, h⟩⟩
theorem wpCall_shared {f : Nat} {args : List V} {F : Fn} (h1 : E.hspec f = none) (h2 : E.spec f = none) (h3 : E.fn f = some F) (h4 : E.mode f = .shared) : WpCall E f args σ K = WpEnter E F args σ K := by
  rw [propext wpEnter_iff]
  unfold WpCall callF
  rw [h1, h2, h3, h4]
  dsimp only
  refine propext ⟨fun ⟨n, v, σ', h, hk⟩ => ⟨n, v, σ', ?_, hk⟩, fun ⟨n, v, σ', h, hk⟩ => ⟨n, v, σ', by rw [h], hk⟩⟩
  split at h
  · rename_i e; rw [e]; exact h
  · cases h
theorem wpCall_iso {f : Nat} {args args' : List V} {F : Fn} (h1 : E.hspec f = none) (h2 : E.spec f = none) (h3 : E.fn f = some F) (h4 : E.mode f = .iso) (h5 : mapO (snapV σ E.ty true) args = some args') :
    WpCall E f args σ K = WpEnter E F args' [] fun v σ1 => match snapT σ1 E.ty false v with
      | some v => K v σ
      | none => False := by
  rw [propext wpEnter_iff]
  unfold WpCall callF
  rw [h1, h2, h3, h4]
  dsimp only
  rw [h5]
  dsimp only
  refine propext ⟨fun ⟨n, v, σ', h, hk⟩ => ?_, fun ⟨n, v, σ', h, hk⟩ => ?_⟩
  · cases he : enter E (ev E n) F args' [] with
    | none => rw [he] at h; cases h
    | some y =>
      obtain ⟨u, σ1⟩ := y
      rw [he] at h
      dsimp only at h
      refine ⟨n, u, σ1, he, ?_⟩
      cases hs : snapT σ1 E.ty false u with
      | none => rw [hs] at h; cases h
      | some v1 => rw [hs] at h; cases h; exact hk
  · cases hs : snapT σ' E.ty false v with
    | none => rw [hs] at hk; exact hk.elim
    | some v1 =>
      rw [hs] at hk
      refine ⟨n, v1, σ, ?_, hk⟩
      rw [h]
      dsimp only
      rw [hs]
      rfl
theorem WpEnter.mono {F : Fn} {args : List V} {K' : V → Sg → Prop} (h : WpEnter E F args σ K) (hk : ∀ v σ, K v σ → K' v σ) : WpEnter E F args σ K' := by
  rw [wpEnter_iff] at h ⊢
  obtain ⟨n, v, σ', h, hk'⟩ := h
  exact ⟨n, v, σ', h, hk _ _ hk'⟩
theorem WpCall.mono {f : Nat} {args : List V} {K' : V → Sg → Prop} (h : WpCall E f args σ K) (hk : ∀ v σ, K v σ → K' v σ) : WpCall E f args σ K' := by
  obtain ⟨n, v, σ', h, hk'⟩ := h
  exact ⟨n, v, σ', h, hk _ _ hk'⟩
/-- a call in a heap of its own, and its answer -/
theorem call_of_enter {f : Nat} {args : List V} {F : Fn} {v : V} (h3 : E.fn f = some F) (h : WpEnter E F args [] fun u σ1 => snapT σ1 E.ty false u = some v) : ∃ n, Ax.call E n f args = some v := by
  rw [wpEnter_iff] at h
  obtain ⟨n, u, σ', h, hk⟩ := h
  refine ⟨n, ?_⟩
  unfold Ax.call
  rw [h3]
  dsimp only
  rw [h]
  exact hk
/-- what a code hands back, reckoned -/
def evRet (E : Env) (n : Nat) (rs : List ResultVar) (c : Code) (fr : Fr) (σ : Sg) : Option V := match ev E n c fr σ with
  | some (.exit _, _, _) => none
  | some (_, fr, σ) => (match results E fr σ rs with
    | some [v] => snapT σ E.ty false v
    | _ => none)
  | none => none
theorem wp_of_evRet {n : Nat} {rs : List ResultVar} {c : Code} {fr : Fr} {v : V} (h : evRet E n rs c fr σ = some v) : Wp E c fr σ fun x fr σ => match x with
    | .exit _ => False
    | _ => ret1 E rs (fun u σ1 => snapT σ1 E.ty false u = some v) fr σ := by
  unfold evRet at h
  cases he : ev E n c fr σ with
  | none => rw [he] at h; cases h
  | some y =>
    obtain ⟨x, fr1, σ1⟩ := y
    rw [he] at h
    refine ⟨n, x, fr1, σ1, he, ?_⟩
    have fin : (match results E fr1 σ1 rs with
        | some [v] => snapT σ1 E.ty false v
        | _ => none) = some v → ret1 E rs (fun u σ1 => snapT σ1 E.ty false u = some v) fr1 σ1 := by
      intro h
      unfold ret1
      cases hr : results E fr1 σ1 rs with
      | none => rw [hr] at h; cases h
      | some l =>
        rw [hr] at h
        match l, h with
        | [u], h => exact h
    cases x with
    | exit id => cases h
    | normal => exact fin h
    | ret => exact fin h
/-- a drawn region whose plan asks for nothing runs as its text stands -/
def noLit : List Oper → Bool
  | [] => true
  | o :: l => (match o.op with
    | .buildSlice .. => false
    | _ => true) && noLit l
theorem opW_noLit {ev : Run} {op : Op} {fr : Fr} (h : (match op with
    | .buildSlice .. => false
    | _ => true) = true) : opW E ev true op fr σ = opW E ev false op fr σ := by
  cases op with
  | buildSlice t len parts => cases h
  | call cc =>
    obtain ⟨callee, args, ats⟩ := cc
    cases callee <;> rfl
  | _ => rfl
theorem evOps_noLit {ev : Run} {ops : Array Oper} : ∀ {l : List Oper} {fr : Fr} {σ : Sg}, noLit l = true → evOps E ev true ops l fr σ = evOps E ev false ops l fr σ
  | [], _, _, _ => rfl
  | o :: l, fr, σ, h => by
    simp only [noLit, Bool.and_eq_true] at h
    have e : stepO E ev true ops o fr σ = stepO E ev false ops o fr σ := by
      unfold stepO
      rw [opW_noLit h.1]
    rw [evOps, evOps, e]
    cases stepO E ev false ops o fr σ with
    | none => rfl
    | some y => exact evOps_noLit h.2
def isPlainDraw (E : Env) : Code → Bool
  | .region _ ops true => (match drawPlan E (frzOf E ops) ops with
    | some [] => true
    | _ => false) && noLit ops.toList
  | _ => false
def undraw : Code → Code
  | .region id ops _ => .region id ops false
  | c => c
theorem wp_undraw {c : Code} {fr : Fr} {Q : X → Fr → Sg → Prop} (h : isPlainDraw E c = true) : Wp E c fr σ Q = Wp E (undraw c) fr σ Q := by
  unfold isPlainDraw at h
  split at h
  case h_2 => cases h
  rename_i id ops
  rw [Bool.and_eq_true] at h
  obtain ⟨h1, h2⟩ := h
  show _ = Wp E (.region id ops false) fr σ Q
  rw [wp_draw, wp_reg]
  unfold WpDraw WpOps evDraw
  cases hp : drawPlan E (frzOf E ops) ops with
  | none => rw [hp] at h1; cases h1
  | some l =>
    rw [hp] at h1
    cases l with
    | cons d l => cases h1
    | nil =>
      simp only
      cases hd : frzOf E ops with
      | true => simp only [evOps_noLit h2]
      | false => rfl
def opsOf : Code → Array Oper
  | .region _ ops _ => ops
  | _ => #[]
theorem wpOps_append {ops : Array Oper} {Q : Fr → Sg → Prop} : ∀ {l m : List Oper} {fr : Fr} {σ : Sg}, WpOps E ops (l ++ m) fr σ Q = WpOps E ops l fr σ fun fr σ => WpOps E ops m fr σ Q
  | [], m, fr, σ => by rw [List.nil_append, wpOps_nil]
  | o :: l, m, fr, σ => by
    rw [List.cons_append, wpOps_cons, wpOps_cons]
    simp only [wpOps_append]
/-- a part of a code: 0: ahead, 1: behind, 2: inside -/
def cutAt : List Nat → Code → Code
  | [], c => c
  | 0 :: p, .seq a _ => cutAt p a
  | 1 :: p, .seq _ b => cutAt p b
  | 2 :: p, .block _ c => cutAt p c
  | 2 :: p, .loop c => cutAt p c
  | 0 :: p, .cond _ a _ => cutAt p a
  | 1 :: p, .cond _ _ b => cutAt p b
  | _, c => c
theorem enter_of_call {n f : Nat} {args : List V} {F : Fn} {v : V} (h3 : E.fn f = some F) (h : Ax.call E n f args = some v) : WpEnter E F args [] fun u σ1 => snapT σ1 E.ty false u = some v := by
  unfold Ax.call at h
  rw [h3] at h
  dsimp only at h
  cases he : enter E (ev E n) F args [] with
  | none => rw [he] at h; cases h
  | some y => rw [he] at h; exact wpEnter_iff.2 ⟨n, y.1, y.2, he, h⟩
end
end Go.Ax
end
