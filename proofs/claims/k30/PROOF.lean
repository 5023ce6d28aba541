import PyProof.Rows.All
import Wide.All
import OpenK.AllK
import Wide.FinOn
import HandS.ForMost
import HandS.Walk
import HandS.Wide
import HandS.Gcd
import HandS.IsInst
import HandS.Codes
import HandS.Exc
import HandS.ExcOwn
import HandS.ExcIs
import HandS.TryOnly
import HandS.WordsExc
import HandS.CallLocal
import HandS.More
import HandS.NoneIn
import HandS.SortInts
import HandS.ExcInit
import HandS.ExcField
import HandS.WordsDict
import HandS.Rev
import HandS.Deep
import HandS.Lambda
import HandS.EndTab
import KE.SortKeyHeap
import HandS.SortKw
import HandS.ClsMeth
import HandS.DictComp
import PyProof.Rows.StrMeet
import PyProof.TupleKey
import KE.KDictList
import KE.KDictWalk
import KE.KDictSum
import HandS.SortRule
import KE.SortData
import KE.DataMinMax
import PySem.Challenge.RW_samphire_k30_optimal_samples_as_objects
set_option Elab.async false
set_option linter.all false
set_option maxRecDepth 100000
set_option synthInstance.maxSize 100000
set_option synthInstance.maxHeartbeats 4000000
namespace Sam
open PySem PySem.Spec PyProof.Rows L2
open C8 (pss_cut tCut)
def topS (i : Nat) : Stmt := PySem.Challenge.pw_samphire_k30_optimal_samples_as_objects.main.body.getD i (.Pass ⟨0, 0, 0, 0⟩)
abbrev s_InvalidSize___init__ : Stmt := (inClass (topS 3) 0)
abbrev nm_InvalidSize___init__ : List Str := ["self", "size"]
theorem sc_InvalidSize___init__ : FnScope ["self", "size"] ["self", "size"] (defScope s_InvalidSize___init__) := ⟨rfl, rfl, rfl, by decide +kernel, rfl, by decide +kernel, by decide +kernel⟩
abbrev s_SharedKey___init__ : Stmt := (inClass (topS 4) 0)
abbrev nm_SharedKey___init__ : List Str := ["self", "key"]
theorem sc_SharedKey___init__ : FnScope ["self", "key"] ["self", "key"] (defScope s_SharedKey___init__) := ⟨rfl, rfl, rfl, by decide +kernel, rfl, by decide +kernel, by decide +kernel⟩
abbrev s_lowest : Stmt := (topS 9)
abbrev nm_lowest : List Str := ["p", "q", "divisor"]
theorem sc_lowest : FnScope ["p", "q", "divisor"] ["p", "q"] (defScope s_lowest) := ⟨rfl, rfl, rfl, by decide +kernel, rfl, by decide +kernel, by decide +kernel⟩
abbrev s_plus : Stmt := (topS 10)
abbrev nm_plus : List Str := ["a", "b"]
theorem sc_plus : FnScope ["a", "b"] ["a", "b"] (defScope s_plus) := ⟨rfl, rfl, rfl, by decide +kernel, rfl, by decide +kernel, by decide +kernel⟩
abbrev s_minus : Stmt := (topS 11)
abbrev nm_minus : List Str := ["a", "b"]
theorem sc_minus : FnScope ["a", "b"] ["a", "b"] (defScope s_minus) := ⟨rfl, rfl, rfl, by decide +kernel, rfl, by decide +kernel, by decide +kernel⟩
abbrev s_over : Stmt := (topS 12)
abbrev nm_over : List Str := ["a", "b"]
theorem sc_over : FnScope ["a", "b"] ["a", "b"] (defScope s_over) := ⟨rfl, rfl, rfl, by decide +kernel, rfl, by decide +kernel, by decide +kernel⟩
abbrev s_less : Stmt := (topS 13)
abbrev nm_less : List Str := ["a", "b"]
theorem sc_less : FnScope ["a", "b"] ["a", "b"] (defScope s_less) := ⟨rfl, rfl, rfl, by decide +kernel, rfl, by decide +kernel, by decide +kernel⟩
abbrev s_sum_of : Stmt := (topS 14)
abbrev nm_sum_of : List Str := ["fractions", "total", "fraction"]
theorem sc_sum_of : FnScope ["fractions", "total", "fraction"] ["fractions"] (defScope s_sum_of) := ⟨rfl, rfl, rfl, by decide +kernel, rfl, by decide +kernel, by decide +kernel⟩
abbrev s_check_size : Stmt := (topS 17)
abbrev nm_check_size : List Str := ["size"]
theorem sc_check_size : FnScope ["size"] ["size"] (defScope s_check_size) := ⟨rfl, rfl, rfl, by decide +kernel, rfl, by decide +kernel, by decide +kernel⟩
abbrev s_check_keys : Stmt := (topS 18)
abbrev nm_check_keys : List Str := ["first", "second", "keys", "shared", "item"]
theorem sc_check_keys : FnScope ["first", "second", "keys", "shared", "item"] ["first", "second"] (defScope s_check_keys) := ⟨rfl, rfl, rfl, by decide +kernel, rfl, by decide +kernel, by decide +kernel⟩
abbrev s_Uniform___init__ : Stmt := (inClass (topS 19) 0)
abbrev nm_Uniform___init__ : List Str := ["self", "size", "seen", "kept"]
theorem sc_Uniform___init__ : FnScope ["self", "size", "seen", "kept"] ["self", "size", "seen", "kept"] (defScope s_Uniform___init__) := ⟨rfl, rfl, rfl, by decide +kernel, rfl, by decide +kernel, by decide +kernel⟩
abbrev s_Uniform_empty : Stmt := (inClass (topS 19) 1)
abbrev nm_Uniform_empty : List Str := ["cls", "size"]
theorem sc_Uniform_empty : FnScope ["cls", "size"] ["cls", "size"] (defScope s_Uniform_empty) := ⟨rfl, rfl, rfl, by decide +kernel, rfl, by decide +kernel, by decide +kernel⟩
abbrev s_Uniform_single : Stmt := (inClass (topS 19) 2)
abbrev nm_Uniform_single : List Str := ["cls", "item", "size"]
theorem sc_Uniform_single : FnScope ["cls", "item", "size"] ["cls", "item", "size"] (defScope s_Uniform_single) := ⟨rfl, rfl, rfl, by decide +kernel, rfl, by decide +kernel, by decide +kernel⟩
abbrev s_Uniform_check : Stmt := (inClass (topS 19) 3)
abbrev nm_Uniform_check : List Str := ["self", "other"]
theorem sc_Uniform_check : FnScope ["self", "other"] ["self", "other"] (defScope s_Uniform_check) := ⟨rfl, rfl, rfl, by decide +kernel, rfl, by decide +kernel, by decide +kernel⟩
abbrev s_Uniform_merge : Stmt := (inClass (topS 19) 4)
abbrev nm_Uniform_merge : List Str := ["self", "other", "dice", "seen", "lists", "found", "_", "side", "place"]
theorem sc_Uniform_merge : FnScope ["self", "other", "dice", "seen", "lists", "found", "_", "side", "place"] ["self", "other", "dice"] (defScope s_Uniform_merge) := ⟨rfl, rfl, rfl, by decide +kernel, rfl, by decide +kernel, by decide +kernel⟩
abbrev s_Uniform_view : Stmt := (inClass (topS 19) 5)
abbrev nm_Uniform_view : List Str := ["self"]
theorem sc_Uniform_view : FnScope ["self"] ["self"] (defScope s_Uniform_view) := ⟨rfl, rfl, rfl, by decide +kernel, rfl, by decide +kernel, by decide +kernel⟩
abbrev s_greater : Stmt := (topS 23)
abbrev nm_greater : List Str := ["one", "other"]
theorem sc_greater : FnScope ["one", "other"] ["one", "other"] (defScope s_greater) := ⟨rfl, rfl, rfl, by decide +kernel, rfl, by decide +kernel, by decide +kernel⟩
abbrev s_threshold : Stmt := (topS 24)
abbrev nm_threshold : List Str := ["weights", "size", "left", "rest", "places", "found", "largest", "weight"]
theorem sc_threshold : FnScope ["weights", "size", "left", "rest", "places", "found", "largest", "weight"] ["weights", "size"] (defScope s_threshold) := ⟨rfl, rfl, rfl, by decide +kernel, rfl, by decide +kernel, by decide +kernel⟩
abbrev s_keep_chance : Stmt := (topS 25)
abbrev nm_keep_chance : List Str := ["weight", "found"]
theorem sc_keep_chance : FnScope ["weight", "found"] ["weight", "found"] (defScope s_keep_chance) := ⟨rfl, rfl, rfl, by decide +kernel, rfl, by decide +kernel, by decide +kernel⟩
abbrev s_whole_weights : Stmt := (topS 26)
abbrev nm_whole_weights : List Str := ["chances", "common", "_", "q", "p"]
theorem sc_whole_weights : FnScope ["chances", "common", "_", "q", "p"] ["chances"] (defScope s_whole_weights) := ⟨rfl, rfl, rfl, by decide +kernel, rfl, by decide +kernel, by decide +kernel⟩
abbrev s_drop_one : Stmt := (topS 27)
abbrev nm_drop_one : List Str := ["parts", "dice", "found", "chances", "gone", "_", "adjusted", "at", "item"]
theorem sc_drop_one : FnScope ["parts", "dice", "found", "chances", "gone", "_", "adjusted", "at", "item"] ["parts", "dice"] (defScope s_drop_one) := ⟨rfl, rfl, rfl, by decide +kernel, rfl, by decide +kernel, by decide +kernel⟩
abbrev s_Optimal___init__ : Stmt := (inClass (topS 28) 0)
abbrev nm_Optimal___init__ : List Str := ["self", "size", "parts", "item", "_"]
theorem sc_Optimal___init__ : FnScope ["self", "size", "parts", "item", "_"] ["self", "size", "parts"] (defScope s_Optimal___init__) := ⟨rfl, rfl, rfl, by decide +kernel, rfl, by decide +kernel, by decide +kernel⟩
abbrev s_Optimal_empty : Stmt := (inClass (topS 28) 1)
abbrev nm_Optimal_empty : List Str := ["cls", "size"]
theorem sc_Optimal_empty : FnScope ["cls", "size"] ["cls", "size"] (defScope s_Optimal_empty) := ⟨rfl, rfl, rfl, by decide +kernel, rfl, by decide +kernel, by decide +kernel⟩
abbrev s_Optimal_single : Stmt := (inClass (topS 28) 2)
abbrev nm_Optimal_single : List Str := ["cls", "item", "size"]
theorem sc_Optimal_single : FnScope ["cls", "item", "size"] ["cls", "item", "size"] (defScope s_Optimal_single) := ⟨rfl, rfl, rfl, by decide +kernel, rfl, by decide +kernel, by decide +kernel⟩
abbrev s_Optimal_merge : Stmt := (inClass (topS 28) 3)
abbrev nm_Optimal_merge : List Str := ["self", "other", "dice", "parts"]
theorem sc_Optimal_merge : FnScope ["self", "other", "dice", "parts"] ["self", "other", "dice"] (defScope s_Optimal_merge) := ⟨rfl, rfl, rfl, by decide +kernel, rfl, by decide +kernel, by decide +kernel⟩
abbrev s_Optimal_adjusted_sum : Stmt := (inClass (topS 28) 4)
abbrev nm_Optimal_adjusted_sum : List Str := ["self", "whole", "_", "adjusted"]
theorem sc_Optimal_adjusted_sum : FnScope ["self", "whole", "_", "adjusted"] ["self"] (defScope s_Optimal_adjusted_sum) := ⟨rfl, rfl, rfl, by decide +kernel, rfl, by decide +kernel, by decide +kernel⟩
abbrev s_Optimal_view : Stmt := (inClass (topS 28) 5)
abbrev nm_Optimal_view : List Str := ["self"]
theorem sc_Optimal_view : FnScope ["self"] ["self"] (defScope s_Optimal_view) := ⟨rfl, rfl, rfl, by decide +kernel, rfl, by decide +kernel, by decide +kernel⟩
abbrev s_number_at : Stmt := (topS 30)
abbrev nm_number_at : List Str := ["weights", "place", "total", "number", "weight"]
theorem sc_number_at : FnScope ["weights", "place", "total", "number", "weight"] ["weights", "place"] (defScope s_number_at) := ⟨rfl, rfl, rfl, by decide +kernel, rfl, by decide +kernel, by decide +kernel⟩
abbrev s_Tape___init__ : Stmt := (inClass (topS 31) 0)
abbrev nm_Tape___init__ : List Str := ["self", "numbers"]
theorem sc_Tape___init__ : FnScope ["self", "numbers"] ["self", "numbers"] (defScope s_Tape___init__) := ⟨rfl, rfl, rfl, by decide +kernel, rfl, by decide +kernel, by decide +kernel⟩
abbrev s_Tape_pick : Stmt := (inClass (topS 31) 1)
abbrev nm_Tape_pick : List Str := ["self", "weights", "number"]
theorem sc_Tape_pick : FnScope ["self", "weights", "number"] ["self", "weights"] (defScope s_Tape_pick) := ⟨rfl, rfl, rfl, by decide +kernel, rfl, by decide +kernel, by decide +kernel⟩
abbrev s_Tape_used : Stmt := (inClass (topS 31) 2)
abbrev nm_Tape_used : List Str := ["self"]
theorem sc_Tape_used : FnScope ["self"] ["self"] (defScope s_Tape_used) := ⟨rfl, rfl, rfl, by decide +kernel, rfl, by decide +kernel, by decide +kernel⟩
abbrev s__law_mix : Stmt := (topS 33)
abbrev nm__law_mix : List Str := ["_law_number", "_law_k"]
theorem sc__law_mix : FnScope ["_law_number", "_law_k"] ["_law_number", "_law_k"] (defScope s__law_mix) := ⟨rfl, rfl, rfl, by decide +kernel, rfl, by decide +kernel, by decide +kernel⟩
abbrev s__law_numbers : Stmt := (topS 34)
abbrev nm__law_numbers : List Str := ["_law_script", "_law_count", "_law_row", "_law_base", "_law_cell", "_law_rest", "_law_k"]
theorem sc__law_numbers : FnScope ["_law_script", "_law_count", "_law_row", "_law_base", "_law_cell", "_law_rest", "_law_k"] ["_law_script", "_law_count"] (defScope s__law_numbers) := ⟨rfl, rfl, rfl, by decide +kernel, rfl, by decide +kernel, by decide +kernel⟩
abbrev s__law_take : Stmt := (topS 35)
abbrev nm__law_take : List Str := ["_law_row", "_law_bound"]
theorem sc__law_take : FnScope ["_law_row", "_law_bound"] ["_law_row", "_law_bound"] (defScope s__law_take) := ⟨rfl, rfl, rfl, by decide +kernel, rfl, by decide +kernel, by decide +kernel⟩
abbrev s__law_low : Stmt := (topS 36)
abbrev nm__law_low : List Str := ["_law_p", "_law_q", "_law_first", "_law_second", "_law_turn"]
theorem sc__law_low : FnScope ["_law_p", "_law_q", "_law_first", "_law_second", "_law_turn"] ["_law_p", "_law_q"] (defScope s__law_low) := ⟨rfl, rfl, rfl, by decide +kernel, rfl, by decide +kernel, by decide +kernel⟩
abbrev s__law_plus : Stmt := (topS 37)
abbrev nm__law_plus : List Str := ["_law_one", "_law_other"]
theorem sc__law_plus : FnScope ["_law_one", "_law_other"] ["_law_one", "_law_other"] (defScope s__law_plus) := ⟨rfl, rfl, rfl, by decide +kernel, rfl, by decide +kernel, by decide +kernel⟩
abbrev s__law_sum : Stmt := (topS 41)
abbrev nm__law_sum : List Str := ["_law_rows", "_law_whole", "_law_one"]
theorem sc__law_sum : FnScope ["_law_rows", "_law_whole", "_law_one"] ["_law_rows"] (defScope s__law_sum) := ⟨rfl, rfl, rfl, by decide +kernel, rfl, by decide +kernel, by decide +kernel⟩
abbrev s__law_items : Stmt := (topS 42)
abbrev nm__law_items : List Str := ["_law_row", "_law_many", "_law_found", "_law_k", "_law_weight"]
theorem sc__law_items : FnScope ["_law_row", "_law_many", "_law_found", "_law_k", "_law_weight"] ["_law_row", "_law_many"] (defScope s__law_items) := ⟨rfl, rfl, rfl, by decide +kernel, rfl, by decide +kernel, by decide +kernel⟩
abbrev s__law_parts : Stmt := (topS 43)
abbrev nm__law_parts : List Str := ["_law_row", "_law_things", "_law_item"]
theorem sc__law_parts : FnScope ["_law_row", "_law_things", "_law_item"] ["_law_row", "_law_things"] (defScope s__law_parts) := ⟨rfl, rfl, rfl, by decide +kernel, rfl, by decide +kernel, by decide +kernel⟩
abbrev s__law_made : Stmt := (topS 44)
abbrev nm__law_made : List Str := ["_law_item", "_law_size", "_law_is_single", "error"]
theorem sc__law_made : FnScope ["_law_item", "_law_size", "_law_is_single", "error"] ["_law_item", "_law_size", "_law_is_single"] (defScope s__law_made) := ⟨rfl, rfl, rfl, by decide +kernel, rfl, by decide +kernel, by decide +kernel⟩
abbrev s__law_merged : Stmt := (topS 45)
abbrev nm__law_merged : List Str := ["_law_one", "_law_other", "_law_tape", "error"]
theorem sc__law_merged : FnScope ["_law_one", "_law_other", "_law_tape", "error"] ["_law_one", "_law_other", "_law_tape"] (defScope s__law_merged) := ⟨rfl, rfl, rfl, by decide +kernel, rfl, by decide +kernel, by decide +kernel⟩
abbrev s_law : Stmt := (topS 46)
abbrev nm_law : List Str := ["_law_script", "_law_row", "_law_things", "_law_size", "_law_due", "_law_k", "_law_first", "_law_second", "_law_given", "_law_one", "_law_other", "_law_shared", "_law_wanted", "_law_tape", "_law_pair", "_law_found"]
theorem sc_law : FnScope ["_law_script", "_law_row", "_law_things", "_law_size", "_law_due", "_law_k", "_law_first", "_law_second", "_law_given", "_law_one", "_law_other", "_law_shared", "_law_wanted", "_law_tape", "_law_pair", "_law_found"] ["_law_script"] (defScope s_law) := ⟨rfl, rfl, rfl, by decide +kernel, rfl, by decide +kernel, by decide +kernel⟩
/-! ### own layer: what stays, new objects, steps -/
/-- all that was tracked outside F is as it was -/
def Ex (F : List Addr) (H H' : Hp) : Prop := ∀ b o, b ∉ F → H b = some o → H' b = some o
theorem Ex.refl {F : List Addr} (H : Hp) : Ex F H H := fun _ _ _ h => h
theorem Ex.trans {F : List Addr} {H H1 H2 : Hp} (a : Ex F H H1) (b : Ex F H1 H2) : Ex F H H2 := fun c o n h => b c o n (a c o n h)
theorem Ex.of {F : List Addr} {H H1 : Hp} (a : Same H H1) : Ex F H H1 := fun c o _ h => a c o h
theorem Ex.mono {F G : List Addr} {H H1 : Hp} (a : Ex F H H1) (h : ∀ b, b ∈ F → b ∈ G) : Ex G H H1 := fun c o n e => a c o (fun z => n (h c z)) e
theorem Ex.rd {F : List Addr} {H H' : Hp} {a : Addr} {u : HO} (e : Ex F H H') (n : a ∉ F) (h : Rd H a u) : Rd H' a u := by
  rcases h with h | ⟨o, h⟩
  · exact .inl (e _ _ n h)
  · exact .inr ⟨o, e _ _ n h⟩
theorem Ex.seq {K : PySem.W.Frag} {F : List Addr} {H H' : Hp} {a : Addr} {xs : List V} (e : Ex F H H') (n : a ∉ F) (h : SqL K H a xs) : SqL K H' a xs := by
  rcases h with h | h
  · exact .inl (e.rd n h)
  · exact .inr h
theorem Ex.tup {K : PySem.W.Frag} {F : List Addr} {H H' : Hp} {a : Addr} {xs : List V} (e : Ex F H H') (n : a ∉ F) (h : SqT K H a xs) : SqT K H' a xs := by
  rcases h with h | h
  · exact .inl (e.rd n h)
  · exact .inr h
theorem same_upd {H : Hp} {p : Addr} {o : HO} (h : H p = none) : Same H (upd H p o) := fun b x e => by
  rw [upd_ne (ne_of_none e h)]
  exact e
/-- an object that H does not know is changed -/
theorem _root_.L2.Same.mut {H H' : Hp} {p : Addr} {o : HO} (e : Same H H') (h : H p = none) : Same H (upd H' p o) := fun a u ha => by
  rw [upd_ne (ne_of_none ha h)]
  exact e a u ha
theorem Ex.mut {F : List Addr} {H H' : Hp} {p : Addr} {o : HO} (e : Ex F H H') (h : H p = none ∨ p ∈ F) : Ex F H (upd H' p o) := fun a u n ha => by
  have hne : a ≠ p := by
    rcases h with h | h
    · exact ne_of_none ha h
    · exact fun z => n (z ▸ h)
  rw [upd_ne hne]
  exact e a u n ha
theorem _root_.L2.Same.tupq {K : PySem.W.Frag} {H H' : Hp} {a : Addr} {xs : List V} (e : Same H H') (h : SqT K H a xs) : SqT K H' a xs := by
  rcases h with (h | ⟨o, h⟩) | h
  · exact .inl (.inl (e _ _ h))
  · exact .inl (.inr ⟨o, e _ _ h⟩)
  · exact .inr h
/-- a new object, met by what is known of the heap -/
theorem w_new {H : Hp} {o : HO} {Q : V → Hp → Prop} (h : ∀ p H', H p = none → Same H H' → H' p = some o → Q (.ref p) H') : ∀ p, H p = none → Q (.ref p) (upd H p o) := fun p hp => h p _ hp (same_upd hp) upd_same
section
variable {K : PySem.W.Frag} {H : Hp} {Q : VK}
theorem w_ixL {p : Addr} {xs : List V} {i : Int} {v : V} (h : SqL K H p xs) (e : atI xs i = some v) (q : Q v H) : rIxL K (.ref p) (.int i) H Q := ⟨p, xs, i, v, rfl, rfl, h, e, q⟩
theorem w_ixT {p : Addr} {xs : List V} {i : Int} {v : V} (h : SqT K H p xs) (e : atI xs i = some v) (q : Q v H) : rIxT K (.ref p) (.int i) H Q := ⟨p, xs, i, v, rfl, rfl, h, e, q⟩
end
theorem bl_inj {a b : Bool} (h : V.bl a = V.bl b) : a = b := V.bl.inj h
theorem ite_dec {c : Prop} [Decidable c] {A B : Prop} (h1 : c → A) (h2 : ¬ c → B) : if decide c = true then A else B := by
  by_cases h : c
  · rw [if_pos (decide_eq_true h)]; exact h1 h
  · rw [if_neg (by rw [decide_eq_false h]; exact Bool.false_ne_true)]; exact h2 h
theorem atI_int {xs : List V} {i : Int} {v : V} (h0 : 0 ≤ i) (h : xs[i.toNat]? = some v) : atI xs i = some v := by
  have e := atI_nat h
  rw [Int.toNat_of_nonneg h0] at e
  exact e
theorem map_get {ns : List Int} {i : Nat} {v : V} (h : (ns.map V.int)[i]? = some v) : ∃ z, v = .int z ∧ ns[i]? = some z := by
  rw [List.getElem?_map] at h
  cases e : ns[i]? with
  | none => rw [e] at h; cases h
  | some z => rw [e] at h; exact ⟨z, (Option.some.inj h).symm, rfl⟩
theorem get_map {ns : List Int} {i : Nat} {z : Int} (h : ns[i]? = some z) : (ns.map V.int)[i]? = some (.int z) := by
  rw [List.getElem?_map, h]
  rfl
theorem nin {p L : Addr} (h : p ≠ L) : p ∉ [L] := fun z => h (List.mem_singleton.mp z)
/-- a change at x alone, which H did not know -/
theorem Ex.new1 {F : List Addr} {H H1 H2 : Hp} {x : Addr} (a : Ex F H H1) (b : Ex [x] H1 H2) (h : H x = none) : Ex F H H2 := fun c o n e => b c o (nin (ne_of_none e h)) (a c o n e)
theorem Ex.free {F : List Addr} {H H' : Hp} {l : Addr} (e : Ex F H H') (n : l ∉ F) (h : H' l = none) : H l = none := by
  cases q : H l with
  | none => rfl
  | some o =>
    rw [e l o n q] at h
    cases h
theorem Ex.at {F : List Addr} {H H' : Hp} {l : Addr} {o : HO} (e : Ex F H H') (n : l ∉ F) (h : H l = some o) : H' l = some o := e l o n h
theorem ixN_int {n : Nat} {k : Int} (h0 : 0 ≤ k) (h1 : k < n) : ixN n k = some k.toNat := by
  unfold ixN
  rw [if_pos h0, if_pos h1]
theorem sum_set : ∀ (l : List Int) (j : Nat) (x v : Int), l[j]? = some x → (l.set j v).sum = l.sum - x + v
  | [], _, _, _, h => by simp at h
  | y :: l, 0, x, v, h => by
    have e : y = x := by simpa using h
    subst e
    simp
    omega
  | y :: l, j + 1, x, v, h => by
    have ih := sum_set l j x v (by simpa using h)
    simp only [List.set_cons_succ, List.sum_cons, ih]
    omega
theorem mem_le_sum : ∀ (l : List Int), (∀ x ∈ l, 0 ≤ x) → ∀ x ∈ l, x ≤ l.sum
  | [], _, x, hx => by simp at hx
  | y :: l, h, x, hx => by
    have h0 : 0 ≤ y := h y List.mem_cons_self
    have hl : ∀ x ∈ l, 0 ≤ x := fun z hz => h z (List.mem_cons_of_mem _ hz)
    have hs : 0 ≤ l.sum := sum_nn l hl
    rcases List.mem_cons.mp hx with e | e
    · subst e; rw [List.sum_cons]; omega
    · have := mem_le_sum l hl x e
      rw [List.sum_cons]; omega
where
  sum_nn : ∀ (l : List Int), (∀ x ∈ l, 0 ≤ x) → 0 ≤ l.sum
    | [], _ => by simp
    | y :: l, h => by
      have h0 : 0 ≤ y := h y List.mem_cons_self
      have := sum_nn l (fun z hz => h z (List.mem_cons_of_mem _ hz))
      rw [List.sum_cons]; omega
theorem sum_le_of : ∀ (l : List Int) (b : Int), (∀ x ∈ l, x ≤ b) → l.sum ≤ b * l.length
  | [], _, _ => by simp
  | y :: l, b, h => by
    have h0 : y ≤ b := h y List.mem_cons_self
    have := sum_le_of l b (fun z hz => h z (List.mem_cons_of_mem _ hz))
    rw [List.sum_cons, List.length_cons]
    have e : b * ((l.length + 1 : Nat) : Int) = b * l.length + b := by
      rw [Int.natCast_add, Int.mul_add]; simp
    omega
theorem w_yes {σ : L2.St} {H : Hp} {A B : Hp → Prop} (h : A H) : tYes σ H (fun b H3 => if b = true then A H3 else B H3) := by
  show (if true = true then A H else B H)
  rw [if_pos rfl]
  exact h
theorem lk_eq {f : Str} {v : V} {fs : List (Str × V)} : ((f, v) :: fs).lookup f = some v := by simp [List.lookup]
theorem lk_ne {f g : Str} {v : V} {fs : List (Str × V)} (h : (f == g) = false) : ((g, v) :: fs).lookup f = fs.lookup f := by simp [List.lookup, h]
theorem putF_eq {f : Str} {u v : V} {fs : List (Str × V)} : putF f v ((f, u) :: fs) = (f, v) :: fs := by simp [putF]
theorem putF_ne {f g : Str} {u v : V} {fs : List (Str × V)} (h : ¬ g = f) : putF f v ((g, u) :: fs) = (g, u) :: putF f v fs := by simp [putF, h]
theorem putF_nil {f : Str} {v : V} : putF f v [] = [(f, v)] := rfl
/-- a list stays where a thing of another kind at x changes -/
theorem _root_.L2.SqL.stay {K : PySem.W.Frag} {H H' : Hp} {a x : Addr} {xs : List V} {o : HO} (h : SqL K H a xs) (hx : H x = some o) (ho : ∀ ys, o ≠ .lst ys) (ho2 : ∀ b u, o ≠ .frz b u) (e : Ex [x] H H') : SqL K H' a xs := by
  rcases h with (h | ⟨u, h⟩) | h
  · exact .inl (.inl (e _ _ (nin fun z => ho _ (Option.some.inj ((z ▸ hx).symm.trans h))) h))
  · exact .inl (.inr ⟨u, e _ _ (nin fun z => ho2 _ _ (Option.some.inj ((z ▸ hx).symm.trans h))) h⟩)
  · exact .inr h
theorem sqT_of_k {K : PySem.W.Frag} {H : Hp} {a : Addr} {dd : Option Addr} {its : Array Value} {n : Nat} {sl : Array (Option Value)} {xs : List V}
    (l : K.lookup a = some ⟨.type "tuple", dd, .seq its n, sl⟩) (h : Vals xs its.toList) (hz : its.size ≤ 1000 := by simp) : SqT K H a xs :=
  .inr ⟨_, its, n, l, rfl, rfl, Nat.le_trans hz (by decide), h⟩
/-! rules whose reading names K, for use within a comprehension's block -/
section
variable {X : Cx} {K : PySem.W.Frag}
theorem ixLk (h : X.K = K) : IxR X (rIxL K) := by subst h; exact ix_list
theorem ixTk (h : X.K = K) : IxR X (rIxT K) := by subst h; exact ix_tup
theorem eqDk (h : X.K = K) (hu : X.A.units + 64 < cLine) : OpR X (compareOp .Eq) (rEqD K) := by subst h; exact op_eqD hu
theorem neDk (h : X.K = K) (hu : X.A.units + 64 < cLine) : OpR X (compareOp .NotEq) (rNeD K) := by subst h; exact op_neD hu
theorem inSk (h : X.K = K) : OpR X (compareOp .In) (rIn K false) := by subst h; exact op_in_seq
theorem niSk (h : X.K = K) : OpR X (compareOp .NotIn) (rIn K true) := by subst h; exact op_notIn_seq
def rLenQ (K : PySem.W.Frag) : List V → Hp → VK → Prop := fun xs H Q => ∃ p ys, xs = [.ref p] ∧ (SqL K H p ys ∨ SqT K H p ys) ∧ Q (.int ys.length) H
theorem lenk (h : X.K = K) : CallR X (.builtin "len") (rLenQ K) := by subst h; exact call_len_seq
theorem sumk (h : X.K = K) (hc : X.calm = true) : CallR X (.builtin "sum") (rSum K) := by subst h; exact cr_sum hc
theorem allk (h : X.K = K) (hc : X.calm = true) : CallR X (.builtin "all") (rAll K) := by subst h; exact cr_all hc
theorem anyk (h : X.K = K) (hc : X.calm = true) : CallR X (.builtin "any") (rAny K) := by subst h; exact cr_any hc
theorem pe_fldk {o : Expr} {ta : TE} {f : Str} {pos : Pos} (h : X.K = K) (ho : PE X o ta) (hb : attributeBase o f X.env (eval o X.env) = eval o X.env) : PE X (.Attribute o f pos) (tFld K ta f) := by subst h; exact pe_fld ho hb
theorem slLk (h : X.K = K) : SlR X (rSlL K) := by subst h; exact sl_list
theorem slTk (h : X.K = K) : SlR X (rSlT K) := by subst h; exact sl_tup
end
theorem pg_tupk {X : Cx} {K : PySem.W.Frag} {pos : Pos} {es : List Expr} {k : Nat} {t : TGs} {n : Nat} (hK : X.K = K) (hc : X.calm = true) (h : PGs X es t)
    (hn : (assignEach es X.env).length = n := by rfl) (hst : (assignEach es X.env).findIdx? (·.1) = none := by rfl) : PG X (.Tuple es k pos) (gTup K n t) := by subst hK; exact pg_tup hc h hn hst
/-- two tests joined, each known -/
theorem w_or {t u : TT} {σ : L2.St} {H : Hp} {Q : Bool → Hp → Prop} {b1 b2 : Bool} (h1 : ∀ Q' : Bool → Hp → Prop, Q' b1 H → t σ H Q') (h2 : ∀ Q' : Bool → Hp → Prop, Q' b2 H → u σ H Q') (q : Q (b1 || b2) H) : tOr t u σ H Q := by
  refine h1 _ ?_
  cases b1 with
  | true => exact iteT q
  | false => exact iteF (h2 _ q)
theorem w_and {t u : TT} {σ : L2.St} {H : Hp} {Q : Bool → Hp → Prop} {b1 b2 : Bool} (h1 : ∀ Q' : Bool → Hp → Prop, Q' b1 H → t σ H Q') (h2 : ∀ Q' : Bool → Hp → Prop, Q' b2 H → u σ H Q') (q : Q (b1 && b2) H) : tAnd t u σ H Q := by
  refine h1 _ ?_
  cases b1 with
  | true => exact iteT (h2 _ q)
  | false => exact iteF q
theorem w_ifor {t u : TT} {σ : L2.St} {H : Hp} {A B R : TS} {D : Ends} {b1 b2 : Bool} (h1 : ∀ Q' : Bool → Hp → Prop, Q' b1 H → t σ H Q') (h2 : ∀ Q' : Bool → Hp → Prop, Q' b2 H → u σ H Q')
    (q : if (b1 || b2) = true then A { D with nx := R D } σ H else B { D with nx := R D } σ H) : tSeq (tIfS (tOr t u) A B) R D σ H :=
  w_or (t := t) (u := u) h1 h2 q
theorem w_ifand {t u : TT} {σ : L2.St} {H : Hp} {A B R : TS} {D : Ends} {b1 b2 : Bool} (h1 : ∀ Q' : Bool → Hp → Prop, Q' b1 H → t σ H Q') (h2 : ∀ Q' : Bool → Hp → Prop, Q' b2 H → u σ H Q')
    (q : if (b1 && b2) = true then A { D with nx := R D } σ H else B { D with nx := R D } σ H) : tSeq (tIfS (tAnd t u) A B) R D σ H :=
  w_and (t := t) (u := u) h1 h2 q
/-! ### data: lists of ints, comparisons -/
theorem shaped_mk {d : PyData} (h1 : d.canLay0 = true) (h2 : d.depth ≤ 64) : SeqAt.shaped d = true := by
  unfold SeqAt.shaped
  rw [h1, decide_eq_true h2]
  rfl
theorem lay_ints : ∀ ns : List Int, PyData.canLayAll0 (ns.map PyData.int) = true
  | [] => rfl
  | _ :: r => by
    show (true && PyData.canLayAll0 (r.map PyData.int)) = true
    rw [lay_ints r]
    rfl
theorem depth_ints : ∀ ns : List Int, PyData.depthAll (ns.map PyData.int) = 0
  | [] => rfl
  | _ :: r => by
    show max 0 (PyData.depthAll (r.map PyData.int)) = 0
    rw [depth_ints r]
    rfl
theorem shaped_ints (ns : List Int) : SeqAt.shaped (.list (ns.map .int)) = true := shaped_mk (lay_ints ns) (by
  show PyData.depthAll (ns.map PyData.int) + 1 ≤ 64
  rw [depth_ints]
  decide)
theorem shaped_intsT (ns : List Int) : SeqAt.shaped (.tuple (ns.map .int)) = true := shaped_mk (lay_ints ns) (by
  show PyData.depthAll (ns.map PyData.int) + 1 ≤ 64
  rw [depth_ints]
  decide)
theorem eqvAll_ints : ∀ ns ms : List Int, PyData.eqvAll (ns.map .int) (ms.map .int) = decide (ns = ms)
  | [], [] => rfl
  | [], _ :: _ => rfl
  | _ :: _, [] => rfl
  | x :: r, y :: t => by
    show (PyData.eqv (.int x) (.int y) && PyData.eqvAll (r.map PyData.int) (t.map PyData.int)) = _
    rw [eqvAll_ints r t]
    show ((x == y) && decide (r = t)) = decide (x :: r = y :: t)
    by_cases h1 : x = y
    · by_cases h2 : r = t
      · subst h1 h2; simp
      · subst h1; simp [h2]
    · simp [h1]
theorem eqv_ints (ns ms : List Int) : PyData.eqv (.list (ns.map .int)) (.list (ms.map .int)) = decide (ns = ms) := by
  rw [PyData.eqv]
  exact eqvAll_ints ns ms
theorem eqv_intsT (ns ms : List Int) : PyData.eqv (.tuple (ns.map .int)) (.tuple (ms.map .int)) = decide (ns = ms) := by
  rw [PyData.eqv]
  exact eqvAll_ints ns ms
theorem dp_ints {K : PySem.W.Frag} {H : Hp} : ∀ ns : List Int, DpAll K H (ns.map V.int) (ns.map PyData.int)
  | [] => .nil
  | _ :: r => .cons (.int _) (dp_ints r)
/-! ### fractions as rationals: plain facts -/
theorem log2_lt' {i : Int} {b : Nat} (hb : 0 < b) (h : i.natAbs < 2 ^ b) : i.natAbs.log2 < b := PySem.Flt.log2_lt_of hb h
theorem gcd_pos_right {p q : Int} (hq : q ≠ 0) : 0 < Int.gcd p q := Nat.pos_of_ne_zero fun z => hq (Int.gcd_eq_zero_iff.mp z).2
def lowD (p q : Int) : Int := if q < 0 then -(Int.gcd p q : Int) else (Int.gcd p q : Int)
theorem lowD_ne {p q : Int} (hq : q ≠ 0) : lowD p q ≠ 0 := by
  have := gcd_pos_right (p := p) hq
  unfold lowD
  split <;> omega
theorem lowD_abs (p q : Int) : (lowD p q).natAbs = Int.gcd p q := by
  unfold lowD
  split
  · rw [Int.natAbs_neg, Int.natAbs_natCast]
  · rw [Int.natAbs_natCast]
theorem gcd_le_right {p q : Int} (hq : q ≠ 0) : Int.gcd p q ≤ q.natAbs := Nat.le_of_dvd (by omega) (by
  have := Int.gcd_dvd_natAbs_right p q
  exact this)
theorem low_num {p q : Int} (hq : q ≠ 0) : p.fdiv (lowD p q) = (Rat.divInt p q).num := by
  have hg := gcd_pos_right (p := p) hq
  obtain ⟨k, hk⟩ := Int.gcd_dvd_left p q
  rw [Rat.num_divInt, Int.gcd_comm q p]
  unfold lowD
  have hg' : (Int.gcd p q : Int) ≠ 0 := by omega
  generalize Int.gcd p q = g at hk hg hg'
  subst hk
  by_cases h : q < 0
  · rw [if_pos h, Int.sign_eq_neg_one_of_neg h]
    rw [show -1 * ((g : Int) * k) = (g : Int) * (-k) by rw [Int.mul_neg]; omega, Int.mul_ediv_cancel_left _ hg']
    rw [show (g : Int) * k = (-(g : Int)) * (-k) by rw [Int.neg_mul_neg]]
    exact Int.mul_fdiv_cancel_left _ (by omega)
  · rw [if_neg h, Int.sign_eq_one_of_pos (by omega), Int.one_mul, Int.mul_ediv_cancel_left _ hg']
    exact Int.mul_fdiv_cancel_left _ hg'
theorem low_den {p q : Int} (hq : q ≠ 0) : q.fdiv (lowD p q) = ((Rat.divInt p q).den : Int) := by
  have hg := gcd_pos_right (p := p) hq
  obtain ⟨k, hk⟩ := Int.gcd_dvd_right p q
  rw [Rat.den_divInt, if_neg hq, Int.gcd_comm q p]
  unfold lowD
  have hg' : (Int.gcd p q : Int) ≠ 0 := by omega
  generalize Int.gcd p q = g at hk hg hg'
  have hab : q.natAbs = g * k.natAbs := by rw [hk, Int.natAbs_mul, Int.natAbs_natCast]
  rw [hab, Nat.mul_div_cancel_left _ hg]
  by_cases h : q < 0
  · rw [if_pos h]
    have hk0 : k < 0 := by
      rcases Int.lt_or_le k 0 with z | z
      · exact z
      · have : 0 ≤ (g : Int) * k := Int.mul_nonneg (by omega) z
        omega
    rw [hk, show (g : Int) * k = (-(g : Int)) * (-k) by rw [Int.neg_mul_neg]]
    rw [Int.mul_fdiv_cancel_left _ (by omega)]
    omega
  · rw [if_neg h]
    have hk0 : 0 ≤ k := by
      rcases Int.lt_or_le k 0 with z | z
      · have : (g : Int) * k < 0 := Int.mul_neg_of_pos_of_neg (by omega) z
        omega
      · exact z
    rw [hk, Int.mul_fdiv_cancel_left _ hg']
    omega
/-! sizes -/
def Sz (n : Nat) (r : Rat) : Prop := r.num.natAbs < 2 ^ n ∧ r.den < 2 ^ n
theorem Sz.mono {m n : Nat} {r : Rat} (h : Sz m r) (e : m ≤ n) : Sz n r := ⟨Nat.lt_of_lt_of_le h.1 (Nat.pow_le_pow_right (by decide) e), Nat.lt_of_lt_of_le h.2 (Nat.pow_le_pow_right (by decide) e)⟩
theorem sz_divInt {p q : Int} {n : Nat} (hq : q ≠ 0) (h1 : p.natAbs < 2 ^ n) (h2 : q.natAbs < 2 ^ n) : Sz n (Rat.divInt p q) := by
  constructor
  · rw [Rat.num_divInt]
    refine Nat.lt_of_le_of_lt ?_ h1
    refine Nat.le_trans (Int.natAbs_ediv_le_natAbs _ _) ?_
    rw [Int.natAbs_mul]
    rcases Int.lt_trichotomy q 0 with h | h | h
    · rw [Int.sign_eq_neg_one_of_neg h]; simp
    · exact absurd h hq
    · rw [Int.sign_eq_one_of_pos h]; simp
  · rw [Rat.den_divInt, if_neg hq]
    exact Nat.lt_of_le_of_lt (Nat.div_le_self _ _) h2
theorem abs_mul_lt {i j : Int} {a b : Nat} (ha : i.natAbs < 2 ^ a) (hb : j.natAbs < 2 ^ b) : (i * j).natAbs < 2 ^ (a + b) := wide_lt ha hb
theorem abs_add_lt {i j : Int} {a : Nat} (ha : i.natAbs < 2 ^ a) (hb : j.natAbs < 2 ^ a) : (i + j).natAbs < 2 ^ (a + 1) := by
  have : (i + j).natAbs ≤ i.natAbs + j.natAbs := Int.natAbs_add_le i j
  rw [Nat.pow_succ]
  omega
theorem abs_sub_lt {i j : Int} {a : Nat} (ha : i.natAbs < 2 ^ a) (hb : j.natAbs < 2 ^ a) : (i - j).natAbs < 2 ^ (a + 1) := by
  have : (i - j).natAbs ≤ i.natAbs + j.natAbs := Int.natAbs_sub_le i j
  rw [Nat.pow_succ]
  omega
theorem pow_up {x a b : Nat} (h : x < 2 ^ a) (e : a ≤ b) : x < 2 ^ b := Nat.lt_of_lt_of_le h (Nat.pow_le_pow_right (by decide) e)
theorem Sz.d {n : Nat} {r : Rat} (h : Sz n r) : (r.den : Int).natAbs < 2 ^ n := by rw [Int.natAbs_natCast]; exact h.2
theorem den_ne (r : Rat) : (r.den : Int) ≠ 0 := by have := r.den_pos; omega
theorem add_divInt (a b : Rat) : Rat.divInt (a.num * b.den + b.num * a.den) (a.den * b.den) = a + b := by
  rw [← Rat.divInt_add_divInt _ _ (den_ne a) (den_ne b), Rat.num_divInt_den, Rat.num_divInt_den]
theorem sub_divInt (a b : Rat) : Rat.divInt (a.num * b.den - b.num * a.den) (a.den * b.den) = a - b := by
  rw [← Rat.divInt_sub_divInt _ _ (den_ne a) (den_ne b), Rat.num_divInt_den, Rat.num_divInt_den]
theorem mul_divInt (a b : Rat) : Rat.divInt (a.num * b.num) (a.den * b.den) = a * b := by
  rw [← Rat.divInt_mul_divInt, Rat.num_divInt_den, Rat.num_divInt_den]
theorem div_divInt (a b : Rat) : Rat.divInt (a.num * b.den) (a.den * b.num) = a / b := by
  rw [← Rat.divInt_mul_divInt, Rat.num_divInt_den, Rat.div_def]
  congr 1
  rw [← Rat.inv_divInt, Rat.num_divInt_den]
theorem sz_num {m n : Nat} {a b : Rat} (ha : Sz m a) (hb : Sz n b) : (a.num * b.den + b.num * a.den).natAbs < 2 ^ (m + n + 1) := abs_add_lt (abs_mul_lt ha.1 hb.d) (by rw [Nat.add_comm m n]; exact abs_mul_lt hb.1 ha.d)
theorem sz_numS {m n : Nat} {a b : Rat} (ha : Sz m a) (hb : Sz n b) : (a.num * b.den - b.num * a.den).natAbs < 2 ^ (m + n + 1) := abs_sub_lt (abs_mul_lt ha.1 hb.d) (by rw [Nat.add_comm m n]; exact abs_mul_lt hb.1 ha.d)
theorem sz_den {m n : Nat} {a b : Rat} (ha : Sz m a) (hb : Sz n b) : ((a.den : Int) * b.den).natAbs < 2 ^ (m + n) := abs_mul_lt ha.d hb.d
theorem dd_ne (a b : Rat) : (a.den : Int) * b.den ≠ 0 := Int.mul_ne_zero (den_ne a) (den_ne b)
theorem Sz.add {m n : Nat} {a b : Rat} (ha : Sz m a) (hb : Sz n b) : Sz (m + n + 1) (a + b) := by
  rw [← add_divInt]
  exact sz_divInt (dd_ne a b) (sz_num ha hb) (pow_up (sz_den ha hb) (by omega))
theorem Sz.sub {m n : Nat} {a b : Rat} (ha : Sz m a) (hb : Sz n b) : Sz (m + n + 1) (a - b) := by
  rw [← sub_divInt]
  exact sz_divInt (dd_ne a b) (sz_numS ha hb) (pow_up (sz_den ha hb) (by omega))
theorem Sz.mul {m n : Nat} {a b : Rat} (ha : Sz m a) (hb : Sz n b) : Sz (m + n) (a * b) := by
  rw [← mul_divInt]
  exact sz_divInt (dd_ne a b) (abs_mul_lt ha.1 hb.1) (sz_den ha hb)
theorem num_ne {b : Rat} (h : b ≠ 0) : b.num ≠ 0 := fun z => h (Rat.num_eq_zero.mp z)
theorem Sz.div {m n : Nat} {a b : Rat} (ha : Sz m a) (hb : Sz n b) (h0 : b ≠ 0) : Sz (m + n) (a / b) := by
  rw [← div_divInt]
  exact sz_divInt (Int.mul_ne_zero (den_ne a) (num_ne h0)) (abs_mul_lt ha.1 hb.d) (abs_mul_lt ha.d hb.1)
theorem Sz.neg {m : Nat} {a : Rat} (ha : Sz m a) : Sz m (-a) := by
  refine ⟨?_, ?_⟩
  · show (-a.num).natAbs < 2 ^ m
    rw [Int.natAbs_neg]
    exact ha.1
  · exact ha.2
theorem sz_zero : Sz 1 0 := ⟨by decide, by decide⟩
theorem sz_one : Sz 1 1 := ⟨by decide, by decide⟩
theorem rat_eq {a b : Rat} (h1 : a.num = b.num) (h2 : (a.den : Int) = b.den) : a = b := Rat.ext h1 (Int.ofNat.inj h2)
theorem rat_list_eq (a b : Rat) : decide ([a.num, (a.den : Int)] = [b.num, (b.den : Int)]) = decide (a = b) := by
  by_cases h : a = b
  · subst h; simp
  · rw [decide_eq_false h]
    refine decide_eq_false fun z => h ?_
    injection z with z1 z2
    injection z2 with z2 _
    exact rat_eq z1 z2
/-! Euclid's turns -/
theorem euc_gcd (a b : Int) : Int.gcd b (a.fmod b) = Int.gcd a b := by
  by_cases hb : b = 0
  · subst hb; rw [Int.fmod_zero]; exact Int.gcd_comm 0 a
  · rw [show a.fmod b = a - b * a.fdiv b from Int.fmod_def a b]
    rw [Int.gcd_comm b, Int.gcd_sub_mul_left_left]
theorem euc_step {a b : Int} {m : Nat} (h0 : 0 < b) (hb : b < a) (h : a.natAbs * b.natAbs < 2 ^ (m + 1)) : b.natAbs * (a.fmod b).natAbs < 2 ^ m := by
  have hr0 : 0 ≤ a.fmod b := Int.fmod_nonneg_of_pos a h0
  have hr1 : a.fmod b < b := Int.fmod_lt_of_pos a h0
  have hd : a = b * a.fdiv b + a.fmod b := (Int.mul_fdiv_add_fmod a b).symm
  have hq : 1 ≤ a.fdiv b := by
    rcases Int.lt_or_le (a.fdiv b) 1 with z | z
    · have : b * a.fdiv b ≤ 0 := Int.mul_nonpos_of_nonneg_of_nonpos (by omega) (by omega)
      omega
    · exact z
  have h2 : 2 * (a.fmod b) < a := by
    have : b * 1 ≤ b * a.fdiv b := Int.mul_le_mul_of_nonneg_left hq (by omega)
    omega
  have h3 : 2 * (a.fmod b).natAbs ≤ a.natAbs := by omega
  have h4 : 2 * (b.natAbs * (a.fmod b).natAbs) ≤ a.natAbs * b.natAbs := by
    calc 2 * (b.natAbs * (a.fmod b).natAbs) = (2 * (a.fmod b).natAbs) * b.natAbs := by rw [Nat.mul_comm b.natAbs, Nat.mul_assoc]
      _ ≤ a.natAbs * b.natAbs := Nat.mul_le_mul_right _ h3
  rw [Nat.pow_succ] at h
  omega
/-- what stands behind i turns: m is what the product may still be -/
def Euc (p q : Int) (n i : Nat) (a b : Int) : Prop := 0 ≤ a ∧ 0 ≤ b ∧ (0 < a ∨ 0 < b) ∧ Int.gcd a b = Int.gcd p q ∧ a.natAbs * b.natAbs < 2 ^ (n + 1 - max i 1) ∧ (0 < i → b < a)
theorem Euc.start {p q : Int} {n : Nat} (hq : q ≠ 0) (h : p.natAbs * q.natAbs < 2 ^ n) : Euc p q n 0 (p.natAbs : Int) (q.natAbs : Int) := by
  refine ⟨by omega, by omega, by omega, ?_, ?_, fun z => absurd z (by decide)⟩
  · exact Int.gcd_natAbs_natAbs' p q
  · rw [Int.natAbs_natCast, Int.natAbs_natCast]
    exact h
where
  Int.gcd_natAbs_natAbs' (p q : Int) : Int.gcd (p.natAbs : Int) (q.natAbs : Int) = Int.gcd p q := by
    unfold Int.gcd
    rw [Int.natAbs_natCast, Int.natAbs_natCast]
theorem Euc.next {p q : Int} {n i : Nat} {a b : Int} (h : Euc p q n i a b) (hi : i ≤ n) (hb : b ≠ 0) : Euc p q n (i + 1) b (a.fmod b) := by
  obtain ⟨h1, h2, h3, h4, h5, h6⟩ := h
  have b0 : 0 < b := by omega
  have hr0 : 0 ≤ a.fmod b := Int.fmod_nonneg_of_pos a b0
  have hr1 : a.fmod b < b := Int.fmod_lt_of_pos a b0
  refine ⟨h2, hr0, .inl b0, by rw [euc_gcd, h4], ?_, fun _ => hr1⟩
  by_cases z : b < a
  · rcases Nat.eq_zero_or_pos (n + 1 - max i 1) with e | e
    · rw [e] at h5
      have := h5
      have : 1 ≤ a.natAbs * b.natAbs := Nat.mul_pos (by omega) (by omega)
      omega
    · have e1 : n + 1 - max i 1 = (n + 1 - max i 1 - 1) + 1 := by omega
      rw [e1] at h5
      exact pow_up (euc_step b0 z h5) (by omega)
  · have hi0 : i = 0 := by
      rcases Nat.eq_zero_or_pos i with e | e
      · exact e
      · exact absurd (h6 e) z
    subst hi0
    have hle : (a.fmod b).natAbs ≤ a.natAbs := by
      by_cases z2 : a < b
      · rw [Int.fmod_eq_emod_of_nonneg a h2, Int.emod_eq_of_lt h1 z2]; exact Nat.le_refl _
      · have : a = b := by omega
        rw [this, Int.fmod_self]; omega
    have : b.natAbs * (a.fmod b).natAbs ≤ a.natAbs * b.natAbs := by
      rw [Nat.mul_comm]
      exact Nat.mul_le_mul_right _ hle
    exact Nat.lt_of_le_of_lt this h5
theorem Euc.ended {p q : Int} {n : Nat} {a b : Int} (h : Euc p q n (n + 1) a b) : b = 0 := by
  obtain ⟨h1, h2, h3, h4, h5, h6⟩ := h
  have hlt := h6 (by omega)
  rw [show n + 1 - max (n + 1) 1 = 0 by omega, Nat.pow_zero] at h5
  rcases Nat.eq_zero_or_pos b.natAbs with e | e
  · omega
  · have : 1 ≤ a.natAbs * b.natAbs := Nat.mul_pos (by omega) e
    omega
theorem Euc.gcd {p q : Int} {n i : Nat} {a : Int} (h : Euc p q n i a 0) : a = (Int.gcd p q : Int) := by
  obtain ⟨h1, h2, h3, h4, h5, h6⟩ := h
  rw [Int.gcd_zero_right] at h4
  omega
/-! ### own exceptions: made without arguments, a local def called in a try, isinstance of what is caught -/
section
variable {X : Cx} {C : Addr} {bmB : List Value} {B newId initId : String}
/-- X(), no argument, no own __init__ -/
theorem pmk_own0 {x : Str} {p pos : Pos} (F : ExcBaseFacts B newId initId bmB) (q : PySem.W.excIn X.K C bmB newId = true) (gC : X.mg x = some (.ref C))
    (kC : PySem.W.keepIn X.K (.ref C) = true) (r : Raises X (.ref C)) (hg : Gl X x)
    (hdb : (x == ("__debug__" : Str)) = false := by decide) :
    PMk X (.Call (.Name x p) [] [] pos) (fun _ H Q => Q (.ref C) none H) := by
  intro pins s σ H Q I h
  refine wpAny_Call_Name_kw (ld_glob I hg gC ?_ hdb)
  refine PySem.W.callWith_K0 I.kIn kC ?_
  obtain ⟨bm, N, nm, qn, bs, hdct, sn, sub, ab, col, dd, k0, k1, k2, k3, k5, mN, hC, hN, hni, T⟩ :=
    exc_obj I.kIn q
  show wpAny _ _ (call (.ref C) []) _ _ _
  exact wpAny_call_exc_subT F T hC hN hni (fun h' e hm =>
    mk_of I hm r h (I.hok.gone hm.new)) (Nat.zero_le _)
variable {CX : CXT} {k i : Nat} {f : Addr} {fd : FuncData} {ps : List Str} {sp : Sp} {E : L2.St → XK} {x : Str} {p pos : Pos} {e : Expr} {es : List Expr} {t : TA}
def tCallLS (i : Nat) (f : Addr) (sp : Sp) (E : L2.St → XK) (t : TA) : TE := fun σ H Q => σ[i]? = some (some (.ref f)) ∧ t σ H fun vs H1 => sp vs H1 Q (E σ)
/-- a local name that holds a def, called; what it lets out is wished for at the slots -/
theorem pe_callLS (F : FnOk X.prog X.w X.K X.mg X.base CX k f fd ps sp) (hr : Room k X.A) (hN : X.N[i]? = some x) (hv : Vis X.env.scope x)
    (hk : PySem.W.keepIn X.K (.ref f) = true) (hb : Binds X.K fd ps []) (hx : ∀ σ, PassesAt CX X σ (E σ)) (ha : PA X (e :: es) t)
    (hdb : (x == ("__debug__" : Str)) = false := by decide)
    (hcd : (x == ("__classdict__" : Str)) = false := by decide)
    (he : starEach (e :: es) X.env = (false, eval e X.env) :: starEach es X.env := by rfl)
    (hpl : (backTo pos (starEach es X.env)).any (·.1) = false := by rfl) :
    PE X (.Call (.Name x p) (e :: es) [] pos) (tCallLS i f sp E t) := by
  refine ⟨fun pins s σ H Q I ⟨hs, ht⟩ => ?_⟩
  have ld := (pe_var (pos := p) hN hv hdb hcd).run pins s σ H
    (fun v H1 => v = .ref f ∧ H1 = H) I ⟨.ref f, hs, rfl, rfl⟩
  refine wpAny_Call_Name_kw (thn ld fun u s1 z => ?_)
  obtain ⟨v, H1, I1, r1, rfl, rfl⟩ := z
  cases r1
  refine PySem.W.callWith_K (h₀ := X.base) I.ok.mod.kin hk
    (thn (ha.run pos pins s1 σ _ _ I1 ht) fun us s2 z2 => ?_) he hpl
  obtain ⟨vs, H2, I2, r, q⟩ := z2
  exact ⟨I2.kIn, run_fnS F hr hb (hx σ) I2 r q⟩
/-- isinstance(e, c) within the suite, e what it caught -/
def tIsE (K : PySem.W.Frag) (D a : Addr) (cls : Value) (d : Option Addr) (t : TA) : TE := fun σ H Q => cls = .ref D ∧ d = none ∧ tCB (rIsE K D a) t σ H Q
theorem pe_isE {a D : Addr} {oe : Obj} {pn : List (Addr × Obj)} {cls : Value} {d : Option Addr} (C : ExcC X.K D) (hz : Zc cls d oe) (hf : ∃ vs, oe.data = .fields vs)
    (hg : Gl (X.suite a ((a, oe) :: pn)) "isinstance") (hm : X.mg "isinstance" = none) (ha : PA (X.suite a ((a, oe) :: pn)) (e :: es) t)
    (he : starEach (e :: es) X.env = (false, eval e X.env) :: starEach es X.env := by rfl)
    (hpl : (backTo pos (starEach es X.env)).any (·.1) = false := by rfl) :
    PE (X.suite a ((a, oe) :: pn)) (.Call (.Name "isinstance" p) (e :: es) [] pos) (tIsE X.K D a cls d t) := by
  refine ⟨fun pins s σ H Q I h => ?_⟩
  obtain ⟨rfl, rfl, h⟩ := h
  exact (pe_callB (call_isE C hz hf) hg hm (by decide +kernel) ha (by decide) (by decide) he hpl).run pins s σ H Q I h
end
theorem kit_sub {K : PySem.W.Frag} {C D : Addr} (hd : PySem.W.hasDictIn K C = true) (ty : PySem.W.typeIn K (.ref C) = some (.type "type"))
    (s : PySem.W.subIn K (.ref D) (.ref C) = some true) : PySem.W.kitOne K (.ref D) (.ref C) = some true := by
  obtain ⟨cd, hc, _⟩ := PySem.W.any_some hd
  unfold PySem.W.kitOne
  split
  · rfl
  · show (if ((PySem.W.clsIn K C).isSome && PySem.W.typeIn K (.ref C) == some (.type "type")) = true
      then PySem.W.subIn K (.ref D) (.ref C) else none) = some true
    rw [hc, ty]
    exact s
/-! ### own exceptions with an own __init__ that stores one field; an own class whose __init__ may raise, made in a try -/
section
variable {X : Cx} {CX : CXT} {k : Nat} {f C : Addr} {fd : FuncData} {ps : List Str} {sp : Sp} {E : L2.St → XK} {x : Str} {p pos : Pos} {e : Expr} {es : List Expr} {t : TA}
theorem run_makeS {pins : List (Addr × Obj)} {σ : L2.St} {H : Hp} {s : Shared} {Q : VK} {us : List Value} {vs : List V} (M : Mk X.K C f) (F : FnOk X.prog X.w X.K X.mg X.base CX k f fd ps sp) (hr : Room (k + 1) X.A) (hb : Binds X.K fd ps [])
    (hx : PassesAt CX X σ (E σ)) (I : Inv X pins σ H s) (r : Vals vs us)
    (h : ∀ x dx, H x = none → H dx = none → dx ≠ x → sp (.ref x :: vs) (upd (upd H dx (.own x)) x (.ins C dx [])) (fun v H2 => v = .non ∧ Q (.ref x) H2) (E σ)) :
    wpAny (model X.prog X.w) X.A (call (.ref C) us) (EP X pins σ Q) X.xe s := by
  have hq := h (s.heap.objs.size + 1) s.heap.objs.size (I.hok.fresh (Nat.le_succ _)) (I.hok.fresh (Nat.le_refl _)) (Nat.ne_of_lt (Nat.lt_succ_self _))
  have I2 := Inv.made (C := C) I
  have r2 : Vals (V.ref (s.heap.objs.size + 1) :: vs) (Value.ref (s.heap.objs.size + 1) :: us) := .cons rfl r
  have hl : (Value.ref (s.heap.objs.size + 1) :: us).length = ps.length := by
    have e := r2.length
    rw [F.len _ _ _ _ hq] at e
    exact e.symm
  have hb' := hb s (Value.ref (s.heap.objs.size + 1) :: us)
  refine wpAny_call (make_map (f := f) I.kIn M.makes M.init (beq_iff_eq.mp M.fn) (codeAny_mono (F.run _ X.stack _ _ ⟨Value.ref (s.heap.objs.size + 1) :: us, []⟩ (Value.ref (s.heap.objs.size + 1) :: us) _ _ (E σ) (hr.make C us [])
    (I2.env0.make C us []) (by simpa using hb _ (Value.ref (s.heap.objs.size + 1) :: us) I2.kIn (by simpa using hl)) r2 hq) fun r s' hq' => ?_))
  cases r with
  | error e => exact hx pins _ _ e s' I2 hq'
  | ok fl =>
    cases fl with
    | ret u =>
      obtain ⟨v, H', I3, rv, ev, q3⟩ := I2.after hq'
      subst ev
      exact ⟨rv, ⟨V.ref (s.heap.objs.size + 1), H', I3, rfl, q3⟩⟩
    | next => exact False.elim hq'
    | brk => exact False.elim hq'
    | cont => exact False.elim hq'
def tMakeS (C : Addr) (sp : Sp) (E : L2.St → XK) (t : TA) : TE := fun σ H Q => t σ H fun vs H1 => ∀ x dx, H1 x = none → H1 dx = none → dx ≠ x → sp (.ref x :: vs) (upd (upd H1 dx (.own x)) x (.ins C dx [])) (fun v H2 => v = .non ∧ Q (.ref x) H2) (E σ)
theorem pe_makeS (M : Mk X.K C f) (F : FnOk X.prog X.w X.K X.mg X.base CX k f fd ps sp) (hr : Room (k + 1) X.A) (hg : Gl X x) (hm : X.mg x = some (.ref C)) (hb : Binds X.K fd ps []) (hx : ∀ σ, PassesAt CX X σ (E σ))
    (ha : PA X (e :: es) t) (hdb : (x == ("__debug__" : Str)) = false := by decide) (he : starEach (e :: es) X.env = (false, eval e X.env) :: starEach es X.env := by rfl) (hpl : (backTo pos (starEach es X.env)).any (·.1) = false := by rfl) :
    PE X (.Call (.Name x p) (e :: es) [] pos) (tMakeS C sp E t) := by
  refine ⟨fun pins s σ H Q I h => ?_⟩
  refine wpAny_Call_Name_kw (ld_glob I hg hm ?_ hdb)
  refine PySem.W.callWith_K (h₀ := X.base) I.ok.mod.kin M.kp (thn (ha.run pos pins s σ H _ I h) fun us s1 ⟨vs, H1, I1, r, q⟩ => ⟨I1.kIn, ?_⟩) he hpl
  exact run_makeS M F hr hb (hx σ) I1 r q
/-- the __init__ of an exception that stores its one argument -/
def sp_exc1 (K : PySem.W.Frag) (C : Addr) (fld : Str) : Sp := fun vs H Q _ => ∃ (a : Addr) (v : V), vs = [.ref a, v] ∧ H a = some (exo a C none) ∧ ∀ dx, H dx = none → dx ≠ a → Q .non (upd (upd H dx (exd dx [(fld, v)])) a (exo a C (some dx)))
end
/-- X(v): the exception is let go; its dict holds the field -/
theorem exc1_made {K : PySem.W.Frag} {C a : Addr} {fld : Str} {v : V} {H1 : Hp} {Q : XK} {E : XK} (ha : H1 a = none) (q : ∀ d H', Same H1 H' → H1 d = none → H' d = some (.xd [(fld, v)]) → Q (.ref C) (some d) H') :
    sp_exc1 K C fld (.ref a :: ([v] ++ [])) (upd H1 a (exo a C none)) (fun v H2 => v = .non ∧ ∃ (d : Addr) (fs : List (Str × V)), H2 a = some (exo a C (some d)) ∧ H2 d = some (exd d fs) ∧ H1 d = none ∧ Q (.ref C) (some d) (upd (del H2 a) d (.xd fs))) E := by
  refine ⟨a, v, rfl, upd_same, fun dx hdx ne => ⟨rfl, dx, [(fld, v)], upd_same, ?_, ?_, ?_⟩⟩
  · rw [upd_ne ne, upd_same]
  · rw [upd_ne ne] at hdx
    exact hdx
  · have h0 : H1 dx = none := by rw [upd_ne ne] at hdx; exact hdx
    refine q dx _ (fun b o hb => ?_) h0 upd_same
    have n1 : b ≠ a := ne_of_none hb ha
    have n2 : b ≠ dx := ne_of_none hb h0
    rw [upd_ne n2, del_ne n1, upd_ne n1, upd_ne n2, upd_ne n1]
    exact hb
theorem refs_sub (a : Addr) : PySem.HandSPX.refsVE [.ref a, .type "ValueError", .type "Exception", .type "BaseException", .type "object"] = true := by
  show PySem.HandSPX.refsVE [.type "ValueError", .type "Exception", .type "BaseException", .type "object"] = true
  decide +kernel
/-! ### own methods that may raise, called in a try -/
section
variable {X : Cx} {CX : CXT} {k : Nat} {f C : Addr} {fd : FuncData} {ps : List Str} {sp : Sp} {E : L2.St → XK} {x m : Str} {p pos apos : Pos} {e o : Expr} {es : List Expr} {ta : TE} {t : TA}
def tMethS (C : Addr) (m : Str) (sp : Sp) (E : L2.St → XK) (ta : TE) (t : TA) : TE := fun σ H Q => ta σ H fun x H1 => ∃ a dx fs, x = .ref a ∧ H1 a = some (.ins C dx fs) ∧ fs.lookup m = none ∧ t σ H1 fun vs H2 => sp (x :: vs) H2 Q (E σ)
theorem pe_meth0S {pl : Sem Bool} (he : PE X o ta) (c : Cls X.K C) (hm : Meth X.K C m f) (F : FnOk X.prog X.w X.K X.mg X.base CX k f fd ps sp) (hr : Room k X.A) (hb : Binds X.K fd ps []) (hx : ∀ σ, PassesAt CX X σ (E σ))
    (ht : eval (.Call (.Attribute o m apos) [] [] pos) X.env = (do
      let ov ← eval o X.env
      standAt apos.atName
      let (f, first) ← holding [ov] (getMethod ov m pl)
      callWith pos f first (backTo pos (starEach [] X.env)) (backToKw pos (keywordEach [] X.env))) := by rfl) :
    PE X (.Call (.Attribute o m apos) [] [] pos) (tMethS C m sp E ta tNil) := by
  refine ⟨fun pins s σ H Q I h => ?_⟩
  refine PySem.W.methodCall_KW (pl := pl) (thn (he.run pins s σ H _ I h) fun u s1 ⟨x, H1, I1, rx, a, dx, fs, ex, ea, l, q⟩ => ?_) ht
  subst ex
  obtain rfl : u = Value.ref a := rx
  refine getmeth_ok I1 ea c hm l ?_
  exact PySem.W.callWith_K0 (first := [.ref a]) I1.kIn hm.kp (run_fnS (us := [.ref a]) (vs := [.ref a]) F hr hb (hx σ) I1 (.cons rfl .nil) q)
theorem pe_methS {pl : Sem Bool} (he : PE X o ta) (c : Cls X.K C) (hm : Meth X.K C m f) (F : FnOk X.prog X.w X.K X.mg X.base CX k f fd ps sp) (hr : Room k X.A) (hb : Binds X.K fd ps []) (hx : ∀ σ, PassesAt CX X σ (E σ)) (ha : PA X (e :: es) t)
    (ht : eval (.Call (.Attribute o m apos) (e :: es) [] pos) X.env = (do
      let ov ← eval o X.env
      standAt apos.atName
      let (f, first) ← holding [ov] (getMethod ov m pl)
      callWith pos f first (backTo pos (starEach (e :: es) X.env)) (backToKw pos (keywordEach [] X.env))) := by rfl)
    (hst : starEach (e :: es) X.env = (false, eval e X.env) :: starEach es X.env := by rfl) (hpl : (backTo pos (starEach es X.env)).any (·.1) = false := by rfl) :
    PE X (.Call (.Attribute o m apos) (e :: es) [] pos) (tMethS C m sp E ta t) := by
  refine ⟨fun pins s σ H Q I h => ?_⟩
  refine PySem.W.methodCall_KW (pl := pl) (thn (he.run pins s σ H _ I h) fun u s1 ⟨x, H1, I1, rx, a, dx, fs, ex, ea, l, q⟩ => ?_) ht
  subst ex
  obtain rfl : u = Value.ref a := rx
  refine getmeth_ok I1 ea c hm l ?_
  refine PySem.W.callWith_K (first := [.ref a]) (h₀ := X.base) I.ok.mod.kin hm.kp (thn (ha.run pos pins s1 σ H1 _ I1 q) fun us s2 ⟨vs, H2, I2, r, q2⟩ => ⟨I2.kIn, ?_⟩) hst hpl
  exact run_fnS (us := .ref a :: us) (vs := .ref a :: vs) F hr hb (hx σ) I2 (.cons rfl r) q2
end
theorem mk_sameX {H : Hp} {x dx C : Addr} (hx : H x = none) (hdx : H dx = none) : Same H (upd (upd H dx (.own x)) x (.ins C dx [])) := (same_upd hdx).mut hx
theorem ex_sameX {H H1 H' : Hp} {x : Addr} (hx : H x = none) (e : Same H H1) (e1 : Ex [x] H1 H') : Same H H' := fun b o hb => e1 b o (nin (ne_of_none hb hx)) (e b o hb)
/-! ### the pure layer: data, owned objects, the frozen part of the heap -/
inductive D where
  | non | bl (b : Bool) | int (i : Int) | str (x : Str) | lst (ds : List D) | tup (ds : List D) | dic (w : World) (ks ds : List D) | dik (ks : List Key) (ds : List D) | obj (C : Addr) (ns : List Str) (ds : List D) | scr (ns : List Int) | ty (n : String) | opq (v : V) | xv (a C : Addr) (d : Option Addr) (ns : List Str) (ds : List D)
mutual
/-- an object of one's own: a list, a dict; with parts that may be objects of their own: a list, a tuple, an instance -/
inductive O where
  | lst (ds : List D) | dk (kvs : List (Key × D)) | dn (w : World) (kvs : List (D × D))
  | nl (cs : List S) | nt (cs : List S) | ob (C : Addr) (ns : List Str) (cs : List S)
/-- data; an object of one's own (true: lent); a part of which nothing is said but its value -/
inductive S where
  | fr (d : D) | ow (b : Bool) (o : O) | hid (v : V)
end
abbrev Sl := List (Option S)
def keyD : D → Option Key
  | .int i => some (.inl i)
  | .str x => some (.inr x)
  | _ => none
def dKey : Key → D
  | .inl i => .int i
  | .inr x => .str x
mutual
def D.hash (w : World) : D → Int
  | .int i => hashInt i
  | .str x => hashStr w x
  | .tup ds => reduceHash (Builtin.Tuple.tupleHashOf (D.hashes w ds))
  | .non => 0
  | .bl _ => 0
  | .lst _ => 0
  | .dic _ _ _ => 0
  | .dik _ _ => 0
  | .obj _ _ _ => 0
  | .scr _ => 0
  | .ty _ => 0
  | .opq _ => 0
  | .xv _ _ _ _ _ => 0
def D.hashes (w : World) : List D → List Int
  | [] => []
  | d :: ds => d.hash w :: D.hashes w ds
end
/-- what a dict of data keys is made of -/
def D.hkN : Nat → D → Bool
  | _, .int _ => true
  | _, .str x => PyData.strOk x
  | n + 1, .tup ds => ds.all (D.hkN n)
  | _, _ => false
/-- the dict at l whose keys are data (tuples), known by their addresses -/
def dnO (w : World) (l : Addr) (kvs : List (D × Addr × V)) : HO := .ext fun h => kvs.length ≤ sizeLine ∧ (l == sysModules) = false ∧ ∃ xs : List (D × Addr × Value), Paired (fun p q => p.1 = q.1 ∧ p.2.1 = q.2.1 ∧ RelV p.2.2 q.2.2) kvs xs ∧
  ∃ o es ep, h.get? l = some o ∧ o.ExactDict ∧ o.data = .dict es ep ∧ es.toList = xs.map (fun x => (⟨x.1.hash w, .ref x.2.1, x.2.2⟩ : DictEntry)) ∧ (xs.map (·.1)).Nodup
mutual
def O.dat : O → D
  | .lst ds => .lst ds
  | .dk kvs => .dik (kvs.map (·.1)) (kvs.map (·.2))
  | .dn w kvs => .dic w (kvs.map (·.1)) (kvs.map (·.2))
  | .nl cs => .lst (S.dats cs)
  | .nt cs => .tup (S.dats cs)
  | .ob C ns cs => .obj C ns (S.dats cs)
def S.dat : S → D
  | .fr d => d
  | .ow _ o => o.dat
  | .hid v => .opq v
def S.dats : List S → List D
  | [] => []
  | c :: cs => c.dat :: S.dats cs
end
mutual
def Rp (K : PySem.W.Frag) (F : Hp) : D → V → Prop
  | .non, v => v = .non
  | .bl b, v => v = .bl b
  | .int i, v => v = .int i
  | .str x, v => v = .str x
  | .lst ds, v => ∃ a vs, v = .ref a ∧ F a = some (.lst vs) ∧ RpA K F ds vs
  | .scr ns, v => ∃ a, v = .ref a ∧ SqL K F a (ns.map V.int)
  | .ty n, v => v = .ty n
  | .opq u, v => v = u
  | .xv a _ d ns ds, v => v = .ref a ∧ ((ns = [] ∧ ds = [] ∧ d = none) ∨ ∃ b vs, d = some b ∧ F b = some (.xd (ns.zip vs)) ∧ (ns.length = vs.length ∧ ns ≠ []) ∧ RpA K F ds vs)
  | .tup ds, v => ∃ a vs, v = .ref a ∧ SqT K F a vs ∧ RpA K F ds vs
  | .dic w ks ds, v => ∃ (a : Addr) (ws : List (D × Addr × V)), v = .ref a ∧ F a = some (dnO w a ws) ∧ ks = ws.map (·.1) ∧ (∀ k ∈ ks, D.hkN 6 k = true) ∧ RpA K F ks (ws.map fun p => .ref p.2.1) ∧ RpA K F ds (ws.map (·.2.2))
  | .dik ks ds, v => ∃ (a : Addr) (ws : List (Key × V)), v = .ref a ∧ Rd F a (.dK ws) ∧ ks = ws.map (·.1) ∧ RpA K F ds (ws.map (·.2))
  | .obj C ns ds, v => ∃ a dx vs, v = .ref a ∧ F a = some (.ins C dx (ns.zip vs)) ∧ ns.length = vs.length ∧ RpA K F ds vs
def RpA (K : PySem.W.Frag) (F : Hp) : List D → List V → Prop
  | [], vs => vs = []
  | d :: ds, vs => ∃ v ws, vs = v :: ws ∧ Rp K F d v ∧ RpA K F ds ws
end
theorem rd_same {F F' : Hp} {a : Addr} {u : HO} (e : Same F F') (h : Rd F a u) : Rd F' a u := by
  rcases h with h | ⟨o, h⟩
  · exact .inl (e _ _ h)
  · exact .inr ⟨o, e _ _ h⟩
section
variable {K : PySem.W.Frag} {F F' H H' : Hp}
mutual
theorem Rp.mono (e : Same F F') : ∀ {d : D} {v : V}, Rp K F d v → Rp K F' d v
  | .non, _, h => h
  | .bl _, _, h => h
  | .int _, _, h => h
  | .str _, _, h => h
  | .ty _, _, h => h
  | .opq _, _, h => h
  | .xv _ _ _ _ _, _, h => let ⟨e1, h1⟩ := h; ⟨e1, h1.imp id fun ⟨b, vs, e2, h2, h3, h4⟩ => ⟨b, vs, e2, e _ _ h2, h3, RpA.mono e h4⟩⟩
  | .lst ds, _, h => let ⟨a, vs, e1, h1, h2⟩ := h; ⟨a, vs, e1, e _ _ h1, RpA.mono e h2⟩
  | .scr ds, _, h => let ⟨a, e1, h1⟩ := h; ⟨a, e1, e.seq h1⟩
  | .tup ds, _, h => let ⟨a, vs, e1, h1, h2⟩ := h; ⟨a, vs, e1, e.tupq h1, RpA.mono e h2⟩
  | .dic w ks ds, _, h => let ⟨a, ws, e1, h1, h2, h3, h4, h5⟩ := h; ⟨a, ws, e1, e _ _ h1, h2, h3, RpA.mono e h4, RpA.mono e h5⟩
  | .dik ks ds, _, h => let ⟨a, ws, e1, h1, h2, h3⟩ := h; ⟨a, ws, e1, rd_same e h1, h2, RpA.mono e h3⟩
  | .obj C ns ds, _, h => let ⟨a, dx, vs, e1, h1, h2, h3⟩ := h; ⟨a, dx, vs, e1, e _ _ h1, h2, RpA.mono e h3⟩
theorem RpA.mono (e : Same F F') : ∀ {ds : List D} {vs : List V}, RpA K F ds vs → RpA K F' ds vs
  | [], _, h => h
  | _ :: _, _, h => let ⟨v, ws, e1, h1, h2⟩ := h; ⟨v, ws, e1, Rp.mono e h1, RpA.mono e h2⟩
end
theorem RpA.len : ∀ {ds : List D} {vs : List V}, RpA K F ds vs → ds.length = vs.length
  | [], _, h => by subst h; rfl
  | _ :: _, _, h => by
    obtain ⟨v, ws, rfl, _, h2⟩ := h
    exact congrArg (· + 1) (RpA.len h2)
theorem RpA.get : ∀ {ds : List D} {vs : List V}, RpA K F ds vs → ∀ {i : Nat} {d : D}, ds[i]? = some d → ∃ v, vs[i]? = some v ∧ Rp K F d v
  | [], _, _, i, d, e => by simp at e
  | x :: ds, _, h, 0, d, e => by
    obtain ⟨v, ws, rfl, h1, _⟩ := h
    have e1 : x = d := Option.some.inj e
    subst e1
    exact ⟨v, rfl, h1⟩
  | x :: ds, _, h, i + 1, d, e => by
    obtain ⟨v, ws, rfl, _, h2⟩ := h
    exact RpA.get h2 (i := i) e
theorem RpA.getV : ∀ {ds : List D} {vs : List V}, RpA K F ds vs → ∀ {i : Nat} {v : V}, vs[i]? = some v → ∃ d, ds[i]? = some d ∧ Rp K F d v
  | [], _, h, i, d, e => by subst h; simp at e
  | x :: ds, _, h, 0, d, e => by
    obtain ⟨v, ws, rfl, h1, _⟩ := h
    have e1 : v = d := Option.some.inj e
    subst e1
    exact ⟨x, rfl, h1⟩
  | x :: ds, _, h, i + 1, d, e => by
    obtain ⟨v, ws, rfl, _, h2⟩ := h
    exact RpA.getV h2 (i := i) e
theorem RpA.app : ∀ {ds es : List D} {vs ws : List V}, RpA K F ds vs → RpA K F es ws → RpA K F (ds ++ es) (vs ++ ws)
  | [], _, _, _, h, h' => by subst h; exact h'
  | _ :: _, _, _, _, h, h' => by
    obtain ⟨v, ws, rfl, h1, h2⟩ := h
    exact ⟨v, _, rfl, h1, RpA.app h2 h'⟩
theorem RpA.snoc {ds : List D} {vs : List V} {d : D} {v : V} (h : RpA K F ds vs) (h1 : Rp K F d v) : RpA K F (ds ++ [d]) (vs ++ [v]) := h.app ⟨v, [], rfl, h1, rfl⟩
theorem RpA.drop : ∀ {ds : List D} {vs : List V} (n : Nat), RpA K F ds vs → RpA K F (ds.drop n) (vs.drop n)
  | _, _, 0, h => h
  | [], _, n + 1, h => by subst h; exact rfl
  | _ :: _, _, n + 1, h => by
    obtain ⟨v, ws, rfl, h1, h2⟩ := h
    exact RpA.drop n h2
theorem RpA.take : ∀ {ds : List D} {vs : List V} (n : Nat), RpA K F ds vs → RpA K F (ds.take n) (vs.take n)
  | _, _, 0, h => by rw [List.take_zero, List.take_zero]; exact rfl
  | [], _, n + 1, h => by subst h; exact rfl
  | _ :: _, _, n + 1, h => by
    obtain ⟨v, ws, rfl, h1, h2⟩ := h
    exact ⟨v, _, rfl, h1, RpA.take n h2⟩
theorem RpA.rev : ∀ {ds : List D} {vs : List V}, RpA K F ds vs → RpA K F ds.reverse vs.reverse
  | [], _, h => by subst h; exact rfl
  | _ :: _, _, h => by
    obtain ⟨v, ws, rfl, h1, h2⟩ := h
    rw [List.reverse_cons, List.reverse_cons]
    exact (RpA.rev h2).snoc h1
theorem RpA.dropLast {ds : List D} {vs : List V} (h : RpA K F ds vs) : RpA K F ds.dropLast vs.dropLast := by
  rw [List.dropLast_eq_take, List.dropLast_eq_take, ← h.len]
  exact h.take _
theorem RpA.set : ∀ {ds : List D} {vs : List V} (n : Nat) {d : D} {v : V}, RpA K F ds vs → Rp K F d v → RpA K F (ds.set n d) (vs.set n v)
  | [], _, n, _, _, h, _ => by subst h; exact rfl
  | _ :: _, _, 0, _, _, h, h1 => by
    obtain ⟨v, ws, rfl, _, h2⟩ := h
    exact ⟨_, _, rfl, h1, h2⟩
  | _ :: _, _, n + 1, _, _, h, h1 => by
    obtain ⟨v, ws, rfl, h0, h2⟩ := h
    exact ⟨v, _, rfl, h0, RpA.set n h2 h1⟩
theorem RpA.erase : ∀ {ds : List D} {vs : List V} (n : Nat), RpA K F ds vs → RpA K F (ds.eraseIdx n) (vs.eraseIdx n)
  | [], _, n, h => by subst h; exact rfl
  | _ :: _, _, 0, h => by
    obtain ⟨v, ws, rfl, _, h2⟩ := h
    exact h2
  | _ :: _, _, n + 1, h => by
    obtain ⟨v, ws, rfl, h0, h2⟩ := h
    exact ⟨v, _, rfl, h0, RpA.erase n h2⟩
theorem RpA.rep {d : D} {v : V} (h : Rp K F d v) : ∀ n, RpA K F (List.replicate n d) (List.replicate n v)
  | 0 => rfl
  | n + 1 => ⟨v, _, rfl, h, RpA.rep h n⟩
theorem RpA.ints : ∀ {ns : List Int}, RpA K F (ns.map D.int) (ns.map V.int)
  | [] => rfl
  | _ :: _ => ⟨_, _, rfl, rfl, RpA.ints⟩
theorem RpA.intsV : ∀ {ns : List Int} {vs : List V}, RpA K F (ns.map D.int) vs → vs = ns.map V.int
  | [], _, h => h
  | n :: ns, _, h => by
    obtain ⟨v, ws, rfl, h0, h2⟩ := h
    rw [RpA.intsV h2, show v = .int n from h0]
    rfl
theorem RpA.strsV : ∀ {ns : List Str} {vs : List V}, RpA K F (ns.map D.str) vs → vs = ns.map V.str
  | [], _, h => h
  | n :: ns, _, h => by
    obtain ⟨v, ws, rfl, h0, h2⟩ := h
    rw [RpA.strsV h2, show v = .str n from h0]
    rfl
theorem RpA.blsV : ∀ {ns : List Bool} {vs : List V}, RpA K F (ns.map D.bl) vs → vs = ns.map V.bl
  | [], _, h => h
  | n :: ns, _, h => by
    obtain ⟨v, ws, rfl, h0, h2⟩ := h
    rw [RpA.blsV h2, show v = .bl n from h0]
    rfl

/-- a dict's pairs of keys and values -/
def PrK {κ : Type} (K : PySem.W.Frag) (F : Hp) : List (κ × D) → List (κ × V) → Prop := Paired fun p q => p.1 = q.1 ∧ Rp K F p.2 q.2
theorem PrK.mono {κ : Type} (e : Same F F') {xs : List (κ × D)} {ys : List (κ × V)} (h : PrK K F xs ys) : PrK K F' xs ys := Paired.mapP h fun _ _ z => ⟨z.1, z.2.mono e⟩
/-- .. of a dict of data keys: the keys' data too -/
def PrN (K : PySem.W.Frag) (F : Hp) : List (D × D) → List (D × Addr × V) → Prop := Paired fun p q => p.1 = q.1 ∧ D.hkN 6 p.1 = true ∧ Rp K F p.1 (.ref q.2.1) ∧ Rp K F p.2 q.2.2
theorem PrN.mono (e : Same F F') {xs : List (D × D)} {ys : List (D × Addr × V)} (h : PrN K F xs ys) : PrN K F' xs ys := Paired.mapP h fun _ _ z => ⟨z.1, z.2.1, z.2.2.1.mono e, z.2.2.2.mono e⟩
mutual
/-- the object at l, and the addresses that are its own -/
def ObjR (K : PySem.W.Frag) (F H : Hp) : O → Addr → List Addr → Prop
  | .lst ds, l, A => A = [l] ∧ ∃ vs, H l = some (.lst vs) ∧ RpA K F ds vs
  | .dk kvs, l, A => A = [l] ∧ ∃ ws, H l = some (.dK ws) ∧ PrK K F kvs ws
  | .dn w kvs, l, A => A = [l] ∧ ∃ ws, H l = some (dnO w l ws) ∧ PrN K F kvs ws
  | .nl cs, l, A => ∃ vs B, A = l :: B ∧ l ∉ B ∧ H l = some (.lst vs) ∧ PtsR K F H cs vs B
  | .nt cs, l, A => ∃ vs B, A = l :: B ∧ l ∉ B ∧ H l = some (.tup vs) ∧ PtsR K F H cs vs B
  | .ob C ns cs, l, A => ∃ dx vs B, A = l :: B ∧ l ∉ B ∧ H l = some (.ins C dx (ns.zip vs)) ∧ ns.length = vs.length ∧ PtsR K F H cs vs B
def PtsR (K : PySem.W.Frag) (F H : Hp) : List S → List V → List Addr → Prop
  | [], vs, A => vs = [] ∧ A = []
  | .fr d :: cs, vs, A => ∃ v ws, vs = v :: ws ∧ Rp K F d v ∧ PtsR K F H cs ws A
  | .hid v :: cs, vs, A => ∃ ws, vs = v :: ws ∧ PtsR K F H cs ws A
  | .ow _ o :: cs, vs, A => ∃ l ws A1 A2, vs = .ref l :: ws ∧ A = A1 ++ A2 ∧ (∀ a ∈ A1, a ∉ A2) ∧ ObjR K F H o l A1 ∧ PtsR K F H cs ws A2
end
mutual
theorem ObjR.mono (e : Same F F') : ∀ {o : O} {l : Addr} {A : List Addr}, ObjR K F H o l A → ObjR K F' H o l A
  | .lst _, _, _, h => let ⟨eA, vs, h1, h2⟩ := h; ⟨eA, vs, h1, h2.mono e⟩
  | .dk _, _, _, h => let ⟨eA, vs, h1, h2⟩ := h; ⟨eA, vs, h1, h2.mono e⟩
  | .dn _ _, _, _, h => let ⟨eA, vs, h1, h2⟩ := h; ⟨eA, vs, h1, h2.mono e⟩
  | .nl _, _, _, h => let ⟨vs, B, eA, h1, h2, h3⟩ := h; ⟨vs, B, eA, h1, h2, PtsR.mono e h3⟩
  | .nt _, _, _, h => let ⟨vs, B, eA, h1, h2, h3⟩ := h; ⟨vs, B, eA, h1, h2, PtsR.mono e h3⟩
  | .ob _ _ _, _, _, h => let ⟨dx, vs, B, eA, h1, h2, h3, h4⟩ := h; ⟨dx, vs, B, eA, h1, h2, h3, PtsR.mono e h4⟩
theorem PtsR.mono (e : Same F F') : ∀ {cs : List S} {vs : List V} {A : List Addr}, PtsR K F H cs vs A → PtsR K F' H cs vs A
  | [], _, _, h => h
  | .fr _ :: _, _, _, h => let ⟨v, ws, e1, h1, h2⟩ := h; ⟨v, ws, e1, h1.mono e, PtsR.mono e h2⟩
  | .hid _ :: _, _, _, h => let ⟨ws, e1, h2⟩ := h; ⟨ws, e1, PtsR.mono e h2⟩
  | .ow _ _ :: _, _, _, h => let ⟨l, ws, A1, A2, e1, e2, h1, h2, h3⟩ := h; ⟨l, ws, A1, A2, e1, e2, h1, ObjR.mono e h2, PtsR.mono e h3⟩
end
theorem ObjR.root : ∀ {o : O} {l : Addr} {A : List Addr}, ObjR K F H o l A → l ∈ A ∧ ∃ u, H l = some u
  | .lst _, _, _, h => let ⟨eA, vs, h1, h2⟩ := h; ⟨by rw [eA]; exact List.mem_cons_self, _, h1⟩
  | .dk _, _, _, h => let ⟨eA, vs, h1, h2⟩ := h; ⟨by rw [eA]; exact List.mem_cons_self, _, h1⟩
  | .dn _ _, _, _, h => let ⟨eA, vs, h1, h2⟩ := h; ⟨by rw [eA]; exact List.mem_cons_self, _, h1⟩
  | .nl _, _, _, h => let ⟨vs, B, eA, h1, h2, h3⟩ := h; ⟨by rw [eA]; exact List.mem_cons_self, _, h2⟩
  | .nt _, _, _, h => let ⟨vs, B, eA, h1, h2, h3⟩ := h; ⟨by rw [eA]; exact List.mem_cons_self, _, h2⟩
  | .ob _ _ _, _, _, h => let ⟨dx, vs, B, eA, h1, h2, h3, h4⟩ := h; ⟨by rw [eA]; exact List.mem_cons_self, _, h2⟩
mutual
theorem ObjR.has : ∀ {o : O} {l : Addr} {A : List Addr}, ObjR K F H o l A → ∀ a ∈ A, ∃ u, H a = some u
  | .lst _, _, _, h, a, ha => by
    obtain ⟨rfl, vs, h1, _⟩ := h
    cases List.mem_singleton.mp ha
    exact ⟨_, h1⟩
  | .dk _, _, _, h, a, ha => by
    obtain ⟨rfl, vs, h1, _⟩ := h
    cases List.mem_singleton.mp ha
    exact ⟨_, h1⟩
  | .dn _ _, _, _, h, a, ha => by
    obtain ⟨rfl, vs, h1, _⟩ := h
    cases List.mem_singleton.mp ha
    exact ⟨_, h1⟩
  | .nl _, _, _, h, a, ha => by
    obtain ⟨vs, B, rfl, h1, h2, h3⟩ := h
    rcases List.mem_cons.mp ha with z | z
    · rw [z]; exact ⟨_, h2⟩
    · exact PtsR.has h3 a z
  | .nt _, _, _, h, a, ha => by
    obtain ⟨vs, B, rfl, h1, h2, h3⟩ := h
    rcases List.mem_cons.mp ha with z | z
    · rw [z]; exact ⟨_, h2⟩
    · exact PtsR.has h3 a z
  | .ob _ _ _, _, _, h, a, ha => by
    obtain ⟨dx, vs, B, rfl, h1, h2, h3, h4⟩ := h
    rcases List.mem_cons.mp ha with z | z
    · rw [z]; exact ⟨_, h2⟩
    · exact PtsR.has h4 a z
theorem PtsR.has : ∀ {cs : List S} {vs : List V} {A : List Addr}, PtsR K F H cs vs A → ∀ a ∈ A, ∃ u, H a = some u
  | [], _, _, h, a, ha => by
    obtain ⟨_, rfl⟩ := h
    simp at ha
  | .fr _ :: _, _, _, h, a, ha => let ⟨v, ws, e1, h1, h2⟩ := h; PtsR.has h2 a ha
  | .hid _ :: _, _, _, h, a, ha => let ⟨ws, e1, h2⟩ := h; PtsR.has h2 a ha
  | .ow _ _ :: _, _, _, h, a, ha => by
    obtain ⟨l, ws, A1, A2, e1, rfl, h1, h2, h3⟩ := h
    rcases List.mem_append.mp ha with z | z
    · exact ObjR.has h2 a z
    · exact PtsR.has h3 a z
end
mutual
theorem ObjR.heap : ∀ {o : O} {l : Addr} {A : List Addr}, (∀ a ∈ A, ∀ u, H a = some u → H' a = some u) → ObjR K F H o l A → ObjR K F H' o l A
  | .lst _, l, _, e, h => by
    obtain ⟨rfl, vs, h1, h2⟩ := h
    exact ⟨rfl, vs, e l List.mem_cons_self _ h1, h2⟩
  | .dk _, l, _, e, h => by
    obtain ⟨rfl, vs, h1, h2⟩ := h
    exact ⟨rfl, vs, e l List.mem_cons_self _ h1, h2⟩
  | .dn _ _, l, _, e, h => by
    obtain ⟨rfl, vs, h1, h2⟩ := h
    exact ⟨rfl, vs, e l List.mem_cons_self _ h1, h2⟩
  | .nl _, l, _, e, h => by
    obtain ⟨vs, B, rfl, h1, h2, h3⟩ := h
    exact ⟨vs, B, rfl, h1, e l List.mem_cons_self _ h2, PtsR.heap (fun a ha => e a (List.mem_cons_of_mem _ ha)) h3⟩
  | .nt _, l, _, e, h => by
    obtain ⟨vs, B, rfl, h1, h2, h3⟩ := h
    exact ⟨vs, B, rfl, h1, e l List.mem_cons_self _ h2, PtsR.heap (fun a ha => e a (List.mem_cons_of_mem _ ha)) h3⟩
  | .ob _ _ _, l, _, e, h => by
    obtain ⟨dx, vs, B, rfl, h1, h2, h3, h4⟩ := h
    exact ⟨dx, vs, B, rfl, h1, e l List.mem_cons_self _ h2, h3, PtsR.heap (fun a ha => e a (List.mem_cons_of_mem _ ha)) h4⟩
theorem PtsR.heap : ∀ {cs : List S} {vs : List V} {A : List Addr}, (∀ a ∈ A, ∀ u, H a = some u → H' a = some u) → PtsR K F H cs vs A → PtsR K F H' cs vs A
  | [], _, _, _, h => h
  | .fr _ :: _, _, _, e, h => let ⟨v, ws, e1, h1, h2⟩ := h; ⟨v, ws, e1, h1, PtsR.heap e h2⟩
  | .hid _ :: _, _, _, e, h => let ⟨ws, e1, h2⟩ := h; ⟨ws, e1, PtsR.heap e h2⟩
  | .ow _ _ :: _, _, _, e, h => by
    obtain ⟨l, ws, A1, A2, e1, rfl, h1, h2, h3⟩ := h
    exact ⟨l, ws, A1, A2, e1, rfl, h1, ObjR.heap (fun a ha => e a (List.mem_append_left _ ha)) h2, PtsR.heap (fun a ha => e a (List.mem_append_right _ ha)) h3⟩
end
theorem PtsR.len : ∀ {cs : List S} {vs : List V} {A : List Addr}, PtsR K F H cs vs A → cs.length = vs.length
  | [], _, _, h => by obtain ⟨rfl, _⟩ := h; rfl
  | .fr _ :: _, _, _, h => by
    obtain ⟨v, ws, rfl, _, h2⟩ := h
    exact congrArg (· + 1) (PtsR.len h2)
  | .hid _ :: _, _, _, h => by
    obtain ⟨ws, rfl, h2⟩ := h
    exact congrArg (· + 1) (PtsR.len h2)
  | .ow _ _ :: _, _, _, h => by
    obtain ⟨l, ws, A1, A2, rfl, _, _, _, h3⟩ := h
    exact congrArg (· + 1) (PtsR.len h3)
theorem PrK.keys {κ : Type} {kvs : List (κ × D)} {ws : List (κ × V)} (h : PrK K F kvs ws) : kvs.map (·.1) = ws.map (·.1) ∧ RpA K F (kvs.map (·.2)) (ws.map (·.2)) := by
  induction h with
  | nil => exact ⟨rfl, rfl⟩
  | @cons x y xs ys h t ih => exact ⟨by rw [List.map_cons, List.map_cons, ih.1, h.1], ⟨_, _, rfl, h.2, ih.2⟩⟩
theorem PrN.keys {kvs : List (D × D)} {ws : List (D × Addr × V)} (h : PrN K F kvs ws) : kvs.map (·.1) = ws.map (·.1) ∧ (∀ k ∈ kvs.map (·.1), D.hkN 6 k = true) ∧ RpA K F (kvs.map (·.1)) (ws.map fun p => .ref p.2.1) ∧ RpA K F (kvs.map (·.2)) (ws.map (·.2.2)) := by
  induction h with
  | nil => exact ⟨rfl, fun _ h => (by cases h), rfl, rfl⟩
  | @cons x y xs ys h t ih =>
    refine ⟨by rw [List.map_cons, List.map_cons, ih.1, h.1], fun k hk => ?_, ⟨_, _, rfl, h.2.2.1, ih.2.2.1⟩, ⟨_, _, rfl, h.2.2.2, ih.2.2.2⟩⟩
    rcases List.mem_cons.mp hk with rfl | hk
    · exact h.2.1
    · exact ih.2.1 k hk
mutual
/-- frozen, it is data -/
theorem ObjR.frz : ∀ {o : O} {l : Addr} {A : List Addr}, Same F F' → (∀ a ∈ A, ∀ u, H a = some u → F' a = some u) → ObjR K F H o l A → Rp K F' o.dat (.ref l)
  | .lst ds, l, _, e, hA, h => by
    obtain ⟨rfl, vs, h1, h2⟩ := h
    exact ⟨l, vs, rfl, hA l List.mem_cons_self _ h1, h2.mono e⟩
  | .dk kvs, l, _, e, hA, h => by
    obtain ⟨rfl, ws, h1, h2⟩ := h
    have hk := h2.keys
    exact ⟨l, ws, rfl, .inl (hA l List.mem_cons_self _ h1), hk.1, hk.2.mono e⟩
  | .dn w kvs, l, _, e, hA, h => by
    obtain ⟨rfl, ws, h1, h2⟩ := h
    have hk := h2.keys
    exact ⟨l, ws, rfl, hA l List.mem_cons_self _ h1, hk.1, hk.2.1, hk.2.2.1.mono e, hk.2.2.2.mono e⟩
  | .nl cs, l, _, e, hA, h => by
    obtain ⟨vs, B, rfl, h1, h2, h3⟩ := h
    exact ⟨l, vs, rfl, hA l List.mem_cons_self _ h2, PtsR.frz e (fun a ha => hA a (List.mem_cons_of_mem _ ha)) h3⟩
  | .nt cs, l, _, e, hA, h => by
    obtain ⟨vs, B, rfl, h1, h2, h3⟩ := h
    exact ⟨l, vs, rfl, SqT.of (hA l List.mem_cons_self _ h2), PtsR.frz e (fun a ha => hA a (List.mem_cons_of_mem _ ha)) h3⟩
  | .ob C ns cs, l, _, e, hA, h => by
    obtain ⟨dx, vs, B, rfl, h1, h2, h3, h4⟩ := h
    exact ⟨l, dx, vs, rfl, hA l List.mem_cons_self _ h2, h3, PtsR.frz e (fun a ha => hA a (List.mem_cons_of_mem _ ha)) h4⟩
theorem PtsR.frz : ∀ {cs : List S} {vs : List V} {A : List Addr}, Same F F' → (∀ a ∈ A, ∀ u, H a = some u → F' a = some u) → PtsR K F H cs vs A → RpA K F' (S.dats cs) vs
  | [], _, _, _, _, h => by
    obtain ⟨rfl, rfl⟩ := h
    exact rfl
  | .fr _ :: _, _, _, e, hA, h => let ⟨v, ws, e1, h1, h2⟩ := h; ⟨v, ws, e1, h1.mono e, PtsR.frz e hA h2⟩
  | .hid _ :: _, _, _, e, hA, h => let ⟨ws, e1, h2⟩ := h; ⟨_, ws, e1, rfl, PtsR.frz e hA h2⟩
  | .ow _ _ :: _, _, _, e, hA, h => by
    obtain ⟨l, ws, A1, A2, rfl, rfl, h1, h2, h3⟩ := h
    exact ⟨_, ws, rfl, ObjR.frz e (fun a ha => hA a (List.mem_append_left _ ha)) h2, PtsR.frz e (fun a ha => hA a (List.mem_append_right _ ha)) h3⟩
end
end
/-- the tables of code objects (of the defs that make a lambda), and how their code objects are named -/
class Tbs where
  T : List (Addr × Str)
  base : Heap
variable [Tbs]
/-! ### states: slots by data, what a step leaves -/
/-- how an address is owned: a name's own, a lent object, a part of a lent object -/
inductive Tg where
  | o | r | p
  deriving DecidableEq
def tgR (b : Bool) : Tg := if b then .r else .o
def tgP (b : Bool) : Tg := if b then .p else .o
abbrev Om := Addr → Option (Nat × Tg)
/-- an exception by data: its class, its fields -/
structure Xc where
  C : Addr
  ns : List Str
  ds : List D
/-- what is wished of an exception: by the layer, by data -/
structure XI where
  W : WX
  e : Xc → Sl → Prop
abbrev XI.none : XI := ⟨fun _ _ _ _ => True, fun _ _ => False⟩
/-- what a def's own promise wishes of an exception -/
abbrev WK (E : XK) : WX := fun cls d _ H => E cls d H
abbrev E0x : XK := fun _ _ _ => False
/-- no exception leaves -/
abbrev XI.zero : XI := ⟨WK E0x, fun _ _ => False⟩
section
variable {K : PySem.W.Frag} {Ξ : XI}
def OwnAt (K : PySem.W.Frag) (F H : Hp) (ω : Om) (i : Nat) : S → V → Prop
  | .fr d, v => Rp K F d v
  | .hid u, v => v = u
  | .ow b o, v => ∃ l A, v = .ref l ∧ ω l = some (i, tgR b) ∧ (∀ a ∈ A, a ≠ l → ω a = some (i, tgP b)) ∧ ObjR K F H o l A
def tadr (b : Addr) : Prop := ∃ q, (b, q) ∈ Tbs.T
theorem tadr_ne {a b : Addr} (h : tadr b) (h' : ¬ tadr a) : b ≠ a := fun z => h' (z ▸ h)
/-- the tables stand, nobody owns them, and what they tell are code objects -/
def AllT (F H : Hp) (ω : Om) : Prop := ∀ p ∈ Tbs.T, F p.1 = none ∧ ω p.1 = none ∧ ∃ ps : Array Value, H p.1 = some (.tbl ps) ∧ TriplesOk ps.toList ∧ ∀ (pos : Pos) (cv : Value), codeAmong pos ps.toList = some cv → ∃ c, cv = .ref c ∧ F c = some (LamX.CodeO c p.2)
theorem AllT.go {F H F' H' : Hp} {ω ω' : Om} (h : AllT F H ω) (sf : Same F F') (fr : ∀ b o, tadr b → ω b = none → H b = some o → H' b = some o) (om : ∀ b o, tadr b → ω b = none → H b = some o → ω' b = none) (fn : ∀ b o, tadr b → ω b = none → H b = some o → F b = none → F' b = none) : AllT F' H' ω' := fun p hp => by
  obtain ⟨h1, h2, ps, h3, h4, h5⟩ := h p hp
  have ht : tadr p.1 := ⟨p.2, hp⟩
  refine ⟨fn _ _ ht h2 h3 h1, om _ _ ht h2 h3, ps, fr _ _ ht h2 h3, h4, fun pos cv hc => ?_⟩
  obtain ⟨c, e, h6⟩ := h5 pos cv hc
  exact ⟨c, e, sf _ _ h6⟩
theorem AllT.own {F H : Hp} {ω : Om} (h : AllT F H ω) {b : Addr} {p : Nat × Tg} (hb : ω b = some p) : ¬ tadr b := fun ⟨q, hq⟩ => by
  rw [(h _ hq).2.1] at hb
  cases hb
theorem AllT.new {F H : Hp} {ω : Om} (h : AllT F H ω) {b : Addr} (hb : H b = none) : ¬ tadr b := fun ⟨q, hq⟩ => by
  obtain ⟨_, _, ps, h3, _⟩ := h _ hq
  rw [hb] at h3
  cases h3
theorem AllT.frz {F H : Hp} {ω : Om} (h : AllT F H ω) {b : Addr} {o : HO} (hb : F b = some o) : ¬ tadr b := fun ⟨q, hq⟩ => by
  rw [(h _ hq).1] at hb
  cases hb
structure Sta0 (K : PySem.W.Frag) (F H : Hp) (ω : Om) (s : Sl) (σ : L2.St) : Prop where
  tb : AllT F H ω
  sf : Same F H
  ow : ∀ b p, ω b = some p → F b = none ∧ ∃ u, H b = some u
  at' : ∀ i x, s[i]? = some (some x) → ∃ v, σ[i]? = some (some v) ∧ OwnAt K F H ω i x v
  len : s.length = σ.length
  ix : ∀ b j c, ω b = some (j, c) → j < s.length
structure Stp (F H : Hp) (ω : Om) (F' H' : Hp) (ω' : Om) : Prop where
  tb0 : AllT F H ω
  tb : AllT F' H' ω'
  th : ∀ b o, ω b = none → H b = some o → ∃ o', H' b = some o'
  sf : Same F F'
  fr : ∀ b o, ¬ tadr b → ω b = none → H b = some o → H' b = some o
  om : ∀ b o, ω b = none → H b = some o → ω' b = none
  fn : ∀ b o, ω b = none → H b = some o → F b = none → F' b = none
  tr : ∀ b, H' b = none → H b = none
  bk : ∀ b j, ω' b = some (j, .r) ↔ ω b = some (j, .r)
  bp : ∀ b j o, H b = some o → ω b = some (j, .p) → ω' b = some (j, .p) ∨ ω' b = none
  kb : ∀ b j, ω' b = some (j, .p) → ω b = some (j, .p) ∨ H b = none
/-- .. where the tables stay as they are -/
theorem Stp.old {F H F' H' : Hp} {ω ω' : Om} (h : AllT F H ω) (sf : Same F F') (fr : ∀ b o, ω b = none → H b = some o → H' b = some o) (om : ∀ b o, ω b = none → H b = some o → ω' b = none) (fn : ∀ b o, ω b = none → H b = some o → F b = none → F' b = none)
    (tr : ∀ b, H' b = none → H b = none) (bk : ∀ b j, ω' b = some (j, .r) ↔ ω b = some (j, .r)) (bp : ∀ b j o, H b = some o → ω b = some (j, .p) → ω' b = some (j, .p) ∨ ω' b = none) (kb : ∀ b j, ω' b = some (j, .p) → ω b = some (j, .p) ∨ H b = none) : Stp F H ω F' H' ω' :=
  ⟨h, h.go sf (fun b o _ => fr b o) (fun b o _ => om b o) fun b o _ => fn b o, fun b o h1 h2 => ⟨o, fr b o h1 h2⟩, sf, fun b o _ h1 h2 => fr b o h1 h2, om, fn, tr, bk, bp, kb⟩
theorem Stp.refl {F H : Hp} {ω : Om} (h : AllT F H ω) : Stp F H ω F H ω := .old h (Same.refl F) (fun _ _ _ h => h) (fun _ _ h _ => h) (fun _ _ _ _ h => h) (fun _ h => h) (fun _ _ => Iff.rfl) (fun _ _ _ _ h => .inl h) fun _ _ h => .inl h
theorem Stp.trans {F H F1 H1 F2 H2 : Hp} {ω ω1 ω2 : Om} (a : Stp F H ω F1 H1 ω1) (b : Stp F1 H1 ω1 F2 H2 ω2) : Stp F H ω F2 H2 ω2 :=
  ⟨a.tb0, b.tb, fun c o h1 h2 => let ⟨o1, h3⟩ := a.th c o h1 h2; b.th c o1 (a.om c o h1 h2) h3,
   a.sf.trans b.sf, fun c o ht h1 h2 => b.fr c o ht (a.om c o h1 h2) (a.fr c o ht h1 h2), fun c o h1 h2 => let ⟨o1, h3⟩ := a.th c o h1 h2; b.om c o1 (a.om c o h1 h2) h3,
   fun c o h1 h2 h3 => let ⟨o1, h4⟩ := a.th c o h1 h2; b.fn c o1 (a.om c o h1 h2) h4 (a.fn c o h1 h2 h3), fun c h => a.tr c (b.tr c h), fun c j => (b.bk c j).trans (a.bk c j),
   fun c j o h0 h => by
     cases e : H1 c with
     | none => rw [a.tr c e] at h0; cases h0
     | some o1 =>
       rcases a.bp c j o h0 h with z | z
       · exact b.bp c j o1 e z
       · exact .inr (b.om c o1 z e), fun c j h => (b.kb c j h).elim (a.kb c j) fun z => .inr (a.tr c z)⟩
/-- an exception's own dict -/
def XdR (K : PySem.W.Frag) (F : Hp) (x : Xc) (d : Option Addr) : Prop := (x.ns = [] ∧ x.ds = [] ∧ d = none) ∨ ∃ b vs, d = some b ∧ F b = some (.xd (x.ns.zip vs)) ∧ (x.ns.length = vs.length ∧ x.ns ≠ []) ∧ RpA K F x.ds vs
theorem XdR.mono {F F' : Hp} (e : Same F F') {x : Xc} {d : Option Addr} (h : XdR K F x d) : XdR K F' x d := h.imp id fun ⟨b, vs, e2, h2, h3, h4⟩ => ⟨b, vs, e2, e _ _ h2, h3, h4.mono e⟩
/-- an exception may leave from here on -/
def Exo (K : PySem.W.Frag) (Ξ : XI) (F H : Hp) (ω : Om) : Prop := ∀ ⦃F' H' : Hp⦄ ⦃ω' : Om⦄ ⦃s' : Sl⦄ ⦃σ' : L2.St⦄ ⦃x : Xc⦄ ⦃d : Option Addr⦄, Stp F H ω F' H' ω' → Sta0 K F' H' ω' s' σ' → XdR K F' x d → Ξ.e x s' → Ξ.W (.ref x.C) d σ' H'
theorem Exo.step {F H F1 H1 : Hp} {ω ω1 : Om} (h : Exo K Ξ F H ω) (p : Stp F H ω F1 H1 ω1) : Exo K Ξ F1 H1 ω1 := fun _ _ _ _ _ _ _ q T r e => h (p.trans q) T r e
theorem Exo.nope {F H : Hp} {ω : Om} : Exo K XI.none F H ω := fun _ _ _ _ _ _ _ _ _ _ e => e.elim
theorem Exo.zero {F H : Hp} {ω : Om} : Exo K XI.zero F H ω := fun _ _ _ _ _ _ _ _ _ _ e => e.elim
structure Sta (K : PySem.W.Frag) (Ξ : XI) (F H : Hp) (ω : Om) (s : Sl) (σ : L2.St) : Prop extends Sta0 K F H ω s σ where
  ex : Exo K Ξ F H ω
theorem Sta.base {F H : Hp} {ω : Om} {s : Sl} {σ : L2.St} (T : Sta K Ξ F H ω s σ) : Sta0 K F H ω s σ := T.toSta0
/-- a result: data, or a new object of its own -/
def Rt (K : PySem.W.Frag) (H0 F H : Hp) (ω : Om) : S → V → Prop
  | .fr d, v => Rp K F d v
  | .hid u, v => v = u
  | .ow _ o, v => ∃ l A, v = .ref l ∧ (∀ a ∈ A, H0 a = none ∧ ω a = none ∧ F a = none) ∧ ObjR K F H o l A
theorem Rt.early {H0 H1 F H : Hp} {ω : Om} (h : ∀ b, H1 b = none → H0 b = none) : ∀ {x : S} {v : V}, Rt K H1 F H ω x v → Rt K H0 F H ω x v
  | .fr _, _, r => r
  | .hid _, _, r => r
  | .ow _ _, _, ⟨l, A, e, h0, r⟩ => ⟨l, A, e, fun a ha => ⟨h a (h0 a ha).1, (h0 a ha).2⟩, r⟩
/-- only new objects come -/
structure Ext (F H F' H' : Hp) : Prop where
  sf : Same F F'
  sh : Same H H'
  fn : ∀ b o, H b = some o → F b = none → F' b = none
  fs : Same F' H'
theorem Ext.refl {F H : Hp} (h : Same F H) : Ext F H F H := ⟨Same.refl F, Same.refl H, fun _ _ _ z => z, h⟩
theorem Ext.trans {F H F1 H1 F2 H2 : Hp} (a : Ext F H F1 H1) (b : Ext F1 H1 F2 H2) : Ext F H F2 H2 := ⟨a.sf.trans b.sf, a.sh.trans b.sh, fun c o h1 h2 => b.fn c o (a.sh c o h1) (a.fn c o h1 h2), b.fs⟩
/-- a new thing, to be read only -/
theorem Ext.fz {F H : Hp} (h : Same F H) {p : Addr} (hp : H p = none) (u : HO) : Ext F H (upd F p u) (upd H p u) := by
  have hF := h.free hp
  refine ⟨same_upd hF, same_upd hp, fun b o h1 h2 => ?_, fun b o e => ?_⟩
  · rw [upd_ne (ne_of_none h1 hp)]
    exact h2
  · by_cases hb : b = p
    · subst hb
      rw [upd_same] at e ⊢
      exact e
    · rw [upd_ne hb] at e ⊢
      exact h b o e
/-- a new thing of its own -/
theorem Ext.ow {F H : Hp} (h : Same F H) {p : Addr} (hp : H p = none) (u : HO) : Ext F H F (upd H p u) := ⟨Same.refl F, same_upd hp, fun _ _ _ z => z, h.trans (same_upd hp)⟩
theorem OwnAt.to {F H F' H' : Hp} {ω : Om} {i : Nat} {x : S} {v : V} (e1 : Same F F') (e2 : ∀ a u, (∃ p, ω a = some p) → H a = some u → H' a = some u) (h : OwnAt K F H ω i x v) : OwnAt K F' H' ω i x v := by
  cases x with
  | fr d => exact Rp.mono e1 h
  | hid u => exact h
  | ow b o =>
    obtain ⟨l, A, rfl, h1, h2, h3⟩ := h
    refine ⟨l, A, rfl, h1, h2, (h3.mono e1).heap fun a ha u hu => e2 a u ?_ hu⟩
    by_cases hl : a = l
    · rw [hl]; exact ⟨_, h1⟩
    · exact ⟨_, h2 a ha hl⟩
theorem Ext.stp0 {F H F' H' : Hp} {ω : Om} {s : Sl} {σ : L2.St} (e : Ext F H F' H') (t : Sta0 K F H ω s σ) : Stp F H ω F' H' ω ∧ Sta0 K F' H' ω s σ := by
  have p : Stp F H ω F' H' ω := .old t.tb e.sf (fun b o _ h => e.sh b o h) (fun _ _ h _ => h) (fun b o _ h1 h2 => e.fn b o h1 h2) (fun b h => e.sh.free h) (fun _ _ => Iff.rfl) (fun _ _ _ _ h => .inl h) fun _ _ h => .inl h
  refine ⟨p, ⟨p.tb, e.fs, fun b p h => ?_, fun i x h => ?_, t.len, t.ix⟩⟩
  · obtain ⟨h1, u, h2⟩ := t.ow b p h
    exact ⟨e.fn b u h2 h1, u, e.sh b u h2⟩
  · obtain ⟨v, h1, h2⟩ := t.at' i x h
    exact ⟨v, h1, h2.to e.sf fun a u _ hu => e.sh _ _ hu⟩
theorem Ext.stp {F H F' H' : Hp} {ω : Om} {s : Sl} {σ : L2.St} (e : Ext F H F' H') (t : Sta K Ξ F H ω s σ) : Stp F H ω F' H' ω ∧ Sta K Ξ F' H' ω s σ :=
  have p := e.stp0 t.base
  ⟨p.1, p.2, t.ex.step p.1⟩
/-- F, and what of H stands at A -/
noncomputable def fzA (F H : Hp) (A : List Addr) : Hp := fun b => if b ∈ A then H b else F b
theorem fzA_in {F H : Hp} {A : List Addr} {b : Addr} (h : b ∈ A) : fzA F H A b = H b := if_pos h
theorem fzA_out {F H : Hp} {A : List Addr} {b : Addr} (h : b ∉ A) : fzA F H A b = F b := if_neg h
theorem same_fzA {F H : Hp} {A : List Addr} (h : ∀ a ∈ A, F a = none) : Same F (fzA F H A) := fun b o e => by
  by_cases hb : b ∈ A
  · rw [h b hb] at e
    cases e
  · rw [fzA_out hb]
    exact e
theorem fzA_sub {F H : Hp} {A : List Addr} (h : Same F H) : Same (fzA F H A) H := fun b o e => by
  by_cases hb : b ∈ A
  · rw [fzA_in hb] at e
    exact e
  · rw [fzA_out hb] at e
    exact h b o e
theorem ObjR.fz {F H : Hp} {o : O} {l : Addr} {A : List Addr} (hF : ∀ a ∈ A, F a = none) (h : ObjR K F H o l A) : Rp K (fzA F H A) o.dat (.ref l) := h.frz (same_fzA hF) fun a ha u hu => by rw [fzA_in ha]; exact hu
/-- a result of its own becomes data -/
theorem Rt.frz {F0 H0 F H : Hp} {ω0 ω : Om} {s : Sl} {σ : L2.St} {x : S} {v : V} (p : Stp F0 H0 ω0 F H ω) (ex : Exo K Ξ F0 H0 ω0) (t : Sta K Ξ F H ω s σ) (r : Rt K H0 F H ω x v) :
    ∃ F', Stp F0 H0 ω0 F' H ω ∧ Sta K Ξ F' H ω s σ ∧ Rp K F' x.dat v ∧ Same F F' := by
  cases x with
  | fr d => exact ⟨F, p, t, r, Same.refl F⟩
  | hid u => exact ⟨F, p, t, r, Same.refl F⟩
  | ow b o =>
    obtain ⟨l, A, rfl, h0, h3⟩ := r
    have e := same_fzA (H := H) fun a ha => (h0 a ha).2.2
    have hT : AllT (fzA F H A) H ω := p.tb.go e (fun _ _ _ _ h => h) (fun _ _ _ h _ => h) fun b o ht _ _ h => by
      rw [fzA_out fun z => p.tb0.new (h0 b z).1 ht]
      exact h
    have p2 : Stp F0 H0 ω0 (fzA F H A) H ω := ⟨p.tb0, hT, p.th, p.sf.trans e, p.fr, p.om, fun b o q1 q2 q3 => by
      rw [fzA_out fun z => by rw [(h0 b z).1] at q2; cases q2]
      exact p.fn b o q1 q2 q3, p.tr, p.bk, p.bp, p.kb⟩
    refine ⟨fzA F H A, p2, ⟨⟨hT, fzA_sub t.sf, fun b q hq => ?_, fun i x h => ?_, t.len, t.ix⟩, ex.step p2⟩, h3.fz fun a ha => (h0 a ha).2.2, e⟩
    · obtain ⟨h4, h5⟩ := t.ow b q hq
      refine ⟨?_, h5⟩
      rw [fzA_out fun z => by rw [(h0 b z).2.1] at hq; cases hq]
      exact h4
    · obtain ⟨v, h4, h5⟩ := t.at' i x h
      exact ⟨v, h4, h5.to e fun _ _ _ hu => hu⟩
/-- addresses are let go -/
noncomputable def omOff (ω : Om) (A : List Addr) : Om := fun b => if b ∈ A then none else ω b
theorem omOff_in {ω : Om} {A : List Addr} {b : Addr} (h : b ∈ A) : omOff ω A b = none := if_pos h
theorem omOff_out {ω : Om} {A : List Addr} {b : Addr} (h : b ∉ A) : omOff ω A b = ω b := if_neg h
theorem omOff_some {ω : Om} {A : List Addr} {b : Addr} {p : Nat × Tg} (h : omOff ω A b = some p) : b ∉ A ∧ ω b = some p := by
  by_cases hb : b ∈ A
  · rw [omOff_in hb] at h
    cases h
  · rw [omOff_out hb] at h
    exact ⟨hb, h⟩
/-- addresses become a name's own -/
noncomputable def omOn (ω : Om) (A : List Addr) (p : Nat × Tg) : Om := fun b => if b ∈ A then some p else ω b
theorem omOn_in {ω : Om} {A : List Addr} {b : Addr} {p : Nat × Tg} (h : b ∈ A) : omOn ω A p b = some p := if_pos h
theorem omOn_out {ω : Om} {A : List Addr} {b : Addr} {p : Nat × Tg} (h : b ∉ A) : omOn ω A p b = ω b := if_neg h
theorem OwnAt.om {F H : Hp} {ω ω' : Om} {i : Nat} {x : S} {v : V} (h : OwnAt K F H ω i x v) (e : ∀ b c, ω b = some (i, c) → ω' b = some (i, c)) : OwnAt K F H ω' i x v := by
  cases x with
  | fr d => exact h
  | hid u => exact h
  | ow b o =>
    obtain ⟨l, A, rfl, h1, h2, h3⟩ := h
    exact ⟨l, A, rfl, e _ _ h1, fun a ha hl => e _ _ (h2 a ha hl), h3⟩
/-- all of a name's own object -/
theorem own_all {F H : Hp} {ω : Om} {i : Nat} {o : O} {v : V} (h : OwnAt K F H ω i (.ow false o) v) : ∃ l A, v = .ref l ∧ (∀ a ∈ A, ω a = some (i, .o)) ∧ ObjR K F H o l A := by
  obtain ⟨l, A, rfl, h1, h2, h3⟩ := h
  refine ⟨l, A, rfl, fun a ha => ?_, h3⟩
  by_cases hl : a = l
  · rw [hl]; exact h1
  · exact h2 a ha hl
theorem all_own {F H : Hp} {ω : Om} {i : Nat} {o : O} {l : Addr} {A : List Addr} (h : ∀ a ∈ A, ω a = some (i, .o)) (r : ObjR K F H o l A) : OwnAt K F H ω i (.ow false o) (.ref l) := ⟨l, A, rfl, h l r.root.1, fun a ha _ => h a ha, r⟩
/-- a name's own object is let go -/
theorem Sta.letgo {F H : Hp} {ω : Om} {s : Sl} {σ : L2.St} {i : Nat} {o : O} (T : Sta K Ξ F H ω s σ) (hi : s[i]? = some (some (.ow false o))) :
    ∃ l A, σ[i]? = some (some (.ref l)) ∧ (∀ a ∈ A, ω a = some (i, .o) ∧ F a = none ∧ omOff ω A a = none) ∧ Stp F H ω F H (omOff ω A) ∧ Sta K Ξ F H (omOff ω A) (s.set i none) σ ∧ ObjR K F H o l A := by
  obtain ⟨v, hv, hr⟩ := T.at' i _ hi
  obtain ⟨l, A, rfl, hA, ho⟩ := own_all hr
  have p : Stp F H ω F H (omOff ω A) := by
    refine .old T.tb (Same.refl F) (fun _ _ _ h => h) (fun b o h _ => ?_) (fun _ _ _ _ h => h) (fun _ h => h) (fun b j => ⟨fun h => (omOff_some h).2, fun h => ?_⟩) (fun b j _ _ h => ?_) fun b j h => .inl (omOff_some h).2
    · by_cases hb : b ∈ A
      · exact omOff_in hb
      · rw [omOff_out hb]; exact h
    · rw [omOff_out fun z => by rw [hA b z] at h; cases h]; exact h
    · rw [omOff_out fun z => by rw [hA b z] at h; cases h]; exact .inl h
  refine ⟨l, A, hv, fun a ha => ⟨hA a ha, (T.ow a _ (hA a ha)).1, omOff_in ha⟩, p, ⟨⟨p.tb, T.sf, fun b q hq => T.ow b q (omOff_some hq).2, fun j x h => ?_, by rw [List.length_set]; exact T.len, fun b j c h => by rw [List.length_set]; exact T.ix b j c (omOff_some h).2⟩, T.ex.step p⟩, ho⟩
  rw [List.getElem?_set] at h
  split at h
  · split at h
    · cases h
    · cases h
  · rename_i hij
    obtain ⟨v, h4, h5⟩ := T.at' j x h
    refine ⟨v, h4, h5.om fun b c hb => ?_⟩
    rw [omOff_out fun z => by rw [hA b z] at hb; cases hb; exact hij rfl]
    exact hb
/-- what nobody owns is frozen -/
theorem Sta.frzA {F H : Hp} {ω : Om} {s : Sl} {σ : L2.St} {A : List Addr} (T : Sta0 K F H ω s σ) (h : ∀ a ∈ A, ω a = none ∧ F a = none) (hA : ∀ a ∈ A, ¬ tadr a) : Sta0 K (fzA F H A) H ω s σ := by
  have e := same_fzA (H := H) fun a ha => (h a ha).2
  refine ⟨T.tb.go e (fun _ _ _ _ h => h) (fun _ _ _ h _ => h) (fun b o ht _ _ h => by rw [fzA_out fun z => hA b z ht]; exact h), fzA_sub T.sf, fun b q hq => ?_, fun i x hx => ?_, T.len, T.ix⟩
  · obtain ⟨h4, h5⟩ := T.ow b q hq
    refine ⟨?_, h5⟩
    rw [fzA_out fun z => by rw [(h b z).1] at hq; cases hq]
    exact h4
  · obtain ⟨v, h4, h5⟩ := T.at' i x hx
    exact ⟨v, h4, h5.to e fun _ _ _ hu => hu⟩
theorem Sta.set0 {F H : Hp} {ω : Om} {s : Sl} {σ : L2.St} {d : D} {v : V} (t : Sta0 K F H ω s σ) (i : Nat) (r : Rp K F d v) : Sta0 K F H ω (s.set i (some (.fr d))) (σ.set i (some v)) := by
  refine ⟨t.tb, t.sf, t.ow, fun j x h => ?_, by rw [List.length_set, List.length_set]; exact t.len, fun b j c h => by rw [List.length_set]; exact t.ix b j c h⟩
  rw [List.getElem?_set] at h ⊢
  split at h
  · rename_i hij
    rw [if_pos hij]
    split at h
    · rename_i hl
      rw [if_pos (by rw [← t.len]; exact hl)]
      have h' := Option.some.inj (Option.some.inj h)
      subst h'
      exact ⟨v, rfl, r⟩
    · cases h
  · rename_i hij
    rw [if_neg hij]
    exact t.at' j x h
/-- a name is bound to data -/
theorem Sta.set {F H : Hp} {ω : Om} {s : Sl} {σ : L2.St} {d : D} {v : V} (t : Sta K Ξ F H ω s σ) (i : Nat) (r : Rp K F d v) : Sta K Ξ F H ω (s.set i (some (.fr d))) (σ.set i (some v)) := ⟨Sta.set0 t.base i r, t.ex⟩
theorem Sta.setH {F H : Hp} {ω : Om} {s : Sl} {σ : L2.St} {u v : V} (t : Sta K Ξ F H ω s σ) (i : Nat) (r : v = u) : Sta K Ξ F H ω (s.set i (some (.hid u))) (σ.set i (some v)) := by
  refine ⟨⟨t.tb, t.sf, t.ow, fun j x h => ?_, by rw [List.length_set, List.length_set]; exact t.len, fun b j c h => by rw [List.length_set]; exact t.ix b j c h⟩, t.ex⟩
  rw [List.getElem?_set] at h ⊢
  split at h
  · rename_i hij
    rw [if_pos hij]
    split at h
    · rename_i hl
      rw [if_pos (by rw [← t.len]; exact hl)]
      have h' := Option.some.inj (Option.some.inj h)
      subst h'
      exact ⟨v, rfl, r⟩
    · cases h
  · rename_i hij
    rw [if_neg hij]
    exact t.at' j x h
/-- a slot is told anew, its value stays -/
theorem Sta.tell {F H : Hp} {ω : Om} {s : Sl} {σ : L2.St} {i : Nat} {v : V} {x : S} (T : Sta0 K F H ω s σ) (hv : σ[i]? = some (some v)) (h : OwnAt K F H ω i x v) : Sta0 K F H ω (s.set i (some x)) σ := by
  refine ⟨T.tb, T.sf, T.ow, fun j y hy => ?_, by rw [List.length_set]; exact T.len, fun b j c h => by rw [List.length_set]; exact T.ix b j c h⟩
  rw [List.getElem?_set] at hy
  split at hy
  · rename_i hij
    subst hij
    split at hy
    · cases hy
      exact ⟨v, hv, h⟩
    · cases hy
  · exact T.at' j y hy
/-- a slot's object becomes data -/
theorem Sta.frzSlot {F H : Hp} {ω : Om} {s : Sl} {σ : L2.St} {i : Nat} {o : O} (t : Sta K Ξ F H ω s σ) (hi : s[i]? = some (some (.ow false o))) :
    ∃ F' ω' v, Stp F H ω F' H ω' ∧ Sta K Ξ F' H ω' (s.set i (some (.fr o.dat))) σ ∧ σ[i]? = some (some v) ∧ Rp K F' o.dat v := by
  obtain ⟨l, A, hv, hA, p, T, ho⟩ := t.letgo hi
  have hF : ∀ a ∈ A, F a = none := fun a ha => (hA a ha).2.1
  have e := same_fzA (H := H) hF
  have hr := ho.fz hF
  have T2 := Sta.frzA T.base (fun a ha => ⟨(hA a ha).2.2, hF a ha⟩) fun a ha => t.tb.own (hA a ha).1
  have p2 : Stp F H ω (fzA F H A) H (omOff ω A) := ⟨t.tb, T2.tb, p.th, e, p.fr, p.om, fun b o h1 h2 h3 => by
    rw [fzA_out fun z => by rw [(hA b z).1] at h1; cases h1]
    exact h3, p.tr, p.bk, p.bp, p.kb⟩
  have T3 := Sta.tell (x := .fr o.dat) T2 hv hr
  rw [List.set_set] at T3
  exact ⟨_, _, _, p2, ⟨T3, t.ex.step p2⟩, hv, hr⟩
theorem Sta.get {F H : Hp} {ω : Om} {s : Sl} {σ : L2.St} {i : Nat} {d : D} (t : Sta K Ξ F H ω s σ) (hi : s[i]? = some (some (.fr d))) : ∃ v, σ[i]? = some (some v) ∧ Rp K F d v := t.at' i _ hi
/-- nothing is known of a name any more -/
theorem Sta.drop0 {F H : Hp} {ω : Om} {s : Sl} {σ : L2.St} (t : Sta0 K F H ω s σ) (i : Nat) : Sta0 K F H ω (s.set i none) σ := by
  refine ⟨t.tb, t.sf, t.ow, fun j x h => ?_, by rw [List.length_set]; exact t.len, fun b j c h => by rw [List.length_set]; exact t.ix b j c h⟩
  rw [List.getElem?_set] at h
  split at h
  · split at h
    · cases h
    · cases h
  · exact t.at' j x h
theorem Sta.drop {F H : Hp} {ω : Om} {s : Sl} {σ : L2.St} (t : Sta K Ξ F H ω s σ) (i : Nat) : Sta K Ξ F H ω (s.set i none) σ := ⟨Sta.drop0 t.base i, t.ex⟩
theorem Sta.dropσ0 {F H : Hp} {ω : Om} {s : Sl} {σ : L2.St} (t : Sta0 K F H ω s σ) (i : Nat) (o : Option V) : Sta0 K F H ω (s.set i none) (σ.set i o) := by
  refine ⟨t.tb, t.sf, t.ow, fun j x h => ?_, by rw [List.length_set, List.length_set]; exact t.len, fun b j c h => by rw [List.length_set]; exact t.ix b j c h⟩
  rw [List.getElem?_set] at h
  split at h
  · split at h
    · cases h
    · cases h
  · rename_i hij
    rw [List.getElem?_set_ne hij]
    exact t.at' j x h
theorem Sta.dropσ {F H : Hp} {ω : Om} {s : Sl} {σ : L2.St} (t : Sta K Ξ F H ω s σ) (i : Nat) (o : Option V) : Sta K Ξ F H ω (s.set i none) (σ.set i o) := ⟨Sta.dropσ0 t.base i o, t.ex⟩
/-- new addresses become a slot's own -/
theorem Stp.on {F0 H0 F H : Hp} {ω0 ω : Om} {A : List Addr} {i : Nat} (p : Stp F0 H0 ω0 F H ω) (h : ∀ a ∈ A, H0 a = none ∧ ω a = none) : Stp F0 H0 ω0 F H (omOn ω A (i, .o)) := by
  refine ⟨p.tb0, p.tb.go (Same.refl F) (fun _ _ _ _ h => h) (fun b o ht h1 _ => by rw [omOn_out fun z => p.tb0.new (h b z).1 ht]; exact h1) (fun _ _ _ _ _ h => h), p.th, p.sf, p.fr, fun c o q1 q2 => ?_, p.fn, p.tr, fun c j => ?_, fun c j o ho q => ?_, fun c j q => ?_⟩
  · rw [omOn_out fun z => by rw [(h c z).1] at q2; cases q2]
    exact p.om c o q1 q2
  · by_cases hc : c ∈ A
    · rw [omOn_in hc]
      refine ⟨fun z => (by cases z), fun z => ?_⟩
      rw [← p.bk, (h c hc).2] at z
      cases z
    · rw [omOn_out hc]
      exact p.bk c j
  · have hc : c ∉ A := fun hc => by
      rw [(h c hc).1] at ho
      cases ho
    rw [omOn_out hc]
    exact p.bp c j o ho q
  · by_cases hc : c ∈ A
    · rw [omOn_in hc] at q
      cases q
    · rw [omOn_out hc] at q
      exact p.kb c j q
/-- a name is bound to a new object -/
theorem Sta.setO {F0 H0 F H : Hp} {ω0 ω : Om} {s : Sl} {σ : L2.St} {b : Bool} {o : O} {v : V} (p : Stp F0 H0 ω0 F H ω) (ex : Exo K Ξ F0 H0 ω0) (t : Sta K Ξ F H ω s σ) (i : Nat) (r : Rt K H0 F H ω (.ow b o) v) :
    ∃ ω', Stp F0 H0 ω0 F H ω' ∧ Sta K Ξ F H ω' (s.set i (some (.ow false o))) (σ.set i (some v)) := by
  by_cases hi : i < s.length
  rotate_left
  · rw [List.set_eq_of_length_le (by omega), List.set_eq_of_length_le (by rw [← t.len]; omega)]
    exact ⟨ω, p, t⟩
  obtain ⟨l, A, rfl, h0, h3⟩ := r
  have p2 := p.on (i := i) fun a ha => ⟨(h0 a ha).1, (h0 a ha).2.1⟩
  refine ⟨omOn ω A (i, .o), p2, ⟨⟨p2.tb, t.sf, fun c q hq => ?_, fun j x h => ?_, by rw [List.length_set, List.length_set]; exact t.len, fun b j c h => ?_⟩, ex.step p2⟩⟩
  · by_cases hc : c ∈ A
    · exact ⟨(h0 c hc).2.2, h3.has c hc⟩
    · rw [omOn_out hc] at hq
      exact t.ow c q hq
  · rw [List.getElem?_set] at h ⊢
    split at h
    · rename_i hij
      subst hij
      rw [if_pos rfl]
      rw [if_pos (by rw [← t.len]; exact hi)]
      have h' := Option.some.inj (Option.some.inj h)
      subst h'
      exact ⟨_, rfl, all_own (fun a ha => omOn_in ha) h3⟩
    · rename_i hij
      rw [if_neg hij]
      obtain ⟨v, h4, h5⟩ := t.at' j x h
      refine ⟨v, h4, h5.om fun b c hb => ?_⟩
      rw [omOn_out fun z => by rw [(h0 b z).2.1] at hb; cases hb]
      exact hb
  · rw [List.length_set]
    by_cases hb : b ∈ A
    · rw [omOn_in hb] at h
      cases h
      exact hi
    · rw [omOn_out hb] at h
      exact t.ix b j c h
/-- the change of an object, seen from the state: the addresses A become A2 (some new), the rest stays -/
theorem Sta.chgB {F0 H0 F H H2 : Hp} {ω0 ω : Om} {s : Sl} {σ : L2.St} {b : Bool} {o2 : O} {l i : Nat} {A A2 : List Addr} (p0 : Stp F0 H0 ω0 F H ω) (t : Sta0 K F H ω s σ) (hv : σ[i]? = some (some (.ref l))) (h1 : ω l = some (i, tgR b)) (hA : ∀ a ∈ A, a ≠ l → ω a = some (i, tgP b))
    (hs : ∀ a, a ∉ A → ∀ u, H a = some u → H2 a = some u) (hk : ∀ a u, H a = some u → ∃ u2, H2 a = some u2) (hA2 : ∀ a ∈ A2, a ∈ A ∨ (H0 a = none ∧ ω a = none ∧ F a = none)) (hl : l ∈ A) (r : ObjR K F H2 o2 l A2) :
    ∃ ω', Stp F0 H0 ω0 F H2 ω' ∧ Sta0 K F H2 ω' (s.set i (some (.ow b o2))) σ := by
  classical
  have hω : ∀ a ∈ A2, a ≠ l → ω a = some (i, tgP b) ∨ (H0 a = none ∧ ω a = none ∧ F a = none) := fun a ha hl => (hA2 a ha).elim (fun z => .inl (hA a z hl)) .inr
  have hω' : ∀ c, (if c ∈ A2 ∧ c ≠ l then some (i, tgP b) else ω c) = ω c ∨ ((if c ∈ A2 ∧ c ≠ l then some (i, tgP b) else ω c) = some (i, tgP b) ∧ H0 c = none ∧ ω c = none ∧ F c = none) := fun c => by
    by_cases hc : c ∈ A2 ∧ c ≠ l
    · rw [if_pos hc]
      rcases hω c hc.1 hc.2 with z | z
      · exact .inl z.symm
      · exact .inr ⟨rfl, z⟩
    · rw [if_neg hc]
      exact .inl rfl
  have hnA : ∀ a j c, j ≠ i → ω a = some (j, c) → a ∉ A := fun a j c hj ha hm => by
    by_cases he : a = l
    · rw [he, h1] at ha
      cases ha
      exact hj rfl
    · rw [hA a hm he] at ha
      cases ha
      exact hj rfl
  have hnA0 : ∀ a, ω a = none → a ∉ A := fun a ha hm => by
    by_cases he : a = l
    · rw [he, h1] at ha
      cases ha
    · rw [hA a hm he] at ha
      cases ha
  have p : Stp F0 H0 ω0 F H2 (fun c => if c ∈ A2 ∧ c ≠ l then some (i, tgP b) else ω c) := by
    refine ⟨p0.tb0, p0.tb.go (Same.refl F) (fun c u ht h1 h2 => hs c (hnA0 c h1) u h2) (fun c u ht h1 h2 => ?_) (fun _ _ _ _ _ h => h), fun c u h1 h2 => ?_, p0.sf, fun c u ht h1 h2 => hs c (hnA0 c (p0.om c u h1 h2)) u (p0.fr c u ht h1 h2), fun c u q1 q2 => ?_, p0.fn, fun c h => ?_, fun c j => ?_, fun c j u q0 q => ?_, fun c j q => ?_⟩
    · rcases hω' c with z | ⟨_, z, _⟩
      · exact z.trans h1
      · exact absurd ht (p0.tb0.new z)
    · obtain ⟨u1, h3⟩ := p0.th c u h1 h2
      exact ⟨u1, hs c (hnA0 c (p0.om c u h1 h2)) u1 h3⟩
    · rcases hω' c with z | ⟨_, z, _⟩
      · exact z.trans (p0.om c u q1 q2)
      · rw [q2] at z; cases z
    · refine p0.tr c ?_
      cases e : H c with
      | none => rfl
      | some u =>
        obtain ⟨u2, h2⟩ := hk c u e
        rw [h] at h2
        cases h2
    · rw [← p0.bk c j]
      rcases hω' c with z | ⟨z, _, z1, _⟩
      · show (if c ∈ A2 ∧ c ≠ l then some (i, tgP b) else ω c) = _ ↔ _
        rw [z]
      · show (if c ∈ A2 ∧ c ≠ l then some (i, tgP b) else ω c) = _ ↔ _
        rw [z, z1]
        cases b <;> simp [tgP]
    · rcases hω' c with z | ⟨z, z1, _⟩
      · show (if c ∈ A2 ∧ c ≠ l then some (i, tgP b) else ω c) = _ ∨ (if c ∈ A2 ∧ c ≠ l then some (i, tgP b) else ω c) = _
        rw [z]
        exact p0.bp c j u q0 q
      · rw [q0] at z1; cases z1
    · rcases hω' c with z | ⟨_, z, _⟩
      · exact p0.kb c j (z.symm.trans q)
      · exact .inr z
  refine ⟨_, p, ⟨p.tb, fun c u h => ?_, fun c q h => ?_, fun j x h => ?_, by rw [List.length_set]; exact t.len, fun c j d h => ?_⟩⟩
  · have hc : c ∉ A := fun hm => by
      have : F c = none := by
        by_cases he : c = l
        · rw [he]; exact (t.ow l _ h1).1
        · exact (t.ow c _ (hA c hm he)).1
      rw [this] at h
      cases h
    exact hs c hc u (t.sf c u h)
  · rcases hω' c with z | ⟨z, z1, z2, z3⟩
    · have h' : ω c = some q := z.symm.trans h
      obtain ⟨q1, u, q2⟩ := t.ow c q h'
      exact ⟨q1, hk c u q2⟩
    · refine ⟨z3, ?_⟩
      by_cases hc : c ∈ A2 ∧ c ≠ l
      · exact r.has c hc.1
      · have h' : (if c ∈ A2 ∧ c ≠ l then some (i, tgP b) else ω c) = some (i, tgP b) := z
        rw [if_neg hc, z2] at h'
        cases h'
  · rw [List.getElem?_set] at h
    split at h
    · rename_i hij
      subst hij
      split at h
      · have h' := Option.some.inj (Option.some.inj h)
        subst h'
        refine ⟨_, hv, l, A2, rfl, ?_, fun a ha hl => ?_, r⟩
        · show (if l ∈ A2 ∧ l ≠ l then some (i, tgP b) else ω l) = _
          rw [if_neg fun z => z.2 rfl]
          exact h1
        · show (if a ∈ A2 ∧ a ≠ l then some (i, tgP b) else ω a) = _
          rw [if_pos ⟨ha, hl⟩]
      · cases h
    · rename_i hij
      obtain ⟨v, h4, h5⟩ := t.at' j x h
      refine ⟨v, h4, ?_⟩
      cases x with
      | fr d => exact h5
      | hid u => exact h5
      | ow c o =>
        obtain ⟨l', B, rfl, h6, h7, h8⟩ := h5
        have hj : j ≠ i := fun z => hij z.symm
        have hB : ∀ a ∈ B, ∃ d, ω a = some (j, d) := fun a ha => by
          by_cases he : a = l'
          · rw [he]; exact ⟨_, h6⟩
          · exact ⟨_, h7 a ha he⟩
        have keep : ∀ a d, ω a = some (j, d) → (if a ∈ A2 ∧ a ≠ l then some (i, tgP b) else ω a) = some (j, d) := fun a d ha => by
          rcases hω' a with z | ⟨_, _, z, _⟩
          · exact z.trans ha
          · rw [z] at ha; cases ha
        exact ⟨l', B, rfl, keep _ _ h6, fun a ha hl => keep _ _ (h7 a ha hl), h8.heap fun a ha u hu => by
          obtain ⟨d, hd⟩ := hB a ha
          exact hs a (hnA a j d hj hd) u hu⟩
  · rw [List.length_set]
    rcases hω' c with z | ⟨z, _⟩
    · exact t.ix c j d (z.symm.trans h)
    · have z' : some (i, tgP b) = some (j, d) := z.symm.trans h
      cases z'
      exact t.ix l i _ h1
theorem Sta.free {F H : Hp} {ω : Om} {s : Sl} {σ : L2.St} (T : Sta0 K F H ω s σ) {l : Addr} (h0 : H l = none) : ω l = none := by
  cases hw : ω l with
  | none => rfl
  | some w =>
    obtain ⟨_, u, hu⟩ := T.ow l w hw
    rw [h0] at hu
    cases hu
theorem Sta.chg {F H H2 : Hp} {ω : Om} {s : Sl} {σ : L2.St} {b : Bool} {o2 : O} {l i : Nat} {A A2 : List Addr} (t : Sta K Ξ F H ω s σ) (hv : σ[i]? = some (some (.ref l))) (h1 : ω l = some (i, tgR b)) (hA : ∀ a ∈ A, a ≠ l → ω a = some (i, tgP b))
    (hs : ∀ a, a ∉ A → ∀ u, H a = some u → H2 a = some u) (hk : ∀ a u, H a = some u → ∃ u2, H2 a = some u2) (hA2 : ∀ a ∈ A2, a ∈ A ∨ H a = none) (hl : l ∈ A) (r : ObjR K F H2 o2 l A2) :
    ∃ ω', Stp F H ω F H2 ω' ∧ Sta K Ξ F H2 ω' (s.set i (some (.ow b o2))) σ := by
  obtain ⟨ω', p, T⟩ := Sta.chgB (Stp.refl t.tb) t.base hv h1 hA hs hk (fun a ha => (hA2 a ha).imp id fun z => ⟨z, Sta.free t.base z, t.sf.free z⟩) hl r
  exact ⟨ω', p, T, t.ex.step p⟩
theorem upd_keep {H : Hp} {l : Addr} {u : HO} : ∀ a w, H a = some w → ∃ w2, upd H l u a = some w2 := fun a w h => by
  by_cases ha : a = l
  · subst ha
    exact ⟨u, upd_same⟩
  · rw [upd_ne ha]
    exact ⟨w, h⟩
/-- a slot's simple object is changed -/
theorem Sta.mut {F H : Hp} {ω : Om} {s : Sl} {σ : L2.St} {b : Bool} {o' : O} {l i : Nat} {u : HO} (t : Sta K Ξ F H ω s σ) (hv : σ[i]? = some (some (.ref l))) (hl : ω l = some (i, tgR b)) (r : ObjR K F (upd H l u) o' l [l]) :
    ∃ ω', Stp F H ω F (upd H l u) ω' ∧ Sta K Ξ F (upd H l u) ω' (s.set i (some (.ow b o'))) σ :=
  t.chg (A := [l]) (A2 := [l]) hv hl (fun a ha hne => absurd (List.mem_singleton.mp ha) hne) (fun a ha w hw => by rw [upd_ne fun z => ha (List.mem_singleton.mpr z)]; exact hw) upd_keep (fun a ha => .inl ha) (List.mem_singleton.mpr rfl) r
end
section
variable {K : PySem.W.Frag} {Ξ : XI}
/-- a name's own list -/
theorem Sta.lst {F H : Hp} {ω : Om} {s : Sl} {σ : L2.St} {b : Bool} {xs : List D} (T : Sta K Ξ F H ω s σ) (i : Nat) (h : s[i]? = some (some (.ow b (.lst xs)))) :
    ∃ v, σ[i]? = some (some v) ∧ ∃ l, v = .ref l ∧ ω l = some (i, tgR b) ∧ ∃ ws, H l = some (.lst ws) ∧ RpA K F xs ws := by
  obtain ⟨v, hv, l, A, rfl, h1, _, _, ws, h2, h3⟩ := T.at' i _ h
  exact ⟨_, hv, l, rfl, h1, ws, h2, h3⟩
theorem obj_lst {F H : Hp} {l : Addr} {xs : List D} {ws : List V} (h : H l = some (.lst ws)) (r : RpA K F xs ws) : ObjR K F H (.lst xs) l [l] := ⟨rfl, ws, h, r⟩
end
/-! ### readings by data -/
/-- what an expression gives, by data -/
abbrev PX := Sl → (S → Sl → Prop) → Prop
/-- an expression whose value is data -/
abbrev PD := Sl → (D → Sl → Prop) → Prop
class LiftE (K : PySem.W.Frag) (Ξ : XI) (t : TE) (p : outParam PX) : Prop where
  run : ∀ {F H : Hp} {ω : Om} {s : Sl} {σ : L2.St} {Q : VK} (q : S → Sl → Prop), Sta K Ξ F H ω s σ → p s q →
    (∀ v F' H' ω' x s', Stp F H ω F' H' ω' → Sta K Ξ F' H' ω' s' σ → Rt K H F' H' ω' x v → q x s' → Q v H') → t σ H Q
/-- .. frozen -/
class LiftD (K : PySem.W.Frag) (Ξ : XI) (t : TE) (p : outParam PD) : Prop where
  run : ∀ {F H : Hp} {ω : Om} {s : Sl} {σ : L2.St} {Q : VK} (q : D → Sl → Prop), Sta K Ξ F H ω s σ → p s q →
    (∀ v F' H' ω' d s', Stp F H ω F' H' ω' → Sta K Ξ F' H' ω' s' σ → Rp K F' d v → q d s' → Q v H') → t σ H Q
def pDat (p : PX) : PD := fun s q => p s fun x s' => q x.dat s'
instance {K : PySem.W.Frag} {Ξ : XI} {t : TE} {p : PX} [LiftE K Ξ t p] : LiftD K Ξ t (pDat p) := ⟨fun {F H ω s σ Q} q T h k =>
  LiftE.run (K := K) (t := t) (p := p) (fun x s' => q x.dat s') T h fun v F' H' ω' x s' p' T' r hq => by
    obtain ⟨F2, p2, T2, r2, _⟩ := Rt.frz p' T.ex T' r
    exact k v F2 H' ω' x.dat s' p2 T2 r2 hq⟩
section
variable {K : PySem.W.Frag} {Ξ : XI}
/-! names, constants -/
def pVar (i : Nat) : PX := fun s q => match s[i]? with
  | some (some (.fr d)) => q (.fr d) s
  | some (some (.ow false o)) => q (.fr o.dat) (s.set i (some (.fr o.dat)))
  | _ => False
theorem liftVar (i : Nat) {F H : Hp} {ω : Om} {s : Sl} {σ : L2.St} (q : S → Sl → Prop) (T : Sta K Ξ F H ω s σ) (h : pVar i s q) :
    ∃ v F' ω' d s', σ[i]? = some (some v) ∧ Stp F H ω F' H ω' ∧ Sta K Ξ F' H ω' s' σ ∧ Rp K F' d v ∧ q (.fr d) s' := by
  unfold pVar at h
  split at h
  · rename_i d e
    obtain ⟨v, hv, r⟩ := T.get e
    exact ⟨v, F, ω, d, s, hv, Stp.refl T.tb, T, r, h⟩
  · rename_i o e
    obtain ⟨F', ω', v, p, T', hv, r⟩ := T.frzSlot e
    exact ⟨v, F', ω', _, _, hv, p, T', r, h⟩
  · exact h.elim
instance (i : Nat) : LiftE K Ξ (tVar i) (pVar i) := ⟨fun q T h k => by
  obtain ⟨v, F', ω', d, s', hv, p, T', r, hq⟩ := liftVar i q T h
  exact ⟨v, hv, k v F' _ ω' (.fr d) s' p T' r hq⟩⟩
def vS : V → Option D
  | .non => some .non
  | .bl b => some (.bl b)
  | .int i => some (.int i)
  | .str x => some (.str x)
  | _ => none
theorem vS_rp {F : Hp} : ∀ {v : V} {d : D}, vS v = some d → Rp K F d v
  | .non, _, h => by cases h; rfl
  | .bl _, _, h => by cases h; rfl
  | .int _, _, h => by cases h; rfl
  | .str _, _, h => by cases h; rfl
/-- a plain value -/
def qV (v : V) (q : D → Prop) : Prop := match vS v with
  | some d => q d
  | none => False
theorem qV_rp {v : V} {q : D → Prop} (h : qV v q) (F : Hp) : ∃ d, Rp K F d v ∧ q d := by
  unfold qV at h
  split at h
  · rename_i d e
    exact ⟨d, vS_rp e, h⟩
  · exact h.elim
/-- a constant: data that stands in the written part, or a plain value -/
class ConD (K : PySem.W.Frag) (v : V) (d : outParam D) : Prop where
  rp : ∀ F : Hp, Rp K F d v
instance (b : Bool) : ConD K (.bl b) (.bl b) := ⟨fun _ => rfl⟩
instance (i : Int) : ConD K (.int i) (.int i) := ⟨fun _ => rfl⟩
instance (x : Str) : ConD K (.str x) (.str x) := ⟨fun _ => rfl⟩
instance : ConD K .non .non := ⟨fun _ => rfl⟩
def pC (d : D) : PX := fun s q => q (.fr d) s
instance {v : V} {d : D} [ConD K v d] : LiftE K Ξ (tC v) (pC d) := ⟨fun {F H ω s σ Q} q T h k => k v F H ω (.fr d) s (Stp.refl T.tb) T (ConD.rp F : Rp K F d v) h⟩
/-! operators by values -/
/-- a result that is data, or new -/
def Rn (K : PySem.W.Frag) (H0 F H : Hp) : S → V → Prop
  | .fr d, v => Rp K F d v
  | .hid u, v => v = u
  | .ow _ o, v => ∃ l A, v = .ref l ∧ (∀ a ∈ A, H0 a = none ∧ F a = none) ∧ ObjR K F H o l A
theorem Rn.rt {F0 H0 F H F' H' : Hp} {ω0 ω : Om} {s : Sl} {σ : L2.St} (p : Stp F0 H0 ω0 F H ω) (T : Sta K Ξ F H ω s σ) : ∀ {x : S} {v : V}, Rn K H F' H' x v → Rt K H0 F' H' ω x v
  | .fr _, _, r => r
  | .hid _, _, r => r
  | .ow _ _, _, ⟨l, A, e, h0, r⟩ => ⟨l, A, e, fun a ha => ⟨p.tr a (h0 a ha).1, Sta.free T.base (h0 a ha).1, (h0 a ha).2⟩, r⟩
theorem one_new {H F : Hp} {p : Addr} (h : H p = none) (h2 : F p = none) : ∀ a ∈ [p], H a = none ∧ F a = none := fun a ha => by
  cases List.mem_singleton.mp ha
  exact ⟨h, h2⟩
class OpL (K : PySem.W.Frag) (r : R2) (g : outParam (D → D → (S → Prop) → Prop)) : Prop where
  run : ∀ {F H : Hp} {x y : V} {d e : D} {Q : VK} (q : S → Prop), Same F H → Rp K F d x → Rp K F e y → g d e q → (∀ v F' H' z, Ext F H F' H' → Rn K H F' H' z v → q z → Q v H') → r x y H Q
def pOp (g : D → D → (S → Prop) → Prop) (pa pb : PD) : PX := fun s q => pa s fun d s1 => pb s1 fun e s2 => g d e fun z => q z s2
instance {r : R2} {g : D → D → (S → Prop) → Prop} {ta tb : TE} {pa pb : PD} [OpL K r g] [LiftD K Ξ ta pa] [LiftD K Ξ tb pb] : LiftE K Ξ (tOp r ta tb) (pOp g pa pb) := ⟨fun q T h k => by
  refine LiftD.run (K := K) (t := ta) (p := pa) _ T h fun x F1 H1 ω1 d s1 p1 T1 r1 h1 => ?_
  refine LiftD.run (K := K) (t := tb) (p := pb) _ T1 h1 fun y F2 H2 ω2 e s2 p2 T2 r2 h2 => ?_
  refine OpL.run (K := K) (r := r) (g := g) _ T2.sf (r1.mono p2.sf) r2 h2 fun v F3 H3 z e3 r3 hq => ?_
  obtain ⟨p3, T3⟩ := e3.stp T2
  exact k v F3 H3 ω2 z s2 ((p1.trans p2).trans p3) T3 (Rn.rt (p1.trans p2) T2 r3) hq⟩
class UnL (K : PySem.W.Frag) (r : V → Hp → VK → Prop) (g : outParam (D → (S → Prop) → Prop)) : Prop where
  run : ∀ {F H : Hp} {x : V} {d : D} {Q : VK} (q : S → Prop), Same F H → Rp K F d x → g d q → (∀ v F' H' z, Ext F H F' H' → Rn K H F' H' z v → q z → Q v H') → r x H Q
def pUn (g : D → (S → Prop) → Prop) (pa : PD) : PX := fun s q => pa s fun d s1 => g d fun z => q z s1
instance {r : V → Hp → VK → Prop} {g : D → (S → Prop) → Prop} {ta : TE} {pa : PD} [UnL K r g] [LiftD K Ξ ta pa] : LiftE K Ξ (tUn r ta) (pUn g pa) := ⟨fun q T h k => by
  refine LiftD.run (K := K) (t := ta) (p := pa) _ T h fun x F1 H1 ω1 d s1 p1 T1 r1 h1 => ?_
  refine UnL.run (K := K) (r := r) (g := g) _ T1.sf r1 h1 fun v F3 H3 z e3 r3 hq => ?_
  obtain ⟨p3, T3⟩ := e3.stp T1
  exact k v F3 H3 ω1 z s1 (p1.trans p3) T3 (Rn.rt p1 T1 r3) hq⟩
theorem rp_int {F : Hp} {i : Int} {v : V} (h : Rp K F (.int i) v) : v = .int i := h
/-- plain answers -/
theorem plain {F H : Hp} {w : V} {Q : VK} {q : S → Prop} (e : Same F H) (h : qV w fun d => q (.fr d)) (k : ∀ v F' H' z, Ext F H F' H' → Rn K H F' H' z v → q z → Q v H') : Q w H := by
  obtain ⟨d, r, hq⟩ := qV_rp (K := K) h F
  exact k w F H (.fr d) (Ext.refl e) r hq
def gI0 (g : Int → Int → V) : D → D → (S → Prop) → Prop := fun d e q => match d, e with
  | .int i, .int j => qV (g i j) fun z => q (.fr z)
  | _, _ => False
instance (g : Int → Int → V) : OpL K (rI0 g) (gI0 g) := ⟨fun {F H x y d e Q} q hs h1 h2 h k => by
  unfold gI0 at h
  split at h
  · exact ⟨_, _, h1, h2, plain hs h k⟩
  · exact h.elim⟩
def gI (C : Int → Int → Prop) (g : Int → Int → V) : D → D → (S → Prop) → Prop := fun d e q => match d, e with
  | .int i, .int j => C i j ∧ qV (g i j) fun z => q (.fr z)
  | _, _ => False
instance (C : Int → Int → Prop) (g : Int → Int → V) : OpL K (rI C g) (gI C g) := ⟨fun {F H x y d e Q} q hs h1 h2 h k => by
  unfold gI at h
  split at h
  · exact ⟨_, _, h1, h2, h.1, plain hs h.2 k⟩
  · exact h.elim⟩
def gU (g : Int → V) : D → (S → Prop) → Prop := fun d q => match d with
  | .int i => qV (g i) fun z => q (.fr z)
  | _ => False
instance (g : Int → V) : UnL K (rU g) (gU g) := ⟨fun {F H x d Q} q hs h1 h k => by
  unfold gU at h
  split at h
  · exact ⟨_, h1, plain hs h k⟩
  · exact h.elim⟩
def gEq (f : Bool → Bool) : D → D → (S → Prop) → Prop := fun d e q => match d, e with
  | .int i, .int j => q (.fr (.bl (f (decide (i = j)))))
  | .str i, .str j => q (.fr (.bl (f (decide (i = j)))))
  | .bl i, .bl j => q (.fr (.bl (f (decide (i = j)))))
  | _, _ => False
theorem dec_v {α : Type} {a b : V} {x y : α} [Decidable (x = y)] (h : a = b ↔ x = y) : decide (a = b) = decide (x = y) := by
  by_cases e : x = y
  · rw [decide_eq_true e, decide_eq_true (h.mpr e)]
  · rw [decide_eq_false e, decide_eq_false fun z => e (h.mp z)]
theorem gEq_run (f : Bool → Bool) {F H : Hp} {x y : V} {d e : D} {Q : VK} (q : S → Prop) (hs : Same F H) (h1 : Rp K F d x) (h2 : Rp K F e y) (h : gEq f d e q)
    (k : ∀ v F' H' z, Ext F H F' H' → Rn K H F' H' z v → q z → Q v H') : scal x y = true ∧ Q (.bl (f (decide (x = y)))) H := by
  unfold gEq at h
  split at h
  · cases (show x = _ from h1)
    cases (show y = _ from h2)
    refine ⟨rfl, k _ F H (.fr (.bl _)) (Ext.refl hs) rfl ?_⟩
    rw [dec_v ⟨V.int.inj, congrArg V.int⟩]
    exact h
  · cases (show x = _ from h1)
    cases (show y = _ from h2)
    refine ⟨rfl, k _ F H (.fr (.bl _)) (Ext.refl hs) rfl ?_⟩
    rw [dec_v ⟨V.str.inj, congrArg V.str⟩]
    exact h
  · cases (show x = _ from h1)
    cases (show y = _ from h2)
    refine ⟨rfl, k _ F H (.fr (.bl _)) (Ext.refl hs) rfl ?_⟩
    rw [dec_v ⟨V.bl.inj, congrArg V.bl⟩]
    exact h
  · exact h.elim
instance : OpL K rEq (gEq id) := ⟨fun q hs h1 h2 h k => gEq_run id q hs h1 h2 h k⟩
instance : OpL K rNe (gEq not) := ⟨fun q hs h1 h2 h k => gEq_run not q hs h1 h2 h k⟩
def isNon : D → Bool
  | .non => true
  | .opq u => decide (u = V.non)
  | _ => false
theorem isNon_v {F : Hp} {d : D} {x : V} (h : Rp K F d x) : decide (x = .non) = isNon d := by
  cases d with
  | non => cases (show x = _ from h); rfl
  | bl b => cases (show x = _ from h); rfl
  | int b => cases (show x = _ from h); rfl
  | str b => cases (show x = _ from h); rfl
  | lst ds => obtain ⟨a, vs, rfl, _⟩ := h; rfl
  | scr ds => obtain ⟨a, rfl, _⟩ := h; rfl
  | ty n => cases (show x = _ from h); rfl
  | tup ds => obtain ⟨a, vs, rfl, _⟩ := h; rfl
  | dic w ks ds => obtain ⟨a, vs, rfl, _⟩ := h; rfl
  | dik ks ds => obtain ⟨a, vs, rfl, _⟩ := h; rfl
  | obj C ns ds => obtain ⟨a, dx, vs, rfl, _⟩ := h; rfl
  | xv a C d ns ds => cases h.1; rfl
  | opq u => cases (show x = _ from h); rfl
def gIsN (f : Bool → Bool) : D → D → (S → Prop) → Prop := fun d e q => match e with
  | .non => q (.fr (.bl (f (isNon d))))
  | _ => False
instance : OpL K (fun x y H Q => y = .non ∧ Q (.bl (decide (x = .non))) H) (gIsN id) := ⟨fun {F H x y d e Q} q hs h1 h2 h k => by
  unfold gIsN at h
  split at h
  · refine ⟨h2, ?_⟩
    rw [isNon_v h1]
    exact k _ F H (.fr (.bl _)) (Ext.refl hs) rfl h
  · exact h.elim⟩
instance : OpL K (fun x y H Q => y = .non ∧ Q (.bl (!decide (x = .non))) H) (gIsN not) := ⟨fun {F H x y d e Q} q hs h1 h2 h k => by
  unfold gIsN at h
  split at h
  · refine ⟨h2, ?_⟩
    rw [isNon_v h1]
    exact k _ F H (.fr (.bl _)) (Ext.refl hs) rfl h
  · exact h.elim⟩
/-! items of sequences -/
def gIxL : D → D → (S → Prop) → Prop := fun d e q => match d, e with
  | .lst ds, .int i => match atI ds i with
    | some z => q (.fr z)
    | none => False
  | _, _ => False
def gIxT : D → D → (S → Prop) → Prop := fun d e q => match d, e with
  | .tup ds, .int i => match atI ds i with
    | some z => q (.fr z)
    | none => False
  | _, _ => False
theorem RpA.atI {F : Hp} {ds : List D} {vs : List V} {i : Int} {d : D} (h : RpA K F ds vs) (e : atI ds i = some d) : ∃ v, L2.atI vs i = some v ∧ Rp K F d v := by
  unfold L2.atI at e ⊢
  rw [← h.len]
  cases hx : ixN ds.length i with
  | none => rw [hx] at e; cases e
  | some j =>
    rw [hx] at e
    exact h.get e
instance : OpL K (rIxL K) gIxL := ⟨fun {F H x y d e Q} q hs h1 h2 h k => by
  unfold gIxL at h
  split at h
  · split at h
    · rename_i z hz
      obtain ⟨a, vs, rfl, h3, h4⟩ := h1
      obtain ⟨v, hv, r⟩ := h4.atI hz
      exact ⟨a, vs, _, v, rfl, h2, SqL.of (hs _ _ h3), hv, k v F H (.fr z) (Ext.refl hs) r h⟩
    · exact h.elim
  · exact h.elim⟩
instance : OpL K (rIxT K) gIxT := ⟨fun {F H x y d e Q} q hs h1 h2 h k => by
  unfold gIxT at h
  split at h
  · split at h
    · rename_i z hz
      obtain ⟨a, vs, rfl, h3, h4⟩ := h1
      obtain ⟨v, hv, r⟩ := h4.atI hz
      exact ⟨a, vs, _, v, rfl, h2, hs.tupq h3, hv, k v F H (.fr z) (Ext.refl hs) r h⟩
    · exact h.elim
  · exact h.elim⟩
def gIxS : D → D → (S → Prop) → Prop := fun d e q => match d, e with
  | .str z, .int i => z.length ≤ sizeLine ∧ match atI z.cps.toList i with
    | some c => q (.fr (.str ⟨#[c]⟩))
    | none => False
  | _, _ => False
instance : OpL K rIxS gIxS := ⟨fun {F H x y d e Q} q hs h1 h2 h k => by
  unfold gIxS at h
  split at h
  · obtain ⟨h0, h⟩ := h
    split at h
    · rename_i z hz
      exact ⟨_, _, _, h1, h2, h0, hz, k _ F H (.fr (.str _)) (Ext.refl hs) rfl h⟩
    · exact h.elim
  · exact h.elim⟩
instance : OpL K (rIx K) (fun d e q => gIxL d e q ∨ gIxT d e q ∨ gIxS d e q) := ⟨fun q hs h1 h2 h k => by
  rcases h with h | h | h
  · exact .inl (OpL.run (K := K) (r := rIxL K) (g := gIxL) q hs h1 h2 h k)
  · exact .inr (.inl (OpL.run (K := K) (r := rIxT K) (g := gIxT) q hs h1 h2 h k))
  · exact .inr (.inr (OpL.run (K := K) (r := rIxS) (g := gIxS) q hs h1 h2 h k))⟩
/-! lists and tuples made -/
theorem Ext.lst {F H : Hp} {p : Addr} {ds : List D} {vs : List V} {Q : VK} {q : S → Prop} (hs : Same F H) (r : RpA K F ds vs) (hq : q (.ow false (.lst ds))) (k : ∀ v F' H' z, Ext F H F' H' → Rn K H F' H' z v → q z → Q v H')
    (hp : H p = none) : Q (.ref p) (upd H p (.lst vs)) := k _ F _ (.ow false (.lst ds)) (Ext.ow hs hp _) ⟨p, [p], rfl, one_new hp (hs.free hp), obj_lst upd_same r⟩ hq
theorem Ext.tup {F H : Hp} {p : Addr} {ds : List D} {vs : List V} {Q : VK} {q : S → Prop} (hs : Same F H) (r : RpA K F ds vs) (hq : q (.fr (.tup ds))) (k : ∀ v F' H' z, Ext F H F' H' → Rn K H F' H' z v → q z → Q v H')
    (hp : H p = none) : Q (.ref p) (upd H p (.tup vs)) := k _ _ _ (.fr (.tup ds)) (Ext.fz hs hp _) ⟨p, vs, rfl, SqT.of upd_same, r.mono (same_upd (hs.free hp))⟩ hq
def gCat : D → D → (S → Prop) → Prop := fun d e q => match d, e with
  | .lst a, .lst b => a.length + b.length ≤ sizeLine ∧ q (.ow false (.lst (a ++ b)))
  | _, _ => False
def gCatT : D → D → (S → Prop) → Prop := fun d e q => match d, e with
  | .tup a, .tup b => a ≠ [] ∧ a.length + b.length ≤ sizeLine ∧ q (.fr (.tup (a ++ b)))
  | _, _ => False
end
section
variable {K : PySem.W.Frag} {Ξ : XI}
instance : OpL K rCat gCat := ⟨fun {F H x y d e Q} q hs h1 h2 h k => by
  unfold gCat at h
  split at h
  · obtain ⟨a, vs, rfl, h3, h4⟩ := h1
    obtain ⟨b, ws, rfl, h5, h6⟩ := h2
    exact ⟨a, b, vs, ws, rfl, rfl, hs _ _ h3, hs _ _ h5, by rw [← h4.len, ← h6.len]; exact h.1, fun p hp => Ext.lst hs (h4.app h6) h.2 k hp⟩
  · exact h.elim⟩
instance : OpL K (rCatT K) gCatT := ⟨fun {F H x y d e Q} q hs h1 h2 h k => by
  unfold gCatT at h
  split at h
  · obtain ⟨a, vs, rfl, h3, h4⟩ := h1
    obtain ⟨b, ws, rfl, h5, h6⟩ := h2
    refine ⟨a, b, vs, ws, rfl, rfl, hs.tupq h3, hs.tupq h5, fun z => h.1 ?_, by rw [← h4.len, ← h6.len]; exact h.2.1, fun z => ?_, fun _ p hp => Ext.tup hs (h4.app h6) h.2.2 k hp⟩
    · have := h4.len
      rw [z] at this
      exact List.length_eq_zero_iff.mp this
    · have hz := h6.len
      rw [z] at hz
      have e0 := List.length_eq_zero_iff.mp hz
      have hq := h.2.2
      rw [e0, List.append_nil] at hq
      exact k _ F H (.fr (.tup _)) (Ext.refl hs) ⟨a, vs, rfl, h3, h4⟩ hq
  · exact h.elim⟩
def gRep : D → D → (S → Prop) → Prop := fun d e q => match d, e with
  | .lst a, .int k => -(2 ^ 63) ≤ k ∧ k < 2 ^ 63 ∧ a.length * k.toNat ≤ sizeLine ∧ q (.ow false (.lst (List.replicate k.toNat a).flatten))
  | _, _ => False
theorem RpA.flat {F : Hp} {ds : List D} {vs : List V} (h : RpA K F ds vs) : ∀ n, RpA K F (List.replicate n ds).flatten (List.replicate n vs).flatten
  | 0 => rfl
  | n + 1 => by
    rw [List.replicate_succ, List.replicate_succ, List.flatten_cons, List.flatten_cons]
    exact h.app (RpA.flat h n)
instance : OpL K rRep gRep := ⟨fun {F H x y d e Q} q hs h1 h2 h k => by
  unfold gRep at h
  split at h
  · obtain ⟨a, vs, rfl, h3, h4⟩ := h1
    exact ⟨a, _, vs, rfl, h2, hs _ _ h3, h.1, h.2.1, by rw [← h4.len]; exact h.2.2.1, fun p hp => Ext.lst hs (h4.flat _) h.2.2.2 k hp⟩
  · exact h.elim⟩
/-! texts -/
def gStrB (f : Str → Str → Bool) : D → D → (S → Prop) → Prop := fun d e q => match d, e with
  | .str i, .str j => q (.fr (.bl (f i j)))
  | _, _ => False
theorem gStrB_run {f : Str → Str → Bool} {F H : Hp} {x y : V} {d e : D} {Q : VK} (q : S → Prop) (hs : Same F H) (h1 : Rp K F d x) (h2 : Rp K F e y) (h : gStrB f d e q) (k : ∀ v F' H' z, Ext F H F' H' → Rn K H F' H' z v → q z → Q v H') :
    ∃ i j, x = .str i ∧ y = .str j ∧ Q (.bl (f i j)) H := by
  unfold gStrB at h
  split at h
  · exact ⟨_, _, h1, h2, k _ F H (.fr (.bl _)) (Ext.refl hs) rfl h⟩
  · exact h.elim
instance : OpL K (fun x y H Q => ∃ i j, x = .str i ∧ y = .str j ∧ Q (.bl (decide (i.cps.toList < j.cps.toList))) H) (gStrB fun i j => decide (i.cps.toList < j.cps.toList)) := ⟨fun q hs h1 h2 h k => gStrB_run q hs h1 h2 h k⟩
instance : OpL K (fun x y H Q => ∃ i j, x = .str i ∧ y = .str j ∧ Q (.bl (!(Builtin.Str.occurrences j i 0 j.length 1).isEmpty)) H) (gStrB fun i j => !(Builtin.Str.occurrences j i 0 j.length 1).isEmpty) := ⟨fun q hs h1 h2 h k => gStrB_run q hs h1 h2 h k⟩
def gAddS : D → D → (S → Prop) → Prop := fun d e q => match d, e with
  | .str i, .str j => i.length + j.length ≤ sizeLine ∧ q (.fr (.str (i ++ j)))
  | _, _ => False
instance : OpL K (fun x y H Q => ∃ i j, x = .str i ∧ y = .str j ∧ i.length + j.length ≤ sizeLine ∧ Q (.str (i ++ j)) H) gAddS := ⟨fun {F H x y d e Q} q hs h1 h2 h k => by
  unfold gAddS at h
  split at h
  · exact ⟨_, _, h1, h2, h.1, k _ F H (.fr (.str _)) (Ext.refl hs) rfl h.2⟩
  · exact h.elim⟩
/-! == of data -/
def D.plN : Nat → D → Bool
  | _, .non => true
  | _, .int _ => true
  | _, .str x => PyData.strOk x
  | n + 1, .lst ds => ds.all (D.plN n)
  | n + 1, .tup ds => ds.all (D.plN n)
  | _, _ => false
mutual
def D.py : D → PyData
  | .non => .none
  | .bl b => .bool b
  | .int i => .int i
  | .str x => .str x
  | .lst ds => .list (D.pys ds)
  | .tup ds => .tuple (D.pys ds)
  | .dic _ _ _ => .none
  | .dik _ _ => .none
  | .obj _ _ _ => .none
  | .scr ns => .list (ns.map .int)
  | .ty _ => .none
  | .opq _ => .none
  | .xv _ _ _ _ _ => .none
def D.pys : List D → List PyData
  | [] => []
  | d :: ds => d.py :: D.pys ds
end
theorem all_cons {n : Nat} {d : D} {ds : List D} (h : (d :: ds).all (D.plN n) = true) : D.plN n d = true ∧ ds.all (D.plN n) = true := Bool.and_eq_true_iff.mp h
theorem pys_of {n : Nat} {F : Hp} (ih : ∀ {d : D} {v : V}, D.plN n d = true → Rp K F d v → Dp K F v d.py ∧ d.py.canLay0 = true ∧ d.py.depth ≤ n) :
    ∀ {ds : List D} {vs : List V}, ds.all (D.plN n) = true → RpA K F ds vs → DpAll K F vs (D.pys ds) ∧ PyData.canLayAll0 (D.pys ds) = true ∧ PyData.depthAll (D.pys ds) ≤ n
  | [], _, _, h => by
    subst h
    exact ⟨.nil, rfl, Nat.zero_le _⟩
  | d :: ds, _, hp, h => by
    obtain ⟨v, ws, rfl, h1, h2⟩ := h
    obtain ⟨p1, p2⟩ := all_cons hp
    obtain ⟨a1, a2, a3⟩ := ih p1 h1
    obtain ⟨b1, b2, b3⟩ := pys_of ih p2 h2
    exact ⟨.cons a1 b1, Bool.and_eq_true_iff.mpr ⟨a2, b2⟩, Nat.max_le.mpr ⟨a3, b3⟩⟩
theorem py_of {F : Hp} (n : Nat) {d : D} {v : V} (hp : D.plN n d = true) (h : Rp K F d v) : Dp K F v d.py ∧ d.py.canLay0 = true ∧ d.py.depth ≤ n := by
  induction n generalizing d v with
  | zero =>
    cases d with
    | non => cases (show _ = _ from h); exact ⟨.non, rfl, Nat.zero_le _⟩
    | int i => cases (show _ = _ from h); exact ⟨.int i, rfl, Nat.zero_le _⟩
    | str i => cases (show _ = _ from h); exact ⟨.str i, hp, Nat.zero_le _⟩
    | _ => cases hp
  | succ n ih =>
    cases d with
    | non => cases (show _ = _ from h); exact ⟨.non, rfl, Nat.zero_le _⟩
    | int i => cases (show _ = _ from h); exact ⟨.int i, rfl, Nat.zero_le _⟩
    | str i => cases (show _ = _ from h); exact ⟨.str i, hp, Nat.zero_le _⟩
    | lst ds =>
      obtain ⟨a, vs, rfl, h1, h2⟩ := h
      obtain ⟨b1, b2, b3⟩ := pys_of (fun hp h => ih hp h) (show ds.all (D.plN n) = true from hp) h2
      exact ⟨.lst (SqL.of h1) b1, b2, Nat.succ_le_succ b3⟩
    | tup ds =>
      obtain ⟨a, vs, rfl, h1, h2⟩ := h
      obtain ⟨b1, b2, b3⟩ := pys_of (fun hp h => ih hp h) (show ds.all (D.plN n) = true from hp) h2
      exact ⟨.tup h1 b1, b2, Nat.succ_le_succ b3⟩
    | _ => cases hp
theorem eqvA {n : Nat} (ih : ∀ {d e : D}, D.plN n d = true → D.plN n e = true → (PyData.eqv d.py e.py = true ↔ d = e)) :
    ∀ {ds es : List D}, ds.all (D.plN n) = true → es.all (D.plN n) = true → (PyData.eqvAll (D.pys ds) (D.pys es) = true ↔ ds = es)
  | [], [], _, _ => by simp [D.pys, PyData.eqvAll]
  | [], _ :: _, _, _ => by simp [D.pys, PyData.eqvAll]
  | _ :: _, [], _, _ => by simp [D.pys, PyData.eqvAll]
  | d :: ds, e :: es, h1, h2 => by
    obtain ⟨p1, p2⟩ := all_cons h1
    obtain ⟨q1, q2⟩ := all_cons h2
    have a := ih p1 q1
    have b := eqvA ih p2 q2
    simp only [D.pys, PyData.eqvAll, Bool.and_eq_true, List.cons.injEq, a, b]
theorem eqv_iff : ∀ (n : Nat) {d e : D}, D.plN n d = true → D.plN n e = true → (PyData.eqv d.py e.py = true ↔ d = e)
  | n, d, e, h1, h2 => by
    cases d <;> cases e <;> first
      | (cases n <;> cases h1; done)
      | (cases n <;> cases h2; done)
      | (simp [D.py, PyData.eqv]; done)
      | skip
    all_goals
      cases n with
      | zero => first | (cases h1; done) | (cases h2; done)
      | succ n =>
        simp only [D.py, PyData.eqv, D.lst.injEq, D.tup.injEq]
        exact eqvA (fun h1 h2 => eqv_iff n h1 h2) h1 h2
noncomputable def eqD (d e : D) : Bool := @decide (d = e) (Classical.propDecidable _)
theorem eqD_true {d e : D} (h : d = e) : eqD d e = true := by unfold eqD; exact @decide_eq_true _ (_) h
theorem eqD_false {d e : D} (h : d ≠ e) : eqD d e = false := by unfold eqD; exact @decide_eq_false _ (_) h
theorem of_eqD {d e : D} (h : eqD d e = true) : d = e := by unfold eqD at h; exact @of_decide_eq_true _ (_) h
theorem of_eqD_f {d e : D} (h : eqD d e = false) : d ≠ e := by unfold eqD at h; exact @of_decide_eq_false _ (_) h
def gEqD (f : Bool → Bool) : D → D → (S → Prop) → Prop := fun d e q => D.plN 60 d = true ∧ D.plN 60 e = true ∧ q (.fr (.bl (f (eqD d e))))
theorem eqD_is {d e : D} (h1 : D.plN 60 d = true) (h2 : D.plN 60 e = true) : PyData.eqv d.py e.py = eqD d e := by
  by_cases h : d = e
  · rw [eqD_true h]
    exact (eqv_iff 60 h1 h2).mpr h
  · rw [eqD_false h]
    exact Bool.eq_false_iff.mpr fun z => h ((eqv_iff 60 h1 h2).mp z)
theorem gEqD_run (f : Bool → Bool) {F H : Hp} {x y : V} {d e : D} {Q : VK} (q : S → Prop) (hs : Same F H) (h1 : Rp K F d x) (h2 : Rp K F e y) (h : gEqD f d e q) (k : ∀ v F' H' z, Ext F H F' H' → Rn K H F' H' z v → q z → Q v H') :
    ∃ a b, Dp K H x a ∧ Dp K H y b ∧ SeqAt.shaped a = true ∧ SeqAt.shaped b = true ∧ Q (.bl (f (PyData.eqv a b))) H := by
  obtain ⟨p1, p2, hq⟩ := h
  obtain ⟨a1, a2, a3⟩ := py_of 60 p1 (h1.mono hs)
  obtain ⟨b1, b2, b3⟩ := py_of 60 p2 (h2.mono hs)
  refine ⟨_, _, a1, b1, shaped_mk a2 (Nat.le_trans a3 (by decide)), shaped_mk b2 (Nat.le_trans b3 (by decide)), ?_⟩
  rw [eqD_is p1 p2]
  exact k _ F H (.fr (.bl _)) (Ext.refl hs) rfl hq
instance : OpL K (rEqD K) (gEqD id) := ⟨fun q hs h1 h2 h k => gEqD_run id q hs h1 h2 h k⟩
instance : OpL K (rNeD K) (gEqD not) := ⟨fun q hs h1 h2 h k => gEqD_run not q hs h1 h2 h k⟩
end
/-! ### tests -/
abbrev PT1 := Sl → (Sl → Prop) → (Sl → Prop) → Prop
def YN (b : Bool) (y n : Prop) : Prop := (b = true → y) ∧ (b = false → n)
theorem YN.ite {b : Bool} {y n : Prop} (h : YN b y n) : if b = true then y else n := by
  cases b with
  | true => exact iteT (h.1 rfl)
  | false => exact iteF (h.2 rfl)
class LiftT (K : PySem.W.Frag) (Ξ : XI) (t : TT) (p : outParam PT1) : Prop where
  run : ∀ {F H : Hp} {ω : Om} {s : Sl} {σ : L2.St} {Q : Bool → Hp → Prop} (y n : Sl → Prop), Sta K Ξ F H ω s σ → p s y n →
    (∀ b F' H' ω' s', Stp F H ω F' H' ω' → Sta K Ξ F' H' ω' s' σ → (if b = true then y s' else n s') → Q b H') → t σ H Q
section
variable {K : PySem.W.Frag} {Ξ : XI}
def pTest (p : PD) : PT1 := fun s y n => p s fun d s' => match d with
  | .bl b => YN b (y s') (n s')
  | _ => False
theorem pTest_run {t : TE} {p : PD} [LiftD K Ξ t p] {F H : Hp} {ω : Om} {s : Sl} {σ : L2.St} {Q : Bool → Hp → Prop} (y n : Sl → Prop) (T : Sta K Ξ F H ω s σ) (h : pTest p s y n)
    (k : ∀ b F' H' ω' s', Stp F H ω F' H' ω' → Sta K Ξ F' H' ω' s' σ → (if b = true then y s' else n s') → Q b H') : t σ H fun x H' => ∃ c, x = .bl c ∧ Q c H' := by
  refine LiftD.run (K := K) (t := t) (p := p) _ T h fun v F1 H1 ω1 d s1 p1 T1 r1 h1 => ?_
  split at h1
  · exact ⟨_, r1, k _ F1 H1 ω1 s1 p1 T1 h1.ite⟩
  · exact h1.elim
instance {t : TE} {p : PD} [LiftD K Ξ t p] : LiftT K Ξ (tTest t) (pTest p) := ⟨fun y n T h k => pTest_run (t := t) (p := p) y n T h k⟩
instance {t : TE} {p : PD} [LiftD K Ξ t p] : LiftT K Ξ (tB t) (pTest p) := ⟨fun y n T h k => pTest_run (t := t) (p := p) y n T h k⟩
def pAnd (p q : PT1) : PT1 := fun s y n => p s (fun s1 => q s1 y n) n
def pOr (p q : PT1) : PT1 := fun s y n => p s y (fun s1 => q s1 y n)
def pNot (p : PT1) : PT1 := fun s y n => p s n y
instance {t u : TT} {p q : PT1} [LiftT K Ξ t p] [LiftT K Ξ u q] : LiftT K Ξ (tAnd t u) (pAnd p q) := ⟨fun y n T h k => by
  refine LiftT.run (K := K) (t := t) (p := p) _ _ T h fun b F1 H1 ω1 s1 p1 T1 h1 => ?_
  cases b with
  | true =>
    refine iteT (LiftT.run (K := K) (t := u) (p := q) y n T1 (by simpa using h1) fun b F2 H2 ω2 s2 p2 T2 h2 => k b F2 H2 ω2 s2 (p1.trans p2) T2 h2)
  | false => exact iteF (k false F1 H1 ω1 s1 p1 T1 h1)⟩
instance {t u : TT} {p q : PT1} [LiftT K Ξ t p] [LiftT K Ξ u q] : LiftT K Ξ (tOr t u) (pOr p q) := ⟨fun y n T h k => by
  refine LiftT.run (K := K) (t := t) (p := p) _ _ T h fun b F1 H1 ω1 s1 p1 T1 h1 => ?_
  cases b with
  | true => exact iteT (k true F1 H1 ω1 s1 p1 T1 h1)
  | false => refine iteF (LiftT.run (K := K) (t := u) (p := q) y n T1 (by simpa using h1) fun b F2 H2 ω2 s2 p2 T2 h2 => k b F2 H2 ω2 s2 (p1.trans p2) T2 h2)⟩
instance {t : TT} {p : PT1} [LiftT K Ξ t p] : LiftT K Ξ (tNot t) (pNot p) := ⟨fun y n T h k => by
  refine LiftT.run (K := K) (t := t) (p := p) n y T h fun b F1 H1 ω1 s1 p1 T1 h1 => k (!b) F1 H1 ω1 s1 p1 T1 ?_
  cases b with
  | true => simpa using h1
  | false => simpa using h1⟩
instance : LiftT K Ξ tYes (fun s y _ => y s) := ⟨fun {F H ω s σ Q} y n T h k => k true F H ω s (Stp.refl T.tb) T (iteT h)⟩
/-! truth of any value -/
def truD : D → Option Bool
  | .non => some false
  | .bl b => some b
  | .int i => some (i != 0)
  | .str x => some ((x.length : Int) != 0)
  | .lst ds => some (!ds.isEmpty)
  | .tup ds => some (!ds.isEmpty)
  | _ => none
/-! and, or, not as values; one or the other -/
def pAndV (p q : PD) : PX := fun s k => p s fun d s1 => match d with
  | .bl b => YN b (q s1 fun e s2 => k (.fr e) s2) (k (.fr (.bl false)) s1)
  | _ => False
def pOrV (p q : PD) : PX := fun s k => p s fun d s1 => match d with
  | .bl b => YN b (k (.fr (.bl true)) s1) (q s1 fun e s2 => k (.fr e) s2)
  | _ => False
def pNotV (p : PD) : PX := fun s k => p s fun d s1 => match d with
  | .bl b => k (.fr (.bl (!b))) s1
  | _ => False
instance {t u : TE} {p q : PD} [LiftD K Ξ t p] [LiftD K Ξ u q] : LiftE K Ξ (tAndV t u) (pAndV p q) := ⟨fun kk T h k => by
  refine LiftD.run (K := K) (t := t) (p := p) _ T h fun v F1 H1 ω1 d s1 p1 T1 r1 h1 => ?_
  split at h1
  · rename_i b
    refine ⟨b, r1, ?_⟩
    cases b with
    | true =>
      refine iteT (LiftD.run (K := K) (t := u) (p := q) _ T1 (h1.1 rfl) fun v F2 H2 ω2 e s2 p2 T2 r2 h2 => k v F2 H2 ω2 (.fr e) s2 (p1.trans p2) T2 r2 h2)
    | false => exact iteF (k _ F1 H1 ω1 (.fr (.bl false)) s1 p1 T1 rfl (h1.2 rfl))
  · exact h1.elim⟩
instance {t u : TE} {p q : PD} [LiftD K Ξ t p] [LiftD K Ξ u q] : LiftE K Ξ (tOrV t u) (pOrV p q) := ⟨fun kk T h k => by
  refine LiftD.run (K := K) (t := t) (p := p) _ T h fun v F1 H1 ω1 d s1 p1 T1 r1 h1 => ?_
  split at h1
  · rename_i b
    refine ⟨b, r1, ?_⟩
    cases b with
    | true => exact iteT (k _ F1 H1 ω1 (.fr (.bl true)) s1 p1 T1 rfl (h1.1 rfl))
    | false =>
      refine iteF (LiftD.run (K := K) (t := u) (p := q) _ T1 (h1.2 rfl) fun v F2 H2 ω2 e s2 p2 T2 r2 h2 => k v F2 H2 ω2 (.fr e) s2 (p1.trans p2) T2 r2 h2)
  · exact h1.elim⟩
instance {t : TE} {p : PD} [LiftD K Ξ t p] : LiftE K Ξ (tNotV t) (pNotV p) := ⟨fun kk T h k => by
  refine LiftD.run (K := K) (t := t) (p := p) _ T h fun v F1 H1 ω1 d s1 p1 T1 r1 h1 => ?_
  split at h1
  · exact ⟨_, r1, k _ F1 H1 ω1 (.fr (.bl _)) s1 p1 T1 rfl h1⟩
  · exact h1.elim⟩
def pIfE (c : PT1) (p q : PX) : PX := fun s k => c s (fun s1 => p s1 k) (fun s1 => q s1 k)
instance {c : TT} {t u : TE} {pc : PT1} {p q : PX} [LiftT K Ξ c pc] [LiftE K Ξ t p] [LiftE K Ξ u q] : LiftE K Ξ (tIf c t u) (pIfE pc p q) := ⟨fun kk T h k => by
  refine LiftT.run (K := K) (t := c) (p := pc) _ _ T h fun b F1 H1 ω1 s1 p1 T1 h1 => ?_
  cases b with
  | true => exact iteT (LiftE.run (K := K) (t := t) (p := p) kk T1 (by simpa using h1) fun v F2 H2 ω2 x s2 p2 T2 r2 h2 => k v F2 H2 ω2 x s2 (p1.trans p2) T2 (r2.early p1.tr) h2)
  | false => exact iteF (LiftE.run (K := K) (t := u) (p := q) kk T1 (by simpa using h1) fun v F2 H2 ω2 x s2 p2 T2 r2 h2 => k v F2 H2 ω2 x s2 (p1.trans p2) T2 (r2.early p1.tr) h2)⟩
def pChain (g g' : D → D → (S → Prop) → Prop) (pa pb pc : PD) : PX := fun s k => pa s fun d s1 => pb s1 fun e s2 => g d e fun z => match z with
  | .fr (.bl b) => YN b (pc s2 fun f s3 => g' e f fun z => k z s3) (k (.fr (.bl false)) s2)
  | _ => False
instance {r r' : R2} {g g' : D → D → (S → Prop) → Prop} {ta tb tc : TE} {pa pb pc : PD} [OpL K r g] [OpL K r' g'] [LiftD K Ξ ta pa] [LiftD K Ξ tb pb] [LiftD K Ξ tc pc] : LiftE K Ξ (tChain r r' ta tb tc) (pChain g g' pa pb pc) := ⟨fun kk T h k => by
  refine LiftD.run (K := K) (t := ta) (p := pa) _ T h fun x F1 H1 ω1 d s1 p1 T1 r1 h1 => ?_
  refine LiftD.run (K := K) (t := tb) (p := pb) _ T1 h1 fun y F2 H2 ω2 e s2 p2 T2 r2 h2 => ?_
  refine OpL.run (K := K) (r := r) (g := g) _ T2.sf (r1.mono p2.sf) r2 h2 fun v F3 H3 z e3 r3 hq => ?_
  obtain ⟨p3, T3⟩ := e3.stp T2
  split at hq
  · rename_i b
    refine ⟨b, r3, ?_⟩
    have pp := (p1.trans p2).trans p3
    cases b with
    | true =>
      refine iteT (LiftD.run (K := K) (t := tc) (p := pc) _ T3 (hq.1 rfl) fun w F4 H4 ω4 f s4 p4 T4 r4 h4 => ?_)
      refine OpL.run (K := K) (r := r') (g := g') _ T4.sf (r2.mono (e3.sf.trans p4.sf)) r4 h4 fun v F5 H5 z e5 r5 hq => ?_
      obtain ⟨p5, T5⟩ := e5.stp T4
      exact k v F5 H5 ω4 z s4 ((pp.trans p4).trans p5) T5 (Rn.rt (pp.trans p4) T4 r5) hq
    | false => exact iteF (k _ F3 H3 ω2 (.fr (.bl false)) s2 pp T3 rfl (hq.2 rfl))
  · exact hq.elim⟩
/-! ### lists of arguments that are data -/
abbrev PA1 := Sl → (List D → Sl → Prop) → Prop
class LiftA (K : PySem.W.Frag) (Ξ : XI) (t : TA) (p : outParam PA1) : Prop where
  run : ∀ {F H : Hp} {ω : Om} {s : Sl} {σ : L2.St} {Q : List V → Hp → Prop} (q : List D → Sl → Prop), Sta K Ξ F H ω s σ → p s q →
    (∀ vs F' H' ω' ds s', Stp F H ω F' H' ω' → Sta K Ξ F' H' ω' s' σ → RpA K F' ds vs → q ds s' → Q vs H') → t σ H Q
instance : LiftA K Ξ tNil (fun s q => q [] s) := ⟨fun {F H ω s σ Q} q T h k => k [] F H ω [] s (Stp.refl T.tb) T rfl h⟩
def pCons (p : PD) (r : PA1) : PA1 := fun s q => p s fun d s1 => r s1 fun ds s2 => q (d :: ds) s2
instance {t : TE} {r : TA} {p : PD} {pr : PA1} [LiftD K Ξ t p] [LiftA K Ξ r pr] : LiftA K Ξ (tCons t r) (pCons p pr) := ⟨fun kk T h k => by
  refine LiftD.run (K := K) (t := t) (p := p) _ T h fun x F1 H1 ω1 d s1 p1 T1 r1 h1 => ?_
  refine LiftA.run (K := K) (t := r) (p := pr) _ T1 h1 fun vs F2 H2 ω2 ds s2 p2 T2 r2 h2 => ?_
  exact k _ F2 H2 ω2 (d :: ds) s2 (p1.trans p2) T2 ⟨x, vs, rfl, r1.mono p2.sf, r2⟩ h2⟩
def pTup (p : PA1) : PX := fun s q => p s fun ds s1 => if ds.length ≤ 1000 then q (.fr (.tup ds)) s1 else False
def pLst (p : PA1) : PX := fun s q => p s fun ds s1 => if ds.length ≤ 1000 then q (.ow false (.lst ds)) s1 else False
instance {t : TA} {p : PA1} [LiftA K Ξ t p] : LiftE K Ξ (tTup t) (pTup p) := ⟨fun {F H ω s σ Q} kk T h k => by
  refine LiftA.run (K := K) (t := t) (p := p) _ T h fun vs F1 H1 ω1 ds s1 p1 T1 r1 h1 => ?_
  split at h1
  · rename_i hl
    refine ⟨Nat.le_trans (r1.len ▸ hl) (by decide), fun a ha => ?_⟩
    refine Ext.tup (q := fun z => kk z s1) T1.sf r1 h1 (fun v F' H' z e r hq => ?_) ha
    obtain ⟨p2, T2⟩ := e.stp T1
    exact k v F' H' ω1 z s1 (p1.trans p2) T2 (Rn.rt p1 T1 r) hq
  · exact h1.elim⟩
instance {t : TA} {p : PA1} [LiftA K Ξ t p] : LiftE K Ξ (tLst t) (pLst p) := ⟨fun {F H ω s σ Q} kk T h k => by
  refine LiftA.run (K := K) (t := t) (p := p) _ T h fun vs F1 H1 ω1 ds s1 p1 T1 r1 h1 => ?_
  split at h1
  · rename_i hl
    refine ⟨Nat.le_trans (r1.len ▸ hl) (by decide), fun a ha => ?_⟩
    refine Ext.lst (q := fun z => kk z s1) T1.sf r1 h1 (fun v F' H' z e r hq => ?_) ha
    obtain ⟨p2, T2⟩ := e.stp T1
    exact k v F' H' ω1 z s1 (p1.trans p2) T2 (Rn.rt p1 T1 r) hq
  · exact h1.elim⟩
/-! ### built-in functions -/
class CaL (K : PySem.W.Frag) (r : List V → Hp → VK → Prop) (g : outParam (List D → (S → Prop) → Prop)) : Prop where
  run : ∀ {F H : Hp} {vs : List V} {ds : List D} {Q : VK} (q : S → Prop), Same F H → RpA K F ds vs → g ds q → (∀ v F' H' z, Ext F H F' H' → Rn K H F' H' z v → q z → Q v H') → r vs H Q
def pCB (g : List D → (S → Prop) → Prop) (p : PA1) : PX := fun s q => p s fun ds s1 => g ds fun z => q z s1
instance {r : List V → Hp → VK → Prop} {g : List D → (S → Prop) → Prop} {t : TA} {p : PA1} [CaL K r g] [LiftA K Ξ t p] : LiftE K Ξ (tCB r t) (pCB g p) := ⟨fun kk T h k => by
  refine LiftA.run (K := K) (t := t) (p := p) _ T h fun vs F1 H1 ω1 ds s1 p1 T1 r1 h1 => ?_
  refine CaL.run (K := K) (r := r) (g := g) _ T1.sf r1 h1 fun v F3 H3 z e3 r3 hq => ?_
  obtain ⟨p3, T3⟩ := e3.stp T1
  exact k v F3 H3 ω1 z s1 (p1.trans p3) T3 (Rn.rt p1 T1 r3) hq⟩
theorem RpA.one {F : Hp} {d : D} {vs : List V} (h : RpA K F [d] vs) : ∃ v, vs = [v] ∧ Rp K F d v := by
  obtain ⟨v, ws, rfl, h1, h2⟩ := h
  cases (show ws = _ from h2)
  exact ⟨v, rfl, h1⟩
theorem RpA.two {F : Hp} {d e : D} {vs : List V} (h : RpA K F [d, e] vs) : ∃ v w, vs = [v, w] ∧ Rp K F d v ∧ Rp K F e w := by
  obtain ⟨v, ws, rfl, h1, h2⟩ := h
  obtain ⟨w, rfl, h3⟩ := RpA.one h2
  exact ⟨v, w, rfl, h1, h3⟩
def gLen : List D → (S → Prop) → Prop := fun ds q => match ds with
  | [.lst xs] => q (.fr (.int xs.length))
  | [.tup xs] => q (.fr (.int xs.length))
  | [.scr xs] => q (.fr (.int xs.length))
  | _ => False
theorem gLen_run {F H : Hp} {vs : List V} {ds : List D} {Q : VK} (q : S → Prop) (hs : Same F H) (r : RpA K F ds vs) (h : gLen ds q) (k : ∀ v F' H' z, Ext F H F' H' → Rn K H F' H' z v → q z → Q v H') :
    ∃ p ys, vs = [.ref p] ∧ (SqL K H p ys ∨ SqT K H p ys) ∧ Q (.int ys.length) H := by
  unfold gLen at h
  split at h
  · obtain ⟨v, rfl, a, ws, rfl, h1, h2⟩ := r.one
    refine ⟨a, ws, rfl, .inl (SqL.of (hs _ _ h1)), ?_⟩
    rw [← h2.len]
    exact k _ F H (.fr (.int _)) (Ext.refl hs) rfl h
  · obtain ⟨v, rfl, a, ws, rfl, h1, h2⟩ := r.one
    refine ⟨a, ws, rfl, .inr (hs.tupq h1), ?_⟩
    rw [← h2.len]
    exact k _ F H (.fr (.int _)) (Ext.refl hs) rfl h
  · obtain ⟨v, rfl, a, rfl, h1⟩ := r.one
    refine ⟨a, _, rfl, .inl (hs.seq h1), ?_⟩
    rw [List.length_map]
    exact k _ F H (.fr (.int _)) (Ext.refl hs) rfl h
  · exact h.elim
instance : CaL K (rLenQ K) gLen := ⟨fun q hs r h k => gLen_run q hs r h k⟩
instance : CaL K (fun xs H Q => ∃ p ys, xs = [.ref p] ∧ (SqL K H p ys ∨ SqT K H p ys) ∧ Q (.int ys.length) H) gLen := ⟨fun q hs r h k => gLen_run q hs r h k⟩
def gLenS : List D → (S → Prop) → Prop := fun ds q => match ds with
  | [.str x] => x.length ≤ sizeLine ∧ q (.fr (.int x.length))
  | _ => False
instance : CaL K (fun xs H Q => ∃ x, xs = [.str x] ∧ x.length ≤ sizeLine ∧ Q (.int x.length) H) gLenS := ⟨fun {F H vs ds Q} q hs r h k => by
  unfold gLenS at h
  split at h
  · obtain ⟨v, rfl, h1⟩ := r.one
    cases (show v = _ from h1)
    exact ⟨_, rfl, h.1, k _ F H (.fr (.int _)) (Ext.refl hs) rfl h.2⟩
  · exact h.elim⟩
/-- all the items are ints -/
def intsOf : List D → Option (List Int)
  | [] => some []
  | .int i :: r => (intsOf r).map (i :: ·)
  | _ => none
theorem intsOf_is : ∀ {ds : List D} {ns : List Int}, intsOf ds = some ns → ds = ns.map D.int
  | [], _, h => by cases h; rfl
  | .int i :: r, ns, h => by
    unfold intsOf at h
    cases e : intsOf r with
    | none => rw [e] at h; cases h
    | some m =>
      rw [e] at h
      cases h
      rw [intsOf_is e]
      rfl
  | .non :: _, _, h => by cases h
  | .bl _ :: _, _, h => by cases h
  | .str _ :: _, _, h => by cases h
  | .lst _ :: _, _, h => by cases h
  | .tup _ :: _, _, h => by cases h
  | .dic _ _ _ :: _, _, h => by cases h
  | .dik _ _ :: _, _, h => by cases h
  | .obj _ _ _ :: _, _, h => by cases h
  | .scr _ :: _, _, h => by cases h
  | .ty _ :: _, _, h => by cases h
theorem intsOf_map : ∀ ns : List Int, intsOf (ns.map D.int) = some ns
  | [] => rfl
  | n :: ns => by
    show (intsOf (ns.map D.int)).map (n :: ·) = _
    rw [intsOf_map ns]
    rfl
/-- a list of ints (said by the prover), its sum -/
def gSum : List D → (S → Prop) → Prop := fun ds q => match ds with
  | [.lst xs] => ∃ ns : List Int, xs = ns.map D.int ∧ q (.fr (.int ns.sum))
  | _ => False
instance : CaL K (rSum K) gSum := ⟨fun {F H vs ds Q} q hs r h k => by
  unfold gSum at h
  split at h
  · obtain ⟨ns, rfl, hq⟩ := h
    obtain ⟨v, rfl, a, ws, rfl, h1, h2⟩ := r.one
    cases RpA.intsV h2
    exact ⟨a, ns, rfl, SqL.of (hs _ _ h1), k _ F H (.fr (.int _)) (Ext.refl hs) rfl hq⟩
  · exact h.elim⟩
def gBls (f : List Bool → Bool) : List D → (S → Prop) → Prop := fun ds q => match ds with
  | [.lst xs] => ∃ bs : List Bool, xs = bs.map D.bl ∧ q (.fr (.bl (f bs)))
  | _ => False
theorem gBls_run {f : List Bool → Bool} {F H : Hp} {vs : List V} {ds : List D} {Q : VK} (q : S → Prop) (hs : Same F H) (r : RpA K F ds vs) (h : gBls f ds q) (k : ∀ v F' H' z, Ext F H F' H' → Rn K H F' H' z v → q z → Q v H') :
    ∃ (a : Addr) (bs : List Bool), vs = [V.ref a] ∧ SqL K H a (bs.map V.bl) ∧ Q (.bl (f bs)) H := by
  unfold gBls at h
  split at h
  · obtain ⟨ns, rfl, hq⟩ := h
    obtain ⟨v, rfl, a, ws, rfl, h1, h2⟩ := r.one
    cases RpA.blsV h2
    exact ⟨a, ns, rfl, SqL.of (hs _ _ h1), k _ F H (.fr (.bl _)) (Ext.refl hs) rfl hq⟩
  · exact h.elim
instance : CaL K (rAny K) (gBls fun bs => bs.any id) := ⟨fun q hs r h k => gBls_run q hs r h k⟩
instance : CaL K (rAll K) (gBls fun bs => bs.all id) := ⟨fun q hs r h k => gBls_run q hs r h k⟩
def gMax (le : Int → Int → Prop) : List D → (S → Prop) → Prop := fun ds q => match ds with
  | [.lst xs] => ∃ ns : List Int, xs = ns.map D.int ∧ 0 < ns.length ∧ ∀ m, m ∈ ns → (∀ y, y ∈ ns → le y m) → q (.fr (.int m))
  | _ => False
instance : CaL K (rMax K) (gMax fun y m => y ≤ m) := ⟨fun {F H vs ds Q} q hs r h k => by
  unfold gMax at h
  split at h
  · obtain ⟨ns, rfl, h0, hq⟩ := h
    obtain ⟨v, rfl, a, ws, rfl, h1, h2⟩ := r.one
    cases RpA.intsV h2
    exact ⟨a, ns, rfl, SqL.of (hs _ _ h1), h0, fun m h3 h4 => k _ F H (.fr (.int _)) (Ext.refl hs) rfl (hq m h3 h4)⟩
  · exact h.elim⟩
instance : CaL K (rMin K) (gMax fun y m => m ≤ y) := ⟨fun {F H vs ds Q} q hs r h k => by
  unfold gMax at h
  split at h
  · obtain ⟨ns, rfl, h0, hq⟩ := h
    obtain ⟨v, rfl, a, ws, rfl, h1, h2⟩ := r.one
    cases RpA.intsV h2
    exact ⟨a, ns, rfl, SqL.of (hs _ _ h1), h0, fun m h3 h4 => k _ F H (.fr (.int _)) (Ext.refl hs) rfl (hq m h3 h4)⟩
  · exact h.elim⟩
def gI1 (f : Int → D) : List D → (S → Prop) → Prop := fun ds q => match ds with
  | [.int i] => q (.fr (f i))
  | _ => False
instance : CaL K (fun xs H Q => ∃ i, xs = [.int i] ∧ Q (.int (if i < 0 then -i else i)) H) (gI1 fun i => .int (if i < 0 then -i else i)) := ⟨fun {F H vs ds Q} q hs r h k => by
  unfold gI1 at h
  split at h
  · obtain ⟨v, rfl, h1⟩ := r.one
    cases (show v = _ from h1)
    exact ⟨_, rfl, k _ F H (.fr (.int _)) (Ext.refl hs) rfl h⟩
  · exact h.elim⟩
def gI2 (f : Int → Int → Int) : List D → (S → Prop) → Prop := fun ds q => match ds with
  | [.int i, .int j] => q (.fr (.int (f i j)))
  | _ => False
theorem gI2_run {f : Int → Int → Int} {F H : Hp} {vs : List V} {ds : List D} {Q : VK} (q : S → Prop) (hs : Same F H) (r : RpA K F ds vs) (h : gI2 f ds q) (k : ∀ v F' H' z, Ext F H F' H' → Rn K H F' H' z v → q z → Q v H') :
    ∃ i j, vs = [.int i, .int j] ∧ Q (.int (f i j)) H := by
  unfold gI2 at h
  split at h
  · obtain ⟨v, w, rfl, h1, h2⟩ := r.two
    cases (show v = _ from h1)
    cases (show w = _ from h2)
    exact ⟨_, _, rfl, k _ F H (.fr (.int _)) (Ext.refl hs) rfl h⟩
  · exact h.elim
instance : CaL K (fun xs H Q => ∃ i j, xs = [.int i, .int j] ∧ Q (.int (if j > i then j else i)) H) (gI2 fun i j => if j > i then j else i) := ⟨fun q hs r h k => gI2_run q hs r h k⟩
instance : CaL K (fun xs H Q => ∃ i j, xs = [.int i, .int j] ∧ Q (.int (if j < i then j else i)) H) (gI2 fun i j => if j < i then j else i) := ⟨fun q hs r h k => gI2_run q hs r h k⟩
def gInt : List D → (S → Prop) → Prop := fun ds q => match ds with
  | [.int i] => q (.fr (.int i))
  | [.bl b] => YN b (q (.fr (.int 1))) (q (.fr (.int 0)))
  | _ => False
instance : CaL K (fun xs H Q => (∃ i, xs = [.int i] ∧ Q (.int i) H) ∨ ∃ k, xs = [.bl k] ∧ Q (.int (if k then 1 else 0)) H) gInt := ⟨fun {F H vs ds Q} q hs r h k => by
  unfold gInt at h
  split at h
  · obtain ⟨v, rfl, h1⟩ := r.one
    cases (show v = _ from h1)
    exact .inl ⟨_, rfl, k _ F H (.fr (.int _)) (Ext.refl hs) rfl h⟩
  · rename_i b
    obtain ⟨v, rfl, h1⟩ := r.one
    cases (show v = _ from h1)
    refine .inr ⟨_, rfl, ?_⟩
    cases b with
    | true => exact k _ F H (.fr (.int 1)) (Ext.refl hs) rfl (h.1 rfl)
    | false => exact k _ F H (.fr (.int 0)) (Ext.refl hs) rfl (h.2 rfl)
  · exact h.elim⟩
def gListOf : List D → (S → Prop) → Prop := fun ds q => match ds with
  | [.lst xs] => q (.ow false (.lst xs))
  | [.tup xs] => q (.ow false (.lst xs))
  | [.scr xs] => q (.ow false (.lst (xs.map .int)))
  | _ => False
instance : CaL K (fun xs H Q => ∃ p ys, xs = [.ref p] ∧ (SqL K H p ys ∨ SqT K H p ys) ∧ ∀ l, H l = none → Q (.ref l) (upd H l (.lst ys))) gListOf := ⟨fun {F H vs ds Q} q hs r h k => by
  unfold gListOf at h
  split at h
  · obtain ⟨v, rfl, a, ws, rfl, h1, h2⟩ := r.one
    exact ⟨a, ws, rfl, .inl (SqL.of (hs _ _ h1)), fun p hp => Ext.lst hs h2 h k hp⟩
  · obtain ⟨v, rfl, a, ws, rfl, h1, h2⟩ := r.one
    exact ⟨a, ws, rfl, .inr (hs.tupq h1), fun p hp => Ext.lst hs h2 h k hp⟩
  · obtain ⟨v, rfl, a, rfl, h1⟩ := r.one
    exact ⟨a, _, rfl, .inl (hs.seq h1), fun p hp => Ext.lst hs RpA.ints h k hp⟩
  · exact h.elim⟩
def gTupOf : List D → (S → Prop) → Prop := fun ds q => match ds with
  | [.lst xs] => q (.fr (.tup xs))
  | [.tup xs] => q (.fr (.tup xs))
  | _ => False
instance : CaL K (fun xs H Q => ∃ p ys, xs = [.ref p] ∧ ((SqL K H p ys ∧ ∀ l, H l = none → Q (.ref l) (upd H l (.tup ys))) ∨ (SqT K H p ys ∧ Q (.ref p) H))) gTupOf := ⟨fun {F H vs ds Q} q hs r h k => by
  unfold gTupOf at h
  split at h
  · obtain ⟨v, rfl, a, ws, rfl, h1, h2⟩ := r.one
    exact ⟨a, ws, rfl, .inl ⟨SqL.of (hs _ _ h1), fun p hp => Ext.tup hs h2 h k hp⟩⟩
  · obtain ⟨v, rfl, a, ws, rfl, h1, h2⟩ := r.one
    exact ⟨a, ws, rfl, .inr ⟨hs.tupq h1, k _ F H (.fr (.tup _)) (Ext.refl hs) ⟨a, ws, rfl, h1, h2⟩ h⟩⟩
  · exact h.elim⟩
/-! ### slices -/
abbrev PO1 := Sl → (Option Int → Sl → Prop) → Prop
class LiftO (K : PySem.W.Frag) (Ξ : XI) (t : TO) (p : outParam PO1) : Prop where
  run : ∀ {F H : Hp} {ω : Om} {s : Sl} {σ : L2.St} {Q : Option Int → Hp → Prop} (q : Option Int → Sl → Prop), Sta K Ξ F H ω s σ → p s q →
    (∀ o F' H' ω' s', Stp F H ω F' H' ω' → Sta K Ξ F' H' ω' s' σ → q o s' → Q o H') → t σ H Q
instance : LiftO K Ξ tNoPart (fun s q => q none s) := ⟨fun {F H ω s σ Q} q T h k => k none F H ω s (Stp.refl T.tb) T h⟩
def pPart (p : PD) : PO1 := fun s q => p s fun d s1 => match d with
  | .int i => q (some i) s1
  | _ => False
instance {t : TE} {p : PD} [LiftD K Ξ t p] : LiftO K Ξ (tPart t) (pPart p) := ⟨fun q T h k => by
  refine LiftD.run (K := K) (t := t) (p := p) _ T h fun x F1 H1 ω1 d s1 p1 T1 r1 h1 => ?_
  split at h1
  · exact ⟨_, r1, k _ F1 H1 ω1 s1 p1 T1 h1⟩
  · exact h1.elim⟩
class SlL (K : PySem.W.Frag) (r : V → Option Int → Option Int → Hp → VK → Prop) (g : outParam (D → Option Int → Option Int → (S → Prop) → Prop)) : Prop where
  run : ∀ {F H : Hp} {x : V} {d : D} {lo hi : Option Int} {Q : VK} (q : S → Prop), Same F H → Rp K F d x → g d lo hi q → (∀ v F' H' z, Ext F H F' H' → Rn K H F' H' z v → q z → Q v H') → r x lo hi H Q
def pSl (g : D → Option Int → Option Int → (S → Prop) → Prop) (pe : PD) (pl ph : PO1) : PX := fun s q => pe s fun d s1 => pl s1 fun lo s2 => ph s2 fun hi s3 => g d lo hi fun z => q z s3
instance {r : V → Option Int → Option Int → Hp → VK → Prop} {g : D → Option Int → Option Int → (S → Prop) → Prop} {te : TE} {tl th : TO} {pe : PD} {pl ph : PO1} [SlL K r g] [LiftD K Ξ te pe] [LiftO K Ξ tl pl] [LiftO K Ξ th ph] :
    LiftE K Ξ (tSl r te tl th) (pSl g pe pl ph) := ⟨fun kk T h k => by
  refine LiftD.run (K := K) (t := te) (p := pe) _ T h fun x F1 H1 ω1 d s1 p1 T1 r1 h1 => ?_
  refine LiftO.run (K := K) (t := tl) (p := pl) _ T1 h1 fun lo F2 H2 ω2 s2 p2 T2 h2 => ?_
  refine LiftO.run (K := K) (t := th) (p := ph) _ T2 h2 fun hi F3 H3 ω3 s3 p3 T3 h3 => ?_
  refine SlL.run (K := K) (r := r) (g := g) _ T3.sf (r1.mono (p2.sf.trans p3.sf)) h3 fun v F4 H4 z e4 r4 hq => ?_
  obtain ⟨p4, T4⟩ := e4.stp T3
  have pp := (p1.trans p2).trans p3
  exact k v F4 H4 ω3 z s3 (pp.trans p4) T4 (Rn.rt pp T3 r4) hq⟩
def cutD (xs : List D) (lo hi : Option Int) : List D := (xs.drop (HT.sIx xs.length 0 lo)).take (HT.sIx xs.length xs.length hi - HT.sIx xs.length 0 lo)
theorem RpA.cut {F : Hp} {ds : List D} {vs : List V} (h : RpA K F ds vs) (lo hi : Option Int) : RpA K F (cutD ds lo hi) (cutV vs lo hi) := by
  unfold cutD cutV
  rw [← h.len]
  exact (h.drop _).take _
def gSlL : D → Option Int → Option Int → (S → Prop) → Prop := fun d lo hi q => match d with
  | .lst xs => q (.ow false (.lst (cutD xs lo hi)))
  | .scr ns => q (.ow false (.lst (cutD (ns.map .int) lo hi)))
  | _ => False
instance : SlL K (rSlL K) gSlL := ⟨fun {F H x d lo hi Q} q hs r h k => by
  unfold gSlL at h
  split at h
  · obtain ⟨a, ws, rfl, h1, h2⟩ := r
    exact ⟨a, ws, rfl, SqL.of (hs _ _ h1), fun p hp => Ext.lst hs (h2.cut lo hi) h k hp⟩
  · obtain ⟨a, rfl, h1⟩ := r
    exact ⟨a, _, rfl, hs.seq h1, fun p hp => Ext.lst hs (RpA.ints.cut lo hi) h k hp⟩
  · exact h.elim⟩
def gSlS : D → Option Int → Option Int → (S → Prop) → Prop := fun d lo hi q => match d with
  | .str z => z.length ≤ sizeLine ∧ q (.fr (.str (cutS z lo hi)))
  | _ => False
instance : SlL K rSlS gSlS := ⟨fun {F H x d lo hi Q} q hs r h k => by
  unfold gSlS at h
  split at h
  · cases (show x = _ from r)
    exact ⟨_, rfl, h.1, k _ F H (.fr (.str _)) (Ext.refl hs) rfl h.2⟩
  · exact h.elim⟩
end
/-! ### truth of a value as a test -/
section
variable {K : PySem.W.Frag} {Ξ : XI}
theorem emp_len {ds : List D} {ws : List V} (h : ds.length = ws.length) : (!ws.isEmpty) = !ds.isEmpty := by
  cases ds <;> cases ws <;> first | rfl | (simp at h)
theorem tru_is {F H : Hp} {d : D} {v : V} {b : Bool} (hs : Same F H) (r : Rp K F d v) (e : truD d = some b) (h : ∀ x, d = .str x → x.length ≤ sizeLine) : TruV K v H b := by
  cases d with
  | non => cases (show v = _ from r); cases e; rfl
  | bl _ => cases (show v = _ from r); cases e; rfl
  | int _ => cases (show v = _ from r); cases e; rfl
  | str x =>
    cases (show v = _ from r)
    have e1 := Option.some.inj e
    exact ⟨h x rfl, e1.symm⟩
  | lst ds =>
    obtain ⟨a, ws, rfl, h1, h2⟩ := r
    have e1 := Option.some.inj e
    exact .inl ⟨ws, SqL.of (hs _ _ h1), by rw [emp_len h2.len]; exact e1.symm⟩
  | tup ds =>
    obtain ⟨a, ws, rfl, h1, h2⟩ := r
    have e1 := Option.some.inj e
    exact .inr (.inl ⟨ws, hs.tupq h1, by rw [emp_len h2.len]; exact e1.symm⟩)
  | _ => cases e
def pTru (p : PD) : PT1 := fun s y n => p s fun d s' => match truD d with
  | some b => (∀ x, d = .str x → x.length ≤ sizeLine) ∧ YN b (y s') (n s')
  | none => False
instance {t : TE} {p : PD} [LiftD K Ξ t p] : LiftT K Ξ (fun σ H Q => t σ H fun x H' => ∃ k, TruV K x H' k ∧ Q k H') (pTru p) := ⟨fun y n T h k => by
  refine LiftD.run (K := K) (t := t) (p := p) _ T h fun v F1 H1 ω1 d s1 p1 T1 r1 h1 => ?_
  split at h1
  · rename_i b e
    exact ⟨b, tru_is T1.sf r1 e h1.1, k _ F1 H1 ω1 s1 p1 T1 h1.2.ite⟩
  · exact h1.elim⟩
/-- a name's list, which stays its own -/
def pTruV (i : Nat) : PT1 := fun s y n => match s[i]? with
  | some (some (.ow _ (.lst ds))) => YN (!ds.isEmpty) (y s) (n s)
  | _ => pTru (pDat (pVar i)) s y n
instance (priority := high) (i : Nat) : LiftT K Ξ (fun σ H Q => tVar i σ H fun x H' => ∃ k, TruV K x H' k ∧ Q k H') (pTruV i) := ⟨fun {F H ω s σ Q} y n T h k => by
  unfold pTruV at h
  split at h
  · rename_i b ds e
    obtain ⟨v, hv, l, rfl, hl, ws, h1, h2⟩ := T.lst i e
    refine ⟨_, hv, _, .inl ⟨ws, SqL.of h1, rfl⟩, k _ F H ω s (Stp.refl T.tb) T ?_⟩
    rw [emp_len h2.len]
    exact h.ite
  · exact LiftT.run (K := K) (t := fun σ H Q => tVar i σ H fun x H' => ∃ k, TruV K x H' k ∧ Q k H') (p := pTru (pDat (pVar i))) y n T h k⟩
/-! ### targets -/
theorem wipe_set {i : Nat} {x : Option V} : ∀ {vs : List Nat} {σ : L2.St}, wipe (σ.set i x) vs = if i ∈ vs then wipe σ vs else (wipe σ vs).set i x
  | [], σ => by simp [wipe]
  | v :: vs, σ => by
    show (wipe (σ.set i x) vs).set v none = if i ∈ v :: vs then (wipe σ vs).set v none else ((wipe σ vs).set v none).set i x
    rw [wipe_set]
    by_cases h1 : i ∈ vs
    · simp [h1]
    · by_cases h2 : i = v
      · subst h2
        simp [h1]
      · simp [h1, h2]
        rw [List.set_comm _ _ h2]
theorem wipe_mem {i : Nat} {x : Option V} {vs : List Nat} {σ : L2.St} (h : i ∈ vs) : wipe (σ.set i x) vs = wipe σ vs := by rw [wipe_set, if_pos h]
abbrev PG1 := D → Sl → (Sl → Prop) → Prop
class LiftG (K : PySem.W.Frag) (Ξ : XI) (g : TG) (p : outParam PG1) (ss : outParam (List Nat)) : Prop where
  run : ∀ {F H : Hp} {ω : Om} {s : Sl} {σ : L2.St} {v : V} {d : D} {Q : L2.St → Hp → Prop} (q : Sl → Prop), Sta K Ξ F H ω s σ → Rp K F d v → p d s q →
    (∀ σ' s', Sta K Ξ F H ω s' σ' → (∀ vs, (∀ i ∈ ss, i ∈ vs) → wipe σ' vs = wipe σ vs) → q s' → Q σ' H) → g v σ H Q
def pgName (i : Nat) : PG1 := fun d s q => q (s.set i (some (.fr d)))
instance (i : Nat) : LiftG K Ξ (gName i) (pgName i) [i] := ⟨fun q T r h k => k _ _ (T.set i r) (fun vs hv => wipe_mem (hv i (by simp))) h⟩
abbrev PGs1 := List D → Sl → (Sl → Prop) → Prop
class LiftGs (K : PySem.W.Frag) (Ξ : XI) (g : TGs) (p : outParam PGs1) (ss : outParam (List Nat)) : Prop where
  run : ∀ {F H : Hp} {ω : Om} {s : Sl} {σ : L2.St} {vs : List V} {ds : List D} {Q : L2.St → Hp → Prop} (q : Sl → Prop), Sta K Ξ F H ω s σ → RpA K F ds vs → p ds s q →
    (∀ σ' s', Sta K Ξ F H ω s' σ' → (∀ vs, (∀ i ∈ ss, i ∈ vs) → wipe σ' vs = wipe σ vs) → q s' → Q σ' H) → g vs σ H Q
def pgNil : PGs1 := fun ds s q => match ds with
  | [] => q s
  | _ => False
def pgCons (p : PG1) (r : PGs1) : PGs1 := fun ds s q => match ds with
  | d :: es => p d s fun s1 => r es s1 q
  | [] => False
instance : LiftGs K Ξ gNil pgNil [] := ⟨fun {F H ω s σ vs ds Q} q T r h k => by
  unfold pgNil at h
  split at h
  · cases (show vs = [] from r)
    exact ⟨rfl, k _ _ T (fun _ _ => rfl) h⟩
  · exact h.elim⟩
instance {g : TG} {gs : TGs} {p : PG1} {ps : PGs1} {ss ts : List Nat} [LiftG K Ξ g p ss] [LiftGs K Ξ gs ps ts] : LiftGs K Ξ (gCons g gs) (pgCons p ps) (ss ++ ts) := ⟨fun {F H ω s σ vs ds Q} q T r h k => by
  unfold pgCons at h
  split at h
  · obtain ⟨v, ws, rfl, r1, r2⟩ := r
    refine ⟨v, ws, rfl, LiftG.run (K := K) (g := g) (p := p) (ss := ss) _ T r1 h fun σ1 s1 T1 w1 h1 => ?_⟩
    refine LiftGs.run (K := K) (g := gs) (p := ps) (ss := ts) _ T1 r2 h1 fun σ2 s2 T2 w2 h2 => k _ _ T2 (fun vs hv => ?_) h2
    rw [w2 vs fun i hi => hv i (List.mem_append_right _ hi), w1 vs fun i hi => hv i (List.mem_append_left _ hi)]
  · exact h.elim⟩
def pgTup (n : Nat) (p : PGs1) : PG1 := fun d s q => match d with
  | .tup ds => if ds.length = n then p ds s q else False
  | _ => False
instance {n : Nat} {g : TGs} {p : PGs1} {ss : List Nat} [LiftGs K Ξ g p ss] : LiftG K Ξ (gTup K n g) (pgTup n p) ss := ⟨fun {F H ω s σ v d Q} q T r h k => by
  unfold pgTup at h
  split at h
  · split at h
    · rename_i hl
      obtain ⟨a, ws, rfl, h1, h2⟩ := r
      exact ⟨a, ws, rfl, T.sf.tupq h1, by rw [← h2.len]; exact hl, LiftGs.run (K := K) (g := g) (p := p) (ss := ss) q T h2 h k⟩
    · exact h.elim
  · exact h.elim⟩
/-! ### what is walked -/
def WalkD (K : PySem.W.Frag) (F : Hp) (J : It) (ds : List D) : Prop := ∃ (G : Hp → Prop) (Y : Nat → Hp → V → Hp → Prop), Walk J ds.length G Y ∧ (∀ H, Same F H → G H) ∧
  ∀ i H x H' F1 d, ds[i]? = some d → Same F F1 → Same F1 H → Y i H x H' → ∃ F2, Ext F1 H F2 H' ∧ Rp K F2 d x
abbrev PI1 := Sl → (List D → Sl → Prop) → Prop
class LiftI (K : PySem.W.Frag) (Ξ : XI) (t : TI) (p : outParam PI1) : Prop where
  run : ∀ {F H : Hp} {ω : Om} {s : Sl} {σ : L2.St} {R : It → Hp → Prop} (q : List D → Sl → Prop), Sta K Ξ F H ω s σ → p s q →
    (∀ J F' H' ω' ds s', Stp F H ω F' H' ω' → Sta K Ξ F' H' ω' s' σ → WalkD K F' J ds → q ds s' → R J H') → t σ H R
def pIterL (p : PD) : PI1 := fun s q => p s fun d s1 => match d with
  | .lst ds => q ds s1
  | .scr ns => q (ns.map .int) s1
  | _ => False
theorem walkD_list {F : Hp} {a : Addr} {ds : List D} {vs : List V} (h1 : SqL K F a vs) (h2 : RpA K F ds vs) : WalkD K F (Itl K a) ds := by
  refine ⟨_, _, h2.len ▸ walk_list (K := K) (a := a) (xs := vs), fun H hs => hs.seq h1, fun i H x H' F1 d e s1 s2 y => ?_⟩
  obtain ⟨rfl, hx⟩ := y
  obtain ⟨v, hv, r⟩ := h2.get e
  rw [hx] at hv
  cases hv
  exact ⟨F1, Ext.refl s2, r.mono s1⟩
instance {t : TE} {p : PD} [LiftD K Ξ t p] : LiftI K Ξ (iList K t) (pIterL p) := ⟨fun q T h k => by
  refine LiftD.run (K := K) (t := t) (p := p) _ T h fun v F1 H1 ω1 d s1 p1 T1 r1 h1 => ?_
  split at h1
  · obtain ⟨a, ws, rfl, r2, r3⟩ := r1
    exact ⟨a, rfl, ⟨ws, SqL.of (T1.sf _ _ r2)⟩, k _ F1 H1 ω1 _ s1 p1 T1 (walkD_list (SqL.of r2) r3) h1⟩
  · obtain ⟨a, rfl, r2⟩ := r1
    exact ⟨a, rfl, ⟨_, T1.sf.seq r2⟩, k _ F1 H1 ω1 _ s1 p1 T1 (walkD_list r2 RpA.ints) h1⟩
  · exact h1.elim⟩
def pIterT (p : PD) : PI1 := fun s q => p s fun d s1 => match d with
  | .tup ds => q ds s1
  | _ => False
theorem walkD_tup {F : Hp} {a : Addr} {ds : List D} {vs : List V} (h1 : SqT K F a vs) (h2 : RpA K F ds vs) : WalkD K F (Itt K a) ds := by
  refine ⟨_, _, h2.len ▸ walk_tup (K := K) (a := a) (xs := vs), fun H hs => hs.tupq h1, fun i H x H' F1 d e s1 s2 y => ?_⟩
  obtain ⟨rfl, hx⟩ := y
  obtain ⟨v, hv, r⟩ := h2.get e
  rw [hx] at hv
  cases hv
  exact ⟨F1, Ext.refl s2, r.mono s1⟩
instance {t : TE} {p : PD} [LiftD K Ξ t p] : LiftI K Ξ (iTup K t) (pIterT p) := ⟨fun q T h k => by
  refine LiftD.run (K := K) (t := t) (p := p) _ T h fun v F1 H1 ω1 d s1 p1 T1 r1 h1 => ?_
  split at h1
  · obtain ⟨a, ws, rfl, r2, r3⟩ := r1
    exact ⟨a, rfl, ⟨ws, T1.sf.tupq r2⟩, k _ F1 H1 ω1 _ s1 p1 T1 (walkD_tup r2 r3) h1⟩
  · exact h1.elim⟩
def rngD (lo : Int) (n : Nat) : List D := (List.range n).map fun i => .int (lo + (i : Nat))
theorem rngD_len {lo : Int} {n : Nat} : (rngD lo n).length = n := by simp [rngD]
theorem rngD_get {lo : Int} {n i : Nat} {d : D} (h : (rngD lo n)[i]? = some d) : i < n ∧ d = .int (lo + (i : Nat)) := by
  unfold rngD at h
  rw [List.getElem?_map] at h
  by_cases hi : i < n
  · rw [List.getElem?_range hi] at h
    exact ⟨hi, (Option.some.inj h).symm⟩
  · rw [List.getElem?_eq_none (by rw [List.length_range]; omega)] at h
    cases h
theorem walkD_range {F : Hp} {lo : Int} {n : Nat} : WalkD K F (Itr lo n) (rngD lo n) := by
  refine ⟨fun _ => True, YFn fun i => .int (lo + (i : Nat)), ?_, fun _ _ => trivial, fun i H x H' F1 d e s1 s2 y => ?_⟩
  · rw [rngD_len]
    exact walk_range
  · obtain ⟨rfl, rfl⟩ := y
    exact ⟨F1, Ext.refl s2, by rw [(rngD_get e).2]; rfl⟩
def pRng1 (p : PA1) : PI1 := fun s q => p s fun ds s1 => match ds with
  | [.int j] => (-(2 ^ 62) ≤ j ∧ j < 2 ^ 62) ∧ q (rngD 0 j.toNat) s1
  | _ => False
instance {t : TA} {p : PA1} [LiftA K Ξ t p] : LiftI K Ξ (iRng1 t) (pRng1 p) := ⟨fun q T h k => by
  refine LiftA.run (K := K) (t := t) (p := p) _ T h fun vs F1 H1 ω1 ds s1 p1 T1 r1 h1 => ?_
  split at h1
  · obtain ⟨v, rfl, r2⟩ := r1.one
    cases (show v = _ from r2)
    exact ⟨_, rfl, h1.1.1, h1.1.2, k _ F1 H1 ω1 _ s1 p1 T1 walkD_range h1.2⟩
  · exact h1.elim⟩
def pRng2 (p : PA1) : PI1 := fun s q => p s fun ds s1 => match ds with
  | [.int i, .int j] => (-(2 ^ 62) ≤ i ∧ i < 2 ^ 62 ∧ -(2 ^ 62) ≤ j ∧ j < 2 ^ 62) ∧ q (rngD i (j - i).toNat) s1
  | _ => False
instance {t : TA} {p : PA1} [LiftA K Ξ t p] : LiftI K Ξ (iRng2 t) (pRng2 p) := ⟨fun q T h k => by
  refine LiftA.run (K := K) (t := t) (p := p) _ T h fun vs F1 H1 ω1 ds s1 p1 T1 r1 h1 => ?_
  split at h1
  · obtain ⟨v, w, rfl, r2, r3⟩ := r1.two
    cases (show v = _ from r2)
    cases (show w = _ from r3)
    exact ⟨_, _, rfl, h1.1, k _ F1 H1 ω1 _ s1 p1 T1 walkD_range h1.2⟩
  · exact h1.elim⟩
def enD (ds : List D) : List D := ds.mapIdx fun i d => .tup [.int (i : Nat), d]
theorem enD_len {ds : List D} : (enD ds).length = ds.length := by simp [enD]
theorem enD_get {ds : List D} {i : Nat} {d : D} (h : (enD ds)[i]? = some d) : ∃ x, ds[i]? = some x ∧ d = .tup [.int (i : Nat), x] := by
  unfold enD at h
  rw [List.getElem?_mapIdx] at h
  cases e : ds[i]? with
  | none => rw [e] at h; cases h
  | some x => rw [e] at h; exact ⟨x, rfl, (Option.some.inj h).symm⟩
def zipD (ds es : List D) : List D := List.zipWith (fun a b => .tup [a, b]) ds es
theorem zipD_get {ds es : List D} {i : Nat} {d : D} (h : (zipD ds es)[i]? = some d) : ∃ x y, ds[i]? = some x ∧ es[i]? = some y ∧ d = .tup [x, y] := by
  unfold zipD at h
  rw [List.getElem?_zipWith] at h
  cases e : ds[i]? with
  | none => rw [e] at h; cases h
  | some x =>
    cases e2 : es[i]? with
    | none => rw [e, e2] at h; cases h
    | some y => rw [e, e2] at h; exact ⟨x, y, rfl, rfl, (Option.some.inj h).symm⟩
theorem pair_new {F1 H H' : Hp} {x : V} {xs ys : Nat → Option V} {i : Nat} {d e : D} (s2 : Same F1 H) (y : YPair xs ys i H x H') (h1 : ∀ v, xs i = some v → Rp K F1 d v) (h2 : ∀ v, ys i = some v → Rp K F1 e v) :
    ∃ F2, Ext F1 H F2 H' ∧ Rp K F2 (.tup [d, e]) x := by
  obtain ⟨T, v, w, rfl, hT, rfl, e1, e2⟩ := y
  have hm := same_upd (o := .tup [v, w]) (s2.free hT)
  exact ⟨_, Ext.fz s2 hT _, T, [v, w], rfl, SqT.of upd_same, v, [w], rfl, (h1 v e1).mono hm, w, [], rfl, (h2 w e2).mono hm, rfl⟩
theorem walkD_enum {F : Hp} {a : Addr} {ds : List D} {vs : List V} (h1 : SqL K F a vs) (h2 : RpA K F ds vs) : WalkD K F (Ite K a) (enD ds) := by
  refine ⟨_, _, by rw [enD_len, h2.len]; exact walk_enum (K := K) (a := a) (xs := vs), fun H hs => hs.seq h1, fun i H x H' F1 d e s1 s2 y => ?_⟩
  obtain ⟨z, hz, rfl⟩ := enD_get e
  refine pair_new s2 y (fun v hv => (Option.some.inj hv).symm) fun v hv => ?_
  obtain ⟨w, hw, r⟩ := h2.get hz
  rw [hw] at hv
  cases hv
  exact r.mono s1
def pEnum (p : PA1) : PI1 := fun s q => p s fun ds s1 => match ds with
  | [.lst xs] => q (enD xs) s1
  | _ => False
instance {t : TA} {p : PA1} [LiftA K Ξ t p] : LiftI K Ξ (iEnum K t) (pEnum p) := ⟨fun q T h k => by
  refine LiftA.run (K := K) (t := t) (p := p) _ T h fun vs F1 H1 ω1 ds s1 p1 T1 r1 h1 => ?_
  split at h1
  · obtain ⟨v, rfl, a, ws, rfl, r2, r3⟩ := r1.one
    exact ⟨a, ws, rfl, SqL.of (T1.sf _ _ r2), k _ F1 H1 ω1 _ s1 p1 T1 (walkD_enum (SqL.of r2) r3) h1⟩
  · exact h1.elim⟩
theorem walkD_zip {F : Hp} {a b : Addr} {ds es : List D} {vs ws : List V} (h1 : SqL K F a vs) (h2 : RpA K F ds vs) (h3 : SqL K F b ws) (h4 : RpA K F es ws) : WalkD K F (Itz K a b) (zipD ds es) := by
  refine ⟨_, _, walk_zip (K := K) (a := a) (b := b) (xs := vs) (ys := ws) (by unfold zipD; rw [List.length_zipWith, h2.len, h4.len]), fun H hs => ⟨hs.seq h1, hs.seq h3⟩, fun i H x H' F1 d e s1 s2 y => ?_⟩
  obtain ⟨z, u, hz, hu, rfl⟩ := zipD_get e
  refine pair_new s2 y (fun v hv => ?_) fun v hv => ?_
  · obtain ⟨w, hw, r⟩ := h2.get hz
    rw [hw] at hv
    cases hv
    exact r.mono s1
  · obtain ⟨w, hw, r⟩ := h4.get hu
    rw [hw] at hv
    cases hv
    exact r.mono s1
def pZip (p : PA1) : PI1 := fun s q => p s fun ds s1 => match ds with
  | [.lst xs, .lst ys] => q (zipD xs ys) s1
  | _ => False
instance {t : TA} {p : PA1} [LiftA K Ξ t p] : LiftI K Ξ (iZip K t) (pZip p) := ⟨fun q T h k => by
  refine LiftA.run (K := K) (t := t) (p := p) _ T h fun vs F1 H1 ω1 ds s1 p1 T1 r1 h1 => ?_
  split at h1
  · obtain ⟨v, w, rfl, ⟨a, ws, rfl, r2, r3⟩, ⟨b, us, rfl, r4, r5⟩⟩ := r1.two
    exact ⟨a, b, ws, us, rfl, SqL.of (T1.sf _ _ r2), SqL.of (T1.sf _ _ r4), k _ F1 H1 ω1 _ s1 p1 T1 (walkD_zip (SqL.of r2) r3 (SqL.of r4) r5) h1⟩
  · exact h1.elim⟩
def chD (z : Str) : List D := z.cps.toList.map fun c => .str ⟨#[c]⟩
def pStrI (p : PD) : PI1 := fun s q => p s fun d s1 => match d with
  | .str z => q (chD z) s1
  | _ => False
theorem walkD_str {F : Hp} {z : Str} : WalkD K F (Its z) (chD z) := by
  refine ⟨_, _, by rw [show (chD z).length = z.cps.size by simp [chD]]; exact walk_str, fun _ _ => trivial, fun i H x H' F1 d e s1 s2 y => ?_⟩
  obtain ⟨rfl, c, hc, rfl⟩ := y
  unfold chD at e
  rw [List.getElem?_map, Array.getElem?_toList, hc] at e
  cases e
  exact ⟨F1, Ext.refl s2, rfl⟩
instance {t : TE} {p : PD} [LiftD K Ξ t p] : LiftI K Ξ (fun σ H R => t σ H fun v H1 => ∃ x, v = .str x ∧ R (Its x) H1) (pStrI p) := ⟨fun q T h k => by
  refine LiftD.run (K := K) (t := t) (p := p) _ T h fun v F1 H1 ω1 d s1 p1 T1 r1 h1 => ?_
  split at h1
  · exact ⟨_, r1, k _ F1 H1 ω1 _ s1 p1 T1 walkD_str h1⟩
  · exact h1.elim⟩
/-! ### comprehensions -/
def wipeS (s : Sl) : List Nat → Sl
  | [] => s
  | v :: vs => (wipeS s vs).set v none
theorem Sta.wipe {F H : Hp} {ω : Om} {s : Sl} {σ : L2.St} (T : Sta K Ξ F H ω s σ) : ∀ vs, Sta K Ξ F H ω (wipeS s vs) (L2.wipe σ vs)
  | [] => T
  | v :: vs => (Sta.wipe T vs).dropσ v none
/-- .. and back: the slots of the block are as before, and nothing is said of them -/
theorem Sta.unwipe {F H : Hp} {ω : Om} {s : Sl} {σ σ' : L2.St} (T : Sta K Ξ F H ω s σ') {vs : List Nat} (hw : L2.wipe σ' vs = L2.wipe σ vs) : Sta K Ξ F H ω (wipeS s vs) σ := by
  have T1 := T.wipe vs
  rw [hw] at T1
  refine ⟨⟨T1.tb, T1.sf, T1.ow, fun i x h => ?_, by rw [T1.len, wipe_length], T1.ix⟩, T1.ex⟩
  obtain ⟨v, hv, r⟩ := T1.at' i x h
  exact ⟨v, (wipe_some hv).1, r⟩
def pLc (pi : PI1) (pg : PG1) (ss : List Nat) (pt : PT1) (pe : PD) (vs : List Nat) : PX := fun s q => pi s fun ds s1 => if ss.all vs.contains = true then ds.length ≤ 100000 ∧ ∃ I : Nat → List D → Sl → Prop, I 0 [] (wipeS s1 vs) ∧
  (∀ i d acc s2, ds[i]? = some d → I i acc s2 → pg d s2 fun s3 => pt s3 (fun s4 => pe s4 fun e s5 => I (i + 1) (acc ++ [e]) (wipeS s5 vs)) (fun s4 => I (i + 1) acc (wipeS s4 vs))) ∧
  ∀ acc s2, I ds.length acc s2 → q (.ow false (.lst acc)) s2 else False
theorem wipe_setm {v : Nat} : ∀ {vs : List Nat} {σ : L2.St}, v ∈ vs → (L2.wipe σ vs).set v none = L2.wipe σ vs
  | [], _, h => by simp at h
  | w :: vs, σ, h => by
    show ((L2.wipe σ vs).set w none).set v none = (L2.wipe σ vs).set w none
    by_cases e : v = w
    · subst e
      rw [List.set_set]
    · rw [List.set_comm _ _ (fun z => e z.symm), wipe_setm ((List.mem_cons.mp h).resolve_left e)]
theorem wipe_sub {σ : L2.St} {vs : List Nat} : ∀ {ws : List Nat}, (∀ i ∈ ws, i ∈ vs) → L2.wipe (L2.wipe σ vs) ws = L2.wipe σ vs
  | [], _ => rfl
  | w :: ws, h => by
    show (L2.wipe (L2.wipe σ vs) ws).set w none = L2.wipe σ vs
    rw [wipe_sub fun i hi => h i (List.mem_cons_of_mem _ hi), wipe_setm (h w List.mem_cons_self)]
theorem wipe_wipe (σ : L2.St) (vs : List Nat) : L2.wipe (L2.wipe σ vs) vs = L2.wipe σ vs := wipe_sub fun _ h => h
/-- a new thing that no slot has is changed -/
theorem Stp.mutNew {F0 H0 F H : Hp} {ω0 ω : Om} {A : Addr} {u : HO} (p : Stp F0 H0 ω0 F H ω) (hA : H0 A = none) : Stp F0 H0 ω0 F (upd H A u) ω :=
  ⟨p.tb0, p.tb.go (Same.refl F) (fun b o ht h1 h2 => by rw [upd_ne (tadr_ne ht (p.tb0.new hA))]; exact h2) (fun _ _ _ h _ => h) (fun _ _ _ _ _ h => h), fun b o h1 h2 => by rw [upd_ne (ne_of_none h2 hA)]; exact p.th b o h1 h2, p.sf, fun b o ht h1 h2 => by rw [upd_ne (ne_of_none h2 hA)]; exact p.fr b o ht h1 h2, p.om, p.fn, fun b h => by
    by_cases hb : b = A
    · rw [hb]
      exact hA
    · rw [upd_ne hb] at h
      exact p.tr b h, p.bk, p.bp, p.kb⟩
theorem Sta.mutFree {F H : Hp} {ω : Om} {s : Sl} {σ : L2.St} {A : Addr} {u : HO} (T : Sta0 K F H ω s σ) (h1 : ω A = none) (h2 : F A = none) (ht : ¬ tadr A) : Sta0 K F (upd H A u) ω s σ := by
  refine ⟨T.tb.go (Same.refl F) (fun b o hb _ h => by rw [upd_ne (tadr_ne hb ht)]; exact h) (fun _ _ _ h _ => h) (fun _ _ _ _ _ h => h), fun b o h => ?_, fun b p h => ?_, fun i x h => ?_, T.len, T.ix⟩
  · rw [upd_ne (fun z => by rw [z, h2] at h; cases h)]
    exact T.sf b o h
  · rw [upd_ne (fun z => by rw [z, h1] at h; cases h)]
    exact T.ow b p h
  · obtain ⟨v, hv, r⟩ := T.at' i x h
    refine ⟨v, hv, r.to (Same.refl F) fun a w ⟨q, hq⟩ hw => ?_⟩
    rw [upd_ne (fun z => by rw [z, h1] at hq; cases hq)]
    exact hw
instance {wi : TI} {g : TG} {tt : TT} {te : TE} {vs : List Nat} {pi : PI1} {pg : PG1} {ss : List Nat} {pt : PT1} {pe : PD} [LiftI K Ξ wi pi] [LiftG K XI.zero g pg ss] [LiftT K XI.zero tt pt] [LiftD K XI.zero te pe] : LiftE K Ξ (tLc wi g tt te vs) (pLc pi pg ss pt pe vs) := ⟨fun {F H ω s σ Q} kk T h k => by
  refine LiftI.run (K := K) (t := wi) (p := pi) _ T h fun J F1 H1 ω1 ds s1 p1 T1 w1 h1 => ?_
  split at h1
  rotate_left
  · exact h1.elim
  rename_i hss
  have hss' : ∀ i ∈ ss, i ∈ vs := fun i hi => by simpa using List.all_eq_true.mp hss i hi
  obtain ⟨hlen, I, i0, istep, iend⟩ := h1
  obtain ⟨G, Y, W, hG, hY⟩ := w1
  intro A hA
  have e0 : Ext F1 H1 F1 (upd H1 A (.lst [])) := Ext.ow T1.sf hA _
  obtain ⟨p2, T2⟩ := e0.stp T1
  have kk' : ∀ {F2 : Hp} {ω2 : Om} {s2 : Sl} {acc : List D} {ws : List V} {H' : Hp}, Sta0 K F2 H' ω2 s2 σ → I ds.length acc s2 → Stp F1 H1 ω1 F2 H' ω2 → ω2 A = none → F2 A = none → H' A = some (.lst ws) → RpA K F2 acc ws → Q (.ref A) H' :=
    fun {F2 ω2 s2 acc ws H'} T4 hI p3 a1 a2 a3 a4 => k _ F2 H' ω2 (.ow false (.lst acc)) s2 (p1.trans p3) ⟨T4, T1.ex.step p3⟩ ⟨A, [A], rfl, fun a ha => by cases List.mem_singleton.mp ha; exact ⟨p1.tr A hA, a1, a2⟩, obj_lst a3 a4⟩ (iend acc s2 hI)
  -- the invariant: a state of the slots without the block's names, the new list at A
  refine lc_it W (fun i H' => ∃ F2 ω2 s2 acc ws, Stp F1 H1 ω1 F2 H' ω2 ∧ Sta K XI.zero F2 H' ω2 s2 (L2.wipe σ vs) ∧ ω2 A = none ∧ F2 A = none ∧ H' A = some (.lst ws) ∧ RpA K F2 acc ws ∧ acc.length ≤ i ∧ I i acc s2) ?_ ?_ ?_ ?_
  · exact ⟨F1, ω1, wipeS s1 vs, [], [], p2, ⟨(T2.wipe vs).base, Exo.zero⟩, Sta.free T1.base hA, T1.sf.free hA, upd_same, rfl, Nat.le_refl _, i0⟩
  · rintro i H' hi ⟨F2, ω2, s2, acc, ws, p3, T3, _⟩
    exact hG H' (p3.sf.trans T3.sf)
  · rintro i x H' H'' hi ⟨F2, ω2, s2, acc, ws, p3, T3, a1, a2, a3, a4, a5, hI⟩ y
    have hd : ds[i]? = some ds[i] := List.getElem?_eq_getElem hi
    obtain ⟨F3, e3, r3⟩ := hY i H' x H'' F2 _ hd p3.sf T3.sf y
    obtain ⟨p4, T4⟩ := e3.stp T3
    refine LiftG.run (K := K) (g := g) (p := pg) (ss := ss) _ T4 r3 (istep i _ acc s2 hd hI) fun σ5 s5 T5 w5 h5 => ?_
    have hw5 : L2.wipe σ5 vs = L2.wipe σ vs := by rw [w5 vs hss']; exact wipe_wipe σ vs
    refine ⟨hw5, ?_⟩
    have pp := p3.trans p4
    refine LiftT.run (K := K) (t := tt) (p := pt) _ _ T5 h5 fun b F6 H6 ω6 s6 p6 T6 h6 => ?_
    have b1 : H'' A = some (.lst ws) := e3.sh _ _ a3
    have b2 : F3 A = none := e3.fn _ _ a3 a2
    have c1 := p6.fr A _ (T1.tb.new hA) a1 b1
    have c2 := p6.fn A _ a1 b1 b2
    have c3 := p6.om A _ a1 b1
    cases b with
    | false =>
      refine iteF ⟨F6, ω6, wipeS s6 vs, acc, ws, pp.trans p6, ?_, c3, c2, c1, a4.mono (e3.sf.trans p6.sf), by omega, by simpa using h6⟩
      have T7 := T6.wipe vs
      rw [hw5] at T7
      exact T7
    | true =>
      refine iteT (LiftD.run (K := K) (t := te) (p := pe) _ T6 (by simpa using h6) fun v F7 H7 ω7 d s7 p7 T7 r7 h7 => ?_)
      have d1 := p7.fr A _ (T1.tb.new hA) c3 c1
      have d2 := p7.fn A _ c3 c1 c2
      have d3 := p7.om A _ c3 c1
      have hlA : ws.length = acc.length := a4.len.symm
      have T8 := T7.wipe vs
      rw [hw5] at T8
      exact ⟨ws, d1, Nat.lt_of_le_of_lt (show ws.length ≤ 100000 by omega) (by decide), F7, ω7, wipeS s7 vs, acc ++ [d], ws ++ [v], ((pp.trans p6).trans p7).mutNew hA, ⟨Sta.mutFree T8.base d3 d2 (T1.tb.new hA), Exo.zero⟩, d3, d2, upd_same,
        ((a4.mono ((e3.sf.trans p6.sf).trans p7.sf)).snoc r7), by rw [List.length_append]; simp; omega, h7⟩
  · rintro H' ⟨F2, ω2, s2, acc, ws, p3, T3, a1, a2, a3, a4, a5, hI⟩
    exact kk' ⟨T3.tb, T3.sf, T3.ow, fun i x h => (T3.at' i x h).elim fun v hv => ⟨v, (wipe_some hv.1).1, hv.2⟩, by rw [T3.len, wipe_length], T3.ix⟩ hI p3 a1 a2 a3 a4⟩
end
/-! ### statements -/
structure PEnds where
  nx : Sl → Prop
  rt : S → Sl → Prop
  bk : Sl → Prop := fun _ => False
  ct : Sl → Prop := fun _ => False
abbrev PS1 := PEnds → Sl → Prop
structure Meets (K : PySem.W.Frag) (Ξ : XI) (H0 F H : Hp) (ω : Om) (E : PEnds) (D : Ends) : Prop where
  nx : ∀ {σ' F' H' ω' s'}, Stp F H ω F' H' ω' → Sta K Ξ F' H' ω' s' σ' → E.nx s' → D.nx σ' H'
  rt : ∀ {v σ' F' H' ω' x s'}, Stp F H ω F' H' ω' → Sta K Ξ F' H' ω' s' σ' → Rt K H0 F' H' ω' x v → E.rt x s' → D.rt v H'
  bk : ∀ {σ' F' H' ω' s'}, Stp F H ω F' H' ω' → Sta K Ξ F' H' ω' s' σ' → E.bk s' → D.bk σ' H'
  ct : ∀ {σ' F' H' ω' s'}, Stp F H ω F' H' ω' → Sta K Ξ F' H' ω' s' σ' → E.ct s' → D.ct σ' H'
  up : ∀ b, H b = none → H0 b = none
  yg : ∀ b j, ω b = some (j, .o) → H0 b = none
theorem Meets.old {K : PySem.W.Frag} {Ξ : XI} {H0 F H F1 H1 : Hp} {ω ω1 : Om} {E : PEnds} {D : Ends} (M : Meets K Ξ H0 F H ω E D) (p : Stp F H ω F1 H1 ω1) : (∀ b, H1 b = none → H0 b = none) ∧ ∀ b j, ω1 b = some (j, .o) → H0 b = none := by
  refine ⟨fun b h => M.up b (p.tr b h), fun b j h => ?_⟩
  cases hw : ω b with
  | none =>
    cases hb : H b with
    | none => exact M.up b hb
    | some o =>
      rw [p.om b o hw hb] at h
      cases h
  | some w =>
    obtain ⟨j', c⟩ := w
    cases c with
    | o => exact M.yg b j' hw
    | r =>
      rw [(p.bk b j').mpr hw] at h
      cases h
    | p =>
      cases hb : H b with
      | none => exact M.up b hb
      | some o =>
        rcases p.bp b j' o hb hw with z | z
        · rw [z] at h; cases h
        · rw [z] at h; cases h
theorem Meets.step {K : PySem.W.Frag} {Ξ : XI} {H0 F H F1 H1 : Hp} {ω ω1 : Om} {E : PEnds} {D : Ends} (M : Meets K Ξ H0 F H ω E D) (p : Stp F H ω F1 H1 ω1) : Meets K Ξ H0 F1 H1 ω1 E D :=
  ⟨fun q T h => M.nx (p.trans q) T h, fun q T r h => M.rt (p.trans q) T r h, fun q T h => M.bk (p.trans q) T h, fun q T h => M.ct (p.trans q) T h, (M.old p).1, (M.old p).2⟩
/-- the same for other ends -/
theorem Meets.ends {K : PySem.W.Frag} {Ξ : XI} {H0 F H : Hp} {ω : Om} {E E' : PEnds} {D D' : Ends} (M : Meets K Ξ H0 F H ω E D) (hrE : E'.rt = E.rt) (hrD : D'.rt = D.rt)
    (nx : ∀ {σ' F' H' ω' s'}, Stp F H ω F' H' ω' → Sta K Ξ F' H' ω' s' σ' → E'.nx s' → D'.nx σ' H') (bk : ∀ {σ' F' H' ω' s'}, Stp F H ω F' H' ω' → Sta K Ξ F' H' ω' s' σ' → E'.bk s' → D'.bk σ' H')
    (ct : ∀ {σ' F' H' ω' s'}, Stp F H ω F' H' ω' → Sta K Ξ F' H' ω' s' σ' → E'.ct s' → D'.ct σ' H') : Meets K Ξ H0 F H ω E' D' :=
  ⟨nx, fun q T r h => by rw [hrD]; exact M.rt q T r (by rw [← hrE]; exact h), bk, ct, M.up, M.yg⟩
class LiftS (K : PySem.W.Frag) (Ξ : XI) (t : TS) (p : outParam PS1) : Prop where
  run : ∀ {H0 F H : Hp} {ω : Om} {s : Sl} {σ : L2.St} {D : Ends} (E : PEnds), Sta K Ξ F H ω s σ → p E s → Meets K Ξ H0 F H ω E D → t D σ H
section
variable {K : PySem.W.Frag} {Ξ : XI}
def psSeq (p q : PS1) : PS1 := fun E s => p { E with nx := q E } s
def psCut (p q : PS1) : PS1 := fun E s => ∃ Mid : Sl → Prop, p { E with nx := Mid } s ∧ ∀ s', Mid s' → q E s'
theorem psSeq_run {t u : TS} {p q : PS1} [LiftS K Ξ t p] [LiftS K Ξ u q] {H0 F H : Hp} {ω : Om} {s : Sl} {σ : L2.St} {D : Ends} (E : PEnds) (T : Sta K Ξ F H ω s σ) (h : psSeq p q E s) (M : Meets K Ξ H0 F H ω E D) : t { D with nx := u D } σ H :=
  LiftS.run (K := K) (t := t) (p := p) _ T h (M.ends rfl rfl (fun {σ' F' H' ω' s'} p' T' h' => LiftS.run (K := K) (t := u) (p := q) E T' h' (M.step p')) M.bk M.ct)
instance {t u : TS} {p q : PS1} [LiftS K Ξ t p] [LiftS K Ξ u q] : LiftS K Ξ (tSeq t u) (psSeq p q) := ⟨fun E T h M => psSeq_run (t := t) (u := u) (p := p) (q := q) E T h M⟩
instance {t u : TS} {p q : PS1} [LiftS K Ξ t p] [LiftS K Ξ u q] : LiftS K Ξ (C8.tCut t u) (psCut p q) := ⟨fun {H0 F H ω s σ D} E T h M => by
  obtain ⟨Mid, h1, h2⟩ := h
  refine ⟨fun σ' H' => ∃ F' ω' s', Stp F H ω F' H' ω' ∧ Sta K Ξ F' H' ω' s' σ' ∧ Mid s', ?_, fun σ' H' hm => ?_⟩
  · exact LiftS.run (K := K) (t := t) (p := p) _ T h1 (M.ends rfl rfl (fun {σ' F' H' ω' s'} p' T' h' => ⟨F', ω', s', p', T', h'⟩) M.bk M.ct)
  · obtain ⟨F', ω', s', p', T', hm⟩ := hm
    exact LiftS.run (K := K) (t := u) (p := q) E T' (h2 s' hm) (M.step p')⟩
instance : LiftS K Ξ tNext (fun E s => E.nx s) := ⟨fun E T h M => M.nx (Stp.refl T.tb) T h⟩
instance : LiftS K Ξ tBreak (fun E s => E.bk s) := ⟨fun E T h M => M.bk (Stp.refl T.tb) T h⟩
instance : LiftS K Ξ tCont (fun E s => E.ct s) := ⟨fun E T h M => M.ct (Stp.refl T.tb) T h⟩
instance : LiftS K Ξ tNever (fun _ _ => False) := ⟨fun E T h M => h.elim⟩
def psDrop (p : PX) : PS1 := fun E s => p s fun _ s1 => E.nx s1
instance {t : TE} {p : PX} [LiftE K Ξ t p] : LiftS K Ξ (tDrop t) (psDrop p) := ⟨fun E T h M =>
  LiftE.run (K := K) (t := t) (p := p) _ T h fun v F' H' ω' x s' p' T' r hq => M.nx p' T' hq⟩
def psRet (p : PX) : PS1 := fun E s => p s E.rt
instance {t : TE} {p : PX} [LiftE K Ξ t p] : LiftS K Ξ (tRet t) (psRet p) := ⟨fun E T h M =>
  LiftE.run (K := K) (t := t) (p := p) _ T h fun v F' H' ω' x s' p' T' r hq => M.rt p' T' (r.early M.up) hq⟩
instance : LiftS K Ξ tRetN (fun E s => E.rt (.fr .non) s) := ⟨fun E T h M => M.rt (Stp.refl T.tb) T (x := .fr .non) rfl h⟩
/-- what is returned as it stands: an object of its own is handed out -/
def psRetV (i : Nat) : PS1 := fun E s => match s[i]? with
  | some (some (.ow false o)) => E.rt (.ow false o) (s.set i none) ∨ psRet (pVar i) E s
  | _ => psRet (pVar i) E s
instance (priority := high) (i : Nat) : LiftS K Ξ (tRet (tVar i)) (psRetV i) := ⟨fun {H0 F H ω s σ D} E T h M => by
  unfold psRetV at h
  split at h
  · rename_i o e
    rcases h with h | h
    · obtain ⟨l, A, hv, hA, p, T', ho⟩ := T.letgo e
      exact ⟨_, hv, M.rt p T' (x := .ow false o) ⟨l, A, rfl, fun a ha => ⟨M.yg a i (hA a ha).1, (hA a ha).2.2, (hA a ha).2.1⟩, ho⟩ h⟩
    · exact LiftS.run (K := K) (t := tRet (tVar i)) (p := psRet (pVar i)) E T h M
  · exact LiftS.run (K := K) (t := tRet (tVar i)) (p := psRet (pVar i)) E T h M⟩
def psIf (c : PT1) (p q : PS1) : PS1 := fun E s => c s (fun s1 => p E s1) (fun s1 => q E s1)
instance {c : TT} {t u : TS} {pc : PT1} {p q : PS1} [LiftT K Ξ c pc] [LiftS K Ξ t p] [LiftS K Ξ u q] : LiftS K Ξ (tIfS c t u) (psIf pc p q) := ⟨fun E T h M => by
  refine LiftT.run (K := K) (t := c) (p := pc) _ _ T h fun b F1 H1 ω1 s1 p1 T1 h1 => ?_
  cases b with
  | true => exact iteT (LiftS.run (K := K) (t := t) (p := p) E T1 (by simpa using h1) (M.step p1))
  | false => exact iteF (LiftS.run (K := K) (t := u) (p := q) E T1 (by simpa using h1) (M.step p1))⟩
/-! assignments -/
def setS (i : Nat) (x : S) (s : Sl) : Sl := match x with
  | .fr d => s.set i (some (.fr d))
  | .ow _ o => s.set i (some (.ow false o))
  | .hid v => s.set i (some (.hid v))
def psSet (i : Nat) (p : PX) : PS1 := fun E s => p s fun x s1 => E.nx (setS i x s1)
instance (priority := high) {t : TE} {p : PX} {i : Nat} [LiftE K Ξ t p] : LiftS K Ξ (tAsg t (gName i)) (psSet i p) := ⟨fun E T h M => by
  refine LiftE.run (K := K) (t := t) (p := p) _ T h fun v F' H' ω' x s' p' T' r hq => ?_
  cases x with
  | fr d => exact M.nx p' (T'.set i r) hq
  | ow b o =>
    obtain ⟨ω2, p2, T2⟩ := Sta.setO p' T.ex T' i r
    exact M.nx p2 T2 hq
  | hid u => exact M.nx p' (T'.setH i r) hq⟩
def psAsg (p : PD) (pg : PG1) : PS1 := fun E s => p s fun d s1 => pg d s1 E.nx
instance {t : TE} {p : PD} {g : TG} {pg : PG1} {ss : List Nat} [LiftD K Ξ t p] [LiftG K Ξ g pg ss] : LiftS K Ξ (tAsg t g) (psAsg p pg) := ⟨fun E T h M => by
  refine LiftD.run (K := K) (t := t) (p := p) _ T h fun v F' H' ω' d s' p' T' r hq => ?_
  exact LiftG.run (K := K) (g := g) (p := pg) (ss := ss) _ T' r hq fun σ2 s2 T2 _ h2 => M.nx p' T2 h2⟩
def psPar (i j : Nat) (p : PA1) : PS1 := fun E s => p s fun ds s1 => match ds with
  | [d, e] => E.nx ((s1.set i (some (.fr d))).set j (some (.fr e)))
  | _ => False
instance {i j : Nat} {t : TA} {p : PA1} [LiftA K Ξ t p] : LiftS K Ξ (tPar i j t) (psPar i j p) := ⟨fun E T h M => by
  refine LiftA.run (K := K) (t := t) (p := p) _ T h fun vs F' H' ω' ds s' p' T' r hq => ?_
  split at hq
  · obtain ⟨v, w, rfl, r1, r2⟩ := r.two
    exact ⟨v, w, rfl, M.nx p' ((T'.set i r1).set j r2) hq⟩
  · exact hq.elim⟩
def psAug (i : Nat) (f : Int → Int → Int) (p : PD) : PS1 := fun E s => match s[i]? with
  | some (some (.fr (.int a))) => p s fun d s1 => match d with
    | .int b => E.nx (s1.set i (some (.fr (.int (f a b)))))
    | _ => False
  | _ => False
instance {i : Nat} {f : Int → Int → Int} {t : TE} {p : PD} [LiftD K Ξ t p] : LiftS K Ξ (tAug i t (ipI f)) (psAug i f p) := ⟨fun E T h M => by
  unfold psAug at h
  split at h
  · rename_i a e
    obtain ⟨v, hv, r⟩ := T.get e
    cases (show v = _ from r)
    refine ⟨_, hv, LiftD.run (K := K) (t := t) (p := p) _ T h fun v F' H' ω' d s' p' T' r hq => ?_⟩
    split at hq
    · rename_i b
      exact ⟨_, _, rfl, r, M.nx p' (T'.set i (d := .int (f a b)) rfl) hq⟩
    · exact hq.elim
  · exact h.elim⟩
/-! loops -/
def psFor (pi : PI1) (pg : PG1) (pb : PS1) : PS1 := fun E s => pi s fun ds s1 => ∃ I : Nat → Sl → Prop, I 0 s1 ∧
  (∀ i d s2, ds[i]? = some d → I i s2 → pg d s2 fun s3 => pb { E with nx := I (i + 1), ct := I (i + 1), bk := E.nx } s3) ∧ ∀ s2, I ds.length s2 → E.nx s2
instance {wi : TI} {g : TG} {tb : TS} {pi : PI1} {pg : PG1} {ss : List Nat} {pb : PS1} [LiftI K Ξ wi pi] [LiftG K Ξ g pg ss] [LiftS K Ξ tb pb] : LiftS K Ξ (tFor wi g tb) (psFor pi pg pb) := ⟨fun {H0 F H ω s σ D} E T h M => by
  refine LiftI.run (K := K) (t := wi) (p := pi) _ T h fun J F1 H1 ω1 ds s1 p1 T1 w1 h1 => ?_
  obtain ⟨I, i0, istep, iend⟩ := h1
  obtain ⟨G, Y, W, hG, hY⟩ := w1
  refine for_it W (fun i σ' H' => ∃ F2 ω2 s2, Stp F1 H1 ω1 F2 H' ω2 ∧ Sta K Ξ F2 H' ω2 s2 σ' ∧ I i s2) ⟨F1, ω1, s1, Stp.refl T1.tb, T1, i0⟩ ?_ ?_ ?_
  · rintro i σ' H' hi ⟨F2, ω2, s2, p3, T3, _⟩
    exact hG H' (p3.sf.trans T3.sf)
  · rintro i x σ' H' H'' hi ⟨F2, ω2, s2, p3, T3, hI⟩ y
    have hd : ds[i]? = some ds[i] := List.getElem?_eq_getElem hi
    obtain ⟨F3, e3, r3⟩ := hY i H' x H'' F2 _ hd p3.sf T3.sf y
    obtain ⟨p4, T4⟩ := e3.stp T3
    refine LiftG.run (K := K) (g := g) (p := pg) (ss := ss) _ T4 r3 (istep i _ s2 hd hI) fun σ5 s5 T5 w5 h5 => ?_
    have pp := p3.trans p4
    have M1 := M.step (p1.trans pp)
    exact LiftS.run (K := K) (t := tb) (p := pb) _ T5 h5 (M1.ends rfl rfl (fun {σ' F' H' ω' s'} p' T' h' => ⟨F', ω', s', pp.trans p', T', h'⟩)
      M1.nx (fun {σ' F' H' ω' s'} p' T' h' => ⟨F', ω', s', pp.trans p', T', h'⟩))
  · rintro σ' H' ⟨F2, ω2, s2, p3, T3, hI⟩
    exact M.nx (p1.trans p3) T3 (iend s2 hI)⟩
def psWhile (c : PT1) (pb : PS1) : PS1 := fun E s => ∃ I : Nat → Sl → Prop, (∃ m, I m s) ∧
  ∀ m s1, I m s1 → c s1 (fun s2 => pb { E with nx := fun s3 => ∃ m', m' < m ∧ I m' s3, ct := fun s3 => ∃ m', m' < m ∧ I m' s3, bk := E.nx } s2) (fun s2 => E.nx s2)
instance {c : TT} {tb : TS} {pc : PT1} {pb : PS1} [LiftT K Ξ c pc] [LiftS K Ξ tb pb] : LiftS K Ξ (tWhile c tb) (psWhile pc pb) := ⟨fun {H0 F H ω s σ D} E T h M => by
  obtain ⟨I, ⟨m0, i0⟩, istep⟩ := h
  refine ⟨fun m σ' H' => ∃ F2 ω2 s2, Stp F H ω F2 H' ω2 ∧ Sta K Ξ F2 H' ω2 s2 σ' ∧ I m s2, ⟨m0, F, ω, s, Stp.refl T.tb, T, i0⟩, ?_⟩
  rintro m σ' H' ⟨F2, ω2, s2, p3, T3, hI⟩
  refine LiftT.run (K := K) (t := c) (p := pc) _ _ T3 (istep m s2 hI) fun b F4 H4 ω4 s4 p4 T4 h4 => ?_
  have pp := p3.trans p4
  have M1 := M.step pp
  cases b with
  | false => exact iteF (M.nx pp T4 (by simpa using h4))
  | true =>
    rw [if_pos rfl] at h4
    refine iteT ⟨fun σ' H' => ∃ m', m' < m ∧ ∃ F2 ω2 s2, Stp F H ω F2 H' ω2 ∧ Sta K Ξ F2 H' ω2 s2 σ' ∧ I m' s2, fun σ' H' hh => hh, ?_⟩
    exact LiftS.run (K := K) (t := tb) (p := pb) _ T4 h4 (M1.ends rfl rfl (fun {σ' F' H' ω' s'} p' T' h' => let ⟨m', hm, hi⟩ := h'; ⟨m', hm, F', ω', s', pp.trans p', T', hi⟩)
      M1.nx (fun {σ' F' H' ω' s'} p' T' h' => let ⟨m', hm, hi⟩ := h'; ⟨m', hm, F', ω', s', pp.trans p', T', hi⟩))⟩
/-! ### a name's own list is changed -/
class MuL (K : PySem.W.Frag) (r : V → List V → Hp → VK → Prop) (g : outParam (List D → List D → (D → List D → Prop) → Prop)) : Prop where
  run : ∀ {F H : Hp} {l : Addr} {xs : List D} {ws vs : List V} {ds : List D} {Q : VK} (q : D → List D → Prop), Same F H → F l = none → H l = some (.lst ws) → RpA K F xs ws → RpA K F ds vs → g xs ds q →
    (∀ v us d ys, Rp K F d v → RpA K F ys us → q d ys → Q v (upd H l (.lst us))) → r (.ref l) vs H Q
def pMu (i : Nat) (g : List D → List D → (D → List D → Prop) → Prop) (pa : PA1) : PX := fun s q => match s[i]? with
  | some (some (.ow _ (.lst _))) => pa s fun ds s1 => match s1[i]? with
    | some (some (.ow b (.lst xs))) => g xs ds fun d ys => q (.fr d) (s1.set i (some (.ow b (.lst ys))))
    | _ => False
  | _ => False
theorem mu_run {r : V → List V → Hp → VK → Prop} {g : List D → List D → (D → List D → Prop) → Prop} [MuL K r g] {i : Nat} {F H : Hp} {ω : Om} {s : Sl} {σ : L2.St} {v0 : V} {vs : List V} {ds : List D} {b : Bool} {xs : List D} {Q : VK} {q : S → Sl → Prop} (T : Sta K Ξ F H ω s σ) (hv : σ[i]? = some (some v0))
    (hs : s[i]? = some (some (.ow b (.lst xs)))) (r1 : RpA K F ds vs) (h : g xs ds fun d ys => q (.fr d) (s.set i (some (.ow b (.lst ys)))))
    (k : ∀ v F' H' ω' x s', Stp F H ω F' H' ω' → Sta K Ξ F' H' ω' s' σ → Rt K H F' H' ω' x v → q x s' → Q v H') : r v0 vs H Q := by
  obtain ⟨v, hv', l, rfl, hl, ws, h1, h2⟩ := T.lst i hs
  rw [hv] at hv'
  cases hv'
  refine MuL.run (K := K) (r := r) (g := g) _ T.sf (T.ow l _ hl).1 h1 h2 r1 h fun v us d ys r2 r3 hq => ?_
  obtain ⟨ω2, p2, T2⟩ := T.mut (u := .lst us) hv hl (o' := .lst ys) (obj_lst upd_same r3)
  exact k v F _ ω2 (.fr d) _ p2 T2 r2 hq
theorem own_ty {i : Nat} {F H : Hp} {ω : Om} {s : Sl} {σ : L2.St} {b : Bool} {xs : List D} (T : Sta K Ξ F H ω s σ) (hs : s[i]? = some (some (.ow b (.lst xs)))) : ∃ v, σ[i]? = some (some v) ∧ tyV K "list" v H := by
  obtain ⟨v, hv', l, rfl, hl, ws, h1, h2⟩ := T.lst i hs
  exact ⟨_, hv', .inl ⟨rfl, _, SqL.of h1⟩⟩
instance {r : V → List V → Hp → VK → Prop} {g : List D → List D → (D → List D → Prop) → Prop} {i : Nat} {t : TA} {pa : PA1} [MuL K r g] [LiftA K Ξ t pa] : LiftE K Ξ (tBM K "list" r (tVar i) t) (pMu i g pa) := ⟨fun {F H ω s σ Q} q T h k => by
  unfold pMu at h
  split at h
  · rename_i e
    obtain ⟨v0, hv0, ty⟩ := own_ty T e
    refine ⟨v0, hv0, ty, LiftA.run (K := K) (t := t) (p := pa) _ T h fun vs F1 H1 ω1 ds s1 p1 T1 r1 h1 => ?_⟩
    split at h1
    · rename_i b xs e1
      exact mu_run (r := r) (g := g) T1 hv0 e1 r1 h1 fun v F2 H2 ω2 x s2 p2 T2 r2 hq => k v F2 H2 ω2 x s2 (p1.trans p2) T2 (r2.early p1.tr) hq
    · exact h1.elim
  · exact h.elim⟩
def pMu0 (i : Nat) (g : List D → List D → (D → List D → Prop) → Prop) : PX := fun s q => match s[i]? with
  | some (some (.ow b (.lst xs))) => g xs [] fun d ys => q (.fr d) (s.set i (some (.ow b (.lst ys))))
  | _ => False
instance {r : V → List V → Hp → VK → Prop} {g : List D → List D → (D → List D → Prop) → Prop} {i : Nat} [MuL K r g] : LiftE K Ξ (tBM0 K "list" r (tVar i)) (pMu0 i g) := ⟨fun {F H ω s σ Q} q T h k => by
  unfold pMu0 at h
  split at h
  · rename_i b xs e
    obtain ⟨v0, hv0, ty⟩ := own_ty T e
    exact ⟨v0, hv0, ty, mu_run (r := r) (g := g) (vs := []) (ds := []) T hv0 e rfl h k⟩
  · exact h.elim⟩
instance : MuL K rAppend (fun xs ds q => match ds with
    | [d] => xs.length < 1000000 ∧ q .non (xs ++ [d])
    | _ => False) := ⟨fun {F H l xs ws vs ds Q} q hs hF hl hx hd h k => by
  split at h
  · obtain ⟨v, rfl, r⟩ := hd.one
    exact ⟨l, ws, v, rfl, rfl, hl, by rw [← hx.len]; exact Nat.lt_trans h.1 (by decide), k _ _ .non _ rfl (hx.snoc r) h.2⟩
  · exact h.elim⟩
instance : MuL K rExtend (fun xs ds q => match ds with
    | [.lst ys] => xs.length + ys.length ≤ 1000000 ∧ q .non (xs ++ ys)
    | _ => False) := ⟨fun {F H l xs ws vs ds Q} q hs hF hl hx hd h k => by
  split at h
  · obtain ⟨v, rfl, a, us, rfl, h1, h2⟩ := hd.one
    exact ⟨l, a, ws, us, rfl, rfl, hl, hs _ _ h1, by rw [← hx.len, ← h2.len]; exact Nat.le_trans h.1 (by decide), k _ _ .non _ rfl (hx.app h2) h.2⟩
  · exact h.elim⟩
instance : MuL K rPop (fun xs ds q => match ds with
    | [] => match xs[xs.length - 1]? with
      | some d => q d xs.dropLast
      | none => False
    | _ => False) := ⟨fun {F H l xs ws vs ds Q} q hs hF hl hx hd h k => by
  split at h
  · split at h
    · rename_i d e
      cases (show vs = [] from hd)
      obtain ⟨v, hv, r⟩ := hx.get e
      rw [hx.len] at hv
      exact ⟨l, ws, v, rfl, rfl, hl, hv, k v _ d _ r hx.dropLast h⟩
    · exact h.elim
  · exact h.elim⟩
instance : MuL K rPopAt (fun xs ds q => match ds with
    | [.int i] => (0 ≤ i ∧ i < 2 ^ 63 ∧ i.toNat < xs.length) ∧ match xs[i.toNat]? with
      | some d => q d (xs.eraseIdx i.toNat)
      | none => False
    | _ => False) := ⟨fun {F H l xs ws vs ds Q} q hs hF hl hx hd h k => by
  split at h
  · rename_i i
    obtain ⟨⟨h1, h2, h3⟩, h⟩ := h
    split at h
    · rename_i d e
      obtain ⟨v, rfl, r⟩ := hd.one
      cases (show v = _ from r)
      obtain ⟨v, hv, r⟩ := hx.get e
      refine ⟨l, ws, i, i.toNat, v, rfl, rfl, hl, by omega, h2, ?_, hv, k v _ d _ r (hx.erase _) h⟩
      rw [← hx.len]
      unfold seqIndex?
      simp
      omega
    · exact h.elim
  · exact h.elim⟩
instance : MuL K rReverse (fun xs ds q => match ds with
    | [] => q .non xs.reverse
    | _ => False) := ⟨fun {F H l xs ws vs ds Q} q hs hF hl hx hd h k => by
  split at h
  · cases (show vs = [] from hd)
    exact ⟨l, ws, rfl, rfl, hl, k _ _ .non _ rfl hx.rev h⟩
  · exact h.elim⟩
/-- xs[i] = e -/
def psSub (i : Nat) (pv : PD) (pi : PD) : PS1 := fun E s => pv s fun d s1 => match s1[i]? with
  | some (some (.ow _ (.lst _))) => pi s1 fun e s2 => match e, s2[i]? with
    | .int k, some (some (.ow b (.lst xs))) => match ixN xs.length k with
      | some j => E.nx (s2.set i (some (.ow b (.lst (xs.set j d)))))
      | none => False
    | _, _ => False
  | _ => False
instance (priority := high) {i : Nat} {te ti : TE} {pv pi : PD} [LiftD K Ξ te pv] [LiftD K Ξ ti pi] : LiftS K Ξ (tAsg te (gSub (tVar i) ti rSetL)) (psSub i pv pi) := ⟨fun E T h M => by
  refine LiftD.run (K := K) (t := te) (p := pv) _ T h fun v F1 H1 ω1 d s1 p1 T1 r1 h1 => ?_
  split at h1
  · rename_i e0
    obtain ⟨v0, hv0, _⟩ := own_ty T1 e0
    refine ⟨v0, hv0, LiftD.run (K := K) (t := ti) (p := pi) _ T1 h1 fun w F2 H2 ω2 e s2 p2 T2 r2 h2 => ?_⟩
    split at h2
    · rename_i k b xs e1
      split at h2
      · rename_i j ej
        obtain ⟨v, hv', l, rfl, hl, ws, q1, q2⟩ := T2.lst i e1
        rw [hv0] at hv'
        cases hv'
        cases (show w = _ from r2)
        refine ⟨l, ws, k, j, rfl, rfl, q1, by rw [← q2.len]; exact ej, ?_⟩
        obtain ⟨ω3, p3, T3⟩ := T2.mut (u := .lst (ws.set j v)) hv0 hl (o' := .lst (xs.set j d)) (obj_lst upd_same (q2.set j (r1.mono p2.sf)))
        exact M.nx ((p1.trans p2).trans p3) T3 h2
      · exact h2.elim
    · exact h2.elim
  · exact h1.elim⟩
/-! reading from a name's own list without giving it away -/
def pIxV (i : Nat) (pi : PD) : PX := fun s q => match s[i]? with
  | some (some (.ow _ (.lst _))) => pi s fun e s1 => match e, s1[i]? with
    | .int k, some (some (.ow _ (.lst xs))) => match atI xs k with
      | some d => q (.fr d) s1
      | none => False
    | _, _ => False
  | _ => pOp gIxL (pDat (pVar i)) pi s q
instance (priority := high) {i : Nat} {ti : TE} {pi : PD} [LiftD K Ξ ti pi] : LiftE K Ξ (tOp (rIxL K) (tVar i) ti) (pIxV i pi) := ⟨fun {F H ω s σ Q} q T h k => by
  unfold pIxV at h
  split at h
  · rename_i e0
    obtain ⟨v0, hv0, _⟩ := own_ty T e0
    refine ⟨v0, hv0, LiftD.run (K := K) (t := ti) (p := pi) _ T h fun w F2 H2 ω2 e s2 p2 T2 r2 h2 => ?_⟩
    split at h2
    · rename_i kk b xs e1
      split at h2
      · rename_i d ed
        obtain ⟨v, hv', l, rfl, hl, ws, q1, q2⟩ := T2.lst i e1
        rw [hv0] at hv'
        cases hv'
        cases (show w = _ from r2)
        obtain ⟨v, hv, r⟩ := q2.atI ed
        exact ⟨l, ws, kk, v, rfl, rfl, SqL.of q1, hv, k v F2 H2 ω2 (.fr d) s2 p2 T2 r h2⟩
      · exact h2.elim
    · exact h2.elim
  · exact LiftE.run (K := K) (t := tOp (rIxL K) (tVar i) ti) (p := pOp gIxL (pDat (pVar i)) pi) q T h k⟩
def pLenV (i : Nat) : PX := fun s q => match s[i]? with
  | some (some (.ow _ (.lst xs))) => q (.fr (.int xs.length)) s
  | _ => pCB gLen (pCons (pDat (pVar i)) (fun s q => q [] s)) s q
instance (priority := high) {i : Nat} : LiftE K Ξ (tCB (rLenQ K) (tCons (tVar i) tNil)) (pLenV i) := ⟨fun {F H ω s σ Q} q T h k => by
  unfold pLenV at h
  split at h
  · rename_i b xs e
    obtain ⟨v, hv', l, rfl, hl, ws, q1, q2⟩ := T.lst i e
    refine ⟨_, hv', l, ws, rfl, .inl (SqL.of q1), ?_⟩
    rw [← q2.len]
    exact k _ F H ω (.fr (.int _)) s (Stp.refl T.tb) T rfl h
  · exact LiftE.run (K := K) (t := tCB (rLenQ K) (tCons (tVar i) tNil)) (p := pCB gLen (pCons (pDat (pVar i)) (fun s q => q [] s))) q T h k⟩
instance (priority := high) {i : Nat} : LiftE K Ξ (tCB (fun xs H Q => ∃ p ys, xs = [.ref p] ∧ (SqL K H p ys ∨ SqT K H p ys) ∧ Q (.int ys.length) H) (tCons (tVar i) tNil)) (pLenV i) :=
  ⟨fun {F H ω s σ Q} q T h k => LiftE.run (K := K) (t := tCB (rLenQ K) (tCons (tVar i) tNil)) (p := pLenV i) q T h k⟩
/-- a copy of it -/
def pCopyV (i : Nat) : PX := fun s q => match s[i]? with
  | some (some (.ow _ (.lst xs))) => q (.ow false (.lst xs)) s
  | _ => pCB gListOf (pCons (pDat (pVar i)) (fun s q => q [] s)) s q
instance (priority := high) {i : Nat} : LiftE K Ξ (tCB (fun xs H Q => ∃ p ys, xs = [.ref p] ∧ (SqL K H p ys ∨ SqT K H p ys) ∧ ∀ l, H l = none → Q (.ref l) (upd H l (.lst ys))) (tCons (tVar i) tNil)) (pCopyV i) := ⟨fun {F H ω s σ Q} q T h k => by
  unfold pCopyV at h
  split at h
  · rename_i b xs e
    obtain ⟨v, hv', l, rfl, hl, ws, q1, q2⟩ := T.lst i e
    refine ⟨_, hv', l, ws, rfl, .inl (SqL.of q1), fun p hp => ?_⟩
    refine Ext.lst (q := fun z => q z s) T.sf q2 h (fun v F' H' z e r hq => ?_) hp
    obtain ⟨p2, T2⟩ := e.stp T
    exact k v F' H' ω z s p2 T2 (Rn.rt (Stp.refl T.tb) T r) hq
  · exact LiftE.run (K := K) (t := tCB _ (tCons (tVar i) tNil)) (p := pCB gListOf (pCons (pDat (pVar i)) (fun s q => q [] s))) q T h k⟩
/-- the sum of a name's own list -/
def pSumV (i : Nat) : PX := fun s q => match s[i]? with
  | some (some (.ow _ (.lst xs))) => ∃ ns : List Int, xs = ns.map D.int ∧ q (.fr (.int ns.sum)) s
  | _ => pCB gSum (pCons (pDat (pVar i)) (fun s q => q [] s)) s q
instance (priority := high) {i : Nat} : LiftE K Ξ (tCB (rSum K) (tCons (tVar i) tNil)) (pSumV i) := ⟨fun {F H ω s σ Q} q T h k => by
  unfold pSumV at h
  split at h
  · rename_i b xs e
    obtain ⟨ns, rfl, h⟩ := h
    obtain ⟨v, hv', l, rfl, hl, ws, q1, q2⟩ := T.lst i e
    cases RpA.intsV q2
    exact ⟨_, hv', l, ns, rfl, SqL.of q1, k _ F H ω (.fr (.int _)) s (Stp.refl T.tb) T rfl h⟩
  · exact LiftE.run (K := K) (t := tCB (rSum K) (tCons (tVar i) tNil)) (p := pCB gSum (pCons (pDat (pVar i)) (fun s q => q [] s))) q T h k⟩
end
/-! ### defs: promises by data -/
/-- what a def promises: its arguments by data (an own object may be lent), its answer, the lent objects behind it -/
structure Psp where
  n : Nat
  run : List S → (S → List O → Prop) → Prop
/-- .. of a def that may raise: what it lets out, the lent objects behind it -/
structure PspX where
  n : Nat
  run : List S → (S → List O → Prop) → (Xc → List O → Prop) → Prop
def Psp.X (ps : Psp) : PspX := ⟨ps.n, fun xs q _ => ps.run xs q⟩
/-- the lent objects at the end -/
def bors : List S → Sl → Option (List O)
  | [], _ => some []
  | .fr _ :: xs, _ :: s => bors xs s
  | .ow _ _ :: xs, some (.ow true o) :: s => (bors xs s).map (o :: ·)
  | _, _ => none
def lent : List S → Prop
  | [] => True
  | .fr _ :: xs => lent xs
  | .hid _ :: _ => False
  | .ow b _ :: xs => b = true ∧ lent xs
/-- what is known of the lent objects' addresses at the end -/
def BosR (K : PySem.W.Frag) (F H : Hp) (ω : Om) : Nat → List S → List V → List O → Prop
  | _, [], _, os => os = []
  | n, .fr _ :: xs, vs, os => ∃ v ws, vs = v :: ws ∧ BosR K F H ω (n + 1) xs ws os
  | n, .hid _ :: xs, vs, os => ∃ v ws, vs = v :: ws ∧ BosR K F H ω (n + 1) xs ws os
  | n, .ow _ _ :: xs, vs, os => ∃ v ws o os', vs = v :: ws ∧ os = o :: os' ∧ OwnAt K F H ω n (.ow true o) v ∧ BosR K F H ω (n + 1) xs ws os'
/-- the state of heap and owners in which a def ends -/
structure Dn (F H : Hp) (ω : Om) (F' H' : Hp) (ω' : Om) : Prop where
  st : Stp F H ω F' H' ω'
  sf : Same F' H'
  ow : ∀ b p, ω' b = some p → F' b = none ∧ ∃ u, H' b = some u
def LspX (K : PySem.W.Frag) (ps : PspX) : Sp := fun vs H Q E => ∃ (F : Hp) (ω : Om) (xs : List S) (q : S → List O → Prop) (e : Xc → List O → Prop), Sta0 K F H ω (xs.map some) (vs.map some) ∧ lent xs ∧
  (∀ a b j, ω a = some (j, .r) → ω b = some (j, .r) → a = b) ∧ (∀ b j c, ω b = some (j, c) → c ≠ .o) ∧ xs.length = ps.n ∧ ps.run xs q e ∧
  (∀ v F' H' ω' x os, Dn F H ω F' H' ω' → BosR K F' H' ω' 0 xs vs os → Rt K H F' H' ω' x v → q x os → Q v H') ∧
  ∀ x d F' H' ω' os, Dn F H ω F' H' ω' → BosR K F' H' ω' 0 xs vs os → XdR K F' x d → e x os → E (.ref x.C) d H'
abbrev Lsp (K : PySem.W.Frag) (ps : Psp) : Sp := LspX K ps.X
section
variable {K : PySem.W.Frag} {Ξ : XI}
/-! a call -/
inductive Ar where
  | v (d : D) | b (i : Nat) | w (i : Nat)
def Ar.isB (i : Nat) : Ar → Bool
  | .b j => i == j
  | _ => false
def Ar.isW : Ar → Bool
  | .w _ => true
  | _ => false
def Ar.isL : Ar → Bool
  | .b _ => true
  | _ => false
def ArR (K : PySem.W.Frag) (F : Hp) (σ : L2.St) : List Ar → List V → Prop
  | [], vs => vs = []
  | .v d :: as, vs => ∃ v ws, vs = v :: ws ∧ Rp K F d v ∧ ArR K F σ as ws
  | .b i :: as, vs => ∃ v ws, vs = v :: ws ∧ σ[i]? = some (some v) ∧ ArR K F σ as ws
  | .w i :: as, vs => ∃ v ws, vs = v :: ws ∧ σ[i]? = some (some v) ∧ ArR K F σ as ws
theorem ArR.mono {F F' : Hp} {σ : L2.St} (e : Same F F') : ∀ {as : List Ar} {vs : List V}, ArR K F σ as vs → ArR K F' σ as vs
  | [], _, h => h
  | .v _ :: _, _, h => let ⟨v, ws, e1, h1, h2⟩ := h; ⟨v, ws, e1, h1.mono e, ArR.mono e h2⟩
  | .b _ :: _, _, h => let ⟨v, ws, e1, h1, h2⟩ := h; ⟨v, ws, e1, h1, ArR.mono e h2⟩
  | .w _ :: _, _, h => let ⟨v, ws, e1, h1, h2⟩ := h; ⟨v, ws, e1, h1, ArR.mono e h2⟩
abbrev PR1 := Sl → (List Ar → Sl → Prop) → Prop
class LiftR (K : PySem.W.Frag) (Ξ : XI) (t : TA) (p : outParam PR1) : Prop where
  run : ∀ {F H : Hp} {ω : Om} {s : Sl} {σ : L2.St} {Q : List V → Hp → Prop} (q : List Ar → Sl → Prop), Sta K Ξ F H ω s σ → p s q →
    (∀ vs F' H' ω' as s', Stp F H ω F' H' ω' → Sta K Ξ F' H' ω' s' σ → ArR K F' σ as vs → q as s' → Q vs H') → t σ H Q
def prNil : PR1 := fun s q => q [] s
instance : LiftR K Ξ tNil prNil := ⟨fun {F H ω s σ Q} q T h k => k [] F H ω [] s (Stp.refl T.tb) T rfl h⟩
def prCons (p : PD) (r : PR1) : PR1 := fun s q => p s fun d s1 => r s1 fun as s2 => q (.v d :: as) s2
instance {t : TE} {r : TA} {p : PD} {pr : PR1} [LiftD K Ξ t p] [LiftR K Ξ r pr] : LiftR K Ξ (tCons t r) (prCons p pr) := ⟨fun kk T h k => by
  refine LiftD.run (K := K) (t := t) (p := p) _ T h fun x F1 H1 ω1 d s1 p1 T1 r1 h1 => ?_
  refine LiftR.run (K := K) (t := r) (p := pr) _ T1 h1 fun vs F2 H2 ω2 as s2 p2 T2 r2 h2 => ?_
  exact k _ F2 H2 ω2 (.v d :: as) s2 (p1.trans p2) T2 ⟨x, vs, rfl, r1.mono p2.sf, r2⟩ h2⟩
/-- a name: data, or its object lent (inl), or given away as data (inr inl), or shown as data (inr inr) -/
def prVar (i : Nat) (r : PR1) : PR1 := fun s q => match s[i]? with
  | some (some (.ow false _)) => (r s fun as s2 => q (.b i :: as) s2) ∨ prCons (pDat (pVar i)) r s q ∨ (r s fun as s2 => q (.w i :: as) s2)
  | some (some (.ow true _)) => r s fun as s2 => q (.b i :: as) s2
  | _ => prCons (pDat (pVar i)) r s q
theorem prVar_b {i : Nat} {r : TA} {pr : PR1} [LiftR K Ξ r pr] {F H : Hp} {ω : Om} {s : Sl} {σ : L2.St} {Q : List V → Hp → Prop} {b : Bool} {o : O} (q : List Ar → Sl → Prop) (T : Sta K Ξ F H ω s σ) (e : s[i]? = some (some (.ow b o)))
    (h : pr s fun as s2 => q (.b i :: as) s2) (k : ∀ vs F' H' ω' as s', Stp F H ω F' H' ω' → Sta K Ξ F' H' ω' s' σ → ArR K F' σ as vs → q as s' → Q vs H') : tCons (tVar i) r σ H Q := by
  obtain ⟨v, hv, _⟩ := T.at' i _ e
  refine ⟨v, hv, LiftR.run (K := K) (t := r) (p := pr) _ T h fun vs F2 H2 ω2 as s2 p2 T2 r2 h2 => ?_⟩
  exact k _ F2 H2 ω2 (.b i :: as) s2 p2 T2 ⟨v, vs, rfl, hv, r2⟩ h2
instance (priority := high) {i : Nat} {r : TA} {pr : PR1} [LiftR K Ξ r pr] : LiftR K Ξ (tCons (tVar i) r) (prVar i pr) := ⟨fun {F H ω s σ Q} q T h k => by
  unfold prVar at h
  split at h
  · rename_i e
    rcases h with h | h | h
    · exact prVar_b q T e h k
    · exact LiftR.run (K := K) (t := tCons (tVar i) r) (p := prCons (pDat (pVar i)) pr) q T h k
    · obtain ⟨v, hv, _⟩ := T.at' i _ e
      refine ⟨v, hv, LiftR.run (K := K) (t := r) (p := pr) _ T h fun vs F2 H2 ω2 as s2 p2 T2 r2 h2 => ?_⟩
      exact k _ F2 H2 ω2 (.w i :: as) s2 p2 T2 ⟨v, vs, rfl, hv, r2⟩ h2
  · rename_i e
    exact prVar_b q T e h k
  · exact LiftR.run (K := K) (t := tCons (tVar i) r) (p := prCons (pDat (pVar i)) pr) q T h k⟩
def getA : List Ar → Sl → Option (List S)
  | [], _ => some []
  | .v d :: as, s => (getA as s).map (.fr d :: ·)
  | .b i :: as, s => match s[i]? with
    | some (some (.ow _ o)) => if as.any (Ar.isB i) then none else (getA as s).map (.ow true o :: ·)
    | _ => none
  | .w i :: as, s => match s[i]? with
    | some (some (.ow _ (.lst ds))) => (getA as s).map (.fr (.lst ds) :: ·)
    | _ => none
def setO (i : Nat) (o : O) (s : Sl) : Sl := match s[i]? with
  | some (some (.ow b _)) => s.set i (some (.ow b o))
  | _ => s
def putA : List Ar → List O → Sl → Sl
  | [], _, s => s
  | .v _ :: as, os, s => putA as os s
  | .w _ :: as, os, s => putA as os s
  | .b i :: as, o :: os, s => setO i o (putA as os s)
  | .b _ :: _, [], s => s

mutual
def D.lf : D → Bool
  | .lst _ => false
  | .dic _ _ _ => false
  | .dik _ _ => false
  | .obj _ _ _ => false
  | .scr _ => false
  | .xv _ _ _ _ _ => false
  | .tup ds => D.lfs ds
  | _ => true
def D.lfs : List D → Bool
  | [] => true
  | d :: ds => d.lf && D.lfs ds
end
def lfS : S → Bool
  | .fr d => d.lf
  | .ow _ (.lst ds) => D.lfs ds
  | .ow _ _ => false
  | .hid _ => true
inductive ArOk (K : PySem.W.Frag) (F H : Hp) (ω : Om) (s : Sl) (σ : L2.St) : List Ar → List V → List S → Prop
  | nil : ArOk K F H ω s σ [] [] []
  | v {d : D} {x : V} {as : List Ar} {vs : List V} {xs : List S} : Rp K F d x → ArOk K F H ω s σ as vs xs → ArOk K F H ω s σ (.v d :: as) (x :: vs) (.fr d :: xs)
  | b {i : Nat} {b : Bool} {o : O} {l : Addr} {A : List Addr} {as : List Ar} {vs : List V} {xs : List S} : s[i]? = some (some (.ow b o)) → σ[i]? = some (some (.ref l)) → ω l = some (i, tgR b) → (∀ a ∈ A, a ≠ l → ω a = some (i, tgP b)) → ObjR K F H o l A → as.any (Ar.isB i) = false →
    ArOk K F H ω s σ as vs xs → ArOk K F H ω s σ (.b i :: as) (.ref l :: vs) (.ow true o :: xs)
theorem arOk {F H : Hp} {ω : Om} {s : Sl} {σ : L2.St} (T : Sta0 K F H ω s σ) : ∀ {as : List Ar} {vs : List V} {xs : List S}, as.any Ar.isW = false → ArR K F σ as vs → getA as s = some xs → ArOk K F H ω s σ as vs xs
  | .w i :: as, _, _, hW, _, _ => by simp [Ar.isW] at hW
  | [], _, _, _, h, e => by
    cases (show _ = [] from h)
    cases e
    exact .nil
  | .v d :: as, _, xs, hW, h, e => by
    have hW : as.any Ar.isW = false := by simpa [Ar.isW] using hW
    obtain ⟨v, ws, rfl, r1, r2⟩ := h
    unfold getA at e
    cases e1 : getA as s with
    | none => rw [e1] at e; cases e
    | some ys =>
      rw [e1] at e
      cases e
      exact .v r1 (arOk T hW r2 e1)
  | .b i :: as, _, xs, hW, h, e => by
    have hW : as.any Ar.isW = false := by simpa [Ar.isW] using hW
    obtain ⟨v, ws, rfl, r1, r2⟩ := h
    unfold getA at e
    split at e
    · rename_i b o e0
      split at e
      · cases e
      · rename_i hn
        cases e1 : getA as s with
        | none => rw [e1] at e; cases e
        | some ys =>
          rw [e1] at e
          cases e
          obtain ⟨v', hv', l, A, rfl, hl, hA, ho⟩ := T.at' i _ e0
          rw [r1] at hv'
          cases hv'
          exact .b e0 r1 hl hA ho (by simpa using hn) (arOk T hW r2 e1)
    · cases e
/-- whether a slot's object is lent to this def -/
def lentS (s : Sl) (i : Nat) : Bool := match s[i]? with
  | some (some (.ow b _)) => b
  | _ => false
theorem lentS_is {s : Sl} {i : Nat} {b : Bool} {o : O} (h : s[i]? = some (some (.ow b o))) : lentS s i = b := by
  unfold lentS
  rw [h]
/-- who owns what for the callee -/
def omC (ω : Om) (s : Sl) : List Ar → List V → Nat → Om
  | .b i :: as, .ref l :: vs, j => fun a => if a = l then some (j, .r) else if ω a = some (i, tgP (lentS s i)) then some (j, .p) else omC ω s as vs (j + 1) a
  | _ :: as, _ :: vs, j => omC ω s as vs (j + 1)
  | _, _, _ => fun _ => none
section
variable {F H : Hp} {ω : Om} {s : Sl} {σ : L2.St}
theorem omC_in {as : List Ar} {vs : List V} {xs : List S} (A : ArOk K F H ω s σ as vs xs) : ∀ {j k : Nat} {a : Addr} {t : Tg}, omC ω s as vs j a = some (k, t) →
    ∃ i b o, as[k - j]? = some (.b i) ∧ j ≤ k ∧ s[i]? = some (some (.ow b o)) ∧ as.any (Ar.isB i) = true ∧ ((t = .r ∧ ω a = some (i, tgR b) ∧ vs[k - j]? = some (.ref a)) ∨ (t = .p ∧ ω a = some (i, tgP b))) := by
  induction A with
  | nil => intro j k a t h; cases h
  | v r A ih =>
    intro j k a t h
    obtain ⟨i, b, o, h1, h2, h3, h4, h5⟩ := ih (j := j + 1) h
    have e : k - j = k - (j + 1) + 1 := by omega
    refine ⟨i, b, o, by rw [e]; exact h1, by omega, h3, by rw [List.any_cons, h4, Bool.or_true], h5.imp (fun ⟨z1, z2, z3⟩ => ⟨z1, z2, by rw [e]; exact z3⟩) id⟩
  | @b i b o l B as vs xs e1 e2 e3 eA e4 e5 A ih =>
    intro j k a t h
    have h' : (if a = l then some (j, Tg.r) else if ω a = some (i, tgP (lentS s i)) then some (j, .p) else omC ω s as vs (j + 1) a) = some (k, t) := h
    split at h'
    · rename_i ha
      subst ha
      cases h'
      exact ⟨i, b, o, by rw [Nat.sub_self]; rfl, Nat.le_refl _, e1, by simp [Ar.isB], .inl ⟨rfl, e3, by rw [Nat.sub_self]; rfl⟩⟩
    · split at h'
      · rename_i ha
        cases h'
        rw [lentS_is e1] at ha
        exact ⟨i, b, o, by rw [Nat.sub_self]; rfl, Nat.le_refl _, e1, by simp [Ar.isB], .inr ⟨rfl, ha⟩⟩
      · obtain ⟨i, b, o, h1, h2, h3, h4, h5⟩ := ih (j := j + 1) h'
        have e : k - j = k - (j + 1) + 1 := by omega
        exact ⟨i, b, o, by rw [e]; exact h1, by omega, h3, by rw [List.any_cons, h4, Bool.or_true], h5.imp (fun ⟨z1, z2, z3⟩ => ⟨z1, z2, by rw [e]; exact z3⟩) id⟩
theorem omC_mem {as : List Ar} {vs : List V} {xs : List S} (A : ArOk K F H ω s σ as vs xs) {j : Nat} {a : Addr} {p : Nat × Tg} (h : omC ω s as vs j a = some p) : ∃ i c, ω a = some (i, c) ∧ as.any (Ar.isB i) = true := by
  obtain ⟨k, t⟩ := p
  obtain ⟨i, b, o, _, _, _, h4, h5⟩ := omC_in A h
  rcases h5 with ⟨_, z, _⟩ | ⟨_, z⟩
  · exact ⟨i, _, z, h4⟩
  · exact ⟨i, _, z, h4⟩
theorem omC_off {as : List Ar} {vs : List V} {xs : List S} (A : ArOk K F H ω s σ as vs xs) {j : Nat} {a : Addr} {i : Nat} {c : Tg} (h : ω a = some (i, c)) (hi : as.any (Ar.isB i) = false) : omC ω s as vs j a = none := by
  cases e : omC ω s as vs j a with
  | none => rfl
  | some p =>
    obtain ⟨i', c', h1, h2⟩ := omC_mem A e
    rw [h] at h1
    cases h1
    rw [hi] at h2
    cases h2
theorem omC_none {as : List Ar} {vs : List V} {xs : List S} (A : ArOk K F H ω s σ as vs xs) {j : Nat} {a : Addr} (h : ω a = none) : omC ω s as vs j a = none := by
  cases e : omC ω s as vs j a with
  | none => rfl
  | some p =>
    obtain ⟨i', c', h1, h2⟩ := omC_mem A e
    rw [h] at h1
    cases h1
theorem omC_at {as : List Ar} {vs : List V} {xs : List S} (A : ArOk K F H ω s σ as vs xs) : ∀ {j k : Nat} {x : S}, xs[k]? = some x → ∃ v, vs[k]? = some v ∧ OwnAt K F H (omC ω s as vs j) (j + k) x v ∧ ∀ b o, x = .ow b o → ∃ i, as.any (Ar.isB i) = true ∧
    ∃ l B bb, v = .ref l ∧ s[i]? = some (some (.ow bb o)) ∧ ω l = some (i, tgR bb) ∧ (∀ a ∈ B, a ≠ l → ω a = some (i, tgP bb)) ∧ ObjR K F H o l B := by
  induction A with
  | nil => intro j k x h; simp at h
  | @v d y as vs xs r A ih =>
    intro j k x h
    cases k with
    | zero =>
      cases h
      exact ⟨y, rfl, r, fun _ _ z => by cases z⟩
    | succ k =>
      obtain ⟨v, hv, h1, h2⟩ := ih (j := j + 1) (k := k) h
      refine ⟨v, hv, ?_, fun b o z => ?_⟩
      · rw [show j + (k + 1) = j + 1 + k by omega]
        cases x with
        | fr _ => exact h1
        | hid _ => exact h1
        | ow _ _ => exact h1
      · obtain ⟨i, q1, q2⟩ := h2 b o z
        exact ⟨i, by rw [List.any_cons, q1, Bool.or_true], q2⟩
  | @b i b o l B as vs xs e1 e2 e3 eA e4 e5 A ih =>
    intro j k x h
    cases k with
    | zero =>
      cases h
      refine ⟨.ref l, rfl, ⟨l, B, rfl, if_pos rfl, fun a ha hl => ?_, e4⟩, fun c o' z => ?_⟩
      · show (if a = l then some (j, Tg.r) else if ω a = some (i, tgP (lentS s i)) then some (j, .p) else omC ω s as vs (j + 1) a) = _
        rw [if_neg hl, if_pos (by rw [lentS_is e1]; exact eA a ha hl)]
        rfl
      · cases z
        exact ⟨i, by simp [Ar.isB], l, B, b, rfl, e1, e3, eA, e4⟩
    | succ k =>
      obtain ⟨v, hv, h1, h2⟩ := ih (j := j + 1) (k := k) h
      refine ⟨v, hv, ?_, fun c o' z => ?_⟩
      · rw [show j + (k + 1) = j + 1 + k by omega]
        cases x with
        | fr _ => exact h1
        | hid _ => exact h1
        | ow c o' =>
          obtain ⟨l', B', rfl, q1, q2, q3⟩ := h1
          have keep : ∀ a p, omC ω s as vs (j + 1) a = some p → omC ω s (.b i :: as) (.ref l :: vs) j a = some p := fun a p hp => by
            obtain ⟨i', c', z1, z2⟩ := omC_mem A hp
            have hne : a ≠ l := fun z => by
              rw [z, e3] at z1
              cases z1
              rw [e5] at z2
              cases z2
            have hnp : ω a ≠ some (i, tgP (lentS s i)) := fun z => by
              rw [z] at z1
              cases z1
              rw [e5] at z2
              cases z2
            show (if a = l then some (j, Tg.r) else if ω a = some (i, tgP (lentS s i)) then some (j, .p) else omC ω s as vs (j + 1) a) = _
            rw [if_neg hne, if_neg hnp]
            exact hp
          exact ⟨l', B', rfl, keep _ _ q1, fun a ha hl => keep _ _ (q2 a ha hl), q3⟩
      · obtain ⟨i', q1, q2⟩ := h2 c o' z
        exact ⟨i', by rw [List.any_cons, q1, Bool.or_true], q2⟩
theorem arOk_len {as : List Ar} {vs : List V} {xs : List S} (A : ArOk K F H ω s σ as vs xs) : xs.length = vs.length ∧ lent xs := by
  induction A with
  | nil => exact ⟨rfl, trivial⟩
  | v _ _ ih => exact ⟨congrArg (· + 1) ih.1, ih.2⟩
  | b _ _ _ _ _ _ _ ih => exact ⟨congrArg (· + 1) ih.1, rfl, ih.2⟩
theorem arOk_lenA {as : List Ar} {vs : List V} {xs : List S} (A : ArOk K F H ω s σ as vs xs) : as.length = xs.length := by
  induction A with
  | nil => rfl
  | v _ _ ih => exact congrArg (· + 1) ih
  | b _ _ _ _ _ _ _ ih => exact congrArg (· + 1) ih
/-- the callee's state -/
theorem staC {as : List Ar} {vs : List V} {xs : List S} (T : Sta0 K F H ω s σ) (A : ArOk K F H ω s σ as vs xs) : Sta0 K F H (omC ω s as vs 0) (xs.map some) (vs.map some) := by
  refine ⟨T.tb.go (Same.refl F) (fun _ _ _ _ h => h) (fun b o _ h _ => omC_none A h) (fun _ _ _ _ _ h => h), T.sf, fun b p h => ?_, fun i x h => ?_, by rw [List.length_map, List.length_map, (arOk_len A).1], fun b j c h => ?_⟩
  · obtain ⟨i, c, h1, _⟩ := omC_mem A h
    exact T.ow b _ h1
  · rw [List.getElem?_map] at h
    cases e : xs[i]? with
    | none => rw [e] at h; cases h
    | some y =>
      rw [e] at h
      cases h
      obtain ⟨v, hv, h1, _⟩ := omC_at A (j := 0) e
      refine ⟨v, by rw [List.getElem?_map, hv]; rfl, ?_⟩
      rw [Nat.zero_add] at h1
      exact h1
  · obtain ⟨i, b1, o, z1, _⟩ := omC_in A h
    rw [Nat.sub_zero] at z1
    have := (List.getElem?_eq_some_iff.mp z1).1
    rw [List.length_map, ← arOk_lenA A]
    exact this
/-- the slots behind the call -/
theorem putA_at {F' H' : Hp} {ω' : Om} {as : List Ar} {vs : List V} {xs : List S} (A : ArOk K F H ω s σ as vs xs) : ∀ {n : Nat} {os : List O}, BosR K F' H' ω' n xs vs os →
    (putA as os s).length = s.length ∧ (∀ k, as.any (Ar.isB k) = false → (putA as os s)[k]? = s[k]?) ∧
    ∀ k x, as.any (Ar.isB k) = true → (putA as os s)[k]? = some (some x) → ∃ j v b o o0, x = .ow b o ∧ σ[k]? = some (some v) ∧ s[k]? = some (some (.ow b o0)) ∧ as[j]? = some (.b k) ∧ OwnAt K F' H' ω' (n + j) (.ow true o) v := by
  induction A with
  | nil => intro n os _; exact ⟨rfl, fun _ _ => rfl, fun _ _ h => by cases h⟩
  | v r A ih =>
    intro n os B
    obtain ⟨v, ws, e, B⟩ := B
    cases e
    obtain ⟨h0, h1, h2⟩ := ih B
    refine ⟨h0, fun k hk => h1 k (by simpa [Ar.isB] using hk), fun k x hk hx => ?_⟩
    obtain ⟨j, v, b, o, o0, q1, q2, q3, q4, q5⟩ := h2 k x (by simpa [Ar.isB] using hk) hx
    exact ⟨j + 1, v, b, o, o0, q1, q2, q3, q4, by rw [show n + (j + 1) = n + 1 + j by omega]; exact q5⟩
  | @b i b o l B0 as vs xs e1 e2 e3 eA e4 e5 A ih =>
    intro n os B
    obtain ⟨v', ws, o', os', e, rfl, ho, B⟩ := B
    cases e
    obtain ⟨h0, h1, h2⟩ := ih B
    have hi : (putA as os' s)[i]? = some (some (.ow b o)) := by rw [h1 i e5]; exact e1
    have hp : putA (.b i :: as) (o' :: os') s = (putA as os' s).set i (some (.ow b o')) := by
      show setO i o' (putA as os' s) = _
      unfold setO
      rw [hi]
    rw [hp]
    refine ⟨by rw [List.length_set]; exact h0, fun k hk => ?_, fun k x hk hx => ?_⟩
    · have hk' : (k == i) = false ∧ as.any (Ar.isB k) = false := by
        rw [List.any_cons, Bool.or_eq_false_iff] at hk
        exact hk
      have hne : i ≠ k := fun z => by rw [z] at hk'; simp at hk'
      rw [List.getElem?_set_ne hne]
      exact h1 k hk'.2
    · by_cases hik : i = k
      · subst hik
        rw [List.getElem?_set] at hx
        rw [if_pos rfl] at hx
        split at hx
        · cases hx
          exact ⟨0, _, b, o', o, rfl, e2, e1, rfl, ho⟩
        · cases hx
      · rw [List.getElem?_set_ne hik] at hx
        have hk' : as.any (Ar.isB k) = true := by
          rw [List.any_cons, Bool.or_eq_true] at hk
          rcases hk with hk | hk
          · exact absurd (beq_iff_eq.mp hk).symm hik
          · exact hk
        obtain ⟨j, v, b, o, o0, q1, q2, q3, q4, q5⟩ := h2 k x hk' hx
        exact ⟨j + 1, v, b, o, o0, q1, q2, q3, q4, by rw [show n + (j + 1) = n + 1 + j by omega]; exact q5⟩
end
theorem arOk_ix {F H : Hp} {ω : Om} {s : Sl} {σ : L2.St} {as : List Ar} {vs : List V} {xs : List S} (A : ArOk K F H ω s σ as vs xs) : ∀ i, Ar.b i ∈ as → i < s.length := by
  induction A with
  | nil => intro i h; simp at h
  | v _ _ ih => intro i h; exact ih i (by simpa using h)
  | b e1 _ _ _ _ _ _ ih =>
    intro i h
    rcases List.mem_cons.mp h with z | z
    · cases z
      exact (List.getElem?_eq_some_iff.mp e1).1
    · exact ih i z
/-- what a lent address is to the caller -/
def backT (as : List Ar) (s : Sl) (j : Nat) (t : Tg) : Option (Nat × Tg) := match t, as[j]? with
  | .o, _ => none
  | .r, some (.b i) => some (i, tgR (lentS s i))
  | .p, some (.b i) => some (i, tgP (lentS s i))
  | _, _ => none
/-- who owns what behind the call -/
def omB (ω ωc ω' : Om) (as : List Ar) (s : Sl) : Om := fun a => match ω' a with
  | some (j, t) => backT as s j t
  | none => match ωc a with
    | none => ω a
    | some _ => none
theorem omB_keep {ω ωc ω' : Om} {as : List Ar} {s : Sl} {a : Addr} (h1 : ω' a = none) (h2 : ωc a = none) : omB ω ωc ω' as s a = ω a := by
  unfold omB
  rw [h1, h2]
theorem omB_gone {ω ωc ω' : Om} {as : List Ar} {s : Sl} {a : Addr} {p : Nat × Tg} (h1 : ω' a = none) (h2 : ωc a = some p) : omB ω ωc ω' as s a = none := by
  unfold omB
  rw [h1, h2]
theorem omB_some {ω ωc ω' : Om} {as : List Ar} {s : Sl} {a : Addr} {j : Nat} {t : Tg} (h1 : ω' a = some (j, t)) : omB ω ωc ω' as s a = backT as s j t := by
  unfold omB
  rw [h1]
theorem backT_some {as : List Ar} {s : Sl} {j : Nat} {t : Tg} {q : Nat × Tg} (h : backT as s j t = some q) : ∃ i, as[j]? = some (.b i) ∧ ((t = .r ∧ q = (i, tgR (lentS s i))) ∨ (t = .p ∧ q = (i, tgP (lentS s i)))) := by
  unfold backT at h
  split at h
  · cases h
  · rename_i i e
    exact ⟨i, e, .inl ⟨rfl, (Option.some.inj h).symm⟩⟩
  · rename_i i e
    exact ⟨i, e, .inr ⟨rfl, (Option.some.inj h).symm⟩⟩
  · cases h
theorem tgP_p {b : Bool} (h : tgP b = .p) : b = true := by cases b <;> first | rfl | cases h
theorem tgR_r {b : Bool} (h : tgR b = .r) : b = true := by cases b <;> first | rfl | cases h
theorem tgP_r {b : Bool} (h : tgP b = .r) : False := by cases b <;> cases h
theorem tgR_p {b : Bool} (h : tgR b = .p) : False := by cases b <;> cases h
/-- what is a slot's was its own before, or is new -/
def Inh (ω : Om) (H : Hp) (ω' : Om) : Prop := ∀ a k c, ω' a = some (k, c) → (∃ c', ω a = some (k, c')) ∨ H a = none
/-- behind a call -/
theorem call_back {F H F' H' : Hp} {ω ω' : Om} {s : Sl} {σ : L2.St} {as : List Ar} {vs : List V} {xs : List S} {os : List O} (T : Sta0 K F H ω s σ) (A : ArOk K F H ω s σ as vs xs) (dn : Dn F H (omC ω s as vs 0) F' H' ω') (B : BosR K F' H' ω' 0 xs vs os) :
    Stp F H ω F' H' (omB ω (omC ω s as vs 0) ω' as s) ∧ Sta0 K F' H' (omB ω (omC ω s as vs 0) ω' as s) (putA as os s) σ ∧ (∀ a, H a = none → ω' a = none → omB ω (omC ω s as vs 0) ω' as s a = none) ∧ Inh ω H (omB ω (omC ω s as vs 0) ω' as s) := by
  have p' := dn.st
  obtain ⟨h0, h1, h2⟩ := putA_at A B
  have hfree : ∀ a, H a = none → ω a = none := fun a => Sta.free T
  have hix : ∀ b k c, omB ω (omC ω s as vs 0) ω' as s b = some (k, c) → k < s.length := fun b k c q => by
    cases e : ω' b with
    | none =>
      cases ec : omC ω s as vs 0 b with
      | none => rw [omB_keep e ec] at q; exact T.ix b k c q
      | some w => rw [omB_gone e ec] at q; cases q
    | some w =>
      obtain ⟨j, t⟩ := w
      rw [omB_some e] at q
      obtain ⟨i', e1, e2⟩ := backT_some q
      have hi : i' < s.length := arOk_ix A i' (List.mem_of_getElem? e1)
      rcases e2 with ⟨rfl, e2⟩ | ⟨rfl, e2⟩
      · cases e2; exact hi
      · cases e2; exact hi
  have hF' : ∀ b p, ω b = some p → omC ω s as vs 0 b = none → F' b = none ∧ H' b = H b := fun b p hb hc => by
    obtain ⟨q1, u, q2⟩ := T.ow b p hb
    exact ⟨p'.fn b u hc q2 q1, by rw [q2]; exact p'.fr b u (T.tb.own hb) hc q2⟩
  have htb : AllT F' H' (omB ω (omC ω s as vs 0) ω' as s) := p'.tb.go (Same.refl F') (fun _ _ _ _ h => h) (fun b o ht h1 _ => by
    obtain ⟨q, hq⟩ := ht
    have h2 := (T.tb _ hq).2.1
    rw [omB_keep h1 (omC_none A h2)]
    exact h2) fun _ _ _ _ _ h => h
  refine ⟨⟨T.tb, htb, fun b o q1 q2 => p'.th b o (omC_none A q1) q2, p'.sf, fun b o ht q1 q2 => p'.fr b o ht (omC_none A q1) q2, fun b o q1 q2 => ?_, fun b o q1 q2 q3 => p'.fn b o (omC_none A q1) q2 q3, p'.tr, fun b i => ⟨fun q => ?_, fun q => ?_⟩, fun b i o q0 q => ?_, fun b i q => ?_⟩,
    ⟨htb, dn.sf, fun b q hb => ?_, fun k y hy => ?_, by rw [h0]; exact T.len, fun b k c q => by rw [h0]; exact hix b k c q⟩, fun a q1 q2 => ?_, fun b k c q => ?_⟩
  · have hc := omC_none A (j := 0) q1
    rw [omB_keep (p'.om b o hc q2) hc]
    exact q1
  · cases e : ω' b with
    | none =>
      cases ec : omC ω s as vs 0 b with
      | none => rw [omB_keep e ec] at q; exact q
      | some w => rw [omB_gone e ec] at q; cases q
    | some w =>
      obtain ⟨j, t⟩ := w
      rw [omB_some e] at q
      obtain ⟨i', e1, e2⟩ := backT_some q
      rcases e2 with ⟨rfl, e2⟩ | ⟨rfl, e2⟩
      · have hc := (p'.bk b j).mp e
        obtain ⟨i2, b2, o2, z1, _, z3, _, z5⟩ := omC_in A hc
        rw [Nat.sub_zero, e1] at z1
        cases z1
        rcases z5 with ⟨_, z5, _⟩ | ⟨z5, _⟩
        · rw [lentS_is z3] at e2
          rw [z5]
          exact congrArg some e2.symm
        · cases z5
      · injection e2 with _ e2
        exact (tgP_r e2.symm).elim
  · cases ec : omC ω s as vs 0 b with
    | none =>
      cases hb : H b with
      | none => rw [hfree b hb] at q; cases q
      | some o => rw [omB_keep (p'.om b o ec hb) ec]; exact q
    | some w =>
      obtain ⟨j, t⟩ := w
      obtain ⟨i2, b2, o2, z1, _, z3, _, z5⟩ := omC_in A ec
      rw [Nat.sub_zero] at z1
      rcases z5 with ⟨rfl, z5, _⟩ | ⟨rfl, z5⟩
      · have e' := (p'.bk b j).mpr ec
        rw [omB_some e']
        unfold backT
        rw [z1]
        show some (i2, tgR (lentS s i2)) = _
        rw [lentS_is z3, ← z5]
        exact q
      · rw [q] at z5
        injection z5 with z5
        injection z5 with _ z5
        exact (tgP_r z5.symm).elim
  · cases ec : omC ω s as vs 0 b with
    | none => rw [omB_keep (p'.om b o ec q0) ec]; exact .inl q
    | some w =>
      obtain ⟨j, t⟩ := w
      obtain ⟨i2, b2, o2, z1, _, z3, _, z5⟩ := omC_in A ec
      rw [Nat.sub_zero] at z1
      rcases z5 with ⟨rfl, z5, _⟩ | ⟨rfl, z5⟩
      · rw [q] at z5
        injection z5 with z5
        injection z5 with _ z5
        exact (tgR_p z5.symm).elim
      · rcases p'.bp b j o q0 ec with e' | e'
        · left
          rw [omB_some e']
          unfold backT
          rw [z1]
          show some (i2, tgP (lentS s i2)) = _
          rw [lentS_is z3, ← z5]
          exact q
        · exact .inr (omB_gone e' ec)
  · cases e : ω' b with
    | none =>
      cases ec : omC ω s as vs 0 b with
      | none => rw [omB_keep e ec] at q; exact .inl q
      | some w => rw [omB_gone e ec] at q; cases q
    | some w =>
      obtain ⟨j, t⟩ := w
      rw [omB_some e] at q
      obtain ⟨i', e1, e2⟩ := backT_some q
      rcases e2 with ⟨rfl, e2⟩ | ⟨rfl, e2⟩
      · injection e2 with _ e2
        exact (tgR_p e2.symm).elim
      · rcases p'.kb b j e with hc | hc
        · obtain ⟨i2, b2, o2, z1, _, z3, _, z5⟩ := omC_in A hc
          rw [Nat.sub_zero, e1] at z1
          cases z1
          rcases z5 with ⟨z5, _⟩ | ⟨_, z5⟩
          · cases z5
          · rw [lentS_is z3] at e2
            rw [z5]
            exact .inl (congrArg some e2.symm)
        · exact .inr hc
  · cases e : ω' b with
    | none =>
      cases ec : omC ω s as vs 0 b with
      | none =>
        rw [omB_keep e ec] at hb
        obtain ⟨z1, z2⟩ := hF' b q hb ec
        obtain ⟨_, u, z3⟩ := T.ow b q hb
        exact ⟨z1, u, by rw [z2]; exact z3⟩
      | some w => rw [omB_gone e ec] at hb; cases hb
    | some w => exact dn.ow b w e
  · cases hb : as.any (Ar.isB k) with
    | true =>
      obtain ⟨j, v, b, o, o0, rfl, q1, q2, q3, l, B', rfl, q4, q5, q6⟩ := h2 k y hb hy
      rw [Nat.zero_add] at q4 q5
      refine ⟨_, q1, l, B', rfl, ?_, fun a ha hl => ?_, q6⟩
      · rw [omB_some (show ω' l = some (j, .r) from q4)]
        unfold backT
        rw [q3]
        show some (k, tgR (lentS s k)) = _
        rw [lentS_is q2]
      · rw [omB_some (show ω' a = some (j, .p) from q5 a ha hl)]
        unfold backT
        rw [q3]
        show some (k, tgP (lentS s k)) = _
        rw [lentS_is q2]
    | false =>
      rw [h1 k hb] at hy
      obtain ⟨v, hv, r⟩ := T.at' k y hy
      refine ⟨v, hv, ?_⟩
      have hc : ∀ a c, ω a = some (k, c) → omC ω s as vs 0 a = none := fun a c ha => omC_off A ha hb
      have r2 : OwnAt K F' H' ω k y v := by
        cases y with
        | fr d => exact Rp.mono p'.sf r
        | hid u => exact r
        | ow b o =>
          obtain ⟨l, B', rfl, q1, q2, q3⟩ := r
          refine ⟨l, B', rfl, q1, q2, (q3.mono p'.sf).heap fun a ha u hu => p'.fr a u ?_ ?_ hu⟩
          · by_cases he : a = l
            · rw [he]; exact T.tb.own q1
            · exact T.tb.own (q2 a ha he)
          by_cases he : a = l
          · rw [he]; exact hc l _ q1
          · exact hc a _ (q2 a ha he)
      refine r2.om fun a c ha => ?_
      obtain ⟨_, u, hu⟩ := T.ow a _ ha
      rw [omB_keep (p'.om a u (hc a c ha) hu) (hc a c ha)]
      exact ha
  · rw [omB_keep q2 (omC_none A (hfree a q1))]
    exact hfree a q1
  · cases e : ω' b with
    | none =>
      cases ec : omC ω s as vs 0 b with
      | none => rw [omB_keep e ec] at q; exact .inl ⟨c, q⟩
      | some w => rw [omB_gone e ec] at q; cases q
    | some w =>
      obtain ⟨j, t⟩ := w
      rw [omB_some e] at q
      obtain ⟨i', e1, e2⟩ := backT_some q
      rcases e2 with ⟨rfl, e2⟩ | ⟨rfl, e2⟩
      · cases e2
        have hc := (p'.bk b j).mp e
        obtain ⟨i2, b2, o2, z1, _, z3, _, z5⟩ := omC_in A hc
        rw [Nat.sub_zero, e1] at z1
        cases z1
        rcases z5 with ⟨_, z5, _⟩ | ⟨_, z5⟩
        · exact .inl ⟨_, z5⟩
        · exact .inl ⟨_, z5⟩
      · cases e2
        rcases p'.kb b j e with hc | hc
        · obtain ⟨i2, b2, o2, z1, _, z3, _, z5⟩ := omC_in A hc
          rw [Nat.sub_zero, e1] at z1
          cases z1
          rcases z5 with ⟨_, z5, _⟩ | ⟨_, z5⟩
          · exact .inl ⟨_, z5⟩
          · exact .inl ⟨_, z5⟩
        · exact .inr hc
theorem lsp_callO {ps : PspX} {F H : Hp} {ω : Om} {s : Sl} {σ : L2.St} {as : List Ar} {vs : List V} {xs : List S} {Q : VK} {E : XK} {q : S → List O → Prop} {e : Xc → List O → Prop} (T : Sta0 K F H ω s σ) (hW : as.any Ar.isW = false) (r : ArR K F σ as vs) (g : getA as s = some xs) (hn : xs.length = ps.n)
    (h : ps.run xs q e)
    (k : ∀ v F' H' ω' x os, Stp F H ω F' H' ω' → Sta0 K F' H' ω' (putA as os s) σ → Inh ω H ω' → Rt K H F' H' ω' x v → q x os → Q v H')
    (kx : ∀ x d F' H' ω' os, Stp F H ω F' H' ω' → Sta0 K F' H' ω' (putA as os s) σ → Inh ω H ω' → XdR K F' x d → e x os → E (.ref x.C) d H') : LspX K ps vs H Q E := by
  have A := arOk T hW r g
  refine ⟨F, omC ω s as vs 0, xs, _, _, staC T A, (arOk_len A).2, fun a b j h1 h2 => ?_, fun b j c h => ?_, hn, h, fun v F' H' ω' x os dn B R hq => ?_, fun x d F' H' ω' os dn B R hq => ?_⟩
  · obtain ⟨i, b1, o, z1, _, z2, _, z3⟩ := omC_in A h1
    obtain ⟨i', b2, o', z1', _, z2', _, z3'⟩ := omC_in A h2
    rcases z3 with ⟨_, _, z3⟩ | ⟨z3, _⟩
    · rcases z3' with ⟨_, _, z3'⟩ | ⟨z3', _⟩
      · rw [z3] at z3'
        cases z3'
        rfl
      · cases z3'
    · cases z3
  · obtain ⟨i, b1, o, z1, _, z2, _, z3⟩ := omC_in A h
    rcases z3 with ⟨rfl, _⟩ | ⟨rfl, _⟩ <;> intro z <;> cases z
  · obtain ⟨p2, T2, hfr, hin⟩ := call_back T A dn B
    refine k v F' H' _ x _ p2 T2 hin ?_ hq
    cases x with
    | fr d => exact R
    | hid u => exact R
    | ow b o =>
      obtain ⟨l, A', e, z0, z1⟩ := R
      exact ⟨l, A', e, fun a ha => ⟨(z0 a ha).1, hfr a (z0 a ha).1 (z0 a ha).2.1, (z0 a ha).2.2⟩, z1⟩
  · obtain ⟨p2, T2, _, hin⟩ := call_back T A dn B
    exact kx x d F' H' _ _ p2 T2 hin R hq
theorem lsp_call {ps : PspX} {F H : Hp} {ω : Om} {s : Sl} {σ : L2.St} {as : List Ar} {vs : List V} {xs : List S} {Q : VK} {E : XK} {q : S → Sl → Prop} {e : Xc → Sl → Prop} (T : Sta0 K F H ω s σ) (hW : as.any Ar.isW = false) (r : ArR K F σ as vs) (g : getA as s = some xs) (hn : xs.length = ps.n)
    (h : ps.run xs (fun x os => q x (putA as os s)) fun x os => e x (putA as os s))
    (k : ∀ v F' H' ω' x s', Stp F H ω F' H' ω' → Sta0 K F' H' ω' s' σ → Rt K H F' H' ω' x v → q x s' → Q v H')
    (kx : ∀ x d F' H' ω' s', Stp F H ω F' H' ω' → Sta0 K F' H' ω' s' σ → XdR K F' x d → e x s' → E (.ref x.C) d H') : LspX K ps vs H Q E :=
  lsp_callO T hW r g hn h (fun v F' H' ω' x os p T _ R hq => k v F' H' ω' x _ p T R hq) fun x d F' H' ω' os p T _ R hq => kx x d F' H' ω' _ p T R hq
mutual
theorem Rp.thaw {F F' : Hp} (h : ∀ b u, F b = some u → F' b = some u ∨ ∃ ws, u = .lst ws) : ∀ {d : D} {v : V}, d.lf = true → Rp K F d v → Rp K F' d v
  | .non, _, _, r => r
  | .bl _, _, _, r => r
  | .int _, _, _, r => r
  | .str _, _, _, r => r
  | .ty _, _, _, r => r
  | .opq _, _, _, r => r
  | .xv _ _ _ _ _, _, e, _ => by cases e
  | .lst _, _, e, _ => by cases e
  | .dic _ _ _, _, e, _ => by cases e
  | .dik _ _, _, e, _ => by cases e
  | .obj _ _ _, _, e, _ => by cases e
  | .scr _, _, e, _ => by cases e
  | .tup ds, _, e, r => by
    obtain ⟨a, vs, rfl, h1, h2⟩ := r
    refine ⟨a, vs, rfl, ?_, RpA.thaw h e h2⟩
    rcases h1 with (h1 | ⟨o, h1⟩) | h1
    · rcases h _ _ h1 with z | ⟨ws, z⟩
      · exact .inl (.inl z)
      · cases z
    · rcases h _ _ h1 with z | ⟨ws, z⟩
      · exact .inl (.inr ⟨o, z⟩)
      · cases z
    · exact .inr h1
theorem RpA.thaw {F F' : Hp} (h : ∀ b u, F b = some u → F' b = some u ∨ ∃ ws, u = .lst ws) : ∀ {ds : List D} {vs : List V}, D.lfs ds = true → RpA K F ds vs → RpA K F' ds vs
  | [], _, _, r => r
  | d :: ds, _, e, r => by
    obtain ⟨v, ws, rfl, r1, r2⟩ := r
    have e' := Bool.and_eq_true_iff.mp (show (d.lf && D.lfs ds) = true from e)
    exact ⟨v, ws, rfl, Rp.thaw h e'.1 r1, RpA.thaw h e'.2 r2⟩
end
/-- the addresses that are shown -/
def Shown (as : List Ar) (σ : L2.St) (b : Addr) : Prop := ∃ i, Ar.w i ∈ as ∧ σ[i]? = some (some (.ref b))
theorem shown_own {F H : Hp} {ω : Om} {s : Sl} {σ : L2.St} (T : Sta K Ξ F H ω s σ) : ∀ {as : List Ar} {xs : List S}, getA as s = some xs → ∀ b, Shown as σ b → ∃ p ws, ω b = some p ∧ H b = some (.lst ws)
  | [], _, _, b, h => by
    obtain ⟨i, hi, _⟩ := h
    simp at hi
  | a :: as, xs, e, b, h => by
    obtain ⟨i, hi, hv⟩ := h
    have rest : ∀ ys, getA as s = some ys → Ar.w i ∈ as → ∃ p ws, ω b = some p ∧ H b = some (.lst ws) := fun ys e1 hm => shown_own T e1 b ⟨i, hm, hv⟩
    cases a with
    | v d =>
      unfold getA at e
      cases e1 : getA as s with
      | none => rw [e1] at e; cases e
      | some ys => exact rest ys e1 (by simpa using hi)
    | b j =>
      unfold getA at e
      split at e
      · split at e
        · cases e
        · cases e1 : getA as s with
          | none => rw [e1] at e; cases e
          | some ys => exact rest ys e1 (by simpa using hi)
      · cases e
    | w j =>
      unfold getA at e
      split at e
      · rename_i c ds e0
        cases e1 : getA as s with
        | none => rw [e1] at e; cases e
        | some ys =>
          rcases List.mem_cons.mp hi with z | z
          · cases z
            obtain ⟨v, hv', l, rfl, hl, ws, q1, q2⟩ := T.lst _ e0
            rw [hv] at hv'
            cases hv'
            exact ⟨_, ws, hl, q1⟩
          · exact rest ys e1 z
      · cases e
theorem view_args {F F1 H : Hp} {ω : Om} {s : Sl} {σ : L2.St} (T : Sta K Ξ F H ω s σ) (hs : Same F F1) : ∀ {as : List Ar} {vs : List V} {xs : List S}, as.any Ar.isL = false → ArR K F σ as vs → getA as s = some xs → (∀ b u, Shown as σ b → H b = some u → F1 b = some u) →
    lent xs ∧ xs.length = vs.length ∧ ∀ (k : Nat) (x : S), xs[k]? = some x → ∃ v, vs[k]? = some v ∧ ∃ d, x = .fr d ∧ Rp K F1 d v
  | [], _, _, _, r, e, _ => by
    cases (show _ = [] from r)
    cases e
    exact ⟨trivial, rfl, fun k x h => by simp at h⟩
  | .v d :: as, _, xs, hL, r, e, hF => by
    obtain ⟨v, ws, rfl, r1, r2⟩ := r
    unfold getA at e
    cases e1 : getA as s with
    | none => rw [e1] at e; cases e
    | some ys =>
      rw [e1] at e
      cases e
      obtain ⟨a1, a2, a3⟩ := view_args T hs (by simpa [Ar.isL] using hL) r2 e1 fun b u q => hF b u (by obtain ⟨i, q1, q2⟩ := q; exact ⟨i, List.mem_cons_of_mem _ q1, q2⟩)
      refine ⟨a1, congrArg (· + 1) a2, fun k x h => ?_⟩
      cases k with
      | zero => cases h; exact ⟨v, rfl, d, rfl, r1.mono hs⟩
      | succ k => exact a3 k x h
  | .b i :: as, _, xs, hL, _, _, _ => by simp [Ar.isL] at hL
  | .w i :: as, _, xs, hL, r, e, hF => by
    obtain ⟨v, ws, rfl, r1, r2⟩ := r
    unfold getA at e
    split at e
    · rename_i c ds e0
      cases e1 : getA as s with
      | none => rw [e1] at e; cases e
      | some ys =>
        rw [e1] at e
        cases e
        obtain ⟨a1, a2, a3⟩ := view_args T hs (by simpa [Ar.isL] using hL) r2 e1 fun b u q => hF b u (by obtain ⟨i, q1, q2⟩ := q; exact ⟨i, List.mem_cons_of_mem _ q1, q2⟩)
        refine ⟨a1, congrArg (· + 1) a2, fun k x h => ?_⟩
        cases k with
        | zero =>
          cases h
          obtain ⟨v', hv', l, rfl, hl, us, q1, q2⟩ := T.lst i e0
          rw [r1] at hv'
          cases hv'
          exact ⟨_, rfl, _, rfl, l, us, rfl, hF l _ ⟨i, List.mem_cons_self, r1⟩ q1, q2.mono hs⟩
        | succ k => exact a3 k x h
    · cases e
/-- a call that is shown own lists: they stay -/
theorem lsp_view {ps : PspX} {F H : Hp} {ω : Om} {s : Sl} {σ : L2.St} {as : List Ar} {vs : List V} {xs : List S} {Q : VK} {E : XK} {q : S → Sl → Prop} (T : Sta K Ξ F H ω s σ) (r : ArR K F σ as vs) (g : getA as s = some xs) (hn : xs.length = ps.n) (hL : as.any Ar.isL = false)
    (h : ps.run xs (fun x _ => lfS x = true ∧ q x s) fun _ _ => False) (k : ∀ v F' H' ω' x s', Stp F H ω F' H' ω' → Sta K Ξ F' H' ω' s' σ → Rt K H F' H' ω' x v → q x s' → Q v H') : LspX K ps vs H Q E := by
  classical
  have hsh := shown_own T g
  have F1s : ∀ b u, (if Shown as σ b then H b else F b) = some u → H b = some u := fun b u e => by
    split at e
    · exact e
    · exact T.sf b u e
  have hFF : Same F (fun b => if Shown as σ b then H b else F b) := fun b u e => by
    show (if Shown as σ b then H b else F b) = some u
    split
    · exact T.sf b u e
    · exact e
  obtain ⟨a1, a2, a3⟩ := view_args (F1 := fun b => if Shown as σ b then H b else F b) T hFF hL r g fun b u q e => by
    show (if Shown as σ b then H b else F b) = some u
    rw [if_pos q]
    exact e
  have T1 : Sta0 K (fun b => if Shown as σ b then H b else F b) H (fun _ => none) (xs.map some) (vs.map some) := by
    refine ⟨T.tb.go hFF (fun _ _ _ _ h => h) (fun _ _ _ _ _ => rfl) (fun b o ht h1 _ h2 => ?_), fun b u e => F1s b u e, fun _ _ h => (by cases h), fun i x h => ?_, by rw [List.length_map, List.length_map, a2], fun _ _ _ h => (by cases h)⟩
    · show (if Shown as σ b then H b else F b) = none
      rw [if_neg fun z => by
        obtain ⟨p, ws, h3, h4⟩ := hsh b z
        rw [h1] at h3
        cases h3]
      exact h2
    rw [List.getElem?_map] at h
    cases e : xs[i]? with
    | none => rw [e] at h; cases h
    | some y =>
      rw [e] at h
      cases h
      obtain ⟨v, hv, d, rfl, rr⟩ := a3 i _ e
      exact ⟨v, by rw [List.getElem?_map, hv]; rfl, rr⟩
  refine ⟨_, _, xs, _, _, T1, a1, fun _ _ _ h => (by cases h), fun _ _ _ h => (by cases h), hn, h, fun v F' H' ω' x os dn _ R hq => ?_, fun _ _ _ _ _ _ _ _ _ z => z.elim⟩
  have p' := dn.st
  obtain ⟨hlf, hq⟩ := hq
  have hF2 : ∀ b, Shown as σ b → F' b = H b := fun b hb => by
    obtain ⟨p, ws, h1, h2⟩ := hsh b hb
    rw [h2]
    exact p'.sf b _ (by show (if Shown as σ b then H b else F b) = _; rw [if_pos hb]; exact h2)
  have hH : ∀ b u, ¬ tadr b → H b = some u → H' b = some u := fun b u ht e => p'.fr b u ht rfl e
  -- the shown lists are taken out of what is frozen
  have hF3 : ∀ b u, (if Shown as σ b then none else F' b) = some u → F' b = some u := fun b u e => by
    split at e
    · cases e
    · exact e
  have sFF : Same F (fun b => if Shown as σ b then none else F' b) := fun b u e => by
    show (if Shown as σ b then none else F' b) = some u
    split
    · rename_i hb
      obtain ⟨p, ws, h1, h2⟩ := hsh b hb
      rw [(T.ow b p h1).1] at e
      cases e
    · exact p'.sf b u (hFF b u e)
  have th : ∀ b u, F' b = some u → (fun b => if Shown as σ b then none else F' b) b = some u ∨ ∃ ws, u = .lst ws := fun b u e => by
    by_cases hb : Shown as σ b
    · obtain ⟨p, ws, h1, h2⟩ := hsh b hb
      rw [hF2 b hb, h2] at e
      exact .inr ⟨ws, (Option.some.inj e).symm⟩
    · exact .inl (by show (if Shown as σ b then none else F' b) = some u; rw [if_neg hb]; exact e)
  have hne : ∀ b, H b = none → ¬ Shown as σ b := fun b hb z => by
    obtain ⟨p, ws, h1, h2⟩ := hsh b z
    rw [hb] at h2
    cases h2
  have htb : AllT (fun b => if Shown as σ b then none else F' b) H' ω := fun p hp => by
    obtain ⟨q1, q2, ps, q3, q4, q5⟩ := p'.tb p hp
    refine ⟨?_, (T.tb p hp).2.1, ps, q3, q4, fun pos cv hc => ?_⟩
    · show (if Shown as σ p.1 then none else F' p.1) = none
      split
      · rfl
      · exact q1
    · obtain ⟨c, e, h6⟩ := q5 pos cv hc
      refine ⟨c, e, ?_⟩
      show (if Shown as σ c then none else F' c) = _
      rw [if_neg fun z => by
        obtain ⟨p, ws, h3, h4⟩ := hsh c z
        rw [hF2 c z, h4] at h6
        cases h6]
      exact h6
  have pp : Stp F H ω (fun b => if Shown as σ b then none else F' b) H' ω := ⟨T.tb, htb, fun b o _ e => p'.th b o rfl e, sFF, fun b o ht _ e => hH b o ht e, fun _ _ z _ => z, fun b o q1 q2 q3 => by
    show (if Shown as σ b then none else F' b) = none
    split
    · rfl
    · rename_i hb
      refine p'.fn b o rfl q2 ?_
      show (if Shown as σ b then H b else F b) = none
      rw [if_neg hb]
      exact q3, p'.tr, fun _ _ => Iff.rfl, fun _ _ _ _ h => .inl h, fun _ _ h => .inl h⟩
  refine k v (fun b => if Shown as σ b then none else F' b) H' ω x s pp ⟨⟨htb, fun b u e => dn.sf b u (hF3 b u e), fun b p hb => ⟨?_, ?_⟩, fun i y hy => ?_, T.len, T.ix⟩, T.ex.step pp⟩ ?_ hq
  · show (if Shown as σ b then none else F' b) = none
    split
    · rfl
    · rename_i hb'
      obtain ⟨q1, u, q2⟩ := T.ow b p hb
      refine p'.fn b u rfl q2 ?_
      show (if Shown as σ b then H b else F b) = none
      rw [if_neg hb']
      exact q1
  · obtain ⟨q1, u, q2⟩ := T.ow b p hb
    exact ⟨u, hH b u (T.tb.own hb) q2⟩
  · obtain ⟨v, hv, r⟩ := T.at' i y hy
    exact ⟨v, hv, r.to sFF fun a u ⟨_, hw⟩ hu => hH a u (T.tb.own hw) hu⟩
  · cases x with
    | fr d => exact Rp.thaw th hlf R
    | hid u => exact R
    | ow b o =>
      obtain ⟨l, A, e, z0, z3⟩ := R
      refine ⟨l, A, e, fun a ha => ⟨(z0 a ha).1, Sta.free T.base (z0 a ha).1, ?_⟩, ?_⟩
      · show (if Shown as σ a then none else F' a) = none
        rw [(z0 a ha).2.2]
        split <;> rfl
      · cases o with
        | lst ds =>
          obtain ⟨eA, ws, y1, y2⟩ := z3
          exact ⟨eA, ws, y1, RpA.thaw th hlf y2⟩
        | dk _ => cases hlf
        | dn _ _ => cases hlf
        | nl _ => cases hlf
        | nt _ => cases hlf
        | ob _ _ _ => cases hlf
/-- what a call leads to: xs the arguments by data -/
def callTo (ps : Psp) (as : List Ar) (q : S → Sl → Prop) (s1 : Sl) : Prop := match getA as s1 with
  | some xs => if xs.length = ps.n then (if as.any Ar.isW = true then (if as.any Ar.isL = true then False else ps.run xs fun x _ => lfS x = true ∧ q x s1) else ps.run xs fun x os => q x (putA as os s1)) else False
  | none => False
theorem callTo_run {ps : Psp} {as : List Ar} {vs : List V} {F H : Hp} {ω : Om} {s : Sl} {σ : L2.St} {Q : VK} {E : XK} {q : S → Sl → Prop} (T : Sta K Ξ F H ω s σ) (r : ArR K F σ as vs) (h : callTo ps as q s)
    (k : ∀ v F' H' ω' x s', Stp F H ω F' H' ω' → Sta K Ξ F' H' ω' s' σ → Rt K H F' H' ω' x v → q x s' → Q v H') : Lsp K ps vs H Q E := by
  unfold callTo at h
  split at h
  · rename_i xs e
    split at h
    rotate_left
    · exact h.elim
    rename_i hn
    split at h
    · split at h
      · exact h.elim
      · rename_i hB
        exact lsp_view T r e hn (by simpa using hB) h k
    · rename_i hW
      exact lsp_call (e := fun _ _ => False) T.base (by simpa using hW) r e hn h (fun v F2 H2 ω2 x s2 p2 T2 r2 hq => k v F2 H2 ω2 x s2 p2 ⟨T2, T.ex.step p2⟩ r2 hq) fun _ _ _ _ _ _ _ _ _ z => z.elim
  · exact h.elim
def pCall (ps : Psp) (pa : PR1) : PX := fun s q => pa s fun as s1 => callTo ps as q s1
instance {ps : Psp} {E : XK} {t : TA} {pa : PR1} [LiftR K Ξ t pa] : LiftE K Ξ (tCall (Lsp K ps) [] E t) (pCall ps pa) := ⟨fun {F H ω s σ Q} q T h k => by
  refine LiftR.run (K := K) (t := t) (p := pa) _ T h fun vs F1 H1 ω1 as s1 p1 T1 r1 h1 => ?_
  rw [List.append_nil]
  exact callTo_run T1 r1 h1 fun v F2 H2 ω2 x s2 p2 T2 r2 hq => k v F2 H2 ω2 x s2 (p1.trans p2) T2 (r2.early p1.tr) hq⟩
/-- a call that may raise -/
def callToX (ps : PspX) (e : Xc → Sl → Prop) (as : List Ar) (q : S → Sl → Prop) (s1 : Sl) : Prop := match getA as s1 with
  | some xs => if xs.length = ps.n then (if as.any Ar.isW = true then False else ps.run xs (fun x os => q x (putA as os s1)) fun x os => e x (putA as os s1)) else False
  | none => False
theorem callToX_run {ps : PspX} {W : WX} {e : Xc → Sl → Prop} {as : List Ar} {vs : List V} {F H : Hp} {ω : Om} {s : Sl} {σ : L2.St} {Q : VK} {q : S → Sl → Prop} (T : Sta K ⟨W, e⟩ F H ω s σ) (r : ArR K F σ as vs) (h : callToX ps e as q s)
    (k : ∀ v F' H' ω' x s', Stp F H ω F' H' ω' → Sta K ⟨W, e⟩ F' H' ω' s' σ → Rt K H F' H' ω' x v → q x s' → Q v H') : LspX K ps vs H Q (fun cls d H' => W cls d σ H') := by
  unfold callToX at h
  split at h
  · rename_i xs ex
    split at h
    rotate_left
    · exact h.elim
    rename_i hn
    split at h
    · exact h.elim
    · rename_i hW
      exact lsp_call (e := e) T.base (by simpa using hW) r ex hn h (fun v F2 H2 ω2 x s2 p2 T2 r2 hq => k v F2 H2 ω2 x s2 p2 ⟨T2, T.ex.step p2⟩ r2 hq) fun x d F2 H2 ω2 s2 p2 T2 r2 he => T.ex p2 T2 r2 he
  · exact h.elim
def pCallX (e : Xc → Sl → Prop) (ps : PspX) (pa : PR1) : PX := fun s q => pa s fun as s1 => callToX ps e as q s1
/-- .. called from a def that lets it out -/
def tCallE (E : XK) (sp : Sp) (t : TA) : TE := tCall sp [] E t
/-- .. called in a try -/
def tCallW (W : WX) (sp : Sp) (t : TA) : TE := fun σ H Q => t σ H fun vs H1 => sp vs H1 Q fun cls d H' => W cls d σ H'
instance {ps : PspX} {W : WX} {e : Xc → Sl → Prop} {t : TA} {pa : PR1} [LiftR K ⟨W, e⟩ t pa] : LiftE K ⟨W, e⟩ (tCallW W (LspX K ps) t) (pCallX e ps pa) := ⟨fun {F H ω s σ Q} q T h k => by
  refine LiftR.run (K := K) (t := t) (p := pa) _ T h fun vs F1 H1 ω1 as s1 p1 T1 r1 h1 => ?_
  exact callToX_run T1 r1 h1 fun v F2 H2 ω2 x s2 p2 T2 r2 hq => k v F2 H2 ω2 x s2 (p1.trans p2) T2 (r2.early p1.tr) hq⟩
instance {ps : PspX} {E : XK} {e : Xc → Sl → Prop} {t : TA} {pa : PR1} [LiftR K ⟨WK E, e⟩ t pa] : LiftE K ⟨WK E, e⟩ (tCallE E (LspX K ps) t) (pCallX e ps pa) := ⟨fun {F H ω s σ Q} q T h k => by
  refine LiftR.run (K := K) (t := t) (p := pa) _ T h fun vs F1 H1 ω1 as s1 p1 T1 r1 h1 => ?_
  rw [List.append_nil]
  exact callToX_run T1 r1 h1 fun v F2 H2 ω2 x s2 p2 T2 r2 hq => k v F2 H2 ω2 x s2 (p1.trans p2) T2 (r2.early p1.tr) hq⟩
/-! a def's body -/
def fin (xs : List S) (q : S → List O → Prop) (x : S) (s : Sl) : Prop := match bors xs s with
  | some os => q x os
  | none => False
def finX (xs : List S) (e : Xc → List O → Prop) (x : Xc) (s : Sl) : Prop := match bors xs s with
  | some os => e x os
  | none => False
theorem bors_at {F H : Hp} {ω ω0 : Om} (h1 : ∀ b j, ω b = some (j, .r) → ω0 b = some (j, .r)) (h2 : ∀ a b j, ω0 a = some (j, .r) → ω0 b = some (j, .r) → a = b) : ∀ {xs : List S} {vs : List V} {s : Sl} {σ : L2.St} {os : List O} {n : Nat}, bors xs s = some os →
    (∀ i x, xs[i]? = some x → ∃ v, vs[i]? = some v ∧ ∀ b o, x = .ow b o → ∃ l, v = .ref l ∧ ω0 l = some (n + i, .r)) → xs.length = vs.length →
    (∀ i x, s[i]? = some (some x) → ∃ v, σ[i]? = some (some v) ∧ OwnAt K F H ω (n + i) x v) → BosR K F H ω n xs vs os
  | [], _, _, _, _, _, e, _, _, _ => by cases e; exact rfl
  | .hid _ :: _, _, _, _, _, _, e, _, _, _ => by cases e
  | .fr d :: xs, [], _, _, _, _, e, _, hl, _ => by simp at hl
  | .fr d :: xs, v :: vs, [], σ, os, n, e, _, _, _ => by cases e
  | .fr d :: xs, v :: vs, y :: s, [], os, n, e, hv, hl, ha => by
    refine ⟨v, vs, rfl, bors_at h1 h2 (n := n + 1) (σ := []) e (fun i x h => ?_) (by simpa using hl) (fun i x h => ?_)⟩
    · obtain ⟨w, q1, q2⟩ := hv (i + 1) x h
      exact ⟨w, q1, fun b o z => by rw [show n + 1 + i = n + (i + 1) by omega]; exact q2 b o z⟩
    · obtain ⟨w, q1, q2⟩ := ha (i + 1) x h
      cases q1
  | .fr d :: xs, v :: vs, y :: s, z :: σ, os, n, e, hv, hl, ha => by
    refine ⟨v, vs, rfl, bors_at h1 h2 (n := n + 1) (σ := σ) e (fun i x h => ?_) (by simpa using hl) (fun i x h => ?_)⟩
    · obtain ⟨w, q1, q2⟩ := hv (i + 1) x h
      exact ⟨w, q1, fun b o z => by rw [show n + 1 + i = n + (i + 1) by omega]; exact q2 b o z⟩
    · obtain ⟨w, q1, q2⟩ := ha (i + 1) x h
      exact ⟨w, q1, by rw [show n + 1 + i = n + (i + 1) by omega]; exact q2⟩
  | .ow c o :: xs, vs, s, σ, os, n, e, hv, hl, ha => by
    cases s with
    | nil => cases e
    | cons y s =>
      cases y with
      | none => cases e
      | some y =>
        cases y with
        | fr _ => cases e
        | hid _ => cases e
        | ow c' o' =>
          cases c' with
          | false => cases e
          | true =>
            have e' : (bors xs s).map (o' :: ·) = some os := e
            cases eb : bors xs s with
            | none => rw [eb] at e'; cases e'
            | some os' =>
              rw [eb] at e'
              cases e'
              obtain ⟨v0, q1, q2⟩ := hv 0 _ rfl
              obtain ⟨l, rfl, q3⟩ := q2 c o rfl
              obtain ⟨v1, q4, l', A, rfl, q5, q6, q7⟩ := ha 0 _ rfl
              have : l' = l := h2 l' l _ (h1 l' _ q5) q3
              subst this
              cases vs with
              | nil => cases q1
              | cons w vs =>
                cases q1
                cases σ with
                | nil => cases q4
                | cons z σ =>
                  refine ⟨_, vs, o', os', rfl, rfl, ⟨l', A, rfl, q5, q6, q7⟩, bors_at h1 h2 (n := n + 1) (σ := σ) eb (fun i x h => ?_) (by simpa using hl) (fun i x h => ?_)⟩
                  · obtain ⟨w, q1, q2⟩ := hv (i + 1) x h
                    exact ⟨w, q1, fun b o z => by rw [show n + 1 + i = n + (i + 1) by omega]; exact q2 b o z⟩
                  · obtain ⟨w, q1, q2⟩ := ha (i + 1) x h
                    exact ⟨w, q1, by rw [show n + 1 + i = n + (i + 1) by omega]; exact q2⟩
theorem lsp_len {ps : PspX} {vs : List V} {H : Hp} {Q : VK} {E : XK} (h : LspX K ps vs H Q E) : vs.length = ps.n := by
  obtain ⟨F, ω, xs, q, e, T, hle, hu, hc, hn, hq, k⟩ := h
  rw [← hn]
  simpa using T.len.symm
/-- the slots at the start: the arguments, the other names unknown -/
def startS (n : Nat) (xs : List S) : Sl := xs.map some ++ List.replicate (n - xs.length) none
/-- where a def's body begins -/
theorem lsp_bodyE {ps : PspX} {N : List Str} {vs : List V} {H : Hp} {Q : VK} {E : XK} {t : TS} (h : LspX K ps vs H Q E) (hN' : ps.n ≤ N.length) : ∃ (F : Hp) (ω : Om) (xs : List S) (q : S → List O → Prop) (e : Xc → List O → Prop), xs.length = ps.n ∧ ps.run xs q e ∧ Sta0 K F H ω (startS N.length xs) (L2.start N vs) ∧ Exo K ⟨WK E, finX xs e⟩ F H ω ∧
    ∀ {Ξ : XI} {p : PS1}, Exo K Ξ F H ω → LiftS K Ξ t p → p { nx := fin xs q (.fr .non), rt := fin xs q } (startS N.length xs) → t { nx := fun _ H' => Q .non H', rt := Q } (L2.start N vs) H := by
  obtain ⟨F, ω, xs, q, e, T, hle, hu, hc, hn, hq, k, kx⟩ := h
  have hlen : xs.length = vs.length := by simpa using T.len
  have hN : vs.length ≤ N.length := by omega
  have T1 : Sta0 K F H ω (startS N.length xs) (L2.start N vs) := by
    refine ⟨T.tb, T.sf, T.ow, fun i x h => ?_, by unfold startS L2.start; simp [hlen], fun b j c h => by have := T.ix b j c h; unfold startS; simp at this ⊢; omega⟩
    unfold startS at h
    unfold L2.start
    by_cases hi : i < xs.length
    · rw [List.getElem?_append_left (by simpa using hi)] at h
      rw [List.getElem?_append_left (by rw [List.length_map]; omega)]
      exact T.at' i x h
    · rw [List.getElem?_append_right (by simpa using Nat.not_lt.mp hi)] at h
      rw [List.getElem?_replicate] at h
      split at h
      · cases h
      · cases h
  have hat : ∀ i x, xs[i]? = some x → ∃ v, vs[i]? = some v ∧ ∀ b o, x = .ow b o → ∃ l, v = .ref l ∧ ω l = some (0 + i, .r) := by
    intro i x h
    obtain ⟨v, hv, r⟩ := T.at' i x (by rw [List.getElem?_map, h]; rfl)
    rw [List.getElem?_map] at hv
    cases e : vs[i]? with
    | none => rw [e] at hv; cases hv
    | some w =>
      rw [e] at hv
      cases hv
      refine ⟨v, rfl, fun b o z => ?_⟩
      subst z
      obtain ⟨l, A, rfl, q1, _⟩ := r
      cases b with
      | true => exact ⟨l, rfl, by rw [Nat.zero_add]; exact q1⟩
      | false => exact absurd rfl (hc l i _ q1)
  have hbos : ∀ {σ' F' H' ω' s' os}, Stp F H ω F' H' ω' → Sta0 K F' H' ω' s' σ' → bors xs s' = some os → Dn F H ω F' H' ω' ∧ BosR K F' H' ω' 0 xs vs os := fun {σ' F' H' ω' s' os} p' T' e =>
    ⟨⟨p', T'.sf, T'.ow⟩, bors_at (ω0 := ω) (fun b j hb => (p'.bk b j).mp hb) hu (n := 0) e hat hlen fun i x h => by rw [Nat.zero_add]; exact T'.at' i x h⟩
  have hend : ∀ {v σ' F' H' ω' x s'}, Stp F H ω F' H' ω' → Sta0 K F' H' ω' s' σ' → Rt K H F' H' ω' x v → fin xs q x s' → Q v H' := by
    intro v σ' F' H' ω' x s' p' T' r h
    unfold fin at h
    split at h
    · rename_i os e
      obtain ⟨d1, d2⟩ := hbos p' T' e
      exact k v F' H' ω' x os d1 d2 r h
    · exact h.elim
  have hexo : Exo K ⟨WK E, finX xs e⟩ F H ω := by
    intro F' H' ω' s' σ' x d p' T' r h
    have h' : finX xs e x s' := h
    unfold finX at h'
    split at h'
    · rename_i os eb
      obtain ⟨d1, d2⟩ := hbos p' T' eb
      exact kx x d F' H' ω' os d1 d2 r h'
    · exact h'.elim
  refine ⟨F, ω, xs, q, e, hn, hq, T1, hexo, fun {Ξ p} ex L h0 => ?_⟩
  exact LiftS.run (K := K) (Ξ := Ξ) (t := t) (p := p) (H0 := H) _ ⟨T1, ex⟩ h0 ⟨fun {σ' F' H' ω' s'} p' T' h => hend p' T'.base (x := .fr .non) rfl h, fun {v σ' F' H' ω' x s'} p' T' r h => hend p' T'.base r h, fun _ _ h => h.elim, fun _ _ h => h.elim, fun _ h => h, fun b j h => (hc b j _ h rfl).elim⟩
theorem lsp_bodyX {ps : PspX} {N : List Str} {vs : List V} {H : Hp} {Q : VK} {E : XK} {t : TS} {p : (Xc → Sl → Prop) → PS1} (h : LspX K ps vs H Q E) [L : ∀ e, LiftS K ⟨WK E, e⟩ t (p e)] (hN' : ps.n ≤ N.length)
    (hp : ∀ xs q e, xs.length = ps.n → ps.run xs q e → p (finX xs e) { nx := fin xs q (.fr .non), rt := fin xs q } (startS N.length xs)) : t { nx := fun _ H' => Q .non H', rt := Q } (L2.start N vs) H := by
  obtain ⟨F, ω, xs, q, e, hn, hq, T, ex, k⟩ := lsp_bodyE (t := t) h hN'
  exact k ex (L (finX xs e)) (hp xs q e hn hq)
theorem lsp_body {ps : Psp} {N : List Str} {vs : List V} {H : Hp} {Q : VK} {E : XK} {t : TS} {p : PS1} (h : Lsp K ps vs H Q E) [L : LiftS K XI.zero t p] (hN' : ps.n ≤ N.length)
    (hp : ∀ xs q, xs.length = ps.n → ps.run xs q → p { nx := fin xs q (.fr .non), rt := fin xs q } (startS N.length xs)) : t { nx := fun _ H' => Q .non H', rt := Q } (L2.start N vs) H := by
  obtain ⟨F, ω, xs, q, e, hn, hq, T, ex, k⟩ := lsp_bodyE (t := t) h hN'
  exact k (Ξ := XI.zero) (fun _ _ _ _ _ _ _ _ _ _ z => z.elim) L (hp xs q hn hq)
end
/-! ### the written part's name in a reading -/
theorem cxK {CX : CXT} {P : Program} {w : World} {K : PySem.W.Frag} {mg : Str → Option Value} {base : Heap} {N : List Str} {qual : Str} {scope : Scope} {f : Addr} {cd : Value} {A : Around} {outer : List Env} {s : Shared} {H : Hp} {E : XK} :
    (cxOf CX P w K mg base N qual scope f cd A outer s H E).K = K := rfl
theorem blkK {X : Cx} {s : Shared} {H : Hp} {scope : Scope} {cenv : Env} {fp : List Addr} : (X.blk s H scope cenv fp).K = X.K := rfl
theorem noxK {X : Cx} : X.nox.K = X.K := rfl
theorem wishK {X : Cx} {E : Value → Shared → Prop} : (X.wish E).K = X.K := rfl
section
variable {K : PySem.W.Frag} {Ξ : XI}
def gGcd : List D → (S → Prop) → Prop := fun ds q => match ds with
  | [.int i, .int j] => q (.fr (.int (Int.gcd i j : Nat)))
  | _ => False
instance : CaL K rGcd gGcd := ⟨fun {F H vs ds Q} q hs r h k => by
  unfold gGcd at h
  split at h
  · obtain ⟨v, w, rfl, h1, h2⟩ := r.two
    cases (show v = _ from h1)
    cases (show w = _ from h2)
    exact ⟨_, _, rfl, k _ F H (.fr (.int _)) (Ext.refl hs) rfl h⟩
  · exact h.elim⟩
def gSortedI : List D → (S → Prop) → Prop := fun ds q => match ds with
  | [.lst xs] => ∃ ns : List Int, xs = ns.map D.int ∧ ∀ ms : List Int, ms.Perm ns → ms.Pairwise (· ≤ ·) → q (.ow false (.lst (ms.map .int)))
  | _ => False
instance : CaL K (rSortedI K) gSortedI := ⟨fun {F H vs ds Q} q hs r h k => by
  unfold gSortedI at h
  split at h
  · obtain ⟨ns, rfl, hq⟩ := h
    obtain ⟨v, rfl, a, ws, rfl, h1, h2⟩ := r.one
    cases RpA.intsV h2
    exact ⟨a, ns, rfl, SqL.of (hs _ _ h1), fun ms p h3 h4 hp => Ext.lst hs RpA.ints (hq ms h3 h4) k hp⟩
  · exact h.elim⟩
/-- the law's promise -/
def psp_law : Psp := ⟨1, fun xs q => ∃ ns : List Int, xs = [.fr (.scr ns)] ∧ ns.length ≤ 63 ∧ q (.fr (.bl true)) []⟩
def sp_lawT (ts : List (Addr × Str)) (K : PySem.W.Frag) : Sp := fun vs H Q _ => (∀ p ∈ ts, H p.1 = some (.tbl #[])) ∧ ∃ (a : Addr) (ns : List Int), vs = [.ref a] ∧ SqL K H a (ns.map V.int) ∧ ns.length ≤ 63 ∧ ∀ H', Q (.bl true) H'
def sp_law (K : PySem.W.Frag) : Sp := sp_lawT Tbs.T K
theorem law_imp : ∀ vs H Q E, sp_law K vs H Q E → Lsp K psp_law vs H Q E := by
  classical
  rintro vs H Q E ⟨hT, a, ns, rfl, h, hl, q⟩
  have ha : ∀ o, H a = some o → (∀ ps, o ≠ .tbl ps) → ¬ tadr a := fun o e hn ⟨q, hq⟩ => by
    have e2 : H a = some (.tbl #[]) := hT _ hq
    rw [e] at e2
    exact hn _ (Option.some.inj e2)
  have hF : Same (fun b => if b = a ∧ ¬ tadr b then H a else none) H := fun b o e => by
    have e' : (if b = a ∧ ¬ tadr b then H a else none) = some o := e
    split at e'
    · rename_i hb
      rw [hb.1]
      exact e'
    · cases e'
  have hS : SqL K (fun b => if b = a ∧ ¬ tadr b then H a else none) a (ns.map V.int) := by
    rcases h with (h | ⟨o, h⟩) | h
    · exact .inl (.inl (by show (if a = a ∧ ¬ tadr a then H a else none) = _; rw [if_pos ⟨rfl, ha _ h fun _ z => by cases z⟩]; exact h))
    · exact .inl (.inr ⟨o, by show (if a = a ∧ ¬ tadr a then H a else none) = _; rw [if_pos ⟨rfl, ha _ h fun _ z => by cases z⟩]; exact h⟩)
    · exact .inr h
  have T : Sta0 K (fun b => if b = a ∧ ¬ tadr b then H a else none) H (fun _ => none) ([S.fr (.scr ns)].map some) ([V.ref a].map some) := by
    refine ⟨fun p hp => ⟨by show (if p.1 = a ∧ ¬ tadr p.1 then H a else none) = none; rw [if_neg fun z => z.2 ⟨p.2, hp⟩], rfl, #[], hT p hp, True.intro, fun pos cv hc => ?_⟩, hF, fun _ _ h => (by cases h), fun i x h => ?_, rfl, fun _ _ _ h => (by cases h)⟩
    · have z : codeAmong pos [] = some cv := hc
      simp [codeAmong] at z
    cases i with
    | zero =>
      cases h
      exact ⟨_, rfl, a, rfl, hS⟩
    | succ i => simp at h
  refine ⟨_, _, [.fr (.scr ns)], fun x _ => x = .fr (.bl true), fun _ _ => False, T, trivial, fun _ _ _ h => (by cases h), fun _ _ _ h => (by cases h), rfl, ⟨ns, rfl, hl, rfl⟩, fun v F' H' ω' x os _ _ r hx => ?_, fun _ _ _ _ _ _ _ _ _ z => z.elim⟩
  subst hx
  cases (show v = _ from r)
  exact q H'
end
/-! ### helpers for answering -/
theorem take_snocD {es : List D} {i : Nat} {e : D} (h : es[i]? = some e) : es.take i ++ [e] = es.take (i + 1) := by
  rw [List.take_add_one, h]
  rfl
/-- a comprehension without tests, element by element; the slots stay -/
theorem pLc_map {pi : PI1} {pg : PG1} {ss : List Nat} {pe : PD} {vs : List Nat} {s : Sl} {q : S → Sl → Prop} (ds es : List D) (s1 S0 : Sl) (h1 : ∀ k : List D → Sl → Prop, k ds s1 → pi s k) (hl : ds.length ≤ 100000) (he : es.length = ds.length) (hs : ∀ i d, ds[i]? = some d → pg d S0 fun s3 => pe s3 fun e s5 => es.take i ++ [e] = es.take (i + 1) ∧ wipeS s5 vs = S0)
    (hq : q (.ow false (.lst es)) S0) (hss : ss.all vs.contains = true := by rfl) (h0 : wipeS s1 vs = S0 := by rfl) : pLc pi pg ss (fun s y _ => y s) pe vs s q := by
  refine h1 _ ?_
  show (if ss.all vs.contains = true then _ else False)
  rw [if_pos hss]
  refine ⟨hl, fun i acc s => acc = es.take i ∧ s = S0, ⟨rfl, h0⟩, ?_, ?_⟩
  · rintro i d acc s2 hd ⟨rfl, rfl⟩
    exact hs i d hd
  · rintro acc s2 ⟨rfl, rfl⟩
    rw [← he, List.take_length]
    exact hq
theorem map_at {α : Type} {f : α → D} {xs : List α} {i : Nat} {d : D} (h : (xs.map f)[i]? = some d) : ∃ x, xs[i]? = some x ∧ d = f x := by
  rw [List.getElem?_map] at h
  cases e : xs[i]? with
  | none => rw [e] at h; cases h
  | some x => rw [e] at h; exact ⟨x, rfl, (Option.some.inj h).symm⟩
theorem at_map {α : Type} {f : α → D} {xs : List α} {i : Nat} {x : α} (h : xs[i]? = some x) : (xs.map f)[i]? = some (f x) := by
  rw [List.getElem?_map, h]
  rfl
theorem lt_of_at {α : Type} {xs : List α} {i : Nat} {x : α} (h : xs[i]? = some x) : i < xs.length := (List.getElem?_eq_some_iff.mp h).1
theorem take_snocM {α β : Type} {f : α → β} {xs : List α} {i : Nat} {x : α} (h : xs[i]? = some x) : (xs.map f).take i ++ [f x] = (xs.map f).take (i + 1) := by
  rw [List.take_add_one, List.getElem?_map, h]
  rfl
theorem D.lst_inj {a b : List D} (h : D.lst a = D.lst b) : a = b := by injection h
theorem map_inj {α : Type} {f : α → D} (hf : ∀ a b, f a = f b → a = b) : ∀ {xs ys : List α}, xs.map f = ys.map f → xs = ys
  | [], [], _ => rfl
  | [], _ :: _, h => by cases h
  | _ :: _, [], h => by cases h
  | x :: xs, y :: ys, h => by
    rw [List.map_cons, List.map_cons, List.cons.injEq] at h
    rw [hf x y h.1, map_inj hf h.2]
theorem int_inj {a b : Int} (h : D.int a = D.int b) : a = b := by injection h
theorem all_pl {α : Type} {f : α → D} {n : Nat} (h : ∀ x, D.plN n (f x) = true) (xs : List α) : D.plN (n + 1) (.lst (xs.map f)) = true := by
  show (xs.map f).all (D.plN n) = true
  rw [List.all_eq_true]
  intro d hd
  obtain ⟨x, _, rfl⟩ := List.mem_map.mp hd
  exact h x
theorem atI_get {ds : List D} {i : Int} {d : D} (h0 : 0 ≤ i) (h : ds[i.toNat]? = some d) : atI ds i = some d := by
  have hl := lt_of_at h
  unfold atI ixN
  rw [if_pos h0, if_pos (by omega)]
  exact h
theorem nf {b : Bool} (h : not b = false) : b = true := by cases b <;> first | rfl | cases h
theorem nt {b : Bool} (h : not b = true) : b = false := by cases b <;> first | rfl | cases h
/-! ### instances: fields, methods, C(..) -/
def inC : List Addr → Addr → Prop
  | [], _ => False
  | [A], C => C = A
  | A :: r, C => C = A ∨ inC r C
theorem inC_mem : ∀ {Cs : List Addr} {C : Addr}, inC Cs C → C ∈ Cs
  | [A], C, h => by rw [show C = A from h]; exact List.mem_cons_self
  | A :: B :: r, C, h => by
    rcases (show C = A ∨ inC (B :: r) C from h) with z | z
    · rw [z]; exact List.mem_cons_self
    · exact List.mem_cons_of_mem _ (inC_mem z)
/-- e.f, the classes told -/
def tFldC (Cs : List Addr) (ta : TE) (f : Str) : TE := fun σ H Q => ta σ H fun x H1 => ∃ a C dx fs v, x = .ref a ∧ H1 a = some (.ins C dx fs) ∧ C ∈ Cs ∧ fs.lookup f = some v ∧ Q v H1
/-- e.f = value -/
def sFldC (Cs : List Addr) (ta tv : TE) (f : Str) : TS := fun D σ H => tv σ H fun y H1 => ta σ H1 fun x H2 => ∃ a C dx fs, x = .ref a ∧ H2 a = some (.ins C dx fs) ∧ C ∈ Cs ∧ fs.length < 1000 ∧ D.nx σ (upd H2 a (.ins C dx (putF f y fs)))
/-- e.f op= value -/
def sFldAugC (Cs : List Addr) (ta tv : TE) (rd : V → V → Hp → VK → Prop) (f : Str) : TS := fun D σ H => ta σ H fun x H1 => ∃ a C dx fs v, x = .ref a ∧ H1 a = some (.ins C dx fs) ∧ C ∈ Cs ∧ fs.lookup f = some v ∧
  tv σ H1 fun y H2 => rd v y H2 fun z H3 => ∃ dx' fs', H3 a = some (.ins C dx' fs') ∧ fs'.length < 1000 ∧ D.nx σ (upd H3 a (.ins C dx' (putF f z fs')))
section
variable {X : Cx} {o e value : Expr} {f : Str} {pos pos' tpos : Pos} {ta tv : TE} {Cs : List Addr}
def CsOk (K : PySem.W.Frag) (f : Str) (Cs : List Addr) : Prop := ∀ C ∈ Cs, Cls K C ∧ NoAttr K C f
theorem csOk1 {K : PySem.W.Frag} {C : Addr} (c : Cls K C) (n : NoAttr K C f) : CsOk K f [C] := fun D h => by
  cases List.mem_singleton.mp h
  exact ⟨c, n⟩
theorem csOk {K : PySem.W.Frag} {C : Addr} {r : List Addr} (c : Cls K C) (n : NoAttr K C f) (h : CsOk K f r) : CsOk K f (C :: r) := fun D hm => by
  rcases List.mem_cons.mp hm with z | z
  · rw [z]; exact ⟨c, n⟩
  · exact h D z
theorem pe_fldC {K : PySem.W.Frag} (hK : X.K = K) (hc : CsOk K f Cs) (he : PE X e ta) (hb : attributeBase e f X.env (eval e X.env) = eval e X.env) : PE X (.Attribute e f pos) (tFldC Cs ta f) := by
  subst hK
  refine ⟨fun pins s σ H Q I h => ?_⟩
  refine attr_of hb (thn (he.run pins s σ H _ I h) fun u s1 ⟨x, H1, I1, rx, a, C, dx, fs, v, ex, ea, c, l, q⟩ => ?_)
  subst ex
  obtain rfl : u = Value.ref a := rx
  exact getattr_ok I1 ea (hc C c).1 (hc C c).2 l fun u' s2 I2 ru => ⟨v, H1, I2, ru, q⟩
theorem ps_fldC {K : PySem.W.Frag} (hK : X.K = K) (hc : CsOk K f Cs) (ha : PE X o ta) (hv : PE X value tv) (hs : swapsWith value (some (.Attribute o f pos')) pos.line X.env = pure false) : PS X (.Assign [.Attribute o f pos'] value pos) (sFldC Cs ta tv f) := by
  subst hK
  refine ⟨fun pins s σ H D I h => ?_⟩
  refine plainObj_wpAny_Assign_Attribute (thn (hv.run pins s σ H _ I h) fun u s1 ⟨y, H1, I1, ry, q⟩ => thn (ha.run pins s1 σ H1 _ I1 q) fun ov s2 ⟨x, H2, I2, rx, a, C, dx, fs, ex, ea, c, l, q2⟩ => ?_) hs
  subst ex
  obtain rfl : ov = Value.ref a := rx
  exact setattr_ok I2 ea (hc C c).1 (hc C c).2 l ry fun s3 I3 => ⟨σ, _, I3, q2⟩
theorem ps_fldaugC {K : PySem.W.Frag} {op : Operator} {rd : V → V → Hp → VK → Prop} (hK : X.K = K) (hc : CsOk K f Cs) (ha : PE X o ta) (hv : PE X value tv) (hop : InOp X op rd) : PS X (.AugAssign (.Attribute o f tpos) op value pos) (sFldAugC Cs ta tv rd f) := by
  subst hK
  refine ⟨fun pins s σ H D I h => ?_⟩
  refine wpAny_AugAssign_AttributeAny (thn (ha.run pins s σ H _ I h) fun ov s1 ⟨x, H1, I1, rx, a, C, dx, fs, v, ex, ea, c, l, q⟩ => ?_)
  subst ex
  obtain rfl : ov = Value.ref a := rx
  have n := (hc C c).2
  have c := (hc C c).1
  refine getattr_ok I1 ea c n l fun u s2 I2 ru => thn (hv.run pins s2 σ H1 _ I2 q) fun w3 s3 ⟨y, H2, I3, ry, q3⟩ => thn (hop pins s3 σ H2 v y u w3 _ I3 ru ry q3) fun w4 s4 ⟨z, H3, I4, rz, dx', fs', ea', l', q4⟩ => ?_
  exact setattr_ok I4 ea' c n l' rz fun s5 I5 => ⟨σ, _, I5, q4⟩
/-- two readings of one expression -/
def tAlt (t u : TE) : TE := fun σ H Q => t σ H Q ∨ u σ H Q
theorem pe_alt {t u : TE} (h : PE X e t) (h' : PE X e u) : PE X e (tAlt t u) := ⟨fun pins s σ H Q I hq => hq.elim (h.run pins s σ H Q I) (h'.run pins s σ H Q I)⟩
/-- an object that may be of one of several classes: a tree of readings of its method -/
def tMethE (E : XK) (C : Addr) (m : Str) (sp : Sp) (ta : TE) (t : TA) : TE := tMeth C m sp [] E ta t
def tMethW (W : WX) (C : Addr) (m : Str) (sp : Sp) (ta : TE) (t : TA) : TE := fun σ H Q => ta σ H fun x H1 => ∃ a dx fs, x = .ref a ∧ H1 a = some (.ins C dx fs) ∧ fs.lookup m = none ∧ t σ H1 fun vs H2 => sp (x :: vs) H2 Q fun cls d H' => W cls d σ H'
def tMakeE (E : XK) (C : Addr) (sp : Sp) (t : TA) : TE := tMake C sp [] E t
def tMakeW (W : WX) (C : Addr) (sp : Sp) (t : TA) : TE := fun σ H Q => t σ H fun vs H1 => ∀ x dx, H1 x = none → H1 dx = none → dx ≠ x → sp (.ref x :: vs) (upd (upd H1 dx (.own x)) x (.ins C dx [])) (fun v H2 => v = .non ∧ Q (.ref x) H2) fun cls d H' => W cls d σ H'
end
/-! fields by name -/
theorem lookN {m : Str} : ∀ {ns : List Str} {vs : List V}, ns.contains m = false → (ns.zip vs).lookup m = none
  | [], vs, _ => by simp
  | n :: ns, [], _ => by simp
  | n :: ns, v :: vs, h => by
    have h' : (m == n || ns.contains m) = false := h
    rw [Bool.or_eq_false_iff] at h'
    rw [List.zip_cons_cons, List.lookup_cons, h'.1]
    exact lookN h'.2
def putNs (f : Str) : List Str → List Str
  | [] => [f]
  | g :: r => if g == f then g :: r else g :: putNs f r
def putCs {α : Type} (f : Str) (x : α) : List Str → List α → List α
  | [], _ => [x]
  | _ :: _, [] => []
  | g :: r, c :: cs => if g == f then x :: cs else c :: putCs f x r cs
theorem putNs_len {α : Type} {f : Str} {x : α} : ∀ {ns : List Str} {cs : List α}, ns.length = cs.length → (putNs f ns).length = (putCs f x ns cs).length
  | [], cs, h => by
    have := List.length_eq_zero_iff.mp h.symm
    subst this
    rfl
  | g :: r, [], h => by simp at h
  | g :: r, c :: cs, h => by
    unfold putNs putCs
    split
    · exact h
    · exact congrArg (· + 1) (putNs_len (Nat.succ.inj h))
theorem put_zip {f : Str} {v : V} : ∀ {ns : List Str} {vs : List V}, ns.length = vs.length → (putNs f ns).zip (putCs f v ns vs) = putF f v (ns.zip vs)
  | [], vs, h => by
    have := List.length_eq_zero_iff.mp h.symm
    subst this
    rfl
  | g :: r, [], h => by simp at h
  | g :: r, c :: cs, h => by
    unfold putNs putCs
    rw [List.zip_cons_cons]
    unfold putF
    by_cases e : g = f
    · subst e
      simp
    · simp [e, put_zip (Nat.succ.inj h)]
section
variable {K : PySem.W.Frag} {Ξ : XI}
theorem RpA.look {F : Hp} {f : Str} : ∀ {ns : List Str} {ds : List D} {vs : List V} {d : D}, RpA K F ds vs → (ns.zip ds).lookup f = some d → ∃ v, (ns.zip vs).lookup f = some v ∧ Rp K F d v
  | [], _, _, _, _, h => by simp at h
  | _ :: _, [], _, _, _, h => by simp at h
  | n :: ns, e :: ds, _, d, r, h => by
    obtain ⟨v, ws, rfl, r1, r2⟩ := r
    rw [List.zip_cons_cons, List.lookup_cons] at h ⊢
    split at h
    · rename_i e1
      have h := Option.some.inj h
      rw [← h]
      exact ⟨v, rfl, r1⟩
    · rename_i e1
      exact RpA.look r2 h
theorem PtsR.look {F H : Hp} {f : Str} : ∀ {ns : List Str} {cs : List S} {vs : List V} {A : List Addr} {d : D}, PtsR K F H cs vs A → (ns.zip cs).lookup f = some (.fr d) → ∃ v, (ns.zip vs).lookup f = some v ∧ Rp K F d v
  | [], _, _, _, _, _, h => by simp at h
  | _ :: _, [], _, _, _, _, h => by simp at h
  | n :: ns, c :: cs, _, _, d, r, h => by
    rw [List.zip_cons_cons, List.lookup_cons] at h
    have rest : ∀ {v : V} {ws : List V} {B : List Addr}, PtsR K F H cs ws B → (match f == n with | true => some c | false => (ns.zip cs).lookup f) = some (.fr d) → (∀ d', c = .fr d' → Rp K F d' v) → ∃ u, (((n :: ns).zip (v :: ws)).lookup f = some u) ∧ Rp K F d u := fun {v ws B} r2 h hc => by
      rw [List.zip_cons_cons, List.lookup_cons]
      split at h
      · rename_i e1
        have h := Option.some.inj h
        rw [e1]
        exact ⟨v, rfl, hc d h⟩
      · rename_i e1
        rw [e1]
        exact PtsR.look r2 h
    cases c with
    | fr e =>
      obtain ⟨v, ws, rfl, r1, r2⟩ := r
      exact rest r2 h fun d' z => by cases z; exact r1
    | hid u =>
      obtain ⟨ws, rfl, r2⟩ := r
      exact rest r2 h fun d' z => by cases z
    | ow b o =>
      obtain ⟨l, ws, A1, A2, rfl, rfl, r0, r1, r2⟩ := r
      exact rest r2 h fun d' z => by cases z
/-- a part, new or changed -/
def PtR (K : PySem.W.Frag) (F H : Hp) : S → V → List Addr → Prop
  | .fr d, v, A => Rp K F d v ∧ A = []
  | .hid u, v, A => v = u ∧ A = []
  | .ow _ o, v, A => ∃ l, v = .ref l ∧ ObjR K F H o l A
theorem ne_in {a l : Addr} {B : List Addr} (h : a ∈ B) (hl : l ∉ B) : a ≠ l := fun z => hl (by rw [← z]; exact h)
theorem PtsR.cons {F H : Hp} {c : S} {cs : List S} {v : V} {vs : List V} {A B : List Addr} (h : PtR K F H c v A) (hd : ∀ a ∈ A, a ∉ B) (r : PtsR K F H cs vs B) : PtsR K F H (c :: cs) (v :: vs) (A ++ B) := by
  cases c with
  | fr d =>
    obtain ⟨h1, rfl⟩ := h
    exact ⟨v, vs, rfl, h1, r⟩
  | hid u =>
    obtain ⟨rfl, rfl⟩ := h
    exact ⟨vs, rfl, r⟩
  | ow b o =>
    obtain ⟨l, rfl, h1⟩ := h
    exact ⟨l, vs, A, B, rfl, rfl, hd, h1, r⟩
theorem PtsR.uncons {F H : Hp} {c : S} {cs : List S} {vs : List V} {A : List Addr} (r : PtsR K F H (c :: cs) vs A) : ∃ v ws A1 A2, vs = v :: ws ∧ A = A1 ++ A2 ∧ (∀ a ∈ A1, a ∉ A2) ∧ PtR K F H c v A1 ∧ PtsR K F H cs ws A2 := by
  cases c with
  | fr d =>
    obtain ⟨v, ws, rfl, h1, h2⟩ := r
    exact ⟨v, ws, [], A, rfl, rfl, fun a h => by simp at h, ⟨h1, rfl⟩, h2⟩
  | hid u =>
    obtain ⟨ws, rfl, h2⟩ := r
    exact ⟨u, ws, [], A, rfl, rfl, fun a h => by simp at h, ⟨rfl, rfl⟩, h2⟩
  | ow b o =>
    obtain ⟨l, ws, A1, A2, rfl, rfl, h1, h2, h3⟩ := r
    exact ⟨_, ws, A1, A2, rfl, rfl, h1, ⟨l, rfl, h2⟩, h3⟩
theorem PtsR.put {F H : Hp} {f : Str} {x : S} {v : V} {A2 : List Addr} (hx : PtR K F H x v A2) : ∀ {ns : List Str} {cs : List S} {vs : List V} {B : List Addr}, ns.length = cs.length → PtsR K F H cs vs B → (∀ a ∈ A2, a ∉ B) →
    ∃ B', PtsR K F H (putCs f x ns cs) (putCs f v ns vs) B' ∧ ∀ a ∈ B', a ∈ B ∨ a ∈ A2
  | [], [], vs, B, _, r, hd => by
    obtain ⟨rfl, rfl⟩ := r
    exact ⟨A2 ++ [], PtsR.cons hx (fun _ _ => by simp) ⟨rfl, rfl⟩, fun a ha => .inr (by simpa using ha)⟩
  | [], c :: cs, _, _, h, _, _ => by simp at h
  | _ :: _, [], _, _, h, _, _ => by simp at h
  | n :: ns, c :: cs, vs, B, h, r, hd => by
    obtain ⟨u, ws, A1, B2, rfl, rfl, h1, h2, h3⟩ := r.uncons
    show ∃ B', PtsR K F H (if n == f then x :: cs else c :: putCs f x ns cs) (if n == f then v :: ws else u :: putCs f v ns ws) B' ∧ _
    by_cases e : (n == f) = true
    · rw [if_pos e, if_pos e]
      exact ⟨A2 ++ B2, PtsR.cons hx (fun a ha z => hd a ha (List.mem_append_right _ z)) h3, fun a ha => (List.mem_append.mp ha).elim .inr fun z => .inl (List.mem_append_right _ z)⟩
    · rw [if_neg e, if_neg e]
      obtain ⟨B', q1, q2⟩ := PtsR.put hx (Nat.succ.inj h) h3 fun a ha z => hd a ha (List.mem_append_right _ z)
      refine ⟨A1 ++ B', PtsR.cons h2 (fun a ha z => ?_) q1, fun a ha => ?_⟩
      · rcases q2 a z with y | y
        · exact h1 a ha y
        · exact hd a y (List.mem_append_left _ ha)
      · rcases List.mem_append.mp ha with y | y
        · exact .inl (List.mem_append_left _ y)
        · exact (q2 a y).imp (fun w => List.mem_append_right _ w) id
theorem PtR.keep {F H H' : Hp} {x : S} {v : V} {A : List Addr} (h : PtR K F H x v A) (e : ∀ a ∈ A, ∀ u, H a = some u → H' a = some u) : PtR K F H' x v A := by
  cases x with
  | fr d => exact h
  | hid u => exact h
  | ow b o =>
    obtain ⟨l, rfl, h1⟩ := h
    exact ⟨l, rfl, h1.heap e⟩
/-- what a result is as a part -/
theorem Rt.part {H0 F H : Hp} {ω : Om} {x : S} {v : V} (r : Rt K H0 F H ω x v) : ∃ A, PtR K F H x v A ∧ ∀ a ∈ A, H0 a = none ∧ ω a = none ∧ F a = none := by
  cases x with
  | fr d => exact ⟨[], ⟨r, rfl⟩, fun a h => by simp at h⟩
  | hid u => exact ⟨[], ⟨r, rfl⟩, fun a h => by simp at h⟩
  | ow b o =>
    obtain ⟨l, A, rfl, h0, h1⟩ := r
    exact ⟨A, ⟨l, rfl, h1⟩, h0⟩
/-! reading a field -/
def gFld (Cs : List Addr) (f : Str) (d : D) (q : D → Prop) : Prop := match d with
  | .obj C ns ds => inC Cs C ∧ match (ns.zip ds).lookup f with
    | some z => q z
    | none => False
  | _ => False
def pFldD (Cs : List Addr) (f : Str) (p : PD) : PX := fun s q => p s fun d s' => gFld Cs f d fun z => q (.fr z) s'
instance {Cs : List Addr} {f : Str} {t : TE} {p : PD} [LiftD K Ξ t p] : LiftE K Ξ (tFldC Cs t f) (pFldD Cs f p) := ⟨fun q T h k => by
  refine LiftD.run (K := K) (t := t) (p := p) _ T h fun x F1 H1 ω1 d s1 p1 T1 r1 h1 => ?_
  unfold gFld at h1
  split at h1
  · rename_i C ns ds
    obtain ⟨hc, h1⟩ := h1
    split at h1
    · rename_i z e
      obtain ⟨a, dx, vs, rfl, h2, h3, h4⟩ := r1
      obtain ⟨v, hv, rv⟩ := h4.look e
      exact ⟨a, C, dx, _, v, rfl, T1.sf _ _ h2, inC_mem hc, hv, k v F1 H1 ω1 (.fr z) s1 p1 T1 rv h1⟩
    · exact h1.elim
  · exact h1.elim⟩
/-- a field of a name's own object, which stays its own -/
def pFldV (Cs : List Addr) (f : Str) (i : Nat) : PX := fun s q => match s[i]? with
  | some (some (.ow _ (.ob C ns cs))) => inC Cs C ∧ match (ns.zip cs).lookup f with
    | some (.fr d) => q (.fr d) s
    | _ => False
  | _ => pFldD Cs f (pDat (pVar i)) s q
instance (priority := high) {Cs : List Addr} {f : Str} {i : Nat} : LiftE K Ξ (tFldC Cs (tVar i) f) (pFldV Cs f i) := ⟨fun {F H ω s σ Q} q T h k => by
  unfold pFldV at h
  split at h
  · rename_i b C ns cs e
    obtain ⟨hc, h⟩ := h
    split at h
    · rename_i d e2
      obtain ⟨v, hv, l, A, rfl, h1, h2, dx, vs, B, rfl, h3, h4, h5, h6⟩ := T.at' i _ e
      obtain ⟨u, hu, r⟩ := h6.look e2
      exact ⟨_, hv, l, C, dx, _, u, rfl, h4, inC_mem hc, hu, k u F H ω (.fr d) s (Stp.refl T.tb) T r h⟩
    · exact h.elim
  · exact LiftE.run (K := K) (t := tFldC Cs (tVar i) f) (p := pFldD Cs f (pDat (pVar i))) q T h k⟩
/-! storing a field -/
def psFld (Cs : List Addr) (f : Str) (i : Nat) (p : PX) : PS1 := fun E s => p s fun x s1 => match s1[i]? with
  | some (some (.ow b (.ob C ns cs))) => inC Cs C ∧ ns.length = cs.length ∧ cs.length < 1000 ∧ E.nx (s1.set i (some (.ow b (.ob C (putNs f ns) (putCs f x ns cs)))))
  | _ => False
/-- a field of a name's own object is set -/
theorem fld_set {F0 H0 F H : Hp} {ω0 ω : Om} {s : Sl} {σ : L2.St} {i : Nat} {b : Bool} {C : Addr} {ns : List Str} {cs : List S} {x : S} {v : V} {f : Str} (p0 : Stp F0 H0 ω0 F H ω) (ex : Exo K Ξ F0 H0 ω0) (T : Sta K Ξ F H ω s σ) (r : Rt K H0 F H ω x v) (e : s[i]? = some (some (.ow b (.ob C ns cs)))) (hl : ns.length = cs.length) :
    ∃ l dx fs, σ[i]? = some (some (.ref l)) ∧ H l = some (.ins C dx fs) ∧ fs.length ≤ cs.length ∧ ∃ ω', Stp F0 H0 ω0 F (upd H l (.ins C dx (putF f v fs))) ω' ∧ Sta K Ξ F (upd H l (.ins C dx (putF f v fs))) ω' (s.set i (some (.ow b (.ob C (putNs f ns) (putCs f x ns cs))))) σ := by
  obtain ⟨v0, hv, l, A, rfl, h1, h2, dx, vs, B, rfl, h3, h4, h5, h6⟩ := T.at' i _ e
  obtain ⟨A2, q1, q2⟩ := r.part
  have hB : ∀ a ∈ B, ω a = some (i, tgP b) := fun a ha => h2 a (List.mem_cons_of_mem _ ha) fun z => h3 (by rw [← z]; exact ha)
  have hd : ∀ a ∈ A2, a ∉ B := fun a ha hb => by
    have z := (q2 a ha).2.1
    rw [hB a hb] at z
    cases z
  have nl : ∀ a ∈ A2, a ≠ l := fun a ha hl => by
    have z := (q2 a ha).2.1
    rw [hl, h1] at z
    cases z
  obtain ⟨B', q3, q4⟩ := PtsR.put (f := f) q1 hl h6 hd
  have hlB : l ∉ B' := fun z => (q4 l z).elim h3 fun y => nl l y rfl
  refine ⟨l, dx, _, hv, h4, by rw [List.length_zip]; have := h6.len; omega, ?_⟩
  have r2 : ObjR K F (upd H l (.ins C dx (putF f v (ns.zip vs)))) (.ob C (putNs f ns) (putCs f x ns cs)) l (l :: B') :=
    ⟨dx, putCs f v ns vs, B', rfl, hlB, by rw [upd_same, put_zip h5], putNs_len h5, q3.heap fun a ha u hu => by rw [upd_ne (ne_in ha hlB)]; exact hu⟩
  obtain ⟨ω', p2, T2⟩ := Sta.chgB (A := l :: B) p0 T.base hv h1 h2 (fun a ha u hu => by rw [upd_ne fun z => ha (by rw [z]; exact List.mem_cons_self)]; exact hu) upd_keep (fun a ha => by
    rcases List.mem_cons.mp ha with z | z
    · exact .inl (by rw [z]; exact List.mem_cons_self)
    · rcases q4 a z with y | y
      · exact .inl (List.mem_cons_of_mem _ y)
      · exact .inr (q2 a y)) List.mem_cons_self r2
  exact ⟨ω', p2, T2, ex.step p2⟩
instance {Cs : List Addr} {f : Str} {i : Nat} {t : TE} {p : PX} [LiftE K Ξ t p] : LiftS K Ξ (sFldC Cs (tVar i) t f) (psFld Cs f i p) := ⟨fun {H0 F H ω s σ D} E T h M => by
  refine LiftE.run (K := K) (t := t) (p := p) _ T h fun v F1 H1 ω1 x s1 p1 T1 r1 h1 => ?_
  split at h1
  · rename_i b C ns cs e
    obtain ⟨hc, hl, hn, h1⟩ := h1
    obtain ⟨l, dx, fs, hv, h2, h3, ω', p2, T2⟩ := fld_set (f := f) p1 T.ex T1 r1 e hl
    exact ⟨_, hv, l, C, dx, fs, rfl, h2, inC_mem hc, by omega, M.nx p2 T2 h1⟩
  · exact h1.elim⟩
/-- self.f op= e, ints -/
def psFldAug (Cs : List Addr) (f : Str) (i : Nat) (g : Int → Int → Int) (p : PD) : PS1 := fun E s => match s[i]? with
  | some (some (.ow _ (.ob C ns cs))) => inC Cs C ∧ match (ns.zip cs).lookup f with
    | some (.fr (.int a)) => p s fun d s1 => match d, s1[i]? with
      | .int c, some (some (.ow b (.ob C' ns' cs'))) => C' = C ∧ ns'.length = cs'.length ∧ cs'.length < 1000 ∧ E.nx (s1.set i (some (.ow b (.ob C' (putNs f ns') (putCs f (.fr (.int (g a c))) ns' cs')))))
      | _, _ => False
    | _ => False
  | _ => False
instance {Cs : List Addr} {f : Str} {i : Nat} {g : Int → Int → Int} {t : TE} {p : PD} [LiftD K Ξ t p] : LiftS K Ξ (sFldAugC Cs (tVar i) t (rI0 fun a c => .int (g a c)) f) (psFldAug Cs f i g p) := ⟨fun {H0 F H ω s σ D} E T h M => by
  unfold psFldAug at h
  split at h
  · rename_i b C ns cs e
    obtain ⟨hc, h⟩ := h
    split at h
    · rename_i a e2
      obtain ⟨v, hv, l, A, rfl, h1, h2, dx, vs, B, rfl, h3, h4, h5, h6⟩ := T.at' i _ e
      obtain ⟨u, hu, r⟩ := h6.look e2
      cases (show u = _ from r)
      refine ⟨_, hv, l, C, dx, _, _, rfl, h4, inC_mem hc, hu, ?_⟩
      refine LiftD.run (K := K) (t := t) (p := p) _ T h fun w F1 H1 ω1 d s1 p1 T1 r1 hh => ?_
      split at hh
      · rename_i c b' C' ns' cs' e1
        obtain ⟨rfl, hl, hn, hh⟩ := hh
        cases (show w = _ from r1)
        refine ⟨a, c, rfl, rfl, ?_⟩
        obtain ⟨l', dx', fs', hv', z2, z3, ω', p2, T2⟩ := fld_set (f := f) (x := .fr (.int (g a c))) (v := .int (g a c)) p1 T.ex T1 rfl e1 hl
        rw [hv] at hv'
        cases hv'
        exact ⟨dx', fs', z2, by omega, M.nx p2 T2 hh⟩
      · exact hh.elim
    · exact h.elim
  · exact h.elim⟩
end
section
variable {K : PySem.W.Frag} {Ξ : XI}
instance {Cs : List Addr} {f : Str} {i : Nat} {t : TE} {p : PD} [LiftD K Ξ t p] : LiftS K Ξ (sFldAugC Cs (tVar i) t rAdd f) (psFldAug Cs f i (· + ·) p) :=
  ⟨fun E T h M => LiftS.run (K := K) (Ξ := Ξ) (t := sFldAugC Cs (tVar i) t (rI0 fun a c => .int (a + c)) f) (p := psFldAug Cs f i (· + ·) p) E T h M⟩
instance {Cs : List Addr} {f : Str} {i : Nat} {t : TE} {p : PD} [LiftD K Ξ t p] : LiftS K Ξ (sFldAugC Cs (tVar i) t rSub f) (psFldAug Cs f i (· - ·) p) :=
  ⟨fun E T h M => LiftS.run (K := K) (Ξ := Ξ) (t := sFldAugC Cs (tVar i) t (rI0 fun a c => .int (a - c)) f) (p := psFldAug Cs f i (· - ·) p) E T h M⟩
/-! ### methods -/
/-- the receiver: a name's own object is lent, or data is shown; what follows -/
def recObj (C : Addr) (m : Str) (d : D) (s : Sl) (q : Ar → Sl → Prop) : Prop := match d with
  | .obj C' ns ds => C' = C ∧ ns.contains m = false ∧ q (.v (.obj C' ns ds)) s
  | _ => False
def recV (C : Addr) (m : Str) (i : Nat) (s : Sl) (q : Ar → Sl → Prop) : Prop := match s[i]? with
  | some (some (.ow _ (.ob C' ns _))) => C' = C ∧ ns.contains m = false ∧ q (.b i) s
  | _ => pDat (pVar i) s fun d s1 => recObj C m d s1 q
def recD (C : Addr) (m : Str) (p : PD) (s : Sl) (q : Ar → Sl → Prop) : Prop := p s fun d s1 => recObj C m d s1 q
theorem ArR.consV {F : Hp} {σ : L2.St} {d : D} {v : V} {as : List Ar} {vs : List V} (h : Rp K F d v) (r : ArR K F σ as vs) : ArR K F σ (.v d :: as) (v :: vs) := ⟨v, vs, rfl, h, r⟩
theorem ArR.consB {F : Hp} {σ : L2.St} {i : Nat} {v : V} {as : List Ar} {vs : List V} (h : σ[i]? = some (some v)) (r : ArR K F σ as vs) : ArR K F σ (.b i :: as) (v :: vs) := ⟨v, vs, rfl, h, r⟩
/-- a receiver's value -/
structure RecR (K : PySem.W.Frag) (F H : Hp) (σ : L2.St) (C : Addr) (m : Str) (a : Ar) (x : V) : Prop where
  ins : ∃ l dx fs, x = .ref l ∧ H l = some (.ins C dx fs) ∧ fs.lookup m = none
  ar : ∀ {F' : Hp} {as : List Ar} {vs : List V}, Same F F' → ArR K F' σ as vs → ArR K F' σ (a :: as) (x :: vs)
class LiftM (K : PySem.W.Frag) (Ξ : XI) (C : Addr) (m : Str) (t : TE) (p : outParam (Sl → (Ar → Sl → Prop) → Prop)) : Prop where
  run : ∀ {F H : Hp} {ω : Om} {s : Sl} {σ : L2.St} {Q : VK} (q : Ar → Sl → Prop), Sta K Ξ F H ω s σ → p s q →
    (∀ v F' H' ω' a s', Stp F H ω F' H' ω' → Sta K Ξ F' H' ω' s' σ → RecR K F' H' σ C m a v → q a s' → Q v H') → t σ H Q
theorem recD_run {F H : Hp} {ω : Om} {s : Sl} {σ : L2.St} {C : Addr} {m : Str} {d : D} {v : V} {q : Ar → Sl → Prop} (T : Sta K Ξ F H ω s σ) (r : Rp K F d v) (h : recObj C m d s q) : ∃ a, RecR K F H σ C m a v ∧ q a s := by
  unfold recObj at h
  split at h
  · obtain ⟨rfl, hm, h⟩ := h
    have r0 := r
    obtain ⟨l, dx, vs, rfl, h1, h2, h3⟩ := r
    exact ⟨_, ⟨⟨l, dx, _, rfl, T.sf _ _ h1, lookN hm⟩, fun e z => ArR.consV (r0.mono e) z⟩, h⟩
  · exact h.elim
instance {C : Addr} {m : Str} {t : TE} {p : PD} [LiftD K Ξ t p] : LiftM K Ξ C m t (recD C m p) := ⟨fun q T h k => by
  refine LiftD.run (K := K) (t := t) (p := p) _ T h fun v F1 H1 ω1 d s1 p1 T1 r1 h1 => ?_
  obtain ⟨a, ra, hq⟩ := recD_run T1 r1 h1
  exact k v F1 H1 ω1 a s1 p1 T1 ra hq⟩
instance (priority := high) {C : Addr} {m : Str} {i : Nat} : LiftM K Ξ C m (tVar i) (recV C m i) := ⟨fun {F H ω s σ Q} q T h k => by
  unfold recV at h
  split at h
  · rename_i b C' ns cs e
    obtain ⟨rfl, hm, h⟩ := h
    obtain ⟨v, hv, l, A, rfl, h1, h2, dx, vs, B, rfl, h3, h4, h5, h6⟩ := T.at' i _ e
    exact ⟨_, hv, k _ F H ω (.b i) s (Stp.refl T.tb) T ⟨⟨l, dx, _, rfl, h4, lookN hm⟩, fun _ z => ArR.consB hv z⟩ h⟩
  · refine LiftD.run (K := K) (t := tVar i) (p := pDat (pVar i)) _ T h fun v F1 H1 ω1 d s1 p1 T1 r1 h1 => ?_
    obtain ⟨a, ra, hq⟩ := recD_run T1 r1 h1
    exact k v F1 H1 ω1 a s1 p1 T1 ra hq⟩
def pMeth (ps : Psp) (pm : Sl → (Ar → Sl → Prop) → Prop) (pa : PR1) : PX := fun s q => pm s fun a s1 => pa s1 fun as s2 => callTo ps (a :: as) q s2
def pMethX (e : Xc → Sl → Prop) (ps : PspX) (pm : Sl → (Ar → Sl → Prop) → Prop) (pa : PR1) : PX := fun s q => pm s fun a s1 => pa s1 fun as s2 => callToX ps e (a :: as) q s2
instance {ps : Psp} {C : Addr} {m : Str} {E : XK} {ta : TE} {t : TA} {pm : Sl → (Ar → Sl → Prop) → Prop} {pa : PR1} [LiftM K Ξ C m ta pm] [LiftR K Ξ t pa] : LiftE K Ξ (tMeth C m (Lsp K ps) [] E ta t) (pMeth ps pm pa) := ⟨fun {F H ω s σ Q} q T h k => by
  refine LiftM.run (K := K) (C := C) (m := m) (t := ta) (p := pm) _ T h fun v F1 H1 ω1 a s1 p1 T1 r1 h1 => ?_
  obtain ⟨l, dx, fs, rfl, e1, e2⟩ := r1.ins
  refine ⟨l, dx, fs, rfl, e1, e2, ?_⟩
  refine LiftR.run (K := K) (t := t) (p := pa) _ T1 h1 fun vs F2 H2 ω2 as s2 p2 T2 r2 h2 => ?_
  rw [List.append_nil]
  exact callTo_run T2 (r1.ar p2.sf r2) h2 fun v F3 H3 ω3 x s3 p3 T3 r3 hq => k v F3 H3 ω3 x s3 ((p1.trans p2).trans p3) T3 (r3.early (p1.trans p2).tr) hq⟩
instance {ps : PspX} {C : Addr} {m : Str} {W : WX} {e : Xc → Sl → Prop} {ta : TE} {t : TA} {pm : Sl → (Ar → Sl → Prop) → Prop} {pa : PR1} [LiftM K ⟨W, e⟩ C m ta pm] [LiftR K ⟨W, e⟩ t pa] : LiftE K ⟨W, e⟩ (tMethW W C m (LspX K ps) ta t) (pMethX e ps pm pa) := ⟨fun {F H ω s σ Q} q T h k => by
  refine LiftM.run (K := K) (C := C) (m := m) (t := ta) (p := pm) _ T h fun v F1 H1 ω1 a s1 p1 T1 r1 h1 => ?_
  obtain ⟨l, dx, fs, rfl, e1, e2⟩ := r1.ins
  refine ⟨l, dx, fs, rfl, e1, e2, ?_⟩
  refine LiftR.run (K := K) (t := t) (p := pa) _ T1 h1 fun vs F2 H2 ω2 as s2 p2 T2 r2 h2 => ?_
  exact callToX_run T2 (r1.ar p2.sf r2) h2 fun v F3 H3 ω3 x s3 p3 T3 r3 hq => k v F3 H3 ω3 x s3 ((p1.trans p2).trans p3) T3 (r3.early (p1.trans p2).tr) hq⟩
instance {ps : PspX} {C : Addr} {m : Str} {E : XK} {e : Xc → Sl → Prop} {ta : TE} {t : TA} {pm : Sl → (Ar → Sl → Prop) → Prop} {pa : PR1} [LiftM K ⟨WK E, e⟩ C m ta pm] [LiftR K ⟨WK E, e⟩ t pa] : LiftE K ⟨WK E, e⟩ (tMethE E C m (LspX K ps) ta t) (pMethX e ps pm pa) := ⟨fun {F H ω s σ Q} q T h k => by
  refine LiftM.run (K := K) (C := C) (m := m) (t := ta) (p := pm) _ T h fun v F1 H1 ω1 a s1 p1 T1 r1 h1 => ?_
  obtain ⟨l, dx, fs, rfl, e1, e2⟩ := r1.ins
  refine ⟨l, dx, fs, rfl, e1, e2, ?_⟩
  refine LiftR.run (K := K) (t := t) (p := pa) _ T1 h1 fun vs F2 H2 ω2 as s2 p2 T2 r2 h2 => ?_
  rw [List.append_nil]
  exact callToX_run T2 (r1.ar p2.sf r2) h2 fun v F3 H3 ω3 x s3 p3 T3 r3 hq => k v F3 H3 ω3 x s3 ((p1.trans p2).trans p3) T3 (r3.early (p1.trans p2).tr) hq⟩
/-- one of two readings -/
def pAlt (p q : PX) : PX := fun s k => p s k ∨ q s k
instance {t u : TE} {p q : PX} [LiftE K Ξ t p] [LiftE K Ξ u q] : LiftE K Ξ (tAlt t u) (pAlt p q) := ⟨fun kk T h k => h.elim
  (fun h => .inl (LiftE.run (K := K) (t := t) (p := p) kk T h k)) (fun h => .inr (LiftE.run (K := K) (t := u) (p := q) kk T h k))⟩
/-! ### C(..) -/
theorem get_snoc {α : Type} {xs : List α} {z : α} {i : Nat} {x : α} (h : xs[i]? = some x) : (xs ++ [z])[i]? = some x := by
  rw [List.getElem?_append_left (List.getElem?_eq_some_iff.mp h).1]
  exact h
theorem getA_snoc {s : Sl} {z : Option S} : ∀ {as : List Ar} {xs : List S}, getA as s = some xs → getA as (s ++ [z]) = some xs ∧ as.any (Ar.isB s.length) = false
  | [], xs, h => ⟨h, rfl⟩
  | .v d :: as, xs, h => by
    unfold getA at h ⊢
    cases e : getA as s with
    | none => rw [e] at h; cases h
    | some ys =>
      rw [e] at h
      obtain ⟨h1, h2⟩ := getA_snoc (z := z) e
      exact ⟨by rw [h1]; exact h, by rw [List.any_cons, h2]; rfl⟩
  | .b i :: as, xs, h => by
    unfold getA at h ⊢
    split at h
    · rename_i b o e0
      rw [get_snoc e0]
      split at h
      · cases h
      · rename_i hn
        cases e : getA as s with
        | none => rw [e] at h; cases h
        | some ys =>
          rw [e] at h
          obtain ⟨h1, h2⟩ := getA_snoc (z := z) e
          refine ⟨by simp only [hn, h1]; exact h, ?_⟩
          have : s.length ≠ i := fun z => by
            rw [← z] at e0
            simp at e0
          rw [List.any_cons, h2]
          simp [Ar.isB, this]
    · cases h
  | .w i :: as, xs, h => by
    unfold getA at h ⊢
    split at h
    · rename_i b ds e0
      rw [get_snoc e0]
      cases e : getA as s with
      | none => rw [e] at h; cases h
      | some ys =>
        rw [e] at h
        obtain ⟨h1, h2⟩ := getA_snoc (z := z) e
        exact ⟨by simp only [h1]; exact h, by rw [List.any_cons, h2]; rfl⟩
    · cases h
theorem putA_len : ∀ (as : List Ar) (os : List O) (s : Sl), (putA as os s).length = s.length
  | [], _, _ => rfl
  | .v _ :: as, os, s => putA_len as os s
  | .w _ :: as, os, s => putA_len as os s
  | .b _ :: _, [], _ => rfl
  | .b i :: as, o :: os, s => by
    show (setO i o (putA as os s)).length = _
    unfold setO
    split
    · rw [List.length_set]; exact putA_len as os s
    · exact putA_len as os s
theorem putA_snoc {z : Option S} : ∀ {as : List Ar} {os : List O} {s : Sl}, as.any (Ar.isB s.length) = false → putA as os (s ++ [z]) = putA as os s ++ [z]
  | [], _, _, _ => rfl
  | .v _ :: as, os, s, h => putA_snoc (as := as) (by simpa [Ar.isB] using h)
  | .w _ :: as, os, s, h => putA_snoc (as := as) (by simpa [Ar.isB] using h)
  | .b _ :: _, [], _, _ => rfl
  | .b i :: as, o :: os, s, h => by
    rw [List.any_cons, Bool.or_eq_false_iff] at h
    have hi : s.length ≠ i := fun z => by
      rw [z] at h
      simp [Ar.isB] at h
    show setO i o (putA as os (s ++ [z])) = setO i o (putA as os s) ++ [z]
    rw [putA_snoc h.2]
    unfold setO
    have hl := putA_len as os s
    by_cases hlt : i < s.length
    · rw [List.getElem?_append_left (by omega)]
      cases (putA as os s)[i]? with
      | none => rfl
      | some w =>
        cases w with
        | none => rfl
        | some w =>
          cases w with
          | ow c o' => exact List.set_append_left _ _ (by omega)
          | fr _ => rfl
          | hid _ => rfl
    · have h1 : (putA as os s)[i]? = none := by rw [List.getElem?_eq_none]; omega
      have h2 : (putA as os s ++ [z])[i]? = none := by rw [List.getElem?_eq_none]; rw [List.length_append]; simp; omega
      rw [h1, h2]
theorem ArR.snoc {F : Hp} {σ : L2.St} {z : Option V} : ∀ {as : List Ar} {vs : List V}, ArR K F σ as vs → ArR K F (σ ++ [z]) as vs
  | [], _, h => h
  | .v _ :: _, _, h => let ⟨v, ws, e1, h1, h2⟩ := h; ⟨v, ws, e1, h1, ArR.snoc h2⟩
  | .b _ :: _, _, h => let ⟨v, ws, e1, h1, h2⟩ := h; ⟨v, ws, e1, get_snoc h1, ArR.snoc h2⟩
  | .w _ :: _, _, h => let ⟨v, ws, e1, h1, h2⟩ := h; ⟨v, ws, e1, get_snoc h1, ArR.snoc h2⟩
/-- a new object in a slot of its own behind the names -/
theorem Sta.snocO {F H H2 : Hp} {ω : Om} {s : Sl} {σ : L2.St} {x : Addr} {o : O} (T : Sta0 K F H ω s σ) (e : Ext F H F H2) (hx : H x = none) (ho : ObjR K F H2 o x [x]) :
    Stp F H ω F H2 (omOn ω [x] (s.length, .o)) ∧ Sta0 K F H2 (omOn ω [x] (s.length, .o)) (s ++ [some (.ow false o)]) (σ ++ [some (.ref x)]) := by
  obtain ⟨p1, T1⟩ := e.stp0 T
  have hω := Sta.free T hx
  have hone : ∀ a ∈ [x], H a = none ∧ ω a = none := fun a ha => by
    cases List.mem_singleton.mp ha
    exact ⟨hx, hω⟩
  have p2 := p1.on (i := s.length) hone
  refine ⟨p2, p2.tb, T1.sf, fun c q hq => ?_, fun j y hy => ?_, by rw [List.length_append, List.length_append, T1.len]; rfl, fun b j c h => ?_⟩
  · by_cases hc : c ∈ [x]
    · cases List.mem_singleton.mp hc
      exact ⟨T.sf.free hx, ho.root.2⟩
    · rw [omOn_out hc] at hq
      exact T1.ow c q hq
  · by_cases hj : j < s.length
    · rw [List.getElem?_append_left hj] at hy
      obtain ⟨v, h4, h5⟩ := T1.at' j y hy
      refine ⟨v, get_snoc h4, h5.om fun b c hb => ?_⟩
      rw [omOn_out fun z => by rw [(hone b z).2] at hb; cases hb]
      exact hb
    · rw [List.getElem?_append_right (Nat.not_lt.mp hj)] at hy
      by_cases hj2 : j - s.length = 0
      · rw [hj2] at hy
        cases hy
        have ej : j = s.length := by omega
        subst ej
        refine ⟨.ref x, by rw [T1.len]; simp, all_own (fun a ha => omOn_in ha) ho⟩
      · obtain ⟨k, hk⟩ := Nat.exists_eq_succ_of_ne_zero hj2
        rw [hk] at hy
        simp at hy
  · rw [List.length_append]
    by_cases hb : b ∈ [x]
    · rw [omOn_in hb] at h
      cases h
      simp
    · rw [omOn_out hb] at h
      have := T1.ix b j c h
      omega
/-- one owner is forgotten -/
def omCut (ω : Om) (n : Nat) : Om := fun a => match ω a with
  | some (j, c) => if j = n then none else some (j, c)
  | none => none
theorem omCut_some {ω : Om} {n : Nat} {a : Addr} {j : Nat} {c : Tg} (h : omCut ω n a = some (j, c)) : ω a = some (j, c) ∧ j ≠ n := by
  unfold omCut at h
  split at h
  · split at h
    · cases h
    · rename_i e hn
      cases h
      exact ⟨e, hn⟩
  · cases h
theorem omCut_ne {ω : Om} {n : Nat} {a : Addr} {j : Nat} {c : Tg} (h : ω a = some (j, c)) (hn : j ≠ n) : omCut ω n a = some (j, c) := by
  unfold omCut
  rw [h]
  exact if_neg hn
theorem omCut_at {ω : Om} {n : Nat} {a : Addr} {c : Tg} (h : ω a = some (n, c)) : omCut ω n a = none := by
  unfold omCut
  rw [h]
  exact if_pos rfl
theorem omCut_none {ω : Om} {n : Nat} {a : Addr} (h : ω a = none) : omCut ω n a = none := by
  unfold omCut
  rw [h]
/-- .. it is taken from there -/
theorem Sta.off {F H F2 H2 : Hp} {ω ω2 : Om} {s2 : Sl} {σ : L2.St} {z : Option S} {y : Option V} {B : Nat} (T : Sta0 K F2 H2 ω2 (s2 ++ [z]) (σ ++ [y])) (hix : ∀ a j c, ω a = some (j, c) → j ≠ B) (hB : s2.length = B := by first | rfl | exact putA_len _ _ _) :
    Sta0 K F2 H2 (omCut ω2 B) s2 σ ∧ (Stp F H ω F2 H2 ω2 → Stp F H ω F2 H2 (omCut ω2 B)) := by
  subst hB
  have hl : s2.length = σ.length := by simpa using T.len
  have htb : AllT F2 H2 (omCut ω2 s2.length) := T.tb.go (Same.refl F2) (fun _ _ _ _ h => h) (fun b o _ h _ => omCut_none h) fun _ _ _ _ _ h => h
  refine ⟨⟨htb, T.sf, fun b p h => T.ow b p (omCut_some (j := p.1) (c := p.2) h).1, fun i x h => ?_, hl, fun b j c h => ?_⟩, fun p => ⟨p.tb0, htb, p.th, p.sf, p.fr, fun b o q1 q2 => omCut_none (p.om b o q1 q2), p.fn, p.tr, fun b j => ⟨fun h => (p.bk b j).mp (omCut_some h).1, fun h => ?_⟩, fun b j o q0 q => ?_, fun b j h => p.kb b j (omCut_some h).1⟩⟩
  · have hi := (List.getElem?_eq_some_iff.mp h).1
    obtain ⟨v, h1, h2⟩ := T.at' i x (get_snoc h)
    refine ⟨v, ?_, h2.om fun b c hb => omCut_ne hb (by omega)⟩
    rw [List.getElem?_append_left (by rw [← hl]; exact hi)] at h1
    exact h1
  · obtain ⟨h1, h2⟩ := omCut_some h
    have := T.ix b j c h1
    rw [List.length_append] at this
    simp at this
    omega
  · have h' := (p.bk b j).mpr h
    exact omCut_ne h' (hix b j _ h)
  · rcases p.bp b j o q0 q with z | z
    · by_cases hj : j = s2.length
      · rw [hj] at z
        exact .inr (omCut_at z)
      · exact .inl (omCut_ne z hj)
    · exact .inr (omCut_none z)
def pMakeTo (C : Addr) (ps : PspX) (e : Xc → Sl → Prop) (as : List Ar) (q : S → Sl → Prop) (s1 : Sl) : Prop := match getA as s1 with
  | some xs => if xs.length + 1 = ps.n then (if as.any Ar.isW = true then False else ps.run (.ow true (.ob C [] []) :: xs) (fun r os => match r, os with
    | .fr .non, o :: os' => q (.ow false o) (putA as os' s1)
    | _, _ => False) fun x os => match os with
    | _ :: os' => e x (putA as os' s1)
    | [] => False) else False
  | none => False
theorem mk_ext {F H : Hp} {x dx C : Addr} (h : Same F H) (hx : H x = none) (hd : H dx = none) (hn : dx ≠ x) : Ext F H F (upd (upd H dx (.own x)) x (.ins C dx [])) :=
  (Ext.ow h hd (.own x)).trans (Ext.ow (h.trans (same_upd hd)) (by rw [upd_ne (Ne.symm hn)]; exact hx) (.ins C dx []))
theorem make_run {C : Addr} {ps : PspX} {e : Xc → Sl → Prop} {E : XK} {as : List Ar} {vs : List V} {F H : Hp} {ω : Om} {s : Sl} {σ : L2.St} {Q : VK} {q : S → Sl → Prop} (T : Sta K Ξ F H ω s σ) (r : ArR K F σ as vs) (h : pMakeTo C ps e as q s)
    (k : ∀ v F' H' ω' x s', Stp F H ω F' H' ω' → Sta K Ξ F' H' ω' s' σ → Rt K H F' H' ω' x v → q x s' → Q v H')
    (kx : ∀ x d F' H' ω' s', Stp F H ω F' H' ω' → Sta0 K F' H' ω' s' σ → XdR K F' x d → e x s' → E (.ref x.C) d H') {x dx : Addr} (hx : H x = none) (hd : H dx = none) (hn : dx ≠ x) :
    LspX K ps (.ref x :: vs) (upd (upd H dx (.own x)) x (.ins C dx [])) (fun v H2 => v = .non ∧ Q (.ref x) H2) E := by
  unfold pMakeTo at h
  split at h
  · rename_i xs eg
    split at h
    rotate_left
    · exact h.elim
    rename_i hl
    split at h
    · exact h.elim
    rename_i hW
    have hob : ObjR K F (upd (upd H dx (.own x)) x (.ins C dx [])) (.ob C [] []) x [x] := ⟨dx, [], [], rfl, by simp, by rw [upd_same]; rfl, rfl, rfl, rfl⟩
    obtain ⟨p1, T1⟩ := Sta.snocO T.base (mk_ext T.sf hx hd hn) hx hob
    obtain ⟨g1, g2⟩ := getA_snoc (z := some (.ow false (.ob C [] []))) eg
    have hg : getA (.b s.length :: as) (s ++ [some (.ow false (.ob C [] []))]) = some (.ow true (.ob C [] []) :: xs) := by
      unfold getA
      rw [show (s ++ [some (S.ow false (.ob C [] []))])[s.length]? = some (some (.ow false (.ob C [] []))) by simp]
      simp only [g2, g1]
      rfl
    have hr : ArR K F (σ ++ [some (.ref x)]) (.b s.length :: as) (.ref x :: vs) := ⟨_, _, rfl, by rw [T.len]; simp, r.snoc⟩
    have hput : ∀ o os', putA (.b s.length :: as) (o :: os') (s ++ [some (.ow false (.ob C [] []))]) = putA as os' s ++ [some (.ow false o)] := fun o os' => by
      show setO s.length o (putA as os' (s ++ [some (.ow false (.ob C [] []))])) = _
      rw [putA_snoc g2]
      unfold setO
      rw [show (putA as os' s ++ [some (S.ow false (.ob C [] []))])[s.length]? = some (some (.ow false (.ob C [] []))) by rw [← putA_len as os' s]; simp]
      show (putA as os' s ++ [some (S.ow false (.ob C [] []))]).set s.length (some (.ow false o)) = _
      rw [List.set_append_right _ _ (by rw [putA_len]; exact Nat.le_refl _)]
      rw [putA_len, Nat.sub_self]
      rfl
    have hω := Sta.free T.base hx
    have new : ∀ {ω' : Om}, Inh (omOn ω [x] (s.length, .o)) (upd (upd H dx (.own x)) x (.ins C dx [])) ω' → ∀ a c, ω' a = some (s.length, c) → H a = none := fun {ω'} hin a c ha => by
      rcases hin a _ _ ha with ⟨c', z⟩ | z
      · by_cases hc : a ∈ [x]
        · cases List.mem_singleton.mp hc
          exact hx
        · rw [omOn_out hc] at z
          exact absurd (T.ix _ _ _ z) (Nat.lt_irrefl _)
      · by_cases h1 : a = x
        · rw [h1]; exact hx
        · rw [upd_ne h1] at z
          by_cases h2 : a = dx
          · rw [h2]; exact hd
          · rw [upd_ne h2] at z
            exact z
    refine lsp_callO (as := .b s.length :: as) T1 (by simpa [Ar.isW] using hW) hr hg hl h (fun v F2 H2 ω2 r os p2 T2 hin R hq => ?_) fun x d F2 H2 ω2 os p2 T2 hin R hq => ?_
    · split at hq
      · rename_i o os'
        cases (show v = _ from R)
        rw [hput] at T2
        refine ⟨rfl, ?_⟩
        obtain ⟨w, hw, hr⟩ := T2.at' s.length (.ow false o) (by rw [List.getElem?_append_right (by rw [putA_len]; exact Nat.le_refl _), putA_len, Nat.sub_self]; rfl)
        rw [T.len, List.getElem?_append_right (Nat.le_refl _), Nat.sub_self] at hw
        cases hw
        obtain ⟨l, A, e1, hA, ho⟩ := own_all hr
        cases e1
        have hnew : ∀ a ∈ A, H a = none := fun a ha => new hin a _ (hA a ha)
        -- its addresses are let go
        obtain ⟨T3, p3⟩ := Sta.off (H := H) (F := F) (ω := ω) (B := s.length) T2 (fun a j c ha => Nat.ne_of_lt (T.ix a j c ha)) (putA_len _ _ _)
        have pp := (p1.trans p2)
        have p4 : Stp F H ω F2 H2 (omCut ω2 s.length) := p3 pp
        refine k _ F2 H2 _ (.ow false o) _ p4 ⟨T3, T.ex.step p4⟩ ⟨x, A, rfl, fun a ha => ⟨hnew a ha, omCut_at (hA a ha), (T2.ow a _ (hA a ha)).1⟩, ho⟩ hq
      · exact hq.elim
    · cases os with
      | nil => exact hq.elim
      | cons o os' =>
        rw [hput] at T2
        obtain ⟨T3, p3⟩ := Sta.off (H := H) (F := F) (ω := ω) (B := s.length) T2 (fun a j c ha => Nat.ne_of_lt (T.ix a j c ha)) (putA_len _ _ _)
        exact kx x d F2 H2 _ _ (p3 (p1.trans p2)) T3 R hq
  · exact h.elim
def pMake (C : Addr) (ps : Psp) (pa : PR1) : PX := fun s q => pa s fun as s1 => pMakeTo C ps.X (fun _ _ => False) as q s1
def pMakeX (e : Xc → Sl → Prop) (C : Addr) (ps : PspX) (pa : PR1) : PX := fun s q => pa s fun as s1 => pMakeTo C ps e as q s1
instance {ps : Psp} {C : Addr} {E : XK} {t : TA} {pa : PR1} [LiftR K Ξ t pa] : LiftE K Ξ (tMake C (Lsp K ps) [] E t) (pMake C ps pa) := ⟨fun {F H ω s σ Q} q T h k => by
  refine LiftR.run (K := K) (t := t) (p := pa) _ T h fun vs F1 H1 ω1 as s1 p1 T1 r1 h1 => ?_
  intro x dx hx hd hn
  rw [List.append_nil]
  exact make_run (e := fun _ _ => False) T1 r1 h1 (fun v F2 H2 ω2 x s2 p2 T2 r2 hq => k v F2 H2 ω2 x s2 (p1.trans p2) T2 (r2.early p1.tr) hq) (fun _ _ _ _ _ _ _ _ _ z => z.elim) hx hd hn⟩
instance {ps : PspX} {C : Addr} {W : WX} {e : Xc → Sl → Prop} {t : TA} {pa : PR1} [LiftR K ⟨W, e⟩ t pa] : LiftE K ⟨W, e⟩ (tMakeW W C (LspX K ps) t) (pMakeX e C ps pa) := ⟨fun {F H ω s σ Q} q T h k => by
  refine LiftR.run (K := K) (t := t) (p := pa) _ T h fun vs F1 H1 ω1 as s1 p1 T1 r1 h1 => ?_
  intro x dx hx hd hn
  exact make_run (e := e) T1 r1 h1 (fun v F2 H2 ω2 x s2 p2 T2 r2 hq => k v F2 H2 ω2 x s2 (p1.trans p2) T2 (r2.early p1.tr) hq) (fun x d F2 H2 ω2 s2 p2 T2 r2 he => T1.ex p2 T2 r2 he) hx hd hn⟩
instance {ps : PspX} {C : Addr} {E : XK} {e : Xc → Sl → Prop} {t : TA} {pa : PR1} [LiftR K ⟨WK E, e⟩ t pa] : LiftE K ⟨WK E, e⟩ (tMakeE E C (LspX K ps) t) (pMakeX e C ps pa) := ⟨fun {F H ω s σ Q} q T h k => by
  refine LiftR.run (K := K) (t := t) (p := pa) _ T h fun vs F1 H1 ω1 as s1 p1 T1 r1 h1 => ?_
  intro x dx hx hd hn
  rw [List.append_nil]
  exact make_run (e := e) T1 r1 h1 (fun v F2 H2 ω2 x s2 p2 T2 r2 hq => k v F2 H2 ω2 x s2 (p1.trans p2) T2 (r2.early p1.tr) hq) (fun x d F2 H2 ω2 s2 p2 T2 r2 he => T1.ex p2 T2 r2 he) hx hd hn⟩
end
/-! ### several except clauses, with and without a name -/
/-- one clause: the class it names, the slot of its name, its suite -/
structure Cl where
  c : Value
  i : Option Nat
  ts : Addr → Value → Option Addr → TS
/-- the ends of a suite whose name goes at the end -/
def endsN (i : Nat) (D : Ends) : Ends := { nx := fun σ H => D.nx (σ.set i none) H, rt := D.rt, bk := fun σ H => D.bk (σ.set i none) H, ct := fun σ H => D.ct (σ.set i none) H }
def Cl.run (k : Cl) (a : Addr) (cls : Value) (d : Option Addr) (D : Ends) (σ : L2.St) (H : Hp) : Prop := match k.i with
  | none => k.ts a cls d D σ H
  | some i => k.ts a cls d (endsN i D) (σ.set i (some (.ref a))) H
/-- what the clauses wish of an exception of the body -/
def wMix (K : PySem.W.Frag) (Wout : WX) (D : Ends) : List Cl → WX
  | [] => Wout
  | k :: r => fun cls d σ H => ∃ b, PySem.W.exmOne K cls k.c = some b ∧ (b = true → ∀ a, H a = none → k.run a cls d D σ H) ∧ (b = false → wMix K Wout D r cls d σ H)
/-- a suite as a term, wherever the exception stands -/
def SuOk (X : Cx) (b₀ : Stmt) (suite : List Stmt) (ts : Addr → Value → Option Addr → TS) : Prop :=
  ∀ (a : Addr) (oe : Obj) (cls : Value) (d : Option Addr) (pn : List (Addr × Obj)), Zc cls d oe → (∃ vs, oe.data = .fields vs) → PSs (X.suite a ((a, oe) :: pn)) (b₀ :: suite) (ts a cls d)
inductive ClsOk (X : Cx) : List ExceptHandler → List Cl → Prop
  | nil : ClsOk X [] []
  | cons {x : Str} {c : Value} {ts : Addr → Value → Option Addr → TS} {b₀ : Stmt} {suite : List Stmt} {np pos' : Pos} {hds : List ExceptHandler} {l : List Cl} (hc : Names X x c) (hsu : SuOk X b₀ suite ts) (r : ClsOk X hds l) :
      ClsOk X (.ExceptHandler (some (.Name x np)) none (b₀ :: suite) pos' :: hds) (⟨c, none, ts⟩ :: l)
  | consN {x n : Str} {i : Nat} {c : Value} {ts : Addr → Value → Option Addr → TS} {b₀ : Stmt} {suite : List Stmt} {np pos' : Pos} {hds : List ExceptHandler} {l : List Cl} (hi : X.N[i]? = some n) (hln : X.env.kindOf n = some .local) (hc : Names X x c) (hsu : SuOk X b₀ suite ts) (r : ClsOk X hds l) :
      ClsOk X (.ExceptHandler (some (.Name x np)) (some n) (b₀ :: suite) pos' :: hds) (⟨c, some i, ts⟩ :: l)
section
variable {X : Cx} {body : List Stmt} {h₀ : ExceptHandler} {hds : List ExceptHandler} {l : List Cl} {pos : Pos} {tb : WX → TS} {Wout : WX} {pins : List (Addr × Obj)}
/-- a suite's end, where the state is brought back by g -/
theorem suite_end {M : Model} {A : Around} {E : Value → Shared → Prop} {f : Flow} {σ0 : L2.St} {D D' : Ends} {s6 : Shared} {a : Addr} {q : Addr × Obj} (ok : X.Ok) (hsp : SP (X.suite a (q :: (X.pn ++ pins))) [] D' f s6)
    (go : ∀ {σ6 : L2.St} {H6 : Hp}, Inv X pins σ6 H6 s6 → (f = .next → D'.nx σ6 H6 → SP X pins D f s6) ∧ (f = .brk → D'.bk σ6 H6 → SP X pins D f s6) ∧ (f = .cont → D'.ct σ6 H6 → SP X pins D f s6)) (rt : D'.rt = D.rt) : SP X pins D f s6 := by
  cases f with
  | next =>
    obtain ⟨σ6, H6, S6, q6⟩ := hsp
    exact (go (S6.unsuite ok)).1 rfl q6
  | brk =>
    obtain ⟨σ6, H6, S6, q6⟩ := hsp
    exact (go (S6.unsuite ok)).2.1 rfl q6
  | cont =>
    obtain ⟨σ6, H6, S6, q6⟩ := hsp
    exact (go (S6.unsuite ok)).2.2 rfl q6
  | ret u =>
    obtain ⟨v6, σ6, H6, S6, r6, q6⟩ := hsp
    exact ⟨v6, σ6, H6, S6.unsuite ok, r6, by rw [← rt]; exact q6⟩
theorem try_end {D : Ends} {f : Flow} {s1 : Shared} {pn : List (Addr × Obj)} {xe : Value → Shared → Prop} (ok : X.Ok) (hsp : SP (X.tr (X.pn ++ pins) xe) [] D f s1) : SP X pins D f s1 := by
  cases f with
  | next => obtain ⟨σ', H', J', q⟩ := hsp; exact ⟨σ', H', J'.ofTry ok, q⟩
  | brk => obtain ⟨σ', H', J', q⟩ := hsp; exact ⟨σ', H', J'.ofTry ok, q⟩
  | cont => obtain ⟨σ', H', J', q⟩ := hsp; exact ⟨σ', H', J'.ofTry ok, q⟩
  | ret u => obtain ⟨v, σ', H', J', r, q⟩ := hsp; exact ⟨v, σ', H', J'.ofTry ok, r, q⟩
theorem ps_try_mix (hs : X.stack = X.env :: X.outer) (hf : X.env.frame = some X.env.locals) (hN : X.N.Nodup) (tk : Takes X Wout)
    (hb : ∀ (W : WX) (pn : List (Addr × Obj)) (xe : Value → Shared → Prop), Takes (X.tr pn xe) W → PassesOwn (model X.prog X.w) X.A X.env xe → PSs (X.tr pn xe) body (tb W))
    (hh : ClsOk X (h₀ :: hds) l) : PS X (.Try body (h₀ :: hds) [] [] pos) (fun D σ H => tb (wMix X.K Wout D l) D σ H) := by
  refine ⟨fun pins s σ H D I h => ?_⟩
  have ok := I.ok
  have hfr : X.A.frames = some (X.env :: X.outer) := by rw [ok.frames, hs]
  refine wpAny_Try_except ?_
  have hB := hb (wMix X.K Wout D l) (X.pn ++ pins) (fun e s₁ => wpAny (model X.prog X.w) X.A (noteFrame e X.env) (fun _ s₂ => wpAny (model X.prog X.w) X.A (setFlight e none) (fun _ s₃ =>
    wpAny (model X.prog X.w) X.A (handleBy e X.env (h₀ :: hds)) (SP X pins D) X.xe s₃) X.xe s₂) X.xe s₁)
  refine wpAny_mono ((hB (fun u s' xx => ?_) PassesOwn.looking).run [] s σ H D (I.toTry _) h) (fun f s1 hsp => ?_) (fun e s1 he => he)
  · obtain ⟨a, B, sI, pins', σ', H', cls, d, rfl, J', nb, up, sky, na, os, ag, w⟩ := xx
    have J : Inv X pins σ' H' sI := J'.ofTry ok
    show wpAny (model X.prog X.w) X.A (noteFrame (.ref a) X.env) _ _ _
    refine Sky.land Zc.steady hfr hf (show Sky B (X.env :: X.outer) a (Zc cls d) X.env.locals s'.heap by rw [← hs]; exact sky) fun h3 fl3 up3 => ?_
    have J3 : Inv X pins σ' H' { s' with heap := h3 } := J.landed nb fl3.1 (up.trans up3) os ag
    obtain ⟨oe3, vs3, he3, hz3, hd3⟩ := fl3.there
    have nfr : a ∉ frs (X.env :: X.outer) := fun hm => by
      obtain ⟨_, o', e', hnf⟩ := fl3.2.2.1.mem hm
      rw [he3] at e'
      cases e'
      exact hnf _ hd3
    have nL : a ≠ X.env.locals := fun z => nfr (List.mem_filterMap.mpr ⟨X.env, List.mem_cons_self, by rw [hf, z]⟩)
    have nF : a ∉ X.fs := fun hm => by
      obtain ⟨e, he, q⟩ := List.mem_filterMap.mp hm
      exact nfr (List.mem_filterMap.mpr ⟨e, List.mem_cons_of_mem _ he, q⟩)
    have S3 := J3.suite he3 hd3 na nL nF
    have go : ∀ {hds' : List ExceptHandler} {l' : List Cl}, ClsOk X hds' l' → wMix X.K Wout D l' cls d σ' H' →
        wpAny (model X.prog X.w) X.A (handleBy (.ref a) X.env hds') (SP X pins D) X.xe { s' with heap := h3 } := by
      intro hds' l' hk
      have name : ∀ {x : Str} {c : Value} {np : Pos}, Names X x c → ∀ {Q : Value → Shared → Prop} {E : Value → Shared → Prop}, Q c { s' with heap := h3 } → wpAny (model X.prog X.w) (X.A.mark (some (.ref a))) (eval (.Name x np) X.env) Q E { s' with heap := h3 } := fun {x c np} hc {Q E} q => by
        obtain ⟨hg, hdbg, hm | ⟨hm, hv, hnn⟩⟩ := hc
        · exact ld_glob (X := X.suite a ((a, oe3) :: (X.pn ++ pins))) S3 hg hm q hdbg
        · exact ld_blt (X := X.suite a ((a, oe3) :: (X.pn ++ pins))) S3 hg hm hv q hnn hdbg
      have LT : PySem.W.Looks (model X.prog X.w) h3 (typeOf (.ref a)) cls := fun A Q E s k q => wpAny_typeOf_ref (k _ _ he3) (by rw [hz3.1]; exact q)
      induction hk with
      | nil =>
        intro w
        refine wpAny_handleBy_nil ?_
        obtain ⟨k1, k2, k3, oe, vs, T, oT, ts', he, hz, hd, h1, hr⟩ := id fl3
        unfold PySem.passOn
        refine wpAny_bind (wpAny_field he hd h1 ?_)
        rw [if_neg (show ¬ ((Value.ref T == Value.none) = true) from by simp)]
        have out : wpAny (model X.prog X.w) X.A (setFlight (.ref a) X.env.frame) (fun _ s4 => wpAny (model X.prog X.w) X.A (throw (.ref a) : Sem Flow) (SP X pins D) X.xe s4) X.xe { s' with heap := h3 } := by
          rw [hf]
          exact HandSPX.setFlight_upZ fl3 fun h4 hh4 up4 => wpAny_throw (tk _ _ ⟨a, B, sI, pins, σ', H', cls, d, rfl, J, nb, (up.trans up3).trans up4, .inr (.inr (by rw [hs]; exact hh4)), na, os, ag, w⟩)
        first
          | exact wpAny_bind (wpAny_pure (wpAny_bind out))
          | exact wpAny_bind out
      | @cons x c ts b₀ suite np pos' hds2 l2 hc hsu r ih =>
        intro w
        obtain ⟨b, hb1, hyes, hno⟩ := w
        refine wpAny_handleBy_cons (codeAny_handlers_test ?_) (by intro q; cases q)
        refine name hc ((PySem.W.exm_one (M := model X.prog X.w) J3.kIn LT hb1).here ?_)
        cases b with
        | false => exact ih (hno rfl)
        | true =>
          refine codeAny_handlers_suite (HandSPX.lands_againZ fl3 fun h4 fl4 up4 => ?_)
          obtain ⟨oe4, vs4, he4, hz4, hd4⟩ := fl4.there
          have J4 : Inv X pins σ' H' { s' with heap := h4 } := J.landed nb fl4.1 ((up.trans up3).trans up4) os ag
          have S4 := J4.suite he4 hd4 na nL nF
          exact wpAny_mono ((hsu a oe4 cls d (X.pn ++ pins) hz4 ⟨_, hd4⟩).run [] _ _ H' _ S4 (hyes rfl a na)) (fun f s6 hsp => suite_end (M := model X.prog X.w) (A := X.A) (E := X.xe) (σ0 := σ') ok hsp (fun {σ6 H6} J6 =>
            ⟨fun e q => by subst e; exact ⟨σ6, H6, J6, q⟩, fun e q => by subst e; exact ⟨σ6, H6, J6, q⟩, fun e q => by subst e; exact ⟨σ6, H6, J6, q⟩⟩) rfl) (fun _ _ z => False.elim z)
      | @consN x n i c ts b₀ suite np pos' hds2 l2 hi hln hc hsu r ih =>
        intro w
        obtain ⟨b, hb1, hyes, hno⟩ := w
        refine wpAny_handleBy_cons (codeAny_handlers_test ?_) (by intro q; cases q)
        refine name hc ((PySem.W.exm_one (M := model X.prog X.w) J3.kIn LT hb1).here ?_)
        cases b with
        | false => exact ih (hno rfl)
        | true =>
          refine codeAny_handlers_suite_as (HandSPX.lands_againZ fl3 fun h4 fl4 up4 => ?_)
          obtain ⟨oe4, vs4, he4, hz4, hd4⟩ := fl4.there
          have J4 : Inv X pins σ' H' { s' with heap := h4 } := J.landed nb fl4.1 ((up.trans up3).trans up4) os ag
          have S4 := J4.suite he4 hd4 na nL nF
          refine store_ok (X := X.suite a ((a, oe4) :: (X.pn ++ pins))) (v := .ref a) S4 hN hi (.inl hln) rfl (fun s5 S5 => ?_) (.inr hln)
          refine wpAny_mono ((hsu a oe4 cls d (X.pn ++ pins) hz4 ⟨_, hd4⟩).run [] s5 _ H' _ S5 (hyes rfl a na)) (fun f s6 hsp => ?_) (fun _ _ z => False.elim z)
          have gone : ∀ {σ6 : L2.St} {H6 : Hp} {Q : Shared → Prop}, Inv (X.suite a ((a, oe4) :: (X.pn ++ pins))) [] σ6 H6 s6 → (∀ s7, Inv X pins (σ6.set i none) H6 s7 → Q s7) →
              wpAny (model X.prog X.w) X.A (do bindName X.env n .none; unbindBehindTheSuite X.env n pos') (fun _ s7 => Q s7) X.xe s6 := fun {σ6 H6 Q} S6 hq => gone_ok (S6.unsuite ok) hN hi hln hq
          cases f with
          | next => obtain ⟨σ6, H6, S6, q6⟩ := hsp; exact gone S6 fun s7 J7 => ⟨_, _, J7, q6⟩
          | brk => obtain ⟨σ6, H6, S6, q6⟩ := hsp; exact gone S6 fun s7 J7 => ⟨_, _, J7, q6⟩
          | cont => obtain ⟨σ6, H6, S6, q6⟩ := hsp; exact gone S6 fun s7 J7 => ⟨_, _, J7, q6⟩
          | ret u => obtain ⟨v6, σ6, H6, S6, r6, q6⟩ := hsp; exact gone S6 fun s7 J7 => ⟨_, _, _, J7, r6, q6⟩
    exact go hh w
  · have z := try_end (pn := []) ok hsp
    cases f with
    | next => exact wpAny_execs_nil z
    | brk => exact z
    | cont => exact z
    | ret u => exact z
end
/-! ### raise, try: readings by data -/
section
variable {K : PySem.W.Frag}
/-- raise of an own class without fields -/
def tRaise0 (W : WX) (C : Addr) : TS := fun _ σ H => W (.ref C) none σ H
instance {W : WX} {e : Xc → Sl → Prop} {C : Addr} : LiftS K ⟨W, e⟩ (tRaise0 W C) (fun _ s => e ⟨C, [], []⟩ s) := ⟨fun E T h M => T.ex (Stp.refl T.tb) T.base (.inl ⟨rfl, rfl, rfl⟩) h⟩
/-- the __init__ of an exception that stores its arguments -/
def sp_excN (K : PySem.W.Frag) (C : Addr) (flds : List Str) : Sp := fun vs H Q _ => ∃ (a : Addr) (us : List V), vs = .ref a :: us ∧ us.length = flds.length ∧ H a = some (exo a C none) ∧ ∀ dx, H dx = none → dx ≠ a → Q .non (upd (upd H dx (exd dx (flds.zip us))) a (exo a C (some dx)))
def tRaiseN (K : PySem.W.Frag) (W : WX) (C : Addr) (flds : List Str) (t : TA) : TS := fun _ σ H => tMkO C (sp_excN K C flds) [] t σ H fun cls d H' => W cls d σ H'
theorem excN_made {K : PySem.W.Frag} {C a : Addr} {flds : List Str} {us : List V} {H1 : Hp} {Q : XK} {E : XK} (hl : us.length = flds.length) (ha : H1 a = none) (q : ∀ d H', Same H1 H' → (∀ b, H' b = none → H1 b = none) → H1 d = none → H' d = some (.xd (flds.zip us)) → Q (.ref C) (some d) H') :
    sp_excN K C flds (.ref a :: (us ++ [])) (upd H1 a (exo a C none)) (fun v H2 => v = .non ∧ ∃ (d : Addr) (fs : List (Str × V)), H2 a = some (exo a C (some d)) ∧ H2 d = some (exd d fs) ∧ H1 d = none ∧ Q (.ref C) (some d) (upd (del H2 a) d (.xd fs))) E := by
  rw [List.append_nil]
  refine ⟨a, us, rfl, hl, upd_same, fun dx hdx ne => ⟨rfl, dx, flds.zip us, upd_same, ?_, ?_, ?_⟩⟩
  · rw [upd_ne ne, upd_same]
  · rw [upd_ne ne] at hdx
    exact hdx
  · have h0 : H1 dx = none := by rw [upd_ne ne] at hdx; exact hdx
    refine q dx _ (fun b o hb => ?_) (fun b hb => ?_) h0 upd_same
    · have n1 : b ≠ a := ne_of_none hb ha
      have n2 : b ≠ dx := ne_of_none hb h0
      rw [upd_ne n2, del_ne n1, upd_ne n1, upd_ne n2, upd_ne n1]
      exact hb
    · by_cases n1 : b = a
      · rw [n1]; exact ha
      · by_cases n2 : b = dx
        · rw [n2]; exact h0
        · rw [upd_ne n2, del_ne n1, upd_ne n1, upd_ne n2, upd_ne n1] at hb
          exact hb
def psRaiseN (e : Xc → Sl → Prop) (C : Addr) (flds : List Str) (pa : PA1) : PS1 := fun _ s => pa s fun ds s1 => ds.length = flds.length ∧ (flds.length ≤ 1000 ∧ flds ≠ []) ∧ e ⟨C, flds, ds⟩ s1
instance {W : WX} {e : Xc → Sl → Prop} {C : Addr} {flds : List Str} {t : TA} {pa : PA1} [LiftA K ⟨W, e⟩ t pa] : LiftS K ⟨W, e⟩ (tRaiseN K W C flds t) (psRaiseN e C flds pa) := ⟨fun {H0 F H ω s σ D} E T h M => by
  refine LiftA.run (K := K) (t := t) (p := pa) _ T h fun vs F1 H1 ω1 ds s1 p1 T1 r1 h1 => ?_
  obtain ⟨hl, hn, h1⟩ := h1
  have hvl := r1.len
  refine ⟨by omega, fun a ha => excN_made (Q := fun cls d H' => W cls d σ H') (show vs.length = flds.length by omega) ha fun d H2 e2 t2 hd hx => ?_⟩
  have hFd := T1.sf.free hd
  have sF := same_upd (o := .xd (flds.zip vs)) hFd
  have p2 : Stp F1 H1 ω1 (upd F1 d (.xd (flds.zip vs))) H2 ω1 := .old T1.tb sF (fun b o _ h => e2 b o h) (fun _ _ h _ => h) (fun b o _ q1 q2 => by rw [upd_ne (ne_of_none q1 hd)]; exact q2) t2 (fun _ _ => Iff.rfl) (fun _ _ _ _ h => .inl h) fun _ _ h => .inl h
  have T2 : Sta0 K (upd F1 d (.xd (flds.zip vs))) H2 ω1 s1 σ := by
    refine ⟨p2.tb, fun b o hb => ?_, fun b p hb => ?_, fun i x hx => ?_, T1.len, T1.ix⟩
    · by_cases hbd : b = d
      · rw [hbd, upd_same] at hb
        rw [hbd, ← hb]
        exact hx
      · rw [upd_ne hbd] at hb
        exact e2 _ _ (T1.sf b o hb)
    · obtain ⟨q1, u, q2⟩ := T1.ow b p hb
      exact ⟨by rw [upd_ne (ne_of_none q2 hd)]; exact q1, u, e2 _ _ q2⟩
    · obtain ⟨v, h4, h5⟩ := T1.at' i x hx
      exact ⟨v, h4, h5.to sF fun a u _ hu => e2 _ _ hu⟩
  exact T1.ex (x := ⟨C, flds, ds⟩) p2 T2 (.inr ⟨d, vs, rfl, upd_same, ⟨by show flds.length = _; omega, hn.2⟩, r1.mono sF⟩) h1⟩
/-! try -/
structure PCl where
  c : Value
  i : Option Nat
  ps : Addr → Addr → Option Addr → PS1
/-- the ends of a suite whose name goes -/
def pEndsN (i : Nat) (E : PEnds) : PEnds := { nx := fun s => E.nx (s.set i none), rt := E.rt, bk := fun s => E.bk (s.set i none), ct := fun s => E.ct (s.set i none) }
def PCl.run (k : PCl) (x : Xc) (E : PEnds) (s : Sl) : Prop := match k.i with
  | none => ∀ a d, (x.ns = [] → d = none) → k.ps a x.C d E s
  | some i => ∀ a d, (x.ns = [] → d = none) → k.ps a x.C d (pEndsN i E) (s.set i (some (.fr (.xv a x.C d x.ns x.ds))))
/-- the clauses, tried one after the other -/
def pcatch (K : PySem.W.Frag) (e : Xc → Sl → Prop) (E : PEnds) : List PCl → Xc → Sl → Prop
  | [] => e
  | k :: r => fun x s => ∃ b, PySem.W.exmOne K (.ref x.C) k.c = some b ∧ YN b (k.run x E s) (pcatch K e E r x s)
class LiftCl (K : PySem.W.Frag) (Ξ : XI) (k : Cl) (p : outParam PCl) : Prop where
  c : k.c = p.c
  i : k.i = p.i
  ts : ∀ a C d, LiftS K Ξ (k.ts a (.ref C) d) (p.ps a C d)
class LiftCls (K : PySem.W.Frag) (Ξ : XI) (l : List Cl) (p : outParam (List PCl)) : Prop where
  run : Paired (fun k p => LiftCl K Ξ k p) l p
instance {Ξ : XI} {c : Value} {i : Option Nat} {ts : Addr → Value → Option Addr → TS} {ps : Addr → Addr → Option Addr → PS1} [L : ∀ a C d, LiftS K Ξ (ts a (.ref C) d) (ps a C d)] : LiftCl K Ξ ⟨c, i, ts⟩ ⟨c, i, ps⟩ := ⟨rfl, rfl, L⟩
instance {Ξ : XI} : LiftCls K Ξ [] [] := ⟨.nil⟩
instance {Ξ : XI} {k : Cl} {p : PCl} {l : List Cl} {pl : List PCl} [h : LiftCl K Ξ k p] [r : LiftCls K Ξ l pl] : LiftCls K Ξ (k :: l) (p :: pl) := ⟨.cons h r.run⟩
def tTry (K : PySem.W.Frag) (Wout : WX) (tb : WX → TS) (l : List Cl) : TS := fun D σ H => tb (wMix K Wout D l) D σ H
def psTry (K : PySem.W.Frag) (e : Xc → Sl → Prop) (pb : WX → (Xc → Sl → Prop) → PS1) (l : List PCl) : PS1 := fun E s => ∀ W, pb W (pcatch K e E l) E s
theorem cl_run {W : WX} {e : Xc → Sl → Prop} {k : Cl} {p : PCl} (L : LiftCl K ⟨W, e⟩ k p) {H0 F H : Hp} {ω : Om} {s : Sl} {σ : L2.St} {D : Ends} {E : PEnds} {x : Xc} {d : Option Addr} {a : Addr} (T : Sta K ⟨W, e⟩ F H ω s σ) (M : Meets K ⟨W, e⟩ H0 F H ω E D) (r : XdR K F x d) (h : p.run x E s) : k.run a (.ref x.C) d D σ H := by
  obtain ⟨c, i, ts⟩ := k
  obtain ⟨c', i', ps⟩ := p
  have hi : i = i' := L.i
  subst hi
  have LL := L.ts a x.C d
  have hdn : x.ns = [] → d = none := fun z => by
    rcases r with ⟨_, _, z3⟩ | ⟨b, vs, z1, z2, z3, z4⟩
    · exact z3
    · exact absurd z z3.2
  cases i with
  | none => exact LiftS.run (K := K) (t := ts a (.ref x.C) d) (p := ps a x.C d) E T (h a d hdn) M
  | some i =>
    have T2 : Sta K ⟨W, e⟩ F H ω (s.set i (some (.fr (.xv a x.C d x.ns x.ds)))) (σ.set i (some (.ref a))) := T.set i ⟨rfl, by
      rcases r with ⟨z1, z2, z3⟩ | ⟨b, vs, z1, z2, z3, z4⟩
      · exact .inl ⟨z1, z2, z3⟩
      · exact .inr ⟨b, vs, z1, z2, z3, z4⟩⟩
    exact LiftS.run (K := K) (t := ts a (.ref x.C) d) (p := ps a x.C d) (pEndsN i E) T2 (h a d hdn) (M.ends rfl rfl (fun {σ' F' H' ω' s'} p' T' h' => M.nx p' (T'.dropσ i none) h') (fun {σ' F' H' ω' s'} p' T' h' => M.bk p' (T'.dropσ i none) h') (fun {σ' F' H' ω' s'} p' T' h' => M.ct p' (T'.dropσ i none) h'))
theorem mix_run {W : WX} {e : Xc → Sl → Prop} {l : List Cl} {pl : List PCl} (L : Paired (fun k p => LiftCl K ⟨W, e⟩ k p) l pl) {H0 F H : Hp} {ω : Om} {s : Sl} {σ : L2.St} {D : Ends} {E : PEnds} {x : Xc} {d : Option Addr} (T : Sta K ⟨W, e⟩ F H ω s σ) (M : Meets K ⟨W, e⟩ H0 F H ω E D) (r : XdR K F x d) (h : pcatch K e E pl x s) : wMix K W D l (.ref x.C) d σ H := by
  induction L with
  | nil => exact T.ex (Stp.refl T.tb) T.base r h
  | @cons k p l pl hk _ ih =>
    obtain ⟨b, hb, hy, hn⟩ := h
    exact ⟨b, by rw [hk.c]; exact hb, fun z a _ => cl_run hk T M r (hy z), fun z => ih (hn z)⟩
instance {W : WX} {e : Xc → Sl → Prop} {tb : WX → TS} {pb : WX → (Xc → Sl → Prop) → PS1} {l : List Cl} {pl : List PCl} [L : ∀ W' e', LiftS K ⟨W', e'⟩ (tb W') (pb W' e')] [R : LiftCls K ⟨W, e⟩ l pl] : LiftS K ⟨W, e⟩ (tTry K W tb l) (psTry K e pb pl) := ⟨fun {H0 F H ω s σ D} E T h M => by
  have LL := L (wMix K W D l) (pcatch K e E pl)
  refine LiftS.run (K := K) (Ξ := ⟨wMix K W D l, pcatch K e E pl⟩) (H0 := H0) (D := D) (t := tb (wMix K W D l)) (p := pb (wMix K W D l) (pcatch K e E pl)) E ⟨T.base, ?_⟩ (h _) ?_
  · intro F' H' ω' s' σ' x d p' T' r hx
    exact mix_run R.run ⟨T', T.ex.step p'⟩ (M.step p') r hx
  · exact ⟨fun {σ' F' H' ω' s'} p' T' h' => M.nx p' ⟨T'.base, T.ex.step p'⟩ h', fun {v σ' F' H' ω' x s'} p' T' r h' => M.rt p' ⟨T'.base, T.ex.step p'⟩ r h', fun {σ' F' H' ω' s'} p' T' h' => M.bk p' ⟨T'.base, T.ex.step p'⟩ h', fun {σ' F' H' ω' s'} p' T' h' => M.ct p' ⟨T'.base, T.ex.step p'⟩ h', M.up, M.yg⟩⟩
/-- a field of what was caught -/
def pXf (a C : Addr) (d : Option Addr) (f : Str) (C0 : Addr) (p : PD) : PX := fun s q => p s fun x s1 => match x with
  | .xv a' C' d' ns ds => a' = a ∧ C' = C0 ∧ C = C0 ∧ d' = d ∧ match (ns.zip ds).lookup f with
    | some z => q (.fr z) s1
    | none => False
  | _ => False
instance {Ξ : XI} {a C : Addr} {d : Option Addr} {C0 : Addr} {f : Str} {t : TE} {p : PD} [LiftD K Ξ t p] : LiftE K Ξ (tXf a (.ref C) d C0 f t) (pXf a C d f C0 p) := ⟨fun {F H ω s σ Q} q T h k => by
  refine LiftD.run (K := K) (t := t) (p := p) _ T h fun x F1 H1 ω1 dd s1 p1 T1 r1 h1 => ?_
  split at h1
  · rename_i a' C' d' ns ds
    obtain ⟨rfl, rfl, rfl, rfl, h1⟩ := h1
    obtain ⟨rfl, r1⟩ := r1
    split at h1
    · rename_i z e
      rcases r1 with ⟨rfl, _, _⟩ | ⟨b, vs, rfl, h2, h3, h4⟩
      · simp at e
      · obtain ⟨v, hv, rv⟩ := h4.look e
        exact ⟨rfl, rfl, b, _, v, rfl, T1.sf _ _ h2, hv, k v F1 H1 ω1 (.fr z) s1 p1 T1 rv h1⟩
    · exact h1.elim
  · exact h1.elim⟩
-- a look: instances are found under binders
example {W : WX} {e : Xc → Sl → Prop} {C : Addr} : ∃ p, LiftS K ⟨W, e⟩ (tSeq (tRaise0 W C) tNext) p := ⟨_, inferInstance⟩
example {W : WX} {e : Xc → Sl → Prop} {C : Addr} : ∃ p, LiftCls K ⟨W, e⟩ [⟨.ref C, none, fun a cls d => tNext⟩] p := ⟨_, inferInstance⟩
example {W : WX} {e : Xc → Sl → Prop} {C : Addr} : ∃ p, LiftCls K ⟨W, e⟩ [⟨.ref C, some 1, fun a cls d => tSeq (tDrop (tXf a cls d C "f" (tVar 1))) tNext⟩] p := ⟨_, inferInstance⟩
example {W : WX} {e : Xc → Sl → Prop} {C : Addr} : ∃ p, LiftS K ⟨W, e⟩ (tTry K W (fun W' => tSeq (tRaise0 W' C) tNext) [⟨.ref C, some 1, fun a cls d => tSeq (tDrop (tXf a cls d C "f" (tVar 1))) tNext⟩]) p := ⟨_, inferInstance⟩
end
/-! ### rules with these terms -/
section
variable {X : Cx} {W : WX} {C : Addr} {e : Expr} {pos : Pos}
theorem ps_raise0 (hc : X.calm = true) (tk : Takes X W) (he : PMk X e fun _ H Q => Q (.ref C) none H) : PS X (.Raise (some e) none pos) (tRaise0 W C) := ps_raise hc tk he
theorem ps_raiseX {K : PySem.W.Frag} {flds : List Str} {t : TA} (hc : X.calm = true) (tk : Takes X W) (he : PMk X e (tMkO C (sp_excN K C flds) [] t)) : PS X (.Raise (some e) none pos) (tRaiseN K W C flds t) := ps_raise hc tk he
end
section
variable {K : PySem.W.Frag}
/-- isinstance of what was caught -/
def pIsE (K : PySem.W.Frag) (a C D0 A : Addr) (d : Option Addr) (p : PD) : PX := fun s q => C = D0 ∧ d = none ∧ p s fun x s1 => match x with
  | .xv a' _ _ _ _ => a' = a ∧ ∃ b, PySem.W.kitOne K (.ref D0) (.ref A) = some b ∧ q (.fr (.bl b)) s1
  | _ => False
instance {Ξ : XI} {a C D0 A : Addr} {d : Option Addr} {t : TE} {p : PD} [LiftD K Ξ t p] : LiftE K Ξ (tIsE K D0 a (.ref C) d (tCons t (tCons (tC (V.ref A)) tNil))) (pIsE K a C D0 A d p) := ⟨fun {F H ω s σ Q} q T h k => by
  obtain ⟨rfl, rfl, h⟩ := h
  refine ⟨rfl, rfl, ?_⟩
  refine LiftD.run (K := K) (t := t) (p := p) _ T h fun x F1 H1 ω1 dd s1 p1 T1 r1 h1 => ?_
  split at h1
  · rename_i a' C' d' ns ds
    obtain ⟨rfl, b, hb, h1⟩ := h1
    obtain ⟨rfl, r1⟩ := r1
    exact ⟨_, .ref A, b, rfl, fun _ z => z, hb, k (.bl b) F1 H1 ω1 (.fr (.bl b)) s1 p1 T1 rfl h1⟩
  · exact h1.elim⟩
end
/-! ### rules of calls with a wish -/
theorem takesNo {X : Cx} : Takes X (WK E0x) := fun _ _ ⟨_, _, _, _, _, _, _, _, _, _, _, _, _, _, _, _, w⟩ => w.elim
theorem takesFn {X : Cx} {E : XK} (h : Takes X fun cls d _ H => E cls d H) : Takes X (WK E) := h
/-- C.m(..), C the class itself, m a classmethod -/
def tCMethW (W : WX) (C : Addr) (sp : Sp) (ta : TE) (t : TA) : TE := fun σ H Q => ta σ H fun x H1 => x = .ref C ∧ t σ H1 fun vs H2 => sp (.ref C :: vs) H2 Q fun cls d H' => W cls d σ H'
/-- a name that holds a class is called -/
def tMakeL (i : Nat) (C : Addr) (sp : Sp) (E : XK) (t : TA) : TE := fun σ H Q => σ[i]? = some (some (.ref C)) ∧ tMake C sp [] E t σ H Q
section
variable {X : Cx} {W : WX} {k : Nat} {f C g p : Addr} {mc : Value} {fd : FuncData} {ps : List Str} {sp : Sp} {x m : Str} {np pos apos : Pos} {e o : Expr} {es : List Expr} {ta : TE} {t : TA}
theorem pe_callW (tk : Takes X W) (F : FnOk X.prog X.w X.K X.mg X.base (L2.CX X.prog X.w) k f fd ps sp) (hr : Room k X.A) (hg : Gl X x) (hm : X.mg x = some (.ref f)) (hk : PySem.W.keepIn X.K (.ref f) = true) (hb : Binds X.K fd ps [])
    (ha : PA X (e :: es) t) (hdb : (x == ("__debug__" : Str)) = false := by decide) (he : starEach (e :: es) X.env = (false, eval e X.env) :: starEach es X.env := by rfl) (hpl : (backTo pos (starEach es X.env)).any (·.1) = false := by rfl) :
    PE X (.Call (.Name x np) (e :: es) [] pos) (tCallW W sp t) := pe_callS F hr hg hm hk hb (fun σ => passAt tk σ) ha hdb he hpl
theorem pe_methW {pl : Sem Bool} (tk : Takes X W) (he : PE X o ta) (c : Cls X.K C) (hm : Meth X.K C m f) (F : FnOk X.prog X.w X.K X.mg X.base (L2.CX X.prog X.w) k f fd ps sp) (hr : Room k X.A) (hb : Binds X.K fd ps []) (ha : PA X (e :: es) t)
    (ht : eval (.Call (.Attribute o m apos) (e :: es) [] pos) X.env = (do
      let ov ← eval o X.env
      standAt apos.atName
      let (f, first) ← holding [ov] (getMethod ov m pl)
      callWith pos f first (backTo pos (starEach (e :: es) X.env)) (backToKw pos (keywordEach [] X.env))) := by rfl)
    (hst : starEach (e :: es) X.env = (false, eval e X.env) :: starEach es X.env := by rfl) (hpl : (backTo pos (starEach es X.env)).any (·.1) = false := by rfl) :
    PE X (.Call (.Attribute o m apos) (e :: es) [] pos) (tMethW W C m sp ta t) := pe_methS he c hm F hr hb (fun σ => passAt tk σ) ha ht hst hpl
theorem pe_meth0W {pl : Sem Bool} (tk : Takes X W) (he : PE X o ta) (c : Cls X.K C) (hm : Meth X.K C m f) (F : FnOk X.prog X.w X.K X.mg X.base (L2.CX X.prog X.w) k f fd ps sp) (hr : Room k X.A) (hb : Binds X.K fd ps [])
    (ht : eval (.Call (.Attribute o m apos) [] [] pos) X.env = (do
      let ov ← eval o X.env
      standAt apos.atName
      let (f, first) ← holding [ov] (getMethod ov m pl)
      callWith pos f first (backTo pos (starEach [] X.env)) (backToKw pos (keywordEach [] X.env))) := by rfl) :
    PE X (.Call (.Attribute o m apos) [] [] pos) (tMethW W C m sp ta tNil) := pe_meth0S he c hm F hr hb (fun σ => passAt tk σ) ht
theorem pe_makeW (tk : Takes X W) (M : Mk X.K C f) (F : FnOk X.prog X.w X.K X.mg X.base (L2.CX X.prog X.w) k f fd ps sp) (hr : Room (k + 1) X.A) (hg : Gl X x) (hm : X.mg x = some (.ref C)) (hb : Binds X.K fd ps [])
    (ha : PA X (e :: es) t) (hdb : (x == ("__debug__" : Str)) = false := by decide) (he : starEach (e :: es) X.env = (false, eval e X.env) :: starEach es X.env := by rfl) (hpl : (backTo pos (starEach es X.env)).any (·.1) = false := by rfl) :
    PE X (.Call (.Name x np) (e :: es) [] pos) (tMakeW W C sp t) := pe_makeS M F hr hg hm hb (fun σ => passAt tk σ) ha hdb he hpl
theorem pe_cmethW {pl : Sem Bool} (tk : Takes X W) (he : PE X o ta) (r : ClX.CRead X.K C mc) (c : ClX.CMet X.K C mc m p g) (F : FnOk X.prog X.w X.K X.mg X.base (L2.CX X.prog X.w) k g fd ps sp) (hr : Room k X.A) (hb : Binds X.K fd ps []) (ha : PA X (e :: es) t)
    (ht : eval (.Call (.Attribute o m apos) (e :: es) [] pos) X.env = (do
      let ov ← eval o X.env
      standAt apos.atName
      let (f, first) ← holding [ov] (getMethod ov m pl)
      callWith pos f first (backTo pos (starEach (e :: es) X.env)) (backToKw pos (keywordEach [] X.env))) := by rfl)
    (hst : starEach (e :: es) X.env = (false, eval e X.env) :: starEach es X.env := by rfl) (hpl : (backTo pos (starEach es X.env)).any (·.1) = false := by rfl) :
    PE X (.Call (.Attribute o m apos) (e :: es) [] pos) (tCMethW W C sp ta t) := by
  refine ⟨fun pins s σ H Q I h => PySem.W.methodCall_KW (pl := pl) (thn (he.run pins s σ H _ I h) fun u s1 ⟨x, H1, I1, rx, ex, q⟩ => ?_) ht⟩
  subst ex
  cases (show u = Value.ref C from rx)
  refine ClX.getmethcm_ok I1 r c fun s2 I2 => ?_
  refine ClX.callwith_cm I2 (ClX.base_none I1 (Nat.le_refl _)) c.fi (thn (ha.run pos _ s2 σ H1 _ I2 q) fun us s3 ⟨vs, H2, I3, rv, q2⟩ => ⟨⟨ClX.pin_at I3, I3.kIn⟩, ?_⟩) hst hpl
  have r2 : Vals (V.ref C :: vs) (Value.ref C :: us) := .cons rfl rv
  have hl : (Value.ref C :: us).length = ps.length := by rw [← r2.length]; exact F.len _ _ _ _ q2
  have b := hb s3 (Value.ref C :: us) I3.kIn (by rw [List.append_nil]; exact hl)
  rw [List.append_nil] at b
  have z : wpAny (model X.prog X.w) X.A (call (.ref s1.heap.objs.size) us) (EP X ((s1.heap.objs.size, PySem.W.methodObj (.ref g) (.ref C)) :: pins) σ Q) X.xe s3 := by
    refine wpAny_call (PySem.W.method_call (ClX.pin_at I3) (codeAny_mono (F.run X.A X.stack s3 H2 ⟨Value.ref C :: us, []⟩ (Value.ref C :: us) (V.ref C :: vs) Q (fun cls d H' => W cls d σ H') hr I3.env0 b r2 q2) fun r s' hq => ?_))
    cases r with
    | error er => exact passAt tk σ _ _ _ er s' I3 hq
    | ok fl =>
      cases fl with
      | ret u => exact I3.after hq
      | next => exact False.elim hq
      | brk => exact False.elim hq
      | cont => exact False.elim hq
  exact thn z fun _ _ y => ClX.unpinE y
theorem pe_makeL {CX : CXT} {i : Nat} {E : XK} (M : Mk X.K C f) (F : FnOk X.prog X.w X.K X.mg X.base CX k f fd ps sp) (hr : Room (k + 1) X.A) (hN : X.N[i]? = some x) (hv : Vis X.env.scope x) (hb : Binds X.K fd ps []) (hx : Passes CX X E) (ha : PA X (e :: es) t)
    (hdb : (x == ("__debug__" : Str)) = false := by decide) (hcd : (x == ("__classdict__" : Str)) = false := by decide)
    (he : starEach (e :: es) X.env = (false, eval e X.env) :: starEach es X.env := by rfl) (hpl : (backTo pos (starEach es X.env)).any (·.1) = false := by rfl) :
    PE X (.Call (.Name x np) (e :: es) [] pos) (tMakeL i C sp E t) := by
  refine ⟨fun pins s σ H Q I ⟨hs, ht⟩ => ?_⟩
  have ld := (pe_var (pos := np) hN hv hdb hcd).run pins s σ H (fun v H1 => v = .ref C ∧ H1 = H) I ⟨.ref C, hs, rfl, rfl⟩
  refine wpAny_Call_Name_kw (thn ld fun u s1 ⟨v, H1, I1, r1, e1, e2⟩ => ?_)
  subst e1 e2
  cases r1
  refine PySem.W.callWith_K (h₀ := X.base) I.ok.mod.kin M.kp (thn (ha.run pos pins s1 σ H1 _ I1 ht) fun us s2 ⟨vs, H2, I2, r2, q2⟩ => ⟨I2.kIn, ?_⟩) he hpl
  exact run_make M F hr hb .nil hx I2 r2 q2
/-- try .. except, the clauses with and without a name -/
theorem ps_tryW {K : PySem.W.Frag} {body : List Stmt} {h₀ : ExceptHandler} {hds : List ExceptHandler} {l : List Cl} {tb : WX → TS} (hK : X.K = K) (hs : X.stack = X.env :: X.outer) (hf : X.env.frame = some X.env.locals) (hN : X.N.Nodup) (tk : Takes X W)
    (hb : ∀ (W : WX) (pn : List (Addr × Obj)) (xe : Value → Shared → Prop), Takes (X.tr pn xe) W → PassesOwn (model X.prog X.w) X.A X.env xe → PSs (X.tr pn xe) body (tb W))
    (hh : ClsOk X (h₀ :: hds) l) : PS X (.Try body (h₀ :: hds) [] [] pos) (tTry K W tb l) := by
  subst hK
  exact ps_try_mix hs hf hN tk hb hh
end
section
variable {K : PySem.W.Frag} {Ξ : XI}
def pCMethX (e : Xc → Sl → Prop) (ps : PspX) (C : Addr) (p : PD) (pa : PR1) : PX := fun s q => p s fun d s1 => match d with
  | .opq v => v = .ref C ∧ pa s1 fun as s2 => callToX ps e (.v (.opq v) :: as) q s2
  | _ => False
instance {ps : PspX} {C : Addr} {W : WX} {e : Xc → Sl → Prop} {ta : TE} {t : TA} {p : PD} {pa : PR1} [LiftD K ⟨W, e⟩ ta p] [LiftR K ⟨W, e⟩ t pa] : LiftE K ⟨W, e⟩ (tCMethW W C (LspX K ps) ta t) (pCMethX e ps C p pa) := ⟨fun {F H ω s σ Q} q T h k => by
  refine LiftD.run (K := K) (t := ta) (p := p) _ T h fun v F1 H1 ω1 d s1 p1 T1 r1 h1 => ?_
  split at h1
  · rename_i u
    obtain ⟨rfl, h1⟩ := h1
    cases (show v = _ from r1)
    refine ⟨rfl, LiftR.run (K := K) (t := t) (p := pa) _ T1 h1 fun vs F2 H2 ω2 as s2 p2 T2 r2 h2 => ?_⟩
    exact callToX_run T2 (ArR.consV (d := .opq (.ref C)) rfl r2) h2 fun v F3 H3 ω3 x s3 p3 T3 r3 hq => k v F3 H3 ω3 x s3 ((p1.trans p2).trans p3) T3 (r3.early (p1.trans p2).tr) hq
  · exact h1.elim⟩
def pMakeL (i : Nat) (C : Addr) (ps : Psp) (pa : PR1) : PX := fun s q => s[i]? = some (some (.fr (.opq (.ref C)))) ∧ pMake C ps pa s q
instance {i : Nat} {ps : Psp} {C : Addr} {E : XK} {t : TA} {pa : PR1} [LiftR K Ξ t pa] : LiftE K Ξ (tMakeL i C (Lsp K ps) E t) (pMakeL i C ps pa) := ⟨fun {F H ω s σ Q} q T h k => by
  obtain ⟨h0, h⟩ := h
  obtain ⟨v, hv, r⟩ := T.get h0
  cases (show v = _ from r)
  exact ⟨hv, LiftE.run (K := K) (t := tMake C (Lsp K ps) [] E t) (p := pMake C ps pa) q T h k⟩⟩
/-- a class as a value -/
instance (priority := low) (a : Addr) : ConD K (.ref a) (.opq (.ref a)) := ⟨fun _ => rfl⟩
/-! isinstance, the class an own one -/
/-- what the library says of the classes -/
def IsC (K : PySem.W.Frag) (C D : Addr) (b : Bool) : Prop := PySem.W.kitOne K (.ref C) (.ref D) = some b
end
/-! ### the addresses of the package's classes -/
structure Ad where
  SamphireError : Addr := 0
  TextError : Addr := 0
  TooLarge : Addr := 0
  InvalidSize : Addr := 0
  SharedKey : Addr := 0
  SharedPart : Addr := 0
  InvalidPlan : Addr := 0
  UnknownWhat : Addr := 0
  WrongReceiver : Addr := 0
  UnknownLetter : Addr := 0
  NoParcel : Addr := 0
  InvalidLine : Addr := 0
  WrongKind : Addr := 0
  ZeroDenominator : Addr := 0
  InvalidLaw : Addr := 0
  NotEnded : Addr := 0
  EmptyList : Addr := 0
  OtherPlan : Addr := 0
  NoDeal : Addr := 0
  Uniform : Addr := 0
  Weighted : Addr := 0
  Optimal : Addr := 0
  Tape : Addr := 0
  Mixer : Addr := 0
  Explorer : Addr := 0
  Plan : Addr := 0
  Store : Addr := 0
  Node : Addr := 0
  Network : Addr := 0
  Parser : Addr := 0
  Game : Addr := 0
  Desk : Addr := 0
theorem lenIs1 {us : List V} {n : Str} (h : us.length = [n].length) : ∃ v, us = [v] := by
  match us, h with
  | [v], _ => exact ⟨v, rfl⟩
theorem lenIs3 {us : List V} {n1 n2 n3 : Str} (h : us.length = [n1, n2, n3].length) : ∃ v0 v1 v2, us = [v0, v1, v2] := by
  match us, h with
  | [v0, v1, v2], _ => exact ⟨v0, v1, v2, rfl⟩
/-! ### sorted(xs), xs any data that are alike -/
def rSortedDa (K : PySem.W.Frag) : List V → Hp → VK → Prop := fun vs H Q => ∃ (a : Addr) (zs : List (V × PyData)), vs = [V.ref a] ∧ SqL K H a (zs.map (·.1)) ∧ (∀ z ∈ zs, Dp K H z.1 z.2) ∧ PySem.W.AllAlike (zs.map (·.2)) ∧ PySem.W.Sortable (zs.map (·.2)) ∧ (∀ z ∈ zs, z.2.depth ≤ 60) ∧
  ∀ p, H p = none → Q (.ref p) (upd H p (.lst ((zs.mergeSort (PySem.W.dataLe false (·.2))).map (·.1))))
section
variable {X : Cx} {pins : List (Addr × Obj)} {σ : L2.St} {H : Hp} {s : Shared}
theorem eachIs_of {R : Value → (V × PyData) → Prop} : ∀ {zs : List (V × PyData)} {its : List Value}, Vals (zs.map (·.1)) its → (∀ z ∈ zs, ∀ u, RelV z.1 u → R u z) → PySem.W.EachIs R its zs
  | [], _, h, _ => by cases h; exact .nil
  | z :: zs, _, h, hR => by
    cases h with
    | cons h1 h2 => exact .cons (hR z List.mem_cons_self _ h1) (eachIs_of h2 fun y hy => hR y (List.mem_cons_of_mem _ hy))
theorem vals_of : ∀ {zs : List (V × PyData)} {its : List Value}, PySem.W.EachIs (fun u z => RelV z.1 u) its zs → Vals (zs.map (·.1)) its
  | _, _, .nil => .nil
  | _, _, .cons h t => .cons h (vals_of t)
theorem cr_sortedDa (hu : X.A.units + 64 < cLine) : CallR X (.builtin "sorted") (rSortedDa X.K) := by
  intro pins s σ H vs us Q I r h
  obtain ⟨a, zs, rfl, hs, hz, hal, hk, hdp, q⟩ := h
  obtain ⟨its, rv, hl, hlen⟩ := I.list hs
  obtain ⟨u, rfl, ru⟩ := vals1 r
  obtain rfl : u = Value.ref a := ru
  rw [List.length_map] at hlen
  refine PySem.W.sorted_data (R := fun u z => RelV z.1 u) (enc := (·.2)) hl.isList (eachIs_of rv fun z _ u h => h) (eachIs_of rv fun z hm u h => Dp.reads I z.2 z.1 u (hz z hm) h) hal hk hlen (fun z hm => by have := hdp z hm; omega) fun out ho eo => ?_
  obtain ⟨c, hc⟩ := PyProof.Rows.sortedAll_at s.heap its out.toArray
  exact ⟨.ref (s.heap.objs.size + 1), upd H (s.heap.objs.size + 1) (.lst ((zs.mergeSort (PySem.W.dataLe false (·.2))).map (·.1))), I.laid (t' := s.toks) (fun _ _ => PyProof.Rows.sortedAll_old) (Nat.le_succ _)
    (show ObjOk X.prog X.w _ _ _ (.lst _) from ⟨by rw [List.length_map, List.length_mergeSort]; exact hlen, out, c, vals_of eo, hc⟩), rfl, q _ (I.hok.fresh (Nat.le_succ _))⟩
theorem cr_sortedDak {K : PySem.W.Frag} (hK : X.K = K) (hu : X.A.units + 64 < cLine) : CallR X (.builtin "sorted") (rSortedDa K) := by subst hK; exact cr_sortedDa hu
end
/-- the order of data -/
def leD (a b : D) : Bool := !PySem.W.dataLt b.py a.py
def sortD (ds : List D) : List D := ds.mergeSort leD
/-- data that can be sorted: alike, tuples that are not empty or none -/
def SortOk (ds : List D) : Prop := ds.all (D.plN 58) = true ∧ PySem.W.AllAlike (ds.map D.py) ∧ PySem.W.Sortable (ds.map D.py)
section
variable {K : PySem.W.Frag} {Ξ : XI}
theorem RpA.pair {F : Hp} : ∀ {ds : List D} {vs : List V}, RpA K F ds vs → ∃ zs : List (V × D), zs.map (·.1) = vs ∧ zs.map (·.2) = ds ∧ ∀ z ∈ zs, Rp K F z.2 z.1
  | [], _, h => by
    cases (show _ = [] from h)
    exact ⟨[], rfl, rfl, fun z hz => by cases hz⟩
  | d :: ds, _, h => by
    obtain ⟨v, ws, rfl, h1, h2⟩ := h
    obtain ⟨zs, e1, e2, e3⟩ := RpA.pair h2
    refine ⟨(v, d) :: zs, by rw [List.map_cons, e1], by rw [List.map_cons, e2], fun z hz => ?_⟩
    rcases List.mem_cons.mp hz with e | e
    · rw [e]; exact h1
    · exact e3 z e
theorem RpA.unpair {F : Hp} : ∀ {zs : List (V × D)}, (∀ z ∈ zs, Rp K F z.2 z.1) → RpA K F (zs.map (·.2)) (zs.map (·.1))
  | [], _ => rfl
  | z :: zs, h => ⟨z.1, zs.map (·.1), rfl, h z List.mem_cons_self, RpA.unpair fun y hy => h y (List.mem_cons_of_mem _ hy)⟩
def gSortedDa : List D → (S → Prop) → Prop := fun ds q => match ds with
  | [.lst xs] => SortOk xs ∧ q (.ow false (.lst (sortD xs)))
  | _ => False
instance : CaL K (rSortedDa K) gSortedDa := ⟨fun {F H vs ds Q} q hs r h k => by
  unfold gSortedDa at h
  split at h
  · rename_i xs
    obtain ⟨⟨hpl, hal, hso⟩, hq⟩ := h
    obtain ⟨v, rfl, a, ws, rfl, h1, h2⟩ := r.one
    obtain ⟨zs, rfl, rfl, hz⟩ := RpA.pair h2
    have hpy : ∀ z ∈ zs, Dp K H z.1 z.2.py ∧ z.2.py.canLay0 = true ∧ z.2.py.depth ≤ 58 := fun z hm => py_of 58 (List.all_eq_true.mp hpl _ (List.mem_map.mpr ⟨z, hm, rfl⟩)) ((hz z hm).mono hs)
    refine ⟨a, zs.map fun z => (z.1, z.2.py), rfl, ?_, fun y hy => ?_, ?_, ?_, fun y hy => ?_, fun p hp => ?_⟩
    · rw [List.map_map]
      exact SqL.of (hs _ _ h1)
    · obtain ⟨z, hm, rfl⟩ := List.mem_map.mp hy
      exact (hpy z hm).1
    · rw [List.map_map] at hal ⊢
      exact hal
    · rw [List.map_map] at hso ⊢
      exact hso
    · obtain ⟨z, hm, rfl⟩ := List.mem_map.mp hy
      exact Nat.le_trans (hpy z hm).2.2 (by decide)
    · have e1 : ((zs.map fun z => (z.1, z.2.py)).mergeSort (PySem.W.dataLe false (·.2))).map (·.1) = (zs.mergeSort fun x y => leD x.2 y.2).map (·.1) := by
        rw [← PySem.W.sort_maps (r := fun x y => leD x.2 y.2) (fun z : V × D => (z.1, z.2.py)) (fun a _ b _ => rfl), List.map_map]
        rfl
      have e2 : sortD (zs.map (·.2)) = (zs.mergeSort fun x y => leD x.2 y.2).map (·.2) := by
        unfold sortD
        rw [← PySem.W.sort_maps (r := fun x y => leD x.2 y.2) (fun z : V × D => z.2) (fun a _ b _ => rfl)]
      rw [e1]
      rw [e2] at hq
      exact Ext.lst hs (RpA.unpair fun z hm => hz z (List.mem_mergeSort.mp hm)) hq k hp
  · exact h.elim⟩
/-! ### isinstance, the class an own one -/
/-- what makes an own class answer isinstance -/
structure IsiC (K : PySem.W.Frag) (C : Addr) : Prop where
  cl : Cls K C
  ha : PySem.W.findIn K (.ref C) "__class__" = some (some (.builtin "object.__class__"))
  hn : PySem.W.specialIn K (.builtin "object.__class__") "__get__" = some (some (.builtin "getset_descriptor.__get__"))
  htk : PySem.W.takesIn K (.builtin "object.__class__") = some true
  hm : PySem.W.mroIn K C (.type "object") = some true
def pIsiC (K : PySem.W.Frag) (p : PD) (pc : PD) : PX := fun s q => p s fun d s1 => pc s1 fun c s2 => match d, c with
  | .obj C _ _, .opq (.ref C0) => IsiC K C ∧ ∃ b, PySem.W.kitOne K (.ref C) (.ref C0) = some b ∧ q (.fr (.bl b)) s2
  | _, _ => False
instance (priority := low) {t tc : TE} {p pc : PD} [LiftD K Ξ t p] [LiftD K Ξ tc pc] : LiftE K Ξ (tCB (rIsi K) (tCons t (tCons tc tNil))) (pIsiC K p pc) := ⟨fun {F H ω s σ Q} q T h k => by
  refine LiftD.run (K := K) (t := t) (p := p) _ T h fun v F1 H1 ω1 d s1 p1 T1 r1 h1 => ?_
  refine LiftD.run (K := K) (t := tc) (p := pc) _ T1 h1 fun vc F2 H2 ω2 c s2 p2 T2 r2 h2 => ?_
  split at h2
  · rename_i C ns ds C0
    obtain ⟨f, b, hb, hq⟩ := h2
    obtain ⟨a, dx, vs, rfl, e1, e2, e3⟩ := (r1.mono p2.sf)
    cases (show vc = _ from r2)
    exact ⟨.ref a, .ref C0, .ref C, .ref C0, b, rfl, .own C0, .base (.ins (T2.sf _ _ e1) f.cl f.ha f.hn f.htk f.hm), hb, k _ F2 H2 ω2 (.fr (.bl b)) s2 (p1.trans p2) T2 rfl hq⟩
  · exact h2.elim⟩
/-- a name's own object, which stays its own -/
def pIsiV (K : PySem.W.Frag) (i : Nat) (pc : PD) : PX := fun s q => pc s fun c s2 => match s2[i]?, c with
  | some (some (.ow _ (.ob C _ _))), .opq (.ref C0) => IsiC K C ∧ ∃ b, PySem.W.kitOne K (.ref C) (.ref C0) = some b ∧ q (.fr (.bl b)) s2
  | some (some (.fr (.obj C _ _))), .opq (.ref C0) => IsiC K C ∧ ∃ b, PySem.W.kitOne K (.ref C) (.ref C0) = some b ∧ q (.fr (.bl b)) s2
  | _, _ => False
end
/-! ### comprehensions with two for -/
theorem walk_it {J : It} {n : Nat} {G : Hp → Prop} {Y : Nat → Hp → V → Hp → Prop} (w : Walk J n G Y) {B : V → Hp → (Hp → Prop) → Prop} {H0 : Hp} {Qd : Hp → Prop} (Pv : Nat → Hp → Prop) (h0 : Pv 0 H0) (hG : ∀ i H, i ≤ n → Pv i H → G H)
    (hs : ∀ i x H H', i < n → Pv i H → Y i H x H' → B x H' (Pv (i + 1))) (hd : ∀ H, Pv n H → Qd H) :
    ∃ W : Nat → Nat → Hp → Prop, (∃ m, W 0 m H0) ∧ ∀ i m H, W i m H → (J.stop i H ∧ Qd H) ∨ (J.go i H ∧ ∃ Nx : Hp → Prop, (∀ H', Nx H' → ∃ m', m' < m ∧ W (i + 1) m' H') ∧ ∀ x H', J.yld i H x H' → B x H' Nx) := by
  refine ⟨fun i m H => m = n - i ∧ i ≤ n ∧ Pv i H, ⟨n, by simp, Nat.zero_le _, h0⟩, fun i m H h => ?_⟩
  obtain ⟨rfl, hi, p⟩ := h
  have q := hG i H hi p
  rcases Nat.lt_or_ge i n with hlt | hge
  · exact .inr ⟨w.goes i H hlt q, Pv (i + 1), fun H' p' => ⟨n - (i + 1), by omega, rfl, hlt, p'⟩, fun x H' y => hs i x H H' hlt p (w.yields i H x H' hlt q y)⟩
  · obtain rfl : i = n := by omega
    exact .inl ⟨w.stops H q, hd H p⟩
theorem wipe_in (σ : L2.St) {vs : List Nat} : ∀ {ws : List Nat}, (∀ i ∈ ws, i ∈ vs) → L2.wipe (L2.wipe σ ws) vs = L2.wipe σ vs
  | [], _ => rfl
  | w :: ws, h => by
    show L2.wipe ((L2.wipe σ ws).set w none) vs = _
    rw [wipe_mem (h w List.mem_cons_self)]
    exact wipe_in σ fun i hi => h i (List.mem_cons_of_mem _ hi)
section
variable {K : PySem.W.Frag} {Ξ : XI}
def pLc2 (pi : PI1) (pg : PG1) (ss : List Nat) (pt : PT1) (pi1 : PI1) (pg1 : PG1) (ss1 : List Nat) (pt1 : PT1) (pe : PD) (vs vs1 : List Nat) : PX := fun s q => pi s fun ds s1 => if (ss.all vs.contains && ss1.all vs1.contains && vs1.all vs.contains) = true then
  ∃ I : Nat → List D → Sl → Prop, I 0 [] (wipeS s1 vs) ∧
  (∀ i d acc s2, ds[i]? = some d → I i acc s2 → pg d s2 fun s3 => pt s3 (fun s4 => pi1 s4 fun es s5 => ∃ J : Nat → List D → Sl → Prop, J 0 acc (wipeS s5 vs1) ∧
    (∀ j e acc s6, es[j]? = some e → J j acc s6 → pg1 e s6 fun s7 => pt1 s7 (fun s8 => pe s8 fun x s9 => acc.length < 1000000 ∧ J (j + 1) (acc ++ [x]) (wipeS s9 vs1)) (fun s8 => J (j + 1) acc (wipeS s8 vs1))) ∧
    ∀ acc s6, J es.length acc s6 → I (i + 1) acc (wipeS s6 vs)) (fun s4 => I (i + 1) acc (wipeS s4 vs))) ∧
  ∀ acc s2, I ds.length acc s2 → q (.ow false (.lst acc)) s2 else False
instance {wi wi1 : TI} {g g1 : TG} {tt tt1 : TT} {te : TE} {vs vs1 : List Nat} {pi pi1 : PI1} {pg pg1 : PG1} {ss ss1 : List Nat} {pt pt1 : PT1} {pe : PD} [LiftI K Ξ wi pi] [LiftG K XI.zero g pg ss] [LiftT K XI.zero tt pt] [LiftI K XI.zero wi1 pi1] [LiftG K XI.zero g1 pg1 ss1] [LiftT K XI.zero tt1 pt1] [LiftD K XI.zero te pe] :
    LiftE K Ξ (tLc2 wi g tt wi1 g1 tt1 te vs vs1) (pLc2 pi pg ss pt pi1 pg1 ss1 pt1 pe vs vs1) := ⟨fun {F H ω s σ Q} kk T h k => by
  refine LiftI.run (K := K) (t := wi) (p := pi) _ T h fun J F1 H1 ω1 ds s1 p1 T1 w1 h1 => ?_
  split at h1
  rotate_left
  · exact h1.elim
  rename_i hss
  rw [Bool.and_eq_true, Bool.and_eq_true] at hss
  have hss0 : ∀ i ∈ ss, i ∈ vs := fun i hi => by simpa using List.all_eq_true.mp hss.1.1 i hi
  have hss1 : ∀ i ∈ ss1, i ∈ vs1 := fun i hi => by simpa using List.all_eq_true.mp hss.1.2 i hi
  have hvv : ∀ i ∈ vs1, i ∈ vs := fun i hi => by simpa using List.all_eq_true.mp hss.2 i hi
  obtain ⟨I, i0, istep, iend⟩ := h1
  obtain ⟨G, Y, W, hG, hY⟩ := w1
  intro A hA
  have e0 : Ext F1 H1 F1 (upd H1 A (.lst [])) := Ext.ow T1.sf hA _
  obtain ⟨p2, T2⟩ := e0.stp T1
  refine walk_it W (B := fun x H' Nx => g x (wipe σ vs) H' fun σ2 H2 => wipe σ2 vs = wipe σ vs ∧ tt σ2 H2 fun b H3 =>
    if b = true then wi1 σ2 H3 fun J1 H4 => ∃ W1 : Nat → Nat → Hp → Prop, (∃ m, W1 0 m H4) ∧ ∀ j k H, W1 j k H →
      (J1.stop j H ∧ Nx H) ∨ (J1.go j H ∧ ∃ Nx1 : Hp → Prop, (∀ H', Nx1 H' → ∃ k', k' < k ∧ W1 (j + 1) k' H') ∧ ∀ x H', J1.yld j H x H' → g1 x (wipe σ2 vs1) H' fun σ3 H5 => wipe σ3 vs1 = wipe σ2 vs1 ∧ tt1 σ3 H5 fun b H6 =>
        if b = true then te σ3 H6 fun y H7 => ∃ acc, H7 A = some (.lst acc) ∧ acc.length < sizeLine ∧ Nx1 (upd H7 A (.lst (acc ++ [y]))) else Nx1 H6)
    else Nx H3)
    (fun i H' => ∃ F2 ω2 s2 acc ws, Stp F1 H1 ω1 F2 H' ω2 ∧ Sta K XI.zero F2 H' ω2 s2 (L2.wipe σ vs) ∧ ω2 A = none ∧ F2 A = none ∧ H' A = some (.lst ws) ∧ RpA K F2 acc ws ∧ I i acc s2) ?_ ?_ ?_ ?_
  · exact ⟨F1, ω1, wipeS s1 vs, [], [], p2, ⟨(T2.wipe vs).base, Exo.zero⟩, Sta.free T1.base hA, T1.sf.free hA, upd_same, rfl, i0⟩
  · rintro i H' hi ⟨F2, ω2, s2, acc, ws, p3, T3, _⟩
    exact hG H' (p3.sf.trans T3.sf)
  · rintro i x H' H'' hi ⟨F2, ω2, s2, acc, ws, p3, T3, a1, a2, a3, a4, hI⟩ y
    have hd : ds[i]? = some ds[i] := List.getElem?_eq_getElem hi
    obtain ⟨F3, e3, r3⟩ := hY i H' x H'' F2 _ hd p3.sf T3.sf y
    obtain ⟨p4, T4⟩ := e3.stp T3
    refine LiftG.run (K := K) (g := g) (p := pg) (ss := ss) _ T4 r3 (istep i _ acc s2 hd hI) fun σ5 s5 T5 w5 h5 => ?_
    have hw5 : L2.wipe σ5 vs = L2.wipe σ vs := by rw [w5 vs hss0]; exact wipe_wipe σ vs
    refine ⟨hw5, ?_⟩
    have pp := p3.trans p4
    refine LiftT.run (K := K) (t := tt) (p := pt) _ _ T5 h5 fun b F6 H6 ω6 s6 p6 T6 h6 => ?_
    have b1 : H'' A = some (.lst ws) := e3.sh _ _ a3
    have b2 : F3 A = none := e3.fn _ _ a3 a2
    have c1 := p6.fr A _ (T1.tb.new hA) a1 b1
    have c2 := p6.fn A _ a1 b1 b2
    have c3 := p6.om A _ a1 b1
    cases b with
    | false =>
      refine iteF ⟨F6, ω6, wipeS s6 vs, acc, ws, pp.trans p6, ?_, c3, c2, c1, a4.mono (e3.sf.trans p6.sf), by simpa using h6⟩
      have T7 := T6.wipe vs
      rw [hw5] at T7
      exact T7
    | true =>
      refine iteT (LiftI.run (K := K) (t := wi1) (p := pi1) _ T6 (by simpa using h6) fun J1 F7 H7 ω7 es s7 p7 T7 w7 h7 => ?_)
      obtain ⟨Jv, j0, jstep, jend⟩ := h7
      obtain ⟨G1, Y1, W1, hG1, hY1⟩ := w7
      have pq := (pp.trans p6).trans p7
      have d1 := p7.fr A _ (T1.tb.new hA) c3 c1
      have d2 := p7.fn A _ c3 c1 c2
      have d3 := p7.om A _ c3 c1
      refine walk_it W1 (B := fun x H' Nx1 => g1 x (wipe σ5 vs1) H' fun σ3 H5 => wipe σ3 vs1 = wipe σ5 vs1 ∧ tt1 σ3 H5 fun b H6 =>
        if b = true then te σ3 H6 fun y H7 => ∃ acc, H7 A = some (.lst acc) ∧ acc.length < sizeLine ∧ Nx1 (upd H7 A (.lst (acc ++ [y]))) else Nx1 H6)
        (fun j H' => ∃ F2 ω2 s2 acc ws, Stp F1 H1 ω1 F2 H' ω2 ∧ Same F7 F2 ∧ Sta K XI.zero F2 H' ω2 s2 (L2.wipe σ5 vs1) ∧ ω2 A = none ∧ F2 A = none ∧ H' A = some (.lst ws) ∧ RpA K F2 acc ws ∧ Jv j acc s2) ?_ ?_ ?_ ?_
      · exact ⟨F7, ω7, wipeS s7 vs1, acc, ws, pq, Same.refl _, T7.wipe vs1, d3, d2, d1, a4.mono ((e3.sf.trans p6.sf).trans p7.sf), j0⟩
      · rintro j H' hj ⟨F2, ω2, s2, acc, ws, p3, sv, T3, _⟩
        exact hG1 H' (sv.trans T3.sf)
      · rintro j x H' H'' hj ⟨F2, ω2, s2, acc, ws, p3, sv, T3, a1, a2, a3, a4, hJ⟩ y
        have he : es[j]? = some es[j] := List.getElem?_eq_getElem hj
        obtain ⟨F3, e3, r3⟩ := hY1 j H' x H'' F2 _ he sv T3.sf y
        obtain ⟨p4, T4⟩ := e3.stp T3
        refine LiftG.run (K := K) (g := g1) (p := pg1) (ss := ss1) _ T4 r3 (jstep j _ acc s2 he hJ) fun σ8 s8 T8 w8 h8 => ?_
        have hw8 : L2.wipe σ8 vs1 = L2.wipe σ5 vs1 := by rw [w8 vs1 hss1]; exact wipe_wipe σ5 vs1
        refine ⟨hw8, ?_⟩
        have pp := p3.trans p4
        refine LiftT.run (K := K) (t := tt1) (p := pt1) _ _ T8 h8 fun b F9 H9 ω9 s9 p9 T9 h9 => ?_
        have b1 : H'' A = some (.lst ws) := e3.sh _ _ a3
        have b2 : F3 A = none := e3.fn _ _ a3 a2
        have c1 := p9.fr A _ (T1.tb.new hA) a1 b1
        have c2 := p9.fn A _ a1 b1 b2
        have c3 := p9.om A _ a1 b1
        cases b with
        | false =>
          refine iteF ⟨F9, ω9, wipeS s9 vs1, acc, ws, pp.trans p9, sv.trans (e3.sf.trans p9.sf), ?_, c3, c2, c1, a4.mono (e3.sf.trans p9.sf), by simpa using h9⟩
          have T10 := T9.wipe vs1
          rw [hw8] at T10
          exact T10
        | true =>
          refine iteT (LiftD.run (K := K) (t := te) (p := pe) _ T9 (by simpa using h9) fun v F10 H10 ω10 d s10 p10 T10 r10 h10 => ?_)
          obtain ⟨hlen, h10⟩ := h10
          have z1 := p10.fr A _ (T1.tb.new hA) c3 c1
          have z2 := p10.fn A _ c3 c1 c2
          have z3 := p10.om A _ c3 c1
          have hlA : ws.length = acc.length := a4.len.symm
          have T11 := T10.wipe vs1
          rw [hw8] at T11
          exact ⟨ws, z1, Nat.lt_trans (show ws.length < 1000000 by omega) (by decide), F10, ω10, wipeS s10 vs1, acc ++ [d], ws ++ [v], ((pp.trans p9).trans p10).mutNew hA, sv.trans ((e3.sf.trans p9.sf).trans p10.sf), ⟨Sta.mutFree T11.base z3 z2 (T1.tb.new hA), Exo.zero⟩, z3, z2, upd_same,
            ((a4.mono ((e3.sf.trans p9.sf).trans p10.sf)).snoc r10), h10⟩
      · rintro H' ⟨F2, ω2, s2, acc, ws, p3, sv, T3, a1, a2, a3, a4, hJ⟩
        refine ⟨F2, ω2, wipeS s2 vs, acc, ws, p3, ?_, a1, a2, a3, a4, jend acc s2 hJ⟩
        have T4 := T3.wipe vs
        rw [show L2.wipe (L2.wipe σ5 vs1) vs = L2.wipe σ vs by rw [wipe_in σ5 hvv]; exact hw5] at T4
        exact T4
  · rintro H' ⟨F2, ω2, s2, acc, ws, p3, T3, a1, a2, a3, a4, hI⟩
    exact k _ F2 H' ω2 (.ow false (.lst acc)) s2 (p1.trans p3) ⟨⟨T3.tb, T3.sf, T3.ow, fun i x h => (T3.at' i x h).elim fun v hv => ⟨v, (wipe_some hv.1).1, hv.2⟩, by rw [T3.len, wipe_length], T3.ix⟩, T1.ex.step p3⟩
      ⟨A, [A], rfl, fun a ha => by cases List.mem_singleton.mp ha; exact ⟨p1.tr A hA, a1, a2⟩, obj_lst a3 a4⟩ (iend acc s2 hI)⟩
end
section
variable {X : Cx} {K : PySem.W.Frag}
theorem pi_listk {tg e : Expr} {ta : TE} (h : X.K = K) (he : PE X e ta) : PI X tg e (iList K ta) := by subst h; exact pi_list he
theorem pi_tupk {tg e : Expr} {ta : TE} (h : X.K = K) (he : PE X e ta) : PI X tg e (iTup K ta) := by subst h; exact pi_tup he
end
/-! ### in, not in: data in a list of data -/
section
variable {X : Cx} {K : PySem.W.Frag}
theorem inDk (h : X.K = K) (hu : X.A.units + 65 < cLine) : OpR X (compareOp .In) (rInD K) := by subst h; exact op_inD hu
theorem niDk (h : X.K = K) (hu : X.A.units + 65 < cLine) : OpR X (compareOp .NotIn) (rNotInD K) := by subst h; exact op_notInD hu
open Classical in
noncomputable def memD (d : D) (xs : List D) : Bool := decide (d ∈ xs)
theorem memD_true {d : D} {xs : List D} (h : d ∈ xs) : memD d xs = true := by unfold memD; exact @decide_eq_true _ (_) h
theorem memD_false {d : D} {xs : List D} (h : d ∉ xs) : memD d xs = false := by unfold memD; exact @decide_eq_false _ (_) h
theorem of_memD {d : D} {xs : List D} (h : memD d xs = true) : d ∈ xs := by unfold memD at h; exact @of_decide_eq_true _ (_) h
theorem of_memD_f {d : D} {xs : List D} (h : memD d xs = false) : d ∉ xs := by unfold memD at h; exact @of_decide_eq_false _ (_) h
def gInD (f : Bool → Bool) : D → D → (S → Prop) → Prop := fun d e q => match e with
  | .lst xs => D.plN 60 d = true ∧ D.plN 60 (.lst xs) = true ∧ q (.fr (.bl (f (memD d xs))))
  | _ => False
theorem pys_any {d : D} (h1 : D.plN 60 d = true) : ∀ {xs : List D}, xs.all (D.plN 59) = true → ((D.pys xs).any fun z => PyData.eqv z d.py) = memD d xs
  | [], _ => (memD_false (by simp)).symm
  | x :: xs, h => by
    have ⟨h2, h3⟩ := all_cons h
    show (PyData.eqv x.py d.py || (D.pys xs).any fun z => PyData.eqv z d.py) = _
    rw [pys_any h1 h3]
    have hx : D.plN 60 x = true := by
      have : ∀ (n : Nat) (d : D), D.plN n d = true → D.plN (n + 1) d = true := by
        intro n
        induction n with
        | zero => intro d h; cases d <;> first | exact h | cases h
        | succ n ih =>
          intro d h
          have al : ∀ ds : List D, ds.all (D.plN n) = true → ds.all (D.plN (n + 1)) = true := fun ds hd =>
            List.all_eq_true.mpr fun x hx => ih _ (List.all_eq_true.mp hd x hx)
          cases d <;> first | exact h | exact al _ h
      exact this 59 x h2
    by_cases e : x = d
    · rw [(eqv_iff 60 hx h1).mpr e, memD_true (show d ∈ x :: xs from e ▸ List.mem_cons_self), Bool.true_or]
    · rw [Bool.eq_false_iff.mpr fun z => e ((eqv_iff 60 hx h1).mp z), Bool.false_or]
      by_cases m : d ∈ xs
      · rw [memD_true m, memD_true (List.mem_cons_of_mem _ m)]
      · rw [memD_false m, memD_false]
        intro z
        rcases List.mem_cons.mp z with z | z
        · exact e z.symm
        · exact m z
theorem gInD_run (f : Bool → Bool) {F H : Hp} {x y : V} {d e : D} {Q : VK} (q : S → Prop) (hs : Same F H) (h1 : Rp K F d x) (h2 : Rp K F e y) (h : gInD f d e q) (k : ∀ v F' H' z, Ext F H F' H' → Rn K H F' H' z v → q z → Q v H') :
    ∃ a b, Dp K H x a ∧ Dp K H y (.list b) ∧ SeqAt.shaped a = true ∧ SeqAt.shaped (.list b) = true ∧ Q (.bl (f (b.any fun z => PyData.eqv z a))) H := by
  unfold gInD at h
  split at h
  · rename_i xs
    obtain ⟨p1, p2, hq⟩ := h
    obtain ⟨a1, a2, a3⟩ := py_of 60 p1 (h1.mono hs)
    obtain ⟨b1, b2, b3⟩ := py_of 60 p2 (h2.mono hs)
    refine ⟨_, D.pys xs, a1, b1, shaped_mk a2 (Nat.le_trans a3 (by decide)), shaped_mk b2 (Nat.le_trans b3 (by decide)), ?_⟩
    rw [pys_any p1 p2]
    exact k _ F H (.fr (.bl _)) (Ext.refl hs) rfl hq
  · exact h.elim
instance : OpL K (rInD K) (gInD id) := ⟨fun q hs h1 h2 h k => gInD_run id q hs h1 h2 h k⟩
instance : OpL K (rNotInD K) (gInD not) := ⟨fun q hs h1 h2 h k => gInD_run not q hs h1 h2 h k⟩
end
/-! ### == of an own list that stays own (printed where cfg's eqown says) -/
section
variable {X : Cx} {K : PySem.W.Frag} {Ξ : XI}
def rEqDV (K : PySem.W.Frag) : R2 := rEqD K
theorem eqDkV (h : X.K = K) (hu : X.A.units + 64 < cLine) : OpR X (compareOp .Eq) (rEqDV K) := eqDk h hu
def pEqV (i : Nat) (p : PD) : PX := fun s q => (∃ b xs, s[i]? = some (some (.ow b (.lst xs)))) ∧ p s fun e s1 => ∃ b xs, s1[i]? = some (some (.ow b (.lst xs))) ∧ D.plN 60 (.lst xs) = true ∧ D.plN 60 e = true ∧ q (.fr (.bl (eqD (.lst xs) e))) s1
instance {i : Nat} {t : TE} {p : PD} [LiftD K Ξ t p] : LiftE K Ξ (tOp (rEqDV K) (tVar i) t) (pEqV i p) := ⟨fun {F H ω s σ Q} q T h k => by
  obtain ⟨⟨b0, xs0, e0⟩, h⟩ := h
  obtain ⟨v0, hv0, _⟩ := T.lst i e0
  refine ⟨v0, hv0, LiftD.run (K := K) (t := t) (p := p) _ T h fun y F1 H1 ω1 e s1 p1 T1 r1 h1 => ?_⟩
  obtain ⟨b, xs, e1, hp1, hp2, hq⟩ := h1
  obtain ⟨v, hv, l, rfl, hl, ws, h2, h3⟩ := T1.lst i e1
  rw [hv0] at hv
  cases hv
  have al : xs.all (D.plN 59) = true := hp1
  have h3' : RpA K H1 xs ws := h3.mono T1.sf
  obtain ⟨a1, a2, a3⟩ := pys_of (n := 59) (F := H1) (fun hp h => py_of 59 hp h) al h3'
  obtain ⟨b1, b2, b3⟩ := py_of 60 hp2 (r1.mono T1.sf)
  have hdp : (PyData.list (D.pys xs)).depth ≤ 64 := by
    have : (PyData.list (D.pys xs)).depth = PyData.depthAll (D.pys xs) + 1 := by first | rfl | exact Nat.add_comm _ _
    omega
  refine ⟨.list (D.pys xs), _, .lst (SqL.of h2) a1, b1, shaped_mk a2 hdp, shaped_mk b2 (Nat.le_trans b3 (by decide)), ?_⟩
  rw [show PyData.eqv (.list (D.pys xs)) e.py = eqD (.lst xs) e from eqD_is (d := .lst xs) hp1 hp2]
  exact k _ F1 H1 ω1 (.fr (.bl _)) s1 p1 T1 rfl hq⟩
def rNeDV (K : PySem.W.Frag) : R2 := rNeD K
theorem neDkV (h : X.K = K) (hu : X.A.units + 64 < cLine) : OpR X (compareOp .NotEq) (rNeDV K) := neDk h hu
def pNeV (i : Nat) (p : PD) : PX := fun s q => (∃ b xs, s[i]? = some (some (.ow b (.lst xs)))) ∧ p s fun e s1 => ∃ b xs, s1[i]? = some (some (.ow b (.lst xs))) ∧ D.plN 60 (.lst xs) = true ∧ D.plN 60 e = true ∧ q (.fr (.bl (!eqD (.lst xs) e))) s1
instance {i : Nat} {t : TE} {p : PD} [LiftD K Ξ t p] : LiftE K Ξ (tOp (rNeDV K) (tVar i) t) (pNeV i p) := ⟨fun {F H ω s σ Q} q T h k => by
  obtain ⟨⟨b0, xs0, e0⟩, h⟩ := h
  obtain ⟨v0, hv0, _⟩ := T.lst i e0
  refine ⟨v0, hv0, LiftD.run (K := K) (t := t) (p := p) _ T h fun y F1 H1 ω1 e s1 p1 T1 r1 h1 => ?_⟩
  obtain ⟨b, xs, e1, hp1, hp2, hq⟩ := h1
  obtain ⟨v, hv, l, rfl, hl, ws, h2, h3⟩ := T1.lst i e1
  rw [hv0] at hv
  cases hv
  have al : xs.all (D.plN 59) = true := hp1
  have h3' : RpA K H1 xs ws := h3.mono T1.sf
  obtain ⟨a1, a2, a3⟩ := pys_of (n := 59) (F := H1) (fun hp h => py_of 59 hp h) al h3'
  obtain ⟨b1, b2, b3⟩ := py_of 60 hp2 (r1.mono T1.sf)
  have hdp : (PyData.list (D.pys xs)).depth ≤ 64 := by
    have : (PyData.list (D.pys xs)).depth = PyData.depthAll (D.pys xs) + 1 := by first | rfl | exact Nat.add_comm _ _
    omega
  refine ⟨.list (D.pys xs), _, .lst (SqL.of h2) a1, b1, shaped_mk a2 hdp, shaped_mk b2 (Nat.le_trans b3 (by decide)), ?_⟩
  rw [show PyData.eqv (.list (D.pys xs)) e.py = eqD (.lst xs) e from eqD_is (d := .lst xs) hp1 hp2]
  exact k _ F1 H1 ω1 (.fr (.bl _)) s1 p1 T1 rfl hq⟩
end
/-! ### xs[i] += e: a list's item -/
section
variable {X : Cx} {K : PySem.W.Frag} {Ξ : XI}
theorem get_list (h : X.K = K) : PGet X (rIxL K) := by
  subst h
  intro pins s σ H o i ov iv Q I ro ri h
  obtain ⟨p, xs, k, z, rfl, rfl, hq, he, q⟩ := h
  cases ro
  obtain ⟨t, rfl⟩ := ri
  obtain ⟨its, r, pl, hz⟩ := I.list hq
  obtain ⟨j, h1, h2, h3, h4, h5⟩ := L2.atI_get he
  obtain ⟨w, ew, rw'⟩ := r.get h2
  have hl := r.length
  have hn := line63
  have fin : EP X pins σ Q w s := ⟨z, H, I, rw', q⟩
  by_cases h0 : 0 ≤ k
  · have hj : k.toNat = j := by
      rw [seqIndex_of h0 h5] at h1
      exact Option.some.inj h1
    exact wpAny_getItem_list pl.isList h0 (by omega) (by rw [hj]; simpa using ew) fin
  · have hj : (k + (its.toArray.size : Int)).toNat = j := by
      rw [seqIndex_neg (by omega) h4] at h1
      rw [List.size_toArray, ← hl]
      exact Option.some.inj h1
    exact wpAny_getItem_list_neg (Q := fun r s' => EP X pins σ Q r s') pl.isList (by omega) (by rw [List.size_toArray] <;> omega) (by omega) (by rw [hj]; simpa using ew) fin
/-- the item's number, a number: the list is own -/
def psAugSub (i : Nat) (pi pe : PD) (f : Int → Int → Int) : PS1 := fun E s => (∃ b xs, s[i]? = some (some (.ow b (.lst xs)))) ∧ pi s fun e s1 => match e with
  | .int k => ∃ b xs j a, s1[i]? = some (some (.ow b (.lst xs))) ∧ ixN xs.length k = some j ∧ xs[j]? = some (.int a) ∧ pe s1 fun d s2 => match d with
    | .int c => ∃ b', s2[i]? = some (some (.ow b' (.lst xs))) ∧ E.nx (s2.set i (some (.ow b' (.lst (xs.set j (.int (f a c)))))))
    | _ => False
  | _ => False
instance {i : Nat} {ti te : TE} {pi pe : PD} {f : Int → Int → Int} [LiftD K Ξ ti pi] [LiftD K Ξ te pe] : LiftS K Ξ (tAugS (tVar i) ti te (rIxL K) (ipI f) rSetL) (psAugSub i pi pe f) := ⟨fun E T h M => by
  obtain ⟨⟨b0, xs0, e0⟩, h⟩ := h
  obtain ⟨v0, hv0, _⟩ := T.lst i e0
  refine ⟨v0, hv0, LiftD.run (K := K) (t := ti) (p := pi) _ T h fun v F1 H1 ω1 d s1 p1 T1 r1 h1 => ?_⟩
  split at h1
  · rename_i k
    obtain ⟨b, xs, j, a, e1, ej, ea, h1⟩ := h1
    obtain ⟨v1, hv1, l, rfl, hl, ws, q1, q2⟩ := T1.lst i e1
    rw [hv0] at hv1
    cases hv1
    cases (show v = _ from r1)
    have hat : atI xs k = some (.int a) := by
      unfold L2.atI
      rw [ej]
      exact ea
    obtain ⟨z, hz, rz⟩ := q2.atI hat
    cases (show z = _ from rz)
    refine ⟨l, ws, k, _, rfl, rfl, SqL.of q1, hz, ?_⟩
    refine LiftD.run (K := K) (t := te) (p := pe) _ T1 h1 fun w F2 H2 ω2 d2 s2 p2 T2 r2 h2 => ?_
    split at h2
    · rename_i c
      obtain ⟨b', e2, h2⟩ := h2
      cases (show w = _ from r2)
      obtain ⟨v2, hv2, l2, rfl, hl2, ws2, q3, q4⟩ := T2.lst i e2
      rw [hv0] at hv2
      cases hv2
      refine ⟨a, c, rfl, rfl, ?_⟩
      refine ⟨l, ws2, k, j, rfl, rfl, q3, by rw [← q4.len]; exact ej, ?_⟩
      obtain ⟨ω3, p3, T3⟩ := T2.mut (u := .lst (ws2.set j (.int (f a c)))) hv0 hl2 (o' := .lst (xs.set j (.int (f a c)))) (obj_lst upd_same (q4.set j rfl))
      exact M.nx ((p1.trans p2).trans p3) T3 h2
    · exact h2.elim
  · exact h1.elim⟩
end
/-! ### places: a part of a name's own object (an item of an own list of own lists, a field of an own object), read and changed in place -/
section
variable {K : PySem.W.Frag} {Ξ : XI} {F H : Hp}
/-- l holds parts with these values -/
def PartsAt (H : Hp) (l : Addr) (vs : List V) : Prop := H l = some (.lst vs) ∨ H l = some (.tup vs) ∨ ∃ (C dx : Addr) (ns : List Str), H l = some (.ins C dx (ns.zip vs)) ∧ ns.length = vs.length
theorem PartsAt.uniq {l : Addr} {vs ws : List V} (h : PartsAt H l vs) (g : PartsAt H l ws) : vs = ws := by
  rcases h with h | h | ⟨C, dx, ns, h, e⟩ <;> rcases g with g | g | ⟨C', dx', ns', g, e'⟩ <;> rw [h] at g
  case inr.inr.inr.inr =>
    have g := Option.some.inj g
    injection g with _ _ q
    have := congrArg (List.map Prod.snd) q
    rwa [List.map_snd_zip (by omega), List.map_snd_zip (by omega)] at this
  all_goals first | (cases g; rfl) | (cases g; done)
def O.parts : O → Option (List S)
  | .nl cs => some cs
  | .nt cs => some cs
  | .ob _ _ cs => some cs
  | _ => none
def O.setPart (j : Nat) (x : S) : O → O
  | .nl cs => .nl (cs.set j x)
  | .nt cs => .nt (cs.set j x)
  | .ob C ns cs => .ob C ns (cs.set j x)
  | o => o
theorem ObjR.parts {o : O} {l : Addr} {A : List Addr} {cs : List S} (h : ObjR K F H o l A) (e : o.parts = some cs) : ∃ vs B, A = l :: B ∧ l ∉ B ∧ PartsAt H l vs ∧ PtsR K F H cs vs B := by
  cases o with
  | nl xs => cases e; obtain ⟨vs, B, h1, h2, h3, h4⟩ := h; exact ⟨vs, B, h1, h2, .inl h3, h4⟩
  | nt xs => cases e; obtain ⟨vs, B, h1, h2, h3, h4⟩ := h; exact ⟨vs, B, h1, h2, .inr (.inl h3), h4⟩
  | ob C ns xs => cases e; obtain ⟨dx, vs, B, h1, h2, h3, h4, h5⟩ := h; exact ⟨vs, B, h1, h2, .inr (.inr ⟨_, _, _, h3, h4⟩), h5⟩
  | lst _ => cases e
  | dk _ => cases e
  | dn _ _ => cases e
/-- the object with one part changed in place (its value stays) -/
theorem ObjR.setPart {H2 : Hp} {o : O} {l : Addr} {A B' : List Addr} {cs : List S} {vs : List V} {j : Nat} {x : S} (h : ObjR K F H o l A) (e : o.parts = some cs) (hp : PartsAt H l vs) (hl : H2 l = H l) (hB : l ∉ B') (hr : PtsR K F H2 (cs.set j x) vs B') : ObjR K F H2 (o.setPart j x) l (l :: B') := by
  cases o with
  | nl xs =>
    cases e; obtain ⟨ws, B, h1, h2, h3, h4⟩ := h
    cases hp.uniq (.inl h3)
    exact ⟨vs, B', rfl, hB, hl.trans h3, hr⟩
  | nt xs =>
    cases e; obtain ⟨ws, B, h1, h2, h3, h4⟩ := h
    cases hp.uniq (.inr (.inl h3))
    exact ⟨vs, B', rfl, hB, hl.trans h3, hr⟩
  | ob C ns xs =>
    cases e; obtain ⟨dx, ws, B, h1, h2, h3, h4, h5⟩ := h
    cases hp.uniq (.inr (.inr ⟨_, _, _, h3, h4⟩))
    exact ⟨dx, vs, B', rfl, hB, hl.trans h3, h4, hr⟩
  | lst _ => cases e
  | dk _ => cases e
  | dn _ _ => cases e
/-- the j-th part, and the others -/
theorem PtsR.part : ∀ {cs : List S} {vs : List V} {B : List Addr} {j : Nat} {b : Bool} {o : O}, PtsR K F H cs vs B → cs[j]? = some (.ow b o) →
    ∃ l A1, vs[j]? = some (.ref l) ∧ ObjR K F H o l A1 ∧ (∀ a ∈ A1, a ∈ B) ∧
      ∀ (H2 : Hp) (x : S) (A2 : List Addr), (∀ a, a ∉ A1 → ∀ u, H a = some u → H2 a = some u) → PtR K F H2 x (.ref l) A2 → (∀ a ∈ A2, a ∈ A1 ∨ H a = none) → ∃ B', PtsR K F H2 (cs.set j x) vs B' ∧ ∀ a ∈ B', a ∈ B ∨ a ∈ A2
  | [], _, _, _, _, _, _, e => by simp at e
  | c :: cs, vs, B, 0, b, o, r, e => by
    have e : c = .ow b o := by simpa using e
    subst e
    obtain ⟨l, ws, A1, A2, rfl, rfl, h1, h2, h3⟩ := r
    refine ⟨l, A1, rfl, h2, fun a ha => List.mem_append_left _ ha, fun H2 x B1 hk hx hn => ?_⟩
    have k3 : PtsR K F H2 cs ws A2 := h3.heap fun a ha u hu => hk a (fun z => h1 a z ha) u hu
    refine ⟨B1 ++ A2, PtsR.cons hx (fun a ha z => ?_) k3, fun a ha => (List.mem_append.mp ha).elim .inr fun z => .inl (List.mem_append_right _ z)⟩
    rcases hn a ha with y | y
    · exact h1 a y z
    · obtain ⟨u, hu⟩ := h3.has a z
      rw [hu] at y
      cases y
  | c :: cs, vs, B, j + 1, b, o, r, e => by
    have e : cs[j]? = some (.ow b o) := by simpa using e
    obtain ⟨u, ws, A1, B2, rfl, rfl, h1, h2, h3⟩ := r.uncons
    obtain ⟨l, A', q1, q2, q3, q4⟩ := PtsR.part h3 e
    refine ⟨l, A', by simpa using q1, q2, fun a ha => List.mem_append_right _ (q3 a ha), fun H2 x B1 hk hx hn => ?_⟩
    obtain ⟨B', p1, p2⟩ := q4 H2 x B1 hk hx hn
    have k2 : PtR K F H2 c u A1 := h2.keep fun a ha w hw => hk a (fun z => h1 a ha (q3 a z)) w hw
    refine ⟨A1 ++ B', PtsR.cons k2 (fun a ha z => ?_) p1, fun a ha => ?_⟩
    · rcases p2 a z with y | y
      · exact h1 a ha y
      · rcases hn a y with y | y
        · exact h1 a ha (q3 a y)
        · obtain ⟨w, hw⟩ : ∃ w, H a = some w := by
            cases c with
            | fr d => rw [h2.2] at ha; cases ha
            | hid d => rw [h2.2] at ha; cases ha
            | ow b' o' => obtain ⟨l', _, h2⟩ := h2; exact h2.has a ha
          rw [hw] at y
          cases y
    · rcases List.mem_append.mp ha with y | y
      · exact .inl (List.mem_append_left _ y)
      · exact (p2 a y).imp (fun z => List.mem_append_right _ z) id
/-- where a part's value stands -/
def PlAt (H : Hp) (σ : L2.St) (i j : Nat) (v : V) : Prop := ∃ l vs, σ[i]? = some (some (.ref l)) ∧ PartsAt H l vs ∧ vs[j]? = some v
theorem PlAt.same {H' : Hp} {σ : L2.St} {i j : Nat} {v : V} (h : PlAt H σ i j v) (e : Same H H') : PlAt H' σ i j v := by
  obtain ⟨l, vs, h1, h2, h3⟩ := h
  refine ⟨l, vs, h1, ?_, h3⟩
  rcases h2 with h | h | ⟨C, dx, ns, h, n⟩
  · exact .inl (e _ _ h)
  · exact .inr (.inl (e _ _ h))
  · exact .inr (.inr ⟨C, dx, ns, e _ _ h, n⟩)
/-- an own part in a slot -/
def ptS (x : Option (Option S)) (j : Nat) (f : O → Prop) : Prop := match x with
  | some (some (.ow _ o)) => match o.parts with
    | some cs => match cs[j]? with
      | some (.ow _ o') => f o'
      | _ => False
    | none => False
  | _ => False
def setP (x : Option (Option S)) (j : Nat) (o' : O) : Option S := match x with
  | some (some (.ow b o)) => some (.ow b (o.setPart j (.ow false o')))
  | _ => none
/-- what stands at a place, and how it is changed -/
theorem ptS_run {i j : Nat} {ω : Om} {s : Sl} {σ : L2.St} {v : V} {f : O → Prop} (T : Sta K Ξ F H ω s σ) (hp : PlAt H σ i j v) (h : ptS s[i]? j f) :
    ∃ l' o' A1, v = .ref l' ∧ F l' = none ∧ ObjR K F H o' l' A1 ∧ f o' ∧ ∀ (u : HO) (o'' : O), A1 = [l'] → ObjR K F (upd H l' u) o'' l' [l'] →
      ∃ ω', Stp F H ω F (upd H l' u) ω' ∧ Sta K Ξ F (upd H l' u) ω' (s.set i (setP s[i]? j o'')) σ := by
  unfold ptS at h
  split at h
  · rename_i b o e
    split at h
    · rename_i cs ec
      split at h
      · rename_i b' o' ej
        obtain ⟨v0, hv, l, A, rfl, h1, h2, h3⟩ := T.at' i _ e
        obtain ⟨vs, B, rfl, h4, h5, h6⟩ := h3.parts ec
        obtain ⟨l2, vs2, g1, g2, g3⟩ := hp
        rw [hv] at g1
        cases g1
        cases h5.uniq g2
        obtain ⟨l', A1, q1, q2, q3, q4⟩ := PtsR.part h6 ej
        rw [g3] at q1
        cases q1
        have hlB : ∀ a ∈ A1, a ≠ l := fun a ha z => h4 (by rw [← z]; exact q3 a ha)
        have hω : ω l' = some (i, tgP b) := h2 l' (List.mem_cons_of_mem _ (q3 l' q2.root.1)) (hlB l' q2.root.1)
        refine ⟨l', o', A1, rfl, (T.ow l' _ hω).1, q2, h, fun u o'' eA hu => ?_⟩
        subst eA
        obtain ⟨B', r1, r2⟩ := q4 (upd H l' u) (.ow false o'') [l'] (fun a ha w hw => by rw [upd_ne fun z => ha (List.mem_singleton.mpr z)]; exact hw) ⟨l', rfl, hu⟩ (fun a ha => .inl ha)
        have hl : l ∉ B' := fun z => (r2 l z).elim h4 fun y => hlB l' (List.mem_singleton.mpr rfl) (List.mem_singleton.mp y).symm
        have hne : l ≠ l' := fun z => hlB l' (List.mem_singleton.mpr rfl) z.symm
        have ho := ObjR.setPart (H2 := upd H l' u) (j := j) (x := .ow false o'') h3 ec h5 (upd_ne hne) hl r1
        have es : setP s[i]? j o'' = some (.ow b (o.setPart j (.ow false o''))) := by rw [e]; rfl
        rw [es]
        exact T.chg (A := l :: B) (A2 := l :: B') hv h1 h2 (fun a ha w hw => by rw [upd_ne fun z => ha (by rw [z]; exact List.mem_cons_of_mem _ (q3 l' (List.mem_singleton.mpr rfl)))]; exact hw) upd_keep (fun a ha => by
          rcases List.mem_cons.mp ha with z | z
          · exact .inl (by rw [z]; exact List.mem_cons_self)
          · rcases r2 a z with y | y
            · exact .inl (List.mem_cons_of_mem _ y)
            · exact .inl (by rw [List.mem_singleton.mp y]; exact List.mem_cons_of_mem _ (q3 l' (List.mem_singleton.mpr rfl)))) List.mem_cons_self ho
      · exact h.elim
    · exact h.elim
  · exact h.elim
/-! which terms are places -/
abbrev PPl := Sl → (Nat → Nat → Sl → Prop) → Prop
class LiftPl (K : PySem.W.Frag) (Ξ : XI) (t : TE) (is : outParam (Sl → Bool)) (p : outParam PPl) : Prop where
  run : ∀ {F H : Hp} {ω : Om} {s : Sl} {σ : L2.St} {Q : V → Hp → Prop} (q : Nat → Nat → Sl → Prop), Sta K Ξ F H ω s σ → p s q →
    (∀ v F' H' ω' i j s', Stp F H ω F' H' ω' → Sta K Ξ F' H' ω' s' σ → PlAt H' σ i j v → q i j s' → Q v H') → t σ H Q
def isObP (f : Str) (i : Nat) (s : Sl) : Bool := match s[i]? with
  | some (some (.ow _ (.ob _ ns cs))) => match (ns.zip cs).lookup f with
    | some (.ow _ _) => true
    | _ => false
  | _ => false
def idxN (f : Str) : List Str → Option Nat
  | [] => none
  | n :: ns => if f == n then some 0 else (idxN f ns).map (· + 1)
theorem idxN_look {f : Str} : ∀ {ns : List Str} {vs : List V} {j : Nat}, ns.length = vs.length → idxN f ns = some j → ∃ v, vs[j]? = some v ∧ (ns.zip vs).lookup f = some v
  | [], _, _, _, h => by cases h
  | n :: ns, [], _, e, _ => by simp at e
  | n :: ns, v :: vs, j, e, h => by
    unfold idxN at h
    rw [List.zip_cons_cons, List.lookup_cons]
    by_cases z : (f == n) = true
    · rw [if_pos z] at h
      cases h
      rw [z]
      exact ⟨v, rfl, rfl⟩
    · rw [if_neg z] at h
      obtain ⟨k, hk, rfl⟩ := Option.map_eq_some_iff.mp h
      obtain ⟨w, h1, h2⟩ := idxN_look (Nat.succ.inj e) hk
      rw [Bool.not_eq_true] at z
      rw [z]
      exact ⟨w, by simpa using h1, h2⟩
def plFld (Cs : List Addr) (f : Str) (i : Nat) : PPl := fun s q => match s[i]? with
  | some (some (.ow _ (.ob C ns cs))) => inC Cs C ∧ match idxN f ns with
    | some j => q i j s
    | none => False
  | _ => False
instance {Cs : List Addr} {f : Str} {i : Nat} : LiftPl K Ξ (tFldC Cs (tVar i) f) (isObP f i) (plFld Cs f i) := ⟨fun {F H ω s σ Q} q T h k => by
  unfold plFld at h
  split at h
  · rename_i b C ns cs e
    obtain ⟨hc, h⟩ := h
    split at h
    · rename_i j ej
      obtain ⟨v, hv, l, A, rfl, h1, h2, dx, vs, B, rfl, h3, h4, h5, h6⟩ := T.at' i _ e
      obtain ⟨u, hu, hu2⟩ := idxN_look h5 ej
      exact ⟨_, hv, l, C, dx, _, u, rfl, h4, inC_mem hc, hu2, k u F H ω i j s (Stp.refl T.tb) T ⟨l, vs, hv, .inr (.inr ⟨C, dx, ns, h4, h5⟩), hu⟩ h⟩
    · exact h.elim
  · exact h.elim⟩
def isNlP (i : Nat) (s : Sl) : Bool := match s[i]? with
  | some (some (.ow _ (.nl _))) => true
  | _ => false
def plIx (i : Nat) (pi : PD) : PPl := fun s q => match s[i]? with
  | some (some (.ow _ (.nl _))) => pi s fun e s1 => match e, s1[i]? with
    | .int z, some (some (.ow _ (.nl cs))) => match ixN cs.length z with
      | some j => q i j s1
      | none => False
    | _, _ => False
  | _ => False
theorem PtsR.ilen {cs : List S} {vs : List V} {A : List Addr} (h : PtsR K F H cs vs A) : vs.length = cs.length := h.len.symm
instance {i : Nat} {ti : TE} {pi : PD} [LiftD K Ξ ti pi] : LiftPl K Ξ (tOp (rIxL K) (tVar i) ti) (isNlP i) (plIx i pi) := ⟨fun {F H ω s σ Q} q T h k => by
  unfold plIx at h
  split at h
  · rename_i b cs0 e
    obtain ⟨v0, hv0, _⟩ := T.at' i _ e
    refine ⟨v0, hv0, LiftD.run (K := K) (t := ti) (p := pi) _ T h fun w F2 H2 ω2 d s2 p2 T2 r2 h2 => ?_⟩
    split at h2
    · rename_i z b2 cs e1
      split at h2
      · rename_i j ej
        obtain ⟨v, hv, l, A, rfl, h1, h3, vs, B, rfl, h4, h5, h6⟩ := T2.at' i _ e1
        rw [hv0] at hv
        cases hv
        cases (show w = _ from r2)
        have hj : ixN vs.length z = some j := by rw [h6.ilen]; exact ej
        have hlt : j < vs.length := by
          have := (ixN_seq hj).2.1
          exact this
        exact ⟨l, vs, z, vs[j], rfl, rfl, SqL.of h5, by unfold atI; rw [hj]; exact List.getElem?_eq_getElem hlt, k _ F2 H2 ω2 i j s2 p2 T2 ⟨l, vs, hv0, .inl h5, List.getElem?_eq_getElem hlt⟩ h2⟩
      · exact h2.elim
    · exact h2.elim
  · exact h.elim⟩
end
/-! ### readings at places -/
section
variable {K : PySem.W.Frag} {Ξ : XI}
/-- data, by a step that leaves all that stands on the heap -/
class LiftH (K : PySem.W.Frag) (Ξ : XI) (t : TE) (p : outParam PD) : Prop where
  run : ∀ {F H : Hp} {ω : Om} {s : Sl} {σ : L2.St} {Q : VK} (q : D → Sl → Prop), Sta K Ξ F H ω s σ → p s q →
    (∀ v F' H' ω' d s', Stp F H ω F' H' ω' → Sta K Ξ F' H' ω' s' σ → Rp K F' d v → Same H H' → q d s' → Q v H') → t σ H Q
class LiftAH (K : PySem.W.Frag) (Ξ : XI) (t : TA) (p : outParam PA1) : Prop where
  run : ∀ {F H : Hp} {ω : Om} {s : Sl} {σ : L2.St} {Q : List V → Hp → Prop} (q : List D → Sl → Prop), Sta K Ξ F H ω s σ → p s q →
    (∀ vs F' H' ω' ds s', Stp F H ω F' H' ω' → Sta K Ξ F' H' ω' s' σ → RpA K F' ds vs → Same H H' → q ds s' → Q vs H') → t σ H Q
instance : LiftAH K Ξ tNil (fun s q => q [] s) := ⟨fun {F H ω s σ Q} q T h k => k [] F H ω [] s (Stp.refl T.tb) T rfl (Same.refl H) h⟩
instance {t : TE} {r : TA} {p : PD} {pr : PA1} [LiftH K Ξ t p] [LiftAH K Ξ r pr] : LiftAH K Ξ (tCons t r) (pCons p pr) := ⟨fun kk T h k => by
  refine LiftH.run (K := K) (t := t) (p := p) _ T h fun x F1 H1 ω1 d s1 p1 T1 r1 e1 h1 => ?_
  refine LiftAH.run (K := K) (t := r) (p := pr) _ T1 h1 fun vs F2 H2 ω2 ds s2 p2 T2 r2 e2 h2 => ?_
  exact k _ F2 H2 ω2 (d :: ds) s2 (p1.trans p2) T2 ⟨x, vs, rfl, r1.mono p2.sf, r2⟩ (e1.trans e2) h2⟩
def phVar (i : Nat) : PD := fun s q => pVar i s fun x s' => q x.dat s'
instance (i : Nat) : LiftH K Ξ (tVar i) (phVar i) := ⟨fun {F H ω s σ Q} q T h k => by
  obtain ⟨v, F', ω', d, s', hv, p, T', r, hq⟩ := liftVar i (fun x s' => q x.dat s') T h
  exact ⟨v, hv, k v F' _ ω' d s' p T' r (Same.refl H) hq⟩⟩
def phC (d : D) : PD := fun s q => q d s
instance {v : V} {d : D} [ConD K v d] : LiftH K Ξ (tC v) (phC d) := ⟨fun {F H ω s σ Q} q T h k => k v F H ω d s (Stp.refl T.tb) T (ConD.rp F : Rp K F d v) (Same.refl H) h⟩
/-- data of a fresh result -/
def frD (x : S) (q : D → Prop) : Prop := match x with
  | .fr d => q d
  | _ => False
instance {r : R2} {g : D → D → (S → Prop) → Prop} {ta tb : TE} {pa pb : PD} [OpL K r g] [LiftH K Ξ ta pa] [LiftH K Ξ tb pb] : LiftH K Ξ (tOp r ta tb) (fun s q => pa s fun d s1 => pb s1 fun e s2 => g d e fun z => frD z fun x => q x s2) := ⟨fun q T h k => by
  refine LiftH.run (K := K) (t := ta) (p := pa) _ T h fun x F1 H1 ω1 d s1 p1 T1 r1 e1 h1 => ?_
  refine LiftH.run (K := K) (t := tb) (p := pb) _ T1 h1 fun y F2 H2 ω2 e s2 p2 T2 r2 e2 h2 => ?_
  refine OpL.run (K := K) (r := r) (g := g) _ T2.sf (r1.mono p2.sf) r2 h2 fun v F3 H3 z e3 r3 hq => ?_
  obtain ⟨p3, T3⟩ := e3.stp T2
  cases z with
  | fr x => exact k v F3 H3 ω2 x s2 ((p1.trans p2).trans p3) T3 r3 ((e1.trans e2).trans e3.sh) hq
  | ow _ _ => exact hq.elim
  | hid _ => exact hq.elim⟩
instance {t : TA} {p : PA1} [LiftAH K Ξ t p] : LiftH K Ξ (tTup t) (fun s q => p s fun ds s1 => if ds.length ≤ 1000 then q (.tup ds) s1 else False) := ⟨fun {F H ω s σ Q} kk T h k => by
  refine LiftAH.run (K := K) (t := t) (p := p) _ T h fun vs F1 H1 ω1 ds s1 p1 T1 r1 e1 h1 => ?_
  split at h1
  · rename_i hl
    refine ⟨Nat.le_trans (r1.len ▸ hl) (by decide), fun a ha => ?_⟩
    have e := Ext.fz T1.sf ha (.tup vs)
    obtain ⟨p2, T2⟩ := e.stp T1
    exact k _ _ _ ω1 (.tup ds) s1 (p1.trans p2) T2 ⟨a, vs, rfl, SqT.of upd_same, r1.mono e.sf⟩ (e1.trans e.sh) h1
  · exact h1.elim⟩
instance (priority := low) {Cs : List Addr} {f : Str} {i : Nat} : LiftH K Ξ (tFldC Cs (tVar i) f) (fun s q => match s[i]? with
  | some (some (.ow _ (.ob C ns cs))) => inC Cs C ∧ match (ns.zip cs).lookup f with
    | some (.fr d) => q d s
    | _ => False
  | some (some (.fr d)) => gFld Cs f d fun z => q z s
  | _ => False) := ⟨fun {F H ω s σ Q} q T h k => by
  split at h
  · rename_i b C ns cs e
    obtain ⟨hc, h⟩ := h
    split at h
    · rename_i d e2
      obtain ⟨v, hv, l, A, rfl, h1, h2, dx, vs, B, rfl, h3, h4, h5, h6⟩ := T.at' i _ e
      obtain ⟨u, hu, r⟩ := h6.look e2
      exact ⟨_, hv, l, C, dx, _, u, rfl, h4, inC_mem hc, hu, k u F H ω d s (Stp.refl T.tb) T r (Same.refl H) h⟩
    · exact h.elim
  · rename_i d e
    obtain ⟨v, hv, r1⟩ := T.at' i _ e
    unfold gFld at h
    split at h
    · rename_i C ns ds
      obtain ⟨hc, h1⟩ := h
      split at h1
      · rename_i z e
        obtain ⟨a, dx, vs, rfl, h2, h3, h4⟩ := r1
        obtain ⟨v, hv2, rv⟩ := h4.look e
        exact ⟨_, hv, a, C, dx, _, v, rfl, T.sf _ _ h2, inC_mem hc, hv2, k v F H ω z s (Stp.refl T.tb) T rv (Same.refl H) h1⟩
      · exact h1.elim
    · exact h.elim
  · exact h.elim⟩
/-! one of two readings, by the slots -/
def pEi (is : Sl → Bool) (a b : PX) : PX := fun s q => match is s with
  | true => a s q
  | false => b s q
theorem pEi_run {is : Sl → Bool} {a b : PX} {t : TE} {F H : Hp} {ω : Om} {s : Sl} {σ : L2.St} {Q : VK} (q : S → Sl → Prop) (T : Sta K Ξ F H ω s σ) (h : pEi is a b s q) (ha : a s q → t σ H Q) (hb : b s q → t σ H Q) : t σ H Q := by
  unfold pEi at h
  split at h
  · exact ha h
  · exact hb h
/-- the own list at a place -/
def ptL (x : Option (Option S)) (j : Nat) (f : List D → Prop) : Prop := ptS x j fun o => match o with
  | .lst xs => f xs
  | _ => False
theorem ptL_run {F H : Hp} {i j : Nat} {ω : Om} {s : Sl} {σ : L2.St} {v : V} {f : List D → Prop} (T : Sta K Ξ F H ω s σ) (hp : PlAt H σ i j v) (h : ptL s[i]? j f) :
    ∃ l' xs ws, v = .ref l' ∧ F l' = none ∧ H l' = some (.lst ws) ∧ RpA K F xs ws ∧ f xs ∧ ∀ us ys, RpA K F ys us → ∃ ω', Stp F H ω F (upd H l' (.lst us)) ω' ∧ Sta K Ξ F (upd H l' (.lst us)) ω' (s.set i (setP s[i]? j (.lst ys))) σ := by
  obtain ⟨l', o', A1, rfl, hF, ho, hf, hm⟩ := ptS_run T hp h
  cases o' with
  | lst xs =>
    obtain ⟨rfl, ws, h1, h2⟩ := ho
    exact ⟨l', xs, ws, rfl, hF, h1, h2, hf, fun us ys r => hm (.lst us) (.lst ys) rfl (obj_lst upd_same r)⟩
  | dk _ => exact hf.elim
  | dn _ _ => exact hf.elim
  | nl _ => exact hf.elim
  | nt _ => exact hf.elim
  | ob _ _ _ => exact hf.elim
/-! a method of the list at a place -/
def pMuP (pl : PPl) (g : List D → List D → (D → List D → Prop) → Prop) (pa : PA1) : PX := fun s q => pl s fun i j s1 => ptL s1[i]? j fun _ => pa s1 fun ds s2 => ptL s2[i]? j fun xs => g xs ds fun d ys => q (.fr d) (s2.set i (setP s2[i]? j (.lst ys)))
instance (priority := low) {r : V → List V → Hp → VK → Prop} {g : List D → List D → (D → List D → Prop) → Prop} {to : TE} {is : Sl → Bool} {pl : PPl} {t : TA} {pa : PA1} [MuL K r g] [LiftPl K Ξ to is pl] [LiftAH K Ξ t pa] : LiftE K Ξ (tBM K "list" r to t) (pMuP pl g pa) := ⟨fun {F H ω s σ Q} q T h k => by
  refine LiftPl.run (K := K) (t := to) (p := pl) _ T h fun v F1 H1 ω1 i j s1 p1 T1 hp h1 => ?_
  obtain ⟨l', xs, ws, rfl, _, h2, _, h3, _⟩ := ptL_run T1 hp h1
  refine ⟨.inl ⟨rfl, _, SqL.of h2⟩, LiftAH.run (K := K) (t := t) (p := pa) _ T1 h3 fun vs F2 H2 ω2 ds s2 p2 T2 r2 e2 h4 => ?_⟩
  obtain ⟨l2, xs, ws, e, hF, h5, h6, h7, hm⟩ := ptL_run T2 (hp.same e2) h4
  cases e
  refine MuL.run (K := K) (r := r) (g := g) _ T2.sf hF h5 h6 r2 h7 fun v us d ys r3 r4 hq => ?_
  obtain ⟨ω3, p3, T3⟩ := hm us ys r4
  exact k v F2 _ ω3 (.fr d) _ ((p1.trans p2).trans p3) T3 r3 hq⟩
def pMuP0 (pl : PPl) (g : List D → List D → (D → List D → Prop) → Prop) : PX := fun s q => pl s fun i j s1 => ptL s1[i]? j fun xs => g xs [] fun d ys => q (.fr d) (s1.set i (setP s1[i]? j (.lst ys)))
instance (priority := low) {r : V → List V → Hp → VK → Prop} {g : List D → List D → (D → List D → Prop) → Prop} {to : TE} {is : Sl → Bool} {pl : PPl} [MuL K r g] [LiftPl K Ξ to is pl] : LiftE K Ξ (tBM0 K "list" r to) (pMuP0 pl g) := ⟨fun {F H ω s σ Q} q T h k => by
  refine LiftPl.run (K := K) (t := to) (p := pl) _ T h fun v F1 H1 ω1 i j s1 p1 T1 hp h1 => ?_
  obtain ⟨l', xs, ws, rfl, hF, h2, h3, h4, hm⟩ := ptL_run T1 hp h1
  refine ⟨.inl ⟨rfl, _, SqL.of h2⟩, MuL.run (K := K) (r := r) (g := g) (vs := []) (ds := []) _ T1.sf hF h2 h3 rfl h4 fun v us d ys r3 r4 hq => ?_⟩
  obtain ⟨ω3, p3, T3⟩ := hm us ys r4
  exact k v F1 _ ω3 (.fr d) _ (p1.trans p3) T3 r3 hq⟩
/-! len, a copy, an item of the list at a place -/
def pLenP (pl : PPl) : PX := fun s q => pl s fun i j s1 => ptL s1[i]? j fun xs => q (.fr (.int xs.length)) s1
instance {to : TE} {is : Sl → Bool} {pl : PPl} {pa : PA1} [LiftPl K Ξ to is pl] [LiftA K Ξ (tCons to tNil) pa] : LiftE K Ξ (tCB (rLenQ K) (tCons to tNil)) (pEi is (pLenP pl) (pCB gLen pa)) := ⟨fun {F H ω s σ Q} q T h k => by
  refine pEi_run (K := K) q T h (fun h => ?_) (fun h => LiftE.run (K := K) (t := tCB (rLenQ K) (tCons to tNil)) (p := pCB gLen pa) q T h k)
  refine LiftPl.run (K := K) (t := to) (p := pl) _ T h fun v F1 H1 ω1 i j s1 p1 T1 hp h1 => ?_
  obtain ⟨l', xs, ws, rfl, hF, h2, h3, h4, hm⟩ := ptL_run T1 hp h1
  refine ⟨l', ws, rfl, .inl (SqL.of h2), ?_⟩
  rw [← h3.len]
  exact k _ F1 H1 ω1 (.fr (.int _)) s1 p1 T1 rfl h4⟩
instance {to : TE} {is : Sl → Bool} {pl : PPl} {pa : PA1} [LiftPl K Ξ to is pl] [LiftA K Ξ (tCons to tNil) pa] : LiftE K Ξ (tCB (fun xs H Q => ∃ p ys, xs = [.ref p] ∧ (SqL K H p ys ∨ SqT K H p ys) ∧ Q (.int ys.length) H) (tCons to tNil)) (pEi is (pLenP pl) (pCB gLen pa)) := ⟨fun {F H ω s σ Q} q T h k => LiftE.run (K := K) (t := tCB (rLenQ K) (tCons to tNil)) (p := pEi is (pLenP pl) (pCB gLen pa)) q T h k⟩
def pCopyP (pl : PPl) : PX := fun s q => pl s fun i j s1 => ptL s1[i]? j fun xs => q (.ow false (.lst xs)) s1
def rListOf (K : PySem.W.Frag) : List V → Hp → VK → Prop := fun xs H Q => ∃ p ys, xs = [.ref p] ∧ (SqL K H p ys ∨ SqT K H p ys) ∧ ∀ l, H l = none → Q (.ref l) (upd H l (.lst ys))
instance {to : TE} {is : Sl → Bool} {pl : PPl} {pa : PA1} [LiftPl K Ξ to is pl] [LiftA K Ξ (tCons to tNil) pa] : LiftE K Ξ (tCB (fun xs H Q => ∃ p ys, xs = [.ref p] ∧ (SqL K H p ys ∨ SqT K H p ys) ∧ ∀ l, H l = none → Q (.ref l) (upd H l (.lst ys))) (tCons to tNil)) (pEi is (pCopyP pl) (pCB gListOf pa)) := ⟨fun {F H ω s σ Q} q T h k => by
  refine pEi_run (K := K) q T h (fun h => ?_) (fun h => LiftE.run (K := K) (t := tCB (fun xs H Q => ∃ p ys, xs = [.ref p] ∧ (SqL K H p ys ∨ SqT K H p ys) ∧ ∀ l, H l = none → Q (.ref l) (upd H l (.lst ys))) (tCons to tNil)) (p := pCB gListOf pa) q T h k)
  refine LiftPl.run (K := K) (t := to) (p := pl) _ T h fun v F1 H1 ω1 i j s1 p1 T1 hp h1 => ?_
  obtain ⟨l', xs, ws, rfl, hF, h2, h3, h4, hm⟩ := ptL_run T1 hp h1
  refine ⟨l', ws, rfl, .inl (SqL.of h2), fun p hp' => Ext.lst (q := fun z => q z s1) T1.sf h3 h4 (fun v F' H' z e r hq => ?_) hp'⟩
  obtain ⟨p2, T2⟩ := e.stp T1
  exact k v F' H' ω1 z s1 (p1.trans p2) T2 (Rn.rt p1 T1 r) hq⟩
def pIxP (pl : PPl) (pi : PD) : PX := fun s q => pl s fun i j s1 => ptL s1[i]? j fun _ => pi s1 fun e s2 => ptL s2[i]? j fun xs => match e with
  | .int k => match atI xs k with
    | some d => q (.fr d) s2
    | none => False
  | _ => False
instance {to ti : TE} {is : Sl → Bool} {pl : PPl} {pi p0 pi0 : PD} [LiftPl K Ξ to is pl] [LiftH K Ξ ti pi] [LiftD K Ξ to p0] [LiftD K Ξ ti pi0] : LiftE K Ξ (tOp (rIxL K) to ti) (pEi is (pIxP pl pi) (pOp gIxL p0 pi0)) := ⟨fun {F H ω s σ Q} q T h k => by
  refine pEi_run (K := K) q T h (fun h => ?_) (fun h => LiftE.run (K := K) (t := tOp (rIxL K) to ti) (p := pOp gIxL p0 pi0) q T h k)
  refine LiftPl.run (K := K) (t := to) (p := pl) _ T h fun v F1 H1 ω1 i j s1 p1 T1 hp h1 => ?_
  obtain ⟨l', xs, ws, rfl, _, h2, _, h3, _⟩ := ptL_run T1 hp h1
  refine LiftH.run (K := K) (t := ti) (p := pi) _ T1 h3 fun w F2 H2 ω2 e s2 p2 T2 r2 e2 h4 => ?_
  obtain ⟨l2, xs, ws, e, hF, h5, h6, h7, hm⟩ := ptL_run T2 (hp.same e2) h4
  cases e
  split at h7
  · split at h7
    · rename_i d ed
      cases (show w = _ from r2)
      obtain ⟨v, hv, r⟩ := h6.atI ed
      exact ⟨l', ws, _, v, rfl, rfl, SqL.of h5, hv, k v F2 H2 ω2 (.fr d) s2 (p1.trans p2) T2 r h7⟩
    · exact h7.elim
  · exact h7.elim⟩
/-! [e for x in place], e by a step that leaves the heap's things -/
def pLcP (pl : PPl) (k : Nat) (pe : PD) (vs : List Nat) : PX := fun s q => pl s fun i j s1 => ptL s1[i]? j fun xs => if vs.contains k = true then xs.length ≤ 100000 ∧ ∃ es : List D, es.length = xs.length ∧
  (∀ (n : Nat) (d : D), xs[n]? = some d → pe ((wipeS s1 vs).set k (some (.fr d))) fun e s3 => es[n]? = some e ∧ wipeS s3 vs = wipeS s1 vs) ∧ q (.ow false (.lst es)) (wipeS s1 vs) else False
instance {to te : TE} {is : Sl → Bool} {pl : PPl} {pe : PD} {k : Nat} {vs : List Nat} {pi0 : PI1} {pe0 : PD} [LiftPl K Ξ to is pl] [LiftH K XI.zero te pe] [LiftI K Ξ (iList K to) pi0] [LiftD K XI.zero te pe0] : LiftE K Ξ (tLc (iList K to) (gName k) tYes te vs) (pEi is (pLcP pl k pe vs) (pLc pi0 (pgName k) [k] (fun s y _ => y s) pe0 vs)) := ⟨fun {F H ω s σ Q} q T h kk => by
  refine pEi_run (K := K) q T h (fun h => ?_) (fun h => LiftE.run (K := K) (t := tLc (iList K to) (gName k) tYes te vs) (p := pLc pi0 (pgName k) [k] (fun s y _ => y s) pe0 vs) q T h kk)
  refine LiftPl.run (K := K) (t := to) (p := pl) _ T h fun v F1 H1 ω1 i j s1 p1 T1 hp h1 => ?_
  obtain ⟨l', xs, ws, rfl, hF, h2, h3, h4, hm⟩ := ptL_run T1 hp h1
  split at h4
  rotate_left
  · exact h4.elim
  rename_i hk
  have hk' : k ∈ vs := by simpa using hk
  obtain ⟨hlen, es, hes, hstep, hq⟩ := h4
  refine ⟨l', rfl, ⟨ws, SqL.of h2⟩, fun A hA => ?_⟩
  have e0 : Ext F1 H1 F1 (upd H1 A (.lst [])) := Ext.ow T1.sf hA _
  obtain ⟨p2, T2⟩ := e0.stp T1
  refine lc_it (walk_list (K := K) (a := l') (xs := ws)) (fun n H' => ∃ F2 ω2 us, Stp F1 H1 ω1 F2 H' ω2 ∧ Sta K XI.zero F2 H' ω2 (wipeS s1 vs) (L2.wipe σ vs) ∧ ω2 A = none ∧ F2 A = none ∧ H' A = some (.lst us) ∧ RpA K F2 (es.take n) us ∧ Same H1 H') ?_ ?_ ?_ ?_
  · exact ⟨F1, ω1, [], p2, ⟨(T2.wipe vs).base, Exo.zero⟩, Sta.free T1.base hA, T1.sf.free hA, upd_same, rfl, e0.sh⟩
  · rintro n H' hn ⟨F2, ω2, us, p3, T3, a1, a2, a3, a4, a5⟩
    exact SqL.of (a5 _ _ h2)
  · rintro n x H' H'' hn ⟨F2, ω2, us, p3, T3, a1, a2, a3, a4, a5⟩ ⟨rfl, hx⟩
    have hxl : n < xs.length := by rw [h3.len]; exact hn
    have hd : xs[n]? = some xs[n] := List.getElem?_eq_getElem hxl
    obtain ⟨v, hv, r⟩ := h3.get hd
    rw [hx] at hv
    cases hv
    have T5 := T3.set k (r.mono p3.sf)
    refine ⟨by rw [wipe_mem hk']; exact wipe_wipe σ vs, ?_⟩
    refine w_yes (LiftH.run (K := K) (t := te) (p := pe) _ T5 (hstep n _ hd) fun v F7 H7 ω7 d s7 p7 T7 r7 e7 h7 => ?_)
    obtain ⟨h7, h8⟩ := h7
    have d1 := p7.fr A _ (T1.tb.new hA) a1 a3
    have d2 := p7.fn A _ a1 a3 a2
    have d3 := p7.om A _ a1 a3
    have T8 := T7.wipe vs
    rw [wipe_mem hk', wipe_wipe, h8] at T8
    have hul : us.length = (es.take n).length := a4.len.symm
    have := List.length_take_le n es
    refine ⟨us, d1, Nat.lt_of_le_of_lt (show us.length ≤ 100000 by omega) (by decide), F7, ω7, us ++ [v], (p3.trans p7).mutNew hA, ⟨Sta.mutFree T8.base d3 d2 (T1.tb.new hA), Exo.zero⟩, d3, d2, upd_same, ?_, (a5.trans e7).mut hA⟩
    rw [List.take_add_one, h7, Option.toList_some]
    exact (a4.mono p7.sf).snoc r7
  · rintro H' ⟨F2, ω2, us, p3, T3, a1, a2, a3, a4, a5⟩
    rw [← h3.len, ← hes, List.take_length] at a4
    have T4 : Sta0 K F2 H' ω2 (wipeS s1 vs) σ := ⟨T3.tb, T3.sf, T3.ow, fun i x h => (T3.at' i x h).elim fun v hv => ⟨v, (wipe_some hv.1).1, hv.2⟩, by rw [T3.len, wipe_length], T3.ix⟩
    exact kk _ F2 H' ω2 (.ow false (.lst es)) _ (p1.trans p3) ⟨T4, T1.ex.step p3⟩ ⟨A, [A], rfl, fun a ha => by cases List.mem_singleton.mp ha; exact ⟨p1.tr A hA, a1, a2⟩, obj_lst a3 a4⟩ hq⟩
/-! a list of parts that stay own -/
theorem PtR.monoF {F F' H : Hp} (e : Same F F') {x : S} {v : V} {A : List Addr} (h : PtR K F H x v A) : PtR K F' H x v A := by
  cases x with
  | fr d => exact ⟨h.1.mono e, h.2⟩
  | hid u => exact h
  | ow b o =>
    obtain ⟨l, rfl, h1⟩ := h
    exact ⟨l, rfl, h1.mono e⟩
class LiftN (K : PySem.W.Frag) (Ξ : XI) (t : TA) (p : outParam (Sl → (List S → Sl → Prop) → Prop)) : Prop where
  run : ∀ {F H : Hp} {ω : Om} {s : Sl} {σ : L2.St} {Q : List V → Hp → Prop} (q : List S → Sl → Prop), Sta K Ξ F H ω s σ → p s q →
    (∀ vs F' H' ω' xs s', Stp F H ω F' H' ω' → Sta K Ξ F' H' ω' s' σ → (∃ A, PtsR K F' H' xs vs A ∧ ∀ a ∈ A, H a = none ∧ ω' a = none ∧ F' a = none) → q xs s' → Q vs H') → t σ H Q
instance : LiftN K Ξ tNil (fun s q => q [] s) := ⟨fun {F H ω s σ Q} q T h k => k [] F H ω [] s (Stp.refl T.tb) T ⟨[], ⟨rfl, rfl⟩, fun a ha => by cases ha⟩ h⟩
def pnCons (p : PX) (r : Sl → (List S → Sl → Prop) → Prop) : Sl → (List S → Sl → Prop) → Prop := fun s q => p s fun x s1 => r s1 fun xs s2 => q (x :: xs) s2
instance {t : TE} {r : TA} {p : PX} {pr : Sl → (List S → Sl → Prop) → Prop} [LiftE K Ξ t p] [LiftN K Ξ r pr] : LiftN K Ξ (tCons t r) (pnCons p pr) := ⟨fun {F H ω s σ Q} kk T h k => by
  refine LiftE.run (K := K) (t := t) (p := p) _ T h fun v F1 H1 ω1 x s1 p1 T1 r1 h1 => ?_
  refine LiftN.run (K := K) (t := r) (p := pr) _ T1 h1 fun vs F2 H2 ω2 xs s2 p2 T2 ⟨A2, r2, n2⟩ h2 => ?_
  obtain ⟨A1, q1, q2⟩ := r1.part
  have hasA : ∀ a ∈ A1, ∃ u, H1 a = some u := fun a ha => by
    cases x with
    | fr d => rw [q1.2] at ha; cases ha
    | hid d => rw [q1.2] at ha; cases ha
    | ow b o => obtain ⟨l', _, z⟩ := q1; exact z.has a ha
  refine k _ F2 H2 ω2 (x :: xs) s2 (p1.trans p2) T2 ⟨A1 ++ A2, PtsR.cons (PtR.monoF p2.sf (q1.keep fun a ha u hu => p2.fr a u (p1.tb0.new (q2 a ha).1) (q2 a ha).2.1 hu)) (fun a ha z => ?_) r2, fun a ha => ?_⟩ h2
  · obtain ⟨u, hu⟩ := hasA a ha
    rw [(n2 a z).1] at hu
    cases hu
  · rcases List.mem_append.mp ha with y | y
    · obtain ⟨u, hu⟩ := hasA a y
      obtain ⟨z1, z2, z3⟩ := q2 a y
      exact ⟨z1, p2.om a u z2 hu, p2.fn a u z2 hu z3⟩
    · obtain ⟨z1, z2, z3⟩ := n2 a y
      exact ⟨p1.tr a z1, z2, z3⟩⟩
def tNl (t : TA) : TE := tLst t
theorem pe_nl {X : Cx} {es : List Expr} {pos : Pos} {t : TA} (h : PA X es t) : PE X (.List es pos) (tNl t) := pe_lst h
def pNl (p : Sl → (List S → Sl → Prop) → Prop) : PX := fun s q => p s fun xs s1 => if xs.length ≤ 1000 then q (.ow false (.nl xs)) s1 else False
instance {t : TA} {p : Sl → (List S → Sl → Prop) → Prop} [LiftN K Ξ t p] : LiftE K Ξ (tNl t) (pNl p) := ⟨fun {F H ω s σ Q} kk T h k => by
  refine LiftN.run (K := K) (t := t) (p := p) _ T h fun vs F1 H1 ω1 xs s1 p1 T1 ⟨A, r1, n1⟩ h1 => ?_
  split at h1
  · rename_i hl
    refine ⟨by rw [r1.ilen]; exact Nat.le_trans hl (by decide), fun a ha => ?_⟩
    have e := Ext.ow T1.sf ha (.lst vs)
    obtain ⟨p2, T2⟩ := e.stp T1
    have hn : ∀ b ∈ A, b ≠ a := fun b hb z => by
      obtain ⟨u, hu⟩ := r1.has b hb
      rw [z, ha] at hu
      cases hu
    refine k (.ref a) _ _ ω1 (.ow false (.nl xs)) s1 (p1.trans p2) T2 ⟨a, a :: A, rfl, fun b hb => ?_, vs, A, rfl, fun z => hn a z rfl, upd_same, r1.heap fun b hb u hu => by rw [upd_ne (hn b hb)]; exact hu⟩ h1
    rcases List.mem_cons.mp hb with rfl | hb
    · exact ⟨p1.tr _ ha, Sta.free T1.base ha, T1.sf.free ha⟩
    · exact n1 b hb
  · exact h1.elim⟩
/-! made data at once -/
def tFz (t : TE) : TE := t
theorem pe_fz {X : Cx} {e : Expr} {t : TE} (h : PE X e t) : PE X e (tFz t) := h
def pFz (p : PD) : PX := fun s q => p s fun d s1 => q (.fr d) s1
instance {t : TE} {p : PD} [LiftD K Ξ t p] : LiftE K Ξ (tFz t) (pFz p) := ⟨fun {F H ω s σ Q} q T h k => LiftD.run (K := K) (t := t) (p := p) _ T h fun v F1 H1 ω1 d s1 p1 T1 r1 h1 => k v F1 H1 ω1 (.fr d) s1 p1 T1 r1 h1⟩
end
/-! ### name = {k: v for ..} on one line, the name a local -/
section
variable {X : Cx}
theorem ps_setDc {i : Nat} {y : Str} {py : Pos} {kx vx tg iter : Expr} {ifs : List Expr} {scope : Scope} {own : List (Str × Nat)} {pos spos : Pos} {wi : TI} {g : TG} {tt : TT} {tk tv : TE} (hc : X.calm = true) (hN : X.N.Nodup) (hy : X.N[i]? = some y) (hyl : X.env.scope.names.lookup y = some .local)
    (hsw : swapsWith (.DictComp kx vx [⟨tg, iter, ifs, 0⟩] scope pos) (some (.Name y py)) spos.line X.env = pure true) (hi : PI X tg iter wi) (ok : BlkOk X.N X.env.scope scope own)
    (hg : ∀ (s : Shared) (H : Hp) (C : Addr) (cl : List (Str × Addr)) (fp : List Addr), PG (X.blk s H scope (compEnvC scope cl C X.env) fp) tg g) (ht : ∀ (s : Shared) (H : Hp) (C : Addr) (cl : List (Str × Addr)) (fp : List Addr), PTs (X.blk s H scope (compEnvC scope cl C X.env) fp) ifs tt)
    (hk : ∀ (s : Shared) (H : Hp) (C : Addr) (cl : List (Str × Addr)) (fp : List Addr), PE (X.blk s H scope (compEnvC scope cl C X.env) fp) kx tk)
    (he : ∀ (s : Shared) (H : Hp) (C : Addr) (cl : List (Str × Addr)) (fp : List Addr), PE (X.blk s H scope (compEnvC scope cl C X.env) fp) vx tv) (hs : ∀ x, foldedSetIterable iter X.env x = pure x := by intro _; rfl) :
    PS X (.Assign [.Name y py] (.DictComp kx vx [⟨tg, iter, ifs, 0⟩] scope pos) spos) (tAsg (tDc wi g tt tk tv (own.map (·.2))) (gName i)) := by
  refine ⟨fun pins s σ H D I h => ?_⟩
  rw [exec_Assign_Name_used _ _ _ _ hsw]
  refine wpAny_bind (wpAny_standAt (wpAny_bind ?_))
  show wpAny _ X.A (do let _ ← comprehension (.DictComp kx vx [⟨tg, iter, ifs, 0⟩] scope pos) scope X.env (firstIterPos [⟨tg, iter, ifs, 0⟩] pos) newDict false (eval iter X.env) (some (assign (.Name y py) X.env))) _ _ s
  have h : tDc wi g tt tk tv (own.map (·.2)) σ H (fun x H1 => gName i x σ H1 D.nx) := h
  refine wpAny_bind (thn (dc_core (Qf := fun _ s' => SP X pins D .next s') hc hN I hi ok hg ht hk he hs h fun L C s' m H' I' q hn f => ?_) fun _ s' hq => wpAny_pure (wpAny_pure hq))
  show wpAny _ _ (assign (.Name y py) X.env (.ref L)) _ _ _
  refine wpAny_assign_Name (store_ok2 (v := V.ref L) I' hN hy (.inl hyl) rfl (fun s2 I2 ⟨a, sb, ha⟩ => ?_) (.inr hyl))
  obtain ⟨f0, f1, f2, f3, f4, f5⟩ := f
  have haC : C ≠ a := by
    rcases ha with z | z
    · rw [z]; exact f1
    · exact fun e => f4 y a z e.symm
  refine ⟨m, hn.sameBut sb haC, fun h3 sb3 => ?_⟩
  exact ⟨_, H', I2.turned (t' := s2.toks) (fun b o hb e => (sb3.2 b hb).trans e) f0 f1 f3 f4 f5, q⟩
theorem sw_trueD {kx vx : Expr} {gs : List Comprehension} {scope : Scope} {pos py : Pos} {y : Str} {l : Nat} {env : Env} (hk : env.scope.kind = .function) (hy : env.scope.names.lookup y = some .local) (hl : (py.line == pos.line) = true)
    (ha : (scope.names.any fun (n, k) => n == y && (k == .local || k == .cell)) = false) : swapsWith (.DictComp kx vx gs scope pos) (some (.Name y py)) l env = pure true := by
  have ky : env.kindOf y = some .local := hy
  have hb : env.blockKind = .function := by unfold Env.blockKind; rw [hk]; rfl
  unfold swapsWith
  simp only [hb, ky, ha, Expr.pos, hl]
  rfl
end
theorem kit_subF {K : PySem.W.Frag} {C D : Addr} (hd : PySem.W.hasDictIn K C = true) (ty : PySem.W.typeIn K (.ref C) = some (.type "type"))
    (s : PySem.W.subIn K (.ref D) (.ref C) = some false) (s1 : PySem.W.subIn K (.ref C) (.ref C) = some true) : PySem.W.kitOne K (.ref D) (.ref C) = some false := by
  obtain ⟨cd, hc, _⟩ := PySem.W.any_some hd
  unfold PySem.W.kitOne
  split
  · rename_i e
    have : (Value.ref D) = Value.ref C := eq_of_beq e
    rw [this, s1] at s
    cases s
  · show (if ((PySem.W.clsIn K C).isSome && PySem.W.typeIn K (.ref C) == some (.type "type")) = true
      then PySem.W.subIn K (.ref D) (.ref C) else none) = some false
    rw [hc, ty]
    exact s
/-- the rest of a def's body, with its reading -/
structure Chunk (K : PySem.W.Frag) (C : (Value → Around → List Env → Shared → Hp → XK → TS) → Prop) where
  t : Value → Around → List Env → Shared → Hp → XK → TS
  h : C t
  p : PS1
  l : ∀ a b c d e f, LiftS K XI.zero (t a b c d e f) p
/-- the law's end -/
def RtT (E : PEnds) : Prop := ∀ x s, E.rt (.fr (.bl true)) (x :: s)
section
variable {K : PySem.W.Frag}
/-- str of an int -/
def gStrI : List D → (S → Prop) → Prop := fun ds q => match ds with
  | [.int i] => i.natAbs.log2 < 1920 ∧ q (.fr (.str (toString i)))
  | _ => False
instance : CaL K (fun xs H Q => ∃ i, xs = [.int i] ∧ i.natAbs.log2 < 1920 ∧ Q (.str (toString i)) H) gStrI := ⟨fun {F H vs ds Q} q hs r h k => by
  unfold gStrI at h
  split at h
  · obtain ⟨v, rfl, h1⟩ := r.one
    cases (show v = _ from h1)
    exact ⟨_, rfl, h.1, k _ F H (.fr (.str _)) (Ext.refl hs) rfl h.2⟩
  · exact h.elim⟩
end
section
variable {X : Cx} {K : PySem.W.Frag} {T name id : String} {r : V → List V → Hp → VK → Prop} {o e : Expr} {es : List Expr} {apos cpos : Pos} {to : TE} {t : TA}
theorem pe_bm0k (hK : X.K = K) (pa : PlainAttrs T) (slot : Slot T name id) (hty : typeOf (.builtin id) = pure (.type "method_descriptor")) (hm : MtR X id r) (ho : PE X o to)
    (hbase : attributeBase o name X.env (eval o X.env) = eval o X.env := by rfl) (hline : (apos.endLine == cpos.line) = true := by rfl) : PE X (.Call (.Attribute o name apos) [] [] cpos) (tBM0 K T r to) := by
  subst hK; exact pe_bm0 pa slot hty hm ho hbase hline
theorem pe_bmk (hK : X.K = K) (pa : PlainAttrs T) (slot : Slot T name id) (hty : typeOf (.builtin id) = pure (.type "method_descriptor")) (hm : MtR X id r) (ho : PE X o to) (ha : PA X (e :: es) t)
    (hbase : attributeBase o name X.env (eval o X.env) = eval o X.env := by rfl)
    (hfew : ((backTo cpos (starEach (e :: es) X.env)).all (fun x => !x.1) && (backToKw cpos (keywordEach [] X.env)).all (fun x => x.1.isSome)
      && decide ((e :: es).length + ([] : List Keyword).length + (if ([] : List Keyword).isEmpty then 0 else 1) < 30)) = true := by rfl)
    (hline : (apos.endLine == cpos.line) = true := by rfl) (hs : starEach (e :: es) X.env = (false, eval e X.env) :: starEach es X.env := by rfl) (hplain : (backTo cpos (starEach es X.env)).any (·.1) = false := by rfl) :
    PE X (.Call (.Attribute o name apos) (e :: es) [] cpos) (tBM K T r to t) := by
  subst hK; exact pe_bm pa slot hty hm ho ha hbase hfew hline hs hplain
end
/-! ### [e for x in own], own a name's own list that stays own (printed where cfg's itown says) -/
section
variable {K : PySem.W.Frag} {Ξ : XI}
def iListV (K : PySem.W.Frag) (i : Nat) : TI := iList K (tVar i)
theorem pi_listv {X : Cx} {K : PySem.W.Frag} {tg e : Expr} {i : Nat} (hK : X.K = K) (he : PE X e (tVar i)) : PI X tg e (iListV K i) := by subst hK; exact pi_list he
def ownL (x : Option (Option S)) (f : List D → Prop) : Prop := match x with
  | some (some (.ow _ (.lst xs))) => f xs
  | _ => False
theorem ownL_of {x : Option (Option S)} {f : List D → Prop} (h : ownL x f) : ∃ b xs, x = some (some (.ow b (.lst xs))) ∧ f xs := by
  unfold ownL at h
  split at h
  · exact ⟨_, _, rfl, h⟩
  · exact h.elim
theorem walk_listE {a : Addr} {n : Nat} : Walk (Itl K a) n (fun H => ∃ xs : List V, xs.length = n ∧ SqL K H a xs) (fun i H x H' => H' = H ∧ ∀ xs, SqL K H a xs → xs[i]? = some x) :=
  ⟨fun i _ hi ⟨xs, e, q⟩ => ⟨xs, xs[i]'(by omega), q, List.getElem?_eq_getElem (by omega)⟩, fun _ ⟨xs, e, q⟩ => ⟨xs, q, by omega⟩, fun _ _ _ _ _ _ y => y⟩
def pLcV (i : Nat) (pg : PG1) (ss : List Nat) (pt : PT1) (pe : PD) (vs : List Nat) : PX := fun s q => ownL s[i]? fun ds => if (ss.all vs.contains && !vs.contains i) = true then ds.length ≤ 100000 ∧ ∃ I : Nat → List D → Sl → Prop, I 0 [] (wipeS s vs) ∧
  (∀ n acc s2, I n acc s2 → ownL s2[i]? fun xs => xs = ds) ∧
  (∀ n d acc s2, ds[n]? = some d → I n acc s2 → pg d s2 fun s3 => pt s3 (fun s4 => pe s4 fun e s5 => I (n + 1) (acc ++ [e]) (wipeS s5 vs)) (fun s4 => I (n + 1) acc (wipeS s4 vs))) ∧
  ∀ acc s2, I ds.length acc s2 → q (.ow false (.lst acc)) s2 else False
instance {i : Nat} {g : TG} {tt : TT} {te : TE} {vs : List Nat} {pg : PG1} {ss : List Nat} {pt : PT1} {pe : PD} [LiftG K XI.zero g pg ss] [LiftT K XI.zero tt pt] [LiftD K XI.zero te pe] : LiftE K Ξ (tLc (iListV K i) g tt te vs) (pLcV i pg ss pt pe vs) := ⟨fun {F1 H1 ω1 s1 σ Q} kk T1 h1 k => by
  obtain ⟨b0, ds, e0, h1⟩ := ownL_of h1
  obtain ⟨v0, hv0, l, rfl, hl, ws0, q1, q2⟩ := T1.lst i e0
  split at h1
  rotate_left
  · exact h1.elim
  rename_i hss
  rw [Bool.and_eq_true] at hss
  have hiv : i ∉ vs := by
    have := hss.2
    simpa using this
  have hss' : ∀ i ∈ ss, i ∈ vs := fun i hi => by simpa using List.all_eq_true.mp hss.1 i hi
  obtain ⟨hlen, I, i0, iown, istep, iend⟩ := h1
  refine ⟨_, hv0, l, rfl, ⟨ws0, SqL.of q1⟩, fun A hA => ?_⟩
  have hσ : (L2.wipe σ vs)[i]? = some (some (.ref l)) := by rw [wipe_out hiv]; exact hv0
  have e0 : Ext F1 H1 F1 (upd H1 A (.lst [])) := Ext.ow T1.sf hA _
  obtain ⟨p2, T2⟩ := e0.stp T1
  have lat : ∀ {F2 H2 : Hp} {ω2 : Om} {n : Nat} {acc : List D} {s2 : Sl}, Sta K XI.zero F2 H2 ω2 s2 (L2.wipe σ vs) → I n acc s2 → ∃ ws, H2 l = some (.lst ws) ∧ RpA K F2 ds ws := fun {F2 H2 ω2 n acc s2} T hI => by
    obtain ⟨b, xs, e1, rfl⟩ := ownL_of (iown n acc s2 hI)
    obtain ⟨v, hv, l2, rfl, _, ws, z1, z2⟩ := T.lst i e1
    rw [hσ] at hv
    cases hv
    exact ⟨ws, z1, z2⟩
  have kk' : ∀ {F2 : Hp} {ω2 : Om} {s2 : Sl} {acc : List D} {ws : List V} {H' : Hp}, Sta0 K F2 H' ω2 s2 σ → I ds.length acc s2 → Stp F1 H1 ω1 F2 H' ω2 → ω2 A = none → F2 A = none → H' A = some (.lst ws) → RpA K F2 acc ws → Q (.ref A) H' :=
    fun {F2 ω2 s2 acc ws H'} T4 hI p3 a1 a2 a3 a4 => k _ F2 H' ω2 (.ow false (.lst acc)) s2 p3 ⟨T4, T1.ex.step p3⟩ ⟨A, [A], rfl, fun a ha => by cases List.mem_singleton.mp ha; exact ⟨hA, a1, a2⟩, obj_lst a3 a4⟩ (iend acc s2 hI)
  refine lc_it (walk_listE (K := K) (a := l) (n := ds.length)) (fun n H' => ∃ F2 ω2 s2 acc ws, Stp F1 H1 ω1 F2 H' ω2 ∧ Sta K XI.zero F2 H' ω2 s2 (L2.wipe σ vs) ∧ ω2 A = none ∧ F2 A = none ∧ H' A = some (.lst ws) ∧ RpA K F2 acc ws ∧ acc.length ≤ n ∧ I n acc s2) ?_ ?_ ?_ ?_
  · exact ⟨F1, ω1, wipeS s1 vs, [], [], p2, ⟨(T2.wipe vs).base, Exo.zero⟩, Sta.free T1.base hA, T1.sf.free hA, upd_same, rfl, Nat.le_refl _, i0⟩
  · rintro n H' hn ⟨F2, ω2, s2, acc, ws, p3, T3, a1, a2, a3, a4, a5, hI⟩
    obtain ⟨us, z1, z2⟩ := lat T3 hI
    exact ⟨us, z2.len.symm, SqL.of z1⟩
  · rintro n x H' H'' hn ⟨F2, ω2, s2, acc, ws, p3, T3, a1, a2, a3, a4, a5, hI⟩ ⟨rfl, hx⟩
    have hd : ds[n]? = some ds[n] := List.getElem?_eq_getElem hn
    obtain ⟨us, z1, z2⟩ := lat T3 hI
    obtain ⟨v, hv, r3⟩ := z2.get hd
    rw [hx us (SqL.of z1)] at hv
    cases hv
    refine LiftG.run (K := K) (g := g) (p := pg) (ss := ss) _ T3 r3 (istep n _ acc s2 hd hI) fun σ5 s5 T5 w5 h5 => ?_
    have hw5 : L2.wipe σ5 vs = L2.wipe σ vs := by rw [w5 vs hss']; exact wipe_wipe σ vs
    refine ⟨hw5, ?_⟩
    refine LiftT.run (K := K) (t := tt) (p := pt) _ _ T5 h5 fun b F6 H6 ω6 s6 p6 T6 h6 => ?_
    have c1 := p6.fr A _ (T1.tb.new hA) a1 a3
    have c2 := p6.fn A _ a1 a3 a2
    have c3 := p6.om A _ a1 a3
    cases b with
    | false =>
      refine iteF ⟨F6, ω6, wipeS s6 vs, acc, ws, p3.trans p6, ?_, c3, c2, c1, a4.mono p6.sf, by omega, by simpa using h6⟩
      have T7 := T6.wipe vs
      rw [hw5] at T7
      exact T7
    | true =>
      refine iteT (LiftD.run (K := K) (t := te) (p := pe) _ T6 (by simpa using h6) fun v F7 H7 ω7 d s7 p7 T7 r7 h7 => ?_)
      have d1 := p7.fr A _ (T1.tb.new hA) c3 c1
      have d2 := p7.fn A _ c3 c1 c2
      have d3 := p7.om A _ c3 c1
      have hlA : ws.length = acc.length := a4.len.symm
      have T8 := T7.wipe vs
      rw [hw5] at T8
      exact ⟨ws, d1, Nat.lt_of_le_of_lt (show ws.length ≤ 100000 by omega) (by decide), F7, ω7, wipeS s7 vs, acc ++ [d], ws ++ [v], ((p3.trans p6).trans p7).mutNew hA, ⟨Sta.mutFree T8.base d3 d2 (T1.tb.new hA), Exo.zero⟩, d3, d2, upd_same,
        ((a4.mono (p6.sf.trans p7.sf)).snoc r7), by rw [List.length_append]; simp; omega, h7⟩
  · rintro H' ⟨F2, ω2, s2, acc, ws, p3, T3, a1, a2, a3, a4, a5, hI⟩
    exact kk' ⟨T3.tb, T3.sf, T3.ow, fun i x h => (T3.at' i x h).elim fun v hv => ⟨v, (wipe_some hv.1).1, hv.2⟩, by rw [T3.len, wipe_length], T3.ix⟩ hI p3 a1 a2 a3 a4⟩
end
/-! ### min(xs), xs any data that are alike -/
def rMinDa (K : PySem.W.Frag) : List V → Hp → VK → Prop := fun vs H Q => ∃ (a : Addr) (zs : List (V × PyData)), vs = [V.ref a] ∧ SqL K H a (zs.map (·.1)) ∧ (∀ z ∈ zs, Dp K H z.1 z.2) ∧ PySem.W.AlikeAll (zs.map (·.2)) ∧ (∀ z ∈ zs, z.2.depth ≤ 58) ∧ zs ≠ [] ∧
  ∀ z ∈ zs, (∀ y ∈ zs, PySem.W.dataLt y.2 z.2 = false) → Q z.1 H
theorem minD_least : ∀ (xs : List PyData) (x : PyData), (PySem.W.minD x xs ∈ x :: xs) ∧ ∀ y ∈ x :: xs, PySem.W.dataLt y (PySem.W.minD x xs) = false
  | [], x => ⟨List.mem_cons_self, fun y hy => by cases List.mem_singleton.mp hy; exact lex_irrefl (O := itemOrd) _⟩
  | z :: xs, x => by
    have e : PySem.W.minD x (z :: xs) = PySem.W.minD (if PySem.W.dataLt z x then z else x) xs := rfl
    rw [e]
    obtain ⟨h1, h2⟩ := minD_least xs (if PySem.W.dataLt z x then z else x)
    refine ⟨?_, fun y hy => ?_⟩
    · rcases List.mem_cons.mp h1 with q | q
      · rw [q]
        split
        · exact List.mem_cons_of_mem _ List.mem_cons_self
        · exact List.mem_cons_self
      · exact List.mem_cons_of_mem _ (List.mem_cons_of_mem _ q)
    · have h3 := h2 _ List.mem_cons_self
      have tr : ∀ {a b c : PyData}, PySem.W.dataLt a b = false → PySem.W.dataLt b c = false → PySem.W.dataLt a c = false := fun {a b c} u v => by
        cases q : PySem.W.dataLt a c with
        | false => rfl
        | true =>
          rcases lex_negTrans (O := itemOrd) _ (PySem.W.keyToks b) _ q with z | z
          · have z : PySem.W.dataLt a b = true := z
            rw [z] at u; cases u
          · have z : PySem.W.dataLt b c = true := z
            rw [z] at v; cases v
      have asym : ∀ {a b : PyData}, PySem.W.dataLt a b = true → PySem.W.dataLt b a = false := fun {a b} u => by
        cases q : PySem.W.dataLt b a with
        | false => rfl
        | true =>
          have := lex_trans (O := itemOrd) _ _ _ u q
          rw [lex_irrefl] at this
          cases this
      rcases List.mem_cons.mp hy with rfl | hy
      · split at h3
        · rename_i c
          rw [if_pos c]
          exact tr (asym c) h3
        · rename_i c
          rw [if_neg c]
          exact h3
      · rcases List.mem_cons.mp hy with rfl | hy
        · split at h3
          · rename_i c
            rw [if_pos c]
            exact h3
          · rename_i c
            rw [if_neg c]
            exact tr (by simpa using c) h3
        · exact h2 y (List.mem_cons_of_mem _ hy)
section
variable {X : Cx} {pins : List (Addr × Obj)} {σ : L2.St} {H : Hp} {s : Shared}
theorem readsAll_of (I : Inv X pins σ H s) : ∀ {zs : List (V × PyData)} {its : List Value}, Vals (zs.map (·.1)) its → (∀ z ∈ zs, Dp X.K H z.1 z.2) → ∃ as, ReadsAll s.heap its (zs.map (·.2)) as
  | [], _, h, _ => by cases h; exact ⟨_, .nil⟩
  | z :: zs, _, h, hz => by
    cases h with
    | cons h1 h2 =>
      obtain ⟨as, r⟩ := Dp.reads I z.2 z.1 _ (hz z List.mem_cons_self) h1
      obtain ⟨bs, t⟩ := readsAll_of I h2 fun y hy => hz y (List.mem_cons_of_mem _ hy)
      exact ⟨_, .cons r t⟩
theorem depthAll_le : ∀ {xs : List PyData} {n : Nat}, (∀ x ∈ xs, x.depth ≤ n) → PyData.depthAll xs ≤ n
  | [], _, _ => Nat.zero_le _
  | x :: xs, n, h => Nat.max_le.mpr ⟨h x List.mem_cons_self, depthAll_le fun y hy => h y (List.mem_cons_of_mem _ hy)⟩
theorem cr_minDa (hc : X.calm = true) (hu : X.A.units + 64 < cLine) : CallR X (.builtin "min") (rMinDa X.K) := by
  intro pins s σ H vs us Q I r h
  obtain ⟨a, zs, rfl, hs, hz, hal, hdp, hne, q⟩ := h
  obtain ⟨its, rv, hl, hlen⟩ := I.list hs
  rw [Vals.ref1 r]
  obtain ⟨as, hr⟩ := readsAll_of I rv hz
  obtain ⟨z0, zr, rfl⟩ : ∃ z0 zr, zs = z0 :: zr := by
    cases zs with
    | nil => exact absurd rfl hne
    | cons z0 zr => exact ⟨z0, zr, rfl⟩
  have hd : PyData.depthAll (z0.2 :: zr.map (·.2)) ≤ 58 := depthAll_le fun x hx => by
    obtain ⟨z, hm, rfl⟩ := List.mem_map.mp (show x ∈ (z0 :: zr).map (·.2) from hx)
    exact hdp z hm
  have hr' : ReadsAll s.heap its.toArray.toList (z0.2 :: zr.map (·.2)) as := hr
  refine PySem.W.min_list_data (I.ok.hd hc) hl.isList hr' hal (by omega) fun i v h' tk bs hv hrd hk => ?_
  have hi : i < its.length := by
    have := (Array.getElem?_eq_some_iff.mp hv).1
    simpa using this
  have hl2 := rv.length
  rw [List.length_map] at hl2
  have hzi : i < (z0 :: zr).length := by omega
  have hmem : (z0 :: zr)[i] ∈ z0 :: zr := List.getElem_mem hzi
  have hrel : RelV ((z0 :: zr)[i]).1 v := by
    have h1 : ((z0 :: zr).map (·.1))[i]? = some ((z0 :: zr)[i]).1 := by rw [List.getElem?_map, List.getElem?_eq_getElem hzi]; rfl
    obtain ⟨u, hu1, hu2⟩ := rv.get h1
    have hv2 : its[i]? = some v := by simpa using hv
    rw [hv2] at hu1
    cases hu1
    exact hu2
  have hml := minD_least (zr.map (·.2)) z0.2
  have heq : ((z0 :: zr)[i]).2 = PySem.W.minD z0.2 (zr.map (·.2)) := by
    obtain ⟨cs, rc⟩ := Dp.reads I ((z0 :: zr)[i]).2 ((z0 :: zr)[i]).1 v (hz _ hmem) hrel
    have rc' := PySem.W.reads_keeps hk rc
    exact PySem.W.alike_unique _ _ v cs bs (hal.1 _ (List.mem_map.mpr ⟨_, hmem, rfl⟩) _ hml.1) rc' hrd
  refine ⟨_, H, I.kept hk, hrel, q _ hmem fun y hy => ?_⟩
  rw [heq]
  exact hml.2 y.2 (List.mem_map.mpr ⟨y, hy, rfl⟩)
theorem cr_minDak {K : PySem.W.Frag} (hK : X.K = K) (hc : X.calm = true) (hu : X.A.units + 64 < cLine) : CallR X (.builtin "min") (rMinDa K) := by subst hK; exact cr_minDa hc hu
end
/-- data that can be compared: alike, none is None, there is one -/
def MinOk (ds : List D) : Prop := ds ≠ [] ∧ ds.all (D.plN 58) = true ∧ PySem.W.AlikeAll (ds.map D.py)
def gMinDa : List D → (S → Prop) → Prop := fun ds q => match ds with
  | [.lst xs] => MinOk xs ∧ ∀ d ∈ xs, (∀ e ∈ xs, leD d e = true) → q (.fr d)
  | _ => False
section
variable {K : PySem.W.Frag}
instance : CaL K (rMinDa K) gMinDa := ⟨fun {F H vs ds Q} q hs r h k => by
  unfold gMinDa at h
  split at h
  · rename_i xs
    obtain ⟨⟨hne, hpl, hal⟩, hq⟩ := h
    obtain ⟨v, rfl, a, ws, rfl, h1, h2⟩ := r.one
    obtain ⟨zs, rfl, rfl, hz⟩ := RpA.pair h2
    have hpy : ∀ z ∈ zs, Dp K H z.1 z.2.py ∧ z.2.py.canLay0 = true ∧ z.2.py.depth ≤ 58 := fun z hm => py_of 58 (List.all_eq_true.mp hpl _ (List.mem_map.mpr ⟨z, hm, rfl⟩)) ((hz z hm).mono hs)
    refine ⟨a, zs.map fun z => (z.1, z.2.py), rfl, ?_, fun y hy => ?_, ?_, fun y hy => ?_, ?_, fun y hy hmin => ?_⟩
    · rw [List.map_map]
      exact SqL.of (hs _ _ h1)
    · obtain ⟨z, hm, rfl⟩ := List.mem_map.mp hy
      exact (hpy z hm).1
    · rw [List.map_map]
      rw [List.map_map] at hal
      exact hal
    · obtain ⟨z, hm, rfl⟩ := List.mem_map.mp hy
      exact (hpy z hm).2.2
    · intro e
      exact hne (by rw [List.map_eq_nil_iff] at e ⊢; exact e)
    · obtain ⟨z, hm, rfl⟩ := List.mem_map.mp hy
      refine k z.1 F H (.fr z.2) (Ext.refl hs) (hz z hm) (hq z.2 (List.mem_map.mpr ⟨z, hm, rfl⟩) fun e he => ?_)
      obtain ⟨z', hm', rfl⟩ := List.mem_map.mp he
      unfold leD
      rw [hmin (z'.1, z'.2.py) (List.mem_map.mpr ⟨z', hm', rfl⟩)]
      rfl
  · exact h.elim⟩
end
/-! ### a lambda of one name; sorted by it -/
/-- the function object that a lambda makes -/
def LamO (q : Str) (params : Arguments) (body : Expr) (scope : Scope) (f c : Addr) : HO := .ext fun h => ∃ (pm ctv : Value), h.get? f = some (PySem.W.kla_obj "<lambda>" q params body scope [] pm c ctv)
/-- the heap behind the making: as it was, or with a new code object, which the table tells -/
def LamH (P : Addr) (q : Str) (H : Hp) (ps : Array Value) (c : Addr) (H1 : Hp) : Prop := (H1 = H ∧ ∃ pos : Pos, codeAmong pos ps.toList = some (.ref c)) ∨ ∃ more : Array Value, H c = none ∧ H1 = upd (upd H P (.tbl (ps ++ more))) c (LamX.CodeO c q) ∧ TriplesOk (ps ++ more).toList ∧
  ∀ (pos : Pos) (cv : Value), codeAmong pos (ps ++ more).toList = some cv → codeAmong pos ps.toList = some cv ∨ cv = .ref c
def tLam1 (P : Addr) (q : Str) (mk : Addr → Addr → HO) : TE := fun σ H Q => ∃ ps : Array Value, H P = some (.tbl ps) ∧ TriplesOk ps.toList ∧ (∀ (pos : Pos) (cv : Value), codeAmong pos ps.toList = some cv → ∃ c, cv = .ref c ∧ H c = some (LamX.CodeO c q)) ∧
  ∀ f c H1, LamH P q H ps c H1 → H1 f = none → H1 c = some (LamX.CodeO c q) → Q (.ref f) (upd H1 f (mk f c))
theorem lamO_ok {prog : Program} {w : World} {H : Hp} {h : Heap} {q : Str} {params : Arguments} {body : Expr} {scope : Scope} {f c : Addr} {pm ctv : Value} (e : h.get? f = some (PySem.W.kla_obj "<lambda>" q params body scope [] pm c ctv)) : ObjOk prog w H h f (LamO q params body scope f c) :=
  ⟨⟨pm, ctv, e⟩, ⟨_, e⟩, fun h1 h2 ⟨a, b, z⟩ st => ⟨a, b, st _ z⟩⟩
section
variable {X : Cx}
theorem pe_lam1 {c P : Addr} {params : Arguments} {body : Expr} {scope : Scope} {lpos : Pos} (TB : LamX.TabB X.base X.mg c P) (hcode : X.env.code = .ref c) (hdef : defaultsOf params X.env = ([], [])) (hcl : closureFor scope X.env = pure []) :
    PE X (.Lambda params body scope lpos) (tLam1 P (X.env.qual ++ "<lambda>") (LamO (X.env.qual ++ "<lambda>") params body scope)) := by
  refine ⟨fun pins s σ H Q I hh => ?_⟩
  obtain ⟨ps, hP, ht, ha, hq⟩ := hh
  have hPr : s.heap.get? P = some { cls := .none, data := .fields ps } := I.hok P _ hP
  have hbu : s.heap.BuiltinsAt X.mg P := TB.bm.keeps I.bk
  refine PySem.W.kla_eval hdef ?_
  cases hca : codeAmong lpos ps.toList with
  | some cv =>
    obtain ⟨c', rfl, hco⟩ := ha lpos cv hca
    refine PySem.W.kla_makeFunctionHit (clos := []) hcl I.ok.glob (I.mod.glob.keeps I.bk) hcode (TB.code.keeps I.bk) hPr ht hca hbu fun ctv h' tk hx hsz => ?_
    have I0 : Inv X pins σ H { s with heap := h', toks := tk } := I.kept hx
    have I1 := I0.laid (t' := tk) (o := LamO (X.env.qual ++ "<lambda>") params body scope h'.objs.size c') (fun b u e => Heap.get?_push_of_some _ e) (Nat.le_refl _) (lamO_ok (pm := (X.mg "__name__").getD .none) (ctv := ctv) (Heap.get?_push_size _ rfl))
    exact ⟨.ref _, _, I1, rfl, hq _ c' H (.inl ⟨rfl, lpos, hca⟩) (I0.hok.fresh (Nat.le_refl _)) hco⟩
  | none =>
    refine PySem.W.kla_makeFunction (clos := []) hcl I.ok.glob (I.mod.glob.keeps I.bk) hcode (TB.code.keeps I.bk) hPr ht hca TB.gP hbu fun c' ctv h' tk hx hge hlt hrec htb => ?_
    obtain ⟨c2, oc, vs, t, ec, hoc, hd, hv⟩ := hrec
    cases ec
    have I0 := LamX.inv_table (q := X.env.qual ++ "<lambda>") (t' := tk) (more := #[rawInt lpos.line, rawInt lpos.col, .ref c']) (h' := h') I hP hx htb hge ⟨oc, vs, t, hoc, hd, hv⟩
    have I1 := I0.laid (t' := tk) (o := LamO (X.env.qual ++ "<lambda>") params body scope h'.objs.size c') (fun b u e => Heap.get?_push_of_some _ e) (Nat.le_refl _) (lamO_ok (pm := (X.mg "__name__").getD .none) (ctv := ctv) (Heap.get?_push_size _ rfl))
    have eL : (ps ++ #[rawInt lpos.line, rawInt lpos.col, .ref c']).toList = ps.toList ++ [rawInt lpos.line, rawInt lpos.col, .ref c'] := by simp
    refine ⟨.ref _, _, I1, rfl, hq _ c' _ (.inr ⟨_, I.hok.fresh hge, rfl, ?_, fun p' cv hcv => ?_⟩) (I0.hok.fresh (Nat.le_refl _)) upd_same⟩
    · rw [eL]
      exact PySem.TriplesOk_snoc _ _ _ _ ht
    · rw [eL] at hcv
      exact LamX.among_app _ ht hcv
/-- the lambda called (somewhere within the context's call) -/
theorem lam_call {pins : List (Addr × Obj)} {σ : L2.St} {H : Hp} {s : Shared} {A' : Around} {q : Str} {params : Arguments} {body : Expr} {scope : Scope} {f c : Addr} {N : List Str} {x : Str} {k : Nat} {v : V} {u : Value} {t : TE} {Q : VK}
    (I : Inv X pins σ H s) (hf : H f = some (LamO q params body scope f c)) (hc : H c = some (LamX.CodeO c q)) (S : FnScope N [x] scope)
    (hb : ∀ (pm cdv ct u : Value), bindArgs (PySem.W.kla_fn "<lambda>" q params body scope [] pm cdv ct) ⟨[u], []⟩ = pure [(x, u)]) (e0 : Env0 X.prog X.w X.K X.mg X.base A' X.stack s H) (hr : Room (k + 1) A') (r : RelV v u)
    (hbody : ∀ (A : Around) (outer : List Env) (s : Shared) (H : Hp), Room k (A.deeper (envOfC q scope s.heap.objs.size f (.ref c))) → PE (cxOf CX0 X.prog X.w X.K X.mg X.base N q scope f (.ref c) A outer s H E0) body t)
    (ht : t (L2.start N [v]) H Q) :
    wpAny (model X.prog X.w) A' (call (.ref f) [u]) (EP X pins σ Q) (fun _ _ => False) s := by
  obtain ⟨⟨pm, ctv, hof⟩, _, _⟩ := I.hok f _ hf
  obtain ⟨⟨oc, vs, tq, hoc, hdc, hvc⟩, _, _⟩ := I.hok c _ hc
  have lim : s.heap.NoLimit := e0.mod.nolimit.keeps fun b o e => (e0.bs b o e).1
  have hkind : ∀ y ∈ [(x, u)], scope.names.lookup y.1 = some .local ∨ (scope.names.lookup y.1 = some .cell ∧ ((cellsFrom (s.heap.objs.size + 1) scope.names []).lookup y.1).isSome = true) := fun y hy => by
    cases List.mem_singleton.mp hy
    rcases S.par x (List.mem_singleton.mpr rfl) with z | z
    · exact .inl z
    · exact .inr ⟨z, PySem.W.cellsFrom_some _ _ _ (.inl z)⟩
  have rc : codeAny (model X.prog X.w) A' (.call (.ref f) ⟨[u], []⟩) (CR CX0 X.stack X.prog X.w H s Q E0) s := by
    refine PySem.W.kla_callFunE hr.depth hof rfl S.co S.gen rfl ⟨c, oc, vs, tq, rfl, hoc, hdc, hvc⟩ ?_
    rw [hb]
    refine wpAny_pure (wpAny_newFunctionEnv_cells S.kind hkind fun env he s1 xc => ?_)
    subst he
    refine ⟨lim.keeps xc.toInCall.keep, ?_⟩
    have J : Inv (cxOf CX0 X.prog X.w X.K X.mg X.base N q scope f (.ref c) A' X.stack s H E0) [] (L2.start N [v]) H s1 := inv_start S hr.hd e0 rfl (.cons r .nil) xc
    refine PySem.W.kla_codeExpr (wpAny_mono ((hbody A' X.stack s H (hr.deeper _)).run [] s1 _ H Q J ht) (fun v' s' hq => ?_) fun e s' hq => hq)
    obtain ⟨w', H', J', rv, hq⟩ := hq
    exact ⟨w', H', J'.os, J'.bare, J'.base, J'.hok, rv, hq⟩
  refine wpAny_call (codeAny_mono rc fun r s' hq => ?_)
  cases r with
  | error e => exact (show False from hq).elim
  | ok fl =>
    cases fl with
    | ret u => exact I.after hq
    | next => exact False.elim hq
    | brk => exact False.elim hq
    | cont => exact False.elim hq
end
/-- a key: an int or a text -/
def kyP : Key → PyData
  | .inl i => .int i
  | .inr x => .str x
theorem reads_key {h : Heap} {κ : Key} {u : Value} (r : RelV (kV κ) u) : ∃ as, Reads h u (kyP κ) as := by
  cases κ with
  | inl i =>
    obtain ⟨t, rfl⟩ : ∃ t, u = .int i t := r
    exact ⟨[], .int i t⟩
  | inr x =>
    obtain ⟨t, rfl⟩ : ∃ t, u = .str x t := r
    exact ⟨[], .str x t⟩
/-- sorted(xs, key=f), f a lambda whose reading is t -/
def rSortK (K : PySem.W.Frag) (q : Str) (params : Arguments) (body : Expr) (scope : Scope) (N : List Str) (t : TE) : List V → List V → Hp → VK → Prop := fun vs zs H Q => ∃ (a f c : Addr) (ws : List (V × Key)) (G : Hp → Prop), vs = [.ref a] ∧ zs = [.ref f] ∧ SqL K H a (ws.map (·.1)) ∧
  PySem.W.AllAlike (ws.map fun z => kyP z.2) ∧ PySem.W.Sortable (ws.map fun z => kyP z.2) ∧ G H ∧ (∀ H1, G H1 → H1 f = some (LamO q params body scope f c) ∧ H1 c = some (LamX.CodeO c q)) ∧
  (∀ z ∈ ws, ∀ H1, G H1 → t (L2.start N [z.1]) H1 fun v H2 => v = kV z.2 ∧ G H2) ∧
  ∀ H1 p, G H1 → H1 p = none → Q (.ref p) (upd H1 p (.lst ((ws.mergeSort (PySem.W.dataLe false fun z => kyP z.2)).map (·.1))))
theorem each_rel {ws : List (V × Key)} : ∀ {its : List Value}, Vals (ws.map (·.1)) its → PySem.W.EachIs (fun u (z : V × Key) => RelV z.1 u) its ws := by
  induction ws with
  | nil => intro its h; cases h; exact .nil
  | cons z zs ih =>
    intro its h
    cases h with
    | cons h1 h2 => exact .cons h1 (ih h2)
theorem rel_each : ∀ {ws : List (V × Key)} {its : List Value}, PySem.W.EachIs (fun u (z : V × Key) => RelV z.1 u) its ws → Vals (ws.map (·.1)) its
  | _, _, .nil => .nil
  | _, _, .cons h t => .cons h (rel_each t)
theorem each_to {α β γ : Type} {R : α → γ → Prop} (f : β → γ) : ∀ {as : List α} {bs : List β}, PySem.W.EachIs (fun a b => R a (f b)) as bs → PySem.W.EachIs R as (bs.map f)
  | _, _, .nil => .nil
  | _, _, .cons h t => .cons h (each_to f t)
section
variable {X : Cx} {pins : List (Addr × Obj)} {σ : L2.St} {H : Hp} {s : Shared}
theorem dep_key (κ : Key) : (kyP κ).depth = 0 := by cases κ <;> rfl
set_option maxHeartbeats 4000000 in
theorem cr_sortK {K : PySem.W.Frag} (hK : X.K = K) {q : Str} {params : Arguments} {body : Expr} {scope : Scope} {N : List Str} {x : Str} {k : Nat} {t : TE} (S : FnScope N [x] scope)
    (hb : ∀ (pm cdv ct u : Value), bindArgs (PySem.W.kla_fn "<lambda>" q params body scope [] pm cdv ct) ⟨[u], []⟩ = pure [(x, u)]) (hr : Room (k + 3) X.A)
    (hbody : ∀ (f c : Addr) (A : Around) (outer : List Env) (s : Shared) (H : Hp), Room k (A.deeper (envOfC q scope s.heap.objs.size f (.ref c))) → PE (cxOf CX0 X.prog X.w X.K X.mg X.base N q scope f (.ref c) A outer s H E0) body t) :
    CallRK X (.builtin "sorted") [Str.ofString "key"] (rSortK K q params body scope N t) := by
  subst hK
  intro pins s σ H vs zs us us2 Q I r rz hh
  obtain ⟨l, f, c, ws, G, rfl, rfl, hs, hal, hsk, hG, hGf, hturn, hend⟩ := hh
  obtain ⟨its, rv, hl, hlen⟩ := I.list hs
  have eu : us = [.ref l] := Vals.ref1 r
  obtain ⟨u, e2, ru⟩ := vals1 rz
  obtain rfl : u = Value.ref f := ru
  subst eu e2
  have hei := each_rel rv
  rw [List.length_map] at hlen
  have hil : its.length = ws.length := hei.length
  have hZ : its.length ≤ sizeLine := by omega
  show wpAny _ _ (call (.builtin "sorted") [.ref l] [(Str.ofString "key", .ref f)]) _ _ _
  refine PySem.W.sorted_of_sort (vs := its) hl.isList hZ (PyProof.Rows.ksk_s1 _ _) (fun _ => PyProof.Rows.ksk_l1 _ _) fun E' => ?_
  rw [PyProof.Rows.ksk_t1]
  obtain ⟨a', ea'⟩ : ∃ a', a' = s.heap.objs.size + 1 := ⟨_, rfl⟩
  have hsa : s.heap.objs.size ≤ a' := by rw [ea']; exact Nat.le_succ _
  have hat := PySem.W.copyHeap_at s.heap its
  rw [← ea'] at hat ⊢
  have ha' : a' < (PySem.W.copyHeap s.heap its).objs.size := Heap.lt_size hat
  obtain ⟨n1, ho1⟩ : ∃ n1, ((PySem.W.copyHeap s.heap its).update a' (Obj.mapSeq fun _ => (#[] : Array Value))).get? a' = some (seqObj "list" #[] n1) := ⟨_, get?_update_seq hat fun _ => #[]⟩
  obtain ⟨kS, ekS⟩ : ∃ kS, kS = (((PySem.W.copyHeap s.heap its).update a' (Obj.mapSeq fun _ => (#[] : Array Value))).push (seqObj "tuple" its.toArray 0)).objs.size := ⟨_, rfl⟩
  have hkS : kS = (PySem.W.copyHeap s.heap its).objs.size + 1 := by rw [ekS, size_push', Heap.size_update]
  have hne : kS ≠ a' := Nat.ne_of_gt (by rw [hkS]; exact Nat.lt_succ_of_lt ha')
  have hsk' : s.heap.objs.size ≤ kS := Nat.le_trans hsa (by rw [hkS]; exact Nat.le_succ_of_le (Nat.le_of_lt ha'))
  have hold : ∀ b o, s.heap.get? b = some o → (PySem.W.sortingHeap (PySem.W.copyHeap s.heap its) a' its).get? b = some o := fun b o e =>
    PySem.W.sortingHeap_old (Nat.ne_of_lt (Nat.lt_of_lt_of_le (Heap.lt_size e) hsa)) (PySem.W.copyHeap_old e)
  have hkk : (PySem.W.sortingHeap (PySem.W.copyHeap s.heap its) a' its).get? kS = some (seqObj "list" #[] 0) := by
    rw [ekS]
    exact Heap.get?_push_size _ rfl
  have haa : (PySem.W.sortingHeap (PySem.W.copyHeap s.heap its) a' its).get? a' = some (seqObj "list" #[] n1) := Heap.get?_push_of_some _ (Heap.get?_push_of_some _ ho1)
  unfold ksk_tree
  refine wpAny_bind (listItems_at hat rfl ?_)
  refine wpAny_bind (listUpdate_at hat rfl ?_ (by rw [List.size_toArray]; exact hZ) (Nat.zero_le _))
  refine wpAny_bind (seqEpoch_at ho1 rfl ?_)
  refine wpAny_bind (wpAny_newTuple ?_ (by show its.length ≤ _; exact hZ))
  refine wpAny_bind (wpAny_newList ?_ (Nat.zero_le _))
  refine wpAny_holding ?_
  rw [← ekS]
  have I0 : Inv X pins σ H { s with heap := PySem.W.sortingHeap (PySem.W.copyHeap s.heap its) a' its } := I.kept (t' := s.toks) hold
  -- what is new is nobody's
  have hpk : ∀ p ∈ X.pn ++ pins, p.1 ≠ kS ∧ p.1 ≠ a' := fun p hp => by
    have h1 := Heap.lt_size (I.pin p hp).1
    exact ⟨Nat.ne_of_lt (Nat.lt_of_lt_of_le h1 hsk'), Nat.ne_of_lt (Nat.lt_of_lt_of_le h1 hsa)⟩
  have hcell : ∀ y c, X.env.cells.lookup y = some c → c ≠ kS ∧ c ≠ a' := fun y c e => by
    obtain ⟨v, o, ho, _⟩ := I.cell y c e
    have h1 := Heap.lt_size ho
    exact ⟨Nat.ne_of_lt (Nat.lt_of_lt_of_le h1 hsk'), Nat.ne_of_lt (Nat.lt_of_lt_of_le h1 hsa)⟩
  have hloc : kS ≠ X.env.locals ∧ a' ≠ X.env.locals := by
    have h1 := I.lt
    exact ⟨Nat.ne_of_gt (Nat.lt_of_lt_of_le h1 hsk'), Nat.ne_of_gt (Nat.lt_of_lt_of_le h1 hsa)⟩
  have hfs : kS ∉ X.fs ∧ a' ∉ X.fs := ⟨I.nofs hsk', I.nofs hsa⟩
  have addP : ∀ {σ : L2.St} {H1 : Hp} {s1 : Shared} {kA : Array Value} {e : Nat}, Inv X pins σ H1 s1 → s1.heap.get? kS = some (seqObj "list" kA e) → s1.heap.get? a' = some (seqObj "list" #[] n1) → H1 kS = none → H1 a' = none →
      Inv X ([(kS, seqObj "list" kA e), (a', seqObj "list" #[] n1)] ++ pins) σ H1 s1 := fun {σ H1 s1 kA e} J z1 z2 z3 z4 => J.pins_of fun p hp => by
    rcases List.mem_append.mp hp with hp | hp
    · rcases List.mem_cons.mp hp with rfl | hp
      · exact ⟨z1, z3, hloc.1, hfs.1, fun v z => by cases z⟩
      · cases List.mem_singleton.mp hp
        exact ⟨z2, z4, hloc.2, hfs.2, fun v z => by cases z⟩
    · exact J.pin p (List.mem_append_right _ hp)
  unfold ksk_rest
  refine wpAny_bind (wpAny_rule ?_)
  first
    | rw [List.forIn_toArray]
    | (rw [← Array.forIn_toList]; simp only [List.toList_toArray])
  refine wpAny_bind (ksk_fold (fun i s1 => ∃ (H1 : Hp) (kA : Array Value) (e : Nat), G H1 ∧ Inv X ([(kS, seqObj "list" kA e), (a', seqObj "list" #[] n1)] ++ pins) σ H1 s1 ∧ PySem.W.EachIs (fun u (z : V × Key) => RelV (kV z.2) u) kA.toList (ws.take i)) its 0 _
    ⟨H, #[], 0, hG, addP I0 hkk haa (I.hok.fresh hsk') (I.hok.fresh hsa), by rw [List.take_zero]; exact .nil⟩ ?step ?done)
  case step =>
    rintro j y s1 hy ⟨H1, kA, e, hG1, J, hk⟩
    simp only [Nat.zero_add] at hk ⊢
    have hj : j < its.length := (List.getElem?_eq_some_iff.mp hy).1
    obtain ⟨z, hz⟩ : ∃ z, ws[j]? = some z := ⟨_, List.getElem?_eq_getElem (by omega)⟩
    have hm : z ∈ ws := List.mem_of_getElem? hz
    have hrel : RelV z.1 y := hei.zip (y, z) (List.mem_of_getElem? (i := j) (by rw [List.getElem?_zip_eq_some]; exact ⟨hy, hz⟩))
    have hsz : kA.size ≤ its.length := by
      have h1 := hk.length
      rw [Array.length_toList, List.length_take] at h1
      omega
    obtain ⟨hGf1, hGc1⟩ := hGf H1 hG1
    refine wpAny_bind (wpAny_attempt (wpAny_mono (lam_call (k := k) J hGf1 hGc1 S hb J.env0.in1.in1 ((hr.in1).in1) hrel (hbody f c) (hturn z hm H1 hG1)) (fun u s2 hu => ?_) fun _ _ hF => hF.elim))
    obtain ⟨v, H2, J2, rv2, ev, hG2⟩ := hu
    subst ev
    have p1 := J2.pin (kS, seqObj "list" kA e) (List.mem_append_right _ (List.mem_append_left _ List.mem_cons_self))
    have p2 := J2.pin (a', seqObj "list" #[] n1) (List.mem_append_right _ (List.mem_append_left _ (List.mem_cons_of_mem _ List.mem_cons_self)))
    have sb := Heap.SameBut.update s2.heap kS (Obj.mapSeq (·.push u))
    obtain ⟨e2, hc2⟩ : ∃ e2, (s2.heap.update kS (Obj.mapSeq (·.push u))).get? kS = some (seqObj "list" (kA.push u) e2) := ⟨_, get?_update_seq p1.1 (·.push u)⟩
    try dsimp only
    refine wpAny_bind (listUpdate_at p1.1 rfl ?_ (by omega) (by rw [Array.size_push]; omega))
    have J3 : Inv X pins σ H2 s2 := J2.pins_of fun p hp => J2.pin p ((List.mem_append.mp (List.mem_append_right (as := X.pn) hp)).elim (List.mem_append_left _) fun h => List.mem_append_right _ (List.mem_append_right _ h))
    have J4 : Inv X pins σ H2 { s2 with heap := s2.heap.update kS (Obj.mapSeq (·.push u)) } := J3.turned (t' := s2.toks) (it := kS) (fun b o hbk e => (sb.2 b hbk).trans e) p1.2.1 hloc.1 (.inr (Nat.le_trans I.sz hsk')) (fun x c e => (hcell x c e).1) fun p hp => (hpk p hp).1
    refine wpAny_pure ⟨rfl, H2, kA.push u, e2, hG2, addP J4 hc2 ((sb.2 a' hne.symm).trans p2.1) p1.2.1 p2.2.1, ?_⟩
    have e3 : ws.take (j + 1) = ws.take j ++ [z] := by rw [List.take_add_one, hz]; simp
    have e4 : (kA.push u).toList = kA.toList ++ [u] := by simp
    rw [e3, e4]
    exact PySem.W.each_snoc (R := fun u (z : V × Key) => RelV (kV z.2) u) rv2 hk
  case done =>
    rintro s1 ⟨H1, kA, e, hG1, J, hk⟩
    have e0 : ws.take (0 + its.length) = ws := List.take_of_length_le (by omega)
    rw [e0] at hk
    have p1 := J.pin (kS, seqObj "list" kA e) (List.mem_append_right _ (List.mem_append_left _ List.mem_cons_self))
    have p2 := J.pin (a', seqObj "list" #[] n1) (List.mem_append_right _ (List.mem_append_left _ (List.mem_cons_of_mem _ List.mem_cons_self)))
    have hsz : kA.size = its.length := by
      have h1 := hk.length
      rw [Array.length_toList] at h1
      omega
    have hkd : PySem.W.EachIs (fun u d => ∃ as, Reads s1.heap u d as) kA.toList (ws.map fun z => kyP z.2) := each_to (fun z : V × Key => kyP z.2) (hk.mono fun u z h => reads_key h)
    try dsimp only
    refine wpAny_bind (listItems_at p1.1 rfl ?_)
    refine PySem.W.keyH_end (κ := PySem.W.dataKind s1.heap (ws.map fun z => kyP z.2)) (h₁ := PySem.W.hideAll s1.heap [kS]) (fun b o _ e => PySem.W.of_hideAll _ e) (PySem.W.hideAll_none _ List.mem_cons_self) p1.1 p2.1 hne
      (PySem.W.SortsAt.data hkd hal hsk fun d hd => ?_) hsz hZ fun h3 tk3 c3 k3 n3 => ?_
    · obtain ⟨z, _, rfl⟩ := List.mem_map.mp hd
      rw [dep_key]
      have := hr.in1.in1.units
      omega
    · refine ⟨rfl, .ref a', upd H1 a' (.lst ((ws.mergeSort (PySem.W.dataLe false fun z => kyP z.2)).map (·.1))), ?_, rfl, hend H1 a' hG1 p2.2.1⟩
      have hout := PySem.W.keyedOut_each (rev := false) (bs := ws) (R := fun u (z : V × Key) => RelV z.1 u) (fun z => kyP z.2) ⟨s1.heap, kA.toList, hal, rfl, hkd⟩ hei
      have keep : ∀ b o, b ≠ a' → b ≠ kS → s1.heap.get? b = some o → h3.get? b = some o := fun b o q1 q2 e => k3 b o q1 (PySem.W.hideAll_get _ e (by simpa using q2))
      have hnew : ObjOk X.prog X.w (upd H1 a' (.lst ((ws.mergeSort (PySem.W.dataLe false fun z => kyP z.2)).map (·.1)))) h3 a' (.lst ((ws.mergeSort (PySem.W.dataLe false fun z => kyP z.2)).map (·.1))) :=
        ⟨by rw [List.length_map, List.length_mergeSort]; omega, _, c3, rel_each hout, n3⟩
      have J3 : Inv X pins σ H1 s1 := J.pins_of fun p hp => J.pin p ((List.mem_append.mp (List.mem_append_right (as := X.pn) hp)).elim (List.mem_append_left _) fun h => List.mem_append_right _ (List.mem_append_right _ h))
      refine J3.step (g' := s1.gens) (d' := s1.drawn) (t' := tk3) (ch := [kS, a']) (fun b hb => ?_) (fun b o _ _ hc e _ => keep b o (fun z => hc (by simp [z])) (fun z => hc (by simp [z])) e) (fun b o _ _ hc e _ => ⟨o.slots, keep b o (fun z => hc (by simp [z])) (fun z => hc (by simp [z])) e⟩)
        (fun b o hc e n => by rw [upd_ne fun z => hc (by simp [z])]; exact n) (fun b o hc e => ⟨o, keep b o (fun z => hc (by simp [z])) (fun z => hc (by simp [z])) e⟩) (fun b xs e => by rw [upd_ne (ne_of_none e p2.2.1)]; exact e) (fun b o u e => by rw [upd_ne (ne_of_none e p2.2.1)]; exact e)
        (fun b ps e => ⟨#[], by rw [upd_ne (ne_of_none e p2.2.1), e]; simp⟩) (fun m hm => ?_) (fun b u e => ?_) J3.bare
      · have hb2 : b = kS ∨ b = a' := by simpa using hb
        rcases hb2 with rfl | rfl
        · exact ⟨.inr (Nat.le_trans I.sz hsk'), hloc.1, fun x c e => (hcell x c e).1, fun p hp => (hpk p hp).1⟩
        · exact ⟨.inr (Nat.le_trans I.sz hsa), hloc.2, fun x c e => (hcell x c e).2, fun p hp => (hpk p hp).2⟩
      · obtain ⟨o, es, ep, ho, rr⟩ := hm
        exact ⟨o, es, ep, keep _ o (Ne.symm hloc.2) (Ne.symm hloc.1) ho, rr⟩
      · by_cases hb2 : b = a'
        · subst hb2
          rw [upd_same] at e
          cases e
          exact hnew
        · rw [upd_ne hb2] at e
          have nb : b ≠ kS := ne_of_none e p1.2.1
          refine (J3.hok b u e).stay (fun d v hd q => keep d v ?_ ?_ q) (fun d q => by rw [upd_ne (ne_of_none q p2.2.1)]; exact q) fun d xs q => by rw [upd_ne (ne_of_none q p2.2.1)]; exact q
          · rcases hd with z | z
            · rw [z]; exact hb2
            · exact ne_of_none z p2.2.1
          · rcases hd with z | z
            · rw [z]; exact nb
            · exact ne_of_none z p1.2.1
end
section
variable {X : Cx}
/-- sorted(e, key=lambda x: body) -/
theorem pe_sortK {K : PySem.W.Frag} (hK : X.K = K) {c P : Addr} {params : Arguments} {body e : Expr} {scope : Scope} {lpos kpos p pos : Pos} {N : List Str} {x : Str} {k : Nat} {te tb : TE} (TB : LamX.TabB X.base X.mg c P) (hcode : X.env.code = .ref c) (hg : Gl X "sorted") (hm : X.mg "sorted" = none)
    (S : FnScope N [x] scope) (hr : Room (k + 3) X.A) (he : PE X e te)
    (hbody : ∀ (f c : Addr) (A : Around) (outer : List Env) (s : Shared) (H : Hp), Room k (A.deeper (envOfC (X.env.qual ++ "<lambda>") scope s.heap.objs.size f (.ref c))) → PE (cxOf CX0 X.prog X.w K X.mg X.base N (X.env.qual ++ "<lambda>") scope f (.ref c) A outer s H E0) body tb)
    (hdef : defaultsOf params X.env = ([], []) := by rfl) (hcl : closureFor scope X.env = pure [] := by rfl) (hb : ∀ (pm cdv ct u : Value), bindArgs (PySem.W.kla_fn "<lambda>" (X.env.qual ++ "<lambda>") params body scope [] pm cdv ct) ⟨[u], []⟩ = pure [(x, u)] := by intros; rfl)
    (h0 : starEach [e] X.env = (false, eval e X.env) :: starEach [] X.env := by rfl) (h1 : backTo pos (starEach [e] X.env) = (false, eval e X.env) :: backTo pos (starEach [] X.env) := by rfl) (h2 : (backTo pos (starEach [e] X.env)).any (·.1) = false := by rfl)
    (h3 : (backToKw pos (keywordEach [⟨some (Str.ofString "key"), .Lambda params body scope lpos, kpos⟩] X.env)).all (·.1.isSome) = true := by rfl) (h4 : (backToKw pos (keywordEach [⟨some (Str.ofString "key"), .Lambda params body scope lpos, kpos⟩] X.env)).any (·.1.isNone) = false := by rfl)
    (h5 : (backToKw pos (keywordEach [⟨some (Str.ofString "key"), .Lambda params body scope lpos, kpos⟩] X.env)).filterMap (·.1) = [Str.ofString "key"] := by rfl) :
    PE X (.Call (.Name "sorted" p) [e] [⟨some (Str.ofString "key"), .Lambda params body scope lpos, kpos⟩] pos)
      (tCKw (rSortK K (X.env.qual ++ "<lambda>") params body scope N tb) (tCons te tNil) (tCons (tLam1 P (X.env.qual ++ "<lambda>") (LamO (X.env.qual ++ "<lambda>") params body scope)) tNil)) := by
  subst hK
  exact pe_callBK (cr_sortK rfl S hb hr hbody) hg hm rfl (pa_cons (hs := h0) he pa_nil) (pk_cons (pe_lam1 TB hcode hdef hcl) pk_nil) (by decide) (by decide) h1 h2 h3 h4 h5
end
/-! ### sorted by a lambda, by data -/
def sortByK (key : D → Key) (ds : List D) : List D := ds.mergeSort fun a b => leD (dKey (key a)) (dKey (key b))
section
variable {K : PySem.W.Frag} {Ξ : XI}
/-- what a thing entered from here leaves, seen from here -/
theorem inner_back {F H F' H' : Hp} {ω ω' : Om} {s : Sl} {σ : L2.St} (T : Sta K Ξ F H ω s σ) (p : Stp F H (fun _ => none) F' H' ω') (hs : Same F' H') : Stp F H ω F' H' ω ∧ Sta K Ξ F' H' ω s σ := by
  have tb : AllT F' H' ω := fun q hq => by
    obtain ⟨h1, _, h3⟩ := p.tb q hq
    exact ⟨h1, (T.tb q hq).2.1, h3⟩
  have pp : Stp F H ω F' H' ω := ⟨T.tb, tb, fun b o _ h => p.th b o rfl h, p.sf, fun b o ht _ h => p.fr b o ht rfl h, fun _ _ h _ => h, fun b o _ h1 h2 => p.fn b o rfl h1 h2, p.tr, fun _ _ => Iff.rfl, fun _ _ _ _ h => .inl h, fun _ _ h => .inl h⟩
  refine ⟨pp, ⟨tb, hs, fun b q h => ?_, fun i x h => ?_, T.len, T.ix⟩, T.ex.step pp⟩
  · obtain ⟨h1, u, h2⟩ := T.ow b q h
    exact ⟨p.fn b u rfl h2 h1, p.th b u rfl h2⟩
  · obtain ⟨v, h1, h2⟩ := T.at' i x h
    exact ⟨v, h1, h2.to p.sf fun a u ⟨_, hw⟩ hu => p.fr a u (T.tb.own hw) rfl hu⟩
theorem codeO_tbl {c : Addr} {q : Str} (ps : Array Value) : LamX.CodeO c q ≠ .tbl ps := fun z => by
  unfold LamX.CodeO at z
  cases z
/-- a lambda is made -/
theorem lam_sta {F H H2 : Hp} {ω : Om} {s : Sl} {σ : L2.St} {P f c : Addr} {q : Str} {ps : Array Value} {o : HO} (T : Sta K Ξ F H ω s σ) (hm : (P, q) ∈ Tbs.T) (hu : ∀ p ∈ Tbs.T, p.1 = P → p.2 = q) (hP : H P = some (.tbl ps)) (hL : LamH P q H ps c H2) (hf : H2 f = none) (hc : H2 c = some (LamX.CodeO c q)) :
    Stp F H ω (upd (upd F c (LamX.CodeO c q)) f o) (upd H2 f o) ω ∧ Sta K Ξ (upd (upd F c (LamX.CodeO c q)) f o) (upd H2 f o) ω s σ ∧ upd (upd F c (LamX.CodeO c q)) f o f = some o ∧ upd (upd F c (LamX.CodeO c q)) f o c = some (LamX.CodeO c q) := by
  obtain ⟨t1, t2, ps', t3, t4, t5⟩ := T.tb _ hm
  rw [hP] at t3
  cases t3
  have hcf : c ≠ f := ne_of_none hc hf
  have hcP : c ≠ P := fun z => by
    rcases hL with ⟨e, _⟩ | ⟨more, n1, e, _⟩
    · rw [e, z, hP] at hc
      exact codeO_tbl _ (Option.some.inj hc).symm
    · rw [z, hP] at n1
      cases n1
  have hold : ∀ b u, b ≠ P → H b = some u → H2 b = some u := fun b u hb h => by
    rcases hL with ⟨e, _⟩ | ⟨more, n1, e, _⟩
    · rw [e]; exact h
    · rw [e, upd_ne (ne_of_none h n1), upd_ne hb]
      exact h
  have hPt : ∃ qs : Array Value, H2 P = some (.tbl qs) ∧ TriplesOk qs.toList ∧ ∀ (pos : Pos) (cv : Value), codeAmong pos qs.toList = some cv → (∃ c0, cv = .ref c0 ∧ F c0 = some (LamX.CodeO c0 q)) ∨ cv = .ref c := by
    rcases hL with ⟨e, _⟩ | ⟨more, n1, e, h1, h2⟩
    · exact ⟨ps, by rw [e]; exact hP, t4, fun pos cv h => .inl (t5 pos cv h)⟩
    · exact ⟨_, by rw [e, upd_ne (Ne.symm hcP), upd_same], h1, fun pos cv h => (h2 pos cv h).imp (t5 pos cv) id⟩
  have hHf : H f = none := by
    cases e : H f with
    | none => rfl
    | some u =>
      by_cases hb : f = P
      · obtain ⟨qs, e2, _⟩ := hPt
        rw [← hb, hf] at e2
        cases e2
      · rw [hold f u hb e] at hf; cases hf
  have hFf : F f = none := T.sf.free hHf
  have hωf : ω f = none := Sta.free T.base hHf
  -- what of c was known
  have hFc : (F c = none ∧ H c = none ∧ ω c = none) ∨ F c = some (LamX.CodeO c q) := by
    rcases hL with ⟨e, pos, hca⟩ | ⟨more, n1, e, _⟩
    · obtain ⟨c0, e1, e2⟩ := t5 pos _ hca
      cases e1
      exact .inr e2
    · exact .inl ⟨T.sf.free n1, n1, Sta.free T.base n1⟩
  have hωc : ω c = none := by
    rcases hFc with z | z
    · exact z.2.2
    · cases e : ω c with
      | none => rfl
      | some p => rw [(T.ow c p e).1] at z; cases z
  have s1 : Same F (upd F c (LamX.CodeO c q)) := fun b u h => by
    by_cases hb : b = c
    · rcases hFc with ⟨z, _⟩ | z
      · rw [hb, z] at h; cases h
      · rw [hb, upd_same, ← z, ← hb]; exact h
    · rw [upd_ne hb]; exact h
  have s2 : Same F (upd (upd F c (LamX.CodeO c q)) f o) := s1.trans (same_upd (by rw [upd_ne (Ne.symm hcf)]; exact hFf))
  have hpd : ∀ b u, b ≠ P → H b = some u → upd H2 f o b = some u := fun b u hb h => by
    rw [upd_ne (ne_of_none h hHf)]
    exact hold b u hb h
  have hFP : ∀ b u, F b = some u → b ≠ P := fun b u h z => by rw [z, t1] at h; cases h
  have tb : AllT (upd (upd F c (LamX.CodeO c q)) f o) (upd H2 f o) ω := fun p hp => by
    obtain ⟨a1, a2, qs, a3, a4, a5⟩ := T.tb p hp
    have npc : p.1 ≠ c := fun z => by
      rcases hFc with ⟨_, y, _⟩ | y
      · rw [z, y] at a3; cases a3
      · rw [z, y] at a1; cases a1
    have npf : p.1 ≠ f := ne_of_none a3 hHf
    refine ⟨by rw [upd_ne npf, upd_ne npc]; exact a1, a2, ?_⟩
    by_cases hb : p.1 = P
    · obtain ⟨rs, b1, b2, b3⟩ := hPt
      refine ⟨rs, by rw [upd_ne npf, hb]; exact b1, b2, fun pos cv h => ?_⟩
      rw [hu p hp hb]
      rcases b3 pos cv h with ⟨c0, e, z⟩ | e
      · exact ⟨c0, e, s2 _ _ z⟩
      · exact ⟨c, e, by rw [upd_ne hcf, upd_same]⟩
    · refine ⟨qs, hpd _ _ hb a3, a4, fun pos cv h => ?_⟩
      obtain ⟨c0, e, z⟩ := a5 pos cv h
      exact ⟨c0, e, s2 _ _ z⟩
  have hPf : P ≠ f := ne_of_none hP hHf
  have nown : ∀ b p, ω b = some p → b ≠ c ∧ b ≠ f ∧ b ≠ P := fun b p h => by
    refine ⟨fun z => ?_, fun z => ?_, fun z => ?_⟩
    · rw [z, hωc] at h; cases h
    · rw [z, hωf] at h; cases h
    · rw [z, t2] at h; cases h
  have pp : Stp F H ω (upd (upd F c (LamX.CodeO c q)) f o) (upd H2 f o) ω := by
    refine ⟨T.tb, tb, fun b u _ h => ?_, s2, fun b u ht _ h => hpd b u (fun z => ht ⟨q, by rw [z]; exact hm⟩) h, fun _ _ h _ => h, fun b u _ h1 h2 => ?_, fun b h => ?_, fun _ _ => Iff.rfl, fun _ _ _ _ h => .inl h, fun _ _ h => .inl h⟩
    · by_cases hb : b = P
      · obtain ⟨rs, b1, _⟩ := hPt
        exact ⟨_, by rw [hb, upd_ne hPf]; exact b1⟩
      · exact ⟨u, hpd b u hb h⟩
    · rw [upd_ne (ne_of_none h1 hHf)]
      by_cases hb : b = c
      · rcases hFc with ⟨_, y, _⟩ | y
        · rw [hb, y] at h1; cases h1
        · rw [hb, y] at h2; cases h2
      · rw [upd_ne hb]; exact h2
    · cases e : H b with
      | none => rfl
      | some u =>
        by_cases hb : b = P
        · obtain ⟨rs, b1, _⟩ := hPt
          rw [hb, upd_ne hPf, b1] at h
          cases h
        · rw [hpd b u hb e] at h; cases h
  refine ⟨pp, ⟨⟨tb, fun b u h => ?_, fun b p h => ?_, fun i x h => ?_, T.len, T.ix⟩, T.ex.step pp⟩, upd_same, by rw [upd_ne hcf, upd_same]⟩
  · by_cases hbf : b = f
    · rw [hbf, upd_same] at h ⊢
      exact h
    · rw [upd_ne hbf] at h ⊢
      by_cases hb : b = c
      · rw [hb, upd_same] at h
        rw [hb, ← h]
        exact hc
      · rw [upd_ne hb] at h
        exact hold b u (hFP b u h) (T.sf b u h)
  · obtain ⟨n1, n2, n3⟩ := nown b p h
    obtain ⟨h1, u, h2⟩ := T.ow b p h
    exact ⟨by rw [upd_ne n2, upd_ne n1]; exact h1, u, hpd b u n3 h2⟩
  · obtain ⟨v, h1, h2⟩ := T.at' i x h
    exact ⟨v, h1, h2.to s2 fun a u ⟨p, hw⟩ hu => hpd a u (nown a p hw).2.2 hu⟩
def pSortK (P : Addr) (q : Str) (n : Nat) (pe : PD) (pb : PX) : PX := fun s k => pe s fun d s1 => match d with
  | .lst ds => (P, q) ∈ Tbs.T ∧ (∀ p ∈ Tbs.T, p.1 = P → p.2 = q) ∧ ∃ key : D → Key, (∀ d ∈ ds, pb (startS n [.fr d]) fun x _ => x = .fr (dKey (key d))) ∧ SortOk (ds.map fun d => dKey (key d)) ∧ k (.ow false (.lst (sortByK key ds))) s1
  | _ => False
theorem py_key (κ : Key) : (dKey κ).py = kyP κ := by cases κ <;> rfl
instance {P : Addr} {q : Str} {params : Arguments} {body : Expr} {scope : Scope} {N : List Str} {te tb : TE} {pe : PD} {pb : PX} [LiftD K Ξ te pe] [LiftE K XI.zero tb pb] :
    LiftE K Ξ (tCKw (rSortK K q params body scope N tb) (tCons te tNil) (tCons (tLam1 P q (LamO q params body scope)) tNil)) (pSortK P q N.length pe pb) := ⟨fun {F H ω s σ Q} kk T h k => by
  refine LiftD.run (K := K) (t := te) (p := pe) _ T h fun v F1 H1 ω1 d s1 p1 T1 r1 h1 => ?_
  split at h1
  rotate_left
  · exact h1.elim
  rename_i ds
  obtain ⟨hm, hu, key, hkey, ⟨hpl, hal, hso⟩, hq⟩ := h1
  obtain ⟨a, vs, rfl, ha, hvs⟩ := r1
  obtain ⟨t1, t2, ps, t3, t4, t5⟩ := T1.tb _ hm
  refine ⟨ps, t3, t4, fun pos cv hc => ?_, fun f c H2 hL hf hc => ?_⟩
  · obtain ⟨c, e, z⟩ := t5 pos cv hc
    exact ⟨c, e, T1.sf _ _ z⟩
  obtain ⟨p2, T2, hff, hfc⟩ := lam_sta (o := LamO q params body scope f c) T1 hm hu t3 hL hf hc
  obtain ⟨zs, rfl, rfl, hz⟩ := RpA.pair hvs
  have e1 : (zs.map fun z => (z.1, key z.2)).map (fun z => kyP z.2) = ((zs.map (·.2)).map fun d => dKey (key d)).map D.py := by
    rw [List.map_map, List.map_map, List.map_map]
    exact List.map_congr_left fun z _ => (py_key _).symm
  refine ⟨a, f, c, zs.map fun z => (z.1, key z.2), fun H3 => ∃ F3, Stp (upd (upd F1 c (LamX.CodeO c q)) f (LamO q params body scope f c)) (upd H2 f (LamO q params body scope f c)) ω1 F3 H3 ω1 ∧ Sta K Ξ F3 H3 ω1 s1 σ, rfl, rfl, ?_, ?_, ?_, ⟨_, Stp.refl T2.tb, T2⟩, ?_, ?_, ?_⟩
  · rw [List.map_map]
    exact SqL.of (T2.sf _ _ (p2.sf _ _ ha))
  · rw [e1]; exact hal
  · rw [e1]; exact hso
  · rintro H3 ⟨F3, p3, T3⟩
    exact ⟨T3.sf _ _ (p3.sf _ _ hff), T3.sf _ _ (p3.sf _ _ hfc)⟩
  · rintro y hy H3 ⟨F3, p3, T3⟩
    obtain ⟨z, hzm, rfl⟩ := List.mem_map.mp hy
    have hr := ((hz z hzm).mono p2.sf).mono p3.sf
    have T0 : Sta K XI.zero F3 H3 (fun _ => none) (startS N.length [.fr z.2]) (L2.start N [z.1]) := by
      refine ⟨⟨T3.tb.go (Same.refl _) (fun _ _ _ _ h => h) (fun _ _ _ _ _ => rfl) (fun _ _ _ _ _ h => h), T3.sf, fun _ _ h => (by cases h), fun i x hx => ?_, by unfold startS L2.start; simp, fun _ _ _ h => (by cases h)⟩, Exo.zero⟩
      cases i with
      | zero =>
        cases hx
        exact ⟨z.1, rfl, hr⟩
      | succ i =>
        unfold startS at hx
        have : (List.replicate (N.length - 1) (none : Option S))[i]? = some (some x) := by simpa using hx
        rw [List.getElem?_replicate] at this
        split at this <;> cases this
    refine LiftE.run (K := K) (Ξ := XI.zero) (t := tb) (p := pb) _ T0 (hkey z.2 (List.mem_map_of_mem hzm)) fun v4 F4 H4 ω4 x s4 p4 T4 r4 hx => ?_
    subst hx
    obtain ⟨p5, T5⟩ := inner_back T3 p4 T4.sf
    refine ⟨?_, F4, p3.trans p5, T5⟩
    show v4 = kV (key z.2)
    cases e : key z.2 with
    | inl i => rw [e] at r4; exact r4
    | inr x => rw [e] at r4; exact r4
  · rintro H3 p ⟨F3, p3, T3⟩ hp
    have e3 : ((zs.map fun z => (z.1, key z.2)).mergeSort (PySem.W.dataLe false fun z => kyP z.2)).map (·.1) = (zs.mergeSort fun x y => leD (dKey (key x.2)) (dKey (key y.2))).map (·.1) := by
      rw [← PySem.W.sort_maps (r := fun (x y : V × D) => leD (dKey (key x.2)) (dKey (key y.2))) (fun z : V × D => (z.1, key z.2)) (fun a _ b _ => by unfold leD; rw [py_key, py_key]; rfl), List.map_map]
      rfl
    have e4 : sortByK key (zs.map (·.2)) = (zs.mergeSort fun x y => leD (dKey (key x.2)) (dKey (key y.2))).map (·.2) := by
      unfold sortByK
      rw [← PySem.W.sort_maps (r := fun (x y : V × D) => leD (dKey (key x.2)) (dKey (key y.2))) (fun z : V × D => z.2) (fun a _ b _ => rfl)]
    rw [e3]
    rw [e4] at hq
    have ee := Ext.ow T3.sf hp (.lst ((zs.mergeSort fun x y => leD (dKey (key x.2)) (dKey (key y.2))).map (·.1)))
    obtain ⟨p6, T6⟩ := ee.stp T3
    have pa := p1.trans (p2.trans p3)
    exact k _ _ _ _ (.ow false (.lst _)) _ (pa.trans p6) T6 ⟨p, [p], rfl, fun b hb => by cases List.mem_singleton.mp hb; exact ⟨pa.tr _ hp, Sta.free T3.base hp, T3.sf.free hp⟩, obj_lst upd_same (RpA.unpair fun z hzm => ((hz z (List.mem_mergeSort.mp hzm)).mono p2.sf).mono p3.sf)⟩ hq⟩
end
section
variable {P : Program} {w : World} {K : PySem.W.Frag} {mg : Str → Option Value}
/-- a def's rule, its code object told -/
theorem fun_okC {x qual : Str} {st : Stmt} {f : Addr} {fd : FuncData} {N ps : List Str} {k : Nat} {sp : Sp} (Fn : L2.Fun K x qual st f fd) (S : FnScope N ps (defScope st)) (len : ∀ vs H Q E, sp vs H Q E → vs.length = ps.length)
    (hb : ∀ (A : Around) (outer : List Env) (s : Shared) (H : Hp) (vs : List V) (Q : VK) (E : XK), Room k (A.deeper (envOfC qual (defScope st) s.heap.objs.size f fd.code)) → sp vs H Q E →
      ∃ t, PSs (cxOf CX0 P w K mg base N qual (defScope st) f fd.code A outer s H E).nox (defBody st) t ∧ t { nx := fun _ H' => Q .non H', rt := Q } (L2.start N vs) H) : FnOk P w K mg base CX0 (k + 1) f fd ps sp := by
  obtain ⟨_, _, _, _, _, _, _, _, _, rfl, lk, hcd⟩ := Fn.ex
  exact fn_of lk hcd S len fun A outer s H vs Q E hr hs => (hb A outer s H vs Q E hr hs).imp fun t z => ⟨z.1.nox, z.2⟩
theorem fun_okXC {x qual : Str} {st : Stmt} {f : Addr} {fd : FuncData} {N ps : List Str} {k : Nat} {sp : Sp} (Fn : L2.Fun K x qual st f fd) (S : FnScope N ps (defScope st)) (len : ∀ vs H Q E, sp vs H Q E → vs.length = ps.length)
    (hb : ∀ (A : Around) (outer : List Env) (s : Shared) (H : Hp) (vs : List V) (Q : VK) (E : XK), Room k (A.deeper (envOfC qual (defScope st) s.heap.objs.size f fd.code)) → sp vs H Q E →
      ∃ t, PSs (cxOf (L2.CX P w) P w K mg base N qual (defScope st) f fd.code A outer s H E) (defBody st) t ∧ t { nx := fun _ H' => Q .non H', rt := Q } (L2.start N vs) H) : FnOk P w K mg base (L2.CX P w) (k + 1) f fd ps sp := by
  obtain ⟨_, _, _, _, _, _, _, _, _, rfl, lk, hcd⟩ := Fn.ex
  exact fn_of lk hcd S len fun A outer s H vs Q E hr hs => hb A outer s H vs Q E hr hs
end
/-! ### xs.remove(y), items data of any depth -/
section
open PySem.SeqAt PySem.MeetsSeq
theorem remD_loop (l : Addr) (us : Array Value) (n : Nat) (y : Value) (f : Value → Bool) (j : Nat) (hj : j < us.size) (hit : f us[j] = true) (hz : us.size ≤ sizeLine) (k : Nat) :
    ∀ i : Nat, j - i = k → i ≤ j → (∀ m (q : m < us.size), i ≤ m → m < j → f us[m] = false) →
    PySem.Meets (Builtin.«list.remove.loop» ⟨[.ref l, y, rawInt i], []⟩) (fun A R s => s.heap.get? l = some ⟨.type "list", none, .seq us n, #[]⟩ ∧ (∀ u, u ∈ us → EqAt A.in1 s u y (f u)) ∧
      R (.ok (.ret .none)) { s with heap := s.heap.update l (Obj.mapSeq fun xs => xs.eraseIdxIfInBounds j) }) := by
  induction k with
  | zero =>
    intro i e1 e2 no prog w A R s h
    obtain ⟨hp, g, d, tk, os⟩ := s
    obtain ⟨hl, he, h⟩ := h
    obtain rfl : i = j := by omega
    wp_walk using wpAny_loadPart' hl
    have at_ : us[((i : Nat) : Int).toNat]? = some us[i] := by simp [hj]
    rw [at_]
    refine wpAny_bind (he _ (Array.getElem_mem hj) prog w _ _ ?_)
    rw [hit]
    have z2 : (us.eraseIdxIfInBounds i).size ≤ sizeLine + 1 := by
      have := size_erased us i
      omega
    wp_walk using (wpAny_updateSeq hl rfl (hz := hz) (_hz' := z2)), wpAny_loadPart' hl
    simpa using h
  | succ k ih =>
    intro i e1 e2 no prog w A R s h
    obtain ⟨hp, g, d, tk, os⟩ := s
    obtain ⟨hl, he, h⟩ := h
    have lt : i < us.size := by omega
    wp_walk using wpAny_loadPart' hl
    have at_ : us[((i : Nat) : Int).toNat]? = some us[i] := by simp [lt]
    have nx : ((i : Int) + 1) = ((i + 1 : Nat) : Int) := by push_cast; rfl
    rw [at_]
    refine wpAny_bind (he _ (Array.getElem_mem lt) prog w _ _ ?_)
    rw [no i lt (Nat.le_refl _) (by omega)]
    wp_walk
    rw [nx]
    refine ⟨plainId_quiet plain_remove_loop _, codeAny_builtin entry_remove_loop ?_⟩
    rw [Around.under_plainId plain_remove_loop _]
    exact ih (i + 1) (by omega) (by omega) (fun m q a b => no m q (by omega) b) prog w A R _ ⟨hl, he, h⟩
theorem remD (l : Addr) (us : Array Value) (n : Nat) (y : Value) (f : Value → Bool) (j : Nat) (hj : j < us.size) (hit : f us[j] = true) (no : ∀ m (q : m < us.size), m < j → f us[m] = false) (hz : us.size ≤ sizeLine) :
    PySem.Meets (Builtin.«list.remove» ⟨[.ref l, y], []⟩) (fun A R s => s.heap.get? l = some ⟨.type "list", none, .seq us n, #[]⟩ ∧ (∀ u, u ∈ us → EqAt A.in1 s u y (f u)) ∧
      R (.ok (.ret .none)) { s with heap := s.heap.update l (Obj.mapSeq fun xs => xs.eraseIdxIfInBounds j) }) := by
  intro prog w A R s h
  obtain ⟨hp, g, d, tk, os⟩ := s
  obtain ⟨hl, he, h⟩ := h
  wp_walk using wpAny_loadPart' hl
  refine ⟨plainId_quiet plain_remove_loop _, codeAny_builtin entry_remove_loop ?_⟩
  rw [Around.under_plainId plain_remove_loop _]
  exact remD_loop l us n y f j hj hit hz _ 0 rfl (Nat.zero_le _) (fun m q _ b => no m q b) prog w A R _ ⟨hl, he, h⟩
end
def rRemD (K : PySem.W.Frag) : V → List V → Hp → VK → Prop := fun x xs H Q => ∃ (l : Addr) (vs : List V) (y : V) (d : PyData) (ds : List PyData) (j : Nat) (z : PyData), x = .ref l ∧ xs = [y] ∧ H l = some (.lst vs) ∧ DpAll K H vs ds ∧ Dp K H y d ∧
  SeqAt.shaped (.list ds) = true ∧ SeqAt.shaped d = true ∧ ds[j]? = some z ∧ PyData.eqv z d = true ∧ (∀ (m : Nat) (z' : PyData), m < j → ds[m]? = some z' → PyData.eqv z' d = false) ∧ Q .non (upd H l (.lst (vs.eraseIdx j)))
theorem mt_remD {X : Cx} (hu : X.A.units + 65 < cLine) : MtR X "list.remove" (rRemD X.K) := by
  intro pins s σ H x xs v us Q I rx rxs h
  obtain ⟨l, vs, y, d, ds, j, z, rfl, rfl, hH, ha, hy, sl, sd, hz, hzj, hno, q⟩ := h
  cases rx
  cases rxs with
  | cons ry rt =>
    rename_i uy ut
    cases rt
    obtain ⟨bs, r1⟩ := Dp.reads I d y uy hy ry
    have lay : PyData.canLayAll0 ds = true := SeqAt.canLay_of_shaped sl
    have room := room_in_shaped (A := X.A) (xs := ds) sd hu
    obtain ⟨zl, its, n, r, hl, e⟩ := I.lstM hH
    obtain ⟨as, h4⟩ := Dp.readsAll I ds _ its ha r
    have hn : its.length = ds.length := SeqAt.ReadsAll.length ds its as h4
    have hmap : its.map (SeqAt.readOf s.heap) = ds := SeqAt.readsAll_map ds its as lay h4
    have hj : j < its.toArray.size := by
      have := (List.getElem?_eq_some_iff.mp hz).1
      rw [List.size_toArray]
      omega
    have rd : ∀ (m : Nat) (hm : m < its.toArray.size) (z' : PyData), ds[m]? = some z' → SeqAt.readOf s.heap its.toArray[m] = z' := fun m hm z' hz' => by
      have hml : m < its.length := by simpa using hm
      rw [← hmap, List.getElem?_map, List.getElem?_eq_getElem hml] at hz'
      have e1 := Option.some.inj hz'
      simpa using e1
    have hsz : its.toArray.size ≤ sizeLine := by
      have := r.length
      rw [List.size_toArray]
      omega
    refine call_meets PySem.F.slot_list_remove ⟨_, e, rfl⟩ PySem.F.entry_list_remove (PySem.F.args_list_remove_2 _ _)
      (remD l its.toArray n uy (fun u => PyData.eqv (SeqAt.readOf s.heap u) d) j hj ?_ ?_ hsz) ⟨e, SeqAt.items_eqAt (vs := its.toArray) h4 r1 lay (SeqAt.canLay_of_shaped sd) room, ?_⟩
    · show PyData.eqv (SeqAt.readOf s.heap its.toArray[j]) d = true
      rw [rd j hj z hz]
      exact hzj
    · intro m hm hmj
      have hmd : m < ds.length := by
        rw [List.size_toArray] at hm
        omega
      have hz' : ds[m]? = some ds[m] := List.getElem?_eq_getElem hmd
      show PyData.eqv (SeqAt.readOf s.heap its.toArray[m]) d = false
      rw [rd m hm _ hz']
      exact hno m _ hmj hz'
    · refine ⟨.non, _, I.lset (its' := its.eraseIdx j) (t' := s.toks) hH e ?_ (r.eraseIdx j) ?_, rfl, q⟩
      · show its.toArray.eraseIdxIfInBounds j = (its.eraseIdx j).toArray
        rw [List.eraseIdxIfInBounds_toArray]
      · have := List.length_eraseIdx_le vs j
        omega
theorem room65 {k : Nat} {A : Around} (hr : Room k A) : A.units + 65 < cLine := by
  have := hr.un
  omega
theorem mt_remDk {X : Cx} {K : PySem.W.Frag} (h : X.K = K) (hu : X.A.units + 65 < cLine) : MtR X "list.remove" (rRemD K) := by
  subst h
  exact mt_remD hu
section
variable {K : PySem.W.Frag}
theorem pys_at : ∀ {ds : List D} {i : Nat}, (D.pys ds)[i]? = ds[i]?.map D.py
  | [], i => by simp [D.pys]
  | d :: ds, 0 => by simp [D.pys]
  | d :: ds, i + 1 => by simpa [D.pys] using pys_at (ds := ds) (i := i)
/-- what is removed is there, at j first -/
def gRemD : List D → List D → (D → List D → Prop) → Prop := fun xs ds q => match ds with
  | [d] => ∃ j, (xs.all (D.plN 50) = true ∧ D.plN 50 d = true) ∧ xs[j]? = some d ∧ (∀ m, m < j → xs[m]? ≠ some d) ∧ q .non (xs.eraseIdx j)
  | _ => False
instance : MuL K (rRemD K) gRemD := ⟨fun {F H l xs ws vs ds Q} q hs hF hl hx hd h k => by
  unfold gRemD at h
  split at h
  · obtain ⟨j, ⟨p1, p2⟩, e1, e2, hq⟩ := h
    obtain ⟨v, rfl, r⟩ := hd.one
    obtain ⟨b1, b2, b3⟩ := pys_of (fun hp h => py_of 50 hp h) p1 (hx.mono hs)
    obtain ⟨a1, a2, a3⟩ := py_of 50 p2 (r.mono hs)
    refine ⟨l, ws, v, _, _, j, _, rfl, rfl, hl, b1, a1, shaped_mk b2 (show PyData.depthAll _ + 1 ≤ 64 by omega), shaped_mk a2 (by omega), by rw [pys_at, e1]; rfl, ?_, fun m z' hm hz' => ?_, k _ _ .non _ rfl (hx.erase j) hq⟩
    · exact (eqv_iff 50 p2 p2).mpr rfl
    · rw [pys_at] at hz'
      cases e : xs[m]? with
      | none => rw [e] at hz'; cases hz'
      | some x =>
        rw [e] at hz'
        cases hz'
        have px : D.plN 50 x = true := List.all_eq_true.mp p1 x (List.mem_of_getElem? e)
        refine Bool.eq_false_iff.mpr fun z => ?_
        have := (eqv_iff 50 px p2).mp z
        subst this
        exact e2 m hm e
  · exact h.elim⟩
end
/-! ### for x in (a name's own list): acc = e; the list stays its own -/
section
variable {K : PySem.W.Frag} {Ξ : XI}
def psForAcc (i j k : Nat) (pe : PX) : PS1 := fun E s => match s[i]? with
  | some (some (.ow _ (.lst ds))) => if (i != j && i != k) = true then ∃ I : Nat → Sl → Prop, I 0 s ∧ (∀ n s2, I n s2 → ownL s2[i]? fun xs => xs = ds) ∧
      (∀ n d s2, ds[n]? = some d → I n s2 → pe (s2.set j (some (.fr d))) fun x s3 => I (n + 1) (setS k x s3)) ∧ ∀ s2, I ds.length s2 → E.nx s2 else False
  | _ => psFor (pIterL (pDat (pVar i))) (pgName j) (psSet k pe) E s
instance (priority := high) {i j k : Nat} {te : TE} {pe : PX} [LiftE K Ξ te pe] : LiftS K Ξ (tFor (iList K (tVar i)) (gName j) (tAsg te (gName k))) (psForAcc i j k pe) := ⟨fun {H0 F H ω s σ D} E T h M => by
  unfold psForAcc at h
  split at h
  rotate_left
  · exact LiftS.run (K := K) (t := tFor (iList K (tVar i)) (gName j) (tAsg te (gName k))) (p := psFor (pIterL (pDat (pVar i))) (pgName j) (psSet k pe)) E T h M
  rename_i b0 ds e0
  split at h
  rotate_left
  · exact h.elim
  rename_i hne
  have hij : i ≠ j := fun z => by rw [z] at hne; simp at hne
  have hik : i ≠ k := fun z => by rw [z] at hne; simp at hne
  obtain ⟨I, i0, iown, istep, iend⟩ := h
  obtain ⟨v0, hv0, l, rfl, hl, ws0, q1, q2⟩ := T.lst i e0
  have lat : ∀ {F2 H2 : Hp} {ω2 : Om} {n : Nat} {s2 : Sl} {σ2 : L2.St}, Sta K Ξ F2 H2 ω2 s2 σ2 → σ2[i]? = some (some (.ref l)) → I n s2 → ∃ ws, H2 l = some (.lst ws) ∧ RpA K F2 ds ws := fun {F2 H2 ω2 n s2 σ2} T hσ hI => by
    obtain ⟨b, xs, e1, rfl⟩ := ownL_of (iown n s2 hI)
    obtain ⟨v, hv, l2, rfl, _, ws, z1, z2⟩ := T.lst i e1
    rw [hσ] at hv
    cases hv
    exact ⟨ws, z1, z2⟩
  refine ⟨_, hv0, l, rfl, ⟨ws0, SqL.of q1⟩, ?_⟩
  refine for_it (walk_listE (K := K) (a := l) (n := ds.length)) (fun n σ' H' => ∃ F2 ω2 s2, Stp F H ω F2 H' ω2 ∧ Sta K Ξ F2 H' ω2 s2 σ' ∧ σ'[i]? = some (some (.ref l)) ∧ I n s2) ⟨F, ω, s, Stp.refl T.tb, T, hv0, i0⟩ ?_ ?_ ?_
  · rintro n σ' H' hn ⟨F2, ω2, s2, p3, T3, a0, hI⟩
    obtain ⟨us, z1, z2⟩ := lat T3 a0 hI
    exact ⟨us, z2.len.symm, SqL.of z1⟩
  · rintro n x σ' H' H'' hn ⟨F2, ω2, s2, p3, T3, a0, hI⟩ ⟨rfl, hx⟩
    have hd : ds[n]? = some ds[n] := List.getElem?_eq_getElem hn
    obtain ⟨us, z1, z2⟩ := lat T3 a0 hI
    obtain ⟨v, hv, r3⟩ := z2.get hd
    rw [hx us (SqL.of z1)] at hv
    cases hv
    have T4 := T3.set j r3
    refine LiftE.run (K := K) (t := te) (p := pe) _ T4 (istep n _ s2 hd hI) fun v F5 H5 ω5 z s5 p5 T5 r5 h5 => ?_
    have e1 : ((σ'.set j (some x)).set k (some v))[i]? = some (some (.ref l)) := by
      rw [List.getElem?_set_ne (fun q => hik q.symm), List.getElem?_set_ne (fun q => hij q.symm)]
      exact a0
    cases z with
    | fr d => exact ⟨F5, ω5, _, p3.trans p5, T5.set k r5, e1, h5⟩
    | ow b o =>
      obtain ⟨ω6, p6, T6⟩ := Sta.setO p5 T4.ex T5 k r5
      exact ⟨F5, ω6, _, p3.trans p6, T6, e1, h5⟩
    | hid u => exact ⟨F5, ω5, _, p3.trans p5, T5.setH k r5, e1, h5⟩
  · rintro σ' H' ⟨F2, ω2, s2, p3, T3, a0, hI⟩
    exact M.nx p3 T3 (iend s2 hI)⟩
end
/-! ### isinstance by data -/
theorem tyx_tup' {K : PySem.W.Frag} {H : Hp} {a : Addr} {xs : List V} (h : SqT K H a xs) : TyX K H (.ref a) (.type "tuple") := by
  rcases h with (h | ⟨o, h⟩) | ⟨o, its, n, h1, h2, _⟩
  · exact .base (.tup h)
  · exact .fTuple h
  · exact .kTuple h1 h2
theorem tyx_lst' {K : PySem.W.Frag} {H : Hp} {a : Addr} {xs : List V} (h : SqL K H a xs) : TyX K H (.ref a) (.type "list") := by
  rcases h with (h | ⟨o, h⟩) | ⟨o, its, n, h1, h2, _⟩
  · exact .base (.lst h)
  · exact .base (.frz h)
  · exact .kList h1 h2
section
variable {K : PySem.W.Frag} {Ξ : XI}
/-- the built-in type of a piece of data, as the library names it -/
def D.tyN : D → Option String
  | .non => some "NoneType"
  | .bl _ => some "bool"
  | .int _ => some "int"
  | .str _ => some "str"
  | .lst _ => some "list"
  | .tup _ => some "tuple"
  | .scr _ => some "list"
  | _ => none
theorem tyx_of {F H : Hp} (hs : Same F H) {d : D} {v : V} {t : String} (r : Rp K F d v) (e : d.tyN = some t) : TyX K H v (.type t) := by
  cases d with
  | non => cases (show v = _ from r); cases e; exact .base .non
  | bl b => cases (show v = _ from r); cases e; exact .base (.bl b)
  | int i => cases (show v = _ from r); cases e; exact .base (.int i)
  | str x => cases (show v = _ from r); cases e; exact .base (.str x)
  | lst ds => obtain ⟨a, ws, rfl, h1, _⟩ := r; cases e; exact .base (.lst (hs _ _ h1))
  | tup ds => obtain ⟨a, ws, rfl, h1, _⟩ := r; cases e; exact tyx_tup' (hs.tupq h1)
  | scr ns => obtain ⟨a, rfl, h1⟩ := r; cases e; exact tyx_lst' (hs.seq h1)
  | _ => cases e
def pIsi (f : D → Option Bool) (p : PD) : PX := fun s q => p s fun d s1 => match f d with
  | some b => q (.fr (.bl b)) s1
  | none => False
theorem isi_run {f : D → Option Bool} {n : String} (hf : ∀ d b, f d = some b → ∃ t, d.tyN = some t ∧ kitB t n = some b) {t : TE} {p : PD} [LiftD K Ξ t p] {F H : Hp} {ω : Om} {s : Sl} {σ : L2.St} {Q : VK} (q : S → Sl → Prop) (T : Sta K Ξ F H ω s σ) (h : pIsi f p s q)
    (k : ∀ v F' H' ω' x s', Stp F H ω F' H' ω' → Sta K Ξ F' H' ω' s' σ → Rt K H F' H' ω' x v → q x s' → Q v H') : tCB (rIsi K) (tCons t (tCons (tC (V.ty n)) tNil)) σ H Q := by
  refine LiftD.run (K := K) (t := t) (p := p) _ T h fun v F1 H1 ω1 d s1 p1 T1 r1 h1 => ?_
  split at h1
  · rename_i b e
    obtain ⟨tt, e1, e2⟩ := hf d b e
    exact ⟨v, .ty n, .type tt, .type n, b, rfl, .ty n, tyx_of T1.sf r1 e1, kit_ty e2, k _ F1 H1 ω1 (.fr (.bl b)) s1 p1 T1 rfl h1⟩
  · exact h1.elim
def isTup : D → Option Bool
  | .tup _ => some true
  | .non | .bl _ | .int _ | .str _ | .lst _ | .scr _ => some false
  | _ => none
def isLst : D → Option Bool
  | .lst _ | .scr _ => some true
  | .non | .bl _ | .int _ | .str _ | .tup _ => some false
  | _ => none
def isInt : D → Option Bool
  | .int _ | .bl _ => some true
  | .non | .lst _ | .str _ | .tup _ | .scr _ => some false
  | _ => none
def isBl : D → Option Bool
  | .bl _ => some true
  | .non | .int _ | .lst _ | .str _ | .tup _ | .scr _ => some false
  | _ => none
def isStr : D → Option Bool
  | .str _ => some true
  | .non | .int _ | .lst _ | .bl _ | .tup _ | .scr _ => some false
  | _ => none
instance (priority := high) {t : TE} {p : PD} [LiftD K Ξ t p] : LiftE K Ξ (tCB (rIsi K) (tCons t (tCons (tC (V.ty "tuple")) tNil))) (pIsi isTup p) :=
  ⟨fun q T h k => isi_run (t := t) (p := p) (fun d b e => by cases d <;> cases e <;> exact ⟨_, rfl, by decide +kernel⟩) q T h k⟩
instance (priority := high) {t : TE} {p : PD} [LiftD K Ξ t p] : LiftE K Ξ (tCB (rIsi K) (tCons t (tCons (tC (V.ty "list")) tNil))) (pIsi isLst p) :=
  ⟨fun q T h k => isi_run (t := t) (p := p) (fun d b e => by cases d <;> cases e <;> exact ⟨_, rfl, by decide +kernel⟩) q T h k⟩
instance (priority := high) {t : TE} {p : PD} [LiftD K Ξ t p] : LiftE K Ξ (tCB (rIsi K) (tCons t (tCons (tC (V.ty "int")) tNil))) (pIsi isInt p) :=
  ⟨fun q T h k => isi_run (t := t) (p := p) (fun d b e => by cases d <;> cases e <;> exact ⟨_, rfl, by decide +kernel⟩) q T h k⟩
instance (priority := high) {t : TE} {p : PD} [LiftD K Ξ t p] : LiftE K Ξ (tCB (rIsi K) (tCons t (tCons (tC (V.ty "bool")) tNil))) (pIsi isBl p) :=
  ⟨fun q T h k => isi_run (t := t) (p := p) (fun d b e => by cases d <;> cases e <;> exact ⟨_, rfl, by decide +kernel⟩) q T h k⟩
instance (priority := high) {t : TE} {p : PD} [LiftD K Ξ t p] : LiftE K Ξ (tCB (rIsi K) (tCons t (tCons (tC (V.ty "str")) tNil))) (pIsi isStr p) :=
  ⟨fun q T h k => isi_run (t := t) (p := p) (fun d b e => by cases d <;> cases e <;> exact ⟨_, rfl, by decide +kernel⟩) q T h k⟩
end
/-! ### fractions by data -/
def dF (r : Rat) : D := .tup [.int r.num, .int (r.den : Int)]
def dFs (rs : List Rat) : D := .lst (rs.map dF)
theorem dF_inj {a b : Rat} (h : dF a = dF b) : a = b := by
  unfold dF at h
  injection h with h
  injection h with h1 h
  injection h1 with h1
  injection h with h2 h
  injection h2 with h2
  exact rat_eq h1 h2
abbrev LIM : Nat := 980
section
variable {X : Cx}
/-- // by any divisor of moderate size -/
theorem op_fdivZ : OpR X (binaryOp .FloorDiv) (rI (fun _ j => j ≠ 0 ∧ j.natAbs < 2 ^ 8000) fun i j => .int (i.fdiv j)) :=
  opI fun i j _ _ _ _ _ hc q => floordiv_int hc.1 q
    (.inl (PyProof.noPylong_of_log2 (Nat.lt_of_lt_of_le (log2_lt' (by decide) hc.2) (by decide))))
end
theorem mulOk {i j : Int} {m n : Nat} (hi : i.natAbs < 2 ^ m) (hj : j.natAbs < 2 ^ n) (h : m + n ≤ 100000) (hm : 0 < m) (hn : 0 < n) : CMulW i j := wide_mul hi hj hm hn (by omega)
theorem mulFF {a b : Rat} (ha : Sz LIM a) (hb : Sz LIM b) : CMulW a.num (b.den : Int) := mulOk ha.1 hb.d (by decide) (by decide) (by decide)
theorem mulNN {a b : Rat} (ha : Sz LIM a) (hb : Sz LIM b) : CMulW a.num b.num := mulOk ha.1 hb.1 (by decide) (by decide) (by decide)
theorem mulDD {a b : Rat} (ha : Sz LIM a) (hb : Sz LIM b) : CMulW (a.den : Int) (b.den : Int) := mulOk ha.d hb.d (by decide) (by decide) (by decide)
theorem mulDN {a b : Rat} (ha : Sz LIM a) (hb : Sz LIM b) : CMulW (a.den : Int) b.num := mulOk ha.d hb.1 (by decide) (by decide) (by decide)
theorem less_is {a b : Rat} : decide (a.num * (b.den : Int) < b.num * (a.den : Int)) = decide (a < b) := by
  by_cases h : a < b
  · rw [decide_eq_true h, decide_eq_true ((Rat.lt_iff a b).mp h)]
  · rw [decide_eq_false h, decide_eq_false fun z => h ((Rat.lt_iff a b).mpr z)]
def psp_two (f : Rat → Rat → Rat) (ok : Rat → Rat → Prop) : Psp := ⟨2, fun xs q => ∃ a b : Rat, xs = [.fr (dF a), .fr (dF b)] ∧ (Sz LIM a ∧ Sz LIM b ∧ ok a b) ∧ q (.fr (dF (f a b))) []⟩
def psp_less : Psp := ⟨2, fun xs q => ∃ a b : Rat, xs = [.fr (dF a), .fr (dF b)] ∧ (Sz LIM a ∧ Sz LIM b) ∧ q (.fr (.bl (decide (a < b)))) []⟩
def psp_low (C : Int → Prop) : Psp := ⟨2, fun xs q => ∃ n d : Int, xs = [.fr (.int n), .fr (.int d)] ∧ (C d ∧ n.natAbs < 2 ^ 1990 ∧ d.natAbs < 2 ^ 1990) ∧ q (.fr (dF (Rat.divInt n d))) []⟩
abbrev sp_lowest (K : PySem.W.Frag) : Sp := Lsp K (psp_low (· ≠ 0))
abbrev sp_plus (K : PySem.W.Frag) : Sp := Lsp K (psp_two (· + ·) fun _ _ => True)
abbrev sp_minus (K : PySem.W.Frag) : Sp := Lsp K (psp_two (· - ·) fun _ _ => True)
abbrev sp_times (K : PySem.W.Frag) : Sp := Lsp K (psp_two (· * ·) fun _ _ => True)
abbrev sp_over (K : PySem.W.Frag) : Sp := Lsp K (psp_two (· / ·) fun _ b => b ≠ 0)
abbrev sp_less (K : PySem.W.Frag) : Sp := Lsp K psp_less
/-! ### sums -/
def rsum (rs : List Rat) : Rat := rs.foldl (· + ·) 0
theorem rsum_take {rs : List Rat} {i : Nat} {r : Rat} (h : rs[i]? = some r) : rsum (rs.take (i + 1)) = rsum (rs.take i) + r := by
  unfold rsum
  rw [List.take_add_one, h, Option.toList_some, List.foldl_append]
  rfl
theorem sz_rsum {m : Nat} {rs : List Rat} (h : ∀ r ∈ rs, Sz m r) : ∀ i, i ≤ rs.length → Sz (i * (m + 1) + 1) (rsum (rs.take i))
  | 0, _ => by
    rw [List.take_zero]
    exact sz_zero.mono (by omega)
  | i + 1, hi => by
    have hlt : i < rs.length := hi
    have e : rs[i]? = some rs[i] := List.getElem?_eq_getElem hlt
    rw [rsum_take e]
    have := (sz_rsum h i (by omega)).add (h _ (List.getElem_mem hlt))
    refine this.mono ?_
    rw [Nat.add_mul]
    omega
theorem sz_rsumA {m n : Nat} {rs : List Rat} (h : ∀ r ∈ rs, Sz m r) (hn : rs.length * (m + 1) + 1 ≤ n) : Sz n (rsum rs) := by
  have := sz_rsum h rs.length (Nat.le_refl _)
  rw [List.take_length] at this
  exact this.mono hn
theorem foldl_add (rs : List Rat) (a : Rat) : rs.foldl (· + ·) a = a + rs.foldl (· + ·) 0 := by
  induction rs generalizing a with
  | nil => show a = a + 0; grind
  | cons r rs ih =>
    rw [List.foldl_cons, List.foldl_cons, ih (a + r), ih (0 + r)]
    grind
theorem rsum_cons (r : Rat) (rs : List Rat) : rsum (r :: rs) = r + rsum rs := by
  unfold rsum
  rw [List.foldl_cons, foldl_add]
  grind
theorem rsum_nil : rsum [] = 0 := rfl
theorem rsum_perm {a b : List Rat} (h : a.Perm b) : rsum a = rsum b := by
  induction h with
  | nil => rfl
  | cons x _ ih => rw [rsum_cons, rsum_cons, ih]
  | swap x y l => simp only [rsum_cons]; grind
  | trans _ _ h1 h2 => rw [h1, h2]
theorem rsum_app (a b : List Rat) : rsum (a ++ b) = rsum a + rsum b := by
  induction a with
  | nil => rw [List.nil_append, rsum_nil]; grind
  | cons x a ih => rw [List.cons_append, rsum_cons, rsum_cons, ih]; grind
theorem rsum_mul (c : Rat) (a : List Rat) : rsum (a.map (c * ·)) = c * rsum a := by
  induction a with
  | nil => rw [List.map_nil, rsum_nil]; grind
  | cons x a ih => rw [List.map_cons, rsum_cons, rsum_cons, ih]; grind
theorem rsum_le {α : Type} {f g : α → Rat} {a : List α} (h : ∀ x ∈ a, f x ≤ g x) : rsum (a.map f) ≤ rsum (a.map g) := by
  induction a with
  | nil => exact Rat.le_refl
  | cons x a ih =>
    rw [List.map_cons, List.map_cons, rsum_cons, rsum_cons]
    have h1 := h x List.mem_cons_self
    have h2 := ih fun y hy => h y (List.mem_cons_of_mem _ hy)
    grind
theorem sq_nn (a : Rat) : 0 ≤ a * a := by
  rcases (Rat.le_total : 0 ≤ a ∨ a ≤ 0) with h | h
  · exact Rat.mul_nonneg h h
  · have : 0 ≤ -a := by grind
    have := Rat.mul_nonneg this this
    grind
/-- a sum that stays small on its way -/
def SumOk (rs : List Rat) : Prop := (∀ r ∈ rs, Sz LIM r) ∧ ∀ i, Sz LIM (rsum (rs.take i))
theorem sumOk {rs : List Rat} (m : Nat) (h : ∀ r ∈ rs, Sz m r) (hl : rs.length * (m + 1) + 1 ≤ LIM) (hm : m ≤ LIM) : SumOk rs := by
  refine ⟨fun r hr => (h r hr).mono hm, fun i => ?_⟩
  refine sz_rsumA (m := m) (fun r hr => h r (List.mem_of_mem_take hr)) ?_
  have : (rs.take i).length * (m + 1) ≤ rs.length * (m + 1) := Nat.mul_le_mul_right _ (List.length_take_le' i rs)
  omega
def psp_sum_of : Psp := ⟨1, fun xs q => ∃ rs : List Rat, xs = [.fr (dFs rs)] ∧ SumOk rs ∧ q (.fr (dF (rsum rs))) []⟩
abbrev sp_sum_of (K : PySem.W.Frag) : Sp := Lsp K psp_sum_of
theorem sz_int {n : Nat} {w : Int} (h : w.natAbs < 2 ^ n) (hn : 0 < n) : Sz n (w : Rat) := by
  refine ⟨h, ?_⟩
  show 1 < 2 ^ n
  exact Nat.one_lt_two_pow (by omega)
theorem plN_int (n : Nat) (i : Int) : D.plN n (.int i) = true := by cases n <;> rfl
theorem pl_dF (n : Nat) (r : Rat) : D.plN (n + 1) (dF r) = true := by
  show (D.plN n (.int r.num) && (D.plN n (.int (r.den : Int)) && true)) = true
  rw [plN_int, plN_int]
  rfl
theorem pl_dFs (n : Nat) (rs : List Rat) : D.plN (n + 2) (dFs rs) = true := all_pl (pl_dF n) rs
theorem mulS {i j : Int} (hi : i.natAbs < 2 ^ 64) (hj : j.natAbs < 2 ^ 64) : CMulW i j := mulOk hi hj (by decide) (by decide) (by decide)
theorem fmodS (x : Int) {m : Int} (h : 0 < m) : 0 ≤ x.fmod m ∧ x.fmod m < m := ⟨Int.fmod_nonneg_of_pos x h, Int.fmod_lt_of_pos x h⟩
theorem dF_neg (b : Rat) : dF (-b) = .tup [.int (0 - b.num), .int (b.den : Int)] := by
  unfold dF
  rw [Rat.neg_num, Rat.neg_den, Int.zero_sub]
/-! ### keys of a dict: data of any depth (ints, texts, tuples of them) -/
mutual
def D.drw : D → Nat
  | .tup ds => D.drws ds + 1
  | .int _ => 1
  | .str _ => 1
  | .non => 0
  | .bl _ => 0
  | .lst _ => 0
  | .dic _ _ _ => 0
  | .dik _ _ => 0
  | .obj _ _ _ => 0
  | .scr _ => 0
  | .ty _ => 0
  | .opq _ => 0
  | .xv _ _ _ _ _ => 0
def D.drws : List D → Nat
  | [] => 0
  | d :: ds => d.drw + D.drws ds
end
theorem D.hk_pl : ∀ (n : Nat) {d : D}, D.hkN n d = true → D.plN n d = true
  | n, d, h => by
    cases d with
    | int i => cases n <;> rfl
    | str x => cases n <;> exact h
    | tup ds =>
      cases n with
      | zero => cases h
      | succ n =>
        show ds.all (D.plN n) = true
        rw [List.all_eq_true]
        exact fun x hx => D.hk_pl n (List.all_eq_true.mp (show ds.all (D.hkN n) = true from h) x hx)
    | _ => cases n <;> cases h
section
variable {P : Program} {w : World}
theorem pys_app : ∀ ds es : List D, D.pys (ds ++ es) = D.pys ds ++ D.pys es
  | [], _ => rfl
  | d :: ds, es => by
    show d.py :: D.pys (ds ++ es) = d.py :: (D.pys ds ++ D.pys es)
    rw [pys_app ds es]
theorem hashes_app : ∀ ds es : List D, D.hashes w (ds ++ es) = D.hashes w ds ++ D.hashes w es
  | [], _ => rfl
  | d :: ds, es => by
    show d.hash w :: D.hashes w (ds ++ es) = d.hash w :: (D.hashes w ds ++ D.hashes w es)
    rw [hashes_app ds es]
theorem drws_app : ∀ ds es : List D, D.drws (ds ++ es) = D.drws ds + D.drws es
  | [], _ => (Nat.zero_add _).symm
  | d :: ds, es => by
    show d.drw + D.drws (ds ++ es) = d.drw + D.drws ds + D.drws es
    rw [drws_app ds es, Nat.add_assoc]
theorem hash_run : ∀ (n : Nat) {A : Around} {E : Value → Shared → Prop} {s : Shared} {d : D} {v : Value} {as : List Addr} {Q : Int → Shared → Prop}, A.units + n < cLine → D.hkN n d = true → Reads s.heap v d.py as → Q (d.hash w) { s with toks := s.toks + d.drw } →
    wpAny (model P w) A (pyHash v) Q E s
  | n, A, E, s, d, v, as, Q, hu, hk, r, q => by
    cases d with
    | int i =>
      cases r
      rename_i t
      exact (mixKind P w).pyHash (k := .inl i) (by simp [mixKind, keyIs, Value.isInt]) q
    | str x =>
      cases r
      rename_i t
      exact (mixKind P w).pyHash (k := .inr x) (by simp [mixKind, keyIs, Value.isStrOf]) q
    | tup ds =>
      cases n with
      | zero => cases hk
      | succ n =>
        have hk : ds.all (D.hkN n) = true := hk
        cases r with
        | @tuple a o vs m _ _ ho hc hd hi =>
        have hT : s.TypeIs (.ref a) "tuple" := ⟨o, ho, hc⟩
        unfold pyHash
        first | unfold pyHashByItsType | skip
        first | refine wpAny_bind (wpAny_cRoomFor_or (.inr (by omega)) ?_) | skip
        refine wpAny_bind (wpAny_specialOf hT PySem.F.slot_tuple_hash.lookup ?_)
        show wpAny _ _ (if (some (Value.builtin "tuple.__hash__") == some Value.none) = true then _ else _) Q E s
        rw [if_neg (by rw [beq_builtin_none]; exact Bool.false_ne_true)]
        refine wpAny_bind (wpAny_specialOf hT PySem.F.slot_tuple_hash.lookup ?_)
        show wpAny _ _ (callSpecialIfBoundUnlessNone? (.ref a) "__hash__" _ >>= _) Q E s
        refine wpAny_bind (wpAny_callSpecialIfBoundUnlessNone?_slot hT PySem.F.slot_tuple_hash (wpAny_call_entry PySem.F.slot_tuple_hash hT PySem.F.entry_tuple_hash ?_ (PySem.F.args_tuple_hash_1 _)))
        show wpAny _ _ (Builtin.Tuple.tupleItemsOf (.ref a) >>= _) _ _ s
        refine wpAny_bind (wpAny_tupleItemsOf ho hd ?_)
        refine wpAny_bind ?_
        rw [← Array.forIn_toList]
        refine wpAny_forIn_list _
          (fun rest (b : Array Int) s' => ∃ (dn lf : List D) (bs : List Addr), ds = dn ++ lf ∧ ReadsAll s.heap rest (D.pys lf) bs ∧ b.toList = D.hashes w dn ∧ s' = { s with toks := s.toks + D.drws dn })
          _ ?_ ?_ _ _ ⟨[], ds, _, rfl, hi, rfl, rfl⟩
        · rintro x rest b s' ⟨dn, lf, bs, rfl, hl, hb, rfl⟩
          cases lf with
          | nil => cases hl
          | cons e lf =>
          cases hl with
          | cons h1 hl' =>
            have hke : D.hkN n e = true := List.all_eq_true.mp hk e (List.mem_append_right _ List.mem_cons_self)
            have fin : ∃ (dn' lf' : List D) (bs : List Addr), dn ++ e :: lf = dn' ++ lf' ∧ ReadsAll s.heap rest (D.pys lf') bs ∧ (b.push (e.hash w)).toList = D.hashes w dn' ∧ ({ s with toks := s.toks + D.drws dn + e.drw } : Shared) = { s with toks := s.toks + D.drws dn' } :=
              ⟨dn ++ [e], lf, _, by simp, hl', by rw [hashes_app, Array.toList_push, hb]; rfl, by rw [drws_app]; show _ = ({ s with toks := s.toks + (D.drws dn + (e.drw + 0)) } : Shared); rw [Nat.add_zero, Nat.add_assoc]⟩
            refine wpAny_bind (hash_run n (d := e) ?_ hke h1 ?_)
            · show A.units + 1 + n < cLine
              omega
            first
              | exact wpAny_pure fin
              | exact wpAny_bind (wpAny_pure (wpAny_pure fin))
        · rintro b s' ⟨dn, lf, bs, rfl, hl, hb, rfl⟩
          cases lf with
          | cons e lf => cases hl
          | nil =>
          rw [List.append_nil] at q
          show wpAny _ _ (retInt (Builtin.Tuple.tupleHashOf b.toList)) _ _ _
          rw [hb]
          refine wpAny_ret_mkInt ?_
          show wpAny _ _ (if (decide (-(2 : Int) ^ 63 ≤ Builtin.Tuple.tupleHashOf (D.hashes w dn)) && decide (Builtin.Tuple.tupleHashOf (D.hashes w dn) < 2 ^ 63)) = true then _ else _) Q E _
          have q : Q (reduceHash (Builtin.Tuple.tupleHashOf (D.hashes w dn))) { s with toks := s.toks + (D.drws dn + 1) } := q
          unfold reduceHash at q
          by_cases hr : (decide (-(2 : Int) ^ 63 ≤ Builtin.Tuple.tupleHashOf (D.hashes w dn)) && decide (Builtin.Tuple.tupleHashOf (D.hashes w dn) < 2 ^ 63)) = true
          · rw [if_pos hr]
            rw [if_pos hr] at q
            exact wpAny_pure (by simpa [Nat.add_assoc] using q)
          · rw [if_neg hr]
            rw [if_neg hr] at q
            exact wpAny_bind (wpAny_rule (wpAny_pure (by simpa [Nat.add_assoc] using q)))
    | _ => cases n <;> cases hk
theorem quiet_run : ∀ (n m : Nat) {A : Around} {E : Value → Shared → Prop} {s : Shared} {d : D} {v : Value} {as : List Addr} {Q : Bool → Shared → Prop}, n ≤ m → D.hkN n d = true → Reads s.heap v d.py as → Q true s →
    wpAny (model P w) A (eqIsQuiet m v) Q E s
  | n, m, A, E, s, d, v, as, Q, hm, hk, r, q => by
    cases d with
    | int i =>
      cases r
      rw [eqIsQuiet_byValue _ rfl]
      exact wpAny_pure q
    | str x =>
      cases r
      rw [eqIsQuiet_byValue _ rfl]
      exact wpAny_pure q
    | tup ds =>
      cases n with
      | zero => cases hk
      | succ n =>
      cases m with
      | zero => omega
      | succ m =>
        have hk : ds.all (D.hkN n) = true := hk
        cases r with
        | @tuple a o vs k _ _ ho hc hd hi =>
        have hT : s.TypeIs (.ref a) "tuple" := ⟨o, ho, hc⟩
        unfold eqIsQuiet
        refine wpAny_bind (wpAny_specialOf hT PySem.F.slot_tuple_eq.lookup ?_)
        show wpAny _ _ (isInstance (.ref a) (.type "tuple") >>= _) _ _ s
        refine wpAny_bind (wpAny_isInstance hT isSubtype_tuple_tuple ?_)
        simp only [Bool.not_true, Bool.false_eq_true, if_false]
        refine wpAny_bind (wpAny_seqItems ho hd ?_)
        refine wpAny_bind ?_
        show wpAny _ _ (forIn vs _ _) _ _ s
        rw [← Array.forIn_toList]
        refine wpAny_forIn_list _ (fun rest r s' => r.1 = none ∧ s' = s ∧ ∃ (lf : List D) (bs : List Addr), lf.all (D.hkN n) = true ∧ ReadsAll s.heap rest (D.pys lf) bs) _ ?_ ?_ _ _ ⟨rfl, rfl, ds, _, hk, hi⟩
        · rintro x rest r s' ⟨hr, rfl, lf, bs, hk', hl⟩
          cases lf with
          | nil => cases hl
          | cons e lf =>
          cases hl with
          | cons h1 hl' =>
            have hh := Bool.and_eq_true_iff.mp (show (D.hkN n e && lf.all (D.hkN n)) = true from hk')
            refine wpAny_bind (quiet_run n m (by omega) hh.1 h1 ?_)
            simp only [Bool.not_true, Bool.false_eq_true, if_false]
            exact wpAny_pure ⟨rfl, rfl, lf, _, hh.2, hl'⟩
        · rintro ⟨r1, r2⟩ s' ⟨hr, rfl, _⟩
          simp only at hr
          subst hr
          exact wpAny_pure q
    | _ => cases n <;> cases hk
theorem D.py_lay : ∀ (n : Nat) {d : D}, D.plN n d = true → d.py.canLay0 = true ∧ d.py.depth ≤ n
  | n, d, h => by
    have hall : ∀ {m : Nat} {ds : List D}, (∀ x ∈ ds, x.py.canLay0 = true ∧ x.py.depth ≤ m) → PyData.canLayAll0 (D.pys ds) = true ∧ PyData.depthAll (D.pys ds) ≤ m := by
      intro m ds
      induction ds with
      | nil => exact fun _ => ⟨rfl, Nat.zero_le _⟩
      | cons x ds ih =>
        intro hx
        obtain ⟨a, b⟩ := hx x List.mem_cons_self
        obtain ⟨c, e⟩ := ih fun y hy => hx y (List.mem_cons_of_mem _ hy)
        exact ⟨Bool.and_eq_true_iff.mpr ⟨a, c⟩, Nat.max_le.mpr ⟨b, e⟩⟩
    cases d with
    | non => exact ⟨rfl, Nat.zero_le _⟩
    | int i => exact ⟨rfl, Nat.zero_le _⟩
    | str x => exact ⟨by cases n <;> exact h, Nat.zero_le _⟩
    | lst ds =>
      cases n with
      | zero => cases h
      | succ n =>
        obtain ⟨a, b⟩ := hall fun x hx => D.py_lay n (List.all_eq_true.mp (show ds.all (D.plN n) = true from h) x hx)
        exact ⟨a, Nat.succ_le_succ b⟩
    | tup ds =>
      cases n with
      | zero => cases h
      | succ n =>
        obtain ⟨a, b⟩ := hall fun x hx => D.py_lay n (List.all_eq_true.mp (show ds.all (D.plN n) = true from h) x hx)
        exact ⟨a, Nat.succ_le_succ b⟩
    | _ => cases n <;> cases h
theorem reads_same : ∀ (n : Nat) {h h' : Heap} {d : D} {v : Value} {as : List Addr} {b : Addr} {o : Obj} {es ep}, D.hkN n d = true → Reads h v d.py as → h.get? b = some o → o.data = .dict es ep → Heap.SameBut b h h' → Reads h' v d.py as
  | n, h, h', d, v, as, b, o, es, ep, hk, r, hb, hd, hs => by
    have hall : ∀ {m : Nat} {ds : List D} {vs : List Value} {as : List Addr}, (∀ x ∈ ds, ∀ {v as}, Reads h v x.py as → Reads h' v x.py as) → ReadsAll h vs (D.pys ds) as → ReadsAll h' vs (D.pys ds) as := by
      intro m ds
      induction ds with
      | nil => intro vs as _ r; cases r; exact .nil
      | cons x ds ih =>
        intro vs as hx r
        cases r with
        | cons r1 r2 => exact .cons (hx x List.mem_cons_self r1) (ih (fun y hy => hx y (List.mem_cons_of_mem _ hy)) r2)
    cases d with
    | int i => cases r; exact .int _ _
    | str x => cases r; exact .str _ _
    | tup ds =>
      cases n with
      | zero => cases hk
      | succ n =>
        cases r with
        | @tuple a o' vs k _ _ ho hc hd' hi =>
          have hne : a ≠ b := by
            rintro rfl
            obtain rfl : o' = o := Option.some.inj (ho.symm.trans hb)
            rw [hd] at hd'
            cases hd'
          exact .tuple ((hs.2 a hne).trans ho) hc hd' (hall (m := n) (fun x hx {v as} r => reads_same n (List.all_eq_true.mp (show ds.all (D.hkN n) = true from hk) x hx) r hb hd hs) hi)
    | _ => cases n <;> cases hk
noncomputable instance decD : DecidableEq D := fun _ _ => Classical.propDecidable _
theorem hk_eqv {n : Nat} {d e : D} (h1 : D.hkN n d = true) (h2 : D.hkN n e = true) : PyData.eqv d.py e.py = decide (d = e) := by
  by_cases h : d = e
  · rw [decide_eq_true h]
    exact (eqv_iff n (D.hk_pl n h1) (D.hk_pl n h2)).mpr h
  · rw [decide_eq_false h]
    exact Bool.eq_false_iff.mpr fun z => h ((eqv_iff n (D.hk_pl n h1) (D.hk_pl n h2)).mp z)
noncomputable def dataKind (P : Program) (w : World) : HeapKind P w D where
  is := fun h d a => D.hkN 6 d = true ∧ ∃ as, Reads h (.ref a) d.py as
  hash := D.hash w
  draws := D.drw
  room := fun A => A.units + 8 < cLine
  inj := fun {h a x y} hx hy => by
    obtain ⟨h1, as, r1⟩ := hx
    obtain ⟨h2, bs, r2⟩ := hy
    have e := SeqAt.Reads.unique _ _ _ _ _ (D.py_lay 6 (D.hk_pl 6 h1)).1 r1 r2
    have q := hk_eqv h1 h1
    rw [decide_eq_true rfl] at q
    rw [e] at q
    have q2 := hk_eqv h2 h1
    rw [e, q] at q2
    exact (of_decide_eq_true q2.symm).symm
  keeps := fun x ho hd hs => ⟨x.1, by
    obtain ⟨h1, as, r⟩ := x
    exact ⟨as, reads_same 6 h1 r ho hd hs⟩⟩
  pyHash := fun hu hk q => by
    obtain ⟨h1, as, r⟩ := hk
    exact hash_run 6 (by omega) h1 r q
  eqBool := fun {A E s x y a b Q} hu hx hy q => by
    obtain ⟨h1, as, r1⟩ := hx
    obtain ⟨h2, bs, r2⟩ := hy
    have l1 := D.py_lay 6 (D.hk_pl 6 h1)
    have l2 := D.py_lay 6 (D.hk_pl 6 h2)
    have hm : min x.py.depth y.py.depth ≤ 6 := Nat.le_trans (Nat.min_le_left _ _) l1.2
    refine SeqAt.eqAt_reads x.py y.py A s _ _ as bs r1 r2 l1.1 l2.1 (by omega) P w E Q ?_
    rw [hk_eqv h1 h2]
    exact q
  quiet := fun hk q => by
    obtain ⟨h1, as, r⟩ := hk
    exact quiet_run 6 8 (by decide) h1 r q
end
/-! ### dicts whose keys are data (tuples) -/
noncomputable def valN {α : Type} (ws : List (D × α × V)) (d : D) : Option V := (ws.find? fun p => decide (p.1 = d)).map (·.2.2)
noncomputable def putN (ws : List (D × Addr × V)) (d : D) (b : Addr) (v : V) : List (D × Addr × V) :=
  if (ws.any fun p => decide (p.1 = d)) = true then ws.map (fun p => if p.1 = d then (p.1, p.2.1, v) else p) else ws ++ [(d, b, v)]
abbrev KN : List (D × Addr × V) → List (D × Addr × Value) → Prop := Paired fun p q => p.1 = q.1 ∧ p.2.1 = q.2.1 ∧ RelV p.2.2 q.2.2
def KeyN (K : PySem.W.Frag) (H : Hp) (d : D) (b : Addr) : Prop := D.hkN 6 d = true ∧ Dp K H (.ref b) d.py
def IsN (w : World) (K : PySem.W.Frag) (H : Hp) (a : Addr) (ws : List (D × Addr × V)) : Prop := H a = some (dnO w a ws) ∧ ∀ p ∈ ws, KeyN K H p.1 p.2.1
theorem KN.val {ws : List (D × Addr × V)} {xs : List (D × Addr × Value)} (r : KN ws xs) (k : D) : RelO (valN ws k) ((atKey xs k).map (·.2)) := by
  induction r with
  | nil => exact True.intro
  | @cons p q ps qs h t ih =>
    obtain ⟨h1, _, h2⟩ := h
    by_cases e : p.1 = k
    · have e' : q.1 = k := h1.symm.trans e
      have a : valN (p :: ps) k = some p.2.2 := by simp [valN, List.find?_cons, e]
      have b : atKey (q :: qs) k = some q.2 := by simp [atKey, List.find?_cons, e']
      rw [a, b]; exact h2
    · have e' : ¬ q.1 = k := fun z => e (h1.trans z)
      have a : valN (p :: ps) k = valN ps k := by simp [valN, List.find?_cons, e]
      have b : atKey (q :: qs) k = atKey qs k := by simp [atKey, List.find?_cons, e']
      rw [a, b]; exact ih
theorem KN.mem {ws : List (D × Addr × V)} {xs : List (D × Addr × Value)} (r : KN ws xs) {x : D × Addr × Value} (hx : x ∈ xs) : ∃ p ∈ ws, p.1 = x.1 ∧ p.2.1 = x.2.1 := by
  induction r with
  | nil => cases hx
  | @cons p q ps qs h t ih =>
    rcases List.mem_cons.mp hx with rfl | hx
    · exact ⟨p, List.mem_cons_self, h.1, h.2.1⟩
    · obtain ⟨p', h1, h2⟩ := ih hx
      exact ⟨p', List.mem_cons_of_mem _ h1, h2⟩
theorem valN_any (ws : List (D × Addr × V)) (k : D) : (ws.any fun p => decide (p.1 = k)) = (valN ws k).isSome := by
  induction ws with
  | nil => rfl
  | cons p ps ih =>
    by_cases e : p.1 = k
    · simp [valN, List.find?_cons, e]
    · rw [List.any_cons, decide_eq_false e, Bool.false_or, ih]
      simp [valN, List.find?_cons, e]
theorem KN.put {ws : List (D × Addr × V)} {xs : List (D × Addr × Value)} (r : KN ws xs) (k : D) {b : Addr} {y : V} {u : Value} (ry : RelV y u) : KN (putN ws k b y) (storedH xs k b u) := by
  have e : (ws.any fun p => decide (p.1 = k)) = (atKey xs k).isSome := by
    rw [valN_any, (r.val k).isSome_eq, Option.isSome_map]
  unfold putN storedH
  rw [e]
  by_cases q : (atKey xs k).isSome = true
  · rw [if_pos q, if_pos q]
    clear e q
    induction r with
    | nil => exact .nil
    | @cons p q ps qs h t ih =>
      rw [List.map_cons, List.map_cons]
      refine .cons ?_ ih
      obtain ⟨h1, h2, h3⟩ := h
      unfold putAt
      by_cases e : p.1 = k
      · rw [if_pos e, if_pos (h1.symm.trans e)]; exact ⟨h1, h2, ry⟩
      · rw [if_neg e, if_neg (fun z => e (h1.trans z))]; exact ⟨h1, h2, h3⟩
  · rw [if_neg q, if_neg q]
    exact Paired.snoc r ⟨rfl, rfl, ry⟩
theorem putN_len (ws : List (D × Addr × V)) (k : D) (b : Addr) (v : V) : (putN ws k b v).length ≤ ws.length + 1 := by
  unfold putN
  split
  · rw [List.length_map]; omega
  · rw [List.length_append, List.length_singleton]; omega
theorem dn_ok {P : Program} {w : World} {H : Hp} {h : Heap} {a : Addr} {ws : List (D × Addr × V)} {xs : List (D × Addr × Value)} (z : ws.length ≤ sizeLine) (hd : (a == sysModules) = false) (rel : KN ws xs) (dd : h.DictOfH (dataKind P w) a xs) :
    ObjOk P w H h a (dnO w a ws) := by
  obtain ⟨o, es, ep, hq, h2, h3, h4, _, h5⟩ := dd
  exact ⟨⟨z, hd, xs, rel, o, es, ep, hq, h2, h3, h4, h5⟩, ⟨o, hq⟩, fun h1 h2 x k => let ⟨z, hd, xs, rel, o, es, ep, hq, r⟩ := x; ⟨z, hd, xs, rel, o, es, ep, k o hq, r⟩⟩
section
variable {X : Cx} {pins : List (Addr × Obj)} {σ : L2.St} {H : Hp} {s : Shared} {a b : Addr} {ws : List (D × Addr × V)} {d : D} {u r : Value} {v : V} {A : Around} {E : Value → Shared → Prop}
theorem KeyN.is (I : Inv X pins σ H s) (h : KeyN X.K H d b) : (dataKind X.prog X.w).is s.heap d b := ⟨h.1, Dp.reads I _ _ _ h.2 rfl⟩
theorem dn_at (I : Inv X pins σ H s) (h : IsN X.w X.K H a ws) : ws.length ≤ sizeLine ∧ (a == sysModules) = false ∧ ∃ xs, KN ws xs ∧ s.heap.DictOfH (dataKind X.prog X.w) a xs := by
  obtain ⟨⟨z, hd, xs, rel, o, es, ep, hq, h2, h3, h4, h5⟩, _⟩ := (show ObjOk X.prog X.w H s.heap a (dnO X.w a ws) from I.hok a _ h.1)
  refine ⟨z, hd, xs, rel, o, es, ep, hq, h2, h3, h4, fun x hx => ?_, h5⟩
  obtain ⟨p, hp, e1, e2⟩ := KN.mem rel hx
  have := (h.2 p hp).is I
  rw [e1, e2] at this
  exact this
theorem room8 (hu : A.units + 9 < cLine) : (dataKind X.prog X.w).room A.in1 := by
  show A.units + 1 + 8 < cLine
  omega
theorem dn_get {Q : Value → Shared → Prop} (hu : A.units + 9 < cLine) (I : Inv X pins σ H s) (g : IsN X.w X.K H a ws) (k : KeyN X.K H d b) (l : valN ws d = some v) (h : ∀ w' s', Inv X pins σ H s' → RelV v w' → Q w' s') :
    wpAny (model X.prog X.w) A (getItem (.ref a) (.ref b)) Q E s := by
  obtain ⟨z, hd, xs, rel, dd⟩ := dn_at I g
  obtain ⟨w', hw, rw'⟩ := RelO.some_of (v := v) (o := (atKey xs d).map (·.2)) (by rw [← l]; exact rel.val d)
  obtain ⟨p, hp, hp2⟩ := Option.map_eq_some_iff.mp hw
  refine wpAny_getItem_heap (room8 hu) (k.is I) dd hp ?_
  rw [hp2]
  exact h w' _ (I.tok _) rw'
theorem dn_in {Q : Value → Shared → Prop} (hu : A.units + 9 < cLine) (I : Inv X pins σ H s) (g : IsN X.w X.K H a ws) (k : KeyN X.K H d b) (h : ∀ s', Inv X pins σ H s' → Q (.bool (valN ws d).isSome) s') :
    wpAny (model X.prog X.w) A (compareOp .In (.ref b) (.ref a)) Q E s := by
  obtain ⟨z, hd, xs, rel, dd⟩ := dn_at I g
  refine wpAny_in_heap (room8 hu) (k.is I) hd dd ?_
  have q := (rel.val d).isSome_eq
  rw [Option.isSome_map] at q
  rw [← q]
  exact h _ (I.tok _)
theorem dn_notIn {Q : Value → Shared → Prop} (hu : A.units + 9 < cLine) (I : Inv X pins σ H s) (g : IsN X.w X.K H a ws) (k : KeyN X.K H d b) (h : ∀ s', Inv X pins σ H s' → Q (.bool (!(valN ws d).isSome)) s') :
    wpAny (model X.prog X.w) A (compareOp .NotIn (.ref b) (.ref a)) Q E s := by
  obtain ⟨z, hd, xs, rel, dd⟩ := dn_at I g
  refine wpAny_notIn_heap (room8 hu) (k.is I) hd dd ?_
  have q := (rel.val d).isSome_eq
  rw [Option.isSome_map] at q
  rw [← q]
  exact h _ (I.tok _)
theorem dn_set {Q : Unit → Shared → Prop} (hu : A.units + 9 < cLine) (I : Inv X pins σ H s) (g : IsN X.w X.K H a ws) (k : KeyN X.K H d b) (hl : ws.length < sizeLine) (rv : RelV v r)
    (h : ∀ s', Inv X pins σ (upd H a (dnO X.w a (putN ws d b v))) s' → Q () s') : wpAny (model X.prog X.w) A (setItem (.ref a) (.ref b) r) Q E s := by
  obtain ⟨z, hd, xs, rel, dd⟩ := dn_at I g
  have hz : xs.length ≤ sizeLine := by rw [← Paired.length rel]; exact z
  have hl2 : (putN ws d b v).length ≤ sizeLine := by have := putN_len ws d b v; omega
  refine wpAny_setItem_heap (hsz := hz) (room8 hu) (k.is I) dd fun h' dd' hs => h _ ?_
  have he : ∃ q, h'.get? a = some q := let ⟨q, _, _, hq, _⟩ := dd'; ⟨q, hq⟩
  exact d_write I (by rw [g.1]; exact True.intro) hs he (dn_ok hl2 hd (rel.put d rv) dd')
theorem dn_get2 {dv : V} {Q : Value → Shared → Prop} (hu : A.units + 9 < cLine) (I : Inv X pins σ H s) (g : IsN X.w X.K H a ws) (k : KeyN X.K H d b) (rd : RelV dv r) (h : ∀ w' s', Inv X pins σ H s' → RelV ((valN ws d).getD dv) w' → Q w' s') :
    wpAny (model X.prog X.w) A (call (.builtin "dict.get") [.ref a, .ref b, r]) Q E s := by
  obtain ⟨z, hd, xs, rel, dd⟩ := dn_at I g
  refine call_meetsIn PySem.F.slot_dict_get dd.typeIs PySem.F.entry_dict_get (PySem.F.args_dict_get_3 _ _ _) (meetsH_dict_get_default (dataKind X.prog X.w) a b hd r) ⟨room8 hu, d, xs, k.is I, dd, h _ _ (I.tok _) ?_⟩
  exact (rel.val d).getD rd
theorem dn_typeIs (I : Inv X pins σ H s) (g : IsN X.w X.K H a ws) : s.TypeIs (.ref a) "dict" ∧ (∀ b, Value.ref a = .ref b → ∃ ob, s.heap.get? b = some ob ∧ ob.dict = none) ∧ (a == sysModules) = false := by
  obtain ⟨_, hd, xs, _, dd⟩ := dn_at I g
  refine ⟨dd.typeIs, fun b q => ?_, hd⟩
  cases q
  obtain ⟨ob, _, _, h1, h2, _⟩ := dd
  exact ⟨ob, h1, h2.2.1⟩
end
def tDnNew (w : World) : TE := fun _ H Q => ∀ p, H p = none → Q (.ref p) (upd H p (dnO w p []))
def tDnGet (w : World) (K : PySem.W.Frag) (td ty : TE) : TE := fun σ H Q => td σ H fun x H1 => ty σ H1 fun y H2 => ∃ a b ws d v, x = .ref a ∧ y = .ref b ∧ IsN w K H2 a ws ∧ KeyN K H2 d b ∧ valN ws d = some v ∧ Q v H2
def tDnIn (w : World) (K : PySem.W.Frag) (ty td : TE) : TE := fun σ H Q => ty σ H fun y H1 => td σ H1 fun x H2 => ∃ a b ws d, x = .ref a ∧ y = .ref b ∧ IsN w K H2 a ws ∧ KeyN K H2 d b ∧ Q (.bl (valN ws d).isSome) H2
def tDnNotIn (w : World) (K : PySem.W.Frag) (ty td : TE) : TE := fun σ H Q => ty σ H fun y H1 => td σ H1 fun x H2 => ∃ a b ws d, x = .ref a ∧ y = .ref b ∧ IsN w K H2 a ws ∧ KeyN K H2 d b ∧ Q (.bl (!(valN ws d).isSome)) H2
def sDnPut (w : World) (K : PySem.W.Frag) (td ty tv : TE) : TS := fun D σ H => tv σ H fun v H1 => td σ H1 fun x H2 => ty σ H2 fun y H3 => ∃ a b ws d, x = .ref a ∧ y = .ref b ∧ IsN w K H3 a ws ∧ KeyN K H3 d b ∧ ws.length < sizeLine ∧ D.nx σ (upd H3 a (dnO w a (putN ws d b v)))
def tDnGet2 (w : World) (K : PySem.W.Frag) (td ty tx : TE) : TE := fun σ H Q => td σ H fun x H1 => ∃ a ws0, x = .ref a ∧ IsN w K H1 a ws0 ∧ ty σ H1 fun y H2 => tx σ H2 fun z H3 => ∃ b ws d, y = .ref b ∧ IsN w K H3 a ws ∧ KeyN K H3 d b ∧ Q ((valN ws d).getD z) H3
section
variable {X : Cx} {o i e f value : Expr} {pos pos' apos cpos : Pos} {td ty tv tx : TE}
theorem pe_dnNew : PE X (.Dict [] [] pos) (tDnNew X.w) := ⟨fun pins s σ H Q I h =>
  wpAny_Dict_empty ⟨.ref s.heap.objs.size, _, I.laid (a := s.heap.objs.size) (o := dnO X.w s.heap.objs.size []) (t' := s.toks) (fun _ _ q => Heap.get?_push_of_some _ q) (Nat.le_refl _)
    (dn_ok (P := X.prog) (Nat.zero_le _) (beq_eq_false_iff_ne.mpr (Ne.symm (Nat.ne_of_lt I.big))) .nil (Heap.DictOfH.new (knd := dataKind X.prog X.w) s.heap)), rfl, h _ (I.hok.fresh (Nat.le_refl _))⟩⟩
theorem pe_dnGet (hu : X.A.units + 9 < cLine) (ho : PE X o td) (hi : PE X i ty) (hs : NoSl i) : PE X (.Subscript o i pos) (tDnGet X.w X.K td ty) := by
  refine ⟨fun pins s σ H Q I h => ?_⟩
  refine subD_of PySem.F.slot_dict_getitem.lookup hs (thn (ho.run pins s σ H _ I h) fun u s1 ⟨x, H1, I1, rx, q1⟩ => thn (hi.run pins s1 σ H1 _ I1 q1) fun iv s2 ⟨y, H2, I2, ry, a, b, ws, d, v, ex, ey, g, k, l, q2⟩ => ?_)
  subst ex ey
  obtain rfl : u = Value.ref a := rx
  obtain rfl : iv = Value.ref b := ry
  exact ⟨(dn_typeIs I2 g).1, dn_get hu I2 g k l fun w' s3 I3 rw' => ⟨v, H2, I3, rw', q2⟩⟩
theorem pc_dnIn (hu : X.A.units + 9 < cLine) (hi : PE X i ty) (ho : PE X o td) : PC X .In i o (tDnIn X.w X.K ty td) := by
  refine ⟨fun pins s σ H Q I h => ?_⟩
  refine thn (hi.run pins s σ H _ I h) fun iv s1 ⟨y, H1, I1, ry, q1⟩ => thn (ho.run pins s1 σ H1 _ I1 q1) fun u s2 ⟨x, H2, I2, rx, a, b, ws, d, ex, ey, g, k, q2⟩ => ?_
  subst ex ey
  obtain rfl : u = Value.ref a := rx
  obtain rfl : iv = Value.ref b := ry
  exact dn_in hu I2 g k fun s3 I3 => ⟨.bl (valN ws d).isSome, H2, I3, rfl, q2⟩
theorem pc_dnNotIn (hu : X.A.units + 9 < cLine) (hi : PE X i ty) (ho : PE X o td) : PC X .NotIn i o (tDnNotIn X.w X.K ty td) := by
  refine ⟨fun pins s σ H Q I h => ?_⟩
  refine thn (hi.run pins s σ H _ I h) fun iv s1 ⟨y, H1, I1, ry, q1⟩ => thn (ho.run pins s1 σ H1 _ I1 q1) fun u s2 ⟨x, H2, I2, rx, a, b, ws, d, ex, ey, g, k, q2⟩ => ?_
  subst ex ey
  obtain rfl : u = Value.ref a := rx
  obtain rfl : iv = Value.ref b := ry
  exact dn_notIn hu I2 g k fun s3 I3 => ⟨.bl (!(valN ws d).isSome), H2, I3, rfl, q2⟩
theorem ps_dnPut (hu : X.A.units + 9 < cLine) (ho : PE X o td) (hi : PE X i ty) (hv : PE X value tv) (hs : swapsWith value (some (.Subscript o i pos')) pos.line X.env = pure false) :
    PS X (.Assign [.Subscript o i pos'] value pos) (sDnPut X.w X.K td ty tv) := by
  refine ⟨fun pins s σ H D I h => ?_⟩
  refine wpAny_Assign_Subscript (thn (hv.run pins s σ H _ I h) fun r s1 ⟨v, H1, I1, rv, q1⟩ => thn (ho.run pins s1 σ H1 _ I1 q1) fun u s2 ⟨x, H2, I2, rx, q2⟩ => thn (hi.run pins s2 σ H2 _ I2 q2) fun iv s3 ⟨y, H3, I3, ry, a, b, ws, d, ex, ey, g, k, l, q3⟩ => ?_) hs
  subst ex ey
  obtain rfl : u = Value.ref a := rx
  obtain rfl : iv = Value.ref b := ry
  exact dn_set hu I3 g k l rv fun s4 I4 => ⟨σ, _, I4, q3⟩
theorem pe_dnGet2 (hu : X.A.units + 9 < cLine) (ho : PE X o td) (he : PE X e ty) (hf : PE X f tx) (m : M2 X o "get" apos e f cpos) : PE X (.Call (.Attribute o "get" apos) [e, f] [] cpos) (tDnGet2 X.w X.K td ty tx) := by
  refine ⟨fun pins s σ H Q I h => ?_⟩
  refine wpAny_Call_method m.base m.few m.line PySem.F.plainAttrs_dict PySem.F.slot_dict_get PySem.F.type_dict_get (thn (ho.run pins s σ H _ I h) fun u s1 ⟨x, H1, I1, rx, a, ws0, ex, g0, q1⟩ => ?_)
  subst ex
  obtain rfl : u = Value.ref a := rx
  obtain ⟨t1, t2, _⟩ := dn_typeIs I1 g0
  refine ⟨t1, t2, ?_⟩
  rw [m.trees]
  refine Calls.callWith_builtin rfl (Calls.evalArgs_plain (Calls.spliced_cons (thn (he.run pins s1 σ H1 _ I1 q1) fun iv s2 ⟨y, H2, I2, ry, q2⟩ =>
    Calls.spliced_cons (thn (hf.run pins s2 σ H2 _ I2 q2) fun fv s3 ⟨z, H3, I3, rz, b, ws, d, ey, g, k, q3⟩ => Calls.spliced_nil ?_))))
  subst ey
  obtain rfl : iv = Value.ref b := ry
  exact dn_get2 hu I3 g k rz fun w' s4 I4 rw' => ⟨_, H3, I4, rw', q3⟩
end
/-! ### list(d), sorted(d), a dict of data keys -/
section
variable {prog : Program} {w : World} {d : Addr} {es : Array DictEntry} {ep : Nat}
theorem kdl_raw (lo : (d == sysModules) = false) : PySem.W.KdlSrc prog w "dict" d d es.size (fun i v => ∃ hi : i < es.size, v = es[i].key) (fun h => h.DictRaw d es ep) where
  type := fun _ hm => hm.typeIs
  there := fun _ hm => let ⟨_, ho, _⟩ := hm; ⟨Heap.lt_size ho, Heap.lt_size ho⟩
  keep := fun _ _ hm hk => hm.at fun o e => hk d (.inl rfl) o e
  notList := by decide
  notTuple := by decide
  hint := fun _ _ _ _ hm hq => PySem.W.kdl_hint_dict hm.typeIs hq
  iter := fun _ s hh hm => ⟨_, _, (fun _ _ hq => wpAny_pyIter_dict_raw lo hm hq), Walks.rawKeys hh _ d (let ⟨_, ho, _⟩ := hm; Nat.ne_of_lt (Heap.lt_size ho)) es ep, ⟨⟨_, Heap.get?_push_size _ rfl, rfl, rfl⟩, hm.at fun o e => Heap.get?_push_of_some _ e⟩⟩
end
section
variable {X : Cx} {pins : List (Addr × Obj)} {σ : L2.St} {H : Hp} {s : Shared} {a : Addr} {ws : List (D × Addr × V)}
theorem KN.get {ws : List (D × Addr × V)} {xs : List (D × Addr × Value)} (r : KN ws xs) {i : Nat} {y : D × Addr × Value} (h : xs[i]? = some y) : ∃ p, ws[i]? = some p ∧ p.2.1 = y.2.1 := by
  induction r generalizing i with
  | nil => simp at h
  | @cons p q ps qs h1 t ih =>
    cases i with
    | zero =>
      simp at h
      subst h
      exact ⟨p, rfl, h1.2.1⟩
    | succ i => exact ih (by simpa using h)
theorem pair_reads {h : Heap} {b : Addr} {i j : Int} {as : List Addr} (r : Reads h (.ref b) (D.py (.tup [.int i, .int j])) as) : Srt.IsPair h (.ref b) i j := by
  cases r with
  | @tuple a o vs n _ _ ho hc hd hi =>
    obtain ⟨l⟩ := vs
    cases hi with
    | cons r1 hi =>
      cases r1
      cases hi with
      | cons r2 hi =>
        cases r2
        cases hi
        exact ⟨_, o, _, _, n, rfl, ho, hc, hd⟩
theorem dn_raw (I : Inv X pins σ H s) (h : IsN X.w X.K H a ws) : ws.length ≤ sizeLine ∧ (a == sysModules) = false ∧ ∃ es ep, s.heap.DictRaw a es ep ∧ es.size = ws.length ∧ ∀ i (hi : i < es.size), ∃ p, ws[i]? = some p ∧ es[i].key = .ref p.2.1 := by
  obtain ⟨z, hd, xs, rel, dd⟩ := dn_at I h
  obtain ⟨es, ep, h1, h2, h3⟩ := dd.raw
  refine ⟨z, hd, es, ep, h1, by rw [h2]; exact (Paired.length rel).symm, fun i hi => ?_⟩
  obtain ⟨y, e1, e2, _⟩ := h3 i hi
  have := KN.get rel e1
  obtain ⟨p, e3, e4⟩ := this
  exact ⟨p, e3, by rw [e2, e4]⟩
theorem keys_vals {ws : List (D × Addr × V)} {es : Array DictEntry} {acc : List Value} (hs : es.size = ws.length) (hk : ∀ i (hi : i < es.size), ∃ p, ws[i]? = some p ∧ es[i].key = .ref p.2.1) (hl : acc.length = es.size)
    (ha : ∀ j v, acc[j]? = some v → ∃ hi : j < es.size, v = es[j].key) : acc = ws.map fun p => Value.ref p.2.1 := by
  refine List.ext_getElem? fun j => ?_
  rw [List.getElem?_map]
  cases e : acc[j]? with
  | some v =>
    obtain ⟨hi, rfl⟩ := ha j v e
    obtain ⟨p, e1, e2⟩ := hk j hi
    rw [e1, e2]
    rfl
  | none =>
    have := List.getElem?_eq_none_iff.mp e
    rw [List.getElem?_eq_none (by omega)]
    rfl
theorem vals_refs : ∀ (ws : List (D × Addr × V)), Vals (ws.map fun p => V.ref p.2.1) (ws.map fun p => Value.ref p.2.1)
  | [] => .nil
  | p :: ws => .cons rfl (vals_refs ws)
def rListN (w : World) (K : PySem.W.Frag) : List V → Hp → VK → Prop := fun xs H Q => ∃ (a : Addr) (ws : List (D × Addr × V)), xs = [.ref a] ∧ IsN w K H a ws ∧ ∀ p, H p = none → Q (.ref p) (upd H p (.lst (ws.map fun p => V.ref p.2.1)))
theorem call_listN (hcalm : X.calm = true) : CallR X (.type "list") (rListN X.w X.K) := by
  intro pins s σ H xs us Q I r q
  obtain ⟨a, ws, rfl, hd, q⟩ := q
  obtain ⟨u, rfl, rx⟩ := vals1 r
  obtain rfl : u = Value.ref a := rx
  obtain ⟨z, lo, es, ep, hat, hs, hk⟩ := dn_raw I hd
  refine PySem.W.kdl_call (kdl_raw (es := es) (ep := ep) lo) (I.ok.hd hcalm) hat (by rw [hs]; exact z) fun h' tk acc c' hkp hD hacc => ?_
  have hv := keys_vals (acc := acc.toList) hs hk (by rw [Array.length_toList]; exact hacc.1) fun j v e => hacc.2 j v (by rw [← Array.getElem?_toList]; exact e)
  refine ⟨.ref s.heap.objs.size, upd H s.heap.objs.size (.lst (ws.map fun p => V.ref p.2.1)), I.laid (t' := tk) hkp (Nat.le_refl _)
    (show ObjOk X.prog X.w _ _ _ (.lst _) from ⟨by rw [List.length_map]; exact z, acc.toList, c', by rw [hv]; exact vals_refs ws, by rw [Array.toArray_toList]; exact hD⟩), rfl, q _ (I.hok.fresh (Nat.le_refl _))⟩
/-- the pair of ints that a key is -/
def keyP : D → Int × Int
  | .tup [.int i, .int j] => (i, j)
  | _ => (0, 0)
theorem nodup_key {α β : Type} {f : α → β} : ∀ {l : List α}, (l.map f).Nodup → ∀ {p q : α}, p ∈ l → q ∈ l → f p = f q → p = q
  | [], _, _, _, h, _, _ => by cases h
  | x :: l, hn, p, q, h1, h2, e => by
    rw [List.map_cons, List.nodup_cons] at hn
    rcases List.mem_cons.mp h1 with g1 | g1
    · rcases List.mem_cons.mp h2 with g2 | g2
      · rw [g1, g2]
      · exact absurd (List.mem_map.mpr ⟨q, g2, by rw [← e, g1]⟩) hn.1
    · rcases List.mem_cons.mp h2 with g2 | g2
      · exact absurd (List.mem_map.mpr ⟨p, g1, by rw [e, g2]⟩) hn.1
      · exact nodup_key hn.2 g1 g2 e
theorem dn_nodup (I : Inv X pins σ H s) (h : IsN X.w X.K H a ws) : (ws.map (·.1)).Nodup := by
  obtain ⟨z, hd, xs, rel, o, es, ep, hq, h2, h3, h4, h5, h6⟩ := dn_at I h
  have e : ws.map (·.1) = xs.map (·.1) := by
    clear h4 h5 h6 z h
    induction rel with
    | nil => rfl
    | cons h1 t ih => rw [List.map_cons, List.map_cons, ih, h1.1]
  rw [e]
  exact h6
theorem dn_addr (I : Inv X pins σ H s) (h : IsN X.w X.K H a ws) {p q : D × Addr × V} (hp : p ∈ ws) (hq : q ∈ ws) (e : p.2.1 = q.2.1) : p = q := by
  refine nodup_key (dn_nodup I h) hp hq ?_
  have h1 := (h.2 p hp).is I
  have h2 := (h.2 q hq).is I
  rw [e] at h1
  exact (dataKind X.prog X.w).inj h1 h2
/-- the entry of a key's address -/
noncomputable def entOf (ws : List (D × Addr × V)) (v : V) : D × Addr × V := open Classical in if h : ∃ p ∈ ws, V.ref p.2.1 = v then h.choose else (.non, 0, .non)
theorem entOf_is {ws : List (D × Addr × V)} (hu : ∀ p ∈ ws, ∀ q ∈ ws, p.2.1 = q.2.1 → p = q) {p : D × Addr × V} (hp : p ∈ ws) : entOf ws (.ref p.2.1) = p := by
  have hx : ∃ q ∈ ws, V.ref q.2.1 = V.ref p.2.1 := ⟨p, hp, rfl⟩
  unfold entOf
  rw [dif_pos hx]
  obtain ⟨h1, h2⟩ := hx.choose_spec
  exact hu _ h1 _ hp (V.ref.inj h2)
def rSortedNP (w : World) (K : PySem.W.Frag) : List V → Hp → VK → Prop := fun xs H Q => ∃ (a : Addr) (ws : List (D × Addr × V)), xs = [.ref a] ∧ IsN w K H a ws ∧ (∀ p ∈ ws, ∃ i j, p.1 = .tup [.int i, .int j]) ∧
  ∀ (zs : List (D × Addr × V)) (p : Addr), zs.Perm ws → zs.Pairwise (fun x y => SrtO.lexB (keyP y.1) (keyP x.1) = false) → H p = none → Q (.ref p) (upd H p (.lst (zs.map fun p => V.ref p.2.1)))
theorem cr_sortedNP (hcalm : X.calm = true) : CallR X (.builtin "sorted") (rSortedNP X.w X.K) := by
  intro pins s σ H xs us Q I r q
  obtain ⟨a, ws, rfl, hd, hp0, q⟩ := q
  have hun : ∀ p ∈ ws, ∀ q ∈ ws, p.2.1 = q.2.1 → p = q := fun p hp q hq e => dn_addr I hd hp hq e
  let k : V → Int × Int := fun v => keyP (entOf ws v).1
  have hp : ∀ p ∈ ws, p.1 = .tup [.int (k (.ref p.2.1)).1, .int (k (.ref p.2.1)).2] := fun p hp => by
    show p.1 = .tup [.int (keyP (entOf ws (.ref p.2.1)).1).1, .int (keyP (entOf ws (.ref p.2.1)).1).2]
    rw [entOf_is hun hp]
    obtain ⟨i, j, e⟩ := hp0 p hp
    rw [e]
    rfl
  have q : ∀ ys p, SrtO.Srtd (ltP k) ys → SrtO.Stb (ltP k) ys (ws.map fun p => V.ref p.2.1) → H p = none → Q (.ref p) (upd H p (.lst ys)) := fun ys p h1 h2 h3 => by
    have hperm := h2.perm
    have e1 : (ws.map fun p => V.ref p.2.1).map (entOf ws) = ws := by
      rw [List.map_map]
      conv => rhs; rw [← List.map_id ws]
      exact List.map_congr_left fun p hp => entOf_is hun hp
    have hz : (ys.map (entOf ws)).Perm ws := by
      have := hperm.map (entOf ws)
      rwa [e1] at this
    have e2 : (ys.map (entOf ws)).map (fun p => V.ref p.2.1) = ys := by
      rw [List.map_map]
      conv => rhs; rw [← List.map_id ys]
      refine List.map_congr_left fun y hy => ?_
      obtain ⟨p, hp, rfl⟩ := List.mem_map.mp (hperm.mem_iff.mp hy)
      show V.ref (entOf ws (V.ref p.2.1)).2.1 = V.ref p.2.1
      rw [entOf_is hun hp]
    have := q (ys.map (entOf ws)) p hz (List.pairwise_map.mpr h1) h3
    rwa [e2] at this
  obtain ⟨u, rfl, rx⟩ := vals1 r
  obtain rfl : u = Value.ref a := rx
  obtain ⟨z, lo, es, ep, hat, hs, hk⟩ := dn_raw I hd
  refine Calls.call_function_entry PyProof.Rows.kind_sorted PyProof.Rows.plain_sorted PyProof.Rows.entry_sorted (PyProof.Rows.args_sorted1 _) ?_
  unfold Builtin.«sorted»
  refine wpAny_bind (m := checkCount "sorted" 1 1 _) (wpAny_pure ?_)
  refine wpAny_bind (PySem.W.kdu_collect (A := X.A.in1) (kdl_raw (es := es) (ep := ep) lo) (I.ok.hd hcalm) hat (by rw [hs]; exact z) fun h' tk acc hkp hacc => ?_)
  have hv := keys_vals (acc := acc.toList) hs hk (by rw [Array.length_toList]; exact hacc.1) fun j v e => hacc.2 j v (by rw [← Array.getElem?_toList]; exact e)
  have I1 : Inv X pins σ H { s with heap := h', toks := tk } := I.kept hkp
  have hsz : acc.toList.length ≤ sizeLine := by rw [hv, List.length_map]; exact z
  have hpr : ∀ v ∈ acc.toList, Srt.IsPair h' v (k (backV v)).1 (k (backV v)).2 := fun v hm => by
    rw [hv] at hm
    obtain ⟨p, hp1, rfl⟩ := List.mem_map.mp hm
    obtain ⟨_, as, rr⟩ := (hd.2 p hp1).is I1
    have e := hp p hp1
    rw [e] at rr
    exact pair_reads rr
  refine wpAny_bind (wpAny_newList ?_ hsz)
  have hoL : (h'.push (seqObj "list" acc.toList.toArray 0)).get? h'.objs.size = some (seqObj "list" acc.toList.toArray 0) := Heap.get?_push_size _ rfl
  show wpAny _ _ _ _ _ { s with heap := h'.push (seqObj "list" acc.toList.toArray 0), toks := tk }
  have hpr2 : ∀ v ∈ acc.toList, Srt.IsPair (h'.push (seqObj "list" acc.toList.toArray 0)) v (k (backV v)).1 (k (backV v)).2 := fun v hm => (hpr v hm).keeps fun b o e _ => Heap.get?_push_of_some _ e
  refine wpAny_bind (wpAny_holding (wpAny_call_entry PyProof.Rows.slot_list_sort ⟨_, hoL, rfl⟩ PyProof.Rows.entry_list_sort
    (SrtO.list_sort_ord (s := { s with heap := h'.push (seqObj "list" acc.toList.toArray 0), toks := tk }) (SrtO.swo_lex fun v => k (backV v)) hoL hsz
      (fun h2 => SrtO.pairs_sortableO (k := fun v => k (backV v)) (by omega) hpr2 fun o e c => ?_) fun out h1 h2 => ⟨_, rfl, ?_⟩) (PyProof.Rows.args_list_sort _)))
  · have e' : some o = some (seqObj "list" acc.toList.toArray 0) := e.symm.trans hoL
    cases e'
    exact absurd (Value.type.inj c) (by decide)
  obtain ⟨e', he'⟩ := PyProof.Rows.sortedHeap_at (vs := acc.toList) (out := out.toArray) hoL
  have h3 : ∀ u ∈ out, ∃ a, u = Value.ref a := fun u hu => by
    have := h2.perm.mem_iff.mp hu
    rw [hv] at this
    obtain ⟨p, _, rfl⟩ := List.mem_map.mp this
    exact ⟨_, rfl⟩
  have hb : SrtO.Stb (ltP k) (out.map backV) (ws.map fun p => V.ref p.2.1) := by
    have e : (ws.map fun p => V.ref p.2.1) = acc.toList.map backV := by rw [hv, List.map_map]; rfl
    rw [e]
    exact SrtO.Stb.map (ltP_swo k) backV h2
  refine wpAny_pure ⟨_, rfl, .ref h'.objs.size, upd H h'.objs.size (.lst (out.map backV)), I1.laid (t' := tk) (fun b u e => ?_) (Nat.le_refl _)
    (show ObjOk X.prog X.w _ _ _ (.lst (out.map backV)) from ⟨by rw [hb.len, List.length_map]; exact z, out, e', vals_back h3, he'⟩), rfl, q _ _ (SrtO.srtd_map h1) hb (I1.hok.fresh (Nat.le_refl _))⟩
  have hb : b < h'.objs.size := Heap.lt_size e
  rw [PyProof.Rows.sortedHeap_old (Nat.ne_of_lt hb) (by rw [size_push']; exact Nat.lt_succ_of_lt hb)]
  exact Heap.get?_push_of_some _ e
end
/-! the same, K and the world named -/
section
variable {X : Cx} {w : World} {K : PySem.W.Frag} {o i e f value : Expr} {pos pos' apos cpos : Pos} {td ty tv tx : TE}
theorem hu9 {k : Nat} {A : Around} (hr : Room k A) : A.units + 9 < cLine := Nat.lt_of_le_of_lt (Nat.add_le_add_left (by decide : 9 ≤ 64) _) hr.units
theorem pe_dnNewk (hw : X.w = w) : PE X (.Dict [] [] pos) (tDnNew w) := by subst hw; exact pe_dnNew
theorem pe_dnGetk (hw : X.w = w) (hK : X.K = K) (hu : X.A.units + 9 < cLine) (ho : PE X o td) (hi : PE X i ty) (hs : NoSl i) : PE X (.Subscript o i pos) (tDnGet w K td ty) := by subst hw hK; exact pe_dnGet hu ho hi hs
theorem pc_dnInk (hw : X.w = w) (hK : X.K = K) (hu : X.A.units + 9 < cLine) (hi : PE X i ty) (ho : PE X o td) : PC X .In i o (tDnIn w K ty td) := by subst hw hK; exact pc_dnIn hu hi ho
theorem pc_dnNotInk (hw : X.w = w) (hK : X.K = K) (hu : X.A.units + 9 < cLine) (hi : PE X i ty) (ho : PE X o td) : PC X .NotIn i o (tDnNotIn w K ty td) := by subst hw hK; exact pc_dnNotIn hu hi ho
theorem ps_dnPutk (hw : X.w = w) (hK : X.K = K) (hu : X.A.units + 9 < cLine) (ho : PE X o td) (hi : PE X i ty) (hv : PE X value tv) (hs : swapsWith value (some (.Subscript o i pos')) pos.line X.env = pure false) :
    PS X (.Assign [.Subscript o i pos'] value pos) (sDnPut w K td ty tv) := by subst hw hK; exact ps_dnPut hu ho hi hv hs
theorem pe_dnGet2k (hw : X.w = w) (hK : X.K = K) (hu : X.A.units + 9 < cLine) (ho : PE X o td) (he : PE X e ty) (hf : PE X f tx) (m : M2 X o "get" apos e f cpos) : PE X (.Call (.Attribute o "get" apos) [e, f] [] cpos) (tDnGet2 w K td ty tx) := by subst hw hK; exact pe_dnGet2 hu ho he hf m
theorem call_listNk (hw : X.w = w) (hK : X.K = K) (hcalm : X.calm = true) : CallR X (.type "list") (rListN w K) := by subst hw hK; exact call_listN hcalm
theorem cr_sortedNPk (hw : X.w = w) (hK : X.K = K) (hcalm : X.calm = true) : CallR X (.builtin "sorted") (rSortedNP w K) := by subst hw hK; exact cr_sortedNP hcalm
/-- sorted(l), pairs of ints -/
def rSortedPD (K : PySem.W.Frag) : List V → Hp → VK → Prop := fun vs H Q => ∃ (a : Addr) (zs : List (V × Int × Int)), vs = [V.ref a] ∧ SqL K H a (zs.map (·.1)) ∧ (∀ z ∈ zs, ∃ t, z.1 = V.ref t ∧ Dp K H z.1 (D.py (.tup [.int z.2.1, .int z.2.2]))) ∧
  ∀ (ys : List (V × Int × Int)) (p : Addr), ys.Perm zs → ys.Pairwise (fun x y => SrtO.lexB y.2 x.2 = false) → H p = none → Q (.ref p) (upd H p (.lst (ys.map (·.1))))
noncomputable def pairAt (h : Heap) (v : V) : Int × Int := open Classical in match v with
  | .ref b => if hx : ∃ z : Int × Int, Srt.IsPair h (.ref b) z.1 z.2 then hx.choose else (0, 0)
  | _ => (0, 0)
theorem pair_uniq {h : Heap} {v : Value} {i j i' j' : Int} (h1 : Srt.IsPair h v i j) (h2 : Srt.IsPair h v i' j') : i = i' ∧ j = j' := by
  obtain ⟨a, o, t, u, n, rfl, ho, _, hd⟩ := h1
  obtain ⟨a', o', t', u', n', e, ho', _, hd'⟩ := h2
  cases e
  rw [ho] at ho'
  cases ho'
  rw [hd] at hd'
  injection hd' with e1 e2
  have e3 : [Value.int i t, Value.int j u] = [Value.int i' t', Value.int j' u'] := congrArg Array.toList e1
  simp at e3
  exact ⟨e3.1.1, e3.2.1⟩
theorem pairAt_is {h : Heap} {b : Addr} {i j : Int} (hp : Srt.IsPair h (.ref b) i j) : pairAt h (.ref b) = (i, j) := by
  have hx : ∃ z : Int × Int, Srt.IsPair h (.ref b) z.1 z.2 := ⟨(i, j), hp⟩
  show (open Classical in if hx : ∃ z : Int × Int, Srt.IsPair h (.ref b) z.1 z.2 then hx.choose else (0, 0)) = (i, j)
  rw [dif_pos hx]
  have := pair_uniq hx.choose_spec hp
  exact Prod.ext this.1 this.2
theorem cr_sortedPD (hK : X.K = K) : CallR X (.builtin "sorted") (rSortedPD K) := by
  subst hK
  intro pins s σ H vs us Q I r h
  obtain ⟨a, zs, rfl, hs, hx, q⟩ := h
  obtain ⟨its, rv, hl, hz⟩ := I.list hs
  obtain ⟨u, rfl, ru⟩ := vals1 r
  obtain rfl : u = Value.ref a := ru
  obtain ⟨e1, e2⟩ := refs_back rv fun x m => by
    obtain ⟨z, hz, rfl⟩ := List.mem_map.mp m
    obtain ⟨t, e, _⟩ := hx z hz
    exact ⟨t, e⟩
  have hpr : ∀ z ∈ zs, ∃ t, z.1 = V.ref t ∧ Srt.IsPair s.heap (.ref t) z.2.1 z.2.2 := fun z hz => by
    obtain ⟨t, e, ht⟩ := hx z hz
    rw [e] at ht
    obtain ⟨as, rr⟩ := Dp.reads I _ _ (.ref t) ht rfl
    exact ⟨t, e, pair_reads rr⟩
  have hk : ∀ z ∈ zs, pairAt s.heap z.1 = z.2 := fun z hz => by
    obtain ⟨t, e, hp⟩ := hpr z hz
    rw [e]
    exact pairAt_is hp
  refine SrtO.sorted_pairsO (k := fun u => pairAt s.heap (backV u)) hl.isList (by rw [← rv.length]; exact hz) (fun v hv => ?_) fun h' d out h1 h2 kp hd hn => ?_
  · have hm : backV v ∈ zs.map (·.1) := by rw [e1]; exact List.mem_map.mpr ⟨_, hv, rfl⟩
    obtain ⟨t, rfl⟩ := e2 v hv
    obtain ⟨z, hz, e⟩ := List.mem_map.mp hm
    obtain ⟨t', e', hp⟩ := hpr z hz
    have e3 : V.ref t = V.ref t' := e.symm.trans e'
    cases e3
    show Srt.IsPair s.heap (.ref t) (pairAt s.heap (.ref t)).1 (pairAt s.heap (.ref t)).2
    rw [pairAt_is hp]
    exact hp
  · have h3 : ∀ u ∈ out, ∃ a, u = Value.ref a := fun u hu => e2 u (h2.perm.mem_iff.mp hu)
    obtain ⟨n, hn⟩ := hn
    have hb : SrtO.Stb (ltP (pairAt s.heap)) (out.map backV) (zs.map (·.1)) := by
      rw [e1]
      exact SrtO.Stb.map (ltP_swo (pairAt s.heap)) backV h2
    have hsz : SrtO.Srtd (ltP (pairAt s.heap)) (out.map backV) := SrtO.srtd_map h1
    have ez : (zs.map (·.1)).map (fun v => (v, pairAt s.heap v)) = zs := by
      rw [List.map_map]
      conv => rhs; rw [← List.map_id zs]
      refine List.map_congr_left fun z hz => ?_
      show (z.1, pairAt s.heap z.1) = z
      rw [hk z hz]
    have hp := hb.perm.map (fun v => (v, pairAt s.heap v))
    rw [ez] at hp
    have eo : ((out.map backV).map fun v => (v, pairAt s.heap v)).map (·.1) = out.map backV := by
      rw [List.map_map]
      conv => rhs; rw [← List.map_id (out.map backV)]
      rfl
    have q2 := q ((out.map backV).map fun v => (v, pairAt s.heap v)) d hp (List.pairwise_map.mpr hsz) (I.hok.fresh hd)
    rw [eo] at q2
    refine ⟨.ref d, upd H d (.lst (out.map backV)), I.laid (t' := s.toks) kp hd ⟨?_, out, n, vals_back h3, hn⟩, rfl, q2⟩
    rw [hb.len]
    exact hz
end
/-! ### readings of dicts of data keys, in their own slots -/
noncomputable def valP (kvs : List (D × D)) (d : D) : Option D := (kvs.find? fun p => decide (p.1 = d)).map (·.2)
noncomputable def putP (kvs : List (D × D)) (d e : D) : List (D × D) :=
  if (kvs.any fun p => decide (p.1 = d)) = true then kvs.map (fun p => if p.1 = d then (p.1, e) else p) else kvs ++ [(d, e)]
section
variable {K : PySem.W.Frag} {Ξ : XI} {F H : Hp}
theorem PrN.val {kvs : List (D × D)} {ws : List (D × Addr × V)} (h : PrN K F kvs ws) (d : D) : (∃ e v, valP kvs d = some e ∧ valN ws d = some v ∧ Rp K F e v) ∨ (valP kvs d = none ∧ valN ws d = none) := by
  induction h with
  | nil => exact .inr ⟨rfl, rfl⟩
  | @cons p q ps qs h t ih =>
    by_cases e : p.1 = d
    · refine .inl ⟨p.2, q.2.2, ?_, ?_, h.2.2.2⟩
      · simp [valP, List.find?_cons, e]
      · simp [valN, List.find?_cons, h.1.symm.trans e]
    · have e' : ¬ q.1 = d := fun z => e (h.1.trans z)
      have a : valP (p :: ps) d = valP ps d := by simp [valP, List.find?_cons, e]
      have b : valN (q :: qs) d = valN qs d := by simp [valN, List.find?_cons, e']
      rw [a, b]
      exact ih
theorem PrN.any {kvs : List (D × D)} {ws : List (D × Addr × V)} (h : PrN K F kvs ws) (d : D) : (kvs.any fun p => decide (p.1 = d)) = (ws.any fun p => decide (p.1 = d)) := by
  induction h with
  | nil => rfl
  | @cons p q ps qs h t ih => rw [List.any_cons, List.any_cons, ih, h.1]
theorem PrN.repl {kvs : List (D × D)} {ws : List (D × Addr × V)} (h : PrN K F kvs ws) {d e : D} {v : V} (he : Rp K F e v) :
    PrN K F (kvs.map fun p => if p.1 = d then (p.1, e) else p) (ws.map fun p => if p.1 = d then (p.1, p.2.1, v) else p) := by
  induction h with
  | nil => exact .nil
  | @cons p q ps qs h t ih =>
    rw [List.map_cons, List.map_cons]
    refine .cons ?_ ih
    by_cases z : p.1 = d
    · rw [if_pos z, if_pos (h.1.symm.trans z)]
      exact ⟨h.1, h.2.1, h.2.2.1, he⟩
    · rw [if_neg z, if_neg (fun y => z (h.1.trans y))]
      exact h
theorem PrN.put {kvs : List (D × D)} {ws : List (D × Addr × V)} (h : PrN K F kvs ws) {d e : D} {b : Addr} {v : V} (hk : D.hkN 6 d = true) (hd : Rp K F d (.ref b)) (he : Rp K F e v) : PrN K F (putP kvs d e) (putN ws d b v) := by
  unfold putP putN
  rw [h.any d]
  split
  · exact h.repl he
  · exact Paired.snoc h ⟨rfl, hk, hd, he⟩
theorem PrN.length {kvs : List (D × D)} {ws : List (D × Addr × V)} (h : PrN K F kvs ws) : kvs.length = ws.length := Paired.length h
theorem keyN_of {d : D} {b : Addr} (hs : Same F H) (hk : D.hkN 6 d = true) (h : Rp K F d (.ref b)) : KeyN K H d b := ⟨hk, (py_of 6 (D.hk_pl 6 hk) (h.mono hs)).1⟩
theorem isN_of {w : World} {l : Addr} {kvs : List (D × D)} {ws : List (D × Addr × V)} (hs : Same F H) (h1 : H l = some (dnO w l ws)) (h : PrN K F kvs ws) : IsN w K H l ws := by
  refine ⟨h1, ?_⟩
  clear h1
  induction h with
  | nil => intro p hp; cases hp
  | @cons p q ps qs h t ih =>
    intro y hy
    rcases List.mem_cons.mp hy with rfl | hy
    · exact keyN_of hs (h.1 ▸ h.2.1) (h.1 ▸ h.2.2.1)
    · exact ih y hy
/-- a key is a tuple -/
def isTupK : D → Bool
  | .tup _ => true
  | _ => false
theorem rp_ref {d : D} {v : V} (ht : isTupK d = true) (h : Rp K F d v) : ∃ b, v = .ref b := by
  cases d <;> first | (cases ht; done) | skip
  obtain ⟨a, vs, rfl, _⟩ := h
  exact ⟨a, rfl⟩
end
def keyOk (d : D) : Prop := D.hkN 6 d = true ∧ isTupK d = true
section
variable {K : PySem.W.Frag} {Ξ : XI} {w : World}
instance : LiftE K Ξ (tDnNew w) (fun s q => q (.ow false (.dn w [])) s) := ⟨fun {F H ω s σ Q} q T h k p hp => by
  have e := Ext.ow T.sf hp (dnO w p [])
  obtain ⟨p2, T2⟩ := e.stp T
  exact k (.ref p) F _ ω (.ow false (.dn w [])) s p2 T2 ⟨p, [p], rfl, fun a ha => by cases List.mem_singleton.mp ha; exact ⟨hp, Sta.free T.base hp, T.sf.free hp⟩, rfl, [], upd_same, .nil⟩ h⟩
theorem dn_own {i : Nat} {F H : Hp} {ω : Om} {s : Sl} {σ : L2.St} {b : Bool} {kvs : List (D × D)} (T : Sta K Ξ F H ω s σ) (e : s[i]? = some (some (.ow b (.dn w kvs)))) :
    ∃ l ws, σ[i]? = some (some (.ref l)) ∧ ω l = some (i, tgR b) ∧ H l = some (dnO w l ws) ∧ PrN K F kvs ws ∧ IsN w K H l ws := by
  obtain ⟨v, hv, l, A, rfl, hl, _, _, ws, h1, h2⟩ := T.at' i _ e
  exact ⟨l, ws, hv, hl, h1, h2, isN_of T.sf h1 h2⟩
/-- d[key] -/
def pDnGetV (w : World) (i : Nat) (pi : PD) : PX := fun s q => (∃ b kvs, s[i]? = some (some (.ow b (.dn w kvs)))) ∧ pi s fun d s1 => keyOk d ∧ ∃ b kvs e, s1[i]? = some (some (.ow b (.dn w kvs))) ∧ valP kvs d = some e ∧ q (.fr e) s1
instance {i : Nat} {ti : TE} {pi : PD} [LiftD K Ξ ti pi] : LiftE K Ξ (tDnGet w K (tVar i) ti) (pDnGetV w i pi) := ⟨fun {F H ω s σ Q} q T h k => by
  obtain ⟨⟨b0, kvs0, e0⟩, h⟩ := h
  obtain ⟨l, _, hv, _⟩ := dn_own T e0
  refine ⟨_, hv, LiftD.run (K := K) (t := ti) (p := pi) _ T h fun v F2 H2 ω2 d s2 p2 T2 r2 h2 => ?_⟩
  obtain ⟨hk, b, kvs, e, e1, ev, hq⟩ := h2
  obtain ⟨l', ws, hv', _, h1, hp, hi⟩ := dn_own T2 e1
  rw [hv] at hv'
  cases hv'
  obtain ⟨kb, rfl⟩ := rp_ref hk.2 r2
  rcases hp.val d with ⟨e', v', z1, z2, z3⟩ | ⟨z1, _⟩
  · rw [ev] at z1
    cases z1
    exact ⟨l, kb, ws, d, v', rfl, rfl, hi, keyN_of T2.sf hk.1 r2, z2, k v' F2 H2 ω2 (.fr e) s2 p2 T2 z3 hq⟩
  · rw [ev] at z1
    cases z1⟩
/-- key in d, key not in d -/
def pDnInV (w : World) (f : Bool → Bool) (i : Nat) (pi : PD) : PX := fun s q => pi s fun d s1 => keyOk d ∧ ∃ b kvs, s1[i]? = some (some (.ow b (.dn w kvs))) ∧ q (.fr (.bl (f (valP kvs d).isSome))) s1
theorem dnIn_run {i : Nat} {F2 H2 : Hp} {ω2 : Om} {s2 : Sl} {σ : L2.St} {d : D} {v : V} {b : Bool} {kvs : List (D × D)} (T2 : Sta K Ξ F2 H2 ω2 s2 σ) (r2 : Rp K F2 d v) (hk : keyOk d) (e1 : s2[i]? = some (some (.ow b (.dn w kvs)))) :
    ∃ l kb ws, σ[i]? = some (some (.ref l)) ∧ v = .ref kb ∧ IsN w K H2 l ws ∧ KeyN K H2 d kb ∧ (valN ws d).isSome = (valP kvs d).isSome := by
  obtain ⟨l', ws, hv', _, h1, hp, hi⟩ := dn_own T2 e1
  obtain ⟨kb, rfl⟩ := rp_ref hk.2 r2
  refine ⟨l', kb, ws, hv', rfl, hi, keyN_of T2.sf hk.1 r2, ?_⟩
  rcases hp.val d with ⟨e', v', z1, z2, z3⟩ | ⟨z1, z2⟩
  · rw [z1, z2]; rfl
  · rw [z1, z2]; rfl
instance {i : Nat} {ti : TE} {pi : PD} [LiftD K Ξ ti pi] : LiftE K Ξ (tDnIn w K ti (tVar i)) (pDnInV w id i pi) := ⟨fun {F H ω s σ Q} q T h k => by
  refine LiftD.run (K := K) (t := ti) (p := pi) _ T h fun v F2 H2 ω2 d s2 p2 T2 r2 h2 => ?_
  obtain ⟨hk, b, kvs, e1, hq⟩ := h2
  obtain ⟨l, kb, ws, hv, rfl, hi, hy, e⟩ := dnIn_run T2 r2 hk e1
  refine ⟨_, hv, l, kb, ws, d, rfl, rfl, hi, hy, ?_⟩
  rw [e]
  exact k _ F2 H2 ω2 (.fr (.bl _)) s2 p2 T2 rfl hq⟩
instance {i : Nat} {ti : TE} {pi : PD} [LiftD K Ξ ti pi] : LiftE K Ξ (tDnNotIn w K ti (tVar i)) (pDnInV w not i pi) := ⟨fun {F H ω s σ Q} q T h k => by
  refine LiftD.run (K := K) (t := ti) (p := pi) _ T h fun v F2 H2 ω2 d s2 p2 T2 r2 h2 => ?_
  obtain ⟨hk, b, kvs, e1, hq⟩ := h2
  obtain ⟨l, kb, ws, hv, rfl, hi, hy, e⟩ := dnIn_run T2 r2 hk e1
  refine ⟨_, hv, l, kb, ws, d, rfl, rfl, hi, hy, ?_⟩
  rw [e]
  exact k _ F2 H2 ω2 (.fr (.bl _)) s2 p2 T2 rfl hq⟩
/-- d.get(key, x) -/
def pDnGet2V (w : World) (i : Nat) (pi px : PD) : PX := fun s q => (∃ b kvs, s[i]? = some (some (.ow b (.dn w kvs)))) ∧ pi s fun d s1 => keyOk d ∧ px s1 fun e s2 => ∃ b kvs, s2[i]? = some (some (.ow b (.dn w kvs))) ∧ q (.fr ((valP kvs d).getD e)) s2
instance {i : Nat} {ti tx : TE} {pi px : PD} [LiftD K Ξ ti pi] [LiftD K Ξ tx px] : LiftE K Ξ (tDnGet2 w K (tVar i) ti tx) (pDnGet2V w i pi px) := ⟨fun {F H ω s σ Q} q T h k => by
  obtain ⟨⟨b0, kvs0, e0⟩, h⟩ := h
  obtain ⟨l, ws0, hv, _, _, _, hi0⟩ := dn_own T e0
  refine ⟨_, hv, l, ws0, rfl, hi0, LiftD.run (K := K) (t := ti) (p := pi) _ T h fun v F2 H2 ω2 d s2 p2 T2 r2 h2 => ?_⟩
  obtain ⟨hk, h2⟩ := h2
  refine LiftD.run (K := K) (t := tx) (p := px) _ T2 h2 fun z F3 H3 ω3 e s3 p3 T3 r3 h3 => ?_
  obtain ⟨b, kvs, e1, hq⟩ := h3
  obtain ⟨l', ws, hv', _, h1, hp, hi⟩ := dn_own T3 e1
  rw [hv] at hv'
  cases hv'
  obtain ⟨kb, rfl⟩ := rp_ref hk.2 r2
  refine ⟨kb, ws, d, rfl, hi, keyN_of T3.sf hk.1 (r2.mono p3.sf), ?_⟩
  rcases hp.val d with ⟨e', v', z1, z2, z3⟩ | ⟨z1, z2⟩
  · rw [z2]
    rw [z1] at hq
    exact k v' F3 H3 ω3 (.fr e') s3 (p2.trans p3) T3 z3 hq
  · rw [z2]
    rw [z1] at hq
    exact k z F3 H3 ω3 (.fr e) s3 (p2.trans p3) T3 r3 hq⟩
/-- d[key] = x -/
def psDnPutV (w : World) (i : Nat) (pi pv : PD) : PS1 := fun E s => pv s fun e s1 => (∃ b kvs, s1[i]? = some (some (.ow b (.dn w kvs)))) ∧ pi s1 fun d s2 => keyOk d ∧ ∃ b kvs, s2[i]? = some (some (.ow b (.dn w kvs))) ∧ kvs.length < 1000000 ∧ E.nx (s2.set i (some (.ow b (.dn w (putP kvs d e)))))
instance {i : Nat} {ti tv : TE} {pi pv : PD} [LiftD K Ξ ti pi] [LiftD K Ξ tv pv] : LiftS K Ξ (sDnPut w K (tVar i) ti tv) (psDnPutV w i pi pv) := ⟨fun E T h M => by
  refine LiftD.run (K := K) (t := tv) (p := pv) _ T h fun v F1 H1 ω1 e s1 p1 T1 r1 h1 => ?_
  obtain ⟨⟨b0, kvs0, e0⟩, h1⟩ := h1
  obtain ⟨l, _, hv, _⟩ := dn_own T1 e0
  refine ⟨_, hv, LiftD.run (K := K) (t := ti) (p := pi) _ T1 h1 fun y F2 H2 ω2 d s2 p2 T2 r2 h2 => ?_⟩
  obtain ⟨hk, b, kvs, e1, hl, hq⟩ := h2
  obtain ⟨l', ws, hv', hw, hh, hp, hi⟩ := dn_own T2 e1
  rw [hv] at hv'
  cases hv'
  obtain ⟨kb, rfl⟩ := rp_ref hk.2 r2
  refine ⟨l, kb, ws, d, rfl, rfl, hi, keyN_of T2.sf hk.1 r2, ?_, ?_⟩
  · rw [← hp.length]
    exact Nat.lt_trans hl (by decide)
  · obtain ⟨ω3, p3, T3⟩ := T2.mut (u := dnO w l (putN ws d kb v)) hv hw (o' := .dn w (putP kvs d e)) ⟨rfl, _, upd_same, hp.put hk.1 r2 (r1.mono p2.sf)⟩
    exact M.nx ((p1.trans p2).trans p3) T3 hq⟩
end
section
variable {K : PySem.W.Frag} {Ξ : XI} {w : World}
theorem PrN.refs {F : Hp} {kvs : List (D × D)} {ws : List (D × Addr × V)} (h : PrN K F kvs ws) : RpA K F (kvs.map (·.1)) (ws.map fun p => V.ref p.2.1) := by
  induction h with
  | nil => rfl
  | @cons x y xs ys h t ih => exact ⟨_, _, rfl, h.2.2.1, ih⟩
theorem refs_perm {F : Hp} {ws zs : List (D × Addr × V)} (hw : ∀ p ∈ ws, Rp K F p.1 (.ref p.2.1)) (hp : zs.Perm ws) : RpA K F (zs.map (·.1)) (zs.map fun p => V.ref p.2.1) := by
  have : ∀ p ∈ zs, Rp K F p.1 (.ref p.2.1) := fun p h => hw p (hp.mem_iff.mp h)
  clear hp hw
  induction zs with
  | nil => rfl
  | cons x zs ih => exact ⟨_, _, rfl, this x List.mem_cons_self, ih fun p h => this p (List.mem_cons_of_mem _ h)⟩
theorem PrN.self {F : Hp} {kvs : List (D × D)} {ws : List (D × Addr × V)} (h : PrN K F kvs ws) : (∀ p ∈ ws, Rp K F p.1 (.ref p.2.1)) ∧ kvs.map (·.1) = ws.map (·.1) := by
  induction h with
  | nil => exact ⟨fun p h => (by cases h), rfl⟩
  | @cons x y xs ys h t ih =>
    refine ⟨fun p hp => ?_, by rw [List.map_cons, List.map_cons, ih.2, h.1]⟩
    rcases List.mem_cons.mp hp with rfl | hp
    · rw [← h.1]
      exact h.2.2.1
    · exact ih.1 p hp
/-- list(d) -/
def pListDn (w : World) (i : Nat) : PX := fun s q => ∃ b kvs, s[i]? = some (some (.ow b (.dn w kvs))) ∧ q (.ow false (.lst (kvs.map (·.1)))) s
instance {i : Nat} : LiftE K Ξ (tCB (rListN w K) (tCons (tVar i) tNil)) (pListDn w i) := ⟨fun {F H ω s σ Q} q T h k => by
  obtain ⟨b, kvs, e, hq⟩ := h
  obtain ⟨l, ws, hv, hl, h1, hp, hi⟩ := dn_own T e
  refine ⟨_, hv, l, ws, rfl, hi, fun p hpn => ?_⟩
  refine Ext.lst (q := fun z => q z s) T.sf hp.refs hq (fun v F' H' z e r hq => ?_) hpn
  obtain ⟨p2, T2⟩ := e.stp T
  exact k v F' H' ω z s p2 T2 (Rn.rt (Stp.refl T.tb) T r) hq⟩
/-- sorted(d), the keys pairs of ints -/
def pSortDn (w : World) (i : Nat) : PX := fun s q => ∃ b kvs, s[i]? = some (some (.ow b (.dn w kvs))) ∧ (∀ d ∈ kvs.map (·.1), ∃ i j, d = .tup [.int i, .int j]) ∧
  ∀ ds : List D, ds.Perm (kvs.map (·.1)) → ds.Pairwise (fun x y => SrtO.lexB (keyP y) (keyP x) = false) → q (.ow false (.lst ds)) s
instance {i : Nat} : LiftE K Ξ (tCB (rSortedNP w K) (tCons (tVar i) tNil)) (pSortDn w i) := ⟨fun {F H ω s σ Q} q T h k => by
  obtain ⟨b, kvs, e, hk, hq⟩ := h
  obtain ⟨l, ws, hv, hl, h1, hp, hi⟩ := dn_own T e
  obtain ⟨hw, hkw⟩ := hp.self
  rw [hkw] at hk hq
  refine ⟨_, hv, l, ws, rfl, hi, fun p hp => hk _ (List.mem_map_of_mem hp), fun zs p hz hs hpn => ?_⟩
  refine Ext.lst (q := fun z => q z s) T.sf (refs_perm hw hz) (hq _ (hz.map _) (List.pairwise_map.mpr hs)) (fun v F' H' z e r hq => ?_) hpn
  obtain ⟨p2, T2⟩ := e.stp T
  exact k v F' H' ω z s p2 T2 (Rn.rt (Stp.refl T.tb) T r) hq⟩
def pairD (z : Int × Int) : D := .tup [.int z.1, .int z.2]
def gSortedPD : List D → (S → Prop) → Prop := fun ds q => match ds with
  | [.lst xs] => ∃ ks : List (Int × Int), xs = ks.map pairD ∧ ∀ ms : List (Int × Int), ms.Perm ks → ms.Pairwise (fun x y => SrtO.lexB y x = false) → q (.ow false (.lst (ms.map pairD)))
  | _ => False
theorem zip_pairs {F : Hp} : ∀ {ks : List (Int × Int)} {vs : List V}, RpA K F (ks.map pairD) vs → ∃ zs : List (V × Int × Int), zs.map (·.1) = vs ∧ zs.map (·.2) = ks ∧ ∀ z ∈ zs, Rp K F (pairD z.2) z.1
  | [], _, h => by
    cases (show _ = [] from h)
    exact ⟨[], rfl, rfl, fun _ h => (by cases h)⟩
  | k :: ks, _, h => by
    obtain ⟨v, ws, rfl, h1, h2⟩ := h
    obtain ⟨zs, e1, e2, h3⟩ := zip_pairs h2
    refine ⟨(v, k) :: zs, by rw [List.map_cons, e1], by rw [List.map_cons, e2], fun z hz => ?_⟩
    rcases List.mem_cons.mp hz with rfl | hz
    · exact h1
    · exact h3 z hz
theorem pairs_back {F : Hp} : ∀ {ys : List (V × Int × Int)}, (∀ z ∈ ys, Rp K F (pairD z.2) z.1) → RpA K F ((ys.map (·.2)).map pairD) (ys.map (·.1))
  | [], _ => rfl
  | y :: ys, h => ⟨_, _, rfl, h y List.mem_cons_self, pairs_back fun z hz => h z (List.mem_cons_of_mem _ hz)⟩
instance : CaL K (rSortedPD K) gSortedPD := ⟨fun {F H vs ds Q} q hs r h k => by
  unfold gSortedPD at h
  split at h
  · obtain ⟨ks, rfl, hq⟩ := h
    obtain ⟨v, rfl, a, ws, rfl, h1, h2⟩ := r.one
    obtain ⟨zs, rfl, rfl, h3⟩ := zip_pairs h2
    refine ⟨a, zs, rfl, SqL.of (hs _ _ h1), fun z hz => ?_, fun ys p hp hw hpn => ?_⟩
    · have hr := h3 z hz
      obtain ⟨b, vs', e, _⟩ := id hr
      refine ⟨b, e, (py_of 6 (show D.plN 6 (pairD z.2) = true from rfl) (hr.mono hs)).1⟩
    · exact Ext.lst hs (pairs_back fun z hz => h3 z (hp.mem_iff.mp hz)) (hq (ys.map (·.2)) (hp.map _) (List.pairwise_map.mpr hw)) k hpn
  · exact h.elim⟩
end
/-! ### sorted(d), a dict of data keys that are alike -/
mutual
theorem reads_there {h : Heap} : ∀ {v : Value} {d : PyData} {as : List Addr}, Reads h v d as → ∀ b ∈ as, ∃ o, h.get? b = some o
  | _, _, _, .none, _, hb => by simp at hb
  | _, _, _, .bool _, _, hb => by simp at hb
  | _, _, _, .int _ _, _, hb => by simp at hb
  | _, _, _, .str _ _, _, hb => by simp at hb
  | _, _, _, .list h1 h2 h3 h4, b, hb => by
    rcases List.mem_cons.mp hb with z | z
    · rw [z]; exact ⟨_, h1⟩
    · exact readsAll_there h4 b z
  | _, _, _, .tuple h1 h2 h3 h4, b, hb => readsAll_there h4 b hb
  | _, _, _, .dict h1 h2 h3 h4 h5, b, hb => by
    rcases List.mem_append.mp hb with z | z
    · rcases List.mem_cons.mp z with y | y
      · rw [y]; exact ⟨_, h1⟩
      · exact readsAll_there h4 b y
    · exact readsAll_there h5 b z
theorem readsAll_there {h : Heap} : ∀ {vs : List Value} {ds : List PyData} {as : List Addr}, ReadsAll h vs ds as → ∀ b ∈ as, ∃ o, h.get? b = some o
  | _, _, _, .nil, _, hb => by simp at hb
  | _, _, _, .cons h1 h2, b, hb => (List.mem_append.mp hb).elim (reads_there h1 b) (readsAll_there h2 b)
end
def rSortedND (w : World) (K : PySem.W.Frag) : List V → Hp → VK → Prop := fun xs H Q => ∃ (a : Addr) (ws : List (D × Addr × V)), xs = [.ref a] ∧ IsN w K H a ws ∧ PySem.W.AllAlike (ws.map fun p => p.1.py) ∧ PySem.W.Sortable (ws.map fun p => p.1.py) ∧
  ∀ p, H p = none → Q (.ref p) (upd H p (.lst ((ws.mergeSort fun x y => leD x.1 y.1).map fun p => V.ref p.2.1)))
section
variable {X : Cx} {pins : List (Addr × Obj)} {σ : L2.St} {H : Hp} {s : Shared}
theorem vals_refs2 : ∀ {zs : List (D × Addr × V)} {out : List Value}, PySem.W.EachIs (fun u z => u = Value.ref z.2.1) out zs → Vals (zs.map fun p => V.ref p.2.1) out
  | _, _, .nil => .nil
  | _, _, .cons h t => by subst h; exact .cons rfl (vals_refs2 t)
theorem each_refs {R : Value → (D × Addr × V) → Prop} : ∀ {zs : List (D × Addr × V)}, (∀ z ∈ zs, R (.ref z.2.1) z) → PySem.W.EachIs R (zs.map fun p => Value.ref p.2.1) zs
  | [], _ => .nil
  | z :: zs, h => .cons (h z List.mem_cons_self) (each_refs fun y hy => h y (List.mem_cons_of_mem _ hy))
theorem cr_sortedND (hcalm : X.calm = true) (hu : X.A.units + 64 < cLine) : CallR X (.builtin "sorted") (rSortedND X.w X.K) := by
  intro pins s σ H xs us Q I r q
  obtain ⟨a, ws, rfl, hd, hal, hso, q⟩ := q
  obtain ⟨u, rfl, rx⟩ := vals1 r
  obtain rfl : u = Value.ref a := rx
  obtain ⟨z, lo, es, ep, hat, hs, hk⟩ := dn_raw I hd
  refine Calls.call_function_entry PyProof.Rows.kind_sorted PyProof.Rows.plain_sorted PyProof.Rows.entry_sorted (PyProof.Rows.args_sorted1 _) ?_
  unfold Builtin.«sorted»
  refine wpAny_bind (m := checkCount "sorted" 1 1 _) (wpAny_pure ?_)
  refine wpAny_bind (PySem.W.kdu_collect (A := X.A.in1) (kdl_raw (es := es) (ep := ep) lo) (I.ok.hd hcalm) hat (by rw [hs]; exact z) fun h' tk acc hkp hacc => ?_)
  have hv := keys_vals (acc := acc.toList) hs hk (by rw [Array.length_toList]; exact hacc.1) fun j v e => hacc.2 j v (by rw [← Array.getElem?_toList]; exact e)
  have I1 : Inv X pins σ H { s with heap := h', toks := tk } := I.kept hkp
  have hsz : acc.toList.length ≤ sizeLine := by rw [hv, List.length_map]; exact z
  refine wpAny_bind (wpAny_newList ?_ hsz)
  have hoL : (h'.push (seqObj "list" acc.toList.toArray 0)).get? h'.objs.size = some (seqObj "list" acc.toList.toArray 0) := Heap.get?_push_size _ rfl
  show wpAny _ _ _ _ _ { s with heap := h'.push (seqObj "list" acc.toList.toArray 0), toks := tk }
  have hen : PySem.W.EachIs (fun u z => u = Value.ref z.2.1) acc.toList ws := by rw [hv]; exact each_refs fun z _ => rfl
  have her : PySem.W.EachIs (fun v (b : D × Addr × V) => ∃ as, Reads (h'.push (seqObj "list" acc.toList.toArray 0)) v b.1.py as ∧ h'.objs.size ∉ as) acc.toList ws := by
    rw [hv]
    refine each_refs fun z hz => ?_
    obtain ⟨_, as, rr⟩ := (hd.2 z hz).is I1
    refine ⟨as, PyProof.Rows.Reads.keeps (fun b o e => Heap.get?_push_of_some _ e) rr, fun hm => ?_⟩
    obtain ⟨o, ho⟩ := reads_there rr _ hm
    exact absurd (Heap.lt_size ho) (Nat.lt_irrefl _)
  refine wpAny_bind (wpAny_holding ?_)
  refine PySem.W.list_sort_data (s := { s with heap := h'.push (seqObj "list" acc.toList.toArray 0), toks := tk }) (bs := ws) (enc := fun b => b.1.py) (R := fun u z => u = Value.ref z.2.1) hoL hen her hal hso (by rw [← hen.length]; exact hsz) (fun b hb => ?_) fun out hout eo => ?_
  · have h6 : b.1.py.depth ≤ 6 := (D.py_lay 6 (D.hk_pl 6 (hd.2 b hb).1)).2
    show X.A.units + 1 + 1 + b.1.py.depth < cLine
    omega
  · obtain ⟨e', he'⟩ := PyProof.Rows.sortedHeap_at (vs := acc.toList) (out := out.toArray) hoL
    refine wpAny_pure ⟨_, rfl, .ref h'.objs.size, upd H h'.objs.size (.lst ((ws.mergeSort (PySem.W.dataLe false fun b => b.1.py)).map fun p => V.ref p.2.1)), I1.laid (t' := tk) (fun b u e => ?_) (Nat.le_refl _)
      (show ObjOk X.prog X.w _ _ _ (.lst _) from ⟨by rw [List.length_map, List.length_mergeSort]; exact z, out, e', vals_refs2 eo, he'⟩), rfl, q _ (I1.hok.fresh (Nat.le_refl _))⟩
    have hb : b < h'.objs.size := Heap.lt_size e
    rw [PyProof.Rows.sortedHeap_old (Nat.ne_of_lt hb) (by rw [size_push']; exact Nat.lt_succ_of_lt hb)]
    exact Heap.get?_push_of_some _ e
theorem cr_sortedNDk {K : PySem.W.Frag} {w : World} (hw : X.w = w) (hK : X.K = K) (hcalm : X.calm = true) (hu : X.A.units + 64 < cLine) : CallR X (.builtin "sorted") (rSortedND w K) := by subst hw hK; exact cr_sortedND hcalm hu
end
section
variable {K : PySem.W.Frag} {Ξ : XI} {w : World}
/-- sorted(d) -/
def pSortDnD (w : World) (i : Nat) : PX := fun s q => ∃ b kvs, s[i]? = some (some (.ow b (.dn w kvs))) ∧ PySem.W.AllAlike (kvs.map fun p => p.1.py) ∧ PySem.W.Sortable (kvs.map fun p => p.1.py) ∧ q (.ow false (.lst (sortD (kvs.map (·.1))))) s
instance {i : Nat} : LiftE K Ξ (tCB (rSortedND w K) (tCons (tVar i) tNil)) (pSortDnD w i) := ⟨fun {F H ω s σ Q} q T h k => by
  obtain ⟨b, kvs, e, hal, hso, hq⟩ := h
  obtain ⟨l, ws, hv, hl, h1, hp, hi⟩ := dn_own T e
  obtain ⟨hw, hkw⟩ := hp.self
  have e1 : (kvs.map fun p => p.1.py) = ws.map fun p => p.1.py := by
    have := congrArg (List.map D.py) hkw
    rw [List.map_map, List.map_map] at this
    exact this
  rw [e1] at hal hso
  refine ⟨_, hv, l, ws, rfl, hi, hal, hso, fun p hpn => ?_⟩
  have e2 : sortD (kvs.map (·.1)) = (ws.mergeSort fun x y => leD x.1 y.1).map (·.1) := by
    unfold sortD
    rw [hkw, ← PySem.W.sort_maps (r := fun x y => leD x.1 y.1) (fun z : D × Addr × V => z.1) (fun a _ b _ => rfl)]
  rw [e2] at hq
  refine Ext.lst (q := fun z => q z s) T.sf (refs_perm hw (List.mergeSort_perm _ _)) hq (fun v F' H' z e r hq => ?_) hpn
  obtain ⟨p2, T2⟩ := e.stp T
  exact k v F' H' ω z s p2 T2 (Rn.rt (Stp.refl T.tb) T r) hq⟩
end
/-! ### a dict's pairs by data: what law_from's sums become -/
theorem hu65 {k : Nat} {A : Around} (hr : Room k A) : A.units + 64 < cLine := hr.units
/-! ### dicts: the same entries, the values as a list, get with None; texts in order -/
section
variable {X : Cx}
theorem eqAt_self {A : Around} {s : Shared} {v : V} {u u' : Value} (r : RelV v u) (r' : RelV v u') (f : flatB v = true ∨ ∃ a, v = .ref a) : SeqAt.EqAt A s u u' true := by
  rcases f with f | ⟨a, rfl⟩
  · exact eqAt_same r r' f
  · obtain rfl : u = Value.ref a := r
    obtain rfl : u' = Value.ref a := r'
    exact SeqAt.EqAt.same _
theorem hits_self {κ : Type} [DecidableEq κ] {A : Around} {s : Shared} {kvs : List (κ × V)} {vb : List (κ × Value)} (rb : KV kvs vb) {ks : List (κ × V)} {va : List (κ × Value)} (ra : KV ks va) :
    (∀ p ∈ ks, valV kvs p.1 = some p.2 ∧ (flatB p.2 = true ∨ ∃ a, p.2 = .ref a)) → PySem.W.KeqHits A s vb va true := by
  unfold KV at ra
  induction ra with
  | nil => intro _; exact .nil
  | @cons p q ps qs h t ih =>
    intro hp
    obtain ⟨h1, h2⟩ := h
    obtain ⟨e, f⟩ := hp p List.mem_cons_self
    have rr : RelO (some p.2) (valueAt vb p.1) := by rw [← e]; exact rb.val p.1
    obtain ⟨y, hy, ry⟩ := rr.some_of
    obtain ⟨k, v⟩ := q
    have h1' : p.1 = k := h1
    rw [h1'] at hy
    show PySem.W.KeqHits A s vb ((k, v) :: qs) (true && true)
    exact .hit hy (eqAt_self h2 ry f) (ih fun p' hm => hp p' (List.mem_cons_of_mem _ hm))
/-- d == e, both with the very same entries -/
def rEqDict : V → V → Hp → VK → Prop := fun x y H Q => ∃ a b kvs, x = .ref a ∧ y = .ref b ∧ Rd H a (.dK kvs) ∧ Rd H b (.dK kvs) ∧ (kvs.map (·.1)).Nodup ∧ (∀ p ∈ kvs, flatB p.2 = true ∨ ∃ a, p.2 = .ref a) ∧ Q (.bl true) H
theorem op_eq_dictS (hu : X.A.units < cLine) : OpR X (compareOp .Eq) rEqDict := by
  intro pins s σ H x y v u Q I rx ry h
  obtain ⟨a, b, kvs, rfl, rfl, ea, eb, nd, fl, q⟩ := h
  obtain rfl : v = Value.ref a := rx
  obtain rfl : u = Value.ref b := ry
  obtain ⟨_, ya, va, ra, da⟩ := dk_rd I.hok ea
  obtain ⟨_, yb, vb, rb, db⟩ := dk_rd I.hok eb
  have hl : va.length = vb.length := ra.length.symm.trans rb.length
  exact PySem.W.keq_eq (knd := mixKind X.prog X.w) (r := true) ya yb da db hu (fun _ => hits_self rb ra fun p hp => ⟨val_nodup nd p hp, fl p hp⟩) (fin_bl I q (by simp [hl]))
/-- the view d.values() at p -/
def valsO (p d : Addr) : HO := .ext fun h => h.IsValuesView p d
theorem valsO_ok {P : Program} {w : World} {H : Hp} {h : Heap} {p d : Addr} (e : h.get? p = some { cls := .type "dict_values", data := .fields #[.ref d] }) : ObjOk P w H h p (valsO p d) :=
  ⟨⟨_, e, rfl, rfl⟩, ⟨_, e⟩, fun h1 h2 x k => let ⟨o, ho, r⟩ := x; ⟨o, k o ho, r⟩⟩
def rValues : V → List V → Hp → VK → Prop := fun x xs H Q => ∃ (a : Addr) (kvs : List (Key × V)), x = .ref a ∧ xs = [] ∧ Rd H a (.dK kvs) ∧ ∀ p, H p = none → Q (.ref p) (upd H p (valsO p a))
theorem mt_valuesD : MtR X "dict.values" rValues := by
  intro pins s σ H x xs v us Q I rx rxs h
  obtain ⟨a, kvs, rfl, rfl, ha, q⟩ := h
  cases rx
  cases rxs
  obtain ⟨z, hd, vs, rel, dd⟩ := dk_rd I.hok ha
  have hf : H s.heap.objs.size = none := I.hok.fresh (Nat.le_refl _)
  refine call_meetsIn PySem.F.slot_dict_values dd.typeIs PySem.F.entry_dict_values (PySem.F.args_dict_values_1 _) (meets_dict_values (mixKind X.prog X.w) a hd) ⟨⟨vs, dd⟩, ?_⟩
  exact ⟨.ref s.heap.objs.size, upd H s.heap.objs.size (valsO s.heap.objs.size a), I.laid (t' := s.toks) (fun b u e => Heap.get?_push_of_some _ e) (Nat.le_refl _) (valsO_ok (Heap.get?_push_size _ rfl)), rfl, q _ hf⟩
theorem kv_vals {κ : Type} {kvs : List (κ × V)} {vs : List (κ × Value)} (r : KV kvs vs) : Vals (kvs.map (·.2)) (vs.map (·.2)) := by
  unfold KV at r
  induction r with
  | nil => exact .nil
  | cons h t ih => exact .cons h.2 ih
/-- list of a view of values -/
def rListVals : List V → Hp → VK → Prop := fun xs H Q => ∃ (p a : Addr) (kvs : List (Key × V)), xs = [.ref p] ∧ H p = some (valsO p a) ∧ Rd H a (.dK kvs) ∧ ∀ q, H q = none → Q (.ref q) (upd H q (.lst (kvs.map (·.2))))
theorem call_listVals (hcalm : X.calm = true) : CallR X (.type "list") rListVals := by
  intro pins s σ H xs us Q I r q
  obtain ⟨p, a, kvs, rfl, hp, hd, q⟩ := q
  obtain ⟨u, rfl, rx⟩ := vals1 r
  cases rx
  obtain ⟨z, lo, vs, rel, dd⟩ := dk_rd I.hok hd
  obtain ⟨ep, hat⟩ := dd.dictAt
  have hv : s.heap.IsValuesView p a := (I.hok p _ hp).1
  refine PySem.W.kdl_call (PySem.W.kdl_values (knd := mixKind X.prog X.w) (kvs := vs) (ep := ep)) (I.ok.hd hcalm) ⟨hv, hat⟩ (by rw [← rel.length]; exact z) fun h' tk acc c' hk hD hacc => ?_
  have ev : acc.toList = vs.map (·.2) := PySem.W.kdl_vals_eq acc.toList (by rw [Array.length_toList]; exact hacc.1) fun j v e => hacc.2 j v (by rw [← Array.getElem?_toList]; exact e)
  refine ⟨.ref s.heap.objs.size, upd H s.heap.objs.size (.lst (kvs.map (·.2))), I.laid (t' := tk) hk (Nat.le_refl _)
    (show ObjOk X.prog X.w _ _ _ (.lst (kvs.map (·.2))) from ⟨by rw [List.length_map]; exact z, acc.toList, c', by rw [ev]; exact kv_vals rel, by rw [Array.toArray_toList]; exact hD⟩), rfl, q _ (I.hok.fresh (Nat.le_refl _))⟩
/-- d.get(y, x), y may be None (d's keys ints and texts then) -/
theorem d_getNone {pins : List (Addr × Obj)} {σ : L2.St} {H : Hp} {s : Shared} {a : Addr} {kvs : List (Key × V)} {A : Around} {E Q : Value → Shared → Prop} {r : Value} (I : Inv X pins σ H s) (e : Rd H a (.dK kvs)) (h : ∀ s', Inv X pins σ H s' → Q r s') :
    wpAny (model X.prog X.w) A (call (.builtin "dict.get") [.ref a, .none, r]) Q E s := by
  obtain ⟨_, hd, vs, _, dd⟩ := dk_rd I.hok e
  obtain ⟨f, hm, hf⟩ := none_map dd
  refine call_meetsIn PySem.F.slot_dict_get dd.typeIs PySem.F.entry_dict_get (PySem.F.args_dict_get_3 _ _ _) (meets_dict_get_default (noneKind X.prog X.w) a (k := none) rfl hd r) ⟨_, hm, ?_⟩
  rw [hf]
  exact h _ (I.tok _)
def tDGet2N (td ty tx : TE) : TE := fun σ H Q => td σ H fun x H1 => ∃ a, x = .ref a ∧ IsD H1 a ∧ ty σ H1 fun y H2 => tx σ H2 fun z H3 => (∃ o, DGet H3 a y o ∧ Q (o.getD z) H3) ∨ ∃ kvs, y = .non ∧ Rd H3 a (.dK kvs) ∧ Q z H3
theorem pe_dget2N {o e f : Expr} {apos cpos : Pos} {td ty tx : TE} (hu : X.A.units + 1 < cLine) (ho : PE X o td) (he : PE X e ty) (hf : PE X f tx) (m : M2 X o "get" apos e f cpos) : PE X (.Call (.Attribute o "get" apos) [e, f] [] cpos) (tDGet2N td ty tx) := by
  refine ⟨fun pins s σ H Q I h => ?_⟩
  refine wpAny_Call_method m.base m.few m.line PySem.F.plainAttrs_dict PySem.F.slot_dict_get PySem.F.type_dict_get (thn (ho.run pins s σ H _ I h) fun u s1 ⟨x, H1, I1, rx, a, ex, d, q1⟩ => ?_)
  subst ex
  obtain rfl : u = Value.ref a := rx
  obtain ⟨t1, t2, _⟩ := isD_at I1 d
  refine ⟨t1, t2, ?_⟩
  rw [m.trees]
  refine Calls.callWith_builtin rfl (Calls.evalArgs_plain (Calls.spliced_cons (thn (he.run pins s1 σ H1 _ I1 q1) fun iv s2 ⟨y, H2, I2, ry, q2⟩ =>
    Calls.spliced_cons (thn (hf.run pins s2 σ H2 _ I2 q2) fun fv s3 ⟨z, H3, I3, rz, q3⟩ => Calls.spliced_nil ?_))))
  rcases q3 with ⟨ov, g, q3⟩ | ⟨kvs, rfl, g, q3⟩
  · exact d_get2 hu I3 g ry rz fun w' s4 I4 rw' => ⟨_, H3, I4, rw', q3⟩
  · obtain rfl : iv = Value.none := ry
    exact d_getNone I3 g fun s4 I4 => ⟨_, H3, I4, rz, q3⟩
end
/-- texts in order, by their code points -/
def leS (a b : Str) : Prop := ltCps b.cps.toList a.cps.toList = false
theorem leS_iff {a b : Str} : leS a b ↔ ¬ b.cps.toList < a.cps.toList := by
  unfold leS
  rw [PyProof.Rows.ltCps_eq]
  exact decide_eq_false_iff_not
theorem leS_anti {a b : Str} (h1 : leS a b) (h2 : leS b a) : a = b := by
  rw [leS_iff] at h1 h2
  have e : a.cps.toList = b.cps.toList := List.le_antisymm (List.not_lt.mp h1) (List.not_lt.mp h2)
  cases a with
  | mk x =>
    cases b with
    | mk y => exact congrArg Str.mk (Array.toList_inj.mp e)
theorem leS_trans {a b c : Str} (h1 : leS a b) (h2 : leS b c) : leS a c := by
  rw [leS_iff] at *
  exact List.not_lt.mpr (List.le_trans (List.not_lt.mp h1) (List.not_lt.mp h2))
theorem rising_pw : ∀ (l : List Str) (p : Str), risingS p l = true → (p :: l).Pairwise leS
  | [], p, _ => List.pairwise_cons.mpr ⟨fun _ h => absurd h List.not_mem_nil, .nil⟩
  | x :: r, p, h => by
    obtain ⟨h1, h2⟩ := Bool.and_eq_true_iff.mp h
    have ih := rising_pw r x h2
    have hpx : leS p x := by
      unfold leS
      revert h1
      cases ltCps x.cps.toList p.cps.toList with
      | true => intro h; cases h
      | false => intro _; rfl
    refine List.pairwise_cons.mpr ⟨fun y hy => ?_, ih⟩
    rcases List.mem_cons.mp hy with rfl | hy
    · exact hpx
    · exact leS_trans hpx ((List.pairwise_cons.mp ih).1 y hy)
theorem sorted_pw : ∀ {l : List Str}, sortedS l = true → l.Pairwise leS
  | [], _ => .nil
  | x :: r, h => rising_pw r x h
theorem pw_uniq {α : Type} {le : α → α → Prop} (anti : ∀ a b, le a b → le b a → a = b) : ∀ {l m : List α}, l.Pairwise le → m.Pairwise le → l.Perm m → l = m
  | [], m, _, _, p => (List.nil_perm.mp p).symm
  | x :: r, [], _, _, p => absurd p.length_eq (by simp)
  | x :: r, y :: t, h1, h2, p => by
    obtain ⟨a1, b1⟩ := List.pairwise_cons.mp h1
    obtain ⟨a2, b2⟩ := List.pairwise_cons.mp h2
    have e : x = y := by
      have hx : x ∈ y :: t := p.subset List.mem_cons_self
      have hy : y ∈ x :: r := p.symm.subset List.mem_cons_self
      rcases List.mem_cons.mp hx with e | hx
      · exact e
      · rcases List.mem_cons.mp hy with e | hy
        · exact e.symm
        · exact anti _ _ (a1 y hy) (a2 x hx)
    subst e
    rw [pw_uniq anti b1 b2 (List.Perm.cons_inv p)]
theorem sortedS_uniq {l m : List Str} (h1 : sortedS l = true) (h2 : sortedS m = true) (p : l.Perm m) : l = m := pw_uniq (fun _ _ => leS_anti) (sorted_pw h1) (sorted_pw h2) p
/-! ### dicts whose keys are ints and texts: read as data or in a slot of their own, changed in place -/
noncomputable def valK (kvs : List (Key × D)) (k : Key) : Option D := (kvs.find? fun p => decide (p.1 = k)).map (·.2)
noncomputable def putKD (kvs : List (Key × D)) (k : Key) (e : D) : List (Key × D) :=
  if (kvs.any fun p => decide (p.1 = k)) = true then kvs.map (fun p => if p.1 = k then (p.1, e) else p) else kvs ++ [(k, e)]
/-- a value that is such a dict, in a slot -/
def dkS (x : Option (Option S)) (f : List (Key × D) → Prop) : Prop := match x with
  | some (some (.fr (.dik ks ds))) => f (ks.zip ds)
  | some (some (.ow _ (.dk kvs))) => f kvs
  | _ => False
def hasS (x : Option (Option S)) (P : Prop) : Prop := match x with
  | some (some _) => P
  | _ => False
theorem hasS_of {x : Option (Option S)} {P : Prop} (h : hasS x P) : (∃ y, x = some (some y)) ∧ P := by
  unfold hasS at h
  split at h
  · exact ⟨⟨_, rfl⟩, h⟩
  · exact h.elim
def withK (d : D) (f : Key → Prop) : Prop := match keyD d with
  | some k => f k
  | none => False
section
variable {K : PySem.W.Frag} {Ξ : XI} {F H : Hp}
theorem key_rp {d : D} {k : Key} {v : V} (e : keyD d = some k) (h : Rp K F d v) : v = kV k := by
  cases d <;> first | (cases e; done) | (cases e; exact h)
theorem withK_of {d : D} {f : Key → Prop} {v : V} (h : withK d f) (r : Rp K F d v) : ∃ k, v = kV k ∧ f k := by
  unfold withK at h
  split at h
  · rename_i k e
    exact ⟨k, key_rp e r, h⟩
  · exact h.elim
theorem PrK.val {kvs : List (Key × D)} {ws : List (Key × V)} (h : PrK K F kvs ws) (k : Key) : (∃ e v, valK kvs k = some e ∧ valV ws k = some v ∧ Rp K F e v) ∨ (valK kvs k = none ∧ valV ws k = none) := by
  induction h with
  | nil => exact .inr ⟨rfl, rfl⟩
  | @cons p q ps qs h t ih =>
    by_cases e : p.1 = k
    · exact .inl ⟨p.2, q.2, by simp [valK, List.find?_cons, e], valV_pos (h.1.symm.trans e), h.2⟩
    · rw [valV_neg fun z => e (h.1.trans z), show valK (p :: ps) k = valK ps k by simp [valK, List.find?_cons, e]]
      exact ih
theorem PrK.anyK {kvs : List (Key × D)} {ws : List (Key × V)} (h : PrK K F kvs ws) (k : Key) : (kvs.any fun p => decide (p.1 = k)) = (ws.any fun p => decide (p.1 = k)) := by
  induction h with
  | nil => rfl
  | @cons p q ps qs h t ih => rw [List.any_cons, List.any_cons, ih, h.1]
theorem PrK.replK {kvs : List (Key × D)} {ws : List (Key × V)} (h : PrK K F kvs ws) {k : Key} {e : D} {v : V} (he : Rp K F e v) :
    PrK K F (kvs.map fun p => if p.1 = k then (p.1, e) else p) (ws.map fun p => if p.1 = k then (p.1, v) else p) := by
  induction h with
  | nil => exact .nil
  | @cons p q ps qs h t ih =>
    rw [List.map_cons, List.map_cons]
    refine .cons ?_ ih
    by_cases z : p.1 = k
    · rw [if_pos z, if_pos (h.1.symm.trans z)]
      exact ⟨h.1, he⟩
    · rw [if_neg z, if_neg (fun y => z (h.1.trans y))]
      exact h
theorem PrK.putK {kvs : List (Key × D)} {ws : List (Key × V)} (h : PrK K F kvs ws) {k : Key} {e : D} {v : V} (he : Rp K F e v) : PrK K F (putKD kvs k e) (L2.putK ws k v) := by
  unfold putKD L2.putK
  rw [h.anyK k]
  split
  · exact h.replK he
  · exact Paired.snoc h ⟨rfl, he⟩
theorem prk_zip : ∀ {ks : List Key} {ds : List D} {ws : List (Key × V)}, ks = ws.map (·.1) → RpA K F ds (ws.map (·.2)) → PrK K F (ks.zip ds) ws
  | _, _, [], rfl, h => by
    have := RpA.len h
    rw [List.map_nil, List.length_nil] at this
    cases List.length_eq_zero_iff.mp this
    exact .nil
  | _, [], p :: ws, rfl, h => by
    have := RpA.len h
    simp at this
  | _, d :: ds, p :: ws, rfl, h => by
    obtain ⟨v, us, e, h1, h2⟩ := h
    cases e
    exact .cons ⟨rfl, h1⟩ (prk_zip rfl h2)
theorem prk_len {kvs : List (Key × D)} {ws : List (Key × V)} (h : PrK K F kvs ws) : kvs.length = ws.length := Paired.length h
theorem dik_rd {ks : List Key} {ds : List D} {v : V} (hs : Same F H) (h : Rp K F (.dik ks ds) v) : ∃ a ws, v = .ref a ∧ Rd H a (.dK ws) ∧ PrK K F (ks.zip ds) ws := by
  obtain ⟨a, ws, rfl, h1, h2, h3⟩ := h
  exact ⟨a, ws, rfl, rd_same hs h1, prk_zip h2 h3⟩
theorem dkS_run {i : Nat} {F H : Hp} {ω : Om} {s : Sl} {σ : L2.St} {f : List (Key × D) → Prop} (T : Sta K Ξ F H ω s σ) (h : dkS s[i]? f) :
    ∃ l kvs ws, σ[i]? = some (some (.ref l)) ∧ Rd H l (.dK ws) ∧ PrK K F kvs ws ∧ f kvs := by
  unfold dkS at h
  split at h
  · rename_i ks ds e
    obtain ⟨v, hv, r⟩ := T.at' i _ e
    obtain ⟨a, ws, rfl, h1, h2⟩ := dik_rd T.sf r
    exact ⟨a, _, ws, hv, h1, h2, h⟩
  · rename_i b kvs e
    obtain ⟨v, hv, l, A, rfl, hl, _, _, ws, h1, h2⟩ := T.at' i _ e
    exact ⟨l, kvs, ws, hv, .inl h1, h2, h⟩
  · exact h.elim
theorem dgetK {H : Hp} {a : Addr} {ws : List (Key × V)} {k : Key} (e : Rd H a (.dK ws)) : DGet H a (kV k) (valV ws k) := .inl ⟨ws, k, e, rfl, rfl⟩
/-! {} -/
instance : LiftE K Ξ tDNewK (fun s q => q (.ow false (.dk [])) s) := ⟨fun {F H ω s σ Q} q T h k p hp => by
  have e := Ext.ow T.sf hp (.dK [])
  obtain ⟨p2, T2⟩ := e.stp T
  exact k (.ref p) F _ ω (.ow false (.dk [])) s p2 T2 ⟨p, [p], rfl, fun a ha => by cases List.mem_singleton.mp ha; exact ⟨hp, Sta.free T.base hp, T.sf.free hp⟩, rfl, [], upd_same, .nil⟩ h⟩
/-! d[k] -/
def getS (o : Option D) (q : S → Prop) : Prop := match o with
  | some e => q (.fr e)
  | none => False
theorem getS_of {o : Option D} {q : S → Prop} (h : getS o q) : ∃ e, o = some e ∧ q (.fr e) := by
  cases o with
  | none => exact h.elim
  | some e => exact ⟨e, rfl, h⟩
def dkD (d : D) (f : List (Key × D) → Prop) : Prop := match d with
  | .dik ks ds => f (ks.zip ds)
  | _ => False
theorem dkD_of {d : D} {f : List (Key × D) → Prop} {v : V} (hs : Same F H) (h : dkD d f) (r : Rp K F d v) : ∃ a kvs ws, v = .ref a ∧ Rd H a (.dK ws) ∧ PrK K F kvs ws ∧ f kvs := by
  unfold dkD at h
  split at h
  · obtain ⟨a, ws, e, h1, h2⟩ := dik_rd hs r
    exact ⟨a, _, ws, e, h1, h2, h⟩
  · exact h.elim
def pDGetD (p pi : PD) : PX := fun s q => p s fun d s1 => pi s1 fun k s2 => dkD d fun kvs => withK k fun k => getS (valK kvs k) fun z => q z s2
instance {t ti : TE} {p pi : PD} [LiftD K Ξ t p] [LiftD K Ξ ti pi] : LiftE K Ξ (tDGet t ti) (pDGetD p pi) := ⟨fun {F H ω s σ Q} q T h k => by
  refine LiftD.run (K := K) (t := t) (p := p) _ T h fun v F1 H1 ω1 d s1 p1 T1 r1 h1 => ?_
  refine LiftD.run (K := K) (t := ti) (p := pi) _ T1 h1 fun y F2 H2 ω2 d2 s2 p2 T2 r2 h2 => ?_
  obtain ⟨a, kvs, ws, rfl, hr, hp, h3⟩ := dkD_of T2.sf h2 (r1.mono p2.sf)
  obtain ⟨κ, rfl, h4⟩ := withK_of h3 r2
  obtain ⟨e, ev, h5⟩ := getS_of h4
  rcases hp.val κ with ⟨e', v', z1, z2, z3⟩ | ⟨z1, _⟩
  · rw [ev] at z1
    cases z1
    exact ⟨a, v', rfl, z2 ▸ dgetK hr, k v' F2 H2 ω2 (.fr e) s2 (p1.trans p2) T2 z3 h5⟩
  · rw [ev] at z1
    cases z1⟩
def pDGetV (i : Nat) (pi : PD) : PX := fun s q => hasS s[i]? (pi s fun k s2 => dkS s2[i]? fun kvs => withK k fun k => getS (valK kvs k) fun z => q z s2)
instance (priority := high) {i : Nat} {ti : TE} {pi : PD} [LiftD K Ξ ti pi] : LiftE K Ξ (tDGet (tVar i) ti) (pDGetV i pi) := ⟨fun {F H ω s σ Q} q T h k => by
  obtain ⟨⟨x, ex⟩, h⟩ := hasS_of h
  obtain ⟨v0, hv0, _⟩ := T.at' i x ex
  refine ⟨v0, hv0, LiftD.run (K := K) (t := ti) (p := pi) _ T h fun y F2 H2 ω2 d2 s2 p2 T2 r2 h2 => ?_⟩
  obtain ⟨l, kvs, ws, hv, hr, hp, h3⟩ := dkS_run T2 h2
  rw [hv0] at hv
  cases hv
  obtain ⟨κ, rfl, h4⟩ := withK_of h3 r2
  obtain ⟨e, ev, h5⟩ := getS_of h4
  rcases hp.val κ with ⟨e', v', z1, z2, z3⟩ | ⟨z1, _⟩
  · rw [ev] at z1
    cases z1
    exact ⟨l, v', rfl, z2 ▸ dgetK hr, k v' F2 H2 ω2 (.fr e) s2 p2 T2 z3 h5⟩
  · rw [ev] at z1
    cases z1⟩
/-! k in d -/
def pDIn (f : Bool → Bool) (pi p : PD) : PX := fun s q => pi s fun k s1 => p s1 fun d s2 => dkD d fun kvs => withK k fun k => q (.fr (.bl (f (valK kvs k).isSome))) s2
def pDInV (f : Bool → Bool) (i : Nat) (pi : PD) : PX := fun s q => pi s fun k s2 => dkS s2[i]? fun kvs => withK k fun k => q (.fr (.bl (f (valK kvs k).isSome))) s2
theorem valK_some {kvs : List (Key × D)} {ws : List (Key × V)} (h : PrK K F kvs ws) (k : Key) : (valV ws k).isSome = (valK kvs k).isSome := by
  rcases h.val k with ⟨e, v, z1, z2, _⟩ | ⟨z1, z2⟩
  · rw [z1, z2]; rfl
  · rw [z1, z2]; rfl
instance {t ti : TE} {p pi : PD} [LiftD K Ξ t p] [LiftD K Ξ ti pi] : LiftE K Ξ (tDIn ti t) (pDIn id pi p) := ⟨fun {F H ω s σ Q} q T h k => by
  refine LiftD.run (K := K) (t := ti) (p := pi) _ T h fun y F1 H1 ω1 d1 s1 p1 T1 r1 h1 => ?_
  refine LiftD.run (K := K) (t := t) (p := p) _ T1 h1 fun v F2 H2 ω2 d2 s2 p2 T2 r2 h2 => ?_
  obtain ⟨a, kvs, ws, rfl, hr, hp, h3⟩ := dkD_of T2.sf h2 r2
  obtain ⟨κ, rfl, h4⟩ := withK_of h3 r1
  refine ⟨a, _, rfl, dgetK hr, ?_⟩
  rw [valK_some hp κ]
  exact k _ F2 H2 ω2 (.fr (.bl _)) s2 (p1.trans p2) T2 rfl h4⟩
instance {t ti : TE} {p pi : PD} [LiftD K Ξ t p] [LiftD K Ξ ti pi] : LiftE K Ξ (tDNotIn ti t) (pDIn not pi p) := ⟨fun {F H ω s σ Q} q T h k => by
  refine LiftD.run (K := K) (t := ti) (p := pi) _ T h fun y F1 H1 ω1 d1 s1 p1 T1 r1 h1 => ?_
  refine LiftD.run (K := K) (t := t) (p := p) _ T1 h1 fun v F2 H2 ω2 d2 s2 p2 T2 r2 h2 => ?_
  obtain ⟨a, kvs, ws, rfl, hr, hp, h3⟩ := dkD_of T2.sf h2 r2
  obtain ⟨κ, rfl, h4⟩ := withK_of h3 r1
  refine ⟨a, _, rfl, dgetK hr, ?_⟩
  rw [valK_some hp κ]
  exact k _ F2 H2 ω2 (.fr (.bl _)) s2 (p1.trans p2) T2 rfl h4⟩
instance (priority := high) {i : Nat} {ti : TE} {pi : PD} [LiftD K Ξ ti pi] : LiftE K Ξ (tDIn ti (tVar i)) (pDInV id i pi) := ⟨fun {F H ω s σ Q} q T h k => by
  refine LiftD.run (K := K) (t := ti) (p := pi) _ T h fun y F2 H2 ω2 d2 s2 p2 T2 r2 h2 => ?_
  obtain ⟨l, kvs, ws, hv, hr, hp, h3⟩ := dkS_run T2 h2
  obtain ⟨κ, rfl, h4⟩ := withK_of h3 r2
  refine ⟨_, hv, l, _, rfl, dgetK hr, ?_⟩
  rw [valK_some hp κ]
  exact k _ F2 H2 ω2 (.fr (.bl _)) s2 p2 T2 rfl h4⟩
instance (priority := high) {i : Nat} {ti : TE} {pi : PD} [LiftD K Ξ ti pi] : LiftE K Ξ (tDNotIn ti (tVar i)) (pDInV not i pi) := ⟨fun {F H ω s σ Q} q T h k => by
  refine LiftD.run (K := K) (t := ti) (p := pi) _ T h fun y F2 H2 ω2 d2 s2 p2 T2 r2 h2 => ?_
  obtain ⟨l, kvs, ws, hv, hr, hp, h3⟩ := dkS_run T2 h2
  obtain ⟨κ, rfl, h4⟩ := withK_of h3 r2
  refine ⟨_, hv, l, _, rfl, dgetK hr, ?_⟩
  rw [valK_some hp κ]
  exact k _ F2 H2 ω2 (.fr (.bl _)) s2 p2 T2 rfl h4⟩
/-! d.get(k, x), k may be None; d.get(k) -/
def getN (kvs : List (Key × D)) (k x : D) (q : D → Prop) : Prop := match keyD k with
  | some κ => q ((valK kvs κ).getD x)
  | none => match k with
    | .non => q x
    | _ => False
theorem getN_run {F H : Hp} {kvs : List (Key × D)} {ws : List (Key × V)} {a : Addr} {d e : D} {y z : V} {q : D → Prop} {Q : V → Prop} (hr : Rd H a (.dK ws)) (hp : PrK K F kvs ws) (r2 : Rp K F d y) (r3 : Rp K F e z) (h : getN kvs d e q) (k : ∀ v f, Rp K F f v → q f → Q v) :
    (∃ o, DGet H a y o ∧ Q (o.getD z)) ∨ ∃ kvs, y = .non ∧ Rd H a (.dK kvs) ∧ Q z := by
  unfold getN at h
  split at h
  · rename_i κ ek
    cases key_rp ek r2
    refine .inl ⟨_, dgetK hr, ?_⟩
    rcases hp.val κ with ⟨e', v', z1, z2, z3⟩ | ⟨z1, z2⟩
    · rw [z1] at h
      rw [z2]
      exact k v' e' z3 h
    · rw [z1] at h
      rw [z2]
      exact k z e r3 h
  · split at h
    · exact .inr ⟨ws, r2, hr, k z e r3 h⟩
    · exact h.elim
def pDGet2D (p pi px : PD) : PX := fun s q => p s fun d s1 => dkD d fun _ => pi s1 fun k s2 => px s2 fun x s3 => dkD d fun kvs => getN kvs k x fun z => q (.fr z) s3
instance {t ti tx : TE} {p pi px : PD} [LiftD K Ξ t p] [LiftD K Ξ ti pi] [LiftD K Ξ tx px] : LiftE K Ξ (tDGet2N t ti tx) (pDGet2D p pi px) := ⟨fun {F H ω s σ Q} q T h k => by
  refine LiftD.run (K := K) (t := t) (p := p) _ T h fun v F1 H1 ω1 d s1 p1 T1 r1 h1 => ?_
  obtain ⟨a, _, ws, rfl, hr, _, h1⟩ := dkD_of T1.sf h1 r1
  refine ⟨a, rfl, .inl ⟨_, hr⟩, ?_⟩
  refine LiftD.run (K := K) (t := ti) (p := pi) _ T1 h1 fun y F2 H2 ω2 d2 s2 p2 T2 r2 h2 => ?_
  refine LiftD.run (K := K) (t := tx) (p := px) _ T2 h2 fun z F3 H3 ω3 e s3 p3 T3 r3 h3 => ?_
  obtain ⟨a', kvs, ws', e', hr', hp', h4⟩ := dkD_of T3.sf h3 ((r1.mono p2.sf).mono p3.sf)
  cases e'
  exact getN_run hr' hp' (r2.mono p3.sf) r3 h4 fun v f r hq => k v F3 H3 ω3 (.fr f) s3 ((p1.trans p2).trans p3) T3 r hq⟩
def pDGet2V (i : Nat) (pi px : PD) : PX := fun s q => dkS s[i]? fun _ => pi s fun k s2 => px s2 fun x s3 => dkS s3[i]? fun kvs => getN kvs k x fun z => q (.fr z) s3
instance (priority := high) {i : Nat} {ti tx : TE} {pi px : PD} [LiftD K Ξ ti pi] [LiftD K Ξ tx px] : LiftE K Ξ (tDGet2N (tVar i) ti tx) (pDGet2V i pi px) := ⟨fun {F H ω s σ Q} q T h k => by
  obtain ⟨a, _, ws, hv, hr, _, h1⟩ := dkS_run T h
  refine ⟨_, hv, a, rfl, .inl ⟨_, hr⟩, ?_⟩
  refine LiftD.run (K := K) (t := ti) (p := pi) _ T h1 fun y F2 H2 ω2 d2 s2 p2 T2 r2 h2 => ?_
  refine LiftD.run (K := K) (t := tx) (p := px) _ T2 h2 fun z F3 H3 ω3 e s3 p3 T3 r3 h3 => ?_
  obtain ⟨a', kvs, ws', hv', hr', hp', h4⟩ := dkS_run T3 h3
  rw [hv] at hv'
  cases hv'
  exact getN_run hr' hp' (r2.mono p3.sf) r3 h4 fun v f r hq => k v F3 H3 ω3 (.fr f) s3 (p2.trans p3) T3 r hq⟩
def pDGet1D (p pi : PD) : PX := fun s q => p s fun d s1 => dkD d fun _ => pi s1 fun k s2 => dkD d fun kvs => withK k fun k => q (.fr ((valK kvs k).getD .non)) s2
instance {t ti : TE} {p pi : PD} [LiftD K Ξ t p] [LiftD K Ξ ti pi] : LiftE K Ξ (tDGet1 t ti) (pDGet1D p pi) := ⟨fun {F H ω s σ Q} q T h k => by
  refine LiftD.run (K := K) (t := t) (p := p) _ T h fun v F1 H1 ω1 d s1 p1 T1 r1 h1 => ?_
  obtain ⟨a, _, ws, rfl, hr, _, h1⟩ := dkD_of T1.sf h1 r1
  refine ⟨a, rfl, .inl ⟨_, hr⟩, ?_⟩
  refine LiftD.run (K := K) (t := ti) (p := pi) _ T1 h1 fun y F2 H2 ω2 d2 s2 p2 T2 r2 h2 => ?_
  obtain ⟨a', kvs, ws', e', hr', hp', h3⟩ := dkD_of T2.sf h2 (r1.mono p2.sf)
  cases e'
  obtain ⟨κ, rfl, h4⟩ := withK_of h3 r2
  refine ⟨_, dgetK hr', ?_⟩
  rcases hp'.val κ with ⟨e', v', z1, z2, z3⟩ | ⟨z1, z2⟩
  · rw [z1] at h4
    rw [z2]
    exact k v' F2 H2 ω2 (.fr e') s2 (p1.trans p2) T2 z3 h4
  · rw [z1] at h4
    rw [z2]
    exact k .non F2 H2 ω2 (.fr .non) s2 (p1.trans p2) T2 rfl h4⟩
def pDGet1V (i : Nat) (pi : PD) : PX := fun s q => dkS s[i]? fun _ => pi s fun k s2 => dkS s2[i]? fun kvs => withK k fun k => q (.fr ((valK kvs k).getD .non)) s2
instance (priority := high) {i : Nat} {ti : TE} {pi : PD} [LiftD K Ξ ti pi] : LiftE K Ξ (tDGet1 (tVar i) ti) (pDGet1V i pi) := ⟨fun {F H ω s σ Q} q T h k => by
  obtain ⟨a, _, ws, hv, hr, _, h1⟩ := dkS_run T h
  refine ⟨_, hv, a, rfl, .inl ⟨_, hr⟩, ?_⟩
  refine LiftD.run (K := K) (t := ti) (p := pi) _ T h1 fun y F2 H2 ω2 d2 s2 p2 T2 r2 h2 => ?_
  obtain ⟨a', kvs, ws', hv', hr', hp', h3⟩ := dkS_run T2 h2
  rw [hv] at hv'
  cases hv'
  obtain ⟨κ, rfl, h4⟩ := withK_of h3 r2
  refine ⟨_, dgetK hr', ?_⟩
  rcases hp'.val κ with ⟨e', v', z1, z2, z3⟩ | ⟨z1, z2⟩
  · rw [z1] at h4
    rw [z2]
    exact k v' F2 H2 ω2 (.fr e') s2 p2 T2 z3 h4
  · rw [z1] at h4
    rw [z2]
    exact k .non F2 H2 ω2 (.fr .non) s2 p2 T2 rfl h4⟩
/-! d[k] = v, d[k] op= v -/
def dkOw (x : Option (Option S)) (f : Bool → List (Key × D) → Prop) : Prop := match x with
  | some (some (.ow b (.dk kvs))) => f b kvs
  | _ => False
theorem dkOw_run {i : Nat} {F H : Hp} {ω : Om} {s : Sl} {σ : L2.St} {f : Bool → List (Key × D) → Prop} (T : Sta K Ξ F H ω s σ) (h : dkOw s[i]? f) :
    ∃ l b kvs ws, s[i]? = some (some (.ow b (.dk kvs))) ∧ σ[i]? = some (some (.ref l)) ∧ ω l = some (i, tgR b) ∧ H l = some (.dK ws) ∧ PrK K F kvs ws ∧ f b kvs := by
  unfold dkOw at h
  split at h
  · rename_i b kvs e
    obtain ⟨v, hv, l, A, rfl, hl, _, _, ws, h1, h2⟩ := T.at' i _ e
    exact ⟨l, b, kvs, ws, e, hv, hl, h1, h2, h⟩
  · exact h.elim
theorem dk_mut {i : Nat} {F H : Hp} {ω : Om} {s : Sl} {σ : L2.St} {b : Bool} {kvs : List (Key × D)} {l : Addr} {ws : List (Key × V)} (T : Sta K Ξ F H ω s σ) (hv : σ[i]? = some (some (.ref l))) (hl : ω l = some (i, tgR b)) (r : PrK K F kvs ws) :
    ∃ ω', Stp F H ω F (upd H l (.dK ws)) ω' ∧ Sta K Ξ F (upd H l (.dK ws)) ω' (s.set i (some (.ow b (.dk kvs)))) σ := T.mut hv hl ⟨rfl, ws, upd_same, r⟩
def psDPutV (i : Nat) (pi pv : PD) : PS1 := fun E s => pv s fun e s1 => hasS s1[i]? (pi s1 fun d s2 => dkOw s2[i]? fun b kvs => withK d fun k => kvs.length < 100000 ∧ E.nx (s2.set i (some (.ow b (.dk (putKD kvs k e))))))
instance {i : Nat} {ti tv : TE} {pi pv : PD} [LiftD K Ξ ti pi] [LiftD K Ξ tv pv] : LiftS K Ξ (sDPut (tVar i) ti tv) (psDPutV i pi pv) := ⟨fun {H0 F H ω s σ D} E T h M => by
  refine LiftD.run (K := K) (t := tv) (p := pv) _ T h fun v F1 H1 ω1 e s1 p1 T1 r1 h1 => ?_
  obtain ⟨⟨x, ex⟩, h1⟩ := hasS_of h1
  obtain ⟨v0, hv0, _⟩ := T1.at' i x ex
  refine ⟨v0, hv0, LiftD.run (K := K) (t := ti) (p := pi) _ T1 h1 fun y F2 H2 ω2 d s2 p2 T2 r2 h2 => ?_⟩
  obtain ⟨l, b, kvs, ws, _, hv, hw, hh, hp, h3⟩ := dkOw_run T2 h2
  rw [hv0] at hv
  cases hv
  obtain ⟨κ, rfl, hl, hq⟩ := withK_of h3 r2
  obtain ⟨ω3, p3, T3⟩ := dk_mut T2 hv0 hw (hp.putK (k := κ) (r1.mono p2.sf))
  exact ⟨l, _, rfl, DPut.k hh (by rw [← prk_len hp]; exact Nat.lt_trans hl (by decide)), M.nx ((p1.trans p2).trans p3) T3 hq⟩⟩
def psDAugV (i : Nat) (pi pv : PD) (f : Int → Int → Int) : PS1 := fun E s => hasS s[i]? (pi s fun d s2 => dkS s2[i]? fun kvs => withK d fun k => getS (valK kvs k) fun z => pv s2 fun e s3 => match z, e with
  | .fr (.int a), .int c => dkOw s3[i]? fun b kvs => kvs.length < 100000 ∧ E.nx (s3.set i (some (.ow b (.dk (putKD kvs k (.int (f a c)))))))
  | _, _ => False)
instance {i : Nat} {ti tv : TE} {pi pv : PD} {f : Int → Int → Int} [LiftD K Ξ ti pi] [LiftD K Ξ tv pv] : LiftS K Ξ (sDAug (tVar i) ti tv (rI0 fun a c => .int (f a c))) (psDAugV i pi pv f) := ⟨fun {H0 F H ω s σ D} E T h M => by
  obtain ⟨⟨x, ex⟩, h⟩ := hasS_of h
  obtain ⟨v0, hv0, _⟩ := T.at' i x ex
  refine ⟨v0, hv0, LiftD.run (K := K) (t := ti) (p := pi) _ T h fun y F2 H2 ω2 d s2 p2 T2 r2 h2 => ?_⟩
  obtain ⟨l, kvs, ws, hv, hr, hp, h3⟩ := dkS_run T2 h2
  rw [hv0] at hv
  cases hv
  obtain ⟨κ, rfl, h4⟩ := withK_of h3 r2
  obtain ⟨e, ev, h5⟩ := getS_of h4
  rcases hp.val κ with ⟨e', v', z1, z2, z3⟩ | ⟨z1, _⟩
  · rw [ev] at z1
    cases z1
    refine ⟨l, v', rfl, z2 ▸ dgetK hr, LiftD.run (K := K) (t := tv) (p := pv) _ T2 h5 fun v F3 H3 ω3 e3 s3 p3 T3 r3 h6 => ?_⟩
    split at h6
    · rename_i z e3 a c ez
      cases ez
      obtain ⟨l', b, kvs', ws', _, hv', hw, hh, hp', hl, hq⟩ := dkOw_run T3 h6
      rw [hv0] at hv'
      cases hv'
      cases (show v' = V.int a from z3)
      cases (show v = V.int c from r3)
      obtain ⟨ω4, p4, T4⟩ := dk_mut T3 hv0 hw (hp'.putK (k := κ) (e := .int (f a c)) (v := .int (f a c)) rfl)
      exact ⟨a, c, rfl, rfl, _, DPut.k hh (by rw [← prk_len hp']; exact Nat.lt_trans hl (by decide)), M.nx ((p2.trans p3).trans p4) T4 hq⟩
    · exact h6.elim
  · rw [ev] at z1
    cases z1⟩
/-! dict(d), list(d), len(d) -/
theorem prk_dk {F H : Hp} {ω : Om} {s : Sl} {σ : L2.St} {kvs : List (Key × D)} {ws : List (Key × V)} {Q : VK} {q : S → Sl → Prop} (T : Sta K Ξ F H ω s σ) (hp : PrK K F kvs ws) (h : q (.ow false (.dk kvs)) s)
    (k : ∀ (v : V) (F' H' : Hp) (ω' : Om) (x : S) (s' : Sl), Stp F H ω F' H' ω' → Sta K Ξ F' H' ω' s' σ → Rt K H F' H' ω' x v → q x s' → Q v H') : ∀ p, H p = none → Q (.ref p) (upd H p (.dK ws)) := fun p hp' => by
  have e := Ext.ow T.sf hp' (.dK ws)
  obtain ⟨p2, T2⟩ := e.stp T
  exact k (.ref p) F _ ω (.ow false (.dk kvs)) s p2 T2 ⟨p, [p], rfl, fun a ha => by cases List.mem_singleton.mp ha; exact ⟨hp', Sta.free T.base hp', T.sf.free hp'⟩, rfl, ws, upd_same, hp⟩ h
def rDictD : List V → Hp → VK → Prop := fun xs H Q => ∃ (a : Addr) (kvs : List (Key × V)), xs = [.ref a] ∧ Rd H a (.dK kvs) ∧ ∀ p, H p = none → Q (.ref p) (upd H p (.dK kvs))
def gDictOf : List D → (S → Prop) → Prop := fun ds q => match ds with
  | [.dik ks es] => q (.ow false (.dk (ks.zip es)))
  | _ => False
instance : CaL K (fun xs H Q => ∃ (a : Addr) (kvs : List (Key × V)), xs = [.ref a] ∧ Rd H a (.dK kvs) ∧ ∀ p, H p = none → Q (.ref p) (upd H p (.dK kvs))) gDictOf := ⟨fun {F H vs ds Q} q hs r h k => by
  unfold gDictOf at h
  split at h
  · obtain ⟨v, rfl, h1⟩ := r.one
    obtain ⟨a, ws, rfl, h2, h3⟩ := dik_rd hs h1
    refine ⟨a, ws, rfl, h2, fun p hp => k (.ref p) F _ (.ow false (.dk _)) (Ext.ow hs hp _) ⟨p, [p], rfl, fun a ha => by cases List.mem_singleton.mp ha; exact ⟨hp, hs.free hp⟩, rfl, ws, upd_same, h3⟩ h⟩
  · exact h.elim⟩
def pDictV (i : Nat) : PX := fun s q => dkS s[i]? fun kvs => q (.ow false (.dk kvs)) s
instance (priority := high) {i : Nat} : LiftE K Ξ (tCB (fun xs H Q => ∃ (a : Addr) (kvs : List (Key × V)), xs = [.ref a] ∧ Rd H a (.dK kvs) ∧ ∀ p, H p = none → Q (.ref p) (upd H p (.dK kvs))) (tCons (tVar i) tNil)) (pDictV i) := ⟨fun {F H ω s σ Q} q T h k => by
  obtain ⟨a, kvs, ws, hv, hr, hp, h1⟩ := dkS_run T h
  exact ⟨_, hv, a, ws, rfl, hr, prk_dk T hp h1 k⟩⟩
end
theorem valK_pos {p : Key × D} {r : List (Key × D)} {k : Key} (e : p.1 = k) : valK (p :: r) k = some p.2 := by simp [valK, List.find?_cons, e]
theorem valK_neg {p : Key × D} {r : List (Key × D)} {k : Key} (e : ¬ p.1 = k) : valK (p :: r) k = valK r k := by simp [valK, List.find?_cons, e]
theorem valK_any (k : Key) : ∀ l : List (Key × D), (l.any fun p => decide (p.1 = k)) = (valK l k).isSome
  | [] => rfl
  | p :: r => by
    rw [List.any_cons, valK_any k r]
    by_cases h : p.1 = k
    · rw [valK_pos h, decide_eq_true h]; rfl
    · rw [valK_neg h, decide_eq_false h]; rfl
theorem valK_map (k j : Key) (e : D) : ∀ l : List (Key × D), valK (l.map fun p => if p.1 = k then (p.1, e) else p) j = (valK l j).map fun x => if j = k then e else x
  | [] => rfl
  | p :: r => by
    rw [List.map_cons]
    by_cases h : p.1 = k
    · rw [if_pos h]
      by_cases h2 : p.1 = j
      · rw [valK_pos (p := (p.1, e)) h2, valK_pos h2]
        show some e = some (if j = k then e else p.2)
        rw [if_pos (h2.symm.trans h)]
      · rw [valK_neg (p := (p.1, e)) h2, valK_neg h2, valK_map k j e r]
    · rw [if_neg h]
      by_cases h2 : p.1 = j
      · rw [valK_pos h2, valK_pos h2]
        show some p.2 = some (if j = k then e else p.2)
        rw [if_neg (fun z => h (h2.trans z))]
      · rw [valK_neg h2, valK_neg h2, valK_map k j e r]
theorem valK_snoc (k j : Key) (e : D) : ∀ l : List (Key × D), valK l k = none → valK (l ++ [(k, e)]) j = if j = k then some e else valK l j
  | [], _ => by
    by_cases h : k = j
    · rw [if_pos h.symm]; exact valK_pos (p := (k, e)) h
    · rw [if_neg (Ne.symm h)]; exact valK_neg (p := (k, e)) (r := []) h
  | p :: r, hn => by
    have h1 : ¬ p.1 = k := fun z => by rw [valK_pos z] at hn; cases hn
    rw [valK_neg h1] at hn
    rw [List.cons_append]
    by_cases h3 : p.1 = j
    · rw [valK_pos h3, valK_pos h3, if_neg (fun z => h1 (h3.trans z))]
    · rw [valK_neg h3, valK_neg h3, valK_snoc k j e r hn]
theorem valK_put (kvs : List (Key × D)) (k j : Key) (e : D) : valK (putKD kvs k e) j = if j = k then some e else valK kvs j := by
  unfold putKD
  rw [valK_any]
  cases h : valK kvs k with
  | some v =>
    rw [if_pos (by rfl), valK_map]
    by_cases hj : j = k
    · rw [hj, h, if_pos rfl]; show some (if k = k then e else v) = _; rw [if_pos rfl]
    · rw [if_neg hj]
      cases valK kvs j with
      | none => rfl
      | some x => show some (if j = k then e else x) = _; rw [if_neg hj]
  | none => rw [if_neg (by decide), valK_snoc _ _ _ _ h]
theorem putKD_len (kvs : List (Key × D)) (k : Key) (e : D) : (putKD kvs k e).length ≤ kvs.length + 1 := by
  unfold putKD
  split
  · rw [List.length_map]; omega
  · rw [List.length_append]; exact Nat.le_refl _
/-! ### {k: v, ..}, {k: v for ..} -/
section
variable {K : PySem.W.Frag} {Ξ : XI}
abbrev PP1 := Sl → (List (D × D) → Sl → Prop) → Prop
abbrev RpP (K : PySem.W.Frag) (F : Hp) : List (D × D) → List (V × V) → Prop := Paired fun d v => Rp K F d.1 v.1 ∧ Rp K F d.2 v.2
class LiftPP (K : PySem.W.Frag) (Ξ : XI) (l : List (TE × TE)) (p : outParam PP1) : Prop where
  run : ∀ {F H : Hp} {ω : Om} {s : Sl} {σ : L2.St} {R : List (V × V) → Hp → Prop} (q : List (D × D) → Sl → Prop), Sta K Ξ F H ω s σ → p s q →
    (∀ ps F' H' ω' ds s', Stp F H ω F' H' ω' → Sta K Ξ F' H' ω' s' σ → RpP K F' ds ps → q ds s' → R ps H') → tPairs l σ H R
instance : LiftPP K Ξ [] (fun s q => q [] s) := ⟨fun {F H ω s σ R} q T h k => k [] F H ω [] s (Stp.refl T.tb) T .nil h⟩
def ppCons (pk pv : PD) (r : PP1) : PP1 := fun s q => pk s fun d s1 => pv s1 fun e s2 => r s2 fun ds s3 => q ((d, e) :: ds) s3
instance {tk tv : TE} {l : List (TE × TE)} {pk pv : PD} {r : PP1} [LiftD K Ξ tk pk] [LiftD K Ξ tv pv] [LiftPP K Ξ l r] : LiftPP K Ξ ((tk, tv) :: l) (ppCons pk pv r) := ⟨fun {F H ω s σ R} q T h k => by
  refine LiftD.run (K := K) (t := tk) (p := pk) _ T h fun v F1 H1 ω1 d s1 p1 T1 r1 h1 => ?_
  refine LiftD.run (K := K) (t := tv) (p := pv) _ T1 h1 fun y F2 H2 ω2 e s2 p2 T2 r2 h2 => ?_
  refine LiftPP.run (K := K) (l := l) (p := r) _ T2 h2 fun ps F3 H3 ω3 ds s3 p3 T3 r3 h3 => ?_
  exact k _ F3 H3 ω3 _ s3 ((p1.trans p2).trans p3) T3 (.cons ⟨(r1.mono p2.sf).mono p3.sf, r2.mono p3.sf⟩ r3) h3⟩
/-- pairs of a key and a value -/
def kvsOf : List (D × D) → Option (List (Key × D))
  | [] => some []
  | (d, e) :: r => match keyD d, kvsOf r with
    | some k, some m => some ((k, e) :: m)
    | _, _ => none
theorem kvsOf_run {F : Hp} : ∀ {ds : List (D × D)} {ps : List (V × V)} {kvs : List (Key × D)}, kvsOf ds = some kvs → RpP K F ds ps → ∃ ws : List (Key × V), ps = ws.map (fun kv => (kV kv.1, kv.2)) ∧ PrK K F kvs ws := by
  intro ds ps kvs h r
  induction r generalizing kvs with
  | nil => cases h; exact ⟨[], rfl, .nil⟩
  | @cons x y xs ys hh t ih =>
    obtain ⟨d, e⟩ := x
    unfold kvsOf at h
    split at h
    · rename_i k m e1 e2
      cases h
      obtain ⟨ws, rfl, hp⟩ := ih e2
      obtain ⟨y1, y2⟩ := y
      have := key_rp e1 hh.1
      exact ⟨(k, y2) :: ws, by rw [List.map_cons, ← this], .cons ⟨rfl, hh.2⟩ hp⟩
    · cases h
noncomputable def mergeKD (kvs more : List (Key × D)) : List (Key × D) := more.foldl (fun acc kv => putKD acc kv.1 kv.2) kvs
theorem PrK.merge {F : Hp} {more : List (Key × D)} {ms : List (Key × V)} (h : PrK K F more ms) : ∀ {kvs : List (Key × D)} {ws : List (Key × V)}, PrK K F kvs ws → PrK K F (mergeKD kvs more) (L2.mergeK ws ms) := by
  induction h with
  | nil => exact fun h => h
  | @cons p q ps qs h t ih =>
    intro kvs ws r
    have := r.putK (k := p.1) h.2
    show PrK K F (mergeKD (putKD kvs p.1 p.2) ps) (L2.mergeK (L2.putK ws q.1 q.2) qs)
    rw [← h.1]
    exact ih this
def pDisp (p : PP1) : PX := fun s q => p s fun ds s1 => match kvsOf ds with
  | some kvs => kvs.length ≤ 15 ∧ q (.ow false (.dk (mergeKD [] kvs))) s1
  | none => False
instance {l : List (TE × TE)} {p : PP1} [LiftPP K Ξ l p] : LiftE K Ξ (tDisp l) (pDisp p) := ⟨fun {F H ω s σ Q} q T h k A hA => by
  have e0 : Ext F H F (upd H A (.dK [])) := Ext.ow T.sf hA _
  obtain ⟨p2, T2⟩ := e0.stp T
  refine LiftPP.run (K := K) (l := l) (p := p) _ T2 h fun ps F1 H1 ω1 ds s1 p1 T1 r1 h1 => ?_
  have a1 := p1.fr A _ (T.tb.new hA) (Sta.free T.base hA) upd_same
  have a2 := p1.fn A _ (Sta.free T.base hA) upd_same (T.sf.free hA)
  have a3 := p1.om A _ (Sta.free T.base hA) upd_same
  split at h1
  · rename_i kvs ek
    obtain ⟨ws, rfl, hp⟩ := kvsOf_run ek r1
    refine ⟨a1, ws, rfl, by rw [← prk_len hp]; exact h1.1, ?_⟩
    exact k _ F1 _ ω1 (.ow false (.dk (mergeKD [] kvs))) s1 ((p2.trans p1).mutNew hA) ⟨Sta.mutFree T1.base a3 a2 (T.tb.new hA), T.ex.step ((p2.trans p1).mutNew hA)⟩
      ⟨A, [A], rfl, fun a ha => by cases List.mem_singleton.mp ha; exact ⟨hA, a3, a2⟩, rfl, _, upd_same, hp.merge .nil⟩ h1.2
  · exact h1.elim⟩
def pDc (pi : PI1) (pg : PG1) (ss : List Nat) (pt : PT1) (pk pv : PD) (vs : List Nat) : PX := fun s q => pi s fun ds s1 => if ss.all vs.contains = true then ∃ I : Nat → List (Key × D) → Sl → Prop, I 0 [] (wipeS s1 vs) ∧
  (∀ i d acc s2, ds[i]? = some d → I i acc s2 → pg d s2 fun s3 => pt s3 (fun s4 => pk s4 fun e s5 => pv s5 fun z s6 => withK e fun k => acc.length < 100000 ∧ I (i + 1) (putKD acc k z) (wipeS s6 vs)) (fun s4 => I (i + 1) acc (wipeS s4 vs))) ∧
  ∀ acc s2, I ds.length acc s2 → q (.ow false (.dk acc)) s2 else False
theorem dc_it {J : It} {n : Nat} {G : Hp → Prop} {Y : Nat → Hp → V → Hp → Prop} (Wk : Walk J n G Y) {g : TG} {tt : TT} {tk tv : TE} {vs : List Nat} {σ : L2.St} {H1 : Hp} {D : Addr} {Qd : Hp → Prop} (Pv : Nat → Hp → Prop) (h0 : Pv 0 (upd H1 D (.dK []))) (hG : ∀ i H, i ≤ n → Pv i H → G H)
    (hs : ∀ i x H H', i < n → Pv i H → Y i H x H' → g x (L2.wipe σ vs) H' fun σ2 H2 => L2.wipe σ2 vs = L2.wipe σ vs ∧ tt σ2 H2 fun b H3 =>
      if b = true then tk σ2 H3 fun y H4 => tv σ2 H4 fun z H5 => ∃ kvs k, y = kV k ∧ H5 D = some (.dK kvs) ∧ kvs.length < sizeLine ∧ Pv (i + 1) (upd H5 D (.dK (L2.putK kvs k z))) else Pv (i + 1) H3) (hd : ∀ H, Pv n H → Qd H) :
    ∃ W : Nat → Nat → Hp → Prop, (∃ m, W 0 m (upd H1 D (.dK []))) ∧ ∀ i m H, W i m H →
      (J.stop i H ∧ Qd H) ∨ (J.go i H ∧ ∃ Nx : Hp → Prop, (∀ H', Nx H' → ∃ m', m' < m ∧ W (i + 1) m' H') ∧ ∀ x H', J.yld i H x H' → g x (L2.wipe σ vs) H' fun σ2 H2 => L2.wipe σ2 vs = L2.wipe σ vs ∧ tt σ2 H2 fun b H3 =>
        if b = true then tk σ2 H3 fun y H4 => tv σ2 H4 fun z H5 => ∃ kvs k, y = kV k ∧ H5 D = some (.dK kvs) ∧ kvs.length < sizeLine ∧ Nx (upd H5 D (.dK (L2.putK kvs k z))) else Nx H3) := by
  refine ⟨fun i m H => m = n - i ∧ i ≤ n ∧ Pv i H, ⟨n, by simp, Nat.zero_le _, h0⟩, ?_⟩
  rintro i m H ⟨rfl, hi, p⟩
  by_cases hlt : i < n
  · refine .inr ⟨Wk.goes i H hlt (hG i H hi p), Pv (i + 1), fun H' p' => ⟨n - (i + 1), by omega, rfl, hlt, p'⟩, fun x H' y => ?_⟩
    exact hs i x H H' hlt p (Wk.yields i H x H' hlt (hG i H hi p) y)
  · have e : i = n := by omega
    subst e
    exact .inl ⟨Wk.stops H (hG _ H hi p), hd H p⟩
instance {wi : TI} {g : TG} {tt : TT} {tk tv : TE} {vs : List Nat} {pi : PI1} {pg : PG1} {ss : List Nat} {pt : PT1} {pk pv : PD} [LiftI K Ξ wi pi] [LiftG K XI.zero g pg ss] [LiftT K XI.zero tt pt] [LiftD K XI.zero tk pk] [LiftD K XI.zero tv pv] : LiftE K Ξ (tDc wi g tt tk tv vs) (pDc pi pg ss pt pk pv vs) := ⟨fun {F H ω s σ Q} kk T h k => by
  refine LiftI.run (K := K) (t := wi) (p := pi) _ T h fun J F1 H1 ω1 ds s1 p1 T1 w1 h1 => ?_
  split at h1
  rotate_left
  · exact h1.elim
  rename_i hss
  have hss' : ∀ i ∈ ss, i ∈ vs := fun i hi => by simpa using List.all_eq_true.mp hss i hi
  obtain ⟨I, i0, istep, iend⟩ := h1
  obtain ⟨G, Y, W, hG, hY⟩ := w1
  intro A hA
  have e0 : Ext F1 H1 F1 (upd H1 A (.dK [])) := Ext.ow T1.sf hA _
  obtain ⟨p2, T2⟩ := e0.stp T1
  have kk' : ∀ {F2 : Hp} {ω2 : Om} {s2 : Sl} {acc : List (Key × D)} {ws : List (Key × V)} {H' : Hp}, Sta0 K F2 H' ω2 s2 σ → I ds.length acc s2 → Stp F1 H1 ω1 F2 H' ω2 → ω2 A = none → F2 A = none → H' A = some (.dK ws) → PrK K F2 acc ws → Q (.ref A) H' :=
    fun {F2 ω2 s2 acc ws H'} T4 hI p3 a1 a2 a3 a4 => k _ F2 H' ω2 (.ow false (.dk acc)) s2 (p1.trans p3) ⟨T4, T1.ex.step p3⟩ ⟨A, [A], rfl, fun a ha => by cases List.mem_singleton.mp ha; exact ⟨p1.tr A hA, a1, a2⟩, rfl, ws, a3, a4⟩ (iend acc s2 hI)
  refine dc_it W (fun i H' => ∃ F2 ω2 s2 acc ws, Stp F1 H1 ω1 F2 H' ω2 ∧ Sta K XI.zero F2 H' ω2 s2 (L2.wipe σ vs) ∧ ω2 A = none ∧ F2 A = none ∧ H' A = some (.dK ws) ∧ PrK K F2 acc ws ∧ I i acc s2) ?_ ?_ ?_ ?_
  · exact ⟨F1, ω1, wipeS s1 vs, [], [], p2, ⟨(T2.wipe vs).base, Exo.zero⟩, Sta.free T1.base hA, T1.sf.free hA, upd_same, .nil, i0⟩
  · rintro i H' hi ⟨F2, ω2, s2, acc, ws, p3, T3, _⟩
    exact hG H' (p3.sf.trans T3.sf)
  · rintro i x H' H'' hi ⟨F2, ω2, s2, acc, ws, p3, T3, a1, a2, a3, a4, hI⟩ y
    have hd : ds[i]? = some ds[i] := List.getElem?_eq_getElem hi
    obtain ⟨F3, e3, r3⟩ := hY i H' x H'' F2 _ hd p3.sf T3.sf y
    obtain ⟨p4, T4⟩ := e3.stp T3
    refine LiftG.run (K := K) (g := g) (p := pg) (ss := ss) _ T4 r3 (istep i _ acc s2 hd hI) fun σ5 s5 T5 w5 h5 => ?_
    have hw5 : L2.wipe σ5 vs = L2.wipe σ vs := by rw [w5 vs hss']; exact wipe_wipe σ vs
    refine ⟨hw5, ?_⟩
    have pp := p3.trans p4
    refine LiftT.run (K := K) (t := tt) (p := pt) _ _ T5 h5 fun b F6 H6 ω6 s6 p6 T6 h6 => ?_
    have b1 : H'' A = some (.dK ws) := e3.sh _ _ a3
    have b2 : F3 A = none := e3.fn _ _ a3 a2
    have c1 := p6.fr A _ (T1.tb.new hA) a1 b1
    have c2 := p6.fn A _ a1 b1 b2
    have c3 := p6.om A _ a1 b1
    cases b with
    | false =>
      refine iteF ⟨F6, ω6, wipeS s6 vs, acc, ws, pp.trans p6, ?_, c3, c2, c1, a4.mono (e3.sf.trans p6.sf), by simpa using h6⟩
      have T7 := T6.wipe vs
      rw [hw5] at T7
      exact T7
    | true =>
      refine iteT (LiftD.run (K := K) (t := tk) (p := pk) _ T6 (by simpa using h6) fun y F7 H7 ω7 d s7 p7 T7 r7 h7 => ?_)
      refine LiftD.run (K := K) (t := tv) (p := pv) _ T7 h7 fun v F8 H8 ω8 d8 s8 p8 T8 r8 h8 => ?_
      have pq := p7.trans p8
      have d1 := pq.fr A _ (T1.tb.new hA) c3 c1
      have d2 := pq.fn A _ c3 c1 c2
      have d3 := pq.om A _ c3 c1
      obtain ⟨κ, rfl, hl, hI'⟩ := withK_of h8 (r7.mono p8.sf)
      have hlA : ws.length = acc.length := (prk_len a4).symm
      have T9 := T8.wipe vs
      rw [hw5] at T9
      exact ⟨ws, κ, rfl, d1, Nat.lt_of_le_of_lt (show ws.length ≤ 100000 by omega) (by decide), F8, ω8, wipeS s8 vs, putKD acc κ d8, L2.putK ws κ v, ((pp.trans p6).trans pq).mutNew hA, ⟨Sta.mutFree T9.base d3 d2 (T1.tb.new hA), Exo.zero⟩, d3, d2, upd_same,
        PrK.putK (PrK.mono (e3.sf.trans (p6.sf.trans pq.sf)) a4) r8, hI'⟩
  · rintro H' ⟨F2, ω2, s2, acc, ws, p3, T3, a1, a2, a3, a4, hI⟩
    exact kk' ⟨T3.tb, T3.sf, T3.ow, fun i x h => (T3.at' i x h).elim fun v hv => ⟨v, (wipe_some hv.1).1, hv.2⟩, by rw [T3.len, wipe_length], T3.ix⟩ hI p3 a1 a2 a3 a4⟩
end
/-! ### the order of data: sorted lists -/
theorem lt_asym {x y : PyData} (h : PySem.W.dataLt x y = true) : PySem.W.dataLt y x = false := by
  cases e : PySem.W.dataLt y x with
  | false => rfl
  | true =>
    have := lex_trans (O := itemOrd) _ _ _ h e
    rw [lex_irrefl] at this
    cases this
theorem leD_total (a b : D) : (leD a b || leD b a) = true := by
  unfold leD
  cases e : PySem.W.dataLt b.py a.py with
  | false => rfl
  | true => rw [lt_asym e]; rfl
theorem leD_trans (a b c : D) (h1 : leD a b = true) (h2 : leD b c = true) : leD a c = true := by
  unfold leD at *
  cases e : PySem.W.dataLt c.py a.py with
  | false => rfl
  | true =>
    rcases lex_negTrans (O := itemOrd) _ (PySem.W.keyToks b.py) _ e with z | z
    · have z : PySem.W.dataLt c.py b.py = true := z
      rw [z] at h2
      cases h2
    · have z : PySem.W.dataLt b.py a.py = true := z
      rw [z] at h1
      cases h1
theorem leD_refl (a : D) : leD a a = true := by
  unfold leD
  rw [show PySem.W.dataLt a.py a.py = false from lex_irrefl (O := itemOrd) _]
  rfl
theorem sortD_perm (ds : List D) : (sortD ds).Perm ds := List.mergeSort_perm _ _
theorem sortD_len (ds : List D) : (sortD ds).length = ds.length := (sortD_perm ds).length_eq
theorem mem_sortD {ds : List D} {d : D} : d ∈ sortD ds ↔ d ∈ ds := (sortD_perm ds).mem_iff
theorem sortD_pw (ds : List D) : (sortD ds).Pairwise (fun a b => leD a b = true) := List.pairwise_mergeSort leD_trans leD_total ds
theorem sortD_of_pw {ds : List D} (h : ds.Pairwise (fun a b => leD a b = true)) : sortD ds = ds := List.mergeSort_of_pairwise h
/-- two sorted lists of the same things, told apart by the order -/
theorem sorted_uniq {ds es : List D} (h1 : ds.Pairwise (fun a b => leD a b = true)) (h2 : es.Pairwise (fun a b => leD a b = true)) (hp : ds.Perm es) (ha : ∀ a ∈ ds, ∀ b ∈ ds, leD a b = true → leD b a = true → a = b) : ds = es := by
  refine List.Perm.eq_of_pairwise ?_ h1 h2 hp
  exact fun a b x y u v => ha a x b (hp.mem_iff.mpr y) u v
theorem sortD_congr {ds es : List D} (hp : ds.Perm es) (ha : ∀ a ∈ ds, ∀ b ∈ ds, leD a b = true → leD b a = true → a = b) : sortD ds = sortD es :=
  sorted_uniq (sortD_pw _) (sortD_pw _) ((sortD_perm ds).trans (hp.trans (sortD_perm es).symm)) fun a x b y => ha a (mem_sortD.mp x) b (mem_sortD.mp y)
/-! texts and tuples that begin with texts -/
theorem leD_str (a b : Str) : leD (.str a) (.str b) = decide (¬ b.cps.toList < a.cps.toList) := by
  unfold leD
  rw [show (D.str b).py = .str b from rfl, show (D.str a).py = .str a from rfl, PySem.W.dataLt_str]
  by_cases h : b.cps.toList < a.cps.toList <;> simp [h]
theorem str_ext {a b : Str} (h : a.cps.toList = b.cps.toList) : a = b := by
  cases a; cases b
  exact congrArg Str.mk (Array.toList_inj.mp h)
theorem leD_str_anti {a b : Str} (h1 : leD (.str a) (.str b) = true) (h2 : leD (.str b) (.str a) = true) : a = b := by
  rw [leD_str] at h1 h2
  exact str_ext (List.le_antisymm (List.not_lt.mp (of_decide_eq_true h1)) (List.not_lt.mp (of_decide_eq_true h2)))
/-- by the first parts -/
theorem leD_first {a b : Str} {x y : List D} (h : leD (.tup (.str a :: x)) (.tup (.str b :: y)) = true) : leD (.str a) (.str b) = true := by
  have e1 : PySem.W.dataLt (.tuple (.str b :: D.pys y)) (.tuple (.str a :: D.pys x)) = false := by
    have h : (!PySem.W.dataLt (.tuple (.str b :: D.pys y)) (.tuple (.str a :: D.pys x))) = true := h
    simpa using h
  rw [PySem.W.dataLt_tuple] at e1
  have e2 : PyProof.Rows.lexLt itemOrd (PySem.W.keyToksAll (.str b :: D.pys y)) (PySem.W.keyToksAll (.str a :: D.pys x)) = false := e1
  unfold leD
  show (!PySem.W.dataLt (.str b) (.str a)) = true
  cases e : PySem.W.dataLt (.str b) (.str a) with
  | false => rfl
  | true =>
    have ne : PyData.eqv (.str b) (.str a) = false := by
      cases z : PyData.eqv (.str b) (.str a) with
      | false => rfl
      | true =>
        have := (PySem.W.toks_eqv (.str b) (.str a) (by simp only [PySem.W.alike])).1 z
        rw [PySem.W.dataLt, this, lex_irrefl] at e
        cases e
    rw [PySem.W.dataLt_all_no (by simp only [PySem.W.alike]) ne] at e2
    rw [e2] at e
    cases e
/-! ### items: (key, group, weight, amount) -/
structure Itm where
  k : Str
  g : Str
  w : Int
  a : Int
def dI (x : Itm) : D := .tup [.str x.k, .str x.g, .int x.w, .int x.a]
abbrev dIs (xs : List Itm) : D := .lst (xs.map dI)
def Itm.ok (x : Itm) : Prop := PyData.strOk x.k = true ∧ PyData.strOk x.g = true
theorem dI_inj {x y : Itm} (h : dI x = dI y) : x = y := by
  unfold dI at h
  injection h with h
  injection h with h1 h
  injection h with h2 h
  injection h with h3 h
  injection h with h4 _
  cases x; cases y
  injection h1; injection h2; injection h3; injection h4
  simp_all
theorem pl_dI {n : Nat} {x : Itm} (h : x.ok) : D.plN (n + 1) (dI x) = true := by
  show (D.plN n (.str x.k) && (D.plN n (.str x.g) && (D.plN n (.int x.w) && (D.plN n (.int x.a) && true)))) = true
  have a : D.plN n (.str x.k) = true := by cases n <;> exact h.1
  have b : D.plN n (.str x.g) = true := by cases n <;> exact h.2
  have c : ∀ i, D.plN n (.int i) = true := fun i => by cases n <;> rfl
  rw [a, b, c, c]
  rfl
theorem pl_dIs {n : Nat} {xs : List Itm} (h : ∀ x ∈ xs, x.ok) : D.plN (n + 2) (dIs xs) = true := by
  show (xs.map dI).all (D.plN (n + 1)) = true
  rw [List.all_eq_true]
  intro d hd
  obtain ⟨x, hx, rfl⟩ := List.mem_map.mp hd
  exact pl_dI (h x hx)
theorem pl_str {n : Nat} {x : Str} (h : PyData.strOk x = true) : D.plN n (.str x) = true := by cases n <;> exact h
theorem alike_I (x y : Itm) : PySem.W.alike (dI x).py (dI y).py = true := by
  show PySem.W.alike (.tuple [.str x.k, .str x.g, .int x.w, .int x.a]) (.tuple [.str y.k, .str y.g, .int y.w, .int y.a]) = true
  simp only [PySem.W.alike, PySem.W.alikeAll, Bool.and_true]
theorem sortOk_I {xs : List Itm} (h : ∀ x ∈ xs, x.ok) : SortOk (xs.map dI) := by
  refine ⟨?_, ?_, .inl fun d hd => ?_⟩
  · rw [List.all_eq_true]
    intro d hd
    obtain ⟨x, hx, rfl⟩ := List.mem_map.mp hd
    exact pl_dI (n := 57) (h x hx)
  · intro d hd e he
    rw [List.map_map] at hd he
    obtain ⟨x, _, rfl⟩ := List.mem_map.mp hd
    obtain ⟨y, _, rfl⟩ := List.mem_map.mp he
    exact alike_I x y
  · rw [List.map_map] at hd
    obtain ⟨x, _, rfl⟩ := List.mem_map.mp hd
    exact ⟨_, _, rfl⟩
theorem sortOk_S {xs : List Str} (h : ∀ x ∈ xs, PyData.strOk x = true) : SortOk (xs.map D.str) := by
  refine ⟨?_, ?_, .inr fun d hd => ?_⟩
  · rw [List.all_eq_true]
    intro d hd
    obtain ⟨x, hx, rfl⟩ := List.mem_map.mp hd
    exact h x hx
  · intro d hd e he
    rw [List.map_map] at hd he
    obtain ⟨x, _, rfl⟩ := List.mem_map.mp hd
    obtain ⟨y, _, rfl⟩ := List.mem_map.mp he
    show PySem.W.alike (.str x) (.str y) = true
    simp only [PySem.W.alike]
  · rw [List.map_map] at hd
    obtain ⟨x, _, rfl⟩ := List.mem_map.mp hd
    exact ⟨fun e => (nomatch (show PyData.str _ = PyData.none from e)), fun _ e => (nomatch (show PyData.str _ = PyData.tuple _ from e))⟩
/-- sorted items -/
noncomputable def sortI (xs : List Itm) : List Itm := xs.mergeSort fun x y => leD (dI x) (dI y)
theorem sortI_map (xs : List Itm) : sortD (xs.map dI) = (sortI xs).map dI := by
  unfold sortD sortI
  exact (List.map_mergeSort (f := dI) (r := fun x y => leD (dI x) (dI y)) (s := leD) fun a _ b _ => rfl).symm
theorem sortI_perm (xs : List Itm) : (sortI xs).Perm xs := List.mergeSort_perm _ _
theorem sortI_len (xs : List Itm) : (sortI xs).length = xs.length := (sortI_perm xs).length_eq
theorem mem_sortI {xs : List Itm} {x : Itm} : x ∈ sortI xs ↔ x ∈ xs := (sortI_perm xs).mem_iff
theorem sortI_pw (xs : List Itm) : (sortI xs).Pairwise fun x y => leD (dI x) (dI y) = true :=
  List.pairwise_mergeSort (le := fun x y => leD (dI x) (dI y)) (fun a b c => leD_trans (dI a) (dI b) (dI c)) (fun a b => leD_total (dI a) (dI b)) xs
def leK (a b : Str) : Prop := leD (.str a) (.str b) = true
theorem leK_of {x y : Itm} (h : leD (dI x) (dI y) = true) : leK x.k y.k := leD_first h
/-- the least of some texts -/
noncomputable def sortS (xs : List Str) : List Str := xs.mergeSort fun x y => leD (.str x) (.str y)
theorem sortS_map (xs : List Str) : sortD (xs.map D.str) = (sortS xs).map D.str := by
  unfold sortD sortS
  exact (List.map_mergeSort (f := D.str) (r := fun x y => leD (.str x) (.str y)) (s := leD) fun a _ b _ => rfl).symm
theorem sortS_perm (xs : List Str) : (sortS xs).Perm xs := List.mergeSort_perm _ _
theorem sortS_pw (xs : List Str) : (sortS xs).Pairwise leK := List.pairwise_mergeSort (le := fun x y => leD (.str x) (.str y)) (fun a b c => leD_trans (.str a) (.str b) (.str c)) (fun a b => leD_total (.str a) (.str b)) xs
theorem leK_anti {a b : Str} (h1 : leK a b) (h2 : leK b a) : a = b := leD_str_anti h1 h2
theorem leK_refl (a : Str) : leK a a := leD_refl _
theorem sortS_head {xs : List Str} {m : Str} (hm : m ∈ xs) (h : ∀ x ∈ xs, leK m x) : (sortS xs)[0]? = some m := by
  cases e : sortS xs with
  | nil =>
    have := (sortS_perm xs).mem_iff.mpr hm
    rw [e] at this
    cases this
  | cons y r =>
    have hp := sortS_pw xs
    rw [e] at hp
    have hy : y ∈ xs := (sortS_perm xs).mem_iff.mp (by rw [e]; exact List.mem_cons_self)
    have h1 : leK m y := h y hy
    have hm' : m ∈ y :: r := by rw [← e]; exact (sortS_perm xs).mem_iff.mpr hm
    have h2 : leK y m := by
      rcases List.mem_cons.mp hm' with z | z
      · rw [z]; exact leK_refl y
      · exact (List.pairwise_cons.mp hp).1 m z
    rw [leK_anti h1 h2]
    rfl
/-! ### laws by data: lists of pairs (outcome, chance) -/
def dOut (r : D × Rat) : D := .tup [r.1, dF r.2]
def dOuts (rows : List (D × Rat)) : D := .lst (rows.map dOut)
noncomputable def sumAt (rows : List (D × Rat)) (d : D) : Rat := rsum ((rows.filter fun r => decide (r.1 = d)).map (·.2))
/-- the outcomes, as they come first -/
noncomputable def keysOf : List (D × Rat) → List D
  | [] => []
  | rows => rows.foldl (fun ks r => if r.1 ∈ ks then ks else ks ++ [r.1]) []
noncomputable def keysAdd (ks : List D) (r : D × Rat) : List D := if r.1 ∈ ks then ks else ks ++ [r.1]
theorem keysOf_eq (rows : List (D × Rat)) : keysOf rows = rows.foldl keysAdd [] := by cases rows <;> rfl
theorem keysOf_snoc (rows : List (D × Rat)) (r : D × Rat) : keysOf (rows ++ [r]) = keysAdd (keysOf rows) r := by
  rw [keysOf_eq, keysOf_eq, List.foldl_append]
  rfl
theorem mem_keysAdd {ks : List D} {r : D × Rat} {d : D} : d ∈ keysAdd ks r ↔ d ∈ ks ∨ d = r.1 := by
  unfold keysAdd
  split
  · rename_i h
    exact ⟨.inl, fun z => z.elim id fun e => by rw [e]; exact h⟩
  · simp
theorem mem_keysOf {rows : List (D × Rat)} {d : D} : d ∈ keysOf rows ↔ ∃ r ∈ rows, r.1 = d := by
  rw [keysOf_eq]
  suffices h : ∀ (rows : List (D × Rat)) (ks : List D), d ∈ rows.foldl keysAdd ks ↔ d ∈ ks ∨ ∃ r ∈ rows, r.1 = d by
    rw [h]
    simp
  intro rows
  induction rows with
  | nil => intro ks; simp
  | cons r rows ih =>
    intro ks
    rw [List.foldl_cons, ih, mem_keysAdd]
    constructor
    · rintro ((h | h) | ⟨x, hx, e⟩)
      · exact .inl h
      · exact .inr ⟨r, List.mem_cons_self, h.symm⟩
      · exact .inr ⟨x, List.mem_cons_of_mem _ hx, e⟩
    · rintro (h | ⟨x, hx, e⟩)
      · exact .inl (.inl h)
      · rcases List.mem_cons.mp hx with z | z
        · exact .inl (.inr (by rw [← e, z]))
        · exact .inr ⟨x, z, e⟩
theorem keysOf_nodup (rows : List (D × Rat)) : (keysOf rows).Nodup := by
  rw [keysOf_eq]
  suffices h : ∀ (rows : List (D × Rat)) (ks : List D), ks.Nodup → (rows.foldl keysAdd ks).Nodup from h rows [] List.nodup_nil
  intro rows
  induction rows with
  | nil => intro ks h; exact h
  | cons r rows ih =>
    intro ks h
    rw [List.foldl_cons]
    refine ih _ ?_
    unfold keysAdd
    split
    · exact h
    · rename_i hn
      rw [List.nodup_append]
      exact ⟨h, by simp, fun a ha b hb => by simp at hb; rw [hb]; exact fun e => hn (by rw [← e]; exact ha)⟩
theorem sumAt_snoc (rows : List (D × Rat)) (r : D × Rat) (d : D) : sumAt (rows ++ [r]) d = if r.1 = d then sumAt rows d + r.2 else sumAt rows d := by
  unfold sumAt
  rw [List.filter_append, List.map_append, rsum_app]
  by_cases h : r.1 = d
  · rw [if_pos h, List.filter_cons_of_pos (by simpa using h), List.filter_nil, List.map_cons, List.map_nil, rsum_cons, rsum_nil]
    grind
  · rw [if_neg h, List.filter_cons_of_neg (by simpa using h), List.filter_nil, List.map_nil, rsum_nil]
    grind
theorem sumAt_none {rows : List (D × Rat)} {d : D} (h : d ∉ keysOf rows) : sumAt rows d = 0 := by
  unfold sumAt
  rw [List.filter_eq_nil_iff.mpr]
  · rfl
  · intro r hr
    simp
    exact fun e => h (mem_keysOf.mpr ⟨r, hr, e⟩)
/-- the dict that the sums make -/
noncomputable def sumsD (rows : List (D × Rat)) : List (D × D) := (keysOf rows).map fun d => (d, dF (sumAt rows d))
theorem find_map {ks : List D} {f : D → D} {d : D} : (ks.map fun k => (k, f k)).find? (fun p => decide (p.1 = d)) = if d ∈ ks then some (d, f d) else none := by
  induction ks with
  | nil => rfl
  | cons k ks ih =>
    rw [List.map_cons, List.find?_cons]
    by_cases e : k = d
    · subst e
      simp
    · simp only [e, decide_false]
      rw [ih]
      have : d ≠ k := fun z => e z.symm
      simp [this]
theorem valP_sums (rows : List (D × Rat)) (d : D) : valP (sumsD rows) d = if d ∈ keysOf rows then some (dF (sumAt rows d)) else none := by
  unfold valP sumsD
  rw [find_map]
  split <;> rfl
theorem valP_getD (rows : List (D × Rat)) (d : D) : (valP (sumsD rows) d).getD (dF 0) = dF (sumAt rows d) := by
  rw [valP_sums]
  split
  · rfl
  · rename_i h
    rw [sumAt_none h]
    rfl
theorem putP_sums (rows : List (D × Rat)) (r : D × Rat) : putP (sumsD rows) r.1 (dF (sumAt rows r.1 + r.2)) = sumsD (rows ++ [r]) := by
  unfold putP sumsD
  rw [keysOf_snoc]
  have hany : (((keysOf rows).map fun d => (d, dF (sumAt rows d))).any fun p => decide (p.1 = r.1)) = decide (r.1 ∈ keysOf rows) := by
    rw [List.any_map]
    by_cases h : r.1 ∈ keysOf rows
    · rw [decide_eq_true h, List.any_eq_true]
      exact ⟨r.1, h, by simp⟩
    · rw [decide_eq_false h, List.any_eq_false]
      intro x hx
      simp
      exact fun e => h (by rw [← e]; exact hx)
  rw [hany]
  unfold keysAdd
  by_cases h : r.1 ∈ keysOf rows
  · rw [decide_eq_true h, if_pos rfl, if_pos h, List.map_map]
    refine List.map_congr_left fun d hd => ?_
    show (if d = r.1 then (d, dF (sumAt rows r.1 + r.2)) else (d, dF (sumAt rows d))) = (d, dF (sumAt (rows ++ [r]) d))
    rw [sumAt_snoc]
    by_cases e : d = r.1
    · rw [if_pos e, if_pos e.symm, e]
    · rw [if_neg e, if_neg fun z => e z.symm]
  · rw [decide_eq_false h, if_neg (by simp), if_neg h, List.map_append]
    congr 1
    · refine List.map_congr_left fun d hd => ?_
      rw [sumAt_snoc, if_neg fun e => h (by rw [e]; exact hd)]
    · rw [List.map_cons, List.map_nil, sumAt_snoc, if_pos rfl]
/-- no chance below zero, their sum one -/
noncomputable def chOk (rs : List Rat) : Bool := decide (∀ r ∈ rs, 0 ≤ r) && decide (rsum rs = 1)
/-- the law that rows make -/
noncomputable def lawF (rows : List (D × Rat)) : List (D × Rat) := ((sortD (keysOf rows)).filter fun d => decide (sumAt rows d ≠ 0)).map fun d => (d, sumAt rows d)
/-- outcomes that may be keys and can be sorted -/
def OutOk (rows : List (D × Rat)) : Prop := (∀ r ∈ rows, keyOk r.1) ∧ (∀ r ∈ rows, ∀ r' ∈ rows, PySem.W.alike r.1.py r'.1.py = true) ∧ ∀ r ∈ rows, ∃ x t, r.1.py = .tuple (x :: t)
def RowsOk (rows : List (D × Rat)) : Prop := rows.length ≤ 20001 ∧ SumOk (rows.map (·.2)) ∧ ∀ i d, Sz LIM (sumAt (rows.take i) d)
def psp_are_chances : Psp := ⟨1, fun xs q => ∃ rs : List Rat, xs = [.fr (dFs rs)] ∧ (rs.length ≤ 20001 ∧ SumOk rs) ∧ q (.fr (.bl (chOk rs))) []⟩
abbrev sp_are_chances (K : PySem.W.Frag) : Sp := Lsp K psp_are_chances
def psp_law_from (A : Ad) : PspX := ⟨1, fun xs q e => ∃ rows, xs = [.fr (dOuts rows)] ∧ (RowsOk rows ∧ OutOk rows) ∧ (chOk (rows.map (·.2)) = true → q (.ow false (.lst ((lawF rows).map dOut))) []) ∧ (chOk (rows.map (·.2)) = false → e ⟨A.InvalidLaw, [], []⟩ [])⟩
abbrev sp_law_from (K : PySem.W.Frag) (A : Ad) : Sp := LspX K (psp_law_from A)
theorem keys_alike {rows : List (D × Rat)} (h : OutOk rows) : PySem.W.AllAlike ((sumsD rows).map fun p => p.1.py) ∧ PySem.W.Sortable ((sumsD rows).map fun p => p.1.py) := by
  have hm : ∀ d ∈ (sumsD rows).map fun p => p.1.py, ∃ r ∈ rows, d = r.1.py := fun d hd => by
    obtain ⟨p, hp, rfl⟩ := List.mem_map.mp hd
    unfold sumsD at hp
    obtain ⟨k, hk, rfl⟩ := List.mem_map.mp hp
    obtain ⟨r, hr, e⟩ := mem_keysOf.mp hk
    exact ⟨r, hr, by rw [e]⟩
  refine ⟨fun d hd d' hd' => ?_, .inl fun d hd => ?_⟩
  · obtain ⟨r, hr, rfl⟩ := hm d hd
    obtain ⟨r', hr', rfl⟩ := hm d' hd'
    exact h.2.1 r hr r' hr'
  · obtain ⟨r, hr, rfl⟩ := hm d hd
    exact h.2.2 r hr
theorem keysOf_len (rows : List (D × Rat)) : (keysOf rows).length ≤ rows.length := by
  rw [keysOf_eq]
  suffices h : ∀ (rows : List (D × Rat)) (ks : List D), (rows.foldl keysAdd ks).length ≤ ks.length + rows.length by
    have := h rows []
    simpa using this
  intro rows
  induction rows with
  | nil => intro ks; simp
  | cons r rows ih =>
    intro ks
    rw [List.foldl_cons]
    have := ih (keysAdd ks r)
    have h2 : (keysAdd ks r).length ≤ ks.length + 1 := by
      unfold keysAdd
      split
      · omega
      · simp
    rw [List.length_cons]
    omega
/-! ### comprehensions with a filter; own things read whole -/
theorem pLc_fil {pi : PI1} {pg : PG1} {pt : PT1} {ss : List Nat} {pe : PD} {vs : List Nat} {s : Sl} {q : S → Sl → Prop} (ds : List D) (fl : Nat → List D) (s1 S0 : Sl) (h1 : ∀ k : List D → Sl → Prop, k ds s1 → pi s k) (hl : ds.length ≤ 100000) (hf : fl 0 = [])
    (hs : ∀ i d, ds[i]? = some d → pg d S0 fun s3 => pt s3 (fun s4 => pe s4 fun e s5 => fl i ++ [e] = fl (i + 1) ∧ wipeS s5 vs = S0) fun s4 => fl i = fl (i + 1) ∧ wipeS s4 vs = S0)
    (hq : q (.ow false (.lst (fl ds.length))) S0) (hss : ss.all vs.contains = true := by rfl) (h0 : wipeS s1 vs = S0 := by rfl) : pLc pi pg ss pt pe vs s q := by
  refine h1 _ ?_
  show (if ss.all vs.contains = true then _ else False)
  rw [if_pos hss]
  refine ⟨hl, fun i acc s => acc = fl i ∧ s = S0, ⟨hf.symm, h0⟩, ?_, ?_⟩
  · rintro i d acc s2 hd ⟨rfl, rfl⟩
    exact hs i d hd
  · rintro acc s2 ⟨rfl, rfl⟩
    exact hq
theorem dF_zero {t : Rat} : dF t = .tup [.int 0, .int 1] ↔ t = 0 := ⟨fun h => dF_inj (h.trans rfl), fun h => by rw [h]; rfl⟩
theorem dF_one {t : Rat} : dF t = .tup [.int 1, .int 1] ↔ t = 1 := ⟨fun h => dF_inj (h.trans rfl), fun h => by rw [h]; rfl⟩
theorem fm_take {α β : Type} {l : List α} {p : α → Bool} {f : α → β} {i : Nat} {d : α} (h : l[i]? = some d) : ((l.take (i + 1)).filter p).map f = ((l.take i).filter p).map f ++ (if p d = true then [f d] else []) := by
  rw [List.take_add_one, h, Option.toList_some, List.filter_append, List.map_append]
  congr 1
  by_cases e : p d = true
  · rw [if_pos e, List.filter_cons_of_pos e]; rfl
  · rw [if_neg e, List.filter_cons_of_neg e]; rfl
theorem map_step {α β : Type} {l : List α} {f : α → β} {i : Nat} {d : α} (h : l[i]? = some d) : (l.map f).take i ++ [f d] = (l.map f).take (i + 1) := by
  rw [List.take_add_one, List.getElem?_map, h]
  rfl
theorem dFs_map {α : Type} (f : α → Rat) (l : List α) : dFs (l.map f) = .lst (l.map fun x => dF (f x)) := by
  unfold dFs
  rw [List.map_map]
  rfl
theorem flat_len {α β : Type} {f : α → List β} {n : Nat} : ∀ {l : List α}, (∀ a ∈ l, (f a).length = n) → (l.flatMap f).length = l.length * n
  | [], _ => by simp
  | a :: l, h => by
    rw [List.flatMap_cons, List.length_append, h a List.mem_cons_self, flat_len fun x hx => h x (List.mem_cons_of_mem _ hx), List.length_cons, Nat.add_mul, Nat.one_mul, Nat.add_comm]
/-- a comprehension with two for, the second over the same items each time -/
theorem pLc2_map {pi pi1 : PI1} {pg pg1 : PG1} {ss ss1 : List Nat} {pe : PD} {vs vs1 : List Nat} {s : Sl} {q : S → Sl → Prop} (ds es : List D) (f : D → D → D) (s1 S0 : Sl) (S1 : D → Sl) (h1 : ∀ k : List D → Sl → Prop, k ds s1 → pi s k) (hN : ds.length * es.length < 1000000)
    (hs : ∀ (i : Nat) d, ds[i]? = some d → pg d S0 fun s3 => pi1 s3 fun es' s5 => es' = es ∧ wipeS s5 vs1 = S1 d)
    (hs1 : ∀ (i : Nat) d (j : Nat) e, ds[i]? = some d → es[j]? = some e → pg1 e (S1 d) fun s7 => pe s7 fun x s9 => x = f d e ∧ wipeS s9 vs1 = S1 d)
    (hm : ∀ (i : Nat) d (k k' : List D → Sl → Prop), ds[i]? = some d →  (∀ x y, k x y → k' x y) → (pg d S0 fun s3 => pi1 s3 k) → pg d S0 fun s3 => pi1 s3 k')
    (hm1 : ∀ (d e : D) (k k' : D → Sl → Prop), (∀ x y, k x y → k' x y) → (pg1 e (S1 d) fun s3 => pe s3 k) → pg1 e (S1 d) fun s3 => pe s3 k')
    (hw : ∀ d, wipeS (S1 d) vs = S0)
    (hq : q (.ow false (.lst (ds.flatMap fun d => es.map (f d)))) S0) (hss : (ss.all vs.contains && ss1.all vs1.contains && vs1.all vs.contains) = true := by rfl) (h0 : wipeS s1 vs = S0 := by rfl) : pLc2 pi pg ss (fun s y _ => y s) pi1 pg1 ss1 (fun s y _ => y s) pe vs vs1 s q := by
  refine h1 _ ?_
  show (if (ss.all vs.contains && ss1.all vs1.contains && vs1.all vs.contains) = true then _ else False)
  rw [if_pos hss]
  refine ⟨fun i acc s => acc = (ds.take i).flatMap (fun d => es.map (f d)) ∧ s = S0, ⟨rfl, h0⟩, ?_, ?_⟩
  · rintro i d acc s2 hd ⟨rfl, rfl⟩
    refine hm i d _ _ hd ?_ (hs i d hd)
    rintro es' s5 ⟨rfl, hs5⟩
    have hlt := lt_of_at hd
    refine ⟨fun j acc s => acc = (ds.take i).flatMap (fun d => es'.map (f d)) ++ (es'.take j).map (f d) ∧ s = S1 d, ⟨by simp, hs5⟩, ?_, ?_⟩
    · rintro j e acc s6 he ⟨rfl, rfl⟩
      refine hm1 d e _ _ ?_ (hs1 i d j e hd he)
      rintro x s9 ⟨rfl, hs9⟩
      refine ⟨?_, ?_, hs9⟩
      · rw [List.length_append, flat_len (n := es'.length) (fun a _ => by rw [List.length_map]), List.length_map, List.length_take, List.length_take, Nat.min_eq_left (by omega)]
        have hj := lt_of_at he
        have : (i + 1) * es'.length ≤ ds.length * es'.length := Nat.mul_le_mul_right _ hlt
        rw [Nat.add_mul, Nat.one_mul] at this
        omega
      · rw [List.take_add_one, he, Option.toList_some, List.map_append, List.append_assoc]
        rfl
    · rintro acc s6 ⟨rfl, rfl⟩
      refine ⟨?_, hw d⟩
      rw [List.take_length, List.take_add_one, hd, Option.toList_some, List.flatMap_append]
      simp
  · rintro acc s2 ⟨rfl, rfl⟩
    rw [List.take_length]
    exact hq
theorem plN_up : ∀ {n m : Nat} {d : D}, D.plN n d = true → n ≤ m → D.plN m d = true := by
  intro n
  induction n with
  | zero =>
    intro m d h _
    cases d <;> first | (cases m <;> exact h) | cases h
  | succ n ih =>
    intro m d h hm
    obtain ⟨m, rfl⟩ : ∃ m', m = m' + 1 := ⟨m - 1, by omega⟩
    have al : ∀ ds : List D, ds.all (D.plN n) = true → ds.all (D.plN m) = true := fun ds hd =>
      List.all_eq_true.mpr fun x hx => ih (List.all_eq_true.mp hd x hx) (by omega)
    cases d <;> first | exact h | exact al _ h
theorem hu66 {k : Nat} {A : Around} (hr : Room k A) : A.units + 65 < cLine := by have := hr.un; omega
/-! ### fractions over a common denominator -/
def Fz (M B : Nat) (r : Rat) : Prop := r.den ∣ M ∧ r.num.natAbs ≤ B * r.den
theorem Fz.den_le {M B : Nat} {r : Rat} (h : Fz M B r) (hM : 0 < M) : r.den ≤ M := Nat.le_of_dvd hM h.1
theorem Fz.sz {M B n : Nat} {r : Rat} (h : Fz M B r) (hM : 0 < M) (hB : B * M < 2 ^ n) (hM2 : M < 2 ^ n) : Sz n r :=
  ⟨Nat.lt_of_le_of_lt (Nat.le_trans h.2 (Nat.mul_le_mul_left B (h.den_le hM))) hB, Nat.lt_of_le_of_lt (h.den_le hM) hM2⟩
theorem Fz.szP {a b n : Nat} {M B : Nat} {r : Rat} (h : Fz M B r) (hM : 0 < M) (h1 : M < 2 ^ a) (h2 : B < 2 ^ b) (hn : a + b ≤ n) : Sz n r := by
  refine h.sz hM ?_ (Nat.lt_of_lt_of_le h1 (Nat.pow_le_pow_right (by decide) (by omega)))
  refine Nat.lt_of_lt_of_le (Nat.mul_lt_mul'' h2 h1) ?_
  rw [← Nat.pow_add]
  exact Nat.pow_le_pow_right (by decide) (by omega)
theorem Fz.up {M M' B B' : Nat} {r : Rat} (h : Fz M B r) (hM : M ∣ M') (hB : B ≤ B') : Fz M' B' r := ⟨Nat.dvd_trans h.1 hM, Nat.le_trans h.2 (Nat.mul_le_mul_right _ hB)⟩
/-- size, by the number itself -/
theorem abs_le_iff {B : Nat} {r : Rat} : r.num.natAbs ≤ B * r.den ↔ -(B : Rat) ≤ r ∧ r ≤ (B : Rat) := by
  have hd : (0 : Int) < (r.den : Int) := Int.natCast_pos.mpr r.den_pos
  have e1 : (r ≤ (B : Rat)) ↔ r.num ≤ (B : Int) * (r.den : Int) := by
    rw [Rat.le_iff]
    have z1 : ((B : Rat)).num = (B : Int) := rfl
    have z2 : ((B : Rat)).den = 1 := rfl
    rw [z1, z2]
    simp
  have e2 : (-(B : Rat) ≤ r) ↔ -((B : Int) * (r.den : Int)) ≤ r.num := by
    rw [Rat.le_iff]
    have z1 : (-(B : Rat)).num = -(B : Int) := rfl
    have z2 : (-(B : Rat)).den = 1 := rfl
    rw [z1, z2]
    simp [Int.neg_mul]
  rw [e1, e2]
  have : ((B * r.den : Nat) : Int) = (B : Int) * (r.den : Int) := by simp
  omega
theorem den_dvd (k : Int) (M : Nat) (hM : M ≠ 0) : (Rat.divInt k (M : Int)).den ∣ M := by
  rw [Rat.den_divInt, if_neg (by omega), Int.natAbs_natCast]
  exact Nat.div_dvd_of_dvd (Int.natAbs_natCast M ▸ Int.gcd_dvd_natAbs_left ..)
theorem as_div {M : Nat} {a : Rat} (ha : a.den ∣ M) (hM : M ≠ 0) : ∃ k : Int, a = Rat.divInt k (M : Int) := by
  obtain ⟨c, rfl⟩ := ha
  have hc : (c : Int) ≠ 0 := fun h => hM (by rw [show c = 0 by omega, Nat.mul_zero])
  refine ⟨a.num * c, ?_⟩
  rw [Int.natCast_mul, Rat.divInt_mul_right hc, Rat.num_divInt_den]
theorem den_add {M : Nat} {a b : Rat} (ha : a.den ∣ M) (hb : b.den ∣ M) : (a + b).den ∣ M := by
  by_cases hM : M = 0
  · rw [hM]; exact Nat.dvd_zero _
  · obtain ⟨k, rfl⟩ := as_div ha hM
    obtain ⟨l, rfl⟩ := as_div hb hM
    have h2 : (M : Int) ≠ 0 := by omega
    rw [Rat.divInt_add_divInt _ _ h2 h2, ← Int.add_mul, Rat.divInt_mul_right h2]
    exact den_dvd _ _ hM
theorem den_mul {M N : Nat} {a b : Rat} (ha : a.den ∣ M) (hb : b.den ∣ N) : (a * b).den ∣ M * N := by
  by_cases hM : M = 0
  · rw [hM, Nat.zero_mul]; exact Nat.dvd_zero _
  by_cases hN : N = 0
  · rw [hN, Nat.mul_zero]; exact Nat.dvd_zero _
  obtain ⟨k, rfl⟩ := as_div ha hM
  obtain ⟨l, rfl⟩ := as_div hb hN
  rw [Rat.divInt_mul_divInt, ← Int.natCast_mul]
  exact den_dvd _ _ (Nat.mul_ne_zero hM hN)
theorem abs_mul {A B a b : Rat} (h1 : -A ≤ a) (h2 : a ≤ A) (h3 : -B ≤ b) (h4 : b ≤ B) : -(A * B) ≤ a * b ∧ a * b ≤ A * B := by
  have x1 : 0 ≤ A + a := by grind
  have x2 : 0 ≤ A - a := by grind
  have x3 : 0 ≤ B + b := by grind
  have x4 : 0 ≤ B - b := by grind
  have y1 := Rat.mul_nonneg x1 x3
  have y2 := Rat.mul_nonneg x1 x4
  have y3 := Rat.mul_nonneg x2 x3
  have y4 := Rat.mul_nonneg x2 x4
  constructor <;> grind
theorem Fz.add {M A B : Nat} {a b : Rat} (ha : Fz M A a) (hb : Fz M B b) : Fz M (A + B) (a + b) := by
  refine ⟨den_add ha.1 hb.1, abs_le_iff.mpr ?_⟩
  have h1 := abs_le_iff.mp ha.2
  have h2 := abs_le_iff.mp hb.2
  have : ((A + B : Nat) : Rat) = (A : Rat) + (B : Rat) := by push_cast; rfl
  rw [this]
  constructor <;> grind
theorem Fz.neg {M A : Nat} {a : Rat} (ha : Fz M A a) : Fz M A (-a) := by
  refine ⟨by rw [Rat.neg_den]; exact ha.1, ?_⟩
  rw [Rat.neg_num, Rat.neg_den, Int.natAbs_neg]
  exact ha.2
theorem Fz.sub {M A B : Nat} {a b : Rat} (ha : Fz M A a) (hb : Fz M B b) : Fz M (A + B) (a - b) := by
  rw [Rat.sub_eq_add_neg]
  exact ha.add hb.neg
theorem Fz.mul {M N A B : Nat} {a b : Rat} (ha : Fz M A a) (hb : Fz N B b) : Fz (M * N) (A * B) (a * b) := by
  refine ⟨den_mul ha.1 hb.1, abs_le_iff.mpr ?_⟩
  have h1 := abs_le_iff.mp ha.2
  have h2 := abs_le_iff.mp hb.2
  have : ((A * B : Nat) : Rat) = (A : Rat) * (B : Rat) := by push_cast; rfl
  rw [this]
  exact abs_mul h1.1 h1.2 h2.1 h2.2
theorem Fz.zero (M B : Nat) : Fz M B 0 := ⟨Nat.one_dvd _, Nat.zero_le _⟩
theorem Fz.rsum {M B : Nat} : ∀ {rs : List Rat}, (∀ r ∈ rs, Fz M B r) → Fz M (rs.length * B) (rsum rs)
  | [], _ => by rw [rsum_nil]; exact Fz.zero _ _
  | r :: rs, h => by
    rw [rsum_cons]
    have := (h r List.mem_cons_self).add (Fz.rsum fun x hx => h x (List.mem_cons_of_mem _ hx))
    refine this.up (Nat.dvd_refl _) ?_
    rw [List.length_cons, Nat.add_mul, Nat.one_mul, Nat.add_comm]
    exact Nat.le_refl _
theorem fz_sumOk {M B n : Nat} {rs : List Rat} (h : ∀ r ∈ rs, Fz M B r) (hM : 0 < M) (hl : rs.length ≤ n) (h1 : (n + 1) * B * M < 2 ^ LIM) (h2 : M < 2 ^ LIM) : SumOk rs := by
  have up : ∀ C, C ≤ (n + 1) * B → C * M < 2 ^ LIM := fun C hC => Nat.lt_of_le_of_lt (Nat.mul_le_mul_right _ hC) h1
  refine ⟨fun r hr => (h r hr).sz hM (up B ?_) h2, fun i => ?_⟩
  · rw [Nat.add_mul, Nat.one_mul]; omega
  · have := Fz.rsum (rs := rs.take i) fun r hr => h r (List.mem_of_mem_take hr)
    refine this.sz hM (up _ ?_) h2
    refine Nat.mul_le_mul_right _ ?_
    have := List.length_take_le' i rs
    omega
/-! ### family A draws: a deck, a list of the script's copy, a place, what is left of a great cell, a seed -/
structure Dek where
  ns : List Int
  a : Int
  c : Int
  d : Int
  ha : 0 ≤ a
  hc : 0 ≤ c
def deckO (k : Dek) : O := .lst [.lst (k.ns.map .int), .int k.a, .int k.c, .int k.d]
def psp__law_deck : Psp := ⟨1, fun xs q => ∃ ns : List Int, xs = [.fr (.scr ns)] ∧ ∀ k : Dek, q (.ow false (deckO k)) []⟩
abbrev sp__law_deck (K : PySem.W.Frag) : Sp := Lsp K psp__law_deck
def psp__law_draw : Psp := ⟨2, fun xs q => ∃ (k : Dek) (m : Int), xs = [.ow true (deckO k), .fr (.int m)] ∧ (0 < m ∧ m < 2 ^ 64) ∧ ∀ (z : Int) (k' : Dek), 0 ≤ z → z < m → q (.fr (.int z)) [deckO k']⟩
abbrev sp__law_draw (K : PySem.W.Frag) : Sp := Lsp K psp__law_draw
theorem deck_divW {m : Int} (h0 : 0 < m) (h1 : m < 2 ^ 64) : CDivW 0 m := wide_div (b := 64) h0 (by omega) (by decide) (by decide)
/-! ### means and covariances -/
def dT2 (r : Rat × Rat) : D := .tup [dF r.1, dF r.2]
def dT3 (r : Rat × Rat × Rat) : D := .tup [dF r.1, dF r.2.1, dF r.2.2]
def dRR (rows : List (Rat × Rat)) : D := .lst (rows.map dT2)
def dR3 (rows : List (Rat × Rat × Rat)) : D := .lst (rows.map dT3)
theorem dRR_map {α : Type} (f : α → Rat × Rat) (l : List α) : dRR (l.map f) = .lst (l.map fun x => dT2 (f x)) := by
  unfold dRR
  rw [List.map_map]
  rfl
theorem dR3_map {α : Type} (f : α → Rat × Rat × Rat) (l : List α) : dR3 (l.map f) = .lst (l.map fun x => dT3 (f x)) := by
  unfold dR3
  rw [List.map_map]
  rfl
def meanF (rows : List (Rat × Rat)) : Rat := rsum (rows.map fun r => r.1 * r.2)
def covF (rows : List (Rat × Rat × Rat)) : Rat :=
  rsum (rows.map fun r => (r.1 - meanF (rows.map fun r => (r.1, r.2.2))) * (r.2.1 - meanF (rows.map fun r => (r.2.1, r.2.2))) * r.2.2)
def varF (rows : List (Rat × Rat)) : Rat := covF (rows.map fun r => (r.1, r.1, r.2))
def MeanOk (rows : List (Rat × Rat)) : Prop := rows.length ≤ 20000 ∧ (∀ r ∈ rows, Sz LIM r.1 ∧ Sz LIM r.2) ∧ SumOk (rows.map fun r => r.1 * r.2)
def CovOk (rows : List (Rat × Rat × Rat)) : Prop := rows.length ≤ 20000 ∧ MeanOk (rows.map fun r => (r.1, r.2.2)) ∧ MeanOk (rows.map fun r => (r.2.1, r.2.2)) ∧ Sz LIM (meanF (rows.map fun r => (r.1, r.2.2))) ∧ Sz LIM (meanF (rows.map fun r => (r.2.1, r.2.2))) ∧
  (∀ r ∈ rows, Sz LIM (r.1 - meanF (rows.map fun r => (r.1, r.2.2))) ∧ Sz LIM (r.2.1 - meanF (rows.map fun r => (r.2.1, r.2.2))) ∧ Sz LIM ((r.1 - meanF (rows.map fun r => (r.1, r.2.2))) * (r.2.1 - meanF (rows.map fun r => (r.2.1, r.2.2)))) ∧ Sz LIM r.2.2) ∧
  SumOk (rows.map fun r => (r.1 - meanF (rows.map fun r => (r.1, r.2.2))) * (r.2.1 - meanF (rows.map fun r => (r.2.1, r.2.2))) * r.2.2)
def psp_mean : Psp := ⟨1, fun xs q => ∃ rows, xs = [.fr (dRR rows)] ∧ MeanOk rows ∧ q (.fr (dF (meanF rows))) []⟩
abbrev sp_mean (K : PySem.W.Frag) : Sp := Lsp K psp_mean
abbrev sp__law_mean (K : PySem.W.Frag) : Sp := Lsp K psp_mean
def psp_covariance : Psp := ⟨1, fun xs q => ∃ rows, xs = [.fr (dR3 rows)] ∧ CovOk rows ∧ q (.fr (dF (covF rows))) []⟩
abbrev sp_covariance (K : PySem.W.Frag) : Sp := Lsp K psp_covariance
def psp_variance : Psp := ⟨1, fun xs q => ∃ rows, xs = [.fr (dRR rows)] ∧ (rows.length ≤ 20000 ∧ CovOk (rows.map fun r => (r.1, r.1, r.2))) ∧ q (.fr (dF (varF rows))) []⟩
abbrev sp_variance (K : PySem.W.Frag) : Sp := Lsp K psp_variance
def spreadF (rows : List (Rat × Rat)) : Rat := meanF (rows.map fun r => (r.1 * r.1, r.2)) - meanF rows * meanF rows
def psp__law_spread : Psp := ⟨1, fun xs q => ∃ rows, xs = [.fr (dRR rows)] ∧ (MeanOk rows ∧ MeanOk (rows.map fun r => (r.1 * r.1, r.2)) ∧ Sz LIM (meanF rows) ∧ Sz LIM (meanF rows * meanF rows) ∧ Sz LIM (meanF (rows.map fun r => (r.1 * r.1, r.2)))) ∧ q (.fr (dF (spreadF rows))) []⟩
abbrev sp__law_spread (K : PySem.W.Frag) : Sp := Lsp K psp__law_spread
/-! mixed laws, joined laws -/
def mixF (laws : List (List (D × Rat))) (chances : List Rat) : List (D × Rat) := (laws.zip chances).flatMap fun p => p.1.map fun r => (r.1, p.2 * r.2)
def joinF (a b : List (D × Rat)) : List (D × Rat) := a.flatMap fun r => b.map fun t => (.tup [r.1, t.1], r.2 * t.2)
def MixOk (laws : List (List (D × Rat))) (chances : List Rat) : Prop := (∀ l ∈ laws, l.length ≤ 20000 ∧ ∀ r ∈ l, Sz LIM r.2) ∧ RowsOk (mixF laws chances) ∧ OutOk (mixF laws chances)
def psp_mixed (A : Ad) : PspX := ⟨2, fun xs q e => ∃ (laws : List (List (D × Rat))) (chances : List Rat), xs = [.fr (.lst (laws.map dOuts)), .fr (dFs chances)] ∧ (laws.length = chances.length ∧ chances.length ≤ 20000 ∧ SumOk chances) ∧
  (chOk chances = true → MixOk laws chances ∧ chOk ((mixF laws chances).map (·.2)) = true ∧ q (.ow false (.lst ((lawF (mixF laws chances)).map dOut))) []) ∧ (chOk chances = false → e ⟨A.InvalidLaw, [], []⟩ [])⟩
abbrev sp_mixed (K : PySem.W.Frag) (A : Ad) : Sp := LspX K (psp_mixed A)
def psp_joined : Psp := ⟨2, fun xs q => ∃ (a b : List (D × Rat)), xs = [.fr (dOuts a), .fr (dOuts b)] ∧ (a.length ≤ 100 ∧ b.length ≤ 100 ∧ (∀ r ∈ a, Sz LIM r.2) ∧ (∀ r ∈ b, Sz LIM r.2)) ∧ q (.ow false (.lst ((joinF a b).map dOut))) []⟩
abbrev sp_joined (K : PySem.W.Frag) : Sp := Lsp K psp_joined
/-! shares and rows that are drawn -/
def ShOk (m : Nat) (rs : List Rat) : Prop := rs.length = m ∧ (∀ r ∈ rs, 0 ≤ r ∧ r ≤ 1 ∧ r.den ≤ 16 ∧ r.num.natAbs ≤ 16) ∧ rsum rs = 1
def RwOk (rows : List (Rat × Rat)) : Prop := (rows.length ≤ 4 ∧ 1 ≤ rows.length) ∧ (∀ r ∈ rows, r.1.den ≤ 4 ∧ r.1.num.natAbs ≤ 7) ∧ ShOk rows.length (rows.map (·.2))
/-! ### shares -/
theorem rsum_div {S : Int} (hS : S ≠ 0) : ∀ ns : List Int, rsum (ns.map fun n => Rat.divInt n S) = Rat.divInt ns.sum S
  | [] => by rw [List.map_nil, rsum_nil, List.sum_nil, Rat.zero_divInt]
  | n :: ns => by
    rw [List.map_cons, rsum_cons, rsum_div hS ns, List.sum_cons, Rat.divInt_add_divInt _ _ hS hS, ← Int.add_mul, Rat.divInt_mul_right hS]
theorem sum_bound : ∀ {ns : List Int}, (∀ n ∈ ns, 0 ≤ n ∧ n ≤ 4) → 0 ≤ ns.sum ∧ ns.sum ≤ 4 * ns.length ∧ ∀ n ∈ ns, n ≤ ns.sum
  | [], _ => ⟨by decide, by decide, fun _ h => by cases h⟩
  | x :: ns, h => by
    have ⟨h1, h2, h3⟩ := sum_bound fun n hn => h n (List.mem_cons_of_mem _ hn)
    have ⟨x0, x1⟩ := h x List.mem_cons_self
    rw [List.sum_cons, List.length_cons]
    refine ⟨by omega, by omega, fun n hn => ?_⟩
    rcases List.mem_cons.mp hn with rfl | hn
    · omega
    · have := h3 n hn; omega
theorem divInt_one {S : Int} (hS : S ≠ 0) : Rat.divInt S S = 1 := by
  have := Rat.divInt_mul_right (n := 1) (d := 1) hS
  rw [Int.one_mul] at this
  rw [this]
  rfl
theorem divInt_share {n S : Int} (h0 : 0 ≤ n) (h1 : n ≤ S) (h2 : S ≤ 16) (hS : 0 < S) : 0 ≤ Rat.divInt n S ∧ Rat.divInt n S ≤ 1 ∧ (Rat.divInt n S).den ≤ 16 ∧ (Rat.divInt n S).num.natAbs ≤ 16 := by
  have hd : (Rat.divInt n S).den ≤ 16 := by
    obtain ⟨m, rfl⟩ := Int.eq_ofNat_of_zero_le (Int.le_of_lt hS)
    exact Nat.le_trans (Nat.le_of_dvd (by omega) (den_dvd n m (by omega))) (by omega)
  have hn : 0 ≤ Rat.divInt n S := (Rat.divInt_nonneg_iff_of_pos_right hS).mpr h0
  have hl : Rat.divInt n S ≤ 1 := by
    have e : 1 - Rat.divInt n S = Rat.divInt (S - n) S := by
      rw [← divInt_one (S := S) (by omega), Rat.divInt_sub_divInt _ _ (by omega) (by omega), ← Int.sub_mul, Rat.divInt_mul_right (by omega)]
    have : 0 ≤ 1 - Rat.divInt n S := by
      rw [e]
      exact (Rat.divInt_nonneg_iff_of_pos_right hS).mpr (by omega)
    grind
  refine ⟨hn, hl, hd, ?_⟩
  have := (abs_le_iff (B := 1) (r := Rat.divInt n S)).mpr ⟨by grind, hl⟩
  omega
theorem shOk_of {m : Nat} {ns : List Int} (hm : m ≤ 4) (hl : ns.length = m) (hb : ∀ n ∈ ns, 0 ≤ n ∧ n ≤ 4) (hp : 0 < ns.sum) : ShOk m (ns.map fun n => Rat.divInt n ns.sum) := by
  have ⟨h1, h2, h3⟩ := sum_bound hb
  refine ⟨by rw [List.length_map]; exact hl, fun r hr => ?_, ?_⟩
  · obtain ⟨n, hn, rfl⟩ := List.mem_map.mp hr
    exact divInt_share (hb n hn).1 (h3 n hn) (by omega) hp
  · rw [rsum_div (by omega), divInt_one (by omega)]
/-- a fraction with small parts -/
theorem divInt_small {n d : Int} {N D : Nat} (h1 : n.natAbs ≤ N) (h2 : 0 < d) (h3 : d ≤ D) : (Rat.divInt n d).den ≤ D ∧ (Rat.divInt n d).num.natAbs ≤ N := by
  constructor
  · obtain ⟨m, rfl⟩ := Int.eq_ofNat_of_zero_le (Int.le_of_lt h2)
    exact Nat.le_trans (Nat.le_of_dvd (by omega) (den_dvd n m (by omega))) (by omega)
  · rw [Rat.num_divInt]
    refine Nat.le_trans ?_ h1
    have hs : d.sign = 1 := Int.sign_eq_one_of_pos h2
    rw [hs, Int.one_mul]
    exact Int.natAbs_ediv_le_natAbs _ _
/-! ### moments: the plain law -/
theorem rsum_add2 {α : Type} {f g : α → Rat} : ∀ {l : List α}, rsum (l.map fun x => f x + g x) = rsum (l.map f) + rsum (l.map g)
  | [] => by simp only [List.map_nil, rsum_nil]; grind
  | x :: l => by simp only [List.map_cons, rsum_cons, rsum_add2 (l := l)]; grind
theorem rsum_sub2 {α : Type} {f g : α → Rat} : ∀ {l : List α}, rsum (l.map fun x => f x - g x) = rsum (l.map f) - rsum (l.map g)
  | [] => by simp only [List.map_nil, rsum_nil]; grind
  | x :: l => by simp only [List.map_cons, rsum_cons, rsum_sub2 (l := l)]; grind
theorem rsum_scale {α : Type} {f : α → Rat} (c : Rat) : ∀ {l : List α}, rsum (l.map fun x => c * f x) = c * rsum (l.map f)
  | [] => by simp only [List.map_nil, rsum_nil]; grind
  | x :: l => by simp only [List.map_cons, rsum_cons, rsum_scale c (l := l)]; grind
theorem rsum_flat {α : Type} {f : α → List Rat} : ∀ {l : List α}, rsum (l.flatMap f) = rsum (l.map fun x => rsum (f x))
  | [] => rfl
  | x :: l => by rw [List.flatMap_cons, rsum_app, List.map_cons, rsum_cons, rsum_flat (l := l)]
theorem rsum_nn : ∀ {l : List Rat}, (∀ r ∈ l, 0 ≤ r) → 0 ≤ rsum l
  | [], _ => by rw [rsum_nil]; exact Rat.le_refl
  | x :: l, h => by
    rw [rsum_cons]
    have := h x List.mem_cons_self
    have := rsum_nn (l := l) fun r hr => h r (List.mem_cons_of_mem _ hr)
    grind
/-! expectations -/
def Ex0 (g : D → Rat) (rows : List (D × Rat)) : Rat := rsum (rows.map fun r => g r.1 * r.2)
theorem keys_sum (g : D → Rat) (r : D × Rat) : ∀ {ks : List D}, ks.Nodup → rsum (ks.map fun d => if r.1 = d then g d * r.2 else 0) = if r.1 ∈ ks then g r.1 * r.2 else 0
  | [], _ => by simp [rsum_nil]
  | k :: ks, h => by
    have ⟨h1, h2⟩ := List.nodup_cons.mp h
    rw [List.map_cons, rsum_cons, keys_sum g r h2]
    by_cases e : r.1 = k
    · subst e
      rw [if_pos rfl, if_neg h1, if_pos List.mem_cons_self]
      grind
    · rw [if_neg e]
      by_cases e2 : r.1 ∈ ks
      · rw [if_pos e2, if_pos (List.mem_cons_of_mem _ e2)]; grind
      · rw [if_neg e2, if_neg (by simp [e, e2])]; grind
theorem rev_ind {α : Type} {P : List α → Prop} (h0 : P []) (h1 : ∀ l a, P l → P (l ++ [a])) (l : List α) : P l := by
  have : ∀ l : List α, P l.reverse := fun l => by
    induction l with
    | nil => exact h0
    | cons a l ih => rw [List.reverse_cons]; exact h1 _ _ ih
  have h := this l.reverse
  rw [List.reverse_reverse] at h
  exact h
theorem E_keys (g : D → Rat) (rows : List (D × Rat)) : rsum ((keysOf rows).map fun d => g d * sumAt rows d) = Ex0 g rows := by
  refine rev_ind (P := fun rows => rsum ((keysOf rows).map fun d => g d * sumAt rows d) = Ex0 g rows) rfl (fun rows r ih => ?_) rows
  have e1 : Ex0 g (rows ++ [r]) = Ex0 g rows + g r.1 * r.2 := by
    unfold Ex0
    rw [List.map_append, rsum_app, List.map_cons, List.map_nil, rsum_cons, rsum_nil]
    grind
  have hs : ∀ d, g d * sumAt (rows ++ [r]) d = g d * sumAt rows d + if r.1 = d then g d * r.2 else 0 := fun d => by
    rw [sumAt_snoc]
    split <;> grind
  rw [e1, ← ih, keysOf_snoc]
  unfold keysAdd
  split
  · rename_i hm
    simp only [hs]
    rw [rsum_add2, keys_sum g r (keysOf_nodup rows), if_pos hm]
  · rename_i hm
    simp only [hs]
    rw [rsum_add2, List.map_append, List.map_append, rsum_app, rsum_app, keys_sum g r (keysOf_nodup rows), if_neg hm]
    simp only [List.map_cons, List.map_nil, rsum_cons, rsum_nil, if_pos]
    rw [sumAt_none hm]
    grind
theorem rsum_filter {α : Type} {p : α → Bool} {f : α → Rat} : ∀ {l : List α}, (∀ x ∈ l, p x = false → f x = 0) → rsum ((l.filter p).map f) = rsum (l.map f)
  | [], _ => rfl
  | x :: l, h => by
    have ih := rsum_filter (l := l) fun y hy => h y (List.mem_cons_of_mem _ hy)
    cases e : p x with
    | true => rw [List.filter_cons_of_pos e, List.map_cons, List.map_cons, rsum_cons, rsum_cons, ih]
    | false =>
      rw [List.filter_cons_of_neg (by rw [e]; decide), List.map_cons, rsum_cons, ih, h x List.mem_cons_self e]
      grind
theorem E_law (g : D → Rat) (rows : List (D × Rat)) : Ex0 g (lawF rows) = Ex0 g rows := by
  rw [← E_keys g rows]
  unfold Ex0 lawF
  rw [List.map_map]
  show rsum (((sortD (keysOf rows)).filter fun d => decide (sumAt rows d ≠ 0)).map fun d => g d * sumAt rows d) = _
  rw [rsum_filter]
  · exact rsum_perm ((List.mergeSort_perm _ _).map _)
  · intro d _ h
    have : sumAt rows d = 0 := by simpa using h
    rw [this]
    grind
theorem E_mix (g : D → Rat) (laws : List (List (D × Rat))) (chances : List Rat) : Ex0 g (mixF laws chances) = rsum ((laws.zip chances).map fun p => p.2 * Ex0 g p.1) := by
  unfold Ex0 mixF
  rw [List.map_flatMap, rsum_flat]
  congr 1
  refine List.map_congr_left fun p _ => ?_
  rw [List.map_map, ← rsum_scale]
  congr 1
  refine List.map_congr_left fun r _ => ?_
  show g r.1 * (p.2 * r.2) = p.2 * (g r.1 * r.2)
  grind
/-! covariances -/
theorem cov_gen (f g : Rat) : ∀ rows : List (Rat × Rat × Rat), rsum (rows.map fun r => (r.1 - f) * (r.2.1 - g) * r.2.2) = rsum (rows.map fun r => r.1 * r.2.1 * r.2.2) - f * rsum (rows.map fun r => r.2.1 * r.2.2) - g * rsum (rows.map fun r => r.1 * r.2.2) + f * g * rsum (rows.map fun r => r.2.2)
  | [] => by simp only [List.map_nil, rsum_nil]; grind
  | r :: rows => by simp only [List.map_cons, rsum_cons, cov_gen f g rows]; grind
theorem cov_eq {rows : List (Rat × Rat × Rat)} (h : rsum (rows.map fun r => r.2.2) = 1) : covF rows = rsum (rows.map fun r => r.1 * r.2.1 * r.2.2) - rsum (rows.map fun r => r.1 * r.2.2) * rsum (rows.map fun r => r.2.1 * r.2.2) := by
  unfold covF
  have e1 : meanF (rows.map fun r => (r.1, r.2.2)) = rsum (rows.map fun r => r.1 * r.2.2) := by unfold meanF; rw [List.map_map]; rfl
  have e2 : meanF (rows.map fun r => (r.2.1, r.2.2)) = rsum (rows.map fun r => r.2.1 * r.2.2) := by unfold meanF; rw [List.map_map]; rfl
  rw [e1, e2, cov_gen, h]
  grind
theorem var_eq {rows : List (Rat × Rat)} (h : rsum (rows.map (·.2)) = 1) : varF rows = spreadF rows := by
  unfold varF
  rw [cov_eq (by rw [List.map_map]; exact h)]
  unfold spreadF meanF
  simp only [List.map_map]
  rfl
/-! numbers as outcomes -/
open Classical in
noncomputable def unD (d : D) : Rat := if h : ∃ r, d = dF r then h.choose else 0
theorem unD_dF (r : Rat) : unD (dF r) = r := by
  have h : ∃ r', dF r = dF r' := ⟨r, rfl⟩
  unfold unD
  rw [dif_pos h]
  exact (dF_inj h.choose_spec).symm
noncomputable def rr (l : List (D × Rat)) : List (Rat × Rat) := l.map fun r => (unD r.1, r.2)
def Num (l : List (D × Rat)) : Prop := ∀ r ∈ l, ∃ v, r.1 = dF v
theorem Num.un {l : List (D × Rat)} (h : Num l) : ∀ r ∈ l, r.1 = dF (unD r.1) := fun r hr => by
  obtain ⟨v, e⟩ := h r hr
  rw [e, unD_dF]
theorem Num.rr {l : List (D × Rat)} (h : Num l) : dOuts l = dRR (rr l) := by
  unfold dOuts dRR Sam.rr
  rw [List.map_map]
  congr 1
  refine List.map_congr_left fun r hr => ?_
  show D.tup [r.1, dF r.2] = D.tup [dF (unD r.1), dF r.2]
  rw [← h.un r hr]
theorem mean_rr (l : List (D × Rat)) : meanF (rr l) = Ex0 unD l := by
  unfold meanF rr Ex0
  rw [List.map_map]
  rfl
theorem sum_rr (l : List (D × Rat)) : rsum ((rr l).map (·.2)) = rsum (l.map (·.2)) := by
  unfold rr
  rw [List.map_map]
  rfl
theorem E_one (l : List (D × Rat)) : Ex0 (fun _ => 1) l = rsum (l.map (·.2)) := by
  unfold Ex0
  congr 1
  exact List.map_congr_left fun r _ => by grind
theorem var_rr {l : List (D × Rat)} (h : rsum (l.map (·.2)) = 1) : varF (rr l) = Ex0 (fun d => unD d * unD d) l - Ex0 unD l * Ex0 unD l := by
  rw [var_eq (by rw [sum_rr]; exact h)]
  unfold spreadF
  rw [mean_rr]
  congr 1
  unfold meanF rr Ex0
  rw [List.map_map, List.map_map]
  rfl
def dD (rows : List (Rat × Rat)) : List (D × Rat) := rows.map fun r => (dF r.1, r.2)
theorem dD_outs (rows : List (Rat × Rat)) : dOuts (dD rows) = dRR rows := by
  unfold dOuts dD dRR
  rw [List.map_map]
  rfl
theorem mem_lawF {rows : List (D × Rat)} {p : D × Rat} (h : p ∈ lawF rows) : (∃ r ∈ rows, r.1 = p.1) ∧ p.2 = sumAt rows p.1 := by
  unfold lawF at h
  obtain ⟨d, hd, rfl⟩ := List.mem_map.mp h
  have hd := (List.mem_filter.mp hd).1
  exact ⟨mem_keysOf.mp ((List.mergeSort_perm _ _).mem_iff.mp hd), rfl⟩
theorem lawF_len (rows : List (D × Rat)) : (lawF rows).length ≤ rows.length := by
  unfold lawF
  rw [List.length_map]
  refine Nat.le_trans (List.length_filter_le _ _) ?_
  rw [show (sortD (keysOf rows)).length = _ from (List.mergeSort_perm _ _).length_eq]
  exact keysOf_len rows
/-- the law of totals -/
theorem total_var {laws : List (List (D × Rat))} {chances : List Rat} (hl : laws.length = chances.length) (h1 : ∀ l ∈ laws, rsum (l.map (·.2)) = 1) (hc : rsum chances = 1) :
    rsum ((mixF laws chances).map (·.2)) = 1 ∧ Ex0 unD (lawF (mixF laws chances)) = meanF ((laws.zip chances).map fun p => (Ex0 unD p.1, p.2)) ∧
    varF (rr (lawF (mixF laws chances))) = meanF ((laws.zip chances).map fun p => (varF (rr p.1), p.2)) + spreadF ((laws.zip chances).map fun p => (Ex0 unD p.1, p.2)) := by
  have hz : ∀ p ∈ laws.zip chances, rsum (p.1.map (·.2)) = 1 := fun p hp => h1 _ (List.of_mem_zip hp).1
  have hs : rsum ((mixF laws chances).map (·.2)) = 1 := by
    rw [← E_one, E_mix]
    refine Eq.trans ?_ hc
    have : (laws.zip chances).map (·.2) = chances := List.map_snd_zip (by omega)
    conv => rhs; rw [← this]
    congr 1
    refine List.map_congr_left fun p hp => ?_
    rw [E_one, hz p hp]
    grind
  have hm : Ex0 unD (lawF (mixF laws chances)) = meanF ((laws.zip chances).map fun p => (Ex0 unD p.1, p.2)) := by
    rw [E_law, E_mix]
    unfold meanF
    rw [List.map_map]
    congr 1
    exact List.map_congr_left fun p _ => by show p.2 * _ = _ * p.2; grind
  refine ⟨hs, hm, ?_⟩
  rw [var_rr (by rw [← E_one, E_law, E_one]; exact hs), hm, E_law, E_mix]
  unfold spreadF
  have e1 : meanF ((laws.zip chances).map fun p => (varF (rr p.1), p.2)) = rsum ((laws.zip chances).map fun p => p.2 * Ex0 (fun d => unD d * unD d) p.1) - rsum ((laws.zip chances).map fun p => Ex0 unD p.1 * Ex0 unD p.1 * p.2) := by
    unfold meanF
    rw [List.map_map, ← rsum_sub2]
    congr 1
    refine List.map_congr_left fun p hp => ?_
    show varF (rr p.1) * p.2 = _
    rw [var_rr (hz p hp)]
    grind
  have e2 : meanF (((laws.zip chances).map fun p => (Ex0 unD p.1, p.2)).map fun r => (r.1 * r.1, r.2)) = rsum ((laws.zip chances).map fun p => Ex0 unD p.1 * Ex0 unD p.1 * p.2) := by
    unfold meanF
    rw [List.map_map, List.map_map]
    rfl
  rw [e1, e2]
  grind
/-- outcomes that are drawn apart don't go together -/
theorem cov_join {a b : List (D × Rat)} (ha : rsum (a.map (·.2)) = 1) (hb : rsum (b.map (·.2)) = 1) : covF (a.flatMap fun r => b.map fun t => (unD r.1, unD t.1, r.2 * t.2)) = 0 := by
  have key : ∀ (g h : D → Rat), rsum ((a.flatMap fun r => b.map fun t => (unD r.1, unD t.1, r.2 * t.2)).map fun _ => (0 : Rat)) = 0 ∧ rsum (a.flatMap fun r => b.map fun t => g r.1 * h t.1 * (r.2 * t.2)) = Ex0 g a * Ex0 h b := fun g h => by
    constructor
    · refine rev_ind (P := fun l : List (Rat × Rat × Rat) => rsum (l.map fun _ => (0 : Rat)) = 0) rfl (fun l a ih => ?_) _
      rw [List.map_append, rsum_app, ih, List.map_cons, List.map_nil, rsum_cons, rsum_nil]
      grind
    · rw [rsum_flat]
      have : ∀ r : D × Rat, rsum (b.map fun t => g r.1 * h t.1 * (r.2 * t.2)) = Ex0 h b * (g r.1 * r.2) := fun r => by
        unfold Ex0
        rw [show (b.map fun t => g r.1 * h t.1 * (r.2 * t.2)) = b.map fun t => (g r.1 * r.2) * (h t.1 * t.2) from List.map_congr_left fun t _ => by grind, rsum_scale]
        grind
      simp only [this]
      rw [rsum_scale]
      unfold Ex0
      grind
  have k1 := (key unD unD).2
  have k2 := (key unD fun _ => 1).2
  have k3 := (key (fun _ => 1) unD).2
  have k4 := (key (fun _ => 1) fun _ => 1).2
  rw [E_one, E_one, ha, hb] at k4
  rw [E_one, hb] at k2
  rw [E_one, ha] at k3
  have mf : ∀ f : Rat × Rat × Rat → Rat, rsum ((a.flatMap fun r => b.map fun t => (unD r.1, unD t.1, r.2 * t.2)).map f) = rsum (a.flatMap fun r => b.map fun t => f (unD r.1, unD t.1, r.2 * t.2)) := fun f => by
    rw [List.map_flatMap]
    simp only [List.map_map]
    rfl
  rw [cov_eq]
  · rw [mf, mf, mf]
    have c2 : (a.flatMap fun r => b.map fun t => unD r.1 * (r.2 * t.2)) = a.flatMap fun r => b.map fun t => unD r.1 * 1 * (r.2 * t.2) := by
      congr 1; funext r; exact List.map_congr_left fun t _ => by grind
    have c3 : (a.flatMap fun r => b.map fun t => unD t.1 * (r.2 * t.2)) = a.flatMap fun r => b.map fun t => 1 * unD t.1 * (r.2 * t.2) := by
      congr 1; funext r; exact List.map_congr_left fun t _ => by grind
    show rsum (a.flatMap fun r => b.map fun t => unD r.1 * unD t.1 * (r.2 * t.2)) - rsum (a.flatMap fun r => b.map fun t => unD r.1 * (r.2 * t.2)) * rsum (a.flatMap fun r => b.map fun t => unD t.1 * (r.2 * t.2)) = 0
    rw [c2, c3, k1, k2, k3]
    grind
  · rw [mf]
    have c4 : (a.flatMap fun r => b.map fun t => (r.2 * t.2)) = a.flatMap fun r => b.map fun t => 1 * 1 * (r.2 * t.2) := by
      congr 1; funext r; exact List.map_congr_left fun t _ => by grind
    show rsum (a.flatMap fun r => b.map fun t => (r.2 * t.2)) = 1
    rw [c4, k4]
    grind
/-! sizes: everything over powers of 720720 -/
abbrev LC : Nat := 720720
theorem dvd_LC {d : Nat} (h0 : 0 < d) (h : d ≤ 16) : d ∣ LC := by
  have : ∀ d : Fin 17, 0 < d.val → d.val ∣ LC := by decide +kernel
  exact this ⟨d, by omega⟩ h0
theorem fz_small {B : Nat} {r : Rat} (h : r.den ≤ 16) (hn : r.num.natAbs ≤ B) : Fz LC B r := ⟨dvd_LC r.den_pos h, Nat.le_trans hn (Nat.le_mul_of_pos_right _ r.den_pos)⟩
abbrev V0 (r : Rat) : Prop := Fz LC 7 r
abbrev V1 (r : Rat) : Prop := Fz (LC ^ 4) (2 ^ 29) r
abbrev V (r : Rat) : Prop := Fz (LC ^ 11) (2 ^ 100) r
abbrev V2 (r : Rat) : Prop := Fz (LC ^ 14) (2 ^ 126) r
abbrev Cz (r : Rat) : Prop := Fz (LC ^ 3) (2 ^ 20) r
theorem LCpos (n : Nat) : 0 < LC ^ n := Nat.pow_pos (by decide)
theorem LCdvd {m n : Nat} (h : m ≤ n) : LC ^ m ∣ LC ^ n := Nat.pow_dvd_pow _ h
theorem LCdvd1 {n : Nat} (h : 1 ≤ n) : LC ∣ LC ^ n := by have := LCdvd (m := 1) h; rwa [Nat.pow_one] at this
theorem fz_sz {B n : Nat} {r : Rat} (h : Fz (LC ^ n) B r) (h1 : B * LC ^ n < 2 ^ 980) (h2 : LC ^ n < 2 ^ 980) : Sz LIM r := h.sz (LCpos n) h1 h2
theorem V0.v {r : Rat} (h : V0 r) : V r := h.up (LCdvd1 (by decide)) (by decide +kernel)
theorem V0.v1 {r : Rat} (h : V0 r) : V1 r := h.up (LCdvd1 (by decide)) (by decide +kernel)
theorem V1.v {r : Rat} (h : V1 r) : V r := h.up (LCdvd (by decide)) (by decide +kernel)
theorem V1.sq {r : Rat} (h : V1 r) : V (r * r) := by
  have := h.mul h
  rw [← Nat.pow_add, ← Nat.pow_add] at this
  exact this.up (LCdvd (by decide)) (by decide +kernel)
theorem V.sz {r : Rat} (h : V r) : Sz LIM r := fz_sz h (by decide +kernel) (by decide +kernel)
theorem V2.sz {r : Rat} (h : V2 r) : Sz LIM r := fz_sz h (by decide +kernel) (by decide +kernel)
theorem V2.sq {r : Rat} (h : V2 r) : Fz (LC ^ 28) (2 ^ 252) (r * r) := by
  have := h.mul h
  rw [← Nat.pow_add, ← Nat.pow_add] at this
  exact this
theorem Cz.sz {r : Rat} (h : Cz r) : Sz LIM r := fz_sz h (by decide +kernel) (by decide +kernel)
theorem V.mul {v c : Rat} (hv : V v) (hc : Cz c) : Fz (LC ^ 14) (2 ^ 120) (v * c) := by
  have := Fz.mul hv hc
  rw [← Nat.pow_add, ← Nat.pow_add] at this
  exact this
theorem meanU {rows : List (Rat × Rat)} (hl : rows.length ≤ 64) (h : ∀ r ∈ rows, V r.1 ∧ Cz r.2) : MeanOk rows ∧ V2 (meanF rows) := by
  have hp : ∀ x ∈ rows.map fun r => r.1 * r.2, Fz (LC ^ 14) (2 ^ 120) x := fun x hx => by
    obtain ⟨r, hr, rfl⟩ := List.mem_map.mp hx
    exact V.mul (h r hr).1 (h r hr).2
  refine ⟨⟨by omega, fun r hr => ⟨(h r hr).1.sz, (h r hr).2.sz⟩, fz_sumOk (n := 64) hp (LCpos 14) (by rw [List.length_map]; exact hl) (by decide +kernel) (by decide +kernel)⟩, ?_⟩
  refine (Fz.rsum hp).up (Nat.dvd_refl _) ?_
  rw [List.length_map]
  exact Nat.le_trans (Nat.mul_le_mul_right _ hl) (by decide +kernel)
theorem meanU0 {rows : List (Rat × Rat)} (hl : rows.length ≤ 64) (h : ∀ r ∈ rows, V0 r.1 ∧ Cz r.2) : V1 (meanF rows) := by
  have hp : ∀ x ∈ rows.map fun r => r.1 * r.2, Fz (LC ^ 4) (7 * 2 ^ 20) x := fun x hx => by
    obtain ⟨r, hr, rfl⟩ := List.mem_map.mp hx
    have := Fz.mul (h r hr).1 (h r hr).2
    rw [show LC * LC ^ 3 = LC ^ 4 from by rw [Nat.pow_succ LC 3, Nat.mul_comm]] at this
    exact this
  refine (Fz.rsum hp).up (Nat.dvd_refl _) ?_
  rw [List.length_map]
  exact Nat.le_trans (Nat.mul_le_mul_right _ hl) (by decide +kernel)
theorem covU {rows : List (Rat × Rat × Rat)} (hl : rows.length ≤ 64) (h : ∀ r ∈ rows, V0 r.1 ∧ V0 r.2.1 ∧ Cz r.2.2) : CovOk rows ∧ V (covF rows) := by
  have h1 : ∀ r ∈ rows.map fun r : Rat × Rat × Rat => (r.1, r.2.2), V0 r.1 ∧ Cz r.2 := fun x hx => by
    obtain ⟨r, hr, rfl⟩ := List.mem_map.mp hx
    exact ⟨(h r hr).1, (h r hr).2.2⟩
  have h2 : ∀ r ∈ rows.map fun r : Rat × Rat × Rat => (r.2.1, r.2.2), V0 r.1 ∧ Cz r.2 := fun x hx => by
    obtain ⟨r, hr, rfl⟩ := List.mem_map.mp hx
    exact (h r hr).2
  have m1 := meanU (by rw [List.length_map]; exact hl) fun r hr => ⟨(h1 r hr).1.v, (h1 r hr).2⟩
  have m2 := meanU (by rw [List.length_map]; exact hl) fun r hr => ⟨(h2 r hr).1.v, (h2 r hr).2⟩
  have f1 := meanU0 (by rw [List.length_map]; exact hl) h1
  have f2 := meanU0 (by rw [List.length_map]; exact hl) h2
  have d1 : ∀ r ∈ rows, Fz (LC ^ 4) (2 ^ 30) (r.1 - meanF (rows.map fun r => (r.1, r.2.2))) := fun r hr => ((h r hr).1.v1.sub f1).up (Nat.dvd_refl _) (by decide +kernel)
  have d2 : ∀ r ∈ rows, Fz (LC ^ 4) (2 ^ 30) (r.2.1 - meanF (rows.map fun r => (r.2.1, r.2.2))) := fun r hr => ((h r hr).2.1.v1.sub f2).up (Nat.dvd_refl _) (by decide +kernel)
  have d3 : ∀ r ∈ rows, Fz (LC ^ 8) (2 ^ 60) ((r.1 - meanF (rows.map fun r => (r.1, r.2.2))) * (r.2.1 - meanF (rows.map fun r => (r.2.1, r.2.2)))) := fun r hr => by
    have := (d1 r hr).mul (d2 r hr)
    rw [← Nat.pow_add, ← Nat.pow_add] at this
    exact this
  have d4 : ∀ x ∈ rows.map fun r => (r.1 - meanF (rows.map fun r => (r.1, r.2.2))) * (r.2.1 - meanF (rows.map fun r => (r.2.1, r.2.2))) * r.2.2, Fz (LC ^ 11) (2 ^ 80) x := fun x hx => by
    obtain ⟨r, hr, rfl⟩ := List.mem_map.mp hx
    have := (d3 r hr).mul (h r hr).2.2
    rw [← Nat.pow_add, ← Nat.pow_add] at this
    exact this
  refine ⟨⟨by omega, m1.1, m2.1, m1.2.sz, m2.2.sz, fun r hr => ⟨fz_sz (d1 r hr) (by decide +kernel) (by decide +kernel), fz_sz (d2 r hr) (by decide +kernel) (by decide +kernel), fz_sz (d3 r hr) (by decide +kernel) (by decide +kernel), (h r hr).2.2.sz⟩, fz_sumOk (n := 64) d4 (LCpos 11) (by rw [List.length_map]; exact hl) (by decide +kernel) (by decide +kernel)⟩, ?_⟩
  unfold covF
  refine (Fz.rsum d4).up (Nat.dvd_refl _) ?_
  rw [List.length_map]
  exact Nat.le_trans (Nat.mul_le_mul_right _ hl) (by decide +kernel)
theorem varU {rows : List (Rat × Rat)} (hl : rows.length ≤ 64) (h : ∀ r ∈ rows, V0 r.1 ∧ Cz r.2) : CovOk (rows.map fun r => (r.1, r.1, r.2)) ∧ V (varF rows) :=
  covU (by rw [List.length_map]; exact hl) fun x hx => by
    obtain ⟨r, hr, rfl⟩ := List.mem_map.mp hx
    exact ⟨(h r hr).1, (h r hr).1, (h r hr).2⟩
theorem spreadU {rows : List (Rat × Rat)} (hl : rows.length ≤ 64) (h : ∀ r ∈ rows, V1 r.1 ∧ Cz r.2) : (MeanOk rows ∧ MeanOk (rows.map fun r => (r.1 * r.1, r.2)) ∧ Sz LIM (meanF rows) ∧ Sz LIM (meanF rows * meanF rows) ∧ Sz LIM (meanF (rows.map fun r => (r.1 * r.1, r.2)))) ∧ Sz LIM (spreadF rows) := by
  have m1 := meanU hl fun r hr => ⟨(h r hr).1.v, (h r hr).2⟩
  have m2 := meanU (rows := rows.map fun r => (r.1 * r.1, r.2)) (by rw [List.length_map]; exact hl) fun x hx => by
    obtain ⟨r, hr, rfl⟩ := List.mem_map.mp hx
    exact ⟨(h r hr).1.sq, (h r hr).2⟩
  refine ⟨⟨m1.1, m2.1, m1.2.sz, fz_sz m1.2.sq (by decide +kernel) (by decide +kernel), m2.2.sz⟩, ?_⟩
  have := (m2.2.up (LCdvd (show 14 ≤ 28 by decide)) (Nat.le_refl _)).sub m1.2.sq
  exact fz_sz this (by decide +kernel) (by decide +kernel)
theorem outOk_num {rows : List (D × Rat)} (h : Num rows) : OutOk rows := by
  refine ⟨fun r hr => ?_, fun r hr r' hr' => ?_, fun r hr => ?_⟩
  · obtain ⟨v, e⟩ := h r hr
    rw [e]
    exact ⟨rfl, rfl⟩
  · obtain ⟨v, e⟩ := h r hr
    obtain ⟨v', e'⟩ := h r' hr'
    rw [e, e']
    rfl
  · obtain ⟨v, e⟩ := h r hr
    rw [e]
    exact ⟨_, _, rfl⟩
theorem fz_sumAt {M B : Nat} {rows : List (D × Rat)} {n : Nat} (hl : rows.length ≤ n) (h : ∀ r ∈ rows, Fz M B r.2) (d : D) : Fz M (n * B) (sumAt rows d) := by
  unfold sumAt
  refine (Fz.rsum (M := M) (B := B) fun x hx => ?_).up (Nat.dvd_refl _) ?_
  · obtain ⟨r, hr, rfl⟩ := List.mem_map.mp hx
    exact h r (List.mem_filter.mp hr).1
  · rw [List.length_map]
    exact Nat.mul_le_mul_right _ (Nat.le_trans (List.length_filter_le _ _) hl)
theorem rowsU {rows : List (D × Rat)} (hl : rows.length ≤ 64) (h : ∀ r ∈ rows, Fz (LC ^ 2) (2 ^ 12) r.2) : RowsOk rows := by
  refine ⟨by omega, fz_sumOk (n := 64) (M := LC ^ 2) (B := 2 ^ 12) (fun x hx => ?_) (LCpos 2) (by rw [List.length_map]; exact hl) (by decide +kernel) (by decide +kernel), fun i d => ?_⟩
  · obtain ⟨r, hr, rfl⟩ := List.mem_map.mp hx
    exact h r hr
  · have := fz_sumAt (n := 64) (rows := rows.take i) (Nat.le_trans (List.length_take_le' _ _) hl) (fun r hr => h r (List.mem_of_mem_take hr)) d
    exact fz_sz this (by decide +kernel) (by decide +kernel)
def LwOk (l : List (D × Rat)) : Prop := l.length ≤ 4 ∧ (∀ r ∈ l, ∃ v, r.1 = dF v ∧ V0 v) ∧ (∀ r ∈ l, 0 ≤ r.2 ∧ Fz LC 64 r.2) ∧ rsum (l.map (·.2)) = 1
theorem LwOk.num {l : List (D × Rat)} (h : LwOk l) : Num l := fun r hr => let ⟨v, e, _⟩ := h.2.1 r hr; ⟨v, e⟩
theorem LwOk.v0 {l : List (D × Rat)} (h : LwOk l) : ∀ r ∈ rr l, V0 r.1 ∧ Cz r.2 := fun x hx => by
  obtain ⟨r, hr, rfl⟩ := List.mem_map.mp hx
  obtain ⟨v, e, hv⟩ := h.2.1 r hr
  refine ⟨?_, (h.2.2.1 r hr).2.up (LCdvd1 (by decide)) (by decide)⟩
  show V0 (unD r.1)
  rw [e, unD_dF]
  exact hv
theorem rr_len (l : List (D × Rat)) : (rr l).length = l.length := List.length_map ..
theorem RwOk.v0 {rows : List (Rat × Rat)} (h : RwOk rows) : ∀ r ∈ rows, V0 r.1 ∧ Cz r.2 := fun r hr => by
  have ⟨h1, h2⟩ := h.2.1 r hr
  have ⟨_, _, h3, h4⟩ := h.2.2.2.1 r.2 (List.mem_map_of_mem hr)
  exact ⟨fz_small (by omega) h2, (fz_small h3 h4).up (LCdvd1 (by decide)) (by decide)⟩
theorem sum_dD (rows : List (Rat × Rat)) : (dD rows).map (·.2) = rows.map (·.2) := by unfold dD; rw [List.map_map]; rfl
theorem sumAt_nn {rows : List (D × Rat)} (h : ∀ r ∈ rows, 0 ≤ r.2) (d : D) : 0 ≤ sumAt rows d := by
  unfold sumAt
  refine rsum_nn fun x hx => ?_
  obtain ⟨r, hr, rfl⟩ := List.mem_map.mp hx
  exact h r (List.mem_filter.mp hr).1
theorem gath_ok {rows : List (Rat × Rat)} (h : RwOk rows) : (RowsOk (dD rows) ∧ OutOk (dD rows)) ∧ LwOk (lawF (dD rows)) := by
  have hnum : Num (dD rows) := fun x hx => by
    obtain ⟨r, hr, rfl⟩ := List.mem_map.mp hx
    exact ⟨_, rfl⟩
  have hlen : (dD rows).length ≤ 4 := by unfold dD; rw [List.length_map]; exact h.1.1
  have hch : ∀ x ∈ dD rows, 0 ≤ x.2 ∧ Fz LC 16 x.2 := fun x hx => by
    obtain ⟨r, hr, rfl⟩ := List.mem_map.mp hx
    have ⟨h0, _, h3, h4⟩ := h.2.2.2.1 r.2 (List.mem_map_of_mem hr)
    exact ⟨h0, fz_small h3 h4⟩
  refine ⟨⟨rowsU (by omega) fun r hr => (hch r hr).2.up (LCdvd1 (by decide)) (by decide), outOk_num hnum⟩, ?_⟩
  refine ⟨Nat.le_trans (lawF_len _) hlen, fun p hp => ?_, fun p hp => ?_, ?_⟩
  · obtain ⟨⟨r, hr, e⟩, _⟩ := mem_lawF hp
    obtain ⟨x, hx, rfl⟩ := List.mem_map.mp hr
    exact ⟨x.1, e.symm, (h.v0 x hx).1⟩
  · obtain ⟨_, e⟩ := mem_lawF hp
    rw [e]
    refine ⟨sumAt_nn (fun r hr => (hch r hr).1) _, ?_⟩
    exact fz_sumAt (n := 4) hlen (fun r hr => (hch r hr).2) _
  · rw [← E_one, E_law, E_one, sum_dD]
    exact h.2.2.2.2
theorem sh_sum {m : Nat} {rs : List Rat} (h : ShOk m rs) (hm : m ≤ 4) : SumOk rs := by
  refine fz_sumOk (n := 4) (M := LC) (B := 16) (fun r hr => fz_small (h.2.1 r hr).2.2.1 (h.2.1 r hr).2.2.2) (by decide) (by rw [h.1]; exact hm) (by decide +kernel) (by decide +kernel)
theorem sh_ok {m : Nat} {rs : List Rat} (h : ShOk m rs) : chOk rs = true := by
  unfold chOk
  rw [h.2.2, decide_eq_true (fun r hr => (h.2.1 r hr).1)]
  rfl
theorem mix_len {laws : List (List (D × Rat))} {chances : List Rat} (h : ∀ l ∈ laws, l.length ≤ 4) (hl : laws.length ≤ 4) : (mixF laws chances).length ≤ 16 := by
  have : ∀ zs : List (List (D × Rat) × Rat), (∀ p ∈ zs, p.1.length ≤ 4) → (zs.flatMap fun p => p.1.map fun r => (r.1, p.2 * r.2)).length ≤ 4 * zs.length := fun zs hz => by
    induction zs with
    | nil => simp
    | cons p zs ih =>
      have h1 := hz p List.mem_cons_self
      have h2 := ih fun x hx => hz x (List.mem_cons_of_mem _ hx)
      rw [List.flatMap_cons, List.length_append, List.length_map, List.length_cons]
      omega
  have h2 := this (laws.zip chances) fun p hp => h _ (List.of_mem_zip hp).1
  rw [List.length_zip] at h2
  unfold mixF
  omega
theorem mem_mix {laws : List (List (D × Rat))} {chances : List Rat} {x : D × Rat} (h : x ∈ mixF laws chances) : ∃ l ∈ laws, ∃ c ∈ chances, ∃ r ∈ l, x = (r.1, c * r.2) := by
  unfold mixF at h
  obtain ⟨p, hp, hx⟩ := List.mem_flatMap.mp h
  obtain ⟨r, hr, rfl⟩ := List.mem_map.mp hx
  exact ⟨p.1, (List.of_mem_zip hp).1, p.2, (List.of_mem_zip hp).2, r, hr, rfl⟩
/-- what is told of a mixture: at most 16 rows, small -/
def TdOk (l : List (D × Rat)) : Prop := l.length ≤ 16 ∧ (∀ r ∈ l, ∃ v, r.1 = dF v ∧ V0 v) ∧ (∀ r ∈ l, Fz (LC ^ 2) (2 ^ 14) r.2) ∧ rsum (l.map (·.2)) = 1
theorem TdOk.num {l : List (D × Rat)} (h : TdOk l) : Num l := fun r hr => let ⟨v, e, _⟩ := h.2.1 r hr; ⟨v, e⟩
theorem TdOk.v0 {l : List (D × Rat)} (h : TdOk l) : ∀ r ∈ rr l, V0 r.1 ∧ Cz r.2 := fun x hx => by
  obtain ⟨r, hr, rfl⟩ := List.mem_map.mp hx
  obtain ⟨v, e, hv⟩ := h.2.1 r hr
  refine ⟨?_, (h.2.2.1 r hr).up (LCdvd (by decide)) (by decide)⟩
  show V0 (unD r.1)
  rw [e, unD_dF]
  exact hv
theorem mix_ok {laws : List (List (D × Rat))} {chances : List Rat} (hw : ∀ l ∈ laws, LwOk l) (h4 : laws.length ≤ 4) (hs : ShOk laws.length chances) :
    MixOk laws chances ∧ chOk ((mixF laws chances).map (·.2)) = true ∧ TdOk (lawF (mixF laws chances)) := by
  have hlen := mix_len (chances := chances) (fun l hl => (hw l hl).1) h4
  have hch : ∀ x ∈ mixF laws chances, 0 ≤ x.2 ∧ Fz (LC ^ 2) (2 ^ 10) x.2 := fun x hx => by
    obtain ⟨l, hl, c, hc, r, hr, rfl⟩ := mem_mix hx
    have ⟨c0, _, c3, c4⟩ := hs.2.1 c hc
    have ⟨r0, r1⟩ := (hw l hl).2.2.1 r hr
    refine ⟨Rat.mul_nonneg c0 r0, ?_⟩
    have := (fz_small c3 c4).mul r1
    rw [show LC * LC = LC ^ 2 from by rw [Nat.pow_succ, Nat.pow_one]] at this
    exact this
  have hnum : Num (mixF laws chances) := fun x hx => by
    obtain ⟨l, hl, c, hc, r, hr, rfl⟩ := mem_mix hx
    obtain ⟨v, e, _⟩ := (hw l hl).2.1 r hr
    exact ⟨v, e⟩
  have hsum := (total_var hs.1.symm (fun l hl => (hw l hl).2.2.2) hs.2.2).1
  refine ⟨⟨fun l hl => ⟨by have := (hw l hl).1; omega, fun r hr => (((hw l hl).2.2.1 r hr).2.up (M' := LC ^ 3) (B' := 2 ^ 20) (LCdvd1 (by decide)) (by decide)).sz (LCpos 3) (by decide +kernel) (by decide +kernel)⟩, rowsU (by omega) fun r hr => (hch r hr).2.up (Nat.dvd_refl _) (by decide), outOk_num hnum⟩, ?_, ?_⟩
  · unfold chOk
    rw [hsum, decide_eq_true]
    · rfl
    · intro x hx
      obtain ⟨r, hr, rfl⟩ := List.mem_map.mp hx
      exact (hch r hr).1
  · refine ⟨Nat.le_trans (lawF_len _) hlen, fun p hp => ?_, fun p hp => ?_, ?_⟩
    · obtain ⟨⟨x, hx, e⟩, _⟩ := mem_lawF hp
      obtain ⟨l, hl, c, hc, r, hr, rfl⟩ := mem_mix hx
      obtain ⟨v, e2, hv⟩ := (hw l hl).2.1 r hr
      exact ⟨v, e.symm.trans e2, hv⟩
    · obtain ⟨_, e⟩ := mem_lawF hp
      rw [e]
      exact fz_sumAt (n := 16) hlen (fun r hr => (hch r hr).2) _
    · rw [← E_one, E_law, E_one]
      exact hsum
theorem mixF_step {laws : List (List (D × Rat))} {chances : List Rat} {i : Nat} {l : List (D × Rat)} {c : Rat} (h2 : laws[i]? = some l) (h3 : chances[i]? = some c) : mixF (laws.take (i + 1)) (chances.take (i + 1)) = mixF (laws.take i) (chances.take i) ++ l.map fun r => (r.1, c * r.2) := by
  have a1 := lt_of_at h2
  have a2 := lt_of_at h3
  unfold mixF
  rw [List.take_add_one, List.take_add_one, h2, h3, Option.toList_some, Option.toList_some, List.zip_append (by rw [List.length_take, List.length_take]; omega), List.flatMap_append]
  simp
def half : Rat := ⟨1, 2, by decide, by decide⟩
def third : Rat := ⟨1, 3, by decide, by decide⟩
theorem cut_hiD (ds : List D) (n : Nat) (h : n ≤ ds.length) : cutD ds (some (n : Int)) none = ds.drop n := by
  unfold cutD
  rw [HT.sIx_nat, HT.sIx_none, Nat.min_eq_left h, List.take_of_length_le (by simp)]
theorem halves {m : Nat} {cs : List Rat} (h : ShOk m cs) (hm : m ≤ 4) : SumOk (cs.map fun c => c * half) ∧ chOk (cs.map fun c => c * half) = false := by
  have hf : Fz LC 1 half := ⟨by decide +kernel, by decide +kernel⟩
  constructor
  · refine fz_sumOk (n := 4) (M := LC * LC) (B := 16 * 1) (fun x hx => ?_) (by decide) (by rw [List.length_map, h.1]; exact hm) (by decide +kernel) (by decide +kernel)
    obtain ⟨c, hc, rfl⟩ := List.mem_map.mp hx
    exact (fz_small (h.2.1 c hc).2.2.1 (h.2.1 c hc).2.2.2).mul hf
  · unfold chOk
    have : rsum (cs.map fun c => c * half) = half := by
      rw [show (cs.map fun c => c * half) = cs.map (half * ·) from List.map_congr_left fun c _ => by grind, rsum_mul, h.2.2]
      grind
    rw [this, show decide (half = 1) = false from by decide +kernel, Bool.and_false]
theorem rsum_zeros : ∀ n, rsum (List.replicate n (0 : Rat)) = 0
  | 0 => rfl
  | n + 1 => by rw [List.replicate_succ, rsum_cons, rsum_zeros n]; grind
theorem toomuch {m : Nat} {cs : List Rat} (h : ShOk m cs) (hm : m ≤ 4) : SumOk (cs ++ List.replicate (cs.length - 1) 0 ++ [third]) ∧ chOk (cs ++ List.replicate (cs.length - 1) 0 ++ [third]) = false := by
  constructor
  · refine fz_sumOk (n := 8) (M := LC) (B := 16) (fun x hx => ?_) (by decide) ?_ (by decide +kernel) (by decide +kernel)
    · rcases List.mem_append.mp hx with hx | hx
      · rcases List.mem_append.mp hx with hx | hx
        · exact fz_small (h.2.1 x hx).2.2.1 (h.2.1 x hx).2.2.2
        · rw [(List.mem_replicate.mp hx).2]; exact Fz.zero _ _
      · rw [List.mem_singleton.mp hx]
        exact ⟨by decide +kernel, by decide +kernel⟩
    · rw [List.length_append, List.length_append, List.length_replicate, h.1]
      simp
      omega
  · unfold chOk
    rw [rsum_app, rsum_app, rsum_zeros, h.2.2, rsum_cons, rsum_nil, show decide ((1 : Rat) + 0 + (third + 0) = 1) = false from by decide +kernel, Bool.and_false]
/-- pairs of rows -/
def prs (a b : List (D × Rat)) : List ((D × Rat) × (D × Rat)) := a.flatMap fun r => b.map fun t => (r, t)
theorem join_prs (a b : List (D × Rat)) : joinF a b = (prs a b).map fun p => (.tup [p.1.1, p.2.1], p.1.2 * p.2.2) := by
  unfold joinF prs
  rw [List.map_flatMap]
  simp only [List.map_map]
  rfl
noncomputable def prs3 (a b : List (D × Rat)) : List (Rat × Rat × Rat) := (prs a b).map fun p => (unD p.1.1, unD p.2.1, p.1.2 * p.2.2)
theorem prs3_cov {a b : List (D × Rat)} (ha : rsum (a.map (·.2)) = 1) (hb : rsum (b.map (·.2)) = 1) : covF (prs3 a b) = 0 := by
  have : prs3 a b = a.flatMap fun r => b.map fun t => (unD r.1, unD t.1, r.2 * t.2) := by
    unfold prs3 prs
    rw [List.map_flatMap]
    simp only [List.map_map]
    rfl
  rw [this]
  exact cov_join ha hb
theorem prs_len (a b : List (D × Rat)) : (prs a b).length = a.length * b.length := flat_len fun r _ => List.length_map ..
theorem mem_prs {a b : List (D × Rat)} {p : (D × Rat) × (D × Rat)} (h : p ∈ prs a b) : p.1 ∈ a ∧ p.2 ∈ b := by
  unfold prs at h
  obtain ⟨r, hr, h⟩ := List.mem_flatMap.mp h
  obtain ⟨t, ht, rfl⟩ := List.mem_map.mp h
  exact ⟨hr, ht⟩
theorem prs3_ok {a b : List (D × Rat)} (ha : TdOk a) (hb : LwOk b) : CovOk (prs3 a b) := by
  refine (covU ?_ fun x hx => ?_).1
  · unfold prs3
    rw [List.length_map, prs_len]
    exact Nat.mul_le_mul ha.1 hb.1
  · obtain ⟨p, hp, rfl⟩ := List.mem_map.mp hx
    have ⟨h1, h2⟩ := mem_prs hp
    obtain ⟨v, e, hv⟩ := ha.2.1 _ h1
    obtain ⟨v', e', hv'⟩ := hb.2.1 _ h2
    refine ⟨?_, ?_, ?_⟩
    · show V0 (unD p.1.1); rw [e, unD_dF]; exact hv
    · show V0 (unD p.2.1); rw [e', unD_dF]; exact hv'
    · have := (ha.2.2.1 _ h1).mul (hb.2.2.1 _ h2).2
      rw [show LC ^ 2 * LC = LC ^ 3 from (Nat.pow_succ ..).symm] at this
      exact this
theorem prs_un {a b : List (D × Rat)} (ha : Num a) (hb : Num b) {p : (D × Rat) × (D × Rat)} (h : p ∈ prs a b) : p.1.1 = dF (unD p.1.1) ∧ p.2.1 = dF (unD p.2.1) := ⟨ha.un _ (mem_prs h).1, hb.un _ (mem_prs h).2⟩
theorem zip_at {α β : Type} {xs : List α} {ys : List β} {i : Nat} {p : α × β} (h : (xs.zip ys)[i]? = some p) : xs[i]? = some p.1 ∧ ys[i]? = some p.2 := List.getElem?_zip_eq_some.mp h
theorem at_zip {α β : Type} {xs : List α} {ys : List β} {i : Nat} {x : α} {y : β} (h1 : xs[i]? = some x) (h2 : ys[i]? = some y) : (xs.zip ys)[i]? = some (x, y) := List.getElem?_zip_eq_some.mpr ⟨h1, h2⟩
/-! ### draws: a list of ints that is lent, popped (family C) -/
def rowO (ns : List Int) : O := .lst (ns.map D.int)
def psp__law_mix : Psp := ⟨2, fun xs q => ∃ n k : Int, xs = [.fr (.int n), .fr (.int k)] ∧ k.natAbs < 2 ^ 20 ∧ ∀ z : Int, 0 ≤ z → z < 998244353 → q (.fr (.int z)) []⟩
abbrev sp__law_mix (K : PySem.W.Frag) : Sp := Lsp K psp__law_mix
def psp__law_numbers : Psp := ⟨2, fun xs q => ∃ (ns : List Int) (c : Int), xs = [.fr (.scr ns), .fr (.int c)] ∧ (ns.length ≤ 63 ∧ 0 ≤ c ∧ c ≤ 1000) ∧ ∀ ms, q (.ow false (rowO ms)) []⟩
abbrev sp__law_numbers (K : PySem.W.Frag) : Sp := Lsp K psp__law_numbers
def psp__law_take : Psp := ⟨2, fun xs q => ∃ (ns : List Int) (b : Int), xs = [.ow true (rowO ns), .fr (.int b)] ∧ 0 < b ∧ ∀ z ms, 0 ≤ z → z < b → q (.fr (.int z)) [rowO ms]⟩
abbrev sp__law_take (K : PySem.W.Frag) : Sp := Lsp K psp__law_take
theorem ints_snoc (ms : List Int) (z : Int) : ms.map D.int ++ [D.int z] = (ms ++ [z]).map D.int := by rw [List.map_append]; rfl
theorem ints_at {ns : List Int} {i : Nat} {d : D} (h : (ns.map D.int)[i]? = some d) : ∃ z, d = .int z ∧ ns[i]? = some z := by
  rw [List.getElem?_map] at h
  cases e : ns[i]? with
  | none => rw [e] at h; cases h
  | some z => rw [e] at h; exact ⟨z, (Option.some.inj h).symm, rfl⟩
theorem cutD_ints (ns : List Int) (lo hi : Option Int) : ∃ ms : List Int, cutD (ns.map D.int) lo hi = ms.map D.int ∧ ms.length ≤ ns.length := by
  unfold cutD
  rw [← List.map_drop, ← List.map_take]
  exact ⟨_, rfl, by rw [List.length_take, List.length_drop]; omega⟩
theorem rowO_snoc (ms : List Int) (z : Int) : rowO (ms ++ [z]) = .lst (ms.map D.int ++ [D.int z]) := by rw [ints_snoc]; rfl
/-! ### a pick by weights -/
def numAt : List Int → Int → Nat
  | [], _ => 0
  | w :: ws, p => if p < w then 0 else numAt ws (p - w) + 1
theorem numAt_lt : ∀ {ws : List Int} {p : Int}, (∀ w ∈ ws, 0 ≤ w) → 0 ≤ p → p < ws.sum → ∃ w, ws[numAt ws p]? = some w ∧ 0 < w
  | [], p, _, h0, h1 => by simp at h1; omega
  | w :: ws, p, hw, h0, h1 => by
    unfold numAt
    by_cases h : p < w
    · rw [if_pos h]
      exact ⟨w, rfl, by omega⟩
    · rw [if_neg h]
      rw [List.sum_cons] at h1
      obtain ⟨v, h2, h3⟩ := numAt_lt (ws := ws) (p := p - w) (fun v hv => hw v (List.mem_cons_of_mem _ hv)) (by omega) (by omega)
      exact ⟨v, by simpa using h2, h3⟩
theorem numAt_drop : ∀ {ws : List Int} {i : Nat} {w : Int} {p : Int}, ws[i]? = some w → numAt (ws.drop i) p = if p < w then 0 else numAt (ws.drop (i + 1)) (p - w) + 1 := fun {ws i w p} h => by
  have hi : i < ws.length := (List.getElem?_eq_some_iff.mp h).1
  rw [List.drop_eq_getElem_cons hi, show ws[i] = w from (List.getElem?_eq_some_iff.mp h).2]
  rfl
/-- the pick with the number at a place of the tape -/
def pickF (ns : List Int) (at_ : Int) (ws : List Int) : Nat := numAt ws (((ns[at_.toNat]?).getD 0).fmod ws.sum)
theorem pickF_lt {ns : List Int} {a : Int} {ws : List Int} (hw : ∀ w ∈ ws, 0 ≤ w) (hs : 0 < ws.sum) : ∃ w, ws[pickF ns a ws]? = some w ∧ 0 < w :=
  numAt_lt hw (Int.fmod_nonneg_of_pos _ hs) (Int.fmod_lt_of_pos _ hs)
/-- weights to pick by -/
structure WsOk (ws : List Int) : Prop where
  len : ws.length ≤ 1000
  nn : ∀ w ∈ ws, 0 ≤ w
  pos : 0 < ws.sum
theorem sum_ones (n : Nat) : (List.replicate n (1 : Int)).sum = n := by
  induction n with
  | zero => rfl
  | succ n ih => rw [List.replicate_succ, List.sum_cons, ih]; omega
theorem wsOk_ones {n : Nat} (h : 0 < n) (h2 : n ≤ 1000) : WsOk (List.replicate n 1) := by
  refine ⟨by rw [List.length_replicate]; exact h2, fun w hw => by rw [List.eq_of_mem_replicate hw]; decide, ?_⟩
  rw [sum_ones]
  omega
def dNs (ns : List Int) : D := .lst (ns.map .int)
def tapeO (A : Ad) (ns : List Int) (a : Int) : O := .ob A.Tape ["numbers", "at"] [.fr (dNs ns), .fr (.int a)]
def psp_Tape___init__ (A : Ad) : Psp := ⟨2, fun xs q => ∃ ns : List Int, xs = [.ow true (.ob A.Tape [] []), .fr (dNs ns)] ∧ q (.fr .non) [tapeO A ns 0]⟩
abbrev sp_Tape___init__ (K : PySem.W.Frag) (A : Ad) : Sp := Lsp K (psp_Tape___init__ A)
def psp_number_at : Psp := ⟨2, fun xs q => ∃ (ws : List Int) (p : Int), xs = [.fr (dNs ws), .fr (.int p)] ∧ (WsOk ws ∧ 0 ≤ p ∧ p < ws.sum) ∧ q (.fr (.int (numAt ws p))) []⟩
abbrev sp_number_at (K : PySem.W.Frag) : Sp := Lsp K psp_number_at
def psp_Tape_pick (A : Ad) : Psp := ⟨2, fun xs q => ∃ (ns : List Int) (a : Int) (ws : List Int), xs = [.ow true (tapeO A ns a), .fr (dNs ws)] ∧ (0 ≤ a ∧ WsOk ws) ∧ q (.fr (.int (pickF ns a ws))) [tapeO A ns (a + 1)]⟩
abbrev sp_Tape_pick (K : PySem.W.Frag) (A : Ad) : Sp := Lsp K (psp_Tape_pick A)
/-! ### uniform samples -/
def dU (A : Ad) (size seen : Int) (kept : List Itm) : D := .obj A.Uniform ["size", "seen", "kept"] [.int size, .int seen, dIs kept]
def uniO (A : Ad) (size seen : Int) (kept : List Itm) : O := .ob A.Uniform ["size", "seen", "kept"] [.fr (.int size), .fr (.int seen), .fr (dIs kept)]
def psp_Uniform___init__ (A : Ad) : Psp := ⟨4, fun xs q => ∃ (size seen : Int) (kept : List Itm), xs = [.ow true (.ob A.Uniform [] []), .fr (.int size), .fr (.int seen), .fr (dIs kept)] ∧ q (.fr .non) [uniO A size seen kept]⟩
abbrev sp_Uniform___init__ (K : PySem.W.Frag) (A : Ad) : Sp := Lsp K (psp_Uniform___init__ A)
def psp_check_size (A : Ad) : PspX := ⟨1, fun xs q e => ∃ size : Int, xs = [.fr (.int size)] ∧ (1 ≤ size ∧ size ≤ 20 → q (.fr .non) []) ∧ (¬ (1 ≤ size ∧ size ≤ 20) → e ⟨A.InvalidSize, ["size"], [.int size]⟩ [])⟩
abbrev sp_check_size (K : PySem.W.Frag) (A : Ad) : Sp := LspX K (psp_check_size A)
def psp_Uniform_empty (A : Ad) : PspX := ⟨2, fun xs q e => ∃ size : Int, xs = [.fr (.opq (.ref A.Uniform)), .fr (.int size)] ∧ (1 ≤ size ∧ size ≤ 20 → q (.ow false (uniO A size 0 [])) []) ∧ (¬ (1 ≤ size ∧ size ≤ 20) → e ⟨A.InvalidSize, ["size"], [.int size]⟩ [])⟩
abbrev sp_Uniform_empty (K : PySem.W.Frag) (A : Ad) : Sp := LspX K (psp_Uniform_empty A)
def psp_Uniform_single (A : Ad) : PspX := ⟨3, fun xs q e => ∃ (x : Itm) (size : Int), xs = [.fr (.opq (.ref A.Uniform)), .fr (dI x), .fr (.int size)] ∧ (1 ≤ size ∧ size ≤ 20 → q (.ow false (uniO A size 1 [x])) []) ∧ (¬ (1 ≤ size ∧ size ≤ 20) → e ⟨A.InvalidSize, ["size"], [.int size]⟩ [])⟩
abbrev sp_Uniform_single (K : PySem.W.Frag) (A : Ad) : Sp := LspX K (psp_Uniform_single A)
/-- the keys of the second that the first has too -/
def sharedK (xs ys : List Itm) : List Str := (ys.filter fun y => decide (∃ x ∈ xs, x.k = y.k)).map (·.k)
def ItmsOk (xs : List Itm) : Prop := xs.length ≤ 1000 ∧ ∀ x ∈ xs, x.ok
def psp_check_keys (A : Ad) : PspX := ⟨2, fun xs q e => ∃ x1 x2 : List Itm, xs = [.fr (dIs x1), .fr (dIs x2)] ∧ (ItmsOk x1 ∧ ItmsOk x2) ∧ (sharedK x1 x2 = [] → q (.fr .non) []) ∧ ∀ m, (sortS (sharedK x1 x2))[0]? = some m → e ⟨A.SharedKey, ["key"], [.str m]⟩ []⟩
abbrev sp_check_keys (K : PySem.W.Frag) (A : Ad) : Sp := LspX K (psp_check_keys A)
def psp_Uniform_check (A : Ad) : PspX := ⟨2, fun xs q e => ∃ (z1 s1 z2 s2 : Int) (x1 x2 : List Itm), xs = [.fr (dU A z1 s1 x1), .fr (dU A z2 s2 x2)] ∧ (ItmsOk x1 ∧ ItmsOk x2) ∧ (z2 ≠ z1 → e ⟨A.WrongKind, [], []⟩ []) ∧ (z2 = z1 → sharedK x1 x2 = [] → q (.fr .non) []) ∧ ∀ m, z2 = z1 → (sortS (sharedK x1 x2))[0]? = some m → e ⟨A.SharedKey, ["key"], [.str m]⟩ []⟩
abbrev sp_Uniform_check (K : PySem.W.Frag) (A : Ad) : Sp := LspX K (psp_Uniform_check A)
def psp_Uniform_view (A : Ad) : Psp := ⟨1, fun xs q => ∃ (z s : Int) (x : List Itm), xs = [.fr (dU A z s x)] ∧ q (.fr (.tup [.int z, .int s, .tup (x.map dI)])) []⟩
abbrev sp_Uniform_view (K : PySem.W.Frag) (A : Ad) : Sp := Lsp K (psp_Uniform_view A)
/-! the steps of a merge, by the tape's numbers -/
structure MSt where
  a : Int
  s0 : Int
  s1 : Int
  l0 : List Itm
  l1 : List Itm
  fd : List Itm
def mstep (ns : List Int) (m : MSt) : MSt :=
  if pickF ns m.a [m.s0, m.s1] = 0 then
    let p := pickF ns (m.a + 1) (List.replicate m.l0.length 1)
    { a := m.a + 2, s0 := m.s0 - 1, s1 := m.s1, l0 := m.l0.eraseIdx p, l1 := m.l1, fd := m.fd ++ m.l0[p]?.toList }
  else
    let p := pickF ns (m.a + 1) (List.replicate m.l1.length 1)
    { a := m.a + 2, s0 := m.s0, s1 := m.s1 - 1, l0 := m.l0, l1 := m.l1.eraseIdx p, fd := m.fd ++ m.l1[p]?.toList }
def mrun (ns : List Int) (m : MSt) : Nat → MSt
  | 0 => m
  | n + 1 => mstep ns (mrun ns m n)
/-- a sample of a size: as many seen as kept, or the full size kept -/
structure SmOk (z : Nat) (s : Int) (x : List Itm) : Prop where
  z1 : 1 ≤ z
  z2 : z ≤ 20
  s0 : 0 ≤ s
  s1 : s < 2 ^ 40
  len : x.length = min z s.toNat
  ok : ∀ y ∈ x, y.ok
theorem SmOk.its {z : Nat} {s : Int} {x : List Itm} (h : SmOk z s x) : ItmsOk x := ⟨by have := h.len; have := h.z2; omega, h.ok⟩
/-- what stays true on the way -/
structure MInv (z : Nat) (S0 S1 : Int) (i : Nat) (m : MSt) : Prop where
  ha : 0 ≤ m.a
  z2 : z ≤ 20
  iz : i ≤ z
  s0 : 0 ≤ m.s0
  s1 : 0 ≤ m.s1
  t0 : m.s0 ≤ S0
  t1 : m.s1 ≤ S1
  tot : m.s0 + m.s1 + i = S0 + S1
  l0 : m.l0.length = min z S0.toNat - (S0 - m.s0).toNat
  l1 : m.l1.length = min z S1.toNat - (S1 - m.s1).toNat
  fd : m.fd.length = i
  ok : (∀ y ∈ m.l0, y.ok) ∧ (∀ y ∈ m.l1, y.ok) ∧ ∀ y ∈ m.fd, y.ok
theorem MInv.start {z : Nat} {S0 S1 : Int} {a : Int} {x0 x1 : List Itm} (ha : 0 ≤ a) (h0 : SmOk z S0 x0) (h1 : SmOk z S1 x1) : MInv z S0 S1 0 ⟨a, S0, S1, x0, x1, []⟩ :=
  ⟨ha, h0.z2, Nat.zero_le _, h0.s0, h1.s0, by show S0 ≤ S0; omega, by show S1 ≤ S1; omega, by show S0 + S1 + 0 = _; omega, by show x0.length = _; have := h0.len; rw [show S0 - S0 = 0 by omega]; simpa using this,
    by show x1.length = _; have := h1.len; rw [show S1 - S1 = 0 by omega]; simpa using this, rfl, h0.ok, h1.ok, fun y hy => by cases hy⟩
theorem MInv.ws {z : Nat} {S0 S1 : Int} {i : Nat} {m : MSt} (h : MInv z S0 S1 i m) (hi : (i : Int) < S0 + S1) : WsOk [m.s0, m.s1] :=
  ⟨by simp, fun w hw => by
    rcases List.mem_cons.mp hw with rfl | hw
    · exact h.s0
    · cases List.mem_singleton.mp hw; exact h.s1, by show 0 < m.s0 + (m.s1 + 0); have := h.tot; omega⟩
theorem pick2 {ns : List Int} {a x y : Int} (hw : WsOk [x, y]) : (pickF ns a [x, y] = 0 ∧ 0 < x) ∨ (pickF ns a [x, y] = 1 ∧ 0 < y) := by
  obtain ⟨v, h1, h2⟩ := pickF_lt (ns := ns) (a := a) hw.nn hw.pos
  match e : pickF ns a [x, y], h1 with
  | 0, h1 => exact .inl ⟨rfl, by cases h1; exact h2⟩
  | 1, h1 => exact .inr ⟨rfl, by cases h1; exact h2⟩
  | _ + 2, h1 => simp at h1
theorem pick_ones {ns : List Int} {a : Int} {n : Nat} (h : 0 < n) (h2 : n ≤ 1000) : pickF ns a (List.replicate n 1) < n := by
  obtain ⟨v, h1, _⟩ := pickF_lt (ns := ns) (a := a) (wsOk_ones h h2).nn (wsOk_ones h h2).pos
  have := (List.getElem?_eq_some_iff.mp h1).1
  rwa [List.length_replicate] at this
theorem mem_erase {α : Type} {l : List α} {p : Nat} {y : α} (h : y ∈ l.eraseIdx p) : y ∈ l := List.mem_of_mem_eraseIdx h
theorem MInv.next {ns : List Int} {z : Nat} {S0 S1 : Int} {i : Nat} {m : MSt} (h : MInv z S0 S1 i m) (hz : i < z) (hi : (i : Int) < S0 + S1) : MInv z S0 S1 (i + 1) (mstep ns m) := by
  obtain ⟨ha, z2, iz, s0, s1, t0, t1, tot, l0, l1, fd, ok0, ok1, okf⟩ := h
  have hw := MInv.ws ⟨ha, z2, iz, s0, s1, t0, t1, tot, l0, l1, fd, ok0, ok1, okf⟩ hi
  unfold mstep
  rcases pick2 (ns := ns) (a := m.a) hw with ⟨e, hp⟩ | ⟨e, hp⟩
  · rw [if_pos e]
    have hl : 0 < m.l0.length := by omega
    have hq := pick_ones (ns := ns) (a := m.a + 1) hl (by omega)
    generalize pickF ns (m.a + 1) (List.replicate m.l0.length 1) = p at hq
    refine ⟨by show 0 ≤ m.a + 2; omega, z2, hz, by show 0 ≤ m.s0 - 1; omega, s1, by show m.s0 - 1 ≤ S0; omega, t1, by show m.s0 - 1 + m.s1 + ((i + 1 : Nat) : Int) = _; omega, ?_, l1, ?_, fun y hy => ok0 y (mem_erase hy), ok1, fun y hy => ?_⟩
    · show (m.l0.eraseIdx p).length = min z S0.toNat - (S0 - (m.s0 - 1)).toNat
      rw [List.length_eraseIdx_of_lt hq]
      omega
    · show (m.fd ++ m.l0[p]?.toList).length = i + 1
      rw [List.getElem?_eq_getElem hq, List.length_append, fd]
      rfl
    · have hy : y ∈ m.fd ++ m.l0[p]?.toList := hy
      rw [List.getElem?_eq_getElem hq] at hy
      rcases List.mem_append.mp hy with w | w
      · exact okf y w
      · cases List.mem_singleton.mp w
        exact ok0 _ (List.getElem_mem hq)
  · rw [if_neg (by omega)]
    have hl : 0 < m.l1.length := by omega
    have hq := pick_ones (ns := ns) (a := m.a + 1) hl (by omega)
    generalize pickF ns (m.a + 1) (List.replicate m.l1.length 1) = p at hq
    refine ⟨by show 0 ≤ m.a + 2; omega, z2, hz, s0, by show 0 ≤ m.s1 - 1; omega, t0, by show m.s1 - 1 ≤ S1; omega, by show m.s0 + (m.s1 - 1) + ((i + 1 : Nat) : Int) = _; omega, l0, ?_, ?_, ok0, fun y hy => ok1 y (mem_erase hy), fun y hy => ?_⟩
    · show (m.l1.eraseIdx p).length = min z S1.toNat - (S1 - (m.s1 - 1)).toNat
      rw [List.length_eraseIdx_of_lt hq]
      omega
    · show (m.fd ++ m.l1[p]?.toList).length = i + 1
      rw [List.getElem?_eq_getElem hq, List.length_append, fd]
      rfl
    · have hy : y ∈ m.fd ++ m.l1[p]?.toList := hy
      rw [List.getElem?_eq_getElem hq] at hy
      rcases List.mem_append.mp hy with w | w
      · exact okf y w
      · cases List.mem_singleton.mp w
        exact ok1 _ (List.getElem_mem hq)
theorem mrun_inv {ns : List Int} {z : Nat} {S0 S1 : Int} {m : MSt} (h : MInv z S0 S1 0 m) : ∀ i, i ≤ z → (i : Int) ≤ S0 + S1 → MInv z S0 S1 i (mrun ns m i)
  | 0, _, _ => h
  | i + 1, h1, h2 => (mrun_inv h i (by omega) (by omega)).next (by omega) (by omega)
/-- how many are kept -/
def mergN (z : Nat) (S0 S1 : Int) : Nat := min z (S0 + S1).toNat
noncomputable def mergeL (ns : List Int) (a : Int) (z : Nat) (S0 S1 : Int) (x0 x1 : List Itm) : List Itm := sortI (mrun ns ⟨a, S0, S1, x0, x1, []⟩ (mergN z S0 S1)).fd
def mergA (ns : List Int) (a : Int) (z : Nat) (S0 S1 : Int) (x0 x1 : List Itm) : Int := (mrun ns ⟨a, S0, S1, x0, x1, []⟩ (mergN z S0 S1)).a
theorem merge_ok {ns : List Int} {a : Int} {z : Nat} {S0 S1 : Int} {x0 x1 : List Itm} (ha : 0 ≤ a) (h0 : SmOk z S0 x0) (h1 : SmOk z S1 x1) (hb : S0 + S1 < 2 ^ 40) : SmOk z (S0 + S1) (mergeL ns a z S0 S1 x0 x1) ∧ 0 ≤ mergA ns a z S0 S1 x0 x1 := by
  have := h0.s0
  have := h1.s0
  have h := mrun_inv (ns := ns) (MInv.start ha h0 h1) (mergN z S0 S1) (by unfold mergN; omega) (by unfold mergN; omega)
  refine ⟨⟨h0.z1, h0.z2, by omega, hb, ?_, fun y hy => ?_⟩, h.ha⟩
  · show (sortI _).length = _
    rw [sortI_len, h.fd]
    rfl
  · exact h.ok.2.2 y (mem_sortI.mp hy)
def psp_Uniform_merge (A : Ad) : PspX := ⟨3, fun xs q e => (∃ (z1 z2 : Nat) (s1 s2 : Int) (x1 x2 : List Itm) (ns : List Int) (a : Int), xs = [.fr (dU A z1 s1 x1), .fr (dU A z2 s2 x2), .ow true (tapeO A ns a)] ∧ (SmOk z1 s1 x1 ∧ SmOk z2 s2 x2 ∧ 0 ≤ a ∧ s1 + s2 < 2 ^ 40) ∧
  (z2 ≠ z1 → e ⟨A.WrongKind, [], []⟩ [tapeO A ns a]) ∧ (z2 = z1 → sharedK x1 x2 = [] → q (.ow false (uniO A z1 (s1 + s2) (mergeL ns a z1 s1 s2 x1 x2))) [tapeO A ns (mergA ns a z1 s1 s2 x1 x2)]) ∧ ∀ m, z2 = z1 → (sortS (sharedK x1 x2))[0]? = some m → e ⟨A.SharedKey, ["key"], [.str m]⟩ [tapeO A ns a]) ∨
  (∃ (z1 z2 : Nat) (s1 s2 : Int) (x1 x2 : List Itm) (d : D), xs = [.fr (dU A z1 s1 x1), .fr (dU A z2 s2 x2), .fr d] ∧ (SmOk z1 s1 x1 ∧ SmOk z2 s2 x2) ∧ (z2 ≠ z1 → e ⟨A.WrongKind, [], []⟩ []) ∧ (z2 = z1 → sharedK x1 x2 ≠ []) ∧ ∀ m, z2 = z1 → (sortS (sharedK x1 x2))[0]? = some m → e ⟨A.SharedKey, ["key"], [.str m]⟩ [])⟩
abbrev sp_Uniform_merge (K : PySem.W.Frag) (A : Ad) : Sp := LspX K (psp_Uniform_merge A)
/-- the pair (seen, kept) of the law -/
def dSm (s : Int) (x : List Itm) : D := .tup [.int s, dIs x]
theorem mem_opt {α : Type} {l : List α} {i : Nat} {y : α} (h : y ∈ (l[i]?).toList) : y ∈ l := by
  cases e : l[i]? with
  | none => rw [e] at h; cases h
  | some x =>
    rw [e] at h
    cases List.mem_singleton.mp h
    exact List.mem_of_getElem? e
theorem mrun_mem {ns : List Int} {m : MSt} {Pr : Itm → Prop} (h0 : ∀ y ∈ m.l0, Pr y) (h1 : ∀ y ∈ m.l1, Pr y) (hf : ∀ y ∈ m.fd, Pr y) : ∀ n, (∀ y ∈ (mrun ns m n).l0, Pr y) ∧ (∀ y ∈ (mrun ns m n).l1, Pr y) ∧ ∀ y ∈ (mrun ns m n).fd, Pr y
  | 0 => ⟨h0, h1, hf⟩
  | n + 1 => by
    obtain ⟨a, b, c⟩ := mrun_mem h0 h1 hf n
    show (∀ y ∈ (mstep ns (mrun ns m n)).l0, Pr y) ∧ (∀ y ∈ (mstep ns (mrun ns m n)).l1, Pr y) ∧ ∀ y ∈ (mstep ns (mrun ns m n)).fd, Pr y
    unfold mstep
    split
    · refine ⟨fun y hy => a y (mem_erase hy), b, fun y hy => ?_⟩
      rcases List.mem_append.mp hy with w | w
      · exact c y w
      · exact a y (mem_opt w)
    · refine ⟨a, fun y hy => b y (mem_erase hy), fun y hy => ?_⟩
      rcases List.mem_append.mp hy with w | w
      · exact c y w
      · exact b y (mem_opt w)
theorem mergeL_mem {ns : List Int} {a : Int} {z : Nat} {S0 S1 : Int} {x0 x1 : List Itm} {Pr : Itm → Prop} (h0 : ∀ y ∈ x0, Pr y) (h1 : ∀ y ∈ x1, Pr y) : ∀ y ∈ mergeL ns a z S0 S1 x0 x1, Pr y := fun y hy =>
  (mrun_mem (m := ⟨a, S0, S1, x0, x1, []⟩) h0 h1 (fun y hy => by cases hy) _).2.2 y (mem_sortI.mp hy)
/-- sorted, the first has the least key -/
theorem head_least {x : Itm} {r : List Itm} (h : (x :: r).Pairwise fun x y => leD (dI x) (dI y) = true) : (sortS (sharedK (x :: r) (x :: r)))[0]? = some x.k := by
  refine sortS_head ?_ fun k hk => ?_
  · exact List.mem_map.mpr ⟨x, List.mem_filter.mpr ⟨List.mem_cons_self, decide_eq_true ⟨x, List.mem_cons_self, rfl⟩⟩, rfl⟩
  · obtain ⟨y, hy, rfl⟩ := List.mem_map.mp hk
    rcases List.mem_cons.mp (List.mem_filter.mp hy).1 with e | e
    · rw [e]; exact leK_refl _
    · exact leK_of ((List.pairwise_cons.mp h).1 y e)
theorem shared_self {x : Itm} {r : List Itm} : sharedK (x :: r) (x :: r) ≠ [] := fun e => by
  have : x.k ∈ sharedK (x :: r) (x :: r) := List.mem_map.mpr ⟨x, List.mem_filter.mpr ⟨List.mem_cons_self, decide_eq_true ⟨x, List.mem_cons_self, rfl⟩⟩, rfl⟩
  rw [e] at this
  cases this
theorem shared_none {x y : List Itm} (h : ∀ a ∈ x, ∀ b ∈ y, a.k ≠ b.k) : sharedK x y = [] := by
  unfold sharedK
  rw [List.map_eq_nil_iff, List.filter_eq_nil_iff]
  intro b hb hd
  obtain ⟨a, ha, e⟩ := of_decide_eq_true hd
  exact h a ha b hb e
/-! ### weighted samples -/
def dW (A : Ad) (size total : Int) (kept : List Itm) : D := .obj A.Weighted ["size", "total", "kept"] [.int size, .int total, dIs kept]
def weiO (A : Ad) (size total : Int) (kept : List Itm) : O := .ob A.Weighted ["size", "total", "kept"] [.fr (.int size), .fr (.int total), .fr (dIs kept)]
def psp_Weighted___init__ (A : Ad) : Psp := ⟨4, fun xs q => ∃ (size total : Int) (kept : List Itm), xs = [.ow true (.ob A.Weighted [] []), .fr (.int size), .fr (.int total), .fr (dIs kept)] ∧ q (.fr .non) [weiO A size total kept]⟩
abbrev sp_Weighted___init__ (K : PySem.W.Frag) (A : Ad) : Sp := Lsp K (psp_Weighted___init__ A)
def psp_Weighted_empty (A : Ad) : PspX := ⟨2, fun xs q e => ∃ size : Int, xs = [.fr (.opq (.ref A.Weighted)), .fr (.int size)] ∧ (1 ≤ size ∧ size ≤ 20 → q (.ow false (weiO A size 0 [])) []) ∧ (¬ (1 ≤ size ∧ size ≤ 20) → e ⟨A.InvalidSize, ["size"], [.int size]⟩ [])⟩
abbrev sp_Weighted_empty (K : PySem.W.Frag) (A : Ad) : Sp := LspX K (psp_Weighted_empty A)
def psp_Weighted_single (A : Ad) : PspX := ⟨3, fun xs q e => ∃ (x : Itm) (size : Int), xs = [.fr (.opq (.ref A.Weighted)), .fr (dI x), .fr (.int size)] ∧ (1 ≤ size ∧ size ≤ 20 → q (.ow false (weiO A size x.w [x])) []) ∧ (¬ (1 ≤ size ∧ size ≤ 20) → e ⟨A.InvalidSize, ["size"], [.int size]⟩ [])⟩
abbrev sp_Weighted_single (K : PySem.W.Frag) (A : Ad) : Sp := LspX K (psp_Weighted_single A)
def psp_Weighted_check (A : Ad) : PspX := ⟨2, fun xs q e => ∃ (z1 s1 z2 s2 : Int) (x1 x2 : List Itm), xs = [.fr (dW A z1 s1 x1), .fr (dW A z2 s2 x2)] ∧ (ItmsOk x1 ∧ ItmsOk x2) ∧ (z2 ≠ z1 → e ⟨A.WrongKind, [], []⟩ []) ∧ (z2 = z1 → sharedK x1 x2 = [] → q (.fr .non) []) ∧ ∀ m, z2 = z1 → (sortS (sharedK x1 x2))[0]? = some m → e ⟨A.SharedKey, ["key"], [.str m]⟩ []⟩
abbrev sp_Weighted_check (K : PySem.W.Frag) (A : Ad) : Sp := LspX K (psp_Weighted_check A)
def psp_Weighted_view (A : Ad) : Psp := ⟨1, fun xs q => ∃ (z s : Int) (x : List Itm), xs = [.fr (dW A z s x)] ∧ q (.fr (.tup [.int z, .int s, .tup (x.map dI)])) []⟩
abbrev sp_Weighted_view (K : PySem.W.Frag) (A : Ad) : Sp := Lsp K (psp_Weighted_view A)
/-! the steps of a merge, by the tape's numbers -/
def wsum (x : List Itm) : Int := (x.map (·.w)).sum
theorem wsum_cons (y : Itm) (r : List Itm) : wsum (y :: r) = y.w + wsum r := by unfold wsum; rw [List.map_cons, List.sum_cons]
theorem wsum_snoc (r : List Itm) (y : Itm) : wsum (r ++ [y]) = wsum r + y.w := by unfold wsum; rw [List.map_append, List.sum_append]; simp
theorem wsum_nn {x : List Itm} (h : ∀ y ∈ x, y.ok ∧ 1 ≤ y.w) : 0 ≤ wsum x := by
  induction x with
  | nil => exact Int.le_refl 0
  | cons y r ih =>
    rw [wsum_cons]
    have := (h y List.mem_cons_self).2
    have := ih fun z hz => h z (List.mem_cons_of_mem _ hz)
    omega
def wpop0 (m : MSt) : MSt := match m.l0 with
  | [] => m
  | y :: r => { m with a := m.a + 1, s0 := m.s0 - y.w, l0 := r, fd := m.fd ++ [y] }
def wpop1 (m : MSt) : MSt := match m.l1 with
  | [] => m
  | y :: r => { m with a := m.a + 1, s1 := m.s1 - y.w, l1 := r, fd := m.fd ++ [y] }
def wstep (ns : List Int) (m : MSt) : MSt := if 0 < m.s0 + m.s1 then (if pickF ns m.a [m.s0, m.s1] = 0 then wpop0 m else wpop1 m) else m
def wrun (ns : List Int) : MSt → Nat → MSt
  | m, 0 => m
  | m, n + 1 => wrun ns (wstep ns m) n
theorem wrun_stop {ns : List Int} {m : MSt} (h : ¬ 0 < m.s0 + m.s1) : ∀ n, wrun ns m n = m
  | 0 => rfl
  | n + 1 => by
    show wrun ns (wstep ns m) n = m
    rw [show wstep ns m = m by unfold wstep; rw [if_neg h]]
    exact wrun_stop h n
structure WSm (z : Nat) (t : Int) (x : List Itm) : Prop where
  z1 : 1 ≤ z
  z2 : z ≤ 20
  t1 : t < 2 ^ 40
  len : x.length ≤ z
  le : wsum x ≤ t
  full : x.length < z → t = wsum x
  ok : ∀ y ∈ x, y.ok ∧ 1 ≤ y.w
theorem WSm.its {z : Nat} {t : Int} {x : List Itm} (h : WSm z t x) : ItmsOk x := ⟨by have := h.len; have := h.z2; omega, fun y hy => (h.ok y hy).1⟩
theorem WSm.t0 {z : Nat} {t : Int} {x : List Itm} (h : WSm z t x) : 0 ≤ t := Int.le_trans (wsum_nn h.ok) h.le
structure WInv (z : Nat) (T : Int) (m : MSt) : Prop where
  z2 : z ≤ 20
  ha : 0 ≤ m.a
  b0 : wsum m.l0 ≤ m.s0
  b1 : wsum m.l1 ≤ m.s1
  f0 : m.s0 = wsum m.l0 ∨ z ≤ m.l0.length + m.fd.length
  f1 : m.s1 = wsum m.l1 ∨ z ≤ m.l1.length + m.fd.length
  n0 : m.l0.length ≤ z
  n1 : m.l1.length ≤ z
  tot : m.s0 + m.s1 + wsum m.fd = T
  fd : m.fd.length ≤ z
  k0 : ∀ y ∈ m.l0, y.ok ∧ 1 ≤ y.w
  k1 : ∀ y ∈ m.l1, y.ok ∧ 1 ≤ y.w
  kf : ∀ y ∈ m.fd, y.ok ∧ 1 ≤ y.w
theorem WInv.start {z : Nat} {T0 T1 a : Int} {x0 x1 : List Itm} (ha : 0 ≤ a) (h0 : WSm z T0 x0) (h1 : WSm z T1 x1) : WInv z (T0 + T1) ⟨a, T0, T1, x0, x1, []⟩ := by
  refine ⟨h0.z2, ha, h0.le, h1.le, ?_, ?_, h0.len, h1.len, by show T0 + T1 + 0 = _; omega, Nat.zero_le _, h0.ok, h1.ok, fun y hy => by cases hy⟩
  · rcases Nat.lt_or_ge x0.length z with h | h
    · exact .inl (h0.full h)
    · exact .inr h
  · rcases Nat.lt_or_ge x1.length z with h | h
    · exact .inl (h1.full h)
    · exact .inr h
theorem WInv.p0 {z : Nat} {T : Int} {m : MSt} (h : WInv z T m) : 0 ≤ m.s0 := Int.le_trans (wsum_nn h.k0) h.b0
theorem WInv.p1 {z : Nat} {T : Int} {m : MSt} (h : WInv z T m) : 0 ≤ m.s1 := Int.le_trans (wsum_nn h.k1) h.b1
theorem WInv.ws {z : Nat} {T : Int} {m : MSt} (h : WInv z T m) (hs : 0 < m.s0 + m.s1) : WsOk [m.s0, m.s1] :=
  ⟨by simp, fun w hw => by
    rcases List.mem_cons.mp hw with rfl | hw
    · exact h.p0
    · cases List.mem_singleton.mp hw; exact h.p1, by show 0 < m.s0 + (m.s1 + 0); omega⟩
/-- a side with something left has an item -/
theorem WInv.ne0 {z : Nat} {T : Int} {m : MSt} (h : WInv z T m) (hf : m.fd.length < z) (hp : 0 < m.s0) : ∃ y r, m.l0 = y :: r := by
  cases e : m.l0 with
  | nil =>
    have h0 := h.f0
    rw [e] at h0
    rcases h0 with z0 | z0
    · rw [z0] at hp; exact absurd hp (by decide)
    · simp at z0; omega
  | cons y r => exact ⟨y, r, rfl⟩
theorem WInv.ne1 {z : Nat} {T : Int} {m : MSt} (h : WInv z T m) (hf : m.fd.length < z) (hp : 0 < m.s1) : ∃ y r, m.l1 = y :: r := by
  cases e : m.l1 with
  | nil =>
    have h0 := h.f1
    rw [e] at h0
    rcases h0 with z0 | z0
    · rw [z0] at hp; exact absurd hp (by decide)
    · simp at z0; omega
  | cons y r => exact ⟨y, r, rfl⟩
theorem WInv.pop0 {z : Nat} {T : Int} {m : MSt} {y : Itm} {r : List Itm} (h : WInv z T m) (hf : m.fd.length < z) (e : m.l0 = y :: r) : WInv z T { m with a := m.a + 1, s0 := m.s0 - y.w, l0 := r, fd := m.fd ++ [y] } := by
  obtain ⟨z2, ha, b0, b1, f0, f1, n0, n1, tot, fd, k0, k1, kf⟩ := h
  rw [e, wsum_cons] at b0
  rw [e, wsum_cons, List.length_cons] at f0
  rw [e, List.length_cons] at n0
  rw [e] at k0
  have hfl : (m.fd ++ [y]).length = m.fd.length + 1 := by rw [List.length_append]; rfl
  have hw := wsum_snoc m.fd y
  refine ⟨z2, by show 0 ≤ m.a + 1; omega, by show wsum r ≤ m.s0 - y.w; omega, b1, ?_, ?_, by show r.length ≤ z; omega, n1, by show m.s0 - y.w + m.s1 + wsum (m.fd ++ [y]) = T; omega, by show (m.fd ++ [y]).length ≤ z; omega, fun q hq => k0 q (List.mem_cons_of_mem _ hq), k1, fun q hq => ?_⟩
  · show m.s0 - y.w = wsum r ∨ z ≤ r.length + (m.fd ++ [y]).length
    rcases f0 with f | f
    · exact .inl (by omega)
    · exact .inr (by omega)
  · show m.s1 = wsum m.l1 ∨ z ≤ m.l1.length + (m.fd ++ [y]).length
    rcases f1 with f | f
    · exact .inl f
    · exact .inr (by omega)
  · rcases List.mem_append.mp hq with w | w
    · exact kf q w
    · cases List.mem_singleton.mp w
      exact k0 y List.mem_cons_self
theorem WInv.pop1 {z : Nat} {T : Int} {m : MSt} {y : Itm} {r : List Itm} (h : WInv z T m) (hf : m.fd.length < z) (e : m.l1 = y :: r) : WInv z T { m with a := m.a + 1, s1 := m.s1 - y.w, l1 := r, fd := m.fd ++ [y] } := by
  obtain ⟨z2, ha, b0, b1, f0, f1, n0, n1, tot, fd, k0, k1, kf⟩ := h
  rw [e, wsum_cons] at b1
  rw [e, wsum_cons, List.length_cons] at f1
  rw [e, List.length_cons] at n1
  rw [e] at k1
  have hfl : (m.fd ++ [y]).length = m.fd.length + 1 := by rw [List.length_append]; rfl
  have hw := wsum_snoc m.fd y
  refine ⟨z2, by show 0 ≤ m.a + 1; omega, b0, by show wsum r ≤ m.s1 - y.w; omega, ?_, ?_, n0, by show r.length ≤ z; omega, by show m.s0 + (m.s1 - y.w) + wsum (m.fd ++ [y]) = T; omega, by show (m.fd ++ [y]).length ≤ z; omega, k0, fun q hq => k1 q (List.mem_cons_of_mem _ hq), fun q hq => ?_⟩
  · show m.s0 = wsum m.l0 ∨ z ≤ m.l0.length + (m.fd ++ [y]).length
    rcases f0 with f | f
    · exact .inl f
    · exact .inr (by omega)
  · show m.s1 - y.w = wsum r ∨ z ≤ r.length + (m.fd ++ [y]).length
    rcases f1 with f | f
    · exact .inl (by omega)
    · exact .inr (by omega)
  · rcases List.mem_append.mp hq with w | w
    · exact kf q w
    · cases List.mem_singleton.mp w
      exact k1 y List.mem_cons_self
theorem wstep0 {ns : List Int} {m : MSt} {y : Itm} {r : List Itm} (hs : 0 < m.s0 + m.s1) (e : pickF ns m.a [m.s0, m.s1] = 0) (el : m.l0 = y :: r) : wstep ns m = { m with a := m.a + 1, s0 := m.s0 - y.w, l0 := r, fd := m.fd ++ [y] } := by
  unfold wstep wpop0
  rw [if_pos hs, if_pos e, el]
theorem wstep1 {ns : List Int} {m : MSt} {y : Itm} {r : List Itm} (hs : 0 < m.s0 + m.s1) (e : pickF ns m.a [m.s0, m.s1] = 1) (el : m.l1 = y :: r) : wstep ns m = { m with a := m.a + 1, s1 := m.s1 - y.w, l1 := r, fd := m.fd ++ [y] } := by
  unfold wstep wpop1
  rw [if_pos hs, if_neg (by rw [e]; decide), el]
def wmerge (ns : List Int) (a : Int) (z : Nat) (T0 T1 : Int) (x0 x1 : List Itm) : MSt := wrun ns ⟨a, T0, T1, x0, x1, []⟩ z
theorem wend_ok {z : Nat} {T : Int} {m : MSt} (h : WInv z T m) (h1 : 1 ≤ z) (ht : T < 2 ^ 40) (he : m.fd.length = z ∨ ¬ 0 < m.s0 + m.s1) : WSm z T m.fd := by
  have p0 := h.p0
  have p1 := h.p1
  have tot := h.tot
  exact ⟨h1, h.z2, ht, h.fd, by omega, fun hl => by omega, h.kf⟩
theorem wrun_inv {ns : List Int} {z : Nat} {T : Int} : ∀ {n : Nat} {m : MSt}, WInv z T m → z ≤ n + m.fd.length → WInv z T (wrun ns m n) ∧ ((wrun ns m n).fd.length = z ∨ ¬ 0 < (wrun ns m n).s0 + (wrun ns m n).s1) ∨ m.fd.length + n > z
  | 0, m, h, hn => .inl ⟨h, .inl (by have := h.fd; show m.fd.length = z; omega)⟩
  | n + 1, m, h, hn => by
    by_cases hs : 0 < m.s0 + m.s1
    · by_cases hf : m.fd.length < z
      · have key : ∃ m', wstep ns m = m' ∧ WInv z T m' ∧ m'.fd.length = m.fd.length + 1 := by
          rcases pick2 (ns := ns) (a := m.a) (h.ws hs) with ⟨e, hp⟩ | ⟨e, hp⟩
          · obtain ⟨y, r, el⟩ := h.ne0 hf hp
            exact ⟨_, wstep0 hs e el, h.pop0 hf el, by show (m.fd ++ [y]).length = _; rw [List.length_append]; rfl⟩
          · obtain ⟨y, r, el⟩ := h.ne1 hf hp
            exact ⟨_, wstep1 hs e el, h.pop1 hf el, by show (m.fd ++ [y]).length = _; rw [List.length_append]; rfl⟩
        obtain ⟨m', e1, e2, e3⟩ := key
        show WInv z T (wrun ns (wstep ns m) n) ∧ _ ∨ _
        rw [show wrun ns m (n + 1) = wrun ns (wstep ns m) n from rfl, e1]
        rcases wrun_inv (ns := ns) (n := n) e2 (by omega) with w | w
        · exact .inl w
        · exact .inr (by omega)
      · exact .inr (by omega)
    · rw [wrun_stop hs]
      exact .inl ⟨h, .inr hs⟩
theorem wmerge_ok {ns : List Int} {a : Int} {z : Nat} {T0 T1 : Int} {x0 x1 : List Itm} (ha : 0 ≤ a) (h0 : WSm z T0 x0) (h1 : WSm z T1 x1) (hb : T0 + T1 < 2 ^ 40) : WSm z (T0 + T1) (wmerge ns a z T0 T1 x0 x1).fd ∧ 0 ≤ (wmerge ns a z T0 T1 x0 x1).a := by
  rcases wrun_inv (ns := ns) (n := z) (WInv.start ha h0 h1) (by simp) with ⟨w, e⟩ | w
  · exact ⟨wend_ok w h0.z1 hb e, w.ha⟩
  · simp at w
theorem wrun_mem {ns : List Int} {Pr : Itm → Prop} : ∀ {n : Nat} {m : MSt}, (∀ y ∈ m.l0, Pr y) → (∀ y ∈ m.l1, Pr y) → (∀ y ∈ m.fd, Pr y) → ∀ y ∈ (wrun ns m n).fd, Pr y
  | 0, _, _, _, h => h
  | n + 1, m, h0, h1, hf => by
    show ∀ y ∈ (wrun ns (wstep ns m) n).fd, Pr y
    have key : (∀ y ∈ (wstep ns m).l0, Pr y) ∧ (∀ y ∈ (wstep ns m).l1, Pr y) ∧ ∀ y ∈ (wstep ns m).fd, Pr y := by
      unfold wstep wpop0 wpop1
      split
      · split
        · split
          · exact ⟨h0, h1, hf⟩
          · rename_i y r e
            rw [e] at h0
            refine ⟨fun q hq => h0 q (List.mem_cons_of_mem _ hq), h1, fun q hq => ?_⟩
            rcases List.mem_append.mp hq with w | w
            · exact hf q w
            · cases List.mem_singleton.mp w; exact h0 y List.mem_cons_self
        · split
          · exact ⟨h0, h1, hf⟩
          · rename_i y r e
            rw [e] at h1
            refine ⟨h0, fun q hq => h1 q (List.mem_cons_of_mem _ hq), fun q hq => ?_⟩
            rcases List.mem_append.mp hq with w | w
            · exact hf q w
            · cases List.mem_singleton.mp w; exact h1 y List.mem_cons_self
      · exact ⟨h0, h1, hf⟩
    exact wrun_mem key.1 key.2.1 key.2.2
def psp_Weighted_merge (A : Ad) : PspX := ⟨3, fun xs q e => (∃ (z1 z2 : Nat) (s1 s2 : Int) (x1 x2 : List Itm) (ns : List Int) (a : Int), xs = [.fr (dW A z1 s1 x1), .fr (dW A z2 s2 x2), .ow true (tapeO A ns a)] ∧ (WSm z1 s1 x1 ∧ WSm z2 s2 x2 ∧ 0 ≤ a ∧ s1 + s2 < 2 ^ 40) ∧
  (z2 ≠ z1 → e ⟨A.WrongKind, [], []⟩ [tapeO A ns a]) ∧ (z2 = z1 → sharedK x1 x2 = [] → q (.ow false (weiO A z1 (s1 + s2) (wmerge ns a z1 s1 s2 x1 x2).fd)) [tapeO A ns (wmerge ns a z1 s1 s2 x1 x2).a]) ∧ ∀ m, z2 = z1 → (sortS (sharedK x1 x2))[0]? = some m → e ⟨A.SharedKey, ["key"], [.str m]⟩ [tapeO A ns a]) ∨
  (∃ (z1 z2 : Nat) (s1 s2 : Int) (x1 x2 : List Itm) (d : D), xs = [.fr (dW A z1 s1 x1), .fr (dW A z2 s2 x2), .fr d] ∧ (WSm z1 s1 x1 ∧ WSm z2 s2 x2) ∧ (z2 ≠ z1 → e ⟨A.WrongKind, [], []⟩ []) ∧ (z2 = z1 → sharedK x1 x2 = [] → s1 = 0 ∧ s2 = 0 ∧ q (.ow false (weiO A z1 0 [])) []) ∧ ∀ m, z2 = z1 → (sortS (sharedK x1 x2))[0]? = some m → e ⟨A.SharedKey, ["key"], [.str m]⟩ [])⟩
abbrev sp_Weighted_merge (K : PySem.W.Frag) (A : Ad) : Sp := LspX K (psp_Weighted_merge A)
/-! ### drawn things (family C) -/
def ItmOk (x : Itm) : Prop := x.ok
def psp__law_things : Psp := ⟨3, fun xs q => ∃ (ms : List Int) (most : Int) (z : Str), xs = [.ow true (rowO ms), .fr (.int most), .fr (.str z)] ∧ ((0 ≤ most ∧ most ≤ 6) ∧ PyData.strOk z = true ∧ z.length ≤ 100) ∧ ∀ (its : List Itm) (ms' : List Int), its.length ≤ most.toNat → (∀ x ∈ its, x.ok ∧ 1 ≤ x.w ∧ x.w ≤ 40 ∧ ∃ u, x.k = z ++ u) → q (.ow false (.lst (its.map dI))) [rowO ms']⟩
abbrev sp__law_things (K : PySem.W.Frag) : Sp := Lsp K psp__law_things
def psp__law_shuffled : Psp := ⟨2, fun xs q => ∃ (ms : List Int) (its : List Itm), xs = [.ow true (rowO ms), .fr (dIs its)] ∧ (its.length ≤ 1000 ∧ ∀ x ∈ its, x.ok) ∧ ∀ (its' : List Itm) (ms' : List Int), its'.Perm its → q (.ow false (.lst (its'.map dI))) [rowO ms']⟩
abbrev sp__law_shuffled (K : PySem.W.Frag) : Sp := Lsp K psp__law_shuffled
def psp__law_tape : Psp := ⟨2, fun xs q => ∃ (ms : List Int) (n : Nat), xs = [.ow true (rowO ms), .fr (.int n)] ∧ n ≤ 1000 ∧ ∀ ns ms' : List Int, q (.ow false (.lst (ns.map .int))) [rowO ms']⟩
abbrev sp__law_tape (K : PySem.W.Frag) : Sp := Lsp K psp__law_tape
/-! the law's own dice: a tape and a place -/
def boxO (ns : List Int) (a : Int) : O := .lst [dNs ns, .int a]
def psp__law_pick : Psp := ⟨2, fun xs q => ∃ (ns : List Int) (a : Int) (ws : List Int) (b : Bool), xs = [.ow true (boxO ns a), bif b then .ow true (.lst (ws.map .int)) else .fr (dNs ws)] ∧ (0 ≤ a ∧ WsOk ws) ∧ q (.fr (.int (pickF ns a ws))) (bif b then [boxO ns (a + 1), .lst (ws.map .int)] else [boxO ns (a + 1)])⟩
abbrev sp__law_pick (K : PySem.W.Frag) : Sp := Lsp K psp__law_pick
theorem strOk_app {a b : Str} (h1 : PyData.strOk a = true) (h2 : PyData.strOk b = true) : PyData.strOk (a ++ b) = true := by
  unfold PyData.strOk at *
  show (a.cps ++ b.cps).all _ = true
  rw [Array.all_append, h1, h2]
  rfl
theorem erase_map {α β : Type} (f : α → β) : ∀ (l : List α) (i : Nat), (l.map f).eraseIdx i = (l.eraseIdx i).map f
  | [], _ => rfl
  | _ :: _, 0 => rfl
  | x :: l, i + 1 => by
    show f x :: (l.map f).eraseIdx i = f x :: (l.eraseIdx i).map f
    rw [erase_map f l i]
theorem perm_erase {α : Type} : ∀ {l : List α} {i : Nat} (h : i < l.length), (l[i] :: l.eraseIdx i).Perm l
  | [], _, h => absurd h (by simp)
  | x :: l, 0, _ => List.Perm.refl _
  | x :: l, i + 1, h => (List.Perm.swap x (l[i]'(Nat.lt_of_succ_lt_succ h)) _).trans ((perm_erase (l := l) (Nat.lt_of_succ_lt_succ h)).cons x)
/-! ### optimal samples: pairs of an item and its adjusted weight -/
abbrev Prt := Itm × Rat
def dPa (p : Prt) : D := .tup [dI p.1, dF p.2]
abbrev dPs (ps : List Prt) : D := .lst (ps.map dPa)
abbrev dKs (ps : List Prt) : D := .lst (ps.map fun p => dI p.1)
def dO (A : Ad) (size : Int) (ps : List Prt) : D := .obj A.Optimal ["size", "parts", "kept"] [.int size, dPs ps, dKs ps]
def optO (A : Ad) (size : Int) (ps : List Prt) : O := .ob A.Optimal ["size", "parts", "kept"] [.fr (.int size), .fr (dPs ps), .fr (dKs ps)]
theorem dPa_inj {p q : Prt} (h : dPa p = dPa q) : p = q := by
  unfold dPa at h
  injection h with h
  injection h with h1 h
  injection h with h2 _
  exact Prod.ext (dI_inj h1) (dF_inj h2)
theorem pl_dPa {n : Nat} {p : Prt} (h : p.1.ok) : D.plN (n + 2) (dPa p) = true := by
  show (D.plN (n + 1) (dI p.1) && (D.plN (n + 1) (dF p.2) && true)) = true
  rw [pl_dI h, pl_dF (n + 0) p.2]
  rfl
theorem pl_dPs {n : Nat} {ps : List Prt} (h : ∀ p ∈ ps, p.1.ok) : D.plN (n + 3) (dPs ps) = true := by
  show (ps.map dPa).all (D.plN (n + 2)) = true
  rw [List.all_eq_true]
  intro d hd
  obtain ⟨p, hp, rfl⟩ := List.mem_map.mp hd
  exact pl_dPa (h p hp)
theorem pl_dPt {n : Nat} {ps : List Prt} (h : ∀ p ∈ ps, p.1.ok) : D.plN (n + 3) (.tup (ps.map dPa)) = true := pl_dPs h
theorem dKs_eq (ps : List Prt) : dKs ps = dIs (ps.map (·.1)) := by unfold dKs dIs; rw [List.map_map]; rfl
/-- sorted by keys -/
noncomputable def sortP (ps : List Prt) : List Prt := ps.mergeSort fun p q => leD (.str p.1.k) (.str q.1.k)
theorem sortP_perm (ps : List Prt) : (sortP ps).Perm ps := List.mergeSort_perm _ _
theorem sortP_pw (ps : List Prt) : (sortP ps).Pairwise fun p q => leK p.1.k q.1.k :=
  List.pairwise_mergeSort (le := fun (p q : Prt) => leD (.str p.1.k) (.str q.1.k)) (fun a b c => leD_trans _ _ _) (fun a b => leD_total _ _) ps
def keyPa : D → Key
  | .tup (.tup (.str k :: _) :: _) => .inr k
  | _ => .inl 0
theorem sortByK_pa (ps : List Prt) : sortByK keyPa (ps.map dPa) = (sortP ps).map dPa := by
  unfold sortByK sortP
  exact (List.map_mergeSort (f := dPa) (r := fun p q => leD (.str p.1.k) (.str q.1.k)) (s := fun a b => leD (dKey (keyPa a)) (dKey (keyPa b))) fun a _ b _ => rfl).symm
theorem sortOk_pa {ps : List Prt} (h : ∀ p ∈ ps, p.1.ok) : SortOk ((ps.map dPa).map fun d => dKey (keyPa d)) := by
  have e : (ps.map dPa).map (fun d => dKey (keyPa d)) = (ps.map (·.1.k)).map D.str := by
    rw [List.map_map, List.map_map]
    rfl
  rw [e]
  exact sortOk_S fun x hx => by
    obtain ⟨p, hp, rfl⟩ := List.mem_map.mp hx
    exact (h p hp).1
theorem alike_P (p q : Prt) : PySem.W.alike (dPa p).py (dPa q).py = true := by
  show PySem.W.alike (.tuple [(dI p.1).py, (dF p.2).py]) (.tuple [(dI q.1).py, (dF q.2).py]) = true
  have h1 := alike_I p.1 q.1
  have h2 : PySem.W.alike (dF p.2).py (dF q.2).py = true := by
    show PySem.W.alike (.tuple [.int p.2.num, .int p.2.den]) (.tuple [.int q.2.num, .int q.2.den]) = true
    simp only [PySem.W.alike, PySem.W.alikeAll, Bool.and_true]
  simp only [PySem.W.alike, PySem.W.alikeAll, h1, h2, Bool.and_true]
theorem sortOk_P {ps : List Prt} (h : ∀ p ∈ ps, p.1.ok) : SortOk (ps.map dPa) := by
  refine ⟨?_, ?_, .inl fun d hd => ?_⟩
  · rw [List.all_eq_true]
    intro d hd
    obtain ⟨p, hp, rfl⟩ := List.mem_map.mp hd
    exact pl_dPa (n := 56) (h p hp)
  · intro d hd e he
    rw [List.map_map] at hd he
    obtain ⟨x, _, rfl⟩ := List.mem_map.mp hd
    obtain ⟨y, _, rfl⟩ := List.mem_map.mp he
    exact alike_P x y
  · rw [List.map_map] at hd
    obtain ⟨x, _, rfl⟩ := List.mem_map.mp hd
    exact ⟨_, _, rfl⟩
theorem leD_firstD {a b : D} {x y : List D} (hal : PySem.W.alike b.py a.py = true) (h : leD (.tup (a :: x)) (.tup (b :: y)) = true) : leD a b = true := by
  have e1 : PySem.W.dataLt (.tuple (b.py :: D.pys y)) (.tuple (a.py :: D.pys x)) = false := by
    have h : (!PySem.W.dataLt (.tuple (b.py :: D.pys y)) (.tuple (a.py :: D.pys x))) = true := h
    simpa using h
  rw [PySem.W.dataLt_tuple] at e1
  have e2 : PyProof.Rows.lexLt itemOrd (PySem.W.keyToksAll (b.py :: D.pys y)) (PySem.W.keyToksAll (a.py :: D.pys x)) = false := e1
  unfold leD
  cases e : PySem.W.dataLt b.py a.py with
  | false => rfl
  | true =>
    have ne : PyData.eqv b.py a.py = false := by
      cases z : PyData.eqv b.py a.py with
      | false => rfl
      | true =>
        have := (PySem.W.toks_eqv b.py a.py hal).1 z
        rw [PySem.W.dataLt, this, lex_irrefl] at e
        cases e
    rw [PySem.W.dataLt_all_no hal ne] at e2
    rw [e2] at e
    cases e
theorem nodup_inj {α β : Type} {f : α → β} : ∀ {l : List α}, (l.map f).Nodup → ∀ {a b : α}, a ∈ l → b ∈ l → f a = f b → a = b
  | x :: l, hn, a, b, ha, hb, e => by
    rw [List.map_cons, List.nodup_cons] at hn
    rcases List.mem_cons.mp ha with h1 | h1
    · rcases List.mem_cons.mp hb with h2 | h2
      · rw [h1, h2]
      · exact absurd (by rw [← h1, e]; exact List.mem_map_of_mem h2) hn.1
    · rcases List.mem_cons.mp hb with h2 | h2
      · exact absurd (by rw [← h2, ← e]; exact List.mem_map_of_mem h1) hn.1
      · exact nodup_inj hn.2 h1 h2 e
theorem leK_of_pa {p q : Prt} (h : leD (dPa p) (dPa q) = true) : leK p.1.k q.1.k := leK_of (leD_firstD (alike_I q.1 p.1) h)
/-- where no key comes twice, the pairs are sorted by keys -/
theorem sortD_pa {ps : List Prt} (hn : (ps.map (·.1.k)).Nodup) : sortD (ps.map dPa) = (sortP ps).map dPa := by
  refine sorted_uniq (sortD_pw _) ?_ ?_ fun a ha b hb h1 h2 => ?_
  · rw [List.pairwise_map]
    refine (sortP_pw ps).imp_of_mem fun {p q} hp hq h => ?_
    by_cases e : p = q
    · rw [e]; exact leD_refl _
    · have hpq : p.1.k ≠ q.1.k := fun z => e (by
        have hp2 := (sortP_perm ps).mem_iff.mp hp
        have hq2 := (sortP_perm ps).mem_iff.mp hq
        exact nodup_inj hn hp2 hq2 z)
      rcases Bool.or_eq_true _ _ ▸ leD_total (dPa p) (dPa q) with z | z
      · exact z
      · exact absurd (leK_anti h (leK_of_pa z)) hpq
  · exact ((List.mergeSort_perm _ _).trans ((sortP_perm ps).symm.map dPa))
  · have hb2 : ∀ d, d ∈ sortD (ps.map dPa) → ∃ p ∈ ps, d = dPa p := fun d hd => by
      obtain ⟨p, hp, rfl⟩ := List.mem_map.mp ((List.mergeSort_perm _ _).mem_iff.mp hd)
      exact ⟨p, hp, rfl⟩
    obtain ⟨p, hp, rfl⟩ := hb2 a ha
    obtain ⟨q, hq, rfl⟩ := hb2 b hb
    rw [nodup_inj hn hp hq (leK_anti (leK_of_pa h1) (leK_of_pa h2))]
/-! the defs -/
def psp_Optimal___init__ (A : Ad) : Psp := ⟨3, fun xs q => ∃ (size : Int) (ps : List Prt), (xs = [.ow true (.ob A.Optimal [] []), .fr (.int size), .fr (dPs ps)] ∧ ps.length ≤ 1000 ∧ q (.fr .non) [optO A size ps]) ∨ (xs = [.ow true (.ob A.Optimal [] []), .fr (.int size), .ow true (.lst (ps.map dPa))] ∧ ps.length ≤ 1000 ∧ q (.fr .non) [optO A size ps, .lst (ps.map dPa)])⟩
abbrev sp_Optimal___init__ (K : PySem.W.Frag) (A : Ad) : Sp := Lsp K (psp_Optimal___init__ A)
def psp_Optimal_empty (A : Ad) : PspX := ⟨2, fun xs q e => ∃ size : Int, xs = [.fr (.opq (.ref A.Optimal)), .fr (.int size)] ∧ (1 ≤ size ∧ size ≤ 20 → q (.ow false (optO A size [])) []) ∧ (¬ (1 ≤ size ∧ size ≤ 20) → e ⟨A.InvalidSize, ["size"], [.int size]⟩ [])⟩
abbrev sp_Optimal_empty (K : PySem.W.Frag) (A : Ad) : Sp := LspX K (psp_Optimal_empty A)
def psp_Optimal_single (A : Ad) : PspX := ⟨3, fun xs q e => ∃ (x : Itm) (size : Int), xs = [.fr (.opq (.ref A.Optimal)), .fr (dI x), .fr (.int size)] ∧ x.w.natAbs < 2 ^ 40 ∧ (1 ≤ size ∧ size ≤ 20 → q (.ow false (optO A size [(x, (x.w : Rat))])) []) ∧ (¬ (1 ≤ size ∧ size ≤ 20) → e ⟨A.InvalidSize, ["size"], [.int size]⟩ [])⟩
abbrev sp_Optimal_single (K : PySem.W.Frag) (A : Ad) : Sp := LspX K (psp_Optimal_single A)
def psp_Optimal_view (A : Ad) : Psp := ⟨1, fun xs q => ∃ (z : Int) (ps : List Prt), (xs = [.fr (dO A z ps)] ∧ q (.fr (.tup [.int z, .tup (ps.map dPa)])) []) ∨ (xs = [.ow true (optO A z ps)] ∧ q (.fr (.tup [.int z, .tup (ps.map dPa)])) [optO A z ps])⟩
abbrev sp_Optimal_view (K : PySem.W.Frag) (A : Ad) : Sp := Lsp K (psp_Optimal_view A)
def psp_Optimal_adjusted_sum (A : Ad) : Psp := ⟨1, fun xs q => ∃ (z : Int) (ps : List Prt), (xs = [.fr (dO A z ps)] ∧ SumOk (ps.map (·.2)) ∧ q (.fr (dF (rsum (ps.map (·.2))))) []) ∨ (xs = [.ow true (optO A z ps)] ∧ SumOk (ps.map (·.2)) ∧ q (.fr (dF (rsum (ps.map (·.2))))) [optO A z ps])⟩
abbrev sp_Optimal_adjusted_sum (K : PySem.W.Frag) (A : Ad) : Sp := Lsp K (psp_Optimal_adjusted_sum A)
/-! ### thresholds -/
def keepQ (w t : Rat) : Rat := if w < t then w / t else 1
structure Th (ws : List Rat) (k : Int) (t : Rat) : Prop where
  zero : (ws.length : Int) ≤ k → t = 0
  pos : k < ws.length → 0 < t ∧ rsum (ws.map (keepQ · t)) = (k : Rat)
theorem Th.nn {ws : List Rat} {k : Int} {t : Rat} (h : Th ws k t) : 0 ≤ t := by
  rcases Int.lt_or_le k ws.length with z | z
  · exact Rat.le_of_lt (h.pos z).1
  · rw [h.zero z]
    exact Rat.le_refl
theorem cast_succ (n : Nat) : (((n + 1 : Nat) : Int) : Rat) = ((n : Int) : Rat) + 1 := by
  rw [Int.natCast_add, Rat.intCast_add]
  rfl
theorem keepQ_big {t : Rat} : ∀ {ts : List Rat}, (∀ y ∈ ts, t ≤ y) → rsum (ts.map (keepQ · t)) = ((ts.length : Int) : Rat)
  | [], _ => rfl
  | y :: ts, h => by
    have h1 := h y List.mem_cons_self
    rw [List.map_cons, rsum_cons, keepQ_big fun z hz => h z (List.mem_cons_of_mem _ hz), List.length_cons, cast_succ]
    have : keepQ y t = 1 := by
      unfold keepQ
      rw [if_neg (by grind)]
    rw [this]
    grind
theorem keepQ_small {t : Rat} (ht : 0 < t) : ∀ {ss : List Rat}, (∀ y ∈ ss, y ≤ t) → rsum (ss.map (keepQ · t)) = rsum ss / t
  | [], _ => by
    show rsum [] = rsum [] / t
    rw [rsum_nil]
    grind
  | y :: ss, h => by
    have h1 := h y List.mem_cons_self
    rw [List.map_cons, rsum_cons, keepQ_small ht fun z hz => h z (List.mem_cons_of_mem _ hz), rsum_cons]
    have : keepQ y t = y / t := by
      unfold keepQ
      split
      · rfl
      · have : y = t := by grind
        subst this
        grind
    rw [this]
    grind
theorem keepQ_mono {w t t' : Rat} (hw : 0 < w) (h0 : 0 < t) (h : t < t') : keepQ w t' ≤ keepQ w t ∧ (w < t' → keepQ w t' < keepQ w t) := by
  unfold keepQ
  have hi := Rat.inv_pos.mpr h0
  have hi' := Rat.inv_pos.mpr (show 0 < t' by grind)
  have e1 : t * t⁻¹ = 1 := by grind
  have e2 : t' * t'⁻¹ = 1 := by grind
  have lt : t'⁻¹ < t⁻¹ := by
    have := Rat.mul_lt_mul_of_pos_right h (Rat.mul_pos hi hi')
    have e3 : t * (t⁻¹ * t'⁻¹) = t'⁻¹ := by grind
    have e4 : t' * (t⁻¹ * t'⁻¹) = t⁻¹ := by grind
    rw [e3, e4] at this
    exact this
  have l2 : w * t'⁻¹ < w * t⁻¹ := Rat.mul_lt_mul_of_pos_left lt hw
  by_cases c1 : w < t'
  · have l3 : w * t'⁻¹ < 1 := by
      have := Rat.mul_lt_mul_of_pos_right c1 hi'
      rw [e2] at this
      exact this
    rw [if_pos c1]
    split
    · rw [Rat.div_def, Rat.div_def]
      exact ⟨Rat.le_of_lt l2, fun _ => l2⟩
    · rw [Rat.div_def]
      exact ⟨Rat.le_of_lt l3, fun _ => l3⟩
  · rw [if_neg c1, if_neg (by grind)]
    exact ⟨Rat.le_refl, fun z => absurd z c1⟩
theorem keepQ_strict {t t' : Rat} (h0 : 0 < t) (h : t < t') : ∀ {ws : List Rat}, (∀ w ∈ ws, 0 < w) → (∃ w ∈ ws, w < t') → rsum (ws.map (keepQ · t')) < rsum (ws.map (keepQ · t))
  | [], _, he => by simp at he
  | w :: ws, hw, he => by
    have h1 := keepQ_mono (hw w List.mem_cons_self) h0 h
    have h2 : rsum (ws.map (keepQ · t')) ≤ rsum (ws.map (keepQ · t)) := rsum_le fun x hx => (keepQ_mono (hw x (List.mem_cons_of_mem _ hx)) h0 h).1
    rw [List.map_cons, List.map_cons, rsum_cons, rsum_cons]
    obtain ⟨x, hx, hlt⟩ := he
    rcases List.mem_cons.mp hx with rfl | hx
    · have := h1.2 hlt
      grind
    · have := keepQ_strict h0 h (ws := ws) (fun y hy => hw y (List.mem_cons_of_mem _ hy)) ⟨x, hx, hlt⟩
      grind
theorem some_small {ws : List Rat} {k : Int} {t : Rat} (h : rsum (ws.map (keepQ · t)) = (k : Rat)) (hk : k < ws.length) : ∃ w ∈ ws, w < t := by
  rcases Classical.em (∃ w ∈ ws, w < t) with z | z
  · exact z
  · have := keepQ_big (t := t) (ts := ws) fun y hy => Rat.not_lt.mp fun q => z ⟨y, hy, q⟩
    rw [h] at this
    have := Rat.intCast_inj.mp this
    omega
theorem Th.uniq {ws : List Rat} {k : Int} {t t' : Rat} (h : Th ws k t) (h' : Th ws k t') (hw : ∀ w ∈ ws, 0 < w) : t = t' := by
  rcases Int.lt_or_le k ws.length with z | z
  · have a := h.pos z
    have b := h'.pos z
    rcases Classical.em (t < t') with q | q
    · have := keepQ_strict a.1 q hw (some_small b.2 z)
      rw [a.2, b.2] at this
      grind
    · rcases Classical.em (t' < t) with q' | q'
      · have := keepQ_strict b.1 q' hw (some_small a.2 z)
        rw [a.2, b.2] at this
        grind
      · grind
  · rw [h.zero z, h'.zero z]
/-- how the search stands: what is left, what was taken off -/
structure ThI (ws : List Rat) (k : Int) (ls ts : List Rat) : Prop where
  perm : (ls ++ ts).Perm ws
  few : (ts.length : Int) < k
  top : ∀ y ∈ ts, rsum ls / ((k - ts.length : Int) : Rat) ≤ y
theorem ThI.done {ws : List Rat} {k : Int} {ls ts : List Rat} (h : ThI ws k ls ts) (hw : ∀ w ∈ ws, 0 < w) (hk : k < ws.length) (hx : ∀ y ∈ ls, y ≤ rsum ls / ((k - ts.length : Int) : Rat)) : Th ws k (rsum ls / ((k - ts.length : Int) : Rat)) := by
  have hfew := h.few
  have hl := h.perm.length_eq
  rw [List.length_append] at hl
  have hM : (0 : Rat) < ((k - ts.length : Int) : Rat) := Rat.intCast_pos.mpr (by omega)
  have h0 : 0 < rsum ls / ((k - ts.length : Int) : Rat) := by
    cases ls with
    | nil =>
      simp at hl
      omega
    | cons y ls =>
      have h1 := hx y List.mem_cons_self
      have h2 := hw y (h.perm.subset (by simp))
      grind
  refine ⟨fun z => absurd hk (by omega), fun _ => ⟨h0, ?_⟩⟩
  rw [rsum_perm (h.perm.symm.map (keepQ · _)), List.map_append, rsum_app, keepQ_small h0 hx, keepQ_big h.top]
  have : (k : Rat) = ((k - ts.length : Int) : Rat) + ((ts.length : Int) : Rat) := by
    rw [Rat.intCast_sub]
    grind
  rw [this]
  have hne : rsum ls ≠ 0 := by
    intro z
    rw [z] at h0
    grind
  grind
theorem rsum_pos {rs : List Rat} (h : ∀ r ∈ rs, 0 < r) (hn : rs ≠ []) : 0 < rsum rs := by
  cases rs with
  | nil => exact absurd rfl hn
  | cons r rs =>
    rw [rsum_cons]
    have := h r List.mem_cons_self
    have := rsum_nn fun x hx => Rat.le_of_lt (h x (List.mem_cons_of_mem _ hx))
    grind
theorem erase_perm {α : Type} {l : List α} {j : Nat} {x : α} (h : l[j]? = some x) : (x :: l.eraseIdx j).Perm l := by
  induction l generalizing j with
  | nil => simp at h
  | cons y l ih =>
    cases j with
    | zero =>
      have : y = x := by simpa using h
      subst this
      exact List.Perm.refl _
    | succ j =>
      have := ih (j := j) (by simpa using h)
      rw [List.eraseIdx_cons_succ]
      exact (List.Perm.swap y x _).trans (this.cons y)
theorem ThI.next {ws : List Rat} {k : Int} {ls ts : List Rat} {j : Nat} {x : Rat} (h : ThI ws k ls ts) (hw : ∀ w ∈ ws, 0 < w) (hk : k < ws.length) (hj : ls[j]? = some x) (hx : rsum ls / ((k - ts.length : Int) : Rat) < x) : ThI ws k (ls.eraseIdx j) (x :: ts) := by
  have hfew := h.few
  have hp := erase_perm hj
  have hl := h.perm.length_eq
  have hl2 := hp.length_eq
  rw [List.length_append] at hl
  rw [List.length_cons] at hl2
  have hs : rsum ls = x + rsum (ls.eraseIdx j) := by rw [← rsum_perm hp, rsum_cons]
  have hpos : ∀ w ∈ ls.eraseIdx j, 0 < w := fun w hm => hw w (h.perm.subset (List.mem_append_left _ (hp.subset (List.mem_cons_of_mem _ hm))))
  have hM : (0 : Rat) < ((k - ts.length : Int) : Rat) := Rat.intCast_pos.mpr (by omega)
  have hlt : rsum ls < x * ((k - ts.length : Int) : Rat) := by
    have e : ∀ M S : Rat, 0 < M → S / M < x → S < x * M := fun M S hM h => by
      have := Rat.mul_lt_mul_of_pos_right h hM
      have e : S / M * M = S := by grind
      rw [e] at this
      exact this
    exact e _ _ hM hx
  have hfew2 : (ts.length : Int) + 1 < k := by
    rcases Int.lt_or_le ((ts.length : Int) + 1) k with z | z
    · exact z
    · have e : k - (ts.length : Int) = 1 := by omega
      rw [e] at hlt
      have e1 : ((1 : Int) : Rat) = 1 := rfl
      rw [e1] at hlt
      have := rsum_nn fun w hm => Rat.le_of_lt (hpos w hm)
      grind
  have hc : ((k - (x :: ts).length : Int) : Rat) = ((k - ts.length : Int) : Rat) - 1 := by
    rw [List.length_cons, show k - ((ts.length + 1 : Nat) : Int) = (k - ts.length) - 1 by omega, Rat.intCast_sub]
    rfl
  have hM1 : (1 : Rat) < ((k - ts.length : Int) : Rat) := Rat.intCast_lt_intCast.mpr (show (1 : Int) < k - ts.length by omega)
  have hle : rsum (ls.eraseIdx j) / ((k - (x :: ts).length : Int) : Rat) ≤ rsum ls / ((k - ts.length : Int) : Rat) := by
    rw [hc]
    generalize ((k - ts.length : Int) : Rat) = M at *
    refine Rat.not_lt.mp fun z => ?_
    have h2 := Rat.mul_lt_mul_of_pos_right z (show 0 < M - 1 by grind)
    have e1 : rsum (ls.eraseIdx j) / (M - 1) * (M - 1) = rsum (ls.eraseIdx j) := by grind
    have e2 : rsum ls / M * (M - 1) = rsum ls - rsum ls / M := by grind
    rw [e1, e2] at h2
    grind
  refine ⟨?_, by rw [List.length_cons]; omega, fun y hy => ?_⟩
  · refine List.Perm.trans ?_ h.perm
    refine (List.perm_middle).trans ?_
    rw [← List.cons_append]
    exact hp.append_right ts
  · rcases List.mem_cons.mp hy with rfl | hy
    · exact Rat.le_trans hle (Rat.le_of_lt hx)
    · exact Rat.le_trans hle (h.top y hy)
theorem keepQ_split (t : Rat) (ws : List Rat) : rsum (ws.map (keepQ · t)) = rsum (ws.filter (fun w => decide (w < t))) / t + (((ws.filter (fun w => !decide (w < t))).length : Int) : Rat) := by
  induction ws with
  | nil =>
    show rsum [] = rsum [] / t + ((0 : Int) : Rat)
    rw [rsum_nil]
    have : ((0 : Int) : Rat) = 0 := rfl
    grind
  | cons w ws ih =>
    rw [List.map_cons, rsum_cons, ih]
    unfold keepQ
    by_cases h : w < t
    · rw [if_pos h, List.filter_cons_of_pos (by simpa using h), List.filter_cons_of_neg (by simpa using h), rsum_cons]
      grind
    · rw [if_neg h, List.filter_cons_of_neg (by simpa using h), List.filter_cons_of_pos (by simpa using h), List.length_cons, cast_succ]
      grind
/-- the sum of the chances stays small -/
theorem sz_keepQs {m n : Nat} {ws : List Rat} {t : Rat} (hw : ∀ w ∈ ws, Sz m w) (ht : Sz n t) (t0 : t ≠ 0) (hl : ws.length ≤ 1000) : Sz (ws.length * (m + 1) + n + 12) (rsum (ws.map (keepQ · t))) := by
  rw [keepQ_split]
  have h1 : Sz (ws.length * (m + 1) + 1) (rsum (ws.filter (fun w => decide (w < t)))) := by
    refine sz_rsumA (fun r hr => hw r (List.mem_filter.mp hr).1) ?_
    have := Nat.mul_le_mul_right (m + 1) (List.length_filter_le (fun w => decide (w < t)) ws)
    omega
  have h2 : Sz 10 ((((ws.filter (fun w => !decide (w < t))).length : Int) : Rat)) := sz_int (by
    have := List.length_filter_le (fun w => !decide (w < t)) ws
    rw [Int.natAbs_natCast]
    omega) (by decide)
  exact ((h1.div ht t0).add h2).mono (by omega)
theorem neq_no {d e : D} {C : Prop} (h : not (eqD d e) = true) (he : d = e) : C := by
  rw [eqD_true he] at h
  cases h
def psp_greater : Psp := ⟨2, fun xs q => ∃ a b : Rat, xs = [.fr (dF a), .fr (dF b)] ∧ (Sz LIM a ∧ Sz LIM b) ∧ q (.fr (dF (if a < b then b else a))) []⟩
abbrev sp_greater (K : PySem.W.Frag) : Sp := Lsp K psp_greater
/-- the greatest of the first i, beginning with a -/
def maxQ : Rat → List Rat → Rat
  | a, [] => a
  | a, x :: xs => maxQ (if a < x then x else a) xs
theorem maxQ_snoc (x : Rat) : ∀ (xs : List Rat) (a : Rat), maxQ a (xs ++ [x]) = if maxQ a xs < x then x else maxQ a xs
  | [], a => rfl
  | y :: ys, a => maxQ_snoc x ys _
theorem maxQ_ge : ∀ (xs : List Rat) (a : Rat), a ≤ maxQ a xs ∧ ∀ x ∈ xs, x ≤ maxQ a xs
  | [], a => ⟨Rat.le_refl, fun _ h => by simp at h⟩
  | y :: ys, a => by
    obtain ⟨h1, h2⟩ := maxQ_ge ys (if a < y then y else a)
    unfold maxQ
    generalize maxQ (if a < y then y else a) ys = m at *
    refine ⟨?_, fun x hx => ?_⟩
    · split at h1 <;> grind
    · rcases List.mem_cons.mp hx with rfl | hx
      · split at h1 <;> grind
      · exact h2 x hx
theorem maxQ_mem : ∀ (xs : List Rat) (a : Rat), maxQ a xs = a ∨ maxQ a xs ∈ xs
  | [], a => .inl rfl
  | y :: ys, a => by
    unfold maxQ
    rcases maxQ_mem ys (if a < y then y else a) with h | h
    · rw [h]
      split
      · exact .inr List.mem_cons_self
      · exact .inl rfl
    · exact .inr (List.mem_cons_of_mem _ h)
theorem maxQ_take {xs : List Rat} {i : Nat} {x a : Rat} (h : xs[i]? = some x) : maxQ a (xs.take (i + 1)) = if maxQ a (xs.take i) < x then x else maxQ a (xs.take i) := by
  rw [List.take_add_one, h, Option.toList_some, maxQ_snoc]
def TBits (m : Nat) (ws : List Rat) : Nat := ws.length * (m + 1) + 1
def psp_threshold : Psp := ⟨2, fun xs q => ∃ (ws : List Rat) (k : Int) (m : Nat), xs = [.fr (dFs ws), .fr (.int k)] ∧ ((∀ w ∈ ws, 0 < w ∧ Sz m w) ∧ (0 < k ∧ k ≤ 1000) ∧ TBits m ws ≤ 900 ∧ ws.length ≤ 1000) ∧ ∀ t, Th ws k t → Sz (TBits m ws + 11) t → q (.fr (dF t)) []⟩
abbrev sp_threshold (K : PySem.W.Frag) : Sp := Lsp K psp_threshold
theorem first_of {xs : List Rat} {x : Rat} (h : x ∈ xs) : ∃ j : Nat, xs[j]? = some x ∧ ∀ m : Nat, m < j → xs[m]? ≠ some x := by
  induction xs with
  | nil => simp at h
  | cons y xs ih =>
    rcases Classical.em (y = x) with e | e
    · exact ⟨0, by rw [e]; rfl, fun m hm => absurd hm (by omega)⟩
    · obtain ⟨j, h1, h2⟩ := ih (by
        rcases List.mem_cons.mp h with z | z
        · exact absurd z.symm e
        · exact z)
      refine ⟨j + 1, h1, fun m hm => ?_⟩
      cases m with
      | zero =>
        intro z
        exact e (Option.some.inj z)
      | succ m => exact h2 m (by omega)
theorem dF_at {xs : List Rat} {m : Nat} {x : Rat} : (xs.map dF)[m]? = some (dF x) ↔ xs[m]? = some x := by
  rw [List.getElem?_map]
  cases e : xs[m]? with
  | none => simp
  | some y =>
    simp only [Option.map_some, Option.some.injEq]
    exact ⟨fun h => dF_inj h, fun h => by rw [h]⟩
theorem map_erase {α : Type} (f : α → D) : ∀ (xs : List α) (j : Nat), (xs.map f).eraseIdx j = (xs.eraseIdx j).map f
  | [], _ => rfl
  | _ :: _, 0 => rfl
  | x :: xs, j + 1 => by
    show f x :: (xs.map f).eraseIdx j = f x :: (xs.eraseIdx j).map f
    rw [map_erase f xs j]
def psp_keep_chance : Psp := ⟨2, fun xs q => ∃ w t : Rat, xs = [.fr (dF w), .fr (dF t)] ∧ (Sz LIM w ∧ Sz LIM t ∧ 0 ≤ w) ∧ q (.fr (dF (keepQ w t))) []⟩
abbrev sp_keep_chance (K : PySem.W.Frag) : Sp := Lsp K psp_keep_chance
/-! ### amounts, means, estimates of the three kinds (items up to six, weights up to 1000) -/
def dAk (kvs : List (Key × D)) : D := .dik (kvs.map (·.1)) (kvs.map (·.2))
theorem zip_dAk : ∀ kvs : List (Key × D), (kvs.map (·.1)).zip (kvs.map (·.2)) = kvs
  | [] => rfl
  | p :: r => by rw [List.map_cons, List.map_cons, List.zip_cons_cons, zip_dAk r]
noncomputable def amt (kvs : List (Key × D)) (x : Itm) : Int := match valK kvs (.inr x.k) with
  | some (.int z) => z
  | _ => 0
/-- amounts: small ints -/
def AmOk (kvs : List (Key × D)) : Prop := ∀ k e, valK kvs k = some e → ∃ z : Int, e = .int z ∧ z.natAbs ≤ 10
theorem AmOk.get {kvs : List (Key × D)} (h : AmOk kvs) (x : Itm) : (valK kvs (.inr x.k)).getD (.int 0) = .int (amt kvs x) ∧ (amt kvs x).natAbs ≤ 10 := by
  unfold amt
  cases e : valK kvs (.inr x.k) with
  | none => exact ⟨rfl, by decide⟩
  | some d =>
    obtain ⟨z, rfl, hz⟩ := h _ _ e
    exact ⟨rfl, hz⟩
theorem AmOk.put {kvs : List (Key × D)} (h : AmOk kvs) (k : Key) {z : Int} (hz : z.natAbs ≤ 10) : AmOk (putKD kvs k (.int z)) := by
  intro j e he
  rw [valK_put] at he
  split at he
  · cases he; exact ⟨z, rfl, hz⟩
  · exact h j e he
noncomputable def nums (kvs : List (Key × D)) (xs : List Itm) : List Rat := xs.map fun x => (amt kvs x : Rat)
def mean (rs : List Rat) : Rat := rsum rs / ((rs.length : Int) : Rat)
def spr (rs : List Rat) (m : Rat) : Rat := rsum (rs.map fun r => (r - m) * (r - m))
/-- numbers over a denominator, up to six -/
structure NsOk (M : Nat) (rs : List Rat) : Prop where
  pos : 0 < M
  hi : M < 2 ^ 60
  len : rs.length ≤ 6
  ne : rs ≠ []
  fz : ∀ r ∈ rs, Fz M 170000 r
/-- items with weights -/
structure Its (x : List Itm) : Prop where
  ne : x ≠ []
  len : x.length ≤ 6
  ok : ∀ y ∈ x, y.ok
  w1 : ∀ y ∈ x, 1 ≤ y.w ∧ y.w ≤ 1000
def wS (x : List Itm) : Int := (x.map (·.w)).sum
/-- the ordered estimates -/
noncomputable def ordG (kvs : List (Key × D)) : Int → Int → List Itm → List Rat
  | _, _, [] => []
  | l, b, y :: r => ((b : Rat) + Rat.divInt (amt kvs y * l) y.w) :: ordG kvs (l - y.w) (b + amt kvs y) r
noncomputable def ords (kvs : List (Key × D)) (t : Int) (x : List Itm) : List Rat := ordG kvs t 0 x
def dFo (o : Option Rat) : D := match o with
  | none => .non
  | some r => dF r
theorem its_at {x : List Itm} {i : Nat} {d : D} (h : (x.map dI)[i]? = some d) : ∃ y, d = dI y ∧ x[i]? = some y := by
  rw [List.getElem?_map] at h
  cases e : x[i]? with
  | none => rw [e] at h; cases h
  | some z => rw [e] at h; exact ⟨z, (Option.some.inj h).symm, rfl⟩
theorem szM {M B : Nat} {r : Rat} (h : Fz M B r) (hM : 0 < M) (h1 : M < 2 ^ 300) (h2 : B < 2 ^ 300) : Sz LIM r := h.szP hM h1 h2 (by decide)
theorem m60 {M : Nat} (h : M < 2 ^ 60) : M < 2 ^ 300 := Nat.lt_trans h (by decide +kernel)
theorem m66 {M : Nat} (h : M < 2 ^ 60) : M * 60 < 2 ^ 300 := Nat.lt_of_lt_of_le (show M * 60 < 2 ^ 60 * 60 by omega) (by decide +kernel)
theorem m132 {M : Nat} (h : M < 2 ^ 60) : M * 60 * (M * 60) < 2 ^ 300 := Nat.lt_of_lt_of_le (Nat.mul_lt_mul'' (show M * 60 < 2 ^ 60 * 60 by omega) (show M * 60 < 2 ^ 60 * 60 by omega)) (by decide +kernel)
theorem sumOkM {M B : Nat} {rs : List Rat} (h : ∀ r ∈ rs, Fz M B r) (hM : 0 < M) (h1 : M < 2 ^ 300) (h2 : B * 1000 < 2 ^ 300) (hl : rs.length ≤ 999) : SumOk rs := by
  refine fz_sumOk (n := 999) h hM hl ?_ (Nat.lt_trans h1 (by decide +kernel))
  have : (999 + 1) * B * M < 2 ^ 300 * 2 ^ 300 := Nat.mul_lt_mul'' (by omega) h1
  exact Nat.lt_trans this (by decide +kernel)
section
variable {M : Nat} {rs : List Rat} {m : Rat}
theorem NsOk.pos60 (h : NsOk M rs) : 0 < M * 60 := by have := h.pos; omega
theorem NsOk.sz1 (h : NsOk M rs) : ∀ r ∈ rs, Sz LIM r := fun r hr => szM (h.fz r hr) h.pos (m60 h.hi) (by decide +kernel)
theorem NsOk.szm (h : NsOk M rs) (hm : Fz (M * 60) 1100000 m) : Sz LIM m := szM hm h.pos60 (m66 h.hi) (by decide +kernel)
theorem NsOk.dif (h : NsOk M rs) (hm : Fz (M * 60) 1100000 m) : ∀ r ∈ rs, Fz (M * 60) 1270000 (r - m) := fun r hr => ((h.fz r hr).up (M' := M * 60) (B' := 170000) (Nat.dvd_mul_right ..) (Nat.le_refl _)).sub hm
theorem NsOk.dev (h : NsOk M rs) (hm : Fz (M * 60) 1100000 m) : ∀ r ∈ rs, Sz LIM (r - m) := fun r hr => szM (h.dif hm r hr) h.pos60 (m66 h.hi) (by decide +kernel)
theorem NsOk.sqF (h : NsOk M rs) (hm : Fz (M * 60) 1100000 m) : ∀ r ∈ rs.map (fun r => (r - m) * (r - m)), Fz (M * 60 * (M * 60)) (1270000 * 1270000) r := fun x hx => by
  obtain ⟨r, hr, rfl⟩ := List.mem_map.mp hx
  exact (h.dif hm r hr).mul (h.dif hm r hr)
theorem NsOk.sq (h : NsOk M rs) (hm : Fz (M * 60) 1100000 m) : SumOk (rs.map fun r => (r - m) * (r - m)) :=
  sumOkM (h.sqF hm) (Nat.mul_pos h.pos60 h.pos60) (m132 h.hi) (by decide +kernel) (by rw [List.length_map]; have := h.len; omega)
theorem NsOk.spr (h : NsOk M rs) (hm : Fz (M * 60) 1100000 m) : Fz (M * 60 * (M * 60)) (6 * (1270000 * 1270000)) (spr rs m) := by
  have := Fz.rsum (h.sqF hm)
  refine this.up (Nat.dvd_refl _) ?_
  rw [List.length_map]
  exact Nat.mul_le_mul_right _ h.len
theorem NsOk.sum (h : NsOk M rs) : SumOk rs := sumOkM h.fz h.pos (m60 h.hi) (by decide +kernel) (by have := h.len; omega)
theorem NsOk.sumF (h : NsOk M rs) : Fz M 1100000 (rsum rs) := (Fz.rsum h.fz).up (Nat.dvd_refl _) (by have := h.len; omega)
theorem NsOk.sumS (h : NsOk M rs) : Sz LIM (rsum rs) := szM h.sumF h.pos (m60 h.hi) (by decide +kernel)
theorem NsOk.ln (h : NsOk M rs) : rs.length = 1 ∨ rs.length = 2 ∨ rs.length = 3 ∨ rs.length = 4 ∨ rs.length = 5 ∨ rs.length = 6 := by
  have := h.len
  have : rs.length ≠ 0 := fun e => h.ne (List.length_eq_zero_iff.mp e)
  omega
theorem NsOk.lenS (h : NsOk M rs) : Sz LIM (((rs.length : Int)) : Rat) := by
  rcases h.ln with e | e | e | e | e | e <;> rw [e] <;> exact ⟨by decide +kernel, by decide +kernel⟩
theorem NsOk.len0 (h : NsOk M rs) : (((rs.length : Int)) : Rat) ≠ 0 := by
  rcases h.ln with e | e | e | e | e | e <;> rw [e] <;> decide +kernel
theorem NsOk.inv (h : NsOk M rs) : Fz 60 1 (((rs.length : Int)) : Rat)⁻¹ := by
  rcases h.ln with e | e | e | e | e | e <;> rw [e] <;> exact ⟨by decide +kernel, by decide +kernel⟩
theorem NsOk.mean (h : NsOk M rs) : Fz (M * 60) 1100000 (mean rs) := by
  unfold Sam.mean
  rw [Rat.div_def]
  exact h.sumF.mul h.inv
end
theorem fz_divw {k w : Int} {B : Nat} (hw : 1 ≤ w) (hk : k.natAbs ≤ B) : Fz w.toNat B (Rat.divInt k w) := by
  have hwn : (w.toNat : Int) = w := by omega
  have h1 : (Rat.divInt k w).den ∣ w.toNat := by rw [← hwn]; exact den_dvd k w.toNat (by omega)
  refine ⟨h1, ?_⟩
  have h2 : (Rat.divInt k w).num * w = k * (Rat.divInt k w).den := (Rat.divInt_eq_divInt_iff (by have := (Rat.divInt k w).den_pos; omega) (by omega)).mp (Rat.num_divInt_den (Rat.divInt k w))
  have h3 : (Rat.divInt k w).num.natAbs * w.natAbs = k.natAbs * (Rat.divInt k w).den := by
    rw [← Int.natAbs_mul, h2, Int.natAbs_mul, Int.natAbs_natCast]
  have h4 : (Rat.divInt k w).num.natAbs * 1 ≤ (Rat.divInt k w).num.natAbs * w.natAbs := Nat.mul_le_mul_left _ (by omega)
  have h5 : k.natAbs * (Rat.divInt k w).den ≤ B * (Rat.divInt k w).den := Nat.mul_le_mul_right _ hk
  omega
theorem fz_int {z : Int} {B : Nat} (h : z.natAbs ≤ B) : Fz 1 B (z : Rat) := ⟨Nat.dvd_refl 1, by show z.natAbs ≤ B * 1; omega⟩
theorem mul_b {a b : Int} {A B : Nat} (ha : a.natAbs ≤ A) (hb : b.natAbs ≤ B) : (a * b).natAbs ≤ A * B := by
  rw [Int.natAbs_mul]
  exact Nat.mul_le_mul ha hb
theorem sum_b {x : List Int} {B : Nat} (h : ∀ z ∈ x, z.natAbs ≤ B) : x.sum.natAbs ≤ B * x.length := by
  induction x with
  | nil => exact Nat.le_refl _
  | cons a r ih =>
    have h1 := ih fun z hz => h z (List.mem_cons_of_mem _ hz)
    have h2 := h a List.mem_cons_self
    rw [List.sum_cons, List.length_cons, Nat.mul_add, Nat.mul_one]
    omega
/-- the product of the weights -/
def wP (x : List Itm) : Nat := x.foldr (fun y n => y.w.toNat * n) 1
theorem wP_dvd {x : List Itm} {y : Itm} (h : y ∈ x) : y.w.toNat ∣ wP x := by
  induction x with
  | nil => cases h
  | cons a r ih =>
    rcases List.mem_cons.mp h with rfl | h
    · exact Nat.dvd_mul_right _ _
    · exact Nat.dvd_trans (ih h) (Nat.dvd_mul_left _ _)
theorem wP_b {x : List Itm} (h : ∀ y ∈ x, 1 ≤ y.w ∧ y.w ≤ 1000) : 0 < wP x ∧ wP x ≤ 1000 ^ x.length := by
  induction x with
  | nil => exact ⟨by decide, by decide⟩
  | cons a r ih =>
    have h1 := ih fun y hy => h y (List.mem_cons_of_mem _ hy)
    have h2 := h a List.mem_cons_self
    refine ⟨Nat.mul_pos (by omega) h1.1, ?_⟩
    rw [List.length_cons, Nat.pow_succ, Nat.mul_comm (1000 ^ r.length)]
    exact Nat.mul_le_mul (by omega) h1.2
noncomputable def aS (kvs : List (Key × D)) (x : List Itm) : Int := (x.map (amt kvs)).sum
theorem ordG_at {kvs : List (Key × D)} : ∀ {x : List Itm} {l b : Int} {i : Nat} {y : Itm}, x[i]? = some y → (ordG kvs l b x)[i]? = some (((b + aS kvs (x.take i) : Int) : Rat) + Rat.divInt (amt kvs y * (l - wS (x.take i))) y.w)
  | [], _, _, _, _, h => by cases h
  | a :: r, l, b, 0, y, h => by
    cases h
    show some (((b : Int) : Rat) + Rat.divInt (amt kvs a * l) a.w) = some (((b + 0 : Int) : Rat) + Rat.divInt (amt kvs a * (l - 0)) a.w)
    rw [Int.add_zero, Int.sub_zero]
  | a :: r, l, b, i + 1, y, h => by
    have h : r[i]? = some y := h
    have ih := ordG_at (kvs := kvs) (l := l - a.w) (b := b + amt kvs a) h
    show (ordG kvs (l - a.w) (b + amt kvs a) r)[i]? = _
    rw [ih]
    have e1 : aS kvs ((a :: r).take (i + 1)) = amt kvs a + aS kvs (r.take i) := by unfold aS; rw [List.take_succ_cons, List.map_cons, List.sum_cons]
    have e2 : wS ((a :: r).take (i + 1)) = a.w + wS (r.take i) := by unfold wS; rw [List.take_succ_cons, List.map_cons, List.sum_cons]
    rw [e1, e2, Int.add_assoc, Int.sub_sub]
theorem ordG_len {kvs : List (Key × D)} : ∀ {x : List Itm} {l b : Int}, (ordG kvs l b x).length = x.length
  | [], _, _ => rfl
  | a :: r, l, b => by show (ordG kvs _ _ r).length + 1 = _; rw [ordG_len]; rfl
theorem aS_b {kvs : List (Key × D)} {x : List Itm} (hk : AmOk kvs) : (aS kvs x).natAbs ≤ 10 * x.length := by
  have := sum_b (x := x.map (amt kvs)) (B := 10) fun z hz => by
    obtain ⟨y, _, rfl⟩ := List.mem_map.mp hz
    exact (hk.get y).2
  rw [List.length_map] at this
  exact this
theorem wS_b {x : List Itm} (h : ∀ y ∈ x, 1 ≤ y.w ∧ y.w ≤ 1000) : 0 ≤ wS x ∧ wS x ≤ 1000 * x.length := by
  induction x with
  | nil => exact ⟨by decide, by decide⟩
  | cons a r ih =>
    have h1 := ih fun y hy => h y (List.mem_cons_of_mem _ hy)
    have h2 := h a List.mem_cons_self
    have : wS (a :: r) = a.w + wS r := by unfold wS; rw [List.map_cons, List.sum_cons]
    rw [this, List.length_cons]
    omega
theorem Its.tk {x : List Itm} (h : Its x) (i : Nat) : 0 ≤ wS (x.take i) ∧ wS (x.take i) ≤ 6000 := by
  have h1 := wS_b (x := x.take i) fun y hy => h.w1 y (List.mem_of_mem_take hy)
  have h2 := h.len
  rw [List.length_take] at h1
  omega
theorem at_fz {kvs : List (Key × D)} {x : List Itm} {t : Int} (hk : AmOk kvs) (hx : Its x) (t0 : 0 ≤ t) (t5 : t ≤ 16000) {i : Nat} {y : Itm} (h : x[i]? = some y) :
    (amt kvs y * (t - wS (x.take i))).natAbs ≤ 10 * 16000 ∧ (aS kvs (x.take i)).natAbs ≤ 60 ∧ Fz (wP x) 170000 (((0 + aS kvs (x.take i) : Int) : Rat) + Rat.divInt (amt kvs y * (t - wS (x.take i))) y.w) := by
  have hy := List.mem_of_getElem? h
  have h1 := hx.tk i
  have b1 : (amt kvs y * (t - wS (x.take i))).natAbs ≤ 10 * 16000 := mul_b (hk.get y).2 (by omega)
  have b2 : (aS kvs (x.take i)).natAbs ≤ 60 := by
    have := aS_b (x := x.take i) hk
    have := hx.len
    rw [List.length_take] at *
    omega
  refine ⟨b1, b2, ?_⟩
  have f1 : Fz (wP x) 60 ((0 + aS kvs (x.take i) : Int) : Rat) := (fz_int (by omega)).up (Nat.one_dvd _) (Nat.le_refl _)
  have f2 := (fz_divw (hx.w1 y hy).1 b1).up (wP_dvd hy) (Nat.le_refl _)
  exact (f1.add f2).up (Nat.dvd_refl _) (by decide)
theorem ords_ok {kvs : List (Key × D)} {x : List Itm} {t : Int} (hk : AmOk kvs) (hx : Its x) (t0 : 0 ≤ t) (t5 : t ≤ 16000) : NsOk (wP x) (ords kvs t x) := by
  have hw := wP_b hx.w1
  refine ⟨hw.1, Nat.lt_of_le_of_lt (Nat.le_trans hw.2 (Nat.pow_le_pow_right (by decide) hx.len)) (by decide), by unfold ords; rw [ordG_len]; exact hx.len, fun e => hx.ne (List.length_eq_zero_iff.mp (by rw [← ordG_len (kvs := kvs) (l := t) (b := 0)]; unfold ords at e; rw [e]; rfl)), fun r hr => ?_⟩
  obtain ⟨i, hi, rfl⟩ := List.getElem_of_mem hr
  have hi2 : i < x.length := by unfold ords at hi; rw [ordG_len] at hi; exact hi
  have e := ordG_at (kvs := kvs) (l := t) (b := 0) (List.getElem?_eq_getElem hi2)
  have e2 : (ords kvs t x)[i]? = some (ords kvs t x)[i] := List.getElem?_eq_getElem hi
  unfold ords at e2 ⊢
  rw [e] at e2
  rw [← Option.some.inj e2]
  exact (at_fz hk hx t0 t5 (List.getElem?_eq_getElem hi2)).2.2
theorem n12 {x : List Itm} (hx : Its x) (h1 : ¬ (x.length : Int) = 1) : Sz LIM (((((x.length : Int) * ((x.length : Int) - 1) : Int)) : Rat)) ∧ ((((x.length : Int) * ((x.length : Int) - 1) : Int)) : Rat) ≠ 0 := by
  have hl := hx.len
  have h0 : x.length ≠ 0 := fun z => hx.ne (List.length_eq_zero_iff.mp z)
  generalize x.length = n at *
  rcases (by omega : n = 2 ∨ n = 3 ∨ n = 4 ∨ n = 5 ∨ n = 6) with rfl | rfl | rfl | rfl | rfl <;> exact ⟨⟨by decide +kernel, by decide +kernel⟩, by decide +kernel⟩
theorem NsOk.sprS {M : Nat} {rs : List Rat} {m : Rat} (h : NsOk M rs) (hm : Fz (M * 60) 1100000 m) : Sz LIM (Sam.spr rs m) := szM (h.spr hm) (Nat.mul_pos h.pos60 h.pos60) (m132 h.hi) (by decide +kernel)
/-! the answers of the three kinds -/
noncomputable def eW (kvs : List (Key × D)) (t : Int) (x : List Itm) : D := .tup [dF (mean (ords kvs t x)), dFo (if (x.length : Int) = 1 then none else some (spr (ords kvs t x) (mean (ords kvs t x)) / (((x.length : Int) * ((x.length : Int) - 1) : Int) : Rat)))]
noncomputable def eU (kvs : List (Key × D)) (s : Int) (x : List Itm) : D := .tup [dF ((s : Rat) * mean (nums kvs x)), dFo (if (x.length : Int) = 1 then none else some (Rat.divInt (s * (s - x.length)) ((x.length : Int) * ((x.length : Int) - 1)) * spr (nums kvs x) (mean (nums kvs x))))]
/-- found and variance of an optimal sample -/
noncomputable def oT (kvs : List (Key × D)) (p : Prt) : Rat := (amt kvs p.1 : Rat) * (p.2 / (p.1.w : Rat))
noncomputable def oV (kvs : List (Key × D)) (p : Prt) : Rat := (amt kvs p.1 : Rat) * (amt kvs p.1 : Rat) * (p.2 / (p.1.w : Rat) * ((p.2 - (p.1.w : Rat)) / (p.1.w : Rat)))
noncomputable def eO (kvs : List (Key × D)) (ps : List Prt) : D := .tup [dF (rsum (ps.map (oT kvs))), dF (rsum (ps.map (oV kvs)))]
noncomputable def eT (kvs : List (Key × D)) (x : List Itm) : D := .tup [dF (((x.map (amt kvs)).sum : Int) : Rat), dF 0]
noncomputable def oA (kvs : List (Key × D)) (t : Int) (x : List Itm) : List Rat := if wS x = t then [(((x.map (amt kvs)).sum : Int) : Rat)] else ords kvs t x
noncomputable def kU (kvs : List (Key × D)) (z : Int) (x : List Itm) : Rat := if (x.length : Int) ≤ z then 0 else Rat.divInt ((x.length : Int) * (x.length - z)) (z * ((x.length : Int) - 1)) * spr (nums kvs x) (mean (nums kvs x))
open Classical in
noncomputable def wholeP (ps : List Prt) : Bool := decide (∀ p ∈ ps, p.2 = (p.1.w : Rat))
/-- the parts of an optimal sample -/
structure POk (ps : List Prt) : Prop where
  its : Its (ps.map (·.1))
  fz : ∀ p ∈ ps, Fz 6 1009 p.2
def psp_whole_number : Psp := ⟨1, fun xs q => ∃ n : Int, xs = [.fr (.int n)] ∧ n.natAbs < 2 ^ 40 ∧ q (.fr (dF (n : Rat))) []⟩
abbrev sp_whole_number (K : PySem.W.Frag) : Sp := Lsp K psp_whole_number
def psp_amount_of : Psp := ⟨2, fun xs q => ∃ (kvs : List (Key × D)) (x : Itm), xs = [.fr (dAk kvs), .fr (dI x)] ∧ AmOk kvs ∧ q (.fr (.int (amt kvs x))) []⟩
abbrev sp_amount_of (K : PySem.W.Frag) : Sp := Lsp K psp_amount_of
def psp_true_sum : Psp := ⟨2, fun xs q => ∃ (kvs : List (Key × D)) (x : List Itm), xs = [.fr (dIs x), .fr (dAk kvs)] ∧ (AmOk kvs ∧ x.length ≤ 6) ∧ q (.fr (.int (x.map (amt kvs)).sum)) []⟩
abbrev sp_true_sum (K : PySem.W.Frag) : Sp := Lsp K psp_true_sum
def psp__law_true : Psp := psp_true_sum
abbrev sp__law_true (K : PySem.W.Frag) : Sp := Lsp K psp__law_true
def psp_is_whole (A : Ad) : Psp := ⟨1, fun xs q => (∃ (z s : Int) (x : List Itm), xs = [.fr (dU A z s x)] ∧ q (.fr (.bl (decide ((x.length : Int) = s)))) []) ∨ (∃ (z t : Int) (x : List Itm), xs = [.fr (dW A z t x)] ∧ x.length ≤ 1000 ∧ q (.fr (.bl (decide (wS x = t)))) []) ∨
  ∃ (z : Int) (ps : List Prt), xs = [.fr (dO A z ps)] ∧ POk ps ∧ q (.fr (.bl (wholeP ps))) []⟩
abbrev sp_is_whole (K : PySem.W.Frag) (A : Ad) : Sp := Lsp K (psp_is_whole A)
def psp_spread : Psp := ⟨2, fun xs q => ∃ (M : Nat) (rs : List Rat) (m : Rat), xs = [.fr (dFs rs), .fr (dF m)] ∧ (NsOk M rs ∧ Fz (M * 60) 1100000 m) ∧ q (.fr (dF (spr rs m))) []⟩
abbrev sp_spread (K : PySem.W.Frag) : Sp := Lsp K psp_spread
def psp_mean_of : Psp := ⟨1, fun xs q => ∃ (M : Nat) (rs : List Rat), xs = [.fr (dFs rs)] ∧ NsOk M rs ∧ q (.fr (dF (mean rs))) []⟩
abbrev sp_mean_of (K : PySem.W.Frag) : Sp := Lsp K psp_mean_of
def psp_ordered_of : Psp := ⟨3, fun xs q => ∃ (t : Int) (x : List Itm) (kvs : List (Key × D)), xs = [.fr (.int t), .fr (dIs x), .fr (dAk kvs)] ∧ (AmOk kvs ∧ Its x ∧ 0 ≤ t ∧ t ≤ 16000) ∧ q (.ow false (.lst ((ords kvs t x).map dF))) []⟩
abbrev sp_ordered_of (K : PySem.W.Frag) : Sp := Lsp K psp_ordered_of
def psp_estimate_weighted (A : Ad) : Psp := ⟨2, fun xs q => ∃ (z t : Int) (x : List Itm) (kvs : List (Key × D)), xs = [.fr (dW A z t x), .fr (dAk kvs)] ∧ (AmOk kvs ∧ Its x ∧ 0 ≤ t ∧ t ≤ 16000) ∧ q (.fr (eW kvs t x)) []⟩
abbrev sp_estimate_weighted (K : PySem.W.Frag) (A : Ad) : Sp := Lsp K (psp_estimate_weighted A)
def psp_estimate_uniform (A : Ad) : Psp := ⟨2, fun xs q => ∃ (z s : Int) (x : List Itm) (kvs : List (Key × D)), xs = [.fr (dU A z s x), .fr (dAk kvs)] ∧ (AmOk kvs ∧ Its x ∧ 0 ≤ s ∧ s ≤ 1000) ∧ q (.fr (eU kvs s x)) []⟩
abbrev sp_estimate_uniform (K : PySem.W.Frag) (A : Ad) : Sp := Lsp K (psp_estimate_uniform A)
def psp_estimate_optimal (A : Ad) : Psp := ⟨2, fun xs q => ∃ (z : Int) (ps : List Prt) (kvs : List (Key × D)), xs = [.fr (dO A z ps), .fr (dAk kvs)] ∧ (AmOk kvs ∧ POk ps) ∧ q (.fr (eO kvs ps)) []⟩
abbrev sp_estimate_optimal (K : PySem.W.Frag) (A : Ad) : Sp := Lsp K (psp_estimate_optimal A)
def psp_estimate (A : Ad) : Psp := ⟨2, fun xs q => (∃ (z s : Int) (x : List Itm) (kvs : List (Key × D)), xs = [.fr (dU A z s x), .fr (dAk kvs)] ∧ (AmOk kvs ∧ Its x ∧ 0 ≤ s ∧ s ≤ 1000) ∧ q (.fr (if (x.length : Int) = s then eT kvs x else eU kvs s x)) []) ∨
  (∃ (z t : Int) (x : List Itm) (kvs : List (Key × D)), xs = [.fr (dW A z t x), .fr (dAk kvs)] ∧ (AmOk kvs ∧ Its x ∧ 0 ≤ t ∧ t ≤ 16000) ∧ q (.fr (if wS x = t then eT kvs x else eW kvs t x)) []) ∨
  ∃ (z : Int) (ps : List Prt) (kvs : List (Key × D)), xs = [.fr (dO A z ps), .fr (dAk kvs)] ∧ (AmOk kvs ∧ POk ps) ∧ q (.fr (if wholeP ps = true then eT kvs (ps.map (·.1)) else eO kvs ps)) []⟩
abbrev sp_estimate (K : PySem.W.Frag) (A : Ad) : Sp := Lsp K (psp_estimate A)
def psp_ordered (A : Ad) : Psp := ⟨2, fun xs q => ∃ (z t : Int) (x : List Itm) (kvs : List (Key × D)), xs = [.fr (dW A z t x), .fr (dAk kvs)] ∧ (AmOk kvs ∧ Its x ∧ 0 ≤ t ∧ t ≤ 16000) ∧ q (.ow false (.lst ((oA kvs t x).map dF))) []⟩
abbrev sp_ordered (K : PySem.W.Frag) (A : Ad) : Sp := Lsp K (psp_ordered A)
def psp_known_uniform : Psp := ⟨3, fun xs q => ∃ (z : Int) (x : List Itm) (kvs : List (Key × D)), xs = [.fr (dIs x), .fr (.int z), .fr (dAk kvs)] ∧ (AmOk kvs ∧ Its x ∧ 1 ≤ z ∧ z ≤ 7) ∧ q (.fr (dF (kU kvs z x))) []⟩
abbrev sp_known_uniform (K : PySem.W.Frag) : Sp := Lsp K psp_known_uniform
/-- what is known of an optimal sample ahead of it: t the threshold -/
noncomputable def kT (kvs : List (Key × D)) (t : Rat) (y : Itm) : Rat := if (y.w : Rat) < t then ((amt kvs y * amt kvs y : Int) : Rat) * ((t - (y.w : Rat)) / (y.w : Rat)) else 0
def psp_known_optimal : Psp := ⟨3, fun xs q => ∃ (z : Int) (x : List Itm) (kvs : List (Key × D)), xs = [.fr (dIs x), .fr (.int z), .fr (dAk kvs)] ∧ (AmOk kvs ∧ Its x ∧ 1 ≤ z ∧ z ≤ 7) ∧ ∀ t, Th (x.map fun y => (y.w : Rat)) z t → q (.fr (dF (rsum (x.map (kT kvs t))))) []⟩
abbrev sp_known_optimal (K : PySem.W.Frag) : Sp := Lsp K psp_known_optimal
set_option maxHeartbeats 4000000 in
structure Txt (K : PySem.W.Frag) (mg : Str → Option Value) where
  a_Uniform : Addr
  cl_Uniform : Cls K a_Uniform
  g_Uniform : mg "Uniform" = some (.ref a_Uniform)
  n_Uniform_size : NoAttr K a_Uniform "size"
  n_Uniform_seen : NoAttr K a_Uniform "seen"
  n_Uniform_kept : NoAttr K a_Uniform "kept"
  cr_Uniform : ClX.CRead K a_Uniform (.type "type")
  a_Optimal : Addr
  cl_Optimal : Cls K a_Optimal
  g_Optimal : mg "Optimal" = some (.ref a_Optimal)
  n_Optimal_size : NoAttr K a_Optimal "size"
  n_Optimal_parts : NoAttr K a_Optimal "parts"
  n_Optimal_kept : NoAttr K a_Optimal "kept"
  cr_Optimal : ClX.CRead K a_Optimal (.type "type")
  a_Tape : Addr
  cl_Tape : Cls K a_Tape
  g_Tape : mg "Tape" = some (.ref a_Tape)
  n_Tape_numbers : NoAttr K a_Tape "numbers"
  n_Tape_at : NoAttr K a_Tape "at"
  isi_Optimal : IsiC K a_Optimal
  isi_Uniform : IsiC K a_Uniform
  is_Optimal_Optimal : IsC K a_Optimal a_Optimal true
  is_Uniform_Optimal : IsC K a_Uniform a_Optimal false
  a_SamphireError : Addr
  g_SamphireError : mg "SamphireError" = some (.ref a_SamphireError)
  kp_SamphireError : PySem.W.keepIn K (.ref a_SamphireError) = true
  sb_SamphireError : PySem.W.subIn K (.ref a_SamphireError) (.type "BaseException") = some true
  ty_SamphireError : PySem.W.typeIn K (.ref a_SamphireError) = some (.type "type")
  a_InvalidSize : Addr
  g_InvalidSize : mg "InvalidSize" = some (.ref a_InvalidSize)
  kp_InvalidSize : PySem.W.keepIn K (.ref a_InvalidSize) = true
  sb_InvalidSize : PySem.W.subIn K (.ref a_InvalidSize) (.type "BaseException") = some true
  ty_InvalidSize : PySem.W.typeIn K (.ref a_InvalidSize) = some (.type "type")
  ox_InvalidSize : OexC K a_InvalidSize
  xf_InvalidSize : XfC K a_InvalidSize
  no_InvalidSize_size : PySem.W.findIn K (.ref a_InvalidSize) "size" = some none
  a_SharedKey : Addr
  g_SharedKey : mg "SharedKey" = some (.ref a_SharedKey)
  kp_SharedKey : PySem.W.keepIn K (.ref a_SharedKey) = true
  sb_SharedKey : PySem.W.subIn K (.ref a_SharedKey) (.type "BaseException") = some true
  ty_SharedKey : PySem.W.typeIn K (.ref a_SharedKey) = some (.type "type")
  ox_SharedKey : OexC K a_SharedKey
  xf_SharedKey : XfC K a_SharedKey
  no_SharedKey_key : PySem.W.findIn K (.ref a_SharedKey) "key" = some none
  a_WrongKind : Addr
  g_WrongKind : mg "WrongKind" = some (.ref a_WrongKind)
  kp_WrongKind : PySem.W.keepIn K (.ref a_WrongKind) = true
  sb_WrongKind : PySem.W.subIn K (.ref a_WrongKind) (.type "BaseException") = some true
  ty_WrongKind : PySem.W.typeIn K (.ref a_WrongKind) = some (.type "type")
  x_WrongKind : PySem.W.excIn K a_WrongKind [.type "ValueError", .type "Exception", .type "BaseException", .type "object"] "ValueError.__new__" = true
  ec_WrongKind : ExcC K a_WrongKind
  a_ZeroDenominator : Addr
  g_ZeroDenominator : mg "ZeroDenominator" = some (.ref a_ZeroDenominator)
  kp_ZeroDenominator : PySem.W.keepIn K (.ref a_ZeroDenominator) = true
  sb_ZeroDenominator : PySem.W.subIn K (.ref a_ZeroDenominator) (.type "BaseException") = some true
  ty_ZeroDenominator : PySem.W.typeIn K (.ref a_ZeroDenominator) = some (.type "type")
  x_ZeroDenominator : PySem.W.excIn K a_ZeroDenominator [.type "ValueError", .type "Exception", .type "BaseException", .type "object"] "ValueError.__new__" = true
  of_WrongKind_SharedKey : PySem.W.kitOne K (.ref a_WrongKind) (.ref a_SharedKey) = some false
  xm_WrongKind_WrongKind : PySem.W.exmOne K (.ref a_WrongKind) (.ref a_WrongKind) = some true
  xm_SharedKey_WrongKind : PySem.W.exmOne K (.ref a_SharedKey) (.ref a_WrongKind) = some false
  xm_SharedKey_SharedKey : PySem.W.exmOne K (.ref a_SharedKey) (.ref a_SharedKey) = some true
  xm_InvalidSize_InvalidSize : PySem.W.exmOne K (.ref a_InvalidSize) (.ref a_InvalidSize) = some true
  f_InvalidSize___init__ : Addr
  fd_InvalidSize___init__ : FuncData
  F_InvalidSize___init__ : Fun K "__init__" "InvalidSize.__init__" s_InvalidSize___init__ f_InvalidSize___init__ fd_InvalidSize___init__
  b_InvalidSize___init__ : Binds K fd_InvalidSize___init__ ["self", "size"] []
  ic_InvalidSize : PySem.W.findIn K (.ref a_InvalidSize) "__init__" = some (some (.ref f_InvalidSize___init__))
  tc_InvalidSize : PySem.W.typeIn K (.ref f_InvalidSize___init__) = some (.type "function")
  f_SharedKey___init__ : Addr
  fd_SharedKey___init__ : FuncData
  F_SharedKey___init__ : Fun K "__init__" "SharedKey.__init__" s_SharedKey___init__ f_SharedKey___init__ fd_SharedKey___init__
  b_SharedKey___init__ : Binds K fd_SharedKey___init__ ["self", "key"] []
  ic_SharedKey : PySem.W.findIn K (.ref a_SharedKey) "__init__" = some (some (.ref f_SharedKey___init__))
  tc_SharedKey : PySem.W.typeIn K (.ref f_SharedKey___init__) = some (.type "function")
  f_lowest : Addr
  fd_lowest : FuncData
  F_lowest : Fun K "lowest" "lowest" s_lowest f_lowest fd_lowest
  b_lowest : Binds K fd_lowest ["p", "q"] []
  g_lowest : mg "lowest" = some (.ref f_lowest)
  f_plus : Addr
  fd_plus : FuncData
  F_plus : Fun K "plus" "plus" s_plus f_plus fd_plus
  b_plus : Binds K fd_plus ["a", "b"] []
  g_plus : mg "plus" = some (.ref f_plus)
  f_minus : Addr
  fd_minus : FuncData
  F_minus : Fun K "minus" "minus" s_minus f_minus fd_minus
  b_minus : Binds K fd_minus ["a", "b"] []
  g_minus : mg "minus" = some (.ref f_minus)
  f_over : Addr
  fd_over : FuncData
  F_over : Fun K "over" "over" s_over f_over fd_over
  b_over : Binds K fd_over ["a", "b"] []
  g_over : mg "over" = some (.ref f_over)
  f_less : Addr
  fd_less : FuncData
  F_less : Fun K "less" "less" s_less f_less fd_less
  b_less : Binds K fd_less ["a", "b"] []
  g_less : mg "less" = some (.ref f_less)
  f_sum_of : Addr
  fd_sum_of : FuncData
  F_sum_of : Fun K "sum_of" "sum_of" s_sum_of f_sum_of fd_sum_of
  b_sum_of : Binds K fd_sum_of ["fractions"] []
  g_sum_of : mg "sum_of" = some (.ref f_sum_of)
  f_check_size : Addr
  fd_check_size : FuncData
  F_check_size : Fun K "check_size" "check_size" s_check_size f_check_size fd_check_size
  b_check_size : Binds K fd_check_size ["size"] []
  g_check_size : mg "check_size" = some (.ref f_check_size)
  f_check_keys : Addr
  fd_check_keys : FuncData
  F_check_keys : Fun K "check_keys" "check_keys" s_check_keys f_check_keys fd_check_keys
  b_check_keys : Binds K fd_check_keys ["first", "second"] []
  g_check_keys : mg "check_keys" = some (.ref f_check_keys)
  f_Uniform___init__ : Addr
  fd_Uniform___init__ : FuncData
  F_Uniform___init__ : Fun K "__init__" "Uniform.__init__" s_Uniform___init__ f_Uniform___init__ fd_Uniform___init__
  b_Uniform___init__ : Binds K fd_Uniform___init__ ["self", "size", "seen", "kept"] []
  mk_Uniform : Mk K a_Uniform f_Uniform___init__
  f_Uniform_empty : Addr
  fd_Uniform_empty : FuncData
  F_Uniform_empty : Fun K "empty" "Uniform.empty" s_Uniform_empty f_Uniform_empty fd_Uniform_empty
  b_Uniform_empty : Binds K fd_Uniform_empty ["cls", "size"] []
  r_Uniform_empty : Addr
  cm_Uniform_empty : ClX.CMet K a_Uniform (.type "type") "empty" r_Uniform_empty f_Uniform_empty
  f_Uniform_single : Addr
  fd_Uniform_single : FuncData
  F_Uniform_single : Fun K "single" "Uniform.single" s_Uniform_single f_Uniform_single fd_Uniform_single
  b_Uniform_single : Binds K fd_Uniform_single ["cls", "item", "size"] []
  r_Uniform_single : Addr
  cm_Uniform_single : ClX.CMet K a_Uniform (.type "type") "single" r_Uniform_single f_Uniform_single
  f_Uniform_check : Addr
  fd_Uniform_check : FuncData
  F_Uniform_check : Fun K "check" "Uniform.check" s_Uniform_check f_Uniform_check fd_Uniform_check
  b_Uniform_check : Binds K fd_Uniform_check ["self", "other"] []
  M_Uniform_check : Meth K a_Uniform "check" f_Uniform_check
  f_Uniform_merge : Addr
  fd_Uniform_merge : FuncData
  F_Uniform_merge : Fun K "merge" "Uniform.merge" s_Uniform_merge f_Uniform_merge fd_Uniform_merge
  b_Uniform_merge : Binds K fd_Uniform_merge ["self", "other", "dice"] []
  M_Uniform_merge : Meth K a_Uniform "merge" f_Uniform_merge
  f_Uniform_view : Addr
  fd_Uniform_view : FuncData
  F_Uniform_view : Fun K "view" "Uniform.view" s_Uniform_view f_Uniform_view fd_Uniform_view
  b_Uniform_view : Binds K fd_Uniform_view ["self"] []
  M_Uniform_view : Meth K a_Uniform "view" f_Uniform_view
  f_greater : Addr
  fd_greater : FuncData
  F_greater : Fun K "greater" "greater" s_greater f_greater fd_greater
  b_greater : Binds K fd_greater ["one", "other"] []
  g_greater : mg "greater" = some (.ref f_greater)
  f_threshold : Addr
  fd_threshold : FuncData
  F_threshold : Fun K "threshold" "threshold" s_threshold f_threshold fd_threshold
  b_threshold : Binds K fd_threshold ["weights", "size"] []
  g_threshold : mg "threshold" = some (.ref f_threshold)
  f_keep_chance : Addr
  fd_keep_chance : FuncData
  F_keep_chance : Fun K "keep_chance" "keep_chance" s_keep_chance f_keep_chance fd_keep_chance
  b_keep_chance : Binds K fd_keep_chance ["weight", "found"] []
  g_keep_chance : mg "keep_chance" = some (.ref f_keep_chance)
  f_whole_weights : Addr
  fd_whole_weights : FuncData
  F_whole_weights : Fun K "whole_weights" "whole_weights" s_whole_weights f_whole_weights fd_whole_weights
  b_whole_weights : Binds K fd_whole_weights ["chances"] []
  g_whole_weights : mg "whole_weights" = some (.ref f_whole_weights)
  f_drop_one : Addr
  fd_drop_one : FuncData
  F_drop_one : Fun K "drop_one" "drop_one" s_drop_one f_drop_one fd_drop_one
  b_drop_one : Binds K fd_drop_one ["parts", "dice"] []
  g_drop_one : mg "drop_one" = some (.ref f_drop_one)
  f_Optimal___init__ : Addr
  fd_Optimal___init__ : FuncData
  F_Optimal___init__ : Fun K "__init__" "Optimal.__init__" s_Optimal___init__ f_Optimal___init__ fd_Optimal___init__
  b_Optimal___init__ : Binds K fd_Optimal___init__ ["self", "size", "parts"] []
  mk_Optimal : Mk K a_Optimal f_Optimal___init__
  f_Optimal_empty : Addr
  fd_Optimal_empty : FuncData
  F_Optimal_empty : Fun K "empty" "Optimal.empty" s_Optimal_empty f_Optimal_empty fd_Optimal_empty
  b_Optimal_empty : Binds K fd_Optimal_empty ["cls", "size"] []
  r_Optimal_empty : Addr
  cm_Optimal_empty : ClX.CMet K a_Optimal (.type "type") "empty" r_Optimal_empty f_Optimal_empty
  f_Optimal_single : Addr
  fd_Optimal_single : FuncData
  F_Optimal_single : Fun K "single" "Optimal.single" s_Optimal_single f_Optimal_single fd_Optimal_single
  b_Optimal_single : Binds K fd_Optimal_single ["cls", "item", "size"] []
  r_Optimal_single : Addr
  cm_Optimal_single : ClX.CMet K a_Optimal (.type "type") "single" r_Optimal_single f_Optimal_single
  P_Optimal_merge : Addr
  c_Optimal_merge : Addr
  tb_Optimal_merge : LamX.TabB Tbs.base mg c_Optimal_merge P_Optimal_merge
  lm_Optimal_merge : (P_Optimal_merge, (("Optimal.merge" : Str) ++ ".<locals>.") ++ "<lambda>") ∈ Tbs.T
  lu_Optimal_merge : ∀ p ∈ Tbs.T, p.1 = P_Optimal_merge → p.2 = (("Optimal.merge" : Str) ++ ".<locals>.") ++ "<lambda>"
  f_Optimal_merge : Addr
  fd_Optimal_merge : FuncData
  F_Optimal_merge : Fun K "merge" "Optimal.merge" s_Optimal_merge f_Optimal_merge fd_Optimal_merge
  b_Optimal_merge : Binds K fd_Optimal_merge ["self", "other", "dice"] []
  hc_Optimal_merge : fd_Optimal_merge.code = .ref c_Optimal_merge
  M_Optimal_merge : Meth K a_Optimal "merge" f_Optimal_merge
  f_Optimal_adjusted_sum : Addr
  fd_Optimal_adjusted_sum : FuncData
  F_Optimal_adjusted_sum : Fun K "adjusted_sum" "Optimal.adjusted_sum" s_Optimal_adjusted_sum f_Optimal_adjusted_sum fd_Optimal_adjusted_sum
  b_Optimal_adjusted_sum : Binds K fd_Optimal_adjusted_sum ["self"] []
  M_Optimal_adjusted_sum : Meth K a_Optimal "adjusted_sum" f_Optimal_adjusted_sum
  f_Optimal_view : Addr
  fd_Optimal_view : FuncData
  F_Optimal_view : Fun K "view" "Optimal.view" s_Optimal_view f_Optimal_view fd_Optimal_view
  b_Optimal_view : Binds K fd_Optimal_view ["self"] []
  M_Optimal_view : Meth K a_Optimal "view" f_Optimal_view
  f_number_at : Addr
  fd_number_at : FuncData
  F_number_at : Fun K "number_at" "number_at" s_number_at f_number_at fd_number_at
  b_number_at : Binds K fd_number_at ["weights", "place"] []
  g_number_at : mg "number_at" = some (.ref f_number_at)
  f_Tape___init__ : Addr
  fd_Tape___init__ : FuncData
  F_Tape___init__ : Fun K "__init__" "Tape.__init__" s_Tape___init__ f_Tape___init__ fd_Tape___init__
  b_Tape___init__ : Binds K fd_Tape___init__ ["self", "numbers"] []
  mk_Tape : Mk K a_Tape f_Tape___init__
  f_Tape_pick : Addr
  fd_Tape_pick : FuncData
  F_Tape_pick : Fun K "pick" "Tape.pick" s_Tape_pick f_Tape_pick fd_Tape_pick
  b_Tape_pick : Binds K fd_Tape_pick ["self", "weights"] []
  M_Tape_pick : Meth K a_Tape "pick" f_Tape_pick
  f_Tape_used : Addr
  fd_Tape_used : FuncData
  F_Tape_used : Fun K "used" "Tape.used" s_Tape_used f_Tape_used fd_Tape_used
  b_Tape_used : Binds K fd_Tape_used ["self"] []
  M_Tape_used : Meth K a_Tape "used" f_Tape_used
  f__law_mix : Addr
  fd__law_mix : FuncData
  F__law_mix : Fun K "_law_mix" "_law_mix" s__law_mix f__law_mix fd__law_mix
  b__law_mix : Binds K fd__law_mix ["_law_number", "_law_k"] []
  g__law_mix : mg "_law_mix" = some (.ref f__law_mix)
  f__law_numbers : Addr
  fd__law_numbers : FuncData
  F__law_numbers : Fun K "_law_numbers" "_law_numbers" s__law_numbers f__law_numbers fd__law_numbers
  b__law_numbers : Binds K fd__law_numbers ["_law_script", "_law_count"] []
  g__law_numbers : mg "_law_numbers" = some (.ref f__law_numbers)
  f__law_take : Addr
  fd__law_take : FuncData
  F__law_take : Fun K "_law_take" "_law_take" s__law_take f__law_take fd__law_take
  b__law_take : Binds K fd__law_take ["_law_row", "_law_bound"] []
  g__law_take : mg "_law_take" = some (.ref f__law_take)
  f__law_low : Addr
  fd__law_low : FuncData
  F__law_low : Fun K "_law_low" "_law_low" s__law_low f__law_low fd__law_low
  b__law_low : Binds K fd__law_low ["_law_p", "_law_q"] []
  g__law_low : mg "_law_low" = some (.ref f__law_low)
  f__law_plus : Addr
  fd__law_plus : FuncData
  F__law_plus : Fun K "_law_plus" "_law_plus" s__law_plus f__law_plus fd__law_plus
  b__law_plus : Binds K fd__law_plus ["_law_one", "_law_other"] []
  g__law_plus : mg "_law_plus" = some (.ref f__law_plus)
  f__law_sum : Addr
  fd__law_sum : FuncData
  F__law_sum : Fun K "_law_sum" "_law_sum" s__law_sum f__law_sum fd__law_sum
  b__law_sum : Binds K fd__law_sum ["_law_rows"] []
  g__law_sum : mg "_law_sum" = some (.ref f__law_sum)
  f__law_items : Addr
  fd__law_items : FuncData
  F__law_items : Fun K "_law_items" "_law_items" s__law_items f__law_items fd__law_items
  b__law_items : Binds K fd__law_items ["_law_row", "_law_many"] []
  g__law_items : mg "_law_items" = some (.ref f__law_items)
  f__law_parts : Addr
  fd__law_parts : FuncData
  F__law_parts : Fun K "_law_parts" "_law_parts" s__law_parts f__law_parts fd__law_parts
  b__law_parts : Binds K fd__law_parts ["_law_row", "_law_things"] []
  g__law_parts : mg "_law_parts" = some (.ref f__law_parts)
  f__law_made : Addr
  fd__law_made : FuncData
  F__law_made : Fun K "_law_made" "_law_made" s__law_made f__law_made fd__law_made
  b__law_made : Binds K fd__law_made ["_law_item", "_law_size", "_law_is_single"] []
  g__law_made : mg "_law_made" = some (.ref f__law_made)
  f__law_merged : Addr
  fd__law_merged : FuncData
  F__law_merged : Fun K "_law_merged" "_law_merged" s__law_merged f__law_merged fd__law_merged
  b__law_merged : Binds K fd__law_merged ["_law_one", "_law_other", "_law_tape"] []
  g__law_merged : mg "_law_merged" = some (.ref f__law_merged)
  f_law : Addr
  fd_law : FuncData
  F_law : Fun K "law" "law" s_law f_law fd_law
  b_law : Binds K fd_law ["_law_script"] []
  g_law : mg "law" = some (.ref f_law)
  t_MOST_SIZE : Tok
  g_MOST_SIZE : mg "MOST_SIZE" = some (.int (20) t_MOST_SIZE)
  a_NOTHING_optimal : Addr
  g_NOTHING_optimal : mg "NOTHING_optimal" = some (.ref a_NOTHING_optimal)
  v_NOTHING_optimal : ∀ H : Hp, SqT K H a_NOTHING_optimal [.int (0), .int (1)]
  a_NOTHING_ratios : Addr
  g_NOTHING_ratios : mg "NOTHING_ratios" = some (.ref a_NOTHING_ratios)
  v_NOTHING_ratios : ∀ H : Hp, SqT K H a_NOTHING_ratios [.int (0), .int (1)]
  z_abs : mg "abs" = none
  z_enumerate : mg "enumerate" = none
  z_int : mg "int" = none
  z_isinstance : mg "isinstance" = none
  z_len : mg "len" = none
  z_list : mg "list" = none
  z_range : mg "range" = none
  z_sorted : mg "sorted" = none
  z_sum : mg "sum" = none
  z_tuple : mg "tuple" = none
  g_gcd : mg "gcd" = some (.builtin "math.gcd")
instance {K : PySem.W.Frag} {mg : Str → Option Value} (T : Txt K mg) : ConD K (.ref T.a_NOTHING_optimal) (.tup [.int (0), .int (1)]) := ⟨fun F => ⟨_, _, rfl, T.v_NOTHING_optimal F, ⟨_, _, rfl, rfl, ⟨_, _, rfl, rfl, rfl⟩⟩⟩⟩
instance {K : PySem.W.Frag} {mg : Str → Option Value} (T : Txt K mg) : ConD K (.ref T.a_NOTHING_ratios) (.tup [.int (0), .int (1)]) := ⟨fun F => ⟨_, _, rfl, T.v_NOTHING_ratios F, ⟨_, _, rfl, rfl, ⟨_, _, rfl, rfl, rfl⟩⟩⟩⟩
abbrev Txt.ad {K : PySem.W.Frag} {mg : Str → Option Value} (T : Txt K mg) : Ad := { SamphireError := T.a_SamphireError, InvalidSize := T.a_InvalidSize, SharedKey := T.a_SharedKey, WrongKind := T.a_WrongKind, ZeroDenominator := T.a_ZeroDenominator, Uniform := T.a_Uniform, Optimal := T.a_Optimal, Tape := T.a_Tape }
abbrev base : Heap := Tbs.base
section
variable {P : Program} {w : World} {K : PySem.W.Frag} {mg : Str → Option Value}
def LowQ (q : Int) : Prop := 0 < q
theorem LowQ.dd (a b : Rat) : LowQ ((a.den : Int) * b.den) := by
  have h1 := a.den_pos
  have h2 := b.den_pos
  show 0 < (a.den : Int) * b.den
  exact Int.mul_pos (by omega) (by omega)

abbrev sp__law_low (K : PySem.W.Frag) : Sp := Lsp K (psp_low LowQ)
abbrev sp__law_plus (K : PySem.W.Frag) : Sp := Lsp K (psp_two (· + ·) fun _ _ => True)
abbrev sp__law_minus (K : PySem.W.Frag) : Sp := Lsp K (psp_two (· - ·) fun _ _ => True)
abbrev sp__law_times (K : PySem.W.Frag) : Sp := Lsp K (psp_two (· * ·) fun _ _ => True)
abbrev sp__law_less (K : PySem.W.Frag) : Sp := Lsp K psp_less

theorem ok_lowest (T : Txt K mg) : FnOk P w K mg base CX0 1 T.f_lowest T.fd_lowest ["p", "q"] (sp_lowest K) := by
  refine T.F_lowest.ok sc_lowest (fun vs H Q E h => lsp_len h) (fun cdv A outer s H vs Q E hr h => ⟨_, (pss_cons (ps_if (pt_cmpR op_eq (pv 1) pe_int (nomark _))
        (pss_one ps_never)
        pss_nil)
      (pss_cons (ps_set (i := 2) sc_lowest.nd rfl (Or.inl rfl) (pe_callBfun cr_gcd (by rfl) T.g_gcd (pa_cons (pv 0) (pa_cons (pv 1) pa_nil))))
      (pss_cut (ps_if (pt_cmpR op_lt (pv 1) pe_int (nomark _))
        (pss_one (ps_set (i := 2) sc_lowest.nd rfl (Or.inl rfl) (pe_un un_neg (pv 2))))
        pss_nil)
      (pss_one (ps_ret (pe_tup (pa_cons (pe_op op_fdivZ (pv 0) (pv 2)) (pa_cons (pe_op op_fdivZ (pv 1) (pv 2)) pa_nil)))))))), ?_⟩)
  try dsimp only [cxK, blkK, noxK, wishK]
  refine lsp_body (N := nm_lowest) h (Nat.le_of_ble_eq_true rfl) fun xs q hn h => ?_
  clear hn
  obtain ⟨n, d, rfl, ⟨hd, h1, h2⟩, hq⟩ := h
  have hd2 := lowD_ne (p := n) hd
  have hd3 : (lowD n d).natAbs < 2 ^ 8000 := by
    rw [lowD_abs]
    exact pow_up (Nat.lt_of_le_of_lt (gcd_le_right hd) h2) (by decide)
  refine ⟨fun hz => absurd (of_decide_eq_true hz) hd, fun _ => ?_⟩
  refine ⟨fun s => s = [some (.fr (.int n)), some (.fr (.int d)), some (.fr (.int (lowD n d)))], ⟨fun hz => ?_, fun hz => ?_⟩, ?_⟩
  · show [_, _, some (S.fr (.int (-(Int.gcd n d : Int))))] = _
    unfold lowD
    rw [if_pos (of_decide_eq_true hz)]
  · show [_, _, some (S.fr (.int (Int.gcd n d : Int)))] = _
    unfold lowD
    rw [if_neg (of_decide_eq_false hz)]
  · rintro s' rfl
    refine ⟨⟨hd2, hd3⟩, ⟨hd2, hd3⟩, ?_⟩
    show q (.fr (.tup [.int (n.fdiv (lowD n d)), .int (d.fdiv (lowD n d))])) []
    rw [low_num hd, low_den hd]
    exact hq
theorem ok_plus (T : Txt K mg) : FnOk P w K mg base CX0 2 T.f_plus T.fd_plus ["a", "b"] (sp_plus K) := by
  refine T.F_plus.ok sc_plus (fun vs H Q E h => lsp_len h) (fun cdv A outer s H vs Q E hr h => ⟨_, (pss_one (ps_ret (pe_call (ok_lowest T) (hr.mono (by decide)) (by rfl) T.g_lowest T.F_lowest.kp T.b_lowest .nil pass0 (pa_cons (pe_op op_add (pe_op op_mulW (pe_ix ix_tup (pv 0) pe_int (fun _ _ => rfl)) (pe_ix ix_tup (pv 1) pe_int (fun _ _ => rfl))) (pe_op op_mulW (pe_ix ix_tup (pv 1) pe_int (fun _ _ => rfl)) (pe_ix ix_tup (pv 0) pe_int (fun _ _ => rfl)))) (pa_cons (pe_op op_mulW (pe_ix ix_tup (pv 0) pe_int (fun _ _ => rfl)) (pe_ix ix_tup (pv 1) pe_int (fun _ _ => rfl))) pa_nil))))), ?_⟩)
  try dsimp only [cxK, blkK, noxK, wishK]
  refine lsp_body (N := nm_plus) h (Nat.le_of_ble_eq_true rfl) fun xs q hn h => ?_
  clear hn
  obtain ⟨a, b, rfl, ⟨ha, hb, _⟩, hq⟩ := h
  refine ⟨mulFF ha hb, mulFF hb ha, mulDD ha hb, _, _, rfl, ⟨dd_ne a b, pow_up (sz_num ha hb) (by decide), pow_up (sz_den ha hb) (by decide)⟩, ?_⟩
  rw [add_divInt]
  exact hq
theorem ok_minus (T : Txt K mg) : FnOk P w K mg base CX0 2 T.f_minus T.fd_minus ["a", "b"] (sp_minus K) := by
  refine T.F_minus.ok sc_minus (fun vs H Q E h => lsp_len h) (fun cdv A outer s H vs Q E hr h => ⟨_, (pss_one (ps_ret (pe_call (ok_lowest T) (hr.mono (by decide)) (by rfl) T.g_lowest T.F_lowest.kp T.b_lowest .nil pass0 (pa_cons (pe_op op_sub (pe_op op_mulW (pe_ix ix_tup (pv 0) pe_int (fun _ _ => rfl)) (pe_ix ix_tup (pv 1) pe_int (fun _ _ => rfl))) (pe_op op_mulW (pe_ix ix_tup (pv 1) pe_int (fun _ _ => rfl)) (pe_ix ix_tup (pv 0) pe_int (fun _ _ => rfl)))) (pa_cons (pe_op op_mulW (pe_ix ix_tup (pv 0) pe_int (fun _ _ => rfl)) (pe_ix ix_tup (pv 1) pe_int (fun _ _ => rfl))) pa_nil))))), ?_⟩)
  try dsimp only [cxK, blkK, noxK, wishK]
  refine lsp_body (N := nm_minus) h (Nat.le_of_ble_eq_true rfl) fun xs q hn h => ?_
  clear hn
  obtain ⟨a, b, rfl, ⟨ha, hb, _⟩, hq⟩ := h
  refine ⟨mulFF ha hb, mulFF hb ha, mulDD ha hb, _, _, rfl, ⟨dd_ne a b, pow_up (sz_numS ha hb) (by decide), pow_up (sz_den ha hb) (by decide)⟩, ?_⟩
  rw [sub_divInt]
  exact hq
theorem ok_over (T : Txt K mg) : FnOk P w K mg base CX0 2 T.f_over T.fd_over ["a", "b"] (sp_over K) := by
  refine T.F_over.ok sc_over (fun vs H Q E h => lsp_len h) (fun cdv A outer s H vs Q E hr h => ⟨_, (pss_one (ps_ret (pe_call (ok_lowest T) (hr.mono (by decide)) (by rfl) T.g_lowest T.F_lowest.kp T.b_lowest .nil pass0 (pa_cons (pe_op op_mulW (pe_ix ix_tup (pv 0) pe_int (fun _ _ => rfl)) (pe_ix ix_tup (pv 1) pe_int (fun _ _ => rfl))) (pa_cons (pe_op op_mulW (pe_ix ix_tup (pv 0) pe_int (fun _ _ => rfl)) (pe_ix ix_tup (pv 1) pe_int (fun _ _ => rfl))) pa_nil))))), ?_⟩)
  try dsimp only [cxK, blkK, noxK, wishK]
  refine lsp_body (N := nm_over) h (Nat.le_of_ble_eq_true rfl) fun xs q hn h => ?_
  clear hn
  obtain ⟨a, b, rfl, ⟨ha, hb, h0⟩, hq⟩ := h
  refine ⟨mulFF ha hb, mulDN ha hb, _, _, rfl, ⟨Int.mul_ne_zero (den_ne a) (num_ne h0), pow_up (abs_mul_lt ha.1 hb.d) (by decide), pow_up (abs_mul_lt ha.d hb.1) (by decide)⟩, ?_⟩
  rw [div_divInt]
  exact hq
theorem ok_less (T : Txt K mg) : FnOk P w K mg base CX0 1 T.f_less T.fd_less ["a", "b"] (sp_less K) := by
  refine T.F_less.ok sc_less (fun vs H Q E h => lsp_len h) (fun cdv A outer s H vs Q E hr h => ⟨_, (pss_one (ps_ret (pe_cmpR op_lt (pe_op op_mulW (pe_ix ix_tup (pv 0) pe_int (fun _ _ => rfl)) (pe_ix ix_tup (pv 1) pe_int (fun _ _ => rfl))) (pe_op op_mulW (pe_ix ix_tup (pv 1) pe_int (fun _ _ => rfl)) (pe_ix ix_tup (pv 0) pe_int (fun _ _ => rfl))) (nomark _)))), ?_⟩)
  try dsimp only [cxK, blkK, noxK, wishK]
  refine lsp_body (N := nm_less) h (Nat.le_of_ble_eq_true rfl) fun xs q hn h => ?_
  clear hn
  obtain ⟨a, b, rfl, ⟨ha, hb⟩, hq⟩ := h
  refine ⟨mulFF ha hb, mulFF hb ha, ?_⟩
  show q (.fr (.bl (decide (a.num * (b.den : Int) < b.num * (a.den : Int))))) []
  rw [less_is]
  exact hq
theorem gcd_zero_nn {a : Int} {p q : Int} (h0 : 0 ≤ a) (h : Int.gcd a 0 = Int.gcd p q) : a = (Int.gcd p q : Int) := by
  rw [Int.gcd_zero_right] at h
  omega
theorem ok__law_low (T : Txt K mg) : FnOk P w K mg base CX0 1 T.f__law_low T.fd__law_low ["_law_p", "_law_q"] (sp__law_low K) := by
  refine T.F__law_low.ok sc__law_low (fun vs H Q E h => lsp_len h) (fun cdv A outer s H vs Q E hr h => ⟨_, (pss_cons (ps_par (i := 2) (j := 3) (by rfl) sc__law_low.nd rfl rfl (by decide) rfl rfl (pa_cons (pe_callB (id := "abs") call_abs (by rfl) T.z_abs (by decide +kernel) (pa_cons (pv 0) pa_nil)) (pa_cons (pv 1) pa_nil)) (by rfl))
      (pss_cut (ps_for PassesOwn.never rfl (pi_range1 (by rfl) T.z_range (pa_cons pe_int pa_nil)) (pg_name (i := 4) sc__law_low.nd rfl (Or.inl rfl))
        (pss_cons (ps_if (pt_cmpR op_eq (pv 3) pe_int (nomark _))
          (pss_one ps_break)
          pss_nil)
        (pss_one (ps_par (i := 2) (j := 3) (by rfl) sc__law_low.nd rfl rfl (by decide) rfl rfl (pa_cons (pv 3) (pa_cons (pe_op op_modN (pe_callTy (T := "int") call_int1 (by rfl) T.z_int (by decide +kernel) (pa_cons (pv 2) pa_nil)) (pv 3)) pa_nil)) (by rfl)))))
      (pss_one (ps_ret (pe_tup (pa_cons (pe_op op_fdivZ (pv 0) (pv 2)) (pa_cons (pe_op op_fdivZ (pv 1) (pv 2)) pa_nil))))))), ?_⟩)
  try dsimp only [cxK, blkK, noxK, wishK]
  refine lsp_body (N := nm__law_low) h (Nat.le_of_ble_eq_true rfl) fun xs q hn h => ?_
  clear hn
  obtain ⟨n, d, rfl, ⟨hd, h1, h2⟩, hq⟩ := h
  have hd : 0 < d := hd
  have hd0 : d ≠ 0 := by omega
  have hn : n.natAbs * d.natAbs < 2 ^ 3980 := by
    have := Nat.mul_lt_mul'' h1 h2
    rw [← Nat.pow_add] at this
    exact this
  have ap : (if n < 0 then -n else n) = (n.natAbs : Int) := by split <;> omega
  have eq : (d.natAbs : Int) = d := by omega
  have st := Euc.start hd0 hn
  rw [eq] at st
  have hlow : lowD n d = (Int.gcd n d : Int) := by
    unfold lowD
    rw [if_neg (by omega)]
  have hd2 := lowD_ne (p := n) hd0
  have hd3 : (lowD n d).natAbs < 2 ^ 8000 := by
    rw [lowD_abs]
    exact pow_up (Nat.lt_of_le_of_lt (gcd_le_right hd0) h2) (by decide)
  rw [hlow] at hd2 hd3
  refine ⟨fun s => ∃ x3 x4, s = [some (.fr (.int n)), some (.fr (.int d)), some (.fr (.int (Int.gcd n d : Int))), x3, x4], ?_, ?_⟩
  · refine ⟨⟨by decide, by decide⟩, fun i s => ∃ (a b : Int) (x4 : Option S), s = [some (.fr (.int n)), some (.fr (.int d)), some (.fr (.int a)), some (.fr (.int b)), x4] ∧ (b = 0 ∧ a = (Int.gcd n d : Int) ∨ i ≤ 3980 + 1 ∧ Euc n d 3980 i a b), ⟨(if n < 0 then -n else n), d, none, rfl, .inr ⟨by decide, by rw [ap]; exact st⟩⟩, ?_, ?_⟩
    · rintro i v s hv ⟨a, b, x4, rfl, hab⟩
      obtain ⟨hi, rfl⟩ := rngD_get hv
      refine ⟨fun hz => ?_, fun hz => ?_⟩
      · have hb : b = 0 := of_decide_eq_true hz
        subst hb
        have ea : a = (Int.gcd n d : Int) := by
          rcases hab with ⟨_, e⟩ | ⟨_, e⟩
          · exact e
          · exact e.gcd
        subst ea
        exact ⟨_, _, rfl⟩
      · have hb : b ≠ 0 := of_decide_eq_false hz
        rcases hab with ⟨e, _⟩ | ⟨hle, e⟩
        · exact absurd e hb
        · have hi2 : i ≤ 3980 := by
            rcases Nat.lt_or_ge 3980 i with z | z
            · have : i = 3980 + 1 := by omega
              subst this
              exact absurd e.ended hb
            · exact z
          exact ⟨hb, b, a.fmod b, _, rfl, .inr ⟨by omega, e.next hi2 hb⟩⟩
    · rintro s ⟨a, b, x4, rfl, hab⟩
      rcases hab with ⟨rfl, rfl⟩ | ⟨hle, _⟩
      · exact ⟨_, _, rfl⟩
      · exact absurd hle (by decide)
  · rintro s ⟨x3, x4, rfl⟩
    refine ⟨⟨hd2, hd3⟩, ⟨hd2, hd3⟩, ?_⟩
    show q (.fr (.tup [.int (n.fdiv (Int.gcd n d : Int)), .int (d.fdiv (Int.gcd n d : Int))])) []
    rw [← hlow, low_num hd0, low_den hd0]
    exact hq

theorem ok__law_plus (T : Txt K mg) : FnOk P w K mg base CX0 2 T.f__law_plus T.fd__law_plus ["_law_one", "_law_other"] (sp__law_plus K) := by
  refine T.F__law_plus.ok sc__law_plus (fun vs H Q E h => lsp_len h) (fun cdv A outer s H vs Q E hr h => ⟨_, (pss_one (ps_ret (pe_call (ok__law_low T) (hr.mono (by decide)) (by rfl) T.g__law_low T.F__law_low.kp T.b__law_low .nil pass0 (pa_cons (pe_op op_add (pe_op op_mulW (pe_ix ix_tup (pv 0) pe_int (fun _ _ => rfl)) (pe_ix ix_tup (pv 1) pe_int (fun _ _ => rfl))) (pe_op op_mulW (pe_ix ix_tup (pv 1) pe_int (fun _ _ => rfl)) (pe_ix ix_tup (pv 0) pe_int (fun _ _ => rfl)))) (pa_cons (pe_op op_mulW (pe_ix ix_tup (pv 0) pe_int (fun _ _ => rfl)) (pe_ix ix_tup (pv 1) pe_int (fun _ _ => rfl))) pa_nil))))), ?_⟩)
  try dsimp only [cxK, blkK, noxK, wishK]
  refine lsp_body (N := nm__law_plus) h (Nat.le_of_ble_eq_true rfl) fun xs q hn h => ?_
  clear hn
  obtain ⟨a, b, rfl, ⟨ha, hb, _⟩, hq⟩ := h
  refine ⟨mulFF ha hb, mulFF hb ha, mulDD ha hb, _, _, rfl, ⟨LowQ.dd a b, pow_up (sz_num ha hb) (by decide), pow_up (sz_den ha hb) (by decide)⟩, ?_⟩
  rw [add_divInt]
  exact hq
theorem ok_sum_of (T : Txt K mg) : FnOk P w K mg base CX0 3 T.f_sum_of T.fd_sum_of ["fractions"] (sp_sum_of K) := by
  refine T.F_sum_of.ok sc_sum_of (fun vs H Q E h => lsp_len h) (fun cdv A outer s H vs Q E hr h => ⟨_, (pss_cons (ps_set (i := 1) sc_sum_of.nd rfl (Or.inl rfl) (pe_glob (v := .ref T.a_NOTHING_ratios) (by rfl) T.g_NOTHING_ratios rfl))
      (pss_cons (ps_for PassesOwn.never rfl (pi_list (pv 0)) (pg_name (i := 2) sc_sum_of.nd rfl (Or.inl rfl))
        (pss_one (ps_set (i := 1) sc_sum_of.nd rfl (Or.inl rfl) (pe_call (ok_plus T) (hr.mono (by decide)) (by rfl) T.g_plus T.F_plus.kp T.b_plus .nil pass0 (pa_cons (pv 1) (pa_cons (pv 2) pa_nil))))))
      (pss_one (ps_ret (pv 1))))), ?_⟩)
  try dsimp only [cxK, blkK, noxK, wishK]
  refine lsp_body (N := nm_sum_of) h (Nat.le_of_ble_eq_true rfl) fun xs q hn h => ?_
  clear hn
  obtain ⟨rs, rfl, hs, hq⟩ := h
  refine ⟨fun i s => ∃ x2, s = [some (.fr (dFs rs)), some (.fr (dF (rsum (rs.take i)))), x2], ⟨_, rfl⟩, ?_, ?_⟩
  · rintro i d s hd ⟨x2, rfl⟩
    obtain ⟨r, hr, rfl⟩ := map_at hd
    refine ⟨_, _, rfl, ⟨hs.2 i, hs.1 r (List.mem_of_getElem? hr), trivial⟩, some (.fr (dF r)), ?_⟩
    rw [rsum_take hr]
    rfl
  · rintro s ⟨x2, rfl⟩
    rw [List.length_map, List.take_length]
    exact hq
theorem ok__law_mix (T : Txt K mg) : FnOk P w K mg base CX0 1 T.f__law_mix T.fd__law_mix ["_law_number", "_law_k"] (sp__law_mix K) := by
  refine T.F__law_mix.ok sc__law_mix (fun vs H Q E h => lsp_len h) (fun cdv A outer s H vs Q E hr h => ⟨_, (pss_one (ps_ret (pe_op op_modN (pe_op op_mulW (pe_op op_modN (pe_callTy (T := "int") call_int1 (by rfl) T.z_int (by decide +kernel) (pa_cons (pe_op op_mulW (pe_op op_add (pe_op op_add (pe_op op_modN (pe_callTy (T := "int") call_int1 (by rfl) T.z_int (by decide +kernel) (pa_cons (pv 0) pa_nil)) pe_int) (pe_op op_mulW pe_int (pv 1))) pe_int) pe_int) pa_nil)) pe_int) pe_int) pe_int))), ?_⟩)
  try dsimp only [cxK, blkK, noxK, wishK]
  refine lsp_body (N := nm__law_mix) h (Nat.le_of_ble_eq_true rfl) fun xs q hn h => ?_
  clear hn
  obtain ⟨n, k, rfl, hk, hq⟩ := h
  have h1 := fmodS n (m := 1000003) (by decide)
  have hm : (7919 * k).natAbs < 2 ^ 40 := by
    have : (7919 * k).natAbs = 7919 * k.natAbs := Int.natAbs_mul ..
    omega
  refine ⟨(show (1000003 : Int) ≠ 0 by decide), mulS (by decide) (by omega), mulS (by omega) (by decide), (show (1000033 : Int) ≠ 0 by decide), ?_⟩
  have h2 := fmodS ((n.fmod 1000003 + 7919 * k + 1) * 48271) (m := 1000033) (by decide)
  refine ⟨mulS (by omega) (by decide), (show (998244353 : Int) ≠ 0 by decide), ?_⟩
  exact hq _ (fmodS _ (by decide)).1 (fmodS _ (by decide)).2
theorem ok__law_numbers (T : Txt K mg) : FnOk P w K mg base CX0 2 T.f__law_numbers T.fd__law_numbers ["_law_script", "_law_count"] (sp__law_numbers K) := by
  refine T.F__law_numbers.ok sc__law_numbers (fun vs H Q E h => lsp_len h) (fun cdv A outer s H vs Q E hr h => ⟨_, (pss_cons (ps_set (i := 2) sc__law_numbers.nd rfl (Or.inl rfl) (pe_lst pa_nil))
      (pss_cons (ps_set (i := 3) sc__law_numbers.nd rfl (Or.inl rfl) pe_int)
      (pss_cut (ps_for PassesOwn.never rfl (pi_list (pe_slice sl_list (pv 0) po_none (po_some pe_int))) (pg_name (i := 4) sc__law_numbers.nd rfl (Or.inl rfl))
        (pss_cons (ps_set (i := 3) sc__law_numbers.nd rfl (Or.inl rfl) (pe_op op_add (pv 3) (pv 4)))
        (pss_one (ps_if (pt_cmpR op_ge (pv 4) pe_int (nomark _))
          (pss_cons (ps_set (i := 5) sc__law_numbers.nd rfl (Or.inl rfl) (pv 4))
          (pss_one (ps_for PassesOwn.never rfl (pi_range1 (by rfl) T.z_range (pa_cons pe_int pa_nil)) (pg_name (i := 6) sc__law_numbers.nd rfl (Or.inl rfl))
            (pss_cons (ps_expr (pe_bm PySem.F.plainAttrs_list PySem.F.slot_list_append PySem.F.type_list_append mt_append (pv 2) (pa_cons (pe_op op_modN (pe_callTy (T := "int") call_int1 (by rfl) T.z_int (by decide +kernel) (pa_cons (pv 5) pa_nil)) pe_int) pa_nil)))
            (pss_cons (ps_set (i := 5) sc__law_numbers.nd rfl (Or.inl rfl) (pe_op op_fdivW (pv 5) pe_int))
            (pss_one (ps_if (pt_cmpR op_eq (pv 5) pe_int (nomark _))
              (pss_one ps_break)
              pss_nil)))))))
          (pss_one (ps_expr (pe_bm PySem.F.plainAttrs_list PySem.F.slot_list_append PySem.F.type_list_append mt_append (pv 2) (pa_cons (pe_call (ok__law_mix T) (hr.mono (by decide)) (by rfl) T.g__law_mix T.F__law_mix.kp T.b__law_mix .nil pass0 (pa_cons (pe_call (ok__law_mix T) (hr.mono (by decide)) (by rfl) T.g__law_mix T.F__law_mix.kp T.b__law_mix .nil pass0 (pa_cons (pv 4) (pa_cons pe_int pa_nil))) (pa_cons pe_int pa_nil))) pa_nil))))))))
      (pss_cons (ps_for PassesOwn.never rfl (pi_range1 (by rfl) T.z_range (pa_cons (pv 1) pa_nil)) (pg_name (i := 6) sc__law_numbers.nd rfl (Or.inl rfl))
        (pss_one (ps_expr (pe_bm PySem.F.plainAttrs_list PySem.F.slot_list_append PySem.F.type_list_append mt_append (pv 2) (pa_cons (pe_call (ok__law_mix T) (hr.mono (by decide)) (by rfl) T.g__law_mix T.F__law_mix.kp T.b__law_mix .nil pass0 (pa_cons (pe_call (ok__law_mix T) (hr.mono (by decide)) (by rfl) T.g__law_mix T.F__law_mix.kp T.b__law_mix .nil pass0 (pa_cons (pe_op op_add (pv 3) (pe_op op_mulW pe_int (pv 6))) (pa_cons (pe_op op_add pe_int (pv 6)) pa_nil))) (pa_cons pe_int pa_nil))) pa_nil)))))
      (pss_cons (ps_expr (pe_bm0 PySem.F.plainAttrs_list PySem.F.slot_list_reverse PySem.F.type_list_reverse mt_reverse (pv 2)))
      (pss_one (ps_ret (pv 2)))))))), ?_⟩)
  try dsimp only [cxK, blkK, noxK, wishK]
  refine lsp_body (N := nm__law_numbers) h (Nat.le_of_ble_eq_true rfl) fun xs q hn h => ?_
  clear hn
  obtain ⟨ns, c, rfl, ⟨hl, c0, c1⟩, hq⟩ := h
  obtain ⟨ms, e1, e2⟩ := cutD_ints ns none (some 63)
  refine ⟨fun s => ∃ (b : Int) (x4 x5 x6 : Option S) (r : List Int), s = [some (.fr (.scr ns)), some (.fr (.int c)), some (.ow false (rowO r)), some (.fr (.int b)), x4, x5, x6] ∧ r.length ≤ 10000, ?_, ?_⟩
  · refine ⟨fun i s => ∃ (b : Int) (x4 x5 x6 : Option S) (r : List Int), s = [some (.fr (.scr ns)), some (.fr (.int c)), some (.ow false (rowO r)), some (.fr (.int b)), x4, x5, x6] ∧ r.length ≤ 60 * i, ⟨_, _, _, _, [], rfl, by decide⟩, ?_, ?_⟩
    · rintro i d s hd ⟨b, x4, x5, x6, r, rfl, hr⟩
      have hi := (List.getElem?_eq_some_iff.mp hd).1
      rw [e1] at hd hi
      rw [List.length_map] at hi
      obtain ⟨z, rfl, hz⟩ := ints_at hd
      refine ⟨fun _ => ?_, fun _ => ?_⟩
      · refine ⟨⟨by decide, by decide⟩, fun j s => ∃ (x6 : Option S) (y : Int) (r : List Int), s = [some (.fr (.scr ns)), some (.fr (.int c)), some (.ow false (rowO r)), some (.fr (.int (b + z))), some (.fr (.int z)), some (.fr (.int y)), x6] ∧ r.length ≤ 60 * i + j, ⟨_, _, _, rfl, hr⟩, ?_, ?_⟩
        · rintro j d s hd2 ⟨x6, y, r, rfl, hr⟩
          obtain ⟨hj, rfl⟩ := rngD_get hd2
          have hj : j < 60 := hj
          refine ⟨(show (840 : Int) ≠ 0 by decide), by simp; omega, ⟨by decide, by decide⟩, fun _ => ?_, fun _ => ?_⟩
          · exact ⟨b + z, _, _, _, r ++ [y.fmod 840], by rw [rowO_snoc]; rfl, by simp; omega⟩
          · exact ⟨_, _, r ++ [y.fmod 840], by rw [rowO_snoc]; rfl, by simp; omega⟩
        · rintro s ⟨x6, y, r, rfl, hr⟩
          have hr : r.length ≤ 60 * i + 60 := hr
          exact ⟨b + z, _, _, _, r, rfl, by omega⟩
      · exact ⟨z, 3, rfl, by decide, fun z1 _ _ => ⟨z1, 5, rfl, by decide, fun z2 _ _ => ⟨by simp; omega, b + z, _, _, _, r ++ [z2], by rw [rowO_snoc]; rfl, by simp; omega⟩⟩⟩
    · rintro s ⟨b, x4, x5, x6, r, rfl, hr⟩
      rw [e1, List.length_map] at hr
      exact ⟨b, _, _, _, r, rfl, by omega⟩
  · rintro s' ⟨b, x4, x5, x6, r, rfl, hr⟩
    refine ⟨⟨by omega, by omega⟩, fun i s => ∃ (x4 x5 x6 : Option S) (r : List Int), s = [some (.fr (.scr ns)), some (.fr (.int c)), some (.ow false (rowO r)), some (.fr (.int b)), x4, x5, x6] ∧ r.length ≤ 10000 + i, ⟨_, _, _, _, rfl, hr⟩, ?_, ?_⟩
    · rintro i d s hd ⟨x4, x5, x6, r, rfl, hr⟩
      obtain ⟨hi, rfl⟩ := rngD_get hd
      refine ⟨mulS (by decide) (by omega), _, _, rfl, by omega, fun z _ _ => ⟨_, _, rfl, by decide, fun z2 _ _ => ⟨by simp; omega, x4, x5, _, r ++ [z2], by rw [rowO_snoc]; rfl, by simp; omega⟩⟩⟩
    · rintro s ⟨x4, x5, x6, r, rfl, hr⟩
      have := hq r.reverse
      unfold rowO at this
      rw [List.map_reverse] at this
      exact .inl this
theorem ok__law_take (T : Txt K mg) : FnOk P w K mg base CX0 1 T.f__law_take T.fd__law_take ["_law_row", "_law_bound"] (sp__law_take K) := by
  refine T.F__law_take.ok sc__law_take (fun vs H Q E h => lsp_len h) (fun cdv A outer s H vs Q E hr h => ⟨_, (pss_cons (ps_if (pt_not (pt_truth (pv 0) (by intro _; rfl)))
        (pss_one (ps_ret pe_int))
        pss_nil)
      (pss_one (ps_ret (pe_op op_modN (pe_callTy (T := "int") call_int1 (by rfl) T.z_int (by decide +kernel) (pa_cons (pe_bm0 PySem.F.plainAttrs_list PySem.F.slot_list_pop PySem.F.type_list_pop mt_pop (pv 0)) pa_nil)) (pv 1))))), ?_⟩)
  try dsimp only [cxK, blkK, noxK, wishK]
  refine lsp_body (N := nm__law_take) h (Nat.le_of_ble_eq_true rfl) fun xs q hn h => ?_
  clear hn
  obtain ⟨ns, b, rfl, hb, hq⟩ := h
  rcases List.eq_nil_or_concat ns with rfl | ⟨ms, z, rfl⟩
  · exact ⟨fun h => (by cases h), fun _ => hq 0 [] (by decide) hb⟩
  · have e : (ms.concat z).map D.int = ms.map D.int ++ [D.int z] := by rw [List.concat_eq_append, List.map_append]; rfl
    rw [rowO, e]
    refine ⟨fun _ => ?_, fun h => ?_⟩
    · show (match (ms.map D.int ++ [D.int z])[(ms.map D.int ++ [D.int z]).length - 1]? with | some d => _ | none => False)
      rw [List.length_append, List.length_singleton, Nat.add_sub_cancel, List.getElem?_append_right (Nat.le_refl _), Nat.sub_self]
      rw [List.dropLast_concat]
      exact ⟨(show b ≠ 0 by omega), hq _ ms (fmodS z hb).1 (fmodS z hb).2⟩
    · cases hm : ms.map D.int <;> rw [hm] at h <;> cases h

/-! ### the items of a law of the third family: keys k3, k1, .. -/
def KS : List Str := [51, 49, 48, 52, 53, 50, 54].map fun c => Str.ofString "k" ++ ⟨#[c]⟩
theorem KS_nd : KS.Nodup := by decide +kernel
theorem kq : ∀ i, i < 7 → ∃ c, atI (Str.ofString "3104526").cps.toList (0 + ((i : Nat) : Int)) = some c ∧ PyData.strOk (Str.ofString "k" ++ ⟨#[c]⟩) = true ∧ KS[i]? = some (Str.ofString "k" ++ ⟨#[c]⟩)
  | 0, _ => ⟨_, rfl, by decide +kernel, rfl⟩
  | 1, _ => ⟨_, rfl, by decide +kernel, rfl⟩
  | 2, _ => ⟨_, rfl, by decide +kernel, rfl⟩
  | 3, _ => ⟨_, rfl, by decide +kernel, rfl⟩
  | 4, _ => ⟨_, rfl, by decide +kernel, rfl⟩
  | 5, _ => ⟨_, rfl, by decide +kernel, rfl⟩
  | 6, _ => ⟨_, rfl, by decide +kernel, rfl⟩
  | i + 7, h => absurd h (by omega)
/-- an item of the third family -/
def CI (x : Itm) : Prop := x.ok ∧ (1 ≤ x.w ∧ x.w ≤ 1000) ∧ x.a.natAbs ≤ 9
def psp__law_items : Psp := ⟨2, fun xs q => ∃ (ns : List Int) (m : Int), xs = [.ow true (rowO ns), .fr (.int m)] ∧ (0 ≤ m ∧ m ≤ 7) ∧ ∀ (its : List Itm) (ms : List Int), its.length = m.toNat → (∀ x ∈ its, CI x) → its.map (·.k) = KS.take m.toNat → q (.ow false (.lst (its.map dI))) [rowO ms]⟩
abbrev sp__law_items (K : PySem.W.Frag) : Sp := Lsp K psp__law_items
theorem ok__law_items (T : Txt K mg) : FnOk P w K mg base CX0 2 T.f__law_items T.fd__law_items ["_law_row", "_law_many"] (sp__law_items K) := by
  refine T.F__law_items.ok sc__law_items (fun vs H Q E h => lsp_len h) (fun cdv A outer s H vs Q E hr h => ⟨_, (pss_cons (ps_set (i := 2) sc__law_items.nd rfl (Or.inl rfl) (pe_lst pa_nil))
      (pss_cons (ps_for PassesOwn.never rfl (pi_range1 (by rfl) T.z_range (pa_cons (pv 1) pa_nil)) (pg_name (i := 3) sc__law_items.nd rfl (Or.inl rfl))
        (pss_cons (ps_set (i := 4) sc__law_items.nd rfl (Or.inl rfl) (pe_op op_add pe_int (pe_call (ok__law_take T) (hr.mono (by decide)) (by rfl) T.g__law_take T.F__law_take.kp T.b__law_take .nil pass0 (pa_cons (pv 0) (pa_cons pe_int pa_nil)))))
        (pss_cut (ps_if (pt_cmpR op_eq (pe_call (ok__law_take T) (hr.mono (by decide)) (by rfl) T.g__law_take T.F__law_take.kp T.b__law_take .nil pass0 (pa_cons (pv 0) (pa_cons pe_int pa_nil))) pe_int (nomark _))
          (pss_one (ps_set (i := 4) sc__law_items.nd rfl (Or.inl rfl) (pe_ix ix_list (pe_lst (pa_cons pe_int (pa_cons pe_int (pa_cons pe_int (pa_cons pe_int pa_nil))))) (pe_call (ok__law_take T) (hr.mono (by decide)) (by rfl) T.g__law_take T.F__law_take.kp T.b__law_take .nil pass0 (pa_cons (pv 0) (pa_cons pe_int pa_nil))) (fun _ _ => rfl))))
          pss_nil)
        (pss_one (ps_expr (pe_bm PySem.F.plainAttrs_list PySem.F.slot_list_append PySem.F.type_list_append mt_append (pv 2) (pa_cons (pe_tup (pa_cons (pe_op op_add_str pe_str (pe_ix ix_str pe_str (pv 3) (fun _ _ => rfl))) (pa_cons (pe_ix ix_list (pe_lst (pa_cons pe_str (pa_cons pe_str pa_nil))) (pe_call (ok__law_take T) (hr.mono (by decide)) (by rfl) T.g__law_take T.F__law_take.kp T.b__law_take .nil pass0 (pa_cons (pv 0) (pa_cons pe_int pa_nil))) (fun _ _ => rfl)) (pa_cons (pv 4) (pa_cons (pe_op op_sub (pe_call (ok__law_take T) (hr.mono (by decide)) (by rfl) T.g__law_take T.F__law_take.kp T.b__law_take .nil pass0 (pa_cons (pv 0) (pa_cons pe_int pa_nil))) pe_int) pa_nil))))) pa_nil)))))))
      (pss_one (ps_ret (pv 2))))), ?_⟩)
  try dsimp only [cxK, blkK, noxK, wishK]
  refine lsp_body (N := nm__law_items) h (Nat.le_of_ble_eq_true rfl) fun xs q hn h => ?_
  clear hn
  obtain ⟨ns, m, rfl, hm, hq⟩ := h
  refine ⟨⟨by omega, by omega⟩, fun i s => ∃ (its : List Itm) (ns : List Int) (x3 x4 : Option S), s = [some (.ow true (rowO ns)), some (.fr (.int m)), some (.ow false (.lst (its.map dI))), x3, x4] ∧ its.length = i ∧ (∀ x ∈ its, CI x) ∧ its.map (·.k) = KS.take i, ⟨[], ns, none, none, rfl, rfl, (fun x hx => by cases hx), rfl⟩, ?_, ?_⟩
  · rintro i d s hd ⟨its, ns, x3, x4, rfl, hl, hw, hks⟩
    obtain ⟨hi, rfl⟩ := rngD_get hd
    refine ⟨ns, 9, rfl, by decide, fun z ms z0 z1 => ⟨fun s => ∃ (wt : Int) (ns : List Int), s = [some (.ow true (rowO ns)), some (.fr (.int m)), some (.ow false (.lst (its.map dI))), some (.fr (.int (0 + ((i : Nat) : Int)))), some (.fr (.int wt))] ∧ 1 ≤ wt ∧ wt ≤ 1000, ?_, ?_⟩⟩
    · refine ⟨ms, 6, rfl, by decide, fun z2 ms2 z20 z21 => ⟨fun _ => ⟨ms2, 4, rfl, by decide, fun z3 ms3 z30 z31 => ?_⟩, fun _ => ⟨1 + z, ms2, rfl, by omega, by omega⟩⟩⟩
      have : z3 = 0 ∨ z3 = 1 ∨ z3 = 2 ∨ z3 = 3 := by omega
      rcases this with rfl | rfl | rfl | rfl
      · exact ⟨1000, ms3, rfl, by decide, by decide⟩
      · exact ⟨1, ms3, rfl, by decide, by decide⟩
      · exact ⟨40, ms3, rfl, by decide, by decide⟩
      · exact ⟨7, ms3, rfl, by decide, by decide⟩
    · rintro s ⟨wt, ns, rfl, w0, w1⟩
      have hi2 : i < 7 := by omega
      obtain ⟨c, hc, hk, hki⟩ := kq i hi2
      refine ⟨by decide, ?_⟩
      show (match atI (Str.ofString "3104526").cps.toList (0 + ((i : Nat) : Int)) with | some c => _ | none => False)
      rw [hc]
      refine ⟨by show 1 + 1 ≤ sizeLine; decide, ns, 2, rfl, by decide, fun z3 ms3 z30 z31 => ?_⟩
      have hf : ∀ (x : Itm) ms, CI x → x.k = Str.ofString "k" ++ ⟨#[c]⟩ → ∃ (its2 : List Itm) (ns2 : List Int) (y3 y4 : Option S), [some (S.ow true (rowO ms)), some (.fr (.int m)), some (.ow false (.lst (its.map dI ++ [dI x]))), some (.fr (.int (0 + ((i : Nat) : Int)))), some (.fr (.int wt))] = [some (.ow true (rowO ns2)), some (.fr (.int m)), some (.ow false (.lst (its2.map dI))), y3, y4] ∧ its2.length = i + 1 ∧ (∀ x ∈ its2, CI x) ∧ its2.map (·.k) = KS.take (i + 1) := fun x ms hx hxk => ⟨its ++ [x], ms, _, _, by rw [List.map_append]; rfl, by rw [List.length_append, hl]; rfl, (fun y hy => by
        rcases List.mem_append.mp hy with h | h
        · exact hw y h
        · rw [List.mem_singleton.mp h]; exact hx), by rw [List.map_append, hks, List.take_add_one, hki, Option.toList_some]; show _ ++ [x.k] = _; rw [hxk]⟩
      have : z3 = 0 ∨ z3 = 1 := by omega
      rcases this with rfl | rfl
      · exact ⟨ms3, 19, rfl, by decide, fun z4 ms4 z40 z41 => ⟨by rw [List.length_map]; omega, hf ⟨Str.ofString "k" ++ ⟨#[c]⟩, Str.ofString "x", wt, z4 - 9⟩ ms4 ⟨⟨hk, by show PyData.strOk (Str.ofString "x") = true; decide +kernel⟩, ⟨w0, w1⟩, by show (z4 - 9).natAbs ≤ 9; omega⟩ rfl⟩⟩
      · exact ⟨ms3, 19, rfl, by decide, fun z4 ms4 z40 z41 => ⟨by rw [List.length_map]; omega, hf ⟨Str.ofString "k" ++ ⟨#[c]⟩, Str.ofString "y", wt, z4 - 9⟩ ms4 ⟨⟨hk, by show PyData.strOk (Str.ofString "y") = true; decide +kernel⟩, ⟨w0, w1⟩, by show (z4 - 9).natAbs ≤ 9; omega⟩ rfl⟩⟩
  · rintro s ⟨its, ns, x3, x4, rfl, hl, hw, hks⟩
    rw [rngD_len] at hl hks
    exact .inl (hq its ns hl hw hks)
def psp__law_sum : Psp := psp_sum_of
abbrev sp__law_sum (K : PySem.W.Frag) : Sp := Lsp K psp_sum_of
theorem ok__law_sum (T : Txt K mg) : FnOk P w K mg base CX0 3 T.f__law_sum T.fd__law_sum ["_law_rows"] (sp__law_sum K) := by
  refine T.F__law_sum.ok sc__law_sum (fun vs H Q E h => lsp_len h) (fun cdv A outer s H vs Q E hr h => ⟨_, (pss_cons (ps_set (i := 1) sc__law_sum.nd rfl (Or.inl rfl) (pe_tup (pa_cons pe_int (pa_cons pe_int pa_nil))))
      (pss_cons (ps_for PassesOwn.never rfl (pi_list (pv 0)) (pg_name (i := 2) sc__law_sum.nd rfl (Or.inl rfl))
        (pss_one (ps_set (i := 1) sc__law_sum.nd rfl (Or.inl rfl) (pe_call (ok__law_plus T) (hr.mono (by decide)) (by rfl) T.g__law_plus T.F__law_plus.kp T.b__law_plus .nil pass0 (pa_cons (pv 1) (pa_cons (pv 2) pa_nil))))))
      (pss_one (ps_ret (pv 1))))), ?_⟩)
  try dsimp only [cxK, blkK, noxK, wishK]
  refine lsp_body (N := nm__law_sum) h (Nat.le_of_ble_eq_true rfl) fun xs q hn h => ?_
  clear hn
  obtain ⟨rs, rfl, hs, hq⟩ := h
  refine ⟨fun i s => ∃ x2, s = [some (.fr (dFs rs)), some (.fr (dF (rsum (rs.take i)))), x2], ⟨_, rfl⟩, ?_, ?_⟩
  · rintro i d s hd ⟨x2, rfl⟩
    obtain ⟨r, hr, rfl⟩ := map_at hd
    refine ⟨_, _, rfl, ⟨hs.2 i, hs.1 r (List.mem_of_getElem? hr), trivial⟩, some (.fr (dF r)), ?_⟩
    rw [rsum_take hr]
    rfl
  · rintro s ⟨x2, rfl⟩
    rw [List.length_map, List.take_length]
    exact hq


abbrev sp_InvalidSize___init__ (K : PySem.W.Frag) (A : Ad) : Sp := sp_excN K A.InvalidSize ["size"]
theorem ok_InvalidSize___init__ (T : Txt K mg) : FnOk P w K mg base CX0 1 T.f_InvalidSize___init__ T.fd_InvalidSize___init__ ["self", "size"] (sp_InvalidSize___init__ K T.ad) := by
  refine T.F_InvalidSize___init__.ok sc_InvalidSize___init__ (fun vs H Q E h => ?_) (fun cdv A outer s H vs Q E hr h => ?_)
  · obtain ⟨a, us, rfl, hl, ha, q⟩ := h
    obtain ⟨v0, rfl⟩ := lenIs1 hl
    rfl
  · obtain ⟨a, us, rfl, hl, ha, q⟩ := h
    obtain ⟨v0, rfl⟩ := lenIs1 hl
    refine ⟨_, (pss_one (ps_ost (pv 0) (pv 1))), ?_⟩
    exact ⟨_, rfl, _, rfl, a, T.a_InvalidSize, rfl, T.ox_InvalidSize, T.no_InvalidSize_size, .inl ⟨ha, fun dx hd ne => q dx hd ne⟩⟩

abbrev sp_SharedKey___init__ (K : PySem.W.Frag) (A : Ad) : Sp := sp_excN K A.SharedKey ["key"]
theorem ok_SharedKey___init__ (T : Txt K mg) : FnOk P w K mg base CX0 1 T.f_SharedKey___init__ T.fd_SharedKey___init__ ["self", "key"] (sp_SharedKey___init__ K T.ad) := by
  refine T.F_SharedKey___init__.ok sc_SharedKey___init__ (fun vs H Q E h => ?_) (fun cdv A outer s H vs Q E hr h => ?_)
  · obtain ⟨a, us, rfl, hl, ha, q⟩ := h
    obtain ⟨v0, rfl⟩ := lenIs1 hl
    rfl
  · obtain ⟨a, us, rfl, hl, ha, q⟩ := h
    obtain ⟨v0, rfl⟩ := lenIs1 hl
    refine ⟨_, (pss_one (ps_ost (pv 0) (pv 1))), ?_⟩
    exact ⟨_, rfl, _, rfl, a, T.a_SharedKey, rfl, T.ox_SharedKey, T.no_SharedKey_key, .inl ⟨ha, fun dx hd ne => q dx hd ne⟩⟩

theorem ok_check_size (T : Txt K mg) : FnOk P w K mg base (L2.CX P w) 3 T.f_check_size T.fd_check_size ["size"] (sp_check_size K T.ad) := by
  refine T.F_check_size.okX sc_check_size (fun vs H Q E h => lsp_len h) (fun cdv A outer s H vs Q E hr h => ⟨_, (pss_one (ps_if (pt_not (pt_chain op_le op_le pe_int (pv 0) (pe_glob (v := .int (20)) (by rfl) T.g_MOST_SIZE ⟨_, rfl⟩)))
        (pss_one (ps_raiseX (K := K) (W := (WK E)) (C := T.a_InvalidSize) (flds := ["size"]) rfl (takesFn (takes_of rfl rfl rfl rfl)) (pmk_oex T.ox_InvalidSize T.ic_InvalidSize T.tc_InvalidSize (ok_InvalidSize___init__ T) (hr.mono (by decide)) T.b_InvalidSize___init__ .nil pass0 (by rfl) T.g_InvalidSize (pa_cons (pv 0) pa_nil))))
        pss_nil)), ?_⟩)
  try dsimp only [cxK, blkK, noxK, wishK]
  refine lsp_bodyX (N := nm_check_size) h (Nat.le_of_ble_eq_true rfl) fun xs q e hn h => ?_
  clear hn
  obtain ⟨size, rfl, h1, h2⟩ := h
  refine ⟨fun c1 => ⟨fun c2 => h1 ⟨of_decide_eq_true c1, of_decide_eq_true c2⟩, fun c2 => ⟨rfl, ⟨by decide, by decide⟩, h2 fun z => absurd z.2 (of_decide_eq_false c2)⟩⟩, fun c1 => ⟨fun z => (nomatch z), fun _ => ⟨rfl, ⟨by decide, by decide⟩, h2 fun z => absurd z.1 (of_decide_eq_false c1)⟩⟩⟩
theorem shared_take {x1 x2 : List Itm} {i : Nat} {y : Itm} (h : x2[i]? = some y) : sharedK x1 (x2.take (i + 1)) = sharedK x1 (x2.take i) ++ if (∃ x ∈ x1, x.k = y.k) then [y.k] else [] := by
  unfold sharedK
  rw [List.take_add_one, h, Option.toList_some, List.filter_append, List.map_append]
  by_cases e : ∃ x ∈ x1, x.k = y.k
  · rw [if_pos e, List.filter_cons, if_pos (decide_eq_true e)]
    rfl
  · rw [if_neg e, List.filter_cons, if_neg (by rw [decide_eq_false e]; decide)]
    rfl
theorem ok_check_keys (T : Txt K mg) : FnOk P w K mg base (L2.CX P w) 3 T.f_check_keys T.fd_check_keys ["first", "second"] (sp_check_keys K T.ad) := by
  refine T.F_check_keys.okX sc_check_keys (fun vs H Q E h => lsp_len h) (fun cdv A outer s H vs Q E hr h => ⟨_, (pss_cons (ps_set (i := 2) sc_check_keys.nd rfl (Or.inr rfl) (pe_dc (own := [("item", 4)]) (g := gName 4) rfl sc_check_keys.nd (pi_list (pv 0)) (blkOk_by (own := [("item", 4)]) (N := nm_check_keys) (sc := defScope s_check_keys) (by decide +kernel)) (fun _ _ _ _ _ => pg_name (i := 4) sc_check_keys.nd rfl (Or.inl rfl)) (fun _ _ _ _ _ => pts_nil) (fun _ _ _ _ _ => (pe_ix (ixTk (K := K) rfl) (pv 4) pe_int (fun _ _ => rfl))) (fun _ _ _ _ _ => pe_bl)))
      (pss_cons (ps_set (i := 3) sc_check_keys.nd rfl (Or.inl rfl) (pe_callB (id := "sorted") (cr_sortedDak (K := K) rfl (hu65 hr)) (by rfl) T.z_sorted (by decide +kernel) (pa_cons (pe_lc (own := [("item", 4)]) (g := gName 4) rfl sc_check_keys.nd (pi_list (pv 1)) (blkOk_by (own := [("item", 4)]) (N := nm_check_keys) (sc := defScope s_check_keys) (by decide +kernel)) (fun _ _ _ _ _ => pg_name (i := 4) sc_check_keys.nd rfl (Or.inl rfl)) (fun _ _ _ _ _ => (pts_one (pt_cmp (pc_din (hu_of hr) (pe_ix (ixTk (K := K) rfl) (pv 4) pe_int (fun _ _ => rfl)) (pv 2))))) (fun _ _ _ _ _ => (pe_ix (ixTk (K := K) rfl) (pv 4) pe_int (fun _ _ => rfl)))) pa_nil)))
      (pss_one (ps_if (pt_cmpR op_gt (pe_callB (id := "len") call_len_seq (by rfl) T.z_len (by decide +kernel) (pa_cons (pv 3) pa_nil)) pe_int (nomark _))
        (pss_one (ps_raiseX (K := K) (W := (WK E)) (C := T.a_SharedKey) (flds := ["key"]) rfl (takesFn (takes_of rfl rfl rfl rfl)) (pmk_oex T.ox_SharedKey T.ic_SharedKey T.tc_SharedKey (ok_SharedKey___init__ T) (hr.mono (by decide)) T.b_SharedKey___init__ .nil pass0 (by rfl) T.g_SharedKey (pa_cons (pe_ix ix_list (pv 3) pe_int (fun _ _ => rfl)) pa_nil))))
        pss_nil)))), ?_⟩)
  try dsimp only [cxK, blkK, noxK, wishK]
  refine lsp_bodyX (N := nm_check_keys) h (Nat.le_of_ble_eq_true rfl) fun xs q e hn h => ?_
  clear hn
  obtain ⟨x1, x2, rfl, ⟨o1, o2⟩, h1, h2⟩ := h
  dsimp only [psSeq, psSet, psRet, psDrop, psAsg, pCall, pCallX, prCons, prNil, pDat, pCB, pCons, pOp]
  refine ⟨fun i acc s => acc.length ≤ i ∧ (∀ κ : Str, (valK acc (.inr κ)).isSome = decide (∃ x ∈ x1.take i, x.k = κ)) ∧ s = [some (.fr (dIs x1)), some (.fr (dIs x2)), none, none, none], ⟨Nat.le_refl _, fun κ => by simp [valK], rfl⟩, ?_, ?_⟩
  · rintro i d acc s hd ⟨hl, hv, rfl⟩
    obtain ⟨x, hx, rfl⟩ := map_at hd
    have hi := lt_of_at hx
    have := o1.1
    refine ⟨by omega, Nat.le_trans (putKD_len _ _ _) (by omega), fun κ => ?_, rfl⟩
    rw [valK_put, List.take_add_one, hx, Option.toList_some]
    by_cases e : κ = x.k
    · subst e
      rw [if_pos rfl]
      exact (decide_eq_true ⟨x, List.mem_append_right _ (List.mem_singleton.mpr rfl), rfl⟩).symm
    · rw [if_neg (fun z => e (Sum.inr.inj z)), hv]
      refine decide_eq_decide.mpr ⟨fun ⟨y, hy, z⟩ => ⟨y, List.mem_append_left _ hy, z⟩, fun ⟨y, hy, z⟩ => ?_⟩
      rcases List.mem_append.mp hy with hy | hy
      · exact ⟨y, hy, z⟩
      · cases List.mem_singleton.mp hy
        exact absurd z.symm e
  rintro acc s ⟨hl, hv, rfl⟩
  rw [List.length_map, List.take_length] at hv
  refine ⟨by rw [List.length_map]; have := o2.1; omega, fun i a s => a = (sharedK x1 (x2.take i)).map D.str ∧ s = [some (.fr (dIs x1)), some (.fr (dIs x2)), some (.ow false (.dk acc)), none, none], ⟨rfl, rfl⟩, ?_, ?_⟩
  · rintro i d a s hd ⟨rfl, rfl⟩
    obtain ⟨y, hy, rfl⟩ := map_at hd
    refine ⟨fun hc => ⟨?_, rfl⟩, fun hc => ⟨?_, rfl⟩⟩
    · have hc : (valK acc (.inr y.k)).isSome = true := hc
      rw [hv] at hc
      rw [shared_take hy, if_pos (of_decide_eq_true hc), List.map_append]
      rfl
    · have hc : (valK acc (.inr y.k)).isSome = false := hc
      rw [hv] at hc
      rw [shared_take hy, if_neg (of_decide_eq_false hc), List.append_nil]
  rintro a s ⟨rfl, rfl⟩
  rw [List.length_map, List.take_length]
  have hso : ∀ z ∈ sharedK x1 x2, PyData.strOk z = true := fun z hz => by
    unfold sharedK at hz
    obtain ⟨y, hy, rfl⟩ := List.mem_map.mp hz
    exact (o2.2 y (List.mem_filter.mp hy).1).1
  refine ⟨sortOk_S hso, fun hc => ?_, fun hc => ?_⟩
  · have hc : 0 < ((sortD ((sharedK x1 x2).map D.str)).length : Int) := of_decide_eq_true hc
    rw [sortS_map] at hc ⊢
    rw [List.length_map] at hc
    cases e : sortS (sharedK x1 x2) with
    | nil => rw [e] at hc; exact absurd hc (by decide)
    | cons m r =>
      have e2 : atI ((m :: r).map D.str) 0 = some (.str m) := atI_get (by decide) rfl
      show (match atI ((m :: r).map D.str) 0 with | some d => _ | none => False)
      rw [e2]
      exact ⟨rfl, ⟨by decide, by decide⟩, h2 m (by rw [e]; rfl)⟩
  · have hc : ¬ 0 < ((sortD ((sharedK x1 x2).map D.str)).length : Int) := of_decide_eq_false hc
    rw [sortD_len, List.length_map] at hc
    exact h1 (List.length_eq_zero_iff.mp (by omega))

theorem pa_at {ps : List Prt} {i : Nat} {d : D} (h : (ps.map dPa)[i]? = some d) : ∃ p, d = dPa p ∧ ps[i]? = some p := by
  rw [List.getElem?_map] at h
  cases e : ps[i]? with
  | none => rw [e] at h; cases h
  | some z => rw [e] at h; exact ⟨z, (Option.some.inj h).symm, rfl⟩
theorem ok_Optimal___init__ (T : Txt K mg) : FnOk P w K mg base CX0 1 T.f_Optimal___init__ T.fd_Optimal___init__ ["self", "size", "parts"] (sp_Optimal___init__ K T.ad) := by
  refine T.F_Optimal___init__.ok sc_Optimal___init__ (fun vs H Q E h => lsp_len h) (fun cdv A outer s H vs Q E hr h => ⟨_, (pss_cons (ps_fldC (K := K) (Cs := [T.a_Optimal]) rfl (csOk1 T.cl_Optimal T.n_Optimal_size) (pv 0) (pv 1) rfl)
      (pss_cons (ps_fldC (K := K) (Cs := [T.a_Optimal]) rfl (csOk1 T.cl_Optimal T.n_Optimal_parts) (pv 0) (pe_fz (pe_callTy (T := "list") call_list_of (by rfl) T.z_list (by decide +kernel) (pa_cons (pv 2) pa_nil))) rfl)
      (pss_one (ps_fldC (K := K) (Cs := [T.a_Optimal]) rfl (csOk1 T.cl_Optimal T.n_Optimal_kept) (pv 0) (pe_fz (pe_lc (own := [("item", 3), ("_", 4)]) (g := gTup K 2 (gCons (gName 3) (gCons (gName 4) gNil))) rfl sc_Optimal___init__.nd (pi_list (pe_fldC (K := K) (Cs := [T.a_Optimal]) rfl (csOk1 T.cl_Optimal T.n_Optimal_parts) (pv 0) rfl)) (blkOk_by (own := [("item", 3), ("_", 4)]) (N := nm_Optimal___init__) (sc := defScope s_Optimal___init__) (by decide +kernel)) (fun _ _ _ _ _ => (pg_tupk (K := K) (n := 2) rfl rfl (pgs_cons (pg_name (i := 3) sc_Optimal___init__.nd rfl (Or.inl rfl)) (pgs_cons (pg_name (i := 4) sc_Optimal___init__.nd rfl (Or.inl rfl)) pgs_nil)))) (fun _ _ _ _ _ => pts_nil) (fun _ _ _ _ _ => (pv 3)))) rfl)))), ?_⟩)
  try dsimp only [cxK, blkK, noxK, wishK]
  refine lsp_body (N := nm_Optimal___init__) h (Nat.le_of_ble_eq_true rfl) fun xs q hn h => ?_
  clear hn
  obtain ⟨size, ps, h⟩ := h
  rcases h with ⟨rfl, hl, hq⟩ | ⟨rfl, hl, hq⟩
  all_goals
    refine ⟨rfl, rfl, Nat.le_of_ble_eq_true rfl, ?_⟩
    refine ⟨rfl, rfl, Nat.le_of_ble_eq_true rfl, ?_⟩
  · refine ⟨rfl, by rw [List.length_map]; omega, fun i acc s => acc = (ps.take i).map (fun p => dI p.1) ∧ s = [some (.ow true (.ob T.ad.Optimal ["size", "parts"] [.fr (.int size), .fr (dPs ps)])), some (.fr (.int size)), some (.fr (dPs ps)), none, none], ⟨rfl, rfl⟩, ?_, ?_⟩
    · rintro i d acc s hd ⟨rfl, rfl⟩
      obtain ⟨p, rfl, hp⟩ := pa_at hd
      refine ⟨?_, rfl⟩
      rw [List.take_add_one, hp, Option.toList_some, List.map_append]
      rfl
    · rintro acc s ⟨rfl, rfl⟩
      rw [List.length_map, List.take_length]
      exact ⟨rfl, rfl, Nat.le_of_ble_eq_true rfl, hq⟩
  · refine ⟨rfl, by rw [List.length_map]; omega, fun i acc s => acc = (ps.take i).map (fun p => dI p.1) ∧ s = [some (.ow true (.ob T.ad.Optimal ["size", "parts"] [.fr (.int size), .fr (dPs ps)])), some (.fr (.int size)), some (.ow true (.lst (ps.map dPa))), none, none], ⟨rfl, rfl⟩, ?_, ?_⟩
    · rintro i d acc s hd ⟨rfl, rfl⟩
      obtain ⟨p, rfl, hp⟩ := pa_at hd
      refine ⟨?_, rfl⟩
      rw [List.take_add_one, hp, Option.toList_some, List.map_append]
      rfl
    · rintro acc s ⟨rfl, rfl⟩
      rw [List.length_map, List.take_length]
      exact ⟨rfl, rfl, Nat.le_of_ble_eq_true rfl, hq⟩
theorem ok_Optimal_empty (T : Txt K mg) : FnOk P w K mg base (L2.CX P w) 4 T.f_Optimal_empty T.fd_Optimal_empty ["cls", "size"] (sp_Optimal_empty K T.ad) := by
  refine T.F_Optimal_empty.okX sc_Optimal_empty (fun vs H Q E h => lsp_len h) (fun cdv A outer s H vs Q E hr h => ⟨_, (pss_cons (ps_expr (pe_callW (W := (WK E)) (takesFn (takes_of rfl rfl rfl rfl)) (ok_check_size T) (hr.mono (by decide)) (by rfl) T.g_check_size T.F_check_size.kp T.b_check_size (pa_cons (pv 1) pa_nil)))
      (pss_one (ps_ret (pe_makeL (i := 0) T.mk_Optimal (ok_Optimal___init__ T) (hr.mono (by decide)) rfl (by first | exact Or.inl rfl | exact Or.inr (Or.inl rfl)) T.b_Optimal___init__ pass0 (pa_cons (pv 1) (pa_cons (pe_lst pa_nil) pa_nil)))))), ?_⟩)
  try dsimp only [cxK, blkK, noxK, wishK]
  refine lsp_bodyX (N := nm_Optimal_empty) h (Nat.le_of_ble_eq_true rfl) fun xs q e hn h => ?_
  clear hn
  obtain ⟨size, rfl, h1, h2⟩ := h
  exact ⟨size, rfl, fun hs => ⟨rfl, size, [], .inl ⟨rfl, by decide, h1 hs⟩⟩, fun hs => h2 hs⟩
theorem ok_Optimal_single (T : Txt K mg) : FnOk P w K mg base (L2.CX P w) 4 T.f_Optimal_single T.fd_Optimal_single ["cls", "item", "size"] (sp_Optimal_single K T.ad) := by
  refine T.F_Optimal_single.okX sc_Optimal_single (fun vs H Q E h => lsp_len h) (fun cdv A outer s H vs Q E hr h => ⟨_, (pss_cons (ps_expr (pe_callW (W := (WK E)) (takesFn (takes_of rfl rfl rfl rfl)) (ok_check_size T) (hr.mono (by decide)) (by rfl) T.g_check_size T.F_check_size.kp T.b_check_size (pa_cons (pv 2) pa_nil)))
      (pss_one (ps_ret (pe_makeL (i := 0) T.mk_Optimal (ok_Optimal___init__ T) (hr.mono (by decide)) rfl (by first | exact Or.inl rfl | exact Or.inr (Or.inl rfl)) T.b_Optimal___init__ pass0 (pa_cons (pv 2) (pa_cons (pe_lst (pa_cons (pe_tup (pa_cons (pv 1) (pa_cons (pe_call (ok_lowest T) (hr.mono (by decide)) (by rfl) T.g_lowest T.F_lowest.kp T.b_lowest .nil pass0 (pa_cons (pe_ix ix_tup (pv 1) pe_int (fun _ _ => rfl)) (pa_cons pe_int pa_nil))) pa_nil))) pa_nil)) pa_nil)))))), ?_⟩)
  try dsimp only [cxK, blkK, noxK, wishK]
  refine lsp_bodyX (N := nm_Optimal_single) h (Nat.le_of_ble_eq_true rfl) fun xs q e hn h => ?_
  clear hn
  obtain ⟨x, size, rfl, hw, h1, h2⟩ := h
  refine ⟨size, rfl, fun hs => ⟨rfl, x.w, 1, rfl, ⟨by decide, Nat.lt_trans hw (by decide), by decide⟩, size, [(x, (x.w : Rat))], .inl ⟨?_, Nat.le_of_ble_eq_true rfl, h1 hs⟩⟩, fun hs => h2 hs⟩
  show [S.ow true (.ob T.ad.Optimal [] []), S.fr (.int size), S.fr (.lst [.tup [dI x, dF (Rat.divInt x.w 1)]])] = _
  rw [show Rat.divInt x.w 1 = (x.w : Rat) from Rat.mkRat_one x.w]
  rfl
theorem ok_Optimal_view (T : Txt K mg) : FnOk P w K mg base CX0 1 T.f_Optimal_view T.fd_Optimal_view ["self"] (sp_Optimal_view K T.ad) := by
  refine T.F_Optimal_view.ok sc_Optimal_view (fun vs H Q E h => lsp_len h) (fun cdv A outer s H vs Q E hr h => ⟨_, (pss_one (ps_ret (pe_tup (pa_cons (pe_fldC (K := K) (Cs := [T.a_Optimal]) rfl (csOk1 T.cl_Optimal T.n_Optimal_size) (pv 0) rfl) (pa_cons (pe_callTy (T := "tuple") call_tuple_of (by rfl) T.z_tuple (by decide +kernel) (pa_cons (pe_fldC (K := K) (Cs := [T.a_Optimal]) rfl (csOk1 T.cl_Optimal T.n_Optimal_parts) (pv 0) rfl) pa_nil)) pa_nil))))), ?_⟩)
  try dsimp only [cxK, blkK, noxK, wishK]
  refine lsp_body (N := nm_Optimal_view) h (Nat.le_of_ble_eq_true rfl) fun xs q hn h => ?_
  clear hn
  obtain ⟨z, ps, h⟩ := h
  rcases h with ⟨rfl, hq⟩ | ⟨rfl, hq⟩
  · exact ⟨rfl, rfl, hq⟩
  · exact ⟨rfl, rfl, hq⟩
theorem ok_Optimal_adjusted_sum (T : Txt K mg) : FnOk P w K mg base CX0 3 T.f_Optimal_adjusted_sum T.fd_Optimal_adjusted_sum ["self"] (sp_Optimal_adjusted_sum K T.ad) := by
  refine T.F_Optimal_adjusted_sum.ok sc_Optimal_adjusted_sum (fun vs H Q E h => lsp_len h) (fun cdv A outer s H vs Q E hr h => ⟨_, (pss_cons (ps_set (i := 1) sc_Optimal_adjusted_sum.nd rfl (Or.inl rfl) (pe_glob (v := .ref T.a_NOTHING_optimal) (by rfl) T.g_NOTHING_optimal rfl))
      (pss_cons (ps_for PassesOwn.never rfl (pi_list (pe_fldC (K := K) (Cs := [T.a_Optimal]) rfl (csOk1 T.cl_Optimal T.n_Optimal_parts) (pv 0) rfl)) (pg_tupk (K := K) (n := 2) rfl rfl (pgs_cons (pg_name (i := 2) sc_Optimal_adjusted_sum.nd rfl (Or.inl rfl)) (pgs_cons (pg_name (i := 3) sc_Optimal_adjusted_sum.nd rfl (Or.inl rfl)) pgs_nil)))
        (pss_one (ps_set (i := 1) sc_Optimal_adjusted_sum.nd rfl (Or.inl rfl) (pe_call (ok_plus T) (hr.mono (by decide)) (by rfl) T.g_plus T.F_plus.kp T.b_plus .nil pass0 (pa_cons (pv 1) (pa_cons (pv 3) pa_nil))))))
      (pss_one (ps_ret (pv 1))))), ?_⟩)
  try dsimp only [cxK, blkK, noxK, wishK]
  refine lsp_body (N := nm_Optimal_adjusted_sum) h (Nat.le_of_ble_eq_true rfl) fun xs q hn h => ?_
  clear hn
  obtain ⟨z, ps, h⟩ := h
  rcases h with ⟨rfl, hs, hq⟩ | ⟨rfl, hs, hq⟩
  · refine ⟨rfl, fun i s => ∃ x2 x3, s = [some (.fr (dO T.ad z ps)), some (.fr (dF (rsum ((ps.map (·.2)).take i)))), x2, x3], ⟨_, _, rfl⟩, ?_, ?_⟩
    · rintro i d s hd ⟨x2, x3, rfl⟩
      obtain ⟨p, rfl, hp⟩ := pa_at hd
      have e : (ps.map (·.2))[i]? = some p.2 := by rw [List.getElem?_map, hp]; rfl
      refine ⟨_, _, rfl, ⟨hs.2 i, hs.1 _ (List.mem_of_getElem? e), trivial⟩, some (.fr (dI p.1)), some (.fr (dF p.2)), ?_⟩
      rw [rsum_take e]
      rfl
    · rintro s ⟨x2, x3, rfl⟩
      rw [List.length_map, List.take_of_length_le (by rw [List.length_map]; exact Nat.le_refl _)]
      exact hq
  · refine ⟨rfl, fun i s => ∃ x2 x3, s = [some (.ow true (optO T.ad z ps)), some (.fr (dF (rsum ((ps.map (·.2)).take i)))), x2, x3], ⟨_, _, rfl⟩, ?_, ?_⟩
    · rintro i d s hd ⟨x2, x3, rfl⟩
      obtain ⟨p, rfl, hp⟩ := pa_at hd
      have e : (ps.map (·.2))[i]? = some p.2 := by rw [List.getElem?_map, hp]; rfl
      refine ⟨_, _, rfl, ⟨hs.2 i, hs.1 _ (List.mem_of_getElem? e), trivial⟩, some (.fr (dI p.1)), some (.fr (dF p.2)), ?_⟩
      rw [rsum_take e]
      rfl
    · rintro s ⟨x2, x3, rfl⟩
      rw [List.length_map, List.take_of_length_le (by rw [List.length_map]; exact Nat.le_refl _)]
      exact hq


/-! ### merging where nothing is dropped -/
structure PsOk (ps : List Prt) : Prop where
  len : ps.length ≤ 8
  ok : ∀ p ∈ ps, p.1.ok
def kI (ps : List Prt) : List Itm := ps.map (·.1)
theorem PsOk.its {ps : List Prt} (h : PsOk ps) : ItmsOk (kI ps) := ⟨by unfold kI; rw [List.length_map]; have := h.len; omega, fun y hy => by obtain ⟨p, hp, rfl⟩ := List.mem_map.mp hy; exact h.ok p hp⟩
def psp_Optimal_merge (A : Ad) : PspX := ⟨3, fun xs q e => (∃ (z1 z2 : Int) (p1 p2 : List Prt) (o : O), xs = [.fr (dO A z1 p1), .fr (dO A z2 p2), .ow true o] ∧ (PsOk p1 ∧ PsOk p2 ∧ (z2 = z1 → sharedK (kI p1) (kI p2) = [] → ((p1 ++ p2).length : Int) ≤ z1)) ∧ (z2 ≠ z1 → e ⟨A.WrongKind, [], []⟩ [o]) ∧ (z2 = z1 → sharedK (kI p1) (kI p2) = [] → q (.ow false (optO A z1 (sortP (p1 ++ p2)))) [o]) ∧ ∀ m, z2 = z1 → (sortS (sharedK (kI p1) (kI p2)))[0]? = some m → e ⟨A.SharedKey, ["key"], [.str m]⟩ [o]) ∨
  (∃ (z1 z2 s2 : Int) (p1 : List Prt) (x2 : List Itm) (o : O), xs = [.fr (dO A z1 p1), .fr (dU A z2 s2 x2), .ow true o] ∧ e ⟨A.WrongKind, [], []⟩ [o])⟩
abbrev sp_Optimal_merge (K : PySem.W.Frag) (A : Ad) : Sp := LspX K (psp_Optimal_merge A)
theorem ok_Optimal_merge (T : Txt K mg) : FnOk P w K mg base (L2.CX P w) 6 T.f_Optimal_merge T.fd_Optimal_merge ["self", "other", "dice"] (sp_Optimal_merge K T.ad) := by
  refine fun_okXC T.F_Optimal_merge sc_Optimal_merge (fun vs H Q E h => lsp_len h) (fun A outer s H vs Q E hr h => ⟨_, (pss_cons (ps_if (PW.pt (pw_or (pt_not (pt_val (pe_callB (id := "isinstance") call_isi (by rfl) T.z_isinstance (by decide +kernel) (pa_cons (pv 1) (pa_cons (pe_glob (v := .ref T.a_Optimal) (by rfl) T.g_Optimal rfl) pa_nil))))) (pw_or1 (pt_cmpR op_ne (pe_fldC (K := K) (Cs := [T.a_Optimal]) rfl (csOk1 T.cl_Optimal T.n_Optimal_size) (pv 1) rfl) (pe_fldC (K := K) (Cs := [T.a_Optimal]) rfl (csOk1 T.cl_Optimal T.n_Optimal_size) (pv 0) rfl) (nomark _)))))
        (pss_one (ps_raise0 (W := (WK E)) (C := T.a_WrongKind) rfl (takesFn (takes_of rfl rfl rfl rfl)) (pmk_own0 PySem.F.excBase_ValueError T.x_WrongKind T.g_WrongKind T.kp_WrongKind (raises_own T.sb_WrongKind T.ty_WrongKind) rfl)))
        pss_nil)
      (pss_cons (ps_expr (pe_callW (W := (WK E)) (takesFn (takes_of rfl rfl rfl rfl)) (ok_check_keys T) (hr.mono (by decide)) (by rfl) T.g_check_keys T.F_check_keys.kp T.b_check_keys (pa_cons (pe_fldC (K := K) (Cs := [T.a_Optimal]) rfl (csOk1 T.cl_Optimal T.n_Optimal_kept) (pv 0) rfl) (pa_cons (pe_fldC (K := K) (Cs := [T.a_Optimal]) rfl (csOk1 T.cl_Optimal T.n_Optimal_kept) (pv 1) rfl) pa_nil))))
      (pss_cons (ps_set (i := 3) sc_Optimal_merge.nd rfl (Or.inl rfl) (pe_sortK (K := K) (N := ["pair"]) (x := "pair") (k := 1) rfl T.tb_Optimal_merge T.hc_Optimal_merge (by rfl) T.z_sorted ⟨rfl, rfl, rfl, by decide +kernel, rfl, by decide +kernel, by decide +kernel⟩ (hr.mono (by decide)) (pe_op op_cat (pe_fldC (K := K) (Cs := [T.a_Optimal]) rfl (csOk1 T.cl_Optimal T.n_Optimal_parts) (pv 0) rfl) (pe_fldC (K := K) (Cs := [T.a_Optimal]) rfl (csOk1 T.cl_Optimal T.n_Optimal_parts) (pv 1) rfl)) (fun f c A outer s H hr => (pe_ix (ixTk (K := K) rfl) (pe_ix (ixTk (K := K) rfl) (pv 0) pe_int (fun _ _ => rfl)) pe_int (fun _ _ => rfl)))))
      (pss_cons (ps_while (passes_of rfl) (pt_cmpR op_gt (pe_callB (id := "len") call_len_seq (by rfl) T.z_len (by decide +kernel) (pa_cons (pv 3) pa_nil)) (pe_fldC (K := K) (Cs := [T.a_Optimal]) rfl (csOk1 T.cl_Optimal T.n_Optimal_size) (pv 0) rfl) (nomark _))
        (pss_one ps_never))
      (pss_one (ps_ret (pe_make T.mk_Optimal (ok_Optimal___init__ T) (hr.mono (by decide)) (by rfl) T.g_Optimal T.b_Optimal___init__ .nil pass0 (pa_cons (pe_fldC (K := K) (Cs := [T.a_Optimal]) rfl (csOk1 T.cl_Optimal T.n_Optimal_size) (pv 0) rfl) (pa_cons (pv 3) pa_nil))))))))), ?_⟩)
  try dsimp only [cxK, blkK, noxK, wishK]
  refine lsp_bodyX (N := nm_Optimal_merge) h (Nat.le_of_ble_eq_true rfl) fun xs q e hn h => ?_
  clear hn
  rcases h with ⟨z1, z2, p1, p2, o, rfl, ⟨h1, h2, hz⟩, w1, w2, w3⟩ | ⟨z1, z2, s2, p1, x2, o, rfl, w1⟩
  · have hl1 := h1.len
    have hl2 := h2.len
    refine ⟨T.isi_Optimal, true, T.is_Optimal_Optimal, fun _ => ?_, fun z => nomatch z⟩
    refine ⟨rfl, rfl, fun hc => ?_, fun hc => ?_⟩
    · have hc : (!decide (z2 = z1)) = true := hc
      exact w1 (by simpa using hc)
    · have hc : (!decide (z2 = z1)) = false := hc
      have e : z2 = z1 := by simpa using hc
      refine ⟨rfl, rfl, kI p1, kI p2, ?_, ⟨h1.its, h2.its⟩, fun hs => ?_, fun m hm => w3 m e hm⟩
      · show [S.fr (dKs p1), S.fr (dKs p2)] = _
        rw [dKs_eq, dKs_eq]
        rfl
      have hok : ∀ p ∈ p1 ++ p2, p.1.ok := fun p hp => (List.mem_append.mp hp).elim (h1.ok p) (h2.ok p)
      have hm : p1.map dPa ++ p2.map dPa = (p1 ++ p2).map dPa := (List.map_append ..).symm
      have hln : (p1.map dPa).length + (p2.map dPa).length ≤ sizeLine := Nat.le_trans (show _ ≤ 16 by rw [List.length_map, List.length_map]; omega) (by decide)
      refine ⟨rfl, rfl, hln, T.lm_Optimal_merge, T.lu_Optimal_merge, keyPa, fun d hd => ?_, by rw [hm]; exact sortOk_pa hok, ?_⟩
      · rw [hm] at hd
        obtain ⟨p, hp, rfl⟩ := List.mem_map.mp hd
        rfl
      rw [hm, sortByK_pa]
      refine ⟨fun n s => s = [some (.fr (dO T.ad z1 p1)), some (.fr (dO T.ad z2 p2)), some (.ow true o), some (.ow false (.lst ((sortP (p1 ++ p2)).map dPa)))], ⟨0, rfl⟩, ?_⟩
      rintro n s rfl
      refine ⟨rfl, fun hc => ?_, fun _ => ?_⟩
      · have hc : decide (z1 < (((sortP (p1 ++ p2)).map dPa).length : Int)) = true := hc
        have hc := of_decide_eq_true hc
        rw [List.length_map, (sortP_perm _).length_eq] at hc
        have := hz e hs
        omega
      · refine ⟨rfl, .inr (.inl ⟨z1, sortP (p1 ++ p2), .inl ⟨rfl, by rw [(sortP_perm _).length_eq, List.length_append]; omega, w2 e hs⟩⟩)⟩
  · exact ⟨T.isi_Uniform, false, T.is_Uniform_Optimal, fun z => (nomatch z), fun _ => w1⟩

theorem ok_Tape___init__ (T : Txt K mg) : FnOk P w K mg base CX0 1 T.f_Tape___init__ T.fd_Tape___init__ ["self", "numbers"] (sp_Tape___init__ K T.ad) := by
  refine T.F_Tape___init__.ok sc_Tape___init__ (fun vs H Q E h => lsp_len h) (fun cdv A outer s H vs Q E hr h => ⟨_, (pss_cons (ps_fldC (K := K) (Cs := [T.a_Tape]) rfl (csOk1 T.cl_Tape T.n_Tape_numbers) (pv 0) (pe_fz (pe_callTy (T := "list") call_list_of (by rfl) T.z_list (by decide +kernel) (pa_cons (pv 1) pa_nil))) rfl)
      (pss_one (ps_fldC (K := K) (Cs := [T.a_Tape]) rfl (csOk1 T.cl_Tape T.n_Tape_at) (pv 0) pe_int rfl))), ?_⟩)
  try dsimp only [cxK, blkK, noxK, wishK]
  refine lsp_body (N := nm_Tape___init__) h (Nat.le_of_ble_eq_true rfl) fun xs q hn h => ?_
  clear hn
  obtain ⟨ns, rfl, hq⟩ := h
  exact ⟨rfl, rfl, Nat.le_of_ble_eq_true rfl, rfl, rfl, Nat.le_of_ble_eq_true rfl, hq⟩
def psp_Tape_used (A : Ad) : Psp := ⟨1, fun xs q => ∃ (ns : List Int) (a : Int), xs = [.ow true (tapeO A ns a)] ∧ q (.fr (.int a)) [tapeO A ns a]⟩
abbrev sp_Tape_used (K : PySem.W.Frag) (A : Ad) : Sp := Lsp K (psp_Tape_used A)
theorem ok_Tape_used (T : Txt K mg) : FnOk P w K mg base CX0 1 T.f_Tape_used T.fd_Tape_used ["self"] (sp_Tape_used K T.ad) := by
  refine T.F_Tape_used.ok sc_Tape_used (fun vs H Q E h => lsp_len h) (fun cdv A outer s H vs Q E hr h => ⟨_, (pss_one (ps_ret (pe_fldC (K := K) (Cs := [T.a_Tape]) rfl (csOk1 T.cl_Tape T.n_Tape_at) (pv 0) rfl))), ?_⟩)
  try dsimp only [cxK, blkK, noxK, wishK]
  refine lsp_body (N := nm_Tape_used) h (Nat.le_of_ble_eq_true rfl) fun xs q hn h => ?_
  clear hn
  obtain ⟨ns, a, rfl, hq⟩ := h
  exact ⟨rfl, hq⟩
theorem ok_Uniform___init__ (T : Txt K mg) : FnOk P w K mg base CX0 1 T.f_Uniform___init__ T.fd_Uniform___init__ ["self", "size", "seen", "kept"] (sp_Uniform___init__ K T.ad) := by
  refine T.F_Uniform___init__.ok sc_Uniform___init__ (fun vs H Q E h => lsp_len h) (fun cdv A outer s H vs Q E hr h => ⟨_, (pss_cons (ps_fldC (K := K) (Cs := [T.a_Uniform]) rfl (csOk1 T.cl_Uniform T.n_Uniform_size) (pv 0) (pv 1) rfl)
      (pss_cons (ps_fldC (K := K) (Cs := [T.a_Uniform]) rfl (csOk1 T.cl_Uniform T.n_Uniform_seen) (pv 0) (pv 2) rfl)
      (pss_one (ps_fldC (K := K) (Cs := [T.a_Uniform]) rfl (csOk1 T.cl_Uniform T.n_Uniform_kept) (pv 0) (pe_fz (pe_callTy (T := "list") call_list_of (by rfl) T.z_list (by decide +kernel) (pa_cons (pv 3) pa_nil))) rfl)))), ?_⟩)
  try dsimp only [cxK, blkK, noxK, wishK]
  refine lsp_body (N := nm_Uniform___init__) h (Nat.le_of_ble_eq_true rfl) fun xs q hn h => ?_
  clear hn
  obtain ⟨size, seen, kept, rfl, hq⟩ := h
  exact ⟨rfl, rfl, Nat.le_of_ble_eq_true rfl, rfl, rfl, Nat.le_of_ble_eq_true rfl, rfl, rfl, Nat.le_of_ble_eq_true rfl, hq⟩

theorem nq {d e : D} {P : Prop} (h : d = e) (z : (!eqD d e) = true) : P := by
  rw [eqD_true h] at z
  cases z
/-- adjusted weights: the weight and a little more -/
def PF (p : Prt) : Prop := Fz 6 1009 p.2
def psp__law_parts : Psp := ⟨2, fun xs q => ∃ (ns : List Int) (its : List Itm), xs = [.ow true (rowO ns), .fr (dIs its)] ∧ (its.length ≤ 7 ∧ ∀ x ∈ its, CI x) ∧ ∀ (ps : List Prt) (ms : List Int), kI ps = sortI its → (∀ p ∈ ps, PF p) → q (.ow false (.lst (ps.map dPa))) [rowO ms]⟩
abbrev sp__law_parts (K : PySem.W.Frag) : Sp := Lsp K psp__law_parts
def psp__law_made (A : Ad) : Psp := ⟨3, fun xs q => ∃ (x : Itm) (size : Int) (b : Bool), xs = [.fr (dI x), .fr (.int size), .fr (.bl b)] ∧ x.w.natAbs < 2 ^ 40 ∧ (1 ≤ size ∧ size ≤ 20 → q (.fr (dPs (if b then [(x, (x.w : Rat))] else []))) []) ∧ (¬ (1 ≤ size ∧ size ≤ 20) → q (.fr (.tup [.str "refused", .int size])) [])⟩
abbrev sp__law_made (K : PySem.W.Frag) (A : Ad) : Sp := Lsp K (psp__law_made A)
def psp__law_merged (A : Ad) : Psp := ⟨3, fun xs q => (∃ (z1 z2 : Int) (p1 p2 : List Prt) (o : O), xs = [.fr (dO A z1 p1), .fr (dO A z2 p2), .ow true o] ∧ (PsOk p1 ∧ PsOk p2 ∧ (z2 = z1 → sharedK (kI p1) (kI p2) = [] → ((p1 ++ p2).length : Int) ≤ z1)) ∧ (z2 ≠ z1 → q (.fr (.tup [.str "refused", .str "kind"])) [o]) ∧ (z2 = z1 → sharedK (kI p1) (kI p2) = [] → q (.fr (.tup [.int z1, .tup ((sortP (p1 ++ p2)).map dPa)])) [o]) ∧ ∀ m, z2 = z1 → (sortS (sharedK (kI p1) (kI p2)))[0]? = some m → q (.fr (.tup [.str "refused", .str m])) [o]) ∨
  (∃ (z1 z2 s2 : Int) (p1 : List Prt) (x2 : List Itm) (o : O), xs = [.fr (dO A z1 p1), .fr (dU A z2 s2 x2), .ow true o] ∧ q (.fr (.tup [.str "refused", .str "kind"])) [o])⟩
abbrev sp__law_merged (K : PySem.W.Frag) (A : Ad) : Sp := Lsp K (psp__law_merged A)
theorem fz_ab {a b : Int} (a0 : 0 ≤ a) (a1 : a ≤ 8) (b0 : 1 ≤ b) (b1 : b ≤ 3) : Fz 6 8 (Rat.divInt a b) := by
  have ea : a = 0 ∨ a = 1 ∨ a = 2 ∨ a = 3 ∨ a = 4 ∨ a = 5 ∨ a = 6 ∨ a = 7 ∨ a = 8 := by omega
  have eb : b = 1 ∨ b = 2 ∨ b = 3 := by omega
  rcases ea with rfl | rfl | rfl | rfl | rfl | rfl | rfl | rfl | rfl <;> rcases eb with rfl | rfl | rfl <;> exact ⟨by decide +kernel, by decide +kernel⟩
theorem fz_w {x : Itm} (h : CI x) : Fz 6 1000 (x.w : Rat) := ⟨Nat.one_dvd _, by show x.w.natAbs ≤ 1000 * 1; have := h.2.1; omega⟩
theorem ok__law_parts (T : Txt K mg) : FnOk P w K mg base CX0 3 T.f__law_parts T.fd__law_parts ["_law_row", "_law_things"] (sp__law_parts K) := by
  refine T.F__law_parts.ok sc__law_parts (fun vs H Q E h => lsp_len h) (fun cdv A outer s H vs Q E hr h => ⟨_, (pss_one (ps_ret (pe_lc (own := [("_law_item", 2)]) (g := gName 2) rfl sc__law_parts.nd (pi_list (pe_callB (id := "sorted") (cr_sortedDak (K := K) rfl (hu65 hr)) (by rfl) T.z_sorted (by decide +kernel) (pa_cons (pv 1) pa_nil))) (blkOk_by (own := [("_law_item", 2)]) (N := nm__law_parts) (sc := defScope s__law_parts) (by decide +kernel)) (fun _ _ _ _ _ => pg_name (i := 2) sc__law_parts.nd rfl (Or.inl rfl)) (fun _ _ _ _ _ => pts_nil) (fun _ _ _ _ _ => (pe_tup (pa_cons (pv 2) (pa_cons (pe_call (ok__law_plus T) (hr.mono (by decide)) (by rfl) T.g__law_plus T.F__law_plus.kp T.b__law_plus .nil pass0 (pa_cons (pe_tup (pa_cons (pe_ix (ixTk (K := K) rfl) (pv 2) pe_int (fun _ _ => rfl)) (pa_cons pe_int pa_nil))) (pa_cons (pe_call (ok__law_low T) (hr.mono (by decide)) (by rfl) T.g__law_low T.F__law_low.kp T.b__law_low .nil pass0 (pa_cons (pe_call (ok__law_take T) (hr.mono (by decide)) (by rfl) T.g__law_take T.F__law_take.kp T.b__law_take .nil pass0 (pa_cons (pv 0) (pa_cons pe_int pa_nil))) (pa_cons (pe_op op_add pe_int (pe_call (ok__law_take T) (hr.mono (by decide)) (by rfl) T.g__law_take T.F__law_take.kp T.b__law_take .nil pass0 (pa_cons (pv 0) (pa_cons pe_int pa_nil)))) pa_nil))) pa_nil))) pa_nil))))))), ?_⟩)
  try dsimp only [cxK, blkK, noxK, wishK]
  refine lsp_body (N := nm__law_parts) h (Nat.le_of_ble_eq_true rfl) fun xs q hn h => ?_
  clear hn
  obtain ⟨ns, its, rfl, ⟨hl, hok⟩, hq⟩ := h
  have hso : SortOk (its.map dI) := sortOk_I fun x hx => (hok x hx).1
  refine ⟨hso, ?_⟩
  rw [sortI_map]
  refine ⟨by rw [List.length_map, sortI_len]; omega, fun i acc s => ∃ (ps : List Prt) (ms : List Int), acc = ps.map dPa ∧ kI ps = (sortI its).take i ∧ (∀ p ∈ ps, PF p) ∧ s = [some (.ow true (rowO ms)), some (.fr (dIs its)), none], ⟨[], ns, rfl, rfl, fun _ h => (nomatch h), rfl⟩, ?_, ?_⟩
  · rintro i d acc s hd ⟨ps, ms, rfl, hk, hp, rfl⟩
    rw [List.getElem?_map] at hd
    cases e : (sortI its)[i]? with
    | none => rw [e] at hd; cases hd
    | some x =>
      rw [e] at hd
      cases hd
      have hx := hok x (mem_sortI.mp (List.mem_of_getElem? e))
      refine ⟨ms, 9, rfl, by decide, fun a ms2 a0 a1 => ⟨ms2, 3, rfl, by decide, fun b ms3 b0 b1 => ⟨a, 1 + b, rfl, ⟨by show 0 < 1 + b; omega, Nat.lt_of_le_of_lt (show a.natAbs ≤ 8 by omega) (by decide +kernel), Nat.lt_of_le_of_lt (show (1 + b).natAbs ≤ 3 by omega) (by decide +kernel)⟩, ?_⟩⟩⟩
      have f1 := fz_w hx
      have f2 := fz_ab a0 (by omega) (show 1 ≤ 1 + b by omega) (by omega)
      have f3 : PF (x, (x.w : Rat) + Rat.divInt a (1 + b)) := (f1.add f2).up (Nat.dvd_refl _) (by decide)
      refine ⟨(x.w : Rat), Rat.divInt a (1 + b), rfl, ⟨f1.sz (by decide) (by decide +kernel) (by decide +kernel), f2.sz (by decide) (by decide +kernel) (by decide +kernel), trivial⟩, ps ++ [(x, (x.w : Rat) + Rat.divInt a (1 + b))], ms3, by rw [List.map_append]; rfl, ?_, fun p hm => ?_, rfl⟩
      · unfold kI at hk ⊢
        rw [List.map_append, hk, List.take_add_one, e]
        rfl
      · rcases List.mem_append.mp hm with h | h
        · exact hp p h
        · rw [List.mem_singleton.mp h]; exact f3
  · rintro acc s ⟨ps, ms, rfl, hk, hp, rfl⟩
    rw [List.length_map, List.take_length] at hk
    exact hq ps ms hk hp
theorem ok__law_made (T : Txt K mg) : FnOk P w K mg base CX0 5 T.f__law_made T.fd__law_made ["_law_item", "_law_size", "_law_is_single"] (sp__law_made K T.ad) := by
  refine T.F__law_made.ok sc__law_made (fun vs H Q E h => lsp_len h) (fun cdv A outer s H vs Q E hr h => ⟨_, (pss_one (ps_tryW (K := K) (W := (WK E0x)) rfl rfl rfl sc__law_made.nd takesNo
        (fun W pn xe tk po => (pss_cons (ps_if (pt_val (pv 2))
          (pss_one (ps_ret (pe_fldC (K := K) (Cs := [T.a_Optimal]) rfl (csOk1 T.cl_Optimal T.n_Optimal_parts) (pe_cmethW (W := W) tk (pe_glob (v := .ref T.a_Optimal) (by rfl) T.g_Optimal rfl) T.cr_Optimal T.cm_Optimal_single (ok_Optimal_single T) (hr.mono (by decide)) T.b_Optimal_single (pa_cons (pv 0) (pa_cons (pv 1) pa_nil))) rfl)))
          pss_nil)
        (pss_one (ps_ret (pe_fldC (K := K) (Cs := [T.a_Optimal]) rfl (csOk1 T.cl_Optimal T.n_Optimal_parts) (pe_cmethW (W := W) tk (pe_glob (v := .ref T.a_Optimal) (by rfl) T.g_Optimal rfl) T.cr_Optimal T.cm_Optimal_empty (ok_Optimal_empty T) (hr.mono (by decide)) T.b_Optimal_empty (pa_cons (pv 1) pa_nil)) rfl)))))
        (ClsOk.consN (i := 3) rfl rfl ⟨rfl, by decide, .inl T.g_InvalidSize⟩ (fun a oe cls d pn hz hf => (pss_one (ps_ret (pe_tup (pa_cons pe_str (pa_cons (pe_xf T.xf_InvalidSize T.no_InvalidSize_size hz hf (pv 3)) pa_nil))))))
        (ClsOk.cons ⟨rfl, by decide, .inl T.g_SamphireError⟩ (fun a oe cls d pn hz hf => (pss_one (ps_ret (pe_tup (pa_cons pe_str (pa_cons pe_str pa_nil))))))
        ClsOk.nil)))), ?_⟩)
  try dsimp only [cxK, blkK, noxK, wishK]
  refine lsp_body (N := nm__law_made) h (Nat.le_of_ble_eq_true rfl) fun xs q hn h => ?_
  clear hn
  obtain ⟨x, size, b, rfl, hw, h1, h2⟩ := h
  intro W
  refine ⟨fun hb => ?_, fun hb => ?_⟩
  · have hb : b = true := hb
    subst hb
    refine ⟨rfl, x, size, rfl, hw, fun hs => ⟨rfl, h1 hs⟩, fun hs => ?_⟩
    refine ⟨true, T.xm_InvalidSize_InvalidSize, fun _ => ?_, fun h => (nomatch h)⟩
    intro a d hd
    exact ⟨rfl, rfl, rfl, rfl, h2 hs⟩
  · have hb : b = false := hb
    subst hb
    refine ⟨rfl, size, rfl, fun hs => ⟨rfl, h1 hs⟩, fun hs => ?_⟩
    refine ⟨true, T.xm_InvalidSize_InvalidSize, fun _ => ?_, fun h => (nomatch h)⟩
    intro a d hd
    exact ⟨rfl, rfl, rfl, rfl, h2 hs⟩
theorem ok__law_merged (T : Txt K mg) : FnOk P w K mg base CX0 7 T.f__law_merged T.fd__law_merged ["_law_one", "_law_other", "_law_tape"] (sp__law_merged K T.ad) := by
  refine T.F__law_merged.ok sc__law_merged (fun vs H Q E h => lsp_len h) (fun cdv A outer s H vs Q E hr h => ⟨_, (pss_one (ps_tryW (K := K) (W := (WK E0x)) rfl rfl rfl sc__law_merged.nd takesNo
        (fun W pn xe tk po => (pss_one (ps_ret (pe_meth0 (pe_methW (W := W) tk (pv 0) T.cl_Optimal T.M_Optimal_merge (ok_Optimal_merge T) (hr.mono (by decide)) T.b_Optimal_merge (pa_cons (pv 1) (pa_cons (pv 2) pa_nil))) T.cl_Optimal T.M_Optimal_view (ok_Optimal_view T) (hr.mono (by decide)) T.b_Optimal_view .nil pass0))))
        (ClsOk.consN (i := 3) rfl rfl ⟨rfl, by decide, .inl T.g_WrongKind⟩ (fun a oe cls d pn hz hf => (pss_cons (ps_if (pt_val (pe_isE T.ec_WrongKind hz hf (by rfl) T.z_isinstance (pa_cons (pv 3) (pa_cons (pe_glob (v := .ref T.a_SharedKey) (by rfl) T.g_SharedKey rfl) pa_nil))))
          (pss_one (ps_ret (pe_tup (pa_cons pe_str (pa_cons pe_str pa_nil)))))
          pss_nil)
        (pss_one (ps_ret (pe_tup (pa_cons pe_str (pa_cons pe_str pa_nil)))))))
        (ClsOk.consN (i := 3) rfl rfl ⟨rfl, by decide, .inl T.g_SharedKey⟩ (fun a oe cls d pn hz hf => (pss_one (ps_ret (pe_tup (pa_cons pe_str (pa_cons (pe_xf T.xf_SharedKey T.no_SharedKey_key hz hf (pv 3)) pa_nil))))))
        (ClsOk.cons ⟨rfl, by decide, .inl T.g_SamphireError⟩ (fun a oe cls d pn hz hf => (pss_one (ps_ret (pe_tup (pa_cons pe_str (pa_cons pe_str pa_nil))))))
        ClsOk.nil))))), ?_⟩)
  try dsimp only [cxK, blkK, noxK, wishK]
  refine lsp_body (N := nm__law_merged) h (Nat.le_of_ble_eq_true rfl) fun xs q hn h => ?_
  clear hn
  rcases h with ⟨z1, z2, p1, p2, o, rfl, ⟨h1, h2, hz⟩, w1, w2, w3⟩ | ⟨z1, z2, s2, p1, x2, o, rfl, w1⟩
  all_goals intro W
  · refine ⟨rfl, rfl, .inl ⟨z1, z2, p1, p2, o, rfl, ⟨h1, h2, hz⟩, fun hn => ?_, fun e hs => ⟨rfl, rfl, z1, _, .inl ⟨rfl, w2 e hs⟩⟩, fun m e hm => ?_⟩⟩
    · refine ⟨true, T.xm_WrongKind_WrongKind, fun _ => ?_, fun h => (nomatch h)⟩
      intro a d hd
      exact ⟨rfl, hd rfl, rfl, false, T.of_WrongKind_SharedKey, fun h => (nomatch h), fun _ => w1 hn⟩
    · refine ⟨false, T.xm_SharedKey_WrongKind, fun h => (nomatch h), fun _ => ⟨true, T.xm_SharedKey_SharedKey, fun _ => ?_, fun h => (nomatch h)⟩⟩
      intro a d hd
      exact ⟨rfl, rfl, rfl, rfl, w3 m e hm⟩
  · refine ⟨rfl, rfl, .inr ⟨z1, z2, s2, p1, x2, o, rfl, ?_⟩⟩
    refine ⟨true, T.xm_WrongKind_WrongKind, fun _ => ?_, fun h => (nomatch h)⟩
    intro a d hd
    exact ⟨rfl, hd rfl, rfl, false, T.of_WrongKind_SharedKey, fun h => (nomatch h), fun _ => w1⟩

noncomputable def ch_law_19 (P : Program) (w : World) (K : PySem.W.Frag) (mg : Str → Option Value) (T : Txt K mg) : Chunk K (fun t => ∀ (cdv : Value) (A : Around) (outer : List Env) (s : Shared) (H : Hp) (E : XK), Room 7 (A.deeper (envOfC "law" (defScope s_law) s.heap.objs.size T.f_law cdv)) → PSs (cxOf CX0 P w K mg base nm_law "law" (defScope s_law) T.f_law cdv A outer s H E).nox ((defBody s_law).drop 19) (t cdv A outer s H E)) := ⟨_, fun cdv A outer s H E hr => (pss_cons (ps_if (PW.pt (pw_or (pt_cmpR (op_neD hr.units) (pe_call (ok__law_merged T) (hr.mono (by decide)) (by rfl) T.g__law_merged T.F__law_merged.kp T.b__law_merged .nil pass0 (pa_cons (pv 9) (pa_cons (pe_make T.mk_Uniform (ok_Uniform___init__ T) (hr.mono (by decide)) (by rfl) T.g_Uniform T.b_Uniform___init__ .nil pass0 (pa_cons pe_int (pa_cons pe_int (pa_cons (pe_lst (pa_cons (pe_ix ix_list (pv 2) pe_int (fun _ _ => rfl)) pa_nil)) pa_nil)))) (pa_cons (pv 13) pa_nil)))) (pe_tup (pa_cons pe_str (pa_cons pe_str pa_nil))) (nomark _)) (pw_or1 (pt_cmpR op_ne (pe_meth0 (pv 13) T.cl_Tape T.M_Tape_used (ok_Tape_used T) (hr.mono (by decide)) T.b_Tape_used .nil pass0) pe_int (nomark _)))))
        (pss_one (ps_ret pe_bl))
        pss_nil)
      (pss_one (ps_ret (pe_and (pe_cmpR (op_eqD hr.units) (pe_meth0 (pv 9) T.cl_Optimal T.M_Optimal_view (ok_Optimal_view T) (hr.mono (by decide)) T.b_Optimal_view .nil pass0) (pe_tup (pa_cons pe_int (pa_cons (pe_callTy (T := "tuple") call_tuple_of (by rfl) T.z_tuple (by decide +kernel) (pa_cons (pv 6) pa_nil)) pa_nil))) (nomark _)) (pe_one (pe_cmpR (op_eqD hr.units) (pe_ix ix_tup (pe_meth0 (pv 10) T.cl_Optimal T.M_Optimal_view (ok_Optimal_view T) (hr.mono (by decide)) T.b_Optimal_view .nil pass0) pe_int (fun _ _ => rfl)) (pe_callTy (T := "tuple") call_tuple_of (by rfl) T.z_tuple (by decide +kernel) (pa_cons (pv 7) pa_nil)) (nomark _))))))), _, fun a b c d e f => by (try dsimp only [cxK, blkK, noxK, wishK]); infer_instance⟩
instance (T : Txt K mg) (cdv : Value) (A : Around) (outer : List Env) (s : Shared) (H : Hp) (E : XK) : LiftS K XI.zero ((ch_law_19 P w K mg T).t cdv A outer s H E) (ch_law_19 P w K mg T).p := (ch_law_19 P w K mg T).l cdv A outer s H E
noncomputable def ch_law_17 (P : Program) (w : World) (K : PySem.W.Frag) (mg : Str → Option Value) (T : Txt K mg) : Chunk K (fun t => ∀ (cdv : Value) (A : Around) (outer : List Env) (s : Shared) (H : Hp) (E : XK), Room 7 (A.deeper (envOfC "law" (defScope s_law) s.heap.objs.size T.f_law cdv)) → PSs (cxOf CX0 P w K mg base nm_law "law" (defScope s_law) T.f_law cdv A outer s H E).nox ((defBody s_law).drop 17) (t cdv A outer s H E)) := ⟨_, fun cdv A outer s H E hr => (pss_cons (ps_set (i := 13) sc_law.nd rfl (Or.inl rfl) (pe_make T.mk_Tape (ok_Tape___init__ T) (hr.mono (by decide)) (by rfl) T.g_Tape T.b_Tape___init__ .nil pass0 (pa_cons (pe_lst (pa_cons pe_int (pa_cons pe_int pa_nil))) pa_nil)))
      ((pss_cons (ps_if (PW.pt (pw_or (pt_cmpR (op_neD hr.units) (pe_call (ok__law_merged T) (hr.mono (by decide)) (by rfl) T.g__law_merged T.F__law_merged.kp T.b__law_merged .nil pass0 (pa_cons (pv 9) (pa_cons (pv 10) (pa_cons (pv 13) pa_nil)))) (pv 12) (nomark _)) (pw_or1 (pt_cmpR op_ne (pe_meth0 (pv 13) T.cl_Tape T.M_Tape_used (ok_Tape_used T) (hr.mono (by decide)) T.b_Tape_used .nil pass0) pe_int (nomark _)))))
        (pss_one (ps_ret pe_bl))
        pss_nil)
      ((ch_law_19 P w K mg T).h cdv A outer s H E hr)))), _, fun a b c d e f => by (try dsimp only [cxK, blkK, noxK, wishK]); infer_instance⟩
instance (T : Txt K mg) (cdv : Value) (A : Around) (outer : List Env) (s : Shared) (H : Hp) (E : XK) : LiftS K XI.zero ((ch_law_17 P w K mg T).t cdv A outer s H E) (ch_law_17 P w K mg T).p := (ch_law_17 P w K mg T).l cdv A outer s H E
noncomputable def ch_law_13 (P : Program) (w : World) (K : PySem.W.Frag) (mg : Str → Option Value) (T : Txt K mg) : Chunk K (fun t => ∀ (cdv : Value) (A : Around) (outer : List Env) (s : Shared) (H : Hp) (E : XK), Room 7 (A.deeper (envOfC "law" (defScope s_law) s.heap.objs.size T.f_law cdv)) → PSs (cxOf CX0 P w K mg base nm_law "law" (defScope s_law) T.f_law cdv A outer s H E).nox ((defBody s_law).drop 13) (t cdv A outer s H E)) := ⟨_, fun cdv A outer s H E hr => (pss_cons (ps_set (i := 11) sc_law.nd rfl (Or.inl rfl) (pe_callB (id := "sorted") (cr_sortedDak (K := K) rfl (hu65 hr)) (by rfl) T.z_sorted (by decide +kernel) (pa_cons (pe_lc (own := [("_law_pair", 14)]) (g := gName 14) rfl sc_law.nd (pi_list (pv 6)) (blkOk_by (own := [("_law_pair", 14)]) (N := nm_law) (sc := defScope s_law) (by decide +kernel)) (fun _ _ _ _ _ => pg_name (i := 14) sc_law.nd rfl (Or.inl rfl)) (fun _ _ _ _ _ => (pts_one (pt_cmpR (inDk (K := K) rfl (hu66 hr)) (pe_ix (ixTk (K := K) rfl) (pv 14) pe_int (fun _ _ => rfl)) (pe_lc (own := [("_law_found", 15)]) (g := gName 15) rfl sc_law.nd (pi_listk (K := K) rfl (pv 7)) (blkOk_by (own := [("_law_found", 15)]) (N := nm_law) (sc := { kind := ScopeKind.function, names := [(".0", NameKind.local), ("_law_pair", NameKind.local), ("_law_second", NameKind.cell)], isGenerator := false, isCoroutine := false }) (by decide +kernel)) (fun _ _ _ _ _ => pg_name (i := 15) sc_law.nd rfl (Or.inl rfl)) (fun _ _ _ _ _ => pts_nil) (fun _ _ _ _ _ => (pe_ix (ixTk (K := K) rfl) (pv 15) pe_int (fun _ _ => rfl)))) (by rfl)))) (fun _ _ _ _ _ => (pe_ix (ixTk (K := K) rfl) (pe_ix (ixTk (K := K) rfl) (pv 14) pe_int (fun _ _ => rfl)) pe_int (fun _ _ => rfl)))) pa_nil)))
      ((pss_cons (ps_set (i := 12) sc_law.nd rfl (Or.inl rfl) (pe_tup (pa_cons pe_int (pa_cons (pe_callTy (T := "tuple") call_tuple_of (by rfl) T.z_tuple (by decide +kernel) (pa_cons (pe_callB (id := "sorted") (cr_sortedDak (K := K) rfl (hu65 hr)) (by rfl) T.z_sorted (by decide +kernel) (pa_cons (pe_op op_cat (pv 6) (pv 7)) pa_nil)) pa_nil)) pa_nil))))
      ((pss_cut (ps_if (pt_cmpR (op_neD hr.units) (pv 11) (pe_lst pa_nil) (nomark _))
        (pss_one (ps_set (i := 12) sc_law.nd rfl (Or.inl rfl) (pe_tup (pa_cons pe_str (pa_cons (pe_ix ix_list (pv 11) pe_int (fun _ _ => rfl)) pa_nil)))))
        pss_nil)
      ((pss_cut (ps_if (pt_cmpR op_ne (pe_fldC (K := K) (Cs := [T.a_Optimal]) rfl (csOk1 T.cl_Optimal T.n_Optimal_size) (pv 10) rfl) pe_int (nomark _))
        (pss_one (ps_set (i := 12) sc_law.nd rfl (Or.inl rfl) (pe_tup (pa_cons pe_str (pa_cons pe_str pa_nil)))))
        pss_nil)
      ((ch_law_17 P w K mg T).h cdv A outer s H E hr)))))))), _, fun a b c d e f => by (try dsimp only [cxK, blkK, noxK, wishK]); infer_instance⟩
instance (T : Txt K mg) (cdv : Value) (A : Around) (outer : List Env) (s : Shared) (H : Hp) (E : XK) : LiftS K XI.zero ((ch_law_13 P w K mg T).t cdv A outer s H E) (ch_law_13 P w K mg T).p := (ch_law_13 P w K mg T).l cdv A outer s H E
noncomputable def ch_law_10 (P : Program) (w : World) (K : PySem.W.Frag) (mg : Str → Option Value) (T : Txt K mg) : Chunk K (fun t => ∀ (cdv : Value) (A : Around) (outer : List Env) (s : Shared) (H : Hp) (E : XK), Room 7 (A.deeper (envOfC "law" (defScope s_law) s.heap.objs.size T.f_law cdv)) → PSs (cxOf CX0 P w K mg base nm_law "law" (defScope s_law) T.f_law cdv A outer s H E).nox ((defBody s_law).drop 10) (t cdv A outer s H E)) := ⟨_, fun cdv A outer s H E hr => (pss_cons (ps_set (i := 10) sc_law.nd rfl (Or.inl rfl) (pe_make T.mk_Optimal (ok_Optimal___init__ T) (hr.mono (by decide)) (by rfl) T.g_Optimal T.b_Optimal___init__ .nil pass0 (pa_cons (pe_ix ix_list (pe_lst (pa_cons pe_int (pa_cons pe_int (pa_cons pe_int (pa_cons pe_int pa_nil))))) (pe_call (ok__law_take T) (hr.mono (by decide)) (by rfl) T.g__law_take T.F__law_take.kp T.b__law_take .nil pass0 (pa_cons (pv 1) (pa_cons pe_int pa_nil))) (fun _ _ => rfl)) (pa_cons (pv 7) pa_nil))))
      ((pss_cons (ps_if (PW.pt (pw_or (pt_cmpR op_ne (pe_fldC (K := K) (Cs := [T.a_Optimal]) rfl (csOk1 T.cl_Optimal T.n_Optimal_size) (pv 9) rfl) pe_int (nomark _)) (pw_or (pt_cmpR (op_neD hr.units) (pe_fldC (K := K) (Cs := [T.a_Optimal]) rfl (csOk1 T.cl_Optimal T.n_Optimal_parts) (pv 9) rfl) (pv 6) (nomark _)) (pw_or1 (pt_cmpR (op_neD hr.units) (pe_fldC (K := K) (Cs := [T.a_Optimal]) rfl (csOk1 T.cl_Optimal T.n_Optimal_kept) (pv 9) rfl) (pe_lc (own := [("_law_pair", 14)]) (g := gName 14) rfl sc_law.nd (pi_list (pv 6)) (blkOk_by (own := [("_law_pair", 14)]) (N := nm_law) (sc := defScope s_law) (by decide +kernel)) (fun _ _ _ _ _ => pg_name (i := 14) sc_law.nd rfl (Or.inl rfl)) (fun _ _ _ _ _ => pts_nil) (fun _ _ _ _ _ => (pe_ix (ixTk (K := K) rfl) (pv 14) pe_int (fun _ _ => rfl)))) (nomark _))))))
        (pss_one (ps_ret pe_bl))
        pss_nil)
      ((pss_cons (ps_if (PW.pt (pw_or (pt_cmpR (op_neD hr.units) (pe_meth0 (pv 9) T.cl_Optimal T.M_Optimal_view (ok_Optimal_view T) (hr.mono (by decide)) T.b_Optimal_view .nil pass0) (pe_tup (pa_cons pe_int (pa_cons (pe_callTy (T := "tuple") call_tuple_of (by rfl) T.z_tuple (by decide +kernel) (pa_cons (pv 6) pa_nil)) pa_nil))) (nomark _)) (pw_or1 (pt_cmpR (op_neD hr.units) (pe_meth0 (pv 9) T.cl_Optimal T.M_Optimal_adjusted_sum (ok_Optimal_adjusted_sum T) (hr.mono (by decide)) T.b_Optimal_adjusted_sum .nil pass0) (pe_call (ok__law_sum T) (hr.mono (by decide)) (by rfl) T.g__law_sum T.F__law_sum.kp T.b__law_sum .nil pass0 (pa_cons (pe_lc (own := [("_law_pair", 14)]) (g := gName 14) rfl sc_law.nd (pi_list (pv 6)) (blkOk_by (own := [("_law_pair", 14)]) (N := nm_law) (sc := defScope s_law) (by decide +kernel)) (fun _ _ _ _ _ => pg_name (i := 14) sc_law.nd rfl (Or.inl rfl)) (fun _ _ _ _ _ => pts_nil) (fun _ _ _ _ _ => (pe_ix (ixTk (K := K) rfl) (pv 14) pe_int (fun _ _ => rfl)))) pa_nil)) (nomark _)))))
        (pss_one (ps_ret pe_bl))
        pss_nil)
      ((ch_law_13 P w K mg T).h cdv A outer s H E hr)))))), _, fun a b c d e f => by (try dsimp only [cxK, blkK, noxK, wishK]); infer_instance⟩
instance (T : Txt K mg) (cdv : Value) (A : Around) (outer : List Env) (s : Shared) (H : Hp) (E : XK) : LiftS K XI.zero ((ch_law_10 P w K mg T).t cdv A outer s H E) (ch_law_10 P w K mg T).p := (ch_law_10 P w K mg T).l cdv A outer s H E
noncomputable def ch_law_9 (P : Program) (w : World) (K : PySem.W.Frag) (mg : Str → Option Value) (T : Txt K mg) : Chunk K (fun t => ∀ (cdv : Value) (A : Around) (outer : List Env) (s : Shared) (H : Hp) (E : XK), Room 7 (A.deeper (envOfC "law" (defScope s_law) s.heap.objs.size T.f_law cdv)) → PSs (cxOf CX0 P w K mg base nm_law "law" (defScope s_law) T.f_law cdv A outer s H E).nox ((defBody s_law).drop 9) (t cdv A outer s H E)) := ⟨_, fun cdv A outer s H E hr => (pss_cons (ps_expr (pe_bm PySem.F.plainAttrs_list PySem.F.slot_list_append PySem.F.type_list_append mt_append (pv 8) (pa_cons pe_str pa_nil)))
      ((ch_law_10 P w K mg T).h cdv A outer s H E hr)), _, fun a b c d e f => by (try dsimp only [cxK, blkK, noxK, wishK]); infer_instance⟩
instance (T : Txt K mg) (cdv : Value) (A : Around) (outer : List Env) (s : Shared) (H : Hp) (E : XK) : LiftS K XI.zero ((ch_law_9 P w K mg T).t cdv A outer s H E) (ch_law_9 P w K mg T).p := (ch_law_9 P w K mg T).l cdv A outer s H E
noncomputable def ch_law_7 (P : Program) (w : World) (K : PySem.W.Frag) (mg : Str → Option Value) (T : Txt K mg) : Chunk K (fun t => ∀ (cdv : Value) (A : Around) (outer : List Env) (s : Shared) (H : Hp) (E : XK), Room 7 (A.deeper (envOfC "law" (defScope s_law) s.heap.objs.size T.f_law cdv)) → PSs (cxOf CX0 P w K mg base nm_law "law" (defScope s_law) T.f_law cdv A outer s H E).nox ((defBody s_law).drop 7) (t cdv A outer s H E)) := ⟨_, fun cdv A outer s H E hr => (pss_cons (ps_set (i := 8) sc_law.nd rfl (Or.inl rfl) (pe_callTy (T := "list") call_list_of (by rfl) T.z_list (by decide +kernel) (pa_cons (pv 6) pa_nil)))
      ((pss_cons (ps_set (i := 9) sc_law.nd rfl (Or.inl rfl) (pe_make T.mk_Optimal (ok_Optimal___init__ T) (hr.mono (by decide)) (by rfl) T.g_Optimal T.b_Optimal___init__ .nil pass0 (pa_cons pe_int (pa_cons (pv 8) pa_nil))))
      ((ch_law_9 P w K mg T).h cdv A outer s H E hr)))), _, fun a b c d e f => by (try dsimp only [cxK, blkK, noxK, wishK]); infer_instance⟩
instance (T : Txt K mg) (cdv : Value) (A : Around) (outer : List Env) (s : Shared) (H : Hp) (E : XK) : LiftS K XI.zero ((ch_law_7 P w K mg T).t cdv A outer s H E) (ch_law_7 P w K mg T).p := (ch_law_7 P w K mg T).l cdv A outer s H E
noncomputable def ch_law_6 (P : Program) (w : World) (K : PySem.W.Frag) (mg : Str → Option Value) (T : Txt K mg) : Chunk K (fun t => ∀ (cdv : Value) (A : Around) (outer : List Env) (s : Shared) (H : Hp) (E : XK), Room 7 (A.deeper (envOfC "law" (defScope s_law) s.heap.objs.size T.f_law cdv)) → PSs (cxOf CX0 P w K mg base nm_law "law" (defScope s_law) T.f_law cdv A outer s H E).nox ((defBody s_law).drop 6) (t cdv A outer s H E)) := ⟨_, fun cdv A outer s H E hr => (pss_cons (ps_set (i := 7) sc_law.nd rfl (Or.inr rfl) (pe_call (ok__law_parts T) (hr.mono (by decide)) (by rfl) T.g__law_parts T.F__law_parts.kp T.b__law_parts .nil pass0 (pa_cons (pv 1) (pa_cons (pe_slice sl_list (pe_slice sl_list (pv 2) (po_some (pe_op op_add pe_int (pe_call (ok__law_take T) (hr.mono (by decide)) (by rfl) T.g__law_take T.F__law_take.kp T.b__law_take .nil pass0 (pa_cons (pv 1) (pa_cons pe_int pa_nil))))) po_none) po_none (po_some (pe_call (ok__law_take T) (hr.mono (by decide)) (by rfl) T.g__law_take T.F__law_take.kp T.b__law_take .nil pass0 (pa_cons (pv 1) (pa_cons pe_int pa_nil))))) pa_nil))))
      ((ch_law_7 P w K mg T).h cdv A outer s H E hr)), _, fun a b c d e f => by (try dsimp only [cxK, blkK, noxK, wishK]); infer_instance⟩
instance (T : Txt K mg) (cdv : Value) (A : Around) (outer : List Env) (s : Shared) (H : Hp) (E : XK) : LiftS K XI.zero ((ch_law_6 P w K mg T).t cdv A outer s H E) (ch_law_6 P w K mg T).p := (ch_law_6 P w K mg T).l cdv A outer s H E
noncomputable def ch_law_5 (P : Program) (w : World) (K : PySem.W.Frag) (mg : Str → Option Value) (T : Txt K mg) : Chunk K (fun t => ∀ (cdv : Value) (A : Around) (outer : List Env) (s : Shared) (H : Hp) (E : XK), Room 7 (A.deeper (envOfC "law" (defScope s_law) s.heap.objs.size T.f_law cdv)) → PSs (cxOf CX0 P w K mg base nm_law "law" (defScope s_law) T.f_law cdv A outer s H E).nox ((defBody s_law).drop 5) (t cdv A outer s H E)) := ⟨_, fun cdv A outer s H E hr => (pss_cons (ps_set (i := 6) sc_law.nd rfl (Or.inl rfl) (pe_call (ok__law_parts T) (hr.mono (by decide)) (by rfl) T.g__law_parts T.F__law_parts.kp T.b__law_parts .nil pass0 (pa_cons (pv 1) (pa_cons (pe_slice sl_list (pv 2) po_none (po_some (pe_call (ok__law_take T) (hr.mono (by decide)) (by rfl) T.g__law_take T.F__law_take.kp T.b__law_take .nil pass0 (pa_cons (pv 1) (pa_cons pe_int pa_nil))))) pa_nil))))
      ((ch_law_6 P w K mg T).h cdv A outer s H E hr)), _, fun a b c d e f => by (try dsimp only [cxK, blkK, noxK, wishK]); infer_instance⟩
instance (T : Txt K mg) (cdv : Value) (A : Around) (outer : List Env) (s : Shared) (H : Hp) (E : XK) : LiftS K XI.zero ((ch_law_5 P w K mg T).t cdv A outer s H E) (ch_law_5 P w K mg T).p := (ch_law_5 P w K mg T).l cdv A outer s H E
noncomputable def ch_law_3 (P : Program) (w : World) (K : PySem.W.Frag) (mg : Str → Option Value) (T : Txt K mg) : Chunk K (fun t => ∀ (cdv : Value) (A : Around) (outer : List Env) (s : Shared) (H : Hp) (E : XK), Room 7 (A.deeper (envOfC "law" (defScope s_law) s.heap.objs.size T.f_law cdv)) → PSs (cxOf CX0 P w K mg base nm_law "law" (defScope s_law) T.f_law cdv A outer s H E).nox ((defBody s_law).drop 3) (t cdv A outer s H E)) := ⟨_, fun cdv A outer s H E hr => (pss_cons (ps_set (i := 4) sc_law.nd rfl (Or.inl rfl) (pe_lst (pa_cons (pe_lst pa_nil) (pa_cons (pe_lst (pa_cons (pe_tup (pa_cons (pe_ix ix_list (pv 2) pe_int (fun _ _ => rfl)) (pa_cons (pe_tup (pa_cons (pe_ix ix_tup (pe_ix ix_list (pv 2) pe_int (fun _ _ => rfl)) pe_int (fun _ _ => rfl)) (pa_cons pe_int pa_nil))) pa_nil))) pa_nil)) pa_nil))))
      ((pss_cons (ps_for PassesOwn.never rfl (pi_range1 (by rfl) T.z_range (pa_cons pe_int pa_nil)) (pg_name (i := 5) sc_law.nd rfl (Or.inl rfl))
        (pss_cut (ps_if (pt_not (pt_chain op_le op_le pe_int (pv 3) pe_int))
          (pss_one (ps_asg (pe_tup (pa_cons pe_str (pa_cons (pv 3) pa_nil))) (pg_sub (pv 4) (pv 5) set_list)))
          pss_nil)
        (pss_one (ps_if (pt_cmpR (op_neD hr.units) (pe_call (ok__law_made T) (hr.mono (by decide)) (by rfl) T.g__law_made T.F__law_made.kp T.b__law_made .nil pass0 (pa_cons (pe_ix ix_list (pv 2) pe_int (fun _ _ => rfl)) (pa_cons (pv 3) (pa_cons (pe_cmpR op_eq (pv 5) pe_int (nomark _)) pa_nil)))) (pe_ix ix_list (pv 4) (pv 5) (fun _ _ => rfl)) (nomark _))
          (pss_one (ps_ret pe_bl))
          pss_nil))))
      ((ch_law_5 P w K mg T).h cdv A outer s H E hr)))), _, fun a b c d e f => by (try dsimp only [cxK, blkK, noxK, wishK]); infer_instance⟩
instance (T : Txt K mg) (cdv : Value) (A : Around) (outer : List Env) (s : Shared) (H : Hp) (E : XK) : LiftS K XI.zero ((ch_law_3 P w K mg T).t cdv A outer s H E) (ch_law_3 P w K mg T).p := (ch_law_3 P w K mg T).l cdv A outer s H E
noncomputable def ch_law_2 (P : Program) (w : World) (K : PySem.W.Frag) (mg : Str → Option Value) (T : Txt K mg) : Chunk K (fun t => ∀ (cdv : Value) (A : Around) (outer : List Env) (s : Shared) (H : Hp) (E : XK), Room 7 (A.deeper (envOfC "law" (defScope s_law) s.heap.objs.size T.f_law cdv)) → PSs (cxOf CX0 P w K mg base nm_law "law" (defScope s_law) T.f_law cdv A outer s H E).nox ((defBody s_law).drop 2) (t cdv A outer s H E)) := ⟨_, fun cdv A outer s H E hr => (pss_cons (ps_set (i := 3) sc_law.nd rfl (Or.inl rfl) (pe_op op_sub (pe_call (ok__law_take T) (hr.mono (by decide)) (by rfl) T.g__law_take T.F__law_take.kp T.b__law_take .nil pass0 (pa_cons (pv 1) (pa_cons pe_int pa_nil))) pe_int))
      ((ch_law_3 P w K mg T).h cdv A outer s H E hr)), _, fun a b c d e f => by (try dsimp only [cxK, blkK, noxK, wishK]); infer_instance⟩
instance (T : Txt K mg) (cdv : Value) (A : Around) (outer : List Env) (s : Shared) (H : Hp) (E : XK) : LiftS K XI.zero ((ch_law_2 P w K mg T).t cdv A outer s H E) (ch_law_2 P w K mg T).p := (ch_law_2 P w K mg T).l cdv A outer s H E
theorem fz6 {r : Rat} (h : Fz 6 1009 r) : Sz LIM r := h.sz (by decide) (by decide +kernel) (by decide +kernel)
theorem pl_rk {b : Str} (h2 : PyData.strOk b = true) : D.plN 60 (.tup [.str "refused", .str b]) = true := by
  show (D.plN 59 (.str "refused") && (D.plN 59 (.str b) && true)) = true
  rw [pl_str (show PyData.strOk "refused" = true by decide +kernel), pl_str h2]
  rfl
theorem pl_vw {z : Int} {ps : List Prt} (h : ∀ p ∈ ps, p.1.ok) : D.plN 60 (.tup [.int z, .tup (ps.map dPa)]) = true := by
  show (D.plN 59 (.int z) && (D.plN 59 (.tup (ps.map dPa)) && true)) = true
  rw [pl_dPt (n := 56) h]
  rfl
/-- what the law awaits of the merge -/
noncomputable def wantD (z2 : Int) (p1 p2 : List Prt) : D := if z2 = 8 then (match (sortS (sharedK (kI p1) (kI p2)))[0]? with | some m => .tup [.str "refused", .str m] | none => .tup [.int 8, .tup ((sortP (p1 ++ p2)).map dPa)]) else .tup [.str "refused", .str "kind"]
set_option maxHeartbeats 4000000 in
theorem t19_law (T : Txt K mg) {ns : List Int} {its : List Itm} {p1 p2 : List Prt} {z2 : Int} {x1 x3 x4 x5 x8 x11 x12 : Option S} (hl : its.length = 7) (h1 : PsOk p1) (h2 : PsOk p2) {E : PEnds} (hE : RtT E) :
    (ch_law_19 P w K mg T).p E [some (.fr (.scr ns)), x1, some (.fr (dIs its)), x3, x4, x5, some (.fr (dPs p1)), some (.fr (dPs p2)), x8, some (.fr (dO T.ad 8 p1)), some (.fr (dO T.ad z2 p2)), x11, x12, some (.ow false (tapeO T.ad [3, 1] 0)), none, none] := by
  unfold ch_law_19; dsimp only
  have hpv := pl_vw (z := 8) h1.ok
  have hpt : D.plN 60 (.tup (p2.map dPa)) = true := pl_dPt (n := 57) h2.ok
  obtain ⟨x6, h6⟩ : ∃ x, its[6]? = some x := ⟨_, List.getElem?_eq_getElem (by omega)⟩
  have h6i : atI (its.map dI) 6 = some (dI x6) := atI_get (by decide) (by rw [List.getElem?_map]; show (its[6]?).map dI = _; rw [h6]; rfl)
  have hk2 := pl_rk (b := "kind") (by decide +kernel)
  show (match atI (its.map dI) 6 with | some d => _ | none => False)
  rw [h6i]
  refine ⟨8, 1, [x6], rfl, ?_⟩
  refine .inl (.inr ⟨8, 8, 1, p1, [x6], tapeO T.ad [3, 1] 0, rfl, hk2, hk2, nq rfl, fun _ => ?_⟩)
  refine ⟨rfl, rfl, [3, 1], 0, rfl, fun h => (nomatch h), fun _ => ?_⟩
  refine ⟨rfl, rfl, 8, p1, .inl ⟨rfl, hpv, hpv, fun _ => ?_, fun hc => ?_⟩⟩
  · refine ⟨rfl, rfl, z2, p2, .inl ⟨rfl, hpt, hpt, ?_⟩⟩
    show E.rt (.fr (.bl (eqD (.tup (p2.map dPa)) (.tup (p2.map dPa))))) _
    rw [eqD_true rfl]
    exact hE _ _
  · have hc : eqD (.tup [.int 8, .tup (p1.map dPa)]) (.tup [.int 8, .tup (p1.map dPa)]) = false := hc
    rw [eqD_true rfl] at hc
    cases hc
set_option maxHeartbeats 4000000 in
theorem t17_law (T : Txt K mg) {ns : List Int} {its : List Itm} {p1 p2 : List Prt} {z2 : Int} {x1 x3 x4 x5 x8 x11 : Option S} (hl : its.length = 7) (hi : ∀ x ∈ its, CI x) (h1 : PsOk p1) (h2 : PsOk p2) (hlen : p1.length + p2.length ≤ 8) {E : PEnds} (hE : RtT E) :
    (ch_law_17 P w K mg T).p E [some (.fr (.scr ns)), x1, some (.fr (dIs its)), x3, x4, x5, some (.fr (dPs p1)), some (.fr (dPs p2)), x8, some (.ow false (optO T.ad 8 p1)), some (.ow false (optO T.ad z2 p2)), x11, some (.fr (wantD z2 p1 p2)), none, none, none] := by
  unfold ch_law_17; dsimp only
  refine ⟨[3, 1], rfl, ?_⟩
  have hso : ∀ z ∈ sharedK (kI p1) (kI p2), PyData.strOk z = true := fun z hz => by
    unfold sharedK at hz
    obtain ⟨y, hy, rfl⟩ := List.mem_map.mp hz
    exact (h2.its.2 y (List.mem_filter.mp hy).1).1
  have hok : ∀ p ∈ sortP (p1 ++ p2), p.1.ok := fun p hp => (List.mem_append.mp ((sortP_perm _).mem_iff.mp hp)).elim (h1.ok p) (h2.ok p)
  have hW : ∀ (d : D), d = wantD z2 p1 p2 → D.plN 60 d = true := fun d e => by
    rw [e]
    unfold wantD
    split
    · split
      · rename_i m hm
        exact pl_rk (hso m ((sortS_perm _).mem_iff.mp (List.mem_of_getElem? hm)))
      · exact pl_vw hok
    · exact pl_rk (by decide +kernel)
  have hle : z2 = 8 → sharedK (kI p1) (kI p2) = [] → (((p1 ++ p2).length : Nat) : Int) ≤ 8 := fun _ _ => by rw [List.length_append]; omega
  have hd : (z2 ≠ 8 → D.tup [.str "refused", .str "kind"] = wantD z2 p1 p2) ∧ (z2 = 8 → sharedK (kI p1) (kI p2) = [] → D.tup [.int 8, .tup ((sortP (p1 ++ p2)).map dPa)] = wantD z2 p1 p2) ∧ ∀ m, z2 = 8 → (sortS (sharedK (kI p1) (kI p2)))[0]? = some m → D.tup [.str "refused", .str m] = wantD z2 p1 p2 := by
    refine ⟨fun hn => by unfold wantD; rw [if_neg hn], fun e hs => ?_, fun m e hm => by unfold wantD; rw [if_pos e, hm]⟩
    unfold wantD
    rw [if_pos e, hs, show (sortS [])[0]? = none from by rw [List.getElem?_eq_none]; rw [(sortS_perm []).length_eq]; exact Nat.le_refl _]
  refine .inr (.inl (.inr (.inl (.inl (.inl ⟨8, z2, p1, p2, tapeO T.ad [3, 1] 0, rfl, ⟨h1, h2, hle⟩, fun hn => ⟨hW _ (hd.1 hn), hW _ rfl, nq (hd.1 hn), fun _ => ?_⟩, fun e hs => ⟨hW _ (hd.2.1 e hs), hW _ rfl, nq (hd.2.1 e hs), fun _ => ?_⟩, fun m e hm => ⟨hW _ (hd.2.2 m e hm), hW _ rfl, nq (hd.2.2 m e hm), fun _ => ?_⟩⟩)))))
  all_goals
    refine ⟨rfl, rfl, [3, 1], 0, rfl, fun h => (nomatch h), fun _ => ?_⟩
    exact t19_law (P := P) (w := w) T hl h1 h2 hE

/-- what the law gathers: the keys of the first sample's items that the second holds too -/
noncomputable def shl (p1 p2 : List Prt) : List Str := (p1.filter fun p => memD (dI p.1) (p2.map fun p => dI p.1)).map (·.1.k)
theorem shl_snoc {p1 p2 : List Prt} {i : Nat} {p : Prt} (h : p1[i]? = some p) : shl (p1.take (i + 1)) p2 = shl (p1.take i) p2 ++ if memD (dI p.1) (p2.map fun p => dI p.1) then [p.1.k] else [] := by
  unfold shl
  rw [List.take_add_one, h, List.filter_append, List.map_append]
  congr 1
  cases e : memD (dI p.1) (p2.map fun p => dI p.1) <;> simp [e]
theorem mem_kI {x : Itm} {p2 : List Prt} : memD (dI x) (p2.map fun p => dI p.1) = true ↔ x ∈ kI p2 := by
  constructor
  · intro h
    obtain ⟨p, hp, h⟩ := List.mem_map.mp (of_memD h)
    exact List.mem_map.mpr ⟨p, hp, dI_inj h⟩
  · intro h
    obtain ⟨p, hp, rfl⟩ := List.mem_map.mp h
    exact memD_true (List.mem_map.mpr ⟨p, hp, rfl⟩)
theorem shl_perm {p1 p2 : List Prt} (n1 : (p1.map (·.1.k)).Nodup) (n2 : (p2.map (·.1.k)).Nodup) (hsh : ∀ x ∈ kI p1, ∀ y ∈ kI p2, x.k = y.k → x = y) : (shl p1 p2).Perm (sharedK (kI p1) (kI p2)) := by
  have n2' : ((kI p2).map (·.k)).Nodup := by unfold kI; rw [List.map_map]; exact n2
  refine (List.perm_ext_iff_of_nodup ?_ ?_).mpr fun k => ⟨fun h => ?_, fun h => ?_⟩
  · exact n1.sublist (List.Sublist.map _ List.filter_sublist)
  · exact n2'.sublist (List.Sublist.map _ List.filter_sublist)
  · obtain ⟨p, hp, rfl⟩ := List.mem_map.mp h
    obtain ⟨hp, hm⟩ := List.mem_filter.mp hp
    exact List.mem_map.mpr ⟨p.1, List.mem_filter.mpr ⟨mem_kI.mp hm, decide_eq_true ⟨p.1, List.mem_map.mpr ⟨p, hp, rfl⟩, rfl⟩⟩, rfl⟩
  · obtain ⟨y, hy, rfl⟩ := List.mem_map.mp h
    obtain ⟨hy, hm⟩ := List.mem_filter.mp hy
    obtain ⟨x, hx, e⟩ := of_decide_eq_true hm
    have := hsh x hx y hy e
    subst this
    obtain ⟨p, hp, rfl⟩ := List.mem_map.mp hx
    exact List.mem_map.mpr ⟨p, List.mem_filter.mpr ⟨hp, mem_kI.mpr hy⟩, rfl⟩
theorem shl_ok {p1 p2 : List Prt} (h1 : PsOk p1) : ∀ z ∈ shl p1 p2, PyData.strOk z = true := fun z hz => by
  obtain ⟨p, hp, rfl⟩ := List.mem_map.mp hz
  exact (h1.ok p (List.mem_filter.mp hp).1).1
theorem sortS_congr {x y : List Str} (h : x.Perm y) : sortS x = sortS y := by
  refine List.Perm.eq_of_pairwise (fun a b _ _ u v => leK_anti u v) (sortS_pw x) (sortS_pw y) ((sortS_perm x).trans (h.trans (sortS_perm y).symm))
set_option maxHeartbeats 4000000 in
theorem t13_law (T : Txt K mg) {ns : List Int} {its : List Itm} {p1 p2 : List Prt} {z2 : Int} {x1 x3 x4 x5 x8 : Option S} (hl : its.length = 7) (hi : ∀ x ∈ its, CI x) (h1 : PsOk p1) (h2 : PsOk p2) (n1 : (p1.map (·.1.k)).Nodup) (n2 : (p2.map (·.1.k)).Nodup) (hsh : ∀ x ∈ kI p1, ∀ y ∈ kI p2, x.k = y.k → x = y) (hlen : p1.length + p2.length ≤ 8) {E : PEnds} (hE : RtT E) :
    (ch_law_13 P w K mg T).p E [some (.fr (.scr ns)), x1, some (.fr (dIs its)), x3, x4, x5, some (.fr (dPs p1)), some (.fr (dPs p2)), x8, some (.ow false (optO T.ad 8 p1)), some (.ow false (optO T.ad z2 p2)), none, none, none, none, none] := by
  unfold ch_law_13; dsimp only
  have hl1 := h1.len
  have hl2 := h2.len
  refine ⟨by rw [List.length_map]; omega, fun i acc s => acc = (shl (p1.take i) p2).map D.str ∧ s = [some (.fr (.scr ns)), x1, some (.fr (dIs its)), x3, x4, x5, some (.fr (dPs p1)), some (.fr (dPs p2)), x8, some (.ow false (optO T.ad 8 p1)), some (.ow false (optO T.ad z2 p2)), none, none, none, none, none], ⟨rfl, rfl⟩, ?_, ?_⟩
  · rintro i d acc s hd ⟨rfl, rfl⟩
    rw [List.getElem?_map] at hd
    cases e : p1[i]? with
    | none => rw [e] at hd; cases hd
    | some p =>
      rw [e] at hd
      cases hd
      have hpo := h1.ok p (List.mem_of_getElem? e)
      refine ⟨by rw [List.length_map]; omega, fun j acc2 s => acc2 = (p2.take j).map (fun p => dI p.1) ∧ s = [some (.fr (.scr ns)), x1, some (.fr (dIs its)), x3, x4, x5, some (.fr (dPs p1)), some (.fr (dPs p2)), x8, some (.ow false (optO T.ad 8 p1)), some (.ow false (optO T.ad z2 p2)), none, none, none, some (.fr (dPa p)), none], ⟨rfl, rfl⟩, ?_, ?_⟩
      · rintro j d acc2 s hd ⟨rfl, rfl⟩
        rw [List.getElem?_map] at hd
        cases e2 : p2[j]? with
        | none => rw [e2] at hd; cases hd
        | some r =>
          rw [e2] at hd
          cases hd
          refine ⟨?_, rfl⟩
          rw [List.take_add_one, e2, List.map_append]
          rfl
      · rintro acc2 s ⟨rfl, rfl⟩
        rw [List.length_map, List.take_length]
        have hp2 : D.plN 60 (dKs p2) = true := by rw [dKs_eq]; exact pl_dIs (n := 58) (xs := p2.map (·.1)) fun y hy => by obtain ⟨r, hr, rfl⟩ := List.mem_map.mp hy; exact h2.ok r hr
        refine ⟨pl_dI (n := 58) hpo, hp2, ?_⟩
        refine ⟨fun hc => ⟨?_, rfl⟩, fun hc => ⟨?_, rfl⟩⟩
        · rw [shl_snoc e, show memD (dI p.1) (p2.map fun p => dI p.1) = true from hc]
          simp
          rfl
        · rw [shl_snoc e, show memD (dI p.1) (p2.map fun p => dI p.1) = false from hc]
          simp
  · rintro acc s ⟨rfl, rfl⟩
    rw [List.length_map, List.take_length]
    refine ⟨sortOk_S (shl_ok h1), ?_⟩
    have hok : ∀ p ∈ p1 ++ p2, p.1.ok := fun p hp => (List.mem_append.mp hp).elim (h1.ok p) (h2.ok p)
    have hm : p1.map dPa ++ p2.map dPa = (p1 ++ p2).map dPa := (List.map_append ..).symm
    have hln : (p1.map dPa).length + (p2.map dPa).length ≤ sizeLine := Nat.le_trans (show _ ≤ 16 by rw [List.length_map, List.length_map]; omega) (by decide)
    have he : sortD ((shl p1 p2).map D.str) = (sortS (sharedK (kI p1) (kI p2))).map D.str := by rw [sortS_map, sortS_congr (shl_perm n1 n2 hsh)]
    rw [he]
    refine ⟨hln, by rw [hm]; exact sortOk_P hok, ?_⟩
    have hmm : sortD (p1.map dPa ++ p2.map dPa) = sortD ((p1 ++ p2).map dPa) := by rw [hm]
    have hso : ∀ z ∈ sortS (sharedK (kI p1) (kI p2)), PyData.strOk z = true := fun z hz => shl_ok h1 z ((shl_perm n1 n2 hsh).mem_iff.mpr ((sortS_perm _).mem_iff.mp hz))
    have hst : shl p1 p2 = [] → sortS (sharedK (kI p1) (kI p2)) = [] := fun e => by
      have e2 := (shl_perm n1 n2 hsh).symm
      rw [e] at e2
      rw [List.perm_nil.mp e2]
      exact List.perm_nil.mp (sortS_perm _)
    have hps : D.plN 60 (.lst ((sortS (sharedK (kI p1) (kI p2))).map D.str)) = true := by
      show ((sortS (sharedK (kI p1) (kI p2))).map D.str).all (D.plN 59) = true
      rw [List.all_eq_true]
      intro d hd
      obtain ⟨z, hz, rfl⟩ := List.mem_map.mp hd
      exact pl_str (hso z hz)
    let st := fun (d : D) => ([some (.fr (.scr ns)), x1, some (.fr (dIs its)), x3, x4, x5, some (.fr (dPs p1)), some (.fr (dPs p2)), x8, some (.ow false (optO T.ad 8 p1)), some (.ow false (optO T.ad z2 p2)), some (.fr (.lst ((sortS (sharedK (kI p1) (kI p2))).map D.str))), some (.fr d), none, none, none] : Sl)
    let w1 : D := match (sortS (sharedK (kI p1) (kI p2)))[0]? with | some m => .tup [.str "refused", .str m] | none => .tup [.int 8, .tup ((sortP (p1 ++ p2)).map dPa)]
    have hw : wantD z2 p1 p2 = if z2 = 8 then w1 else .tup [.str "refused", .str "kind"] := rfl
    have hsd : sortS (sharedK (kI p1) (kI p2)) = [] → sortD (p1.map dPa ++ p2.map dPa) = (sortP (p1 ++ p2)).map dPa := fun e => by
      rw [hm]
      refine sortD_pa ?_
      rw [List.map_append, List.nodup_append]
      refine ⟨n1, n2, fun a ha b hb z => ?_⟩
      obtain ⟨p, hp, rfl⟩ := List.mem_map.mp ha
      obtain ⟨r, hr, rfl⟩ := List.mem_map.mp hb
      have hin : r.1.k ∈ sharedK (kI p1) (kI p2) := List.mem_map.mpr ⟨r.1, List.mem_filter.mpr ⟨List.mem_map.mpr ⟨r, hr, rfl⟩, decide_eq_true ⟨p.1, List.mem_map.mpr ⟨p, hp, rfl⟩, z⟩⟩, rfl⟩
      have := (sortS_perm _).mem_iff.mpr hin
      rw [e] at this
      cases this
    refine ⟨fun s => s = st w1, ?_, ?_⟩
    · refine ⟨hps, by decide +kernel, fun hc => ?_, fun hc => ?_⟩
      · have hc : (!eqD (.lst ((sortS (sharedK (kI p1) (kI p2))).map D.str)) (.lst [])) = true := hc
        cases hS : (sortS (sharedK (kI p1) (kI p2)))[0]? with
        | none =>
          have e := List.getElem?_eq_none_iff.mp hS
          rw [List.length_eq_zero_iff.mp (Nat.le_zero.mp e)] at hc
          have hc : (!eqD (.lst []) (.lst [])) = true := hc
          rw [eqD_true rfl] at hc
          cases hc
        | some m =>
          have h0 : atI ((sortS (sharedK (kI p1) (kI p2))).map D.str) 0 = some (.str m) := atI_get (by decide) (by rw [List.getElem?_map]; show ((sortS (sharedK (kI p1) (kI p2)))[0]?).map D.str = _; rw [hS]; rfl)
          show (match atI ((sortS (sharedK (kI p1) (kI p2))).map D.str) 0 with | some d => _ | none => False)
          rw [h0]
          have e : w1 = .tup [.str "refused", .str m] := by show (match (sortS (sharedK (kI p1) (kI p2)))[0]? with | some m => D.tup [.str "refused", .str m] | none => D.tup [.int 8, .tup ((sortP (p1 ++ p2)).map dPa)]) = _; rw [hS]
          rw [e]
          rfl
      · have hc : (!eqD (.lst ((sortS (sharedK (kI p1) (kI p2))).map D.str)) (.lst [])) = false := hc
        by_cases hS : sortS (sharedK (kI p1) (kI p2)) = []
        · have e : w1 = .tup [.int 8, .tup ((sortP (p1 ++ p2)).map dPa)] := by show (match (sortS (sharedK (kI p1) (kI p2)))[0]? with | some m => D.tup [.str "refused", .str m] | none => D.tup [.int 8, .tup ((sortP (p1 ++ p2)).map dPa)]) = _; rw [hS]; rfl
          rw [e, ← hsd hS]
          rfl
        · rw [eqD_false (by intro h; injection h with h; exact hS (List.map_eq_nil_iff.mp h))] at hc
          cases hc
    · rintro s rfl
      refine ⟨fun s => s = st (wantD z2 p1 p2), ?_, ?_⟩
      · refine ⟨rfl, fun hc => ?_, fun hc => ?_⟩
        · have hc : (!decide (z2 = 8)) = true := hc
          rw [hw, if_neg (by simpa using hc)]
          rfl
        · have hc : (!decide (z2 = 8)) = false := hc
          rw [hw, if_pos (by simpa using hc)]
      · rintro s rfl
        exact t17_law (P := P) (w := w) T hl hi h1 h2 hlen hE

theorem so_PF {ps : List Prt} (f : ∀ p ∈ ps, PF p) (hl : ps.length ≤ 8) : SumOk (ps.map (·.2)) := by
  refine fz_sumOk (M := 6) (B := 1009) (n := 8) (fun r hr => ?_) (by decide) (by rw [List.length_map]; omega) (by decide +kernel) (by decide +kernel)
  obtain ⟨p, hp, rfl⟩ := List.mem_map.mp hr
  exact f p hp
set_option maxHeartbeats 4000000 in
theorem t10_law (T : Txt K mg) {ns : List Int} {ms : List Int} {its : List Itm} {p1 p2 : List Prt} {x3 x4 x5 x8 : Option S} (hl : its.length = 7) (hi : ∀ x ∈ its, CI x) (h1 : PsOk p1) (h2 : PsOk p2) (f1 : ∀ p ∈ p1, PF p) (n1 : (p1.map (·.1.k)).Nodup) (n2 : (p2.map (·.1.k)).Nodup) (hsh : ∀ x ∈ kI p1, ∀ y ∈ kI p2, x.k = y.k → x = y) (hlen : p1.length + p2.length ≤ 8) {E : PEnds} (hE : RtT E) :
    (ch_law_10 P w K mg T).p E [some (.fr (.scr ns)), some (.ow false (rowO ms)), some (.fr (dIs its)), x3, x4, x5, some (.ow false (.lst (p1.map dPa))), some (.ow false (.lst (p2.map dPa))), x8, some (.ow false (optO T.ad 8 p1)), none, none, none, none, none, none] := by
  unfold ch_law_10; dsimp only
  have hl1 := h1.len
  have hl2 := h2.len
  refine .inl ⟨ms, 4, rfl, by decide, fun a ms2 a0 a1 => ?_⟩
  obtain ⟨z2, hz2⟩ : ∃ z2 : Int, atI [D.int 8, .int 8, .int 8, .int 7] a = some (.int z2) := by
    have : a = 0 ∨ a = 1 ∨ a = 2 ∨ a = 3 := by omega
    rcases this with rfl | rfl | rfl | rfl <;> exact ⟨_, rfl⟩
  show (match atI [D.int 8, .int 8, .int 8, .int 7] a with | some d => _ | none => False)
  rw [hz2]
  refine .inr (.inl ⟨z2, p2, .inl ⟨rfl, by omega, ?_⟩⟩)
  have hps1 : D.plN 60 (dPs p1) = true := pl_dPs (n := 57) h1.ok
  have hps2 : D.plN 60 (dKs p1) = true := by rw [dKs_eq]; exact pl_dIs (n := 58) (xs := p1.map (·.1)) fun y hy => by obtain ⟨r, hr, rfl⟩ := List.mem_map.mp hy; exact h1.ok r hr
  let st := fun (o : Option S) => ([some (.fr (.scr ns)), some (.ow false (rowO ms2)), some (.fr (dIs its)), x3, x4, x5, some (.fr (dPs p1)), some (.fr (dPs p2)), x8, some (.ow false (optO T.ad 8 p1)), some (.ow false (optO T.ad z2 p2)), none, none, none, o, none] : Sl)
  have hcomp : ∀ {α : Type} (f : Prt → D) (i : Nat) (d : D) (s : Sl), (p1.map dPa)[i]? = some d → ∃ p, p1[i]? = some p ∧ d = dPa p := fun f i d s h => by
    rw [List.getElem?_map] at h
    cases e : p1[i]? with
    | none => rw [e] at h; cases h
    | some p => rw [e] at h; cases h; exact ⟨p, rfl, rfl⟩
  refine ⟨rfl, fun hc => absurd hc (by decide), fun _ => ⟨rfl, hps1, hps1, fun hc => ?_, fun _ => ⟨rfl, by rw [List.length_map]; omega, fun i acc s => acc = (p1.take i).map (fun p => dI p.1) ∧ s = st none, ⟨rfl, rfl⟩, ?_, ?_⟩⟩⟩
  · have hc : (!eqD (dPs p1) (dPs p1)) = true := hc
    rw [eqD_true rfl] at hc
    cases hc
  · rintro i d acc s hd ⟨rfl, rfl⟩
    obtain ⟨p, e, rfl⟩ := hcomp (α := Nat) (fun p => dI p.1) i d [] hd
    refine ⟨?_, rfl⟩
    rw [List.take_add_one, e, List.map_append]
    rfl
  · rintro acc s ⟨rfl, rfl⟩
    rw [List.length_map, List.take_length]
    refine ⟨hps2, hps2, fun hc => ?_, fun _ => ?_⟩
    · have hc : (!eqD (dKs p1) (dKs p1)) = true := hc
      rw [eqD_true rfl] at hc
      cases hc
    have hpv := pl_vw (z := 8) h1.ok
    have hF : D.plN 60 (dF (rsum (p1.map (·.2)))) = true := pl_dF 59 _
    refine ⟨rfl, rfl, 8, p1, .inr ⟨rfl, hpv, hpv, fun hc => ?_, fun _ => ⟨rfl, rfl, 8, p1, .inr ⟨rfl, so_PF f1 hl1, by rw [List.length_map]; omega, fun i acc s => acc = (p1.take i).map (fun p => dF p.2) ∧ s = st none, ⟨rfl, rfl⟩, ?_, ?_⟩⟩⟩⟩
    · have hc : (!eqD (.tup [.int 8, .tup (p1.map dPa)]) (.tup [.int 8, .tup (p1.map dPa)])) = true := hc
      rw [eqD_true rfl] at hc
      cases hc
    · rintro i d acc s hd ⟨rfl, rfl⟩
      obtain ⟨p, e, rfl⟩ := hcomp (α := Nat) (fun p => dI p.1) i d [] hd
      refine ⟨?_, rfl⟩
      rw [List.take_add_one, e, List.map_append]
      rfl
    · rintro acc s ⟨rfl, rfl⟩
      rw [List.length_map, List.take_length]
      refine ⟨p1.map (·.2), ?_, so_PF f1 hl1, hF, hF, fun hc => ?_, fun _ => ?_⟩
      · show [S.fr (.lst (p1.map fun p => dF p.2))] = [S.fr (.lst ((p1.map (·.2)).map dF))]
        rw [List.map_map]
        rfl
      · have hc : (!eqD (dF (rsum (p1.map (·.2)))) (dF (rsum (p1.map (·.2))))) = true := hc
        rw [eqD_true rfl] at hc
        cases hc
      · exact t13_law (P := P) (w := w) T hl hi h1 h2 n1 n2 hsh hlen hE

theorem cut_hi {its : List Itm} {a : Int} (h0 : 0 ≤ a) : ∃ i1 : List Itm, cutD (its.map dI) none (some a) = i1.map dI ∧ i1.Sublist its ∧ (i1.length : Int) ≤ a := by
  obtain ⟨n, rfl⟩ := Int.eq_ofNat_of_zero_le h0
  refine ⟨its.take n, ?_, List.take_sublist _ _, by rw [List.length_take]; omega⟩
  unfold cutD
  have : HT.sIx (its.map dI).length (its.map dI).length (some (n : Int)) = min n its.length := by
    unfold HT.sIx
    rw [List.length_map]
    simp
    omega
  rw [this, show HT.sIx (its.map dI).length 0 none = 0 from rfl, List.drop_zero, Nat.sub_zero, List.map_take]
  rcases Nat.le_total n its.length with h | h
  · rw [Nat.min_eq_left h]
  · rw [Nat.min_eq_right h, List.take_of_length_le (by rw [List.length_map]; omega), List.take_of_length_le (by rw [List.length_map]; omega)]
theorem cut_lo {its : List Itm} {a : Int} : ∃ i1 : List Itm, cutD (its.map dI) (some a) none = i1.map dI ∧ i1.Sublist its := by
  unfold cutD
  rw [← List.map_drop, ← List.map_take]
  exact ⟨_, rfl, (List.take_sublist _ _).trans (List.drop_sublist _ _)⟩
set_option maxHeartbeats 4000000 in
theorem t9_law (T : Txt K mg) {ns : List Int} {ms : List Int} {its : List Itm} {p1 p2 : List Prt} {x3 x4 x5 : Option S} (hl : its.length = 7) (hi : ∀ x ∈ its, CI x) (h1 : PsOk p1) (h2 : PsOk p2) (f1 : ∀ p ∈ p1, PF p) (n1 : (p1.map (·.1.k)).Nodup) (n2 : (p2.map (·.1.k)).Nodup) (hsh : ∀ x ∈ kI p1, ∀ y ∈ kI p2, x.k = y.k → x = y) (hlen : p1.length + p2.length ≤ 8) {E : PEnds} (hE : RtT E) :
    (ch_law_9 P w K mg T).p E [some (.fr (.scr ns)), some (.ow false (rowO ms)), some (.fr (dIs its)), x3, x4, x5, some (.ow false (.lst (p1.map dPa))), some (.ow false (.lst (p2.map dPa))), some (.ow false (.lst (p1.map dPa))), some (.ow false (optO T.ad 8 p1)), none, none, none, none, none, none] := by
  unfold ch_law_9; dsimp only
  have hl1 := h1.len
  refine ⟨by rw [List.length_map]; omega, ?_⟩
  exact t10_law (P := P) (w := w) T hl hi h1 h2 f1 n1 n2 hsh hlen hE
set_option maxHeartbeats 4000000 in
theorem t7_law (T : Txt K mg) {ns : List Int} {ms : List Int} {its : List Itm} {p1 p2 : List Prt} {x3 x4 x5 : Option S} (hl : its.length = 7) (hi : ∀ x ∈ its, CI x) (h1 : PsOk p1) (h2 : PsOk p2) (f1 : ∀ p ∈ p1, PF p) (n1 : (p1.map (·.1.k)).Nodup) (n2 : (p2.map (·.1.k)).Nodup) (hsh : ∀ x ∈ kI p1, ∀ y ∈ kI p2, x.k = y.k → x = y) (hlen : p1.length + p2.length ≤ 8) {E : PEnds} (hE : RtT E) :
    (ch_law_7 P w K mg T).p E [some (.fr (.scr ns)), some (.ow false (rowO ms)), some (.fr (dIs its)), x3, x4, x5, some (.ow false (.lst (p1.map dPa))), some (.ow false (.lst (p2.map dPa))), none, none, none, none, none, none, none, none] := by
  unfold ch_law_7; dsimp only
  have hl1 := h1.len
  refine .inl ⟨8, p1, .inr ⟨rfl, by omega, ?_⟩⟩
  exact t9_law (P := P) (w := w) T hl hi h1 h2 f1 n1 n2 hsh hlen hE
theorem kI_nd {its : List Itm} (hk : (its.map (·.k)).Nodup) {p : List Prt} {i : List Itm} (e : kI p = sortI i) (hs : i.Sublist its) : (p.map (·.1.k)).Nodup := by
  have : p.map (·.1.k) = (kI p).map (·.k) := by unfold kI; rw [List.map_map]; rfl
  rw [this, e]
  exact (((sortI_perm i).map (·.k)).nodup_iff).mpr (hk.sublist (hs.map _))
theorem kI_len {p : List Prt} {i : List Itm} (e : kI p = sortI i) : p.length = i.length := by rw [show p.length = (kI p).length from (List.length_map ..).symm, e, sortI_len]
theorem kI_ok {its : List Itm} (hi : ∀ x ∈ its, CI x) {p : List Prt} {i : List Itm} (e : kI p = sortI i) (hs : i.Sublist its) (hl : i.length ≤ 8) : PsOk p := ⟨by rw [kI_len e]; exact hl, fun q hq => (hi _ (hs.subset (mem_sortI.mp (e ▸ (List.mem_map_of_mem hq))))).1⟩
set_option maxHeartbeats 4000000 in
theorem t6_law (T : Txt K mg) {ns : List Int} {ms : List Int} {its i1 : List Itm} {p1 : List Prt} {x3 x4 x5 : Option S} (hl : its.length = 7) (hi : ∀ x ∈ its, CI x) (hk : (its.map (·.k)).Nodup) (e1 : kI p1 = sortI i1) (hs1 : i1.Sublist its) (hl1 : i1.length ≤ 4) (f1 : ∀ p ∈ p1, PF p) {E : PEnds} (hE : RtT E) :
    (ch_law_6 P w K mg T).p E [some (.fr (.scr ns)), some (.ow false (rowO ms)), some (.fr (dIs its)), x3, x4, x5, some (.ow false (.lst (p1.map dPa))), none, none, none, none, none, none, none, none, none] := by
  unfold ch_law_6; dsimp only
  refine .inl (.inl ⟨ms, 3, rfl, by decide, fun b ms4 b0 b1 => ?_⟩)
  refine .inl ⟨ms4, 4, rfl, by decide, fun c ms5 c0 c1 => ?_⟩
  obtain ⟨i2, hc2, hs2⟩ := cut_lo (its := its) (a := 2 + b)
  obtain ⟨i3, hc3, hs3, hl3⟩ := cut_hi (its := i2) c0
  refine ⟨ms5, i3, by show [S.ow true (rowO ms5), S.fr (.lst (cutD (cutD (its.map dI) (some (2 + b)) none) none (some c)))] = _; rw [hc2, hc3], ⟨by omega, fun x hx => hi x (hs2.subset (hs3.subset hx))⟩, fun p2 ms6 e2 f2 => ?_⟩
  exact t7_law (P := P) (w := w) T hl hi (kI_ok hi e1 hs1 (by omega)) (kI_ok hi e2 (hs3.trans hs2) (by omega)) f1 (kI_nd hk e1 hs1) (kI_nd hk e2 (hs3.trans hs2)) (fun x hx y hy e => nodup_inj hk (hs1.subset (mem_sortI.mp (e1 ▸ hx))) (hs2.subset (hs3.subset (mem_sortI.mp (e2 ▸ hy)))) e) (by rw [kI_len e1, kI_len e2]; omega) hE
set_option maxHeartbeats 4000000 in
theorem t5_law (T : Txt K mg) {ns : List Int} {ms : List Int} {its : List Itm} {x3 x4 x5 : Option S} (hl : its.length = 7) (hi : ∀ x ∈ its, CI x) (hk : (its.map (·.k)).Nodup) {E : PEnds} (hE : RtT E) :
    (ch_law_5 P w K mg T).p E [some (.fr (.scr ns)), some (.ow false (rowO ms)), some (.ow false (.lst (its.map dI))), x3, x4, x5, none, none, none, none, none, none, none, none, none, none] := by
  unfold ch_law_5; dsimp only
  refine .inl (.inl ⟨ms, 5, rfl, by decide, fun a ms2 a0 a1 => ?_⟩)
  obtain ⟨i1, hc1, hs1, hl1⟩ := cut_hi (its := its) a0
  refine ⟨ms2, i1, by show [S.ow true (rowO ms2), S.fr (.lst (cutD (its.map dI) none (some a)))] = _; rw [hc1], ⟨by omega, fun x hx => hi x (hs1.subset hx)⟩, fun p1 ms3 e1 f1 => ?_⟩
  exact t6_law (P := P) (w := w) T hl hi hk e1 hs1 (by omega) f1 hE
set_option maxHeartbeats 4000000 in
theorem t3_law (T : Txt K mg) {ns : List Int} {ms : List Int} {its : List Itm} {z : Int} (hl : its.length = 7) (hi : ∀ x ∈ its, CI x) (hk : (its.map (·.k)).Nodup) (z0 : -1 ≤ z) (z1 : z ≤ 22) {E : PEnds} (hE : RtT E) :
    (ch_law_3 P w K mg T).p E [some (.fr (.scr ns)), some (.ow false (rowO ms)), some (.ow false (.lst (its.map dI))), some (.fr (.int z)), none, none, none, none, none, none, none, none, none, none, none, none] := by
  unfold ch_law_3; dsimp only
  obtain ⟨x0, h0⟩ : ∃ x, its[0]? = some x := ⟨_, List.getElem?_eq_getElem (by omega)⟩
  have h0i : atI (its.map dI) 0 = some (dI x0) := atI_get (by decide) (by rw [List.getElem?_map]; show (its[0]?).map dI = _; rw [h0]; rfl)
  have hx := hi x0 (List.mem_of_getElem? h0)
  show (match atI (its.map dI) 0 with | some d => _ | none => False)
  rw [h0i]
  show (match atI (its.map dI) 0 with | some d => _ | none => False)
  rw [h0i]
  let P0 : D := dPs []
  let P1 : D := dPs [(x0, (x0.w : Rat))]
  let R : D := .tup [.str "refused", .int z]
  have hR : D.plN 60 R = true := by
    show (D.plN 59 (.str "refused") && (D.plN 59 (.int z) && true)) = true
    rw [pl_str (show PyData.strOk "refused" = true by decide +kernel)]
    rfl
  have hP : ∀ b : Bool, D.plN 60 (dPs (if b then [(x0, (x0.w : Rat))] else [])) = true := fun b => pl_dPs (n := 57) fun p hp => by
    cases b
    · cases hp
    · rw [List.mem_singleton.mp hp]; exact hx.1
  by_cases hz : 1 ≤ z ∧ z ≤ 20
  · refine ⟨by decide, fun i s => ∃ x5, s = [some (.fr (.scr ns)), some (.ow false (rowO ms)), some (.ow false (.lst (its.map dI))), some (.fr (.int z)), some (.ow false (.lst [P0, P1])), x5, none, none, none, none, none, none, none, none, none, none], ⟨_, rfl⟩, ?_, ?_⟩
    · rintro i d s hd ⟨x5, rfl⟩
      obtain ⟨hi2, rfl⟩ := rngD_get hd
      have hi2 : i < 2 := hi2
      refine ⟨fun s => s = [some (.fr (.scr ns)), some (.ow false (rowO ms)), some (.ow false (.lst (its.map dI))), some (.fr (.int z)), some (.ow false (.lst [P0, P1])), some (.fr (.int (0 + (i : Nat)))), none, none, none, none, none, none, none, none, none, none], ?_, ?_⟩
      · refine ⟨fun _ => ⟨fun _ => rfl, fun h => absurd (of_decide_eq_false h) (by omega)⟩, fun h => absurd (of_decide_eq_false h) (by omega)⟩
      · rintro s rfl
        show (match atI (its.map dI) 0 with | some d => _ | none => False)
        rw [h0i]
        refine ⟨x0, z, decide (0 + (i : Nat) = (1 : Int)), rfl, by have := hx.2.1; omega, fun _ => ?_, fun h => absurd hz h⟩
        have : i = 0 ∨ i = 1 := by omega
        rcases this with rfl | rfl
        · refine ⟨hP false, hP false, fun hc => ?_, fun _ => ⟨_, rfl⟩⟩
          have hc : (!eqD P0 P0) = true := hc
          rw [eqD_true rfl] at hc
          cases hc
        · refine ⟨hP true, hP true, fun hc => ?_, fun _ => ⟨_, rfl⟩⟩
          have hc : (!eqD P1 P1) = true := hc
          rw [eqD_true rfl] at hc
          cases hc
    · rintro s ⟨x5, rfl⟩
      exact t5_law (P := P) (w := w) T hl hi hk hE
  · refine ⟨by decide, fun i s => ∃ e0 e1 x5, s = [some (.fr (.scr ns)), some (.ow false (rowO ms)), some (.ow false (.lst (its.map dI))), some (.fr (.int z)), some (.ow false (.lst [e0, e1])), x5, none, none, none, none, none, none, none, none, none, none], ⟨_, _, _, rfl⟩, ?_, ?_⟩
    · rintro i d s hd ⟨e0, e1, x5, rfl⟩
      obtain ⟨hi2, rfl⟩ := rngD_get hd
      have hi2 : i < 2 := hi2
      refine ⟨fun s => ∃ e0 e1, s = [some (.fr (.scr ns)), some (.ow false (rowO ms)), some (.ow false (.lst (its.map dI))), some (.fr (.int z)), some (.ow false (.lst [e0, e1])), some (.fr (.int (0 + (i : Nat)))), none, none, none, none, none, none, none, none, none, none] ∧ [e0, e1][i]? = some R, ?_, ?_⟩
      · have : i = 0 ∨ i = 1 := by omega
        rcases this with rfl | rfl
        · refine ⟨fun h => ⟨fun h2 => absurd ⟨of_decide_eq_true h, of_decide_eq_true h2⟩ hz, fun _ => ⟨_, _, rfl, rfl⟩⟩, fun _ => ⟨fun z => (nomatch z), fun _ => ⟨_, _, rfl, rfl⟩⟩⟩
        · refine ⟨fun h => ⟨fun h2 => absurd ⟨of_decide_eq_true h, of_decide_eq_true h2⟩ hz, fun _ => ⟨_, _, rfl, rfl⟩⟩, fun _ => ⟨fun z => (nomatch z), fun _ => ⟨_, _, rfl, rfl⟩⟩⟩
      · rintro s ⟨e0, e1, rfl, hR2⟩
        show (match atI (its.map dI) 0 with | some d => _ | none => False)
        rw [h0i]
        refine ⟨x0, z, decide (0 + (i : Nat) = (1 : Int)), rfl, by have := hx.2.1; omega, fun h => absurd h hz, fun _ => ?_⟩
        have : i = 0 ∨ i = 1 := by omega
        rcases this with rfl | rfl
        · cases hR2
          refine ⟨hR, hR, fun hc => ?_, fun _ => ⟨_, _, _, rfl⟩⟩
          have hc : (!eqD R R) = true := hc
          rw [eqD_true rfl] at hc
          cases hc
        · cases hR2
          refine ⟨hR, hR, fun hc => ?_, fun _ => ⟨_, _, _, rfl⟩⟩
          have hc : (!eqD R R) = true := hc
          rw [eqD_true rfl] at hc
          cases hc
    · rintro s ⟨e0, e1, x5, rfl⟩
      exact t5_law (P := P) (w := w) T hl hi hk hE
set_option maxHeartbeats 4000000 in
theorem t2_law (T : Txt K mg) {ns : List Int} {ms : List Int} {its : List Itm} (hl : its.length = 7) (hi : ∀ x ∈ its, CI x) (hk : (its.map (·.k)).Nodup) {E : PEnds} (hE : RtT E) :
    (ch_law_2 P w K mg T).p E [some (.fr (.scr ns)), some (.ow false (rowO ms)), some (.ow false (.lst (its.map dI))), none, none, none, none, none, none, none, none, none, none, none, none, none] := by
  unfold ch_law_2; dsimp only
  refine .inl ⟨ms, 24, rfl, by decide, fun a ms2 a0 a1 => ?_⟩
  exact t3_law (P := P) (w := w) T hl hi hk (z := a - 1) (by omega) (by omega) hE
set_option maxHeartbeats 4000000 in
theorem okP_law (T : Txt K mg) : FnOk P w K mg base CX0 8 T.f_law T.fd_law ["_law_script"] (Lsp K psp_law) := by
  refine T.F_law.ok sc_law (fun vs H Q E h => lsp_len h) (fun cdv A outer s H vs Q E hr h => ⟨_, (pss_cons (ps_set (i := 1) sc_law.nd rfl (Or.inl rfl) (pe_call (ok__law_numbers T) (hr.mono (by decide)) (by rfl) T.g__law_numbers T.F__law_numbers.kp T.b__law_numbers .nil pass0 (pa_cons (pv 0) (pa_cons pe_int pa_nil))))
      ((pss_cons (ps_set (i := 2) sc_law.nd rfl (Or.inl rfl) (pe_call (ok__law_items T) (hr.mono (by decide)) (by rfl) T.g__law_items T.F__law_items.kp T.b__law_items .nil pass0 (pa_cons (pv 1) (pa_cons pe_int pa_nil))))
      ((ch_law_2 P w K mg T).h cdv A outer s H E hr)))), ?_⟩)
  try dsimp only [cxK, blkK, noxK, wishK]
  refine lsp_body (N := nm_law) h (by decide) fun xs q hn h => ?_
  clear hn
  obtain ⟨ns, rfl, hns, hq⟩ := h
  refine ⟨ns, 90, rfl, ⟨hns, by decide, by decide⟩, fun ms0 => ?_⟩
  refine .inl ⟨ms0, 7, rfl, ⟨by decide, by decide⟩, fun its ms1 hl hi hks => ?_⟩
  have hk : (its.map (·.k)).Nodup := by rw [hks]; decide +kernel
  exact t2_law (P := P) (w := w) T hl hi hk (fun _ _ => hq)

theorem ok_law (T : Txt K mg) : FnOk P w K mg base CX0 8 T.f_law T.fd_law ["_law_script"] (sp_law K) := (okP_law T).imp law_imp
end
set_option maxHeartbeats 0 in
theorem all_mk {l : PySem.W.OpenLaw} {w : World} {K : PySem.W.Frag} {h : Heap} {mg : Str → Option Value} {fa a_Uniform a_Optimal a_Tape a_SamphireError a_InvalidSize a_SharedKey a_WrongKind a_ZeroDenominator f_InvalidSize___init__ f_SharedKey___init__ f_lowest f_plus f_minus f_over f_less f_sum_of f_check_size f_check_keys f_Uniform___init__ f_Uniform_empty r_Uniform_empty f_Uniform_single r_Uniform_single f_Uniform_check f_Uniform_merge f_Uniform_view f_greater f_threshold f_keep_chance f_whole_weights f_drop_one f_Optimal___init__ f_Optimal_empty r_Optimal_empty f_Optimal_single r_Optimal_single f_Optimal_merge c_Optimal_merge P_Optimal_merge f_Optimal_adjusted_sum f_Optimal_view f_number_at f_Tape___init__ f_Tape_pick f_Tape_used f__law_mix f__law_numbers f__law_take f__law_low f__law_plus f__law_sum f__law_items f__law_parts f__law_made f__law_merged f_law a_NOTHING_optimal a_NOTHING_ratios : Addr} (X : K.In h) (G : h.Ns mainGlobals mg) (hfa : mg "law" = some (.ref fa))
    {xnmInvalidSize xqInvalidSize : Str} {xNInvalidSize : Addr} {xbsInvalidSize : List Value} {xsnInvalidSize : List Str} {xsubInvalidSize : List Value} {xabInvalidSize : Bool} {xcolInvalidSize : Option Bool} {xddInvalidSize : Option Addr} {xk0InvalidSize xk1InvalidSize xk2InvalidSize xk3InvalidSize xk5InvalidSize : Option Value}
    {xnmSharedKey xqSharedKey : Str} {xNSharedKey : Addr} {xbsSharedKey : List Value} {xsnSharedKey : List Str} {xsubSharedKey : List Value} {xabSharedKey : Bool} {xcolSharedKey : Option Bool} {xddSharedKey : Option Addr} {xk0SharedKey xk1SharedKey xk2SharedKey xk3SharedKey xk5SharedKey : Option Value}
    {odInvalidSize___init__ anInvalidSize___init__ : Option Addr} {slInvalidSize___init__ : Array (Option Value)} {ocInvalidSize___init__ kVInvalidSize___init__ dcInvalidSize___init__ pmInvalidSize___init__ cdInvalidSize___init__ ctInvalidSize___init__ : Value}
    {odSharedKey___init__ anSharedKey___init__ : Option Addr} {slSharedKey___init__ : Array (Option Value)} {ocSharedKey___init__ kVSharedKey___init__ dcSharedKey___init__ pmSharedKey___init__ cdSharedKey___init__ ctSharedKey___init__ : Value}
    {odlowest anlowest : Option Addr} {sllowest : Array (Option Value)} {oclowest kVlowest dclowest pmlowest cdlowest ctlowest : Value}
    {odplus anplus : Option Addr} {slplus : Array (Option Value)} {ocplus kVplus dcplus pmplus cdplus ctplus : Value}
    {odminus anminus : Option Addr} {slminus : Array (Option Value)} {ocminus kVminus dcminus pmminus cdminus ctminus : Value}
    {odover anover : Option Addr} {slover : Array (Option Value)} {ocover kVover dcover pmover cdover ctover : Value}
    {odless anless : Option Addr} {slless : Array (Option Value)} {ocless kVless dcless pmless cdless ctless : Value}
    {odsum_of ansum_of : Option Addr} {slsum_of : Array (Option Value)} {ocsum_of kVsum_of dcsum_of pmsum_of cdsum_of ctsum_of : Value}
    {odcheck_size ancheck_size : Option Addr} {slcheck_size : Array (Option Value)} {occheck_size kVcheck_size dccheck_size pmcheck_size cdcheck_size ctcheck_size : Value}
    {odcheck_keys ancheck_keys : Option Addr} {slcheck_keys : Array (Option Value)} {occheck_keys kVcheck_keys dccheck_keys pmcheck_keys cdcheck_keys ctcheck_keys : Value}
    {odUniform___init__ anUniform___init__ : Option Addr} {slUniform___init__ : Array (Option Value)} {ocUniform___init__ kVUniform___init__ dcUniform___init__ pmUniform___init__ cdUniform___init__ ctUniform___init__ : Value}
    {rsUniform_empty : List Value}
    {odUniform_empty anUniform_empty : Option Addr} {slUniform_empty : Array (Option Value)} {ocUniform_empty kVUniform_empty dcUniform_empty pmUniform_empty cdUniform_empty ctUniform_empty : Value}
    {rsUniform_single : List Value}
    {odUniform_single anUniform_single : Option Addr} {slUniform_single : Array (Option Value)} {ocUniform_single kVUniform_single dcUniform_single pmUniform_single cdUniform_single ctUniform_single : Value}
    {odUniform_check anUniform_check : Option Addr} {slUniform_check : Array (Option Value)} {ocUniform_check kVUniform_check dcUniform_check pmUniform_check cdUniform_check ctUniform_check : Value}
    {odUniform_merge anUniform_merge : Option Addr} {slUniform_merge : Array (Option Value)} {ocUniform_merge kVUniform_merge dcUniform_merge pmUniform_merge cdUniform_merge ctUniform_merge : Value}
    {odUniform_view anUniform_view : Option Addr} {slUniform_view : Array (Option Value)} {ocUniform_view kVUniform_view dcUniform_view pmUniform_view cdUniform_view ctUniform_view : Value}
    {odgreater angreater : Option Addr} {slgreater : Array (Option Value)} {ocgreater kVgreater dcgreater pmgreater cdgreater ctgreater : Value}
    {odthreshold anthreshold : Option Addr} {slthreshold : Array (Option Value)} {octhreshold kVthreshold dcthreshold pmthreshold cdthreshold ctthreshold : Value}
    {odkeep_chance ankeep_chance : Option Addr} {slkeep_chance : Array (Option Value)} {ockeep_chance kVkeep_chance dckeep_chance pmkeep_chance cdkeep_chance ctkeep_chance : Value}
    {odwhole_weights anwhole_weights : Option Addr} {slwhole_weights : Array (Option Value)} {ocwhole_weights kVwhole_weights dcwhole_weights pmwhole_weights cdwhole_weights ctwhole_weights : Value}
    {oddrop_one androp_one : Option Addr} {sldrop_one : Array (Option Value)} {ocdrop_one kVdrop_one dcdrop_one pmdrop_one cddrop_one ctdrop_one : Value}
    {odOptimal___init__ anOptimal___init__ : Option Addr} {slOptimal___init__ : Array (Option Value)} {ocOptimal___init__ kVOptimal___init__ dcOptimal___init__ pmOptimal___init__ cdOptimal___init__ ctOptimal___init__ : Value}
    {rsOptimal_empty : List Value}
    {odOptimal_empty anOptimal_empty : Option Addr} {slOptimal_empty : Array (Option Value)} {ocOptimal_empty kVOptimal_empty dcOptimal_empty pmOptimal_empty cdOptimal_empty ctOptimal_empty : Value}
    {rsOptimal_single : List Value}
    {odOptimal_single anOptimal_single : Option Addr} {slOptimal_single : Array (Option Value)} {ocOptimal_single kVOptimal_single dcOptimal_single pmOptimal_single cdOptimal_single ctOptimal_single : Value}
    {odOptimal_merge anOptimal_merge : Option Addr} {slOptimal_merge : Array (Option Value)} {ocOptimal_merge kVOptimal_merge dcOptimal_merge pmOptimal_merge ctOptimal_merge : Value}
    {oeOptimal_merge : Value} {oqOptimal_merge : Option Addr} {vsOptimal_merge : Array Value} {osOptimal_merge : Array (Option Value)}
    {odOptimal_adjusted_sum anOptimal_adjusted_sum : Option Addr} {slOptimal_adjusted_sum : Array (Option Value)} {ocOptimal_adjusted_sum kVOptimal_adjusted_sum dcOptimal_adjusted_sum pmOptimal_adjusted_sum cdOptimal_adjusted_sum ctOptimal_adjusted_sum : Value}
    {odOptimal_view anOptimal_view : Option Addr} {slOptimal_view : Array (Option Value)} {ocOptimal_view kVOptimal_view dcOptimal_view pmOptimal_view cdOptimal_view ctOptimal_view : Value}
    {odnumber_at annumber_at : Option Addr} {slnumber_at : Array (Option Value)} {ocnumber_at kVnumber_at dcnumber_at pmnumber_at cdnumber_at ctnumber_at : Value}
    {odTape___init__ anTape___init__ : Option Addr} {slTape___init__ : Array (Option Value)} {ocTape___init__ kVTape___init__ dcTape___init__ pmTape___init__ cdTape___init__ ctTape___init__ : Value}
    {odTape_pick anTape_pick : Option Addr} {slTape_pick : Array (Option Value)} {ocTape_pick kVTape_pick dcTape_pick pmTape_pick cdTape_pick ctTape_pick : Value}
    {odTape_used anTape_used : Option Addr} {slTape_used : Array (Option Value)} {ocTape_used kVTape_used dcTape_used pmTape_used cdTape_used ctTape_used : Value}
    {od_law_mix an_law_mix : Option Addr} {sl_law_mix : Array (Option Value)} {oc_law_mix kV_law_mix dc_law_mix pm_law_mix cd_law_mix ct_law_mix : Value}
    {od_law_numbers an_law_numbers : Option Addr} {sl_law_numbers : Array (Option Value)} {oc_law_numbers kV_law_numbers dc_law_numbers pm_law_numbers cd_law_numbers ct_law_numbers : Value}
    {od_law_take an_law_take : Option Addr} {sl_law_take : Array (Option Value)} {oc_law_take kV_law_take dc_law_take pm_law_take cd_law_take ct_law_take : Value}
    {od_law_low an_law_low : Option Addr} {sl_law_low : Array (Option Value)} {oc_law_low kV_law_low dc_law_low pm_law_low cd_law_low ct_law_low : Value}
    {od_law_plus an_law_plus : Option Addr} {sl_law_plus : Array (Option Value)} {oc_law_plus kV_law_plus dc_law_plus pm_law_plus cd_law_plus ct_law_plus : Value}
    {od_law_sum an_law_sum : Option Addr} {sl_law_sum : Array (Option Value)} {oc_law_sum kV_law_sum dc_law_sum pm_law_sum cd_law_sum ct_law_sum : Value}
    {od_law_items an_law_items : Option Addr} {sl_law_items : Array (Option Value)} {oc_law_items kV_law_items dc_law_items pm_law_items cd_law_items ct_law_items : Value}
    {od_law_parts an_law_parts : Option Addr} {sl_law_parts : Array (Option Value)} {oc_law_parts kV_law_parts dc_law_parts pm_law_parts cd_law_parts ct_law_parts : Value}
    {od_law_made an_law_made : Option Addr} {sl_law_made : Array (Option Value)} {oc_law_made kV_law_made dc_law_made pm_law_made cd_law_made ct_law_made : Value}
    {od_law_merged an_law_merged : Option Addr} {sl_law_merged : Array (Option Value)} {oc_law_merged kV_law_merged dc_law_merged pm_law_merged cd_law_merged ct_law_merged : Value}
    {odlaw anlaw : Option Addr} {sllaw : Array (Option Value)} {oclaw kVlaw dclaw pmlaw cdlaw ctlaw : Value}
    {t_MOST_SIZE : Tok}
    {odNOTHING_optimal : Option Addr} {slNOTHING_optimal : Array (Option Value)} {nNOTHING_optimal : Nat} {tNOTHING_optimal0 tNOTHING_optimal1 : Tok}
    {odNOTHING_ratios : Option Addr} {slNOTHING_ratios : Array (Option Value)} {nNOTHING_ratios : Nat} {tNOTHING_ratios0 tNOTHING_ratios1 : Tok}
    (hUniform : PySem.W.nsIn K mainGlobals "Uniform" = some (some (.ref a_Uniform)))
    (pgUniform : PySem.W.plainGet K a_Uniform Str.empty = true)
    (hdUniform : PySem.W.hasDictIn K a_Uniform = true)
    (poUniform : PySem.W.plainOver K a_Uniform = true)
    (saUniform : PySem.W.findIn K (.ref a_Uniform) "__setattr__" = some (some (.builtin "object.__setattr__")))
    (mkUniform : PySem.W.makesIn K a_Uniform = true)
    (kcUniform : PySem.W.keepIn K (.ref a_Uniform) = true)
    (nUniform_size : PySem.W.findIn K (.ref a_Uniform) "size" = some none)
    (nUniform_seen : PySem.W.findIn K (.ref a_Uniform) "seen" = some none)
    (nUniform_kept : PySem.W.findIn K (.ref a_Uniform) "kept" = some none)
    (rdUniform : PySem.W.readsIn K a_Uniform (.type "type") = true)
    (gaUniform : PySem.W.specialIn K (.ref a_Uniform) "__getattribute__" = some (some (.builtin "type.__getattribute__")))
    (hOptimal : PySem.W.nsIn K mainGlobals "Optimal" = some (some (.ref a_Optimal)))
    (pgOptimal : PySem.W.plainGet K a_Optimal Str.empty = true)
    (hdOptimal : PySem.W.hasDictIn K a_Optimal = true)
    (poOptimal : PySem.W.plainOver K a_Optimal = true)
    (saOptimal : PySem.W.findIn K (.ref a_Optimal) "__setattr__" = some (some (.builtin "object.__setattr__")))
    (mkOptimal : PySem.W.makesIn K a_Optimal = true)
    (kcOptimal : PySem.W.keepIn K (.ref a_Optimal) = true)
    (nOptimal_size : PySem.W.findIn K (.ref a_Optimal) "size" = some none)
    (nOptimal_parts : PySem.W.findIn K (.ref a_Optimal) "parts" = some none)
    (nOptimal_kept : PySem.W.findIn K (.ref a_Optimal) "kept" = some none)
    (rdOptimal : PySem.W.readsIn K a_Optimal (.type "type") = true)
    (gaOptimal : PySem.W.specialIn K (.ref a_Optimal) "__getattribute__" = some (some (.builtin "type.__getattribute__")))
    (hTape : PySem.W.nsIn K mainGlobals "Tape" = some (some (.ref a_Tape)))
    (pgTape : PySem.W.plainGet K a_Tape Str.empty = true)
    (hdTape : PySem.W.hasDictIn K a_Tape = true)
    (poTape : PySem.W.plainOver K a_Tape = true)
    (saTape : PySem.W.findIn K (.ref a_Tape) "__setattr__" = some (some (.builtin "object.__setattr__")))
    (mkTape : PySem.W.makesIn K a_Tape = true)
    (kcTape : PySem.W.keepIn K (.ref a_Tape) = true)
    (nTape_numbers : PySem.W.findIn K (.ref a_Tape) "numbers" = some none)
    (nTape_at : PySem.W.findIn K (.ref a_Tape) "at" = some none)
    (jaOptimal : PySem.W.findIn K (.ref a_Optimal) "__class__" = some (some (.builtin "object.__class__")))
    (jnOptimal : PySem.W.specialIn K (.builtin "object.__class__") "__get__" = some (some (.builtin "getset_descriptor.__get__")))
    (jtOptimal : PySem.W.takesIn K (.builtin "object.__class__") = some true)
    (jmOptimal : PySem.W.mroIn K a_Optimal (.type "object") = some true)
    (jaUniform : PySem.W.findIn K (.ref a_Uniform) "__class__" = some (some (.builtin "object.__class__")))
    (jnUniform : PySem.W.specialIn K (.builtin "object.__class__") "__get__" = some (some (.builtin "getset_descriptor.__get__")))
    (jtUniform : PySem.W.takesIn K (.builtin "object.__class__") = some true)
    (jmUniform : PySem.W.mroIn K a_Uniform (.type "object") = some true)
    (tyOptimal : PySem.W.typeIn K (.ref a_Optimal) = some (.type "type"))
    (isOptimalOptimal : PySem.W.subIn K (.ref a_Optimal) (.ref a_Optimal) = some true)
    (isUniformOptimal : PySem.W.subIn K (.ref a_Uniform) (.ref a_Optimal) = some false)
    (ssOptimal : PySem.W.subIn K (.ref a_Optimal) (.ref a_Optimal) = some true)
    (hSamphireError : PySem.W.nsIn K mainGlobals "SamphireError" = some (some (.ref a_SamphireError)))
    (kpSamphireError : PySem.W.keepIn K (.ref a_SamphireError) = true)
    (sbSamphireError : PySem.W.subIn K (.ref a_SamphireError) (.type "BaseException") = some true)
    (tySamphireError : PySem.W.typeIn K (.ref a_SamphireError) = some (.type "type"))
    (hdSamphireError : PySem.W.hasDictIn K a_SamphireError = true)
    (hInvalidSize : PySem.W.nsIn K mainGlobals "InvalidSize" = some (some (.ref a_InvalidSize)))
    (kpInvalidSize : PySem.W.keepIn K (.ref a_InvalidSize) = true)
    (sbInvalidSize : PySem.W.subIn K (.ref a_InvalidSize) (.type "BaseException") = some true)
    (tyInvalidSize : PySem.W.typeIn K (.ref a_InvalidSize) = some (.type "type"))
    (hdInvalidSize : PySem.W.hasDictIn K a_InvalidSize = true)
    (xLInvalidSize : K.lookup a_InvalidSize = some (excClassObj xnmInvalidSize xqInvalidSize a_InvalidSize xNInvalidSize xbsInvalidSize [.ref a_SamphireError, .type "ValueError", .type "Exception", .type "BaseException", .type "object"] true xsnInvalidSize xsubInvalidSize xabInvalidSize xcolInvalidSize xddInvalidSize xk0InvalidSize xk1InvalidSize xk2InvalidSize xk3InvalidSize xk5InvalidSize "ValueError.__new__"))
    (xsInvalidSize : PySem.W.findIn K (.ref a_InvalidSize) "__setattr__" = some (some (.builtin "object.__setattr__")))
    (egInvalidSize : PySem.W.findIn K (.ref a_InvalidSize) "__getattribute__" = some (some (.builtin "BaseException.__getattribute__")))
    (ekInvalidSize : PySem.W.findIn K (.ref a_InvalidSize) "__getattr__" = some none)
    (noInvalidSizesize : PySem.W.findIn K (.ref a_InvalidSize) "size" = some none)
    (hSharedKey : PySem.W.nsIn K mainGlobals "SharedKey" = some (some (.ref a_SharedKey)))
    (kpSharedKey : PySem.W.keepIn K (.ref a_SharedKey) = true)
    (sbSharedKey : PySem.W.subIn K (.ref a_SharedKey) (.type "BaseException") = some true)
    (tySharedKey : PySem.W.typeIn K (.ref a_SharedKey) = some (.type "type"))
    (hdSharedKey : PySem.W.hasDictIn K a_SharedKey = true)
    (xLSharedKey : K.lookup a_SharedKey = some (excClassObj xnmSharedKey xqSharedKey a_SharedKey xNSharedKey xbsSharedKey [.ref a_SamphireError, .type "ValueError", .type "Exception", .type "BaseException", .type "object"] true xsnSharedKey xsubSharedKey xabSharedKey xcolSharedKey xddSharedKey xk0SharedKey xk1SharedKey xk2SharedKey xk3SharedKey xk5SharedKey "ValueError.__new__"))
    (xsSharedKey : PySem.W.findIn K (.ref a_SharedKey) "__setattr__" = some (some (.builtin "object.__setattr__")))
    (egSharedKey : PySem.W.findIn K (.ref a_SharedKey) "__getattribute__" = some (some (.builtin "BaseException.__getattribute__")))
    (ekSharedKey : PySem.W.findIn K (.ref a_SharedKey) "__getattr__" = some none)
    (noSharedKeykey : PySem.W.findIn K (.ref a_SharedKey) "key" = some none)
    (hWrongKind : PySem.W.nsIn K mainGlobals "WrongKind" = some (some (.ref a_WrongKind)))
    (kpWrongKind : PySem.W.keepIn K (.ref a_WrongKind) = true)
    (sbWrongKind : PySem.W.subIn K (.ref a_WrongKind) (.type "BaseException") = some true)
    (tyWrongKind : PySem.W.typeIn K (.ref a_WrongKind) = some (.type "type"))
    (hdWrongKind : PySem.W.hasDictIn K a_WrongKind = true)
    (xWrongKind : PySem.W.excIn K a_WrongKind [.type "ValueError", .type "Exception", .type "BaseException", .type "object"] "ValueError.__new__" = true)
    (egWrongKind : PySem.W.findIn K (.ref a_WrongKind) "__getattribute__" = some (some (.builtin "BaseException.__getattribute__")))
    (ekWrongKind : PySem.W.findIn K (.ref a_WrongKind) "__getattr__" = some none)
    (eaWrongKind : PySem.W.findIn K (.ref a_WrongKind) "__class__" = some (some (.builtin "object.__class__")))
    (enWrongKind : PySem.W.specialIn K (.builtin "object.__class__") "__get__" = some (some (.builtin "getset_descriptor.__get__")))
    (etWrongKind : PySem.W.takesIn K (.builtin "object.__class__") = some true)
    (emWrongKind : PySem.W.mroIn K a_WrongKind (.type "object") = some true)
    (hZeroDenominator : PySem.W.nsIn K mainGlobals "ZeroDenominator" = some (some (.ref a_ZeroDenominator)))
    (kpZeroDenominator : PySem.W.keepIn K (.ref a_ZeroDenominator) = true)
    (sbZeroDenominator : PySem.W.subIn K (.ref a_ZeroDenominator) (.type "BaseException") = some true)
    (tyZeroDenominator : PySem.W.typeIn K (.ref a_ZeroDenominator) = some (.type "type"))
    (hdZeroDenominator : PySem.W.hasDictIn K a_ZeroDenominator = true)
    (xZeroDenominator : PySem.W.excIn K a_ZeroDenominator [.type "ValueError", .type "Exception", .type "BaseException", .type "object"] "ValueError.__new__" = true)
    (ofWrongKindSharedKey : PySem.W.subIn K (.ref a_WrongKind) (.ref a_SharedKey) = some false)
    (ssSharedKey : PySem.W.subIn K (.ref a_SharedKey) (.ref a_SharedKey) = some true)
    (xmWrongKindWrongKind : PySem.W.subIn K (.ref a_WrongKind) (.ref a_WrongKind) = some true)
    (xmSharedKeyWrongKind : PySem.W.subIn K (.ref a_SharedKey) (.ref a_WrongKind) = some false)
    (xmSharedKeySharedKey : PySem.W.subIn K (.ref a_SharedKey) (.ref a_SharedKey) = some true)
    (xmInvalidSizeInvalidSize : PySem.W.subIn K (.ref a_InvalidSize) (.ref a_InvalidSize) = some true)
    (aInvalidSize___init__ : PySem.W.findIn K (.ref a_InvalidSize) "__init__" = some (some (.ref f_InvalidSize___init__)))
    (tcInvalidSize : PySem.W.typeIn K (.ref f_InvalidSize___init__) = some (.type "function"))
    (lInvalidSize___init__ : K.lookup f_InvalidSize___init__ = some ⟨ocInvalidSize___init__, odInvalidSize___init__, .func (PySem.W.fnOf "__init__" "InvalidSize.__init__" (defArgs s_InvalidSize___init__) (defBody s_InvalidSize___init__) (defScope s_InvalidSize___init__) .none kVInvalidSize___init__ dcInvalidSize___init__ pmInvalidSize___init__ anInvalidSize___init__ cdInvalidSize___init__ ctInvalidSize___init__), slInvalidSize___init__⟩)
    (cInvalidSize___init__ : PySem.W.codeIn K cdInvalidSize___init__ "InvalidSize.__init__" = true)
    (kInvalidSize___init__ : PySem.W.keepIn K (.ref f_InvalidSize___init__) = true)
    (aSharedKey___init__ : PySem.W.findIn K (.ref a_SharedKey) "__init__" = some (some (.ref f_SharedKey___init__)))
    (tcSharedKey : PySem.W.typeIn K (.ref f_SharedKey___init__) = some (.type "function"))
    (lSharedKey___init__ : K.lookup f_SharedKey___init__ = some ⟨ocSharedKey___init__, odSharedKey___init__, .func (PySem.W.fnOf "__init__" "SharedKey.__init__" (defArgs s_SharedKey___init__) (defBody s_SharedKey___init__) (defScope s_SharedKey___init__) .none kVSharedKey___init__ dcSharedKey___init__ pmSharedKey___init__ anSharedKey___init__ cdSharedKey___init__ ctSharedKey___init__), slSharedKey___init__⟩)
    (cSharedKey___init__ : PySem.W.codeIn K cdSharedKey___init__ "SharedKey.__init__" = true)
    (kSharedKey___init__ : PySem.W.keepIn K (.ref f_SharedKey___init__) = true)
    (alowest : PySem.W.nsIn K mainGlobals "lowest" = some (some (.ref f_lowest)))
    (llowest : K.lookup f_lowest = some ⟨oclowest, odlowest, .func (PySem.W.fnOf "lowest" "lowest" (defArgs s_lowest) (defBody s_lowest) (defScope s_lowest) .none kVlowest dclowest pmlowest anlowest cdlowest ctlowest), sllowest⟩)
    (clowest : PySem.W.codeIn K cdlowest "lowest" = true)
    (klowest : PySem.W.keepIn K (.ref f_lowest) = true)
    (aplus : PySem.W.nsIn K mainGlobals "plus" = some (some (.ref f_plus)))
    (lplus : K.lookup f_plus = some ⟨ocplus, odplus, .func (PySem.W.fnOf "plus" "plus" (defArgs s_plus) (defBody s_plus) (defScope s_plus) .none kVplus dcplus pmplus anplus cdplus ctplus), slplus⟩)
    (cplus : PySem.W.codeIn K cdplus "plus" = true)
    (kplus : PySem.W.keepIn K (.ref f_plus) = true)
    (aminus : PySem.W.nsIn K mainGlobals "minus" = some (some (.ref f_minus)))
    (lminus : K.lookup f_minus = some ⟨ocminus, odminus, .func (PySem.W.fnOf "minus" "minus" (defArgs s_minus) (defBody s_minus) (defScope s_minus) .none kVminus dcminus pmminus anminus cdminus ctminus), slminus⟩)
    (cminus : PySem.W.codeIn K cdminus "minus" = true)
    (kminus : PySem.W.keepIn K (.ref f_minus) = true)
    (aover : PySem.W.nsIn K mainGlobals "over" = some (some (.ref f_over)))
    (lover : K.lookup f_over = some ⟨ocover, odover, .func (PySem.W.fnOf "over" "over" (defArgs s_over) (defBody s_over) (defScope s_over) .none kVover dcover pmover anover cdover ctover), slover⟩)
    (cover : PySem.W.codeIn K cdover "over" = true)
    (kover : PySem.W.keepIn K (.ref f_over) = true)
    (aless : PySem.W.nsIn K mainGlobals "less" = some (some (.ref f_less)))
    (lless : K.lookup f_less = some ⟨ocless, odless, .func (PySem.W.fnOf "less" "less" (defArgs s_less) (defBody s_less) (defScope s_less) .none kVless dcless pmless anless cdless ctless), slless⟩)
    (cless : PySem.W.codeIn K cdless "less" = true)
    (kless : PySem.W.keepIn K (.ref f_less) = true)
    (asum_of : PySem.W.nsIn K mainGlobals "sum_of" = some (some (.ref f_sum_of)))
    (lsum_of : K.lookup f_sum_of = some ⟨ocsum_of, odsum_of, .func (PySem.W.fnOf "sum_of" "sum_of" (defArgs s_sum_of) (defBody s_sum_of) (defScope s_sum_of) .none kVsum_of dcsum_of pmsum_of ansum_of cdsum_of ctsum_of), slsum_of⟩)
    (csum_of : PySem.W.codeIn K cdsum_of "sum_of" = true)
    (ksum_of : PySem.W.keepIn K (.ref f_sum_of) = true)
    (acheck_size : PySem.W.nsIn K mainGlobals "check_size" = some (some (.ref f_check_size)))
    (lcheck_size : K.lookup f_check_size = some ⟨occheck_size, odcheck_size, .func (PySem.W.fnOf "check_size" "check_size" (defArgs s_check_size) (defBody s_check_size) (defScope s_check_size) .none kVcheck_size dccheck_size pmcheck_size ancheck_size cdcheck_size ctcheck_size), slcheck_size⟩)
    (ccheck_size : PySem.W.codeIn K cdcheck_size "check_size" = true)
    (kcheck_size : PySem.W.keepIn K (.ref f_check_size) = true)
    (acheck_keys : PySem.W.nsIn K mainGlobals "check_keys" = some (some (.ref f_check_keys)))
    (lcheck_keys : K.lookup f_check_keys = some ⟨occheck_keys, odcheck_keys, .func (PySem.W.fnOf "check_keys" "check_keys" (defArgs s_check_keys) (defBody s_check_keys) (defScope s_check_keys) .none kVcheck_keys dccheck_keys pmcheck_keys ancheck_keys cdcheck_keys ctcheck_keys), slcheck_keys⟩)
    (ccheck_keys : PySem.W.codeIn K cdcheck_keys "check_keys" = true)
    (kcheck_keys : PySem.W.keepIn K (.ref f_check_keys) = true)
    (aUniform___init__ : PySem.W.findIn K (.ref a_Uniform) "__init__" = some (some (.ref f_Uniform___init__)))
    (iUniform___init__ : PySem.W.isFn K (.ref f_Uniform___init__) = true)
    (lUniform___init__ : K.lookup f_Uniform___init__ = some ⟨ocUniform___init__, odUniform___init__, .func (PySem.W.fnOf "__init__" "Uniform.__init__" (defArgs s_Uniform___init__) (defBody s_Uniform___init__) (defScope s_Uniform___init__) .none kVUniform___init__ dcUniform___init__ pmUniform___init__ anUniform___init__ cdUniform___init__ ctUniform___init__), slUniform___init__⟩)
    (cUniform___init__ : PySem.W.codeIn K cdUniform___init__ "Uniform.__init__" = true)
    (kUniform___init__ : PySem.W.keepIn K (.ref f_Uniform___init__) = true)
    (aUniform_empty : PySem.W.findCls K (.ref a_Uniform) (.type "type") "empty" = some (.get (.builtin "classmethod.__get__") (.ref r_Uniform_empty) .none (.ref a_Uniform)))
    (rcUniform_empty : PySem.W.recIn K r_Uniform_empty "classmethod" = some (.ref f_Uniform_empty :: rsUniform_empty))
    (iUniform_empty : PySem.W.fnIn K f_Uniform_empty = true)
    (lUniform_empty : K.lookup f_Uniform_empty = some ⟨ocUniform_empty, odUniform_empty, .func (PySem.W.fnOf "empty" "Uniform.empty" (defArgs s_Uniform_empty) (defBody s_Uniform_empty) (defScope s_Uniform_empty) .none kVUniform_empty dcUniform_empty pmUniform_empty anUniform_empty cdUniform_empty ctUniform_empty), slUniform_empty⟩)
    (cUniform_empty : PySem.W.codeIn K cdUniform_empty "Uniform.empty" = true)
    (kUniform_empty : PySem.W.keepIn K (.ref f_Uniform_empty) = true)
    (aUniform_single : PySem.W.findCls K (.ref a_Uniform) (.type "type") "single" = some (.get (.builtin "classmethod.__get__") (.ref r_Uniform_single) .none (.ref a_Uniform)))
    (rcUniform_single : PySem.W.recIn K r_Uniform_single "classmethod" = some (.ref f_Uniform_single :: rsUniform_single))
    (iUniform_single : PySem.W.fnIn K f_Uniform_single = true)
    (lUniform_single : K.lookup f_Uniform_single = some ⟨ocUniform_single, odUniform_single, .func (PySem.W.fnOf "single" "Uniform.single" (defArgs s_Uniform_single) (defBody s_Uniform_single) (defScope s_Uniform_single) .none kVUniform_single dcUniform_single pmUniform_single anUniform_single cdUniform_single ctUniform_single), slUniform_single⟩)
    (cUniform_single : PySem.W.codeIn K cdUniform_single "Uniform.single" = true)
    (kUniform_single : PySem.W.keepIn K (.ref f_Uniform_single) = true)
    (aUniform_check : PySem.W.findIn K (.ref a_Uniform) "check" = some (some (.ref f_Uniform_check)))
    (iUniform_check : PySem.W.isFn K (.ref f_Uniform_check) = true)
    (lUniform_check : K.lookup f_Uniform_check = some ⟨ocUniform_check, odUniform_check, .func (PySem.W.fnOf "check" "Uniform.check" (defArgs s_Uniform_check) (defBody s_Uniform_check) (defScope s_Uniform_check) .none kVUniform_check dcUniform_check pmUniform_check anUniform_check cdUniform_check ctUniform_check), slUniform_check⟩)
    (cUniform_check : PySem.W.codeIn K cdUniform_check "Uniform.check" = true)
    (kUniform_check : PySem.W.keepIn K (.ref f_Uniform_check) = true)
    (aUniform_merge : PySem.W.findIn K (.ref a_Uniform) "merge" = some (some (.ref f_Uniform_merge)))
    (iUniform_merge : PySem.W.isFn K (.ref f_Uniform_merge) = true)
    (lUniform_merge : K.lookup f_Uniform_merge = some ⟨ocUniform_merge, odUniform_merge, .func (PySem.W.fnOf "merge" "Uniform.merge" (defArgs s_Uniform_merge) (defBody s_Uniform_merge) (defScope s_Uniform_merge) .none kVUniform_merge dcUniform_merge pmUniform_merge anUniform_merge cdUniform_merge ctUniform_merge), slUniform_merge⟩)
    (cUniform_merge : PySem.W.codeIn K cdUniform_merge "Uniform.merge" = true)
    (kUniform_merge : PySem.W.keepIn K (.ref f_Uniform_merge) = true)
    (aUniform_view : PySem.W.findIn K (.ref a_Uniform) "view" = some (some (.ref f_Uniform_view)))
    (iUniform_view : PySem.W.isFn K (.ref f_Uniform_view) = true)
    (lUniform_view : K.lookup f_Uniform_view = some ⟨ocUniform_view, odUniform_view, .func (PySem.W.fnOf "view" "Uniform.view" (defArgs s_Uniform_view) (defBody s_Uniform_view) (defScope s_Uniform_view) .none kVUniform_view dcUniform_view pmUniform_view anUniform_view cdUniform_view ctUniform_view), slUniform_view⟩)
    (cUniform_view : PySem.W.codeIn K cdUniform_view "Uniform.view" = true)
    (kUniform_view : PySem.W.keepIn K (.ref f_Uniform_view) = true)
    (agreater : PySem.W.nsIn K mainGlobals "greater" = some (some (.ref f_greater)))
    (lgreater : K.lookup f_greater = some ⟨ocgreater, odgreater, .func (PySem.W.fnOf "greater" "greater" (defArgs s_greater) (defBody s_greater) (defScope s_greater) .none kVgreater dcgreater pmgreater angreater cdgreater ctgreater), slgreater⟩)
    (cgreater : PySem.W.codeIn K cdgreater "greater" = true)
    (kgreater : PySem.W.keepIn K (.ref f_greater) = true)
    (athreshold : PySem.W.nsIn K mainGlobals "threshold" = some (some (.ref f_threshold)))
    (lthreshold : K.lookup f_threshold = some ⟨octhreshold, odthreshold, .func (PySem.W.fnOf "threshold" "threshold" (defArgs s_threshold) (defBody s_threshold) (defScope s_threshold) .none kVthreshold dcthreshold pmthreshold anthreshold cdthreshold ctthreshold), slthreshold⟩)
    (cthreshold : PySem.W.codeIn K cdthreshold "threshold" = true)
    (kthreshold : PySem.W.keepIn K (.ref f_threshold) = true)
    (akeep_chance : PySem.W.nsIn K mainGlobals "keep_chance" = some (some (.ref f_keep_chance)))
    (lkeep_chance : K.lookup f_keep_chance = some ⟨ockeep_chance, odkeep_chance, .func (PySem.W.fnOf "keep_chance" "keep_chance" (defArgs s_keep_chance) (defBody s_keep_chance) (defScope s_keep_chance) .none kVkeep_chance dckeep_chance pmkeep_chance ankeep_chance cdkeep_chance ctkeep_chance), slkeep_chance⟩)
    (ckeep_chance : PySem.W.codeIn K cdkeep_chance "keep_chance" = true)
    (kkeep_chance : PySem.W.keepIn K (.ref f_keep_chance) = true)
    (awhole_weights : PySem.W.nsIn K mainGlobals "whole_weights" = some (some (.ref f_whole_weights)))
    (lwhole_weights : K.lookup f_whole_weights = some ⟨ocwhole_weights, odwhole_weights, .func (PySem.W.fnOf "whole_weights" "whole_weights" (defArgs s_whole_weights) (defBody s_whole_weights) (defScope s_whole_weights) .none kVwhole_weights dcwhole_weights pmwhole_weights anwhole_weights cdwhole_weights ctwhole_weights), slwhole_weights⟩)
    (cwhole_weights : PySem.W.codeIn K cdwhole_weights "whole_weights" = true)
    (kwhole_weights : PySem.W.keepIn K (.ref f_whole_weights) = true)
    (adrop_one : PySem.W.nsIn K mainGlobals "drop_one" = some (some (.ref f_drop_one)))
    (ldrop_one : K.lookup f_drop_one = some ⟨ocdrop_one, oddrop_one, .func (PySem.W.fnOf "drop_one" "drop_one" (defArgs s_drop_one) (defBody s_drop_one) (defScope s_drop_one) .none kVdrop_one dcdrop_one pmdrop_one androp_one cddrop_one ctdrop_one), sldrop_one⟩)
    (cdrop_one : PySem.W.codeIn K cddrop_one "drop_one" = true)
    (kdrop_one : PySem.W.keepIn K (.ref f_drop_one) = true)
    (aOptimal___init__ : PySem.W.findIn K (.ref a_Optimal) "__init__" = some (some (.ref f_Optimal___init__)))
    (iOptimal___init__ : PySem.W.isFn K (.ref f_Optimal___init__) = true)
    (lOptimal___init__ : K.lookup f_Optimal___init__ = some ⟨ocOptimal___init__, odOptimal___init__, .func (PySem.W.fnOf "__init__" "Optimal.__init__" (defArgs s_Optimal___init__) (defBody s_Optimal___init__) (defScope s_Optimal___init__) .none kVOptimal___init__ dcOptimal___init__ pmOptimal___init__ anOptimal___init__ cdOptimal___init__ ctOptimal___init__), slOptimal___init__⟩)
    (cOptimal___init__ : PySem.W.codeIn K cdOptimal___init__ "Optimal.__init__" = true)
    (kOptimal___init__ : PySem.W.keepIn K (.ref f_Optimal___init__) = true)
    (aOptimal_empty : PySem.W.findCls K (.ref a_Optimal) (.type "type") "empty" = some (.get (.builtin "classmethod.__get__") (.ref r_Optimal_empty) .none (.ref a_Optimal)))
    (rcOptimal_empty : PySem.W.recIn K r_Optimal_empty "classmethod" = some (.ref f_Optimal_empty :: rsOptimal_empty))
    (iOptimal_empty : PySem.W.fnIn K f_Optimal_empty = true)
    (lOptimal_empty : K.lookup f_Optimal_empty = some ⟨ocOptimal_empty, odOptimal_empty, .func (PySem.W.fnOf "empty" "Optimal.empty" (defArgs s_Optimal_empty) (defBody s_Optimal_empty) (defScope s_Optimal_empty) .none kVOptimal_empty dcOptimal_empty pmOptimal_empty anOptimal_empty cdOptimal_empty ctOptimal_empty), slOptimal_empty⟩)
    (cOptimal_empty : PySem.W.codeIn K cdOptimal_empty "Optimal.empty" = true)
    (kOptimal_empty : PySem.W.keepIn K (.ref f_Optimal_empty) = true)
    (aOptimal_single : PySem.W.findCls K (.ref a_Optimal) (.type "type") "single" = some (.get (.builtin "classmethod.__get__") (.ref r_Optimal_single) .none (.ref a_Optimal)))
    (rcOptimal_single : PySem.W.recIn K r_Optimal_single "classmethod" = some (.ref f_Optimal_single :: rsOptimal_single))
    (iOptimal_single : PySem.W.fnIn K f_Optimal_single = true)
    (lOptimal_single : K.lookup f_Optimal_single = some ⟨ocOptimal_single, odOptimal_single, .func (PySem.W.fnOf "single" "Optimal.single" (defArgs s_Optimal_single) (defBody s_Optimal_single) (defScope s_Optimal_single) .none kVOptimal_single dcOptimal_single pmOptimal_single anOptimal_single cdOptimal_single ctOptimal_single), slOptimal_single⟩)
    (cOptimal_single : PySem.W.codeIn K cdOptimal_single "Optimal.single" = true)
    (kOptimal_single : PySem.W.keepIn K (.ref f_Optimal_single) = true)
    (aOptimal_merge : PySem.W.findIn K (.ref a_Optimal) "merge" = some (some (.ref f_Optimal_merge)))
    (iOptimal_merge : PySem.W.isFn K (.ref f_Optimal_merge) = true)
    (lOptimal_merge : K.lookup f_Optimal_merge = some ⟨ocOptimal_merge, odOptimal_merge, .func (PySem.W.fnOf "merge" "Optimal.merge" (defArgs s_Optimal_merge) (defBody s_Optimal_merge) (defScope s_Optimal_merge) .none kVOptimal_merge dcOptimal_merge pmOptimal_merge anOptimal_merge (.ref c_Optimal_merge) ctOptimal_merge), slOptimal_merge⟩)
    (lcOptimal_merge : K.lookup c_Optimal_merge = some ⟨oeOptimal_merge, oqOptimal_merge, .fields vsOptimal_merge, osOptimal_merge⟩)
    (lpOptimal_merge : vsOptimal_merge[11]? = some (.ref P_Optimal_merge))
    (lhOptimal_merge : PySem.W.codeHdIn K c_Optimal_merge P_Optimal_merge = true)
    (lnOptimal_merge : K.lookup P_Optimal_merge = none)
    (ltOptimal_merge : h.get? P_Optimal_merge = some { cls := .none, data := .fields #[] })
    (cOptimal_merge : PySem.W.codeIn K (.ref c_Optimal_merge) "Optimal.merge" = true)
    (kOptimal_merge : PySem.W.keepIn K (.ref f_Optimal_merge) = true)
    (aOptimal_adjusted_sum : PySem.W.findIn K (.ref a_Optimal) "adjusted_sum" = some (some (.ref f_Optimal_adjusted_sum)))
    (iOptimal_adjusted_sum : PySem.W.isFn K (.ref f_Optimal_adjusted_sum) = true)
    (lOptimal_adjusted_sum : K.lookup f_Optimal_adjusted_sum = some ⟨ocOptimal_adjusted_sum, odOptimal_adjusted_sum, .func (PySem.W.fnOf "adjusted_sum" "Optimal.adjusted_sum" (defArgs s_Optimal_adjusted_sum) (defBody s_Optimal_adjusted_sum) (defScope s_Optimal_adjusted_sum) .none kVOptimal_adjusted_sum dcOptimal_adjusted_sum pmOptimal_adjusted_sum anOptimal_adjusted_sum cdOptimal_adjusted_sum ctOptimal_adjusted_sum), slOptimal_adjusted_sum⟩)
    (cOptimal_adjusted_sum : PySem.W.codeIn K cdOptimal_adjusted_sum "Optimal.adjusted_sum" = true)
    (kOptimal_adjusted_sum : PySem.W.keepIn K (.ref f_Optimal_adjusted_sum) = true)
    (aOptimal_view : PySem.W.findIn K (.ref a_Optimal) "view" = some (some (.ref f_Optimal_view)))
    (iOptimal_view : PySem.W.isFn K (.ref f_Optimal_view) = true)
    (lOptimal_view : K.lookup f_Optimal_view = some ⟨ocOptimal_view, odOptimal_view, .func (PySem.W.fnOf "view" "Optimal.view" (defArgs s_Optimal_view) (defBody s_Optimal_view) (defScope s_Optimal_view) .none kVOptimal_view dcOptimal_view pmOptimal_view anOptimal_view cdOptimal_view ctOptimal_view), slOptimal_view⟩)
    (cOptimal_view : PySem.W.codeIn K cdOptimal_view "Optimal.view" = true)
    (kOptimal_view : PySem.W.keepIn K (.ref f_Optimal_view) = true)
    (anumber_at : PySem.W.nsIn K mainGlobals "number_at" = some (some (.ref f_number_at)))
    (lnumber_at : K.lookup f_number_at = some ⟨ocnumber_at, odnumber_at, .func (PySem.W.fnOf "number_at" "number_at" (defArgs s_number_at) (defBody s_number_at) (defScope s_number_at) .none kVnumber_at dcnumber_at pmnumber_at annumber_at cdnumber_at ctnumber_at), slnumber_at⟩)
    (cnumber_at : PySem.W.codeIn K cdnumber_at "number_at" = true)
    (knumber_at : PySem.W.keepIn K (.ref f_number_at) = true)
    (aTape___init__ : PySem.W.findIn K (.ref a_Tape) "__init__" = some (some (.ref f_Tape___init__)))
    (iTape___init__ : PySem.W.isFn K (.ref f_Tape___init__) = true)
    (lTape___init__ : K.lookup f_Tape___init__ = some ⟨ocTape___init__, odTape___init__, .func (PySem.W.fnOf "__init__" "Tape.__init__" (defArgs s_Tape___init__) (defBody s_Tape___init__) (defScope s_Tape___init__) .none kVTape___init__ dcTape___init__ pmTape___init__ anTape___init__ cdTape___init__ ctTape___init__), slTape___init__⟩)
    (cTape___init__ : PySem.W.codeIn K cdTape___init__ "Tape.__init__" = true)
    (kTape___init__ : PySem.W.keepIn K (.ref f_Tape___init__) = true)
    (aTape_pick : PySem.W.findIn K (.ref a_Tape) "pick" = some (some (.ref f_Tape_pick)))
    (iTape_pick : PySem.W.isFn K (.ref f_Tape_pick) = true)
    (lTape_pick : K.lookup f_Tape_pick = some ⟨ocTape_pick, odTape_pick, .func (PySem.W.fnOf "pick" "Tape.pick" (defArgs s_Tape_pick) (defBody s_Tape_pick) (defScope s_Tape_pick) .none kVTape_pick dcTape_pick pmTape_pick anTape_pick cdTape_pick ctTape_pick), slTape_pick⟩)
    (cTape_pick : PySem.W.codeIn K cdTape_pick "Tape.pick" = true)
    (kTape_pick : PySem.W.keepIn K (.ref f_Tape_pick) = true)
    (aTape_used : PySem.W.findIn K (.ref a_Tape) "used" = some (some (.ref f_Tape_used)))
    (iTape_used : PySem.W.isFn K (.ref f_Tape_used) = true)
    (lTape_used : K.lookup f_Tape_used = some ⟨ocTape_used, odTape_used, .func (PySem.W.fnOf "used" "Tape.used" (defArgs s_Tape_used) (defBody s_Tape_used) (defScope s_Tape_used) .none kVTape_used dcTape_used pmTape_used anTape_used cdTape_used ctTape_used), slTape_used⟩)
    (cTape_used : PySem.W.codeIn K cdTape_used "Tape.used" = true)
    (kTape_used : PySem.W.keepIn K (.ref f_Tape_used) = true)
    (a_law_mix : PySem.W.nsIn K mainGlobals "_law_mix" = some (some (.ref f__law_mix)))
    (l_law_mix : K.lookup f__law_mix = some ⟨oc_law_mix, od_law_mix, .func (PySem.W.fnOf "_law_mix" "_law_mix" (defArgs s__law_mix) (defBody s__law_mix) (defScope s__law_mix) .none kV_law_mix dc_law_mix pm_law_mix an_law_mix cd_law_mix ct_law_mix), sl_law_mix⟩)
    (c_law_mix : PySem.W.codeIn K cd_law_mix "_law_mix" = true)
    (k_law_mix : PySem.W.keepIn K (.ref f__law_mix) = true)
    (a_law_numbers : PySem.W.nsIn K mainGlobals "_law_numbers" = some (some (.ref f__law_numbers)))
    (l_law_numbers : K.lookup f__law_numbers = some ⟨oc_law_numbers, od_law_numbers, .func (PySem.W.fnOf "_law_numbers" "_law_numbers" (defArgs s__law_numbers) (defBody s__law_numbers) (defScope s__law_numbers) .none kV_law_numbers dc_law_numbers pm_law_numbers an_law_numbers cd_law_numbers ct_law_numbers), sl_law_numbers⟩)
    (c_law_numbers : PySem.W.codeIn K cd_law_numbers "_law_numbers" = true)
    (k_law_numbers : PySem.W.keepIn K (.ref f__law_numbers) = true)
    (a_law_take : PySem.W.nsIn K mainGlobals "_law_take" = some (some (.ref f__law_take)))
    (l_law_take : K.lookup f__law_take = some ⟨oc_law_take, od_law_take, .func (PySem.W.fnOf "_law_take" "_law_take" (defArgs s__law_take) (defBody s__law_take) (defScope s__law_take) .none kV_law_take dc_law_take pm_law_take an_law_take cd_law_take ct_law_take), sl_law_take⟩)
    (c_law_take : PySem.W.codeIn K cd_law_take "_law_take" = true)
    (k_law_take : PySem.W.keepIn K (.ref f__law_take) = true)
    (a_law_low : PySem.W.nsIn K mainGlobals "_law_low" = some (some (.ref f__law_low)))
    (l_law_low : K.lookup f__law_low = some ⟨oc_law_low, od_law_low, .func (PySem.W.fnOf "_law_low" "_law_low" (defArgs s__law_low) (defBody s__law_low) (defScope s__law_low) .none kV_law_low dc_law_low pm_law_low an_law_low cd_law_low ct_law_low), sl_law_low⟩)
    (c_law_low : PySem.W.codeIn K cd_law_low "_law_low" = true)
    (k_law_low : PySem.W.keepIn K (.ref f__law_low) = true)
    (a_law_plus : PySem.W.nsIn K mainGlobals "_law_plus" = some (some (.ref f__law_plus)))
    (l_law_plus : K.lookup f__law_plus = some ⟨oc_law_plus, od_law_plus, .func (PySem.W.fnOf "_law_plus" "_law_plus" (defArgs s__law_plus) (defBody s__law_plus) (defScope s__law_plus) .none kV_law_plus dc_law_plus pm_law_plus an_law_plus cd_law_plus ct_law_plus), sl_law_plus⟩)
    (c_law_plus : PySem.W.codeIn K cd_law_plus "_law_plus" = true)
    (k_law_plus : PySem.W.keepIn K (.ref f__law_plus) = true)
    (a_law_sum : PySem.W.nsIn K mainGlobals "_law_sum" = some (some (.ref f__law_sum)))
    (l_law_sum : K.lookup f__law_sum = some ⟨oc_law_sum, od_law_sum, .func (PySem.W.fnOf "_law_sum" "_law_sum" (defArgs s__law_sum) (defBody s__law_sum) (defScope s__law_sum) .none kV_law_sum dc_law_sum pm_law_sum an_law_sum cd_law_sum ct_law_sum), sl_law_sum⟩)
    (c_law_sum : PySem.W.codeIn K cd_law_sum "_law_sum" = true)
    (k_law_sum : PySem.W.keepIn K (.ref f__law_sum) = true)
    (a_law_items : PySem.W.nsIn K mainGlobals "_law_items" = some (some (.ref f__law_items)))
    (l_law_items : K.lookup f__law_items = some ⟨oc_law_items, od_law_items, .func (PySem.W.fnOf "_law_items" "_law_items" (defArgs s__law_items) (defBody s__law_items) (defScope s__law_items) .none kV_law_items dc_law_items pm_law_items an_law_items cd_law_items ct_law_items), sl_law_items⟩)
    (c_law_items : PySem.W.codeIn K cd_law_items "_law_items" = true)
    (k_law_items : PySem.W.keepIn K (.ref f__law_items) = true)
    (a_law_parts : PySem.W.nsIn K mainGlobals "_law_parts" = some (some (.ref f__law_parts)))
    (l_law_parts : K.lookup f__law_parts = some ⟨oc_law_parts, od_law_parts, .func (PySem.W.fnOf "_law_parts" "_law_parts" (defArgs s__law_parts) (defBody s__law_parts) (defScope s__law_parts) .none kV_law_parts dc_law_parts pm_law_parts an_law_parts cd_law_parts ct_law_parts), sl_law_parts⟩)
    (c_law_parts : PySem.W.codeIn K cd_law_parts "_law_parts" = true)
    (k_law_parts : PySem.W.keepIn K (.ref f__law_parts) = true)
    (a_law_made : PySem.W.nsIn K mainGlobals "_law_made" = some (some (.ref f__law_made)))
    (l_law_made : K.lookup f__law_made = some ⟨oc_law_made, od_law_made, .func (PySem.W.fnOf "_law_made" "_law_made" (defArgs s__law_made) (defBody s__law_made) (defScope s__law_made) .none kV_law_made dc_law_made pm_law_made an_law_made cd_law_made ct_law_made), sl_law_made⟩)
    (c_law_made : PySem.W.codeIn K cd_law_made "_law_made" = true)
    (k_law_made : PySem.W.keepIn K (.ref f__law_made) = true)
    (a_law_merged : PySem.W.nsIn K mainGlobals "_law_merged" = some (some (.ref f__law_merged)))
    (l_law_merged : K.lookup f__law_merged = some ⟨oc_law_merged, od_law_merged, .func (PySem.W.fnOf "_law_merged" "_law_merged" (defArgs s__law_merged) (defBody s__law_merged) (defScope s__law_merged) .none kV_law_merged dc_law_merged pm_law_merged an_law_merged cd_law_merged ct_law_merged), sl_law_merged⟩)
    (c_law_merged : PySem.W.codeIn K cd_law_merged "_law_merged" = true)
    (k_law_merged : PySem.W.keepIn K (.ref f__law_merged) = true)
    (alaw : PySem.W.nsIn K mainGlobals "law" = some (some (.ref f_law)))
    (llaw : K.lookup f_law = some ⟨oclaw, odlaw, .func (PySem.W.fnOf "law" "law" (defArgs s_law) (defBody s_law) (defScope s_law) .none kVlaw dclaw pmlaw anlaw cdlaw ctlaw), sllaw⟩)
    (claw : PySem.W.codeIn K cdlaw "law" = true)
    (klaw : PySem.W.keepIn K (.ref f_law) = true)
    (hMOST_SIZE : PySem.W.nsIn K mainGlobals "MOST_SIZE" = some (some (.int (20) t_MOST_SIZE)))
    (hNOTHING_optimal : PySem.W.nsIn K mainGlobals "NOTHING_optimal" = some (some (.ref a_NOTHING_optimal)))
    (lNOTHING_optimal : K.lookup a_NOTHING_optimal = some ⟨.type "tuple", odNOTHING_optimal, .seq (List.toArray [.int (0) tNOTHING_optimal0, .int (1) tNOTHING_optimal1]) nNOTHING_optimal, slNOTHING_optimal⟩)
    (hNOTHING_ratios : PySem.W.nsIn K mainGlobals "NOTHING_ratios" = some (some (.ref a_NOTHING_ratios)))
    (lNOTHING_ratios : K.lookup a_NOTHING_ratios = some ⟨.type "tuple", odNOTHING_ratios, .seq (List.toArray [.int (0) tNOTHING_ratios0, .int (1) tNOTHING_ratios1]) nNOTHING_ratios, slNOTHING_ratios⟩)
    (zabs : PySem.W.nsIn K mainGlobals "abs" = some none)
    (zenumerate : PySem.W.nsIn K mainGlobals "enumerate" = some none)
    (zint : PySem.W.nsIn K mainGlobals "int" = some none)
    (zisinstance : PySem.W.nsIn K mainGlobals "isinstance" = some none)
    (zlen : PySem.W.nsIn K mainGlobals "len" = some none)
    (zlist : PySem.W.nsIn K mainGlobals "list" = some none)
    (zrange : PySem.W.nsIn K mainGlobals "range" = some none)
    (zsorted : PySem.W.nsIn K mainGlobals "sorted" = some none)
    (zsum : PySem.W.nsIn K mainGlobals "sum" = some none)
    (ztuple : PySem.W.nsIn K mainGlobals "tuple" = some none)
    (hgcd : PySem.W.nsIn K mainGlobals "gcd" = some (some (.builtin "math.gcd")))
    : LamX.LawAtS l w K CX0 8 63 "_law_script" mg fa h := by
  have e := hfa.symm.trans (PySem.W.mg_of X G alaw)
  cases e
  refine ⟨PySem.W.fnOf "law" "law" (defArgs s_law) (defBody s_law) (defScope s_law) .none kVlaw dclaw pmlaw anlaw cdlaw ctlaw, [(c_Optimal_merge, P_Optimal_merge)], sp_lawT [(P_Optimal_merge, (("Optimal.merge" : Str) ++ ".<locals>.") ++ "<lambda>")] K, (fun p hp => by
    rcases List.mem_cons.mp hp with rfl | hp
    · exact ltOptimal_merge
    cases hp), (fun p hp => by
    rcases List.mem_cons.mp hp with rfl | hp
    · exact lnOptimal_merge
    cases hp), (fun p hp => by
    rcases List.mem_cons.mp hp with rfl | hp
    · exact PySem.W.codeHd_of_K X lhOptimal_merge
    cases hp), ?_, fun H a ns hl _ hH hS => ⟨(fun p hp => by
    rcases List.mem_cons.mp hp with rfl | hp
    · exact hH (c_Optimal_merge, P_Optimal_merge) List.mem_cons_self
    cases hp), a, ns, rfl, hS, hl, fun _ => rfl⟩, fun base _ _ hTB => ?_⟩
  rotate_left
  · letI : Tbs := ⟨[(P_Optimal_merge, (("Optimal.merge" : Str) ++ ".<locals>.") ++ "<lambda>")], base⟩
    let T : Txt K mg := {
    a_Uniform := a_Uniform
    cl_Uniform := ⟨pgUniform, hdUniform, poUniform, saUniform⟩
    g_Uniform := PySem.W.mg_of X G hUniform
    n_Uniform_size := nUniform_size
    n_Uniform_seen := nUniform_seen
    n_Uniform_kept := nUniform_kept
    cr_Uniform := ⟨rdUniform, gaUniform⟩
    a_Optimal := a_Optimal
    cl_Optimal := ⟨pgOptimal, hdOptimal, poOptimal, saOptimal⟩
    g_Optimal := PySem.W.mg_of X G hOptimal
    n_Optimal_size := nOptimal_size
    n_Optimal_parts := nOptimal_parts
    n_Optimal_kept := nOptimal_kept
    cr_Optimal := ⟨rdOptimal, gaOptimal⟩
    a_Tape := a_Tape
    cl_Tape := ⟨pgTape, hdTape, poTape, saTape⟩
    g_Tape := PySem.W.mg_of X G hTape
    n_Tape_numbers := nTape_numbers
    n_Tape_at := nTape_at
    isi_Optimal := ⟨⟨pgOptimal, hdOptimal, poOptimal, saOptimal⟩, jaOptimal, jnOptimal, jtOptimal, jmOptimal⟩
    isi_Uniform := ⟨⟨pgUniform, hdUniform, poUniform, saUniform⟩, jaUniform, jnUniform, jtUniform, jmUniform⟩
    is_Optimal_Optimal := kit_sub hdOptimal tyOptimal isOptimalOptimal
    is_Uniform_Optimal := kit_subF hdOptimal tyOptimal isUniformOptimal ssOptimal
    a_SamphireError := a_SamphireError
    g_SamphireError := PySem.W.mg_of X G hSamphireError
    kp_SamphireError := kpSamphireError
    sb_SamphireError := sbSamphireError
    ty_SamphireError := tySamphireError
    a_InvalidSize := a_InvalidSize
    g_InvalidSize := PySem.W.mg_of X G hInvalidSize
    kp_InvalidSize := kpInvalidSize
    sb_InvalidSize := sbInvalidSize
    ty_InvalidSize := tyInvalidSize
    ox_InvalidSize := ⟨⟨_, _, _, _, _, _, _, _, _, _, _, _, _, _, _, xLInvalidSize, refs_sub _⟩, xsInvalidSize, sbInvalidSize, tyInvalidSize, kpInvalidSize⟩
    xf_InvalidSize := ⟨egInvalidSize, ekInvalidSize, sbInvalidSize, hdInvalidSize⟩
    no_InvalidSize_size := noInvalidSizesize
    a_SharedKey := a_SharedKey
    g_SharedKey := PySem.W.mg_of X G hSharedKey
    kp_SharedKey := kpSharedKey
    sb_SharedKey := sbSharedKey
    ty_SharedKey := tySharedKey
    ox_SharedKey := ⟨⟨_, _, _, _, _, _, _, _, _, _, _, _, _, _, _, xLSharedKey, refs_sub _⟩, xsSharedKey, sbSharedKey, tySharedKey, kpSharedKey⟩
    xf_SharedKey := ⟨egSharedKey, ekSharedKey, sbSharedKey, hdSharedKey⟩
    no_SharedKey_key := noSharedKeykey
    a_WrongKind := a_WrongKind
    g_WrongKind := PySem.W.mg_of X G hWrongKind
    kp_WrongKind := kpWrongKind
    sb_WrongKind := sbWrongKind
    ty_WrongKind := tyWrongKind
    x_WrongKind := xWrongKind
    ec_WrongKind := ⟨egWrongKind, ekWrongKind, sbWrongKind, hdWrongKind, eaWrongKind, enWrongKind, etWrongKind, emWrongKind⟩
    a_ZeroDenominator := a_ZeroDenominator
    g_ZeroDenominator := PySem.W.mg_of X G hZeroDenominator
    kp_ZeroDenominator := kpZeroDenominator
    sb_ZeroDenominator := sbZeroDenominator
    ty_ZeroDenominator := tyZeroDenominator
    x_ZeroDenominator := xZeroDenominator
    of_WrongKind_SharedKey := kit_subF hdSharedKey tySharedKey ofWrongKindSharedKey ssSharedKey
    xm_WrongKind_WrongKind := PySem.W.exm_ref sbWrongKind hdWrongKind tyWrongKind xmWrongKindWrongKind
    xm_SharedKey_WrongKind := PySem.W.exm_ref sbWrongKind hdWrongKind tyWrongKind xmSharedKeyWrongKind
    xm_SharedKey_SharedKey := PySem.W.exm_ref sbSharedKey hdSharedKey tySharedKey xmSharedKeySharedKey
    xm_InvalidSize_InvalidSize := PySem.W.exm_ref sbInvalidSize hdInvalidSize tyInvalidSize xmInvalidSizeInvalidSize
    ic_InvalidSize := aInvalidSize___init__
    tc_InvalidSize := tcInvalidSize
    f_InvalidSize___init__ := f_InvalidSize___init__
    fd_InvalidSize___init__ := _
    F_InvalidSize___init__ := fun_mk (st := s_InvalidSize___init__) lInvalidSize___init__ cInvalidSize___init__ kInvalidSize___init__
    b_InvalidSize___init__ := (fun_mk (st := s_InvalidSize___init__) lInvalidSize___init__ cInvalidSize___init__ kInvalidSize___init__).binds (ps := ["self", "size"]) fun _ _ _ _ _ _ us hl => match us, hl with | [_, _], _ => rfl
    ic_SharedKey := aSharedKey___init__
    tc_SharedKey := tcSharedKey
    f_SharedKey___init__ := f_SharedKey___init__
    fd_SharedKey___init__ := _
    F_SharedKey___init__ := fun_mk (st := s_SharedKey___init__) lSharedKey___init__ cSharedKey___init__ kSharedKey___init__
    b_SharedKey___init__ := (fun_mk (st := s_SharedKey___init__) lSharedKey___init__ cSharedKey___init__ kSharedKey___init__).binds (ps := ["self", "key"]) fun _ _ _ _ _ _ us hl => match us, hl with | [_, _], _ => rfl
    g_lowest := PySem.W.mg_of X G alowest
    f_lowest := f_lowest
    fd_lowest := _
    F_lowest := fun_mk (st := s_lowest) llowest clowest klowest
    b_lowest := (fun_mk (st := s_lowest) llowest clowest klowest).binds (ps := ["p", "q"]) fun _ _ _ _ _ _ us hl => match us, hl with | [_, _], _ => rfl
    g_plus := PySem.W.mg_of X G aplus
    f_plus := f_plus
    fd_plus := _
    F_plus := fun_mk (st := s_plus) lplus cplus kplus
    b_plus := (fun_mk (st := s_plus) lplus cplus kplus).binds (ps := ["a", "b"]) fun _ _ _ _ _ _ us hl => match us, hl with | [_, _], _ => rfl
    g_minus := PySem.W.mg_of X G aminus
    f_minus := f_minus
    fd_minus := _
    F_minus := fun_mk (st := s_minus) lminus cminus kminus
    b_minus := (fun_mk (st := s_minus) lminus cminus kminus).binds (ps := ["a", "b"]) fun _ _ _ _ _ _ us hl => match us, hl with | [_, _], _ => rfl
    g_over := PySem.W.mg_of X G aover
    f_over := f_over
    fd_over := _
    F_over := fun_mk (st := s_over) lover cover kover
    b_over := (fun_mk (st := s_over) lover cover kover).binds (ps := ["a", "b"]) fun _ _ _ _ _ _ us hl => match us, hl with | [_, _], _ => rfl
    g_less := PySem.W.mg_of X G aless
    f_less := f_less
    fd_less := _
    F_less := fun_mk (st := s_less) lless cless kless
    b_less := (fun_mk (st := s_less) lless cless kless).binds (ps := ["a", "b"]) fun _ _ _ _ _ _ us hl => match us, hl with | [_, _], _ => rfl
    g_sum_of := PySem.W.mg_of X G asum_of
    f_sum_of := f_sum_of
    fd_sum_of := _
    F_sum_of := fun_mk (st := s_sum_of) lsum_of csum_of ksum_of
    b_sum_of := (fun_mk (st := s_sum_of) lsum_of csum_of ksum_of).binds (ps := ["fractions"]) fun _ _ _ _ _ _ us hl => match us, hl with | [_], _ => rfl
    g_check_size := PySem.W.mg_of X G acheck_size
    f_check_size := f_check_size
    fd_check_size := _
    F_check_size := fun_mk (st := s_check_size) lcheck_size ccheck_size kcheck_size
    b_check_size := (fun_mk (st := s_check_size) lcheck_size ccheck_size kcheck_size).binds (ps := ["size"]) fun _ _ _ _ _ _ us hl => match us, hl with | [_], _ => rfl
    g_check_keys := PySem.W.mg_of X G acheck_keys
    f_check_keys := f_check_keys
    fd_check_keys := _
    F_check_keys := fun_mk (st := s_check_keys) lcheck_keys ccheck_keys kcheck_keys
    b_check_keys := (fun_mk (st := s_check_keys) lcheck_keys ccheck_keys kcheck_keys).binds (ps := ["first", "second"]) fun _ _ _ _ _ _ us hl => match us, hl with | [_, _], _ => rfl
    mk_Uniform := ⟨mkUniform, aUniform___init__, iUniform___init__, kcUniform⟩
    f_Uniform___init__ := f_Uniform___init__
    fd_Uniform___init__ := _
    F_Uniform___init__ := fun_mk (st := s_Uniform___init__) lUniform___init__ cUniform___init__ kUniform___init__
    b_Uniform___init__ := (fun_mk (st := s_Uniform___init__) lUniform___init__ cUniform___init__ kUniform___init__).binds (ps := ["self", "size", "seen", "kept"]) fun _ _ _ _ _ _ us hl => match us, hl with | [_, _, _, _], _ => rfl
    r_Uniform_empty := r_Uniform_empty
    cm_Uniform_empty := ⟨aUniform_empty, ⟨_, rcUniform_empty⟩, iUniform_empty⟩
    f_Uniform_empty := f_Uniform_empty
    fd_Uniform_empty := _
    F_Uniform_empty := fun_mk (st := s_Uniform_empty) lUniform_empty cUniform_empty kUniform_empty
    b_Uniform_empty := (fun_mk (st := s_Uniform_empty) lUniform_empty cUniform_empty kUniform_empty).binds (ps := ["cls", "size"]) fun _ _ _ _ _ _ us hl => match us, hl with | [_, _], _ => rfl
    r_Uniform_single := r_Uniform_single
    cm_Uniform_single := ⟨aUniform_single, ⟨_, rcUniform_single⟩, iUniform_single⟩
    f_Uniform_single := f_Uniform_single
    fd_Uniform_single := _
    F_Uniform_single := fun_mk (st := s_Uniform_single) lUniform_single cUniform_single kUniform_single
    b_Uniform_single := (fun_mk (st := s_Uniform_single) lUniform_single cUniform_single kUniform_single).binds (ps := ["cls", "item", "size"]) fun _ _ _ _ _ _ us hl => match us, hl with | [_, _, _], _ => rfl
    M_Uniform_check := ⟨aUniform_check, iUniform_check, kUniform_check⟩
    f_Uniform_check := f_Uniform_check
    fd_Uniform_check := _
    F_Uniform_check := fun_mk (st := s_Uniform_check) lUniform_check cUniform_check kUniform_check
    b_Uniform_check := (fun_mk (st := s_Uniform_check) lUniform_check cUniform_check kUniform_check).binds (ps := ["self", "other"]) fun _ _ _ _ _ _ us hl => match us, hl with | [_, _], _ => rfl
    M_Uniform_merge := ⟨aUniform_merge, iUniform_merge, kUniform_merge⟩
    f_Uniform_merge := f_Uniform_merge
    fd_Uniform_merge := _
    F_Uniform_merge := fun_mk (st := s_Uniform_merge) lUniform_merge cUniform_merge kUniform_merge
    b_Uniform_merge := (fun_mk (st := s_Uniform_merge) lUniform_merge cUniform_merge kUniform_merge).binds (ps := ["self", "other", "dice"]) fun _ _ _ _ _ _ us hl => match us, hl with | [_, _, _], _ => rfl
    M_Uniform_view := ⟨aUniform_view, iUniform_view, kUniform_view⟩
    f_Uniform_view := f_Uniform_view
    fd_Uniform_view := _
    F_Uniform_view := fun_mk (st := s_Uniform_view) lUniform_view cUniform_view kUniform_view
    b_Uniform_view := (fun_mk (st := s_Uniform_view) lUniform_view cUniform_view kUniform_view).binds (ps := ["self"]) fun _ _ _ _ _ _ us hl => match us, hl with | [_], _ => rfl
    g_greater := PySem.W.mg_of X G agreater
    f_greater := f_greater
    fd_greater := _
    F_greater := fun_mk (st := s_greater) lgreater cgreater kgreater
    b_greater := (fun_mk (st := s_greater) lgreater cgreater kgreater).binds (ps := ["one", "other"]) fun _ _ _ _ _ _ us hl => match us, hl with | [_, _], _ => rfl
    g_threshold := PySem.W.mg_of X G athreshold
    f_threshold := f_threshold
    fd_threshold := _
    F_threshold := fun_mk (st := s_threshold) lthreshold cthreshold kthreshold
    b_threshold := (fun_mk (st := s_threshold) lthreshold cthreshold kthreshold).binds (ps := ["weights", "size"]) fun _ _ _ _ _ _ us hl => match us, hl with | [_, _], _ => rfl
    g_keep_chance := PySem.W.mg_of X G akeep_chance
    f_keep_chance := f_keep_chance
    fd_keep_chance := _
    F_keep_chance := fun_mk (st := s_keep_chance) lkeep_chance ckeep_chance kkeep_chance
    b_keep_chance := (fun_mk (st := s_keep_chance) lkeep_chance ckeep_chance kkeep_chance).binds (ps := ["weight", "found"]) fun _ _ _ _ _ _ us hl => match us, hl with | [_, _], _ => rfl
    g_whole_weights := PySem.W.mg_of X G awhole_weights
    f_whole_weights := f_whole_weights
    fd_whole_weights := _
    F_whole_weights := fun_mk (st := s_whole_weights) lwhole_weights cwhole_weights kwhole_weights
    b_whole_weights := (fun_mk (st := s_whole_weights) lwhole_weights cwhole_weights kwhole_weights).binds (ps := ["chances"]) fun _ _ _ _ _ _ us hl => match us, hl with | [_], _ => rfl
    g_drop_one := PySem.W.mg_of X G adrop_one
    f_drop_one := f_drop_one
    fd_drop_one := _
    F_drop_one := fun_mk (st := s_drop_one) ldrop_one cdrop_one kdrop_one
    b_drop_one := (fun_mk (st := s_drop_one) ldrop_one cdrop_one kdrop_one).binds (ps := ["parts", "dice"]) fun _ _ _ _ _ _ us hl => match us, hl with | [_, _], _ => rfl
    mk_Optimal := ⟨mkOptimal, aOptimal___init__, iOptimal___init__, kcOptimal⟩
    f_Optimal___init__ := f_Optimal___init__
    fd_Optimal___init__ := _
    F_Optimal___init__ := fun_mk (st := s_Optimal___init__) lOptimal___init__ cOptimal___init__ kOptimal___init__
    b_Optimal___init__ := (fun_mk (st := s_Optimal___init__) lOptimal___init__ cOptimal___init__ kOptimal___init__).binds (ps := ["self", "size", "parts"]) fun _ _ _ _ _ _ us hl => match us, hl with | [_, _, _], _ => rfl
    r_Optimal_empty := r_Optimal_empty
    cm_Optimal_empty := ⟨aOptimal_empty, ⟨_, rcOptimal_empty⟩, iOptimal_empty⟩
    f_Optimal_empty := f_Optimal_empty
    fd_Optimal_empty := _
    F_Optimal_empty := fun_mk (st := s_Optimal_empty) lOptimal_empty cOptimal_empty kOptimal_empty
    b_Optimal_empty := (fun_mk (st := s_Optimal_empty) lOptimal_empty cOptimal_empty kOptimal_empty).binds (ps := ["cls", "size"]) fun _ _ _ _ _ _ us hl => match us, hl with | [_, _], _ => rfl
    r_Optimal_single := r_Optimal_single
    cm_Optimal_single := ⟨aOptimal_single, ⟨_, rcOptimal_single⟩, iOptimal_single⟩
    f_Optimal_single := f_Optimal_single
    fd_Optimal_single := _
    F_Optimal_single := fun_mk (st := s_Optimal_single) lOptimal_single cOptimal_single kOptimal_single
    b_Optimal_single := (fun_mk (st := s_Optimal_single) lOptimal_single cOptimal_single kOptimal_single).binds (ps := ["cls", "item", "size"]) fun _ _ _ _ _ _ us hl => match us, hl with | [_, _, _], _ => rfl
    M_Optimal_merge := ⟨aOptimal_merge, iOptimal_merge, kOptimal_merge⟩
    P_Optimal_merge := P_Optimal_merge
    c_Optimal_merge := c_Optimal_merge
    tb_Optimal_merge := hTB (c_Optimal_merge, P_Optimal_merge) List.mem_cons_self
    lm_Optimal_merge := List.mem_cons_self
    lu_Optimal_merge := fun p hp e => by
      rcases List.mem_cons.mp hp with rfl | hp
      · first | rfl | exact absurd e id
      cases hp
    hc_Optimal_merge := rfl
    f_Optimal_merge := f_Optimal_merge
    fd_Optimal_merge := _
    F_Optimal_merge := fun_mk (st := s_Optimal_merge) lOptimal_merge cOptimal_merge kOptimal_merge
    b_Optimal_merge := (fun_mk (st := s_Optimal_merge) lOptimal_merge cOptimal_merge kOptimal_merge).binds (ps := ["self", "other", "dice"]) fun _ _ _ _ _ _ us hl => match us, hl with | [_, _, _], _ => rfl
    M_Optimal_adjusted_sum := ⟨aOptimal_adjusted_sum, iOptimal_adjusted_sum, kOptimal_adjusted_sum⟩
    f_Optimal_adjusted_sum := f_Optimal_adjusted_sum
    fd_Optimal_adjusted_sum := _
    F_Optimal_adjusted_sum := fun_mk (st := s_Optimal_adjusted_sum) lOptimal_adjusted_sum cOptimal_adjusted_sum kOptimal_adjusted_sum
    b_Optimal_adjusted_sum := (fun_mk (st := s_Optimal_adjusted_sum) lOptimal_adjusted_sum cOptimal_adjusted_sum kOptimal_adjusted_sum).binds (ps := ["self"]) fun _ _ _ _ _ _ us hl => match us, hl with | [_], _ => rfl
    M_Optimal_view := ⟨aOptimal_view, iOptimal_view, kOptimal_view⟩
    f_Optimal_view := f_Optimal_view
    fd_Optimal_view := _
    F_Optimal_view := fun_mk (st := s_Optimal_view) lOptimal_view cOptimal_view kOptimal_view
    b_Optimal_view := (fun_mk (st := s_Optimal_view) lOptimal_view cOptimal_view kOptimal_view).binds (ps := ["self"]) fun _ _ _ _ _ _ us hl => match us, hl with | [_], _ => rfl
    g_number_at := PySem.W.mg_of X G anumber_at
    f_number_at := f_number_at
    fd_number_at := _
    F_number_at := fun_mk (st := s_number_at) lnumber_at cnumber_at knumber_at
    b_number_at := (fun_mk (st := s_number_at) lnumber_at cnumber_at knumber_at).binds (ps := ["weights", "place"]) fun _ _ _ _ _ _ us hl => match us, hl with | [_, _], _ => rfl
    mk_Tape := ⟨mkTape, aTape___init__, iTape___init__, kcTape⟩
    f_Tape___init__ := f_Tape___init__
    fd_Tape___init__ := _
    F_Tape___init__ := fun_mk (st := s_Tape___init__) lTape___init__ cTape___init__ kTape___init__
    b_Tape___init__ := (fun_mk (st := s_Tape___init__) lTape___init__ cTape___init__ kTape___init__).binds (ps := ["self", "numbers"]) fun _ _ _ _ _ _ us hl => match us, hl with | [_, _], _ => rfl
    M_Tape_pick := ⟨aTape_pick, iTape_pick, kTape_pick⟩
    f_Tape_pick := f_Tape_pick
    fd_Tape_pick := _
    F_Tape_pick := fun_mk (st := s_Tape_pick) lTape_pick cTape_pick kTape_pick
    b_Tape_pick := (fun_mk (st := s_Tape_pick) lTape_pick cTape_pick kTape_pick).binds (ps := ["self", "weights"]) fun _ _ _ _ _ _ us hl => match us, hl with | [_, _], _ => rfl
    M_Tape_used := ⟨aTape_used, iTape_used, kTape_used⟩
    f_Tape_used := f_Tape_used
    fd_Tape_used := _
    F_Tape_used := fun_mk (st := s_Tape_used) lTape_used cTape_used kTape_used
    b_Tape_used := (fun_mk (st := s_Tape_used) lTape_used cTape_used kTape_used).binds (ps := ["self"]) fun _ _ _ _ _ _ us hl => match us, hl with | [_], _ => rfl
    g__law_mix := PySem.W.mg_of X G a_law_mix
    f__law_mix := f__law_mix
    fd__law_mix := _
    F__law_mix := fun_mk (st := s__law_mix) l_law_mix c_law_mix k_law_mix
    b__law_mix := (fun_mk (st := s__law_mix) l_law_mix c_law_mix k_law_mix).binds (ps := ["_law_number", "_law_k"]) fun _ _ _ _ _ _ us hl => match us, hl with | [_, _], _ => rfl
    g__law_numbers := PySem.W.mg_of X G a_law_numbers
    f__law_numbers := f__law_numbers
    fd__law_numbers := _
    F__law_numbers := fun_mk (st := s__law_numbers) l_law_numbers c_law_numbers k_law_numbers
    b__law_numbers := (fun_mk (st := s__law_numbers) l_law_numbers c_law_numbers k_law_numbers).binds (ps := ["_law_script", "_law_count"]) fun _ _ _ _ _ _ us hl => match us, hl with | [_, _], _ => rfl
    g__law_take := PySem.W.mg_of X G a_law_take
    f__law_take := f__law_take
    fd__law_take := _
    F__law_take := fun_mk (st := s__law_take) l_law_take c_law_take k_law_take
    b__law_take := (fun_mk (st := s__law_take) l_law_take c_law_take k_law_take).binds (ps := ["_law_row", "_law_bound"]) fun _ _ _ _ _ _ us hl => match us, hl with | [_, _], _ => rfl
    g__law_low := PySem.W.mg_of X G a_law_low
    f__law_low := f__law_low
    fd__law_low := _
    F__law_low := fun_mk (st := s__law_low) l_law_low c_law_low k_law_low
    b__law_low := (fun_mk (st := s__law_low) l_law_low c_law_low k_law_low).binds (ps := ["_law_p", "_law_q"]) fun _ _ _ _ _ _ us hl => match us, hl with | [_, _], _ => rfl
    g__law_plus := PySem.W.mg_of X G a_law_plus
    f__law_plus := f__law_plus
    fd__law_plus := _
    F__law_plus := fun_mk (st := s__law_plus) l_law_plus c_law_plus k_law_plus
    b__law_plus := (fun_mk (st := s__law_plus) l_law_plus c_law_plus k_law_plus).binds (ps := ["_law_one", "_law_other"]) fun _ _ _ _ _ _ us hl => match us, hl with | [_, _], _ => rfl
    g__law_sum := PySem.W.mg_of X G a_law_sum
    f__law_sum := f__law_sum
    fd__law_sum := _
    F__law_sum := fun_mk (st := s__law_sum) l_law_sum c_law_sum k_law_sum
    b__law_sum := (fun_mk (st := s__law_sum) l_law_sum c_law_sum k_law_sum).binds (ps := ["_law_rows"]) fun _ _ _ _ _ _ us hl => match us, hl with | [_], _ => rfl
    g__law_items := PySem.W.mg_of X G a_law_items
    f__law_items := f__law_items
    fd__law_items := _
    F__law_items := fun_mk (st := s__law_items) l_law_items c_law_items k_law_items
    b__law_items := (fun_mk (st := s__law_items) l_law_items c_law_items k_law_items).binds (ps := ["_law_row", "_law_many"]) fun _ _ _ _ _ _ us hl => match us, hl with | [_, _], _ => rfl
    g__law_parts := PySem.W.mg_of X G a_law_parts
    f__law_parts := f__law_parts
    fd__law_parts := _
    F__law_parts := fun_mk (st := s__law_parts) l_law_parts c_law_parts k_law_parts
    b__law_parts := (fun_mk (st := s__law_parts) l_law_parts c_law_parts k_law_parts).binds (ps := ["_law_row", "_law_things"]) fun _ _ _ _ _ _ us hl => match us, hl with | [_, _], _ => rfl
    g__law_made := PySem.W.mg_of X G a_law_made
    f__law_made := f__law_made
    fd__law_made := _
    F__law_made := fun_mk (st := s__law_made) l_law_made c_law_made k_law_made
    b__law_made := (fun_mk (st := s__law_made) l_law_made c_law_made k_law_made).binds (ps := ["_law_item", "_law_size", "_law_is_single"]) fun _ _ _ _ _ _ us hl => match us, hl with | [_, _, _], _ => rfl
    g__law_merged := PySem.W.mg_of X G a_law_merged
    f__law_merged := f__law_merged
    fd__law_merged := _
    F__law_merged := fun_mk (st := s__law_merged) l_law_merged c_law_merged k_law_merged
    b__law_merged := (fun_mk (st := s__law_merged) l_law_merged c_law_merged k_law_merged).binds (ps := ["_law_one", "_law_other", "_law_tape"]) fun _ _ _ _ _ _ us hl => match us, hl with | [_, _, _], _ => rfl
    g_law := PySem.W.mg_of X G alaw
    f_law := fa
    fd_law := _
    F_law := fun_mk (st := s_law) llaw claw klaw
    b_law := (fun_mk (st := s_law) llaw claw klaw).binds (ps := ["_law_script"]) fun _ _ _ _ _ _ us hl => match us, hl with | [_], _ => rfl
    t_MOST_SIZE := t_MOST_SIZE
    g_MOST_SIZE := PySem.W.mg_of X G hMOST_SIZE
    a_NOTHING_optimal := a_NOTHING_optimal
    g_NOTHING_optimal := PySem.W.mg_of X G hNOTHING_optimal
    v_NOTHING_optimal := fun H => sqT_of_k lNOTHING_optimal (.cons ⟨_, rfl⟩ (.cons ⟨_, rfl⟩ .nil))
    a_NOTHING_ratios := a_NOTHING_ratios
    g_NOTHING_ratios := PySem.W.mg_of X G hNOTHING_ratios
    v_NOTHING_ratios := fun H => sqT_of_k lNOTHING_ratios (.cons ⟨_, rfl⟩ (.cons ⟨_, rfl⟩ .nil))
    z_abs := PySem.W.mg_none_of X G zabs
    z_enumerate := PySem.W.mg_none_of X G zenumerate
    z_int := PySem.W.mg_none_of X G zint
    z_isinstance := PySem.W.mg_none_of X G zisinstance
    z_len := PySem.W.mg_none_of X G zlen
    z_list := PySem.W.mg_none_of X G zlist
    z_range := PySem.W.mg_none_of X G zrange
    z_sorted := PySem.W.mg_none_of X G zsorted
    z_sum := PySem.W.mg_none_of X G zsum
    z_tuple := PySem.W.mg_none_of X G ztuple
    g_gcd := PySem.W.mg_of X G hgcd }
    exact ok_law T
  · exact fun s v => .of_eq rfl
end Sam
open PySem PySem.W PyProof.Rows
set_option maxHeartbeats 0 in
theorem PySem.Challenge.cw_samphire_k30_optimal_samples_as_objects_holds : PySem.Challenge.rw_samphire_k30_optimal_samples_as_objects.Holds := by
  w_on; o_law; k_head; (case hw => w_witness2)
  k_fill
  refine LamX.walk_ofTs (l := PySem.Challenge.rw_samphire_k30_optimal_samples_as_objects) (n := 63) (k := 8) (x := "_law_script") (CX := fun _ => L2.CX0) rfl (by decide) rfl ⟨rfl, by decide, by decide⟩ (fun w h Y => PySem.W.km_in_of Y) ?F (fun _ _ _ _ _ h => h)
  case F =>
    intro w mg fa h Y KX G hmg
    have hT8 := PySem.W.km_tabs_of Y
    haveI : Sam.Tbs := ⟨[], h⟩
    refine' Sam.all_mk KX G hmg ?hUniform ?pgUniform ?hdUniform ?poUniform ?saUniform ?mkUniform ?kcUniform ?nUniform_size ?nUniform_seen ?nUniform_kept ?rdUniform ?gaUniform ?hOptimal ?pgOptimal ?hdOptimal ?poOptimal ?saOptimal ?mkOptimal ?kcOptimal ?nOptimal_size ?nOptimal_parts ?nOptimal_kept ?rdOptimal ?gaOptimal ?hTape ?pgTape ?hdTape ?poTape ?saTape ?mkTape ?kcTape ?nTape_numbers ?nTape_at ?jaOptimal ?jnOptimal ?jtOptimal ?jmOptimal ?jaUniform ?jnUniform ?jtUniform ?jmUniform ?tyOptimal ?isOptimalOptimal ?isUniformOptimal ?ssOptimal ?hSamphireError ?kpSamphireError ?sbSamphireError ?tySamphireError ?hdSamphireError ?hInvalidSize ?kpInvalidSize ?sbInvalidSize ?tyInvalidSize ?hdInvalidSize ?xLInvalidSize ?xsInvalidSize ?egInvalidSize ?ekInvalidSize ?noInvalidSizesize ?hSharedKey ?kpSharedKey ?sbSharedKey ?tySharedKey ?hdSharedKey ?xLSharedKey ?xsSharedKey ?egSharedKey ?ekSharedKey ?noSharedKeykey ?hWrongKind ?kpWrongKind ?sbWrongKind ?tyWrongKind ?hdWrongKind ?xWrongKind ?egWrongKind ?ekWrongKind ?eaWrongKind ?enWrongKind ?etWrongKind ?emWrongKind ?hZeroDenominator ?kpZeroDenominator ?sbZeroDenominator ?tyZeroDenominator ?hdZeroDenominator ?xZeroDenominator ?ofWrongKindSharedKey ?ssSharedKey ?xmWrongKindWrongKind ?xmSharedKeyWrongKind ?xmSharedKeySharedKey ?xmInvalidSizeInvalidSize ?aInvalidSize___init__ ?tcInvalidSize ?lInvalidSize___init__ ?cInvalidSize___init__ ?kInvalidSize___init__ ?aSharedKey___init__ ?tcSharedKey ?lSharedKey___init__ ?cSharedKey___init__ ?kSharedKey___init__ ?alowest ?llowest ?clowest ?klowest ?aplus ?lplus ?cplus ?kplus ?aminus ?lminus ?cminus ?kminus ?aover ?lover ?cover ?kover ?aless ?lless ?cless ?kless ?asum_of ?lsum_of ?csum_of ?ksum_of ?acheck_size ?lcheck_size ?ccheck_size ?kcheck_size ?acheck_keys ?lcheck_keys ?ccheck_keys ?kcheck_keys ?aUniform___init__ ?iUniform___init__ ?lUniform___init__ ?cUniform___init__ ?kUniform___init__ ?aUniform_empty ?rcUniform_empty ?iUniform_empty ?lUniform_empty ?cUniform_empty ?kUniform_empty ?aUniform_single ?rcUniform_single ?iUniform_single ?lUniform_single ?cUniform_single ?kUniform_single ?aUniform_check ?iUniform_check ?lUniform_check ?cUniform_check ?kUniform_check ?aUniform_merge ?iUniform_merge ?lUniform_merge ?cUniform_merge ?kUniform_merge ?aUniform_view ?iUniform_view ?lUniform_view ?cUniform_view ?kUniform_view ?agreater ?lgreater ?cgreater ?kgreater ?athreshold ?lthreshold ?cthreshold ?kthreshold ?akeep_chance ?lkeep_chance ?ckeep_chance ?kkeep_chance ?awhole_weights ?lwhole_weights ?cwhole_weights ?kwhole_weights ?adrop_one ?ldrop_one ?cdrop_one ?kdrop_one ?aOptimal___init__ ?iOptimal___init__ ?lOptimal___init__ ?cOptimal___init__ ?kOptimal___init__ ?aOptimal_empty ?rcOptimal_empty ?iOptimal_empty ?lOptimal_empty ?cOptimal_empty ?kOptimal_empty ?aOptimal_single ?rcOptimal_single ?iOptimal_single ?lOptimal_single ?cOptimal_single ?kOptimal_single ?aOptimal_merge ?iOptimal_merge ?lOptimal_merge ?lcOptimal_merge ?lpOptimal_merge ?lhOptimal_merge ?lnOptimal_merge ?ltOptimal_merge ?cOptimal_merge ?kOptimal_merge ?aOptimal_adjusted_sum ?iOptimal_adjusted_sum ?lOptimal_adjusted_sum ?cOptimal_adjusted_sum ?kOptimal_adjusted_sum ?aOptimal_view ?iOptimal_view ?lOptimal_view ?cOptimal_view ?kOptimal_view ?anumber_at ?lnumber_at ?cnumber_at ?knumber_at ?aTape___init__ ?iTape___init__ ?lTape___init__ ?cTape___init__ ?kTape___init__ ?aTape_pick ?iTape_pick ?lTape_pick ?cTape_pick ?kTape_pick ?aTape_used ?iTape_used ?lTape_used ?cTape_used ?kTape_used ?a_law_mix ?l_law_mix ?c_law_mix ?k_law_mix ?a_law_numbers ?l_law_numbers ?c_law_numbers ?k_law_numbers ?a_law_take ?l_law_take ?c_law_take ?k_law_take ?a_law_low ?l_law_low ?c_law_low ?k_law_low ?a_law_plus ?l_law_plus ?c_law_plus ?k_law_plus ?a_law_sum ?l_law_sum ?c_law_sum ?k_law_sum ?a_law_items ?l_law_items ?c_law_items ?k_law_items ?a_law_parts ?l_law_parts ?c_law_parts ?k_law_parts ?a_law_made ?l_law_made ?c_law_made ?k_law_made ?a_law_merged ?l_law_merged ?c_law_merged ?k_law_merged ?alaw ?llaw ?claw ?klaw ?hMOST_SIZE ?hNOTHING_optimal ?lNOTHING_optimal ?hNOTHING_ratios ?lNOTHING_ratios ?zabs ?zenumerate ?zint ?zisinstance ?zlen ?zlist ?zrange ?zsorted ?zsum ?ztuple ?hgcd
    (case hUniform => k_is)
    (case pgUniform => k_is)
    (case hdUniform => k_is)
    (case poUniform => k_is)
    (case saUniform => k_is)
    (case mkUniform => k_is)
    (case kcUniform => k_is)
    (case nUniform_size => k_is)
    (case nUniform_seen => k_is)
    (case nUniform_kept => k_is)
    (case rdUniform => k_is)
    (case gaUniform => k_is)
    (case hOptimal => k_is)
    (case pgOptimal => k_is)
    (case hdOptimal => k_is)
    (case poOptimal => k_is)
    (case saOptimal => k_is)
    (case mkOptimal => k_is)
    (case kcOptimal => k_is)
    (case nOptimal_size => k_is)
    (case nOptimal_parts => k_is)
    (case nOptimal_kept => k_is)
    (case rdOptimal => k_is)
    (case gaOptimal => k_is)
    (case hTape => k_is)
    (case pgTape => k_is)
    (case hdTape => k_is)
    (case poTape => k_is)
    (case saTape => k_is)
    (case mkTape => k_is)
    (case kcTape => k_is)
    (case nTape_numbers => k_is)
    (case nTape_at => k_is)
    (case jaOptimal => k_is)
    (case jnOptimal => k_is)
    (case jtOptimal => k_is)
    (case jmOptimal => k_is)
    (case jaUniform => k_is)
    (case jnUniform => k_is)
    (case jtUniform => k_is)
    (case jmUniform => k_is)
    (case tyOptimal => k_is)
    (case isOptimalOptimal => k_is)
    (case isUniformOptimal => k_is)
    (case ssOptimal => k_is)
    (case hSamphireError => k_is)
    (case kpSamphireError => k_is)
    (case sbSamphireError => k_is)
    (case tySamphireError => k_is)
    (case hdSamphireError => k_is)
    (case hInvalidSize => k_is)
    (case kpInvalidSize => k_is)
    (case sbInvalidSize => k_is)
    (case tyInvalidSize => k_is)
    (case hdInvalidSize => k_is)
    (case xLInvalidSize => k_is)
    (case xsInvalidSize => k_is)
    (case egInvalidSize => k_is)
    (case ekInvalidSize => k_is)
    (case noInvalidSizesize => k_is)
    (case hSharedKey => k_is)
    (case kpSharedKey => k_is)
    (case sbSharedKey => k_is)
    (case tySharedKey => k_is)
    (case hdSharedKey => k_is)
    (case xLSharedKey => k_is)
    (case xsSharedKey => k_is)
    (case egSharedKey => k_is)
    (case ekSharedKey => k_is)
    (case noSharedKeykey => k_is)
    (case hWrongKind => k_is)
    (case kpWrongKind => k_is)
    (case sbWrongKind => k_is)
    (case tyWrongKind => k_is)
    (case hdWrongKind => k_is)
    (case xWrongKind => k_exc)
    (case egWrongKind => k_is)
    (case ekWrongKind => k_is)
    (case eaWrongKind => k_is)
    (case enWrongKind => k_is)
    (case etWrongKind => k_is)
    (case emWrongKind => k_is)
    (case hZeroDenominator => k_is)
    (case kpZeroDenominator => k_is)
    (case sbZeroDenominator => k_is)
    (case tyZeroDenominator => k_is)
    (case hdZeroDenominator => k_is)
    (case xZeroDenominator => k_exc)
    (case ofWrongKindSharedKey => k_is)
    (case ssSharedKey => k_is)
    (case xmWrongKindWrongKind => first | rfl | k_is)
    (case xmSharedKeyWrongKind => k_is)
    (case xmSharedKeySharedKey => first | rfl | k_is)
    (case xmInvalidSizeInvalidSize => first | rfl | k_is)
    (case aInvalidSize___init__ => k_is)
    (case tcInvalidSize => k_is)
    (case lInvalidSize___init__ => k_is)
    (case cInvalidSize___init__ => k_is)
    (case kInvalidSize___init__ => k_is)
    (case aSharedKey___init__ => k_is)
    (case tcSharedKey => k_is)
    (case lSharedKey___init__ => k_is)
    (case cSharedKey___init__ => k_is)
    (case kSharedKey___init__ => k_is)
    (case alowest => k_is)
    (case llowest => k_is)
    (case clowest => k_is)
    (case klowest => k_is)
    (case aplus => k_is)
    (case lplus => k_is)
    (case cplus => k_is)
    (case kplus => k_is)
    (case aminus => k_is)
    (case lminus => k_is)
    (case cminus => k_is)
    (case kminus => k_is)
    (case aover => k_is)
    (case lover => k_is)
    (case cover => k_is)
    (case kover => k_is)
    (case aless => k_is)
    (case lless => k_is)
    (case cless => k_is)
    (case kless => k_is)
    (case asum_of => k_is)
    (case lsum_of => k_is)
    (case csum_of => k_is)
    (case ksum_of => k_is)
    (case acheck_size => k_is)
    (case lcheck_size => k_is)
    (case ccheck_size => k_is)
    (case kcheck_size => k_is)
    (case acheck_keys => k_is)
    (case lcheck_keys => k_is)
    (case ccheck_keys => k_is)
    (case kcheck_keys => k_is)
    (case aUniform___init__ => k_is)
    (case iUniform___init__ => k_is)
    (case lUniform___init__ => k_is)
    (case cUniform___init__ => k_is)
    (case kUniform___init__ => k_is)
    (case aUniform_empty => k_is)
    (case rcUniform_empty => k_is)
    (case iUniform_empty => k_is)
    (case lUniform_empty => k_is)
    (case cUniform_empty => k_is)
    (case kUniform_empty => k_is)
    (case aUniform_single => k_is)
    (case rcUniform_single => k_is)
    (case iUniform_single => k_is)
    (case lUniform_single => k_is)
    (case cUniform_single => k_is)
    (case kUniform_single => k_is)
    (case aUniform_check => k_is)
    (case iUniform_check => k_is)
    (case lUniform_check => k_is)
    (case cUniform_check => k_is)
    (case kUniform_check => k_is)
    (case aUniform_merge => k_is)
    (case iUniform_merge => k_is)
    (case lUniform_merge => k_is)
    (case cUniform_merge => k_is)
    (case kUniform_merge => k_is)
    (case aUniform_view => k_is)
    (case iUniform_view => k_is)
    (case lUniform_view => k_is)
    (case cUniform_view => k_is)
    (case kUniform_view => k_is)
    (case agreater => k_is)
    (case lgreater => k_is)
    (case cgreater => k_is)
    (case kgreater => k_is)
    (case athreshold => k_is)
    (case lthreshold => k_is)
    (case cthreshold => k_is)
    (case kthreshold => k_is)
    (case akeep_chance => k_is)
    (case lkeep_chance => k_is)
    (case ckeep_chance => k_is)
    (case kkeep_chance => k_is)
    (case awhole_weights => k_is)
    (case lwhole_weights => k_is)
    (case cwhole_weights => k_is)
    (case kwhole_weights => k_is)
    (case adrop_one => k_is)
    (case ldrop_one => k_is)
    (case cdrop_one => k_is)
    (case kdrop_one => k_is)
    (case aOptimal___init__ => k_is)
    (case iOptimal___init__ => k_is)
    (case lOptimal___init__ => k_is)
    (case cOptimal___init__ => k_is)
    (case kOptimal___init__ => k_is)
    (case aOptimal_empty => k_is)
    (case rcOptimal_empty => k_is)
    (case iOptimal_empty => k_is)
    (case lOptimal_empty => k_is)
    (case cOptimal_empty => k_is)
    (case kOptimal_empty => k_is)
    (case aOptimal_single => k_is)
    (case rcOptimal_single => k_is)
    (case iOptimal_single => k_is)
    (case lOptimal_single => k_is)
    (case cOptimal_single => k_is)
    (case kOptimal_single => k_is)
    (case aOptimal_merge => k_is)
    (case iOptimal_merge => k_is)
    (case lOptimal_merge => k_is)
    (case lcOptimal_merge => k_is)
    (case lpOptimal_merge => rfl)
    (case lhOptimal_merge => kernel_rfl)
    (case lnOptimal_merge => kernel_rfl)
    (case ltOptimal_merge => exact hT8 _ (by k_mem))
    (case cOptimal_merge => k_is)
    (case kOptimal_merge => k_is)
    (case aOptimal_adjusted_sum => k_is)
    (case iOptimal_adjusted_sum => k_is)
    (case lOptimal_adjusted_sum => k_is)
    (case cOptimal_adjusted_sum => k_is)
    (case kOptimal_adjusted_sum => k_is)
    (case aOptimal_view => k_is)
    (case iOptimal_view => k_is)
    (case lOptimal_view => k_is)
    (case cOptimal_view => k_is)
    (case kOptimal_view => k_is)
    (case anumber_at => k_is)
    (case lnumber_at => k_is)
    (case cnumber_at => k_is)
    (case knumber_at => k_is)
    (case aTape___init__ => k_is)
    (case iTape___init__ => k_is)
    (case lTape___init__ => k_is)
    (case cTape___init__ => k_is)
    (case kTape___init__ => k_is)
    (case aTape_pick => k_is)
    (case iTape_pick => k_is)
    (case lTape_pick => k_is)
    (case cTape_pick => k_is)
    (case kTape_pick => k_is)
    (case aTape_used => k_is)
    (case iTape_used => k_is)
    (case lTape_used => k_is)
    (case cTape_used => k_is)
    (case kTape_used => k_is)
    (case a_law_mix => k_is)
    (case l_law_mix => k_is)
    (case c_law_mix => k_is)
    (case k_law_mix => k_is)
    (case a_law_numbers => k_is)
    (case l_law_numbers => k_is)
    (case c_law_numbers => k_is)
    (case k_law_numbers => k_is)
    (case a_law_take => k_is)
    (case l_law_take => k_is)
    (case c_law_take => k_is)
    (case k_law_take => k_is)
    (case a_law_low => k_is)
    (case l_law_low => k_is)
    (case c_law_low => k_is)
    (case k_law_low => k_is)
    (case a_law_plus => k_is)
    (case l_law_plus => k_is)
    (case c_law_plus => k_is)
    (case k_law_plus => k_is)
    (case a_law_sum => k_is)
    (case l_law_sum => k_is)
    (case c_law_sum => k_is)
    (case k_law_sum => k_is)
    (case a_law_items => k_is)
    (case l_law_items => k_is)
    (case c_law_items => k_is)
    (case k_law_items => k_is)
    (case a_law_parts => k_is)
    (case l_law_parts => k_is)
    (case c_law_parts => k_is)
    (case k_law_parts => k_is)
    (case a_law_made => k_is)
    (case l_law_made => k_is)
    (case c_law_made => k_is)
    (case k_law_made => k_is)
    (case a_law_merged => k_is)
    (case l_law_merged => k_is)
    (case c_law_merged => k_is)
    (case k_law_merged => k_is)
    (case alaw => k_is)
    (case llaw => k_is)
    (case claw => k_is)
    (case klaw => k_is)
    (case hMOST_SIZE => k_is)
    (case hNOTHING_optimal => k_is)
    (case lNOTHING_optimal => k_is)
    (case hNOTHING_ratios => k_is)
    (case lNOTHING_ratios => k_is)
    (case zabs => k_is)
    (case zenumerate => k_is)
    (case zint => k_is)
    (case zisinstance => k_is)
    (case zlen => k_is)
    (case zlist => k_is)
    (case zrange => k_is)
    (case zsorted => k_is)
    (case zsum => k_is)
    (case ztuple => k_is)
    (case hgcd => k_is)
