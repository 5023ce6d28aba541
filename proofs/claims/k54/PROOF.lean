import PyProof.Rows.All
import Wide.All
import OpenK.AllK
import Wide.FinOn
import HandS.ForMost
import HandS.Walk
import HandS.Wide
import HandS.Gcd
import HandS.IsInst
import HandS.Codes
import HandS.Exc
import HandS.ExcOwn
import HandS.ExcIs
import HandS.TryOnly
import HandS.WordsExc
import HandS.CallLocal
import HandS.More
import HandS.NoneIn
import HandS.SortInts
import HandS.ExcInit
import HandS.ExcField
import HandS.WordsDict
import HandS.Rev
import HandS.Deep
import HandS.Lambda
import HandS.EndTab
import KE.SortKeyHeap
import HandS.SortKw
import HandS.ClsMeth
import HandS.DictComp
import PyProof.Rows.StrMeet
import PyProof.TupleKey
import KE.KDictList
import KE.KDictWalk
import KE.KDictSum
import KE.KTupSum
import HandS.SortRule
import KE.SortData
import KE.DataMinMax
import KE.KDictPairs
import KE.KDictZip
import PySem.Challenge.RW_samphire_k54_whole_places_for_strata
set_option Elab.async false
set_option linter.all false
set_option maxRecDepth 100000
set_option synthInstance.maxSize 100000
set_option synthInstance.maxHeartbeats 4000000
namespace Sam
open PySem PySem.Spec PyProof.Rows L2
open C8 (pss_cut tCut)
def topS (i : Nat) : Stmt := PySem.Challenge.pw_samphire_k54_whole_places_for_strata.main.body.getD i (.Pass ⟨0, 0, 0, 0⟩)
abbrev s_lowest : Stmt := (topS 7)
abbrev nm_lowest : List Str := ["p", "q", "divisor"]
theorem sc_lowest : FnScope ["p", "q", "divisor"] ["p", "q"] (defScope s_lowest) := ⟨rfl, rfl, rfl, by decide +kernel, rfl, by decide +kernel, by decide +kernel⟩
abbrev s_plus : Stmt := (topS 8)
abbrev nm_plus : List Str := ["a", "b"]
theorem sc_plus : FnScope ["a", "b"] ["a", "b"] (defScope s_plus) := ⟨rfl, rfl, rfl, by decide +kernel, rfl, by decide +kernel, by decide +kernel⟩
abbrev s_minus : Stmt := (topS 9)
abbrev nm_minus : List Str := ["a", "b"]
theorem sc_minus : FnScope ["a", "b"] ["a", "b"] (defScope s_minus) := ⟨rfl, rfl, rfl, by decide +kernel, rfl, by decide +kernel, by decide +kernel⟩
abbrev s_times : Stmt := (topS 10)
abbrev nm_times : List Str := ["a", "b"]
theorem sc_times : FnScope ["a", "b"] ["a", "b"] (defScope s_times) := ⟨rfl, rfl, rfl, by decide +kernel, rfl, by decide +kernel, by decide +kernel⟩
abbrev s_over : Stmt := (topS 11)
abbrev nm_over : List Str := ["a", "b"]
theorem sc_over : FnScope ["a", "b"] ["a", "b"] (defScope s_over) := ⟨rfl, rfl, rfl, by decide +kernel, rfl, by decide +kernel, by decide +kernel⟩
abbrev s_less : Stmt := (topS 12)
abbrev nm_less : List Str := ["a", "b"]
theorem sc_less : FnScope ["a", "b"] ["a", "b"] (defScope s_less) := ⟨rfl, rfl, rfl, by decide +kernel, rfl, by decide +kernel, by decide +kernel⟩
abbrev s_sum_of : Stmt := (topS 13)
abbrev nm_sum_of : List Str := ["fractions", "total", "fraction"]
theorem sc_sum_of : FnScope ["fractions", "total", "fraction"] ["fractions"] (defScope s_sum_of) := ⟨rfl, rfl, rfl, by decide +kernel, rfl, by decide +kernel, by decide +kernel⟩
abbrev s_is_deal : Stmt := (topS 15)
abbrev nm_is_deal : List Str := ["limits", "places", "numbers", "number", "limit"]
theorem sc_is_deal : FnScope ["limits", "places", "numbers", "number", "limit"] ["limits", "places", "numbers"] (defScope s_is_deal) := ⟨rfl, rfl, rfl, by decide +kernel, rfl, by decide +kernel, by decide +kernel⟩
abbrev s_variance_of : Stmt := (topS 16)
abbrev nm_variance_of : List Str := ["costs", "numbers", "cost", "number"]
theorem sc_variance_of : FnScope ["costs", "numbers", "cost", "number"] ["costs", "numbers"] (defScope s_variance_of) := ⟨rfl, rfl, rfl, by decide +kernel, rfl, by decide +kernel, by decide +kernel⟩
abbrev s_fall : Stmt := (topS 17)
abbrev nm_fall : List Str := ["cost", "number"]
theorem sc_fall : FnScope ["cost", "number"] ["cost", "number"] (defScope s_fall) := ⟨rfl, rfl, rfl, by decide +kernel, rfl, by decide +kernel, by decide +kernel⟩
abbrev s_next_place : Stmt := (topS 18)
abbrev nm_next_place : List Str := ["costs", "limits", "numbers", "best", "stratum", "cost", "limit", "by"]
theorem sc_next_place : FnScope ["costs", "limits", "numbers", "best", "stratum", "cost", "limit", "by"] ["costs", "limits", "numbers"] (defScope s_next_place) := ⟨rfl, rfl, rfl, by decide +kernel, rfl, by decide +kernel, by decide +kernel⟩
abbrev s_deal : Stmt := (topS 19)
abbrev nm_deal : List Str := ["costs", "limits", "places", "numbers", "chosen", "price", "_", "stratum"]
theorem sc_deal : FnScope ["costs", "limits", "places", "numbers", "chosen", "price", "_", "stratum"] ["costs", "limits", "places"] (defScope s_deal) := ⟨rfl, rfl, rfl, by decide +kernel, rfl, by decide +kernel, by decide +kernel⟩
abbrev s_least_term : Stmt := (topS 20)
abbrev nm_least_term : List Str := ["cost", "limit", "price", "best", "number", "term"]
theorem sc_least_term : FnScope ["cost", "limit", "price", "best", "number", "term"] ["cost", "limit", "price"] (defScope s_least_term) := ⟨rfl, rfl, rfl, by decide +kernel, rfl, by decide +kernel, by decide +kernel⟩
abbrev s_deal_bound : Stmt := (topS 21)
abbrev nm_deal_bound : List Str := ["costs", "limits", "places", "price", "whole", "cost", "limit"]
theorem sc_deal_bound : FnScope ["costs", "limits", "places", "price", "whole", "cost", "limit"] ["costs", "limits", "places", "price"] (defScope s_deal_bound) := ⟨rfl, rfl, rfl, by decide +kernel, rfl, by decide +kernel, by decide +kernel⟩
abbrev s__law_mix : Stmt := (topS 23)
abbrev nm__law_mix : List Str := ["_law_number", "_law_k"]
theorem sc__law_mix : FnScope ["_law_number", "_law_k"] ["_law_number", "_law_k"] (defScope s__law_mix) := ⟨rfl, rfl, rfl, by decide +kernel, rfl, by decide +kernel, by decide +kernel⟩
abbrev s__law_numbers : Stmt := (topS 24)
abbrev nm__law_numbers : List Str := ["_law_script", "_law_count", "_law_row", "_law_base", "_law_cell", "_law_rest", "_law_k"]
theorem sc__law_numbers : FnScope ["_law_script", "_law_count", "_law_row", "_law_base", "_law_cell", "_law_rest", "_law_k"] ["_law_script", "_law_count"] (defScope s__law_numbers) := ⟨rfl, rfl, rfl, by decide +kernel, rfl, by decide +kernel, by decide +kernel⟩
abbrev s__law_take : Stmt := (topS 25)
abbrev nm__law_take : List Str := ["_law_row", "_law_bound_here"]
theorem sc__law_take : FnScope ["_law_row", "_law_bound_here"] ["_law_row", "_law_bound_here"] (defScope s__law_take) := ⟨rfl, rfl, rfl, by decide +kernel, rfl, by decide +kernel, by decide +kernel⟩
abbrev s__law_low : Stmt := (topS 26)
abbrev nm__law_low : List Str := ["_law_p", "_law_q", "_law_first", "_law_second"]
theorem sc__law_low : FnScope ["_law_p", "_law_q", "_law_first", "_law_second"] ["_law_p", "_law_q"] (defScope s__law_low) := ⟨rfl, rfl, rfl, by decide +kernel, rfl, by decide +kernel, by decide +kernel⟩
abbrev s__law_plus : Stmt := (topS 27)
abbrev nm__law_plus : List Str := ["_law_one", "_law_other"]
theorem sc__law_plus : FnScope ["_law_one", "_law_other"] ["_law_one", "_law_other"] (defScope s__law_plus) := ⟨rfl, rfl, rfl, by decide +kernel, rfl, by decide +kernel, by decide +kernel⟩
abbrev s__law_times : Stmt := (topS 28)
abbrev nm__law_times : List Str := ["_law_one", "_law_other"]
theorem sc__law_times : FnScope ["_law_one", "_law_other"] ["_law_one", "_law_other"] (defScope s__law_times) := ⟨rfl, rfl, rfl, by decide +kernel, rfl, by decide +kernel, by decide +kernel⟩
abbrev s__law_less : Stmt := (topS 29)
abbrev nm__law_less : List Str := ["_law_one", "_law_other"]
theorem sc__law_less : FnScope ["_law_one", "_law_other"] ["_law_one", "_law_other"] (defScope s__law_less) := ⟨rfl, rfl, rfl, by decide +kernel, rfl, by decide +kernel, by decide +kernel⟩
abbrev s__law_variance : Stmt := (topS 30)
abbrev nm__law_variance : List Str := ["_law_costs", "_law_numbers_here", "_law_found", "_law_k"]
theorem sc__law_variance : FnScope ["_law_costs", "_law_numbers_here", "_law_found", "_law_k"] ["_law_costs", "_law_numbers_here"] (defScope s__law_variance) := ⟨rfl, rfl, rfl, by decide +kernel, rfl, by decide +kernel, by decide +kernel⟩
abbrev s__law_deals : Stmt := (topS 31)
abbrev nm__law_deals : List Str := ["_law_limits", "_law_places", "_law_found", "_law_limit", "_law_longer", "_law_one", "_law_number"]
theorem sc__law_deals : FnScope ["_law_limits", "_law_places", "_law_found", "_law_limit", "_law_longer", "_law_one", "_law_number"] ["_law_limits", "_law_places"] (defScope s__law_deals) := ⟨rfl, rfl, rfl, by decide +kernel, rfl, by decide +kernel, by decide +kernel⟩
abbrev s__law_fall : Stmt := (topS 32)
abbrev nm__law_fall : List Str := ["_law_cost", "_law_number"]
theorem sc__law_fall : FnScope ["_law_cost", "_law_number"] ["_law_cost", "_law_number"] (defScope s__law_fall) := ⟨rfl, rfl, rfl, by decide +kernel, rfl, by decide +kernel, by decide +kernel⟩
abbrev s__law_greedy : Stmt := (topS 33)
abbrev nm__law_greedy : List Str := ["_law_costs", "_law_limits", "_law_places", "_law_numbers_here", "_law_price", "_law_turn", "_law_chosen", "_law_k", "_law_by", "_law_limit"]
theorem sc__law_greedy : FnScope ["_law_costs", "_law_limits", "_law_places", "_law_numbers_here", "_law_price", "_law_turn", "_law_chosen", "_law_k", "_law_by", "_law_limit"] ["_law_costs", "_law_limits", "_law_places"] (defScope s__law_greedy) := ⟨rfl, rfl, rfl, by decide +kernel, rfl, by decide +kernel, by decide +kernel⟩
abbrev s__law_bound : Stmt := (topS 34)
abbrev nm__law_bound : List Str := ["_law_costs", "_law_limits", "_law_places", "_law_price", "_law_bound_here", "_law_k", "_law_best", "_law_number", "_law_term"]
theorem sc__law_bound : FnScope ["_law_costs", "_law_limits", "_law_places", "_law_price", "_law_bound_here", "_law_k", "_law_best", "_law_number", "_law_term"] ["_law_costs", "_law_limits", "_law_places", "_law_price"] (defScope s__law_bound) := ⟨rfl, rfl, rfl, by decide +kernel, rfl, by decide +kernel, by decide +kernel⟩
abbrev s__law_told : Stmt := (topS 35)
abbrev nm__law_told : List Str := ["_law_costs", "_law_limits", "_law_places"]
theorem sc__law_told : FnScope ["_law_costs", "_law_limits", "_law_places"] ["_law_costs", "_law_limits", "_law_places"] (defScope s__law_told) := ⟨rfl, rfl, rfl, by decide +kernel, rfl, by decide +kernel, by decide +kernel⟩
abbrev s_law : Stmt := (topS 36)
abbrev nm_law : List Str := ["_law_script", "_law_row", "_law_costs", "_law_limits", "_law_places", "_law_given", "_law_bounds", "_law_told_here", "_law_deals_here", "_law_least", "_law_numbers_here", "_law_turn", "_law_price", "_law_bound_here", "_law_k", "_law_cost", "_law_limit"]
theorem sc_law : FnScope ["_law_script", "_law_row", "_law_costs", "_law_limits", "_law_places", "_law_given", "_law_bounds", "_law_told_here", "_law_deals_here", "_law_least", "_law_numbers_here", "_law_turn", "_law_price", "_law_bound_here", "_law_k", "_law_cost", "_law_limit"] ["_law_script"] (defScope s_law) := ⟨rfl, rfl, rfl, by decide +kernel, rfl, by decide +kernel, by decide +kernel⟩
/-! ### own layer: what stays, new objects, steps -/
/-- all that was tracked outside F is as it was -/
def Ex (F : List Addr) (H H' : Hp) : Prop := ∀ b o, b ∉ F → H b = some o → H' b = some o
theorem Ex.refl {F : List Addr} (H : Hp) : Ex F H H := fun _ _ _ h => h
theorem Ex.trans {F : List Addr} {H H1 H2 : Hp} (a : Ex F H H1) (b : Ex F H1 H2) : Ex F H H2 := fun c o n h => b c o n (a c o n h)
theorem Ex.of {F : List Addr} {H H1 : Hp} (a : Same H H1) : Ex F H H1 := fun c o _ h => a c o h
theorem Ex.mono {F G : List Addr} {H H1 : Hp} (a : Ex F H H1) (h : ∀ b, b ∈ F → b ∈ G) : Ex G H H1 := fun c o n e => a c o (fun z => n (h c z)) e
theorem Ex.rd {F : List Addr} {H H' : Hp} {a : Addr} {u : HO} (e : Ex F H H') (n : a ∉ F) (h : Rd H a u) : Rd H' a u := by
  rcases h with h | ⟨o, h⟩
  · exact .inl (e _ _ n h)
  · exact .inr ⟨o, e _ _ n h⟩
theorem Ex.seq {K : PySem.W.Frag} {F : List Addr} {H H' : Hp} {a : Addr} {xs : List V} (e : Ex F H H') (n : a ∉ F) (h : SqL K H a xs) : SqL K H' a xs := by
  rcases h with h | h
  · exact .inl (e.rd n h)
  · exact .inr h
theorem Ex.tup {K : PySem.W.Frag} {F : List Addr} {H H' : Hp} {a : Addr} {xs : List V} (e : Ex F H H') (n : a ∉ F) (h : SqT K H a xs) : SqT K H' a xs := by
  rcases h with h | h
  · exact .inl (e.rd n h)
  · exact .inr h
theorem same_upd {H : Hp} {p : Addr} {o : HO} (h : H p = none) : Same H (upd H p o) := fun b x e => by
  rw [upd_ne (ne_of_none e h)]
  exact e
/-- an object that H does not know is changed -/
theorem _root_.L2.Same.mut {H H' : Hp} {p : Addr} {o : HO} (e : Same H H') (h : H p = none) : Same H (upd H' p o) := fun a u ha => by
  rw [upd_ne (ne_of_none ha h)]
  exact e a u ha
theorem Ex.mut {F : List Addr} {H H' : Hp} {p : Addr} {o : HO} (e : Ex F H H') (h : H p = none ∨ p ∈ F) : Ex F H (upd H' p o) := fun a u n ha => by
  have hne : a ≠ p := by
    rcases h with h | h
    · exact ne_of_none ha h
    · exact fun z => n (z ▸ h)
  rw [upd_ne hne]
  exact e a u n ha
theorem _root_.L2.Same.tupq {K : PySem.W.Frag} {H H' : Hp} {a : Addr} {xs : List V} (e : Same H H') (h : SqT K H a xs) : SqT K H' a xs := by
  rcases h with (h | ⟨o, h⟩) | h
  · exact .inl (.inl (e _ _ h))
  · exact .inl (.inr ⟨o, e _ _ h⟩)
  · exact .inr h
/-- a new object, met by what is known of the heap -/
theorem w_new {H : Hp} {o : HO} {Q : V → Hp → Prop} (h : ∀ p H', H p = none → Same H H' → H' p = some o → Q (.ref p) H') : ∀ p, H p = none → Q (.ref p) (upd H p o) := fun p hp => h p _ hp (same_upd hp) upd_same
section
variable {K : PySem.W.Frag} {H : Hp} {Q : VK}
theorem w_ixL {p : Addr} {xs : List V} {i : Int} {v : V} (h : SqL K H p xs) (e : atI xs i = some v) (q : Q v H) : rIxL K (.ref p) (.int i) H Q := ⟨p, xs, i, v, rfl, rfl, h, e, q⟩
theorem w_ixT {p : Addr} {xs : List V} {i : Int} {v : V} (h : SqT K H p xs) (e : atI xs i = some v) (q : Q v H) : rIxT K (.ref p) (.int i) H Q := ⟨p, xs, i, v, rfl, rfl, h, e, q⟩
end
theorem bl_inj {a b : Bool} (h : V.bl a = V.bl b) : a = b := V.bl.inj h
theorem ite_dec {c : Prop} [Decidable c] {A B : Prop} (h1 : c → A) (h2 : ¬ c → B) : if decide c = true then A else B := by
  by_cases h : c
  · rw [if_pos (decide_eq_true h)]; exact h1 h
  · rw [if_neg (by rw [decide_eq_false h]; exact Bool.false_ne_true)]; exact h2 h
theorem atI_int {xs : List V} {i : Int} {v : V} (h0 : 0 ≤ i) (h : xs[i.toNat]? = some v) : atI xs i = some v := by
  have e := atI_nat h
  rw [Int.toNat_of_nonneg h0] at e
  exact e
theorem map_get {ns : List Int} {i : Nat} {v : V} (h : (ns.map V.int)[i]? = some v) : ∃ z, v = .int z ∧ ns[i]? = some z := by
  rw [List.getElem?_map] at h
  cases e : ns[i]? with
  | none => rw [e] at h; cases h
  | some z => rw [e] at h; exact ⟨z, (Option.some.inj h).symm, rfl⟩
theorem get_map {ns : List Int} {i : Nat} {z : Int} (h : ns[i]? = some z) : (ns.map V.int)[i]? = some (.int z) := by
  rw [List.getElem?_map, h]
  rfl
theorem nin {p L : Addr} (h : p ≠ L) : p ∉ [L] := fun z => h (List.mem_singleton.mp z)
/-- a change at x alone, which H did not know -/
theorem Ex.new1 {F : List Addr} {H H1 H2 : Hp} {x : Addr} (a : Ex F H H1) (b : Ex [x] H1 H2) (h : H x = none) : Ex F H H2 := fun c o n e => b c o (nin (ne_of_none e h)) (a c o n e)
theorem Ex.free {F : List Addr} {H H' : Hp} {l : Addr} (e : Ex F H H') (n : l ∉ F) (h : H' l = none) : H l = none := by
  cases q : H l with
  | none => rfl
  | some o =>
    rw [e l o n q] at h
    cases h
theorem Ex.at {F : List Addr} {H H' : Hp} {l : Addr} {o : HO} (e : Ex F H H') (n : l ∉ F) (h : H l = some o) : H' l = some o := e l o n h
theorem ixN_int {n : Nat} {k : Int} (h0 : 0 ≤ k) (h1 : k < n) : ixN n k = some k.toNat := by
  unfold ixN
  rw [if_pos h0, if_pos h1]
theorem sum_set : ∀ (l : List Int) (j : Nat) (x v : Int), l[j]? = some x → (l.set j v).sum = l.sum - x + v
  | [], _, _, _, h => by simp at h
  | y :: l, 0, x, v, h => by
    have e : y = x := by simpa using h
    subst e
    simp
    omega
  | y :: l, j + 1, x, v, h => by
    have ih := sum_set l j x v (by simpa using h)
    simp only [List.set_cons_succ, List.sum_cons, ih]
    omega
theorem mem_le_sum : ∀ (l : List Int), (∀ x ∈ l, 0 ≤ x) → ∀ x ∈ l, x ≤ l.sum
  | [], _, x, hx => by simp at hx
  | y :: l, h, x, hx => by
    have h0 : 0 ≤ y := h y List.mem_cons_self
    have hl : ∀ x ∈ l, 0 ≤ x := fun z hz => h z (List.mem_cons_of_mem _ hz)
    have hs : 0 ≤ l.sum := sum_nn l hl
    rcases List.mem_cons.mp hx with e | e
    · subst e; rw [List.sum_cons]; omega
    · have := mem_le_sum l hl x e
      rw [List.sum_cons]; omega
where
  sum_nn : ∀ (l : List Int), (∀ x ∈ l, 0 ≤ x) → 0 ≤ l.sum
    | [], _ => by simp
    | y :: l, h => by
      have h0 : 0 ≤ y := h y List.mem_cons_self
      have := sum_nn l (fun z hz => h z (List.mem_cons_of_mem _ hz))
      rw [List.sum_cons]; omega
theorem sum_le_of : ∀ (l : List Int) (b : Int), (∀ x ∈ l, x ≤ b) → l.sum ≤ b * l.length
  | [], _, _ => by simp
  | y :: l, b, h => by
    have h0 : y ≤ b := h y List.mem_cons_self
    have := sum_le_of l b (fun z hz => h z (List.mem_cons_of_mem _ hz))
    rw [List.sum_cons, List.length_cons]
    have e : b * ((l.length + 1 : Nat) : Int) = b * l.length + b := by
      rw [Int.natCast_add, Int.mul_add]; simp
    omega
theorem w_yes {σ : L2.St} {H : Hp} {A B : Hp → Prop} (h : A H) : tYes σ H (fun b H3 => if b = true then A H3 else B H3) := by
  show (if true = true then A H else B H)
  rw [if_pos rfl]
  exact h
theorem lk_eq {f : Str} {v : V} {fs : List (Str × V)} : ((f, v) :: fs).lookup f = some v := by simp [List.lookup]
theorem lk_ne {f g : Str} {v : V} {fs : List (Str × V)} (h : (f == g) = false) : ((g, v) :: fs).lookup f = fs.lookup f := by simp [List.lookup, h]
theorem putF_eq {f : Str} {u v : V} {fs : List (Str × V)} : putF f v ((f, u) :: fs) = (f, v) :: fs := by simp [putF]
theorem putF_ne {f g : Str} {u v : V} {fs : List (Str × V)} (h : ¬ g = f) : putF f v ((g, u) :: fs) = (g, u) :: putF f v fs := by simp [putF, h]
theorem putF_nil {f : Str} {v : V} : putF f v [] = [(f, v)] := rfl
/-- a list stays where a thing of another kind at x changes -/
theorem _root_.L2.SqL.stay {K : PySem.W.Frag} {H H' : Hp} {a x : Addr} {xs : List V} {o : HO} (h : SqL K H a xs) (hx : H x = some o) (ho : ∀ ys, o ≠ .lst ys) (ho2 : ∀ b u, o ≠ .frz b u) (e : Ex [x] H H') : SqL K H' a xs := by
  rcases h with (h | ⟨u, h⟩) | h
  · exact .inl (.inl (e _ _ (nin fun z => ho _ (Option.some.inj ((z ▸ hx).symm.trans h))) h))
  · exact .inl (.inr ⟨u, e _ _ (nin fun z => ho2 _ _ (Option.some.inj ((z ▸ hx).symm.trans h))) h⟩)
  · exact .inr h
theorem sqT_of_k {K : PySem.W.Frag} {H : Hp} {a : Addr} {dd : Option Addr} {its : Array Value} {n : Nat} {sl : Array (Option Value)} {xs : List V}
    (l : K.lookup a = some ⟨.type "tuple", dd, .seq its n, sl⟩) (h : Vals xs its.toList) (hz : its.size ≤ 1000 := by simp) : SqT K H a xs :=
  .inr ⟨_, its, n, l, rfl, rfl, Nat.le_trans hz (by decide), h⟩
/-! rules whose reading names K, for use within a comprehension's block -/
section
variable {X : Cx} {K : PySem.W.Frag}
theorem ixLk (h : X.K = K) : IxR X (rIxL K) := by subst h; exact ix_list
theorem ixTk (h : X.K = K) : IxR X (rIxT K) := by subst h; exact ix_tup
theorem eqDk (h : X.K = K) (hu : X.A.units + 64 < cLine) : OpR X (compareOp .Eq) (rEqD K) := by subst h; exact op_eqD hu
theorem neDk (h : X.K = K) (hu : X.A.units + 64 < cLine) : OpR X (compareOp .NotEq) (rNeD K) := by subst h; exact op_neD hu
theorem inSk (h : X.K = K) : OpR X (compareOp .In) (rIn K false) := by subst h; exact op_in_seq
theorem niSk (h : X.K = K) : OpR X (compareOp .NotIn) (rIn K true) := by subst h; exact op_notIn_seq
def rLenQ (K : PySem.W.Frag) : List V → Hp → VK → Prop := fun xs H Q => ∃ p ys, xs = [.ref p] ∧ (SqL K H p ys ∨ SqT K H p ys) ∧ Q (.int ys.length) H
theorem lenk (h : X.K = K) : CallR X (.builtin "len") (rLenQ K) := by subst h; exact call_len_seq
theorem sumk (h : X.K = K) (hc : X.calm = true) : CallR X (.builtin "sum") (rSum K) := by subst h; exact cr_sum hc
theorem allk (h : X.K = K) (hc : X.calm = true) : CallR X (.builtin "all") (rAll K) := by subst h; exact cr_all hc
theorem anyk (h : X.K = K) (hc : X.calm = true) : CallR X (.builtin "any") (rAny K) := by subst h; exact cr_any hc
theorem pe_fldk {o : Expr} {ta : TE} {f : Str} {pos : Pos} (h : X.K = K) (ho : PE X o ta) (hb : attributeBase o f X.env (eval o X.env) = eval o X.env) : PE X (.Attribute o f pos) (tFld K ta f) := by subst h; exact pe_fld ho hb
theorem slLk (h : X.K = K) : SlR X (rSlL K) := by subst h; exact sl_list
theorem slTk (h : X.K = K) : SlR X (rSlT K) := by subst h; exact sl_tup
end
theorem pg_tupk {X : Cx} {K : PySem.W.Frag} {pos : Pos} {es : List Expr} {k : Nat} {t : TGs} {n : Nat} (hK : X.K = K) (hc : X.calm = true) (h : PGs X es t)
    (hn : (assignEach es X.env).length = n := by rfl) (hst : (assignEach es X.env).findIdx? (·.1) = none := by rfl) : PG X (.Tuple es k pos) (gTup K n t) := by subst hK; exact pg_tup hc h hn hst
/-- two tests joined, each known -/
theorem w_or {t u : TT} {σ : L2.St} {H : Hp} {Q : Bool → Hp → Prop} {b1 b2 : Bool} (h1 : ∀ Q' : Bool → Hp → Prop, Q' b1 H → t σ H Q') (h2 : ∀ Q' : Bool → Hp → Prop, Q' b2 H → u σ H Q') (q : Q (b1 || b2) H) : tOr t u σ H Q := by
  refine h1 _ ?_
  cases b1 with
  | true => exact iteT q
  | false => exact iteF (h2 _ q)
theorem w_and {t u : TT} {σ : L2.St} {H : Hp} {Q : Bool → Hp → Prop} {b1 b2 : Bool} (h1 : ∀ Q' : Bool → Hp → Prop, Q' b1 H → t σ H Q') (h2 : ∀ Q' : Bool → Hp → Prop, Q' b2 H → u σ H Q') (q : Q (b1 && b2) H) : tAnd t u σ H Q := by
  refine h1 _ ?_
  cases b1 with
  | true => exact iteT (h2 _ q)
  | false => exact iteF q
theorem w_ifor {t u : TT} {σ : L2.St} {H : Hp} {A B R : TS} {D : Ends} {b1 b2 : Bool} (h1 : ∀ Q' : Bool → Hp → Prop, Q' b1 H → t σ H Q') (h2 : ∀ Q' : Bool → Hp → Prop, Q' b2 H → u σ H Q')
    (q : if (b1 || b2) = true then A { D with nx := R D } σ H else B { D with nx := R D } σ H) : tSeq (tIfS (tOr t u) A B) R D σ H :=
  w_or (t := t) (u := u) h1 h2 q
theorem w_ifand {t u : TT} {σ : L2.St} {H : Hp} {A B R : TS} {D : Ends} {b1 b2 : Bool} (h1 : ∀ Q' : Bool → Hp → Prop, Q' b1 H → t σ H Q') (h2 : ∀ Q' : Bool → Hp → Prop, Q' b2 H → u σ H Q')
    (q : if (b1 && b2) = true then A { D with nx := R D } σ H else B { D with nx := R D } σ H) : tSeq (tIfS (tAnd t u) A B) R D σ H :=
  w_and (t := t) (u := u) h1 h2 q
/-! ### data: lists of ints, comparisons -/
theorem shaped_mk {d : PyData} (h1 : d.canLay0 = true) (h2 : d.depth ≤ 64) : SeqAt.shaped d = true := by
  unfold SeqAt.shaped
  rw [h1, decide_eq_true h2]
  rfl
theorem lay_ints : ∀ ns : List Int, PyData.canLayAll0 (ns.map PyData.int) = true
  | [] => rfl
  | _ :: r => by
    show (true && PyData.canLayAll0 (r.map PyData.int)) = true
    rw [lay_ints r]
    rfl
theorem depth_ints : ∀ ns : List Int, PyData.depthAll (ns.map PyData.int) = 0
  | [] => rfl
  | _ :: r => by
    show max 0 (PyData.depthAll (r.map PyData.int)) = 0
    rw [depth_ints r]
    rfl
theorem shaped_ints (ns : List Int) : SeqAt.shaped (.list (ns.map .int)) = true := shaped_mk (lay_ints ns) (by
  show PyData.depthAll (ns.map PyData.int) + 1 ≤ 64
  rw [depth_ints]
  decide)
theorem shaped_intsT (ns : List Int) : SeqAt.shaped (.tuple (ns.map .int)) = true := shaped_mk (lay_ints ns) (by
  show PyData.depthAll (ns.map PyData.int) + 1 ≤ 64
  rw [depth_ints]
  decide)
theorem eqvAll_ints : ∀ ns ms : List Int, PyData.eqvAll (ns.map .int) (ms.map .int) = decide (ns = ms)
  | [], [] => rfl
  | [], _ :: _ => rfl
  | _ :: _, [] => rfl
  | x :: r, y :: t => by
    show (PyData.eqv (.int x) (.int y) && PyData.eqvAll (r.map PyData.int) (t.map PyData.int)) = _
    rw [eqvAll_ints r t]
    show ((x == y) && decide (r = t)) = decide (x :: r = y :: t)
    by_cases h1 : x = y
    · by_cases h2 : r = t
      · subst h1 h2; simp
      · subst h1; simp [h2]
    · simp [h1]
theorem eqv_ints (ns ms : List Int) : PyData.eqv (.list (ns.map .int)) (.list (ms.map .int)) = decide (ns = ms) := by
  rw [PyData.eqv]
  exact eqvAll_ints ns ms
theorem eqv_intsT (ns ms : List Int) : PyData.eqv (.tuple (ns.map .int)) (.tuple (ms.map .int)) = decide (ns = ms) := by
  rw [PyData.eqv]
  exact eqvAll_ints ns ms
theorem dp_ints {K : PySem.W.Frag} {H : Hp} : ∀ ns : List Int, DpAll K H (ns.map V.int) (ns.map PyData.int)
  | [] => .nil
  | _ :: r => .cons (.int _) (dp_ints r)
/-! ### fractions as rationals: plain facts -/
theorem log2_lt' {i : Int} {b : Nat} (hb : 0 < b) (h : i.natAbs < 2 ^ b) : i.natAbs.log2 < b := PySem.Flt.log2_lt_of hb h
theorem gcd_pos_right {p q : Int} (hq : q ≠ 0) : 0 < Int.gcd p q := Nat.pos_of_ne_zero fun z => hq (Int.gcd_eq_zero_iff.mp z).2
def lowD (p q : Int) : Int := if q < 0 then -(Int.gcd p q : Int) else (Int.gcd p q : Int)
theorem lowD_ne {p q : Int} (hq : q ≠ 0) : lowD p q ≠ 0 := by
  have := gcd_pos_right (p := p) hq
  unfold lowD
  split <;> omega
theorem lowD_abs (p q : Int) : (lowD p q).natAbs = Int.gcd p q := by
  unfold lowD
  split
  · rw [Int.natAbs_neg, Int.natAbs_natCast]
  · rw [Int.natAbs_natCast]
theorem gcd_le_right {p q : Int} (hq : q ≠ 0) : Int.gcd p q ≤ q.natAbs := Nat.le_of_dvd (by omega) (by
  have := Int.gcd_dvd_natAbs_right p q
  exact this)
theorem low_num {p q : Int} (hq : q ≠ 0) : p.fdiv (lowD p q) = (Rat.divInt p q).num := by
  have hg := gcd_pos_right (p := p) hq
  obtain ⟨k, hk⟩ := Int.gcd_dvd_left p q
  rw [Rat.num_divInt, Int.gcd_comm q p]
  unfold lowD
  have hg' : (Int.gcd p q : Int) ≠ 0 := by omega
  generalize Int.gcd p q = g at hk hg hg'
  subst hk
  by_cases h : q < 0
  · rw [if_pos h, Int.sign_eq_neg_one_of_neg h]
    rw [show -1 * ((g : Int) * k) = (g : Int) * (-k) by rw [Int.mul_neg]; omega, Int.mul_ediv_cancel_left _ hg']
    rw [show (g : Int) * k = (-(g : Int)) * (-k) by rw [Int.neg_mul_neg]]
    exact Int.mul_fdiv_cancel_left _ (by omega)
  · rw [if_neg h, Int.sign_eq_one_of_pos (by omega), Int.one_mul, Int.mul_ediv_cancel_left _ hg']
    exact Int.mul_fdiv_cancel_left _ hg'
theorem low_den {p q : Int} (hq : q ≠ 0) : q.fdiv (lowD p q) = ((Rat.divInt p q).den : Int) := by
  have hg := gcd_pos_right (p := p) hq
  obtain ⟨k, hk⟩ := Int.gcd_dvd_right p q
  rw [Rat.den_divInt, if_neg hq, Int.gcd_comm q p]
  unfold lowD
  have hg' : (Int.gcd p q : Int) ≠ 0 := by omega
  generalize Int.gcd p q = g at hk hg hg'
  have hab : q.natAbs = g * k.natAbs := by rw [hk, Int.natAbs_mul, Int.natAbs_natCast]
  rw [hab, Nat.mul_div_cancel_left _ hg]
  by_cases h : q < 0
  · rw [if_pos h]
    have hk0 : k < 0 := by
      rcases Int.lt_or_le k 0 with z | z
      · exact z
      · have : 0 ≤ (g : Int) * k := Int.mul_nonneg (by omega) z
        omega
    rw [hk, show (g : Int) * k = (-(g : Int)) * (-k) by rw [Int.neg_mul_neg]]
    rw [Int.mul_fdiv_cancel_left _ (by omega)]
    omega
  · rw [if_neg h]
    have hk0 : 0 ≤ k := by
      rcases Int.lt_or_le k 0 with z | z
      · have : (g : Int) * k < 0 := Int.mul_neg_of_pos_of_neg (by omega) z
        omega
      · exact z
    rw [hk, Int.mul_fdiv_cancel_left _ hg']
    omega
/-! sizes -/
def Sz (n : Nat) (r : Rat) : Prop := r.num.natAbs < 2 ^ n ∧ r.den < 2 ^ n
theorem Sz.mono {m n : Nat} {r : Rat} (h : Sz m r) (e : m ≤ n) : Sz n r := ⟨Nat.lt_of_lt_of_le h.1 (Nat.pow_le_pow_right (by decide) e), Nat.lt_of_lt_of_le h.2 (Nat.pow_le_pow_right (by decide) e)⟩
theorem sz_divInt {p q : Int} {n : Nat} (hq : q ≠ 0) (h1 : p.natAbs < 2 ^ n) (h2 : q.natAbs < 2 ^ n) : Sz n (Rat.divInt p q) := by
  constructor
  · rw [Rat.num_divInt]
    refine Nat.lt_of_le_of_lt ?_ h1
    refine Nat.le_trans (Int.natAbs_ediv_le_natAbs _ _) ?_
    rw [Int.natAbs_mul]
    rcases Int.lt_trichotomy q 0 with h | h | h
    · rw [Int.sign_eq_neg_one_of_neg h]; simp
    · exact absurd h hq
    · rw [Int.sign_eq_one_of_pos h]; simp
  · rw [Rat.den_divInt, if_neg hq]
    exact Nat.lt_of_le_of_lt (Nat.div_le_self _ _) h2
theorem abs_mul_lt {i j : Int} {a b : Nat} (ha : i.natAbs < 2 ^ a) (hb : j.natAbs < 2 ^ b) : (i * j).natAbs < 2 ^ (a + b) := wide_lt ha hb
theorem abs_add_lt {i j : Int} {a : Nat} (ha : i.natAbs < 2 ^ a) (hb : j.natAbs < 2 ^ a) : (i + j).natAbs < 2 ^ (a + 1) := by
  have : (i + j).natAbs ≤ i.natAbs + j.natAbs := Int.natAbs_add_le i j
  rw [Nat.pow_succ]
  omega
theorem abs_sub_lt {i j : Int} {a : Nat} (ha : i.natAbs < 2 ^ a) (hb : j.natAbs < 2 ^ a) : (i - j).natAbs < 2 ^ (a + 1) := by
  have : (i - j).natAbs ≤ i.natAbs + j.natAbs := Int.natAbs_sub_le i j
  rw [Nat.pow_succ]
  omega
theorem pow_up {x a b : Nat} (h : x < 2 ^ a) (e : a ≤ b) : x < 2 ^ b := Nat.lt_of_lt_of_le h (Nat.pow_le_pow_right (by decide) e)
theorem Sz.d {n : Nat} {r : Rat} (h : Sz n r) : (r.den : Int).natAbs < 2 ^ n := by rw [Int.natAbs_natCast]; exact h.2
theorem den_ne (r : Rat) : (r.den : Int) ≠ 0 := by have := r.den_pos; omega
theorem add_divInt (a b : Rat) : Rat.divInt (a.num * b.den + b.num * a.den) (a.den * b.den) = a + b := by
  rw [← Rat.divInt_add_divInt _ _ (den_ne a) (den_ne b), Rat.num_divInt_den, Rat.num_divInt_den]
theorem sub_divInt (a b : Rat) : Rat.divInt (a.num * b.den - b.num * a.den) (a.den * b.den) = a - b := by
  rw [← Rat.divInt_sub_divInt _ _ (den_ne a) (den_ne b), Rat.num_divInt_den, Rat.num_divInt_den]
theorem mul_divInt (a b : Rat) : Rat.divInt (a.num * b.num) (a.den * b.den) = a * b := by
  rw [← Rat.divInt_mul_divInt, Rat.num_divInt_den, Rat.num_divInt_den]
theorem div_divInt (a b : Rat) : Rat.divInt (a.num * b.den) (a.den * b.num) = a / b := by
  rw [← Rat.divInt_mul_divInt, Rat.num_divInt_den, Rat.div_def]
  congr 1
  rw [← Rat.inv_divInt, Rat.num_divInt_den]
theorem sz_num {m n : Nat} {a b : Rat} (ha : Sz m a) (hb : Sz n b) : (a.num * b.den + b.num * a.den).natAbs < 2 ^ (m + n + 1) := abs_add_lt (abs_mul_lt ha.1 hb.d) (by rw [Nat.add_comm m n]; exact abs_mul_lt hb.1 ha.d)
theorem sz_numS {m n : Nat} {a b : Rat} (ha : Sz m a) (hb : Sz n b) : (a.num * b.den - b.num * a.den).natAbs < 2 ^ (m + n + 1) := abs_sub_lt (abs_mul_lt ha.1 hb.d) (by rw [Nat.add_comm m n]; exact abs_mul_lt hb.1 ha.d)
theorem sz_den {m n : Nat} {a b : Rat} (ha : Sz m a) (hb : Sz n b) : ((a.den : Int) * b.den).natAbs < 2 ^ (m + n) := abs_mul_lt ha.d hb.d
theorem dd_ne (a b : Rat) : (a.den : Int) * b.den ≠ 0 := Int.mul_ne_zero (den_ne a) (den_ne b)
theorem Sz.add {m n : Nat} {a b : Rat} (ha : Sz m a) (hb : Sz n b) : Sz (m + n + 1) (a + b) := by
  rw [← add_divInt]
  exact sz_divInt (dd_ne a b) (sz_num ha hb) (pow_up (sz_den ha hb) (by omega))
theorem Sz.sub {m n : Nat} {a b : Rat} (ha : Sz m a) (hb : Sz n b) : Sz (m + n + 1) (a - b) := by
  rw [← sub_divInt]
  exact sz_divInt (dd_ne a b) (sz_numS ha hb) (pow_up (sz_den ha hb) (by omega))
theorem Sz.mul {m n : Nat} {a b : Rat} (ha : Sz m a) (hb : Sz n b) : Sz (m + n) (a * b) := by
  rw [← mul_divInt]
  exact sz_divInt (dd_ne a b) (abs_mul_lt ha.1 hb.1) (sz_den ha hb)
theorem num_ne {b : Rat} (h : b ≠ 0) : b.num ≠ 0 := fun z => h (Rat.num_eq_zero.mp z)
theorem Sz.div {m n : Nat} {a b : Rat} (ha : Sz m a) (hb : Sz n b) (h0 : b ≠ 0) : Sz (m + n) (a / b) := by
  rw [← div_divInt]
  exact sz_divInt (Int.mul_ne_zero (den_ne a) (num_ne h0)) (abs_mul_lt ha.1 hb.d) (abs_mul_lt ha.d hb.1)
theorem Sz.neg {m : Nat} {a : Rat} (ha : Sz m a) : Sz m (-a) := by
  refine ⟨?_, ?_⟩
  · show (-a.num).natAbs < 2 ^ m
    rw [Int.natAbs_neg]
    exact ha.1
  · exact ha.2
theorem sz_zero : Sz 1 0 := ⟨by decide, by decide⟩
theorem sz_one : Sz 1 1 := ⟨by decide, by decide⟩
theorem rat_eq {a b : Rat} (h1 : a.num = b.num) (h2 : (a.den : Int) = b.den) : a = b := Rat.ext h1 (Int.ofNat.inj h2)
theorem rat_list_eq (a b : Rat) : decide ([a.num, (a.den : Int)] = [b.num, (b.den : Int)]) = decide (a = b) := by
  by_cases h : a = b
  · subst h; simp
  · rw [decide_eq_false h]
    refine decide_eq_false fun z => h ?_
    injection z with z1 z2
    injection z2 with z2 _
    exact rat_eq z1 z2
/-! Euclid's turns -/
theorem euc_gcd (a b : Int) : Int.gcd b (a.fmod b) = Int.gcd a b := by
  by_cases hb : b = 0
  · subst hb; rw [Int.fmod_zero]; exact Int.gcd_comm 0 a
  · rw [show a.fmod b = a - b * a.fdiv b from Int.fmod_def a b]
    rw [Int.gcd_comm b, Int.gcd_sub_mul_left_left]
theorem euc_step {a b : Int} {m : Nat} (h0 : 0 < b) (hb : b < a) (h : a.natAbs * b.natAbs < 2 ^ (m + 1)) : b.natAbs * (a.fmod b).natAbs < 2 ^ m := by
  have hr0 : 0 ≤ a.fmod b := Int.fmod_nonneg_of_pos a h0
  have hr1 : a.fmod b < b := Int.fmod_lt_of_pos a h0
  have hd : a = b * a.fdiv b + a.fmod b := (Int.mul_fdiv_add_fmod a b).symm
  have hq : 1 ≤ a.fdiv b := by
    rcases Int.lt_or_le (a.fdiv b) 1 with z | z
    · have : b * a.fdiv b ≤ 0 := Int.mul_nonpos_of_nonneg_of_nonpos (by omega) (by omega)
      omega
    · exact z
  have h2 : 2 * (a.fmod b) < a := by
    have : b * 1 ≤ b * a.fdiv b := Int.mul_le_mul_of_nonneg_left hq (by omega)
    omega
  have h3 : 2 * (a.fmod b).natAbs ≤ a.natAbs := by omega
  have h4 : 2 * (b.natAbs * (a.fmod b).natAbs) ≤ a.natAbs * b.natAbs := by
    calc 2 * (b.natAbs * (a.fmod b).natAbs) = (2 * (a.fmod b).natAbs) * b.natAbs := by rw [Nat.mul_comm b.natAbs, Nat.mul_assoc]
      _ ≤ a.natAbs * b.natAbs := Nat.mul_le_mul_right _ h3
  rw [Nat.pow_succ] at h
  omega
/-- what stands behind i turns: m is what the product may still be -/
def Euc (p q : Int) (n i : Nat) (a b : Int) : Prop := 0 ≤ a ∧ 0 ≤ b ∧ (0 < a ∨ 0 < b) ∧ Int.gcd a b = Int.gcd p q ∧ a.natAbs * b.natAbs < 2 ^ (n + 1 - max i 1) ∧ (0 < i → b < a)
theorem Euc.start {p q : Int} {n : Nat} (hq : q ≠ 0) (h : p.natAbs * q.natAbs < 2 ^ n) : Euc p q n 0 (p.natAbs : Int) (q.natAbs : Int) := by
  refine ⟨by omega, by omega, by omega, ?_, ?_, fun z => absurd z (by decide)⟩
  · exact Int.gcd_natAbs_natAbs' p q
  · rw [Int.natAbs_natCast, Int.natAbs_natCast]
    exact h
where
  Int.gcd_natAbs_natAbs' (p q : Int) : Int.gcd (p.natAbs : Int) (q.natAbs : Int) = Int.gcd p q := by
    unfold Int.gcd
    rw [Int.natAbs_natCast, Int.natAbs_natCast]
theorem Euc.next {p q : Int} {n i : Nat} {a b : Int} (h : Euc p q n i a b) (hi : i ≤ n) (hb : b ≠ 0) : Euc p q n (i + 1) b (a.fmod b) := by
  obtain ⟨h1, h2, h3, h4, h5, h6⟩ := h
  have b0 : 0 < b := by omega
  have hr0 : 0 ≤ a.fmod b := Int.fmod_nonneg_of_pos a b0
  have hr1 : a.fmod b < b := Int.fmod_lt_of_pos a b0
  refine ⟨h2, hr0, .inl b0, by rw [euc_gcd, h4], ?_, fun _ => hr1⟩
  by_cases z : b < a
  · rcases Nat.eq_zero_or_pos (n + 1 - max i 1) with e | e
    · rw [e] at h5
      have := h5
      have : 1 ≤ a.natAbs * b.natAbs := Nat.mul_pos (by omega) (by omega)
      omega
    · have e1 : n + 1 - max i 1 = (n + 1 - max i 1 - 1) + 1 := by omega
      rw [e1] at h5
      exact pow_up (euc_step b0 z h5) (by omega)
  · have hi0 : i = 0 := by
      rcases Nat.eq_zero_or_pos i with e | e
      · exact e
      · exact absurd (h6 e) z
    subst hi0
    have hle : (a.fmod b).natAbs ≤ a.natAbs := by
      by_cases z2 : a < b
      · rw [Int.fmod_eq_emod_of_nonneg a h2, Int.emod_eq_of_lt h1 z2]; exact Nat.le_refl _
      · have : a = b := by omega
        rw [this, Int.fmod_self]; omega
    have : b.natAbs * (a.fmod b).natAbs ≤ a.natAbs * b.natAbs := by
      rw [Nat.mul_comm]
      exact Nat.mul_le_mul_right _ hle
    exact Nat.lt_of_le_of_lt this h5
theorem Euc.ended {p q : Int} {n : Nat} {a b : Int} (h : Euc p q n (n + 1) a b) : b = 0 := by
  obtain ⟨h1, h2, h3, h4, h5, h6⟩ := h
  have hlt := h6 (by omega)
  rw [show n + 1 - max (n + 1) 1 = 0 by omega, Nat.pow_zero] at h5
  rcases Nat.eq_zero_or_pos b.natAbs with e | e
  · omega
  · have : 1 ≤ a.natAbs * b.natAbs := Nat.mul_pos (by omega) e
    omega
theorem Euc.gcd {p q : Int} {n i : Nat} {a : Int} (h : Euc p q n i a 0) : a = (Int.gcd p q : Int) := by
  obtain ⟨h1, h2, h3, h4, h5, h6⟩ := h
  rw [Int.gcd_zero_right] at h4
  omega
/-! ### own exceptions: made without arguments, a local def called in a try, isinstance of what is caught -/
section
variable {X : Cx} {C : Addr} {bmB : List Value} {B newId initId : String}
/-- X(), no argument, no own __init__ -/
theorem pmk_own0 {x : Str} {p pos : Pos} (F : ExcBaseFacts B newId initId bmB) (q : PySem.W.excIn X.K C bmB newId = true) (gC : X.mg x = some (.ref C))
    (kC : PySem.W.keepIn X.K (.ref C) = true) (r : Raises X (.ref C)) (hg : Gl X x)
    (hdb : (x == ("__debug__" : Str)) = false := by decide) :
    PMk X (.Call (.Name x p) [] [] pos) (fun _ H Q => Q (.ref C) none H) := by
  intro pins s σ H Q I h
  refine wpAny_Call_Name_kw (ld_glob I hg gC ?_ hdb)
  refine PySem.W.callWith_K0 I.kIn kC ?_
  obtain ⟨bm, N, nm, qn, bs, hdct, sn, sub, ab, col, dd, k0, k1, k2, k3, k5, mN, hC, hN, hni, T⟩ :=
    exc_obj I.kIn q
  show wpAny _ _ (call (.ref C) []) _ _ _
  exact wpAny_call_exc_subT F T hC hN hni (fun h' e hm =>
    mk_of I hm r h (I.hok.gone hm.new)) (Nat.zero_le _)
variable {CX : CXT} {k i : Nat} {f : Addr} {fd : FuncData} {ps : List Str} {sp : Sp} {E : L2.St → XK} {x : Str} {p pos : Pos} {e : Expr} {es : List Expr} {t : TA}
def tCallLS (i : Nat) (f : Addr) (sp : Sp) (E : L2.St → XK) (t : TA) : TE := fun σ H Q => σ[i]? = some (some (.ref f)) ∧ t σ H fun vs H1 => sp vs H1 Q (E σ)
/-- a local name that holds a def, called; what it lets out is wished for at the slots -/
theorem pe_callLS (F : FnOk X.prog X.w X.K X.mg X.base CX k f fd ps sp) (hr : Room k X.A) (hN : X.N[i]? = some x) (hv : Vis X.env.scope x)
    (hk : PySem.W.keepIn X.K (.ref f) = true) (hb : Binds X.K fd ps []) (hx : ∀ σ, PassesAt CX X σ (E σ)) (ha : PA X (e :: es) t)
    (hdb : (x == ("__debug__" : Str)) = false := by decide)
    (hcd : (x == ("__classdict__" : Str)) = false := by decide)
    (he : starEach (e :: es) X.env = (false, eval e X.env) :: starEach es X.env := by rfl)
    (hpl : (backTo pos (starEach es X.env)).any (·.1) = false := by rfl) :
    PE X (.Call (.Name x p) (e :: es) [] pos) (tCallLS i f sp E t) := by
  refine ⟨fun pins s σ H Q I ⟨hs, ht⟩ => ?_⟩
  have ld := (pe_var (pos := p) hN hv hdb hcd).run pins s σ H
    (fun v H1 => v = .ref f ∧ H1 = H) I ⟨.ref f, hs, rfl, rfl⟩
  refine wpAny_Call_Name_kw (thn ld fun u s1 z => ?_)
  obtain ⟨v, H1, I1, r1, rfl, rfl⟩ := z
  cases r1
  refine PySem.W.callWith_K (h₀ := X.base) I.ok.mod.kin hk
    (thn (ha.run pos pins s1 σ _ _ I1 ht) fun us s2 z2 => ?_) he hpl
  obtain ⟨vs, H2, I2, r, q⟩ := z2
  exact ⟨I2.kIn, run_fnS F hr hb (hx σ) I2 r q⟩
/-- isinstance(e, c) within the suite, e what it caught -/
def tIsE (K : PySem.W.Frag) (D a : Addr) (cls : Value) (d : Option Addr) (t : TA) : TE := fun σ H Q => cls = .ref D ∧ d = none ∧ tCB (rIsE K D a) t σ H Q
theorem pe_isE {a D : Addr} {oe : Obj} {pn : List (Addr × Obj)} {cls : Value} {d : Option Addr} (C : ExcC X.K D) (hz : Zc cls d oe) (hf : ∃ vs, oe.data = .fields vs)
    (hg : Gl (X.suite a ((a, oe) :: pn)) "isinstance") (hm : X.mg "isinstance" = none) (ha : PA (X.suite a ((a, oe) :: pn)) (e :: es) t)
    (he : starEach (e :: es) X.env = (false, eval e X.env) :: starEach es X.env := by rfl)
    (hpl : (backTo pos (starEach es X.env)).any (·.1) = false := by rfl) :
    PE (X.suite a ((a, oe) :: pn)) (.Call (.Name "isinstance" p) (e :: es) [] pos) (tIsE X.K D a cls d t) := by
  refine ⟨fun pins s σ H Q I h => ?_⟩
  obtain ⟨rfl, rfl, h⟩ := h
  exact (pe_callB (call_isE C hz hf) hg hm (by decide +kernel) ha (by decide) (by decide) he hpl).run pins s σ H Q I h
end
theorem kit_sub {K : PySem.W.Frag} {C D : Addr} (hd : PySem.W.hasDictIn K C = true) (ty : PySem.W.typeIn K (.ref C) = some (.type "type"))
    (s : PySem.W.subIn K (.ref D) (.ref C) = some true) : PySem.W.kitOne K (.ref D) (.ref C) = some true := by
  obtain ⟨cd, hc, _⟩ := PySem.W.any_some hd
  unfold PySem.W.kitOne
  split
  · rfl
  · show (if ((PySem.W.clsIn K C).isSome && PySem.W.typeIn K (.ref C) == some (.type "type")) = true
      then PySem.W.subIn K (.ref D) (.ref C) else none) = some true
    rw [hc, ty]
    exact s
/-! ### own exceptions with an own __init__ that stores one field; an own class whose __init__ may raise, made in a try -/
section
variable {X : Cx} {CX : CXT} {k : Nat} {f C : Addr} {fd : FuncData} {ps : List Str} {sp : Sp} {E : L2.St → XK} {x : Str} {p pos : Pos} {e : Expr} {es : List Expr} {t : TA}
theorem run_makeS {pins : List (Addr × Obj)} {σ : L2.St} {H : Hp} {s : Shared} {Q : VK} {us : List Value} {vs : List V} (M : Mk X.K C f) (F : FnOk X.prog X.w X.K X.mg X.base CX k f fd ps sp) (hr : Room (k + 1) X.A) (hb : Binds X.K fd ps [])
    (hx : PassesAt CX X σ (E σ)) (I : Inv X pins σ H s) (r : Vals vs us)
    (h : ∀ x dx, H x = none → H dx = none → dx ≠ x → sp (.ref x :: vs) (upd (upd H dx (.own x)) x (.ins C dx [])) (fun v H2 => v = .non ∧ Q (.ref x) H2) (E σ)) :
    wpAny (model X.prog X.w) X.A (call (.ref C) us) (EP X pins σ Q) X.xe s := by
  have hq := h (s.heap.objs.size + 1) s.heap.objs.size (I.hok.fresh (Nat.le_succ _)) (I.hok.fresh (Nat.le_refl _)) (Nat.ne_of_lt (Nat.lt_succ_self _))
  have I2 := Inv.made (C := C) I
  have r2 : Vals (V.ref (s.heap.objs.size + 1) :: vs) (Value.ref (s.heap.objs.size + 1) :: us) := .cons rfl r
  have hl : (Value.ref (s.heap.objs.size + 1) :: us).length = ps.length := by
    have e := r2.length
    rw [F.len _ _ _ _ hq] at e
    exact e.symm
  have hb' := hb s (Value.ref (s.heap.objs.size + 1) :: us)
  refine wpAny_call (make_map (f := f) I.kIn M.makes M.init (beq_iff_eq.mp M.fn) (codeAny_mono (F.run _ X.stack _ _ ⟨Value.ref (s.heap.objs.size + 1) :: us, []⟩ (Value.ref (s.heap.objs.size + 1) :: us) _ _ (E σ) (hr.make C us [])
    (I2.env0.make C us []) (by simpa using hb _ (Value.ref (s.heap.objs.size + 1) :: us) I2.kIn (by simpa using hl)) r2 hq) fun r s' hq' => ?_))
  cases r with
  | error e => exact hx pins _ _ e s' I2 hq'
  | ok fl =>
    cases fl with
    | ret u =>
      obtain ⟨v, H', I3, rv, ev, q3⟩ := I2.after hq'
      subst ev
      exact ⟨rv, ⟨V.ref (s.heap.objs.size + 1), H', I3, rfl, q3⟩⟩
    | next => exact False.elim hq'
    | brk => exact False.elim hq'
    | cont => exact False.elim hq'
def tMakeS (C : Addr) (sp : Sp) (E : L2.St → XK) (t : TA) : TE := fun σ H Q => t σ H fun vs H1 => ∀ x dx, H1 x = none → H1 dx = none → dx ≠ x → sp (.ref x :: vs) (upd (upd H1 dx (.own x)) x (.ins C dx [])) (fun v H2 => v = .non ∧ Q (.ref x) H2) (E σ)
theorem pe_makeS (M : Mk X.K C f) (F : FnOk X.prog X.w X.K X.mg X.base CX k f fd ps sp) (hr : Room (k + 1) X.A) (hg : Gl X x) (hm : X.mg x = some (.ref C)) (hb : Binds X.K fd ps []) (hx : ∀ σ, PassesAt CX X σ (E σ))
    (ha : PA X (e :: es) t) (hdb : (x == ("__debug__" : Str)) = false := by decide) (he : starEach (e :: es) X.env = (false, eval e X.env) :: starEach es X.env := by rfl) (hpl : (backTo pos (starEach es X.env)).any (·.1) = false := by rfl) :
    PE X (.Call (.Name x p) (e :: es) [] pos) (tMakeS C sp E t) := by
  refine ⟨fun pins s σ H Q I h => ?_⟩
  refine wpAny_Call_Name_kw (ld_glob I hg hm ?_ hdb)
  refine PySem.W.callWith_K (h₀ := X.base) I.ok.mod.kin M.kp (thn (ha.run pos pins s σ H _ I h) fun us s1 ⟨vs, H1, I1, r, q⟩ => ⟨I1.kIn, ?_⟩) he hpl
  exact run_makeS M F hr hb (hx σ) I1 r q
/-- the __init__ of an exception that stores its one argument -/
def sp_exc1 (K : PySem.W.Frag) (C : Addr) (fld : Str) : Sp := fun vs H Q _ => ∃ (a : Addr) (v : V), vs = [.ref a, v] ∧ H a = some (exo a C none) ∧ ∀ dx, H dx = none → dx ≠ a → Q .non (upd (upd H dx (exd dx [(fld, v)])) a (exo a C (some dx)))
end
/-- X(v): the exception is let go; its dict holds the field -/
theorem exc1_made {K : PySem.W.Frag} {C a : Addr} {fld : Str} {v : V} {H1 : Hp} {Q : XK} {E : XK} (ha : H1 a = none) (q : ∀ d H', Same H1 H' → H1 d = none → H' d = some (.xd [(fld, v)]) → Q (.ref C) (some d) H') :
    sp_exc1 K C fld (.ref a :: ([v] ++ [])) (upd H1 a (exo a C none)) (fun v H2 => v = .non ∧ ∃ (d : Addr) (fs : List (Str × V)), H2 a = some (exo a C (some d)) ∧ H2 d = some (exd d fs) ∧ H1 d = none ∧ Q (.ref C) (some d) (upd (del H2 a) d (.xd fs))) E := by
  refine ⟨a, v, rfl, upd_same, fun dx hdx ne => ⟨rfl, dx, [(fld, v)], upd_same, ?_, ?_, ?_⟩⟩
  · rw [upd_ne ne, upd_same]
  · rw [upd_ne ne] at hdx
    exact hdx
  · have h0 : H1 dx = none := by rw [upd_ne ne] at hdx; exact hdx
    refine q dx _ (fun b o hb => ?_) h0 upd_same
    have n1 : b ≠ a := ne_of_none hb ha
    have n2 : b ≠ dx := ne_of_none hb h0
    rw [upd_ne n2, del_ne n1, upd_ne n1, upd_ne n2, upd_ne n1]
    exact hb
theorem refs_sub (a : Addr) : PySem.HandSPX.refsVE [.ref a, .type "ValueError", .type "Exception", .type "BaseException", .type "object"] = true := by
  show PySem.HandSPX.refsVE [.type "ValueError", .type "Exception", .type "BaseException", .type "object"] = true
  decide +kernel
/-! ### own methods that may raise, called in a try -/
section
variable {X : Cx} {CX : CXT} {k : Nat} {f C : Addr} {fd : FuncData} {ps : List Str} {sp : Sp} {E : L2.St → XK} {x m : Str} {p pos apos : Pos} {e o : Expr} {es : List Expr} {ta : TE} {t : TA}
def tMethS (C : Addr) (m : Str) (sp : Sp) (E : L2.St → XK) (ta : TE) (t : TA) : TE := fun σ H Q => ta σ H fun x H1 => ∃ a dx fs, x = .ref a ∧ H1 a = some (.ins C dx fs) ∧ fs.lookup m = none ∧ t σ H1 fun vs H2 => sp (x :: vs) H2 Q (E σ)
theorem pe_meth0S {pl : Sem Bool} (he : PE X o ta) (c : Cls X.K C) (hm : Meth X.K C m f) (F : FnOk X.prog X.w X.K X.mg X.base CX k f fd ps sp) (hr : Room k X.A) (hb : Binds X.K fd ps []) (hx : ∀ σ, PassesAt CX X σ (E σ))
    (ht : eval (.Call (.Attribute o m apos) [] [] pos) X.env = (do
      let ov ← eval o X.env
      standAt apos.atName
      let (f, first) ← holding [ov] (getMethod ov m pl)
      callWith pos f first (backTo pos (starEach [] X.env)) (backToKw pos (keywordEach [] X.env))) := by rfl) :
    PE X (.Call (.Attribute o m apos) [] [] pos) (tMethS C m sp E ta tNil) := by
  refine ⟨fun pins s σ H Q I h => ?_⟩
  refine PySem.W.methodCall_KW (pl := pl) (thn (he.run pins s σ H _ I h) fun u s1 ⟨x, H1, I1, rx, a, dx, fs, ex, ea, l, q⟩ => ?_) ht
  subst ex
  obtain rfl : u = Value.ref a := rx
  refine getmeth_ok I1 ea c hm l ?_
  exact PySem.W.callWith_K0 (first := [.ref a]) I1.kIn hm.kp (run_fnS (us := [.ref a]) (vs := [.ref a]) F hr hb (hx σ) I1 (.cons rfl .nil) q)
theorem pe_methS {pl : Sem Bool} (he : PE X o ta) (c : Cls X.K C) (hm : Meth X.K C m f) (F : FnOk X.prog X.w X.K X.mg X.base CX k f fd ps sp) (hr : Room k X.A) (hb : Binds X.K fd ps []) (hx : ∀ σ, PassesAt CX X σ (E σ)) (ha : PA X (e :: es) t)
    (ht : eval (.Call (.Attribute o m apos) (e :: es) [] pos) X.env = (do
      let ov ← eval o X.env
      standAt apos.atName
      let (f, first) ← holding [ov] (getMethod ov m pl)
      callWith pos f first (backTo pos (starEach (e :: es) X.env)) (backToKw pos (keywordEach [] X.env))) := by rfl)
    (hst : starEach (e :: es) X.env = (false, eval e X.env) :: starEach es X.env := by rfl) (hpl : (backTo pos (starEach es X.env)).any (·.1) = false := by rfl) :
    PE X (.Call (.Attribute o m apos) (e :: es) [] pos) (tMethS C m sp E ta t) := by
  refine ⟨fun pins s σ H Q I h => ?_⟩
  refine PySem.W.methodCall_KW (pl := pl) (thn (he.run pins s σ H _ I h) fun u s1 ⟨x, H1, I1, rx, a, dx, fs, ex, ea, l, q⟩ => ?_) ht
  subst ex
  obtain rfl : u = Value.ref a := rx
  refine getmeth_ok I1 ea c hm l ?_
  refine PySem.W.callWith_K (first := [.ref a]) (h₀ := X.base) I.ok.mod.kin hm.kp (thn (ha.run pos pins s1 σ H1 _ I1 q) fun us s2 ⟨vs, H2, I2, r, q2⟩ => ⟨I2.kIn, ?_⟩) hst hpl
  exact run_fnS (us := .ref a :: us) (vs := .ref a :: vs) F hr hb (hx σ) I2 (.cons rfl r) q2
end
theorem mk_sameX {H : Hp} {x dx C : Addr} (hx : H x = none) (hdx : H dx = none) : Same H (upd (upd H dx (.own x)) x (.ins C dx [])) := (same_upd hdx).mut hx
theorem ex_sameX {H H1 H' : Hp} {x : Addr} (hx : H x = none) (e : Same H H1) (e1 : Ex [x] H1 H') : Same H H' := fun b o hb => e1 b o (nin (ne_of_none hb hx)) (e b o hb)
/-! ### the pure layer: data, owned objects, the frozen part of the heap -/
inductive D where
  | non | bl (b : Bool) | int (i : Int) | str (x : Str) | lst (ds : List D) | tup (ds : List D) | dic (w : World) (ks ds : List D) | dik (ks : List Key) (ds : List D) | obj (C : Addr) (ns : List Str) (ds : List D) | scr (ns : List Int) | ty (n : String) | opq (v : V) | xv (a C : Addr) (d : Option Addr) (ns : List Str) (ds : List D)
mutual
/-- an object of one's own: a list, a dict; with parts that may be objects of their own: a list, a tuple, an instance -/
inductive O where
  | lst (ds : List D) | dk (kvs : List (Key × D)) | dn (w : World) (kvs : List (D × D))
  | nl (cs : List S) | nt (cs : List S) | ob (C : Addr) (ns : List Str) (cs : List S)
/-- data; an object of one's own (true: lent); a part of which nothing is said but its value -/
inductive S where
  | fr (d : D) | ow (b : Bool) (o : O) | hid (v : V)
end
abbrev Sl := List (Option S)
def keyD : D → Option Key
  | .int i => some (.inl i)
  | .str x => some (.inr x)
  | _ => none
def dKey : Key → D
  | .inl i => .int i
  | .inr x => .str x
mutual
def D.hash (w : World) : D → Int
  | .int i => hashInt i
  | .str x => hashStr w x
  | .tup ds => reduceHash (Builtin.Tuple.tupleHashOf (D.hashes w ds))
  | .non => 0
  | .bl _ => 0
  | .lst _ => 0
  | .dic _ _ _ => 0
  | .dik _ _ => 0
  | .obj _ _ _ => 0
  | .scr _ => 0
  | .ty _ => 0
  | .opq _ => 0
  | .xv _ _ _ _ _ => 0
def D.hashes (w : World) : List D → List Int
  | [] => []
  | d :: ds => d.hash w :: D.hashes w ds
end
/-- what a dict of data keys is made of -/
def D.hkN : Nat → D → Bool
  | _, .int _ => true
  | _, .str x => PyData.strOk x
  | n + 1, .tup ds => ds.all (D.hkN n)
  | _, _ => false
/-- the dict at l whose keys are data (tuples), known by their addresses -/
def dnO (w : World) (l : Addr) (kvs : List (D × Addr × V)) : HO := .ext fun h => kvs.length ≤ sizeLine ∧ (l == sysModules) = false ∧ ∃ xs : List (D × Addr × Value), Paired (fun p q => p.1 = q.1 ∧ p.2.1 = q.2.1 ∧ RelV p.2.2 q.2.2) kvs xs ∧
  ∃ o es ep, h.get? l = some o ∧ o.ExactDict ∧ o.data = .dict es ep ∧ es.toList = xs.map (fun x => (⟨x.1.hash w, .ref x.2.1, x.2.2⟩ : DictEntry)) ∧ (xs.map (·.1)).Nodup
mutual
def O.dat : O → D
  | .lst ds => .lst ds
  | .dk kvs => .dik (kvs.map (·.1)) (kvs.map (·.2))
  | .dn w kvs => .dic w (kvs.map (·.1)) (kvs.map (·.2))
  | .nl cs => .lst (S.dats cs)
  | .nt cs => .tup (S.dats cs)
  | .ob C ns cs => .obj C ns (S.dats cs)
def S.dat : S → D
  | .fr d => d
  | .ow _ o => o.dat
  | .hid v => .opq v
def S.dats : List S → List D
  | [] => []
  | c :: cs => c.dat :: S.dats cs
end
mutual
def Rp (K : PySem.W.Frag) (F : Hp) : D → V → Prop
  | .non, v => v = .non
  | .bl b, v => v = .bl b
  | .int i, v => v = .int i
  | .str x, v => v = .str x
  | .lst ds, v => ∃ a vs, v = .ref a ∧ F a = some (.lst vs) ∧ RpA K F ds vs
  | .scr ns, v => ∃ a, v = .ref a ∧ SqL K F a (ns.map V.int)
  | .ty n, v => v = .ty n
  | .opq u, v => v = u
  | .xv a _ d ns ds, v => v = .ref a ∧ ((ns = [] ∧ ds = [] ∧ d = none) ∨ ∃ b vs, d = some b ∧ F b = some (.xd (ns.zip vs)) ∧ (ns.length = vs.length ∧ ns ≠ []) ∧ RpA K F ds vs)
  | .tup ds, v => ∃ a vs, v = .ref a ∧ SqT K F a vs ∧ RpA K F ds vs
  | .dic w ks ds, v => ∃ (a : Addr) (ws : List (D × Addr × V)), v = .ref a ∧ F a = some (dnO w a ws) ∧ ks = ws.map (·.1) ∧ (∀ k ∈ ks, D.hkN 6 k = true) ∧ RpA K F ks (ws.map fun p => .ref p.2.1) ∧ RpA K F ds (ws.map (·.2.2))
  | .dik ks ds, v => ∃ (a : Addr) (ws : List (Key × V)), v = .ref a ∧ Rd F a (.dK ws) ∧ ks = ws.map (·.1) ∧ RpA K F ds (ws.map (·.2))
  | .obj C ns ds, v => ∃ a dx vs, v = .ref a ∧ F a = some (.ins C dx (ns.zip vs)) ∧ ns.length = vs.length ∧ RpA K F ds vs
def RpA (K : PySem.W.Frag) (F : Hp) : List D → List V → Prop
  | [], vs => vs = []
  | d :: ds, vs => ∃ v ws, vs = v :: ws ∧ Rp K F d v ∧ RpA K F ds ws
end
theorem rd_same {F F' : Hp} {a : Addr} {u : HO} (e : Same F F') (h : Rd F a u) : Rd F' a u := by
  rcases h with h | ⟨o, h⟩
  · exact .inl (e _ _ h)
  · exact .inr ⟨o, e _ _ h⟩
section
variable {K : PySem.W.Frag} {F F' H H' : Hp}
mutual
theorem Rp.mono (e : Same F F') : ∀ {d : D} {v : V}, Rp K F d v → Rp K F' d v
  | .non, _, h => h
  | .bl _, _, h => h
  | .int _, _, h => h
  | .str _, _, h => h
  | .ty _, _, h => h
  | .opq _, _, h => h
  | .xv _ _ _ _ _, _, h => let ⟨e1, h1⟩ := h; ⟨e1, h1.imp id fun ⟨b, vs, e2, h2, h3, h4⟩ => ⟨b, vs, e2, e _ _ h2, h3, RpA.mono e h4⟩⟩
  | .lst ds, _, h => let ⟨a, vs, e1, h1, h2⟩ := h; ⟨a, vs, e1, e _ _ h1, RpA.mono e h2⟩
  | .scr ds, _, h => let ⟨a, e1, h1⟩ := h; ⟨a, e1, e.seq h1⟩
  | .tup ds, _, h => let ⟨a, vs, e1, h1, h2⟩ := h; ⟨a, vs, e1, e.tupq h1, RpA.mono e h2⟩
  | .dic w ks ds, _, h => let ⟨a, ws, e1, h1, h2, h3, h4, h5⟩ := h; ⟨a, ws, e1, e _ _ h1, h2, h3, RpA.mono e h4, RpA.mono e h5⟩
  | .dik ks ds, _, h => let ⟨a, ws, e1, h1, h2, h3⟩ := h; ⟨a, ws, e1, rd_same e h1, h2, RpA.mono e h3⟩
  | .obj C ns ds, _, h => let ⟨a, dx, vs, e1, h1, h2, h3⟩ := h; ⟨a, dx, vs, e1, e _ _ h1, h2, RpA.mono e h3⟩
theorem RpA.mono (e : Same F F') : ∀ {ds : List D} {vs : List V}, RpA K F ds vs → RpA K F' ds vs
  | [], _, h => h
  | _ :: _, _, h => let ⟨v, ws, e1, h1, h2⟩ := h; ⟨v, ws, e1, Rp.mono e h1, RpA.mono e h2⟩
end
theorem RpA.len : ∀ {ds : List D} {vs : List V}, RpA K F ds vs → ds.length = vs.length
  | [], _, h => by subst h; rfl
  | _ :: _, _, h => by
    obtain ⟨v, ws, rfl, _, h2⟩ := h
    exact congrArg (· + 1) (RpA.len h2)
theorem RpA.get : ∀ {ds : List D} {vs : List V}, RpA K F ds vs → ∀ {i : Nat} {d : D}, ds[i]? = some d → ∃ v, vs[i]? = some v ∧ Rp K F d v
  | [], _, _, i, d, e => by simp at e
  | x :: ds, _, h, 0, d, e => by
    obtain ⟨v, ws, rfl, h1, _⟩ := h
    have e1 : x = d := Option.some.inj e
    subst e1
    exact ⟨v, rfl, h1⟩
  | x :: ds, _, h, i + 1, d, e => by
    obtain ⟨v, ws, rfl, _, h2⟩ := h
    exact RpA.get h2 (i := i) e
theorem RpA.getV : ∀ {ds : List D} {vs : List V}, RpA K F ds vs → ∀ {i : Nat} {v : V}, vs[i]? = some v → ∃ d, ds[i]? = some d ∧ Rp K F d v
  | [], _, h, i, d, e => by subst h; simp at e
  | x :: ds, _, h, 0, d, e => by
    obtain ⟨v, ws, rfl, h1, _⟩ := h
    have e1 : v = d := Option.some.inj e
    subst e1
    exact ⟨x, rfl, h1⟩
  | x :: ds, _, h, i + 1, d, e => by
    obtain ⟨v, ws, rfl, _, h2⟩ := h
    exact RpA.getV h2 (i := i) e
theorem RpA.app : ∀ {ds es : List D} {vs ws : List V}, RpA K F ds vs → RpA K F es ws → RpA K F (ds ++ es) (vs ++ ws)
  | [], _, _, _, h, h' => by subst h; exact h'
  | _ :: _, _, _, _, h, h' => by
    obtain ⟨v, ws, rfl, h1, h2⟩ := h
    exact ⟨v, _, rfl, h1, RpA.app h2 h'⟩
theorem RpA.snoc {ds : List D} {vs : List V} {d : D} {v : V} (h : RpA K F ds vs) (h1 : Rp K F d v) : RpA K F (ds ++ [d]) (vs ++ [v]) := h.app ⟨v, [], rfl, h1, rfl⟩
theorem RpA.drop : ∀ {ds : List D} {vs : List V} (n : Nat), RpA K F ds vs → RpA K F (ds.drop n) (vs.drop n)
  | _, _, 0, h => h
  | [], _, n + 1, h => by subst h; exact rfl
  | _ :: _, _, n + 1, h => by
    obtain ⟨v, ws, rfl, h1, h2⟩ := h
    exact RpA.drop n h2
theorem RpA.take : ∀ {ds : List D} {vs : List V} (n : Nat), RpA K F ds vs → RpA K F (ds.take n) (vs.take n)
  | _, _, 0, h => by rw [List.take_zero, List.take_zero]; exact rfl
  | [], _, n + 1, h => by subst h; exact rfl
  | _ :: _, _, n + 1, h => by
    obtain ⟨v, ws, rfl, h1, h2⟩ := h
    exact ⟨v, _, rfl, h1, RpA.take n h2⟩
theorem RpA.rev : ∀ {ds : List D} {vs : List V}, RpA K F ds vs → RpA K F ds.reverse vs.reverse
  | [], _, h => by subst h; exact rfl
  | _ :: _, _, h => by
    obtain ⟨v, ws, rfl, h1, h2⟩ := h
    rw [List.reverse_cons, List.reverse_cons]
    exact (RpA.rev h2).snoc h1
theorem RpA.dropLast {ds : List D} {vs : List V} (h : RpA K F ds vs) : RpA K F ds.dropLast vs.dropLast := by
  rw [List.dropLast_eq_take, List.dropLast_eq_take, ← h.len]
  exact h.take _
theorem RpA.set : ∀ {ds : List D} {vs : List V} (n : Nat) {d : D} {v : V}, RpA K F ds vs → Rp K F d v → RpA K F (ds.set n d) (vs.set n v)
  | [], _, n, _, _, h, _ => by subst h; exact rfl
  | _ :: _, _, 0, _, _, h, h1 => by
    obtain ⟨v, ws, rfl, _, h2⟩ := h
    exact ⟨_, _, rfl, h1, h2⟩
  | _ :: _, _, n + 1, _, _, h, h1 => by
    obtain ⟨v, ws, rfl, h0, h2⟩ := h
    exact ⟨v, _, rfl, h0, RpA.set n h2 h1⟩
theorem RpA.erase : ∀ {ds : List D} {vs : List V} (n : Nat), RpA K F ds vs → RpA K F (ds.eraseIdx n) (vs.eraseIdx n)
  | [], _, n, h => by subst h; exact rfl
  | _ :: _, _, 0, h => by
    obtain ⟨v, ws, rfl, _, h2⟩ := h
    exact h2
  | _ :: _, _, n + 1, h => by
    obtain ⟨v, ws, rfl, h0, h2⟩ := h
    exact ⟨v, _, rfl, h0, RpA.erase n h2⟩
theorem RpA.rep {d : D} {v : V} (h : Rp K F d v) : ∀ n, RpA K F (List.replicate n d) (List.replicate n v)
  | 0 => rfl
  | n + 1 => ⟨v, _, rfl, h, RpA.rep h n⟩
theorem RpA.ints : ∀ {ns : List Int}, RpA K F (ns.map D.int) (ns.map V.int)
  | [] => rfl
  | _ :: _ => ⟨_, _, rfl, rfl, RpA.ints⟩
theorem RpA.intsV : ∀ {ns : List Int} {vs : List V}, RpA K F (ns.map D.int) vs → vs = ns.map V.int
  | [], _, h => h
  | n :: ns, _, h => by
    obtain ⟨v, ws, rfl, h0, h2⟩ := h
    rw [RpA.intsV h2, show v = .int n from h0]
    rfl
theorem RpA.strsV : ∀ {ns : List Str} {vs : List V}, RpA K F (ns.map D.str) vs → vs = ns.map V.str
  | [], _, h => h
  | n :: ns, _, h => by
    obtain ⟨v, ws, rfl, h0, h2⟩ := h
    rw [RpA.strsV h2, show v = .str n from h0]
    rfl
theorem RpA.blsV : ∀ {ns : List Bool} {vs : List V}, RpA K F (ns.map D.bl) vs → vs = ns.map V.bl
  | [], _, h => h
  | n :: ns, _, h => by
    obtain ⟨v, ws, rfl, h0, h2⟩ := h
    rw [RpA.blsV h2, show v = .bl n from h0]
    rfl

/-- a dict's pairs of keys and values -/
def PrK {κ : Type} (K : PySem.W.Frag) (F : Hp) : List (κ × D) → List (κ × V) → Prop := Paired fun p q => p.1 = q.1 ∧ Rp K F p.2 q.2
theorem PrK.mono {κ : Type} (e : Same F F') {xs : List (κ × D)} {ys : List (κ × V)} (h : PrK K F xs ys) : PrK K F' xs ys := Paired.mapP h fun _ _ z => ⟨z.1, z.2.mono e⟩
/-- .. of a dict of data keys: the keys' data too -/
def PrN (K : PySem.W.Frag) (F : Hp) : List (D × D) → List (D × Addr × V) → Prop := Paired fun p q => p.1 = q.1 ∧ D.hkN 6 p.1 = true ∧ Rp K F p.1 (.ref q.2.1) ∧ Rp K F p.2 q.2.2
theorem PrN.mono (e : Same F F') {xs : List (D × D)} {ys : List (D × Addr × V)} (h : PrN K F xs ys) : PrN K F' xs ys := Paired.mapP h fun _ _ z => ⟨z.1, z.2.1, z.2.2.1.mono e, z.2.2.2.mono e⟩
mutual
/-- the object at l, and the addresses that are its own -/
def ObjR (K : PySem.W.Frag) (F H : Hp) : O → Addr → List Addr → Prop
  | .lst ds, l, A => A = [l] ∧ ∃ vs, H l = some (.lst vs) ∧ RpA K F ds vs
  | .dk kvs, l, A => A = [l] ∧ ∃ ws, H l = some (.dK ws) ∧ PrK K F kvs ws
  | .dn w kvs, l, A => A = [l] ∧ ∃ ws, H l = some (dnO w l ws) ∧ PrN K F kvs ws
  | .nl cs, l, A => ∃ vs B, A = l :: B ∧ l ∉ B ∧ H l = some (.lst vs) ∧ PtsR K F H cs vs B
  | .nt cs, l, A => ∃ vs B, A = l :: B ∧ l ∉ B ∧ H l = some (.tup vs) ∧ PtsR K F H cs vs B
  | .ob C ns cs, l, A => ∃ dx vs B, A = l :: B ∧ l ∉ B ∧ H l = some (.ins C dx (ns.zip vs)) ∧ ns.length = vs.length ∧ PtsR K F H cs vs B
def PtsR (K : PySem.W.Frag) (F H : Hp) : List S → List V → List Addr → Prop
  | [], vs, A => vs = [] ∧ A = []
  | .fr d :: cs, vs, A => ∃ v ws, vs = v :: ws ∧ Rp K F d v ∧ PtsR K F H cs ws A
  | .hid v :: cs, vs, A => ∃ ws, vs = v :: ws ∧ PtsR K F H cs ws A
  | .ow _ o :: cs, vs, A => ∃ l ws A1 A2, vs = .ref l :: ws ∧ A = A1 ++ A2 ∧ (∀ a ∈ A1, a ∉ A2) ∧ ObjR K F H o l A1 ∧ PtsR K F H cs ws A2
end
mutual
theorem ObjR.mono (e : Same F F') : ∀ {o : O} {l : Addr} {A : List Addr}, ObjR K F H o l A → ObjR K F' H o l A
  | .lst _, _, _, h => let ⟨eA, vs, h1, h2⟩ := h; ⟨eA, vs, h1, h2.mono e⟩
  | .dk _, _, _, h => let ⟨eA, vs, h1, h2⟩ := h; ⟨eA, vs, h1, h2.mono e⟩
  | .dn _ _, _, _, h => let ⟨eA, vs, h1, h2⟩ := h; ⟨eA, vs, h1, h2.mono e⟩
  | .nl _, _, _, h => let ⟨vs, B, eA, h1, h2, h3⟩ := h; ⟨vs, B, eA, h1, h2, PtsR.mono e h3⟩
  | .nt _, _, _, h => let ⟨vs, B, eA, h1, h2, h3⟩ := h; ⟨vs, B, eA, h1, h2, PtsR.mono e h3⟩
  | .ob _ _ _, _, _, h => let ⟨dx, vs, B, eA, h1, h2, h3, h4⟩ := h; ⟨dx, vs, B, eA, h1, h2, h3, PtsR.mono e h4⟩
theorem PtsR.mono (e : Same F F') : ∀ {cs : List S} {vs : List V} {A : List Addr}, PtsR K F H cs vs A → PtsR K F' H cs vs A
  | [], _, _, h => h
  | .fr _ :: _, _, _, h => let ⟨v, ws, e1, h1, h2⟩ := h; ⟨v, ws, e1, h1.mono e, PtsR.mono e h2⟩
  | .hid _ :: _, _, _, h => let ⟨ws, e1, h2⟩ := h; ⟨ws, e1, PtsR.mono e h2⟩
  | .ow _ _ :: _, _, _, h => let ⟨l, ws, A1, A2, e1, e2, h1, h2, h3⟩ := h; ⟨l, ws, A1, A2, e1, e2, h1, ObjR.mono e h2, PtsR.mono e h3⟩
end
theorem ObjR.root : ∀ {o : O} {l : Addr} {A : List Addr}, ObjR K F H o l A → l ∈ A ∧ ∃ u, H l = some u
  | .lst _, _, _, h => let ⟨eA, vs, h1, h2⟩ := h; ⟨by rw [eA]; exact List.mem_cons_self, _, h1⟩
  | .dk _, _, _, h => let ⟨eA, vs, h1, h2⟩ := h; ⟨by rw [eA]; exact List.mem_cons_self, _, h1⟩
  | .dn _ _, _, _, h => let ⟨eA, vs, h1, h2⟩ := h; ⟨by rw [eA]; exact List.mem_cons_self, _, h1⟩
  | .nl _, _, _, h => let ⟨vs, B, eA, h1, h2, h3⟩ := h; ⟨by rw [eA]; exact List.mem_cons_self, _, h2⟩
  | .nt _, _, _, h => let ⟨vs, B, eA, h1, h2, h3⟩ := h; ⟨by rw [eA]; exact List.mem_cons_self, _, h2⟩
  | .ob _ _ _, _, _, h => let ⟨dx, vs, B, eA, h1, h2, h3, h4⟩ := h; ⟨by rw [eA]; exact List.mem_cons_self, _, h2⟩
mutual
theorem ObjR.has : ∀ {o : O} {l : Addr} {A : List Addr}, ObjR K F H o l A → ∀ a ∈ A, ∃ u, H a = some u
  | .lst _, _, _, h, a, ha => by
    obtain ⟨rfl, vs, h1, _⟩ := h
    cases List.mem_singleton.mp ha
    exact ⟨_, h1⟩
  | .dk _, _, _, h, a, ha => by
    obtain ⟨rfl, vs, h1, _⟩ := h
    cases List.mem_singleton.mp ha
    exact ⟨_, h1⟩
  | .dn _ _, _, _, h, a, ha => by
    obtain ⟨rfl, vs, h1, _⟩ := h
    cases List.mem_singleton.mp ha
    exact ⟨_, h1⟩
  | .nl _, _, _, h, a, ha => by
    obtain ⟨vs, B, rfl, h1, h2, h3⟩ := h
    rcases List.mem_cons.mp ha with z | z
    · rw [z]; exact ⟨_, h2⟩
    · exact PtsR.has h3 a z
  | .nt _, _, _, h, a, ha => by
    obtain ⟨vs, B, rfl, h1, h2, h3⟩ := h
    rcases List.mem_cons.mp ha with z | z
    · rw [z]; exact ⟨_, h2⟩
    · exact PtsR.has h3 a z
  | .ob _ _ _, _, _, h, a, ha => by
    obtain ⟨dx, vs, B, rfl, h1, h2, h3, h4⟩ := h
    rcases List.mem_cons.mp ha with z | z
    · rw [z]; exact ⟨_, h2⟩
    · exact PtsR.has h4 a z
theorem PtsR.has : ∀ {cs : List S} {vs : List V} {A : List Addr}, PtsR K F H cs vs A → ∀ a ∈ A, ∃ u, H a = some u
  | [], _, _, h, a, ha => by
    obtain ⟨_, rfl⟩ := h
    simp at ha
  | .fr _ :: _, _, _, h, a, ha => let ⟨v, ws, e1, h1, h2⟩ := h; PtsR.has h2 a ha
  | .hid _ :: _, _, _, h, a, ha => let ⟨ws, e1, h2⟩ := h; PtsR.has h2 a ha
  | .ow _ _ :: _, _, _, h, a, ha => by
    obtain ⟨l, ws, A1, A2, e1, rfl, h1, h2, h3⟩ := h
    rcases List.mem_append.mp ha with z | z
    · exact ObjR.has h2 a z
    · exact PtsR.has h3 a z
end
mutual
theorem ObjR.heap : ∀ {o : O} {l : Addr} {A : List Addr}, (∀ a ∈ A, ∀ u, H a = some u → H' a = some u) → ObjR K F H o l A → ObjR K F H' o l A
  | .lst _, l, _, e, h => by
    obtain ⟨rfl, vs, h1, h2⟩ := h
    exact ⟨rfl, vs, e l List.mem_cons_self _ h1, h2⟩
  | .dk _, l, _, e, h => by
    obtain ⟨rfl, vs, h1, h2⟩ := h
    exact ⟨rfl, vs, e l List.mem_cons_self _ h1, h2⟩
  | .dn _ _, l, _, e, h => by
    obtain ⟨rfl, vs, h1, h2⟩ := h
    exact ⟨rfl, vs, e l List.mem_cons_self _ h1, h2⟩
  | .nl _, l, _, e, h => by
    obtain ⟨vs, B, rfl, h1, h2, h3⟩ := h
    exact ⟨vs, B, rfl, h1, e l List.mem_cons_self _ h2, PtsR.heap (fun a ha => e a (List.mem_cons_of_mem _ ha)) h3⟩
  | .nt _, l, _, e, h => by
    obtain ⟨vs, B, rfl, h1, h2, h3⟩ := h
    exact ⟨vs, B, rfl, h1, e l List.mem_cons_self _ h2, PtsR.heap (fun a ha => e a (List.mem_cons_of_mem _ ha)) h3⟩
  | .ob _ _ _, l, _, e, h => by
    obtain ⟨dx, vs, B, rfl, h1, h2, h3, h4⟩ := h
    exact ⟨dx, vs, B, rfl, h1, e l List.mem_cons_self _ h2, h3, PtsR.heap (fun a ha => e a (List.mem_cons_of_mem _ ha)) h4⟩
theorem PtsR.heap : ∀ {cs : List S} {vs : List V} {A : List Addr}, (∀ a ∈ A, ∀ u, H a = some u → H' a = some u) → PtsR K F H cs vs A → PtsR K F H' cs vs A
  | [], _, _, _, h => h
  | .fr _ :: _, _, _, e, h => let ⟨v, ws, e1, h1, h2⟩ := h; ⟨v, ws, e1, h1, PtsR.heap e h2⟩
  | .hid _ :: _, _, _, e, h => let ⟨ws, e1, h2⟩ := h; ⟨ws, e1, PtsR.heap e h2⟩
  | .ow _ _ :: _, _, _, e, h => by
    obtain ⟨l, ws, A1, A2, e1, rfl, h1, h2, h3⟩ := h
    exact ⟨l, ws, A1, A2, e1, rfl, h1, ObjR.heap (fun a ha => e a (List.mem_append_left _ ha)) h2, PtsR.heap (fun a ha => e a (List.mem_append_right _ ha)) h3⟩
end
theorem PtsR.len : ∀ {cs : List S} {vs : List V} {A : List Addr}, PtsR K F H cs vs A → cs.length = vs.length
  | [], _, _, h => by obtain ⟨rfl, _⟩ := h; rfl
  | .fr _ :: _, _, _, h => by
    obtain ⟨v, ws, rfl, _, h2⟩ := h
    exact congrArg (· + 1) (PtsR.len h2)
  | .hid _ :: _, _, _, h => by
    obtain ⟨ws, rfl, h2⟩ := h
    exact congrArg (· + 1) (PtsR.len h2)
  | .ow _ _ :: _, _, _, h => by
    obtain ⟨l, ws, A1, A2, rfl, _, _, _, h3⟩ := h
    exact congrArg (· + 1) (PtsR.len h3)
theorem PrK.keys {κ : Type} {kvs : List (κ × D)} {ws : List (κ × V)} (h : PrK K F kvs ws) : kvs.map (·.1) = ws.map (·.1) ∧ RpA K F (kvs.map (·.2)) (ws.map (·.2)) := by
  induction h with
  | nil => exact ⟨rfl, rfl⟩
  | @cons x y xs ys h t ih => exact ⟨by rw [List.map_cons, List.map_cons, ih.1, h.1], ⟨_, _, rfl, h.2, ih.2⟩⟩
theorem PrN.keys {kvs : List (D × D)} {ws : List (D × Addr × V)} (h : PrN K F kvs ws) : kvs.map (·.1) = ws.map (·.1) ∧ (∀ k ∈ kvs.map (·.1), D.hkN 6 k = true) ∧ RpA K F (kvs.map (·.1)) (ws.map fun p => .ref p.2.1) ∧ RpA K F (kvs.map (·.2)) (ws.map (·.2.2)) := by
  induction h with
  | nil => exact ⟨rfl, fun _ h => (by cases h), rfl, rfl⟩
  | @cons x y xs ys h t ih =>
    refine ⟨by rw [List.map_cons, List.map_cons, ih.1, h.1], fun k hk => ?_, ⟨_, _, rfl, h.2.2.1, ih.2.2.1⟩, ⟨_, _, rfl, h.2.2.2, ih.2.2.2⟩⟩
    rcases List.mem_cons.mp hk with rfl | hk
    · exact h.2.1
    · exact ih.2.1 k hk
mutual
/-- frozen, it is data -/
theorem ObjR.frz : ∀ {o : O} {l : Addr} {A : List Addr}, Same F F' → (∀ a ∈ A, ∀ u, H a = some u → F' a = some u) → ObjR K F H o l A → Rp K F' o.dat (.ref l)
  | .lst ds, l, _, e, hA, h => by
    obtain ⟨rfl, vs, h1, h2⟩ := h
    exact ⟨l, vs, rfl, hA l List.mem_cons_self _ h1, h2.mono e⟩
  | .dk kvs, l, _, e, hA, h => by
    obtain ⟨rfl, ws, h1, h2⟩ := h
    have hk := h2.keys
    exact ⟨l, ws, rfl, .inl (hA l List.mem_cons_self _ h1), hk.1, hk.2.mono e⟩
  | .dn w kvs, l, _, e, hA, h => by
    obtain ⟨rfl, ws, h1, h2⟩ := h
    have hk := h2.keys
    exact ⟨l, ws, rfl, hA l List.mem_cons_self _ h1, hk.1, hk.2.1, hk.2.2.1.mono e, hk.2.2.2.mono e⟩
  | .nl cs, l, _, e, hA, h => by
    obtain ⟨vs, B, rfl, h1, h2, h3⟩ := h
    exact ⟨l, vs, rfl, hA l List.mem_cons_self _ h2, PtsR.frz e (fun a ha => hA a (List.mem_cons_of_mem _ ha)) h3⟩
  | .nt cs, l, _, e, hA, h => by
    obtain ⟨vs, B, rfl, h1, h2, h3⟩ := h
    exact ⟨l, vs, rfl, SqT.of (hA l List.mem_cons_self _ h2), PtsR.frz e (fun a ha => hA a (List.mem_cons_of_mem _ ha)) h3⟩
  | .ob C ns cs, l, _, e, hA, h => by
    obtain ⟨dx, vs, B, rfl, h1, h2, h3, h4⟩ := h
    exact ⟨l, dx, vs, rfl, hA l List.mem_cons_self _ h2, h3, PtsR.frz e (fun a ha => hA a (List.mem_cons_of_mem _ ha)) h4⟩
theorem PtsR.frz : ∀ {cs : List S} {vs : List V} {A : List Addr}, Same F F' → (∀ a ∈ A, ∀ u, H a = some u → F' a = some u) → PtsR K F H cs vs A → RpA K F' (S.dats cs) vs
  | [], _, _, _, _, h => by
    obtain ⟨rfl, rfl⟩ := h
    exact rfl
  | .fr _ :: _, _, _, e, hA, h => let ⟨v, ws, e1, h1, h2⟩ := h; ⟨v, ws, e1, h1.mono e, PtsR.frz e hA h2⟩
  | .hid _ :: _, _, _, e, hA, h => let ⟨ws, e1, h2⟩ := h; ⟨_, ws, e1, rfl, PtsR.frz e hA h2⟩
  | .ow _ _ :: _, _, _, e, hA, h => by
    obtain ⟨l, ws, A1, A2, rfl, rfl, h1, h2, h3⟩ := h
    exact ⟨_, ws, rfl, ObjR.frz e (fun a ha => hA a (List.mem_append_left _ ha)) h2, PtsR.frz e (fun a ha => hA a (List.mem_append_right _ ha)) h3⟩
end
end
/-- the tables of code objects (of the defs that make a lambda), and how their code objects are named -/
class Tbs where
  T : List (Addr × Str)
  base : Heap
variable [Tbs]
/-! ### states: slots by data, what a step leaves -/
/-- how an address is owned: a name's own, a lent object, a part of a lent object -/
inductive Tg where
  | o | r | p
  deriving DecidableEq
def tgR (b : Bool) : Tg := if b then .r else .o
def tgP (b : Bool) : Tg := if b then .p else .o
abbrev Om := Addr → Option (Nat × Tg)
/-- an exception by data: its class, its fields -/
structure Xc where
  C : Addr
  ns : List Str
  ds : List D
/-- what is wished of an exception: by the layer, by data -/
structure XI where
  W : WX
  e : Xc → Sl → Prop
abbrev XI.none : XI := ⟨fun _ _ _ _ => True, fun _ _ => False⟩
/-- what a def's own promise wishes of an exception -/
abbrev WK (E : XK) : WX := fun cls d _ H => E cls d H
abbrev E0x : XK := fun _ _ _ => False
/-- no exception leaves -/
abbrev XI.zero : XI := ⟨WK E0x, fun _ _ => False⟩
section
variable {K : PySem.W.Frag} {Ξ : XI}
def OwnAt (K : PySem.W.Frag) (F H : Hp) (ω : Om) (i : Nat) : S → V → Prop
  | .fr d, v => Rp K F d v
  | .hid u, v => v = u
  | .ow b o, v => ∃ l A, v = .ref l ∧ ω l = some (i, tgR b) ∧ (∀ a ∈ A, a ≠ l → ω a = some (i, tgP b)) ∧ ObjR K F H o l A
def tadr (b : Addr) : Prop := ∃ q, (b, q) ∈ Tbs.T
theorem tadr_ne {a b : Addr} (h : tadr b) (h' : ¬ tadr a) : b ≠ a := fun z => h' (z ▸ h)
/-- the tables stand, nobody owns them, and what they tell are code objects -/
def AllT (F H : Hp) (ω : Om) : Prop := ∀ p ∈ Tbs.T, F p.1 = none ∧ ω p.1 = none ∧ ∃ ps : Array Value, H p.1 = some (.tbl ps) ∧ TriplesOk ps.toList ∧ ∀ (pos : Pos) (cv : Value), codeAmong pos ps.toList = some cv → ∃ c, cv = .ref c ∧ F c = some (LamX.CodeO c p.2)
theorem AllT.go {F H F' H' : Hp} {ω ω' : Om} (h : AllT F H ω) (sf : Same F F') (fr : ∀ b o, tadr b → ω b = none → H b = some o → H' b = some o) (om : ∀ b o, tadr b → ω b = none → H b = some o → ω' b = none) (fn : ∀ b o, tadr b → ω b = none → H b = some o → F b = none → F' b = none) : AllT F' H' ω' := fun p hp => by
  obtain ⟨h1, h2, ps, h3, h4, h5⟩ := h p hp
  have ht : tadr p.1 := ⟨p.2, hp⟩
  refine ⟨fn _ _ ht h2 h3 h1, om _ _ ht h2 h3, ps, fr _ _ ht h2 h3, h4, fun pos cv hc => ?_⟩
  obtain ⟨c, e, h6⟩ := h5 pos cv hc
  exact ⟨c, e, sf _ _ h6⟩
theorem AllT.own {F H : Hp} {ω : Om} (h : AllT F H ω) {b : Addr} {p : Nat × Tg} (hb : ω b = some p) : ¬ tadr b := fun ⟨q, hq⟩ => by
  rw [(h _ hq).2.1] at hb
  cases hb
theorem AllT.new {F H : Hp} {ω : Om} (h : AllT F H ω) {b : Addr} (hb : H b = none) : ¬ tadr b := fun ⟨q, hq⟩ => by
  obtain ⟨_, _, ps, h3, _⟩ := h _ hq
  rw [hb] at h3
  cases h3
theorem AllT.frz {F H : Hp} {ω : Om} (h : AllT F H ω) {b : Addr} {o : HO} (hb : F b = some o) : ¬ tadr b := fun ⟨q, hq⟩ => by
  rw [(h _ hq).1] at hb
  cases hb
structure Sta0 (K : PySem.W.Frag) (F H : Hp) (ω : Om) (s : Sl) (σ : L2.St) : Prop where
  tb : AllT F H ω
  sf : Same F H
  ow : ∀ b p, ω b = some p → F b = none ∧ ∃ u, H b = some u
  at' : ∀ i x, s[i]? = some (some x) → ∃ v, σ[i]? = some (some v) ∧ OwnAt K F H ω i x v
  len : s.length = σ.length
  ix : ∀ b j c, ω b = some (j, c) → j < s.length
structure Stp (F H : Hp) (ω : Om) (F' H' : Hp) (ω' : Om) : Prop where
  tb0 : AllT F H ω
  tb : AllT F' H' ω'
  th : ∀ b o, ω b = none → H b = some o → ∃ o', H' b = some o'
  sf : Same F F'
  fr : ∀ b o, ¬ tadr b → ω b = none → H b = some o → H' b = some o
  om : ∀ b o, ω b = none → H b = some o → ω' b = none
  fn : ∀ b o, ω b = none → H b = some o → F b = none → F' b = none
  tr : ∀ b, H' b = none → H b = none
  bk : ∀ b j, ω' b = some (j, .r) ↔ ω b = some (j, .r)
  bp : ∀ b j o, H b = some o → ω b = some (j, .p) → ω' b = some (j, .p) ∨ ω' b = none
  kb : ∀ b j, ω' b = some (j, .p) → ω b = some (j, .p) ∨ H b = none
/-- .. where the tables stay as they are -/
theorem Stp.old {F H F' H' : Hp} {ω ω' : Om} (h : AllT F H ω) (sf : Same F F') (fr : ∀ b o, ω b = none → H b = some o → H' b = some o) (om : ∀ b o, ω b = none → H b = some o → ω' b = none) (fn : ∀ b o, ω b = none → H b = some o → F b = none → F' b = none)
    (tr : ∀ b, H' b = none → H b = none) (bk : ∀ b j, ω' b = some (j, .r) ↔ ω b = some (j, .r)) (bp : ∀ b j o, H b = some o → ω b = some (j, .p) → ω' b = some (j, .p) ∨ ω' b = none) (kb : ∀ b j, ω' b = some (j, .p) → ω b = some (j, .p) ∨ H b = none) : Stp F H ω F' H' ω' :=
  ⟨h, h.go sf (fun b o _ => fr b o) (fun b o _ => om b o) fun b o _ => fn b o, fun b o h1 h2 => ⟨o, fr b o h1 h2⟩, sf, fun b o _ h1 h2 => fr b o h1 h2, om, fn, tr, bk, bp, kb⟩
theorem Stp.refl {F H : Hp} {ω : Om} (h : AllT F H ω) : Stp F H ω F H ω := .old h (Same.refl F) (fun _ _ _ h => h) (fun _ _ h _ => h) (fun _ _ _ _ h => h) (fun _ h => h) (fun _ _ => Iff.rfl) (fun _ _ _ _ h => .inl h) fun _ _ h => .inl h
theorem Stp.trans {F H F1 H1 F2 H2 : Hp} {ω ω1 ω2 : Om} (a : Stp F H ω F1 H1 ω1) (b : Stp F1 H1 ω1 F2 H2 ω2) : Stp F H ω F2 H2 ω2 :=
  ⟨a.tb0, b.tb, fun c o h1 h2 => let ⟨o1, h3⟩ := a.th c o h1 h2; b.th c o1 (a.om c o h1 h2) h3,
   a.sf.trans b.sf, fun c o ht h1 h2 => b.fr c o ht (a.om c o h1 h2) (a.fr c o ht h1 h2), fun c o h1 h2 => let ⟨o1, h3⟩ := a.th c o h1 h2; b.om c o1 (a.om c o h1 h2) h3,
   fun c o h1 h2 h3 => let ⟨o1, h4⟩ := a.th c o h1 h2; b.fn c o1 (a.om c o h1 h2) h4 (a.fn c o h1 h2 h3), fun c h => a.tr c (b.tr c h), fun c j => (b.bk c j).trans (a.bk c j),
   fun c j o h0 h => by
     cases e : H1 c with
     | none => rw [a.tr c e] at h0; cases h0
     | some o1 =>
       rcases a.bp c j o h0 h with z | z
       · exact b.bp c j o1 e z
       · exact .inr (b.om c o1 z e), fun c j h => (b.kb c j h).elim (a.kb c j) fun z => .inr (a.tr c z)⟩
/-- an exception's own dict -/
def XdR (K : PySem.W.Frag) (F : Hp) (x : Xc) (d : Option Addr) : Prop := (x.ns = [] ∧ x.ds = [] ∧ d = none) ∨ ∃ b vs, d = some b ∧ F b = some (.xd (x.ns.zip vs)) ∧ (x.ns.length = vs.length ∧ x.ns ≠ []) ∧ RpA K F x.ds vs
theorem XdR.mono {F F' : Hp} (e : Same F F') {x : Xc} {d : Option Addr} (h : XdR K F x d) : XdR K F' x d := h.imp id fun ⟨b, vs, e2, h2, h3, h4⟩ => ⟨b, vs, e2, e _ _ h2, h3, h4.mono e⟩
/-- an exception may leave from here on -/
def Exo (K : PySem.W.Frag) (Ξ : XI) (F H : Hp) (ω : Om) : Prop := ∀ ⦃F' H' : Hp⦄ ⦃ω' : Om⦄ ⦃s' : Sl⦄ ⦃σ' : L2.St⦄ ⦃x : Xc⦄ ⦃d : Option Addr⦄, Stp F H ω F' H' ω' → Sta0 K F' H' ω' s' σ' → XdR K F' x d → Ξ.e x s' → Ξ.W (.ref x.C) d σ' H'
theorem Exo.step {F H F1 H1 : Hp} {ω ω1 : Om} (h : Exo K Ξ F H ω) (p : Stp F H ω F1 H1 ω1) : Exo K Ξ F1 H1 ω1 := fun _ _ _ _ _ _ _ q T r e => h (p.trans q) T r e
theorem Exo.nope {F H : Hp} {ω : Om} : Exo K XI.none F H ω := fun _ _ _ _ _ _ _ _ _ _ e => e.elim
theorem Exo.zero {F H : Hp} {ω : Om} : Exo K XI.zero F H ω := fun _ _ _ _ _ _ _ _ _ _ e => e.elim
structure Sta (K : PySem.W.Frag) (Ξ : XI) (F H : Hp) (ω : Om) (s : Sl) (σ : L2.St) : Prop extends Sta0 K F H ω s σ where
  ex : Exo K Ξ F H ω
theorem Sta.base {F H : Hp} {ω : Om} {s : Sl} {σ : L2.St} (T : Sta K Ξ F H ω s σ) : Sta0 K F H ω s σ := T.toSta0
/-- a result: data, or a new object of its own -/
def Rt (K : PySem.W.Frag) (H0 F H : Hp) (ω : Om) : S → V → Prop
  | .fr d, v => Rp K F d v
  | .hid u, v => v = u
  | .ow _ o, v => ∃ l A, v = .ref l ∧ (∀ a ∈ A, H0 a = none ∧ ω a = none ∧ F a = none) ∧ ObjR K F H o l A
theorem Rt.early {H0 H1 F H : Hp} {ω : Om} (h : ∀ b, H1 b = none → H0 b = none) : ∀ {x : S} {v : V}, Rt K H1 F H ω x v → Rt K H0 F H ω x v
  | .fr _, _, r => r
  | .hid _, _, r => r
  | .ow _ _, _, ⟨l, A, e, h0, r⟩ => ⟨l, A, e, fun a ha => ⟨h a (h0 a ha).1, (h0 a ha).2⟩, r⟩
/-- only new objects come -/
structure Ext (F H F' H' : Hp) : Prop where
  sf : Same F F'
  sh : Same H H'
  fn : ∀ b o, H b = some o → F b = none → F' b = none
  fs : Same F' H'
theorem Ext.refl {F H : Hp} (h : Same F H) : Ext F H F H := ⟨Same.refl F, Same.refl H, fun _ _ _ z => z, h⟩
theorem Ext.trans {F H F1 H1 F2 H2 : Hp} (a : Ext F H F1 H1) (b : Ext F1 H1 F2 H2) : Ext F H F2 H2 := ⟨a.sf.trans b.sf, a.sh.trans b.sh, fun c o h1 h2 => b.fn c o (a.sh c o h1) (a.fn c o h1 h2), b.fs⟩
/-- a new thing, to be read only -/
theorem Ext.fz {F H : Hp} (h : Same F H) {p : Addr} (hp : H p = none) (u : HO) : Ext F H (upd F p u) (upd H p u) := by
  have hF := h.free hp
  refine ⟨same_upd hF, same_upd hp, fun b o h1 h2 => ?_, fun b o e => ?_⟩
  · rw [upd_ne (ne_of_none h1 hp)]
    exact h2
  · by_cases hb : b = p
    · subst hb
      rw [upd_same] at e ⊢
      exact e
    · rw [upd_ne hb] at e ⊢
      exact h b o e
/-- a new thing of its own -/
theorem Ext.ow {F H : Hp} (h : Same F H) {p : Addr} (hp : H p = none) (u : HO) : Ext F H F (upd H p u) := ⟨Same.refl F, same_upd hp, fun _ _ _ z => z, h.trans (same_upd hp)⟩
theorem OwnAt.to {F H F' H' : Hp} {ω : Om} {i : Nat} {x : S} {v : V} (e1 : Same F F') (e2 : ∀ a u, (∃ p, ω a = some p) → H a = some u → H' a = some u) (h : OwnAt K F H ω i x v) : OwnAt K F' H' ω i x v := by
  cases x with
  | fr d => exact Rp.mono e1 h
  | hid u => exact h
  | ow b o =>
    obtain ⟨l, A, rfl, h1, h2, h3⟩ := h
    refine ⟨l, A, rfl, h1, h2, (h3.mono e1).heap fun a ha u hu => e2 a u ?_ hu⟩
    by_cases hl : a = l
    · rw [hl]; exact ⟨_, h1⟩
    · exact ⟨_, h2 a ha hl⟩
theorem Ext.stp0 {F H F' H' : Hp} {ω : Om} {s : Sl} {σ : L2.St} (e : Ext F H F' H') (t : Sta0 K F H ω s σ) : Stp F H ω F' H' ω ∧ Sta0 K F' H' ω s σ := by
  have p : Stp F H ω F' H' ω := .old t.tb e.sf (fun b o _ h => e.sh b o h) (fun _ _ h _ => h) (fun b o _ h1 h2 => e.fn b o h1 h2) (fun b h => e.sh.free h) (fun _ _ => Iff.rfl) (fun _ _ _ _ h => .inl h) fun _ _ h => .inl h
  refine ⟨p, ⟨p.tb, e.fs, fun b p h => ?_, fun i x h => ?_, t.len, t.ix⟩⟩
  · obtain ⟨h1, u, h2⟩ := t.ow b p h
    exact ⟨e.fn b u h2 h1, u, e.sh b u h2⟩
  · obtain ⟨v, h1, h2⟩ := t.at' i x h
    exact ⟨v, h1, h2.to e.sf fun a u _ hu => e.sh _ _ hu⟩
theorem Ext.stp {F H F' H' : Hp} {ω : Om} {s : Sl} {σ : L2.St} (e : Ext F H F' H') (t : Sta K Ξ F H ω s σ) : Stp F H ω F' H' ω ∧ Sta K Ξ F' H' ω s σ :=
  have p := e.stp0 t.base
  ⟨p.1, p.2, t.ex.step p.1⟩
/-- F, and what of H stands at A -/
noncomputable def fzA (F H : Hp) (A : List Addr) : Hp := fun b => if b ∈ A then H b else F b
theorem fzA_in {F H : Hp} {A : List Addr} {b : Addr} (h : b ∈ A) : fzA F H A b = H b := if_pos h
theorem fzA_out {F H : Hp} {A : List Addr} {b : Addr} (h : b ∉ A) : fzA F H A b = F b := if_neg h
theorem same_fzA {F H : Hp} {A : List Addr} (h : ∀ a ∈ A, F a = none) : Same F (fzA F H A) := fun b o e => by
  by_cases hb : b ∈ A
  · rw [h b hb] at e
    cases e
  · rw [fzA_out hb]
    exact e
theorem fzA_sub {F H : Hp} {A : List Addr} (h : Same F H) : Same (fzA F H A) H := fun b o e => by
  by_cases hb : b ∈ A
  · rw [fzA_in hb] at e
    exact e
  · rw [fzA_out hb] at e
    exact h b o e
theorem ObjR.fz {F H : Hp} {o : O} {l : Addr} {A : List Addr} (hF : ∀ a ∈ A, F a = none) (h : ObjR K F H o l A) : Rp K (fzA F H A) o.dat (.ref l) := h.frz (same_fzA hF) fun a ha u hu => by rw [fzA_in ha]; exact hu
/-- a result of its own becomes data -/
theorem Rt.frz {F0 H0 F H : Hp} {ω0 ω : Om} {s : Sl} {σ : L2.St} {x : S} {v : V} (p : Stp F0 H0 ω0 F H ω) (ex : Exo K Ξ F0 H0 ω0) (t : Sta K Ξ F H ω s σ) (r : Rt K H0 F H ω x v) :
    ∃ F', Stp F0 H0 ω0 F' H ω ∧ Sta K Ξ F' H ω s σ ∧ Rp K F' x.dat v ∧ Same F F' := by
  cases x with
  | fr d => exact ⟨F, p, t, r, Same.refl F⟩
  | hid u => exact ⟨F, p, t, r, Same.refl F⟩
  | ow b o =>
    obtain ⟨l, A, rfl, h0, h3⟩ := r
    have e := same_fzA (H := H) fun a ha => (h0 a ha).2.2
    have hT : AllT (fzA F H A) H ω := p.tb.go e (fun _ _ _ _ h => h) (fun _ _ _ h _ => h) fun b o ht _ _ h => by
      rw [fzA_out fun z => p.tb0.new (h0 b z).1 ht]
      exact h
    have p2 : Stp F0 H0 ω0 (fzA F H A) H ω := ⟨p.tb0, hT, p.th, p.sf.trans e, p.fr, p.om, fun b o q1 q2 q3 => by
      rw [fzA_out fun z => by rw [(h0 b z).1] at q2; cases q2]
      exact p.fn b o q1 q2 q3, p.tr, p.bk, p.bp, p.kb⟩
    refine ⟨fzA F H A, p2, ⟨⟨hT, fzA_sub t.sf, fun b q hq => ?_, fun i x h => ?_, t.len, t.ix⟩, ex.step p2⟩, h3.fz fun a ha => (h0 a ha).2.2, e⟩
    · obtain ⟨h4, h5⟩ := t.ow b q hq
      refine ⟨?_, h5⟩
      rw [fzA_out fun z => by rw [(h0 b z).2.1] at hq; cases hq]
      exact h4
    · obtain ⟨v, h4, h5⟩ := t.at' i x h
      exact ⟨v, h4, h5.to e fun _ _ _ hu => hu⟩
/-- addresses are let go -/
noncomputable def omOff (ω : Om) (A : List Addr) : Om := fun b => if b ∈ A then none else ω b
theorem omOff_in {ω : Om} {A : List Addr} {b : Addr} (h : b ∈ A) : omOff ω A b = none := if_pos h
theorem omOff_out {ω : Om} {A : List Addr} {b : Addr} (h : b ∉ A) : omOff ω A b = ω b := if_neg h
theorem omOff_some {ω : Om} {A : List Addr} {b : Addr} {p : Nat × Tg} (h : omOff ω A b = some p) : b ∉ A ∧ ω b = some p := by
  by_cases hb : b ∈ A
  · rw [omOff_in hb] at h
    cases h
  · rw [omOff_out hb] at h
    exact ⟨hb, h⟩
/-- addresses become a name's own -/
noncomputable def omOn (ω : Om) (A : List Addr) (p : Nat × Tg) : Om := fun b => if b ∈ A then some p else ω b
theorem omOn_in {ω : Om} {A : List Addr} {b : Addr} {p : Nat × Tg} (h : b ∈ A) : omOn ω A p b = some p := if_pos h
theorem omOn_out {ω : Om} {A : List Addr} {b : Addr} {p : Nat × Tg} (h : b ∉ A) : omOn ω A p b = ω b := if_neg h
theorem OwnAt.om {F H : Hp} {ω ω' : Om} {i : Nat} {x : S} {v : V} (h : OwnAt K F H ω i x v) (e : ∀ b c, ω b = some (i, c) → ω' b = some (i, c)) : OwnAt K F H ω' i x v := by
  cases x with
  | fr d => exact h
  | hid u => exact h
  | ow b o =>
    obtain ⟨l, A, rfl, h1, h2, h3⟩ := h
    exact ⟨l, A, rfl, e _ _ h1, fun a ha hl => e _ _ (h2 a ha hl), h3⟩
/-- all of a name's own object -/
theorem own_all {F H : Hp} {ω : Om} {i : Nat} {o : O} {v : V} (h : OwnAt K F H ω i (.ow false o) v) : ∃ l A, v = .ref l ∧ (∀ a ∈ A, ω a = some (i, .o)) ∧ ObjR K F H o l A := by
  obtain ⟨l, A, rfl, h1, h2, h3⟩ := h
  refine ⟨l, A, rfl, fun a ha => ?_, h3⟩
  by_cases hl : a = l
  · rw [hl]; exact h1
  · exact h2 a ha hl
theorem all_own {F H : Hp} {ω : Om} {i : Nat} {o : O} {l : Addr} {A : List Addr} (h : ∀ a ∈ A, ω a = some (i, .o)) (r : ObjR K F H o l A) : OwnAt K F H ω i (.ow false o) (.ref l) := ⟨l, A, rfl, h l r.root.1, fun a ha _ => h a ha, r⟩
/-- a name's own object is let go -/
theorem Sta.letgo {F H : Hp} {ω : Om} {s : Sl} {σ : L2.St} {i : Nat} {o : O} (T : Sta K Ξ F H ω s σ) (hi : s[i]? = some (some (.ow false o))) :
    ∃ l A, σ[i]? = some (some (.ref l)) ∧ (∀ a ∈ A, ω a = some (i, .o) ∧ F a = none ∧ omOff ω A a = none) ∧ Stp F H ω F H (omOff ω A) ∧ Sta K Ξ F H (omOff ω A) (s.set i none) σ ∧ ObjR K F H o l A := by
  obtain ⟨v, hv, hr⟩ := T.at' i _ hi
  obtain ⟨l, A, rfl, hA, ho⟩ := own_all hr
  have p : Stp F H ω F H (omOff ω A) := by
    refine .old T.tb (Same.refl F) (fun _ _ _ h => h) (fun b o h _ => ?_) (fun _ _ _ _ h => h) (fun _ h => h) (fun b j => ⟨fun h => (omOff_some h).2, fun h => ?_⟩) (fun b j _ _ h => ?_) fun b j h => .inl (omOff_some h).2
    · by_cases hb : b ∈ A
      · exact omOff_in hb
      · rw [omOff_out hb]; exact h
    · rw [omOff_out fun z => by rw [hA b z] at h; cases h]; exact h
    · rw [omOff_out fun z => by rw [hA b z] at h; cases h]; exact .inl h
  refine ⟨l, A, hv, fun a ha => ⟨hA a ha, (T.ow a _ (hA a ha)).1, omOff_in ha⟩, p, ⟨⟨p.tb, T.sf, fun b q hq => T.ow b q (omOff_some hq).2, fun j x h => ?_, by rw [List.length_set]; exact T.len, fun b j c h => by rw [List.length_set]; exact T.ix b j c (omOff_some h).2⟩, T.ex.step p⟩, ho⟩
  rw [List.getElem?_set] at h
  split at h
  · split at h
    · cases h
    · cases h
  · rename_i hij
    obtain ⟨v, h4, h5⟩ := T.at' j x h
    refine ⟨v, h4, h5.om fun b c hb => ?_⟩
    rw [omOff_out fun z => by rw [hA b z] at hb; cases hb; exact hij rfl]
    exact hb
/-- what nobody owns is frozen -/
theorem Sta.frzA {F H : Hp} {ω : Om} {s : Sl} {σ : L2.St} {A : List Addr} (T : Sta0 K F H ω s σ) (h : ∀ a ∈ A, ω a = none ∧ F a = none) (hA : ∀ a ∈ A, ¬ tadr a) : Sta0 K (fzA F H A) H ω s σ := by
  have e := same_fzA (H := H) fun a ha => (h a ha).2
  refine ⟨T.tb.go e (fun _ _ _ _ h => h) (fun _ _ _ h _ => h) (fun b o ht _ _ h => by rw [fzA_out fun z => hA b z ht]; exact h), fzA_sub T.sf, fun b q hq => ?_, fun i x hx => ?_, T.len, T.ix⟩
  · obtain ⟨h4, h5⟩ := T.ow b q hq
    refine ⟨?_, h5⟩
    rw [fzA_out fun z => by rw [(h b z).1] at hq; cases hq]
    exact h4
  · obtain ⟨v, h4, h5⟩ := T.at' i x hx
    exact ⟨v, h4, h5.to e fun _ _ _ hu => hu⟩
theorem Sta.set0 {F H : Hp} {ω : Om} {s : Sl} {σ : L2.St} {d : D} {v : V} (t : Sta0 K F H ω s σ) (i : Nat) (r : Rp K F d v) : Sta0 K F H ω (s.set i (some (.fr d))) (σ.set i (some v)) := by
  refine ⟨t.tb, t.sf, t.ow, fun j x h => ?_, by rw [List.length_set, List.length_set]; exact t.len, fun b j c h => by rw [List.length_set]; exact t.ix b j c h⟩
  rw [List.getElem?_set] at h ⊢
  split at h
  · rename_i hij
    rw [if_pos hij]
    split at h
    · rename_i hl
      rw [if_pos (by rw [← t.len]; exact hl)]
      have h' := Option.some.inj (Option.some.inj h)
      subst h'
      exact ⟨v, rfl, r⟩
    · cases h
  · rename_i hij
    rw [if_neg hij]
    exact t.at' j x h
/-- a name is bound to data -/
theorem Sta.set {F H : Hp} {ω : Om} {s : Sl} {σ : L2.St} {d : D} {v : V} (t : Sta K Ξ F H ω s σ) (i : Nat) (r : Rp K F d v) : Sta K Ξ F H ω (s.set i (some (.fr d))) (σ.set i (some v)) := ⟨Sta.set0 t.base i r, t.ex⟩
theorem Sta.setH {F H : Hp} {ω : Om} {s : Sl} {σ : L2.St} {u v : V} (t : Sta K Ξ F H ω s σ) (i : Nat) (r : v = u) : Sta K Ξ F H ω (s.set i (some (.hid u))) (σ.set i (some v)) := by
  refine ⟨⟨t.tb, t.sf, t.ow, fun j x h => ?_, by rw [List.length_set, List.length_set]; exact t.len, fun b j c h => by rw [List.length_set]; exact t.ix b j c h⟩, t.ex⟩
  rw [List.getElem?_set] at h ⊢
  split at h
  · rename_i hij
    rw [if_pos hij]
    split at h
    · rename_i hl
      rw [if_pos (by rw [← t.len]; exact hl)]
      have h' := Option.some.inj (Option.some.inj h)
      subst h'
      exact ⟨v, rfl, r⟩
    · cases h
  · rename_i hij
    rw [if_neg hij]
    exact t.at' j x h
/-- a slot is told anew, its value stays -/
theorem Sta.tell {F H : Hp} {ω : Om} {s : Sl} {σ : L2.St} {i : Nat} {v : V} {x : S} (T : Sta0 K F H ω s σ) (hv : σ[i]? = some (some v)) (h : OwnAt K F H ω i x v) : Sta0 K F H ω (s.set i (some x)) σ := by
  refine ⟨T.tb, T.sf, T.ow, fun j y hy => ?_, by rw [List.length_set]; exact T.len, fun b j c h => by rw [List.length_set]; exact T.ix b j c h⟩
  rw [List.getElem?_set] at hy
  split at hy
  · rename_i hij
    subst hij
    split at hy
    · cases hy
      exact ⟨v, hv, h⟩
    · cases hy
  · exact T.at' j y hy
/-- a slot's object becomes data -/
theorem Sta.frzSlot {F H : Hp} {ω : Om} {s : Sl} {σ : L2.St} {i : Nat} {o : O} (t : Sta K Ξ F H ω s σ) (hi : s[i]? = some (some (.ow false o))) :
    ∃ F' ω' v, Stp F H ω F' H ω' ∧ Sta K Ξ F' H ω' (s.set i (some (.fr o.dat))) σ ∧ σ[i]? = some (some v) ∧ Rp K F' o.dat v := by
  obtain ⟨l, A, hv, hA, p, T, ho⟩ := t.letgo hi
  have hF : ∀ a ∈ A, F a = none := fun a ha => (hA a ha).2.1
  have e := same_fzA (H := H) hF
  have hr := ho.fz hF
  have T2 := Sta.frzA T.base (fun a ha => ⟨(hA a ha).2.2, hF a ha⟩) fun a ha => t.tb.own (hA a ha).1
  have p2 : Stp F H ω (fzA F H A) H (omOff ω A) := ⟨t.tb, T2.tb, p.th, e, p.fr, p.om, fun b o h1 h2 h3 => by
    rw [fzA_out fun z => by rw [(hA b z).1] at h1; cases h1]
    exact h3, p.tr, p.bk, p.bp, p.kb⟩
  have T3 := Sta.tell (x := .fr o.dat) T2 hv hr
  rw [List.set_set] at T3
  exact ⟨_, _, _, p2, ⟨T3, t.ex.step p2⟩, hv, hr⟩
theorem Sta.get {F H : Hp} {ω : Om} {s : Sl} {σ : L2.St} {i : Nat} {d : D} (t : Sta K Ξ F H ω s σ) (hi : s[i]? = some (some (.fr d))) : ∃ v, σ[i]? = some (some v) ∧ Rp K F d v := t.at' i _ hi
/-- nothing is known of a name any more -/
theorem Sta.drop0 {F H : Hp} {ω : Om} {s : Sl} {σ : L2.St} (t : Sta0 K F H ω s σ) (i : Nat) : Sta0 K F H ω (s.set i none) σ := by
  refine ⟨t.tb, t.sf, t.ow, fun j x h => ?_, by rw [List.length_set]; exact t.len, fun b j c h => by rw [List.length_set]; exact t.ix b j c h⟩
  rw [List.getElem?_set] at h
  split at h
  · split at h
    · cases h
    · cases h
  · exact t.at' j x h
theorem Sta.drop {F H : Hp} {ω : Om} {s : Sl} {σ : L2.St} (t : Sta K Ξ F H ω s σ) (i : Nat) : Sta K Ξ F H ω (s.set i none) σ := ⟨Sta.drop0 t.base i, t.ex⟩
theorem Sta.dropσ0 {F H : Hp} {ω : Om} {s : Sl} {σ : L2.St} (t : Sta0 K F H ω s σ) (i : Nat) (o : Option V) : Sta0 K F H ω (s.set i none) (σ.set i o) := by
  refine ⟨t.tb, t.sf, t.ow, fun j x h => ?_, by rw [List.length_set, List.length_set]; exact t.len, fun b j c h => by rw [List.length_set]; exact t.ix b j c h⟩
  rw [List.getElem?_set] at h
  split at h
  · split at h
    · cases h
    · cases h
  · rename_i hij
    rw [List.getElem?_set_ne hij]
    exact t.at' j x h
theorem Sta.dropσ {F H : Hp} {ω : Om} {s : Sl} {σ : L2.St} (t : Sta K Ξ F H ω s σ) (i : Nat) (o : Option V) : Sta K Ξ F H ω (s.set i none) (σ.set i o) := ⟨Sta.dropσ0 t.base i o, t.ex⟩
/-- new addresses become a slot's own -/
theorem Stp.on {F0 H0 F H : Hp} {ω0 ω : Om} {A : List Addr} {i : Nat} (p : Stp F0 H0 ω0 F H ω) (h : ∀ a ∈ A, H0 a = none ∧ ω a = none) : Stp F0 H0 ω0 F H (omOn ω A (i, .o)) := by
  refine ⟨p.tb0, p.tb.go (Same.refl F) (fun _ _ _ _ h => h) (fun b o ht h1 _ => by rw [omOn_out fun z => p.tb0.new (h b z).1 ht]; exact h1) (fun _ _ _ _ _ h => h), p.th, p.sf, p.fr, fun c o q1 q2 => ?_, p.fn, p.tr, fun c j => ?_, fun c j o ho q => ?_, fun c j q => ?_⟩
  · rw [omOn_out fun z => by rw [(h c z).1] at q2; cases q2]
    exact p.om c o q1 q2
  · by_cases hc : c ∈ A
    · rw [omOn_in hc]
      refine ⟨fun z => (by cases z), fun z => ?_⟩
      rw [← p.bk, (h c hc).2] at z
      cases z
    · rw [omOn_out hc]
      exact p.bk c j
  · have hc : c ∉ A := fun hc => by
      rw [(h c hc).1] at ho
      cases ho
    rw [omOn_out hc]
    exact p.bp c j o ho q
  · by_cases hc : c ∈ A
    · rw [omOn_in hc] at q
      cases q
    · rw [omOn_out hc] at q
      exact p.kb c j q
/-- a name is bound to a new object -/
theorem Sta.setO {F0 H0 F H : Hp} {ω0 ω : Om} {s : Sl} {σ : L2.St} {b : Bool} {o : O} {v : V} (p : Stp F0 H0 ω0 F H ω) (ex : Exo K Ξ F0 H0 ω0) (t : Sta K Ξ F H ω s σ) (i : Nat) (r : Rt K H0 F H ω (.ow b o) v) :
    ∃ ω', Stp F0 H0 ω0 F H ω' ∧ Sta K Ξ F H ω' (s.set i (some (.ow false o))) (σ.set i (some v)) := by
  by_cases hi : i < s.length
  rotate_left
  · rw [List.set_eq_of_length_le (by omega), List.set_eq_of_length_le (by rw [← t.len]; omega)]
    exact ⟨ω, p, t⟩
  obtain ⟨l, A, rfl, h0, h3⟩ := r
  have p2 := p.on (i := i) fun a ha => ⟨(h0 a ha).1, (h0 a ha).2.1⟩
  refine ⟨omOn ω A (i, .o), p2, ⟨⟨p2.tb, t.sf, fun c q hq => ?_, fun j x h => ?_, by rw [List.length_set, List.length_set]; exact t.len, fun b j c h => ?_⟩, ex.step p2⟩⟩
  · by_cases hc : c ∈ A
    · exact ⟨(h0 c hc).2.2, h3.has c hc⟩
    · rw [omOn_out hc] at hq
      exact t.ow c q hq
  · rw [List.getElem?_set] at h ⊢
    split at h
    · rename_i hij
      subst hij
      rw [if_pos rfl]
      rw [if_pos (by rw [← t.len]; exact hi)]
      have h' := Option.some.inj (Option.some.inj h)
      subst h'
      exact ⟨_, rfl, all_own (fun a ha => omOn_in ha) h3⟩
    · rename_i hij
      rw [if_neg hij]
      obtain ⟨v, h4, h5⟩ := t.at' j x h
      refine ⟨v, h4, h5.om fun b c hb => ?_⟩
      rw [omOn_out fun z => by rw [(h0 b z).2.1] at hb; cases hb]
      exact hb
  · rw [List.length_set]
    by_cases hb : b ∈ A
    · rw [omOn_in hb] at h
      cases h
      exact hi
    · rw [omOn_out hb] at h
      exact t.ix b j c h
/-- the change of an object, seen from the state: the addresses A become A2 (some new), the rest stays -/
theorem Sta.chgB {F0 H0 F H H2 : Hp} {ω0 ω : Om} {s : Sl} {σ : L2.St} {b : Bool} {o2 : O} {l i : Nat} {A A2 : List Addr} (p0 : Stp F0 H0 ω0 F H ω) (t : Sta0 K F H ω s σ) (hv : σ[i]? = some (some (.ref l))) (h1 : ω l = some (i, tgR b)) (hA : ∀ a ∈ A, a ≠ l → ω a = some (i, tgP b))
    (hs : ∀ a, a ∉ A → ∀ u, H a = some u → H2 a = some u) (hk : ∀ a u, H a = some u → ∃ u2, H2 a = some u2) (hA2 : ∀ a ∈ A2, a ∈ A ∨ (H0 a = none ∧ ω a = none ∧ F a = none)) (hl : l ∈ A) (r : ObjR K F H2 o2 l A2) :
    ∃ ω', Stp F0 H0 ω0 F H2 ω' ∧ Sta0 K F H2 ω' (s.set i (some (.ow b o2))) σ := by
  classical
  have hω : ∀ a ∈ A2, a ≠ l → ω a = some (i, tgP b) ∨ (H0 a = none ∧ ω a = none ∧ F a = none) := fun a ha hl => (hA2 a ha).elim (fun z => .inl (hA a z hl)) .inr
  have hω' : ∀ c, (if c ∈ A2 ∧ c ≠ l then some (i, tgP b) else ω c) = ω c ∨ ((if c ∈ A2 ∧ c ≠ l then some (i, tgP b) else ω c) = some (i, tgP b) ∧ H0 c = none ∧ ω c = none ∧ F c = none) := fun c => by
    by_cases hc : c ∈ A2 ∧ c ≠ l
    · rw [if_pos hc]
      rcases hω c hc.1 hc.2 with z | z
      · exact .inl z.symm
      · exact .inr ⟨rfl, z⟩
    · rw [if_neg hc]
      exact .inl rfl
  have hnA : ∀ a j c, j ≠ i → ω a = some (j, c) → a ∉ A := fun a j c hj ha hm => by
    by_cases he : a = l
    · rw [he, h1] at ha
      cases ha
      exact hj rfl
    · rw [hA a hm he] at ha
      cases ha
      exact hj rfl
  have hnA0 : ∀ a, ω a = none → a ∉ A := fun a ha hm => by
    by_cases he : a = l
    · rw [he, h1] at ha
      cases ha
    · rw [hA a hm he] at ha
      cases ha
  have p : Stp F0 H0 ω0 F H2 (fun c => if c ∈ A2 ∧ c ≠ l then some (i, tgP b) else ω c) := by
    refine ⟨p0.tb0, p0.tb.go (Same.refl F) (fun c u ht h1 h2 => hs c (hnA0 c h1) u h2) (fun c u ht h1 h2 => ?_) (fun _ _ _ _ _ h => h), fun c u h1 h2 => ?_, p0.sf, fun c u ht h1 h2 => hs c (hnA0 c (p0.om c u h1 h2)) u (p0.fr c u ht h1 h2), fun c u q1 q2 => ?_, p0.fn, fun c h => ?_, fun c j => ?_, fun c j u q0 q => ?_, fun c j q => ?_⟩
    · rcases hω' c with z | ⟨_, z, _⟩
      · exact z.trans h1
      · exact absurd ht (p0.tb0.new z)
    · obtain ⟨u1, h3⟩ := p0.th c u h1 h2
      exact ⟨u1, hs c (hnA0 c (p0.om c u h1 h2)) u1 h3⟩
    · rcases hω' c with z | ⟨_, z, _⟩
      · exact z.trans (p0.om c u q1 q2)
      · rw [q2] at z; cases z
    · refine p0.tr c ?_
      cases e : H c with
      | none => rfl
      | some u =>
        obtain ⟨u2, h2⟩ := hk c u e
        rw [h] at h2
        cases h2
    · rw [← p0.bk c j]
      rcases hω' c with z | ⟨z, _, z1, _⟩
      · show (if c ∈ A2 ∧ c ≠ l then some (i, tgP b) else ω c) = _ ↔ _
        rw [z]
      · show (if c ∈ A2 ∧ c ≠ l then some (i, tgP b) else ω c) = _ ↔ _
        rw [z, z1]
        cases b <;> simp [tgP]
    · rcases hω' c with z | ⟨z, z1, _⟩
      · show (if c ∈ A2 ∧ c ≠ l then some (i, tgP b) else ω c) = _ ∨ (if c ∈ A2 ∧ c ≠ l then some (i, tgP b) else ω c) = _
        rw [z]
        exact p0.bp c j u q0 q
      · rw [q0] at z1; cases z1
    · rcases hω' c with z | ⟨_, z, _⟩
      · exact p0.kb c j (z.symm.trans q)
      · exact .inr z
  refine ⟨_, p, ⟨p.tb, fun c u h => ?_, fun c q h => ?_, fun j x h => ?_, by rw [List.length_set]; exact t.len, fun c j d h => ?_⟩⟩
  · have hc : c ∉ A := fun hm => by
      have : F c = none := by
        by_cases he : c = l
        · rw [he]; exact (t.ow l _ h1).1
        · exact (t.ow c _ (hA c hm he)).1
      rw [this] at h
      cases h
    exact hs c hc u (t.sf c u h)
  · rcases hω' c with z | ⟨z, z1, z2, z3⟩
    · have h' : ω c = some q := z.symm.trans h
      obtain ⟨q1, u, q2⟩ := t.ow c q h'
      exact ⟨q1, hk c u q2⟩
    · refine ⟨z3, ?_⟩
      by_cases hc : c ∈ A2 ∧ c ≠ l
      · exact r.has c hc.1
      · have h' : (if c ∈ A2 ∧ c ≠ l then some (i, tgP b) else ω c) = some (i, tgP b) := z
        rw [if_neg hc, z2] at h'
        cases h'
  · rw [List.getElem?_set] at h
    split at h
    · rename_i hij
      subst hij
      split at h
      · have h' := Option.some.inj (Option.some.inj h)
        subst h'
        refine ⟨_, hv, l, A2, rfl, ?_, fun a ha hl => ?_, r⟩
        · show (if l ∈ A2 ∧ l ≠ l then some (i, tgP b) else ω l) = _
          rw [if_neg fun z => z.2 rfl]
          exact h1
        · show (if a ∈ A2 ∧ a ≠ l then some (i, tgP b) else ω a) = _
          rw [if_pos ⟨ha, hl⟩]
      · cases h
    · rename_i hij
      obtain ⟨v, h4, h5⟩ := t.at' j x h
      refine ⟨v, h4, ?_⟩
      cases x with
      | fr d => exact h5
      | hid u => exact h5
      | ow c o =>
        obtain ⟨l', B, rfl, h6, h7, h8⟩ := h5
        have hj : j ≠ i := fun z => hij z.symm
        have hB : ∀ a ∈ B, ∃ d, ω a = some (j, d) := fun a ha => by
          by_cases he : a = l'
          · rw [he]; exact ⟨_, h6⟩
          · exact ⟨_, h7 a ha he⟩
        have keep : ∀ a d, ω a = some (j, d) → (if a ∈ A2 ∧ a ≠ l then some (i, tgP b) else ω a) = some (j, d) := fun a d ha => by
          rcases hω' a with z | ⟨_, _, z, _⟩
          · exact z.trans ha
          · rw [z] at ha; cases ha
        exact ⟨l', B, rfl, keep _ _ h6, fun a ha hl => keep _ _ (h7 a ha hl), h8.heap fun a ha u hu => by
          obtain ⟨d, hd⟩ := hB a ha
          exact hs a (hnA a j d hj hd) u hu⟩
  · rw [List.length_set]
    rcases hω' c with z | ⟨z, _⟩
    · exact t.ix c j d (z.symm.trans h)
    · have z' : some (i, tgP b) = some (j, d) := z.symm.trans h
      cases z'
      exact t.ix l i _ h1
theorem Sta.free {F H : Hp} {ω : Om} {s : Sl} {σ : L2.St} (T : Sta0 K F H ω s σ) {l : Addr} (h0 : H l = none) : ω l = none := by
  cases hw : ω l with
  | none => rfl
  | some w =>
    obtain ⟨_, u, hu⟩ := T.ow l w hw
    rw [h0] at hu
    cases hu
theorem Sta.chg {F H H2 : Hp} {ω : Om} {s : Sl} {σ : L2.St} {b : Bool} {o2 : O} {l i : Nat} {A A2 : List Addr} (t : Sta K Ξ F H ω s σ) (hv : σ[i]? = some (some (.ref l))) (h1 : ω l = some (i, tgR b)) (hA : ∀ a ∈ A, a ≠ l → ω a = some (i, tgP b))
    (hs : ∀ a, a ∉ A → ∀ u, H a = some u → H2 a = some u) (hk : ∀ a u, H a = some u → ∃ u2, H2 a = some u2) (hA2 : ∀ a ∈ A2, a ∈ A ∨ H a = none) (hl : l ∈ A) (r : ObjR K F H2 o2 l A2) :
    ∃ ω', Stp F H ω F H2 ω' ∧ Sta K Ξ F H2 ω' (s.set i (some (.ow b o2))) σ := by
  obtain ⟨ω', p, T⟩ := Sta.chgB (Stp.refl t.tb) t.base hv h1 hA hs hk (fun a ha => (hA2 a ha).imp id fun z => ⟨z, Sta.free t.base z, t.sf.free z⟩) hl r
  exact ⟨ω', p, T, t.ex.step p⟩
theorem upd_keep {H : Hp} {l : Addr} {u : HO} : ∀ a w, H a = some w → ∃ w2, upd H l u a = some w2 := fun a w h => by
  by_cases ha : a = l
  · subst ha
    exact ⟨u, upd_same⟩
  · rw [upd_ne ha]
    exact ⟨w, h⟩
/-- a slot's simple object is changed -/
theorem Sta.mut {F H : Hp} {ω : Om} {s : Sl} {σ : L2.St} {b : Bool} {o' : O} {l i : Nat} {u : HO} (t : Sta K Ξ F H ω s σ) (hv : σ[i]? = some (some (.ref l))) (hl : ω l = some (i, tgR b)) (r : ObjR K F (upd H l u) o' l [l]) :
    ∃ ω', Stp F H ω F (upd H l u) ω' ∧ Sta K Ξ F (upd H l u) ω' (s.set i (some (.ow b o'))) σ :=
  t.chg (A := [l]) (A2 := [l]) hv hl (fun a ha hne => absurd (List.mem_singleton.mp ha) hne) (fun a ha w hw => by rw [upd_ne fun z => ha (List.mem_singleton.mpr z)]; exact hw) upd_keep (fun a ha => .inl ha) (List.mem_singleton.mpr rfl) r
end
section
variable {K : PySem.W.Frag} {Ξ : XI}
/-- a name's own list -/
theorem Sta.lst {F H : Hp} {ω : Om} {s : Sl} {σ : L2.St} {b : Bool} {xs : List D} (T : Sta K Ξ F H ω s σ) (i : Nat) (h : s[i]? = some (some (.ow b (.lst xs)))) :
    ∃ v, σ[i]? = some (some v) ∧ ∃ l, v = .ref l ∧ ω l = some (i, tgR b) ∧ ∃ ws, H l = some (.lst ws) ∧ RpA K F xs ws := by
  obtain ⟨v, hv, l, A, rfl, h1, _, _, ws, h2, h3⟩ := T.at' i _ h
  exact ⟨_, hv, l, rfl, h1, ws, h2, h3⟩
theorem obj_lst {F H : Hp} {l : Addr} {xs : List D} {ws : List V} (h : H l = some (.lst ws)) (r : RpA K F xs ws) : ObjR K F H (.lst xs) l [l] := ⟨rfl, ws, h, r⟩
end
/-! ### readings by data -/
/-- what an expression gives, by data -/
abbrev PX := Sl → (S → Sl → Prop) → Prop
/-- an expression whose value is data -/
abbrev PD := Sl → (D → Sl → Prop) → Prop
class LiftE (K : PySem.W.Frag) (Ξ : XI) (t : TE) (p : outParam PX) : Prop where
  run : ∀ {F H : Hp} {ω : Om} {s : Sl} {σ : L2.St} {Q : VK} (q : S → Sl → Prop), Sta K Ξ F H ω s σ → p s q →
    (∀ v F' H' ω' x s', Stp F H ω F' H' ω' → Sta K Ξ F' H' ω' s' σ → Rt K H F' H' ω' x v → q x s' → Q v H') → t σ H Q
/-- .. frozen -/
class LiftD (K : PySem.W.Frag) (Ξ : XI) (t : TE) (p : outParam PD) : Prop where
  run : ∀ {F H : Hp} {ω : Om} {s : Sl} {σ : L2.St} {Q : VK} (q : D → Sl → Prop), Sta K Ξ F H ω s σ → p s q →
    (∀ v F' H' ω' d s', Stp F H ω F' H' ω' → Sta K Ξ F' H' ω' s' σ → Rp K F' d v → q d s' → Q v H') → t σ H Q
def pDat (p : PX) : PD := fun s q => p s fun x s' => q x.dat s'
instance {K : PySem.W.Frag} {Ξ : XI} {t : TE} {p : PX} [LiftE K Ξ t p] : LiftD K Ξ t (pDat p) := ⟨fun {F H ω s σ Q} q T h k =>
  LiftE.run (K := K) (t := t) (p := p) (fun x s' => q x.dat s') T h fun v F' H' ω' x s' p' T' r hq => by
    obtain ⟨F2, p2, T2, r2, _⟩ := Rt.frz p' T.ex T' r
    exact k v F2 H' ω' x.dat s' p2 T2 r2 hq⟩
section
variable {K : PySem.W.Frag} {Ξ : XI}
/-! names, constants -/
def pVar (i : Nat) : PX := fun s q => match s[i]? with
  | some (some (.fr d)) => q (.fr d) s
  | some (some (.ow false o)) => q (.fr o.dat) (s.set i (some (.fr o.dat)))
  | _ => False
theorem liftVar (i : Nat) {F H : Hp} {ω : Om} {s : Sl} {σ : L2.St} (q : S → Sl → Prop) (T : Sta K Ξ F H ω s σ) (h : pVar i s q) :
    ∃ v F' ω' d s', σ[i]? = some (some v) ∧ Stp F H ω F' H ω' ∧ Sta K Ξ F' H ω' s' σ ∧ Rp K F' d v ∧ q (.fr d) s' := by
  unfold pVar at h
  split at h
  · rename_i d e
    obtain ⟨v, hv, r⟩ := T.get e
    exact ⟨v, F, ω, d, s, hv, Stp.refl T.tb, T, r, h⟩
  · rename_i o e
    obtain ⟨F', ω', v, p, T', hv, r⟩ := T.frzSlot e
    exact ⟨v, F', ω', _, _, hv, p, T', r, h⟩
  · exact h.elim
instance (i : Nat) : LiftE K Ξ (tVar i) (pVar i) := ⟨fun q T h k => by
  obtain ⟨v, F', ω', d, s', hv, p, T', r, hq⟩ := liftVar i q T h
  exact ⟨v, hv, k v F' _ ω' (.fr d) s' p T' r hq⟩⟩
def vS : V → Option D
  | .non => some .non
  | .bl b => some (.bl b)
  | .int i => some (.int i)
  | .str x => some (.str x)
  | _ => none
theorem vS_rp {F : Hp} : ∀ {v : V} {d : D}, vS v = some d → Rp K F d v
  | .non, _, h => by cases h; rfl
  | .bl _, _, h => by cases h; rfl
  | .int _, _, h => by cases h; rfl
  | .str _, _, h => by cases h; rfl
/-- a plain value -/
def qV (v : V) (q : D → Prop) : Prop := match vS v with
  | some d => q d
  | none => False
theorem qV_rp {v : V} {q : D → Prop} (h : qV v q) (F : Hp) : ∃ d, Rp K F d v ∧ q d := by
  unfold qV at h
  split at h
  · rename_i d e
    exact ⟨d, vS_rp e, h⟩
  · exact h.elim
/-- a constant: data that stands in the written part, or a plain value -/
class ConD (K : PySem.W.Frag) (v : V) (d : outParam D) : Prop where
  rp : ∀ F : Hp, Rp K F d v
instance (b : Bool) : ConD K (.bl b) (.bl b) := ⟨fun _ => rfl⟩
instance (i : Int) : ConD K (.int i) (.int i) := ⟨fun _ => rfl⟩
instance (x : Str) : ConD K (.str x) (.str x) := ⟨fun _ => rfl⟩
instance : ConD K .non .non := ⟨fun _ => rfl⟩
def pC (d : D) : PX := fun s q => q (.fr d) s
instance {v : V} {d : D} [ConD K v d] : LiftE K Ξ (tC v) (pC d) := ⟨fun {F H ω s σ Q} q T h k => k v F H ω (.fr d) s (Stp.refl T.tb) T (ConD.rp F : Rp K F d v) h⟩
/-! operators by values -/
/-- a result that is data, or new -/
def Rn (K : PySem.W.Frag) (H0 F H : Hp) : S → V → Prop
  | .fr d, v => Rp K F d v
  | .hid u, v => v = u
  | .ow _ o, v => ∃ l A, v = .ref l ∧ (∀ a ∈ A, H0 a = none ∧ F a = none) ∧ ObjR K F H o l A
theorem Rn.rt {F0 H0 F H F' H' : Hp} {ω0 ω : Om} {s : Sl} {σ : L2.St} (p : Stp F0 H0 ω0 F H ω) (T : Sta K Ξ F H ω s σ) : ∀ {x : S} {v : V}, Rn K H F' H' x v → Rt K H0 F' H' ω x v
  | .fr _, _, r => r
  | .hid _, _, r => r
  | .ow _ _, _, ⟨l, A, e, h0, r⟩ => ⟨l, A, e, fun a ha => ⟨p.tr a (h0 a ha).1, Sta.free T.base (h0 a ha).1, (h0 a ha).2⟩, r⟩
theorem one_new {H F : Hp} {p : Addr} (h : H p = none) (h2 : F p = none) : ∀ a ∈ [p], H a = none ∧ F a = none := fun a ha => by
  cases List.mem_singleton.mp ha
  exact ⟨h, h2⟩
class OpL (K : PySem.W.Frag) (r : R2) (g : outParam (D → D → (S → Prop) → Prop)) : Prop where
  run : ∀ {F H : Hp} {x y : V} {d e : D} {Q : VK} (q : S → Prop), Same F H → Rp K F d x → Rp K F e y → g d e q → (∀ v F' H' z, Ext F H F' H' → Rn K H F' H' z v → q z → Q v H') → r x y H Q
def pOp (g : D → D → (S → Prop) → Prop) (pa pb : PD) : PX := fun s q => pa s fun d s1 => pb s1 fun e s2 => g d e fun z => q z s2
instance {r : R2} {g : D → D → (S → Prop) → Prop} {ta tb : TE} {pa pb : PD} [OpL K r g] [LiftD K Ξ ta pa] [LiftD K Ξ tb pb] : LiftE K Ξ (tOp r ta tb) (pOp g pa pb) := ⟨fun q T h k => by
  refine LiftD.run (K := K) (t := ta) (p := pa) _ T h fun x F1 H1 ω1 d s1 p1 T1 r1 h1 => ?_
  refine LiftD.run (K := K) (t := tb) (p := pb) _ T1 h1 fun y F2 H2 ω2 e s2 p2 T2 r2 h2 => ?_
  refine OpL.run (K := K) (r := r) (g := g) _ T2.sf (r1.mono p2.sf) r2 h2 fun v F3 H3 z e3 r3 hq => ?_
  obtain ⟨p3, T3⟩ := e3.stp T2
  exact k v F3 H3 ω2 z s2 ((p1.trans p2).trans p3) T3 (Rn.rt (p1.trans p2) T2 r3) hq⟩
class UnL (K : PySem.W.Frag) (r : V → Hp → VK → Prop) (g : outParam (D → (S → Prop) → Prop)) : Prop where
  run : ∀ {F H : Hp} {x : V} {d : D} {Q : VK} (q : S → Prop), Same F H → Rp K F d x → g d q → (∀ v F' H' z, Ext F H F' H' → Rn K H F' H' z v → q z → Q v H') → r x H Q
def pUn (g : D → (S → Prop) → Prop) (pa : PD) : PX := fun s q => pa s fun d s1 => g d fun z => q z s1
instance {r : V → Hp → VK → Prop} {g : D → (S → Prop) → Prop} {ta : TE} {pa : PD} [UnL K r g] [LiftD K Ξ ta pa] : LiftE K Ξ (tUn r ta) (pUn g pa) := ⟨fun q T h k => by
  refine LiftD.run (K := K) (t := ta) (p := pa) _ T h fun x F1 H1 ω1 d s1 p1 T1 r1 h1 => ?_
  refine UnL.run (K := K) (r := r) (g := g) _ T1.sf r1 h1 fun v F3 H3 z e3 r3 hq => ?_
  obtain ⟨p3, T3⟩ := e3.stp T1
  exact k v F3 H3 ω1 z s1 (p1.trans p3) T3 (Rn.rt p1 T1 r3) hq⟩
theorem rp_int {F : Hp} {i : Int} {v : V} (h : Rp K F (.int i) v) : v = .int i := h
/-- plain answers -/
theorem plain {F H : Hp} {w : V} {Q : VK} {q : S → Prop} (e : Same F H) (h : qV w fun d => q (.fr d)) (k : ∀ v F' H' z, Ext F H F' H' → Rn K H F' H' z v → q z → Q v H') : Q w H := by
  obtain ⟨d, r, hq⟩ := qV_rp (K := K) h F
  exact k w F H (.fr d) (Ext.refl e) r hq
def gI0 (g : Int → Int → V) : D → D → (S → Prop) → Prop := fun d e q => match d, e with
  | .int i, .int j => qV (g i j) fun z => q (.fr z)
  | _, _ => False
instance (g : Int → Int → V) : OpL K (rI0 g) (gI0 g) := ⟨fun {F H x y d e Q} q hs h1 h2 h k => by
  unfold gI0 at h
  split at h
  · exact ⟨_, _, h1, h2, plain hs h k⟩
  · exact h.elim⟩
def gI (C : Int → Int → Prop) (g : Int → Int → V) : D → D → (S → Prop) → Prop := fun d e q => match d, e with
  | .int i, .int j => C i j ∧ qV (g i j) fun z => q (.fr z)
  | _, _ => False
instance (C : Int → Int → Prop) (g : Int → Int → V) : OpL K (rI C g) (gI C g) := ⟨fun {F H x y d e Q} q hs h1 h2 h k => by
  unfold gI at h
  split at h
  · exact ⟨_, _, h1, h2, h.1, plain hs h.2 k⟩
  · exact h.elim⟩
def gU (g : Int → V) : D → (S → Prop) → Prop := fun d q => match d with
  | .int i => qV (g i) fun z => q (.fr z)
  | _ => False
instance (g : Int → V) : UnL K (rU g) (gU g) := ⟨fun {F H x d Q} q hs h1 h k => by
  unfold gU at h
  split at h
  · exact ⟨_, h1, plain hs h k⟩
  · exact h.elim⟩
def gEq (f : Bool → Bool) : D → D → (S → Prop) → Prop := fun d e q => match d, e with
  | .int i, .int j => q (.fr (.bl (f (decide (i = j)))))
  | .str i, .str j => q (.fr (.bl (f (decide (i = j)))))
  | .bl i, .bl j => q (.fr (.bl (f (decide (i = j)))))
  | _, _ => False
theorem dec_v {α : Type} {a b : V} {x y : α} [Decidable (x = y)] (h : a = b ↔ x = y) : decide (a = b) = decide (x = y) := by
  by_cases e : x = y
  · rw [decide_eq_true e, decide_eq_true (h.mpr e)]
  · rw [decide_eq_false e, decide_eq_false fun z => e (h.mp z)]
theorem gEq_run (f : Bool → Bool) {F H : Hp} {x y : V} {d e : D} {Q : VK} (q : S → Prop) (hs : Same F H) (h1 : Rp K F d x) (h2 : Rp K F e y) (h : gEq f d e q)
    (k : ∀ v F' H' z, Ext F H F' H' → Rn K H F' H' z v → q z → Q v H') : scal x y = true ∧ Q (.bl (f (decide (x = y)))) H := by
  unfold gEq at h
  split at h
  · cases (show x = _ from h1)
    cases (show y = _ from h2)
    refine ⟨rfl, k _ F H (.fr (.bl _)) (Ext.refl hs) rfl ?_⟩
    rw [dec_v ⟨V.int.inj, congrArg V.int⟩]
    exact h
  · cases (show x = _ from h1)
    cases (show y = _ from h2)
    refine ⟨rfl, k _ F H (.fr (.bl _)) (Ext.refl hs) rfl ?_⟩
    rw [dec_v ⟨V.str.inj, congrArg V.str⟩]
    exact h
  · cases (show x = _ from h1)
    cases (show y = _ from h2)
    refine ⟨rfl, k _ F H (.fr (.bl _)) (Ext.refl hs) rfl ?_⟩
    rw [dec_v ⟨V.bl.inj, congrArg V.bl⟩]
    exact h
  · exact h.elim
instance : OpL K rEq (gEq id) := ⟨fun q hs h1 h2 h k => gEq_run id q hs h1 h2 h k⟩
instance : OpL K rNe (gEq not) := ⟨fun q hs h1 h2 h k => gEq_run not q hs h1 h2 h k⟩
def isNon : D → Bool
  | .non => true
  | .opq u => decide (u = V.non)
  | _ => false
theorem isNon_v {F : Hp} {d : D} {x : V} (h : Rp K F d x) : decide (x = .non) = isNon d := by
  cases d with
  | non => cases (show x = _ from h); rfl
  | bl b => cases (show x = _ from h); rfl
  | int b => cases (show x = _ from h); rfl
  | str b => cases (show x = _ from h); rfl
  | lst ds => obtain ⟨a, vs, rfl, _⟩ := h; rfl
  | scr ds => obtain ⟨a, rfl, _⟩ := h; rfl
  | ty n => cases (show x = _ from h); rfl
  | tup ds => obtain ⟨a, vs, rfl, _⟩ := h; rfl
  | dic w ks ds => obtain ⟨a, vs, rfl, _⟩ := h; rfl
  | dik ks ds => obtain ⟨a, vs, rfl, _⟩ := h; rfl
  | obj C ns ds => obtain ⟨a, dx, vs, rfl, _⟩ := h; rfl
  | xv a C d ns ds => cases h.1; rfl
  | opq u => cases (show x = _ from h); rfl
def gIsN (f : Bool → Bool) : D → D → (S → Prop) → Prop := fun d e q => match e with
  | .non => q (.fr (.bl (f (isNon d))))
  | _ => False
instance : OpL K (fun x y H Q => y = .non ∧ Q (.bl (decide (x = .non))) H) (gIsN id) := ⟨fun {F H x y d e Q} q hs h1 h2 h k => by
  unfold gIsN at h
  split at h
  · refine ⟨h2, ?_⟩
    rw [isNon_v h1]
    exact k _ F H (.fr (.bl _)) (Ext.refl hs) rfl h
  · exact h.elim⟩
instance : OpL K (fun x y H Q => y = .non ∧ Q (.bl (!decide (x = .non))) H) (gIsN not) := ⟨fun {F H x y d e Q} q hs h1 h2 h k => by
  unfold gIsN at h
  split at h
  · refine ⟨h2, ?_⟩
    rw [isNon_v h1]
    exact k _ F H (.fr (.bl _)) (Ext.refl hs) rfl h
  · exact h.elim⟩
/-! items of sequences -/
def gIxL : D → D → (S → Prop) → Prop := fun d e q => match d, e with
  | .lst ds, .int i => match atI ds i with
    | some z => q (.fr z)
    | none => False
  | _, _ => False
def gIxT : D → D → (S → Prop) → Prop := fun d e q => match d, e with
  | .tup ds, .int i => match atI ds i with
    | some z => q (.fr z)
    | none => False
  | _, _ => False
theorem RpA.atI {F : Hp} {ds : List D} {vs : List V} {i : Int} {d : D} (h : RpA K F ds vs) (e : atI ds i = some d) : ∃ v, L2.atI vs i = some v ∧ Rp K F d v := by
  unfold L2.atI at e ⊢
  rw [← h.len]
  cases hx : ixN ds.length i with
  | none => rw [hx] at e; cases e
  | some j =>
    rw [hx] at e
    exact h.get e
instance : OpL K (rIxL K) gIxL := ⟨fun {F H x y d e Q} q hs h1 h2 h k => by
  unfold gIxL at h
  split at h
  · split at h
    · rename_i z hz
      obtain ⟨a, vs, rfl, h3, h4⟩ := h1
      obtain ⟨v, hv, r⟩ := h4.atI hz
      exact ⟨a, vs, _, v, rfl, h2, SqL.of (hs _ _ h3), hv, k v F H (.fr z) (Ext.refl hs) r h⟩
    · exact h.elim
  · exact h.elim⟩
instance : OpL K (rIxT K) gIxT := ⟨fun {F H x y d e Q} q hs h1 h2 h k => by
  unfold gIxT at h
  split at h
  · split at h
    · rename_i z hz
      obtain ⟨a, vs, rfl, h3, h4⟩ := h1
      obtain ⟨v, hv, r⟩ := h4.atI hz
      exact ⟨a, vs, _, v, rfl, h2, hs.tupq h3, hv, k v F H (.fr z) (Ext.refl hs) r h⟩
    · exact h.elim
  · exact h.elim⟩
def gIxS : D → D → (S → Prop) → Prop := fun d e q => match d, e with
  | .str z, .int i => z.length ≤ sizeLine ∧ match atI z.cps.toList i with
    | some c => q (.fr (.str ⟨#[c]⟩))
    | none => False
  | _, _ => False
instance : OpL K rIxS gIxS := ⟨fun {F H x y d e Q} q hs h1 h2 h k => by
  unfold gIxS at h
  split at h
  · obtain ⟨h0, h⟩ := h
    split at h
    · rename_i z hz
      exact ⟨_, _, _, h1, h2, h0, hz, k _ F H (.fr (.str _)) (Ext.refl hs) rfl h⟩
    · exact h.elim
  · exact h.elim⟩
instance : OpL K (rIx K) (fun d e q => gIxL d e q ∨ gIxT d e q ∨ gIxS d e q) := ⟨fun q hs h1 h2 h k => by
  rcases h with h | h | h
  · exact .inl (OpL.run (K := K) (r := rIxL K) (g := gIxL) q hs h1 h2 h k)
  · exact .inr (.inl (OpL.run (K := K) (r := rIxT K) (g := gIxT) q hs h1 h2 h k))
  · exact .inr (.inr (OpL.run (K := K) (r := rIxS) (g := gIxS) q hs h1 h2 h k))⟩
/-! lists and tuples made -/
theorem Ext.lst {F H : Hp} {p : Addr} {ds : List D} {vs : List V} {Q : VK} {q : S → Prop} (hs : Same F H) (r : RpA K F ds vs) (hq : q (.ow false (.lst ds))) (k : ∀ v F' H' z, Ext F H F' H' → Rn K H F' H' z v → q z → Q v H')
    (hp : H p = none) : Q (.ref p) (upd H p (.lst vs)) := k _ F _ (.ow false (.lst ds)) (Ext.ow hs hp _) ⟨p, [p], rfl, one_new hp (hs.free hp), obj_lst upd_same r⟩ hq
theorem Ext.tup {F H : Hp} {p : Addr} {ds : List D} {vs : List V} {Q : VK} {q : S → Prop} (hs : Same F H) (r : RpA K F ds vs) (hq : q (.fr (.tup ds))) (k : ∀ v F' H' z, Ext F H F' H' → Rn K H F' H' z v → q z → Q v H')
    (hp : H p = none) : Q (.ref p) (upd H p (.tup vs)) := k _ _ _ (.fr (.tup ds)) (Ext.fz hs hp _) ⟨p, vs, rfl, SqT.of upd_same, r.mono (same_upd (hs.free hp))⟩ hq
def gCat : D → D → (S → Prop) → Prop := fun d e q => match d, e with
  | .lst a, .lst b => a.length + b.length ≤ sizeLine ∧ q (.ow false (.lst (a ++ b)))
  | _, _ => False
def gCatT : D → D → (S → Prop) → Prop := fun d e q => match d, e with
  | .tup a, .tup b => a ≠ [] ∧ a.length + b.length ≤ sizeLine ∧ q (.fr (.tup (a ++ b)))
  | _, _ => False
end
section
variable {K : PySem.W.Frag} {Ξ : XI}
instance : OpL K rCat gCat := ⟨fun {F H x y d e Q} q hs h1 h2 h k => by
  unfold gCat at h
  split at h
  · obtain ⟨a, vs, rfl, h3, h4⟩ := h1
    obtain ⟨b, ws, rfl, h5, h6⟩ := h2
    exact ⟨a, b, vs, ws, rfl, rfl, hs _ _ h3, hs _ _ h5, by rw [← h4.len, ← h6.len]; exact h.1, fun p hp => Ext.lst hs (h4.app h6) h.2 k hp⟩
  · exact h.elim⟩
instance : OpL K (rCatT K) gCatT := ⟨fun {F H x y d e Q} q hs h1 h2 h k => by
  unfold gCatT at h
  split at h
  · obtain ⟨a, vs, rfl, h3, h4⟩ := h1
    obtain ⟨b, ws, rfl, h5, h6⟩ := h2
    refine ⟨a, b, vs, ws, rfl, rfl, hs.tupq h3, hs.tupq h5, fun z => h.1 ?_, by rw [← h4.len, ← h6.len]; exact h.2.1, fun z => ?_, fun _ p hp => Ext.tup hs (h4.app h6) h.2.2 k hp⟩
    · have := h4.len
      rw [z] at this
      exact List.length_eq_zero_iff.mp this
    · have hz := h6.len
      rw [z] at hz
      have e0 := List.length_eq_zero_iff.mp hz
      have hq := h.2.2
      rw [e0, List.append_nil] at hq
      exact k _ F H (.fr (.tup _)) (Ext.refl hs) ⟨a, vs, rfl, h3, h4⟩ hq
  · exact h.elim⟩
def gRep : D → D → (S → Prop) → Prop := fun d e q => match d, e with
  | .lst a, .int k => -(2 ^ 63) ≤ k ∧ k < 2 ^ 63 ∧ a.length * k.toNat ≤ sizeLine ∧ q (.ow false (.lst (List.replicate k.toNat a).flatten))
  | _, _ => False
theorem RpA.flat {F : Hp} {ds : List D} {vs : List V} (h : RpA K F ds vs) : ∀ n, RpA K F (List.replicate n ds).flatten (List.replicate n vs).flatten
  | 0 => rfl
  | n + 1 => by
    rw [List.replicate_succ, List.replicate_succ, List.flatten_cons, List.flatten_cons]
    exact h.app (RpA.flat h n)
instance : OpL K rRep gRep := ⟨fun {F H x y d e Q} q hs h1 h2 h k => by
  unfold gRep at h
  split at h
  · obtain ⟨a, vs, rfl, h3, h4⟩ := h1
    exact ⟨a, _, vs, rfl, h2, hs _ _ h3, h.1, h.2.1, by rw [← h4.len]; exact h.2.2.1, fun p hp => Ext.lst hs (h4.flat _) h.2.2.2 k hp⟩
  · exact h.elim⟩
/-! texts -/
def gStrB (f : Str → Str → Bool) : D → D → (S → Prop) → Prop := fun d e q => match d, e with
  | .str i, .str j => q (.fr (.bl (f i j)))
  | _, _ => False
theorem gStrB_run {f : Str → Str → Bool} {F H : Hp} {x y : V} {d e : D} {Q : VK} (q : S → Prop) (hs : Same F H) (h1 : Rp K F d x) (h2 : Rp K F e y) (h : gStrB f d e q) (k : ∀ v F' H' z, Ext F H F' H' → Rn K H F' H' z v → q z → Q v H') :
    ∃ i j, x = .str i ∧ y = .str j ∧ Q (.bl (f i j)) H := by
  unfold gStrB at h
  split at h
  · exact ⟨_, _, h1, h2, k _ F H (.fr (.bl _)) (Ext.refl hs) rfl h⟩
  · exact h.elim
instance : OpL K (fun x y H Q => ∃ i j, x = .str i ∧ y = .str j ∧ Q (.bl (decide (i.cps.toList < j.cps.toList))) H) (gStrB fun i j => decide (i.cps.toList < j.cps.toList)) := ⟨fun q hs h1 h2 h k => gStrB_run q hs h1 h2 h k⟩
instance : OpL K (fun x y H Q => ∃ i j, x = .str i ∧ y = .str j ∧ Q (.bl (!(Builtin.Str.occurrences j i 0 j.length 1).isEmpty)) H) (gStrB fun i j => !(Builtin.Str.occurrences j i 0 j.length 1).isEmpty) := ⟨fun q hs h1 h2 h k => gStrB_run q hs h1 h2 h k⟩
def gAddS : D → D → (S → Prop) → Prop := fun d e q => match d, e with
  | .str i, .str j => i.length + j.length ≤ sizeLine ∧ q (.fr (.str (i ++ j)))
  | _, _ => False
instance : OpL K (fun x y H Q => ∃ i j, x = .str i ∧ y = .str j ∧ i.length + j.length ≤ sizeLine ∧ Q (.str (i ++ j)) H) gAddS := ⟨fun {F H x y d e Q} q hs h1 h2 h k => by
  unfold gAddS at h
  split at h
  · exact ⟨_, _, h1, h2, h.1, k _ F H (.fr (.str _)) (Ext.refl hs) rfl h.2⟩
  · exact h.elim⟩
/-! == of data -/
def D.plN : Nat → D → Bool
  | _, .non => true
  | _, .int _ => true
  | _, .str x => PyData.strOk x
  | n + 1, .lst ds => ds.all (D.plN n)
  | n + 1, .tup ds => ds.all (D.plN n)
  | _, _ => false
mutual
def D.py : D → PyData
  | .non => .none
  | .bl b => .bool b
  | .int i => .int i
  | .str x => .str x
  | .lst ds => .list (D.pys ds)
  | .tup ds => .tuple (D.pys ds)
  | .dic _ _ _ => .none
  | .dik _ _ => .none
  | .obj _ _ _ => .none
  | .scr ns => .list (ns.map .int)
  | .ty _ => .none
  | .opq _ => .none
  | .xv _ _ _ _ _ => .none
def D.pys : List D → List PyData
  | [] => []
  | d :: ds => d.py :: D.pys ds
end
theorem all_cons {n : Nat} {d : D} {ds : List D} (h : (d :: ds).all (D.plN n) = true) : D.plN n d = true ∧ ds.all (D.plN n) = true := Bool.and_eq_true_iff.mp h
theorem pys_of {n : Nat} {F : Hp} (ih : ∀ {d : D} {v : V}, D.plN n d = true → Rp K F d v → Dp K F v d.py ∧ d.py.canLay0 = true ∧ d.py.depth ≤ n) :
    ∀ {ds : List D} {vs : List V}, ds.all (D.plN n) = true → RpA K F ds vs → DpAll K F vs (D.pys ds) ∧ PyData.canLayAll0 (D.pys ds) = true ∧ PyData.depthAll (D.pys ds) ≤ n
  | [], _, _, h => by
    subst h
    exact ⟨.nil, rfl, Nat.zero_le _⟩
  | d :: ds, _, hp, h => by
    obtain ⟨v, ws, rfl, h1, h2⟩ := h
    obtain ⟨p1, p2⟩ := all_cons hp
    obtain ⟨a1, a2, a3⟩ := ih p1 h1
    obtain ⟨b1, b2, b3⟩ := pys_of ih p2 h2
    exact ⟨.cons a1 b1, Bool.and_eq_true_iff.mpr ⟨a2, b2⟩, Nat.max_le.mpr ⟨a3, b3⟩⟩
theorem py_of {F : Hp} (n : Nat) {d : D} {v : V} (hp : D.plN n d = true) (h : Rp K F d v) : Dp K F v d.py ∧ d.py.canLay0 = true ∧ d.py.depth ≤ n := by
  induction n generalizing d v with
  | zero =>
    cases d with
    | non => cases (show _ = _ from h); exact ⟨.non, rfl, Nat.zero_le _⟩
    | int i => cases (show _ = _ from h); exact ⟨.int i, rfl, Nat.zero_le _⟩
    | str i => cases (show _ = _ from h); exact ⟨.str i, hp, Nat.zero_le _⟩
    | _ => cases hp
  | succ n ih =>
    cases d with
    | non => cases (show _ = _ from h); exact ⟨.non, rfl, Nat.zero_le _⟩
    | int i => cases (show _ = _ from h); exact ⟨.int i, rfl, Nat.zero_le _⟩
    | str i => cases (show _ = _ from h); exact ⟨.str i, hp, Nat.zero_le _⟩
    | lst ds =>
      obtain ⟨a, vs, rfl, h1, h2⟩ := h
      obtain ⟨b1, b2, b3⟩ := pys_of (fun hp h => ih hp h) (show ds.all (D.plN n) = true from hp) h2
      exact ⟨.lst (SqL.of h1) b1, b2, Nat.succ_le_succ b3⟩
    | tup ds =>
      obtain ⟨a, vs, rfl, h1, h2⟩ := h
      obtain ⟨b1, b2, b3⟩ := pys_of (fun hp h => ih hp h) (show ds.all (D.plN n) = true from hp) h2
      exact ⟨.tup h1 b1, b2, Nat.succ_le_succ b3⟩
    | _ => cases hp
theorem eqvA {n : Nat} (ih : ∀ {d e : D}, D.plN n d = true → D.plN n e = true → (PyData.eqv d.py e.py = true ↔ d = e)) :
    ∀ {ds es : List D}, ds.all (D.plN n) = true → es.all (D.plN n) = true → (PyData.eqvAll (D.pys ds) (D.pys es) = true ↔ ds = es)
  | [], [], _, _ => by simp [D.pys, PyData.eqvAll]
  | [], _ :: _, _, _ => by simp [D.pys, PyData.eqvAll]
  | _ :: _, [], _, _ => by simp [D.pys, PyData.eqvAll]
  | d :: ds, e :: es, h1, h2 => by
    obtain ⟨p1, p2⟩ := all_cons h1
    obtain ⟨q1, q2⟩ := all_cons h2
    have a := ih p1 q1
    have b := eqvA ih p2 q2
    simp only [D.pys, PyData.eqvAll, Bool.and_eq_true, List.cons.injEq, a, b]
theorem eqv_iff : ∀ (n : Nat) {d e : D}, D.plN n d = true → D.plN n e = true → (PyData.eqv d.py e.py = true ↔ d = e)
  | n, d, e, h1, h2 => by
    cases d <;> cases e <;> first
      | (cases n <;> cases h1; done)
      | (cases n <;> cases h2; done)
      | (simp [D.py, PyData.eqv]; done)
      | skip
    all_goals
      cases n with
      | zero => first | (cases h1; done) | (cases h2; done)
      | succ n =>
        simp only [D.py, PyData.eqv, D.lst.injEq, D.tup.injEq]
        exact eqvA (fun h1 h2 => eqv_iff n h1 h2) h1 h2
noncomputable def eqD (d e : D) : Bool := @decide (d = e) (Classical.propDecidable _)
theorem eqD_true {d e : D} (h : d = e) : eqD d e = true := by unfold eqD; exact @decide_eq_true _ (_) h
theorem eqD_false {d e : D} (h : d ≠ e) : eqD d e = false := by unfold eqD; exact @decide_eq_false _ (_) h
theorem of_eqD {d e : D} (h : eqD d e = true) : d = e := by unfold eqD at h; exact @of_decide_eq_true _ (_) h
theorem of_eqD_f {d e : D} (h : eqD d e = false) : d ≠ e := by unfold eqD at h; exact @of_decide_eq_false _ (_) h
def gEqD (f : Bool → Bool) : D → D → (S → Prop) → Prop := fun d e q => D.plN 60 d = true ∧ D.plN 60 e = true ∧ q (.fr (.bl (f (eqD d e))))
theorem eqD_is {d e : D} (h1 : D.plN 60 d = true) (h2 : D.plN 60 e = true) : PyData.eqv d.py e.py = eqD d e := by
  by_cases h : d = e
  · rw [eqD_true h]
    exact (eqv_iff 60 h1 h2).mpr h
  · rw [eqD_false h]
    exact Bool.eq_false_iff.mpr fun z => h ((eqv_iff 60 h1 h2).mp z)
theorem gEqD_run (f : Bool → Bool) {F H : Hp} {x y : V} {d e : D} {Q : VK} (q : S → Prop) (hs : Same F H) (h1 : Rp K F d x) (h2 : Rp K F e y) (h : gEqD f d e q) (k : ∀ v F' H' z, Ext F H F' H' → Rn K H F' H' z v → q z → Q v H') :
    ∃ a b, Dp K H x a ∧ Dp K H y b ∧ SeqAt.shaped a = true ∧ SeqAt.shaped b = true ∧ Q (.bl (f (PyData.eqv a b))) H := by
  obtain ⟨p1, p2, hq⟩ := h
  obtain ⟨a1, a2, a3⟩ := py_of 60 p1 (h1.mono hs)
  obtain ⟨b1, b2, b3⟩ := py_of 60 p2 (h2.mono hs)
  refine ⟨_, _, a1, b1, shaped_mk a2 (Nat.le_trans a3 (by decide)), shaped_mk b2 (Nat.le_trans b3 (by decide)), ?_⟩
  rw [eqD_is p1 p2]
  exact k _ F H (.fr (.bl _)) (Ext.refl hs) rfl hq
instance : OpL K (rEqD K) (gEqD id) := ⟨fun q hs h1 h2 h k => gEqD_run id q hs h1 h2 h k⟩
instance : OpL K (rNeD K) (gEqD not) := ⟨fun q hs h1 h2 h k => gEqD_run not q hs h1 h2 h k⟩
end
/-! ### tests -/
abbrev PT1 := Sl → (Sl → Prop) → (Sl → Prop) → Prop
def YN (b : Bool) (y n : Prop) : Prop := (b = true → y) ∧ (b = false → n)
theorem YN.ite {b : Bool} {y n : Prop} (h : YN b y n) : if b = true then y else n := by
  cases b with
  | true => exact iteT (h.1 rfl)
  | false => exact iteF (h.2 rfl)
class LiftT (K : PySem.W.Frag) (Ξ : XI) (t : TT) (p : outParam PT1) : Prop where
  run : ∀ {F H : Hp} {ω : Om} {s : Sl} {σ : L2.St} {Q : Bool → Hp → Prop} (y n : Sl → Prop), Sta K Ξ F H ω s σ → p s y n →
    (∀ b F' H' ω' s', Stp F H ω F' H' ω' → Sta K Ξ F' H' ω' s' σ → (if b = true then y s' else n s') → Q b H') → t σ H Q
section
variable {K : PySem.W.Frag} {Ξ : XI}
def pTest (p : PD) : PT1 := fun s y n => p s fun d s' => match d with
  | .bl b => YN b (y s') (n s')
  | _ => False
theorem pTest_run {t : TE} {p : PD} [LiftD K Ξ t p] {F H : Hp} {ω : Om} {s : Sl} {σ : L2.St} {Q : Bool → Hp → Prop} (y n : Sl → Prop) (T : Sta K Ξ F H ω s σ) (h : pTest p s y n)
    (k : ∀ b F' H' ω' s', Stp F H ω F' H' ω' → Sta K Ξ F' H' ω' s' σ → (if b = true then y s' else n s') → Q b H') : t σ H fun x H' => ∃ c, x = .bl c ∧ Q c H' := by
  refine LiftD.run (K := K) (t := t) (p := p) _ T h fun v F1 H1 ω1 d s1 p1 T1 r1 h1 => ?_
  split at h1
  · exact ⟨_, r1, k _ F1 H1 ω1 s1 p1 T1 h1.ite⟩
  · exact h1.elim
instance {t : TE} {p : PD} [LiftD K Ξ t p] : LiftT K Ξ (tTest t) (pTest p) := ⟨fun y n T h k => pTest_run (t := t) (p := p) y n T h k⟩
instance {t : TE} {p : PD} [LiftD K Ξ t p] : LiftT K Ξ (tB t) (pTest p) := ⟨fun y n T h k => pTest_run (t := t) (p := p) y n T h k⟩
def pAnd (p q : PT1) : PT1 := fun s y n => p s (fun s1 => q s1 y n) n
def pOr (p q : PT1) : PT1 := fun s y n => p s y (fun s1 => q s1 y n)
def pNot (p : PT1) : PT1 := fun s y n => p s n y
instance {t u : TT} {p q : PT1} [LiftT K Ξ t p] [LiftT K Ξ u q] : LiftT K Ξ (tAnd t u) (pAnd p q) := ⟨fun y n T h k => by
  refine LiftT.run (K := K) (t := t) (p := p) _ _ T h fun b F1 H1 ω1 s1 p1 T1 h1 => ?_
  cases b with
  | true =>
    refine iteT (LiftT.run (K := K) (t := u) (p := q) y n T1 (by simpa using h1) fun b F2 H2 ω2 s2 p2 T2 h2 => k b F2 H2 ω2 s2 (p1.trans p2) T2 h2)
  | false => exact iteF (k false F1 H1 ω1 s1 p1 T1 h1)⟩
instance {t u : TT} {p q : PT1} [LiftT K Ξ t p] [LiftT K Ξ u q] : LiftT K Ξ (tOr t u) (pOr p q) := ⟨fun y n T h k => by
  refine LiftT.run (K := K) (t := t) (p := p) _ _ T h fun b F1 H1 ω1 s1 p1 T1 h1 => ?_
  cases b with
  | true => exact iteT (k true F1 H1 ω1 s1 p1 T1 h1)
  | false => refine iteF (LiftT.run (K := K) (t := u) (p := q) y n T1 (by simpa using h1) fun b F2 H2 ω2 s2 p2 T2 h2 => k b F2 H2 ω2 s2 (p1.trans p2) T2 h2)⟩
instance {t : TT} {p : PT1} [LiftT K Ξ t p] : LiftT K Ξ (tNot t) (pNot p) := ⟨fun y n T h k => by
  refine LiftT.run (K := K) (t := t) (p := p) n y T h fun b F1 H1 ω1 s1 p1 T1 h1 => k (!b) F1 H1 ω1 s1 p1 T1 ?_
  cases b with
  | true => simpa using h1
  | false => simpa using h1⟩
instance : LiftT K Ξ tYes (fun s y _ => y s) := ⟨fun {F H ω s σ Q} y n T h k => k true F H ω s (Stp.refl T.tb) T (iteT h)⟩
/-! truth of any value -/
def truD : D → Option Bool
  | .non => some false
  | .bl b => some b
  | .int i => some (i != 0)
  | .str x => some ((x.length : Int) != 0)
  | .lst ds => some (!ds.isEmpty)
  | .tup ds => some (!ds.isEmpty)
  | _ => none
/-! and, or, not as values; one or the other -/
def pAndV (p q : PD) : PX := fun s k => p s fun d s1 => match d with
  | .bl b => YN b (q s1 fun e s2 => k (.fr e) s2) (k (.fr (.bl false)) s1)
  | _ => False
def pOrV (p q : PD) : PX := fun s k => p s fun d s1 => match d with
  | .bl b => YN b (k (.fr (.bl true)) s1) (q s1 fun e s2 => k (.fr e) s2)
  | _ => False
def pNotV (p : PD) : PX := fun s k => p s fun d s1 => match d with
  | .bl b => k (.fr (.bl (!b))) s1
  | _ => False
instance {t u : TE} {p q : PD} [LiftD K Ξ t p] [LiftD K Ξ u q] : LiftE K Ξ (tAndV t u) (pAndV p q) := ⟨fun kk T h k => by
  refine LiftD.run (K := K) (t := t) (p := p) _ T h fun v F1 H1 ω1 d s1 p1 T1 r1 h1 => ?_
  split at h1
  · rename_i b
    refine ⟨b, r1, ?_⟩
    cases b with
    | true =>
      refine iteT (LiftD.run (K := K) (t := u) (p := q) _ T1 (h1.1 rfl) fun v F2 H2 ω2 e s2 p2 T2 r2 h2 => k v F2 H2 ω2 (.fr e) s2 (p1.trans p2) T2 r2 h2)
    | false => exact iteF (k _ F1 H1 ω1 (.fr (.bl false)) s1 p1 T1 rfl (h1.2 rfl))
  · exact h1.elim⟩
instance {t u : TE} {p q : PD} [LiftD K Ξ t p] [LiftD K Ξ u q] : LiftE K Ξ (tOrV t u) (pOrV p q) := ⟨fun kk T h k => by
  refine LiftD.run (K := K) (t := t) (p := p) _ T h fun v F1 H1 ω1 d s1 p1 T1 r1 h1 => ?_
  split at h1
  · rename_i b
    refine ⟨b, r1, ?_⟩
    cases b with
    | true => exact iteT (k _ F1 H1 ω1 (.fr (.bl true)) s1 p1 T1 rfl (h1.1 rfl))
    | false =>
      refine iteF (LiftD.run (K := K) (t := u) (p := q) _ T1 (h1.2 rfl) fun v F2 H2 ω2 e s2 p2 T2 r2 h2 => k v F2 H2 ω2 (.fr e) s2 (p1.trans p2) T2 r2 h2)
  · exact h1.elim⟩
instance {t : TE} {p : PD} [LiftD K Ξ t p] : LiftE K Ξ (tNotV t) (pNotV p) := ⟨fun kk T h k => by
  refine LiftD.run (K := K) (t := t) (p := p) _ T h fun v F1 H1 ω1 d s1 p1 T1 r1 h1 => ?_
  split at h1
  · exact ⟨_, r1, k _ F1 H1 ω1 (.fr (.bl _)) s1 p1 T1 rfl h1⟩
  · exact h1.elim⟩
def pIfE (c : PT1) (p q : PX) : PX := fun s k => c s (fun s1 => p s1 k) (fun s1 => q s1 k)
instance {c : TT} {t u : TE} {pc : PT1} {p q : PX} [LiftT K Ξ c pc] [LiftE K Ξ t p] [LiftE K Ξ u q] : LiftE K Ξ (tIf c t u) (pIfE pc p q) := ⟨fun kk T h k => by
  refine LiftT.run (K := K) (t := c) (p := pc) _ _ T h fun b F1 H1 ω1 s1 p1 T1 h1 => ?_
  cases b with
  | true => exact iteT (LiftE.run (K := K) (t := t) (p := p) kk T1 (by simpa using h1) fun v F2 H2 ω2 x s2 p2 T2 r2 h2 => k v F2 H2 ω2 x s2 (p1.trans p2) T2 (r2.early p1.tr) h2)
  | false => exact iteF (LiftE.run (K := K) (t := u) (p := q) kk T1 (by simpa using h1) fun v F2 H2 ω2 x s2 p2 T2 r2 h2 => k v F2 H2 ω2 x s2 (p1.trans p2) T2 (r2.early p1.tr) h2)⟩
def pChain (g g' : D → D → (S → Prop) → Prop) (pa pb pc : PD) : PX := fun s k => pa s fun d s1 => pb s1 fun e s2 => g d e fun z => match z with
  | .fr (.bl b) => YN b (pc s2 fun f s3 => g' e f fun z => k z s3) (k (.fr (.bl false)) s2)
  | _ => False
instance {r r' : R2} {g g' : D → D → (S → Prop) → Prop} {ta tb tc : TE} {pa pb pc : PD} [OpL K r g] [OpL K r' g'] [LiftD K Ξ ta pa] [LiftD K Ξ tb pb] [LiftD K Ξ tc pc] : LiftE K Ξ (tChain r r' ta tb tc) (pChain g g' pa pb pc) := ⟨fun kk T h k => by
  refine LiftD.run (K := K) (t := ta) (p := pa) _ T h fun x F1 H1 ω1 d s1 p1 T1 r1 h1 => ?_
  refine LiftD.run (K := K) (t := tb) (p := pb) _ T1 h1 fun y F2 H2 ω2 e s2 p2 T2 r2 h2 => ?_
  refine OpL.run (K := K) (r := r) (g := g) _ T2.sf (r1.mono p2.sf) r2 h2 fun v F3 H3 z e3 r3 hq => ?_
  obtain ⟨p3, T3⟩ := e3.stp T2
  split at hq
  · rename_i b
    refine ⟨b, r3, ?_⟩
    have pp := (p1.trans p2).trans p3
    cases b with
    | true =>
      refine iteT (LiftD.run (K := K) (t := tc) (p := pc) _ T3 (hq.1 rfl) fun w F4 H4 ω4 f s4 p4 T4 r4 h4 => ?_)
      refine OpL.run (K := K) (r := r') (g := g') _ T4.sf (r2.mono (e3.sf.trans p4.sf)) r4 h4 fun v F5 H5 z e5 r5 hq => ?_
      obtain ⟨p5, T5⟩ := e5.stp T4
      exact k v F5 H5 ω4 z s4 ((pp.trans p4).trans p5) T5 (Rn.rt (pp.trans p4) T4 r5) hq
    | false => exact iteF (k _ F3 H3 ω2 (.fr (.bl false)) s2 pp T3 rfl (hq.2 rfl))
  · exact hq.elim⟩
/-! ### lists of arguments that are data -/
abbrev PA1 := Sl → (List D → Sl → Prop) → Prop
class LiftA (K : PySem.W.Frag) (Ξ : XI) (t : TA) (p : outParam PA1) : Prop where
  run : ∀ {F H : Hp} {ω : Om} {s : Sl} {σ : L2.St} {Q : List V → Hp → Prop} (q : List D → Sl → Prop), Sta K Ξ F H ω s σ → p s q →
    (∀ vs F' H' ω' ds s', Stp F H ω F' H' ω' → Sta K Ξ F' H' ω' s' σ → RpA K F' ds vs → q ds s' → Q vs H') → t σ H Q
instance : LiftA K Ξ tNil (fun s q => q [] s) := ⟨fun {F H ω s σ Q} q T h k => k [] F H ω [] s (Stp.refl T.tb) T rfl h⟩
def pCons (p : PD) (r : PA1) : PA1 := fun s q => p s fun d s1 => r s1 fun ds s2 => q (d :: ds) s2
instance {t : TE} {r : TA} {p : PD} {pr : PA1} [LiftD K Ξ t p] [LiftA K Ξ r pr] : LiftA K Ξ (tCons t r) (pCons p pr) := ⟨fun kk T h k => by
  refine LiftD.run (K := K) (t := t) (p := p) _ T h fun x F1 H1 ω1 d s1 p1 T1 r1 h1 => ?_
  refine LiftA.run (K := K) (t := r) (p := pr) _ T1 h1 fun vs F2 H2 ω2 ds s2 p2 T2 r2 h2 => ?_
  exact k _ F2 H2 ω2 (d :: ds) s2 (p1.trans p2) T2 ⟨x, vs, rfl, r1.mono p2.sf, r2⟩ h2⟩
def pTup (p : PA1) : PX := fun s q => p s fun ds s1 => if ds.length ≤ 1000 then q (.fr (.tup ds)) s1 else False
def pLst (p : PA1) : PX := fun s q => p s fun ds s1 => if ds.length ≤ 1000 then q (.ow false (.lst ds)) s1 else False
instance {t : TA} {p : PA1} [LiftA K Ξ t p] : LiftE K Ξ (tTup t) (pTup p) := ⟨fun {F H ω s σ Q} kk T h k => by
  refine LiftA.run (K := K) (t := t) (p := p) _ T h fun vs F1 H1 ω1 ds s1 p1 T1 r1 h1 => ?_
  split at h1
  · rename_i hl
    refine ⟨Nat.le_trans (r1.len ▸ hl) (by decide), fun a ha => ?_⟩
    refine Ext.tup (q := fun z => kk z s1) T1.sf r1 h1 (fun v F' H' z e r hq => ?_) ha
    obtain ⟨p2, T2⟩ := e.stp T1
    exact k v F' H' ω1 z s1 (p1.trans p2) T2 (Rn.rt p1 T1 r) hq
  · exact h1.elim⟩
instance {t : TA} {p : PA1} [LiftA K Ξ t p] : LiftE K Ξ (tLst t) (pLst p) := ⟨fun {F H ω s σ Q} kk T h k => by
  refine LiftA.run (K := K) (t := t) (p := p) _ T h fun vs F1 H1 ω1 ds s1 p1 T1 r1 h1 => ?_
  split at h1
  · rename_i hl
    refine ⟨Nat.le_trans (r1.len ▸ hl) (by decide), fun a ha => ?_⟩
    refine Ext.lst (q := fun z => kk z s1) T1.sf r1 h1 (fun v F' H' z e r hq => ?_) ha
    obtain ⟨p2, T2⟩ := e.stp T1
    exact k v F' H' ω1 z s1 (p1.trans p2) T2 (Rn.rt p1 T1 r) hq
  · exact h1.elim⟩
/-! ### built-in functions -/
class CaL (K : PySem.W.Frag) (r : List V → Hp → VK → Prop) (g : outParam (List D → (S → Prop) → Prop)) : Prop where
  run : ∀ {F H : Hp} {vs : List V} {ds : List D} {Q : VK} (q : S → Prop), Same F H → RpA K F ds vs → g ds q → (∀ v F' H' z, Ext F H F' H' → Rn K H F' H' z v → q z → Q v H') → r vs H Q
def pCB (g : List D → (S → Prop) → Prop) (p : PA1) : PX := fun s q => p s fun ds s1 => g ds fun z => q z s1
instance {r : List V → Hp → VK → Prop} {g : List D → (S → Prop) → Prop} {t : TA} {p : PA1} [CaL K r g] [LiftA K Ξ t p] : LiftE K Ξ (tCB r t) (pCB g p) := ⟨fun kk T h k => by
  refine LiftA.run (K := K) (t := t) (p := p) _ T h fun vs F1 H1 ω1 ds s1 p1 T1 r1 h1 => ?_
  refine CaL.run (K := K) (r := r) (g := g) _ T1.sf r1 h1 fun v F3 H3 z e3 r3 hq => ?_
  obtain ⟨p3, T3⟩ := e3.stp T1
  exact k v F3 H3 ω1 z s1 (p1.trans p3) T3 (Rn.rt p1 T1 r3) hq⟩
theorem RpA.one {F : Hp} {d : D} {vs : List V} (h : RpA K F [d] vs) : ∃ v, vs = [v] ∧ Rp K F d v := by
  obtain ⟨v, ws, rfl, h1, h2⟩ := h
  cases (show ws = _ from h2)
  exact ⟨v, rfl, h1⟩
theorem RpA.two {F : Hp} {d e : D} {vs : List V} (h : RpA K F [d, e] vs) : ∃ v w, vs = [v, w] ∧ Rp K F d v ∧ Rp K F e w := by
  obtain ⟨v, ws, rfl, h1, h2⟩ := h
  obtain ⟨w, rfl, h3⟩ := RpA.one h2
  exact ⟨v, w, rfl, h1, h3⟩
def gLen : List D → (S → Prop) → Prop := fun ds q => match ds with
  | [.lst xs] => q (.fr (.int xs.length))
  | [.tup xs] => q (.fr (.int xs.length))
  | [.scr xs] => q (.fr (.int xs.length))
  | _ => False
theorem gLen_run {F H : Hp} {vs : List V} {ds : List D} {Q : VK} (q : S → Prop) (hs : Same F H) (r : RpA K F ds vs) (h : gLen ds q) (k : ∀ v F' H' z, Ext F H F' H' → Rn K H F' H' z v → q z → Q v H') :
    ∃ p ys, vs = [.ref p] ∧ (SqL K H p ys ∨ SqT K H p ys) ∧ Q (.int ys.length) H := by
  unfold gLen at h
  split at h
  · obtain ⟨v, rfl, a, ws, rfl, h1, h2⟩ := r.one
    refine ⟨a, ws, rfl, .inl (SqL.of (hs _ _ h1)), ?_⟩
    rw [← h2.len]
    exact k _ F H (.fr (.int _)) (Ext.refl hs) rfl h
  · obtain ⟨v, rfl, a, ws, rfl, h1, h2⟩ := r.one
    refine ⟨a, ws, rfl, .inr (hs.tupq h1), ?_⟩
    rw [← h2.len]
    exact k _ F H (.fr (.int _)) (Ext.refl hs) rfl h
  · obtain ⟨v, rfl, a, rfl, h1⟩ := r.one
    refine ⟨a, _, rfl, .inl (hs.seq h1), ?_⟩
    rw [List.length_map]
    exact k _ F H (.fr (.int _)) (Ext.refl hs) rfl h
  · exact h.elim
instance : CaL K (rLenQ K) gLen := ⟨fun q hs r h k => gLen_run q hs r h k⟩
instance : CaL K (fun xs H Q => ∃ p ys, xs = [.ref p] ∧ (SqL K H p ys ∨ SqT K H p ys) ∧ Q (.int ys.length) H) gLen := ⟨fun q hs r h k => gLen_run q hs r h k⟩
def gLenS : List D → (S → Prop) → Prop := fun ds q => match ds with
  | [.str x] => x.length ≤ sizeLine ∧ q (.fr (.int x.length))
  | _ => False
instance : CaL K (fun xs H Q => ∃ x, xs = [.str x] ∧ x.length ≤ sizeLine ∧ Q (.int x.length) H) gLenS := ⟨fun {F H vs ds Q} q hs r h k => by
  unfold gLenS at h
  split at h
  · obtain ⟨v, rfl, h1⟩ := r.one
    cases (show v = _ from h1)
    exact ⟨_, rfl, h.1, k _ F H (.fr (.int _)) (Ext.refl hs) rfl h.2⟩
  · exact h.elim⟩
/-- all the items are ints -/
def intsOf : List D → Option (List Int)
  | [] => some []
  | .int i :: r => (intsOf r).map (i :: ·)
  | _ => none
theorem intsOf_is : ∀ {ds : List D} {ns : List Int}, intsOf ds = some ns → ds = ns.map D.int
  | [], _, h => by cases h; rfl
  | .int i :: r, ns, h => by
    unfold intsOf at h
    cases e : intsOf r with
    | none => rw [e] at h; cases h
    | some m =>
      rw [e] at h
      cases h
      rw [intsOf_is e]
      rfl
  | .non :: _, _, h => by cases h
  | .bl _ :: _, _, h => by cases h
  | .str _ :: _, _, h => by cases h
  | .lst _ :: _, _, h => by cases h
  | .tup _ :: _, _, h => by cases h
  | .dic _ _ _ :: _, _, h => by cases h
  | .dik _ _ :: _, _, h => by cases h
  | .obj _ _ _ :: _, _, h => by cases h
  | .scr _ :: _, _, h => by cases h
  | .ty _ :: _, _, h => by cases h
theorem intsOf_map : ∀ ns : List Int, intsOf (ns.map D.int) = some ns
  | [] => rfl
  | n :: ns => by
    show (intsOf (ns.map D.int)).map (n :: ·) = _
    rw [intsOf_map ns]
    rfl
/-- a list of ints (said by the prover), its sum -/
def gSum : List D → (S → Prop) → Prop := fun ds q => match ds with
  | [.lst xs] => ∃ ns : List Int, xs = ns.map D.int ∧ q (.fr (.int ns.sum))
  | _ => False
instance : CaL K (rSum K) gSum := ⟨fun {F H vs ds Q} q hs r h k => by
  unfold gSum at h
  split at h
  · obtain ⟨ns, rfl, hq⟩ := h
    obtain ⟨v, rfl, a, ws, rfl, h1, h2⟩ := r.one
    cases RpA.intsV h2
    exact ⟨a, ns, rfl, SqL.of (hs _ _ h1), k _ F H (.fr (.int _)) (Ext.refl hs) rfl hq⟩
  · exact h.elim⟩
def gBls (f : List Bool → Bool) : List D → (S → Prop) → Prop := fun ds q => match ds with
  | [.lst xs] => ∃ bs : List Bool, xs = bs.map D.bl ∧ q (.fr (.bl (f bs)))
  | _ => False
theorem gBls_run {f : List Bool → Bool} {F H : Hp} {vs : List V} {ds : List D} {Q : VK} (q : S → Prop) (hs : Same F H) (r : RpA K F ds vs) (h : gBls f ds q) (k : ∀ v F' H' z, Ext F H F' H' → Rn K H F' H' z v → q z → Q v H') :
    ∃ (a : Addr) (bs : List Bool), vs = [V.ref a] ∧ SqL K H a (bs.map V.bl) ∧ Q (.bl (f bs)) H := by
  unfold gBls at h
  split at h
  · obtain ⟨ns, rfl, hq⟩ := h
    obtain ⟨v, rfl, a, ws, rfl, h1, h2⟩ := r.one
    cases RpA.blsV h2
    exact ⟨a, ns, rfl, SqL.of (hs _ _ h1), k _ F H (.fr (.bl _)) (Ext.refl hs) rfl hq⟩
  · exact h.elim
instance : CaL K (rAny K) (gBls fun bs => bs.any id) := ⟨fun q hs r h k => gBls_run q hs r h k⟩
instance : CaL K (rAll K) (gBls fun bs => bs.all id) := ⟨fun q hs r h k => gBls_run q hs r h k⟩
def gMax (le : Int → Int → Prop) : List D → (S → Prop) → Prop := fun ds q => match ds with
  | [.lst xs] => ∃ ns : List Int, xs = ns.map D.int ∧ 0 < ns.length ∧ ∀ m, m ∈ ns → (∀ y, y ∈ ns → le y m) → q (.fr (.int m))
  | _ => False
instance : CaL K (rMax K) (gMax fun y m => y ≤ m) := ⟨fun {F H vs ds Q} q hs r h k => by
  unfold gMax at h
  split at h
  · obtain ⟨ns, rfl, h0, hq⟩ := h
    obtain ⟨v, rfl, a, ws, rfl, h1, h2⟩ := r.one
    cases RpA.intsV h2
    exact ⟨a, ns, rfl, SqL.of (hs _ _ h1), h0, fun m h3 h4 => k _ F H (.fr (.int _)) (Ext.refl hs) rfl (hq m h3 h4)⟩
  · exact h.elim⟩
instance : CaL K (rMin K) (gMax fun y m => m ≤ y) := ⟨fun {F H vs ds Q} q hs r h k => by
  unfold gMax at h
  split at h
  · obtain ⟨ns, rfl, h0, hq⟩ := h
    obtain ⟨v, rfl, a, ws, rfl, h1, h2⟩ := r.one
    cases RpA.intsV h2
    exact ⟨a, ns, rfl, SqL.of (hs _ _ h1), h0, fun m h3 h4 => k _ F H (.fr (.int _)) (Ext.refl hs) rfl (hq m h3 h4)⟩
  · exact h.elim⟩
def gI1 (f : Int → D) : List D → (S → Prop) → Prop := fun ds q => match ds with
  | [.int i] => q (.fr (f i))
  | _ => False
instance : CaL K (fun xs H Q => ∃ i, xs = [.int i] ∧ Q (.int (if i < 0 then -i else i)) H) (gI1 fun i => .int (if i < 0 then -i else i)) := ⟨fun {F H vs ds Q} q hs r h k => by
  unfold gI1 at h
  split at h
  · obtain ⟨v, rfl, h1⟩ := r.one
    cases (show v = _ from h1)
    exact ⟨_, rfl, k _ F H (.fr (.int _)) (Ext.refl hs) rfl h⟩
  · exact h.elim⟩
def gI2 (f : Int → Int → Int) : List D → (S → Prop) → Prop := fun ds q => match ds with
  | [.int i, .int j] => q (.fr (.int (f i j)))
  | _ => False
theorem gI2_run {f : Int → Int → Int} {F H : Hp} {vs : List V} {ds : List D} {Q : VK} (q : S → Prop) (hs : Same F H) (r : RpA K F ds vs) (h : gI2 f ds q) (k : ∀ v F' H' z, Ext F H F' H' → Rn K H F' H' z v → q z → Q v H') :
    ∃ i j, vs = [.int i, .int j] ∧ Q (.int (f i j)) H := by
  unfold gI2 at h
  split at h
  · obtain ⟨v, w, rfl, h1, h2⟩ := r.two
    cases (show v = _ from h1)
    cases (show w = _ from h2)
    exact ⟨_, _, rfl, k _ F H (.fr (.int _)) (Ext.refl hs) rfl h⟩
  · exact h.elim
instance : CaL K (fun xs H Q => ∃ i j, xs = [.int i, .int j] ∧ Q (.int (if j > i then j else i)) H) (gI2 fun i j => if j > i then j else i) := ⟨fun q hs r h k => gI2_run q hs r h k⟩
instance : CaL K (fun xs H Q => ∃ i j, xs = [.int i, .int j] ∧ Q (.int (if j < i then j else i)) H) (gI2 fun i j => if j < i then j else i) := ⟨fun q hs r h k => gI2_run q hs r h k⟩
def gInt : List D → (S → Prop) → Prop := fun ds q => match ds with
  | [.int i] => q (.fr (.int i))
  | [.bl b] => YN b (q (.fr (.int 1))) (q (.fr (.int 0)))
  | _ => False
instance : CaL K (fun xs H Q => (∃ i, xs = [.int i] ∧ Q (.int i) H) ∨ ∃ k, xs = [.bl k] ∧ Q (.int (if k then 1 else 0)) H) gInt := ⟨fun {F H vs ds Q} q hs r h k => by
  unfold gInt at h
  split at h
  · obtain ⟨v, rfl, h1⟩ := r.one
    cases (show v = _ from h1)
    exact .inl ⟨_, rfl, k _ F H (.fr (.int _)) (Ext.refl hs) rfl h⟩
  · rename_i b
    obtain ⟨v, rfl, h1⟩ := r.one
    cases (show v = _ from h1)
    refine .inr ⟨_, rfl, ?_⟩
    cases b with
    | true => exact k _ F H (.fr (.int 1)) (Ext.refl hs) rfl (h.1 rfl)
    | false => exact k _ F H (.fr (.int 0)) (Ext.refl hs) rfl (h.2 rfl)
  · exact h.elim⟩
def gListOf : List D → (S → Prop) → Prop := fun ds q => match ds with
  | [.lst xs] => q (.ow false (.lst xs))
  | [.tup xs] => q (.ow false (.lst xs))
  | [.scr xs] => q (.ow false (.lst (xs.map .int)))
  | _ => False
instance : CaL K (fun xs H Q => ∃ p ys, xs = [.ref p] ∧ (SqL K H p ys ∨ SqT K H p ys) ∧ ∀ l, H l = none → Q (.ref l) (upd H l (.lst ys))) gListOf := ⟨fun {F H vs ds Q} q hs r h k => by
  unfold gListOf at h
  split at h
  · obtain ⟨v, rfl, a, ws, rfl, h1, h2⟩ := r.one
    exact ⟨a, ws, rfl, .inl (SqL.of (hs _ _ h1)), fun p hp => Ext.lst hs h2 h k hp⟩
  · obtain ⟨v, rfl, a, ws, rfl, h1, h2⟩ := r.one
    exact ⟨a, ws, rfl, .inr (hs.tupq h1), fun p hp => Ext.lst hs h2 h k hp⟩
  · obtain ⟨v, rfl, a, rfl, h1⟩ := r.one
    exact ⟨a, _, rfl, .inl (hs.seq h1), fun p hp => Ext.lst hs RpA.ints h k hp⟩
  · exact h.elim⟩
def gTupOf : List D → (S → Prop) → Prop := fun ds q => match ds with
  | [.lst xs] => q (.fr (.tup xs))
  | [.tup xs] => q (.fr (.tup xs))
  | _ => False
instance : CaL K (fun xs H Q => ∃ p ys, xs = [.ref p] ∧ ((SqL K H p ys ∧ ∀ l, H l = none → Q (.ref l) (upd H l (.tup ys))) ∨ (SqT K H p ys ∧ Q (.ref p) H))) gTupOf := ⟨fun {F H vs ds Q} q hs r h k => by
  unfold gTupOf at h
  split at h
  · obtain ⟨v, rfl, a, ws, rfl, h1, h2⟩ := r.one
    exact ⟨a, ws, rfl, .inl ⟨SqL.of (hs _ _ h1), fun p hp => Ext.tup hs h2 h k hp⟩⟩
  · obtain ⟨v, rfl, a, ws, rfl, h1, h2⟩ := r.one
    exact ⟨a, ws, rfl, .inr ⟨hs.tupq h1, k _ F H (.fr (.tup _)) (Ext.refl hs) ⟨a, ws, rfl, h1, h2⟩ h⟩⟩
  · exact h.elim⟩
/-! ### slices -/
abbrev PO1 := Sl → (Option Int → Sl → Prop) → Prop
class LiftO (K : PySem.W.Frag) (Ξ : XI) (t : TO) (p : outParam PO1) : Prop where
  run : ∀ {F H : Hp} {ω : Om} {s : Sl} {σ : L2.St} {Q : Option Int → Hp → Prop} (q : Option Int → Sl → Prop), Sta K Ξ F H ω s σ → p s q →
    (∀ o F' H' ω' s', Stp F H ω F' H' ω' → Sta K Ξ F' H' ω' s' σ → q o s' → Q o H') → t σ H Q
instance : LiftO K Ξ tNoPart (fun s q => q none s) := ⟨fun {F H ω s σ Q} q T h k => k none F H ω s (Stp.refl T.tb) T h⟩
def pPart (p : PD) : PO1 := fun s q => p s fun d s1 => match d with
  | .int i => q (some i) s1
  | _ => False
instance {t : TE} {p : PD} [LiftD K Ξ t p] : LiftO K Ξ (tPart t) (pPart p) := ⟨fun q T h k => by
  refine LiftD.run (K := K) (t := t) (p := p) _ T h fun x F1 H1 ω1 d s1 p1 T1 r1 h1 => ?_
  split at h1
  · exact ⟨_, r1, k _ F1 H1 ω1 s1 p1 T1 h1⟩
  · exact h1.elim⟩
class SlL (K : PySem.W.Frag) (r : V → Option Int → Option Int → Hp → VK → Prop) (g : outParam (D → Option Int → Option Int → (S → Prop) → Prop)) : Prop where
  run : ∀ {F H : Hp} {x : V} {d : D} {lo hi : Option Int} {Q : VK} (q : S → Prop), Same F H → Rp K F d x → g d lo hi q → (∀ v F' H' z, Ext F H F' H' → Rn K H F' H' z v → q z → Q v H') → r x lo hi H Q
def pSl (g : D → Option Int → Option Int → (S → Prop) → Prop) (pe : PD) (pl ph : PO1) : PX := fun s q => pe s fun d s1 => pl s1 fun lo s2 => ph s2 fun hi s3 => g d lo hi fun z => q z s3
instance {r : V → Option Int → Option Int → Hp → VK → Prop} {g : D → Option Int → Option Int → (S → Prop) → Prop} {te : TE} {tl th : TO} {pe : PD} {pl ph : PO1} [SlL K r g] [LiftD K Ξ te pe] [LiftO K Ξ tl pl] [LiftO K Ξ th ph] :
    LiftE K Ξ (tSl r te tl th) (pSl g pe pl ph) := ⟨fun kk T h k => by
  refine LiftD.run (K := K) (t := te) (p := pe) _ T h fun x F1 H1 ω1 d s1 p1 T1 r1 h1 => ?_
  refine LiftO.run (K := K) (t := tl) (p := pl) _ T1 h1 fun lo F2 H2 ω2 s2 p2 T2 h2 => ?_
  refine LiftO.run (K := K) (t := th) (p := ph) _ T2 h2 fun hi F3 H3 ω3 s3 p3 T3 h3 => ?_
  refine SlL.run (K := K) (r := r) (g := g) _ T3.sf (r1.mono (p2.sf.trans p3.sf)) h3 fun v F4 H4 z e4 r4 hq => ?_
  obtain ⟨p4, T4⟩ := e4.stp T3
  have pp := (p1.trans p2).trans p3
  exact k v F4 H4 ω3 z s3 (pp.trans p4) T4 (Rn.rt pp T3 r4) hq⟩
def cutD (xs : List D) (lo hi : Option Int) : List D := (xs.drop (HT.sIx xs.length 0 lo)).take (HT.sIx xs.length xs.length hi - HT.sIx xs.length 0 lo)
theorem RpA.cut {F : Hp} {ds : List D} {vs : List V} (h : RpA K F ds vs) (lo hi : Option Int) : RpA K F (cutD ds lo hi) (cutV vs lo hi) := by
  unfold cutD cutV
  rw [← h.len]
  exact (h.drop _).take _
def gSlL : D → Option Int → Option Int → (S → Prop) → Prop := fun d lo hi q => match d with
  | .lst xs => q (.ow false (.lst (cutD xs lo hi)))
  | .scr ns => q (.ow false (.lst (cutD (ns.map .int) lo hi)))
  | _ => False
instance : SlL K (rSlL K) gSlL := ⟨fun {F H x d lo hi Q} q hs r h k => by
  unfold gSlL at h
  split at h
  · obtain ⟨a, ws, rfl, h1, h2⟩ := r
    exact ⟨a, ws, rfl, SqL.of (hs _ _ h1), fun p hp => Ext.lst hs (h2.cut lo hi) h k hp⟩
  · obtain ⟨a, rfl, h1⟩ := r
    exact ⟨a, _, rfl, hs.seq h1, fun p hp => Ext.lst hs (RpA.ints.cut lo hi) h k hp⟩
  · exact h.elim⟩
def gSlS : D → Option Int → Option Int → (S → Prop) → Prop := fun d lo hi q => match d with
  | .str z => z.length ≤ sizeLine ∧ q (.fr (.str (cutS z lo hi)))
  | _ => False
instance : SlL K rSlS gSlS := ⟨fun {F H x d lo hi Q} q hs r h k => by
  unfold gSlS at h
  split at h
  · cases (show x = _ from r)
    exact ⟨_, rfl, h.1, k _ F H (.fr (.str _)) (Ext.refl hs) rfl h.2⟩
  · exact h.elim⟩
end
/-! ### truth of a value as a test -/
section
variable {K : PySem.W.Frag} {Ξ : XI}
theorem emp_len {ds : List D} {ws : List V} (h : ds.length = ws.length) : (!ws.isEmpty) = !ds.isEmpty := by
  cases ds <;> cases ws <;> first | rfl | (simp at h)
theorem tru_is {F H : Hp} {d : D} {v : V} {b : Bool} (hs : Same F H) (r : Rp K F d v) (e : truD d = some b) (h : ∀ x, d = .str x → x.length ≤ sizeLine) : TruV K v H b := by
  cases d with
  | non => cases (show v = _ from r); cases e; rfl
  | bl _ => cases (show v = _ from r); cases e; rfl
  | int _ => cases (show v = _ from r); cases e; rfl
  | str x =>
    cases (show v = _ from r)
    have e1 := Option.some.inj e
    exact ⟨h x rfl, e1.symm⟩
  | lst ds =>
    obtain ⟨a, ws, rfl, h1, h2⟩ := r
    have e1 := Option.some.inj e
    exact .inl ⟨ws, SqL.of (hs _ _ h1), by rw [emp_len h2.len]; exact e1.symm⟩
  | tup ds =>
    obtain ⟨a, ws, rfl, h1, h2⟩ := r
    have e1 := Option.some.inj e
    exact .inr (.inl ⟨ws, hs.tupq h1, by rw [emp_len h2.len]; exact e1.symm⟩)
  | _ => cases e
def pTru (p : PD) : PT1 := fun s y n => p s fun d s' => match truD d with
  | some b => (∀ x, d = .str x → x.length ≤ sizeLine) ∧ YN b (y s') (n s')
  | none => False
instance {t : TE} {p : PD} [LiftD K Ξ t p] : LiftT K Ξ (fun σ H Q => t σ H fun x H' => ∃ k, TruV K x H' k ∧ Q k H') (pTru p) := ⟨fun y n T h k => by
  refine LiftD.run (K := K) (t := t) (p := p) _ T h fun v F1 H1 ω1 d s1 p1 T1 r1 h1 => ?_
  split at h1
  · rename_i b e
    exact ⟨b, tru_is T1.sf r1 e h1.1, k _ F1 H1 ω1 s1 p1 T1 h1.2.ite⟩
  · exact h1.elim⟩
/-- a name's list, which stays its own -/
def pTruV (i : Nat) : PT1 := fun s y n => match s[i]? with
  | some (some (.ow _ (.lst ds))) => YN (!ds.isEmpty) (y s) (n s)
  | _ => pTru (pDat (pVar i)) s y n
instance (priority := high) (i : Nat) : LiftT K Ξ (fun σ H Q => tVar i σ H fun x H' => ∃ k, TruV K x H' k ∧ Q k H') (pTruV i) := ⟨fun {F H ω s σ Q} y n T h k => by
  unfold pTruV at h
  split at h
  · rename_i b ds e
    obtain ⟨v, hv, l, rfl, hl, ws, h1, h2⟩ := T.lst i e
    refine ⟨_, hv, _, .inl ⟨ws, SqL.of h1, rfl⟩, k _ F H ω s (Stp.refl T.tb) T ?_⟩
    rw [emp_len h2.len]
    exact h.ite
  · exact LiftT.run (K := K) (t := fun σ H Q => tVar i σ H fun x H' => ∃ k, TruV K x H' k ∧ Q k H') (p := pTru (pDat (pVar i))) y n T h k⟩
/-! ### targets -/
theorem wipe_set {i : Nat} {x : Option V} : ∀ {vs : List Nat} {σ : L2.St}, wipe (σ.set i x) vs = if i ∈ vs then wipe σ vs else (wipe σ vs).set i x
  | [], σ => by simp [wipe]
  | v :: vs, σ => by
    show (wipe (σ.set i x) vs).set v none = if i ∈ v :: vs then (wipe σ vs).set v none else ((wipe σ vs).set v none).set i x
    rw [wipe_set]
    by_cases h1 : i ∈ vs
    · simp [h1]
    · by_cases h2 : i = v
      · subst h2
        simp [h1]
      · simp [h1, h2]
        rw [List.set_comm _ _ h2]
theorem wipe_mem {i : Nat} {x : Option V} {vs : List Nat} {σ : L2.St} (h : i ∈ vs) : wipe (σ.set i x) vs = wipe σ vs := by rw [wipe_set, if_pos h]
abbrev PG1 := D → Sl → (Sl → Prop) → Prop
class LiftG (K : PySem.W.Frag) (Ξ : XI) (g : TG) (p : outParam PG1) (ss : outParam (List Nat)) : Prop where
  run : ∀ {F H : Hp} {ω : Om} {s : Sl} {σ : L2.St} {v : V} {d : D} {Q : L2.St → Hp → Prop} (q : Sl → Prop), Sta K Ξ F H ω s σ → Rp K F d v → p d s q →
    (∀ σ' s', Sta K Ξ F H ω s' σ' → (∀ vs, (∀ i ∈ ss, i ∈ vs) → wipe σ' vs = wipe σ vs) → q s' → Q σ' H) → g v σ H Q
def pgName (i : Nat) : PG1 := fun d s q => q (s.set i (some (.fr d)))
instance (i : Nat) : LiftG K Ξ (gName i) (pgName i) [i] := ⟨fun q T r h k => k _ _ (T.set i r) (fun vs hv => wipe_mem (hv i (by simp))) h⟩
abbrev PGs1 := List D → Sl → (Sl → Prop) → Prop
class LiftGs (K : PySem.W.Frag) (Ξ : XI) (g : TGs) (p : outParam PGs1) (ss : outParam (List Nat)) : Prop where
  run : ∀ {F H : Hp} {ω : Om} {s : Sl} {σ : L2.St} {vs : List V} {ds : List D} {Q : L2.St → Hp → Prop} (q : Sl → Prop), Sta K Ξ F H ω s σ → RpA K F ds vs → p ds s q →
    (∀ σ' s', Sta K Ξ F H ω s' σ' → (∀ vs, (∀ i ∈ ss, i ∈ vs) → wipe σ' vs = wipe σ vs) → q s' → Q σ' H) → g vs σ H Q
def pgNil : PGs1 := fun ds s q => match ds with
  | [] => q s
  | _ => False
def pgCons (p : PG1) (r : PGs1) : PGs1 := fun ds s q => match ds with
  | d :: es => p d s fun s1 => r es s1 q
  | [] => False
instance : LiftGs K Ξ gNil pgNil [] := ⟨fun {F H ω s σ vs ds Q} q T r h k => by
  unfold pgNil at h
  split at h
  · cases (show vs = [] from r)
    exact ⟨rfl, k _ _ T (fun _ _ => rfl) h⟩
  · exact h.elim⟩
instance {g : TG} {gs : TGs} {p : PG1} {ps : PGs1} {ss ts : List Nat} [LiftG K Ξ g p ss] [LiftGs K Ξ gs ps ts] : LiftGs K Ξ (gCons g gs) (pgCons p ps) (ss ++ ts) := ⟨fun {F H ω s σ vs ds Q} q T r h k => by
  unfold pgCons at h
  split at h
  · obtain ⟨v, ws, rfl, r1, r2⟩ := r
    refine ⟨v, ws, rfl, LiftG.run (K := K) (g := g) (p := p) (ss := ss) _ T r1 h fun σ1 s1 T1 w1 h1 => ?_⟩
    refine LiftGs.run (K := K) (g := gs) (p := ps) (ss := ts) _ T1 r2 h1 fun σ2 s2 T2 w2 h2 => k _ _ T2 (fun vs hv => ?_) h2
    rw [w2 vs fun i hi => hv i (List.mem_append_right _ hi), w1 vs fun i hi => hv i (List.mem_append_left _ hi)]
  · exact h.elim⟩
def pgTup (n : Nat) (p : PGs1) : PG1 := fun d s q => match d with
  | .tup ds => if ds.length = n then p ds s q else False
  | _ => False
instance {n : Nat} {g : TGs} {p : PGs1} {ss : List Nat} [LiftGs K Ξ g p ss] : LiftG K Ξ (gTup K n g) (pgTup n p) ss := ⟨fun {F H ω s σ v d Q} q T r h k => by
  unfold pgTup at h
  split at h
  · split at h
    · rename_i hl
      obtain ⟨a, ws, rfl, h1, h2⟩ := r
      exact ⟨a, ws, rfl, T.sf.tupq h1, by rw [← h2.len]; exact hl, LiftGs.run (K := K) (g := g) (p := p) (ss := ss) q T h2 h k⟩
    · exact h.elim
  · exact h.elim⟩
/-! ### what is walked -/
def WalkD (K : PySem.W.Frag) (F : Hp) (J : It) (ds : List D) : Prop := ∃ (G : Hp → Prop) (Y : Nat → Hp → V → Hp → Prop), Walk J ds.length G Y ∧ (∀ H, Same F H → G H) ∧
  ∀ i H x H' F1 d, ds[i]? = some d → Same F F1 → Same F1 H → Y i H x H' → ∃ F2, Ext F1 H F2 H' ∧ Rp K F2 d x
abbrev PI1 := Sl → (List D → Sl → Prop) → Prop
class LiftI (K : PySem.W.Frag) (Ξ : XI) (t : TI) (p : outParam PI1) : Prop where
  run : ∀ {F H : Hp} {ω : Om} {s : Sl} {σ : L2.St} {R : It → Hp → Prop} (q : List D → Sl → Prop), Sta K Ξ F H ω s σ → p s q →
    (∀ J F' H' ω' ds s', Stp F H ω F' H' ω' → Sta K Ξ F' H' ω' s' σ → WalkD K F' J ds → q ds s' → R J H') → t σ H R
def pIterL (p : PD) : PI1 := fun s q => p s fun d s1 => match d with
  | .lst ds => q ds s1
  | .scr ns => q (ns.map .int) s1
  | _ => False
theorem walkD_list {F : Hp} {a : Addr} {ds : List D} {vs : List V} (h1 : SqL K F a vs) (h2 : RpA K F ds vs) : WalkD K F (Itl K a) ds := by
  refine ⟨_, _, h2.len ▸ walk_list (K := K) (a := a) (xs := vs), fun H hs => hs.seq h1, fun i H x H' F1 d e s1 s2 y => ?_⟩
  obtain ⟨rfl, hx⟩ := y
  obtain ⟨v, hv, r⟩ := h2.get e
  rw [hx] at hv
  cases hv
  exact ⟨F1, Ext.refl s2, r.mono s1⟩
instance {t : TE} {p : PD} [LiftD K Ξ t p] : LiftI K Ξ (iList K t) (pIterL p) := ⟨fun q T h k => by
  refine LiftD.run (K := K) (t := t) (p := p) _ T h fun v F1 H1 ω1 d s1 p1 T1 r1 h1 => ?_
  split at h1
  · obtain ⟨a, ws, rfl, r2, r3⟩ := r1
    exact ⟨a, rfl, ⟨ws, SqL.of (T1.sf _ _ r2)⟩, k _ F1 H1 ω1 _ s1 p1 T1 (walkD_list (SqL.of r2) r3) h1⟩
  · obtain ⟨a, rfl, r2⟩ := r1
    exact ⟨a, rfl, ⟨_, T1.sf.seq r2⟩, k _ F1 H1 ω1 _ s1 p1 T1 (walkD_list r2 RpA.ints) h1⟩
  · exact h1.elim⟩
def pIterT (p : PD) : PI1 := fun s q => p s fun d s1 => match d with
  | .tup ds => q ds s1
  | _ => False
theorem walkD_tup {F : Hp} {a : Addr} {ds : List D} {vs : List V} (h1 : SqT K F a vs) (h2 : RpA K F ds vs) : WalkD K F (Itt K a) ds := by
  refine ⟨_, _, h2.len ▸ walk_tup (K := K) (a := a) (xs := vs), fun H hs => hs.tupq h1, fun i H x H' F1 d e s1 s2 y => ?_⟩
  obtain ⟨rfl, hx⟩ := y
  obtain ⟨v, hv, r⟩ := h2.get e
  rw [hx] at hv
  cases hv
  exact ⟨F1, Ext.refl s2, r.mono s1⟩
instance {t : TE} {p : PD} [LiftD K Ξ t p] : LiftI K Ξ (iTup K t) (pIterT p) := ⟨fun q T h k => by
  refine LiftD.run (K := K) (t := t) (p := p) _ T h fun v F1 H1 ω1 d s1 p1 T1 r1 h1 => ?_
  split at h1
  · obtain ⟨a, ws, rfl, r2, r3⟩ := r1
    exact ⟨a, rfl, ⟨ws, T1.sf.tupq r2⟩, k _ F1 H1 ω1 _ s1 p1 T1 (walkD_tup r2 r3) h1⟩
  · exact h1.elim⟩
def rngD (lo : Int) (n : Nat) : List D := (List.range n).map fun i => .int (lo + (i : Nat))
theorem rngD_len {lo : Int} {n : Nat} : (rngD lo n).length = n := by simp [rngD]
theorem rngD_get {lo : Int} {n i : Nat} {d : D} (h : (rngD lo n)[i]? = some d) : i < n ∧ d = .int (lo + (i : Nat)) := by
  unfold rngD at h
  rw [List.getElem?_map] at h
  by_cases hi : i < n
  · rw [List.getElem?_range hi] at h
    exact ⟨hi, (Option.some.inj h).symm⟩
  · rw [List.getElem?_eq_none (by rw [List.length_range]; omega)] at h
    cases h
theorem walkD_range {F : Hp} {lo : Int} {n : Nat} : WalkD K F (Itr lo n) (rngD lo n) := by
  refine ⟨fun _ => True, YFn fun i => .int (lo + (i : Nat)), ?_, fun _ _ => trivial, fun i H x H' F1 d e s1 s2 y => ?_⟩
  · rw [rngD_len]
    exact walk_range
  · obtain ⟨rfl, rfl⟩ := y
    exact ⟨F1, Ext.refl s2, by rw [(rngD_get e).2]; rfl⟩
def pRng1 (p : PA1) : PI1 := fun s q => p s fun ds s1 => match ds with
  | [.int j] => (-(2 ^ 62) ≤ j ∧ j < 2 ^ 62) ∧ q (rngD 0 j.toNat) s1
  | _ => False
instance {t : TA} {p : PA1} [LiftA K Ξ t p] : LiftI K Ξ (iRng1 t) (pRng1 p) := ⟨fun q T h k => by
  refine LiftA.run (K := K) (t := t) (p := p) _ T h fun vs F1 H1 ω1 ds s1 p1 T1 r1 h1 => ?_
  split at h1
  · obtain ⟨v, rfl, r2⟩ := r1.one
    cases (show v = _ from r2)
    exact ⟨_, rfl, h1.1.1, h1.1.2, k _ F1 H1 ω1 _ s1 p1 T1 walkD_range h1.2⟩
  · exact h1.elim⟩
def pRng2 (p : PA1) : PI1 := fun s q => p s fun ds s1 => match ds with
  | [.int i, .int j] => (-(2 ^ 62) ≤ i ∧ i < 2 ^ 62 ∧ -(2 ^ 62) ≤ j ∧ j < 2 ^ 62) ∧ q (rngD i (j - i).toNat) s1
  | _ => False
instance {t : TA} {p : PA1} [LiftA K Ξ t p] : LiftI K Ξ (iRng2 t) (pRng2 p) := ⟨fun q T h k => by
  refine LiftA.run (K := K) (t := t) (p := p) _ T h fun vs F1 H1 ω1 ds s1 p1 T1 r1 h1 => ?_
  split at h1
  · obtain ⟨v, w, rfl, r2, r3⟩ := r1.two
    cases (show v = _ from r2)
    cases (show w = _ from r3)
    exact ⟨_, _, rfl, h1.1, k _ F1 H1 ω1 _ s1 p1 T1 walkD_range h1.2⟩
  · exact h1.elim⟩
def enD (ds : List D) : List D := ds.mapIdx fun i d => .tup [.int (i : Nat), d]
theorem enD_len {ds : List D} : (enD ds).length = ds.length := by simp [enD]
theorem enD_get {ds : List D} {i : Nat} {d : D} (h : (enD ds)[i]? = some d) : ∃ x, ds[i]? = some x ∧ d = .tup [.int (i : Nat), x] := by
  unfold enD at h
  rw [List.getElem?_mapIdx] at h
  cases e : ds[i]? with
  | none => rw [e] at h; cases h
  | some x => rw [e] at h; exact ⟨x, rfl, (Option.some.inj h).symm⟩
def zipD (ds es : List D) : List D := List.zipWith (fun a b => .tup [a, b]) ds es
theorem zipD_get {ds es : List D} {i : Nat} {d : D} (h : (zipD ds es)[i]? = some d) : ∃ x y, ds[i]? = some x ∧ es[i]? = some y ∧ d = .tup [x, y] := by
  unfold zipD at h
  rw [List.getElem?_zipWith] at h
  cases e : ds[i]? with
  | none => rw [e] at h; cases h
  | some x =>
    cases e2 : es[i]? with
    | none => rw [e, e2] at h; cases h
    | some y => rw [e, e2] at h; exact ⟨x, y, rfl, rfl, (Option.some.inj h).symm⟩
theorem pair_new {F1 H H' : Hp} {x : V} {xs ys : Nat → Option V} {i : Nat} {d e : D} (s2 : Same F1 H) (y : YPair xs ys i H x H') (h1 : ∀ v, xs i = some v → Rp K F1 d v) (h2 : ∀ v, ys i = some v → Rp K F1 e v) :
    ∃ F2, Ext F1 H F2 H' ∧ Rp K F2 (.tup [d, e]) x := by
  obtain ⟨T, v, w, rfl, hT, rfl, e1, e2⟩ := y
  have hm := same_upd (o := .tup [v, w]) (s2.free hT)
  exact ⟨_, Ext.fz s2 hT _, T, [v, w], rfl, SqT.of upd_same, v, [w], rfl, (h1 v e1).mono hm, w, [], rfl, (h2 w e2).mono hm, rfl⟩
theorem walkD_enum {F : Hp} {a : Addr} {ds : List D} {vs : List V} (h1 : SqL K F a vs) (h2 : RpA K F ds vs) : WalkD K F (Ite K a) (enD ds) := by
  refine ⟨_, _, by rw [enD_len, h2.len]; exact walk_enum (K := K) (a := a) (xs := vs), fun H hs => hs.seq h1, fun i H x H' F1 d e s1 s2 y => ?_⟩
  obtain ⟨z, hz, rfl⟩ := enD_get e
  refine pair_new s2 y (fun v hv => (Option.some.inj hv).symm) fun v hv => ?_
  obtain ⟨w, hw, r⟩ := h2.get hz
  rw [hw] at hv
  cases hv
  exact r.mono s1
def pEnum (p : PA1) : PI1 := fun s q => p s fun ds s1 => match ds with
  | [.lst xs] => q (enD xs) s1
  | _ => False
instance {t : TA} {p : PA1} [LiftA K Ξ t p] : LiftI K Ξ (iEnum K t) (pEnum p) := ⟨fun q T h k => by
  refine LiftA.run (K := K) (t := t) (p := p) _ T h fun vs F1 H1 ω1 ds s1 p1 T1 r1 h1 => ?_
  split at h1
  · obtain ⟨v, rfl, a, ws, rfl, r2, r3⟩ := r1.one
    exact ⟨a, ws, rfl, SqL.of (T1.sf _ _ r2), k _ F1 H1 ω1 _ s1 p1 T1 (walkD_enum (SqL.of r2) r3) h1⟩
  · exact h1.elim⟩
theorem walkD_zip {F : Hp} {a b : Addr} {ds es : List D} {vs ws : List V} (h1 : SqL K F a vs) (h2 : RpA K F ds vs) (h3 : SqL K F b ws) (h4 : RpA K F es ws) : WalkD K F (Itz K a b) (zipD ds es) := by
  refine ⟨_, _, walk_zip (K := K) (a := a) (b := b) (xs := vs) (ys := ws) (by unfold zipD; rw [List.length_zipWith, h2.len, h4.len]), fun H hs => ⟨hs.seq h1, hs.seq h3⟩, fun i H x H' F1 d e s1 s2 y => ?_⟩
  obtain ⟨z, u, hz, hu, rfl⟩ := zipD_get e
  refine pair_new s2 y (fun v hv => ?_) fun v hv => ?_
  · obtain ⟨w, hw, r⟩ := h2.get hz
    rw [hw] at hv
    cases hv
    exact r.mono s1
  · obtain ⟨w, hw, r⟩ := h4.get hu
    rw [hw] at hv
    cases hv
    exact r.mono s1
def pZip (p : PA1) : PI1 := fun s q => p s fun ds s1 => match ds with
  | [.lst xs, .lst ys] => q (zipD xs ys) s1
  | _ => False
instance {t : TA} {p : PA1} [LiftA K Ξ t p] : LiftI K Ξ (iZip K t) (pZip p) := ⟨fun q T h k => by
  refine LiftA.run (K := K) (t := t) (p := p) _ T h fun vs F1 H1 ω1 ds s1 p1 T1 r1 h1 => ?_
  split at h1
  · obtain ⟨v, w, rfl, ⟨a, ws, rfl, r2, r3⟩, ⟨b, us, rfl, r4, r5⟩⟩ := r1.two
    exact ⟨a, b, ws, us, rfl, SqL.of (T1.sf _ _ r2), SqL.of (T1.sf _ _ r4), k _ F1 H1 ω1 _ s1 p1 T1 (walkD_zip (SqL.of r2) r3 (SqL.of r4) r5) h1⟩
  · exact h1.elim⟩
def chD (z : Str) : List D := z.cps.toList.map fun c => .str ⟨#[c]⟩
def pStrI (p : PD) : PI1 := fun s q => p s fun d s1 => match d with
  | .str z => q (chD z) s1
  | _ => False
theorem walkD_str {F : Hp} {z : Str} : WalkD K F (Its z) (chD z) := by
  refine ⟨_, _, by rw [show (chD z).length = z.cps.size by simp [chD]]; exact walk_str, fun _ _ => trivial, fun i H x H' F1 d e s1 s2 y => ?_⟩
  obtain ⟨rfl, c, hc, rfl⟩ := y
  unfold chD at e
  rw [List.getElem?_map, Array.getElem?_toList, hc] at e
  cases e
  exact ⟨F1, Ext.refl s2, rfl⟩
instance {t : TE} {p : PD} [LiftD K Ξ t p] : LiftI K Ξ (fun σ H R => t σ H fun v H1 => ∃ x, v = .str x ∧ R (Its x) H1) (pStrI p) := ⟨fun q T h k => by
  refine LiftD.run (K := K) (t := t) (p := p) _ T h fun v F1 H1 ω1 d s1 p1 T1 r1 h1 => ?_
  split at h1
  · exact ⟨_, r1, k _ F1 H1 ω1 _ s1 p1 T1 walkD_str h1⟩
  · exact h1.elim⟩
/-! ### comprehensions -/
def wipeS (s : Sl) : List Nat → Sl
  | [] => s
  | v :: vs => (wipeS s vs).set v none
theorem Sta.wipe {F H : Hp} {ω : Om} {s : Sl} {σ : L2.St} (T : Sta K Ξ F H ω s σ) : ∀ vs, Sta K Ξ F H ω (wipeS s vs) (L2.wipe σ vs)
  | [] => T
  | v :: vs => (Sta.wipe T vs).dropσ v none
/-- .. and back: the slots of the block are as before, and nothing is said of them -/
theorem Sta.unwipe {F H : Hp} {ω : Om} {s : Sl} {σ σ' : L2.St} (T : Sta K Ξ F H ω s σ') {vs : List Nat} (hw : L2.wipe σ' vs = L2.wipe σ vs) : Sta K Ξ F H ω (wipeS s vs) σ := by
  have T1 := T.wipe vs
  rw [hw] at T1
  refine ⟨⟨T1.tb, T1.sf, T1.ow, fun i x h => ?_, by rw [T1.len, wipe_length], T1.ix⟩, T1.ex⟩
  obtain ⟨v, hv, r⟩ := T1.at' i x h
  exact ⟨v, (wipe_some hv).1, r⟩
def pLc (pi : PI1) (pg : PG1) (ss : List Nat) (pt : PT1) (pe : PD) (vs : List Nat) : PX := fun s q => pi s fun ds s1 => if ss.all vs.contains = true then ds.length ≤ 100000 ∧ ∃ I : Nat → List D → Sl → Prop, I 0 [] (wipeS s1 vs) ∧
  (∀ i d acc s2, ds[i]? = some d → I i acc s2 → pg d s2 fun s3 => pt s3 (fun s4 => pe s4 fun e s5 => I (i + 1) (acc ++ [e]) (wipeS s5 vs)) (fun s4 => I (i + 1) acc (wipeS s4 vs))) ∧
  ∀ acc s2, I ds.length acc s2 → q (.ow false (.lst acc)) s2 else False
theorem wipe_setm {v : Nat} : ∀ {vs : List Nat} {σ : L2.St}, v ∈ vs → (L2.wipe σ vs).set v none = L2.wipe σ vs
  | [], _, h => by simp at h
  | w :: vs, σ, h => by
    show ((L2.wipe σ vs).set w none).set v none = (L2.wipe σ vs).set w none
    by_cases e : v = w
    · subst e
      rw [List.set_set]
    · rw [List.set_comm _ _ (fun z => e z.symm), wipe_setm ((List.mem_cons.mp h).resolve_left e)]
theorem wipe_sub {σ : L2.St} {vs : List Nat} : ∀ {ws : List Nat}, (∀ i ∈ ws, i ∈ vs) → L2.wipe (L2.wipe σ vs) ws = L2.wipe σ vs
  | [], _ => rfl
  | w :: ws, h => by
    show (L2.wipe (L2.wipe σ vs) ws).set w none = L2.wipe σ vs
    rw [wipe_sub fun i hi => h i (List.mem_cons_of_mem _ hi), wipe_setm (h w List.mem_cons_self)]
theorem wipe_wipe (σ : L2.St) (vs : List Nat) : L2.wipe (L2.wipe σ vs) vs = L2.wipe σ vs := wipe_sub fun _ h => h
/-- a new thing that no slot has is changed -/
theorem Stp.mutNew {F0 H0 F H : Hp} {ω0 ω : Om} {A : Addr} {u : HO} (p : Stp F0 H0 ω0 F H ω) (hA : H0 A = none) : Stp F0 H0 ω0 F (upd H A u) ω :=
  ⟨p.tb0, p.tb.go (Same.refl F) (fun b o ht h1 h2 => by rw [upd_ne (tadr_ne ht (p.tb0.new hA))]; exact h2) (fun _ _ _ h _ => h) (fun _ _ _ _ _ h => h), fun b o h1 h2 => by rw [upd_ne (ne_of_none h2 hA)]; exact p.th b o h1 h2, p.sf, fun b o ht h1 h2 => by rw [upd_ne (ne_of_none h2 hA)]; exact p.fr b o ht h1 h2, p.om, p.fn, fun b h => by
    by_cases hb : b = A
    · rw [hb]
      exact hA
    · rw [upd_ne hb] at h
      exact p.tr b h, p.bk, p.bp, p.kb⟩
theorem Sta.mutFree {F H : Hp} {ω : Om} {s : Sl} {σ : L2.St} {A : Addr} {u : HO} (T : Sta0 K F H ω s σ) (h1 : ω A = none) (h2 : F A = none) (ht : ¬ tadr A) : Sta0 K F (upd H A u) ω s σ := by
  refine ⟨T.tb.go (Same.refl F) (fun b o hb _ h => by rw [upd_ne (tadr_ne hb ht)]; exact h) (fun _ _ _ h _ => h) (fun _ _ _ _ _ h => h), fun b o h => ?_, fun b p h => ?_, fun i x h => ?_, T.len, T.ix⟩
  · rw [upd_ne (fun z => by rw [z, h2] at h; cases h)]
    exact T.sf b o h
  · rw [upd_ne (fun z => by rw [z, h1] at h; cases h)]
    exact T.ow b p h
  · obtain ⟨v, hv, r⟩ := T.at' i x h
    refine ⟨v, hv, r.to (Same.refl F) fun a w ⟨q, hq⟩ hw => ?_⟩
    rw [upd_ne (fun z => by rw [z, h1] at hq; cases hq)]
    exact hw
instance {wi : TI} {g : TG} {tt : TT} {te : TE} {vs : List Nat} {pi : PI1} {pg : PG1} {ss : List Nat} {pt : PT1} {pe : PD} [LiftI K Ξ wi pi] [LiftG K XI.zero g pg ss] [LiftT K XI.zero tt pt] [LiftD K XI.zero te pe] : LiftE K Ξ (tLc wi g tt te vs) (pLc pi pg ss pt pe vs) := ⟨fun {F H ω s σ Q} kk T h k => by
  refine LiftI.run (K := K) (t := wi) (p := pi) _ T h fun J F1 H1 ω1 ds s1 p1 T1 w1 h1 => ?_
  split at h1
  rotate_left
  · exact h1.elim
  rename_i hss
  have hss' : ∀ i ∈ ss, i ∈ vs := fun i hi => by simpa using List.all_eq_true.mp hss i hi
  obtain ⟨hlen, I, i0, istep, iend⟩ := h1
  obtain ⟨G, Y, W, hG, hY⟩ := w1
  intro A hA
  have e0 : Ext F1 H1 F1 (upd H1 A (.lst [])) := Ext.ow T1.sf hA _
  obtain ⟨p2, T2⟩ := e0.stp T1
  have kk' : ∀ {F2 : Hp} {ω2 : Om} {s2 : Sl} {acc : List D} {ws : List V} {H' : Hp}, Sta0 K F2 H' ω2 s2 σ → I ds.length acc s2 → Stp F1 H1 ω1 F2 H' ω2 → ω2 A = none → F2 A = none → H' A = some (.lst ws) → RpA K F2 acc ws → Q (.ref A) H' :=
    fun {F2 ω2 s2 acc ws H'} T4 hI p3 a1 a2 a3 a4 => k _ F2 H' ω2 (.ow false (.lst acc)) s2 (p1.trans p3) ⟨T4, T1.ex.step p3⟩ ⟨A, [A], rfl, fun a ha => by cases List.mem_singleton.mp ha; exact ⟨p1.tr A hA, a1, a2⟩, obj_lst a3 a4⟩ (iend acc s2 hI)
  -- the invariant: a state of the slots without the block's names, the new list at A
  refine lc_it W (fun i H' => ∃ F2 ω2 s2 acc ws, Stp F1 H1 ω1 F2 H' ω2 ∧ Sta K XI.zero F2 H' ω2 s2 (L2.wipe σ vs) ∧ ω2 A = none ∧ F2 A = none ∧ H' A = some (.lst ws) ∧ RpA K F2 acc ws ∧ acc.length ≤ i ∧ I i acc s2) ?_ ?_ ?_ ?_
  · exact ⟨F1, ω1, wipeS s1 vs, [], [], p2, ⟨(T2.wipe vs).base, Exo.zero⟩, Sta.free T1.base hA, T1.sf.free hA, upd_same, rfl, Nat.le_refl _, i0⟩
  · rintro i H' hi ⟨F2, ω2, s2, acc, ws, p3, T3, _⟩
    exact hG H' (p3.sf.trans T3.sf)
  · rintro i x H' H'' hi ⟨F2, ω2, s2, acc, ws, p3, T3, a1, a2, a3, a4, a5, hI⟩ y
    have hd : ds[i]? = some ds[i] := List.getElem?_eq_getElem hi
    obtain ⟨F3, e3, r3⟩ := hY i H' x H'' F2 _ hd p3.sf T3.sf y
    obtain ⟨p4, T4⟩ := e3.stp T3
    refine LiftG.run (K := K) (g := g) (p := pg) (ss := ss) _ T4 r3 (istep i _ acc s2 hd hI) fun σ5 s5 T5 w5 h5 => ?_
    have hw5 : L2.wipe σ5 vs = L2.wipe σ vs := by rw [w5 vs hss']; exact wipe_wipe σ vs
    refine ⟨hw5, ?_⟩
    have pp := p3.trans p4
    refine LiftT.run (K := K) (t := tt) (p := pt) _ _ T5 h5 fun b F6 H6 ω6 s6 p6 T6 h6 => ?_
    have b1 : H'' A = some (.lst ws) := e3.sh _ _ a3
    have b2 : F3 A = none := e3.fn _ _ a3 a2
    have c1 := p6.fr A _ (T1.tb.new hA) a1 b1
    have c2 := p6.fn A _ a1 b1 b2
    have c3 := p6.om A _ a1 b1
    cases b with
    | false =>
      refine iteF ⟨F6, ω6, wipeS s6 vs, acc, ws, pp.trans p6, ?_, c3, c2, c1, a4.mono (e3.sf.trans p6.sf), by omega, by simpa using h6⟩
      have T7 := T6.wipe vs
      rw [hw5] at T7
      exact T7
    | true =>
      refine iteT (LiftD.run (K := K) (t := te) (p := pe) _ T6 (by simpa using h6) fun v F7 H7 ω7 d s7 p7 T7 r7 h7 => ?_)
      have d1 := p7.fr A _ (T1.tb.new hA) c3 c1
      have d2 := p7.fn A _ c3 c1 c2
      have d3 := p7.om A _ c3 c1
      have hlA : ws.length = acc.length := a4.len.symm
      have T8 := T7.wipe vs
      rw [hw5] at T8
      exact ⟨ws, d1, Nat.lt_of_le_of_lt (show ws.length ≤ 100000 by omega) (by decide), F7, ω7, wipeS s7 vs, acc ++ [d], ws ++ [v], ((pp.trans p6).trans p7).mutNew hA, ⟨Sta.mutFree T8.base d3 d2 (T1.tb.new hA), Exo.zero⟩, d3, d2, upd_same,
        ((a4.mono ((e3.sf.trans p6.sf).trans p7.sf)).snoc r7), by rw [List.length_append]; simp; omega, h7⟩
  · rintro H' ⟨F2, ω2, s2, acc, ws, p3, T3, a1, a2, a3, a4, a5, hI⟩
    exact kk' ⟨T3.tb, T3.sf, T3.ow, fun i x h => (T3.at' i x h).elim fun v hv => ⟨v, (wipe_some hv.1).1, hv.2⟩, by rw [T3.len, wipe_length], T3.ix⟩ hI p3 a1 a2 a3 a4⟩
end
/-! ### statements -/
structure PEnds where
  nx : Sl → Prop
  rt : S → Sl → Prop
  bk : Sl → Prop := fun _ => False
  ct : Sl → Prop := fun _ => False
abbrev PS1 := PEnds → Sl → Prop
structure Meets (K : PySem.W.Frag) (Ξ : XI) (H0 F H : Hp) (ω : Om) (E : PEnds) (D : Ends) : Prop where
  nx : ∀ {σ' F' H' ω' s'}, Stp F H ω F' H' ω' → Sta K Ξ F' H' ω' s' σ' → E.nx s' → D.nx σ' H'
  rt : ∀ {v σ' F' H' ω' x s'}, Stp F H ω F' H' ω' → Sta K Ξ F' H' ω' s' σ' → Rt K H0 F' H' ω' x v → E.rt x s' → D.rt v H'
  bk : ∀ {σ' F' H' ω' s'}, Stp F H ω F' H' ω' → Sta K Ξ F' H' ω' s' σ' → E.bk s' → D.bk σ' H'
  ct : ∀ {σ' F' H' ω' s'}, Stp F H ω F' H' ω' → Sta K Ξ F' H' ω' s' σ' → E.ct s' → D.ct σ' H'
  up : ∀ b, H b = none → H0 b = none
  yg : ∀ b j, ω b = some (j, .o) → H0 b = none
theorem Meets.old {K : PySem.W.Frag} {Ξ : XI} {H0 F H F1 H1 : Hp} {ω ω1 : Om} {E : PEnds} {D : Ends} (M : Meets K Ξ H0 F H ω E D) (p : Stp F H ω F1 H1 ω1) : (∀ b, H1 b = none → H0 b = none) ∧ ∀ b j, ω1 b = some (j, .o) → H0 b = none := by
  refine ⟨fun b h => M.up b (p.tr b h), fun b j h => ?_⟩
  cases hw : ω b with
  | none =>
    cases hb : H b with
    | none => exact M.up b hb
    | some o =>
      rw [p.om b o hw hb] at h
      cases h
  | some w =>
    obtain ⟨j', c⟩ := w
    cases c with
    | o => exact M.yg b j' hw
    | r =>
      rw [(p.bk b j').mpr hw] at h
      cases h
    | p =>
      cases hb : H b with
      | none => exact M.up b hb
      | some o =>
        rcases p.bp b j' o hb hw with z | z
        · rw [z] at h; cases h
        · rw [z] at h; cases h
theorem Meets.step {K : PySem.W.Frag} {Ξ : XI} {H0 F H F1 H1 : Hp} {ω ω1 : Om} {E : PEnds} {D : Ends} (M : Meets K Ξ H0 F H ω E D) (p : Stp F H ω F1 H1 ω1) : Meets K Ξ H0 F1 H1 ω1 E D :=
  ⟨fun q T h => M.nx (p.trans q) T h, fun q T r h => M.rt (p.trans q) T r h, fun q T h => M.bk (p.trans q) T h, fun q T h => M.ct (p.trans q) T h, (M.old p).1, (M.old p).2⟩
/-- the same for other ends -/
theorem Meets.ends {K : PySem.W.Frag} {Ξ : XI} {H0 F H : Hp} {ω : Om} {E E' : PEnds} {D D' : Ends} (M : Meets K Ξ H0 F H ω E D) (hrE : E'.rt = E.rt) (hrD : D'.rt = D.rt)
    (nx : ∀ {σ' F' H' ω' s'}, Stp F H ω F' H' ω' → Sta K Ξ F' H' ω' s' σ' → E'.nx s' → D'.nx σ' H') (bk : ∀ {σ' F' H' ω' s'}, Stp F H ω F' H' ω' → Sta K Ξ F' H' ω' s' σ' → E'.bk s' → D'.bk σ' H')
    (ct : ∀ {σ' F' H' ω' s'}, Stp F H ω F' H' ω' → Sta K Ξ F' H' ω' s' σ' → E'.ct s' → D'.ct σ' H') : Meets K Ξ H0 F H ω E' D' :=
  ⟨nx, fun q T r h => by rw [hrD]; exact M.rt q T r (by rw [← hrE]; exact h), bk, ct, M.up, M.yg⟩
class LiftS (K : PySem.W.Frag) (Ξ : XI) (t : TS) (p : outParam PS1) : Prop where
  run : ∀ {H0 F H : Hp} {ω : Om} {s : Sl} {σ : L2.St} {D : Ends} (E : PEnds), Sta K Ξ F H ω s σ → p E s → Meets K Ξ H0 F H ω E D → t D σ H
section
variable {K : PySem.W.Frag} {Ξ : XI}
def psSeq (p q : PS1) : PS1 := fun E s => p { E with nx := q E } s
def psCut (p q : PS1) : PS1 := fun E s => ∃ Mid : Sl → Prop, p { E with nx := Mid } s ∧ ∀ s', Mid s' → q E s'
theorem psSeq_run {t u : TS} {p q : PS1} [LiftS K Ξ t p] [LiftS K Ξ u q] {H0 F H : Hp} {ω : Om} {s : Sl} {σ : L2.St} {D : Ends} (E : PEnds) (T : Sta K Ξ F H ω s σ) (h : psSeq p q E s) (M : Meets K Ξ H0 F H ω E D) : t { D with nx := u D } σ H :=
  LiftS.run (K := K) (t := t) (p := p) _ T h (M.ends rfl rfl (fun {σ' F' H' ω' s'} p' T' h' => LiftS.run (K := K) (t := u) (p := q) E T' h' (M.step p')) M.bk M.ct)
instance {t u : TS} {p q : PS1} [LiftS K Ξ t p] [LiftS K Ξ u q] : LiftS K Ξ (tSeq t u) (psSeq p q) := ⟨fun E T h M => psSeq_run (t := t) (u := u) (p := p) (q := q) E T h M⟩
instance {t u : TS} {p q : PS1} [LiftS K Ξ t p] [LiftS K Ξ u q] : LiftS K Ξ (C8.tCut t u) (psCut p q) := ⟨fun {H0 F H ω s σ D} E T h M => by
  obtain ⟨Mid, h1, h2⟩ := h
  refine ⟨fun σ' H' => ∃ F' ω' s', Stp F H ω F' H' ω' ∧ Sta K Ξ F' H' ω' s' σ' ∧ Mid s', ?_, fun σ' H' hm => ?_⟩
  · exact LiftS.run (K := K) (t := t) (p := p) _ T h1 (M.ends rfl rfl (fun {σ' F' H' ω' s'} p' T' h' => ⟨F', ω', s', p', T', h'⟩) M.bk M.ct)
  · obtain ⟨F', ω', s', p', T', hm⟩ := hm
    exact LiftS.run (K := K) (t := u) (p := q) E T' (h2 s' hm) (M.step p')⟩
instance : LiftS K Ξ tNext (fun E s => E.nx s) := ⟨fun E T h M => M.nx (Stp.refl T.tb) T h⟩
instance : LiftS K Ξ tBreak (fun E s => E.bk s) := ⟨fun E T h M => M.bk (Stp.refl T.tb) T h⟩
instance : LiftS K Ξ tCont (fun E s => E.ct s) := ⟨fun E T h M => M.ct (Stp.refl T.tb) T h⟩
instance : LiftS K Ξ tNever (fun _ _ => False) := ⟨fun E T h M => h.elim⟩
def psDrop (p : PX) : PS1 := fun E s => p s fun _ s1 => E.nx s1
instance {t : TE} {p : PX} [LiftE K Ξ t p] : LiftS K Ξ (tDrop t) (psDrop p) := ⟨fun E T h M =>
  LiftE.run (K := K) (t := t) (p := p) _ T h fun v F' H' ω' x s' p' T' r hq => M.nx p' T' hq⟩
def psRet (p : PX) : PS1 := fun E s => p s E.rt
instance {t : TE} {p : PX} [LiftE K Ξ t p] : LiftS K Ξ (tRet t) (psRet p) := ⟨fun E T h M =>
  LiftE.run (K := K) (t := t) (p := p) _ T h fun v F' H' ω' x s' p' T' r hq => M.rt p' T' (r.early M.up) hq⟩
instance : LiftS K Ξ tRetN (fun E s => E.rt (.fr .non) s) := ⟨fun E T h M => M.rt (Stp.refl T.tb) T (x := .fr .non) rfl h⟩
/-- what is returned as it stands: an object of its own is handed out -/
def psRetV (i : Nat) : PS1 := fun E s => match s[i]? with
  | some (some (.ow false o)) => E.rt (.ow false o) (s.set i none) ∨ psRet (pVar i) E s
  | _ => psRet (pVar i) E s
instance (priority := high) (i : Nat) : LiftS K Ξ (tRet (tVar i)) (psRetV i) := ⟨fun {H0 F H ω s σ D} E T h M => by
  unfold psRetV at h
  split at h
  · rename_i o e
    rcases h with h | h
    · obtain ⟨l, A, hv, hA, p, T', ho⟩ := T.letgo e
      exact ⟨_, hv, M.rt p T' (x := .ow false o) ⟨l, A, rfl, fun a ha => ⟨M.yg a i (hA a ha).1, (hA a ha).2.2, (hA a ha).2.1⟩, ho⟩ h⟩
    · exact LiftS.run (K := K) (t := tRet (tVar i)) (p := psRet (pVar i)) E T h M
  · exact LiftS.run (K := K) (t := tRet (tVar i)) (p := psRet (pVar i)) E T h M⟩
def psIf (c : PT1) (p q : PS1) : PS1 := fun E s => c s (fun s1 => p E s1) (fun s1 => q E s1)
instance {c : TT} {t u : TS} {pc : PT1} {p q : PS1} [LiftT K Ξ c pc] [LiftS K Ξ t p] [LiftS K Ξ u q] : LiftS K Ξ (tIfS c t u) (psIf pc p q) := ⟨fun E T h M => by
  refine LiftT.run (K := K) (t := c) (p := pc) _ _ T h fun b F1 H1 ω1 s1 p1 T1 h1 => ?_
  cases b with
  | true => exact iteT (LiftS.run (K := K) (t := t) (p := p) E T1 (by simpa using h1) (M.step p1))
  | false => exact iteF (LiftS.run (K := K) (t := u) (p := q) E T1 (by simpa using h1) (M.step p1))⟩
/-! assignments -/
def setS (i : Nat) (x : S) (s : Sl) : Sl := match x with
  | .fr d => s.set i (some (.fr d))
  | .ow _ o => s.set i (some (.ow false o))
  | .hid v => s.set i (some (.hid v))
def psSet (i : Nat) (p : PX) : PS1 := fun E s => p s fun x s1 => E.nx (setS i x s1)
instance (priority := high) {t : TE} {p : PX} {i : Nat} [LiftE K Ξ t p] : LiftS K Ξ (tAsg t (gName i)) (psSet i p) := ⟨fun E T h M => by
  refine LiftE.run (K := K) (t := t) (p := p) _ T h fun v F' H' ω' x s' p' T' r hq => ?_
  cases x with
  | fr d => exact M.nx p' (T'.set i r) hq
  | ow b o =>
    obtain ⟨ω2, p2, T2⟩ := Sta.setO p' T.ex T' i r
    exact M.nx p2 T2 hq
  | hid u => exact M.nx p' (T'.setH i r) hq⟩
def psAsg (p : PD) (pg : PG1) : PS1 := fun E s => p s fun d s1 => pg d s1 E.nx
instance {t : TE} {p : PD} {g : TG} {pg : PG1} {ss : List Nat} [LiftD K Ξ t p] [LiftG K Ξ g pg ss] : LiftS K Ξ (tAsg t g) (psAsg p pg) := ⟨fun E T h M => by
  refine LiftD.run (K := K) (t := t) (p := p) _ T h fun v F' H' ω' d s' p' T' r hq => ?_
  exact LiftG.run (K := K) (g := g) (p := pg) (ss := ss) _ T' r hq fun σ2 s2 T2 _ h2 => M.nx p' T2 h2⟩
def psPar (i j : Nat) (p : PA1) : PS1 := fun E s => p s fun ds s1 => match ds with
  | [d, e] => E.nx ((s1.set i (some (.fr d))).set j (some (.fr e)))
  | _ => False
instance {i j : Nat} {t : TA} {p : PA1} [LiftA K Ξ t p] : LiftS K Ξ (tPar i j t) (psPar i j p) := ⟨fun E T h M => by
  refine LiftA.run (K := K) (t := t) (p := p) _ T h fun vs F' H' ω' ds s' p' T' r hq => ?_
  split at hq
  · obtain ⟨v, w, rfl, r1, r2⟩ := r.two
    exact ⟨v, w, rfl, M.nx p' ((T'.set i r1).set j r2) hq⟩
  · exact hq.elim⟩
def psAug (i : Nat) (f : Int → Int → Int) (p : PD) : PS1 := fun E s => match s[i]? with
  | some (some (.fr (.int a))) => p s fun d s1 => match d with
    | .int b => E.nx (s1.set i (some (.fr (.int (f a b)))))
    | _ => False
  | _ => False
instance {i : Nat} {f : Int → Int → Int} {t : TE} {p : PD} [LiftD K Ξ t p] : LiftS K Ξ (tAug i t (ipI f)) (psAug i f p) := ⟨fun E T h M => by
  unfold psAug at h
  split at h
  · rename_i a e
    obtain ⟨v, hv, r⟩ := T.get e
    cases (show v = _ from r)
    refine ⟨_, hv, LiftD.run (K := K) (t := t) (p := p) _ T h fun v F' H' ω' d s' p' T' r hq => ?_⟩
    split at hq
    · rename_i b
      exact ⟨_, _, rfl, r, M.nx p' (T'.set i (d := .int (f a b)) rfl) hq⟩
    · exact hq.elim
  · exact h.elim⟩
/-! loops -/
def psFor (pi : PI1) (pg : PG1) (pb : PS1) : PS1 := fun E s => pi s fun ds s1 => ∃ I : Nat → Sl → Prop, I 0 s1 ∧
  (∀ i d s2, ds[i]? = some d → I i s2 → pg d s2 fun s3 => pb { E with nx := I (i + 1), ct := I (i + 1), bk := E.nx } s3) ∧ ∀ s2, I ds.length s2 → E.nx s2
instance {wi : TI} {g : TG} {tb : TS} {pi : PI1} {pg : PG1} {ss : List Nat} {pb : PS1} [LiftI K Ξ wi pi] [LiftG K Ξ g pg ss] [LiftS K Ξ tb pb] : LiftS K Ξ (tFor wi g tb) (psFor pi pg pb) := ⟨fun {H0 F H ω s σ D} E T h M => by
  refine LiftI.run (K := K) (t := wi) (p := pi) _ T h fun J F1 H1 ω1 ds s1 p1 T1 w1 h1 => ?_
  obtain ⟨I, i0, istep, iend⟩ := h1
  obtain ⟨G, Y, W, hG, hY⟩ := w1
  refine for_it W (fun i σ' H' => ∃ F2 ω2 s2, Stp F1 H1 ω1 F2 H' ω2 ∧ Sta K Ξ F2 H' ω2 s2 σ' ∧ I i s2) ⟨F1, ω1, s1, Stp.refl T1.tb, T1, i0⟩ ?_ ?_ ?_
  · rintro i σ' H' hi ⟨F2, ω2, s2, p3, T3, _⟩
    exact hG H' (p3.sf.trans T3.sf)
  · rintro i x σ' H' H'' hi ⟨F2, ω2, s2, p3, T3, hI⟩ y
    have hd : ds[i]? = some ds[i] := List.getElem?_eq_getElem hi
    obtain ⟨F3, e3, r3⟩ := hY i H' x H'' F2 _ hd p3.sf T3.sf y
    obtain ⟨p4, T4⟩ := e3.stp T3
    refine LiftG.run (K := K) (g := g) (p := pg) (ss := ss) _ T4 r3 (istep i _ s2 hd hI) fun σ5 s5 T5 w5 h5 => ?_
    have pp := p3.trans p4
    have M1 := M.step (p1.trans pp)
    exact LiftS.run (K := K) (t := tb) (p := pb) _ T5 h5 (M1.ends rfl rfl (fun {σ' F' H' ω' s'} p' T' h' => ⟨F', ω', s', pp.trans p', T', h'⟩)
      M1.nx (fun {σ' F' H' ω' s'} p' T' h' => ⟨F', ω', s', pp.trans p', T', h'⟩))
  · rintro σ' H' ⟨F2, ω2, s2, p3, T3, hI⟩
    exact M.nx (p1.trans p3) T3 (iend s2 hI)⟩
def psWhile (c : PT1) (pb : PS1) : PS1 := fun E s => ∃ I : Nat → Sl → Prop, (∃ m, I m s) ∧
  ∀ m s1, I m s1 → c s1 (fun s2 => pb { E with nx := fun s3 => ∃ m', m' < m ∧ I m' s3, ct := fun s3 => ∃ m', m' < m ∧ I m' s3, bk := E.nx } s2) (fun s2 => E.nx s2)
instance {c : TT} {tb : TS} {pc : PT1} {pb : PS1} [LiftT K Ξ c pc] [LiftS K Ξ tb pb] : LiftS K Ξ (tWhile c tb) (psWhile pc pb) := ⟨fun {H0 F H ω s σ D} E T h M => by
  obtain ⟨I, ⟨m0, i0⟩, istep⟩ := h
  refine ⟨fun m σ' H' => ∃ F2 ω2 s2, Stp F H ω F2 H' ω2 ∧ Sta K Ξ F2 H' ω2 s2 σ' ∧ I m s2, ⟨m0, F, ω, s, Stp.refl T.tb, T, i0⟩, ?_⟩
  rintro m σ' H' ⟨F2, ω2, s2, p3, T3, hI⟩
  refine LiftT.run (K := K) (t := c) (p := pc) _ _ T3 (istep m s2 hI) fun b F4 H4 ω4 s4 p4 T4 h4 => ?_
  have pp := p3.trans p4
  have M1 := M.step pp
  cases b with
  | false => exact iteF (M.nx pp T4 (by simpa using h4))
  | true =>
    rw [if_pos rfl] at h4
    refine iteT ⟨fun σ' H' => ∃ m', m' < m ∧ ∃ F2 ω2 s2, Stp F H ω F2 H' ω2 ∧ Sta K Ξ F2 H' ω2 s2 σ' ∧ I m' s2, fun σ' H' hh => hh, ?_⟩
    exact LiftS.run (K := K) (t := tb) (p := pb) _ T4 h4 (M1.ends rfl rfl (fun {σ' F' H' ω' s'} p' T' h' => let ⟨m', hm, hi⟩ := h'; ⟨m', hm, F', ω', s', pp.trans p', T', hi⟩)
      M1.nx (fun {σ' F' H' ω' s'} p' T' h' => let ⟨m', hm, hi⟩ := h'; ⟨m', hm, F', ω', s', pp.trans p', T', hi⟩))⟩
/-! ### a name's own list is changed -/
class MuL (K : PySem.W.Frag) (r : V → List V → Hp → VK → Prop) (g : outParam (List D → List D → (D → List D → Prop) → Prop)) : Prop where
  run : ∀ {F H : Hp} {l : Addr} {xs : List D} {ws vs : List V} {ds : List D} {Q : VK} (q : D → List D → Prop), Same F H → F l = none → H l = some (.lst ws) → RpA K F xs ws → RpA K F ds vs → g xs ds q →
    (∀ v us d ys, Rp K F d v → RpA K F ys us → q d ys → Q v (upd H l (.lst us))) → r (.ref l) vs H Q
def pMu (i : Nat) (g : List D → List D → (D → List D → Prop) → Prop) (pa : PA1) : PX := fun s q => match s[i]? with
  | some (some (.ow _ (.lst _))) => pa s fun ds s1 => match s1[i]? with
    | some (some (.ow b (.lst xs))) => g xs ds fun d ys => q (.fr d) (s1.set i (some (.ow b (.lst ys))))
    | _ => False
  | _ => False
theorem mu_run {r : V → List V → Hp → VK → Prop} {g : List D → List D → (D → List D → Prop) → Prop} [MuL K r g] {i : Nat} {F H : Hp} {ω : Om} {s : Sl} {σ : L2.St} {v0 : V} {vs : List V} {ds : List D} {b : Bool} {xs : List D} {Q : VK} {q : S → Sl → Prop} (T : Sta K Ξ F H ω s σ) (hv : σ[i]? = some (some v0))
    (hs : s[i]? = some (some (.ow b (.lst xs)))) (r1 : RpA K F ds vs) (h : g xs ds fun d ys => q (.fr d) (s.set i (some (.ow b (.lst ys)))))
    (k : ∀ v F' H' ω' x s', Stp F H ω F' H' ω' → Sta K Ξ F' H' ω' s' σ → Rt K H F' H' ω' x v → q x s' → Q v H') : r v0 vs H Q := by
  obtain ⟨v, hv', l, rfl, hl, ws, h1, h2⟩ := T.lst i hs
  rw [hv] at hv'
  cases hv'
  refine MuL.run (K := K) (r := r) (g := g) _ T.sf (T.ow l _ hl).1 h1 h2 r1 h fun v us d ys r2 r3 hq => ?_
  obtain ⟨ω2, p2, T2⟩ := T.mut (u := .lst us) hv hl (o' := .lst ys) (obj_lst upd_same r3)
  exact k v F _ ω2 (.fr d) _ p2 T2 r2 hq
theorem own_ty {i : Nat} {F H : Hp} {ω : Om} {s : Sl} {σ : L2.St} {b : Bool} {xs : List D} (T : Sta K Ξ F H ω s σ) (hs : s[i]? = some (some (.ow b (.lst xs)))) : ∃ v, σ[i]? = some (some v) ∧ tyV K "list" v H := by
  obtain ⟨v, hv', l, rfl, hl, ws, h1, h2⟩ := T.lst i hs
  exact ⟨_, hv', .inl ⟨rfl, _, SqL.of h1⟩⟩
instance {r : V → List V → Hp → VK → Prop} {g : List D → List D → (D → List D → Prop) → Prop} {i : Nat} {t : TA} {pa : PA1} [MuL K r g] [LiftA K Ξ t pa] : LiftE K Ξ (tBM K "list" r (tVar i) t) (pMu i g pa) := ⟨fun {F H ω s σ Q} q T h k => by
  unfold pMu at h
  split at h
  · rename_i e
    obtain ⟨v0, hv0, ty⟩ := own_ty T e
    refine ⟨v0, hv0, ty, LiftA.run (K := K) (t := t) (p := pa) _ T h fun vs F1 H1 ω1 ds s1 p1 T1 r1 h1 => ?_⟩
    split at h1
    · rename_i b xs e1
      exact mu_run (r := r) (g := g) T1 hv0 e1 r1 h1 fun v F2 H2 ω2 x s2 p2 T2 r2 hq => k v F2 H2 ω2 x s2 (p1.trans p2) T2 (r2.early p1.tr) hq
    · exact h1.elim
  · exact h.elim⟩
def pMu0 (i : Nat) (g : List D → List D → (D → List D → Prop) → Prop) : PX := fun s q => match s[i]? with
  | some (some (.ow b (.lst xs))) => g xs [] fun d ys => q (.fr d) (s.set i (some (.ow b (.lst ys))))
  | _ => False
instance {r : V → List V → Hp → VK → Prop} {g : List D → List D → (D → List D → Prop) → Prop} {i : Nat} [MuL K r g] : LiftE K Ξ (tBM0 K "list" r (tVar i)) (pMu0 i g) := ⟨fun {F H ω s σ Q} q T h k => by
  unfold pMu0 at h
  split at h
  · rename_i b xs e
    obtain ⟨v0, hv0, ty⟩ := own_ty T e
    exact ⟨v0, hv0, ty, mu_run (r := r) (g := g) (vs := []) (ds := []) T hv0 e rfl h k⟩
  · exact h.elim⟩
instance : MuL K rAppend (fun xs ds q => match ds with
    | [d] => xs.length < 1000000 ∧ q .non (xs ++ [d])
    | _ => False) := ⟨fun {F H l xs ws vs ds Q} q hs hF hl hx hd h k => by
  split at h
  · obtain ⟨v, rfl, r⟩ := hd.one
    exact ⟨l, ws, v, rfl, rfl, hl, by rw [← hx.len]; exact Nat.lt_trans h.1 (by decide), k _ _ .non _ rfl (hx.snoc r) h.2⟩
  · exact h.elim⟩
instance : MuL K rExtend (fun xs ds q => match ds with
    | [.lst ys] => xs.length + ys.length ≤ 1000000 ∧ q .non (xs ++ ys)
    | _ => False) := ⟨fun {F H l xs ws vs ds Q} q hs hF hl hx hd h k => by
  split at h
  · obtain ⟨v, rfl, a, us, rfl, h1, h2⟩ := hd.one
    exact ⟨l, a, ws, us, rfl, rfl, hl, hs _ _ h1, by rw [← hx.len, ← h2.len]; exact Nat.le_trans h.1 (by decide), k _ _ .non _ rfl (hx.app h2) h.2⟩
  · exact h.elim⟩
instance : MuL K rPop (fun xs ds q => match ds with
    | [] => match xs[xs.length - 1]? with
      | some d => q d xs.dropLast
      | none => False
    | _ => False) := ⟨fun {F H l xs ws vs ds Q} q hs hF hl hx hd h k => by
  split at h
  · split at h
    · rename_i d e
      cases (show vs = [] from hd)
      obtain ⟨v, hv, r⟩ := hx.get e
      rw [hx.len] at hv
      exact ⟨l, ws, v, rfl, rfl, hl, hv, k v _ d _ r hx.dropLast h⟩
    · exact h.elim
  · exact h.elim⟩
instance : MuL K rPopAt (fun xs ds q => match ds with
    | [.int i] => (0 ≤ i ∧ i < 2 ^ 63 ∧ i.toNat < xs.length) ∧ match xs[i.toNat]? with
      | some d => q d (xs.eraseIdx i.toNat)
      | none => False
    | _ => False) := ⟨fun {F H l xs ws vs ds Q} q hs hF hl hx hd h k => by
  split at h
  · rename_i i
    obtain ⟨⟨h1, h2, h3⟩, h⟩ := h
    split at h
    · rename_i d e
      obtain ⟨v, rfl, r⟩ := hd.one
      cases (show v = _ from r)
      obtain ⟨v, hv, r⟩ := hx.get e
      refine ⟨l, ws, i, i.toNat, v, rfl, rfl, hl, by omega, h2, ?_, hv, k v _ d _ r (hx.erase _) h⟩
      rw [← hx.len]
      unfold seqIndex?
      simp
      omega
    · exact h.elim
  · exact h.elim⟩
instance : MuL K rReverse (fun xs ds q => match ds with
    | [] => q .non xs.reverse
    | _ => False) := ⟨fun {F H l xs ws vs ds Q} q hs hF hl hx hd h k => by
  split at h
  · cases (show vs = [] from hd)
    exact ⟨l, ws, rfl, rfl, hl, k _ _ .non _ rfl hx.rev h⟩
  · exact h.elim⟩
/-- xs[i] = e -/
def psSub (i : Nat) (pv : PD) (pi : PD) : PS1 := fun E s => pv s fun d s1 => match s1[i]? with
  | some (some (.ow _ (.lst _))) => pi s1 fun e s2 => match e, s2[i]? with
    | .int k, some (some (.ow b (.lst xs))) => match ixN xs.length k with
      | some j => E.nx (s2.set i (some (.ow b (.lst (xs.set j d)))))
      | none => False
    | _, _ => False
  | _ => False
instance (priority := high) {i : Nat} {te ti : TE} {pv pi : PD} [LiftD K Ξ te pv] [LiftD K Ξ ti pi] : LiftS K Ξ (tAsg te (gSub (tVar i) ti rSetL)) (psSub i pv pi) := ⟨fun E T h M => by
  refine LiftD.run (K := K) (t := te) (p := pv) _ T h fun v F1 H1 ω1 d s1 p1 T1 r1 h1 => ?_
  split at h1
  · rename_i e0
    obtain ⟨v0, hv0, _⟩ := own_ty T1 e0
    refine ⟨v0, hv0, LiftD.run (K := K) (t := ti) (p := pi) _ T1 h1 fun w F2 H2 ω2 e s2 p2 T2 r2 h2 => ?_⟩
    split at h2
    · rename_i k b xs e1
      split at h2
      · rename_i j ej
        obtain ⟨v, hv', l, rfl, hl, ws, q1, q2⟩ := T2.lst i e1
        rw [hv0] at hv'
        cases hv'
        cases (show w = _ from r2)
        refine ⟨l, ws, k, j, rfl, rfl, q1, by rw [← q2.len]; exact ej, ?_⟩
        obtain ⟨ω3, p3, T3⟩ := T2.mut (u := .lst (ws.set j v)) hv0 hl (o' := .lst (xs.set j d)) (obj_lst upd_same (q2.set j (r1.mono p2.sf)))
        exact M.nx ((p1.trans p2).trans p3) T3 h2
      · exact h2.elim
    · exact h2.elim
  · exact h1.elim⟩
/-! reading from a name's own list without giving it away -/
def pIxV (i : Nat) (pi : PD) : PX := fun s q => match s[i]? with
  | some (some (.ow _ (.lst _))) => pi s fun e s1 => match e, s1[i]? with
    | .int k, some (some (.ow _ (.lst xs))) => match atI xs k with
      | some d => q (.fr d) s1
      | none => False
    | _, _ => False
  | _ => pOp gIxL (pDat (pVar i)) pi s q
instance (priority := high) {i : Nat} {ti : TE} {pi : PD} [LiftD K Ξ ti pi] : LiftE K Ξ (tOp (rIxL K) (tVar i) ti) (pIxV i pi) := ⟨fun {F H ω s σ Q} q T h k => by
  unfold pIxV at h
  split at h
  · rename_i e0
    obtain ⟨v0, hv0, _⟩ := own_ty T e0
    refine ⟨v0, hv0, LiftD.run (K := K) (t := ti) (p := pi) _ T h fun w F2 H2 ω2 e s2 p2 T2 r2 h2 => ?_⟩
    split at h2
    · rename_i kk b xs e1
      split at h2
      · rename_i d ed
        obtain ⟨v, hv', l, rfl, hl, ws, q1, q2⟩ := T2.lst i e1
        rw [hv0] at hv'
        cases hv'
        cases (show w = _ from r2)
        obtain ⟨v, hv, r⟩ := q2.atI ed
        exact ⟨l, ws, kk, v, rfl, rfl, SqL.of q1, hv, k v F2 H2 ω2 (.fr d) s2 p2 T2 r h2⟩
      · exact h2.elim
    · exact h2.elim
  · exact LiftE.run (K := K) (t := tOp (rIxL K) (tVar i) ti) (p := pOp gIxL (pDat (pVar i)) pi) q T h k⟩
def pLenV (i : Nat) : PX := fun s q => match s[i]? with
  | some (some (.ow _ (.lst xs))) => q (.fr (.int xs.length)) s
  | _ => pCB gLen (pCons (pDat (pVar i)) (fun s q => q [] s)) s q
instance (priority := high) {i : Nat} : LiftE K Ξ (tCB (rLenQ K) (tCons (tVar i) tNil)) (pLenV i) := ⟨fun {F H ω s σ Q} q T h k => by
  unfold pLenV at h
  split at h
  · rename_i b xs e
    obtain ⟨v, hv', l, rfl, hl, ws, q1, q2⟩ := T.lst i e
    refine ⟨_, hv', l, ws, rfl, .inl (SqL.of q1), ?_⟩
    rw [← q2.len]
    exact k _ F H ω (.fr (.int _)) s (Stp.refl T.tb) T rfl h
  · exact LiftE.run (K := K) (t := tCB (rLenQ K) (tCons (tVar i) tNil)) (p := pCB gLen (pCons (pDat (pVar i)) (fun s q => q [] s))) q T h k⟩
instance (priority := high) {i : Nat} : LiftE K Ξ (tCB (fun xs H Q => ∃ p ys, xs = [.ref p] ∧ (SqL K H p ys ∨ SqT K H p ys) ∧ Q (.int ys.length) H) (tCons (tVar i) tNil)) (pLenV i) :=
  ⟨fun {F H ω s σ Q} q T h k => LiftE.run (K := K) (t := tCB (rLenQ K) (tCons (tVar i) tNil)) (p := pLenV i) q T h k⟩
/-- a copy of it -/
def pCopyV (i : Nat) : PX := fun s q => match s[i]? with
  | some (some (.ow _ (.lst xs))) => q (.ow false (.lst xs)) s
  | _ => pCB gListOf (pCons (pDat (pVar i)) (fun s q => q [] s)) s q
instance (priority := high) {i : Nat} : LiftE K Ξ (tCB (fun xs H Q => ∃ p ys, xs = [.ref p] ∧ (SqL K H p ys ∨ SqT K H p ys) ∧ ∀ l, H l = none → Q (.ref l) (upd H l (.lst ys))) (tCons (tVar i) tNil)) (pCopyV i) := ⟨fun {F H ω s σ Q} q T h k => by
  unfold pCopyV at h
  split at h
  · rename_i b xs e
    obtain ⟨v, hv', l, rfl, hl, ws, q1, q2⟩ := T.lst i e
    refine ⟨_, hv', l, ws, rfl, .inl (SqL.of q1), fun p hp => ?_⟩
    refine Ext.lst (q := fun z => q z s) T.sf q2 h (fun v F' H' z e r hq => ?_) hp
    obtain ⟨p2, T2⟩ := e.stp T
    exact k v F' H' ω z s p2 T2 (Rn.rt (Stp.refl T.tb) T r) hq
  · exact LiftE.run (K := K) (t := tCB _ (tCons (tVar i) tNil)) (p := pCB gListOf (pCons (pDat (pVar i)) (fun s q => q [] s))) q T h k⟩
/-- the sum of a name's own list -/
def pSumV (i : Nat) : PX := fun s q => match s[i]? with
  | some (some (.ow _ (.lst xs))) => ∃ ns : List Int, xs = ns.map D.int ∧ q (.fr (.int ns.sum)) s
  | _ => pCB gSum (pCons (pDat (pVar i)) (fun s q => q [] s)) s q
instance (priority := high) {i : Nat} : LiftE K Ξ (tCB (rSum K) (tCons (tVar i) tNil)) (pSumV i) := ⟨fun {F H ω s σ Q} q T h k => by
  unfold pSumV at h
  split at h
  · rename_i b xs e
    obtain ⟨ns, rfl, h⟩ := h
    obtain ⟨v, hv', l, rfl, hl, ws, q1, q2⟩ := T.lst i e
    cases RpA.intsV q2
    exact ⟨_, hv', l, ns, rfl, SqL.of q1, k _ F H ω (.fr (.int _)) s (Stp.refl T.tb) T rfl h⟩
  · exact LiftE.run (K := K) (t := tCB (rSum K) (tCons (tVar i) tNil)) (p := pCB gSum (pCons (pDat (pVar i)) (fun s q => q [] s))) q T h k⟩
end
/-! ### defs: promises by data -/
/-- what a def promises: its arguments by data (an own object may be lent), its answer, the lent objects behind it -/
structure Psp where
  n : Nat
  run : List S → (S → List O → Prop) → Prop
/-- .. of a def that may raise: what it lets out, the lent objects behind it -/
structure PspX where
  n : Nat
  run : List S → (S → List O → Prop) → (Xc → List O → Prop) → Prop
def Psp.X (ps : Psp) : PspX := ⟨ps.n, fun xs q _ => ps.run xs q⟩
/-- the lent objects at the end -/
def bors : List S → Sl → Option (List O)
  | [], _ => some []
  | .fr _ :: xs, _ :: s => bors xs s
  | .ow _ _ :: xs, some (.ow true o) :: s => (bors xs s).map (o :: ·)
  | _, _ => none
def lent : List S → Prop
  | [] => True
  | .fr _ :: xs => lent xs
  | .hid _ :: _ => False
  | .ow b _ :: xs => b = true ∧ lent xs
/-- what is known of the lent objects' addresses at the end -/
def BosR (K : PySem.W.Frag) (F H : Hp) (ω : Om) : Nat → List S → List V → List O → Prop
  | _, [], _, os => os = []
  | n, .fr _ :: xs, vs, os => ∃ v ws, vs = v :: ws ∧ BosR K F H ω (n + 1) xs ws os
  | n, .hid _ :: xs, vs, os => ∃ v ws, vs = v :: ws ∧ BosR K F H ω (n + 1) xs ws os
  | n, .ow _ _ :: xs, vs, os => ∃ v ws o os', vs = v :: ws ∧ os = o :: os' ∧ OwnAt K F H ω n (.ow true o) v ∧ BosR K F H ω (n + 1) xs ws os'
/-- the state of heap and owners in which a def ends -/
structure Dn (F H : Hp) (ω : Om) (F' H' : Hp) (ω' : Om) : Prop where
  st : Stp F H ω F' H' ω'
  sf : Same F' H'
  ow : ∀ b p, ω' b = some p → F' b = none ∧ ∃ u, H' b = some u
def LspX (K : PySem.W.Frag) (ps : PspX) : Sp := fun vs H Q E => ∃ (F : Hp) (ω : Om) (xs : List S) (q : S → List O → Prop) (e : Xc → List O → Prop), Sta0 K F H ω (xs.map some) (vs.map some) ∧ lent xs ∧
  (∀ a b j, ω a = some (j, .r) → ω b = some (j, .r) → a = b) ∧ (∀ b j c, ω b = some (j, c) → c ≠ .o) ∧ xs.length = ps.n ∧ ps.run xs q e ∧
  (∀ v F' H' ω' x os, Dn F H ω F' H' ω' → BosR K F' H' ω' 0 xs vs os → Rt K H F' H' ω' x v → q x os → Q v H') ∧
  ∀ x d F' H' ω' os, Dn F H ω F' H' ω' → BosR K F' H' ω' 0 xs vs os → XdR K F' x d → e x os → E (.ref x.C) d H'
abbrev Lsp (K : PySem.W.Frag) (ps : Psp) : Sp := LspX K ps.X
section
variable {K : PySem.W.Frag} {Ξ : XI}
/-! a call -/
inductive Ar where
  | v (d : D) | b (i : Nat) | w (i : Nat)
def Ar.isB (i : Nat) : Ar → Bool
  | .b j => i == j
  | _ => false
def Ar.isW : Ar → Bool
  | .w _ => true
  | _ => false
def Ar.isL : Ar → Bool
  | .b _ => true
  | _ => false
def ArR (K : PySem.W.Frag) (F : Hp) (σ : L2.St) : List Ar → List V → Prop
  | [], vs => vs = []
  | .v d :: as, vs => ∃ v ws, vs = v :: ws ∧ Rp K F d v ∧ ArR K F σ as ws
  | .b i :: as, vs => ∃ v ws, vs = v :: ws ∧ σ[i]? = some (some v) ∧ ArR K F σ as ws
  | .w i :: as, vs => ∃ v ws, vs = v :: ws ∧ σ[i]? = some (some v) ∧ ArR K F σ as ws
theorem ArR.mono {F F' : Hp} {σ : L2.St} (e : Same F F') : ∀ {as : List Ar} {vs : List V}, ArR K F σ as vs → ArR K F' σ as vs
  | [], _, h => h
  | .v _ :: _, _, h => let ⟨v, ws, e1, h1, h2⟩ := h; ⟨v, ws, e1, h1.mono e, ArR.mono e h2⟩
  | .b _ :: _, _, h => let ⟨v, ws, e1, h1, h2⟩ := h; ⟨v, ws, e1, h1, ArR.mono e h2⟩
  | .w _ :: _, _, h => let ⟨v, ws, e1, h1, h2⟩ := h; ⟨v, ws, e1, h1, ArR.mono e h2⟩
abbrev PR1 := Sl → (List Ar → Sl → Prop) → Prop
class LiftR (K : PySem.W.Frag) (Ξ : XI) (t : TA) (p : outParam PR1) : Prop where
  run : ∀ {F H : Hp} {ω : Om} {s : Sl} {σ : L2.St} {Q : List V → Hp → Prop} (q : List Ar → Sl → Prop), Sta K Ξ F H ω s σ → p s q →
    (∀ vs F' H' ω' as s', Stp F H ω F' H' ω' → Sta K Ξ F' H' ω' s' σ → ArR K F' σ as vs → q as s' → Q vs H') → t σ H Q
def prNil : PR1 := fun s q => q [] s
instance : LiftR K Ξ tNil prNil := ⟨fun {F H ω s σ Q} q T h k => k [] F H ω [] s (Stp.refl T.tb) T rfl h⟩
def prCons (p : PD) (r : PR1) : PR1 := fun s q => p s fun d s1 => r s1 fun as s2 => q (.v d :: as) s2
instance {t : TE} {r : TA} {p : PD} {pr : PR1} [LiftD K Ξ t p] [LiftR K Ξ r pr] : LiftR K Ξ (tCons t r) (prCons p pr) := ⟨fun kk T h k => by
  refine LiftD.run (K := K) (t := t) (p := p) _ T h fun x F1 H1 ω1 d s1 p1 T1 r1 h1 => ?_
  refine LiftR.run (K := K) (t := r) (p := pr) _ T1 h1 fun vs F2 H2 ω2 as s2 p2 T2 r2 h2 => ?_
  exact k _ F2 H2 ω2 (.v d :: as) s2 (p1.trans p2) T2 ⟨x, vs, rfl, r1.mono p2.sf, r2⟩ h2⟩
/-- a name: data, or its object lent (inl), or given away as data (inr inl), or shown as data (inr inr) -/
def prVar (i : Nat) (r : PR1) : PR1 := fun s q => match s[i]? with
  | some (some (.ow false _)) => (r s fun as s2 => q (.b i :: as) s2) ∨ prCons (pDat (pVar i)) r s q ∨ (r s fun as s2 => q (.w i :: as) s2)
  | some (some (.ow true _)) => r s fun as s2 => q (.b i :: as) s2
  | _ => prCons (pDat (pVar i)) r s q
theorem prVar_b {i : Nat} {r : TA} {pr : PR1} [LiftR K Ξ r pr] {F H : Hp} {ω : Om} {s : Sl} {σ : L2.St} {Q : List V → Hp → Prop} {b : Bool} {o : O} (q : List Ar → Sl → Prop) (T : Sta K Ξ F H ω s σ) (e : s[i]? = some (some (.ow b o)))
    (h : pr s fun as s2 => q (.b i :: as) s2) (k : ∀ vs F' H' ω' as s', Stp F H ω F' H' ω' → Sta K Ξ F' H' ω' s' σ → ArR K F' σ as vs → q as s' → Q vs H') : tCons (tVar i) r σ H Q := by
  obtain ⟨v, hv, _⟩ := T.at' i _ e
  refine ⟨v, hv, LiftR.run (K := K) (t := r) (p := pr) _ T h fun vs F2 H2 ω2 as s2 p2 T2 r2 h2 => ?_⟩
  exact k _ F2 H2 ω2 (.b i :: as) s2 p2 T2 ⟨v, vs, rfl, hv, r2⟩ h2
instance (priority := high) {i : Nat} {r : TA} {pr : PR1} [LiftR K Ξ r pr] : LiftR K Ξ (tCons (tVar i) r) (prVar i pr) := ⟨fun {F H ω s σ Q} q T h k => by
  unfold prVar at h
  split at h
  · rename_i e
    rcases h with h | h | h
    · exact prVar_b q T e h k
    · exact LiftR.run (K := K) (t := tCons (tVar i) r) (p := prCons (pDat (pVar i)) pr) q T h k
    · obtain ⟨v, hv, _⟩ := T.at' i _ e
      refine ⟨v, hv, LiftR.run (K := K) (t := r) (p := pr) _ T h fun vs F2 H2 ω2 as s2 p2 T2 r2 h2 => ?_⟩
      exact k _ F2 H2 ω2 (.w i :: as) s2 p2 T2 ⟨v, vs, rfl, hv, r2⟩ h2
  · rename_i e
    exact prVar_b q T e h k
  · exact LiftR.run (K := K) (t := tCons (tVar i) r) (p := prCons (pDat (pVar i)) pr) q T h k⟩
def getA : List Ar → Sl → Option (List S)
  | [], _ => some []
  | .v d :: as, s => (getA as s).map (.fr d :: ·)
  | .b i :: as, s => match s[i]? with
    | some (some (.ow _ o)) => if as.any (Ar.isB i) then none else (getA as s).map (.ow true o :: ·)
    | _ => none
  | .w i :: as, s => match s[i]? with
    | some (some (.ow _ (.lst ds))) => (getA as s).map (.fr (.lst ds) :: ·)
    | _ => none
def setO (i : Nat) (o : O) (s : Sl) : Sl := match s[i]? with
  | some (some (.ow b _)) => s.set i (some (.ow b o))
  | _ => s
def putA : List Ar → List O → Sl → Sl
  | [], _, s => s
  | .v _ :: as, os, s => putA as os s
  | .w _ :: as, os, s => putA as os s
  | .b i :: as, o :: os, s => setO i o (putA as os s)
  | .b _ :: _, [], s => s

mutual
def D.lf : D → Bool
  | .lst _ => false
  | .dic _ _ _ => false
  | .dik _ _ => false
  | .obj _ _ _ => false
  | .scr _ => false
  | .xv _ _ _ _ _ => false
  | .tup ds => D.lfs ds
  | _ => true
def D.lfs : List D → Bool
  | [] => true
  | d :: ds => d.lf && D.lfs ds
end
def lfS : S → Bool
  | .fr d => d.lf
  | .ow _ (.lst ds) => D.lfs ds
  | .ow _ _ => false
  | .hid _ => true
inductive ArOk (K : PySem.W.Frag) (F H : Hp) (ω : Om) (s : Sl) (σ : L2.St) : List Ar → List V → List S → Prop
  | nil : ArOk K F H ω s σ [] [] []
  | v {d : D} {x : V} {as : List Ar} {vs : List V} {xs : List S} : Rp K F d x → ArOk K F H ω s σ as vs xs → ArOk K F H ω s σ (.v d :: as) (x :: vs) (.fr d :: xs)
  | b {i : Nat} {b : Bool} {o : O} {l : Addr} {A : List Addr} {as : List Ar} {vs : List V} {xs : List S} : s[i]? = some (some (.ow b o)) → σ[i]? = some (some (.ref l)) → ω l = some (i, tgR b) → (∀ a ∈ A, a ≠ l → ω a = some (i, tgP b)) → ObjR K F H o l A → as.any (Ar.isB i) = false →
    ArOk K F H ω s σ as vs xs → ArOk K F H ω s σ (.b i :: as) (.ref l :: vs) (.ow true o :: xs)
theorem arOk {F H : Hp} {ω : Om} {s : Sl} {σ : L2.St} (T : Sta0 K F H ω s σ) : ∀ {as : List Ar} {vs : List V} {xs : List S}, as.any Ar.isW = false → ArR K F σ as vs → getA as s = some xs → ArOk K F H ω s σ as vs xs
  | .w i :: as, _, _, hW, _, _ => by simp [Ar.isW] at hW
  | [], _, _, _, h, e => by
    cases (show _ = [] from h)
    cases e
    exact .nil
  | .v d :: as, _, xs, hW, h, e => by
    have hW : as.any Ar.isW = false := by simpa [Ar.isW] using hW
    obtain ⟨v, ws, rfl, r1, r2⟩ := h
    unfold getA at e
    cases e1 : getA as s with
    | none => rw [e1] at e; cases e
    | some ys =>
      rw [e1] at e
      cases e
      exact .v r1 (arOk T hW r2 e1)
  | .b i :: as, _, xs, hW, h, e => by
    have hW : as.any Ar.isW = false := by simpa [Ar.isW] using hW
    obtain ⟨v, ws, rfl, r1, r2⟩ := h
    unfold getA at e
    split at e
    · rename_i b o e0
      split at e
      · cases e
      · rename_i hn
        cases e1 : getA as s with
        | none => rw [e1] at e; cases e
        | some ys =>
          rw [e1] at e
          cases e
          obtain ⟨v', hv', l, A, rfl, hl, hA, ho⟩ := T.at' i _ e0
          rw [r1] at hv'
          cases hv'
          exact .b e0 r1 hl hA ho (by simpa using hn) (arOk T hW r2 e1)
    · cases e
/-- whether a slot's object is lent to this def -/
def lentS (s : Sl) (i : Nat) : Bool := match s[i]? with
  | some (some (.ow b _)) => b
  | _ => false
theorem lentS_is {s : Sl} {i : Nat} {b : Bool} {o : O} (h : s[i]? = some (some (.ow b o))) : lentS s i = b := by
  unfold lentS
  rw [h]
/-- who owns what for the callee -/
def omC (ω : Om) (s : Sl) : List Ar → List V → Nat → Om
  | .b i :: as, .ref l :: vs, j => fun a => if a = l then some (j, .r) else if ω a = some (i, tgP (lentS s i)) then some (j, .p) else omC ω s as vs (j + 1) a
  | _ :: as, _ :: vs, j => omC ω s as vs (j + 1)
  | _, _, _ => fun _ => none
section
variable {F H : Hp} {ω : Om} {s : Sl} {σ : L2.St}
theorem omC_in {as : List Ar} {vs : List V} {xs : List S} (A : ArOk K F H ω s σ as vs xs) : ∀ {j k : Nat} {a : Addr} {t : Tg}, omC ω s as vs j a = some (k, t) →
    ∃ i b o, as[k - j]? = some (.b i) ∧ j ≤ k ∧ s[i]? = some (some (.ow b o)) ∧ as.any (Ar.isB i) = true ∧ ((t = .r ∧ ω a = some (i, tgR b) ∧ vs[k - j]? = some (.ref a)) ∨ (t = .p ∧ ω a = some (i, tgP b))) := by
  induction A with
  | nil => intro j k a t h; cases h
  | v r A ih =>
    intro j k a t h
    obtain ⟨i, b, o, h1, h2, h3, h4, h5⟩ := ih (j := j + 1) h
    have e : k - j = k - (j + 1) + 1 := by omega
    refine ⟨i, b, o, by rw [e]; exact h1, by omega, h3, by rw [List.any_cons, h4, Bool.or_true], h5.imp (fun ⟨z1, z2, z3⟩ => ⟨z1, z2, by rw [e]; exact z3⟩) id⟩
  | @b i b o l B as vs xs e1 e2 e3 eA e4 e5 A ih =>
    intro j k a t h
    have h' : (if a = l then some (j, Tg.r) else if ω a = some (i, tgP (lentS s i)) then some (j, .p) else omC ω s as vs (j + 1) a) = some (k, t) := h
    split at h'
    · rename_i ha
      subst ha
      cases h'
      exact ⟨i, b, o, by rw [Nat.sub_self]; rfl, Nat.le_refl _, e1, by simp [Ar.isB], .inl ⟨rfl, e3, by rw [Nat.sub_self]; rfl⟩⟩
    · split at h'
      · rename_i ha
        cases h'
        rw [lentS_is e1] at ha
        exact ⟨i, b, o, by rw [Nat.sub_self]; rfl, Nat.le_refl _, e1, by simp [Ar.isB], .inr ⟨rfl, ha⟩⟩
      · obtain ⟨i, b, o, h1, h2, h3, h4, h5⟩ := ih (j := j + 1) h'
        have e : k - j = k - (j + 1) + 1 := by omega
        exact ⟨i, b, o, by rw [e]; exact h1, by omega, h3, by rw [List.any_cons, h4, Bool.or_true], h5.imp (fun ⟨z1, z2, z3⟩ => ⟨z1, z2, by rw [e]; exact z3⟩) id⟩
theorem omC_mem {as : List Ar} {vs : List V} {xs : List S} (A : ArOk K F H ω s σ as vs xs) {j : Nat} {a : Addr} {p : Nat × Tg} (h : omC ω s as vs j a = some p) : ∃ i c, ω a = some (i, c) ∧ as.any (Ar.isB i) = true := by
  obtain ⟨k, t⟩ := p
  obtain ⟨i, b, o, _, _, _, h4, h5⟩ := omC_in A h
  rcases h5 with ⟨_, z, _⟩ | ⟨_, z⟩
  · exact ⟨i, _, z, h4⟩
  · exact ⟨i, _, z, h4⟩
theorem omC_off {as : List Ar} {vs : List V} {xs : List S} (A : ArOk K F H ω s σ as vs xs) {j : Nat} {a : Addr} {i : Nat} {c : Tg} (h : ω a = some (i, c)) (hi : as.any (Ar.isB i) = false) : omC ω s as vs j a = none := by
  cases e : omC ω s as vs j a with
  | none => rfl
  | some p =>
    obtain ⟨i', c', h1, h2⟩ := omC_mem A e
    rw [h] at h1
    cases h1
    rw [hi] at h2
    cases h2
theorem omC_none {as : List Ar} {vs : List V} {xs : List S} (A : ArOk K F H ω s σ as vs xs) {j : Nat} {a : Addr} (h : ω a = none) : omC ω s as vs j a = none := by
  cases e : omC ω s as vs j a with
  | none => rfl
  | some p =>
    obtain ⟨i', c', h1, h2⟩ := omC_mem A e
    rw [h] at h1
    cases h1
theorem omC_at {as : List Ar} {vs : List V} {xs : List S} (A : ArOk K F H ω s σ as vs xs) : ∀ {j k : Nat} {x : S}, xs[k]? = some x → ∃ v, vs[k]? = some v ∧ OwnAt K F H (omC ω s as vs j) (j + k) x v ∧ ∀ b o, x = .ow b o → ∃ i, as.any (Ar.isB i) = true ∧
    ∃ l B bb, v = .ref l ∧ s[i]? = some (some (.ow bb o)) ∧ ω l = some (i, tgR bb) ∧ (∀ a ∈ B, a ≠ l → ω a = some (i, tgP bb)) ∧ ObjR K F H o l B := by
  induction A with
  | nil => intro j k x h; simp at h
  | @v d y as vs xs r A ih =>
    intro j k x h
    cases k with
    | zero =>
      cases h
      exact ⟨y, rfl, r, fun _ _ z => by cases z⟩
    | succ k =>
      obtain ⟨v, hv, h1, h2⟩ := ih (j := j + 1) (k := k) h
      refine ⟨v, hv, ?_, fun b o z => ?_⟩
      · rw [show j + (k + 1) = j + 1 + k by omega]
        cases x with
        | fr _ => exact h1
        | hid _ => exact h1
        | ow _ _ => exact h1
      · obtain ⟨i, q1, q2⟩ := h2 b o z
        exact ⟨i, by rw [List.any_cons, q1, Bool.or_true], q2⟩
  | @b i b o l B as vs xs e1 e2 e3 eA e4 e5 A ih =>
    intro j k x h
    cases k with
    | zero =>
      cases h
      refine ⟨.ref l, rfl, ⟨l, B, rfl, if_pos rfl, fun a ha hl => ?_, e4⟩, fun c o' z => ?_⟩
      · show (if a = l then some (j, Tg.r) else if ω a = some (i, tgP (lentS s i)) then some (j, .p) else omC ω s as vs (j + 1) a) = _
        rw [if_neg hl, if_pos (by rw [lentS_is e1]; exact eA a ha hl)]
        rfl
      · cases z
        exact ⟨i, by simp [Ar.isB], l, B, b, rfl, e1, e3, eA, e4⟩
    | succ k =>
      obtain ⟨v, hv, h1, h2⟩ := ih (j := j + 1) (k := k) h
      refine ⟨v, hv, ?_, fun c o' z => ?_⟩
      · rw [show j + (k + 1) = j + 1 + k by omega]
        cases x with
        | fr _ => exact h1
        | hid _ => exact h1
        | ow c o' =>
          obtain ⟨l', B', rfl, q1, q2, q3⟩ := h1
          have keep : ∀ a p, omC ω s as vs (j + 1) a = some p → omC ω s (.b i :: as) (.ref l :: vs) j a = some p := fun a p hp => by
            obtain ⟨i', c', z1, z2⟩ := omC_mem A hp
            have hne : a ≠ l := fun z => by
              rw [z, e3] at z1
              cases z1
              rw [e5] at z2
              cases z2
            have hnp : ω a ≠ some (i, tgP (lentS s i)) := fun z => by
              rw [z] at z1
              cases z1
              rw [e5] at z2
              cases z2
            show (if a = l then some (j, Tg.r) else if ω a = some (i, tgP (lentS s i)) then some (j, .p) else omC ω s as vs (j + 1) a) = _
            rw [if_neg hne, if_neg hnp]
            exact hp
          exact ⟨l', B', rfl, keep _ _ q1, fun a ha hl => keep _ _ (q2 a ha hl), q3⟩
      · obtain ⟨i', q1, q2⟩ := h2 c o' z
        exact ⟨i', by rw [List.any_cons, q1, Bool.or_true], q2⟩
theorem arOk_len {as : List Ar} {vs : List V} {xs : List S} (A : ArOk K F H ω s σ as vs xs) : xs.length = vs.length ∧ lent xs := by
  induction A with
  | nil => exact ⟨rfl, trivial⟩
  | v _ _ ih => exact ⟨congrArg (· + 1) ih.1, ih.2⟩
  | b _ _ _ _ _ _ _ ih => exact ⟨congrArg (· + 1) ih.1, rfl, ih.2⟩
theorem arOk_lenA {as : List Ar} {vs : List V} {xs : List S} (A : ArOk K F H ω s σ as vs xs) : as.length = xs.length := by
  induction A with
  | nil => rfl
  | v _ _ ih => exact congrArg (· + 1) ih
  | b _ _ _ _ _ _ _ ih => exact congrArg (· + 1) ih
/-- the callee's state -/
theorem staC {as : List Ar} {vs : List V} {xs : List S} (T : Sta0 K F H ω s σ) (A : ArOk K F H ω s σ as vs xs) : Sta0 K F H (omC ω s as vs 0) (xs.map some) (vs.map some) := by
  refine ⟨T.tb.go (Same.refl F) (fun _ _ _ _ h => h) (fun b o _ h _ => omC_none A h) (fun _ _ _ _ _ h => h), T.sf, fun b p h => ?_, fun i x h => ?_, by rw [List.length_map, List.length_map, (arOk_len A).1], fun b j c h => ?_⟩
  · obtain ⟨i, c, h1, _⟩ := omC_mem A h
    exact T.ow b _ h1
  · rw [List.getElem?_map] at h
    cases e : xs[i]? with
    | none => rw [e] at h; cases h
    | some y =>
      rw [e] at h
      cases h
      obtain ⟨v, hv, h1, _⟩ := omC_at A (j := 0) e
      refine ⟨v, by rw [List.getElem?_map, hv]; rfl, ?_⟩
      rw [Nat.zero_add] at h1
      exact h1
  · obtain ⟨i, b1, o, z1, _⟩ := omC_in A h
    rw [Nat.sub_zero] at z1
    have := (List.getElem?_eq_some_iff.mp z1).1
    rw [List.length_map, ← arOk_lenA A]
    exact this
/-- the slots behind the call -/
theorem putA_at {F' H' : Hp} {ω' : Om} {as : List Ar} {vs : List V} {xs : List S} (A : ArOk K F H ω s σ as vs xs) : ∀ {n : Nat} {os : List O}, BosR K F' H' ω' n xs vs os →
    (putA as os s).length = s.length ∧ (∀ k, as.any (Ar.isB k) = false → (putA as os s)[k]? = s[k]?) ∧
    ∀ k x, as.any (Ar.isB k) = true → (putA as os s)[k]? = some (some x) → ∃ j v b o o0, x = .ow b o ∧ σ[k]? = some (some v) ∧ s[k]? = some (some (.ow b o0)) ∧ as[j]? = some (.b k) ∧ OwnAt K F' H' ω' (n + j) (.ow true o) v := by
  induction A with
  | nil => intro n os _; exact ⟨rfl, fun _ _ => rfl, fun _ _ h => by cases h⟩
  | v r A ih =>
    intro n os B
    obtain ⟨v, ws, e, B⟩ := B
    cases e
    obtain ⟨h0, h1, h2⟩ := ih B
    refine ⟨h0, fun k hk => h1 k (by simpa [Ar.isB] using hk), fun k x hk hx => ?_⟩
    obtain ⟨j, v, b, o, o0, q1, q2, q3, q4, q5⟩ := h2 k x (by simpa [Ar.isB] using hk) hx
    exact ⟨j + 1, v, b, o, o0, q1, q2, q3, q4, by rw [show n + (j + 1) = n + 1 + j by omega]; exact q5⟩
  | @b i b o l B0 as vs xs e1 e2 e3 eA e4 e5 A ih =>
    intro n os B
    obtain ⟨v', ws, o', os', e, rfl, ho, B⟩ := B
    cases e
    obtain ⟨h0, h1, h2⟩ := ih B
    have hi : (putA as os' s)[i]? = some (some (.ow b o)) := by rw [h1 i e5]; exact e1
    have hp : putA (.b i :: as) (o' :: os') s = (putA as os' s).set i (some (.ow b o')) := by
      show setO i o' (putA as os' s) = _
      unfold setO
      rw [hi]
    rw [hp]
    refine ⟨by rw [List.length_set]; exact h0, fun k hk => ?_, fun k x hk hx => ?_⟩
    · have hk' : (k == i) = false ∧ as.any (Ar.isB k) = false := by
        rw [List.any_cons, Bool.or_eq_false_iff] at hk
        exact hk
      have hne : i ≠ k := fun z => by rw [z] at hk'; simp at hk'
      rw [List.getElem?_set_ne hne]
      exact h1 k hk'.2
    · by_cases hik : i = k
      · subst hik
        rw [List.getElem?_set] at hx
        rw [if_pos rfl] at hx
        split at hx
        · cases hx
          exact ⟨0, _, b, o', o, rfl, e2, e1, rfl, ho⟩
        · cases hx
      · rw [List.getElem?_set_ne hik] at hx
        have hk' : as.any (Ar.isB k) = true := by
          rw [List.any_cons, Bool.or_eq_true] at hk
          rcases hk with hk | hk
          · exact absurd (beq_iff_eq.mp hk).symm hik
          · exact hk
        obtain ⟨j, v, b, o, o0, q1, q2, q3, q4, q5⟩ := h2 k x hk' hx
        exact ⟨j + 1, v, b, o, o0, q1, q2, q3, q4, by rw [show n + (j + 1) = n + 1 + j by omega]; exact q5⟩
end
theorem arOk_ix {F H : Hp} {ω : Om} {s : Sl} {σ : L2.St} {as : List Ar} {vs : List V} {xs : List S} (A : ArOk K F H ω s σ as vs xs) : ∀ i, Ar.b i ∈ as → i < s.length := by
  induction A with
  | nil => intro i h; simp at h
  | v _ _ ih => intro i h; exact ih i (by simpa using h)
  | b e1 _ _ _ _ _ _ ih =>
    intro i h
    rcases List.mem_cons.mp h with z | z
    · cases z
      exact (List.getElem?_eq_some_iff.mp e1).1
    · exact ih i z
/-- what a lent address is to the caller -/
def backT (as : List Ar) (s : Sl) (j : Nat) (t : Tg) : Option (Nat × Tg) := match t, as[j]? with
  | .o, _ => none
  | .r, some (.b i) => some (i, tgR (lentS s i))
  | .p, some (.b i) => some (i, tgP (lentS s i))
  | _, _ => none
/-- who owns what behind the call -/
def omB (ω ωc ω' : Om) (as : List Ar) (s : Sl) : Om := fun a => match ω' a with
  | some (j, t) => backT as s j t
  | none => match ωc a with
    | none => ω a
    | some _ => none
theorem omB_keep {ω ωc ω' : Om} {as : List Ar} {s : Sl} {a : Addr} (h1 : ω' a = none) (h2 : ωc a = none) : omB ω ωc ω' as s a = ω a := by
  unfold omB
  rw [h1, h2]
theorem omB_gone {ω ωc ω' : Om} {as : List Ar} {s : Sl} {a : Addr} {p : Nat × Tg} (h1 : ω' a = none) (h2 : ωc a = some p) : omB ω ωc ω' as s a = none := by
  unfold omB
  rw [h1, h2]
theorem omB_some {ω ωc ω' : Om} {as : List Ar} {s : Sl} {a : Addr} {j : Nat} {t : Tg} (h1 : ω' a = some (j, t)) : omB ω ωc ω' as s a = backT as s j t := by
  unfold omB
  rw [h1]
theorem backT_some {as : List Ar} {s : Sl} {j : Nat} {t : Tg} {q : Nat × Tg} (h : backT as s j t = some q) : ∃ i, as[j]? = some (.b i) ∧ ((t = .r ∧ q = (i, tgR (lentS s i))) ∨ (t = .p ∧ q = (i, tgP (lentS s i)))) := by
  unfold backT at h
  split at h
  · cases h
  · rename_i i e
    exact ⟨i, e, .inl ⟨rfl, (Option.some.inj h).symm⟩⟩
  · rename_i i e
    exact ⟨i, e, .inr ⟨rfl, (Option.some.inj h).symm⟩⟩
  · cases h
theorem tgP_p {b : Bool} (h : tgP b = .p) : b = true := by cases b <;> first | rfl | cases h
theorem tgR_r {b : Bool} (h : tgR b = .r) : b = true := by cases b <;> first | rfl | cases h
theorem tgP_r {b : Bool} (h : tgP b = .r) : False := by cases b <;> cases h
theorem tgR_p {b : Bool} (h : tgR b = .p) : False := by cases b <;> cases h
/-- what is a slot's was its own before, or is new -/
def Inh (ω : Om) (H : Hp) (ω' : Om) : Prop := ∀ a k c, ω' a = some (k, c) → (∃ c', ω a = some (k, c')) ∨ H a = none
/-- behind a call -/
theorem call_back {F H F' H' : Hp} {ω ω' : Om} {s : Sl} {σ : L2.St} {as : List Ar} {vs : List V} {xs : List S} {os : List O} (T : Sta0 K F H ω s σ) (A : ArOk K F H ω s σ as vs xs) (dn : Dn F H (omC ω s as vs 0) F' H' ω') (B : BosR K F' H' ω' 0 xs vs os) :
    Stp F H ω F' H' (omB ω (omC ω s as vs 0) ω' as s) ∧ Sta0 K F' H' (omB ω (omC ω s as vs 0) ω' as s) (putA as os s) σ ∧ (∀ a, H a = none → ω' a = none → omB ω (omC ω s as vs 0) ω' as s a = none) ∧ Inh ω H (omB ω (omC ω s as vs 0) ω' as s) := by
  have p' := dn.st
  obtain ⟨h0, h1, h2⟩ := putA_at A B
  have hfree : ∀ a, H a = none → ω a = none := fun a => Sta.free T
  have hix : ∀ b k c, omB ω (omC ω s as vs 0) ω' as s b = some (k, c) → k < s.length := fun b k c q => by
    cases e : ω' b with
    | none =>
      cases ec : omC ω s as vs 0 b with
      | none => rw [omB_keep e ec] at q; exact T.ix b k c q
      | some w => rw [omB_gone e ec] at q; cases q
    | some w =>
      obtain ⟨j, t⟩ := w
      rw [omB_some e] at q
      obtain ⟨i', e1, e2⟩ := backT_some q
      have hi : i' < s.length := arOk_ix A i' (List.mem_of_getElem? e1)
      rcases e2 with ⟨rfl, e2⟩ | ⟨rfl, e2⟩
      · cases e2; exact hi
      · cases e2; exact hi
  have hF' : ∀ b p, ω b = some p → omC ω s as vs 0 b = none → F' b = none ∧ H' b = H b := fun b p hb hc => by
    obtain ⟨q1, u, q2⟩ := T.ow b p hb
    exact ⟨p'.fn b u hc q2 q1, by rw [q2]; exact p'.fr b u (T.tb.own hb) hc q2⟩
  have htb : AllT F' H' (omB ω (omC ω s as vs 0) ω' as s) := p'.tb.go (Same.refl F') (fun _ _ _ _ h => h) (fun b o ht h1 _ => by
    obtain ⟨q, hq⟩ := ht
    have h2 := (T.tb _ hq).2.1
    rw [omB_keep h1 (omC_none A h2)]
    exact h2) fun _ _ _ _ _ h => h
  refine ⟨⟨T.tb, htb, fun b o q1 q2 => p'.th b o (omC_none A q1) q2, p'.sf, fun b o ht q1 q2 => p'.fr b o ht (omC_none A q1) q2, fun b o q1 q2 => ?_, fun b o q1 q2 q3 => p'.fn b o (omC_none A q1) q2 q3, p'.tr, fun b i => ⟨fun q => ?_, fun q => ?_⟩, fun b i o q0 q => ?_, fun b i q => ?_⟩,
    ⟨htb, dn.sf, fun b q hb => ?_, fun k y hy => ?_, by rw [h0]; exact T.len, fun b k c q => by rw [h0]; exact hix b k c q⟩, fun a q1 q2 => ?_, fun b k c q => ?_⟩
  · have hc := omC_none A (j := 0) q1
    rw [omB_keep (p'.om b o hc q2) hc]
    exact q1
  · cases e : ω' b with
    | none =>
      cases ec : omC ω s as vs 0 b with
      | none => rw [omB_keep e ec] at q; exact q
      | some w => rw [omB_gone e ec] at q; cases q
    | some w =>
      obtain ⟨j, t⟩ := w
      rw [omB_some e] at q
      obtain ⟨i', e1, e2⟩ := backT_some q
      rcases e2 with ⟨rfl, e2⟩ | ⟨rfl, e2⟩
      · have hc := (p'.bk b j).mp e
        obtain ⟨i2, b2, o2, z1, _, z3, _, z5⟩ := omC_in A hc
        rw [Nat.sub_zero, e1] at z1
        cases z1
        rcases z5 with ⟨_, z5, _⟩ | ⟨z5, _⟩
        · rw [lentS_is z3] at e2
          rw [z5]
          exact congrArg some e2.symm
        · cases z5
      · injection e2 with _ e2
        exact (tgP_r e2.symm).elim
  · cases ec : omC ω s as vs 0 b with
    | none =>
      cases hb : H b with
      | none => rw [hfree b hb] at q; cases q
      | some o => rw [omB_keep (p'.om b o ec hb) ec]; exact q
    | some w =>
      obtain ⟨j, t⟩ := w
      obtain ⟨i2, b2, o2, z1, _, z3, _, z5⟩ := omC_in A ec
      rw [Nat.sub_zero] at z1
      rcases z5 with ⟨rfl, z5, _⟩ | ⟨rfl, z5⟩
      · have e' := (p'.bk b j).mpr ec
        rw [omB_some e']
        unfold backT
        rw [z1]
        show some (i2, tgR (lentS s i2)) = _
        rw [lentS_is z3, ← z5]
        exact q
      · rw [q] at z5
        injection z5 with z5
        injection z5 with _ z5
        exact (tgP_r z5.symm).elim
  · cases ec : omC ω s as vs 0 b with
    | none => rw [omB_keep (p'.om b o ec q0) ec]; exact .inl q
    | some w =>
      obtain ⟨j, t⟩ := w
      obtain ⟨i2, b2, o2, z1, _, z3, _, z5⟩ := omC_in A ec
      rw [Nat.sub_zero] at z1
      rcases z5 with ⟨rfl, z5, _⟩ | ⟨rfl, z5⟩
      · rw [q] at z5
        injection z5 with z5
        injection z5 with _ z5
        exact (tgR_p z5.symm).elim
      · rcases p'.bp b j o q0 ec with e' | e'
        · left
          rw [omB_some e']
          unfold backT
          rw [z1]
          show some (i2, tgP (lentS s i2)) = _
          rw [lentS_is z3, ← z5]
          exact q
        · exact .inr (omB_gone e' ec)
  · cases e : ω' b with
    | none =>
      cases ec : omC ω s as vs 0 b with
      | none => rw [omB_keep e ec] at q; exact .inl q
      | some w => rw [omB_gone e ec] at q; cases q
    | some w =>
      obtain ⟨j, t⟩ := w
      rw [omB_some e] at q
      obtain ⟨i', e1, e2⟩ := backT_some q
      rcases e2 with ⟨rfl, e2⟩ | ⟨rfl, e2⟩
      · injection e2 with _ e2
        exact (tgR_p e2.symm).elim
      · rcases p'.kb b j e with hc | hc
        · obtain ⟨i2, b2, o2, z1, _, z3, _, z5⟩ := omC_in A hc
          rw [Nat.sub_zero, e1] at z1
          cases z1
          rcases z5 with ⟨z5, _⟩ | ⟨_, z5⟩
          · cases z5
          · rw [lentS_is z3] at e2
            rw [z5]
            exact .inl (congrArg some e2.symm)
        · exact .inr hc
  · cases e : ω' b with
    | none =>
      cases ec : omC ω s as vs 0 b with
      | none =>
        rw [omB_keep e ec] at hb
        obtain ⟨z1, z2⟩ := hF' b q hb ec
        obtain ⟨_, u, z3⟩ := T.ow b q hb
        exact ⟨z1, u, by rw [z2]; exact z3⟩
      | some w => rw [omB_gone e ec] at hb; cases hb
    | some w => exact dn.ow b w e
  · cases hb : as.any (Ar.isB k) with
    | true =>
      obtain ⟨j, v, b, o, o0, rfl, q1, q2, q3, l, B', rfl, q4, q5, q6⟩ := h2 k y hb hy
      rw [Nat.zero_add] at q4 q5
      refine ⟨_, q1, l, B', rfl, ?_, fun a ha hl => ?_, q6⟩
      · rw [omB_some (show ω' l = some (j, .r) from q4)]
        unfold backT
        rw [q3]
        show some (k, tgR (lentS s k)) = _
        rw [lentS_is q2]
      · rw [omB_some (show ω' a = some (j, .p) from q5 a ha hl)]
        unfold backT
        rw [q3]
        show some (k, tgP (lentS s k)) = _
        rw [lentS_is q2]
    | false =>
      rw [h1 k hb] at hy
      obtain ⟨v, hv, r⟩ := T.at' k y hy
      refine ⟨v, hv, ?_⟩
      have hc : ∀ a c, ω a = some (k, c) → omC ω s as vs 0 a = none := fun a c ha => omC_off A ha hb
      have r2 : OwnAt K F' H' ω k y v := by
        cases y with
        | fr d => exact Rp.mono p'.sf r
        | hid u => exact r
        | ow b o =>
          obtain ⟨l, B', rfl, q1, q2, q3⟩ := r
          refine ⟨l, B', rfl, q1, q2, (q3.mono p'.sf).heap fun a ha u hu => p'.fr a u ?_ ?_ hu⟩
          · by_cases he : a = l
            · rw [he]; exact T.tb.own q1
            · exact T.tb.own (q2 a ha he)
          by_cases he : a = l
          · rw [he]; exact hc l _ q1
          · exact hc a _ (q2 a ha he)
      refine r2.om fun a c ha => ?_
      obtain ⟨_, u, hu⟩ := T.ow a _ ha
      rw [omB_keep (p'.om a u (hc a c ha) hu) (hc a c ha)]
      exact ha
  · rw [omB_keep q2 (omC_none A (hfree a q1))]
    exact hfree a q1
  · cases e : ω' b with
    | none =>
      cases ec : omC ω s as vs 0 b with
      | none => rw [omB_keep e ec] at q; exact .inl ⟨c, q⟩
      | some w => rw [omB_gone e ec] at q; cases q
    | some w =>
      obtain ⟨j, t⟩ := w
      rw [omB_some e] at q
      obtain ⟨i', e1, e2⟩ := backT_some q
      rcases e2 with ⟨rfl, e2⟩ | ⟨rfl, e2⟩
      · cases e2
        have hc := (p'.bk b j).mp e
        obtain ⟨i2, b2, o2, z1, _, z3, _, z5⟩ := omC_in A hc
        rw [Nat.sub_zero, e1] at z1
        cases z1
        rcases z5 with ⟨_, z5, _⟩ | ⟨_, z5⟩
        · exact .inl ⟨_, z5⟩
        · exact .inl ⟨_, z5⟩
      · cases e2
        rcases p'.kb b j e with hc | hc
        · obtain ⟨i2, b2, o2, z1, _, z3, _, z5⟩ := omC_in A hc
          rw [Nat.sub_zero, e1] at z1
          cases z1
          rcases z5 with ⟨_, z5, _⟩ | ⟨_, z5⟩
          · exact .inl ⟨_, z5⟩
          · exact .inl ⟨_, z5⟩
        · exact .inr hc
theorem lsp_callO {ps : PspX} {F H : Hp} {ω : Om} {s : Sl} {σ : L2.St} {as : List Ar} {vs : List V} {xs : List S} {Q : VK} {E : XK} {q : S → List O → Prop} {e : Xc → List O → Prop} (T : Sta0 K F H ω s σ) (hW : as.any Ar.isW = false) (r : ArR K F σ as vs) (g : getA as s = some xs) (hn : xs.length = ps.n)
    (h : ps.run xs q e)
    (k : ∀ v F' H' ω' x os, Stp F H ω F' H' ω' → Sta0 K F' H' ω' (putA as os s) σ → Inh ω H ω' → Rt K H F' H' ω' x v → q x os → Q v H')
    (kx : ∀ x d F' H' ω' os, Stp F H ω F' H' ω' → Sta0 K F' H' ω' (putA as os s) σ → Inh ω H ω' → XdR K F' x d → e x os → E (.ref x.C) d H') : LspX K ps vs H Q E := by
  have A := arOk T hW r g
  refine ⟨F, omC ω s as vs 0, xs, _, _, staC T A, (arOk_len A).2, fun a b j h1 h2 => ?_, fun b j c h => ?_, hn, h, fun v F' H' ω' x os dn B R hq => ?_, fun x d F' H' ω' os dn B R hq => ?_⟩
  · obtain ⟨i, b1, o, z1, _, z2, _, z3⟩ := omC_in A h1
    obtain ⟨i', b2, o', z1', _, z2', _, z3'⟩ := omC_in A h2
    rcases z3 with ⟨_, _, z3⟩ | ⟨z3, _⟩
    · rcases z3' with ⟨_, _, z3'⟩ | ⟨z3', _⟩
      · rw [z3] at z3'
        cases z3'
        rfl
      · cases z3'
    · cases z3
  · obtain ⟨i, b1, o, z1, _, z2, _, z3⟩ := omC_in A h
    rcases z3 with ⟨rfl, _⟩ | ⟨rfl, _⟩ <;> intro z <;> cases z
  · obtain ⟨p2, T2, hfr, hin⟩ := call_back T A dn B
    refine k v F' H' _ x _ p2 T2 hin ?_ hq
    cases x with
    | fr d => exact R
    | hid u => exact R
    | ow b o =>
      obtain ⟨l, A', e, z0, z1⟩ := R
      exact ⟨l, A', e, fun a ha => ⟨(z0 a ha).1, hfr a (z0 a ha).1 (z0 a ha).2.1, (z0 a ha).2.2⟩, z1⟩
  · obtain ⟨p2, T2, _, hin⟩ := call_back T A dn B
    exact kx x d F' H' _ _ p2 T2 hin R hq
theorem lsp_call {ps : PspX} {F H : Hp} {ω : Om} {s : Sl} {σ : L2.St} {as : List Ar} {vs : List V} {xs : List S} {Q : VK} {E : XK} {q : S → Sl → Prop} {e : Xc → Sl → Prop} (T : Sta0 K F H ω s σ) (hW : as.any Ar.isW = false) (r : ArR K F σ as vs) (g : getA as s = some xs) (hn : xs.length = ps.n)
    (h : ps.run xs (fun x os => q x (putA as os s)) fun x os => e x (putA as os s))
    (k : ∀ v F' H' ω' x s', Stp F H ω F' H' ω' → Sta0 K F' H' ω' s' σ → Rt K H F' H' ω' x v → q x s' → Q v H')
    (kx : ∀ x d F' H' ω' s', Stp F H ω F' H' ω' → Sta0 K F' H' ω' s' σ → XdR K F' x d → e x s' → E (.ref x.C) d H') : LspX K ps vs H Q E :=
  lsp_callO T hW r g hn h (fun v F' H' ω' x os p T _ R hq => k v F' H' ω' x _ p T R hq) fun x d F' H' ω' os p T _ R hq => kx x d F' H' ω' _ p T R hq
mutual
theorem Rp.thaw {F F' : Hp} (h : ∀ b u, F b = some u → F' b = some u ∨ ∃ ws, u = .lst ws) : ∀ {d : D} {v : V}, d.lf = true → Rp K F d v → Rp K F' d v
  | .non, _, _, r => r
  | .bl _, _, _, r => r
  | .int _, _, _, r => r
  | .str _, _, _, r => r
  | .ty _, _, _, r => r
  | .opq _, _, _, r => r
  | .xv _ _ _ _ _, _, e, _ => by cases e
  | .lst _, _, e, _ => by cases e
  | .dic _ _ _, _, e, _ => by cases e
  | .dik _ _, _, e, _ => by cases e
  | .obj _ _ _, _, e, _ => by cases e
  | .scr _, _, e, _ => by cases e
  | .tup ds, _, e, r => by
    obtain ⟨a, vs, rfl, h1, h2⟩ := r
    refine ⟨a, vs, rfl, ?_, RpA.thaw h e h2⟩
    rcases h1 with (h1 | ⟨o, h1⟩) | h1
    · rcases h _ _ h1 with z | ⟨ws, z⟩
      · exact .inl (.inl z)
      · cases z
    · rcases h _ _ h1 with z | ⟨ws, z⟩
      · exact .inl (.inr ⟨o, z⟩)
      · cases z
    · exact .inr h1
theorem RpA.thaw {F F' : Hp} (h : ∀ b u, F b = some u → F' b = some u ∨ ∃ ws, u = .lst ws) : ∀ {ds : List D} {vs : List V}, D.lfs ds = true → RpA K F ds vs → RpA K F' ds vs
  | [], _, _, r => r
  | d :: ds, _, e, r => by
    obtain ⟨v, ws, rfl, r1, r2⟩ := r
    have e' := Bool.and_eq_true_iff.mp (show (d.lf && D.lfs ds) = true from e)
    exact ⟨v, ws, rfl, Rp.thaw h e'.1 r1, RpA.thaw h e'.2 r2⟩
end
/-- the addresses that are shown -/
def Shown (as : List Ar) (σ : L2.St) (b : Addr) : Prop := ∃ i, Ar.w i ∈ as ∧ σ[i]? = some (some (.ref b))
theorem shown_own {F H : Hp} {ω : Om} {s : Sl} {σ : L2.St} (T : Sta K Ξ F H ω s σ) : ∀ {as : List Ar} {xs : List S}, getA as s = some xs → ∀ b, Shown as σ b → ∃ p ws, ω b = some p ∧ H b = some (.lst ws)
  | [], _, _, b, h => by
    obtain ⟨i, hi, _⟩ := h
    simp at hi
  | a :: as, xs, e, b, h => by
    obtain ⟨i, hi, hv⟩ := h
    have rest : ∀ ys, getA as s = some ys → Ar.w i ∈ as → ∃ p ws, ω b = some p ∧ H b = some (.lst ws) := fun ys e1 hm => shown_own T e1 b ⟨i, hm, hv⟩
    cases a with
    | v d =>
      unfold getA at e
      cases e1 : getA as s with
      | none => rw [e1] at e; cases e
      | some ys => exact rest ys e1 (by simpa using hi)
    | b j =>
      unfold getA at e
      split at e
      · split at e
        · cases e
        · cases e1 : getA as s with
          | none => rw [e1] at e; cases e
          | some ys => exact rest ys e1 (by simpa using hi)
      · cases e
    | w j =>
      unfold getA at e
      split at e
      · rename_i c ds e0
        cases e1 : getA as s with
        | none => rw [e1] at e; cases e
        | some ys =>
          rcases List.mem_cons.mp hi with z | z
          · cases z
            obtain ⟨v, hv', l, rfl, hl, ws, q1, q2⟩ := T.lst _ e0
            rw [hv] at hv'
            cases hv'
            exact ⟨_, ws, hl, q1⟩
          · exact rest ys e1 z
      · cases e
theorem view_args {F F1 H : Hp} {ω : Om} {s : Sl} {σ : L2.St} (T : Sta K Ξ F H ω s σ) (hs : Same F F1) : ∀ {as : List Ar} {vs : List V} {xs : List S}, as.any Ar.isL = false → ArR K F σ as vs → getA as s = some xs → (∀ b u, Shown as σ b → H b = some u → F1 b = some u) →
    lent xs ∧ xs.length = vs.length ∧ ∀ (k : Nat) (x : S), xs[k]? = some x → ∃ v, vs[k]? = some v ∧ ∃ d, x = .fr d ∧ Rp K F1 d v
  | [], _, _, _, r, e, _ => by
    cases (show _ = [] from r)
    cases e
    exact ⟨trivial, rfl, fun k x h => by simp at h⟩
  | .v d :: as, _, xs, hL, r, e, hF => by
    obtain ⟨v, ws, rfl, r1, r2⟩ := r
    unfold getA at e
    cases e1 : getA as s with
    | none => rw [e1] at e; cases e
    | some ys =>
      rw [e1] at e
      cases e
      obtain ⟨a1, a2, a3⟩ := view_args T hs (by simpa [Ar.isL] using hL) r2 e1 fun b u q => hF b u (by obtain ⟨i, q1, q2⟩ := q; exact ⟨i, List.mem_cons_of_mem _ q1, q2⟩)
      refine ⟨a1, congrArg (· + 1) a2, fun k x h => ?_⟩
      cases k with
      | zero => cases h; exact ⟨v, rfl, d, rfl, r1.mono hs⟩
      | succ k => exact a3 k x h
  | .b i :: as, _, xs, hL, _, _, _ => by simp [Ar.isL] at hL
  | .w i :: as, _, xs, hL, r, e, hF => by
    obtain ⟨v, ws, rfl, r1, r2⟩ := r
    unfold getA at e
    split at e
    · rename_i c ds e0
      cases e1 : getA as s with
      | none => rw [e1] at e; cases e
      | some ys =>
        rw [e1] at e
        cases e
        obtain ⟨a1, a2, a3⟩ := view_args T hs (by simpa [Ar.isL] using hL) r2 e1 fun b u q => hF b u (by obtain ⟨i, q1, q2⟩ := q; exact ⟨i, List.mem_cons_of_mem _ q1, q2⟩)
        refine ⟨a1, congrArg (· + 1) a2, fun k x h => ?_⟩
        cases k with
        | zero =>
          cases h
          obtain ⟨v', hv', l, rfl, hl, us, q1, q2⟩ := T.lst i e0
          rw [r1] at hv'
          cases hv'
          exact ⟨_, rfl, _, rfl, l, us, rfl, hF l _ ⟨i, List.mem_cons_self, r1⟩ q1, q2.mono hs⟩
        | succ k => exact a3 k x h
    · cases e
/-- a call that is shown own lists: they stay -/
theorem lsp_view {ps : PspX} {F H : Hp} {ω : Om} {s : Sl} {σ : L2.St} {as : List Ar} {vs : List V} {xs : List S} {Q : VK} {E : XK} {q : S → Sl → Prop} (T : Sta K Ξ F H ω s σ) (r : ArR K F σ as vs) (g : getA as s = some xs) (hn : xs.length = ps.n) (hL : as.any Ar.isL = false)
    (h : ps.run xs (fun x _ => lfS x = true ∧ q x s) fun _ _ => False) (k : ∀ v F' H' ω' x s', Stp F H ω F' H' ω' → Sta K Ξ F' H' ω' s' σ → Rt K H F' H' ω' x v → q x s' → Q v H') : LspX K ps vs H Q E := by
  classical
  have hsh := shown_own T g
  have F1s : ∀ b u, (if Shown as σ b then H b else F b) = some u → H b = some u := fun b u e => by
    split at e
    · exact e
    · exact T.sf b u e
  have hFF : Same F (fun b => if Shown as σ b then H b else F b) := fun b u e => by
    show (if Shown as σ b then H b else F b) = some u
    split
    · exact T.sf b u e
    · exact e
  obtain ⟨a1, a2, a3⟩ := view_args (F1 := fun b => if Shown as σ b then H b else F b) T hFF hL r g fun b u q e => by
    show (if Shown as σ b then H b else F b) = some u
    rw [if_pos q]
    exact e
  have T1 : Sta0 K (fun b => if Shown as σ b then H b else F b) H (fun _ => none) (xs.map some) (vs.map some) := by
    refine ⟨T.tb.go hFF (fun _ _ _ _ h => h) (fun _ _ _ _ _ => rfl) (fun b o ht h1 _ h2 => ?_), fun b u e => F1s b u e, fun _ _ h => (by cases h), fun i x h => ?_, by rw [List.length_map, List.length_map, a2], fun _ _ _ h => (by cases h)⟩
    · show (if Shown as σ b then H b else F b) = none
      rw [if_neg fun z => by
        obtain ⟨p, ws, h3, h4⟩ := hsh b z
        rw [h1] at h3
        cases h3]
      exact h2
    rw [List.getElem?_map] at h
    cases e : xs[i]? with
    | none => rw [e] at h; cases h
    | some y =>
      rw [e] at h
      cases h
      obtain ⟨v, hv, d, rfl, rr⟩ := a3 i _ e
      exact ⟨v, by rw [List.getElem?_map, hv]; rfl, rr⟩
  refine ⟨_, _, xs, _, _, T1, a1, fun _ _ _ h => (by cases h), fun _ _ _ h => (by cases h), hn, h, fun v F' H' ω' x os dn _ R hq => ?_, fun _ _ _ _ _ _ _ _ _ z => z.elim⟩
  have p' := dn.st
  obtain ⟨hlf, hq⟩ := hq
  have hF2 : ∀ b, Shown as σ b → F' b = H b := fun b hb => by
    obtain ⟨p, ws, h1, h2⟩ := hsh b hb
    rw [h2]
    exact p'.sf b _ (by show (if Shown as σ b then H b else F b) = _; rw [if_pos hb]; exact h2)
  have hH : ∀ b u, ¬ tadr b → H b = some u → H' b = some u := fun b u ht e => p'.fr b u ht rfl e
  -- the shown lists are taken out of what is frozen
  have hF3 : ∀ b u, (if Shown as σ b then none else F' b) = some u → F' b = some u := fun b u e => by
    split at e
    · cases e
    · exact e
  have sFF : Same F (fun b => if Shown as σ b then none else F' b) := fun b u e => by
    show (if Shown as σ b then none else F' b) = some u
    split
    · rename_i hb
      obtain ⟨p, ws, h1, h2⟩ := hsh b hb
      rw [(T.ow b p h1).1] at e
      cases e
    · exact p'.sf b u (hFF b u e)
  have th : ∀ b u, F' b = some u → (fun b => if Shown as σ b then none else F' b) b = some u ∨ ∃ ws, u = .lst ws := fun b u e => by
    by_cases hb : Shown as σ b
    · obtain ⟨p, ws, h1, h2⟩ := hsh b hb
      rw [hF2 b hb, h2] at e
      exact .inr ⟨ws, (Option.some.inj e).symm⟩
    · exact .inl (by show (if Shown as σ b then none else F' b) = some u; rw [if_neg hb]; exact e)
  have hne : ∀ b, H b = none → ¬ Shown as σ b := fun b hb z => by
    obtain ⟨p, ws, h1, h2⟩ := hsh b z
    rw [hb] at h2
    cases h2
  have htb : AllT (fun b => if Shown as σ b then none else F' b) H' ω := fun p hp => by
    obtain ⟨q1, q2, ps, q3, q4, q5⟩ := p'.tb p hp
    refine ⟨?_, (T.tb p hp).2.1, ps, q3, q4, fun pos cv hc => ?_⟩
    · show (if Shown as σ p.1 then none else F' p.1) = none
      split
      · rfl
      · exact q1
    · obtain ⟨c, e, h6⟩ := q5 pos cv hc
      refine ⟨c, e, ?_⟩
      show (if Shown as σ c then none else F' c) = _
      rw [if_neg fun z => by
        obtain ⟨p, ws, h3, h4⟩ := hsh c z
        rw [hF2 c z, h4] at h6
        cases h6]
      exact h6
  have pp : Stp F H ω (fun b => if Shown as σ b then none else F' b) H' ω := ⟨T.tb, htb, fun b o _ e => p'.th b o rfl e, sFF, fun b o ht _ e => hH b o ht e, fun _ _ z _ => z, fun b o q1 q2 q3 => by
    show (if Shown as σ b then none else F' b) = none
    split
    · rfl
    · rename_i hb
      refine p'.fn b o rfl q2 ?_
      show (if Shown as σ b then H b else F b) = none
      rw [if_neg hb]
      exact q3, p'.tr, fun _ _ => Iff.rfl, fun _ _ _ _ h => .inl h, fun _ _ h => .inl h⟩
  refine k v (fun b => if Shown as σ b then none else F' b) H' ω x s pp ⟨⟨htb, fun b u e => dn.sf b u (hF3 b u e), fun b p hb => ⟨?_, ?_⟩, fun i y hy => ?_, T.len, T.ix⟩, T.ex.step pp⟩ ?_ hq
  · show (if Shown as σ b then none else F' b) = none
    split
    · rfl
    · rename_i hb'
      obtain ⟨q1, u, q2⟩ := T.ow b p hb
      refine p'.fn b u rfl q2 ?_
      show (if Shown as σ b then H b else F b) = none
      rw [if_neg hb']
      exact q1
  · obtain ⟨q1, u, q2⟩ := T.ow b p hb
    exact ⟨u, hH b u (T.tb.own hb) q2⟩
  · obtain ⟨v, hv, r⟩ := T.at' i y hy
    exact ⟨v, hv, r.to sFF fun a u ⟨_, hw⟩ hu => hH a u (T.tb.own hw) hu⟩
  · cases x with
    | fr d => exact Rp.thaw th hlf R
    | hid u => exact R
    | ow b o =>
      obtain ⟨l, A, e, z0, z3⟩ := R
      refine ⟨l, A, e, fun a ha => ⟨(z0 a ha).1, Sta.free T.base (z0 a ha).1, ?_⟩, ?_⟩
      · show (if Shown as σ a then none else F' a) = none
        rw [(z0 a ha).2.2]
        split <;> rfl
      · cases o with
        | lst ds =>
          obtain ⟨eA, ws, y1, y2⟩ := z3
          exact ⟨eA, ws, y1, RpA.thaw th hlf y2⟩
        | dk _ => cases hlf
        | dn _ _ => cases hlf
        | nl _ => cases hlf
        | nt _ => cases hlf
        | ob _ _ _ => cases hlf
/-- what a call leads to: xs the arguments by data -/
def callTo (ps : Psp) (as : List Ar) (q : S → Sl → Prop) (s1 : Sl) : Prop := match getA as s1 with
  | some xs => if xs.length = ps.n then (if as.any Ar.isW = true then (if as.any Ar.isL = true then False else ps.run xs fun x _ => lfS x = true ∧ q x s1) else ps.run xs fun x os => q x (putA as os s1)) else False
  | none => False
theorem callTo_run {ps : Psp} {as : List Ar} {vs : List V} {F H : Hp} {ω : Om} {s : Sl} {σ : L2.St} {Q : VK} {E : XK} {q : S → Sl → Prop} (T : Sta K Ξ F H ω s σ) (r : ArR K F σ as vs) (h : callTo ps as q s)
    (k : ∀ v F' H' ω' x s', Stp F H ω F' H' ω' → Sta K Ξ F' H' ω' s' σ → Rt K H F' H' ω' x v → q x s' → Q v H') : Lsp K ps vs H Q E := by
  unfold callTo at h
  split at h
  · rename_i xs e
    split at h
    rotate_left
    · exact h.elim
    rename_i hn
    split at h
    · split at h
      · exact h.elim
      · rename_i hB
        exact lsp_view T r e hn (by simpa using hB) h k
    · rename_i hW
      exact lsp_call (e := fun _ _ => False) T.base (by simpa using hW) r e hn h (fun v F2 H2 ω2 x s2 p2 T2 r2 hq => k v F2 H2 ω2 x s2 p2 ⟨T2, T.ex.step p2⟩ r2 hq) fun _ _ _ _ _ _ _ _ _ z => z.elim
  · exact h.elim
def pCall (ps : Psp) (pa : PR1) : PX := fun s q => pa s fun as s1 => callTo ps as q s1
instance {ps : Psp} {E : XK} {t : TA} {pa : PR1} [LiftR K Ξ t pa] : LiftE K Ξ (tCall (Lsp K ps) [] E t) (pCall ps pa) := ⟨fun {F H ω s σ Q} q T h k => by
  refine LiftR.run (K := K) (t := t) (p := pa) _ T h fun vs F1 H1 ω1 as s1 p1 T1 r1 h1 => ?_
  rw [List.append_nil]
  exact callTo_run T1 r1 h1 fun v F2 H2 ω2 x s2 p2 T2 r2 hq => k v F2 H2 ω2 x s2 (p1.trans p2) T2 (r2.early p1.tr) hq⟩
/-- a call that may raise -/
def callToX (ps : PspX) (e : Xc → Sl → Prop) (as : List Ar) (q : S → Sl → Prop) (s1 : Sl) : Prop := match getA as s1 with
  | some xs => if xs.length = ps.n then (if as.any Ar.isW = true then False else ps.run xs (fun x os => q x (putA as os s1)) fun x os => e x (putA as os s1)) else False
  | none => False
theorem callToX_run {ps : PspX} {W : WX} {e : Xc → Sl → Prop} {as : List Ar} {vs : List V} {F H : Hp} {ω : Om} {s : Sl} {σ : L2.St} {Q : VK} {q : S → Sl → Prop} (T : Sta K ⟨W, e⟩ F H ω s σ) (r : ArR K F σ as vs) (h : callToX ps e as q s)
    (k : ∀ v F' H' ω' x s', Stp F H ω F' H' ω' → Sta K ⟨W, e⟩ F' H' ω' s' σ → Rt K H F' H' ω' x v → q x s' → Q v H') : LspX K ps vs H Q (fun cls d H' => W cls d σ H') := by
  unfold callToX at h
  split at h
  · rename_i xs ex
    split at h
    rotate_left
    · exact h.elim
    rename_i hn
    split at h
    · exact h.elim
    · rename_i hW
      exact lsp_call (e := e) T.base (by simpa using hW) r ex hn h (fun v F2 H2 ω2 x s2 p2 T2 r2 hq => k v F2 H2 ω2 x s2 p2 ⟨T2, T.ex.step p2⟩ r2 hq) fun x d F2 H2 ω2 s2 p2 T2 r2 he => T.ex p2 T2 r2 he
  · exact h.elim
def pCallX (e : Xc → Sl → Prop) (ps : PspX) (pa : PR1) : PX := fun s q => pa s fun as s1 => callToX ps e as q s1
/-- .. called from a def that lets it out -/
def tCallE (E : XK) (sp : Sp) (t : TA) : TE := tCall sp [] E t
/-- .. called in a try -/
def tCallW (W : WX) (sp : Sp) (t : TA) : TE := fun σ H Q => t σ H fun vs H1 => sp vs H1 Q fun cls d H' => W cls d σ H'
instance {ps : PspX} {W : WX} {e : Xc → Sl → Prop} {t : TA} {pa : PR1} [LiftR K ⟨W, e⟩ t pa] : LiftE K ⟨W, e⟩ (tCallW W (LspX K ps) t) (pCallX e ps pa) := ⟨fun {F H ω s σ Q} q T h k => by
  refine LiftR.run (K := K) (t := t) (p := pa) _ T h fun vs F1 H1 ω1 as s1 p1 T1 r1 h1 => ?_
  exact callToX_run T1 r1 h1 fun v F2 H2 ω2 x s2 p2 T2 r2 hq => k v F2 H2 ω2 x s2 (p1.trans p2) T2 (r2.early p1.tr) hq⟩
instance {ps : PspX} {E : XK} {e : Xc → Sl → Prop} {t : TA} {pa : PR1} [LiftR K ⟨WK E, e⟩ t pa] : LiftE K ⟨WK E, e⟩ (tCallE E (LspX K ps) t) (pCallX e ps pa) := ⟨fun {F H ω s σ Q} q T h k => by
  refine LiftR.run (K := K) (t := t) (p := pa) _ T h fun vs F1 H1 ω1 as s1 p1 T1 r1 h1 => ?_
  rw [List.append_nil]
  exact callToX_run T1 r1 h1 fun v F2 H2 ω2 x s2 p2 T2 r2 hq => k v F2 H2 ω2 x s2 (p1.trans p2) T2 (r2.early p1.tr) hq⟩
/-! a def's body -/
def fin (xs : List S) (q : S → List O → Prop) (x : S) (s : Sl) : Prop := match bors xs s with
  | some os => q x os
  | none => False
def finX (xs : List S) (e : Xc → List O → Prop) (x : Xc) (s : Sl) : Prop := match bors xs s with
  | some os => e x os
  | none => False
theorem bors_at {F H : Hp} {ω ω0 : Om} (h1 : ∀ b j, ω b = some (j, .r) → ω0 b = some (j, .r)) (h2 : ∀ a b j, ω0 a = some (j, .r) → ω0 b = some (j, .r) → a = b) : ∀ {xs : List S} {vs : List V} {s : Sl} {σ : L2.St} {os : List O} {n : Nat}, bors xs s = some os →
    (∀ i x, xs[i]? = some x → ∃ v, vs[i]? = some v ∧ ∀ b o, x = .ow b o → ∃ l, v = .ref l ∧ ω0 l = some (n + i, .r)) → xs.length = vs.length →
    (∀ i x, s[i]? = some (some x) → ∃ v, σ[i]? = some (some v) ∧ OwnAt K F H ω (n + i) x v) → BosR K F H ω n xs vs os
  | [], _, _, _, _, _, e, _, _, _ => by cases e; exact rfl
  | .hid _ :: _, _, _, _, _, _, e, _, _, _ => by cases e
  | .fr d :: xs, [], _, _, _, _, e, _, hl, _ => by simp at hl
  | .fr d :: xs, v :: vs, [], σ, os, n, e, _, _, _ => by cases e
  | .fr d :: xs, v :: vs, y :: s, [], os, n, e, hv, hl, ha => by
    refine ⟨v, vs, rfl, bors_at h1 h2 (n := n + 1) (σ := []) e (fun i x h => ?_) (by simpa using hl) (fun i x h => ?_)⟩
    · obtain ⟨w, q1, q2⟩ := hv (i + 1) x h
      exact ⟨w, q1, fun b o z => by rw [show n + 1 + i = n + (i + 1) by omega]; exact q2 b o z⟩
    · obtain ⟨w, q1, q2⟩ := ha (i + 1) x h
      cases q1
  | .fr d :: xs, v :: vs, y :: s, z :: σ, os, n, e, hv, hl, ha => by
    refine ⟨v, vs, rfl, bors_at h1 h2 (n := n + 1) (σ := σ) e (fun i x h => ?_) (by simpa using hl) (fun i x h => ?_)⟩
    · obtain ⟨w, q1, q2⟩ := hv (i + 1) x h
      exact ⟨w, q1, fun b o z => by rw [show n + 1 + i = n + (i + 1) by omega]; exact q2 b o z⟩
    · obtain ⟨w, q1, q2⟩ := ha (i + 1) x h
      exact ⟨w, q1, by rw [show n + 1 + i = n + (i + 1) by omega]; exact q2⟩
  | .ow c o :: xs, vs, s, σ, os, n, e, hv, hl, ha => by
    cases s with
    | nil => cases e
    | cons y s =>
      cases y with
      | none => cases e
      | some y =>
        cases y with
        | fr _ => cases e
        | hid _ => cases e
        | ow c' o' =>
          cases c' with
          | false => cases e
          | true =>
            have e' : (bors xs s).map (o' :: ·) = some os := e
            cases eb : bors xs s with
            | none => rw [eb] at e'; cases e'
            | some os' =>
              rw [eb] at e'
              cases e'
              obtain ⟨v0, q1, q2⟩ := hv 0 _ rfl
              obtain ⟨l, rfl, q3⟩ := q2 c o rfl
              obtain ⟨v1, q4, l', A, rfl, q5, q6, q7⟩ := ha 0 _ rfl
              have : l' = l := h2 l' l _ (h1 l' _ q5) q3
              subst this
              cases vs with
              | nil => cases q1
              | cons w vs =>
                cases q1
                cases σ with
                | nil => cases q4
                | cons z σ =>
                  refine ⟨_, vs, o', os', rfl, rfl, ⟨l', A, rfl, q5, q6, q7⟩, bors_at h1 h2 (n := n + 1) (σ := σ) eb (fun i x h => ?_) (by simpa using hl) (fun i x h => ?_)⟩
                  · obtain ⟨w, q1, q2⟩ := hv (i + 1) x h
                    exact ⟨w, q1, fun b o z => by rw [show n + 1 + i = n + (i + 1) by omega]; exact q2 b o z⟩
                  · obtain ⟨w, q1, q2⟩ := ha (i + 1) x h
                    exact ⟨w, q1, by rw [show n + 1 + i = n + (i + 1) by omega]; exact q2⟩
theorem lsp_len {ps : PspX} {vs : List V} {H : Hp} {Q : VK} {E : XK} (h : LspX K ps vs H Q E) : vs.length = ps.n := by
  obtain ⟨F, ω, xs, q, e, T, hle, hu, hc, hn, hq, k⟩ := h
  rw [← hn]
  simpa using T.len.symm
/-- the slots at the start: the arguments, the other names unknown -/
def startS (n : Nat) (xs : List S) : Sl := xs.map some ++ List.replicate (n - xs.length) none
/-- where a def's body begins -/
theorem lsp_bodyE {ps : PspX} {N : List Str} {vs : List V} {H : Hp} {Q : VK} {E : XK} {t : TS} (h : LspX K ps vs H Q E) (hN' : ps.n ≤ N.length) : ∃ (F : Hp) (ω : Om) (xs : List S) (q : S → List O → Prop) (e : Xc → List O → Prop), xs.length = ps.n ∧ ps.run xs q e ∧ Sta0 K F H ω (startS N.length xs) (L2.start N vs) ∧ Exo K ⟨WK E, finX xs e⟩ F H ω ∧
    ∀ {Ξ : XI} {p : PS1}, Exo K Ξ F H ω → LiftS K Ξ t p → p { nx := fin xs q (.fr .non), rt := fin xs q } (startS N.length xs) → t { nx := fun _ H' => Q .non H', rt := Q } (L2.start N vs) H := by
  obtain ⟨F, ω, xs, q, e, T, hle, hu, hc, hn, hq, k, kx⟩ := h
  have hlen : xs.length = vs.length := by simpa using T.len
  have hN : vs.length ≤ N.length := by omega
  have T1 : Sta0 K F H ω (startS N.length xs) (L2.start N vs) := by
    refine ⟨T.tb, T.sf, T.ow, fun i x h => ?_, by unfold startS L2.start; simp [hlen], fun b j c h => by have := T.ix b j c h; unfold startS; simp at this ⊢; omega⟩
    unfold startS at h
    unfold L2.start
    by_cases hi : i < xs.length
    · rw [List.getElem?_append_left (by simpa using hi)] at h
      rw [List.getElem?_append_left (by rw [List.length_map]; omega)]
      exact T.at' i x h
    · rw [List.getElem?_append_right (by simpa using Nat.not_lt.mp hi)] at h
      rw [List.getElem?_replicate] at h
      split at h
      · cases h
      · cases h
  have hat : ∀ i x, xs[i]? = some x → ∃ v, vs[i]? = some v ∧ ∀ b o, x = .ow b o → ∃ l, v = .ref l ∧ ω l = some (0 + i, .r) := by
    intro i x h
    obtain ⟨v, hv, r⟩ := T.at' i x (by rw [List.getElem?_map, h]; rfl)
    rw [List.getElem?_map] at hv
    cases e : vs[i]? with
    | none => rw [e] at hv; cases hv
    | some w =>
      rw [e] at hv
      cases hv
      refine ⟨v, rfl, fun b o z => ?_⟩
      subst z
      obtain ⟨l, A, rfl, q1, _⟩ := r
      cases b with
      | true => exact ⟨l, rfl, by rw [Nat.zero_add]; exact q1⟩
      | false => exact absurd rfl (hc l i _ q1)
  have hbos : ∀ {σ' F' H' ω' s' os}, Stp F H ω F' H' ω' → Sta0 K F' H' ω' s' σ' → bors xs s' = some os → Dn F H ω F' H' ω' ∧ BosR K F' H' ω' 0 xs vs os := fun {σ' F' H' ω' s' os} p' T' e =>
    ⟨⟨p', T'.sf, T'.ow⟩, bors_at (ω0 := ω) (fun b j hb => (p'.bk b j).mp hb) hu (n := 0) e hat hlen fun i x h => by rw [Nat.zero_add]; exact T'.at' i x h⟩
  have hend : ∀ {v σ' F' H' ω' x s'}, Stp F H ω F' H' ω' → Sta0 K F' H' ω' s' σ' → Rt K H F' H' ω' x v → fin xs q x s' → Q v H' := by
    intro v σ' F' H' ω' x s' p' T' r h
    unfold fin at h
    split at h
    · rename_i os e
      obtain ⟨d1, d2⟩ := hbos p' T' e
      exact k v F' H' ω' x os d1 d2 r h
    · exact h.elim
  have hexo : Exo K ⟨WK E, finX xs e⟩ F H ω := by
    intro F' H' ω' s' σ' x d p' T' r h
    have h' : finX xs e x s' := h
    unfold finX at h'
    split at h'
    · rename_i os eb
      obtain ⟨d1, d2⟩ := hbos p' T' eb
      exact kx x d F' H' ω' os d1 d2 r h'
    · exact h'.elim
  refine ⟨F, ω, xs, q, e, hn, hq, T1, hexo, fun {Ξ p} ex L h0 => ?_⟩
  exact LiftS.run (K := K) (Ξ := Ξ) (t := t) (p := p) (H0 := H) _ ⟨T1, ex⟩ h0 ⟨fun {σ' F' H' ω' s'} p' T' h => hend p' T'.base (x := .fr .non) rfl h, fun {v σ' F' H' ω' x s'} p' T' r h => hend p' T'.base r h, fun _ _ h => h.elim, fun _ _ h => h.elim, fun _ h => h, fun b j h => (hc b j _ h rfl).elim⟩
theorem lsp_bodyX {ps : PspX} {N : List Str} {vs : List V} {H : Hp} {Q : VK} {E : XK} {t : TS} {p : (Xc → Sl → Prop) → PS1} (h : LspX K ps vs H Q E) [L : ∀ e, LiftS K ⟨WK E, e⟩ t (p e)] (hN' : ps.n ≤ N.length)
    (hp : ∀ xs q e, xs.length = ps.n → ps.run xs q e → p (finX xs e) { nx := fin xs q (.fr .non), rt := fin xs q } (startS N.length xs)) : t { nx := fun _ H' => Q .non H', rt := Q } (L2.start N vs) H := by
  obtain ⟨F, ω, xs, q, e, hn, hq, T, ex, k⟩ := lsp_bodyE (t := t) h hN'
  exact k ex (L (finX xs e)) (hp xs q e hn hq)
theorem lsp_body {ps : Psp} {N : List Str} {vs : List V} {H : Hp} {Q : VK} {E : XK} {t : TS} {p : PS1} (h : Lsp K ps vs H Q E) [L : LiftS K XI.zero t p] (hN' : ps.n ≤ N.length)
    (hp : ∀ xs q, xs.length = ps.n → ps.run xs q → p { nx := fin xs q (.fr .non), rt := fin xs q } (startS N.length xs)) : t { nx := fun _ H' => Q .non H', rt := Q } (L2.start N vs) H := by
  obtain ⟨F, ω, xs, q, e, hn, hq, T, ex, k⟩ := lsp_bodyE (t := t) h hN'
  exact k (Ξ := XI.zero) (fun _ _ _ _ _ _ _ _ _ _ z => z.elim) L (hp xs q hn hq)
end
/-! ### the written part's name in a reading -/
theorem cxK {CX : CXT} {P : Program} {w : World} {K : PySem.W.Frag} {mg : Str → Option Value} {base : Heap} {N : List Str} {qual : Str} {scope : Scope} {f : Addr} {cd : Value} {A : Around} {outer : List Env} {s : Shared} {H : Hp} {E : XK} :
    (cxOf CX P w K mg base N qual scope f cd A outer s H E).K = K := rfl
theorem blkK {X : Cx} {s : Shared} {H : Hp} {scope : Scope} {cenv : Env} {fp : List Addr} : (X.blk s H scope cenv fp).K = X.K := rfl
theorem noxK {X : Cx} : X.nox.K = X.K := rfl
theorem wishK {X : Cx} {E : Value → Shared → Prop} : (X.wish E).K = X.K := rfl
section
variable {K : PySem.W.Frag} {Ξ : XI}
def gGcd : List D → (S → Prop) → Prop := fun ds q => match ds with
  | [.int i, .int j] => q (.fr (.int (Int.gcd i j : Nat)))
  | _ => False
instance : CaL K rGcd gGcd := ⟨fun {F H vs ds Q} q hs r h k => by
  unfold gGcd at h
  split at h
  · obtain ⟨v, w, rfl, h1, h2⟩ := r.two
    cases (show v = _ from h1)
    cases (show w = _ from h2)
    exact ⟨_, _, rfl, k _ F H (.fr (.int _)) (Ext.refl hs) rfl h⟩
  · exact h.elim⟩
def gSortedI : List D → (S → Prop) → Prop := fun ds q => match ds with
  | [.lst xs] => ∃ ns : List Int, xs = ns.map D.int ∧ ∀ ms : List Int, ms.Perm ns → ms.Pairwise (· ≤ ·) → q (.ow false (.lst (ms.map .int)))
  | _ => False
instance : CaL K (rSortedI K) gSortedI := ⟨fun {F H vs ds Q} q hs r h k => by
  unfold gSortedI at h
  split at h
  · obtain ⟨ns, rfl, hq⟩ := h
    obtain ⟨v, rfl, a, ws, rfl, h1, h2⟩ := r.one
    cases RpA.intsV h2
    exact ⟨a, ns, rfl, SqL.of (hs _ _ h1), fun ms p h3 h4 hp => Ext.lst hs RpA.ints (hq ms h3 h4) k hp⟩
  · exact h.elim⟩
/-- the law's promise -/
def psp_law : Psp := ⟨1, fun xs q => ∃ ns : List Int, xs = [.fr (.scr ns)] ∧ ns.length ≤ 63 ∧ q (.fr (.bl true)) []⟩
def sp_lawT (ts : List (Addr × Str)) (K : PySem.W.Frag) : Sp := fun vs H Q _ => (∀ p ∈ ts, H p.1 = some (.tbl #[])) ∧ ∃ (a : Addr) (ns : List Int), vs = [.ref a] ∧ SqL K H a (ns.map V.int) ∧ ns.length ≤ 63 ∧ ∀ H', Q (.bl true) H'
def sp_law (K : PySem.W.Frag) : Sp := sp_lawT Tbs.T K
theorem law_imp : ∀ vs H Q E, sp_law K vs H Q E → Lsp K psp_law vs H Q E := by
  classical
  rintro vs H Q E ⟨hT, a, ns, rfl, h, hl, q⟩
  have ha : ∀ o, H a = some o → (∀ ps, o ≠ .tbl ps) → ¬ tadr a := fun o e hn ⟨q, hq⟩ => by
    have e2 : H a = some (.tbl #[]) := hT _ hq
    rw [e] at e2
    exact hn _ (Option.some.inj e2)
  have hF : Same (fun b => if b = a ∧ ¬ tadr b then H a else none) H := fun b o e => by
    have e' : (if b = a ∧ ¬ tadr b then H a else none) = some o := e
    split at e'
    · rename_i hb
      rw [hb.1]
      exact e'
    · cases e'
  have hS : SqL K (fun b => if b = a ∧ ¬ tadr b then H a else none) a (ns.map V.int) := by
    rcases h with (h | ⟨o, h⟩) | h
    · exact .inl (.inl (by show (if a = a ∧ ¬ tadr a then H a else none) = _; rw [if_pos ⟨rfl, ha _ h fun _ z => by cases z⟩]; exact h))
    · exact .inl (.inr ⟨o, by show (if a = a ∧ ¬ tadr a then H a else none) = _; rw [if_pos ⟨rfl, ha _ h fun _ z => by cases z⟩]; exact h⟩)
    · exact .inr h
  have T : Sta0 K (fun b => if b = a ∧ ¬ tadr b then H a else none) H (fun _ => none) ([S.fr (.scr ns)].map some) ([V.ref a].map some) := by
    refine ⟨fun p hp => ⟨by show (if p.1 = a ∧ ¬ tadr p.1 then H a else none) = none; rw [if_neg fun z => z.2 ⟨p.2, hp⟩], rfl, #[], hT p hp, True.intro, fun pos cv hc => ?_⟩, hF, fun _ _ h => (by cases h), fun i x h => ?_, rfl, fun _ _ _ h => (by cases h)⟩
    · have z : codeAmong pos [] = some cv := hc
      simp [codeAmong] at z
    cases i with
    | zero =>
      cases h
      exact ⟨_, rfl, a, rfl, hS⟩
    | succ i => simp at h
  refine ⟨_, _, [.fr (.scr ns)], fun x _ => x = .fr (.bl true), fun _ _ => False, T, trivial, fun _ _ _ h => (by cases h), fun _ _ _ h => (by cases h), rfl, ⟨ns, rfl, hl, rfl⟩, fun v F' H' ω' x os _ _ r hx => ?_, fun _ _ _ _ _ _ _ _ _ z => z.elim⟩
  subst hx
  cases (show v = _ from r)
  exact q H'
end
/-! ### helpers for answering -/
theorem take_snocD {es : List D} {i : Nat} {e : D} (h : es[i]? = some e) : es.take i ++ [e] = es.take (i + 1) := by
  rw [List.take_add_one, h]
  rfl
/-- a comprehension without tests, element by element; the slots stay -/
theorem pLc_map {pi : PI1} {pg : PG1} {ss : List Nat} {pe : PD} {vs : List Nat} {s : Sl} {q : S → Sl → Prop} (ds es : List D) (s1 S0 : Sl) (h1 : ∀ k : List D → Sl → Prop, k ds s1 → pi s k) (hl : ds.length ≤ 100000) (he : es.length = ds.length) (hs : ∀ i d, ds[i]? = some d → pg d S0 fun s3 => pe s3 fun e s5 => es.take i ++ [e] = es.take (i + 1) ∧ wipeS s5 vs = S0)
    (hq : q (.ow false (.lst es)) S0) (hss : ss.all vs.contains = true := by rfl) (h0 : wipeS s1 vs = S0 := by rfl) : pLc pi pg ss (fun s y _ => y s) pe vs s q := by
  refine h1 _ ?_
  show (if ss.all vs.contains = true then _ else False)
  rw [if_pos hss]
  refine ⟨hl, fun i acc s => acc = es.take i ∧ s = S0, ⟨rfl, h0⟩, ?_, ?_⟩
  · rintro i d acc s2 hd ⟨rfl, rfl⟩
    exact hs i d hd
  · rintro acc s2 ⟨rfl, rfl⟩
    rw [← he, List.take_length]
    exact hq
theorem map_at {α : Type} {f : α → D} {xs : List α} {i : Nat} {d : D} (h : (xs.map f)[i]? = some d) : ∃ x, xs[i]? = some x ∧ d = f x := by
  rw [List.getElem?_map] at h
  cases e : xs[i]? with
  | none => rw [e] at h; cases h
  | some x => rw [e] at h; exact ⟨x, rfl, (Option.some.inj h).symm⟩
theorem at_map {α : Type} {f : α → D} {xs : List α} {i : Nat} {x : α} (h : xs[i]? = some x) : (xs.map f)[i]? = some (f x) := by
  rw [List.getElem?_map, h]
  rfl
theorem lt_of_at {α : Type} {xs : List α} {i : Nat} {x : α} (h : xs[i]? = some x) : i < xs.length := (List.getElem?_eq_some_iff.mp h).1
theorem take_snocM {α β : Type} {f : α → β} {xs : List α} {i : Nat} {x : α} (h : xs[i]? = some x) : (xs.map f).take i ++ [f x] = (xs.map f).take (i + 1) := by
  rw [List.take_add_one, List.getElem?_map, h]
  rfl
theorem D.lst_inj {a b : List D} (h : D.lst a = D.lst b) : a = b := by injection h
theorem map_inj {α : Type} {f : α → D} (hf : ∀ a b, f a = f b → a = b) : ∀ {xs ys : List α}, xs.map f = ys.map f → xs = ys
  | [], [], _ => rfl
  | [], _ :: _, h => by cases h
  | _ :: _, [], h => by cases h
  | x :: xs, y :: ys, h => by
    rw [List.map_cons, List.map_cons, List.cons.injEq] at h
    rw [hf x y h.1, map_inj hf h.2]
theorem int_inj {a b : Int} (h : D.int a = D.int b) : a = b := by injection h
theorem all_pl {α : Type} {f : α → D} {n : Nat} (h : ∀ x, D.plN n (f x) = true) (xs : List α) : D.plN (n + 1) (.lst (xs.map f)) = true := by
  show (xs.map f).all (D.plN n) = true
  rw [List.all_eq_true]
  intro d hd
  obtain ⟨x, _, rfl⟩ := List.mem_map.mp hd
  exact h x
theorem atI_get {ds : List D} {i : Int} {d : D} (h0 : 0 ≤ i) (h : ds[i.toNat]? = some d) : atI ds i = some d := by
  have hl := lt_of_at h
  unfold atI ixN
  rw [if_pos h0, if_pos (by omega)]
  exact h
theorem nf {b : Bool} (h : not b = false) : b = true := by cases b <;> first | rfl | cases h
theorem nt {b : Bool} (h : not b = true) : b = false := by cases b <;> first | rfl | cases h
/-! ### instances: fields, methods, C(..) -/
def inC : List Addr → Addr → Prop
  | [], _ => False
  | [A], C => C = A
  | A :: r, C => C = A ∨ inC r C
theorem inC_mem : ∀ {Cs : List Addr} {C : Addr}, inC Cs C → C ∈ Cs
  | [A], C, h => by rw [show C = A from h]; exact List.mem_cons_self
  | A :: B :: r, C, h => by
    rcases (show C = A ∨ inC (B :: r) C from h) with z | z
    · rw [z]; exact List.mem_cons_self
    · exact List.mem_cons_of_mem _ (inC_mem z)
/-- e.f, the classes told -/
def tFldC (Cs : List Addr) (ta : TE) (f : Str) : TE := fun σ H Q => ta σ H fun x H1 => ∃ a C dx fs v, x = .ref a ∧ H1 a = some (.ins C dx fs) ∧ C ∈ Cs ∧ fs.lookup f = some v ∧ Q v H1
/-- e.f = value -/
def sFldC (Cs : List Addr) (ta tv : TE) (f : Str) : TS := fun D σ H => tv σ H fun y H1 => ta σ H1 fun x H2 => ∃ a C dx fs, x = .ref a ∧ H2 a = some (.ins C dx fs) ∧ C ∈ Cs ∧ fs.length < 1000 ∧ D.nx σ (upd H2 a (.ins C dx (putF f y fs)))
/-- e.f op= value -/
def sFldAugC (Cs : List Addr) (ta tv : TE) (rd : V → V → Hp → VK → Prop) (f : Str) : TS := fun D σ H => ta σ H fun x H1 => ∃ a C dx fs v, x = .ref a ∧ H1 a = some (.ins C dx fs) ∧ C ∈ Cs ∧ fs.lookup f = some v ∧
  tv σ H1 fun y H2 => rd v y H2 fun z H3 => ∃ dx' fs', H3 a = some (.ins C dx' fs') ∧ fs'.length < 1000 ∧ D.nx σ (upd H3 a (.ins C dx' (putF f z fs')))
section
variable {X : Cx} {o e value : Expr} {f : Str} {pos pos' tpos : Pos} {ta tv : TE} {Cs : List Addr}
def CsOk (K : PySem.W.Frag) (f : Str) (Cs : List Addr) : Prop := ∀ C ∈ Cs, Cls K C ∧ NoAttr K C f
theorem csOk1 {K : PySem.W.Frag} {C : Addr} (c : Cls K C) (n : NoAttr K C f) : CsOk K f [C] := fun D h => by
  cases List.mem_singleton.mp h
  exact ⟨c, n⟩
theorem csOk {K : PySem.W.Frag} {C : Addr} {r : List Addr} (c : Cls K C) (n : NoAttr K C f) (h : CsOk K f r) : CsOk K f (C :: r) := fun D hm => by
  rcases List.mem_cons.mp hm with z | z
  · rw [z]; exact ⟨c, n⟩
  · exact h D z
theorem pe_fldC {K : PySem.W.Frag} (hK : X.K = K) (hc : CsOk K f Cs) (he : PE X e ta) (hb : attributeBase e f X.env (eval e X.env) = eval e X.env) : PE X (.Attribute e f pos) (tFldC Cs ta f) := by
  subst hK
  refine ⟨fun pins s σ H Q I h => ?_⟩
  refine attr_of hb (thn (he.run pins s σ H _ I h) fun u s1 ⟨x, H1, I1, rx, a, C, dx, fs, v, ex, ea, c, l, q⟩ => ?_)
  subst ex
  obtain rfl : u = Value.ref a := rx
  exact getattr_ok I1 ea (hc C c).1 (hc C c).2 l fun u' s2 I2 ru => ⟨v, H1, I2, ru, q⟩
theorem ps_fldC {K : PySem.W.Frag} (hK : X.K = K) (hc : CsOk K f Cs) (ha : PE X o ta) (hv : PE X value tv) (hs : swapsWith value (some (.Attribute o f pos')) pos.line X.env = pure false) : PS X (.Assign [.Attribute o f pos'] value pos) (sFldC Cs ta tv f) := by
  subst hK
  refine ⟨fun pins s σ H D I h => ?_⟩
  refine plainObj_wpAny_Assign_Attribute (thn (hv.run pins s σ H _ I h) fun u s1 ⟨y, H1, I1, ry, q⟩ => thn (ha.run pins s1 σ H1 _ I1 q) fun ov s2 ⟨x, H2, I2, rx, a, C, dx, fs, ex, ea, c, l, q2⟩ => ?_) hs
  subst ex
  obtain rfl : ov = Value.ref a := rx
  exact setattr_ok I2 ea (hc C c).1 (hc C c).2 l ry fun s3 I3 => ⟨σ, _, I3, q2⟩
theorem ps_fldaugC {K : PySem.W.Frag} {op : Operator} {rd : V → V → Hp → VK → Prop} (hK : X.K = K) (hc : CsOk K f Cs) (ha : PE X o ta) (hv : PE X value tv) (hop : InOp X op rd) : PS X (.AugAssign (.Attribute o f tpos) op value pos) (sFldAugC Cs ta tv rd f) := by
  subst hK
  refine ⟨fun pins s σ H D I h => ?_⟩
  refine wpAny_AugAssign_AttributeAny (thn (ha.run pins s σ H _ I h) fun ov s1 ⟨x, H1, I1, rx, a, C, dx, fs, v, ex, ea, c, l, q⟩ => ?_)
  subst ex
  obtain rfl : ov = Value.ref a := rx
  have n := (hc C c).2
  have c := (hc C c).1
  refine getattr_ok I1 ea c n l fun u s2 I2 ru => thn (hv.run pins s2 σ H1 _ I2 q) fun w3 s3 ⟨y, H2, I3, ry, q3⟩ => thn (hop pins s3 σ H2 v y u w3 _ I3 ru ry q3) fun w4 s4 ⟨z, H3, I4, rz, dx', fs', ea', l', q4⟩ => ?_
  exact setattr_ok I4 ea' c n l' rz fun s5 I5 => ⟨σ, _, I5, q4⟩
/-- two readings of one expression -/
def tAlt (t u : TE) : TE := fun σ H Q => t σ H Q ∨ u σ H Q
theorem pe_alt {t u : TE} (h : PE X e t) (h' : PE X e u) : PE X e (tAlt t u) := ⟨fun pins s σ H Q I hq => hq.elim (h.run pins s σ H Q I) (h'.run pins s σ H Q I)⟩
/-- an object that may be of one of several classes: a tree of readings of its method -/
def tMethE (E : XK) (C : Addr) (m : Str) (sp : Sp) (ta : TE) (t : TA) : TE := tMeth C m sp [] E ta t
def tMethW (W : WX) (C : Addr) (m : Str) (sp : Sp) (ta : TE) (t : TA) : TE := fun σ H Q => ta σ H fun x H1 => ∃ a dx fs, x = .ref a ∧ H1 a = some (.ins C dx fs) ∧ fs.lookup m = none ∧ t σ H1 fun vs H2 => sp (x :: vs) H2 Q fun cls d H' => W cls d σ H'
def tMakeE (E : XK) (C : Addr) (sp : Sp) (t : TA) : TE := tMake C sp [] E t
def tMakeW (W : WX) (C : Addr) (sp : Sp) (t : TA) : TE := fun σ H Q => t σ H fun vs H1 => ∀ x dx, H1 x = none → H1 dx = none → dx ≠ x → sp (.ref x :: vs) (upd (upd H1 dx (.own x)) x (.ins C dx [])) (fun v H2 => v = .non ∧ Q (.ref x) H2) fun cls d H' => W cls d σ H'
end
/-! fields by name -/
theorem lookN {m : Str} : ∀ {ns : List Str} {vs : List V}, ns.contains m = false → (ns.zip vs).lookup m = none
  | [], vs, _ => by simp
  | n :: ns, [], _ => by simp
  | n :: ns, v :: vs, h => by
    have h' : (m == n || ns.contains m) = false := h
    rw [Bool.or_eq_false_iff] at h'
    rw [List.zip_cons_cons, List.lookup_cons, h'.1]
    exact lookN h'.2
def putNs (f : Str) : List Str → List Str
  | [] => [f]
  | g :: r => if g == f then g :: r else g :: putNs f r
def putCs {α : Type} (f : Str) (x : α) : List Str → List α → List α
  | [], _ => [x]
  | _ :: _, [] => []
  | g :: r, c :: cs => if g == f then x :: cs else c :: putCs f x r cs
theorem putNs_len {α : Type} {f : Str} {x : α} : ∀ {ns : List Str} {cs : List α}, ns.length = cs.length → (putNs f ns).length = (putCs f x ns cs).length
  | [], cs, h => by
    have := List.length_eq_zero_iff.mp h.symm
    subst this
    rfl
  | g :: r, [], h => by simp at h
  | g :: r, c :: cs, h => by
    unfold putNs putCs
    split
    · exact h
    · exact congrArg (· + 1) (putNs_len (Nat.succ.inj h))
theorem put_zip {f : Str} {v : V} : ∀ {ns : List Str} {vs : List V}, ns.length = vs.length → (putNs f ns).zip (putCs f v ns vs) = putF f v (ns.zip vs)
  | [], vs, h => by
    have := List.length_eq_zero_iff.mp h.symm
    subst this
    rfl
  | g :: r, [], h => by simp at h
  | g :: r, c :: cs, h => by
    unfold putNs putCs
    rw [List.zip_cons_cons]
    unfold putF
    by_cases e : g = f
    · subst e
      simp
    · simp [e, put_zip (Nat.succ.inj h)]
section
variable {K : PySem.W.Frag} {Ξ : XI}
theorem RpA.look {F : Hp} {f : Str} : ∀ {ns : List Str} {ds : List D} {vs : List V} {d : D}, RpA K F ds vs → (ns.zip ds).lookup f = some d → ∃ v, (ns.zip vs).lookup f = some v ∧ Rp K F d v
  | [], _, _, _, _, h => by simp at h
  | _ :: _, [], _, _, _, h => by simp at h
  | n :: ns, e :: ds, _, d, r, h => by
    obtain ⟨v, ws, rfl, r1, r2⟩ := r
    rw [List.zip_cons_cons, List.lookup_cons] at h ⊢
    split at h
    · rename_i e1
      have h := Option.some.inj h
      rw [← h]
      exact ⟨v, rfl, r1⟩
    · rename_i e1
      exact RpA.look r2 h
theorem PtsR.look {F H : Hp} {f : Str} : ∀ {ns : List Str} {cs : List S} {vs : List V} {A : List Addr} {d : D}, PtsR K F H cs vs A → (ns.zip cs).lookup f = some (.fr d) → ∃ v, (ns.zip vs).lookup f = some v ∧ Rp K F d v
  | [], _, _, _, _, _, h => by simp at h
  | _ :: _, [], _, _, _, _, h => by simp at h
  | n :: ns, c :: cs, _, _, d, r, h => by
    rw [List.zip_cons_cons, List.lookup_cons] at h
    have rest : ∀ {v : V} {ws : List V} {B : List Addr}, PtsR K F H cs ws B → (match f == n with | true => some c | false => (ns.zip cs).lookup f) = some (.fr d) → (∀ d', c = .fr d' → Rp K F d' v) → ∃ u, (((n :: ns).zip (v :: ws)).lookup f = some u) ∧ Rp K F d u := fun {v ws B} r2 h hc => by
      rw [List.zip_cons_cons, List.lookup_cons]
      split at h
      · rename_i e1
        have h := Option.some.inj h
        rw [e1]
        exact ⟨v, rfl, hc d h⟩
      · rename_i e1
        rw [e1]
        exact PtsR.look r2 h
    cases c with
    | fr e =>
      obtain ⟨v, ws, rfl, r1, r2⟩ := r
      exact rest r2 h fun d' z => by cases z; exact r1
    | hid u =>
      obtain ⟨ws, rfl, r2⟩ := r
      exact rest r2 h fun d' z => by cases z
    | ow b o =>
      obtain ⟨l, ws, A1, A2, rfl, rfl, r0, r1, r2⟩ := r
      exact rest r2 h fun d' z => by cases z
/-- a part, new or changed -/
def PtR (K : PySem.W.Frag) (F H : Hp) : S → V → List Addr → Prop
  | .fr d, v, A => Rp K F d v ∧ A = []
  | .hid u, v, A => v = u ∧ A = []
  | .ow _ o, v, A => ∃ l, v = .ref l ∧ ObjR K F H o l A
theorem ne_in {a l : Addr} {B : List Addr} (h : a ∈ B) (hl : l ∉ B) : a ≠ l := fun z => hl (by rw [← z]; exact h)
theorem PtsR.cons {F H : Hp} {c : S} {cs : List S} {v : V} {vs : List V} {A B : List Addr} (h : PtR K F H c v A) (hd : ∀ a ∈ A, a ∉ B) (r : PtsR K F H cs vs B) : PtsR K F H (c :: cs) (v :: vs) (A ++ B) := by
  cases c with
  | fr d =>
    obtain ⟨h1, rfl⟩ := h
    exact ⟨v, vs, rfl, h1, r⟩
  | hid u =>
    obtain ⟨rfl, rfl⟩ := h
    exact ⟨vs, rfl, r⟩
  | ow b o =>
    obtain ⟨l, rfl, h1⟩ := h
    exact ⟨l, vs, A, B, rfl, rfl, hd, h1, r⟩
theorem PtsR.uncons {F H : Hp} {c : S} {cs : List S} {vs : List V} {A : List Addr} (r : PtsR K F H (c :: cs) vs A) : ∃ v ws A1 A2, vs = v :: ws ∧ A = A1 ++ A2 ∧ (∀ a ∈ A1, a ∉ A2) ∧ PtR K F H c v A1 ∧ PtsR K F H cs ws A2 := by
  cases c with
  | fr d =>
    obtain ⟨v, ws, rfl, h1, h2⟩ := r
    exact ⟨v, ws, [], A, rfl, rfl, fun a h => by simp at h, ⟨h1, rfl⟩, h2⟩
  | hid u =>
    obtain ⟨ws, rfl, h2⟩ := r
    exact ⟨u, ws, [], A, rfl, rfl, fun a h => by simp at h, ⟨rfl, rfl⟩, h2⟩
  | ow b o =>
    obtain ⟨l, ws, A1, A2, rfl, rfl, h1, h2, h3⟩ := r
    exact ⟨_, ws, A1, A2, rfl, rfl, h1, ⟨l, rfl, h2⟩, h3⟩
theorem PtsR.put {F H : Hp} {f : Str} {x : S} {v : V} {A2 : List Addr} (hx : PtR K F H x v A2) : ∀ {ns : List Str} {cs : List S} {vs : List V} {B : List Addr}, ns.length = cs.length → PtsR K F H cs vs B → (∀ a ∈ A2, a ∉ B) →
    ∃ B', PtsR K F H (putCs f x ns cs) (putCs f v ns vs) B' ∧ ∀ a ∈ B', a ∈ B ∨ a ∈ A2
  | [], [], vs, B, _, r, hd => by
    obtain ⟨rfl, rfl⟩ := r
    exact ⟨A2 ++ [], PtsR.cons hx (fun _ _ => by simp) ⟨rfl, rfl⟩, fun a ha => .inr (by simpa using ha)⟩
  | [], c :: cs, _, _, h, _, _ => by simp at h
  | _ :: _, [], _, _, h, _, _ => by simp at h
  | n :: ns, c :: cs, vs, B, h, r, hd => by
    obtain ⟨u, ws, A1, B2, rfl, rfl, h1, h2, h3⟩ := r.uncons
    show ∃ B', PtsR K F H (if n == f then x :: cs else c :: putCs f x ns cs) (if n == f then v :: ws else u :: putCs f v ns ws) B' ∧ _
    by_cases e : (n == f) = true
    · rw [if_pos e, if_pos e]
      exact ⟨A2 ++ B2, PtsR.cons hx (fun a ha z => hd a ha (List.mem_append_right _ z)) h3, fun a ha => (List.mem_append.mp ha).elim .inr fun z => .inl (List.mem_append_right _ z)⟩
    · rw [if_neg e, if_neg e]
      obtain ⟨B', q1, q2⟩ := PtsR.put hx (Nat.succ.inj h) h3 fun a ha z => hd a ha (List.mem_append_right _ z)
      refine ⟨A1 ++ B', PtsR.cons h2 (fun a ha z => ?_) q1, fun a ha => ?_⟩
      · rcases q2 a z with y | y
        · exact h1 a ha y
        · exact hd a y (List.mem_append_left _ ha)
      · rcases List.mem_append.mp ha with y | y
        · exact .inl (List.mem_append_left _ y)
        · exact (q2 a y).imp (fun w => List.mem_append_right _ w) id
theorem PtR.keep {F H H' : Hp} {x : S} {v : V} {A : List Addr} (h : PtR K F H x v A) (e : ∀ a ∈ A, ∀ u, H a = some u → H' a = some u) : PtR K F H' x v A := by
  cases x with
  | fr d => exact h
  | hid u => exact h
  | ow b o =>
    obtain ⟨l, rfl, h1⟩ := h
    exact ⟨l, rfl, h1.heap e⟩
/-- what a result is as a part -/
theorem Rt.part {H0 F H : Hp} {ω : Om} {x : S} {v : V} (r : Rt K H0 F H ω x v) : ∃ A, PtR K F H x v A ∧ ∀ a ∈ A, H0 a = none ∧ ω a = none ∧ F a = none := by
  cases x with
  | fr d => exact ⟨[], ⟨r, rfl⟩, fun a h => by simp at h⟩
  | hid u => exact ⟨[], ⟨r, rfl⟩, fun a h => by simp at h⟩
  | ow b o =>
    obtain ⟨l, A, rfl, h0, h1⟩ := r
    exact ⟨A, ⟨l, rfl, h1⟩, h0⟩
/-! reading a field -/
def gFld (Cs : List Addr) (f : Str) (d : D) (q : D → Prop) : Prop := match d with
  | .obj C ns ds => inC Cs C ∧ match (ns.zip ds).lookup f with
    | some z => q z
    | none => False
  | _ => False
def pFldD (Cs : List Addr) (f : Str) (p : PD) : PX := fun s q => p s fun d s' => gFld Cs f d fun z => q (.fr z) s'
instance {Cs : List Addr} {f : Str} {t : TE} {p : PD} [LiftD K Ξ t p] : LiftE K Ξ (tFldC Cs t f) (pFldD Cs f p) := ⟨fun q T h k => by
  refine LiftD.run (K := K) (t := t) (p := p) _ T h fun x F1 H1 ω1 d s1 p1 T1 r1 h1 => ?_
  unfold gFld at h1
  split at h1
  · rename_i C ns ds
    obtain ⟨hc, h1⟩ := h1
    split at h1
    · rename_i z e
      obtain ⟨a, dx, vs, rfl, h2, h3, h4⟩ := r1
      obtain ⟨v, hv, rv⟩ := h4.look e
      exact ⟨a, C, dx, _, v, rfl, T1.sf _ _ h2, inC_mem hc, hv, k v F1 H1 ω1 (.fr z) s1 p1 T1 rv h1⟩
    · exact h1.elim
  · exact h1.elim⟩
/-- a field of a name's own object, which stays its own -/
def pFldV (Cs : List Addr) (f : Str) (i : Nat) : PX := fun s q => match s[i]? with
  | some (some (.ow _ (.ob C ns cs))) => inC Cs C ∧ match (ns.zip cs).lookup f with
    | some (.fr d) => q (.fr d) s
    | _ => False
  | _ => pFldD Cs f (pDat (pVar i)) s q
instance (priority := high) {Cs : List Addr} {f : Str} {i : Nat} : LiftE K Ξ (tFldC Cs (tVar i) f) (pFldV Cs f i) := ⟨fun {F H ω s σ Q} q T h k => by
  unfold pFldV at h
  split at h
  · rename_i b C ns cs e
    obtain ⟨hc, h⟩ := h
    split at h
    · rename_i d e2
      obtain ⟨v, hv, l, A, rfl, h1, h2, dx, vs, B, rfl, h3, h4, h5, h6⟩ := T.at' i _ e
      obtain ⟨u, hu, r⟩ := h6.look e2
      exact ⟨_, hv, l, C, dx, _, u, rfl, h4, inC_mem hc, hu, k u F H ω (.fr d) s (Stp.refl T.tb) T r h⟩
    · exact h.elim
  · exact LiftE.run (K := K) (t := tFldC Cs (tVar i) f) (p := pFldD Cs f (pDat (pVar i))) q T h k⟩
/-! storing a field -/
def psFld (Cs : List Addr) (f : Str) (i : Nat) (p : PX) : PS1 := fun E s => p s fun x s1 => match s1[i]? with
  | some (some (.ow b (.ob C ns cs))) => inC Cs C ∧ ns.length = cs.length ∧ cs.length < 1000 ∧ E.nx (s1.set i (some (.ow b (.ob C (putNs f ns) (putCs f x ns cs)))))
  | _ => False
/-- a field of a name's own object is set -/
theorem fld_set {F0 H0 F H : Hp} {ω0 ω : Om} {s : Sl} {σ : L2.St} {i : Nat} {b : Bool} {C : Addr} {ns : List Str} {cs : List S} {x : S} {v : V} {f : Str} (p0 : Stp F0 H0 ω0 F H ω) (ex : Exo K Ξ F0 H0 ω0) (T : Sta K Ξ F H ω s σ) (r : Rt K H0 F H ω x v) (e : s[i]? = some (some (.ow b (.ob C ns cs)))) (hl : ns.length = cs.length) :
    ∃ l dx fs, σ[i]? = some (some (.ref l)) ∧ H l = some (.ins C dx fs) ∧ fs.length ≤ cs.length ∧ ∃ ω', Stp F0 H0 ω0 F (upd H l (.ins C dx (putF f v fs))) ω' ∧ Sta K Ξ F (upd H l (.ins C dx (putF f v fs))) ω' (s.set i (some (.ow b (.ob C (putNs f ns) (putCs f x ns cs))))) σ := by
  obtain ⟨v0, hv, l, A, rfl, h1, h2, dx, vs, B, rfl, h3, h4, h5, h6⟩ := T.at' i _ e
  obtain ⟨A2, q1, q2⟩ := r.part
  have hB : ∀ a ∈ B, ω a = some (i, tgP b) := fun a ha => h2 a (List.mem_cons_of_mem _ ha) fun z => h3 (by rw [← z]; exact ha)
  have hd : ∀ a ∈ A2, a ∉ B := fun a ha hb => by
    have z := (q2 a ha).2.1
    rw [hB a hb] at z
    cases z
  have nl : ∀ a ∈ A2, a ≠ l := fun a ha hl => by
    have z := (q2 a ha).2.1
    rw [hl, h1] at z
    cases z
  obtain ⟨B', q3, q4⟩ := PtsR.put (f := f) q1 hl h6 hd
  have hlB : l ∉ B' := fun z => (q4 l z).elim h3 fun y => nl l y rfl
  refine ⟨l, dx, _, hv, h4, by rw [List.length_zip]; have := h6.len; omega, ?_⟩
  have r2 : ObjR K F (upd H l (.ins C dx (putF f v (ns.zip vs)))) (.ob C (putNs f ns) (putCs f x ns cs)) l (l :: B') :=
    ⟨dx, putCs f v ns vs, B', rfl, hlB, by rw [upd_same, put_zip h5], putNs_len h5, q3.heap fun a ha u hu => by rw [upd_ne (ne_in ha hlB)]; exact hu⟩
  obtain ⟨ω', p2, T2⟩ := Sta.chgB (A := l :: B) p0 T.base hv h1 h2 (fun a ha u hu => by rw [upd_ne fun z => ha (by rw [z]; exact List.mem_cons_self)]; exact hu) upd_keep (fun a ha => by
    rcases List.mem_cons.mp ha with z | z
    · exact .inl (by rw [z]; exact List.mem_cons_self)
    · rcases q4 a z with y | y
      · exact .inl (List.mem_cons_of_mem _ y)
      · exact .inr (q2 a y)) List.mem_cons_self r2
  exact ⟨ω', p2, T2, ex.step p2⟩
instance {Cs : List Addr} {f : Str} {i : Nat} {t : TE} {p : PX} [LiftE K Ξ t p] : LiftS K Ξ (sFldC Cs (tVar i) t f) (psFld Cs f i p) := ⟨fun {H0 F H ω s σ D} E T h M => by
  refine LiftE.run (K := K) (t := t) (p := p) _ T h fun v F1 H1 ω1 x s1 p1 T1 r1 h1 => ?_
  split at h1
  · rename_i b C ns cs e
    obtain ⟨hc, hl, hn, h1⟩ := h1
    obtain ⟨l, dx, fs, hv, h2, h3, ω', p2, T2⟩ := fld_set (f := f) p1 T.ex T1 r1 e hl
    exact ⟨_, hv, l, C, dx, fs, rfl, h2, inC_mem hc, by omega, M.nx p2 T2 h1⟩
  · exact h1.elim⟩
/-- self.f op= e, ints -/
def psFldAug (Cs : List Addr) (f : Str) (i : Nat) (g : Int → Int → Int) (p : PD) : PS1 := fun E s => match s[i]? with
  | some (some (.ow _ (.ob C ns cs))) => inC Cs C ∧ match (ns.zip cs).lookup f with
    | some (.fr (.int a)) => p s fun d s1 => match d, s1[i]? with
      | .int c, some (some (.ow b (.ob C' ns' cs'))) => C' = C ∧ ns'.length = cs'.length ∧ cs'.length < 1000 ∧ E.nx (s1.set i (some (.ow b (.ob C' (putNs f ns') (putCs f (.fr (.int (g a c))) ns' cs')))))
      | _, _ => False
    | _ => False
  | _ => False
instance {Cs : List Addr} {f : Str} {i : Nat} {g : Int → Int → Int} {t : TE} {p : PD} [LiftD K Ξ t p] : LiftS K Ξ (sFldAugC Cs (tVar i) t (rI0 fun a c => .int (g a c)) f) (psFldAug Cs f i g p) := ⟨fun {H0 F H ω s σ D} E T h M => by
  unfold psFldAug at h
  split at h
  · rename_i b C ns cs e
    obtain ⟨hc, h⟩ := h
    split at h
    · rename_i a e2
      obtain ⟨v, hv, l, A, rfl, h1, h2, dx, vs, B, rfl, h3, h4, h5, h6⟩ := T.at' i _ e
      obtain ⟨u, hu, r⟩ := h6.look e2
      cases (show u = _ from r)
      refine ⟨_, hv, l, C, dx, _, _, rfl, h4, inC_mem hc, hu, ?_⟩
      refine LiftD.run (K := K) (t := t) (p := p) _ T h fun w F1 H1 ω1 d s1 p1 T1 r1 hh => ?_
      split at hh
      · rename_i c b' C' ns' cs' e1
        obtain ⟨rfl, hl, hn, hh⟩ := hh
        cases (show w = _ from r1)
        refine ⟨a, c, rfl, rfl, ?_⟩
        obtain ⟨l', dx', fs', hv', z2, z3, ω', p2, T2⟩ := fld_set (f := f) (x := .fr (.int (g a c))) (v := .int (g a c)) p1 T.ex T1 rfl e1 hl
        rw [hv] at hv'
        cases hv'
        exact ⟨dx', fs', z2, by omega, M.nx p2 T2 hh⟩
      · exact hh.elim
    · exact h.elim
  · exact h.elim⟩
end
section
variable {K : PySem.W.Frag} {Ξ : XI}
instance {Cs : List Addr} {f : Str} {i : Nat} {t : TE} {p : PD} [LiftD K Ξ t p] : LiftS K Ξ (sFldAugC Cs (tVar i) t rAdd f) (psFldAug Cs f i (· + ·) p) :=
  ⟨fun E T h M => LiftS.run (K := K) (Ξ := Ξ) (t := sFldAugC Cs (tVar i) t (rI0 fun a c => .int (a + c)) f) (p := psFldAug Cs f i (· + ·) p) E T h M⟩
instance {Cs : List Addr} {f : Str} {i : Nat} {t : TE} {p : PD} [LiftD K Ξ t p] : LiftS K Ξ (sFldAugC Cs (tVar i) t rSub f) (psFldAug Cs f i (· - ·) p) :=
  ⟨fun E T h M => LiftS.run (K := K) (Ξ := Ξ) (t := sFldAugC Cs (tVar i) t (rI0 fun a c => .int (a - c)) f) (p := psFldAug Cs f i (· - ·) p) E T h M⟩
/-! ### methods -/
/-- the receiver: a name's own object is lent, or data is shown; what follows -/
def recObj (C : Addr) (m : Str) (d : D) (s : Sl) (q : Ar → Sl → Prop) : Prop := match d with
  | .obj C' ns ds => C' = C ∧ ns.contains m = false ∧ q (.v (.obj C' ns ds)) s
  | _ => False
def recV (C : Addr) (m : Str) (i : Nat) (s : Sl) (q : Ar → Sl → Prop) : Prop := match s[i]? with
  | some (some (.ow _ (.ob C' ns _))) => C' = C ∧ ns.contains m = false ∧ q (.b i) s
  | _ => pDat (pVar i) s fun d s1 => recObj C m d s1 q
def recD (C : Addr) (m : Str) (p : PD) (s : Sl) (q : Ar → Sl → Prop) : Prop := p s fun d s1 => recObj C m d s1 q
theorem ArR.consV {F : Hp} {σ : L2.St} {d : D} {v : V} {as : List Ar} {vs : List V} (h : Rp K F d v) (r : ArR K F σ as vs) : ArR K F σ (.v d :: as) (v :: vs) := ⟨v, vs, rfl, h, r⟩
theorem ArR.consB {F : Hp} {σ : L2.St} {i : Nat} {v : V} {as : List Ar} {vs : List V} (h : σ[i]? = some (some v)) (r : ArR K F σ as vs) : ArR K F σ (.b i :: as) (v :: vs) := ⟨v, vs, rfl, h, r⟩
/-- a receiver's value -/
structure RecR (K : PySem.W.Frag) (F H : Hp) (σ : L2.St) (C : Addr) (m : Str) (a : Ar) (x : V) : Prop where
  ins : ∃ l dx fs, x = .ref l ∧ H l = some (.ins C dx fs) ∧ fs.lookup m = none
  ar : ∀ {F' : Hp} {as : List Ar} {vs : List V}, Same F F' → ArR K F' σ as vs → ArR K F' σ (a :: as) (x :: vs)
class LiftM (K : PySem.W.Frag) (Ξ : XI) (C : Addr) (m : Str) (t : TE) (p : outParam (Sl → (Ar → Sl → Prop) → Prop)) : Prop where
  run : ∀ {F H : Hp} {ω : Om} {s : Sl} {σ : L2.St} {Q : VK} (q : Ar → Sl → Prop), Sta K Ξ F H ω s σ → p s q →
    (∀ v F' H' ω' a s', Stp F H ω F' H' ω' → Sta K Ξ F' H' ω' s' σ → RecR K F' H' σ C m a v → q a s' → Q v H') → t σ H Q
theorem recD_run {F H : Hp} {ω : Om} {s : Sl} {σ : L2.St} {C : Addr} {m : Str} {d : D} {v : V} {q : Ar → Sl → Prop} (T : Sta K Ξ F H ω s σ) (r : Rp K F d v) (h : recObj C m d s q) : ∃ a, RecR K F H σ C m a v ∧ q a s := by
  unfold recObj at h
  split at h
  · obtain ⟨rfl, hm, h⟩ := h
    have r0 := r
    obtain ⟨l, dx, vs, rfl, h1, h2, h3⟩ := r
    exact ⟨_, ⟨⟨l, dx, _, rfl, T.sf _ _ h1, lookN hm⟩, fun e z => ArR.consV (r0.mono e) z⟩, h⟩
  · exact h.elim
instance {C : Addr} {m : Str} {t : TE} {p : PD} [LiftD K Ξ t p] : LiftM K Ξ C m t (recD C m p) := ⟨fun q T h k => by
  refine LiftD.run (K := K) (t := t) (p := p) _ T h fun v F1 H1 ω1 d s1 p1 T1 r1 h1 => ?_
  obtain ⟨a, ra, hq⟩ := recD_run T1 r1 h1
  exact k v F1 H1 ω1 a s1 p1 T1 ra hq⟩
instance (priority := high) {C : Addr} {m : Str} {i : Nat} : LiftM K Ξ C m (tVar i) (recV C m i) := ⟨fun {F H ω s σ Q} q T h k => by
  unfold recV at h
  split at h
  · rename_i b C' ns cs e
    obtain ⟨rfl, hm, h⟩ := h
    obtain ⟨v, hv, l, A, rfl, h1, h2, dx, vs, B, rfl, h3, h4, h5, h6⟩ := T.at' i _ e
    exact ⟨_, hv, k _ F H ω (.b i) s (Stp.refl T.tb) T ⟨⟨l, dx, _, rfl, h4, lookN hm⟩, fun _ z => ArR.consB hv z⟩ h⟩
  · refine LiftD.run (K := K) (t := tVar i) (p := pDat (pVar i)) _ T h fun v F1 H1 ω1 d s1 p1 T1 r1 h1 => ?_
    obtain ⟨a, ra, hq⟩ := recD_run T1 r1 h1
    exact k v F1 H1 ω1 a s1 p1 T1 ra hq⟩
def pMeth (ps : Psp) (pm : Sl → (Ar → Sl → Prop) → Prop) (pa : PR1) : PX := fun s q => pm s fun a s1 => pa s1 fun as s2 => callTo ps (a :: as) q s2
def pMethX (e : Xc → Sl → Prop) (ps : PspX) (pm : Sl → (Ar → Sl → Prop) → Prop) (pa : PR1) : PX := fun s q => pm s fun a s1 => pa s1 fun as s2 => callToX ps e (a :: as) q s2
instance {ps : Psp} {C : Addr} {m : Str} {E : XK} {ta : TE} {t : TA} {pm : Sl → (Ar → Sl → Prop) → Prop} {pa : PR1} [LiftM K Ξ C m ta pm] [LiftR K Ξ t pa] : LiftE K Ξ (tMeth C m (Lsp K ps) [] E ta t) (pMeth ps pm pa) := ⟨fun {F H ω s σ Q} q T h k => by
  refine LiftM.run (K := K) (C := C) (m := m) (t := ta) (p := pm) _ T h fun v F1 H1 ω1 a s1 p1 T1 r1 h1 => ?_
  obtain ⟨l, dx, fs, rfl, e1, e2⟩ := r1.ins
  refine ⟨l, dx, fs, rfl, e1, e2, ?_⟩
  refine LiftR.run (K := K) (t := t) (p := pa) _ T1 h1 fun vs F2 H2 ω2 as s2 p2 T2 r2 h2 => ?_
  rw [List.append_nil]
  exact callTo_run T2 (r1.ar p2.sf r2) h2 fun v F3 H3 ω3 x s3 p3 T3 r3 hq => k v F3 H3 ω3 x s3 ((p1.trans p2).trans p3) T3 (r3.early (p1.trans p2).tr) hq⟩
instance {ps : PspX} {C : Addr} {m : Str} {W : WX} {e : Xc → Sl → Prop} {ta : TE} {t : TA} {pm : Sl → (Ar → Sl → Prop) → Prop} {pa : PR1} [LiftM K ⟨W, e⟩ C m ta pm] [LiftR K ⟨W, e⟩ t pa] : LiftE K ⟨W, e⟩ (tMethW W C m (LspX K ps) ta t) (pMethX e ps pm pa) := ⟨fun {F H ω s σ Q} q T h k => by
  refine LiftM.run (K := K) (C := C) (m := m) (t := ta) (p := pm) _ T h fun v F1 H1 ω1 a s1 p1 T1 r1 h1 => ?_
  obtain ⟨l, dx, fs, rfl, e1, e2⟩ := r1.ins
  refine ⟨l, dx, fs, rfl, e1, e2, ?_⟩
  refine LiftR.run (K := K) (t := t) (p := pa) _ T1 h1 fun vs F2 H2 ω2 as s2 p2 T2 r2 h2 => ?_
  exact callToX_run T2 (r1.ar p2.sf r2) h2 fun v F3 H3 ω3 x s3 p3 T3 r3 hq => k v F3 H3 ω3 x s3 ((p1.trans p2).trans p3) T3 (r3.early (p1.trans p2).tr) hq⟩
instance {ps : PspX} {C : Addr} {m : Str} {E : XK} {e : Xc → Sl → Prop} {ta : TE} {t : TA} {pm : Sl → (Ar → Sl → Prop) → Prop} {pa : PR1} [LiftM K ⟨WK E, e⟩ C m ta pm] [LiftR K ⟨WK E, e⟩ t pa] : LiftE K ⟨WK E, e⟩ (tMethE E C m (LspX K ps) ta t) (pMethX e ps pm pa) := ⟨fun {F H ω s σ Q} q T h k => by
  refine LiftM.run (K := K) (C := C) (m := m) (t := ta) (p := pm) _ T h fun v F1 H1 ω1 a s1 p1 T1 r1 h1 => ?_
  obtain ⟨l, dx, fs, rfl, e1, e2⟩ := r1.ins
  refine ⟨l, dx, fs, rfl, e1, e2, ?_⟩
  refine LiftR.run (K := K) (t := t) (p := pa) _ T1 h1 fun vs F2 H2 ω2 as s2 p2 T2 r2 h2 => ?_
  rw [List.append_nil]
  exact callToX_run T2 (r1.ar p2.sf r2) h2 fun v F3 H3 ω3 x s3 p3 T3 r3 hq => k v F3 H3 ω3 x s3 ((p1.trans p2).trans p3) T3 (r3.early (p1.trans p2).tr) hq⟩
/-- one of two readings -/
def pAlt (p q : PX) : PX := fun s k => p s k ∨ q s k
instance {t u : TE} {p q : PX} [LiftE K Ξ t p] [LiftE K Ξ u q] : LiftE K Ξ (tAlt t u) (pAlt p q) := ⟨fun kk T h k => h.elim
  (fun h => .inl (LiftE.run (K := K) (t := t) (p := p) kk T h k)) (fun h => .inr (LiftE.run (K := K) (t := u) (p := q) kk T h k))⟩
/-! ### C(..) -/
theorem get_snoc {α : Type} {xs : List α} {z : α} {i : Nat} {x : α} (h : xs[i]? = some x) : (xs ++ [z])[i]? = some x := by
  rw [List.getElem?_append_left (List.getElem?_eq_some_iff.mp h).1]
  exact h
theorem getA_snoc {s : Sl} {z : Option S} : ∀ {as : List Ar} {xs : List S}, getA as s = some xs → getA as (s ++ [z]) = some xs ∧ as.any (Ar.isB s.length) = false
  | [], xs, h => ⟨h, rfl⟩
  | .v d :: as, xs, h => by
    unfold getA at h ⊢
    cases e : getA as s with
    | none => rw [e] at h; cases h
    | some ys =>
      rw [e] at h
      obtain ⟨h1, h2⟩ := getA_snoc (z := z) e
      exact ⟨by rw [h1]; exact h, by rw [List.any_cons, h2]; rfl⟩
  | .b i :: as, xs, h => by
    unfold getA at h ⊢
    split at h
    · rename_i b o e0
      rw [get_snoc e0]
      split at h
      · cases h
      · rename_i hn
        cases e : getA as s with
        | none => rw [e] at h; cases h
        | some ys =>
          rw [e] at h
          obtain ⟨h1, h2⟩ := getA_snoc (z := z) e
          refine ⟨by simp only [hn, h1]; exact h, ?_⟩
          have : s.length ≠ i := fun z => by
            rw [← z] at e0
            simp at e0
          rw [List.any_cons, h2]
          simp [Ar.isB, this]
    · cases h
  | .w i :: as, xs, h => by
    unfold getA at h ⊢
    split at h
    · rename_i b ds e0
      rw [get_snoc e0]
      cases e : getA as s with
      | none => rw [e] at h; cases h
      | some ys =>
        rw [e] at h
        obtain ⟨h1, h2⟩ := getA_snoc (z := z) e
        exact ⟨by simp only [h1]; exact h, by rw [List.any_cons, h2]; rfl⟩
    · cases h
theorem putA_len : ∀ (as : List Ar) (os : List O) (s : Sl), (putA as os s).length = s.length
  | [], _, _ => rfl
  | .v _ :: as, os, s => putA_len as os s
  | .w _ :: as, os, s => putA_len as os s
  | .b _ :: _, [], _ => rfl
  | .b i :: as, o :: os, s => by
    show (setO i o (putA as os s)).length = _
    unfold setO
    split
    · rw [List.length_set]; exact putA_len as os s
    · exact putA_len as os s
theorem putA_snoc {z : Option S} : ∀ {as : List Ar} {os : List O} {s : Sl}, as.any (Ar.isB s.length) = false → putA as os (s ++ [z]) = putA as os s ++ [z]
  | [], _, _, _ => rfl
  | .v _ :: as, os, s, h => putA_snoc (as := as) (by simpa [Ar.isB] using h)
  | .w _ :: as, os, s, h => putA_snoc (as := as) (by simpa [Ar.isB] using h)
  | .b _ :: _, [], _, _ => rfl
  | .b i :: as, o :: os, s, h => by
    rw [List.any_cons, Bool.or_eq_false_iff] at h
    have hi : s.length ≠ i := fun z => by
      rw [z] at h
      simp [Ar.isB] at h
    show setO i o (putA as os (s ++ [z])) = setO i o (putA as os s) ++ [z]
    rw [putA_snoc h.2]
    unfold setO
    have hl := putA_len as os s
    by_cases hlt : i < s.length
    · rw [List.getElem?_append_left (by omega)]
      cases (putA as os s)[i]? with
      | none => rfl
      | some w =>
        cases w with
        | none => rfl
        | some w =>
          cases w with
          | ow c o' => exact List.set_append_left _ _ (by omega)
          | fr _ => rfl
          | hid _ => rfl
    · have h1 : (putA as os s)[i]? = none := by rw [List.getElem?_eq_none]; omega
      have h2 : (putA as os s ++ [z])[i]? = none := by rw [List.getElem?_eq_none]; rw [List.length_append]; simp; omega
      rw [h1, h2]
theorem ArR.snoc {F : Hp} {σ : L2.St} {z : Option V} : ∀ {as : List Ar} {vs : List V}, ArR K F σ as vs → ArR K F (σ ++ [z]) as vs
  | [], _, h => h
  | .v _ :: _, _, h => let ⟨v, ws, e1, h1, h2⟩ := h; ⟨v, ws, e1, h1, ArR.snoc h2⟩
  | .b _ :: _, _, h => let ⟨v, ws, e1, h1, h2⟩ := h; ⟨v, ws, e1, get_snoc h1, ArR.snoc h2⟩
  | .w _ :: _, _, h => let ⟨v, ws, e1, h1, h2⟩ := h; ⟨v, ws, e1, get_snoc h1, ArR.snoc h2⟩
/-- a new object in a slot of its own behind the names -/
theorem Sta.snocO {F H H2 : Hp} {ω : Om} {s : Sl} {σ : L2.St} {x : Addr} {o : O} (T : Sta0 K F H ω s σ) (e : Ext F H F H2) (hx : H x = none) (ho : ObjR K F H2 o x [x]) :
    Stp F H ω F H2 (omOn ω [x] (s.length, .o)) ∧ Sta0 K F H2 (omOn ω [x] (s.length, .o)) (s ++ [some (.ow false o)]) (σ ++ [some (.ref x)]) := by
  obtain ⟨p1, T1⟩ := e.stp0 T
  have hω := Sta.free T hx
  have hone : ∀ a ∈ [x], H a = none ∧ ω a = none := fun a ha => by
    cases List.mem_singleton.mp ha
    exact ⟨hx, hω⟩
  have p2 := p1.on (i := s.length) hone
  refine ⟨p2, p2.tb, T1.sf, fun c q hq => ?_, fun j y hy => ?_, by rw [List.length_append, List.length_append, T1.len]; rfl, fun b j c h => ?_⟩
  · by_cases hc : c ∈ [x]
    · cases List.mem_singleton.mp hc
      exact ⟨T.sf.free hx, ho.root.2⟩
    · rw [omOn_out hc] at hq
      exact T1.ow c q hq
  · by_cases hj : j < s.length
    · rw [List.getElem?_append_left hj] at hy
      obtain ⟨v, h4, h5⟩ := T1.at' j y hy
      refine ⟨v, get_snoc h4, h5.om fun b c hb => ?_⟩
      rw [omOn_out fun z => by rw [(hone b z).2] at hb; cases hb]
      exact hb
    · rw [List.getElem?_append_right (Nat.not_lt.mp hj)] at hy
      by_cases hj2 : j - s.length = 0
      · rw [hj2] at hy
        cases hy
        have ej : j = s.length := by omega
        subst ej
        refine ⟨.ref x, by rw [T1.len]; simp, all_own (fun a ha => omOn_in ha) ho⟩
      · obtain ⟨k, hk⟩ := Nat.exists_eq_succ_of_ne_zero hj2
        rw [hk] at hy
        simp at hy
  · rw [List.length_append]
    by_cases hb : b ∈ [x]
    · rw [omOn_in hb] at h
      cases h
      simp
    · rw [omOn_out hb] at h
      have := T1.ix b j c h
      omega
/-- one owner is forgotten -/
def omCut (ω : Om) (n : Nat) : Om := fun a => match ω a with
  | some (j, c) => if j = n then none else some (j, c)
  | none => none
theorem omCut_some {ω : Om} {n : Nat} {a : Addr} {j : Nat} {c : Tg} (h : omCut ω n a = some (j, c)) : ω a = some (j, c) ∧ j ≠ n := by
  unfold omCut at h
  split at h
  · split at h
    · cases h
    · rename_i e hn
      cases h
      exact ⟨e, hn⟩
  · cases h
theorem omCut_ne {ω : Om} {n : Nat} {a : Addr} {j : Nat} {c : Tg} (h : ω a = some (j, c)) (hn : j ≠ n) : omCut ω n a = some (j, c) := by
  unfold omCut
  rw [h]
  exact if_neg hn
theorem omCut_at {ω : Om} {n : Nat} {a : Addr} {c : Tg} (h : ω a = some (n, c)) : omCut ω n a = none := by
  unfold omCut
  rw [h]
  exact if_pos rfl
theorem omCut_none {ω : Om} {n : Nat} {a : Addr} (h : ω a = none) : omCut ω n a = none := by
  unfold omCut
  rw [h]
/-- .. it is taken from there -/
theorem Sta.off {F H F2 H2 : Hp} {ω ω2 : Om} {s2 : Sl} {σ : L2.St} {z : Option S} {y : Option V} {B : Nat} (T : Sta0 K F2 H2 ω2 (s2 ++ [z]) (σ ++ [y])) (hix : ∀ a j c, ω a = some (j, c) → j ≠ B) (hB : s2.length = B := by first | rfl | exact putA_len _ _ _) :
    Sta0 K F2 H2 (omCut ω2 B) s2 σ ∧ (Stp F H ω F2 H2 ω2 → Stp F H ω F2 H2 (omCut ω2 B)) := by
  subst hB
  have hl : s2.length = σ.length := by simpa using T.len
  have htb : AllT F2 H2 (omCut ω2 s2.length) := T.tb.go (Same.refl F2) (fun _ _ _ _ h => h) (fun b o _ h _ => omCut_none h) fun _ _ _ _ _ h => h
  refine ⟨⟨htb, T.sf, fun b p h => T.ow b p (omCut_some (j := p.1) (c := p.2) h).1, fun i x h => ?_, hl, fun b j c h => ?_⟩, fun p => ⟨p.tb0, htb, p.th, p.sf, p.fr, fun b o q1 q2 => omCut_none (p.om b o q1 q2), p.fn, p.tr, fun b j => ⟨fun h => (p.bk b j).mp (omCut_some h).1, fun h => ?_⟩, fun b j o q0 q => ?_, fun b j h => p.kb b j (omCut_some h).1⟩⟩
  · have hi := (List.getElem?_eq_some_iff.mp h).1
    obtain ⟨v, h1, h2⟩ := T.at' i x (get_snoc h)
    refine ⟨v, ?_, h2.om fun b c hb => omCut_ne hb (by omega)⟩
    rw [List.getElem?_append_left (by rw [← hl]; exact hi)] at h1
    exact h1
  · obtain ⟨h1, h2⟩ := omCut_some h
    have := T.ix b j c h1
    rw [List.length_append] at this
    simp at this
    omega
  · have h' := (p.bk b j).mpr h
    exact omCut_ne h' (hix b j _ h)
  · rcases p.bp b j o q0 q with z | z
    · by_cases hj : j = s2.length
      · rw [hj] at z
        exact .inr (omCut_at z)
      · exact .inl (omCut_ne z hj)
    · exact .inr (omCut_none z)
def pMakeTo (C : Addr) (ps : PspX) (e : Xc → Sl → Prop) (as : List Ar) (q : S → Sl → Prop) (s1 : Sl) : Prop := match getA as s1 with
  | some xs => if xs.length + 1 = ps.n then (if as.any Ar.isW = true then False else ps.run (.ow true (.ob C [] []) :: xs) (fun r os => match r, os with
    | .fr .non, o :: os' => q (.ow false o) (putA as os' s1)
    | _, _ => False) fun x os => match os with
    | _ :: os' => e x (putA as os' s1)
    | [] => False) else False
  | none => False
theorem mk_ext {F H : Hp} {x dx C : Addr} (h : Same F H) (hx : H x = none) (hd : H dx = none) (hn : dx ≠ x) : Ext F H F (upd (upd H dx (.own x)) x (.ins C dx [])) :=
  (Ext.ow h hd (.own x)).trans (Ext.ow (h.trans (same_upd hd)) (by rw [upd_ne (Ne.symm hn)]; exact hx) (.ins C dx []))
theorem make_run {C : Addr} {ps : PspX} {e : Xc → Sl → Prop} {E : XK} {as : List Ar} {vs : List V} {F H : Hp} {ω : Om} {s : Sl} {σ : L2.St} {Q : VK} {q : S → Sl → Prop} (T : Sta K Ξ F H ω s σ) (r : ArR K F σ as vs) (h : pMakeTo C ps e as q s)
    (k : ∀ v F' H' ω' x s', Stp F H ω F' H' ω' → Sta K Ξ F' H' ω' s' σ → Rt K H F' H' ω' x v → q x s' → Q v H')
    (kx : ∀ x d F' H' ω' s', Stp F H ω F' H' ω' → Sta0 K F' H' ω' s' σ → XdR K F' x d → e x s' → E (.ref x.C) d H') {x dx : Addr} (hx : H x = none) (hd : H dx = none) (hn : dx ≠ x) :
    LspX K ps (.ref x :: vs) (upd (upd H dx (.own x)) x (.ins C dx [])) (fun v H2 => v = .non ∧ Q (.ref x) H2) E := by
  unfold pMakeTo at h
  split at h
  · rename_i xs eg
    split at h
    rotate_left
    · exact h.elim
    rename_i hl
    split at h
    · exact h.elim
    rename_i hW
    have hob : ObjR K F (upd (upd H dx (.own x)) x (.ins C dx [])) (.ob C [] []) x [x] := ⟨dx, [], [], rfl, by simp, by rw [upd_same]; rfl, rfl, rfl, rfl⟩
    obtain ⟨p1, T1⟩ := Sta.snocO T.base (mk_ext T.sf hx hd hn) hx hob
    obtain ⟨g1, g2⟩ := getA_snoc (z := some (.ow false (.ob C [] []))) eg
    have hg : getA (.b s.length :: as) (s ++ [some (.ow false (.ob C [] []))]) = some (.ow true (.ob C [] []) :: xs) := by
      unfold getA
      rw [show (s ++ [some (S.ow false (.ob C [] []))])[s.length]? = some (some (.ow false (.ob C [] []))) by simp]
      simp only [g2, g1]
      rfl
    have hr : ArR K F (σ ++ [some (.ref x)]) (.b s.length :: as) (.ref x :: vs) := ⟨_, _, rfl, by rw [T.len]; simp, r.snoc⟩
    have hput : ∀ o os', putA (.b s.length :: as) (o :: os') (s ++ [some (.ow false (.ob C [] []))]) = putA as os' s ++ [some (.ow false o)] := fun o os' => by
      show setO s.length o (putA as os' (s ++ [some (.ow false (.ob C [] []))])) = _
      rw [putA_snoc g2]
      unfold setO
      rw [show (putA as os' s ++ [some (S.ow false (.ob C [] []))])[s.length]? = some (some (.ow false (.ob C [] []))) by rw [← putA_len as os' s]; simp]
      show (putA as os' s ++ [some (S.ow false (.ob C [] []))]).set s.length (some (.ow false o)) = _
      rw [List.set_append_right _ _ (by rw [putA_len]; exact Nat.le_refl _)]
      rw [putA_len, Nat.sub_self]
      rfl
    have hω := Sta.free T.base hx
    have new : ∀ {ω' : Om}, Inh (omOn ω [x] (s.length, .o)) (upd (upd H dx (.own x)) x (.ins C dx [])) ω' → ∀ a c, ω' a = some (s.length, c) → H a = none := fun {ω'} hin a c ha => by
      rcases hin a _ _ ha with ⟨c', z⟩ | z
      · by_cases hc : a ∈ [x]
        · cases List.mem_singleton.mp hc
          exact hx
        · rw [omOn_out hc] at z
          exact absurd (T.ix _ _ _ z) (Nat.lt_irrefl _)
      · by_cases h1 : a = x
        · rw [h1]; exact hx
        · rw [upd_ne h1] at z
          by_cases h2 : a = dx
          · rw [h2]; exact hd
          · rw [upd_ne h2] at z
            exact z
    refine lsp_callO (as := .b s.length :: as) T1 (by simpa [Ar.isW] using hW) hr hg hl h (fun v F2 H2 ω2 r os p2 T2 hin R hq => ?_) fun x d F2 H2 ω2 os p2 T2 hin R hq => ?_
    · split at hq
      · rename_i o os'
        cases (show v = _ from R)
        rw [hput] at T2
        refine ⟨rfl, ?_⟩
        obtain ⟨w, hw, hr⟩ := T2.at' s.length (.ow false o) (by rw [List.getElem?_append_right (by rw [putA_len]; exact Nat.le_refl _), putA_len, Nat.sub_self]; rfl)
        rw [T.len, List.getElem?_append_right (Nat.le_refl _), Nat.sub_self] at hw
        cases hw
        obtain ⟨l, A, e1, hA, ho⟩ := own_all hr
        cases e1
        have hnew : ∀ a ∈ A, H a = none := fun a ha => new hin a _ (hA a ha)
        -- its addresses are let go
        obtain ⟨T3, p3⟩ := Sta.off (H := H) (F := F) (ω := ω) (B := s.length) T2 (fun a j c ha => Nat.ne_of_lt (T.ix a j c ha)) (putA_len _ _ _)
        have pp := (p1.trans p2)
        have p4 : Stp F H ω F2 H2 (omCut ω2 s.length) := p3 pp
        refine k _ F2 H2 _ (.ow false o) _ p4 ⟨T3, T.ex.step p4⟩ ⟨x, A, rfl, fun a ha => ⟨hnew a ha, omCut_at (hA a ha), (T2.ow a _ (hA a ha)).1⟩, ho⟩ hq
      · exact hq.elim
    · cases os with
      | nil => exact hq.elim
      | cons o os' =>
        rw [hput] at T2
        obtain ⟨T3, p3⟩ := Sta.off (H := H) (F := F) (ω := ω) (B := s.length) T2 (fun a j c ha => Nat.ne_of_lt (T.ix a j c ha)) (putA_len _ _ _)
        exact kx x d F2 H2 _ _ (p3 (p1.trans p2)) T3 R hq
  · exact h.elim
def pMake (C : Addr) (ps : Psp) (pa : PR1) : PX := fun s q => pa s fun as s1 => pMakeTo C ps.X (fun _ _ => False) as q s1
def pMakeX (e : Xc → Sl → Prop) (C : Addr) (ps : PspX) (pa : PR1) : PX := fun s q => pa s fun as s1 => pMakeTo C ps e as q s1
instance {ps : Psp} {C : Addr} {E : XK} {t : TA} {pa : PR1} [LiftR K Ξ t pa] : LiftE K Ξ (tMake C (Lsp K ps) [] E t) (pMake C ps pa) := ⟨fun {F H ω s σ Q} q T h k => by
  refine LiftR.run (K := K) (t := t) (p := pa) _ T h fun vs F1 H1 ω1 as s1 p1 T1 r1 h1 => ?_
  intro x dx hx hd hn
  rw [List.append_nil]
  exact make_run (e := fun _ _ => False) T1 r1 h1 (fun v F2 H2 ω2 x s2 p2 T2 r2 hq => k v F2 H2 ω2 x s2 (p1.trans p2) T2 (r2.early p1.tr) hq) (fun _ _ _ _ _ _ _ _ _ z => z.elim) hx hd hn⟩
instance {ps : PspX} {C : Addr} {W : WX} {e : Xc → Sl → Prop} {t : TA} {pa : PR1} [LiftR K ⟨W, e⟩ t pa] : LiftE K ⟨W, e⟩ (tMakeW W C (LspX K ps) t) (pMakeX e C ps pa) := ⟨fun {F H ω s σ Q} q T h k => by
  refine LiftR.run (K := K) (t := t) (p := pa) _ T h fun vs F1 H1 ω1 as s1 p1 T1 r1 h1 => ?_
  intro x dx hx hd hn
  exact make_run (e := e) T1 r1 h1 (fun v F2 H2 ω2 x s2 p2 T2 r2 hq => k v F2 H2 ω2 x s2 (p1.trans p2) T2 (r2.early p1.tr) hq) (fun x d F2 H2 ω2 s2 p2 T2 r2 he => T1.ex p2 T2 r2 he) hx hd hn⟩
instance {ps : PspX} {C : Addr} {E : XK} {e : Xc → Sl → Prop} {t : TA} {pa : PR1} [LiftR K ⟨WK E, e⟩ t pa] : LiftE K ⟨WK E, e⟩ (tMakeE E C (LspX K ps) t) (pMakeX e C ps pa) := ⟨fun {F H ω s σ Q} q T h k => by
  refine LiftR.run (K := K) (t := t) (p := pa) _ T h fun vs F1 H1 ω1 as s1 p1 T1 r1 h1 => ?_
  intro x dx hx hd hn
  rw [List.append_nil]
  exact make_run (e := e) T1 r1 h1 (fun v F2 H2 ω2 x s2 p2 T2 r2 hq => k v F2 H2 ω2 x s2 (p1.trans p2) T2 (r2.early p1.tr) hq) (fun x d F2 H2 ω2 s2 p2 T2 r2 he => T1.ex p2 T2 r2 he) hx hd hn⟩
end
/-! ### several except clauses, with and without a name -/
/-- one clause: the class it names, the slot of its name, its suite -/
structure Cl where
  c : Value
  i : Option Nat
  ts : Addr → Value → Option Addr → TS
/-- the ends of a suite whose name goes at the end -/
def endsN (i : Nat) (D : Ends) : Ends := { nx := fun σ H => D.nx (σ.set i none) H, rt := D.rt, bk := fun σ H => D.bk (σ.set i none) H, ct := fun σ H => D.ct (σ.set i none) H }
def Cl.run (k : Cl) (a : Addr) (cls : Value) (d : Option Addr) (D : Ends) (σ : L2.St) (H : Hp) : Prop := match k.i with
  | none => k.ts a cls d D σ H
  | some i => k.ts a cls d (endsN i D) (σ.set i (some (.ref a))) H
/-- what the clauses wish of an exception of the body -/
def wMix (K : PySem.W.Frag) (Wout : WX) (D : Ends) : List Cl → WX
  | [] => Wout
  | k :: r => fun cls d σ H => ∃ b, PySem.W.exmOne K cls k.c = some b ∧ (b = true → ∀ a, H a = none → k.run a cls d D σ H) ∧ (b = false → wMix K Wout D r cls d σ H)
/-- a suite as a term, wherever the exception stands -/
def SuOk (X : Cx) (b₀ : Stmt) (suite : List Stmt) (ts : Addr → Value → Option Addr → TS) : Prop :=
  ∀ (a : Addr) (oe : Obj) (cls : Value) (d : Option Addr) (pn : List (Addr × Obj)), Zc cls d oe → (∃ vs, oe.data = .fields vs) → PSs (X.suite a ((a, oe) :: pn)) (b₀ :: suite) (ts a cls d)
inductive ClsOk (X : Cx) : List ExceptHandler → List Cl → Prop
  | nil : ClsOk X [] []
  | cons {x : Str} {c : Value} {ts : Addr → Value → Option Addr → TS} {b₀ : Stmt} {suite : List Stmt} {np pos' : Pos} {hds : List ExceptHandler} {l : List Cl} (hc : Names X x c) (hsu : SuOk X b₀ suite ts) (r : ClsOk X hds l) :
      ClsOk X (.ExceptHandler (some (.Name x np)) none (b₀ :: suite) pos' :: hds) (⟨c, none, ts⟩ :: l)
  | consN {x n : Str} {i : Nat} {c : Value} {ts : Addr → Value → Option Addr → TS} {b₀ : Stmt} {suite : List Stmt} {np pos' : Pos} {hds : List ExceptHandler} {l : List Cl} (hi : X.N[i]? = some n) (hln : X.env.kindOf n = some .local) (hc : Names X x c) (hsu : SuOk X b₀ suite ts) (r : ClsOk X hds l) :
      ClsOk X (.ExceptHandler (some (.Name x np)) (some n) (b₀ :: suite) pos' :: hds) (⟨c, some i, ts⟩ :: l)
section
variable {X : Cx} {body : List Stmt} {h₀ : ExceptHandler} {hds : List ExceptHandler} {l : List Cl} {pos : Pos} {tb : WX → TS} {Wout : WX} {pins : List (Addr × Obj)}
/-- a suite's end, where the state is brought back by g -/
theorem suite_end {M : Model} {A : Around} {E : Value → Shared → Prop} {f : Flow} {σ0 : L2.St} {D D' : Ends} {s6 : Shared} {a : Addr} {q : Addr × Obj} (ok : X.Ok) (hsp : SP (X.suite a (q :: (X.pn ++ pins))) [] D' f s6)
    (go : ∀ {σ6 : L2.St} {H6 : Hp}, Inv X pins σ6 H6 s6 → (f = .next → D'.nx σ6 H6 → SP X pins D f s6) ∧ (f = .brk → D'.bk σ6 H6 → SP X pins D f s6) ∧ (f = .cont → D'.ct σ6 H6 → SP X pins D f s6)) (rt : D'.rt = D.rt) : SP X pins D f s6 := by
  cases f with
  | next =>
    obtain ⟨σ6, H6, S6, q6⟩ := hsp
    exact (go (S6.unsuite ok)).1 rfl q6
  | brk =>
    obtain ⟨σ6, H6, S6, q6⟩ := hsp
    exact (go (S6.unsuite ok)).2.1 rfl q6
  | cont =>
    obtain ⟨σ6, H6, S6, q6⟩ := hsp
    exact (go (S6.unsuite ok)).2.2 rfl q6
  | ret u =>
    obtain ⟨v6, σ6, H6, S6, r6, q6⟩ := hsp
    exact ⟨v6, σ6, H6, S6.unsuite ok, r6, by rw [← rt]; exact q6⟩
theorem try_end {D : Ends} {f : Flow} {s1 : Shared} {pn : List (Addr × Obj)} {xe : Value → Shared → Prop} (ok : X.Ok) (hsp : SP (X.tr (X.pn ++ pins) xe) [] D f s1) : SP X pins D f s1 := by
  cases f with
  | next => obtain ⟨σ', H', J', q⟩ := hsp; exact ⟨σ', H', J'.ofTry ok, q⟩
  | brk => obtain ⟨σ', H', J', q⟩ := hsp; exact ⟨σ', H', J'.ofTry ok, q⟩
  | cont => obtain ⟨σ', H', J', q⟩ := hsp; exact ⟨σ', H', J'.ofTry ok, q⟩
  | ret u => obtain ⟨v, σ', H', J', r, q⟩ := hsp; exact ⟨v, σ', H', J'.ofTry ok, r, q⟩
theorem ps_try_mix (hs : X.stack = X.env :: X.outer) (hf : X.env.frame = some X.env.locals) (hN : X.N.Nodup) (tk : Takes X Wout)
    (hb : ∀ (W : WX) (pn : List (Addr × Obj)) (xe : Value → Shared → Prop), Takes (X.tr pn xe) W → PassesOwn (model X.prog X.w) X.A X.env xe → PSs (X.tr pn xe) body (tb W))
    (hh : ClsOk X (h₀ :: hds) l) : PS X (.Try body (h₀ :: hds) [] [] pos) (fun D σ H => tb (wMix X.K Wout D l) D σ H) := by
  refine ⟨fun pins s σ H D I h => ?_⟩
  have ok := I.ok
  have hfr : X.A.frames = some (X.env :: X.outer) := by rw [ok.frames, hs]
  refine wpAny_Try_except ?_
  have hB := hb (wMix X.K Wout D l) (X.pn ++ pins) (fun e s₁ => wpAny (model X.prog X.w) X.A (noteFrame e X.env) (fun _ s₂ => wpAny (model X.prog X.w) X.A (setFlight e none) (fun _ s₃ =>
    wpAny (model X.prog X.w) X.A (handleBy e X.env (h₀ :: hds)) (SP X pins D) X.xe s₃) X.xe s₂) X.xe s₁)
  refine wpAny_mono ((hB (fun u s' xx => ?_) PassesOwn.looking).run [] s σ H D (I.toTry _) h) (fun f s1 hsp => ?_) (fun e s1 he => he)
  · obtain ⟨a, B, sI, pins', σ', H', cls, d, rfl, J', nb, up, sky, na, os, ag, w⟩ := xx
    have J : Inv X pins σ' H' sI := J'.ofTry ok
    show wpAny (model X.prog X.w) X.A (noteFrame (.ref a) X.env) _ _ _
    refine Sky.land Zc.steady hfr hf (show Sky B (X.env :: X.outer) a (Zc cls d) X.env.locals s'.heap by rw [← hs]; exact sky) fun h3 fl3 up3 => ?_
    have J3 : Inv X pins σ' H' { s' with heap := h3 } := J.landed nb fl3.1 (up.trans up3) os ag
    obtain ⟨oe3, vs3, he3, hz3, hd3⟩ := fl3.there
    have nfr : a ∉ frs (X.env :: X.outer) := fun hm => by
      obtain ⟨_, o', e', hnf⟩ := fl3.2.2.1.mem hm
      rw [he3] at e'
      cases e'
      exact hnf _ hd3
    have nL : a ≠ X.env.locals := fun z => nfr (List.mem_filterMap.mpr ⟨X.env, List.mem_cons_self, by rw [hf, z]⟩)
    have nF : a ∉ X.fs := fun hm => by
      obtain ⟨e, he, q⟩ := List.mem_filterMap.mp hm
      exact nfr (List.mem_filterMap.mpr ⟨e, List.mem_cons_of_mem _ he, q⟩)
    have S3 := J3.suite he3 hd3 na nL nF
    have go : ∀ {hds' : List ExceptHandler} {l' : List Cl}, ClsOk X hds' l' → wMix X.K Wout D l' cls d σ' H' →
        wpAny (model X.prog X.w) X.A (handleBy (.ref a) X.env hds') (SP X pins D) X.xe { s' with heap := h3 } := by
      intro hds' l' hk
      have name : ∀ {x : Str} {c : Value} {np : Pos}, Names X x c → ∀ {Q : Value → Shared → Prop} {E : Value → Shared → Prop}, Q c { s' with heap := h3 } → wpAny (model X.prog X.w) (X.A.mark (some (.ref a))) (eval (.Name x np) X.env) Q E { s' with heap := h3 } := fun {x c np} hc {Q E} q => by
        obtain ⟨hg, hdbg, hm | ⟨hm, hv, hnn⟩⟩ := hc
        · exact ld_glob (X := X.suite a ((a, oe3) :: (X.pn ++ pins))) S3 hg hm q hdbg
        · exact ld_blt (X := X.suite a ((a, oe3) :: (X.pn ++ pins))) S3 hg hm hv q hnn hdbg
      have LT : PySem.W.Looks (model X.prog X.w) h3 (typeOf (.ref a)) cls := fun A Q E s k q => wpAny_typeOf_ref (k _ _ he3) (by rw [hz3.1]; exact q)
      induction hk with
      | nil =>
        intro w
        refine wpAny_handleBy_nil ?_
        obtain ⟨k1, k2, k3, oe, vs, T, oT, ts', he, hz, hd, h1, hr⟩ := id fl3
        unfold PySem.passOn
        refine wpAny_bind (wpAny_field he hd h1 ?_)
        rw [if_neg (show ¬ ((Value.ref T == Value.none) = true) from by simp)]
        have out : wpAny (model X.prog X.w) X.A (setFlight (.ref a) X.env.frame) (fun _ s4 => wpAny (model X.prog X.w) X.A (throw (.ref a) : Sem Flow) (SP X pins D) X.xe s4) X.xe { s' with heap := h3 } := by
          rw [hf]
          exact HandSPX.setFlight_upZ fl3 fun h4 hh4 up4 => wpAny_throw (tk _ _ ⟨a, B, sI, pins, σ', H', cls, d, rfl, J, nb, (up.trans up3).trans up4, .inr (.inr (by rw [hs]; exact hh4)), na, os, ag, w⟩)
        first
          | exact wpAny_bind (wpAny_pure (wpAny_bind out))
          | exact wpAny_bind out
      | @cons x c ts b₀ suite np pos' hds2 l2 hc hsu r ih =>
        intro w
        obtain ⟨b, hb1, hyes, hno⟩ := w
        refine wpAny_handleBy_cons (codeAny_handlers_test ?_) (by intro q; cases q)
        refine name hc ((PySem.W.exm_one (M := model X.prog X.w) J3.kIn LT hb1).here ?_)
        cases b with
        | false => exact ih (hno rfl)
        | true =>
          refine codeAny_handlers_suite (HandSPX.lands_againZ fl3 fun h4 fl4 up4 => ?_)
          obtain ⟨oe4, vs4, he4, hz4, hd4⟩ := fl4.there
          have J4 : Inv X pins σ' H' { s' with heap := h4 } := J.landed nb fl4.1 ((up.trans up3).trans up4) os ag
          have S4 := J4.suite he4 hd4 na nL nF
          exact wpAny_mono ((hsu a oe4 cls d (X.pn ++ pins) hz4 ⟨_, hd4⟩).run [] _ _ H' _ S4 (hyes rfl a na)) (fun f s6 hsp => suite_end (M := model X.prog X.w) (A := X.A) (E := X.xe) (σ0 := σ') ok hsp (fun {σ6 H6} J6 =>
            ⟨fun e q => by subst e; exact ⟨σ6, H6, J6, q⟩, fun e q => by subst e; exact ⟨σ6, H6, J6, q⟩, fun e q => by subst e; exact ⟨σ6, H6, J6, q⟩⟩) rfl) (fun _ _ z => False.elim z)
      | @consN x n i c ts b₀ suite np pos' hds2 l2 hi hln hc hsu r ih =>
        intro w
        obtain ⟨b, hb1, hyes, hno⟩ := w
        refine wpAny_handleBy_cons (codeAny_handlers_test ?_) (by intro q; cases q)
        refine name hc ((PySem.W.exm_one (M := model X.prog X.w) J3.kIn LT hb1).here ?_)
        cases b with
        | false => exact ih (hno rfl)
        | true =>
          refine codeAny_handlers_suite_as (HandSPX.lands_againZ fl3 fun h4 fl4 up4 => ?_)
          obtain ⟨oe4, vs4, he4, hz4, hd4⟩ := fl4.there
          have J4 : Inv X pins σ' H' { s' with heap := h4 } := J.landed nb fl4.1 ((up.trans up3).trans up4) os ag
          have S4 := J4.suite he4 hd4 na nL nF
          refine store_ok (X := X.suite a ((a, oe4) :: (X.pn ++ pins))) (v := .ref a) S4 hN hi (.inl hln) rfl (fun s5 S5 => ?_) (.inr hln)
          refine wpAny_mono ((hsu a oe4 cls d (X.pn ++ pins) hz4 ⟨_, hd4⟩).run [] s5 _ H' _ S5 (hyes rfl a na)) (fun f s6 hsp => ?_) (fun _ _ z => False.elim z)
          have gone : ∀ {σ6 : L2.St} {H6 : Hp} {Q : Shared → Prop}, Inv (X.suite a ((a, oe4) :: (X.pn ++ pins))) [] σ6 H6 s6 → (∀ s7, Inv X pins (σ6.set i none) H6 s7 → Q s7) →
              wpAny (model X.prog X.w) X.A (do bindName X.env n .none; unbindBehindTheSuite X.env n pos') (fun _ s7 => Q s7) X.xe s6 := fun {σ6 H6 Q} S6 hq => gone_ok (S6.unsuite ok) hN hi hln hq
          cases f with
          | next => obtain ⟨σ6, H6, S6, q6⟩ := hsp; exact gone S6 fun s7 J7 => ⟨_, _, J7, q6⟩
          | brk => obtain ⟨σ6, H6, S6, q6⟩ := hsp; exact gone S6 fun s7 J7 => ⟨_, _, J7, q6⟩
          | cont => obtain ⟨σ6, H6, S6, q6⟩ := hsp; exact gone S6 fun s7 J7 => ⟨_, _, J7, q6⟩
          | ret u => obtain ⟨v6, σ6, H6, S6, r6, q6⟩ := hsp; exact gone S6 fun s7 J7 => ⟨_, _, _, J7, r6, q6⟩
    exact go hh w
  · have z := try_end (pn := []) ok hsp
    cases f with
    | next => exact wpAny_execs_nil z
    | brk => exact z
    | cont => exact z
    | ret u => exact z
end
/-! ### raise, try: readings by data -/
section
variable {K : PySem.W.Frag}
/-- raise of an own class without fields -/
def tRaise0 (W : WX) (C : Addr) : TS := fun _ σ H => W (.ref C) none σ H
instance {W : WX} {e : Xc → Sl → Prop} {C : Addr} : LiftS K ⟨W, e⟩ (tRaise0 W C) (fun _ s => e ⟨C, [], []⟩ s) := ⟨fun E T h M => T.ex (Stp.refl T.tb) T.base (.inl ⟨rfl, rfl, rfl⟩) h⟩
/-- the __init__ of an exception that stores its arguments -/
def sp_excN (K : PySem.W.Frag) (C : Addr) (flds : List Str) : Sp := fun vs H Q _ => ∃ (a : Addr) (us : List V), vs = .ref a :: us ∧ us.length = flds.length ∧ H a = some (exo a C none) ∧ ∀ dx, H dx = none → dx ≠ a → Q .non (upd (upd H dx (exd dx (flds.zip us))) a (exo a C (some dx)))
def tRaiseN (K : PySem.W.Frag) (W : WX) (C : Addr) (flds : List Str) (t : TA) : TS := fun _ σ H => tMkO C (sp_excN K C flds) [] t σ H fun cls d H' => W cls d σ H'
theorem excN_made {K : PySem.W.Frag} {C a : Addr} {flds : List Str} {us : List V} {H1 : Hp} {Q : XK} {E : XK} (hl : us.length = flds.length) (ha : H1 a = none) (q : ∀ d H', Same H1 H' → (∀ b, H' b = none → H1 b = none) → H1 d = none → H' d = some (.xd (flds.zip us)) → Q (.ref C) (some d) H') :
    sp_excN K C flds (.ref a :: (us ++ [])) (upd H1 a (exo a C none)) (fun v H2 => v = .non ∧ ∃ (d : Addr) (fs : List (Str × V)), H2 a = some (exo a C (some d)) ∧ H2 d = some (exd d fs) ∧ H1 d = none ∧ Q (.ref C) (some d) (upd (del H2 a) d (.xd fs))) E := by
  rw [List.append_nil]
  refine ⟨a, us, rfl, hl, upd_same, fun dx hdx ne => ⟨rfl, dx, flds.zip us, upd_same, ?_, ?_, ?_⟩⟩
  · rw [upd_ne ne, upd_same]
  · rw [upd_ne ne] at hdx
    exact hdx
  · have h0 : H1 dx = none := by rw [upd_ne ne] at hdx; exact hdx
    refine q dx _ (fun b o hb => ?_) (fun b hb => ?_) h0 upd_same
    · have n1 : b ≠ a := ne_of_none hb ha
      have n2 : b ≠ dx := ne_of_none hb h0
      rw [upd_ne n2, del_ne n1, upd_ne n1, upd_ne n2, upd_ne n1]
      exact hb
    · by_cases n1 : b = a
      · rw [n1]; exact ha
      · by_cases n2 : b = dx
        · rw [n2]; exact h0
        · rw [upd_ne n2, del_ne n1, upd_ne n1, upd_ne n2, upd_ne n1] at hb
          exact hb
def psRaiseN (e : Xc → Sl → Prop) (C : Addr) (flds : List Str) (pa : PA1) : PS1 := fun _ s => pa s fun ds s1 => ds.length = flds.length ∧ (flds.length ≤ 1000 ∧ flds ≠ []) ∧ e ⟨C, flds, ds⟩ s1
instance {W : WX} {e : Xc → Sl → Prop} {C : Addr} {flds : List Str} {t : TA} {pa : PA1} [LiftA K ⟨W, e⟩ t pa] : LiftS K ⟨W, e⟩ (tRaiseN K W C flds t) (psRaiseN e C flds pa) := ⟨fun {H0 F H ω s σ D} E T h M => by
  refine LiftA.run (K := K) (t := t) (p := pa) _ T h fun vs F1 H1 ω1 ds s1 p1 T1 r1 h1 => ?_
  obtain ⟨hl, hn, h1⟩ := h1
  have hvl := r1.len
  refine ⟨by omega, fun a ha => excN_made (Q := fun cls d H' => W cls d σ H') (show vs.length = flds.length by omega) ha fun d H2 e2 t2 hd hx => ?_⟩
  have hFd := T1.sf.free hd
  have sF := same_upd (o := .xd (flds.zip vs)) hFd
  have p2 : Stp F1 H1 ω1 (upd F1 d (.xd (flds.zip vs))) H2 ω1 := .old T1.tb sF (fun b o _ h => e2 b o h) (fun _ _ h _ => h) (fun b o _ q1 q2 => by rw [upd_ne (ne_of_none q1 hd)]; exact q2) t2 (fun _ _ => Iff.rfl) (fun _ _ _ _ h => .inl h) fun _ _ h => .inl h
  have T2 : Sta0 K (upd F1 d (.xd (flds.zip vs))) H2 ω1 s1 σ := by
    refine ⟨p2.tb, fun b o hb => ?_, fun b p hb => ?_, fun i x hx => ?_, T1.len, T1.ix⟩
    · by_cases hbd : b = d
      · rw [hbd, upd_same] at hb
        rw [hbd, ← hb]
        exact hx
      · rw [upd_ne hbd] at hb
        exact e2 _ _ (T1.sf b o hb)
    · obtain ⟨q1, u, q2⟩ := T1.ow b p hb
      exact ⟨by rw [upd_ne (ne_of_none q2 hd)]; exact q1, u, e2 _ _ q2⟩
    · obtain ⟨v, h4, h5⟩ := T1.at' i x hx
      exact ⟨v, h4, h5.to sF fun a u _ hu => e2 _ _ hu⟩
  exact T1.ex (x := ⟨C, flds, ds⟩) p2 T2 (.inr ⟨d, vs, rfl, upd_same, ⟨by show flds.length = _; omega, hn.2⟩, r1.mono sF⟩) h1⟩
/-! try -/
structure PCl where
  c : Value
  i : Option Nat
  ps : Addr → Addr → Option Addr → PS1
/-- the ends of a suite whose name goes -/
def pEndsN (i : Nat) (E : PEnds) : PEnds := { nx := fun s => E.nx (s.set i none), rt := E.rt, bk := fun s => E.bk (s.set i none), ct := fun s => E.ct (s.set i none) }
def PCl.run (k : PCl) (x : Xc) (E : PEnds) (s : Sl) : Prop := match k.i with
  | none => ∀ a d, (x.ns = [] → d = none) → k.ps a x.C d E s
  | some i => ∀ a d, (x.ns = [] → d = none) → k.ps a x.C d (pEndsN i E) (s.set i (some (.fr (.xv a x.C d x.ns x.ds))))
/-- the clauses, tried one after the other -/
def pcatch (K : PySem.W.Frag) (e : Xc → Sl → Prop) (E : PEnds) : List PCl → Xc → Sl → Prop
  | [] => e
  | k :: r => fun x s => ∃ b, PySem.W.exmOne K (.ref x.C) k.c = some b ∧ YN b (k.run x E s) (pcatch K e E r x s)
class LiftCl (K : PySem.W.Frag) (Ξ : XI) (k : Cl) (p : outParam PCl) : Prop where
  c : k.c = p.c
  i : k.i = p.i
  ts : ∀ a C d, LiftS K Ξ (k.ts a (.ref C) d) (p.ps a C d)
class LiftCls (K : PySem.W.Frag) (Ξ : XI) (l : List Cl) (p : outParam (List PCl)) : Prop where
  run : Paired (fun k p => LiftCl K Ξ k p) l p
instance {Ξ : XI} {c : Value} {i : Option Nat} {ts : Addr → Value → Option Addr → TS} {ps : Addr → Addr → Option Addr → PS1} [L : ∀ a C d, LiftS K Ξ (ts a (.ref C) d) (ps a C d)] : LiftCl K Ξ ⟨c, i, ts⟩ ⟨c, i, ps⟩ := ⟨rfl, rfl, L⟩
instance {Ξ : XI} : LiftCls K Ξ [] [] := ⟨.nil⟩
instance {Ξ : XI} {k : Cl} {p : PCl} {l : List Cl} {pl : List PCl} [h : LiftCl K Ξ k p] [r : LiftCls K Ξ l pl] : LiftCls K Ξ (k :: l) (p :: pl) := ⟨.cons h r.run⟩
def tTry (K : PySem.W.Frag) (Wout : WX) (tb : WX → TS) (l : List Cl) : TS := fun D σ H => tb (wMix K Wout D l) D σ H
def psTry (K : PySem.W.Frag) (e : Xc → Sl → Prop) (pb : WX → (Xc → Sl → Prop) → PS1) (l : List PCl) : PS1 := fun E s => ∀ W, pb W (pcatch K e E l) E s
theorem cl_run {W : WX} {e : Xc → Sl → Prop} {k : Cl} {p : PCl} (L : LiftCl K ⟨W, e⟩ k p) {H0 F H : Hp} {ω : Om} {s : Sl} {σ : L2.St} {D : Ends} {E : PEnds} {x : Xc} {d : Option Addr} {a : Addr} (T : Sta K ⟨W, e⟩ F H ω s σ) (M : Meets K ⟨W, e⟩ H0 F H ω E D) (r : XdR K F x d) (h : p.run x E s) : k.run a (.ref x.C) d D σ H := by
  obtain ⟨c, i, ts⟩ := k
  obtain ⟨c', i', ps⟩ := p
  have hi : i = i' := L.i
  subst hi
  have LL := L.ts a x.C d
  have hdn : x.ns = [] → d = none := fun z => by
    rcases r with ⟨_, _, z3⟩ | ⟨b, vs, z1, z2, z3, z4⟩
    · exact z3
    · exact absurd z z3.2
  cases i with
  | none => exact LiftS.run (K := K) (t := ts a (.ref x.C) d) (p := ps a x.C d) E T (h a d hdn) M
  | some i =>
    have T2 : Sta K ⟨W, e⟩ F H ω (s.set i (some (.fr (.xv a x.C d x.ns x.ds)))) (σ.set i (some (.ref a))) := T.set i ⟨rfl, by
      rcases r with ⟨z1, z2, z3⟩ | ⟨b, vs, z1, z2, z3, z4⟩
      · exact .inl ⟨z1, z2, z3⟩
      · exact .inr ⟨b, vs, z1, z2, z3, z4⟩⟩
    exact LiftS.run (K := K) (t := ts a (.ref x.C) d) (p := ps a x.C d) (pEndsN i E) T2 (h a d hdn) (M.ends rfl rfl (fun {σ' F' H' ω' s'} p' T' h' => M.nx p' (T'.dropσ i none) h') (fun {σ' F' H' ω' s'} p' T' h' => M.bk p' (T'.dropσ i none) h') (fun {σ' F' H' ω' s'} p' T' h' => M.ct p' (T'.dropσ i none) h'))
theorem mix_run {W : WX} {e : Xc → Sl → Prop} {l : List Cl} {pl : List PCl} (L : Paired (fun k p => LiftCl K ⟨W, e⟩ k p) l pl) {H0 F H : Hp} {ω : Om} {s : Sl} {σ : L2.St} {D : Ends} {E : PEnds} {x : Xc} {d : Option Addr} (T : Sta K ⟨W, e⟩ F H ω s σ) (M : Meets K ⟨W, e⟩ H0 F H ω E D) (r : XdR K F x d) (h : pcatch K e E pl x s) : wMix K W D l (.ref x.C) d σ H := by
  induction L with
  | nil => exact T.ex (Stp.refl T.tb) T.base r h
  | @cons k p l pl hk _ ih =>
    obtain ⟨b, hb, hy, hn⟩ := h
    exact ⟨b, by rw [hk.c]; exact hb, fun z a _ => cl_run hk T M r (hy z), fun z => ih (hn z)⟩
instance {W : WX} {e : Xc → Sl → Prop} {tb : WX → TS} {pb : WX → (Xc → Sl → Prop) → PS1} {l : List Cl} {pl : List PCl} [L : ∀ W' e', LiftS K ⟨W', e'⟩ (tb W') (pb W' e')] [R : LiftCls K ⟨W, e⟩ l pl] : LiftS K ⟨W, e⟩ (tTry K W tb l) (psTry K e pb pl) := ⟨fun {H0 F H ω s σ D} E T h M => by
  have LL := L (wMix K W D l) (pcatch K e E pl)
  refine LiftS.run (K := K) (Ξ := ⟨wMix K W D l, pcatch K e E pl⟩) (H0 := H0) (D := D) (t := tb (wMix K W D l)) (p := pb (wMix K W D l) (pcatch K e E pl)) E ⟨T.base, ?_⟩ (h _) ?_
  · intro F' H' ω' s' σ' x d p' T' r hx
    exact mix_run R.run ⟨T', T.ex.step p'⟩ (M.step p') r hx
  · exact ⟨fun {σ' F' H' ω' s'} p' T' h' => M.nx p' ⟨T'.base, T.ex.step p'⟩ h', fun {v σ' F' H' ω' x s'} p' T' r h' => M.rt p' ⟨T'.base, T.ex.step p'⟩ r h', fun {σ' F' H' ω' s'} p' T' h' => M.bk p' ⟨T'.base, T.ex.step p'⟩ h', fun {σ' F' H' ω' s'} p' T' h' => M.ct p' ⟨T'.base, T.ex.step p'⟩ h', M.up, M.yg⟩⟩
/-- a field of what was caught -/
def pXf (a C : Addr) (d : Option Addr) (f : Str) (C0 : Addr) (p : PD) : PX := fun s q => p s fun x s1 => match x with
  | .xv a' C' d' ns ds => a' = a ∧ C' = C0 ∧ C = C0 ∧ d' = d ∧ match (ns.zip ds).lookup f with
    | some z => q (.fr z) s1
    | none => False
  | _ => False
instance {Ξ : XI} {a C : Addr} {d : Option Addr} {C0 : Addr} {f : Str} {t : TE} {p : PD} [LiftD K Ξ t p] : LiftE K Ξ (tXf a (.ref C) d C0 f t) (pXf a C d f C0 p) := ⟨fun {F H ω s σ Q} q T h k => by
  refine LiftD.run (K := K) (t := t) (p := p) _ T h fun x F1 H1 ω1 dd s1 p1 T1 r1 h1 => ?_
  split at h1
  · rename_i a' C' d' ns ds
    obtain ⟨rfl, rfl, rfl, rfl, h1⟩ := h1
    obtain ⟨rfl, r1⟩ := r1
    split at h1
    · rename_i z e
      rcases r1 with ⟨rfl, _, _⟩ | ⟨b, vs, rfl, h2, h3, h4⟩
      · simp at e
      · obtain ⟨v, hv, rv⟩ := h4.look e
        exact ⟨rfl, rfl, b, _, v, rfl, T1.sf _ _ h2, hv, k v F1 H1 ω1 (.fr z) s1 p1 T1 rv h1⟩
    · exact h1.elim
  · exact h1.elim⟩
-- a look: instances are found under binders
example {W : WX} {e : Xc → Sl → Prop} {C : Addr} : ∃ p, LiftS K ⟨W, e⟩ (tSeq (tRaise0 W C) tNext) p := ⟨_, inferInstance⟩
example {W : WX} {e : Xc → Sl → Prop} {C : Addr} : ∃ p, LiftCls K ⟨W, e⟩ [⟨.ref C, none, fun a cls d => tNext⟩] p := ⟨_, inferInstance⟩
example {W : WX} {e : Xc → Sl → Prop} {C : Addr} : ∃ p, LiftCls K ⟨W, e⟩ [⟨.ref C, some 1, fun a cls d => tSeq (tDrop (tXf a cls d C "f" (tVar 1))) tNext⟩] p := ⟨_, inferInstance⟩
example {W : WX} {e : Xc → Sl → Prop} {C : Addr} : ∃ p, LiftS K ⟨W, e⟩ (tTry K W (fun W' => tSeq (tRaise0 W' C) tNext) [⟨.ref C, some 1, fun a cls d => tSeq (tDrop (tXf a cls d C "f" (tVar 1))) tNext⟩]) p := ⟨_, inferInstance⟩
end
/-! ### rules with these terms -/
section
variable {X : Cx} {W : WX} {C : Addr} {e : Expr} {pos : Pos}
theorem ps_raise0 (hc : X.calm = true) (tk : Takes X W) (he : PMk X e fun _ H Q => Q (.ref C) none H) : PS X (.Raise (some e) none pos) (tRaise0 W C) := ps_raise hc tk he
theorem ps_raiseX {K : PySem.W.Frag} {flds : List Str} {t : TA} (hc : X.calm = true) (tk : Takes X W) (he : PMk X e (tMkO C (sp_excN K C flds) [] t)) : PS X (.Raise (some e) none pos) (tRaiseN K W C flds t) := ps_raise hc tk he
end
section
variable {K : PySem.W.Frag}
/-- isinstance of what was caught -/
def pIsE (K : PySem.W.Frag) (a C D0 A : Addr) (d : Option Addr) (p : PD) : PX := fun s q => C = D0 ∧ d = none ∧ p s fun x s1 => match x with
  | .xv a' _ _ _ _ => a' = a ∧ ∃ b, PySem.W.kitOne K (.ref D0) (.ref A) = some b ∧ q (.fr (.bl b)) s1
  | _ => False
instance {Ξ : XI} {a C D0 A : Addr} {d : Option Addr} {t : TE} {p : PD} [LiftD K Ξ t p] : LiftE K Ξ (tIsE K D0 a (.ref C) d (tCons t (tCons (tC (V.ref A)) tNil))) (pIsE K a C D0 A d p) := ⟨fun {F H ω s σ Q} q T h k => by
  obtain ⟨rfl, rfl, h⟩ := h
  refine ⟨rfl, rfl, ?_⟩
  refine LiftD.run (K := K) (t := t) (p := p) _ T h fun x F1 H1 ω1 dd s1 p1 T1 r1 h1 => ?_
  split at h1
  · rename_i a' C' d' ns ds
    obtain ⟨rfl, b, hb, h1⟩ := h1
    obtain ⟨rfl, r1⟩ := r1
    exact ⟨_, .ref A, b, rfl, fun _ z => z, hb, k (.bl b) F1 H1 ω1 (.fr (.bl b)) s1 p1 T1 rfl h1⟩
  · exact h1.elim⟩
end
/-! ### rules of calls with a wish -/
theorem takesNo {X : Cx} : Takes X (WK E0x) := fun _ _ ⟨_, _, _, _, _, _, _, _, _, _, _, _, _, _, _, _, w⟩ => w.elim
theorem takesFn {X : Cx} {E : XK} (h : Takes X fun cls d _ H => E cls d H) : Takes X (WK E) := h
/-- C.m(..), C the class itself, m a classmethod -/
def tCMethW (W : WX) (C : Addr) (sp : Sp) (ta : TE) (t : TA) : TE := fun σ H Q => ta σ H fun x H1 => x = .ref C ∧ t σ H1 fun vs H2 => sp (.ref C :: vs) H2 Q fun cls d H' => W cls d σ H'
/-- a name that holds a class is called -/
def tMakeL (i : Nat) (C : Addr) (sp : Sp) (E : XK) (t : TA) : TE := fun σ H Q => σ[i]? = some (some (.ref C)) ∧ tMake C sp [] E t σ H Q
section
variable {X : Cx} {W : WX} {k : Nat} {f C g p : Addr} {mc : Value} {fd : FuncData} {ps : List Str} {sp : Sp} {x m : Str} {np pos apos : Pos} {e o : Expr} {es : List Expr} {ta : TE} {t : TA}
theorem pe_callW (tk : Takes X W) (F : FnOk X.prog X.w X.K X.mg X.base (L2.CX X.prog X.w) k f fd ps sp) (hr : Room k X.A) (hg : Gl X x) (hm : X.mg x = some (.ref f)) (hk : PySem.W.keepIn X.K (.ref f) = true) (hb : Binds X.K fd ps [])
    (ha : PA X (e :: es) t) (hdb : (x == ("__debug__" : Str)) = false := by decide) (he : starEach (e :: es) X.env = (false, eval e X.env) :: starEach es X.env := by rfl) (hpl : (backTo pos (starEach es X.env)).any (·.1) = false := by rfl) :
    PE X (.Call (.Name x np) (e :: es) [] pos) (tCallW W sp t) := pe_callS F hr hg hm hk hb (fun σ => passAt tk σ) ha hdb he hpl
theorem pe_methW {pl : Sem Bool} (tk : Takes X W) (he : PE X o ta) (c : Cls X.K C) (hm : Meth X.K C m f) (F : FnOk X.prog X.w X.K X.mg X.base (L2.CX X.prog X.w) k f fd ps sp) (hr : Room k X.A) (hb : Binds X.K fd ps []) (ha : PA X (e :: es) t)
    (ht : eval (.Call (.Attribute o m apos) (e :: es) [] pos) X.env = (do
      let ov ← eval o X.env
      standAt apos.atName
      let (f, first) ← holding [ov] (getMethod ov m pl)
      callWith pos f first (backTo pos (starEach (e :: es) X.env)) (backToKw pos (keywordEach [] X.env))) := by rfl)
    (hst : starEach (e :: es) X.env = (false, eval e X.env) :: starEach es X.env := by rfl) (hpl : (backTo pos (starEach es X.env)).any (·.1) = false := by rfl) :
    PE X (.Call (.Attribute o m apos) (e :: es) [] pos) (tMethW W C m sp ta t) := pe_methS he c hm F hr hb (fun σ => passAt tk σ) ha ht hst hpl
theorem pe_meth0W {pl : Sem Bool} (tk : Takes X W) (he : PE X o ta) (c : Cls X.K C) (hm : Meth X.K C m f) (F : FnOk X.prog X.w X.K X.mg X.base (L2.CX X.prog X.w) k f fd ps sp) (hr : Room k X.A) (hb : Binds X.K fd ps [])
    (ht : eval (.Call (.Attribute o m apos) [] [] pos) X.env = (do
      let ov ← eval o X.env
      standAt apos.atName
      let (f, first) ← holding [ov] (getMethod ov m pl)
      callWith pos f first (backTo pos (starEach [] X.env)) (backToKw pos (keywordEach [] X.env))) := by rfl) :
    PE X (.Call (.Attribute o m apos) [] [] pos) (tMethW W C m sp ta tNil) := pe_meth0S he c hm F hr hb (fun σ => passAt tk σ) ht
theorem pe_makeW (tk : Takes X W) (M : Mk X.K C f) (F : FnOk X.prog X.w X.K X.mg X.base (L2.CX X.prog X.w) k f fd ps sp) (hr : Room (k + 1) X.A) (hg : Gl X x) (hm : X.mg x = some (.ref C)) (hb : Binds X.K fd ps [])
    (ha : PA X (e :: es) t) (hdb : (x == ("__debug__" : Str)) = false := by decide) (he : starEach (e :: es) X.env = (false, eval e X.env) :: starEach es X.env := by rfl) (hpl : (backTo pos (starEach es X.env)).any (·.1) = false := by rfl) :
    PE X (.Call (.Name x np) (e :: es) [] pos) (tMakeW W C sp t) := pe_makeS M F hr hg hm hb (fun σ => passAt tk σ) ha hdb he hpl
theorem pe_cmethW {pl : Sem Bool} (tk : Takes X W) (he : PE X o ta) (r : ClX.CRead X.K C mc) (c : ClX.CMet X.K C mc m p g) (F : FnOk X.prog X.w X.K X.mg X.base (L2.CX X.prog X.w) k g fd ps sp) (hr : Room k X.A) (hb : Binds X.K fd ps []) (ha : PA X (e :: es) t)
    (ht : eval (.Call (.Attribute o m apos) (e :: es) [] pos) X.env = (do
      let ov ← eval o X.env
      standAt apos.atName
      let (f, first) ← holding [ov] (getMethod ov m pl)
      callWith pos f first (backTo pos (starEach (e :: es) X.env)) (backToKw pos (keywordEach [] X.env))) := by rfl)
    (hst : starEach (e :: es) X.env = (false, eval e X.env) :: starEach es X.env := by rfl) (hpl : (backTo pos (starEach es X.env)).any (·.1) = false := by rfl) :
    PE X (.Call (.Attribute o m apos) (e :: es) [] pos) (tCMethW W C sp ta t) := by
  refine ⟨fun pins s σ H Q I h => PySem.W.methodCall_KW (pl := pl) (thn (he.run pins s σ H _ I h) fun u s1 ⟨x, H1, I1, rx, ex, q⟩ => ?_) ht⟩
  subst ex
  cases (show u = Value.ref C from rx)
  refine ClX.getmethcm_ok I1 r c fun s2 I2 => ?_
  refine ClX.callwith_cm I2 (ClX.base_none I1 (Nat.le_refl _)) c.fi (thn (ha.run pos _ s2 σ H1 _ I2 q) fun us s3 ⟨vs, H2, I3, rv, q2⟩ => ⟨⟨ClX.pin_at I3, I3.kIn⟩, ?_⟩) hst hpl
  have r2 : Vals (V.ref C :: vs) (Value.ref C :: us) := .cons rfl rv
  have hl : (Value.ref C :: us).length = ps.length := by rw [← r2.length]; exact F.len _ _ _ _ q2
  have b := hb s3 (Value.ref C :: us) I3.kIn (by rw [List.append_nil]; exact hl)
  rw [List.append_nil] at b
  have z : wpAny (model X.prog X.w) X.A (call (.ref s1.heap.objs.size) us) (EP X ((s1.heap.objs.size, PySem.W.methodObj (.ref g) (.ref C)) :: pins) σ Q) X.xe s3 := by
    refine wpAny_call (PySem.W.method_call (ClX.pin_at I3) (codeAny_mono (F.run X.A X.stack s3 H2 ⟨Value.ref C :: us, []⟩ (Value.ref C :: us) (V.ref C :: vs) Q (fun cls d H' => W cls d σ H') hr I3.env0 b r2 q2) fun r s' hq => ?_))
    cases r with
    | error er => exact passAt tk σ _ _ _ er s' I3 hq
    | ok fl =>
      cases fl with
      | ret u => exact I3.after hq
      | next => exact False.elim hq
      | brk => exact False.elim hq
      | cont => exact False.elim hq
  exact thn z fun _ _ y => ClX.unpinE y
theorem pe_makeL {CX : CXT} {i : Nat} {E : XK} (M : Mk X.K C f) (F : FnOk X.prog X.w X.K X.mg X.base CX k f fd ps sp) (hr : Room (k + 1) X.A) (hN : X.N[i]? = some x) (hv : Vis X.env.scope x) (hb : Binds X.K fd ps []) (hx : Passes CX X E) (ha : PA X (e :: es) t)
    (hdb : (x == ("__debug__" : Str)) = false := by decide) (hcd : (x == ("__classdict__" : Str)) = false := by decide)
    (he : starEach (e :: es) X.env = (false, eval e X.env) :: starEach es X.env := by rfl) (hpl : (backTo pos (starEach es X.env)).any (·.1) = false := by rfl) :
    PE X (.Call (.Name x np) (e :: es) [] pos) (tMakeL i C sp E t) := by
  refine ⟨fun pins s σ H Q I ⟨hs, ht⟩ => ?_⟩
  have ld := (pe_var (pos := np) hN hv hdb hcd).run pins s σ H (fun v H1 => v = .ref C ∧ H1 = H) I ⟨.ref C, hs, rfl, rfl⟩
  refine wpAny_Call_Name_kw (thn ld fun u s1 ⟨v, H1, I1, r1, e1, e2⟩ => ?_)
  subst e1 e2
  cases r1
  refine PySem.W.callWith_K (h₀ := X.base) I.ok.mod.kin M.kp (thn (ha.run pos pins s1 σ H1 _ I1 ht) fun us s2 ⟨vs, H2, I2, r2, q2⟩ => ⟨I2.kIn, ?_⟩) he hpl
  exact run_make M F hr hb .nil hx I2 r2 q2
/-- try .. except, the clauses with and without a name -/
theorem ps_tryW {K : PySem.W.Frag} {body : List Stmt} {h₀ : ExceptHandler} {hds : List ExceptHandler} {l : List Cl} {tb : WX → TS} (hK : X.K = K) (hs : X.stack = X.env :: X.outer) (hf : X.env.frame = some X.env.locals) (hN : X.N.Nodup) (tk : Takes X W)
    (hb : ∀ (W : WX) (pn : List (Addr × Obj)) (xe : Value → Shared → Prop), Takes (X.tr pn xe) W → PassesOwn (model X.prog X.w) X.A X.env xe → PSs (X.tr pn xe) body (tb W))
    (hh : ClsOk X (h₀ :: hds) l) : PS X (.Try body (h₀ :: hds) [] [] pos) (tTry K W tb l) := by
  subst hK
  exact ps_try_mix hs hf hN tk hb hh
end
section
variable {K : PySem.W.Frag} {Ξ : XI}
def pCMethX (e : Xc → Sl → Prop) (ps : PspX) (C : Addr) (p : PD) (pa : PR1) : PX := fun s q => p s fun d s1 => match d with
  | .opq v => v = .ref C ∧ pa s1 fun as s2 => callToX ps e (.v (.opq v) :: as) q s2
  | _ => False
instance {ps : PspX} {C : Addr} {W : WX} {e : Xc → Sl → Prop} {ta : TE} {t : TA} {p : PD} {pa : PR1} [LiftD K ⟨W, e⟩ ta p] [LiftR K ⟨W, e⟩ t pa] : LiftE K ⟨W, e⟩ (tCMethW W C (LspX K ps) ta t) (pCMethX e ps C p pa) := ⟨fun {F H ω s σ Q} q T h k => by
  refine LiftD.run (K := K) (t := ta) (p := p) _ T h fun v F1 H1 ω1 d s1 p1 T1 r1 h1 => ?_
  split at h1
  · rename_i u
    obtain ⟨rfl, h1⟩ := h1
    cases (show v = _ from r1)
    refine ⟨rfl, LiftR.run (K := K) (t := t) (p := pa) _ T1 h1 fun vs F2 H2 ω2 as s2 p2 T2 r2 h2 => ?_⟩
    exact callToX_run T2 (ArR.consV (d := .opq (.ref C)) rfl r2) h2 fun v F3 H3 ω3 x s3 p3 T3 r3 hq => k v F3 H3 ω3 x s3 ((p1.trans p2).trans p3) T3 (r3.early (p1.trans p2).tr) hq
  · exact h1.elim⟩
def pMakeL (i : Nat) (C : Addr) (ps : Psp) (pa : PR1) : PX := fun s q => s[i]? = some (some (.fr (.opq (.ref C)))) ∧ pMake C ps pa s q
instance {i : Nat} {ps : Psp} {C : Addr} {E : XK} {t : TA} {pa : PR1} [LiftR K Ξ t pa] : LiftE K Ξ (tMakeL i C (Lsp K ps) E t) (pMakeL i C ps pa) := ⟨fun {F H ω s σ Q} q T h k => by
  obtain ⟨h0, h⟩ := h
  obtain ⟨v, hv, r⟩ := T.get h0
  cases (show v = _ from r)
  exact ⟨hv, LiftE.run (K := K) (t := tMake C (Lsp K ps) [] E t) (p := pMake C ps pa) q T h k⟩⟩
/-- a class as a value -/
instance (priority := low) (a : Addr) : ConD K (.ref a) (.opq (.ref a)) := ⟨fun _ => rfl⟩
/-! isinstance, the class an own one -/
/-- what the library says of the classes -/
def IsC (K : PySem.W.Frag) (C D : Addr) (b : Bool) : Prop := PySem.W.kitOne K (.ref C) (.ref D) = some b
end
/-! ### the addresses of the package's classes -/
structure Ad where
  SamphireError : Addr := 0
  TextError : Addr := 0
  TooLarge : Addr := 0
  InvalidSize : Addr := 0
  SharedKey : Addr := 0
  SharedPart : Addr := 0
  InvalidPlan : Addr := 0
  UnknownWhat : Addr := 0
  WrongReceiver : Addr := 0
  UnknownLetter : Addr := 0
  NoParcel : Addr := 0
  InvalidLine : Addr := 0
  WrongKind : Addr := 0
  ZeroDenominator : Addr := 0
  InvalidLaw : Addr := 0
  NotEnded : Addr := 0
  EmptyList : Addr := 0
  OtherPlan : Addr := 0
  NoDeal : Addr := 0
  Uniform : Addr := 0
  Weighted : Addr := 0
  Optimal : Addr := 0
  Tape : Addr := 0
  Mixer : Addr := 0
  Explorer : Addr := 0
  Plan : Addr := 0
  Store : Addr := 0
  Node : Addr := 0
  Network : Addr := 0
  Parser : Addr := 0
  Game : Addr := 0
  Desk : Addr := 0
theorem lenIs1 {us : List V} {n : Str} (h : us.length = [n].length) : ∃ v, us = [v] := by
  match us, h with
  | [v], _ => exact ⟨v, rfl⟩
theorem lenIs3 {us : List V} {n1 n2 n3 : Str} (h : us.length = [n1, n2, n3].length) : ∃ v0 v1 v2, us = [v0, v1, v2] := by
  match us, h with
  | [v0, v1, v2], _ => exact ⟨v0, v1, v2, rfl⟩
/-! ### sorted(xs), xs any data that are alike -/
def rSortedDa (K : PySem.W.Frag) : List V → Hp → VK → Prop := fun vs H Q => ∃ (a : Addr) (zs : List (V × PyData)), vs = [V.ref a] ∧ SqL K H a (zs.map (·.1)) ∧ (∀ z ∈ zs, Dp K H z.1 z.2) ∧ PySem.W.AllAlike (zs.map (·.2)) ∧ PySem.W.Sortable (zs.map (·.2)) ∧ (∀ z ∈ zs, z.2.depth ≤ 60) ∧
  ∀ p, H p = none → Q (.ref p) (upd H p (.lst ((zs.mergeSort (PySem.W.dataLe false (·.2))).map (·.1))))
section
variable {X : Cx} {pins : List (Addr × Obj)} {σ : L2.St} {H : Hp} {s : Shared}
theorem eachIs_of {R : Value → (V × PyData) → Prop} : ∀ {zs : List (V × PyData)} {its : List Value}, Vals (zs.map (·.1)) its → (∀ z ∈ zs, ∀ u, RelV z.1 u → R u z) → PySem.W.EachIs R its zs
  | [], _, h, _ => by cases h; exact .nil
  | z :: zs, _, h, hR => by
    cases h with
    | cons h1 h2 => exact .cons (hR z List.mem_cons_self _ h1) (eachIs_of h2 fun y hy => hR y (List.mem_cons_of_mem _ hy))
theorem vals_of : ∀ {zs : List (V × PyData)} {its : List Value}, PySem.W.EachIs (fun u z => RelV z.1 u) its zs → Vals (zs.map (·.1)) its
  | _, _, .nil => .nil
  | _, _, .cons h t => .cons h (vals_of t)
theorem cr_sortedDa (hu : X.A.units + 64 < cLine) : CallR X (.builtin "sorted") (rSortedDa X.K) := by
  intro pins s σ H vs us Q I r h
  obtain ⟨a, zs, rfl, hs, hz, hal, hk, hdp, q⟩ := h
  obtain ⟨its, rv, hl, hlen⟩ := I.list hs
  obtain ⟨u, rfl, ru⟩ := vals1 r
  obtain rfl : u = Value.ref a := ru
  rw [List.length_map] at hlen
  refine PySem.W.sorted_data (R := fun u z => RelV z.1 u) (enc := (·.2)) hl.isList (eachIs_of rv fun z _ u h => h) (eachIs_of rv fun z hm u h => Dp.reads I z.2 z.1 u (hz z hm) h) hal hk hlen (fun z hm => by have := hdp z hm; omega) fun out ho eo => ?_
  obtain ⟨c, hc⟩ := PyProof.Rows.sortedAll_at s.heap its out.toArray
  exact ⟨.ref (s.heap.objs.size + 1), upd H (s.heap.objs.size + 1) (.lst ((zs.mergeSort (PySem.W.dataLe false (·.2))).map (·.1))), I.laid (t' := s.toks) (fun _ _ => PyProof.Rows.sortedAll_old) (Nat.le_succ _)
    (show ObjOk X.prog X.w _ _ _ (.lst _) from ⟨by rw [List.length_map, List.length_mergeSort]; exact hlen, out, c, vals_of eo, hc⟩), rfl, q _ (I.hok.fresh (Nat.le_succ _))⟩
theorem cr_sortedDak {K : PySem.W.Frag} (hK : X.K = K) (hu : X.A.units + 64 < cLine) : CallR X (.builtin "sorted") (rSortedDa K) := by subst hK; exact cr_sortedDa hu
end
/-- the order of data -/
def leD (a b : D) : Bool := !PySem.W.dataLt b.py a.py
def sortD (ds : List D) : List D := ds.mergeSort leD
/-- data that can be sorted: alike, tuples that are not empty or none -/
def SortOk (ds : List D) : Prop := ds.all (D.plN 58) = true ∧ PySem.W.AllAlike (ds.map D.py) ∧ PySem.W.Sortable (ds.map D.py)
section
variable {K : PySem.W.Frag} {Ξ : XI}
theorem RpA.pair {F : Hp} : ∀ {ds : List D} {vs : List V}, RpA K F ds vs → ∃ zs : List (V × D), zs.map (·.1) = vs ∧ zs.map (·.2) = ds ∧ ∀ z ∈ zs, Rp K F z.2 z.1
  | [], _, h => by
    cases (show _ = [] from h)
    exact ⟨[], rfl, rfl, fun z hz => by cases hz⟩
  | d :: ds, _, h => by
    obtain ⟨v, ws, rfl, h1, h2⟩ := h
    obtain ⟨zs, e1, e2, e3⟩ := RpA.pair h2
    refine ⟨(v, d) :: zs, by rw [List.map_cons, e1], by rw [List.map_cons, e2], fun z hz => ?_⟩
    rcases List.mem_cons.mp hz with e | e
    · rw [e]; exact h1
    · exact e3 z e
theorem RpA.unpair {F : Hp} : ∀ {zs : List (V × D)}, (∀ z ∈ zs, Rp K F z.2 z.1) → RpA K F (zs.map (·.2)) (zs.map (·.1))
  | [], _ => rfl
  | z :: zs, h => ⟨z.1, zs.map (·.1), rfl, h z List.mem_cons_self, RpA.unpair fun y hy => h y (List.mem_cons_of_mem _ hy)⟩
def gSortedDa : List D → (S → Prop) → Prop := fun ds q => match ds with
  | [.lst xs] => SortOk xs ∧ q (.ow false (.lst (sortD xs)))
  | _ => False
instance : CaL K (rSortedDa K) gSortedDa := ⟨fun {F H vs ds Q} q hs r h k => by
  unfold gSortedDa at h
  split at h
  · rename_i xs
    obtain ⟨⟨hpl, hal, hso⟩, hq⟩ := h
    obtain ⟨v, rfl, a, ws, rfl, h1, h2⟩ := r.one
    obtain ⟨zs, rfl, rfl, hz⟩ := RpA.pair h2
    have hpy : ∀ z ∈ zs, Dp K H z.1 z.2.py ∧ z.2.py.canLay0 = true ∧ z.2.py.depth ≤ 58 := fun z hm => py_of 58 (List.all_eq_true.mp hpl _ (List.mem_map.mpr ⟨z, hm, rfl⟩)) ((hz z hm).mono hs)
    refine ⟨a, zs.map fun z => (z.1, z.2.py), rfl, ?_, fun y hy => ?_, ?_, ?_, fun y hy => ?_, fun p hp => ?_⟩
    · rw [List.map_map]
      exact SqL.of (hs _ _ h1)
    · obtain ⟨z, hm, rfl⟩ := List.mem_map.mp hy
      exact (hpy z hm).1
    · rw [List.map_map] at hal ⊢
      exact hal
    · rw [List.map_map] at hso ⊢
      exact hso
    · obtain ⟨z, hm, rfl⟩ := List.mem_map.mp hy
      exact Nat.le_trans (hpy z hm).2.2 (by decide)
    · have e1 : ((zs.map fun z => (z.1, z.2.py)).mergeSort (PySem.W.dataLe false (·.2))).map (·.1) = (zs.mergeSort fun x y => leD x.2 y.2).map (·.1) := by
        rw [← PySem.W.sort_maps (r := fun x y => leD x.2 y.2) (fun z : V × D => (z.1, z.2.py)) (fun a _ b _ => rfl), List.map_map]
        rfl
      have e2 : sortD (zs.map (·.2)) = (zs.mergeSort fun x y => leD x.2 y.2).map (·.2) := by
        unfold sortD
        rw [← PySem.W.sort_maps (r := fun x y => leD x.2 y.2) (fun z : V × D => z.2) (fun a _ b _ => rfl)]
      rw [e1]
      rw [e2] at hq
      exact Ext.lst hs (RpA.unpair fun z hm => hz z (List.mem_mergeSort.mp hm)) hq k hp
  · exact h.elim⟩
/-! ### isinstance, the class an own one -/
/-- what makes an own class answer isinstance -/
structure IsiC (K : PySem.W.Frag) (C : Addr) : Prop where
  cl : Cls K C
  ha : PySem.W.findIn K (.ref C) "__class__" = some (some (.builtin "object.__class__"))
  hn : PySem.W.specialIn K (.builtin "object.__class__") "__get__" = some (some (.builtin "getset_descriptor.__get__"))
  htk : PySem.W.takesIn K (.builtin "object.__class__") = some true
  hm : PySem.W.mroIn K C (.type "object") = some true
def pIsiC (K : PySem.W.Frag) (p : PD) (pc : PD) : PX := fun s q => p s fun d s1 => pc s1 fun c s2 => match d, c with
  | .obj C _ _, .opq (.ref C0) => IsiC K C ∧ ∃ b, PySem.W.kitOne K (.ref C) (.ref C0) = some b ∧ q (.fr (.bl b)) s2
  | _, _ => False
instance (priority := low) {t tc : TE} {p pc : PD} [LiftD K Ξ t p] [LiftD K Ξ tc pc] : LiftE K Ξ (tCB (rIsi K) (tCons t (tCons tc tNil))) (pIsiC K p pc) := ⟨fun {F H ω s σ Q} q T h k => by
  refine LiftD.run (K := K) (t := t) (p := p) _ T h fun v F1 H1 ω1 d s1 p1 T1 r1 h1 => ?_
  refine LiftD.run (K := K) (t := tc) (p := pc) _ T1 h1 fun vc F2 H2 ω2 c s2 p2 T2 r2 h2 => ?_
  split at h2
  · rename_i C ns ds C0
    obtain ⟨f, b, hb, hq⟩ := h2
    obtain ⟨a, dx, vs, rfl, e1, e2, e3⟩ := (r1.mono p2.sf)
    cases (show vc = _ from r2)
    exact ⟨.ref a, .ref C0, .ref C, .ref C0, b, rfl, .own C0, .base (.ins (T2.sf _ _ e1) f.cl f.ha f.hn f.htk f.hm), hb, k _ F2 H2 ω2 (.fr (.bl b)) s2 (p1.trans p2) T2 rfl hq⟩
  · exact h2.elim⟩
/-- a name's own object, which stays its own -/
def pIsiV (K : PySem.W.Frag) (i : Nat) (pc : PD) : PX := fun s q => pc s fun c s2 => match s2[i]?, c with
  | some (some (.ow _ (.ob C _ _))), .opq (.ref C0) => IsiC K C ∧ ∃ b, PySem.W.kitOne K (.ref C) (.ref C0) = some b ∧ q (.fr (.bl b)) s2
  | some (some (.fr (.obj C _ _))), .opq (.ref C0) => IsiC K C ∧ ∃ b, PySem.W.kitOne K (.ref C) (.ref C0) = some b ∧ q (.fr (.bl b)) s2
  | _, _ => False
end
/-! ### comprehensions with two for -/
theorem walk_it {J : It} {n : Nat} {G : Hp → Prop} {Y : Nat → Hp → V → Hp → Prop} (w : Walk J n G Y) {B : V → Hp → (Hp → Prop) → Prop} {H0 : Hp} {Qd : Hp → Prop} (Pv : Nat → Hp → Prop) (h0 : Pv 0 H0) (hG : ∀ i H, i ≤ n → Pv i H → G H)
    (hs : ∀ i x H H', i < n → Pv i H → Y i H x H' → B x H' (Pv (i + 1))) (hd : ∀ H, Pv n H → Qd H) :
    ∃ W : Nat → Nat → Hp → Prop, (∃ m, W 0 m H0) ∧ ∀ i m H, W i m H → (J.stop i H ∧ Qd H) ∨ (J.go i H ∧ ∃ Nx : Hp → Prop, (∀ H', Nx H' → ∃ m', m' < m ∧ W (i + 1) m' H') ∧ ∀ x H', J.yld i H x H' → B x H' Nx) := by
  refine ⟨fun i m H => m = n - i ∧ i ≤ n ∧ Pv i H, ⟨n, by simp, Nat.zero_le _, h0⟩, fun i m H h => ?_⟩
  obtain ⟨rfl, hi, p⟩ := h
  have q := hG i H hi p
  rcases Nat.lt_or_ge i n with hlt | hge
  · exact .inr ⟨w.goes i H hlt q, Pv (i + 1), fun H' p' => ⟨n - (i + 1), by omega, rfl, hlt, p'⟩, fun x H' y => hs i x H H' hlt p (w.yields i H x H' hlt q y)⟩
  · obtain rfl : i = n := by omega
    exact .inl ⟨w.stops H q, hd H p⟩
theorem wipe_in (σ : L2.St) {vs : List Nat} : ∀ {ws : List Nat}, (∀ i ∈ ws, i ∈ vs) → L2.wipe (L2.wipe σ ws) vs = L2.wipe σ vs
  | [], _ => rfl
  | w :: ws, h => by
    show L2.wipe ((L2.wipe σ ws).set w none) vs = _
    rw [wipe_mem (h w List.mem_cons_self)]
    exact wipe_in σ fun i hi => h i (List.mem_cons_of_mem _ hi)
section
variable {K : PySem.W.Frag} {Ξ : XI}
def pLc2 (pi : PI1) (pg : PG1) (ss : List Nat) (pt : PT1) (pi1 : PI1) (pg1 : PG1) (ss1 : List Nat) (pt1 : PT1) (pe : PD) (vs vs1 : List Nat) : PX := fun s q => pi s fun ds s1 => if (ss.all vs.contains && ss1.all vs1.contains && vs1.all vs.contains) = true then
  ∃ I : Nat → List D → Sl → Prop, I 0 [] (wipeS s1 vs) ∧
  (∀ i d acc s2, ds[i]? = some d → I i acc s2 → pg d s2 fun s3 => pt s3 (fun s4 => pi1 s4 fun es s5 => ∃ J : Nat → List D → Sl → Prop, J 0 acc (wipeS s5 vs1) ∧
    (∀ j e acc s6, es[j]? = some e → J j acc s6 → pg1 e s6 fun s7 => pt1 s7 (fun s8 => pe s8 fun x s9 => acc.length < 1000000 ∧ J (j + 1) (acc ++ [x]) (wipeS s9 vs1)) (fun s8 => J (j + 1) acc (wipeS s8 vs1))) ∧
    ∀ acc s6, J es.length acc s6 → I (i + 1) acc (wipeS s6 vs)) (fun s4 => I (i + 1) acc (wipeS s4 vs))) ∧
  ∀ acc s2, I ds.length acc s2 → q (.ow false (.lst acc)) s2 else False
instance {wi wi1 : TI} {g g1 : TG} {tt tt1 : TT} {te : TE} {vs vs1 : List Nat} {pi pi1 : PI1} {pg pg1 : PG1} {ss ss1 : List Nat} {pt pt1 : PT1} {pe : PD} [LiftI K Ξ wi pi] [LiftG K XI.zero g pg ss] [LiftT K XI.zero tt pt] [LiftI K XI.zero wi1 pi1] [LiftG K XI.zero g1 pg1 ss1] [LiftT K XI.zero tt1 pt1] [LiftD K XI.zero te pe] :
    LiftE K Ξ (tLc2 wi g tt wi1 g1 tt1 te vs vs1) (pLc2 pi pg ss pt pi1 pg1 ss1 pt1 pe vs vs1) := ⟨fun {F H ω s σ Q} kk T h k => by
  refine LiftI.run (K := K) (t := wi) (p := pi) _ T h fun J F1 H1 ω1 ds s1 p1 T1 w1 h1 => ?_
  split at h1
  rotate_left
  · exact h1.elim
  rename_i hss
  rw [Bool.and_eq_true, Bool.and_eq_true] at hss
  have hss0 : ∀ i ∈ ss, i ∈ vs := fun i hi => by simpa using List.all_eq_true.mp hss.1.1 i hi
  have hss1 : ∀ i ∈ ss1, i ∈ vs1 := fun i hi => by simpa using List.all_eq_true.mp hss.1.2 i hi
  have hvv : ∀ i ∈ vs1, i ∈ vs := fun i hi => by simpa using List.all_eq_true.mp hss.2 i hi
  obtain ⟨I, i0, istep, iend⟩ := h1
  obtain ⟨G, Y, W, hG, hY⟩ := w1
  intro A hA
  have e0 : Ext F1 H1 F1 (upd H1 A (.lst [])) := Ext.ow T1.sf hA _
  obtain ⟨p2, T2⟩ := e0.stp T1
  refine walk_it W (B := fun x H' Nx => g x (wipe σ vs) H' fun σ2 H2 => wipe σ2 vs = wipe σ vs ∧ tt σ2 H2 fun b H3 =>
    if b = true then wi1 σ2 H3 fun J1 H4 => ∃ W1 : Nat → Nat → Hp → Prop, (∃ m, W1 0 m H4) ∧ ∀ j k H, W1 j k H →
      (J1.stop j H ∧ Nx H) ∨ (J1.go j H ∧ ∃ Nx1 : Hp → Prop, (∀ H', Nx1 H' → ∃ k', k' < k ∧ W1 (j + 1) k' H') ∧ ∀ x H', J1.yld j H x H' → g1 x (wipe σ2 vs1) H' fun σ3 H5 => wipe σ3 vs1 = wipe σ2 vs1 ∧ tt1 σ3 H5 fun b H6 =>
        if b = true then te σ3 H6 fun y H7 => ∃ acc, H7 A = some (.lst acc) ∧ acc.length < sizeLine ∧ Nx1 (upd H7 A (.lst (acc ++ [y]))) else Nx1 H6)
    else Nx H3)
    (fun i H' => ∃ F2 ω2 s2 acc ws, Stp F1 H1 ω1 F2 H' ω2 ∧ Sta K XI.zero F2 H' ω2 s2 (L2.wipe σ vs) ∧ ω2 A = none ∧ F2 A = none ∧ H' A = some (.lst ws) ∧ RpA K F2 acc ws ∧ I i acc s2) ?_ ?_ ?_ ?_
  · exact ⟨F1, ω1, wipeS s1 vs, [], [], p2, ⟨(T2.wipe vs).base, Exo.zero⟩, Sta.free T1.base hA, T1.sf.free hA, upd_same, rfl, i0⟩
  · rintro i H' hi ⟨F2, ω2, s2, acc, ws, p3, T3, _⟩
    exact hG H' (p3.sf.trans T3.sf)
  · rintro i x H' H'' hi ⟨F2, ω2, s2, acc, ws, p3, T3, a1, a2, a3, a4, hI⟩ y
    have hd : ds[i]? = some ds[i] := List.getElem?_eq_getElem hi
    obtain ⟨F3, e3, r3⟩ := hY i H' x H'' F2 _ hd p3.sf T3.sf y
    obtain ⟨p4, T4⟩ := e3.stp T3
    refine LiftG.run (K := K) (g := g) (p := pg) (ss := ss) _ T4 r3 (istep i _ acc s2 hd hI) fun σ5 s5 T5 w5 h5 => ?_
    have hw5 : L2.wipe σ5 vs = L2.wipe σ vs := by rw [w5 vs hss0]; exact wipe_wipe σ vs
    refine ⟨hw5, ?_⟩
    have pp := p3.trans p4
    refine LiftT.run (K := K) (t := tt) (p := pt) _ _ T5 h5 fun b F6 H6 ω6 s6 p6 T6 h6 => ?_
    have b1 : H'' A = some (.lst ws) := e3.sh _ _ a3
    have b2 : F3 A = none := e3.fn _ _ a3 a2
    have c1 := p6.fr A _ (T1.tb.new hA) a1 b1
    have c2 := p6.fn A _ a1 b1 b2
    have c3 := p6.om A _ a1 b1
    cases b with
    | false =>
      refine iteF ⟨F6, ω6, wipeS s6 vs, acc, ws, pp.trans p6, ?_, c3, c2, c1, a4.mono (e3.sf.trans p6.sf), by simpa using h6⟩
      have T7 := T6.wipe vs
      rw [hw5] at T7
      exact T7
    | true =>
      refine iteT (LiftI.run (K := K) (t := wi1) (p := pi1) _ T6 (by simpa using h6) fun J1 F7 H7 ω7 es s7 p7 T7 w7 h7 => ?_)
      obtain ⟨Jv, j0, jstep, jend⟩ := h7
      obtain ⟨G1, Y1, W1, hG1, hY1⟩ := w7
      have pq := (pp.trans p6).trans p7
      have d1 := p7.fr A _ (T1.tb.new hA) c3 c1
      have d2 := p7.fn A _ c3 c1 c2
      have d3 := p7.om A _ c3 c1
      refine walk_it W1 (B := fun x H' Nx1 => g1 x (wipe σ5 vs1) H' fun σ3 H5 => wipe σ3 vs1 = wipe σ5 vs1 ∧ tt1 σ3 H5 fun b H6 =>
        if b = true then te σ3 H6 fun y H7 => ∃ acc, H7 A = some (.lst acc) ∧ acc.length < sizeLine ∧ Nx1 (upd H7 A (.lst (acc ++ [y]))) else Nx1 H6)
        (fun j H' => ∃ F2 ω2 s2 acc ws, Stp F1 H1 ω1 F2 H' ω2 ∧ Same F7 F2 ∧ Sta K XI.zero F2 H' ω2 s2 (L2.wipe σ5 vs1) ∧ ω2 A = none ∧ F2 A = none ∧ H' A = some (.lst ws) ∧ RpA K F2 acc ws ∧ Jv j acc s2) ?_ ?_ ?_ ?_
      · exact ⟨F7, ω7, wipeS s7 vs1, acc, ws, pq, Same.refl _, T7.wipe vs1, d3, d2, d1, a4.mono ((e3.sf.trans p6.sf).trans p7.sf), j0⟩
      · rintro j H' hj ⟨F2, ω2, s2, acc, ws, p3, sv, T3, _⟩
        exact hG1 H' (sv.trans T3.sf)
      · rintro j x H' H'' hj ⟨F2, ω2, s2, acc, ws, p3, sv, T3, a1, a2, a3, a4, hJ⟩ y
        have he : es[j]? = some es[j] := List.getElem?_eq_getElem hj
        obtain ⟨F3, e3, r3⟩ := hY1 j H' x H'' F2 _ he sv T3.sf y
        obtain ⟨p4, T4⟩ := e3.stp T3
        refine LiftG.run (K := K) (g := g1) (p := pg1) (ss := ss1) _ T4 r3 (jstep j _ acc s2 he hJ) fun σ8 s8 T8 w8 h8 => ?_
        have hw8 : L2.wipe σ8 vs1 = L2.wipe σ5 vs1 := by rw [w8 vs1 hss1]; exact wipe_wipe σ5 vs1
        refine ⟨hw8, ?_⟩
        have pp := p3.trans p4
        refine LiftT.run (K := K) (t := tt1) (p := pt1) _ _ T8 h8 fun b F9 H9 ω9 s9 p9 T9 h9 => ?_
        have b1 : H'' A = some (.lst ws) := e3.sh _ _ a3
        have b2 : F3 A = none := e3.fn _ _ a3 a2
        have c1 := p9.fr A _ (T1.tb.new hA) a1 b1
        have c2 := p9.fn A _ a1 b1 b2
        have c3 := p9.om A _ a1 b1
        cases b with
        | false =>
          refine iteF ⟨F9, ω9, wipeS s9 vs1, acc, ws, pp.trans p9, sv.trans (e3.sf.trans p9.sf), ?_, c3, c2, c1, a4.mono (e3.sf.trans p9.sf), by simpa using h9⟩
          have T10 := T9.wipe vs1
          rw [hw8] at T10
          exact T10
        | true =>
          refine iteT (LiftD.run (K := K) (t := te) (p := pe) _ T9 (by simpa using h9) fun v F10 H10 ω10 d s10 p10 T10 r10 h10 => ?_)
          obtain ⟨hlen, h10⟩ := h10
          have z1 := p10.fr A _ (T1.tb.new hA) c3 c1
          have z2 := p10.fn A _ c3 c1 c2
          have z3 := p10.om A _ c3 c1
          have hlA : ws.length = acc.length := a4.len.symm
          have T11 := T10.wipe vs1
          rw [hw8] at T11
          exact ⟨ws, z1, Nat.lt_trans (show ws.length < 1000000 by omega) (by decide), F10, ω10, wipeS s10 vs1, acc ++ [d], ws ++ [v], ((pp.trans p9).trans p10).mutNew hA, sv.trans ((e3.sf.trans p9.sf).trans p10.sf), ⟨Sta.mutFree T11.base z3 z2 (T1.tb.new hA), Exo.zero⟩, z3, z2, upd_same,
            ((a4.mono ((e3.sf.trans p9.sf).trans p10.sf)).snoc r10), h10⟩
      · rintro H' ⟨F2, ω2, s2, acc, ws, p3, sv, T3, a1, a2, a3, a4, hJ⟩
        refine ⟨F2, ω2, wipeS s2 vs, acc, ws, p3, ?_, a1, a2, a3, a4, jend acc s2 hJ⟩
        have T4 := T3.wipe vs
        rw [show L2.wipe (L2.wipe σ5 vs1) vs = L2.wipe σ vs by rw [wipe_in σ5 hvv]; exact hw5] at T4
        exact T4
  · rintro H' ⟨F2, ω2, s2, acc, ws, p3, T3, a1, a2, a3, a4, hI⟩
    exact k _ F2 H' ω2 (.ow false (.lst acc)) s2 (p1.trans p3) ⟨⟨T3.tb, T3.sf, T3.ow, fun i x h => (T3.at' i x h).elim fun v hv => ⟨v, (wipe_some hv.1).1, hv.2⟩, by rw [T3.len, wipe_length], T3.ix⟩, T1.ex.step p3⟩
      ⟨A, [A], rfl, fun a ha => by cases List.mem_singleton.mp ha; exact ⟨p1.tr A hA, a1, a2⟩, obj_lst a3 a4⟩ (iend acc s2 hI)⟩
end
section
variable {X : Cx} {K : PySem.W.Frag}
theorem pi_listk {tg e : Expr} {ta : TE} (h : X.K = K) (he : PE X e ta) : PI X tg e (iList K ta) := by subst h; exact pi_list he
theorem pi_tupk {tg e : Expr} {ta : TE} (h : X.K = K) (he : PE X e ta) : PI X tg e (iTup K ta) := by subst h; exact pi_tup he
end
/-! ### in, not in: data in a list of data -/
section
variable {X : Cx} {K : PySem.W.Frag}
theorem inDk (h : X.K = K) (hu : X.A.units + 65 < cLine) : OpR X (compareOp .In) (rInD K) := by subst h; exact op_inD hu
theorem niDk (h : X.K = K) (hu : X.A.units + 65 < cLine) : OpR X (compareOp .NotIn) (rNotInD K) := by subst h; exact op_notInD hu
open Classical in
noncomputable def memD (d : D) (xs : List D) : Bool := decide (d ∈ xs)
theorem memD_true {d : D} {xs : List D} (h : d ∈ xs) : memD d xs = true := by unfold memD; exact @decide_eq_true _ (_) h
theorem memD_false {d : D} {xs : List D} (h : d ∉ xs) : memD d xs = false := by unfold memD; exact @decide_eq_false _ (_) h
theorem of_memD {d : D} {xs : List D} (h : memD d xs = true) : d ∈ xs := by unfold memD at h; exact @of_decide_eq_true _ (_) h
theorem of_memD_f {d : D} {xs : List D} (h : memD d xs = false) : d ∉ xs := by unfold memD at h; exact @of_decide_eq_false _ (_) h
def gInD (f : Bool → Bool) : D → D → (S → Prop) → Prop := fun d e q => match e with
  | .lst xs => D.plN 60 d = true ∧ D.plN 60 (.lst xs) = true ∧ q (.fr (.bl (f (memD d xs))))
  | _ => False
theorem pys_any {d : D} (h1 : D.plN 60 d = true) : ∀ {xs : List D}, xs.all (D.plN 59) = true → ((D.pys xs).any fun z => PyData.eqv z d.py) = memD d xs
  | [], _ => (memD_false (by simp)).symm
  | x :: xs, h => by
    have ⟨h2, h3⟩ := all_cons h
    show (PyData.eqv x.py d.py || (D.pys xs).any fun z => PyData.eqv z d.py) = _
    rw [pys_any h1 h3]
    have hx : D.plN 60 x = true := by
      have : ∀ (n : Nat) (d : D), D.plN n d = true → D.plN (n + 1) d = true := by
        intro n
        induction n with
        | zero => intro d h; cases d <;> first | exact h | cases h
        | succ n ih =>
          intro d h
          have al : ∀ ds : List D, ds.all (D.plN n) = true → ds.all (D.plN (n + 1)) = true := fun ds hd =>
            List.all_eq_true.mpr fun x hx => ih _ (List.all_eq_true.mp hd x hx)
          cases d <;> first | exact h | exact al _ h
      exact this 59 x h2
    by_cases e : x = d
    · rw [(eqv_iff 60 hx h1).mpr e, memD_true (show d ∈ x :: xs from e ▸ List.mem_cons_self), Bool.true_or]
    · rw [Bool.eq_false_iff.mpr fun z => e ((eqv_iff 60 hx h1).mp z), Bool.false_or]
      by_cases m : d ∈ xs
      · rw [memD_true m, memD_true (List.mem_cons_of_mem _ m)]
      · rw [memD_false m, memD_false]
        intro z
        rcases List.mem_cons.mp z with z | z
        · exact e z.symm
        · exact m z
theorem gInD_run (f : Bool → Bool) {F H : Hp} {x y : V} {d e : D} {Q : VK} (q : S → Prop) (hs : Same F H) (h1 : Rp K F d x) (h2 : Rp K F e y) (h : gInD f d e q) (k : ∀ v F' H' z, Ext F H F' H' → Rn K H F' H' z v → q z → Q v H') :
    ∃ a b, Dp K H x a ∧ Dp K H y (.list b) ∧ SeqAt.shaped a = true ∧ SeqAt.shaped (.list b) = true ∧ Q (.bl (f (b.any fun z => PyData.eqv z a))) H := by
  unfold gInD at h
  split at h
  · rename_i xs
    obtain ⟨p1, p2, hq⟩ := h
    obtain ⟨a1, a2, a3⟩ := py_of 60 p1 (h1.mono hs)
    obtain ⟨b1, b2, b3⟩ := py_of 60 p2 (h2.mono hs)
    refine ⟨_, D.pys xs, a1, b1, shaped_mk a2 (Nat.le_trans a3 (by decide)), shaped_mk b2 (Nat.le_trans b3 (by decide)), ?_⟩
    rw [pys_any p1 p2]
    exact k _ F H (.fr (.bl _)) (Ext.refl hs) rfl hq
  · exact h.elim
instance : OpL K (rInD K) (gInD id) := ⟨fun q hs h1 h2 h k => gInD_run id q hs h1 h2 h k⟩
instance : OpL K (rNotInD K) (gInD not) := ⟨fun q hs h1 h2 h k => gInD_run not q hs h1 h2 h k⟩
end
/-! ### == of an own list that stays own (printed where cfg's eqown says) -/
section
variable {X : Cx} {K : PySem.W.Frag} {Ξ : XI}
def rEqDV (K : PySem.W.Frag) : R2 := rEqD K
theorem eqDkV (h : X.K = K) (hu : X.A.units + 64 < cLine) : OpR X (compareOp .Eq) (rEqDV K) := eqDk h hu
def pEqV (i : Nat) (p : PD) : PX := fun s q => (∃ b xs, s[i]? = some (some (.ow b (.lst xs)))) ∧ p s fun e s1 => ∃ b xs, s1[i]? = some (some (.ow b (.lst xs))) ∧ D.plN 60 (.lst xs) = true ∧ D.plN 60 e = true ∧ q (.fr (.bl (eqD (.lst xs) e))) s1
instance {i : Nat} {t : TE} {p : PD} [LiftD K Ξ t p] : LiftE K Ξ (tOp (rEqDV K) (tVar i) t) (pEqV i p) := ⟨fun {F H ω s σ Q} q T h k => by
  obtain ⟨⟨b0, xs0, e0⟩, h⟩ := h
  obtain ⟨v0, hv0, _⟩ := T.lst i e0
  refine ⟨v0, hv0, LiftD.run (K := K) (t := t) (p := p) _ T h fun y F1 H1 ω1 e s1 p1 T1 r1 h1 => ?_⟩
  obtain ⟨b, xs, e1, hp1, hp2, hq⟩ := h1
  obtain ⟨v, hv, l, rfl, hl, ws, h2, h3⟩ := T1.lst i e1
  rw [hv0] at hv
  cases hv
  have al : xs.all (D.plN 59) = true := hp1
  have h3' : RpA K H1 xs ws := h3.mono T1.sf
  obtain ⟨a1, a2, a3⟩ := pys_of (n := 59) (F := H1) (fun hp h => py_of 59 hp h) al h3'
  obtain ⟨b1, b2, b3⟩ := py_of 60 hp2 (r1.mono T1.sf)
  have hdp : (PyData.list (D.pys xs)).depth ≤ 64 := by
    have : (PyData.list (D.pys xs)).depth = PyData.depthAll (D.pys xs) + 1 := by first | rfl | exact Nat.add_comm _ _
    omega
  refine ⟨.list (D.pys xs), _, .lst (SqL.of h2) a1, b1, shaped_mk a2 hdp, shaped_mk b2 (Nat.le_trans b3 (by decide)), ?_⟩
  rw [show PyData.eqv (.list (D.pys xs)) e.py = eqD (.lst xs) e from eqD_is (d := .lst xs) hp1 hp2]
  exact k _ F1 H1 ω1 (.fr (.bl _)) s1 p1 T1 rfl hq⟩
def rNeDV (K : PySem.W.Frag) : R2 := rNeD K
theorem neDkV (h : X.K = K) (hu : X.A.units + 64 < cLine) : OpR X (compareOp .NotEq) (rNeDV K) := neDk h hu
def pNeV (i : Nat) (p : PD) : PX := fun s q => (∃ b xs, s[i]? = some (some (.ow b (.lst xs)))) ∧ p s fun e s1 => ∃ b xs, s1[i]? = some (some (.ow b (.lst xs))) ∧ D.plN 60 (.lst xs) = true ∧ D.plN 60 e = true ∧ q (.fr (.bl (!eqD (.lst xs) e))) s1
instance {i : Nat} {t : TE} {p : PD} [LiftD K Ξ t p] : LiftE K Ξ (tOp (rNeDV K) (tVar i) t) (pNeV i p) := ⟨fun {F H ω s σ Q} q T h k => by
  obtain ⟨⟨b0, xs0, e0⟩, h⟩ := h
  obtain ⟨v0, hv0, _⟩ := T.lst i e0
  refine ⟨v0, hv0, LiftD.run (K := K) (t := t) (p := p) _ T h fun y F1 H1 ω1 e s1 p1 T1 r1 h1 => ?_⟩
  obtain ⟨b, xs, e1, hp1, hp2, hq⟩ := h1
  obtain ⟨v, hv, l, rfl, hl, ws, h2, h3⟩ := T1.lst i e1
  rw [hv0] at hv
  cases hv
  have al : xs.all (D.plN 59) = true := hp1
  have h3' : RpA K H1 xs ws := h3.mono T1.sf
  obtain ⟨a1, a2, a3⟩ := pys_of (n := 59) (F := H1) (fun hp h => py_of 59 hp h) al h3'
  obtain ⟨b1, b2, b3⟩ := py_of 60 hp2 (r1.mono T1.sf)
  have hdp : (PyData.list (D.pys xs)).depth ≤ 64 := by
    have : (PyData.list (D.pys xs)).depth = PyData.depthAll (D.pys xs) + 1 := by first | rfl | exact Nat.add_comm _ _
    omega
  refine ⟨.list (D.pys xs), _, .lst (SqL.of h2) a1, b1, shaped_mk a2 hdp, shaped_mk b2 (Nat.le_trans b3 (by decide)), ?_⟩
  rw [show PyData.eqv (.list (D.pys xs)) e.py = eqD (.lst xs) e from eqD_is (d := .lst xs) hp1 hp2]
  exact k _ F1 H1 ω1 (.fr (.bl _)) s1 p1 T1 rfl hq⟩
end
/-! ### xs[i] += e: a list's item -/
section
variable {X : Cx} {K : PySem.W.Frag} {Ξ : XI}
theorem get_list (h : X.K = K) : PGet X (rIxL K) := by
  subst h
  intro pins s σ H o i ov iv Q I ro ri h
  obtain ⟨p, xs, k, z, rfl, rfl, hq, he, q⟩ := h
  cases ro
  obtain ⟨t, rfl⟩ := ri
  obtain ⟨its, r, pl, hz⟩ := I.list hq
  obtain ⟨j, h1, h2, h3, h4, h5⟩ := L2.atI_get he
  obtain ⟨w, ew, rw'⟩ := r.get h2
  have hl := r.length
  have hn := line63
  have fin : EP X pins σ Q w s := ⟨z, H, I, rw', q⟩
  by_cases h0 : 0 ≤ k
  · have hj : k.toNat = j := by
      rw [seqIndex_of h0 h5] at h1
      exact Option.some.inj h1
    exact wpAny_getItem_list pl.isList h0 (by omega) (by rw [hj]; simpa using ew) fin
  · have hj : (k + (its.toArray.size : Int)).toNat = j := by
      rw [seqIndex_neg (by omega) h4] at h1
      rw [List.size_toArray, ← hl]
      exact Option.some.inj h1
    exact wpAny_getItem_list_neg (Q := fun r s' => EP X pins σ Q r s') pl.isList (by omega) (by rw [List.size_toArray] <;> omega) (by omega) (by rw [hj]; simpa using ew) fin
/-- the item's number, a number: the list is own -/
def psAugSub (i : Nat) (pi pe : PD) (f : Int → Int → Int) : PS1 := fun E s => (∃ b xs, s[i]? = some (some (.ow b (.lst xs)))) ∧ pi s fun e s1 => match e with
  | .int k => ∃ b xs j a, s1[i]? = some (some (.ow b (.lst xs))) ∧ ixN xs.length k = some j ∧ xs[j]? = some (.int a) ∧ pe s1 fun d s2 => match d with
    | .int c => ∃ b', s2[i]? = some (some (.ow b' (.lst xs))) ∧ E.nx (s2.set i (some (.ow b' (.lst (xs.set j (.int (f a c)))))))
    | _ => False
  | _ => False
instance {i : Nat} {ti te : TE} {pi pe : PD} {f : Int → Int → Int} [LiftD K Ξ ti pi] [LiftD K Ξ te pe] : LiftS K Ξ (tAugS (tVar i) ti te (rIxL K) (ipI f) rSetL) (psAugSub i pi pe f) := ⟨fun E T h M => by
  obtain ⟨⟨b0, xs0, e0⟩, h⟩ := h
  obtain ⟨v0, hv0, _⟩ := T.lst i e0
  refine ⟨v0, hv0, LiftD.run (K := K) (t := ti) (p := pi) _ T h fun v F1 H1 ω1 d s1 p1 T1 r1 h1 => ?_⟩
  split at h1
  · rename_i k
    obtain ⟨b, xs, j, a, e1, ej, ea, h1⟩ := h1
    obtain ⟨v1, hv1, l, rfl, hl, ws, q1, q2⟩ := T1.lst i e1
    rw [hv0] at hv1
    cases hv1
    cases (show v = _ from r1)
    have hat : atI xs k = some (.int a) := by
      unfold L2.atI
      rw [ej]
      exact ea
    obtain ⟨z, hz, rz⟩ := q2.atI hat
    cases (show z = _ from rz)
    refine ⟨l, ws, k, _, rfl, rfl, SqL.of q1, hz, ?_⟩
    refine LiftD.run (K := K) (t := te) (p := pe) _ T1 h1 fun w F2 H2 ω2 d2 s2 p2 T2 r2 h2 => ?_
    split at h2
    · rename_i c
      obtain ⟨b', e2, h2⟩ := h2
      cases (show w = _ from r2)
      obtain ⟨v2, hv2, l2, rfl, hl2, ws2, q3, q4⟩ := T2.lst i e2
      rw [hv0] at hv2
      cases hv2
      refine ⟨a, c, rfl, rfl, ?_⟩
      refine ⟨l, ws2, k, j, rfl, rfl, q3, by rw [← q4.len]; exact ej, ?_⟩
      obtain ⟨ω3, p3, T3⟩ := T2.mut (u := .lst (ws2.set j (.int (f a c)))) hv0 hl2 (o' := .lst (xs.set j (.int (f a c)))) (obj_lst upd_same (q4.set j rfl))
      exact M.nx ((p1.trans p2).trans p3) T3 h2
    · exact h2.elim
  · exact h1.elim⟩
end
/-! ### places: a part of a name's own object (an item of an own list of own lists, a field of an own object), read and changed in place -/
section
variable {K : PySem.W.Frag} {Ξ : XI} {F H : Hp}
/-- l holds parts with these values -/
def PartsAt (H : Hp) (l : Addr) (vs : List V) : Prop := H l = some (.lst vs) ∨ H l = some (.tup vs) ∨ ∃ (C dx : Addr) (ns : List Str), H l = some (.ins C dx (ns.zip vs)) ∧ ns.length = vs.length
theorem PartsAt.uniq {l : Addr} {vs ws : List V} (h : PartsAt H l vs) (g : PartsAt H l ws) : vs = ws := by
  rcases h with h | h | ⟨C, dx, ns, h, e⟩ <;> rcases g with g | g | ⟨C', dx', ns', g, e'⟩ <;> rw [h] at g
  case inr.inr.inr.inr =>
    have g := Option.some.inj g
    injection g with _ _ q
    have := congrArg (List.map Prod.snd) q
    rwa [List.map_snd_zip (by omega), List.map_snd_zip (by omega)] at this
  all_goals first | (cases g; rfl) | (cases g; done)
def O.parts : O → Option (List S)
  | .nl cs => some cs
  | .nt cs => some cs
  | .ob _ _ cs => some cs
  | _ => none
def O.setPart (j : Nat) (x : S) : O → O
  | .nl cs => .nl (cs.set j x)
  | .nt cs => .nt (cs.set j x)
  | .ob C ns cs => .ob C ns (cs.set j x)
  | o => o
theorem ObjR.parts {o : O} {l : Addr} {A : List Addr} {cs : List S} (h : ObjR K F H o l A) (e : o.parts = some cs) : ∃ vs B, A = l :: B ∧ l ∉ B ∧ PartsAt H l vs ∧ PtsR K F H cs vs B := by
  cases o with
  | nl xs => cases e; obtain ⟨vs, B, h1, h2, h3, h4⟩ := h; exact ⟨vs, B, h1, h2, .inl h3, h4⟩
  | nt xs => cases e; obtain ⟨vs, B, h1, h2, h3, h4⟩ := h; exact ⟨vs, B, h1, h2, .inr (.inl h3), h4⟩
  | ob C ns xs => cases e; obtain ⟨dx, vs, B, h1, h2, h3, h4, h5⟩ := h; exact ⟨vs, B, h1, h2, .inr (.inr ⟨_, _, _, h3, h4⟩), h5⟩
  | lst _ => cases e
  | dk _ => cases e
  | dn _ _ => cases e
/-- the object with one part changed in place (its value stays) -/
theorem ObjR.setPart {H2 : Hp} {o : O} {l : Addr} {A B' : List Addr} {cs : List S} {vs : List V} {j : Nat} {x : S} (h : ObjR K F H o l A) (e : o.parts = some cs) (hp : PartsAt H l vs) (hl : H2 l = H l) (hB : l ∉ B') (hr : PtsR K F H2 (cs.set j x) vs B') : ObjR K F H2 (o.setPart j x) l (l :: B') := by
  cases o with
  | nl xs =>
    cases e; obtain ⟨ws, B, h1, h2, h3, h4⟩ := h
    cases hp.uniq (.inl h3)
    exact ⟨vs, B', rfl, hB, hl.trans h3, hr⟩
  | nt xs =>
    cases e; obtain ⟨ws, B, h1, h2, h3, h4⟩ := h
    cases hp.uniq (.inr (.inl h3))
    exact ⟨vs, B', rfl, hB, hl.trans h3, hr⟩
  | ob C ns xs =>
    cases e; obtain ⟨dx, ws, B, h1, h2, h3, h4, h5⟩ := h
    cases hp.uniq (.inr (.inr ⟨_, _, _, h3, h4⟩))
    exact ⟨dx, vs, B', rfl, hB, hl.trans h3, h4, hr⟩
  | lst _ => cases e
  | dk _ => cases e
  | dn _ _ => cases e
/-- the j-th part, and the others -/
theorem PtsR.part : ∀ {cs : List S} {vs : List V} {B : List Addr} {j : Nat} {b : Bool} {o : O}, PtsR K F H cs vs B → cs[j]? = some (.ow b o) →
    ∃ l A1, vs[j]? = some (.ref l) ∧ ObjR K F H o l A1 ∧ (∀ a ∈ A1, a ∈ B) ∧
      ∀ (H2 : Hp) (x : S) (A2 : List Addr), (∀ a, a ∉ A1 → ∀ u, H a = some u → H2 a = some u) → PtR K F H2 x (.ref l) A2 → (∀ a ∈ A2, a ∈ A1 ∨ H a = none) → ∃ B', PtsR K F H2 (cs.set j x) vs B' ∧ ∀ a ∈ B', a ∈ B ∨ a ∈ A2
  | [], _, _, _, _, _, _, e => by simp at e
  | c :: cs, vs, B, 0, b, o, r, e => by
    have e : c = .ow b o := by simpa using e
    subst e
    obtain ⟨l, ws, A1, A2, rfl, rfl, h1, h2, h3⟩ := r
    refine ⟨l, A1, rfl, h2, fun a ha => List.mem_append_left _ ha, fun H2 x B1 hk hx hn => ?_⟩
    have k3 : PtsR K F H2 cs ws A2 := h3.heap fun a ha u hu => hk a (fun z => h1 a z ha) u hu
    refine ⟨B1 ++ A2, PtsR.cons hx (fun a ha z => ?_) k3, fun a ha => (List.mem_append.mp ha).elim .inr fun z => .inl (List.mem_append_right _ z)⟩
    rcases hn a ha with y | y
    · exact h1 a y z
    · obtain ⟨u, hu⟩ := h3.has a z
      rw [hu] at y
      cases y
  | c :: cs, vs, B, j + 1, b, o, r, e => by
    have e : cs[j]? = some (.ow b o) := by simpa using e
    obtain ⟨u, ws, A1, B2, rfl, rfl, h1, h2, h3⟩ := r.uncons
    obtain ⟨l, A', q1, q2, q3, q4⟩ := PtsR.part h3 e
    refine ⟨l, A', by simpa using q1, q2, fun a ha => List.mem_append_right _ (q3 a ha), fun H2 x B1 hk hx hn => ?_⟩
    obtain ⟨B', p1, p2⟩ := q4 H2 x B1 hk hx hn
    have k2 : PtR K F H2 c u A1 := h2.keep fun a ha w hw => hk a (fun z => h1 a ha (q3 a z)) w hw
    refine ⟨A1 ++ B', PtsR.cons k2 (fun a ha z => ?_) p1, fun a ha => ?_⟩
    · rcases p2 a z with y | y
      · exact h1 a ha y
      · rcases hn a y with y | y
        · exact h1 a ha (q3 a y)
        · obtain ⟨w, hw⟩ : ∃ w, H a = some w := by
            cases c with
            | fr d => rw [h2.2] at ha; cases ha
            | hid d => rw [h2.2] at ha; cases ha
            | ow b' o' => obtain ⟨l', _, h2⟩ := h2; exact h2.has a ha
          rw [hw] at y
          cases y
    · rcases List.mem_append.mp ha with y | y
      · exact .inl (List.mem_append_left _ y)
      · exact (p2 a y).imp (fun z => List.mem_append_right _ z) id
/-- where a part's value stands -/
def PlAt (H : Hp) (σ : L2.St) (i j : Nat) (v : V) : Prop := ∃ l vs, σ[i]? = some (some (.ref l)) ∧ PartsAt H l vs ∧ vs[j]? = some v
theorem PlAt.same {H' : Hp} {σ : L2.St} {i j : Nat} {v : V} (h : PlAt H σ i j v) (e : Same H H') : PlAt H' σ i j v := by
  obtain ⟨l, vs, h1, h2, h3⟩ := h
  refine ⟨l, vs, h1, ?_, h3⟩
  rcases h2 with h | h | ⟨C, dx, ns, h, n⟩
  · exact .inl (e _ _ h)
  · exact .inr (.inl (e _ _ h))
  · exact .inr (.inr ⟨C, dx, ns, e _ _ h, n⟩)
/-- an own part in a slot -/
def ptS (x : Option (Option S)) (j : Nat) (f : O → Prop) : Prop := match x with
  | some (some (.ow _ o)) => match o.parts with
    | some cs => match cs[j]? with
      | some (.ow _ o') => f o'
      | _ => False
    | none => False
  | _ => False
def setP (x : Option (Option S)) (j : Nat) (o' : O) : Option S := match x with
  | some (some (.ow b o)) => some (.ow b (o.setPart j (.ow false o')))
  | _ => none
/-- what stands at a place, and how it is changed -/
theorem ptS_run {i j : Nat} {ω : Om} {s : Sl} {σ : L2.St} {v : V} {f : O → Prop} (T : Sta K Ξ F H ω s σ) (hp : PlAt H σ i j v) (h : ptS s[i]? j f) :
    ∃ l' o' A1, v = .ref l' ∧ F l' = none ∧ ObjR K F H o' l' A1 ∧ f o' ∧ ∀ (u : HO) (o'' : O), A1 = [l'] → ObjR K F (upd H l' u) o'' l' [l'] →
      ∃ ω', Stp F H ω F (upd H l' u) ω' ∧ Sta K Ξ F (upd H l' u) ω' (s.set i (setP s[i]? j o'')) σ := by
  unfold ptS at h
  split at h
  · rename_i b o e
    split at h
    · rename_i cs ec
      split at h
      · rename_i b' o' ej
        obtain ⟨v0, hv, l, A, rfl, h1, h2, h3⟩ := T.at' i _ e
        obtain ⟨vs, B, rfl, h4, h5, h6⟩ := h3.parts ec
        obtain ⟨l2, vs2, g1, g2, g3⟩ := hp
        rw [hv] at g1
        cases g1
        cases h5.uniq g2
        obtain ⟨l', A1, q1, q2, q3, q4⟩ := PtsR.part h6 ej
        rw [g3] at q1
        cases q1
        have hlB : ∀ a ∈ A1, a ≠ l := fun a ha z => h4 (by rw [← z]; exact q3 a ha)
        have hω : ω l' = some (i, tgP b) := h2 l' (List.mem_cons_of_mem _ (q3 l' q2.root.1)) (hlB l' q2.root.1)
        refine ⟨l', o', A1, rfl, (T.ow l' _ hω).1, q2, h, fun u o'' eA hu => ?_⟩
        subst eA
        obtain ⟨B', r1, r2⟩ := q4 (upd H l' u) (.ow false o'') [l'] (fun a ha w hw => by rw [upd_ne fun z => ha (List.mem_singleton.mpr z)]; exact hw) ⟨l', rfl, hu⟩ (fun a ha => .inl ha)
        have hl : l ∉ B' := fun z => (r2 l z).elim h4 fun y => hlB l' (List.mem_singleton.mpr rfl) (List.mem_singleton.mp y).symm
        have hne : l ≠ l' := fun z => hlB l' (List.mem_singleton.mpr rfl) z.symm
        have ho := ObjR.setPart (H2 := upd H l' u) (j := j) (x := .ow false o'') h3 ec h5 (upd_ne hne) hl r1
        have es : setP s[i]? j o'' = some (.ow b (o.setPart j (.ow false o''))) := by rw [e]; rfl
        rw [es]
        exact T.chg (A := l :: B) (A2 := l :: B') hv h1 h2 (fun a ha w hw => by rw [upd_ne fun z => ha (by rw [z]; exact List.mem_cons_of_mem _ (q3 l' (List.mem_singleton.mpr rfl)))]; exact hw) upd_keep (fun a ha => by
          rcases List.mem_cons.mp ha with z | z
          · exact .inl (by rw [z]; exact List.mem_cons_self)
          · rcases r2 a z with y | y
            · exact .inl (List.mem_cons_of_mem _ y)
            · exact .inl (by rw [List.mem_singleton.mp y]; exact List.mem_cons_of_mem _ (q3 l' (List.mem_singleton.mpr rfl)))) List.mem_cons_self ho
      · exact h.elim
    · exact h.elim
  · exact h.elim
/-! which terms are places -/
abbrev PPl := Sl → (Nat → Nat → Sl → Prop) → Prop
class LiftPl (K : PySem.W.Frag) (Ξ : XI) (t : TE) (is : outParam (Sl → Bool)) (p : outParam PPl) : Prop where
  run : ∀ {F H : Hp} {ω : Om} {s : Sl} {σ : L2.St} {Q : V → Hp → Prop} (q : Nat → Nat → Sl → Prop), Sta K Ξ F H ω s σ → p s q →
    (∀ v F' H' ω' i j s', Stp F H ω F' H' ω' → Sta K Ξ F' H' ω' s' σ → PlAt H' σ i j v → q i j s' → Q v H') → t σ H Q
def isObP (f : Str) (i : Nat) (s : Sl) : Bool := match s[i]? with
  | some (some (.ow _ (.ob _ ns cs))) => match (ns.zip cs).lookup f with
    | some (.ow _ _) => true
    | _ => false
  | _ => false
def idxN (f : Str) : List Str → Option Nat
  | [] => none
  | n :: ns => if f == n then some 0 else (idxN f ns).map (· + 1)
theorem idxN_look {f : Str} : ∀ {ns : List Str} {vs : List V} {j : Nat}, ns.length = vs.length → idxN f ns = some j → ∃ v, vs[j]? = some v ∧ (ns.zip vs).lookup f = some v
  | [], _, _, _, h => by cases h
  | n :: ns, [], _, e, _ => by simp at e
  | n :: ns, v :: vs, j, e, h => by
    unfold idxN at h
    rw [List.zip_cons_cons, List.lookup_cons]
    by_cases z : (f == n) = true
    · rw [if_pos z] at h
      cases h
      rw [z]
      exact ⟨v, rfl, rfl⟩
    · rw [if_neg z] at h
      obtain ⟨k, hk, rfl⟩ := Option.map_eq_some_iff.mp h
      obtain ⟨w, h1, h2⟩ := idxN_look (Nat.succ.inj e) hk
      rw [Bool.not_eq_true] at z
      rw [z]
      exact ⟨w, by simpa using h1, h2⟩
def plFld (Cs : List Addr) (f : Str) (i : Nat) : PPl := fun s q => match s[i]? with
  | some (some (.ow _ (.ob C ns cs))) => inC Cs C ∧ match idxN f ns with
    | some j => q i j s
    | none => False
  | _ => False
instance {Cs : List Addr} {f : Str} {i : Nat} : LiftPl K Ξ (tFldC Cs (tVar i) f) (isObP f i) (plFld Cs f i) := ⟨fun {F H ω s σ Q} q T h k => by
  unfold plFld at h
  split at h
  · rename_i b C ns cs e
    obtain ⟨hc, h⟩ := h
    split at h
    · rename_i j ej
      obtain ⟨v, hv, l, A, rfl, h1, h2, dx, vs, B, rfl, h3, h4, h5, h6⟩ := T.at' i _ e
      obtain ⟨u, hu, hu2⟩ := idxN_look h5 ej
      exact ⟨_, hv, l, C, dx, _, u, rfl, h4, inC_mem hc, hu2, k u F H ω i j s (Stp.refl T.tb) T ⟨l, vs, hv, .inr (.inr ⟨C, dx, ns, h4, h5⟩), hu⟩ h⟩
    · exact h.elim
  · exact h.elim⟩
def isNlP (i : Nat) (s : Sl) : Bool := match s[i]? with
  | some (some (.ow _ (.nl _))) => true
  | _ => false
def plIx (i : Nat) (pi : PD) : PPl := fun s q => match s[i]? with
  | some (some (.ow _ (.nl _))) => pi s fun e s1 => match e, s1[i]? with
    | .int z, some (some (.ow _ (.nl cs))) => match ixN cs.length z with
      | some j => q i j s1
      | none => False
    | _, _ => False
  | _ => False
theorem PtsR.ilen {cs : List S} {vs : List V} {A : List Addr} (h : PtsR K F H cs vs A) : vs.length = cs.length := h.len.symm
instance {i : Nat} {ti : TE} {pi : PD} [LiftD K Ξ ti pi] : LiftPl K Ξ (tOp (rIxL K) (tVar i) ti) (isNlP i) (plIx i pi) := ⟨fun {F H ω s σ Q} q T h k => by
  unfold plIx at h
  split at h
  · rename_i b cs0 e
    obtain ⟨v0, hv0, _⟩ := T.at' i _ e
    refine ⟨v0, hv0, LiftD.run (K := K) (t := ti) (p := pi) _ T h fun w F2 H2 ω2 d s2 p2 T2 r2 h2 => ?_⟩
    split at h2
    · rename_i z b2 cs e1
      split at h2
      · rename_i j ej
        obtain ⟨v, hv, l, A, rfl, h1, h3, vs, B, rfl, h4, h5, h6⟩ := T2.at' i _ e1
        rw [hv0] at hv
        cases hv
        cases (show w = _ from r2)
        have hj : ixN vs.length z = some j := by rw [h6.ilen]; exact ej
        have hlt : j < vs.length := by
          have := (ixN_seq hj).2.1
          exact this
        exact ⟨l, vs, z, vs[j], rfl, rfl, SqL.of h5, by unfold atI; rw [hj]; exact List.getElem?_eq_getElem hlt, k _ F2 H2 ω2 i j s2 p2 T2 ⟨l, vs, hv0, .inl h5, List.getElem?_eq_getElem hlt⟩ h2⟩
      · exact h2.elim
    · exact h2.elim
  · exact h.elim⟩
end
/-! ### readings at places -/
section
variable {K : PySem.W.Frag} {Ξ : XI}
/-- data, by a step that leaves all that stands on the heap -/
class LiftH (K : PySem.W.Frag) (Ξ : XI) (t : TE) (p : outParam PD) : Prop where
  run : ∀ {F H : Hp} {ω : Om} {s : Sl} {σ : L2.St} {Q : VK} (q : D → Sl → Prop), Sta K Ξ F H ω s σ → p s q →
    (∀ v F' H' ω' d s', Stp F H ω F' H' ω' → Sta K Ξ F' H' ω' s' σ → Rp K F' d v → Same H H' → q d s' → Q v H') → t σ H Q
class LiftAH (K : PySem.W.Frag) (Ξ : XI) (t : TA) (p : outParam PA1) : Prop where
  run : ∀ {F H : Hp} {ω : Om} {s : Sl} {σ : L2.St} {Q : List V → Hp → Prop} (q : List D → Sl → Prop), Sta K Ξ F H ω s σ → p s q →
    (∀ vs F' H' ω' ds s', Stp F H ω F' H' ω' → Sta K Ξ F' H' ω' s' σ → RpA K F' ds vs → Same H H' → q ds s' → Q vs H') → t σ H Q
instance : LiftAH K Ξ tNil (fun s q => q [] s) := ⟨fun {F H ω s σ Q} q T h k => k [] F H ω [] s (Stp.refl T.tb) T rfl (Same.refl H) h⟩
instance {t : TE} {r : TA} {p : PD} {pr : PA1} [LiftH K Ξ t p] [LiftAH K Ξ r pr] : LiftAH K Ξ (tCons t r) (pCons p pr) := ⟨fun kk T h k => by
  refine LiftH.run (K := K) (t := t) (p := p) _ T h fun x F1 H1 ω1 d s1 p1 T1 r1 e1 h1 => ?_
  refine LiftAH.run (K := K) (t := r) (p := pr) _ T1 h1 fun vs F2 H2 ω2 ds s2 p2 T2 r2 e2 h2 => ?_
  exact k _ F2 H2 ω2 (d :: ds) s2 (p1.trans p2) T2 ⟨x, vs, rfl, r1.mono p2.sf, r2⟩ (e1.trans e2) h2⟩
def phVar (i : Nat) : PD := fun s q => pVar i s fun x s' => q x.dat s'
instance (i : Nat) : LiftH K Ξ (tVar i) (phVar i) := ⟨fun {F H ω s σ Q} q T h k => by
  obtain ⟨v, F', ω', d, s', hv, p, T', r, hq⟩ := liftVar i (fun x s' => q x.dat s') T h
  exact ⟨v, hv, k v F' _ ω' d s' p T' r (Same.refl H) hq⟩⟩
def phC (d : D) : PD := fun s q => q d s
instance {v : V} {d : D} [ConD K v d] : LiftH K Ξ (tC v) (phC d) := ⟨fun {F H ω s σ Q} q T h k => k v F H ω d s (Stp.refl T.tb) T (ConD.rp F : Rp K F d v) (Same.refl H) h⟩
/-- data of a fresh result -/
def frD (x : S) (q : D → Prop) : Prop := match x with
  | .fr d => q d
  | _ => False
instance {r : R2} {g : D → D → (S → Prop) → Prop} {ta tb : TE} {pa pb : PD} [OpL K r g] [LiftH K Ξ ta pa] [LiftH K Ξ tb pb] : LiftH K Ξ (tOp r ta tb) (fun s q => pa s fun d s1 => pb s1 fun e s2 => g d e fun z => frD z fun x => q x s2) := ⟨fun q T h k => by
  refine LiftH.run (K := K) (t := ta) (p := pa) _ T h fun x F1 H1 ω1 d s1 p1 T1 r1 e1 h1 => ?_
  refine LiftH.run (K := K) (t := tb) (p := pb) _ T1 h1 fun y F2 H2 ω2 e s2 p2 T2 r2 e2 h2 => ?_
  refine OpL.run (K := K) (r := r) (g := g) _ T2.sf (r1.mono p2.sf) r2 h2 fun v F3 H3 z e3 r3 hq => ?_
  obtain ⟨p3, T3⟩ := e3.stp T2
  cases z with
  | fr x => exact k v F3 H3 ω2 x s2 ((p1.trans p2).trans p3) T3 r3 ((e1.trans e2).trans e3.sh) hq
  | ow _ _ => exact hq.elim
  | hid _ => exact hq.elim⟩
instance {t : TA} {p : PA1} [LiftAH K Ξ t p] : LiftH K Ξ (tTup t) (fun s q => p s fun ds s1 => if ds.length ≤ 1000 then q (.tup ds) s1 else False) := ⟨fun {F H ω s σ Q} kk T h k => by
  refine LiftAH.run (K := K) (t := t) (p := p) _ T h fun vs F1 H1 ω1 ds s1 p1 T1 r1 e1 h1 => ?_
  split at h1
  · rename_i hl
    refine ⟨Nat.le_trans (r1.len ▸ hl) (by decide), fun a ha => ?_⟩
    have e := Ext.fz T1.sf ha (.tup vs)
    obtain ⟨p2, T2⟩ := e.stp T1
    exact k _ _ _ ω1 (.tup ds) s1 (p1.trans p2) T2 ⟨a, vs, rfl, SqT.of upd_same, r1.mono e.sf⟩ (e1.trans e.sh) h1
  · exact h1.elim⟩
instance (priority := low) {Cs : List Addr} {f : Str} {i : Nat} : LiftH K Ξ (tFldC Cs (tVar i) f) (fun s q => match s[i]? with
  | some (some (.ow _ (.ob C ns cs))) => inC Cs C ∧ match (ns.zip cs).lookup f with
    | some (.fr d) => q d s
    | _ => False
  | some (some (.fr d)) => gFld Cs f d fun z => q z s
  | _ => False) := ⟨fun {F H ω s σ Q} q T h k => by
  split at h
  · rename_i b C ns cs e
    obtain ⟨hc, h⟩ := h
    split at h
    · rename_i d e2
      obtain ⟨v, hv, l, A, rfl, h1, h2, dx, vs, B, rfl, h3, h4, h5, h6⟩ := T.at' i _ e
      obtain ⟨u, hu, r⟩ := h6.look e2
      exact ⟨_, hv, l, C, dx, _, u, rfl, h4, inC_mem hc, hu, k u F H ω d s (Stp.refl T.tb) T r (Same.refl H) h⟩
    · exact h.elim
  · rename_i d e
    obtain ⟨v, hv, r1⟩ := T.at' i _ e
    unfold gFld at h
    split at h
    · rename_i C ns ds
      obtain ⟨hc, h1⟩ := h
      split at h1
      · rename_i z e
        obtain ⟨a, dx, vs, rfl, h2, h3, h4⟩ := r1
        obtain ⟨v, hv2, rv⟩ := h4.look e
        exact ⟨_, hv, a, C, dx, _, v, rfl, T.sf _ _ h2, inC_mem hc, hv2, k v F H ω z s (Stp.refl T.tb) T rv (Same.refl H) h1⟩
      · exact h1.elim
    · exact h.elim
  · exact h.elim⟩
/-! one of two readings, by the slots -/
def pEi (is : Sl → Bool) (a b : PX) : PX := fun s q => match is s with
  | true => a s q
  | false => b s q
theorem pEi_run {is : Sl → Bool} {a b : PX} {t : TE} {F H : Hp} {ω : Om} {s : Sl} {σ : L2.St} {Q : VK} (q : S → Sl → Prop) (T : Sta K Ξ F H ω s σ) (h : pEi is a b s q) (ha : a s q → t σ H Q) (hb : b s q → t σ H Q) : t σ H Q := by
  unfold pEi at h
  split at h
  · exact ha h
  · exact hb h
/-- the own list at a place -/
def ptL (x : Option (Option S)) (j : Nat) (f : List D → Prop) : Prop := ptS x j fun o => match o with
  | .lst xs => f xs
  | _ => False
theorem ptL_run {F H : Hp} {i j : Nat} {ω : Om} {s : Sl} {σ : L2.St} {v : V} {f : List D → Prop} (T : Sta K Ξ F H ω s σ) (hp : PlAt H σ i j v) (h : ptL s[i]? j f) :
    ∃ l' xs ws, v = .ref l' ∧ F l' = none ∧ H l' = some (.lst ws) ∧ RpA K F xs ws ∧ f xs ∧ ∀ us ys, RpA K F ys us → ∃ ω', Stp F H ω F (upd H l' (.lst us)) ω' ∧ Sta K Ξ F (upd H l' (.lst us)) ω' (s.set i (setP s[i]? j (.lst ys))) σ := by
  obtain ⟨l', o', A1, rfl, hF, ho, hf, hm⟩ := ptS_run T hp h
  cases o' with
  | lst xs =>
    obtain ⟨rfl, ws, h1, h2⟩ := ho
    exact ⟨l', xs, ws, rfl, hF, h1, h2, hf, fun us ys r => hm (.lst us) (.lst ys) rfl (obj_lst upd_same r)⟩
  | dk _ => exact hf.elim
  | dn _ _ => exact hf.elim
  | nl _ => exact hf.elim
  | nt _ => exact hf.elim
  | ob _ _ _ => exact hf.elim
/-! a method of the list at a place -/
def pMuP (pl : PPl) (g : List D → List D → (D → List D → Prop) → Prop) (pa : PA1) : PX := fun s q => pl s fun i j s1 => ptL s1[i]? j fun _ => pa s1 fun ds s2 => ptL s2[i]? j fun xs => g xs ds fun d ys => q (.fr d) (s2.set i (setP s2[i]? j (.lst ys)))
instance (priority := low) {r : V → List V → Hp → VK → Prop} {g : List D → List D → (D → List D → Prop) → Prop} {to : TE} {is : Sl → Bool} {pl : PPl} {t : TA} {pa : PA1} [MuL K r g] [LiftPl K Ξ to is pl] [LiftAH K Ξ t pa] : LiftE K Ξ (tBM K "list" r to t) (pMuP pl g pa) := ⟨fun {F H ω s σ Q} q T h k => by
  refine LiftPl.run (K := K) (t := to) (p := pl) _ T h fun v F1 H1 ω1 i j s1 p1 T1 hp h1 => ?_
  obtain ⟨l', xs, ws, rfl, _, h2, _, h3, _⟩ := ptL_run T1 hp h1
  refine ⟨.inl ⟨rfl, _, SqL.of h2⟩, LiftAH.run (K := K) (t := t) (p := pa) _ T1 h3 fun vs F2 H2 ω2 ds s2 p2 T2 r2 e2 h4 => ?_⟩
  obtain ⟨l2, xs, ws, e, hF, h5, h6, h7, hm⟩ := ptL_run T2 (hp.same e2) h4
  cases e
  refine MuL.run (K := K) (r := r) (g := g) _ T2.sf hF h5 h6 r2 h7 fun v us d ys r3 r4 hq => ?_
  obtain ⟨ω3, p3, T3⟩ := hm us ys r4
  exact k v F2 _ ω3 (.fr d) _ ((p1.trans p2).trans p3) T3 r3 hq⟩
def pMuP0 (pl : PPl) (g : List D → List D → (D → List D → Prop) → Prop) : PX := fun s q => pl s fun i j s1 => ptL s1[i]? j fun xs => g xs [] fun d ys => q (.fr d) (s1.set i (setP s1[i]? j (.lst ys)))
instance (priority := low) {r : V → List V → Hp → VK → Prop} {g : List D → List D → (D → List D → Prop) → Prop} {to : TE} {is : Sl → Bool} {pl : PPl} [MuL K r g] [LiftPl K Ξ to is pl] : LiftE K Ξ (tBM0 K "list" r to) (pMuP0 pl g) := ⟨fun {F H ω s σ Q} q T h k => by
  refine LiftPl.run (K := K) (t := to) (p := pl) _ T h fun v F1 H1 ω1 i j s1 p1 T1 hp h1 => ?_
  obtain ⟨l', xs, ws, rfl, hF, h2, h3, h4, hm⟩ := ptL_run T1 hp h1
  refine ⟨.inl ⟨rfl, _, SqL.of h2⟩, MuL.run (K := K) (r := r) (g := g) (vs := []) (ds := []) _ T1.sf hF h2 h3 rfl h4 fun v us d ys r3 r4 hq => ?_⟩
  obtain ⟨ω3, p3, T3⟩ := hm us ys r4
  exact k v F1 _ ω3 (.fr d) _ (p1.trans p3) T3 r3 hq⟩
/-! len, a copy, an item of the list at a place -/
def pLenP (pl : PPl) : PX := fun s q => pl s fun i j s1 => ptL s1[i]? j fun xs => q (.fr (.int xs.length)) s1
instance {to : TE} {is : Sl → Bool} {pl : PPl} {pa : PA1} [LiftPl K Ξ to is pl] [LiftA K Ξ (tCons to tNil) pa] : LiftE K Ξ (tCB (rLenQ K) (tCons to tNil)) (pEi is (pLenP pl) (pCB gLen pa)) := ⟨fun {F H ω s σ Q} q T h k => by
  refine pEi_run (K := K) q T h (fun h => ?_) (fun h => LiftE.run (K := K) (t := tCB (rLenQ K) (tCons to tNil)) (p := pCB gLen pa) q T h k)
  refine LiftPl.run (K := K) (t := to) (p := pl) _ T h fun v F1 H1 ω1 i j s1 p1 T1 hp h1 => ?_
  obtain ⟨l', xs, ws, rfl, hF, h2, h3, h4, hm⟩ := ptL_run T1 hp h1
  refine ⟨l', ws, rfl, .inl (SqL.of h2), ?_⟩
  rw [← h3.len]
  exact k _ F1 H1 ω1 (.fr (.int _)) s1 p1 T1 rfl h4⟩
instance {to : TE} {is : Sl → Bool} {pl : PPl} {pa : PA1} [LiftPl K Ξ to is pl] [LiftA K Ξ (tCons to tNil) pa] : LiftE K Ξ (tCB (fun xs H Q => ∃ p ys, xs = [.ref p] ∧ (SqL K H p ys ∨ SqT K H p ys) ∧ Q (.int ys.length) H) (tCons to tNil)) (pEi is (pLenP pl) (pCB gLen pa)) := ⟨fun {F H ω s σ Q} q T h k => LiftE.run (K := K) (t := tCB (rLenQ K) (tCons to tNil)) (p := pEi is (pLenP pl) (pCB gLen pa)) q T h k⟩
def pCopyP (pl : PPl) : PX := fun s q => pl s fun i j s1 => ptL s1[i]? j fun xs => q (.ow false (.lst xs)) s1
def rListOf (K : PySem.W.Frag) : List V → Hp → VK → Prop := fun xs H Q => ∃ p ys, xs = [.ref p] ∧ (SqL K H p ys ∨ SqT K H p ys) ∧ ∀ l, H l = none → Q (.ref l) (upd H l (.lst ys))
instance {to : TE} {is : Sl → Bool} {pl : PPl} {pa : PA1} [LiftPl K Ξ to is pl] [LiftA K Ξ (tCons to tNil) pa] : LiftE K Ξ (tCB (fun xs H Q => ∃ p ys, xs = [.ref p] ∧ (SqL K H p ys ∨ SqT K H p ys) ∧ ∀ l, H l = none → Q (.ref l) (upd H l (.lst ys))) (tCons to tNil)) (pEi is (pCopyP pl) (pCB gListOf pa)) := ⟨fun {F H ω s σ Q} q T h k => by
  refine pEi_run (K := K) q T h (fun h => ?_) (fun h => LiftE.run (K := K) (t := tCB (fun xs H Q => ∃ p ys, xs = [.ref p] ∧ (SqL K H p ys ∨ SqT K H p ys) ∧ ∀ l, H l = none → Q (.ref l) (upd H l (.lst ys))) (tCons to tNil)) (p := pCB gListOf pa) q T h k)
  refine LiftPl.run (K := K) (t := to) (p := pl) _ T h fun v F1 H1 ω1 i j s1 p1 T1 hp h1 => ?_
  obtain ⟨l', xs, ws, rfl, hF, h2, h3, h4, hm⟩ := ptL_run T1 hp h1
  refine ⟨l', ws, rfl, .inl (SqL.of h2), fun p hp' => Ext.lst (q := fun z => q z s1) T1.sf h3 h4 (fun v F' H' z e r hq => ?_) hp'⟩
  obtain ⟨p2, T2⟩ := e.stp T1
  exact k v F' H' ω1 z s1 (p1.trans p2) T2 (Rn.rt p1 T1 r) hq⟩
def pIxP (pl : PPl) (pi : PD) : PX := fun s q => pl s fun i j s1 => ptL s1[i]? j fun _ => pi s1 fun e s2 => ptL s2[i]? j fun xs => match e with
  | .int k => match atI xs k with
    | some d => q (.fr d) s2
    | none => False
  | _ => False
instance {to ti : TE} {is : Sl → Bool} {pl : PPl} {pi p0 pi0 : PD} [LiftPl K Ξ to is pl] [LiftH K Ξ ti pi] [LiftD K Ξ to p0] [LiftD K Ξ ti pi0] : LiftE K Ξ (tOp (rIxL K) to ti) (pEi is (pIxP pl pi) (pOp gIxL p0 pi0)) := ⟨fun {F H ω s σ Q} q T h k => by
  refine pEi_run (K := K) q T h (fun h => ?_) (fun h => LiftE.run (K := K) (t := tOp (rIxL K) to ti) (p := pOp gIxL p0 pi0) q T h k)
  refine LiftPl.run (K := K) (t := to) (p := pl) _ T h fun v F1 H1 ω1 i j s1 p1 T1 hp h1 => ?_
  obtain ⟨l', xs, ws, rfl, _, h2, _, h3, _⟩ := ptL_run T1 hp h1
  refine LiftH.run (K := K) (t := ti) (p := pi) _ T1 h3 fun w F2 H2 ω2 e s2 p2 T2 r2 e2 h4 => ?_
  obtain ⟨l2, xs, ws, e, hF, h5, h6, h7, hm⟩ := ptL_run T2 (hp.same e2) h4
  cases e
  split at h7
  · split at h7
    · rename_i d ed
      cases (show w = _ from r2)
      obtain ⟨v, hv, r⟩ := h6.atI ed
      exact ⟨l', ws, _, v, rfl, rfl, SqL.of h5, hv, k v F2 H2 ω2 (.fr d) s2 (p1.trans p2) T2 r h7⟩
    · exact h7.elim
  · exact h7.elim⟩
/-! [e for x in place], e by a step that leaves the heap's things -/
def pLcP (pl : PPl) (k : Nat) (pe : PD) (vs : List Nat) : PX := fun s q => pl s fun i j s1 => ptL s1[i]? j fun xs => if vs.contains k = true then xs.length ≤ 100000 ∧ ∃ es : List D, es.length = xs.length ∧
  (∀ (n : Nat) (d : D), xs[n]? = some d → pe ((wipeS s1 vs).set k (some (.fr d))) fun e s3 => es[n]? = some e ∧ wipeS s3 vs = wipeS s1 vs) ∧ q (.ow false (.lst es)) (wipeS s1 vs) else False
instance {to te : TE} {is : Sl → Bool} {pl : PPl} {pe : PD} {k : Nat} {vs : List Nat} {pi0 : PI1} {pe0 : PD} [LiftPl K Ξ to is pl] [LiftH K XI.zero te pe] [LiftI K Ξ (iList K to) pi0] [LiftD K XI.zero te pe0] : LiftE K Ξ (tLc (iList K to) (gName k) tYes te vs) (pEi is (pLcP pl k pe vs) (pLc pi0 (pgName k) [k] (fun s y _ => y s) pe0 vs)) := ⟨fun {F H ω s σ Q} q T h kk => by
  refine pEi_run (K := K) q T h (fun h => ?_) (fun h => LiftE.run (K := K) (t := tLc (iList K to) (gName k) tYes te vs) (p := pLc pi0 (pgName k) [k] (fun s y _ => y s) pe0 vs) q T h kk)
  refine LiftPl.run (K := K) (t := to) (p := pl) _ T h fun v F1 H1 ω1 i j s1 p1 T1 hp h1 => ?_
  obtain ⟨l', xs, ws, rfl, hF, h2, h3, h4, hm⟩ := ptL_run T1 hp h1
  split at h4
  rotate_left
  · exact h4.elim
  rename_i hk
  have hk' : k ∈ vs := by simpa using hk
  obtain ⟨hlen, es, hes, hstep, hq⟩ := h4
  refine ⟨l', rfl, ⟨ws, SqL.of h2⟩, fun A hA => ?_⟩
  have e0 : Ext F1 H1 F1 (upd H1 A (.lst [])) := Ext.ow T1.sf hA _
  obtain ⟨p2, T2⟩ := e0.stp T1
  refine lc_it (walk_list (K := K) (a := l') (xs := ws)) (fun n H' => ∃ F2 ω2 us, Stp F1 H1 ω1 F2 H' ω2 ∧ Sta K XI.zero F2 H' ω2 (wipeS s1 vs) (L2.wipe σ vs) ∧ ω2 A = none ∧ F2 A = none ∧ H' A = some (.lst us) ∧ RpA K F2 (es.take n) us ∧ Same H1 H') ?_ ?_ ?_ ?_
  · exact ⟨F1, ω1, [], p2, ⟨(T2.wipe vs).base, Exo.zero⟩, Sta.free T1.base hA, T1.sf.free hA, upd_same, rfl, e0.sh⟩
  · rintro n H' hn ⟨F2, ω2, us, p3, T3, a1, a2, a3, a4, a5⟩
    exact SqL.of (a5 _ _ h2)
  · rintro n x H' H'' hn ⟨F2, ω2, us, p3, T3, a1, a2, a3, a4, a5⟩ ⟨rfl, hx⟩
    have hxl : n < xs.length := by rw [h3.len]; exact hn
    have hd : xs[n]? = some xs[n] := List.getElem?_eq_getElem hxl
    obtain ⟨v, hv, r⟩ := h3.get hd
    rw [hx] at hv
    cases hv
    have T5 := T3.set k (r.mono p3.sf)
    refine ⟨by rw [wipe_mem hk']; exact wipe_wipe σ vs, ?_⟩
    refine w_yes (LiftH.run (K := K) (t := te) (p := pe) _ T5 (hstep n _ hd) fun v F7 H7 ω7 d s7 p7 T7 r7 e7 h7 => ?_)
    obtain ⟨h7, h8⟩ := h7
    have d1 := p7.fr A _ (T1.tb.new hA) a1 a3
    have d2 := p7.fn A _ a1 a3 a2
    have d3 := p7.om A _ a1 a3
    have T8 := T7.wipe vs
    rw [wipe_mem hk', wipe_wipe, h8] at T8
    have hul : us.length = (es.take n).length := a4.len.symm
    have := List.length_take_le n es
    refine ⟨us, d1, Nat.lt_of_le_of_lt (show us.length ≤ 100000 by omega) (by decide), F7, ω7, us ++ [v], (p3.trans p7).mutNew hA, ⟨Sta.mutFree T8.base d3 d2 (T1.tb.new hA), Exo.zero⟩, d3, d2, upd_same, ?_, (a5.trans e7).mut hA⟩
    rw [List.take_add_one, h7, Option.toList_some]
    exact (a4.mono p7.sf).snoc r7
  · rintro H' ⟨F2, ω2, us, p3, T3, a1, a2, a3, a4, a5⟩
    rw [← h3.len, ← hes, List.take_length] at a4
    have T4 : Sta0 K F2 H' ω2 (wipeS s1 vs) σ := ⟨T3.tb, T3.sf, T3.ow, fun i x h => (T3.at' i x h).elim fun v hv => ⟨v, (wipe_some hv.1).1, hv.2⟩, by rw [T3.len, wipe_length], T3.ix⟩
    exact kk _ F2 H' ω2 (.ow false (.lst es)) _ (p1.trans p3) ⟨T4, T1.ex.step p3⟩ ⟨A, [A], rfl, fun a ha => by cases List.mem_singleton.mp ha; exact ⟨p1.tr A hA, a1, a2⟩, obj_lst a3 a4⟩ hq⟩
/-! a list of parts that stay own -/
theorem PtR.monoF {F F' H : Hp} (e : Same F F') {x : S} {v : V} {A : List Addr} (h : PtR K F H x v A) : PtR K F' H x v A := by
  cases x with
  | fr d => exact ⟨h.1.mono e, h.2⟩
  | hid u => exact h
  | ow b o =>
    obtain ⟨l, rfl, h1⟩ := h
    exact ⟨l, rfl, h1.mono e⟩
class LiftN (K : PySem.W.Frag) (Ξ : XI) (t : TA) (p : outParam (Sl → (List S → Sl → Prop) → Prop)) : Prop where
  run : ∀ {F H : Hp} {ω : Om} {s : Sl} {σ : L2.St} {Q : List V → Hp → Prop} (q : List S → Sl → Prop), Sta K Ξ F H ω s σ → p s q →
    (∀ vs F' H' ω' xs s', Stp F H ω F' H' ω' → Sta K Ξ F' H' ω' s' σ → (∃ A, PtsR K F' H' xs vs A ∧ ∀ a ∈ A, H a = none ∧ ω' a = none ∧ F' a = none) → q xs s' → Q vs H') → t σ H Q
instance : LiftN K Ξ tNil (fun s q => q [] s) := ⟨fun {F H ω s σ Q} q T h k => k [] F H ω [] s (Stp.refl T.tb) T ⟨[], ⟨rfl, rfl⟩, fun a ha => by cases ha⟩ h⟩
def pnCons (p : PX) (r : Sl → (List S → Sl → Prop) → Prop) : Sl → (List S → Sl → Prop) → Prop := fun s q => p s fun x s1 => r s1 fun xs s2 => q (x :: xs) s2
instance {t : TE} {r : TA} {p : PX} {pr : Sl → (List S → Sl → Prop) → Prop} [LiftE K Ξ t p] [LiftN K Ξ r pr] : LiftN K Ξ (tCons t r) (pnCons p pr) := ⟨fun {F H ω s σ Q} kk T h k => by
  refine LiftE.run (K := K) (t := t) (p := p) _ T h fun v F1 H1 ω1 x s1 p1 T1 r1 h1 => ?_
  refine LiftN.run (K := K) (t := r) (p := pr) _ T1 h1 fun vs F2 H2 ω2 xs s2 p2 T2 ⟨A2, r2, n2⟩ h2 => ?_
  obtain ⟨A1, q1, q2⟩ := r1.part
  have hasA : ∀ a ∈ A1, ∃ u, H1 a = some u := fun a ha => by
    cases x with
    | fr d => rw [q1.2] at ha; cases ha
    | hid d => rw [q1.2] at ha; cases ha
    | ow b o => obtain ⟨l', _, z⟩ := q1; exact z.has a ha
  refine k _ F2 H2 ω2 (x :: xs) s2 (p1.trans p2) T2 ⟨A1 ++ A2, PtsR.cons (PtR.monoF p2.sf (q1.keep fun a ha u hu => p2.fr a u (p1.tb0.new (q2 a ha).1) (q2 a ha).2.1 hu)) (fun a ha z => ?_) r2, fun a ha => ?_⟩ h2
  · obtain ⟨u, hu⟩ := hasA a ha
    rw [(n2 a z).1] at hu
    cases hu
  · rcases List.mem_append.mp ha with y | y
    · obtain ⟨u, hu⟩ := hasA a y
      obtain ⟨z1, z2, z3⟩ := q2 a y
      exact ⟨z1, p2.om a u z2 hu, p2.fn a u z2 hu z3⟩
    · obtain ⟨z1, z2, z3⟩ := n2 a y
      exact ⟨p1.tr a z1, z2, z3⟩⟩
def tNl (t : TA) : TE := tLst t
theorem pe_nl {X : Cx} {es : List Expr} {pos : Pos} {t : TA} (h : PA X es t) : PE X (.List es pos) (tNl t) := pe_lst h
def pNl (p : Sl → (List S → Sl → Prop) → Prop) : PX := fun s q => p s fun xs s1 => if xs.length ≤ 1000 then q (.ow false (.nl xs)) s1 else False
instance {t : TA} {p : Sl → (List S → Sl → Prop) → Prop} [LiftN K Ξ t p] : LiftE K Ξ (tNl t) (pNl p) := ⟨fun {F H ω s σ Q} kk T h k => by
  refine LiftN.run (K := K) (t := t) (p := p) _ T h fun vs F1 H1 ω1 xs s1 p1 T1 ⟨A, r1, n1⟩ h1 => ?_
  split at h1
  · rename_i hl
    refine ⟨by rw [r1.ilen]; exact Nat.le_trans hl (by decide), fun a ha => ?_⟩
    have e := Ext.ow T1.sf ha (.lst vs)
    obtain ⟨p2, T2⟩ := e.stp T1
    have hn : ∀ b ∈ A, b ≠ a := fun b hb z => by
      obtain ⟨u, hu⟩ := r1.has b hb
      rw [z, ha] at hu
      cases hu
    refine k (.ref a) _ _ ω1 (.ow false (.nl xs)) s1 (p1.trans p2) T2 ⟨a, a :: A, rfl, fun b hb => ?_, vs, A, rfl, fun z => hn a z rfl, upd_same, r1.heap fun b hb u hu => by rw [upd_ne (hn b hb)]; exact hu⟩ h1
    rcases List.mem_cons.mp hb with rfl | hb
    · exact ⟨p1.tr _ ha, Sta.free T1.base ha, T1.sf.free ha⟩
    · exact n1 b hb
  · exact h1.elim⟩
/-! made data at once -/
def tFz (t : TE) : TE := t
theorem pe_fz {X : Cx} {e : Expr} {t : TE} (h : PE X e t) : PE X e (tFz t) := h
def pFz (p : PD) : PX := fun s q => p s fun d s1 => q (.fr d) s1
instance {t : TE} {p : PD} [LiftD K Ξ t p] : LiftE K Ξ (tFz t) (pFz p) := ⟨fun {F H ω s σ Q} q T h k => LiftD.run (K := K) (t := t) (p := p) _ T h fun v F1 H1 ω1 d s1 p1 T1 r1 h1 => k v F1 H1 ω1 (.fr d) s1 p1 T1 r1 h1⟩
end
/-! ### name = {k: v for ..} on one line, the name a local -/
section
variable {X : Cx}
theorem ps_setDc {i : Nat} {y : Str} {py : Pos} {kx vx tg iter : Expr} {ifs : List Expr} {scope : Scope} {own : List (Str × Nat)} {pos spos : Pos} {wi : TI} {g : TG} {tt : TT} {tk tv : TE} (hc : X.calm = true) (hN : X.N.Nodup) (hy : X.N[i]? = some y) (hyl : X.env.scope.names.lookup y = some .local)
    (hsw : swapsWith (.DictComp kx vx [⟨tg, iter, ifs, 0⟩] scope pos) (some (.Name y py)) spos.line X.env = pure true) (hi : PI X tg iter wi) (ok : BlkOk X.N X.env.scope scope own)
    (hg : ∀ (s : Shared) (H : Hp) (C : Addr) (cl : List (Str × Addr)) (fp : List Addr), PG (X.blk s H scope (compEnvC scope cl C X.env) fp) tg g) (ht : ∀ (s : Shared) (H : Hp) (C : Addr) (cl : List (Str × Addr)) (fp : List Addr), PTs (X.blk s H scope (compEnvC scope cl C X.env) fp) ifs tt)
    (hk : ∀ (s : Shared) (H : Hp) (C : Addr) (cl : List (Str × Addr)) (fp : List Addr), PE (X.blk s H scope (compEnvC scope cl C X.env) fp) kx tk)
    (he : ∀ (s : Shared) (H : Hp) (C : Addr) (cl : List (Str × Addr)) (fp : List Addr), PE (X.blk s H scope (compEnvC scope cl C X.env) fp) vx tv) (hs : ∀ x, foldedSetIterable iter X.env x = pure x := by intro _; rfl) :
    PS X (.Assign [.Name y py] (.DictComp kx vx [⟨tg, iter, ifs, 0⟩] scope pos) spos) (tAsg (tDc wi g tt tk tv (own.map (·.2))) (gName i)) := by
  refine ⟨fun pins s σ H D I h => ?_⟩
  rw [exec_Assign_Name_used _ _ _ _ hsw]
  refine wpAny_bind (wpAny_standAt (wpAny_bind ?_))
  show wpAny _ X.A (do let _ ← comprehension (.DictComp kx vx [⟨tg, iter, ifs, 0⟩] scope pos) scope X.env (firstIterPos [⟨tg, iter, ifs, 0⟩] pos) newDict false (eval iter X.env) (some (assign (.Name y py) X.env))) _ _ s
  have h : tDc wi g tt tk tv (own.map (·.2)) σ H (fun x H1 => gName i x σ H1 D.nx) := h
  refine wpAny_bind (thn (dc_core (Qf := fun _ s' => SP X pins D .next s') hc hN I hi ok hg ht hk he hs h fun L C s' m H' I' q hn f => ?_) fun _ s' hq => wpAny_pure (wpAny_pure hq))
  show wpAny _ _ (assign (.Name y py) X.env (.ref L)) _ _ _
  refine wpAny_assign_Name (store_ok2 (v := V.ref L) I' hN hy (.inl hyl) rfl (fun s2 I2 ⟨a, sb, ha⟩ => ?_) (.inr hyl))
  obtain ⟨f0, f1, f2, f3, f4, f5⟩ := f
  have haC : C ≠ a := by
    rcases ha with z | z
    · rw [z]; exact f1
    · exact fun e => f4 y a z e.symm
  refine ⟨m, hn.sameBut sb haC, fun h3 sb3 => ?_⟩
  exact ⟨_, H', I2.turned (t' := s2.toks) (fun b o hb e => (sb3.2 b hb).trans e) f0 f1 f3 f4 f5, q⟩
theorem sw_trueD {kx vx : Expr} {gs : List Comprehension} {scope : Scope} {pos py : Pos} {y : Str} {l : Nat} {env : Env} (hk : env.scope.kind = .function) (hy : env.scope.names.lookup y = some .local) (hl : (py.line == pos.line) = true)
    (ha : (scope.names.any fun (n, k) => n == y && (k == .local || k == .cell)) = false) : swapsWith (.DictComp kx vx gs scope pos) (some (.Name y py)) l env = pure true := by
  have ky : env.kindOf y = some .local := hy
  have hb : env.blockKind = .function := by unfold Env.blockKind; rw [hk]; rfl
  unfold swapsWith
  simp only [hb, ky, ha, Expr.pos, hl]
  rfl
end
theorem kit_subF {K : PySem.W.Frag} {C D : Addr} (hd : PySem.W.hasDictIn K C = true) (ty : PySem.W.typeIn K (.ref C) = some (.type "type"))
    (s : PySem.W.subIn K (.ref D) (.ref C) = some false) (s1 : PySem.W.subIn K (.ref C) (.ref C) = some true) : PySem.W.kitOne K (.ref D) (.ref C) = some false := by
  obtain ⟨cd, hc, _⟩ := PySem.W.any_some hd
  unfold PySem.W.kitOne
  split
  · rename_i e
    have : (Value.ref D) = Value.ref C := eq_of_beq e
    rw [this, s1] at s
    cases s
  · show (if ((PySem.W.clsIn K C).isSome && PySem.W.typeIn K (.ref C) == some (.type "type")) = true
      then PySem.W.subIn K (.ref D) (.ref C) else none) = some false
    rw [hc, ty]
    exact s
/-- the rest of a def's body, with its reading -/
structure Chunk (K : PySem.W.Frag) (C : (Value → Around → List Env → Shared → Hp → XK → TS) → Prop) where
  t : Value → Around → List Env → Shared → Hp → XK → TS
  h : C t
  p : PS1
  l : ∀ a b c d e f, LiftS K XI.zero (t a b c d e f) p
/-- the law's end -/
def RtT (E : PEnds) : Prop := ∀ x s, E.rt (.fr (.bl true)) (x :: s)
section
variable {K : PySem.W.Frag}
/-- str of an int -/
def gStrI : List D → (S → Prop) → Prop := fun ds q => match ds with
  | [.int i] => i.natAbs.log2 < 1920 ∧ q (.fr (.str (toString i)))
  | _ => False
instance : CaL K (fun xs H Q => ∃ i, xs = [.int i] ∧ i.natAbs.log2 < 1920 ∧ Q (.str (toString i)) H) gStrI := ⟨fun {F H vs ds Q} q hs r h k => by
  unfold gStrI at h
  split at h
  · obtain ⟨v, rfl, h1⟩ := r.one
    cases (show v = _ from h1)
    exact ⟨_, rfl, h.1, k _ F H (.fr (.str _)) (Ext.refl hs) rfl h.2⟩
  · exact h.elim⟩
end
section
variable {X : Cx} {K : PySem.W.Frag} {T name id : String} {r : V → List V → Hp → VK → Prop} {o e : Expr} {es : List Expr} {apos cpos : Pos} {to : TE} {t : TA}
theorem pe_bm0k (hK : X.K = K) (pa : PlainAttrs T) (slot : Slot T name id) (hty : typeOf (.builtin id) = pure (.type "method_descriptor")) (hm : MtR X id r) (ho : PE X o to)
    (hbase : attributeBase o name X.env (eval o X.env) = eval o X.env := by rfl) (hline : (apos.endLine == cpos.line) = true := by rfl) : PE X (.Call (.Attribute o name apos) [] [] cpos) (tBM0 K T r to) := by
  subst hK; exact pe_bm0 pa slot hty hm ho hbase hline
theorem pe_bmk (hK : X.K = K) (pa : PlainAttrs T) (slot : Slot T name id) (hty : typeOf (.builtin id) = pure (.type "method_descriptor")) (hm : MtR X id r) (ho : PE X o to) (ha : PA X (e :: es) t)
    (hbase : attributeBase o name X.env (eval o X.env) = eval o X.env := by rfl)
    (hfew : ((backTo cpos (starEach (e :: es) X.env)).all (fun x => !x.1) && (backToKw cpos (keywordEach [] X.env)).all (fun x => x.1.isSome)
      && decide ((e :: es).length + ([] : List Keyword).length + (if ([] : List Keyword).isEmpty then 0 else 1) < 30)) = true := by rfl)
    (hline : (apos.endLine == cpos.line) = true := by rfl) (hs : starEach (e :: es) X.env = (false, eval e X.env) :: starEach es X.env := by rfl) (hplain : (backTo cpos (starEach es X.env)).any (·.1) = false := by rfl) :
    PE X (.Call (.Attribute o name apos) (e :: es) [] cpos) (tBM K T r to t) := by
  subst hK; exact pe_bm pa slot hty hm ho ha hbase hfew hline hs hplain
end
/-! ### [e for x in own], own a name's own list that stays own (printed where cfg's itown says) -/
section
variable {K : PySem.W.Frag} {Ξ : XI}
def iListV (K : PySem.W.Frag) (i : Nat) : TI := iList K (tVar i)
theorem pi_listv {X : Cx} {K : PySem.W.Frag} {tg e : Expr} {i : Nat} (hK : X.K = K) (he : PE X e (tVar i)) : PI X tg e (iListV K i) := by subst hK; exact pi_list he
def ownL (x : Option (Option S)) (f : List D → Prop) : Prop := match x with
  | some (some (.ow _ (.lst xs))) => f xs
  | _ => False
theorem ownL_of {x : Option (Option S)} {f : List D → Prop} (h : ownL x f) : ∃ b xs, x = some (some (.ow b (.lst xs))) ∧ f xs := by
  unfold ownL at h
  split at h
  · exact ⟨_, _, rfl, h⟩
  · exact h.elim
theorem walk_listE {a : Addr} {n : Nat} : Walk (Itl K a) n (fun H => ∃ xs : List V, xs.length = n ∧ SqL K H a xs) (fun i H x H' => H' = H ∧ ∀ xs, SqL K H a xs → xs[i]? = some x) :=
  ⟨fun i _ hi ⟨xs, e, q⟩ => ⟨xs, xs[i]'(by omega), q, List.getElem?_eq_getElem (by omega)⟩, fun _ ⟨xs, e, q⟩ => ⟨xs, q, by omega⟩, fun _ _ _ _ _ _ y => y⟩
def pLcV (i : Nat) (pg : PG1) (ss : List Nat) (pt : PT1) (pe : PD) (vs : List Nat) : PX := fun s q => ownL s[i]? fun ds => if (ss.all vs.contains && !vs.contains i) = true then ds.length ≤ 100000 ∧ ∃ I : Nat → List D → Sl → Prop, I 0 [] (wipeS s vs) ∧
  (∀ n acc s2, I n acc s2 → ownL s2[i]? fun xs => xs = ds) ∧
  (∀ n d acc s2, ds[n]? = some d → I n acc s2 → pg d s2 fun s3 => pt s3 (fun s4 => pe s4 fun e s5 => I (n + 1) (acc ++ [e]) (wipeS s5 vs)) (fun s4 => I (n + 1) acc (wipeS s4 vs))) ∧
  ∀ acc s2, I ds.length acc s2 → q (.ow false (.lst acc)) s2 else False
instance {i : Nat} {g : TG} {tt : TT} {te : TE} {vs : List Nat} {pg : PG1} {ss : List Nat} {pt : PT1} {pe : PD} [LiftG K XI.zero g pg ss] [LiftT K XI.zero tt pt] [LiftD K XI.zero te pe] : LiftE K Ξ (tLc (iListV K i) g tt te vs) (pLcV i pg ss pt pe vs) := ⟨fun {F1 H1 ω1 s1 σ Q} kk T1 h1 k => by
  obtain ⟨b0, ds, e0, h1⟩ := ownL_of h1
  obtain ⟨v0, hv0, l, rfl, hl, ws0, q1, q2⟩ := T1.lst i e0
  split at h1
  rotate_left
  · exact h1.elim
  rename_i hss
  rw [Bool.and_eq_true] at hss
  have hiv : i ∉ vs := by
    have := hss.2
    simpa using this
  have hss' : ∀ i ∈ ss, i ∈ vs := fun i hi => by simpa using List.all_eq_true.mp hss.1 i hi
  obtain ⟨hlen, I, i0, iown, istep, iend⟩ := h1
  refine ⟨_, hv0, l, rfl, ⟨ws0, SqL.of q1⟩, fun A hA => ?_⟩
  have hσ : (L2.wipe σ vs)[i]? = some (some (.ref l)) := by rw [wipe_out hiv]; exact hv0
  have e0 : Ext F1 H1 F1 (upd H1 A (.lst [])) := Ext.ow T1.sf hA _
  obtain ⟨p2, T2⟩ := e0.stp T1
  have lat : ∀ {F2 H2 : Hp} {ω2 : Om} {n : Nat} {acc : List D} {s2 : Sl}, Sta K XI.zero F2 H2 ω2 s2 (L2.wipe σ vs) → I n acc s2 → ∃ ws, H2 l = some (.lst ws) ∧ RpA K F2 ds ws := fun {F2 H2 ω2 n acc s2} T hI => by
    obtain ⟨b, xs, e1, rfl⟩ := ownL_of (iown n acc s2 hI)
    obtain ⟨v, hv, l2, rfl, _, ws, z1, z2⟩ := T.lst i e1
    rw [hσ] at hv
    cases hv
    exact ⟨ws, z1, z2⟩
  have kk' : ∀ {F2 : Hp} {ω2 : Om} {s2 : Sl} {acc : List D} {ws : List V} {H' : Hp}, Sta0 K F2 H' ω2 s2 σ → I ds.length acc s2 → Stp F1 H1 ω1 F2 H' ω2 → ω2 A = none → F2 A = none → H' A = some (.lst ws) → RpA K F2 acc ws → Q (.ref A) H' :=
    fun {F2 ω2 s2 acc ws H'} T4 hI p3 a1 a2 a3 a4 => k _ F2 H' ω2 (.ow false (.lst acc)) s2 p3 ⟨T4, T1.ex.step p3⟩ ⟨A, [A], rfl, fun a ha => by cases List.mem_singleton.mp ha; exact ⟨hA, a1, a2⟩, obj_lst a3 a4⟩ (iend acc s2 hI)
  refine lc_it (walk_listE (K := K) (a := l) (n := ds.length)) (fun n H' => ∃ F2 ω2 s2 acc ws, Stp F1 H1 ω1 F2 H' ω2 ∧ Sta K XI.zero F2 H' ω2 s2 (L2.wipe σ vs) ∧ ω2 A = none ∧ F2 A = none ∧ H' A = some (.lst ws) ∧ RpA K F2 acc ws ∧ acc.length ≤ n ∧ I n acc s2) ?_ ?_ ?_ ?_
  · exact ⟨F1, ω1, wipeS s1 vs, [], [], p2, ⟨(T2.wipe vs).base, Exo.zero⟩, Sta.free T1.base hA, T1.sf.free hA, upd_same, rfl, Nat.le_refl _, i0⟩
  · rintro n H' hn ⟨F2, ω2, s2, acc, ws, p3, T3, a1, a2, a3, a4, a5, hI⟩
    obtain ⟨us, z1, z2⟩ := lat T3 hI
    exact ⟨us, z2.len.symm, SqL.of z1⟩
  · rintro n x H' H'' hn ⟨F2, ω2, s2, acc, ws, p3, T3, a1, a2, a3, a4, a5, hI⟩ ⟨rfl, hx⟩
    have hd : ds[n]? = some ds[n] := List.getElem?_eq_getElem hn
    obtain ⟨us, z1, z2⟩ := lat T3 hI
    obtain ⟨v, hv, r3⟩ := z2.get hd
    rw [hx us (SqL.of z1)] at hv
    cases hv
    refine LiftG.run (K := K) (g := g) (p := pg) (ss := ss) _ T3 r3 (istep n _ acc s2 hd hI) fun σ5 s5 T5 w5 h5 => ?_
    have hw5 : L2.wipe σ5 vs = L2.wipe σ vs := by rw [w5 vs hss']; exact wipe_wipe σ vs
    refine ⟨hw5, ?_⟩
    refine LiftT.run (K := K) (t := tt) (p := pt) _ _ T5 h5 fun b F6 H6 ω6 s6 p6 T6 h6 => ?_
    have c1 := p6.fr A _ (T1.tb.new hA) a1 a3
    have c2 := p6.fn A _ a1 a3 a2
    have c3 := p6.om A _ a1 a3
    cases b with
    | false =>
      refine iteF ⟨F6, ω6, wipeS s6 vs, acc, ws, p3.trans p6, ?_, c3, c2, c1, a4.mono p6.sf, by omega, by simpa using h6⟩
      have T7 := T6.wipe vs
      rw [hw5] at T7
      exact T7
    | true =>
      refine iteT (LiftD.run (K := K) (t := te) (p := pe) _ T6 (by simpa using h6) fun v F7 H7 ω7 d s7 p7 T7 r7 h7 => ?_)
      have d1 := p7.fr A _ (T1.tb.new hA) c3 c1
      have d2 := p7.fn A _ c3 c1 c2
      have d3 := p7.om A _ c3 c1
      have hlA : ws.length = acc.length := a4.len.symm
      have T8 := T7.wipe vs
      rw [hw5] at T8
      exact ⟨ws, d1, Nat.lt_of_le_of_lt (show ws.length ≤ 100000 by omega) (by decide), F7, ω7, wipeS s7 vs, acc ++ [d], ws ++ [v], ((p3.trans p6).trans p7).mutNew hA, ⟨Sta.mutFree T8.base d3 d2 (T1.tb.new hA), Exo.zero⟩, d3, d2, upd_same,
        ((a4.mono (p6.sf.trans p7.sf)).snoc r7), by rw [List.length_append]; simp; omega, h7⟩
  · rintro H' ⟨F2, ω2, s2, acc, ws, p3, T3, a1, a2, a3, a4, a5, hI⟩
    exact kk' ⟨T3.tb, T3.sf, T3.ow, fun i x h => (T3.at' i x h).elim fun v hv => ⟨v, (wipe_some hv.1).1, hv.2⟩, by rw [T3.len, wipe_length], T3.ix⟩ hI p3 a1 a2 a3 a4⟩
end
/-! ### min(xs), xs any data that are alike -/
def rMinDa (K : PySem.W.Frag) : List V → Hp → VK → Prop := fun vs H Q => ∃ (a : Addr) (zs : List (V × PyData)), vs = [V.ref a] ∧ SqL K H a (zs.map (·.1)) ∧ (∀ z ∈ zs, Dp K H z.1 z.2) ∧ PySem.W.AlikeAll (zs.map (·.2)) ∧ (∀ z ∈ zs, z.2.depth ≤ 58) ∧ zs ≠ [] ∧
  ∀ z ∈ zs, (∀ y ∈ zs, PySem.W.dataLt y.2 z.2 = false) → Q z.1 H
theorem minD_least : ∀ (xs : List PyData) (x : PyData), (PySem.W.minD x xs ∈ x :: xs) ∧ ∀ y ∈ x :: xs, PySem.W.dataLt y (PySem.W.minD x xs) = false
  | [], x => ⟨List.mem_cons_self, fun y hy => by cases List.mem_singleton.mp hy; exact lex_irrefl (O := itemOrd) _⟩
  | z :: xs, x => by
    have e : PySem.W.minD x (z :: xs) = PySem.W.minD (if PySem.W.dataLt z x then z else x) xs := rfl
    rw [e]
    obtain ⟨h1, h2⟩ := minD_least xs (if PySem.W.dataLt z x then z else x)
    refine ⟨?_, fun y hy => ?_⟩
    · rcases List.mem_cons.mp h1 with q | q
      · rw [q]
        split
        · exact List.mem_cons_of_mem _ List.mem_cons_self
        · exact List.mem_cons_self
      · exact List.mem_cons_of_mem _ (List.mem_cons_of_mem _ q)
    · have h3 := h2 _ List.mem_cons_self
      have tr : ∀ {a b c : PyData}, PySem.W.dataLt a b = false → PySem.W.dataLt b c = false → PySem.W.dataLt a c = false := fun {a b c} u v => by
        cases q : PySem.W.dataLt a c with
        | false => rfl
        | true =>
          rcases lex_negTrans (O := itemOrd) _ (PySem.W.keyToks b) _ q with z | z
          · have z : PySem.W.dataLt a b = true := z
            rw [z] at u; cases u
          · have z : PySem.W.dataLt b c = true := z
            rw [z] at v; cases v
      have asym : ∀ {a b : PyData}, PySem.W.dataLt a b = true → PySem.W.dataLt b a = false := fun {a b} u => by
        cases q : PySem.W.dataLt b a with
        | false => rfl
        | true =>
          have := lex_trans (O := itemOrd) _ _ _ u q
          rw [lex_irrefl] at this
          cases this
      rcases List.mem_cons.mp hy with rfl | hy
      · split at h3
        · rename_i c
          rw [if_pos c]
          exact tr (asym c) h3
        · rename_i c
          rw [if_neg c]
          exact h3
      · rcases List.mem_cons.mp hy with rfl | hy
        · split at h3
          · rename_i c
            rw [if_pos c]
            exact h3
          · rename_i c
            rw [if_neg c]
            exact tr (by simpa using c) h3
        · exact h2 y (List.mem_cons_of_mem _ hy)
section
variable {X : Cx} {pins : List (Addr × Obj)} {σ : L2.St} {H : Hp} {s : Shared}
theorem readsAll_of (I : Inv X pins σ H s) : ∀ {zs : List (V × PyData)} {its : List Value}, Vals (zs.map (·.1)) its → (∀ z ∈ zs, Dp X.K H z.1 z.2) → ∃ as, ReadsAll s.heap its (zs.map (·.2)) as
  | [], _, h, _ => by cases h; exact ⟨_, .nil⟩
  | z :: zs, _, h, hz => by
    cases h with
    | cons h1 h2 =>
      obtain ⟨as, r⟩ := Dp.reads I z.2 z.1 _ (hz z List.mem_cons_self) h1
      obtain ⟨bs, t⟩ := readsAll_of I h2 fun y hy => hz y (List.mem_cons_of_mem _ hy)
      exact ⟨_, .cons r t⟩
theorem depthAll_le : ∀ {xs : List PyData} {n : Nat}, (∀ x ∈ xs, x.depth ≤ n) → PyData.depthAll xs ≤ n
  | [], _, _ => Nat.zero_le _
  | x :: xs, n, h => Nat.max_le.mpr ⟨h x List.mem_cons_self, depthAll_le fun y hy => h y (List.mem_cons_of_mem _ hy)⟩
theorem cr_minDa (hc : X.calm = true) (hu : X.A.units + 64 < cLine) : CallR X (.builtin "min") (rMinDa X.K) := by
  intro pins s σ H vs us Q I r h
  obtain ⟨a, zs, rfl, hs, hz, hal, hdp, hne, q⟩ := h
  obtain ⟨its, rv, hl, hlen⟩ := I.list hs
  rw [Vals.ref1 r]
  obtain ⟨as, hr⟩ := readsAll_of I rv hz
  obtain ⟨z0, zr, rfl⟩ : ∃ z0 zr, zs = z0 :: zr := by
    cases zs with
    | nil => exact absurd rfl hne
    | cons z0 zr => exact ⟨z0, zr, rfl⟩
  have hd : PyData.depthAll (z0.2 :: zr.map (·.2)) ≤ 58 := depthAll_le fun x hx => by
    obtain ⟨z, hm, rfl⟩ := List.mem_map.mp (show x ∈ (z0 :: zr).map (·.2) from hx)
    exact hdp z hm
  have hr' : ReadsAll s.heap its.toArray.toList (z0.2 :: zr.map (·.2)) as := hr
  refine PySem.W.min_list_data (I.ok.hd hc) hl.isList hr' hal (by omega) fun i v h' tk bs hv hrd hk => ?_
  have hi : i < its.length := by
    have := (Array.getElem?_eq_some_iff.mp hv).1
    simpa using this
  have hl2 := rv.length
  rw [List.length_map] at hl2
  have hzi : i < (z0 :: zr).length := by omega
  have hmem : (z0 :: zr)[i] ∈ z0 :: zr := List.getElem_mem hzi
  have hrel : RelV ((z0 :: zr)[i]).1 v := by
    have h1 : ((z0 :: zr).map (·.1))[i]? = some ((z0 :: zr)[i]).1 := by rw [List.getElem?_map, List.getElem?_eq_getElem hzi]; rfl
    obtain ⟨u, hu1, hu2⟩ := rv.get h1
    have hv2 : its[i]? = some v := by simpa using hv
    rw [hv2] at hu1
    cases hu1
    exact hu2
  have hml := minD_least (zr.map (·.2)) z0.2
  have heq : ((z0 :: zr)[i]).2 = PySem.W.minD z0.2 (zr.map (·.2)) := by
    obtain ⟨cs, rc⟩ := Dp.reads I ((z0 :: zr)[i]).2 ((z0 :: zr)[i]).1 v (hz _ hmem) hrel
    have rc' := PySem.W.reads_keeps hk rc
    exact PySem.W.alike_unique _ _ v cs bs (hal.1 _ (List.mem_map.mpr ⟨_, hmem, rfl⟩) _ hml.1) rc' hrd
  refine ⟨_, H, I.kept hk, hrel, q _ hmem fun y hy => ?_⟩
  rw [heq]
  exact hml.2 y.2 (List.mem_map.mpr ⟨y, hy, rfl⟩)
theorem cr_minDak {K : PySem.W.Frag} (hK : X.K = K) (hc : X.calm = true) (hu : X.A.units + 64 < cLine) : CallR X (.builtin "min") (rMinDa K) := by subst hK; exact cr_minDa hc hu
end
/-- data that can be compared: alike, none is None, there is one -/
def MinOk (ds : List D) : Prop := ds ≠ [] ∧ ds.all (D.plN 58) = true ∧ PySem.W.AlikeAll (ds.map D.py)
def gMinDa : List D → (S → Prop) → Prop := fun ds q => match ds with
  | [.lst xs] => MinOk xs ∧ ∀ d ∈ xs, (∀ e ∈ xs, leD d e = true) → q (.fr d)
  | _ => False
section
variable {K : PySem.W.Frag}
instance : CaL K (rMinDa K) gMinDa := ⟨fun {F H vs ds Q} q hs r h k => by
  unfold gMinDa at h
  split at h
  · rename_i xs
    obtain ⟨⟨hne, hpl, hal⟩, hq⟩ := h
    obtain ⟨v, rfl, a, ws, rfl, h1, h2⟩ := r.one
    obtain ⟨zs, rfl, rfl, hz⟩ := RpA.pair h2
    have hpy : ∀ z ∈ zs, Dp K H z.1 z.2.py ∧ z.2.py.canLay0 = true ∧ z.2.py.depth ≤ 58 := fun z hm => py_of 58 (List.all_eq_true.mp hpl _ (List.mem_map.mpr ⟨z, hm, rfl⟩)) ((hz z hm).mono hs)
    refine ⟨a, zs.map fun z => (z.1, z.2.py), rfl, ?_, fun y hy => ?_, ?_, fun y hy => ?_, ?_, fun y hy hmin => ?_⟩
    · rw [List.map_map]
      exact SqL.of (hs _ _ h1)
    · obtain ⟨z, hm, rfl⟩ := List.mem_map.mp hy
      exact (hpy z hm).1
    · rw [List.map_map]
      rw [List.map_map] at hal
      exact hal
    · obtain ⟨z, hm, rfl⟩ := List.mem_map.mp hy
      exact (hpy z hm).2.2
    · intro e
      exact hne (by rw [List.map_eq_nil_iff] at e ⊢; exact e)
    · obtain ⟨z, hm, rfl⟩ := List.mem_map.mp hy
      refine k z.1 F H (.fr z.2) (Ext.refl hs) (hz z hm) (hq z.2 (List.mem_map.mpr ⟨z, hm, rfl⟩) fun e he => ?_)
      obtain ⟨z', hm', rfl⟩ := List.mem_map.mp he
      unfold leD
      rw [hmin (z'.1, z'.2.py) (List.mem_map.mpr ⟨z', hm', rfl⟩)]
      rfl
  · exact h.elim⟩
end
/-! ### a lambda of one name; sorted by it -/
/-- the function object that a lambda makes -/
def LamO (q : Str) (params : Arguments) (body : Expr) (scope : Scope) (f c : Addr) : HO := .ext fun h => ∃ (pm ctv : Value), h.get? f = some (PySem.W.kla_obj "<lambda>" q params body scope [] pm c ctv)
/-- the heap behind the making: as it was, or with a new code object, which the table tells -/
def LamH (P : Addr) (q : Str) (H : Hp) (ps : Array Value) (c : Addr) (H1 : Hp) : Prop := (H1 = H ∧ ∃ pos : Pos, codeAmong pos ps.toList = some (.ref c)) ∨ ∃ more : Array Value, H c = none ∧ H1 = upd (upd H P (.tbl (ps ++ more))) c (LamX.CodeO c q) ∧ TriplesOk (ps ++ more).toList ∧
  ∀ (pos : Pos) (cv : Value), codeAmong pos (ps ++ more).toList = some cv → codeAmong pos ps.toList = some cv ∨ cv = .ref c
def tLam1 (P : Addr) (q : Str) (mk : Addr → Addr → HO) : TE := fun σ H Q => ∃ ps : Array Value, H P = some (.tbl ps) ∧ TriplesOk ps.toList ∧ (∀ (pos : Pos) (cv : Value), codeAmong pos ps.toList = some cv → ∃ c, cv = .ref c ∧ H c = some (LamX.CodeO c q)) ∧
  ∀ f c H1, LamH P q H ps c H1 → H1 f = none → H1 c = some (LamX.CodeO c q) → Q (.ref f) (upd H1 f (mk f c))
theorem lamO_ok {prog : Program} {w : World} {H : Hp} {h : Heap} {q : Str} {params : Arguments} {body : Expr} {scope : Scope} {f c : Addr} {pm ctv : Value} (e : h.get? f = some (PySem.W.kla_obj "<lambda>" q params body scope [] pm c ctv)) : ObjOk prog w H h f (LamO q params body scope f c) :=
  ⟨⟨pm, ctv, e⟩, ⟨_, e⟩, fun h1 h2 ⟨a, b, z⟩ st => ⟨a, b, st _ z⟩⟩
section
variable {X : Cx}
theorem pe_lam1 {c P : Addr} {params : Arguments} {body : Expr} {scope : Scope} {lpos : Pos} (TB : LamX.TabB X.base X.mg c P) (hcode : X.env.code = .ref c) (hdef : defaultsOf params X.env = ([], [])) (hcl : closureFor scope X.env = pure []) :
    PE X (.Lambda params body scope lpos) (tLam1 P (X.env.qual ++ "<lambda>") (LamO (X.env.qual ++ "<lambda>") params body scope)) := by
  refine ⟨fun pins s σ H Q I hh => ?_⟩
  obtain ⟨ps, hP, ht, ha, hq⟩ := hh
  have hPr : s.heap.get? P = some { cls := .none, data := .fields ps } := I.hok P _ hP
  have hbu : s.heap.BuiltinsAt X.mg P := TB.bm.keeps I.bk
  refine PySem.W.kla_eval hdef ?_
  cases hca : codeAmong lpos ps.toList with
  | some cv =>
    obtain ⟨c', rfl, hco⟩ := ha lpos cv hca
    refine PySem.W.kla_makeFunctionHit (clos := []) hcl I.ok.glob (I.mod.glob.keeps I.bk) hcode (TB.code.keeps I.bk) hPr ht hca hbu fun ctv h' tk hx hsz => ?_
    have I0 : Inv X pins σ H { s with heap := h', toks := tk } := I.kept hx
    have I1 := I0.laid (t' := tk) (o := LamO (X.env.qual ++ "<lambda>") params body scope h'.objs.size c') (fun b u e => Heap.get?_push_of_some _ e) (Nat.le_refl _) (lamO_ok (pm := (X.mg "__name__").getD .none) (ctv := ctv) (Heap.get?_push_size _ rfl))
    exact ⟨.ref _, _, I1, rfl, hq _ c' H (.inl ⟨rfl, lpos, hca⟩) (I0.hok.fresh (Nat.le_refl _)) hco⟩
  | none =>
    refine PySem.W.kla_makeFunction (clos := []) hcl I.ok.glob (I.mod.glob.keeps I.bk) hcode (TB.code.keeps I.bk) hPr ht hca TB.gP hbu fun c' ctv h' tk hx hge hlt hrec htb => ?_
    obtain ⟨c2, oc, vs, t, ec, hoc, hd, hv⟩ := hrec
    cases ec
    have I0 := LamX.inv_table (q := X.env.qual ++ "<lambda>") (t' := tk) (more := #[rawInt lpos.line, rawInt lpos.col, .ref c']) (h' := h') I hP hx htb hge ⟨oc, vs, t, hoc, hd, hv⟩
    have I1 := I0.laid (t' := tk) (o := LamO (X.env.qual ++ "<lambda>") params body scope h'.objs.size c') (fun b u e => Heap.get?_push_of_some _ e) (Nat.le_refl _) (lamO_ok (pm := (X.mg "__name__").getD .none) (ctv := ctv) (Heap.get?_push_size _ rfl))
    have eL : (ps ++ #[rawInt lpos.line, rawInt lpos.col, .ref c']).toList = ps.toList ++ [rawInt lpos.line, rawInt lpos.col, .ref c'] := by simp
    refine ⟨.ref _, _, I1, rfl, hq _ c' _ (.inr ⟨_, I.hok.fresh hge, rfl, ?_, fun p' cv hcv => ?_⟩) (I0.hok.fresh (Nat.le_refl _)) upd_same⟩
    · rw [eL]
      exact PySem.TriplesOk_snoc _ _ _ _ ht
    · rw [eL] at hcv
      exact LamX.among_app _ ht hcv
/-- the lambda called (somewhere within the context's call) -/
theorem lam_call {pins : List (Addr × Obj)} {σ : L2.St} {H : Hp} {s : Shared} {A' : Around} {q : Str} {params : Arguments} {body : Expr} {scope : Scope} {f c : Addr} {N : List Str} {x : Str} {k : Nat} {v : V} {u : Value} {t : TE} {Q : VK}
    (I : Inv X pins σ H s) (hf : H f = some (LamO q params body scope f c)) (hc : H c = some (LamX.CodeO c q)) (S : FnScope N [x] scope)
    (hb : ∀ (pm cdv ct u : Value), bindArgs (PySem.W.kla_fn "<lambda>" q params body scope [] pm cdv ct) ⟨[u], []⟩ = pure [(x, u)]) (e0 : Env0 X.prog X.w X.K X.mg X.base A' X.stack s H) (hr : Room (k + 1) A') (r : RelV v u)
    (hbody : ∀ (A : Around) (outer : List Env) (s : Shared) (H : Hp), Room k (A.deeper (envOfC q scope s.heap.objs.size f (.ref c))) → PE (cxOf CX0 X.prog X.w X.K X.mg X.base N q scope f (.ref c) A outer s H E0) body t)
    (ht : t (L2.start N [v]) H Q) :
    wpAny (model X.prog X.w) A' (call (.ref f) [u]) (EP X pins σ Q) (fun _ _ => False) s := by
  obtain ⟨⟨pm, ctv, hof⟩, _, _⟩ := I.hok f _ hf
  obtain ⟨⟨oc, vs, tq, hoc, hdc, hvc⟩, _, _⟩ := I.hok c _ hc
  have lim : s.heap.NoLimit := e0.mod.nolimit.keeps fun b o e => (e0.bs b o e).1
  have hkind : ∀ y ∈ [(x, u)], scope.names.lookup y.1 = some .local ∨ (scope.names.lookup y.1 = some .cell ∧ ((cellsFrom (s.heap.objs.size + 1) scope.names []).lookup y.1).isSome = true) := fun y hy => by
    cases List.mem_singleton.mp hy
    rcases S.par x (List.mem_singleton.mpr rfl) with z | z
    · exact .inl z
    · exact .inr ⟨z, PySem.W.cellsFrom_some _ _ _ (.inl z)⟩
  have rc : codeAny (model X.prog X.w) A' (.call (.ref f) ⟨[u], []⟩) (CR CX0 X.stack X.prog X.w H s Q E0) s := by
    refine PySem.W.kla_callFunE hr.depth hof rfl S.co S.gen rfl ⟨c, oc, vs, tq, rfl, hoc, hdc, hvc⟩ ?_
    rw [hb]
    refine wpAny_pure (wpAny_newFunctionEnv_cells S.kind hkind fun env he s1 xc => ?_)
    subst he
    refine ⟨lim.keeps xc.toInCall.keep, ?_⟩
    have J : Inv (cxOf CX0 X.prog X.w X.K X.mg X.base N q scope f (.ref c) A' X.stack s H E0) [] (L2.start N [v]) H s1 := inv_start S hr.hd e0 rfl (.cons r .nil) xc
    refine PySem.W.kla_codeExpr (wpAny_mono ((hbody A' X.stack s H (hr.deeper _)).run [] s1 _ H Q J ht) (fun v' s' hq => ?_) fun e s' hq => hq)
    obtain ⟨w', H', J', rv, hq⟩ := hq
    exact ⟨w', H', J'.os, J'.bare, J'.base, J'.hok, rv, hq⟩
  refine wpAny_call (codeAny_mono rc fun r s' hq => ?_)
  cases r with
  | error e => exact (show False from hq).elim
  | ok fl =>
    cases fl with
    | ret u => exact I.after hq
    | next => exact False.elim hq
    | brk => exact False.elim hq
    | cont => exact False.elim hq
end
/-- a key: an int or a text -/
def kyP : Key → PyData
  | .inl i => .int i
  | .inr x => .str x
theorem reads_key {h : Heap} {κ : Key} {u : Value} (r : RelV (kV κ) u) : ∃ as, Reads h u (kyP κ) as := by
  cases κ with
  | inl i =>
    obtain ⟨t, rfl⟩ : ∃ t, u = .int i t := r
    exact ⟨[], .int i t⟩
  | inr x =>
    obtain ⟨t, rfl⟩ : ∃ t, u = .str x t := r
    exact ⟨[], .str x t⟩
/-- sorted(xs, key=f), f a lambda whose reading is t -/
def rSortK (K : PySem.W.Frag) (q : Str) (params : Arguments) (body : Expr) (scope : Scope) (N : List Str) (t : TE) : List V → List V → Hp → VK → Prop := fun vs zs H Q => ∃ (a f c : Addr) (ws : List (V × Key)) (G : Hp → Prop), vs = [.ref a] ∧ zs = [.ref f] ∧ SqL K H a (ws.map (·.1)) ∧
  PySem.W.AllAlike (ws.map fun z => kyP z.2) ∧ PySem.W.Sortable (ws.map fun z => kyP z.2) ∧ G H ∧ (∀ H1, G H1 → H1 f = some (LamO q params body scope f c) ∧ H1 c = some (LamX.CodeO c q)) ∧
  (∀ z ∈ ws, ∀ H1, G H1 → t (L2.start N [z.1]) H1 fun v H2 => v = kV z.2 ∧ G H2) ∧
  ∀ H1 p, G H1 → H1 p = none → Q (.ref p) (upd H1 p (.lst ((ws.mergeSort (PySem.W.dataLe false fun z => kyP z.2)).map (·.1))))
theorem each_rel {ws : List (V × Key)} : ∀ {its : List Value}, Vals (ws.map (·.1)) its → PySem.W.EachIs (fun u (z : V × Key) => RelV z.1 u) its ws := by
  induction ws with
  | nil => intro its h; cases h; exact .nil
  | cons z zs ih =>
    intro its h
    cases h with
    | cons h1 h2 => exact .cons h1 (ih h2)
theorem rel_each : ∀ {ws : List (V × Key)} {its : List Value}, PySem.W.EachIs (fun u (z : V × Key) => RelV z.1 u) its ws → Vals (ws.map (·.1)) its
  | _, _, .nil => .nil
  | _, _, .cons h t => .cons h (rel_each t)
theorem each_to {α β γ : Type} {R : α → γ → Prop} (f : β → γ) : ∀ {as : List α} {bs : List β}, PySem.W.EachIs (fun a b => R a (f b)) as bs → PySem.W.EachIs R as (bs.map f)
  | _, _, .nil => .nil
  | _, _, .cons h t => .cons h (each_to f t)
section
variable {X : Cx} {pins : List (Addr × Obj)} {σ : L2.St} {H : Hp} {s : Shared}
theorem dep_key (κ : Key) : (kyP κ).depth = 0 := by cases κ <;> rfl
set_option maxHeartbeats 4000000 in
theorem cr_sortK {K : PySem.W.Frag} (hK : X.K = K) {q : Str} {params : Arguments} {body : Expr} {scope : Scope} {N : List Str} {x : Str} {k : Nat} {t : TE} (S : FnScope N [x] scope)
    (hb : ∀ (pm cdv ct u : Value), bindArgs (PySem.W.kla_fn "<lambda>" q params body scope [] pm cdv ct) ⟨[u], []⟩ = pure [(x, u)]) (hr : Room (k + 3) X.A)
    (hbody : ∀ (f c : Addr) (A : Around) (outer : List Env) (s : Shared) (H : Hp), Room k (A.deeper (envOfC q scope s.heap.objs.size f (.ref c))) → PE (cxOf CX0 X.prog X.w X.K X.mg X.base N q scope f (.ref c) A outer s H E0) body t) :
    CallRK X (.builtin "sorted") [Str.ofString "key"] (rSortK K q params body scope N t) := by
  subst hK
  intro pins s σ H vs zs us us2 Q I r rz hh
  obtain ⟨l, f, c, ws, G, rfl, rfl, hs, hal, hsk, hG, hGf, hturn, hend⟩ := hh
  obtain ⟨its, rv, hl, hlen⟩ := I.list hs
  have eu : us = [.ref l] := Vals.ref1 r
  obtain ⟨u, e2, ru⟩ := vals1 rz
  obtain rfl : u = Value.ref f := ru
  subst eu e2
  have hei := each_rel rv
  rw [List.length_map] at hlen
  have hil : its.length = ws.length := hei.length
  have hZ : its.length ≤ sizeLine := by omega
  show wpAny _ _ (call (.builtin "sorted") [.ref l] [(Str.ofString "key", .ref f)]) _ _ _
  refine PySem.W.sorted_of_sort (vs := its) hl.isList hZ (PyProof.Rows.ksk_s1 _ _) (fun _ => PyProof.Rows.ksk_l1 _ _) fun E' => ?_
  rw [PyProof.Rows.ksk_t1]
  obtain ⟨a', ea'⟩ : ∃ a', a' = s.heap.objs.size + 1 := ⟨_, rfl⟩
  have hsa : s.heap.objs.size ≤ a' := by rw [ea']; exact Nat.le_succ _
  have hat := PySem.W.copyHeap_at s.heap its
  rw [← ea'] at hat ⊢
  have ha' : a' < (PySem.W.copyHeap s.heap its).objs.size := Heap.lt_size hat
  obtain ⟨n1, ho1⟩ : ∃ n1, ((PySem.W.copyHeap s.heap its).update a' (Obj.mapSeq fun _ => (#[] : Array Value))).get? a' = some (seqObj "list" #[] n1) := ⟨_, get?_update_seq hat fun _ => #[]⟩
  obtain ⟨kS, ekS⟩ : ∃ kS, kS = (((PySem.W.copyHeap s.heap its).update a' (Obj.mapSeq fun _ => (#[] : Array Value))).push (seqObj "tuple" its.toArray 0)).objs.size := ⟨_, rfl⟩
  have hkS : kS = (PySem.W.copyHeap s.heap its).objs.size + 1 := by rw [ekS, size_push', Heap.size_update]
  have hne : kS ≠ a' := Nat.ne_of_gt (by rw [hkS]; exact Nat.lt_succ_of_lt ha')
  have hsk' : s.heap.objs.size ≤ kS := Nat.le_trans hsa (by rw [hkS]; exact Nat.le_succ_of_le (Nat.le_of_lt ha'))
  have hold : ∀ b o, s.heap.get? b = some o → (PySem.W.sortingHeap (PySem.W.copyHeap s.heap its) a' its).get? b = some o := fun b o e =>
    PySem.W.sortingHeap_old (Nat.ne_of_lt (Nat.lt_of_lt_of_le (Heap.lt_size e) hsa)) (PySem.W.copyHeap_old e)
  have hkk : (PySem.W.sortingHeap (PySem.W.copyHeap s.heap its) a' its).get? kS = some (seqObj "list" #[] 0) := by
    rw [ekS]
    exact Heap.get?_push_size _ rfl
  have haa : (PySem.W.sortingHeap (PySem.W.copyHeap s.heap its) a' its).get? a' = some (seqObj "list" #[] n1) := Heap.get?_push_of_some _ (Heap.get?_push_of_some _ ho1)
  unfold ksk_tree
  refine wpAny_bind (listItems_at hat rfl ?_)
  refine wpAny_bind (listUpdate_at hat rfl ?_ (by rw [List.size_toArray]; exact hZ) (Nat.zero_le _))
  refine wpAny_bind (seqEpoch_at ho1 rfl ?_)
  refine wpAny_bind (wpAny_newTuple ?_ (by show its.length ≤ _; exact hZ))
  refine wpAny_bind (wpAny_newList ?_ (Nat.zero_le _))
  refine wpAny_holding ?_
  rw [← ekS]
  have I0 : Inv X pins σ H { s with heap := PySem.W.sortingHeap (PySem.W.copyHeap s.heap its) a' its } := I.kept (t' := s.toks) hold
  -- what is new is nobody's
  have hpk : ∀ p ∈ X.pn ++ pins, p.1 ≠ kS ∧ p.1 ≠ a' := fun p hp => by
    have h1 := Heap.lt_size (I.pin p hp).1
    exact ⟨Nat.ne_of_lt (Nat.lt_of_lt_of_le h1 hsk'), Nat.ne_of_lt (Nat.lt_of_lt_of_le h1 hsa)⟩
  have hcell : ∀ y c, X.env.cells.lookup y = some c → c ≠ kS ∧ c ≠ a' := fun y c e => by
    obtain ⟨v, o, ho, _⟩ := I.cell y c e
    have h1 := Heap.lt_size ho
    exact ⟨Nat.ne_of_lt (Nat.lt_of_lt_of_le h1 hsk'), Nat.ne_of_lt (Nat.lt_of_lt_of_le h1 hsa)⟩
  have hloc : kS ≠ X.env.locals ∧ a' ≠ X.env.locals := by
    have h1 := I.lt
    exact ⟨Nat.ne_of_gt (Nat.lt_of_lt_of_le h1 hsk'), Nat.ne_of_gt (Nat.lt_of_lt_of_le h1 hsa)⟩
  have hfs : kS ∉ X.fs ∧ a' ∉ X.fs := ⟨I.nofs hsk', I.nofs hsa⟩
  have addP : ∀ {σ : L2.St} {H1 : Hp} {s1 : Shared} {kA : Array Value} {e : Nat}, Inv X pins σ H1 s1 → s1.heap.get? kS = some (seqObj "list" kA e) → s1.heap.get? a' = some (seqObj "list" #[] n1) → H1 kS = none → H1 a' = none →
      Inv X ([(kS, seqObj "list" kA e), (a', seqObj "list" #[] n1)] ++ pins) σ H1 s1 := fun {σ H1 s1 kA e} J z1 z2 z3 z4 => J.pins_of fun p hp => by
    rcases List.mem_append.mp hp with hp | hp
    · rcases List.mem_cons.mp hp with rfl | hp
      · exact ⟨z1, z3, hloc.1, hfs.1, fun v z => by cases z⟩
      · cases List.mem_singleton.mp hp
        exact ⟨z2, z4, hloc.2, hfs.2, fun v z => by cases z⟩
    · exact J.pin p (List.mem_append_right _ hp)
  unfold ksk_rest
  refine wpAny_bind (wpAny_rule ?_)
  first
    | rw [List.forIn_toArray]
    | (rw [← Array.forIn_toList]; simp only [List.toList_toArray])
  refine wpAny_bind (ksk_fold (fun i s1 => ∃ (H1 : Hp) (kA : Array Value) (e : Nat), G H1 ∧ Inv X ([(kS, seqObj "list" kA e), (a', seqObj "list" #[] n1)] ++ pins) σ H1 s1 ∧ PySem.W.EachIs (fun u (z : V × Key) => RelV (kV z.2) u) kA.toList (ws.take i)) its 0 _
    ⟨H, #[], 0, hG, addP I0 hkk haa (I.hok.fresh hsk') (I.hok.fresh hsa), by rw [List.take_zero]; exact .nil⟩ ?step ?done)
  case step =>
    rintro j y s1 hy ⟨H1, kA, e, hG1, J, hk⟩
    simp only [Nat.zero_add] at hk ⊢
    have hj : j < its.length := (List.getElem?_eq_some_iff.mp hy).1
    obtain ⟨z, hz⟩ : ∃ z, ws[j]? = some z := ⟨_, List.getElem?_eq_getElem (by omega)⟩
    have hm : z ∈ ws := List.mem_of_getElem? hz
    have hrel : RelV z.1 y := hei.zip (y, z) (List.mem_of_getElem? (i := j) (by rw [List.getElem?_zip_eq_some]; exact ⟨hy, hz⟩))
    have hsz : kA.size ≤ its.length := by
      have h1 := hk.length
      rw [Array.length_toList, List.length_take] at h1
      omega
    obtain ⟨hGf1, hGc1⟩ := hGf H1 hG1
    refine wpAny_bind (wpAny_attempt (wpAny_mono (lam_call (k := k) J hGf1 hGc1 S hb J.env0.in1.in1 ((hr.in1).in1) hrel (hbody f c) (hturn z hm H1 hG1)) (fun u s2 hu => ?_) fun _ _ hF => hF.elim))
    obtain ⟨v, H2, J2, rv2, ev, hG2⟩ := hu
    subst ev
    have p1 := J2.pin (kS, seqObj "list" kA e) (List.mem_append_right _ (List.mem_append_left _ List.mem_cons_self))
    have p2 := J2.pin (a', seqObj "list" #[] n1) (List.mem_append_right _ (List.mem_append_left _ (List.mem_cons_of_mem _ List.mem_cons_self)))
    have sb := Heap.SameBut.update s2.heap kS (Obj.mapSeq (·.push u))
    obtain ⟨e2, hc2⟩ : ∃ e2, (s2.heap.update kS (Obj.mapSeq (·.push u))).get? kS = some (seqObj "list" (kA.push u) e2) := ⟨_, get?_update_seq p1.1 (·.push u)⟩
    try dsimp only
    refine wpAny_bind (listUpdate_at p1.1 rfl ?_ (by omega) (by rw [Array.size_push]; omega))
    have J3 : Inv X pins σ H2 s2 := J2.pins_of fun p hp => J2.pin p ((List.mem_append.mp (List.mem_append_right (as := X.pn) hp)).elim (List.mem_append_left _) fun h => List.mem_append_right _ (List.mem_append_right _ h))
    have J4 : Inv X pins σ H2 { s2 with heap := s2.heap.update kS (Obj.mapSeq (·.push u)) } := J3.turned (t' := s2.toks) (it := kS) (fun b o hbk e => (sb.2 b hbk).trans e) p1.2.1 hloc.1 (.inr (Nat.le_trans I.sz hsk')) (fun x c e => (hcell x c e).1) fun p hp => (hpk p hp).1
    refine wpAny_pure ⟨rfl, H2, kA.push u, e2, hG2, addP J4 hc2 ((sb.2 a' hne.symm).trans p2.1) p1.2.1 p2.2.1, ?_⟩
    have e3 : ws.take (j + 1) = ws.take j ++ [z] := by rw [List.take_add_one, hz]; simp
    have e4 : (kA.push u).toList = kA.toList ++ [u] := by simp
    rw [e3, e4]
    exact PySem.W.each_snoc (R := fun u (z : V × Key) => RelV (kV z.2) u) rv2 hk
  case done =>
    rintro s1 ⟨H1, kA, e, hG1, J, hk⟩
    have e0 : ws.take (0 + its.length) = ws := List.take_of_length_le (by omega)
    rw [e0] at hk
    have p1 := J.pin (kS, seqObj "list" kA e) (List.mem_append_right _ (List.mem_append_left _ List.mem_cons_self))
    have p2 := J.pin (a', seqObj "list" #[] n1) (List.mem_append_right _ (List.mem_append_left _ (List.mem_cons_of_mem _ List.mem_cons_self)))
    have hsz : kA.size = its.length := by
      have h1 := hk.length
      rw [Array.length_toList] at h1
      omega
    have hkd : PySem.W.EachIs (fun u d => ∃ as, Reads s1.heap u d as) kA.toList (ws.map fun z => kyP z.2) := each_to (fun z : V × Key => kyP z.2) (hk.mono fun u z h => reads_key h)
    try dsimp only
    refine wpAny_bind (listItems_at p1.1 rfl ?_)
    refine PySem.W.keyH_end (κ := PySem.W.dataKind s1.heap (ws.map fun z => kyP z.2)) (h₁ := PySem.W.hideAll s1.heap [kS]) (fun b o _ e => PySem.W.of_hideAll _ e) (PySem.W.hideAll_none _ List.mem_cons_self) p1.1 p2.1 hne
      (PySem.W.SortsAt.data hkd hal hsk fun d hd => ?_) hsz hZ fun h3 tk3 c3 k3 n3 => ?_
    · obtain ⟨z, _, rfl⟩ := List.mem_map.mp hd
      rw [dep_key]
      have := hr.in1.in1.units
      omega
    · refine ⟨rfl, .ref a', upd H1 a' (.lst ((ws.mergeSort (PySem.W.dataLe false fun z => kyP z.2)).map (·.1))), ?_, rfl, hend H1 a' hG1 p2.2.1⟩
      have hout := PySem.W.keyedOut_each (rev := false) (bs := ws) (R := fun u (z : V × Key) => RelV z.1 u) (fun z => kyP z.2) ⟨s1.heap, kA.toList, hal, rfl, hkd⟩ hei
      have keep : ∀ b o, b ≠ a' → b ≠ kS → s1.heap.get? b = some o → h3.get? b = some o := fun b o q1 q2 e => k3 b o q1 (PySem.W.hideAll_get _ e (by simpa using q2))
      have hnew : ObjOk X.prog X.w (upd H1 a' (.lst ((ws.mergeSort (PySem.W.dataLe false fun z => kyP z.2)).map (·.1)))) h3 a' (.lst ((ws.mergeSort (PySem.W.dataLe false fun z => kyP z.2)).map (·.1))) :=
        ⟨by rw [List.length_map, List.length_mergeSort]; omega, _, c3, rel_each hout, n3⟩
      have J3 : Inv X pins σ H1 s1 := J.pins_of fun p hp => J.pin p ((List.mem_append.mp (List.mem_append_right (as := X.pn) hp)).elim (List.mem_append_left _) fun h => List.mem_append_right _ (List.mem_append_right _ h))
      refine J3.step (g' := s1.gens) (d' := s1.drawn) (t' := tk3) (ch := [kS, a']) (fun b hb => ?_) (fun b o _ _ hc e _ => keep b o (fun z => hc (by simp [z])) (fun z => hc (by simp [z])) e) (fun b o _ _ hc e _ => ⟨o.slots, keep b o (fun z => hc (by simp [z])) (fun z => hc (by simp [z])) e⟩)
        (fun b o hc e n => by rw [upd_ne fun z => hc (by simp [z])]; exact n) (fun b o hc e => ⟨o, keep b o (fun z => hc (by simp [z])) (fun z => hc (by simp [z])) e⟩) (fun b xs e => by rw [upd_ne (ne_of_none e p2.2.1)]; exact e) (fun b o u e => by rw [upd_ne (ne_of_none e p2.2.1)]; exact e)
        (fun b ps e => ⟨#[], by rw [upd_ne (ne_of_none e p2.2.1), e]; simp⟩) (fun m hm => ?_) (fun b u e => ?_) J3.bare
      · have hb2 : b = kS ∨ b = a' := by simpa using hb
        rcases hb2 with rfl | rfl
        · exact ⟨.inr (Nat.le_trans I.sz hsk'), hloc.1, fun x c e => (hcell x c e).1, fun p hp => (hpk p hp).1⟩
        · exact ⟨.inr (Nat.le_trans I.sz hsa), hloc.2, fun x c e => (hcell x c e).2, fun p hp => (hpk p hp).2⟩
      · obtain ⟨o, es, ep, ho, rr⟩ := hm
        exact ⟨o, es, ep, keep _ o (Ne.symm hloc.2) (Ne.symm hloc.1) ho, rr⟩
      · by_cases hb2 : b = a'
        · subst hb2
          rw [upd_same] at e
          cases e
          exact hnew
        · rw [upd_ne hb2] at e
          have nb : b ≠ kS := ne_of_none e p1.2.1
          refine (J3.hok b u e).stay (fun d v hd q => keep d v ?_ ?_ q) (fun d q => by rw [upd_ne (ne_of_none q p2.2.1)]; exact q) fun d xs q => by rw [upd_ne (ne_of_none q p2.2.1)]; exact q
          · rcases hd with z | z
            · rw [z]; exact hb2
            · exact ne_of_none z p2.2.1
          · rcases hd with z | z
            · rw [z]; exact nb
            · exact ne_of_none z p1.2.1
end
section
variable {X : Cx}
/-- sorted(e, key=lambda x: body) -/
theorem pe_sortK {K : PySem.W.Frag} (hK : X.K = K) {c P : Addr} {params : Arguments} {body e : Expr} {scope : Scope} {lpos kpos p pos : Pos} {N : List Str} {x : Str} {k : Nat} {te tb : TE} (TB : LamX.TabB X.base X.mg c P) (hcode : X.env.code = .ref c) (hg : Gl X "sorted") (hm : X.mg "sorted" = none)
    (S : FnScope N [x] scope) (hr : Room (k + 3) X.A) (he : PE X e te)
    (hbody : ∀ (f c : Addr) (A : Around) (outer : List Env) (s : Shared) (H : Hp), Room k (A.deeper (envOfC (X.env.qual ++ "<lambda>") scope s.heap.objs.size f (.ref c))) → PE (cxOf CX0 X.prog X.w K X.mg X.base N (X.env.qual ++ "<lambda>") scope f (.ref c) A outer s H E0) body tb)
    (hdef : defaultsOf params X.env = ([], []) := by rfl) (hcl : closureFor scope X.env = pure [] := by rfl) (hb : ∀ (pm cdv ct u : Value), bindArgs (PySem.W.kla_fn "<lambda>" (X.env.qual ++ "<lambda>") params body scope [] pm cdv ct) ⟨[u], []⟩ = pure [(x, u)] := by intros; rfl)
    (h0 : starEach [e] X.env = (false, eval e X.env) :: starEach [] X.env := by rfl) (h1 : backTo pos (starEach [e] X.env) = (false, eval e X.env) :: backTo pos (starEach [] X.env) := by rfl) (h2 : (backTo pos (starEach [e] X.env)).any (·.1) = false := by rfl)
    (h3 : (backToKw pos (keywordEach [⟨some (Str.ofString "key"), .Lambda params body scope lpos, kpos⟩] X.env)).all (·.1.isSome) = true := by rfl) (h4 : (backToKw pos (keywordEach [⟨some (Str.ofString "key"), .Lambda params body scope lpos, kpos⟩] X.env)).any (·.1.isNone) = false := by rfl)
    (h5 : (backToKw pos (keywordEach [⟨some (Str.ofString "key"), .Lambda params body scope lpos, kpos⟩] X.env)).filterMap (·.1) = [Str.ofString "key"] := by rfl) :
    PE X (.Call (.Name "sorted" p) [e] [⟨some (Str.ofString "key"), .Lambda params body scope lpos, kpos⟩] pos)
      (tCKw (rSortK K (X.env.qual ++ "<lambda>") params body scope N tb) (tCons te tNil) (tCons (tLam1 P (X.env.qual ++ "<lambda>") (LamO (X.env.qual ++ "<lambda>") params body scope)) tNil)) := by
  subst hK
  exact pe_callBK (cr_sortK rfl S hb hr hbody) hg hm rfl (pa_cons (hs := h0) he pa_nil) (pk_cons (pe_lam1 TB hcode hdef hcl) pk_nil) (by decide) (by decide) h1 h2 h3 h4 h5
end
/-! ### sorted by a lambda, by data -/
def sortByK (key : D → Key) (ds : List D) : List D := ds.mergeSort fun a b => leD (dKey (key a)) (dKey (key b))
section
variable {K : PySem.W.Frag} {Ξ : XI}
/-- what a thing entered from here leaves, seen from here -/
theorem inner_back {F H F' H' : Hp} {ω ω' : Om} {s : Sl} {σ : L2.St} (T : Sta K Ξ F H ω s σ) (p : Stp F H (fun _ => none) F' H' ω') (hs : Same F' H') : Stp F H ω F' H' ω ∧ Sta K Ξ F' H' ω s σ := by
  have tb : AllT F' H' ω := fun q hq => by
    obtain ⟨h1, _, h3⟩ := p.tb q hq
    exact ⟨h1, (T.tb q hq).2.1, h3⟩
  have pp : Stp F H ω F' H' ω := ⟨T.tb, tb, fun b o _ h => p.th b o rfl h, p.sf, fun b o ht _ h => p.fr b o ht rfl h, fun _ _ h _ => h, fun b o _ h1 h2 => p.fn b o rfl h1 h2, p.tr, fun _ _ => Iff.rfl, fun _ _ _ _ h => .inl h, fun _ _ h => .inl h⟩
  refine ⟨pp, ⟨tb, hs, fun b q h => ?_, fun i x h => ?_, T.len, T.ix⟩, T.ex.step pp⟩
  · obtain ⟨h1, u, h2⟩ := T.ow b q h
    exact ⟨p.fn b u rfl h2 h1, p.th b u rfl h2⟩
  · obtain ⟨v, h1, h2⟩ := T.at' i x h
    exact ⟨v, h1, h2.to p.sf fun a u ⟨_, hw⟩ hu => p.fr a u (T.tb.own hw) rfl hu⟩
theorem codeO_tbl {c : Addr} {q : Str} (ps : Array Value) : LamX.CodeO c q ≠ .tbl ps := fun z => by
  unfold LamX.CodeO at z
  cases z
/-- a lambda is made -/
theorem lam_sta {F H H2 : Hp} {ω : Om} {s : Sl} {σ : L2.St} {P f c : Addr} {q : Str} {ps : Array Value} {o : HO} (T : Sta K Ξ F H ω s σ) (hm : (P, q) ∈ Tbs.T) (hu : ∀ p ∈ Tbs.T, p.1 = P → p.2 = q) (hP : H P = some (.tbl ps)) (hL : LamH P q H ps c H2) (hf : H2 f = none) (hc : H2 c = some (LamX.CodeO c q)) :
    Stp F H ω (upd (upd F c (LamX.CodeO c q)) f o) (upd H2 f o) ω ∧ Sta K Ξ (upd (upd F c (LamX.CodeO c q)) f o) (upd H2 f o) ω s σ ∧ upd (upd F c (LamX.CodeO c q)) f o f = some o ∧ upd (upd F c (LamX.CodeO c q)) f o c = some (LamX.CodeO c q) := by
  obtain ⟨t1, t2, ps', t3, t4, t5⟩ := T.tb _ hm
  rw [hP] at t3
  cases t3
  have hcf : c ≠ f := ne_of_none hc hf
  have hcP : c ≠ P := fun z => by
    rcases hL with ⟨e, _⟩ | ⟨more, n1, e, _⟩
    · rw [e, z, hP] at hc
      exact codeO_tbl _ (Option.some.inj hc).symm
    · rw [z, hP] at n1
      cases n1
  have hold : ∀ b u, b ≠ P → H b = some u → H2 b = some u := fun b u hb h => by
    rcases hL with ⟨e, _⟩ | ⟨more, n1, e, _⟩
    · rw [e]; exact h
    · rw [e, upd_ne (ne_of_none h n1), upd_ne hb]
      exact h
  have hPt : ∃ qs : Array Value, H2 P = some (.tbl qs) ∧ TriplesOk qs.toList ∧ ∀ (pos : Pos) (cv : Value), codeAmong pos qs.toList = some cv → (∃ c0, cv = .ref c0 ∧ F c0 = some (LamX.CodeO c0 q)) ∨ cv = .ref c := by
    rcases hL with ⟨e, _⟩ | ⟨more, n1, e, h1, h2⟩
    · exact ⟨ps, by rw [e]; exact hP, t4, fun pos cv h => .inl (t5 pos cv h)⟩
    · exact ⟨_, by rw [e, upd_ne (Ne.symm hcP), upd_same], h1, fun pos cv h => (h2 pos cv h).imp (t5 pos cv) id⟩
  have hHf : H f = none := by
    cases e : H f with
    | none => rfl
    | some u =>
      by_cases hb : f = P
      · obtain ⟨qs, e2, _⟩ := hPt
        rw [← hb, hf] at e2
        cases e2
      · rw [hold f u hb e] at hf; cases hf
  have hFf : F f = none := T.sf.free hHf
  have hωf : ω f = none := Sta.free T.base hHf
  -- what of c was known
  have hFc : (F c = none ∧ H c = none ∧ ω c = none) ∨ F c = some (LamX.CodeO c q) := by
    rcases hL with ⟨e, pos, hca⟩ | ⟨more, n1, e, _⟩
    · obtain ⟨c0, e1, e2⟩ := t5 pos _ hca
      cases e1
      exact .inr e2
    · exact .inl ⟨T.sf.free n1, n1, Sta.free T.base n1⟩
  have hωc : ω c = none := by
    rcases hFc with z | z
    · exact z.2.2
    · cases e : ω c with
      | none => rfl
      | some p => rw [(T.ow c p e).1] at z; cases z
  have s1 : Same F (upd F c (LamX.CodeO c q)) := fun b u h => by
    by_cases hb : b = c
    · rcases hFc with ⟨z, _⟩ | z
      · rw [hb, z] at h; cases h
      · rw [hb, upd_same, ← z, ← hb]; exact h
    · rw [upd_ne hb]; exact h
  have s2 : Same F (upd (upd F c (LamX.CodeO c q)) f o) := s1.trans (same_upd (by rw [upd_ne (Ne.symm hcf)]; exact hFf))
  have hpd : ∀ b u, b ≠ P → H b = some u → upd H2 f o b = some u := fun b u hb h => by
    rw [upd_ne (ne_of_none h hHf)]
    exact hold b u hb h
  have hFP : ∀ b u, F b = some u → b ≠ P := fun b u h z => by rw [z, t1] at h; cases h
  have tb : AllT (upd (upd F c (LamX.CodeO c q)) f o) (upd H2 f o) ω := fun p hp => by
    obtain ⟨a1, a2, qs, a3, a4, a5⟩ := T.tb p hp
    have npc : p.1 ≠ c := fun z => by
      rcases hFc with ⟨_, y, _⟩ | y
      · rw [z, y] at a3; cases a3
      · rw [z, y] at a1; cases a1
    have npf : p.1 ≠ f := ne_of_none a3 hHf
    refine ⟨by rw [upd_ne npf, upd_ne npc]; exact a1, a2, ?_⟩
    by_cases hb : p.1 = P
    · obtain ⟨rs, b1, b2, b3⟩ := hPt
      refine ⟨rs, by rw [upd_ne npf, hb]; exact b1, b2, fun pos cv h => ?_⟩
      rw [hu p hp hb]
      rcases b3 pos cv h with ⟨c0, e, z⟩ | e
      · exact ⟨c0, e, s2 _ _ z⟩
      · exact ⟨c, e, by rw [upd_ne hcf, upd_same]⟩
    · refine ⟨qs, hpd _ _ hb a3, a4, fun pos cv h => ?_⟩
      obtain ⟨c0, e, z⟩ := a5 pos cv h
      exact ⟨c0, e, s2 _ _ z⟩
  have hPf : P ≠ f := ne_of_none hP hHf
  have nown : ∀ b p, ω b = some p → b ≠ c ∧ b ≠ f ∧ b ≠ P := fun b p h => by
    refine ⟨fun z => ?_, fun z => ?_, fun z => ?_⟩
    · rw [z, hωc] at h; cases h
    · rw [z, hωf] at h; cases h
    · rw [z, t2] at h; cases h
  have pp : Stp F H ω (upd (upd F c (LamX.CodeO c q)) f o) (upd H2 f o) ω := by
    refine ⟨T.tb, tb, fun b u _ h => ?_, s2, fun b u ht _ h => hpd b u (fun z => ht ⟨q, by rw [z]; exact hm⟩) h, fun _ _ h _ => h, fun b u _ h1 h2 => ?_, fun b h => ?_, fun _ _ => Iff.rfl, fun _ _ _ _ h => .inl h, fun _ _ h => .inl h⟩
    · by_cases hb : b = P
      · obtain ⟨rs, b1, _⟩ := hPt
        exact ⟨_, by rw [hb, upd_ne hPf]; exact b1⟩
      · exact ⟨u, hpd b u hb h⟩
    · rw [upd_ne (ne_of_none h1 hHf)]
      by_cases hb : b = c
      · rcases hFc with ⟨_, y, _⟩ | y
        · rw [hb, y] at h1; cases h1
        · rw [hb, y] at h2; cases h2
      · rw [upd_ne hb]; exact h2
    · cases e : H b with
      | none => rfl
      | some u =>
        by_cases hb : b = P
        · obtain ⟨rs, b1, _⟩ := hPt
          rw [hb, upd_ne hPf, b1] at h
          cases h
        · rw [hpd b u hb e] at h; cases h
  refine ⟨pp, ⟨⟨tb, fun b u h => ?_, fun b p h => ?_, fun i x h => ?_, T.len, T.ix⟩, T.ex.step pp⟩, upd_same, by rw [upd_ne hcf, upd_same]⟩
  · by_cases hbf : b = f
    · rw [hbf, upd_same] at h ⊢
      exact h
    · rw [upd_ne hbf] at h ⊢
      by_cases hb : b = c
      · rw [hb, upd_same] at h
        rw [hb, ← h]
        exact hc
      · rw [upd_ne hb] at h
        exact hold b u (hFP b u h) (T.sf b u h)
  · obtain ⟨n1, n2, n3⟩ := nown b p h
    obtain ⟨h1, u, h2⟩ := T.ow b p h
    exact ⟨by rw [upd_ne n2, upd_ne n1]; exact h1, u, hpd b u n3 h2⟩
  · obtain ⟨v, h1, h2⟩ := T.at' i x h
    exact ⟨v, h1, h2.to s2 fun a u ⟨p, hw⟩ hu => hpd a u (nown a p hw).2.2 hu⟩
def pSortK (P : Addr) (q : Str) (n : Nat) (pe : PD) (pb : PX) : PX := fun s k => pe s fun d s1 => match d with
  | .lst ds => (P, q) ∈ Tbs.T ∧ (∀ p ∈ Tbs.T, p.1 = P → p.2 = q) ∧ ∃ key : D → Key, (∀ d ∈ ds, pb (startS n [.fr d]) fun x _ => x = .fr (dKey (key d))) ∧ SortOk (ds.map fun d => dKey (key d)) ∧ k (.ow false (.lst (sortByK key ds))) s1
  | _ => False
theorem py_key (κ : Key) : (dKey κ).py = kyP κ := by cases κ <;> rfl
instance {P : Addr} {q : Str} {params : Arguments} {body : Expr} {scope : Scope} {N : List Str} {te tb : TE} {pe : PD} {pb : PX} [LiftD K Ξ te pe] [LiftE K XI.zero tb pb] :
    LiftE K Ξ (tCKw (rSortK K q params body scope N tb) (tCons te tNil) (tCons (tLam1 P q (LamO q params body scope)) tNil)) (pSortK P q N.length pe pb) := ⟨fun {F H ω s σ Q} kk T h k => by
  refine LiftD.run (K := K) (t := te) (p := pe) _ T h fun v F1 H1 ω1 d s1 p1 T1 r1 h1 => ?_
  split at h1
  rotate_left
  · exact h1.elim
  rename_i ds
  obtain ⟨hm, hu, key, hkey, ⟨hpl, hal, hso⟩, hq⟩ := h1
  obtain ⟨a, vs, rfl, ha, hvs⟩ := r1
  obtain ⟨t1, t2, ps, t3, t4, t5⟩ := T1.tb _ hm
  refine ⟨ps, t3, t4, fun pos cv hc => ?_, fun f c H2 hL hf hc => ?_⟩
  · obtain ⟨c, e, z⟩ := t5 pos cv hc
    exact ⟨c, e, T1.sf _ _ z⟩
  obtain ⟨p2, T2, hff, hfc⟩ := lam_sta (o := LamO q params body scope f c) T1 hm hu t3 hL hf hc
  obtain ⟨zs, rfl, rfl, hz⟩ := RpA.pair hvs
  have e1 : (zs.map fun z => (z.1, key z.2)).map (fun z => kyP z.2) = ((zs.map (·.2)).map fun d => dKey (key d)).map D.py := by
    rw [List.map_map, List.map_map, List.map_map]
    exact List.map_congr_left fun z _ => (py_key _).symm
  refine ⟨a, f, c, zs.map fun z => (z.1, key z.2), fun H3 => ∃ F3, Stp (upd (upd F1 c (LamX.CodeO c q)) f (LamO q params body scope f c)) (upd H2 f (LamO q params body scope f c)) ω1 F3 H3 ω1 ∧ Sta K Ξ F3 H3 ω1 s1 σ, rfl, rfl, ?_, ?_, ?_, ⟨_, Stp.refl T2.tb, T2⟩, ?_, ?_, ?_⟩
  · rw [List.map_map]
    exact SqL.of (T2.sf _ _ (p2.sf _ _ ha))
  · rw [e1]; exact hal
  · rw [e1]; exact hso
  · rintro H3 ⟨F3, p3, T3⟩
    exact ⟨T3.sf _ _ (p3.sf _ _ hff), T3.sf _ _ (p3.sf _ _ hfc)⟩
  · rintro y hy H3 ⟨F3, p3, T3⟩
    obtain ⟨z, hzm, rfl⟩ := List.mem_map.mp hy
    have hr := ((hz z hzm).mono p2.sf).mono p3.sf
    have T0 : Sta K XI.zero F3 H3 (fun _ => none) (startS N.length [.fr z.2]) (L2.start N [z.1]) := by
      refine ⟨⟨T3.tb.go (Same.refl _) (fun _ _ _ _ h => h) (fun _ _ _ _ _ => rfl) (fun _ _ _ _ _ h => h), T3.sf, fun _ _ h => (by cases h), fun i x hx => ?_, by unfold startS L2.start; simp, fun _ _ _ h => (by cases h)⟩, Exo.zero⟩
      cases i with
      | zero =>
        cases hx
        exact ⟨z.1, rfl, hr⟩
      | succ i =>
        unfold startS at hx
        have : (List.replicate (N.length - 1) (none : Option S))[i]? = some (some x) := by simpa using hx
        rw [List.getElem?_replicate] at this
        split at this <;> cases this
    refine LiftE.run (K := K) (Ξ := XI.zero) (t := tb) (p := pb) _ T0 (hkey z.2 (List.mem_map_of_mem hzm)) fun v4 F4 H4 ω4 x s4 p4 T4 r4 hx => ?_
    subst hx
    obtain ⟨p5, T5⟩ := inner_back T3 p4 T4.sf
    refine ⟨?_, F4, p3.trans p5, T5⟩
    show v4 = kV (key z.2)
    cases e : key z.2 with
    | inl i => rw [e] at r4; exact r4
    | inr x => rw [e] at r4; exact r4
  · rintro H3 p ⟨F3, p3, T3⟩ hp
    have e3 : ((zs.map fun z => (z.1, key z.2)).mergeSort (PySem.W.dataLe false fun z => kyP z.2)).map (·.1) = (zs.mergeSort fun x y => leD (dKey (key x.2)) (dKey (key y.2))).map (·.1) := by
      rw [← PySem.W.sort_maps (r := fun (x y : V × D) => leD (dKey (key x.2)) (dKey (key y.2))) (fun z : V × D => (z.1, key z.2)) (fun a _ b _ => by unfold leD; rw [py_key, py_key]; rfl), List.map_map]
      rfl
    have e4 : sortByK key (zs.map (·.2)) = (zs.mergeSort fun x y => leD (dKey (key x.2)) (dKey (key y.2))).map (·.2) := by
      unfold sortByK
      rw [← PySem.W.sort_maps (r := fun (x y : V × D) => leD (dKey (key x.2)) (dKey (key y.2))) (fun z : V × D => z.2) (fun a _ b _ => rfl)]
    rw [e3]
    rw [e4] at hq
    have ee := Ext.ow T3.sf hp (.lst ((zs.mergeSort fun x y => leD (dKey (key x.2)) (dKey (key y.2))).map (·.1)))
    obtain ⟨p6, T6⟩ := ee.stp T3
    have pa := p1.trans (p2.trans p3)
    exact k _ _ _ _ (.ow false (.lst _)) _ (pa.trans p6) T6 ⟨p, [p], rfl, fun b hb => by cases List.mem_singleton.mp hb; exact ⟨pa.tr _ hp, Sta.free T3.base hp, T3.sf.free hp⟩, obj_lst upd_same (RpA.unpair fun z hzm => ((hz z (List.mem_mergeSort.mp hzm)).mono p2.sf).mono p3.sf)⟩ hq⟩
end
section
variable {P : Program} {w : World} {K : PySem.W.Frag} {mg : Str → Option Value} {base : Heap}
/-- a def's rule, its code object told -/
theorem fun_okC {x qual : Str} {st : Stmt} {f : Addr} {fd : FuncData} {N ps : List Str} {k : Nat} {sp : Sp} (Fn : L2.Fun K x qual st f fd) (S : FnScope N ps (defScope st)) (len : ∀ vs H Q E, sp vs H Q E → vs.length = ps.length)
    (hb : ∀ (A : Around) (outer : List Env) (s : Shared) (H : Hp) (vs : List V) (Q : VK) (E : XK), Room k (A.deeper (envOfC qual (defScope st) s.heap.objs.size f fd.code)) → sp vs H Q E →
      ∃ t, PSs (cxOf CX0 P w K mg base N qual (defScope st) f fd.code A outer s H E).nox (defBody st) t ∧ t { nx := fun _ H' => Q .non H', rt := Q } (L2.start N vs) H) : FnOk P w K mg base CX0 (k + 1) f fd ps sp := by
  obtain ⟨_, _, _, _, _, _, _, _, _, rfl, lk, hcd⟩ := Fn.ex
  exact fn_of lk hcd S len fun A outer s H vs Q E hr hs => (hb A outer s H vs Q E hr hs).imp fun t z => ⟨z.1.nox, z.2⟩
theorem fun_okXC {x qual : Str} {st : Stmt} {f : Addr} {fd : FuncData} {N ps : List Str} {k : Nat} {sp : Sp} (Fn : L2.Fun K x qual st f fd) (S : FnScope N ps (defScope st)) (len : ∀ vs H Q E, sp vs H Q E → vs.length = ps.length)
    (hb : ∀ (A : Around) (outer : List Env) (s : Shared) (H : Hp) (vs : List V) (Q : VK) (E : XK), Room k (A.deeper (envOfC qual (defScope st) s.heap.objs.size f fd.code)) → sp vs H Q E →
      ∃ t, PSs (cxOf (L2.CX P w) P w K mg base N qual (defScope st) f fd.code A outer s H E) (defBody st) t ∧ t { nx := fun _ H' => Q .non H', rt := Q } (L2.start N vs) H) : FnOk P w K mg base (L2.CX P w) (k + 1) f fd ps sp := by
  obtain ⟨_, _, _, _, _, _, _, _, _, rfl, lk, hcd⟩ := Fn.ex
  exact fn_of lk hcd S len fun A outer s H vs Q E hr hs => hb A outer s H vs Q E hr hs
end
/-! ### xs.remove(y), items data of any depth -/
section
open PySem.SeqAt PySem.MeetsSeq
theorem remD_loop (l : Addr) (us : Array Value) (n : Nat) (y : Value) (f : Value → Bool) (j : Nat) (hj : j < us.size) (hit : f us[j] = true) (hz : us.size ≤ sizeLine) (k : Nat) :
    ∀ i : Nat, j - i = k → i ≤ j → (∀ m (q : m < us.size), i ≤ m → m < j → f us[m] = false) →
    PySem.Meets (Builtin.«list.remove.loop» ⟨[.ref l, y, rawInt i], []⟩) (fun A R s => s.heap.get? l = some ⟨.type "list", none, .seq us n, #[]⟩ ∧ (∀ u, u ∈ us → EqAt A.in1 s u y (f u)) ∧
      R (.ok (.ret .none)) { s with heap := s.heap.update l (Obj.mapSeq fun xs => xs.eraseIdxIfInBounds j) }) := by
  induction k with
  | zero =>
    intro i e1 e2 no prog w A R s h
    obtain ⟨hp, g, d, tk, os⟩ := s
    obtain ⟨hl, he, h⟩ := h
    obtain rfl : i = j := by omega
    wp_walk using wpAny_loadPart' hl
    have at_ : us[((i : Nat) : Int).toNat]? = some us[i] := by simp [hj]
    rw [at_]
    refine wpAny_bind (he _ (Array.getElem_mem hj) prog w _ _ ?_)
    rw [hit]
    have z2 : (us.eraseIdxIfInBounds i).size ≤ sizeLine + 1 := by
      have := size_erased us i
      omega
    wp_walk using (wpAny_updateSeq hl rfl (hz := hz) (_hz' := z2)), wpAny_loadPart' hl
    simpa using h
  | succ k ih =>
    intro i e1 e2 no prog w A R s h
    obtain ⟨hp, g, d, tk, os⟩ := s
    obtain ⟨hl, he, h⟩ := h
    have lt : i < us.size := by omega
    wp_walk using wpAny_loadPart' hl
    have at_ : us[((i : Nat) : Int).toNat]? = some us[i] := by simp [lt]
    have nx : ((i : Int) + 1) = ((i + 1 : Nat) : Int) := by push_cast; rfl
    rw [at_]
    refine wpAny_bind (he _ (Array.getElem_mem lt) prog w _ _ ?_)
    rw [no i lt (Nat.le_refl _) (by omega)]
    wp_walk
    rw [nx]
    refine ⟨plainId_quiet plain_remove_loop _, codeAny_builtin entry_remove_loop ?_⟩
    rw [Around.under_plainId plain_remove_loop _]
    exact ih (i + 1) (by omega) (by omega) (fun m q a b => no m q (by omega) b) prog w A R _ ⟨hl, he, h⟩
theorem remD (l : Addr) (us : Array Value) (n : Nat) (y : Value) (f : Value → Bool) (j : Nat) (hj : j < us.size) (hit : f us[j] = true) (no : ∀ m (q : m < us.size), m < j → f us[m] = false) (hz : us.size ≤ sizeLine) :
    PySem.Meets (Builtin.«list.remove» ⟨[.ref l, y], []⟩) (fun A R s => s.heap.get? l = some ⟨.type "list", none, .seq us n, #[]⟩ ∧ (∀ u, u ∈ us → EqAt A.in1 s u y (f u)) ∧
      R (.ok (.ret .none)) { s with heap := s.heap.update l (Obj.mapSeq fun xs => xs.eraseIdxIfInBounds j) }) := by
  intro prog w A R s h
  obtain ⟨hp, g, d, tk, os⟩ := s
  obtain ⟨hl, he, h⟩ := h
  wp_walk using wpAny_loadPart' hl
  refine ⟨plainId_quiet plain_remove_loop _, codeAny_builtin entry_remove_loop ?_⟩
  rw [Around.under_plainId plain_remove_loop _]
  exact remD_loop l us n y f j hj hit hz _ 0 rfl (Nat.zero_le _) (fun m q _ b => no m q b) prog w A R _ ⟨hl, he, h⟩
end
def rRemD (K : PySem.W.Frag) : V → List V → Hp → VK → Prop := fun x xs H Q => ∃ (l : Addr) (vs : List V) (y : V) (d : PyData) (ds : List PyData) (j : Nat) (z : PyData), x = .ref l ∧ xs = [y] ∧ H l = some (.lst vs) ∧ DpAll K H vs ds ∧ Dp K H y d ∧
  SeqAt.shaped (.list ds) = true ∧ SeqAt.shaped d = true ∧ ds[j]? = some z ∧ PyData.eqv z d = true ∧ (∀ (m : Nat) (z' : PyData), m < j → ds[m]? = some z' → PyData.eqv z' d = false) ∧ Q .non (upd H l (.lst (vs.eraseIdx j)))
theorem mt_remD {X : Cx} (hu : X.A.units + 65 < cLine) : MtR X "list.remove" (rRemD X.K) := by
  intro pins s σ H x xs v us Q I rx rxs h
  obtain ⟨l, vs, y, d, ds, j, z, rfl, rfl, hH, ha, hy, sl, sd, hz, hzj, hno, q⟩ := h
  cases rx
  cases rxs with
  | cons ry rt =>
    rename_i uy ut
    cases rt
    obtain ⟨bs, r1⟩ := Dp.reads I d y uy hy ry
    have lay : PyData.canLayAll0 ds = true := SeqAt.canLay_of_shaped sl
    have room := room_in_shaped (A := X.A) (xs := ds) sd hu
    obtain ⟨zl, its, n, r, hl, e⟩ := I.lstM hH
    obtain ⟨as, h4⟩ := Dp.readsAll I ds _ its ha r
    have hn : its.length = ds.length := SeqAt.ReadsAll.length ds its as h4
    have hmap : its.map (SeqAt.readOf s.heap) = ds := SeqAt.readsAll_map ds its as lay h4
    have hj : j < its.toArray.size := by
      have := (List.getElem?_eq_some_iff.mp hz).1
      rw [List.size_toArray]
      omega
    have rd : ∀ (m : Nat) (hm : m < its.toArray.size) (z' : PyData), ds[m]? = some z' → SeqAt.readOf s.heap its.toArray[m] = z' := fun m hm z' hz' => by
      have hml : m < its.length := by simpa using hm
      rw [← hmap, List.getElem?_map, List.getElem?_eq_getElem hml] at hz'
      have e1 := Option.some.inj hz'
      simpa using e1
    have hsz : its.toArray.size ≤ sizeLine := by
      have := r.length
      rw [List.size_toArray]
      omega
    refine call_meets PySem.F.slot_list_remove ⟨_, e, rfl⟩ PySem.F.entry_list_remove (PySem.F.args_list_remove_2 _ _)
      (remD l its.toArray n uy (fun u => PyData.eqv (SeqAt.readOf s.heap u) d) j hj ?_ ?_ hsz) ⟨e, SeqAt.items_eqAt (vs := its.toArray) h4 r1 lay (SeqAt.canLay_of_shaped sd) room, ?_⟩
    · show PyData.eqv (SeqAt.readOf s.heap its.toArray[j]) d = true
      rw [rd j hj z hz]
      exact hzj
    · intro m hm hmj
      have hmd : m < ds.length := by
        rw [List.size_toArray] at hm
        omega
      have hz' : ds[m]? = some ds[m] := List.getElem?_eq_getElem hmd
      show PyData.eqv (SeqAt.readOf s.heap its.toArray[m]) d = false
      rw [rd m hm _ hz']
      exact hno m _ hmj hz'
    · refine ⟨.non, _, I.lset (its' := its.eraseIdx j) (t' := s.toks) hH e ?_ (r.eraseIdx j) ?_, rfl, q⟩
      · show its.toArray.eraseIdxIfInBounds j = (its.eraseIdx j).toArray
        rw [List.eraseIdxIfInBounds_toArray]
      · have := List.length_eraseIdx_le vs j
        omega
theorem room65 {k : Nat} {A : Around} (hr : Room k A) : A.units + 65 < cLine := by
  have := hr.un
  omega
theorem mt_remDk {X : Cx} {K : PySem.W.Frag} (h : X.K = K) (hu : X.A.units + 65 < cLine) : MtR X "list.remove" (rRemD K) := by
  subst h
  exact mt_remD hu
section
variable {K : PySem.W.Frag}
theorem pys_at : ∀ {ds : List D} {i : Nat}, (D.pys ds)[i]? = ds[i]?.map D.py
  | [], i => by simp [D.pys]
  | d :: ds, 0 => by simp [D.pys]
  | d :: ds, i + 1 => by simpa [D.pys] using pys_at (ds := ds) (i := i)
/-- what is removed is there, at j first -/
def gRemD : List D → List D → (D → List D → Prop) → Prop := fun xs ds q => match ds with
  | [d] => ∃ j, (xs.all (D.plN 50) = true ∧ D.plN 50 d = true) ∧ xs[j]? = some d ∧ (∀ m, m < j → xs[m]? ≠ some d) ∧ q .non (xs.eraseIdx j)
  | _ => False
instance : MuL K (rRemD K) gRemD := ⟨fun {F H l xs ws vs ds Q} q hs hF hl hx hd h k => by
  unfold gRemD at h
  split at h
  · obtain ⟨j, ⟨p1, p2⟩, e1, e2, hq⟩ := h
    obtain ⟨v, rfl, r⟩ := hd.one
    obtain ⟨b1, b2, b3⟩ := pys_of (fun hp h => py_of 50 hp h) p1 (hx.mono hs)
    obtain ⟨a1, a2, a3⟩ := py_of 50 p2 (r.mono hs)
    refine ⟨l, ws, v, _, _, j, _, rfl, rfl, hl, b1, a1, shaped_mk b2 (show PyData.depthAll _ + 1 ≤ 64 by omega), shaped_mk a2 (by omega), by rw [pys_at, e1]; rfl, ?_, fun m z' hm hz' => ?_, k _ _ .non _ rfl (hx.erase j) hq⟩
    · exact (eqv_iff 50 p2 p2).mpr rfl
    · rw [pys_at] at hz'
      cases e : xs[m]? with
      | none => rw [e] at hz'; cases hz'
      | some x =>
        rw [e] at hz'
        cases hz'
        have px : D.plN 50 x = true := List.all_eq_true.mp p1 x (List.mem_of_getElem? e)
        refine Bool.eq_false_iff.mpr fun z => ?_
        have := (eqv_iff 50 px p2).mp z
        subst this
        exact e2 m hm e
  · exact h.elim⟩
end
/-! ### for x in (a name's own list): acc = e; the list stays its own -/
section
variable {K : PySem.W.Frag} {Ξ : XI}
def psForAcc (i j k : Nat) (pe : PX) : PS1 := fun E s => match s[i]? with
  | some (some (.ow _ (.lst ds))) => if (i != j && i != k) = true then ∃ I : Nat → Sl → Prop, I 0 s ∧ (∀ n s2, I n s2 → ownL s2[i]? fun xs => xs = ds) ∧
      (∀ n d s2, ds[n]? = some d → I n s2 → pe (s2.set j (some (.fr d))) fun x s3 => I (n + 1) (setS k x s3)) ∧ ∀ s2, I ds.length s2 → E.nx s2 else False
  | _ => psFor (pIterL (pDat (pVar i))) (pgName j) (psSet k pe) E s
instance (priority := high) {i j k : Nat} {te : TE} {pe : PX} [LiftE K Ξ te pe] : LiftS K Ξ (tFor (iList K (tVar i)) (gName j) (tAsg te (gName k))) (psForAcc i j k pe) := ⟨fun {H0 F H ω s σ D} E T h M => by
  unfold psForAcc at h
  split at h
  rotate_left
  · exact LiftS.run (K := K) (t := tFor (iList K (tVar i)) (gName j) (tAsg te (gName k))) (p := psFor (pIterL (pDat (pVar i))) (pgName j) (psSet k pe)) E T h M
  rename_i b0 ds e0
  split at h
  rotate_left
  · exact h.elim
  rename_i hne
  have hij : i ≠ j := fun z => by rw [z] at hne; simp at hne
  have hik : i ≠ k := fun z => by rw [z] at hne; simp at hne
  obtain ⟨I, i0, iown, istep, iend⟩ := h
  obtain ⟨v0, hv0, l, rfl, hl, ws0, q1, q2⟩ := T.lst i e0
  have lat : ∀ {F2 H2 : Hp} {ω2 : Om} {n : Nat} {s2 : Sl} {σ2 : L2.St}, Sta K Ξ F2 H2 ω2 s2 σ2 → σ2[i]? = some (some (.ref l)) → I n s2 → ∃ ws, H2 l = some (.lst ws) ∧ RpA K F2 ds ws := fun {F2 H2 ω2 n s2 σ2} T hσ hI => by
    obtain ⟨b, xs, e1, rfl⟩ := ownL_of (iown n s2 hI)
    obtain ⟨v, hv, l2, rfl, _, ws, z1, z2⟩ := T.lst i e1
    rw [hσ] at hv
    cases hv
    exact ⟨ws, z1, z2⟩
  refine ⟨_, hv0, l, rfl, ⟨ws0, SqL.of q1⟩, ?_⟩
  refine for_it (walk_listE (K := K) (a := l) (n := ds.length)) (fun n σ' H' => ∃ F2 ω2 s2, Stp F H ω F2 H' ω2 ∧ Sta K Ξ F2 H' ω2 s2 σ' ∧ σ'[i]? = some (some (.ref l)) ∧ I n s2) ⟨F, ω, s, Stp.refl T.tb, T, hv0, i0⟩ ?_ ?_ ?_
  · rintro n σ' H' hn ⟨F2, ω2, s2, p3, T3, a0, hI⟩
    obtain ⟨us, z1, z2⟩ := lat T3 a0 hI
    exact ⟨us, z2.len.symm, SqL.of z1⟩
  · rintro n x σ' H' H'' hn ⟨F2, ω2, s2, p3, T3, a0, hI⟩ ⟨rfl, hx⟩
    have hd : ds[n]? = some ds[n] := List.getElem?_eq_getElem hn
    obtain ⟨us, z1, z2⟩ := lat T3 a0 hI
    obtain ⟨v, hv, r3⟩ := z2.get hd
    rw [hx us (SqL.of z1)] at hv
    cases hv
    have T4 := T3.set j r3
    refine LiftE.run (K := K) (t := te) (p := pe) _ T4 (istep n _ s2 hd hI) fun v F5 H5 ω5 z s5 p5 T5 r5 h5 => ?_
    have e1 : ((σ'.set j (some x)).set k (some v))[i]? = some (some (.ref l)) := by
      rw [List.getElem?_set_ne (fun q => hik q.symm), List.getElem?_set_ne (fun q => hij q.symm)]
      exact a0
    cases z with
    | fr d => exact ⟨F5, ω5, _, p3.trans p5, T5.set k r5, e1, h5⟩
    | ow b o =>
      obtain ⟨ω6, p6, T6⟩ := Sta.setO p5 T4.ex T5 k r5
      exact ⟨F5, ω6, _, p3.trans p6, T6, e1, h5⟩
    | hid u => exact ⟨F5, ω5, _, p3.trans p5, T5.setH k r5, e1, h5⟩
  · rintro σ' H' ⟨F2, ω2, s2, p3, T3, a0, hI⟩
    exact M.nx p3 T3 (iend s2 hI)⟩
end
/-! ### math.lcm of moderate numbers -/
section
variable {X : Cx}
def rLcm : List V → Hp → VK → Prop := fun vs H Q => ∃ a b : Int, vs = [.int a, .int b] ∧ a.natAbs < 2 ^ 64 ∧ b.natAbs < 2 ^ 64 ∧ Q (.int ((a.natAbs.lcm b.natAbs : Nat) : Int)) H
theorem cr_lcm : CallR X (.builtin "math.lcm") rLcm := by
  intro pins s σ H vs us Q I r h
  obtain ⟨a, b, rfl, ha, hb, q⟩ := h
  obtain ⟨t, u, rfl⟩ := Vals.int2 r
  exact PySem.W.mc_lcm ha hb fun _ => ⟨.int _, H, I.tok _, ⟨_, rfl⟩, q⟩
end
section
variable {K : PySem.W.Frag} {Ξ : XI}
def gLcm : List D → (S → Prop) → Prop := fun ds q => match ds with
  | [.int i, .int j] => i.natAbs < 2 ^ 64 ∧ j.natAbs < 2 ^ 64 ∧ q (.fr (.int (i.natAbs.lcm j.natAbs : Nat)))
  | _ => False
instance : CaL K rLcm gLcm := ⟨fun {F H vs ds Q} q hs r h k => by
  unfold gLcm at h
  split at h
  · obtain ⟨hi, hj, h⟩ := h
    obtain ⟨v, w, rfl, h1, h2⟩ := r.two
    cases (show v = _ from h1)
    cases (show w = _ from h2)
    exact ⟨_, _, rfl, hi, hj, k _ F H (.fr (.int _)) (Ext.refl hs) rfl h⟩
  · exact h.elim⟩
end
/-! list(xs) of data, within a change at a place -/
section
variable {K : PySem.W.Frag} {Ξ : XI}
def phList (p : PA1) : PD := fun s q => p s fun ds s1 => match ds with
  | [.lst xs] => q (.lst xs) s1
  | _ => False
instance {t : TA} {p : PA1} [LiftAH K Ξ t p] : LiftH K Ξ (tCB (fun xs H Q => ∃ p ys, xs = [.ref p] ∧ (SqL K H p ys ∨ SqT K H p ys) ∧ ∀ l, H l = none → Q (.ref l) (upd H l (.lst ys))) t) (phList p) := ⟨fun {F H ω s σ Q} q T h k => by
  refine LiftAH.run (K := K) (t := t) (p := p) _ T h fun vs F1 H1 ω1 ds s1 p1 T1 r1 e1 h1 => ?_
  split at h1
  · rename_i xs
    obtain ⟨v, rfl, a, ws, rfl, h2, h3⟩ := r1.one
    refine ⟨a, ws, rfl, .inl (SqL.of (T1.sf _ _ h2)), fun l hl => ?_⟩
    have e := Ext.fz T1.sf hl (.lst ws)
    obtain ⟨p2, T2⟩ := e.stp T1
    exact k _ _ _ ω1 (.lst xs) s1 (p1.trans p2) T2 ⟨l, ws, rfl, upd_same, h3.mono e.sf⟩ (e1.trans e.sh) h1
  · exact h1.elim⟩
end
/-! ### a field's own part, read as data: it is data from then on -/
section
variable {K : PySem.W.Frag} {Ξ : XI} {F H : Hp}
theorem PtsR.frzAt : ∀ {cs : List S} {vs : List V} {B : List Addr} {j : Nat} {b : Bool} {o : O}, PtsR K F H cs vs B → cs[j]? = some (.ow b o) →
    ∃ l A1 B', vs[j]? = some (.ref l) ∧ ObjR K F H o l A1 ∧ (∀ a ∈ A1, a ∈ B) ∧ (∀ a ∈ B', a ∈ B ∧ a ∉ A1) ∧ ∀ F', Same F F' → Rp K F' o.dat (.ref l) → PtsR K F' H (cs.set j (.fr o.dat)) vs B'
  | [], _, _, _, _, _, _, e => by simp at e
  | c :: cs, vs, B, 0, b, o, r, e => by
    have e : c = .ow b o := by simpa using e
    subst e
    obtain ⟨l, ws, A1, A2, rfl, rfl, h1, h2, h3⟩ := r
    exact ⟨l, A1, A2, rfl, h2, fun a ha => List.mem_append_left _ ha, fun a ha => ⟨List.mem_append_right _ ha, fun z => h1 a z ha⟩, fun F' e hr => ⟨_, ws, rfl, hr, h3.mono e⟩⟩
  | c :: cs, vs, B, j + 1, b, o, r, e => by
    have e : cs[j]? = some (.ow b o) := by simpa using e
    obtain ⟨u, ws, A0, B2, rfl, rfl, h1, h2, h3⟩ := r.uncons
    obtain ⟨l, A1, B', q1, q2, q3, q4, q5⟩ := PtsR.frzAt h3 e
    refine ⟨l, A1, A0 ++ B', by simpa using q1, q2, fun a ha => List.mem_append_right _ (q3 a ha), fun a ha => ?_, fun F' e hr => ?_⟩
    · rcases List.mem_append.mp ha with z | z
      · exact ⟨List.mem_append_left _ z, fun y => h1 a z (q3 a y)⟩
      · exact ⟨List.mem_append_right _ (q4 a z).1, (q4 a z).2⟩
    · exact PtsR.cons (h2.monoF e) (fun a ha z => h1 a ha (q4 a z).1) (q5 F' e hr)
theorem Sta.frzFld {ω : Om} {s : Sl} {σ : L2.St} {i j : Nat} {b b' : Bool} {C : Addr} {ns : List Str} {cs : List S} {o : O} (t : Sta K Ξ F H ω s σ) (hi : s[i]? = some (some (.ow b (.ob C ns cs)))) (hj : cs[j]? = some (.ow b' o)) :
    ∃ F' ω' l dx vs u, σ[i]? = some (some (.ref l)) ∧ H l = some (.ins C dx (ns.zip vs)) ∧ ns.length = vs.length ∧ vs[j]? = some u ∧ Stp F H ω F' H ω' ∧ Sta K Ξ F' H ω' (s.set i (some (.ow b (.ob C ns (cs.set j (.fr o.dat)))))) σ ∧ Rp K F' o.dat u := by
  obtain ⟨v, hv, l, A, rfl, h1, h2, dx, vs, B, rfl, h3, h4, h5, h6⟩ := t.at' i _ hi
  obtain ⟨l', A1, B', q1, q2, q3, q4, q5⟩ := PtsR.frzAt h6 hj
  have hA : ∀ a ∈ A1, ω a = some (i, tgP b) := fun a ha => h2 a (List.mem_cons_of_mem _ (q3 a ha)) (ne_in (q3 a ha) h3)
  have hF : ∀ a ∈ A1, F a = none := fun a ha => (t.ow a _ (hA a ha)).1
  have e := same_fzA (H := H) hF
  have hr := q2.fz hF
  have hl1 : l ∉ A1 := fun z => h3 (q3 l z)
  have p : Stp F H ω (fzA F H A1) H (omOff ω A1) := by
    refine .old t.tb e (fun _ _ _ h => h) (fun c u q _ => ?_) (fun c u q1 q2 q3 => ?_) (fun _ h => h) (fun c k => ⟨fun q => (omOff_some q).2, fun q => ?_⟩) (fun c k u _ q => ?_) fun c k q => .inl (omOff_some q).2
    · by_cases hc : c ∈ A1
      · exact omOff_in hc
      · rw [omOff_out hc]; exact q
    · rw [fzA_out fun z => by rw [hA c z] at q1; cases q1]
      exact q3
    · rw [omOff_out fun z => ?_]
      · exact q
      · rw [hA c z] at q
        cases b <;> cases q
    · by_cases hc : c ∈ A1
      · exact .inr (omOff_in hc)
      · rw [omOff_out hc]; exact .inl q
  refine ⟨_, _, l, dx, vs, _, hv, h4, h5, q1, p, ⟨⟨p.tb, fzA_sub t.sf, fun c q hq => ?_, fun k x hx => ?_, by rw [List.length_set]; exact t.len, fun c k d h => by rw [List.length_set]; exact t.ix c k d (omOff_some h).2⟩, t.ex.step p⟩, hr⟩
  · obtain ⟨hc, hq⟩ := omOff_some hq
    obtain ⟨h7, h8⟩ := t.ow c q hq
    exact ⟨by rw [fzA_out hc]; exact h7, h8⟩
  · rw [List.getElem?_set] at hx
    split at hx
    · rename_i hik
      subst hik
      split at hx
      · cases hx
        refine ⟨_, hv, l, l :: B', rfl, by rw [omOff_out hl1]; exact h1, fun a ha hne => ?_, dx, vs, B', rfl, fun z => h3 (q4 l z).1, h4, h5, q5 _ e hr⟩
        rcases List.mem_cons.mp ha with z | z
        · exact absurd z hne
        · rw [omOff_out (q4 a z).2]
          exact h2 a (List.mem_cons_of_mem _ (q4 a z).1) hne
      · cases hx
    · rename_i hik
      obtain ⟨v, h7, h8⟩ := t.at' k x hx
      refine ⟨v, h7, (h8.to e fun _ _ _ hu => hu).om fun c d hc => ?_⟩
      rw [omOff_out fun z => by rw [hA c z] at hc; cases hc; exact hik rfl]
      exact hc
theorem PtsR.frAt : ∀ {cs : List S} {vs : List V} {B : List Addr} {j : Nat} {d : D}, PtsR K F H cs vs B → cs[j]? = some (.fr d) → ∃ u, vs[j]? = some u ∧ Rp K F d u
  | [], _, _, _, _, _, e => by simp at e
  | c :: cs, vs, B, 0, d, r, e => by
    have e : c = .fr d := by simpa using e
    subst e
    obtain ⟨v, ws, rfl, h1, h2⟩ := r
    exact ⟨v, rfl, h1⟩
  | c :: cs, vs, B, j + 1, d, r, e => by
    have e : cs[j]? = some (.fr d) := by simpa using e
    obtain ⟨u, ws, A0, B2, rfl, rfl, h1, h2, h3⟩ := r.uncons
    obtain ⟨u', q1, q2⟩ := PtsR.frAt h3 e
    exact ⟨u', by simpa using q1, q2⟩
def tFzf (t : TE) : TE := t
theorem pe_fzf {X : Cx} {e : Expr} {t : TE} (h : PE X e t) : PE X e (tFzf t) := h
def pFldZ (Cs : List Addr) (f : Str) (i : Nat) : PX := fun s q => match s[i]? with
  | some (some (.ow b (.ob C ns cs))) => inC Cs C ∧ match idxN f ns with
    | some j => match cs[j]? with
      | some (.ow _ o) => q (.fr o.dat) (s.set i (some (.ow b (.ob C ns (cs.set j (.fr o.dat))))))
      | some (.fr d) => q (.fr d) s
      | _ => False
    | none => False
  | _ => False
instance {Cs : List Addr} {f : Str} {i : Nat} : LiftE K Ξ (tFzf (tFldC Cs (tVar i) f)) (pFldZ Cs f i) := ⟨fun {F H ω s σ Q} q T h k => by
  unfold pFldZ at h
  split at h
  · rename_i b C ns cs e
    obtain ⟨hc, h⟩ := h
    split at h
    · rename_i j ej
      split at h
      · rename_i b' o eo
        obtain ⟨F', ω', l, dx, vs, u, hv, h1, h2, h3, p, T', r⟩ := T.frzFld e eo
        obtain ⟨u', hu, hu2⟩ := idxN_look h2 ej
        rw [h3] at hu
        cases hu
        exact ⟨_, hv, l, C, dx, _, u, rfl, h1, inC_mem hc, hu2, k u F' H ω' (.fr o.dat) _ p T' r h⟩
      · rename_i d eo
        obtain ⟨v, hv, l, A, rfl, _, _, dx, vs, B, rfl, _, h4, h5, h6⟩ := T.at' i _ e
        obtain ⟨u, h3, r⟩ := PtsR.frAt h6 eo
        obtain ⟨u', hu, hu2⟩ := idxN_look h5 ej
        rw [h3] at hu
        cases hu
        exact ⟨_, hv, l, C, dx, _, u, rfl, h4, inC_mem hc, hu2, k u F H ω (.fr d) s (Stp.refl T.tb) T r h⟩
      · exact h.elim
    · exact h.elim
  · exact h.elim⟩
end
/-! ### [e for x in xs], e of own parts: an own list of own parts (printed where cfg's nlcomp says) -/
section
variable {K : PySem.W.Frag} {Ξ : XI}
theorem PtsR.snoc {F H : Hp} {x : S} {v : V} {A2 : List Addr} (hx : PtR K F H x v A2) : ∀ {cs : List S} {vs : List V} {B : List Addr}, PtsR K F H cs vs B → (∀ a ∈ A2, a ∉ B) → PtsR K F H (cs ++ [x]) (vs ++ [v]) (B ++ A2)
  | [], _, _, h, hd => by
    obtain ⟨rfl, rfl⟩ := h
    have := PtsR.cons (cs := []) (vs := []) (B := []) hx (fun _ _ z => by cases z) ⟨rfl, rfl⟩
    rw [List.append_nil] at this
    exact this
  | c :: cs, vs, B, h, hd => by
    obtain ⟨u, ws, A1, B2, rfl, rfl, h1, h2, h3⟩ := h.uncons
    have := PtsR.snoc hx h3 fun a ha z => hd a ha (List.mem_append_right _ z)
    rw [List.cons_append, List.cons_append, List.append_assoc]
    refine PtsR.cons h2 (fun a ha z => ?_) this
    rcases List.mem_append.mp z with y | y
    · exact h1 a ha y
    · exact hd a y (List.mem_append_left _ ha)
def tLcN (wi : TI) (g : TG) (te : TE) (vs : List Nat) : TE := tLc wi g tYes te vs
def pLcN (pi : PI1) (pg : PG1) (ss : List Nat) (pe : PX) (vs : List Nat) : PX := fun s q => pi s fun ds s1 => if ss.all vs.contains = true then ds.length ≤ 1000 ∧ ∃ xs : List S, xs.length = ds.length ∧
  (∀ (n : Nat) (d : D), ds[n]? = some d → pg d (wipeS s1 vs) fun s3 => pe s3 fun x s5 => xs[n]? = some x ∧ wipeS s5 vs = wipeS s1 vs) ∧ q (.ow false (.nl xs)) (wipeS s1 vs) else False
instance {wi : TI} {g : TG} {te : TE} {vs : List Nat} {pi : PI1} {pg : PG1} {ss : List Nat} {pe : PX} [LiftI K Ξ wi pi] [LiftG K XI.zero g pg ss] [LiftE K XI.zero te pe] : LiftE K Ξ (tLcN wi g te vs) (pLcN pi pg ss pe vs) := ⟨fun {F H ω s σ Q} kk T h k => by
  refine LiftI.run (K := K) (t := wi) (p := pi) _ T h fun J F1 H1 ω1 ds s1 p1 T1 w1 h1 => ?_
  split at h1
  rotate_left
  · exact h1.elim
  rename_i hss
  have hss' : ∀ i ∈ ss, i ∈ vs := fun i hi => by simpa using List.all_eq_true.mp hss i hi
  obtain ⟨hlen, xs, hxl, hstep, hq⟩ := h1
  obtain ⟨G, Y, W, hG, hY⟩ := w1
  intro A hA
  have e0 : Ext F1 H1 F1 (upd H1 A (.lst [])) := Ext.ow T1.sf hA _
  obtain ⟨p2, T2⟩ := e0.stp T1
  refine lc_it W (fun i H' => ∃ F2 ω2 us B, Stp F1 H1 ω1 F2 H' ω2 ∧ Sta K XI.zero F2 H' ω2 (wipeS s1 vs) (L2.wipe σ vs) ∧ ω2 A = none ∧ F2 A = none ∧ H' A = some (.lst us) ∧ PtsR K F2 H' (xs.take i) us B ∧ A ∉ B ∧ (∀ a ∈ B, H1 a = none ∧ ω2 a = none ∧ F2 a = none)) ?_ ?_ ?_ ?_
  · exact ⟨F1, ω1, [], [], p2, ⟨(T2.wipe vs).base, Exo.zero⟩, Sta.free T1.base hA, T1.sf.free hA, upd_same, ⟨rfl, rfl⟩, (fun z => by cases z), fun a ha => by cases ha⟩
  · rintro i H' hi ⟨F2, ω2, us, B, p3, T3, _⟩
    exact hG H' (p3.sf.trans T3.sf)
  · rintro i x H' H'' hi ⟨F2, ω2, us, B, p3, T3, a1, a2, a3, a4, a5, a6⟩ y
    have hd : ds[i]? = some ds[i] := List.getElem?_eq_getElem hi
    obtain ⟨F3, e3, r3⟩ := hY i H' x H'' F2 _ hd p3.sf T3.sf y
    obtain ⟨p4, T4⟩ := e3.stp T3
    refine LiftG.run (K := K) (g := g) (p := pg) (ss := ss) _ T4 r3 (hstep i _ hd) fun σ5 s5 T5 w5 h5 => ?_
    have hw5 : L2.wipe σ5 vs = L2.wipe σ vs := by rw [w5 vs hss']; exact wipe_wipe σ vs
    refine ⟨hw5, ?_⟩
    have pp := p3.trans p4
    refine w_yes (LiftE.run (K := K) (t := te) (p := pe) _ T5 h5 fun v F7 H7 ω7 d s7 p7 T7 r7 h7 => ?_)
    obtain ⟨h7, h8⟩ := h7
    obtain ⟨A7, q1, q2⟩ := r7.part
    have b1 : H'' A = some (.lst us) := e3.sh _ _ a3
    have b2 : F3 A = none := e3.fn _ _ a3 a2
    have c1 := p7.fr A _ (T1.tb.new hA) a1 b1
    have c2 := p7.fn A _ a1 b1 b2
    have c3 := p7.om A _ a1 b1
    have hasB : ∀ a ∈ B, ∃ u, H' a = some u := fun a ha => a4.has a ha
    have hasA : ∀ a ∈ A7, ∃ u, H7 a = some u := fun a ha => by
      cases d with
      | fr d => rw [q1.2] at ha; cases ha
      | hid d => rw [q1.2] at ha; cases ha
      | ow b o => obtain ⟨l', _, z⟩ := q1; exact z.has a ha
    have hB2 : ∀ a ∈ B, ∃ u, H'' a = some u ∧ H' a = some u := fun a ha => by
      obtain ⟨u, hu⟩ := hasB a ha
      exact ⟨u, e3.sh _ _ hu, hu⟩
    have hB3 : ∀ a ∈ B, ω2 a = none ∧ F3 a = none := fun a ha => by
      obtain ⟨u, hu, hu'⟩ := hB2 a ha
      obtain ⟨z1, z2, z3⟩ := a6 a ha
      exact ⟨z2, e3.fn a u hu' z3⟩
    have hAA : A ∉ A7 := fun z => by
      rw [(q2 A z).1] at b1
      cases b1
    have k4 : PtsR K F7 H7 (xs.take i) us B := ((a4.mono e3.sf).mono p7.sf).heap fun a ha u hu => p7.fr a u (T1.tb.new (a6 a ha).1) (hB3 a ha).1 (e3.sh _ _ hu)
    have k5 : PtsR K F7 (upd H7 A (.lst (us ++ [v]))) (xs.take i) us B := k4.heap fun a ha u hu => by rw [upd_ne fun z => a5 (by rw [← z]; exact ha)]; exact hu
    have q3 : PtR K F7 (upd H7 A (.lst (us ++ [v]))) d v A7 := q1.keep fun a ha u hu => by rw [upd_ne fun z => hAA (by rw [← z]; exact ha)]; exact hu
    have k6 := PtsR.snoc q3 k5 fun a ha z => by
      obtain ⟨u, hu, _⟩ := hB2 a z
      rw [(q2 a ha).1] at hu
      cases hu
    have T8 := T7.wipe vs
    rw [hw5, h8] at T8
    have hul : us.length ≤ 1000 := by
      have e1 := a4.len
      have e2 := List.length_take_le i xs
      omega
    refine ⟨us, c1, Nat.lt_of_le_of_lt hul (by decide), F7, ω7, us ++ [v], B ++ A7, (pp.trans p7).mutNew hA, ⟨Sta.mutFree T8.base c3 c2 (T1.tb.new hA), Exo.zero⟩, c3, c2, upd_same, ?_, fun z => (List.mem_append.mp z).elim a5 hAA, fun a ha => ?_⟩
    · rw [List.take_add_one, h7, Option.toList_some]
      exact k6
    · rcases List.mem_append.mp ha with y | y
      · obtain ⟨u, hu, _⟩ := hB2 a y
        exact ⟨(a6 a y).1, p7.om a u (hB3 a y).1 hu, p7.fn a u (hB3 a y).1 hu (hB3 a y).2⟩
      · exact ⟨pp.tr a (q2 a y).1, (q2 a y).2⟩
  · rintro H' ⟨F2, ω2, us, B, p3, T3, a1, a2, a3, a4, a5, a6⟩
    rw [← hxl, List.take_length] at a4
    have T4 : Sta0 K F2 H' ω2 (wipeS s1 vs) σ := ⟨T3.tb, T3.sf, T3.ow, fun i x h => (T3.at' i x h).elim fun v hv => ⟨v, (wipe_some hv.1).1, hv.2⟩, by rw [T3.len, wipe_length], T3.ix⟩
    exact k _ F2 H' ω2 (.ow false (.nl xs)) _ (p1.trans p3) ⟨T4, T1.ex.step p3⟩ ⟨A, A :: B, rfl, fun a ha => by
      rcases List.mem_cons.mp ha with rfl | ha
      · exact ⟨p1.tr _ hA, a1, a2⟩
      · exact ⟨p1.tr a (a6 a ha).1, (a6 a ha).2⟩, us, B, rfl, a5, a3, a4⟩ hq⟩
theorem ps_nl {X : Cx} {x : Stmt} {i : Nat} {wi : TI} {g : TG} {te : TE} {vs : List Nat} (h : PS X x (tAsg (tLc wi g tYes te vs) (gName i))) : PS X x (tAsg (tLcN wi g te vs) (gName i)) := h
end
/-! ### enumerate(tuple) (printed where the argument is a tuple display, or typed as a tuple) -/
section
open PySem PyProof.Rows
variable {prog : Program} {w : World} {A : Around} {E : Value → Shared → Prop} {s : Shared}
theorem nextT_item {it t : Addr} {i : Nat} {items} {x : Value} {Q : Value → Shared → Prop} (hit : s.heap.IsTupleIter it t i) (ht : s.heap.IsTuple t items) (hx : items[i]? = some x)
    (hQ : ∀ h', h'.IsTupleIter it t (i + 1) → Heap.SameBut it s.heap h' → Q x { s with heap := h' }) : wpAny (model prog w) A (Builtin.SmallTypes.nextOf (.ref it)) Q E s := by
  obtain ⟨o, ho, hc, hd⟩ := id hit
  obtain ⟨ol, hol, _, nl, hdl⟩ := ht
  unfold Builtin.SmallTypes.nextOf
  refine wpAny_bind (wpAny_callSpecial?_slot (name := Str.ofString "__next__") hit.typeIs PySem.F.slot_tuple_iterator_next
    (wpAny_call_entry PySem.F.slot_tuple_iterator_next hit.typeIs PySem.F.entry_tuple_iterator_next ?_ (PySem.F.args_tuple_iterator_next_1 _)))
  show wpAny _ _ (field (.ref it) 0 >>= _) _ _ s
  refine wpAny_bind (wpAny_field ho hd (x := .ref t) rfl ?_)
  show wpAny _ _ (if (Value.ref t == Value.none) = true then _ else _) _ _ s
  rw [if_neg (show ¬ ((Value.ref t == Value.none) = true) from Bool.false_ne_true)]
  show wpAny _ _ (field (.ref it) 1 >>= _) _ _ s
  refine wpAny_bind (wpAny_field ho hd (x := .int i 0) rfl ?_)
  show wpAny _ _ (seqItems? (.ref t) >>= _) _ _ s
  refine wpAny_bind (wpAny_seqItems hol hdl ?_)
  simp only [Int.toNat_natCast, hx]
  refine wpAny_bind (wpAny_setField ho hd (by simp) (wpAny_pure ⟨x, rfl, wpAny_pure (hQ _ ?_ (Heap.SameBut.update ..))⟩))
  exact ⟨_, Heap.get?_update_self _ ho (Obj.isFreed_of_fields (Obj.data_mapFields hd _)), (Obj.cls_mapFields ..).trans hc, by rw [Obj.data_mapFields hd]; simp [rawInt]⟩
theorem nextT_end {it t : Addr} {i : Nat} {items} {Q : Value → Shared → Prop} (hh : A.handled = none) (hit : s.heap.IsTupleIter it t i) (ht : s.heap.IsTuple t items) (hx : items[i]? = none)
    (hE : ∀ h' e, Heap.ExtBut it s.heap h' → (∃ o, h'.get? e = some o ∧ o.cls = .type "StopIteration") → E (.ref e) { s with heap := h' }) : wpAny (model prog w) A (Builtin.SmallTypes.nextOf (.ref it)) Q E s := by
  obtain ⟨o, ho, hc, hd⟩ := id hit
  obtain ⟨ol, hol, _, nl, hdl⟩ := ht
  unfold Builtin.SmallTypes.nextOf
  refine wpAny_bind (wpAny_callSpecial?_slot (name := Str.ofString "__next__") hit.typeIs PySem.F.slot_tuple_iterator_next
    (wpAny_call_entry PySem.F.slot_tuple_iterator_next hit.typeIs PySem.F.entry_tuple_iterator_next ?_ (PySem.F.args_tuple_iterator_next_1 _)))
  show wpAny _ _ (field (.ref it) 0 >>= _) _ _ s
  refine wpAny_bind (wpAny_field ho hd (x := .ref t) rfl ?_)
  show wpAny _ _ (if (Value.ref t == Value.none) = true then _ else _) _ _ s
  rw [if_neg (show ¬ ((Value.ref t == Value.none) = true) from Bool.false_ne_true)]
  show wpAny _ _ (field (.ref it) 1 >>= _) _ _ s
  refine wpAny_bind (wpAny_field ho hd (x := .int i 0) rfl ?_)
  show wpAny _ _ (seqItems? (.ref t) >>= _) _ _ s
  refine wpAny_bind (wpAny_seqItems hol hdl ?_)
  simp only [Int.toNat_natCast, hx]
  refine wpAny_bind (wpAny_rule (wpAny_bind (wpAny_setField ho hd (by simp) ?_)))
  show wpAny _ _ (newExc (.type "StopIteration") [] >>= _) _ _ _
  refine wpAny_bind ?_
  simp only [newExc, newTuple]
  refine wpAny_bind (wpAny_newObj_type ?_ (by size_fits))
  refine wpAny_bind (m := firstArgMember _ _) (wpAny_of_eq (a := Value.none) (by first | rfl | (simp only [firstArgMember]; rfl)) ?_)
  refine wpAny_newObj_type ?_ (by size_fits)
  simp only [raiseNew]
  refine wpAny_bind (wpAny_handled ?_)
  first | rw [show A.in1.handled = none from hh] | rw [hh]
  refine wpAny_bind (wpAny_pure (wpAny_throw ?_))
  exact hE _ _ (((Heap.SameBut.update ..).extBut.push _).push _) ⟨_, Heap.get?_push_size _ rfl, rfl⟩
theorem drawsT {prog : Program} {w : World} {A : Around} (hh : A.handled = none) (it t : Addr) (hne : t ≠ it) (items : Array Value) :
    Draws prog w A it [it, t] items.size (fun i v => items[i]? = some v) (fun i h => h.IsTupleIter it t i ∧ h.IsTuple t items) where
  live := fun _ _ st => let ⟨o, ho, _⟩ := st.1; ⟨o, ho⟩
  frame := fun _ _ _ st hk => ⟨st.1.at fun o e => hk it (by simp) o e, st.2.at fun o e => hk t (by simp) o e⟩
  item := fun i s Q E hi st hQ => by
    refine nextT_item st.1 st.2 (x := items[i]) (by simp [hi]) fun h' hit' hs' => ?_
    exact hQ _ h' s.toks (by simp [hi]) ⟨hit', st.2.extBut hs'.extBut hne⟩ hs'
  done := fun s Q E st hE => nextT_end hh st.1 st.2 (by simp) hE
theorem meets_enumT (l : Addr) (items : Array Value) (n : Nat) (dct : Option Addr) (sl : Array (Option Value)) :
    PySem.Meets (Builtin.«enumerate.__new__» ⟨[.type "enumerate", .ref l], []⟩) (fun _ R s => s.heap.get? l = some { cls := .type "tuple", dict := dct, data := .seq items n, slots := sl } ∧
      R (.ok (.ret (.ref (s.heap.push { cls := .type "tuple_iterator", data := .fields #[.ref l, .int 0 0] }).objs.size)))
        { s with heap := (s.heap.push { cls := .type "tuple_iterator", data := .fields #[.ref l, .int 0 0] }).push { cls := .type "enumerate", data := .fields #[.none, .bool false, .ref s.heap.objs.size, rawInt 0, .none, .none] } }) :=
  .of_wp fun prog w A R s h => by
    obtain ⟨hp, g, d, tk, os⟩ := s; obtain ⟨hl, h⟩ := h
    have hsub := sub_enumerate
    have hL : Heap.IsTuple (Shared.heap ⟨hp, g, d, tk, os⟩) l items := ⟨_, hl, rfl, n, rfl⟩
    wp_walk using AutoSeq1.wpAny_loadPart' hl
    refine wpAny_stack_any fun st => wpAny_pure ?_
    split
    · rename_i c _ _ _ _ _
      cases (c == Value.type "enumerate")
      · wp_walk using AutoSeq1.wpAny_loadPart' hl, wpAny_pyIter_tuple hL
        exact ⟨_, rfl, h⟩
      · wp_walk using AutoSeq1.wpAny_loadPart' hl, wpAny_pyIter_tuple hL
        exact ⟨_, rfl, h⟩
    · wp_walk using AutoSeq1.wpAny_loadPart' hl, wpAny_pyIter_tuple hL
      exact ⟨_, rfl, h⟩
theorem call_enumT {l : Addr} {items : Array Value} {Q : Value → Shared → Prop} (hL : s.heap.IsTuple l items)
    (h : ∀ h', IsEnum h' (s.heap.objs.size + 1) s.heap.objs.size 0 .none → h'.IsTupleIter s.heap.objs.size l 0 → h'.objs.size = s.heap.objs.size + 2 →
      (∀ b o, s.heap.get? b = some o → h'.get? b = some o) → Q (.ref (s.heap.objs.size + 1)) { s with heap := h' }) :
    wpAny (model prog w) A (call (.type "enumerate") [.ref l]) Q E s := by
  obtain ⟨⟨c, dct, dt, sl⟩, hl, hc, n, hd⟩ := hL
  replace hc : c = .type "tuple" := hc
  replace hd : dt = .seq items n := hd
  subst hc hd
  refine callType_new PySem.F.called_enumerate (by decide) (PySem.F.typeCall_enumerate_1 _) (PySem.F.newCall_enumerate_1 _) (fun obj => PySem.F.args_object_init_2 obj _) PySem.F.entry_enumerate_new
    (meets_enumT l items n dct sl) ⟨hl, ?_⟩
  have hz : (s.heap.push { cls := .type "tuple_iterator", data := .fields #[.ref l, .int 0 0] }).objs.size = s.heap.objs.size + 1 := Heap.size_push ..
  show _ ∧ _
  rw [hz]
  have he : IsEnum ((s.heap.push { cls := .type "tuple_iterator", data := .fields #[.ref l, .int 0 0] }).push
      { cls := .type "enumerate", data := .fields #[.none, .bool false, .ref s.heap.objs.size, rawInt 0, .none, .none] }) (s.heap.objs.size + 1) s.heap.objs.size 0 .none := by
    have := Heap.get?_push_size (s.heap.push { cls := .type "tuple_iterator", data := .fields #[.ref l, .int 0 0] })
      (o := { cls := .type "enumerate", data := .fields #[.none, .bool false, .ref s.heap.objs.size, rawInt 0, .none, .none] }) rfl
    rw [hz] at this; exact this
  exact ⟨⟨_, he, rfl⟩, h _ he ⟨_, Heap.get?_push_of_some _ (Heap.get?_push_size _ rfl), rfl, rfl⟩ (by rw [Heap.size_push, hz]) fun b o x => Heap.get?_push_of_some _ (Heap.get?_push_of_some _ x)⟩
end
section
open PySem PyProof.Rows L2
/-- the tuple at a, each item in a new pair -/
def IteT (K : PySem.W.Frag) (a : Addr) : It :=
  ⟨fun i H => ∃ (xs : List V) (x : V), SqT K H a xs ∧ xs[i]? = some x, fun i H v H' => ∃ T x, v = .ref T ∧ H T = none ∧ H' = upd H T (.tup [.int (i : Nat), x]) ∧ ∀ xs, SqT K H a xs → xs[i]? = some x, fun i H => ∃ xs : List V, SqT K H a xs ∧ xs.length ≤ i⟩
theorem turn_enumT {P : Program} {w : World} {K : PySem.W.Frag} {elts : List Expr} {kk : Nat} {tpos : Pos} (a e it : Addr) :
    Turn P w K (.Tuple elts kk tpos) (IteT K a) [e, it] e (fun i h => (∃ old, IsEnum h e it ((i : Nat) : Int) old) ∧ h.IsTupleIter it a i ∧ e ≠ it ∧ a ≠ it ∧ a ≠ e) where
  mem := by simp
  obj := fun i h st b hb => by
    obtain ⟨⟨old, he⟩, ⟨o, ho, hc, hd⟩, _⟩ := st
    have e' : b = e ∨ b = it := by simpa using hb
    rcases e' with z | z
    · rw [z]; exact ⟨_, he, fun v q => nomatch q⟩
    · rw [z]; exact ⟨o, ho, fun v q => by rw [hd] at q; cases q⟩
  keep := fun i h h' st k => let ⟨⟨old, he⟩, hi, hne⟩ := st; ⟨⟨old, k e (by simp) _ he⟩, hi.at fun o q => k it (by simp) o q, hne⟩
  item := by
    intro X hP hw hK hc i pins s σ H E I hf st hg
    subst hP hw hK
    obtain ⟨⟨old, he⟩, hit, hne, hai, hae⟩ := st
    obtain ⟨xs, x, hq, hx⟩ := hg
    obtain ⟨its, rv, p, hz⟩ := I.tuple hq
    obtain ⟨u, hu, ru⟩ := rv.get hx
    have hel : e < s.heap.objs.size := Heap.lt_size he
    have hil : it < s.heap.objs.size := by obtain ⟨_, q, _⟩ := hit; exact Heap.lt_size q
    have hlt : i < its.toArray.size := by
      have := (List.getElem?_eq_some_iff.mp hu).1
      simpa using this
    refine wpAny_pyNext_enum_itemD (drawsT (A := X.A.in1) (I.ok.hd hc) it a hai its.toArray) he ⟨hit, show s.heap.IsTuple a its.toArray from p⟩ hlt hne (by simp [hne, hae.symm]) fun u' h' tk hu' ho hst hT hsz hk => ?_
    obtain ⟨hit', _⟩ := hst
    obtain rfl : u' = u := by
      have h2 : its.toArray[i]? = some u := by simpa using hu
      rw [h2] at hu'
      exact (Option.some.inj hu').symm
    refine ⟨_, rfl, wpAny_letOwnedTupleGo_enum (s := { s with heap := h', toks := tk + 1 }) ho fun h'' he' sb => ?_⟩
    have hT2 : h''.get? s.heap.objs.size = some { cls := .type "tuple", data := .seq #[.int i tk, u'] } := (sb.2 _ (Nat.ne_of_gt hel)).trans hT
    have new : ObjOk X.prog X.w (upd H s.heap.objs.size (.tup [.int (i : Nat), x])) h'' s.heap.objs.size (.tup [.int (i : Nat), x]) :=
      ⟨by show 2 ≤ sizeLine; decide, [.int i tk, u'], .cons ⟨_, rfl⟩ (.cons ru .nil), ⟨_, hT2, rfl, _, rfl⟩⟩
    have I1 : Inv X pins σ (upd H s.heap.objs.size (.tup [.int (i : Nat), x])) { s with heap := h'', toks := tk + 1 } :=
      I.turnedNew (ch := [e, it]) (fun b ob hb q => (sb.2 b (fun z => hb (by simp [z]))).trans (hk b ob (fun z => hb (by simp [z])) (fun z => hb (by simp [z])) q)) hf (Nat.le_refl _) new
    refine ⟨.ref s.heap.objs.size, _, I1, rfl, ⟨_, x, rfl, I.hok.fresh (Nat.le_refl _), rfl, fun ys hy => by rw [I.tuple_inj hy hq]; exact hx⟩, ⟨⟨u', ?_⟩, hit'.at fun o q => (sb.2 it (Ne.symm hne)).trans q, hne, hai, hae⟩, fun b hb => ?_⟩
    · have e1 : ((i + 1 : Nat) : Int) = (i : Int) + 1 := by omega
      rw [e1]; exact he'
    · have hb' : b < s.heap.objs.size := by
        have e' : b = e ∨ b = it := by simpa using hb
        rcases e' with z | z
        · rw [z]; exact hel
        · rw [z]; exact hil
      rw [upd_ne (Nat.ne_of_lt hb')]
      exact (hf b hb).1
  done := by
    intro X hP hw hK hc i pins s σ H E I hf st hg
    subst hP hw hK
    obtain ⟨⟨old, he⟩, hit, hne, hai, hae⟩ := st
    obtain ⟨xs, hq, hx⟩ := hg
    obtain ⟨its, rv, p, hz⟩ := I.tuple hq
    obtain ⟨f0, f1, f2, f3, f4, f5⟩ := hf it (by simp)
    have hl := rv.length
    have D : Draws X.prog X.w X.A.in1 it [it, a] i (fun _ _ => True) (fun j h => j = i ∧ h.IsTupleIter it a j ∧ h.IsTuple a its.toArray) := {
      live := fun _ _ st => let ⟨o, ho, _⟩ := st.2.1; ⟨o, ho⟩
      frame := fun _ _ _ st hk => ⟨st.1, st.2.1.at fun o e => hk it (by simp) o e, st.2.2.at fun o e => hk a (by simp) o e⟩
      item := fun j _ _ _ hj st _ => absurd st.1 (Nat.ne_of_lt hj)
      done := fun _ _ _ st hE => nextT_end (A := X.A.in1) (I.ok.hd hc) st.2.1 st.2.2 (by simp; omega) hE }
    exact wpAny_pyNext_enum_endD D he ⟨rfl, hit, show s.heap.IsTuple a its.toArray from p⟩ fun h' eb => ⟨rfl, I.turned (t' := s.toks) (fun b o hb q => eb b o hb q) f0 f1 f3 f4 f5⟩
  self := fun A i s Q E st h => let ⟨⟨_, he⟩, _⟩ := st; wpAny_pyIter_enum he h
def iEnumT (K : PySem.W.Frag) (ta : TA) : TI := fun σ H R => ta σ H fun vs H1 => ∃ a xs, vs = [.ref a] ∧ SqT K H1 a xs ∧ R (IteT K a) H1
theorem pi_enumT {X : Cx} {e : Expr} {ta : TA} {p pos tpos : Pos} {elts : List Expr} {kk : Nat} (hg : Gl X "enumerate") (hm : X.mg "enumerate" = none) (ha : PA X [e] ta) (hs : starEach [e] X.env = [(false, eval e X.env)] := by rfl) :
    PI X (.Tuple elts kk tpos) (.Call (.Name "enumerate" p) [e] [] pos) (iEnumT X.K ta) := by
  refine ⟨fun pins s σ H R I h => ?_⟩
  refine Call_ (ld_blt I hg hm boot_enumerate (PyProof.Rows.callWith_type1 (thn (ha.run pos pins s σ H _ I h) fun us s1 ⟨vs, H1, I1, r1, q1⟩ => ?_) hs rfl))
  obtain ⟨a, xs, ex, hq, q⟩ := q1
  subst ex
  cases r1 with
  | cons r rr =>
    cases rr
    cases r
    obtain ⟨its, rv, p', hz⟩ := I1.tuple hq
    have hal : a < s1.heap.objs.size := p'.lt
    refine call_enumT (show s1.heap.IsTuple a its.toArray from p') fun h' he hit hsz hk => wpAny_pyIter_enum he ?_
    have I2 : Inv X pins σ H1 { s1 with heap := h' } := I1.kept (t' := s1.toks) hk
    refine ⟨s1.heap.objs.size + 1, [s1.heap.objs.size + 1, s1.heap.objs.size], _, _, H1, rfl, I2, turn_enumT a (s1.heap.objs.size + 1) s1.heap.objs.size, ⟨⟨.none, he⟩, hit, Nat.succ_ne_self _, Nat.ne_of_lt hal, Nat.ne_of_lt (Nat.lt_succ_of_lt hal)⟩, fun b hb => ?_, q⟩
    have e' : b = s1.heap.objs.size + 1 ∨ b = s1.heap.objs.size := by simpa using hb
    have hle : s1.heap.objs.size ≤ b := by
      rcases e' with z | z
      · rw [z]; exact Nat.le_add_right _ _
      · rw [z]; exact Nat.le_refl _
    exact I1.fpOk hle (I1.hok.fresh hle)
theorem walk_enumT {K : PySem.W.Frag} {a : Addr} {xs : List V} : Walk (IteT K a) xs.length (fun H => SqT K H a xs) (YPair (fun i => some (.int (i : Nat))) (fun i => xs[i]?)) := by
  refine ⟨fun i _ hi q => ⟨xs, xs[i], q, by simp [hi]⟩, fun _ q => ⟨xs, q, Nat.le_refl _⟩, fun i H v H' _ q y => ?_⟩
  obtain ⟨T, x, h1, h2, h3, h4⟩ := y
  exact ⟨T, .int (i : Nat), x, h1, h2, h3, rfl, h4 xs q⟩
variable {K : PySem.W.Frag} {Ξ : XI}
theorem walkD_enumT {F : Hp} {a : Addr} {ds : List D} {vs : List V} (h1 : SqT K F a vs) (h2 : RpA K F ds vs) : WalkD K F (IteT K a) (enD ds) := by
  refine ⟨_, _, by rw [enD_len, h2.len]; exact walk_enumT (K := K) (a := a) (xs := vs), fun H hs => hs.tupq h1, fun i H x H' F1 d e s1 s2 y => ?_⟩
  obtain ⟨z, hz, rfl⟩ := enD_get e
  refine pair_new s2 y (fun v hv => (Option.some.inj hv).symm) fun v hv => ?_
  obtain ⟨w, hw, r⟩ := h2.get hz
  rw [hw] at hv
  cases hv
  exact r.mono s1
def pEnumT (p : PA1) : PI1 := fun s q => p s fun ds s1 => match ds with
  | [.tup xs] => q (enD xs) s1
  | _ => False
instance {t : TA} {p : PA1} [LiftA K Ξ t p] : LiftI K Ξ (iEnumT K t) (pEnumT p) := ⟨fun q T h k => by
  refine LiftA.run (K := K) (t := t) (p := p) _ T h fun vs F1 H1 ω1 ds s1 p1 T1 r1 h1 => ?_
  split at h1
  · obtain ⟨v, rfl, a, ws, rfl, r2, r3⟩ := r1.one
    exact ⟨a, ws, rfl, T1.sf.tupq r2, k _ F1 H1 ω1 _ s1 p1 T1 (walkD_enumT r2 r3) h1⟩
  · exact h1.elim⟩
end
/-! ### fresh objects as arguments, given away whole (printed where cfg's tmp says) -/
section
variable {X : Cx}
def tTmp (t : TA) : TA := t
theorem pa_tmp {es : List Expr} {t : TA} (h : PA X es t) : PA X es (tTmp t) := h
end
section
variable {K : PySem.W.Frag} {Ξ : XI}
abbrev Tls := List (O × Addr × List Addr)
structure Tm (K : PySem.W.Frag) (H0 F H : Hp) (ω : Om) (Ts : Tls) : Prop where
  obj : ∀ t ∈ Ts, ObjR K F H t.1 t.2.1 t.2.2
  fr : ∀ t ∈ Ts, ∀ a ∈ t.2.2, H0 a = none ∧ F a = none ∧ ω a = none ∧ ¬ tadr a
  dj : Ts.Pairwise fun t u => ∀ a ∈ t.2.2, a ∉ u.2.2
theorem Tm.nil {H0 F H : Hp} {ω : Om} : Tm K H0 F H ω [] := ⟨fun _ h => (nomatch h), fun _ h => (nomatch h), List.Pairwise.nil⟩
theorem Tm.step {H0 F H F' H' : Hp} {ω ω' : Om} {Ts : Tls} (M : Tm K H0 F H ω Ts) (p : Stp F H ω F' H' ω') : Tm K H0 F' H' ω' Ts := by
  have hs : ∀ t ∈ Ts, ∀ a ∈ t.2.2, ∃ u, H a = some u := fun t ht => (M.obj t ht).has
  refine ⟨fun t ht => ((M.obj t ht).mono p.sf).heap fun a ha u hu => ?_, fun t ht a ha => ?_, M.dj⟩
  · obtain ⟨_, _, h3, h4⟩ := M.fr t ht a ha
    exact p.fr a u h4 h3 hu
  · obtain ⟨h1, h2, h3, h4⟩ := M.fr t ht a ha
    obtain ⟨u, hu⟩ := hs t ht a ha
    exact ⟨h1, p.fn a u h3 hu h2, p.om a u h3 hu, h4⟩
theorem Tm.add {F0 H0 F H F' H' : Hp} {ω0 ω ω' : Om} {Ts : Tls} {b : Bool} {o : O} {v : V} (M : Tm K H0 F H ω Ts) (p0 : Stp F0 H0 ω0 F H ω) (p : Stp F H ω F' H' ω') (r : Rt K H F' H' ω' (.ow b o) v) :
    ∃ l A, v = .ref l ∧ Tm K H0 F' H' ω' (Ts ++ [(o, l, A)]) := by
  have M' := M.step p
  obtain ⟨l, A, rfl, hA, ho⟩ := r
  refine ⟨l, A, rfl, fun t ht => ?_, fun t ht a ha => ?_, List.pairwise_append.mpr ⟨M'.dj, List.pairwise_singleton _ _, fun t ht u hu a ha ha2 => ?_⟩⟩
  · rcases List.mem_append.mp ht with ht | ht
    · exact M'.obj t ht
    · rw [List.mem_singleton.mp ht]
      exact ho
  · rcases List.mem_append.mp ht with ht | ht
    · exact M'.fr t ht a ha
    · rw [List.mem_singleton.mp ht] at ha
      obtain ⟨h1, h2, h3⟩ := hA a ha
      exact ⟨p0.tr a h1, h3, h2, p0.tb.new h1⟩
  · rw [List.mem_singleton.mp hu] at ha2
    obtain ⟨u, hu⟩ := (M.obj t ht).has a ha
    rw [(hA a ha2).1] at hu
    cases hu
abbrev PU1 := Sl → List O → (List Ar → Sl → List O → Prop) → Prop
def tmO (Ts : Tls) : List O := Ts.map (·.1)
def tmV (Ts : Tls) : L2.St := Ts.map fun t => some (.ref t.2.1)
class LiftU (K : PySem.W.Frag) (Ξ : XI) (t : TA) (p : outParam PU1) : Prop where
  run : ∀ {F0 H0 F H : Hp} {ω0 ω : Om} {s : Sl} {σ : L2.St} {Ts : Tls} {Q : List V → Hp → Prop} (q : List Ar → Sl → List O → Prop), Stp F0 H0 ω0 F H ω → Sta K Ξ F H ω s σ → Tm K H0 F H ω Ts → p s (tmO Ts) q →
    (∀ vs F' H' ω' as s' Ts2, Stp F H ω F' H' ω' → Sta K Ξ F' H' ω' s' σ → Tm K H0 F' H' ω' (Ts ++ Ts2) → ArR K F' (σ ++ tmV (Ts ++ Ts2)) as vs → q as s' (tmO (Ts ++ Ts2)) → Q vs H') → t σ H Q
def puNil : PU1 := fun s ts q => q [] s ts
instance : LiftU K Ξ tNil puNil := ⟨fun {F0 H0 F H ω0 ω s σ Ts Q} q p0 T M h k => k [] F H ω [] s [] (Stp.refl T.tb) T (by rw [List.append_nil]; exact M) rfl (by rw [List.append_nil]; exact h)⟩
def puCons (p : PX) (r : PU1) : PU1 := fun s ts q => p s fun x s1 => match x with
  | .fr d => r s1 ts fun as s2 ts2 => q (.v d :: as) s2 ts2
  | .ow _ o => r s1 (ts ++ [o]) fun as s2 ts2 => q (.b (s1.length + ts.length) :: as) s2 ts2
  | .hid _ => False
instance {t : TE} {r : TA} {p : PX} {pr : PU1} [LiftE K Ξ t p] [LiftU K Ξ r pr] : LiftU K Ξ (tCons t r) (puCons p pr) := ⟨fun {F0 H0 F H ω0 ω s σ Ts Q} q p0 T M h k => by
  refine LiftE.run (K := K) (t := t) (p := p) _ T h fun v F1 H1 ω1 x s1 p1 T1 r1 h1 => ?_
  cases x with
  | hid u => exact h1.elim
  | fr d =>
    refine LiftU.run (K := K) (t := r) (p := pr) _ (p0.trans p1) T1 (M.step p1) h1 fun vs F2 H2 ω2 as s2 Ts2 p2 T2 M2 r2 h2 => ?_
    exact k _ F2 H2 ω2 (.v d :: as) s2 Ts2 (p1.trans p2) T2 M2 ⟨v, vs, rfl, (show Rp K F1 d v from r1).mono p2.sf, r2⟩ h2
  | ow b o =>
    obtain ⟨l, A, rfl, M1⟩ := M.add p0 p1 r1
    have e : tmO Ts ++ [o] = tmO (Ts ++ [(o, l, A)]) := by
      unfold tmO
      rw [List.map_append]
      rfl
    have h1 : pr s1 (tmO Ts ++ [o]) fun as s2 ts2 => q (.b (s1.length + (tmO Ts).length) :: as) s2 ts2 := h1
    rw [e] at h1
    refine LiftU.run (K := K) (t := r) (p := pr) _ (p0.trans p1) T1 M1 h1 fun vs F2 H2 ω2 as s2 Ts2 p2 T2 M2 r2 h2 => ?_
    have e2 : Ts ++ [(o, l, A)] ++ Ts2 = Ts ++ (o, l, A) :: Ts2 := by rw [List.append_assoc]; rfl
    rw [e2] at M2 r2 h2
    refine k _ F2 H2 ω2 (.b (s1.length + (tmO Ts).length) :: as) s2 ((o, l, A) :: Ts2) (p1.trans p2) T2 M2 ⟨.ref l, vs, rfl, ?_, r2⟩ h2
    rw [T1.len, List.getElem?_append_right (Nat.le_add_right _ _), Nat.add_sub_cancel_left]
    unfold tmV tmO
    rw [List.length_map, List.map_append, List.getElem?_append_right (by rw [List.length_map]; exact Nat.le_refl _), List.length_map, Nat.sub_self]
    rfl⟩
def puVar (i : Nat) (r : PU1) : PU1 := fun s ts q => match s[i]? with
  | some (some (.ow false _)) => (r s ts fun as s2 ts2 => q (.b i :: as) s2 ts2) ∨ (pDat (pVar i) s fun d s1 => r s1 ts fun as s2 ts2 => q (.v d :: as) s2 ts2)
  | some (some (.ow true _)) => r s ts fun as s2 ts2 => q (.b i :: as) s2 ts2
  | _ => pDat (pVar i) s fun d s1 => r s1 ts fun as s2 ts2 => q (.v d :: as) s2 ts2
theorem puVar_b {i : Nat} {r : TA} {pr : PU1} [LiftU K Ξ r pr] {F0 H0 F H : Hp} {ω0 ω : Om} {s : Sl} {σ : L2.St} {Ts : Tls} {Q : List V → Hp → Prop} {b : Bool} {o : O} (q : List Ar → Sl → List O → Prop) (p0 : Stp F0 H0 ω0 F H ω) (T : Sta K Ξ F H ω s σ) (M : Tm K H0 F H ω Ts) (e : s[i]? = some (some (.ow b o)))
    (h : pr s (tmO Ts) fun as s2 ts2 => q (.b i :: as) s2 ts2) (k : ∀ vs F' H' ω' as s' Ts2, Stp F H ω F' H' ω' → Sta K Ξ F' H' ω' s' σ → Tm K H0 F' H' ω' (Ts ++ Ts2) → ArR K F' (σ ++ tmV (Ts ++ Ts2)) as vs → q as s' (tmO (Ts ++ Ts2)) → Q vs H') : tCons (tVar i) r σ H Q := by
  obtain ⟨v, hv, _⟩ := T.at' i _ e
  refine ⟨v, hv, LiftU.run (K := K) (t := r) (p := pr) _ p0 T M h fun vs F2 H2 ω2 as s2 Ts2 p2 T2 M2 r2 h2 => ?_⟩
  refine k _ F2 H2 ω2 (.b i :: as) s2 Ts2 p2 T2 M2 ⟨v, vs, rfl, ?_, r2⟩ h2
  rw [List.getElem?_append_left (List.getElem?_eq_some_iff.mp hv).1]
  exact hv
theorem puVar_d {i : Nat} {r : TA} {pr : PU1} [LiftU K Ξ r pr] {F0 H0 F H : Hp} {ω0 ω : Om} {s : Sl} {σ : L2.St} {Ts : Tls} {Q : List V → Hp → Prop} (q : List Ar → Sl → List O → Prop) (p0 : Stp F0 H0 ω0 F H ω) (T : Sta K Ξ F H ω s σ) (M : Tm K H0 F H ω Ts)
    (h : pDat (pVar i) s fun d s1 => pr s1 (tmO Ts) fun as s2 ts2 => q (.v d :: as) s2 ts2) (k : ∀ vs F' H' ω' as s' Ts2, Stp F H ω F' H' ω' → Sta K Ξ F' H' ω' s' σ → Tm K H0 F' H' ω' (Ts ++ Ts2) → ArR K F' (σ ++ tmV (Ts ++ Ts2)) as vs → q as s' (tmO (Ts ++ Ts2)) → Q vs H') : tCons (tVar i) r σ H Q := by
  refine LiftD.run (K := K) (t := tVar i) (p := pDat (pVar i)) _ T h fun v F1 H1 ω1 d s1 p1 T1 r1 h1 => ?_
  refine LiftU.run (K := K) (t := r) (p := pr) _ (p0.trans p1) T1 (M.step p1) h1 fun vs F2 H2 ω2 as s2 Ts2 p2 T2 M2 r2 h2 => ?_
  exact k _ F2 H2 ω2 (.v d :: as) s2 Ts2 (p1.trans p2) T2 M2 ⟨v, vs, rfl, r1.mono p2.sf, r2⟩ h2
instance (priority := high) {i : Nat} {r : TA} {pr : PU1} [LiftU K Ξ r pr] : LiftU K Ξ (tCons (tVar i) r) (puVar i pr) := ⟨fun {F0 H0 F H ω0 ω s σ Ts Q} q p0 T M h k => by
  unfold puVar at h
  split at h
  · rename_i e
    rcases h with h | h
    · exact puVar_b q p0 T M e h k
    · exact puVar_d q p0 T M h k
  · rename_i e
    exact puVar_b q p0 T M e h k
  · exact puVar_d q p0 T M h k⟩
/-- slots from n on go -/
def omLt (n : Nat) (ω : Om) : Om := fun a => match ω a with
  | some (j, c) => if j < n then some (j, c) else none
  | none => none
theorem omLt_some {n : Nat} {ω : Om} {a : Addr} {j : Nat} {c : Tg} (h : omLt n ω a = some (j, c)) : ω a = some (j, c) ∧ j < n := by
  unfold omLt at h
  split at h
  · rename_i j' c' e
    split at h
    · cases h
      exact ⟨e, by assumption⟩
    · cases h
  · cases h
theorem omLt_of {n : Nat} {ω : Om} {a : Addr} {j : Nat} {c : Tg} (h : ω a = some (j, c)) (hj : j < n) : omLt n ω a = some (j, c) := by
  unfold omLt
  rw [h]
  exact if_pos hj
theorem omLt_none {n : Nat} {ω : Om} {a : Addr} (h : ω a = none) : omLt n ω a = none := by
  unfold omLt
  rw [h]
theorem pop_sta {F H : Hp} {ω : Om} {s : Sl} {σ τ : L2.St} (T : Sta0 K F H ω s (σ ++ τ)) : Sta0 K F H (omLt σ.length ω) (s.take σ.length) σ := by
  have hl := T.len
  rw [List.length_append] at hl
  refine ⟨T.tb.go (Same.refl F) (fun _ _ _ _ h => h) (fun b o _ h _ => omLt_none h) (fun _ _ _ _ _ h => h), T.sf, fun b p h => ?_, fun i x h => ?_, by rw [List.length_take]; omega, fun b j c h => ?_⟩
  · obtain ⟨j, c⟩ := p
    exact T.ow b _ (omLt_some h).1
  · have hi : i < σ.length := by
      have := (List.getElem?_eq_some_iff.mp h).1
      rw [List.length_take] at this
      omega
    rw [List.getElem?_take_of_lt hi] at h
    obtain ⟨v, hv, r⟩ := T.at' i x h
    rw [List.getElem?_append_left hi] at hv
    exact ⟨v, hv, r.om fun b c hb => omLt_of hb hi⟩
  · rw [List.length_take]
    have := (omLt_some h).2
    omega
theorem pop_stp {F0 H0 F H : Hp} {ω0 ω : Om} {n : Nat} (hn : ∀ b j c, ω0 b = some (j, c) → j < n) (p : Stp F0 H0 ω0 F H ω) : Stp F0 H0 ω0 F H (omLt n ω) := by
  refine ⟨p.tb0, p.tb.go (Same.refl F) (fun _ _ _ _ h => h) (fun b o _ h _ => omLt_none h) (fun _ _ _ _ _ h => h), p.th, p.sf, p.fr, fun b o h1 h2 => omLt_none (p.om b o h1 h2), p.fn, p.tr, fun b j => ⟨fun h => (p.bk b j).mp (omLt_some h).1, fun h => omLt_of ((p.bk b j).mpr h) (hn b j _ h)⟩, fun b j o h1 h2 => ?_, fun b j h => p.kb b j (omLt_some h).1⟩
  rcases p.bp b j o h1 h2 with z | z
  · exact .inl (omLt_of z (hn b j _ h2))
  · exact .inr (omLt_none z)
def tmS (ts : List O) : Sl := ts.map fun o => some (.ow false o)
theorem push_sta {F0 H0 F H : Hp} {ω0 : Om} : ∀ {Ts : Tls} {ω : Om} {s : Sl} {σ : L2.St}, Sta0 K F H ω s σ → Stp F0 H0 ω0 F H ω → Tm K H0 F H ω Ts → ∃ ωe, Sta0 K F H ωe (s ++ tmS (tmO Ts)) (σ ++ tmV Ts) ∧ Stp F0 H0 ω0 F H ωe ∧ ∀ a, H a = none → ωe a = none
  | [], ω, s, σ, T, p, _ => ⟨ω, by rw [show s ++ tmS (tmO []) = s from List.append_nil s, show σ ++ tmV [] = σ from List.append_nil σ]; exact T, p, fun a h => Sta.free T h⟩
  | (o, l, A) :: Ts, ω, s, σ, T, p, M => by
    have hA := M.fr (o, l, A) List.mem_cons_self
    have hO := M.obj (o, l, A) List.mem_cons_self
    have hd := List.pairwise_cons.mp M.dj
    have p1 : Stp F0 H0 ω0 F H (omOn ω A (s.length, .o)) := p.on fun a ha => ⟨(hA a ha).1, (hA a ha).2.2.1⟩
    have T1 : Sta0 K F H (omOn ω A (s.length, .o)) (s ++ [some (.ow false o)]) (σ ++ [some (.ref l)]) := by
      refine ⟨T.tb.go (Same.refl F) (fun _ _ _ _ h => h) (fun b o ht h _ => ?_) (fun _ _ _ _ _ h => h), T.sf, fun b q h => ?_, fun i x h => ?_, by rw [List.length_append, List.length_append, T.len]; rfl, fun b j c h => ?_⟩
      · rw [omOn_out fun z => (hA b z).2.2.2 ht]
        exact h
      · by_cases hb : b ∈ A
        · exact ⟨(hA b hb).2.1, hO.has b hb⟩
        · rw [omOn_out hb] at h
          exact T.ow b q h
      · rcases Nat.lt_or_ge i s.length with hi | hi
        · rw [List.getElem?_append_left hi] at h
          obtain ⟨v, hv, r⟩ := T.at' i x h
          refine ⟨v, by rw [List.getElem?_append_left (by rw [← T.len]; exact hi)]; exact hv, r.om fun b c hb => ?_⟩
          rw [omOn_out fun z => by rw [(hA b z).2.2.1] at hb; cases hb]
          exact hb
        · rw [List.getElem?_append_right hi] at h
          have hi2 : i = s.length := by
            cases e : i - s.length with
            | zero => omega
            | succ n => rw [e] at h; simp at h
          subst hi2
          rw [Nat.sub_self] at h
          have hx : some (.ow false o) = some x := Option.some.inj h
          cases hx
          refine ⟨.ref l, by rw [List.getElem?_append_right (by rw [T.len]; exact Nat.le_refl _), T.len, Nat.sub_self]; rfl, all_own (fun a ha => omOn_in ha) hO⟩
      · rw [List.length_append]
        by_cases hb : b ∈ A
        · rw [omOn_in hb] at h
          cases h
          exact Nat.lt_succ_self _
        · rw [omOn_out hb] at h
          exact Nat.lt_succ_of_lt (T.ix b j c h)
    have M1 : Tm K H0 F H (omOn ω A (s.length, .o)) Ts := ⟨fun t ht => M.obj t (List.mem_cons_of_mem _ ht), fun t ht a ha => by
      obtain ⟨h1, h2, h3, h4⟩ := M.fr t (List.mem_cons_of_mem _ ht) a ha
      exact ⟨h1, h2, by rw [omOn_out fun z => hd.1 t ht a z ha]; exact h3, h4⟩, hd.2⟩
    obtain ⟨ωe, a1, a2, a3⟩ := push_sta T1 p1 M1
    refine ⟨ωe, ?_, a2, a3⟩
    rw [List.append_assoc, List.append_assoc] at a1
    exact a1
def callToT (ps : PspX) (e : Xc → Sl → Prop) (as : List Ar) (ts : List O) (q : S → Sl → Prop) (s : Sl) : Prop := match getA as (s ++ tmS ts) with
  | some xs => if xs.length = ps.n then (if as.any Ar.isW = true then False else ps.run xs (fun x os => q x ((putA as os (s ++ tmS ts)).take s.length)) fun x os => e x ((putA as os (s ++ tmS ts)).take s.length)) else False
  | none => False
theorem callToT_run {ps : PspX} {e : Xc → Sl → Prop} {as : List Ar} {vs : List V} {F0 H0 F H : Hp} {ω0 ω : Om} {s0 s : Sl} {σ : L2.St} {Ts : Tls} {Q : VK} {E : XK} {q : S → Sl → Prop} (T0 : Sta K Ξ F0 H0 ω0 s0 σ) (p0 : Stp F0 H0 ω0 F H ω) (T : Sta K Ξ F H ω s σ) (M : Tm K H0 F H ω Ts) (r : ArR K F (σ ++ tmV Ts) as vs) (h : callToT ps e as (tmO Ts) q s)
    (k : ∀ v F' H' ω' x s', Stp F0 H0 ω0 F' H' ω' → Sta K Ξ F' H' ω' s' σ → Rt K H0 F' H' ω' x v → q x s' → Q v H')
    (kx : ∀ x d F' H' ω' s', Stp F0 H0 ω0 F' H' ω' → Sta0 K F' H' ω' s' σ → XdR K F' x d → e x s' → E (.ref x.C) d H') : LspX K ps vs H Q E := by
  unfold callToT at h
  obtain ⟨ωe, Te, pe, hfr⟩ := push_sta T.base p0 M
  have hn : ∀ b j c, ω0 b = some (j, c) → j < σ.length := fun b j c hb => by rw [← T0.len]; exact T0.ix b j c hb
  split at h
  · rename_i xs ex
    split at h
    rotate_left
    · exact h.elim
    rename_i hx
    split at h
    · exact h.elim
    · rename_i hW
      refine lsp_callO Te (by simpa using hW) r ex hx h (fun v F2 H2 ω2 x os p2 T2 _ R hq => ?_) fun x d F2 H2 ω2 os p2 T2 _ R he => ?_
      · have p3 := pop_stp hn (pe.trans p2)
        have T3 := pop_sta T2
        rw [← T.len] at T3
        refine k v F2 H2 _ x _ (by rw [← T.len] at p3; exact p3) ⟨T3, T0.ex.step (by rw [← T.len] at p3; exact p3)⟩ ?_ hq
        cases x with
        | fr d => exact R
        | hid u => exact R
        | ow b o =>
          obtain ⟨l, A, ee, z0, z1⟩ := R
          exact ⟨l, A, ee, fun a ha => ⟨p0.tr a (z0 a ha).1, omLt_none (z0 a ha).2.1, (z0 a ha).2.2⟩, z1⟩
      · have p3 := pop_stp hn (pe.trans p2)
        have T3 := pop_sta T2
        rw [← T.len] at T3 p3
        exact kx x d F2 H2 _ _ p3 T3 R he
  · exact h.elim
def pCallT (ps : Psp) (pa : PU1) : PX := fun s q => pa s [] fun as s1 ts => callToT ps.X (fun _ _ => False) as ts q s1
instance {ps : Psp} {E : XK} {t : TA} {pa : PU1} [LiftU K Ξ t pa] : LiftE K Ξ (tCall (Lsp K ps) [] E (tTmp t)) (pCallT ps pa) := ⟨fun {F H ω s σ Q} q T h k => by
  refine LiftU.run (K := K) (t := t) (p := pa) (Ts := []) _ (Stp.refl T.tb) T Tm.nil h fun vs F1 H1 ω1 as s1 Ts p1 T1 M1 r1 h1 => ?_
  rw [List.append_nil]
  exact callToT_run (Ξ := Ξ) T p1 T1 M1 r1 h1 (fun v F2 H2 ω2 x s2 p2 T2 r2 hq => k v F2 H2 ω2 x s2 p2 T2 r2 hq) fun _ _ _ _ _ _ _ _ _ z => z.elim⟩
def pCallXT (e : Xc → Sl → Prop) (ps : PspX) (pa : PU1) : PX := fun s q => pa s [] fun as s1 ts => callToT ps e as ts q s1
instance {ps : PspX} {W : WX} {e : Xc → Sl → Prop} {t : TA} {pa : PU1} [LiftU K ⟨W, e⟩ t pa] : LiftE K ⟨W, e⟩ (tCallW W (LspX K ps) (tTmp t)) (pCallXT e ps pa) := ⟨fun {F H ω s σ Q} q T h k => by
  refine LiftU.run (K := K) (t := t) (p := pa) (Ts := []) _ (Stp.refl T.tb) T Tm.nil h fun vs F1 H1 ω1 as s1 Ts p1 T1 M1 r1 h1 => ?_
  exact callToT_run T p1 T1 M1 r1 h1 (fun v F2 H2 ω2 x s2 p2 T2 r2 hq => k v F2 H2 ω2 x s2 p2 T2 r2 hq) fun x d F2 H2 ω2 s2 p2 T2 r2 he => T.ex p2 T2 r2 he⟩
instance {ps : PspX} {E : XK} {e : Xc → Sl → Prop} {t : TA} {pa : PU1} [LiftU K ⟨WK E, e⟩ t pa] : LiftE K ⟨WK E, e⟩ (tCallE E (LspX K ps) (tTmp t)) (pCallXT e ps pa) := ⟨fun {F H ω s σ Q} q T h k => by
  refine LiftU.run (K := K) (t := t) (p := pa) (Ts := []) _ (Stp.refl T.tb) T Tm.nil h fun vs F1 H1 ω1 as s1 Ts p1 T1 M1 r1 h1 => ?_
  rw [List.append_nil]
  exact callToT_run T p1 T1 M1 r1 h1 (fun v F2 H2 ω2 x s2 p2 T2 r2 hq => k v F2 H2 ω2 x s2 p2 T2 r2 hq) fun x d F2 H2 ω2 s2 p2 T2 r2 he => T.ex p2 T2 r2 he⟩
/-! methods: the object lent -/
theorem ArR.app {F : Hp} {σ τ : L2.St} : ∀ {as : List Ar} {vs : List V}, ArR K F σ as vs → ArR K F (σ ++ τ) as vs
  | [], _, h => h
  | .v _ :: _, _, h => let ⟨v, ws, e1, h1, h2⟩ := h; ⟨v, ws, e1, h1, ArR.app h2⟩
  | .b _ :: _, _, h => let ⟨v, ws, e1, h1, h2⟩ := h; ⟨v, ws, e1, by rw [List.getElem?_append_left (List.getElem?_eq_some_iff.mp h1).1]; exact h1, ArR.app h2⟩
  | .w _ :: _, _, h => let ⟨v, ws, e1, h1, h2⟩ := h; ⟨v, ws, e1, by rw [List.getElem?_append_left (List.getElem?_eq_some_iff.mp h1).1]; exact h1, ArR.app h2⟩
theorem ArR.cons1 {F : Hp} {σ : L2.St} {a : Ar} {x : V} {as : List Ar} {vs : List V} (h : ArR K F σ [a] [x]) (r : ArR K F σ as vs) : ArR K F σ (a :: as) (x :: vs) := by
  cases a with
  | v d =>
    obtain ⟨v, ws, e, h1, _⟩ := h
    cases e
    exact ⟨_, _, rfl, h1, r⟩
  | b i =>
    obtain ⟨v, ws, e, h1, _⟩ := h
    cases e
    exact ⟨_, _, rfl, h1, r⟩
  | w i =>
    obtain ⟨v, ws, e, h1, _⟩ := h
    cases e
    exact ⟨_, _, rfl, h1, r⟩
def pMethT (ps : Psp) (pm : Sl → (Ar → Sl → Prop) → Prop) (pa : PU1) : PX := fun s q => pm s fun a s1 => pa s1 [] fun as s2 ts => callToT ps.X (fun _ _ => False) (a :: as) ts q s2
def pMethXT (e : Xc → Sl → Prop) (ps : PspX) (pm : Sl → (Ar → Sl → Prop) → Prop) (pa : PU1) : PX := fun s q => pm s fun a s1 => pa s1 [] fun as s2 ts => callToT ps e (a :: as) ts q s2
instance {ps : Psp} {C : Addr} {m : Str} {E : XK} {ta : TE} {t : TA} {pm : Sl → (Ar → Sl → Prop) → Prop} {pa : PU1} [LiftM K Ξ C m ta pm] [LiftU K Ξ t pa] : LiftE K Ξ (tMeth C m (Lsp K ps) [] E ta (tTmp t)) (pMethT ps pm pa) := ⟨fun {F H ω s σ Q} q T h k => by
  refine LiftM.run (K := K) (C := C) (m := m) (t := ta) (p := pm) _ T h fun v F1 H1 ω1 a s1 p1 T1 r1 h1 => ?_
  obtain ⟨l, dx, fs, rfl, e1, e2⟩ := r1.ins
  refine ⟨l, dx, fs, rfl, e1, e2, ?_⟩
  refine LiftU.run (K := K) (t := t) (p := pa) (Ts := []) _ (Stp.refl T1.tb) T1 Tm.nil h1 fun vs F2 H2 ω2 as s2 Ts p2 T2 M2 r2 h2 => ?_
  rw [List.append_nil]
  have r3 : ArR K F2 (σ ++ tmV ([] ++ Ts)) (a :: as) (.ref l :: vs) := ArR.cons1 (ArR.app (r1.ar p2.sf (as := []) (vs := []) rfl)) r2
  exact callToT_run (Ξ := Ξ) T1 p2 T2 M2 r3 h2 (fun v F3 H3 ω3 x s3 p3 T3 R hq => k v F3 H3 ω3 x s3 (p1.trans p3) T3 (R.early p1.tr) hq) fun _ _ _ _ _ _ _ _ _ z => z.elim⟩
instance {ps : PspX} {C : Addr} {m : Str} {W : WX} {e : Xc → Sl → Prop} {ta : TE} {t : TA} {pm : Sl → (Ar → Sl → Prop) → Prop} {pa : PU1} [LiftM K ⟨W, e⟩ C m ta pm] [LiftU K ⟨W, e⟩ t pa] : LiftE K ⟨W, e⟩ (tMethW W C m (LspX K ps) ta (tTmp t)) (pMethXT e ps pm pa) := ⟨fun {F H ω s σ Q} q T h k => by
  refine LiftM.run (K := K) (C := C) (m := m) (t := ta) (p := pm) _ T h fun v F1 H1 ω1 a s1 p1 T1 r1 h1 => ?_
  obtain ⟨l, dx, fs, rfl, e1, e2⟩ := r1.ins
  refine ⟨l, dx, fs, rfl, e1, e2, ?_⟩
  refine LiftU.run (K := K) (t := t) (p := pa) (Ts := []) _ (Stp.refl T1.tb) T1 Tm.nil h1 fun vs F2 H2 ω2 as s2 Ts p2 T2 M2 r2 h2 => ?_
  have r3 : ArR K F2 (σ ++ tmV ([] ++ Ts)) (a :: as) (.ref l :: vs) := ArR.cons1 (ArR.app (r1.ar p2.sf (as := []) (vs := []) rfl)) r2
  exact callToT_run T1 p2 T2 M2 r3 h2 (fun v F3 H3 ω3 x s3 p3 T3 R hq => k v F3 H3 ω3 x s3 (p1.trans p3) T3 (R.early p1.tr) hq) fun x d F3 H3 ω3 s3 p3 T3 R he => T1.ex p3 T3 R he⟩
instance {ps : PspX} {C : Addr} {m : Str} {E : XK} {e : Xc → Sl → Prop} {ta : TE} {t : TA} {pm : Sl → (Ar → Sl → Prop) → Prop} {pa : PU1} [LiftM K ⟨WK E, e⟩ C m ta pm] [LiftU K ⟨WK E, e⟩ t pa] : LiftE K ⟨WK E, e⟩ (tMethE E C m (LspX K ps) ta (tTmp t)) (pMethXT e ps pm pa) := ⟨fun {F H ω s σ Q} q T h k => by
  refine LiftM.run (K := K) (C := C) (m := m) (t := ta) (p := pm) _ T h fun v F1 H1 ω1 a s1 p1 T1 r1 h1 => ?_
  obtain ⟨l, dx, fs, rfl, e1, e2⟩ := r1.ins
  refine ⟨l, dx, fs, rfl, e1, e2, ?_⟩
  refine LiftU.run (K := K) (t := t) (p := pa) (Ts := []) _ (Stp.refl T1.tb) T1 Tm.nil h1 fun vs F2 H2 ω2 as s2 Ts p2 T2 M2 r2 h2 => ?_
  rw [List.append_nil]
  have r3 : ArR K F2 (σ ++ tmV ([] ++ Ts)) (a :: as) (.ref l :: vs) := ArR.cons1 (ArR.app (r1.ar p2.sf (as := []) (vs := []) rfl)) r2
  exact callToT_run T1 p2 T2 M2 r3 h2 (fun v F3 H3 ω3 x s3 p3 T3 R hq => k v F3 H3 ω3 x s3 (p1.trans p3) T3 (R.early p1.tr) hq) fun x d F3 H3 ω3 s3 p3 T3 R he => T1.ex p3 T3 R he⟩
end
/-! ### < of alike data (printed where cfg's ltdat says) -/
section
variable {X : Cx}
def rLtD (K : PySem.W.Frag) : R2 := fun x y H Q => ∃ d e, Dp K H x d ∧ Dp K H y e ∧ PySem.W.alike d e = true ∧ d ≠ .none ∧ d.depth ≤ 60 ∧ Q (.bl (PySem.W.dataLt d e)) H
theorem op_ltD (hu : X.A.units + 64 < cLine) : OpR X (compareOp .Lt) (rLtD X.K) := by
  intro pins s σ H x y v u Q I rx ry h
  obtain ⟨d, e, hd, he, ha, hn, hdp, q⟩ := h
  obtain ⟨as, r1⟩ := Dp.reads I d x v hd rx
  obtain ⟨bs, r2⟩ := Dp.reads I e y u he ry
  exact PySem.W.rcLt_alike d e X.A s v u as bs r1 r2 ha hn (by have := Nat.min_le_left d.depth e.depth; omega) X.prog X.w _ _ ⟨.bl _, H, I, rfl, q⟩
theorem ltDk {K : PySem.W.Frag} (h : X.K = K) (hu : X.A.units + 64 < cLine) : OpR X (compareOp .Lt) (rLtD K) := by subst h; exact op_ltD hu
end
section
variable {K : PySem.W.Frag} {Ξ : XI}
def ltD (d e : D) : Bool := PySem.W.dataLt d.py e.py
def gLtD : D → D → (S → Prop) → Prop := fun d e q => D.plN 58 d = true ∧ D.plN 58 e = true ∧ PySem.W.alike d.py e.py = true ∧ d ≠ .non ∧ q (.fr (.bl (ltD d e)))
instance : OpL K (rLtD K) gLtD := ⟨fun {F H x y d e Q} q hs h1 h2 h k => by
  obtain ⟨p1, p2, ha, hn, h⟩ := h
  obtain ⟨a1, a2, a3⟩ := py_of 58 p1 (h1.mono hs)
  obtain ⟨b1, b2, b3⟩ := py_of 58 p2 (h2.mono hs)
  refine ⟨d.py, e.py, a1, b1, ha, fun z => hn ?_, Nat.le_trans a3 (by decide), k _ F H (.fr (.bl _)) (Ext.refl hs) rfl h⟩
  cases d <;> first | rfl | (cases z; done) | (cases p1; done)⟩
end
/-! ### a reading with all own objects shown as data: they stay own (printed where cfg's view says) -/
section
variable {X : Cx}
def tView (t : TE) : TE := t
theorem pe_view {e : Expr} {t : TE} (h : PE X e t) : PE X e (tView t) := h
end
mutual
/-- data that holds no list and no object -/
def D.lg : D → Bool
  | .lst _ => false
  | .scr _ => false
  | .obj _ _ _ => false
  | .xv _ _ _ _ _ => false
  | .tup ds => D.lgs ds
  | .dik _ ds => D.lgs ds
  | .dic _ ks ds => D.lgs ks && D.lgs ds
  | _ => true
def D.lgs : List D → Bool
  | [] => true
  | d :: ds => d.lg && D.lgs ds
end
def lgS : S → Bool
  | .fr d => d.lg
  | .ow _ (.lst ds) => D.lgs ds
  | .ow _ (.dk kvs) => D.lgs (kvs.map (·.2))
  | .ow _ _ => false
  | .hid _ => true
mutual
/-- made of lists and instances alone -/
def O.seen : O → Bool
  | .lst _ => true
  | .nl cs => S.seens cs
  | .ob _ _ cs => S.seens cs
  | _ => false
def S.seens : List S → Bool
  | [] => true
  | .ow _ o :: cs => o.seen && S.seens cs
  | .fr _ :: cs => S.seens cs
  | .hid _ :: cs => S.seens cs
end
def LI (u : HO) : Prop := (∃ ws, u = .lst ws) ∨ ∃ C dx fs, u = .ins C dx fs
section
variable {K : PySem.W.Frag} {Ξ : XI}
mutual
theorem ObjR.li {F H : Hp} : ∀ {o : O} {l : Addr} {A : List Addr}, o.seen = true → ObjR K F H o l A → ∀ a ∈ A, ∃ u, H a = some u ∧ LI u
  | .lst _, _, _, _, h, a, ha => by
    obtain ⟨rfl, vs, h1, _⟩ := h
    cases List.mem_singleton.mp ha
    exact ⟨_, h1, .inl ⟨_, rfl⟩⟩
  | .dk _, _, _, e, _, _, _ => by cases e
  | .dn _ _, _, _, e, _, _, _ => by cases e
  | .nt _, _, _, e, _, _, _ => by cases e
  | .nl _, _, _, e, h, a, ha => by
    obtain ⟨vs, B, rfl, h1, h2, h3⟩ := h
    rcases List.mem_cons.mp ha with z | z
    · rw [z]; exact ⟨_, h2, .inl ⟨_, rfl⟩⟩
    · exact PtsR.li e h3 a z
  | .ob _ _ _, _, _, e, h, a, ha => by
    obtain ⟨dx, vs, B, rfl, h1, h2, h3, h4⟩ := h
    rcases List.mem_cons.mp ha with z | z
    · rw [z]; exact ⟨_, h2, .inr ⟨_, _, _, rfl⟩⟩
    · exact PtsR.li e h4 a z
theorem PtsR.li {F H : Hp} : ∀ {cs : List S} {vs : List V} {A : List Addr}, S.seens cs = true → PtsR K F H cs vs A → ∀ a ∈ A, ∃ u, H a = some u ∧ LI u
  | [], _, _, _, h, a, ha => by
    obtain ⟨_, rfl⟩ := h
    simp at ha
  | .fr _ :: cs, _, _, e, h, a, ha => let ⟨v, ws, e1, h1, h2⟩ := h; PtsR.li (cs := cs) e h2 a ha
  | .hid _ :: cs, _, _, e, h, a, ha => let ⟨ws, e1, h2⟩ := h; PtsR.li (cs := cs) e h2 a ha
  | .ow _ o :: cs, _, _, e, h, a, ha => by
    have e' := Bool.and_eq_true_iff.mp (show (o.seen && S.seens cs) = true from e)
    obtain ⟨l, ws, A1, A2, e1, rfl, h1, h2, h3⟩ := h
    rcases List.mem_append.mp ha with z | z
    · exact ObjR.li e'.1 h2 a z
    · exact PtsR.li e'.2 h3 a z
end
mutual
theorem Rp.thawG {F F' : Hp} (h : ∀ b u, F b = some u → F' b = some u ∨ LI u) : ∀ {d : D} {v : V}, d.lg = true → Rp K F d v → Rp K F' d v
  | .non, _, _, r => r
  | .bl _, _, _, r => r
  | .int _, _, _, r => r
  | .str _, _, _, r => r
  | .ty _, _, _, r => r
  | .opq _, _, _, r => r
  | .xv _ _ _ _ _, _, e, _ => by cases e
  | .lst _, _, e, _ => by cases e
  | .obj _ _ _, _, e, _ => by cases e
  | .scr _, _, e, _ => by cases e
  | .dic w ks ds, _, e, r => by
    obtain ⟨a, ws, rfl, h1, h2, h3, h4, h5⟩ := r
    have e' := Bool.and_eq_true_iff.mp (show (D.lgs ks && D.lgs ds) = true from e)
    rcases h _ _ h1 with z | (⟨_, z⟩ | ⟨_, _, _, z⟩)
    · exact ⟨a, ws, rfl, z, h2, h3, RpA.thawG h e'.1 h4, RpA.thawG h e'.2 h5⟩
    · cases z
    · cases z
  | .dik ks ds, _, e, r => by
    obtain ⟨a, ws, rfl, h1, h2, h3⟩ := r
    refine ⟨a, ws, rfl, ?_, h2, RpA.thawG h e h3⟩
    rcases h1 with h1 | ⟨o, h1⟩
    · rcases h _ _ h1 with z | (⟨_, z⟩ | ⟨_, _, _, z⟩)
      · exact .inl z
      · cases z
      · cases z
    · rcases h _ _ h1 with z | (⟨_, z⟩ | ⟨_, _, _, z⟩)
      · exact .inr ⟨o, z⟩
      · cases z
      · cases z
  | .tup ds, _, e, r => by
    obtain ⟨a, vs, rfl, h1, h2⟩ := r
    refine ⟨a, vs, rfl, ?_, RpA.thawG h e h2⟩
    rcases h1 with (h1 | ⟨o, h1⟩) | h1
    · rcases h _ _ h1 with z | (⟨_, z⟩ | ⟨_, _, _, z⟩)
      · exact .inl (.inl z)
      · cases z
      · cases z
    · rcases h _ _ h1 with z | (⟨_, z⟩ | ⟨_, _, _, z⟩)
      · exact .inl (.inr ⟨o, z⟩)
      · cases z
      · cases z
    · exact .inr h1
theorem RpA.thawG {F F' : Hp} (h : ∀ b u, F b = some u → F' b = some u ∨ LI u) : ∀ {ds : List D} {vs : List V}, D.lgs ds = true → RpA K F ds vs → RpA K F' ds vs
  | [], _, _, r => r
  | d :: ds, _, e, r => by
    obtain ⟨v, ws, rfl, r1, r2⟩ := r
    have e' := Bool.and_eq_true_iff.mp (show (d.lg && D.lgs ds) = true from e)
    exact ⟨v, ws, rfl, Rp.thawG h e'.1 r1, RpA.thawG h e'.2 r2⟩
end
theorem PrK.thawG {F F' : Hp} (h : ∀ b u, F b = some u → F' b = some u ∨ LI u) : ∀ {kvs : List (Key × D)} {ws : List (Key × V)}, D.lgs (kvs.map (·.2)) = true → PrK K F kvs ws → PrK K F' kvs ws
  | _, _, _, .nil => .nil
  | p :: ps, _, e, .cons h1 t => by
    have e' := Bool.and_eq_true_iff.mp (show (p.2.lg && D.lgs (ps.map (·.2))) = true from e)
    exact .cons ⟨h1.1, Rp.thawG h e'.1 h1.2⟩ (PrK.thawG h e'.2 t)
def frzX : Option S → Option S
  | some (.ow _ o) => some (.fr o.dat)
  | x => x
def frzL (s : Sl) : Sl := s.map frzX
def seenS : Sl → Bool
  | [] => true
  | some (.ow _ o) :: s => o.seen && seenS s
  | _ :: s => seenS s
theorem seenS_at : ∀ {s : Sl} {i : Nat} {b : Bool} {o : O}, seenS s = true → s[i]? = some (some (.ow b o)) → o.seen = true
  | [], i, _, _, _, e => by simp at e
  | x :: s, 0, b, o, h, e => by
    have e : x = some (.ow b o) := by simpa using e
    subst e
    exact (Bool.and_eq_true_iff.mp (show (o.seen && seenS s) = true from h)).1
  | x :: s, i + 1, b, o, h, e => by
    have e : s[i]? = some (some (.ow b o)) := by simpa using e
    refine seenS_at (s := s) ?_ e
    rcases x with _ | (_ | ⟨b', o'⟩ | _)
    · exact h
    · exact h
    · exact (Bool.and_eq_true_iff.mp (show (o'.seen && seenS s) = true from h)).2
    · exact h
/-- the addresses of the slots' own objects -/
def ShownS (K : PySem.W.Frag) (F H : Hp) (ω : Om) (s : Sl) (b : Addr) : Prop := ∃ i bb o l A, s[i]? = some (some (.ow bb o)) ∧ ω l = some (i, tgR bb) ∧ (∀ a ∈ A, a ≠ l → ω a = some (i, tgP bb)) ∧ ObjR K F H o l A ∧ b ∈ A
def pView (p : PX) : PX := fun s q => if seenS s = true then p (frzL s) fun x _ => lgS x = true ∧ q x s else False
instance {t : TE} {p : PX} [LiftE K XI.zero t p] : LiftE K Ξ (tView t) (pView p) := ⟨fun {F H ω s σ Q} q T h k => by
  classical
  unfold pView at h
  split at h
  rotate_left
  · exact h.elim
  rename_i hseen
  have hsh : ∀ b, ShownS K F H ω s b → (∃ p, ω b = some p) ∧ F b = none ∧ ∃ u, H b = some u ∧ LI u := fun b hb => by
    obtain ⟨i, bb, o, l, A, h1, h2, h3, h4, h5⟩ := hb
    have hw : ∃ p, ω b = some p := by
      by_cases e : b = l
      · exact ⟨_, by rw [e]; exact h2⟩
      · exact ⟨_, h3 b h5 e⟩
    obtain ⟨p, hp⟩ := hw
    exact ⟨⟨p, hp⟩, (T.ow b p hp).1, ObjR.li (seenS_at hseen h1) h4 b h5⟩
  have F1s : ∀ b u, (if ShownS K F H ω s b then H b else F b) = some u → H b = some u := fun b u e => by
    split at e
    · exact e
    · exact T.sf b u e
  have hFF : Same F (fun b => if ShownS K F H ω s b then H b else F b) := fun b u e => by
    show (if ShownS K F H ω s b then H b else F b) = some u
    split
    · exact T.sf b u e
    · exact e
  have T1 : Sta0 K (fun b => if ShownS K F H ω s b then H b else F b) H (fun _ => none) (frzL s) σ := by
    refine ⟨T.tb.go hFF (fun _ _ _ _ h => h) (fun _ _ _ _ _ => rfl) (fun b o ht h1 _ h2 => ?_), fun b u e => F1s b u e, fun _ _ h => (by cases h), fun i x h => ?_, by rw [← T.len]; exact List.length_map .., fun _ _ _ h => (by cases h)⟩
    · show (if ShownS K F H ω s b then H b else F b) = none
      rw [if_neg fun z => by
        obtain ⟨⟨p, h3⟩, _⟩ := hsh b z
        rw [h1] at h3
        cases h3]
      exact h2
    · unfold frzL at h
      rw [List.getElem?_map] at h
      cases e : s[i]? with
      | none => rw [e] at h; cases h
      | some y =>
        rw [e] at h
        have h : frzX y = some x := Option.some.inj h
        rcases y with _ | (d | ⟨b, o⟩ | u)
        · cases h
        · cases h
          obtain ⟨v, hv, r⟩ := T.at' i _ e
          exact ⟨v, hv, Rp.mono hFF r⟩
        · cases h
          obtain ⟨v, hv, l, A, rfl, h1, h2, h3⟩ := T.at' i _ e
          refine ⟨_, hv, h3.frz hFF fun a ha u hu => ?_⟩
          show (if ShownS K F H ω s a then H a else F a) = some u
          rw [if_pos ⟨i, b, o, l, A, e, h1, h2, h3, ha⟩]
          exact hu
        · cases h
          exact T.at' i _ e
  refine LiftE.run (K := K) (t := t) (p := p) _ (show Sta K XI.zero _ H _ _ σ from ⟨T1, Exo.zero⟩) h fun v F' H' ω' x s2 p' T2 R hq => ?_
  obtain ⟨hlf, hq⟩ := hq
  have hF2 : ∀ b, ShownS K F H ω s b → F' b = H b := fun b hb => by
    obtain ⟨_, _, u, h2, _⟩ := hsh b hb
    rw [h2]
    exact p'.sf b _ (by show (if ShownS K F H ω s b then H b else F b) = _; rw [if_pos hb]; exact h2)
  have hH : ∀ b u, ¬ tadr b → H b = some u → H' b = some u := fun b u ht e => p'.fr b u ht rfl e
  have sFF : Same F (fun b => if ShownS K F H ω s b then none else F' b) := fun b u e => by
    show (if ShownS K F H ω s b then none else F' b) = some u
    split
    · rename_i hb
      rw [(hsh b hb).2.1] at e
      cases e
    · exact p'.sf b u (hFF b u e)
  have hF3 : ∀ b u, (if ShownS K F H ω s b then none else F' b) = some u → F' b = some u := fun b u e => by
    split at e
    · cases e
    · exact e
  have th : ∀ b u, F' b = some u → (fun b => if ShownS K F H ω s b then none else F' b) b = some u ∨ LI u := fun b u e => by
    by_cases hb : ShownS K F H ω s b
    · obtain ⟨_, _, u2, h2, h3⟩ := hsh b hb
      rw [hF2 b hb, h2] at e
      cases e
      exact .inr h3
    · exact .inl (by show (if ShownS K F H ω s b then none else F' b) = some u; rw [if_neg hb]; exact e)
  have htb : AllT (fun b => if ShownS K F H ω s b then none else F' b) H' ω := fun p hp => by
    obtain ⟨q1, q2, ps, q3, q4, q5⟩ := p'.tb p hp
    refine ⟨?_, (T.tb p hp).2.1, ps, q3, q4, fun pos cv hc => ?_⟩
    · show (if ShownS K F H ω s p.1 then none else F' p.1) = none
      split
      · rfl
      · exact q1
    · obtain ⟨c, e, h6⟩ := q5 pos cv hc
      refine ⟨c, e, ?_⟩
      show (if ShownS K F H ω s c then none else F' c) = _
      rw [if_neg fun z => by
        obtain ⟨_, _, u2, h4, h5⟩ := hsh c z
        rw [hF2 c z, h4] at h6
        cases h6
        rcases h5 with ⟨_, z⟩ | ⟨_, _, _, z⟩ <;> cases z]
      exact h6
  have pp : Stp F H ω (fun b => if ShownS K F H ω s b then none else F' b) H' ω := ⟨T.tb, htb, fun b o _ e => p'.th b o rfl e, sFF, fun b o ht _ e => hH b o ht e, fun _ _ z _ => z, fun b o q1 q2 q3 => by
    show (if ShownS K F H ω s b then none else F' b) = none
    split
    · rfl
    · rename_i hb
      refine p'.fn b o rfl q2 ?_
      show (if ShownS K F H ω s b then H b else F b) = none
      rw [if_neg hb]
      exact q3, p'.tr, fun _ _ => Iff.rfl, fun _ _ _ _ h => .inl h, fun _ _ h => .inl h⟩
  refine k v (fun b => if ShownS K F H ω s b then none else F' b) H' ω x s pp ⟨⟨htb, fun b u e => T2.sf b u (hF3 b u e), fun b p hb => ⟨?_, ?_⟩, fun i y hy => ?_, T.len, T.ix⟩, T.ex.step pp⟩ ?_ hq
  · show (if ShownS K F H ω s b then none else F' b) = none
    split
    · rfl
    · rename_i hb'
      obtain ⟨q1, u, q2⟩ := T.ow b p hb
      refine p'.fn b u rfl q2 ?_
      show (if ShownS K F H ω s b then H b else F b) = none
      rw [if_neg hb']
      exact q1
  · obtain ⟨q1, u, q2⟩ := T.ow b p hb
    exact ⟨u, hH b u (T.tb.own hb) q2⟩
  · obtain ⟨v, hv, r⟩ := T.at' i y hy
    exact ⟨v, hv, r.to sFF fun a u ⟨_, hw⟩ hu => hH a u (T.tb.own hw) hu⟩
  · cases x with
    | fr d => exact Rp.thawG th hlf R
    | hid u => exact R
    | ow b o =>
      obtain ⟨l, A, e, z0, z3⟩ := R
      refine ⟨l, A, e, fun a ha => ⟨(z0 a ha).1, Sta.free T.base (z0 a ha).1, ?_⟩, ?_⟩
      · show (if ShownS K F H ω s a then none else F' a) = none
        rw [(z0 a ha).2.2]
        split <;> rfl
      · cases o with
        | lst ds =>
          obtain ⟨eA, ws, y1, y2⟩ := z3
          exact ⟨eA, ws, y1, RpA.thawG th hlf y2⟩
        | dk kvs =>
          obtain ⟨eA, ws, y1, y2⟩ := z3
          exact ⟨eA, ws, y1, PrK.thawG th hlf y2⟩
        | dn _ _ => cases hlf
        | nl _ => cases hlf
        | nt _ => cases hlf
        | ob _ _ _ => cases hlf⟩
end
/-! ### isinstance by data -/
theorem tyx_tup' {K : PySem.W.Frag} {H : Hp} {a : Addr} {xs : List V} (h : SqT K H a xs) : TyX K H (.ref a) (.type "tuple") := by
  rcases h with (h | ⟨o, h⟩) | ⟨o, its, n, h1, h2, _⟩
  · exact .base (.tup h)
  · exact .fTuple h
  · exact .kTuple h1 h2
theorem tyx_lst' {K : PySem.W.Frag} {H : Hp} {a : Addr} {xs : List V} (h : SqL K H a xs) : TyX K H (.ref a) (.type "list") := by
  rcases h with (h | ⟨o, h⟩) | ⟨o, its, n, h1, h2, _⟩
  · exact .base (.lst h)
  · exact .base (.frz h)
  · exact .kList h1 h2
section
variable {K : PySem.W.Frag} {Ξ : XI}
/-- the built-in type of a piece of data, as the library names it -/
def D.tyN : D → Option String
  | .non => some "NoneType"
  | .bl _ => some "bool"
  | .int _ => some "int"
  | .str _ => some "str"
  | .lst _ => some "list"
  | .tup _ => some "tuple"
  | .scr _ => some "list"
  | _ => none
theorem tyx_of {F H : Hp} (hs : Same F H) {d : D} {v : V} {t : String} (r : Rp K F d v) (e : d.tyN = some t) : TyX K H v (.type t) := by
  cases d with
  | non => cases (show v = _ from r); cases e; exact .base .non
  | bl b => cases (show v = _ from r); cases e; exact .base (.bl b)
  | int i => cases (show v = _ from r); cases e; exact .base (.int i)
  | str x => cases (show v = _ from r); cases e; exact .base (.str x)
  | lst ds => obtain ⟨a, ws, rfl, h1, _⟩ := r; cases e; exact .base (.lst (hs _ _ h1))
  | tup ds => obtain ⟨a, ws, rfl, h1, _⟩ := r; cases e; exact tyx_tup' (hs.tupq h1)
  | scr ns => obtain ⟨a, rfl, h1⟩ := r; cases e; exact tyx_lst' (hs.seq h1)
  | _ => cases e
def pIsi (f : D → Option Bool) (p : PD) : PX := fun s q => p s fun d s1 => match f d with
  | some b => q (.fr (.bl b)) s1
  | none => False
theorem isi_run {f : D → Option Bool} {n : String} (hf : ∀ d b, f d = some b → ∃ t, d.tyN = some t ∧ kitB t n = some b) {t : TE} {p : PD} [LiftD K Ξ t p] {F H : Hp} {ω : Om} {s : Sl} {σ : L2.St} {Q : VK} (q : S → Sl → Prop) (T : Sta K Ξ F H ω s σ) (h : pIsi f p s q)
    (k : ∀ v F' H' ω' x s', Stp F H ω F' H' ω' → Sta K Ξ F' H' ω' s' σ → Rt K H F' H' ω' x v → q x s' → Q v H') : tCB (rIsi K) (tCons t (tCons (tC (V.ty n)) tNil)) σ H Q := by
  refine LiftD.run (K := K) (t := t) (p := p) _ T h fun v F1 H1 ω1 d s1 p1 T1 r1 h1 => ?_
  split at h1
  · rename_i b e
    obtain ⟨tt, e1, e2⟩ := hf d b e
    exact ⟨v, .ty n, .type tt, .type n, b, rfl, .ty n, tyx_of T1.sf r1 e1, kit_ty e2, k _ F1 H1 ω1 (.fr (.bl b)) s1 p1 T1 rfl h1⟩
  · exact h1.elim
def isTup : D → Option Bool
  | .tup _ => some true
  | .non | .bl _ | .int _ | .str _ | .lst _ | .scr _ => some false
  | _ => none
def isLst : D → Option Bool
  | .lst _ | .scr _ => some true
  | .non | .bl _ | .int _ | .str _ | .tup _ => some false
  | _ => none
def isInt : D → Option Bool
  | .int _ | .bl _ => some true
  | .non | .lst _ | .str _ | .tup _ | .scr _ => some false
  | _ => none
def isBl : D → Option Bool
  | .bl _ => some true
  | .non | .int _ | .lst _ | .str _ | .tup _ | .scr _ => some false
  | _ => none
def isStr : D → Option Bool
  | .str _ => some true
  | .non | .int _ | .lst _ | .bl _ | .tup _ | .scr _ => some false
  | _ => none
instance (priority := high) {t : TE} {p : PD} [LiftD K Ξ t p] : LiftE K Ξ (tCB (rIsi K) (tCons t (tCons (tC (V.ty "tuple")) tNil))) (pIsi isTup p) :=
  ⟨fun q T h k => isi_run (t := t) (p := p) (fun d b e => by cases d <;> cases e <;> exact ⟨_, rfl, by decide +kernel⟩) q T h k⟩
instance (priority := high) {t : TE} {p : PD} [LiftD K Ξ t p] : LiftE K Ξ (tCB (rIsi K) (tCons t (tCons (tC (V.ty "list")) tNil))) (pIsi isLst p) :=
  ⟨fun q T h k => isi_run (t := t) (p := p) (fun d b e => by cases d <;> cases e <;> exact ⟨_, rfl, by decide +kernel⟩) q T h k⟩
instance (priority := high) {t : TE} {p : PD} [LiftD K Ξ t p] : LiftE K Ξ (tCB (rIsi K) (tCons t (tCons (tC (V.ty "int")) tNil))) (pIsi isInt p) :=
  ⟨fun q T h k => isi_run (t := t) (p := p) (fun d b e => by cases d <;> cases e <;> exact ⟨_, rfl, by decide +kernel⟩) q T h k⟩
instance (priority := high) {t : TE} {p : PD} [LiftD K Ξ t p] : LiftE K Ξ (tCB (rIsi K) (tCons t (tCons (tC (V.ty "bool")) tNil))) (pIsi isBl p) :=
  ⟨fun q T h k => isi_run (t := t) (p := p) (fun d b e => by cases d <;> cases e <;> exact ⟨_, rfl, by decide +kernel⟩) q T h k⟩
instance (priority := high) {t : TE} {p : PD} [LiftD K Ξ t p] : LiftE K Ξ (tCB (rIsi K) (tCons t (tCons (tC (V.ty "str")) tNil))) (pIsi isStr p) :=
  ⟨fun q T h k => isi_run (t := t) (p := p) (fun d b e => by cases d <;> cases e <;> exact ⟨_, rfl, by decide +kernel⟩) q T h k⟩
end
/-! ### fractions by data -/
def dF (r : Rat) : D := .tup [.int r.num, .int (r.den : Int)]
def dFs (rs : List Rat) : D := .lst (rs.map dF)
theorem dF_inj {a b : Rat} (h : dF a = dF b) : a = b := by
  unfold dF at h
  injection h with h
  injection h with h1 h
  injection h1 with h1
  injection h with h2 h
  injection h2 with h2
  exact rat_eq h1 h2
abbrev LIM : Nat := 980
section
variable {X : Cx}
/-- // by any divisor of moderate size -/
theorem op_fdivZ : OpR X (binaryOp .FloorDiv) (rI (fun _ j => j ≠ 0 ∧ j.natAbs < 2 ^ 8000) fun i j => .int (i.fdiv j)) :=
  opI fun i j _ _ _ _ _ hc q => floordiv_int hc.1 q
    (.inl (PyProof.noPylong_of_log2 (Nat.lt_of_lt_of_le (log2_lt' (by decide) hc.2) (by decide))))
end
theorem mulOk {i j : Int} {m n : Nat} (hi : i.natAbs < 2 ^ m) (hj : j.natAbs < 2 ^ n) (h : m + n ≤ 100000) (hm : 0 < m) (hn : 0 < n) : CMulW i j := wide_mul hi hj hm hn (by omega)
theorem mulFF {a b : Rat} (ha : Sz LIM a) (hb : Sz LIM b) : CMulW a.num (b.den : Int) := mulOk ha.1 hb.d (by decide) (by decide) (by decide)
theorem mulNN {a b : Rat} (ha : Sz LIM a) (hb : Sz LIM b) : CMulW a.num b.num := mulOk ha.1 hb.1 (by decide) (by decide) (by decide)
theorem mulDD {a b : Rat} (ha : Sz LIM a) (hb : Sz LIM b) : CMulW (a.den : Int) (b.den : Int) := mulOk ha.d hb.d (by decide) (by decide) (by decide)
theorem mulDN {a b : Rat} (ha : Sz LIM a) (hb : Sz LIM b) : CMulW (a.den : Int) b.num := mulOk ha.d hb.1 (by decide) (by decide) (by decide)
theorem less_is {a b : Rat} : decide (a.num * (b.den : Int) < b.num * (a.den : Int)) = decide (a < b) := by
  by_cases h : a < b
  · rw [decide_eq_true h, decide_eq_true ((Rat.lt_iff a b).mp h)]
  · rw [decide_eq_false h, decide_eq_false fun z => h ((Rat.lt_iff a b).mpr z)]
def psp_two (f : Rat → Rat → Rat) (ok : Rat → Rat → Prop) : Psp := ⟨2, fun xs q => ∃ a b : Rat, xs = [.fr (dF a), .fr (dF b)] ∧ (Sz LIM a ∧ Sz LIM b ∧ ok a b) ∧ q (.fr (dF (f a b))) []⟩
def psp_less : Psp := ⟨2, fun xs q => ∃ a b : Rat, xs = [.fr (dF a), .fr (dF b)] ∧ (Sz LIM a ∧ Sz LIM b) ∧ q (.fr (.bl (decide (a < b)))) []⟩
def psp_low (C : Int → Prop) : Psp := ⟨2, fun xs q => ∃ n d : Int, xs = [.fr (.int n), .fr (.int d)] ∧ (C d ∧ n.natAbs < 2 ^ 1990 ∧ d.natAbs < 2 ^ 1990) ∧ q (.fr (dF (Rat.divInt n d))) []⟩
abbrev sp_lowest (K : PySem.W.Frag) : Sp := Lsp K (psp_low (· ≠ 0))
abbrev sp_plus (K : PySem.W.Frag) : Sp := Lsp K (psp_two (· + ·) fun _ _ => True)
abbrev sp_minus (K : PySem.W.Frag) : Sp := Lsp K (psp_two (· - ·) fun _ _ => True)
abbrev sp_times (K : PySem.W.Frag) : Sp := Lsp K (psp_two (· * ·) fun _ _ => True)
abbrev sp_over (K : PySem.W.Frag) : Sp := Lsp K (psp_two (· / ·) fun _ b => b ≠ 0)
abbrev sp_less (K : PySem.W.Frag) : Sp := Lsp K psp_less
/-! ### sums -/
def rsum (rs : List Rat) : Rat := rs.foldl (· + ·) 0
theorem rsum_take {rs : List Rat} {i : Nat} {r : Rat} (h : rs[i]? = some r) : rsum (rs.take (i + 1)) = rsum (rs.take i) + r := by
  unfold rsum
  rw [List.take_add_one, h, Option.toList_some, List.foldl_append]
  rfl
theorem sz_rsum {m : Nat} {rs : List Rat} (h : ∀ r ∈ rs, Sz m r) : ∀ i, i ≤ rs.length → Sz (i * (m + 1) + 1) (rsum (rs.take i))
  | 0, _ => by
    rw [List.take_zero]
    exact sz_zero.mono (by omega)
  | i + 1, hi => by
    have hlt : i < rs.length := hi
    have e : rs[i]? = some rs[i] := List.getElem?_eq_getElem hlt
    rw [rsum_take e]
    have := (sz_rsum h i (by omega)).add (h _ (List.getElem_mem hlt))
    refine this.mono ?_
    rw [Nat.add_mul]
    omega
theorem sz_rsumA {m n : Nat} {rs : List Rat} (h : ∀ r ∈ rs, Sz m r) (hn : rs.length * (m + 1) + 1 ≤ n) : Sz n (rsum rs) := by
  have := sz_rsum h rs.length (Nat.le_refl _)
  rw [List.take_length] at this
  exact this.mono hn
theorem foldl_add (rs : List Rat) (a : Rat) : rs.foldl (· + ·) a = a + rs.foldl (· + ·) 0 := by
  induction rs generalizing a with
  | nil => show a = a + 0; grind
  | cons r rs ih =>
    rw [List.foldl_cons, List.foldl_cons, ih (a + r), ih (0 + r)]
    grind
theorem rsum_cons (r : Rat) (rs : List Rat) : rsum (r :: rs) = r + rsum rs := by
  unfold rsum
  rw [List.foldl_cons, foldl_add]
  grind
theorem rsum_nil : rsum [] = 0 := rfl
theorem rsum_perm {a b : List Rat} (h : a.Perm b) : rsum a = rsum b := by
  induction h with
  | nil => rfl
  | cons x _ ih => rw [rsum_cons, rsum_cons, ih]
  | swap x y l => simp only [rsum_cons]; grind
  | trans _ _ h1 h2 => rw [h1, h2]
theorem rsum_app (a b : List Rat) : rsum (a ++ b) = rsum a + rsum b := by
  induction a with
  | nil => rw [List.nil_append, rsum_nil]; grind
  | cons x a ih => rw [List.cons_append, rsum_cons, rsum_cons, ih]; grind
theorem rsum_mul (c : Rat) (a : List Rat) : rsum (a.map (c * ·)) = c * rsum a := by
  induction a with
  | nil => rw [List.map_nil, rsum_nil]; grind
  | cons x a ih => rw [List.map_cons, rsum_cons, rsum_cons, ih]; grind
theorem rsum_le {α : Type} {f g : α → Rat} {a : List α} (h : ∀ x ∈ a, f x ≤ g x) : rsum (a.map f) ≤ rsum (a.map g) := by
  induction a with
  | nil => exact Rat.le_refl
  | cons x a ih =>
    rw [List.map_cons, List.map_cons, rsum_cons, rsum_cons]
    have h1 := h x List.mem_cons_self
    have h2 := ih fun y hy => h y (List.mem_cons_of_mem _ hy)
    grind
theorem sq_nn (a : Rat) : 0 ≤ a * a := by
  rcases (Rat.le_total : 0 ≤ a ∨ a ≤ 0) with h | h
  · exact Rat.mul_nonneg h h
  · have : 0 ≤ -a := by grind
    have := Rat.mul_nonneg this this
    grind
/-- a sum that stays small on its way -/
def SumOk (rs : List Rat) : Prop := (∀ r ∈ rs, Sz LIM r) ∧ ∀ i, Sz LIM (rsum (rs.take i))
theorem sumOk {rs : List Rat} (m : Nat) (h : ∀ r ∈ rs, Sz m r) (hl : rs.length * (m + 1) + 1 ≤ LIM) (hm : m ≤ LIM) : SumOk rs := by
  refine ⟨fun r hr => (h r hr).mono hm, fun i => ?_⟩
  refine sz_rsumA (m := m) (fun r hr => h r (List.mem_of_mem_take hr)) ?_
  have : (rs.take i).length * (m + 1) ≤ rs.length * (m + 1) := Nat.mul_le_mul_right _ (List.length_take_le' i rs)
  omega
def psp_sum_of : Psp := ⟨1, fun xs q => ∃ rs : List Rat, xs = [.fr (dFs rs)] ∧ SumOk rs ∧ q (.fr (dF (rsum rs))) []⟩
abbrev sp_sum_of (K : PySem.W.Frag) : Sp := Lsp K psp_sum_of
theorem sz_int {n : Nat} {w : Int} (h : w.natAbs < 2 ^ n) (hn : 0 < n) : Sz n (w : Rat) := by
  refine ⟨h, ?_⟩
  show 1 < 2 ^ n
  exact Nat.one_lt_two_pow (by omega)
theorem plN_int (n : Nat) (i : Int) : D.plN n (.int i) = true := by cases n <;> rfl
theorem pl_dF (n : Nat) (r : Rat) : D.plN (n + 1) (dF r) = true := by
  show (D.plN n (.int r.num) && (D.plN n (.int (r.den : Int)) && true)) = true
  rw [plN_int, plN_int]
  rfl
theorem pl_dFs (n : Nat) (rs : List Rat) : D.plN (n + 2) (dFs rs) = true := all_pl (pl_dF n) rs
theorem mulS {i j : Int} (hi : i.natAbs < 2 ^ 64) (hj : j.natAbs < 2 ^ 64) : CMulW i j := mulOk hi hj (by decide) (by decide) (by decide)
theorem fmodS (x : Int) {m : Int} (h : 0 < m) : 0 ≤ x.fmod m ∧ x.fmod m < m := ⟨Int.fmod_nonneg_of_pos x h, Int.fmod_lt_of_pos x h⟩
theorem dF_neg (b : Rat) : dF (-b) = .tup [.int (0 - b.num), .int (b.den : Int)] := by
  unfold dF
  rw [Rat.neg_num, Rat.neg_den, Int.zero_sub]
/-! ### keys of a dict: data of any depth (ints, texts, tuples of them) -/
mutual
def D.drw : D → Nat
  | .tup ds => D.drws ds + 1
  | .int _ => 1
  | .str _ => 1
  | .non => 0
  | .bl _ => 0
  | .lst _ => 0
  | .dic _ _ _ => 0
  | .dik _ _ => 0
  | .obj _ _ _ => 0
  | .scr _ => 0
  | .ty _ => 0
  | .opq _ => 0
  | .xv _ _ _ _ _ => 0
def D.drws : List D → Nat
  | [] => 0
  | d :: ds => d.drw + D.drws ds
end
theorem D.hk_pl : ∀ (n : Nat) {d : D}, D.hkN n d = true → D.plN n d = true
  | n, d, h => by
    cases d with
    | int i => cases n <;> rfl
    | str x => cases n <;> exact h
    | tup ds =>
      cases n with
      | zero => cases h
      | succ n =>
        show ds.all (D.plN n) = true
        rw [List.all_eq_true]
        exact fun x hx => D.hk_pl n (List.all_eq_true.mp (show ds.all (D.hkN n) = true from h) x hx)
    | _ => cases n <;> cases h
section
variable {P : Program} {w : World}
theorem pys_app : ∀ ds es : List D, D.pys (ds ++ es) = D.pys ds ++ D.pys es
  | [], _ => rfl
  | d :: ds, es => by
    show d.py :: D.pys (ds ++ es) = d.py :: (D.pys ds ++ D.pys es)
    rw [pys_app ds es]
theorem hashes_app : ∀ ds es : List D, D.hashes w (ds ++ es) = D.hashes w ds ++ D.hashes w es
  | [], _ => rfl
  | d :: ds, es => by
    show d.hash w :: D.hashes w (ds ++ es) = d.hash w :: (D.hashes w ds ++ D.hashes w es)
    rw [hashes_app ds es]
theorem drws_app : ∀ ds es : List D, D.drws (ds ++ es) = D.drws ds + D.drws es
  | [], _ => (Nat.zero_add _).symm
  | d :: ds, es => by
    show d.drw + D.drws (ds ++ es) = d.drw + D.drws ds + D.drws es
    rw [drws_app ds es, Nat.add_assoc]
theorem hash_run : ∀ (n : Nat) {A : Around} {E : Value → Shared → Prop} {s : Shared} {d : D} {v : Value} {as : List Addr} {Q : Int → Shared → Prop}, A.units + n < cLine → D.hkN n d = true → Reads s.heap v d.py as → Q (d.hash w) { s with toks := s.toks + d.drw } →
    wpAny (model P w) A (pyHash v) Q E s
  | n, A, E, s, d, v, as, Q, hu, hk, r, q => by
    cases d with
    | int i =>
      cases r
      rename_i t
      exact (mixKind P w).pyHash (k := .inl i) (by simp [mixKind, keyIs, Value.isInt]) q
    | str x =>
      cases r
      rename_i t
      exact (mixKind P w).pyHash (k := .inr x) (by simp [mixKind, keyIs, Value.isStrOf]) q
    | tup ds =>
      cases n with
      | zero => cases hk
      | succ n =>
        have hk : ds.all (D.hkN n) = true := hk
        cases r with
        | @tuple a o vs m _ _ ho hc hd hi =>
        have hT : s.TypeIs (.ref a) "tuple" := ⟨o, ho, hc⟩
        unfold pyHash
        first | unfold pyHashByItsType | skip
        first | refine wpAny_bind (wpAny_cRoomFor_or (.inr (by omega)) ?_) | skip
        refine wpAny_bind (wpAny_specialOf hT PySem.F.slot_tuple_hash.lookup ?_)
        show wpAny _ _ (if (some (Value.builtin "tuple.__hash__") == some Value.none) = true then _ else _) Q E s
        rw [if_neg (by rw [beq_builtin_none]; exact Bool.false_ne_true)]
        refine wpAny_bind (wpAny_specialOf hT PySem.F.slot_tuple_hash.lookup ?_)
        show wpAny _ _ (callSpecialIfBoundUnlessNone? (.ref a) "__hash__" _ >>= _) Q E s
        refine wpAny_bind (wpAny_callSpecialIfBoundUnlessNone?_slot hT PySem.F.slot_tuple_hash (wpAny_call_entry PySem.F.slot_tuple_hash hT PySem.F.entry_tuple_hash ?_ (PySem.F.args_tuple_hash_1 _)))
        show wpAny _ _ (Builtin.Tuple.tupleItemsOf (.ref a) >>= _) _ _ s
        refine wpAny_bind (wpAny_tupleItemsOf ho hd ?_)
        refine wpAny_bind ?_
        rw [← Array.forIn_toList]
        refine wpAny_forIn_list _
          (fun rest (b : Array Int) s' => ∃ (dn lf : List D) (bs : List Addr), ds = dn ++ lf ∧ ReadsAll s.heap rest (D.pys lf) bs ∧ b.toList = D.hashes w dn ∧ s' = { s with toks := s.toks + D.drws dn })
          _ ?_ ?_ _ _ ⟨[], ds, _, rfl, hi, rfl, rfl⟩
        · rintro x rest b s' ⟨dn, lf, bs, rfl, hl, hb, rfl⟩
          cases lf with
          | nil => cases hl
          | cons e lf =>
          cases hl with
          | cons h1 hl' =>
            have hke : D.hkN n e = true := List.all_eq_true.mp hk e (List.mem_append_right _ List.mem_cons_self)
            have fin : ∃ (dn' lf' : List D) (bs : List Addr), dn ++ e :: lf = dn' ++ lf' ∧ ReadsAll s.heap rest (D.pys lf') bs ∧ (b.push (e.hash w)).toList = D.hashes w dn' ∧ ({ s with toks := s.toks + D.drws dn + e.drw } : Shared) = { s with toks := s.toks + D.drws dn' } :=
              ⟨dn ++ [e], lf, _, by simp, hl', by rw [hashes_app, Array.toList_push, hb]; rfl, by rw [drws_app]; show _ = ({ s with toks := s.toks + (D.drws dn + (e.drw + 0)) } : Shared); rw [Nat.add_zero, Nat.add_assoc]⟩
            refine wpAny_bind (hash_run n (d := e) ?_ hke h1 ?_)
            · show A.units + 1 + n < cLine
              omega
            first
              | exact wpAny_pure fin
              | exact wpAny_bind (wpAny_pure (wpAny_pure fin))
        · rintro b s' ⟨dn, lf, bs, rfl, hl, hb, rfl⟩
          cases lf with
          | cons e lf => cases hl
          | nil =>
          rw [List.append_nil] at q
          show wpAny _ _ (retInt (Builtin.Tuple.tupleHashOf b.toList)) _ _ _
          rw [hb]
          refine wpAny_ret_mkInt ?_
          show wpAny _ _ (if (decide (-(2 : Int) ^ 63 ≤ Builtin.Tuple.tupleHashOf (D.hashes w dn)) && decide (Builtin.Tuple.tupleHashOf (D.hashes w dn) < 2 ^ 63)) = true then _ else _) Q E _
          have q : Q (reduceHash (Builtin.Tuple.tupleHashOf (D.hashes w dn))) { s with toks := s.toks + (D.drws dn + 1) } := q
          unfold reduceHash at q
          by_cases hr : (decide (-(2 : Int) ^ 63 ≤ Builtin.Tuple.tupleHashOf (D.hashes w dn)) && decide (Builtin.Tuple.tupleHashOf (D.hashes w dn) < 2 ^ 63)) = true
          · rw [if_pos hr]
            rw [if_pos hr] at q
            exact wpAny_pure (by simpa [Nat.add_assoc] using q)
          · rw [if_neg hr]
            rw [if_neg hr] at q
            exact wpAny_bind (wpAny_rule (wpAny_pure (by simpa [Nat.add_assoc] using q)))
    | _ => cases n <;> cases hk
theorem quiet_run : ∀ (n m : Nat) {A : Around} {E : Value → Shared → Prop} {s : Shared} {d : D} {v : Value} {as : List Addr} {Q : Bool → Shared → Prop}, n ≤ m → D.hkN n d = true → Reads s.heap v d.py as → Q true s →
    wpAny (model P w) A (eqIsQuiet m v) Q E s
  | n, m, A, E, s, d, v, as, Q, hm, hk, r, q => by
    cases d with
    | int i =>
      cases r
      rw [eqIsQuiet_byValue _ rfl]
      exact wpAny_pure q
    | str x =>
      cases r
      rw [eqIsQuiet_byValue _ rfl]
      exact wpAny_pure q
    | tup ds =>
      cases n with
      | zero => cases hk
      | succ n =>
      cases m with
      | zero => omega
      | succ m =>
        have hk : ds.all (D.hkN n) = true := hk
        cases r with
        | @tuple a o vs k _ _ ho hc hd hi =>
        have hT : s.TypeIs (.ref a) "tuple" := ⟨o, ho, hc⟩
        unfold eqIsQuiet
        refine wpAny_bind (wpAny_specialOf hT PySem.F.slot_tuple_eq.lookup ?_)
        show wpAny _ _ (isInstance (.ref a) (.type "tuple") >>= _) _ _ s
        refine wpAny_bind (wpAny_isInstance hT isSubtype_tuple_tuple ?_)
        simp only [Bool.not_true, Bool.false_eq_true, if_false]
        refine wpAny_bind (wpAny_seqItems ho hd ?_)
        refine wpAny_bind ?_
        show wpAny _ _ (forIn vs _ _) _ _ s
        rw [← Array.forIn_toList]
        refine wpAny_forIn_list _ (fun rest r s' => r.1 = none ∧ s' = s ∧ ∃ (lf : List D) (bs : List Addr), lf.all (D.hkN n) = true ∧ ReadsAll s.heap rest (D.pys lf) bs) _ ?_ ?_ _ _ ⟨rfl, rfl, ds, _, hk, hi⟩
        · rintro x rest r s' ⟨hr, rfl, lf, bs, hk', hl⟩
          cases lf with
          | nil => cases hl
          | cons e lf =>
          cases hl with
          | cons h1 hl' =>
            have hh := Bool.and_eq_true_iff.mp (show (D.hkN n e && lf.all (D.hkN n)) = true from hk')
            refine wpAny_bind (quiet_run n m (by omega) hh.1 h1 ?_)
            simp only [Bool.not_true, Bool.false_eq_true, if_false]
            exact wpAny_pure ⟨rfl, rfl, lf, _, hh.2, hl'⟩
        · rintro ⟨r1, r2⟩ s' ⟨hr, rfl, _⟩
          simp only at hr
          subst hr
          exact wpAny_pure q
    | _ => cases n <;> cases hk
theorem D.py_lay : ∀ (n : Nat) {d : D}, D.plN n d = true → d.py.canLay0 = true ∧ d.py.depth ≤ n
  | n, d, h => by
    have hall : ∀ {m : Nat} {ds : List D}, (∀ x ∈ ds, x.py.canLay0 = true ∧ x.py.depth ≤ m) → PyData.canLayAll0 (D.pys ds) = true ∧ PyData.depthAll (D.pys ds) ≤ m := by
      intro m ds
      induction ds with
      | nil => exact fun _ => ⟨rfl, Nat.zero_le _⟩
      | cons x ds ih =>
        intro hx
        obtain ⟨a, b⟩ := hx x List.mem_cons_self
        obtain ⟨c, e⟩ := ih fun y hy => hx y (List.mem_cons_of_mem _ hy)
        exact ⟨Bool.and_eq_true_iff.mpr ⟨a, c⟩, Nat.max_le.mpr ⟨b, e⟩⟩
    cases d with
    | non => exact ⟨rfl, Nat.zero_le _⟩
    | int i => exact ⟨rfl, Nat.zero_le _⟩
    | str x => exact ⟨by cases n <;> exact h, Nat.zero_le _⟩
    | lst ds =>
      cases n with
      | zero => cases h
      | succ n =>
        obtain ⟨a, b⟩ := hall fun x hx => D.py_lay n (List.all_eq_true.mp (show ds.all (D.plN n) = true from h) x hx)
        exact ⟨a, Nat.succ_le_succ b⟩
    | tup ds =>
      cases n with
      | zero => cases h
      | succ n =>
        obtain ⟨a, b⟩ := hall fun x hx => D.py_lay n (List.all_eq_true.mp (show ds.all (D.plN n) = true from h) x hx)
        exact ⟨a, Nat.succ_le_succ b⟩
    | _ => cases n <;> cases h
theorem reads_same : ∀ (n : Nat) {h h' : Heap} {d : D} {v : Value} {as : List Addr} {b : Addr} {o : Obj} {es ep}, D.hkN n d = true → Reads h v d.py as → h.get? b = some o → o.data = .dict es ep → Heap.SameBut b h h' → Reads h' v d.py as
  | n, h, h', d, v, as, b, o, es, ep, hk, r, hb, hd, hs => by
    have hall : ∀ {m : Nat} {ds : List D} {vs : List Value} {as : List Addr}, (∀ x ∈ ds, ∀ {v as}, Reads h v x.py as → Reads h' v x.py as) → ReadsAll h vs (D.pys ds) as → ReadsAll h' vs (D.pys ds) as := by
      intro m ds
      induction ds with
      | nil => intro vs as _ r; cases r; exact .nil
      | cons x ds ih =>
        intro vs as hx r
        cases r with
        | cons r1 r2 => exact .cons (hx x List.mem_cons_self r1) (ih (fun y hy => hx y (List.mem_cons_of_mem _ hy)) r2)
    cases d with
    | int i => cases r; exact .int _ _
    | str x => cases r; exact .str _ _
    | tup ds =>
      cases n with
      | zero => cases hk
      | succ n =>
        cases r with
        | @tuple a o' vs k _ _ ho hc hd' hi =>
          have hne : a ≠ b := by
            rintro rfl
            obtain rfl : o' = o := Option.some.inj (ho.symm.trans hb)
            rw [hd] at hd'
            cases hd'
          exact .tuple ((hs.2 a hne).trans ho) hc hd' (hall (m := n) (fun x hx {v as} r => reads_same n (List.all_eq_true.mp (show ds.all (D.hkN n) = true from hk) x hx) r hb hd hs) hi)
    | _ => cases n <;> cases hk
noncomputable instance decD : DecidableEq D := fun _ _ => Classical.propDecidable _
theorem hk_eqv {n : Nat} {d e : D} (h1 : D.hkN n d = true) (h2 : D.hkN n e = true) : PyData.eqv d.py e.py = decide (d = e) := by
  by_cases h : d = e
  · rw [decide_eq_true h]
    exact (eqv_iff n (D.hk_pl n h1) (D.hk_pl n h2)).mpr h
  · rw [decide_eq_false h]
    exact Bool.eq_false_iff.mpr fun z => h ((eqv_iff n (D.hk_pl n h1) (D.hk_pl n h2)).mp z)
noncomputable def dataKind (P : Program) (w : World) : HeapKind P w D where
  is := fun h d a => D.hkN 6 d = true ∧ ∃ as, Reads h (.ref a) d.py as
  hash := D.hash w
  draws := D.drw
  room := fun A => A.units + 8 < cLine
  inj := fun {h a x y} hx hy => by
    obtain ⟨h1, as, r1⟩ := hx
    obtain ⟨h2, bs, r2⟩ := hy
    have e := SeqAt.Reads.unique _ _ _ _ _ (D.py_lay 6 (D.hk_pl 6 h1)).1 r1 r2
    have q := hk_eqv h1 h1
    rw [decide_eq_true rfl] at q
    rw [e] at q
    have q2 := hk_eqv h2 h1
    rw [e, q] at q2
    exact (of_decide_eq_true q2.symm).symm
  keeps := fun x ho hd hs => ⟨x.1, by
    obtain ⟨h1, as, r⟩ := x
    exact ⟨as, reads_same 6 h1 r ho hd hs⟩⟩
  pyHash := fun hu hk q => by
    obtain ⟨h1, as, r⟩ := hk
    exact hash_run 6 (by omega) h1 r q
  eqBool := fun {A E s x y a b Q} hu hx hy q => by
    obtain ⟨h1, as, r1⟩ := hx
    obtain ⟨h2, bs, r2⟩ := hy
    have l1 := D.py_lay 6 (D.hk_pl 6 h1)
    have l2 := D.py_lay 6 (D.hk_pl 6 h2)
    have hm : min x.py.depth y.py.depth ≤ 6 := Nat.le_trans (Nat.min_le_left _ _) l1.2
    refine SeqAt.eqAt_reads x.py y.py A s _ _ as bs r1 r2 l1.1 l2.1 (by omega) P w E Q ?_
    rw [hk_eqv h1 h2]
    exact q
  quiet := fun hk q => by
    obtain ⟨h1, as, r⟩ := hk
    exact quiet_run 6 8 (by decide) h1 r q
end
/-! ### dicts whose keys are data (tuples) -/
noncomputable def valN {α : Type} (ws : List (D × α × V)) (d : D) : Option V := (ws.find? fun p => decide (p.1 = d)).map (·.2.2)
noncomputable def putN (ws : List (D × Addr × V)) (d : D) (b : Addr) (v : V) : List (D × Addr × V) :=
  if (ws.any fun p => decide (p.1 = d)) = true then ws.map (fun p => if p.1 = d then (p.1, p.2.1, v) else p) else ws ++ [(d, b, v)]
abbrev KN : List (D × Addr × V) → List (D × Addr × Value) → Prop := Paired fun p q => p.1 = q.1 ∧ p.2.1 = q.2.1 ∧ RelV p.2.2 q.2.2
def KeyN (K : PySem.W.Frag) (H : Hp) (d : D) (b : Addr) : Prop := D.hkN 6 d = true ∧ Dp K H (.ref b) d.py
def IsN (w : World) (K : PySem.W.Frag) (H : Hp) (a : Addr) (ws : List (D × Addr × V)) : Prop := H a = some (dnO w a ws) ∧ ∀ p ∈ ws, KeyN K H p.1 p.2.1
theorem KN.val {ws : List (D × Addr × V)} {xs : List (D × Addr × Value)} (r : KN ws xs) (k : D) : RelO (valN ws k) ((atKey xs k).map (·.2)) := by
  induction r with
  | nil => exact True.intro
  | @cons p q ps qs h t ih =>
    obtain ⟨h1, _, h2⟩ := h
    by_cases e : p.1 = k
    · have e' : q.1 = k := h1.symm.trans e
      have a : valN (p :: ps) k = some p.2.2 := by simp [valN, List.find?_cons, e]
      have b : atKey (q :: qs) k = some q.2 := by simp [atKey, List.find?_cons, e']
      rw [a, b]; exact h2
    · have e' : ¬ q.1 = k := fun z => e (h1.trans z)
      have a : valN (p :: ps) k = valN ps k := by simp [valN, List.find?_cons, e]
      have b : atKey (q :: qs) k = atKey qs k := by simp [atKey, List.find?_cons, e']
      rw [a, b]; exact ih
theorem KN.mem {ws : List (D × Addr × V)} {xs : List (D × Addr × Value)} (r : KN ws xs) {x : D × Addr × Value} (hx : x ∈ xs) : ∃ p ∈ ws, p.1 = x.1 ∧ p.2.1 = x.2.1 := by
  induction r with
  | nil => cases hx
  | @cons p q ps qs h t ih =>
    rcases List.mem_cons.mp hx with rfl | hx
    · exact ⟨p, List.mem_cons_self, h.1, h.2.1⟩
    · obtain ⟨p', h1, h2⟩ := ih hx
      exact ⟨p', List.mem_cons_of_mem _ h1, h2⟩
theorem valN_any (ws : List (D × Addr × V)) (k : D) : (ws.any fun p => decide (p.1 = k)) = (valN ws k).isSome := by
  induction ws with
  | nil => rfl
  | cons p ps ih =>
    by_cases e : p.1 = k
    · simp [valN, List.find?_cons, e]
    · rw [List.any_cons, decide_eq_false e, Bool.false_or, ih]
      simp [valN, List.find?_cons, e]
theorem KN.put {ws : List (D × Addr × V)} {xs : List (D × Addr × Value)} (r : KN ws xs) (k : D) {b : Addr} {y : V} {u : Value} (ry : RelV y u) : KN (putN ws k b y) (storedH xs k b u) := by
  have e : (ws.any fun p => decide (p.1 = k)) = (atKey xs k).isSome := by
    rw [valN_any, (r.val k).isSome_eq, Option.isSome_map]
  unfold putN storedH
  rw [e]
  by_cases q : (atKey xs k).isSome = true
  · rw [if_pos q, if_pos q]
    clear e q
    induction r with
    | nil => exact .nil
    | @cons p q ps qs h t ih =>
      rw [List.map_cons, List.map_cons]
      refine .cons ?_ ih
      obtain ⟨h1, h2, h3⟩ := h
      unfold putAt
      by_cases e : p.1 = k
      · rw [if_pos e, if_pos (h1.symm.trans e)]; exact ⟨h1, h2, ry⟩
      · rw [if_neg e, if_neg (fun z => e (h1.trans z))]; exact ⟨h1, h2, h3⟩
  · rw [if_neg q, if_neg q]
    exact Paired.snoc r ⟨rfl, rfl, ry⟩
theorem putN_len (ws : List (D × Addr × V)) (k : D) (b : Addr) (v : V) : (putN ws k b v).length ≤ ws.length + 1 := by
  unfold putN
  split
  · rw [List.length_map]; omega
  · rw [List.length_append, List.length_singleton]; omega
theorem dn_ok {P : Program} {w : World} {H : Hp} {h : Heap} {a : Addr} {ws : List (D × Addr × V)} {xs : List (D × Addr × Value)} (z : ws.length ≤ sizeLine) (hd : (a == sysModules) = false) (rel : KN ws xs) (dd : h.DictOfH (dataKind P w) a xs) :
    ObjOk P w H h a (dnO w a ws) := by
  obtain ⟨o, es, ep, hq, h2, h3, h4, _, h5⟩ := dd
  exact ⟨⟨z, hd, xs, rel, o, es, ep, hq, h2, h3, h4, h5⟩, ⟨o, hq⟩, fun h1 h2 x k => let ⟨z, hd, xs, rel, o, es, ep, hq, r⟩ := x; ⟨z, hd, xs, rel, o, es, ep, k o hq, r⟩⟩
section
variable {X : Cx} {pins : List (Addr × Obj)} {σ : L2.St} {H : Hp} {s : Shared} {a b : Addr} {ws : List (D × Addr × V)} {d : D} {u r : Value} {v : V} {A : Around} {E : Value → Shared → Prop}
theorem KeyN.is (I : Inv X pins σ H s) (h : KeyN X.K H d b) : (dataKind X.prog X.w).is s.heap d b := ⟨h.1, Dp.reads I _ _ _ h.2 rfl⟩
theorem dn_at (I : Inv X pins σ H s) (h : IsN X.w X.K H a ws) : ws.length ≤ sizeLine ∧ (a == sysModules) = false ∧ ∃ xs, KN ws xs ∧ s.heap.DictOfH (dataKind X.prog X.w) a xs := by
  obtain ⟨⟨z, hd, xs, rel, o, es, ep, hq, h2, h3, h4, h5⟩, _⟩ := (show ObjOk X.prog X.w H s.heap a (dnO X.w a ws) from I.hok a _ h.1)
  refine ⟨z, hd, xs, rel, o, es, ep, hq, h2, h3, h4, fun x hx => ?_, h5⟩
  obtain ⟨p, hp, e1, e2⟩ := KN.mem rel hx
  have := (h.2 p hp).is I
  rw [e1, e2] at this
  exact this
theorem room8 (hu : A.units + 9 < cLine) : (dataKind X.prog X.w).room A.in1 := by
  show A.units + 1 + 8 < cLine
  omega
theorem dn_get {Q : Value → Shared → Prop} (hu : A.units + 9 < cLine) (I : Inv X pins σ H s) (g : IsN X.w X.K H a ws) (k : KeyN X.K H d b) (l : valN ws d = some v) (h : ∀ w' s', Inv X pins σ H s' → RelV v w' → Q w' s') :
    wpAny (model X.prog X.w) A (getItem (.ref a) (.ref b)) Q E s := by
  obtain ⟨z, hd, xs, rel, dd⟩ := dn_at I g
  obtain ⟨w', hw, rw'⟩ := RelO.some_of (v := v) (o := (atKey xs d).map (·.2)) (by rw [← l]; exact rel.val d)
  obtain ⟨p, hp, hp2⟩ := Option.map_eq_some_iff.mp hw
  refine wpAny_getItem_heap (room8 hu) (k.is I) dd hp ?_
  rw [hp2]
  exact h w' _ (I.tok _) rw'
theorem dn_in {Q : Value → Shared → Prop} (hu : A.units + 9 < cLine) (I : Inv X pins σ H s) (g : IsN X.w X.K H a ws) (k : KeyN X.K H d b) (h : ∀ s', Inv X pins σ H s' → Q (.bool (valN ws d).isSome) s') :
    wpAny (model X.prog X.w) A (compareOp .In (.ref b) (.ref a)) Q E s := by
  obtain ⟨z, hd, xs, rel, dd⟩ := dn_at I g
  refine wpAny_in_heap (room8 hu) (k.is I) hd dd ?_
  have q := (rel.val d).isSome_eq
  rw [Option.isSome_map] at q
  rw [← q]
  exact h _ (I.tok _)
theorem dn_notIn {Q : Value → Shared → Prop} (hu : A.units + 9 < cLine) (I : Inv X pins σ H s) (g : IsN X.w X.K H a ws) (k : KeyN X.K H d b) (h : ∀ s', Inv X pins σ H s' → Q (.bool (!(valN ws d).isSome)) s') :
    wpAny (model X.prog X.w) A (compareOp .NotIn (.ref b) (.ref a)) Q E s := by
  obtain ⟨z, hd, xs, rel, dd⟩ := dn_at I g
  refine wpAny_notIn_heap (room8 hu) (k.is I) hd dd ?_
  have q := (rel.val d).isSome_eq
  rw [Option.isSome_map] at q
  rw [← q]
  exact h _ (I.tok _)
theorem dn_set {Q : Unit → Shared → Prop} (hu : A.units + 9 < cLine) (I : Inv X pins σ H s) (g : IsN X.w X.K H a ws) (k : KeyN X.K H d b) (hl : ws.length < sizeLine) (rv : RelV v r)
    (h : ∀ s', Inv X pins σ (upd H a (dnO X.w a (putN ws d b v))) s' → Q () s') : wpAny (model X.prog X.w) A (setItem (.ref a) (.ref b) r) Q E s := by
  obtain ⟨z, hd, xs, rel, dd⟩ := dn_at I g
  have hz : xs.length ≤ sizeLine := by rw [← Paired.length rel]; exact z
  have hl2 : (putN ws d b v).length ≤ sizeLine := by have := putN_len ws d b v; omega
  refine wpAny_setItem_heap (hsz := hz) (room8 hu) (k.is I) dd fun h' dd' hs => h _ ?_
  have he : ∃ q, h'.get? a = some q := let ⟨q, _, _, hq, _⟩ := dd'; ⟨q, hq⟩
  exact d_write I (by rw [g.1]; exact True.intro) hs he (dn_ok hl2 hd (rel.put d rv) dd')
theorem dn_get2 {dv : V} {Q : Value → Shared → Prop} (hu : A.units + 9 < cLine) (I : Inv X pins σ H s) (g : IsN X.w X.K H a ws) (k : KeyN X.K H d b) (rd : RelV dv r) (h : ∀ w' s', Inv X pins σ H s' → RelV ((valN ws d).getD dv) w' → Q w' s') :
    wpAny (model X.prog X.w) A (call (.builtin "dict.get") [.ref a, .ref b, r]) Q E s := by
  obtain ⟨z, hd, xs, rel, dd⟩ := dn_at I g
  refine call_meetsIn PySem.F.slot_dict_get dd.typeIs PySem.F.entry_dict_get (PySem.F.args_dict_get_3 _ _ _) (meetsH_dict_get_default (dataKind X.prog X.w) a b hd r) ⟨room8 hu, d, xs, k.is I, dd, h _ _ (I.tok _) ?_⟩
  exact (rel.val d).getD rd
theorem dn_typeIs (I : Inv X pins σ H s) (g : IsN X.w X.K H a ws) : s.TypeIs (.ref a) "dict" ∧ (∀ b, Value.ref a = .ref b → ∃ ob, s.heap.get? b = some ob ∧ ob.dict = none) ∧ (a == sysModules) = false := by
  obtain ⟨_, hd, xs, _, dd⟩ := dn_at I g
  refine ⟨dd.typeIs, fun b q => ?_, hd⟩
  cases q
  obtain ⟨ob, _, _, h1, h2, _⟩ := dd
  exact ⟨ob, h1, h2.2.1⟩
end
def tDnNew (w : World) : TE := fun _ H Q => ∀ p, H p = none → Q (.ref p) (upd H p (dnO w p []))
def tDnGet (w : World) (K : PySem.W.Frag) (td ty : TE) : TE := fun σ H Q => td σ H fun x H1 => ty σ H1 fun y H2 => ∃ a b ws d v, x = .ref a ∧ y = .ref b ∧ IsN w K H2 a ws ∧ KeyN K H2 d b ∧ valN ws d = some v ∧ Q v H2
def tDnIn (w : World) (K : PySem.W.Frag) (ty td : TE) : TE := fun σ H Q => ty σ H fun y H1 => td σ H1 fun x H2 => ∃ a b ws d, x = .ref a ∧ y = .ref b ∧ IsN w K H2 a ws ∧ KeyN K H2 d b ∧ Q (.bl (valN ws d).isSome) H2
def tDnNotIn (w : World) (K : PySem.W.Frag) (ty td : TE) : TE := fun σ H Q => ty σ H fun y H1 => td σ H1 fun x H2 => ∃ a b ws d, x = .ref a ∧ y = .ref b ∧ IsN w K H2 a ws ∧ KeyN K H2 d b ∧ Q (.bl (!(valN ws d).isSome)) H2
def sDnPut (w : World) (K : PySem.W.Frag) (td ty tv : TE) : TS := fun D σ H => tv σ H fun v H1 => td σ H1 fun x H2 => ty σ H2 fun y H3 => ∃ a b ws d, x = .ref a ∧ y = .ref b ∧ IsN w K H3 a ws ∧ KeyN K H3 d b ∧ ws.length < sizeLine ∧ D.nx σ (upd H3 a (dnO w a (putN ws d b v)))
def tDnGet2 (w : World) (K : PySem.W.Frag) (td ty tx : TE) : TE := fun σ H Q => td σ H fun x H1 => ∃ a ws0, x = .ref a ∧ IsN w K H1 a ws0 ∧ ty σ H1 fun y H2 => tx σ H2 fun z H3 => ∃ b ws d, y = .ref b ∧ IsN w K H3 a ws ∧ KeyN K H3 d b ∧ Q ((valN ws d).getD z) H3
section
variable {X : Cx} {o i e f value : Expr} {pos pos' apos cpos : Pos} {td ty tv tx : TE}
theorem pe_dnNew : PE X (.Dict [] [] pos) (tDnNew X.w) := ⟨fun pins s σ H Q I h =>
  wpAny_Dict_empty ⟨.ref s.heap.objs.size, _, I.laid (a := s.heap.objs.size) (o := dnO X.w s.heap.objs.size []) (t' := s.toks) (fun _ _ q => Heap.get?_push_of_some _ q) (Nat.le_refl _)
    (dn_ok (P := X.prog) (Nat.zero_le _) (beq_eq_false_iff_ne.mpr (Ne.symm (Nat.ne_of_lt I.big))) .nil (Heap.DictOfH.new (knd := dataKind X.prog X.w) s.heap)), rfl, h _ (I.hok.fresh (Nat.le_refl _))⟩⟩
theorem pe_dnGet (hu : X.A.units + 9 < cLine) (ho : PE X o td) (hi : PE X i ty) (hs : NoSl i) : PE X (.Subscript o i pos) (tDnGet X.w X.K td ty) := by
  refine ⟨fun pins s σ H Q I h => ?_⟩
  refine subD_of PySem.F.slot_dict_getitem.lookup hs (thn (ho.run pins s σ H _ I h) fun u s1 ⟨x, H1, I1, rx, q1⟩ => thn (hi.run pins s1 σ H1 _ I1 q1) fun iv s2 ⟨y, H2, I2, ry, a, b, ws, d, v, ex, ey, g, k, l, q2⟩ => ?_)
  subst ex ey
  obtain rfl : u = Value.ref a := rx
  obtain rfl : iv = Value.ref b := ry
  exact ⟨(dn_typeIs I2 g).1, dn_get hu I2 g k l fun w' s3 I3 rw' => ⟨v, H2, I3, rw', q2⟩⟩
theorem pc_dnIn (hu : X.A.units + 9 < cLine) (hi : PE X i ty) (ho : PE X o td) : PC X .In i o (tDnIn X.w X.K ty td) := by
  refine ⟨fun pins s σ H Q I h => ?_⟩
  refine thn (hi.run pins s σ H _ I h) fun iv s1 ⟨y, H1, I1, ry, q1⟩ => thn (ho.run pins s1 σ H1 _ I1 q1) fun u s2 ⟨x, H2, I2, rx, a, b, ws, d, ex, ey, g, k, q2⟩ => ?_
  subst ex ey
  obtain rfl : u = Value.ref a := rx
  obtain rfl : iv = Value.ref b := ry
  exact dn_in hu I2 g k fun s3 I3 => ⟨.bl (valN ws d).isSome, H2, I3, rfl, q2⟩
theorem pc_dnNotIn (hu : X.A.units + 9 < cLine) (hi : PE X i ty) (ho : PE X o td) : PC X .NotIn i o (tDnNotIn X.w X.K ty td) := by
  refine ⟨fun pins s σ H Q I h => ?_⟩
  refine thn (hi.run pins s σ H _ I h) fun iv s1 ⟨y, H1, I1, ry, q1⟩ => thn (ho.run pins s1 σ H1 _ I1 q1) fun u s2 ⟨x, H2, I2, rx, a, b, ws, d, ex, ey, g, k, q2⟩ => ?_
  subst ex ey
  obtain rfl : u = Value.ref a := rx
  obtain rfl : iv = Value.ref b := ry
  exact dn_notIn hu I2 g k fun s3 I3 => ⟨.bl (!(valN ws d).isSome), H2, I3, rfl, q2⟩
theorem ps_dnPut (hu : X.A.units + 9 < cLine) (ho : PE X o td) (hi : PE X i ty) (hv : PE X value tv) (hs : swapsWith value (some (.Subscript o i pos')) pos.line X.env = pure false) :
    PS X (.Assign [.Subscript o i pos'] value pos) (sDnPut X.w X.K td ty tv) := by
  refine ⟨fun pins s σ H D I h => ?_⟩
  refine wpAny_Assign_Subscript (thn (hv.run pins s σ H _ I h) fun r s1 ⟨v, H1, I1, rv, q1⟩ => thn (ho.run pins s1 σ H1 _ I1 q1) fun u s2 ⟨x, H2, I2, rx, q2⟩ => thn (hi.run pins s2 σ H2 _ I2 q2) fun iv s3 ⟨y, H3, I3, ry, a, b, ws, d, ex, ey, g, k, l, q3⟩ => ?_) hs
  subst ex ey
  obtain rfl : u = Value.ref a := rx
  obtain rfl : iv = Value.ref b := ry
  exact dn_set hu I3 g k l rv fun s4 I4 => ⟨σ, _, I4, q3⟩
theorem pe_dnGet2 (hu : X.A.units + 9 < cLine) (ho : PE X o td) (he : PE X e ty) (hf : PE X f tx) (m : M2 X o "get" apos e f cpos) : PE X (.Call (.Attribute o "get" apos) [e, f] [] cpos) (tDnGet2 X.w X.K td ty tx) := by
  refine ⟨fun pins s σ H Q I h => ?_⟩
  refine wpAny_Call_method m.base m.few m.line PySem.F.plainAttrs_dict PySem.F.slot_dict_get PySem.F.type_dict_get (thn (ho.run pins s σ H _ I h) fun u s1 ⟨x, H1, I1, rx, a, ws0, ex, g0, q1⟩ => ?_)
  subst ex
  obtain rfl : u = Value.ref a := rx
  obtain ⟨t1, t2, _⟩ := dn_typeIs I1 g0
  refine ⟨t1, t2, ?_⟩
  rw [m.trees]
  refine Calls.callWith_builtin rfl (Calls.evalArgs_plain (Calls.spliced_cons (thn (he.run pins s1 σ H1 _ I1 q1) fun iv s2 ⟨y, H2, I2, ry, q2⟩ =>
    Calls.spliced_cons (thn (hf.run pins s2 σ H2 _ I2 q2) fun fv s3 ⟨z, H3, I3, rz, b, ws, d, ey, g, k, q3⟩ => Calls.spliced_nil ?_))))
  subst ey
  obtain rfl : iv = Value.ref b := ry
  exact dn_get2 hu I3 g k rz fun w' s4 I4 rw' => ⟨_, H3, I4, rw', q3⟩
end
/-! ### list(d), sorted(d), a dict of data keys -/
section
variable {prog : Program} {w : World} {d : Addr} {es : Array DictEntry} {ep : Nat}
theorem kdl_raw (lo : (d == sysModules) = false) : PySem.W.KdlSrc prog w "dict" d d es.size (fun i v => ∃ hi : i < es.size, v = es[i].key) (fun h => h.DictRaw d es ep) where
  type := fun _ hm => hm.typeIs
  there := fun _ hm => let ⟨_, ho, _⟩ := hm; ⟨Heap.lt_size ho, Heap.lt_size ho⟩
  keep := fun _ _ hm hk => hm.at fun o e => hk d (.inl rfl) o e
  notList := by decide
  notTuple := by decide
  hint := fun _ _ _ _ hm hq => PySem.W.kdl_hint_dict hm.typeIs hq
  iter := fun _ s hh hm => ⟨_, _, (fun _ _ hq => wpAny_pyIter_dict_raw lo hm hq), Walks.rawKeys hh _ d (let ⟨_, ho, _⟩ := hm; Nat.ne_of_lt (Heap.lt_size ho)) es ep, ⟨⟨_, Heap.get?_push_size _ rfl, rfl, rfl⟩, hm.at fun o e => Heap.get?_push_of_some _ e⟩⟩
end
section
variable {X : Cx} {pins : List (Addr × Obj)} {σ : L2.St} {H : Hp} {s : Shared} {a : Addr} {ws : List (D × Addr × V)}
theorem KN.get {ws : List (D × Addr × V)} {xs : List (D × Addr × Value)} (r : KN ws xs) {i : Nat} {y : D × Addr × Value} (h : xs[i]? = some y) : ∃ p, ws[i]? = some p ∧ p.2.1 = y.2.1 := by
  induction r generalizing i with
  | nil => simp at h
  | @cons p q ps qs h1 t ih =>
    cases i with
    | zero =>
      simp at h
      subst h
      exact ⟨p, rfl, h1.2.1⟩
    | succ i => exact ih (by simpa using h)
theorem pair_reads {h : Heap} {b : Addr} {i j : Int} {as : List Addr} (r : Reads h (.ref b) (D.py (.tup [.int i, .int j])) as) : Srt.IsPair h (.ref b) i j := by
  cases r with
  | @tuple a o vs n _ _ ho hc hd hi =>
    obtain ⟨l⟩ := vs
    cases hi with
    | cons r1 hi =>
      cases r1
      cases hi with
      | cons r2 hi =>
        cases r2
        cases hi
        exact ⟨_, o, _, _, n, rfl, ho, hc, hd⟩
theorem dn_raw (I : Inv X pins σ H s) (h : IsN X.w X.K H a ws) : ws.length ≤ sizeLine ∧ (a == sysModules) = false ∧ ∃ es ep, s.heap.DictRaw a es ep ∧ es.size = ws.length ∧ ∀ i (hi : i < es.size), ∃ p, ws[i]? = some p ∧ es[i].key = .ref p.2.1 := by
  obtain ⟨z, hd, xs, rel, dd⟩ := dn_at I h
  obtain ⟨es, ep, h1, h2, h3⟩ := dd.raw
  refine ⟨z, hd, es, ep, h1, by rw [h2]; exact (Paired.length rel).symm, fun i hi => ?_⟩
  obtain ⟨y, e1, e2, _⟩ := h3 i hi
  have := KN.get rel e1
  obtain ⟨p, e3, e4⟩ := this
  exact ⟨p, e3, by rw [e2, e4]⟩
theorem keys_vals {ws : List (D × Addr × V)} {es : Array DictEntry} {acc : List Value} (hs : es.size = ws.length) (hk : ∀ i (hi : i < es.size), ∃ p, ws[i]? = some p ∧ es[i].key = .ref p.2.1) (hl : acc.length = es.size)
    (ha : ∀ j v, acc[j]? = some v → ∃ hi : j < es.size, v = es[j].key) : acc = ws.map fun p => Value.ref p.2.1 := by
  refine List.ext_getElem? fun j => ?_
  rw [List.getElem?_map]
  cases e : acc[j]? with
  | some v =>
    obtain ⟨hi, rfl⟩ := ha j v e
    obtain ⟨p, e1, e2⟩ := hk j hi
    rw [e1, e2]
    rfl
  | none =>
    have := List.getElem?_eq_none_iff.mp e
    rw [List.getElem?_eq_none (by omega)]
    rfl
theorem vals_refs : ∀ (ws : List (D × Addr × V)), Vals (ws.map fun p => V.ref p.2.1) (ws.map fun p => Value.ref p.2.1)
  | [] => .nil
  | p :: ws => .cons rfl (vals_refs ws)
def rListN (w : World) (K : PySem.W.Frag) : List V → Hp → VK → Prop := fun xs H Q => ∃ (a : Addr) (ws : List (D × Addr × V)), xs = [.ref a] ∧ IsN w K H a ws ∧ ∀ p, H p = none → Q (.ref p) (upd H p (.lst (ws.map fun p => V.ref p.2.1)))
theorem call_listN (hcalm : X.calm = true) : CallR X (.type "list") (rListN X.w X.K) := by
  intro pins s σ H xs us Q I r q
  obtain ⟨a, ws, rfl, hd, q⟩ := q
  obtain ⟨u, rfl, rx⟩ := vals1 r
  obtain rfl : u = Value.ref a := rx
  obtain ⟨z, lo, es, ep, hat, hs, hk⟩ := dn_raw I hd
  refine PySem.W.kdl_call (kdl_raw (es := es) (ep := ep) lo) (I.ok.hd hcalm) hat (by rw [hs]; exact z) fun h' tk acc c' hkp hD hacc => ?_
  have hv := keys_vals (acc := acc.toList) hs hk (by rw [Array.length_toList]; exact hacc.1) fun j v e => hacc.2 j v (by rw [← Array.getElem?_toList]; exact e)
  refine ⟨.ref s.heap.objs.size, upd H s.heap.objs.size (.lst (ws.map fun p => V.ref p.2.1)), I.laid (t' := tk) hkp (Nat.le_refl _)
    (show ObjOk X.prog X.w _ _ _ (.lst _) from ⟨by rw [List.length_map]; exact z, acc.toList, c', by rw [hv]; exact vals_refs ws, by rw [Array.toArray_toList]; exact hD⟩), rfl, q _ (I.hok.fresh (Nat.le_refl _))⟩
/-- the pair of ints that a key is -/
def keyP : D → Int × Int
  | .tup [.int i, .int j] => (i, j)
  | _ => (0, 0)
theorem nodup_key {α β : Type} {f : α → β} : ∀ {l : List α}, (l.map f).Nodup → ∀ {p q : α}, p ∈ l → q ∈ l → f p = f q → p = q
  | [], _, _, _, h, _, _ => by cases h
  | x :: l, hn, p, q, h1, h2, e => by
    rw [List.map_cons, List.nodup_cons] at hn
    rcases List.mem_cons.mp h1 with g1 | g1
    · rcases List.mem_cons.mp h2 with g2 | g2
      · rw [g1, g2]
      · exact absurd (List.mem_map.mpr ⟨q, g2, by rw [← e, g1]⟩) hn.1
    · rcases List.mem_cons.mp h2 with g2 | g2
      · exact absurd (List.mem_map.mpr ⟨p, g1, by rw [e, g2]⟩) hn.1
      · exact nodup_key hn.2 g1 g2 e
theorem dn_nodup (I : Inv X pins σ H s) (h : IsN X.w X.K H a ws) : (ws.map (·.1)).Nodup := by
  obtain ⟨z, hd, xs, rel, o, es, ep, hq, h2, h3, h4, h5, h6⟩ := dn_at I h
  have e : ws.map (·.1) = xs.map (·.1) := by
    clear h4 h5 h6 z h
    induction rel with
    | nil => rfl
    | cons h1 t ih => rw [List.map_cons, List.map_cons, ih, h1.1]
  rw [e]
  exact h6
theorem dn_addr (I : Inv X pins σ H s) (h : IsN X.w X.K H a ws) {p q : D × Addr × V} (hp : p ∈ ws) (hq : q ∈ ws) (e : p.2.1 = q.2.1) : p = q := by
  refine nodup_key (dn_nodup I h) hp hq ?_
  have h1 := (h.2 p hp).is I
  have h2 := (h.2 q hq).is I
  rw [e] at h1
  exact (dataKind X.prog X.w).inj h1 h2
/-- the entry of a key's address -/
noncomputable def entOf (ws : List (D × Addr × V)) (v : V) : D × Addr × V := open Classical in if h : ∃ p ∈ ws, V.ref p.2.1 = v then h.choose else (.non, 0, .non)
theorem entOf_is {ws : List (D × Addr × V)} (hu : ∀ p ∈ ws, ∀ q ∈ ws, p.2.1 = q.2.1 → p = q) {p : D × Addr × V} (hp : p ∈ ws) : entOf ws (.ref p.2.1) = p := by
  have hx : ∃ q ∈ ws, V.ref q.2.1 = V.ref p.2.1 := ⟨p, hp, rfl⟩
  unfold entOf
  rw [dif_pos hx]
  obtain ⟨h1, h2⟩ := hx.choose_spec
  exact hu _ h1 _ hp (V.ref.inj h2)
def rSortedNP (w : World) (K : PySem.W.Frag) : List V → Hp → VK → Prop := fun xs H Q => ∃ (a : Addr) (ws : List (D × Addr × V)), xs = [.ref a] ∧ IsN w K H a ws ∧ (∀ p ∈ ws, ∃ i j, p.1 = .tup [.int i, .int j]) ∧
  ∀ (zs : List (D × Addr × V)) (p : Addr), zs.Perm ws → zs.Pairwise (fun x y => SrtO.lexB (keyP y.1) (keyP x.1) = false) → H p = none → Q (.ref p) (upd H p (.lst (zs.map fun p => V.ref p.2.1)))
theorem cr_sortedNP (hcalm : X.calm = true) : CallR X (.builtin "sorted") (rSortedNP X.w X.K) := by
  intro pins s σ H xs us Q I r q
  obtain ⟨a, ws, rfl, hd, hp0, q⟩ := q
  have hun : ∀ p ∈ ws, ∀ q ∈ ws, p.2.1 = q.2.1 → p = q := fun p hp q hq e => dn_addr I hd hp hq e
  let k : V → Int × Int := fun v => keyP (entOf ws v).1
  have hp : ∀ p ∈ ws, p.1 = .tup [.int (k (.ref p.2.1)).1, .int (k (.ref p.2.1)).2] := fun p hp => by
    show p.1 = .tup [.int (keyP (entOf ws (.ref p.2.1)).1).1, .int (keyP (entOf ws (.ref p.2.1)).1).2]
    rw [entOf_is hun hp]
    obtain ⟨i, j, e⟩ := hp0 p hp
    rw [e]
    rfl
  have q : ∀ ys p, SrtO.Srtd (ltP k) ys → SrtO.Stb (ltP k) ys (ws.map fun p => V.ref p.2.1) → H p = none → Q (.ref p) (upd H p (.lst ys)) := fun ys p h1 h2 h3 => by
    have hperm := h2.perm
    have e1 : (ws.map fun p => V.ref p.2.1).map (entOf ws) = ws := by
      rw [List.map_map]
      conv => rhs; rw [← List.map_id ws]
      exact List.map_congr_left fun p hp => entOf_is hun hp
    have hz : (ys.map (entOf ws)).Perm ws := by
      have := hperm.map (entOf ws)
      rwa [e1] at this
    have e2 : (ys.map (entOf ws)).map (fun p => V.ref p.2.1) = ys := by
      rw [List.map_map]
      conv => rhs; rw [← List.map_id ys]
      refine List.map_congr_left fun y hy => ?_
      obtain ⟨p, hp, rfl⟩ := List.mem_map.mp (hperm.mem_iff.mp hy)
      show V.ref (entOf ws (V.ref p.2.1)).2.1 = V.ref p.2.1
      rw [entOf_is hun hp]
    have := q (ys.map (entOf ws)) p hz (List.pairwise_map.mpr h1) h3
    rwa [e2] at this
  obtain ⟨u, rfl, rx⟩ := vals1 r
  obtain rfl : u = Value.ref a := rx
  obtain ⟨z, lo, es, ep, hat, hs, hk⟩ := dn_raw I hd
  refine Calls.call_function_entry PyProof.Rows.kind_sorted PyProof.Rows.plain_sorted PyProof.Rows.entry_sorted (PyProof.Rows.args_sorted1 _) ?_
  unfold Builtin.«sorted»
  refine wpAny_bind (m := checkCount "sorted" 1 1 _) (wpAny_pure ?_)
  refine wpAny_bind (PySem.W.kdu_collect (A := X.A.in1) (kdl_raw (es := es) (ep := ep) lo) (I.ok.hd hcalm) hat (by rw [hs]; exact z) fun h' tk acc hkp hacc => ?_)
  have hv := keys_vals (acc := acc.toList) hs hk (by rw [Array.length_toList]; exact hacc.1) fun j v e => hacc.2 j v (by rw [← Array.getElem?_toList]; exact e)
  have I1 : Inv X pins σ H { s with heap := h', toks := tk } := I.kept hkp
  have hsz : acc.toList.length ≤ sizeLine := by rw [hv, List.length_map]; exact z
  have hpr : ∀ v ∈ acc.toList, Srt.IsPair h' v (k (backV v)).1 (k (backV v)).2 := fun v hm => by
    rw [hv] at hm
    obtain ⟨p, hp1, rfl⟩ := List.mem_map.mp hm
    obtain ⟨_, as, rr⟩ := (hd.2 p hp1).is I1
    have e := hp p hp1
    rw [e] at rr
    exact pair_reads rr
  refine wpAny_bind (wpAny_newList ?_ hsz)
  have hoL : (h'.push (seqObj "list" acc.toList.toArray 0)).get? h'.objs.size = some (seqObj "list" acc.toList.toArray 0) := Heap.get?_push_size _ rfl
  show wpAny _ _ _ _ _ { s with heap := h'.push (seqObj "list" acc.toList.toArray 0), toks := tk }
  have hpr2 : ∀ v ∈ acc.toList, Srt.IsPair (h'.push (seqObj "list" acc.toList.toArray 0)) v (k (backV v)).1 (k (backV v)).2 := fun v hm => (hpr v hm).keeps fun b o e _ => Heap.get?_push_of_some _ e
  refine wpAny_bind (wpAny_holding (wpAny_call_entry PyProof.Rows.slot_list_sort ⟨_, hoL, rfl⟩ PyProof.Rows.entry_list_sort
    (SrtO.list_sort_ord (s := { s with heap := h'.push (seqObj "list" acc.toList.toArray 0), toks := tk }) (SrtO.swo_lex fun v => k (backV v)) hoL hsz
      (fun h2 => SrtO.pairs_sortableO (k := fun v => k (backV v)) (by omega) hpr2 fun o e c => ?_) fun out h1 h2 => ⟨_, rfl, ?_⟩) (PyProof.Rows.args_list_sort _)))
  · have e' : some o = some (seqObj "list" acc.toList.toArray 0) := e.symm.trans hoL
    cases e'
    exact absurd (Value.type.inj c) (by decide)
  obtain ⟨e', he'⟩ := PyProof.Rows.sortedHeap_at (vs := acc.toList) (out := out.toArray) hoL
  have h3 : ∀ u ∈ out, ∃ a, u = Value.ref a := fun u hu => by
    have := h2.perm.mem_iff.mp hu
    rw [hv] at this
    obtain ⟨p, _, rfl⟩ := List.mem_map.mp this
    exact ⟨_, rfl⟩
  have hb : SrtO.Stb (ltP k) (out.map backV) (ws.map fun p => V.ref p.2.1) := by
    have e : (ws.map fun p => V.ref p.2.1) = acc.toList.map backV := by rw [hv, List.map_map]; rfl
    rw [e]
    exact SrtO.Stb.map (ltP_swo k) backV h2
  refine wpAny_pure ⟨_, rfl, .ref h'.objs.size, upd H h'.objs.size (.lst (out.map backV)), I1.laid (t' := tk) (fun b u e => ?_) (Nat.le_refl _)
    (show ObjOk X.prog X.w _ _ _ (.lst (out.map backV)) from ⟨by rw [hb.len, List.length_map]; exact z, out, e', vals_back h3, he'⟩), rfl, q _ _ (SrtO.srtd_map h1) hb (I1.hok.fresh (Nat.le_refl _))⟩
  have hb : b < h'.objs.size := Heap.lt_size e
  rw [PyProof.Rows.sortedHeap_old (Nat.ne_of_lt hb) (by rw [size_push']; exact Nat.lt_succ_of_lt hb)]
  exact Heap.get?_push_of_some _ e
end
/-! the same, K and the world named -/
section
variable {X : Cx} {w : World} {K : PySem.W.Frag} {o i e f value : Expr} {pos pos' apos cpos : Pos} {td ty tv tx : TE}
theorem hu9 {k : Nat} {A : Around} (hr : Room k A) : A.units + 9 < cLine := Nat.lt_of_le_of_lt (Nat.add_le_add_left (by decide : 9 ≤ 64) _) hr.units
theorem pe_dnNewk (hw : X.w = w) : PE X (.Dict [] [] pos) (tDnNew w) := by subst hw; exact pe_dnNew
theorem pe_dnGetk (hw : X.w = w) (hK : X.K = K) (hu : X.A.units + 9 < cLine) (ho : PE X o td) (hi : PE X i ty) (hs : NoSl i) : PE X (.Subscript o i pos) (tDnGet w K td ty) := by subst hw hK; exact pe_dnGet hu ho hi hs
theorem pc_dnInk (hw : X.w = w) (hK : X.K = K) (hu : X.A.units + 9 < cLine) (hi : PE X i ty) (ho : PE X o td) : PC X .In i o (tDnIn w K ty td) := by subst hw hK; exact pc_dnIn hu hi ho
theorem pc_dnNotInk (hw : X.w = w) (hK : X.K = K) (hu : X.A.units + 9 < cLine) (hi : PE X i ty) (ho : PE X o td) : PC X .NotIn i o (tDnNotIn w K ty td) := by subst hw hK; exact pc_dnNotIn hu hi ho
theorem ps_dnPutk (hw : X.w = w) (hK : X.K = K) (hu : X.A.units + 9 < cLine) (ho : PE X o td) (hi : PE X i ty) (hv : PE X value tv) (hs : swapsWith value (some (.Subscript o i pos')) pos.line X.env = pure false) :
    PS X (.Assign [.Subscript o i pos'] value pos) (sDnPut w K td ty tv) := by subst hw hK; exact ps_dnPut hu ho hi hv hs
theorem pe_dnGet2k (hw : X.w = w) (hK : X.K = K) (hu : X.A.units + 9 < cLine) (ho : PE X o td) (he : PE X e ty) (hf : PE X f tx) (m : M2 X o "get" apos e f cpos) : PE X (.Call (.Attribute o "get" apos) [e, f] [] cpos) (tDnGet2 w K td ty tx) := by subst hw hK; exact pe_dnGet2 hu ho he hf m
theorem call_listNk (hw : X.w = w) (hK : X.K = K) (hcalm : X.calm = true) : CallR X (.type "list") (rListN w K) := by subst hw hK; exact call_listN hcalm
theorem cr_sortedNPk (hw : X.w = w) (hK : X.K = K) (hcalm : X.calm = true) : CallR X (.builtin "sorted") (rSortedNP w K) := by subst hw hK; exact cr_sortedNP hcalm
/-- sorted(l), pairs of ints -/
def rSortedPD (K : PySem.W.Frag) : List V → Hp → VK → Prop := fun vs H Q => ∃ (a : Addr) (zs : List (V × Int × Int)), vs = [V.ref a] ∧ SqL K H a (zs.map (·.1)) ∧ (∀ z ∈ zs, ∃ t, z.1 = V.ref t ∧ Dp K H z.1 (D.py (.tup [.int z.2.1, .int z.2.2]))) ∧
  ∀ (ys : List (V × Int × Int)) (p : Addr), ys.Perm zs → ys.Pairwise (fun x y => SrtO.lexB y.2 x.2 = false) → H p = none → Q (.ref p) (upd H p (.lst (ys.map (·.1))))
noncomputable def pairAt (h : Heap) (v : V) : Int × Int := open Classical in match v with
  | .ref b => if hx : ∃ z : Int × Int, Srt.IsPair h (.ref b) z.1 z.2 then hx.choose else (0, 0)
  | _ => (0, 0)
theorem pair_uniq {h : Heap} {v : Value} {i j i' j' : Int} (h1 : Srt.IsPair h v i j) (h2 : Srt.IsPair h v i' j') : i = i' ∧ j = j' := by
  obtain ⟨a, o, t, u, n, rfl, ho, _, hd⟩ := h1
  obtain ⟨a', o', t', u', n', e, ho', _, hd'⟩ := h2
  cases e
  rw [ho] at ho'
  cases ho'
  rw [hd] at hd'
  injection hd' with e1 e2
  have e3 : [Value.int i t, Value.int j u] = [Value.int i' t', Value.int j' u'] := congrArg Array.toList e1
  simp at e3
  exact ⟨e3.1.1, e3.2.1⟩
theorem pairAt_is {h : Heap} {b : Addr} {i j : Int} (hp : Srt.IsPair h (.ref b) i j) : pairAt h (.ref b) = (i, j) := by
  have hx : ∃ z : Int × Int, Srt.IsPair h (.ref b) z.1 z.2 := ⟨(i, j), hp⟩
  show (open Classical in if hx : ∃ z : Int × Int, Srt.IsPair h (.ref b) z.1 z.2 then hx.choose else (0, 0)) = (i, j)
  rw [dif_pos hx]
  have := pair_uniq hx.choose_spec hp
  exact Prod.ext this.1 this.2
theorem cr_sortedPD (hK : X.K = K) : CallR X (.builtin "sorted") (rSortedPD K) := by
  subst hK
  intro pins s σ H vs us Q I r h
  obtain ⟨a, zs, rfl, hs, hx, q⟩ := h
  obtain ⟨its, rv, hl, hz⟩ := I.list hs
  obtain ⟨u, rfl, ru⟩ := vals1 r
  obtain rfl : u = Value.ref a := ru
  obtain ⟨e1, e2⟩ := refs_back rv fun x m => by
    obtain ⟨z, hz, rfl⟩ := List.mem_map.mp m
    obtain ⟨t, e, _⟩ := hx z hz
    exact ⟨t, e⟩
  have hpr : ∀ z ∈ zs, ∃ t, z.1 = V.ref t ∧ Srt.IsPair s.heap (.ref t) z.2.1 z.2.2 := fun z hz => by
    obtain ⟨t, e, ht⟩ := hx z hz
    rw [e] at ht
    obtain ⟨as, rr⟩ := Dp.reads I _ _ (.ref t) ht rfl
    exact ⟨t, e, pair_reads rr⟩
  have hk : ∀ z ∈ zs, pairAt s.heap z.1 = z.2 := fun z hz => by
    obtain ⟨t, e, hp⟩ := hpr z hz
    rw [e]
    exact pairAt_is hp
  refine SrtO.sorted_pairsO (k := fun u => pairAt s.heap (backV u)) hl.isList (by rw [← rv.length]; exact hz) (fun v hv => ?_) fun h' d out h1 h2 kp hd hn => ?_
  · have hm : backV v ∈ zs.map (·.1) := by rw [e1]; exact List.mem_map.mpr ⟨_, hv, rfl⟩
    obtain ⟨t, rfl⟩ := e2 v hv
    obtain ⟨z, hz, e⟩ := List.mem_map.mp hm
    obtain ⟨t', e', hp⟩ := hpr z hz
    have e3 : V.ref t = V.ref t' := e.symm.trans e'
    cases e3
    show Srt.IsPair s.heap (.ref t) (pairAt s.heap (.ref t)).1 (pairAt s.heap (.ref t)).2
    rw [pairAt_is hp]
    exact hp
  · have h3 : ∀ u ∈ out, ∃ a, u = Value.ref a := fun u hu => e2 u (h2.perm.mem_iff.mp hu)
    obtain ⟨n, hn⟩ := hn
    have hb : SrtO.Stb (ltP (pairAt s.heap)) (out.map backV) (zs.map (·.1)) := by
      rw [e1]
      exact SrtO.Stb.map (ltP_swo (pairAt s.heap)) backV h2
    have hsz : SrtO.Srtd (ltP (pairAt s.heap)) (out.map backV) := SrtO.srtd_map h1
    have ez : (zs.map (·.1)).map (fun v => (v, pairAt s.heap v)) = zs := by
      rw [List.map_map]
      conv => rhs; rw [← List.map_id zs]
      refine List.map_congr_left fun z hz => ?_
      show (z.1, pairAt s.heap z.1) = z
      rw [hk z hz]
    have hp := hb.perm.map (fun v => (v, pairAt s.heap v))
    rw [ez] at hp
    have eo : ((out.map backV).map fun v => (v, pairAt s.heap v)).map (·.1) = out.map backV := by
      rw [List.map_map]
      conv => rhs; rw [← List.map_id (out.map backV)]
      rfl
    have q2 := q ((out.map backV).map fun v => (v, pairAt s.heap v)) d hp (List.pairwise_map.mpr hsz) (I.hok.fresh hd)
    rw [eo] at q2
    refine ⟨.ref d, upd H d (.lst (out.map backV)), I.laid (t' := s.toks) kp hd ⟨?_, out, n, vals_back h3, hn⟩, rfl, q2⟩
    rw [hb.len]
    exact hz
end
/-! ### readings of dicts of data keys, in their own slots -/
noncomputable def valP (kvs : List (D × D)) (d : D) : Option D := (kvs.find? fun p => decide (p.1 = d)).map (·.2)
noncomputable def putP (kvs : List (D × D)) (d e : D) : List (D × D) :=
  if (kvs.any fun p => decide (p.1 = d)) = true then kvs.map (fun p => if p.1 = d then (p.1, e) else p) else kvs ++ [(d, e)]
section
variable {K : PySem.W.Frag} {Ξ : XI} {F H : Hp}
theorem PrN.val {kvs : List (D × D)} {ws : List (D × Addr × V)} (h : PrN K F kvs ws) (d : D) : (∃ e v, valP kvs d = some e ∧ valN ws d = some v ∧ Rp K F e v) ∨ (valP kvs d = none ∧ valN ws d = none) := by
  induction h with
  | nil => exact .inr ⟨rfl, rfl⟩
  | @cons p q ps qs h t ih =>
    by_cases e : p.1 = d
    · refine .inl ⟨p.2, q.2.2, ?_, ?_, h.2.2.2⟩
      · simp [valP, List.find?_cons, e]
      · simp [valN, List.find?_cons, h.1.symm.trans e]
    · have e' : ¬ q.1 = d := fun z => e (h.1.trans z)
      have a : valP (p :: ps) d = valP ps d := by simp [valP, List.find?_cons, e]
      have b : valN (q :: qs) d = valN qs d := by simp [valN, List.find?_cons, e']
      rw [a, b]
      exact ih
theorem PrN.any {kvs : List (D × D)} {ws : List (D × Addr × V)} (h : PrN K F kvs ws) (d : D) : (kvs.any fun p => decide (p.1 = d)) = (ws.any fun p => decide (p.1 = d)) := by
  induction h with
  | nil => rfl
  | @cons p q ps qs h t ih => rw [List.any_cons, List.any_cons, ih, h.1]
theorem PrN.repl {kvs : List (D × D)} {ws : List (D × Addr × V)} (h : PrN K F kvs ws) {d e : D} {v : V} (he : Rp K F e v) :
    PrN K F (kvs.map fun p => if p.1 = d then (p.1, e) else p) (ws.map fun p => if p.1 = d then (p.1, p.2.1, v) else p) := by
  induction h with
  | nil => exact .nil
  | @cons p q ps qs h t ih =>
    rw [List.map_cons, List.map_cons]
    refine .cons ?_ ih
    by_cases z : p.1 = d
    · rw [if_pos z, if_pos (h.1.symm.trans z)]
      exact ⟨h.1, h.2.1, h.2.2.1, he⟩
    · rw [if_neg z, if_neg (fun y => z (h.1.trans y))]
      exact h
theorem PrN.put {kvs : List (D × D)} {ws : List (D × Addr × V)} (h : PrN K F kvs ws) {d e : D} {b : Addr} {v : V} (hk : D.hkN 6 d = true) (hd : Rp K F d (.ref b)) (he : Rp K F e v) : PrN K F (putP kvs d e) (putN ws d b v) := by
  unfold putP putN
  rw [h.any d]
  split
  · exact h.repl he
  · exact Paired.snoc h ⟨rfl, hk, hd, he⟩
theorem PrN.length {kvs : List (D × D)} {ws : List (D × Addr × V)} (h : PrN K F kvs ws) : kvs.length = ws.length := Paired.length h
theorem keyN_of {d : D} {b : Addr} (hs : Same F H) (hk : D.hkN 6 d = true) (h : Rp K F d (.ref b)) : KeyN K H d b := ⟨hk, (py_of 6 (D.hk_pl 6 hk) (h.mono hs)).1⟩
theorem isN_of {w : World} {l : Addr} {kvs : List (D × D)} {ws : List (D × Addr × V)} (hs : Same F H) (h1 : H l = some (dnO w l ws)) (h : PrN K F kvs ws) : IsN w K H l ws := by
  refine ⟨h1, ?_⟩
  clear h1
  induction h with
  | nil => intro p hp; cases hp
  | @cons p q ps qs h t ih =>
    intro y hy
    rcases List.mem_cons.mp hy with rfl | hy
    · exact keyN_of hs (h.1 ▸ h.2.1) (h.1 ▸ h.2.2.1)
    · exact ih y hy
/-- a key is a tuple -/
def isTupK : D → Bool
  | .tup _ => true
  | _ => false
theorem rp_ref {d : D} {v : V} (ht : isTupK d = true) (h : Rp K F d v) : ∃ b, v = .ref b := by
  cases d <;> first | (cases ht; done) | skip
  obtain ⟨a, vs, rfl, _⟩ := h
  exact ⟨a, rfl⟩
end
def keyOk (d : D) : Prop := D.hkN 6 d = true ∧ isTupK d = true
section
variable {K : PySem.W.Frag} {Ξ : XI} {w : World}
instance : LiftE K Ξ (tDnNew w) (fun s q => q (.ow false (.dn w [])) s) := ⟨fun {F H ω s σ Q} q T h k p hp => by
  have e := Ext.ow T.sf hp (dnO w p [])
  obtain ⟨p2, T2⟩ := e.stp T
  exact k (.ref p) F _ ω (.ow false (.dn w [])) s p2 T2 ⟨p, [p], rfl, fun a ha => by cases List.mem_singleton.mp ha; exact ⟨hp, Sta.free T.base hp, T.sf.free hp⟩, rfl, [], upd_same, .nil⟩ h⟩
theorem dn_own {i : Nat} {F H : Hp} {ω : Om} {s : Sl} {σ : L2.St} {b : Bool} {kvs : List (D × D)} (T : Sta K Ξ F H ω s σ) (e : s[i]? = some (some (.ow b (.dn w kvs)))) :
    ∃ l ws, σ[i]? = some (some (.ref l)) ∧ ω l = some (i, tgR b) ∧ H l = some (dnO w l ws) ∧ PrN K F kvs ws ∧ IsN w K H l ws := by
  obtain ⟨v, hv, l, A, rfl, hl, _, _, ws, h1, h2⟩ := T.at' i _ e
  exact ⟨l, ws, hv, hl, h1, h2, isN_of T.sf h1 h2⟩
/-- d[key] -/
def pDnGetV (w : World) (i : Nat) (pi : PD) : PX := fun s q => (∃ b kvs, s[i]? = some (some (.ow b (.dn w kvs)))) ∧ pi s fun d s1 => keyOk d ∧ ∃ b kvs e, s1[i]? = some (some (.ow b (.dn w kvs))) ∧ valP kvs d = some e ∧ q (.fr e) s1
instance {i : Nat} {ti : TE} {pi : PD} [LiftD K Ξ ti pi] : LiftE K Ξ (tDnGet w K (tVar i) ti) (pDnGetV w i pi) := ⟨fun {F H ω s σ Q} q T h k => by
  obtain ⟨⟨b0, kvs0, e0⟩, h⟩ := h
  obtain ⟨l, _, hv, _⟩ := dn_own T e0
  refine ⟨_, hv, LiftD.run (K := K) (t := ti) (p := pi) _ T h fun v F2 H2 ω2 d s2 p2 T2 r2 h2 => ?_⟩
  obtain ⟨hk, b, kvs, e, e1, ev, hq⟩ := h2
  obtain ⟨l', ws, hv', _, h1, hp, hi⟩ := dn_own T2 e1
  rw [hv] at hv'
  cases hv'
  obtain ⟨kb, rfl⟩ := rp_ref hk.2 r2
  rcases hp.val d with ⟨e', v', z1, z2, z3⟩ | ⟨z1, _⟩
  · rw [ev] at z1
    cases z1
    exact ⟨l, kb, ws, d, v', rfl, rfl, hi, keyN_of T2.sf hk.1 r2, z2, k v' F2 H2 ω2 (.fr e) s2 p2 T2 z3 hq⟩
  · rw [ev] at z1
    cases z1⟩
/-- key in d, key not in d -/
def pDnInV (w : World) (f : Bool → Bool) (i : Nat) (pi : PD) : PX := fun s q => pi s fun d s1 => keyOk d ∧ ∃ b kvs, s1[i]? = some (some (.ow b (.dn w kvs))) ∧ q (.fr (.bl (f (valP kvs d).isSome))) s1
theorem dnIn_run {i : Nat} {F2 H2 : Hp} {ω2 : Om} {s2 : Sl} {σ : L2.St} {d : D} {v : V} {b : Bool} {kvs : List (D × D)} (T2 : Sta K Ξ F2 H2 ω2 s2 σ) (r2 : Rp K F2 d v) (hk : keyOk d) (e1 : s2[i]? = some (some (.ow b (.dn w kvs)))) :
    ∃ l kb ws, σ[i]? = some (some (.ref l)) ∧ v = .ref kb ∧ IsN w K H2 l ws ∧ KeyN K H2 d kb ∧ (valN ws d).isSome = (valP kvs d).isSome := by
  obtain ⟨l', ws, hv', _, h1, hp, hi⟩ := dn_own T2 e1
  obtain ⟨kb, rfl⟩ := rp_ref hk.2 r2
  refine ⟨l', kb, ws, hv', rfl, hi, keyN_of T2.sf hk.1 r2, ?_⟩
  rcases hp.val d with ⟨e', v', z1, z2, z3⟩ | ⟨z1, z2⟩
  · rw [z1, z2]; rfl
  · rw [z1, z2]; rfl
instance {i : Nat} {ti : TE} {pi : PD} [LiftD K Ξ ti pi] : LiftE K Ξ (tDnIn w K ti (tVar i)) (pDnInV w id i pi) := ⟨fun {F H ω s σ Q} q T h k => by
  refine LiftD.run (K := K) (t := ti) (p := pi) _ T h fun v F2 H2 ω2 d s2 p2 T2 r2 h2 => ?_
  obtain ⟨hk, b, kvs, e1, hq⟩ := h2
  obtain ⟨l, kb, ws, hv, rfl, hi, hy, e⟩ := dnIn_run T2 r2 hk e1
  refine ⟨_, hv, l, kb, ws, d, rfl, rfl, hi, hy, ?_⟩
  rw [e]
  exact k _ F2 H2 ω2 (.fr (.bl _)) s2 p2 T2 rfl hq⟩
instance {i : Nat} {ti : TE} {pi : PD} [LiftD K Ξ ti pi] : LiftE K Ξ (tDnNotIn w K ti (tVar i)) (pDnInV w not i pi) := ⟨fun {F H ω s σ Q} q T h k => by
  refine LiftD.run (K := K) (t := ti) (p := pi) _ T h fun v F2 H2 ω2 d s2 p2 T2 r2 h2 => ?_
  obtain ⟨hk, b, kvs, e1, hq⟩ := h2
  obtain ⟨l, kb, ws, hv, rfl, hi, hy, e⟩ := dnIn_run T2 r2 hk e1
  refine ⟨_, hv, l, kb, ws, d, rfl, rfl, hi, hy, ?_⟩
  rw [e]
  exact k _ F2 H2 ω2 (.fr (.bl _)) s2 p2 T2 rfl hq⟩
/-- d.get(key, x) -/
def pDnGet2V (w : World) (i : Nat) (pi px : PD) : PX := fun s q => (∃ b kvs, s[i]? = some (some (.ow b (.dn w kvs)))) ∧ pi s fun d s1 => keyOk d ∧ px s1 fun e s2 => ∃ b kvs, s2[i]? = some (some (.ow b (.dn w kvs))) ∧ q (.fr ((valP kvs d).getD e)) s2
instance {i : Nat} {ti tx : TE} {pi px : PD} [LiftD K Ξ ti pi] [LiftD K Ξ tx px] : LiftE K Ξ (tDnGet2 w K (tVar i) ti tx) (pDnGet2V w i pi px) := ⟨fun {F H ω s σ Q} q T h k => by
  obtain ⟨⟨b0, kvs0, e0⟩, h⟩ := h
  obtain ⟨l, ws0, hv, _, _, _, hi0⟩ := dn_own T e0
  refine ⟨_, hv, l, ws0, rfl, hi0, LiftD.run (K := K) (t := ti) (p := pi) _ T h fun v F2 H2 ω2 d s2 p2 T2 r2 h2 => ?_⟩
  obtain ⟨hk, h2⟩ := h2
  refine LiftD.run (K := K) (t := tx) (p := px) _ T2 h2 fun z F3 H3 ω3 e s3 p3 T3 r3 h3 => ?_
  obtain ⟨b, kvs, e1, hq⟩ := h3
  obtain ⟨l', ws, hv', _, h1, hp, hi⟩ := dn_own T3 e1
  rw [hv] at hv'
  cases hv'
  obtain ⟨kb, rfl⟩ := rp_ref hk.2 r2
  refine ⟨kb, ws, d, rfl, hi, keyN_of T3.sf hk.1 (r2.mono p3.sf), ?_⟩
  rcases hp.val d with ⟨e', v', z1, z2, z3⟩ | ⟨z1, z2⟩
  · rw [z2]
    rw [z1] at hq
    exact k v' F3 H3 ω3 (.fr e') s3 (p2.trans p3) T3 z3 hq
  · rw [z2]
    rw [z1] at hq
    exact k z F3 H3 ω3 (.fr e) s3 (p2.trans p3) T3 r3 hq⟩
/-- d[key] = x -/
def psDnPutV (w : World) (i : Nat) (pi pv : PD) : PS1 := fun E s => pv s fun e s1 => (∃ b kvs, s1[i]? = some (some (.ow b (.dn w kvs)))) ∧ pi s1 fun d s2 => keyOk d ∧ ∃ b kvs, s2[i]? = some (some (.ow b (.dn w kvs))) ∧ kvs.length < 1000000 ∧ E.nx (s2.set i (some (.ow b (.dn w (putP kvs d e)))))
instance {i : Nat} {ti tv : TE} {pi pv : PD} [LiftD K Ξ ti pi] [LiftD K Ξ tv pv] : LiftS K Ξ (sDnPut w K (tVar i) ti tv) (psDnPutV w i pi pv) := ⟨fun E T h M => by
  refine LiftD.run (K := K) (t := tv) (p := pv) _ T h fun v F1 H1 ω1 e s1 p1 T1 r1 h1 => ?_
  obtain ⟨⟨b0, kvs0, e0⟩, h1⟩ := h1
  obtain ⟨l, _, hv, _⟩ := dn_own T1 e0
  refine ⟨_, hv, LiftD.run (K := K) (t := ti) (p := pi) _ T1 h1 fun y F2 H2 ω2 d s2 p2 T2 r2 h2 => ?_⟩
  obtain ⟨hk, b, kvs, e1, hl, hq⟩ := h2
  obtain ⟨l', ws, hv', hw, hh, hp, hi⟩ := dn_own T2 e1
  rw [hv] at hv'
  cases hv'
  obtain ⟨kb, rfl⟩ := rp_ref hk.2 r2
  refine ⟨l, kb, ws, d, rfl, rfl, hi, keyN_of T2.sf hk.1 r2, ?_, ?_⟩
  · rw [← hp.length]
    exact Nat.lt_trans hl (by decide)
  · obtain ⟨ω3, p3, T3⟩ := T2.mut (u := dnO w l (putN ws d kb v)) hv hw (o' := .dn w (putP kvs d e)) ⟨rfl, _, upd_same, hp.put hk.1 r2 (r1.mono p2.sf)⟩
    exact M.nx ((p1.trans p2).trans p3) T3 hq⟩
end
section
variable {K : PySem.W.Frag} {Ξ : XI} {w : World}
theorem PrN.refs {F : Hp} {kvs : List (D × D)} {ws : List (D × Addr × V)} (h : PrN K F kvs ws) : RpA K F (kvs.map (·.1)) (ws.map fun p => V.ref p.2.1) := by
  induction h with
  | nil => rfl
  | @cons x y xs ys h t ih => exact ⟨_, _, rfl, h.2.2.1, ih⟩
theorem refs_perm {F : Hp} {ws zs : List (D × Addr × V)} (hw : ∀ p ∈ ws, Rp K F p.1 (.ref p.2.1)) (hp : zs.Perm ws) : RpA K F (zs.map (·.1)) (zs.map fun p => V.ref p.2.1) := by
  have : ∀ p ∈ zs, Rp K F p.1 (.ref p.2.1) := fun p h => hw p (hp.mem_iff.mp h)
  clear hp hw
  induction zs with
  | nil => rfl
  | cons x zs ih => exact ⟨_, _, rfl, this x List.mem_cons_self, ih fun p h => this p (List.mem_cons_of_mem _ h)⟩
theorem PrN.self {F : Hp} {kvs : List (D × D)} {ws : List (D × Addr × V)} (h : PrN K F kvs ws) : (∀ p ∈ ws, Rp K F p.1 (.ref p.2.1)) ∧ kvs.map (·.1) = ws.map (·.1) := by
  induction h with
  | nil => exact ⟨fun p h => (by cases h), rfl⟩
  | @cons x y xs ys h t ih =>
    refine ⟨fun p hp => ?_, by rw [List.map_cons, List.map_cons, ih.2, h.1]⟩
    rcases List.mem_cons.mp hp with rfl | hp
    · rw [← h.1]
      exact h.2.2.1
    · exact ih.1 p hp
/-- list(d) -/
def pListDn (w : World) (i : Nat) : PX := fun s q => ∃ b kvs, s[i]? = some (some (.ow b (.dn w kvs))) ∧ q (.ow false (.lst (kvs.map (·.1)))) s
instance {i : Nat} : LiftE K Ξ (tCB (rListN w K) (tCons (tVar i) tNil)) (pListDn w i) := ⟨fun {F H ω s σ Q} q T h k => by
  obtain ⟨b, kvs, e, hq⟩ := h
  obtain ⟨l, ws, hv, hl, h1, hp, hi⟩ := dn_own T e
  refine ⟨_, hv, l, ws, rfl, hi, fun p hpn => ?_⟩
  refine Ext.lst (q := fun z => q z s) T.sf hp.refs hq (fun v F' H' z e r hq => ?_) hpn
  obtain ⟨p2, T2⟩ := e.stp T
  exact k v F' H' ω z s p2 T2 (Rn.rt (Stp.refl T.tb) T r) hq⟩
/-- sorted(d), the keys pairs of ints -/
def pSortDn (w : World) (i : Nat) : PX := fun s q => ∃ b kvs, s[i]? = some (some (.ow b (.dn w kvs))) ∧ (∀ d ∈ kvs.map (·.1), ∃ i j, d = .tup [.int i, .int j]) ∧
  ∀ ds : List D, ds.Perm (kvs.map (·.1)) → ds.Pairwise (fun x y => SrtO.lexB (keyP y) (keyP x) = false) → q (.ow false (.lst ds)) s
instance {i : Nat} : LiftE K Ξ (tCB (rSortedNP w K) (tCons (tVar i) tNil)) (pSortDn w i) := ⟨fun {F H ω s σ Q} q T h k => by
  obtain ⟨b, kvs, e, hk, hq⟩ := h
  obtain ⟨l, ws, hv, hl, h1, hp, hi⟩ := dn_own T e
  obtain ⟨hw, hkw⟩ := hp.self
  rw [hkw] at hk hq
  refine ⟨_, hv, l, ws, rfl, hi, fun p hp => hk _ (List.mem_map_of_mem hp), fun zs p hz hs hpn => ?_⟩
  refine Ext.lst (q := fun z => q z s) T.sf (refs_perm hw hz) (hq _ (hz.map _) (List.pairwise_map.mpr hs)) (fun v F' H' z e r hq => ?_) hpn
  obtain ⟨p2, T2⟩ := e.stp T
  exact k v F' H' ω z s p2 T2 (Rn.rt (Stp.refl T.tb) T r) hq⟩
def pairD (z : Int × Int) : D := .tup [.int z.1, .int z.2]
def gSortedPD : List D → (S → Prop) → Prop := fun ds q => match ds with
  | [.lst xs] => ∃ ks : List (Int × Int), xs = ks.map pairD ∧ ∀ ms : List (Int × Int), ms.Perm ks → ms.Pairwise (fun x y => SrtO.lexB y x = false) → q (.ow false (.lst (ms.map pairD)))
  | _ => False
theorem zip_pairs {F : Hp} : ∀ {ks : List (Int × Int)} {vs : List V}, RpA K F (ks.map pairD) vs → ∃ zs : List (V × Int × Int), zs.map (·.1) = vs ∧ zs.map (·.2) = ks ∧ ∀ z ∈ zs, Rp K F (pairD z.2) z.1
  | [], _, h => by
    cases (show _ = [] from h)
    exact ⟨[], rfl, rfl, fun _ h => (by cases h)⟩
  | k :: ks, _, h => by
    obtain ⟨v, ws, rfl, h1, h2⟩ := h
    obtain ⟨zs, e1, e2, h3⟩ := zip_pairs h2
    refine ⟨(v, k) :: zs, by rw [List.map_cons, e1], by rw [List.map_cons, e2], fun z hz => ?_⟩
    rcases List.mem_cons.mp hz with rfl | hz
    · exact h1
    · exact h3 z hz
theorem pairs_back {F : Hp} : ∀ {ys : List (V × Int × Int)}, (∀ z ∈ ys, Rp K F (pairD z.2) z.1) → RpA K F ((ys.map (·.2)).map pairD) (ys.map (·.1))
  | [], _ => rfl
  | y :: ys, h => ⟨_, _, rfl, h y List.mem_cons_self, pairs_back fun z hz => h z (List.mem_cons_of_mem _ hz)⟩
instance : CaL K (rSortedPD K) gSortedPD := ⟨fun {F H vs ds Q} q hs r h k => by
  unfold gSortedPD at h
  split at h
  · obtain ⟨ks, rfl, hq⟩ := h
    obtain ⟨v, rfl, a, ws, rfl, h1, h2⟩ := r.one
    obtain ⟨zs, rfl, rfl, h3⟩ := zip_pairs h2
    refine ⟨a, zs, rfl, SqL.of (hs _ _ h1), fun z hz => ?_, fun ys p hp hw hpn => ?_⟩
    · have hr := h3 z hz
      obtain ⟨b, vs', e, _⟩ := id hr
      refine ⟨b, e, (py_of 6 (show D.plN 6 (pairD z.2) = true from rfl) (hr.mono hs)).1⟩
    · exact Ext.lst hs (pairs_back fun z hz => h3 z (hp.mem_iff.mp hz)) (hq (ys.map (·.2)) (hp.map _) (List.pairwise_map.mpr hw)) k hpn
  · exact h.elim⟩
end
/-! ### dict(rows) where the keys are tuples -/
noncomputable def mergeN (acc kvs : List (D × Addr × V)) : List (D × Addr × V) := kvs.foldl (fun a p => putN a p.1 p.2.1 p.2.2) acc
noncomputable def mergeP (acc kvs : List (D × D)) : List (D × D) := kvs.foldl (fun a p => putP a p.1 p.2) acc
theorem mergeN_len : ∀ (kvs acc : List (D × Addr × V)), (mergeN acc kvs).length ≤ acc.length + kvs.length
  | [], acc => Nat.le_refl _
  | p :: ps, acc => by
    have h1 := mergeN_len ps (putN acc p.1 p.2.1 p.2.2)
    have h2 := putN_len acc p.1 p.2.1 p.2.2
    show (mergeN (putN acc p.1 p.2.1 p.2.2) ps).length ≤ _
    rw [List.length_cons]
    omega
theorem KN.merge : ∀ {kvs : List (D × Addr × V)} {prs : List (D × Addr × Value)} (_ : KN kvs prs) {ws : List (D × Addr × V)} {xs : List (D × Addr × Value)}, KN ws xs → KN (mergeN ws kvs) (PySem.storedAllH xs prs)
  | _, _, .nil, _, _, h => h
  | _, _, .cons (a := p) (b := q) h t, ws, xs, r => by
    have := KN.put r p.1 (b := p.2.1) h.2.2
    rw [show storedH xs p.1 p.2.1 q.2.2 = storedH xs q.1 q.2.1 q.2.2 by rw [h.1, h.2.1]] at this
    exact KN.merge t this
def rDictN (w : World) (K : PySem.W.Frag) : List V → Hp → VK → Prop := fun xs H Q => ∃ (a : Addr) (ps : List Addr) (kvs : List (D × Addr × V)), xs = [.ref a] ∧ SqL K H a (ps.map V.ref) ∧ Paired (fun p kv => SqT K H p [.ref kv.2.1, kv.2.2]) ps kvs ∧ (∀ kv ∈ kvs, KeyN K H kv.1 kv.2.1) ∧
  ∀ p, H p = none → Q (.ref p) (upd H p (dnO w p (mergeN [] kvs)))
section
variable {X : Cx}
theorem pairsN_of {pins : List (Addr × Obj)} {σ : L2.St} {H : Hp} {s : Shared} (I : Inv X pins σ H s) : ∀ {ps : List Addr} {kvs : List (D × Addr × V)}, Paired (fun p kv => SqT X.K H p [V.ref kv.2.1, kv.2.2]) ps kvs →
    ∃ prs : List (D × Addr × Value), KN kvs prs ∧ prs.length = ps.length ∧ ∀ (j : Nat) (q : D × Addr × Value), prs[j]? = some q → ∃ b : Addr, ps[j]? = some b ∧ IsTup s.heap b #[.ref q.2.1, q.2.2]
  | _, _, .nil => ⟨[], .nil, rfl, fun j q e => by simp at e⟩
  | _, _, .cons (a := p) (b := kv) h t => by
    obtain ⟨prs, r, hl, hp⟩ := pairsN_of I t
    obtain ⟨its, rv, ht, _⟩ := I.tuple h
    obtain ⟨u, y, ei, ru, ry⟩ := vals2 rv
    subst ei
    obtain rfl : u = Value.ref kv.2.1 := ru
    refine ⟨(kv.1, kv.2.1, y) :: prs, .cons ⟨rfl, rfl, ry⟩ r, by rw [List.length_cons, List.length_cons, hl], fun j q e => ?_⟩
    cases j with
    | zero =>
      have e' : (kv.1, kv.2.1, y) = q := Option.some.inj e
      subst e'
      exact ⟨p, rfl, ht⟩
    | succ j =>
      obtain ⟨b, e1, e2⟩ := hp j q (by simpa using e)
      exact ⟨b, by simpa using e1, e2⟩
theorem call_dictN (hcalm : X.calm = true) (hu : X.A.units + 12 < cLine) : CallR X (.type "dict") (rDictN X.w X.K) := by
  intro pins s σ H xs us Q I r q
  obtain ⟨a, ps, kvs, ex, hq, hp, hk, q⟩ := q
  subst ex
  obtain ⟨u, eu, rx⟩ := vals1 r
  subst eu
  cases rx
  obtain ⟨its, rv, pl, hz⟩ := I.list hq
  have ei := L2.refs_at rv
  subst ei
  rw [List.length_map] at hz
  obtain ⟨prs, rel, hl, hpr⟩ := pairsN_of I hp
  obtain ⟨o, n, ho, hc, hd, hdat⟩ := pl
  have hlen : (prs.map fun p => ((Value.ref p.2.1, p.2.2) : Value × Value)).length = prs.length := List.length_map ..
  have hat : ∀ {j : Nat} {k v : Value}, (prs.map fun p => ((Value.ref p.2.1, p.2.2) : Value × Value))[j]? = some (k, v) → ∃ p, prs[j]? = some p ∧ k = .ref p.2.1 ∧ v = p.2.2 := fun {j k v} e => by
    rw [List.getElem?_map] at e
    cases z : prs[j]? with
    | none => rw [z] at e; cases e
    | some p =>
      rw [z] at e
      have e := Option.some.inj e
      injection e with e1 e2
      exact ⟨p, rfl, e1.symm, e2.symm⟩
  refine PySem.call_dict_pairsH (knd := dataKind X.prog X.w) (ps := prs) (PySem.PairArg.list (prog := X.prog) (w := X.w) a ((ps.map Value.ref).toArray) (fun j => ps.getD j 0) (prs.map fun p => ((Value.ref p.2.1, p.2.2) : Value × Value))) (I.ok.hd hcalm) ?_ ⟨⟨o, n, ho, hc, hd, hdat⟩, ?_, fun j k v e => ?_⟩ ⟨hlen.symm, fun i key v e => ?_⟩ ?_ ?_ fun h' tk hd' hkp => ?_
  · show X.A.units + 1 + 1 + 8 < cLine
    omega
  · simp [hl]
  · obtain ⟨p, e1, rfl, rfl⟩ := hat e
    obtain ⟨b, e2, e3⟩ := hpr j p e1
    refine ⟨by simp [e2], .inl ?_⟩
    show s.heap.IsTuple (ps.getD j 0) _
    rw [List.getD_eq_getElem?_getD, e2]
    exact e3
  · obtain ⟨p, e1, rfl, rfl⟩ := hat e
    exact ⟨p.1, p.2.1, e1, rfl⟩
  · intro h' hkp x hx
    obtain ⟨p, hp2, e1, e2⟩ := KN.mem rel hx
    have := (hk p hp2).is I
    rw [e1, e2] at this
    obtain ⟨h1, as, r1⟩ := this
    exact ⟨h1, as, PyProof.Rows.Reads.keeps (fun b o e => hkp b o (Nat.ne_of_lt (Heap.lt_size e)) (fun z => nomatch z) e) r1⟩
  · rw [hlen, hl]
    exact hz
  · have hm : (s.heap.objs.size == sysModules) = false := beq_eq_false_iff_ne.mpr (Nat.ne_of_gt I.big)
    have hlm : (mergeN [] kvs).length ≤ sizeLine := by
      refine Nat.le_trans (mergeN_len kvs []) ?_
      rw [List.length_nil, Nat.zero_add, Paired.length rel, hl]
      exact hz
    exact ⟨.ref s.heap.objs.size, upd H s.heap.objs.size (dnO X.w s.heap.objs.size (mergeN [] kvs)), I.laid (t' := tk) (fun b o e => hkp b o (fun z => nomatch z) e) (Nat.le_refl _) (dn_ok hlm hm (KN.merge rel .nil) hd'), rfl, q _ (I.hok.fresh (Nat.le_refl _))⟩
theorem call_dictNk {w : World} {K : PySem.W.Frag} (hw : X.w = w) (hK : X.K = K) (hcalm : X.calm = true) (hu : X.A.units + 12 < cLine) : CallR X (.type "dict") (rDictN w K) := by subst hw hK; exact call_dictN hcalm hu
end
section
variable {K : PySem.W.Frag} {Ξ : XI} {F H : Hp} {w : World}
def pairDD (p : D × D) : D := .tup [p.1, p.2]
theorem PrN.merge : ∀ {kvs : List (D × D)} {ws : List (D × Addr × V)} (_ : PrN K F kvs ws) {acc : List (D × D)} {wcc : List (D × Addr × V)}, PrN K F acc wcc → PrN K F (mergeP acc kvs) (mergeN wcc ws)
  | _, _, .nil, _, _, h => h
  | _, _, .cons (a := p) (b := q) h t, acc, wcc, r => by
    refine PrN.merge t ?_
    show PrN K F (putP acc p.1 p.2) (putN wcc q.1 q.2.1 q.2.2)
    rw [show q.1 = p.1 from h.1.symm]
    exact r.put h.2.1 h.2.2.1 h.2.2.2
theorem PrN.keyN {kvs : List (D × D)} {ws : List (D × Addr × V)} (h : PrN K F kvs ws) (hs : Same F H) : ∀ kv ∈ ws, KeyN K H kv.1 kv.2.1 := by
  induction h with
  | nil => intro p hp; cases hp
  | @cons p q ps qs h t ih =>
    intro y hy
    rcases List.mem_cons.mp hy with rfl | hy
    · exact keyN_of hs (h.1 ▸ h.2.1) (h.1 ▸ h.2.2.1)
    · exact ih y hy
theorem rpA_pairs {F : Hp} : ∀ {kvs : List (D × D)} {vs : List V}, RpA K F (kvs.map pairDD) vs → (∀ p ∈ kvs, keyOk p.1) → ∃ (ps : List Addr) (ws : List (D × Addr × V)), vs = ps.map V.ref ∧ PrN K F kvs ws ∧ Paired (fun p kv => SqT K F p [.ref kv.2.1, kv.2.2]) ps ws
  | [], _, r, _ => by
    cases (show _ = [] from r)
    exact ⟨[], [], rfl, .nil, .nil⟩
  | p :: kvs, _, r, hk => by
    obtain ⟨v, vs, rfl, h1, h2⟩ := r
    obtain ⟨ps, ws, rfl, q1, q2⟩ := rpA_pairs h2 fun x hx => hk x (List.mem_cons_of_mem _ hx)
    obtain ⟨a, us, rfl, t1, t2⟩ := h1
    obtain ⟨u1, us1, rfl, r1, t2⟩ := t2
    obtain ⟨u2, us2, rfl, r2, t2⟩ := t2
    cases (show us2 = [] from t2)
    obtain ⟨hk1, hk2⟩ := hk p List.mem_cons_self
    obtain ⟨b, rfl⟩ := rp_ref hk2 r1
    exact ⟨a :: ps, (p.1, b, u2) :: ws, rfl, .cons ⟨rfl, hk1, r1, r2⟩ q1, .cons t1 q2⟩
def gDictN (w : World) : List D → (S → Prop) → Prop := fun ds q => match ds with
  | [.lst rows] => ∃ kvs, rows = kvs.map pairDD ∧ (∀ p ∈ kvs, keyOk p.1) ∧ q (.ow false (.dn w (mergeP [] kvs)))
  | _ => False
instance : CaL K (rDictN w K) (gDictN w) := ⟨fun {F H vs ds Q} q hs r h k => by
  unfold gDictN at h
  split at h
  · obtain ⟨kvs, rfl, hk, hq⟩ := h
    obtain ⟨v, rfl, a, us, rfl, h1, h2⟩ := r.one
    obtain ⟨ps, ws, rfl, q1, q2⟩ := rpA_pairs h2 hk
    refine ⟨a, ps, ws, rfl, SqL.of (hs _ _ h1), ?_, ?_, fun p hp => ?_⟩
    · exact Paired.mapP q2 fun _ _ z => hs.tupq z
    · exact q1.keyN hs
    · exact k _ F _ (.ow false (.dn w (mergeP [] kvs))) (Ext.ow hs hp _) ⟨p, [p], rfl, one_new hp (hs.free hp), rfl, _, upd_same, PrN.merge q1 .nil⟩ hq
  · exact h.elim⟩
end
/-- rows with different keys stay as they are -/
theorem mergeP_nodup : ∀ {kvs acc : List (D × D)}, ((acc ++ kvs).map (·.1)).Nodup → mergeP acc kvs = acc ++ kvs
  | [], acc, _ => (List.append_nil acc).symm
  | p :: kvs, acc, h => by
    have hp : putP acc p.1 p.2 = acc ++ [p] := by
      unfold putP
      rw [if_neg]
      intro z
      obtain ⟨x, hx, e⟩ := List.any_eq_true.mp z
      have e : x.1 = p.1 := by simpa using e
      rw [List.map_append, List.nodup_append] at h
      exact h.2.2 x.1 (List.mem_map_of_mem hx) p.1 List.mem_cons_self e
    show mergeP (putP acc p.1 p.2) kvs = _
    rw [hp, mergeP_nodup (by rw [List.append_assoc]; exact h), List.append_assoc]
    rfl
/-! ### sorted(d), a dict of data keys that are alike -/
mutual
theorem reads_there {h : Heap} : ∀ {v : Value} {d : PyData} {as : List Addr}, Reads h v d as → ∀ b ∈ as, ∃ o, h.get? b = some o
  | _, _, _, .none, _, hb => by simp at hb
  | _, _, _, .bool _, _, hb => by simp at hb
  | _, _, _, .int _ _, _, hb => by simp at hb
  | _, _, _, .str _ _, _, hb => by simp at hb
  | _, _, _, .list h1 h2 h3 h4, b, hb => by
    rcases List.mem_cons.mp hb with z | z
    · rw [z]; exact ⟨_, h1⟩
    · exact readsAll_there h4 b z
  | _, _, _, .tuple h1 h2 h3 h4, b, hb => readsAll_there h4 b hb
  | _, _, _, .dict h1 h2 h3 h4 h5, b, hb => by
    rcases List.mem_append.mp hb with z | z
    · rcases List.mem_cons.mp z with y | y
      · rw [y]; exact ⟨_, h1⟩
      · exact readsAll_there h4 b y
    · exact readsAll_there h5 b z
theorem readsAll_there {h : Heap} : ∀ {vs : List Value} {ds : List PyData} {as : List Addr}, ReadsAll h vs ds as → ∀ b ∈ as, ∃ o, h.get? b = some o
  | _, _, _, .nil, _, hb => by simp at hb
  | _, _, _, .cons h1 h2, b, hb => (List.mem_append.mp hb).elim (reads_there h1 b) (readsAll_there h2 b)
end
def rSortedND (w : World) (K : PySem.W.Frag) : List V → Hp → VK → Prop := fun xs H Q => ∃ (a : Addr) (ws : List (D × Addr × V)), xs = [.ref a] ∧ IsN w K H a ws ∧ PySem.W.AllAlike (ws.map fun p => p.1.py) ∧ PySem.W.Sortable (ws.map fun p => p.1.py) ∧
  ∀ p, H p = none → Q (.ref p) (upd H p (.lst ((ws.mergeSort fun x y => leD x.1 y.1).map fun p => V.ref p.2.1)))
section
variable {X : Cx} {pins : List (Addr × Obj)} {σ : L2.St} {H : Hp} {s : Shared}
theorem vals_refs2 : ∀ {zs : List (D × Addr × V)} {out : List Value}, PySem.W.EachIs (fun u z => u = Value.ref z.2.1) out zs → Vals (zs.map fun p => V.ref p.2.1) out
  | _, _, .nil => .nil
  | _, _, .cons h t => by subst h; exact .cons rfl (vals_refs2 t)
theorem each_refs {R : Value → (D × Addr × V) → Prop} : ∀ {zs : List (D × Addr × V)}, (∀ z ∈ zs, R (.ref z.2.1) z) → PySem.W.EachIs R (zs.map fun p => Value.ref p.2.1) zs
  | [], _ => .nil
  | z :: zs, h => .cons (h z List.mem_cons_self) (each_refs fun y hy => h y (List.mem_cons_of_mem _ hy))
theorem cr_sortedND (hcalm : X.calm = true) (hu : X.A.units + 64 < cLine) : CallR X (.builtin "sorted") (rSortedND X.w X.K) := by
  intro pins s σ H xs us Q I r q
  obtain ⟨a, ws, rfl, hd, hal, hso, q⟩ := q
  obtain ⟨u, rfl, rx⟩ := vals1 r
  obtain rfl : u = Value.ref a := rx
  obtain ⟨z, lo, es, ep, hat, hs, hk⟩ := dn_raw I hd
  refine Calls.call_function_entry PyProof.Rows.kind_sorted PyProof.Rows.plain_sorted PyProof.Rows.entry_sorted (PyProof.Rows.args_sorted1 _) ?_
  unfold Builtin.«sorted»
  refine wpAny_bind (m := checkCount "sorted" 1 1 _) (wpAny_pure ?_)
  refine wpAny_bind (PySem.W.kdu_collect (A := X.A.in1) (kdl_raw (es := es) (ep := ep) lo) (I.ok.hd hcalm) hat (by rw [hs]; exact z) fun h' tk acc hkp hacc => ?_)
  have hv := keys_vals (acc := acc.toList) hs hk (by rw [Array.length_toList]; exact hacc.1) fun j v e => hacc.2 j v (by rw [← Array.getElem?_toList]; exact e)
  have I1 : Inv X pins σ H { s with heap := h', toks := tk } := I.kept hkp
  have hsz : acc.toList.length ≤ sizeLine := by rw [hv, List.length_map]; exact z
  refine wpAny_bind (wpAny_newList ?_ hsz)
  have hoL : (h'.push (seqObj "list" acc.toList.toArray 0)).get? h'.objs.size = some (seqObj "list" acc.toList.toArray 0) := Heap.get?_push_size _ rfl
  show wpAny _ _ _ _ _ { s with heap := h'.push (seqObj "list" acc.toList.toArray 0), toks := tk }
  have hen : PySem.W.EachIs (fun u z => u = Value.ref z.2.1) acc.toList ws := by rw [hv]; exact each_refs fun z _ => rfl
  have her : PySem.W.EachIs (fun v (b : D × Addr × V) => ∃ as, Reads (h'.push (seqObj "list" acc.toList.toArray 0)) v b.1.py as ∧ h'.objs.size ∉ as) acc.toList ws := by
    rw [hv]
    refine each_refs fun z hz => ?_
    obtain ⟨_, as, rr⟩ := (hd.2 z hz).is I1
    refine ⟨as, PyProof.Rows.Reads.keeps (fun b o e => Heap.get?_push_of_some _ e) rr, fun hm => ?_⟩
    obtain ⟨o, ho⟩ := reads_there rr _ hm
    exact absurd (Heap.lt_size ho) (Nat.lt_irrefl _)
  refine wpAny_bind (wpAny_holding ?_)
  refine PySem.W.list_sort_data (s := { s with heap := h'.push (seqObj "list" acc.toList.toArray 0), toks := tk }) (bs := ws) (enc := fun b => b.1.py) (R := fun u z => u = Value.ref z.2.1) hoL hen her hal hso (by rw [← hen.length]; exact hsz) (fun b hb => ?_) fun out hout eo => ?_
  · have h6 : b.1.py.depth ≤ 6 := (D.py_lay 6 (D.hk_pl 6 (hd.2 b hb).1)).2
    show X.A.units + 1 + 1 + b.1.py.depth < cLine
    omega
  · obtain ⟨e', he'⟩ := PyProof.Rows.sortedHeap_at (vs := acc.toList) (out := out.toArray) hoL
    refine wpAny_pure ⟨_, rfl, .ref h'.objs.size, upd H h'.objs.size (.lst ((ws.mergeSort (PySem.W.dataLe false fun b => b.1.py)).map fun p => V.ref p.2.1)), I1.laid (t' := tk) (fun b u e => ?_) (Nat.le_refl _)
      (show ObjOk X.prog X.w _ _ _ (.lst _) from ⟨by rw [List.length_map, List.length_mergeSort]; exact z, out, e', vals_refs2 eo, he'⟩), rfl, q _ (I1.hok.fresh (Nat.le_refl _))⟩
    have hb : b < h'.objs.size := Heap.lt_size e
    rw [PyProof.Rows.sortedHeap_old (Nat.ne_of_lt hb) (by rw [size_push']; exact Nat.lt_succ_of_lt hb)]
    exact Heap.get?_push_of_some _ e
theorem cr_sortedNDk {K : PySem.W.Frag} {w : World} (hw : X.w = w) (hK : X.K = K) (hcalm : X.calm = true) (hu : X.A.units + 64 < cLine) : CallR X (.builtin "sorted") (rSortedND w K) := by subst hw hK; exact cr_sortedND hcalm hu
end
section
variable {K : PySem.W.Frag} {Ξ : XI} {w : World}
/-- sorted(d) -/
def pSortDnD (w : World) (i : Nat) : PX := fun s q => ∃ b kvs, s[i]? = some (some (.ow b (.dn w kvs))) ∧ PySem.W.AllAlike (kvs.map fun p => p.1.py) ∧ PySem.W.Sortable (kvs.map fun p => p.1.py) ∧ q (.ow false (.lst (sortD (kvs.map (·.1))))) s
instance {i : Nat} : LiftE K Ξ (tCB (rSortedND w K) (tCons (tVar i) tNil)) (pSortDnD w i) := ⟨fun {F H ω s σ Q} q T h k => by
  obtain ⟨b, kvs, e, hal, hso, hq⟩ := h
  obtain ⟨l, ws, hv, hl, h1, hp, hi⟩ := dn_own T e
  obtain ⟨hw, hkw⟩ := hp.self
  have e1 : (kvs.map fun p => p.1.py) = ws.map fun p => p.1.py := by
    have := congrArg (List.map D.py) hkw
    rw [List.map_map, List.map_map] at this
    exact this
  rw [e1] at hal hso
  refine ⟨_, hv, l, ws, rfl, hi, hal, hso, fun p hpn => ?_⟩
  have e2 : sortD (kvs.map (·.1)) = (ws.mergeSort fun x y => leD x.1 y.1).map (·.1) := by
    unfold sortD
    rw [hkw, ← PySem.W.sort_maps (r := fun x y => leD x.1 y.1) (fun z : D × Addr × V => z.1) (fun a _ b _ => rfl)]
  rw [e2] at hq
  refine Ext.lst (q := fun z => q z s) T.sf (refs_perm hw (List.mergeSort_perm _ _)) hq (fun v F' H' z e r hq => ?_) hpn
  obtain ⟨p2, T2⟩ := e.stp T
  exact k v F' H' ω z s p2 T2 (Rn.rt (Stp.refl T.tb) T r) hq⟩
end
/-! ### a dict's pairs by data: what law_from's sums become -/
theorem hu65 {k : Nat} {A : Around} (hr : Room k A) : A.units + 64 < cLine := hr.units
/-! ### dicts: the same entries, the values as a list, get with None; texts in order -/
section
variable {X : Cx}
theorem eqAt_self {A : Around} {s : Shared} {v : V} {u u' : Value} (r : RelV v u) (r' : RelV v u') (f : flatB v = true ∨ ∃ a, v = .ref a) : SeqAt.EqAt A s u u' true := by
  rcases f with f | ⟨a, rfl⟩
  · exact eqAt_same r r' f
  · obtain rfl : u = Value.ref a := r
    obtain rfl : u' = Value.ref a := r'
    exact SeqAt.EqAt.same _
theorem hits_self {κ : Type} [DecidableEq κ] {A : Around} {s : Shared} {kvs : List (κ × V)} {vb : List (κ × Value)} (rb : KV kvs vb) {ks : List (κ × V)} {va : List (κ × Value)} (ra : KV ks va) :
    (∀ p ∈ ks, valV kvs p.1 = some p.2 ∧ (flatB p.2 = true ∨ ∃ a, p.2 = .ref a)) → PySem.W.KeqHits A s vb va true := by
  unfold KV at ra
  induction ra with
  | nil => intro _; exact .nil
  | @cons p q ps qs h t ih =>
    intro hp
    obtain ⟨h1, h2⟩ := h
    obtain ⟨e, f⟩ := hp p List.mem_cons_self
    have rr : RelO (some p.2) (valueAt vb p.1) := by rw [← e]; exact rb.val p.1
    obtain ⟨y, hy, ry⟩ := rr.some_of
    obtain ⟨k, v⟩ := q
    have h1' : p.1 = k := h1
    rw [h1'] at hy
    show PySem.W.KeqHits A s vb ((k, v) :: qs) (true && true)
    exact .hit hy (eqAt_self h2 ry f) (ih fun p' hm => hp p' (List.mem_cons_of_mem _ hm))
/-- d == e, both with the very same entries -/
def rEqDict : V → V → Hp → VK → Prop := fun x y H Q => ∃ a b kvs, x = .ref a ∧ y = .ref b ∧ Rd H a (.dK kvs) ∧ Rd H b (.dK kvs) ∧ (kvs.map (·.1)).Nodup ∧ (∀ p ∈ kvs, flatB p.2 = true ∨ ∃ a, p.2 = .ref a) ∧ Q (.bl true) H
theorem op_eq_dictS (hu : X.A.units < cLine) : OpR X (compareOp .Eq) rEqDict := by
  intro pins s σ H x y v u Q I rx ry h
  obtain ⟨a, b, kvs, rfl, rfl, ea, eb, nd, fl, q⟩ := h
  obtain rfl : v = Value.ref a := rx
  obtain rfl : u = Value.ref b := ry
  obtain ⟨_, ya, va, ra, da⟩ := dk_rd I.hok ea
  obtain ⟨_, yb, vb, rb, db⟩ := dk_rd I.hok eb
  have hl : va.length = vb.length := ra.length.symm.trans rb.length
  exact PySem.W.keq_eq (knd := mixKind X.prog X.w) (r := true) ya yb da db hu (fun _ => hits_self rb ra fun p hp => ⟨val_nodup nd p hp, fl p hp⟩) (fin_bl I q (by simp [hl]))
/-- the view d.values() at p -/
def valsO (p d : Addr) : HO := .ext fun h => h.IsValuesView p d
theorem valsO_ok {P : Program} {w : World} {H : Hp} {h : Heap} {p d : Addr} (e : h.get? p = some { cls := .type "dict_values", data := .fields #[.ref d] }) : ObjOk P w H h p (valsO p d) :=
  ⟨⟨_, e, rfl, rfl⟩, ⟨_, e⟩, fun h1 h2 x k => let ⟨o, ho, r⟩ := x; ⟨o, k o ho, r⟩⟩
def rValues : V → List V → Hp → VK → Prop := fun x xs H Q => ∃ (a : Addr) (kvs : List (Key × V)), x = .ref a ∧ xs = [] ∧ Rd H a (.dK kvs) ∧ ∀ p, H p = none → Q (.ref p) (upd H p (valsO p a))
theorem mt_valuesD : MtR X "dict.values" rValues := by
  intro pins s σ H x xs v us Q I rx rxs h
  obtain ⟨a, kvs, rfl, rfl, ha, q⟩ := h
  cases rx
  cases rxs
  obtain ⟨z, hd, vs, rel, dd⟩ := dk_rd I.hok ha
  have hf : H s.heap.objs.size = none := I.hok.fresh (Nat.le_refl _)
  refine call_meetsIn PySem.F.slot_dict_values dd.typeIs PySem.F.entry_dict_values (PySem.F.args_dict_values_1 _) (meets_dict_values (mixKind X.prog X.w) a hd) ⟨⟨vs, dd⟩, ?_⟩
  exact ⟨.ref s.heap.objs.size, upd H s.heap.objs.size (valsO s.heap.objs.size a), I.laid (t' := s.toks) (fun b u e => Heap.get?_push_of_some _ e) (Nat.le_refl _) (valsO_ok (Heap.get?_push_size _ rfl)), rfl, q _ hf⟩
theorem kv_vals {κ : Type} {kvs : List (κ × V)} {vs : List (κ × Value)} (r : KV kvs vs) : Vals (kvs.map (·.2)) (vs.map (·.2)) := by
  unfold KV at r
  induction r with
  | nil => exact .nil
  | cons h t ih => exact .cons h.2 ih
/-- list of a view of values -/
def rListVals : List V → Hp → VK → Prop := fun xs H Q => ∃ (p a : Addr) (kvs : List (Key × V)), xs = [.ref p] ∧ H p = some (valsO p a) ∧ Rd H a (.dK kvs) ∧ ∀ q, H q = none → Q (.ref q) (upd H q (.lst (kvs.map (·.2))))
theorem call_listVals (hcalm : X.calm = true) : CallR X (.type "list") rListVals := by
  intro pins s σ H xs us Q I r q
  obtain ⟨p, a, kvs, rfl, hp, hd, q⟩ := q
  obtain ⟨u, rfl, rx⟩ := vals1 r
  cases rx
  obtain ⟨z, lo, vs, rel, dd⟩ := dk_rd I.hok hd
  obtain ⟨ep, hat⟩ := dd.dictAt
  have hv : s.heap.IsValuesView p a := (I.hok p _ hp).1
  refine PySem.W.kdl_call (PySem.W.kdl_values (knd := mixKind X.prog X.w) (kvs := vs) (ep := ep)) (I.ok.hd hcalm) ⟨hv, hat⟩ (by rw [← rel.length]; exact z) fun h' tk acc c' hk hD hacc => ?_
  have ev : acc.toList = vs.map (·.2) := PySem.W.kdl_vals_eq acc.toList (by rw [Array.length_toList]; exact hacc.1) fun j v e => hacc.2 j v (by rw [← Array.getElem?_toList]; exact e)
  refine ⟨.ref s.heap.objs.size, upd H s.heap.objs.size (.lst (kvs.map (·.2))), I.laid (t' := tk) hk (Nat.le_refl _)
    (show ObjOk X.prog X.w _ _ _ (.lst (kvs.map (·.2))) from ⟨by rw [List.length_map]; exact z, acc.toList, c', by rw [ev]; exact kv_vals rel, by rw [Array.toArray_toList]; exact hD⟩), rfl, q _ (I.hok.fresh (Nat.le_refl _))⟩
/-- d.get(y, x), y may be None (d's keys ints and texts then) -/
theorem d_getNone {pins : List (Addr × Obj)} {σ : L2.St} {H : Hp} {s : Shared} {a : Addr} {kvs : List (Key × V)} {A : Around} {E Q : Value → Shared → Prop} {r : Value} (I : Inv X pins σ H s) (e : Rd H a (.dK kvs)) (h : ∀ s', Inv X pins σ H s' → Q r s') :
    wpAny (model X.prog X.w) A (call (.builtin "dict.get") [.ref a, .none, r]) Q E s := by
  obtain ⟨_, hd, vs, _, dd⟩ := dk_rd I.hok e
  obtain ⟨f, hm, hf⟩ := none_map dd
  refine call_meetsIn PySem.F.slot_dict_get dd.typeIs PySem.F.entry_dict_get (PySem.F.args_dict_get_3 _ _ _) (meets_dict_get_default (noneKind X.prog X.w) a (k := none) rfl hd r) ⟨_, hm, ?_⟩
  rw [hf]
  exact h _ (I.tok _)
def tDGet2N (td ty tx : TE) : TE := fun σ H Q => td σ H fun x H1 => ∃ a, x = .ref a ∧ IsD H1 a ∧ ty σ H1 fun y H2 => tx σ H2 fun z H3 => (∃ o, DGet H3 a y o ∧ Q (o.getD z) H3) ∨ ∃ kvs, y = .non ∧ Rd H3 a (.dK kvs) ∧ Q z H3
theorem pe_dget2N {o e f : Expr} {apos cpos : Pos} {td ty tx : TE} (hu : X.A.units + 1 < cLine) (ho : PE X o td) (he : PE X e ty) (hf : PE X f tx) (m : M2 X o "get" apos e f cpos) : PE X (.Call (.Attribute o "get" apos) [e, f] [] cpos) (tDGet2N td ty tx) := by
  refine ⟨fun pins s σ H Q I h => ?_⟩
  refine wpAny_Call_method m.base m.few m.line PySem.F.plainAttrs_dict PySem.F.slot_dict_get PySem.F.type_dict_get (thn (ho.run pins s σ H _ I h) fun u s1 ⟨x, H1, I1, rx, a, ex, d, q1⟩ => ?_)
  subst ex
  obtain rfl : u = Value.ref a := rx
  obtain ⟨t1, t2, _⟩ := isD_at I1 d
  refine ⟨t1, t2, ?_⟩
  rw [m.trees]
  refine Calls.callWith_builtin rfl (Calls.evalArgs_plain (Calls.spliced_cons (thn (he.run pins s1 σ H1 _ I1 q1) fun iv s2 ⟨y, H2, I2, ry, q2⟩ =>
    Calls.spliced_cons (thn (hf.run pins s2 σ H2 _ I2 q2) fun fv s3 ⟨z, H3, I3, rz, q3⟩ => Calls.spliced_nil ?_))))
  rcases q3 with ⟨ov, g, q3⟩ | ⟨kvs, rfl, g, q3⟩
  · exact d_get2 hu I3 g ry rz fun w' s4 I4 rw' => ⟨_, H3, I4, rw', q3⟩
  · obtain rfl : iv = Value.none := ry
    exact d_getNone I3 g fun s4 I4 => ⟨_, H3, I4, rz, q3⟩
end
/-- texts in order, by their code points -/
def leS (a b : Str) : Prop := ltCps b.cps.toList a.cps.toList = false
theorem leS_iff {a b : Str} : leS a b ↔ ¬ b.cps.toList < a.cps.toList := by
  unfold leS
  rw [PyProof.Rows.ltCps_eq]
  exact decide_eq_false_iff_not
theorem leS_anti {a b : Str} (h1 : leS a b) (h2 : leS b a) : a = b := by
  rw [leS_iff] at h1 h2
  have e : a.cps.toList = b.cps.toList := List.le_antisymm (List.not_lt.mp h1) (List.not_lt.mp h2)
  cases a with
  | mk x =>
    cases b with
    | mk y => exact congrArg Str.mk (Array.toList_inj.mp e)
theorem leS_trans {a b c : Str} (h1 : leS a b) (h2 : leS b c) : leS a c := by
  rw [leS_iff] at *
  exact List.not_lt.mpr (List.le_trans (List.not_lt.mp h1) (List.not_lt.mp h2))
theorem rising_pw : ∀ (l : List Str) (p : Str), risingS p l = true → (p :: l).Pairwise leS
  | [], p, _ => List.pairwise_cons.mpr ⟨fun _ h => absurd h List.not_mem_nil, .nil⟩
  | x :: r, p, h => by
    obtain ⟨h1, h2⟩ := Bool.and_eq_true_iff.mp h
    have ih := rising_pw r x h2
    have hpx : leS p x := by
      unfold leS
      revert h1
      cases ltCps x.cps.toList p.cps.toList with
      | true => intro h; cases h
      | false => intro _; rfl
    refine List.pairwise_cons.mpr ⟨fun y hy => ?_, ih⟩
    rcases List.mem_cons.mp hy with rfl | hy
    · exact hpx
    · exact leS_trans hpx ((List.pairwise_cons.mp ih).1 y hy)
theorem sorted_pw : ∀ {l : List Str}, sortedS l = true → l.Pairwise leS
  | [], _ => .nil
  | x :: r, h => rising_pw r x h
theorem pw_uniq {α : Type} {le : α → α → Prop} (anti : ∀ a b, le a b → le b a → a = b) : ∀ {l m : List α}, l.Pairwise le → m.Pairwise le → l.Perm m → l = m
  | [], m, _, _, p => (List.nil_perm.mp p).symm
  | x :: r, [], _, _, p => absurd p.length_eq (by simp)
  | x :: r, y :: t, h1, h2, p => by
    obtain ⟨a1, b1⟩ := List.pairwise_cons.mp h1
    obtain ⟨a2, b2⟩ := List.pairwise_cons.mp h2
    have e : x = y := by
      have hx : x ∈ y :: t := p.subset List.mem_cons_self
      have hy : y ∈ x :: r := p.symm.subset List.mem_cons_self
      rcases List.mem_cons.mp hx with e | hx
      · exact e
      · rcases List.mem_cons.mp hy with e | hy
        · exact e.symm
        · exact anti _ _ (a1 y hy) (a2 x hx)
    subst e
    rw [pw_uniq anti b1 b2 (List.Perm.cons_inv p)]
theorem sortedS_uniq {l m : List Str} (h1 : sortedS l = true) (h2 : sortedS m = true) (p : l.Perm m) : l = m := pw_uniq (fun _ _ => leS_anti) (sorted_pw h1) (sorted_pw h2) p
/-! ### dicts whose keys are ints and texts: read as data or in a slot of their own, changed in place -/
noncomputable def valK (kvs : List (Key × D)) (k : Key) : Option D := (kvs.find? fun p => decide (p.1 = k)).map (·.2)
noncomputable def putKD (kvs : List (Key × D)) (k : Key) (e : D) : List (Key × D) :=
  if (kvs.any fun p => decide (p.1 = k)) = true then kvs.map (fun p => if p.1 = k then (p.1, e) else p) else kvs ++ [(k, e)]
/-- a value that is such a dict, in a slot -/
def dkS (x : Option (Option S)) (f : List (Key × D) → Prop) : Prop := match x with
  | some (some (.fr (.dik ks ds))) => f (ks.zip ds)
  | some (some (.ow _ (.dk kvs))) => f kvs
  | _ => False
def hasS (x : Option (Option S)) (P : Prop) : Prop := match x with
  | some (some _) => P
  | _ => False
theorem hasS_of {x : Option (Option S)} {P : Prop} (h : hasS x P) : (∃ y, x = some (some y)) ∧ P := by
  unfold hasS at h
  split at h
  · exact ⟨⟨_, rfl⟩, h⟩
  · exact h.elim
def withK (d : D) (f : Key → Prop) : Prop := match keyD d with
  | some k => f k
  | none => False
section
variable {K : PySem.W.Frag} {Ξ : XI} {F H : Hp}
theorem key_rp {d : D} {k : Key} {v : V} (e : keyD d = some k) (h : Rp K F d v) : v = kV k := by
  cases d <;> first | (cases e; done) | (cases e; exact h)
theorem withK_of {d : D} {f : Key → Prop} {v : V} (h : withK d f) (r : Rp K F d v) : ∃ k, v = kV k ∧ f k := by
  unfold withK at h
  split at h
  · rename_i k e
    exact ⟨k, key_rp e r, h⟩
  · exact h.elim
theorem PrK.val {kvs : List (Key × D)} {ws : List (Key × V)} (h : PrK K F kvs ws) (k : Key) : (∃ e v, valK kvs k = some e ∧ valV ws k = some v ∧ Rp K F e v) ∨ (valK kvs k = none ∧ valV ws k = none) := by
  induction h with
  | nil => exact .inr ⟨rfl, rfl⟩
  | @cons p q ps qs h t ih =>
    by_cases e : p.1 = k
    · exact .inl ⟨p.2, q.2, by simp [valK, List.find?_cons, e], valV_pos (h.1.symm.trans e), h.2⟩
    · rw [valV_neg fun z => e (h.1.trans z), show valK (p :: ps) k = valK ps k by simp [valK, List.find?_cons, e]]
      exact ih
theorem PrK.anyK {kvs : List (Key × D)} {ws : List (Key × V)} (h : PrK K F kvs ws) (k : Key) : (kvs.any fun p => decide (p.1 = k)) = (ws.any fun p => decide (p.1 = k)) := by
  induction h with
  | nil => rfl
  | @cons p q ps qs h t ih => rw [List.any_cons, List.any_cons, ih, h.1]
theorem PrK.replK {kvs : List (Key × D)} {ws : List (Key × V)} (h : PrK K F kvs ws) {k : Key} {e : D} {v : V} (he : Rp K F e v) :
    PrK K F (kvs.map fun p => if p.1 = k then (p.1, e) else p) (ws.map fun p => if p.1 = k then (p.1, v) else p) := by
  induction h with
  | nil => exact .nil
  | @cons p q ps qs h t ih =>
    rw [List.map_cons, List.map_cons]
    refine .cons ?_ ih
    by_cases z : p.1 = k
    · rw [if_pos z, if_pos (h.1.symm.trans z)]
      exact ⟨h.1, he⟩
    · rw [if_neg z, if_neg (fun y => z (h.1.trans y))]
      exact h
theorem PrK.putK {kvs : List (Key × D)} {ws : List (Key × V)} (h : PrK K F kvs ws) {k : Key} {e : D} {v : V} (he : Rp K F e v) : PrK K F (putKD kvs k e) (L2.putK ws k v) := by
  unfold putKD L2.putK
  rw [h.anyK k]
  split
  · exact h.replK he
  · exact Paired.snoc h ⟨rfl, he⟩
theorem prk_zip : ∀ {ks : List Key} {ds : List D} {ws : List (Key × V)}, ks = ws.map (·.1) → RpA K F ds (ws.map (·.2)) → PrK K F (ks.zip ds) ws
  | _, _, [], rfl, h => by
    have := RpA.len h
    rw [List.map_nil, List.length_nil] at this
    cases List.length_eq_zero_iff.mp this
    exact .nil
  | _, [], p :: ws, rfl, h => by
    have := RpA.len h
    simp at this
  | _, d :: ds, p :: ws, rfl, h => by
    obtain ⟨v, us, e, h1, h2⟩ := h
    cases e
    exact .cons ⟨rfl, h1⟩ (prk_zip rfl h2)
theorem prk_len {kvs : List (Key × D)} {ws : List (Key × V)} (h : PrK K F kvs ws) : kvs.length = ws.length := Paired.length h
theorem dik_rd {ks : List Key} {ds : List D} {v : V} (hs : Same F H) (h : Rp K F (.dik ks ds) v) : ∃ a ws, v = .ref a ∧ Rd H a (.dK ws) ∧ PrK K F (ks.zip ds) ws := by
  obtain ⟨a, ws, rfl, h1, h2, h3⟩ := h
  exact ⟨a, ws, rfl, rd_same hs h1, prk_zip h2 h3⟩
theorem dkS_run {i : Nat} {F H : Hp} {ω : Om} {s : Sl} {σ : L2.St} {f : List (Key × D) → Prop} (T : Sta K Ξ F H ω s σ) (h : dkS s[i]? f) :
    ∃ l kvs ws, σ[i]? = some (some (.ref l)) ∧ Rd H l (.dK ws) ∧ PrK K F kvs ws ∧ f kvs := by
  unfold dkS at h
  split at h
  · rename_i ks ds e
    obtain ⟨v, hv, r⟩ := T.at' i _ e
    obtain ⟨a, ws, rfl, h1, h2⟩ := dik_rd T.sf r
    exact ⟨a, _, ws, hv, h1, h2, h⟩
  · rename_i b kvs e
    obtain ⟨v, hv, l, A, rfl, hl, _, _, ws, h1, h2⟩ := T.at' i _ e
    exact ⟨l, kvs, ws, hv, .inl h1, h2, h⟩
  · exact h.elim
theorem dgetK {H : Hp} {a : Addr} {ws : List (Key × V)} {k : Key} (e : Rd H a (.dK ws)) : DGet H a (kV k) (valV ws k) := .inl ⟨ws, k, e, rfl, rfl⟩
/-! {} -/
instance : LiftE K Ξ tDNewK (fun s q => q (.ow false (.dk [])) s) := ⟨fun {F H ω s σ Q} q T h k p hp => by
  have e := Ext.ow T.sf hp (.dK [])
  obtain ⟨p2, T2⟩ := e.stp T
  exact k (.ref p) F _ ω (.ow false (.dk [])) s p2 T2 ⟨p, [p], rfl, fun a ha => by cases List.mem_singleton.mp ha; exact ⟨hp, Sta.free T.base hp, T.sf.free hp⟩, rfl, [], upd_same, .nil⟩ h⟩
/-! d[k] -/
def getS (o : Option D) (q : S → Prop) : Prop := match o with
  | some e => q (.fr e)
  | none => False
theorem getS_of {o : Option D} {q : S → Prop} (h : getS o q) : ∃ e, o = some e ∧ q (.fr e) := by
  cases o with
  | none => exact h.elim
  | some e => exact ⟨e, rfl, h⟩
def dkD (d : D) (f : List (Key × D) → Prop) : Prop := match d with
  | .dik ks ds => f (ks.zip ds)
  | _ => False
theorem dkD_of {d : D} {f : List (Key × D) → Prop} {v : V} (hs : Same F H) (h : dkD d f) (r : Rp K F d v) : ∃ a kvs ws, v = .ref a ∧ Rd H a (.dK ws) ∧ PrK K F kvs ws ∧ f kvs := by
  unfold dkD at h
  split at h
  · obtain ⟨a, ws, e, h1, h2⟩ := dik_rd hs r
    exact ⟨a, _, ws, e, h1, h2, h⟩
  · exact h.elim
def pDGetD (p pi : PD) : PX := fun s q => p s fun d s1 => pi s1 fun k s2 => dkD d fun kvs => withK k fun k => getS (valK kvs k) fun z => q z s2
instance {t ti : TE} {p pi : PD} [LiftD K Ξ t p] [LiftD K Ξ ti pi] : LiftE K Ξ (tDGet t ti) (pDGetD p pi) := ⟨fun {F H ω s σ Q} q T h k => by
  refine LiftD.run (K := K) (t := t) (p := p) _ T h fun v F1 H1 ω1 d s1 p1 T1 r1 h1 => ?_
  refine LiftD.run (K := K) (t := ti) (p := pi) _ T1 h1 fun y F2 H2 ω2 d2 s2 p2 T2 r2 h2 => ?_
  obtain ⟨a, kvs, ws, rfl, hr, hp, h3⟩ := dkD_of T2.sf h2 (r1.mono p2.sf)
  obtain ⟨κ, rfl, h4⟩ := withK_of h3 r2
  obtain ⟨e, ev, h5⟩ := getS_of h4
  rcases hp.val κ with ⟨e', v', z1, z2, z3⟩ | ⟨z1, _⟩
  · rw [ev] at z1
    cases z1
    exact ⟨a, v', rfl, z2 ▸ dgetK hr, k v' F2 H2 ω2 (.fr e) s2 (p1.trans p2) T2 z3 h5⟩
  · rw [ev] at z1
    cases z1⟩
def pDGetV (i : Nat) (pi : PD) : PX := fun s q => hasS s[i]? (pi s fun k s2 => dkS s2[i]? fun kvs => withK k fun k => getS (valK kvs k) fun z => q z s2)
instance (priority := high) {i : Nat} {ti : TE} {pi : PD} [LiftD K Ξ ti pi] : LiftE K Ξ (tDGet (tVar i) ti) (pDGetV i pi) := ⟨fun {F H ω s σ Q} q T h k => by
  obtain ⟨⟨x, ex⟩, h⟩ := hasS_of h
  obtain ⟨v0, hv0, _⟩ := T.at' i x ex
  refine ⟨v0, hv0, LiftD.run (K := K) (t := ti) (p := pi) _ T h fun y F2 H2 ω2 d2 s2 p2 T2 r2 h2 => ?_⟩
  obtain ⟨l, kvs, ws, hv, hr, hp, h3⟩ := dkS_run T2 h2
  rw [hv0] at hv
  cases hv
  obtain ⟨κ, rfl, h4⟩ := withK_of h3 r2
  obtain ⟨e, ev, h5⟩ := getS_of h4
  rcases hp.val κ with ⟨e', v', z1, z2, z3⟩ | ⟨z1, _⟩
  · rw [ev] at z1
    cases z1
    exact ⟨l, v', rfl, z2 ▸ dgetK hr, k v' F2 H2 ω2 (.fr e) s2 p2 T2 z3 h5⟩
  · rw [ev] at z1
    cases z1⟩
/-! k in d -/
def pDIn (f : Bool → Bool) (pi p : PD) : PX := fun s q => pi s fun k s1 => p s1 fun d s2 => dkD d fun kvs => withK k fun k => q (.fr (.bl (f (valK kvs k).isSome))) s2
def pDInV (f : Bool → Bool) (i : Nat) (pi : PD) : PX := fun s q => pi s fun k s2 => dkS s2[i]? fun kvs => withK k fun k => q (.fr (.bl (f (valK kvs k).isSome))) s2
theorem valK_some {kvs : List (Key × D)} {ws : List (Key × V)} (h : PrK K F kvs ws) (k : Key) : (valV ws k).isSome = (valK kvs k).isSome := by
  rcases h.val k with ⟨e, v, z1, z2, _⟩ | ⟨z1, z2⟩
  · rw [z1, z2]; rfl
  · rw [z1, z2]; rfl
instance {t ti : TE} {p pi : PD} [LiftD K Ξ t p] [LiftD K Ξ ti pi] : LiftE K Ξ (tDIn ti t) (pDIn id pi p) := ⟨fun {F H ω s σ Q} q T h k => by
  refine LiftD.run (K := K) (t := ti) (p := pi) _ T h fun y F1 H1 ω1 d1 s1 p1 T1 r1 h1 => ?_
  refine LiftD.run (K := K) (t := t) (p := p) _ T1 h1 fun v F2 H2 ω2 d2 s2 p2 T2 r2 h2 => ?_
  obtain ⟨a, kvs, ws, rfl, hr, hp, h3⟩ := dkD_of T2.sf h2 r2
  obtain ⟨κ, rfl, h4⟩ := withK_of h3 r1
  refine ⟨a, _, rfl, dgetK hr, ?_⟩
  rw [valK_some hp κ]
  exact k _ F2 H2 ω2 (.fr (.bl _)) s2 (p1.trans p2) T2 rfl h4⟩
instance {t ti : TE} {p pi : PD} [LiftD K Ξ t p] [LiftD K Ξ ti pi] : LiftE K Ξ (tDNotIn ti t) (pDIn not pi p) := ⟨fun {F H ω s σ Q} q T h k => by
  refine LiftD.run (K := K) (t := ti) (p := pi) _ T h fun y F1 H1 ω1 d1 s1 p1 T1 r1 h1 => ?_
  refine LiftD.run (K := K) (t := t) (p := p) _ T1 h1 fun v F2 H2 ω2 d2 s2 p2 T2 r2 h2 => ?_
  obtain ⟨a, kvs, ws, rfl, hr, hp, h3⟩ := dkD_of T2.sf h2 r2
  obtain ⟨κ, rfl, h4⟩ := withK_of h3 r1
  refine ⟨a, _, rfl, dgetK hr, ?_⟩
  rw [valK_some hp κ]
  exact k _ F2 H2 ω2 (.fr (.bl _)) s2 (p1.trans p2) T2 rfl h4⟩
instance (priority := high) {i : Nat} {ti : TE} {pi : PD} [LiftD K Ξ ti pi] : LiftE K Ξ (tDIn ti (tVar i)) (pDInV id i pi) := ⟨fun {F H ω s σ Q} q T h k => by
  refine LiftD.run (K := K) (t := ti) (p := pi) _ T h fun y F2 H2 ω2 d2 s2 p2 T2 r2 h2 => ?_
  obtain ⟨l, kvs, ws, hv, hr, hp, h3⟩ := dkS_run T2 h2
  obtain ⟨κ, rfl, h4⟩ := withK_of h3 r2
  refine ⟨_, hv, l, _, rfl, dgetK hr, ?_⟩
  rw [valK_some hp κ]
  exact k _ F2 H2 ω2 (.fr (.bl _)) s2 p2 T2 rfl h4⟩
instance (priority := high) {i : Nat} {ti : TE} {pi : PD} [LiftD K Ξ ti pi] : LiftE K Ξ (tDNotIn ti (tVar i)) (pDInV not i pi) := ⟨fun {F H ω s σ Q} q T h k => by
  refine LiftD.run (K := K) (t := ti) (p := pi) _ T h fun y F2 H2 ω2 d2 s2 p2 T2 r2 h2 => ?_
  obtain ⟨l, kvs, ws, hv, hr, hp, h3⟩ := dkS_run T2 h2
  obtain ⟨κ, rfl, h4⟩ := withK_of h3 r2
  refine ⟨_, hv, l, _, rfl, dgetK hr, ?_⟩
  rw [valK_some hp κ]
  exact k _ F2 H2 ω2 (.fr (.bl _)) s2 p2 T2 rfl h4⟩
/-! d.get(k, x), k may be None; d.get(k) -/
def getN (kvs : List (Key × D)) (k x : D) (q : D → Prop) : Prop := match keyD k with
  | some κ => q ((valK kvs κ).getD x)
  | none => match k with
    | .non => q x
    | _ => False
theorem getN_run {F H : Hp} {kvs : List (Key × D)} {ws : List (Key × V)} {a : Addr} {d e : D} {y z : V} {q : D → Prop} {Q : V → Prop} (hr : Rd H a (.dK ws)) (hp : PrK K F kvs ws) (r2 : Rp K F d y) (r3 : Rp K F e z) (h : getN kvs d e q) (k : ∀ v f, Rp K F f v → q f → Q v) :
    (∃ o, DGet H a y o ∧ Q (o.getD z)) ∨ ∃ kvs, y = .non ∧ Rd H a (.dK kvs) ∧ Q z := by
  unfold getN at h
  split at h
  · rename_i κ ek
    cases key_rp ek r2
    refine .inl ⟨_, dgetK hr, ?_⟩
    rcases hp.val κ with ⟨e', v', z1, z2, z3⟩ | ⟨z1, z2⟩
    · rw [z1] at h
      rw [z2]
      exact k v' e' z3 h
    · rw [z1] at h
      rw [z2]
      exact k z e r3 h
  · split at h
    · exact .inr ⟨ws, r2, hr, k z e r3 h⟩
    · exact h.elim
def pDGet2D (p pi px : PD) : PX := fun s q => p s fun d s1 => dkD d fun _ => pi s1 fun k s2 => px s2 fun x s3 => dkD d fun kvs => getN kvs k x fun z => q (.fr z) s3
instance {t ti tx : TE} {p pi px : PD} [LiftD K Ξ t p] [LiftD K Ξ ti pi] [LiftD K Ξ tx px] : LiftE K Ξ (tDGet2N t ti tx) (pDGet2D p pi px) := ⟨fun {F H ω s σ Q} q T h k => by
  refine LiftD.run (K := K) (t := t) (p := p) _ T h fun v F1 H1 ω1 d s1 p1 T1 r1 h1 => ?_
  obtain ⟨a, _, ws, rfl, hr, _, h1⟩ := dkD_of T1.sf h1 r1
  refine ⟨a, rfl, .inl ⟨_, hr⟩, ?_⟩
  refine LiftD.run (K := K) (t := ti) (p := pi) _ T1 h1 fun y F2 H2 ω2 d2 s2 p2 T2 r2 h2 => ?_
  refine LiftD.run (K := K) (t := tx) (p := px) _ T2 h2 fun z F3 H3 ω3 e s3 p3 T3 r3 h3 => ?_
  obtain ⟨a', kvs, ws', e', hr', hp', h4⟩ := dkD_of T3.sf h3 ((r1.mono p2.sf).mono p3.sf)
  cases e'
  exact getN_run hr' hp' (r2.mono p3.sf) r3 h4 fun v f r hq => k v F3 H3 ω3 (.fr f) s3 ((p1.trans p2).trans p3) T3 r hq⟩
def pDGet2V (i : Nat) (pi px : PD) : PX := fun s q => dkS s[i]? fun _ => pi s fun k s2 => px s2 fun x s3 => dkS s3[i]? fun kvs => getN kvs k x fun z => q (.fr z) s3
instance (priority := high) {i : Nat} {ti tx : TE} {pi px : PD} [LiftD K Ξ ti pi] [LiftD K Ξ tx px] : LiftE K Ξ (tDGet2N (tVar i) ti tx) (pDGet2V i pi px) := ⟨fun {F H ω s σ Q} q T h k => by
  obtain ⟨a, _, ws, hv, hr, _, h1⟩ := dkS_run T h
  refine ⟨_, hv, a, rfl, .inl ⟨_, hr⟩, ?_⟩
  refine LiftD.run (K := K) (t := ti) (p := pi) _ T h1 fun y F2 H2 ω2 d2 s2 p2 T2 r2 h2 => ?_
  refine LiftD.run (K := K) (t := tx) (p := px) _ T2 h2 fun z F3 H3 ω3 e s3 p3 T3 r3 h3 => ?_
  obtain ⟨a', kvs, ws', hv', hr', hp', h4⟩ := dkS_run T3 h3
  rw [hv] at hv'
  cases hv'
  exact getN_run hr' hp' (r2.mono p3.sf) r3 h4 fun v f r hq => k v F3 H3 ω3 (.fr f) s3 (p2.trans p3) T3 r hq⟩
def pDGet1D (p pi : PD) : PX := fun s q => p s fun d s1 => dkD d fun _ => pi s1 fun k s2 => dkD d fun kvs => withK k fun k => q (.fr ((valK kvs k).getD .non)) s2
instance {t ti : TE} {p pi : PD} [LiftD K Ξ t p] [LiftD K Ξ ti pi] : LiftE K Ξ (tDGet1 t ti) (pDGet1D p pi) := ⟨fun {F H ω s σ Q} q T h k => by
  refine LiftD.run (K := K) (t := t) (p := p) _ T h fun v F1 H1 ω1 d s1 p1 T1 r1 h1 => ?_
  obtain ⟨a, _, ws, rfl, hr, _, h1⟩ := dkD_of T1.sf h1 r1
  refine ⟨a, rfl, .inl ⟨_, hr⟩, ?_⟩
  refine LiftD.run (K := K) (t := ti) (p := pi) _ T1 h1 fun y F2 H2 ω2 d2 s2 p2 T2 r2 h2 => ?_
  obtain ⟨a', kvs, ws', e', hr', hp', h3⟩ := dkD_of T2.sf h2 (r1.mono p2.sf)
  cases e'
  obtain ⟨κ, rfl, h4⟩ := withK_of h3 r2
  refine ⟨_, dgetK hr', ?_⟩
  rcases hp'.val κ with ⟨e', v', z1, z2, z3⟩ | ⟨z1, z2⟩
  · rw [z1] at h4
    rw [z2]
    exact k v' F2 H2 ω2 (.fr e') s2 (p1.trans p2) T2 z3 h4
  · rw [z1] at h4
    rw [z2]
    exact k .non F2 H2 ω2 (.fr .non) s2 (p1.trans p2) T2 rfl h4⟩
def pDGet1V (i : Nat) (pi : PD) : PX := fun s q => dkS s[i]? fun _ => pi s fun k s2 => dkS s2[i]? fun kvs => withK k fun k => q (.fr ((valK kvs k).getD .non)) s2
instance (priority := high) {i : Nat} {ti : TE} {pi : PD} [LiftD K Ξ ti pi] : LiftE K Ξ (tDGet1 (tVar i) ti) (pDGet1V i pi) := ⟨fun {F H ω s σ Q} q T h k => by
  obtain ⟨a, _, ws, hv, hr, _, h1⟩ := dkS_run T h
  refine ⟨_, hv, a, rfl, .inl ⟨_, hr⟩, ?_⟩
  refine LiftD.run (K := K) (t := ti) (p := pi) _ T h1 fun y F2 H2 ω2 d2 s2 p2 T2 r2 h2 => ?_
  obtain ⟨a', kvs, ws', hv', hr', hp', h3⟩ := dkS_run T2 h2
  rw [hv] at hv'
  cases hv'
  obtain ⟨κ, rfl, h4⟩ := withK_of h3 r2
  refine ⟨_, dgetK hr', ?_⟩
  rcases hp'.val κ with ⟨e', v', z1, z2, z3⟩ | ⟨z1, z2⟩
  · rw [z1] at h4
    rw [z2]
    exact k v' F2 H2 ω2 (.fr e') s2 p2 T2 z3 h4
  · rw [z1] at h4
    rw [z2]
    exact k .non F2 H2 ω2 (.fr .non) s2 p2 T2 rfl h4⟩
/-! d[k] = v, d[k] op= v -/
def dkOw (x : Option (Option S)) (f : Bool → List (Key × D) → Prop) : Prop := match x with
  | some (some (.ow b (.dk kvs))) => f b kvs
  | _ => False
theorem dkOw_run {i : Nat} {F H : Hp} {ω : Om} {s : Sl} {σ : L2.St} {f : Bool → List (Key × D) → Prop} (T : Sta K Ξ F H ω s σ) (h : dkOw s[i]? f) :
    ∃ l b kvs ws, s[i]? = some (some (.ow b (.dk kvs))) ∧ σ[i]? = some (some (.ref l)) ∧ ω l = some (i, tgR b) ∧ H l = some (.dK ws) ∧ PrK K F kvs ws ∧ f b kvs := by
  unfold dkOw at h
  split at h
  · rename_i b kvs e
    obtain ⟨v, hv, l, A, rfl, hl, _, _, ws, h1, h2⟩ := T.at' i _ e
    exact ⟨l, b, kvs, ws, e, hv, hl, h1, h2, h⟩
  · exact h.elim
theorem dk_mut {i : Nat} {F H : Hp} {ω : Om} {s : Sl} {σ : L2.St} {b : Bool} {kvs : List (Key × D)} {l : Addr} {ws : List (Key × V)} (T : Sta K Ξ F H ω s σ) (hv : σ[i]? = some (some (.ref l))) (hl : ω l = some (i, tgR b)) (r : PrK K F kvs ws) :
    ∃ ω', Stp F H ω F (upd H l (.dK ws)) ω' ∧ Sta K Ξ F (upd H l (.dK ws)) ω' (s.set i (some (.ow b (.dk kvs)))) σ := T.mut hv hl ⟨rfl, ws, upd_same, r⟩
def psDPutV (i : Nat) (pi pv : PD) : PS1 := fun E s => pv s fun e s1 => hasS s1[i]? (pi s1 fun d s2 => dkOw s2[i]? fun b kvs => withK d fun k => kvs.length < 100000 ∧ E.nx (s2.set i (some (.ow b (.dk (putKD kvs k e))))))
instance {i : Nat} {ti tv : TE} {pi pv : PD} [LiftD K Ξ ti pi] [LiftD K Ξ tv pv] : LiftS K Ξ (sDPut (tVar i) ti tv) (psDPutV i pi pv) := ⟨fun {H0 F H ω s σ D} E T h M => by
  refine LiftD.run (K := K) (t := tv) (p := pv) _ T h fun v F1 H1 ω1 e s1 p1 T1 r1 h1 => ?_
  obtain ⟨⟨x, ex⟩, h1⟩ := hasS_of h1
  obtain ⟨v0, hv0, _⟩ := T1.at' i x ex
  refine ⟨v0, hv0, LiftD.run (K := K) (t := ti) (p := pi) _ T1 h1 fun y F2 H2 ω2 d s2 p2 T2 r2 h2 => ?_⟩
  obtain ⟨l, b, kvs, ws, _, hv, hw, hh, hp, h3⟩ := dkOw_run T2 h2
  rw [hv0] at hv
  cases hv
  obtain ⟨κ, rfl, hl, hq⟩ := withK_of h3 r2
  obtain ⟨ω3, p3, T3⟩ := dk_mut T2 hv0 hw (hp.putK (k := κ) (r1.mono p2.sf))
  exact ⟨l, _, rfl, DPut.k hh (by rw [← prk_len hp]; exact Nat.lt_trans hl (by decide)), M.nx ((p1.trans p2).trans p3) T3 hq⟩⟩
def psDAugV (i : Nat) (pi pv : PD) (f : Int → Int → Int) : PS1 := fun E s => hasS s[i]? (pi s fun d s2 => dkS s2[i]? fun kvs => withK d fun k => getS (valK kvs k) fun z => pv s2 fun e s3 => match z, e with
  | .fr (.int a), .int c => dkOw s3[i]? fun b kvs => kvs.length < 100000 ∧ E.nx (s3.set i (some (.ow b (.dk (putKD kvs k (.int (f a c)))))))
  | _, _ => False)
instance {i : Nat} {ti tv : TE} {pi pv : PD} {f : Int → Int → Int} [LiftD K Ξ ti pi] [LiftD K Ξ tv pv] : LiftS K Ξ (sDAug (tVar i) ti tv (rI0 fun a c => .int (f a c))) (psDAugV i pi pv f) := ⟨fun {H0 F H ω s σ D} E T h M => by
  obtain ⟨⟨x, ex⟩, h⟩ := hasS_of h
  obtain ⟨v0, hv0, _⟩ := T.at' i x ex
  refine ⟨v0, hv0, LiftD.run (K := K) (t := ti) (p := pi) _ T h fun y F2 H2 ω2 d s2 p2 T2 r2 h2 => ?_⟩
  obtain ⟨l, kvs, ws, hv, hr, hp, h3⟩ := dkS_run T2 h2
  rw [hv0] at hv
  cases hv
  obtain ⟨κ, rfl, h4⟩ := withK_of h3 r2
  obtain ⟨e, ev, h5⟩ := getS_of h4
  rcases hp.val κ with ⟨e', v', z1, z2, z3⟩ | ⟨z1, _⟩
  · rw [ev] at z1
    cases z1
    refine ⟨l, v', rfl, z2 ▸ dgetK hr, LiftD.run (K := K) (t := tv) (p := pv) _ T2 h5 fun v F3 H3 ω3 e3 s3 p3 T3 r3 h6 => ?_⟩
    split at h6
    · rename_i z e3 a c ez
      cases ez
      obtain ⟨l', b, kvs', ws', _, hv', hw, hh, hp', hl, hq⟩ := dkOw_run T3 h6
      rw [hv0] at hv'
      cases hv'
      cases (show v' = V.int a from z3)
      cases (show v = V.int c from r3)
      obtain ⟨ω4, p4, T4⟩ := dk_mut T3 hv0 hw (hp'.putK (k := κ) (e := .int (f a c)) (v := .int (f a c)) rfl)
      exact ⟨a, c, rfl, rfl, _, DPut.k hh (by rw [← prk_len hp']; exact Nat.lt_trans hl (by decide)), M.nx ((p2.trans p3).trans p4) T4 hq⟩
    · exact h6.elim
  · rw [ev] at z1
    cases z1⟩
/-! dict(d), list(d), len(d) -/
theorem prk_dk {F H : Hp} {ω : Om} {s : Sl} {σ : L2.St} {kvs : List (Key × D)} {ws : List (Key × V)} {Q : VK} {q : S → Sl → Prop} (T : Sta K Ξ F H ω s σ) (hp : PrK K F kvs ws) (h : q (.ow false (.dk kvs)) s)
    (k : ∀ (v : V) (F' H' : Hp) (ω' : Om) (x : S) (s' : Sl), Stp F H ω F' H' ω' → Sta K Ξ F' H' ω' s' σ → Rt K H F' H' ω' x v → q x s' → Q v H') : ∀ p, H p = none → Q (.ref p) (upd H p (.dK ws)) := fun p hp' => by
  have e := Ext.ow T.sf hp' (.dK ws)
  obtain ⟨p2, T2⟩ := e.stp T
  exact k (.ref p) F _ ω (.ow false (.dk kvs)) s p2 T2 ⟨p, [p], rfl, fun a ha => by cases List.mem_singleton.mp ha; exact ⟨hp', Sta.free T.base hp', T.sf.free hp'⟩, rfl, ws, upd_same, hp⟩ h
def rDictD : List V → Hp → VK → Prop := fun xs H Q => ∃ (a : Addr) (kvs : List (Key × V)), xs = [.ref a] ∧ Rd H a (.dK kvs) ∧ ∀ p, H p = none → Q (.ref p) (upd H p (.dK kvs))
def gDictOf : List D → (S → Prop) → Prop := fun ds q => match ds with
  | [.dik ks es] => q (.ow false (.dk (ks.zip es)))
  | _ => False
instance : CaL K (fun xs H Q => ∃ (a : Addr) (kvs : List (Key × V)), xs = [.ref a] ∧ Rd H a (.dK kvs) ∧ ∀ p, H p = none → Q (.ref p) (upd H p (.dK kvs))) gDictOf := ⟨fun {F H vs ds Q} q hs r h k => by
  unfold gDictOf at h
  split at h
  · obtain ⟨v, rfl, h1⟩ := r.one
    obtain ⟨a, ws, rfl, h2, h3⟩ := dik_rd hs h1
    refine ⟨a, ws, rfl, h2, fun p hp => k (.ref p) F _ (.ow false (.dk _)) (Ext.ow hs hp _) ⟨p, [p], rfl, fun a ha => by cases List.mem_singleton.mp ha; exact ⟨hp, hs.free hp⟩, rfl, ws, upd_same, h3⟩ h⟩
  · exact h.elim⟩
def pDictV (i : Nat) : PX := fun s q => dkS s[i]? fun kvs => q (.ow false (.dk kvs)) s
instance (priority := high) {i : Nat} : LiftE K Ξ (tCB (fun xs H Q => ∃ (a : Addr) (kvs : List (Key × V)), xs = [.ref a] ∧ Rd H a (.dK kvs) ∧ ∀ p, H p = none → Q (.ref p) (upd H p (.dK kvs))) (tCons (tVar i) tNil)) (pDictV i) := ⟨fun {F H ω s σ Q} q T h k => by
  obtain ⟨a, kvs, ws, hv, hr, hp, h1⟩ := dkS_run T h
  exact ⟨_, hv, a, ws, rfl, hr, prk_dk T hp h1 k⟩⟩
end
theorem valK_pos {p : Key × D} {r : List (Key × D)} {k : Key} (e : p.1 = k) : valK (p :: r) k = some p.2 := by simp [valK, List.find?_cons, e]
theorem valK_neg {p : Key × D} {r : List (Key × D)} {k : Key} (e : ¬ p.1 = k) : valK (p :: r) k = valK r k := by simp [valK, List.find?_cons, e]
theorem valK_any (k : Key) : ∀ l : List (Key × D), (l.any fun p => decide (p.1 = k)) = (valK l k).isSome
  | [] => rfl
  | p :: r => by
    rw [List.any_cons, valK_any k r]
    by_cases h : p.1 = k
    · rw [valK_pos h, decide_eq_true h]; rfl
    · rw [valK_neg h, decide_eq_false h]; rfl
theorem valK_map (k j : Key) (e : D) : ∀ l : List (Key × D), valK (l.map fun p => if p.1 = k then (p.1, e) else p) j = (valK l j).map fun x => if j = k then e else x
  | [] => rfl
  | p :: r => by
    rw [List.map_cons]
    by_cases h : p.1 = k
    · rw [if_pos h]
      by_cases h2 : p.1 = j
      · rw [valK_pos (p := (p.1, e)) h2, valK_pos h2]
        show some e = some (if j = k then e else p.2)
        rw [if_pos (h2.symm.trans h)]
      · rw [valK_neg (p := (p.1, e)) h2, valK_neg h2, valK_map k j e r]
    · rw [if_neg h]
      by_cases h2 : p.1 = j
      · rw [valK_pos h2, valK_pos h2]
        show some p.2 = some (if j = k then e else p.2)
        rw [if_neg (fun z => h (h2.trans z))]
      · rw [valK_neg h2, valK_neg h2, valK_map k j e r]
theorem valK_snoc (k j : Key) (e : D) : ∀ l : List (Key × D), valK l k = none → valK (l ++ [(k, e)]) j = if j = k then some e else valK l j
  | [], _ => by
    by_cases h : k = j
    · rw [if_pos h.symm]; exact valK_pos (p := (k, e)) h
    · rw [if_neg (Ne.symm h)]; exact valK_neg (p := (k, e)) (r := []) h
  | p :: r, hn => by
    have h1 : ¬ p.1 = k := fun z => by rw [valK_pos z] at hn; cases hn
    rw [valK_neg h1] at hn
    rw [List.cons_append]
    by_cases h3 : p.1 = j
    · rw [valK_pos h3, valK_pos h3, if_neg (fun z => h1 (h3.trans z))]
    · rw [valK_neg h3, valK_neg h3, valK_snoc k j e r hn]
theorem valK_put (kvs : List (Key × D)) (k j : Key) (e : D) : valK (putKD kvs k e) j = if j = k then some e else valK kvs j := by
  unfold putKD
  rw [valK_any]
  cases h : valK kvs k with
  | some v =>
    rw [if_pos (by rfl), valK_map]
    by_cases hj : j = k
    · rw [hj, h, if_pos rfl]; show some (if k = k then e else v) = _; rw [if_pos rfl]
    · rw [if_neg hj]
      cases valK kvs j with
      | none => rfl
      | some x => show some (if j = k then e else x) = _; rw [if_neg hj]
  | none => rw [if_neg (by decide), valK_snoc _ _ _ _ h]
theorem putKD_len (kvs : List (Key × D)) (k : Key) (e : D) : (putKD kvs k e).length ≤ kvs.length + 1 := by
  unfold putKD
  split
  · rw [List.length_map]; omega
  · rw [List.length_append]; exact Nat.le_refl _
/-! ### {k: v, ..}, {k: v for ..} -/
section
variable {K : PySem.W.Frag} {Ξ : XI}
abbrev PP1 := Sl → (List (D × D) → Sl → Prop) → Prop
abbrev RpP (K : PySem.W.Frag) (F : Hp) : List (D × D) → List (V × V) → Prop := Paired fun d v => Rp K F d.1 v.1 ∧ Rp K F d.2 v.2
class LiftPP (K : PySem.W.Frag) (Ξ : XI) (l : List (TE × TE)) (p : outParam PP1) : Prop where
  run : ∀ {F H : Hp} {ω : Om} {s : Sl} {σ : L2.St} {R : List (V × V) → Hp → Prop} (q : List (D × D) → Sl → Prop), Sta K Ξ F H ω s σ → p s q →
    (∀ ps F' H' ω' ds s', Stp F H ω F' H' ω' → Sta K Ξ F' H' ω' s' σ → RpP K F' ds ps → q ds s' → R ps H') → tPairs l σ H R
instance : LiftPP K Ξ [] (fun s q => q [] s) := ⟨fun {F H ω s σ R} q T h k => k [] F H ω [] s (Stp.refl T.tb) T .nil h⟩
def ppCons (pk pv : PD) (r : PP1) : PP1 := fun s q => pk s fun d s1 => pv s1 fun e s2 => r s2 fun ds s3 => q ((d, e) :: ds) s3
instance {tk tv : TE} {l : List (TE × TE)} {pk pv : PD} {r : PP1} [LiftD K Ξ tk pk] [LiftD K Ξ tv pv] [LiftPP K Ξ l r] : LiftPP K Ξ ((tk, tv) :: l) (ppCons pk pv r) := ⟨fun {F H ω s σ R} q T h k => by
  refine LiftD.run (K := K) (t := tk) (p := pk) _ T h fun v F1 H1 ω1 d s1 p1 T1 r1 h1 => ?_
  refine LiftD.run (K := K) (t := tv) (p := pv) _ T1 h1 fun y F2 H2 ω2 e s2 p2 T2 r2 h2 => ?_
  refine LiftPP.run (K := K) (l := l) (p := r) _ T2 h2 fun ps F3 H3 ω3 ds s3 p3 T3 r3 h3 => ?_
  exact k _ F3 H3 ω3 _ s3 ((p1.trans p2).trans p3) T3 (.cons ⟨(r1.mono p2.sf).mono p3.sf, r2.mono p3.sf⟩ r3) h3⟩
/-- pairs of a key and a value -/
def kvsOf : List (D × D) → Option (List (Key × D))
  | [] => some []
  | (d, e) :: r => match keyD d, kvsOf r with
    | some k, some m => some ((k, e) :: m)
    | _, _ => none
theorem kvsOf_run {F : Hp} : ∀ {ds : List (D × D)} {ps : List (V × V)} {kvs : List (Key × D)}, kvsOf ds = some kvs → RpP K F ds ps → ∃ ws : List (Key × V), ps = ws.map (fun kv => (kV kv.1, kv.2)) ∧ PrK K F kvs ws := by
  intro ds ps kvs h r
  induction r generalizing kvs with
  | nil => cases h; exact ⟨[], rfl, .nil⟩
  | @cons x y xs ys hh t ih =>
    obtain ⟨d, e⟩ := x
    unfold kvsOf at h
    split at h
    · rename_i k m e1 e2
      cases h
      obtain ⟨ws, rfl, hp⟩ := ih e2
      obtain ⟨y1, y2⟩ := y
      have := key_rp e1 hh.1
      exact ⟨(k, y2) :: ws, by rw [List.map_cons, ← this], .cons ⟨rfl, hh.2⟩ hp⟩
    · cases h
noncomputable def mergeKD (kvs more : List (Key × D)) : List (Key × D) := more.foldl (fun acc kv => putKD acc kv.1 kv.2) kvs
theorem PrK.merge {F : Hp} {more : List (Key × D)} {ms : List (Key × V)} (h : PrK K F more ms) : ∀ {kvs : List (Key × D)} {ws : List (Key × V)}, PrK K F kvs ws → PrK K F (mergeKD kvs more) (L2.mergeK ws ms) := by
  induction h with
  | nil => exact fun h => h
  | @cons p q ps qs h t ih =>
    intro kvs ws r
    have := r.putK (k := p.1) h.2
    show PrK K F (mergeKD (putKD kvs p.1 p.2) ps) (L2.mergeK (L2.putK ws q.1 q.2) qs)
    rw [← h.1]
    exact ih this
def pDisp (p : PP1) : PX := fun s q => p s fun ds s1 => match kvsOf ds with
  | some kvs => kvs.length ≤ 15 ∧ q (.ow false (.dk (mergeKD [] kvs))) s1
  | none => False
instance {l : List (TE × TE)} {p : PP1} [LiftPP K Ξ l p] : LiftE K Ξ (tDisp l) (pDisp p) := ⟨fun {F H ω s σ Q} q T h k A hA => by
  have e0 : Ext F H F (upd H A (.dK [])) := Ext.ow T.sf hA _
  obtain ⟨p2, T2⟩ := e0.stp T
  refine LiftPP.run (K := K) (l := l) (p := p) _ T2 h fun ps F1 H1 ω1 ds s1 p1 T1 r1 h1 => ?_
  have a1 := p1.fr A _ (T.tb.new hA) (Sta.free T.base hA) upd_same
  have a2 := p1.fn A _ (Sta.free T.base hA) upd_same (T.sf.free hA)
  have a3 := p1.om A _ (Sta.free T.base hA) upd_same
  split at h1
  · rename_i kvs ek
    obtain ⟨ws, rfl, hp⟩ := kvsOf_run ek r1
    refine ⟨a1, ws, rfl, by rw [← prk_len hp]; exact h1.1, ?_⟩
    exact k _ F1 _ ω1 (.ow false (.dk (mergeKD [] kvs))) s1 ((p2.trans p1).mutNew hA) ⟨Sta.mutFree T1.base a3 a2 (T.tb.new hA), T.ex.step ((p2.trans p1).mutNew hA)⟩
      ⟨A, [A], rfl, fun a ha => by cases List.mem_singleton.mp ha; exact ⟨hA, a3, a2⟩, rfl, _, upd_same, hp.merge .nil⟩ h1.2
  · exact h1.elim⟩
def pDc (pi : PI1) (pg : PG1) (ss : List Nat) (pt : PT1) (pk pv : PD) (vs : List Nat) : PX := fun s q => pi s fun ds s1 => if ss.all vs.contains = true then ∃ I : Nat → List (Key × D) → Sl → Prop, I 0 [] (wipeS s1 vs) ∧
  (∀ i d acc s2, ds[i]? = some d → I i acc s2 → pg d s2 fun s3 => pt s3 (fun s4 => pk s4 fun e s5 => pv s5 fun z s6 => withK e fun k => acc.length < 100000 ∧ I (i + 1) (putKD acc k z) (wipeS s6 vs)) (fun s4 => I (i + 1) acc (wipeS s4 vs))) ∧
  ∀ acc s2, I ds.length acc s2 → q (.ow false (.dk acc)) s2 else False
theorem dc_it {J : It} {n : Nat} {G : Hp → Prop} {Y : Nat → Hp → V → Hp → Prop} (Wk : Walk J n G Y) {g : TG} {tt : TT} {tk tv : TE} {vs : List Nat} {σ : L2.St} {H1 : Hp} {D : Addr} {Qd : Hp → Prop} (Pv : Nat → Hp → Prop) (h0 : Pv 0 (upd H1 D (.dK []))) (hG : ∀ i H, i ≤ n → Pv i H → G H)
    (hs : ∀ i x H H', i < n → Pv i H → Y i H x H' → g x (L2.wipe σ vs) H' fun σ2 H2 => L2.wipe σ2 vs = L2.wipe σ vs ∧ tt σ2 H2 fun b H3 =>
      if b = true then tk σ2 H3 fun y H4 => tv σ2 H4 fun z H5 => ∃ kvs k, y = kV k ∧ H5 D = some (.dK kvs) ∧ kvs.length < sizeLine ∧ Pv (i + 1) (upd H5 D (.dK (L2.putK kvs k z))) else Pv (i + 1) H3) (hd : ∀ H, Pv n H → Qd H) :
    ∃ W : Nat → Nat → Hp → Prop, (∃ m, W 0 m (upd H1 D (.dK []))) ∧ ∀ i m H, W i m H →
      (J.stop i H ∧ Qd H) ∨ (J.go i H ∧ ∃ Nx : Hp → Prop, (∀ H', Nx H' → ∃ m', m' < m ∧ W (i + 1) m' H') ∧ ∀ x H', J.yld i H x H' → g x (L2.wipe σ vs) H' fun σ2 H2 => L2.wipe σ2 vs = L2.wipe σ vs ∧ tt σ2 H2 fun b H3 =>
        if b = true then tk σ2 H3 fun y H4 => tv σ2 H4 fun z H5 => ∃ kvs k, y = kV k ∧ H5 D = some (.dK kvs) ∧ kvs.length < sizeLine ∧ Nx (upd H5 D (.dK (L2.putK kvs k z))) else Nx H3) := by
  refine ⟨fun i m H => m = n - i ∧ i ≤ n ∧ Pv i H, ⟨n, by simp, Nat.zero_le _, h0⟩, ?_⟩
  rintro i m H ⟨rfl, hi, p⟩
  by_cases hlt : i < n
  · refine .inr ⟨Wk.goes i H hlt (hG i H hi p), Pv (i + 1), fun H' p' => ⟨n - (i + 1), by omega, rfl, hlt, p'⟩, fun x H' y => ?_⟩
    exact hs i x H H' hlt p (Wk.yields i H x H' hlt (hG i H hi p) y)
  · have e : i = n := by omega
    subst e
    exact .inl ⟨Wk.stops H (hG _ H hi p), hd H p⟩
instance {wi : TI} {g : TG} {tt : TT} {tk tv : TE} {vs : List Nat} {pi : PI1} {pg : PG1} {ss : List Nat} {pt : PT1} {pk pv : PD} [LiftI K Ξ wi pi] [LiftG K XI.zero g pg ss] [LiftT K XI.zero tt pt] [LiftD K XI.zero tk pk] [LiftD K XI.zero tv pv] : LiftE K Ξ (tDc wi g tt tk tv vs) (pDc pi pg ss pt pk pv vs) := ⟨fun {F H ω s σ Q} kk T h k => by
  refine LiftI.run (K := K) (t := wi) (p := pi) _ T h fun J F1 H1 ω1 ds s1 p1 T1 w1 h1 => ?_
  split at h1
  rotate_left
  · exact h1.elim
  rename_i hss
  have hss' : ∀ i ∈ ss, i ∈ vs := fun i hi => by simpa using List.all_eq_true.mp hss i hi
  obtain ⟨I, i0, istep, iend⟩ := h1
  obtain ⟨G, Y, W, hG, hY⟩ := w1
  intro A hA
  have e0 : Ext F1 H1 F1 (upd H1 A (.dK [])) := Ext.ow T1.sf hA _
  obtain ⟨p2, T2⟩ := e0.stp T1
  have kk' : ∀ {F2 : Hp} {ω2 : Om} {s2 : Sl} {acc : List (Key × D)} {ws : List (Key × V)} {H' : Hp}, Sta0 K F2 H' ω2 s2 σ → I ds.length acc s2 → Stp F1 H1 ω1 F2 H' ω2 → ω2 A = none → F2 A = none → H' A = some (.dK ws) → PrK K F2 acc ws → Q (.ref A) H' :=
    fun {F2 ω2 s2 acc ws H'} T4 hI p3 a1 a2 a3 a4 => k _ F2 H' ω2 (.ow false (.dk acc)) s2 (p1.trans p3) ⟨T4, T1.ex.step p3⟩ ⟨A, [A], rfl, fun a ha => by cases List.mem_singleton.mp ha; exact ⟨p1.tr A hA, a1, a2⟩, rfl, ws, a3, a4⟩ (iend acc s2 hI)
  refine dc_it W (fun i H' => ∃ F2 ω2 s2 acc ws, Stp F1 H1 ω1 F2 H' ω2 ∧ Sta K XI.zero F2 H' ω2 s2 (L2.wipe σ vs) ∧ ω2 A = none ∧ F2 A = none ∧ H' A = some (.dK ws) ∧ PrK K F2 acc ws ∧ I i acc s2) ?_ ?_ ?_ ?_
  · exact ⟨F1, ω1, wipeS s1 vs, [], [], p2, ⟨(T2.wipe vs).base, Exo.zero⟩, Sta.free T1.base hA, T1.sf.free hA, upd_same, .nil, i0⟩
  · rintro i H' hi ⟨F2, ω2, s2, acc, ws, p3, T3, _⟩
    exact hG H' (p3.sf.trans T3.sf)
  · rintro i x H' H'' hi ⟨F2, ω2, s2, acc, ws, p3, T3, a1, a2, a3, a4, hI⟩ y
    have hd : ds[i]? = some ds[i] := List.getElem?_eq_getElem hi
    obtain ⟨F3, e3, r3⟩ := hY i H' x H'' F2 _ hd p3.sf T3.sf y
    obtain ⟨p4, T4⟩ := e3.stp T3
    refine LiftG.run (K := K) (g := g) (p := pg) (ss := ss) _ T4 r3 (istep i _ acc s2 hd hI) fun σ5 s5 T5 w5 h5 => ?_
    have hw5 : L2.wipe σ5 vs = L2.wipe σ vs := by rw [w5 vs hss']; exact wipe_wipe σ vs
    refine ⟨hw5, ?_⟩
    have pp := p3.trans p4
    refine LiftT.run (K := K) (t := tt) (p := pt) _ _ T5 h5 fun b F6 H6 ω6 s6 p6 T6 h6 => ?_
    have b1 : H'' A = some (.dK ws) := e3.sh _ _ a3
    have b2 : F3 A = none := e3.fn _ _ a3 a2
    have c1 := p6.fr A _ (T1.tb.new hA) a1 b1
    have c2 := p6.fn A _ a1 b1 b2
    have c3 := p6.om A _ a1 b1
    cases b with
    | false =>
      refine iteF ⟨F6, ω6, wipeS s6 vs, acc, ws, pp.trans p6, ?_, c3, c2, c1, a4.mono (e3.sf.trans p6.sf), by simpa using h6⟩
      have T7 := T6.wipe vs
      rw [hw5] at T7
      exact T7
    | true =>
      refine iteT (LiftD.run (K := K) (t := tk) (p := pk) _ T6 (by simpa using h6) fun y F7 H7 ω7 d s7 p7 T7 r7 h7 => ?_)
      refine LiftD.run (K := K) (t := tv) (p := pv) _ T7 h7 fun v F8 H8 ω8 d8 s8 p8 T8 r8 h8 => ?_
      have pq := p7.trans p8
      have d1 := pq.fr A _ (T1.tb.new hA) c3 c1
      have d2 := pq.fn A _ c3 c1 c2
      have d3 := pq.om A _ c3 c1
      obtain ⟨κ, rfl, hl, hI'⟩ := withK_of h8 (r7.mono p8.sf)
      have hlA : ws.length = acc.length := (prk_len a4).symm
      have T9 := T8.wipe vs
      rw [hw5] at T9
      exact ⟨ws, κ, rfl, d1, Nat.lt_of_le_of_lt (show ws.length ≤ 100000 by omega) (by decide), F8, ω8, wipeS s8 vs, putKD acc κ d8, L2.putK ws κ v, ((pp.trans p6).trans pq).mutNew hA, ⟨Sta.mutFree T9.base d3 d2 (T1.tb.new hA), Exo.zero⟩, d3, d2, upd_same,
        PrK.putK (PrK.mono (e3.sf.trans (p6.sf.trans pq.sf)) a4) r8, hI'⟩
  · rintro H' ⟨F2, ω2, s2, acc, ws, p3, T3, a1, a2, a3, a4, hI⟩
    exact kk' ⟨T3.tb, T3.sf, T3.ow, fun i x h => (T3.at' i x h).elim fun v hv => ⟨v, (wipe_some hv.1).1, hv.2⟩, by rw [T3.len, wipe_length], T3.ix⟩ hI p3 a1 a2 a3 a4⟩
end
/-! ### two ways to read a statement (one of them is taken); dicts of ints or texts: list(d), sorted(d); is not of bools -/
section
variable {X : Cx}
def sAlt (t u : TS) : TS := fun D σ H => t D σ H ∨ u D σ H
theorem ps_alt {st : Stmt} {t u : TS} (h : PS X st t) (h' : PS X st u) : PS X st (sAlt t u) := ⟨fun pins s σ H D I hq => hq.elim (h.run pins s σ H D I) (h'.run pins s σ H D I)⟩
def rNotBl : R2 := fun x y H Q => ∃ a b : Bool, x = .bl a ∧ y = .bl b ∧ Q (.bl (!decide (a = b))) H
theorem op_notBl2 : OpR X (compareOp .IsNot) rNotBl := by
  intro pins s σ H x y v u Q I rx ry h
  obtain ⟨a, b, rfl, rfl, q⟩ := h
  cases (show v = Value.bool a from rx)
  cases (show u = Value.bool b from ry)
  by_cases e : a = b
  · subst e
    exact wpAny_isNot_self rfl ⟨.bl false, H, I, rfl, by simpa using q⟩
  · exact wpAny_isNot_other rfl (fun z => e (Value.bool.inj z)) ⟨.bl true, H, I, rfl, by simpa [e] using q⟩
end
section
variable {K : PySem.W.Frag} {Ξ : XI}
def psAlt (p q : PS1) : PS1 := fun E s => p E s ∨ q E s
instance {t u : TS} {p q : PS1} [LiftS K Ξ t p] [LiftS K Ξ u q] : LiftS K Ξ (sAlt t u) (psAlt p q) := ⟨fun E T h M => h.elim
  (fun h => .inl (LiftS.run (K := K) (t := t) (p := p) E T h M)) (fun h => .inr (LiftS.run (K := K) (t := u) (p := q) E T h M))⟩
def gNotBl : D → D → (S → Prop) → Prop := fun d e q => match d, e with
  | .bl a, .bl b => q (.fr (.bl (!decide (a = b))))
  | _, _ => False
instance : OpL K rNotBl gNotBl := ⟨fun {F H x y d e Q} q hs h1 h2 h k => by
  unfold gNotBl at h
  split at h
  · rename_i a b
    cases (show x = V.bl a from h1)
    cases (show y = V.bl b from h2)
    exact ⟨a, b, rfl, rfl, k _ F H (.fr (.bl _)) (Ext.refl hs) rfl h⟩
  · exact h.elim⟩
theorem rp_key {F : Hp} (k : Key) : Rp K F (dKey k) (kV k) := by cases k <;> rfl
theorem PrK.keysA {F : Hp} {kvs : List (Key × D)} {ws : List (Key × V)} (h : PrK K F kvs ws) : RpA K F (kvs.map fun p => dKey p.1) (ws.map fun p => kV p.1) := by
  induction h with
  | nil => rfl
  | @cons p q ps qs h t ih =>
    refine ⟨_, _, rfl, ?_, ih⟩
    show Rp K F (dKey p.1) (kV q.1)
    rw [h.1]
    exact rp_key _
theorem PrK.fsts {F : Hp} {kvs : List (Key × D)} {ws : List (Key × V)} (h : PrK K F kvs ws) : kvs.map (·.1) = ws.map (·.1) := by
  induction h with
  | nil => rfl
  | @cons p q ps qs h t ih => rw [List.map_cons, List.map_cons, ih, h.1]
theorem ints_A {F : Hp} : ∀ ys : List Int, RpA K F (ys.map D.int) (ys.map V.int)
  | [] => rfl
  | _ :: ys => ⟨_, _, rfl, rfl, ints_A ys⟩
theorem strs_A {F : Hp} : ∀ ys : List Str, RpA K F (ys.map D.str) (ys.map V.str)
  | [] => rfl
  | _ :: ys => ⟨_, _, rfl, rfl, strs_A ys⟩
/-- list(d) -/
def pListDk (i : Nat) : PX := fun s q => dkS s[i]? fun kvs => q (.ow false (.lst (kvs.map fun p => dKey p.1))) s
instance {i : Nat} : LiftE K Ξ (tCB (fun xs H Q => ∃ (a : Addr) (kvs : List (Key × V)), xs = [.ref a] ∧ Rd H a (.dK kvs) ∧ ∀ p, H p = none → Q (.ref p) (upd H p (.lst (kvs.map fun kv => kV kv.1)))) (tCons (tVar i) tNil)) (pListDk i) := ⟨fun {F H ω s σ Q} q T h k => by
  obtain ⟨a, kvs, ws, hv, hr, hp, h1⟩ := dkS_run T h
  refine ⟨_, hv, a, ws, rfl, hr, fun p hpn => ?_⟩
  refine Ext.lst (q := fun z => q z s) T.sf hp.keysA h1 (fun v F' H' z e r hq => ?_) hpn
  obtain ⟨p2, T2⟩ := e.stp T
  exact k v F' H' ω z s p2 T2 (Rn.rt (Stp.refl T.tb) T r) hq⟩
/-- sorted(d), ints -/
def pSortDI (i : Nat) : PX := fun s q => dkS s[i]? fun kvs => ∃ ks : List Int, kvs.map (·.1) = ks.map Sum.inl ∧ ks.length < 64 ∧ ∀ ys : List Int, ys.Perm ks → ys.Pairwise (· ≤ ·) → q (.ow false (.lst (ys.map .int))) s
instance {i : Nat} : LiftE K Ξ (tCB (fun xs H Q => ∃ (a : Addr) (kvs : List (Key × V)) (ks : List Int), xs = [.ref a] ∧ Rd H a (.dK kvs) ∧ kvs.map (·.1) = ks.map Sum.inl ∧ ks.length < 64 ∧
    ∀ (ys : List Int) (p : Addr), ys.Perm ks → ys.Pairwise (· ≤ ·) → H p = none → Q (.ref p) (upd H p (.lst (ys.map V.int)))) (tCons (tVar i) tNil)) (pSortDI i) := ⟨fun {F H ω s σ Q} q T h k => by
  obtain ⟨a, kvs, ws, hv, hr, hp, ks, e, hl, h1⟩ := dkS_run T h
  refine ⟨_, hv, a, ws, ks, rfl, hr, by rw [← hp.fsts, e], hl, fun ys p hy hw hpn => ?_⟩
  refine Ext.lst (K := K) (q := fun z => q z s) T.sf (ints_A ys) (h1 ys hy hw) (fun v F' H' z e r hq => ?_) hpn
  obtain ⟨p2, T2⟩ := e.stp T
  exact k v F' H' ω z s p2 T2 (Rn.rt (Stp.refl T.tb) T r) hq⟩
/-- sorted(d), texts -/
def pSortDS (i : Nat) : PX := fun s q => dkS s[i]? fun kvs => ∃ ks : List Str, kvs.map (·.1) = ks.map Sum.inr ∧ ks.length < 64 ∧ ∀ ys : List Str, ys.Perm ks → sortedS ys = true → q (.ow false (.lst (ys.map .str))) s
instance {i : Nat} : LiftE K Ξ (tCB (fun xs H Q => ∃ (a : Addr) (kvs : List (Key × V)) (ks : List Str), xs = [.ref a] ∧ Rd H a (.dK kvs) ∧ kvs.map (·.1) = ks.map Sum.inr ∧ ks.length < 64 ∧
    ∀ ys p, ys.Perm ks → sortedS ys = true → H p = none → Q (.ref p) (upd H p (.lst (ys.map V.str)))) (tCons (tVar i) tNil)) (pSortDS i) := ⟨fun {F H ω s σ Q} q T h k => by
  obtain ⟨a, kvs, ws, hv, hr, hp, ks, e, hl, h1⟩ := dkS_run T h
  refine ⟨_, hv, a, ws, ks, rfl, hr, by rw [← hp.fsts, e], hl, fun ys p hy hw hpn => ?_⟩
  refine Ext.lst (K := K) (q := fun z => q z s) T.sf (strs_A ys) (h1 ys hy hw) (fun v F' H' z e r hq => ?_) hpn
  obtain ⟨p2, T2⟩ := e.stp T
  exact k v F' H' ω z s p2 T2 (Rn.rt (Stp.refl T.tb) T r) hq⟩
end
/-! ### d == e, two dicts with the same int values -/
section
variable {K : PySem.W.Frag}
def gEqDk : D → D → (S → Prop) → Prop := fun d e q => ∃ (ks : List Key) (zs : List Int), d = .dik ks (zs.map .int) ∧ e = .dik ks (zs.map .int) ∧ ks.Nodup ∧ q (.fr (.bl true))
theorem pair_ext {α β : Type} : ∀ {a b : List (α × β)}, a.map (·.1) = b.map (·.1) → a.map (·.2) = b.map (·.2) → a = b
  | [], [], _, _ => rfl
  | [], _ :: _, h, _ => by cases h
  | _ :: _, [], h, _ => by cases h
  | x :: a, y :: b, h1, h2 => by
    rw [List.map_cons, List.map_cons] at h1 h2
    injection h1 with p1 p2
    injection h2 with q1 q2
    rw [pair_ext p2 q2, Prod.ext p1 q1]
instance : OpL K rEqDict gEqDk := ⟨fun {F H x y d e Q} q hs h1 h2 h k => by
  obtain ⟨ks, zs, rfl, rfl, nd, hq⟩ := h
  obtain ⟨a, ws, rfl, ra, e1, r1⟩ := h1
  obtain ⟨b, us, rfl, rb, e2, r2⟩ := h2
  have v1 := RpA.intsV r1
  have v2 := RpA.intsV r2
  have hwu : us = ws := pair_ext (e2.symm.trans e1) (v2.trans v1.symm)
  subst hwu
  refine ⟨a, b, us, rfl, rfl, rd_same hs ra, rd_same hs rb, by rw [← e1]; exact nd, fun p hp => .inl ?_, k _ F H (.fr (.bl true)) (Ext.refl hs) rfl hq⟩
  have hm : p.2 ∈ us.map (·.2) := List.mem_map_of_mem hp
  rw [v1] at hm
  obtain ⟨z, _, e⟩ := List.mem_map.mp hm
  rw [← e]
  rfl⟩
end
/-- the keys stay apart -/
theorem putKD_nodup {kvs : List (Key × D)} {k : Key} {e : D} (h : (kvs.map (·.1)).Nodup) : ((putKD kvs k e).map (·.1)).Nodup := by
  unfold putKD
  split
  · rw [List.map_map]
    have : (kvs.map ((·.1) ∘ fun p : Key × D => if p.1 = k then (p.1, e) else p)) = kvs.map (·.1) := by
      refine List.map_congr_left fun p _ => ?_
      show (if p.1 = k then (p.1, e) else p).1 = p.1
      split <;> rfl
    rw [this]
    exact h
  · rename_i hn
    rw [List.map_append, List.nodup_append]
    refine ⟨h, by simp, fun a ha b hb e2 => hn ?_⟩
    obtain ⟨p, hp, rfl⟩ := List.mem_map.mp ha
    simp at hb
    rw [List.any_eq_true]
    exact ⟨p, hp, decide_eq_true (e2.trans hb)⟩
/-! ### the order of data: sorted lists -/
theorem lt_asym {x y : PyData} (h : PySem.W.dataLt x y = true) : PySem.W.dataLt y x = false := by
  cases e : PySem.W.dataLt y x with
  | false => rfl
  | true =>
    have := lex_trans (O := itemOrd) _ _ _ h e
    rw [lex_irrefl] at this
    cases this
theorem leD_total (a b : D) : (leD a b || leD b a) = true := by
  unfold leD
  cases e : PySem.W.dataLt b.py a.py with
  | false => rfl
  | true => rw [lt_asym e]; rfl
theorem leD_trans (a b c : D) (h1 : leD a b = true) (h2 : leD b c = true) : leD a c = true := by
  unfold leD at *
  cases e : PySem.W.dataLt c.py a.py with
  | false => rfl
  | true =>
    rcases lex_negTrans (O := itemOrd) _ (PySem.W.keyToks b.py) _ e with z | z
    · have z : PySem.W.dataLt c.py b.py = true := z
      rw [z] at h2
      cases h2
    · have z : PySem.W.dataLt b.py a.py = true := z
      rw [z] at h1
      cases h1
theorem leD_refl (a : D) : leD a a = true := by
  unfold leD
  rw [show PySem.W.dataLt a.py a.py = false from lex_irrefl (O := itemOrd) _]
  rfl
theorem sortD_perm (ds : List D) : (sortD ds).Perm ds := List.mergeSort_perm _ _
theorem sortD_len (ds : List D) : (sortD ds).length = ds.length := (sortD_perm ds).length_eq
theorem mem_sortD {ds : List D} {d : D} : d ∈ sortD ds ↔ d ∈ ds := (sortD_perm ds).mem_iff
theorem sortD_pw (ds : List D) : (sortD ds).Pairwise (fun a b => leD a b = true) := List.pairwise_mergeSort leD_trans leD_total ds
theorem sortD_of_pw {ds : List D} (h : ds.Pairwise (fun a b => leD a b = true)) : sortD ds = ds := List.mergeSort_of_pairwise h
/-- two sorted lists of the same things, told apart by the order -/
theorem sorted_uniq {ds es : List D} (h1 : ds.Pairwise (fun a b => leD a b = true)) (h2 : es.Pairwise (fun a b => leD a b = true)) (hp : ds.Perm es) (ha : ∀ a ∈ ds, ∀ b ∈ ds, leD a b = true → leD b a = true → a = b) : ds = es := by
  refine List.Perm.eq_of_pairwise ?_ h1 h2 hp
  exact fun a b x y u v => ha a x b (hp.mem_iff.mpr y) u v
theorem sortD_congr {ds es : List D} (hp : ds.Perm es) (ha : ∀ a ∈ ds, ∀ b ∈ ds, leD a b = true → leD b a = true → a = b) : sortD ds = sortD es :=
  sorted_uniq (sortD_pw _) (sortD_pw _) ((sortD_perm ds).trans (hp.trans (sortD_perm es).symm)) fun a x b y => ha a (mem_sortD.mp x) b (mem_sortD.mp y)
/-! texts and tuples that begin with texts -/
theorem leD_str (a b : Str) : leD (.str a) (.str b) = decide (¬ b.cps.toList < a.cps.toList) := by
  unfold leD
  rw [show (D.str b).py = .str b from rfl, show (D.str a).py = .str a from rfl, PySem.W.dataLt_str]
  by_cases h : b.cps.toList < a.cps.toList <;> simp [h]
theorem str_ext {a b : Str} (h : a.cps.toList = b.cps.toList) : a = b := by
  cases a; cases b
  exact congrArg Str.mk (Array.toList_inj.mp h)
theorem leD_str_anti {a b : Str} (h1 : leD (.str a) (.str b) = true) (h2 : leD (.str b) (.str a) = true) : a = b := by
  rw [leD_str] at h1 h2
  exact str_ext (List.le_antisymm (List.not_lt.mp (of_decide_eq_true h1)) (List.not_lt.mp (of_decide_eq_true h2)))
/-- by the first parts -/
theorem leD_first {a b : Str} {x y : List D} (h : leD (.tup (.str a :: x)) (.tup (.str b :: y)) = true) : leD (.str a) (.str b) = true := by
  have e1 : PySem.W.dataLt (.tuple (.str b :: D.pys y)) (.tuple (.str a :: D.pys x)) = false := by
    have h : (!PySem.W.dataLt (.tuple (.str b :: D.pys y)) (.tuple (.str a :: D.pys x))) = true := h
    simpa using h
  rw [PySem.W.dataLt_tuple] at e1
  have e2 : PyProof.Rows.lexLt itemOrd (PySem.W.keyToksAll (.str b :: D.pys y)) (PySem.W.keyToksAll (.str a :: D.pys x)) = false := e1
  unfold leD
  show (!PySem.W.dataLt (.str b) (.str a)) = true
  cases e : PySem.W.dataLt (.str b) (.str a) with
  | false => rfl
  | true =>
    have ne : PyData.eqv (.str b) (.str a) = false := by
      cases z : PyData.eqv (.str b) (.str a) with
      | false => rfl
      | true =>
        have := (PySem.W.toks_eqv (.str b) (.str a) (by simp only [PySem.W.alike])).1 z
        rw [PySem.W.dataLt, this, lex_irrefl] at e
        cases e
    rw [PySem.W.dataLt_all_no (by simp only [PySem.W.alike]) ne] at e2
    rw [e2] at e
    cases e
/-! ### items: (key, group, weight, amount) -/
structure Itm where
  k : Str
  g : Str
  w : Int
  a : Int
def dI (x : Itm) : D := .tup [.str x.k, .str x.g, .int x.w, .int x.a]
abbrev dIs (xs : List Itm) : D := .lst (xs.map dI)
def Itm.ok (x : Itm) : Prop := PyData.strOk x.k = true ∧ PyData.strOk x.g = true
theorem dI_inj {x y : Itm} (h : dI x = dI y) : x = y := by
  unfold dI at h
  injection h with h
  injection h with h1 h
  injection h with h2 h
  injection h with h3 h
  injection h with h4 _
  cases x; cases y
  injection h1; injection h2; injection h3; injection h4
  simp_all
theorem pl_dI {n : Nat} {x : Itm} (h : x.ok) : D.plN (n + 1) (dI x) = true := by
  show (D.plN n (.str x.k) && (D.plN n (.str x.g) && (D.plN n (.int x.w) && (D.plN n (.int x.a) && true)))) = true
  have a : D.plN n (.str x.k) = true := by cases n <;> exact h.1
  have b : D.plN n (.str x.g) = true := by cases n <;> exact h.2
  have c : ∀ i, D.plN n (.int i) = true := fun i => by cases n <;> rfl
  rw [a, b, c, c]
  rfl
theorem pl_dIs {n : Nat} {xs : List Itm} (h : ∀ x ∈ xs, x.ok) : D.plN (n + 2) (dIs xs) = true := by
  show (xs.map dI).all (D.plN (n + 1)) = true
  rw [List.all_eq_true]
  intro d hd
  obtain ⟨x, hx, rfl⟩ := List.mem_map.mp hd
  exact pl_dI (h x hx)
theorem pl_str {n : Nat} {x : Str} (h : PyData.strOk x = true) : D.plN n (.str x) = true := by cases n <;> exact h
theorem alike_I (x y : Itm) : PySem.W.alike (dI x).py (dI y).py = true := by
  show PySem.W.alike (.tuple [.str x.k, .str x.g, .int x.w, .int x.a]) (.tuple [.str y.k, .str y.g, .int y.w, .int y.a]) = true
  simp only [PySem.W.alike, PySem.W.alikeAll, Bool.and_true]
theorem sortOk_I {xs : List Itm} (h : ∀ x ∈ xs, x.ok) : SortOk (xs.map dI) := by
  refine ⟨?_, ?_, .inl fun d hd => ?_⟩
  · rw [List.all_eq_true]
    intro d hd
    obtain ⟨x, hx, rfl⟩ := List.mem_map.mp hd
    exact pl_dI (n := 57) (h x hx)
  · intro d hd e he
    rw [List.map_map] at hd he
    obtain ⟨x, _, rfl⟩ := List.mem_map.mp hd
    obtain ⟨y, _, rfl⟩ := List.mem_map.mp he
    exact alike_I x y
  · rw [List.map_map] at hd
    obtain ⟨x, _, rfl⟩ := List.mem_map.mp hd
    exact ⟨_, _, rfl⟩
theorem sortOk_S {xs : List Str} (h : ∀ x ∈ xs, PyData.strOk x = true) : SortOk (xs.map D.str) := by
  refine ⟨?_, ?_, .inr fun d hd => ?_⟩
  · rw [List.all_eq_true]
    intro d hd
    obtain ⟨x, hx, rfl⟩ := List.mem_map.mp hd
    exact h x hx
  · intro d hd e he
    rw [List.map_map] at hd he
    obtain ⟨x, _, rfl⟩ := List.mem_map.mp hd
    obtain ⟨y, _, rfl⟩ := List.mem_map.mp he
    show PySem.W.alike (.str x) (.str y) = true
    simp only [PySem.W.alike]
  · rw [List.map_map] at hd
    obtain ⟨x, _, rfl⟩ := List.mem_map.mp hd
    exact ⟨fun e => (nomatch (show PyData.str _ = PyData.none from e)), fun _ e => (nomatch (show PyData.str _ = PyData.tuple _ from e))⟩
/-- sorted items -/
noncomputable def sortI (xs : List Itm) : List Itm := xs.mergeSort fun x y => leD (dI x) (dI y)
theorem sortI_map (xs : List Itm) : sortD (xs.map dI) = (sortI xs).map dI := by
  unfold sortD sortI
  exact (List.map_mergeSort (f := dI) (r := fun x y => leD (dI x) (dI y)) (s := leD) fun a _ b _ => rfl).symm
theorem sortI_perm (xs : List Itm) : (sortI xs).Perm xs := List.mergeSort_perm _ _
theorem sortI_len (xs : List Itm) : (sortI xs).length = xs.length := (sortI_perm xs).length_eq
theorem mem_sortI {xs : List Itm} {x : Itm} : x ∈ sortI xs ↔ x ∈ xs := (sortI_perm xs).mem_iff
theorem sortI_pw (xs : List Itm) : (sortI xs).Pairwise fun x y => leD (dI x) (dI y) = true :=
  List.pairwise_mergeSort (le := fun x y => leD (dI x) (dI y)) (fun a b c => leD_trans (dI a) (dI b) (dI c)) (fun a b => leD_total (dI a) (dI b)) xs
def leK (a b : Str) : Prop := leD (.str a) (.str b) = true
theorem leK_of {x y : Itm} (h : leD (dI x) (dI y) = true) : leK x.k y.k := leD_first h
/-- the least of some texts -/
noncomputable def sortS (xs : List Str) : List Str := xs.mergeSort fun x y => leD (.str x) (.str y)
theorem sortS_map (xs : List Str) : sortD (xs.map D.str) = (sortS xs).map D.str := by
  unfold sortD sortS
  exact (List.map_mergeSort (f := D.str) (r := fun x y => leD (.str x) (.str y)) (s := leD) fun a _ b _ => rfl).symm
theorem sortS_perm (xs : List Str) : (sortS xs).Perm xs := List.mergeSort_perm _ _
theorem sortS_pw (xs : List Str) : (sortS xs).Pairwise leK := List.pairwise_mergeSort (le := fun x y => leD (.str x) (.str y)) (fun a b c => leD_trans (.str a) (.str b) (.str c)) (fun a b => leD_total (.str a) (.str b)) xs
theorem leK_anti {a b : Str} (h1 : leK a b) (h2 : leK b a) : a = b := leD_str_anti h1 h2
theorem leK_refl (a : Str) : leK a a := leD_refl _
theorem sortS_head {xs : List Str} {m : Str} (hm : m ∈ xs) (h : ∀ x ∈ xs, leK m x) : (sortS xs)[0]? = some m := by
  cases e : sortS xs with
  | nil =>
    have := (sortS_perm xs).mem_iff.mpr hm
    rw [e] at this
    cases this
  | cons y r =>
    have hp := sortS_pw xs
    rw [e] at hp
    have hy : y ∈ xs := (sortS_perm xs).mem_iff.mp (by rw [e]; exact List.mem_cons_self)
    have h1 : leK m y := h y hy
    have hm' : m ∈ y :: r := by rw [← e]; exact (sortS_perm xs).mem_iff.mpr hm
    have h2 : leK y m := by
      rcases List.mem_cons.mp hm' with z | z
      · rw [z]; exact leK_refl y
      · exact (List.pairwise_cons.mp hp).1 m z
    rw [leK_anti h1 h2]
    rfl
/-! ### laws by data: lists of pairs (outcome, chance) -/
def dOut (r : D × Rat) : D := .tup [r.1, dF r.2]
def dOuts (rows : List (D × Rat)) : D := .lst (rows.map dOut)
noncomputable def sumAt (rows : List (D × Rat)) (d : D) : Rat := rsum ((rows.filter fun r => decide (r.1 = d)).map (·.2))
/-- the outcomes, as they come first -/
noncomputable def keysOf : List (D × Rat) → List D
  | [] => []
  | rows => rows.foldl (fun ks r => if r.1 ∈ ks then ks else ks ++ [r.1]) []
noncomputable def keysAdd (ks : List D) (r : D × Rat) : List D := if r.1 ∈ ks then ks else ks ++ [r.1]
theorem keysOf_eq (rows : List (D × Rat)) : keysOf rows = rows.foldl keysAdd [] := by cases rows <;> rfl
theorem keysOf_snoc (rows : List (D × Rat)) (r : D × Rat) : keysOf (rows ++ [r]) = keysAdd (keysOf rows) r := by
  rw [keysOf_eq, keysOf_eq, List.foldl_append]
  rfl
theorem mem_keysAdd {ks : List D} {r : D × Rat} {d : D} : d ∈ keysAdd ks r ↔ d ∈ ks ∨ d = r.1 := by
  unfold keysAdd
  split
  · rename_i h
    exact ⟨.inl, fun z => z.elim id fun e => by rw [e]; exact h⟩
  · simp
theorem mem_keysOf {rows : List (D × Rat)} {d : D} : d ∈ keysOf rows ↔ ∃ r ∈ rows, r.1 = d := by
  rw [keysOf_eq]
  suffices h : ∀ (rows : List (D × Rat)) (ks : List D), d ∈ rows.foldl keysAdd ks ↔ d ∈ ks ∨ ∃ r ∈ rows, r.1 = d by
    rw [h]
    simp
  intro rows
  induction rows with
  | nil => intro ks; simp
  | cons r rows ih =>
    intro ks
    rw [List.foldl_cons, ih, mem_keysAdd]
    constructor
    · rintro ((h | h) | ⟨x, hx, e⟩)
      · exact .inl h
      · exact .inr ⟨r, List.mem_cons_self, h.symm⟩
      · exact .inr ⟨x, List.mem_cons_of_mem _ hx, e⟩
    · rintro (h | ⟨x, hx, e⟩)
      · exact .inl (.inl h)
      · rcases List.mem_cons.mp hx with z | z
        · exact .inl (.inr (by rw [← e, z]))
        · exact .inr ⟨x, z, e⟩
theorem keysOf_nodup (rows : List (D × Rat)) : (keysOf rows).Nodup := by
  rw [keysOf_eq]
  suffices h : ∀ (rows : List (D × Rat)) (ks : List D), ks.Nodup → (rows.foldl keysAdd ks).Nodup from h rows [] List.nodup_nil
  intro rows
  induction rows with
  | nil => intro ks h; exact h
  | cons r rows ih =>
    intro ks h
    rw [List.foldl_cons]
    refine ih _ ?_
    unfold keysAdd
    split
    · exact h
    · rename_i hn
      rw [List.nodup_append]
      exact ⟨h, by simp, fun a ha b hb => by simp at hb; rw [hb]; exact fun e => hn (by rw [← e]; exact ha)⟩
theorem sumAt_snoc (rows : List (D × Rat)) (r : D × Rat) (d : D) : sumAt (rows ++ [r]) d = if r.1 = d then sumAt rows d + r.2 else sumAt rows d := by
  unfold sumAt
  rw [List.filter_append, List.map_append, rsum_app]
  by_cases h : r.1 = d
  · rw [if_pos h, List.filter_cons_of_pos (by simpa using h), List.filter_nil, List.map_cons, List.map_nil, rsum_cons, rsum_nil]
    grind
  · rw [if_neg h, List.filter_cons_of_neg (by simpa using h), List.filter_nil, List.map_nil, rsum_nil]
    grind
theorem sumAt_none {rows : List (D × Rat)} {d : D} (h : d ∉ keysOf rows) : sumAt rows d = 0 := by
  unfold sumAt
  rw [List.filter_eq_nil_iff.mpr]
  · rfl
  · intro r hr
    simp
    exact fun e => h (mem_keysOf.mpr ⟨r, hr, e⟩)
/-- the dict that the sums make -/
noncomputable def sumsD (rows : List (D × Rat)) : List (D × D) := (keysOf rows).map fun d => (d, dF (sumAt rows d))
theorem find_map {ks : List D} {f : D → D} {d : D} : (ks.map fun k => (k, f k)).find? (fun p => decide (p.1 = d)) = if d ∈ ks then some (d, f d) else none := by
  induction ks with
  | nil => rfl
  | cons k ks ih =>
    rw [List.map_cons, List.find?_cons]
    by_cases e : k = d
    · subst e
      simp
    · simp only [e, decide_false]
      rw [ih]
      have : d ≠ k := fun z => e z.symm
      simp [this]
theorem valP_sums (rows : List (D × Rat)) (d : D) : valP (sumsD rows) d = if d ∈ keysOf rows then some (dF (sumAt rows d)) else none := by
  unfold valP sumsD
  rw [find_map]
  split <;> rfl
theorem valP_getD (rows : List (D × Rat)) (d : D) : (valP (sumsD rows) d).getD (dF 0) = dF (sumAt rows d) := by
  rw [valP_sums]
  split
  · rfl
  · rename_i h
    rw [sumAt_none h]
    rfl
theorem putP_sums (rows : List (D × Rat)) (r : D × Rat) : putP (sumsD rows) r.1 (dF (sumAt rows r.1 + r.2)) = sumsD (rows ++ [r]) := by
  unfold putP sumsD
  rw [keysOf_snoc]
  have hany : (((keysOf rows).map fun d => (d, dF (sumAt rows d))).any fun p => decide (p.1 = r.1)) = decide (r.1 ∈ keysOf rows) := by
    rw [List.any_map]
    by_cases h : r.1 ∈ keysOf rows
    · rw [decide_eq_true h, List.any_eq_true]
      exact ⟨r.1, h, by simp⟩
    · rw [decide_eq_false h, List.any_eq_false]
      intro x hx
      simp
      exact fun e => h (by rw [← e]; exact hx)
  rw [hany]
  unfold keysAdd
  by_cases h : r.1 ∈ keysOf rows
  · rw [decide_eq_true h, if_pos rfl, if_pos h, List.map_map]
    refine List.map_congr_left fun d hd => ?_
    show (if d = r.1 then (d, dF (sumAt rows r.1 + r.2)) else (d, dF (sumAt rows d))) = (d, dF (sumAt (rows ++ [r]) d))
    rw [sumAt_snoc]
    by_cases e : d = r.1
    · rw [if_pos e, if_pos e.symm, e]
    · rw [if_neg e, if_neg fun z => e z.symm]
  · rw [decide_eq_false h, if_neg (by simp), if_neg h, List.map_append]
    congr 1
    · refine List.map_congr_left fun d hd => ?_
      rw [sumAt_snoc, if_neg fun e => h (by rw [e]; exact hd)]
    · rw [List.map_cons, List.map_nil, sumAt_snoc, if_pos rfl]
/-- no chance below zero, their sum one -/
noncomputable def chOk (rs : List Rat) : Bool := decide (∀ r ∈ rs, 0 ≤ r) && decide (rsum rs = 1)
/-- the law that rows make -/
noncomputable def lawF (rows : List (D × Rat)) : List (D × Rat) := ((sortD (keysOf rows)).filter fun d => decide (sumAt rows d ≠ 0)).map fun d => (d, sumAt rows d)
/-- outcomes that may be keys and can be sorted -/
def OutOk (rows : List (D × Rat)) : Prop := (∀ r ∈ rows, keyOk r.1) ∧ (∀ r ∈ rows, ∀ r' ∈ rows, PySem.W.alike r.1.py r'.1.py = true) ∧ ∀ r ∈ rows, ∃ x t, r.1.py = .tuple (x :: t)
def RowsOk (rows : List (D × Rat)) : Prop := rows.length ≤ 20001 ∧ SumOk (rows.map (·.2)) ∧ ∀ i d, Sz LIM (sumAt (rows.take i) d)
def psp_are_chances : Psp := ⟨1, fun xs q => ∃ rs : List Rat, xs = [.fr (dFs rs)] ∧ (rs.length ≤ 20001 ∧ SumOk rs) ∧ q (.fr (.bl (chOk rs))) []⟩
abbrev sp_are_chances (K : PySem.W.Frag) : Sp := Lsp K psp_are_chances
def psp_law_from (A : Ad) : PspX := ⟨1, fun xs q e => ∃ rows, xs = [.fr (dOuts rows)] ∧ (RowsOk rows ∧ OutOk rows) ∧ (chOk (rows.map (·.2)) = true → q (.ow false (.lst ((lawF rows).map dOut))) []) ∧ (chOk (rows.map (·.2)) = false → e ⟨A.InvalidLaw, [], []⟩ [])⟩
abbrev sp_law_from (K : PySem.W.Frag) (A : Ad) : Sp := LspX K (psp_law_from A)
theorem keys_alike {rows : List (D × Rat)} (h : OutOk rows) : PySem.W.AllAlike ((sumsD rows).map fun p => p.1.py) ∧ PySem.W.Sortable ((sumsD rows).map fun p => p.1.py) := by
  have hm : ∀ d ∈ (sumsD rows).map fun p => p.1.py, ∃ r ∈ rows, d = r.1.py := fun d hd => by
    obtain ⟨p, hp, rfl⟩ := List.mem_map.mp hd
    unfold sumsD at hp
    obtain ⟨k, hk, rfl⟩ := List.mem_map.mp hp
    obtain ⟨r, hr, e⟩ := mem_keysOf.mp hk
    exact ⟨r, hr, by rw [e]⟩
  refine ⟨fun d hd d' hd' => ?_, .inl fun d hd => ?_⟩
  · obtain ⟨r, hr, rfl⟩ := hm d hd
    obtain ⟨r', hr', rfl⟩ := hm d' hd'
    exact h.2.1 r hr r' hr'
  · obtain ⟨r, hr, rfl⟩ := hm d hd
    exact h.2.2 r hr
theorem keysOf_len (rows : List (D × Rat)) : (keysOf rows).length ≤ rows.length := by
  rw [keysOf_eq]
  suffices h : ∀ (rows : List (D × Rat)) (ks : List D), (rows.foldl keysAdd ks).length ≤ ks.length + rows.length by
    have := h rows []
    simpa using this
  intro rows
  induction rows with
  | nil => intro ks; simp
  | cons r rows ih =>
    intro ks
    rw [List.foldl_cons]
    have := ih (keysAdd ks r)
    have h2 : (keysAdd ks r).length ≤ ks.length + 1 := by
      unfold keysAdd
      split
      · omega
      · simp
    rw [List.length_cons]
    omega
/-! ### comprehensions with a filter; own things read whole -/
theorem pLc_fil {pi : PI1} {pg : PG1} {pt : PT1} {ss : List Nat} {pe : PD} {vs : List Nat} {s : Sl} {q : S → Sl → Prop} (ds : List D) (fl : Nat → List D) (s1 S0 : Sl) (h1 : ∀ k : List D → Sl → Prop, k ds s1 → pi s k) (hl : ds.length ≤ 100000) (hf : fl 0 = [])
    (hs : ∀ i d, ds[i]? = some d → pg d S0 fun s3 => pt s3 (fun s4 => pe s4 fun e s5 => fl i ++ [e] = fl (i + 1) ∧ wipeS s5 vs = S0) fun s4 => fl i = fl (i + 1) ∧ wipeS s4 vs = S0)
    (hq : q (.ow false (.lst (fl ds.length))) S0) (hss : ss.all vs.contains = true := by rfl) (h0 : wipeS s1 vs = S0 := by rfl) : pLc pi pg ss pt pe vs s q := by
  refine h1 _ ?_
  show (if ss.all vs.contains = true then _ else False)
  rw [if_pos hss]
  refine ⟨hl, fun i acc s => acc = fl i ∧ s = S0, ⟨hf.symm, h0⟩, ?_, ?_⟩
  · rintro i d acc s2 hd ⟨rfl, rfl⟩
    exact hs i d hd
  · rintro acc s2 ⟨rfl, rfl⟩
    exact hq
theorem dF_zero {t : Rat} : dF t = .tup [.int 0, .int 1] ↔ t = 0 := ⟨fun h => dF_inj (h.trans rfl), fun h => by rw [h]; rfl⟩
theorem dF_one {t : Rat} : dF t = .tup [.int 1, .int 1] ↔ t = 1 := ⟨fun h => dF_inj (h.trans rfl), fun h => by rw [h]; rfl⟩
theorem fm_take {α β : Type} {l : List α} {p : α → Bool} {f : α → β} {i : Nat} {d : α} (h : l[i]? = some d) : ((l.take (i + 1)).filter p).map f = ((l.take i).filter p).map f ++ (if p d = true then [f d] else []) := by
  rw [List.take_add_one, h, Option.toList_some, List.filter_append, List.map_append]
  congr 1
  by_cases e : p d = true
  · rw [if_pos e, List.filter_cons_of_pos e]; rfl
  · rw [if_neg e, List.filter_cons_of_neg e]; rfl
theorem map_step {α β : Type} {l : List α} {f : α → β} {i : Nat} {d : α} (h : l[i]? = some d) : (l.map f).take i ++ [f d] = (l.map f).take (i + 1) := by
  rw [List.take_add_one, List.getElem?_map, h]
  rfl
theorem dFs_map {α : Type} (f : α → Rat) (l : List α) : dFs (l.map f) = .lst (l.map fun x => dF (f x)) := by
  unfold dFs
  rw [List.map_map]
  rfl
theorem flat_len {α β : Type} {f : α → List β} {n : Nat} : ∀ {l : List α}, (∀ a ∈ l, (f a).length = n) → (l.flatMap f).length = l.length * n
  | [], _ => by simp
  | a :: l, h => by
    rw [List.flatMap_cons, List.length_append, h a List.mem_cons_self, flat_len fun x hx => h x (List.mem_cons_of_mem _ hx), List.length_cons, Nat.add_mul, Nat.one_mul, Nat.add_comm]
/-- a comprehension with two for, the second over the same items each time -/
theorem pLc2_map {pi pi1 : PI1} {pg pg1 : PG1} {ss ss1 : List Nat} {pe : PD} {vs vs1 : List Nat} {s : Sl} {q : S → Sl → Prop} (ds es : List D) (f : D → D → D) (s1 S0 : Sl) (S1 : D → Sl) (h1 : ∀ k : List D → Sl → Prop, k ds s1 → pi s k) (hN : ds.length * es.length < 1000000)
    (hs : ∀ (i : Nat) d, ds[i]? = some d → pg d S0 fun s3 => pi1 s3 fun es' s5 => es' = es ∧ wipeS s5 vs1 = S1 d)
    (hs1 : ∀ (i : Nat) d (j : Nat) e, ds[i]? = some d → es[j]? = some e → pg1 e (S1 d) fun s7 => pe s7 fun x s9 => x = f d e ∧ wipeS s9 vs1 = S1 d)
    (hm : ∀ (i : Nat) d (k k' : List D → Sl → Prop), ds[i]? = some d →  (∀ x y, k x y → k' x y) → (pg d S0 fun s3 => pi1 s3 k) → pg d S0 fun s3 => pi1 s3 k')
    (hm1 : ∀ (d e : D) (k k' : D → Sl → Prop), (∀ x y, k x y → k' x y) → (pg1 e (S1 d) fun s3 => pe s3 k) → pg1 e (S1 d) fun s3 => pe s3 k')
    (hw : ∀ d, wipeS (S1 d) vs = S0)
    (hq : q (.ow false (.lst (ds.flatMap fun d => es.map (f d)))) S0) (hss : (ss.all vs.contains && ss1.all vs1.contains && vs1.all vs.contains) = true := by rfl) (h0 : wipeS s1 vs = S0 := by rfl) : pLc2 pi pg ss (fun s y _ => y s) pi1 pg1 ss1 (fun s y _ => y s) pe vs vs1 s q := by
  refine h1 _ ?_
  show (if (ss.all vs.contains && ss1.all vs1.contains && vs1.all vs.contains) = true then _ else False)
  rw [if_pos hss]
  refine ⟨fun i acc s => acc = (ds.take i).flatMap (fun d => es.map (f d)) ∧ s = S0, ⟨rfl, h0⟩, ?_, ?_⟩
  · rintro i d acc s2 hd ⟨rfl, rfl⟩
    refine hm i d _ _ hd ?_ (hs i d hd)
    rintro es' s5 ⟨rfl, hs5⟩
    have hlt := lt_of_at hd
    refine ⟨fun j acc s => acc = (ds.take i).flatMap (fun d => es'.map (f d)) ++ (es'.take j).map (f d) ∧ s = S1 d, ⟨by simp, hs5⟩, ?_, ?_⟩
    · rintro j e acc s6 he ⟨rfl, rfl⟩
      refine hm1 d e _ _ ?_ (hs1 i d j e hd he)
      rintro x s9 ⟨rfl, hs9⟩
      refine ⟨?_, ?_, hs9⟩
      · rw [List.length_append, flat_len (n := es'.length) (fun a _ => by rw [List.length_map]), List.length_map, List.length_take, List.length_take, Nat.min_eq_left (by omega)]
        have hj := lt_of_at he
        have : (i + 1) * es'.length ≤ ds.length * es'.length := Nat.mul_le_mul_right _ hlt
        rw [Nat.add_mul, Nat.one_mul] at this
        omega
      · rw [List.take_add_one, he, Option.toList_some, List.map_append, List.append_assoc]
        rfl
    · rintro acc s6 ⟨rfl, rfl⟩
      refine ⟨?_, hw d⟩
      rw [List.take_length, List.take_add_one, hd, Option.toList_some, List.flatMap_append]
      simp
  · rintro acc s2 ⟨rfl, rfl⟩
    rw [List.take_length]
    exact hq
theorem plN_up : ∀ {n m : Nat} {d : D}, D.plN n d = true → n ≤ m → D.plN m d = true := by
  intro n
  induction n with
  | zero =>
    intro m d h _
    cases d <;> first | (cases m <;> exact h) | cases h
  | succ n ih =>
    intro m d h hm
    obtain ⟨m, rfl⟩ : ∃ m', m = m' + 1 := ⟨m - 1, by omega⟩
    have al : ∀ ds : List D, ds.all (D.plN n) = true → ds.all (D.plN m) = true := fun ds hd =>
      List.all_eq_true.mpr fun x hx => ih (List.all_eq_true.mp hd x hx) (by omega)
    cases d <;> first | exact h | exact al _ h
theorem hu66 {k : Nat} {A : Around} (hr : Room k A) : A.units + 65 < cLine := by have := hr.un; omega
/-! ### fractions over a common denominator -/
def Fz (M B : Nat) (r : Rat) : Prop := r.den ∣ M ∧ r.num.natAbs ≤ B * r.den
theorem Fz.den_le {M B : Nat} {r : Rat} (h : Fz M B r) (hM : 0 < M) : r.den ≤ M := Nat.le_of_dvd hM h.1
theorem Fz.sz {M B n : Nat} {r : Rat} (h : Fz M B r) (hM : 0 < M) (hB : B * M < 2 ^ n) (hM2 : M < 2 ^ n) : Sz n r :=
  ⟨Nat.lt_of_le_of_lt (Nat.le_trans h.2 (Nat.mul_le_mul_left B (h.den_le hM))) hB, Nat.lt_of_le_of_lt (h.den_le hM) hM2⟩
theorem Fz.szP {a b n : Nat} {M B : Nat} {r : Rat} (h : Fz M B r) (hM : 0 < M) (h1 : M < 2 ^ a) (h2 : B < 2 ^ b) (hn : a + b ≤ n) : Sz n r := by
  refine h.sz hM ?_ (Nat.lt_of_lt_of_le h1 (Nat.pow_le_pow_right (by decide) (by omega)))
  refine Nat.lt_of_lt_of_le (Nat.mul_lt_mul'' h2 h1) ?_
  rw [← Nat.pow_add]
  exact Nat.pow_le_pow_right (by decide) (by omega)
theorem Fz.up {M M' B B' : Nat} {r : Rat} (h : Fz M B r) (hM : M ∣ M') (hB : B ≤ B') : Fz M' B' r := ⟨Nat.dvd_trans h.1 hM, Nat.le_trans h.2 (Nat.mul_le_mul_right _ hB)⟩
/-- size, by the number itself -/
theorem abs_le_iff {B : Nat} {r : Rat} : r.num.natAbs ≤ B * r.den ↔ -(B : Rat) ≤ r ∧ r ≤ (B : Rat) := by
  have hd : (0 : Int) < (r.den : Int) := Int.natCast_pos.mpr r.den_pos
  have e1 : (r ≤ (B : Rat)) ↔ r.num ≤ (B : Int) * (r.den : Int) := by
    rw [Rat.le_iff]
    have z1 : ((B : Rat)).num = (B : Int) := rfl
    have z2 : ((B : Rat)).den = 1 := rfl
    rw [z1, z2]
    simp
  have e2 : (-(B : Rat) ≤ r) ↔ -((B : Int) * (r.den : Int)) ≤ r.num := by
    rw [Rat.le_iff]
    have z1 : (-(B : Rat)).num = -(B : Int) := rfl
    have z2 : (-(B : Rat)).den = 1 := rfl
    rw [z1, z2]
    simp [Int.neg_mul]
  rw [e1, e2]
  have : ((B * r.den : Nat) : Int) = (B : Int) * (r.den : Int) := by simp
  omega
theorem den_dvd (k : Int) (M : Nat) (hM : M ≠ 0) : (Rat.divInt k (M : Int)).den ∣ M := by
  rw [Rat.den_divInt, if_neg (by omega), Int.natAbs_natCast]
  exact Nat.div_dvd_of_dvd (Int.natAbs_natCast M ▸ Int.gcd_dvd_natAbs_left ..)
theorem as_div {M : Nat} {a : Rat} (ha : a.den ∣ M) (hM : M ≠ 0) : ∃ k : Int, a = Rat.divInt k (M : Int) := by
  obtain ⟨c, rfl⟩ := ha
  have hc : (c : Int) ≠ 0 := fun h => hM (by rw [show c = 0 by omega, Nat.mul_zero])
  refine ⟨a.num * c, ?_⟩
  rw [Int.natCast_mul, Rat.divInt_mul_right hc, Rat.num_divInt_den]
theorem den_add {M : Nat} {a b : Rat} (ha : a.den ∣ M) (hb : b.den ∣ M) : (a + b).den ∣ M := by
  by_cases hM : M = 0
  · rw [hM]; exact Nat.dvd_zero _
  · obtain ⟨k, rfl⟩ := as_div ha hM
    obtain ⟨l, rfl⟩ := as_div hb hM
    have h2 : (M : Int) ≠ 0 := by omega
    rw [Rat.divInt_add_divInt _ _ h2 h2, ← Int.add_mul, Rat.divInt_mul_right h2]
    exact den_dvd _ _ hM
theorem den_mul {M N : Nat} {a b : Rat} (ha : a.den ∣ M) (hb : b.den ∣ N) : (a * b).den ∣ M * N := by
  by_cases hM : M = 0
  · rw [hM, Nat.zero_mul]; exact Nat.dvd_zero _
  by_cases hN : N = 0
  · rw [hN, Nat.mul_zero]; exact Nat.dvd_zero _
  obtain ⟨k, rfl⟩ := as_div ha hM
  obtain ⟨l, rfl⟩ := as_div hb hN
  rw [Rat.divInt_mul_divInt, ← Int.natCast_mul]
  exact den_dvd _ _ (Nat.mul_ne_zero hM hN)
theorem abs_mul {A B a b : Rat} (h1 : -A ≤ a) (h2 : a ≤ A) (h3 : -B ≤ b) (h4 : b ≤ B) : -(A * B) ≤ a * b ∧ a * b ≤ A * B := by
  have x1 : 0 ≤ A + a := by grind
  have x2 : 0 ≤ A - a := by grind
  have x3 : 0 ≤ B + b := by grind
  have x4 : 0 ≤ B - b := by grind
  have y1 := Rat.mul_nonneg x1 x3
  have y2 := Rat.mul_nonneg x1 x4
  have y3 := Rat.mul_nonneg x2 x3
  have y4 := Rat.mul_nonneg x2 x4
  constructor <;> grind
theorem Fz.add {M A B : Nat} {a b : Rat} (ha : Fz M A a) (hb : Fz M B b) : Fz M (A + B) (a + b) := by
  refine ⟨den_add ha.1 hb.1, abs_le_iff.mpr ?_⟩
  have h1 := abs_le_iff.mp ha.2
  have h2 := abs_le_iff.mp hb.2
  have : ((A + B : Nat) : Rat) = (A : Rat) + (B : Rat) := by push_cast; rfl
  rw [this]
  constructor <;> grind
theorem Fz.neg {M A : Nat} {a : Rat} (ha : Fz M A a) : Fz M A (-a) := by
  refine ⟨by rw [Rat.neg_den]; exact ha.1, ?_⟩
  rw [Rat.neg_num, Rat.neg_den, Int.natAbs_neg]
  exact ha.2
theorem Fz.sub {M A B : Nat} {a b : Rat} (ha : Fz M A a) (hb : Fz M B b) : Fz M (A + B) (a - b) := by
  rw [Rat.sub_eq_add_neg]
  exact ha.add hb.neg
theorem Fz.mul {M N A B : Nat} {a b : Rat} (ha : Fz M A a) (hb : Fz N B b) : Fz (M * N) (A * B) (a * b) := by
  refine ⟨den_mul ha.1 hb.1, abs_le_iff.mpr ?_⟩
  have h1 := abs_le_iff.mp ha.2
  have h2 := abs_le_iff.mp hb.2
  have : ((A * B : Nat) : Rat) = (A : Rat) * (B : Rat) := by push_cast; rfl
  rw [this]
  exact abs_mul h1.1 h1.2 h2.1 h2.2
theorem Fz.zero (M B : Nat) : Fz M B 0 := ⟨Nat.one_dvd _, Nat.zero_le _⟩
theorem Fz.rsum {M B : Nat} : ∀ {rs : List Rat}, (∀ r ∈ rs, Fz M B r) → Fz M (rs.length * B) (rsum rs)
  | [], _ => by rw [rsum_nil]; exact Fz.zero _ _
  | r :: rs, h => by
    rw [rsum_cons]
    have := (h r List.mem_cons_self).add (Fz.rsum fun x hx => h x (List.mem_cons_of_mem _ hx))
    refine this.up (Nat.dvd_refl _) ?_
    rw [List.length_cons, Nat.add_mul, Nat.one_mul, Nat.add_comm]
    exact Nat.le_refl _
theorem fz_sumOk {M B n : Nat} {rs : List Rat} (h : ∀ r ∈ rs, Fz M B r) (hM : 0 < M) (hl : rs.length ≤ n) (h1 : (n + 1) * B * M < 2 ^ LIM) (h2 : M < 2 ^ LIM) : SumOk rs := by
  have up : ∀ C, C ≤ (n + 1) * B → C * M < 2 ^ LIM := fun C hC => Nat.lt_of_le_of_lt (Nat.mul_le_mul_right _ hC) h1
  refine ⟨fun r hr => (h r hr).sz hM (up B ?_) h2, fun i => ?_⟩
  · rw [Nat.add_mul, Nat.one_mul]; omega
  · have := Fz.rsum (rs := rs.take i) fun r hr => h r (List.mem_of_mem_take hr)
    refine this.sz hM (up _ ?_) h2
    refine Nat.mul_le_mul_right _ ?_
    have := List.length_take_le' i rs
    omega
/-! ### family A draws: a deck, a list of the script's copy, a place, what is left of a great cell, a seed -/
structure Dek where
  ns : List Int
  a : Int
  c : Int
  d : Int
  ha : 0 ≤ a
  hc : 0 ≤ c
def deckO (k : Dek) : O := .lst [.lst (k.ns.map .int), .int k.a, .int k.c, .int k.d]
def psp__law_deck : Psp := ⟨1, fun xs q => ∃ ns : List Int, xs = [.fr (.scr ns)] ∧ ∀ k : Dek, q (.ow false (deckO k)) []⟩
abbrev sp__law_deck (K : PySem.W.Frag) : Sp := Lsp K psp__law_deck
def psp__law_draw : Psp := ⟨2, fun xs q => ∃ (k : Dek) (m : Int), xs = [.ow true (deckO k), .fr (.int m)] ∧ (0 < m ∧ m < 2 ^ 64) ∧ ∀ (z : Int) (k' : Dek), 0 ≤ z → z < m → q (.fr (.int z)) [deckO k']⟩
abbrev sp__law_draw (K : PySem.W.Frag) : Sp := Lsp K psp__law_draw
theorem deck_divW {m : Int} (h0 : 0 < m) (h1 : m < 2 ^ 64) : CDivW 0 m := wide_div (b := 64) h0 (by omega) (by decide) (by decide)
/-! ### means and covariances -/
def dT2 (r : Rat × Rat) : D := .tup [dF r.1, dF r.2]
def dT3 (r : Rat × Rat × Rat) : D := .tup [dF r.1, dF r.2.1, dF r.2.2]
def dRR (rows : List (Rat × Rat)) : D := .lst (rows.map dT2)
def dR3 (rows : List (Rat × Rat × Rat)) : D := .lst (rows.map dT3)
theorem dRR_map {α : Type} (f : α → Rat × Rat) (l : List α) : dRR (l.map f) = .lst (l.map fun x => dT2 (f x)) := by
  unfold dRR
  rw [List.map_map]
  rfl
theorem dR3_map {α : Type} (f : α → Rat × Rat × Rat) (l : List α) : dR3 (l.map f) = .lst (l.map fun x => dT3 (f x)) := by
  unfold dR3
  rw [List.map_map]
  rfl
def meanF (rows : List (Rat × Rat)) : Rat := rsum (rows.map fun r => r.1 * r.2)
def covF (rows : List (Rat × Rat × Rat)) : Rat :=
  rsum (rows.map fun r => (r.1 - meanF (rows.map fun r => (r.1, r.2.2))) * (r.2.1 - meanF (rows.map fun r => (r.2.1, r.2.2))) * r.2.2)
def varF (rows : List (Rat × Rat)) : Rat := covF (rows.map fun r => (r.1, r.1, r.2))
def MeanOk (rows : List (Rat × Rat)) : Prop := rows.length ≤ 20000 ∧ (∀ r ∈ rows, Sz LIM r.1 ∧ Sz LIM r.2) ∧ SumOk (rows.map fun r => r.1 * r.2)
def CovOk (rows : List (Rat × Rat × Rat)) : Prop := rows.length ≤ 20000 ∧ MeanOk (rows.map fun r => (r.1, r.2.2)) ∧ MeanOk (rows.map fun r => (r.2.1, r.2.2)) ∧ Sz LIM (meanF (rows.map fun r => (r.1, r.2.2))) ∧ Sz LIM (meanF (rows.map fun r => (r.2.1, r.2.2))) ∧
  (∀ r ∈ rows, Sz LIM (r.1 - meanF (rows.map fun r => (r.1, r.2.2))) ∧ Sz LIM (r.2.1 - meanF (rows.map fun r => (r.2.1, r.2.2))) ∧ Sz LIM ((r.1 - meanF (rows.map fun r => (r.1, r.2.2))) * (r.2.1 - meanF (rows.map fun r => (r.2.1, r.2.2)))) ∧ Sz LIM r.2.2) ∧
  SumOk (rows.map fun r => (r.1 - meanF (rows.map fun r => (r.1, r.2.2))) * (r.2.1 - meanF (rows.map fun r => (r.2.1, r.2.2))) * r.2.2)
def psp_mean : Psp := ⟨1, fun xs q => ∃ rows, xs = [.fr (dRR rows)] ∧ MeanOk rows ∧ q (.fr (dF (meanF rows))) []⟩
abbrev sp_mean (K : PySem.W.Frag) : Sp := Lsp K psp_mean
abbrev sp__law_mean (K : PySem.W.Frag) : Sp := Lsp K psp_mean
def psp_covariance : Psp := ⟨1, fun xs q => ∃ rows, xs = [.fr (dR3 rows)] ∧ CovOk rows ∧ q (.fr (dF (covF rows))) []⟩
abbrev sp_covariance (K : PySem.W.Frag) : Sp := Lsp K psp_covariance
def psp_variance : Psp := ⟨1, fun xs q => ∃ rows, xs = [.fr (dRR rows)] ∧ (rows.length ≤ 20000 ∧ CovOk (rows.map fun r => (r.1, r.1, r.2))) ∧ q (.fr (dF (varF rows))) []⟩
abbrev sp_variance (K : PySem.W.Frag) : Sp := Lsp K psp_variance
def spreadF (rows : List (Rat × Rat)) : Rat := meanF (rows.map fun r => (r.1 * r.1, r.2)) - meanF rows * meanF rows
/-! mixed laws, joined laws -/
def mixF (laws : List (List (D × Rat))) (chances : List Rat) : List (D × Rat) := (laws.zip chances).flatMap fun p => p.1.map fun r => (r.1, p.2 * r.2)
def joinF (a b : List (D × Rat)) : List (D × Rat) := a.flatMap fun r => b.map fun t => (.tup [r.1, t.1], r.2 * t.2)
def MixOk (laws : List (List (D × Rat))) (chances : List Rat) : Prop := (∀ l ∈ laws, l.length ≤ 20000 ∧ ∀ r ∈ l, Sz LIM r.2) ∧ RowsOk (mixF laws chances) ∧ OutOk (mixF laws chances)
def psp_mixed (A : Ad) : PspX := ⟨2, fun xs q e => ∃ (laws : List (List (D × Rat))) (chances : List Rat), xs = [.fr (.lst (laws.map dOuts)), .fr (dFs chances)] ∧ (laws.length = chances.length ∧ chances.length ≤ 20000 ∧ SumOk chances) ∧
  (chOk chances = true → MixOk laws chances ∧ chOk ((mixF laws chances).map (·.2)) = true ∧ q (.ow false (.lst ((lawF (mixF laws chances)).map dOut))) []) ∧ (chOk chances = false → e ⟨A.InvalidLaw, [], []⟩ [])⟩
abbrev sp_mixed (K : PySem.W.Frag) (A : Ad) : Sp := LspX K (psp_mixed A)
def psp_joined : Psp := ⟨2, fun xs q => ∃ (a b : List (D × Rat)), xs = [.fr (dOuts a), .fr (dOuts b)] ∧ (a.length ≤ 100 ∧ b.length ≤ 100 ∧ (∀ r ∈ a, Sz LIM r.2) ∧ (∀ r ∈ b, Sz LIM r.2)) ∧ q (.ow false (.lst ((joinF a b).map dOut))) []⟩
abbrev sp_joined (K : PySem.W.Frag) : Sp := Lsp K psp_joined
/-! shares and rows that are drawn -/
def ShOk (m : Nat) (rs : List Rat) : Prop := rs.length = m ∧ (∀ r ∈ rs, 0 ≤ r ∧ r ≤ 1 ∧ r.den ≤ 16 ∧ r.num.natAbs ≤ 16) ∧ rsum rs = 1
def RwOk (rows : List (Rat × Rat)) : Prop := (rows.length ≤ 4 ∧ 1 ≤ rows.length) ∧ (∀ r ∈ rows, r.1.den ≤ 4 ∧ r.1.num.natAbs ≤ 7) ∧ ShOk rows.length (rows.map (·.2))
/-! ### shares -/
theorem rsum_div {S : Int} (hS : S ≠ 0) : ∀ ns : List Int, rsum (ns.map fun n => Rat.divInt n S) = Rat.divInt ns.sum S
  | [] => by rw [List.map_nil, rsum_nil, List.sum_nil, Rat.zero_divInt]
  | n :: ns => by
    rw [List.map_cons, rsum_cons, rsum_div hS ns, List.sum_cons, Rat.divInt_add_divInt _ _ hS hS, ← Int.add_mul, Rat.divInt_mul_right hS]
theorem sum_bound : ∀ {ns : List Int}, (∀ n ∈ ns, 0 ≤ n ∧ n ≤ 4) → 0 ≤ ns.sum ∧ ns.sum ≤ 4 * ns.length ∧ ∀ n ∈ ns, n ≤ ns.sum
  | [], _ => ⟨by decide, by decide, fun _ h => by cases h⟩
  | x :: ns, h => by
    have ⟨h1, h2, h3⟩ := sum_bound fun n hn => h n (List.mem_cons_of_mem _ hn)
    have ⟨x0, x1⟩ := h x List.mem_cons_self
    rw [List.sum_cons, List.length_cons]
    refine ⟨by omega, by omega, fun n hn => ?_⟩
    rcases List.mem_cons.mp hn with rfl | hn
    · omega
    · have := h3 n hn; omega
theorem divInt_one {S : Int} (hS : S ≠ 0) : Rat.divInt S S = 1 := by
  have := Rat.divInt_mul_right (n := 1) (d := 1) hS
  rw [Int.one_mul] at this
  rw [this]
  rfl
theorem divInt_share {n S : Int} (h0 : 0 ≤ n) (h1 : n ≤ S) (h2 : S ≤ 16) (hS : 0 < S) : 0 ≤ Rat.divInt n S ∧ Rat.divInt n S ≤ 1 ∧ (Rat.divInt n S).den ≤ 16 ∧ (Rat.divInt n S).num.natAbs ≤ 16 := by
  have hd : (Rat.divInt n S).den ≤ 16 := by
    obtain ⟨m, rfl⟩ := Int.eq_ofNat_of_zero_le (Int.le_of_lt hS)
    exact Nat.le_trans (Nat.le_of_dvd (by omega) (den_dvd n m (by omega))) (by omega)
  have hn : 0 ≤ Rat.divInt n S := (Rat.divInt_nonneg_iff_of_pos_right hS).mpr h0
  have hl : Rat.divInt n S ≤ 1 := by
    have e : 1 - Rat.divInt n S = Rat.divInt (S - n) S := by
      rw [← divInt_one (S := S) (by omega), Rat.divInt_sub_divInt _ _ (by omega) (by omega), ← Int.sub_mul, Rat.divInt_mul_right (by omega)]
    have : 0 ≤ 1 - Rat.divInt n S := by
      rw [e]
      exact (Rat.divInt_nonneg_iff_of_pos_right hS).mpr (by omega)
    grind
  refine ⟨hn, hl, hd, ?_⟩
  have := (abs_le_iff (B := 1) (r := Rat.divInt n S)).mpr ⟨by grind, hl⟩
  omega
theorem shOk_of {m : Nat} {ns : List Int} (hm : m ≤ 4) (hl : ns.length = m) (hb : ∀ n ∈ ns, 0 ≤ n ∧ n ≤ 4) (hp : 0 < ns.sum) : ShOk m (ns.map fun n => Rat.divInt n ns.sum) := by
  have ⟨h1, h2, h3⟩ := sum_bound hb
  refine ⟨by rw [List.length_map]; exact hl, fun r hr => ?_, ?_⟩
  · obtain ⟨n, hn, rfl⟩ := List.mem_map.mp hr
    exact divInt_share (hb n hn).1 (h3 n hn) (by omega) hp
  · rw [rsum_div (by omega), divInt_one (by omega)]
/-- a fraction with small parts -/
theorem divInt_small {n d : Int} {N D : Nat} (h1 : n.natAbs ≤ N) (h2 : 0 < d) (h3 : d ≤ D) : (Rat.divInt n d).den ≤ D ∧ (Rat.divInt n d).num.natAbs ≤ N := by
  constructor
  · obtain ⟨m, rfl⟩ := Int.eq_ofNat_of_zero_le (Int.le_of_lt h2)
    exact Nat.le_trans (Nat.le_of_dvd (by omega) (den_dvd n m (by omega))) (by omega)
  · rw [Rat.num_divInt]
    refine Nat.le_trans ?_ h1
    have hs : d.sign = 1 := Int.sign_eq_one_of_pos h2
    rw [hs, Int.one_mul]
    exact Int.natAbs_ediv_le_natAbs _ _
/-! ### moments: the plain law -/
theorem rsum_add2 {α : Type} {f g : α → Rat} : ∀ {l : List α}, rsum (l.map fun x => f x + g x) = rsum (l.map f) + rsum (l.map g)
  | [] => by simp only [List.map_nil, rsum_nil]; grind
  | x :: l => by simp only [List.map_cons, rsum_cons, rsum_add2 (l := l)]; grind
theorem rsum_sub2 {α : Type} {f g : α → Rat} : ∀ {l : List α}, rsum (l.map fun x => f x - g x) = rsum (l.map f) - rsum (l.map g)
  | [] => by simp only [List.map_nil, rsum_nil]; grind
  | x :: l => by simp only [List.map_cons, rsum_cons, rsum_sub2 (l := l)]; grind
theorem rsum_scale {α : Type} {f : α → Rat} (c : Rat) : ∀ {l : List α}, rsum (l.map fun x => c * f x) = c * rsum (l.map f)
  | [] => by simp only [List.map_nil, rsum_nil]; grind
  | x :: l => by simp only [List.map_cons, rsum_cons, rsum_scale c (l := l)]; grind
theorem rsum_flat {α : Type} {f : α → List Rat} : ∀ {l : List α}, rsum (l.flatMap f) = rsum (l.map fun x => rsum (f x))
  | [] => rfl
  | x :: l => by rw [List.flatMap_cons, rsum_app, List.map_cons, rsum_cons, rsum_flat (l := l)]
theorem rsum_nn : ∀ {l : List Rat}, (∀ r ∈ l, 0 ≤ r) → 0 ≤ rsum l
  | [], _ => by rw [rsum_nil]; exact Rat.le_refl
  | x :: l, h => by
    rw [rsum_cons]
    have := h x List.mem_cons_self
    have := rsum_nn (l := l) fun r hr => h r (List.mem_cons_of_mem _ hr)
    grind
/-! expectations -/
def Ex0 (g : D → Rat) (rows : List (D × Rat)) : Rat := rsum (rows.map fun r => g r.1 * r.2)
theorem keys_sum (g : D → Rat) (r : D × Rat) : ∀ {ks : List D}, ks.Nodup → rsum (ks.map fun d => if r.1 = d then g d * r.2 else 0) = if r.1 ∈ ks then g r.1 * r.2 else 0
  | [], _ => by simp [rsum_nil]
  | k :: ks, h => by
    have ⟨h1, h2⟩ := List.nodup_cons.mp h
    rw [List.map_cons, rsum_cons, keys_sum g r h2]
    by_cases e : r.1 = k
    · subst e
      rw [if_pos rfl, if_neg h1, if_pos List.mem_cons_self]
      grind
    · rw [if_neg e]
      by_cases e2 : r.1 ∈ ks
      · rw [if_pos e2, if_pos (List.mem_cons_of_mem _ e2)]; grind
      · rw [if_neg e2, if_neg (by simp [e, e2])]; grind
theorem rev_ind {α : Type} {P : List α → Prop} (h0 : P []) (h1 : ∀ l a, P l → P (l ++ [a])) (l : List α) : P l := by
  have : ∀ l : List α, P l.reverse := fun l => by
    induction l with
    | nil => exact h0
    | cons a l ih => rw [List.reverse_cons]; exact h1 _ _ ih
  have h := this l.reverse
  rw [List.reverse_reverse] at h
  exact h
theorem E_keys (g : D → Rat) (rows : List (D × Rat)) : rsum ((keysOf rows).map fun d => g d * sumAt rows d) = Ex0 g rows := by
  refine rev_ind (P := fun rows => rsum ((keysOf rows).map fun d => g d * sumAt rows d) = Ex0 g rows) rfl (fun rows r ih => ?_) rows
  have e1 : Ex0 g (rows ++ [r]) = Ex0 g rows + g r.1 * r.2 := by
    unfold Ex0
    rw [List.map_append, rsum_app, List.map_cons, List.map_nil, rsum_cons, rsum_nil]
    grind
  have hs : ∀ d, g d * sumAt (rows ++ [r]) d = g d * sumAt rows d + if r.1 = d then g d * r.2 else 0 := fun d => by
    rw [sumAt_snoc]
    split <;> grind
  rw [e1, ← ih, keysOf_snoc]
  unfold keysAdd
  split
  · rename_i hm
    simp only [hs]
    rw [rsum_add2, keys_sum g r (keysOf_nodup rows), if_pos hm]
  · rename_i hm
    simp only [hs]
    rw [rsum_add2, List.map_append, List.map_append, rsum_app, rsum_app, keys_sum g r (keysOf_nodup rows), if_neg hm]
    simp only [List.map_cons, List.map_nil, rsum_cons, rsum_nil, if_pos]
    rw [sumAt_none hm]
    grind
theorem rsum_filter {α : Type} {p : α → Bool} {f : α → Rat} : ∀ {l : List α}, (∀ x ∈ l, p x = false → f x = 0) → rsum ((l.filter p).map f) = rsum (l.map f)
  | [], _ => rfl
  | x :: l, h => by
    have ih := rsum_filter (l := l) fun y hy => h y (List.mem_cons_of_mem _ hy)
    cases e : p x with
    | true => rw [List.filter_cons_of_pos e, List.map_cons, List.map_cons, rsum_cons, rsum_cons, ih]
    | false =>
      rw [List.filter_cons_of_neg (by rw [e]; decide), List.map_cons, rsum_cons, ih, h x List.mem_cons_self e]
      grind
theorem E_law (g : D → Rat) (rows : List (D × Rat)) : Ex0 g (lawF rows) = Ex0 g rows := by
  rw [← E_keys g rows]
  unfold Ex0 lawF
  rw [List.map_map]
  show rsum (((sortD (keysOf rows)).filter fun d => decide (sumAt rows d ≠ 0)).map fun d => g d * sumAt rows d) = _
  rw [rsum_filter]
  · exact rsum_perm ((List.mergeSort_perm _ _).map _)
  · intro d _ h
    have : sumAt rows d = 0 := by simpa using h
    rw [this]
    grind
theorem E_mix (g : D → Rat) (laws : List (List (D × Rat))) (chances : List Rat) : Ex0 g (mixF laws chances) = rsum ((laws.zip chances).map fun p => p.2 * Ex0 g p.1) := by
  unfold Ex0 mixF
  rw [List.map_flatMap, rsum_flat]
  congr 1
  refine List.map_congr_left fun p _ => ?_
  rw [List.map_map, ← rsum_scale]
  congr 1
  refine List.map_congr_left fun r _ => ?_
  show g r.1 * (p.2 * r.2) = p.2 * (g r.1 * r.2)
  grind
/-! covariances -/
theorem cov_gen (f g : Rat) : ∀ rows : List (Rat × Rat × Rat), rsum (rows.map fun r => (r.1 - f) * (r.2.1 - g) * r.2.2) = rsum (rows.map fun r => r.1 * r.2.1 * r.2.2) - f * rsum (rows.map fun r => r.2.1 * r.2.2) - g * rsum (rows.map fun r => r.1 * r.2.2) + f * g * rsum (rows.map fun r => r.2.2)
  | [] => by simp only [List.map_nil, rsum_nil]; grind
  | r :: rows => by simp only [List.map_cons, rsum_cons, cov_gen f g rows]; grind
theorem cov_eq {rows : List (Rat × Rat × Rat)} (h : rsum (rows.map fun r => r.2.2) = 1) : covF rows = rsum (rows.map fun r => r.1 * r.2.1 * r.2.2) - rsum (rows.map fun r => r.1 * r.2.2) * rsum (rows.map fun r => r.2.1 * r.2.2) := by
  unfold covF
  have e1 : meanF (rows.map fun r => (r.1, r.2.2)) = rsum (rows.map fun r => r.1 * r.2.2) := by unfold meanF; rw [List.map_map]; rfl
  have e2 : meanF (rows.map fun r => (r.2.1, r.2.2)) = rsum (rows.map fun r => r.2.1 * r.2.2) := by unfold meanF; rw [List.map_map]; rfl
  rw [e1, e2, cov_gen, h]
  grind
theorem var_eq {rows : List (Rat × Rat)} (h : rsum (rows.map (·.2)) = 1) : varF rows = spreadF rows := by
  unfold varF
  rw [cov_eq (by rw [List.map_map]; exact h)]
  unfold spreadF meanF
  simp only [List.map_map]
  rfl
/-! numbers as outcomes -/
open Classical in
noncomputable def unD (d : D) : Rat := if h : ∃ r, d = dF r then h.choose else 0
theorem unD_dF (r : Rat) : unD (dF r) = r := by
  have h : ∃ r', dF r = dF r' := ⟨r, rfl⟩
  unfold unD
  rw [dif_pos h]
  exact (dF_inj h.choose_spec).symm
noncomputable def rr (l : List (D × Rat)) : List (Rat × Rat) := l.map fun r => (unD r.1, r.2)
def Num (l : List (D × Rat)) : Prop := ∀ r ∈ l, ∃ v, r.1 = dF v
theorem Num.un {l : List (D × Rat)} (h : Num l) : ∀ r ∈ l, r.1 = dF (unD r.1) := fun r hr => by
  obtain ⟨v, e⟩ := h r hr
  rw [e, unD_dF]
theorem Num.rr {l : List (D × Rat)} (h : Num l) : dOuts l = dRR (rr l) := by
  unfold dOuts dRR Sam.rr
  rw [List.map_map]
  congr 1
  refine List.map_congr_left fun r hr => ?_
  show D.tup [r.1, dF r.2] = D.tup [dF (unD r.1), dF r.2]
  rw [← h.un r hr]
theorem mean_rr (l : List (D × Rat)) : meanF (rr l) = Ex0 unD l := by
  unfold meanF rr Ex0
  rw [List.map_map]
  rfl
theorem sum_rr (l : List (D × Rat)) : rsum ((rr l).map (·.2)) = rsum (l.map (·.2)) := by
  unfold rr
  rw [List.map_map]
  rfl
theorem E_one (l : List (D × Rat)) : Ex0 (fun _ => 1) l = rsum (l.map (·.2)) := by
  unfold Ex0
  congr 1
  exact List.map_congr_left fun r _ => by grind
theorem var_rr {l : List (D × Rat)} (h : rsum (l.map (·.2)) = 1) : varF (rr l) = Ex0 (fun d => unD d * unD d) l - Ex0 unD l * Ex0 unD l := by
  rw [var_eq (by rw [sum_rr]; exact h)]
  unfold spreadF
  rw [mean_rr]
  congr 1
  unfold meanF rr Ex0
  rw [List.map_map, List.map_map]
  rfl
def dD (rows : List (Rat × Rat)) : List (D × Rat) := rows.map fun r => (dF r.1, r.2)
theorem dD_outs (rows : List (Rat × Rat)) : dOuts (dD rows) = dRR rows := by
  unfold dOuts dD dRR
  rw [List.map_map]
  rfl
theorem mem_lawF {rows : List (D × Rat)} {p : D × Rat} (h : p ∈ lawF rows) : (∃ r ∈ rows, r.1 = p.1) ∧ p.2 = sumAt rows p.1 := by
  unfold lawF at h
  obtain ⟨d, hd, rfl⟩ := List.mem_map.mp h
  have hd := (List.mem_filter.mp hd).1
  exact ⟨mem_keysOf.mp ((List.mergeSort_perm _ _).mem_iff.mp hd), rfl⟩
theorem lawF_len (rows : List (D × Rat)) : (lawF rows).length ≤ rows.length := by
  unfold lawF
  rw [List.length_map]
  refine Nat.le_trans (List.length_filter_le _ _) ?_
  rw [show (sortD (keysOf rows)).length = _ from (List.mergeSort_perm _ _).length_eq]
  exact keysOf_len rows
/-- the law of totals -/
theorem total_var {laws : List (List (D × Rat))} {chances : List Rat} (hl : laws.length = chances.length) (h1 : ∀ l ∈ laws, rsum (l.map (·.2)) = 1) (hc : rsum chances = 1) :
    rsum ((mixF laws chances).map (·.2)) = 1 ∧ Ex0 unD (lawF (mixF laws chances)) = meanF ((laws.zip chances).map fun p => (Ex0 unD p.1, p.2)) ∧
    varF (rr (lawF (mixF laws chances))) = meanF ((laws.zip chances).map fun p => (varF (rr p.1), p.2)) + spreadF ((laws.zip chances).map fun p => (Ex0 unD p.1, p.2)) := by
  have hz : ∀ p ∈ laws.zip chances, rsum (p.1.map (·.2)) = 1 := fun p hp => h1 _ (List.of_mem_zip hp).1
  have hs : rsum ((mixF laws chances).map (·.2)) = 1 := by
    rw [← E_one, E_mix]
    refine Eq.trans ?_ hc
    have : (laws.zip chances).map (·.2) = chances := List.map_snd_zip (by omega)
    conv => rhs; rw [← this]
    congr 1
    refine List.map_congr_left fun p hp => ?_
    rw [E_one, hz p hp]
    grind
  have hm : Ex0 unD (lawF (mixF laws chances)) = meanF ((laws.zip chances).map fun p => (Ex0 unD p.1, p.2)) := by
    rw [E_law, E_mix]
    unfold meanF
    rw [List.map_map]
    congr 1
    exact List.map_congr_left fun p _ => by show p.2 * _ = _ * p.2; grind
  refine ⟨hs, hm, ?_⟩
  rw [var_rr (by rw [← E_one, E_law, E_one]; exact hs), hm, E_law, E_mix]
  unfold spreadF
  have e1 : meanF ((laws.zip chances).map fun p => (varF (rr p.1), p.2)) = rsum ((laws.zip chances).map fun p => p.2 * Ex0 (fun d => unD d * unD d) p.1) - rsum ((laws.zip chances).map fun p => Ex0 unD p.1 * Ex0 unD p.1 * p.2) := by
    unfold meanF
    rw [List.map_map, ← rsum_sub2]
    congr 1
    refine List.map_congr_left fun p hp => ?_
    show varF (rr p.1) * p.2 = _
    rw [var_rr (hz p hp)]
    grind
  have e2 : meanF (((laws.zip chances).map fun p => (Ex0 unD p.1, p.2)).map fun r => (r.1 * r.1, r.2)) = rsum ((laws.zip chances).map fun p => Ex0 unD p.1 * Ex0 unD p.1 * p.2) := by
    unfold meanF
    rw [List.map_map, List.map_map]
    rfl
  rw [e1, e2]
  grind
/-- outcomes that are drawn apart don't go together -/
theorem cov_join {a b : List (D × Rat)} (ha : rsum (a.map (·.2)) = 1) (hb : rsum (b.map (·.2)) = 1) : covF (a.flatMap fun r => b.map fun t => (unD r.1, unD t.1, r.2 * t.2)) = 0 := by
  have key : ∀ (g h : D → Rat), rsum ((a.flatMap fun r => b.map fun t => (unD r.1, unD t.1, r.2 * t.2)).map fun _ => (0 : Rat)) = 0 ∧ rsum (a.flatMap fun r => b.map fun t => g r.1 * h t.1 * (r.2 * t.2)) = Ex0 g a * Ex0 h b := fun g h => by
    constructor
    · refine rev_ind (P := fun l : List (Rat × Rat × Rat) => rsum (l.map fun _ => (0 : Rat)) = 0) rfl (fun l a ih => ?_) _
      rw [List.map_append, rsum_app, ih, List.map_cons, List.map_nil, rsum_cons, rsum_nil]
      grind
    · rw [rsum_flat]
      have : ∀ r : D × Rat, rsum (b.map fun t => g r.1 * h t.1 * (r.2 * t.2)) = Ex0 h b * (g r.1 * r.2) := fun r => by
        unfold Ex0
        rw [show (b.map fun t => g r.1 * h t.1 * (r.2 * t.2)) = b.map fun t => (g r.1 * r.2) * (h t.1 * t.2) from List.map_congr_left fun t _ => by grind, rsum_scale]
        grind
      simp only [this]
      rw [rsum_scale]
      unfold Ex0
      grind
  have k1 := (key unD unD).2
  have k2 := (key unD fun _ => 1).2
  have k3 := (key (fun _ => 1) unD).2
  have k4 := (key (fun _ => 1) fun _ => 1).2
  rw [E_one, E_one, ha, hb] at k4
  rw [E_one, hb] at k2
  rw [E_one, ha] at k3
  have mf : ∀ f : Rat × Rat × Rat → Rat, rsum ((a.flatMap fun r => b.map fun t => (unD r.1, unD t.1, r.2 * t.2)).map f) = rsum (a.flatMap fun r => b.map fun t => f (unD r.1, unD t.1, r.2 * t.2)) := fun f => by
    rw [List.map_flatMap]
    simp only [List.map_map]
    rfl
  rw [cov_eq]
  · rw [mf, mf, mf]
    have c2 : (a.flatMap fun r => b.map fun t => unD r.1 * (r.2 * t.2)) = a.flatMap fun r => b.map fun t => unD r.1 * 1 * (r.2 * t.2) := by
      congr 1; funext r; exact List.map_congr_left fun t _ => by grind
    have c3 : (a.flatMap fun r => b.map fun t => unD t.1 * (r.2 * t.2)) = a.flatMap fun r => b.map fun t => 1 * unD t.1 * (r.2 * t.2) := by
      congr 1; funext r; exact List.map_congr_left fun t _ => by grind
    show rsum (a.flatMap fun r => b.map fun t => unD r.1 * unD t.1 * (r.2 * t.2)) - rsum (a.flatMap fun r => b.map fun t => unD r.1 * (r.2 * t.2)) * rsum (a.flatMap fun r => b.map fun t => unD t.1 * (r.2 * t.2)) = 0
    rw [c2, c3, k1, k2, k3]
    grind
  · rw [mf]
    have c4 : (a.flatMap fun r => b.map fun t => (r.2 * t.2)) = a.flatMap fun r => b.map fun t => 1 * 1 * (r.2 * t.2) := by
      congr 1; funext r; exact List.map_congr_left fun t _ => by grind
    show rsum (a.flatMap fun r => b.map fun t => (r.2 * t.2)) = 1
    rw [c4, k4]
    grind
/-! sizes: everything over powers of 720720 -/
abbrev LC : Nat := 720720
theorem dvd_LC {d : Nat} (h0 : 0 < d) (h : d ≤ 16) : d ∣ LC := by
  have : ∀ d : Fin 17, 0 < d.val → d.val ∣ LC := by decide +kernel
  exact this ⟨d, by omega⟩ h0
theorem fz_small {B : Nat} {r : Rat} (h : r.den ≤ 16) (hn : r.num.natAbs ≤ B) : Fz LC B r := ⟨dvd_LC r.den_pos h, Nat.le_trans hn (Nat.le_mul_of_pos_right _ r.den_pos)⟩
abbrev V0 (r : Rat) : Prop := Fz LC 7 r
abbrev V1 (r : Rat) : Prop := Fz (LC ^ 4) (2 ^ 29) r
abbrev V (r : Rat) : Prop := Fz (LC ^ 11) (2 ^ 100) r
abbrev V2 (r : Rat) : Prop := Fz (LC ^ 14) (2 ^ 126) r
abbrev Cz (r : Rat) : Prop := Fz (LC ^ 3) (2 ^ 20) r
theorem LCpos (n : Nat) : 0 < LC ^ n := Nat.pow_pos (by decide)
theorem LCdvd {m n : Nat} (h : m ≤ n) : LC ^ m ∣ LC ^ n := Nat.pow_dvd_pow _ h
theorem LCdvd1 {n : Nat} (h : 1 ≤ n) : LC ∣ LC ^ n := by have := LCdvd (m := 1) h; rwa [Nat.pow_one] at this
theorem fz_sz {B n : Nat} {r : Rat} (h : Fz (LC ^ n) B r) (h1 : B * LC ^ n < 2 ^ 980) (h2 : LC ^ n < 2 ^ 980) : Sz LIM r := h.sz (LCpos n) h1 h2
theorem V0.v {r : Rat} (h : V0 r) : V r := h.up (LCdvd1 (by decide)) (by decide +kernel)
theorem V0.v1 {r : Rat} (h : V0 r) : V1 r := h.up (LCdvd1 (by decide)) (by decide +kernel)
theorem V1.v {r : Rat} (h : V1 r) : V r := h.up (LCdvd (by decide)) (by decide +kernel)
theorem V1.sq {r : Rat} (h : V1 r) : V (r * r) := by
  have := h.mul h
  rw [← Nat.pow_add, ← Nat.pow_add] at this
  exact this.up (LCdvd (by decide)) (by decide +kernel)
theorem V.sz {r : Rat} (h : V r) : Sz LIM r := fz_sz h (by decide +kernel) (by decide +kernel)
theorem V2.sz {r : Rat} (h : V2 r) : Sz LIM r := fz_sz h (by decide +kernel) (by decide +kernel)
theorem V2.sq {r : Rat} (h : V2 r) : Fz (LC ^ 28) (2 ^ 252) (r * r) := by
  have := h.mul h
  rw [← Nat.pow_add, ← Nat.pow_add] at this
  exact this
theorem Cz.sz {r : Rat} (h : Cz r) : Sz LIM r := fz_sz h (by decide +kernel) (by decide +kernel)
theorem V.mul {v c : Rat} (hv : V v) (hc : Cz c) : Fz (LC ^ 14) (2 ^ 120) (v * c) := by
  have := Fz.mul hv hc
  rw [← Nat.pow_add, ← Nat.pow_add] at this
  exact this
theorem meanU {rows : List (Rat × Rat)} (hl : rows.length ≤ 64) (h : ∀ r ∈ rows, V r.1 ∧ Cz r.2) : MeanOk rows ∧ V2 (meanF rows) := by
  have hp : ∀ x ∈ rows.map fun r => r.1 * r.2, Fz (LC ^ 14) (2 ^ 120) x := fun x hx => by
    obtain ⟨r, hr, rfl⟩ := List.mem_map.mp hx
    exact V.mul (h r hr).1 (h r hr).2
  refine ⟨⟨by omega, fun r hr => ⟨(h r hr).1.sz, (h r hr).2.sz⟩, fz_sumOk (n := 64) hp (LCpos 14) (by rw [List.length_map]; exact hl) (by decide +kernel) (by decide +kernel)⟩, ?_⟩
  refine (Fz.rsum hp).up (Nat.dvd_refl _) ?_
  rw [List.length_map]
  exact Nat.le_trans (Nat.mul_le_mul_right _ hl) (by decide +kernel)
theorem meanU0 {rows : List (Rat × Rat)} (hl : rows.length ≤ 64) (h : ∀ r ∈ rows, V0 r.1 ∧ Cz r.2) : V1 (meanF rows) := by
  have hp : ∀ x ∈ rows.map fun r => r.1 * r.2, Fz (LC ^ 4) (7 * 2 ^ 20) x := fun x hx => by
    obtain ⟨r, hr, rfl⟩ := List.mem_map.mp hx
    have := Fz.mul (h r hr).1 (h r hr).2
    rw [show LC * LC ^ 3 = LC ^ 4 from by rw [Nat.pow_succ LC 3, Nat.mul_comm]] at this
    exact this
  refine (Fz.rsum hp).up (Nat.dvd_refl _) ?_
  rw [List.length_map]
  exact Nat.le_trans (Nat.mul_le_mul_right _ hl) (by decide +kernel)
theorem covU {rows : List (Rat × Rat × Rat)} (hl : rows.length ≤ 64) (h : ∀ r ∈ rows, V0 r.1 ∧ V0 r.2.1 ∧ Cz r.2.2) : CovOk rows ∧ V (covF rows) := by
  have h1 : ∀ r ∈ rows.map fun r : Rat × Rat × Rat => (r.1, r.2.2), V0 r.1 ∧ Cz r.2 := fun x hx => by
    obtain ⟨r, hr, rfl⟩ := List.mem_map.mp hx
    exact ⟨(h r hr).1, (h r hr).2.2⟩
  have h2 : ∀ r ∈ rows.map fun r : Rat × Rat × Rat => (r.2.1, r.2.2), V0 r.1 ∧ Cz r.2 := fun x hx => by
    obtain ⟨r, hr, rfl⟩ := List.mem_map.mp hx
    exact (h r hr).2
  have m1 := meanU (by rw [List.length_map]; exact hl) fun r hr => ⟨(h1 r hr).1.v, (h1 r hr).2⟩
  have m2 := meanU (by rw [List.length_map]; exact hl) fun r hr => ⟨(h2 r hr).1.v, (h2 r hr).2⟩
  have f1 := meanU0 (by rw [List.length_map]; exact hl) h1
  have f2 := meanU0 (by rw [List.length_map]; exact hl) h2
  have d1 : ∀ r ∈ rows, Fz (LC ^ 4) (2 ^ 30) (r.1 - meanF (rows.map fun r => (r.1, r.2.2))) := fun r hr => ((h r hr).1.v1.sub f1).up (Nat.dvd_refl _) (by decide +kernel)
  have d2 : ∀ r ∈ rows, Fz (LC ^ 4) (2 ^ 30) (r.2.1 - meanF (rows.map fun r => (r.2.1, r.2.2))) := fun r hr => ((h r hr).2.1.v1.sub f2).up (Nat.dvd_refl _) (by decide +kernel)
  have d3 : ∀ r ∈ rows, Fz (LC ^ 8) (2 ^ 60) ((r.1 - meanF (rows.map fun r => (r.1, r.2.2))) * (r.2.1 - meanF (rows.map fun r => (r.2.1, r.2.2)))) := fun r hr => by
    have := (d1 r hr).mul (d2 r hr)
    rw [← Nat.pow_add, ← Nat.pow_add] at this
    exact this
  have d4 : ∀ x ∈ rows.map fun r => (r.1 - meanF (rows.map fun r => (r.1, r.2.2))) * (r.2.1 - meanF (rows.map fun r => (r.2.1, r.2.2))) * r.2.2, Fz (LC ^ 11) (2 ^ 80) x := fun x hx => by
    obtain ⟨r, hr, rfl⟩ := List.mem_map.mp hx
    have := (d3 r hr).mul (h r hr).2.2
    rw [← Nat.pow_add, ← Nat.pow_add] at this
    exact this
  refine ⟨⟨by omega, m1.1, m2.1, m1.2.sz, m2.2.sz, fun r hr => ⟨fz_sz (d1 r hr) (by decide +kernel) (by decide +kernel), fz_sz (d2 r hr) (by decide +kernel) (by decide +kernel), fz_sz (d3 r hr) (by decide +kernel) (by decide +kernel), (h r hr).2.2.sz⟩, fz_sumOk (n := 64) d4 (LCpos 11) (by rw [List.length_map]; exact hl) (by decide +kernel) (by decide +kernel)⟩, ?_⟩
  unfold covF
  refine (Fz.rsum d4).up (Nat.dvd_refl _) ?_
  rw [List.length_map]
  exact Nat.le_trans (Nat.mul_le_mul_right _ hl) (by decide +kernel)
theorem varU {rows : List (Rat × Rat)} (hl : rows.length ≤ 64) (h : ∀ r ∈ rows, V0 r.1 ∧ Cz r.2) : CovOk (rows.map fun r => (r.1, r.1, r.2)) ∧ V (varF rows) :=
  covU (by rw [List.length_map]; exact hl) fun x hx => by
    obtain ⟨r, hr, rfl⟩ := List.mem_map.mp hx
    exact ⟨(h r hr).1, (h r hr).1, (h r hr).2⟩
theorem spreadU {rows : List (Rat × Rat)} (hl : rows.length ≤ 64) (h : ∀ r ∈ rows, V1 r.1 ∧ Cz r.2) : (MeanOk rows ∧ MeanOk (rows.map fun r => (r.1 * r.1, r.2)) ∧ Sz LIM (meanF rows) ∧ Sz LIM (meanF rows * meanF rows) ∧ Sz LIM (meanF (rows.map fun r => (r.1 * r.1, r.2)))) ∧ Sz LIM (spreadF rows) := by
  have m1 := meanU hl fun r hr => ⟨(h r hr).1.v, (h r hr).2⟩
  have m2 := meanU (rows := rows.map fun r => (r.1 * r.1, r.2)) (by rw [List.length_map]; exact hl) fun x hx => by
    obtain ⟨r, hr, rfl⟩ := List.mem_map.mp hx
    exact ⟨(h r hr).1.sq, (h r hr).2⟩
  refine ⟨⟨m1.1, m2.1, m1.2.sz, fz_sz m1.2.sq (by decide +kernel) (by decide +kernel), m2.2.sz⟩, ?_⟩
  have := (m2.2.up (LCdvd (show 14 ≤ 28 by decide)) (Nat.le_refl _)).sub m1.2.sq
  exact fz_sz this (by decide +kernel) (by decide +kernel)
theorem outOk_num {rows : List (D × Rat)} (h : Num rows) : OutOk rows := by
  refine ⟨fun r hr => ?_, fun r hr r' hr' => ?_, fun r hr => ?_⟩
  · obtain ⟨v, e⟩ := h r hr
    rw [e]
    exact ⟨rfl, rfl⟩
  · obtain ⟨v, e⟩ := h r hr
    obtain ⟨v', e'⟩ := h r' hr'
    rw [e, e']
    rfl
  · obtain ⟨v, e⟩ := h r hr
    rw [e]
    exact ⟨_, _, rfl⟩
theorem fz_sumAt {M B : Nat} {rows : List (D × Rat)} {n : Nat} (hl : rows.length ≤ n) (h : ∀ r ∈ rows, Fz M B r.2) (d : D) : Fz M (n * B) (sumAt rows d) := by
  unfold sumAt
  refine (Fz.rsum (M := M) (B := B) fun x hx => ?_).up (Nat.dvd_refl _) ?_
  · obtain ⟨r, hr, rfl⟩ := List.mem_map.mp hx
    exact h r (List.mem_filter.mp hr).1
  · rw [List.length_map]
    exact Nat.mul_le_mul_right _ (Nat.le_trans (List.length_filter_le _ _) hl)
theorem rowsU {rows : List (D × Rat)} (hl : rows.length ≤ 64) (h : ∀ r ∈ rows, Fz (LC ^ 2) (2 ^ 12) r.2) : RowsOk rows := by
  refine ⟨by omega, fz_sumOk (n := 64) (M := LC ^ 2) (B := 2 ^ 12) (fun x hx => ?_) (LCpos 2) (by rw [List.length_map]; exact hl) (by decide +kernel) (by decide +kernel), fun i d => ?_⟩
  · obtain ⟨r, hr, rfl⟩ := List.mem_map.mp hx
    exact h r hr
  · have := fz_sumAt (n := 64) (rows := rows.take i) (Nat.le_trans (List.length_take_le' _ _) hl) (fun r hr => h r (List.mem_of_mem_take hr)) d
    exact fz_sz this (by decide +kernel) (by decide +kernel)
def LwOk (l : List (D × Rat)) : Prop := l.length ≤ 4 ∧ (∀ r ∈ l, ∃ v, r.1 = dF v ∧ V0 v) ∧ (∀ r ∈ l, 0 ≤ r.2 ∧ Fz LC 64 r.2) ∧ rsum (l.map (·.2)) = 1
theorem LwOk.num {l : List (D × Rat)} (h : LwOk l) : Num l := fun r hr => let ⟨v, e, _⟩ := h.2.1 r hr; ⟨v, e⟩
theorem LwOk.v0 {l : List (D × Rat)} (h : LwOk l) : ∀ r ∈ rr l, V0 r.1 ∧ Cz r.2 := fun x hx => by
  obtain ⟨r, hr, rfl⟩ := List.mem_map.mp hx
  obtain ⟨v, e, hv⟩ := h.2.1 r hr
  refine ⟨?_, (h.2.2.1 r hr).2.up (LCdvd1 (by decide)) (by decide)⟩
  show V0 (unD r.1)
  rw [e, unD_dF]
  exact hv
theorem rr_len (l : List (D × Rat)) : (rr l).length = l.length := List.length_map ..
theorem RwOk.v0 {rows : List (Rat × Rat)} (h : RwOk rows) : ∀ r ∈ rows, V0 r.1 ∧ Cz r.2 := fun r hr => by
  have ⟨h1, h2⟩ := h.2.1 r hr
  have ⟨_, _, h3, h4⟩ := h.2.2.2.1 r.2 (List.mem_map_of_mem hr)
  exact ⟨fz_small (by omega) h2, (fz_small h3 h4).up (LCdvd1 (by decide)) (by decide)⟩
theorem sum_dD (rows : List (Rat × Rat)) : (dD rows).map (·.2) = rows.map (·.2) := by unfold dD; rw [List.map_map]; rfl
theorem sumAt_nn {rows : List (D × Rat)} (h : ∀ r ∈ rows, 0 ≤ r.2) (d : D) : 0 ≤ sumAt rows d := by
  unfold sumAt
  refine rsum_nn fun x hx => ?_
  obtain ⟨r, hr, rfl⟩ := List.mem_map.mp hx
  exact h r (List.mem_filter.mp hr).1
theorem gath_ok {rows : List (Rat × Rat)} (h : RwOk rows) : (RowsOk (dD rows) ∧ OutOk (dD rows)) ∧ LwOk (lawF (dD rows)) := by
  have hnum : Num (dD rows) := fun x hx => by
    obtain ⟨r, hr, rfl⟩ := List.mem_map.mp hx
    exact ⟨_, rfl⟩
  have hlen : (dD rows).length ≤ 4 := by unfold dD; rw [List.length_map]; exact h.1.1
  have hch : ∀ x ∈ dD rows, 0 ≤ x.2 ∧ Fz LC 16 x.2 := fun x hx => by
    obtain ⟨r, hr, rfl⟩ := List.mem_map.mp hx
    have ⟨h0, _, h3, h4⟩ := h.2.2.2.1 r.2 (List.mem_map_of_mem hr)
    exact ⟨h0, fz_small h3 h4⟩
  refine ⟨⟨rowsU (by omega) fun r hr => (hch r hr).2.up (LCdvd1 (by decide)) (by decide), outOk_num hnum⟩, ?_⟩
  refine ⟨Nat.le_trans (lawF_len _) hlen, fun p hp => ?_, fun p hp => ?_, ?_⟩
  · obtain ⟨⟨r, hr, e⟩, _⟩ := mem_lawF hp
    obtain ⟨x, hx, rfl⟩ := List.mem_map.mp hr
    exact ⟨x.1, e.symm, (h.v0 x hx).1⟩
  · obtain ⟨_, e⟩ := mem_lawF hp
    rw [e]
    refine ⟨sumAt_nn (fun r hr => (hch r hr).1) _, ?_⟩
    exact fz_sumAt (n := 4) hlen (fun r hr => (hch r hr).2) _
  · rw [← E_one, E_law, E_one, sum_dD]
    exact h.2.2.2.2
theorem sh_sum {m : Nat} {rs : List Rat} (h : ShOk m rs) (hm : m ≤ 4) : SumOk rs := by
  refine fz_sumOk (n := 4) (M := LC) (B := 16) (fun r hr => fz_small (h.2.1 r hr).2.2.1 (h.2.1 r hr).2.2.2) (by decide) (by rw [h.1]; exact hm) (by decide +kernel) (by decide +kernel)
theorem sh_ok {m : Nat} {rs : List Rat} (h : ShOk m rs) : chOk rs = true := by
  unfold chOk
  rw [h.2.2, decide_eq_true (fun r hr => (h.2.1 r hr).1)]
  rfl
theorem mix_len {laws : List (List (D × Rat))} {chances : List Rat} (h : ∀ l ∈ laws, l.length ≤ 4) (hl : laws.length ≤ 4) : (mixF laws chances).length ≤ 16 := by
  have : ∀ zs : List (List (D × Rat) × Rat), (∀ p ∈ zs, p.1.length ≤ 4) → (zs.flatMap fun p => p.1.map fun r => (r.1, p.2 * r.2)).length ≤ 4 * zs.length := fun zs hz => by
    induction zs with
    | nil => simp
    | cons p zs ih =>
      have h1 := hz p List.mem_cons_self
      have h2 := ih fun x hx => hz x (List.mem_cons_of_mem _ hx)
      rw [List.flatMap_cons, List.length_append, List.length_map, List.length_cons]
      omega
  have h2 := this (laws.zip chances) fun p hp => h _ (List.of_mem_zip hp).1
  rw [List.length_zip] at h2
  unfold mixF
  omega
theorem mem_mix {laws : List (List (D × Rat))} {chances : List Rat} {x : D × Rat} (h : x ∈ mixF laws chances) : ∃ l ∈ laws, ∃ c ∈ chances, ∃ r ∈ l, x = (r.1, c * r.2) := by
  unfold mixF at h
  obtain ⟨p, hp, hx⟩ := List.mem_flatMap.mp h
  obtain ⟨r, hr, rfl⟩ := List.mem_map.mp hx
  exact ⟨p.1, (List.of_mem_zip hp).1, p.2, (List.of_mem_zip hp).2, r, hr, rfl⟩
/-- what is told of a mixture: at most 16 rows, small -/
def TdOk (l : List (D × Rat)) : Prop := l.length ≤ 16 ∧ (∀ r ∈ l, ∃ v, r.1 = dF v ∧ V0 v) ∧ (∀ r ∈ l, Fz (LC ^ 2) (2 ^ 14) r.2) ∧ rsum (l.map (·.2)) = 1
theorem TdOk.num {l : List (D × Rat)} (h : TdOk l) : Num l := fun r hr => let ⟨v, e, _⟩ := h.2.1 r hr; ⟨v, e⟩
theorem TdOk.v0 {l : List (D × Rat)} (h : TdOk l) : ∀ r ∈ rr l, V0 r.1 ∧ Cz r.2 := fun x hx => by
  obtain ⟨r, hr, rfl⟩ := List.mem_map.mp hx
  obtain ⟨v, e, hv⟩ := h.2.1 r hr
  refine ⟨?_, (h.2.2.1 r hr).up (LCdvd (by decide)) (by decide)⟩
  show V0 (unD r.1)
  rw [e, unD_dF]
  exact hv
theorem mix_ok {laws : List (List (D × Rat))} {chances : List Rat} (hw : ∀ l ∈ laws, LwOk l) (h4 : laws.length ≤ 4) (hs : ShOk laws.length chances) :
    MixOk laws chances ∧ chOk ((mixF laws chances).map (·.2)) = true ∧ TdOk (lawF (mixF laws chances)) := by
  have hlen := mix_len (chances := chances) (fun l hl => (hw l hl).1) h4
  have hch : ∀ x ∈ mixF laws chances, 0 ≤ x.2 ∧ Fz (LC ^ 2) (2 ^ 10) x.2 := fun x hx => by
    obtain ⟨l, hl, c, hc, r, hr, rfl⟩ := mem_mix hx
    have ⟨c0, _, c3, c4⟩ := hs.2.1 c hc
    have ⟨r0, r1⟩ := (hw l hl).2.2.1 r hr
    refine ⟨Rat.mul_nonneg c0 r0, ?_⟩
    have := (fz_small c3 c4).mul r1
    rw [show LC * LC = LC ^ 2 from by rw [Nat.pow_succ, Nat.pow_one]] at this
    exact this
  have hnum : Num (mixF laws chances) := fun x hx => by
    obtain ⟨l, hl, c, hc, r, hr, rfl⟩ := mem_mix hx
    obtain ⟨v, e, _⟩ := (hw l hl).2.1 r hr
    exact ⟨v, e⟩
  have hsum := (total_var hs.1.symm (fun l hl => (hw l hl).2.2.2) hs.2.2).1
  refine ⟨⟨fun l hl => ⟨by have := (hw l hl).1; omega, fun r hr => (((hw l hl).2.2.1 r hr).2.up (M' := LC ^ 3) (B' := 2 ^ 20) (LCdvd1 (by decide)) (by decide)).sz (LCpos 3) (by decide +kernel) (by decide +kernel)⟩, rowsU (by omega) fun r hr => (hch r hr).2.up (Nat.dvd_refl _) (by decide), outOk_num hnum⟩, ?_, ?_⟩
  · unfold chOk
    rw [hsum, decide_eq_true]
    · rfl
    · intro x hx
      obtain ⟨r, hr, rfl⟩ := List.mem_map.mp hx
      exact (hch r hr).1
  · refine ⟨Nat.le_trans (lawF_len _) hlen, fun p hp => ?_, fun p hp => ?_, ?_⟩
    · obtain ⟨⟨x, hx, e⟩, _⟩ := mem_lawF hp
      obtain ⟨l, hl, c, hc, r, hr, rfl⟩ := mem_mix hx
      obtain ⟨v, e2, hv⟩ := (hw l hl).2.1 r hr
      exact ⟨v, e.symm.trans e2, hv⟩
    · obtain ⟨_, e⟩ := mem_lawF hp
      rw [e]
      exact fz_sumAt (n := 16) hlen (fun r hr => (hch r hr).2) _
    · rw [← E_one, E_law, E_one]
      exact hsum
theorem mixF_step {laws : List (List (D × Rat))} {chances : List Rat} {i : Nat} {l : List (D × Rat)} {c : Rat} (h2 : laws[i]? = some l) (h3 : chances[i]? = some c) : mixF (laws.take (i + 1)) (chances.take (i + 1)) = mixF (laws.take i) (chances.take i) ++ l.map fun r => (r.1, c * r.2) := by
  have a1 := lt_of_at h2
  have a2 := lt_of_at h3
  unfold mixF
  rw [List.take_add_one, List.take_add_one, h2, h3, Option.toList_some, Option.toList_some, List.zip_append (by rw [List.length_take, List.length_take]; omega), List.flatMap_append]
  simp
def half : Rat := ⟨1, 2, by decide, by decide⟩
def third : Rat := ⟨1, 3, by decide, by decide⟩
theorem cut_hiD (ds : List D) (n : Nat) (h : n ≤ ds.length) : cutD ds (some (n : Int)) none = ds.drop n := by
  unfold cutD
  rw [HT.sIx_nat, HT.sIx_none, Nat.min_eq_left h, List.take_of_length_le (by simp)]
theorem halves {m : Nat} {cs : List Rat} (h : ShOk m cs) (hm : m ≤ 4) : SumOk (cs.map fun c => c * half) ∧ chOk (cs.map fun c => c * half) = false := by
  have hf : Fz LC 1 half := ⟨by decide +kernel, by decide +kernel⟩
  constructor
  · refine fz_sumOk (n := 4) (M := LC * LC) (B := 16 * 1) (fun x hx => ?_) (by decide) (by rw [List.length_map, h.1]; exact hm) (by decide +kernel) (by decide +kernel)
    obtain ⟨c, hc, rfl⟩ := List.mem_map.mp hx
    exact (fz_small (h.2.1 c hc).2.2.1 (h.2.1 c hc).2.2.2).mul hf
  · unfold chOk
    have : rsum (cs.map fun c => c * half) = half := by
      rw [show (cs.map fun c => c * half) = cs.map (half * ·) from List.map_congr_left fun c _ => by grind, rsum_mul, h.2.2]
      grind
    rw [this, show decide (half = 1) = false from by decide +kernel, Bool.and_false]
theorem rsum_zeros : ∀ n, rsum (List.replicate n (0 : Rat)) = 0
  | 0 => rfl
  | n + 1 => by rw [List.replicate_succ, rsum_cons, rsum_zeros n]; grind
theorem toomuch {m : Nat} {cs : List Rat} (h : ShOk m cs) (hm : m ≤ 4) : SumOk (cs ++ List.replicate (cs.length - 1) 0 ++ [third]) ∧ chOk (cs ++ List.replicate (cs.length - 1) 0 ++ [third]) = false := by
  constructor
  · refine fz_sumOk (n := 8) (M := LC) (B := 16) (fun x hx => ?_) (by decide) ?_ (by decide +kernel) (by decide +kernel)
    · rcases List.mem_append.mp hx with hx | hx
      · rcases List.mem_append.mp hx with hx | hx
        · exact fz_small (h.2.1 x hx).2.2.1 (h.2.1 x hx).2.2.2
        · rw [(List.mem_replicate.mp hx).2]; exact Fz.zero _ _
      · rw [List.mem_singleton.mp hx]
        exact ⟨by decide +kernel, by decide +kernel⟩
    · rw [List.length_append, List.length_append, List.length_replicate, h.1]
      simp
      omega
  · unfold chOk
    rw [rsum_app, rsum_app, rsum_zeros, h.2.2, rsum_cons, rsum_nil, show decide ((1 : Rat) + 0 + (third + 0) = 1) = false from by decide +kernel, Bool.and_false]
/-- pairs of rows -/
def prs (a b : List (D × Rat)) : List ((D × Rat) × (D × Rat)) := a.flatMap fun r => b.map fun t => (r, t)
theorem join_prs (a b : List (D × Rat)) : joinF a b = (prs a b).map fun p => (.tup [p.1.1, p.2.1], p.1.2 * p.2.2) := by
  unfold joinF prs
  rw [List.map_flatMap]
  simp only [List.map_map]
  rfl
noncomputable def prs3 (a b : List (D × Rat)) : List (Rat × Rat × Rat) := (prs a b).map fun p => (unD p.1.1, unD p.2.1, p.1.2 * p.2.2)
theorem prs3_cov {a b : List (D × Rat)} (ha : rsum (a.map (·.2)) = 1) (hb : rsum (b.map (·.2)) = 1) : covF (prs3 a b) = 0 := by
  have : prs3 a b = a.flatMap fun r => b.map fun t => (unD r.1, unD t.1, r.2 * t.2) := by
    unfold prs3 prs
    rw [List.map_flatMap]
    simp only [List.map_map]
    rfl
  rw [this]
  exact cov_join ha hb
theorem prs_len (a b : List (D × Rat)) : (prs a b).length = a.length * b.length := flat_len fun r _ => List.length_map ..
theorem mem_prs {a b : List (D × Rat)} {p : (D × Rat) × (D × Rat)} (h : p ∈ prs a b) : p.1 ∈ a ∧ p.2 ∈ b := by
  unfold prs at h
  obtain ⟨r, hr, h⟩ := List.mem_flatMap.mp h
  obtain ⟨t, ht, rfl⟩ := List.mem_map.mp h
  exact ⟨hr, ht⟩
theorem prs3_ok {a b : List (D × Rat)} (ha : TdOk a) (hb : LwOk b) : CovOk (prs3 a b) := by
  refine (covU ?_ fun x hx => ?_).1
  · unfold prs3
    rw [List.length_map, prs_len]
    exact Nat.mul_le_mul ha.1 hb.1
  · obtain ⟨p, hp, rfl⟩ := List.mem_map.mp hx
    have ⟨h1, h2⟩ := mem_prs hp
    obtain ⟨v, e, hv⟩ := ha.2.1 _ h1
    obtain ⟨v', e', hv'⟩ := hb.2.1 _ h2
    refine ⟨?_, ?_, ?_⟩
    · show V0 (unD p.1.1); rw [e, unD_dF]; exact hv
    · show V0 (unD p.2.1); rw [e', unD_dF]; exact hv'
    · have := (ha.2.2.1 _ h1).mul (hb.2.2.1 _ h2).2
      rw [show LC ^ 2 * LC = LC ^ 3 from (Nat.pow_succ ..).symm] at this
      exact this
theorem prs_un {a b : List (D × Rat)} (ha : Num a) (hb : Num b) {p : (D × Rat) × (D × Rat)} (h : p ∈ prs a b) : p.1.1 = dF (unD p.1.1) ∧ p.2.1 = dF (unD p.2.1) := ⟨ha.un _ (mem_prs h).1, hb.un _ (mem_prs h).2⟩
theorem zip_at {α β : Type} {xs : List α} {ys : List β} {i : Nat} {p : α × β} (h : (xs.zip ys)[i]? = some p) : xs[i]? = some p.1 ∧ ys[i]? = some p.2 := List.getElem?_zip_eq_some.mp h
theorem at_zip {α β : Type} {xs : List α} {ys : List β} {i : Nat} {x : α} {y : β} (h1 : xs[i]? = some x) (h2 : ys[i]? = some y) : (xs.zip ys)[i]? = some (x, y) := List.getElem?_zip_eq_some.mpr ⟨h1, h2⟩
/-! ### draws: a list of ints that is lent, popped (family C) -/
def rowO (ns : List Int) : O := .lst (ns.map D.int)
def psp__law_mix : Psp := ⟨2, fun xs q => ∃ n k : Int, xs = [.fr (.int n), .fr (.int k)] ∧ k.natAbs < 2 ^ 20 ∧ ∀ z : Int, 0 ≤ z → z < 998244353 → q (.fr (.int z)) []⟩
abbrev sp__law_mix (K : PySem.W.Frag) : Sp := Lsp K psp__law_mix
def psp__law_numbers : Psp := ⟨2, fun xs q => ∃ (ns : List Int) (c : Int), xs = [.fr (.scr ns), .fr (.int c)] ∧ (ns.length ≤ 63 ∧ 0 ≤ c ∧ c ≤ 1000) ∧ ∀ ms, q (.ow false (rowO ms)) []⟩
abbrev sp__law_numbers (K : PySem.W.Frag) : Sp := Lsp K psp__law_numbers
def psp__law_take : Psp := ⟨2, fun xs q => ∃ (ns : List Int) (b : Int), xs = [.ow true (rowO ns), .fr (.int b)] ∧ 0 < b ∧ ∀ z ms, 0 ≤ z → z < b → q (.fr (.int z)) [rowO ms]⟩
abbrev sp__law_take (K : PySem.W.Frag) : Sp := Lsp K psp__law_take
theorem ints_snoc (ms : List Int) (z : Int) : ms.map D.int ++ [D.int z] = (ms ++ [z]).map D.int := by rw [List.map_append]; rfl
theorem ints_at {ns : List Int} {i : Nat} {d : D} (h : (ns.map D.int)[i]? = some d) : ∃ z, d = .int z ∧ ns[i]? = some z := by
  rw [List.getElem?_map] at h
  cases e : ns[i]? with
  | none => rw [e] at h; cases h
  | some z => rw [e] at h; exact ⟨z, (Option.some.inj h).symm, rfl⟩
theorem cutD_ints (ns : List Int) (lo hi : Option Int) : ∃ ms : List Int, cutD (ns.map D.int) lo hi = ms.map D.int ∧ ms.length ≤ ns.length := by
  unfold cutD
  rw [← List.map_drop, ← List.map_take]
  exact ⟨_, rfl, by rw [List.length_take, List.length_drop]; omega⟩
theorem rowO_snoc (ms : List Int) (z : Int) : rowO (ms ++ [z]) = .lst (ms.map D.int ++ [D.int z]) := by rw [ints_snoc]; rfl
/-! ### enumerate(zip(xs, ys)) over two lists -/
section
open PySem PyProof.Rows
/-- a zip: f0 = what it knows of the tuple it gave out, f = that it is known to be held -/
abbrev IsZipG (h : Heap) (z TI TO : Addr) (f0 : Value) (f : Bool) : Prop :=
  h.get? z = some { cls := .type "zip", dict := none, data := .fields #[f0, .bool f, .bool false, .ref TI, .ref TO], slots := #[] }
variable {prog : Program} {w : World} {A : Around} {E : Value → Shared → Prop} {s : Shared}
theorem zipF_item {z TI TO i1 i2 l1 l2 : Addr} {f0 : Value} {f : Bool} {k1 k2 : Nat} {xs ys : Array Value} {x y a b : Value} {Q : Value → Shared → Prop} (D : ZipApart z TI TO i1 i2 l1 l2)
    (hz : IsZipG s.heap z TI TO f0 f) (free : ∀ Q : Bool → Shared → Prop, Q true s → wpAny (model prog w) A (Builtin.SmallTypes.ownedTupleIsFree (.ref z)) Q E s) (hTI : IsPair s.heap TI (.ref i1) (.ref i2)) (hTO : IsPair s.heap TO a b)
    (h1 : s.heap.IsListIter i1 l1 k1) (h2 : s.heap.IsListIter i2 l2 k2) (hl1 : s.heap.IsList l1 xs) (hl2 : s.heap.IsList l2 ys) (hx : xs[k1]? = some x) (hy : ys[k2]? = some y)
    (hQ : ∀ h', IsZipG h' z TI TO (rawInt s.heap.objs.size) false → IsPair h' TO x y → h'.IsListIter i1 l1 (k1 + 1) → h'.IsListIter i2 l2 (k2 + 1) → IsPair h' s.heap.objs.size x y → h'.objs.size = s.heap.objs.size + 1 →
      (∀ c o, c ≠ z → c ≠ TO → c ≠ i1 → c ≠ i2 → s.heap.get? c = some o → h'.get? c = some o) → Q (.ref s.heap.objs.size) { s with heap := h' }) :
    wpAny (model prog w) A (Builtin.«zip.__next__» ⟨[.ref z], []⟩) (fun fin s' => ∃ v, fin = .done (.ret v) ∧ Q v s') E s := by
  show wpAny _ _ (field (.ref z) 2 >>= _) _ _ _
  refine wpAny_bind (wpAny_field hz rfl (x := .bool false) rfl ?_)
  show wpAny _ _ (field (.ref z) 3 >>= _) _ _ _
  refine wpAny_bind (wpAny_field hz rfl (x := .ref TI) rfl ?_)
  refine wpAny_bind (wpAny_seqItems hTI rfl ?_)
  show wpAny _ _ (Builtin.SmallTypes.ownedTupleIsFree (.ref z) >>= _) _ _ _
  refine wpAny_bind (free _ ?_)
  simp only [if_true]
  refine wpAny_bind (wpAny_rule ?_)
  refine wpAny_bind (wpAny_field hz rfl (x := .ref TO) rfl ?_)
  refine wpAny_bind (wpAny_setField_rec hz (by simp) fun h₁ hz₁ hs₁ => ?_)
  replace hz₁ : IsZipG h₁ z TI TO .ellipsis f := hz₁
  refine wpAny_bind ?_
  simp only [List.zipIdx_cons, List.zipIdx_nil, List.forIn_cons, List.forIn_nil]

  refine wpAny_bind (wpAny_bind (wpAny_onRaise ?_))
  show wpAny _ _ (Builtin.SmallTypes.nextOf (.ref i1) >>= _) _ _ _
  refine wpAny_bind (wpAny_nextOf_list_item (h1.extBut hs₁.extBut D.i1z) (hl1.extBut hs₁.extBut D.l1z) hx fun h₂ h1₂ hs₂ => wpAny_pure ?_)
  have hTO₂ : IsPair h₂ TO a b := hs₂.extBut _ _ D.TOi1 (hs₁.extBut _ _ D.TOz hTO)
  refine wpAny_bind (wpAny_seqItems hTO₂ rfl ?_)
  refine wpAny_bind (wpAny_updateSeq_pair hTO₂ fun h₃ hTO₃ hs₃ => ?_)
  replace hTO₃ : IsPair h₃ TO x b := hTO₃
  refine wpAny_bind (wpAny_letGo (wpAny_pure ?_))

  refine wpAny_bind (wpAny_bind (wpAny_onRaise ?_))
  show wpAny _ _ (Builtin.SmallTypes.nextOf (.ref i2) >>= _) _ _ _
  refine wpAny_bind (wpAny_nextOf_list_item (((h2.extBut hs₁.extBut D.i2z).extBut hs₂.extBut D.i12.symm).extBut hs₃.extBut D.TOi2.symm)
    (((hl2.extBut hs₁.extBut D.l2z).extBut hs₂.extBut D.l2i1).extBut hs₃.extBut D.l2TO) hy fun h₄ h2₄ hs₄ => wpAny_pure ?_)
  have hTO₄ : IsPair h₄ TO x b := hs₄.extBut _ _ D.TOi2 hTO₃
  refine wpAny_bind (wpAny_seqItems hTO₄ rfl ?_)
  refine wpAny_bind (wpAny_updateSeq_pair hTO₄ fun h₅ hTO₅ hs₅ => ?_)
  replace hTO₅ : IsPair h₅ TO x y := hTO₅
  refine wpAny_bind (wpAny_letGo (wpAny_pure (wpAny_pure ?_)))

  refine wpAny_bind (wpAny_seqItems hTO₅ rfl ?_)
  refine wpAny_bind (wpAny_newTuple ?_)
  have hsz : h₅.objs.size = s.heap.objs.size := by rw [hs₅.1, hs₄.1, hs₃.1, hs₂.1, hs₁.1]
  have hz₅ : IsZipG h₅ z TI TO .ellipsis f := hs₅.extBut _ _ D.TOz.symm (hs₄.extBut _ _ D.i2z.symm (hs₃.extBut _ _ D.TOz.symm (hs₂.extBut _ _ D.i1z.symm hz₁)))
  have hk₅ : ∀ c o, c ≠ z → c ≠ TO → c ≠ i1 → c ≠ i2 → s.heap.get? c = some o → h₅.get? c = some o := fun c o c1 c2 c3 c4 e =>
    hs₅.extBut _ _ c2 (hs₄.extBut _ _ c4 (hs₃.extBut _ _ c2 (hs₂.extBut _ _ c3 (hs₁.extBut _ _ c1 e))))
  have h1₅ : h₅.IsListIter i1 l1 (k1 + 1) := ((h1₂.extBut hs₃.extBut D.TOi1.symm).extBut hs₄.extBut D.i12).extBut hs₅.extBut D.TOi1.symm
  have h2₅ : h₅.IsListIter i2 l2 (k2 + 1) := h2₄.extBut hs₅.extBut D.TOi2.symm
  have hzlt : z < h₅.objs.size := Heap.lt_size hz₅
  show wpAny _ _ (Builtin.SmallTypes.ownedTupleHandOut (.ref z) (.ref h₅.objs.size) >>= _) _ _ _
  refine wpAny_bind ?_
  unfold Builtin.SmallTypes.ownedTupleHandOut
  have hz₆ : IsZipG (h₅.push { cls := .type "tuple", data := .seq #[x, y] }) z TI TO .ellipsis f := Heap.get?_push_of_some _ hz₅
  refine wpAny_bind (wpAny_setField_rec hz₆ (by simp) fun h₇ hz₇ hs₇ => ?_)
  replace hz₇ : IsZipG h₇ z TI TO (rawInt h₅.objs.size) f := hz₇
  refine wpAny_setField_rec hz₇ (by simp) fun h₈ hz₈ hs₈ => ?_
  replace hz₈ : IsZipG h₈ z TI TO (rawInt h₅.objs.size) false := hz₈
  have up : ∀ c o, c ≠ z → h₅.get? c = some o → h₈.get? c = some o := fun c o c1 e => hs₈.extBut _ _ c1 (hs₇.extBut _ _ c1 (Heap.get?_push_of_some _ e))
  have hT₈ : IsPair h₈ h₅.objs.size x y := hs₈.extBut _ _ (Nat.ne_of_gt hzlt) (hs₇.extBut _ _ (Nat.ne_of_gt hzlt) (Heap.get?_push_size _ rfl))
  have hz8 : h₈.objs.size = h₅.objs.size + 1 := by rw [hs₈.1, hs₇.1, Heap.size_push]
  rw [hsz] at hz₈ hT₈ hz8
  refine wpAny_pure ⟨_, rfl, ?_⟩
  show Q (.ref h₅.objs.size) _
  rw [hsz]
  exact hQ h₈ hz₈ (up _ _ D.TOz hTO₅) (h1₅.at fun o e => up _ o D.i1z e) (h2₅.at fun o e => up _ o D.i2z e) hT₈ hz8 fun c o c1 c2 c3 c4 e => up c o c1 (hk₅ c o c1 c2 c3 c4 e)
theorem zipF_end {z TI TO i1 i2 l1 l2 : Addr} {f0 : Value} {f : Bool} {k1 k2 : Nat} {xs ys : Array Value} {a b : Value} {Q : Fin → Shared → Prop} (hh : A.handled = none) (D : ZipApart z TI TO i1 i2 l1 l2)
    (hz : IsZipG s.heap z TI TO f0 f) (free : ∀ Q : Bool → Shared → Prop, Q true s → wpAny (model prog w) A (Builtin.SmallTypes.ownedTupleIsFree (.ref z)) Q E s) (hTI : IsPair s.heap TI (.ref i1) (.ref i2)) (hTO : IsPair s.heap TO a b)
    (h1 : s.heap.IsListIter i1 l1 k1) (h2 : s.heap.IsListIter i2 l2 k2) (hl1 : s.heap.IsList l1 xs) (hl2 : s.heap.IsList l2 ys) (hend : xs[k1]? = none ∨ ys[k2]? = none)
    (hE : ∀ h' e, (∀ c o, c ≠ z → c ≠ TO → c ≠ i1 → c ≠ i2 → s.heap.get? c = some o → h'.get? c = some o) → (∃ o, h'.get? e = some o ∧ o.cls = .type "StopIteration") → E (.ref e) { s with heap := h' }) :
    wpAny (model prog w) A (Builtin.«zip.__next__» ⟨[.ref z], []⟩) Q E s := by
  show wpAny _ _ (field (.ref z) 2 >>= _) _ _ _
  refine wpAny_bind (wpAny_field hz rfl (x := .bool false) rfl ?_)
  show wpAny _ _ (field (.ref z) 3 >>= _) _ _ _
  refine wpAny_bind (wpAny_field hz rfl (x := .ref TI) rfl ?_)
  refine wpAny_bind (wpAny_seqItems hTI rfl ?_)
  show wpAny _ _ (Builtin.SmallTypes.ownedTupleIsFree (.ref z) >>= _) _ _ _
  refine wpAny_bind (free _ ?_)
  simp only [if_true]
  refine wpAny_bind (wpAny_rule ?_)
  refine wpAny_bind (wpAny_field hz rfl (x := .ref TO) rfl ?_)
  refine wpAny_bind (wpAny_setField_rec hz (by simp) fun h₁ hz₁ hs₁ => ?_)
  replace hz₁ : IsZipG h₁ z TI TO .ellipsis f := hz₁
  refine wpAny_bind ?_
  simp only [List.zipIdx_cons, List.zipIdx_nil, List.forIn_cons, List.forIn_nil]
  refine wpAny_bind (wpAny_bind (wpAny_onRaise ?_))
  show wpAny _ _ (Builtin.SmallTypes.nextOf (.ref i1) >>= _) _ _ _
  cases hx : xs[k1]? with
  | none =>
    refine wpAny_bind (wpAny_nextOf_list_end hh (h1.extBut hs₁.extBut D.i1z) (hl1.extBut hs₁.extBut D.l1z) hx fun h₂ e hs₂ he => ?_)
    obtain ⟨oe, hoe, hce⟩ := he
    have hz₂ : IsZipG h₂ z TI TO .ellipsis f := hs₂ _ _ D.i1z.symm hz₁
    have hez : e ≠ z := fun x => by subst x; rw [hz₂] at hoe; cases hoe; simp at hce
    refine wpAny_setField_rec hz₂ (by simp) fun h₃ _ hs₃ => hE h₃ e (fun c o c1 _ c3 _ x => hs₃.extBut _ _ c1 (hs₂ _ _ c3 (hs₁.extBut _ _ c1 x))) ⟨oe, hs₃.extBut _ _ hez hoe, hce⟩
  | some x =>
    have hy : ys[k2]? = none := by rcases hend with h | h; rw [hx] at h; cases h; exact h
    refine wpAny_bind (wpAny_nextOf_list_item (h1.extBut hs₁.extBut D.i1z) (hl1.extBut hs₁.extBut D.l1z) hx fun h₂ h1₂ hs₂ => wpAny_pure ?_)
    have hTO₂ : IsPair h₂ TO a b := hs₂.extBut _ _ D.TOi1 (hs₁.extBut _ _ D.TOz hTO)
    refine wpAny_bind (wpAny_seqItems hTO₂ rfl ?_)
    refine wpAny_bind (wpAny_updateSeq_pair hTO₂ fun h₃ hTO₃ hs₃ => ?_)
    refine wpAny_bind (wpAny_letGo (wpAny_pure ?_))
    refine wpAny_bind (wpAny_bind (wpAny_onRaise ?_))
    show wpAny _ _ (Builtin.SmallTypes.nextOf (.ref i2) >>= _) _ _ _
    refine wpAny_bind (wpAny_nextOf_list_end hh (((h2.extBut hs₁.extBut D.i2z).extBut hs₂.extBut D.i12.symm).extBut hs₃.extBut D.TOi2.symm)
      (((hl2.extBut hs₁.extBut D.l2z).extBut hs₂.extBut D.l2i1).extBut hs₃.extBut D.l2TO) hy fun h₄ e hs₄ he => ?_)
    obtain ⟨oe, hoe, hce⟩ := he
    have hz₄ : IsZipG h₄ z TI TO .ellipsis f := hs₄ _ _ D.i2z.symm (hs₃.extBut _ _ D.TOz.symm (hs₂.extBut _ _ D.i1z.symm hz₁))
    have hez : e ≠ z := fun x => by subst x; rw [hz₄] at hoe; cases hoe; simp at hce
    refine wpAny_setField_rec hz₄ (by simp) fun h₅ _ hs₅ => hE h₅ e (fun c o c1 c2 c3 c4 x => hs₅.extBut _ _ c1 (hs₄ _ _ c4 (hs₃.extBut _ _ c2 (hs₂.extBut _ _ c3 (hs₁.extBut _ _ c1 x))))) ⟨oe, hs₅.extBut _ _ hez hoe, hce⟩
/-- the zip z at turn i, whatever became of the tuple it gave out last -/
def ZipSt (h : Heap) (z TI TO i1 i2 l1 l2 : Addr) (i : Nat) : Prop :=
  (∃ f0 f, (f0 = .none ∨ ∃ T : Addr, f0 = rawInt T) ∧ IsZipG h z TI TO f0 f) ∧ IsPair h TI (.ref i1) (.ref i2) ∧ (∃ a b, IsPair h TO a b) ∧ h.IsListIter i1 l1 i ∧ h.IsListIter i2 l2 i
theorem ZipSt.keep {h h' : Heap} {z TI TO i1 i2 l1 l2 : Addr} {i : Nat} (S : ZipSt h z TI TO i1 i2 l1 l2 i) (k : ∀ b, (b = z ∨ b = TI ∨ b = TO ∨ b = i1 ∨ b = i2) → ∀ o, h.get? b = some o → h'.get? b = some o) : ZipSt h' z TI TO i1 i2 l1 l2 i := by
  obtain ⟨⟨f0, f, h0, hz⟩, hTI, ⟨a, b, hTO⟩, h1, h2⟩ := S
  exact ⟨⟨f0, f, h0, k _ (.inl rfl) _ hz⟩, k _ (.inr (.inl rfl)) _ hTI, ⟨a, b, k _ (.inr (.inr (.inl rfl))) _ hTO⟩, h1.at fun o q => k _ (.inr (.inr (.inr (.inl rfl)))) o q, h2.at fun o q => k _ (.inr (.inr (.inr (.inr rfl)))) o q⟩
theorem free_none {z TI TO : Addr} {f : Bool} (hz : IsZipG s.heap z TI TO .none f) : ∀ Q : Bool → Shared → Prop, Q true s → wpAny (model prog w) A (Builtin.SmallTypes.ownedTupleIsFree (.ref z)) Q E s := by
  intro Q h
  unfold Builtin.SmallTypes.ownedTupleIsFree
  exact wpAny_bind (wpAny_field hz rfl (x := .none) rfl (wpAny_pure h))
theorem alive_none {a : Addr} {Q : Option Obj → Shared → Prop} (ho : s.heap.get? a = none) (h : Q none s) : wpAny (model prog w) A (loadIfAlive a) Q E s := by
  have h' : Q (s.heap.get? a) s := by rw [ho]; exact h
  exact fun _ _ _ => h'
theorem free_dead {z TI TO T : Addr} {f : Bool} (hz : IsZipG s.heap z TI TO (rawInt T) f) (hT : s.heap.get? T = none) : ∀ Q : Bool → Shared → Prop, Q true s → wpAny (model prog w) A (Builtin.SmallTypes.ownedTupleIsFree (.ref z)) Q E s := by
  intro Q h
  unfold Builtin.SmallTypes.ownedTupleIsFree
  refine wpAny_bind (wpAny_field hz rfl (x := rawInt T) rfl ?_)
  show wpAny _ _ (loadIfAlive ((T : Int).toNat) >>= _) _ _ _
  rw [Int.toNat_natCast]
  refine wpAny_bind (alive_none hT ?_)
  simp only [Option.isNone_none, if_true]
  exact wpAny_pure h
theorem nextZ_item {z TI TO i1 i2 l1 l2 : Addr} {i : Nat} {xs ys : Array Value} {x y : Value} {Q : Value → Shared → Prop} (D : ZipApart z TI TO i1 i2 l1 l2) (S : ZipSt s.heap z TI TO i1 i2 l1 l2 i)
    (hl1 : s.heap.IsList l1 xs) (hl2 : s.heap.IsList l2 ys) (hx : xs[i]? = some x) (hy : ys[i]? = some y)
    (hQ : ∀ h', ZipSt h' z TI TO i1 i2 l1 l2 (i + 1) → IsPair h' s.heap.objs.size x y → h'.objs.size = s.heap.objs.size + 1 →
      (∀ c o, c ≠ z → c ≠ TO → c ≠ i1 → c ≠ i2 → s.heap.get? c = some o → h'.get? c = some o) → Q (.ref s.heap.objs.size) { s with heap := h' }) :
    wpAny (model prog w) A (Builtin.SmallTypes.nextOf (.ref z)) Q E s := by
  obtain ⟨⟨f0, f, h0, hz⟩, hTI, ⟨a, b, hTO⟩, h1, h2⟩ := S
  have hT : s.TypeIs (.ref z) "zip" := ⟨_, hz, rfl⟩
  have free : (∀ Q : Bool → Shared → Prop, Q true s → wpAny (model prog w) A.in1 (Builtin.SmallTypes.ownedTupleIsFree (.ref z)) Q E s) → wpAny (model prog w) A (Builtin.SmallTypes.nextOf (.ref z)) Q E s := fun fr => by
    unfold Builtin.SmallTypes.nextOf
    refine wpAny_bind (wpAny_callSpecial?_slot (name := Str.ofString "__next__") hT PySem.F.slot_zip_next
      (wpAny_call_entry PySem.F.slot_zip_next hT PySem.F.entry_zip_next (zipF_item D hz fr hTI hTO h1 h2 hl1 hl2 hx hy fun h' a1 a2 a3 a4 a5 a6 a7 => wpAny_pure (hQ h' ?_ a5 a6 a7)) (PySem.F.args_zip_next_1 _)))
    exact ⟨⟨_, _, .inr ⟨_, rfl⟩, a1⟩, a7 _ _ D.TIz D.TITO D.TIi1 D.TIi2 hTI, ⟨_, _, a2⟩, a3, a4⟩
  rcases h0 with rfl | ⟨T, rfl⟩
  · exact free (free_none hz)
  · cases e : s.heap.get? T with
    | none => exact free (free_dead hz e)
    | some oT =>
      unfold Builtin.SmallTypes.nextOf
      refine wpAny_bind (wpAny_callSpecial?_slot (name := Str.ofString "__next__") hT PySem.F.slot_zip_next
        (wpAny_call_entry PySem.F.slot_zip_next hT PySem.F.entry_zip_next (zip_next_item_held D hz e hTI h1 h2 hl1 hl2 hx hy fun h' a1 a3 a4 a5 a6 a7 => wpAny_pure (hQ h' ?_ a5 a6 fun c o c1 _ c3 c4 q => a7 c o c1 c3 c4 q)) (PySem.F.args_zip_next_1 _)))
      exact ⟨⟨_, _, .inr ⟨_, rfl⟩, a1⟩, a7 _ _ D.TIz D.TIi1 D.TIi2 hTI, ⟨_, _, a7 _ _ D.TOz D.TOi1 D.TOi2 hTO⟩, a3, a4⟩
theorem nextZ_end {z TI TO i1 i2 l1 l2 : Addr} {i : Nat} {xs ys : Array Value} {Q : Value → Shared → Prop} (hh : A.handled = none) (D : ZipApart z TI TO i1 i2 l1 l2) (S : ZipSt s.heap z TI TO i1 i2 l1 l2 i)
    (hl1 : s.heap.IsList l1 xs) (hl2 : s.heap.IsList l2 ys) (hend : xs[i]? = none ∨ ys[i]? = none)
    (hE : ∀ h' e, (∀ c o, c ≠ z → c ≠ TO → c ≠ i1 → c ≠ i2 → s.heap.get? c = some o → h'.get? c = some o) → (∃ o, h'.get? e = some o ∧ o.cls = .type "StopIteration") → E (.ref e) { s with heap := h' }) :
    wpAny (model prog w) A (Builtin.SmallTypes.nextOf (.ref z)) Q E s := by
  obtain ⟨⟨f0, f, h0, hz⟩, hTI, ⟨a, b, hTO⟩, h1, h2⟩ := S
  have hT : s.TypeIs (.ref z) "zip" := ⟨_, hz, rfl⟩
  have free : (∀ Q : Bool → Shared → Prop, Q true s → wpAny (model prog w) A.in1 (Builtin.SmallTypes.ownedTupleIsFree (.ref z)) Q E s) → wpAny (model prog w) A (Builtin.SmallTypes.nextOf (.ref z)) Q E s := fun fr => by
    unfold Builtin.SmallTypes.nextOf
    exact wpAny_bind (wpAny_callSpecial?_slot (name := Str.ofString "__next__") hT PySem.F.slot_zip_next
      (wpAny_call_entry PySem.F.slot_zip_next hT PySem.F.entry_zip_next (zipF_end (A := A.in1) hh D hz fr hTI hTO h1 h2 hl1 hl2 hend hE) (PySem.F.args_zip_next_1 _)))
  rcases h0 with rfl | ⟨T, rfl⟩
  · exact free (free_none hz)
  · cases e : s.heap.get? T with
    | none => exact free (free_dead hz e)
    | some oT =>
      unfold Builtin.SmallTypes.nextOf
      exact wpAny_bind (wpAny_callSpecial?_slot (name := Str.ofString "__next__") hT PySem.F.slot_zip_next
        (wpAny_call_entry PySem.F.slot_zip_next hT PySem.F.entry_zip_next (zip_next_end_held (A := A.in1) hh D hz e hTI h1 h2 hl1 hl2 hend fun h' e hk => hE h' e fun c o c1 _ c3 c4 q => hk c o c1 c3 c4 q) (PySem.F.args_zip_next_1 _)))
end
section
open PySem PyProof.Rows
variable {prog : Program} {w : World} {A : Around} {E : Value → Shared → Prop} {s : Shared}
theorem enumZ_item {e z TI TO i1 i2 l1 l2 : Addr} {i : Nat} {xs ys : Array Value} {x y old : Value} {Q : Option Value → Shared → Prop} (D : ZipApart z TI TO i1 i2 l1 l2)
    (he : IsEnum s.heap e z i old) (S : ZipSt s.heap z TI TO i1 i2 l1 l2 i) (hl1 : s.heap.IsList l1 xs) (hl2 : s.heap.IsList l2 ys) (hx : xs[i]? = some x) (hy : ys[i]? = some y)
    (hne : e ≠ z ∧ e ≠ TI ∧ e ≠ TO ∧ e ≠ i1 ∧ e ≠ i2)
    (hQ : ∀ h' tk, IsEnumOut h' e z ((i : Int) + 1) (.ref s.heap.objs.size) (s.heap.objs.size + 1) → ZipSt h' z TI TO i1 i2 l1 l2 (i + 1) → IsPair h' s.heap.objs.size x y →
      h'.get? (s.heap.objs.size + 1) = some { cls := .type "tuple", data := .seq #[.int i tk, .ref s.heap.objs.size] } →
      (∀ b o, b ≠ e → b ≠ z → b ≠ TO → b ≠ i1 → b ≠ i2 → s.heap.get? b = some o → h'.get? b = some o) → Q (some (.ref (s.heap.objs.size + 1))) { s with heap := h', toks := tk + 1 }) :
    wpAny (model prog w) A (pyNext (.ref e)) Q E s := by
  obtain ⟨ne1, ne2, ne3, ne4, ne5⟩ := hne
  have hT : s.TypeIs (.ref e) "enumerate" := ⟨_, he, rfl⟩
  unfold pyNext
  refine wpAny_bind (wpAny_attempt (wpAny_callSpecial?_slot (name := Str.ofString "__next__") hT PySem.F.slot_enumerate_next
    (wpAny_call_entry PySem.F.slot_enumerate_next hT PySem.F.entry_enumerate_next ?_ (PySem.F.args_enumerate_next_1 _))))
  obtain ⟨hp, g, d, tk, os⟩ := s
  show wpAny _ _ (field (.ref e) 2 >>= _) _ _ _
  refine wpAny_bind (wpAny_field he rfl (x := .ref z) rfl ?_)
  refine wpAny_bind (nextZ_item D S hl1 hl2 hx hy fun h₁ S₁ hP₁ hsz₁ hk₁ => ?_)
  replace hsz₁ : h₁.objs.size = hp.objs.size + 1 := hsz₁
  replace hP₁ : IsPair h₁ hp.objs.size x y := hP₁
  have hel : e < hp.objs.size := Heap.lt_size he
  have he₁ : IsEnum h₁ e z i old := hk₁ e _ ne1 ne3 ne4 ne5 he
  show wpAny _ _ (field (.ref e) 3 >>= _) _ _ ⟨h₁, g, d, tk, os⟩
  refine wpAny_bind (wpAny_field he₁ rfl (x := rawInt i) rfl ?_)
  show wpAny _ _ (field (.ref e) 4 >>= _) _ _ ⟨h₁, g, d, tk, os⟩
  refine wpAny_bind (wpAny_field he₁ rfl (x := .none) rfl ?_)
  show wpAny _ _ (mkInt i >>= _) _ _ ⟨h₁, g, d, tk, os⟩
  refine wpAny_bind (wpAny_mkInt ?_)
  show wpAny _ _ (setField (.ref e) 3 (rawInt ((i : Int) + 1)) >>= _) _ _ ⟨h₁, g, d, tk + 1, os⟩
  refine wpAny_bind (wpAny_setField_rec he₁ (by simp) fun h₂ he₂ hs₂ => ?_)
  replace hs₂ : Heap.SameBut e h₁ h₂ := hs₂
  replace he₂ : IsEnum h₂ e z ((i : Int) + 1) old := he₂
  show wpAny _ _ (setField (.ref e) 4 .none >>= _) _ _ ⟨h₂, g, d, tk + 1, os⟩
  refine wpAny_bind (wpAny_setField_rec he₂ (by simp) fun h₃ he₃ hs₃ => ?_)
  replace hs₃ : Heap.SameBut e h₂ h₃ := hs₃
  replace he₃ : IsEnum h₃ e z ((i : Int) + 1) old := he₃
  show wpAny _ _ (newTuple [.int i tk, .ref hp.objs.size] >>= _) _ _ ⟨h₃, g, d, tk + 1, os⟩
  refine wpAny_bind (wpAny_newTuple ?_)
  have he₄ : IsEnum (h₃.push { cls := .type "tuple", data := .seq #[.int i tk, .ref hp.objs.size] }) e z ((i : Int) + 1) old := Heap.get?_push_of_some _ he₃
  generalize hh₄ : h₃.push { cls := .type "tuple", data := .seq #[.int i tk, .ref hp.objs.size] } = h₄ at he₄
  have hsz : h₃.objs.size = hp.objs.size + 1 := by rw [hs₃.1, hs₂.1, hsz₁]
  have ht₄ : h₄.get? (hp.objs.size + 1) = some { cls := .type "tuple", data := .seq #[.int i tk, .ref hp.objs.size] } := by rw [← hh₄, ← hsz]; exact Heap.get?_push_size _ rfl
  have hk₄ : ∀ b o, b ≠ e → h₁.get? b = some o → h₄.get? b = some o := fun b o hbe hb => by
    rw [← hh₄]; exact Heap.get?_push_of_some _ (hs₃.extBut b o hbe (hs₂.extBut b o hbe hb))
  show wpAny _ _ (Builtin.SmallTypes.ownedTupleIsFree (.ref e) >>= _) _ _ ⟨h₄, g, d, tk + 1, os⟩
  rw [hsz]
  clear hh₄ he₃ hs₃ he₂ hs₂ he₁ hsz h₃ h₂
  refine wpAny_bind ?_
  · unfold Builtin.SmallTypes.ownedTupleIsFree
    refine wpAny_bind (wpAny_field he₄ rfl (x := .none) rfl (wpAny_pure ?_))
    simp only [if_true]
    refine wpAny_bind (wpAny_rule ?_)
    refine wpAny_bind (wpAny_field he₄ rfl (x := old) rfl ?_)
    refine wpAny_bind (wpAny_setField_rec he₄ (by simp) fun h₅ he₅ hs₅ => ?_)
    replace hs₅ : Heap.SameBut e h₄ h₅ := hs₅
    replace he₅ : IsEnum h₅ e z ((i : Int) + 1) (.ref hp.objs.size) := he₅
    show wpAny _ _ (Builtin.SmallTypes.ownedTupleHandOut (.ref e) (.ref (hp.objs.size + 1)) >>= _) _ _ ⟨h₅, g, d, tk + 1, os⟩
    refine wpAny_bind ?_
    · unfold Builtin.SmallTypes.ownedTupleHandOut
      refine wpAny_bind (wpAny_setField_rec he₅ (by simp) fun h₆ he₆ hs₆ => ?_)
      replace hs₆ : Heap.SameBut e h₅ h₆ := hs₆
      replace he₆ : IsEnumOut h₆ e z ((i : Int) + 1) (.ref hp.objs.size) (hp.objs.size + 1) := he₆
      refine wpAny_setField_rec he₆ (by simp) fun h₇ he₇ hs₇ => ?_
      replace hs₇ : Heap.SameBut e h₆ h₇ := hs₇
      replace he₇ : IsEnumOut h₇ e z ((i : Int) + 1) (.ref hp.objs.size) (hp.objs.size + 1) := he₇
      have k7 : ∀ b o, b ≠ e → h₄.get? b = some o → h₇.get? b = some o := fun b o hbe q => hs₇.extBut b o hbe (hs₆.extBut b o hbe (hs₅.extBut b o hbe q))
      refine wpAny_bind (wpAny_letGo (wpAny_pure ⟨_, rfl, wpAny_pure (hQ h₇ tk he₇ ?_ ?_ ?_ ?_)⟩))
      · refine S₁.keep fun b hb o q => k7 b o ?_ (hk₄ b o ?_ q)
        all_goals rcases hb with rfl | rfl | rfl | rfl | rfl <;> first | exact Ne.symm ne1 | exact Ne.symm ne2 | exact Ne.symm ne3 | exact Ne.symm ne4 | exact Ne.symm ne5
      · exact k7 _ _ (Nat.ne_of_gt hel) (hk₄ _ _ (Nat.ne_of_gt hel) hP₁)
      · exact k7 _ _ (Nat.ne_of_gt (Nat.lt_succ_of_lt hel)) ht₄
      · exact fun b o b1 b2 b3 b4 b5 q => k7 b o b1 (hk₄ b o b1 (hk₁ b o b2 b3 b4 b5 q))
theorem enumZ_end {e z TI TO i1 i2 l1 l2 : Addr} {i : Nat} {xs ys : Array Value} {old : Value} {Q : Option Value → Shared → Prop} (hh : A.handled = none) (D : ZipApart z TI TO i1 i2 l1 l2)
    (he : IsEnum s.heap e z i old) (S : ZipSt s.heap z TI TO i1 i2 l1 l2 i) (hl1 : s.heap.IsList l1 xs) (hl2 : s.heap.IsList l2 ys) (hend : xs[i]? = none ∨ ys[i]? = none)
    (hQ : ∀ h', (∀ c o, c ≠ z → c ≠ TO → c ≠ i1 → c ≠ i2 → s.heap.get? c = some o → h'.get? c = some o) → Q none { s with heap := h' }) :
    wpAny (model prog w) A (pyNext (.ref e)) Q E s := by
  have hT : s.TypeIs (.ref e) "enumerate" := ⟨_, he, rfl⟩
  unfold pyNext
  refine wpAny_bind (wpAny_attempt (wpAny_callSpecial?_slot (name := Str.ofString "__next__") hT PySem.F.slot_enumerate_next
    (wpAny_call_entry PySem.F.slot_enumerate_next hT PySem.F.entry_enumerate_next ?_ (PySem.F.args_enumerate_next_1 _))))
  show wpAny _ _ (field (.ref e) 2 >>= _) _ _ _
  refine wpAny_bind (wpAny_field he rfl (x := .ref z) rfl ?_)
  refine wpAny_bind (nextZ_end (A := A.in1) hh D S hl1 hl2 hend fun h' x hk hx' => ?_)
  obtain ⟨o, ho, hc⟩ := hx'
  refine wpAny_bind (wpAny_isInstance (T := "StopIteration") (b := true) ⟨o, ho, hc⟩ isSubtype_stop ?_)
  exact wpAny_pure (hQ _ hk)
theorem meets_enumZ (z : Addr) (fs : Array Value) :
    PySem.Meets (Builtin.«enumerate.__new__» ⟨[.type "enumerate", .ref z], []⟩) (fun _ R s => s.heap.get? z = some { cls := .type "zip", dict := none, data := .fields fs, slots := #[] } ∧
      R (.ok (.ret (.ref s.heap.objs.size)))
        { s with heap := s.heap.push { cls := .type "enumerate", data := .fields #[.none, .bool false, .ref z, rawInt 0, .none, .none] } }) :=
  .of_wp fun prog w A R s h => by
    obtain ⟨hp, g, d, tk, os⟩ := s; obtain ⟨hl, h⟩ := h
    have hsub := sub_enumerate
    have hT : Shared.TypeIs ⟨hp, g, d, tk, os⟩ (.ref z) "zip" := ⟨_, hl, rfl⟩
    have hI : ∀ {A : Around} {E : Value → Shared → Prop} {Q : Value → Shared → Prop}, Q (.ref z) ⟨hp, g, d, tk, os⟩ → wpAny (model prog w) A (pyIter (.ref z)) Q E ⟨hp, g, d, tk, os⟩ := fun {A E Q} q => by
      refine wpAny_pyIter_slot hT PySem.F.slot_zip_iter (wpAny_call_entry PySem.F.slot_zip_iter hT PySem.F.entry_zip_iter ?_ (PySem.F.args_zip_iter_1 _))
      show wpAny _ _ (ret (.ref z)) _ _ _
      exact wpAny_pure ⟨_, rfl, "zip", _, hT, PySem.F.slot_zip_next.lookup, q⟩
    wp_walk using AutoSeq1.wpAny_loadPart' hl
    refine wpAny_stack_any fun st => wpAny_pure ?_
    split
    · rename_i c _ _ _ _ _
      cases (c == Value.type "enumerate")
      · wp_walk using AutoSeq1.wpAny_loadPart' hl, hI
        exact ⟨_, rfl, h⟩
      · wp_walk using AutoSeq1.wpAny_loadPart' hl, hI
        exact ⟨_, rfl, h⟩
    · wp_walk using AutoSeq1.wpAny_loadPart' hl, hI
      exact ⟨_, rfl, h⟩
theorem call_enumZ {z TI TO : Addr} {f0 : Value} {Q : Value → Shared → Prop} (hz : IsZip s.heap z TI TO f0)
    (h : ∀ h', IsEnum h' s.heap.objs.size z 0 .none → h'.objs.size = s.heap.objs.size + 1 →
      (∀ b o, s.heap.get? b = some o → h'.get? b = some o) → Q (.ref s.heap.objs.size) { s with heap := h' }) :
    wpAny (model prog w) A (call (.type "enumerate") [.ref z]) Q E s := by
  refine callType_new PySem.F.called_enumerate (by decide) (PySem.F.typeCall_enumerate_1 _) (PySem.F.newCall_enumerate_1 _) (fun obj => PySem.F.args_object_init_2 obj _) PySem.F.entry_enumerate_new
    (meets_enumZ z _) ⟨hz, ?_⟩
  show _ ∧ _
  have he : IsEnum (s.heap.push { cls := .type "enumerate", data := .fields #[.none, .bool false, .ref z, rawInt 0, .none, .none] }) s.heap.objs.size z 0 .none := Heap.get?_push_size _ rfl
  exact ⟨⟨_, he, rfl⟩, h _ he (Heap.size_push ..) fun b o x => Heap.get?_push_of_some _ x⟩
end
section
open PySem PyProof.Rows L2
/-- the lists at a and b, the items in a new pair, that in a new pair with its number -/
def IteZ (K : PySem.W.Frag) (a b : Addr) : It :=
  ⟨fun i H => ∃ (xs ys : List L2.V) (x y : L2.V), SqL K H a xs ∧ SqL K H b ys ∧ xs[i]? = some x ∧ ys[i]? = some y,
    fun i H v H' => ∃ T U x y, v = .ref U ∧ H T = none ∧ H U = none ∧ U ≠ T ∧ H' = upd (upd H T (.tup [x, y])) U (.tup [.int (i : Nat), .ref T]) ∧ (∀ xs, SqL K H a xs → xs[i]? = some x) ∧ ∀ ys, SqL K H b ys → ys[i]? = some y,
    fun i H => ∃ xs ys : List L2.V, SqL K H a xs ∧ SqL K H b ys ∧ (xs.length ≤ i ∨ ys.length ≤ i)⟩
theorem turn_enumZ {P : Program} {w : World} {K : PySem.W.Frag} {elts : List Expr} {kk : Nat} {tpos : Pos} {a b e z TI TO i1 i2 : Addr} (D : ZipApart z TI TO i1 i2 a b) (ne : e ≠ z ∧ e ≠ TI ∧ e ≠ TO ∧ e ≠ i1 ∧ e ≠ i2) :
    Turn P w K (.Tuple elts kk tpos) (IteZ K a b) [e, z, TI, TO, i1, i2] e (fun i h => (∃ old, IsEnum h e z ((i : Nat) : Int) old) ∧ ZipSt h z TI TO i1 i2 a b i) where
  mem := by simp
  obj := fun i h st c hc => by
    obtain ⟨⟨old, he⟩, ⟨f0, f, _, hz⟩, hTI, ⟨x, y, hTO⟩, ⟨o1, e1, _, d1⟩, ⟨o2, e2, _, d2⟩⟩ := st
    have e' : c = e ∨ c = z ∨ c = TI ∨ c = TO ∨ c = i1 ∨ c = i2 := by simpa using hc
    rcases e' with q | q | q | q | q | q
    · rw [q]; exact ⟨_, he, fun v q => nomatch q⟩
    · rw [q]; exact ⟨_, hz, fun v q => nomatch q⟩
    · rw [q]; exact ⟨_, hTI, fun v q => nomatch q⟩
    · rw [q]; exact ⟨_, hTO, fun v q => nomatch q⟩
    · rw [q]; exact ⟨o1, e1, fun v q => by rw [d1] at q; cases q⟩
    · rw [q]; exact ⟨o2, e2, fun v q => by rw [d2] at q; cases q⟩
  keep := fun i h h' st k => by
    obtain ⟨⟨old, he⟩, S⟩ := st
    exact ⟨⟨old, k e (by simp) _ he⟩, S.keep fun b hb => k b (by rcases hb with rfl | rfl | rfl | rfl | rfl <;> simp)⟩
  item := by
    intro X hP hw hK hc i pins s σ H E I hf st hg
    subst hP hw hK
    obtain ⟨⟨old, he⟩, S⟩ := st
    obtain ⟨xs, ys, x, y, hqx, hqy, hx, hy⟩ := hg
    obtain ⟨its, rv, p, _⟩ := I.list hqx
    obtain ⟨its2, rv2, p2, _⟩ := I.list hqy
    obtain ⟨u, hu, ru⟩ := rv.get hx
    obtain ⟨u2, hu2, ru2⟩ := rv2.get hy
    have lts : ∀ c ∈ [e, z, TI, TO, i1, i2], c < s.heap.objs.size := fun c hcm => by
      obtain ⟨_, ⟨f0, f, _, hz⟩, hTI, ⟨_, _, hTO⟩, ⟨o1, e1, _⟩, ⟨o2, e2, _⟩⟩ := (⟨⟨old, he⟩, S⟩ : (∃ old, IsEnum s.heap e z ((i : Nat) : Int) old) ∧ ZipSt s.heap z TI TO i1 i2 a b i)
      have e' : c = e ∨ c = z ∨ c = TI ∨ c = TO ∨ c = i1 ∨ c = i2 := by simpa using hcm
      rcases e' with q | q | q | q | q | q
      · rw [q]; exact Heap.lt_size he
      · rw [q]; exact Heap.lt_size hz
      · rw [q]; exact Heap.lt_size hTI
      · rw [q]; exact Heap.lt_size hTO
      · rw [q]; exact Heap.lt_size e1
      · rw [q]; exact Heap.lt_size e2
    refine enumZ_item D he S p.isList p2.isList (x := u) (y := u2) (by simpa using hu) (by simpa using hu2) ne fun h' tk ho S' hP hT hk => ?_
    refine ⟨_, rfl, wpAny_letOwnedTupleGo_enum (s := { s with heap := h', toks := tk + 1 }) ho fun h'' he' sb => ?_⟩
    have hel : e < s.heap.objs.size := lts e (by simp)
    have hP2 : IsPair h'' s.heap.objs.size u u2 := (sb.2 _ (Nat.ne_of_gt hel)).trans hP
    have hT2 : h''.get? (s.heap.objs.size + 1) = some { cls := .type "tuple", data := .seq #[.int i tk, .ref s.heap.objs.size] } := (sb.2 _ (Nat.ne_of_gt (Nat.lt_succ_of_lt hel))).trans hT
    have hn1 : H s.heap.objs.size = none := I.hok.fresh (Nat.le_refl _)
    have hn2 : H (s.heap.objs.size + 1) = none := I.hok.fresh (Nat.le_succ _)
    have hsz1 : (s.heap.push { cls := .type "tuple", data := .seq #[u, u2] }).objs.size = s.heap.objs.size + 1 := Heap.size_push ..
    have I1 : Inv X pins σ (upd H s.heap.objs.size (.tup [x, y])) { s with heap := s.heap.push { cls := .type "tuple", data := .seq #[u, u2] } } :=
      I.laid (t' := s.toks) (fun b o q => Heap.get?_push_of_some _ q) (Nat.le_refl _) ⟨by show 2 ≤ sizeLine; decide, [u, u2], .cons ru (.cons ru2 .nil), IsTup.new _ _⟩
    have kk : ∀ b o, b ∉ [e, z, TI, TO, i1, i2] → (s.heap.push { cls := .type "tuple", data := .seq #[u, u2] }).get? b = some o → h''.get? b = some o := fun b o hb q => by
      have be : b ≠ e := fun q' => hb (by simp [q'])
      refine (sb.2 b be).trans ?_
      rcases Heap.get?_push_cases q with ⟨rfl, rfl⟩ | q2
      · exact hP
      · exact hk b o be (fun q' => hb (by simp [q'])) (fun q' => hb (by simp [q'])) (fun q' => hb (by simp [q'])) (fun q' => hb (by simp [q'])) q2
    have rI : RelV (.int (i : Nat)) (.int (i : Int) tk) := ⟨tk, rfl⟩
    have rT : RelV (.ref s.heap.objs.size) (.ref s.heap.objs.size) := rfl
    have new : ObjOk X.prog X.w (upd (upd H s.heap.objs.size (.tup [x, y])) (s.heap.objs.size + 1) (.tup [.int (i : Nat), .ref s.heap.objs.size])) h'' (s.heap.objs.size + 1) (.tup [.int (i : Nat), .ref s.heap.objs.size]) :=
      ⟨by show 2 ≤ sizeLine; decide, [.int i tk, .ref s.heap.objs.size], .cons rI (.cons rT .nil), ⟨_, hT2, rfl, _, rfl⟩⟩
    have fp1 : ∀ c ∈ [e, z, TI, TO, i1, i2], FpOk X pins (upd H s.heap.objs.size (.tup [x, y])) c := fun c hcm => by
      obtain ⟨f0, f1⟩ := hf c hcm
      exact ⟨by rw [upd_ne (Nat.ne_of_lt (lts c hcm))]; exact f0, f1⟩
    have I2 : Inv X pins σ (upd (upd H s.heap.objs.size (.tup [x, y])) (s.heap.objs.size + 1) (.tup [.int (i : Nat), .ref s.heap.objs.size])) { s with heap := h'', toks := tk + 1 } :=
      I1.turnedNew (t' := tk + 1) (ch := [e, z, TI, TO, i1, i2]) kk fp1 (Nat.le_of_eq hsz1) new
    refine ⟨.ref (s.heap.objs.size + 1), _, I2, rfl, ⟨_, _, x, y, rfl, hn1, hn2, Nat.succ_ne_self _, rfl, fun l hl => by rw [I.list_inj hl hqx]; exact hx, fun l hl => by rw [I.list_inj hl hqy]; exact hy⟩, ⟨⟨.ref s.heap.objs.size, ?_⟩, S'.keep fun c hcm o q => (sb.2 c ?_).trans q⟩, fun c hcm => ?_⟩
    · have e1 : ((i + 1 : Nat) : Int) = (i : Int) + 1 := by omega
      rw [e1]; exact he'
    · obtain ⟨n1, n2, n3, n4, n5⟩ := ne
      rcases hcm with rfl | rfl | rfl | rfl | rfl <;> first | exact Ne.symm n1 | exact Ne.symm n2 | exact Ne.symm n3 | exact Ne.symm n4 | exact Ne.symm n5
    · have hlt := lts c hcm
      rw [upd_ne (Nat.ne_of_lt (Nat.lt_succ_of_lt hlt)), upd_ne (Nat.ne_of_lt hlt)]
      exact (hf c hcm).1
  done := by
    intro X hP hw hK hc i pins s σ H E I hf st hg
    subst hP hw hK
    obtain ⟨⟨old, he⟩, S⟩ := st
    obtain ⟨xs, ys, hqx, hqy, hend⟩ := hg
    obtain ⟨its, rv, p, _⟩ := I.list hqx
    obtain ⟨its2, rv2, p2, _⟩ := I.list hqy
    have l1 := rv.length
    have l2 := rv2.length
    have hen : its.toArray[i]? = none ∨ its2.toArray[i]? = none := by
      rcases hend with q | q
      · exact .inl (by simp; omega)
      · exact .inr (by simp; omega)
    exact enumZ_end (I.ok.hd hc) D he S p.isList p2.isList hen fun h' hk => ⟨rfl, I.turnedL (t' := s.toks) (ch := [e, z, TI, TO, i1, i2]) (fun c o hb q =>
      hk c o (fun q' => hb (by simp [q'])) (fun q' => hb (by simp [q'])) (fun q' => hb (by simp [q'])) (fun q' => hb (by simp [q'])) q) hf⟩
  self := fun A i s Q E st h => let ⟨⟨_, he⟩, _⟩ := st; wpAny_pyIter_enum he h
def iEnumZ (K : PySem.W.Frag) (ta : TA) : TI := fun σ H R => ta σ H fun vs H1 => ∃ a b xs ys, vs = [.ref a, .ref b] ∧ SqL K H1 a xs ∧ SqL K H1 b ys ∧ R (IteZ K a b) H1
theorem pi_enumZ {X : Cx} {e e2 : Expr} {ta : TA} {p p2 pos pos2 tpos : Pos} {elts : List Expr} {kk : Nat} (hg : Gl X "enumerate") (hm : X.mg "enumerate" = none) (hg2 : Gl X "zip") (hm2 : X.mg "zip" = none) (ha : PA X [e, e2] ta)
    (hs0 : starEach [Expr.Call (.Name "zip" p2) [e, e2] [] pos2] X.env = [(false, eval (Expr.Call (.Name "zip" p2) [e, e2] [] pos2) X.env)] := by rfl)
    (hs : starEach [e, e2] X.env = (false, eval e X.env) :: starEach [e2] X.env := by rfl) (hpl : (backTo pos2 (starEach [e2] X.env)).any (·.1) = false := by rfl) :
    PI X (.Tuple elts kk tpos) (.Call (.Name "enumerate" p) [.Call (.Name "zip" p2) [e, e2] [] pos2] [] pos) (iEnumZ X.K ta) := by
  refine ⟨fun pins s σ H R I h => ?_⟩
  refine Call_ (ld_blt I hg hm boot_enumerate (PyProof.Rows.callWith_type1 ?_ hs0 rfl))
  rw [hs0]
  show wpAny _ _ (spliced ((false, eval (Expr.Call (.Name "zip" p2) [e, e2] [] pos2) X.env) :: backTo pos [])) _ _ s
  refine Calls.spliced_cons ?_
  refine Call_ (ld_blt I hg2 hm2 PyProof.Rows.boot_zip (PyProof.Rows.callWith_type1 (thn (ha.run pos2 pins s σ H _ I h) fun us s1 ⟨vs, H1, I1, r1, q1⟩ => ?_) hs hpl))
  obtain ⟨a, b, xs, ys, ex, hqx, hqy, q⟩ := q1
  subst ex
  cases r1 with
  | cons r rr =>
    cases rr with
    | cons r' rr =>
      cases rr
      cases r
      cases r'
      obtain ⟨its, rv, p1, _⟩ := I1.list hqx
      obtain ⟨its2, rv2, p2, _⟩ := I1.list hqy
      have la : a < s1.heap.objs.size := p1.lt
      have lb : b < s1.heap.objs.size := p2.lt
      refine call_zip_2 p1.isList p2.isList fun h' hz hTI hTO h1 h2 hsz hk => ?_
      refine Calls.spliced_nil ?_
      refine call_enumZ (s := { s1 with heap := h' }) hz fun h3 he3 hsz3 hk3 => wpAny_pyIter_enum he3 ?_
      have I2 : Inv X pins σ H1 { s1 with heap := h3 } := I1.kept (t' := s1.toks) fun c o q => hk3 c o (hk c o q)
      replace hsz : h'.objs.size = s1.heap.objs.size + 5 := hsz
      have hne : ∀ j, j < 5 → h'.objs.size ≠ s1.heap.objs.size + j := fun j hj => by omega
      refine ⟨h'.objs.size, [h'.objs.size, s1.heap.objs.size + 4, s1.heap.objs.size + 2, s1.heap.objs.size + 3, s1.heap.objs.size, s1.heap.objs.size + 1], _, _, H1, rfl, I2,
        turn_enumZ (PySem.W.ktu_apart s1.heap.objs.size a b la lb) ⟨hne 4 (by decide), hne 2 (by decide), hne 3 (by decide), hne 0 (by decide), hne 1 (by decide)⟩,
        ⟨⟨.none, he3⟩, ⟨.none, false, .inl rfl, hk3 _ _ hz⟩, hk3 _ _ hTI, ⟨_, _, hk3 _ _ hTO⟩, h1.at fun o q => hk3 _ o q, h2.at fun o q => hk3 _ o q⟩, fun c hcm => ?_, q⟩
      have e' : c = h'.objs.size ∨ c = s1.heap.objs.size + 4 ∨ c = s1.heap.objs.size + 2 ∨ c = s1.heap.objs.size + 3 ∨ c = s1.heap.objs.size ∨ c = s1.heap.objs.size + 1 := by simpa using hcm
      have hle : s1.heap.objs.size ≤ c := by
        rcases e' with z | z | z | z | z | z
        · rw [z, hsz]; exact Nat.le_add_right _ _
        · rw [z]; exact Nat.le_add_right _ _
        · rw [z]; exact Nat.le_add_right _ _
        · rw [z]; exact Nat.le_add_right _ _
        · rw [z]; exact Nat.le_refl _
        · rw [z]; exact Nat.le_add_right _ _
      exact I1.fpOk hle (I1.hok.fresh hle)
def YPairZ (xs ys : Nat → Option L2.V) : Nat → Hp → L2.V → Hp → Prop := fun i H v H' => ∃ T U x y, v = .ref U ∧ H T = none ∧ H U = none ∧ U ≠ T ∧ H' = upd (upd H T (.tup [x, y])) U (.tup [.int (i : Nat), .ref T]) ∧ xs i = some x ∧ ys i = some y
variable {K : PySem.W.Frag} {Ξ : XI}
theorem walk_enumZ {a b : Addr} {xs ys : List L2.V} {n : Nat} (hn : n = min xs.length ys.length) : Walk (IteZ K a b) n (fun H => SqL K H a xs ∧ SqL K H b ys) (YPairZ (fun i => xs[i]?) (fun i => ys[i]?)) := by
  subst hn
  refine ⟨fun i _ hi q => ?_, fun _ q => ⟨xs, ys, q.1, q.2, by omega⟩, fun i H v H' _ q y => ?_⟩
  · have h1 : i < xs.length := by omega
    have h2 : i < ys.length := by omega
    exact ⟨xs, ys, xs[i], ys[i], q.1, q.2, by simp [h1], by simp [h2]⟩
  · obtain ⟨T, U, x, z, h1, h2, h3, h4, h5, h6, h7⟩ := y
    exact ⟨T, U, x, z, h1, h2, h3, h4, h5, h6 xs q.1, h7 ys q.2⟩
theorem walkD_enumZ {F : Hp} {a b : Addr} {ds es : List D} {vs ws : List L2.V} (h1 : SqL K F a vs) (h2 : RpA K F ds vs) (h3 : SqL K F b ws) (h4 : RpA K F es ws) : WalkD K F (IteZ K a b) (enD (zipD ds es)) := by
  refine ⟨_, _, walk_enumZ (K := K) (a := a) (b := b) (xs := vs) (ys := ws) (by rw [enD_len]; unfold zipD; rw [List.length_zipWith, h2.len, h4.len]), fun H hs => ⟨hs.seq h1, hs.seq h3⟩, fun i H x H' F1 d e s1 s2 y => ?_⟩
  obtain ⟨d2, hd2, rfl⟩ := enD_get e
  obtain ⟨z, u, hz, hu, rfl⟩ := zipD_get hd2
  obtain ⟨T, U, v, w, rfl, hT, hU, hUT, rfl, e1, e2⟩ := y
  have r1 : Rp K F1 z v := by
    obtain ⟨w', hw, r⟩ := h2.get hz
    cases hw.symm.trans e1
    exact r.mono s1
  have r2 : Rp K F1 u w := by
    obtain ⟨w', hw, r⟩ := h4.get hu
    cases hw.symm.trans e2
    exact r.mono s1
  have x1 : Ext F1 H (upd F1 T (.tup [v, w])) (upd H T (.tup [v, w])) := Ext.fz s2 hT _
  have hU2 : upd H T (.tup [v, w]) U = none := by rw [upd_ne hUT]; exact hU
  have x2 := Ext.fz x1.fs hU2 (.tup [.int (i : Nat), .ref T])
  have m1 := same_upd (o := .tup [v, w]) (s2.free hT)
  have m2 := same_upd (o := .tup [.int (i : Nat), .ref T]) (x1.fs.free hU2)
  have rin : Rp K (upd F1 T (.tup [v, w])) (.tup [z, u]) (.ref T) := ⟨T, [v, w], rfl, SqT.of upd_same, v, [w], rfl, r1.mono m1, w, [], rfl, r2.mono m1, rfl⟩
  exact ⟨_, x1.trans x2, U, [.int (i : Nat), .ref T], rfl, SqT.of upd_same, .int (i : Nat), [.ref T], rfl, rfl, .ref T, [], rfl, rin.mono m2, rfl⟩
def pEnumZ (p : PA1) : PI1 := fun s q => p s fun ds s1 => match ds with
  | [.lst xs, .lst ys] => q (enD (zipD xs ys)) s1
  | _ => False
instance {t : TA} {p : PA1} [LiftA K Ξ t p] : LiftI K Ξ (iEnumZ K t) (pEnumZ p) := ⟨fun q T h k => by
  refine LiftA.run (K := K) (t := t) (p := p) _ T h fun vs F1 H1 ω1 ds s1 p1 T1 r1 h1 => ?_
  split at h1
  · obtain ⟨v, w, rfl, ⟨a, ws, rfl, r2, r3⟩, ⟨b, us, rfl, r4, r5⟩⟩ := r1.two
    exact ⟨a, b, ws, us, rfl, SqL.of (T1.sf _ _ r2), SqL.of (T1.sf _ _ r4), k _ F1 H1 ω1 _ s1 p1 T1 (walkD_enumZ (SqL.of r2) r3 (SqL.of r4) r5) h1⟩
  · exact h1.elim⟩
end
set_option maxHeartbeats 4000000 in
structure Txt (K : PySem.W.Frag) (mg : Str → Option Value) where
  a_SamphireError : Addr
  g_SamphireError : mg "SamphireError" = some (.ref a_SamphireError)
  kp_SamphireError : PySem.W.keepIn K (.ref a_SamphireError) = true
  sb_SamphireError : PySem.W.subIn K (.ref a_SamphireError) (.type "BaseException") = some true
  ty_SamphireError : PySem.W.typeIn K (.ref a_SamphireError) = some (.type "type")
  a_ZeroDenominator : Addr
  g_ZeroDenominator : mg "ZeroDenominator" = some (.ref a_ZeroDenominator)
  kp_ZeroDenominator : PySem.W.keepIn K (.ref a_ZeroDenominator) = true
  sb_ZeroDenominator : PySem.W.subIn K (.ref a_ZeroDenominator) (.type "BaseException") = some true
  ty_ZeroDenominator : PySem.W.typeIn K (.ref a_ZeroDenominator) = some (.type "type")
  x_ZeroDenominator : PySem.W.excIn K a_ZeroDenominator [.type "ValueError", .type "Exception", .type "BaseException", .type "object"] "ValueError.__new__" = true
  a_NoDeal : Addr
  g_NoDeal : mg "NoDeal" = some (.ref a_NoDeal)
  kp_NoDeal : PySem.W.keepIn K (.ref a_NoDeal) = true
  sb_NoDeal : PySem.W.subIn K (.ref a_NoDeal) (.type "BaseException") = some true
  ty_NoDeal : PySem.W.typeIn K (.ref a_NoDeal) = some (.type "type")
  x_NoDeal : PySem.W.excIn K a_NoDeal [.type "ValueError", .type "Exception", .type "BaseException", .type "object"] "ValueError.__new__" = true
  xm_NoDeal_NoDeal : PySem.W.exmOne K (.ref a_NoDeal) (.ref a_NoDeal) = some true
  f_lowest : Addr
  fd_lowest : FuncData
  F_lowest : Fun K "lowest" "lowest" s_lowest f_lowest fd_lowest
  b_lowest : Binds K fd_lowest ["p", "q"] []
  g_lowest : mg "lowest" = some (.ref f_lowest)
  f_plus : Addr
  fd_plus : FuncData
  F_plus : Fun K "plus" "plus" s_plus f_plus fd_plus
  b_plus : Binds K fd_plus ["a", "b"] []
  g_plus : mg "plus" = some (.ref f_plus)
  f_minus : Addr
  fd_minus : FuncData
  F_minus : Fun K "minus" "minus" s_minus f_minus fd_minus
  b_minus : Binds K fd_minus ["a", "b"] []
  g_minus : mg "minus" = some (.ref f_minus)
  f_times : Addr
  fd_times : FuncData
  F_times : Fun K "times" "times" s_times f_times fd_times
  b_times : Binds K fd_times ["a", "b"] []
  g_times : mg "times" = some (.ref f_times)
  f_over : Addr
  fd_over : FuncData
  F_over : Fun K "over" "over" s_over f_over fd_over
  b_over : Binds K fd_over ["a", "b"] []
  g_over : mg "over" = some (.ref f_over)
  f_less : Addr
  fd_less : FuncData
  F_less : Fun K "less" "less" s_less f_less fd_less
  b_less : Binds K fd_less ["a", "b"] []
  g_less : mg "less" = some (.ref f_less)
  f_sum_of : Addr
  fd_sum_of : FuncData
  F_sum_of : Fun K "sum_of" "sum_of" s_sum_of f_sum_of fd_sum_of
  b_sum_of : Binds K fd_sum_of ["fractions"] []
  g_sum_of : mg "sum_of" = some (.ref f_sum_of)
  f_is_deal : Addr
  fd_is_deal : FuncData
  F_is_deal : Fun K "is_deal" "is_deal" s_is_deal f_is_deal fd_is_deal
  b_is_deal : Binds K fd_is_deal ["limits", "places", "numbers"] []
  g_is_deal : mg "is_deal" = some (.ref f_is_deal)
  f_variance_of : Addr
  fd_variance_of : FuncData
  F_variance_of : Fun K "variance_of" "variance_of" s_variance_of f_variance_of fd_variance_of
  b_variance_of : Binds K fd_variance_of ["costs", "numbers"] []
  g_variance_of : mg "variance_of" = some (.ref f_variance_of)
  f_fall : Addr
  fd_fall : FuncData
  F_fall : Fun K "fall" "fall" s_fall f_fall fd_fall
  b_fall : Binds K fd_fall ["cost", "number"] []
  g_fall : mg "fall" = some (.ref f_fall)
  f_next_place : Addr
  fd_next_place : FuncData
  F_next_place : Fun K "next_place" "next_place" s_next_place f_next_place fd_next_place
  b_next_place : Binds K fd_next_place ["costs", "limits", "numbers"] []
  g_next_place : mg "next_place" = some (.ref f_next_place)
  f_deal : Addr
  fd_deal : FuncData
  F_deal : Fun K "deal" "deal" s_deal f_deal fd_deal
  b_deal : Binds K fd_deal ["costs", "limits", "places"] []
  g_deal : mg "deal" = some (.ref f_deal)
  f_least_term : Addr
  fd_least_term : FuncData
  F_least_term : Fun K "least_term" "least_term" s_least_term f_least_term fd_least_term
  b_least_term : Binds K fd_least_term ["cost", "limit", "price"] []
  g_least_term : mg "least_term" = some (.ref f_least_term)
  f_deal_bound : Addr
  fd_deal_bound : FuncData
  F_deal_bound : Fun K "deal_bound" "deal_bound" s_deal_bound f_deal_bound fd_deal_bound
  b_deal_bound : Binds K fd_deal_bound ["costs", "limits", "places", "price"] []
  g_deal_bound : mg "deal_bound" = some (.ref f_deal_bound)
  f__law_mix : Addr
  fd__law_mix : FuncData
  F__law_mix : Fun K "_law_mix" "_law_mix" s__law_mix f__law_mix fd__law_mix
  b__law_mix : Binds K fd__law_mix ["_law_number", "_law_k"] []
  g__law_mix : mg "_law_mix" = some (.ref f__law_mix)
  f__law_numbers : Addr
  fd__law_numbers : FuncData
  F__law_numbers : Fun K "_law_numbers" "_law_numbers" s__law_numbers f__law_numbers fd__law_numbers
  b__law_numbers : Binds K fd__law_numbers ["_law_script", "_law_count"] []
  g__law_numbers : mg "_law_numbers" = some (.ref f__law_numbers)
  f__law_take : Addr
  fd__law_take : FuncData
  F__law_take : Fun K "_law_take" "_law_take" s__law_take f__law_take fd__law_take
  b__law_take : Binds K fd__law_take ["_law_row", "_law_bound_here"] []
  g__law_take : mg "_law_take" = some (.ref f__law_take)
  f__law_low : Addr
  fd__law_low : FuncData
  F__law_low : Fun K "_law_low" "_law_low" s__law_low f__law_low fd__law_low
  b__law_low : Binds K fd__law_low ["_law_p", "_law_q"] []
  g__law_low : mg "_law_low" = some (.ref f__law_low)
  f__law_plus : Addr
  fd__law_plus : FuncData
  F__law_plus : Fun K "_law_plus" "_law_plus" s__law_plus f__law_plus fd__law_plus
  b__law_plus : Binds K fd__law_plus ["_law_one", "_law_other"] []
  g__law_plus : mg "_law_plus" = some (.ref f__law_plus)
  f__law_times : Addr
  fd__law_times : FuncData
  F__law_times : Fun K "_law_times" "_law_times" s__law_times f__law_times fd__law_times
  b__law_times : Binds K fd__law_times ["_law_one", "_law_other"] []
  g__law_times : mg "_law_times" = some (.ref f__law_times)
  f__law_less : Addr
  fd__law_less : FuncData
  F__law_less : Fun K "_law_less" "_law_less" s__law_less f__law_less fd__law_less
  b__law_less : Binds K fd__law_less ["_law_one", "_law_other"] []
  g__law_less : mg "_law_less" = some (.ref f__law_less)
  f__law_variance : Addr
  fd__law_variance : FuncData
  F__law_variance : Fun K "_law_variance" "_law_variance" s__law_variance f__law_variance fd__law_variance
  b__law_variance : Binds K fd__law_variance ["_law_costs", "_law_numbers_here"] []
  g__law_variance : mg "_law_variance" = some (.ref f__law_variance)
  f__law_deals : Addr
  fd__law_deals : FuncData
  F__law_deals : Fun K "_law_deals" "_law_deals" s__law_deals f__law_deals fd__law_deals
  b__law_deals : Binds K fd__law_deals ["_law_limits", "_law_places"] []
  g__law_deals : mg "_law_deals" = some (.ref f__law_deals)
  f__law_fall : Addr
  fd__law_fall : FuncData
  F__law_fall : Fun K "_law_fall" "_law_fall" s__law_fall f__law_fall fd__law_fall
  b__law_fall : Binds K fd__law_fall ["_law_cost", "_law_number"] []
  g__law_fall : mg "_law_fall" = some (.ref f__law_fall)
  f__law_greedy : Addr
  fd__law_greedy : FuncData
  F__law_greedy : Fun K "_law_greedy" "_law_greedy" s__law_greedy f__law_greedy fd__law_greedy
  b__law_greedy : Binds K fd__law_greedy ["_law_costs", "_law_limits", "_law_places"] []
  g__law_greedy : mg "_law_greedy" = some (.ref f__law_greedy)
  f__law_bound : Addr
  fd__law_bound : FuncData
  F__law_bound : Fun K "_law_bound" "_law_bound" s__law_bound f__law_bound fd__law_bound
  b__law_bound : Binds K fd__law_bound ["_law_costs", "_law_limits", "_law_places", "_law_price"] []
  g__law_bound : mg "_law_bound" = some (.ref f__law_bound)
  f__law_told : Addr
  fd__law_told : FuncData
  F__law_told : Fun K "_law_told" "_law_told" s__law_told f__law_told fd__law_told
  b__law_told : Binds K fd__law_told ["_law_costs", "_law_limits", "_law_places"] []
  g__law_told : mg "_law_told" = some (.ref f__law_told)
  f_law : Addr
  fd_law : FuncData
  F_law : Fun K "law" "law" s_law f_law fd_law
  b_law : Binds K fd_law ["_law_script"] []
  g_law : mg "law" = some (.ref f_law)
  a_NOTHING : Addr
  g_NOTHING : mg "NOTHING" = some (.ref a_NOTHING)
  v_NOTHING : ∀ H : Hp, SqT K H a_NOTHING [.int (0), .int (1)]
  z_abs : mg "abs" = none
  z_all : mg "all" = none
  z_enumerate : mg "enumerate" = none
  z_int : mg "int" = none
  z_isinstance : mg "isinstance" = none
  z_len : mg "len" = none
  z_list : mg "list" = none
  z_max : mg "max" = none
  z_range : mg "range" = none
  z_sum : mg "sum" = none
  z_tuple : mg "tuple" = none
  z_zip : mg "zip" = none
  g_gcd : mg "gcd" = some (.builtin "math.gcd")
instance {K : PySem.W.Frag} {mg : Str → Option Value} (T : Txt K mg) : ConD K (.ref T.a_NOTHING) (.tup [.int (0), .int (1)]) := ⟨fun F => ⟨_, _, rfl, T.v_NOTHING F, ⟨_, _, rfl, rfl, ⟨_, _, rfl, rfl, rfl⟩⟩⟩⟩
abbrev Txt.ad {K : PySem.W.Frag} {mg : Str → Option Value} (T : Txt K mg) : Ad := { SamphireError := T.a_SamphireError, ZeroDenominator := T.a_ZeroDenominator, NoDeal := T.a_NoDeal }
section
variable {P : Program} {w : World} {K : PySem.W.Frag} {mg : Str → Option Value} {base : Heap}
def LowQ (q : Int) : Prop := 0 < q
theorem LowQ.dd (a b : Rat) : LowQ ((a.den : Int) * b.den) := by
  have h1 := a.den_pos
  have h2 := b.den_pos
  show 0 < (a.den : Int) * b.den
  exact Int.mul_pos (by omega) (by omega)

abbrev sp__law_low (K : PySem.W.Frag) : Sp := Lsp K (psp_low LowQ)
abbrev sp__law_plus (K : PySem.W.Frag) : Sp := Lsp K (psp_two (· + ·) fun _ _ => True)
abbrev sp__law_minus (K : PySem.W.Frag) : Sp := Lsp K (psp_two (· - ·) fun _ _ => True)
abbrev sp__law_times (K : PySem.W.Frag) : Sp := Lsp K (psp_two (· * ·) fun _ _ => True)
abbrev sp__law_less (K : PySem.W.Frag) : Sp := Lsp K psp_less

theorem ok_lowest (T : Txt K mg) : FnOk P w K mg base CX0 1 T.f_lowest T.fd_lowest ["p", "q"] (sp_lowest K) := by
  refine T.F_lowest.ok sc_lowest (fun vs H Q E h => lsp_len h) (fun cdv A outer s H vs Q E hr h => ⟨_, (pss_cons (ps_if (pt_cmpR op_eq (pv 1) pe_int (nomark _))
        (pss_one ps_never)
        pss_nil)
      (pss_cons (ps_set (i := 2) sc_lowest.nd rfl (Or.inl rfl) (pe_callBfun cr_gcd (by rfl) T.g_gcd (pa_cons (pv 0) (pa_cons (pv 1) pa_nil))))
      (pss_cut (ps_if (pt_cmpR op_lt (pv 1) pe_int (nomark _))
        (pss_one (ps_set (i := 2) sc_lowest.nd rfl (Or.inl rfl) (pe_un un_neg (pv 2))))
        pss_nil)
      (pss_one (ps_ret (pe_tup (pa_cons (pe_op op_fdivZ (pv 0) (pv 2)) (pa_cons (pe_op op_fdivZ (pv 1) (pv 2)) pa_nil)))))))), ?_⟩)
  try dsimp only [cxK, blkK, noxK, wishK]
  refine lsp_body (N := nm_lowest) h (Nat.le_of_ble_eq_true rfl) fun xs q hn h => ?_
  clear hn
  obtain ⟨n, d, rfl, ⟨hd, h1, h2⟩, hq⟩ := h
  have hd2 := lowD_ne (p := n) hd
  have hd3 : (lowD n d).natAbs < 2 ^ 8000 := by
    rw [lowD_abs]
    exact pow_up (Nat.lt_of_le_of_lt (gcd_le_right hd) h2) (by decide)
  refine ⟨fun hz => absurd (of_decide_eq_true hz) hd, fun _ => ?_⟩
  refine ⟨fun s => s = [some (.fr (.int n)), some (.fr (.int d)), some (.fr (.int (lowD n d)))], ⟨fun hz => ?_, fun hz => ?_⟩, ?_⟩
  · show [_, _, some (S.fr (.int (-(Int.gcd n d : Int))))] = _
    unfold lowD
    rw [if_pos (of_decide_eq_true hz)]
  · show [_, _, some (S.fr (.int (Int.gcd n d : Int)))] = _
    unfold lowD
    rw [if_neg (of_decide_eq_false hz)]
  · rintro s' rfl
    refine ⟨⟨hd2, hd3⟩, ⟨hd2, hd3⟩, ?_⟩
    show q (.fr (.tup [.int (n.fdiv (lowD n d)), .int (d.fdiv (lowD n d))])) []
    rw [low_num hd, low_den hd]
    exact hq
theorem ok_plus (T : Txt K mg) : FnOk P w K mg base CX0 2 T.f_plus T.fd_plus ["a", "b"] (sp_plus K) := by
  refine T.F_plus.ok sc_plus (fun vs H Q E h => lsp_len h) (fun cdv A outer s H vs Q E hr h => ⟨_, (pss_one (ps_ret (pe_call (ok_lowest T) (hr.mono (by decide)) (by rfl) T.g_lowest T.F_lowest.kp T.b_lowest .nil pass0 (pa_cons (pe_op op_add (pe_op op_mulW (pe_ix ix_tup (pv 0) pe_int (fun _ _ => rfl)) (pe_ix ix_tup (pv 1) pe_int (fun _ _ => rfl))) (pe_op op_mulW (pe_ix ix_tup (pv 1) pe_int (fun _ _ => rfl)) (pe_ix ix_tup (pv 0) pe_int (fun _ _ => rfl)))) (pa_cons (pe_op op_mulW (pe_ix ix_tup (pv 0) pe_int (fun _ _ => rfl)) (pe_ix ix_tup (pv 1) pe_int (fun _ _ => rfl))) pa_nil))))), ?_⟩)
  try dsimp only [cxK, blkK, noxK, wishK]
  refine lsp_body (N := nm_plus) h (Nat.le_of_ble_eq_true rfl) fun xs q hn h => ?_
  clear hn
  obtain ⟨a, b, rfl, ⟨ha, hb, _⟩, hq⟩ := h
  refine ⟨mulFF ha hb, mulFF hb ha, mulDD ha hb, _, _, rfl, ⟨dd_ne a b, pow_up (sz_num ha hb) (by decide), pow_up (sz_den ha hb) (by decide)⟩, ?_⟩
  rw [add_divInt]
  exact hq
theorem ok_minus (T : Txt K mg) : FnOk P w K mg base CX0 2 T.f_minus T.fd_minus ["a", "b"] (sp_minus K) := by
  refine T.F_minus.ok sc_minus (fun vs H Q E h => lsp_len h) (fun cdv A outer s H vs Q E hr h => ⟨_, (pss_one (ps_ret (pe_call (ok_lowest T) (hr.mono (by decide)) (by rfl) T.g_lowest T.F_lowest.kp T.b_lowest .nil pass0 (pa_cons (pe_op op_sub (pe_op op_mulW (pe_ix ix_tup (pv 0) pe_int (fun _ _ => rfl)) (pe_ix ix_tup (pv 1) pe_int (fun _ _ => rfl))) (pe_op op_mulW (pe_ix ix_tup (pv 1) pe_int (fun _ _ => rfl)) (pe_ix ix_tup (pv 0) pe_int (fun _ _ => rfl)))) (pa_cons (pe_op op_mulW (pe_ix ix_tup (pv 0) pe_int (fun _ _ => rfl)) (pe_ix ix_tup (pv 1) pe_int (fun _ _ => rfl))) pa_nil))))), ?_⟩)
  try dsimp only [cxK, blkK, noxK, wishK]
  refine lsp_body (N := nm_minus) h (Nat.le_of_ble_eq_true rfl) fun xs q hn h => ?_
  clear hn
  obtain ⟨a, b, rfl, ⟨ha, hb, _⟩, hq⟩ := h
  refine ⟨mulFF ha hb, mulFF hb ha, mulDD ha hb, _, _, rfl, ⟨dd_ne a b, pow_up (sz_numS ha hb) (by decide), pow_up (sz_den ha hb) (by decide)⟩, ?_⟩
  rw [sub_divInt]
  exact hq
theorem ok_times (T : Txt K mg) : FnOk P w K mg base CX0 2 T.f_times T.fd_times ["a", "b"] (sp_times K) := by
  refine T.F_times.ok sc_times (fun vs H Q E h => lsp_len h) (fun cdv A outer s H vs Q E hr h => ⟨_, (pss_one (ps_ret (pe_call (ok_lowest T) (hr.mono (by decide)) (by rfl) T.g_lowest T.F_lowest.kp T.b_lowest .nil pass0 (pa_cons (pe_op op_mulW (pe_ix ix_tup (pv 0) pe_int (fun _ _ => rfl)) (pe_ix ix_tup (pv 1) pe_int (fun _ _ => rfl))) (pa_cons (pe_op op_mulW (pe_ix ix_tup (pv 0) pe_int (fun _ _ => rfl)) (pe_ix ix_tup (pv 1) pe_int (fun _ _ => rfl))) pa_nil))))), ?_⟩)
  try dsimp only [cxK, blkK, noxK, wishK]
  refine lsp_body (N := nm_times) h (Nat.le_of_ble_eq_true rfl) fun xs q hn h => ?_
  clear hn
  obtain ⟨a, b, rfl, ⟨ha, hb, _⟩, hq⟩ := h
  refine ⟨mulNN ha hb, mulDD ha hb, _, _, rfl, ⟨dd_ne a b, pow_up (abs_mul_lt ha.1 hb.1) (by decide), pow_up (sz_den ha hb) (by decide)⟩, ?_⟩
  rw [mul_divInt]
  exact hq
theorem ok_over (T : Txt K mg) : FnOk P w K mg base CX0 2 T.f_over T.fd_over ["a", "b"] (sp_over K) := by
  refine T.F_over.ok sc_over (fun vs H Q E h => lsp_len h) (fun cdv A outer s H vs Q E hr h => ⟨_, (pss_one (ps_ret (pe_call (ok_lowest T) (hr.mono (by decide)) (by rfl) T.g_lowest T.F_lowest.kp T.b_lowest .nil pass0 (pa_cons (pe_op op_mulW (pe_ix ix_tup (pv 0) pe_int (fun _ _ => rfl)) (pe_ix ix_tup (pv 1) pe_int (fun _ _ => rfl))) (pa_cons (pe_op op_mulW (pe_ix ix_tup (pv 0) pe_int (fun _ _ => rfl)) (pe_ix ix_tup (pv 1) pe_int (fun _ _ => rfl))) pa_nil))))), ?_⟩)
  try dsimp only [cxK, blkK, noxK, wishK]
  refine lsp_body (N := nm_over) h (Nat.le_of_ble_eq_true rfl) fun xs q hn h => ?_
  clear hn
  obtain ⟨a, b, rfl, ⟨ha, hb, h0⟩, hq⟩ := h
  refine ⟨mulFF ha hb, mulDN ha hb, _, _, rfl, ⟨Int.mul_ne_zero (den_ne a) (num_ne h0), pow_up (abs_mul_lt ha.1 hb.d) (by decide), pow_up (abs_mul_lt ha.d hb.1) (by decide)⟩, ?_⟩
  rw [div_divInt]
  exact hq
theorem ok_less (T : Txt K mg) : FnOk P w K mg base CX0 1 T.f_less T.fd_less ["a", "b"] (sp_less K) := by
  refine T.F_less.ok sc_less (fun vs H Q E h => lsp_len h) (fun cdv A outer s H vs Q E hr h => ⟨_, (pss_one (ps_ret (pe_cmpR op_lt (pe_op op_mulW (pe_ix ix_tup (pv 0) pe_int (fun _ _ => rfl)) (pe_ix ix_tup (pv 1) pe_int (fun _ _ => rfl))) (pe_op op_mulW (pe_ix ix_tup (pv 1) pe_int (fun _ _ => rfl)) (pe_ix ix_tup (pv 0) pe_int (fun _ _ => rfl))) (nomark _)))), ?_⟩)
  try dsimp only [cxK, blkK, noxK, wishK]
  refine lsp_body (N := nm_less) h (Nat.le_of_ble_eq_true rfl) fun xs q hn h => ?_
  clear hn
  obtain ⟨a, b, rfl, ⟨ha, hb⟩, hq⟩ := h
  refine ⟨mulFF ha hb, mulFF hb ha, ?_⟩
  show q (.fr (.bl (decide (a.num * (b.den : Int) < b.num * (a.den : Int))))) []
  rw [less_is]
  exact hq
theorem gcd_zero_nn {a : Int} {p q : Int} (h0 : 0 ≤ a) (h : Int.gcd a 0 = Int.gcd p q) : a = (Int.gcd p q : Int) := by
  rw [Int.gcd_zero_right] at h
  omega
theorem ok__law_low (T : Txt K mg) : FnOk P w K mg base CX0 1 T.f__law_low T.fd__law_low ["_law_p", "_law_q"] (sp__law_low K) := by
  refine T.F__law_low.ok sc__law_low (fun vs H Q E h => lsp_len h) (fun cdv A outer s H vs Q E hr h => ⟨_, (pss_cons (ps_par (i := 2) (j := 3) (by rfl) sc__law_low.nd rfl rfl (by decide) rfl rfl (pa_cons (pe_callB (id := "abs") call_abs (by rfl) T.z_abs (by decide +kernel) (pa_cons (pv 0) pa_nil)) (pa_cons (pv 1) pa_nil)) (by rfl))
      (pss_cons (ps_while PassesOwn.never (pt_cmpR op_ne (pv 3) pe_int (nomark _))
        (pss_one (ps_par (i := 2) (j := 3) (by rfl) sc__law_low.nd rfl rfl (by decide) rfl rfl (pa_cons (pv 3) (pa_cons (pe_op op_modN (pe_callTy (T := "int") call_int1 (by rfl) T.z_int (by decide +kernel) (pa_cons (pv 2) pa_nil)) (pv 3)) pa_nil)) (by rfl))))
      (pss_one (ps_ret (pe_tup (pa_cons (pe_op op_fdivZ (pv 0) (pv 2)) (pa_cons (pe_op op_fdivZ (pv 1) (pv 2)) pa_nil))))))), ?_⟩)
  try dsimp only [cxK, blkK, noxK, wishK]
  refine lsp_body (N := nm__law_low) h (Nat.le_of_ble_eq_true rfl) fun xs q hn h => ?_
  clear hn
  obtain ⟨n, d, rfl, ⟨hd, h1, h2⟩, hq⟩ := h
  have hd : 0 < d := hd
  have hd0 : d ≠ 0 := by omega
  have ap : (if n < 0 then -n else n) = (n.natAbs : Int) := by split <;> omega
  have eq : (d.natAbs : Int) = d := by omega
  have g0 : Int.gcd (n.natAbs : Int) d = Int.gcd n d := by
    unfold Int.gcd
    rw [Int.natAbs_natCast]
  have hlow : lowD n d = (Int.gcd n d : Int) := by
    unfold lowD
    rw [if_neg (by omega)]
  have hd2 := lowD_ne (p := n) hd0
  have hd3 : (lowD n d).natAbs < 2 ^ 8000 := by
    rw [lowD_abs]
    exact pow_up (Nat.lt_of_le_of_lt (gcd_le_right hd0) h2) (by decide)
  rw [hlow] at hd2 hd3
  refine ⟨fun m s => ∃ (a b : Int), s = [some (.fr (.int n)), some (.fr (.int d)), some (.fr (.int a)), some (.fr (.int b))] ∧ m = b.natAbs ∧ 0 ≤ a ∧ 0 ≤ b ∧ Int.gcd a b = Int.gcd n d, ⟨_, (if n < 0 then -n else n), d, rfl, rfl, by rw [ap]; omega, by omega, by rw [ap]; exact g0⟩, ?_⟩
  rintro m s ⟨a, b, rfl, rfl, ha, hb, hg⟩
  refine ⟨fun hz => ?_, fun hz => ?_⟩
  · have hb0 : b ≠ 0 := fun z => by rw [z] at hz; cases hz
    have hr0 : 0 ≤ a.fmod b := Int.fmod_nonneg_of_pos a (by omega)
    have hr1 : a.fmod b < b := Int.fmod_lt_of_pos a (by omega)
    exact ⟨hb0, _, by omega, b, a.fmod b, rfl, rfl, hb, hr0, by rw [euc_gcd]; exact hg⟩
  · have hb0 : b = 0 := by
      have := hz
      simpa using this
    subst hb0
    have ea := gcd_zero_nn ha hg
    subst ea
    refine ⟨⟨hd2, hd3⟩, ⟨hd2, hd3⟩, ?_⟩
    show q (.fr (.tup [.int (n.fdiv (Int.gcd n d : Int)), .int (d.fdiv (Int.gcd n d : Int))])) []
    rw [← hlow, low_num hd0, low_den hd0]
    exact hq

theorem ok__law_plus (T : Txt K mg) : FnOk P w K mg base CX0 2 T.f__law_plus T.fd__law_plus ["_law_one", "_law_other"] (sp__law_plus K) := by
  refine T.F__law_plus.ok sc__law_plus (fun vs H Q E h => lsp_len h) (fun cdv A outer s H vs Q E hr h => ⟨_, (pss_one (ps_ret (pe_call (ok__law_low T) (hr.mono (by decide)) (by rfl) T.g__law_low T.F__law_low.kp T.b__law_low .nil pass0 (pa_cons (pe_op op_add (pe_op op_mulW (pe_ix ix_tup (pv 0) pe_int (fun _ _ => rfl)) (pe_ix ix_tup (pv 1) pe_int (fun _ _ => rfl))) (pe_op op_mulW (pe_ix ix_tup (pv 1) pe_int (fun _ _ => rfl)) (pe_ix ix_tup (pv 0) pe_int (fun _ _ => rfl)))) (pa_cons (pe_op op_mulW (pe_ix ix_tup (pv 0) pe_int (fun _ _ => rfl)) (pe_ix ix_tup (pv 1) pe_int (fun _ _ => rfl))) pa_nil))))), ?_⟩)
  try dsimp only [cxK, blkK, noxK, wishK]
  refine lsp_body (N := nm__law_plus) h (Nat.le_of_ble_eq_true rfl) fun xs q hn h => ?_
  clear hn
  obtain ⟨a, b, rfl, ⟨ha, hb, _⟩, hq⟩ := h
  refine ⟨mulFF ha hb, mulFF hb ha, mulDD ha hb, _, _, rfl, ⟨LowQ.dd a b, pow_up (sz_num ha hb) (by decide), pow_up (sz_den ha hb) (by decide)⟩, ?_⟩
  rw [add_divInt]
  exact hq
theorem ok__law_times (T : Txt K mg) : FnOk P w K mg base CX0 2 T.f__law_times T.fd__law_times ["_law_one", "_law_other"] (sp__law_times K) := by
  refine T.F__law_times.ok sc__law_times (fun vs H Q E h => lsp_len h) (fun cdv A outer s H vs Q E hr h => ⟨_, (pss_one (ps_ret (pe_call (ok__law_low T) (hr.mono (by decide)) (by rfl) T.g__law_low T.F__law_low.kp T.b__law_low .nil pass0 (pa_cons (pe_op op_mulW (pe_ix ix_tup (pv 0) pe_int (fun _ _ => rfl)) (pe_ix ix_tup (pv 1) pe_int (fun _ _ => rfl))) (pa_cons (pe_op op_mulW (pe_ix ix_tup (pv 0) pe_int (fun _ _ => rfl)) (pe_ix ix_tup (pv 1) pe_int (fun _ _ => rfl))) pa_nil))))), ?_⟩)
  try dsimp only [cxK, blkK, noxK, wishK]
  refine lsp_body (N := nm__law_times) h (Nat.le_of_ble_eq_true rfl) fun xs q hn h => ?_
  clear hn
  obtain ⟨a, b, rfl, ⟨ha, hb, _⟩, hq⟩ := h
  refine ⟨mulNN ha hb, mulDD ha hb, _, _, rfl, ⟨LowQ.dd a b, pow_up (abs_mul_lt ha.1 hb.1) (by decide), pow_up (sz_den ha hb) (by decide)⟩, ?_⟩
  rw [mul_divInt]
  exact hq
theorem ok__law_less (T : Txt K mg) : FnOk P w K mg base CX0 1 T.f__law_less T.fd__law_less ["_law_one", "_law_other"] (sp__law_less K) := by
  refine T.F__law_less.ok sc__law_less (fun vs H Q E h => lsp_len h) (fun cdv A outer s H vs Q E hr h => ⟨_, (pss_one (ps_ret (pe_cmpR op_lt (pe_op op_mulW (pe_ix ix_tup (pv 0) pe_int (fun _ _ => rfl)) (pe_ix ix_tup (pv 1) pe_int (fun _ _ => rfl))) (pe_op op_mulW (pe_ix ix_tup (pv 1) pe_int (fun _ _ => rfl)) (pe_ix ix_tup (pv 0) pe_int (fun _ _ => rfl))) (nomark _)))), ?_⟩)
  try dsimp only [cxK, blkK, noxK, wishK]
  refine lsp_body (N := nm__law_less) h (Nat.le_of_ble_eq_true rfl) fun xs q hn h => ?_
  clear hn
  obtain ⟨a, b, rfl, ⟨ha, hb⟩, hq⟩ := h
  refine ⟨mulFF ha hb, mulFF hb ha, ?_⟩
  show q (.fr (.bl (decide (a.num * (b.den : Int) < b.num * (a.den : Int))))) []
  rw [less_is]
  exact hq
theorem ok_sum_of (T : Txt K mg) : FnOk P w K mg base CX0 3 T.f_sum_of T.fd_sum_of ["fractions"] (sp_sum_of K) := by
  refine T.F_sum_of.ok sc_sum_of (fun vs H Q E h => lsp_len h) (fun cdv A outer s H vs Q E hr h => ⟨_, (pss_cons (ps_set (i := 1) sc_sum_of.nd rfl (Or.inl rfl) (pe_glob (v := .ref T.a_NOTHING) (by rfl) T.g_NOTHING rfl))
      (pss_cons (ps_for PassesOwn.never rfl (pi_list (pv 0)) (pg_name (i := 2) sc_sum_of.nd rfl (Or.inl rfl))
        (pss_one (ps_set (i := 1) sc_sum_of.nd rfl (Or.inl rfl) (pe_call (ok_plus T) (hr.mono (by decide)) (by rfl) T.g_plus T.F_plus.kp T.b_plus .nil pass0 (pa_cons (pv 1) (pa_cons (pv 2) pa_nil))))))
      (pss_one (ps_ret (pv 1))))), ?_⟩)
  try dsimp only [cxK, blkK, noxK, wishK]
  refine lsp_body (N := nm_sum_of) h (Nat.le_of_ble_eq_true rfl) fun xs q hn h => ?_
  clear hn
  obtain ⟨rs, rfl, hs, hq⟩ := h
  refine ⟨fun i s => ∃ x2, s = [some (.fr (dFs rs)), some (.fr (dF (rsum (rs.take i)))), x2], ⟨_, rfl⟩, ?_, ?_⟩
  · rintro i d s hd ⟨x2, rfl⟩
    obtain ⟨r, hr, rfl⟩ := map_at hd
    refine ⟨_, _, rfl, ⟨hs.2 i, hs.1 r (List.mem_of_getElem? hr), trivial⟩, some (.fr (dF r)), ?_⟩
    rw [rsum_take hr]
    rfl
  · rintro s ⟨x2, rfl⟩
    rw [List.length_map, List.take_length]
    exact hq
theorem ok__law_mix (T : Txt K mg) : FnOk P w K mg base CX0 1 T.f__law_mix T.fd__law_mix ["_law_number", "_law_k"] (sp__law_mix K) := by
  refine T.F__law_mix.ok sc__law_mix (fun vs H Q E h => lsp_len h) (fun cdv A outer s H vs Q E hr h => ⟨_, (pss_one (ps_ret (pe_op op_modN (pe_op op_mulW (pe_op op_modN (pe_callTy (T := "int") call_int1 (by rfl) T.z_int (by decide +kernel) (pa_cons (pe_op op_mulW (pe_op op_add (pe_op op_add (pe_op op_modN (pe_callTy (T := "int") call_int1 (by rfl) T.z_int (by decide +kernel) (pa_cons (pv 0) pa_nil)) pe_int) (pe_op op_mulW pe_int (pv 1))) pe_int) pe_int) pa_nil)) pe_int) pe_int) pe_int))), ?_⟩)
  try dsimp only [cxK, blkK, noxK, wishK]
  refine lsp_body (N := nm__law_mix) h (Nat.le_of_ble_eq_true rfl) fun xs q hn h => ?_
  clear hn
  obtain ⟨n, k, rfl, hk, hq⟩ := h
  have h1 := fmodS n (m := 1000003) (by decide)
  have hm : (7919 * k).natAbs < 2 ^ 40 := by
    have : (7919 * k).natAbs = 7919 * k.natAbs := Int.natAbs_mul ..
    omega
  refine ⟨(show (1000003 : Int) ≠ 0 by decide), mulS (by decide) (by omega), mulS (by omega) (by decide), (show (1000033 : Int) ≠ 0 by decide), ?_⟩
  have h2 := fmodS ((n.fmod 1000003 + 7919 * k + 1) * 48271) (m := 1000033) (by decide)
  refine ⟨mulS (by omega) (by decide), (show (998244353 : Int) ≠ 0 by decide), ?_⟩
  exact hq _ (fmodS _ (by decide)).1 (fmodS _ (by decide)).2
theorem ok__law_numbers (T : Txt K mg) : FnOk P w K mg base CX0 2 T.f__law_numbers T.fd__law_numbers ["_law_script", "_law_count"] (sp__law_numbers K) := by
  refine T.F__law_numbers.ok sc__law_numbers (fun vs H Q E h => lsp_len h) (fun cdv A outer s H vs Q E hr h => ⟨_, (pss_cons (ps_set (i := 2) sc__law_numbers.nd rfl (Or.inl rfl) (pe_lst pa_nil))
      (pss_cons (ps_set (i := 3) sc__law_numbers.nd rfl (Or.inl rfl) pe_int)
      (pss_cut (ps_for PassesOwn.never rfl (pi_list (pe_slice sl_list (pv 0) po_none (po_some pe_int))) (pg_name (i := 4) sc__law_numbers.nd rfl (Or.inl rfl))
        (pss_cons (ps_set (i := 3) sc__law_numbers.nd rfl (Or.inl rfl) (pe_op op_add (pv 3) (pv 4)))
        (pss_one (ps_if (pt_cmpR op_ge (pv 4) pe_int (nomark _))
          (pss_cons (ps_set (i := 5) sc__law_numbers.nd rfl (Or.inl rfl) (pv 4))
          (pss_one (ps_for PassesOwn.never rfl (pi_range1 (by rfl) T.z_range (pa_cons pe_int pa_nil)) (pg_name (i := 6) sc__law_numbers.nd rfl (Or.inl rfl))
            (pss_cons (ps_expr (pe_bm PySem.F.plainAttrs_list PySem.F.slot_list_append PySem.F.type_list_append mt_append (pv 2) (pa_cons (pe_op op_modN (pe_callTy (T := "int") call_int1 (by rfl) T.z_int (by decide +kernel) (pa_cons (pv 5) pa_nil)) pe_int) pa_nil)))
            (pss_cons (ps_set (i := 5) sc__law_numbers.nd rfl (Or.inl rfl) (pe_op op_fdivW (pv 5) pe_int))
            (pss_one (ps_if (pt_cmpR op_eq (pv 5) pe_int (nomark _))
              (pss_one ps_break)
              pss_nil)))))))
          (pss_one (ps_expr (pe_bm PySem.F.plainAttrs_list PySem.F.slot_list_append PySem.F.type_list_append mt_append (pv 2) (pa_cons (pe_call (ok__law_mix T) (hr.mono (by decide)) (by rfl) T.g__law_mix T.F__law_mix.kp T.b__law_mix .nil pass0 (pa_cons (pe_call (ok__law_mix T) (hr.mono (by decide)) (by rfl) T.g__law_mix T.F__law_mix.kp T.b__law_mix .nil pass0 (pa_cons (pv 4) (pa_cons pe_int pa_nil))) (pa_cons pe_int pa_nil))) pa_nil))))))))
      (pss_cons (ps_for PassesOwn.never rfl (pi_range1 (by rfl) T.z_range (pa_cons (pv 1) pa_nil)) (pg_name (i := 6) sc__law_numbers.nd rfl (Or.inl rfl))
        (pss_one (ps_expr (pe_bm PySem.F.plainAttrs_list PySem.F.slot_list_append PySem.F.type_list_append mt_append (pv 2) (pa_cons (pe_call (ok__law_mix T) (hr.mono (by decide)) (by rfl) T.g__law_mix T.F__law_mix.kp T.b__law_mix .nil pass0 (pa_cons (pe_call (ok__law_mix T) (hr.mono (by decide)) (by rfl) T.g__law_mix T.F__law_mix.kp T.b__law_mix .nil pass0 (pa_cons (pe_op op_add (pv 3) (pe_op op_mulW pe_int (pv 6))) (pa_cons (pe_op op_add pe_int (pv 6)) pa_nil))) (pa_cons pe_int pa_nil))) pa_nil)))))
      (pss_cons (ps_expr (pe_bm0 PySem.F.plainAttrs_list PySem.F.slot_list_reverse PySem.F.type_list_reverse mt_reverse (pv 2)))
      (pss_one (ps_ret (pv 2)))))))), ?_⟩)
  try dsimp only [cxK, blkK, noxK, wishK]
  refine lsp_body (N := nm__law_numbers) h (Nat.le_of_ble_eq_true rfl) fun xs q hn h => ?_
  clear hn
  obtain ⟨ns, c, rfl, ⟨hl, c0, c1⟩, hq⟩ := h
  obtain ⟨ms, e1, e2⟩ := cutD_ints ns none (some 63)
  refine ⟨fun s => ∃ (b : Int) (x4 x5 x6 : Option S) (r : List Int), s = [some (.fr (.scr ns)), some (.fr (.int c)), some (.ow false (rowO r)), some (.fr (.int b)), x4, x5, x6] ∧ r.length ≤ 10000, ?_, ?_⟩
  · refine ⟨fun i s => ∃ (b : Int) (x4 x5 x6 : Option S) (r : List Int), s = [some (.fr (.scr ns)), some (.fr (.int c)), some (.ow false (rowO r)), some (.fr (.int b)), x4, x5, x6] ∧ r.length ≤ 60 * i, ⟨_, _, _, _, [], rfl, by decide⟩, ?_, ?_⟩
    · rintro i d s hd ⟨b, x4, x5, x6, r, rfl, hr⟩
      have hi := (List.getElem?_eq_some_iff.mp hd).1
      rw [e1] at hd hi
      rw [List.length_map] at hi
      obtain ⟨z, rfl, hz⟩ := ints_at hd
      refine ⟨fun _ => ?_, fun _ => ?_⟩
      · refine ⟨⟨by decide, by decide⟩, fun j s => ∃ (x6 : Option S) (y : Int) (r : List Int), s = [some (.fr (.scr ns)), some (.fr (.int c)), some (.ow false (rowO r)), some (.fr (.int (b + z))), some (.fr (.int z)), some (.fr (.int y)), x6] ∧ r.length ≤ 60 * i + j, ⟨_, _, _, rfl, hr⟩, ?_, ?_⟩
        · rintro j d s hd2 ⟨x6, y, r, rfl, hr⟩
          obtain ⟨hj, rfl⟩ := rngD_get hd2
          have hj : j < 60 := hj
          refine ⟨(show (840 : Int) ≠ 0 by decide), by simp; omega, ⟨by decide, by decide⟩, fun _ => ?_, fun _ => ?_⟩
          · exact ⟨b + z, _, _, _, r ++ [y.fmod 840], by rw [rowO_snoc]; rfl, by simp; omega⟩
          · exact ⟨_, _, r ++ [y.fmod 840], by rw [rowO_snoc]; rfl, by simp; omega⟩
        · rintro s ⟨x6, y, r, rfl, hr⟩
          have hr : r.length ≤ 60 * i + 60 := hr
          exact ⟨b + z, _, _, _, r, rfl, by omega⟩
      · exact ⟨z, 3, rfl, by decide, fun z1 _ _ => ⟨z1, 5, rfl, by decide, fun z2 _ _ => ⟨by simp; omega, b + z, _, _, _, r ++ [z2], by rw [rowO_snoc]; rfl, by simp; omega⟩⟩⟩
    · rintro s ⟨b, x4, x5, x6, r, rfl, hr⟩
      rw [e1, List.length_map] at hr
      exact ⟨b, _, _, _, r, rfl, by omega⟩
  · rintro s' ⟨b, x4, x5, x6, r, rfl, hr⟩
    refine ⟨⟨by omega, by omega⟩, fun i s => ∃ (x4 x5 x6 : Option S) (r : List Int), s = [some (.fr (.scr ns)), some (.fr (.int c)), some (.ow false (rowO r)), some (.fr (.int b)), x4, x5, x6] ∧ r.length ≤ 10000 + i, ⟨_, _, _, _, rfl, hr⟩, ?_, ?_⟩
    · rintro i d s hd ⟨x4, x5, x6, r, rfl, hr⟩
      obtain ⟨hi, rfl⟩ := rngD_get hd
      refine ⟨mulS (by decide) (by omega), _, _, rfl, by omega, fun z _ _ => ⟨_, _, rfl, by decide, fun z2 _ _ => ⟨by simp; omega, x4, x5, _, r ++ [z2], by rw [rowO_snoc]; rfl, by simp; omega⟩⟩⟩
    · rintro s ⟨x4, x5, x6, r, rfl, hr⟩
      have := hq r.reverse
      unfold rowO at this
      rw [List.map_reverse] at this
      exact .inl this
theorem ok__law_take (T : Txt K mg) : FnOk P w K mg base CX0 1 T.f__law_take T.fd__law_take ["_law_row", "_law_bound_here"] (sp__law_take K) := by
  refine T.F__law_take.ok sc__law_take (fun vs H Q E h => lsp_len h) (fun cdv A outer s H vs Q E hr h => ⟨_, (pss_cons (ps_if (pt_not (pt_truth (pv 0) (by intro _; rfl)))
        (pss_one (ps_ret pe_int))
        pss_nil)
      (pss_one (ps_ret (pe_op op_modN (pe_callTy (T := "int") call_int1 (by rfl) T.z_int (by decide +kernel) (pa_cons (pe_bm0 PySem.F.plainAttrs_list PySem.F.slot_list_pop PySem.F.type_list_pop mt_pop (pv 0)) pa_nil)) (pv 1))))), ?_⟩)
  try dsimp only [cxK, blkK, noxK, wishK]
  refine lsp_body (N := nm__law_take) h (Nat.le_of_ble_eq_true rfl) fun xs q hn h => ?_
  clear hn
  obtain ⟨ns, b, rfl, hb, hq⟩ := h
  rcases List.eq_nil_or_concat ns with rfl | ⟨ms, z, rfl⟩
  · exact ⟨fun h => (by cases h), fun _ => hq 0 [] (by decide) hb⟩
  · have e : (ms.concat z).map D.int = ms.map D.int ++ [D.int z] := by rw [List.concat_eq_append, List.map_append]; rfl
    rw [rowO, e]
    refine ⟨fun _ => ?_, fun h => ?_⟩
    · show (match (ms.map D.int ++ [D.int z])[(ms.map D.int ++ [D.int z]).length - 1]? with | some d => _ | none => False)
      rw [List.length_append, List.length_singleton, Nat.add_sub_cancel, List.getElem?_append_right (Nat.le_refl _), Nat.sub_self]
      rw [List.dropLast_concat]
      exact ⟨(show b ≠ 0 by omega), hq _ ms (fmodS z hb).1 (fmodS z hb).2⟩
    · cases hm : ms.map D.int <;> rw [hm] at h <;> cases h


def dZs (ns : List Int) : D := .lst (ns.map D.int)
def fallQ (c : Rat) (n : Int) : Rat := c / (n : Rat) - c / ((n + 1 : Int) : Rat)
def trm (c p : Rat) (n : Nat) : Rat := c / ((n : Int) : Rat) + ((n : Int) : Rat) * p
def ltm (c p : Rat) : Nat → Option Rat
  | 0 => none
  | k + 1 => match ltm c p k with
    | none => some (trm c p (k + 1))
    | some b => if trm c p (k + 1) < b then some (trm c p (k + 1)) else some b
def dRo : Option Rat → D
  | none => .non
  | some r => dF r
def leastT (c p : Rat) (l : Int) : Rat := (ltm c p l.toNat).getD 0
def nxt (cs : List Rat) (ls ns : List Int) : Nat → Option (Nat × Rat)
  | 0 => none
  | i + 1 => match cs[i]?, ls[i]?, ns[i]? with
    | some c, some l, some n => if n < l then (match nxt cs ls ns i with
        | none => some (i, fallQ c n)
        | some b => if b.2 < fallQ c n then some (i, fallQ c n) else some b) else nxt cs ls ns i
    | _, _, _ => nxt cs ls ns i
def dBest : Option (Nat × Rat) → D
  | none => .non
  | some b => .tup [.int (b.1 : Nat), dF b.2]
def Sta1 (cs : List Rat) (ls : List Int) : Prop := cs.length = ls.length ∧ cs.length ≤ 4 ∧ (∀ c ∈ cs, Fz 12 40 c ∧ 0 ≤ c) ∧ ∀ l ∈ ls, 1 ≤ l ∧ l ≤ 5
def NumZ (ls ns : List Int) : Prop := ns.length = ls.length ∧ ∀ n ∈ ns, 1 ≤ n ∧ n ≤ 5
def isum (ns : List Int) : Int := ns.sum
def varQ (cs : List Rat) (ns : List Int) : Rat := rsum ((cs.zip ns).map fun x => x.1 / (x.2 : Rat))
def Bd (cs : List Rat) (ls : List Int) (p : Int) (t : Rat) : Rat := rsum ((cs.zip ls).map fun x => leastT x.1 t x.2) - (p : Rat) * t
def dealB (ls : List Int) (p : Int) (ns : List Int) : Bool := decide (ns.length = ls.length) && decide (isum ns = p) && (ns.zip ls).all fun x => decide (1 ≤ x.1) && decide (x.1 ≤ x.2)
def grd (cs : List Rat) (ls : List Int) : Nat → List Int × Rat
  | 0 => (List.replicate ls.length 1, match nxt cs ls (List.replicate ls.length 1) cs.length with
    | none => 0
    | some b => b.2)
  | t + 1 => match nxt cs ls (grd cs ls t).1 cs.length with
    | none => grd cs ls t
    | some b => ((grd cs ls t).1.set b.1 (((grd cs ls t).1[b.1]?).getD 0 + 1), b.2)
def dGrd (g : List Int × Rat) : D := .tup [dZs g.1, dF g.2]
def stepD (fd : List (List Int)) (l : Int) : List (List Int) := fd.flatMap fun o => (List.range l.toNat).map fun (k : Nat) => o ++ [(k : Int) + 1]
def allN (ls : List Int) : List (List Int) := ls.foldl stepD [[]]
def dealsL (ls : List Int) (p : Int) : List (List Int) := (allN ls).filter fun o => decide (isum o = p)
def PrOk (t : Rat) : Prop := Fz 5040 40 t
def psp_fall : Psp := ⟨2, fun xs q => ∃ (a : Rat) (n : Int), xs = [.fr (dF a), .fr (.int n)] ∧ (1 ≤ n ∧ n ≤ 5 ∧ Fz 12 40 a) ∧ q (.fr (dF (fallQ a n))) []⟩
abbrev sp_fall (K : PySem.W.Frag) : Sp := Lsp K psp_fall
def psp__law_fall : Psp := psp_fall
abbrev sp__law_fall (K : PySem.W.Frag) : Sp := Lsp K psp__law_fall
def psp_least_term : Psp := ⟨3, fun xs q => ∃ (c t : Rat) (l : Int), xs = [.fr (dF c), .fr (.int l), .fr (dF t)] ∧ (Fz 12 40 c ∧ PrOk t ∧ 1 ≤ l ∧ l ≤ 5) ∧ q (.fr (dF (leastT c t l))) []⟩
abbrev sp_least_term (K : PySem.W.Frag) : Sp := Lsp K psp_least_term
def psp_next_place : Psp := ⟨3, fun xs q => ∃ (cs : List Rat) (ls ns : List Int), xs = [.fr (dFs cs), .fr (dZs ls), .ow true (rowO ns)] ∧ (Sta1 cs ls ∧ NumZ ls ns) ∧ q (.fr (dBest (nxt cs ls ns cs.length))) [rowO ns]⟩
abbrev sp_next_place (K : PySem.W.Frag) : Sp := Lsp K psp_next_place
def psp_variance_of : Psp := ⟨2, fun xs q => ∃ (cs : List Rat) (ls ns : List Int), xs = [.fr (dFs cs), .fr (dZs ns)] ∧ (Sta1 cs ls ∧ NumZ ls ns) ∧ q (.fr (dF (varQ cs ns))) []⟩
abbrev sp_variance_of (K : PySem.W.Frag) : Sp := Lsp K psp_variance_of
def psp__law_variance : Psp := psp_variance_of
abbrev sp__law_variance (K : PySem.W.Frag) : Sp := Lsp K psp__law_variance
def psp_deal_bound : Psp := ⟨4, fun xs q => ∃ (cs : List Rat) (ls : List Int) (p : Int) (t : Rat), xs = [.fr (dFs cs), .fr (dZs ls), .fr (.int p), .fr (dF t)] ∧ (Sta1 cs ls ∧ p.natAbs ≤ 100 ∧ PrOk t) ∧ q (.fr (dF (Bd cs ls p t))) []⟩
abbrev sp_deal_bound (K : PySem.W.Frag) : Sp := Lsp K psp_deal_bound
def psp__law_bound : Psp := psp_deal_bound
abbrev sp__law_bound (K : PySem.W.Frag) : Sp := Lsp K psp__law_bound
def psp_is_deal : Psp := ⟨3, fun xs q => ∃ (ls : List Int) (p : Int) (ns : List Int), xs = [.fr (dZs ls), .fr (.int p), .fr (dZs ns)] ∧ (ls.length ≤ 10 ∧ ns.length ≤ 10 ∧ p.natAbs ≤ 100 ∧ ∀ n ∈ ns, n.natAbs ≤ 100) ∧ q (.fr (.bl (dealB ls p ns))) []⟩
abbrev sp_is_deal (K : PySem.W.Frag) : Sp := Lsp K psp_is_deal
def psp_deal (A : Ad) : PspX := ⟨3, fun xs q e => ∃ (cs : List Rat) (ls : List Int) (p : Int), xs = [.fr (dFs cs), .fr (dZs ls), .fr (.int p)] ∧ (Sta1 cs ls ∧ p.natAbs ≤ 100) ∧
  (((ls.length : Int) ≤ p ∧ p ≤ isum ls) → q (.fr (dGrd (grd cs ls (p - ls.length).toNat))) []) ∧ (¬ ((ls.length : Int) ≤ p ∧ p ≤ isum ls) → e ⟨A.NoDeal, [], []⟩ [])⟩
abbrev sp_deal (K : PySem.W.Frag) (A : Ad) : Sp := LspX K (psp_deal A)
def psp__law_greedy : Psp := ⟨3, fun xs q => ∃ (cs : List Rat) (ls : List Int) (p : Int), xs = [.fr (dFs cs), .fr (dZs ls), .fr (.int p)] ∧ (Sta1 cs ls ∧ (ls.length : Int) ≤ p ∧ p ≤ isum ls ∧ p.natAbs ≤ 100) ∧ q (.fr (dGrd (grd cs ls (p - ls.length).toNat))) []⟩
abbrev sp__law_greedy (K : PySem.W.Frag) : Sp := Lsp K psp__law_greedy
def psp__law_deals : Psp := ⟨2, fun xs q => ∃ (ls : List Int) (p : Int), xs = [.fr (dZs ls), .fr (.int p)] ∧ (ls.length ≤ 4 ∧ ∀ l ∈ ls, 1 ≤ l ∧ l ≤ 5) ∧ q (.ow false (.lst ((dealsL ls p).map dZs))) []⟩
abbrev sp__law_deals (K : PySem.W.Frag) : Sp := Lsp K psp__law_deals
def psp__law_told : Psp := ⟨3, fun xs q => ∃ (cs : List Rat) (ls : List Int) (p : Int), xs = [.fr (dFs cs), .fr (dZs ls), .fr (.int p)] ∧ (Sta1 cs ls ∧ p.natAbs ≤ 100) ∧
  (((ls.length : Int) ≤ p ∧ p ≤ isum ls) → q (.fr (dGrd (grd cs ls (p - ls.length).toNat))) []) ∧ (¬ ((ls.length : Int) ≤ p ∧ p ≤ isum ls) → q (.fr (.str "none")) [])⟩
abbrev sp__law_told (K : PySem.W.Frag) : Sp := Lsp K psp__law_told
theorem szF {c : Rat} (h : Fz 12 40 c) : Sz LIM c := h.sz (by decide) (by decide +kernel) (by decide +kernel)
theorem szP {M B : Nat} {c : Rat} (h : Fz M B c) (hM : 0 < M) (h1 : M ≤ 2 ^ 100) (h2 : B ≤ 2 ^ 100) : Sz LIM c := by
  refine h.sz hM (Nat.lt_of_le_of_lt (Nat.mul_le_mul h2 h1) (by decide +kernel)) (Nat.lt_of_le_of_lt h1 (by decide +kernel))
theorem fz_one {n : Int} (h1 : 1 ≤ n) (h2 : n ≤ 6) : Fz 60 1 (1 / (n : Rat)) := by
  have : n = 1 ∨ n = 2 ∨ n = 3 ∨ n = 4 ∨ n = 5 ∨ n = 6 := by omega
  rcases this with rfl | rfl | rfl | rfl | rfl | rfl <;> exact ⟨by decide +kernel, by decide +kernel⟩
theorem fz_div {c : Rat} {n : Int} (h : Fz 12 40 c) (h1 : 1 ≤ n) (h2 : n ≤ 6) : Fz 720 40 (c / (n : Rat)) := by
  have := h.mul (fz_one h1 h2)
  rw [show c / (n : Rat) = c * (1 / (n : Rat)) by rw [Rat.div_def, Rat.div_def, Rat.one_mul]]
  exact this
theorem fz_fall {c : Rat} {n : Int} (h : Fz 12 40 c) (h1 : 1 ≤ n) (h2 : n ≤ 5) : Fz 720 80 (fallQ c n) := (fz_div h h1 (by omega)).sub (fz_div h (by omega) (by omega))
theorem fz_intZ {n : Int} {B : Nat} (h : n.natAbs ≤ B) : Fz 1 B (n : Rat) := ⟨by show (1 : Nat) ∣ 1; decide, by show n.natAbs ≤ B * 1; omega⟩
theorem fz_trm {c t : Rat} {n : Nat} (h : Fz 12 40 c) (ht : PrOk t) (h1 : 1 ≤ n) (h2 : n ≤ 5) : Fz 5040 240 (trm c t n) := by
  have a := (fz_div h (n := (n : Int)) (by omega) (by omega)).up (M' := 5040) (B' := 40) (by decide) (by decide)
  have b := (fz_intZ (n := (n : Int)) (B := 5) (by omega)).mul ht
  exact a.add b
theorem ltm_fz {c t : Rat} (h : Fz 12 40 c) (ht : PrOk t) : ∀ k, k ≤ 5 → ∀ r, ltm c t k = some r → Fz 5040 240 r
  | 0, _, r, e => by cases e
  | k + 1, hk, r, e => by
    have ih := ltm_fz h ht k (by omega)
    have ft := fz_trm h ht (n := k + 1) (by omega) hk
    unfold ltm at e
    cases e2 : ltm c t k with
    | none => rw [e2] at e; cases e; exact ft
    | some b =>
      rw [e2] at e
      simp only at e
      split at e <;> cases e
      · exact ft
      · exact ih _ e2
theorem ltm_some {c t : Rat} : ∀ k, ∃ r, ltm c t (k + 1) = some r
  | 0 => ⟨_, rfl⟩
  | k + 1 => by
    obtain ⟨r, e⟩ := ltm_some (c := c) (t := t) k
    rw [ltm, e]
    simp only
    split <;> exact ⟨_, rfl⟩
theorem zip_atZ {α β : Type} {a : List α} {b : List β} {i : Nat} {x : α × β} (h : (a.zip b)[i]? = some x) : a[i]? = some x.1 ∧ b[i]? = some x.2 := List.getElem?_zip_eq_some.mp h
theorem dZs_cons (n : Int) (ns : List Int) : dZs (n :: ns) = .lst (D.int n :: ns.map D.int) := rfl
theorem fz_least {c t : Rat} {l : Int} (h : Fz 12 40 c) (ht : PrOk t) (h1 : 1 ≤ l) (h2 : l ≤ 5) : Fz 5040 240 (leastT c t l) := by
  unfold leastT
  obtain ⟨k, hk⟩ : ∃ k : Nat, l.toNat = k + 1 := ⟨l.toNat - 1, by omega⟩
  obtain ⟨r, e⟩ := ltm_some (c := c) (t := t) k
  rw [hk, e]
  exact ltm_fz h ht (k + 1) (by omega) r e
theorem ok_fall (T : Txt K mg) : FnOk P w K mg base CX0 3 T.f_fall T.fd_fall ["cost", "number"] (sp_fall K) := by
  refine T.F_fall.ok sc_fall (fun vs H Q E h => lsp_len h) (fun cdv A outer s H vs Q E hr h => ⟨_, (pss_one (ps_ret (pe_call (ok_minus T) (hr.mono (by decide)) (by rfl) T.g_minus T.F_minus.kp T.b_minus .nil pass0 (pa_cons (pe_call (ok_over T) (hr.mono (by decide)) (by rfl) T.g_over T.F_over.kp T.b_over .nil pass0 (pa_cons (pv 0) (pa_cons (pe_tup (pa_cons (pv 1) (pa_cons pe_int pa_nil))) pa_nil))) (pa_cons (pe_call (ok_over T) (hr.mono (by decide)) (by rfl) T.g_over T.F_over.kp T.b_over .nil pass0 (pa_cons (pv 0) (pa_cons (pe_tup (pa_cons (pe_op op_add (pv 1) pe_int) (pa_cons pe_int pa_nil))) pa_nil))) pa_nil))))), ?_⟩)
  try dsimp only [cxK, blkK, noxK, wishK]
  refine lsp_body (N := nm_fall) h (Nat.le_of_ble_eq_true rfl) fun xs q hn h => ?_
  clear hn
  obtain ⟨a, n, rfl, ⟨h0, h1, h2⟩, hq⟩ := h
  have n1 : (n : Rat) ≠ 0 := by
    intro e
    have : (n : Rat) = ((0 : Int) : Rat) := e
    have := Rat.intCast_inj.mp this
    omega
  have n2 : ((n + 1 : Int) : Rat) ≠ 0 := by
    intro e
    have : ((n + 1 : Int) : Rat) = ((0 : Int) : Rat) := e
    have := Rat.intCast_inj.mp this
    omega
  refine ⟨_, (n : Rat), rfl, ⟨szF h2, szP (fz_intZ (B := 10) (by omega)) (by decide) (by decide) (by decide), n1⟩, _, ((n + 1 : Int) : Rat), rfl, ⟨szF h2, szP (fz_intZ (B := 10) (by omega)) (by decide) (by decide) (by decide), n2⟩, _, _, rfl, ⟨?_, ?_, trivial⟩, hq⟩
  · exact szP (fz_div h2 h0 (by omega)) (by decide) (by decide) (by decide)
  · exact szP (fz_div h2 (n := n + 1) (by omega) (by omega)) (by decide) (by decide) (by decide)

theorem dZs_at {ns : List Int} {i : Nat} {n : Int} (h : ns[i]? = some n) : atI (ns.map D.int) (i : Int) = some (.int n) := by
  exact atI_get (by omega) (by rw [Int.toNat_natCast, List.getElem?_map, h]; rfl)
theorem enz_at {cs : List Rat} {ls : List Int} {i : Nat} {d : D} (h : (enD (zipD (cs.map dF) (ls.map D.int)))[i]? = some d) : ∃ c l, cs[i]? = some c ∧ ls[i]? = some l ∧ d = .tup [.int (i : Nat), .tup [dF c, .int l]] := by
  obtain ⟨x, hx, rfl⟩ := enD_get h
  obtain ⟨a, b, ha, hb, rfl⟩ := zipD_get hx
  obtain ⟨c, hc, rfl⟩ := map_at ha
  obtain ⟨l, rfl, hl⟩ := ints_at hb
  exact ⟨c, l, hc, hl, rfl⟩
theorem zz_at {cs : List Rat} {ls : List Int} {i : Nat} {d : D} (h : (zipD (cs.map dF) (ls.map D.int))[i]? = some d) : ∃ c l, cs[i]? = some c ∧ ls[i]? = some l ∧ d = .tup [dF c, .int l] := by
  obtain ⟨a, b, ha, hb, rfl⟩ := zipD_get h
  obtain ⟨c, hc, rfl⟩ := map_at ha
  obtain ⟨l, rfl, hl⟩ := ints_at hb
  exact ⟨c, l, hc, hl, rfl⟩
theorem map_zip_step {β : Type} {cs : List Rat} {ls : List Int} {i : Nat} {c : Rat} {l : Int} (f : Rat × Int → β) (h1 : cs[i]? = some c) (h2 : ls[i]? = some l) : ((cs.zip ls).map f).take (i + 1) = ((cs.zip ls).map f).take i ++ [f (c, l)] := by
  have : (cs.zip ls)[i]? = some (c, l) := List.getElem?_zip_eq_some.mpr ⟨h1, h2⟩
  rw [map_step this]
theorem nxt_fz {cs : List Rat} {ls ns : List Int} (h0 : Sta1 cs ls) (h1 : NumZ ls ns) : ∀ i b, nxt cs ls ns i = some b → Fz 720 80 b.2
  | 0, b, e => by cases e
  | i + 1, b, e => by
    have ih := nxt_fz h0 h1 i
    rw [nxt] at e
    split at e
    · rename_i c l n hc hl hn
      have ff := fz_fall (h0.2.2.1 c (List.mem_of_getElem? hc)).1 (h1.2 n (List.mem_of_getElem? hn)).1 (h1.2 n (List.mem_of_getElem? hn)).2
      split at e
      · split at e
        · cases e; exact ff
        · rename_i b2 e2
          split at e
          · cases e; exact ff
          · cases e; exact ih _ e2
      · exact ih b e
    · exact ih b e
theorem fall_is {a : Rat} {n : Int} (h : 1 ≤ n) : Rat.divInt a.num ((a.den : Int) * n * (n + 1)) = fallQ a n := by
  unfold fallQ
  have n1 : (n : Rat) ≠ 0 := fun e => by
    have := Rat.intCast_inj.mp (show (n : Rat) = ((0 : Int) : Rat) from e)
    omega
  have n2 : ((n : Int) : Rat) + 1 ≠ 0 := fun e => by
    have := Rat.intCast_inj.mp (show ((n + 1 : Int) : Rat) = ((0 : Int) : Rat) from by rw [Rat.intCast_add]; exact e)
    omega
  have hd : ((a.den : Int) : Rat) ≠ 0 := fun e => by
    have := Rat.intCast_inj.mp (show ((a.den : Int) : Rat) = ((0 : Int) : Rat) from e)
    have := a.den_pos
    omega
  have ea : a = (a.num : Rat) / ((a.den : Int) : Rat) := by rw [← Rat.divInt_eq_div, Rat.num_divInt_den]
  rw [Rat.divInt_eq_div, Rat.intCast_mul, Rat.intCast_mul, Rat.intCast_add]
  generalize ((a.den : Int) : Rat) = dd at hd ea ⊢
  generalize (a.num : Rat) = nn at ea ⊢
  have e1 : ((1 : Int) : Rat) = 1 := rfl
  rw [e1]
  grind
theorem ok_least_term (T : Txt K mg) : FnOk P w K mg base CX0 3 T.f_least_term T.fd_least_term ["cost", "limit", "price"] (sp_least_term K) := by
  refine T.F_least_term.ok sc_least_term (fun vs H Q E h => lsp_len h) (fun cdv A outer s H vs Q E hr h => ⟨_, (pss_cons (ps_set (i := 3) sc_least_term.nd rfl (Or.inl rfl) pe_non)
      (pss_cons (ps_for PassesOwn.never rfl (pi_range2 (by rfl) T.z_range (pa_cons pe_int (pa_cons (pe_op op_add (pv 1) pe_int) pa_nil))) (pg_name (i := 4) sc_least_term.nd rfl (Or.inl rfl))
        (pss_cons (ps_set (i := 5) sc_least_term.nd rfl (Or.inl rfl) (pe_call (ok_plus T) (hr.mono (by decide)) (by rfl) T.g_plus T.F_plus.kp T.b_plus .nil pass0 (pa_cons (pe_call (ok_over T) (hr.mono (by decide)) (by rfl) T.g_over T.F_over.kp T.b_over .nil pass0 (pa_cons (pv 0) (pa_cons (pe_tup (pa_cons (pv 4) (pa_cons pe_int pa_nil))) pa_nil))) (pa_cons (pe_call (ok_times T) (hr.mono (by decide)) (by rfl) T.g_times T.F_times.kp T.b_times .nil pass0 (pa_cons (pe_tup (pa_cons (pv 4) (pa_cons pe_int pa_nil))) (pa_cons (pv 2) pa_nil))) pa_nil))))
        (pss_one (ps_if (PW.pt (pw_or (pt_cmpR op_isN (pv 3) pe_non (nomark _)) (pw_or1 (pt_val (pe_call (ok_less T) (hr.mono (by decide)) (by rfl) T.g_less T.F_less.kp T.b_less .nil pass0 (pa_cons (pv 5) (pa_cons (pv 3) pa_nil)))))))
          (pss_one (ps_set (i := 3) sc_least_term.nd rfl (Or.inl rfl) (pv 5)))
          pss_nil))))
      (pss_one (ps_ret (pv 3))))), ?_⟩)
  try dsimp only [cxK, blkK, noxK, wishK]
  refine lsp_body (N := nm_least_term) h (Nat.le_of_ble_eq_true rfl) fun xs q hn h => ?_
  clear hn
  obtain ⟨c, t, l, rfl, ⟨h0, h1, h2, h3⟩, hq⟩ := h
  obtain ⟨m, rfl⟩ : ∃ m : Nat, l = m := ⟨l.toNat, by omega⟩
  have he : ((m : Int) + 1 - 1).toNat = m := by omega
  refine ⟨⟨by decide, by decide, by omega, by omega⟩, fun i s => ∃ x4 x5, s = [some (.fr (dF c)), some (.fr (.int m)), some (.fr (dF t)), some (.fr (dRo (ltm c t i))), x4, x5], ⟨none, none, rfl⟩, ?_, ?_⟩
  · rintro i d s hd ⟨x4, x5, rfl⟩
    obtain ⟨hi, rfl⟩ := rngD_get hd
    rw [he] at hi
    have n1 : ((1 + (i : Int) : Int) : Rat) ≠ 0 := by
      intro e
      have := Rat.intCast_inj.mp (show ((1 + (i : Int) : Int) : Rat) = ((0 : Int) : Rat) from e)
      omega
    have sn : Sz LIM ((1 + (i : Int) : Int) : Rat) := szP (fz_intZ (B := 10) (by omega)) (by decide) (by decide) (by decide)
    have st : Sz LIM t := szP h1 (by decide) (by decide) (by decide)
    have e1 : (1 + (i : Int) : Int) = ((i + 1 : Nat) : Int) := by omega
    have ft := fz_trm h0 h1 (n := i + 1) (by omega) (by omega)
    refine ⟨c, ((1 + (i : Int) : Int) : Rat), rfl, ⟨szF h0, sn, n1⟩, ((1 + (i : Int) : Int) : Rat), t, rfl, ⟨sn, st, trivial⟩, _, _, rfl, ⟨?_, ?_, trivial⟩, ?_⟩
    · exact szP (fz_div h0 (n := 1 + (i : Int)) (by omega) (by omega)) (by decide) (by decide) (by decide)
    · exact szP ((fz_intZ (n := 1 + (i : Int)) (B := 10) (by omega)).mul h1) (by decide) (by decide) (by decide)
    · have eX : c / ((1 + (i : Int) : Int) : Rat) + ((1 + (i : Int) : Int) : Rat) * t = trm c t (i + 1) := by unfold trm; rw [e1]
      cases e : ltm c t i with
      | none =>
        have es : ltm c t (i + 1) = some (c / ((1 + (i : Int) : Int) : Rat) + ((1 + (i : Int) : Int) : Rat) * t) := by
          rw [ltm, e, eX]
        exact ⟨fun _ => ⟨_, _, by rw [es]; rfl⟩, fun hz => by cases hz⟩
      | some b =>
        have fb := ltm_fz h0 h1 i (by omega) b e
        rw [← eX] at ft
        refine ⟨fun hz => (by cases hz), fun _ => ⟨_, _, rfl, ⟨szP ft (by decide) (by decide) (by decide), szP fb (by decide) (by decide) (by decide)⟩, fun hz => ?_, fun hz => ?_⟩⟩
        · have es : ltm c t (i + 1) = some (c / ((1 + (i : Int) : Int) : Rat) + ((1 + (i : Int) : Int) : Rat) * t) := by
            rw [ltm, e, eX]
            have hz := of_decide_eq_true hz
            change c / ((1 + (i : Int) : Int) : Rat) + ((1 + (i : Int) : Int) : Rat) * t < b at hz
            rw [eX] at hz
            exact if_pos hz
          exact ⟨_, _, by rw [es]; rfl⟩
        · have es : ltm c t (i + 1) = some b := by
            rw [ltm, e]
            have hz := of_decide_eq_false hz
            change ¬ c / ((1 + (i : Int) : Int) : Rat) + ((1 + (i : Int) : Int) : Rat) * t < b at hz
            rw [eX] at hz
            exact if_neg hz
          exact ⟨_, _, by rw [es]; rfl⟩
  · rintro s ⟨x4, x5, rfl⟩
    rw [show (rngD 1 ((m : Int) + 1 - 1).toNat).length = m by rw [he]; simp [rngD]]
    obtain ⟨k, rfl⟩ : ∃ k, m = k + 1 := ⟨m - 1, by omega⟩
    obtain ⟨r, e⟩ := ltm_some (c := c) (t := t) k
    have hq : q (.fr (dF (leastT c t ((k + 1 : Nat) : Int)))) [] := hq
    unfold leastT at hq
    rw [Int.toNat_natCast, e] at hq
    rw [e]
    exact hq
theorem ok__law_fall (T : Txt K mg) : FnOk P w K mg base CX0 2 T.f__law_fall T.fd__law_fall ["_law_cost", "_law_number"] (sp__law_fall K) := by
  refine T.F__law_fall.ok sc__law_fall (fun vs H Q E h => lsp_len h) (fun cdv A outer s H vs Q E hr h => ⟨_, (pss_one (ps_ret (pe_call (ok__law_low T) (hr.mono (by decide)) (by rfl) T.g__law_low T.F__law_low.kp T.b__law_low .nil pass0 (pa_cons (pe_ix ix_tup (pv 0) pe_int (fun _ _ => rfl)) (pa_cons (pe_op op_mulW (pe_op op_mulW (pe_ix ix_tup (pv 0) pe_int (fun _ _ => rfl)) (pv 1)) (pe_op op_add (pv 1) pe_int)) pa_nil))))), ?_⟩)
  try dsimp only [cxK, blkK, noxK, wishK]
  refine lsp_body (N := nm__law_fall) h (Nat.le_of_ble_eq_true rfl) fun xs q hn h => ?_
  clear hn
  obtain ⟨a, n, rfl, ⟨h0, h1, h2⟩, hq⟩ := h
  have hd : a.den ∣ 12 := h2.1
  have hd2 : a.den ≤ 12 := Nat.le_of_dvd (by decide) hd
  have hd3 := a.den_pos
  have hn := h2.2
  have hm : ((a.den : Int) * n).natAbs ≤ 12 * 5 := by
    rw [Int.natAbs_mul, Int.natAbs_natCast]
    exact Nat.mul_le_mul hd2 (by omega)
  have hp : 0 < (a.den : Int) * n := Int.mul_pos (by omega) (by omega)
  have hm2 : ((a.den : Int) * n * (n + 1)).natAbs ≤ 12 * 5 * 6 := by
    rw [Int.natAbs_mul]
    exact Nat.mul_le_mul hm (by omega)
  have hp2 : 0 < (a.den : Int) * n * (n + 1) := Int.mul_pos hp (by omega)
  refine ⟨mulS (by omega) (by omega), mulS (by omega) (by omega), _, _, rfl, ⟨?_, ?_, ?_⟩, ?_⟩
  · exact (by unfold LowQ; omega)
  · exact Nat.lt_of_le_of_lt (show _ ≤ 480 by omega) (by decide +kernel)
  · exact Nat.lt_of_le_of_lt (show _ ≤ 480 by omega) (by decide +kernel)
  · rw [fall_is h0]
    exact hq
theorem ok_next_place (T : Txt K mg) : FnOk P w K mg base CX0 4 T.f_next_place T.fd_next_place ["costs", "limits", "numbers"] (sp_next_place K) := by
  refine T.F_next_place.ok sc_next_place (fun vs H Q E h => lsp_len h) (fun cdv A outer s H vs Q E hr h => ⟨_, (pss_cons (ps_set (i := 3) sc_next_place.nd rfl (Or.inl rfl) pe_non)
      (pss_cons (ps_for PassesOwn.never rfl (pi_enumZ (by rfl) T.z_enumerate (by rfl) T.z_zip (pa_cons (pv 0) (pa_cons (pv 1) pa_nil))) (pg_tupk (K := K) (n := 2) rfl rfl (pgs_cons (pg_name (i := 4) sc_next_place.nd rfl (Or.inl rfl)) (pgs_cons (pg_tupk (K := K) (n := 2) rfl rfl (pgs_cons (pg_name (i := 5) sc_next_place.nd rfl (Or.inl rfl)) (pgs_cons (pg_name (i := 6) sc_next_place.nd rfl (Or.inl rfl)) pgs_nil))) pgs_nil)))
        (pss_one (ps_if (pt_cmpR op_lt (pe_ix ix_list (pv 2) (pv 4) (fun _ _ => rfl)) (pv 6) (nomark _))
          (pss_cons (ps_set (i := 7) sc_next_place.nd rfl (Or.inl rfl) (pe_call (ok_fall T) (hr.mono (by decide)) (by rfl) T.g_fall T.F_fall.kp T.b_fall .nil pass0 (pa_cons (pv 5) (pa_cons (pe_ix ix_list (pv 2) (pv 4) (fun _ _ => rfl)) pa_nil))))
          (pss_one (ps_if (PW.pt (pw_or (pt_cmpR op_isN (pv 3) pe_non (nomark _)) (pw_or1 (pt_val (pe_call (ok_less T) (hr.mono (by decide)) (by rfl) T.g_less T.F_less.kp T.b_less .nil pass0 (pa_cons (pe_ix ix_tup (pv 3) pe_int (fun _ _ => rfl)) (pa_cons (pv 7) pa_nil)))))))
            (pss_one (ps_set (i := 3) sc_next_place.nd rfl (Or.inl rfl) (pe_tup (pa_cons (pv 4) (pa_cons (pv 7) pa_nil)))))
            pss_nil)))
          pss_nil)))
      (pss_one (ps_ret (pv 3))))), ?_⟩)
  try dsimp only [cxK, blkK, noxK, wishK]
  refine lsp_body (N := nm_next_place) h (Nat.le_of_ble_eq_true rfl) fun xs q hn h => ?_
  clear hn
  obtain ⟨cs, ls, ns, rfl, ⟨h0, h1⟩, hq⟩ := h
  have hlen : (enD (zipD (cs.map dF) (ls.map D.int))).length = cs.length := by rw [enD_len, zipD, List.length_zipWith, List.length_map, List.length_map, ← h0.1, Nat.min_self]
  refine ⟨fun i s => ∃ x4 x5 x6 x7, s = [some (.fr (dFs cs)), some (.fr (dZs ls)), some (.ow true (rowO ns)), some (.fr (dBest (nxt cs ls ns i))), x4, x5, x6, x7], ⟨none, none, none, none, rfl⟩, ?_, ?_⟩
  · rintro i d s hd ⟨x4, x5, x6, x7, rfl⟩
    obtain ⟨c, l, hc, hl, rfl⟩ := enz_at hd
    obtain ⟨n, hn⟩ : ∃ n, ns[i]? = some n := ⟨ns[i]'(by rw [h1.1]; exact (List.getElem?_eq_some_iff.mp hl).1), List.getElem?_eq_getElem _⟩
    show (match atI (ns.map D.int) (i : Int) with | some d => _ | none => False)
    rw [dZs_at hn]
    have cok := h0.2.2.1 c (List.mem_of_getElem? hc)
    have nok := h1.2 n (List.mem_of_getElem? hn)
    have lok := h0.2.2.2 l (List.mem_of_getElem? hl)
    have es : nxt cs ls ns (i + 1) = (if n < l then (match nxt cs ls ns i with | none => some (i, fallQ c n) | some b => if b.2 < fallQ c n then some (i, fallQ c n) else some b) else nxt cs ls ns i) := by
      rw [nxt, hc, hl, hn] <;> rfl
    refine ⟨fun hz => ?_, fun hz => ?_⟩
    · rw [if_pos (of_decide_eq_true hz)] at es
      show (match atI (ns.map D.int) (i : Int) with | some d => _ | none => False)
      rw [dZs_at hn]
      refine ⟨c, n, rfl, ⟨nok.1, nok.2, cok.1⟩, ?_⟩
      cases e : nxt cs ls ns i with
      | none =>
        rw [e] at es
        exact ⟨fun _ => ⟨_, _, _, _, by rw [es]; rfl⟩, fun hz => by cases hz⟩
      | some b =>
        obtain ⟨k, r⟩ := b
        rw [e] at es
        have fb : Fz 720 80 r := nxt_fz h0 h1 i (k, r) e
        refine ⟨fun hz => (by cases hz), fun _ => ?_⟩
        refine ⟨r, fallQ c n, rfl, ⟨szP fb (by decide) (by decide) (by decide), szP (fz_fall cok.1 nok.1 nok.2) (by decide) (by decide) (by decide)⟩, fun hz => ?_, fun hz => ?_⟩
        · exact ⟨_, _, _, _, by rw [es.trans (if_pos (of_decide_eq_true hz))]; rfl⟩
        · exact ⟨_, _, _, _, by rw [es.trans (if_neg (of_decide_eq_false hz))]; rfl⟩
    · rw [if_neg (of_decide_eq_false hz)] at es
      exact ⟨_, _, _, _, by rw [es]; rfl⟩
  · rintro s ⟨x4, x5, x6, x7, rfl⟩
    rw [hlen]
    exact hq
theorem var_at {cs : List Rat} {ns : List Int} {i : Nat} {c : Rat} {n : Int} (h1 : cs[i]? = some c) (h2 : ns[i]? = some n) : ((cs.zip ns).map fun x => dF (x.1 / (x.2 : Rat))).take i ++ [dF (c / (n : Rat))] = ((cs.zip ns).map fun x => dF (x.1 / (x.2 : Rat))).take (i + 1) := (map_zip_step (fun x => dF (x.1 / (x.2 : Rat))) h1 h2).symm
theorem ok_variance_of (T : Txt K mg) : FnOk P w K mg base CX0 4 T.f_variance_of T.fd_variance_of ["costs", "numbers"] (sp_variance_of K) := by
  refine T.F_variance_of.ok sc_variance_of (fun vs H Q E h => lsp_len h) (fun cdv A outer s H vs Q E hr h => ⟨_, (pss_one (ps_ret (pe_call (ok_sum_of T) (hr.mono (by decide)) (by rfl) T.g_sum_of T.F_sum_of.kp T.b_sum_of .nil pass0 (pa_cons (pe_lc (own := [("cost", 2), ("number", 3)]) (g := gTup K 2 (gCons (gName 2) (gCons (gName 3) gNil))) rfl sc_variance_of.nd (pi_zip (by rfl) T.z_zip (pa_cons (pv 0) (pa_cons (pv 1) pa_nil))) (blkOk_by (own := [("cost", 2), ("number", 3)]) (N := nm_variance_of) (sc := defScope s_variance_of) (by decide +kernel)) (fun _ _ _ _ _ => (pg_tupk (K := K) (n := 2) rfl rfl (pgs_cons (pg_name (i := 2) sc_variance_of.nd rfl (Or.inl rfl)) (pgs_cons (pg_name (i := 3) sc_variance_of.nd rfl (Or.inl rfl)) pgs_nil)))) (fun _ _ _ _ _ => pts_nil) (fun _ _ _ _ _ => (pe_call (ok_over T) (hr.mono (by decide)) (by rfl) T.g_over T.F_over.kp T.b_over .nil pass0 (pa_cons (pv 2) (pa_cons (pe_tup (pa_cons (pv 3) (pa_cons pe_int pa_nil))) pa_nil))))) pa_nil)))), ?_⟩)
  try dsimp only [cxK, blkK, noxK, wishK]
  refine lsp_body (N := nm_variance_of) h (Nat.le_of_ble_eq_true rfl) fun xs q hn h => ?_
  clear hn
  obtain ⟨cs, ls, ns, rfl, ⟨h0, h1⟩, hq⟩ := h
  have hlen : (zipD (cs.map dF) (ns.map D.int)).length = cs.length := by rw [zipD, List.length_zipWith, List.length_map, List.length_map, h1.1, ← h0.1, Nat.min_self]
  refine ⟨by rw [hlen]; have := h0.2.1; omega, fun i acc s => acc = (((cs.zip ns).map fun x => dF (x.1 / (x.2 : Rat))).take i) ∧ s = [some (.fr (dFs cs)), some (.fr (dZs ns)), none, none], ⟨rfl, rfl⟩, ?_, ?_⟩
  · rintro i d acc s hd ⟨rfl, rfl⟩
    obtain ⟨c, n, hc, hn, rfl⟩ := zz_at hd
    have cok := h0.2.2.1 c (List.mem_of_getElem? hc)
    have nok := h1.2 n (List.mem_of_getElem? hn)
    have n1 : (n : Rat) ≠ 0 := fun e => by
      have := Rat.intCast_inj.mp (show (n : Rat) = ((0 : Int) : Rat) from e)
      omega
    exact ⟨c, (n : Rat), rfl, ⟨szF cok.1, szP (fz_intZ (B := 10) (by omega)) (by decide) (by decide) (by decide), n1⟩, var_at hc hn, rfl⟩
  · rintro acc s ⟨rfl, rfl⟩
    rw [hlen, List.take_of_length_le (by rw [List.length_map, List.length_zip]; omega)]
    refine ⟨(cs.zip ns).map fun x => x.1 / (x.2 : Rat), by rw [dFs_map]; rfl, ?_, ?_⟩
    rotate_left 1
    · exact hq
    refine fz_sumOk (M := 720) (B := 40) (n := 4) (fun r hr => ?_) (by decide) (by rw [List.length_map, List.length_zip]; have := h0.2.1; omega) (by decide +kernel) (by decide +kernel)
    obtain ⟨x, hx, rfl⟩ := List.mem_map.mp hr
    have := List.of_mem_zip (a := x.1) (b := x.2) hx
    have n2 := h1.2 _ this.2
    exact fz_div (h0.2.2.1 _ this.1).1 n2.1 (by omega)
theorem ok_deal_bound (T : Txt K mg) : FnOk P w K mg base CX0 4 T.f_deal_bound T.fd_deal_bound ["costs", "limits", "places", "price"] (sp_deal_bound K) := by
  refine T.F_deal_bound.ok sc_deal_bound (fun vs H Q E h => lsp_len h) (fun cdv A outer s H vs Q E hr h => ⟨_, (pss_cons (ps_set (i := 4) sc_deal_bound.nd rfl (Or.inl rfl) (pe_call (ok_sum_of T) (hr.mono (by decide)) (by rfl) T.g_sum_of T.F_sum_of.kp T.b_sum_of .nil pass0 (pa_cons (pe_lc (own := [("cost", 5), ("limit", 6)]) (g := gTup K 2 (gCons (gName 5) (gCons (gName 6) gNil))) rfl sc_deal_bound.nd (pi_zip (by rfl) T.z_zip (pa_cons (pv 0) (pa_cons (pv 1) pa_nil))) (blkOk_by (own := [("cost", 5), ("limit", 6)]) (N := nm_deal_bound) (sc := defScope s_deal_bound) (by decide +kernel)) (fun _ _ _ _ _ => (pg_tupk (K := K) (n := 2) rfl rfl (pgs_cons (pg_name (i := 5) sc_deal_bound.nd rfl (Or.inl rfl)) (pgs_cons (pg_name (i := 6) sc_deal_bound.nd rfl (Or.inl rfl)) pgs_nil)))) (fun _ _ _ _ _ => pts_nil) (fun _ _ _ _ _ => (pe_call (ok_least_term T) (hr.mono (by decide)) (by rfl) T.g_least_term T.F_least_term.kp T.b_least_term .nil pass0 (pa_cons (pv 5) (pa_cons (pv 6) (pa_cons (pv 3) pa_nil)))))) pa_nil)))
      (pss_one (ps_ret (pe_call (ok_minus T) (hr.mono (by decide)) (by rfl) T.g_minus T.F_minus.kp T.b_minus .nil pass0 (pa_cons (pv 4) (pa_cons (pe_call (ok_times T) (hr.mono (by decide)) (by rfl) T.g_times T.F_times.kp T.b_times .nil pass0 (pa_cons (pe_tup (pa_cons (pv 2) (pa_cons pe_int pa_nil))) (pa_cons (pv 3) pa_nil))) pa_nil)))))), ?_⟩)
  try dsimp only [cxK, blkK, noxK, wishK]
  refine lsp_body (N := nm_deal_bound) h (Nat.le_of_ble_eq_true rfl) fun xs q hn h => ?_
  clear hn
  obtain ⟨cs, ls, p, t, rfl, ⟨h0, h1, h2⟩, hq⟩ := h
  have hlen : (zipD (cs.map dF) (ls.map D.int)).length = cs.length := by rw [zipD, List.length_zipWith, List.length_map, List.length_map, ← h0.1, Nat.min_self]
  have hlz : ((cs.zip ls).map fun x => leastT x.1 t x.2).length ≤ 4 := by rw [List.length_map, List.length_zip]; have := h0.2.1; omega
  have hfz : ∀ r ∈ (cs.zip ls).map fun x => leastT x.1 t x.2, Fz 5040 240 r := fun r hr => by
    obtain ⟨x, hx, rfl⟩ := List.mem_map.mp hr
    have := List.of_mem_zip (a := x.1) (b := x.2) hx
    have l2 := h0.2.2.2 _ this.2
    exact fz_least (h0.2.2.1 _ this.1).1 h2 l2.1 l2.2
  refine ⟨by rw [hlen]; have := h0.2.1; omega, fun i acc s => acc = (((cs.zip ls).map fun x => dF (leastT x.1 t x.2)).take i) ∧ s = [some (.fr (dFs cs)), some (.fr (dZs ls)), some (.fr (.int p)), some (.fr (dF t)), none, none, none], ⟨rfl, rfl⟩, ?_, ?_⟩
  · rintro i d acc s hd ⟨rfl, rfl⟩
    obtain ⟨c, l, hc, hl, rfl⟩ := zz_at hd
    have cok := h0.2.2.1 c (List.mem_of_getElem? hc)
    have lok := h0.2.2.2 l (List.mem_of_getElem? hl)
    exact ⟨c, t, l, rfl, ⟨cok.1, h2, lok.1, lok.2⟩, (map_zip_step (fun x => dF (leastT x.1 t x.2)) hc hl).symm, rfl⟩
  · rintro acc s ⟨rfl, rfl⟩
    rw [hlen, List.take_of_length_le (by rw [List.length_map, List.length_zip]; omega)]
    refine ⟨(cs.zip ls).map fun x => leastT x.1 t x.2, by rw [dFs_map]; rfl, fz_sumOk hfz (by decide) hlz (by decide +kernel) (by decide +kernel), ?_⟩
    have hs := (Fz.rsum hfz).up (M' := 5040) (B' := 960) (Nat.dvd_refl _) (by omega)
    refine ⟨(p : Rat), t, rfl, ⟨szP (fz_intZ h1) (by decide) (by decide) (by decide), szP h2 (by decide) (by decide) (by decide), trivial⟩, _, _, rfl, ⟨szP hs (by decide) (by decide) (by decide), ?_, trivial⟩, ?_⟩
    · exact szP ((fz_intZ h1).mul h2) (by decide) (by decide) (by decide)
    · exact hq

theorem zzi_at {ns ls : List Int} {i : Nat} {d : D} (h : (zipD (ns.map D.int) (ls.map D.int))[i]? = some d) : ∃ n l, ns[i]? = some n ∧ ls[i]? = some l ∧ d = .tup [.int n, .int l] := by
  obtain ⟨a, b, ha, hb, rfl⟩ := zipD_get h
  obtain ⟨n, rfl, hn⟩ := ints_at ha
  obtain ⟨l, rfl, hl⟩ := ints_at hb
  exact ⟨n, l, hn, hl, rfl⟩
theorem dFs_at {cs : List Rat} {i : Nat} {c : Rat} (h : cs[i]? = some c) : atI (cs.map dF) (i : Int) = some (dF c) := atI_get (by omega) (by rw [Int.toNat_natCast, List.getElem?_map, h]; rfl)
theorem div_is {a : Rat} {n : Int} (h : 1 ≤ n) : Rat.divInt a.num ((a.den : Int) * n) = a / (n : Rat) := by
  have n1 : (n : Rat) ≠ 0 := fun e => by
    have := Rat.intCast_inj.mp (show (n : Rat) = ((0 : Int) : Rat) from e)
    omega
  have hd : ((a.den : Int) : Rat) ≠ 0 := fun e => by
    have := Rat.intCast_inj.mp (show ((a.den : Int) : Rat) = ((0 : Int) : Rat) from e)
    have := a.den_pos
    omega
  have ea : a = (a.num : Rat) / ((a.den : Int) : Rat) := by rw [← Rat.divInt_eq_div, Rat.num_divInt_den]
  rw [Rat.divInt_eq_div, Rat.intCast_mul]
  generalize ((a.den : Int) : Rat) = dd at hd ea ⊢
  generalize (a.num : Rat) = nn at ea ⊢
  grind
theorem low_ok {a : Rat} {n : Int} (h : Fz 12 40 a) (h0 : 1 ≤ n) (h1 : n ≤ 6) : CMulW (a.den : Int) n ∧ LowQ ((a.den : Int) * n) ∧ a.num.natAbs < 2 ^ 1990 ∧ ((a.den : Int) * n).natAbs < 2 ^ 1990 := by
  have hd : a.den ∣ 12 := h.1
  have hd2 : a.den ≤ 12 := Nat.le_of_dvd (by decide) hd
  have hd3 := a.den_pos
  have hn := h.2
  have hm : ((a.den : Int) * n).natAbs ≤ 12 * 6 := by
    rw [Int.natAbs_mul, Int.natAbs_natCast]
    exact Nat.mul_le_mul hd2 (by omega)
  have hp : 0 < (a.den : Int) * n := Int.mul_pos (by omega) (by omega)
  exact ⟨mulS (by omega) (by omega), by unfold LowQ; omega, Nat.lt_of_le_of_lt (show _ ≤ 480 by omega) (by decide +kernel), Nat.lt_of_le_of_lt (show _ ≤ 480 by omega) (by decide +kernel)⟩
theorem rsum_zip {cs : List Rat} {ns : List Int} {f : Rat × Int → Rat} {i : Nat} {c : Rat} {n : Int} (h1 : cs[i]? = some c) (h2 : ns[i]? = some n) : rsum (((cs.zip ns).map f).take (i + 1)) = rsum (((cs.zip ns).map f).take i) + f (c, n) := by
  refine rsum_take ?_
  rw [List.getElem?_map, (List.getElem?_zip_eq_some.mpr ⟨h1, h2⟩ : (cs.zip ns)[i]? = some (c, n))]
  rfl
theorem ok_is_deal (T : Txt K mg) : FnOk P w K mg base CX0 1 T.f_is_deal T.fd_is_deal ["limits", "places", "numbers"] (sp_is_deal K) := by
  refine T.F_is_deal.ok sc_is_deal (fun vs H Q E h => lsp_len h) (fun cdv A outer s H vs Q E hr h => ⟨_, (pss_cons (ps_if (PW.pt (pw_or (pt_cmpR op_ne (pe_callB (id := "len") call_len_seq (by rfl) T.z_len (by decide +kernel) (pa_cons (pv 2) pa_nil)) (pe_callB (id := "len") call_len_seq (by rfl) T.z_len (by decide +kernel) (pa_cons (pv 0) pa_nil)) (nomark _)) (pw_or1 (pt_cmpR op_ne (pe_callB (id := "sum") (cr_sum rfl) (by rfl) T.z_sum (by decide +kernel) (pa_cons (pv 2) pa_nil)) (pv 1) (nomark _)))))
        (pss_one (ps_ret pe_bl))
        pss_nil)
      (pss_one (ps_ret (pe_callB (id := "all") (cr_all rfl) (by rfl) T.z_all (by decide +kernel) (pa_cons (pe_lc (own := [("number", 3), ("limit", 4)]) (g := gTup K 2 (gCons (gName 3) (gCons (gName 4) gNil))) rfl sc_is_deal.nd (pi_zip (by rfl) T.z_zip (pa_cons (pv 2) (pa_cons (pv 0) pa_nil))) (blkOk_by (own := [("number", 3), ("limit", 4)]) (N := nm_is_deal) (sc := defScope s_is_deal) (by decide +kernel)) (fun _ _ _ _ _ => (pg_tupk (K := K) (n := 2) rfl rfl (pgs_cons (pg_name (i := 3) sc_is_deal.nd rfl (Or.inl rfl)) (pgs_cons (pg_name (i := 4) sc_is_deal.nd rfl (Or.inl rfl)) pgs_nil)))) (fun _ _ _ _ _ => pts_nil) (fun _ _ _ _ _ => (pe_chain op_le op_le pe_int (pv 3) (pv 4)))) pa_nil))))), ?_⟩)
  try dsimp only [cxK, blkK, noxK, wishK]
  refine lsp_body (N := nm_is_deal) h (Nat.le_of_ble_eq_true rfl) fun xs q hn h => ?_
  clear hn
  obtain ⟨ls, p, ns, rfl, ⟨h0, h1, h2, h3⟩, hq⟩ := h
  have eD : (fun x : Int × Int => D.bl (decide (1 ≤ x.1) && decide (x.1 ≤ x.2))) = D.bl ∘ fun x : Int × Int => decide (1 ≤ x.1) && decide (x.1 ≤ x.2) := rfl
  have hlen : (zipD (ns.map D.int) (ls.map D.int)).length = (ns.zip ls).length := by rw [zipD, List.length_zipWith, List.length_map, List.length_map, List.length_zip]
  refine ⟨fun hz => ?_, fun hz => ?_⟩
  · have hz : (!decide (((ns.map D.int).length : Int) = ((ls.map D.int).length : Int))) = true := hz
    rw [List.length_map, List.length_map] at hz
    have e : dealB ls p ns = false := by
      unfold dealB
      rw [show decide (ns.length = ls.length) = false from by simp at hz ⊢; omega]
      rfl
    rw [e] at hq
    exact hq
  · have hz : (!decide (((ns.map D.int).length : Int) = ((ls.map D.int).length : Int))) = false := hz
    rw [List.length_map, List.length_map] at hz
    have el : ns.length = ls.length := by simp at hz; omega
    refine ⟨ns, rfl, fun hy => ?_, fun hy => ?_⟩
    · have hy : (!decide (ns.sum = p)) = true := hy
      have e : dealB ls p ns = false := by
        unfold dealB isum
        rw [show decide (ns.sum = p) = false from by simpa using hy]
        simp
      rw [e] at hq
      exact hq
    · have hy : (!decide (ns.sum = p)) = false := hy
      refine ⟨by rw [hlen, List.length_zip]; omega, fun i acc s => acc = (((ns.zip ls).map fun x => D.bl (decide (1 ≤ x.1) && decide (x.1 ≤ x.2))).take i) ∧ s = [some (.fr (dZs ls)), some (.fr (.int p)), some (.fr (dZs ns)), none, none], ⟨rfl, rfl⟩, ?_, ?_⟩
      · rintro i d acc s hd ⟨rfl, rfl⟩
        obtain ⟨n, l, hn, hl, rfl⟩ := zzi_at hd
        have st : ((ns.zip ls).map fun x => D.bl (decide (1 ≤ x.1) && decide (x.1 ≤ x.2))).take i ++ [D.bl (decide (1 ≤ n) && decide (n ≤ l))] = ((ns.zip ls).map fun x => D.bl (decide (1 ≤ x.1) && decide (x.1 ≤ x.2))).take (i + 1) := map_step (f := fun x : Int × Int => D.bl (decide (1 ≤ x.1) && decide (x.1 ≤ x.2))) (List.getElem?_zip_eq_some.mpr ⟨hn, hl⟩ : (ns.zip ls)[i]? = some (n, l))
        refine ⟨fun hz => ⟨?_, rfl⟩, fun hz => ⟨?_, rfl⟩⟩
        · rw [← st, show decide (1 ≤ n) = true from hz]
          rfl
        · rw [← st, show decide (1 ≤ n) = false from hz]
          rfl
      · rintro acc s ⟨rfl, rfl⟩
        rw [hlen, List.take_of_length_le (by rw [List.length_map]; omega)]
        refine ⟨(ns.zip ls).map fun x => decide (1 ≤ x.1) && decide (x.1 ≤ x.2), by rw [List.map_map]; rfl, ?_⟩
        have e : dealB ls p ns = ((ns.zip ls).map fun x => decide (1 ≤ x.1) && decide (x.1 ≤ x.2)).all id := by
          unfold dealB isum
          rw [show decide (ns.sum = p) = true from by simpa using hy, show decide (ns.length = ls.length) = true from decide_eq_true el, List.all_map]
          rfl
        rw [e] at hq
        exact hq
theorem ok__law_variance (T : Txt K mg) : FnOk P w K mg base CX0 3 T.f__law_variance T.fd__law_variance ["_law_costs", "_law_numbers_here"] (sp__law_variance K) := by
  refine T.F__law_variance.ok sc__law_variance (fun vs H Q E h => lsp_len h) (fun cdv A outer s H vs Q E hr h => ⟨_, (pss_cons (ps_set (i := 2) sc__law_variance.nd rfl (Or.inl rfl) (pe_tup (pa_cons pe_int (pa_cons pe_int pa_nil))))
      (pss_cons (ps_for PassesOwn.never rfl (pi_range1 (by rfl) T.z_range (pa_cons (pe_callB (id := "len") call_len_seq (by rfl) T.z_len (by decide +kernel) (pa_cons (pv 0) pa_nil)) pa_nil)) (pg_name (i := 3) sc__law_variance.nd rfl (Or.inl rfl))
        (pss_one (ps_set (i := 2) sc__law_variance.nd rfl (Or.inl rfl) (pe_call (ok__law_plus T) (hr.mono (by decide)) (by rfl) T.g__law_plus T.F__law_plus.kp T.b__law_plus .nil pass0 (pa_cons (pv 2) (pa_cons (pe_call (ok__law_low T) (hr.mono (by decide)) (by rfl) T.g__law_low T.F__law_low.kp T.b__law_low .nil pass0 (pa_cons (pe_ix ix_tup (pe_ix ix_list (pv 0) (pv 3) (fun _ _ => rfl)) pe_int (fun _ _ => rfl)) (pa_cons (pe_op op_mulW (pe_ix ix_tup (pe_ix ix_list (pv 0) (pv 3) (fun _ _ => rfl)) pe_int (fun _ _ => rfl)) (pe_ix ix_list (pv 1) (pv 3) (fun _ _ => rfl))) pa_nil))) pa_nil))))))
      (pss_one (ps_ret (pv 2))))), ?_⟩)
  try dsimp only [cxK, blkK, noxK, wishK]
  refine lsp_body (N := nm__law_variance) h (Nat.le_of_ble_eq_true rfl) fun xs q hn h => ?_
  clear hn
  obtain ⟨cs, ls, ns, rfl, ⟨h0, h1⟩, hq⟩ := h
  have hfz : ∀ r ∈ (cs.zip ns).map fun x => x.1 / (x.2 : Rat), Fz 720 40 r := fun r hr => by
    obtain ⟨x, hx, rfl⟩ := List.mem_map.mp hr
    have := List.of_mem_zip (a := x.1) (b := x.2) hx
    have n2 := h1.2 _ this.2
    exact fz_div (h0.2.2.1 _ this.1).1 n2.1 (by omega)
  have hsum := fz_sumOk hfz (by decide) (n := 4) (by rw [List.length_map, List.length_zip]; have := h0.2.1; omega) (by decide +kernel) (by decide +kernel)
  have h4 := h0.2.1
  refine ⟨⟨by rw [List.length_map]; omega, by rw [List.length_map]; omega⟩, fun i s => ∃ x3, s = [some (.fr (dFs cs)), some (.fr (dZs ns)), some (.fr (dF (rsum (((cs.zip ns).map fun x => x.1 / (x.2 : Rat)).take i)))), x3], ⟨none, rfl⟩, ?_, ?_⟩
  · rintro i d s hd ⟨x3, rfl⟩
    obtain ⟨hi, rfl⟩ := rngD_get hd
    rw [Int.zero_add]
    have hi : i < cs.length := by simpa using hi
    obtain ⟨c, hc⟩ : ∃ c, cs[i]? = some c := ⟨_, List.getElem?_eq_getElem hi⟩
    obtain ⟨n, hn⟩ : ∃ n, ns[i]? = some n := ⟨ns[i]'(by rw [h1.1, ← h0.1]; exact hi), List.getElem?_eq_getElem _⟩
    have cok := h0.2.2.1 c (List.mem_of_getElem? hc)
    have nok := h1.2 n (List.mem_of_getElem? hn)
    obtain ⟨k1, k2, k3, k4⟩ := low_ok cok.1 nok.1 (by omega)
    show (match atI (cs.map dF) (i : Int) with | some d => _ | none => False)
    rw [dFs_at hc]
    show (match atI (cs.map dF) (i : Int) with | some d => _ | none => False)
    rw [dFs_at hc]
    show (match atI (ns.map D.int) (i : Int) with | some d => _ | none => False)
    rw [dZs_at hn]
    refine ⟨k1, _, _, rfl, ⟨k2, k3, k4⟩, ?_⟩
    rw [div_is nok.1]
    refine ⟨_, _, rfl, ⟨hsum.2 i, szP (fz_div cok.1 nok.1 (by omega)) (by decide) (by decide) (by decide), trivial⟩, some (.fr (.int i)), ?_⟩
    rw [rsum_zip hc hn]
    rfl
  · rintro s ⟨x3, rfl⟩
    rw [List.take_of_length_le (by rw [List.length_map, List.length_zip, rngD_len, List.length_map]; omega)]
    exact hq

theorem term_one {c t : Rat} {i : Nat} (h0 : Fz 12 40 c) (h1 : PrOk t) (hi : i < 5) : c / ((1 + (i : Int) : Int) : Rat) + ((1 + (i : Int) : Int) : Rat) * t = trm c t (i + 1) ∧ Fz 5040 240 (trm c t (i + 1)) ∧ Sz LIM ((1 + (i : Int) : Int) : Rat) ∧ Sz LIM (c / ((1 + (i : Int) : Int) : Rat)) ∧ Sz LIM (((1 + (i : Int) : Int) : Rat) * t) := by
  refine ⟨?_, fz_trm h0 h1 (by omega) (by omega), szP (fz_intZ (B := 10) (by omega)) (by decide) (by decide) (by decide), szP (fz_div h0 (n := 1 + (i : Int)) (by omega) (by omega)) (by decide) (by decide) (by decide), szP ((fz_intZ (n := 1 + (i : Int)) (B := 10) (by omega)).mul h1) (by decide) (by decide) (by decide)⟩
  unfold trm
  rw [show (1 + (i : Int) : Int) = ((i + 1 : Nat) : Int) by omega]
theorem Bd_is {cs : List Rat} {ls : List Int} {p : Int} {t : Rat} : ((0 - p : Int) : Rat) * t + rsum ((cs.zip ls).map fun x => leastT x.1 t x.2) = Bd cs ls p t := by
  unfold Bd
  rw [show ((0 - p : Int) : Rat) = -(p : Rat) by rw [Int.zero_sub, Rat.intCast_neg]]
  grind
theorem ok__law_bound (T : Txt K mg) : FnOk P w K mg base CX0 3 T.f__law_bound T.fd__law_bound ["_law_costs", "_law_limits", "_law_places", "_law_price"] (sp__law_bound K) := by
  refine T.F__law_bound.ok sc__law_bound (fun vs H Q E h => lsp_len h) (fun cdv A outer s H vs Q E hr h => ⟨_, (pss_cons (ps_set (i := 4) sc__law_bound.nd rfl (Or.inl rfl) (pe_call (ok__law_times T) (hr.mono (by decide)) (by rfl) T.g__law_times T.F__law_times.kp T.b__law_times .nil pass0 (pa_cons (pe_tup (pa_cons (pe_op op_sub pe_int (pv 2)) (pa_cons pe_int pa_nil))) (pa_cons (pv 3) pa_nil))))
      (pss_cons (ps_for PassesOwn.never rfl (pi_range1 (by rfl) T.z_range (pa_cons (pe_callB (id := "len") call_len_seq (by rfl) T.z_len (by decide +kernel) (pa_cons (pv 0) pa_nil)) pa_nil)) (pg_name (i := 5) sc__law_bound.nd rfl (Or.inl rfl))
        (pss_cons (ps_set (i := 6) sc__law_bound.nd rfl (Or.inl rfl) pe_non)
        (pss_cons (ps_for PassesOwn.never rfl (pi_range2 (by rfl) T.z_range (pa_cons pe_int (pa_cons (pe_op op_add (pe_ix ix_list (pv 1) (pv 5) (fun _ _ => rfl)) pe_int) pa_nil))) (pg_name (i := 7) sc__law_bound.nd rfl (Or.inl rfl))
          (pss_cons (ps_set (i := 8) sc__law_bound.nd rfl (Or.inl rfl) (pe_call (ok__law_plus T) (hr.mono (by decide)) (by rfl) T.g__law_plus T.F__law_plus.kp T.b__law_plus .nil pass0 (pa_cons (pe_call (ok__law_low T) (hr.mono (by decide)) (by rfl) T.g__law_low T.F__law_low.kp T.b__law_low .nil pass0 (pa_cons (pe_ix ix_tup (pe_ix ix_list (pv 0) (pv 5) (fun _ _ => rfl)) pe_int (fun _ _ => rfl)) (pa_cons (pe_op op_mulW (pe_ix ix_tup (pe_ix ix_list (pv 0) (pv 5) (fun _ _ => rfl)) pe_int (fun _ _ => rfl)) (pv 7)) pa_nil))) (pa_cons (pe_call (ok__law_times T) (hr.mono (by decide)) (by rfl) T.g__law_times T.F__law_times.kp T.b__law_times .nil pass0 (pa_cons (pe_tup (pa_cons (pv 7) (pa_cons pe_int pa_nil))) (pa_cons (pv 3) pa_nil))) pa_nil))))
          (pss_one (ps_if (PW.pt (pw_or (pt_cmpR op_isN (pv 6) pe_non (nomark _)) (pw_or1 (pt_val (pe_call (ok__law_less T) (hr.mono (by decide)) (by rfl) T.g__law_less T.F__law_less.kp T.b__law_less .nil pass0 (pa_cons (pv 8) (pa_cons (pv 6) pa_nil)))))))
            (pss_one (ps_set (i := 6) sc__law_bound.nd rfl (Or.inl rfl) (pv 8)))
            pss_nil))))
        (pss_one (ps_set (i := 4) sc__law_bound.nd rfl (Or.inl rfl) (pe_call (ok__law_plus T) (hr.mono (by decide)) (by rfl) T.g__law_plus T.F__law_plus.kp T.b__law_plus .nil pass0 (pa_cons (pv 4) (pa_cons (pv 6) pa_nil))))))))
      (pss_one (ps_ret (pv 4))))), ?_⟩)
  try dsimp only [cxK, blkK, noxK, wishK]
  refine lsp_body (N := nm__law_bound) h (Nat.le_of_ble_eq_true rfl) fun xs q hn h => ?_
  clear hn
  obtain ⟨cs, ls, p, t, rfl, ⟨h0, h1, h2⟩, hq⟩ := h
  have h4 := h0.2.1
  have hlz : ((cs.zip ls).map fun x => leastT x.1 t x.2).length ≤ 4 := by rw [List.length_map, List.length_zip]; omega
  have hfz : ∀ r ∈ (cs.zip ls).map fun x => leastT x.1 t x.2, Fz 5040 240 r := fun r hr => by
    obtain ⟨x, hx, rfl⟩ := List.mem_map.mp hr
    have := List.of_mem_zip (a := x.1) (b := x.2) hx
    have l2 := h0.2.2.2 _ this.2
    exact fz_least (h0.2.2.1 _ this.1).1 h2 l2.1 l2.2
  have st : Sz LIM t := szP h2 (by decide) (by decide) (by decide)
  have fp : Fz 5040 4000 (((0 - p : Int) : Rat) * t) := (fz_intZ (B := 100) (by omega)).mul h2
  have facc : ∀ i, Fz 5040 5000 (((0 - p : Int) : Rat) * t + rsum (((cs.zip ls).map fun x => leastT x.1 t x.2).take i)) := fun i => by
    refine (fp.add (Fz.rsum (rs := ((cs.zip ls).map fun x => leastT x.1 t x.2).take i) (B := 240) fun r hr => hfz r (List.mem_of_mem_take hr))).up (Nat.dvd_refl _) ?_
    have : (((cs.zip ls).map fun x => leastT x.1 t x.2).take i).length ≤ 4 := Nat.le_trans (List.length_take_le' ..) hlz
    omega
  refine ⟨((0 - p : Int) : Rat), t, rfl, ⟨szP (fz_intZ (B := 100) (by omega)) (by decide) (by decide) (by decide), st, trivial⟩, ?_⟩
  refine ⟨⟨by rw [List.length_map]; omega, by rw [List.length_map]; omega⟩, fun i s => ∃ x5 x6 x7 x8, s = [some (.fr (dFs cs)), some (.fr (dZs ls)), some (.fr (.int p)), some (.fr (dF t)), some (.fr (dF (((0 - p : Int) : Rat) * t + rsum (((cs.zip ls).map fun x => leastT x.1 t x.2).take i)))), x5, x6, x7, x8], ⟨none, none, none, none, ?_⟩, ?_, ?_⟩
  · rw [List.take_zero, rsum_nil, Rat.add_zero]
    rfl
  · rintro i d s hd ⟨x5, x6, x7, x8, rfl⟩
    obtain ⟨hi, rfl⟩ := rngD_get hd
    rw [Int.zero_add]
    have hi : i < cs.length := by simpa using hi
    obtain ⟨c, hc⟩ : ∃ c, cs[i]? = some c := ⟨_, List.getElem?_eq_getElem hi⟩
    obtain ⟨l, hl⟩ : ∃ l, ls[i]? = some l := ⟨ls[i]'(by rw [← h0.1]; exact hi), List.getElem?_eq_getElem _⟩
    have cok := h0.2.2.1 c (List.mem_of_getElem? hc)
    have lok := h0.2.2.2 l (List.mem_of_getElem? hl)
    obtain ⟨m, rfl⟩ : ∃ m : Nat, l = m := ⟨l.toNat, by omega⟩
    have he : ((m : Int) + 1 - 1).toNat = m := by omega
    show (match atI (ls.map D.int) (i : Int) with | some d => _ | none => False)
    rw [dZs_at hl]
    refine ⟨⟨by decide, by decide, by omega, by omega⟩, fun j s => ∃ x7 x8, s = [some (.fr (dFs cs)), some (.fr (dZs ls)), some (.fr (.int p)), some (.fr (dF t)), some (.fr (dF (((0 - p : Int) : Rat) * t + rsum (((cs.zip ls).map fun x => leastT x.1 t x.2).take i)))), some (.fr (.int i)), some (.fr (dRo (ltm c t j))), x7, x8], ⟨_, _, rfl⟩, ?_, ?_⟩
    · rintro j d s hd ⟨x7, x8, rfl⟩
      obtain ⟨hj, rfl⟩ := rngD_get hd
      rw [he] at hj
      obtain ⟨eX, ft, sn, sc, sm⟩ := term_one (t := t) (i := j) cok.1 h2 (by omega)
      obtain ⟨k1, k2, k3, k4⟩ := low_ok cok.1 (n := 1 + (j : Int)) (by omega) (by omega)
      show (match atI (cs.map dF) (i : Int) with | some d => _ | none => False)
      rw [dFs_at hc]
      show (match atI (cs.map dF) (i : Int) with | some d => _ | none => False)
      rw [dFs_at hc]
      refine ⟨k1, _, _, rfl, ⟨k2, k3, k4⟩, ?_⟩
      rw [div_is (by omega)]
      refine ⟨_, t, rfl, ⟨sn, st, trivial⟩, _, _, rfl, ⟨sc, sm, trivial⟩, ?_⟩
      cases e : ltm c t j with
      | none =>
        have es : ltm c t (j + 1) = some (c / ((1 + (j : Int) : Int) : Rat) + ((1 + (j : Int) : Int) : Rat) * t) := by
          rw [ltm, e, eX]
        exact ⟨fun _ => ⟨_, _, by rw [es]; rfl⟩, fun hz => by cases hz⟩
      | some b =>
        have fb := ltm_fz cok.1 h2 j (by omega) b e
        rw [← eX] at ft
        refine ⟨fun hz => (by cases hz), fun _ => ⟨_, _, rfl, ⟨szP ft (by decide) (by decide) (by decide), szP fb (by decide) (by decide) (by decide)⟩, fun hz => ?_, fun hz => ?_⟩⟩
        · have es : ltm c t (j + 1) = some (c / ((1 + (j : Int) : Int) : Rat) + ((1 + (j : Int) : Int) : Rat) * t) := by
            rw [ltm, e, eX]
            have hz := of_decide_eq_true hz
            change c / ((1 + (j : Int) : Int) : Rat) + ((1 + (j : Int) : Int) : Rat) * t < b at hz
            rw [eX] at hz
            exact if_pos hz
          exact ⟨_, _, by rw [es]; rfl⟩
        · have es : ltm c t (j + 1) = some b := by
            rw [ltm, e]
            have hz := of_decide_eq_false hz
            change ¬ c / ((1 + (j : Int) : Int) : Rat) + ((1 + (j : Int) : Int) : Rat) * t < b at hz
            rw [eX] at hz
            exact if_neg hz
          exact ⟨_, _, by rw [es]; rfl⟩
    · rintro s ⟨x7, x8, rfl⟩
      rw [show (rngD 1 ((m : Int) + 1 - 1).toNat).length = m by rw [he]; simp [rngD]]
      have fl := fz_least cok.1 h2 lok.1 lok.2
      obtain ⟨k, rfl⟩ : ∃ k, m = k + 1 := ⟨m - 1, by omega⟩
      obtain ⟨r, e⟩ := ltm_some (c := c) (t := t) k
      have er : leastT c t ((k + 1 : Nat) : Int) = r := by unfold leastT; rw [Int.toNat_natCast, e]; rfl
      rw [er] at fl
      rw [e]
      refine ⟨_, r, rfl, ⟨szP (facc i) (by decide) (by decide) (by decide), szP fl (by decide) (by decide) (by decide), trivial⟩, some (.fr (.int i)), some (.fr (dF r)), x7, x8, ?_⟩
      have : rsum (((cs.zip ls).map fun x => leastT x.1 t x.2).take (i + 1)) = rsum (((cs.zip ls).map fun x => leastT x.1 t x.2).take i) + r := by rw [rsum_zip hc hl, er]
      rw [this, ← Rat.add_assoc]
      rfl
  · rintro s ⟨x5, x6, x7, x8, rfl⟩
    rw [List.take_of_length_le (by rw [List.length_map, List.length_zip, rngD_len, List.length_map]; omega), Bd_is]
    exact hq
theorem allN_len : ∀ (ls : List Int), (∀ l ∈ ls, 1 ≤ l ∧ l ≤ 5) → ∀ fd : List (List Int), (ls.foldl stepD fd).length ≤ 5 ^ ls.length * fd.length
  | [], _, fd => by simp
  | l :: r, h, fd => by
    have h1 := allN_len r (fun x hx => h x (List.mem_cons_of_mem _ hx)) (stepD fd l)
    have h2 : (stepD fd l).length = fd.length * l.toNat := flat_len fun o _ => by rw [List.length_map, List.length_range]
    have h3 := (h l List.mem_cons_self).2
    rw [List.foldl_cons, List.length_cons, Nat.pow_succ, Nat.mul_assoc]
    refine Nat.le_trans h1 (Nat.mul_le_mul_left _ ?_)
    rw [h2, Nat.mul_comm]
    exact Nat.mul_le_mul_right _ (by omega)
theorem allN_le {ls : List Int} (h0 : ls.length ≤ 4) (h1 : ∀ l ∈ ls, 1 ≤ l ∧ l ≤ 5) (i : Nat) : (allN (ls.take i)).length ≤ 625 := by
  have := allN_len (ls.take i) (fun l hl => h1 l (List.mem_of_mem_take hl)) [[]]
  have h2 : 5 ^ (ls.take i).length ≤ 5 ^ 4 := Nat.pow_le_pow_right (by decide) (by rw [List.length_take]; omega)
  rw [List.length_singleton, Nat.mul_one] at this
  exact Nat.le_trans this h2
theorem allN_snoc {ls : List Int} {i : Nat} {l : Int} (h : ls[i]? = some l) : allN (ls.take (i + 1)) = stepD (allN (ls.take i)) l := by
  unfold allN
  rw [List.take_add_one, h, Option.toList_some, List.foldl_append]
  rfl
def partsD (A : List (List Int)) (l : Int) (j : Nat) : List (List Int) := (A.take j).flatMap fun o => (List.range l.toNat).map fun (k : Nat) => o ++ [(k : Int) + 1]
theorem parts_step {A : List (List Int)} {l : Int} {j : Nat} {o : List Int} (h : A[j]? = some o) : partsD A l (j + 1) = partsD A l j ++ (List.range l.toNat).map fun (k : Nat) => o ++ [(k : Int) + 1] := by
  unfold partsD
  rw [List.take_add_one, h, Option.toList_some, List.flatMap_append, List.flatMap_singleton]
theorem parts_len {ls : List Int} {i : Nat} {l : Int} (h0 : ls.length ≤ 4) (h1 : ∀ l ∈ ls, 1 ≤ l ∧ l ≤ 5) (hl : l ≤ 5) (j : Nat) : (partsD (allN (ls.take i)) l j).length ≤ 3125 := by
  have h2 : (partsD (allN (ls.take i)) l j).length = ((allN (ls.take i)).take j).length * l.toNat := flat_len fun o _ => by rw [List.length_map, List.length_range]
  have h3 := allN_le h0 h1 i
  rw [h2]
  exact Nat.le_trans (Nat.mul_le_mul (show _ ≤ 625 by rw [List.length_take]; omega) (show l.toNat ≤ 5 by omega)) (by decide)
theorem allN_mlen : ∀ (ls : List Int) (fd : List (List Int)) (n : Nat), (∀ o ∈ fd, o.length = n) → ∀ o ∈ ls.foldl stepD fd, o.length = n + ls.length
  | [], fd, n, h, o, ho => h o ho
  | l :: r, fd, n, h, o, ho => by
    rw [List.foldl_cons] at ho
    have := allN_mlen r (stepD fd l) (n + 1) (fun o ho => by
      obtain ⟨x, hx, hm⟩ := List.mem_flatMap.mp ho
      obtain ⟨k, _, rfl⟩ := List.mem_map.mp hm
      rw [List.length_append, h x hx]; rfl) o ho
    rw [this, List.length_cons]; omega
theorem ok__law_deals (T : Txt K mg) : FnOk P w K mg base CX0 1 T.f__law_deals T.fd__law_deals ["_law_limits", "_law_places"] (sp__law_deals K) := by
  refine T.F__law_deals.ok sc__law_deals (fun vs H Q E h => lsp_len h) (fun cdv A outer s H vs Q E hr h => ⟨_, (pss_cons (ps_set (i := 2) sc__law_deals.nd rfl (Or.inl rfl) (pe_lst (pa_cons (pe_lst pa_nil) pa_nil)))
      (pss_cons (ps_for PassesOwn.never rfl (pi_list (pv 0)) (pg_name (i := 3) sc__law_deals.nd rfl (Or.inl rfl))
        (pss_cons (ps_set (i := 4) sc__law_deals.nd rfl (Or.inl rfl) (pe_lst pa_nil))
        (pss_cons (ps_for PassesOwn.never rfl (pi_list (pv 2)) (pg_name (i := 5) sc__law_deals.nd rfl (Or.inr rfl))
          (pss_one (ps_set (i := 4) sc__law_deals.nd rfl (Or.inl rfl) (pe_op op_cat (pv 4) (pe_lc (own := [("_law_number", 6)]) (g := gName 6) rfl sc__law_deals.nd (pi_range2 (by rfl) T.z_range (pa_cons pe_int (pa_cons (pe_op op_add (pv 3) pe_int) pa_nil))) (blkOk_by (own := [("_law_number", 6)]) (N := nm__law_deals) (sc := defScope s__law_deals) (by decide +kernel)) (fun _ _ _ _ _ => pg_name (i := 6) sc__law_deals.nd rfl (Or.inl rfl)) (fun _ _ _ _ _ => pts_nil) (fun _ _ _ _ _ => (pe_op op_cat (pv 5) (pe_lst (pa_cons (pv 6) pa_nil)))))))))
        (pss_one (ps_set (i := 2) sc__law_deals.nd rfl (Or.inl rfl) (pv 4))))))
      (pss_one (ps_ret (pe_lc (own := [("_law_one", 5)]) (g := gName 5) rfl sc__law_deals.nd (pi_list (pv 2)) (blkOk_by (own := [("_law_one", 5)]) (N := nm__law_deals) (sc := defScope s__law_deals) (by decide +kernel)) (fun _ _ _ _ _ => pg_name (i := 5) sc__law_deals.nd rfl (Or.inl rfl)) (fun _ _ _ _ _ => (pts_one (pt_cmpR op_eq (pe_callB (id := "sum") (sumk (K := K) rfl rfl) (by rfl) T.z_sum (by decide +kernel) (pa_cons (pv 5) pa_nil)) (pv 1) (nomark _)))) (fun _ _ _ _ _ => (pv 5))))))), ?_⟩)
  try dsimp only [cxK, blkK, noxK, wishK]
  refine lsp_body (N := nm__law_deals) h (Nat.le_of_ble_eq_true rfl) fun xs q hn h => ?_
  clear hn
  obtain ⟨ls, p, rfl, ⟨h0, h1⟩, hq⟩ := h
  refine ⟨fun i s => ∃ (x2 : S) (x3 x4 x5 x6 : Option S), s = [some (.fr (dZs ls)), some (.fr (.int p)), some x2, x3, x4, x5, x6] ∧ (x2 = .ow false (.lst ((allN (ls.take i)).map dZs)) ∨ x2 = .fr (.lst ((allN (ls.take i)).map dZs))), ⟨_, _, _, _, _, rfl, .inl rfl⟩, ?_, ?_⟩
  · rintro i d s hd ⟨x2, x3, x4, x5, x6, rfl, hx⟩
    obtain ⟨l, rfl, hl⟩ := ints_at hd
    have lok := h1 l (List.mem_of_getElem? hl)
    rcases hx with rfl | rfl
    · refine ⟨fun j s => ∃ x5 x6, s = [some (.fr (dZs ls)), some (.fr (.int p)), some (.ow false (.lst ((allN (ls.take i)).map dZs))), some (.fr (.int l)), some (.ow false (.lst ((partsD (allN (ls.take i)) l j).map dZs))), x5, x6], ⟨_, _, rfl⟩, fun n s2 h => ?_, ?_, ?_⟩
      · obtain ⟨_, _, rfl⟩ := h
        rfl
      · rintro j d s hd ⟨x5, x6, rfl⟩
        obtain ⟨o, ho, rfl⟩ := map_at hd
        have step := parts_step (l := l) ho
        have hlen := parts_len (l := l) (ls := ls) (i := i) h0 h1 (by omega) (j + 1)
        rw [step, List.length_append, List.length_map, List.length_range] at hlen
        have he : (l + 1 - 1).toNat = l.toNat := by omega
        have hol := allN_mlen (ls.take i) [[]] 0 (fun o ho => by rw [List.mem_singleton.mp ho]; rfl) o (List.mem_of_getElem? ho)
        have hol2 : (ls.take i).length ≤ 4 := by rw [List.length_take]; omega
        refine ⟨⟨by decide, by decide, by omega, by omega⟩, by rw [rngD_len]; omega, fun k acc s => acc = (((List.range l.toNat).map fun (k : Nat) => o ++ [(k : Int) + 1]).map dZs).take k ∧ s = [some (.fr (dZs ls)), some (.fr (.int p)), some (.ow false (.lst ((allN (ls.take i)).map dZs))), some (.fr (.int l)), some (.fr (.lst ((partsD (allN (ls.take i)) l j).map dZs))), some (.fr (dZs o)), none], ⟨rfl, rfl⟩, ?_, ?_⟩
        · rintro k d acc s hd ⟨rfl, rfl⟩
          obtain ⟨hk, rfl⟩ := rngD_get hd
          rw [he] at hk
          refine ⟨Nat.le_trans (show (o.map D.int).length + 1 ≤ 200 by rw [List.length_map]; omega) (by decide), ?_, rfl⟩
          have e := map_step (f := dZs) (show ((List.range l.toNat).map fun (k : Nat) => o ++ [(k : Int) + 1])[k]? = some (o ++ [(k : Int) + 1]) by rw [List.getElem?_map, List.getElem?_range hk]; rfl)
          rw [← e]
          show _ ++ [D.lst (o.map D.int ++ [D.int (1 + (k : Int))])] = _ ++ [D.lst ((o ++ [(k : Int) + 1]).map D.int)]
          rw [List.map_append, Int.add_comm]
          rfl
        · rintro acc s ⟨rfl, rfl⟩
          rw [rngD_len, he, show (((List.range l.toNat).map fun (k : Nat) => o ++ [(k : Int) + 1]).map dZs).take l.toNat = ((List.range l.toNat).map fun (k : Nat) => o ++ [(k : Int) + 1]).map dZs from List.take_of_length_le (by rw [List.length_map, List.length_map, List.length_range]; omega)]
          refine ⟨Nat.le_trans (show _ ≤ 3125 by rw [List.length_map, List.length_map, List.length_map, List.length_range]; exact hlen) (by decide), some (.fr (dZs o)), none, ?_⟩
          rw [step, List.map_append]
          rfl
      · rintro s ⟨x5, x6, rfl⟩
        refine ⟨_, _, _, _, _, rfl, .inr ?_⟩
        rw [allN_snoc hl, List.length_map, show partsD (allN (ls.take i)) l (allN (ls.take i)).length = stepD (allN (ls.take i)) l by unfold partsD stepD; rw [List.take_length]]
        rfl
    · refine ⟨fun j s => ∃ x5 x6, s = [some (.fr (dZs ls)), some (.fr (.int p)), some (.fr (.lst ((allN (ls.take i)).map dZs))), some (.fr (.int l)), some (.ow false (.lst ((partsD (allN (ls.take i)) l j).map dZs))), x5, x6], ⟨_, _, rfl⟩, ?_, ?_⟩
      · rintro j d s hd ⟨x5, x6, rfl⟩
        obtain ⟨o, ho, rfl⟩ := map_at hd
        have step := parts_step (l := l) ho
        have hlen := parts_len (l := l) (ls := ls) (i := i) h0 h1 (by omega) (j + 1)
        rw [step, List.length_append, List.length_map, List.length_range] at hlen
        have he : (l + 1 - 1).toNat = l.toNat := by omega
        have hol := allN_mlen (ls.take i) [[]] 0 (fun o ho => by rw [List.mem_singleton.mp ho]; rfl) o (List.mem_of_getElem? ho)
        have hol2 : (ls.take i).length ≤ 4 := by rw [List.length_take]; omega
        refine ⟨⟨by decide, by decide, by omega, by omega⟩, by rw [rngD_len]; omega, fun k acc s => acc = (((List.range l.toNat).map fun (k : Nat) => o ++ [(k : Int) + 1]).map dZs).take k ∧ s = [some (.fr (dZs ls)), some (.fr (.int p)), some (.fr (.lst ((allN (ls.take i)).map dZs))), some (.fr (.int l)), some (.fr (.lst ((partsD (allN (ls.take i)) l j).map dZs))), some (.fr (dZs o)), none], ⟨rfl, rfl⟩, ?_, ?_⟩
        · rintro k d acc s hd ⟨rfl, rfl⟩
          obtain ⟨hk, rfl⟩ := rngD_get hd
          rw [he] at hk
          refine ⟨Nat.le_trans (show (o.map D.int).length + 1 ≤ 200 by rw [List.length_map]; omega) (by decide), ?_, rfl⟩
          have e := map_step (f := dZs) (show ((List.range l.toNat).map fun (k : Nat) => o ++ [(k : Int) + 1])[k]? = some (o ++ [(k : Int) + 1]) by rw [List.getElem?_map, List.getElem?_range hk]; rfl)
          rw [← e]
          show _ ++ [D.lst (o.map D.int ++ [D.int (1 + (k : Int))])] = _ ++ [D.lst ((o ++ [(k : Int) + 1]).map D.int)]
          rw [List.map_append, Int.add_comm]
          rfl
        · rintro acc s ⟨rfl, rfl⟩
          rw [rngD_len, he, show (((List.range l.toNat).map fun (k : Nat) => o ++ [(k : Int) + 1]).map dZs).take l.toNat = ((List.range l.toNat).map fun (k : Nat) => o ++ [(k : Int) + 1]).map dZs from List.take_of_length_le (by rw [List.length_map, List.length_map, List.length_range]; omega)]
          refine ⟨Nat.le_trans (show _ ≤ 3125 by rw [List.length_map, List.length_map, List.length_map, List.length_range]; exact hlen) (by decide), some (.fr (dZs o)), none, ?_⟩
          rw [step, List.map_append]
          rfl
      · rintro s ⟨x5, x6, rfl⟩
        refine ⟨_, _, _, _, _, rfl, .inr ?_⟩
        rw [allN_snoc hl, List.length_map, show partsD (allN (ls.take i)) l (allN (ls.take i)).length = stepD (allN (ls.take i)) l by unfold partsD stepD; rw [List.take_length]]
        rfl
  · rintro s ⟨x2, x3, x4, x5, x6, rfl, hx⟩
    have hn := allN_le h0 h1 ls.length
    rw [List.length_map] at hx
    rw [List.take_length] at hn hx
    rcases hx with rfl | rfl
    · refine ⟨by rw [List.length_map]; omega, fun i acc s => acc = (((allN ls).take i).filter fun o => decide (isum o = p)).map dZs ∧ s = [some (.fr (dZs ls)), some (.fr (.int p)), some (.fr (.lst ((allN ls).map dZs))), x3, x4, none, x6], ⟨rfl, rfl⟩, ?_, ?_⟩
      · rintro i d acc s hd ⟨rfl, rfl⟩
        obtain ⟨o, ho, rfl⟩ := map_at hd
        have e := fm_take (p := fun o : List Int => decide (isum o = p)) (f := dZs) ho
        refine ⟨o, rfl, fun hz => ⟨?_, rfl⟩, fun hz => ⟨?_, rfl⟩⟩
        · rw [e, if_pos (show decide (isum o = p) = true from hz)]
          rfl
        · rw [e, if_neg (show ¬ decide (isum o = p) = true by rw [show decide (isum o = p) = false from hz]; decide), List.append_nil]
      · rintro acc s ⟨rfl, rfl⟩
        rw [List.length_map, List.take_length]
        exact hq
    · refine ⟨by rw [List.length_map]; omega, fun i acc s => acc = (((allN ls).take i).filter fun o => decide (isum o = p)).map dZs ∧ s = [some (.fr (dZs ls)), some (.fr (.int p)), some (.fr (.lst ((allN ls).map dZs))), x3, x4, none, x6], ⟨rfl, rfl⟩, ?_, ?_⟩
      · rintro i d acc s hd ⟨rfl, rfl⟩
        obtain ⟨o, ho, rfl⟩ := map_at hd
        have e := fm_take (p := fun o : List Int => decide (isum o = p)) (f := dZs) ho
        refine ⟨o, rfl, fun hz => ⟨?_, rfl⟩, fun hz => ⟨?_, rfl⟩⟩
        · rw [e, if_pos (show decide (isum o = p) = true from hz)]
          rfl
        · rw [e, if_neg (show ¬ decide (isum o = p) = true by rw [show decide (isum o = p) = false from hz]; decide), List.append_nil]
      · rintro acc s ⟨rfl, rfl⟩
        rw [List.length_map, List.take_length]
        exact hq

def NumL (ls ns : List Int) : Prop := ns.length = ls.length ∧ ∀ (i : Nat) (n l : Int), ns[i]? = some n → ls[i]? = some l → 1 ≤ n ∧ n ≤ l
theorem NumL.numZ {cs : List Rat} {ls ns : List Int} (h0 : Sta1 cs ls) (h : NumL ls ns) : NumZ ls ns := by
  refine ⟨h.1, fun n hn => ?_⟩
  obtain ⟨i, hi⟩ := List.getElem?_of_mem hn
  have hl : i < ls.length := by rw [← h.1]; exact (List.getElem?_eq_some_iff.mp hi).1
  have := h.2 i n _ hi (List.getElem?_eq_getElem hl)
  have := h0.2.2.2 _ (List.getElem_mem hl)
  omega
theorem nxt_ne {cs : List Rat} {ls ns : List Int} : ∀ {i j : Nat} {c : Rat} {l n : Int}, j < i → cs[j]? = some c → ls[j]? = some l → ns[j]? = some n → n < l → nxt cs ls ns i ≠ none
  | 0, j, c, l, n, h, _, _, _, _ => by omega
  | i + 1, j, c, l, n, h, h1, h2, h3, h4 => by
    by_cases hj : j = i
    · subst hj
      rw [nxt, h1, h2, h3]
      simp only
      rw [if_pos h4]
      split
      · simp
      · split <;> simp
    · have ih := nxt_ne (i := i) (by omega) h1 h2 h3 h4
      rw [nxt]
      split
      · split
        · split
          · simp
          · split <;> simp
        · exact ih
      · exact ih
theorem nxt_none {cs : List Rat} {ls ns : List Int} {i : Nat} (e : nxt cs ls ns i = none) {j : Nat} {c : Rat} {l n : Int} (h : j < i) (h1 : cs[j]? = some c) (h2 : ls[j]? = some l) (h3 : ns[j]? = some n) : ¬ n < l := fun h4 => nxt_ne h h1 h2 h3 h4 e
theorem nxt_some {cs : List Rat} {ls ns : List Int} : ∀ i k r, nxt cs ls ns i = some (k, r) → k < i ∧ (∃ c l n, cs[k]? = some c ∧ ls[k]? = some l ∧ ns[k]? = some n ∧ n < l ∧ r = fallQ c n) ∧
    ∀ j, j < i → ∀ c l n, cs[j]? = some c → ls[j]? = some l → ns[j]? = some n → n < l → fallQ c n ≤ r
  | 0, k, r, e => by cases e
  | i + 1, k, r, e => by
    have ih := nxt_some (cs := cs) (ls := ls) (ns := ns) i
    rw [nxt] at e
    split at e
    · rename_i c l n hc hl hn
      split at e
      · rename_i hlt
        split at e
        · rename_i e2
          cases e
          refine ⟨by omega, ⟨c, l, n, hc, hl, hn, hlt, rfl⟩, fun j hj c' l' n' h1 h2 h3 h4 => ?_⟩
          by_cases hji : j = i
          · subst hji
            rw [hc] at h1; rw [hn] at h3
            cases h1; cases h3
            exact Rat.le_refl
          · exact absurd e2 (nxt_ne (by omega) h1 h2 h3 h4)
        · rename_i b e2
          split at e
          · rename_i hb
            cases e
            obtain ⟨a1, a2, a3⟩ := ih b.1 b.2 e2
            refine ⟨by omega, ⟨c, l, n, hc, hl, hn, hlt, rfl⟩, fun j hj c' l' n' h1 h2 h3 h4 => ?_⟩
            by_cases hji : j = i
            · subst hji
              rw [hc] at h1; rw [hn] at h3
              cases h1; cases h3
              exact Rat.le_refl
            · exact Rat.le_trans (a3 j (by omega) c' l' n' h1 h2 h3 h4) (Rat.le_of_lt hb)
          · rename_i hb
            cases e
            obtain ⟨a1, a2, a3⟩ := ih k r e2
            refine ⟨by omega, a2, fun j hj c' l' n' h1 h2 h3 h4 => ?_⟩
            by_cases hji : j = i
            · subst hji
              rw [hc] at h1; rw [hn] at h3
              cases h1; cases h3
              exact Rat.not_lt.mp hb
            · exact a3 j (by omega) c' l' n' h1 h2 h3 h4
      · rename_i hlt
        obtain ⟨a1, a2, a3⟩ := ih k r e
        refine ⟨by omega, a2, fun j hj c' l' n' h1 h2 h3 h4 => ?_⟩
        by_cases hji : j = i
        · subst hji
          rw [hl] at h2; rw [hn] at h3
          cases h2; cases h3
          exact absurd h4 hlt
        · exact a3 j (by omega) c' l' n' h1 h2 h3 h4
    · rename_i hno
      obtain ⟨a1, a2, a3⟩ := ih k r e
      refine ⟨by omega, a2, fun j hj c' l' n' h1 h2 h3 h4 => ?_⟩
      by_cases hji : j = i
      · subst hji
        exact absurd h3 (by rw [h3]; exact fun _ => hno _ _ _ h1 h2 h3)
      · exact a3 j (by omega) c' l' n' h1 h2 h3 h4
theorem isum_set : ∀ {ns : List Int} {k : Nat} {n : Int}, ns[k]? = some n → isum (ns.set k (n + 1)) = isum ns + 1
  | m :: r, 0, n, h => by
    cases h
    unfold isum
    rw [List.set_cons_zero, List.sum_cons, List.sum_cons]
    omega
  | m :: r, k + 1, n, h => by
    have ih := isum_set (ns := r) (k := k) (n := n) (by simpa using h)
    unfold isum at ih ⊢
    rw [List.set_cons_succ, List.sum_cons, List.sum_cons, ih]
    omega
theorem isum_le : ∀ {ns ls : List Int}, ns.length = ls.length → (∀ (i : Nat) (n l : Int), ns[i]? = some n → ls[i]? = some l → n ≤ l) → isum ns ≤ isum ls
  | [], [], _, _ => Int.le_refl _
  | n :: r, l :: t, h, h1 => by
    have ih := isum_le (ns := r) (ls := t) (by simpa using h) fun i a b ha hb => h1 (i + 1) a b (by simpa using ha) (by simpa using hb)
    have := h1 0 n l rfl rfl
    unfold isum at ih ⊢
    rw [List.sum_cons, List.sum_cons]
    omega
theorem isum_rep : ∀ n : Nat, isum (List.replicate n 1) = n
  | 0 => rfl
  | n + 1 => by
    have ih := isum_rep n
    unfold isum at ih ⊢
    rw [List.replicate_succ, List.sum_cons, ih]
    omega
theorem numL_rep {cs : List Rat} {ls : List Int} (h0 : Sta1 cs ls) : NumL ls (List.replicate ls.length 1) := by
  refine ⟨List.length_replicate, fun i n l h1 h2 => ?_⟩
  have := h0.2.2.2 l (List.mem_of_getElem? h2)
  have := (List.getElem?_eq_some_iff.mp h1)
  obtain ⟨hi, e⟩ := this
  rw [List.getElem_replicate] at e
  omega
/-- the prices of the last places -/
def GInv (cs : List Rat) (ls ns : List Int) (r : Rat) : Prop :=
  (∀ (j : Nat) (c : Rat) (l n : Int), cs[j]? = some c → ls[j]? = some l → ns[j]? = some n → (n < l → fallQ c n ≤ r) ∧ (1 < n → r ≤ fallQ c (n - 1)))
theorem one_le {n : Int} (h : 1 ≤ n) : (1 : Rat) ≤ (n : Rat) := by
  have := Rat.intCast_le_intCast.mpr h
  exact this
theorem inv_nn {x : Rat} (h : 0 < x) : 0 ≤ x⁻¹ := by
  rcases Rat.le_total (a := 0) (b := x⁻¹) with g | g
  · exact g
  · have a := Rat.mul_nonneg (Rat.le_of_lt h) (show 0 ≤ -x⁻¹ by grind)
    have b := Rat.mul_inv_cancel x (fun e => by rw [e] at h; exact absurd h (by decide))
    grind
theorem fall_mono {c : Rat} {n : Int} (hc : 0 ≤ c) (hn : 1 ≤ n) : fallQ c (n + 1) ≤ fallQ c n := by
  unfold fallQ
  rw [show (n + 1 + 1 : Int) = n + 2 by omega, Rat.intCast_add, Rat.intCast_add, show ((1 : Int) : Rat) = 1 from rfl, show ((2 : Int) : Rat) = 2 from rfl]
  have h1 := one_le hn
  generalize (n : Rat) = x at h1 ⊢
  have a0 : (0 : Rat) ≤ x := Rat.le_trans (by decide) h1
  have x1 : x ≠ 0 := fun e => by rw [e] at h1; exact absurd h1 (by decide)
  have x2 : x + 1 ≠ 0 := by intro e; grind
  have x3 : x + 2 ≠ 0 := by intro e; grind
  have i1 : 0 ≤ x⁻¹ := inv_nn (by grind)
  have i2 : 0 ≤ (x + 1)⁻¹ := inv_nn (by grind)
  have i3 : 0 ≤ (x + 2)⁻¹ := inv_nn (by grind)
  have hp := Rat.mul_nonneg (Rat.mul_nonneg (Rat.mul_nonneg hc i1) i2) i3
  have e : c / x - c / (x + 1) - (c / (x + 1) - c / (x + 2)) = 2 * (c * x⁻¹ * (x + 1)⁻¹ * (x + 2)⁻¹) := by
    rw [Rat.div_def, Rat.div_def, Rat.div_def]
    have m1 := Rat.mul_inv_cancel x x1
    have m2 := Rat.mul_inv_cancel (x + 1) x2
    have m3 := Rat.mul_inv_cancel (x + 2) x3
    grind
  grind
theorem trm_step {c t : Rat} {n : Nat} : trm c t n - trm c t (n + 1) = fallQ c (n : Int) - t := by
  unfold trm fallQ
  rw [show ((n + 1 : Nat) : Int) = (n : Int) + 1 from rfl, Rat.intCast_add, show ((1 : Int) : Rat) = 1 from rfl]
  generalize ((n : Int) : Rat) = x
  grind
theorem fall_anti {c : Rat} (hc : 0 ≤ c) {n : Nat} (hn : 1 ≤ n) : ∀ d : Nat, fallQ c ((n + d : Nat) : Int) ≤ fallQ c (n : Int)
  | 0 => Rat.le_refl
  | d + 1 => by
    refine Rat.le_trans ?_ (fall_anti hc hn d)
    have := fall_mono (c := c) (n := ((n + d : Nat) : Int)) hc (by omega)
    exact this
theorem trm_up {c t : Rat} (hc : 0 ≤ c) {n : Nat} (hn : 1 ≤ n) (h : fallQ c (n : Int) ≤ t) : ∀ d : Nat, trm c t n ≤ trm c t (n + d)
  | 0 => Rat.le_refl
  | d + 1 => by
    have ih := trm_up hc hn h d
    have a := fall_anti hc hn d
    have b := trm_step (c := c) (t := t) (n := n + d)
    rw [show n + (d + 1) = n + d + 1 by omega]
    grind
theorem trm_down {c t : Rat} (hc : 0 ≤ c) {n : Nat} (hn : 1 ≤ n) : ∀ d : Nat, t ≤ fallQ c ((n + d : Nat) : Int) → trm c t (n + d + 1) ≤ trm c t n
  | 0, h => by
    have b := trm_step (c := c) (t := t) (n := n)
    have h : t ≤ fallQ c (n : Int) := h
    show trm c t (n + 1) ≤ trm c t n
    grind
  | d + 1, h => by
    have ih := trm_down hc hn d (Rat.le_trans h (fall_mono (n := ((n + d : Nat) : Int)) hc (by omega)))
    have b := trm_step (c := c) (t := t) (n := n + d + 1)
    have h : t ≤ fallQ c ((n + d + 1 : Nat) : Int) := h
    rw [show n + (d + 1) + 1 = n + d + 1 + 1 by omega]
    grind
theorem ltm_le {c t : Rat} : ∀ k r, ltm c t k = some r → (∀ n, 1 ≤ n → n ≤ k → r ≤ trm c t n) ∧ ∃ n, 1 ≤ n ∧ n ≤ k ∧ r = trm c t n
  | 0, r, e => by cases e
  | k + 1, r, e => by
    have ih := ltm_le (c := c) (t := t) k
    rw [ltm] at e
    split at e
    · rename_i e2
      cases e
      have hk : k = 0 := by
        cases k with
        | zero => rfl
        | succ m =>
          obtain ⟨r, e3⟩ := ltm_some (c := c) (t := t) m
          rw [e2] at e3
          cases e3
      subst hk
      refine ⟨fun n h1 h2 => ?_, 1, by omega, by omega, rfl⟩
      have : n = 1 := by omega
      rw [this]
      exact Rat.le_refl
    · rename_i b e2
      obtain ⟨a1, m, a2, a3, a4⟩ := ih b e2
      split at e
      · rename_i hb
        cases e
        refine ⟨fun n h1 h2 => ?_, k + 1, by omega, by omega, rfl⟩
        by_cases hn : n = k + 1
        · rw [hn]; exact Rat.le_refl
        · exact Rat.le_trans (Rat.le_of_lt hb) (a1 n h1 (by omega))
      · rename_i hb
        cases e
        refine ⟨fun n h1 h2 => ?_, m, a2, by omega, a4⟩
        by_cases hn : n = k + 1
        · rw [hn]; exact Rat.not_lt.mp hb
        · exact a1 n h1 (by omega)
theorem least_le {c t : Rat} {l n : Int} (h1 : 1 ≤ n) (h2 : n ≤ l) : leastT c t l ≤ c / (n : Rat) + (n : Rat) * t := by
  obtain ⟨k, hk⟩ : ∃ k : Nat, l.toNat = k + 1 := ⟨l.toNat - 1, by omega⟩
  obtain ⟨r, e⟩ := ltm_some (c := c) (t := t) k
  have := (ltm_le _ r e).1 n.toNat (by omega) (by omega)
  unfold leastT
  rw [hk, e]
  unfold trm at this
  rw [Int.toNat_of_nonneg (by omega)] at this
  exact this
theorem least_eq {c t : Rat} {l n : Int} (hc : 0 ≤ c) (h1 : 1 ≤ n) (h2 : n ≤ l) (h3 : n < l → fallQ c n ≤ t) (h4 : 1 < n → t ≤ fallQ c (n - 1)) : leastT c t l = c / (n : Rat) + (n : Rat) * t := by
  refine Rat.le_antisymm (least_le h1 h2) ?_
  obtain ⟨k, hk⟩ : ∃ k : Nat, l.toNat = k + 1 := ⟨l.toNat - 1, by omega⟩
  obtain ⟨r, e⟩ := ltm_some (c := c) (t := t) k
  obtain ⟨m, m1, m2, rfl⟩ := (ltm_le _ r e).2
  unfold leastT
  rw [hk, e]
  obtain ⟨z, rfl⟩ : ∃ z : Nat, n = z := ⟨n.toNat, by omega⟩
  show trm c t z ≤ trm c t m
  by_cases hm : z ≤ m
  · by_cases hz : z = m
    · rw [hz]; exact Rat.le_refl
    · have := trm_up (t := t) hc (n := z) (by omega) (h3 (by omega)) (m - z)
      rw [show z + (m - z) = m by omega] at this
      exact this
  · have := trm_down (t := t) hc (n := m) (by omega) (z - m - 1) (by
      rw [show ((m + (z - m - 1) : Nat) : Int) = (z : Int) - 1 by omega]
      exact h4 (by omega))
    rw [show m + (z - m - 1) + 1 = z by omega] at this
    exact this
theorem zsum_le {f : Rat → Int → Rat} {g : Rat → Int → Rat} : ∀ {cs : List Rat} {ls ns : List Int}, cs.length = ls.length → ns.length = ls.length → (∀ (j : Nat) (c : Rat) (l n : Int), cs[j]? = some c → ls[j]? = some l → ns[j]? = some n → f c l ≤ g c n) →
    rsum ((cs.zip ls).map fun x => f x.1 x.2) ≤ rsum ((cs.zip ns).map fun x => g x.1 x.2)
  | [], [], [], _, _, _ => Rat.le_refl
  | c :: cs, l :: ls, n :: ns, h1, h2, h => by
    have ih := zsum_le (f := f) (g := g) (cs := cs) (ls := ls) (ns := ns) (by simpa using h1) (by simpa using h2) fun j c l n a b d => h (j + 1) c l n (by simpa using a) (by simpa using b) (by simpa using d)
    have h0 := h 0 c l n rfl rfl rfl
    simp only [List.zip_cons_cons, List.map_cons, rsum_cons]
    grind
theorem zsum_eq {f : Rat → Int → Rat} {g : Rat → Int → Rat} : ∀ {cs : List Rat} {ls ns : List Int}, cs.length = ls.length → ns.length = ls.length → (∀ (j : Nat) (c : Rat) (l n : Int), cs[j]? = some c → ls[j]? = some l → ns[j]? = some n → f c l = g c n) →
    rsum ((cs.zip ls).map fun x => f x.1 x.2) = rsum ((cs.zip ns).map fun x => g x.1 x.2)
  | [], [], [], _, _, _ => rfl
  | c :: cs, l :: ls, n :: ns, h1, h2, h => by
    have ih := zsum_eq (f := f) (g := g) (cs := cs) (ls := ls) (ns := ns) (by simpa using h1) (by simpa using h2) fun j c l n a b d => h (j + 1) c l n (by simpa using a) (by simpa using b) (by simpa using d)
    have h0 := h 0 c l n rfl rfl rfl
    simp only [List.zip_cons_cons, List.map_cons, rsum_cons]
    rw [h0, ih]
theorem zsum_var {t : Rat} : ∀ {cs : List Rat} {ns : List Int}, cs.length = ns.length → rsum ((cs.zip ns).map fun x => x.1 / (x.2 : Rat) + (x.2 : Rat) * t) = varQ cs ns + ((isum ns : Int) : Rat) * t
  | [], [], _ => by
    show (0 : Rat) = 0 + ((0 : Int) : Rat) * t
    rw [show ((0 : Int) : Rat) = 0 from rfl]
    grind
  | c :: cs, n :: ns, h => by
    have ih := zsum_var (t := t) (cs := cs) (ns := ns) (by simpa using h)
    unfold varQ isum at ih ⊢
    simp only [List.zip_cons_cons, List.map_cons, rsum_cons, List.sum_cons]
    rw [ih, Rat.intCast_add]
    grind
theorem bd_le {cs : List Rat} {ls ns : List Int} {p : Int} {t : Rat} (h0 : Sta1 cs ls) (h : NumL ls ns) (hs : isum ns = p) : Bd cs ls p t ≤ varQ cs ns := by
  have a := zsum_le (f := fun c l => leastT c t l) (g := fun c n => c / (n : Rat) + (n : Rat) * t) h0.1 h.1 fun j c l n _ h2 h3 => least_le (h.2 j n l h3 h2).1 (h.2 j n l h3 h2).2
  rw [zsum_var (by rw [h.1]; exact h0.1), hs] at a
  unfold Bd
  grind
theorem bd_eq {cs : List Rat} {ls ns : List Int} {p : Int} {t : Rat} (h0 : Sta1 cs ls) (h : NumL ls ns) (hs : isum ns = p) (hg : GInv cs ls ns t) : Bd cs ls p t = varQ cs ns := by
  have a := zsum_eq (f := fun c l => leastT c t l) (g := fun c n => c / (n : Rat) + (n : Rat) * t) h0.1 h.1 fun j c l n h1 h2 h3 => least_eq (h0.2.2.1 c (List.mem_of_getElem? h1)).2 (h.2 j n l h3 h2).1 (h.2 j n l h3 h2).2 (hg j c l n h1 h2 h3).1 (hg j c l n h1 h2 h3).2
  rw [zsum_var (by rw [h.1]; exact h0.1), hs] at a
  unfold Bd
  rw [a]
  grind
theorem grd_all {cs : List Rat} {ls : List Int} (h0 : Sta1 cs ls) : ∀ t : Nat, (ls.length : Int) + t ≤ isum ls →
    NumL ls (grd cs ls t).1 ∧ isum (grd cs ls t).1 = ls.length + t ∧ GInv cs ls (grd cs ls t).1 (grd cs ls t).2
  | 0, _ => by
    refine ⟨numL_rep h0, by rw [show (grd cs ls 0).1 = List.replicate ls.length 1 from rfl, isum_rep]; omega, fun j c l n h1 h2 h3 => ?_⟩
    have hj : j < cs.length := (List.getElem?_eq_some_iff.mp h1).1
    have h3 : (List.replicate ls.length (1 : Int))[j]? = some n := h3
    have e1 : n = 1 := by
      obtain ⟨hi, e⟩ := List.getElem?_eq_some_iff.mp h3
      rw [List.getElem_replicate] at e
      exact e.symm
    refine ⟨fun hlt => ?_, fun hgt => by omega⟩
    show fallQ c n ≤ (match nxt cs ls (List.replicate ls.length 1) cs.length with | none => 0 | some b => b.2)
    cases e : nxt cs ls (List.replicate ls.length 1) cs.length with
    | none => exact absurd hlt (nxt_none e hj h1 h2 h3)
    | some b => exact (nxt_some _ b.1 b.2 e).2.2 j hj c l n h1 h2 h3 hlt
  | t + 1, ht => by
    obtain ⟨i1, i2, i3⟩ := grd_all h0 t (by omega)
    cases e : nxt cs ls (grd cs ls t).1 cs.length with
    | none =>
      have hle : isum ls ≤ isum (grd cs ls t).1 := isum_le i1.1.symm fun i l n hl hn => by
        have hi : i < cs.length := by rw [h0.1]; exact (List.getElem?_eq_some_iff.mp hl).1
        have := nxt_none e hi (List.getElem?_eq_getElem hi) hl hn
        omega
      omega
    | some b =>
      obtain ⟨k, r⟩ := b
      obtain ⟨a1, ⟨c, l, n, hc, hl, hn, hlt, hr⟩, a3⟩ := nxt_some _ k r e
      have eg : grd cs ls (t + 1) = ((grd cs ls t).1.set k (n + 1), r) := by
        rw [grd, e]
        simp only
        rw [hn]
        rfl
      rw [eg]
      have hkl : k < (grd cs ls t).1.length := (List.getElem?_eq_some_iff.mp hn).1
      have cok := h0.2.2.1 c (List.mem_of_getElem? hc)
      have nok := i1.2 k n l hn hl
      refine ⟨⟨by rw [List.length_set]; exact i1.1, fun i m l' h1 h2 => ?_⟩, by rw [isum_set hn, i2]; omega, fun j c' l' m h1 h2 h3 => ?_⟩
      · rw [List.getElem?_set] at h1
        split at h1
        · rename_i hk
          subst hk
          cases h1
          rw [hl] at h2
          cases h2
          omega
        · exact i1.2 i m l' h1 h2
      · rw [List.getElem?_set] at h3
        have hj : j < cs.length := (List.getElem?_eq_some_iff.mp h1).1
        split at h3
        · rename_i hk
          subst hk
          cases h3
          rw [hl] at h2
          rw [hc] at h1
          cases h2
          cases h1
          refine ⟨fun _ => ?_, fun _ => ?_⟩
          · rw [hr]
            exact fall_mono cok.2 nok.1
          · rw [hr, show n + 1 - 1 = n by omega]
            exact Rat.le_refl
        · refine ⟨fun hlt' => a3 j hj c' l' m h1 h2 h3 hlt', fun hgt => ?_⟩
          refine Rat.le_trans ?_ ((i3 j c' l' m h1 h2 h3).2 hgt)
          rw [hr]
          exact (i3 k c l n hc hl hn).1 hlt

theorem ones_is (n : Nat) : (List.replicate n (D.int 1)) = (List.replicate n (1 : Int)).map D.int := by rw [List.map_replicate]
theorem dGrd_is (g : List Int × Rat) : dGrd g = .tup [.lst (g.1.map D.int), dF g.2] := rfl
theorem ixN_is {ns : List Int} {k : Nat} {n : Int} (h : ns[k]? = some n) : ixN (ns.map D.int).length (k : Int) = some k := by
  have hl := (List.getElem?_eq_some_iff.mp h).1
  unfold ixN
  rw [List.length_map]
  simp
  omega
theorem set_is {ns : List Int} {k : Nat} {n : Int} : (ns.map D.int).set k (.int n) = (ns.set k n).map D.int := by rw [List.map_set]
theorem rep_is : ∀ n : Nat, (List.replicate n [D.int 1]).flatten = (List.replicate n (1 : Int)).map D.int
  | 0 => rfl
  | n + 1 => by
    rw [List.replicate_succ, List.flatten_cons, rep_is n, List.replicate_succ, List.map_cons]
    rfl
theorem nxt_is {cs : List Rat} {ls : List Int} (h0 : Sta1 cs ls) {t : Nat} (ht : (ls.length : Int) + t < isum ls) : ∃ k r n, nxt cs ls (grd cs ls t).1 cs.length = some (k, r) ∧ (grd cs ls t).1[k]? = some n ∧ grd cs ls (t + 1) = ((grd cs ls t).1.set k (n + 1), r) := by
  obtain ⟨i1, i2, i3⟩ := grd_all h0 t (by omega)
  cases e : nxt cs ls (grd cs ls t).1 cs.length with
  | none =>
    have hle : isum ls ≤ isum (grd cs ls t).1 := isum_le i1.1.symm fun i l n hl hn => by
      have hi : i < cs.length := by rw [h0.1]; exact (List.getElem?_eq_some_iff.mp hl).1
      have := nxt_none e hi (List.getElem?_eq_getElem hi) hl hn
      omega
    omega
  | some b =>
    obtain ⟨k, r⟩ := b
    obtain ⟨a1, ⟨c, l, n, hc, hl, hn, hlt, hr⟩, a3⟩ := nxt_some _ k r e
    refine ⟨k, r, n, rfl, hn, ?_⟩
    rw [grd, e]
    simp only
    rw [hn]
    rfl
theorem ok_deal (T : Txt K mg) : FnOk P w K mg base (L2.CX P w) 5 T.f_deal T.fd_deal ["costs", "limits", "places"] (sp_deal K T.ad) := by
  refine T.F_deal.okX sc_deal (fun vs H Q E h => lsp_len h) (fun cdv A outer s H vs Q E hr h => ⟨_, (pss_cons (ps_if (pt_not (pt_chain op_le op_le (pe_callB (id := "len") call_len_seq (by rfl) T.z_len (by decide +kernel) (pa_cons (pv 1) pa_nil)) (pv 2) (pe_callB (id := "sum") (cr_sum rfl) (by rfl) T.z_sum (by decide +kernel) (pa_cons (pv 1) pa_nil))))
        (pss_one (ps_raise0 (W := (WK E)) (C := T.a_NoDeal) rfl (takesFn (takes_of rfl rfl rfl rfl)) (pmk_own0 PySem.F.excBase_ValueError T.x_NoDeal T.g_NoDeal T.kp_NoDeal (raises_own T.sb_NoDeal T.ty_NoDeal) rfl)))
        pss_nil)
      (pss_cons (ps_set (i := 3) sc_deal.nd rfl (Or.inl rfl) (pe_op op_rep (pe_lst (pa_cons pe_int pa_nil)) (pe_callB (id := "len") call_len_seq (by rfl) T.z_len (by decide +kernel) (pa_cons (pv 1) pa_nil))))
      (pss_cons (ps_set (i := 4) sc_deal.nd rfl (Or.inl rfl) (pe_call (ok_next_place T) (hr.mono (by decide)) (by rfl) T.g_next_place T.F_next_place.kp T.b_next_place .nil pass0 (pa_cons (pv 0) (pa_cons (pv 1) (pa_cons (pv 3) pa_nil)))))
      (pss_cut (ps_set (i := 5) sc_deal.nd rfl (Or.inl rfl) (pe_ifExp (pt_cmpR op_isN (pv 4) pe_non (nomark _)) (pe_tup (pa_cons pe_int (pa_cons pe_int pa_nil))) (pe_ix ix_tup (pv 4) pe_int (fun _ _ => rfl))))
      (pss_cons (ps_for (passes_of rfl) rfl (pi_range1 (by rfl) T.z_range (pa_cons (pe_op op_sub (pv 2) (pe_callB (id := "len") call_len_seq (by rfl) T.z_len (by decide +kernel) (pa_cons (pv 1) pa_nil))) pa_nil)) (pg_name (i := 6) sc_deal.nd rfl (Or.inl rfl))
        (pss_cons (ps_asg (pe_call (ok_next_place T) (hr.mono (by decide)) (by rfl) T.g_next_place T.F_next_place.kp T.b_next_place .nil pass0 (pa_cons (pv 0) (pa_cons (pv 1) (pa_cons (pv 3) pa_nil)))) (pg_tupk (K := K) (n := 2) rfl rfl (pgs_cons (pg_name (i := 7) sc_deal.nd rfl (Or.inl rfl)) (pgs_cons (pg_name (i := 5) sc_deal.nd rfl (Or.inl rfl)) pgs_nil))))
        (pss_one (ps_augS (pv 3) (pv 7) (get_list (K := K) rfl) pe_int ip_add set_list))))
      (pss_one (ps_ret (pe_tup (pa_cons (pv 3) (pa_cons (pv 5) pa_nil)))))))))), ?_⟩)
  try dsimp only [cxK, blkK, noxK, wishK]
  refine lsp_bodyX (N := nm_deal) h (Nat.le_of_ble_eq_true rfl) fun xs q e hn h => ?_
  clear hn
  obtain ⟨cs, ls, p, rfl, ⟨h0, h1⟩, hq, he⟩ := h
  have hl4 : ls.length ≤ 4 := by rw [← h0.1]; exact h0.2.1
  refine ⟨fun hz => ⟨ls, rfl, fun hy => ?_, fun hy => ?_⟩, fun hz => ?_⟩
  · have hz : decide (((ls.map D.int).length : Int) ≤ p) = true := hz
    rw [List.length_map] at hz
    have hz := of_decide_eq_true hz
    have hy : p ≤ isum ls := of_decide_eq_true hy
    have hq := hq ⟨hz, hy⟩
    obtain ⟨g1, g2, g3⟩ := grd_all h0 0 (by omega)
    refine ⟨by rw [List.length_map]; omega, by rw [List.length_map]; omega, Nat.le_trans (show _ ≤ 4 by rw [List.length_map]; show 1 * _ ≤ 4; omega) (by decide), ?_⟩
    rw [List.length_map, Int.toNat_natCast, show (List.replicate ls.length [(S.fr (D.int 1)).dat]).flatten = (List.replicate ls.length (1 : Int)).map D.int from rep_is _]
    refine .inl ⟨cs, ls, List.replicate ls.length 1, rfl, ⟨h0, (numL_rep h0).numZ h0⟩, ?_⟩
    refine ⟨fun s => s = [some (.fr (dFs cs)), some (.fr (dZs ls)), some (.fr (.int p)), some (.ow false (rowO (grd cs ls 0).1)), some (.fr (dBest (nxt cs ls (List.replicate ls.length 1) cs.length))), some (.fr (dF (grd cs ls 0).2)), none, none], ?_, ?_⟩
    · have eg : (grd cs ls 0).2 = (match nxt cs ls (List.replicate ls.length 1) cs.length with | none => 0 | some b => b.2) := rfl
      rw [eg]
      cases e : nxt cs ls (List.replicate ls.length 1) cs.length with
      | none => exact ⟨fun _ => rfl, fun h => (by cases h)⟩
      | some b => exact ⟨fun h => (by cases h), fun _ => rfl⟩
    rintro s rfl
    have hT : ((p - ((ls.map D.int).length : Int)).toNat) = (p - ls.length).toNat := by rw [List.length_map]
    refine ⟨⟨by rw [List.length_map]; omega, by rw [List.length_map]; omega⟩, fun i s => ∃ x6 x7, s = [some (.fr (dFs cs)), some (.fr (dZs ls)), some (.fr (.int p)), some (.ow false (rowO (grd cs ls i).1)), some (.fr (dBest (nxt cs ls (List.replicate ls.length 1) cs.length))), some (.fr (dF (grd cs ls i).2)), x6, x7], ⟨_, _, rfl⟩, ?_, ?_⟩
    · rintro i d s hd ⟨x6, x7, rfl⟩
      obtain ⟨hi, rfl⟩ := rngD_get hd
      rw [hT] at hi
      obtain ⟨i1, i2, i3⟩ := grd_all h0 i (by omega)
      obtain ⟨k, r, n, e1, e2, e3⟩ := nxt_is h0 (t := i) (by omega)
      refine .inl ⟨cs, ls, (grd cs ls i).1, rfl, ⟨h0, i1.numZ h0⟩, ?_⟩
      rw [e1]
      refine ⟨⟨_, _, rfl⟩, _, _, k, n, rfl, ixN_is e2, by rw [List.getElem?_map, e2]; rfl, _, rfl, ?_⟩
      exact ⟨_, _, by rw [e3, set_is]; rfl⟩
    · rintro s ⟨x6, x7, rfl⟩
      rw [rngD_len, hT]
      exact hq
  · exact he fun hh => by
      have : ¬ p ≤ isum ls := of_decide_eq_false hy
      exact this hh.2
  · have hz : decide (((ls.map D.int).length : Int) ≤ p) = false := hz
    rw [List.length_map] at hz
    exact ⟨fun h => (nomatch h), fun _ => he fun hh => of_decide_eq_false hz hh.1⟩
theorem ok__law_greedy (T : Txt K mg) : FnOk P w K mg base CX0 3 T.f__law_greedy T.fd__law_greedy ["_law_costs", "_law_limits", "_law_places"] (sp__law_greedy K) := by
  refine T.F__law_greedy.ok sc__law_greedy (fun vs H Q E h => lsp_len h) (fun cdv A outer s H vs Q E hr h => ⟨_, (pss_cons (ps_setLc (i := 3) (own := [("_law_limit", 9)]) (g := gName 9) rfl sc__law_greedy.nd rfl rfl (sw_true rfl rfl rfl (by decide +kernel)) (pi_list (pv 1)) (blkOk_by (own := [("_law_limit", 9)]) (N := nm__law_greedy) (sc := defScope s__law_greedy) (by decide +kernel)) (fun _ _ _ _ _ => pg_name (i := 9) sc__law_greedy.nd rfl (Or.inl rfl)) (fun _ _ _ _ _ => pts_nil) (fun _ _ _ _ _ => pe_int))
      (pss_cons (ps_set (i := 4) sc__law_greedy.nd rfl (Or.inl rfl) (pe_tup (pa_cons pe_int (pa_cons pe_int pa_nil))))
      (pss_cons (ps_for PassesOwn.never rfl (pi_range1 (by rfl) T.z_range (pa_cons (pe_callB (id := "max") (call_max2 rfl) (by rfl) T.z_max (by decide +kernel) (pa_cons pe_int (pa_cons (pe_op op_sub (pv 2) (pe_callB (id := "len") call_len_seq (by rfl) T.z_len (by decide +kernel) (pa_cons (pv 1) pa_nil))) pa_nil))) pa_nil)) (pg_name (i := 5) sc__law_greedy.nd rfl (Or.inl rfl))
        (pss_cons (ps_set (i := 6) sc__law_greedy.nd rfl (Or.inl rfl) pe_non)
        (pss_cons (ps_for PassesOwn.never rfl (pi_range1 (by rfl) T.z_range (pa_cons (pe_callB (id := "len") call_len_seq (by rfl) T.z_len (by decide +kernel) (pa_cons (pv 1) pa_nil)) pa_nil)) (pg_name (i := 7) sc__law_greedy.nd rfl (Or.inl rfl))
          (pss_one (ps_if (pt_cmpR op_lt (pe_ix ix_list (pv 3) (pv 7) (fun _ _ => rfl)) (pe_ix ix_list (pv 1) (pv 7) (fun _ _ => rfl)) (nomark _))
            (pss_cons (ps_set (i := 8) sc__law_greedy.nd rfl (Or.inl rfl) (pe_call (ok__law_fall T) (hr.mono (by decide)) (by rfl) T.g__law_fall T.F__law_fall.kp T.b__law_fall .nil pass0 (pa_cons (pe_ix ix_list (pv 0) (pv 7) (fun _ _ => rfl)) (pa_cons (pe_ix ix_list (pv 3) (pv 7) (fun _ _ => rfl)) pa_nil))))
            (pss_one (ps_if (PW.pt (pw_or (pt_cmpR op_isN (pv 6) pe_non (nomark _)) (pw_or1 (pt_val (pe_call (ok__law_less T) (hr.mono (by decide)) (by rfl) T.g__law_less T.F__law_less.kp T.b__law_less .nil pass0 (pa_cons (pe_ix ix_tup (pv 6) pe_int (fun _ _ => rfl)) (pa_cons (pv 8) pa_nil)))))))
              (pss_one (ps_set (i := 6) sc__law_greedy.nd rfl (Or.inl rfl) (pe_tup (pa_cons (pv 7) (pa_cons (pv 8) pa_nil)))))
              pss_nil)))
            pss_nil)))
        (pss_one (ps_if (pt_cmpR op_notN (pv 6) pe_non (nomark _))
          (pss_cons (ps_set (i := 4) sc__law_greedy.nd rfl (Or.inl rfl) (pe_ix ix_tup (pv 6) pe_int (fun _ _ => rfl)))
          (pss_one (ps_if (pt_cmpR op_gt (pv 2) (pe_callB (id := "len") call_len_seq (by rfl) T.z_len (by decide +kernel) (pa_cons (pv 1) pa_nil)) (nomark _))
            (pss_one (ps_asg (pe_op op_add (pe_ix ix_list (pv 3) (pe_ix ix_tup (pv 6) pe_int (fun _ _ => rfl)) (fun _ _ => rfl)) pe_int) (pg_sub (pv 3) (pe_ix ix_tup (pv 6) pe_int (fun _ _ => rfl)) set_list)))
            pss_nil)))
          pss_nil)))))
      (pss_one (ps_ret (pe_tup (pa_cons (pv 3) (pa_cons (pv 4) pa_nil)))))))), ?_⟩)
  try dsimp only [cxK, blkK, noxK, wishK]
  refine lsp_body (N := nm__law_greedy) h (Nat.le_of_ble_eq_true rfl) fun xs q hn h => ?_
  clear hn
  obtain ⟨cs, ls, p, rfl, ⟨h0, h1, h2, h3⟩, hq⟩ := h
  have h4 := h0.2.1
  have hl4 : ls.length ≤ 4 := by rw [← h0.1]; exact h4
  refine ⟨by rw [List.length_map]; omega, fun i acc s => acc = (List.replicate i (D.int 1)) ∧ s = [some (.fr (dFs cs)), some (.fr (dZs ls)), some (.fr (.int p)), none, none, none, none, none, none, none], ⟨rfl, rfl⟩, ?_, ?_⟩
  · rintro i d acc s hd ⟨rfl, rfl⟩
    exact ⟨by rw [List.replicate_succ']; rfl, rfl⟩
  · rintro acc s ⟨rfl, rfl⟩
    obtain ⟨T, hT⟩ : ∃ T : Nat, p = ls.length + T := ⟨(p - ls.length).toNat, by omega⟩
    have hn : (if p - ((ls.map D.int).length : Int) > 1 then p - ((ls.map D.int).length : Int) else 1).toNat = max T 1 := by
      rw [List.length_map]
      split <;> omega
    have hb : -(2 ^ 62) ≤ (if p - ((ls.map D.int).length : Int) > 1 then p - ((ls.map D.int).length : Int) else 1) ∧ (if p - ((ls.map D.int).length : Int) > 1 then p - ((ls.map D.int).length : Int) else 1) < 2 ^ 62 := by
      rw [List.length_map]
      split <;> omega
    refine ⟨hb, fun i s => ∃ (r : Rat) (x5 x6 x7 x8 : Option S), s = [some (.fr (dFs cs)), some (.fr (dZs ls)), some (.fr (.int p)), some (.ow false (rowO (grd cs ls (min i T)).1)), some (.fr (dF r)), x5, x6, x7, x8, none] ∧ (i = 0 → r = 0) ∧ (0 < i → r = (grd cs ls (min i T)).2), ⟨0, none, none, none, none, ?_, fun _ => rfl, fun h => absurd h (by decide)⟩, ?_, ?_⟩
    · rw [List.length_map, Nat.zero_min, show (grd cs ls 0).1 = List.replicate ls.length 1 from rfl, rowO, ← ones_is]
      rfl
    · rintro i d s hd ⟨r, x5, x6, x7, x8, rfl, hr0, hr1⟩
      obtain ⟨hi, rfl⟩ := rngD_get hd
      rw [hn] at hi
      obtain ⟨i1, i2, i3⟩ := grd_all h0 (min i T) (by omega)
      have hnz := i1.numZ h0
      generalize hgn : (grd cs ls (min i T)).1 = ns at i1 i2 hnz ⊢
      refine ⟨⟨by rw [List.length_map]; omega, by rw [List.length_map]; omega⟩, fun j s => ∃ x7 x8, s = [some (.fr (dFs cs)), some (.fr (dZs ls)), some (.fr (.int p)), some (.ow false (rowO ns)), some (.fr (dF r)), some (.fr (.int (0 + (i : Int)))), some (.fr (dBest (nxt cs ls ns j))), x7, x8, none], ⟨_, _, rfl⟩, ?_, ?_⟩
      · rintro j d s hd ⟨x7, x8, rfl⟩
        obtain ⟨hj, rfl⟩ := rngD_get hd
        rw [Int.zero_add]
        have hj : j < ls.length := by simpa using hj
        obtain ⟨c, hc⟩ : ∃ c, cs[j]? = some c := ⟨cs[j]'(by rw [h0.1]; exact hj), List.getElem?_eq_getElem _⟩
        obtain ⟨l, hl⟩ : ∃ l, ls[j]? = some l := ⟨_, List.getElem?_eq_getElem hj⟩
        obtain ⟨n, hn⟩ : ∃ n, ns[j]? = some n := ⟨ns[j]'(by rw [i1.1]; exact hj), List.getElem?_eq_getElem _⟩
        have cok := h0.2.2.1 c (List.mem_of_getElem? hc)
        have nok := hnz.2 n (List.mem_of_getElem? hn)
        have es : nxt cs ls ns (j + 1) = (if n < l then (match nxt cs ls ns j with | none => some (j, fallQ c n) | some b => if b.2 < fallQ c n then some (j, fallQ c n) else some b) else nxt cs ls ns j) := by
          rw [nxt, hc, hl, hn] <;> rfl
        show (match atI (ns.map D.int) (j : Int) with | some d => _ | none => False)
        rw [dZs_at hn]
        show (match atI (ls.map D.int) (j : Int) with | some d => _ | none => False)
        rw [dZs_at hl]
        refine ⟨fun hz => ?_, fun hz => ?_⟩
        · rw [if_pos (of_decide_eq_true hz)] at es
          show (match atI (cs.map dF) (j : Int) with | some d => _ | none => False)
          rw [dFs_at hc]
          show (match atI (ns.map D.int) (j : Int) with | some d => _ | none => False)
          rw [dZs_at hn]
          refine ⟨c, n, rfl, ⟨nok.1, nok.2, cok.1⟩, ?_⟩
          cases e : nxt cs ls ns j with
          | none =>
            rw [e] at es
            exact ⟨fun _ => ⟨_, _, by rw [es]; rfl⟩, fun hz => by cases hz⟩
          | some b =>
            obtain ⟨k, r⟩ := b
            rw [e] at es
            have fb : Fz 720 80 r := nxt_fz h0 hnz j (k, r) e
            refine ⟨fun hz => (by cases hz), fun _ => ?_⟩
            refine ⟨r, fallQ c n, rfl, ⟨szP fb (by decide) (by decide) (by decide), szP (fz_fall cok.1 nok.1 nok.2) (by decide) (by decide) (by decide)⟩, fun hz => ?_, fun hz => ?_⟩
            · exact ⟨_, _, by rw [es.trans (if_pos (of_decide_eq_true hz))]; rfl⟩
            · exact ⟨_, _, by rw [es.trans (if_neg (of_decide_eq_false hz))]; rfl⟩
        · rw [if_neg (of_decide_eq_false hz)] at es
          exact ⟨_, _, by rw [es]; rfl⟩
      · rintro s ⟨x7, x8, rfl⟩
        rw [rngD_len, List.length_map, Int.toNat_natCast, ← h0.1]
        by_cases hT0 : T = 0
        · subst hT0
          have hi0 : i = 0 := by omega
          subst hi0
          have hgn : List.replicate ls.length 1 = ns := hgn
          subst hgn
          have eg : (grd cs ls (min (0 + 1) 0)).2 = (match nxt cs ls (List.replicate ls.length 1) cs.length with | none => 0 | some b => b.2) := rfl
          cases e : nxt cs ls (List.replicate ls.length 1) cs.length with
          | none =>
            rw [e] at eg
            exact ⟨fun h => (by cases h), fun _ => ⟨r, _, _, _, _, rfl, fun h => absurd h (by decide), fun _ => by rw [eg, hr0 rfl]⟩⟩
          | some b =>
            rw [e] at eg
            refine ⟨fun _ => ⟨fun hz => ?_, fun hz => ?_⟩, fun h => (by cases h)⟩
            · have hz : decide (((ls.map D.int).length : Int) < p) = true := hz
              rw [List.length_map] at hz
              have := of_decide_eq_true hz
              omega
            · exact ⟨b.2, _, _, _, _, rfl, fun h => absurd h (by decide), fun _ => by rw [eg]⟩
        · have hiT : i < T := by omega
          have em : min i T = i := by omega
          have em2 : min (i + 1) T = i + 1 := by omega
          obtain ⟨k, r', n, e1, e2, e3⟩ := nxt_is h0 (t := i) (by omega)
          rw [em] at hgn
          rw [hgn] at e1 e2 e3
          rw [e1]
          have e3' : (grd cs ls (i + 1)).1 = ns.set k (n + 1) := by rw [e3]
          have eR : (rowO (ns.set k (n + 1)) : O) = .lst ((ns.map D.int).set k (.int (n + 1))) := by rw [rowO, set_is]
          refine ⟨fun _ => ⟨fun hz => ?_, fun hz => ?_⟩, fun h => (by cases h)⟩
          · show (match atI (ns.map D.int) (k : Int) with | some d => _ | none => False)
            rw [dZs_at e2]
            show (match ixN (ns.map D.int).length (k : Int) with | some j => _ | none => False)
            rw [ixN_is e2]
            refine ⟨r', _, _, _, _, by rw [em2, e3', eR]; rfl, fun h => absurd h (by omega), fun _ => by rw [em2, e3]⟩
          · have hz : decide (((ls.map D.int).length : Int) < p) = false := hz
            rw [List.length_map] at hz
            have := of_decide_eq_false hz
            omega
    · rintro s ⟨r, x5, x6, x7, x8, rfl, hr0, hr1⟩
      rw [rngD_len, hn] at hr1 ⊢
      have := hr1 (by omega)
      rw [show min (max T 1) T = (p - ls.length).toNat by omega] at this ⊢
      subst this
      exact hq
theorem ok__law_told (T : Txt K mg) : FnOk P w K mg base CX0 6 T.f__law_told T.fd__law_told ["_law_costs", "_law_limits", "_law_places"] (sp__law_told K) := by
  refine T.F__law_told.ok sc__law_told (fun vs H Q E h => lsp_len h) (fun cdv A outer s H vs Q E hr h => ⟨_, (pss_one (ps_tryW (K := K) (W := (WK E0x)) rfl rfl rfl sc__law_told.nd takesNo
        (fun W pn xe tk po => (pss_one (ps_ret (pe_callW (W := W) tk (ok_deal T) (hr.mono (by decide)) (by rfl) T.g_deal T.F_deal.kp T.b_deal (pa_cons (pv 0) (pa_cons (pv 1) (pa_cons (pv 2) pa_nil)))))))
        (ClsOk.cons ⟨rfl, by decide, .inl T.g_NoDeal⟩ (fun a oe cls d pn hz hf => (pss_one (ps_ret pe_str)))
        (ClsOk.cons ⟨rfl, by decide, .inl T.g_SamphireError⟩ (fun a oe cls d pn hz hf => (pss_one (ps_ret pe_str)))
        ClsOk.nil)))), ?_⟩)
  try dsimp only [cxK, blkK, noxK, wishK]
  refine lsp_body (N := nm__law_told) h (Nat.le_of_ble_eq_true rfl) fun xs q hn h => ?_
  clear hn
  obtain ⟨cs, ls, p, rfl, ⟨h0, h1⟩, hq, he⟩ := h
  intro W
  refine ⟨cs, ls, p, rfl, ⟨h0, h1⟩, hq, fun hn => ?_⟩
  refine ⟨true, T.xm_NoDeal_NoDeal, fun _ => ?_, fun h => nomatch h⟩
  intro a d hd
  cases hd rfl
  exact he hn

theorem dZs_inj {a b : List Int} (h : dZs a = dZs b) : a = b := by
  have h : a.map D.int = b.map D.int := by injection h
  exact (List.map_inj_right (f := D.int) (fun x y e => by injection e)).mp h
theorem numL_cons {l n : Int} {ls ns : List Int} : NumL (l :: ls) (n :: ns) ↔ (1 ≤ n ∧ n ≤ l) ∧ NumL ls ns := by
  constructor
  · intro h
    exact ⟨h.2 0 n l rfl rfl, by simpa using h.1, fun i a b ha hb => h.2 (i + 1) a b (by simpa using ha) (by simpa using hb)⟩
  · rintro ⟨h1, h2, h3⟩
    refine ⟨by simpa using h2, fun i a b ha hb => ?_⟩
    cases i with
    | zero => cases ha; cases hb; exact h1
    | succ i => exact h3 i a b (by simpa using ha) (by simpa using hb)
theorem allN_mem : ∀ {ls : List Int} {fd : List (List Int)} {o : List Int}, o ∈ ls.foldl stepD fd ↔ ∃ a ∈ fd, ∃ b, o = a ++ b ∧ NumL ls b
  | [], fd, o => by
    constructor
    · intro h
      exact ⟨o, h, [], by simp, rfl, fun i n l h => by cases h⟩
    · rintro ⟨a, ha, b, rfl, hb⟩
      have : b = [] := List.eq_nil_of_length_eq_zero hb.1
      rw [this, List.append_nil]
      exact ha
  | l :: r, fd, o => by
    rw [List.foldl_cons, allN_mem]
    constructor
    · rintro ⟨a, ha, b, rfl, hb⟩
      obtain ⟨x, hx, hm⟩ := List.mem_flatMap.mp ha
      obtain ⟨k, hk, rfl⟩ := List.mem_map.mp hm
      have hk := List.mem_range.mp hk
      exact ⟨x, hx, ((k : Int) + 1) :: b, by simp, numL_cons.mpr ⟨⟨by omega, by omega⟩, hb⟩⟩
    · rintro ⟨a, ha, b, rfl, hb⟩
      cases b with
      | nil => exact absurd hb.1 (by simp)
      | cons n t =>
        obtain ⟨h1, h2⟩ := numL_cons.mp hb
        refine ⟨a ++ [n], List.mem_flatMap.mpr ⟨a, ha, List.mem_map.mpr ⟨(n - 1).toNat, List.mem_range.mpr (by omega), ?_⟩⟩, t, by simp, h2⟩
        rw [show (((n - 1).toNat : Nat) : Int) + 1 = n by omega]
theorem mem_deals {ls : List Int} {p : Int} {o : List Int} : o ∈ dealsL ls p ↔ NumL ls o ∧ isum o = p := by
  unfold dealsL allN
  rw [List.mem_filter, allN_mem, decide_eq_true_iff]
  refine and_congr_left fun _ => ?_
  constructor
  · rintro ⟨a, ha, b, rfl, hb⟩
    rw [List.mem_singleton.mp ha]
    exact hb
  · intro h
    exact ⟨[], List.mem_singleton.mpr rfl, o, rfl, h⟩
theorem dealB_iff {ls : List Int} {p : Int} {o : List Int} : dealB ls p o = true ↔ NumL ls o ∧ isum o = p := by
  unfold dealB NumL
  rw [Bool.and_eq_true, Bool.and_eq_true, decide_eq_true_iff, decide_eq_true_iff, List.all_eq_true]
  constructor
  · rintro ⟨⟨h1, h2⟩, h3⟩
    refine ⟨⟨h1, fun i n l hn hl => ?_⟩, h2⟩
    have := h3 (n, l) (List.mem_of_getElem? (i := i) (List.getElem?_zip_eq_some.mpr ⟨hn, hl⟩))
    simpa using this
  · rintro ⟨⟨h1, h2⟩, h3⟩
    refine ⟨⟨h1, h3⟩, fun x hx => ?_⟩
    obtain ⟨i, hi⟩ := List.getElem?_of_mem hx
    have hi2 := List.getElem?_zip_eq_some.mp hi
    have := h2 i x.1 x.2 hi2.1 hi2.2
    simpa using this
theorem dealB_mem {ls : List Int} {p : Int} {o : List Int} : dealB ls p o = memD (dZs o) ((dealsL ls p).map dZs) := by
  by_cases h : o ∈ dealsL ls p
  · rw [dealB_iff.mpr (mem_deals.mp h), memD_true (List.mem_map_of_mem h)]
  · rw [Bool.eq_false_iff.mpr fun z => h (mem_deals.mpr (dealB_iff.mp z)), memD_false fun z => h (by
      obtain ⟨x, hx, e⟩ := List.mem_map.mp z
      rw [← dZs_inj e]
      exact hx)]
theorem range_of {cs : List Rat} {ls : List Int} (h0 : Sta1 cs ls) {p : Int} {o : List Int} (h : o ∈ dealsL ls p) : (ls.length : Int) ≤ p ∧ p ≤ isum ls := by
  obtain ⟨h1, rfl⟩ := mem_deals.mp h
  refine ⟨?_, isum_le h1.1 fun i n l hn hl => (h1.2 i n l hn hl).2⟩
  have := isum_le (ns := List.replicate ls.length 1) (ls := o) (by rw [List.length_replicate, h1.1]) fun i n l hn hl => by
    obtain ⟨hi, e⟩ := List.getElem?_eq_some_iff.mp hn
    rw [List.getElem_replicate] at e
    have hl2 : i < ls.length := by simpa using hi
    have := (h1.2 i l _ hl (List.getElem?_eq_getElem hl2)).1
    omega
  rw [isum_rep] at this
  exact this
theorem pl_int (n : Nat) (i : Int) : D.plN n (.int i) = true := plN_int n i
theorem pl_dZs (n : Nat) (o : List Int) : D.plN (n + 1) (dZs o) = true := all_pl (fun i => plN_int n i) o
theorem pl_dGrd (g : List Int × Rat) : D.plN 60 (dGrd g) = true := by
  show ([dZs g.1, dF g.2].all (D.plN 59)) = true
  rw [List.all_cons, List.all_cons, pl_dZs 58, pl_dF 58]
  rfl
theorem pl_deals (ds : List (List Int)) : D.plN 60 (.lst (ds.map dZs)) = true := all_pl (n := 59) (pl_dZs 58) ds
theorem nq {d e : D} {P : Prop} (h : d = e) (z : (!eqD d e) = true) : P := by
  rw [eqD_true h] at z
  cases z
theorem pr_all : ∀ a : Nat, a < 30 → ∀ b : Nat, b < 7 → (Rat.divInt (a : Int) (1 + (b : Int))).den ∣ 5040 ∧ (Rat.divInt (a : Int) (1 + (b : Int))).num.natAbs ≤ 40 * (Rat.divInt (a : Int) (1 + (b : Int))).den := by decide +kernel
theorem co_all : ∀ a : Nat, a < 40 → ∀ b : Nat, b < 4 → ((Rat.divInt (a : Int) (1 + (b : Int))).den ∣ 12 ∧ (Rat.divInt (a : Int) (1 + (b : Int))).num.natAbs ≤ 40 * (Rat.divInt (a : Int) (1 + (b : Int))).den) ∧ 0 ≤ Rat.divInt (a : Int) (1 + (b : Int)) := by decide +kernel
theorem pr_ok {a b : Int} (a0 : 0 ≤ a) (a1 : a < 30) (b0 : 0 ≤ b) (b1 : b < 7) : PrOk (Rat.divInt a (1 + b)) := by
  have := pr_all a.toNat (by omega) b.toNat (by omega)
  rw [Int.toNat_of_nonneg a0, Int.toNat_of_nonneg b0] at this
  exact this
theorem co_ok {a b : Int} (a0 : 0 ≤ a) (a1 : a < 40) (b0 : 0 ≤ b) (b1 : b < 4) : Fz 12 40 (Rat.divInt a (1 + b)) ∧ 0 ≤ Rat.divInt a (1 + b) := by
  have := co_all a.toNat (by omega) b.toNat (by omega)
  rw [Int.toNat_of_nonneg a0, Int.toNat_of_nonneg b0] at this
  exact this
theorem var_fz {cs : List Rat} {ls ns : List Int} (h0 : Sta1 cs ls) (h1 : NumL ls ns) : Fz 720 160 (varQ cs ns) := by
  have hz := h1.numZ h0
  have h4 := h0.2.1
  refine (Fz.rsum (B := 40) (rs := (cs.zip ns).map fun x => x.1 / (x.2 : Rat)) fun r hr => ?_).up (B' := 160) (Nat.dvd_refl _) (by rw [List.length_map, List.length_zip]; omega)
  obtain ⟨x, hx, rfl⟩ := List.mem_map.mp hr
  have := List.of_mem_zip (a := x.1) (b := x.2) hx
  have n2 := hz.2 _ this.2
  exact fz_div (h0.2.2.1 _ this.1).1 n2.1 (by omega)
theorem Bd_fz {cs : List Rat} {ls : List Int} {p : Int} {t : Rat} (h0 : Sta1 cs ls) (hp : p.natAbs ≤ 100) (ht : PrOk t) : Fz 5040 5000 (Bd cs ls p t) := by
  have h4 := h0.2.1
  have hs : Fz 5040 960 (rsum ((cs.zip ls).map fun x => leastT x.1 t x.2)) := by
    refine (Fz.rsum (B := 240) fun r hr => ?_).up (Nat.dvd_refl _) (by rw [List.length_map, List.length_zip]; omega)
    obtain ⟨x, hx, rfl⟩ := List.mem_map.mp hr
    have := List.of_mem_zip (a := x.1) (b := x.2) hx
    have l2 := h0.2.2.2 _ this.2
    exact fz_least (h0.2.2.1 _ this.1).1 ht l2.1 l2.2
  have hm : Fz 5040 4000 ((p : Rat) * t) := (fz_intZ hp).mul ht
  exact (hs.sub hm).up (Nat.dvd_refl _) (by decide)
theorem fall_fz {c : Rat} {n : Int} (h : Fz 12 40 c) (h1 : 1 ≤ n) (h2 : n ≤ 4) : Fz 5040 40 (fallQ c n) := by
  have e : fallQ c n = c * (1 / (n : Rat) - 1 / ((n + 1 : Int) : Rat)) := by
    unfold fallQ
    rw [Rat.div_def, Rat.div_def, Rat.div_def, Rat.div_def]
    grind
  rw [e]
  have f : Fz 60 1 (1 / (n : Rat) - 1 / ((n + 1 : Int) : Rat)) := by
    have : n = 1 ∨ n = 2 ∨ n = 3 ∨ n = 4 := by omega
    rcases this with rfl | rfl | rfl | rfl <;> exact ⟨by decide +kernel, by decide +kernel⟩
  exact (h.mul f).up (by decide) (by decide)
theorem nxt_pr {cs : List Rat} {ls ns : List Int} {i : Nat} {b : Nat × Rat} (h0 : Sta1 cs ls) (h1 : NumL ls ns) (e : nxt cs ls ns i = some b) : Fz 5040 40 b.2 := by
  obtain ⟨a1, ⟨c, l, n, hc, hl, hn, hlt, hr⟩, a3⟩ := nxt_some i b.1 b.2 e
  have l5 := h0.2.2.2 l (List.mem_of_getElem? hl)
  rw [hr]
  exact fall_fz (h0.2.2.1 c (List.mem_of_getElem? hc)).1 (h1.2 _ n l hn hl).1 (by omega)
theorem gr_ok {cs : List Rat} {ls : List Int} {t : Nat} (h0 : Sta1 cs ls) (ht : (ls.length : Int) + t ≤ isum ls) : PrOk (grd cs ls t).2 := by
  cases t with
  | zero =>
    show Fz 5040 40 (match nxt cs ls (List.replicate ls.length 1) cs.length with | none => 0 | some b => b.2)
    cases e : nxt cs ls (List.replicate ls.length 1) cs.length with
    | none => exact Fz.zero _ _
    | some b => exact nxt_pr h0 (numL_rep h0) e
  | succ t =>
    obtain ⟨i1, i2, i3⟩ := grd_all h0 t (by omega)
    obtain ⟨k, r, n, e1, e2, e3⟩ := nxt_is h0 (t := t) (by omega)
    rw [e3]
    exact nxt_pr h0 i1 e1

noncomputable def ch_law_15 (P : Program) (w : World) (K : PySem.W.Frag) (mg : Str → Option Value) (base : Heap) (T : Txt K mg) : Chunk K (fun t => ∀ (cdv : Value) (A : Around) (outer : List Env) (s : Shared) (H : Hp) (E : XK), Room 6 (A.deeper (envOfC "law" (defScope s_law) s.heap.objs.size T.f_law cdv)) → PSs (cxOf CX0 P w K mg base nm_law "law" (defScope s_law) T.f_law cdv A outer s H E).nox ((defBody s_law).drop 15) (t cdv A outer s H E)) := ⟨_, fun cdv A outer s H E hr => (pss_one (ps_ret (pe_and (pe_cmpR (op_eqD hr.units) (pv 5) (pv 2) (nomark _)) (pe_one (pe_cmpR (op_eqD hr.units) (pv 6) (pv 3) (nomark _)))))), _, fun a b c d e f => by (try dsimp only [cxK, blkK, noxK, wishK]); infer_instance⟩
instance (T : Txt K mg) (cdv : Value) (A : Around) (outer : List Env) (s : Shared) (H : Hp) (E : XK) : LiftS K XI.zero ((ch_law_15 P w K mg base T).t cdv A outer s H E) (ch_law_15 P w K mg base T).p := (ch_law_15 P w K mg base T).l cdv A outer s H E
noncomputable def ch_law_14 (P : Program) (w : World) (K : PySem.W.Frag) (mg : Str → Option Value) (base : Heap) (T : Txt K mg) : Chunk K (fun t => ∀ (cdv : Value) (A : Around) (outer : List Env) (s : Shared) (H : Hp) (E : XK), Room 6 (A.deeper (envOfC "law" (defScope s_law) s.heap.objs.size T.f_law cdv)) → PSs (cxOf CX0 P w K mg base nm_law "law" (defScope s_law) T.f_law cdv A outer s H E).nox ((defBody s_law).drop 14) (t cdv A outer s H E)) := ⟨_, fun cdv A outer s H E hr => (pss_cons (ps_for PassesOwn.never rfl (pi_range1 (by rfl) T.z_range (pa_cons pe_int pa_nil)) (pg_name (i := 11) sc_law.nd rfl (Or.inl rfl))
        (pss_cons (ps_set (i := 12) sc_law.nd rfl (Or.inl rfl) (pe_call (ok__law_low T) (hr.mono (by decide)) (by rfl) T.g__law_low T.F__law_low.kp T.b__law_low .nil pass0 (pa_cons (pe_call (ok__law_take T) (hr.mono (by decide)) (by rfl) T.g__law_take T.F__law_take.kp T.b__law_take .nil pass0 (pa_cons (pv 1) (pa_cons pe_int pa_nil))) (pa_cons (pe_op op_add pe_int (pe_call (ok__law_take T) (hr.mono (by decide)) (by rfl) T.g__law_take T.F__law_take.kp T.b__law_take .nil pass0 (pa_cons (pv 1) (pa_cons pe_int pa_nil)))) pa_nil))))
        (pss_cons (ps_set (i := 13) sc_law.nd rfl (Or.inl rfl) (pe_call (ok_deal_bound T) (hr.mono (by decide)) (by rfl) T.g_deal_bound T.F_deal_bound.kp T.b_deal_bound .nil pass0 (pa_cons (pv 5) (pa_cons (pv 6) (pa_cons (pv 4) (pa_cons (pv 12) pa_nil))))))
        (pss_cons (ps_if (PW.pt (pw_or (pt_cmpR (op_neD hr.units) (pv 13) (pe_call (ok__law_bound T) (hr.mono (by decide)) (by rfl) T.g__law_bound T.F__law_bound.kp T.b__law_bound .nil pass0 (pa_cons (pv 2) (pa_cons (pv 3) (pa_cons (pv 4) (pa_cons (pv 12) pa_nil))))) (nomark _)) (pw_or1 (pt_val (pe_call (ok__law_less T) (hr.mono (by decide)) (by rfl) T.g__law_less T.F__law_less.kp T.b__law_less .nil pass0 (pa_cons (pv 9) (pa_cons (pv 13) pa_nil)))))))
          (pss_one (ps_ret pe_bl))
          pss_nil)
        (pss_cons (ps_set (i := 10) sc_law.nd rfl (Or.inl rfl) (pe_callTy (T := "list") call_list_of (by rfl) T.z_list (by decide +kernel) (pa_cons (pe_ix ix_list (pv 8) (pe_call (ok__law_take T) (hr.mono (by decide)) (by rfl) T.g__law_take T.F__law_take.kp T.b__law_take .nil pass0 (pa_cons (pv 1) (pa_cons (pe_callB (id := "len") call_len_seq (by rfl) T.z_len (by decide +kernel) (pa_cons (pv 8) pa_nil)) pa_nil))) (fun _ _ => rfl)) pa_nil)))
        (pss_cons (ps_asg (pe_call (ok__law_take T) (hr.mono (by decide)) (by rfl) T.g__law_take T.F__law_take.kp T.b__law_take .nil pass0 (pa_cons (pv 1) (pa_cons pe_int pa_nil))) (pg_sub (pv 10) (pe_call (ok__law_take T) (hr.mono (by decide)) (by rfl) T.g__law_take T.F__law_take.kp T.b__law_take .nil pass0 (pa_cons (pv 1) (pa_cons (pe_callB (id := "len") call_len_seq (by rfl) T.z_len (by decide +kernel) (pa_cons (pv 10) pa_nil)) pa_nil))) set_list))
        (pss_one (ps_if (PW.pt (pw_or (pt_cmpR op_ne (pe_call (ok_is_deal T) (hr.mono (by decide)) (by rfl) T.g_is_deal T.F_is_deal.kp T.b_is_deal .nil pass0 (pa_cons (pv 6) (pa_cons (pv 4) (pa_cons (pv 10) pa_nil)))) (pe_cmpR (inDk (K := K) rfl (hu66 hr)) (pv 10) (pv 8) (by rfl)) (nomark _)) (pw_or1 (pt_val (pe_call (ok_is_deal T) (hr.mono (by decide)) (by rfl) T.g_is_deal T.F_is_deal.kp T.b_is_deal .nil pass0 (pa_cons (pv 6) (pa_cons (pv 4) (pa_cons (pe_op op_cat (pv 10) (pe_lst (pa_cons pe_int pa_nil))) pa_nil))))))))
          (pss_one (ps_ret pe_bl))
          pss_nil))))))))
      ((ch_law_15 P w K mg base T).h cdv A outer s H E hr)), _, fun a b c d e f => by (try dsimp only [cxK, blkK, noxK, wishK]); infer_instance⟩
instance (T : Txt K mg) (cdv : Value) (A : Around) (outer : List Env) (s : Shared) (H : Hp) (E : XK) : LiftS K XI.zero ((ch_law_14 P w K mg base T).t cdv A outer s H E) (ch_law_14 P w K mg base T).p := (ch_law_14 P w K mg base T).l cdv A outer s H E
noncomputable def ch_law_13 (P : Program) (w : World) (K : PySem.W.Frag) (mg : Str → Option Value) (base : Heap) (T : Txt K mg) : Chunk K (fun t => ∀ (cdv : Value) (A : Around) (outer : List Env) (s : Shared) (H : Hp) (E : XK), Room 6 (A.deeper (envOfC "law" (defScope s_law) s.heap.objs.size T.f_law cdv)) → PSs (cxOf CX0 P w K mg base nm_law "law" (defScope s_law) T.f_law cdv A outer s H E).nox ((defBody s_law).drop 13) (t cdv A outer s H E)) := ⟨_, fun cdv A outer s H E hr => (pss_cons (ps_if (PW.pt (pw_or (pt_cmpR (op_neD hr.units) (pe_call (ok_variance_of T) (hr.mono (by decide)) (by rfl) T.g_variance_of T.F_variance_of.kp T.b_variance_of .nil pass0 (pa_cons (pv 5) (pa_cons (pe_callTy (T := "list") call_list_of (by rfl) T.z_list (by decide +kernel) (pa_cons (pe_ix ix_list (pv 8) pe_int (fun _ _ => rfl)) pa_nil)) pa_nil))) (pe_call (ok__law_variance T) (hr.mono (by decide)) (by rfl) T.g__law_variance T.F__law_variance.kp T.b__law_variance .nil pass0 (pa_cons (pv 2) (pa_cons (pe_ix ix_list (pv 8) pe_int (fun _ _ => rfl)) pa_nil))) (nomark _)) (pw_or1 (pt_cmpR (op_neD hr.units) (pe_call (ok_deal_bound T) (hr.mono (by decide)) (by rfl) T.g_deal_bound T.F_deal_bound.kp T.b_deal_bound .nil pass0 (pa_cons (pv 5) (pa_cons (pv 6) (pa_cons (pv 4) (pa_cons (pe_ix ix_seq (pv 7) pe_int (fun _ _ => rfl)) pa_nil))))) (pv 9) (nomark _)))))
        (pss_one (ps_ret pe_bl))
        pss_nil)
      ((ch_law_14 P w K mg base T).h cdv A outer s H E hr)), _, fun a b c d e f => by (try dsimp only [cxK, blkK, noxK, wishK]); infer_instance⟩
instance (T : Txt K mg) (cdv : Value) (A : Around) (outer : List Env) (s : Shared) (H : Hp) (E : XK) : LiftS K XI.zero ((ch_law_13 P w K mg base T).t cdv A outer s H E) (ch_law_13 P w K mg base T).p := (ch_law_13 P w K mg base T).l cdv A outer s H E
noncomputable def ch_law_12 (P : Program) (w : World) (K : PySem.W.Frag) (mg : Str → Option Value) (base : Heap) (T : Txt K mg) : Chunk K (fun t => ∀ (cdv : Value) (A : Around) (outer : List Env) (s : Shared) (H : Hp) (E : XK), Room 6 (A.deeper (envOfC "law" (defScope s_law) s.heap.objs.size T.f_law cdv)) → PSs (cxOf CX0 P w K mg base nm_law "law" (defScope s_law) T.f_law cdv A outer s H E).nox ((defBody s_law).drop 12) (t cdv A outer s H E)) := ⟨_, fun cdv A outer s H E hr => (pss_cons (ps_for PassesOwn.never rfl (pi_list (pv 8)) (pg_name (i := 10) sc_law.nd rfl (Or.inl rfl))
        (pss_one (ps_if (PW.pt (pw_or (pt_not (pt_val (pe_call (ok_is_deal T) (hr.mono (by decide)) (by rfl) T.g_is_deal T.F_is_deal.kp T.b_is_deal .nil pass0 (pa_cons (pv 6) (pa_cons (pv 4) (pa_cons (pe_callTy (T := "list") call_list_of (by rfl) T.z_list (by decide +kernel) (pa_cons (pv 10) pa_nil)) pa_nil)))))) (pw_or1 (pt_val (pe_call (ok__law_less T) (hr.mono (by decide)) (by rfl) T.g__law_less T.F__law_less.kp T.b__law_less .nil pass0 (pa_cons (pe_call (ok__law_variance T) (hr.mono (by decide)) (by rfl) T.g__law_variance T.F__law_variance.kp T.b__law_variance .nil pass0 (pa_cons (pv 2) (pa_cons (pv 10) pa_nil))) (pa_cons (pv 9) pa_nil)))))))
          (pss_one (ps_ret pe_bl))
          pss_nil)))
      ((ch_law_13 P w K mg base T).h cdv A outer s H E hr)), _, fun a b c d e f => by (try dsimp only [cxK, blkK, noxK, wishK]); infer_instance⟩
instance (T : Txt K mg) (cdv : Value) (A : Around) (outer : List Env) (s : Shared) (H : Hp) (E : XK) : LiftS K XI.zero ((ch_law_12 P w K mg base T).t cdv A outer s H E) (ch_law_12 P w K mg base T).p := (ch_law_12 P w K mg base T).l cdv A outer s H E
noncomputable def ch_law_11 (P : Program) (w : World) (K : PySem.W.Frag) (mg : Str → Option Value) (base : Heap) (T : Txt K mg) : Chunk K (fun t => ∀ (cdv : Value) (A : Around) (outer : List Env) (s : Shared) (H : Hp) (E : XK), Room 6 (A.deeper (envOfC "law" (defScope s_law) s.heap.objs.size T.f_law cdv)) → PSs (cxOf CX0 P w K mg base nm_law "law" (defScope s_law) T.f_law cdv A outer s H E).nox ((defBody s_law).drop 11) (t cdv A outer s H E)) := ⟨_, fun cdv A outer s H E hr => (pss_cons (ps_set (i := 9) sc_law.nd rfl (Or.inl rfl) (pe_call (ok__law_variance T) (hr.mono (by decide)) (by rfl) T.g__law_variance T.F__law_variance.kp T.b__law_variance .nil pass0 (pa_cons (pv 2) (pa_cons (pe_ix ix_seq (pv 7) pe_int (fun _ _ => rfl)) pa_nil))))
      ((ch_law_12 P w K mg base T).h cdv A outer s H E hr)), _, fun a b c d e f => by (try dsimp only [cxK, blkK, noxK, wishK]); infer_instance⟩
instance (T : Txt K mg) (cdv : Value) (A : Around) (outer : List Env) (s : Shared) (H : Hp) (E : XK) : LiftS K XI.zero ((ch_law_11 P w K mg base T).t cdv A outer s H E) (ch_law_11 P w K mg base T).p := (ch_law_11 P w K mg base T).l cdv A outer s H E
noncomputable def ch_law_10 (P : Program) (w : World) (K : PySem.W.Frag) (mg : Str → Option Value) (base : Heap) (T : Txt K mg) : Chunk K (fun t => ∀ (cdv : Value) (A : Around) (outer : List Env) (s : Shared) (H : Hp) (E : XK), Room 6 (A.deeper (envOfC "law" (defScope s_law) s.heap.objs.size T.f_law cdv)) → PSs (cxOf CX0 P w K mg base nm_law "law" (defScope s_law) T.f_law cdv A outer s H E).nox ((defBody s_law).drop 10) (t cdv A outer s H E)) := ⟨_, fun cdv A outer s H E hr => (pss_cons (ps_if (PW.pt (pw_or (pt_cmpR (op_neD hr.units) (pv 7) (pe_call (ok__law_greedy T) (hr.mono (by decide)) (by rfl) T.g__law_greedy T.F__law_greedy.kp T.b__law_greedy .nil pass0 (pa_cons (pv 2) (pa_cons (pv 3) (pa_cons (pv 4) pa_nil)))) (nomark _)) (pw_or1 (pt_not (pt_val (pe_callB (id := "isinstance") call_isi (by rfl) T.z_isinstance (by decide +kernel) (pa_cons (pv 7) (pa_cons (pe_bltn (v := .ty "tuple") (by rfl) T.z_tuple (by decide +kernel) rfl) pa_nil))))))))
        (pss_one (ps_ret pe_bl))
        pss_nil)
      ((ch_law_11 P w K mg base T).h cdv A outer s H E hr)), _, fun a b c d e f => by (try dsimp only [cxK, blkK, noxK, wishK]); infer_instance⟩
instance (T : Txt K mg) (cdv : Value) (A : Around) (outer : List Env) (s : Shared) (H : Hp) (E : XK) : LiftS K XI.zero ((ch_law_10 P w K mg base T).t cdv A outer s H E) (ch_law_10 P w K mg base T).p := (ch_law_10 P w K mg base T).l cdv A outer s H E
noncomputable def ch_law_9 (P : Program) (w : World) (K : PySem.W.Frag) (mg : Str → Option Value) (base : Heap) (T : Txt K mg) : Chunk K (fun t => ∀ (cdv : Value) (A : Around) (outer : List Env) (s : Shared) (H : Hp) (E : XK), Room 6 (A.deeper (envOfC "law" (defScope s_law) s.heap.objs.size T.f_law cdv)) → PSs (cxOf CX0 P w K mg base nm_law "law" (defScope s_law) T.f_law cdv A outer s H E).nox ((defBody s_law).drop 9) (t cdv A outer s H E)) := ⟨_, fun cdv A outer s H E hr => (pss_cons (ps_if (pt_cmpR (op_eqD hr.units) (pv 8) (pe_lst pa_nil) (nomark _))
        (pss_one (ps_ret (pe_and (pe_cmpR op_eq (pv 7) pe_str (nomark _)) (pe_one (pe_not (pe_call (ok_is_deal T) (hr.mono (by decide)) (by rfl) T.g_is_deal T.F_is_deal.kp T.b_is_deal .nil pass0 (pa_cons (pv 6) (pa_cons (pv 4) (pa_cons (pe_lc (own := [("_law_limit", 16)]) (g := gName 16) rfl sc_law.nd (pi_list (pv 3)) (blkOk_by (own := [("_law_limit", 16)]) (N := nm_law) (sc := defScope s_law) (by decide +kernel)) (fun _ _ _ _ _ => pg_name (i := 16) sc_law.nd rfl (Or.inl rfl)) (fun _ _ _ _ _ => pts_nil) (fun _ _ _ _ _ => pe_int)) pa_nil)))))))))
        pss_nil)
      ((ch_law_10 P w K mg base T).h cdv A outer s H E hr)), _, fun a b c d e f => by (try dsimp only [cxK, blkK, noxK, wishK]); infer_instance⟩
instance (T : Txt K mg) (cdv : Value) (A : Around) (outer : List Env) (s : Shared) (H : Hp) (E : XK) : LiftS K XI.zero ((ch_law_9 P w K mg base T).t cdv A outer s H E) (ch_law_9 P w K mg base T).p := (ch_law_9 P w K mg base T).l cdv A outer s H E
noncomputable def ch_law_8 (P : Program) (w : World) (K : PySem.W.Frag) (mg : Str → Option Value) (base : Heap) (T : Txt K mg) : Chunk K (fun t => ∀ (cdv : Value) (A : Around) (outer : List Env) (s : Shared) (H : Hp) (E : XK), Room 6 (A.deeper (envOfC "law" (defScope s_law) s.heap.objs.size T.f_law cdv)) → PSs (cxOf CX0 P w K mg base nm_law "law" (defScope s_law) T.f_law cdv A outer s H E).nox ((defBody s_law).drop 8) (t cdv A outer s H E)) := ⟨_, fun cdv A outer s H E hr => (pss_cons (ps_set (i := 8) sc_law.nd rfl (Or.inl rfl) (pe_call (ok__law_deals T) (hr.mono (by decide)) (by rfl) T.g__law_deals T.F__law_deals.kp T.b__law_deals .nil pass0 (pa_cons (pv 3) (pa_cons (pv 4) pa_nil))))
      ((ch_law_9 P w K mg base T).h cdv A outer s H E hr)), _, fun a b c d e f => by (try dsimp only [cxK, blkK, noxK, wishK]); infer_instance⟩
instance (T : Txt K mg) (cdv : Value) (A : Around) (outer : List Env) (s : Shared) (H : Hp) (E : XK) : LiftS K XI.zero ((ch_law_8 P w K mg base T).t cdv A outer s H E) (ch_law_8 P w K mg base T).p := (ch_law_8 P w K mg base T).l cdv A outer s H E
noncomputable def ch_law_7 (P : Program) (w : World) (K : PySem.W.Frag) (mg : Str → Option Value) (base : Heap) (T : Txt K mg) : Chunk K (fun t => ∀ (cdv : Value) (A : Around) (outer : List Env) (s : Shared) (H : Hp) (E : XK), Room 6 (A.deeper (envOfC "law" (defScope s_law) s.heap.objs.size T.f_law cdv)) → PSs (cxOf CX0 P w K mg base nm_law "law" (defScope s_law) T.f_law cdv A outer s H E).nox ((defBody s_law).drop 7) (t cdv A outer s H E)) := ⟨_, fun cdv A outer s H E hr => (pss_cons (ps_set (i := 7) sc_law.nd rfl (Or.inl rfl) (pe_call (ok__law_told T) (hr.mono (by decide)) (by rfl) T.g__law_told T.F__law_told.kp T.b__law_told .nil pass0 (pa_cons (pv 5) (pa_cons (pv 6) (pa_cons (pv 4) pa_nil)))))
      ((ch_law_8 P w K mg base T).h cdv A outer s H E hr)), _, fun a b c d e f => by (try dsimp only [cxK, blkK, noxK, wishK]); infer_instance⟩
instance (T : Txt K mg) (cdv : Value) (A : Around) (outer : List Env) (s : Shared) (H : Hp) (E : XK) : LiftS K XI.zero ((ch_law_7 P w K mg base T).t cdv A outer s H E) (ch_law_7 P w K mg base T).p := (ch_law_7 P w K mg base T).l cdv A outer s H E
noncomputable def ch_law_6 (P : Program) (w : World) (K : PySem.W.Frag) (mg : Str → Option Value) (base : Heap) (T : Txt K mg) : Chunk K (fun t => ∀ (cdv : Value) (A : Around) (outer : List Env) (s : Shared) (H : Hp) (E : XK), Room 6 (A.deeper (envOfC "law" (defScope s_law) s.heap.objs.size T.f_law cdv)) → PSs (cxOf CX0 P w K mg base nm_law "law" (defScope s_law) T.f_law cdv A outer s H E).nox ((defBody s_law).drop 6) (t cdv A outer s H E)) := ⟨_, fun cdv A outer s H E hr => (pss_cons (ps_par (i := 5) (j := 6) (by rfl) sc_law.nd rfl rfl (by decide) rfl rfl (pa_cons (pe_callTy (T := "list") call_list_of (by rfl) T.z_list (by decide +kernel) (pa_cons (pv 2) pa_nil)) (pa_cons (pe_callTy (T := "list") call_list_of (by rfl) T.z_list (by decide +kernel) (pa_cons (pv 3) pa_nil)) pa_nil)) (by rfl))
      ((ch_law_7 P w K mg base T).h cdv A outer s H E hr)), _, fun a b c d e f => by (try dsimp only [cxK, blkK, noxK, wishK]); infer_instance⟩
instance (T : Txt K mg) (cdv : Value) (A : Around) (outer : List Env) (s : Shared) (H : Hp) (E : XK) : LiftS K XI.zero ((ch_law_6 P w K mg base T).t cdv A outer s H E) (ch_law_6 P w K mg base T).p := (ch_law_6 P w K mg base T).l cdv A outer s H E
noncomputable def ch_law_5 (P : Program) (w : World) (K : PySem.W.Frag) (mg : Str → Option Value) (base : Heap) (T : Txt K mg) : Chunk K (fun t => ∀ (cdv : Value) (A : Around) (outer : List Env) (s : Shared) (H : Hp) (E : XK), Room 6 (A.deeper (envOfC "law" (defScope s_law) s.heap.objs.size T.f_law cdv)) → PSs (cxOf CX0 P w K mg base nm_law "law" (defScope s_law) T.f_law cdv A outer s H E).nox ((defBody s_law).drop 5) (t cdv A outer s H E)) := ⟨_, fun cdv A outer s H E hr => (pss_cut (ps_if (pt_cmpR op_eq (pe_call (ok__law_take T) (hr.mono (by decide)) (by rfl) T.g__law_take T.F__law_take.kp T.b__law_take .nil pass0 (pa_cons (pv 1) (pa_cons pe_int pa_nil))) pe_int (nomark _))
        (pss_one (ps_set (i := 4) sc_law.nd rfl (Or.inl rfl) (pe_ix ix_list (pe_lst (pa_cons pe_int (pa_cons (pe_op op_sub (pe_callB (id := "len") call_len_seq (by rfl) T.z_len (by decide +kernel) (pa_cons (pv 3) pa_nil)) pe_int) (pa_cons (pe_op op_add (pe_callB (id := "sum") (cr_sum rfl) (by rfl) T.z_sum (by decide +kernel) (pa_cons (pv 3) pa_nil)) pe_int) pa_nil)))) (pe_call (ok__law_take T) (hr.mono (by decide)) (by rfl) T.g__law_take T.F__law_take.kp T.b__law_take .nil pass0 (pa_cons (pv 1) (pa_cons pe_int pa_nil))) (fun _ _ => rfl))))
        pss_nil)
      ((ch_law_6 P w K mg base T).h cdv A outer s H E hr)), _, fun a b c d e f => by (try dsimp only [cxK, blkK, noxK, wishK]); infer_instance⟩
instance (T : Txt K mg) (cdv : Value) (A : Around) (outer : List Env) (s : Shared) (H : Hp) (E : XK) : LiftS K XI.zero ((ch_law_5 P w K mg base T).t cdv A outer s H E) (ch_law_5 P w K mg base T).p := (ch_law_5 P w K mg base T).l cdv A outer s H E
noncomputable def ch_law_4 (P : Program) (w : World) (K : PySem.W.Frag) (mg : Str → Option Value) (base : Heap) (T : Txt K mg) : Chunk K (fun t => ∀ (cdv : Value) (A : Around) (outer : List Env) (s : Shared) (H : Hp) (E : XK), Room 6 (A.deeper (envOfC "law" (defScope s_law) s.heap.objs.size T.f_law cdv)) → PSs (cxOf CX0 P w K mg base nm_law "law" (defScope s_law) T.f_law cdv A outer s H E).nox ((defBody s_law).drop 4) (t cdv A outer s H E)) := ⟨_, fun cdv A outer s H E hr => (pss_cons (ps_set (i := 4) sc_law.nd rfl (Or.inl rfl) (pe_op op_add (pe_callB (id := "len") call_len_seq (by rfl) T.z_len (by decide +kernel) (pa_cons (pv 3) pa_nil)) (pe_call (ok__law_take T) (hr.mono (by decide)) (by rfl) T.g__law_take T.F__law_take.kp T.b__law_take .nil pass0 (pa_cons (pv 1) (pa_cons (pe_op op_add (pe_op op_sub (pe_callB (id := "sum") (cr_sum rfl) (by rfl) T.z_sum (by decide +kernel) (pa_cons (pv 3) pa_nil)) (pe_callB (id := "len") call_len_seq (by rfl) T.z_len (by decide +kernel) (pa_cons (pv 3) pa_nil))) pe_int) pa_nil)))))
      ((ch_law_5 P w K mg base T).h cdv A outer s H E hr)), _, fun a b c d e f => by (try dsimp only [cxK, blkK, noxK, wishK]); infer_instance⟩
instance (T : Txt K mg) (cdv : Value) (A : Around) (outer : List Env) (s : Shared) (H : Hp) (E : XK) : LiftS K XI.zero ((ch_law_4 P w K mg base T).t cdv A outer s H E) (ch_law_4 P w K mg base T).p := (ch_law_4 P w K mg base T).l cdv A outer s H E
noncomputable def ch_law_3 (P : Program) (w : World) (K : PySem.W.Frag) (mg : Str → Option Value) (base : Heap) (T : Txt K mg) : Chunk K (fun t => ∀ (cdv : Value) (A : Around) (outer : List Env) (s : Shared) (H : Hp) (E : XK), Room 6 (A.deeper (envOfC "law" (defScope s_law) s.heap.objs.size T.f_law cdv)) → PSs (cxOf CX0 P w K mg base nm_law "law" (defScope s_law) T.f_law cdv A outer s H E).nox ((defBody s_law).drop 3) (t cdv A outer s H E)) := ⟨_, fun cdv A outer s H E hr => (pss_cons (ps_setLc (i := 3) (own := [("_law_cost", 15)]) (g := gName 15) rfl sc_law.nd rfl rfl (sw_true rfl rfl rfl (by decide +kernel)) (pi_list (pv 2)) (blkOk_by (own := [("_law_cost", 15)]) (N := nm_law) (sc := defScope s_law) (by decide +kernel)) (fun _ _ _ _ _ => pg_name (i := 15) sc_law.nd rfl (Or.inl rfl)) (fun _ _ _ _ _ => pts_nil) (fun _ _ _ _ _ => (pe_op op_add pe_int (pe_call (ok__law_take T) (hr.mono (by decide)) (by rfl) T.g__law_take T.F__law_take.kp T.b__law_take .nil pass0 (pa_cons (pv 1) (pa_cons pe_int pa_nil))))))
      ((ch_law_4 P w K mg base T).h cdv A outer s H E hr)), _, fun a b c d e f => by (try dsimp only [cxK, blkK, noxK, wishK]); infer_instance⟩
instance (T : Txt K mg) (cdv : Value) (A : Around) (outer : List Env) (s : Shared) (H : Hp) (E : XK) : LiftS K XI.zero ((ch_law_3 P w K mg base T).t cdv A outer s H E) (ch_law_3 P w K mg base T).p := (ch_law_3 P w K mg base T).l cdv A outer s H E
noncomputable def ch_law_2 (P : Program) (w : World) (K : PySem.W.Frag) (mg : Str → Option Value) (base : Heap) (T : Txt K mg) : Chunk K (fun t => ∀ (cdv : Value) (A : Around) (outer : List Env) (s : Shared) (H : Hp) (E : XK), Room 6 (A.deeper (envOfC "law" (defScope s_law) s.heap.objs.size T.f_law cdv)) → PSs (cxOf CX0 P w K mg base nm_law "law" (defScope s_law) T.f_law cdv A outer s H E).nox ((defBody s_law).drop 2) (t cdv A outer s H E)) := ⟨_, fun cdv A outer s H E hr => (pss_cut (ps_if (pt_cmpR op_eq (pe_call (ok__law_take T) (hr.mono (by decide)) (by rfl) T.g__law_take T.F__law_take.kp T.b__law_take .nil pass0 (pa_cons (pv 1) (pa_cons pe_int pa_nil))) pe_int (nomark _))
        (pss_one (ps_set (i := 2) sc_law.nd rfl (Or.inr rfl) (pe_lc (own := [("_law_cost", 15)]) (g := gName 15) rfl sc_law.nd (pi_list (pv 2)) (blkOk_by (own := [("_law_cost", 15)]) (N := nm_law) (sc := defScope s_law) (by decide +kernel)) (fun _ _ _ _ _ => pg_name (i := 15) sc_law.nd rfl (Or.inl rfl)) (fun _ _ _ _ _ => pts_nil) (fun _ _ _ _ _ => (pe_ix (ixLk (K := K) rfl) (pv 2) pe_int (fun _ _ => rfl))))))
        pss_nil)
      ((ch_law_3 P w K mg base T).h cdv A outer s H E hr)), _, fun a b c d e f => by (try dsimp only [cxK, blkK, noxK, wishK]); infer_instance⟩
instance (T : Txt K mg) (cdv : Value) (A : Around) (outer : List Env) (s : Shared) (H : Hp) (E : XK) : LiftS K XI.zero ((ch_law_2 P w K mg base T).t cdv A outer s H E) (ch_law_2 P w K mg base T).p := (ch_law_2 P w K mg base T).l cdv A outer s H E
/-- there is a deal -/
def Cx54 (cs : List Rat) (ls : List Int) (p : Int) (T : Nat) : Prop := Sta1 cs ls ∧ p.natAbs ≤ 100 ∧ p = ls.length + T ∧ p ≤ isum ls ∧ 1 ≤ ls.length
theorem Cx54.g {cs : List Rat} {ls : List Int} {p : Int} {T : Nat} (h : Cx54 cs ls p T) : NumL ls (grd cs ls T).1 ∧ isum (grd cs ls T).1 = p ∧ GInv cs ls (grd cs ls T).1 (grd cs ls T).2 ∧ PrOk (grd cs ls T).2 := by
  obtain ⟨h0, hp, e, hs, _⟩ := h
  obtain ⟨i1, i2, i3⟩ := grd_all h0 T (by omega)
  exact ⟨i1, by rw [i2, e], i3, gr_ok h0 (by omega)⟩
theorem sz54 {M B : Nat} {r : Rat} (h : Fz M B r) (h0 : 0 < M := by decide) (h1 : M ≤ 2 ^ 100 := by decide) (h2 : B ≤ 2 ^ 100 := by decide) : Sz LIM r := szP h h0 h1 h2
section
variable {ns ms ls : List Int} {cs : List Rat} {p : Int} {td : D} {T : Nat} {E : PEnds} {y10 y11 y12 y13 : Option S}
set_option maxHeartbeats 4000000 in
theorem t15_law (T' : Txt K mg)  (hE : RtT E) :
    (ch_law_15 P w K mg base T').p E [some (.fr (.scr ns)), some (.ow false (rowO ms)), some (.fr (dFs cs)), some (.fr (dZs ls)), some (.fr (.int p)), some (.fr (dFs cs)), some (.fr (dZs ls)), some (.fr (dGrd (grd cs ls T))), some (.fr (.lst ((dealsL ls p).map dZs))), some (.fr (dF (varQ cs (grd cs ls T).1))), y10, y11, y12, y13, none, none, none] := by
  unfold ch_law_15; dsimp only
  refine ⟨pl_dFs 58 cs, pl_dFs 58 cs, fun _ => ⟨pl_dZs 59 ls, pl_dZs 59 ls, ?_⟩, fun hz => ?_⟩
  · show E.rt (.fr (.bl (id (eqD (dZs ls) (dZs ls))))) _
    rw [eqD_true rfl]
    exact hE _ _
  · have hz : eqD (dFs cs) (dFs cs) = false := hz
    rw [eqD_true rfl] at hz
    cases hz
def tlIf : PS1 := psIf (pOr (pTest (pDat (pOp (gEq not) (pDat (pCall psp_is_deal (prVar 6 (prVar 4 (prVar 10 prNil))))) (pDat (pOp (gInD id) (pDat (pVar 10)) (pDat (pVar 8))))))) (pTest (pDat (pCall psp_is_deal (prVar 6 (prVar 4 (prCons (pDat (pOp gCat (pDat (pVar 10)) (pDat (pLst (pCons (pDat (pC (D.int 1))) fun s q => q [] s))))) prNil))))))) (psRet (pC (D.bl false))) fun E s => E.nx s
def tlSub : PS1 := psSeq (psSub 10 (pDat (pCall psp__law_take (prVar 1 (prCons (pDat (pC (D.int 8))) prNil)))) (pDat (pCall psp__law_take (prVar 1 (prCons (pDat (pLenV 10)) prNil))))) tlIf
def tlSet : PS1 := psSeq (psSet 10 (pEi (isNlP 8) (pCopyP (plIx 8 (pDat (pCall psp__law_take (prVar 1 (prCons (pDat (pLenV 8)) prNil)))))) (pCB gListOf (pCons (pDat (pIxV 8 (pDat (pCall psp__law_take (prVar 1 (prCons (pDat (pLenV 8)) prNil)))))) fun s q => q [] s)))) tlSub
set_option maxHeartbeats 4000000 in
theorem tlIf_ok {o : List Int} {m : Nat} {u : Int} (h : Cx54 cs ls p T) (o1 : NumL ls o) (hu : u.natAbs ≤ 100) (hnx : ∀ y, E.nx [some (.fr (.scr ns)), some (.ow false (rowO ms)), some (.fr (dFs cs)), some (.fr (dZs ls)), some (.fr (.int p)), some (.fr (dFs cs)), some (.fr (dZs ls)), some (.fr (dGrd (grd cs ls T))), some (.fr (.lst ((dealsL ls p).map dZs))), some (.fr (dF (varQ cs (grd cs ls T).1))), y, y11, y12, y13, none, none, none]) : tlIf E [some (.fr (.scr ns)), some (.ow false (rowO ms)), some (.fr (dFs cs)), some (.fr (dZs ls)), some (.fr (.int p)), some (.fr (dFs cs)), some (.fr (dZs ls)), some (.fr (dGrd (grd cs ls T))), some (.fr (.lst ((dealsL ls p).map dZs))), some (.fr (dF (varQ cs (grd cs ls T).1))), some (.ow false (.lst ((o.map D.int).set m (.int u)))), y11, y12, y13, none, none, none] := by
  obtain ⟨h0, hp, hpe, hps, hl1⟩ := id h
  have hl4 : ls.length ≤ 4 := by rw [← h0.1]; exact h0.2.1
  have oz := o1.numZ h0
  have hset : (o.map D.int).set m (.int u) = (o.set m u).map D.int := set_is
  have hb : ∀ x ∈ o.set m u, x.natAbs ≤ 100 := fun x hx => by
    rcases List.mem_or_eq_of_mem_set hx with h | h
    · have := oz.2 x h; omega
    · omega
  have hlen : (o.set m u).length ≤ 4 := by rw [List.length_set, o1.1]; exact hl4
  refine .inr (.inl ⟨ls, p, o.set m u, ?_, ⟨by omega, by omega, hp, hb⟩, ?_⟩)
  · show _ = [_, _, S.fr (.lst ((o.set m u).map D.int))]
    rw [← hset]
    rfl
  refine ⟨?_, pl_deals _, fun hz => ?_, fun _ => ?_⟩
  · show D.plN 60 (.lst ((o.map D.int).set m (.int u))) = true
    rw [hset]
    exact pl_dZs 59 _
  · have hz : (!decide (dealB ls p (o.set m u) = memD (.lst ((o.map D.int).set m (.int u))) ((dealsL ls p).map dZs))) = true := hz
    rw [hset, dealB_mem, show dZs (o.set m u) = .lst ((o.set m u).map D.int) from rfl, decide_eq_true rfl] at hz
    cases hz
  refine ⟨?_, ls, p, o.set m u ++ [1], ?_, ⟨by omega, by rw [List.length_append, List.length_singleton]; omega, hp, fun x hx => ?_⟩, fun hz => ?_, fun _ => ?_⟩
  · exact Nat.le_trans (show ((o.map D.int).set m (.int u)).length + 1 ≤ 200 by rw [hset, List.length_map]; omega) (by decide)
  · show [_, _, S.fr (.lst ((o.map D.int).set m (.int u) ++ [D.int 1]))] = [_, _, S.fr (.lst ((o.set m u ++ [1]).map D.int))]
    rw [hset, List.map_append]
    rfl
  · rcases List.mem_append.mp hx with h | h
    · exact hb x h
    · rw [List.mem_singleton.mp h]; decide
  · have hz : dealB ls p (o.set m u ++ [1]) = true := hz
    have := (dealB_iff.mp hz).1.1
    rw [List.length_append, List.length_set, o1.1, List.length_singleton] at this
    omega
  · exact hnx _
set_option maxHeartbeats 4000000 in
theorem tlSub_ok {o : List Int} (h : Cx54 cs ls p T) (o1 : NumL ls o) (hnx : ∀ ms y, E.nx [some (.fr (.scr ns)), some (.ow false (rowO ms)), some (.fr (dFs cs)), some (.fr (dZs ls)), some (.fr (.int p)), some (.fr (dFs cs)), some (.fr (dZs ls)), some (.fr (dGrd (grd cs ls T))), some (.fr (.lst ((dealsL ls p).map dZs))), some (.fr (dF (varQ cs (grd cs ls T).1))), y, y11, y12, y13, none, none, none]) : tlSub E [some (.fr (.scr ns)), some (.ow false (rowO ms)), some (.fr (dFs cs)), some (.fr (dZs ls)), some (.fr (.int p)), some (.fr (dFs cs)), some (.fr (dZs ls)), some (.fr (dGrd (grd cs ls T))), some (.fr (.lst ((dealsL ls p).map dZs))), some (.fr (dF (varQ cs (grd cs ls T).1))), some (.ow false (.lst (o.map D.int))), y11, y12, y13, none, none, none] := by
  obtain ⟨h0, hp, hpe, hps, hl1⟩ := id h
  have hol : 0 < o.length := by
    have := o1.1
    omega
  refine .inl ⟨ms, 8, rfl, by decide, fun u ms4 u0 u1 => .inl ⟨ms4, ((o.map D.int).length : Int), rfl, by rw [List.length_map]; omega, fun j ms5 j0 j1 => ?_⟩⟩
  obtain ⟨m, rfl⟩ : ∃ m : Nat, j = m := ⟨j.toNat, by omega⟩
  rw [List.length_map] at j1
  obtain ⟨n, hn⟩ : ∃ n, o[m]? = some n := ⟨_, List.getElem?_eq_getElem (by omega)⟩
  show (match ixN (o.map D.int).length (m : Int) with | some j => _ | none => False)
  rw [ixN_is hn]
  show tlIf E [some (.fr (.scr ns)), some (.ow false (rowO ms5)), some (.fr (dFs cs)), some (.fr (dZs ls)), some (.fr (.int p)), some (.fr (dFs cs)), some (.fr (dZs ls)), some (.fr (dGrd (grd cs ls T))), some (.fr (.lst ((dealsL ls p).map dZs))), some (.fr (dF (varQ cs (grd cs ls T).1))), some (.ow false (.lst ((o.map D.int).set m (.int u)))), y11, y12, y13, none, none, none]
  exact tlIf_ok h o1 (by omega) fun y => hnx _ _
set_option maxHeartbeats 4000000 in
theorem tlSet_ok (h : Cx54 cs ls p T) (hnx : ∀ ms y, E.nx [some (.fr (.scr ns)), some (.ow false (rowO ms)), some (.fr (dFs cs)), some (.fr (dZs ls)), some (.fr (.int p)), some (.fr (dFs cs)), some (.fr (dZs ls)), some (.fr (dGrd (grd cs ls T))), some (.fr (.lst ((dealsL ls p).map dZs))), some (.fr (dF (varQ cs (grd cs ls T).1))), y, y11, y12, y13, none, none, none]) : tlSet E [some (.fr (.scr ns)), some (.ow false (rowO ms)), some (.fr (dFs cs)), some (.fr (dZs ls)), some (.fr (.int p)), some (.fr (dFs cs)), some (.fr (dZs ls)), some (.fr (dGrd (grd cs ls T))), some (.fr (.lst ((dealsL ls p).map dZs))), some (.fr (dF (varQ cs (grd cs ls T).1))), y10, y11, y12, y13, none, none, none] := by
  obtain ⟨g1, g2, g3, g4⟩ := h.g
  have hm : (grd cs ls T).1 ∈ dealsL ls p := mem_deals.mpr ⟨g1, g2⟩
  have hpos : 0 < (dealsL ls p).length := List.length_pos_of_mem hm
  refine .inl ⟨ms, (((dealsL ls p).map dZs).length : Int), rfl, by rw [List.length_map]; omega, fun z ms3 z0 z1 => ?_⟩
  obtain ⟨k, rfl⟩ : ∃ k : Nat, z = k := ⟨z.toNat, by omega⟩
  rw [List.length_map] at z1
  obtain ⟨o, ho⟩ : ∃ o, (dealsL ls p)[k]? = some o := ⟨_, List.getElem?_eq_getElem (by omega)⟩
  obtain ⟨o1, o2⟩ := mem_deals.mp (List.mem_of_getElem? ho)
  have ha : atI ((dealsL ls p).map dZs) (k : Int) = some (dZs o) := atI_get (by omega) (by rw [Int.toNat_natCast, List.getElem?_map, ho]; rfl)
  show (match atI ((dealsL ls p).map dZs) (k : Int) with | some d => _ | none => False)
  rw [ha]
  show tlSub E [some (.fr (.scr ns)), some (.ow false (rowO ms3)), some (.fr (dFs cs)), some (.fr (dZs ls)), some (.fr (.int p)), some (.fr (dFs cs)), some (.fr (dZs ls)), some (.fr (dGrd (grd cs ls T))), some (.fr (.lst ((dealsL ls p).map dZs))), some (.fr (dF (varQ cs (grd cs ls T).1))), some (.ow false (.lst (o.map D.int))), y11, y12, y13, none, none, none]
  exact tlSub_ok h o1 hnx
def tlC : PS1 := psSeq (psIf (pOr (pTest (pDat (pOp (gEqD not) (pDat (pVar 13)) (pDat (pCall psp__law_bound (prVar 2 (prVar 3 (prVar 4 (prVar 12 prNil))))))))) (pTest (pDat (pCall psp_less (prVar 9 (prVar 13 prNil)))))) (psRet (pC (D.bl false))) fun E s => E.nx s) tlSet
def tlB : PS1 := psSeq (psSet 13 (pCall psp_deal_bound (prVar 5 (prVar 6 (prVar 4 (prVar 12 prNil)))))) tlC
def tlA : PS1 := psSeq (psSet 12 (pCall (psp_low LowQ) (prCons (pDat (pCall psp__law_take (prVar 1 (prCons (pDat (pC (D.int 30))) prNil)))) (prCons (pDat (pOp (gI0 fun i j => V.int (i + j)) (pDat (pC (D.int 1))) (pDat (pCall psp__law_take (prVar 1 (prCons (pDat (pC (D.int 7))) prNil)))))) prNil)))) tlB
set_option maxHeartbeats 2000000 in
theorem tlC_ok {t : Rat} (h : Cx54 cs ls p T) (ht : PrOk t) (hnx : ∀ ms y, E.nx [some (.fr (.scr ns)), some (.ow false (rowO ms)), some (.fr (dFs cs)), some (.fr (dZs ls)), some (.fr (.int p)), some (.fr (dFs cs)), some (.fr (dZs ls)), some (.fr (dGrd (grd cs ls T))), some (.fr (.lst ((dealsL ls p).map dZs))), some (.fr (dF (varQ cs (grd cs ls T).1))), y, y11, some (.fr (dF t)), some (.fr (dF (Bd cs ls p t))), none, none, none]) : tlC E [some (.fr (.scr ns)), some (.ow false (rowO ms)), some (.fr (dFs cs)), some (.fr (dZs ls)), some (.fr (.int p)), some (.fr (dFs cs)), some (.fr (dZs ls)), some (.fr (dGrd (grd cs ls T))), some (.fr (.lst ((dealsL ls p).map dZs))), some (.fr (dF (varQ cs (grd cs ls T).1))), y10, y11, some (.fr (dF t)), some (.fr (dF (Bd cs ls p t))), none, none, none] := by
  obtain ⟨h0, hp, hpe, hps, hl1⟩ := id h
  obtain ⟨g1, g2, g3, g4⟩ := h.g
  refine ⟨cs, ls, p, t, rfl, ⟨h0, hp, ht⟩, pl_dF 58 (Bd cs ls p t), pl_dF 58 (Bd cs ls p t), fun hz => nq rfl hz, fun _ => ?_⟩
  refine ⟨varQ cs (grd cs ls T).1, Bd cs ls p t, rfl, ⟨sz54 (var_fz h0 g1), sz54 (Bd_fz h0 hp ht)⟩, fun hz => ?_, fun _ => ?_⟩
  · exact absurd (bd_le h0 g1 g2) (Rat.not_le.mpr (of_decide_eq_true hz))
  · exact tlSet_ok h hnx
set_option maxHeartbeats 2000000 in
theorem tlB_ok {t : Rat} (h : Cx54 cs ls p T) (ht : PrOk t) (hnx : ∀ ms y, E.nx [some (.fr (.scr ns)), some (.ow false (rowO ms)), some (.fr (dFs cs)), some (.fr (dZs ls)), some (.fr (.int p)), some (.fr (dFs cs)), some (.fr (dZs ls)), some (.fr (dGrd (grd cs ls T))), some (.fr (.lst ((dealsL ls p).map dZs))), some (.fr (dF (varQ cs (grd cs ls T).1))), y, y11, some (.fr (dF t)), some (.fr (dF (Bd cs ls p t))), none, none, none]) : tlB E [some (.fr (.scr ns)), some (.ow false (rowO ms)), some (.fr (dFs cs)), some (.fr (dZs ls)), some (.fr (.int p)), some (.fr (dFs cs)), some (.fr (dZs ls)), some (.fr (dGrd (grd cs ls T))), some (.fr (.lst ((dealsL ls p).map dZs))), some (.fr (dF (varQ cs (grd cs ls T).1))), y10, y11, some (.fr (dF t)), y13, none, none, none] := by
  obtain ⟨h0, hp, hpe, hps, hl1⟩ := id h
  refine ⟨cs, ls, p, t, rfl, ⟨h0, hp, ht⟩, ?_⟩
  exact tlC_ok h ht hnx
set_option maxHeartbeats 2000000 in
theorem tlA_ok (h : Cx54 cs ls p T) (hnx : ∀ ms y y12 y13, E.nx [some (.fr (.scr ns)), some (.ow false (rowO ms)), some (.fr (dFs cs)), some (.fr (dZs ls)), some (.fr (.int p)), some (.fr (dFs cs)), some (.fr (dZs ls)), some (.fr (dGrd (grd cs ls T))), some (.fr (.lst ((dealsL ls p).map dZs))), some (.fr (dF (varQ cs (grd cs ls T).1))), y, y11, y12, y13, none, none, none]) : tlA E [some (.fr (.scr ns)), some (.ow false (rowO ms)), some (.fr (dFs cs)), some (.fr (dZs ls)), some (.fr (.int p)), some (.fr (dFs cs)), some (.fr (dZs ls)), some (.fr (dGrd (grd cs ls T))), some (.fr (.lst ((dealsL ls p).map dZs))), some (.fr (dF (varQ cs (grd cs ls T).1))), y10, y11, y12, y13, none, none, none] := by
  refine .inl ⟨ms, 30, rfl, by decide, fun a ms1 a0 a1 => .inl ⟨ms1, 7, rfl, by decide, fun b ms2 b0 b1 => ⟨a, 1 + b, rfl, ⟨by unfold LowQ; omega, Nat.lt_of_le_of_lt (show _ ≤ 480 by omega) (by decide +kernel), Nat.lt_of_le_of_lt (show _ ≤ 480 by omega) (by decide +kernel)⟩, ?_⟩⟩⟩
  have ht := pr_ok a0 a1 b0 b1
  generalize Rat.divInt a (1 + b) = t at ht
  exact tlB_ok h ht fun ms y => hnx _ _ _ _
set_option maxHeartbeats 1000000 in
theorem t14_law (T' : Txt K mg) (h : Cx54 cs ls p T) (hE : RtT E) :
    (ch_law_14 P w K mg base T').p E [some (.fr (.scr ns)), some (.ow false (rowO ms)), some (.fr (dFs cs)), some (.fr (dZs ls)), some (.fr (.int p)), some (.fr (dFs cs)), some (.fr (dZs ls)), some (.fr (dGrd (grd cs ls T))), some (.fr (.lst ((dealsL ls p).map dZs))), some (.fr (dF (varQ cs (grd cs ls T).1))), y10, none, none, none, none, none, none] := by
  unfold ch_law_14; dsimp only
  obtain ⟨h0, hp, hpe, hps, hl1⟩ := id h
  have h4 := h0.2.1
  have hl4 : ls.length ≤ 4 := by rw [← h0.1]; exact h4
  obtain ⟨g1, g2, g3, g4⟩ := h.g
  refine ⟨⟨by decide, by decide⟩, fun i s => ∃ (ms : List Int) (y10 y11 y12 y13 : Option S), s = [some (.fr (.scr ns)), some (.ow false (rowO ms)), some (.fr (dFs cs)), some (.fr (dZs ls)), some (.fr (.int p)), some (.fr (dFs cs)), some (.fr (dZs ls)), some (.fr (dGrd (grd cs ls T))), some (.fr (.lst ((dealsL ls p).map dZs))), some (.fr (dF (varQ cs (grd cs ls T).1))), y10, y11, y12, y13, none, none, none], ⟨ms, y10, none, none, none, rfl⟩, ?_, ?_⟩
  · rintro i d s hd ⟨ms, y10, y11, y12, y13, rfl⟩
    exact tlA_ok h fun ms y y12 y13 => ⟨_, _, _, _, _, rfl⟩
  · rintro s ⟨ms, y10, y11, y12, y13, rfl⟩
    exact t15_law (P := P) (w := w) (base := base) T' hE
set_option maxHeartbeats 4000000 in
theorem t13_law (T' : Txt K mg) (h : Cx54 cs ls p T) (hE : RtT E) :
    (ch_law_13 P w K mg base T').p E [some (.fr (.scr ns)), some (.ow false (rowO ms)), some (.fr (dFs cs)), some (.fr (dZs ls)), some (.fr (.int p)), some (.fr (dFs cs)), some (.fr (dZs ls)), some (.fr (dGrd (grd cs ls T))), some (.fr (.lst ((dealsL ls p).map dZs))), some (.fr (dF (varQ cs (grd cs ls T).1))), y10, none, none, none, none, none, none] := by
  unfold ch_law_13; dsimp only
  obtain ⟨h0, hp, hpe, hps, hl1⟩ := id h
  obtain ⟨g1, g2, g3, g4⟩ := h.g
  obtain ⟨o, r, e⟩ : ∃ o r, dealsL ls p = o :: r := by
    have hm : (grd cs ls T).1 ∈ dealsL ls p := mem_deals.mpr ⟨g1, g2⟩
    cases e : dealsL ls p with
    | nil => rw [e] at hm; cases hm
    | cons o r => exact ⟨o, r, rfl⟩
  obtain ⟨o1, o2⟩ := mem_deals.mp (show o ∈ dealsL ls p by rw [e]; exact List.mem_cons_self)
  have oz := o1.numZ h0
  have ha : atI ((dealsL ls p).map dZs) 0 = some (dZs o) := atI_get (by decide) (by rw [e]; rfl)
  show (match atI ((dealsL ls p).map dZs) 0 with | some d => _ | none => False)
  rw [ha]
  refine ⟨cs, ls, o, rfl, ⟨h0, oz⟩, ?_⟩
  show (match atI ((dealsL ls p).map dZs) 0 with | some d => _ | none => False)
  rw [ha]
  refine ⟨cs, ls, o, rfl, ⟨h0, oz⟩, pl_dF 58 (varQ cs o), pl_dF 58 (varQ cs o), fun hz => nq rfl hz, fun _ => ?_⟩
  refine .inr (.inl ⟨cs, ls, p, (grd cs ls T).2, rfl, ⟨h0, hp, g4⟩, pl_dF 58 (Bd cs ls p (grd cs ls T).2), pl_dF 58 (varQ cs (grd cs ls T).1), fun hz => nq (by rw [bd_eq h0 g1 g2 g3]) hz, fun _ => ?_⟩)
  exact t14_law (P := P) (w := w) (base := base) T' h hE
set_option maxHeartbeats 4000000 in
theorem t12_law (T' : Txt K mg) (h : Cx54 cs ls p T) (hE : RtT E) :
    (ch_law_12 P w K mg base T').p E [some (.fr (.scr ns)), some (.ow false (rowO ms)), some (.fr (dFs cs)), some (.fr (dZs ls)), some (.fr (.int p)), some (.fr (dFs cs)), some (.fr (dZs ls)), some (.fr (dGrd (grd cs ls T))), some (.fr (.lst ((dealsL ls p).map dZs))), some (.fr (dF (varQ cs (grd cs ls T).1))), none, none, none, none, none, none, none] := by
  unfold ch_law_12; dsimp only
  obtain ⟨h0, hp, hpe, hps, hl1⟩ := id h
  obtain ⟨g1, g2, g3, g4⟩ := h.g
  refine ⟨fun i s => ∃ y10, s = [some (.fr (.scr ns)), some (.ow false (rowO ms)), some (.fr (dFs cs)), some (.fr (dZs ls)), some (.fr (.int p)), some (.fr (dFs cs)), some (.fr (dZs ls)), some (.fr (dGrd (grd cs ls T))), some (.fr (.lst ((dealsL ls p).map dZs))), some (.fr (dF (varQ cs (grd cs ls T).1))), y10, none, none, none, none, none, none], ⟨none, rfl⟩, ?_, ?_⟩
  · rintro i d s hd ⟨y10, rfl⟩
    obtain ⟨o, ho, rfl⟩ := map_at hd
    obtain ⟨o1, o2⟩ := mem_deals.mp (List.mem_of_getElem? ho)
    have oz := o1.numZ h0
    refine ⟨ls, p, o, rfl, ⟨?_, ?_, hp, fun n hn => ?_⟩, fun hz => ⟨cs, ls, o, rfl, ⟨h0, oz⟩, varQ cs o, varQ cs (grd cs ls T).1, rfl, ⟨sz54 (var_fz h0 o1), sz54 (var_fz h0 g1)⟩, fun hy => ?_, fun _ => ⟨_, rfl⟩⟩, fun hz => ?_⟩
    · have := h0.1; have := h0.2.1; omega
    · have := o1.1; have := h0.1; have := h0.2.1; omega
    · have := oz.2 n hn; omega
    · have := bd_le h0 o1 o2 (t := (grd cs ls T).2)
      rw [bd_eq h0 g1 g2 g3] at this
      exact absurd this (Rat.not_le.mpr (of_decide_eq_true hy))
    · have hz : dealB ls p o = false := hz
      rw [dealB_iff.mpr ⟨o1, o2⟩] at hz
      cases hz
  · rintro s ⟨y10, rfl⟩
    exact t13_law (P := P) (w := w) (base := base) T' h hE
set_option maxHeartbeats 4000000 in
theorem t11_law (T' : Txt K mg) (h : Cx54 cs ls p T) (hE : RtT E) :
    (ch_law_11 P w K mg base T').p E [some (.fr (.scr ns)), some (.ow false (rowO ms)), some (.fr (dFs cs)), some (.fr (dZs ls)), some (.fr (.int p)), some (.fr (dFs cs)), some (.fr (dZs ls)), some (.fr (dGrd (grd cs ls T))), some (.fr (.lst ((dealsL ls p).map dZs))), none, none, none, none, none, none, none, none] := by
  unfold ch_law_11; dsimp only
  obtain ⟨h0, hp, hpe, hps, hl1⟩ := id h
  obtain ⟨g1, g2, g3, g4⟩ := h.g
  refine .inr (.inl ⟨cs, ls, (grd cs ls T).1, rfl, ⟨h0, g1.numZ h0⟩, ?_⟩)
  exact t12_law (P := P) (w := w) (base := base) T' h hE
set_option maxHeartbeats 4000000 in
theorem t10_law (T' : Txt K mg) (h : Cx54 cs ls p T) (hE : RtT E) :
    (ch_law_10 P w K mg base T').p E [some (.fr (.scr ns)), some (.ow false (rowO ms)), some (.fr (dFs cs)), some (.fr (dZs ls)), some (.fr (.int p)), some (.fr (dFs cs)), some (.fr (dZs ls)), some (.fr (dGrd (grd cs ls T))), some (.fr (.lst ((dealsL ls p).map dZs))), none, none, none, none, none, none, none, none] := by
  unfold ch_law_10; dsimp only
  obtain ⟨h0, hp, hpe, hps, hl1⟩ := id h
  refine ⟨cs, ls, p, rfl, ⟨h0, by omega, hps, hp⟩, pl_dGrd _, pl_dGrd _, fun hz => ?_, fun _ => ?_⟩
  · rw [show (p - (ls.length : Int)).toNat = T by omega] at hz
    exact nq rfl hz
  · exact ⟨fun _ => t11_law (P := P) (w := w) (base := base) T' h hE, fun hz => (by cases hz)⟩
set_option maxHeartbeats 4000000 in
theorem t9_law (T' : Txt K mg) (h0 : Sta1 cs ls) (h00 : 1 ≤ ls.length) (hp : p.natAbs ≤ 100) (h1 : ((ls.length : Int) ≤ p ∧ p ≤ isum ls) → td = dGrd (grd cs ls (p - ls.length).toNat)) (h2 : ¬ ((ls.length : Int) ≤ p ∧ p ≤ isum ls) → td = .str "none") (hE : RtT E) :
    (ch_law_9 P w K mg base T').p E [some (.fr (.scr ns)), some (.ow false (rowO ms)), some (.fr (dFs cs)), some (.fr (dZs ls)), some (.fr (.int p)), some (.fr (dFs cs)), some (.fr (dZs ls)), some (.fr td), some (.ow false (.lst ((dealsL ls p).map dZs))), none, none, none, none, none, none, none, none] := by
  unfold ch_law_9; dsimp only
  have hpl := pl_deals (dealsL ls p)
  have h4 := h0.2.1
  have hl4 : ls.length ≤ 4 := by rw [← h0.1]; exact h4
  refine ⟨hpl, by decide, fun hz => ?_, fun hz => ?_⟩
  · have hn : ¬ ((ls.length : Int) ≤ p ∧ p ≤ isum ls) := fun hin => by
      have hc : Cx54 cs ls p (p - ls.length).toNat := ⟨h0, hp, by omega, hin.2, h00⟩
      obtain ⟨g1, g2, _⟩ := hc.g
      have hm : (grd cs ls (p - ls.length).toNat).1 ∈ dealsL ls p := mem_deals.mpr ⟨g1, g2⟩
      have hz : eqD (.lst ((dealsL ls p).map dZs)) (.lst []) = true := hz
      rw [eqD_false (fun e => by
        have e : (dealsL ls p).map dZs = [] := by injection e
        rw [List.map_eq_nil_iff.mp e] at hm
        cases hm)] at hz
      cases hz
    obtain rfl := h2 hn
    refine ⟨fun _ => ?_, fun hz => absurd hz (by decide)⟩
    refine ⟨by rw [List.length_map]; omega, fun i acc s => acc = List.replicate i (D.int 1) ∧ s = [some (.fr (.scr ns)), some (.ow false (rowO ms)), some (.fr (dFs cs)), some (.fr (dZs ls)), some (.fr (.int p)), some (.fr (dFs cs)), some (.fr (dZs ls)), some (.fr (.str "none")), some (.fr (.lst ((dealsL ls p).map dZs))), none, none, none, none, none, none, none, none], ⟨rfl, rfl⟩, ?_, ?_⟩
    · rintro i d acc s hd ⟨rfl, rfl⟩
      exact ⟨by rw [List.replicate_succ']; rfl, rfl⟩
    · rintro acc s ⟨rfl, rfl⟩
      refine ⟨ls, p, List.replicate ls.length 1, ?_, ⟨by omega, by rw [List.length_replicate]; omega, hp, fun n hn => by rw [List.eq_of_mem_replicate hn]; decide⟩, ?_⟩
      · rw [List.length_map, ones_is]
        rfl
      · have hd : dealB ls p (List.replicate ls.length 1) = false := Bool.eq_false_iff.mpr fun z => hn (range_of h0 (mem_deals.mpr (dealB_iff.mp z)))
        show E.rt (.fr (.bl (!dealB ls p (List.replicate ls.length 1)))) _
        rw [hd]
        exact hE _ _
  · have hin : (ls.length : Int) ≤ p ∧ p ≤ isum ls := by
      cases e : dealsL ls p with
      | nil =>
        have hz : eqD (.lst ((dealsL ls p).map dZs)) (.lst []) = false := hz
        rw [e] at hz
        have hy : eqD (.lst (List.map dZs [])) (.lst []) = true := eqD_true rfl
        rw [hy] at hz
        cases hz
      | cons o r => exact range_of h0 (by rw [e]; exact List.mem_cons_self)
    obtain rfl := h1 hin
    exact t10_law (P := P) (w := w) (base := base) T' ⟨h0, hp, by omega, hin.2, h00⟩ hE
end

theorem sum_bd {cs : List Rat} {ls : List Int} (h0 : Sta1 cs ls) (h00 : 1 ≤ ls.length) : (ls.length : Int) ≤ isum ls ∧ isum ls ≤ 20 := by
  have h4 := h0.2.1
  have hl4 : ls.length ≤ 4 := by rw [← h0.1]; exact h4
  refine ⟨?_, ?_⟩
  · have := isum_le (ns := List.replicate ls.length 1) (ls := ls) (by simp) fun i n l hn hl => by
      obtain ⟨hi, e⟩ := List.getElem?_eq_some_iff.mp hn
      rw [List.getElem_replicate] at e
      have := h0.2.2.2 l (List.mem_of_getElem? hl)
      omega
    rw [isum_rep] at this
    exact this
  · have h5 : ∀ (xs : List Int), (∀ x ∈ xs, x ≤ 5) → isum xs ≤ 5 * xs.length := by
      intro xs
      induction xs with
      | nil => intro _; exact Int.le_refl _
      | cons x r ih =>
        intro h
        have a := ih fun y hy => h y (List.mem_cons_of_mem _ hy)
        have b := h x List.mem_cons_self
        unfold isum at a ⊢
        rw [List.sum_cons, List.length_cons]
        omega
    have := h5 ls fun x hx => (h0.2.2.2 x hx).2
    omega
def Cost (cs : List Rat) : Prop := 1 ≤ cs.length ∧ cs.length ≤ 4 ∧ ∀ c ∈ cs, Fz 12 40 c ∧ 0 ≤ c
section
variable {ns ms ls : List Int} {cs : List Rat} {p : Int} {td : D} {E : PEnds}
set_option maxHeartbeats 4000000 in
theorem t8_law (T' : Txt K mg) (h0 : Sta1 cs ls) (h00 : 1 ≤ ls.length) (hp : p.natAbs ≤ 100) (h1 : ((ls.length : Int) ≤ p ∧ p ≤ isum ls) → td = dGrd (grd cs ls (p - ls.length).toNat)) (h2 : ¬ ((ls.length : Int) ≤ p ∧ p ≤ isum ls) → td = .str "none") (hE : RtT E) :
    (ch_law_8 P w K mg base T').p E [some (.fr (.scr ns)), some (.ow false (rowO ms)), some (.fr (dFs cs)), some (.ow false (rowO ls)), some (.fr (.int p)), some (.fr (dFs cs)), some (.fr (dZs ls)), some (.fr td), none, none, none, none, none, none, none, none, none] := by
  unfold ch_law_8; dsimp only
  have hl4 : ls.length ≤ 4 := by rw [← h0.1]; exact h0.2.1
  refine .inr (.inl ⟨ls, p, rfl, ⟨hl4, h0.2.2.2⟩, ?_⟩)
  exact t9_law (P := P) (w := w) (base := base) T' h0 h00 hp h1 h2 hE
set_option maxHeartbeats 4000000 in
theorem t7_law (T' : Txt K mg) (h0 : Sta1 cs ls) (h00 : 1 ≤ ls.length) (hp : p.natAbs ≤ 100) (hE : RtT E) :
    (ch_law_7 P w K mg base T').p E [some (.fr (.scr ns)), some (.ow false (rowO ms)), some (.fr (dFs cs)), some (.ow false (rowO ls)), some (.fr (.int p)), some (.fr (dFs cs)), some (.fr (dZs ls)), none, none, none, none, none, none, none, none, none, none] := by
  unfold ch_law_7; dsimp only
  refine ⟨cs, ls, p, rfl, ⟨h0, hp⟩, fun hin => ?_, fun hn => ?_⟩
  · exact t8_law (P := P) (w := w) (base := base) T' h0 h00 hp (fun _ => rfl) (fun h => absurd hin h) hE
  · exact t8_law (P := P) (w := w) (base := base) T' h0 h00 hp (fun h => absurd h hn) (fun _ => rfl) hE
set_option maxHeartbeats 4000000 in
theorem t6_law (T' : Txt K mg) (h0 : Sta1 cs ls) (h00 : 1 ≤ ls.length) (hp : p.natAbs ≤ 100) (hE : RtT E) :
    (ch_law_6 P w K mg base T').p E [some (.fr (.scr ns)), some (.ow false (rowO ms)), some (.fr (dFs cs)), some (.ow false (rowO ls)), some (.fr (.int p)), none, none, none, none, none, none, none, none, none, none, none, none] := by
  unfold ch_law_6; dsimp only
  exact t7_law (P := P) (w := w) (base := base) T' h0 h00 hp hE
set_option maxHeartbeats 4000000 in
theorem t5_law (T' : Txt K mg) (h0 : Sta1 cs ls) (h00 : 1 ≤ ls.length) (hp : p.natAbs ≤ 100) (hE : RtT E) :
    (ch_law_5 P w K mg base T').p E [some (.fr (.scr ns)), some (.ow false (rowO ms)), some (.fr (dFs cs)), some (.ow false (rowO ls)), some (.fr (.int p)), none, none, none, none, none, none, none, none, none, none, none, none] := by
  unfold ch_law_5; dsimp only
  obtain ⟨b1, b2⟩ := sum_bd h0 h00
  have hl4 : ls.length ≤ 4 := by rw [← h0.1]; exact h0.2.1
  refine ⟨fun s => ∃ (p : Int) (ms : List Int), s = [some (.fr (.scr ns)), some (.ow false (rowO ms)), some (.fr (dFs cs)), some (.ow false (rowO ls)), some (.fr (.int p)), none, none, none, none, none, none, none, none, none, none, none, none] ∧ p.natAbs ≤ 100, ?_, ?_⟩
  · refine .inl ⟨ms, 6, rfl, by decide, fun z ms1 z0 z1 => ⟨fun _ => ⟨ls, rfl, .inl ⟨ms1, 3, rfl, by decide, fun u ms2 u0 u1 => ?_⟩⟩, fun _ => ⟨p, ms1, rfl, hp⟩⟩⟩
    have : u = 0 ∨ u = 1 ∨ u = 2 := by omega
    rcases this with rfl | rfl | rfl
    · exact ⟨_, ms2, rfl, by decide⟩
    · exact ⟨_, ms2, rfl, by rw [List.length_map]; omega⟩
    · exact ⟨_, ms2, rfl, by show (isum ls + 1).natAbs ≤ 100; omega⟩
  · rintro s ⟨p, ms, rfl, hp⟩
    exact t6_law (P := P) (w := w) (base := base) T' h0 h00 hp hE
set_option maxHeartbeats 4000000 in
theorem t4_law (T' : Txt K mg) (h0 : Sta1 cs ls) (h00 : 1 ≤ ls.length) (hE : RtT E) :
    (ch_law_4 P w K mg base T').p E [some (.fr (.scr ns)), some (.ow false (rowO ms)), some (.fr (dFs cs)), some (.ow false (rowO ls)), none, none, none, none, none, none, none, none, none, none, none, none, none] := by
  unfold ch_law_4; dsimp only
  obtain ⟨b1, b2⟩ := sum_bd h0 h00
  have hl4 : ls.length ≤ 4 := by rw [← h0.1]; exact h0.2.1
  refine .inl ⟨ls, rfl, ms, isum ls - ((ls.map D.int).length : Int) + 1, rfl, by rw [List.length_map]; omega, fun z ms1 z0 z1 => ?_⟩
  rw [List.length_map] at z1
  exact t5_law (P := P) (w := w) (base := base) T' h0 h00 (by rw [List.length_map]; omega) hE
set_option maxHeartbeats 4000000 in
theorem t3_law (T' : Txt K mg) (hc : Cost cs) (hE : RtT E) :
    (ch_law_3 P w K mg base T').p E [some (.fr (.scr ns)), some (.ow false (rowO ms)), some (.ow false (.lst (cs.map dF))), none, none, none, none, none, none, none, none, none, none, none, none, none, none] := by
  unfold ch_law_3; dsimp only
  refine ⟨by rw [List.length_map]; have := hc.2.1; omega, fun i acc s => ∃ (ms xs : List Int), acc = xs.map D.int ∧ xs.length = i ∧ (∀ x ∈ xs, 1 ≤ x ∧ x ≤ 5) ∧ s = [some (.fr (.scr ns)), some (.ow false (rowO ms)), some (.fr (dFs cs)), none, none, none, none, none, none, none, none, none, none, none, none, none, none], ⟨ms, [], rfl, rfl, fun x hx => (by cases hx), rfl⟩, ?_, ?_⟩
  · rintro i d acc s hd ⟨ms, xs, rfl, hx, hx2, rfl⟩
    refine .inl ⟨ms, 5, rfl, by decide, fun z ms1 z0 z1 => ⟨ms1, xs ++ [1 + z], by rw [List.map_append]; rfl, by rw [List.length_append, hx]; rfl, fun x h => ?_, rfl⟩⟩
    rcases List.mem_append.mp h with h | h
    · exact hx2 x h
    · rw [List.mem_singleton.mp h]; omega
  · rintro acc s ⟨ms, xs, rfl, hx, hx2, rfl⟩
    rw [List.length_map] at hx
    exact t4_law (P := P) (w := w) (base := base) T' ⟨hx.symm, hc.2.1, hc.2.2, hx2⟩ (by rw [hx]; exact hc.1) hE
set_option maxHeartbeats 4000000 in
theorem t2_law (T' : Txt K mg) (hc : Cost cs) (hE : RtT E) :
    (ch_law_2 P w K mg base T').p E [some (.fr (.scr ns)), some (.ow false (rowO ms)), some (.ow false (.lst (cs.map dF))), none, none, none, none, none, none, none, none, none, none, none, none, none, none] := by
  unfold ch_law_2; dsimp only
  refine ⟨fun s => ∃ (cs : List Rat) (ms : List Int), s = [some (.fr (.scr ns)), some (.ow false (rowO ms)), some (.ow false (.lst (cs.map dF))), none, none, none, none, none, none, none, none, none, none, none, none, none, none] ∧ Cost cs, ?_, ?_⟩
  · refine .inl ⟨ms, 3, rfl, by decide, fun z ms1 z0 z1 => ⟨fun _ => ?_, fun _ => ⟨cs, ms1, rfl, hc⟩⟩⟩
    have ha : atI (cs.map dF) 0 = some (dF (cs.headD 0)) := atI_get (by decide) (by
      cases cs with
      | nil => exact absurd hc.1 (by decide)
      | cons c r => rfl)
    have hm : cs.headD 0 ∈ cs := by
      cases cs with
      | nil => exact absurd hc.1 (by decide)
      | cons c r => exact List.mem_cons_self
    refine ⟨by rw [List.length_map]; have := hc.2.1; omega, fun i acc s => acc = (List.replicate i (cs.headD 0)).map dF ∧ s = [some (.fr (.scr ns)), some (.ow false (rowO ms1)), some (.fr (dFs cs)), none, none, none, none, none, none, none, none, none, none, none, none, none, none], ⟨rfl, rfl⟩, ?_, ?_⟩
    · rintro i d acc s hd ⟨rfl, rfl⟩
      show (match atI (cs.map dF) 0 with | some d => _ | none => False)
      rw [ha]
      exact ⟨by rw [List.replicate_succ', List.map_append]; rfl, rfl⟩
    · rintro acc s ⟨rfl, rfl⟩
      rw [List.length_map]
      refine ⟨List.replicate cs.length (cs.headD 0), ms1, rfl, by rw [List.length_replicate]; exact hc.1, by rw [List.length_replicate]; exact hc.2.1, fun c h => ?_⟩
      rw [List.eq_of_mem_replicate h]
      exact hc.2.2 _ hm
  · rintro s ⟨cs, ms, rfl, hc⟩
    exact t3_law (P := P) (w := w) (base := base) T' hc hE
end
set_option maxHeartbeats 4000000 in
theorem okP_law (T : Txt K mg) : FnOk P w K mg base CX0 7 T.f_law T.fd_law ["_law_script"] (Lsp K psp_law) := by
  refine T.F_law.ok sc_law (fun vs H Q E h => lsp_len h) (fun cdv A outer s H vs Q E hr h => ⟨_, (pss_cons (ps_set (i := 1) sc_law.nd rfl (Or.inr rfl) (pe_call (ok__law_numbers T) (hr.mono (by decide)) (by rfl) T.g__law_numbers T.F__law_numbers.kp T.b__law_numbers .nil pass0 (pa_cons (pv 0) (pa_cons pe_int pa_nil))))
      ((pss_cons (ps_set (i := 2) sc_law.nd rfl (Or.inr rfl) (pe_lc (own := [("_law_k", 14)]) (g := gName 14) rfl sc_law.nd (pi_range1 (by rfl) T.z_range (pa_cons (pe_op op_add pe_int (pe_call (ok__law_take T) (hr.mono (by decide)) (by rfl) T.g__law_take T.F__law_take.kp T.b__law_take .nil pass0 (pa_cons (pv 1) (pa_cons pe_int pa_nil)))) pa_nil)) (blkOk_by (own := [("_law_k", 14)]) (N := nm_law) (sc := defScope s_law) (by decide +kernel)) (fun _ _ _ _ _ => pg_name (i := 14) sc_law.nd rfl (Or.inl rfl)) (fun _ _ _ _ _ => pts_nil) (fun _ _ _ _ _ => (pe_call (ok__law_low T) (hr.mono (by decide)) (by rfl) T.g__law_low T.F__law_low.kp T.b__law_low .nil pass0 (pa_cons (pe_call (ok__law_take T) (hr.mono (by decide)) (by rfl) T.g__law_take T.F__law_take.kp T.b__law_take .nil pass0 (pa_cons (pv 1) (pa_cons pe_int pa_nil))) (pa_cons (pe_op op_add pe_int (pe_call (ok__law_take T) (hr.mono (by decide)) (by rfl) T.g__law_take T.F__law_take.kp T.b__law_take .nil pass0 (pa_cons (pv 1) (pa_cons pe_int pa_nil)))) pa_nil))))))
      ((ch_law_2 P w K mg base T).h cdv A outer s H E hr)))), ?_⟩)
  try dsimp only [cxK, blkK, noxK, wishK]
  refine lsp_body (N := nm_law) h (by decide) fun xs q hn h => ?_
  clear hn
  obtain ⟨ns, rfl, hns, hq⟩ := h
  refine ⟨ns, 110, rfl, ⟨hns, by decide, by decide⟩, fun ms0 => ?_⟩
  refine .inl ⟨ms0, 4, rfl, by decide, fun y ms1 y0 y1 => ?_⟩
  obtain ⟨m, rfl⟩ : ∃ m : Nat, y = m := ⟨y.toNat, by omega⟩
  refine ⟨⟨by omega, by omega⟩, by rw [rngD_len]; omega, fun i acc s => ∃ (ms : List Int) (cs : List Rat), acc = cs.map dF ∧ cs.length = i ∧ (∀ c ∈ cs, Fz 12 40 c ∧ 0 ≤ c) ∧ s = [some (.fr (.scr ns)), some (.ow false (rowO ms)), none, none, none, none, none, none, none, none, none, none, none, none, none, none, none], ⟨ms1, [], rfl, rfl, fun x hx => (by cases hx), rfl⟩, ?_, ?_⟩
  · rintro i d acc s hd ⟨ms, cs, rfl, hl, hcs, rfl⟩
    refine .inl ⟨ms, 40, rfl, by decide, fun a ms2 a0 a1 => .inl ⟨ms2, 4, rfl, by decide, fun b ms3 b0 b1 => ⟨a, 1 + b, rfl, ⟨by unfold LowQ; omega, Nat.lt_of_le_of_lt (show _ ≤ 480 by omega) (by decide +kernel), Nat.lt_of_le_of_lt (show _ ≤ 480 by omega) (by decide +kernel)⟩, ?_⟩⟩⟩
    refine ⟨ms3, cs ++ [Rat.divInt a (1 + b)], by rw [List.map_append]; rfl, by rw [List.length_append, hl]; rfl, fun c h => ?_, rfl⟩
    rcases List.mem_append.mp h with h | h
    · exact hcs c h
    · rw [List.mem_singleton.mp h]
      exact co_ok a0 a1 b0 b1
  · rintro acc s ⟨ms, cs, rfl, hl, hcs, rfl⟩
    rw [rngD_len] at hl
    exact t2_law (P := P) (w := w) (base := base) T ⟨by omega, by omega, hcs⟩ (fun _ _ => hq)

theorem ok_law (T : Txt K mg) : FnOk P w K mg base CX0 7 T.f_law T.fd_law ["_law_script"] (sp_law K) := (okP_law T).imp law_imp
end
set_option maxHeartbeats 0 in
theorem all_mk {l : PySem.W.OpenLaw} {w : World} {K : PySem.W.Frag} {h : Heap} {mg : Str → Option Value} {fa a_SamphireError a_ZeroDenominator a_NoDeal f_lowest f_plus f_minus f_times f_over f_less f_sum_of f_is_deal f_variance_of f_fall f_next_place f_deal f_least_term f_deal_bound f__law_mix f__law_numbers f__law_take f__law_low f__law_plus f__law_times f__law_less f__law_variance f__law_deals f__law_fall f__law_greedy f__law_bound f__law_told f_law a_NOTHING : Addr} (X : K.In h) (G : h.Ns mainGlobals mg) (hfa : mg "law" = some (.ref fa))
    {odlowest anlowest : Option Addr} {sllowest : Array (Option Value)} {oclowest kVlowest dclowest pmlowest cdlowest ctlowest : Value}
    {odplus anplus : Option Addr} {slplus : Array (Option Value)} {ocplus kVplus dcplus pmplus cdplus ctplus : Value}
    {odminus anminus : Option Addr} {slminus : Array (Option Value)} {ocminus kVminus dcminus pmminus cdminus ctminus : Value}
    {odtimes antimes : Option Addr} {sltimes : Array (Option Value)} {octimes kVtimes dctimes pmtimes cdtimes cttimes : Value}
    {odover anover : Option Addr} {slover : Array (Option Value)} {ocover kVover dcover pmover cdover ctover : Value}
    {odless anless : Option Addr} {slless : Array (Option Value)} {ocless kVless dcless pmless cdless ctless : Value}
    {odsum_of ansum_of : Option Addr} {slsum_of : Array (Option Value)} {ocsum_of kVsum_of dcsum_of pmsum_of cdsum_of ctsum_of : Value}
    {odis_deal anis_deal : Option Addr} {slis_deal : Array (Option Value)} {ocis_deal kVis_deal dcis_deal pmis_deal cdis_deal ctis_deal : Value}
    {odvariance_of anvariance_of : Option Addr} {slvariance_of : Array (Option Value)} {ocvariance_of kVvariance_of dcvariance_of pmvariance_of cdvariance_of ctvariance_of : Value}
    {odfall anfall : Option Addr} {slfall : Array (Option Value)} {ocfall kVfall dcfall pmfall cdfall ctfall : Value}
    {odnext_place annext_place : Option Addr} {slnext_place : Array (Option Value)} {ocnext_place kVnext_place dcnext_place pmnext_place cdnext_place ctnext_place : Value}
    {oddeal andeal : Option Addr} {sldeal : Array (Option Value)} {ocdeal kVdeal dcdeal pmdeal cddeal ctdeal : Value}
    {odleast_term anleast_term : Option Addr} {slleast_term : Array (Option Value)} {ocleast_term kVleast_term dcleast_term pmleast_term cdleast_term ctleast_term : Value}
    {oddeal_bound andeal_bound : Option Addr} {sldeal_bound : Array (Option Value)} {ocdeal_bound kVdeal_bound dcdeal_bound pmdeal_bound cddeal_bound ctdeal_bound : Value}
    {od_law_mix an_law_mix : Option Addr} {sl_law_mix : Array (Option Value)} {oc_law_mix kV_law_mix dc_law_mix pm_law_mix cd_law_mix ct_law_mix : Value}
    {od_law_numbers an_law_numbers : Option Addr} {sl_law_numbers : Array (Option Value)} {oc_law_numbers kV_law_numbers dc_law_numbers pm_law_numbers cd_law_numbers ct_law_numbers : Value}
    {od_law_take an_law_take : Option Addr} {sl_law_take : Array (Option Value)} {oc_law_take kV_law_take dc_law_take pm_law_take cd_law_take ct_law_take : Value}
    {od_law_low an_law_low : Option Addr} {sl_law_low : Array (Option Value)} {oc_law_low kV_law_low dc_law_low pm_law_low cd_law_low ct_law_low : Value}
    {od_law_plus an_law_plus : Option Addr} {sl_law_plus : Array (Option Value)} {oc_law_plus kV_law_plus dc_law_plus pm_law_plus cd_law_plus ct_law_plus : Value}
    {od_law_times an_law_times : Option Addr} {sl_law_times : Array (Option Value)} {oc_law_times kV_law_times dc_law_times pm_law_times cd_law_times ct_law_times : Value}
    {od_law_less an_law_less : Option Addr} {sl_law_less : Array (Option Value)} {oc_law_less kV_law_less dc_law_less pm_law_less cd_law_less ct_law_less : Value}
    {od_law_variance an_law_variance : Option Addr} {sl_law_variance : Array (Option Value)} {oc_law_variance kV_law_variance dc_law_variance pm_law_variance cd_law_variance ct_law_variance : Value}
    {od_law_deals an_law_deals : Option Addr} {sl_law_deals : Array (Option Value)} {oc_law_deals kV_law_deals dc_law_deals pm_law_deals cd_law_deals ct_law_deals : Value}
    {od_law_fall an_law_fall : Option Addr} {sl_law_fall : Array (Option Value)} {oc_law_fall kV_law_fall dc_law_fall pm_law_fall cd_law_fall ct_law_fall : Value}
    {od_law_greedy an_law_greedy : Option Addr} {sl_law_greedy : Array (Option Value)} {oc_law_greedy kV_law_greedy dc_law_greedy pm_law_greedy cd_law_greedy ct_law_greedy : Value}
    {od_law_bound an_law_bound : Option Addr} {sl_law_bound : Array (Option Value)} {oc_law_bound kV_law_bound dc_law_bound pm_law_bound cd_law_bound ct_law_bound : Value}
    {od_law_told an_law_told : Option Addr} {sl_law_told : Array (Option Value)} {oc_law_told kV_law_told dc_law_told pm_law_told cd_law_told ct_law_told : Value}
    {odlaw anlaw : Option Addr} {sllaw : Array (Option Value)} {oclaw kVlaw dclaw pmlaw cdlaw ctlaw : Value}
    {odNOTHING : Option Addr} {slNOTHING : Array (Option Value)} {nNOTHING : Nat} {tNOTHING0 tNOTHING1 : Tok}
    (hSamphireError : PySem.W.nsIn K mainGlobals "SamphireError" = some (some (.ref a_SamphireError)))
    (kpSamphireError : PySem.W.keepIn K (.ref a_SamphireError) = true)
    (sbSamphireError : PySem.W.subIn K (.ref a_SamphireError) (.type "BaseException") = some true)
    (tySamphireError : PySem.W.typeIn K (.ref a_SamphireError) = some (.type "type"))
    (hdSamphireError : PySem.W.hasDictIn K a_SamphireError = true)
    (hZeroDenominator : PySem.W.nsIn K mainGlobals "ZeroDenominator" = some (some (.ref a_ZeroDenominator)))
    (kpZeroDenominator : PySem.W.keepIn K (.ref a_ZeroDenominator) = true)
    (sbZeroDenominator : PySem.W.subIn K (.ref a_ZeroDenominator) (.type "BaseException") = some true)
    (tyZeroDenominator : PySem.W.typeIn K (.ref a_ZeroDenominator) = some (.type "type"))
    (hdZeroDenominator : PySem.W.hasDictIn K a_ZeroDenominator = true)
    (xZeroDenominator : PySem.W.excIn K a_ZeroDenominator [.type "ValueError", .type "Exception", .type "BaseException", .type "object"] "ValueError.__new__" = true)
    (hNoDeal : PySem.W.nsIn K mainGlobals "NoDeal" = some (some (.ref a_NoDeal)))
    (kpNoDeal : PySem.W.keepIn K (.ref a_NoDeal) = true)
    (sbNoDeal : PySem.W.subIn K (.ref a_NoDeal) (.type "BaseException") = some true)
    (tyNoDeal : PySem.W.typeIn K (.ref a_NoDeal) = some (.type "type"))
    (hdNoDeal : PySem.W.hasDictIn K a_NoDeal = true)
    (xNoDeal : PySem.W.excIn K a_NoDeal [.type "ValueError", .type "Exception", .type "BaseException", .type "object"] "ValueError.__new__" = true)
    (xmNoDealNoDeal : PySem.W.subIn K (.ref a_NoDeal) (.ref a_NoDeal) = some true)
    (alowest : PySem.W.nsIn K mainGlobals "lowest" = some (some (.ref f_lowest)))
    (llowest : K.lookup f_lowest = some ⟨oclowest, odlowest, .func (PySem.W.fnOf "lowest" "lowest" (defArgs s_lowest) (defBody s_lowest) (defScope s_lowest) .none kVlowest dclowest pmlowest anlowest cdlowest ctlowest), sllowest⟩)
    (clowest : PySem.W.codeIn K cdlowest "lowest" = true)
    (klowest : PySem.W.keepIn K (.ref f_lowest) = true)
    (aplus : PySem.W.nsIn K mainGlobals "plus" = some (some (.ref f_plus)))
    (lplus : K.lookup f_plus = some ⟨ocplus, odplus, .func (PySem.W.fnOf "plus" "plus" (defArgs s_plus) (defBody s_plus) (defScope s_plus) .none kVplus dcplus pmplus anplus cdplus ctplus), slplus⟩)
    (cplus : PySem.W.codeIn K cdplus "plus" = true)
    (kplus : PySem.W.keepIn K (.ref f_plus) = true)
    (aminus : PySem.W.nsIn K mainGlobals "minus" = some (some (.ref f_minus)))
    (lminus : K.lookup f_minus = some ⟨ocminus, odminus, .func (PySem.W.fnOf "minus" "minus" (defArgs s_minus) (defBody s_minus) (defScope s_minus) .none kVminus dcminus pmminus anminus cdminus ctminus), slminus⟩)
    (cminus : PySem.W.codeIn K cdminus "minus" = true)
    (kminus : PySem.W.keepIn K (.ref f_minus) = true)
    (atimes : PySem.W.nsIn K mainGlobals "times" = some (some (.ref f_times)))
    (ltimes : K.lookup f_times = some ⟨octimes, odtimes, .func (PySem.W.fnOf "times" "times" (defArgs s_times) (defBody s_times) (defScope s_times) .none kVtimes dctimes pmtimes antimes cdtimes cttimes), sltimes⟩)
    (ctimes : PySem.W.codeIn K cdtimes "times" = true)
    (ktimes : PySem.W.keepIn K (.ref f_times) = true)
    (aover : PySem.W.nsIn K mainGlobals "over" = some (some (.ref f_over)))
    (lover : K.lookup f_over = some ⟨ocover, odover, .func (PySem.W.fnOf "over" "over" (defArgs s_over) (defBody s_over) (defScope s_over) .none kVover dcover pmover anover cdover ctover), slover⟩)
    (cover : PySem.W.codeIn K cdover "over" = true)
    (kover : PySem.W.keepIn K (.ref f_over) = true)
    (aless : PySem.W.nsIn K mainGlobals "less" = some (some (.ref f_less)))
    (lless : K.lookup f_less = some ⟨ocless, odless, .func (PySem.W.fnOf "less" "less" (defArgs s_less) (defBody s_less) (defScope s_less) .none kVless dcless pmless anless cdless ctless), slless⟩)
    (cless : PySem.W.codeIn K cdless "less" = true)
    (kless : PySem.W.keepIn K (.ref f_less) = true)
    (asum_of : PySem.W.nsIn K mainGlobals "sum_of" = some (some (.ref f_sum_of)))
    (lsum_of : K.lookup f_sum_of = some ⟨ocsum_of, odsum_of, .func (PySem.W.fnOf "sum_of" "sum_of" (defArgs s_sum_of) (defBody s_sum_of) (defScope s_sum_of) .none kVsum_of dcsum_of pmsum_of ansum_of cdsum_of ctsum_of), slsum_of⟩)
    (csum_of : PySem.W.codeIn K cdsum_of "sum_of" = true)
    (ksum_of : PySem.W.keepIn K (.ref f_sum_of) = true)
    (ais_deal : PySem.W.nsIn K mainGlobals "is_deal" = some (some (.ref f_is_deal)))
    (lis_deal : K.lookup f_is_deal = some ⟨ocis_deal, odis_deal, .func (PySem.W.fnOf "is_deal" "is_deal" (defArgs s_is_deal) (defBody s_is_deal) (defScope s_is_deal) .none kVis_deal dcis_deal pmis_deal anis_deal cdis_deal ctis_deal), slis_deal⟩)
    (cis_deal : PySem.W.codeIn K cdis_deal "is_deal" = true)
    (kis_deal : PySem.W.keepIn K (.ref f_is_deal) = true)
    (avariance_of : PySem.W.nsIn K mainGlobals "variance_of" = some (some (.ref f_variance_of)))
    (lvariance_of : K.lookup f_variance_of = some ⟨ocvariance_of, odvariance_of, .func (PySem.W.fnOf "variance_of" "variance_of" (defArgs s_variance_of) (defBody s_variance_of) (defScope s_variance_of) .none kVvariance_of dcvariance_of pmvariance_of anvariance_of cdvariance_of ctvariance_of), slvariance_of⟩)
    (cvariance_of : PySem.W.codeIn K cdvariance_of "variance_of" = true)
    (kvariance_of : PySem.W.keepIn K (.ref f_variance_of) = true)
    (afall : PySem.W.nsIn K mainGlobals "fall" = some (some (.ref f_fall)))
    (lfall : K.lookup f_fall = some ⟨ocfall, odfall, .func (PySem.W.fnOf "fall" "fall" (defArgs s_fall) (defBody s_fall) (defScope s_fall) .none kVfall dcfall pmfall anfall cdfall ctfall), slfall⟩)
    (cfall : PySem.W.codeIn K cdfall "fall" = true)
    (kfall : PySem.W.keepIn K (.ref f_fall) = true)
    (anext_place : PySem.W.nsIn K mainGlobals "next_place" = some (some (.ref f_next_place)))
    (lnext_place : K.lookup f_next_place = some ⟨ocnext_place, odnext_place, .func (PySem.W.fnOf "next_place" "next_place" (defArgs s_next_place) (defBody s_next_place) (defScope s_next_place) .none kVnext_place dcnext_place pmnext_place annext_place cdnext_place ctnext_place), slnext_place⟩)
    (cnext_place : PySem.W.codeIn K cdnext_place "next_place" = true)
    (knext_place : PySem.W.keepIn K (.ref f_next_place) = true)
    (adeal : PySem.W.nsIn K mainGlobals "deal" = some (some (.ref f_deal)))
    (ldeal : K.lookup f_deal = some ⟨ocdeal, oddeal, .func (PySem.W.fnOf "deal" "deal" (defArgs s_deal) (defBody s_deal) (defScope s_deal) .none kVdeal dcdeal pmdeal andeal cddeal ctdeal), sldeal⟩)
    (cdeal : PySem.W.codeIn K cddeal "deal" = true)
    (kdeal : PySem.W.keepIn K (.ref f_deal) = true)
    (aleast_term : PySem.W.nsIn K mainGlobals "least_term" = some (some (.ref f_least_term)))
    (lleast_term : K.lookup f_least_term = some ⟨ocleast_term, odleast_term, .func (PySem.W.fnOf "least_term" "least_term" (defArgs s_least_term) (defBody s_least_term) (defScope s_least_term) .none kVleast_term dcleast_term pmleast_term anleast_term cdleast_term ctleast_term), slleast_term⟩)
    (cleast_term : PySem.W.codeIn K cdleast_term "least_term" = true)
    (kleast_term : PySem.W.keepIn K (.ref f_least_term) = true)
    (adeal_bound : PySem.W.nsIn K mainGlobals "deal_bound" = some (some (.ref f_deal_bound)))
    (ldeal_bound : K.lookup f_deal_bound = some ⟨ocdeal_bound, oddeal_bound, .func (PySem.W.fnOf "deal_bound" "deal_bound" (defArgs s_deal_bound) (defBody s_deal_bound) (defScope s_deal_bound) .none kVdeal_bound dcdeal_bound pmdeal_bound andeal_bound cddeal_bound ctdeal_bound), sldeal_bound⟩)
    (cdeal_bound : PySem.W.codeIn K cddeal_bound "deal_bound" = true)
    (kdeal_bound : PySem.W.keepIn K (.ref f_deal_bound) = true)
    (a_law_mix : PySem.W.nsIn K mainGlobals "_law_mix" = some (some (.ref f__law_mix)))
    (l_law_mix : K.lookup f__law_mix = some ⟨oc_law_mix, od_law_mix, .func (PySem.W.fnOf "_law_mix" "_law_mix" (defArgs s__law_mix) (defBody s__law_mix) (defScope s__law_mix) .none kV_law_mix dc_law_mix pm_law_mix an_law_mix cd_law_mix ct_law_mix), sl_law_mix⟩)
    (c_law_mix : PySem.W.codeIn K cd_law_mix "_law_mix" = true)
    (k_law_mix : PySem.W.keepIn K (.ref f__law_mix) = true)
    (a_law_numbers : PySem.W.nsIn K mainGlobals "_law_numbers" = some (some (.ref f__law_numbers)))
    (l_law_numbers : K.lookup f__law_numbers = some ⟨oc_law_numbers, od_law_numbers, .func (PySem.W.fnOf "_law_numbers" "_law_numbers" (defArgs s__law_numbers) (defBody s__law_numbers) (defScope s__law_numbers) .none kV_law_numbers dc_law_numbers pm_law_numbers an_law_numbers cd_law_numbers ct_law_numbers), sl_law_numbers⟩)
    (c_law_numbers : PySem.W.codeIn K cd_law_numbers "_law_numbers" = true)
    (k_law_numbers : PySem.W.keepIn K (.ref f__law_numbers) = true)
    (a_law_take : PySem.W.nsIn K mainGlobals "_law_take" = some (some (.ref f__law_take)))
    (l_law_take : K.lookup f__law_take = some ⟨oc_law_take, od_law_take, .func (PySem.W.fnOf "_law_take" "_law_take" (defArgs s__law_take) (defBody s__law_take) (defScope s__law_take) .none kV_law_take dc_law_take pm_law_take an_law_take cd_law_take ct_law_take), sl_law_take⟩)
    (c_law_take : PySem.W.codeIn K cd_law_take "_law_take" = true)
    (k_law_take : PySem.W.keepIn K (.ref f__law_take) = true)
    (a_law_low : PySem.W.nsIn K mainGlobals "_law_low" = some (some (.ref f__law_low)))
    (l_law_low : K.lookup f__law_low = some ⟨oc_law_low, od_law_low, .func (PySem.W.fnOf "_law_low" "_law_low" (defArgs s__law_low) (defBody s__law_low) (defScope s__law_low) .none kV_law_low dc_law_low pm_law_low an_law_low cd_law_low ct_law_low), sl_law_low⟩)
    (c_law_low : PySem.W.codeIn K cd_law_low "_law_low" = true)
    (k_law_low : PySem.W.keepIn K (.ref f__law_low) = true)
    (a_law_plus : PySem.W.nsIn K mainGlobals "_law_plus" = some (some (.ref f__law_plus)))
    (l_law_plus : K.lookup f__law_plus = some ⟨oc_law_plus, od_law_plus, .func (PySem.W.fnOf "_law_plus" "_law_plus" (defArgs s__law_plus) (defBody s__law_plus) (defScope s__law_plus) .none kV_law_plus dc_law_plus pm_law_plus an_law_plus cd_law_plus ct_law_plus), sl_law_plus⟩)
    (c_law_plus : PySem.W.codeIn K cd_law_plus "_law_plus" = true)
    (k_law_plus : PySem.W.keepIn K (.ref f__law_plus) = true)
    (a_law_times : PySem.W.nsIn K mainGlobals "_law_times" = some (some (.ref f__law_times)))
    (l_law_times : K.lookup f__law_times = some ⟨oc_law_times, od_law_times, .func (PySem.W.fnOf "_law_times" "_law_times" (defArgs s__law_times) (defBody s__law_times) (defScope s__law_times) .none kV_law_times dc_law_times pm_law_times an_law_times cd_law_times ct_law_times), sl_law_times⟩)
    (c_law_times : PySem.W.codeIn K cd_law_times "_law_times" = true)
    (k_law_times : PySem.W.keepIn K (.ref f__law_times) = true)
    (a_law_less : PySem.W.nsIn K mainGlobals "_law_less" = some (some (.ref f__law_less)))
    (l_law_less : K.lookup f__law_less = some ⟨oc_law_less, od_law_less, .func (PySem.W.fnOf "_law_less" "_law_less" (defArgs s__law_less) (defBody s__law_less) (defScope s__law_less) .none kV_law_less dc_law_less pm_law_less an_law_less cd_law_less ct_law_less), sl_law_less⟩)
    (c_law_less : PySem.W.codeIn K cd_law_less "_law_less" = true)
    (k_law_less : PySem.W.keepIn K (.ref f__law_less) = true)
    (a_law_variance : PySem.W.nsIn K mainGlobals "_law_variance" = some (some (.ref f__law_variance)))
    (l_law_variance : K.lookup f__law_variance = some ⟨oc_law_variance, od_law_variance, .func (PySem.W.fnOf "_law_variance" "_law_variance" (defArgs s__law_variance) (defBody s__law_variance) (defScope s__law_variance) .none kV_law_variance dc_law_variance pm_law_variance an_law_variance cd_law_variance ct_law_variance), sl_law_variance⟩)
    (c_law_variance : PySem.W.codeIn K cd_law_variance "_law_variance" = true)
    (k_law_variance : PySem.W.keepIn K (.ref f__law_variance) = true)
    (a_law_deals : PySem.W.nsIn K mainGlobals "_law_deals" = some (some (.ref f__law_deals)))
    (l_law_deals : K.lookup f__law_deals = some ⟨oc_law_deals, od_law_deals, .func (PySem.W.fnOf "_law_deals" "_law_deals" (defArgs s__law_deals) (defBody s__law_deals) (defScope s__law_deals) .none kV_law_deals dc_law_deals pm_law_deals an_law_deals cd_law_deals ct_law_deals), sl_law_deals⟩)
    (c_law_deals : PySem.W.codeIn K cd_law_deals "_law_deals" = true)
    (k_law_deals : PySem.W.keepIn K (.ref f__law_deals) = true)
    (a_law_fall : PySem.W.nsIn K mainGlobals "_law_fall" = some (some (.ref f__law_fall)))
    (l_law_fall : K.lookup f__law_fall = some ⟨oc_law_fall, od_law_fall, .func (PySem.W.fnOf "_law_fall" "_law_fall" (defArgs s__law_fall) (defBody s__law_fall) (defScope s__law_fall) .none kV_law_fall dc_law_fall pm_law_fall an_law_fall cd_law_fall ct_law_fall), sl_law_fall⟩)
    (c_law_fall : PySem.W.codeIn K cd_law_fall "_law_fall" = true)
    (k_law_fall : PySem.W.keepIn K (.ref f__law_fall) = true)
    (a_law_greedy : PySem.W.nsIn K mainGlobals "_law_greedy" = some (some (.ref f__law_greedy)))
    (l_law_greedy : K.lookup f__law_greedy = some ⟨oc_law_greedy, od_law_greedy, .func (PySem.W.fnOf "_law_greedy" "_law_greedy" (defArgs s__law_greedy) (defBody s__law_greedy) (defScope s__law_greedy) .none kV_law_greedy dc_law_greedy pm_law_greedy an_law_greedy cd_law_greedy ct_law_greedy), sl_law_greedy⟩)
    (c_law_greedy : PySem.W.codeIn K cd_law_greedy "_law_greedy" = true)
    (k_law_greedy : PySem.W.keepIn K (.ref f__law_greedy) = true)
    (a_law_bound : PySem.W.nsIn K mainGlobals "_law_bound" = some (some (.ref f__law_bound)))
    (l_law_bound : K.lookup f__law_bound = some ⟨oc_law_bound, od_law_bound, .func (PySem.W.fnOf "_law_bound" "_law_bound" (defArgs s__law_bound) (defBody s__law_bound) (defScope s__law_bound) .none kV_law_bound dc_law_bound pm_law_bound an_law_bound cd_law_bound ct_law_bound), sl_law_bound⟩)
    (c_law_bound : PySem.W.codeIn K cd_law_bound "_law_bound" = true)
    (k_law_bound : PySem.W.keepIn K (.ref f__law_bound) = true)
    (a_law_told : PySem.W.nsIn K mainGlobals "_law_told" = some (some (.ref f__law_told)))
    (l_law_told : K.lookup f__law_told = some ⟨oc_law_told, od_law_told, .func (PySem.W.fnOf "_law_told" "_law_told" (defArgs s__law_told) (defBody s__law_told) (defScope s__law_told) .none kV_law_told dc_law_told pm_law_told an_law_told cd_law_told ct_law_told), sl_law_told⟩)
    (c_law_told : PySem.W.codeIn K cd_law_told "_law_told" = true)
    (k_law_told : PySem.W.keepIn K (.ref f__law_told) = true)
    (alaw : PySem.W.nsIn K mainGlobals "law" = some (some (.ref f_law)))
    (llaw : K.lookup f_law = some ⟨oclaw, odlaw, .func (PySem.W.fnOf "law" "law" (defArgs s_law) (defBody s_law) (defScope s_law) .none kVlaw dclaw pmlaw anlaw cdlaw ctlaw), sllaw⟩)
    (claw : PySem.W.codeIn K cdlaw "law" = true)
    (klaw : PySem.W.keepIn K (.ref f_law) = true)
    (hNOTHING : PySem.W.nsIn K mainGlobals "NOTHING" = some (some (.ref a_NOTHING)))
    (lNOTHING : K.lookup a_NOTHING = some ⟨.type "tuple", odNOTHING, .seq (List.toArray [.int (0) tNOTHING0, .int (1) tNOTHING1]) nNOTHING, slNOTHING⟩)
    (zabs : PySem.W.nsIn K mainGlobals "abs" = some none)
    (zall : PySem.W.nsIn K mainGlobals "all" = some none)
    (zenumerate : PySem.W.nsIn K mainGlobals "enumerate" = some none)
    (zint : PySem.W.nsIn K mainGlobals "int" = some none)
    (zisinstance : PySem.W.nsIn K mainGlobals "isinstance" = some none)
    (zlen : PySem.W.nsIn K mainGlobals "len" = some none)
    (zlist : PySem.W.nsIn K mainGlobals "list" = some none)
    (zmax : PySem.W.nsIn K mainGlobals "max" = some none)
    (zrange : PySem.W.nsIn K mainGlobals "range" = some none)
    (zsum : PySem.W.nsIn K mainGlobals "sum" = some none)
    (ztuple : PySem.W.nsIn K mainGlobals "tuple" = some none)
    (zzip : PySem.W.nsIn K mainGlobals "zip" = some none)
    (hgcd : PySem.W.nsIn K mainGlobals "gcd" = some (some (.builtin "math.gcd")))
    : ∃ fd : FuncData, (∀ (s : Shared) (v : Value), BindsTo s fd ⟨[v], []⟩ [("_law_script", v)]) ∧ ∀ base : Heap, K.In base → base.Ns mainGlobals mg → FnOk l.prog w K mg base CX0 7 fa fd ["_law_script"] (sp_lawT [] K) := by
  have e := hfa.symm.trans (PySem.W.mg_of X G alaw)
  cases e
  letI : Tbs := ⟨[], h⟩
  let T : Txt K mg := {
    a_SamphireError := a_SamphireError
    g_SamphireError := PySem.W.mg_of X G hSamphireError
    kp_SamphireError := kpSamphireError
    sb_SamphireError := sbSamphireError
    ty_SamphireError := tySamphireError
    a_ZeroDenominator := a_ZeroDenominator
    g_ZeroDenominator := PySem.W.mg_of X G hZeroDenominator
    kp_ZeroDenominator := kpZeroDenominator
    sb_ZeroDenominator := sbZeroDenominator
    ty_ZeroDenominator := tyZeroDenominator
    x_ZeroDenominator := xZeroDenominator
    a_NoDeal := a_NoDeal
    g_NoDeal := PySem.W.mg_of X G hNoDeal
    kp_NoDeal := kpNoDeal
    sb_NoDeal := sbNoDeal
    ty_NoDeal := tyNoDeal
    x_NoDeal := xNoDeal
    xm_NoDeal_NoDeal := PySem.W.exm_ref sbNoDeal hdNoDeal tyNoDeal xmNoDealNoDeal
    g_lowest := PySem.W.mg_of X G alowest
    f_lowest := f_lowest
    fd_lowest := _
    F_lowest := fun_mk (st := s_lowest) llowest clowest klowest
    b_lowest := (fun_mk (st := s_lowest) llowest clowest klowest).binds (ps := ["p", "q"]) fun _ _ _ _ _ _ us hl => match us, hl with | [_, _], _ => rfl
    g_plus := PySem.W.mg_of X G aplus
    f_plus := f_plus
    fd_plus := _
    F_plus := fun_mk (st := s_plus) lplus cplus kplus
    b_plus := (fun_mk (st := s_plus) lplus cplus kplus).binds (ps := ["a", "b"]) fun _ _ _ _ _ _ us hl => match us, hl with | [_, _], _ => rfl
    g_minus := PySem.W.mg_of X G aminus
    f_minus := f_minus
    fd_minus := _
    F_minus := fun_mk (st := s_minus) lminus cminus kminus
    b_minus := (fun_mk (st := s_minus) lminus cminus kminus).binds (ps := ["a", "b"]) fun _ _ _ _ _ _ us hl => match us, hl with | [_, _], _ => rfl
    g_times := PySem.W.mg_of X G atimes
    f_times := f_times
    fd_times := _
    F_times := fun_mk (st := s_times) ltimes ctimes ktimes
    b_times := (fun_mk (st := s_times) ltimes ctimes ktimes).binds (ps := ["a", "b"]) fun _ _ _ _ _ _ us hl => match us, hl with | [_, _], _ => rfl
    g_over := PySem.W.mg_of X G aover
    f_over := f_over
    fd_over := _
    F_over := fun_mk (st := s_over) lover cover kover
    b_over := (fun_mk (st := s_over) lover cover kover).binds (ps := ["a", "b"]) fun _ _ _ _ _ _ us hl => match us, hl with | [_, _], _ => rfl
    g_less := PySem.W.mg_of X G aless
    f_less := f_less
    fd_less := _
    F_less := fun_mk (st := s_less) lless cless kless
    b_less := (fun_mk (st := s_less) lless cless kless).binds (ps := ["a", "b"]) fun _ _ _ _ _ _ us hl => match us, hl with | [_, _], _ => rfl
    g_sum_of := PySem.W.mg_of X G asum_of
    f_sum_of := f_sum_of
    fd_sum_of := _
    F_sum_of := fun_mk (st := s_sum_of) lsum_of csum_of ksum_of
    b_sum_of := (fun_mk (st := s_sum_of) lsum_of csum_of ksum_of).binds (ps := ["fractions"]) fun _ _ _ _ _ _ us hl => match us, hl with | [_], _ => rfl
    g_is_deal := PySem.W.mg_of X G ais_deal
    f_is_deal := f_is_deal
    fd_is_deal := _
    F_is_deal := fun_mk (st := s_is_deal) lis_deal cis_deal kis_deal
    b_is_deal := (fun_mk (st := s_is_deal) lis_deal cis_deal kis_deal).binds (ps := ["limits", "places", "numbers"]) fun _ _ _ _ _ _ us hl => match us, hl with | [_, _, _], _ => rfl
    g_variance_of := PySem.W.mg_of X G avariance_of
    f_variance_of := f_variance_of
    fd_variance_of := _
    F_variance_of := fun_mk (st := s_variance_of) lvariance_of cvariance_of kvariance_of
    b_variance_of := (fun_mk (st := s_variance_of) lvariance_of cvariance_of kvariance_of).binds (ps := ["costs", "numbers"]) fun _ _ _ _ _ _ us hl => match us, hl with | [_, _], _ => rfl
    g_fall := PySem.W.mg_of X G afall
    f_fall := f_fall
    fd_fall := _
    F_fall := fun_mk (st := s_fall) lfall cfall kfall
    b_fall := (fun_mk (st := s_fall) lfall cfall kfall).binds (ps := ["cost", "number"]) fun _ _ _ _ _ _ us hl => match us, hl with | [_, _], _ => rfl
    g_next_place := PySem.W.mg_of X G anext_place
    f_next_place := f_next_place
    fd_next_place := _
    F_next_place := fun_mk (st := s_next_place) lnext_place cnext_place knext_place
    b_next_place := (fun_mk (st := s_next_place) lnext_place cnext_place knext_place).binds (ps := ["costs", "limits", "numbers"]) fun _ _ _ _ _ _ us hl => match us, hl with | [_, _, _], _ => rfl
    g_deal := PySem.W.mg_of X G adeal
    f_deal := f_deal
    fd_deal := _
    F_deal := fun_mk (st := s_deal) ldeal cdeal kdeal
    b_deal := (fun_mk (st := s_deal) ldeal cdeal kdeal).binds (ps := ["costs", "limits", "places"]) fun _ _ _ _ _ _ us hl => match us, hl with | [_, _, _], _ => rfl
    g_least_term := PySem.W.mg_of X G aleast_term
    f_least_term := f_least_term
    fd_least_term := _
    F_least_term := fun_mk (st := s_least_term) lleast_term cleast_term kleast_term
    b_least_term := (fun_mk (st := s_least_term) lleast_term cleast_term kleast_term).binds (ps := ["cost", "limit", "price"]) fun _ _ _ _ _ _ us hl => match us, hl with | [_, _, _], _ => rfl
    g_deal_bound := PySem.W.mg_of X G adeal_bound
    f_deal_bound := f_deal_bound
    fd_deal_bound := _
    F_deal_bound := fun_mk (st := s_deal_bound) ldeal_bound cdeal_bound kdeal_bound
    b_deal_bound := (fun_mk (st := s_deal_bound) ldeal_bound cdeal_bound kdeal_bound).binds (ps := ["costs", "limits", "places", "price"]) fun _ _ _ _ _ _ us hl => match us, hl with | [_, _, _, _], _ => rfl
    g__law_mix := PySem.W.mg_of X G a_law_mix
    f__law_mix := f__law_mix
    fd__law_mix := _
    F__law_mix := fun_mk (st := s__law_mix) l_law_mix c_law_mix k_law_mix
    b__law_mix := (fun_mk (st := s__law_mix) l_law_mix c_law_mix k_law_mix).binds (ps := ["_law_number", "_law_k"]) fun _ _ _ _ _ _ us hl => match us, hl with | [_, _], _ => rfl
    g__law_numbers := PySem.W.mg_of X G a_law_numbers
    f__law_numbers := f__law_numbers
    fd__law_numbers := _
    F__law_numbers := fun_mk (st := s__law_numbers) l_law_numbers c_law_numbers k_law_numbers
    b__law_numbers := (fun_mk (st := s__law_numbers) l_law_numbers c_law_numbers k_law_numbers).binds (ps := ["_law_script", "_law_count"]) fun _ _ _ _ _ _ us hl => match us, hl with | [_, _], _ => rfl
    g__law_take := PySem.W.mg_of X G a_law_take
    f__law_take := f__law_take
    fd__law_take := _
    F__law_take := fun_mk (st := s__law_take) l_law_take c_law_take k_law_take
    b__law_take := (fun_mk (st := s__law_take) l_law_take c_law_take k_law_take).binds (ps := ["_law_row", "_law_bound_here"]) fun _ _ _ _ _ _ us hl => match us, hl with | [_, _], _ => rfl
    g__law_low := PySem.W.mg_of X G a_law_low
    f__law_low := f__law_low
    fd__law_low := _
    F__law_low := fun_mk (st := s__law_low) l_law_low c_law_low k_law_low
    b__law_low := (fun_mk (st := s__law_low) l_law_low c_law_low k_law_low).binds (ps := ["_law_p", "_law_q"]) fun _ _ _ _ _ _ us hl => match us, hl with | [_, _], _ => rfl
    g__law_plus := PySem.W.mg_of X G a_law_plus
    f__law_plus := f__law_plus
    fd__law_plus := _
    F__law_plus := fun_mk (st := s__law_plus) l_law_plus c_law_plus k_law_plus
    b__law_plus := (fun_mk (st := s__law_plus) l_law_plus c_law_plus k_law_plus).binds (ps := ["_law_one", "_law_other"]) fun _ _ _ _ _ _ us hl => match us, hl with | [_, _], _ => rfl
    g__law_times := PySem.W.mg_of X G a_law_times
    f__law_times := f__law_times
    fd__law_times := _
    F__law_times := fun_mk (st := s__law_times) l_law_times c_law_times k_law_times
    b__law_times := (fun_mk (st := s__law_times) l_law_times c_law_times k_law_times).binds (ps := ["_law_one", "_law_other"]) fun _ _ _ _ _ _ us hl => match us, hl with | [_, _], _ => rfl
    g__law_less := PySem.W.mg_of X G a_law_less
    f__law_less := f__law_less
    fd__law_less := _
    F__law_less := fun_mk (st := s__law_less) l_law_less c_law_less k_law_less
    b__law_less := (fun_mk (st := s__law_less) l_law_less c_law_less k_law_less).binds (ps := ["_law_one", "_law_other"]) fun _ _ _ _ _ _ us hl => match us, hl with | [_, _], _ => rfl
    g__law_variance := PySem.W.mg_of X G a_law_variance
    f__law_variance := f__law_variance
    fd__law_variance := _
    F__law_variance := fun_mk (st := s__law_variance) l_law_variance c_law_variance k_law_variance
    b__law_variance := (fun_mk (st := s__law_variance) l_law_variance c_law_variance k_law_variance).binds (ps := ["_law_costs", "_law_numbers_here"]) fun _ _ _ _ _ _ us hl => match us, hl with | [_, _], _ => rfl
    g__law_deals := PySem.W.mg_of X G a_law_deals
    f__law_deals := f__law_deals
    fd__law_deals := _
    F__law_deals := fun_mk (st := s__law_deals) l_law_deals c_law_deals k_law_deals
    b__law_deals := (fun_mk (st := s__law_deals) l_law_deals c_law_deals k_law_deals).binds (ps := ["_law_limits", "_law_places"]) fun _ _ _ _ _ _ us hl => match us, hl with | [_, _], _ => rfl
    g__law_fall := PySem.W.mg_of X G a_law_fall
    f__law_fall := f__law_fall
    fd__law_fall := _
    F__law_fall := fun_mk (st := s__law_fall) l_law_fall c_law_fall k_law_fall
    b__law_fall := (fun_mk (st := s__law_fall) l_law_fall c_law_fall k_law_fall).binds (ps := ["_law_cost", "_law_number"]) fun _ _ _ _ _ _ us hl => match us, hl with | [_, _], _ => rfl
    g__law_greedy := PySem.W.mg_of X G a_law_greedy
    f__law_greedy := f__law_greedy
    fd__law_greedy := _
    F__law_greedy := fun_mk (st := s__law_greedy) l_law_greedy c_law_greedy k_law_greedy
    b__law_greedy := (fun_mk (st := s__law_greedy) l_law_greedy c_law_greedy k_law_greedy).binds (ps := ["_law_costs", "_law_limits", "_law_places"]) fun _ _ _ _ _ _ us hl => match us, hl with | [_, _, _], _ => rfl
    g__law_bound := PySem.W.mg_of X G a_law_bound
    f__law_bound := f__law_bound
    fd__law_bound := _
    F__law_bound := fun_mk (st := s__law_bound) l_law_bound c_law_bound k_law_bound
    b__law_bound := (fun_mk (st := s__law_bound) l_law_bound c_law_bound k_law_bound).binds (ps := ["_law_costs", "_law_limits", "_law_places", "_law_price"]) fun _ _ _ _ _ _ us hl => match us, hl with | [_, _, _, _], _ => rfl
    g__law_told := PySem.W.mg_of X G a_law_told
    f__law_told := f__law_told
    fd__law_told := _
    F__law_told := fun_mk (st := s__law_told) l_law_told c_law_told k_law_told
    b__law_told := (fun_mk (st := s__law_told) l_law_told c_law_told k_law_told).binds (ps := ["_law_costs", "_law_limits", "_law_places"]) fun _ _ _ _ _ _ us hl => match us, hl with | [_, _, _], _ => rfl
    g_law := PySem.W.mg_of X G alaw
    f_law := fa
    fd_law := _
    F_law := fun_mk (st := s_law) llaw claw klaw
    b_law := (fun_mk (st := s_law) llaw claw klaw).binds (ps := ["_law_script"]) fun _ _ _ _ _ _ us hl => match us, hl with | [_], _ => rfl
    a_NOTHING := a_NOTHING
    g_NOTHING := PySem.W.mg_of X G hNOTHING
    v_NOTHING := fun H => sqT_of_k lNOTHING (.cons ⟨_, rfl⟩ (.cons ⟨_, rfl⟩ .nil))
    z_abs := PySem.W.mg_none_of X G zabs
    z_all := PySem.W.mg_none_of X G zall
    z_enumerate := PySem.W.mg_none_of X G zenumerate
    z_int := PySem.W.mg_none_of X G zint
    z_isinstance := PySem.W.mg_none_of X G zisinstance
    z_len := PySem.W.mg_none_of X G zlen
    z_list := PySem.W.mg_none_of X G zlist
    z_max := PySem.W.mg_none_of X G zmax
    z_range := PySem.W.mg_none_of X G zrange
    z_sum := PySem.W.mg_none_of X G zsum
    z_tuple := PySem.W.mg_none_of X G ztuple
    z_zip := PySem.W.mg_none_of X G zzip
    g_gcd := PySem.W.mg_of X G hgcd }
  exact ⟨T.fd_law, fun s v => .of_eq rfl, fun base _ _ => ok_law T⟩
end Sam
open PySem PySem.W PyProof.Rows
set_option maxHeartbeats 0 in
theorem PySem.Challenge.cw_samphire_k54_whole_places_for_strata_holds : PySem.Challenge.rw_samphire_k54_whole_places_for_strata.Holds := by
  w_on; o_law; k_head; (case hw => w_witness2)
  k_fill
  refine L2.walk_of (l := PySem.Challenge.rw_samphire_k54_whole_places_for_strata) (n := 63) (k := 7) (x := "_law_script") (CX := fun _ => L2.CX0) (sp := fun w => Sam.sp_lawT [] _) rfl (by decide) rfl ⟨rfl, by decide, by decide⟩ (fun w h Y => PySem.W.kIn_of Y) ?F (fun _ _ a ns hl _ hS => ⟨(fun p hp => nomatch hp), a, ns, rfl, hS, hl, fun _ => rfl⟩) (fun _ _ _ _ _ h => h)
  case F =>
    intro w mg fa h KX G hmg
    haveI : Sam.Tbs := ⟨[], h⟩
    refine' Sam.all_mk KX G hmg ?hSamphireError ?kpSamphireError ?sbSamphireError ?tySamphireError ?hdSamphireError ?hZeroDenominator ?kpZeroDenominator ?sbZeroDenominator ?tyZeroDenominator ?hdZeroDenominator ?xZeroDenominator ?hNoDeal ?kpNoDeal ?sbNoDeal ?tyNoDeal ?hdNoDeal ?xNoDeal ?xmNoDealNoDeal ?alowest ?llowest ?clowest ?klowest ?aplus ?lplus ?cplus ?kplus ?aminus ?lminus ?cminus ?kminus ?atimes ?ltimes ?ctimes ?ktimes ?aover ?lover ?cover ?kover ?aless ?lless ?cless ?kless ?asum_of ?lsum_of ?csum_of ?ksum_of ?ais_deal ?lis_deal ?cis_deal ?kis_deal ?avariance_of ?lvariance_of ?cvariance_of ?kvariance_of ?afall ?lfall ?cfall ?kfall ?anext_place ?lnext_place ?cnext_place ?knext_place ?adeal ?ldeal ?cdeal ?kdeal ?aleast_term ?lleast_term ?cleast_term ?kleast_term ?adeal_bound ?ldeal_bound ?cdeal_bound ?kdeal_bound ?a_law_mix ?l_law_mix ?c_law_mix ?k_law_mix ?a_law_numbers ?l_law_numbers ?c_law_numbers ?k_law_numbers ?a_law_take ?l_law_take ?c_law_take ?k_law_take ?a_law_low ?l_law_low ?c_law_low ?k_law_low ?a_law_plus ?l_law_plus ?c_law_plus ?k_law_plus ?a_law_times ?l_law_times ?c_law_times ?k_law_times ?a_law_less ?l_law_less ?c_law_less ?k_law_less ?a_law_variance ?l_law_variance ?c_law_variance ?k_law_variance ?a_law_deals ?l_law_deals ?c_law_deals ?k_law_deals ?a_law_fall ?l_law_fall ?c_law_fall ?k_law_fall ?a_law_greedy ?l_law_greedy ?c_law_greedy ?k_law_greedy ?a_law_bound ?l_law_bound ?c_law_bound ?k_law_bound ?a_law_told ?l_law_told ?c_law_told ?k_law_told ?alaw ?llaw ?claw ?klaw ?hNOTHING ?lNOTHING ?zabs ?zall ?zenumerate ?zint ?zisinstance ?zlen ?zlist ?zmax ?zrange ?zsum ?ztuple ?zzip ?hgcd
    (case hSamphireError => k_is)
    (case kpSamphireError => k_is)
    (case sbSamphireError => k_is)
    (case tySamphireError => k_is)
    (case hdSamphireError => k_is)
    (case hZeroDenominator => k_is)
    (case kpZeroDenominator => k_is)
    (case sbZeroDenominator => k_is)
    (case tyZeroDenominator => k_is)
    (case hdZeroDenominator => k_is)
    (case xZeroDenominator => k_exc)
    (case hNoDeal => k_is)
    (case kpNoDeal => k_is)
    (case sbNoDeal => k_is)
    (case tyNoDeal => k_is)
    (case hdNoDeal => k_is)
    (case xNoDeal => k_exc)
    (case xmNoDealNoDeal => first | rfl | k_is)
    (case alowest => k_is)
    (case llowest => k_is)
    (case clowest => k_is)
    (case klowest => k_is)
    (case aplus => k_is)
    (case lplus => k_is)
    (case cplus => k_is)
    (case kplus => k_is)
    (case aminus => k_is)
    (case lminus => k_is)
    (case cminus => k_is)
    (case kminus => k_is)
    (case atimes => k_is)
    (case ltimes => k_is)
    (case ctimes => k_is)
    (case ktimes => k_is)
    (case aover => k_is)
    (case lover => k_is)
    (case cover => k_is)
    (case kover => k_is)
    (case aless => k_is)
    (case lless => k_is)
    (case cless => k_is)
    (case kless => k_is)
    (case asum_of => k_is)
    (case lsum_of => k_is)
    (case csum_of => k_is)
    (case ksum_of => k_is)
    (case ais_deal => k_is)
    (case lis_deal => k_is)
    (case cis_deal => k_is)
    (case kis_deal => k_is)
    (case avariance_of => k_is)
    (case lvariance_of => k_is)
    (case cvariance_of => k_is)
    (case kvariance_of => k_is)
    (case afall => k_is)
    (case lfall => k_is)
    (case cfall => k_is)
    (case kfall => k_is)
    (case anext_place => k_is)
    (case lnext_place => k_is)
    (case cnext_place => k_is)
    (case knext_place => k_is)
    (case adeal => k_is)
    (case ldeal => k_is)
    (case cdeal => k_is)
    (case kdeal => k_is)
    (case aleast_term => k_is)
    (case lleast_term => k_is)
    (case cleast_term => k_is)
    (case kleast_term => k_is)
    (case adeal_bound => k_is)
    (case ldeal_bound => k_is)
    (case cdeal_bound => k_is)
    (case kdeal_bound => k_is)
    (case a_law_mix => k_is)
    (case l_law_mix => k_is)
    (case c_law_mix => k_is)
    (case k_law_mix => k_is)
    (case a_law_numbers => k_is)
    (case l_law_numbers => k_is)
    (case c_law_numbers => k_is)
    (case k_law_numbers => k_is)
    (case a_law_take => k_is)
    (case l_law_take => k_is)
    (case c_law_take => k_is)
    (case k_law_take => k_is)
    (case a_law_low => k_is)
    (case l_law_low => k_is)
    (case c_law_low => k_is)
    (case k_law_low => k_is)
    (case a_law_plus => k_is)
    (case l_law_plus => k_is)
    (case c_law_plus => k_is)
    (case k_law_plus => k_is)
    (case a_law_times => k_is)
    (case l_law_times => k_is)
    (case c_law_times => k_is)
    (case k_law_times => k_is)
    (case a_law_less => k_is)
    (case l_law_less => k_is)
    (case c_law_less => k_is)
    (case k_law_less => k_is)
    (case a_law_variance => k_is)
    (case l_law_variance => k_is)
    (case c_law_variance => k_is)
    (case k_law_variance => k_is)
    (case a_law_deals => k_is)
    (case l_law_deals => k_is)
    (case c_law_deals => k_is)
    (case k_law_deals => k_is)
    (case a_law_fall => k_is)
    (case l_law_fall => k_is)
    (case c_law_fall => k_is)
    (case k_law_fall => k_is)
    (case a_law_greedy => k_is)
    (case l_law_greedy => k_is)
    (case c_law_greedy => k_is)
    (case k_law_greedy => k_is)
    (case a_law_bound => k_is)
    (case l_law_bound => k_is)
    (case c_law_bound => k_is)
    (case k_law_bound => k_is)
    (case a_law_told => k_is)
    (case l_law_told => k_is)
    (case c_law_told => k_is)
    (case k_law_told => k_is)
    (case alaw => k_is)
    (case llaw => k_is)
    (case claw => k_is)
    (case klaw => k_is)
    (case hNOTHING => k_is)
    (case lNOTHING => k_is)
    (case zabs => k_is)
    (case zall => k_is)
    (case zenumerate => k_is)
    (case zint => k_is)
    (case zisinstance => k_is)
    (case zlen => k_is)
    (case zlist => k_is)
    (case zmax => k_is)
    (case zrange => k_is)
    (case zsum => k_is)
    (case ztuple => k_is)
    (case zzip => k_is)
    (case hgcd => k_is)
