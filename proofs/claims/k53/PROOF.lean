import PyProof.Rows.All
import Wide.All
import OpenK.AllK
import Wide.FinOn
import HandS.ForMost
import HandS.Walk
import HandS.Wide
import HandS.Gcd
import HandS.IsInst
import HandS.Codes
import HandS.Exc
import HandS.ExcOwn
import HandS.ExcIs
import HandS.TryOnly
import HandS.WordsExc
import HandS.CallLocal
import HandS.More
import HandS.NoneIn
import HandS.SortInts
import HandS.ExcInit
import HandS.ExcField
import HandS.WordsDict
import HandS.Rev
import PyProof.Rows.StrMeet
import PySem.Challenge.RW_samphire_k53_whole_no_lesser_spread
set_option Elab.async false
set_option linter.all false
set_option maxRecDepth 100000
set_option synthInstance.maxSize 100000
set_option synthInstance.maxHeartbeats 4000000
namespace Sam
open PySem PySem.Spec PyProof.Rows L2
open C8 (pss_cut tCut)
def topS (i : Nat) : Stmt := PySem.Challenge.pw_samphire_k53_whole_no_lesser_spread.main.body.getD i (.Pass ⟨0, 0, 0, 0⟩)
abbrev s_lowest : Stmt := (topS 6)
abbrev nm_lowest : List Str := ["p", "q", "divisor"]
theorem sc_lowest : FnScope ["p", "q", "divisor"] ["p", "q"] (defScope s_lowest) := ⟨rfl, rfl, rfl, by decide +kernel, rfl, by decide +kernel, by decide +kernel⟩
abbrev s_plus : Stmt := (topS 7)
abbrev nm_plus : List Str := ["a", "b"]
theorem sc_plus : FnScope ["a", "b"] ["a", "b"] (defScope s_plus) := ⟨rfl, rfl, rfl, by decide +kernel, rfl, by decide +kernel, by decide +kernel⟩
abbrev s_minus : Stmt := (topS 8)
abbrev nm_minus : List Str := ["a", "b"]
theorem sc_minus : FnScope ["a", "b"] ["a", "b"] (defScope s_minus) := ⟨rfl, rfl, rfl, by decide +kernel, rfl, by decide +kernel, by decide +kernel⟩
abbrev s_times : Stmt := (topS 9)
abbrev nm_times : List Str := ["a", "b"]
theorem sc_times : FnScope ["a", "b"] ["a", "b"] (defScope s_times) := ⟨rfl, rfl, rfl, by decide +kernel, rfl, by decide +kernel, by decide +kernel⟩
abbrev s_over : Stmt := (topS 10)
abbrev nm_over : List Str := ["a", "b"]
theorem sc_over : FnScope ["a", "b"] ["a", "b"] (defScope s_over) := ⟨rfl, rfl, rfl, by decide +kernel, rfl, by decide +kernel, by decide +kernel⟩
abbrev s_less : Stmt := (topS 11)
abbrev nm_less : List Str := ["a", "b"]
theorem sc_less : FnScope ["a", "b"] ["a", "b"] (defScope s_less) := ⟨rfl, rfl, rfl, by decide +kernel, rfl, by decide +kernel, by decide +kernel⟩
abbrev s_sum_of : Stmt := (topS 12)
abbrev nm_sum_of : List Str := ["fractions", "total", "fraction"]
theorem sc_sum_of : FnScope ["fractions", "total", "fraction"] ["fractions"] (defScope s_sum_of) := ⟨rfl, rfl, rfl, by decide +kernel, rfl, by decide +kernel, by decide +kernel⟩
abbrev s_spread : Stmt := (topS 14)
abbrev nm_spread : List Str := ["weights", "chances", "terms", "weight", "chance"]
theorem sc_spread : FnScope ["weights", "chances", "terms", "weight", "chance"] ["weights", "chances"] (defScope s_spread) := ⟨rfl, rfl, rfl, by decide +kernel, rfl, by decide +kernel, by decide +kernel⟩
abbrev s_term_of : Stmt := (topS 15)
abbrev nm_term_of : List Str := ["weight", "price"]
theorem sc_term_of : FnScope ["weight", "price"] ["weight", "price"] (defScope s_term_of) := ⟨rfl, rfl, rfl, by decide +kernel, rfl, by decide +kernel, by decide +kernel⟩
abbrev s_price_bound : Stmt := (topS 16)
abbrev nm_price_bound : List Str := ["weights", "size", "price", "whole", "weight"]
theorem sc_price_bound : FnScope ["weights", "size", "price", "whole", "weight"] ["weights", "size", "price"] (defScope s_price_bound) := ⟨rfl, rfl, rfl, by decide +kernel, rfl, by decide +kernel, by decide +kernel⟩
abbrev s_best_price : Stmt := (topS 17)
abbrev nm_best_price : List Str := ["weights", "size", "small", "sure", "price"]
theorem sc_best_price : FnScope ["weights", "size", "small", "sure", "price"] ["weights", "size"] (defScope s_best_price) := ⟨rfl, rfl, rfl, by decide +kernel, rfl, by decide +kernel, by decide +kernel⟩
abbrev s_best_chances : Stmt := (topS 18)
abbrev nm_best_chances : List Str := ["weights", "size", "price", "chances", "weight", "is_sure"]
theorem sc_best_chances : FnScope ["weights", "size", "price", "chances", "weight", "is_sure"] ["weights", "size"] (defScope s_best_chances) := ⟨rfl, rfl, rfl, by decide +kernel, rfl, by decide +kernel, by decide +kernel⟩
abbrev s__law_mix : Stmt := (topS 20)
abbrev nm__law_mix : List Str := ["_law_number", "_law_k"]
theorem sc__law_mix : FnScope ["_law_number", "_law_k"] ["_law_number", "_law_k"] (defScope s__law_mix) := ⟨rfl, rfl, rfl, by decide +kernel, rfl, by decide +kernel, by decide +kernel⟩
abbrev s__law_numbers : Stmt := (topS 21)
abbrev nm__law_numbers : List Str := ["_law_script", "_law_count", "_law_row", "_law_base", "_law_cell", "_law_rest", "_law_k"]
theorem sc__law_numbers : FnScope ["_law_script", "_law_count", "_law_row", "_law_base", "_law_cell", "_law_rest", "_law_k"] ["_law_script", "_law_count"] (defScope s__law_numbers) := ⟨rfl, rfl, rfl, by decide +kernel, rfl, by decide +kernel, by decide +kernel⟩
abbrev s__law_take : Stmt := (topS 22)
abbrev nm__law_take : List Str := ["_law_row", "_law_bound_here"]
theorem sc__law_take : FnScope ["_law_row", "_law_bound_here"] ["_law_row", "_law_bound_here"] (defScope s__law_take) := ⟨rfl, rfl, rfl, by decide +kernel, rfl, by decide +kernel, by decide +kernel⟩
abbrev s__law_low : Stmt := (topS 23)
abbrev nm__law_low : List Str := ["_law_p", "_law_q", "_law_first", "_law_second"]
theorem sc__law_low : FnScope ["_law_p", "_law_q", "_law_first", "_law_second"] ["_law_p", "_law_q"] (defScope s__law_low) := ⟨rfl, rfl, rfl, by decide +kernel, rfl, by decide +kernel, by decide +kernel⟩
abbrev s__law_plus : Stmt := (topS 24)
abbrev nm__law_plus : List Str := ["_law_one", "_law_other"]
theorem sc__law_plus : FnScope ["_law_one", "_law_other"] ["_law_one", "_law_other"] (defScope s__law_plus) := ⟨rfl, rfl, rfl, by decide +kernel, rfl, by decide +kernel, by decide +kernel⟩
abbrev s__law_times : Stmt := (topS 25)
abbrev nm__law_times : List Str := ["_law_one", "_law_other"]
theorem sc__law_times : FnScope ["_law_one", "_law_other"] ["_law_one", "_law_other"] (defScope s__law_times) := ⟨rfl, rfl, rfl, by decide +kernel, rfl, by decide +kernel, by decide +kernel⟩
abbrev s__law_less : Stmt := (topS 26)
abbrev nm__law_less : List Str := ["_law_one", "_law_other"]
theorem sc__law_less : FnScope ["_law_one", "_law_other"] ["_law_one", "_law_other"] (defScope s__law_less) := ⟨rfl, rfl, rfl, by decide +kernel, rfl, by decide +kernel, by decide +kernel⟩
abbrev s__law_minus : Stmt := (topS 27)
abbrev nm__law_minus : List Str := ["_law_one", "_law_other"]
theorem sc__law_minus : FnScope ["_law_one", "_law_other"] ["_law_one", "_law_other"] (defScope s__law_minus) := ⟨rfl, rfl, rfl, by decide +kernel, rfl, by decide +kernel, by decide +kernel⟩
abbrev s__law_bound : Stmt := (topS 28)
abbrev nm__law_bound : List Str := ["_law_weights", "_law_size", "_law_price", "_law_bound_here", "_law_weight"]
theorem sc__law_bound : FnScope ["_law_weights", "_law_size", "_law_price", "_law_bound_here", "_law_weight"] ["_law_weights", "_law_size", "_law_price"] (defScope s__law_bound) := ⟨rfl, rfl, rfl, by decide +kernel, rfl, by decide +kernel, by decide +kernel⟩
abbrev s__law_spread : Stmt := (topS 29)
abbrev nm__law_spread : List Str := ["_law_weights", "_law_chances_here", "_law_found", "_law_k", "_law_p", "_law_q"]
theorem sc__law_spread : FnScope ["_law_weights", "_law_chances_here", "_law_found", "_law_k", "_law_p", "_law_q"] ["_law_weights", "_law_chances_here"] (defScope s__law_spread) := ⟨rfl, rfl, rfl, by decide +kernel, rfl, by decide +kernel, by decide +kernel⟩
abbrev s__law_chances : Stmt := (topS 30)
abbrev nm__law_chances : List Str := ["_law_row", "_law_many", "_law_size", "_law_parts", "_law_whole", "_law_found", "_law_part", "_law_chance", "_law_k"]
theorem sc__law_chances : FnScope ["_law_row", "_law_many", "_law_size", "_law_parts", "_law_whole", "_law_found", "_law_part", "_law_chance", "_law_k"] ["_law_row", "_law_many", "_law_size"] (defScope s__law_chances) := ⟨rfl, rfl, rfl, by decide +kernel, rfl, by decide +kernel, by decide +kernel⟩
abbrev s__law_kept : Stmt := (topS 31)
abbrev nm__law_kept : List Str := ["_law_weights", "_law_price", "_law_found", "_law_weight", "_law_chance"]
theorem sc__law_kept : FnScope ["_law_weights", "_law_price", "_law_found", "_law_weight", "_law_chance"] ["_law_weights", "_law_price"] (defScope s__law_kept) := ⟨rfl, rfl, rfl, by decide +kernel, rfl, by decide +kernel, by decide +kernel⟩
abbrev s_law : Stmt := (topS 32)
abbrev nm_law : List Str := ["_law_script", "_law_row", "_law_weights", "_law_size", "_law_given", "_law_best", "_law_chances_here", "_law_whole", "_law_chance", "_law_bound_here", "_law_others", "_law_turn", "_law_price", "_law_found", "_law_told", "_law_k"]
theorem sc_law : FnScope ["_law_script", "_law_row", "_law_weights", "_law_size", "_law_given", "_law_best", "_law_chances_here", "_law_whole", "_law_chance", "_law_bound_here", "_law_others", "_law_turn", "_law_price", "_law_found", "_law_told", "_law_k"] ["_law_script"] (defScope s_law) := ⟨rfl, rfl, rfl, by decide +kernel, rfl, by decide +kernel, by decide +kernel⟩
/-! ### own layer: what stays, new objects, steps -/
/-- all that was tracked outside F is as it was -/
def Ex (F : List Addr) (H H' : Hp) : Prop := ∀ b o, b ∉ F → H b = some o → H' b = some o
theorem Ex.refl {F : List Addr} (H : Hp) : Ex F H H := fun _ _ _ h => h
theorem Ex.trans {F : List Addr} {H H1 H2 : Hp} (a : Ex F H H1) (b : Ex F H1 H2) : Ex F H H2 := fun c o n h => b c o n (a c o n h)
theorem Ex.of {F : List Addr} {H H1 : Hp} (a : Same H H1) : Ex F H H1 := fun c o _ h => a c o h
theorem Ex.mono {F G : List Addr} {H H1 : Hp} (a : Ex F H H1) (h : ∀ b, b ∈ F → b ∈ G) : Ex G H H1 := fun c o n e => a c o (fun z => n (h c z)) e
theorem Ex.rd {F : List Addr} {H H' : Hp} {a : Addr} {u : HO} (e : Ex F H H') (n : a ∉ F) (h : Rd H a u) : Rd H' a u := by
  rcases h with h | ⟨o, h⟩
  · exact .inl (e _ _ n h)
  · exact .inr ⟨o, e _ _ n h⟩
theorem Ex.seq {K : PySem.W.Frag} {F : List Addr} {H H' : Hp} {a : Addr} {xs : List V} (e : Ex F H H') (n : a ∉ F) (h : SqL K H a xs) : SqL K H' a xs := by
  rcases h with h | h
  · exact .inl (e.rd n h)
  · exact .inr h
theorem Ex.tup {K : PySem.W.Frag} {F : List Addr} {H H' : Hp} {a : Addr} {xs : List V} (e : Ex F H H') (n : a ∉ F) (h : SqT K H a xs) : SqT K H' a xs := by
  rcases h with h | h
  · exact .inl (e.rd n h)
  · exact .inr h
theorem same_upd {H : Hp} {p : Addr} {o : HO} (h : H p = none) : Same H (upd H p o) := fun b x e => by
  rw [upd_ne (ne_of_none e h)]
  exact e
/-- an object that H does not know is changed -/
theorem _root_.L2.Same.mut {H H' : Hp} {p : Addr} {o : HO} (e : Same H H') (h : H p = none) : Same H (upd H' p o) := fun a u ha => by
  rw [upd_ne (ne_of_none ha h)]
  exact e a u ha
theorem Ex.mut {F : List Addr} {H H' : Hp} {p : Addr} {o : HO} (e : Ex F H H') (h : H p = none ∨ p ∈ F) : Ex F H (upd H' p o) := fun a u n ha => by
  have hne : a ≠ p := by
    rcases h with h | h
    · exact ne_of_none ha h
    · exact fun z => n (z ▸ h)
  rw [upd_ne hne]
  exact e a u n ha
theorem _root_.L2.Same.tupq {K : PySem.W.Frag} {H H' : Hp} {a : Addr} {xs : List V} (e : Same H H') (h : SqT K H a xs) : SqT K H' a xs := by
  rcases h with (h | ⟨o, h⟩) | h
  · exact .inl (.inl (e _ _ h))
  · exact .inl (.inr ⟨o, e _ _ h⟩)
  · exact .inr h
/-- a new object, met by what is known of the heap -/
theorem w_new {H : Hp} {o : HO} {Q : V → Hp → Prop} (h : ∀ p H', H p = none → Same H H' → H' p = some o → Q (.ref p) H') : ∀ p, H p = none → Q (.ref p) (upd H p o) := fun p hp => h p _ hp (same_upd hp) upd_same
section
variable {K : PySem.W.Frag} {H : Hp} {Q : VK}
theorem w_ixL {p : Addr} {xs : List V} {i : Int} {v : V} (h : SqL K H p xs) (e : atI xs i = some v) (q : Q v H) : rIxL K (.ref p) (.int i) H Q := ⟨p, xs, i, v, rfl, rfl, h, e, q⟩
theorem w_ixT {p : Addr} {xs : List V} {i : Int} {v : V} (h : SqT K H p xs) (e : atI xs i = some v) (q : Q v H) : rIxT K (.ref p) (.int i) H Q := ⟨p, xs, i, v, rfl, rfl, h, e, q⟩
end
theorem bl_inj {a b : Bool} (h : V.bl a = V.bl b) : a = b := V.bl.inj h
theorem ite_dec {c : Prop} [Decidable c] {A B : Prop} (h1 : c → A) (h2 : ¬ c → B) : if decide c = true then A else B := by
  by_cases h : c
  · rw [if_pos (decide_eq_true h)]; exact h1 h
  · rw [if_neg (by rw [decide_eq_false h]; exact Bool.false_ne_true)]; exact h2 h
theorem atI_int {xs : List V} {i : Int} {v : V} (h0 : 0 ≤ i) (h : xs[i.toNat]? = some v) : atI xs i = some v := by
  have e := atI_nat h
  rw [Int.toNat_of_nonneg h0] at e
  exact e
theorem map_get {ns : List Int} {i : Nat} {v : V} (h : (ns.map V.int)[i]? = some v) : ∃ z, v = .int z ∧ ns[i]? = some z := by
  rw [List.getElem?_map] at h
  cases e : ns[i]? with
  | none => rw [e] at h; cases h
  | some z => rw [e] at h; exact ⟨z, (Option.some.inj h).symm, rfl⟩
theorem get_map {ns : List Int} {i : Nat} {z : Int} (h : ns[i]? = some z) : (ns.map V.int)[i]? = some (.int z) := by
  rw [List.getElem?_map, h]
  rfl
theorem nin {p L : Addr} (h : p ≠ L) : p ∉ [L] := fun z => h (List.mem_singleton.mp z)
/-- a change at x alone, which H did not know -/
theorem Ex.new1 {F : List Addr} {H H1 H2 : Hp} {x : Addr} (a : Ex F H H1) (b : Ex [x] H1 H2) (h : H x = none) : Ex F H H2 := fun c o n e => b c o (nin (ne_of_none e h)) (a c o n e)
theorem Ex.free {F : List Addr} {H H' : Hp} {l : Addr} (e : Ex F H H') (n : l ∉ F) (h : H' l = none) : H l = none := by
  cases q : H l with
  | none => rfl
  | some o =>
    rw [e l o n q] at h
    cases h
theorem Ex.at {F : List Addr} {H H' : Hp} {l : Addr} {o : HO} (e : Ex F H H') (n : l ∉ F) (h : H l = some o) : H' l = some o := e l o n h
theorem ixN_int {n : Nat} {k : Int} (h0 : 0 ≤ k) (h1 : k < n) : ixN n k = some k.toNat := by
  unfold ixN
  rw [if_pos h0, if_pos h1]
theorem sum_set : ∀ (l : List Int) (j : Nat) (x v : Int), l[j]? = some x → (l.set j v).sum = l.sum - x + v
  | [], _, _, _, h => by simp at h
  | y :: l, 0, x, v, h => by
    have e : y = x := by simpa using h
    subst e
    simp
    omega
  | y :: l, j + 1, x, v, h => by
    have ih := sum_set l j x v (by simpa using h)
    simp only [List.set_cons_succ, List.sum_cons, ih]
    omega
theorem mem_le_sum : ∀ (l : List Int), (∀ x ∈ l, 0 ≤ x) → ∀ x ∈ l, x ≤ l.sum
  | [], _, x, hx => by simp at hx
  | y :: l, h, x, hx => by
    have h0 : 0 ≤ y := h y List.mem_cons_self
    have hl : ∀ x ∈ l, 0 ≤ x := fun z hz => h z (List.mem_cons_of_mem _ hz)
    have hs : 0 ≤ l.sum := sum_nn l hl
    rcases List.mem_cons.mp hx with e | e
    · subst e; rw [List.sum_cons]; omega
    · have := mem_le_sum l hl x e
      rw [List.sum_cons]; omega
where
  sum_nn : ∀ (l : List Int), (∀ x ∈ l, 0 ≤ x) → 0 ≤ l.sum
    | [], _ => by simp
    | y :: l, h => by
      have h0 : 0 ≤ y := h y List.mem_cons_self
      have := sum_nn l (fun z hz => h z (List.mem_cons_of_mem _ hz))
      rw [List.sum_cons]; omega
theorem sum_le_of : ∀ (l : List Int) (b : Int), (∀ x ∈ l, x ≤ b) → l.sum ≤ b * l.length
  | [], _, _ => by simp
  | y :: l, b, h => by
    have h0 : y ≤ b := h y List.mem_cons_self
    have := sum_le_of l b (fun z hz => h z (List.mem_cons_of_mem _ hz))
    rw [List.sum_cons, List.length_cons]
    have e : b * ((l.length + 1 : Nat) : Int) = b * l.length + b := by
      rw [Int.natCast_add, Int.mul_add]; simp
    omega
theorem w_yes {σ : L2.St} {H : Hp} {A B : Hp → Prop} (h : A H) : tYes σ H (fun b H3 => if b = true then A H3 else B H3) := by
  show (if true = true then A H else B H)
  rw [if_pos rfl]
  exact h
theorem lk_eq {f : Str} {v : V} {fs : List (Str × V)} : ((f, v) :: fs).lookup f = some v := by simp [List.lookup]
theorem lk_ne {f g : Str} {v : V} {fs : List (Str × V)} (h : (f == g) = false) : ((g, v) :: fs).lookup f = fs.lookup f := by simp [List.lookup, h]
theorem putF_eq {f : Str} {u v : V} {fs : List (Str × V)} : putF f v ((f, u) :: fs) = (f, v) :: fs := by simp [putF]
theorem putF_ne {f g : Str} {u v : V} {fs : List (Str × V)} (h : ¬ g = f) : putF f v ((g, u) :: fs) = (g, u) :: putF f v fs := by simp [putF, h]
theorem putF_nil {f : Str} {v : V} : putF f v [] = [(f, v)] := rfl
/-- a list stays where a thing of another kind at x changes -/
theorem _root_.L2.SqL.stay {K : PySem.W.Frag} {H H' : Hp} {a x : Addr} {xs : List V} {o : HO} (h : SqL K H a xs) (hx : H x = some o) (ho : ∀ ys, o ≠ .lst ys) (ho2 : ∀ b u, o ≠ .frz b u) (e : Ex [x] H H') : SqL K H' a xs := by
  rcases h with (h | ⟨u, h⟩) | h
  · exact .inl (.inl (e _ _ (nin fun z => ho _ (Option.some.inj ((z ▸ hx).symm.trans h))) h))
  · exact .inl (.inr ⟨u, e _ _ (nin fun z => ho2 _ _ (Option.some.inj ((z ▸ hx).symm.trans h))) h⟩)
  · exact .inr h
theorem sqT_of_k {K : PySem.W.Frag} {H : Hp} {a : Addr} {dd : Option Addr} {its : Array Value} {n : Nat} {sl : Array (Option Value)} {xs : List V}
    (l : K.lookup a = some ⟨.type "tuple", dd, .seq its n, sl⟩) (h : Vals xs its.toList) (hz : its.size ≤ 1000 := by simp) : SqT K H a xs :=
  .inr ⟨_, its, n, l, rfl, rfl, Nat.le_trans hz (by decide), h⟩
/-! rules whose reading names K, for use within a comprehension's block -/
section
variable {X : Cx} {K : PySem.W.Frag}
theorem ixLk (h : X.K = K) : IxR X (rIxL K) := by subst h; exact ix_list
theorem ixTk (h : X.K = K) : IxR X (rIxT K) := by subst h; exact ix_tup
theorem eqDk (h : X.K = K) (hu : X.A.units + 64 < cLine) : OpR X (compareOp .Eq) (rEqD K) := by subst h; exact op_eqD hu
theorem neDk (h : X.K = K) (hu : X.A.units + 64 < cLine) : OpR X (compareOp .NotEq) (rNeD K) := by subst h; exact op_neD hu
theorem inSk (h : X.K = K) : OpR X (compareOp .In) (rIn K false) := by subst h; exact op_in_seq
theorem niSk (h : X.K = K) : OpR X (compareOp .NotIn) (rIn K true) := by subst h; exact op_notIn_seq
def rLenQ (K : PySem.W.Frag) : List V → Hp → VK → Prop := fun xs H Q => ∃ p ys, xs = [.ref p] ∧ (SqL K H p ys ∨ SqT K H p ys) ∧ Q (.int ys.length) H
theorem lenk (h : X.K = K) : CallR X (.builtin "len") (rLenQ K) := by subst h; exact call_len_seq
theorem sumk (h : X.K = K) (hc : X.calm = true) : CallR X (.builtin "sum") (rSum K) := by subst h; exact cr_sum hc
theorem allk (h : X.K = K) (hc : X.calm = true) : CallR X (.builtin "all") (rAll K) := by subst h; exact cr_all hc
theorem anyk (h : X.K = K) (hc : X.calm = true) : CallR X (.builtin "any") (rAny K) := by subst h; exact cr_any hc
theorem pe_fldk {o : Expr} {ta : TE} {f : Str} {pos : Pos} (h : X.K = K) (ho : PE X o ta) (hb : attributeBase o f X.env (eval o X.env) = eval o X.env) : PE X (.Attribute o f pos) (tFld K ta f) := by subst h; exact pe_fld ho hb
theorem slLk (h : X.K = K) : SlR X (rSlL K) := by subst h; exact sl_list
theorem slTk (h : X.K = K) : SlR X (rSlT K) := by subst h; exact sl_tup
end
theorem pg_tupk {X : Cx} {K : PySem.W.Frag} {pos : Pos} {es : List Expr} {k : Nat} {t : TGs} {n : Nat} (hK : X.K = K) (hc : X.calm = true) (h : PGs X es t)
    (hn : (assignEach es X.env).length = n := by rfl) (hst : (assignEach es X.env).findIdx? (·.1) = none := by rfl) : PG X (.Tuple es k pos) (gTup K n t) := by subst hK; exact pg_tup hc h hn hst
/-- two tests joined, each known -/
theorem w_or {t u : TT} {σ : L2.St} {H : Hp} {Q : Bool → Hp → Prop} {b1 b2 : Bool} (h1 : ∀ Q' : Bool → Hp → Prop, Q' b1 H → t σ H Q') (h2 : ∀ Q' : Bool → Hp → Prop, Q' b2 H → u σ H Q') (q : Q (b1 || b2) H) : tOr t u σ H Q := by
  refine h1 _ ?_
  cases b1 with
  | true => exact iteT q
  | false => exact iteF (h2 _ q)
theorem w_and {t u : TT} {σ : L2.St} {H : Hp} {Q : Bool → Hp → Prop} {b1 b2 : Bool} (h1 : ∀ Q' : Bool → Hp → Prop, Q' b1 H → t σ H Q') (h2 : ∀ Q' : Bool → Hp → Prop, Q' b2 H → u σ H Q') (q : Q (b1 && b2) H) : tAnd t u σ H Q := by
  refine h1 _ ?_
  cases b1 with
  | true => exact iteT (h2 _ q)
  | false => exact iteF q
theorem w_ifor {t u : TT} {σ : L2.St} {H : Hp} {A B R : TS} {D : Ends} {b1 b2 : Bool} (h1 : ∀ Q' : Bool → Hp → Prop, Q' b1 H → t σ H Q') (h2 : ∀ Q' : Bool → Hp → Prop, Q' b2 H → u σ H Q')
    (q : if (b1 || b2) = true then A { D with nx := R D } σ H else B { D with nx := R D } σ H) : tSeq (tIfS (tOr t u) A B) R D σ H :=
  w_or (t := t) (u := u) h1 h2 q
theorem w_ifand {t u : TT} {σ : L2.St} {H : Hp} {A B R : TS} {D : Ends} {b1 b2 : Bool} (h1 : ∀ Q' : Bool → Hp → Prop, Q' b1 H → t σ H Q') (h2 : ∀ Q' : Bool → Hp → Prop, Q' b2 H → u σ H Q')
    (q : if (b1 && b2) = true then A { D with nx := R D } σ H else B { D with nx := R D } σ H) : tSeq (tIfS (tAnd t u) A B) R D σ H :=
  w_and (t := t) (u := u) h1 h2 q

/-! ### data: lists of ints, comparisons -/
theorem shaped_mk {d : PyData} (h1 : d.canLay0 = true) (h2 : d.depth ≤ 64) : SeqAt.shaped d = true := by
  unfold SeqAt.shaped
  rw [h1, decide_eq_true h2]
  rfl
theorem lay_ints : ∀ ns : List Int, PyData.canLayAll0 (ns.map PyData.int) = true
  | [] => rfl
  | _ :: r => by
    show (true && PyData.canLayAll0 (r.map PyData.int)) = true
    rw [lay_ints r]
    rfl
theorem depth_ints : ∀ ns : List Int, PyData.depthAll (ns.map PyData.int) = 0
  | [] => rfl
  | _ :: r => by
    show max 0 (PyData.depthAll (r.map PyData.int)) = 0
    rw [depth_ints r]
    rfl
theorem shaped_ints (ns : List Int) : SeqAt.shaped (.list (ns.map .int)) = true := shaped_mk (lay_ints ns) (by
  show PyData.depthAll (ns.map PyData.int) + 1 ≤ 64
  rw [depth_ints]
  decide)
theorem shaped_intsT (ns : List Int) : SeqAt.shaped (.tuple (ns.map .int)) = true := shaped_mk (lay_ints ns) (by
  show PyData.depthAll (ns.map PyData.int) + 1 ≤ 64
  rw [depth_ints]
  decide)
theorem eqvAll_ints : ∀ ns ms : List Int, PyData.eqvAll (ns.map .int) (ms.map .int) = decide (ns = ms)
  | [], [] => rfl
  | [], _ :: _ => rfl
  | _ :: _, [] => rfl
  | x :: r, y :: t => by
    show (PyData.eqv (.int x) (.int y) && PyData.eqvAll (r.map PyData.int) (t.map PyData.int)) = _
    rw [eqvAll_ints r t]
    show ((x == y) && decide (r = t)) = decide (x :: r = y :: t)
    by_cases h1 : x = y
    · by_cases h2 : r = t
      · subst h1 h2; simp
      · subst h1; simp [h2]
    · simp [h1]
theorem eqv_ints (ns ms : List Int) : PyData.eqv (.list (ns.map .int)) (.list (ms.map .int)) = decide (ns = ms) := by
  rw [PyData.eqv]
  exact eqvAll_ints ns ms
theorem eqv_intsT (ns ms : List Int) : PyData.eqv (.tuple (ns.map .int)) (.tuple (ms.map .int)) = decide (ns = ms) := by
  rw [PyData.eqv]
  exact eqvAll_ints ns ms
theorem dp_ints {K : PySem.W.Frag} {H : Hp} : ∀ ns : List Int, DpAll K H (ns.map V.int) (ns.map PyData.int)
  | [] => .nil
  | _ :: r => .cons (.int _) (dp_ints r)

/-! ### fractions as rationals: plain facts -/
theorem log2_lt' {i : Int} {b : Nat} (hb : 0 < b) (h : i.natAbs < 2 ^ b) : i.natAbs.log2 < b := PySem.Flt.log2_lt_of hb h
theorem gcd_pos_right {p q : Int} (hq : q ≠ 0) : 0 < Int.gcd p q := Nat.pos_of_ne_zero fun z => hq (Int.gcd_eq_zero_iff.mp z).2
def lowD (p q : Int) : Int := if q < 0 then -(Int.gcd p q : Int) else (Int.gcd p q : Int)
theorem lowD_ne {p q : Int} (hq : q ≠ 0) : lowD p q ≠ 0 := by
  have := gcd_pos_right (p := p) hq
  unfold lowD
  split <;> omega
theorem lowD_abs (p q : Int) : (lowD p q).natAbs = Int.gcd p q := by
  unfold lowD
  split
  · rw [Int.natAbs_neg, Int.natAbs_natCast]
  · rw [Int.natAbs_natCast]
theorem gcd_le_right {p q : Int} (hq : q ≠ 0) : Int.gcd p q ≤ q.natAbs := Nat.le_of_dvd (by omega) (by
  have := Int.gcd_dvd_natAbs_right p q
  exact this)
theorem low_num {p q : Int} (hq : q ≠ 0) : p.fdiv (lowD p q) = (Rat.divInt p q).num := by
  have hg := gcd_pos_right (p := p) hq
  obtain ⟨k, hk⟩ := Int.gcd_dvd_left p q
  rw [Rat.num_divInt, Int.gcd_comm q p]
  unfold lowD
  have hg' : (Int.gcd p q : Int) ≠ 0 := by omega
  generalize Int.gcd p q = g at hk hg hg'
  subst hk
  by_cases h : q < 0
  · rw [if_pos h, Int.sign_eq_neg_one_of_neg h]
    rw [show -1 * ((g : Int) * k) = (g : Int) * (-k) by rw [Int.mul_neg]; omega, Int.mul_ediv_cancel_left _ hg']
    rw [show (g : Int) * k = (-(g : Int)) * (-k) by rw [Int.neg_mul_neg]]
    exact Int.mul_fdiv_cancel_left _ (by omega)
  · rw [if_neg h, Int.sign_eq_one_of_pos (by omega), Int.one_mul, Int.mul_ediv_cancel_left _ hg']
    exact Int.mul_fdiv_cancel_left _ hg'
theorem low_den {p q : Int} (hq : q ≠ 0) : q.fdiv (lowD p q) = ((Rat.divInt p q).den : Int) := by
  have hg := gcd_pos_right (p := p) hq
  obtain ⟨k, hk⟩ := Int.gcd_dvd_right p q
  rw [Rat.den_divInt, if_neg hq, Int.gcd_comm q p]
  unfold lowD
  have hg' : (Int.gcd p q : Int) ≠ 0 := by omega
  generalize Int.gcd p q = g at hk hg hg'
  have hab : q.natAbs = g * k.natAbs := by rw [hk, Int.natAbs_mul, Int.natAbs_natCast]
  rw [hab, Nat.mul_div_cancel_left _ hg]
  by_cases h : q < 0
  · rw [if_pos h]
    have hk0 : k < 0 := by
      rcases Int.lt_or_le k 0 with z | z
      · exact z
      · have : 0 ≤ (g : Int) * k := Int.mul_nonneg (by omega) z
        omega
    rw [hk, show (g : Int) * k = (-(g : Int)) * (-k) by rw [Int.neg_mul_neg]]
    rw [Int.mul_fdiv_cancel_left _ (by omega)]
    omega
  · rw [if_neg h]
    have hk0 : 0 ≤ k := by
      rcases Int.lt_or_le k 0 with z | z
      · have : (g : Int) * k < 0 := Int.mul_neg_of_pos_of_neg (by omega) z
        omega
      · exact z
    rw [hk, Int.mul_fdiv_cancel_left _ hg']
    omega
/-! sizes -/
def Sz (n : Nat) (r : Rat) : Prop := r.num.natAbs < 2 ^ n ∧ r.den < 2 ^ n
theorem Sz.mono {m n : Nat} {r : Rat} (h : Sz m r) (e : m ≤ n) : Sz n r := ⟨Nat.lt_of_lt_of_le h.1 (Nat.pow_le_pow_right (by decide) e), Nat.lt_of_lt_of_le h.2 (Nat.pow_le_pow_right (by decide) e)⟩
theorem sz_divInt {p q : Int} {n : Nat} (hq : q ≠ 0) (h1 : p.natAbs < 2 ^ n) (h2 : q.natAbs < 2 ^ n) : Sz n (Rat.divInt p q) := by
  constructor
  · rw [Rat.num_divInt]
    refine Nat.lt_of_le_of_lt ?_ h1
    refine Nat.le_trans (Int.natAbs_ediv_le_natAbs _ _) ?_
    rw [Int.natAbs_mul]
    rcases Int.lt_trichotomy q 0 with h | h | h
    · rw [Int.sign_eq_neg_one_of_neg h]; simp
    · exact absurd h hq
    · rw [Int.sign_eq_one_of_pos h]; simp
  · rw [Rat.den_divInt, if_neg hq]
    exact Nat.lt_of_le_of_lt (Nat.div_le_self _ _) h2
theorem abs_mul_lt {i j : Int} {a b : Nat} (ha : i.natAbs < 2 ^ a) (hb : j.natAbs < 2 ^ b) : (i * j).natAbs < 2 ^ (a + b) := wide_lt ha hb
theorem abs_add_lt {i j : Int} {a : Nat} (ha : i.natAbs < 2 ^ a) (hb : j.natAbs < 2 ^ a) : (i + j).natAbs < 2 ^ (a + 1) := by
  have : (i + j).natAbs ≤ i.natAbs + j.natAbs := Int.natAbs_add_le i j
  rw [Nat.pow_succ]
  omega
theorem abs_sub_lt {i j : Int} {a : Nat} (ha : i.natAbs < 2 ^ a) (hb : j.natAbs < 2 ^ a) : (i - j).natAbs < 2 ^ (a + 1) := by
  have : (i - j).natAbs ≤ i.natAbs + j.natAbs := Int.natAbs_sub_le i j
  rw [Nat.pow_succ]
  omega
theorem pow_up {x a b : Nat} (h : x < 2 ^ a) (e : a ≤ b) : x < 2 ^ b := Nat.lt_of_lt_of_le h (Nat.pow_le_pow_right (by decide) e)
theorem Sz.d {n : Nat} {r : Rat} (h : Sz n r) : (r.den : Int).natAbs < 2 ^ n := by rw [Int.natAbs_natCast]; exact h.2
theorem den_ne (r : Rat) : (r.den : Int) ≠ 0 := by have := r.den_pos; omega
theorem add_divInt (a b : Rat) : Rat.divInt (a.num * b.den + b.num * a.den) (a.den * b.den) = a + b := by
  rw [← Rat.divInt_add_divInt _ _ (den_ne a) (den_ne b), Rat.num_divInt_den, Rat.num_divInt_den]
theorem sub_divInt (a b : Rat) : Rat.divInt (a.num * b.den - b.num * a.den) (a.den * b.den) = a - b := by
  rw [← Rat.divInt_sub_divInt _ _ (den_ne a) (den_ne b), Rat.num_divInt_den, Rat.num_divInt_den]
theorem mul_divInt (a b : Rat) : Rat.divInt (a.num * b.num) (a.den * b.den) = a * b := by
  rw [← Rat.divInt_mul_divInt, Rat.num_divInt_den, Rat.num_divInt_den]
theorem div_divInt (a b : Rat) : Rat.divInt (a.num * b.den) (a.den * b.num) = a / b := by
  rw [← Rat.divInt_mul_divInt, Rat.num_divInt_den, Rat.div_def]
  congr 1
  rw [← Rat.inv_divInt, Rat.num_divInt_den]
theorem sz_num {m n : Nat} {a b : Rat} (ha : Sz m a) (hb : Sz n b) : (a.num * b.den + b.num * a.den).natAbs < 2 ^ (m + n + 1) := abs_add_lt (abs_mul_lt ha.1 hb.d) (by rw [Nat.add_comm m n]; exact abs_mul_lt hb.1 ha.d)
theorem sz_numS {m n : Nat} {a b : Rat} (ha : Sz m a) (hb : Sz n b) : (a.num * b.den - b.num * a.den).natAbs < 2 ^ (m + n + 1) := abs_sub_lt (abs_mul_lt ha.1 hb.d) (by rw [Nat.add_comm m n]; exact abs_mul_lt hb.1 ha.d)
theorem sz_den {m n : Nat} {a b : Rat} (ha : Sz m a) (hb : Sz n b) : ((a.den : Int) * b.den).natAbs < 2 ^ (m + n) := abs_mul_lt ha.d hb.d
theorem dd_ne (a b : Rat) : (a.den : Int) * b.den ≠ 0 := Int.mul_ne_zero (den_ne a) (den_ne b)
theorem Sz.add {m n : Nat} {a b : Rat} (ha : Sz m a) (hb : Sz n b) : Sz (m + n + 1) (a + b) := by
  rw [← add_divInt]
  exact sz_divInt (dd_ne a b) (sz_num ha hb) (pow_up (sz_den ha hb) (by omega))
theorem Sz.sub {m n : Nat} {a b : Rat} (ha : Sz m a) (hb : Sz n b) : Sz (m + n + 1) (a - b) := by
  rw [← sub_divInt]
  exact sz_divInt (dd_ne a b) (sz_numS ha hb) (pow_up (sz_den ha hb) (by omega))
theorem Sz.mul {m n : Nat} {a b : Rat} (ha : Sz m a) (hb : Sz n b) : Sz (m + n) (a * b) := by
  rw [← mul_divInt]
  exact sz_divInt (dd_ne a b) (abs_mul_lt ha.1 hb.1) (sz_den ha hb)
theorem num_ne {b : Rat} (h : b ≠ 0) : b.num ≠ 0 := fun z => h (Rat.num_eq_zero.mp z)
theorem Sz.div {m n : Nat} {a b : Rat} (ha : Sz m a) (hb : Sz n b) (h0 : b ≠ 0) : Sz (m + n) (a / b) := by
  rw [← div_divInt]
  exact sz_divInt (Int.mul_ne_zero (den_ne a) (num_ne h0)) (abs_mul_lt ha.1 hb.d) (abs_mul_lt ha.d hb.1)
theorem Sz.neg {m : Nat} {a : Rat} (ha : Sz m a) : Sz m (-a) := by
  refine ⟨?_, ?_⟩
  · show (-a.num).natAbs < 2 ^ m
    rw [Int.natAbs_neg]
    exact ha.1
  · exact ha.2
theorem sz_zero : Sz 1 0 := ⟨by decide, by decide⟩
theorem sz_one : Sz 1 1 := ⟨by decide, by decide⟩
theorem rat_eq {a b : Rat} (h1 : a.num = b.num) (h2 : (a.den : Int) = b.den) : a = b := Rat.ext h1 (Int.ofNat.inj h2)
theorem rat_list_eq (a b : Rat) : decide ([a.num, (a.den : Int)] = [b.num, (b.den : Int)]) = decide (a = b) := by
  by_cases h : a = b
  · subst h; simp
  · rw [decide_eq_false h]
    refine decide_eq_false fun z => h ?_
    injection z with z1 z2
    injection z2 with z2 _
    exact rat_eq z1 z2
/-! Euclid's turns -/
theorem euc_gcd (a b : Int) : Int.gcd b (a.fmod b) = Int.gcd a b := by
  by_cases hb : b = 0
  · subst hb; rw [Int.fmod_zero]; exact Int.gcd_comm 0 a
  · rw [show a.fmod b = a - b * a.fdiv b from Int.fmod_def a b]
    rw [Int.gcd_comm b, Int.gcd_sub_mul_left_left]
theorem euc_step {a b : Int} {m : Nat} (h0 : 0 < b) (hb : b < a) (h : a.natAbs * b.natAbs < 2 ^ (m + 1)) : b.natAbs * (a.fmod b).natAbs < 2 ^ m := by
  have hr0 : 0 ≤ a.fmod b := Int.fmod_nonneg_of_pos a h0
  have hr1 : a.fmod b < b := Int.fmod_lt_of_pos a h0
  have hd : a = b * a.fdiv b + a.fmod b := (Int.mul_fdiv_add_fmod a b).symm
  have hq : 1 ≤ a.fdiv b := by
    rcases Int.lt_or_le (a.fdiv b) 1 with z | z
    · have : b * a.fdiv b ≤ 0 := Int.mul_nonpos_of_nonneg_of_nonpos (by omega) (by omega)
      omega
    · exact z
  have h2 : 2 * (a.fmod b) < a := by
    have : b * 1 ≤ b * a.fdiv b := Int.mul_le_mul_of_nonneg_left hq (by omega)
    omega
  have h3 : 2 * (a.fmod b).natAbs ≤ a.natAbs := by omega
  have h4 : 2 * (b.natAbs * (a.fmod b).natAbs) ≤ a.natAbs * b.natAbs := by
    calc 2 * (b.natAbs * (a.fmod b).natAbs) = (2 * (a.fmod b).natAbs) * b.natAbs := by rw [Nat.mul_comm b.natAbs, Nat.mul_assoc]
      _ ≤ a.natAbs * b.natAbs := Nat.mul_le_mul_right _ h3
  rw [Nat.pow_succ] at h
  omega
/-- what stands behind i turns: m is what the product may still be -/
def Euc (p q : Int) (n i : Nat) (a b : Int) : Prop := 0 ≤ a ∧ 0 ≤ b ∧ (0 < a ∨ 0 < b) ∧ Int.gcd a b = Int.gcd p q ∧ a.natAbs * b.natAbs < 2 ^ (n + 1 - max i 1) ∧ (0 < i → b < a)
theorem Euc.start {p q : Int} {n : Nat} (hq : q ≠ 0) (h : p.natAbs * q.natAbs < 2 ^ n) : Euc p q n 0 (p.natAbs : Int) (q.natAbs : Int) := by
  refine ⟨by omega, by omega, by omega, ?_, ?_, fun z => absurd z (by decide)⟩
  · exact Int.gcd_natAbs_natAbs' p q
  · rw [Int.natAbs_natCast, Int.natAbs_natCast]
    exact h
where
  Int.gcd_natAbs_natAbs' (p q : Int) : Int.gcd (p.natAbs : Int) (q.natAbs : Int) = Int.gcd p q := by
    unfold Int.gcd
    rw [Int.natAbs_natCast, Int.natAbs_natCast]
theorem Euc.next {p q : Int} {n i : Nat} {a b : Int} (h : Euc p q n i a b) (hi : i ≤ n) (hb : b ≠ 0) : Euc p q n (i + 1) b (a.fmod b) := by
  obtain ⟨h1, h2, h3, h4, h5, h6⟩ := h
  have b0 : 0 < b := by omega
  have hr0 : 0 ≤ a.fmod b := Int.fmod_nonneg_of_pos a b0
  have hr1 : a.fmod b < b := Int.fmod_lt_of_pos a b0
  refine ⟨h2, hr0, .inl b0, by rw [euc_gcd, h4], ?_, fun _ => hr1⟩
  by_cases z : b < a
  · rcases Nat.eq_zero_or_pos (n + 1 - max i 1) with e | e
    · rw [e] at h5
      have := h5
      have : 1 ≤ a.natAbs * b.natAbs := Nat.mul_pos (by omega) (by omega)
      omega
    · have e1 : n + 1 - max i 1 = (n + 1 - max i 1 - 1) + 1 := by omega
      rw [e1] at h5
      exact pow_up (euc_step b0 z h5) (by omega)
  · have hi0 : i = 0 := by
      rcases Nat.eq_zero_or_pos i with e | e
      · exact e
      · exact absurd (h6 e) z
    subst hi0
    have hle : (a.fmod b).natAbs ≤ a.natAbs := by
      by_cases z2 : a < b
      · rw [Int.fmod_eq_emod_of_nonneg a h2, Int.emod_eq_of_lt h1 z2]; exact Nat.le_refl _
      · have : a = b := by omega
        rw [this, Int.fmod_self]; omega
    have : b.natAbs * (a.fmod b).natAbs ≤ a.natAbs * b.natAbs := by
      rw [Nat.mul_comm]
      exact Nat.mul_le_mul_right _ hle
    exact Nat.lt_of_le_of_lt this h5
theorem Euc.ended {p q : Int} {n : Nat} {a b : Int} (h : Euc p q n (n + 1) a b) : b = 0 := by
  obtain ⟨h1, h2, h3, h4, h5, h6⟩ := h
  have hlt := h6 (by omega)
  rw [show n + 1 - max (n + 1) 1 = 0 by omega, Nat.pow_zero] at h5
  rcases Nat.eq_zero_or_pos b.natAbs with e | e
  · omega
  · have : 1 ≤ a.natAbs * b.natAbs := Nat.mul_pos (by omega) e
    omega
theorem Euc.gcd {p q : Int} {n i : Nat} {a : Int} (h : Euc p q n i a 0) : a = (Int.gcd p q : Int) := by
  obtain ⟨h1, h2, h3, h4, h5, h6⟩ := h
  rw [Int.gcd_zero_right] at h4
  omega

/-! ### own exceptions: made without arguments, a local def called in a try, isinstance of what is caught -/
section
variable {X : Cx} {C : Addr} {bmB : List Value} {B newId initId : String}
/-- X(), no argument, no own __init__ -/
theorem pmk_own0 {x : Str} {p pos : Pos} (F : ExcBaseFacts B newId initId bmB) (q : PySem.W.excIn X.K C bmB newId = true) (gC : X.mg x = some (.ref C))
    (kC : PySem.W.keepIn X.K (.ref C) = true) (r : Raises X (.ref C)) (hg : Gl X x)
    (hdb : (x == ("__debug__" : Str)) = false := by decide) :
    PMk X (.Call (.Name x p) [] [] pos) (fun _ H Q => Q (.ref C) none H) := by
  intro pins s σ H Q I h
  refine wpAny_Call_Name_kw (ld_glob I hg gC ?_ hdb)
  refine PySem.W.callWith_K0 I.kIn kC ?_
  obtain ⟨bm, N, nm, qn, bs, hdct, sn, sub, ab, col, dd, k0, k1, k2, k3, k5, mN, hC, hN, hni, T⟩ :=
    exc_obj I.kIn q
  show wpAny _ _ (call (.ref C) []) _ _ _
  exact wpAny_call_exc_subT F T hC hN hni (fun h' e hm =>
    mk_of I hm r h (I.hok.gone hm.new)) (Nat.zero_le _)
variable {CX : CXT} {k i : Nat} {f : Addr} {fd : FuncData} {ps : List Str} {sp : Sp} {E : L2.St → XK} {x : Str} {p pos : Pos} {e : Expr} {es : List Expr} {t : TA}
def tCallLS (i : Nat) (f : Addr) (sp : Sp) (E : L2.St → XK) (t : TA) : TE := fun σ H Q => σ[i]? = some (some (.ref f)) ∧ t σ H fun vs H1 => sp vs H1 Q (E σ)
/-- a local name that holds a def, called; what it lets out is wished for at the slots -/
theorem pe_callLS (F : FnOk X.prog X.w X.K X.mg X.base CX k f fd ps sp) (hr : Room k X.A) (hN : X.N[i]? = some x) (hv : Vis X.env.scope x)
    (hk : PySem.W.keepIn X.K (.ref f) = true) (hb : Binds X.K fd ps []) (hx : ∀ σ, PassesAt CX X σ (E σ)) (ha : PA X (e :: es) t)
    (hdb : (x == ("__debug__" : Str)) = false := by decide)
    (hcd : (x == ("__classdict__" : Str)) = false := by decide)
    (he : starEach (e :: es) X.env = (false, eval e X.env) :: starEach es X.env := by rfl)
    (hpl : (backTo pos (starEach es X.env)).any (·.1) = false := by rfl) :
    PE X (.Call (.Name x p) (e :: es) [] pos) (tCallLS i f sp E t) := by
  refine ⟨fun pins s σ H Q I ⟨hs, ht⟩ => ?_⟩
  have ld := (pe_var (pos := p) hN hv hdb hcd).run pins s σ H
    (fun v H1 => v = .ref f ∧ H1 = H) I ⟨.ref f, hs, rfl, rfl⟩
  refine wpAny_Call_Name_kw (thn ld fun u s1 z => ?_)
  obtain ⟨v, H1, I1, r1, rfl, rfl⟩ := z
  cases r1
  refine PySem.W.callWith_K (h₀ := X.base) I.ok.mod.kin hk
    (thn (ha.run pos pins s1 σ _ _ I1 ht) fun us s2 z2 => ?_) he hpl
  obtain ⟨vs, H2, I2, r, q⟩ := z2
  exact ⟨I2.kIn, run_fnS F hr hb (hx σ) I2 r q⟩
/-- isinstance(e, c) within the suite, e what it caught -/
def tIsE (K : PySem.W.Frag) (D a : Addr) (cls : Value) (d : Option Addr) (t : TA) : TE := fun σ H Q => cls = .ref D ∧ d = none ∧ tCB (rIsE K D a) t σ H Q
theorem pe_isE {a D : Addr} {oe : Obj} {pn : List (Addr × Obj)} {cls : Value} {d : Option Addr} (C : ExcC X.K D) (hz : Zc cls d oe) (hf : ∃ vs, oe.data = .fields vs)
    (hg : Gl (X.suite a ((a, oe) :: pn)) "isinstance") (hm : X.mg "isinstance" = none) (ha : PA (X.suite a ((a, oe) :: pn)) (e :: es) t)
    (he : starEach (e :: es) X.env = (false, eval e X.env) :: starEach es X.env := by rfl)
    (hpl : (backTo pos (starEach es X.env)).any (·.1) = false := by rfl) :
    PE (X.suite a ((a, oe) :: pn)) (.Call (.Name "isinstance" p) (e :: es) [] pos) (tIsE X.K D a cls d t) := by
  refine ⟨fun pins s σ H Q I h => ?_⟩
  obtain ⟨rfl, rfl, h⟩ := h
  exact (pe_callB (call_isE C hz hf) hg hm (by decide +kernel) ha (by decide) (by decide) he hpl).run pins s σ H Q I h
end
theorem kit_sub {K : PySem.W.Frag} {C D : Addr} (hd : PySem.W.hasDictIn K C = true) (ty : PySem.W.typeIn K (.ref C) = some (.type "type"))
    (s : PySem.W.subIn K (.ref D) (.ref C) = some true) : PySem.W.kitOne K (.ref D) (.ref C) = some true := by
  obtain ⟨cd, hc, _⟩ := PySem.W.any_some hd
  unfold PySem.W.kitOne
  split
  · rfl
  · show (if ((PySem.W.clsIn K C).isSome && PySem.W.typeIn K (.ref C) == some (.type "type")) = true
      then PySem.W.subIn K (.ref D) (.ref C) else none) = some true
    rw [hc, ty]
    exact s

theorem isik {X : Cx} {K : PySem.W.Frag} (h : X.K = K) : CallR X (.builtin "isinstance") (rIsi K) := by subst h; exact call_isi

/-! ### the pure layer: data, owned objects, the frozen part of the heap -/
inductive D where
  | non | bl (b : Bool) | int (i : Int) | str (x : Str) | lst (ds : List D) | tup (ds : List D) | dic (ks ds : List D) | obj (C : Addr) (ns : List Str) (ds : List D) | scr (ns : List Int)
inductive O where
  | lst (ds : List D) | dk (kvs : List (Key × D)) | dt (kvs : List (List Key × D))
inductive S where
  | fr (d : D) | ow (b : Bool) (o : O)
abbrev Sl := List (Option S)
def keyD : D → Option Key
  | .int i => some (.inl i)
  | .str x => some (.inr x)
  | _ => none
def dKey : Key → D
  | .inl i => .int i
  | .inr x => .str x
def dKeyT (k : List Key) : D := .tup (k.map dKey)
def O.dat : O → D
  | .lst ds => .lst ds
  | .dk kvs => .dic (kvs.map fun p => dKey p.1) (kvs.map (·.2))
  | .dt kvs => .dic (kvs.map fun p => dKeyT p.1) (kvs.map (·.2))
def S.dat : S → D
  | .fr d => d
  | .ow _ o => o.dat
def DicR (F : Hp) (a : Addr) (ks : List D) (vs : List V) : Prop :=
  (∃ kvs : List (Key × V), Rd F a (.dK kvs) ∧ ks = kvs.map (fun p => dKey p.1) ∧ vs = kvs.map (·.2)) ∨
  (∃ kvs : List (List Key × V), Rd F a (.dT kvs) ∧ ks = kvs.map (fun p => dKeyT p.1) ∧ vs = kvs.map (·.2))
mutual
def Rp (K : PySem.W.Frag) (F : Hp) : D → V → Prop
  | .non, v => v = .non
  | .bl b, v => v = .bl b
  | .int i, v => v = .int i
  | .str x, v => v = .str x
  | .lst ds, v => ∃ a vs, v = .ref a ∧ F a = some (.lst vs) ∧ RpA K F ds vs
  | .scr ns, v => ∃ a, v = .ref a ∧ SqL K F a (ns.map V.int)
  | .tup ds, v => ∃ a vs, v = .ref a ∧ SqT K F a vs ∧ RpA K F ds vs
  | .dic ks ds, v => ∃ a vs, v = .ref a ∧ DicR F a ks vs ∧ RpA K F ds vs
  | .obj C ns ds, v => ∃ a dx vs, v = .ref a ∧ F a = some (.ins C dx (ns.zip vs)) ∧ ns.length = vs.length ∧ RpA K F ds vs
def RpA (K : PySem.W.Frag) (F : Hp) : List D → List V → Prop
  | [], vs => vs = []
  | d :: ds, vs => ∃ v ws, vs = v :: ws ∧ Rp K F d v ∧ RpA K F ds ws
end
theorem rd_same {F F' : Hp} {a : Addr} {u : HO} (e : Same F F') (h : Rd F a u) : Rd F' a u := by
  rcases h with h | ⟨o, h⟩
  · exact .inl (e _ _ h)
  · exact .inr ⟨o, e _ _ h⟩
section
variable {K : PySem.W.Frag} {F F' H H' : Hp}
mutual
theorem Rp.mono (e : Same F F') : ∀ {d : D} {v : V}, Rp K F d v → Rp K F' d v
  | .non, _, h => h
  | .bl _, _, h => h
  | .int _, _, h => h
  | .str _, _, h => h
  | .lst ds, _, h => let ⟨a, vs, e1, h1, h2⟩ := h; ⟨a, vs, e1, e _ _ h1, RpA.mono e h2⟩
  | .scr ds, _, h => let ⟨a, e1, h1⟩ := h; ⟨a, e1, e.seq h1⟩
  | .tup ds, _, h => let ⟨a, vs, e1, h1, h2⟩ := h; ⟨a, vs, e1, e.tupq h1, RpA.mono e h2⟩
  | .dic ks ds, _, h => let ⟨a, vs, e1, h1, h2⟩ := h; ⟨a, vs, e1, h1.imp (fun ⟨k, p, q⟩ => ⟨k, rd_same e p, q⟩) (fun ⟨k, p, q⟩ => ⟨k, rd_same e p, q⟩), RpA.mono e h2⟩
  | .obj C ns ds, _, h => let ⟨a, dx, vs, e1, h1, h2, h3⟩ := h; ⟨a, dx, vs, e1, e _ _ h1, h2, RpA.mono e h3⟩
theorem RpA.mono (e : Same F F') : ∀ {ds : List D} {vs : List V}, RpA K F ds vs → RpA K F' ds vs
  | [], _, h => h
  | _ :: _, _, h => let ⟨v, ws, e1, h1, h2⟩ := h; ⟨v, ws, e1, Rp.mono e h1, RpA.mono e h2⟩
end
theorem RpA.len : ∀ {ds : List D} {vs : List V}, RpA K F ds vs → ds.length = vs.length
  | [], _, h => by subst h; rfl
  | _ :: _, _, h => by
    obtain ⟨v, ws, rfl, _, h2⟩ := h
    exact congrArg (· + 1) (RpA.len h2)
theorem RpA.get : ∀ {ds : List D} {vs : List V}, RpA K F ds vs → ∀ {i : Nat} {d : D}, ds[i]? = some d → ∃ v, vs[i]? = some v ∧ Rp K F d v
  | [], _, _, i, d, e => by simp at e
  | x :: ds, _, h, 0, d, e => by
    obtain ⟨v, ws, rfl, h1, _⟩ := h
    have e1 : x = d := Option.some.inj e
    subst e1
    exact ⟨v, rfl, h1⟩
  | x :: ds, _, h, i + 1, d, e => by
    obtain ⟨v, ws, rfl, _, h2⟩ := h
    exact RpA.get h2 (i := i) e
theorem RpA.getV : ∀ {ds : List D} {vs : List V}, RpA K F ds vs → ∀ {i : Nat} {v : V}, vs[i]? = some v → ∃ d, ds[i]? = some d ∧ Rp K F d v
  | [], _, h, i, d, e => by subst h; simp at e
  | x :: ds, _, h, 0, d, e => by
    obtain ⟨v, ws, rfl, h1, _⟩ := h
    have e1 : v = d := Option.some.inj e
    subst e1
    exact ⟨x, rfl, h1⟩
  | x :: ds, _, h, i + 1, d, e => by
    obtain ⟨v, ws, rfl, _, h2⟩ := h
    exact RpA.getV h2 (i := i) e
theorem RpA.app : ∀ {ds es : List D} {vs ws : List V}, RpA K F ds vs → RpA K F es ws → RpA K F (ds ++ es) (vs ++ ws)
  | [], _, _, _, h, h' => by subst h; exact h'
  | _ :: _, _, _, _, h, h' => by
    obtain ⟨v, ws, rfl, h1, h2⟩ := h
    exact ⟨v, _, rfl, h1, RpA.app h2 h'⟩
theorem RpA.snoc {ds : List D} {vs : List V} {d : D} {v : V} (h : RpA K F ds vs) (h1 : Rp K F d v) : RpA K F (ds ++ [d]) (vs ++ [v]) := h.app ⟨v, [], rfl, h1, rfl⟩
theorem RpA.drop : ∀ {ds : List D} {vs : List V} (n : Nat), RpA K F ds vs → RpA K F (ds.drop n) (vs.drop n)
  | _, _, 0, h => h
  | [], _, n + 1, h => by subst h; exact rfl
  | _ :: _, _, n + 1, h => by
    obtain ⟨v, ws, rfl, h1, h2⟩ := h
    exact RpA.drop n h2
theorem RpA.take : ∀ {ds : List D} {vs : List V} (n : Nat), RpA K F ds vs → RpA K F (ds.take n) (vs.take n)
  | _, _, 0, h => by rw [List.take_zero, List.take_zero]; exact rfl
  | [], _, n + 1, h => by subst h; exact rfl
  | _ :: _, _, n + 1, h => by
    obtain ⟨v, ws, rfl, h1, h2⟩ := h
    exact ⟨v, _, rfl, h1, RpA.take n h2⟩
theorem RpA.rev : ∀ {ds : List D} {vs : List V}, RpA K F ds vs → RpA K F ds.reverse vs.reverse
  | [], _, h => by subst h; exact rfl
  | _ :: _, _, h => by
    obtain ⟨v, ws, rfl, h1, h2⟩ := h
    rw [List.reverse_cons, List.reverse_cons]
    exact (RpA.rev h2).snoc h1
theorem RpA.dropLast {ds : List D} {vs : List V} (h : RpA K F ds vs) : RpA K F ds.dropLast vs.dropLast := by
  rw [List.dropLast_eq_take, List.dropLast_eq_take, ← h.len]
  exact h.take _
theorem RpA.set : ∀ {ds : List D} {vs : List V} (n : Nat) {d : D} {v : V}, RpA K F ds vs → Rp K F d v → RpA K F (ds.set n d) (vs.set n v)
  | [], _, n, _, _, h, _ => by subst h; exact rfl
  | _ :: _, _, 0, _, _, h, h1 => by
    obtain ⟨v, ws, rfl, _, h2⟩ := h
    exact ⟨_, _, rfl, h1, h2⟩
  | _ :: _, _, n + 1, _, _, h, h1 => by
    obtain ⟨v, ws, rfl, h0, h2⟩ := h
    exact ⟨v, _, rfl, h0, RpA.set n h2 h1⟩
theorem RpA.erase : ∀ {ds : List D} {vs : List V} (n : Nat), RpA K F ds vs → RpA K F (ds.eraseIdx n) (vs.eraseIdx n)
  | [], _, n, h => by subst h; exact rfl
  | _ :: _, _, 0, h => by
    obtain ⟨v, ws, rfl, _, h2⟩ := h
    exact h2
  | _ :: _, _, n + 1, h => by
    obtain ⟨v, ws, rfl, h0, h2⟩ := h
    exact ⟨v, _, rfl, h0, RpA.erase n h2⟩
theorem RpA.rep {d : D} {v : V} (h : Rp K F d v) : ∀ n, RpA K F (List.replicate n d) (List.replicate n v)
  | 0 => rfl
  | n + 1 => ⟨v, _, rfl, h, RpA.rep h n⟩
theorem RpA.ints : ∀ {ns : List Int}, RpA K F (ns.map D.int) (ns.map V.int)
  | [] => rfl
  | _ :: _ => ⟨_, _, rfl, rfl, RpA.ints⟩
theorem RpA.intsV : ∀ {ns : List Int} {vs : List V}, RpA K F (ns.map D.int) vs → vs = ns.map V.int
  | [], _, h => h
  | n :: ns, _, h => by
    obtain ⟨v, ws, rfl, h0, h2⟩ := h
    rw [RpA.intsV h2, show v = .int n from h0]
    rfl
theorem RpA.strsV : ∀ {ns : List Str} {vs : List V}, RpA K F (ns.map D.str) vs → vs = ns.map V.str
  | [], _, h => h
  | n :: ns, _, h => by
    obtain ⟨v, ws, rfl, h0, h2⟩ := h
    rw [RpA.strsV h2, show v = .str n from h0]
    rfl
theorem RpA.blsV : ∀ {ns : List Bool} {vs : List V}, RpA K F (ns.map D.bl) vs → vs = ns.map V.bl
  | [], _, h => h
  | n :: ns, _, h => by
    obtain ⟨v, ws, rfl, h0, h2⟩ := h
    rw [RpA.blsV h2, show v = .bl n from h0]
    rfl

/-- a dict's pairs of keys and values -/
def PrK {κ : Type} (K : PySem.W.Frag) (F : Hp) : List (κ × D) → List (κ × V) → Prop := Paired fun p q => p.1 = q.1 ∧ Rp K F p.2 q.2
theorem PrK.mono {κ : Type} (e : Same F F') {xs : List (κ × D)} {ys : List (κ × V)} (h : PrK K F xs ys) : PrK K F' xs ys := Paired.mapP h fun _ _ z => ⟨z.1, z.2.mono e⟩
/-- the object at l -/
def ObjR (K : PySem.W.Frag) (F H : Hp) (l : Addr) : O → Prop
  | .lst ds => ∃ vs, H l = some (.lst vs) ∧ RpA K F ds vs
  | .dk kvs => ∃ ws, H l = some (.dK ws) ∧ PrK K F kvs ws
  | .dt kvs => ∃ ws, H l = some (.dT ws) ∧ PrK K F kvs ws
theorem ObjR.mono (e : Same F F') {l : Addr} : ∀ {o : O}, ObjR K F H l o → ObjR K F' H l o
  | .lst _, ⟨vs, h1, h2⟩ => ⟨vs, h1, h2.mono e⟩
  | .dk _, ⟨vs, h1, h2⟩ => ⟨vs, h1, h2.mono e⟩
  | .dt _, ⟨vs, h1, h2⟩ => ⟨vs, h1, h2.mono e⟩
theorem ObjR.has {l : Addr} : ∀ {o : O}, ObjR K F H l o → ∃ u, H l = some u
  | .lst _, ⟨_, h1, _⟩ => ⟨_, h1⟩
  | .dk _, ⟨_, h1, _⟩ => ⟨_, h1⟩
  | .dt _, ⟨_, h1, _⟩ => ⟨_, h1⟩
theorem ObjR.heap {l : Addr} (e : ∀ u, H l = some u → H' l = some u) : ∀ {o : O}, ObjR K F H l o → ObjR K F H' l o
  | .lst _, ⟨vs, h1, h2⟩ => ⟨vs, e _ h1, h2⟩
  | .dk _, ⟨vs, h1, h2⟩ => ⟨vs, e _ h1, h2⟩
  | .dt _, ⟨vs, h1, h2⟩ => ⟨vs, e _ h1, h2⟩
theorem PrK.keys {κ : Type} {kvs : List (κ × D)} {ws : List (κ × V)} (h : PrK K F kvs ws) : kvs.map (·.1) = ws.map (·.1) ∧ RpA K F (kvs.map (·.2)) (ws.map (·.2)) := by
  induction h with
  | nil => exact ⟨rfl, rfl⟩
  | @cons x y xs ys h t ih => exact ⟨by rw [List.map_cons, List.map_cons, ih.1, h.1], ⟨_, _, rfl, h.2, ih.2⟩⟩
/-- frozen, it is data -/
theorem ObjR.frz {l : Addr} {u : HO} (hu : H l = some u) (hF : F l = none) : ∀ {o : O}, ObjR K F H l o → Rp K (upd F l u) o.dat (.ref l)
  | .lst ds, ⟨vs, h1, h2⟩ => by
    rw [hu] at h1
    cases h1
    exact ⟨l, vs, rfl, upd_same, h2.mono (same_upd hF)⟩
  | .dk kvs, ⟨ws, h1, h2⟩ => by
    rw [hu] at h1
    cases h1
    have hk := h2.keys
    refine ⟨l, ws.map (·.2), rfl, .inl ⟨ws, .inl upd_same, ?_, rfl⟩, hk.2.mono (same_upd hF)⟩
    simpa [List.map_map, Function.comp_def] using congrArg (List.map dKey) hk.1
  | .dt kvs, ⟨ws, h1, h2⟩ => by
    rw [hu] at h1
    cases h1
    have hk := h2.keys
    refine ⟨l, ws.map (·.2), rfl, .inr ⟨ws, .inl upd_same, ?_, rfl⟩, hk.2.mono (same_upd hF)⟩
    simpa [List.map_map, Function.comp_def] using congrArg (List.map dKeyT) hk.1
end
/-! ### states: slots by data, what a step leaves -/
abbrev Om := Addr → Option (Nat × Bool)
section
variable {K : PySem.W.Frag}
def OwnAt (K : PySem.W.Frag) (F H : Hp) (ω : Om) (i : Nat) : S → V → Prop
  | .fr d, v => Rp K F d v
  | .ow b o, v => ∃ l, v = .ref l ∧ ω l = some (i, b) ∧ ObjR K F H l o
structure Sta (K : PySem.W.Frag) (F H : Hp) (ω : Om) (s : Sl) (σ : L2.St) : Prop where
  sf : Same F H
  ow : ∀ b p, ω b = some p → F b = none ∧ ∃ u, H b = some u
  at' : ∀ i x, s[i]? = some (some x) → ∃ v, σ[i]? = some (some v) ∧ OwnAt K F H ω i x v
  len : s.length = σ.length
structure Stp (F H : Hp) (ω : Om) (F' H' : Hp) (ω' : Om) : Prop where
  sf : Same F F'
  fr : ∀ b o, ω b = none → H b = some o → H' b = some o
  om : ∀ b o, ω b = none → H b = some o → ω' b = none
  fn : ∀ b o, ω b = none → H b = some o → F b = none → F' b = none
  tr : ∀ b, H' b = none → H b = none
  bk : ∀ b j, ω' b = some (j, true) ↔ ω b = some (j, true)
theorem Stp.refl (F H : Hp) (ω : Om) : Stp F H ω F H ω := ⟨Same.refl F, fun _ _ _ h => h, fun _ _ h _ => h, fun _ _ _ _ h => h, fun _ h => h, fun _ _ => Iff.rfl⟩
theorem Stp.trans {F H F1 H1 F2 H2 : Hp} {ω ω1 ω2 : Om} (a : Stp F H ω F1 H1 ω1) (b : Stp F1 H1 ω1 F2 H2 ω2) : Stp F H ω F2 H2 ω2 :=
  ⟨a.sf.trans b.sf, fun c o h1 h2 => b.fr c o (a.om c o h1 h2) (a.fr c o h1 h2), fun c o h1 h2 => b.om c o (a.om c o h1 h2) (a.fr c o h1 h2),
   fun c o h1 h2 h3 => b.fn c o (a.om c o h1 h2) (a.fr c o h1 h2) (a.fn c o h1 h2 h3), fun c h => a.tr c (b.tr c h), fun c j => (b.bk c j).trans (a.bk c j)⟩
/-- a result: data, or a new object of its own -/
def Rt (K : PySem.W.Frag) (H0 F H : Hp) (ω : Om) : S → V → Prop
  | .fr d, v => Rp K F d v
  | .ow _ o, v => ∃ l, v = .ref l ∧ H0 l = none ∧ ω l = none ∧ F l = none ∧ ObjR K F H l o
theorem Rt.early {H0 H1 F H : Hp} {ω : Om} (h : ∀ b, H1 b = none → H0 b = none) : ∀ {x : S} {v : V}, Rt K H1 F H ω x v → Rt K H0 F H ω x v
  | .fr _, _, r => r
  | .ow _ _, _, ⟨l, e, h0, r⟩ => ⟨l, e, h l h0, r⟩
/-- only new objects come -/
structure Ext (F H F' H' : Hp) : Prop where
  sf : Same F F'
  sh : Same H H'
  fn : ∀ b o, H b = some o → F b = none → F' b = none
  fs : Same F' H'
theorem Ext.refl {F H : Hp} (h : Same F H) : Ext F H F H := ⟨Same.refl F, Same.refl H, fun _ _ _ z => z, h⟩
theorem Ext.trans {F H F1 H1 F2 H2 : Hp} (a : Ext F H F1 H1) (b : Ext F1 H1 F2 H2) : Ext F H F2 H2 := ⟨a.sf.trans b.sf, a.sh.trans b.sh, fun c o h1 h2 => b.fn c o (a.sh c o h1) (a.fn c o h1 h2), b.fs⟩
/-- a new thing, to be read only -/
theorem Ext.fz {F H : Hp} (h : Same F H) {p : Addr} (hp : H p = none) (u : HO) : Ext F H (upd F p u) (upd H p u) := by
  have hF := h.free hp
  refine ⟨same_upd hF, same_upd hp, fun b o h1 h2 => ?_, fun b o e => ?_⟩
  · rw [upd_ne (ne_of_none h1 hp)]
    exact h2
  · by_cases hb : b = p
    · subst hb
      rw [upd_same] at e ⊢
      exact e
    · rw [upd_ne hb] at e ⊢
      exact h b o e
/-- a new thing of its own -/
theorem Ext.ow {F H : Hp} (h : Same F H) {p : Addr} (hp : H p = none) (u : HO) : Ext F H F (upd H p u) := ⟨Same.refl F, same_upd hp, fun _ _ _ z => z, h.trans (same_upd hp)⟩
theorem Ext.stp {F H F' H' : Hp} {ω : Om} {s : Sl} {σ : L2.St} (e : Ext F H F' H') (t : Sta K F H ω s σ) : Stp F H ω F' H' ω ∧ Sta K F' H' ω s σ := by
  refine ⟨⟨e.sf, fun b o _ h => e.sh b o h, fun _ _ h _ => h, fun b o _ h1 h2 => e.fn b o h1 h2, fun b h => e.sh.free h, fun _ _ => Iff.rfl⟩,
    ⟨e.fs, fun b p h => ?_, fun i x h => ?_, t.len⟩⟩
  · obtain ⟨h1, u, h2⟩ := t.ow b p h
    exact ⟨e.fn b u h2 h1, u, e.sh b u h2⟩
  · obtain ⟨v, h1, h2⟩ := t.at' i x h
    refine ⟨v, h1, ?_⟩
    cases x with
    | fr d => exact Rp.mono e.sf h2
    | ow b o =>
      obtain ⟨l, rfl, h3, h4⟩ := h2
      exact ⟨l, rfl, h3, (h4.mono e.sf).heap fun u hu => e.sh _ _ hu⟩
/-- a result of its own becomes data -/
theorem Rt.frz {F0 H0 F H : Hp} {ω0 ω : Om} {s : Sl} {σ : L2.St} {x : S} {v : V} (p : Stp F0 H0 ω0 F H ω) (t : Sta K F H ω s σ) (r : Rt K H0 F H ω x v) :
    ∃ F', Stp F0 H0 ω0 F' H ω ∧ Sta K F' H ω s σ ∧ Rp K F' x.dat v ∧ Same F F' := by
  cases x with
  | fr d => exact ⟨F, p, t, r, Same.refl F⟩
  | ow b o =>
    obtain ⟨l, rfl, h0, h1, h2, h3⟩ := r
    obtain ⟨u, hu⟩ := h3.has
    have e := same_upd (o := u) h2
    refine ⟨upd F l u, ⟨p.sf.trans e, p.fr, p.om, fun b o q1 q2 q3 => ?_, p.tr, p.bk⟩, ⟨fun b o q => ?_, fun b q hq => ?_, fun i x h => ?_, t.len⟩, h3.frz hu h2, e⟩
    · rw [upd_ne (ne_of_none q2 h0)]
      exact p.fn b o q1 q2 q3
    · by_cases hb : b = l
      · subst hb
        rw [upd_same] at q
        rw [← q]
        exact hu
      · rw [upd_ne hb] at q
        exact t.sf b o q
    · obtain ⟨h4, h5⟩ := t.ow b q hq
      refine ⟨?_, h5⟩
      rw [upd_ne (fun z => by rw [z, h1] at hq; cases hq)]
      exact h4
    · obtain ⟨v, h4, h5⟩ := t.at' i x h
      refine ⟨v, h4, ?_⟩
      cases x with
      | fr d => exact Rp.mono e h5
      | ow b o =>
        obtain ⟨l', rfl, h6, h7⟩ := h5
        exact ⟨l', rfl, h6, h7.mono e⟩
/-- a slot's object becomes data -/
theorem Sta.frzSlot {F H : Hp} {ω : Om} {s : Sl} {σ : L2.St} {i : Nat} {o : O} (t : Sta K F H ω s σ) (hi : s[i]? = some (some (.ow false o))) :
    ∃ F' ω' v, Stp F H ω F' H ω' ∧ Sta K F' H ω' (s.set i (some (.fr o.dat))) σ ∧ σ[i]? = some (some v) ∧ Rp K F' o.dat v := by
  obtain ⟨v, hv, l, rfl, hl, ho⟩ := t.at' i _ hi
  obtain ⟨u, hu⟩ := ho.has
  have hF := (t.ow l _ hl).1
  have e := same_upd (o := u) hF
  have hr := ho.frz hu hF
  refine ⟨upd F l u, fun b => if b = l then none else ω b, .ref l, ⟨e, fun _ _ _ h => h, fun b o h _ => ?_, fun b o h1 h2 h3 => ?_, fun _ h => h, fun b j => ?_⟩, ⟨fun b o q => ?_, fun b q hq => ?_, fun j x h => ?_, ?_⟩, hv, hr⟩
  · show (if b = l then none else ω b) = none
    split
    · rfl
    · exact h
  · rw [upd_ne (fun z => by rw [z, hl] at h1; cases h1)]
    exact h3
  · show (if b = l then none else ω b) = some (j, true) ↔ _
    split
    · rename_i hb
      subst hb
      rw [hl]
      constructor
      · intro h; cases h
      · intro h; cases h
    · exact Iff.rfl
  · by_cases hb : b = l
    · subst hb
      rw [upd_same] at q
      rw [← q]
      exact hu
    · rw [upd_ne hb] at q
      exact t.sf b o q
  · have hq' : (if b = l then none else ω b) = some q := hq
    split at hq'
    · cases hq'
    · rename_i hb
      obtain ⟨h4, h5⟩ := t.ow b q hq'
      refine ⟨?_, h5⟩
      rw [upd_ne hb]
      exact h4
  · rw [List.getElem?_set] at h
    split at h
    · rename_i hij
      subst hij
      split at h
      · have h' := Option.some.inj (Option.some.inj h)
        subst h'
        exact ⟨_, hv, hr⟩
      · cases h
    · rename_i hij
      obtain ⟨v, h4, h5⟩ := t.at' j x h
      refine ⟨v, h4, ?_⟩
      cases x with
      | fr d => exact Rp.mono e h5
      | ow b o =>
        obtain ⟨l', rfl, h6, h7⟩ := h5
        refine ⟨l', rfl, ?_, h7.mono e⟩
        show (if l' = l then none else ω l') = _
        rw [if_neg (fun z => by rw [z, hl] at h6; cases h6; exact hij rfl)]
        exact h6
  · rw [List.length_set]
    exact t.len
theorem Sta.get {F H : Hp} {ω : Om} {s : Sl} {σ : L2.St} {i : Nat} {d : D} (t : Sta K F H ω s σ) (hi : s[i]? = some (some (.fr d))) : ∃ v, σ[i]? = some (some v) ∧ Rp K F d v := t.at' i _ hi
/-- a name is bound to data -/
theorem Sta.set {F H : Hp} {ω : Om} {s : Sl} {σ : L2.St} {d : D} {v : V} (t : Sta K F H ω s σ) (i : Nat) (r : Rp K F d v) : Sta K F H ω (s.set i (some (.fr d))) (σ.set i (some v)) := by
  refine ⟨t.sf, t.ow, fun j x h => ?_, by rw [List.length_set, List.length_set]; exact t.len⟩
  rw [List.getElem?_set] at h ⊢
  split at h
  · rename_i hij
    rw [if_pos hij]
    split at h
    · rename_i hl
      rw [if_pos (by rw [← t.len]; exact hl)]
      have h' := Option.some.inj (Option.some.inj h)
      subst h'
      exact ⟨v, rfl, r⟩
    · cases h
  · rename_i hij
    rw [if_neg hij]
    exact t.at' j x h
/-- nothing is known of a name any more -/
theorem Sta.drop {F H : Hp} {ω : Om} {s : Sl} {σ : L2.St} (t : Sta K F H ω s σ) (i : Nat) : Sta K F H ω (s.set i none) σ := by
  refine ⟨t.sf, t.ow, fun j x h => ?_, by rw [List.length_set]; exact t.len⟩
  rw [List.getElem?_set] at h
  split at h
  · split at h
    · cases h
    · cases h
  · exact t.at' j x h
theorem Sta.dropσ {F H : Hp} {ω : Om} {s : Sl} {σ : L2.St} (t : Sta K F H ω s σ) (i : Nat) (o : Option V) : Sta K F H ω (s.set i none) (σ.set i o) := by
  refine ⟨t.sf, t.ow, fun j x h => ?_, by rw [List.length_set, List.length_set]; exact t.len⟩
  rw [List.getElem?_set] at h
  split at h
  · split at h
    · cases h
    · cases h
  · rename_i hij
    rw [List.getElem?_set_ne hij]
    exact t.at' j x h
/-- a name is bound to a new object -/
theorem Sta.setO {F0 H0 F H : Hp} {ω0 ω : Om} {s : Sl} {σ : L2.St} {b : Bool} {o : O} {v : V} (p : Stp F0 H0 ω0 F H ω) (t : Sta K F H ω s σ) (i : Nat) (r : Rt K H0 F H ω (.ow b o) v) :
    ∃ ω', Stp F0 H0 ω0 F H ω' ∧ Sta K F H ω' (s.set i (some (.ow false o))) (σ.set i (some v)) := by
  obtain ⟨l, rfl, h0, h1, h2, h3⟩ := r
  refine ⟨fun c => if c = l then some (i, false) else ω c, ⟨p.sf, p.fr, fun c o q1 q2 => ?_, p.fn, p.tr, fun c j => ?_⟩, ⟨t.sf, fun c q hq => ?_, fun j x h => ?_, by rw [List.length_set, List.length_set]; exact t.len⟩⟩
  · show (if c = l then some (i, false) else ω c) = none
    rw [if_neg (ne_of_none q2 h0)]
    exact p.om c o q1 q2
  · show (if c = l then some (i, false) else ω c) = some (j, true) ↔ _
    split
    · rename_i hc
      subst hc
      constructor
      · intro h; cases h
      · intro h
        rw [← p.bk, h1] at h
        cases h
    · exact p.bk c j
  · have hq' : (if c = l then some (i, false) else ω c) = some q := hq
    split at hq'
    · rename_i hc
      subst hc
      exact ⟨h2, h3.has⟩
    · exact t.ow c q hq'
  · rw [List.getElem?_set] at h ⊢
    split at h
    · rename_i hij
      subst hij
      rw [if_pos rfl]
      split at h
      · rename_i hl
        rw [if_pos (by rw [← t.len]; exact hl)]
        have h' := Option.some.inj (Option.some.inj h)
        subst h'
        refine ⟨_, rfl, l, rfl, ?_, h3⟩
        show (if l = l then some (i, false) else ω l) = _
        rw [if_pos rfl]
      · cases h
    · rename_i hij
      rw [if_neg hij]
      obtain ⟨v, h4, h5⟩ := t.at' j x h
      refine ⟨v, h4, ?_⟩
      cases x with
      | fr d => exact h5
      | ow b o =>
        obtain ⟨l', rfl, h6, h7⟩ := h5
        refine ⟨l', rfl, ?_, h7⟩
        show (if l' = l then some (i, false) else ω l') = _
        rw [if_neg (fun z => by rw [z, h1] at h6; cases h6)]
        exact h6
/-- a slot's object is changed -/
theorem Sta.mut {F H : Hp} {ω : Om} {s : Sl} {σ : L2.St} {b : Bool} {o' : O} {l i : Nat} {u : HO} (t : Sta K F H ω s σ) (hv : σ[i]? = some (some (.ref l))) (hl : ω l = some (i, b)) (r : ObjR K F (upd H l u) l o') :
    Stp F H ω F (upd H l u) ω ∧ Sta K F (upd H l u) ω (s.set i (some (.ow b o'))) σ := by
  have hn : ∀ c, ω c = none → c ≠ l := fun c h z => by rw [z, hl] at h; cases h
  have hF := (t.ow l _ hl).1
  refine ⟨⟨Same.refl F, fun c o h1 h2 => ?_, fun _ _ h _ => h, fun _ _ _ _ h => h, fun c h => ?_, fun _ _ => Iff.rfl⟩, ⟨fun c o h => ?_, fun c q h => ⟨(t.ow c q h).1, ?_⟩, fun j x h => ?_, by rw [List.length_set]; exact t.len⟩⟩
  · rw [upd_ne (hn c h1)]
    exact h2
  · by_cases hc : c = l
    · subst hc
      rw [upd_same] at h
      cases h
    · rw [upd_ne hc] at h
      exact h
  · rw [upd_ne (fun z => by rw [z, hF] at h; cases h)]
    exact t.sf c o h
  · by_cases hc : c = l
    · subst hc
      exact ⟨u, upd_same⟩
    · rw [upd_ne hc]
      exact (t.ow c q h).2
  · rw [List.getElem?_set] at h
    split at h
    · rename_i hij
      subst hij
      split at h
      · have h' := Option.some.inj (Option.some.inj h)
        subst h'
        exact ⟨_, hv, l, rfl, hl, r⟩
      · cases h
    · rename_i hij
      obtain ⟨v, h4, h5⟩ := t.at' j x h
      refine ⟨v, h4, ?_⟩
      cases x with
      | fr d => exact h5
      | ow b o =>
        obtain ⟨l', rfl, h6, h7⟩ := h5
        exact ⟨l', rfl, h6, h7.heap fun w hw => by
          rw [upd_ne (fun z => by rw [z, hl] at h6; cases h6; exact hij rfl)]
          exact hw⟩
end
/-! ### readings by data -/
/-- what an expression gives, by data -/
abbrev PX := Sl → (S → Sl → Prop) → Prop
/-- an expression whose value is data -/
abbrev PD := Sl → (D → Sl → Prop) → Prop
class LiftE (K : PySem.W.Frag) (t : TE) (p : outParam PX) : Prop where
  run : ∀ {F H : Hp} {ω : Om} {s : Sl} {σ : L2.St} {Q : VK} (q : S → Sl → Prop), Sta K F H ω s σ → p s q →
    (∀ v F' H' ω' x s', Stp F H ω F' H' ω' → Sta K F' H' ω' s' σ → Rt K H F' H' ω' x v → q x s' → Q v H') → t σ H Q
/-- .. frozen -/
class LiftD (K : PySem.W.Frag) (t : TE) (p : outParam PD) : Prop where
  run : ∀ {F H : Hp} {ω : Om} {s : Sl} {σ : L2.St} {Q : VK} (q : D → Sl → Prop), Sta K F H ω s σ → p s q →
    (∀ v F' H' ω' d s', Stp F H ω F' H' ω' → Sta K F' H' ω' s' σ → Rp K F' d v → q d s' → Q v H') → t σ H Q
def pDat (p : PX) : PD := fun s q => p s fun x s' => q x.dat s'
instance {K : PySem.W.Frag} {t : TE} {p : PX} [LiftE K t p] : LiftD K t (pDat p) := ⟨fun {F H ω s σ Q} q T h k =>
  LiftE.run (K := K) (t := t) (p := p) (fun x s' => q x.dat s') T h fun v F' H' ω' x s' p' T' r hq => by
    obtain ⟨F2, p2, T2, r2, _⟩ := Rt.frz p' T' r
    exact k v F2 H' ω' x.dat s' p2 T2 r2 hq⟩
section
variable {K : PySem.W.Frag}
/-! names, constants -/
def pVar (i : Nat) : PX := fun s q => match s[i]? with
  | some (some (.fr d)) => q (.fr d) s
  | some (some (.ow false o)) => q (.fr o.dat) (s.set i (some (.fr o.dat)))
  | _ => False
theorem liftVar (i : Nat) {F H : Hp} {ω : Om} {s : Sl} {σ : L2.St} (q : S → Sl → Prop) (T : Sta K F H ω s σ) (h : pVar i s q) :
    ∃ v F' ω' d s', σ[i]? = some (some v) ∧ Stp F H ω F' H ω' ∧ Sta K F' H ω' s' σ ∧ Rp K F' d v ∧ q (.fr d) s' := by
  unfold pVar at h
  split at h
  · rename_i d e
    obtain ⟨v, hv, r⟩ := T.get e
    exact ⟨v, F, ω, d, s, hv, Stp.refl F H ω, T, r, h⟩
  · rename_i o e
    obtain ⟨F', ω', v, p, T', hv, r⟩ := T.frzSlot e
    exact ⟨v, F', ω', _, _, hv, p, T', r, h⟩
  · exact h.elim
instance (i : Nat) : LiftE K (tVar i) (pVar i) := ⟨fun q T h k => by
  obtain ⟨v, F', ω', d, s', hv, p, T', r, hq⟩ := liftVar i q T h
  exact ⟨v, hv, k v F' _ ω' (.fr d) s' p T' r hq⟩⟩
def vS : V → Option D
  | .non => some .non
  | .bl b => some (.bl b)
  | .int i => some (.int i)
  | .str x => some (.str x)
  | _ => none
theorem vS_rp {F : Hp} : ∀ {v : V} {d : D}, vS v = some d → Rp K F d v
  | .non, _, h => by cases h; rfl
  | .bl _, _, h => by cases h; rfl
  | .int _, _, h => by cases h; rfl
  | .str _, _, h => by cases h; rfl
/-- a plain value -/
def qV (v : V) (q : D → Prop) : Prop := match vS v with
  | some d => q d
  | none => False
theorem qV_rp {v : V} {q : D → Prop} (h : qV v q) (F : Hp) : ∃ d, Rp K F d v ∧ q d := by
  unfold qV at h
  split at h
  · rename_i d e
    exact ⟨d, vS_rp e, h⟩
  · exact h.elim
/-- a constant: data that stands in the written part, or a plain value -/
class ConD (K : PySem.W.Frag) (v : V) (d : outParam D) : Prop where
  rp : ∀ F : Hp, Rp K F d v
instance (b : Bool) : ConD K (.bl b) (.bl b) := ⟨fun _ => rfl⟩
instance (i : Int) : ConD K (.int i) (.int i) := ⟨fun _ => rfl⟩
instance (x : Str) : ConD K (.str x) (.str x) := ⟨fun _ => rfl⟩
instance : ConD K .non .non := ⟨fun _ => rfl⟩
def pC (d : D) : PX := fun s q => q (.fr d) s
instance {v : V} {d : D} [ConD K v d] : LiftE K (tC v) (pC d) := ⟨fun {F H ω s σ Q} q T h k => k v F H ω (.fr d) s (Stp.refl F H ω) T (ConD.rp F : Rp K F d v) h⟩
/-! operators by values -/
/-- a result that is data, or new -/
def Rn (K : PySem.W.Frag) (H0 F H : Hp) : S → V → Prop
  | .fr d, v => Rp K F d v
  | .ow _ o, v => ∃ l, v = .ref l ∧ H0 l = none ∧ F l = none ∧ ObjR K F H l o
theorem Sta.free {F H : Hp} {ω : Om} {s : Sl} {σ : L2.St} (T : Sta K F H ω s σ) {l : Addr} (h0 : H l = none) : ω l = none := by
  cases hw : ω l with
  | none => rfl
  | some w =>
    obtain ⟨_, u, hu⟩ := T.ow l w hw
    rw [h0] at hu
    cases hu
theorem Rn.rt {F0 H0 F H F' H' : Hp} {ω0 ω : Om} {s : Sl} {σ : L2.St} (p : Stp F0 H0 ω0 F H ω) (T : Sta K F H ω s σ) : ∀ {x : S} {v : V}, Rn K H F' H' x v → Rt K H0 F' H' ω x v
  | .fr _, _, r => r
  | .ow _ _, _, ⟨l, e, h0, r⟩ => ⟨l, e, p.tr l h0, T.free h0, r⟩
class OpL (K : PySem.W.Frag) (r : R2) (g : outParam (D → D → (S → Prop) → Prop)) : Prop where
  run : ∀ {F H : Hp} {x y : V} {d e : D} {Q : VK} (q : S → Prop), Same F H → Rp K F d x → Rp K F e y → g d e q → (∀ v F' H' z, Ext F H F' H' → Rn K H F' H' z v → q z → Q v H') → r x y H Q
def pOp (g : D → D → (S → Prop) → Prop) (pa pb : PD) : PX := fun s q => pa s fun d s1 => pb s1 fun e s2 => g d e fun z => q z s2
instance {r : R2} {g : D → D → (S → Prop) → Prop} {ta tb : TE} {pa pb : PD} [OpL K r g] [LiftD K ta pa] [LiftD K tb pb] : LiftE K (tOp r ta tb) (pOp g pa pb) := ⟨fun q T h k => by
  refine LiftD.run (K := K) (t := ta) (p := pa) _ T h fun x F1 H1 ω1 d s1 p1 T1 r1 h1 => ?_
  refine LiftD.run (K := K) (t := tb) (p := pb) _ T1 h1 fun y F2 H2 ω2 e s2 p2 T2 r2 h2 => ?_
  refine OpL.run (K := K) (r := r) (g := g) _ T2.sf (r1.mono p2.sf) r2 h2 fun v F3 H3 z e3 r3 hq => ?_
  obtain ⟨p3, T3⟩ := e3.stp T2
  exact k v F3 H3 ω2 z s2 ((p1.trans p2).trans p3) T3 (Rn.rt (p1.trans p2) T2 r3) hq⟩
class UnL (K : PySem.W.Frag) (r : V → Hp → VK → Prop) (g : outParam (D → (S → Prop) → Prop)) : Prop where
  run : ∀ {F H : Hp} {x : V} {d : D} {Q : VK} (q : S → Prop), Same F H → Rp K F d x → g d q → (∀ v F' H' z, Ext F H F' H' → Rn K H F' H' z v → q z → Q v H') → r x H Q
def pUn (g : D → (S → Prop) → Prop) (pa : PD) : PX := fun s q => pa s fun d s1 => g d fun z => q z s1
instance {r : V → Hp → VK → Prop} {g : D → (S → Prop) → Prop} {ta : TE} {pa : PD} [UnL K r g] [LiftD K ta pa] : LiftE K (tUn r ta) (pUn g pa) := ⟨fun q T h k => by
  refine LiftD.run (K := K) (t := ta) (p := pa) _ T h fun x F1 H1 ω1 d s1 p1 T1 r1 h1 => ?_
  refine UnL.run (K := K) (r := r) (g := g) _ T1.sf r1 h1 fun v F3 H3 z e3 r3 hq => ?_
  obtain ⟨p3, T3⟩ := e3.stp T1
  exact k v F3 H3 ω1 z s1 (p1.trans p3) T3 (Rn.rt p1 T1 r3) hq⟩
theorem rp_int {F : Hp} {i : Int} {v : V} (h : Rp K F (.int i) v) : v = .int i := h
/-- plain answers -/
theorem plain {F H : Hp} {w : V} {Q : VK} {q : S → Prop} (e : Same F H) (h : qV w fun d => q (.fr d)) (k : ∀ v F' H' z, Ext F H F' H' → Rn K H F' H' z v → q z → Q v H') : Q w H := by
  obtain ⟨d, r, hq⟩ := qV_rp (K := K) h F
  exact k w F H (.fr d) (Ext.refl e) r hq
def gI0 (g : Int → Int → V) : D → D → (S → Prop) → Prop := fun d e q => match d, e with
  | .int i, .int j => qV (g i j) fun z => q (.fr z)
  | _, _ => False
instance (g : Int → Int → V) : OpL K (rI0 g) (gI0 g) := ⟨fun {F H x y d e Q} q hs h1 h2 h k => by
  unfold gI0 at h
  split at h
  · exact ⟨_, _, h1, h2, plain hs h k⟩
  · exact h.elim⟩
def gI (C : Int → Int → Prop) (g : Int → Int → V) : D → D → (S → Prop) → Prop := fun d e q => match d, e with
  | .int i, .int j => C i j ∧ qV (g i j) fun z => q (.fr z)
  | _, _ => False
instance (C : Int → Int → Prop) (g : Int → Int → V) : OpL K (rI C g) (gI C g) := ⟨fun {F H x y d e Q} q hs h1 h2 h k => by
  unfold gI at h
  split at h
  · exact ⟨_, _, h1, h2, h.1, plain hs h.2 k⟩
  · exact h.elim⟩
def gU (g : Int → V) : D → (S → Prop) → Prop := fun d q => match d with
  | .int i => qV (g i) fun z => q (.fr z)
  | _ => False
instance (g : Int → V) : UnL K (rU g) (gU g) := ⟨fun {F H x d Q} q hs h1 h k => by
  unfold gU at h
  split at h
  · exact ⟨_, h1, plain hs h k⟩
  · exact h.elim⟩
def gEq (f : Bool → Bool) : D → D → (S → Prop) → Prop := fun d e q => match d, e with
  | .int i, .int j => q (.fr (.bl (f (decide (i = j)))))
  | .str i, .str j => q (.fr (.bl (f (decide (i = j)))))
  | .bl i, .bl j => q (.fr (.bl (f (decide (i = j)))))
  | _, _ => False
theorem dec_v {α : Type} {a b : V} {x y : α} [Decidable (x = y)] (h : a = b ↔ x = y) : decide (a = b) = decide (x = y) := by
  by_cases e : x = y
  · rw [decide_eq_true e, decide_eq_true (h.mpr e)]
  · rw [decide_eq_false e, decide_eq_false fun z => e (h.mp z)]
theorem gEq_run (f : Bool → Bool) {F H : Hp} {x y : V} {d e : D} {Q : VK} (q : S → Prop) (hs : Same F H) (h1 : Rp K F d x) (h2 : Rp K F e y) (h : gEq f d e q)
    (k : ∀ v F' H' z, Ext F H F' H' → Rn K H F' H' z v → q z → Q v H') : scal x y = true ∧ Q (.bl (f (decide (x = y)))) H := by
  unfold gEq at h
  split at h
  · cases (show x = _ from h1)
    cases (show y = _ from h2)
    refine ⟨rfl, k _ F H (.fr (.bl _)) (Ext.refl hs) rfl ?_⟩
    rw [dec_v ⟨V.int.inj, congrArg V.int⟩]
    exact h
  · cases (show x = _ from h1)
    cases (show y = _ from h2)
    refine ⟨rfl, k _ F H (.fr (.bl _)) (Ext.refl hs) rfl ?_⟩
    rw [dec_v ⟨V.str.inj, congrArg V.str⟩]
    exact h
  · cases (show x = _ from h1)
    cases (show y = _ from h2)
    refine ⟨rfl, k _ F H (.fr (.bl _)) (Ext.refl hs) rfl ?_⟩
    rw [dec_v ⟨V.bl.inj, congrArg V.bl⟩]
    exact h
  · exact h.elim
instance : OpL K rEq (gEq id) := ⟨fun q hs h1 h2 h k => gEq_run id q hs h1 h2 h k⟩
instance : OpL K rNe (gEq not) := ⟨fun q hs h1 h2 h k => gEq_run not q hs h1 h2 h k⟩
def isNon : D → Bool
  | .non => true
  | _ => false
theorem isNon_v {F : Hp} {d : D} {x : V} (h : Rp K F d x) : decide (x = .non) = isNon d := by
  cases d with
  | non => cases (show x = _ from h); rfl
  | bl b => cases (show x = _ from h); rfl
  | int b => cases (show x = _ from h); rfl
  | str b => cases (show x = _ from h); rfl
  | lst ds => obtain ⟨a, vs, rfl, _⟩ := h; rfl
  | scr ds => obtain ⟨a, rfl, _⟩ := h; rfl
  | tup ds => obtain ⟨a, vs, rfl, _⟩ := h; rfl
  | dic ks ds => obtain ⟨a, vs, rfl, _⟩ := h; rfl
  | obj C ns ds => obtain ⟨a, dx, vs, rfl, _⟩ := h; rfl
def gIsN (f : Bool → Bool) : D → D → (S → Prop) → Prop := fun d e q => match e with
  | .non => q (.fr (.bl (f (isNon d))))
  | _ => False
instance : OpL K (fun x y H Q => y = .non ∧ Q (.bl (decide (x = .non))) H) (gIsN id) := ⟨fun {F H x y d e Q} q hs h1 h2 h k => by
  unfold gIsN at h
  split at h
  · refine ⟨h2, ?_⟩
    rw [isNon_v h1]
    exact k _ F H (.fr (.bl _)) (Ext.refl hs) rfl h
  · exact h.elim⟩
instance : OpL K (fun x y H Q => y = .non ∧ Q (.bl (!decide (x = .non))) H) (gIsN not) := ⟨fun {F H x y d e Q} q hs h1 h2 h k => by
  unfold gIsN at h
  split at h
  · refine ⟨h2, ?_⟩
    rw [isNon_v h1]
    exact k _ F H (.fr (.bl _)) (Ext.refl hs) rfl h
  · exact h.elim⟩
/-! items of sequences -/
def gIxL : D → D → (S → Prop) → Prop := fun d e q => match d, e with
  | .lst ds, .int i => match atI ds i with
    | some z => q (.fr z)
    | none => False
  | _, _ => False
def gIxT : D → D → (S → Prop) → Prop := fun d e q => match d, e with
  | .tup ds, .int i => match atI ds i with
    | some z => q (.fr z)
    | none => False
  | _, _ => False
theorem RpA.atI {F : Hp} {ds : List D} {vs : List V} {i : Int} {d : D} (h : RpA K F ds vs) (e : atI ds i = some d) : ∃ v, L2.atI vs i = some v ∧ Rp K F d v := by
  unfold L2.atI at e ⊢
  rw [← h.len]
  cases hx : ixN ds.length i with
  | none => rw [hx] at e; cases e
  | some j =>
    rw [hx] at e
    exact h.get e
instance : OpL K (rIxL K) gIxL := ⟨fun {F H x y d e Q} q hs h1 h2 h k => by
  unfold gIxL at h
  split at h
  · split at h
    · rename_i z hz
      obtain ⟨a, vs, rfl, h3, h4⟩ := h1
      obtain ⟨v, hv, r⟩ := h4.atI hz
      exact ⟨a, vs, _, v, rfl, h2, SqL.of (hs _ _ h3), hv, k v F H (.fr z) (Ext.refl hs) r h⟩
    · exact h.elim
  · exact h.elim⟩
instance : OpL K (rIxT K) gIxT := ⟨fun {F H x y d e Q} q hs h1 h2 h k => by
  unfold gIxT at h
  split at h
  · split at h
    · rename_i z hz
      obtain ⟨a, vs, rfl, h3, h4⟩ := h1
      obtain ⟨v, hv, r⟩ := h4.atI hz
      exact ⟨a, vs, _, v, rfl, h2, hs.tupq h3, hv, k v F H (.fr z) (Ext.refl hs) r h⟩
    · exact h.elim
  · exact h.elim⟩
def gIxS : D → D → (S → Prop) → Prop := fun d e q => match d, e with
  | .str z, .int i => z.length ≤ sizeLine ∧ match atI z.cps.toList i with
    | some c => q (.fr (.str ⟨#[c]⟩))
    | none => False
  | _, _ => False
instance : OpL K rIxS gIxS := ⟨fun {F H x y d e Q} q hs h1 h2 h k => by
  unfold gIxS at h
  split at h
  · obtain ⟨h0, h⟩ := h
    split at h
    · rename_i z hz
      exact ⟨_, _, _, h1, h2, h0, hz, k _ F H (.fr (.str _)) (Ext.refl hs) rfl h⟩
    · exact h.elim
  · exact h.elim⟩
instance : OpL K (rIx K) (fun d e q => gIxL d e q ∨ gIxT d e q ∨ gIxS d e q) := ⟨fun q hs h1 h2 h k => by
  rcases h with h | h | h
  · exact .inl (OpL.run (K := K) (r := rIxL K) (g := gIxL) q hs h1 h2 h k)
  · exact .inr (.inl (OpL.run (K := K) (r := rIxT K) (g := gIxT) q hs h1 h2 h k))
  · exact .inr (.inr (OpL.run (K := K) (r := rIxS) (g := gIxS) q hs h1 h2 h k))⟩
/-! lists and tuples made -/
theorem Ext.lst {F H : Hp} {p : Addr} {ds : List D} {vs : List V} {Q : VK} {q : S → Prop} (hs : Same F H) (r : RpA K F ds vs) (hq : q (.ow false (.lst ds))) (k : ∀ v F' H' z, Ext F H F' H' → Rn K H F' H' z v → q z → Q v H')
    (hp : H p = none) : Q (.ref p) (upd H p (.lst vs)) := k _ F _ (.ow false (.lst ds)) (Ext.ow hs hp _) ⟨p, rfl, hp, hs.free hp, vs, upd_same, r⟩ hq
theorem Ext.tup {F H : Hp} {p : Addr} {ds : List D} {vs : List V} {Q : VK} {q : S → Prop} (hs : Same F H) (r : RpA K F ds vs) (hq : q (.fr (.tup ds))) (k : ∀ v F' H' z, Ext F H F' H' → Rn K H F' H' z v → q z → Q v H')
    (hp : H p = none) : Q (.ref p) (upd H p (.tup vs)) := k _ _ _ (.fr (.tup ds)) (Ext.fz hs hp _) ⟨p, vs, rfl, SqT.of upd_same, r.mono (same_upd (hs.free hp))⟩ hq
def gCat : D → D → (S → Prop) → Prop := fun d e q => match d, e with
  | .lst a, .lst b => a.length + b.length ≤ sizeLine ∧ q (.ow false (.lst (a ++ b)))
  | _, _ => False
def gCatT : D → D → (S → Prop) → Prop := fun d e q => match d, e with
  | .tup a, .tup b => a ≠ [] ∧ a.length + b.length ≤ sizeLine ∧ q (.fr (.tup (a ++ b)))
  | _, _ => False
end
section
variable {K : PySem.W.Frag}
instance : OpL K rCat gCat := ⟨fun {F H x y d e Q} q hs h1 h2 h k => by
  unfold gCat at h
  split at h
  · obtain ⟨a, vs, rfl, h3, h4⟩ := h1
    obtain ⟨b, ws, rfl, h5, h6⟩ := h2
    exact ⟨a, b, vs, ws, rfl, rfl, hs _ _ h3, hs _ _ h5, by rw [← h4.len, ← h6.len]; exact h.1, fun p hp => Ext.lst hs (h4.app h6) h.2 k hp⟩
  · exact h.elim⟩
instance : OpL K (rCatT K) gCatT := ⟨fun {F H x y d e Q} q hs h1 h2 h k => by
  unfold gCatT at h
  split at h
  · obtain ⟨a, vs, rfl, h3, h4⟩ := h1
    obtain ⟨b, ws, rfl, h5, h6⟩ := h2
    refine ⟨a, b, vs, ws, rfl, rfl, hs.tupq h3, hs.tupq h5, fun z => h.1 ?_, by rw [← h4.len, ← h6.len]; exact h.2.1, fun z => ?_, fun _ p hp => Ext.tup hs (h4.app h6) h.2.2 k hp⟩
    · have := h4.len
      rw [z] at this
      exact List.length_eq_zero_iff.mp this
    · have hz := h6.len
      rw [z] at hz
      have e0 := List.length_eq_zero_iff.mp hz
      have hq := h.2.2
      rw [e0, List.append_nil] at hq
      exact k _ F H (.fr (.tup _)) (Ext.refl hs) ⟨a, vs, rfl, h3, h4⟩ hq
  · exact h.elim⟩
def gRep : D → D → (S → Prop) → Prop := fun d e q => match d, e with
  | .lst a, .int k => -(2 ^ 63) ≤ k ∧ k < 2 ^ 63 ∧ a.length * k.toNat ≤ sizeLine ∧ q (.ow false (.lst (List.replicate k.toNat a).flatten))
  | _, _ => False
theorem RpA.flat {F : Hp} {ds : List D} {vs : List V} (h : RpA K F ds vs) : ∀ n, RpA K F (List.replicate n ds).flatten (List.replicate n vs).flatten
  | 0 => rfl
  | n + 1 => by
    rw [List.replicate_succ, List.replicate_succ, List.flatten_cons, List.flatten_cons]
    exact h.app (RpA.flat h n)
instance : OpL K rRep gRep := ⟨fun {F H x y d e Q} q hs h1 h2 h k => by
  unfold gRep at h
  split at h
  · obtain ⟨a, vs, rfl, h3, h4⟩ := h1
    exact ⟨a, _, vs, rfl, h2, hs _ _ h3, h.1, h.2.1, by rw [← h4.len]; exact h.2.2.1, fun p hp => Ext.lst hs (h4.flat _) h.2.2.2 k hp⟩
  · exact h.elim⟩
/-! texts -/
def gStrB (f : Str → Str → Bool) : D → D → (S → Prop) → Prop := fun d e q => match d, e with
  | .str i, .str j => q (.fr (.bl (f i j)))
  | _, _ => False
theorem gStrB_run {f : Str → Str → Bool} {F H : Hp} {x y : V} {d e : D} {Q : VK} (q : S → Prop) (hs : Same F H) (h1 : Rp K F d x) (h2 : Rp K F e y) (h : gStrB f d e q) (k : ∀ v F' H' z, Ext F H F' H' → Rn K H F' H' z v → q z → Q v H') :
    ∃ i j, x = .str i ∧ y = .str j ∧ Q (.bl (f i j)) H := by
  unfold gStrB at h
  split at h
  · exact ⟨_, _, h1, h2, k _ F H (.fr (.bl _)) (Ext.refl hs) rfl h⟩
  · exact h.elim
instance : OpL K (fun x y H Q => ∃ i j, x = .str i ∧ y = .str j ∧ Q (.bl (decide (i.cps.toList < j.cps.toList))) H) (gStrB fun i j => decide (i.cps.toList < j.cps.toList)) := ⟨fun q hs h1 h2 h k => gStrB_run q hs h1 h2 h k⟩
instance : OpL K (fun x y H Q => ∃ i j, x = .str i ∧ y = .str j ∧ Q (.bl (!(Builtin.Str.occurrences j i 0 j.length 1).isEmpty)) H) (gStrB fun i j => !(Builtin.Str.occurrences j i 0 j.length 1).isEmpty) := ⟨fun q hs h1 h2 h k => gStrB_run q hs h1 h2 h k⟩
def gAddS : D → D → (S → Prop) → Prop := fun d e q => match d, e with
  | .str i, .str j => i.length + j.length ≤ sizeLine ∧ q (.fr (.str (i ++ j)))
  | _, _ => False
instance : OpL K (fun x y H Q => ∃ i j, x = .str i ∧ y = .str j ∧ i.length + j.length ≤ sizeLine ∧ Q (.str (i ++ j)) H) gAddS := ⟨fun {F H x y d e Q} q hs h1 h2 h k => by
  unfold gAddS at h
  split at h
  · exact ⟨_, _, h1, h2, h.1, k _ F H (.fr (.str _)) (Ext.refl hs) rfl h.2⟩
  · exact h.elim⟩
/-! == of data -/
def D.plN : Nat → D → Bool
  | _, .non => true
  | _, .int _ => true
  | _, .str x => PyData.strOk x
  | n + 1, .lst ds => ds.all (D.plN n)
  | n + 1, .tup ds => ds.all (D.plN n)
  | _, _ => false
mutual
def D.py : D → PyData
  | .non => .none
  | .bl b => .bool b
  | .int i => .int i
  | .str x => .str x
  | .lst ds => .list (D.pys ds)
  | .tup ds => .tuple (D.pys ds)
  | .dic _ _ => .none
  | .obj _ _ _ => .none
  | .scr ns => .list (ns.map .int)
def D.pys : List D → List PyData
  | [] => []
  | d :: ds => d.py :: D.pys ds
end
theorem all_cons {n : Nat} {d : D} {ds : List D} (h : (d :: ds).all (D.plN n) = true) : D.plN n d = true ∧ ds.all (D.plN n) = true := Bool.and_eq_true_iff.mp h
theorem pys_of {n : Nat} {F : Hp} (ih : ∀ {d : D} {v : V}, D.plN n d = true → Rp K F d v → Dp K F v d.py ∧ d.py.canLay0 = true ∧ d.py.depth ≤ n) :
    ∀ {ds : List D} {vs : List V}, ds.all (D.plN n) = true → RpA K F ds vs → DpAll K F vs (D.pys ds) ∧ PyData.canLayAll0 (D.pys ds) = true ∧ PyData.depthAll (D.pys ds) ≤ n
  | [], _, _, h => by
    subst h
    exact ⟨.nil, rfl, Nat.zero_le _⟩
  | d :: ds, _, hp, h => by
    obtain ⟨v, ws, rfl, h1, h2⟩ := h
    obtain ⟨p1, p2⟩ := all_cons hp
    obtain ⟨a1, a2, a3⟩ := ih p1 h1
    obtain ⟨b1, b2, b3⟩ := pys_of ih p2 h2
    exact ⟨.cons a1 b1, Bool.and_eq_true_iff.mpr ⟨a2, b2⟩, Nat.max_le.mpr ⟨a3, b3⟩⟩
theorem py_of {F : Hp} (n : Nat) {d : D} {v : V} (hp : D.plN n d = true) (h : Rp K F d v) : Dp K F v d.py ∧ d.py.canLay0 = true ∧ d.py.depth ≤ n := by
  induction n generalizing d v with
  | zero =>
    cases d with
    | non => cases (show _ = _ from h); exact ⟨.non, rfl, Nat.zero_le _⟩
    | int i => cases (show _ = _ from h); exact ⟨.int i, rfl, Nat.zero_le _⟩
    | str i => cases (show _ = _ from h); exact ⟨.str i, hp, Nat.zero_le _⟩
    | _ => cases hp
  | succ n ih =>
    cases d with
    | non => cases (show _ = _ from h); exact ⟨.non, rfl, Nat.zero_le _⟩
    | int i => cases (show _ = _ from h); exact ⟨.int i, rfl, Nat.zero_le _⟩
    | str i => cases (show _ = _ from h); exact ⟨.str i, hp, Nat.zero_le _⟩
    | lst ds =>
      obtain ⟨a, vs, rfl, h1, h2⟩ := h
      obtain ⟨b1, b2, b3⟩ := pys_of (fun hp h => ih hp h) (show ds.all (D.plN n) = true from hp) h2
      exact ⟨.lst (SqL.of h1) b1, b2, Nat.succ_le_succ b3⟩
    | tup ds =>
      obtain ⟨a, vs, rfl, h1, h2⟩ := h
      obtain ⟨b1, b2, b3⟩ := pys_of (fun hp h => ih hp h) (show ds.all (D.plN n) = true from hp) h2
      exact ⟨.tup h1 b1, b2, Nat.succ_le_succ b3⟩
    | _ => cases hp
theorem eqvA {n : Nat} (ih : ∀ {d e : D}, D.plN n d = true → D.plN n e = true → (PyData.eqv d.py e.py = true ↔ d = e)) :
    ∀ {ds es : List D}, ds.all (D.plN n) = true → es.all (D.plN n) = true → (PyData.eqvAll (D.pys ds) (D.pys es) = true ↔ ds = es)
  | [], [], _, _ => by simp [D.pys, PyData.eqvAll]
  | [], _ :: _, _, _ => by simp [D.pys, PyData.eqvAll]
  | _ :: _, [], _, _ => by simp [D.pys, PyData.eqvAll]
  | d :: ds, e :: es, h1, h2 => by
    obtain ⟨p1, p2⟩ := all_cons h1
    obtain ⟨q1, q2⟩ := all_cons h2
    have a := ih p1 q1
    have b := eqvA ih p2 q2
    simp only [D.pys, PyData.eqvAll, Bool.and_eq_true, List.cons.injEq, a, b]
theorem eqv_iff : ∀ (n : Nat) {d e : D}, D.plN n d = true → D.plN n e = true → (PyData.eqv d.py e.py = true ↔ d = e)
  | n, d, e, h1, h2 => by
    cases d <;> cases e <;> first
      | (cases n <;> cases h1; done)
      | (cases n <;> cases h2; done)
      | (simp [D.py, PyData.eqv]; done)
      | skip
    all_goals
      cases n with
      | zero => first | (cases h1; done) | (cases h2; done)
      | succ n =>
        simp only [D.py, PyData.eqv, D.lst.injEq, D.tup.injEq]
        exact eqvA (fun h1 h2 => eqv_iff n h1 h2) h1 h2
noncomputable def eqD (d e : D) : Bool := @decide (d = e) (Classical.propDecidable _)
theorem eqD_true {d e : D} (h : d = e) : eqD d e = true := by unfold eqD; exact @decide_eq_true _ (_) h
theorem eqD_false {d e : D} (h : d ≠ e) : eqD d e = false := by unfold eqD; exact @decide_eq_false _ (_) h
theorem of_eqD {d e : D} (h : eqD d e = true) : d = e := by unfold eqD at h; exact @of_decide_eq_true _ (_) h
theorem of_eqD_f {d e : D} (h : eqD d e = false) : d ≠ e := by unfold eqD at h; exact @of_decide_eq_false _ (_) h
def gEqD (f : Bool → Bool) : D → D → (S → Prop) → Prop := fun d e q => D.plN 60 d = true ∧ D.plN 60 e = true ∧ q (.fr (.bl (f (eqD d e))))
theorem eqD_is {d e : D} (h1 : D.plN 60 d = true) (h2 : D.plN 60 e = true) : PyData.eqv d.py e.py = eqD d e := by
  by_cases h : d = e
  · rw [eqD_true h]
    exact (eqv_iff 60 h1 h2).mpr h
  · rw [eqD_false h]
    exact Bool.eq_false_iff.mpr fun z => h ((eqv_iff 60 h1 h2).mp z)
theorem gEqD_run (f : Bool → Bool) {F H : Hp} {x y : V} {d e : D} {Q : VK} (q : S → Prop) (hs : Same F H) (h1 : Rp K F d x) (h2 : Rp K F e y) (h : gEqD f d e q) (k : ∀ v F' H' z, Ext F H F' H' → Rn K H F' H' z v → q z → Q v H') :
    ∃ a b, Dp K H x a ∧ Dp K H y b ∧ SeqAt.shaped a = true ∧ SeqAt.shaped b = true ∧ Q (.bl (f (PyData.eqv a b))) H := by
  obtain ⟨p1, p2, hq⟩ := h
  obtain ⟨a1, a2, a3⟩ := py_of 60 p1 (h1.mono hs)
  obtain ⟨b1, b2, b3⟩ := py_of 60 p2 (h2.mono hs)
  refine ⟨_, _, a1, b1, shaped_mk a2 (Nat.le_trans a3 (by decide)), shaped_mk b2 (Nat.le_trans b3 (by decide)), ?_⟩
  rw [eqD_is p1 p2]
  exact k _ F H (.fr (.bl _)) (Ext.refl hs) rfl hq
instance : OpL K (rEqD K) (gEqD id) := ⟨fun q hs h1 h2 h k => gEqD_run id q hs h1 h2 h k⟩
instance : OpL K (rNeD K) (gEqD not) := ⟨fun q hs h1 h2 h k => gEqD_run not q hs h1 h2 h k⟩
end
/-! ### tests -/
abbrev PT1 := Sl → (Sl → Prop) → (Sl → Prop) → Prop
def YN (b : Bool) (y n : Prop) : Prop := (b = true → y) ∧ (b = false → n)
theorem YN.ite {b : Bool} {y n : Prop} (h : YN b y n) : if b = true then y else n := by
  cases b with
  | true => exact iteT (h.1 rfl)
  | false => exact iteF (h.2 rfl)
class LiftT (K : PySem.W.Frag) (t : TT) (p : outParam PT1) : Prop where
  run : ∀ {F H : Hp} {ω : Om} {s : Sl} {σ : L2.St} {Q : Bool → Hp → Prop} (y n : Sl → Prop), Sta K F H ω s σ → p s y n →
    (∀ b F' H' ω' s', Stp F H ω F' H' ω' → Sta K F' H' ω' s' σ → (if b = true then y s' else n s') → Q b H') → t σ H Q
section
variable {K : PySem.W.Frag}
def pTest (p : PD) : PT1 := fun s y n => p s fun d s' => match d with
  | .bl b => YN b (y s') (n s')
  | _ => False
theorem pTest_run {t : TE} {p : PD} [LiftD K t p] {F H : Hp} {ω : Om} {s : Sl} {σ : L2.St} {Q : Bool → Hp → Prop} (y n : Sl → Prop) (T : Sta K F H ω s σ) (h : pTest p s y n)
    (k : ∀ b F' H' ω' s', Stp F H ω F' H' ω' → Sta K F' H' ω' s' σ → (if b = true then y s' else n s') → Q b H') : t σ H fun x H' => ∃ c, x = .bl c ∧ Q c H' := by
  refine LiftD.run (K := K) (t := t) (p := p) _ T h fun v F1 H1 ω1 d s1 p1 T1 r1 h1 => ?_
  split at h1
  · exact ⟨_, r1, k _ F1 H1 ω1 s1 p1 T1 h1.ite⟩
  · exact h1.elim
instance {t : TE} {p : PD} [LiftD K t p] : LiftT K (tTest t) (pTest p) := ⟨fun y n T h k => pTest_run (t := t) (p := p) y n T h k⟩
instance {t : TE} {p : PD} [LiftD K t p] : LiftT K (tB t) (pTest p) := ⟨fun y n T h k => pTest_run (t := t) (p := p) y n T h k⟩
def pAnd (p q : PT1) : PT1 := fun s y n => p s (fun s1 => q s1 y n) n
def pOr (p q : PT1) : PT1 := fun s y n => p s y (fun s1 => q s1 y n)
def pNot (p : PT1) : PT1 := fun s y n => p s n y
instance {t u : TT} {p q : PT1} [LiftT K t p] [LiftT K u q] : LiftT K (tAnd t u) (pAnd p q) := ⟨fun y n T h k => by
  refine LiftT.run (K := K) (t := t) (p := p) _ _ T h fun b F1 H1 ω1 s1 p1 T1 h1 => ?_
  cases b with
  | true =>
    refine iteT (LiftT.run (K := K) (t := u) (p := q) y n T1 (by simpa using h1) fun b F2 H2 ω2 s2 p2 T2 h2 => k b F2 H2 ω2 s2 (p1.trans p2) T2 h2)
  | false => exact iteF (k false F1 H1 ω1 s1 p1 T1 h1)⟩
instance {t u : TT} {p q : PT1} [LiftT K t p] [LiftT K u q] : LiftT K (tOr t u) (pOr p q) := ⟨fun y n T h k => by
  refine LiftT.run (K := K) (t := t) (p := p) _ _ T h fun b F1 H1 ω1 s1 p1 T1 h1 => ?_
  cases b with
  | true => exact iteT (k true F1 H1 ω1 s1 p1 T1 h1)
  | false => refine iteF (LiftT.run (K := K) (t := u) (p := q) y n T1 (by simpa using h1) fun b F2 H2 ω2 s2 p2 T2 h2 => k b F2 H2 ω2 s2 (p1.trans p2) T2 h2)⟩
instance {t : TT} {p : PT1} [LiftT K t p] : LiftT K (tNot t) (pNot p) := ⟨fun y n T h k => by
  refine LiftT.run (K := K) (t := t) (p := p) n y T h fun b F1 H1 ω1 s1 p1 T1 h1 => k (!b) F1 H1 ω1 s1 p1 T1 ?_
  cases b with
  | true => simpa using h1
  | false => simpa using h1⟩
instance : LiftT K tYes (fun s y _ => y s) := ⟨fun {F H ω s σ Q} y n T h k => k true F H ω s (Stp.refl F H ω) T (iteT h)⟩
/-! truth of any value -/
def truD : D → Option Bool
  | .non => some false
  | .bl b => some b
  | .int i => some (i != 0)
  | .str x => some ((x.length : Int) != 0)
  | .lst ds => some (!ds.isEmpty)
  | .tup ds => some (!ds.isEmpty)
  | _ => none
/-! and, or, not as values; one or the other -/
def pAndV (p q : PD) : PX := fun s k => p s fun d s1 => match d with
  | .bl b => YN b (q s1 fun e s2 => k (.fr e) s2) (k (.fr (.bl false)) s1)
  | _ => False
def pOrV (p q : PD) : PX := fun s k => p s fun d s1 => match d with
  | .bl b => YN b (k (.fr (.bl true)) s1) (q s1 fun e s2 => k (.fr e) s2)
  | _ => False
def pNotV (p : PD) : PX := fun s k => p s fun d s1 => match d with
  | .bl b => k (.fr (.bl (!b))) s1
  | _ => False
instance {t u : TE} {p q : PD} [LiftD K t p] [LiftD K u q] : LiftE K (tAndV t u) (pAndV p q) := ⟨fun kk T h k => by
  refine LiftD.run (K := K) (t := t) (p := p) _ T h fun v F1 H1 ω1 d s1 p1 T1 r1 h1 => ?_
  split at h1
  · rename_i b
    refine ⟨b, r1, ?_⟩
    cases b with
    | true =>
      refine iteT (LiftD.run (K := K) (t := u) (p := q) _ T1 (h1.1 rfl) fun v F2 H2 ω2 e s2 p2 T2 r2 h2 => k v F2 H2 ω2 (.fr e) s2 (p1.trans p2) T2 r2 h2)
    | false => exact iteF (k _ F1 H1 ω1 (.fr (.bl false)) s1 p1 T1 rfl (h1.2 rfl))
  · exact h1.elim⟩
instance {t u : TE} {p q : PD} [LiftD K t p] [LiftD K u q] : LiftE K (tOrV t u) (pOrV p q) := ⟨fun kk T h k => by
  refine LiftD.run (K := K) (t := t) (p := p) _ T h fun v F1 H1 ω1 d s1 p1 T1 r1 h1 => ?_
  split at h1
  · rename_i b
    refine ⟨b, r1, ?_⟩
    cases b with
    | true => exact iteT (k _ F1 H1 ω1 (.fr (.bl true)) s1 p1 T1 rfl (h1.1 rfl))
    | false =>
      refine iteF (LiftD.run (K := K) (t := u) (p := q) _ T1 (h1.2 rfl) fun v F2 H2 ω2 e s2 p2 T2 r2 h2 => k v F2 H2 ω2 (.fr e) s2 (p1.trans p2) T2 r2 h2)
  · exact h1.elim⟩
instance {t : TE} {p : PD} [LiftD K t p] : LiftE K (tNotV t) (pNotV p) := ⟨fun kk T h k => by
  refine LiftD.run (K := K) (t := t) (p := p) _ T h fun v F1 H1 ω1 d s1 p1 T1 r1 h1 => ?_
  split at h1
  · exact ⟨_, r1, k _ F1 H1 ω1 (.fr (.bl _)) s1 p1 T1 rfl h1⟩
  · exact h1.elim⟩
def pIfE (c : PT1) (p q : PX) : PX := fun s k => c s (fun s1 => p s1 k) (fun s1 => q s1 k)
instance {c : TT} {t u : TE} {pc : PT1} {p q : PX} [LiftT K c pc] [LiftE K t p] [LiftE K u q] : LiftE K (tIf c t u) (pIfE pc p q) := ⟨fun kk T h k => by
  refine LiftT.run (K := K) (t := c) (p := pc) _ _ T h fun b F1 H1 ω1 s1 p1 T1 h1 => ?_
  cases b with
  | true => exact iteT (LiftE.run (K := K) (t := t) (p := p) kk T1 (by simpa using h1) fun v F2 H2 ω2 x s2 p2 T2 r2 h2 => k v F2 H2 ω2 x s2 (p1.trans p2) T2 (r2.early p1.tr) h2)
  | false => exact iteF (LiftE.run (K := K) (t := u) (p := q) kk T1 (by simpa using h1) fun v F2 H2 ω2 x s2 p2 T2 r2 h2 => k v F2 H2 ω2 x s2 (p1.trans p2) T2 (r2.early p1.tr) h2)⟩
def pChain (g g' : D → D → (S → Prop) → Prop) (pa pb pc : PD) : PX := fun s k => pa s fun d s1 => pb s1 fun e s2 => g d e fun z => match z with
  | .fr (.bl b) => YN b (pc s2 fun f s3 => g' e f fun z => k z s3) (k (.fr (.bl false)) s2)
  | _ => False
instance {r r' : R2} {g g' : D → D → (S → Prop) → Prop} {ta tb tc : TE} {pa pb pc : PD} [OpL K r g] [OpL K r' g'] [LiftD K ta pa] [LiftD K tb pb] [LiftD K tc pc] : LiftE K (tChain r r' ta tb tc) (pChain g g' pa pb pc) := ⟨fun kk T h k => by
  refine LiftD.run (K := K) (t := ta) (p := pa) _ T h fun x F1 H1 ω1 d s1 p1 T1 r1 h1 => ?_
  refine LiftD.run (K := K) (t := tb) (p := pb) _ T1 h1 fun y F2 H2 ω2 e s2 p2 T2 r2 h2 => ?_
  refine OpL.run (K := K) (r := r) (g := g) _ T2.sf (r1.mono p2.sf) r2 h2 fun v F3 H3 z e3 r3 hq => ?_
  obtain ⟨p3, T3⟩ := e3.stp T2
  split at hq
  · rename_i b
    refine ⟨b, r3, ?_⟩
    have pp := (p1.trans p2).trans p3
    cases b with
    | true =>
      refine iteT (LiftD.run (K := K) (t := tc) (p := pc) _ T3 (hq.1 rfl) fun w F4 H4 ω4 f s4 p4 T4 r4 h4 => ?_)
      refine OpL.run (K := K) (r := r') (g := g') _ T4.sf (r2.mono (e3.sf.trans p4.sf)) r4 h4 fun v F5 H5 z e5 r5 hq => ?_
      obtain ⟨p5, T5⟩ := e5.stp T4
      exact k v F5 H5 ω4 z s4 ((pp.trans p4).trans p5) T5 (Rn.rt (pp.trans p4) T4 r5) hq
    | false => exact iteF (k _ F3 H3 ω2 (.fr (.bl false)) s2 pp T3 rfl (hq.2 rfl))
  · exact hq.elim⟩
/-! ### lists of arguments that are data -/
abbrev PA1 := Sl → (List D → Sl → Prop) → Prop
class LiftA (K : PySem.W.Frag) (t : TA) (p : outParam PA1) : Prop where
  run : ∀ {F H : Hp} {ω : Om} {s : Sl} {σ : L2.St} {Q : List V → Hp → Prop} (q : List D → Sl → Prop), Sta K F H ω s σ → p s q →
    (∀ vs F' H' ω' ds s', Stp F H ω F' H' ω' → Sta K F' H' ω' s' σ → RpA K F' ds vs → q ds s' → Q vs H') → t σ H Q
instance : LiftA K tNil (fun s q => q [] s) := ⟨fun {F H ω s σ Q} q T h k => k [] F H ω [] s (Stp.refl F H ω) T rfl h⟩
def pCons (p : PD) (r : PA1) : PA1 := fun s q => p s fun d s1 => r s1 fun ds s2 => q (d :: ds) s2
instance {t : TE} {r : TA} {p : PD} {pr : PA1} [LiftD K t p] [LiftA K r pr] : LiftA K (tCons t r) (pCons p pr) := ⟨fun kk T h k => by
  refine LiftD.run (K := K) (t := t) (p := p) _ T h fun x F1 H1 ω1 d s1 p1 T1 r1 h1 => ?_
  refine LiftA.run (K := K) (t := r) (p := pr) _ T1 h1 fun vs F2 H2 ω2 ds s2 p2 T2 r2 h2 => ?_
  exact k _ F2 H2 ω2 (d :: ds) s2 (p1.trans p2) T2 ⟨x, vs, rfl, r1.mono p2.sf, r2⟩ h2⟩
def pTup (p : PA1) : PX := fun s q => p s fun ds s1 => if ds.length ≤ 1000 then q (.fr (.tup ds)) s1 else False
def pLst (p : PA1) : PX := fun s q => p s fun ds s1 => if ds.length ≤ 1000 then q (.ow false (.lst ds)) s1 else False
instance {t : TA} {p : PA1} [LiftA K t p] : LiftE K (tTup t) (pTup p) := ⟨fun {F H ω s σ Q} kk T h k => by
  refine LiftA.run (K := K) (t := t) (p := p) _ T h fun vs F1 H1 ω1 ds s1 p1 T1 r1 h1 => ?_
  split at h1
  · rename_i hl
    refine ⟨Nat.le_trans (r1.len ▸ hl) (by decide), fun a ha => ?_⟩
    refine Ext.tup (q := fun z => kk z s1) T1.sf r1 h1 (fun v F' H' z e r hq => ?_) ha
    obtain ⟨p2, T2⟩ := e.stp T1
    exact k v F' H' ω1 z s1 (p1.trans p2) T2 (Rn.rt p1 T1 r) hq
  · exact h1.elim⟩
instance {t : TA} {p : PA1} [LiftA K t p] : LiftE K (tLst t) (pLst p) := ⟨fun {F H ω s σ Q} kk T h k => by
  refine LiftA.run (K := K) (t := t) (p := p) _ T h fun vs F1 H1 ω1 ds s1 p1 T1 r1 h1 => ?_
  split at h1
  · rename_i hl
    refine ⟨Nat.le_trans (r1.len ▸ hl) (by decide), fun a ha => ?_⟩
    refine Ext.lst (q := fun z => kk z s1) T1.sf r1 h1 (fun v F' H' z e r hq => ?_) ha
    obtain ⟨p2, T2⟩ := e.stp T1
    exact k v F' H' ω1 z s1 (p1.trans p2) T2 (Rn.rt p1 T1 r) hq
  · exact h1.elim⟩
/-! ### built-in functions -/
class CaL (K : PySem.W.Frag) (r : List V → Hp → VK → Prop) (g : outParam (List D → (S → Prop) → Prop)) : Prop where
  run : ∀ {F H : Hp} {vs : List V} {ds : List D} {Q : VK} (q : S → Prop), Same F H → RpA K F ds vs → g ds q → (∀ v F' H' z, Ext F H F' H' → Rn K H F' H' z v → q z → Q v H') → r vs H Q
def pCB (g : List D → (S → Prop) → Prop) (p : PA1) : PX := fun s q => p s fun ds s1 => g ds fun z => q z s1
instance {r : List V → Hp → VK → Prop} {g : List D → (S → Prop) → Prop} {t : TA} {p : PA1} [CaL K r g] [LiftA K t p] : LiftE K (tCB r t) (pCB g p) := ⟨fun kk T h k => by
  refine LiftA.run (K := K) (t := t) (p := p) _ T h fun vs F1 H1 ω1 ds s1 p1 T1 r1 h1 => ?_
  refine CaL.run (K := K) (r := r) (g := g) _ T1.sf r1 h1 fun v F3 H3 z e3 r3 hq => ?_
  obtain ⟨p3, T3⟩ := e3.stp T1
  exact k v F3 H3 ω1 z s1 (p1.trans p3) T3 (Rn.rt p1 T1 r3) hq⟩
theorem RpA.one {F : Hp} {d : D} {vs : List V} (h : RpA K F [d] vs) : ∃ v, vs = [v] ∧ Rp K F d v := by
  obtain ⟨v, ws, rfl, h1, h2⟩ := h
  cases (show ws = _ from h2)
  exact ⟨v, rfl, h1⟩
theorem RpA.two {F : Hp} {d e : D} {vs : List V} (h : RpA K F [d, e] vs) : ∃ v w, vs = [v, w] ∧ Rp K F d v ∧ Rp K F e w := by
  obtain ⟨v, ws, rfl, h1, h2⟩ := h
  obtain ⟨w, rfl, h3⟩ := RpA.one h2
  exact ⟨v, w, rfl, h1, h3⟩
def gLen : List D → (S → Prop) → Prop := fun ds q => match ds with
  | [.lst xs] => q (.fr (.int xs.length))
  | [.tup xs] => q (.fr (.int xs.length))
  | [.scr xs] => q (.fr (.int xs.length))
  | _ => False
theorem gLen_run {F H : Hp} {vs : List V} {ds : List D} {Q : VK} (q : S → Prop) (hs : Same F H) (r : RpA K F ds vs) (h : gLen ds q) (k : ∀ v F' H' z, Ext F H F' H' → Rn K H F' H' z v → q z → Q v H') :
    ∃ p ys, vs = [.ref p] ∧ (SqL K H p ys ∨ SqT K H p ys) ∧ Q (.int ys.length) H := by
  unfold gLen at h
  split at h
  · obtain ⟨v, rfl, a, ws, rfl, h1, h2⟩ := r.one
    refine ⟨a, ws, rfl, .inl (SqL.of (hs _ _ h1)), ?_⟩
    rw [← h2.len]
    exact k _ F H (.fr (.int _)) (Ext.refl hs) rfl h
  · obtain ⟨v, rfl, a, ws, rfl, h1, h2⟩ := r.one
    refine ⟨a, ws, rfl, .inr (hs.tupq h1), ?_⟩
    rw [← h2.len]
    exact k _ F H (.fr (.int _)) (Ext.refl hs) rfl h
  · obtain ⟨v, rfl, a, rfl, h1⟩ := r.one
    refine ⟨a, _, rfl, .inl (hs.seq h1), ?_⟩
    rw [List.length_map]
    exact k _ F H (.fr (.int _)) (Ext.refl hs) rfl h
  · exact h.elim
instance : CaL K (rLenQ K) gLen := ⟨fun q hs r h k => gLen_run q hs r h k⟩
instance : CaL K (fun xs H Q => ∃ p ys, xs = [.ref p] ∧ (SqL K H p ys ∨ SqT K H p ys) ∧ Q (.int ys.length) H) gLen := ⟨fun q hs r h k => gLen_run q hs r h k⟩
def gLenS : List D → (S → Prop) → Prop := fun ds q => match ds with
  | [.str x] => x.length ≤ sizeLine ∧ q (.fr (.int x.length))
  | _ => False
instance : CaL K (fun xs H Q => ∃ x, xs = [.str x] ∧ x.length ≤ sizeLine ∧ Q (.int x.length) H) gLenS := ⟨fun {F H vs ds Q} q hs r h k => by
  unfold gLenS at h
  split at h
  · obtain ⟨v, rfl, h1⟩ := r.one
    cases (show v = _ from h1)
    exact ⟨_, rfl, h.1, k _ F H (.fr (.int _)) (Ext.refl hs) rfl h.2⟩
  · exact h.elim⟩
/-- all the items are ints -/
def intsOf : List D → Option (List Int)
  | [] => some []
  | .int i :: r => (intsOf r).map (i :: ·)
  | _ => none
theorem intsOf_is : ∀ {ds : List D} {ns : List Int}, intsOf ds = some ns → ds = ns.map D.int
  | [], _, h => by cases h; rfl
  | .int i :: r, ns, h => by
    unfold intsOf at h
    cases e : intsOf r with
    | none => rw [e] at h; cases h
    | some m =>
      rw [e] at h
      cases h
      rw [intsOf_is e]
      rfl
  | .non :: _, _, h => by cases h
  | .bl _ :: _, _, h => by cases h
  | .str _ :: _, _, h => by cases h
  | .lst _ :: _, _, h => by cases h
  | .tup _ :: _, _, h => by cases h
  | .dic _ _ :: _, _, h => by cases h
  | .obj _ _ _ :: _, _, h => by cases h
  | .scr _ :: _, _, h => by cases h
theorem intsOf_map : ∀ ns : List Int, intsOf (ns.map D.int) = some ns
  | [] => rfl
  | n :: ns => by
    show (intsOf (ns.map D.int)).map (n :: ·) = _
    rw [intsOf_map ns]
    rfl
/-- a list of ints (said by the prover), its sum -/
def gSum : List D → (S → Prop) → Prop := fun ds q => match ds with
  | [.lst xs] => ∃ ns : List Int, xs = ns.map D.int ∧ q (.fr (.int ns.sum))
  | _ => False
instance : CaL K (rSum K) gSum := ⟨fun {F H vs ds Q} q hs r h k => by
  unfold gSum at h
  split at h
  · obtain ⟨ns, rfl, hq⟩ := h
    obtain ⟨v, rfl, a, ws, rfl, h1, h2⟩ := r.one
    cases RpA.intsV h2
    exact ⟨a, ns, rfl, SqL.of (hs _ _ h1), k _ F H (.fr (.int _)) (Ext.refl hs) rfl hq⟩
  · exact h.elim⟩
def gBls (f : List Bool → Bool) : List D → (S → Prop) → Prop := fun ds q => match ds with
  | [.lst xs] => ∃ bs : List Bool, xs = bs.map D.bl ∧ q (.fr (.bl (f bs)))
  | _ => False
theorem gBls_run {f : List Bool → Bool} {F H : Hp} {vs : List V} {ds : List D} {Q : VK} (q : S → Prop) (hs : Same F H) (r : RpA K F ds vs) (h : gBls f ds q) (k : ∀ v F' H' z, Ext F H F' H' → Rn K H F' H' z v → q z → Q v H') :
    ∃ (a : Addr) (bs : List Bool), vs = [V.ref a] ∧ SqL K H a (bs.map V.bl) ∧ Q (.bl (f bs)) H := by
  unfold gBls at h
  split at h
  · obtain ⟨ns, rfl, hq⟩ := h
    obtain ⟨v, rfl, a, ws, rfl, h1, h2⟩ := r.one
    cases RpA.blsV h2
    exact ⟨a, ns, rfl, SqL.of (hs _ _ h1), k _ F H (.fr (.bl _)) (Ext.refl hs) rfl hq⟩
  · exact h.elim
instance : CaL K (rAny K) (gBls fun bs => bs.any id) := ⟨fun q hs r h k => gBls_run q hs r h k⟩
instance : CaL K (rAll K) (gBls fun bs => bs.all id) := ⟨fun q hs r h k => gBls_run q hs r h k⟩
def gMax (le : Int → Int → Prop) : List D → (S → Prop) → Prop := fun ds q => match ds with
  | [.lst xs] => ∃ ns : List Int, xs = ns.map D.int ∧ 0 < ns.length ∧ ∀ m, m ∈ ns → (∀ y, y ∈ ns → le y m) → q (.fr (.int m))
  | _ => False
instance : CaL K (rMax K) (gMax fun y m => y ≤ m) := ⟨fun {F H vs ds Q} q hs r h k => by
  unfold gMax at h
  split at h
  · obtain ⟨ns, rfl, h0, hq⟩ := h
    obtain ⟨v, rfl, a, ws, rfl, h1, h2⟩ := r.one
    cases RpA.intsV h2
    exact ⟨a, ns, rfl, SqL.of (hs _ _ h1), h0, fun m h3 h4 => k _ F H (.fr (.int _)) (Ext.refl hs) rfl (hq m h3 h4)⟩
  · exact h.elim⟩
instance : CaL K (rMin K) (gMax fun y m => m ≤ y) := ⟨fun {F H vs ds Q} q hs r h k => by
  unfold gMax at h
  split at h
  · obtain ⟨ns, rfl, h0, hq⟩ := h
    obtain ⟨v, rfl, a, ws, rfl, h1, h2⟩ := r.one
    cases RpA.intsV h2
    exact ⟨a, ns, rfl, SqL.of (hs _ _ h1), h0, fun m h3 h4 => k _ F H (.fr (.int _)) (Ext.refl hs) rfl (hq m h3 h4)⟩
  · exact h.elim⟩
def gI1 (f : Int → D) : List D → (S → Prop) → Prop := fun ds q => match ds with
  | [.int i] => q (.fr (f i))
  | _ => False
instance : CaL K (fun xs H Q => ∃ i, xs = [.int i] ∧ Q (.int (if i < 0 then -i else i)) H) (gI1 fun i => .int (if i < 0 then -i else i)) := ⟨fun {F H vs ds Q} q hs r h k => by
  unfold gI1 at h
  split at h
  · obtain ⟨v, rfl, h1⟩ := r.one
    cases (show v = _ from h1)
    exact ⟨_, rfl, k _ F H (.fr (.int _)) (Ext.refl hs) rfl h⟩
  · exact h.elim⟩
def gI2 (f : Int → Int → Int) : List D → (S → Prop) → Prop := fun ds q => match ds with
  | [.int i, .int j] => q (.fr (.int (f i j)))
  | _ => False
theorem gI2_run {f : Int → Int → Int} {F H : Hp} {vs : List V} {ds : List D} {Q : VK} (q : S → Prop) (hs : Same F H) (r : RpA K F ds vs) (h : gI2 f ds q) (k : ∀ v F' H' z, Ext F H F' H' → Rn K H F' H' z v → q z → Q v H') :
    ∃ i j, vs = [.int i, .int j] ∧ Q (.int (f i j)) H := by
  unfold gI2 at h
  split at h
  · obtain ⟨v, w, rfl, h1, h2⟩ := r.two
    cases (show v = _ from h1)
    cases (show w = _ from h2)
    exact ⟨_, _, rfl, k _ F H (.fr (.int _)) (Ext.refl hs) rfl h⟩
  · exact h.elim
instance : CaL K (fun xs H Q => ∃ i j, xs = [.int i, .int j] ∧ Q (.int (if j > i then j else i)) H) (gI2 fun i j => if j > i then j else i) := ⟨fun q hs r h k => gI2_run q hs r h k⟩
instance : CaL K (fun xs H Q => ∃ i j, xs = [.int i, .int j] ∧ Q (.int (if j < i then j else i)) H) (gI2 fun i j => if j < i then j else i) := ⟨fun q hs r h k => gI2_run q hs r h k⟩
def gInt : List D → (S → Prop) → Prop := fun ds q => match ds with
  | [.int i] => q (.fr (.int i))
  | [.bl b] => YN b (q (.fr (.int 1))) (q (.fr (.int 0)))
  | _ => False
instance : CaL K (fun xs H Q => (∃ i, xs = [.int i] ∧ Q (.int i) H) ∨ ∃ k, xs = [.bl k] ∧ Q (.int (if k then 1 else 0)) H) gInt := ⟨fun {F H vs ds Q} q hs r h k => by
  unfold gInt at h
  split at h
  · obtain ⟨v, rfl, h1⟩ := r.one
    cases (show v = _ from h1)
    exact .inl ⟨_, rfl, k _ F H (.fr (.int _)) (Ext.refl hs) rfl h⟩
  · rename_i b
    obtain ⟨v, rfl, h1⟩ := r.one
    cases (show v = _ from h1)
    refine .inr ⟨_, rfl, ?_⟩
    cases b with
    | true => exact k _ F H (.fr (.int 1)) (Ext.refl hs) rfl (h.1 rfl)
    | false => exact k _ F H (.fr (.int 0)) (Ext.refl hs) rfl (h.2 rfl)
  · exact h.elim⟩
def gListOf : List D → (S → Prop) → Prop := fun ds q => match ds with
  | [.lst xs] => q (.ow false (.lst xs))
  | [.tup xs] => q (.ow false (.lst xs))
  | [.scr xs] => q (.ow false (.lst (xs.map .int)))
  | _ => False
instance : CaL K (fun xs H Q => ∃ p ys, xs = [.ref p] ∧ (SqL K H p ys ∨ SqT K H p ys) ∧ ∀ l, H l = none → Q (.ref l) (upd H l (.lst ys))) gListOf := ⟨fun {F H vs ds Q} q hs r h k => by
  unfold gListOf at h
  split at h
  · obtain ⟨v, rfl, a, ws, rfl, h1, h2⟩ := r.one
    exact ⟨a, ws, rfl, .inl (SqL.of (hs _ _ h1)), fun p hp => Ext.lst hs h2 h k hp⟩
  · obtain ⟨v, rfl, a, ws, rfl, h1, h2⟩ := r.one
    exact ⟨a, ws, rfl, .inr (hs.tupq h1), fun p hp => Ext.lst hs h2 h k hp⟩
  · obtain ⟨v, rfl, a, rfl, h1⟩ := r.one
    exact ⟨a, _, rfl, .inl (hs.seq h1), fun p hp => Ext.lst hs RpA.ints h k hp⟩
  · exact h.elim⟩
def gTupOf : List D → (S → Prop) → Prop := fun ds q => match ds with
  | [.lst xs] => q (.fr (.tup xs))
  | [.tup xs] => q (.fr (.tup xs))
  | _ => False
instance : CaL K (fun xs H Q => ∃ p ys, xs = [.ref p] ∧ ((SqL K H p ys ∧ ∀ l, H l = none → Q (.ref l) (upd H l (.tup ys))) ∨ (SqT K H p ys ∧ Q (.ref p) H))) gTupOf := ⟨fun {F H vs ds Q} q hs r h k => by
  unfold gTupOf at h
  split at h
  · obtain ⟨v, rfl, a, ws, rfl, h1, h2⟩ := r.one
    exact ⟨a, ws, rfl, .inl ⟨SqL.of (hs _ _ h1), fun p hp => Ext.tup hs h2 h k hp⟩⟩
  · obtain ⟨v, rfl, a, ws, rfl, h1, h2⟩ := r.one
    exact ⟨a, ws, rfl, .inr ⟨hs.tupq h1, k _ F H (.fr (.tup _)) (Ext.refl hs) ⟨a, ws, rfl, h1, h2⟩ h⟩⟩
  · exact h.elim⟩
/-! ### slices -/
abbrev PO1 := Sl → (Option Int → Sl → Prop) → Prop
class LiftO (K : PySem.W.Frag) (t : TO) (p : outParam PO1) : Prop where
  run : ∀ {F H : Hp} {ω : Om} {s : Sl} {σ : L2.St} {Q : Option Int → Hp → Prop} (q : Option Int → Sl → Prop), Sta K F H ω s σ → p s q →
    (∀ o F' H' ω' s', Stp F H ω F' H' ω' → Sta K F' H' ω' s' σ → q o s' → Q o H') → t σ H Q
instance : LiftO K tNoPart (fun s q => q none s) := ⟨fun {F H ω s σ Q} q T h k => k none F H ω s (Stp.refl F H ω) T h⟩
def pPart (p : PD) : PO1 := fun s q => p s fun d s1 => match d with
  | .int i => q (some i) s1
  | _ => False
instance {t : TE} {p : PD} [LiftD K t p] : LiftO K (tPart t) (pPart p) := ⟨fun q T h k => by
  refine LiftD.run (K := K) (t := t) (p := p) _ T h fun x F1 H1 ω1 d s1 p1 T1 r1 h1 => ?_
  split at h1
  · exact ⟨_, r1, k _ F1 H1 ω1 s1 p1 T1 h1⟩
  · exact h1.elim⟩
class SlL (K : PySem.W.Frag) (r : V → Option Int → Option Int → Hp → VK → Prop) (g : outParam (D → Option Int → Option Int → (S → Prop) → Prop)) : Prop where
  run : ∀ {F H : Hp} {x : V} {d : D} {lo hi : Option Int} {Q : VK} (q : S → Prop), Same F H → Rp K F d x → g d lo hi q → (∀ v F' H' z, Ext F H F' H' → Rn K H F' H' z v → q z → Q v H') → r x lo hi H Q
def pSl (g : D → Option Int → Option Int → (S → Prop) → Prop) (pe : PD) (pl ph : PO1) : PX := fun s q => pe s fun d s1 => pl s1 fun lo s2 => ph s2 fun hi s3 => g d lo hi fun z => q z s3
instance {r : V → Option Int → Option Int → Hp → VK → Prop} {g : D → Option Int → Option Int → (S → Prop) → Prop} {te : TE} {tl th : TO} {pe : PD} {pl ph : PO1} [SlL K r g] [LiftD K te pe] [LiftO K tl pl] [LiftO K th ph] :
    LiftE K (tSl r te tl th) (pSl g pe pl ph) := ⟨fun kk T h k => by
  refine LiftD.run (K := K) (t := te) (p := pe) _ T h fun x F1 H1 ω1 d s1 p1 T1 r1 h1 => ?_
  refine LiftO.run (K := K) (t := tl) (p := pl) _ T1 h1 fun lo F2 H2 ω2 s2 p2 T2 h2 => ?_
  refine LiftO.run (K := K) (t := th) (p := ph) _ T2 h2 fun hi F3 H3 ω3 s3 p3 T3 h3 => ?_
  refine SlL.run (K := K) (r := r) (g := g) _ T3.sf (r1.mono (p2.sf.trans p3.sf)) h3 fun v F4 H4 z e4 r4 hq => ?_
  obtain ⟨p4, T4⟩ := e4.stp T3
  have pp := (p1.trans p2).trans p3
  exact k v F4 H4 ω3 z s3 (pp.trans p4) T4 (Rn.rt pp T3 r4) hq⟩
def cutD (xs : List D) (lo hi : Option Int) : List D := (xs.drop (HT.sIx xs.length 0 lo)).take (HT.sIx xs.length xs.length hi - HT.sIx xs.length 0 lo)
theorem RpA.cut {F : Hp} {ds : List D} {vs : List V} (h : RpA K F ds vs) (lo hi : Option Int) : RpA K F (cutD ds lo hi) (cutV vs lo hi) := by
  unfold cutD cutV
  rw [← h.len]
  exact (h.drop _).take _
def gSlL : D → Option Int → Option Int → (S → Prop) → Prop := fun d lo hi q => match d with
  | .lst xs => q (.ow false (.lst (cutD xs lo hi)))
  | .scr ns => q (.ow false (.lst (cutD (ns.map .int) lo hi)))
  | _ => False
instance : SlL K (rSlL K) gSlL := ⟨fun {F H x d lo hi Q} q hs r h k => by
  unfold gSlL at h
  split at h
  · obtain ⟨a, ws, rfl, h1, h2⟩ := r
    exact ⟨a, ws, rfl, SqL.of (hs _ _ h1), fun p hp => Ext.lst hs (h2.cut lo hi) h k hp⟩
  · obtain ⟨a, rfl, h1⟩ := r
    exact ⟨a, _, rfl, hs.seq h1, fun p hp => Ext.lst hs (RpA.ints.cut lo hi) h k hp⟩
  · exact h.elim⟩
def gSlS : D → Option Int → Option Int → (S → Prop) → Prop := fun d lo hi q => match d with
  | .str z => z.length ≤ sizeLine ∧ q (.fr (.str (cutS z lo hi)))
  | _ => False
instance : SlL K rSlS gSlS := ⟨fun {F H x d lo hi Q} q hs r h k => by
  unfold gSlS at h
  split at h
  · cases (show x = _ from r)
    exact ⟨_, rfl, h.1, k _ F H (.fr (.str _)) (Ext.refl hs) rfl h.2⟩
  · exact h.elim⟩
end
/-! ### truth of a value as a test -/
section
variable {K : PySem.W.Frag}
theorem emp_len {ds : List D} {ws : List V} (h : ds.length = ws.length) : (!ws.isEmpty) = !ds.isEmpty := by
  cases ds <;> cases ws <;> first | rfl | (simp at h)
theorem tru_is {F H : Hp} {d : D} {v : V} {b : Bool} (hs : Same F H) (r : Rp K F d v) (e : truD d = some b) (h : ∀ x, d = .str x → x.length ≤ sizeLine) : TruV K v H b := by
  cases d with
  | non => cases (show v = _ from r); cases e; rfl
  | bl _ => cases (show v = _ from r); cases e; rfl
  | int _ => cases (show v = _ from r); cases e; rfl
  | str x =>
    cases (show v = _ from r)
    have e1 := Option.some.inj e
    exact ⟨h x rfl, e1.symm⟩
  | lst ds =>
    obtain ⟨a, ws, rfl, h1, h2⟩ := r
    have e1 := Option.some.inj e
    exact .inl ⟨ws, SqL.of (hs _ _ h1), by rw [emp_len h2.len]; exact e1.symm⟩
  | tup ds =>
    obtain ⟨a, ws, rfl, h1, h2⟩ := r
    have e1 := Option.some.inj e
    exact .inr (.inl ⟨ws, hs.tupq h1, by rw [emp_len h2.len]; exact e1.symm⟩)
  | _ => cases e
def pTru (p : PD) : PT1 := fun s y n => p s fun d s' => match truD d with
  | some b => (∀ x, d = .str x → x.length ≤ sizeLine) ∧ YN b (y s') (n s')
  | none => False
instance {t : TE} {p : PD} [LiftD K t p] : LiftT K (fun σ H Q => t σ H fun x H' => ∃ k, TruV K x H' k ∧ Q k H') (pTru p) := ⟨fun y n T h k => by
  refine LiftD.run (K := K) (t := t) (p := p) _ T h fun v F1 H1 ω1 d s1 p1 T1 r1 h1 => ?_
  split at h1
  · rename_i b e
    exact ⟨b, tru_is T1.sf r1 e h1.1, k _ F1 H1 ω1 s1 p1 T1 h1.2.ite⟩
  · exact h1.elim⟩
/-- a name's list, which stays its own -/
def pTruV (i : Nat) : PT1 := fun s y n => match s[i]? with
  | some (some (.ow _ (.lst ds))) => YN (!ds.isEmpty) (y s) (n s)
  | _ => pTru (pDat (pVar i)) s y n
instance (priority := high) (i : Nat) : LiftT K (fun σ H Q => tVar i σ H fun x H' => ∃ k, TruV K x H' k ∧ Q k H') (pTruV i) := ⟨fun {F H ω s σ Q} y n T h k => by
  unfold pTruV at h
  split at h
  · rename_i b ds e
    obtain ⟨v, hv, l, rfl, hl, ws, h1, h2⟩ := T.at' i _ e
    refine ⟨_, hv, _, .inl ⟨ws, SqL.of h1, rfl⟩, k _ F H ω s (Stp.refl F H ω) T ?_⟩
    rw [emp_len h2.len]
    exact h.ite
  · exact LiftT.run (K := K) (t := fun σ H Q => tVar i σ H fun x H' => ∃ k, TruV K x H' k ∧ Q k H') (p := pTru (pDat (pVar i))) y n T h k⟩
/-! ### targets -/
theorem wipe_set {i : Nat} {x : Option V} : ∀ {vs : List Nat} {σ : L2.St}, wipe (σ.set i x) vs = if i ∈ vs then wipe σ vs else (wipe σ vs).set i x
  | [], σ => by simp [wipe]
  | v :: vs, σ => by
    show (wipe (σ.set i x) vs).set v none = if i ∈ v :: vs then (wipe σ vs).set v none else ((wipe σ vs).set v none).set i x
    rw [wipe_set]
    by_cases h1 : i ∈ vs
    · simp [h1]
    · by_cases h2 : i = v
      · subst h2
        simp [h1]
      · simp [h1, h2]
        rw [List.set_comm _ _ h2]
theorem wipe_mem {i : Nat} {x : Option V} {vs : List Nat} {σ : L2.St} (h : i ∈ vs) : wipe (σ.set i x) vs = wipe σ vs := by rw [wipe_set, if_pos h]
abbrev PG1 := D → Sl → (Sl → Prop) → Prop
class LiftG (K : PySem.W.Frag) (g : TG) (p : outParam PG1) (ss : outParam (List Nat)) : Prop where
  run : ∀ {F H : Hp} {ω : Om} {s : Sl} {σ : L2.St} {v : V} {d : D} {Q : L2.St → Hp → Prop} (q : Sl → Prop), Sta K F H ω s σ → Rp K F d v → p d s q →
    (∀ σ' s', Sta K F H ω s' σ' → (∀ vs, (∀ i ∈ ss, i ∈ vs) → wipe σ' vs = wipe σ vs) → q s' → Q σ' H) → g v σ H Q
def pgName (i : Nat) : PG1 := fun d s q => q (s.set i (some (.fr d)))
instance (i : Nat) : LiftG K (gName i) (pgName i) [i] := ⟨fun q T r h k => k _ _ (T.set i r) (fun vs hv => wipe_mem (hv i (by simp))) h⟩
abbrev PGs1 := List D → Sl → (Sl → Prop) → Prop
class LiftGs (K : PySem.W.Frag) (g : TGs) (p : outParam PGs1) (ss : outParam (List Nat)) : Prop where
  run : ∀ {F H : Hp} {ω : Om} {s : Sl} {σ : L2.St} {vs : List V} {ds : List D} {Q : L2.St → Hp → Prop} (q : Sl → Prop), Sta K F H ω s σ → RpA K F ds vs → p ds s q →
    (∀ σ' s', Sta K F H ω s' σ' → (∀ vs, (∀ i ∈ ss, i ∈ vs) → wipe σ' vs = wipe σ vs) → q s' → Q σ' H) → g vs σ H Q
def pgNil : PGs1 := fun ds s q => match ds with
  | [] => q s
  | _ => False
def pgCons (p : PG1) (r : PGs1) : PGs1 := fun ds s q => match ds with
  | d :: es => p d s fun s1 => r es s1 q
  | [] => False
instance : LiftGs K gNil pgNil [] := ⟨fun {F H ω s σ vs ds Q} q T r h k => by
  unfold pgNil at h
  split at h
  · cases (show vs = [] from r)
    exact ⟨rfl, k _ _ T (fun _ _ => rfl) h⟩
  · exact h.elim⟩
instance {g : TG} {gs : TGs} {p : PG1} {ps : PGs1} {ss ts : List Nat} [LiftG K g p ss] [LiftGs K gs ps ts] : LiftGs K (gCons g gs) (pgCons p ps) (ss ++ ts) := ⟨fun {F H ω s σ vs ds Q} q T r h k => by
  unfold pgCons at h
  split at h
  · obtain ⟨v, ws, rfl, r1, r2⟩ := r
    refine ⟨v, ws, rfl, LiftG.run (K := K) (g := g) (p := p) (ss := ss) _ T r1 h fun σ1 s1 T1 w1 h1 => ?_⟩
    refine LiftGs.run (K := K) (g := gs) (p := ps) (ss := ts) _ T1 r2 h1 fun σ2 s2 T2 w2 h2 => k _ _ T2 (fun vs hv => ?_) h2
    rw [w2 vs fun i hi => hv i (List.mem_append_right _ hi), w1 vs fun i hi => hv i (List.mem_append_left _ hi)]
  · exact h.elim⟩
def pgTup (n : Nat) (p : PGs1) : PG1 := fun d s q => match d with
  | .tup ds => if ds.length = n then p ds s q else False
  | _ => False
instance {n : Nat} {g : TGs} {p : PGs1} {ss : List Nat} [LiftGs K g p ss] : LiftG K (gTup K n g) (pgTup n p) ss := ⟨fun {F H ω s σ v d Q} q T r h k => by
  unfold pgTup at h
  split at h
  · split at h
    · rename_i hl
      obtain ⟨a, ws, rfl, h1, h2⟩ := r
      exact ⟨a, ws, rfl, T.sf.tupq h1, by rw [← h2.len]; exact hl, LiftGs.run (K := K) (g := g) (p := p) (ss := ss) q T h2 h k⟩
    · exact h.elim
  · exact h.elim⟩
/-! ### what is walked -/
def WalkD (K : PySem.W.Frag) (F : Hp) (J : It) (ds : List D) : Prop := ∃ (G : Hp → Prop) (Y : Nat → Hp → V → Hp → Prop), Walk J ds.length G Y ∧ (∀ H, Same F H → G H) ∧
  ∀ i H x H' F1 d, ds[i]? = some d → Same F F1 → Same F1 H → Y i H x H' → ∃ F2, Ext F1 H F2 H' ∧ Rp K F2 d x
abbrev PI1 := Sl → (List D → Sl → Prop) → Prop
class LiftI (K : PySem.W.Frag) (t : TI) (p : outParam PI1) : Prop where
  run : ∀ {F H : Hp} {ω : Om} {s : Sl} {σ : L2.St} {R : It → Hp → Prop} (q : List D → Sl → Prop), Sta K F H ω s σ → p s q →
    (∀ J F' H' ω' ds s', Stp F H ω F' H' ω' → Sta K F' H' ω' s' σ → WalkD K F' J ds → q ds s' → R J H') → t σ H R
def pIterL (p : PD) : PI1 := fun s q => p s fun d s1 => match d with
  | .lst ds => q ds s1
  | .scr ns => q (ns.map .int) s1
  | _ => False
theorem walkD_list {F : Hp} {a : Addr} {ds : List D} {vs : List V} (h1 : SqL K F a vs) (h2 : RpA K F ds vs) : WalkD K F (Itl K a) ds := by
  refine ⟨_, _, h2.len ▸ walk_list (K := K) (a := a) (xs := vs), fun H hs => hs.seq h1, fun i H x H' F1 d e s1 s2 y => ?_⟩
  obtain ⟨rfl, hx⟩ := y
  obtain ⟨v, hv, r⟩ := h2.get e
  rw [hx] at hv
  cases hv
  exact ⟨F1, Ext.refl s2, r.mono s1⟩
instance {t : TE} {p : PD} [LiftD K t p] : LiftI K (iList K t) (pIterL p) := ⟨fun q T h k => by
  refine LiftD.run (K := K) (t := t) (p := p) _ T h fun v F1 H1 ω1 d s1 p1 T1 r1 h1 => ?_
  split at h1
  · obtain ⟨a, ws, rfl, r2, r3⟩ := r1
    exact ⟨a, rfl, ⟨ws, SqL.of (T1.sf _ _ r2)⟩, k _ F1 H1 ω1 _ s1 p1 T1 (walkD_list (SqL.of r2) r3) h1⟩
  · obtain ⟨a, rfl, r2⟩ := r1
    exact ⟨a, rfl, ⟨_, T1.sf.seq r2⟩, k _ F1 H1 ω1 _ s1 p1 T1 (walkD_list r2 RpA.ints) h1⟩
  · exact h1.elim⟩
def pIterT (p : PD) : PI1 := fun s q => p s fun d s1 => match d with
  | .tup ds => q ds s1
  | _ => False
theorem walkD_tup {F : Hp} {a : Addr} {ds : List D} {vs : List V} (h1 : SqT K F a vs) (h2 : RpA K F ds vs) : WalkD K F (Itt K a) ds := by
  refine ⟨_, _, h2.len ▸ walk_tup (K := K) (a := a) (xs := vs), fun H hs => hs.tupq h1, fun i H x H' F1 d e s1 s2 y => ?_⟩
  obtain ⟨rfl, hx⟩ := y
  obtain ⟨v, hv, r⟩ := h2.get e
  rw [hx] at hv
  cases hv
  exact ⟨F1, Ext.refl s2, r.mono s1⟩
instance {t : TE} {p : PD} [LiftD K t p] : LiftI K (iTup K t) (pIterT p) := ⟨fun q T h k => by
  refine LiftD.run (K := K) (t := t) (p := p) _ T h fun v F1 H1 ω1 d s1 p1 T1 r1 h1 => ?_
  split at h1
  · obtain ⟨a, ws, rfl, r2, r3⟩ := r1
    exact ⟨a, rfl, ⟨ws, T1.sf.tupq r2⟩, k _ F1 H1 ω1 _ s1 p1 T1 (walkD_tup r2 r3) h1⟩
  · exact h1.elim⟩
def rngD (lo : Int) (n : Nat) : List D := (List.range n).map fun i => .int (lo + (i : Nat))
theorem rngD_len {lo : Int} {n : Nat} : (rngD lo n).length = n := by simp [rngD]
theorem rngD_get {lo : Int} {n i : Nat} {d : D} (h : (rngD lo n)[i]? = some d) : i < n ∧ d = .int (lo + (i : Nat)) := by
  unfold rngD at h
  rw [List.getElem?_map] at h
  by_cases hi : i < n
  · rw [List.getElem?_range hi] at h
    exact ⟨hi, (Option.some.inj h).symm⟩
  · rw [List.getElem?_eq_none (by rw [List.length_range]; omega)] at h
    cases h
theorem walkD_range {F : Hp} {lo : Int} {n : Nat} : WalkD K F (Itr lo n) (rngD lo n) := by
  refine ⟨fun _ => True, YFn fun i => .int (lo + (i : Nat)), ?_, fun _ _ => trivial, fun i H x H' F1 d e s1 s2 y => ?_⟩
  · rw [rngD_len]
    exact walk_range
  · obtain ⟨rfl, rfl⟩ := y
    exact ⟨F1, Ext.refl s2, by rw [(rngD_get e).2]; rfl⟩
def pRng1 (p : PA1) : PI1 := fun s q => p s fun ds s1 => match ds with
  | [.int j] => (-(2 ^ 62) ≤ j ∧ j < 2 ^ 62) ∧ q (rngD 0 j.toNat) s1
  | _ => False
instance {t : TA} {p : PA1} [LiftA K t p] : LiftI K (iRng1 t) (pRng1 p) := ⟨fun q T h k => by
  refine LiftA.run (K := K) (t := t) (p := p) _ T h fun vs F1 H1 ω1 ds s1 p1 T1 r1 h1 => ?_
  split at h1
  · obtain ⟨v, rfl, r2⟩ := r1.one
    cases (show v = _ from r2)
    exact ⟨_, rfl, h1.1.1, h1.1.2, k _ F1 H1 ω1 _ s1 p1 T1 walkD_range h1.2⟩
  · exact h1.elim⟩
def pRng2 (p : PA1) : PI1 := fun s q => p s fun ds s1 => match ds with
  | [.int i, .int j] => (-(2 ^ 62) ≤ i ∧ i < 2 ^ 62 ∧ -(2 ^ 62) ≤ j ∧ j < 2 ^ 62) ∧ q (rngD i (j - i).toNat) s1
  | _ => False
instance {t : TA} {p : PA1} [LiftA K t p] : LiftI K (iRng2 t) (pRng2 p) := ⟨fun q T h k => by
  refine LiftA.run (K := K) (t := t) (p := p) _ T h fun vs F1 H1 ω1 ds s1 p1 T1 r1 h1 => ?_
  split at h1
  · obtain ⟨v, w, rfl, r2, r3⟩ := r1.two
    cases (show v = _ from r2)
    cases (show w = _ from r3)
    exact ⟨_, _, rfl, h1.1, k _ F1 H1 ω1 _ s1 p1 T1 walkD_range h1.2⟩
  · exact h1.elim⟩
def enD (ds : List D) : List D := ds.mapIdx fun i d => .tup [.int (i : Nat), d]
theorem enD_len {ds : List D} : (enD ds).length = ds.length := by simp [enD]
theorem enD_get {ds : List D} {i : Nat} {d : D} (h : (enD ds)[i]? = some d) : ∃ x, ds[i]? = some x ∧ d = .tup [.int (i : Nat), x] := by
  unfold enD at h
  rw [List.getElem?_mapIdx] at h
  cases e : ds[i]? with
  | none => rw [e] at h; cases h
  | some x => rw [e] at h; exact ⟨x, rfl, (Option.some.inj h).symm⟩
def zipD (ds es : List D) : List D := List.zipWith (fun a b => .tup [a, b]) ds es
theorem zipD_get {ds es : List D} {i : Nat} {d : D} (h : (zipD ds es)[i]? = some d) : ∃ x y, ds[i]? = some x ∧ es[i]? = some y ∧ d = .tup [x, y] := by
  unfold zipD at h
  rw [List.getElem?_zipWith] at h
  cases e : ds[i]? with
  | none => rw [e] at h; cases h
  | some x =>
    cases e2 : es[i]? with
    | none => rw [e, e2] at h; cases h
    | some y => rw [e, e2] at h; exact ⟨x, y, rfl, rfl, (Option.some.inj h).symm⟩
theorem pair_new {F1 H H' : Hp} {x : V} {xs ys : Nat → Option V} {i : Nat} {d e : D} (s2 : Same F1 H) (y : YPair xs ys i H x H') (h1 : ∀ v, xs i = some v → Rp K F1 d v) (h2 : ∀ v, ys i = some v → Rp K F1 e v) :
    ∃ F2, Ext F1 H F2 H' ∧ Rp K F2 (.tup [d, e]) x := by
  obtain ⟨T, v, w, rfl, hT, rfl, e1, e2⟩ := y
  have hm := same_upd (o := .tup [v, w]) (s2.free hT)
  exact ⟨_, Ext.fz s2 hT _, T, [v, w], rfl, SqT.of upd_same, v, [w], rfl, (h1 v e1).mono hm, w, [], rfl, (h2 w e2).mono hm, rfl⟩
theorem walkD_enum {F : Hp} {a : Addr} {ds : List D} {vs : List V} (h1 : SqL K F a vs) (h2 : RpA K F ds vs) : WalkD K F (Ite K a) (enD ds) := by
  refine ⟨_, _, by rw [enD_len, h2.len]; exact walk_enum (K := K) (a := a) (xs := vs), fun H hs => hs.seq h1, fun i H x H' F1 d e s1 s2 y => ?_⟩
  obtain ⟨z, hz, rfl⟩ := enD_get e
  refine pair_new s2 y (fun v hv => (Option.some.inj hv).symm) fun v hv => ?_
  obtain ⟨w, hw, r⟩ := h2.get hz
  rw [hw] at hv
  cases hv
  exact r.mono s1
def pEnum (p : PA1) : PI1 := fun s q => p s fun ds s1 => match ds with
  | [.lst xs] => q (enD xs) s1
  | _ => False
instance {t : TA} {p : PA1} [LiftA K t p] : LiftI K (iEnum K t) (pEnum p) := ⟨fun q T h k => by
  refine LiftA.run (K := K) (t := t) (p := p) _ T h fun vs F1 H1 ω1 ds s1 p1 T1 r1 h1 => ?_
  split at h1
  · obtain ⟨v, rfl, a, ws, rfl, r2, r3⟩ := r1.one
    exact ⟨a, ws, rfl, SqL.of (T1.sf _ _ r2), k _ F1 H1 ω1 _ s1 p1 T1 (walkD_enum (SqL.of r2) r3) h1⟩
  · exact h1.elim⟩
theorem walkD_zip {F : Hp} {a b : Addr} {ds es : List D} {vs ws : List V} (h1 : SqL K F a vs) (h2 : RpA K F ds vs) (h3 : SqL K F b ws) (h4 : RpA K F es ws) : WalkD K F (Itz K a b) (zipD ds es) := by
  refine ⟨_, _, walk_zip (K := K) (a := a) (b := b) (xs := vs) (ys := ws) (by unfold zipD; rw [List.length_zipWith, h2.len, h4.len]), fun H hs => ⟨hs.seq h1, hs.seq h3⟩, fun i H x H' F1 d e s1 s2 y => ?_⟩
  obtain ⟨z, u, hz, hu, rfl⟩ := zipD_get e
  refine pair_new s2 y (fun v hv => ?_) fun v hv => ?_
  · obtain ⟨w, hw, r⟩ := h2.get hz
    rw [hw] at hv
    cases hv
    exact r.mono s1
  · obtain ⟨w, hw, r⟩ := h4.get hu
    rw [hw] at hv
    cases hv
    exact r.mono s1
def pZip (p : PA1) : PI1 := fun s q => p s fun ds s1 => match ds with
  | [.lst xs, .lst ys] => q (zipD xs ys) s1
  | _ => False
instance {t : TA} {p : PA1} [LiftA K t p] : LiftI K (iZip K t) (pZip p) := ⟨fun q T h k => by
  refine LiftA.run (K := K) (t := t) (p := p) _ T h fun vs F1 H1 ω1 ds s1 p1 T1 r1 h1 => ?_
  split at h1
  · obtain ⟨v, w, rfl, ⟨a, ws, rfl, r2, r3⟩, ⟨b, us, rfl, r4, r5⟩⟩ := r1.two
    exact ⟨a, b, ws, us, rfl, SqL.of (T1.sf _ _ r2), SqL.of (T1.sf _ _ r4), k _ F1 H1 ω1 _ s1 p1 T1 (walkD_zip (SqL.of r2) r3 (SqL.of r4) r5) h1⟩
  · exact h1.elim⟩
def chD (z : Str) : List D := z.cps.toList.map fun c => .str ⟨#[c]⟩
def pStrI (p : PD) : PI1 := fun s q => p s fun d s1 => match d with
  | .str z => q (chD z) s1
  | _ => False
theorem walkD_str {F : Hp} {z : Str} : WalkD K F (Its z) (chD z) := by
  refine ⟨_, _, by rw [show (chD z).length = z.cps.size by simp [chD]]; exact walk_str, fun _ _ => trivial, fun i H x H' F1 d e s1 s2 y => ?_⟩
  obtain ⟨rfl, c, hc, rfl⟩ := y
  unfold chD at e
  rw [List.getElem?_map, Array.getElem?_toList, hc] at e
  cases e
  exact ⟨F1, Ext.refl s2, rfl⟩
instance {t : TE} {p : PD} [LiftD K t p] : LiftI K (fun σ H R => t σ H fun v H1 => ∃ x, v = .str x ∧ R (Its x) H1) (pStrI p) := ⟨fun q T h k => by
  refine LiftD.run (K := K) (t := t) (p := p) _ T h fun v F1 H1 ω1 d s1 p1 T1 r1 h1 => ?_
  split at h1
  · exact ⟨_, r1, k _ F1 H1 ω1 _ s1 p1 T1 walkD_str h1⟩
  · exact h1.elim⟩
/-! ### comprehensions -/
def wipeS (s : Sl) : List Nat → Sl
  | [] => s
  | v :: vs => (wipeS s vs).set v none
theorem Sta.wipe {F H : Hp} {ω : Om} {s : Sl} {σ : L2.St} (T : Sta K F H ω s σ) : ∀ vs, Sta K F H ω (wipeS s vs) (L2.wipe σ vs)
  | [] => T
  | v :: vs => (Sta.wipe T vs).dropσ v none
/-- .. and back: the slots of the block are as before, and nothing is said of them -/
theorem Sta.unwipe {F H : Hp} {ω : Om} {s : Sl} {σ σ' : L2.St} (T : Sta K F H ω s σ') {vs : List Nat} (hw : L2.wipe σ' vs = L2.wipe σ vs) : Sta K F H ω (wipeS s vs) σ := by
  have T1 := T.wipe vs
  rw [hw] at T1
  refine ⟨T1.sf, T1.ow, fun i x h => ?_, by rw [T1.len, wipe_length]⟩
  obtain ⟨v, hv, r⟩ := T1.at' i x h
  exact ⟨v, (wipe_some hv).1, r⟩
def pLc (pi : PI1) (pg : PG1) (ss : List Nat) (pt : PT1) (pe : PD) (vs : List Nat) : PX := fun s q => pi s fun ds s1 => if ss.all vs.contains = true then ds.length ≤ 100000 ∧ ∃ I : Nat → List D → Sl → Prop, I 0 [] (wipeS s1 vs) ∧
  (∀ i d acc s2, ds[i]? = some d → I i acc s2 → pg d s2 fun s3 => pt s3 (fun s4 => pe s4 fun e s5 => I (i + 1) (acc ++ [e]) (wipeS s5 vs)) (fun s4 => I (i + 1) acc (wipeS s4 vs))) ∧
  ∀ acc s2, I ds.length acc s2 → q (.ow false (.lst acc)) s2 else False
theorem wipe_setm {v : Nat} : ∀ {vs : List Nat} {σ : L2.St}, v ∈ vs → (L2.wipe σ vs).set v none = L2.wipe σ vs
  | [], _, h => by simp at h
  | w :: vs, σ, h => by
    show ((L2.wipe σ vs).set w none).set v none = (L2.wipe σ vs).set w none
    by_cases e : v = w
    · subst e
      rw [List.set_set]
    · rw [List.set_comm _ _ (fun z => e z.symm), wipe_setm ((List.mem_cons.mp h).resolve_left e)]
theorem wipe_sub {σ : L2.St} {vs : List Nat} : ∀ {ws : List Nat}, (∀ i ∈ ws, i ∈ vs) → L2.wipe (L2.wipe σ vs) ws = L2.wipe σ vs
  | [], _ => rfl
  | w :: ws, h => by
    show (L2.wipe (L2.wipe σ vs) ws).set w none = L2.wipe σ vs
    rw [wipe_sub fun i hi => h i (List.mem_cons_of_mem _ hi), wipe_setm (h w List.mem_cons_self)]
theorem wipe_wipe (σ : L2.St) (vs : List Nat) : L2.wipe (L2.wipe σ vs) vs = L2.wipe σ vs := wipe_sub fun _ h => h
/-- a new thing that no slot has is changed -/
theorem Stp.mutNew {F0 H0 F H : Hp} {ω0 ω : Om} {A : Addr} {u : HO} (p : Stp F0 H0 ω0 F H ω) (hA : H0 A = none) : Stp F0 H0 ω0 F (upd H A u) ω :=
  ⟨p.sf, fun b o h1 h2 => by rw [upd_ne (ne_of_none h2 hA)]; exact p.fr b o h1 h2, p.om, p.fn, fun b h => by
    by_cases hb : b = A
    · rw [hb]
      exact hA
    · rw [upd_ne hb] at h
      exact p.tr b h, p.bk⟩
theorem Sta.mutFree {F H : Hp} {ω : Om} {s : Sl} {σ : L2.St} {A : Addr} {u : HO} (T : Sta K F H ω s σ) (h1 : ω A = none) (h2 : F A = none) : Sta K F (upd H A u) ω s σ := by
  refine ⟨fun b o h => ?_, fun b p h => ?_, fun i x h => ?_, T.len⟩
  · rw [upd_ne (fun z => by rw [z, h2] at h; cases h)]
    exact T.sf b o h
  · rw [upd_ne (fun z => by rw [z, h1] at h; cases h)]
    exact T.ow b p h
  · obtain ⟨v, hv, r⟩ := T.at' i x h
    refine ⟨v, hv, ?_⟩
    cases x with
    | fr d => exact r
    | ow b o =>
      obtain ⟨l, rfl, h6, h7⟩ := r
      exact ⟨l, rfl, h6, h7.heap fun w hw => by
        rw [upd_ne (fun z => by rw [z, h1] at h6; cases h6)]
        exact hw⟩
instance {wi : TI} {g : TG} {tt : TT} {te : TE} {vs : List Nat} {pi : PI1} {pg : PG1} {ss : List Nat} {pt : PT1} {pe : PD} [LiftI K wi pi] [LiftG K g pg ss] [LiftT K tt pt] [LiftD K te pe] : LiftE K (tLc wi g tt te vs) (pLc pi pg ss pt pe vs) := ⟨fun {F H ω s σ Q} kk T h k => by
  refine LiftI.run (K := K) (t := wi) (p := pi) _ T h fun J F1 H1 ω1 ds s1 p1 T1 w1 h1 => ?_
  split at h1
  rotate_left
  · exact h1.elim
  rename_i hss
  have hss' : ∀ i ∈ ss, i ∈ vs := fun i hi => by simpa using List.all_eq_true.mp hss i hi
  obtain ⟨hlen, I, i0, istep, iend⟩ := h1
  obtain ⟨G, Y, W, hG, hY⟩ := w1
  intro A hA
  have e0 : Ext F1 H1 F1 (upd H1 A (.lst [])) := Ext.ow T1.sf hA _
  obtain ⟨p2, T2⟩ := e0.stp T1
  have kk' : ∀ {F2 : Hp} {ω2 : Om} {s2 : Sl} {acc : List D} {ws : List V} {H' : Hp}, Sta K F2 H' ω2 s2 σ → I ds.length acc s2 → Stp F1 H1 ω1 F2 H' ω2 → ω2 A = none → F2 A = none → H' A = some (.lst ws) → RpA K F2 acc ws → Q (.ref A) H' :=
    fun {F2 ω2 s2 acc ws H'} T4 hI p3 a1 a2 a3 a4 => k _ F2 H' ω2 (.ow false (.lst acc)) s2 (p1.trans p3) T4 ⟨A, rfl, p1.tr A hA, a1, a2, ws, a3, a4⟩ (iend acc s2 hI)
  -- the invariant: a state of the slots without the block's names, the new list at A
  refine lc_it W (fun i H' => ∃ F2 ω2 s2 acc ws, Stp F1 H1 ω1 F2 H' ω2 ∧ Sta K F2 H' ω2 s2 (L2.wipe σ vs) ∧ ω2 A = none ∧ F2 A = none ∧ H' A = some (.lst ws) ∧ RpA K F2 acc ws ∧ acc.length ≤ i ∧ I i acc s2) ?_ ?_ ?_ ?_
  · exact ⟨F1, ω1, wipeS s1 vs, [], [], p2, T2.wipe vs, T1.free hA, T1.sf.free hA, upd_same, rfl, Nat.le_refl _, i0⟩
  · rintro i H' hi ⟨F2, ω2, s2, acc, ws, p3, T3, _⟩
    exact hG H' (p3.sf.trans T3.sf)
  · rintro i x H' H'' hi ⟨F2, ω2, s2, acc, ws, p3, T3, a1, a2, a3, a4, a5, hI⟩ y
    have hd : ds[i]? = some ds[i] := List.getElem?_eq_getElem hi
    obtain ⟨F3, e3, r3⟩ := hY i H' x H'' F2 _ hd p3.sf T3.sf y
    obtain ⟨p4, T4⟩ := e3.stp T3
    refine LiftG.run (K := K) (g := g) (p := pg) (ss := ss) _ T4 r3 (istep i _ acc s2 hd hI) fun σ5 s5 T5 w5 h5 => ?_
    have hw5 : L2.wipe σ5 vs = L2.wipe σ vs := by rw [w5 vs hss']; exact wipe_wipe σ vs
    refine ⟨hw5, ?_⟩
    have pp := p3.trans p4
    refine LiftT.run (K := K) (t := tt) (p := pt) _ _ T5 h5 fun b F6 H6 ω6 s6 p6 T6 h6 => ?_
    have b1 : H'' A = some (.lst ws) := e3.sh _ _ a3
    have b2 : F3 A = none := e3.fn _ _ a3 a2
    have c1 := p6.fr A _ a1 b1
    have c2 := p6.fn A _ a1 b1 b2
    have c3 := p6.om A _ a1 b1
    cases b with
    | false =>
      refine iteF ⟨F6, ω6, wipeS s6 vs, acc, ws, pp.trans p6, ?_, c3, c2, c1, a4.mono (e3.sf.trans p6.sf), by omega, by simpa using h6⟩
      have T7 := T6.wipe vs
      rw [hw5] at T7
      exact T7
    | true =>
      refine iteT (LiftD.run (K := K) (t := te) (p := pe) _ T6 (by simpa using h6) fun v F7 H7 ω7 d s7 p7 T7 r7 h7 => ?_)
      have d1 := p7.fr A _ c3 c1
      have d2 := p7.fn A _ c3 c1 c2
      have d3 := p7.om A _ c3 c1
      have hlA : ws.length = acc.length := a4.len.symm
      have T8 := T7.wipe vs
      rw [hw5] at T8
      exact ⟨ws, d1, Nat.lt_of_le_of_lt (show ws.length ≤ 100000 by omega) (by decide), F7, ω7, wipeS s7 vs, acc ++ [d], ws ++ [v], ((pp.trans p6).trans p7).mutNew hA, T8.mutFree d3 d2, d3, d2, upd_same,
        ((a4.mono ((e3.sf.trans p6.sf).trans p7.sf)).snoc r7), by rw [List.length_append]; simp; omega, h7⟩
  · rintro H' ⟨F2, ω2, s2, acc, ws, p3, T3, a1, a2, a3, a4, a5, hI⟩
    exact kk' ⟨T3.sf, T3.ow, fun i x h => (T3.at' i x h).elim fun v hv => ⟨v, (wipe_some hv.1).1, hv.2⟩, by rw [T3.len, wipe_length]⟩ hI p3 a1 a2 a3 a4⟩
end
/-! ### statements -/
structure PEnds where
  nx : Sl → Prop
  rt : S → Sl → Prop
  bk : Sl → Prop := fun _ => False
  ct : Sl → Prop := fun _ => False
abbrev PS1 := PEnds → Sl → Prop
structure Meets (K : PySem.W.Frag) (H0 F H : Hp) (ω : Om) (E : PEnds) (D : Ends) : Prop where
  nx : ∀ {σ' F' H' ω' s'}, Stp F H ω F' H' ω' → Sta K F' H' ω' s' σ' → E.nx s' → D.nx σ' H'
  rt : ∀ {v σ' F' H' ω' x s'}, Stp F H ω F' H' ω' → Sta K F' H' ω' s' σ' → Rt K H0 F' H' ω' x v → E.rt x s' → D.rt v H'
  bk : ∀ {σ' F' H' ω' s'}, Stp F H ω F' H' ω' → Sta K F' H' ω' s' σ' → E.bk s' → D.bk σ' H'
  ct : ∀ {σ' F' H' ω' s'}, Stp F H ω F' H' ω' → Sta K F' H' ω' s' σ' → E.ct s' → D.ct σ' H'
  up : ∀ b, H b = none → H0 b = none
  yg : ∀ b j, ω b = some (j, false) → H0 b = none
theorem Meets.old {K : PySem.W.Frag} {H0 F H F1 H1 : Hp} {ω ω1 : Om} {E : PEnds} {D : Ends} (M : Meets K H0 F H ω E D) (p : Stp F H ω F1 H1 ω1) : (∀ b, H1 b = none → H0 b = none) ∧ ∀ b j, ω1 b = some (j, false) → H0 b = none := by
  refine ⟨fun b h => M.up b (p.tr b h), fun b j h => ?_⟩
  cases hw : ω b with
  | none =>
    cases hb : H b with
    | none => exact M.up b hb
    | some o =>
      rw [p.om b o hw hb] at h
      cases h
  | some w =>
    obtain ⟨j', c⟩ := w
    cases c with
    | false => exact M.yg b j' hw
    | true =>
      rw [(p.bk b j').mpr hw] at h
      cases h
theorem Meets.step {K : PySem.W.Frag} {H0 F H F1 H1 : Hp} {ω ω1 : Om} {E : PEnds} {D : Ends} (M : Meets K H0 F H ω E D) (p : Stp F H ω F1 H1 ω1) : Meets K H0 F1 H1 ω1 E D :=
  ⟨fun q T h => M.nx (p.trans q) T h, fun q T r h => M.rt (p.trans q) T r h, fun q T h => M.bk (p.trans q) T h, fun q T h => M.ct (p.trans q) T h, (M.old p).1, (M.old p).2⟩
/-- the same for other ends -/
theorem Meets.ends {K : PySem.W.Frag} {H0 F H : Hp} {ω : Om} {E E' : PEnds} {D D' : Ends} (M : Meets K H0 F H ω E D) (hrE : E'.rt = E.rt) (hrD : D'.rt = D.rt)
    (nx : ∀ {σ' F' H' ω' s'}, Stp F H ω F' H' ω' → Sta K F' H' ω' s' σ' → E'.nx s' → D'.nx σ' H') (bk : ∀ {σ' F' H' ω' s'}, Stp F H ω F' H' ω' → Sta K F' H' ω' s' σ' → E'.bk s' → D'.bk σ' H')
    (ct : ∀ {σ' F' H' ω' s'}, Stp F H ω F' H' ω' → Sta K F' H' ω' s' σ' → E'.ct s' → D'.ct σ' H') : Meets K H0 F H ω E' D' :=
  ⟨nx, fun q T r h => by rw [hrD]; exact M.rt q T r (by rw [← hrE]; exact h), bk, ct, M.up, M.yg⟩
class LiftS (K : PySem.W.Frag) (t : TS) (p : outParam PS1) : Prop where
  run : ∀ {H0 F H : Hp} {ω : Om} {s : Sl} {σ : L2.St} {D : Ends} (E : PEnds), Sta K F H ω s σ → p E s → Meets K H0 F H ω E D → t D σ H
section
variable {K : PySem.W.Frag}
def psSeq (p q : PS1) : PS1 := fun E s => p { E with nx := q E } s
def psCut (p q : PS1) : PS1 := fun E s => ∃ Mid : Sl → Prop, p { E with nx := Mid } s ∧ ∀ s', Mid s' → q E s'
theorem psSeq_run {t u : TS} {p q : PS1} [LiftS K t p] [LiftS K u q] {H0 F H : Hp} {ω : Om} {s : Sl} {σ : L2.St} {D : Ends} (E : PEnds) (T : Sta K F H ω s σ) (h : psSeq p q E s) (M : Meets K H0 F H ω E D) : t { D with nx := u D } σ H :=
  LiftS.run (K := K) (t := t) (p := p) _ T h (M.ends rfl rfl (fun {σ' F' H' ω' s'} p' T' h' => LiftS.run (K := K) (t := u) (p := q) E T' h' (M.step p')) M.bk M.ct)
instance {t u : TS} {p q : PS1} [LiftS K t p] [LiftS K u q] : LiftS K (tSeq t u) (psSeq p q) := ⟨fun E T h M => psSeq_run (t := t) (u := u) (p := p) (q := q) E T h M⟩
instance {t u : TS} {p q : PS1} [LiftS K t p] [LiftS K u q] : LiftS K (C8.tCut t u) (psCut p q) := ⟨fun {H0 F H ω s σ D} E T h M => by
  obtain ⟨Mid, h1, h2⟩ := h
  refine ⟨fun σ' H' => ∃ F' ω' s', Stp F H ω F' H' ω' ∧ Sta K F' H' ω' s' σ' ∧ Mid s', ?_, fun σ' H' hm => ?_⟩
  · exact LiftS.run (K := K) (t := t) (p := p) _ T h1 (M.ends rfl rfl (fun {σ' F' H' ω' s'} p' T' h' => ⟨F', ω', s', p', T', h'⟩) M.bk M.ct)
  · obtain ⟨F', ω', s', p', T', hm⟩ := hm
    exact LiftS.run (K := K) (t := u) (p := q) E T' (h2 s' hm) (M.step p')⟩
instance : LiftS K tNext (fun E s => E.nx s) := ⟨fun E T h M => M.nx (Stp.refl _ _ _) T h⟩
instance : LiftS K tBreak (fun E s => E.bk s) := ⟨fun E T h M => M.bk (Stp.refl _ _ _) T h⟩
instance : LiftS K tCont (fun E s => E.ct s) := ⟨fun E T h M => M.ct (Stp.refl _ _ _) T h⟩
instance : LiftS K tNever (fun _ _ => False) := ⟨fun E T h M => h.elim⟩
def psDrop (p : PX) : PS1 := fun E s => p s fun _ s1 => E.nx s1
instance {t : TE} {p : PX} [LiftE K t p] : LiftS K (tDrop t) (psDrop p) := ⟨fun E T h M =>
  LiftE.run (K := K) (t := t) (p := p) _ T h fun v F' H' ω' x s' p' T' r hq => M.nx p' T' hq⟩
def psRet (p : PX) : PS1 := fun E s => p s E.rt
instance {t : TE} {p : PX} [LiftE K t p] : LiftS K (tRet t) (psRet p) := ⟨fun E T h M =>
  LiftE.run (K := K) (t := t) (p := p) _ T h fun v F' H' ω' x s' p' T' r hq => M.rt p' T' (r.early M.up) hq⟩
instance : LiftS K tRetN (fun E s => E.rt (.fr .non) s) := ⟨fun E T h M => M.rt (Stp.refl _ _ _) T (x := .fr .non) rfl h⟩
/-- what is returned as it stands: an object of its own is handed out -/
def psRetV (i : Nat) : PS1 := fun E s => match s[i]? with
  | some (some (.ow false o)) => E.rt (.ow false o) (s.set i none) ∨ psRet (pVar i) E s
  | _ => psRet (pVar i) E s
/-- a name's own object is let go -/
theorem Sta.letgo {F H : Hp} {ω : Om} {s : Sl} {σ : L2.St} {i : Nat} {o : O} (T : Sta K F H ω s σ) (hi : s[i]? = some (some (.ow false o))) :
    ∃ l ω', σ[i]? = some (some (.ref l)) ∧ ω l = some (i, false) ∧ Stp F H ω F H ω' ∧ Sta K F H ω' (s.set i none) σ ∧ ω' l = none ∧ F l = none ∧ ObjR K F H l o := by
  obtain ⟨v, hv, l, rfl, hl, ho⟩ := T.at' i _ hi
  have hF := (T.ow l _ hl).1
  refine ⟨l, fun b => if b = l then none else ω b, hv, hl, ⟨Same.refl F, fun _ _ _ h => h, fun b o h _ => ?_, fun _ _ _ _ h => h, fun _ h => h, fun b j => ?_⟩, ⟨T.sf, fun b q hq => ?_, fun j x h => ?_, by rw [List.length_set]; exact T.len⟩, if_pos rfl, hF, ho⟩
  · show (if b = l then none else ω b) = none
    split
    · rfl
    · exact h
  · show (if b = l then none else ω b) = some (j, true) ↔ _
    split
    · rename_i hb
      subst hb
      rw [hl]
      constructor
      · intro h; cases h
      · intro h; cases h
    · exact Iff.rfl
  · have hq' : (if b = l then none else ω b) = some q := hq
    split at hq'
    · cases hq'
    · exact T.ow b q hq'
  · rw [List.getElem?_set] at h
    split at h
    · split at h
      · cases h
      · cases h
    · rename_i hij
      obtain ⟨v, h4, h5⟩ := T.at' j x h
      refine ⟨v, h4, ?_⟩
      cases x with
      | fr d => exact h5
      | ow b o =>
        obtain ⟨l', rfl, h6, h7⟩ := h5
        refine ⟨l', rfl, ?_, h7⟩
        show (if l' = l then none else ω l') = _
        rw [if_neg (fun z => by rw [z, hl] at h6; cases h6; exact hij rfl)]
        exact h6
instance (priority := high) (i : Nat) : LiftS K (tRet (tVar i)) (psRetV i) := ⟨fun {H0 F H ω s σ D} E T h M => by
  unfold psRetV at h
  split at h
  · rename_i o e
    rcases h with h | h
    · obtain ⟨l, ω', hv, hl, p, T', h1, h2, ho⟩ := T.letgo e
      exact ⟨_, hv, M.rt p T' (x := .ow false o) ⟨l, rfl, M.yg l i hl, h1, h2, ho⟩ h⟩
    · exact LiftS.run (K := K) (t := tRet (tVar i)) (p := psRet (pVar i)) E T h M
  · exact LiftS.run (K := K) (t := tRet (tVar i)) (p := psRet (pVar i)) E T h M⟩
def psIf (c : PT1) (p q : PS1) : PS1 := fun E s => c s (fun s1 => p E s1) (fun s1 => q E s1)
instance {c : TT} {t u : TS} {pc : PT1} {p q : PS1} [LiftT K c pc] [LiftS K t p] [LiftS K u q] : LiftS K (tIfS c t u) (psIf pc p q) := ⟨fun E T h M => by
  refine LiftT.run (K := K) (t := c) (p := pc) _ _ T h fun b F1 H1 ω1 s1 p1 T1 h1 => ?_
  cases b with
  | true => exact iteT (LiftS.run (K := K) (t := t) (p := p) E T1 (by simpa using h1) (M.step p1))
  | false => exact iteF (LiftS.run (K := K) (t := u) (p := q) E T1 (by simpa using h1) (M.step p1))⟩
/-! assignments -/
def setS (i : Nat) (x : S) (s : Sl) : Sl := match x with
  | .fr d => s.set i (some (.fr d))
  | .ow _ o => s.set i (some (.ow false o))
def psSet (i : Nat) (p : PX) : PS1 := fun E s => p s fun x s1 => E.nx (setS i x s1)
instance (priority := high) {t : TE} {p : PX} {i : Nat} [LiftE K t p] : LiftS K (tAsg t (gName i)) (psSet i p) := ⟨fun E T h M => by
  refine LiftE.run (K := K) (t := t) (p := p) _ T h fun v F' H' ω' x s' p' T' r hq => ?_
  cases x with
  | fr d => exact M.nx p' (T'.set i r) hq
  | ow b o =>
    obtain ⟨ω2, p2, T2⟩ := Sta.setO p' T' i r
    exact M.nx p2 T2 hq⟩
def psAsg (p : PD) (pg : PG1) : PS1 := fun E s => p s fun d s1 => pg d s1 E.nx
instance {t : TE} {p : PD} {g : TG} {pg : PG1} {ss : List Nat} [LiftD K t p] [LiftG K g pg ss] : LiftS K (tAsg t g) (psAsg p pg) := ⟨fun E T h M => by
  refine LiftD.run (K := K) (t := t) (p := p) _ T h fun v F' H' ω' d s' p' T' r hq => ?_
  exact LiftG.run (K := K) (g := g) (p := pg) (ss := ss) _ T' r hq fun σ2 s2 T2 _ h2 => M.nx p' T2 h2⟩
def psPar (i j : Nat) (p : PA1) : PS1 := fun E s => p s fun ds s1 => match ds with
  | [d, e] => E.nx ((s1.set i (some (.fr d))).set j (some (.fr e)))
  | _ => False
instance {i j : Nat} {t : TA} {p : PA1} [LiftA K t p] : LiftS K (tPar i j t) (psPar i j p) := ⟨fun E T h M => by
  refine LiftA.run (K := K) (t := t) (p := p) _ T h fun vs F' H' ω' ds s' p' T' r hq => ?_
  split at hq
  · obtain ⟨v, w, rfl, r1, r2⟩ := r.two
    exact ⟨v, w, rfl, M.nx p' ((T'.set i r1).set j r2) hq⟩
  · exact hq.elim⟩
def psAug (i : Nat) (f : Int → Int → Int) (p : PD) : PS1 := fun E s => match s[i]? with
  | some (some (.fr (.int a))) => p s fun d s1 => match d with
    | .int b => E.nx (s1.set i (some (.fr (.int (f a b)))))
    | _ => False
  | _ => False
instance {i : Nat} {f : Int → Int → Int} {t : TE} {p : PD} [LiftD K t p] : LiftS K (tAug i t (ipI f)) (psAug i f p) := ⟨fun E T h M => by
  unfold psAug at h
  split at h
  · rename_i a e
    obtain ⟨v, hv, r⟩ := T.get e
    cases (show v = _ from r)
    refine ⟨_, hv, LiftD.run (K := K) (t := t) (p := p) _ T h fun v F' H' ω' d s' p' T' r hq => ?_⟩
    split at hq
    · rename_i b
      exact ⟨_, _, rfl, r, M.nx p' (T'.set i (d := .int (f a b)) rfl) hq⟩
    · exact hq.elim
  · exact h.elim⟩
/-! loops -/
def psFor (pi : PI1) (pg : PG1) (pb : PS1) : PS1 := fun E s => pi s fun ds s1 => ∃ I : Nat → Sl → Prop, I 0 s1 ∧
  (∀ i d s2, ds[i]? = some d → I i s2 → pg d s2 fun s3 => pb { E with nx := I (i + 1), ct := I (i + 1), bk := E.nx } s3) ∧ ∀ s2, I ds.length s2 → E.nx s2
instance {wi : TI} {g : TG} {tb : TS} {pi : PI1} {pg : PG1} {ss : List Nat} {pb : PS1} [LiftI K wi pi] [LiftG K g pg ss] [LiftS K tb pb] : LiftS K (tFor wi g tb) (psFor pi pg pb) := ⟨fun {H0 F H ω s σ D} E T h M => by
  refine LiftI.run (K := K) (t := wi) (p := pi) _ T h fun J F1 H1 ω1 ds s1 p1 T1 w1 h1 => ?_
  obtain ⟨I, i0, istep, iend⟩ := h1
  obtain ⟨G, Y, W, hG, hY⟩ := w1
  refine for_it W (fun i σ' H' => ∃ F2 ω2 s2, Stp F1 H1 ω1 F2 H' ω2 ∧ Sta K F2 H' ω2 s2 σ' ∧ I i s2) ⟨F1, ω1, s1, Stp.refl _ _ _, T1, i0⟩ ?_ ?_ ?_
  · rintro i σ' H' hi ⟨F2, ω2, s2, p3, T3, _⟩
    exact hG H' (p3.sf.trans T3.sf)
  · rintro i x σ' H' H'' hi ⟨F2, ω2, s2, p3, T3, hI⟩ y
    have hd : ds[i]? = some ds[i] := List.getElem?_eq_getElem hi
    obtain ⟨F3, e3, r3⟩ := hY i H' x H'' F2 _ hd p3.sf T3.sf y
    obtain ⟨p4, T4⟩ := e3.stp T3
    refine LiftG.run (K := K) (g := g) (p := pg) (ss := ss) _ T4 r3 (istep i _ s2 hd hI) fun σ5 s5 T5 w5 h5 => ?_
    have pp := p3.trans p4
    have M1 := M.step (p1.trans pp)
    exact LiftS.run (K := K) (t := tb) (p := pb) _ T5 h5 (M1.ends rfl rfl (fun {σ' F' H' ω' s'} p' T' h' => ⟨F', ω', s', pp.trans p', T', h'⟩)
      M1.nx (fun {σ' F' H' ω' s'} p' T' h' => ⟨F', ω', s', pp.trans p', T', h'⟩))
  · rintro σ' H' ⟨F2, ω2, s2, p3, T3, hI⟩
    exact M.nx (p1.trans p3) T3 (iend s2 hI)⟩
def psWhile (c : PT1) (pb : PS1) : PS1 := fun E s => ∃ I : Nat → Sl → Prop, (∃ m, I m s) ∧
  ∀ m s1, I m s1 → c s1 (fun s2 => pb { E with nx := fun s3 => ∃ m', m' < m ∧ I m' s3, ct := fun s3 => ∃ m', m' < m ∧ I m' s3, bk := E.nx } s2) (fun s2 => E.nx s2)
instance {c : TT} {tb : TS} {pc : PT1} {pb : PS1} [LiftT K c pc] [LiftS K tb pb] : LiftS K (tWhile c tb) (psWhile pc pb) := ⟨fun {H0 F H ω s σ D} E T h M => by
  obtain ⟨I, ⟨m0, i0⟩, istep⟩ := h
  refine ⟨fun m σ' H' => ∃ F2 ω2 s2, Stp F H ω F2 H' ω2 ∧ Sta K F2 H' ω2 s2 σ' ∧ I m s2, ⟨m0, F, ω, s, Stp.refl _ _ _, T, i0⟩, ?_⟩
  rintro m σ' H' ⟨F2, ω2, s2, p3, T3, hI⟩
  refine LiftT.run (K := K) (t := c) (p := pc) _ _ T3 (istep m s2 hI) fun b F4 H4 ω4 s4 p4 T4 h4 => ?_
  have pp := p3.trans p4
  have M1 := M.step pp
  cases b with
  | false => exact iteF (M.nx pp T4 (by simpa using h4))
  | true =>
    rw [if_pos rfl] at h4
    refine iteT ⟨fun σ' H' => ∃ m', m' < m ∧ ∃ F2 ω2 s2, Stp F H ω F2 H' ω2 ∧ Sta K F2 H' ω2 s2 σ' ∧ I m' s2, fun σ' H' hh => hh, ?_⟩
    exact LiftS.run (K := K) (t := tb) (p := pb) _ T4 h4 (M1.ends rfl rfl (fun {σ' F' H' ω' s'} p' T' h' => let ⟨m', hm, hi⟩ := h'; ⟨m', hm, F', ω', s', pp.trans p', T', hi⟩)
      M1.nx (fun {σ' F' H' ω' s'} p' T' h' => let ⟨m', hm, hi⟩ := h'; ⟨m', hm, F', ω', s', pp.trans p', T', hi⟩))⟩
/-! ### a name's own list is changed -/
class MuL (K : PySem.W.Frag) (r : V → List V → Hp → VK → Prop) (g : outParam (List D → List D → (D → List D → Prop) → Prop)) : Prop where
  run : ∀ {F H : Hp} {l : Addr} {xs : List D} {ws vs : List V} {ds : List D} {Q : VK} (q : D → List D → Prop), Same F H → F l = none → H l = some (.lst ws) → RpA K F xs ws → RpA K F ds vs → g xs ds q →
    (∀ v us d ys, Rp K F d v → RpA K F ys us → q d ys → Q v (upd H l (.lst us))) → r (.ref l) vs H Q
def pMu (i : Nat) (g : List D → List D → (D → List D → Prop) → Prop) (pa : PA1) : PX := fun s q => match s[i]? with
  | some (some (.ow _ (.lst _))) => pa s fun ds s1 => match s1[i]? with
    | some (some (.ow b (.lst xs))) => g xs ds fun d ys => q (.fr d) (s1.set i (some (.ow b (.lst ys))))
    | _ => False
  | _ => False
theorem mu_run {r : V → List V → Hp → VK → Prop} {g : List D → List D → (D → List D → Prop) → Prop} [MuL K r g] {i : Nat} {F H : Hp} {ω : Om} {s : Sl} {σ : L2.St} {v0 : V} {vs : List V} {ds : List D} {b : Bool} {xs : List D} {Q : VK} {q : S → Sl → Prop} (T : Sta K F H ω s σ) (hv : σ[i]? = some (some v0))
    (hs : s[i]? = some (some (.ow b (.lst xs)))) (r1 : RpA K F ds vs) (h : g xs ds fun d ys => q (.fr d) (s.set i (some (.ow b (.lst ys)))))
    (k : ∀ v F' H' ω' x s', Stp F H ω F' H' ω' → Sta K F' H' ω' s' σ → Rt K H F' H' ω' x v → q x s' → Q v H') : r v0 vs H Q := by
  obtain ⟨v, hv', l, rfl, hl, ws, h1, h2⟩ := T.at' i _ hs
  rw [hv] at hv'
  cases hv'
  refine MuL.run (K := K) (r := r) (g := g) _ T.sf (T.ow l _ hl).1 h1 h2 r1 h fun v us d ys r2 r3 hq => ?_
  obtain ⟨p2, T2⟩ := T.mut (u := .lst us) hv hl (o' := .lst ys) ⟨us, upd_same, r3⟩
  exact k v F _ ω (.fr d) _ p2 T2 r2 hq
theorem own_ty {i : Nat} {F H : Hp} {ω : Om} {s : Sl} {σ : L2.St} {b : Bool} {xs : List D} (T : Sta K F H ω s σ) (hs : s[i]? = some (some (.ow b (.lst xs)))) : ∃ v, σ[i]? = some (some v) ∧ tyV K "list" v H := by
  obtain ⟨v, hv', l, rfl, hl, ws, h1, h2⟩ := T.at' i _ hs
  exact ⟨_, hv', .inl ⟨rfl, _, SqL.of h1⟩⟩
instance {r : V → List V → Hp → VK → Prop} {g : List D → List D → (D → List D → Prop) → Prop} {i : Nat} {t : TA} {pa : PA1} [MuL K r g] [LiftA K t pa] : LiftE K (tBM K "list" r (tVar i) t) (pMu i g pa) := ⟨fun {F H ω s σ Q} q T h k => by
  unfold pMu at h
  split at h
  · rename_i e
    obtain ⟨v0, hv0, ty⟩ := own_ty T e
    refine ⟨v0, hv0, ty, LiftA.run (K := K) (t := t) (p := pa) _ T h fun vs F1 H1 ω1 ds s1 p1 T1 r1 h1 => ?_⟩
    split at h1
    · rename_i b xs e1
      exact mu_run (r := r) (g := g) T1 hv0 e1 r1 h1 fun v F2 H2 ω2 x s2 p2 T2 r2 hq => k v F2 H2 ω2 x s2 (p1.trans p2) T2 (r2.early p1.tr) hq
    · exact h1.elim
  · exact h.elim⟩
def pMu0 (i : Nat) (g : List D → List D → (D → List D → Prop) → Prop) : PX := fun s q => match s[i]? with
  | some (some (.ow b (.lst xs))) => g xs [] fun d ys => q (.fr d) (s.set i (some (.ow b (.lst ys))))
  | _ => False
instance {r : V → List V → Hp → VK → Prop} {g : List D → List D → (D → List D → Prop) → Prop} {i : Nat} [MuL K r g] : LiftE K (tBM0 K "list" r (tVar i)) (pMu0 i g) := ⟨fun {F H ω s σ Q} q T h k => by
  unfold pMu0 at h
  split at h
  · rename_i b xs e
    obtain ⟨v0, hv0, ty⟩ := own_ty T e
    exact ⟨v0, hv0, ty, mu_run (r := r) (g := g) (vs := []) (ds := []) T hv0 e rfl h k⟩
  · exact h.elim⟩
instance : MuL K rAppend (fun xs ds q => match ds with
    | [d] => xs.length < 1000000 ∧ q .non (xs ++ [d])
    | _ => False) := ⟨fun {F H l xs ws vs ds Q} q hs hF hl hx hd h k => by
  split at h
  · obtain ⟨v, rfl, r⟩ := hd.one
    exact ⟨l, ws, v, rfl, rfl, hl, by rw [← hx.len]; exact Nat.lt_trans h.1 (by decide), k _ _ .non _ rfl (hx.snoc r) h.2⟩
  · exact h.elim⟩
instance : MuL K rExtend (fun xs ds q => match ds with
    | [.lst ys] => xs.length + ys.length ≤ 1000000 ∧ q .non (xs ++ ys)
    | _ => False) := ⟨fun {F H l xs ws vs ds Q} q hs hF hl hx hd h k => by
  split at h
  · obtain ⟨v, rfl, a, us, rfl, h1, h2⟩ := hd.one
    exact ⟨l, a, ws, us, rfl, rfl, hl, hs _ _ h1, by rw [← hx.len, ← h2.len]; exact Nat.le_trans h.1 (by decide), k _ _ .non _ rfl (hx.app h2) h.2⟩
  · exact h.elim⟩
instance : MuL K rPop (fun xs ds q => match ds with
    | [] => match xs[xs.length - 1]? with
      | some d => q d xs.dropLast
      | none => False
    | _ => False) := ⟨fun {F H l xs ws vs ds Q} q hs hF hl hx hd h k => by
  split at h
  · split at h
    · rename_i d e
      cases (show vs = [] from hd)
      obtain ⟨v, hv, r⟩ := hx.get e
      rw [hx.len] at hv
      exact ⟨l, ws, v, rfl, rfl, hl, hv, k v _ d _ r hx.dropLast h⟩
    · exact h.elim
  · exact h.elim⟩
instance : MuL K rPopAt (fun xs ds q => match ds with
    | [.int i] => (0 ≤ i ∧ i < 2 ^ 63 ∧ i.toNat < xs.length) ∧ match xs[i.toNat]? with
      | some d => q d (xs.eraseIdx i.toNat)
      | none => False
    | _ => False) := ⟨fun {F H l xs ws vs ds Q} q hs hF hl hx hd h k => by
  split at h
  · rename_i i
    obtain ⟨⟨h1, h2, h3⟩, h⟩ := h
    split at h
    · rename_i d e
      obtain ⟨v, rfl, r⟩ := hd.one
      cases (show v = _ from r)
      obtain ⟨v, hv, r⟩ := hx.get e
      refine ⟨l, ws, i, i.toNat, v, rfl, rfl, hl, by omega, h2, ?_, hv, k v _ d _ r (hx.erase _) h⟩
      rw [← hx.len]
      unfold seqIndex?
      simp
      omega
    · exact h.elim
  · exact h.elim⟩
instance : MuL K rReverse (fun xs ds q => match ds with
    | [] => q .non xs.reverse
    | _ => False) := ⟨fun {F H l xs ws vs ds Q} q hs hF hl hx hd h k => by
  split at h
  · cases (show vs = [] from hd)
    exact ⟨l, ws, rfl, rfl, hl, k _ _ .non _ rfl hx.rev h⟩
  · exact h.elim⟩
/-- xs[i] = e -/
def psSub (i : Nat) (pv : PD) (pi : PD) : PS1 := fun E s => pv s fun d s1 => match s1[i]? with
  | some (some (.ow _ (.lst _))) => pi s1 fun e s2 => match e, s2[i]? with
    | .int k, some (some (.ow b (.lst xs))) => match ixN xs.length k with
      | some j => E.nx (s2.set i (some (.ow b (.lst (xs.set j d)))))
      | none => False
    | _, _ => False
  | _ => False
instance (priority := high) {i : Nat} {te ti : TE} {pv pi : PD} [LiftD K te pv] [LiftD K ti pi] : LiftS K (tAsg te (gSub (tVar i) ti rSetL)) (psSub i pv pi) := ⟨fun E T h M => by
  refine LiftD.run (K := K) (t := te) (p := pv) _ T h fun v F1 H1 ω1 d s1 p1 T1 r1 h1 => ?_
  split at h1
  · rename_i e0
    obtain ⟨v0, hv0, _⟩ := own_ty T1 e0
    refine ⟨v0, hv0, LiftD.run (K := K) (t := ti) (p := pi) _ T1 h1 fun w F2 H2 ω2 e s2 p2 T2 r2 h2 => ?_⟩
    split at h2
    · rename_i k b xs e1
      split at h2
      · rename_i j ej
        obtain ⟨v, hv', l, rfl, hl, ws, q1, q2⟩ := T2.at' i _ e1
        rw [hv0] at hv'
        cases hv'
        cases (show w = _ from r2)
        refine ⟨l, ws, k, j, rfl, rfl, q1, by rw [← q2.len]; exact ej, ?_⟩
        obtain ⟨p3, T3⟩ := T2.mut (u := .lst (ws.set j v)) hv0 hl (o' := .lst (xs.set j d)) ⟨_, upd_same, q2.set j (r1.mono p2.sf)⟩
        exact M.nx ((p1.trans p2).trans p3) T3 h2
      · exact h2.elim
    · exact h2.elim
  · exact h1.elim⟩
/-! reading from a name's own list without giving it away -/
def pIxV (i : Nat) (pi : PD) : PX := fun s q => match s[i]? with
  | some (some (.ow _ (.lst _))) => pi s fun e s1 => match e, s1[i]? with
    | .int k, some (some (.ow _ (.lst xs))) => match atI xs k with
      | some d => q (.fr d) s1
      | none => False
    | _, _ => False
  | _ => pOp gIxL (pDat (pVar i)) pi s q
instance (priority := high) {i : Nat} {ti : TE} {pi : PD} [LiftD K ti pi] : LiftE K (tOp (rIxL K) (tVar i) ti) (pIxV i pi) := ⟨fun {F H ω s σ Q} q T h k => by
  unfold pIxV at h
  split at h
  · rename_i e0
    obtain ⟨v0, hv0, _⟩ := own_ty T e0
    refine ⟨v0, hv0, LiftD.run (K := K) (t := ti) (p := pi) _ T h fun w F2 H2 ω2 e s2 p2 T2 r2 h2 => ?_⟩
    split at h2
    · rename_i kk b xs e1
      split at h2
      · rename_i d ed
        obtain ⟨v, hv', l, rfl, hl, ws, q1, q2⟩ := T2.at' i _ e1
        rw [hv0] at hv'
        cases hv'
        cases (show w = _ from r2)
        obtain ⟨v, hv, r⟩ := q2.atI ed
        exact ⟨l, ws, kk, v, rfl, rfl, SqL.of q1, hv, k v F2 H2 ω2 (.fr d) s2 p2 T2 r h2⟩
      · exact h2.elim
    · exact h2.elim
  · exact LiftE.run (K := K) (t := tOp (rIxL K) (tVar i) ti) (p := pOp gIxL (pDat (pVar i)) pi) q T h k⟩
def pLenV (i : Nat) : PX := fun s q => match s[i]? with
  | some (some (.ow _ (.lst xs))) => q (.fr (.int xs.length)) s
  | _ => pCB gLen (pCons (pDat (pVar i)) (fun s q => q [] s)) s q
instance (priority := high) {i : Nat} : LiftE K (tCB (rLenQ K) (tCons (tVar i) tNil)) (pLenV i) := ⟨fun {F H ω s σ Q} q T h k => by
  unfold pLenV at h
  split at h
  · rename_i b xs e
    obtain ⟨v, hv', l, rfl, hl, ws, q1, q2⟩ := T.at' i _ e
    refine ⟨_, hv', l, ws, rfl, .inl (SqL.of q1), ?_⟩
    rw [← q2.len]
    exact k _ F H ω (.fr (.int _)) s (Stp.refl _ _ _) T rfl h
  · exact LiftE.run (K := K) (t := tCB (rLenQ K) (tCons (tVar i) tNil)) (p := pCB gLen (pCons (pDat (pVar i)) (fun s q => q [] s))) q T h k⟩
instance (priority := high) {i : Nat} : LiftE K (tCB (fun xs H Q => ∃ p ys, xs = [.ref p] ∧ (SqL K H p ys ∨ SqT K H p ys) ∧ Q (.int ys.length) H) (tCons (tVar i) tNil)) (pLenV i) :=
  ⟨fun {F H ω s σ Q} q T h k => LiftE.run (K := K) (t := tCB (rLenQ K) (tCons (tVar i) tNil)) (p := pLenV i) q T h k⟩
/-- a copy of it -/
def pCopyV (i : Nat) : PX := fun s q => match s[i]? with
  | some (some (.ow _ (.lst xs))) => q (.ow false (.lst xs)) s
  | _ => pCB gListOf (pCons (pDat (pVar i)) (fun s q => q [] s)) s q
instance (priority := high) {i : Nat} : LiftE K (tCB (fun xs H Q => ∃ p ys, xs = [.ref p] ∧ (SqL K H p ys ∨ SqT K H p ys) ∧ ∀ l, H l = none → Q (.ref l) (upd H l (.lst ys))) (tCons (tVar i) tNil)) (pCopyV i) := ⟨fun {F H ω s σ Q} q T h k => by
  unfold pCopyV at h
  split at h
  · rename_i b xs e
    obtain ⟨v, hv', l, rfl, hl, ws, q1, q2⟩ := T.at' i _ e
    refine ⟨_, hv', l, ws, rfl, .inl (SqL.of q1), fun p hp => ?_⟩
    refine Ext.lst (q := fun z => q z s) T.sf q2 h (fun v F' H' z e r hq => ?_) hp
    obtain ⟨p2, T2⟩ := e.stp T
    exact k v F' H' ω z s p2 T2 (Rn.rt (Stp.refl _ _ _) T r) hq
  · exact LiftE.run (K := K) (t := tCB _ (tCons (tVar i) tNil)) (p := pCB gListOf (pCons (pDat (pVar i)) (fun s q => q [] s))) q T h k⟩
/-- the sum of a name's own list -/
def pSumV (i : Nat) : PX := fun s q => match s[i]? with
  | some (some (.ow _ (.lst xs))) => ∃ ns : List Int, xs = ns.map D.int ∧ q (.fr (.int ns.sum)) s
  | _ => pCB gSum (pCons (pDat (pVar i)) (fun s q => q [] s)) s q
instance (priority := high) {i : Nat} : LiftE K (tCB (rSum K) (tCons (tVar i) tNil)) (pSumV i) := ⟨fun {F H ω s σ Q} q T h k => by
  unfold pSumV at h
  split at h
  · rename_i b xs e
    obtain ⟨ns, rfl, h⟩ := h
    obtain ⟨v, hv', l, rfl, hl, ws, q1, q2⟩ := T.at' i _ e
    cases RpA.intsV q2
    exact ⟨_, hv', l, ns, rfl, SqL.of q1, k _ F H ω (.fr (.int _)) s (Stp.refl _ _ _) T rfl h⟩
  · exact LiftE.run (K := K) (t := tCB (rSum K) (tCons (tVar i) tNil)) (p := pCB gSum (pCons (pDat (pVar i)) (fun s q => q [] s))) q T h k⟩
end
/-! ### defs: promises by data -/
/-- what a def promises: its arguments by data (an own object may be lent), its answer, the lent objects behind it -/
structure Psp where
  n : Nat
  run : List S → (S → List O → Prop) → Prop
/-- the lent objects at the end -/
def bors : List S → Sl → Option (List O)
  | [], _ => some []
  | .fr _ :: xs, _ :: s => bors xs s
  | .ow _ _ :: xs, some (.ow true o) :: s => (bors xs s).map (o :: ·)
  | _, _ => none
def lent : List S → Prop
  | [] => True
  | .fr _ :: xs => lent xs
  | .ow b _ :: xs => b = true ∧ lent xs
/-- what is known of the lent objects' addresses at the end -/
def BosR (K : PySem.W.Frag) (F H : Hp) : List S → List V → List O → Prop
  | [], _, os => os = []
  | .fr _ :: xs, vs, os => ∃ v ws, vs = v :: ws ∧ BosR K F H xs ws os
  | .ow _ _ :: xs, vs, os => ∃ l ws o os', vs = .ref l :: ws ∧ os = o :: os' ∧ ObjR K F H l o ∧ BosR K F H xs ws os'
def Lsp (K : PySem.W.Frag) (ps : Psp) : Sp := fun vs H Q _ => ∃ (F : Hp) (ω : Om) (xs : List S) (q : S → List O → Prop), Sta K F H ω (xs.map some) (vs.map some) ∧ lent xs ∧
  (∀ a b j, ω a = some (j, true) → ω b = some (j, true) → a = b) ∧ (∀ b j c, ω b = some (j, c) → c = true) ∧ xs.length = ps.n ∧ ps.run xs q ∧
  ∀ v F' H' ω' x os, Stp F H ω F' H' ω' → Same F' H' → (∀ b p, ω' b = some p → F' b = none) → BosR K F' H' xs vs os → Rt K H F' H' ω' x v → q x os → Q v H'
section
variable {K : PySem.W.Frag}
/-! a call -/
inductive Ar where
  | v (d : D) | b (i : Nat)
def Ar.isB (i : Nat) : Ar → Bool
  | .b j => i == j
  | .v _ => false
def ArR (K : PySem.W.Frag) (F : Hp) (σ : L2.St) : List Ar → List V → Prop
  | [], vs => vs = []
  | .v d :: as, vs => ∃ v ws, vs = v :: ws ∧ Rp K F d v ∧ ArR K F σ as ws
  | .b i :: as, vs => ∃ v ws, vs = v :: ws ∧ σ[i]? = some (some v) ∧ ArR K F σ as ws
theorem ArR.mono {F F' : Hp} {σ : L2.St} (e : Same F F') : ∀ {as : List Ar} {vs : List V}, ArR K F σ as vs → ArR K F' σ as vs
  | [], _, h => h
  | .v _ :: _, _, h => let ⟨v, ws, e1, h1, h2⟩ := h; ⟨v, ws, e1, h1.mono e, ArR.mono e h2⟩
  | .b _ :: _, _, h => let ⟨v, ws, e1, h1, h2⟩ := h; ⟨v, ws, e1, h1, ArR.mono e h2⟩
abbrev PR1 := Sl → (List Ar → Sl → Prop) → Prop
class LiftR (K : PySem.W.Frag) (t : TA) (p : outParam PR1) : Prop where
  run : ∀ {F H : Hp} {ω : Om} {s : Sl} {σ : L2.St} {Q : List V → Hp → Prop} (q : List Ar → Sl → Prop), Sta K F H ω s σ → p s q →
    (∀ vs F' H' ω' as s', Stp F H ω F' H' ω' → Sta K F' H' ω' s' σ → ArR K F' σ as vs → q as s' → Q vs H') → t σ H Q
def prNil : PR1 := fun s q => q [] s
instance : LiftR K tNil prNil := ⟨fun {F H ω s σ Q} q T h k => k [] F H ω [] s (Stp.refl F H ω) T rfl h⟩
def prCons (p : PD) (r : PR1) : PR1 := fun s q => p s fun d s1 => r s1 fun as s2 => q (.v d :: as) s2
instance {t : TE} {r : TA} {p : PD} {pr : PR1} [LiftD K t p] [LiftR K r pr] : LiftR K (tCons t r) (prCons p pr) := ⟨fun kk T h k => by
  refine LiftD.run (K := K) (t := t) (p := p) _ T h fun x F1 H1 ω1 d s1 p1 T1 r1 h1 => ?_
  refine LiftR.run (K := K) (t := r) (p := pr) _ T1 h1 fun vs F2 H2 ω2 as s2 p2 T2 r2 h2 => ?_
  exact k _ F2 H2 ω2 (.v d :: as) s2 (p1.trans p2) T2 ⟨x, vs, rfl, r1.mono p2.sf, r2⟩ h2⟩
/-- a name: data, or its object lent (left), or given away as data (right) -/
def prVar (i : Nat) (r : PR1) : PR1 := fun s q => match s[i]? with
  | some (some (.ow false _)) => (r s fun as s2 => q (.b i :: as) s2) ∨ prCons (pDat (pVar i)) r s q
  | some (some (.ow true _)) => r s fun as s2 => q (.b i :: as) s2
  | _ => prCons (pDat (pVar i)) r s q
theorem prVar_b {i : Nat} {r : TA} {pr : PR1} [LiftR K r pr] {F H : Hp} {ω : Om} {s : Sl} {σ : L2.St} {Q : List V → Hp → Prop} {b : Bool} {o : O} (q : List Ar → Sl → Prop) (T : Sta K F H ω s σ) (e : s[i]? = some (some (.ow b o)))
    (h : pr s fun as s2 => q (.b i :: as) s2) (k : ∀ vs F' H' ω' as s', Stp F H ω F' H' ω' → Sta K F' H' ω' s' σ → ArR K F' σ as vs → q as s' → Q vs H') : tCons (tVar i) r σ H Q := by
  obtain ⟨v, hv, _⟩ := T.at' i _ e
  refine ⟨v, hv, LiftR.run (K := K) (t := r) (p := pr) _ T h fun vs F2 H2 ω2 as s2 p2 T2 r2 h2 => ?_⟩
  exact k _ F2 H2 ω2 (.b i :: as) s2 p2 T2 ⟨v, vs, rfl, hv, r2⟩ h2
instance (priority := high) {i : Nat} {r : TA} {pr : PR1} [LiftR K r pr] : LiftR K (tCons (tVar i) r) (prVar i pr) := ⟨fun {F H ω s σ Q} q T h k => by
  unfold prVar at h
  split at h
  · rename_i e
    rcases h with h | h
    · exact prVar_b q T e h k
    · exact LiftR.run (K := K) (t := tCons (tVar i) r) (p := prCons (pDat (pVar i)) pr) q T h k
  · rename_i e
    exact prVar_b q T e h k
  · exact LiftR.run (K := K) (t := tCons (tVar i) r) (p := prCons (pDat (pVar i)) pr) q T h k⟩
def getA : List Ar → Sl → Option (List S)
  | [], _ => some []
  | .v d :: as, s => (getA as s).map (.fr d :: ·)
  | .b i :: as, s => match s[i]? with
    | some (some (.ow _ o)) => if as.any (Ar.isB i) then none else (getA as s).map (.ow true o :: ·)
    | _ => none
def setO (i : Nat) (o : O) (s : Sl) : Sl := match s[i]? with
  | some (some (.ow b _)) => s.set i (some (.ow b o))
  | _ => s
def putA : List Ar → List O → Sl → Sl
  | [], _, s => s
  | .v _ :: as, os, s => putA as os s
  | .b i :: as, o :: os, s => setO i o (putA as os s)
  | .b _ :: _, [], s => s
def pCall (ps : Psp) (pa : PR1) : PX := fun s q => pa s fun as s1 => match getA as s1 with
  | some xs => if xs.length = ps.n then ps.run xs fun x os => q x (putA as os s1) else False
  | none => False
inductive ArOk (K : PySem.W.Frag) (F H : Hp) (ω : Om) (s : Sl) (σ : L2.St) : List Ar → List V → List S → Prop
  | nil : ArOk K F H ω s σ [] [] []
  | v {d : D} {x : V} {as : List Ar} {vs : List V} {xs : List S} : Rp K F d x → ArOk K F H ω s σ as vs xs → ArOk K F H ω s σ (.v d :: as) (x :: vs) (.fr d :: xs)
  | b {i : Nat} {b : Bool} {o : O} {l : Addr} {as : List Ar} {vs : List V} {xs : List S} : s[i]? = some (some (.ow b o)) → σ[i]? = some (some (.ref l)) → ω l = some (i, b) → ObjR K F H l o → as.any (Ar.isB i) = false →
    ArOk K F H ω s σ as vs xs → ArOk K F H ω s σ (.b i :: as) (.ref l :: vs) (.ow true o :: xs)
theorem arOk {F H : Hp} {ω : Om} {s : Sl} {σ : L2.St} (T : Sta K F H ω s σ) : ∀ {as : List Ar} {vs : List V} {xs : List S}, ArR K F σ as vs → getA as s = some xs → ArOk K F H ω s σ as vs xs
  | [], _, _, h, e => by
    cases (show _ = [] from h)
    cases e
    exact .nil
  | .v d :: as, _, xs, h, e => by
    obtain ⟨v, ws, rfl, r1, r2⟩ := h
    unfold getA at e
    cases e1 : getA as s with
    | none => rw [e1] at e; cases e
    | some ys =>
      rw [e1] at e
      cases e
      exact .v r1 (arOk T r2 e1)
  | .b i :: as, _, xs, h, e => by
    obtain ⟨v, ws, rfl, r1, r2⟩ := h
    unfold getA at e
    split at e
    · rename_i b o e0
      split at e
      · cases e
      · rename_i hn
        cases e1 : getA as s with
        | none => rw [e1] at e; cases e
        | some ys =>
          rw [e1] at e
          cases e
          obtain ⟨v', hv', l, rfl, hl, ho⟩ := T.at' i _ e0
          rw [r1] at hv'
          cases hv'
          exact .b e0 r1 hl ho (by simpa using hn) (arOk T r2 e1)
    · cases e
/-- who owns what for the callee -/
def omC : List Ar → List V → Nat → Om
  | .b _ :: as, .ref l :: vs, j => fun a => if a = l then some (j, true) else omC as vs (j + 1) a
  | _ :: as, _ :: vs, j => omC as vs (j + 1)
  | _, _, _ => fun _ => none
section
variable {F H : Hp} {ω : Om} {s : Sl} {σ : L2.St}
theorem omC_in {as : List Ar} {vs : List V} {xs : List S} (A : ArOk K F H ω s σ as vs xs) : ∀ {j : Nat} {a : Addr} {p : Nat × Bool}, omC as vs j a = some p → (∃ i b, ω a = some (i, b) ∧ as.any (Ar.isB i) = true) ∧ p.2 = true ∧ j ≤ p.1 := by
  induction A with
  | nil => intro j a p h; cases h
  | v r A ih =>
    intro j a p h
    obtain ⟨⟨i, b, h1, h2⟩, h3, h4⟩ := ih (j := j + 1) h
    exact ⟨⟨i, b, h1, by rw [List.any_cons, h2]; rfl⟩, h3, by omega⟩
  | @b i b o l as vs xs e1 e2 e3 e4 e5 A ih =>
    intro j a p h
    have h' : (if a = l then some (j, true) else omC as vs (j + 1) a) = some p := h
    split at h'
    · rename_i ha
      subst ha
      cases h'
      exact ⟨⟨i, b, e3, by simp [Ar.isB]⟩, rfl, Nat.le_refl _⟩
    · obtain ⟨⟨i, b, h1, h2⟩, h3, h4⟩ := ih h'
      exact ⟨⟨i, b, h1, by rw [List.any_cons, h2, Bool.or_true]⟩, h3, by omega⟩
theorem omC_uniq {as : List Ar} {vs : List V} {xs : List S} (A : ArOk K F H ω s σ as vs xs) : ∀ {j k : Nat} {a b : Addr}, omC as vs j a = some (k, true) → omC as vs j b = some (k, true) → a = b := by
  induction A with
  | nil => intro j k a b h; cases h
  | v r A ih => intro j k a b h1 h2; exact ih (j := j + 1) h1 h2
  | @b i bb o l as vs xs e1 e2 e3 e4 e5 A ih =>
    intro j k a b h1 h2
    have h1' : (if a = l then some (j, true) else omC as vs (j + 1) a) = some (k, true) := h1
    have h2' : (if b = l then some (j, true) else omC as vs (j + 1) b) = some (k, true) := h2
    split at h1' <;> split at h2'
    · rename_i x y; rw [x, y]
    · cases h1'
      exact absurd (omC_in A h2').2.2 (by show ¬ (j + 1 ≤ j); omega)
    · cases h2'
      exact absurd (omC_in A h1').2.2 (by show ¬ (j + 1 ≤ j); omega)
    · exact ih h1' h2'
theorem omC_at {as : List Ar} {vs : List V} {xs : List S} (A : ArOk K F H ω s σ as vs xs) : ∀ {j k : Nat} {x : S}, xs[k]? = some x → ∃ v, vs[k]? = some v ∧ OwnAt K F H (omC as vs j) (j + k) x v ∧ ∀ a, v = .ref a → ∀ b o, x = .ow b o → ∃ i, as.any (Ar.isB i) = true ∧ ∃ c, ω a = some (i, c) := by
  induction A with
  | nil => intro j k x h; simp at h
  | @v d y as vs xs r A ih =>
    intro j k x h
    cases k with
    | zero =>
      cases h
      exact ⟨y, rfl, r, fun _ _ _ _ z => by cases z⟩
    | succ k =>
      obtain ⟨v, hv, h1, h2⟩ := ih (j := j + 1) (k := k) h
      refine ⟨v, hv, ?_, fun a e b o z => ?_⟩
      · rw [show j + (k + 1) = j + 1 + k by omega]
        cases x with
        | fr _ => exact h1
        | ow _ _ => exact h1
      · obtain ⟨i, q1, q2⟩ := h2 a e b o z
        exact ⟨i, by rw [List.any_cons, q1, Bool.or_true], q2⟩
  | @b i b o l as vs xs e1 e2 e3 e4 e5 A ih =>
    intro j k x h
    cases k with
    | zero =>
      cases h
      refine ⟨.ref l, rfl, ⟨l, rfl, if_pos rfl, e4⟩, fun a e _ _ _ => ⟨i, by simp [Ar.isB], b, by cases e; exact e3⟩⟩
    | succ k =>
      obtain ⟨v, hv, h1, h2⟩ := ih (j := j + 1) (k := k) h
      refine ⟨v, hv, ?_, fun a e b o z => ?_⟩
      · rw [show j + (k + 1) = j + 1 + k by omega]
        cases x with
        | fr _ => exact h1
        | ow c o' =>
          obtain ⟨l', rfl, q1, q2⟩ := h1
          refine ⟨l', rfl, ?_, q2⟩
          have hne : l' ≠ l := by
            rintro rfl
            obtain ⟨i', q3, c', q4⟩ := h2 l' rfl _ _ rfl
            rw [e3] at q4
            cases q4
            rw [e5] at q3
            cases q3
          show (if l' = l then some (j, true) else omC as vs (j + 1) l') = _
          rw [if_neg hne]
          exact q1
      · obtain ⟨i', q1, q2⟩ := h2 a e b o z
        exact ⟨i', by rw [List.any_cons, q1, Bool.or_true], q2⟩
theorem arOk_len {as : List Ar} {vs : List V} {xs : List S} (A : ArOk K F H ω s σ as vs xs) : xs.length = vs.length ∧ lent xs := by
  induction A with
  | nil => exact ⟨rfl, trivial⟩
  | v _ _ ih => exact ⟨congrArg (· + 1) ih.1, ih.2⟩
  | b _ _ _ _ _ _ ih => exact ⟨congrArg (· + 1) ih.1, rfl, ih.2⟩
/-- the callee's state -/
theorem staC {as : List Ar} {vs : List V} {xs : List S} (T : Sta K F H ω s σ) (A : ArOk K F H ω s σ as vs xs) : Sta K F H (omC as vs 0) (xs.map some) (vs.map some) := by
  refine ⟨T.sf, fun b p h => ?_, fun i x h => ?_, by rw [List.length_map, List.length_map, (arOk_len A).1]⟩
  · obtain ⟨⟨i, c, h1, _⟩, _⟩ := omC_in A h
    exact T.ow b _ h1
  · rw [List.getElem?_map] at h
    cases e : xs[i]? with
    | none => rw [e] at h; cases h
    | some y =>
      rw [e] at h
      cases h
      obtain ⟨v, hv, h1, _⟩ := omC_at A (j := 0) e
      refine ⟨v, by rw [List.getElem?_map, hv]; rfl, ?_⟩
      rw [Nat.zero_add] at h1
      exact h1
/-- the slots behind the call -/
theorem putA_at {F' H' : Hp} {as : List Ar} {vs : List V} {xs : List S} (A : ArOk K F H ω s σ as vs xs) : ∀ {os : List O}, BosR K F' H' xs vs os →
    (putA as os s).length = s.length ∧ (∀ k, as.any (Ar.isB k) = false → (putA as os s)[k]? = s[k]?) ∧
    ∀ k x, as.any (Ar.isB k) = true → (putA as os s)[k]? = some (some x) → ∃ l b o, x = .ow b o ∧ σ[k]? = some (some (.ref l)) ∧ ω l = some (k, b) ∧ ObjR K F' H' l o := by
  induction A with
  | nil => intro os _; exact ⟨rfl, fun _ _ => rfl, fun _ _ h => by cases h⟩
  | v r A ih =>
    intro os B
    obtain ⟨v, ws, e, B⟩ := B
    cases e
    obtain ⟨h0, h1, h2⟩ := ih B
    exact ⟨h0, fun k hk => h1 k (by simpa [Ar.isB] using hk), fun k x hk => h2 k x (by simpa [Ar.isB] using hk)⟩
  | @b i b o l as vs xs e1 e2 e3 e4 e5 A ih =>
    intro os B
    obtain ⟨l', ws, o', os', e, rfl, ho, B⟩ := B
    cases e
    obtain ⟨h0, h1, h2⟩ := ih B
    have hi : (putA as os' s)[i]? = some (some (.ow b o)) := by rw [h1 i e5]; exact e1
    have hp : putA (.b i :: as) (o' :: os') s = (putA as os' s).set i (some (.ow b o')) := by
      show setO i o' (putA as os' s) = _
      unfold setO
      rw [hi]
    rw [hp]
    refine ⟨by rw [List.length_set]; exact h0, fun k hk => ?_, fun k x hk hx => ?_⟩
    · have hk' : (k == i) = false ∧ as.any (Ar.isB k) = false := by
        rw [List.any_cons, Bool.or_eq_false_iff] at hk
        exact hk
      have hne : i ≠ k := fun z => by rw [z] at hk'; simp at hk'
      rw [List.getElem?_set_ne hne]
      exact h1 k hk'.2
    · by_cases hik : i = k
      · subst hik
        rw [List.getElem?_set] at hx
        rw [if_pos rfl] at hx
        split at hx
        · cases hx
          exact ⟨_, b, o', rfl, e2, e3, ho⟩
        · cases hx
      · rw [List.getElem?_set_ne hik] at hx
        have hk' : as.any (Ar.isB k) = true := by
          rw [List.any_cons, Bool.or_eq_true] at hk
          rcases hk with hk | hk
          · exact absurd (beq_iff_eq.mp hk).symm hik
          · exact hk
        exact h2 k x hk' hx
end
theorem lsp_call {ps : Psp} {F H : Hp} {ω : Om} {s : Sl} {σ : L2.St} {as : List Ar} {vs : List V} {xs : List S} {Q : VK} {E : XK} {q : S → Sl → Prop} (T : Sta K F H ω s σ) (r : ArR K F σ as vs) (g : getA as s = some xs) (hn : xs.length = ps.n) (h : ps.run xs fun x os => q x (putA as os s))
    (k : ∀ v F' H' ω' x s', Stp F H ω F' H' ω' → Sta K F' H' ω' s' σ → Rt K H F' H' ω' x v → q x s' → Q v H') : Lsp K ps vs H Q E := by
  have A := arOk T r g
  have hcn : ∀ b, ω b = none → omC as vs 0 b = none := fun b hb => by
    cases e : omC as vs 0 b with
    | none => rfl
    | some p =>
      obtain ⟨⟨i, c, h1, _⟩, _⟩ := omC_in A e
      rw [hb] at h1
      cases h1
  refine ⟨F, omC as vs 0, xs, _, staC T A, (arOk_len A).2, fun a b j h1 h2 => omC_uniq A h1 h2, fun b j c h => (omC_in A h).2.1, hn, h, fun v F' H' ω' x os p' fs' fo' B R hq => ?_⟩
  obtain ⟨h0, h1, h2⟩ := putA_at A B
  have hF' : ∀ b p, ω b = some p → F' b = none := fun b p hb => by
    obtain ⟨q1, u, q2⟩ := T.ow b p hb
    cases e : omC as vs 0 b with
    | none => exact p'.fn b u e q2 q1
    | some w =>
      obtain ⟨j, c⟩ := w
      have hc : c = true := (omC_in A e).2.1
      subst hc
      exact fo' b _ ((p'.bk b j).mpr e)
  have hH' : ∀ b p, ω b = some p → ∃ u, H' b = some u := fun b p hb => by
    obtain ⟨_, u, q2⟩ := T.ow b p hb
    cases e : H' b with
    | some u => exact ⟨u, rfl⟩
    | none =>
      rw [p'.tr b e] at q2
      cases q2
  refine k v F' H' ω x _ ⟨p'.sf, fun b o q1 q2 => p'.fr b o (hcn b q1) q2, fun _ _ z _ => z, fun b o q1 q2 q3 => p'.fn b o (hcn b q1) q2 q3, p'.tr, fun _ _ => Iff.rfl⟩
    ⟨fs', fun b p hb => ⟨hF' b p hb, hH' b p hb⟩, fun i y hy => ?_, by rw [h0]; exact T.len⟩ ?_ hq
  · cases hb : as.any (Ar.isB i) with
    | true =>
      obtain ⟨l, b, o, rfl, q1, q2, q3⟩ := h2 i y hb hy
      exact ⟨_, q1, l, rfl, q2, q3⟩
    | false =>
      rw [h1 i hb] at hy
      obtain ⟨v, hv, r⟩ := T.at' i y hy
      refine ⟨v, hv, ?_⟩
      cases y with
      | fr d => exact Rp.mono p'.sf r
      | ow b o =>
        obtain ⟨l, rfl, q1, q2⟩ := r
        refine ⟨l, rfl, q1, (q2.mono p'.sf).heap fun u hu => p'.fr l u ?_ hu⟩
        cases e : omC as vs 0 l with
        | none => rfl
        | some w =>
          obtain ⟨⟨i', c, q3, q4⟩, _⟩ := omC_in A e
          rw [q1] at q3
          cases q3
          rw [hb] at q4
          cases q4
  · cases x with
    | fr d => exact R
    | ow b o =>
      obtain ⟨l, e, z0, z1, z2, z3⟩ := R
      exact ⟨l, e, z0, T.free z0, z2, z3⟩
instance {ps : Psp} {E : XK} {t : TA} {pa : PR1} [LiftR K t pa] : LiftE K (tCall (Lsp K ps) [] E t) (pCall ps pa) := ⟨fun {F H ω s σ Q} q T h k => by
  refine LiftR.run (K := K) (t := t) (p := pa) _ T h fun vs F1 H1 ω1 as s1 p1 T1 r1 h1 => ?_
  split at h1
  · rename_i xs e
    rw [List.append_nil]
    split at h1
    rotate_left
    · exact h1.elim
    rename_i hn
    exact lsp_call T1 r1 e hn h1 fun v F2 H2 ω2 x s2 p2 T2 r2 hq => k v F2 H2 ω2 x s2 (p1.trans p2) T2 (r2.early p1.tr) hq
  · exact h1.elim⟩
/-! a def's body -/
def fin (xs : List S) (q : S → List O → Prop) (x : S) (s : Sl) : Prop := match bors xs s with
  | some os => q x os
  | none => False
theorem bors_at {F H : Hp} {ω ω0 : Om} : ∀ {xs : List S} {vs : List V} {s : Sl} {σ : L2.St} {os : List O} {n : Nat}, bors xs s = some os →
    (∀ i x, xs[i]? = some x → ∃ v, vs[i]? = some v ∧ ∀ b o, x = .ow b o → ∃ l, v = .ref l ∧ ω0 l = some (n + i, true)) → xs.length = vs.length →
    (∀ i x, s[i]? = some (some x) → ∃ v, σ[i]? = some (some v) ∧ OwnAt K F H ω (n + i) x v) → (∀ b j, ω b = some (j, true) → ω0 b = some (j, true)) → (∀ a b j, ω0 a = some (j, true) → ω0 b = some (j, true) → a = b) → BosR K F H xs vs os
  | [], _, _, _, _, _, e, _, _, _, _, _ => by cases e; exact rfl
  | .fr d :: xs, [], _, _, _, _, e, _, hl, _, _, _ => by simp at hl
  | .fr d :: xs, v :: vs, [], σ, os, n, e, _, _, _, _, _ => by cases e
  | .fr d :: xs, v :: vs, y :: s, [], os, n, e, hv, hl, ha, h1, h2 => by
    refine ⟨v, vs, rfl, bors_at (n := n + 1) (σ := []) e (fun i x h => ?_) (by simpa using hl) (fun i x h => ?_) h1 h2⟩
    · obtain ⟨w, q1, q2⟩ := hv (i + 1) x h
      exact ⟨w, q1, fun b o z => by rw [show n + 1 + i = n + (i + 1) by omega]; exact q2 b o z⟩
    · obtain ⟨w, q1, q2⟩ := ha (i + 1) x h
      cases q1
  | .fr d :: xs, v :: vs, y :: s, z :: σ, os, n, e, hv, hl, ha, h1, h2 => by
    refine ⟨v, vs, rfl, bors_at (n := n + 1) (σ := σ) e (fun i x h => ?_) (by simpa using hl) (fun i x h => ?_) h1 h2⟩
    · obtain ⟨w, q1, q2⟩ := hv (i + 1) x h
      exact ⟨w, q1, fun b o z => by rw [show n + 1 + i = n + (i + 1) by omega]; exact q2 b o z⟩
    · obtain ⟨w, q1, q2⟩ := ha (i + 1) x h
      exact ⟨w, q1, by rw [show n + 1 + i = n + (i + 1) by omega]; exact q2⟩
  | .ow c o :: xs, vs, s, σ, os, n, e, hv, hl, ha, h1, h2 => by
    cases s with
    | nil => cases e
    | cons y s =>
      cases y with
      | none => cases e
      | some y =>
        cases y with
        | fr _ => cases e
        | ow c' o' =>
          cases c' with
          | false => cases e
          | true =>
            have e' : (bors xs s).map (o' :: ·) = some os := e
            cases eb : bors xs s with
            | none => rw [eb] at e'; cases e'
            | some os' =>
              rw [eb] at e'
              cases e'
              obtain ⟨v0, q1, q2⟩ := hv 0 _ rfl
              obtain ⟨l, rfl, q3⟩ := q2 c o rfl
              obtain ⟨v1, q4, l', rfl, q5, q6⟩ := ha 0 _ rfl
              have : l' = l := h2 l' l _ (h1 l' _ q5) q3
              subst this
              cases vs with
              | nil => cases q1
              | cons w vs =>
                cases q1
                cases σ with
                | nil => cases q4
                | cons z σ =>
                  refine ⟨l', vs, o', os', rfl, rfl, q6, bors_at (n := n + 1) (σ := σ) eb (fun i x h => ?_) (by simpa using hl) (fun i x h => ?_) h1 h2⟩
                  · obtain ⟨w, q1, q2⟩ := hv (i + 1) x h
                    exact ⟨w, q1, fun b o z => by rw [show n + 1 + i = n + (i + 1) by omega]; exact q2 b o z⟩
                  · obtain ⟨w, q1, q2⟩ := ha (i + 1) x h
                    exact ⟨w, q1, by rw [show n + 1 + i = n + (i + 1) by omega]; exact q2⟩
theorem lsp_len {ps : Psp} {vs : List V} {H : Hp} {Q : VK} {E : XK} (h : Lsp K ps vs H Q E) : vs.length = ps.n := by
  obtain ⟨F, ω, xs, q, T, hle, hu, hc, hn, hq, k⟩ := h
  rw [← hn]
  simpa using T.len.symm
/-- the slots at the start: the arguments, the other names unknown -/
def startS (n : Nat) (xs : List S) : Sl := xs.map some ++ List.replicate (n - xs.length) none
theorem lsp_body {ps : Psp} {N : List Str} {vs : List V} {H : Hp} {Q : VK} {E : XK} {t : TS} {p : PS1} (h : Lsp K ps vs H Q E) [LiftS K t p] (hN' : ps.n ≤ N.length)
    (hp : ∀ xs q, xs.length = ps.n → ps.run xs q → p { nx := fin xs q (.fr .non), rt := fin xs q } (startS N.length xs)) : t { nx := fun _ H' => Q .non H', rt := Q } (L2.start N vs) H := by
  obtain ⟨F, ω, xs, q, T, hle, hu, hc, hn, hq, k⟩ := h
  have hlen : xs.length = vs.length := by simpa using T.len
  have hN : vs.length ≤ N.length := by omega
  have T1 : Sta K F H ω (startS N.length xs) (L2.start N vs) := by
    refine ⟨T.sf, T.ow, fun i x h => ?_, by unfold startS L2.start; simp [hlen]⟩
    unfold startS at h
    unfold L2.start
    by_cases hi : i < xs.length
    · rw [List.getElem?_append_left (by simpa using hi)] at h
      rw [List.getElem?_append_left (by rw [List.length_map]; omega)]
      exact T.at' i x h
    · rw [List.getElem?_append_right (by simpa using Nat.not_lt.mp hi)] at h
      rw [List.getElem?_replicate] at h
      split at h
      · cases h
      · cases h
  have hat : ∀ i x, xs[i]? = some x → ∃ v, vs[i]? = some v ∧ ∀ b o, x = .ow b o → ∃ l, v = .ref l ∧ ω l = some (0 + i, true) := by
    intro i x h
    obtain ⟨v, hv, r⟩ := T.at' i x (by rw [List.getElem?_map, h]; rfl)
    rw [List.getElem?_map] at hv
    cases e : vs[i]? with
    | none => rw [e] at hv; cases hv
    | some w =>
      rw [e] at hv
      cases hv
      refine ⟨v, rfl, fun b o z => ?_⟩
      subst z
      obtain ⟨l, rfl, q1, _⟩ := r
      have : b = true := hc l i b q1
      subst this
      exact ⟨l, rfl, by rw [Nat.zero_add]; exact q1⟩
  have hend : ∀ {v σ' F' H' ω' x s'}, Stp F H ω F' H' ω' → Sta K F' H' ω' s' σ' → Rt K H F' H' ω' x v → fin xs q x s' → Q v H' := by
    intro v σ' F' H' ω' x s' p' T' r h
    unfold fin at h
    split at h
    · rename_i os e
      refine k v F' H' ω' x os p' T'.sf (fun b p hb => (T'.ow b p hb).1) ?_ r h
      exact bors_at (ω0 := ω) (n := 0) e hat hlen (fun i x h => by rw [Nat.zero_add]; exact T'.at' i x h) (fun b j hb => (p'.bk b j).mp hb) hu
    · exact h.elim
  exact LiftS.run (K := K) (t := t) (p := p) (H0 := H) _ T1 (hp xs q hn hq) ⟨fun {σ' F' H' ω' s'} p' T' h => hend p' T' (x := .fr .non) rfl h, fun {v σ' F' H' ω' x s'} p' T' r h => hend p' T' r h, fun _ _ h => h.elim, fun _ _ h => h.elim, fun _ h => h, fun b j h => by
    cases hc b j false h⟩
end
/-! ### the written part's name in a reading -/
theorem cxK {CX : CXT} {P : Program} {w : World} {K : PySem.W.Frag} {mg : Str → Option Value} {base : Heap} {N : List Str} {qual : Str} {scope : Scope} {f : Addr} {cd : Value} {A : Around} {outer : List Env} {s : Shared} {H : Hp} {E : XK} :
    (cxOf CX P w K mg base N qual scope f cd A outer s H E).K = K := rfl
theorem blkK {X : Cx} {s : Shared} {H : Hp} {scope : Scope} {cenv : Env} {fp : List Addr} : (X.blk s H scope cenv fp).K = X.K := rfl
theorem noxK {X : Cx} : X.nox.K = X.K := rfl
theorem wishK {X : Cx} {E : Value → Shared → Prop} : (X.wish E).K = X.K := rfl
section
variable {K : PySem.W.Frag}
def gGcd : List D → (S → Prop) → Prop := fun ds q => match ds with
  | [.int i, .int j] => q (.fr (.int (Int.gcd i j : Nat)))
  | _ => False
instance : CaL K rGcd gGcd := ⟨fun {F H vs ds Q} q hs r h k => by
  unfold gGcd at h
  split at h
  · obtain ⟨v, w, rfl, h1, h2⟩ := r.two
    cases (show v = _ from h1)
    cases (show w = _ from h2)
    exact ⟨_, _, rfl, k _ F H (.fr (.int _)) (Ext.refl hs) rfl h⟩
  · exact h.elim⟩
def gSortedI : List D → (S → Prop) → Prop := fun ds q => match ds with
  | [.lst xs] => ∃ ns : List Int, xs = ns.map D.int ∧ ∀ ms : List Int, ms.Perm ns → ms.Pairwise (· ≤ ·) → q (.ow false (.lst (ms.map .int)))
  | _ => False
instance : CaL K (rSortedI K) gSortedI := ⟨fun {F H vs ds Q} q hs r h k => by
  unfold gSortedI at h
  split at h
  · obtain ⟨ns, rfl, hq⟩ := h
    obtain ⟨v, rfl, a, ws, rfl, h1, h2⟩ := r.one
    cases RpA.intsV h2
    exact ⟨a, ns, rfl, SqL.of (hs _ _ h1), fun ms p h3 h4 hp => Ext.lst hs RpA.ints (hq ms h3 h4) k hp⟩
  · exact h.elim⟩
/-- the law's promise -/
def psp_law : Psp := ⟨1, fun xs q => ∃ ns : List Int, xs = [.fr (.scr ns)] ∧ ns.length ≤ 63 ∧ q (.fr (.bl true)) []⟩
def sp_law (K : PySem.W.Frag) : Sp := fun vs H Q _ => ∃ (a : Addr) (ns : List Int), vs = [.ref a] ∧ SqL K H a (ns.map V.int) ∧ ns.length ≤ 63 ∧ ∀ H', Q (.bl true) H'
theorem law_imp : ∀ vs H Q E, sp_law K vs H Q E → Lsp K psp_law vs H Q E := by
  rintro vs H Q E ⟨a, ns, rfl, h, hl, q⟩
  have hF : Same (fun b => if b = a then H a else none) H := fun b o e => by
    have e' : (if b = a then H a else none) = some o := e
    split at e'
    · rename_i hb
      rw [hb]
      exact e'
    · cases e'
  have hS : SqL K (fun b => if b = a then H a else none) a (ns.map V.int) := by
    rcases h with (h | ⟨o, h⟩) | h
    · exact .inl (.inl (by show (if a = a then H a else none) = _; rw [if_pos rfl]; exact h))
    · exact .inl (.inr ⟨o, by show (if a = a then H a else none) = _; rw [if_pos rfl]; exact h⟩)
    · exact .inr h
  have T : Sta K (fun b => if b = a then H a else none) H (fun _ => none) ([S.fr (.scr ns)].map some) ([V.ref a].map some) := by
    refine ⟨hF, fun _ _ h => (by cases h), fun i x h => ?_, rfl⟩
    cases i with
    | zero =>
      cases h
      exact ⟨_, rfl, a, rfl, hS⟩
    | succ i => simp at h
  refine ⟨_, _, [.fr (.scr ns)], fun x _ => x = .fr (.bl true), T, trivial, fun _ _ _ h => (by cases h), fun _ _ _ h => (by cases h), rfl, ⟨ns, rfl, hl, rfl⟩, fun v F' H' ω' x os _ _ _ _ r hx => ?_⟩
  subst hx
  cases (show v = _ from r)
  exact q H'
end
/-! ### helpers for answering -/
theorem take_snocD {es : List D} {i : Nat} {e : D} (h : es[i]? = some e) : es.take i ++ [e] = es.take (i + 1) := by
  rw [List.take_add_one, h]
  rfl
/-- a comprehension without tests, element by element; the slots stay -/
theorem pLc_map {pi : PI1} {pg : PG1} {ss : List Nat} {pe : PD} {vs : List Nat} {s : Sl} {q : S → Sl → Prop} (ds es : List D) (s1 S0 : Sl) (h1 : ∀ k : List D → Sl → Prop, k ds s1 → pi s k) (hl : ds.length ≤ 100000) (he : es.length = ds.length) (hs : ∀ i d, ds[i]? = some d → pg d S0 fun s3 => pe s3 fun e s5 => es.take i ++ [e] = es.take (i + 1) ∧ wipeS s5 vs = S0)
    (hq : q (.ow false (.lst es)) S0) (hss : ss.all vs.contains = true := by rfl) (h0 : wipeS s1 vs = S0 := by rfl) : pLc pi pg ss (fun s y _ => y s) pe vs s q := by
  refine h1 _ ?_
  show (if ss.all vs.contains = true then _ else False)
  rw [if_pos hss]
  refine ⟨hl, fun i acc s => acc = es.take i ∧ s = S0, ⟨rfl, h0⟩, ?_, ?_⟩
  · rintro i d acc s2 hd ⟨rfl, rfl⟩
    exact hs i d hd
  · rintro acc s2 ⟨rfl, rfl⟩
    rw [← he, List.take_length]
    exact hq
theorem map_at {α : Type} {f : α → D} {xs : List α} {i : Nat} {d : D} (h : (xs.map f)[i]? = some d) : ∃ x, xs[i]? = some x ∧ d = f x := by
  rw [List.getElem?_map] at h
  cases e : xs[i]? with
  | none => rw [e] at h; cases h
  | some x => rw [e] at h; exact ⟨x, rfl, (Option.some.inj h).symm⟩
theorem at_map {α : Type} {f : α → D} {xs : List α} {i : Nat} {x : α} (h : xs[i]? = some x) : (xs.map f)[i]? = some (f x) := by
  rw [List.getElem?_map, h]
  rfl
theorem lt_of_at {α : Type} {xs : List α} {i : Nat} {x : α} (h : xs[i]? = some x) : i < xs.length := (List.getElem?_eq_some_iff.mp h).1
theorem take_snocM {α β : Type} {f : α → β} {xs : List α} {i : Nat} {x : α} (h : xs[i]? = some x) : (xs.map f).take i ++ [f x] = (xs.map f).take (i + 1) := by
  rw [List.take_add_one, List.getElem?_map, h]
  rfl
theorem D.lst_inj {a b : List D} (h : D.lst a = D.lst b) : a = b := by injection h
theorem map_inj {α : Type} {f : α → D} (hf : ∀ a b, f a = f b → a = b) : ∀ {xs ys : List α}, xs.map f = ys.map f → xs = ys
  | [], [], _ => rfl
  | [], _ :: _, h => by cases h
  | _ :: _, [], h => by cases h
  | x :: xs, y :: ys, h => by
    rw [List.map_cons, List.map_cons, List.cons.injEq] at h
    rw [hf x y h.1, map_inj hf h.2]
theorem int_inj {a b : Int} (h : D.int a = D.int b) : a = b := by injection h
theorem all_pl {α : Type} {f : α → D} {n : Nat} (h : ∀ x, D.plN n (f x) = true) (xs : List α) : D.plN (n + 1) (.lst (xs.map f)) = true := by
  show (xs.map f).all (D.plN n) = true
  rw [List.all_eq_true]
  intro d hd
  obtain ⟨x, _, rfl⟩ := List.mem_map.mp hd
  exact h x
theorem atI_get {ds : List D} {i : Int} {d : D} (h0 : 0 ≤ i) (h : ds[i.toNat]? = some d) : atI ds i = some d := by
  have hl := lt_of_at h
  unfold atI ixN
  rw [if_pos h0, if_pos (by omega)]
  exact h
theorem nf {b : Bool} (h : not b = false) : b = true := by cases b <;> first | rfl | cases h
theorem nt {b : Bool} (h : not b = true) : b = false := by cases b <;> first | rfl | cases h

/-! ### fractions by data -/
def dF (r : Rat) : D := .tup [.int r.num, .int (r.den : Int)]
def dFs (rs : List Rat) : D := .lst (rs.map dF)
theorem dF_inj {a b : Rat} (h : dF a = dF b) : a = b := by
  unfold dF at h
  injection h with h
  injection h with h1 h
  injection h1 with h1
  injection h with h2 h
  injection h2 with h2
  exact rat_eq h1 h2
abbrev LIM : Nat := 980
section
variable {X : Cx}
/-- // by any divisor of moderate size -/
theorem op_fdivZ : OpR X (binaryOp .FloorDiv) (rI (fun _ j => j ≠ 0 ∧ j.natAbs < 2 ^ 8000) fun i j => .int (i.fdiv j)) :=
  opI fun i j _ _ _ _ _ hc q => floordiv_int hc.1 q
    (.inl (PyProof.noPylong_of_log2 (Nat.lt_of_lt_of_le (log2_lt' (by decide) hc.2) (by decide))))
end
theorem mulOk {i j : Int} {m n : Nat} (hi : i.natAbs < 2 ^ m) (hj : j.natAbs < 2 ^ n) (h : m + n ≤ 100000) (hm : 0 < m) (hn : 0 < n) : CMulW i j := wide_mul hi hj hm hn (by omega)
theorem mulFF {a b : Rat} (ha : Sz LIM a) (hb : Sz LIM b) : CMulW a.num (b.den : Int) := mulOk ha.1 hb.d (by decide) (by decide) (by decide)
theorem mulNN {a b : Rat} (ha : Sz LIM a) (hb : Sz LIM b) : CMulW a.num b.num := mulOk ha.1 hb.1 (by decide) (by decide) (by decide)
theorem mulDD {a b : Rat} (ha : Sz LIM a) (hb : Sz LIM b) : CMulW (a.den : Int) (b.den : Int) := mulOk ha.d hb.d (by decide) (by decide) (by decide)
theorem mulDN {a b : Rat} (ha : Sz LIM a) (hb : Sz LIM b) : CMulW (a.den : Int) b.num := mulOk ha.d hb.1 (by decide) (by decide) (by decide)
theorem less_is {a b : Rat} : decide (a.num * (b.den : Int) < b.num * (a.den : Int)) = decide (a < b) := by
  by_cases h : a < b
  · rw [decide_eq_true h, decide_eq_true ((Rat.lt_iff a b).mp h)]
  · rw [decide_eq_false h, decide_eq_false fun z => h ((Rat.lt_iff a b).mpr z)]
def LowQ (q : Int) : Prop := 0 < q
theorem LowQ.dd (a b : Rat) : LowQ ((a.den : Int) * b.den) := by
  have h1 := a.den_pos
  have h2 := b.den_pos
  show 0 < (a.den : Int) * b.den
  exact Int.mul_pos (by omega) (by omega)

def psp_two (f : Rat → Rat → Rat) (ok : Rat → Rat → Prop) : Psp := ⟨2, fun xs q => ∃ a b : Rat, xs = [.fr (dF a), .fr (dF b)] ∧ (Sz LIM a ∧ Sz LIM b ∧ ok a b) ∧ q (.fr (dF (f a b))) []⟩
def psp_less : Psp := ⟨2, fun xs q => ∃ a b : Rat, xs = [.fr (dF a), .fr (dF b)] ∧ (Sz LIM a ∧ Sz LIM b) ∧ q (.fr (.bl (decide (a < b)))) []⟩
def psp_low (C : Int → Prop) : Psp := ⟨2, fun xs q => ∃ n d : Int, xs = [.fr (.int n), .fr (.int d)] ∧ (C d ∧ n.natAbs < 2 ^ 1990 ∧ d.natAbs < 2 ^ 1990) ∧ q (.fr (dF (Rat.divInt n d))) []⟩
abbrev sp_lowest (K : PySem.W.Frag) : Sp := Lsp K (psp_low (· ≠ 0))
abbrev sp_plus (K : PySem.W.Frag) : Sp := Lsp K (psp_two (· + ·) fun _ _ => True)
abbrev sp_minus (K : PySem.W.Frag) : Sp := Lsp K (psp_two (· - ·) fun _ _ => True)
abbrev sp_times (K : PySem.W.Frag) : Sp := Lsp K (psp_two (· * ·) fun _ _ => True)
abbrev sp_over (K : PySem.W.Frag) : Sp := Lsp K (psp_two (· / ·) fun _ b => b ≠ 0)
abbrev sp_less (K : PySem.W.Frag) : Sp := Lsp K psp_less
abbrev sp__law_low (K : PySem.W.Frag) : Sp := Lsp K (psp_low LowQ)
abbrev sp__law_plus (K : PySem.W.Frag) : Sp := Lsp K (psp_two (· + ·) fun _ _ => True)
abbrev sp__law_minus (K : PySem.W.Frag) : Sp := Lsp K (psp_two (· - ·) fun _ _ => True)
abbrev sp__law_times (K : PySem.W.Frag) : Sp := Lsp K (psp_two (· * ·) fun _ _ => True)
abbrev sp__law_less (K : PySem.W.Frag) : Sp := Lsp K psp_less
/-! ### sums -/
def rsum (rs : List Rat) : Rat := rs.foldl (· + ·) 0
theorem rsum_take {rs : List Rat} {i : Nat} {r : Rat} (h : rs[i]? = some r) : rsum (rs.take (i + 1)) = rsum (rs.take i) + r := by
  unfold rsum
  rw [List.take_add_one, h, Option.toList_some, List.foldl_append]
  rfl
theorem sz_rsum {m : Nat} {rs : List Rat} (h : ∀ r ∈ rs, Sz m r) : ∀ i, i ≤ rs.length → Sz (i * (m + 1) + 1) (rsum (rs.take i))
  | 0, _ => by
    rw [List.take_zero]
    exact sz_zero.mono (by omega)
  | i + 1, hi => by
    have hlt : i < rs.length := hi
    have e : rs[i]? = some rs[i] := List.getElem?_eq_getElem hlt
    rw [rsum_take e]
    have := (sz_rsum h i (by omega)).add (h _ (List.getElem_mem hlt))
    refine this.mono ?_
    rw [Nat.add_mul]
    omega
theorem sz_rsumA {m n : Nat} {rs : List Rat} (h : ∀ r ∈ rs, Sz m r) (hn : rs.length * (m + 1) + 1 ≤ n) : Sz n (rsum rs) := by
  have := sz_rsum h rs.length (Nat.le_refl _)
  rw [List.take_length] at this
  exact this.mono hn
theorem foldl_add (rs : List Rat) (a : Rat) : rs.foldl (· + ·) a = a + rs.foldl (· + ·) 0 := by
  induction rs generalizing a with
  | nil => show a = a + 0; grind
  | cons r rs ih =>
    rw [List.foldl_cons, List.foldl_cons, ih (a + r), ih (0 + r)]
    grind
theorem rsum_cons (r : Rat) (rs : List Rat) : rsum (r :: rs) = r + rsum rs := by
  unfold rsum
  rw [List.foldl_cons, foldl_add]
  grind
theorem rsum_nil : rsum [] = 0 := rfl
theorem rsum_perm {a b : List Rat} (h : a.Perm b) : rsum a = rsum b := by
  induction h with
  | nil => rfl
  | cons x _ ih => rw [rsum_cons, rsum_cons, ih]
  | swap x y l => simp only [rsum_cons]; grind
  | trans _ _ h1 h2 => rw [h1, h2]
theorem rsum_app (a b : List Rat) : rsum (a ++ b) = rsum a + rsum b := by
  induction a with
  | nil => rw [List.nil_append, rsum_nil]; grind
  | cons x a ih => rw [List.cons_append, rsum_cons, rsum_cons, ih]; grind
theorem rsum_mul (c : Rat) (a : List Rat) : rsum (a.map (c * ·)) = c * rsum a := by
  induction a with
  | nil => rw [List.map_nil, rsum_nil]; grind
  | cons x a ih => rw [List.map_cons, rsum_cons, rsum_cons, ih]; grind
theorem rsum_le {α : Type} {f g : α → Rat} {a : List α} (h : ∀ x ∈ a, f x ≤ g x) : rsum (a.map f) ≤ rsum (a.map g) := by
  induction a with
  | nil => exact Rat.le_refl
  | cons x a ih =>
    rw [List.map_cons, List.map_cons, rsum_cons, rsum_cons]
    have h1 := h x List.mem_cons_self
    have h2 := ih fun y hy => h y (List.mem_cons_of_mem _ hy)
    grind
theorem sq_nn (a : Rat) : 0 ≤ a * a := by
  rcases (Rat.le_total : 0 ≤ a ∨ a ≤ 0) with h | h
  · exact Rat.mul_nonneg h h
  · have : 0 ≤ -a := by grind
    have := Rat.mul_nonneg this this
    grind
def psp_sum_of : Psp := ⟨1, fun xs q => ∃ (rs : List Rat) (m : Nat), xs = [.fr (dFs rs)] ∧ ((∀ r ∈ rs, Sz m r) ∧ rs.length * (m + 1) + 1 ≤ LIM ∧ m ≤ LIM) ∧ q (.fr (dF (rsum rs))) []⟩
abbrev sp_sum_of (K : PySem.W.Frag) : Sp := Lsp K psp_sum_of
theorem sz_int {n : Nat} {w : Int} (h : w.natAbs < 2 ^ n) (hn : 0 < n) : Sz n (w : Rat) := by
  refine ⟨h, ?_⟩
  show 1 < 2 ^ n
  exact Nat.one_lt_two_pow (by omega)
theorem plN_int (n : Nat) (i : Int) : D.plN n (.int i) = true := by cases n <;> rfl
theorem pl_dF (n : Nat) (r : Rat) : D.plN (n + 1) (dF r) = true := by
  show (D.plN n (.int r.num) && (D.plN n (.int (r.den : Int)) && true)) = true
  rw [plN_int, plN_int]
  rfl
theorem pl_dFs (n : Nat) (rs : List Rat) : D.plN (n + 2) (dFs rs) = true := all_pl (pl_dF n) rs
theorem mulS {i j : Int} (hi : i.natAbs < 2 ^ 64) (hj : j.natAbs < 2 ^ 64) : CMulW i j := mulOk hi hj (by decide) (by decide) (by decide)
theorem fmodS (x : Int) {m : Int} (h : 0 < m) : 0 ≤ x.fmod m ∧ x.fmod m < m := ⟨Int.fmod_nonneg_of_pos x h, Int.fmod_lt_of_pos x h⟩

structure Txt (K : PySem.W.Frag) (mg : Str → Option Value) where
  a_SamphireError : Addr
  g_SamphireError : mg "SamphireError" = some (.ref a_SamphireError)
  kp_SamphireError : PySem.W.keepIn K (.ref a_SamphireError) = true
  sb_SamphireError : PySem.W.subIn K (.ref a_SamphireError) (.type "BaseException") = some true
  ty_SamphireError : PySem.W.typeIn K (.ref a_SamphireError) = some (.type "type")
  te_SamphireError : PySem.W.exmOne K (.ref a_SamphireError) (.ref a_SamphireError) = some true
  a_ZeroDenominator : Addr
  g_ZeroDenominator : mg "ZeroDenominator" = some (.ref a_ZeroDenominator)
  kp_ZeroDenominator : PySem.W.keepIn K (.ref a_ZeroDenominator) = true
  sb_ZeroDenominator : PySem.W.subIn K (.ref a_ZeroDenominator) (.type "BaseException") = some true
  ty_ZeroDenominator : PySem.W.typeIn K (.ref a_ZeroDenominator) = some (.type "type")
  te_ZeroDenominator : PySem.W.exmOne K (.ref a_ZeroDenominator) (.ref a_ZeroDenominator) = some true
  x_ZeroDenominator : PySem.W.excIn K a_ZeroDenominator [.type "ValueError", .type "Exception", .type "BaseException", .type "object"] "ValueError.__new__" = true
  f_lowest : Addr
  fd_lowest : FuncData
  F_lowest : Fun K "lowest" "lowest" s_lowest f_lowest fd_lowest
  b_lowest : Binds K fd_lowest ["p", "q"] []
  g_lowest : mg "lowest" = some (.ref f_lowest)
  f_plus : Addr
  fd_plus : FuncData
  F_plus : Fun K "plus" "plus" s_plus f_plus fd_plus
  b_plus : Binds K fd_plus ["a", "b"] []
  g_plus : mg "plus" = some (.ref f_plus)
  f_minus : Addr
  fd_minus : FuncData
  F_minus : Fun K "minus" "minus" s_minus f_minus fd_minus
  b_minus : Binds K fd_minus ["a", "b"] []
  g_minus : mg "minus" = some (.ref f_minus)
  f_times : Addr
  fd_times : FuncData
  F_times : Fun K "times" "times" s_times f_times fd_times
  b_times : Binds K fd_times ["a", "b"] []
  g_times : mg "times" = some (.ref f_times)
  f_over : Addr
  fd_over : FuncData
  F_over : Fun K "over" "over" s_over f_over fd_over
  b_over : Binds K fd_over ["a", "b"] []
  g_over : mg "over" = some (.ref f_over)
  f_less : Addr
  fd_less : FuncData
  F_less : Fun K "less" "less" s_less f_less fd_less
  b_less : Binds K fd_less ["a", "b"] []
  g_less : mg "less" = some (.ref f_less)
  f_sum_of : Addr
  fd_sum_of : FuncData
  F_sum_of : Fun K "sum_of" "sum_of" s_sum_of f_sum_of fd_sum_of
  b_sum_of : Binds K fd_sum_of ["fractions"] []
  g_sum_of : mg "sum_of" = some (.ref f_sum_of)
  f_spread : Addr
  fd_spread : FuncData
  F_spread : Fun K "spread" "spread" s_spread f_spread fd_spread
  b_spread : Binds K fd_spread ["weights", "chances"] []
  g_spread : mg "spread" = some (.ref f_spread)
  f_term_of : Addr
  fd_term_of : FuncData
  F_term_of : Fun K "term_of" "term_of" s_term_of f_term_of fd_term_of
  b_term_of : Binds K fd_term_of ["weight", "price"] []
  g_term_of : mg "term_of" = some (.ref f_term_of)
  f_price_bound : Addr
  fd_price_bound : FuncData
  F_price_bound : Fun K "price_bound" "price_bound" s_price_bound f_price_bound fd_price_bound
  b_price_bound : Binds K fd_price_bound ["weights", "size", "price"] []
  g_price_bound : mg "price_bound" = some (.ref f_price_bound)
  f_best_price : Addr
  fd_best_price : FuncData
  F_best_price : Fun K "best_price" "best_price" s_best_price f_best_price fd_best_price
  b_best_price : Binds K fd_best_price ["weights", "size"] []
  g_best_price : mg "best_price" = some (.ref f_best_price)
  f_best_chances : Addr
  fd_best_chances : FuncData
  F_best_chances : Fun K "best_chances" "best_chances" s_best_chances f_best_chances fd_best_chances
  b_best_chances : Binds K fd_best_chances ["weights", "size"] []
  g_best_chances : mg "best_chances" = some (.ref f_best_chances)
  f__law_mix : Addr
  fd__law_mix : FuncData
  F__law_mix : Fun K "_law_mix" "_law_mix" s__law_mix f__law_mix fd__law_mix
  b__law_mix : Binds K fd__law_mix ["_law_number", "_law_k"] []
  g__law_mix : mg "_law_mix" = some (.ref f__law_mix)
  f__law_numbers : Addr
  fd__law_numbers : FuncData
  F__law_numbers : Fun K "_law_numbers" "_law_numbers" s__law_numbers f__law_numbers fd__law_numbers
  b__law_numbers : Binds K fd__law_numbers ["_law_script", "_law_count"] []
  g__law_numbers : mg "_law_numbers" = some (.ref f__law_numbers)
  f__law_take : Addr
  fd__law_take : FuncData
  F__law_take : Fun K "_law_take" "_law_take" s__law_take f__law_take fd__law_take
  b__law_take : Binds K fd__law_take ["_law_row", "_law_bound_here"] []
  g__law_take : mg "_law_take" = some (.ref f__law_take)
  f__law_low : Addr
  fd__law_low : FuncData
  F__law_low : Fun K "_law_low" "_law_low" s__law_low f__law_low fd__law_low
  b__law_low : Binds K fd__law_low ["_law_p", "_law_q"] []
  g__law_low : mg "_law_low" = some (.ref f__law_low)
  f__law_plus : Addr
  fd__law_plus : FuncData
  F__law_plus : Fun K "_law_plus" "_law_plus" s__law_plus f__law_plus fd__law_plus
  b__law_plus : Binds K fd__law_plus ["_law_one", "_law_other"] []
  g__law_plus : mg "_law_plus" = some (.ref f__law_plus)
  f__law_times : Addr
  fd__law_times : FuncData
  F__law_times : Fun K "_law_times" "_law_times" s__law_times f__law_times fd__law_times
  b__law_times : Binds K fd__law_times ["_law_one", "_law_other"] []
  g__law_times : mg "_law_times" = some (.ref f__law_times)
  f__law_less : Addr
  fd__law_less : FuncData
  F__law_less : Fun K "_law_less" "_law_less" s__law_less f__law_less fd__law_less
  b__law_less : Binds K fd__law_less ["_law_one", "_law_other"] []
  g__law_less : mg "_law_less" = some (.ref f__law_less)
  f__law_minus : Addr
  fd__law_minus : FuncData
  F__law_minus : Fun K "_law_minus" "_law_minus" s__law_minus f__law_minus fd__law_minus
  b__law_minus : Binds K fd__law_minus ["_law_one", "_law_other"] []
  g__law_minus : mg "_law_minus" = some (.ref f__law_minus)
  f__law_bound : Addr
  fd__law_bound : FuncData
  F__law_bound : Fun K "_law_bound" "_law_bound" s__law_bound f__law_bound fd__law_bound
  b__law_bound : Binds K fd__law_bound ["_law_weights", "_law_size", "_law_price"] []
  g__law_bound : mg "_law_bound" = some (.ref f__law_bound)
  f__law_spread : Addr
  fd__law_spread : FuncData
  F__law_spread : Fun K "_law_spread" "_law_spread" s__law_spread f__law_spread fd__law_spread
  b__law_spread : Binds K fd__law_spread ["_law_weights", "_law_chances_here"] []
  g__law_spread : mg "_law_spread" = some (.ref f__law_spread)
  f__law_chances : Addr
  fd__law_chances : FuncData
  F__law_chances : Fun K "_law_chances" "_law_chances" s__law_chances f__law_chances fd__law_chances
  b__law_chances : Binds K fd__law_chances ["_law_row", "_law_many", "_law_size"] []
  g__law_chances : mg "_law_chances" = some (.ref f__law_chances)
  f__law_kept : Addr
  fd__law_kept : FuncData
  F__law_kept : Fun K "_law_kept" "_law_kept" s__law_kept f__law_kept fd__law_kept
  b__law_kept : Binds K fd__law_kept ["_law_weights", "_law_price"] []
  g__law_kept : mg "_law_kept" = some (.ref f__law_kept)
  f_law : Addr
  fd_law : FuncData
  F_law : Fun K "law" "law" s_law f_law fd_law
  b_law : Binds K fd_law ["_law_script"] []
  g_law : mg "law" = some (.ref f_law)
  a_NOTHING : Addr
  g_NOTHING : mg "NOTHING" = some (.ref a_NOTHING)
  v_NOTHING : ∀ H : Hp, SqT K H a_NOTHING [.int (0), .int (1)]
  z_abs : mg "abs" = none
  z_int : mg "int" = none
  z_len : mg "len" = none
  z_list : mg "list" = none
  z_max : mg "max" = none
  z_min : mg "min" = none
  z_range : mg "range" = none
  z_sorted : mg "sorted" = none
  z_sum : mg "sum" = none
  z_zip : mg "zip" = none
  g_gcd : mg "gcd" = some (.builtin "math.gcd")
instance {K : PySem.W.Frag} {mg : Str → Option Value} (T : Txt K mg) : ConD K (.ref T.a_NOTHING) (.tup [.int (0), .int (1)]) := ⟨fun F => ⟨_, _, rfl, T.v_NOTHING F, ⟨_, _, rfl, rfl, ⟨_, _, rfl, rfl, rfl⟩⟩⟩⟩
section
variable {P : Program} {w : World} {K : PySem.W.Frag} {mg : Str → Option Value} {base : Heap}
theorem ok_lowest (T : Txt K mg) : FnOk P w K mg base CX0 1 T.f_lowest T.fd_lowest ["p", "q"] (sp_lowest K) := by
  refine T.F_lowest.ok sc_lowest (fun vs H Q E h => lsp_len h) (fun cdv A outer s H vs Q E hr h => ⟨_, (pss_cons (ps_if (pt_cmpR op_eq (pv 1) pe_int (nomark _))
        (pss_one ps_never)
        pss_nil)
      (pss_cons (ps_set (i := 2) sc_lowest.nd rfl (Or.inl rfl) (pe_callBfun cr_gcd (by rfl) T.g_gcd (pa_cons (pv 0) (pa_cons (pv 1) pa_nil))))
      (pss_cut (ps_if (pt_cmpR op_lt (pv 1) pe_int (nomark _))
        (pss_one (ps_set (i := 2) sc_lowest.nd rfl (Or.inl rfl) (pe_un un_neg (pv 2))))
        pss_nil)
      (pss_one (ps_ret (pe_tup (pa_cons (pe_op op_fdivZ (pv 0) (pv 2)) (pa_cons (pe_op op_fdivZ (pv 1) (pv 2)) pa_nil)))))))), ?_⟩)
  try dsimp only [cxK, blkK, noxK, wishK]
  refine lsp_body (N := nm_lowest) h (by decide) fun xs q hn h => ?_
  clear hn
  obtain ⟨n, d, rfl, ⟨hd, h1, h2⟩, hq⟩ := h
  have hd2 := lowD_ne (p := n) hd
  have hd3 : (lowD n d).natAbs < 2 ^ 8000 := by
    rw [lowD_abs]
    exact pow_up (Nat.lt_of_le_of_lt (gcd_le_right hd) h2) (by decide)
  refine ⟨fun hz => absurd (of_decide_eq_true hz) hd, fun _ => ?_⟩
  refine ⟨fun s => s = [some (.fr (.int n)), some (.fr (.int d)), some (.fr (.int (lowD n d)))], ⟨fun hz => ?_, fun hz => ?_⟩, ?_⟩
  · show [_, _, some (S.fr (.int (-(Int.gcd n d : Int))))] = _
    unfold lowD
    rw [if_pos (of_decide_eq_true hz)]
  · show [_, _, some (S.fr (.int (Int.gcd n d : Int)))] = _
    unfold lowD
    rw [if_neg (of_decide_eq_false hz)]
  · rintro s' rfl
    refine ⟨⟨hd2, hd3⟩, ⟨hd2, hd3⟩, ?_⟩
    show q (.fr (.tup [.int (n.fdiv (lowD n d)), .int (d.fdiv (lowD n d))])) []
    rw [low_num hd, low_den hd]
    exact hq
theorem ok_plus (T : Txt K mg) : FnOk P w K mg base CX0 2 T.f_plus T.fd_plus ["a", "b"] (sp_plus K) := by
  refine T.F_plus.ok sc_plus (fun vs H Q E h => lsp_len h) (fun cdv A outer s H vs Q E hr h => ⟨_, (pss_one (ps_ret (pe_call (ok_lowest T) (hr.mono (by decide)) (by rfl) T.g_lowest T.F_lowest.kp T.b_lowest .nil pass0 (pa_cons (pe_op op_add (pe_op op_mulW (pe_ix ix_tup (pv 0) pe_int (fun _ _ => rfl)) (pe_ix ix_tup (pv 1) pe_int (fun _ _ => rfl))) (pe_op op_mulW (pe_ix ix_tup (pv 1) pe_int (fun _ _ => rfl)) (pe_ix ix_tup (pv 0) pe_int (fun _ _ => rfl)))) (pa_cons (pe_op op_mulW (pe_ix ix_tup (pv 0) pe_int (fun _ _ => rfl)) (pe_ix ix_tup (pv 1) pe_int (fun _ _ => rfl))) pa_nil))))), ?_⟩)
  try dsimp only [cxK, blkK, noxK, wishK]
  refine lsp_body (N := nm_plus) h (by decide) fun xs q hn h => ?_
  clear hn
  obtain ⟨a, b, rfl, ⟨ha, hb, _⟩, hq⟩ := h
  refine ⟨mulFF ha hb, mulFF hb ha, mulDD ha hb, _, _, rfl, ⟨dd_ne a b, pow_up (sz_num ha hb) (by decide), pow_up (sz_den ha hb) (by decide)⟩, ?_⟩
  rw [add_divInt]
  exact hq
theorem ok_minus (T : Txt K mg) : FnOk P w K mg base CX0 2 T.f_minus T.fd_minus ["a", "b"] (sp_minus K) := by
  refine T.F_minus.ok sc_minus (fun vs H Q E h => lsp_len h) (fun cdv A outer s H vs Q E hr h => ⟨_, (pss_one (ps_ret (pe_call (ok_lowest T) (hr.mono (by decide)) (by rfl) T.g_lowest T.F_lowest.kp T.b_lowest .nil pass0 (pa_cons (pe_op op_sub (pe_op op_mulW (pe_ix ix_tup (pv 0) pe_int (fun _ _ => rfl)) (pe_ix ix_tup (pv 1) pe_int (fun _ _ => rfl))) (pe_op op_mulW (pe_ix ix_tup (pv 1) pe_int (fun _ _ => rfl)) (pe_ix ix_tup (pv 0) pe_int (fun _ _ => rfl)))) (pa_cons (pe_op op_mulW (pe_ix ix_tup (pv 0) pe_int (fun _ _ => rfl)) (pe_ix ix_tup (pv 1) pe_int (fun _ _ => rfl))) pa_nil))))), ?_⟩)
  try dsimp only [cxK, blkK, noxK, wishK]
  refine lsp_body (N := nm_minus) h (by decide) fun xs q hn h => ?_
  clear hn
  obtain ⟨a, b, rfl, ⟨ha, hb, _⟩, hq⟩ := h
  refine ⟨mulFF ha hb, mulFF hb ha, mulDD ha hb, _, _, rfl, ⟨dd_ne a b, pow_up (sz_numS ha hb) (by decide), pow_up (sz_den ha hb) (by decide)⟩, ?_⟩
  rw [sub_divInt]
  exact hq
theorem ok_times (T : Txt K mg) : FnOk P w K mg base CX0 2 T.f_times T.fd_times ["a", "b"] (sp_times K) := by
  refine T.F_times.ok sc_times (fun vs H Q E h => lsp_len h) (fun cdv A outer s H vs Q E hr h => ⟨_, (pss_one (ps_ret (pe_call (ok_lowest T) (hr.mono (by decide)) (by rfl) T.g_lowest T.F_lowest.kp T.b_lowest .nil pass0 (pa_cons (pe_op op_mulW (pe_ix ix_tup (pv 0) pe_int (fun _ _ => rfl)) (pe_ix ix_tup (pv 1) pe_int (fun _ _ => rfl))) (pa_cons (pe_op op_mulW (pe_ix ix_tup (pv 0) pe_int (fun _ _ => rfl)) (pe_ix ix_tup (pv 1) pe_int (fun _ _ => rfl))) pa_nil))))), ?_⟩)
  try dsimp only [cxK, blkK, noxK, wishK]
  refine lsp_body (N := nm_times) h (by decide) fun xs q hn h => ?_
  clear hn
  obtain ⟨a, b, rfl, ⟨ha, hb, _⟩, hq⟩ := h
  refine ⟨mulNN ha hb, mulDD ha hb, _, _, rfl, ⟨dd_ne a b, pow_up (abs_mul_lt ha.1 hb.1) (by decide), pow_up (sz_den ha hb) (by decide)⟩, ?_⟩
  rw [mul_divInt]
  exact hq
theorem ok_over (T : Txt K mg) : FnOk P w K mg base CX0 2 T.f_over T.fd_over ["a", "b"] (sp_over K) := by
  refine T.F_over.ok sc_over (fun vs H Q E h => lsp_len h) (fun cdv A outer s H vs Q E hr h => ⟨_, (pss_one (ps_ret (pe_call (ok_lowest T) (hr.mono (by decide)) (by rfl) T.g_lowest T.F_lowest.kp T.b_lowest .nil pass0 (pa_cons (pe_op op_mulW (pe_ix ix_tup (pv 0) pe_int (fun _ _ => rfl)) (pe_ix ix_tup (pv 1) pe_int (fun _ _ => rfl))) (pa_cons (pe_op op_mulW (pe_ix ix_tup (pv 0) pe_int (fun _ _ => rfl)) (pe_ix ix_tup (pv 1) pe_int (fun _ _ => rfl))) pa_nil))))), ?_⟩)
  try dsimp only [cxK, blkK, noxK, wishK]
  refine lsp_body (N := nm_over) h (by decide) fun xs q hn h => ?_
  clear hn
  obtain ⟨a, b, rfl, ⟨ha, hb, h0⟩, hq⟩ := h
  refine ⟨mulFF ha hb, mulDN ha hb, _, _, rfl, ⟨Int.mul_ne_zero (den_ne a) (num_ne h0), pow_up (abs_mul_lt ha.1 hb.d) (by decide), pow_up (abs_mul_lt ha.d hb.1) (by decide)⟩, ?_⟩
  rw [div_divInt]
  exact hq
theorem ok_less (T : Txt K mg) : FnOk P w K mg base CX0 1 T.f_less T.fd_less ["a", "b"] (sp_less K) := by
  refine T.F_less.ok sc_less (fun vs H Q E h => lsp_len h) (fun cdv A outer s H vs Q E hr h => ⟨_, (pss_one (ps_ret (pe_cmpR op_lt (pe_op op_mulW (pe_ix ix_tup (pv 0) pe_int (fun _ _ => rfl)) (pe_ix ix_tup (pv 1) pe_int (fun _ _ => rfl))) (pe_op op_mulW (pe_ix ix_tup (pv 1) pe_int (fun _ _ => rfl)) (pe_ix ix_tup (pv 0) pe_int (fun _ _ => rfl))) (nomark _)))), ?_⟩)
  try dsimp only [cxK, blkK, noxK, wishK]
  refine lsp_body (N := nm_less) h (by decide) fun xs q hn h => ?_
  clear hn
  obtain ⟨a, b, rfl, ⟨ha, hb⟩, hq⟩ := h
  refine ⟨mulFF ha hb, mulFF hb ha, ?_⟩
  show q (.fr (.bl (decide (a.num * (b.den : Int) < b.num * (a.den : Int))))) []
  rw [less_is]
  exact hq
theorem gcd_zero_nn {a : Int} {p q : Int} (h0 : 0 ≤ a) (h : Int.gcd a 0 = Int.gcd p q) : a = (Int.gcd p q : Int) := by
  rw [Int.gcd_zero_right] at h
  omega
theorem ok__law_low (T : Txt K mg) : FnOk P w K mg base CX0 1 T.f__law_low T.fd__law_low ["_law_p", "_law_q"] (sp__law_low K) := by
  refine T.F__law_low.ok sc__law_low (fun vs H Q E h => lsp_len h) (fun cdv A outer s H vs Q E hr h => ⟨_, (pss_cons (ps_par (i := 2) (j := 3) (by rfl) sc__law_low.nd rfl rfl (by decide) rfl rfl (pa_cons (pe_callB (id := "abs") call_abs (by rfl) T.z_abs (by decide +kernel) (pa_cons (pv 0) pa_nil)) (pa_cons (pv 1) pa_nil)) (by rfl))
      (pss_cons (ps_while PassesOwn.never (pt_cmpR op_ne (pv 3) pe_int (nomark _))
        (pss_one (ps_par (i := 2) (j := 3) (by rfl) sc__law_low.nd rfl rfl (by decide) rfl rfl (pa_cons (pv 3) (pa_cons (pe_op op_modN (pe_callTy (T := "int") call_int1 (by rfl) T.z_int (by decide +kernel) (pa_cons (pv 2) pa_nil)) (pv 3)) pa_nil)) (by rfl))))
      (pss_one (ps_ret (pe_tup (pa_cons (pe_op op_fdivZ (pv 0) (pv 2)) (pa_cons (pe_op op_fdivZ (pv 1) (pv 2)) pa_nil))))))), ?_⟩)
  try dsimp only [cxK, blkK, noxK, wishK]
  refine lsp_body (N := nm__law_low) h (by decide) fun xs q hn h => ?_
  clear hn
  obtain ⟨n, d, rfl, ⟨hd, h1, h2⟩, hq⟩ := h
  have hd : 0 < d := hd
  have hd0 : d ≠ 0 := by omega
  have ap : (if n < 0 then -n else n) = (n.natAbs : Int) := by split <;> omega
  have eq : (d.natAbs : Int) = d := by omega
  have g0 : Int.gcd (n.natAbs : Int) d = Int.gcd n d := by
    unfold Int.gcd
    rw [Int.natAbs_natCast]
  have hlow : lowD n d = (Int.gcd n d : Int) := by
    unfold lowD
    rw [if_neg (by omega)]
  have hd2 := lowD_ne (p := n) hd0
  have hd3 : (lowD n d).natAbs < 2 ^ 8000 := by
    rw [lowD_abs]
    exact pow_up (Nat.lt_of_le_of_lt (gcd_le_right hd0) h2) (by decide)
  rw [hlow] at hd2 hd3
  refine ⟨fun m s => ∃ (a b : Int), s = [some (.fr (.int n)), some (.fr (.int d)), some (.fr (.int a)), some (.fr (.int b))] ∧ m = b.natAbs ∧ 0 ≤ a ∧ 0 ≤ b ∧ Int.gcd a b = Int.gcd n d, ⟨_, (if n < 0 then -n else n), d, rfl, rfl, by rw [ap]; omega, by omega, by rw [ap]; exact g0⟩, ?_⟩
  rintro m s ⟨a, b, rfl, rfl, ha, hb, hg⟩
  refine ⟨fun hz => ?_, fun hz => ?_⟩
  · have hb0 : b ≠ 0 := fun z => by rw [z] at hz; cases hz
    have hr0 : 0 ≤ a.fmod b := Int.fmod_nonneg_of_pos a (by omega)
    have hr1 : a.fmod b < b := Int.fmod_lt_of_pos a (by omega)
    exact ⟨hb0, _, by omega, b, a.fmod b, rfl, rfl, hb, hr0, by rw [euc_gcd]; exact hg⟩
  · have hb0 : b = 0 := by
      have := hz
      simpa using this
    subst hb0
    have ea := gcd_zero_nn ha hg
    subst ea
    refine ⟨⟨hd2, hd3⟩, ⟨hd2, hd3⟩, ?_⟩
    show q (.fr (.tup [.int (n.fdiv (Int.gcd n d : Int)), .int (d.fdiv (Int.gcd n d : Int))])) []
    rw [← hlow, low_num hd0, low_den hd0]
    exact hq

theorem ok__law_plus (T : Txt K mg) : FnOk P w K mg base CX0 2 T.f__law_plus T.fd__law_plus ["_law_one", "_law_other"] (sp__law_plus K) := by
  refine T.F__law_plus.ok sc__law_plus (fun vs H Q E h => lsp_len h) (fun cdv A outer s H vs Q E hr h => ⟨_, (pss_one (ps_ret (pe_call (ok__law_low T) (hr.mono (by decide)) (by rfl) T.g__law_low T.F__law_low.kp T.b__law_low .nil pass0 (pa_cons (pe_op op_add (pe_op op_mulW (pe_ix ix_tup (pv 0) pe_int (fun _ _ => rfl)) (pe_ix ix_tup (pv 1) pe_int (fun _ _ => rfl))) (pe_op op_mulW (pe_ix ix_tup (pv 1) pe_int (fun _ _ => rfl)) (pe_ix ix_tup (pv 0) pe_int (fun _ _ => rfl)))) (pa_cons (pe_op op_mulW (pe_ix ix_tup (pv 0) pe_int (fun _ _ => rfl)) (pe_ix ix_tup (pv 1) pe_int (fun _ _ => rfl))) pa_nil))))), ?_⟩)
  try dsimp only [cxK, blkK, noxK, wishK]
  refine lsp_body (N := nm__law_plus) h (by decide) fun xs q hn h => ?_
  clear hn
  obtain ⟨a, b, rfl, ⟨ha, hb, _⟩, hq⟩ := h
  refine ⟨mulFF ha hb, mulFF hb ha, mulDD ha hb, _, _, rfl, ⟨LowQ.dd a b, pow_up (sz_num ha hb) (by decide), pow_up (sz_den ha hb) (by decide)⟩, ?_⟩
  rw [add_divInt]
  exact hq
theorem ok__law_times (T : Txt K mg) : FnOk P w K mg base CX0 2 T.f__law_times T.fd__law_times ["_law_one", "_law_other"] (sp__law_times K) := by
  refine T.F__law_times.ok sc__law_times (fun vs H Q E h => lsp_len h) (fun cdv A outer s H vs Q E hr h => ⟨_, (pss_one (ps_ret (pe_call (ok__law_low T) (hr.mono (by decide)) (by rfl) T.g__law_low T.F__law_low.kp T.b__law_low .nil pass0 (pa_cons (pe_op op_mulW (pe_ix ix_tup (pv 0) pe_int (fun _ _ => rfl)) (pe_ix ix_tup (pv 1) pe_int (fun _ _ => rfl))) (pa_cons (pe_op op_mulW (pe_ix ix_tup (pv 0) pe_int (fun _ _ => rfl)) (pe_ix ix_tup (pv 1) pe_int (fun _ _ => rfl))) pa_nil))))), ?_⟩)
  try dsimp only [cxK, blkK, noxK, wishK]
  refine lsp_body (N := nm__law_times) h (by decide) fun xs q hn h => ?_
  clear hn
  obtain ⟨a, b, rfl, ⟨ha, hb, _⟩, hq⟩ := h
  refine ⟨mulNN ha hb, mulDD ha hb, _, _, rfl, ⟨LowQ.dd a b, pow_up (abs_mul_lt ha.1 hb.1) (by decide), pow_up (sz_den ha hb) (by decide)⟩, ?_⟩
  rw [mul_divInt]
  exact hq
theorem ok__law_less (T : Txt K mg) : FnOk P w K mg base CX0 1 T.f__law_less T.fd__law_less ["_law_one", "_law_other"] (sp__law_less K) := by
  refine T.F__law_less.ok sc__law_less (fun vs H Q E h => lsp_len h) (fun cdv A outer s H vs Q E hr h => ⟨_, (pss_one (ps_ret (pe_cmpR op_lt (pe_op op_mulW (pe_ix ix_tup (pv 0) pe_int (fun _ _ => rfl)) (pe_ix ix_tup (pv 1) pe_int (fun _ _ => rfl))) (pe_op op_mulW (pe_ix ix_tup (pv 1) pe_int (fun _ _ => rfl)) (pe_ix ix_tup (pv 0) pe_int (fun _ _ => rfl))) (nomark _)))), ?_⟩)
  try dsimp only [cxK, blkK, noxK, wishK]
  refine lsp_body (N := nm__law_less) h (by decide) fun xs q hn h => ?_
  clear hn
  obtain ⟨a, b, rfl, ⟨ha, hb⟩, hq⟩ := h
  refine ⟨mulFF ha hb, mulFF hb ha, ?_⟩
  show q (.fr (.bl (decide (a.num * (b.den : Int) < b.num * (a.den : Int))))) []
  rw [less_is]
  exact hq
theorem ok_sum_of (T : Txt K mg) : FnOk P w K mg base CX0 3 T.f_sum_of T.fd_sum_of ["fractions"] (sp_sum_of K) := by
  refine T.F_sum_of.ok sc_sum_of (fun vs H Q E h => lsp_len h) (fun cdv A outer s H vs Q E hr h => ⟨_, (pss_cons (ps_set (i := 1) sc_sum_of.nd rfl (Or.inl rfl) (pe_glob (v := .ref T.a_NOTHING) (by rfl) T.g_NOTHING rfl))
      (pss_cons (ps_for PassesOwn.never rfl (pi_list (pv 0)) (pg_name (i := 2) sc_sum_of.nd rfl (Or.inl rfl))
        (pss_one (ps_set (i := 1) sc_sum_of.nd rfl (Or.inl rfl) (pe_call (ok_plus T) (hr.mono (by decide)) (by rfl) T.g_plus T.F_plus.kp T.b_plus .nil pass0 (pa_cons (pv 1) (pa_cons (pv 2) pa_nil))))))
      (pss_one (ps_ret (pv 1))))), ?_⟩)
  try dsimp only [cxK, blkK, noxK, wishK]
  refine lsp_body (N := nm_sum_of) h (by decide) fun xs q hn h => ?_
  clear hn
  obtain ⟨rs, m, rfl, ⟨hs, hl, hm⟩, hq⟩ := h
  refine ⟨fun i s => ∃ x2, s = [some (.fr (dFs rs)), some (.fr (dF (rsum (rs.take i)))), x2], ⟨_, rfl⟩, ?_, ?_⟩
  · rintro i d s hd ⟨x2, rfl⟩
    obtain ⟨r, hr, rfl⟩ := map_at hd
    have hi := lt_of_at hr
    refine ⟨_, _, rfl, ⟨(sz_rsum hs i (by omega)).mono ?_, (hs r (List.mem_of_getElem? hr)).mono hm, trivial⟩, some (.fr (dF r)), ?_⟩
    · have : i * (m + 1) ≤ rs.length * (m + 1) := Nat.mul_le_mul_right _ (by omega)
      omega
    · rw [rsum_take hr]
      rfl
  · rintro s ⟨x2, rfl⟩
    rw [List.length_map, List.take_length]
    exact hq

/-! ### draws: a list of ints that is lent, popped (family C) -/
def rowO (ns : List Int) : O := .lst (ns.map D.int)
def psp__law_mix : Psp := ⟨2, fun xs q => ∃ n k : Int, xs = [.fr (.int n), .fr (.int k)] ∧ k.natAbs < 2 ^ 20 ∧ ∀ z : Int, 0 ≤ z → z < 998244353 → q (.fr (.int z)) []⟩
abbrev sp__law_mix (K : PySem.W.Frag) : Sp := Lsp K psp__law_mix
def psp__law_numbers : Psp := ⟨2, fun xs q => ∃ (ns : List Int) (c : Int), xs = [.fr (.scr ns), .fr (.int c)] ∧ (ns.length ≤ 63 ∧ 0 ≤ c ∧ c ≤ 1000) ∧ ∀ ms, q (.ow false (rowO ms)) []⟩
abbrev sp__law_numbers (K : PySem.W.Frag) : Sp := Lsp K psp__law_numbers
def psp__law_take : Psp := ⟨2, fun xs q => ∃ (ns : List Int) (b : Int), xs = [.ow true (rowO ns), .fr (.int b)] ∧ 0 < b ∧ ∀ z ms, 0 ≤ z → z < b → q (.fr (.int z)) [rowO ms]⟩
abbrev sp__law_take (K : PySem.W.Frag) : Sp := Lsp K psp__law_take
theorem ints_snoc (ms : List Int) (z : Int) : ms.map D.int ++ [D.int z] = (ms ++ [z]).map D.int := by rw [List.map_append]; rfl
theorem ints_at {ns : List Int} {i : Nat} {d : D} (h : (ns.map D.int)[i]? = some d) : ∃ z, d = .int z ∧ ns[i]? = some z := by
  rw [List.getElem?_map] at h
  cases e : ns[i]? with
  | none => rw [e] at h; cases h
  | some z => rw [e] at h; exact ⟨z, (Option.some.inj h).symm, rfl⟩
theorem cutD_ints (ns : List Int) (lo hi : Option Int) : ∃ ms : List Int, cutD (ns.map D.int) lo hi = ms.map D.int ∧ ms.length ≤ ns.length := by
  unfold cutD
  rw [← List.map_drop, ← List.map_take]
  exact ⟨_, rfl, by rw [List.length_take, List.length_drop]; omega⟩
theorem rowO_snoc (ms : List Int) (z : Int) : rowO (ms ++ [z]) = .lst (ms.map D.int ++ [D.int z]) := by rw [ints_snoc]; rfl

theorem ok__law_mix (T : Txt K mg) : FnOk P w K mg base CX0 1 T.f__law_mix T.fd__law_mix ["_law_number", "_law_k"] (sp__law_mix K) := by
  refine T.F__law_mix.ok sc__law_mix (fun vs H Q E h => lsp_len h) (fun cdv A outer s H vs Q E hr h => ⟨_, (pss_one (ps_ret (pe_op op_modN (pe_op op_mulW (pe_op op_modN (pe_callTy (T := "int") call_int1 (by rfl) T.z_int (by decide +kernel) (pa_cons (pe_op op_mulW (pe_op op_add (pe_op op_add (pe_op op_modN (pe_callTy (T := "int") call_int1 (by rfl) T.z_int (by decide +kernel) (pa_cons (pv 0) pa_nil)) pe_int) (pe_op op_mulW pe_int (pv 1))) pe_int) pe_int) pa_nil)) pe_int) pe_int) pe_int))), ?_⟩)
  try dsimp only [cxK, blkK, noxK, wishK]
  refine lsp_body (N := nm__law_mix) h (by decide) fun xs q hn h => ?_
  clear hn
  obtain ⟨n, k, rfl, hk, hq⟩ := h
  have h1 := fmodS n (m := 1000003) (by decide)
  have hm : (7919 * k).natAbs < 2 ^ 40 := by
    have : (7919 * k).natAbs = 7919 * k.natAbs := Int.natAbs_mul ..
    omega
  refine ⟨(show (1000003 : Int) ≠ 0 by decide), mulS (by decide) (by omega), mulS (by omega) (by decide), (show (1000033 : Int) ≠ 0 by decide), ?_⟩
  have h2 := fmodS ((n.fmod 1000003 + 7919 * k + 1) * 48271) (m := 1000033) (by decide)
  refine ⟨mulS (by omega) (by decide), (show (998244353 : Int) ≠ 0 by decide), ?_⟩
  exact hq _ (fmodS _ (by decide)).1 (fmodS _ (by decide)).2
theorem ok__law_numbers (T : Txt K mg) : FnOk P w K mg base CX0 2 T.f__law_numbers T.fd__law_numbers ["_law_script", "_law_count"] (sp__law_numbers K) := by
  refine T.F__law_numbers.ok sc__law_numbers (fun vs H Q E h => lsp_len h) (fun cdv A outer s H vs Q E hr h => ⟨_, (pss_cons (ps_set (i := 2) sc__law_numbers.nd rfl (Or.inl rfl) (pe_lst pa_nil))
      (pss_cons (ps_set (i := 3) sc__law_numbers.nd rfl (Or.inl rfl) pe_int)
      (pss_cut (ps_for PassesOwn.never rfl (pi_list (pe_slice sl_list (pv 0) po_none (po_some pe_int))) (pg_name (i := 4) sc__law_numbers.nd rfl (Or.inl rfl))
        (pss_cons (ps_set (i := 3) sc__law_numbers.nd rfl (Or.inl rfl) (pe_op op_add (pv 3) (pv 4)))
        (pss_one (ps_if (pt_cmpR op_ge (pv 4) pe_int (nomark _))
          (pss_cons (ps_set (i := 5) sc__law_numbers.nd rfl (Or.inl rfl) (pv 4))
          (pss_one (ps_for PassesOwn.never rfl (pi_range1 (by rfl) T.z_range (pa_cons pe_int pa_nil)) (pg_name (i := 6) sc__law_numbers.nd rfl (Or.inl rfl))
            (pss_cons (ps_expr (pe_bm PySem.F.plainAttrs_list PySem.F.slot_list_append PySem.F.type_list_append mt_append (pv 2) (pa_cons (pe_op op_modN (pe_callTy (T := "int") call_int1 (by rfl) T.z_int (by decide +kernel) (pa_cons (pv 5) pa_nil)) pe_int) pa_nil)))
            (pss_cons (ps_set (i := 5) sc__law_numbers.nd rfl (Or.inl rfl) (pe_op op_fdivW (pv 5) pe_int))
            (pss_one (ps_if (pt_cmpR op_eq (pv 5) pe_int (nomark _))
              (pss_one ps_break)
              pss_nil)))))))
          (pss_one (ps_expr (pe_bm PySem.F.plainAttrs_list PySem.F.slot_list_append PySem.F.type_list_append mt_append (pv 2) (pa_cons (pe_call (ok__law_mix T) (hr.mono (by decide)) (by rfl) T.g__law_mix T.F__law_mix.kp T.b__law_mix .nil pass0 (pa_cons (pe_call (ok__law_mix T) (hr.mono (by decide)) (by rfl) T.g__law_mix T.F__law_mix.kp T.b__law_mix .nil pass0 (pa_cons (pv 4) (pa_cons pe_int pa_nil))) (pa_cons pe_int pa_nil))) pa_nil))))))))
      (pss_cons (ps_for PassesOwn.never rfl (pi_range1 (by rfl) T.z_range (pa_cons (pv 1) pa_nil)) (pg_name (i := 6) sc__law_numbers.nd rfl (Or.inl rfl))
        (pss_one (ps_expr (pe_bm PySem.F.plainAttrs_list PySem.F.slot_list_append PySem.F.type_list_append mt_append (pv 2) (pa_cons (pe_call (ok__law_mix T) (hr.mono (by decide)) (by rfl) T.g__law_mix T.F__law_mix.kp T.b__law_mix .nil pass0 (pa_cons (pe_call (ok__law_mix T) (hr.mono (by decide)) (by rfl) T.g__law_mix T.F__law_mix.kp T.b__law_mix .nil pass0 (pa_cons (pe_op op_add (pv 3) (pe_op op_mulW pe_int (pv 6))) (pa_cons (pe_op op_add pe_int (pv 6)) pa_nil))) (pa_cons pe_int pa_nil))) pa_nil)))))
      (pss_cons (ps_expr (pe_bm0 PySem.F.plainAttrs_list PySem.F.slot_list_reverse PySem.F.type_list_reverse mt_reverse (pv 2)))
      (pss_one (ps_ret (pv 2)))))))), ?_⟩)
  try dsimp only [cxK, blkK, noxK, wishK]
  refine lsp_body (N := nm__law_numbers) h (by decide) fun xs q hn h => ?_
  clear hn
  obtain ⟨ns, c, rfl, ⟨hl, c0, c1⟩, hq⟩ := h
  obtain ⟨ms, e1, e2⟩ := cutD_ints ns none (some 63)
  refine ⟨fun s => ∃ (b : Int) (x4 x5 x6 : Option S) (r : List Int), s = [some (.fr (.scr ns)), some (.fr (.int c)), some (.ow false (rowO r)), some (.fr (.int b)), x4, x5, x6] ∧ r.length ≤ 10000, ?_, ?_⟩
  · refine ⟨fun i s => ∃ (b : Int) (x4 x5 x6 : Option S) (r : List Int), s = [some (.fr (.scr ns)), some (.fr (.int c)), some (.ow false (rowO r)), some (.fr (.int b)), x4, x5, x6] ∧ r.length ≤ 60 * i, ⟨_, _, _, _, [], rfl, by decide⟩, ?_, ?_⟩
    · rintro i d s hd ⟨b, x4, x5, x6, r, rfl, hr⟩
      have hi := (List.getElem?_eq_some_iff.mp hd).1
      rw [e1] at hd hi
      rw [List.length_map] at hi
      obtain ⟨z, rfl, hz⟩ := ints_at hd
      refine ⟨fun _ => ?_, fun _ => ?_⟩
      · refine ⟨⟨by decide, by decide⟩, fun j s => ∃ (x6 : Option S) (y : Int) (r : List Int), s = [some (.fr (.scr ns)), some (.fr (.int c)), some (.ow false (rowO r)), some (.fr (.int (b + z))), some (.fr (.int z)), some (.fr (.int y)), x6] ∧ r.length ≤ 60 * i + j, ⟨_, _, _, rfl, hr⟩, ?_, ?_⟩
        · rintro j d s hd2 ⟨x6, y, r, rfl, hr⟩
          obtain ⟨hj, rfl⟩ := rngD_get hd2
          have hj : j < 60 := hj
          refine ⟨(show (840 : Int) ≠ 0 by decide), by simp; omega, ⟨by decide, by decide⟩, fun _ => ?_, fun _ => ?_⟩
          · exact ⟨b + z, _, _, _, r ++ [y.fmod 840], by rw [rowO_snoc]; rfl, by simp; omega⟩
          · exact ⟨_, _, r ++ [y.fmod 840], by rw [rowO_snoc]; rfl, by simp; omega⟩
        · rintro s ⟨x6, y, r, rfl, hr⟩
          have hr : r.length ≤ 60 * i + 60 := hr
          exact ⟨b + z, _, _, _, r, rfl, by omega⟩
      · exact ⟨z, 3, rfl, by decide, fun z1 _ _ => ⟨z1, 5, rfl, by decide, fun z2 _ _ => ⟨by simp; omega, b + z, _, _, _, r ++ [z2], by rw [rowO_snoc]; rfl, by simp; omega⟩⟩⟩
    · rintro s ⟨b, x4, x5, x6, r, rfl, hr⟩
      rw [e1, List.length_map] at hr
      exact ⟨b, _, _, _, r, rfl, by omega⟩
  · rintro s' ⟨b, x4, x5, x6, r, rfl, hr⟩
    refine ⟨⟨by omega, by omega⟩, fun i s => ∃ (x4 x5 x6 : Option S) (r : List Int), s = [some (.fr (.scr ns)), some (.fr (.int c)), some (.ow false (rowO r)), some (.fr (.int b)), x4, x5, x6] ∧ r.length ≤ 10000 + i, ⟨_, _, _, _, rfl, hr⟩, ?_, ?_⟩
    · rintro i d s hd ⟨x4, x5, x6, r, rfl, hr⟩
      obtain ⟨hi, rfl⟩ := rngD_get hd
      refine ⟨mulS (by decide) (by omega), _, _, rfl, by omega, fun z _ _ => ⟨_, _, rfl, by decide, fun z2 _ _ => ⟨by simp; omega, x4, x5, _, r ++ [z2], by rw [rowO_snoc]; rfl, by simp; omega⟩⟩⟩
    · rintro s ⟨x4, x5, x6, r, rfl, hr⟩
      have := hq r.reverse
      unfold rowO at this
      rw [List.map_reverse] at this
      exact .inl this
theorem ok__law_take (T : Txt K mg) : FnOk P w K mg base CX0 1 T.f__law_take T.fd__law_take ["_law_row", "_law_bound_here"] (sp__law_take K) := by
  refine T.F__law_take.ok sc__law_take (fun vs H Q E h => lsp_len h) (fun cdv A outer s H vs Q E hr h => ⟨_, (pss_cons (ps_if (pt_not (pt_truth (pv 0) (by intro _; rfl)))
        (pss_one (ps_ret pe_int))
        pss_nil)
      (pss_one (ps_ret (pe_op op_modN (pe_callTy (T := "int") call_int1 (by rfl) T.z_int (by decide +kernel) (pa_cons (pe_bm0 PySem.F.plainAttrs_list PySem.F.slot_list_pop PySem.F.type_list_pop mt_pop (pv 0)) pa_nil)) (pv 1))))), ?_⟩)
  try dsimp only [cxK, blkK, noxK, wishK]
  refine lsp_body (N := nm__law_take) h (by decide) fun xs q hn h => ?_
  clear hn
  obtain ⟨ns, b, rfl, hb, hq⟩ := h
  rcases List.eq_nil_or_concat ns with rfl | ⟨ms, z, rfl⟩
  · exact ⟨fun h => (by cases h), fun _ => hq 0 [] (by decide) hb⟩
  · have e : (ms.concat z).map D.int = ms.map D.int ++ [D.int z] := by rw [List.concat_eq_append, List.map_append]; rfl
    rw [rowO, e]
    refine ⟨fun _ => ?_, fun h => ?_⟩
    · show (match (ms.map D.int ++ [D.int z])[(ms.map D.int ++ [D.int z]).length - 1]? with | some d => _ | none => False)
      rw [List.length_append, List.length_singleton, Nat.add_sub_cancel, List.getElem?_append_right (Nat.le_refl _), Nat.sub_self]
      rw [List.dropLast_concat]
      exact ⟨(show b ≠ 0 by omega), hq _ ms (fmodS z hb).1 (fmodS z hb).2⟩
    · cases hm : ms.map D.int <;> rw [hm] at h <;> cases h

/-! ### the least spread -/
def gT (w : Int) (t : Rat) : Rat := if (w : Rat) < t then ((2 * w : Int) : Rat) * t - ((w * w : Int) : Rat) else t * t
def sp1 (w : Int) (c : Rat) : Rat := ((w * w : Int) : Rat) * (1 / c - 1)
def sprR (ws : List Int) (cs : List Rat) : Rat := rsum (List.zipWith sp1 ws cs)
def boundR (ws : List Int) (k : Int) (t : Rat) : Rat := rsum (ws.map (gT · t)) - (k : Rat) * (t * t)
def keepR (w : Int) (t : Rat) : Rat := if (w : Rat) < t then (w : Rat) / t else 1
theorem castMul (a b : Int) : ((a * b : Int) : Rat) = (a : Rat) * (b : Rat) := Rat.intCast_mul a b
theorem cast2 (w : Int) : ((2 * w : Int) : Rat) = 2 * (w : Rat) := by rw [castMul]; rfl
theorem dual1 {w : Int} {c t : Rat} (hw : 0 ≤ w) (h0 : 0 < c) (h1 : c ≤ 1) (ht : 0 ≤ t) : gT w t ≤ sp1 w c + t * t * c := by
  unfold gT sp1
  rw [cast2, castMul]
  have hW : (0 : Rat) ≤ (w : Rat) := Rat.intCast_nonneg.mpr hw
  generalize (w : Rat) = W at *
  have hi := Rat.le_of_lt (Rat.inv_pos.mpr h0)
  split
  · have e : W * W * (1 / c - 1) + t * t * c - (2 * W * t - W * W) = (W - t * c) * (W - t * c) * c⁻¹ := by grind
    have := Rat.mul_nonneg (sq_nn (W - t * c)) hi
    grind
  · rename_i hlt
    have hlt : t ≤ W := Rat.not_lt.mp hlt
    have e1 : W * W * (1 / c - 1) + t * t * c - t * t = (W * W - t * t) * ((1 - c) * c⁻¹) + t * t * ((1 - c) * (1 - c) * c⁻¹) := by grind
    have n1 : 0 ≤ (W * W - t * t) := by
      have := Rat.mul_nonneg (show 0 ≤ W - t by grind) (show 0 ≤ W + t by grind)
      grind
    have n2 : 0 ≤ (1 - c) * c⁻¹ := Rat.mul_nonneg (by grind) hi
    have n3 : 0 ≤ t * t * ((1 - c) * (1 - c) * c⁻¹) := Rat.mul_nonneg (sq_nn t) (Rat.mul_nonneg (sq_nn _) hi)
    have n4 := Rat.mul_nonneg n1 n2
    grind
theorem dualN {t : Rat} (ht : 0 ≤ t) : ∀ {ws : List Int} {cs : List Rat}, ws.length = cs.length → (∀ w ∈ ws, 0 ≤ w) → (∀ c ∈ cs, 0 < c ∧ c ≤ 1) → rsum (ws.map (gT · t)) ≤ sprR ws cs + t * t * rsum cs
  | [], [], _, _, _ => by
    show rsum [] ≤ rsum [] + t * t * rsum []
    rw [rsum_nil]
    grind
  | w :: ws, c :: cs, hl, hw, hc => by
    have h1 := dual1 (hw w List.mem_cons_self) (hc c List.mem_cons_self).1 (hc c List.mem_cons_self).2 ht
    have h2 := dualN ht (ws := ws) (cs := cs) (by simpa using hl) (fun w hw' => hw w (List.mem_cons_of_mem _ hw')) fun c hc' => hc c (List.mem_cons_of_mem _ hc')
    unfold sprR at h2 ⊢
    rw [List.map_cons, rsum_cons, List.zipWith_cons_cons, rsum_cons, rsum_cons]
    grind
/-- no chances of the sum k at most have a lesser spread -/
theorem weak {ws : List Int} {cs : List Rat} {k : Int} {t : Rat} (ht : 0 ≤ t) (hl : ws.length = cs.length) (hw : ∀ w ∈ ws, 0 ≤ w) (hc : ∀ c ∈ cs, 0 < c ∧ c ≤ 1) (hk : rsum cs ≤ (k : Rat)) : boundR ws k t ≤ sprR ws cs := by
  have h1 := dualN ht hl hw hc
  have h2 := Rat.mul_le_mul_of_nonneg_left hk (sq_nn t)
  unfold boundR
  grind
theorem keep_pos {w : Int} {t : Rat} (hw : 0 < w) (ht : 0 ≤ t) : 0 < keepR w t ∧ keepR w t ≤ 1 := by
  unfold keepR
  have hW : (0 : Rat) < (w : Rat) := Rat.intCast_pos.mpr hw
  generalize (w : Rat) = W at *
  split
  · rename_i h
    have h0 : 0 < t := by grind
    have hi := Rat.inv_pos.mpr h0
    rw [Rat.div_def]
    refine ⟨Rat.mul_pos hW hi, ?_⟩
    have := Rat.mul_le_mul_of_nonneg_right (Rat.le_of_lt h) (Rat.le_of_lt hi)
    grind
  · exact ⟨by decide, Rat.le_refl⟩
theorem equal1 {w : Int} {t : Rat} (hw : 0 < w) (ht : 0 ≤ t) : gT w t = sp1 w (keepR w t) + t * t * keepR w t := by
  unfold gT sp1 keepR
  rw [cast2, castMul]
  have hW : (0 : Rat) < (w : Rat) := Rat.intCast_pos.mpr hw
  generalize (w : Rat) = W at *
  split
  · rename_i h
    have h0 : 0 < t := by grind
    have h1 : t ≠ 0 := by grind
    have h2 : W ≠ 0 := by grind
    grind
  · grind
theorem equalN {t : Rat} (ht : 0 ≤ t) : ∀ {ws : List Int}, (∀ w ∈ ws, 0 < w) → rsum (ws.map (gT · t)) = sprR ws (ws.map (keepR · t)) + t * t * rsum (ws.map (keepR · t))
  | [], _ => by
    show rsum [] = rsum [] + t * t * rsum []
    rw [rsum_nil]
    grind
  | w :: ws, hw => by
    have h1 := equal1 (hw w List.mem_cons_self) ht
    have h2 := equalN ht (ws := ws) (fun w hw' => hw w (List.mem_cons_of_mem _ hw'))
    unfold sprR at h2 ⊢
    rw [List.map_cons, List.map_cons, rsum_cons, List.zipWith_cons_cons, rsum_cons, rsum_cons]
    grind
/-- what the best price is -/
structure BestP (ws : List Int) (k : Int) (t : Rat) : Prop where
  zero : (ws.length : Int) ≤ k → t = 0
  pos : k < ws.length → 0 < t ∧ rsum (ws.map (keepR · t)) = (k : Rat)
  sz : Sz 17 t
theorem BestP.nn {ws : List Int} {k : Int} {t : Rat} (h : BestP ws k t) : 0 ≤ t := by
  rcases Int.lt_or_le k ws.length with z | z
  · exact Rat.le_of_lt (h.pos z).1
  · rw [h.zero z]
    exact Rat.le_refl
theorem keep_zero : ∀ {ws : List Int}, (∀ w ∈ ws, 0 < w) → rsum (ws.map (keepR · 0)) = ((ws.length : Int) : Rat)
  | [], _ => rfl
  | w :: ws, hw => by
    rw [List.map_cons, rsum_cons, keep_zero fun w hw' => hw w (List.mem_cons_of_mem _ hw')]
    have : keepR w 0 = 1 := by
      unfold keepR
      rw [if_neg]
      have hW : (0 : Rat) < (w : Rat) := Rat.intCast_pos.mpr (hw w List.mem_cons_self)
      grind
    rw [this, List.length_cons, Int.natCast_add, Rat.intCast_add]
    have : (((1 : Nat) : Int) : Rat) = 1 := rfl
    grind
theorem BestP.sum {ws : List Int} {k : Int} {t : Rat} (h : BestP ws k t) (hw : ∀ w ∈ ws, 0 < w) : rsum (ws.map (keepR · t)) = ((if (ws.length : Int) < k then (ws.length : Int) else k : Int) : Rat) := by
  split
  · rename_i z
    rw [h.zero (by omega)]
    exact keep_zero hw
  · rename_i z
    rcases Int.lt_or_le k ws.length with z' | z'
    · exact (h.pos z').2
    · rw [h.zero z', keep_zero hw, show (ws.length : Int) = k by omega]
theorem BestP.eq {ws : List Int} {k : Int} {t : Rat} (h : BestP ws k t) (hw : ∀ w ∈ ws, 0 < w) : boundR ws k t = sprR ws (ws.map (keepR · t)) := by
  have h1 := equalN h.nn hw
  unfold boundR
  rcases Int.lt_or_le k ws.length with z | z
  · rw [h1, (h.pos z).2]
    grind
  · have := h.zero z
    subst this
    grind
theorem BestP.best {ws : List Int} {k : Int} {t p : Rat} (h : BestP ws k t) (hw : ∀ w ∈ ws, 0 < w) (hp : 0 ≤ p) : boundR ws k p ≤ boundR ws k t := by
  rw [h.eq hw]
  refine weak hp (by rw [List.length_map]) (fun w z => by have := hw w z; omega) (fun c hc => ?_) ?_
  · obtain ⟨w, z, rfl⟩ := List.mem_map.mp hc
    exact keep_pos (hw w z) h.nn
  · rw [h.sum hw]
    refine Rat.intCast_le_intCast.mpr ?_
    split <;> omega
theorem keep_mono {w : Int} {t t' : Rat} (hw : 0 < w) (h0 : 0 < t) (h : t < t') : keepR w t' ≤ keepR w t ∧ ((w : Rat) < t' → keepR w t' < keepR w t) := by
  unfold keepR
  have hW : (0 : Rat) < (w : Rat) := Rat.intCast_pos.mpr hw
  generalize (w : Rat) = W at *
  have hi := Rat.inv_pos.mpr h0
  have hi' := Rat.inv_pos.mpr (show 0 < t' by grind)
  have e1 : t * t⁻¹ = 1 := by grind
  have e2 : t' * t'⁻¹ = 1 := by grind
  have lt : t'⁻¹ < t⁻¹ := by
    have := Rat.mul_lt_mul_of_pos_right h (Rat.mul_pos hi hi')
    have e3 : t * (t⁻¹ * t'⁻¹) = t'⁻¹ := by grind
    have e4 : t' * (t⁻¹ * t'⁻¹) = t⁻¹ := by grind
    rw [e3, e4] at this
    exact this
  have l2 : W * t'⁻¹ < W * t⁻¹ := Rat.mul_lt_mul_of_pos_left lt hW
  by_cases c1 : W < t'
  · have l3 : W * t'⁻¹ < 1 := by
      have := Rat.mul_lt_mul_of_pos_right c1 hi'
      rw [e2] at this
      exact this
    rw [if_pos c1]
    split
    · rw [Rat.div_def, Rat.div_def]
      exact ⟨Rat.le_of_lt l2, fun _ => l2⟩
    · rw [Rat.div_def]
      exact ⟨Rat.le_of_lt l3, fun _ => l3⟩
  · rw [if_neg c1, if_neg (by grind)]
    exact ⟨Rat.le_refl, fun z => absurd z c1⟩
theorem keep_strict {t t' : Rat} (h0 : 0 < t) (h : t < t') : ∀ {ws : List Int}, (∀ w ∈ ws, 0 < w) → (∃ w ∈ ws, (w : Rat) < t') → rsum (ws.map (keepR · t')) < rsum (ws.map (keepR · t))
  | [], _, he => by simp at he
  | w :: ws, hw, he => by
    have h1 := keep_mono (hw w List.mem_cons_self) h0 h
    have h2 : rsum (ws.map (keepR · t')) ≤ rsum (ws.map (keepR · t)) := rsum_le fun x hx => (keep_mono (hw x (List.mem_cons_of_mem _ hx)) h0 h).1
    rw [List.map_cons, List.map_cons, rsum_cons, rsum_cons]
    obtain ⟨x, hx, hlt⟩ := he
    rcases List.mem_cons.mp hx with rfl | hx
    · have := h1.2 hlt
      grind
    · have := keep_strict h0 h (ws := ws) (fun y hy => hw y (List.mem_cons_of_mem _ hy)) ⟨x, hx, hlt⟩
      grind
theorem keep_all {t : Rat} : ∀ {ts : List Int}, (∀ y ∈ ts, t ≤ (y : Rat)) → rsum (ts.map (keepR · t)) = ((ts.length : Int) : Rat)
  | [], _ => rfl
  | y :: ts, h => by
    have h1 := h y List.mem_cons_self
    rw [List.map_cons, rsum_cons, keep_all fun z hz => h z (List.mem_cons_of_mem _ hz), List.length_cons, Int.natCast_add, Rat.intCast_add]
    have : keepR y t = 1 := by
      unfold keepR
      rw [if_neg (by grind)]
    rw [this]
    have : (((1 : Nat) : Int) : Rat) = 1 := rfl
    grind
theorem BestP.some_small {ws : List Int} {k : Int} {t : Rat} (h : BestP ws k t) (hk : k < ws.length) : ∃ w ∈ ws, (w : Rat) < t := by
  rcases Classical.em (∃ w ∈ ws, (w : Rat) < t) with z | z
  · exact z
  · have := keep_all (t := t) (ts := ws) fun y hy => Rat.not_lt.mp fun q => z ⟨y, hy, q⟩
    rw [(h.pos hk).2] at this
    have := Rat.intCast_inj.mp this
    omega
theorem BestP.uniq {ws : List Int} {k : Int} {t t' : Rat} (h : BestP ws k t) (h' : BestP ws k t') (hw : ∀ w ∈ ws, 0 < w) : t = t' := by
  rcases Int.lt_or_le k ws.length with z | z
  · have a := h.pos z
    have b := h'.pos z
    rcases Classical.em (t < t') with q | q
    · have := keep_strict a.1 q hw (h'.some_small z)
      rw [a.2, b.2] at this
      grind
    · rcases Classical.em (t' < t) with q' | q'
      · have := keep_strict b.1 q' hw (h.some_small z)
        rw [a.2, b.2] at this
        grind
      · grind
  · rw [h.zero z, h'.zero z]

def dints (ws : List Int) : D := .lst (ws.map D.int)
theorem sz_sq {w : Int} (h : w.natAbs < 2 ^ 10) : Sz 20 ((w * w : Int) : Rat) := sz_int (Nat.lt_of_lt_of_le (abs_mul_lt h h) (by decide)) (by decide)
theorem sz_dbl {w : Int} (h : w.natAbs < 2 ^ 10) : Sz 11 ((2 * w : Int) : Rat) := sz_int (by omega) (by decide)
theorem sz_w {w : Int} (h : w.natAbs < 2 ^ 10) : Sz 10 (w : Rat) := sz_int h (by decide)
theorem sz_gT {w : Int} {t : Rat} (h : w.natAbs < 2 ^ 10) (ht : Sz 24 t) : Sz 56 (gT w t) := by
  unfold gT
  split
  · exact (((sz_dbl h).mul ht).sub (sz_sq h)).mono (by decide)
  · exact (ht.mul ht).mono (by decide)
theorem sz_sp1 {w : Int} {c : Rat} (h : w.natAbs < 2 ^ 10) (hc : Sz 30 c) (h0 : c ≠ 0) : Sz 53 (sp1 w c) := by
  unfold sp1
  exact ((sz_sq h).mul ((sz_one.div hc h0).sub sz_one)).mono (by decide)
def WsOk (ws : List Int) : Prop := ws.length ≤ 6 ∧ ∀ w ∈ ws, 0 < w ∧ w ≤ 1000
theorem WsOk.ab {ws : List Int} (h : WsOk ws) {w : Int} (hw : w ∈ ws) : w.natAbs < 2 ^ 10 := by
  have := h.2 w hw
  omega
def CsOk (cs : List Rat) : Prop := ∀ c ∈ cs, 0 < c ∧ c ≤ 1 ∧ Sz 30 c
def psp_spread : Psp := ⟨2, fun xs q => ∃ (ws : List Int) (cs : List Rat), xs = [.fr (dints ws), .fr (dFs cs)] ∧ (WsOk ws ∧ CsOk cs ∧ ws.length = cs.length) ∧ q (.fr (dF (sprR ws cs))) []⟩
abbrev sp_spread (K : PySem.W.Frag) : Sp := Lsp K psp_spread
def psp_term_of : Psp := ⟨2, fun xs q => ∃ (w : Int) (t : Rat), xs = [.fr (.int w), .fr (dF t)] ∧ (w.natAbs < 2 ^ 10 ∧ Sz 24 t) ∧ q (.fr (dF (gT w t))) []⟩
abbrev sp_term_of (K : PySem.W.Frag) : Sp := Lsp K psp_term_of
def psp_price_bound : Psp := ⟨3, fun xs q => ∃ (ws : List Int) (k : Int) (t : Rat), xs = [.fr (dints ws), .fr (.int k), .fr (dF t)] ∧ (WsOk ws ∧ (0 < k ∧ k ≤ 6) ∧ Sz 24 t) ∧ q (.fr (dF (boundR ws k t))) []⟩
abbrev sp_price_bound (K : PySem.W.Frag) : Sp := Lsp K psp_price_bound
abbrev sp__law_bound (K : PySem.W.Frag) : Sp := Lsp K psp_price_bound
def psp_best_price : Psp := ⟨2, fun xs q => ∃ (ws : List Int) (k : Int), xs = [.fr (dints ws), .fr (.int k)] ∧ (WsOk ws ∧ (0 < k ∧ k ≤ 6)) ∧ ∀ t, BestP ws k t → q (.fr (dF t)) []⟩
abbrev sp_best_price (K : PySem.W.Frag) : Sp := Lsp K psp_best_price
theorem sz_sprR {ws : List Int} {cs : List Rat} (hw : WsOk ws) (hc : CsOk cs) : Sz 400 (sprR ws cs) := by
  refine sz_rsumA (m := 53) (fun r hr => ?_) ?_
  · obtain ⟨i, hi⟩ := List.getElem?_of_mem hr
    rw [List.getElem?_zipWith] at hi
    cases e1 : ws[i]? with
    | none => rw [e1] at hi; cases hi
    | some w =>
      cases e2 : cs[i]? with
      | none => rw [e1, e2] at hi; cases hi
      | some c =>
        rw [e1, e2] at hi
        cases hi
        have := hc c (List.mem_of_getElem? e2)
        exact sz_sp1 (hw.ab (List.mem_of_getElem? e1)) this.2.2 (by have := this.1; grind)
  · rw [List.length_zipWith]
    have := hw.1
    omega
theorem sz_gTs {ws : List Int} {t : Rat} (hw : WsOk ws) (ht : Sz 24 t) : ∀ r ∈ ws.map (gT · t), Sz 56 r := fun r hr => by
  obtain ⟨w, z, rfl⟩ := List.mem_map.mp hr
  exact sz_gT (hw.ab z) ht
theorem sz_boundR {ws : List Int} {k : Int} {t : Rat} (hw : WsOk ws) (hk : 0 < k ∧ k ≤ 6) (ht : Sz 24 t) : Sz 500 (boundR ws k t) := by
  unfold boundR
  have h1 : Sz 400 (rsum (ws.map (gT · t))) := sz_rsumA (sz_gTs hw ht) (by rw [List.length_map]; have := hw.1; omega)
  exact (h1.sub ((sz_int (n := 5) (by omega) (by decide)).mul (ht.mul ht))).mono (by decide)
theorem zip_snoc {ws : List Int} {cs : List Rat} {i : Nat} {w : Int} {c : Rat} (h1 : ws[i]? = some w) (h2 : cs[i]? = some c) : ((List.zipWith sp1 ws cs).take i).map dF ++ [dF (sp1 w c)] = ((List.zipWith sp1 ws cs).take (i + 1)).map dF := by
  rw [List.take_add_one, List.getElem?_zipWith, h1, h2, List.map_append]
  rfl
theorem ok_spread (T : Txt K mg) : FnOk P w K mg base CX0 4 T.f_spread T.fd_spread ["weights", "chances"] (sp_spread K) := by
  refine T.F_spread.ok sc_spread (fun vs H Q E h => lsp_len h) (fun cdv A outer s H vs Q E hr h => ⟨_, (pss_cons (ps_set (i := 2) sc_spread.nd rfl (Or.inl rfl) (pe_lst pa_nil))
      (pss_cons (ps_for PassesOwn.never rfl (pi_zip (by rfl) T.z_zip (pa_cons (pv 0) (pa_cons (pv 1) pa_nil))) (pg_tup rfl (pgs_cons (pg_name (i := 3) sc_spread.nd rfl (Or.inl rfl)) (pgs_cons (pg_name (i := 4) sc_spread.nd rfl (Or.inl rfl)) pgs_nil)))
        (pss_one (ps_expr (pe_bm PySem.F.plainAttrs_list PySem.F.slot_list_append PySem.F.type_list_append mt_append (pv 2) (pa_cons (pe_call (ok_times T) (hr.mono (by decide)) (by rfl) T.g_times T.F_times.kp T.b_times .nil pass0 (pa_cons (pe_tup (pa_cons (pe_op op_mulW (pv 3) (pv 3)) (pa_cons pe_int pa_nil))) (pa_cons (pe_call (ok_minus T) (hr.mono (by decide)) (by rfl) T.g_minus T.F_minus.kp T.b_minus .nil pass0 (pa_cons (pe_call (ok_over T) (hr.mono (by decide)) (by rfl) T.g_over T.F_over.kp T.b_over .nil pass0 (pa_cons (pe_tup (pa_cons pe_int (pa_cons pe_int pa_nil))) (pa_cons (pv 4) pa_nil))) (pa_cons (pe_tup (pa_cons pe_int (pa_cons pe_int pa_nil))) pa_nil))) pa_nil))) pa_nil)))))
      (pss_one (ps_ret (pe_call (ok_sum_of T) (hr.mono (by decide)) (by rfl) T.g_sum_of T.F_sum_of.kp T.b_sum_of .nil pass0 (pa_cons (pv 2) pa_nil)))))), ?_⟩)
  try dsimp only [cxK, blkK, noxK, wishK]
  refine lsp_body (N := nm_spread) h (by decide) fun xs q hn h => ?_
  clear hn
  obtain ⟨ws, cs, rfl, ⟨hw, hc, hl⟩, hq⟩ := h
  refine ⟨fun i s => ∃ x3 x4, s = [some (.fr (dints ws)), some (.fr (dFs cs)), some (.ow false (.lst (((List.zipWith sp1 ws cs).take i).map dF))), x3, x4], ⟨_, _, rfl⟩, ?_, ?_⟩
  · rintro i d s hd ⟨x3, x4, rfl⟩
    obtain ⟨_, _, hx, hy, rfl⟩ := zipD_get hd
    obtain ⟨w, hw1, rfl⟩ := map_at hx
    obtain ⟨c, hc1, rfl⟩ := map_at hy
    have h1 := hw.ab (List.mem_of_getElem? hw1)
    obtain ⟨c0, c1, sc⟩ := hc c (List.mem_of_getElem? hc1)
    have c00 : c ≠ 0 := by grind
    refine ⟨mulS (by omega) (by omega), 1, c, rfl, ⟨sz_one.mono (by decide), sc.mono (by decide), c00⟩, _, 1, rfl, ⟨(sz_one.div sc c00).mono (by decide), sz_one.mono (by decide), trivial⟩,
      ((w * w : Int) : Rat), _, rfl, ⟨(sz_sq h1).mono (by decide), ((sz_one.div sc c00).sub sz_one).mono (by decide), trivial⟩, ?_⟩
    refine ⟨by simp; have := hw.1; omega, some (.fr (.int w)), some (.fr (dF c)), ?_⟩
    rw [← zip_snoc hw1 hc1]
    rfl
  · rintro s ⟨x3, x4, rfl⟩
    refine .inr ⟨List.zipWith sp1 ws cs, 53, ?_, ⟨fun r hr => ?_, ?_, by decide⟩, hq⟩
    · rw [List.take_of_length_le]
      · rfl
      · simp [zipD]
    · obtain ⟨i, hi⟩ := List.getElem?_of_mem hr
      rw [List.getElem?_zipWith] at hi
      cases e1 : ws[i]? with
      | none => rw [e1] at hi; cases hi
      | some w =>
        cases e2 : cs[i]? with
        | none => rw [e1, e2] at hi; cases hi
        | some c =>
          rw [e1, e2] at hi
          cases hi
          have := hc c (List.mem_of_getElem? e2)
          exact sz_sp1 (hw.ab (List.mem_of_getElem? e1)) this.2.2 (by have := this.1; grind)
    · rw [List.length_zipWith]
      have := hw.1
      show _ ≤ 980
      omega
theorem ok_term_of (T : Txt K mg) : FnOk P w K mg base CX0 3 T.f_term_of T.fd_term_of ["weight", "price"] (sp_term_of K) := by
  refine T.F_term_of.ok sc_term_of (fun vs H Q E h => lsp_len h) (fun cdv A outer s H vs Q E hr h => ⟨_, (pss_cons (ps_if (pt_val (pe_call (ok_less T) (hr.mono (by decide)) (by rfl) T.g_less T.F_less.kp T.b_less .nil pass0 (pa_cons (pe_tup (pa_cons (pv 0) (pa_cons pe_int pa_nil))) (pa_cons (pv 1) pa_nil))))
        (pss_one (ps_ret (pe_call (ok_minus T) (hr.mono (by decide)) (by rfl) T.g_minus T.F_minus.kp T.b_minus .nil pass0 (pa_cons (pe_call (ok_times T) (hr.mono (by decide)) (by rfl) T.g_times T.F_times.kp T.b_times .nil pass0 (pa_cons (pe_tup (pa_cons (pe_op op_mulW pe_int (pv 0)) (pa_cons pe_int pa_nil))) (pa_cons (pv 1) pa_nil))) (pa_cons (pe_tup (pa_cons (pe_op op_mulW (pv 0) (pv 0)) (pa_cons pe_int pa_nil))) pa_nil)))))
        pss_nil)
      (pss_one (ps_ret (pe_call (ok_times T) (hr.mono (by decide)) (by rfl) T.g_times T.F_times.kp T.b_times .nil pass0 (pa_cons (pv 1) (pa_cons (pv 1) pa_nil)))))), ?_⟩)
  try dsimp only [cxK, blkK, noxK, wishK]
  refine lsp_body (N := nm_term_of) h (by decide) fun xs q hn h => ?_
  clear hn
  obtain ⟨w, t, rfl, ⟨hw, ht⟩, hq⟩ := h
  unfold gT at hq
  refine ⟨(w : Rat), t, rfl, ⟨(sz_w hw).mono (by decide), ht.mono (by decide)⟩, fun hz => ?_, fun hz => ?_⟩
  · rw [if_pos (of_decide_eq_true hz)] at hq
    exact ⟨mulS (by decide) (by omega), ((2 * w : Int) : Rat), t, rfl, ⟨(sz_dbl hw).mono (by decide), ht.mono (by decide), trivial⟩, mulS (by omega) (by omega), _, ((w * w : Int) : Rat), rfl,
      ⟨((sz_dbl hw).mul ht).mono (by decide), (sz_sq hw).mono (by decide), trivial⟩, hq⟩
  · rw [if_neg (of_decide_eq_false hz)] at hq
    exact ⟨t, t, rfl, ⟨ht.mono (by decide), ht.mono (by decide), trivial⟩, hq⟩
theorem ok_price_bound (T : Txt K mg) : FnOk P w K mg base CX0 4 T.f_price_bound T.fd_price_bound ["weights", "size", "price"] (sp_price_bound K) := by
  refine T.F_price_bound.ok sc_price_bound (fun vs H Q E h => lsp_len h) (fun cdv A outer s H vs Q E hr h => ⟨_, (pss_cons (ps_set (i := 3) sc_price_bound.nd rfl (Or.inl rfl) (pe_call (ok_sum_of T) (hr.mono (by decide)) (by rfl) T.g_sum_of T.F_sum_of.kp T.b_sum_of .nil pass0 (pa_cons (pe_lc (own := [("weight", 4)]) (g := gName 4) rfl sc_price_bound.nd (pi_list (pv 0)) (blkOk_by (own := [("weight", 4)]) (N := nm_price_bound) (sc := defScope s_price_bound) (by decide +kernel)) (fun _ _ _ _ _ => pg_name (i := 4) sc_price_bound.nd rfl (Or.inl rfl)) (fun _ _ _ _ _ => pts_nil) (fun _ _ _ _ _ => (pe_call (ok_term_of T) (hr.mono (by decide)) (by rfl) T.g_term_of T.F_term_of.kp T.b_term_of .nil pass0 (pa_cons (pv 4) (pa_cons (pv 2) pa_nil))))) pa_nil)))
      (pss_one (ps_ret (pe_call (ok_minus T) (hr.mono (by decide)) (by rfl) T.g_minus T.F_minus.kp T.b_minus .nil pass0 (pa_cons (pv 3) (pa_cons (pe_call (ok_times T) (hr.mono (by decide)) (by rfl) T.g_times T.F_times.kp T.b_times .nil pass0 (pa_cons (pe_tup (pa_cons (pv 1) (pa_cons pe_int pa_nil))) (pa_cons (pe_call (ok_times T) (hr.mono (by decide)) (by rfl) T.g_times T.F_times.kp T.b_times .nil pass0 (pa_cons (pv 2) (pa_cons (pv 2) pa_nil))) pa_nil))) pa_nil)))))), ?_⟩)
  try dsimp only [cxK, blkK, noxK, wishK]
  refine lsp_body (N := nm_price_bound) h (by decide) fun xs q hn h => ?_
  clear hn
  obtain ⟨ws, k, t, rfl, ⟨hw, hk, ht⟩, hq⟩ := h
  have hl := hw.1
  dsimp only [psSeq, psSet, psRet, psDrop, psAsg, pCall, prCons, prNil, pDat, pCB, pCons, pOp]
  refine pLc_map (ws.map D.int) ((ws.map (gT · t)).map dF) [some (.fr (dints ws)), some (.fr (.int k)), some (.fr (dF t)), none, none] _ (fun k h => h) (by simp; omega) (by simp) (fun i d hd => ?_) ?_
  · obtain ⟨w, hw1, rfl⟩ := map_at hd
    refine ⟨w, t, rfl, ⟨hw.ab (List.mem_of_getElem? hw1), ht⟩, ?_, rfl⟩
    exact take_snocD (at_map (by rw [List.getElem?_map, hw1]; rfl))
  · have h1 : Sz 400 (rsum (ws.map (gT · t))) := sz_rsumA (sz_gTs hw ht) (by rw [List.length_map]; omega)
    have hk1 : Sz 5 (k : Rat) := sz_int (by omega) (by decide)
    exact ⟨_, 56, rfl, ⟨sz_gTs hw ht, by rw [List.length_map]; show _ ≤ 980; omega, by decide⟩, t, t, rfl, ⟨ht.mono (by decide), ht.mono (by decide), trivial⟩, (k : Rat), _, rfl, ⟨hk1.mono (by decide), (ht.mul ht).mono (by decide), trivial⟩,
      _, _, rfl, ⟨h1.mono (by decide), (hk1.mul (ht.mul ht)).mono (by decide), trivial⟩, hq⟩
theorem pop_at {ds : List D} {d : D} : (ds ++ [d])[(ds ++ [d]).length - 1]? = some d := by
  rw [List.length_append, List.length_singleton, Nat.add_sub_cancel, List.getElem?_append_right (Nat.le_refl _), Nat.sub_self]
  rfl
theorem last_atI {ds : List D} {d : D} : atI (ds ++ [d]) (-1) = some d := by
  unfold atI ixN
  rw [if_neg (by decide), List.length_append, List.length_singleton, if_pos (by omega)]
  show (ds ++ [d])[(-1 + ((ds.length + 1 : Nat) : Int)).toNat]? = _
  rw [show (-1 + ((ds.length + 1 : Nat) : Int)).toNat = ds.length by omega, List.getElem?_append_right (Nat.le_refl _), Nat.sub_self]
  rfl
theorem sum_bd : ∀ {ws : List Int}, (∀ w ∈ ws, 0 < w ∧ w ≤ 1000) → (ws.length : Int) ≤ ws.sum ∧ ws.sum ≤ 1000 * (ws.length : Int)
  | [], _ => by simp
  | w :: ws, h => by
    have h1 := h w List.mem_cons_self
    have h2 := sum_bd fun x hx => h x (List.mem_cons_of_mem _ hx)
    rw [List.sum_cons, List.length_cons]
    omega
theorem price_sz {a b : Int} (ha : 0 ≤ a) (ha2 : a ≤ 6000) (hb : 0 < b) (hb2 : b ≤ 6) : Sz 17 (Rat.divInt a b) := sz_divInt (by omega) (by omega) (by omega)
/-- how the search stands: what is left, rising, what was taken off, the number of places left -/
structure BestI (ws : List Int) (k : Int) (ss ts : List Int) (t : Rat) : Prop where
  perm : (ss ++ ts).Perm ws
  asc : ss.Pairwise (· ≤ ·)
  few : (ts.length : Int) < k
  is : t = Rat.divInt ss.sum (k - ts.length)
  top : ∀ y ∈ ts, t ≤ (y : Rat)
theorem BestI.facts {ws : List Int} {k : Int} {ss ts : List Int} {t : Rat} (h : BestI ws k ss ts t) (hw : WsOk ws) (hk : k < ws.length) : (ss.length : Int) + ts.length = ws.length ∧ (∀ w ∈ ss, 0 < w ∧ w ≤ 1000) ∧ (ss.length : Int) ≤ ss.sum ∧ ss.sum ≤ 6000 ∧ k ≤ 6 := by
  have h1 := h.perm.length_eq
  rw [List.length_append] at h1
  have h2 : ∀ w ∈ ss, 0 < w ∧ w ≤ 1000 := fun w z => hw.2 w (h.perm.subset (List.mem_append_left _ z))
  have h3 := sum_bd h2
  have h4 := hw.1
  refine ⟨by omega, h2, h3.1, by omega, by omega⟩
theorem divInt_mul {a b : Int} (hb : b ≠ 0) : Rat.divInt a b * (b : Rat) = (a : Rat) := by
  rw [Rat.divInt_eq_div]
  have : (b : Rat) ≠ 0 := by
    intro z
    exact hb (Rat.intCast_inj.mp z)
  grind
theorem BestI.next {ws : List Int} {k x : Int} {ss ts : List Int} {t : Rat} (h : BestI ws k (ss ++ [x]) ts t) (hw : WsOk ws) (hk : k < ws.length) (hx : t ≤ (x : Rat)) : BestI ws k ss (x :: ts) (Rat.divInt ss.sum (k - (x :: ts).length)) := by
  obtain ⟨f1, f2, f3, f4, f5⟩ := h.facts hw hk
  have hfew := h.few
  have h0 := f2 x (by simp)
  have hs := sum_bd fun w z => f2 w (List.mem_append_left _ z)
  rw [List.length_append, List.length_singleton] at f1 f3
  rw [List.sum_append] at f3 f4
  simp only [List.sum_cons, List.sum_nil] at f3 f4
  have hm : Rat.divInt (ss ++ [x]).sum (k - ts.length) * ((k - ts.length : Int) : Rat) = ((ss ++ [x]).sum : Rat) := divInt_mul (by omega)
  rw [← h.is, List.sum_append] at hm
  simp only [List.sum_cons, List.sum_nil, Int.add_zero, Rat.intCast_add] at hm
  have hfew2 : (ts.length : Int) + 1 < k := by
    rcases Int.lt_or_le ((ts.length : Int) + 1) k with z | z
    · exact z
    · have e : k - (ts.length : Int) = 1 := by omega
      rw [e] at hm
      have hpos : 0 < ss.sum := by omega
      have : (0 : Rat) < (ss.sum : Rat) := Rat.intCast_pos.mpr hpos
      have e1 : ((1 : Int) : Rat) = 1 := rfl
      rw [e1] at hm
      grind
  have hle : Rat.divInt ss.sum (k - (x :: ts).length) ≤ t := by
    have hm2 : Rat.divInt ss.sum (k - (x :: ts).length) * ((k - (x :: ts).length : Int) : Rat) = (ss.sum : Rat) := divInt_mul (by rw [List.length_cons]; omega)
    generalize Rat.divInt ss.sum (k - (x :: ts).length) = t' at *
    have hc : ((k - (x :: ts).length : Int) : Rat) = ((k - ts.length : Int) : Rat) - 1 := by
      rw [List.length_cons, show k - ((ts.length + 1 : Nat) : Int) = (k - ts.length) - 1 by omega, Rat.intCast_sub]
      rfl
    rw [hc] at hm2
    have hM : (1 : Rat) < ((k - ts.length : Int) : Rat) := Rat.intCast_lt_intCast.mpr (show (1 : Int) < k - ts.length by omega)
    generalize ((k - ts.length : Int) : Rat) = M at *
    -- t' (M - 1) = t M - x ≤ t (M - 1)
    have h1 : t' * (M - 1) ≤ t * (M - 1) := by grind
    refine Rat.not_lt.mp (fun z : t < t' => ?_)
    have := Rat.mul_lt_mul_of_pos_right z (show 0 < M - 1 by grind)
    grind
  refine ⟨?_, ?_, by rw [List.length_cons]; omega, rfl, fun y hy => ?_⟩
  · have := h.perm
    rw [List.append_assoc] at this
    exact this
  · exact (List.pairwise_append.mp h.asc).1
  · rcases List.mem_cons.mp hy with rfl | hy
    · exact Rat.le_trans hle hx
    · exact Rat.le_trans hle (h.top y hy)
theorem keep_big {t : Rat} : ∀ {ts : List Int}, (∀ y ∈ ts, t ≤ (y : Rat)) → rsum (ts.map (keepR · t)) = ((ts.length : Int) : Rat)
  | [], _ => rfl
  | y :: ts, h => by
    have h1 := h y List.mem_cons_self
    rw [List.map_cons, rsum_cons, keep_big fun z hz => h z (List.mem_cons_of_mem _ hz), List.length_cons, Int.natCast_add, Rat.intCast_add]
    have : keepR y t = 1 := by
      unfold keepR
      rw [if_neg (by grind)]
    rw [this]
    have : (((1 : Nat) : Int) : Rat) = 1 := rfl
    grind
theorem keep_small {t : Rat} : ∀ {ss : List Int}, (∀ y ∈ ss, (y : Rat) < t) → rsum (ss.map (keepR · t)) = (ss.sum : Rat) / t
  | [], _ => by
    show rsum [] = ((0 : Int) : Rat) / t
    rw [rsum_nil]
    have : ((0 : Int) : Rat) = 0 := rfl
    grind
  | y :: ss, h => by
    have h1 := h y List.mem_cons_self
    rw [List.map_cons, rsum_cons, keep_small fun z hz => h z (List.mem_cons_of_mem _ hz), List.sum_cons, Rat.intCast_add]
    have : keepR y t = (y : Rat) / t := by
      unfold keepR
      rw [if_pos h1]
    rw [this]
    grind
theorem BestI.done {ws : List Int} {k x : Int} {ss ts : List Int} {t : Rat} (h : BestI ws k (ss ++ [x]) ts t) (hw : WsOk ws) (hk : k < ws.length) (hx : (x : Rat) < t) : BestP ws k t := by
  obtain ⟨f1, f2, f3, f4, f5⟩ := h.facts hw hk
  have hfew := h.few
  have hsm : ∀ y ∈ ss ++ [x], (y : Rat) < t := fun y hy => by
    rcases List.mem_append.mp hy with hy | hy
    · have := (List.pairwise_append.mp h.asc).2.2 y hy x (by simp)
      have : (y : Rat) ≤ (x : Rat) := Rat.intCast_le_intCast.mpr this
      grind
    · rw [List.mem_singleton.mp hy]
      exact hx
  have h0 := f2 x (by simp)
  have hx0 : (0 : Rat) < (x : Rat) := Rat.intCast_pos.mpr h0.1
  refine ⟨fun z => absurd hk (by omega), fun _ => ⟨by grind, ?_⟩, ?_⟩
  · rw [rsum_perm (h.perm.symm.map (keepR · t)), List.map_append, rsum_app, keep_small hsm, keep_big h.top]
    have hm : Rat.divInt (ss ++ [x]).sum (k - ts.length) * ((k - ts.length : Int) : Rat) = ((ss ++ [x]).sum : Rat) := divInt_mul (by omega)
    rw [← h.is] at hm
    rw [← hm, Rat.intCast_sub]
    grind
  · rw [h.is]
    exact price_sz (by omega) (by omega) (by omega) (by omega)
theorem ok_best_price (T : Txt K mg) : FnOk P w K mg base CX0 2 T.f_best_price T.fd_best_price ["weights", "size"] (sp_best_price K) := by
  refine T.F_best_price.ok sc_best_price (fun vs H Q E h => lsp_len h) (fun cdv A outer s H vs Q E hr h => ⟨_, (pss_cons (ps_if (pt_cmpR op_ge (pv 1) (pe_callB (id := "len") call_len_seq (by rfl) T.z_len (by decide +kernel) (pa_cons (pv 0) pa_nil)) (nomark _))
        (pss_one (ps_ret (pe_tup (pa_cons pe_int (pa_cons pe_int pa_nil)))))
        pss_nil)
      (pss_cons (ps_set (i := 2) sc_best_price.nd rfl (Or.inl rfl) (pe_callB (id := "sorted") cr_sortedI (by rfl) T.z_sorted (by decide +kernel) (pa_cons (pv 0) pa_nil)))
      (pss_cons (ps_set (i := 3) sc_best_price.nd rfl (Or.inl rfl) pe_int)
      (pss_cons (ps_set (i := 4) sc_best_price.nd rfl (Or.inl rfl) (pe_call (ok_lowest T) (hr.mono (by decide)) (by rfl) T.g_lowest T.F_lowest.kp T.b_lowest .nil pass0 (pa_cons (pe_callB (id := "sum") (cr_sum rfl) (by rfl) T.z_sum (by decide +kernel) (pa_cons (pv 2) pa_nil)) (pa_cons (pv 1) pa_nil))))
      (pss_cons (ps_while PassesOwn.never (pt_not (pt_val (pe_call (ok_less T) (hr.mono (by decide)) (by rfl) T.g_less T.F_less.kp T.b_less .nil pass0 (pa_cons (pe_tup (pa_cons (pe_ix ix_list (pv 2) (pe_un un_neg pe_int) (fun _ _ => rfl)) (pa_cons pe_int pa_nil))) (pa_cons (pv 4) pa_nil)))))
        (pss_cons (ps_expr (pe_bm0 PySem.F.plainAttrs_list PySem.F.slot_list_pop PySem.F.type_list_pop mt_pop (pv 2)))
        (pss_cons (ps_aug (i := 3) sc_best_price.nd rfl (Or.inl rfl) pe_int ip_add)
        (pss_one (ps_set (i := 4) sc_best_price.nd rfl (Or.inl rfl) (pe_call (ok_lowest T) (hr.mono (by decide)) (by rfl) T.g_lowest T.F_lowest.kp T.b_lowest .nil pass0 (pa_cons (pe_callB (id := "sum") (cr_sum rfl) (by rfl) T.z_sum (by decide +kernel) (pa_cons (pv 2) pa_nil)) (pa_cons (pe_op op_sub (pv 1) (pv 3)) pa_nil))))))))
      (pss_one (ps_ret (pv 4)))))))), ?_⟩)
  try dsimp only [cxK, blkK, noxK, wishK]
  refine lsp_body (N := nm_best_price) h (by decide) fun xs q hn h => ?_
  clear hn
  obtain ⟨ws, k, rfl, ⟨hw, hk⟩, hq⟩ := h
  have hl := hw.1
  refine ⟨fun hz => ?_, fun hz => ?_⟩
  · refine hq 0 ⟨fun _ => rfl, fun z => ?_, sz_zero.mono (by decide)⟩
    have hz' : ((ws.map D.int).length : Int) ≤ k := of_decide_eq_true hz
    rw [List.length_map] at hz'
    omega
  · have hz' : ¬ ((ws.map D.int).length : Int) ≤ k := of_decide_eq_false hz
    rw [List.length_map] at hz'
    have hkl : k < ws.length := by omega
    refine ⟨ws, rfl, fun ms hp ha => ⟨ms, rfl, ?_⟩⟩
    have hI : BestI ws k ms [] (Rat.divInt ms.sum (k - ([] : List Int).length)) := ⟨by rw [List.append_nil]; exact hp, ha, by simp; omega, rfl, fun _ h => by simp at h⟩
    obtain ⟨f1, f2, f3, f4, f5⟩ := hI.facts hw hkl
    have ek : k - (([] : List Int).length : Int) = k := by simp
    rw [ek] at hI
    refine ⟨ms.sum, k, rfl, ⟨show k ≠ 0 by omega, pow_up (a := 20) (by omega) (by decide), pow_up (a := 20) (by omega) (by decide)⟩, ?_⟩
    refine ⟨fun m s => ∃ (ss ts : List Int) (t : Rat), s = [some (.fr (dints ws)), some (.fr (.int k)), some (.ow false (.lst (ss.map D.int))), some (.fr (.int ts.length)), some (.fr (dF t))] ∧ m = ss.length ∧ BestI ws k ss ts t, ⟨_, ms, [], _, rfl, rfl, hI⟩, ?_⟩
    rintro m s ⟨ss, ts, t, rfl, rfl, hB⟩
    obtain ⟨g1, g2, g3, g4, g5⟩ := hB.facts hw hkl
    have hfew := hB.few
    rcases List.eq_nil_or_concat ss with rfl | ⟨ss, x, rfl⟩
    · simp at g1
      omega
    rw [List.concat_eq_append] at hB g2 g3 g4 ⊢
    have e1 : (ss ++ [x]).map D.int = ss.map D.int ++ [D.int x] := by rw [List.map_append]; rfl
    rw [e1]
    show (match atI (ss.map D.int ++ [D.int x]) (-1) with | some d => _ | none => False)
    rw [last_atI]
    have hx := g2 x (by simp)
    have hs17 : Sz 17 t := by
      rw [hB.is]
      exact price_sz (by omega) (by omega) (by omega) (by omega)
    refine ⟨(x : Rat), t, rfl, ⟨(sz_w (w := x) (by omega)).mono (by decide), hs17.mono (by decide)⟩, fun hz => ?_, fun hz => ?_⟩
    · exact hq t (hB.done hw hkl (of_decide_eq_true hz))
    · have hN := hB.next hw hkl (Rat.not_lt.mp (of_decide_eq_false hz))
      show (match (ss.map D.int ++ [D.int x])[(ss.map D.int ++ [D.int x]).length - 1]? with | some d => _ | none => False)
      rw [pop_at, List.dropLast_concat]
      refine ⟨ss, rfl, ss.sum, k - ((ts.length : Int) + 1), rfl, ⟨?_, pow_up (a := 20) ?_ (by decide), pow_up (a := 20) ?_ (by decide)⟩, ss.length, by simp, ss, x :: ts, _, ?_, rfl, hN⟩
      all_goals first | (show _ ≠ _) | skip
      · have := hN.few
        simp at this
        omega
      · rw [List.sum_append] at g3 g4
        have := sum_bd fun w z => g2 w (List.mem_append_left _ z)
        simp at g3 g4
        omega
      · omega
      · rfl
theorem take_snocF {cs : List Rat} {i : Nat} {c : Rat} (h : cs[i]? = some c) : (cs.take i).map dF ++ [dF c] = (cs.take (i + 1)).map dF := by
  rw [List.take_add_one, h, List.map_append]
  rfl
def psp_best_chances : Psp := ⟨2, fun xs q => ∃ (ws : List Int) (k : Int), xs = [.fr (dints ws), .fr (.int k)] ∧ (WsOk ws ∧ (0 < k ∧ k ≤ 6)) ∧ ∀ t, BestP ws k t → q (.fr (dFs (ws.map (keepR · t)))) []⟩

abbrev sp_best_chances (K : PySem.W.Frag) : Sp := Lsp K psp_best_chances
theorem sz_keep {w : Int} {t : Rat} (hw : w.natAbs < 2 ^ 10) (hw0 : 0 < w) (ht : Sz 17 t) : Sz 27 (keepR w t) := by
  unfold keepR
  split
  · rename_i h
    have hW : (0 : Rat) < (w : Rat) := Rat.intCast_pos.mpr hw0
    exact ((sz_w hw).div ht (by grind)).mono (by decide)
  · exact sz_one.mono (by decide)
theorem dF_neg (b : Rat) : dF (-b) = .tup [.int (0 - b.num), .int (b.den : Int)] := by
  unfold dF
  rw [Rat.neg_num, Rat.neg_den, Int.zero_sub]
theorem w_lt {w : Int} {t : Rat} : ((w : Rat) < t) ↔ w * (t.den : Int) < t.num := by
  rw [Rat.lt_iff]
  show w * (t.den : Int) < t.num * 1 ↔ _
  rw [Int.mul_one]
theorem ok_best_chances (T : Txt K mg) : FnOk P w K mg base CX0 3 T.f_best_chances T.fd_best_chances ["weights", "size"] (sp_best_chances K) := by
  refine T.F_best_chances.ok sc_best_chances (fun vs H Q E h => lsp_len h) (fun cdv A outer s H vs Q E hr h => ⟨_, (pss_cons (ps_set (i := 2) sc_best_chances.nd rfl (Or.inl rfl) (pe_call (ok_best_price T) (hr.mono (by decide)) (by rfl) T.g_best_price T.F_best_price.kp T.b_best_price .nil pass0 (pa_cons (pv 0) (pa_cons (pv 1) pa_nil))))
      (pss_cons (ps_set (i := 3) sc_best_chances.nd rfl (Or.inl rfl) (pe_lst pa_nil))
      (pss_cons (ps_for PassesOwn.never rfl (pi_list (pv 0)) (pg_name (i := 4) sc_best_chances.nd rfl (Or.inl rfl))
        (pss_cons (ps_set (i := 5) sc_best_chances.nd rfl (Or.inl rfl) (pe_not (pe_call (ok_less T) (hr.mono (by decide)) (by rfl) T.g_less T.F_less.kp T.b_less .nil pass0 (pa_cons (pe_tup (pa_cons (pv 4) (pa_cons pe_int pa_nil))) (pa_cons (pv 2) pa_nil)))))
        (pss_one (ps_expr (pe_bm PySem.F.plainAttrs_list PySem.F.slot_list_append PySem.F.type_list_append mt_append (pv 3) (pa_cons (pe_ifExp (pt_val (pv 5)) (pe_tup (pa_cons pe_int (pa_cons pe_int pa_nil))) (pe_call (ok_over T) (hr.mono (by decide)) (by rfl) T.g_over T.F_over.kp T.b_over .nil pass0 (pa_cons (pe_tup (pa_cons (pv 4) (pa_cons pe_int pa_nil))) (pa_cons (pv 2) pa_nil)))) pa_nil))))))
      (pss_one (ps_ret (pv 3)))))), ?_⟩)
  try dsimp only [cxK, blkK, noxK, wishK]
  refine lsp_body (N := nm_best_chances) h (by decide) fun xs q hn h => ?_
  clear hn
  obtain ⟨ws, k, rfl, ⟨hw, hk⟩, hq⟩ := h
  have hl := hw.1
  refine ⟨ws, k, rfl, ⟨hw, hk⟩, fun t hB => ?_⟩
  refine ⟨fun i s => ∃ x4 x5, s = [some (.fr (dints ws)), some (.fr (.int k)), some (.fr (dF t)), some (.ow false (.lst (((ws.map (keepR · t)).take i).map dF))), x4, x5], ⟨_, _, rfl⟩, ?_, ?_⟩
  · rintro i d s hd ⟨x4, x5, rfl⟩
    obtain ⟨w, hw1, rfl⟩ := map_at hd
    have hm := List.mem_of_getElem? hw1
    have h1 := hw.ab hm
    have hi := lt_of_at hw1
    have hW : (0 : Rat) < (w : Rat) := Rat.intCast_pos.mpr (hw.2 w hm).1
    have e1 : (ws.map (keepR · t))[i]? = some (keepR w t) := by rw [List.getElem?_map, hw1]; rfl
    refine ⟨(w : Rat), t, rfl, ⟨(sz_w h1).mono (by decide), hB.sz.mono (by decide)⟩, fun hz => ?_, fun hz => ?_⟩
    · have hz' : ¬ ((w : Rat) < t) := of_decide_eq_false (by simpa using hz)
      have e2 : keepR w t = 1 := by unfold keepR; rw [if_neg hz']
      refine ⟨by simp; omega, some (.fr (.int w)), some (.fr (.bl (!decide ((w : Rat) < t)))), ?_⟩
      rw [← take_snocF e1, e2]
      rfl
    · have hz' : (w : Rat) < t := of_decide_eq_true (by simpa using hz)
      have e2 : keepR w t = (w : Rat) / t := by unfold keepR; rw [if_pos hz']
      refine ⟨(w : Rat), t, rfl, ⟨(sz_w h1).mono (by decide), hB.sz.mono (by decide), by grind⟩, by simp; omega, some (.fr (.int w)), some (.fr (.bl (!decide ((w : Rat) < t)))), ?_⟩
      rw [← take_snocF e1, e2]
      rfl
  · rintro s ⟨x4, x5, rfl⟩
    rw [List.length_map, List.take_of_length_le (by simp)]
    exact .inr (hq t hB)
theorem ok__law_minus (T : Txt K mg) : FnOk P w K mg base CX0 3 T.f__law_minus T.fd__law_minus ["_law_one", "_law_other"] (sp__law_minus K) := by
  refine T.F__law_minus.ok sc__law_minus (fun vs H Q E h => lsp_len h) (fun cdv A outer s H vs Q E hr h => ⟨_, (pss_one (ps_ret (pe_call (ok__law_plus T) (hr.mono (by decide)) (by rfl) T.g__law_plus T.F__law_plus.kp T.b__law_plus .nil pass0 (pa_cons (pv 0) (pa_cons (pe_tup (pa_cons (pe_op op_sub pe_int (pe_ix ix_tup (pv 1) pe_int (fun _ _ => rfl))) (pa_cons (pe_ix ix_tup (pv 1) pe_int (fun _ _ => rfl)) pa_nil))) pa_nil))))), ?_⟩)
  try dsimp only [cxK, blkK, noxK, wishK]
  refine lsp_body (N := nm__law_minus) h (by decide) fun xs q hn h => ?_
  clear hn
  obtain ⟨a, b, rfl, ⟨ha, hb, _⟩, hq⟩ := h
  refine ⟨a, -b, by rw [dF_neg]; rfl, ⟨ha, hb.neg, trivial⟩, ?_⟩
  have e : a - b = a + -b := Rat.sub_eq_add_neg a b
  have hq' : q (.fr (dF (a + -b))) [] := by
    rw [← e]
    exact hq
  exact hq'
theorem gTs_take {ws : List Int} {t : Rat} {i : Nat} (hw : WsOk ws) (ht : Sz 24 t) (hi : i ≤ ws.length) : Sz 400 (rsum ((ws.map (gT · t)).take i)) := by
  refine sz_rsumA (m := 56) (fun r hr => sz_gTs hw ht r (List.mem_of_mem_take hr)) ?_
  rw [List.length_take, List.length_map]
  have := hw.1
  omega
theorem ok__law_bound (T : Txt K mg) : FnOk P w K mg base CX0 4 T.f__law_bound T.fd__law_bound ["_law_weights", "_law_size", "_law_price"] (sp__law_bound K) := by
  refine T.F__law_bound.ok sc__law_bound (fun vs H Q E h => lsp_len h) (fun cdv A outer s H vs Q E hr h => ⟨_, (pss_cons (ps_set (i := 3) sc__law_bound.nd rfl (Or.inl rfl) (pe_call (ok__law_times T) (hr.mono (by decide)) (by rfl) T.g__law_times T.F__law_times.kp T.b__law_times .nil pass0 (pa_cons (pe_tup (pa_cons (pe_op op_sub pe_int (pv 1)) (pa_cons pe_int pa_nil))) (pa_cons (pe_call (ok__law_times T) (hr.mono (by decide)) (by rfl) T.g__law_times T.F__law_times.kp T.b__law_times .nil pass0 (pa_cons (pv 2) (pa_cons (pv 2) pa_nil))) pa_nil))))
      (pss_cons (ps_for PassesOwn.never rfl (pi_list (pv 0)) (pg_name (i := 4) sc__law_bound.nd rfl (Or.inl rfl))
        (pss_one (ps_if (pt_cmpR op_ge (pe_op op_mulW (pv 4) (pe_ix ix_tup (pv 2) pe_int (fun _ _ => rfl))) (pe_ix ix_tup (pv 2) pe_int (fun _ _ => rfl)) (nomark _))
          (pss_one (ps_set (i := 3) sc__law_bound.nd rfl (Or.inl rfl) (pe_call (ok__law_plus T) (hr.mono (by decide)) (by rfl) T.g__law_plus T.F__law_plus.kp T.b__law_plus .nil pass0 (pa_cons (pv 3) (pa_cons (pe_call (ok__law_times T) (hr.mono (by decide)) (by rfl) T.g__law_times T.F__law_times.kp T.b__law_times .nil pass0 (pa_cons (pv 2) (pa_cons (pv 2) pa_nil))) pa_nil)))))
          (pss_one (ps_set (i := 3) sc__law_bound.nd rfl (Or.inl rfl) (pe_call (ok__law_plus T) (hr.mono (by decide)) (by rfl) T.g__law_plus T.F__law_plus.kp T.b__law_plus .nil pass0 (pa_cons (pv 3) (pa_cons (pe_call (ok__law_minus T) (hr.mono (by decide)) (by rfl) T.g__law_minus T.F__law_minus.kp T.b__law_minus .nil pass0 (pa_cons (pe_call (ok__law_times T) (hr.mono (by decide)) (by rfl) T.g__law_times T.F__law_times.kp T.b__law_times .nil pass0 (pa_cons (pe_tup (pa_cons (pe_op op_mulW pe_int (pv 4)) (pa_cons pe_int pa_nil))) (pa_cons (pv 2) pa_nil))) (pa_cons (pe_tup (pa_cons (pe_op op_mulW (pv 4) (pv 4)) (pa_cons pe_int pa_nil))) pa_nil))) pa_nil))))))))
      (pss_one (ps_ret (pv 3))))), ?_⟩)
  try dsimp only [cxK, blkK, noxK, wishK]
  refine lsp_body (N := nm__law_bound) h (by decide) fun xs q hn h => ?_
  clear hn
  obtain ⟨ws, k, t, rfl, ⟨hw, hk, ht⟩, hq⟩ := h
  have hl := hw.1
  have hk1 : Sz 5 ((0 - k : Int) : Rat) := sz_int (by omega) (by decide)
  have hk2 : Sz 60 (((0 - k : Int) : Rat) * (t * t)) := (hk1.mul (ht.mul ht)).mono (by decide)
  refine ⟨t, t, rfl, ⟨ht.mono (by decide), ht.mono (by decide), trivial⟩, ((0 - k : Int) : Rat), _, rfl, ⟨hk1.mono (by decide), (ht.mul ht).mono (by decide), trivial⟩, ?_⟩
  refine ⟨fun i s => ∃ x4, s = [some (.fr (dints ws)), some (.fr (.int k)), some (.fr (dF t)), some (.fr (dF (((0 - k : Int) : Rat) * (t * t) + rsum ((ws.map (gT · t)).take i)))), x4], ⟨none, ?_⟩, ?_, ?_⟩
  · rw [List.take_zero, rsum_nil, Rat.add_zero]
    rfl
  · rintro i d s hd ⟨x4, rfl⟩
    obtain ⟨w, hw1, rfl⟩ := map_at hd
    have h1 := hw.ab (List.mem_of_getElem? hw1)
    have hi := lt_of_at hw1
    have e1 : (ws.map (gT · t))[i]? = some (gT w t) := by rw [List.getElem?_map, hw1]; rfl
    have hS := (hk2.add (gTs_take hw ht (by omega : i ≤ ws.length))).mono (show _ ≤ 470 by decide)
    refine ⟨mulOk (m := 10) (n := 24) h1 ht.d (by decide) (by decide) (by decide), fun hz => ?_, fun hz => ?_⟩
    · have hz' : ¬ ((w : Rat) < t) := by rw [w_lt]; have := of_decide_eq_true hz; omega
      have e2 : gT w t = t * t := by unfold gT; rw [if_neg hz']
      refine ⟨t, t, rfl, ⟨ht.mono (by decide), ht.mono (by decide), trivial⟩, _, _, rfl, ⟨hS.mono (by decide), (ht.mul ht).mono (by decide), trivial⟩, some (.fr (.int w)), ?_⟩
      rw [rsum_take e1, e2, ← Rat.add_assoc]
      rfl
    · have hz' : (w : Rat) < t := by rw [w_lt]; have := of_decide_eq_false hz; omega
      have e2 : gT w t = ((2 * w : Int) : Rat) * t - ((w * w : Int) : Rat) := by unfold gT; rw [if_pos hz']
      refine ⟨mulS (by decide) (by omega), ((2 * w : Int) : Rat), t, rfl, ⟨(sz_dbl h1).mono (by decide), ht.mono (by decide), trivial⟩, mulS (by omega) (by omega), _, ((w * w : Int) : Rat), rfl,
        ⟨((sz_dbl h1).mul ht).mono (by decide), (sz_sq h1).mono (by decide), trivial⟩, _, _, rfl, ⟨hS.mono (by decide), (((sz_dbl h1).mul ht).sub (sz_sq h1)).mono (by decide), trivial⟩, some (.fr (.int w)), ?_⟩
      rw [rsum_take e1, e2, ← Rat.add_assoc]
      rfl
  · rintro s ⟨x4, rfl⟩
    rw [List.length_map, List.take_of_length_le (by simp)]
    have e : ((0 - k : Int) : Rat) * (t * t) + rsum (ws.map (gT · t)) = boundR ws k t := by
      unfold boundR
      rw [Int.zero_sub, Rat.intCast_neg]
      grind
    rw [e]
    exact hq
abbrev sp__law_spread (K : PySem.W.Frag) : Sp := Lsp K psp_spread
theorem sp1_low {w : Int} {c : Rat} (h : 0 < c) : Rat.divInt (w * w * ((c.den : Int) - c.num)) c.num = sp1 w c := by
  have hn : c.num ≠ 0 := num_ne (by grind)
  have hn' : ((c.num : Int) : Rat) ≠ 0 := fun z => hn (Rat.intCast_inj.mp z)
  have hd' : ((c.den : Int) : Rat) ≠ 0 := fun z => den_ne c (Rat.intCast_inj.mp z)
  have hc : c = (c.num : Rat) / ((c.den : Int) : Rat) := by
    rw [← Rat.divInt_eq_div]
    exact (Rat.num_divInt_den c).symm
  unfold sp1
  rw [Rat.divInt_eq_div, castMul, Rat.intCast_sub]
  generalize ((w * w : Int) : Rat) = W
  generalize ((c.den : Int) : Rat) = q at *
  generalize ((c.num : Int) : Rat) = p at *
  subst hc
  grind
theorem ok__law_spread (T : Txt K mg) : FnOk P w K mg base CX0 3 T.f__law_spread T.fd__law_spread ["_law_weights", "_law_chances_here"] (sp__law_spread K) := by
  refine T.F__law_spread.ok sc__law_spread (fun vs H Q E h => lsp_len h) (fun cdv A outer s H vs Q E hr h => ⟨_, (pss_cons (ps_set (i := 2) sc__law_spread.nd rfl (Or.inl rfl) (pe_tup (pa_cons pe_int (pa_cons pe_int pa_nil))))
      (pss_cons (ps_for PassesOwn.never rfl (pi_range1 (by rfl) T.z_range (pa_cons (pe_callB (id := "len") call_len_seq (by rfl) T.z_len (by decide +kernel) (pa_cons (pv 0) pa_nil)) pa_nil)) (pg_name (i := 3) sc__law_spread.nd rfl (Or.inl rfl))
        (pss_cons (ps_asg (pe_ix ix_list (pv 1) (pv 3) (fun _ _ => rfl)) (pg_tup rfl (pgs_cons (pg_name (i := 4) sc__law_spread.nd rfl (Or.inl rfl)) (pgs_cons (pg_name (i := 5) sc__law_spread.nd rfl (Or.inl rfl)) pgs_nil))))
        (pss_one (ps_set (i := 2) sc__law_spread.nd rfl (Or.inl rfl) (pe_call (ok__law_plus T) (hr.mono (by decide)) (by rfl) T.g__law_plus T.F__law_plus.kp T.b__law_plus .nil pass0 (pa_cons (pv 2) (pa_cons (pe_call (ok__law_low T) (hr.mono (by decide)) (by rfl) T.g__law_low T.F__law_low.kp T.b__law_low .nil pass0 (pa_cons (pe_op op_mulW (pe_op op_mulW (pe_ix ix_list (pv 0) (pv 3) (fun _ _ => rfl)) (pe_ix ix_list (pv 0) (pv 3) (fun _ _ => rfl))) (pe_op op_sub (pv 5) (pv 4))) (pa_cons (pv 4) pa_nil))) pa_nil)))))))
      (pss_one (ps_ret (pv 2))))), ?_⟩)
  try dsimp only [cxK, blkK, noxK, wishK]
  refine lsp_body (N := nm__law_spread) h (by decide) fun xs q hn h => ?_
  clear hn
  obtain ⟨ws, cs, rfl, ⟨hw, hc, hl⟩, hq⟩ := h
  have hl6 := hw.1
  refine ⟨⟨by simp <;> omega, by simp <;> omega⟩, fun i s => ∃ x3 x4 x5, s = [some (.fr (dints ws)), some (.fr (dFs cs)), some (.fr (dF (rsum ((List.zipWith sp1 ws cs).take i)))), x3, x4, x5], ⟨_, _, _, rfl⟩, ?_, ?_⟩
  · rintro i d s hd ⟨x3, x4, x5, rfl⟩
    obtain ⟨hi, rfl⟩ := rngD_get hd
    have hi' : i < ws.length := by simpa using hi
    have hw1 : ws[i]? = some ws[i] := List.getElem?_eq_getElem hi'
    have hc1 : cs[i]? = some cs[i] := List.getElem?_eq_getElem (by omega)
    generalize ws[i] = w at hw1
    generalize cs[i]'(by omega) = c at hc1
    have h1 := hw.ab (List.mem_of_getElem? hw1)
    obtain ⟨c0, c1, sc⟩ := hc c (List.mem_of_getElem? hc1)
    have g1 : atI (ws.map D.int) (0 + (i : Nat)) = some (D.int w) := atI_get (by omega) (by rw [show ((0 : Int) + (i : Nat)).toNat = i by omega]; exact at_map hw1)
    have g2 : atI (cs.map dF) (0 + (i : Nat)) = some (dF c) := atI_get (by omega) (by rw [show ((0 : Int) + (i : Nat)).toNat = i by omega]; exact at_map hc1)
    show (match atI (cs.map dF) (0 + (i : Nat)) with | some z => _ | none => False)
    rw [g2]
    show (match atI (ws.map D.int) (0 + (i : Nat)) with | some z => _ | none => False)
    rw [g1]
    show (match atI (ws.map D.int) (0 + (i : Nat)) with | some z => _ | none => False)
    rw [g1]
    have hnum : 0 < c.num := by
      have := (Rat.lt_iff 0 c).mp c0
      simpa using this
    have b1 : (w * w).natAbs < 2 ^ 20 := Nat.lt_of_lt_of_le (abs_mul_lt h1 h1) (by decide)
    have b2 : ((c.den : Int) - c.num).natAbs < 2 ^ 31 := by
      have := sc.1
      have := sc.2
      omega
    have hz : ∀ r ∈ (List.zipWith sp1 ws cs).take i, Sz 53 r := fun r hr => by
      obtain ⟨j, hj⟩ := List.getElem?_of_mem (List.mem_of_mem_take hr)
      rw [List.getElem?_zipWith] at hj
      cases e1 : ws[j]? with
      | none => rw [e1] at hj; cases hj
      | some w =>
        cases e2 : cs[j]? with
        | none => rw [e1, e2] at hj; cases hj
        | some c =>
          rw [e1, e2] at hj
          cases hj
          have := hc c (List.mem_of_getElem? e2)
          exact sz_sp1 (hw.ab (List.mem_of_getElem? e1)) this.2.2 (by have := this.1; grind)
    refine ⟨mulS (by omega) (by omega), mulS (by omega) (by omega), _, _, rfl, ⟨hnum, pow_up (abs_mul_lt b1 b2) (by decide), pow_up sc.1 (by decide)⟩, _, _, rfl,
      ⟨sz_rsumA hz (by rw [List.length_take]; show _ ≤ 980; omega), ?_, trivial⟩, ?_⟩
    · rw [sp1_low c0]
      exact (sz_sp1 h1 sc (by grind)).mono (by decide)
    · rw [sp1_low c0]
      exact ⟨_, _, _, by rw [rsum_take (by rw [List.getElem?_zipWith, hw1, hc1])]; rfl⟩
  · rintro s ⟨x3, x4, x5, rfl⟩
    rw [List.take_of_length_le (by simp [rngD]; omega)]
    exact hq
theorem psp_len_note : True := trivial
def psp__law_chances : Psp := ⟨3, fun xs q => ∃ (ns : List Int) (m k : Int), xs = [.ow true (rowO ns), .fr (.int m), .fr (.int k)] ∧ ((0 < m ∧ m ≤ 6) ∧ (0 < k ∧ k ≤ 6)) ∧
  ∀ (cs : List Rat) (ms : List Int), (cs.length : Int) = m → CsOk cs → rsum cs ≤ (k : Rat) → q (.fr (dFs cs)) [rowO ms]⟩
abbrev sp__law_chances (K : PySem.W.Frag) : Sp := Lsp K psp__law_chances
/-- one chance -/
def chR (p k w : Int) : Rat := if (1 : Rat) < Rat.divInt (p * k) w then 1 else Rat.divInt (p * k) w
theorem chR_ok {p k w : Int} (hp : 0 < p ∧ p ≤ 12) (hk : 0 < k ∧ k ≤ 6) (hw : 0 < w ∧ w ≤ 100) : 0 < chR p k w ∧ chR p k w ≤ 1 ∧ Sz 30 (chR p k w) ∧ chR p k w ≤ (p : Rat) * ((k : Rat) / (w : Rat)) := by
  have hp0 : (0 : Rat) < (p : Rat) := Rat.intCast_pos.mpr hp.1
  have hk0 : (0 : Rat) < (k : Rat) := Rat.intCast_pos.mpr hk.1
  have hw0 : (0 : Rat) < (w : Rat) := Rat.intCast_pos.mpr hw.1
  have e : Rat.divInt (p * k) w = (p : Rat) * ((k : Rat) / (w : Rat)) := by
    rw [Rat.divInt_eq_div, castMul]
    grind
  have hpk : p * k ≤ 12 * 6 := Int.mul_le_mul hp.2 hk.2 (by omega) (by omega)
  have hpk0 : 0 < p * k := Int.mul_pos hp.1 hk.1
  have hs : Sz 30 (Rat.divInt (p * k) w) := sz_divInt (by omega) (by omega) (by omega)
  have h0 : 0 < (p : Rat) * ((k : Rat) / (w : Rat)) := by
    rw [Rat.div_def]
    exact Rat.mul_pos hp0 (Rat.mul_pos hk0 (Rat.inv_pos.mpr hw0))
  unfold chR
  split
  · rename_i h
    exact ⟨by decide, Rat.le_refl, sz_one.mono (by decide), by rw [← e]; exact Rat.le_of_lt h⟩
  · rename_i h
    rw [e] at h hs ⊢
    exact ⟨h0, Rat.not_lt.mp h, hs, Rat.le_refl⟩
theorem chR_sum {k w : Int} (hk : 0 < k ∧ k ≤ 6) (hw : 0 < w ∧ w ≤ 100) : ∀ {ps : List Int}, (∀ p ∈ ps, 0 < p ∧ p ≤ 12) → rsum (ps.map (chR · k w)) ≤ (ps.sum : Rat) * ((k : Rat) / (w : Rat))
  | [], _ => by
    show rsum [] ≤ ((0 : Int) : Rat) * _
    rw [rsum_nil]
    have : ((0 : Int) : Rat) = 0 := rfl
    grind
  | p :: ps, h => by
    have h1 := (chR_ok (h p List.mem_cons_self) hk hw).2.2.2
    have h2 := chR_sum hk hw fun q hq => h q (List.mem_cons_of_mem _ hq)
    rw [List.map_cons, rsum_cons, List.sum_cons, Rat.intCast_add]
    grind
theorem one_lt {c : Rat} : (c.num > (c.den : Int)) ↔ 1 < c := by
  rw [Rat.lt_iff]
  show _ ↔ 1 * (c.den : Int) < c.num * 1
  omega
theorem sum_12 : ∀ {ps : List Int}, (∀ p ∈ ps, 0 < p ∧ p ≤ 12) → (ps.length : Int) ≤ ps.sum ∧ ps.sum ≤ 12 * (ps.length : Int)
  | [], _ => by simp
  | w :: ws, h => by
    have h1 := h w List.mem_cons_self
    have h2 := sum_12 fun x hx => h x (List.mem_cons_of_mem _ hx)
    rw [List.sum_cons, List.length_cons]
    omega
theorem csok_snoc {cs : List Rat} {c : Rat} (h : CsOk cs) (hc : 0 < c ∧ c ≤ 1 ∧ Sz 30 c) : CsOk (cs ++ [c]) := fun x hx => by
  rcases List.mem_append.mp hx with hx | hx
  · exact h x hx
  · rw [List.mem_singleton.mp hx]
    exact hc
theorem map_snocI (ps : List Int) (p : Int) : ps.map D.int ++ [D.int p] = (ps ++ [p]).map D.int := by rw [List.map_append]; rfl
theorem ok__law_chances (T : Txt K mg) : FnOk P w K mg base CX0 2 T.f__law_chances T.fd__law_chances ["_law_row", "_law_many", "_law_size"] (sp__law_chances K) := by
  refine T.F__law_chances.ok sc__law_chances (fun vs H Q E h => lsp_len h) (fun cdv A outer s H vs Q E hr h => ⟨_, (pss_cons (ps_setLc (i := 3) (own := [("_law_k", 8)]) (g := gName 8) rfl sc__law_chances.nd rfl rfl (sw_true rfl rfl rfl (by decide +kernel)) (pi_range1 (by rfl) T.z_range (pa_cons (pv 1) pa_nil)) (blkOk_by (own := [("_law_k", 8)]) (N := nm__law_chances) (sc := defScope s__law_chances) (by decide +kernel)) (fun _ _ _ _ _ => pg_name (i := 8) sc__law_chances.nd rfl (Or.inl rfl)) (fun _ _ _ _ _ => pts_nil) (fun _ _ _ _ _ => (pe_op op_add pe_int (pe_call (ok__law_take T) (hr.mono (by decide)) (by rfl) T.g__law_take T.F__law_take.kp T.b__law_take .nil pass0 (pa_cons (pv 0) (pa_cons pe_int pa_nil))))))
      (pss_cons (ps_set (i := 4) sc__law_chances.nd rfl (Or.inl rfl) (pe_op op_add (pe_callB (id := "max") (call_max2 rfl) (by rfl) T.z_max (by decide +kernel) (pa_cons (pe_callB (id := "sum") (cr_sum rfl) (by rfl) T.z_sum (by decide +kernel) (pa_cons (pv 3) pa_nil)) (pa_cons pe_int pa_nil))) (pe_call (ok__law_take T) (hr.mono (by decide)) (by rfl) T.g__law_take T.F__law_take.kp T.b__law_take .nil pass0 (pa_cons (pv 0) (pa_cons pe_int pa_nil)))))
      (pss_cons (ps_set (i := 5) sc__law_chances.nd rfl (Or.inl rfl) (pe_lst pa_nil))
      (pss_cons (ps_for PassesOwn.never rfl (pi_list (pv 3)) (pg_name (i := 6) sc__law_chances.nd rfl (Or.inl rfl))
        (pss_cons (ps_set (i := 7) sc__law_chances.nd rfl (Or.inl rfl) (pe_call (ok__law_low T) (hr.mono (by decide)) (by rfl) T.g__law_low T.F__law_low.kp T.b__law_low .nil pass0 (pa_cons (pe_op op_mulW (pv 6) (pv 2)) (pa_cons (pv 4) pa_nil))))
        (pss_cut (ps_if (pt_cmpR op_gt (pe_ix ix_tup (pv 7) pe_int (fun _ _ => rfl)) (pe_ix ix_tup (pv 7) pe_int (fun _ _ => rfl)) (nomark _))
          (pss_one (ps_set (i := 7) sc__law_chances.nd rfl (Or.inl rfl) (pe_tup (pa_cons pe_int (pa_cons pe_int pa_nil)))))
          pss_nil)
        (pss_one (ps_expr (pe_bm PySem.F.plainAttrs_list PySem.F.slot_list_append PySem.F.type_list_append mt_append (pv 5) (pa_cons (pv 7) pa_nil)))))))
      (pss_one (ps_ret (pv 5))))))), ?_⟩)
  try dsimp only [cxK, blkK, noxK, wishK]
  refine lsp_body (N := nm__law_chances) h (by decide) fun xs q hn h => ?_
  clear hn
  obtain ⟨ns, m, k, rfl, ⟨hm, hk⟩, hq⟩ := h
  dsimp only [psSeq, psSet, psRet, psDrop, psAsg, pCall, prCons, prNil, pDat, pCB, pCons, pOp]
  refine ⟨⟨by omega, by omega⟩, by rw [rngD_len]; omega, fun i acc s => ∃ (ps ns : List Int), acc = ps.map D.int ∧ ps.length = i ∧ (∀ p ∈ ps, 0 < p ∧ p ≤ 12) ∧
    s = [some (.ow true (rowO ns)), some (.fr (.int m)), some (.fr (.int k)), none, none, none, none, none, none], ⟨[], ns, rfl, rfl, by simp, rfl⟩, ?_, ?_⟩
  · rintro i d acc s hd ⟨ps, ns, rfl, hp, hall, rfl⟩
    refine ⟨ns, 12, rfl, by decide, fun z ms z0 z1 => ⟨ps ++ [1 + z], ms, map_snocI ps (1 + z), by simp [hp], fun p h => ?_, rfl⟩⟩
    rcases List.mem_append.mp h with h | h
    · exact hall p h
    · rw [List.mem_singleton.mp h]
      omega
  · rintro acc s ⟨ps, ns, rfl, hp, hall, rfl⟩
    rw [rngD_len] at hp
    have hs := sum_12 hall
    refine ⟨ps, rfl, ns, 6, rfl, by decide, fun z ms z0 z1 => ?_⟩
    have hw : 0 < (if 1 > ps.sum then 1 else ps.sum) + z ∧ (if 1 > ps.sum then 1 else ps.sum) + z ≤ 100 ∧ ps.sum ≤ (if 1 > ps.sum then 1 else ps.sum) + z := by
      split <;> omega
    obtain ⟨w, hwd⟩ : ∃ w, w = (if 1 > ps.sum then 1 else ps.sum) + z := ⟨_, rfl⟩
    rw [← hwd] at hw
    refine ⟨fun i s => ∃ x6 x7, s = [some (.ow true (rowO ms)), some (.fr (.int m)), some (.fr (.int k)), some (.fr (dints ps)), some (.fr (.int w)), some (.ow false (.lst (((ps.map (chR · k w)).take i).map dF))), x6, x7, none], ⟨_, _, by rw [hwd]; rfl⟩, ?_, ?_⟩
    · rintro i d s hd ⟨x6, x7, rfl⟩
      obtain ⟨p, hp1, rfl⟩ := map_at hd
      have hpp := hall p (List.mem_of_getElem? hp1)
      have hi := lt_of_at hp1
      have hpk : p * k ≤ 12 * 6 := Int.mul_le_mul hpp.2 hk.2 (by omega) (by omega)
      have hpk0 : 0 < p * k := Int.mul_pos hpp.1 hk.1
      have e1 : (ps.map (chR · k w))[i]? = some (chR p k w) := by rw [List.getElem?_map, hp1]; rfl
      refine ⟨mulS (by omega) (by omega), p * k, w, rfl, ⟨hw.1, pow_up (a := 20) (by omega) (by decide), pow_up (a := 20) (by omega) (by decide)⟩, ?_⟩
      refine ⟨fun s => ∃ x6, s = [some (.ow true (rowO ms)), some (.fr (.int m)), some (.fr (.int k)), some (.fr (dints ps)), some (.fr (.int w)), some (.ow false (.lst (((ps.map (chR · k w)).take i).map dF))), x6, some (.fr (dF (chR p k w))), none], ⟨fun hz => ?_, fun hz => ?_⟩, ?_⟩
      · have hz' : (1 : Rat) < Rat.divInt (p * k) w := one_lt.mp (of_decide_eq_true hz)
        have e2 : chR p k w = 1 := by unfold chR; rw [if_pos hz']
        rw [e2]
        exact ⟨_, rfl⟩
      · have hz' : ¬ (1 : Rat) < Rat.divInt (p * k) w := fun z => of_decide_eq_false hz (one_lt.mpr z)
        have e2 : chR p k w = Rat.divInt (p * k) w := by unfold chR; rw [if_neg hz']
        rw [e2]
        exact ⟨_, rfl⟩
      · rintro s ⟨x6, rfl⟩
        exact ⟨by simp; omega, _, _, by rw [← take_snocF e1]; rfl⟩
    · rintro s ⟨x6, x7, rfl⟩
      rw [List.length_map, List.take_of_length_le (by simp)]
      refine .inr (hq _ ms (by rw [List.length_map]; omega) (fun c hc => ?_) ?_)
      · obtain ⟨p, hp1, rfl⟩ := List.mem_map.mp hc
        have := chR_ok (hall p hp1) hk ⟨hw.1, hw.2.1⟩
        exact ⟨this.1, this.2.1, this.2.2.1⟩
      · have h1 := chR_sum hk ⟨hw.1, hw.2.1⟩ hall
        have h2 : (ps.sum : Rat) ≤ (w : Rat) := Rat.intCast_le_intCast.mpr hw.2.2
        have hw0 : (0 : Rat) < (w : Rat) := Rat.intCast_pos.mpr hw.1
        have hk0 : (0 : Rat) < (k : Rat) := Rat.intCast_pos.mpr hk.1
        have h3 : 0 ≤ (k : Rat) / (w : Rat) := by
          rw [Rat.div_def]
          exact Rat.le_of_lt (Rat.mul_pos hk0 (Rat.inv_pos.mpr hw0))
        have h4 := Rat.mul_le_mul_of_nonneg_right h2 h3
        have h5 : (w : Rat) * ((k : Rat) / (w : Rat)) = (k : Rat) := by grind
        grind
def psp__law_kept : Psp := ⟨2, fun xs q => ∃ (ws : List Int) (t : Rat), xs = [.fr (dints ws), .fr (dF t)] ∧ (WsOk ws ∧ Sz 17 t ∧ 0 ≤ t) ∧ q (.fr (dFs (ws.map (keepR · t)))) []⟩
abbrev sp__law_kept (K : PySem.W.Frag) : Sp := Lsp K psp__law_kept
theorem dF_zero {t : Rat} : dF t = .tup [.int 0, .int 1] ↔ t = 0 := ⟨fun h => dF_inj (h.trans rfl), fun h => by rw [h]; rfl⟩
theorem ok__law_kept (T : Txt K mg) : FnOk P w K mg base CX0 2 T.f__law_kept T.fd__law_kept ["_law_weights", "_law_price"] (sp__law_kept K) := by
  refine T.F__law_kept.ok sc__law_kept (fun vs H Q E h => lsp_len h) (fun cdv A outer s H vs Q E hr h => ⟨_, (pss_cons (ps_set (i := 2) sc__law_kept.nd rfl (Or.inl rfl) (pe_lst pa_nil))
      (pss_cons (ps_for PassesOwn.never rfl (pi_list (pv 0)) (pg_name (i := 3) sc__law_kept.nd rfl (Or.inl rfl))
        (pss_cons (ps_set (i := 4) sc__law_kept.nd rfl (Or.inl rfl) (pe_tup (pa_cons pe_int (pa_cons pe_int pa_nil))))
        (pss_cut (ps_if (PW.pt (pw_and (pt_cmpR (op_neD hr.units) (pv 1) (pe_tup (pa_cons pe_int (pa_cons pe_int pa_nil))) (nomark _)) (pw_and1 (pt_cmpR op_lt (pe_op op_mulW (pv 3) (pe_ix ix_tup (pv 1) pe_int (fun _ _ => rfl))) (pe_ix ix_tup (pv 1) pe_int (fun _ _ => rfl)) (nomark _)))))
          (pss_one (ps_set (i := 4) sc__law_kept.nd rfl (Or.inl rfl) (pe_call (ok__law_low T) (hr.mono (by decide)) (by rfl) T.g__law_low T.F__law_low.kp T.b__law_low .nil pass0 (pa_cons (pe_op op_mulW (pv 3) (pe_ix ix_tup (pv 1) pe_int (fun _ _ => rfl))) (pa_cons (pe_ix ix_tup (pv 1) pe_int (fun _ _ => rfl)) pa_nil)))))
          pss_nil)
        (pss_one (ps_expr (pe_bm PySem.F.plainAttrs_list PySem.F.slot_list_append PySem.F.type_list_append mt_append (pv 2) (pa_cons (pv 4) pa_nil)))))))
      (pss_one (ps_ret (pv 2))))), ?_⟩)
  try dsimp only [cxK, blkK, noxK, wishK]
  refine lsp_body (N := nm__law_kept) h (by decide) fun xs q hn h => ?_
  clear hn
  obtain ⟨ws, t, rfl, ⟨hw, ht, t0⟩, hq⟩ := h
  have hl := hw.1
  refine ⟨fun i s => ∃ x3 x4, s = [some (.fr (dints ws)), some (.fr (dF t)), some (.ow false (.lst (((ws.map (keepR · t)).take i).map dF))), x3, x4], ⟨_, _, rfl⟩, ?_, ?_⟩
  · rintro i d s hd ⟨x3, x4, rfl⟩
    obtain ⟨w, hw1, rfl⟩ := map_at hd
    have hm := List.mem_of_getElem? hw1
    have h1 := hw.ab hm
    have hi := lt_of_at hw1
    have e1 : (ws.map (keepR · t))[i]? = some (keepR w t) := by rw [List.getElem?_map, hw1]; rfl
    refine ⟨fun s => ∃ x3, s = [some (.fr (dints ws)), some (.fr (dF t)), some (.ow false (.lst (((ws.map (keepR · t)).take i).map dF))), x3, some (.fr (dF (keepR w t)))], ?_, ?_⟩
    · have no : ¬ (w : Rat) < t → ∃ x3, [some (S.fr (dints ws)), some (.fr (dF t)), some (.ow false (.lst (((ws.map (keepR · t)).take i).map dF))), some (.fr (.int w)), some (.fr (.tup [.int 1, .int 1]))] =
          [some (S.fr (dints ws)), some (.fr (dF t)), some (.ow false (.lst (((ws.map (keepR · t)).take i).map dF))), x3, some (.fr (dF (keepR w t)))] := fun hz => by
        have e2 : keepR w t = 1 := by unfold keepR; rw [if_neg hz]
        rw [e2]
        exact ⟨_, rfl⟩
      refine ⟨pl_dF _ _, rfl, fun hz => ?_, fun hz => ?_⟩
      · refine ⟨mulOk (m := 10) (n := 17) h1 ht.d (by decide) (by decide) (by decide), fun hz2 => ?_, fun hz2 => no fun z => of_decide_eq_false hz2 (w_lt.mp z)⟩
        have hlt : (w : Rat) < t := w_lt.mpr (of_decide_eq_true hz2)
        have hn : 0 < t.num := by
          have hW : (0 : Rat) < (w : Rat) := Rat.intCast_pos.mpr (hw.2 w hm).1
          have := (Rat.lt_iff 0 t).mp (by grind)
          simpa using this
        refine ⟨mulOk (m := 10) (n := 17) h1 ht.d (by decide) (by decide) (by decide), _, _, rfl, ⟨hn, pow_up (abs_mul_lt h1 ht.d) (by decide), pow_up ht.1 (by decide)⟩, ?_⟩
        have e2 : keepR w t = Rat.divInt (w * (t.den : Int)) t.num := by
          unfold keepR
          rw [if_pos hlt, ← div_divInt]
          show _ = Rat.divInt (w * (t.den : Int)) t.num
          rw [show ((w : Rat).den : Int) = 1 from rfl, Int.one_mul]
          rfl
        rw [e2]
        exact ⟨_, rfl⟩
      · have hz' : dF t = .tup [.int 0, .int 1] := of_eqD (nf hz)
        have t00 := dF_zero.mp hz'
        exact no (by
          have hW : (0 : Rat) < (w : Rat) := Rat.intCast_pos.mpr (hw.2 w hm).1
          grind)
    · rintro s ⟨x3, rfl⟩
      exact ⟨by simp; omega, _, _, by rw [← take_snocF e1]; rfl⟩
  · rintro s ⟨x3, x4, rfl⟩
    rw [List.length_map, List.take_of_length_le (by simp)]
    exact .inr hq

theorem neq_no {d e : D} {C : Prop} (h : not (eqD d e) = true) (he : d = e) : C := by
  rw [eqD_true he] at h
  cases h
theorem lt_no {a b : Rat} {C : Prop} (h : decide (a < b) = true) (hle : b ≤ a) : C := absurd (of_decide_eq_true h) (Rat.not_lt.mpr hle)
theorem divInt_nn {a b : Int} (ha : 0 ≤ a) (hb : 0 < b) : 0 ≤ Rat.divInt a b := by
  rw [Rat.divInt_eq_div, Rat.div_def]
  exact Rat.mul_nonneg (Rat.intCast_nonneg.mpr ha) (Rat.le_of_lt (Rat.inv_pos.mpr (Rat.intCast_pos.mpr hb)))
abbrev L53 (sc ns : List Int) (w z g b c h k d o t p f l kk : Option S) : Sl := [some (.fr (.scr sc)), some (.ow false (rowO ns)), w, z, g, b, c, h, k, d, o, t, p, f, l, kk]
theorem pl_dints (n : Nat) (ws : List Int) : D.plN (n + 1) (dints ws) = true := all_pl (fun i => plN_int n i) ws
theorem okP_law (T : Txt K mg) : FnOk P w K mg base CX0 5 T.f_law T.fd_law ["_law_script"] (Lsp K psp_law) := by
  refine T.F_law.ok sc_law (fun vs H Q E h => lsp_len h) (fun cdv A outer s H vs Q E hr h => ⟨_, (pss_cons (ps_set (i := 1) sc_law.nd rfl (Or.inr rfl) (pe_call (ok__law_numbers T) (hr.mono (by decide)) (by rfl) T.g__law_numbers T.F__law_numbers.kp T.b__law_numbers .nil pass0 (pa_cons (pv 0) (pa_cons pe_int pa_nil))))
      (pss_cons (ps_set (i := 2) sc_law.nd rfl (Or.inr rfl) (pe_lc (own := [("_law_k", 15)]) (g := gName 15) rfl sc_law.nd (pi_range1 (by rfl) T.z_range (pa_cons (pe_op op_add pe_int (pe_call (ok__law_take T) (hr.mono (by decide)) (by rfl) T.g__law_take T.F__law_take.kp T.b__law_take .nil pass0 (pa_cons (pv 1) (pa_cons pe_int pa_nil)))) pa_nil)) (blkOk_by (own := [("_law_k", 15)]) (N := nm_law) (sc := defScope s_law) (by decide +kernel)) (fun _ _ _ _ _ => pg_name (i := 15) sc_law.nd rfl (Or.inl rfl)) (fun _ _ _ _ _ => pts_nil) (fun _ _ _ _ _ => (pe_ix (ixLk (K := K) rfl) (pe_lst (pa_cons (pe_op op_add pe_int (pe_call (ok__law_take T) (hr.mono (by decide)) (by rfl) T.g__law_take T.F__law_take.kp T.b__law_take .nil pass0 (pa_cons (pv 1) (pa_cons pe_int pa_nil)))) (pa_cons (pe_op op_add pe_int (pe_call (ok__law_take T) (hr.mono (by decide)) (by rfl) T.g__law_take T.F__law_take.kp T.b__law_take .nil pass0 (pa_cons (pv 1) (pa_cons pe_int pa_nil)))) pa_nil))) (pe_callTy (T := "int") call_int1 (by rfl) T.z_int (by decide +kernel) (pa_cons (pe_cmpR op_eq (pe_call (ok__law_take T) (hr.mono (by decide)) (by rfl) T.g__law_take T.F__law_take.kp T.b__law_take .nil pass0 (pa_cons (pv 1) (pa_cons pe_int pa_nil))) pe_int (nomark _)) pa_nil)) (fun _ _ => rfl)))))
      (pss_cut (ps_set (i := 3) sc_law.nd rfl (Or.inr rfl) (pe_op op_add pe_int (pe_call (ok__law_take T) (hr.mono (by decide)) (by rfl) T.g__law_take T.F__law_take.kp T.b__law_take .nil pass0 (pa_cons (pv 1) (pa_cons (pe_ix ix_list (pe_lst (pa_cons (pe_callB (id := "len") call_len_seq (by rfl) T.z_len (by decide +kernel) (pa_cons (pv 2) pa_nil)) (pa_cons pe_int pa_nil))) (pe_callTy (T := "int") call_int1 (by rfl) T.z_int (by decide +kernel) (pa_cons (pe_cmpR op_eq (pe_call (ok__law_take T) (hr.mono (by decide)) (by rfl) T.g__law_take T.F__law_take.kp T.b__law_take .nil pass0 (pa_cons (pv 1) (pa_cons pe_int pa_nil))) pe_int (nomark _)) pa_nil)) (fun _ _ => rfl)) pa_nil)))))
      (pss_cons (ps_set (i := 4) sc_law.nd rfl (Or.inl rfl) (pe_callTy (T := "list") call_list_of (by rfl) T.z_list (by decide +kernel) (pa_cons (pv 2) pa_nil)))
      (pss_cons (ps_set (i := 5) sc_law.nd rfl (Or.inl rfl) (pe_call (ok_best_price T) (hr.mono (by decide)) (by rfl) T.g_best_price T.F_best_price.kp T.b_best_price .nil pass0 (pa_cons (pv 4) (pa_cons (pv 3) pa_nil))))
      (pss_cons (ps_set (i := 6) sc_law.nd rfl (Or.inl rfl) (pe_call (ok_best_chances T) (hr.mono (by decide)) (by rfl) T.g_best_chances T.F_best_chances.kp T.b_best_chances .nil pass0 (pa_cons (pv 4) (pa_cons (pv 3) pa_nil))))
      (pss_cons (ps_if (PW.pt (pw_or (pt_cmpR (op_neD hr.units) (pv 6) (pe_call (ok__law_kept T) (hr.mono (by decide)) (by rfl) T.g__law_kept T.F__law_kept.kp T.b__law_kept .nil pass0 (pa_cons (pv 2) (pa_cons (pv 5) pa_nil))) (nomark _)) (pw_or1 (pt_cmpR op_ne (pe_cmpR (op_eqD hr.units) (pv 5) (pe_tup (pa_cons pe_int (pa_cons pe_int pa_nil))) (nomark _)) (pe_cmpR op_ge (pv 3) (pe_callB (id := "len") call_len_seq (by rfl) T.z_len (by decide +kernel) (pa_cons (pv 2) pa_nil)) (nomark _)) (nomark _)))))
        (pss_one (ps_ret pe_bl))
        pss_nil)
      (pss_cons (ps_set (i := 7) sc_law.nd rfl (Or.inl rfl) (pe_tup (pa_cons pe_int (pa_cons pe_int pa_nil))))
      (pss_cons (ps_for PassesOwn.never rfl (pi_list (pv 6)) (pg_name (i := 8) sc_law.nd rfl (Or.inl rfl))
        (pss_one (ps_set (i := 7) sc_law.nd rfl (Or.inl rfl) (pe_call (ok__law_plus T) (hr.mono (by decide)) (by rfl) T.g__law_plus T.F__law_plus.kp T.b__law_plus .nil pass0 (pa_cons (pv 7) (pa_cons (pv 8) pa_nil))))))
      (pss_cons (ps_if (pt_cmpR (op_neD hr.units) (pv 7) (pe_tup (pa_cons (pe_callB (id := "min") (call_min2 rfl) (by rfl) T.z_min (by decide +kernel) (pa_cons (pv 3) (pa_cons (pe_callB (id := "len") call_len_seq (by rfl) T.z_len (by decide +kernel) (pa_cons (pv 2) pa_nil)) pa_nil))) (pa_cons pe_int pa_nil))) (nomark _))
        (pss_one (ps_ret pe_bl))
        pss_nil)
      (pss_cons (ps_set (i := 9) sc_law.nd rfl (Or.inl rfl) (pe_call (ok_price_bound T) (hr.mono (by decide)) (by rfl) T.g_price_bound T.F_price_bound.kp T.b_price_bound .nil pass0 (pa_cons (pv 4) (pa_cons (pv 3) (pa_cons (pv 5) pa_nil)))))
      (pss_cons (ps_if (PW.pt (pw_or (pt_cmpR (op_neD hr.units) (pv 9) (pe_call (ok__law_bound T) (hr.mono (by decide)) (by rfl) T.g__law_bound T.F__law_bound.kp T.b__law_bound .nil pass0 (pa_cons (pv 2) (pa_cons (pv 3) (pa_cons (pv 5) pa_nil)))) (nomark _)) (pw_or (pt_cmpR (op_neD hr.units) (pe_call (ok_spread T) (hr.mono (by decide)) (by rfl) T.g_spread T.F_spread.kp T.b_spread .nil pass0 (pa_cons (pv 4) (pa_cons (pe_callTy (T := "list") call_list_of (by rfl) T.z_list (by decide +kernel) (pa_cons (pv 6) pa_nil)) pa_nil))) (pv 9) (nomark _)) (pw_or1 (pt_cmpR (op_neD hr.units) (pe_call (ok__law_spread T) (hr.mono (by decide)) (by rfl) T.g__law_spread T.F__law_spread.kp T.b__law_spread .nil pass0 (pa_cons (pv 2) (pa_cons (pv 6) pa_nil))) (pv 9) (nomark _))))))
        (pss_one (ps_ret pe_bl))
        pss_nil)
      (pss_cons (ps_setLc (i := 10) (own := [("_law_turn", 11)]) (g := gName 11) rfl sc_law.nd rfl rfl (sw_true rfl rfl rfl (by decide +kernel)) (pi_range1 (by rfl) T.z_range (pa_cons pe_int pa_nil)) (blkOk_by (own := [("_law_turn", 11)]) (N := nm_law) (sc := defScope s_law) (by decide +kernel)) (fun _ _ _ _ _ => pg_name (i := 11) sc_law.nd rfl (Or.inl rfl)) (fun _ _ _ _ _ => pts_nil) (fun _ _ _ _ _ => (pe_call (ok__law_chances T) (hr.mono (by decide)) (by rfl) T.g__law_chances T.F__law_chances.kp T.b__law_chances .nil pass0 (pa_cons (pv 1) (pa_cons (pe_callB (id := "len") (lenk (K := K) rfl) (by rfl) T.z_len (by decide +kernel) (pa_cons (pv 2) pa_nil)) (pa_cons (pv 3) pa_nil))))))
      (pss_cons (ps_for PassesOwn.never rfl (pi_range1 (by rfl) T.z_range (pa_cons pe_int pa_nil)) (pg_name (i := 11) sc_law.nd rfl (Or.inl rfl))
        (pss_cons (ps_set (i := 12) sc_law.nd rfl (Or.inl rfl) (pe_call (ok__law_low T) (hr.mono (by decide)) (by rfl) T.g__law_low T.F__law_low.kp T.b__law_low .nil pass0 (pa_cons (pe_call (ok__law_take T) (hr.mono (by decide)) (by rfl) T.g__law_take T.F__law_take.kp T.b__law_take .nil pass0 (pa_cons (pv 1) (pa_cons pe_int pa_nil))) (pa_cons (pe_op op_add pe_int (pe_call (ok__law_take T) (hr.mono (by decide)) (by rfl) T.g__law_take T.F__law_take.kp T.b__law_take .nil pass0 (pa_cons (pv 1) (pa_cons pe_int pa_nil)))) pa_nil))))
        (pss_cut (ps_if (pt_cmpR op_gt (pv 11) pe_int (nomark _))
          (pss_one (ps_set (i := 12) sc_law.nd rfl (Or.inl rfl) (pe_call (ok__law_low T) (hr.mono (by decide)) (by rfl) T.g__law_low T.F__law_low.kp T.b__law_low .nil pass0 (pa_cons (pe_op op_mulW (pe_ix ix_tup (pv 5) pe_int (fun _ _ => rfl)) (pe_op op_add pe_int (pe_call (ok__law_take T) (hr.mono (by decide)) (by rfl) T.g__law_take T.F__law_take.kp T.b__law_take .nil pass0 (pa_cons (pv 1) (pa_cons pe_int pa_nil))))) (pa_cons (pe_op op_mulW (pe_ix ix_tup (pv 5) pe_int (fun _ _ => rfl)) pe_int) pa_nil)))))
          pss_nil)
        (pss_cons (ps_set (i := 13) sc_law.nd rfl (Or.inl rfl) (pe_call (ok_price_bound T) (hr.mono (by decide)) (by rfl) T.g_price_bound T.F_price_bound.kp T.b_price_bound .nil pass0 (pa_cons (pv 4) (pa_cons (pv 3) (pa_cons (pv 12) pa_nil)))))
        (pss_cons (ps_if (PW.pt (pw_or (pt_cmpR (op_neD hr.units) (pv 13) (pe_call (ok__law_bound T) (hr.mono (by decide)) (by rfl) T.g__law_bound T.F__law_bound.kp T.b__law_bound .nil pass0 (pa_cons (pv 2) (pa_cons (pv 3) (pa_cons (pv 12) pa_nil)))) (nomark _)) (pw_or1 (pt_val (pe_call (ok__law_less T) (hr.mono (by decide)) (by rfl) T.g__law_less T.F__law_less.kp T.b__law_less .nil pass0 (pa_cons (pv 9) (pa_cons (pv 13) pa_nil)))))))
          (pss_one (ps_ret pe_bl))
          pss_nil)
        (pss_one (ps_for PassesOwn.never rfl (pi_list (pv 10)) (pg_name (i := 6) sc_law.nd rfl (Or.inl rfl))
          (pss_cons (ps_set (i := 14) sc_law.nd rfl (Or.inl rfl) (pe_call (ok_spread T) (hr.mono (by decide)) (by rfl) T.g_spread T.F_spread.kp T.b_spread .nil pass0 (pa_cons (pv 4) (pa_cons (pe_callTy (T := "list") call_list_of (by rfl) T.z_list (by decide +kernel) (pa_cons (pv 6) pa_nil)) pa_nil))))
          (pss_one (ps_if (PW.pt (pw_or (pt_cmpR (op_neD hr.units) (pv 14) (pe_call (ok__law_spread T) (hr.mono (by decide)) (by rfl) T.g__law_spread T.F__law_spread.kp T.b__law_spread .nil pass0 (pa_cons (pv 2) (pa_cons (pv 6) pa_nil))) (nomark _)) (pw_or (pt_val (pe_call (ok__law_less T) (hr.mono (by decide)) (by rfl) T.g__law_less T.F__law_less.kp T.b__law_less .nil pass0 (pa_cons (pv 14) (pa_cons (pv 13) pa_nil)))) (pw_or1 (pt_val (pe_call (ok__law_less T) (hr.mono (by decide)) (by rfl) T.g__law_less T.F__law_less.kp T.b__law_less .nil pass0 (pa_cons (pv 14) (pa_cons (pv 9) pa_nil))))))))
            (pss_one (ps_ret pe_bl))
            pss_nil))))))))))
      (pss_one (ps_ret (pe_cmpR (op_eqD hr.units) (pv 4) (pv 2) (nomark _)))))))))))))))))), ?_⟩)
  try dsimp only [cxK, blkK, noxK, wishK]
  refine lsp_body (N := nm_law) h (by decide) fun xs q hn h => ?_
  clear hn
  obtain ⟨sc, rfl, hsc, hq⟩ := h
  refine ⟨sc, 120, rfl, ⟨hsc, by decide, by decide⟩, fun ns => ?_⟩
  refine .inl ⟨ns, 6, rfl, by decide, fun n6 ns1 n60 n61 => ?_⟩
  refine ⟨⟨by omega, by omega⟩, by rw [rngD_len]; omega, fun i acc s => ∃ (ws ns : List Int), acc = ws.map D.int ∧ ws.length = i ∧ (∀ w ∈ ws, 0 < w ∧ w ≤ 1000) ∧
    s = L53 sc ns none none none none none none none none none none none none none none, ⟨[], ns1, rfl, rfl, by simp, rfl⟩, ?_, ?_⟩
  · rintro i d acc s hd ⟨ws, ns, rfl, hl, hall, rfl⟩
    refine .inl ⟨ns, 9, rfl, by decide, fun z1 ms1 z10 z11 => .inl ⟨ms1, 200, rfl, by decide, fun z2 ms2 z20 z21 => .inl ⟨ms2, 3, rfl, by decide, fun z3 ms3 z30 z31 => ⟨fun _ => ?_, fun _ => ?_⟩⟩⟩⟩
    · refine ⟨ws ++ [1 + z2], ms3, map_snocI ws (1 + z2), by simp [hl], fun p h => ?_, rfl⟩
      rcases List.mem_append.mp h with h | h
      · exact hall p h
      · rw [List.mem_singleton.mp h]
        omega
    · refine ⟨ws ++ [1 + z1], ms3, map_snocI ws (1 + z1), by simp [hl], fun p h => ?_, rfl⟩
      rcases List.mem_append.mp h with h | h
      · exact hall p h
      · rw [List.mem_singleton.mp h]
        omega
  rintro acc s ⟨ws, ns2, rfl, hl, hall, rfl⟩
  rw [rngD_len] at hl
  have hw : WsOk ws := ⟨by omega, hall⟩
  have hwp : ∀ w ∈ ws, 0 < w := fun w z => (hall w z).1
  refine ⟨fun s => ∃ (k : Int) (ns : List Int), (0 < k ∧ k ≤ 6) ∧ s = L53 sc ns (some (.ow false (.lst (ws.map D.int)))) (some (.fr (.int k))) none none none none none none none none none none none none, ?_, ?_⟩
  · refine .inl (.inl ⟨ns2, 4, rfl, by decide, fun z3 ns3 z30 z31 => ⟨fun _ => ⟨ns3, 6, rfl, by decide, fun z4 ns4 z40 z41 => ⟨1 + z4, ns4, ⟨by omega, by omega⟩, rfl⟩⟩, fun _ => ⟨ns3, ((ws.map D.int).length : Int), rfl, by simp; omega, fun z4 ns4 z40 z41 => ⟨1 + z4, ns4, ⟨by omega, by simp at z41; omega⟩, rfl⟩⟩⟩⟩)
  rintro s ⟨k, ns3, hk, rfl⟩
  refine .inr ⟨ws, k, rfl, ⟨hw, hk⟩, fun t hB => ?_⟩
  refine ⟨ws, k, rfl, ⟨hw, hk⟩, fun t' hB' => ?_⟩
  have ett := hB'.uniq hB hwp
  subst ett
  have t0 := hB.nn
  have ht := hB.sz
  have hcs : CsOk (ws.map (keepR · t')) := fun c hc => by
    obtain ⟨w, z, rfl⟩ := List.mem_map.mp hc
    have := keep_pos (hwp w z) t0
    exact ⟨this.1, this.2, (sz_keep (hw.ab z) (hwp w z) ht).mono (by decide)⟩
  have hsum := hB.sum hwp
  have hl6 := hw.1
  have big : dF t' = .tup [.int 0, .int 1] ↔ (ws.length : Int) ≤ k := dF_zero.trans ⟨fun z => by
    rcases Int.lt_or_le k ws.length with q | q
    · have := (hB.pos q).1
      grind
    · exact q, hB.zero⟩
  -- best_chances
  refine .inr ⟨ws, t', rfl, ⟨hw, ht, t0⟩, pl_dFs _ _, pl_dFs _ _, fun h => neq_no h rfl, fun _ => ?_⟩
  refine ⟨pl_dF _ _, rfl, fun h => ?_, fun _ => ?_⟩
  · have e1 : decide (eqD (dF t') (.tup [.int 0, .int 1]) = decide (((ws.map D.int).length : Int) ≤ k)) = true := decide_eq_true (by
      rw [List.length_map]
      by_cases q : (ws.length : Int) ≤ k
      · rw [decide_eq_true q, eqD_true (big.mpr q)]
      · rw [decide_eq_false q, eqD_false fun z => q (big.mp z)])
    have h' : (!decide (eqD (dF t') (.tup [.int 0, .int 1]) = decide (((ws.map D.int).length : Int) ≤ k))) = true := h
    rw [e1] at h'
    cases h'
  -- the chances' sum
  refine ⟨fun i s => ∃ x8, s = L53 sc ns3 (some (.fr (dints ws))) (some (.fr (.int k))) (some (.fr (dints ws))) (some (.fr (dF t'))) (some (.fr (dFs (ws.map (keepR · t'))))) (some (.fr (dF (rsum ((ws.map (keepR · t')).take i))))) x8 none none none none none none none, ⟨_, rfl⟩, ?_, ?_⟩
  · rintro i d s hd ⟨x8, rfl⟩
    obtain ⟨c, hc1, rfl⟩ := map_at hd
    have hz : ∀ r ∈ ws.map (keepR · t'), Sz 30 r := fun r hr => (hcs r hr).2.2
    have hi := lt_of_at hc1
    rw [List.length_map] at hi
    refine ⟨_, _, rfl, ⟨(sz_rsum hz i (by rw [List.length_map]; omega)).mono ?_, (hz c (List.mem_of_getElem? hc1)).mono (by decide), trivial⟩, ?_⟩
    · show _ ≤ 980
      omega
    · exact ⟨_, by rw [rsum_take hc1]; rfl⟩
  rintro s ⟨x8, rfl⟩
  rw [List.length_map, List.take_of_length_le (by simp), hsum]
  refine ⟨pl_dF _ _, rfl, fun h => neq_no h ?_, fun _ => ?_⟩
  · show dF _ = .tup [.int (if ((ws.map D.int).length : Int) < k then ((ws.map D.int).length : Int) else k), .int 1]
    rw [List.length_map]
    rfl
  -- the bound of the best price
  have ht24 : Sz 24 t' := ht.mono (by decide)
  have hlk : ws.length = (ws.map (keepR · t')).length := by rw [List.length_map]
  refine ⟨ws, k, t', rfl, ⟨hw, hk, ht24⟩, ?_⟩
  refine ⟨ws, k, t', rfl, ⟨hw, hk, ht24⟩, pl_dF _ _, pl_dF _ _, fun h => neq_no h rfl, fun _ => ?_⟩
  refine ⟨ws, ws.map (keepR · t'), rfl, ⟨hw, hcs, hlk⟩, pl_dF _ _, pl_dF _ _, fun h => neq_no h (by rw [hB.eq hwp]), fun _ => ?_⟩
  refine ⟨ws, ws.map (keepR · t'), rfl, ⟨hw, hcs, hlk⟩, pl_dF _ _, pl_dF _ _, fun h => neq_no h (by rw [hB.eq hwp]), fun _ => ?_⟩
  -- drawn chances
  refine ⟨⟨by decide, by decide⟩, by rw [rngD_len]; decide, fun i acc s => ∃ (css : List (List Rat)) (ns : List Int) (x8 : Option S), acc = css.map dFs ∧ css.length = i ∧ (∀ cs ∈ css, cs.length = ws.length ∧ CsOk cs ∧ rsum cs ≤ (k : Rat)) ∧
    s = L53 sc ns (some (.fr (dints ws))) (some (.fr (.int k))) (some (.fr (dints ws))) (some (.fr (dF t'))) (some (.fr (dFs (ws.map (keepR · t'))))) (some (.fr (dF ((if (ws.length : Int) < k then (ws.length : Int) else k : Int) : Rat)))) x8 (some (.fr (dF (boundR ws k t')))) none none none none none none,
    ⟨[], ns3, x8, rfl, rfl, by simp, rfl⟩, ?_, ?_⟩
  · rintro i d acc s hd ⟨css, ns, x8, rfl, hl2, hall2, rfl⟩
    refine .inl ⟨ns, ((ws.map D.int).length : Int), k, rfl, ⟨⟨by simp; omega, by simp; omega⟩, hk⟩, fun cs ms h1 h2 h3 => ⟨css ++ [cs], ms, x8, ?_, by simp [hl2], fun c hc => ?_, rfl⟩⟩
    · rw [List.map_append]
      rfl
    · rcases List.mem_append.mp hc with hc | hc
      · exact hall2 c hc
      · rw [List.mem_singleton.mp hc]
        rw [List.length_map] at h1
        exact ⟨by omega, h2, h3⟩
  rintro acc s ⟨css, ns4, x8, rfl, hl2, hall2, rfl⟩
  -- drawn prices
  refine ⟨⟨by decide, by decide⟩, fun i s => ∃ (ns : List Int) (x6 x8 x10 x11 x12 x13 x14 : Option S), s = L53 sc ns (some (.fr (dints ws))) (some (.fr (.int k))) (some (.fr (dints ws))) (some (.fr (dF t'))) x6 (some (.fr (dF ((if (ws.length : Int) < k then (ws.length : Int) else k : Int) : Rat)))) x8 (some (.fr (dF (boundR ws k t')))) x10 x11 x12 x13 x14 none ∧
    (x10 = some (.ow false (.lst (css.map dFs))) ∨ x10 = some (.fr (.lst (css.map dFs)))), ⟨ns4, _, _, _, _, _, _, _, rfl, .inl rfl⟩, ?_, ?_⟩
  · rintro i d s hd ⟨ns, x6, x8, x10, x11, x12, x13, x14, rfl, h10⟩
    obtain ⟨hi, rfl⟩ := rngD_get hd
    refine .inl ⟨ns, 60, rfl, by decide, fun z1 ms1 z10 z11 => .inl ⟨ms1, 6, rfl, by decide, fun z2 ms2 z20 z21 => ?_⟩⟩
    refine ⟨z1, 1 + z2, rfl, ⟨show 0 < 1 + z2 by omega, pow_up (a := 20) (by omega) (by decide), pow_up (a := 20) (by omega) (by decide)⟩, ?_⟩
    refine ⟨fun s => ∃ (ns : List Int) (p : Rat) (x6 x8 x10 x11 x13 x14 : Option S), Sz 24 p ∧ 0 ≤ p ∧ s = L53 sc ns (some (.fr (dints ws))) (some (.fr (.int k))) (some (.fr (dints ws))) (some (.fr (dF t'))) x6 (some (.fr (dF ((if (ws.length : Int) < k then (ws.length : Int) else k : Int) : Rat)))) x8 (some (.fr (dF (boundR ws k t')))) x10 x11 (some (.fr (dF p))) x13 x14 none ∧
      (x10 = some (.ow false (.lst (css.map dFs))) ∨ x10 = some (.fr (.lst (css.map dFs)))), ⟨fun _ => ?_, fun _ => ?_⟩, ?_⟩
    · refine .inl ⟨ms2, 5, rfl, by decide, fun z3 ms3 z30 z31 => ?_⟩
      have hn0 : 0 ≤ t'.num := by
        have := (Rat.num_nonneg (q := t')).mpr t0
        exact this
      have b1 : (t'.num * (8 + z3)).natAbs < 2 ^ 21 := Nat.lt_of_lt_of_le (abs_mul_lt ht.1 (show (8 + z3).natAbs < 2 ^ 4 by omega)) (by decide)
      have b2 : ((t'.den : Int) * 10).natAbs < 2 ^ 21 := Nat.lt_of_lt_of_le (abs_mul_lt ht.d (show (10 : Int).natAbs < 2 ^ 4 by decide)) (by decide)
      have hd0 : 0 < (t'.den : Int) * 10 := by have := t'.den_pos; omega
      refine ⟨mulOk ht.1 (show (8 + z3).natAbs < 2 ^ 4 by omega) (by decide) (by decide) (by decide), mulOk ht.d (show (10 : Int).natAbs < 2 ^ 4 by decide) (by decide) (by decide) (by decide), _, _, rfl,
        ⟨hd0, pow_up b1 (by decide), pow_up b2 (by decide)⟩, ms3, Rat.divInt (t'.num * (8 + z3)) ((t'.den : Int) * 10), x6, x8, x10, _, x13, x14, ?_, ?_, rfl, h10⟩
      · exact sz_divInt (by omega) (Nat.lt_of_lt_of_le b1 (by decide)) (Nat.lt_of_lt_of_le b2 (by decide))
      · exact divInt_nn (Int.mul_nonneg hn0 (by omega)) hd0
    · exact ⟨ms2, Rat.divInt z1 (1 + z2), x6, x8, x10, _, x13, x14, sz_divInt (by omega) (by omega) (by omega), divInt_nn z10 (by omega), rfl, h10⟩
    · rintro s ⟨ns, p, x6, x8, x10, x11, x13, x14, hp, p0, rfl, h10⟩
      refine ⟨ws, k, p, rfl, ⟨hw, hk, hp⟩, ws, k, p, rfl, ⟨hw, hk, hp⟩, pl_dF _ _, pl_dF _ _, fun h => neq_no h rfl, fun _ => ?_⟩
      have hb1 : Sz LIM (boundR ws k t') := (sz_boundR hw hk ht24).mono (by decide)
      have hb2 : Sz LIM (boundR ws k p) := (sz_boundR hw hk hp).mono (by decide)
      refine ⟨_, _, rfl, ⟨hb1, hb2⟩, fun h => lt_no h (hB.best hwp p0), fun _ => ?_⟩
      rcases h10 with rfl | rfl
      all_goals
        refine ⟨fun j s => ∃ (x6 x14 : Option S), s = L53 sc ns (some (.fr (dints ws))) (some (.fr (.int k))) (some (.fr (dints ws))) (some (.fr (dF t'))) x6 (some (.fr (dF ((if (ws.length : Int) < k then (ws.length : Int) else k : Int) : Rat)))) x8 (some (.fr (dF (boundR ws k t')))) (some (.fr (.lst (css.map dFs)))) x11 (some (.fr (dF p))) (some (.fr (dF (boundR ws k p)))) x14 none, ⟨_, _, rfl⟩, ?_, ?_⟩
        · rintro j d s hd ⟨x6, x14, rfl⟩
          obtain ⟨cs, hc1, rfl⟩ := map_at hd
          obtain ⟨c1, c2, c3⟩ := hall2 cs (List.mem_of_getElem? hc1)
          have hs1 : Sz LIM (sprR ws cs) := (sz_sprR hw c2).mono (by decide)
          have hcc : ∀ c ∈ cs, 0 < c ∧ c ≤ 1 := fun c hc => ⟨(c2 c hc).1, (c2 c hc).2.1⟩
          have hww : ∀ w ∈ ws, 0 ≤ w := fun w z => by have := hwp w z; omega
          refine ⟨ws, cs, rfl, ⟨hw, c2, c1.symm⟩, ws, cs, rfl, ⟨hw, c2, c1.symm⟩, pl_dF _ _, pl_dF _ _, fun h => neq_no h rfl, fun _ => ?_⟩
          refine ⟨_, _, rfl, ⟨hs1, hb2⟩, fun h => lt_no h (weak p0 c1.symm hww hcc c3), fun _ => ?_⟩
          refine ⟨_, _, rfl, ⟨hs1, hb1⟩, fun h => lt_no h (weak t0 c1.symm hww hcc c3), fun _ => ?_⟩
          exact ⟨_, _, rfl⟩
        · rintro s ⟨x6, x14, rfl⟩
          exact ⟨ns, _, _, _, _, _, _, _, rfl, .inr rfl⟩
  · rintro s ⟨ns, x6, x8, x10, x11, x12, x13, x14, rfl, _⟩
    refine ⟨pl_dints _ _, pl_dints _ _, ?_⟩
    show q (.fr (.bl (id (eqD (dints ws) (dints ws))))) []
    rw [eqD_true rfl]
    exact hq
theorem ok_law (T : Txt K mg) : FnOk P w K mg base CX0 5 T.f_law T.fd_law ["_law_script"] (sp_law K) := (okP_law T).imp law_imp

end
theorem all_mk {l : PySem.W.OpenLaw} {w : World} {K : PySem.W.Frag} {h : Heap} {mg : Str → Option Value} {fa a_SamphireError a_ZeroDenominator f_lowest f_plus f_minus f_times f_over f_less f_sum_of f_spread f_term_of f_price_bound f_best_price f_best_chances f__law_mix f__law_numbers f__law_take f__law_low f__law_plus f__law_times f__law_less f__law_minus f__law_bound f__law_spread f__law_chances f__law_kept f_law a_NOTHING : Addr} (X : K.In h) (G : h.Ns mainGlobals mg) (hfa : mg "law" = some (.ref fa))
    {odlowest anlowest : Option Addr} {sllowest : Array (Option Value)} {oclowest kVlowest dclowest pmlowest cdlowest ctlowest : Value}
    {odplus anplus : Option Addr} {slplus : Array (Option Value)} {ocplus kVplus dcplus pmplus cdplus ctplus : Value}
    {odminus anminus : Option Addr} {slminus : Array (Option Value)} {ocminus kVminus dcminus pmminus cdminus ctminus : Value}
    {odtimes antimes : Option Addr} {sltimes : Array (Option Value)} {octimes kVtimes dctimes pmtimes cdtimes cttimes : Value}
    {odover anover : Option Addr} {slover : Array (Option Value)} {ocover kVover dcover pmover cdover ctover : Value}
    {odless anless : Option Addr} {slless : Array (Option Value)} {ocless kVless dcless pmless cdless ctless : Value}
    {odsum_of ansum_of : Option Addr} {slsum_of : Array (Option Value)} {ocsum_of kVsum_of dcsum_of pmsum_of cdsum_of ctsum_of : Value}
    {odspread anspread : Option Addr} {slspread : Array (Option Value)} {ocspread kVspread dcspread pmspread cdspread ctspread : Value}
    {odterm_of anterm_of : Option Addr} {slterm_of : Array (Option Value)} {octerm_of kVterm_of dcterm_of pmterm_of cdterm_of ctterm_of : Value}
    {odprice_bound anprice_bound : Option Addr} {slprice_bound : Array (Option Value)} {ocprice_bound kVprice_bound dcprice_bound pmprice_bound cdprice_bound ctprice_bound : Value}
    {odbest_price anbest_price : Option Addr} {slbest_price : Array (Option Value)} {ocbest_price kVbest_price dcbest_price pmbest_price cdbest_price ctbest_price : Value}
    {odbest_chances anbest_chances : Option Addr} {slbest_chances : Array (Option Value)} {ocbest_chances kVbest_chances dcbest_chances pmbest_chances cdbest_chances ctbest_chances : Value}
    {od_law_mix an_law_mix : Option Addr} {sl_law_mix : Array (Option Value)} {oc_law_mix kV_law_mix dc_law_mix pm_law_mix cd_law_mix ct_law_mix : Value}
    {od_law_numbers an_law_numbers : Option Addr} {sl_law_numbers : Array (Option Value)} {oc_law_numbers kV_law_numbers dc_law_numbers pm_law_numbers cd_law_numbers ct_law_numbers : Value}
    {od_law_take an_law_take : Option Addr} {sl_law_take : Array (Option Value)} {oc_law_take kV_law_take dc_law_take pm_law_take cd_law_take ct_law_take : Value}
    {od_law_low an_law_low : Option Addr} {sl_law_low : Array (Option Value)} {oc_law_low kV_law_low dc_law_low pm_law_low cd_law_low ct_law_low : Value}
    {od_law_plus an_law_plus : Option Addr} {sl_law_plus : Array (Option Value)} {oc_law_plus kV_law_plus dc_law_plus pm_law_plus cd_law_plus ct_law_plus : Value}
    {od_law_times an_law_times : Option Addr} {sl_law_times : Array (Option Value)} {oc_law_times kV_law_times dc_law_times pm_law_times cd_law_times ct_law_times : Value}
    {od_law_less an_law_less : Option Addr} {sl_law_less : Array (Option Value)} {oc_law_less kV_law_less dc_law_less pm_law_less cd_law_less ct_law_less : Value}
    {od_law_minus an_law_minus : Option Addr} {sl_law_minus : Array (Option Value)} {oc_law_minus kV_law_minus dc_law_minus pm_law_minus cd_law_minus ct_law_minus : Value}
    {od_law_bound an_law_bound : Option Addr} {sl_law_bound : Array (Option Value)} {oc_law_bound kV_law_bound dc_law_bound pm_law_bound cd_law_bound ct_law_bound : Value}
    {od_law_spread an_law_spread : Option Addr} {sl_law_spread : Array (Option Value)} {oc_law_spread kV_law_spread dc_law_spread pm_law_spread cd_law_spread ct_law_spread : Value}
    {od_law_chances an_law_chances : Option Addr} {sl_law_chances : Array (Option Value)} {oc_law_chances kV_law_chances dc_law_chances pm_law_chances cd_law_chances ct_law_chances : Value}
    {od_law_kept an_law_kept : Option Addr} {sl_law_kept : Array (Option Value)} {oc_law_kept kV_law_kept dc_law_kept pm_law_kept cd_law_kept ct_law_kept : Value}
    {odlaw anlaw : Option Addr} {sllaw : Array (Option Value)} {oclaw kVlaw dclaw pmlaw cdlaw ctlaw : Value}
    {odNOTHING : Option Addr} {slNOTHING : Array (Option Value)} {nNOTHING : Nat} {tNOTHING0 tNOTHING1 : Tok}
    (hSamphireError : PySem.W.nsIn K mainGlobals "SamphireError" = some (some (.ref a_SamphireError)))
    (kpSamphireError : PySem.W.keepIn K (.ref a_SamphireError) = true)
    (sbSamphireError : PySem.W.subIn K (.ref a_SamphireError) (.type "BaseException") = some true)
    (tySamphireError : PySem.W.typeIn K (.ref a_SamphireError) = some (.type "type"))
    (hdSamphireError : PySem.W.hasDictIn K a_SamphireError = true)
    (suSamphireError : PySem.W.subIn K (.ref a_SamphireError) (.ref a_SamphireError) = some true)
    (hZeroDenominator : PySem.W.nsIn K mainGlobals "ZeroDenominator" = some (some (.ref a_ZeroDenominator)))
    (kpZeroDenominator : PySem.W.keepIn K (.ref a_ZeroDenominator) = true)
    (sbZeroDenominator : PySem.W.subIn K (.ref a_ZeroDenominator) (.type "BaseException") = some true)
    (tyZeroDenominator : PySem.W.typeIn K (.ref a_ZeroDenominator) = some (.type "type"))
    (hdZeroDenominator : PySem.W.hasDictIn K a_ZeroDenominator = true)
    (suZeroDenominator : PySem.W.subIn K (.ref a_ZeroDenominator) (.ref a_ZeroDenominator) = some true)
    (xZeroDenominator : PySem.W.excIn K a_ZeroDenominator [.type "ValueError", .type "Exception", .type "BaseException", .type "object"] "ValueError.__new__" = true)
    (alowest : PySem.W.nsIn K mainGlobals "lowest" = some (some (.ref f_lowest)))
    (llowest : K.lookup f_lowest = some ⟨oclowest, odlowest, .func (PySem.W.fnOf "lowest" "lowest" (defArgs s_lowest) (defBody s_lowest) (defScope s_lowest) .none kVlowest dclowest pmlowest anlowest cdlowest ctlowest), sllowest⟩)
    (clowest : PySem.W.codeIn K cdlowest "lowest" = true)
    (klowest : PySem.W.keepIn K (.ref f_lowest) = true)
    (aplus : PySem.W.nsIn K mainGlobals "plus" = some (some (.ref f_plus)))
    (lplus : K.lookup f_plus = some ⟨ocplus, odplus, .func (PySem.W.fnOf "plus" "plus" (defArgs s_plus) (defBody s_plus) (defScope s_plus) .none kVplus dcplus pmplus anplus cdplus ctplus), slplus⟩)
    (cplus : PySem.W.codeIn K cdplus "plus" = true)
    (kplus : PySem.W.keepIn K (.ref f_plus) = true)
    (aminus : PySem.W.nsIn K mainGlobals "minus" = some (some (.ref f_minus)))
    (lminus : K.lookup f_minus = some ⟨ocminus, odminus, .func (PySem.W.fnOf "minus" "minus" (defArgs s_minus) (defBody s_minus) (defScope s_minus) .none kVminus dcminus pmminus anminus cdminus ctminus), slminus⟩)
    (cminus : PySem.W.codeIn K cdminus "minus" = true)
    (kminus : PySem.W.keepIn K (.ref f_minus) = true)
    (atimes : PySem.W.nsIn K mainGlobals "times" = some (some (.ref f_times)))
    (ltimes : K.lookup f_times = some ⟨octimes, odtimes, .func (PySem.W.fnOf "times" "times" (defArgs s_times) (defBody s_times) (defScope s_times) .none kVtimes dctimes pmtimes antimes cdtimes cttimes), sltimes⟩)
    (ctimes : PySem.W.codeIn K cdtimes "times" = true)
    (ktimes : PySem.W.keepIn K (.ref f_times) = true)
    (aover : PySem.W.nsIn K mainGlobals "over" = some (some (.ref f_over)))
    (lover : K.lookup f_over = some ⟨ocover, odover, .func (PySem.W.fnOf "over" "over" (defArgs s_over) (defBody s_over) (defScope s_over) .none kVover dcover pmover anover cdover ctover), slover⟩)
    (cover : PySem.W.codeIn K cdover "over" = true)
    (kover : PySem.W.keepIn K (.ref f_over) = true)
    (aless : PySem.W.nsIn K mainGlobals "less" = some (some (.ref f_less)))
    (lless : K.lookup f_less = some ⟨ocless, odless, .func (PySem.W.fnOf "less" "less" (defArgs s_less) (defBody s_less) (defScope s_less) .none kVless dcless pmless anless cdless ctless), slless⟩)
    (cless : PySem.W.codeIn K cdless "less" = true)
    (kless : PySem.W.keepIn K (.ref f_less) = true)
    (asum_of : PySem.W.nsIn K mainGlobals "sum_of" = some (some (.ref f_sum_of)))
    (lsum_of : K.lookup f_sum_of = some ⟨ocsum_of, odsum_of, .func (PySem.W.fnOf "sum_of" "sum_of" (defArgs s_sum_of) (defBody s_sum_of) (defScope s_sum_of) .none kVsum_of dcsum_of pmsum_of ansum_of cdsum_of ctsum_of), slsum_of⟩)
    (csum_of : PySem.W.codeIn K cdsum_of "sum_of" = true)
    (ksum_of : PySem.W.keepIn K (.ref f_sum_of) = true)
    (aspread : PySem.W.nsIn K mainGlobals "spread" = some (some (.ref f_spread)))
    (lspread : K.lookup f_spread = some ⟨ocspread, odspread, .func (PySem.W.fnOf "spread" "spread" (defArgs s_spread) (defBody s_spread) (defScope s_spread) .none kVspread dcspread pmspread anspread cdspread ctspread), slspread⟩)
    (cspread : PySem.W.codeIn K cdspread "spread" = true)
    (kspread : PySem.W.keepIn K (.ref f_spread) = true)
    (aterm_of : PySem.W.nsIn K mainGlobals "term_of" = some (some (.ref f_term_of)))
    (lterm_of : K.lookup f_term_of = some ⟨octerm_of, odterm_of, .func (PySem.W.fnOf "term_of" "term_of" (defArgs s_term_of) (defBody s_term_of) (defScope s_term_of) .none kVterm_of dcterm_of pmterm_of anterm_of cdterm_of ctterm_of), slterm_of⟩)
    (cterm_of : PySem.W.codeIn K cdterm_of "term_of" = true)
    (kterm_of : PySem.W.keepIn K (.ref f_term_of) = true)
    (aprice_bound : PySem.W.nsIn K mainGlobals "price_bound" = some (some (.ref f_price_bound)))
    (lprice_bound : K.lookup f_price_bound = some ⟨ocprice_bound, odprice_bound, .func (PySem.W.fnOf "price_bound" "price_bound" (defArgs s_price_bound) (defBody s_price_bound) (defScope s_price_bound) .none kVprice_bound dcprice_bound pmprice_bound anprice_bound cdprice_bound ctprice_bound), slprice_bound⟩)
    (cprice_bound : PySem.W.codeIn K cdprice_bound "price_bound" = true)
    (kprice_bound : PySem.W.keepIn K (.ref f_price_bound) = true)
    (abest_price : PySem.W.nsIn K mainGlobals "best_price" = some (some (.ref f_best_price)))
    (lbest_price : K.lookup f_best_price = some ⟨ocbest_price, odbest_price, .func (PySem.W.fnOf "best_price" "best_price" (defArgs s_best_price) (defBody s_best_price) (defScope s_best_price) .none kVbest_price dcbest_price pmbest_price anbest_price cdbest_price ctbest_price), slbest_price⟩)
    (cbest_price : PySem.W.codeIn K cdbest_price "best_price" = true)
    (kbest_price : PySem.W.keepIn K (.ref f_best_price) = true)
    (abest_chances : PySem.W.nsIn K mainGlobals "best_chances" = some (some (.ref f_best_chances)))
    (lbest_chances : K.lookup f_best_chances = some ⟨ocbest_chances, odbest_chances, .func (PySem.W.fnOf "best_chances" "best_chances" (defArgs s_best_chances) (defBody s_best_chances) (defScope s_best_chances) .none kVbest_chances dcbest_chances pmbest_chances anbest_chances cdbest_chances ctbest_chances), slbest_chances⟩)
    (cbest_chances : PySem.W.codeIn K cdbest_chances "best_chances" = true)
    (kbest_chances : PySem.W.keepIn K (.ref f_best_chances) = true)
    (a_law_mix : PySem.W.nsIn K mainGlobals "_law_mix" = some (some (.ref f__law_mix)))
    (l_law_mix : K.lookup f__law_mix = some ⟨oc_law_mix, od_law_mix, .func (PySem.W.fnOf "_law_mix" "_law_mix" (defArgs s__law_mix) (defBody s__law_mix) (defScope s__law_mix) .none kV_law_mix dc_law_mix pm_law_mix an_law_mix cd_law_mix ct_law_mix), sl_law_mix⟩)
    (c_law_mix : PySem.W.codeIn K cd_law_mix "_law_mix" = true)
    (k_law_mix : PySem.W.keepIn K (.ref f__law_mix) = true)
    (a_law_numbers : PySem.W.nsIn K mainGlobals "_law_numbers" = some (some (.ref f__law_numbers)))
    (l_law_numbers : K.lookup f__law_numbers = some ⟨oc_law_numbers, od_law_numbers, .func (PySem.W.fnOf "_law_numbers" "_law_numbers" (defArgs s__law_numbers) (defBody s__law_numbers) (defScope s__law_numbers) .none kV_law_numbers dc_law_numbers pm_law_numbers an_law_numbers cd_law_numbers ct_law_numbers), sl_law_numbers⟩)
    (c_law_numbers : PySem.W.codeIn K cd_law_numbers "_law_numbers" = true)
    (k_law_numbers : PySem.W.keepIn K (.ref f__law_numbers) = true)
    (a_law_take : PySem.W.nsIn K mainGlobals "_law_take" = some (some (.ref f__law_take)))
    (l_law_take : K.lookup f__law_take = some ⟨oc_law_take, od_law_take, .func (PySem.W.fnOf "_law_take" "_law_take" (defArgs s__law_take) (defBody s__law_take) (defScope s__law_take) .none kV_law_take dc_law_take pm_law_take an_law_take cd_law_take ct_law_take), sl_law_take⟩)
    (c_law_take : PySem.W.codeIn K cd_law_take "_law_take" = true)
    (k_law_take : PySem.W.keepIn K (.ref f__law_take) = true)
    (a_law_low : PySem.W.nsIn K mainGlobals "_law_low" = some (some (.ref f__law_low)))
    (l_law_low : K.lookup f__law_low = some ⟨oc_law_low, od_law_low, .func (PySem.W.fnOf "_law_low" "_law_low" (defArgs s__law_low) (defBody s__law_low) (defScope s__law_low) .none kV_law_low dc_law_low pm_law_low an_law_low cd_law_low ct_law_low), sl_law_low⟩)
    (c_law_low : PySem.W.codeIn K cd_law_low "_law_low" = true)
    (k_law_low : PySem.W.keepIn K (.ref f__law_low) = true)
    (a_law_plus : PySem.W.nsIn K mainGlobals "_law_plus" = some (some (.ref f__law_plus)))
    (l_law_plus : K.lookup f__law_plus = some ⟨oc_law_plus, od_law_plus, .func (PySem.W.fnOf "_law_plus" "_law_plus" (defArgs s__law_plus) (defBody s__law_plus) (defScope s__law_plus) .none kV_law_plus dc_law_plus pm_law_plus an_law_plus cd_law_plus ct_law_plus), sl_law_plus⟩)
    (c_law_plus : PySem.W.codeIn K cd_law_plus "_law_plus" = true)
    (k_law_plus : PySem.W.keepIn K (.ref f__law_plus) = true)
    (a_law_times : PySem.W.nsIn K mainGlobals "_law_times" = some (some (.ref f__law_times)))
    (l_law_times : K.lookup f__law_times = some ⟨oc_law_times, od_law_times, .func (PySem.W.fnOf "_law_times" "_law_times" (defArgs s__law_times) (defBody s__law_times) (defScope s__law_times) .none kV_law_times dc_law_times pm_law_times an_law_times cd_law_times ct_law_times), sl_law_times⟩)
    (c_law_times : PySem.W.codeIn K cd_law_times "_law_times" = true)
    (k_law_times : PySem.W.keepIn K (.ref f__law_times) = true)
    (a_law_less : PySem.W.nsIn K mainGlobals "_law_less" = some (some (.ref f__law_less)))
    (l_law_less : K.lookup f__law_less = some ⟨oc_law_less, od_law_less, .func (PySem.W.fnOf "_law_less" "_law_less" (defArgs s__law_less) (defBody s__law_less) (defScope s__law_less) .none kV_law_less dc_law_less pm_law_less an_law_less cd_law_less ct_law_less), sl_law_less⟩)
    (c_law_less : PySem.W.codeIn K cd_law_less "_law_less" = true)
    (k_law_less : PySem.W.keepIn K (.ref f__law_less) = true)
    (a_law_minus : PySem.W.nsIn K mainGlobals "_law_minus" = some (some (.ref f__law_minus)))
    (l_law_minus : K.lookup f__law_minus = some ⟨oc_law_minus, od_law_minus, .func (PySem.W.fnOf "_law_minus" "_law_minus" (defArgs s__law_minus) (defBody s__law_minus) (defScope s__law_minus) .none kV_law_minus dc_law_minus pm_law_minus an_law_minus cd_law_minus ct_law_minus), sl_law_minus⟩)
    (c_law_minus : PySem.W.codeIn K cd_law_minus "_law_minus" = true)
    (k_law_minus : PySem.W.keepIn K (.ref f__law_minus) = true)
    (a_law_bound : PySem.W.nsIn K mainGlobals "_law_bound" = some (some (.ref f__law_bound)))
    (l_law_bound : K.lookup f__law_bound = some ⟨oc_law_bound, od_law_bound, .func (PySem.W.fnOf "_law_bound" "_law_bound" (defArgs s__law_bound) (defBody s__law_bound) (defScope s__law_bound) .none kV_law_bound dc_law_bound pm_law_bound an_law_bound cd_law_bound ct_law_bound), sl_law_bound⟩)
    (c_law_bound : PySem.W.codeIn K cd_law_bound "_law_bound" = true)
    (k_law_bound : PySem.W.keepIn K (.ref f__law_bound) = true)
    (a_law_spread : PySem.W.nsIn K mainGlobals "_law_spread" = some (some (.ref f__law_spread)))
    (l_law_spread : K.lookup f__law_spread = some ⟨oc_law_spread, od_law_spread, .func (PySem.W.fnOf "_law_spread" "_law_spread" (defArgs s__law_spread) (defBody s__law_spread) (defScope s__law_spread) .none kV_law_spread dc_law_spread pm_law_spread an_law_spread cd_law_spread ct_law_spread), sl_law_spread⟩)
    (c_law_spread : PySem.W.codeIn K cd_law_spread "_law_spread" = true)
    (k_law_spread : PySem.W.keepIn K (.ref f__law_spread) = true)
    (a_law_chances : PySem.W.nsIn K mainGlobals "_law_chances" = some (some (.ref f__law_chances)))
    (l_law_chances : K.lookup f__law_chances = some ⟨oc_law_chances, od_law_chances, .func (PySem.W.fnOf "_law_chances" "_law_chances" (defArgs s__law_chances) (defBody s__law_chances) (defScope s__law_chances) .none kV_law_chances dc_law_chances pm_law_chances an_law_chances cd_law_chances ct_law_chances), sl_law_chances⟩)
    (c_law_chances : PySem.W.codeIn K cd_law_chances "_law_chances" = true)
    (k_law_chances : PySem.W.keepIn K (.ref f__law_chances) = true)
    (a_law_kept : PySem.W.nsIn K mainGlobals "_law_kept" = some (some (.ref f__law_kept)))
    (l_law_kept : K.lookup f__law_kept = some ⟨oc_law_kept, od_law_kept, .func (PySem.W.fnOf "_law_kept" "_law_kept" (defArgs s__law_kept) (defBody s__law_kept) (defScope s__law_kept) .none kV_law_kept dc_law_kept pm_law_kept an_law_kept cd_law_kept ct_law_kept), sl_law_kept⟩)
    (c_law_kept : PySem.W.codeIn K cd_law_kept "_law_kept" = true)
    (k_law_kept : PySem.W.keepIn K (.ref f__law_kept) = true)
    (alaw : PySem.W.nsIn K mainGlobals "law" = some (some (.ref f_law)))
    (llaw : K.lookup f_law = some ⟨oclaw, odlaw, .func (PySem.W.fnOf "law" "law" (defArgs s_law) (defBody s_law) (defScope s_law) .none kVlaw dclaw pmlaw anlaw cdlaw ctlaw), sllaw⟩)
    (claw : PySem.W.codeIn K cdlaw "law" = true)
    (klaw : PySem.W.keepIn K (.ref f_law) = true)
    (hNOTHING : PySem.W.nsIn K mainGlobals "NOTHING" = some (some (.ref a_NOTHING)))
    (lNOTHING : K.lookup a_NOTHING = some ⟨.type "tuple", odNOTHING, .seq (List.toArray [.int (0) tNOTHING0, .int (1) tNOTHING1]) nNOTHING, slNOTHING⟩)
    (zabs : PySem.W.nsIn K mainGlobals "abs" = some none)
    (zint : PySem.W.nsIn K mainGlobals "int" = some none)
    (zlen : PySem.W.nsIn K mainGlobals "len" = some none)
    (zlist : PySem.W.nsIn K mainGlobals "list" = some none)
    (zmax : PySem.W.nsIn K mainGlobals "max" = some none)
    (zmin : PySem.W.nsIn K mainGlobals "min" = some none)
    (zrange : PySem.W.nsIn K mainGlobals "range" = some none)
    (zsorted : PySem.W.nsIn K mainGlobals "sorted" = some none)
    (zsum : PySem.W.nsIn K mainGlobals "sum" = some none)
    (zzip : PySem.W.nsIn K mainGlobals "zip" = some none)
    (hgcd : PySem.W.nsIn K mainGlobals "gcd" = some (some (.builtin "math.gcd")))
    : ∃ fd : FuncData, (∀ (s : Shared) (v : Value), BindsTo s fd ⟨[v], []⟩ [("_law_script", v)]) ∧ ∀ base : Heap, K.In base → base.Ns mainGlobals mg → FnOk l.prog w K mg base CX0 5 fa fd ["_law_script"] (sp_law K) := by
  have e := hfa.symm.trans (PySem.W.mg_of X G alaw)
  cases e
  let T : Txt K mg := {
    a_SamphireError := a_SamphireError
    g_SamphireError := PySem.W.mg_of X G hSamphireError
    kp_SamphireError := kpSamphireError
    sb_SamphireError := sbSamphireError
    ty_SamphireError := tySamphireError
    te_SamphireError := PySem.W.exm_ref sbSamphireError hdSamphireError tySamphireError suSamphireError
    a_ZeroDenominator := a_ZeroDenominator
    g_ZeroDenominator := PySem.W.mg_of X G hZeroDenominator
    kp_ZeroDenominator := kpZeroDenominator
    sb_ZeroDenominator := sbZeroDenominator
    ty_ZeroDenominator := tyZeroDenominator
    te_ZeroDenominator := PySem.W.exm_ref sbZeroDenominator hdZeroDenominator tyZeroDenominator suZeroDenominator
    x_ZeroDenominator := xZeroDenominator
    g_lowest := PySem.W.mg_of X G alowest
    f_lowest := f_lowest
    fd_lowest := _
    F_lowest := fun_mk (st := s_lowest) llowest clowest klowest
    b_lowest := (fun_mk (st := s_lowest) llowest clowest klowest).binds (ps := ["p", "q"]) fun _ _ _ _ _ _ us hl => match us, hl with | [_, _], _ => rfl
    g_plus := PySem.W.mg_of X G aplus
    f_plus := f_plus
    fd_plus := _
    F_plus := fun_mk (st := s_plus) lplus cplus kplus
    b_plus := (fun_mk (st := s_plus) lplus cplus kplus).binds (ps := ["a", "b"]) fun _ _ _ _ _ _ us hl => match us, hl with | [_, _], _ => rfl
    g_minus := PySem.W.mg_of X G aminus
    f_minus := f_minus
    fd_minus := _
    F_minus := fun_mk (st := s_minus) lminus cminus kminus
    b_minus := (fun_mk (st := s_minus) lminus cminus kminus).binds (ps := ["a", "b"]) fun _ _ _ _ _ _ us hl => match us, hl with | [_, _], _ => rfl
    g_times := PySem.W.mg_of X G atimes
    f_times := f_times
    fd_times := _
    F_times := fun_mk (st := s_times) ltimes ctimes ktimes
    b_times := (fun_mk (st := s_times) ltimes ctimes ktimes).binds (ps := ["a", "b"]) fun _ _ _ _ _ _ us hl => match us, hl with | [_, _], _ => rfl
    g_over := PySem.W.mg_of X G aover
    f_over := f_over
    fd_over := _
    F_over := fun_mk (st := s_over) lover cover kover
    b_over := (fun_mk (st := s_over) lover cover kover).binds (ps := ["a", "b"]) fun _ _ _ _ _ _ us hl => match us, hl with | [_, _], _ => rfl
    g_less := PySem.W.mg_of X G aless
    f_less := f_less
    fd_less := _
    F_less := fun_mk (st := s_less) lless cless kless
    b_less := (fun_mk (st := s_less) lless cless kless).binds (ps := ["a", "b"]) fun _ _ _ _ _ _ us hl => match us, hl with | [_, _], _ => rfl
    g_sum_of := PySem.W.mg_of X G asum_of
    f_sum_of := f_sum_of
    fd_sum_of := _
    F_sum_of := fun_mk (st := s_sum_of) lsum_of csum_of ksum_of
    b_sum_of := (fun_mk (st := s_sum_of) lsum_of csum_of ksum_of).binds (ps := ["fractions"]) fun _ _ _ _ _ _ us hl => match us, hl with | [_], _ => rfl
    g_spread := PySem.W.mg_of X G aspread
    f_spread := f_spread
    fd_spread := _
    F_spread := fun_mk (st := s_spread) lspread cspread kspread
    b_spread := (fun_mk (st := s_spread) lspread cspread kspread).binds (ps := ["weights", "chances"]) fun _ _ _ _ _ _ us hl => match us, hl with | [_, _], _ => rfl
    g_term_of := PySem.W.mg_of X G aterm_of
    f_term_of := f_term_of
    fd_term_of := _
    F_term_of := fun_mk (st := s_term_of) lterm_of cterm_of kterm_of
    b_term_of := (fun_mk (st := s_term_of) lterm_of cterm_of kterm_of).binds (ps := ["weight", "price"]) fun _ _ _ _ _ _ us hl => match us, hl with | [_, _], _ => rfl
    g_price_bound := PySem.W.mg_of X G aprice_bound
    f_price_bound := f_price_bound
    fd_price_bound := _
    F_price_bound := fun_mk (st := s_price_bound) lprice_bound cprice_bound kprice_bound
    b_price_bound := (fun_mk (st := s_price_bound) lprice_bound cprice_bound kprice_bound).binds (ps := ["weights", "size", "price"]) fun _ _ _ _ _ _ us hl => match us, hl with | [_, _, _], _ => rfl
    g_best_price := PySem.W.mg_of X G abest_price
    f_best_price := f_best_price
    fd_best_price := _
    F_best_price := fun_mk (st := s_best_price) lbest_price cbest_price kbest_price
    b_best_price := (fun_mk (st := s_best_price) lbest_price cbest_price kbest_price).binds (ps := ["weights", "size"]) fun _ _ _ _ _ _ us hl => match us, hl with | [_, _], _ => rfl
    g_best_chances := PySem.W.mg_of X G abest_chances
    f_best_chances := f_best_chances
    fd_best_chances := _
    F_best_chances := fun_mk (st := s_best_chances) lbest_chances cbest_chances kbest_chances
    b_best_chances := (fun_mk (st := s_best_chances) lbest_chances cbest_chances kbest_chances).binds (ps := ["weights", "size"]) fun _ _ _ _ _ _ us hl => match us, hl with | [_, _], _ => rfl
    g__law_mix := PySem.W.mg_of X G a_law_mix
    f__law_mix := f__law_mix
    fd__law_mix := _
    F__law_mix := fun_mk (st := s__law_mix) l_law_mix c_law_mix k_law_mix
    b__law_mix := (fun_mk (st := s__law_mix) l_law_mix c_law_mix k_law_mix).binds (ps := ["_law_number", "_law_k"]) fun _ _ _ _ _ _ us hl => match us, hl with | [_, _], _ => rfl
    g__law_numbers := PySem.W.mg_of X G a_law_numbers
    f__law_numbers := f__law_numbers
    fd__law_numbers := _
    F__law_numbers := fun_mk (st := s__law_numbers) l_law_numbers c_law_numbers k_law_numbers
    b__law_numbers := (fun_mk (st := s__law_numbers) l_law_numbers c_law_numbers k_law_numbers).binds (ps := ["_law_script", "_law_count"]) fun _ _ _ _ _ _ us hl => match us, hl with | [_, _], _ => rfl
    g__law_take := PySem.W.mg_of X G a_law_take
    f__law_take := f__law_take
    fd__law_take := _
    F__law_take := fun_mk (st := s__law_take) l_law_take c_law_take k_law_take
    b__law_take := (fun_mk (st := s__law_take) l_law_take c_law_take k_law_take).binds (ps := ["_law_row", "_law_bound_here"]) fun _ _ _ _ _ _ us hl => match us, hl with | [_, _], _ => rfl
    g__law_low := PySem.W.mg_of X G a_law_low
    f__law_low := f__law_low
    fd__law_low := _
    F__law_low := fun_mk (st := s__law_low) l_law_low c_law_low k_law_low
    b__law_low := (fun_mk (st := s__law_low) l_law_low c_law_low k_law_low).binds (ps := ["_law_p", "_law_q"]) fun _ _ _ _ _ _ us hl => match us, hl with | [_, _], _ => rfl
    g__law_plus := PySem.W.mg_of X G a_law_plus
    f__law_plus := f__law_plus
    fd__law_plus := _
    F__law_plus := fun_mk (st := s__law_plus) l_law_plus c_law_plus k_law_plus
    b__law_plus := (fun_mk (st := s__law_plus) l_law_plus c_law_plus k_law_plus).binds (ps := ["_law_one", "_law_other"]) fun _ _ _ _ _ _ us hl => match us, hl with | [_, _], _ => rfl
    g__law_times := PySem.W.mg_of X G a_law_times
    f__law_times := f__law_times
    fd__law_times := _
    F__law_times := fun_mk (st := s__law_times) l_law_times c_law_times k_law_times
    b__law_times := (fun_mk (st := s__law_times) l_law_times c_law_times k_law_times).binds (ps := ["_law_one", "_law_other"]) fun _ _ _ _ _ _ us hl => match us, hl with | [_, _], _ => rfl
    g__law_less := PySem.W.mg_of X G a_law_less
    f__law_less := f__law_less
    fd__law_less := _
    F__law_less := fun_mk (st := s__law_less) l_law_less c_law_less k_law_less
    b__law_less := (fun_mk (st := s__law_less) l_law_less c_law_less k_law_less).binds (ps := ["_law_one", "_law_other"]) fun _ _ _ _ _ _ us hl => match us, hl with | [_, _], _ => rfl
    g__law_minus := PySem.W.mg_of X G a_law_minus
    f__law_minus := f__law_minus
    fd__law_minus := _
    F__law_minus := fun_mk (st := s__law_minus) l_law_minus c_law_minus k_law_minus
    b__law_minus := (fun_mk (st := s__law_minus) l_law_minus c_law_minus k_law_minus).binds (ps := ["_law_one", "_law_other"]) fun _ _ _ _ _ _ us hl => match us, hl with | [_, _], _ => rfl
    g__law_bound := PySem.W.mg_of X G a_law_bound
    f__law_bound := f__law_bound
    fd__law_bound := _
    F__law_bound := fun_mk (st := s__law_bound) l_law_bound c_law_bound k_law_bound
    b__law_bound := (fun_mk (st := s__law_bound) l_law_bound c_law_bound k_law_bound).binds (ps := ["_law_weights", "_law_size", "_law_price"]) fun _ _ _ _ _ _ us hl => match us, hl with | [_, _, _], _ => rfl
    g__law_spread := PySem.W.mg_of X G a_law_spread
    f__law_spread := f__law_spread
    fd__law_spread := _
    F__law_spread := fun_mk (st := s__law_spread) l_law_spread c_law_spread k_law_spread
    b__law_spread := (fun_mk (st := s__law_spread) l_law_spread c_law_spread k_law_spread).binds (ps := ["_law_weights", "_law_chances_here"]) fun _ _ _ _ _ _ us hl => match us, hl with | [_, _], _ => rfl
    g__law_chances := PySem.W.mg_of X G a_law_chances
    f__law_chances := f__law_chances
    fd__law_chances := _
    F__law_chances := fun_mk (st := s__law_chances) l_law_chances c_law_chances k_law_chances
    b__law_chances := (fun_mk (st := s__law_chances) l_law_chances c_law_chances k_law_chances).binds (ps := ["_law_row", "_law_many", "_law_size"]) fun _ _ _ _ _ _ us hl => match us, hl with | [_, _, _], _ => rfl
    g__law_kept := PySem.W.mg_of X G a_law_kept
    f__law_kept := f__law_kept
    fd__law_kept := _
    F__law_kept := fun_mk (st := s__law_kept) l_law_kept c_law_kept k_law_kept
    b__law_kept := (fun_mk (st := s__law_kept) l_law_kept c_law_kept k_law_kept).binds (ps := ["_law_weights", "_law_price"]) fun _ _ _ _ _ _ us hl => match us, hl with | [_, _], _ => rfl
    g_law := PySem.W.mg_of X G alaw
    f_law := fa
    fd_law := _
    F_law := fun_mk (st := s_law) llaw claw klaw
    b_law := (fun_mk (st := s_law) llaw claw klaw).binds (ps := ["_law_script"]) fun _ _ _ _ _ _ us hl => match us, hl with | [_], _ => rfl
    a_NOTHING := a_NOTHING
    g_NOTHING := PySem.W.mg_of X G hNOTHING
    v_NOTHING := fun H => sqT_of_k lNOTHING (.cons ⟨_, rfl⟩ (.cons ⟨_, rfl⟩ .nil))
    z_abs := PySem.W.mg_none_of X G zabs
    z_int := PySem.W.mg_none_of X G zint
    z_len := PySem.W.mg_none_of X G zlen
    z_list := PySem.W.mg_none_of X G zlist
    z_max := PySem.W.mg_none_of X G zmax
    z_min := PySem.W.mg_none_of X G zmin
    z_range := PySem.W.mg_none_of X G zrange
    z_sorted := PySem.W.mg_none_of X G zsorted
    z_sum := PySem.W.mg_none_of X G zsum
    z_zip := PySem.W.mg_none_of X G zzip
    g_gcd := PySem.W.mg_of X G hgcd }
  exact ⟨T.fd_law, fun s v => .of_eq rfl, fun base _ _ => ok_law T⟩
end Sam
open PySem PySem.W PyProof.Rows
set_option maxHeartbeats 0 in
theorem PySem.Challenge.cw_samphire_k53_whole_no_lesser_spread_holds : PySem.Challenge.rw_samphire_k53_whole_no_lesser_spread.Holds := by
  w_on; o_law; k_head; (case hw => w_witness2)
  k_fill
  refine L2.walk_of (l := PySem.Challenge.rw_samphire_k53_whole_no_lesser_spread) (n := 63) (k := 5) (x := "_law_script") (CX := fun _ => L2.CX0) (sp := fun w => Sam.sp_law _) rfl (by decide) rfl ⟨rfl, by decide, by decide⟩ (fun w h Y => PySem.W.kIn_of Y) ?F (fun _ _ a ns hl _ hS => ⟨a, ns, rfl, hS, hl, fun _ => rfl⟩) (fun _ _ _ _ _ h => h)
  case F =>
    intro w mg fa h KX G hmg
    refine' Sam.all_mk KX G hmg ?hSamphireError ?kpSamphireError ?sbSamphireError ?tySamphireError ?hdSamphireError ?suSamphireError ?hZeroDenominator ?kpZeroDenominator ?sbZeroDenominator ?tyZeroDenominator ?hdZeroDenominator ?suZeroDenominator ?xZeroDenominator ?alowest ?llowest ?clowest ?klowest ?aplus ?lplus ?cplus ?kplus ?aminus ?lminus ?cminus ?kminus ?atimes ?ltimes ?ctimes ?ktimes ?aover ?lover ?cover ?kover ?aless ?lless ?cless ?kless ?asum_of ?lsum_of ?csum_of ?ksum_of ?aspread ?lspread ?cspread ?kspread ?aterm_of ?lterm_of ?cterm_of ?kterm_of ?aprice_bound ?lprice_bound ?cprice_bound ?kprice_bound ?abest_price ?lbest_price ?cbest_price ?kbest_price ?abest_chances ?lbest_chances ?cbest_chances ?kbest_chances ?a_law_mix ?l_law_mix ?c_law_mix ?k_law_mix ?a_law_numbers ?l_law_numbers ?c_law_numbers ?k_law_numbers ?a_law_take ?l_law_take ?c_law_take ?k_law_take ?a_law_low ?l_law_low ?c_law_low ?k_law_low ?a_law_plus ?l_law_plus ?c_law_plus ?k_law_plus ?a_law_times ?l_law_times ?c_law_times ?k_law_times ?a_law_less ?l_law_less ?c_law_less ?k_law_less ?a_law_minus ?l_law_minus ?c_law_minus ?k_law_minus ?a_law_bound ?l_law_bound ?c_law_bound ?k_law_bound ?a_law_spread ?l_law_spread ?c_law_spread ?k_law_spread ?a_law_chances ?l_law_chances ?c_law_chances ?k_law_chances ?a_law_kept ?l_law_kept ?c_law_kept ?k_law_kept ?alaw ?llaw ?claw ?klaw ?hNOTHING ?lNOTHING ?zabs ?zint ?zlen ?zlist ?zmax ?zmin ?zrange ?zsorted ?zsum ?zzip ?hgcd
    (case hSamphireError => k_is)
    (case kpSamphireError => k_is)
    (case sbSamphireError => k_is)
    (case tySamphireError => k_is)
    (case hdSamphireError => k_is)
    (case suSamphireError => first | rfl | k_is)
    (case hZeroDenominator => k_is)
    (case kpZeroDenominator => k_is)
    (case sbZeroDenominator => k_is)
    (case tyZeroDenominator => k_is)
    (case hdZeroDenominator => k_is)
    (case suZeroDenominator => first | rfl | k_is)
    (case xZeroDenominator => k_exc)
    (case alowest => k_is)
    (case llowest => k_is)
    (case clowest => k_is)
    (case klowest => k_is)
    (case aplus => k_is)
    (case lplus => k_is)
    (case cplus => k_is)
    (case kplus => k_is)
    (case aminus => k_is)
    (case lminus => k_is)
    (case cminus => k_is)
    (case kminus => k_is)
    (case atimes => k_is)
    (case ltimes => k_is)
    (case ctimes => k_is)
    (case ktimes => k_is)
    (case aover => k_is)
    (case lover => k_is)
    (case cover => k_is)
    (case kover => k_is)
    (case aless => k_is)
    (case lless => k_is)
    (case cless => k_is)
    (case kless => k_is)
    (case asum_of => k_is)
    (case lsum_of => k_is)
    (case csum_of => k_is)
    (case ksum_of => k_is)
    (case aspread => k_is)
    (case lspread => k_is)
    (case cspread => k_is)
    (case kspread => k_is)
    (case aterm_of => k_is)
    (case lterm_of => k_is)
    (case cterm_of => k_is)
    (case kterm_of => k_is)
    (case aprice_bound => k_is)
    (case lprice_bound => k_is)
    (case cprice_bound => k_is)
    (case kprice_bound => k_is)
    (case abest_price => k_is)
    (case lbest_price => k_is)
    (case cbest_price => k_is)
    (case kbest_price => k_is)
    (case abest_chances => k_is)
    (case lbest_chances => k_is)
    (case cbest_chances => k_is)
    (case kbest_chances => k_is)
    (case a_law_mix => k_is)
    (case l_law_mix => k_is)
    (case c_law_mix => k_is)
    (case k_law_mix => k_is)
    (case a_law_numbers => k_is)
    (case l_law_numbers => k_is)
    (case c_law_numbers => k_is)
    (case k_law_numbers => k_is)
    (case a_law_take => k_is)
    (case l_law_take => k_is)
    (case c_law_take => k_is)
    (case k_law_take => k_is)
    (case a_law_low => k_is)
    (case l_law_low => k_is)
    (case c_law_low => k_is)
    (case k_law_low => k_is)
    (case a_law_plus => k_is)
    (case l_law_plus => k_is)
    (case c_law_plus => k_is)
    (case k_law_plus => k_is)
    (case a_law_times => k_is)
    (case l_law_times => k_is)
    (case c_law_times => k_is)
    (case k_law_times => k_is)
    (case a_law_less => k_is)
    (case l_law_less => k_is)
    (case c_law_less => k_is)
    (case k_law_less => k_is)
    (case a_law_minus => k_is)
    (case l_law_minus => k_is)
    (case c_law_minus => k_is)
    (case k_law_minus => k_is)
    (case a_law_bound => k_is)
    (case l_law_bound => k_is)
    (case c_law_bound => k_is)
    (case k_law_bound => k_is)
    (case a_law_spread => k_is)
    (case l_law_spread => k_is)
    (case c_law_spread => k_is)
    (case k_law_spread => k_is)
    (case a_law_chances => k_is)
    (case l_law_chances => k_is)
    (case c_law_chances => k_is)
    (case k_law_chances => k_is)
    (case a_law_kept => k_is)
    (case l_law_kept => k_is)
    (case c_law_kept => k_is)
    (case k_law_kept => k_is)
    (case alaw => k_is)
    (case llaw => k_is)
    (case claw => k_is)
    (case klaw => k_is)
    (case hNOTHING => k_is)
    (case lNOTHING => k_is)
    (case zabs => k_is)
    (case zint => k_is)
    (case zlen => k_is)
    (case zlist => k_is)
    (case zmax => k_is)
    (case zmin => k_is)
    (case zrange => k_is)
    (case zsorted => k_is)
    (case zsum => k_is)
    (case zzip => k_is)
    (case hgcd => k_is)
