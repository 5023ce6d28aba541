import PyProof.Rows.All
import Wide.All
import OpenK.AllK
import Wide.FinOn
import HandS.ForMost
import HandS.Walk
import HandS.Wide
import HandS.Gcd
import HandS.IsInst
import HandS.Codes
import HandS.Exc
import HandS.ExcOwn
import HandS.ExcIs
import HandS.TryOnly
import HandS.WordsExc
import HandS.CallLocal
import HandS.More
import HandS.NoneIn
import HandS.SortInts
import HandS.ExcInit
import HandS.ExcField
import HandS.WordsDict
import HandS.Rev
import HandS.Deep
import PyProof.Rows.StrMeet
import PySem.Challenge.RW_samphire_k29_thresholds_of_wholes_by_par
set_option Elab.async false
set_option linter.all false
set_option maxRecDepth 100000
set_option synthInstance.maxSize 100000
set_option synthInstance.maxHeartbeats 4000000
namespace Sam
open PySem PySem.Spec PyProof.Rows L2
open C8 (pss_cut tCut)
def topS (i : Nat) : Stmt := PySem.Challenge.pw_samphire_k29_thresholds_of_wholes_by_par.main.body.getD i (.Pass ⟨0, 0, 0, 0⟩)
abbrev s_lowest : Stmt := (topS 6)
abbrev nm_lowest : List Str := ["p", "q", "divisor"]
theorem sc_lowest : FnScope ["p", "q", "divisor"] ["p", "q"] (defScope s_lowest) := ⟨rfl, rfl, rfl, by decide +kernel, rfl, by decide +kernel, by decide +kernel⟩
abbrev s_plus : Stmt := (topS 7)
abbrev nm_plus : List Str := ["a", "b"]
theorem sc_plus : FnScope ["a", "b"] ["a", "b"] (defScope s_plus) := ⟨rfl, rfl, rfl, by decide +kernel, rfl, by decide +kernel, by decide +kernel⟩
abbrev s_minus : Stmt := (topS 8)
abbrev nm_minus : List Str := ["a", "b"]
theorem sc_minus : FnScope ["a", "b"] ["a", "b"] (defScope s_minus) := ⟨rfl, rfl, rfl, by decide +kernel, rfl, by decide +kernel, by decide +kernel⟩
abbrev s_over : Stmt := (topS 9)
abbrev nm_over : List Str := ["a", "b"]
theorem sc_over : FnScope ["a", "b"] ["a", "b"] (defScope s_over) := ⟨rfl, rfl, rfl, by decide +kernel, rfl, by decide +kernel, by decide +kernel⟩
abbrev s_less : Stmt := (topS 10)
abbrev nm_less : List Str := ["a", "b"]
theorem sc_less : FnScope ["a", "b"] ["a", "b"] (defScope s_less) := ⟨rfl, rfl, rfl, by decide +kernel, rfl, by decide +kernel, by decide +kernel⟩
abbrev s_sum_of : Stmt := (topS 11)
abbrev nm_sum_of : List Str := ["fractions", "total", "fraction"]
theorem sc_sum_of : FnScope ["fractions", "total", "fraction"] ["fractions"] (defScope s_sum_of) := ⟨rfl, rfl, rfl, by decide +kernel, rfl, by decide +kernel, by decide +kernel⟩
abbrev s_greater : Stmt := (topS 14)
abbrev nm_greater : List Str := ["one", "other"]
theorem sc_greater : FnScope ["one", "other"] ["one", "other"] (defScope s_greater) := ⟨rfl, rfl, rfl, by decide +kernel, rfl, by decide +kernel, by decide +kernel⟩
abbrev s_threshold : Stmt := (topS 15)
abbrev nm_threshold : List Str := ["weights", "size", "left", "rest", "places", "found", "largest", "weight"]
theorem sc_threshold : FnScope ["weights", "size", "left", "rest", "places", "found", "largest", "weight"] ["weights", "size"] (defScope s_threshold) := ⟨rfl, rfl, rfl, by decide +kernel, rfl, by decide +kernel, by decide +kernel⟩
abbrev s__law_mix : Stmt := (topS 17)
abbrev nm__law_mix : List Str := ["_law_number", "_law_k"]
theorem sc__law_mix : FnScope ["_law_number", "_law_k"] ["_law_number", "_law_k"] (defScope s__law_mix) := ⟨rfl, rfl, rfl, by decide +kernel, rfl, by decide +kernel, by decide +kernel⟩
abbrev s__law_numbers : Stmt := (topS 18)
abbrev nm__law_numbers : List Str := ["_law_script", "_law_count", "_law_row", "_law_base", "_law_cell", "_law_rest", "_law_k"]
theorem sc__law_numbers : FnScope ["_law_script", "_law_count", "_law_row", "_law_base", "_law_cell", "_law_rest", "_law_k"] ["_law_script", "_law_count"] (defScope s__law_numbers) := ⟨rfl, rfl, rfl, by decide +kernel, rfl, by decide +kernel, by decide +kernel⟩
abbrev s__law_take : Stmt := (topS 19)
abbrev nm__law_take : List Str := ["_law_row", "_law_bound"]
theorem sc__law_take : FnScope ["_law_row", "_law_bound"] ["_law_row", "_law_bound"] (defScope s__law_take) := ⟨rfl, rfl, rfl, by decide +kernel, rfl, by decide +kernel, by decide +kernel⟩
abbrev s__law_low : Stmt := (topS 20)
abbrev nm__law_low : List Str := ["_law_p", "_law_q", "_law_first", "_law_second", "_law_turn"]
theorem sc__law_low : FnScope ["_law_p", "_law_q", "_law_first", "_law_second", "_law_turn"] ["_law_p", "_law_q"] (defScope s__law_low) := ⟨rfl, rfl, rfl, by decide +kernel, rfl, by decide +kernel, by decide +kernel⟩
abbrev s__law_plus : Stmt := (topS 21)
abbrev nm__law_plus : List Str := ["_law_one", "_law_other"]
theorem sc__law_plus : FnScope ["_law_one", "_law_other"] ["_law_one", "_law_other"] (defScope s__law_plus) := ⟨rfl, rfl, rfl, by decide +kernel, rfl, by decide +kernel, by decide +kernel⟩
abbrev s__law_less : Stmt := (topS 24)
abbrev nm__law_less : List Str := ["_law_one", "_law_other"]
theorem sc__law_less : FnScope ["_law_one", "_law_other"] ["_law_one", "_law_other"] (defScope s__law_less) := ⟨rfl, rfl, rfl, by decide +kernel, rfl, by decide +kernel, by decide +kernel⟩
abbrev s__law_sum : Stmt := (topS 25)
abbrev nm__law_sum : List Str := ["_law_rows", "_law_whole", "_law_one"]
theorem sc__law_sum : FnScope ["_law_rows", "_law_whole", "_law_one"] ["_law_rows"] (defScope s__law_sum) := ⟨rfl, rfl, rfl, by decide +kernel, rfl, by decide +kernel, by decide +kernel⟩
abbrev s__law_weight : Stmt := (topS 26)
abbrev nm__law_weight : List Str := ["_law_row"]
theorem sc__law_weight : FnScope ["_law_row"] ["_law_row"] (defScope s__law_weight) := ⟨rfl, rfl, rfl, by decide +kernel, rfl, by decide +kernel, by decide +kernel⟩
abbrev s_law : Stmt := (topS 27)
abbrev nm_law : List Str := ["_law_script", "_law_row", "_law_turn", "_law_weights", "_law_size", "_law_cut", "_law_limit", "_law_raised", "_law_whole", "_law_k", "_law_weight_here"]
theorem sc_law : FnScope ["_law_script", "_law_row", "_law_turn", "_law_weights", "_law_size", "_law_cut", "_law_limit", "_law_raised", "_law_whole", "_law_k", "_law_weight_here"] ["_law_script"] (defScope s_law) := ⟨rfl, rfl, rfl, by decide +kernel, rfl, by decide +kernel, by decide +kernel⟩
/-! ### own layer: what stays, new objects, steps -/
/-- all that was tracked outside F is as it was -/
def Ex (F : List Addr) (H H' : Hp) : Prop := ∀ b o, b ∉ F → H b = some o → H' b = some o
theorem Ex.refl {F : List Addr} (H : Hp) : Ex F H H := fun _ _ _ h => h
theorem Ex.trans {F : List Addr} {H H1 H2 : Hp} (a : Ex F H H1) (b : Ex F H1 H2) : Ex F H H2 := fun c o n h => b c o n (a c o n h)
theorem Ex.of {F : List Addr} {H H1 : Hp} (a : Same H H1) : Ex F H H1 := fun c o _ h => a c o h
theorem Ex.mono {F G : List Addr} {H H1 : Hp} (a : Ex F H H1) (h : ∀ b, b ∈ F → b ∈ G) : Ex G H H1 := fun c o n e => a c o (fun z => n (h c z)) e
theorem Ex.rd {F : List Addr} {H H' : Hp} {a : Addr} {u : HO} (e : Ex F H H') (n : a ∉ F) (h : Rd H a u) : Rd H' a u := by
  rcases h with h | ⟨o, h⟩
  · exact .inl (e _ _ n h)
  · exact .inr ⟨o, e _ _ n h⟩
theorem Ex.seq {K : PySem.W.Frag} {F : List Addr} {H H' : Hp} {a : Addr} {xs : List V} (e : Ex F H H') (n : a ∉ F) (h : SqL K H a xs) : SqL K H' a xs := by
  rcases h with h | h
  · exact .inl (e.rd n h)
  · exact .inr h
theorem Ex.tup {K : PySem.W.Frag} {F : List Addr} {H H' : Hp} {a : Addr} {xs : List V} (e : Ex F H H') (n : a ∉ F) (h : SqT K H a xs) : SqT K H' a xs := by
  rcases h with h | h
  · exact .inl (e.rd n h)
  · exact .inr h
theorem same_upd {H : Hp} {p : Addr} {o : HO} (h : H p = none) : Same H (upd H p o) := fun b x e => by
  rw [upd_ne (ne_of_none e h)]
  exact e
/-- an object that H does not know is changed -/
theorem _root_.L2.Same.mut {H H' : Hp} {p : Addr} {o : HO} (e : Same H H') (h : H p = none) : Same H (upd H' p o) := fun a u ha => by
  rw [upd_ne (ne_of_none ha h)]
  exact e a u ha
theorem Ex.mut {F : List Addr} {H H' : Hp} {p : Addr} {o : HO} (e : Ex F H H') (h : H p = none ∨ p ∈ F) : Ex F H (upd H' p o) := fun a u n ha => by
  have hne : a ≠ p := by
    rcases h with h | h
    · exact ne_of_none ha h
    · exact fun z => n (z ▸ h)
  rw [upd_ne hne]
  exact e a u n ha
theorem _root_.L2.Same.tupq {K : PySem.W.Frag} {H H' : Hp} {a : Addr} {xs : List V} (e : Same H H') (h : SqT K H a xs) : SqT K H' a xs := by
  rcases h with (h | ⟨o, h⟩) | h
  · exact .inl (.inl (e _ _ h))
  · exact .inl (.inr ⟨o, e _ _ h⟩)
  · exact .inr h
/-- a new object, met by what is known of the heap -/
theorem w_new {H : Hp} {o : HO} {Q : V → Hp → Prop} (h : ∀ p H', H p = none → Same H H' → H' p = some o → Q (.ref p) H') : ∀ p, H p = none → Q (.ref p) (upd H p o) := fun p hp => h p _ hp (same_upd hp) upd_same
section
variable {K : PySem.W.Frag} {H : Hp} {Q : VK}
theorem w_ixL {p : Addr} {xs : List V} {i : Int} {v : V} (h : SqL K H p xs) (e : atI xs i = some v) (q : Q v H) : rIxL K (.ref p) (.int i) H Q := ⟨p, xs, i, v, rfl, rfl, h, e, q⟩
theorem w_ixT {p : Addr} {xs : List V} {i : Int} {v : V} (h : SqT K H p xs) (e : atI xs i = some v) (q : Q v H) : rIxT K (.ref p) (.int i) H Q := ⟨p, xs, i, v, rfl, rfl, h, e, q⟩
end
theorem bl_inj {a b : Bool} (h : V.bl a = V.bl b) : a = b := V.bl.inj h
theorem ite_dec {c : Prop} [Decidable c] {A B : Prop} (h1 : c → A) (h2 : ¬ c → B) : if decide c = true then A else B := by
  by_cases h : c
  · rw [if_pos (decide_eq_true h)]; exact h1 h
  · rw [if_neg (by rw [decide_eq_false h]; exact Bool.false_ne_true)]; exact h2 h
theorem atI_int {xs : List V} {i : Int} {v : V} (h0 : 0 ≤ i) (h : xs[i.toNat]? = some v) : atI xs i = some v := by
  have e := atI_nat h
  rw [Int.toNat_of_nonneg h0] at e
  exact e
theorem map_get {ns : List Int} {i : Nat} {v : V} (h : (ns.map V.int)[i]? = some v) : ∃ z, v = .int z ∧ ns[i]? = some z := by
  rw [List.getElem?_map] at h
  cases e : ns[i]? with
  | none => rw [e] at h; cases h
  | some z => rw [e] at h; exact ⟨z, (Option.some.inj h).symm, rfl⟩
theorem get_map {ns : List Int} {i : Nat} {z : Int} (h : ns[i]? = some z) : (ns.map V.int)[i]? = some (.int z) := by
  rw [List.getElem?_map, h]
  rfl
theorem nin {p L : Addr} (h : p ≠ L) : p ∉ [L] := fun z => h (List.mem_singleton.mp z)
/-- a change at x alone, which H did not know -/
theorem Ex.new1 {F : List Addr} {H H1 H2 : Hp} {x : Addr} (a : Ex F H H1) (b : Ex [x] H1 H2) (h : H x = none) : Ex F H H2 := fun c o n e => b c o (nin (ne_of_none e h)) (a c o n e)
theorem Ex.free {F : List Addr} {H H' : Hp} {l : Addr} (e : Ex F H H') (n : l ∉ F) (h : H' l = none) : H l = none := by
  cases q : H l with
  | none => rfl
  | some o =>
    rw [e l o n q] at h
    cases h
theorem Ex.at {F : List Addr} {H H' : Hp} {l : Addr} {o : HO} (e : Ex F H H') (n : l ∉ F) (h : H l = some o) : H' l = some o := e l o n h
theorem ixN_int {n : Nat} {k : Int} (h0 : 0 ≤ k) (h1 : k < n) : ixN n k = some k.toNat := by
  unfold ixN
  rw [if_pos h0, if_pos h1]
theorem sum_set : ∀ (l : List Int) (j : Nat) (x v : Int), l[j]? = some x → (l.set j v).sum = l.sum - x + v
  | [], _, _, _, h => by simp at h
  | y :: l, 0, x, v, h => by
    have e : y = x := by simpa using h
    subst e
    simp
    omega
  | y :: l, j + 1, x, v, h => by
    have ih := sum_set l j x v (by simpa using h)
    simp only [List.set_cons_succ, List.sum_cons, ih]
    omega
theorem mem_le_sum : ∀ (l : List Int), (∀ x ∈ l, 0 ≤ x) → ∀ x ∈ l, x ≤ l.sum
  | [], _, x, hx => by simp at hx
  | y :: l, h, x, hx => by
    have h0 : 0 ≤ y := h y List.mem_cons_self
    have hl : ∀ x ∈ l, 0 ≤ x := fun z hz => h z (List.mem_cons_of_mem _ hz)
    have hs : 0 ≤ l.sum := sum_nn l hl
    rcases List.mem_cons.mp hx with e | e
    · subst e; rw [List.sum_cons]; omega
    · have := mem_le_sum l hl x e
      rw [List.sum_cons]; omega
where
  sum_nn : ∀ (l : List Int), (∀ x ∈ l, 0 ≤ x) → 0 ≤ l.sum
    | [], _ => by simp
    | y :: l, h => by
      have h0 : 0 ≤ y := h y List.mem_cons_self
      have := sum_nn l (fun z hz => h z (List.mem_cons_of_mem _ hz))
      rw [List.sum_cons]; omega
theorem sum_le_of : ∀ (l : List Int) (b : Int), (∀ x ∈ l, x ≤ b) → l.sum ≤ b * l.length
  | [], _, _ => by simp
  | y :: l, b, h => by
    have h0 : y ≤ b := h y List.mem_cons_self
    have := sum_le_of l b (fun z hz => h z (List.mem_cons_of_mem _ hz))
    rw [List.sum_cons, List.length_cons]
    have e : b * ((l.length + 1 : Nat) : Int) = b * l.length + b := by
      rw [Int.natCast_add, Int.mul_add]; simp
    omega
theorem w_yes {σ : L2.St} {H : Hp} {A B : Hp → Prop} (h : A H) : tYes σ H (fun b H3 => if b = true then A H3 else B H3) := by
  show (if true = true then A H else B H)
  rw [if_pos rfl]
  exact h
theorem lk_eq {f : Str} {v : V} {fs : List (Str × V)} : ((f, v) :: fs).lookup f = some v := by simp [List.lookup]
theorem lk_ne {f g : Str} {v : V} {fs : List (Str × V)} (h : (f == g) = false) : ((g, v) :: fs).lookup f = fs.lookup f := by simp [List.lookup, h]
theorem putF_eq {f : Str} {u v : V} {fs : List (Str × V)} : putF f v ((f, u) :: fs) = (f, v) :: fs := by simp [putF]
theorem putF_ne {f g : Str} {u v : V} {fs : List (Str × V)} (h : ¬ g = f) : putF f v ((g, u) :: fs) = (g, u) :: putF f v fs := by simp [putF, h]
theorem putF_nil {f : Str} {v : V} : putF f v [] = [(f, v)] := rfl
/-- a list stays where a thing of another kind at x changes -/
theorem _root_.L2.SqL.stay {K : PySem.W.Frag} {H H' : Hp} {a x : Addr} {xs : List V} {o : HO} (h : SqL K H a xs) (hx : H x = some o) (ho : ∀ ys, o ≠ .lst ys) (ho2 : ∀ b u, o ≠ .frz b u) (e : Ex [x] H H') : SqL K H' a xs := by
  rcases h with (h | ⟨u, h⟩) | h
  · exact .inl (.inl (e _ _ (nin fun z => ho _ (Option.some.inj ((z ▸ hx).symm.trans h))) h))
  · exact .inl (.inr ⟨u, e _ _ (nin fun z => ho2 _ _ (Option.some.inj ((z ▸ hx).symm.trans h))) h⟩)
  · exact .inr h
theorem sqT_of_k {K : PySem.W.Frag} {H : Hp} {a : Addr} {dd : Option Addr} {its : Array Value} {n : Nat} {sl : Array (Option Value)} {xs : List V}
    (l : K.lookup a = some ⟨.type "tuple", dd, .seq its n, sl⟩) (h : Vals xs its.toList) (hz : its.size ≤ 1000 := by simp) : SqT K H a xs :=
  .inr ⟨_, its, n, l, rfl, rfl, Nat.le_trans hz (by decide), h⟩
/-! rules whose reading names K, for use within a comprehension's block -/
section
variable {X : Cx} {K : PySem.W.Frag}
theorem ixLk (h : X.K = K) : IxR X (rIxL K) := by subst h; exact ix_list
theorem ixTk (h : X.K = K) : IxR X (rIxT K) := by subst h; exact ix_tup
theorem eqDk (h : X.K = K) (hu : X.A.units + 64 < cLine) : OpR X (compareOp .Eq) (rEqD K) := by subst h; exact op_eqD hu
theorem neDk (h : X.K = K) (hu : X.A.units + 64 < cLine) : OpR X (compareOp .NotEq) (rNeD K) := by subst h; exact op_neD hu
theorem inSk (h : X.K = K) : OpR X (compareOp .In) (rIn K false) := by subst h; exact op_in_seq
theorem niSk (h : X.K = K) : OpR X (compareOp .NotIn) (rIn K true) := by subst h; exact op_notIn_seq
def rLenQ (K : PySem.W.Frag) : List V → Hp → VK → Prop := fun xs H Q => ∃ p ys, xs = [.ref p] ∧ (SqL K H p ys ∨ SqT K H p ys) ∧ Q (.int ys.length) H
theorem lenk (h : X.K = K) : CallR X (.builtin "len") (rLenQ K) := by subst h; exact call_len_seq
theorem sumk (h : X.K = K) (hc : X.calm = true) : CallR X (.builtin "sum") (rSum K) := by subst h; exact cr_sum hc
theorem allk (h : X.K = K) (hc : X.calm = true) : CallR X (.builtin "all") (rAll K) := by subst h; exact cr_all hc
theorem anyk (h : X.K = K) (hc : X.calm = true) : CallR X (.builtin "any") (rAny K) := by subst h; exact cr_any hc
theorem pe_fldk {o : Expr} {ta : TE} {f : Str} {pos : Pos} (h : X.K = K) (ho : PE X o ta) (hb : attributeBase o f X.env (eval o X.env) = eval o X.env) : PE X (.Attribute o f pos) (tFld K ta f) := by subst h; exact pe_fld ho hb
theorem slLk (h : X.K = K) : SlR X (rSlL K) := by subst h; exact sl_list
theorem slTk (h : X.K = K) : SlR X (rSlT K) := by subst h; exact sl_tup
end
theorem pg_tupk {X : Cx} {K : PySem.W.Frag} {pos : Pos} {es : List Expr} {k : Nat} {t : TGs} {n : Nat} (hK : X.K = K) (hc : X.calm = true) (h : PGs X es t)
    (hn : (assignEach es X.env).length = n := by rfl) (hst : (assignEach es X.env).findIdx? (·.1) = none := by rfl) : PG X (.Tuple es k pos) (gTup K n t) := by subst hK; exact pg_tup hc h hn hst
/-- two tests joined, each known -/
theorem w_or {t u : TT} {σ : L2.St} {H : Hp} {Q : Bool → Hp → Prop} {b1 b2 : Bool} (h1 : ∀ Q' : Bool → Hp → Prop, Q' b1 H → t σ H Q') (h2 : ∀ Q' : Bool → Hp → Prop, Q' b2 H → u σ H Q') (q : Q (b1 || b2) H) : tOr t u σ H Q := by
  refine h1 _ ?_
  cases b1 with
  | true => exact iteT q
  | false => exact iteF (h2 _ q)
theorem w_and {t u : TT} {σ : L2.St} {H : Hp} {Q : Bool → Hp → Prop} {b1 b2 : Bool} (h1 : ∀ Q' : Bool → Hp → Prop, Q' b1 H → t σ H Q') (h2 : ∀ Q' : Bool → Hp → Prop, Q' b2 H → u σ H Q') (q : Q (b1 && b2) H) : tAnd t u σ H Q := by
  refine h1 _ ?_
  cases b1 with
  | true => exact iteT (h2 _ q)
  | false => exact iteF q
theorem w_ifor {t u : TT} {σ : L2.St} {H : Hp} {A B R : TS} {D : Ends} {b1 b2 : Bool} (h1 : ∀ Q' : Bool → Hp → Prop, Q' b1 H → t σ H Q') (h2 : ∀ Q' : Bool → Hp → Prop, Q' b2 H → u σ H Q')
    (q : if (b1 || b2) = true then A { D with nx := R D } σ H else B { D with nx := R D } σ H) : tSeq (tIfS (tOr t u) A B) R D σ H :=
  w_or (t := t) (u := u) h1 h2 q
theorem w_ifand {t u : TT} {σ : L2.St} {H : Hp} {A B R : TS} {D : Ends} {b1 b2 : Bool} (h1 : ∀ Q' : Bool → Hp → Prop, Q' b1 H → t σ H Q') (h2 : ∀ Q' : Bool → Hp → Prop, Q' b2 H → u σ H Q')
    (q : if (b1 && b2) = true then A { D with nx := R D } σ H else B { D with nx := R D } σ H) : tSeq (tIfS (tAnd t u) A B) R D σ H :=
  w_and (t := t) (u := u) h1 h2 q

/-! ### data: lists of ints, comparisons -/
theorem shaped_mk {d : PyData} (h1 : d.canLay0 = true) (h2 : d.depth ≤ 64) : SeqAt.shaped d = true := by
  unfold SeqAt.shaped
  rw [h1, decide_eq_true h2]
  rfl
theorem lay_ints : ∀ ns : List Int, PyData.canLayAll0 (ns.map PyData.int) = true
  | [] => rfl
  | _ :: r => by
    show (true && PyData.canLayAll0 (r.map PyData.int)) = true
    rw [lay_ints r]
    rfl
theorem depth_ints : ∀ ns : List Int, PyData.depthAll (ns.map PyData.int) = 0
  | [] => rfl
  | _ :: r => by
    show max 0 (PyData.depthAll (r.map PyData.int)) = 0
    rw [depth_ints r]
    rfl
theorem shaped_ints (ns : List Int) : SeqAt.shaped (.list (ns.map .int)) = true := shaped_mk (lay_ints ns) (by
  show PyData.depthAll (ns.map PyData.int) + 1 ≤ 64
  rw [depth_ints]
  decide)
theorem shaped_intsT (ns : List Int) : SeqAt.shaped (.tuple (ns.map .int)) = true := shaped_mk (lay_ints ns) (by
  show PyData.depthAll (ns.map PyData.int) + 1 ≤ 64
  rw [depth_ints]
  decide)
theorem eqvAll_ints : ∀ ns ms : List Int, PyData.eqvAll (ns.map .int) (ms.map .int) = decide (ns = ms)
  | [], [] => rfl
  | [], _ :: _ => rfl
  | _ :: _, [] => rfl
  | x :: r, y :: t => by
    show (PyData.eqv (.int x) (.int y) && PyData.eqvAll (r.map PyData.int) (t.map PyData.int)) = _
    rw [eqvAll_ints r t]
    show ((x == y) && decide (r = t)) = decide (x :: r = y :: t)
    by_cases h1 : x = y
    · by_cases h2 : r = t
      · subst h1 h2; simp
      · subst h1; simp [h2]
    · simp [h1]
theorem eqv_ints (ns ms : List Int) : PyData.eqv (.list (ns.map .int)) (.list (ms.map .int)) = decide (ns = ms) := by
  rw [PyData.eqv]
  exact eqvAll_ints ns ms
theorem eqv_intsT (ns ms : List Int) : PyData.eqv (.tuple (ns.map .int)) (.tuple (ms.map .int)) = decide (ns = ms) := by
  rw [PyData.eqv]
  exact eqvAll_ints ns ms
theorem dp_ints {K : PySem.W.Frag} {H : Hp} : ∀ ns : List Int, DpAll K H (ns.map V.int) (ns.map PyData.int)
  | [] => .nil
  | _ :: r => .cons (.int _) (dp_ints r)

/-! ### fractions as rationals: plain facts -/
theorem log2_lt' {i : Int} {b : Nat} (hb : 0 < b) (h : i.natAbs < 2 ^ b) : i.natAbs.log2 < b := PySem.Flt.log2_lt_of hb h
theorem gcd_pos_right {p q : Int} (hq : q ≠ 0) : 0 < Int.gcd p q := Nat.pos_of_ne_zero fun z => hq (Int.gcd_eq_zero_iff.mp z).2
def lowD (p q : Int) : Int := if q < 0 then -(Int.gcd p q : Int) else (Int.gcd p q : Int)
theorem lowD_ne {p q : Int} (hq : q ≠ 0) : lowD p q ≠ 0 := by
  have := gcd_pos_right (p := p) hq
  unfold lowD
  split <;> omega
theorem lowD_abs (p q : Int) : (lowD p q).natAbs = Int.gcd p q := by
  unfold lowD
  split
  · rw [Int.natAbs_neg, Int.natAbs_natCast]
  · rw [Int.natAbs_natCast]
theorem gcd_le_right {p q : Int} (hq : q ≠ 0) : Int.gcd p q ≤ q.natAbs := Nat.le_of_dvd (by omega) (by
  have := Int.gcd_dvd_natAbs_right p q
  exact this)
theorem low_num {p q : Int} (hq : q ≠ 0) : p.fdiv (lowD p q) = (Rat.divInt p q).num := by
  have hg := gcd_pos_right (p := p) hq
  obtain ⟨k, hk⟩ := Int.gcd_dvd_left p q
  rw [Rat.num_divInt, Int.gcd_comm q p]
  unfold lowD
  have hg' : (Int.gcd p q : Int) ≠ 0 := by omega
  generalize Int.gcd p q = g at hk hg hg'
  subst hk
  by_cases h : q < 0
  · rw [if_pos h, Int.sign_eq_neg_one_of_neg h]
    rw [show -1 * ((g : Int) * k) = (g : Int) * (-k) by rw [Int.mul_neg]; omega, Int.mul_ediv_cancel_left _ hg']
    rw [show (g : Int) * k = (-(g : Int)) * (-k) by rw [Int.neg_mul_neg]]
    exact Int.mul_fdiv_cancel_left _ (by omega)
  · rw [if_neg h, Int.sign_eq_one_of_pos (by omega), Int.one_mul, Int.mul_ediv_cancel_left _ hg']
    exact Int.mul_fdiv_cancel_left _ hg'
theorem low_den {p q : Int} (hq : q ≠ 0) : q.fdiv (lowD p q) = ((Rat.divInt p q).den : Int) := by
  have hg := gcd_pos_right (p := p) hq
  obtain ⟨k, hk⟩ := Int.gcd_dvd_right p q
  rw [Rat.den_divInt, if_neg hq, Int.gcd_comm q p]
  unfold lowD
  have hg' : (Int.gcd p q : Int) ≠ 0 := by omega
  generalize Int.gcd p q = g at hk hg hg'
  have hab : q.natAbs = g * k.natAbs := by rw [hk, Int.natAbs_mul, Int.natAbs_natCast]
  rw [hab, Nat.mul_div_cancel_left _ hg]
  by_cases h : q < 0
  · rw [if_pos h]
    have hk0 : k < 0 := by
      rcases Int.lt_or_le k 0 with z | z
      · exact z
      · have : 0 ≤ (g : Int) * k := Int.mul_nonneg (by omega) z
        omega
    rw [hk, show (g : Int) * k = (-(g : Int)) * (-k) by rw [Int.neg_mul_neg]]
    rw [Int.mul_fdiv_cancel_left _ (by omega)]
    omega
  · rw [if_neg h]
    have hk0 : 0 ≤ k := by
      rcases Int.lt_or_le k 0 with z | z
      · have : (g : Int) * k < 0 := Int.mul_neg_of_pos_of_neg (by omega) z
        omega
      · exact z
    rw [hk, Int.mul_fdiv_cancel_left _ hg']
    omega
/-! sizes -/
def Sz (n : Nat) (r : Rat) : Prop := r.num.natAbs < 2 ^ n ∧ r.den < 2 ^ n
theorem Sz.mono {m n : Nat} {r : Rat} (h : Sz m r) (e : m ≤ n) : Sz n r := ⟨Nat.lt_of_lt_of_le h.1 (Nat.pow_le_pow_right (by decide) e), Nat.lt_of_lt_of_le h.2 (Nat.pow_le_pow_right (by decide) e)⟩
theorem sz_divInt {p q : Int} {n : Nat} (hq : q ≠ 0) (h1 : p.natAbs < 2 ^ n) (h2 : q.natAbs < 2 ^ n) : Sz n (Rat.divInt p q) := by
  constructor
  · rw [Rat.num_divInt]
    refine Nat.lt_of_le_of_lt ?_ h1
    refine Nat.le_trans (Int.natAbs_ediv_le_natAbs _ _) ?_
    rw [Int.natAbs_mul]
    rcases Int.lt_trichotomy q 0 with h | h | h
    · rw [Int.sign_eq_neg_one_of_neg h]; simp
    · exact absurd h hq
    · rw [Int.sign_eq_one_of_pos h]; simp
  · rw [Rat.den_divInt, if_neg hq]
    exact Nat.lt_of_le_of_lt (Nat.div_le_self _ _) h2
theorem abs_mul_lt {i j : Int} {a b : Nat} (ha : i.natAbs < 2 ^ a) (hb : j.natAbs < 2 ^ b) : (i * j).natAbs < 2 ^ (a + b) := wide_lt ha hb
theorem abs_add_lt {i j : Int} {a : Nat} (ha : i.natAbs < 2 ^ a) (hb : j.natAbs < 2 ^ a) : (i + j).natAbs < 2 ^ (a + 1) := by
  have : (i + j).natAbs ≤ i.natAbs + j.natAbs := Int.natAbs_add_le i j
  rw [Nat.pow_succ]
  omega
theorem abs_sub_lt {i j : Int} {a : Nat} (ha : i.natAbs < 2 ^ a) (hb : j.natAbs < 2 ^ a) : (i - j).natAbs < 2 ^ (a + 1) := by
  have : (i - j).natAbs ≤ i.natAbs + j.natAbs := Int.natAbs_sub_le i j
  rw [Nat.pow_succ]
  omega
theorem pow_up {x a b : Nat} (h : x < 2 ^ a) (e : a ≤ b) : x < 2 ^ b := Nat.lt_of_lt_of_le h (Nat.pow_le_pow_right (by decide) e)
theorem Sz.d {n : Nat} {r : Rat} (h : Sz n r) : (r.den : Int).natAbs < 2 ^ n := by rw [Int.natAbs_natCast]; exact h.2
theorem den_ne (r : Rat) : (r.den : Int) ≠ 0 := by have := r.den_pos; omega
theorem add_divInt (a b : Rat) : Rat.divInt (a.num * b.den + b.num * a.den) (a.den * b.den) = a + b := by
  rw [← Rat.divInt_add_divInt _ _ (den_ne a) (den_ne b), Rat.num_divInt_den, Rat.num_divInt_den]
theorem sub_divInt (a b : Rat) : Rat.divInt (a.num * b.den - b.num * a.den) (a.den * b.den) = a - b := by
  rw [← Rat.divInt_sub_divInt _ _ (den_ne a) (den_ne b), Rat.num_divInt_den, Rat.num_divInt_den]
theorem mul_divInt (a b : Rat) : Rat.divInt (a.num * b.num) (a.den * b.den) = a * b := by
  rw [← Rat.divInt_mul_divInt, Rat.num_divInt_den, Rat.num_divInt_den]
theorem div_divInt (a b : Rat) : Rat.divInt (a.num * b.den) (a.den * b.num) = a / b := by
  rw [← Rat.divInt_mul_divInt, Rat.num_divInt_den, Rat.div_def]
  congr 1
  rw [← Rat.inv_divInt, Rat.num_divInt_den]
theorem sz_num {m n : Nat} {a b : Rat} (ha : Sz m a) (hb : Sz n b) : (a.num * b.den + b.num * a.den).natAbs < 2 ^ (m + n + 1) := abs_add_lt (abs_mul_lt ha.1 hb.d) (by rw [Nat.add_comm m n]; exact abs_mul_lt hb.1 ha.d)
theorem sz_numS {m n : Nat} {a b : Rat} (ha : Sz m a) (hb : Sz n b) : (a.num * b.den - b.num * a.den).natAbs < 2 ^ (m + n + 1) := abs_sub_lt (abs_mul_lt ha.1 hb.d) (by rw [Nat.add_comm m n]; exact abs_mul_lt hb.1 ha.d)
theorem sz_den {m n : Nat} {a b : Rat} (ha : Sz m a) (hb : Sz n b) : ((a.den : Int) * b.den).natAbs < 2 ^ (m + n) := abs_mul_lt ha.d hb.d
theorem dd_ne (a b : Rat) : (a.den : Int) * b.den ≠ 0 := Int.mul_ne_zero (den_ne a) (den_ne b)
theorem Sz.add {m n : Nat} {a b : Rat} (ha : Sz m a) (hb : Sz n b) : Sz (m + n + 1) (a + b) := by
  rw [← add_divInt]
  exact sz_divInt (dd_ne a b) (sz_num ha hb) (pow_up (sz_den ha hb) (by omega))
theorem Sz.sub {m n : Nat} {a b : Rat} (ha : Sz m a) (hb : Sz n b) : Sz (m + n + 1) (a - b) := by
  rw [← sub_divInt]
  exact sz_divInt (dd_ne a b) (sz_numS ha hb) (pow_up (sz_den ha hb) (by omega))
theorem Sz.mul {m n : Nat} {a b : Rat} (ha : Sz m a) (hb : Sz n b) : Sz (m + n) (a * b) := by
  rw [← mul_divInt]
  exact sz_divInt (dd_ne a b) (abs_mul_lt ha.1 hb.1) (sz_den ha hb)
theorem num_ne {b : Rat} (h : b ≠ 0) : b.num ≠ 0 := fun z => h (Rat.num_eq_zero.mp z)
theorem Sz.div {m n : Nat} {a b : Rat} (ha : Sz m a) (hb : Sz n b) (h0 : b ≠ 0) : Sz (m + n) (a / b) := by
  rw [← div_divInt]
  exact sz_divInt (Int.mul_ne_zero (den_ne a) (num_ne h0)) (abs_mul_lt ha.1 hb.d) (abs_mul_lt ha.d hb.1)
theorem Sz.neg {m : Nat} {a : Rat} (ha : Sz m a) : Sz m (-a) := by
  refine ⟨?_, ?_⟩
  · show (-a.num).natAbs < 2 ^ m
    rw [Int.natAbs_neg]
    exact ha.1
  · exact ha.2
theorem sz_zero : Sz 1 0 := ⟨by decide, by decide⟩
theorem sz_one : Sz 1 1 := ⟨by decide, by decide⟩
theorem rat_eq {a b : Rat} (h1 : a.num = b.num) (h2 : (a.den : Int) = b.den) : a = b := Rat.ext h1 (Int.ofNat.inj h2)
theorem rat_list_eq (a b : Rat) : decide ([a.num, (a.den : Int)] = [b.num, (b.den : Int)]) = decide (a = b) := by
  by_cases h : a = b
  · subst h; simp
  · rw [decide_eq_false h]
    refine decide_eq_false fun z => h ?_
    injection z with z1 z2
    injection z2 with z2 _
    exact rat_eq z1 z2
/-! Euclid's turns -/
theorem euc_gcd (a b : Int) : Int.gcd b (a.fmod b) = Int.gcd a b := by
  by_cases hb : b = 0
  · subst hb; rw [Int.fmod_zero]; exact Int.gcd_comm 0 a
  · rw [show a.fmod b = a - b * a.fdiv b from Int.fmod_def a b]
    rw [Int.gcd_comm b, Int.gcd_sub_mul_left_left]
theorem euc_step {a b : Int} {m : Nat} (h0 : 0 < b) (hb : b < a) (h : a.natAbs * b.natAbs < 2 ^ (m + 1)) : b.natAbs * (a.fmod b).natAbs < 2 ^ m := by
  have hr0 : 0 ≤ a.fmod b := Int.fmod_nonneg_of_pos a h0
  have hr1 : a.fmod b < b := Int.fmod_lt_of_pos a h0
  have hd : a = b * a.fdiv b + a.fmod b := (Int.mul_fdiv_add_fmod a b).symm
  have hq : 1 ≤ a.fdiv b := by
    rcases Int.lt_or_le (a.fdiv b) 1 with z | z
    · have : b * a.fdiv b ≤ 0 := Int.mul_nonpos_of_nonneg_of_nonpos (by omega) (by omega)
      omega
    · exact z
  have h2 : 2 * (a.fmod b) < a := by
    have : b * 1 ≤ b * a.fdiv b := Int.mul_le_mul_of_nonneg_left hq (by omega)
    omega
  have h3 : 2 * (a.fmod b).natAbs ≤ a.natAbs := by omega
  have h4 : 2 * (b.natAbs * (a.fmod b).natAbs) ≤ a.natAbs * b.natAbs := by
    calc 2 * (b.natAbs * (a.fmod b).natAbs) = (2 * (a.fmod b).natAbs) * b.natAbs := by rw [Nat.mul_comm b.natAbs, Nat.mul_assoc]
      _ ≤ a.natAbs * b.natAbs := Nat.mul_le_mul_right _ h3
  rw [Nat.pow_succ] at h
  omega
/-- what stands behind i turns: m is what the product may still be -/
def Euc (p q : Int) (n i : Nat) (a b : Int) : Prop := 0 ≤ a ∧ 0 ≤ b ∧ (0 < a ∨ 0 < b) ∧ Int.gcd a b = Int.gcd p q ∧ a.natAbs * b.natAbs < 2 ^ (n + 1 - max i 1) ∧ (0 < i → b < a)
theorem Euc.start {p q : Int} {n : Nat} (hq : q ≠ 0) (h : p.natAbs * q.natAbs < 2 ^ n) : Euc p q n 0 (p.natAbs : Int) (q.natAbs : Int) := by
  refine ⟨by omega, by omega, by omega, ?_, ?_, fun z => absurd z (by decide)⟩
  · exact Int.gcd_natAbs_natAbs' p q
  · rw [Int.natAbs_natCast, Int.natAbs_natCast]
    exact h
where
  Int.gcd_natAbs_natAbs' (p q : Int) : Int.gcd (p.natAbs : Int) (q.natAbs : Int) = Int.gcd p q := by
    unfold Int.gcd
    rw [Int.natAbs_natCast, Int.natAbs_natCast]
theorem Euc.next {p q : Int} {n i : Nat} {a b : Int} (h : Euc p q n i a b) (hi : i ≤ n) (hb : b ≠ 0) : Euc p q n (i + 1) b (a.fmod b) := by
  obtain ⟨h1, h2, h3, h4, h5, h6⟩ := h
  have b0 : 0 < b := by omega
  have hr0 : 0 ≤ a.fmod b := Int.fmod_nonneg_of_pos a b0
  have hr1 : a.fmod b < b := Int.fmod_lt_of_pos a b0
  refine ⟨h2, hr0, .inl b0, by rw [euc_gcd, h4], ?_, fun _ => hr1⟩
  by_cases z : b < a
  · rcases Nat.eq_zero_or_pos (n + 1 - max i 1) with e | e
    · rw [e] at h5
      have := h5
      have : 1 ≤ a.natAbs * b.natAbs := Nat.mul_pos (by omega) (by omega)
      omega
    · have e1 : n + 1 - max i 1 = (n + 1 - max i 1 - 1) + 1 := by omega
      rw [e1] at h5
      exact pow_up (euc_step b0 z h5) (by omega)
  · have hi0 : i = 0 := by
      rcases Nat.eq_zero_or_pos i with e | e
      · exact e
      · exact absurd (h6 e) z
    subst hi0
    have hle : (a.fmod b).natAbs ≤ a.natAbs := by
      by_cases z2 : a < b
      · rw [Int.fmod_eq_emod_of_nonneg a h2, Int.emod_eq_of_lt h1 z2]; exact Nat.le_refl _
      · have : a = b := by omega
        rw [this, Int.fmod_self]; omega
    have : b.natAbs * (a.fmod b).natAbs ≤ a.natAbs * b.natAbs := by
      rw [Nat.mul_comm]
      exact Nat.mul_le_mul_right _ hle
    exact Nat.lt_of_le_of_lt this h5
theorem Euc.ended {p q : Int} {n : Nat} {a b : Int} (h : Euc p q n (n + 1) a b) : b = 0 := by
  obtain ⟨h1, h2, h3, h4, h5, h6⟩ := h
  have hlt := h6 (by omega)
  rw [show n + 1 - max (n + 1) 1 = 0 by omega, Nat.pow_zero] at h5
  rcases Nat.eq_zero_or_pos b.natAbs with e | e
  · omega
  · have : 1 ≤ a.natAbs * b.natAbs := Nat.mul_pos (by omega) e
    omega
theorem Euc.gcd {p q : Int} {n i : Nat} {a : Int} (h : Euc p q n i a 0) : a = (Int.gcd p q : Int) := by
  obtain ⟨h1, h2, h3, h4, h5, h6⟩ := h
  rw [Int.gcd_zero_right] at h4
  omega

/-! ### own exceptions: made without arguments, a local def called in a try, isinstance of what is caught -/
section
variable {X : Cx} {C : Addr} {bmB : List Value} {B newId initId : String}
/-- X(), no argument, no own __init__ -/
theorem pmk_own0 {x : Str} {p pos : Pos} (F : ExcBaseFacts B newId initId bmB) (q : PySem.W.excIn X.K C bmB newId = true) (gC : X.mg x = some (.ref C))
    (kC : PySem.W.keepIn X.K (.ref C) = true) (r : Raises X (.ref C)) (hg : Gl X x)
    (hdb : (x == ("__debug__" : Str)) = false := by decide) :
    PMk X (.Call (.Name x p) [] [] pos) (fun _ H Q => Q (.ref C) none H) := by
  intro pins s σ H Q I h
  refine wpAny_Call_Name_kw (ld_glob I hg gC ?_ hdb)
  refine PySem.W.callWith_K0 I.kIn kC ?_
  obtain ⟨bm, N, nm, qn, bs, hdct, sn, sub, ab, col, dd, k0, k1, k2, k3, k5, mN, hC, hN, hni, T⟩ :=
    exc_obj I.kIn q
  show wpAny _ _ (call (.ref C) []) _ _ _
  exact wpAny_call_exc_subT F T hC hN hni (fun h' e hm =>
    mk_of I hm r h (I.hok.gone hm.new)) (Nat.zero_le _)
variable {CX : CXT} {k i : Nat} {f : Addr} {fd : FuncData} {ps : List Str} {sp : Sp} {E : L2.St → XK} {x : Str} {p pos : Pos} {e : Expr} {es : List Expr} {t : TA}
def tCallLS (i : Nat) (f : Addr) (sp : Sp) (E : L2.St → XK) (t : TA) : TE := fun σ H Q => σ[i]? = some (some (.ref f)) ∧ t σ H fun vs H1 => sp vs H1 Q (E σ)
/-- a local name that holds a def, called; what it lets out is wished for at the slots -/
theorem pe_callLS (F : FnOk X.prog X.w X.K X.mg X.base CX k f fd ps sp) (hr : Room k X.A) (hN : X.N[i]? = some x) (hv : Vis X.env.scope x)
    (hk : PySem.W.keepIn X.K (.ref f) = true) (hb : Binds X.K fd ps []) (hx : ∀ σ, PassesAt CX X σ (E σ)) (ha : PA X (e :: es) t)
    (hdb : (x == ("__debug__" : Str)) = false := by decide)
    (hcd : (x == ("__classdict__" : Str)) = false := by decide)
    (he : starEach (e :: es) X.env = (false, eval e X.env) :: starEach es X.env := by rfl)
    (hpl : (backTo pos (starEach es X.env)).any (·.1) = false := by rfl) :
    PE X (.Call (.Name x p) (e :: es) [] pos) (tCallLS i f sp E t) := by
  refine ⟨fun pins s σ H Q I ⟨hs, ht⟩ => ?_⟩
  have ld := (pe_var (pos := p) hN hv hdb hcd).run pins s σ H
    (fun v H1 => v = .ref f ∧ H1 = H) I ⟨.ref f, hs, rfl, rfl⟩
  refine wpAny_Call_Name_kw (thn ld fun u s1 z => ?_)
  obtain ⟨v, H1, I1, r1, rfl, rfl⟩ := z
  cases r1
  refine PySem.W.callWith_K (h₀ := X.base) I.ok.mod.kin hk
    (thn (ha.run pos pins s1 σ _ _ I1 ht) fun us s2 z2 => ?_) he hpl
  obtain ⟨vs, H2, I2, r, q⟩ := z2
  exact ⟨I2.kIn, run_fnS F hr hb (hx σ) I2 r q⟩
/-- isinstance(e, c) within the suite, e what it caught -/
def tIsE (K : PySem.W.Frag) (D a : Addr) (cls : Value) (d : Option Addr) (t : TA) : TE := fun σ H Q => cls = .ref D ∧ d = none ∧ tCB (rIsE K D a) t σ H Q
theorem pe_isE {a D : Addr} {oe : Obj} {pn : List (Addr × Obj)} {cls : Value} {d : Option Addr} (C : ExcC X.K D) (hz : Zc cls d oe) (hf : ∃ vs, oe.data = .fields vs)
    (hg : Gl (X.suite a ((a, oe) :: pn)) "isinstance") (hm : X.mg "isinstance" = none) (ha : PA (X.suite a ((a, oe) :: pn)) (e :: es) t)
    (he : starEach (e :: es) X.env = (false, eval e X.env) :: starEach es X.env := by rfl)
    (hpl : (backTo pos (starEach es X.env)).any (·.1) = false := by rfl) :
    PE (X.suite a ((a, oe) :: pn)) (.Call (.Name "isinstance" p) (e :: es) [] pos) (tIsE X.K D a cls d t) := by
  refine ⟨fun pins s σ H Q I h => ?_⟩
  obtain ⟨rfl, rfl, h⟩ := h
  exact (pe_callB (call_isE C hz hf) hg hm (by decide +kernel) ha (by decide) (by decide) he hpl).run pins s σ H Q I h
end
theorem kit_sub {K : PySem.W.Frag} {C D : Addr} (hd : PySem.W.hasDictIn K C = true) (ty : PySem.W.typeIn K (.ref C) = some (.type "type"))
    (s : PySem.W.subIn K (.ref D) (.ref C) = some true) : PySem.W.kitOne K (.ref D) (.ref C) = some true := by
  obtain ⟨cd, hc, _⟩ := PySem.W.any_some hd
  unfold PySem.W.kitOne
  split
  · rfl
  · show (if ((PySem.W.clsIn K C).isSome && PySem.W.typeIn K (.ref C) == some (.type "type")) = true
      then PySem.W.subIn K (.ref D) (.ref C) else none) = some true
    rw [hc, ty]
    exact s

theorem isik {X : Cx} {K : PySem.W.Frag} (h : X.K = K) : CallR X (.builtin "isinstance") (rIsi K) := by subst h; exact call_isi

/-! ### the pure layer: data, owned objects, the frozen part of the heap -/
inductive D where
  | non | bl (b : Bool) | int (i : Int) | str (x : Str) | lst (ds : List D) | tup (ds : List D) | dic (ks ds : List D) | obj (C : Addr) (ns : List Str) (ds : List D) | scr (ns : List Int) | ty (n : String)
inductive O where
  | lst (ds : List D) | dk (kvs : List (Key × D)) | dt (kvs : List (List Key × D))
inductive S where
  | fr (d : D) | ow (b : Bool) (o : O)
abbrev Sl := List (Option S)
def keyD : D → Option Key
  | .int i => some (.inl i)
  | .str x => some (.inr x)
  | _ => none
def dKey : Key → D
  | .inl i => .int i
  | .inr x => .str x
def dKeyT (k : List Key) : D := .tup (k.map dKey)
def O.dat : O → D
  | .lst ds => .lst ds
  | .dk kvs => .dic (kvs.map fun p => dKey p.1) (kvs.map (·.2))
  | .dt kvs => .dic (kvs.map fun p => dKeyT p.1) (kvs.map (·.2))
def S.dat : S → D
  | .fr d => d
  | .ow _ o => o.dat
def DicR (F : Hp) (a : Addr) (ks : List D) (vs : List V) : Prop :=
  (∃ kvs : List (Key × V), Rd F a (.dK kvs) ∧ ks = kvs.map (fun p => dKey p.1) ∧ vs = kvs.map (·.2)) ∨
  (∃ kvs : List (List Key × V), Rd F a (.dT kvs) ∧ ks = kvs.map (fun p => dKeyT p.1) ∧ vs = kvs.map (·.2))
mutual
def Rp (K : PySem.W.Frag) (F : Hp) : D → V → Prop
  | .non, v => v = .non
  | .bl b, v => v = .bl b
  | .int i, v => v = .int i
  | .str x, v => v = .str x
  | .lst ds, v => ∃ a vs, v = .ref a ∧ F a = some (.lst vs) ∧ RpA K F ds vs
  | .scr ns, v => ∃ a, v = .ref a ∧ SqL K F a (ns.map V.int)
  | .ty n, v => v = .ty n
  | .tup ds, v => ∃ a vs, v = .ref a ∧ SqT K F a vs ∧ RpA K F ds vs
  | .dic ks ds, v => ∃ a vs, v = .ref a ∧ DicR F a ks vs ∧ RpA K F ds vs
  | .obj C ns ds, v => ∃ a dx vs, v = .ref a ∧ F a = some (.ins C dx (ns.zip vs)) ∧ ns.length = vs.length ∧ RpA K F ds vs
def RpA (K : PySem.W.Frag) (F : Hp) : List D → List V → Prop
  | [], vs => vs = []
  | d :: ds, vs => ∃ v ws, vs = v :: ws ∧ Rp K F d v ∧ RpA K F ds ws
end
theorem rd_same {F F' : Hp} {a : Addr} {u : HO} (e : Same F F') (h : Rd F a u) : Rd F' a u := by
  rcases h with h | ⟨o, h⟩
  · exact .inl (e _ _ h)
  · exact .inr ⟨o, e _ _ h⟩
section
variable {K : PySem.W.Frag} {F F' H H' : Hp}
mutual
theorem Rp.mono (e : Same F F') : ∀ {d : D} {v : V}, Rp K F d v → Rp K F' d v
  | .non, _, h => h
  | .bl _, _, h => h
  | .int _, _, h => h
  | .str _, _, h => h
  | .ty _, _, h => h
  | .lst ds, _, h => let ⟨a, vs, e1, h1, h2⟩ := h; ⟨a, vs, e1, e _ _ h1, RpA.mono e h2⟩
  | .scr ds, _, h => let ⟨a, e1, h1⟩ := h; ⟨a, e1, e.seq h1⟩
  | .tup ds, _, h => let ⟨a, vs, e1, h1, h2⟩ := h; ⟨a, vs, e1, e.tupq h1, RpA.mono e h2⟩
  | .dic ks ds, _, h => let ⟨a, vs, e1, h1, h2⟩ := h; ⟨a, vs, e1, h1.imp (fun ⟨k, p, q⟩ => ⟨k, rd_same e p, q⟩) (fun ⟨k, p, q⟩ => ⟨k, rd_same e p, q⟩), RpA.mono e h2⟩
  | .obj C ns ds, _, h => let ⟨a, dx, vs, e1, h1, h2, h3⟩ := h; ⟨a, dx, vs, e1, e _ _ h1, h2, RpA.mono e h3⟩
theorem RpA.mono (e : Same F F') : ∀ {ds : List D} {vs : List V}, RpA K F ds vs → RpA K F' ds vs
  | [], _, h => h
  | _ :: _, _, h => let ⟨v, ws, e1, h1, h2⟩ := h; ⟨v, ws, e1, Rp.mono e h1, RpA.mono e h2⟩
end
theorem RpA.len : ∀ {ds : List D} {vs : List V}, RpA K F ds vs → ds.length = vs.length
  | [], _, h => by subst h; rfl
  | _ :: _, _, h => by
    obtain ⟨v, ws, rfl, _, h2⟩ := h
    exact congrArg (· + 1) (RpA.len h2)
theorem RpA.get : ∀ {ds : List D} {vs : List V}, RpA K F ds vs → ∀ {i : Nat} {d : D}, ds[i]? = some d → ∃ v, vs[i]? = some v ∧ Rp K F d v
  | [], _, _, i, d, e => by simp at e
  | x :: ds, _, h, 0, d, e => by
    obtain ⟨v, ws, rfl, h1, _⟩ := h
    have e1 : x = d := Option.some.inj e
    subst e1
    exact ⟨v, rfl, h1⟩
  | x :: ds, _, h, i + 1, d, e => by
    obtain ⟨v, ws, rfl, _, h2⟩ := h
    exact RpA.get h2 (i := i) e
theorem RpA.getV : ∀ {ds : List D} {vs : List V}, RpA K F ds vs → ∀ {i : Nat} {v : V}, vs[i]? = some v → ∃ d, ds[i]? = some d ∧ Rp K F d v
  | [], _, h, i, d, e => by subst h; simp at e
  | x :: ds, _, h, 0, d, e => by
    obtain ⟨v, ws, rfl, h1, _⟩ := h
    have e1 : v = d := Option.some.inj e
    subst e1
    exact ⟨x, rfl, h1⟩
  | x :: ds, _, h, i + 1, d, e => by
    obtain ⟨v, ws, rfl, _, h2⟩ := h
    exact RpA.getV h2 (i := i) e
theorem RpA.app : ∀ {ds es : List D} {vs ws : List V}, RpA K F ds vs → RpA K F es ws → RpA K F (ds ++ es) (vs ++ ws)
  | [], _, _, _, h, h' => by subst h; exact h'
  | _ :: _, _, _, _, h, h' => by
    obtain ⟨v, ws, rfl, h1, h2⟩ := h
    exact ⟨v, _, rfl, h1, RpA.app h2 h'⟩
theorem RpA.snoc {ds : List D} {vs : List V} {d : D} {v : V} (h : RpA K F ds vs) (h1 : Rp K F d v) : RpA K F (ds ++ [d]) (vs ++ [v]) := h.app ⟨v, [], rfl, h1, rfl⟩
theorem RpA.drop : ∀ {ds : List D} {vs : List V} (n : Nat), RpA K F ds vs → RpA K F (ds.drop n) (vs.drop n)
  | _, _, 0, h => h
  | [], _, n + 1, h => by subst h; exact rfl
  | _ :: _, _, n + 1, h => by
    obtain ⟨v, ws, rfl, h1, h2⟩ := h
    exact RpA.drop n h2
theorem RpA.take : ∀ {ds : List D} {vs : List V} (n : Nat), RpA K F ds vs → RpA K F (ds.take n) (vs.take n)
  | _, _, 0, h => by rw [List.take_zero, List.take_zero]; exact rfl
  | [], _, n + 1, h => by subst h; exact rfl
  | _ :: _, _, n + 1, h => by
    obtain ⟨v, ws, rfl, h1, h2⟩ := h
    exact ⟨v, _, rfl, h1, RpA.take n h2⟩
theorem RpA.rev : ∀ {ds : List D} {vs : List V}, RpA K F ds vs → RpA K F ds.reverse vs.reverse
  | [], _, h => by subst h; exact rfl
  | _ :: _, _, h => by
    obtain ⟨v, ws, rfl, h1, h2⟩ := h
    rw [List.reverse_cons, List.reverse_cons]
    exact (RpA.rev h2).snoc h1
theorem RpA.dropLast {ds : List D} {vs : List V} (h : RpA K F ds vs) : RpA K F ds.dropLast vs.dropLast := by
  rw [List.dropLast_eq_take, List.dropLast_eq_take, ← h.len]
  exact h.take _
theorem RpA.set : ∀ {ds : List D} {vs : List V} (n : Nat) {d : D} {v : V}, RpA K F ds vs → Rp K F d v → RpA K F (ds.set n d) (vs.set n v)
  | [], _, n, _, _, h, _ => by subst h; exact rfl
  | _ :: _, _, 0, _, _, h, h1 => by
    obtain ⟨v, ws, rfl, _, h2⟩ := h
    exact ⟨_, _, rfl, h1, h2⟩
  | _ :: _, _, n + 1, _, _, h, h1 => by
    obtain ⟨v, ws, rfl, h0, h2⟩ := h
    exact ⟨v, _, rfl, h0, RpA.set n h2 h1⟩
theorem RpA.erase : ∀ {ds : List D} {vs : List V} (n : Nat), RpA K F ds vs → RpA K F (ds.eraseIdx n) (vs.eraseIdx n)
  | [], _, n, h => by subst h; exact rfl
  | _ :: _, _, 0, h => by
    obtain ⟨v, ws, rfl, _, h2⟩ := h
    exact h2
  | _ :: _, _, n + 1, h => by
    obtain ⟨v, ws, rfl, h0, h2⟩ := h
    exact ⟨v, _, rfl, h0, RpA.erase n h2⟩
theorem RpA.rep {d : D} {v : V} (h : Rp K F d v) : ∀ n, RpA K F (List.replicate n d) (List.replicate n v)
  | 0 => rfl
  | n + 1 => ⟨v, _, rfl, h, RpA.rep h n⟩
theorem RpA.ints : ∀ {ns : List Int}, RpA K F (ns.map D.int) (ns.map V.int)
  | [] => rfl
  | _ :: _ => ⟨_, _, rfl, rfl, RpA.ints⟩
theorem RpA.intsV : ∀ {ns : List Int} {vs : List V}, RpA K F (ns.map D.int) vs → vs = ns.map V.int
  | [], _, h => h
  | n :: ns, _, h => by
    obtain ⟨v, ws, rfl, h0, h2⟩ := h
    rw [RpA.intsV h2, show v = .int n from h0]
    rfl
theorem RpA.strsV : ∀ {ns : List Str} {vs : List V}, RpA K F (ns.map D.str) vs → vs = ns.map V.str
  | [], _, h => h
  | n :: ns, _, h => by
    obtain ⟨v, ws, rfl, h0, h2⟩ := h
    rw [RpA.strsV h2, show v = .str n from h0]
    rfl
theorem RpA.blsV : ∀ {ns : List Bool} {vs : List V}, RpA K F (ns.map D.bl) vs → vs = ns.map V.bl
  | [], _, h => h
  | n :: ns, _, h => by
    obtain ⟨v, ws, rfl, h0, h2⟩ := h
    rw [RpA.blsV h2, show v = .bl n from h0]
    rfl

/-- a dict's pairs of keys and values -/
def PrK {κ : Type} (K : PySem.W.Frag) (F : Hp) : List (κ × D) → List (κ × V) → Prop := Paired fun p q => p.1 = q.1 ∧ Rp K F p.2 q.2
theorem PrK.mono {κ : Type} (e : Same F F') {xs : List (κ × D)} {ys : List (κ × V)} (h : PrK K F xs ys) : PrK K F' xs ys := Paired.mapP h fun _ _ z => ⟨z.1, z.2.mono e⟩
/-- the object at l -/
def ObjR (K : PySem.W.Frag) (F H : Hp) (l : Addr) : O → Prop
  | .lst ds => ∃ vs, H l = some (.lst vs) ∧ RpA K F ds vs
  | .dk kvs => ∃ ws, H l = some (.dK ws) ∧ PrK K F kvs ws
  | .dt kvs => ∃ ws, H l = some (.dT ws) ∧ PrK K F kvs ws
theorem ObjR.mono (e : Same F F') {l : Addr} : ∀ {o : O}, ObjR K F H l o → ObjR K F' H l o
  | .lst _, ⟨vs, h1, h2⟩ => ⟨vs, h1, h2.mono e⟩
  | .dk _, ⟨vs, h1, h2⟩ => ⟨vs, h1, h2.mono e⟩
  | .dt _, ⟨vs, h1, h2⟩ => ⟨vs, h1, h2.mono e⟩
theorem ObjR.has {l : Addr} : ∀ {o : O}, ObjR K F H l o → ∃ u, H l = some u
  | .lst _, ⟨_, h1, _⟩ => ⟨_, h1⟩
  | .dk _, ⟨_, h1, _⟩ => ⟨_, h1⟩
  | .dt _, ⟨_, h1, _⟩ => ⟨_, h1⟩
theorem ObjR.heap {l : Addr} (e : ∀ u, H l = some u → H' l = some u) : ∀ {o : O}, ObjR K F H l o → ObjR K F H' l o
  | .lst _, ⟨vs, h1, h2⟩ => ⟨vs, e _ h1, h2⟩
  | .dk _, ⟨vs, h1, h2⟩ => ⟨vs, e _ h1, h2⟩
  | .dt _, ⟨vs, h1, h2⟩ => ⟨vs, e _ h1, h2⟩
theorem PrK.keys {κ : Type} {kvs : List (κ × D)} {ws : List (κ × V)} (h : PrK K F kvs ws) : kvs.map (·.1) = ws.map (·.1) ∧ RpA K F (kvs.map (·.2)) (ws.map (·.2)) := by
  induction h with
  | nil => exact ⟨rfl, rfl⟩
  | @cons x y xs ys h t ih => exact ⟨by rw [List.map_cons, List.map_cons, ih.1, h.1], ⟨_, _, rfl, h.2, ih.2⟩⟩
/-- frozen, it is data -/
theorem ObjR.frz {l : Addr} {u : HO} (hu : H l = some u) (hF : F l = none) : ∀ {o : O}, ObjR K F H l o → Rp K (upd F l u) o.dat (.ref l)
  | .lst ds, ⟨vs, h1, h2⟩ => by
    rw [hu] at h1
    cases h1
    exact ⟨l, vs, rfl, upd_same, h2.mono (same_upd hF)⟩
  | .dk kvs, ⟨ws, h1, h2⟩ => by
    rw [hu] at h1
    cases h1
    have hk := h2.keys
    refine ⟨l, ws.map (·.2), rfl, .inl ⟨ws, .inl upd_same, ?_, rfl⟩, hk.2.mono (same_upd hF)⟩
    simpa [List.map_map, Function.comp_def] using congrArg (List.map dKey) hk.1
  | .dt kvs, ⟨ws, h1, h2⟩ => by
    rw [hu] at h1
    cases h1
    have hk := h2.keys
    refine ⟨l, ws.map (·.2), rfl, .inr ⟨ws, .inl upd_same, ?_, rfl⟩, hk.2.mono (same_upd hF)⟩
    simpa [List.map_map, Function.comp_def] using congrArg (List.map dKeyT) hk.1
end
/-! ### states: slots by data, what a step leaves -/
abbrev Om := Addr → Option (Nat × Bool)
section
variable {K : PySem.W.Frag}
def OwnAt (K : PySem.W.Frag) (F H : Hp) (ω : Om) (i : Nat) : S → V → Prop
  | .fr d, v => Rp K F d v
  | .ow b o, v => ∃ l, v = .ref l ∧ ω l = some (i, b) ∧ ObjR K F H l o
structure Sta (K : PySem.W.Frag) (F H : Hp) (ω : Om) (s : Sl) (σ : L2.St) : Prop where
  sf : Same F H
  ow : ∀ b p, ω b = some p → F b = none ∧ ∃ u, H b = some u
  at' : ∀ i x, s[i]? = some (some x) → ∃ v, σ[i]? = some (some v) ∧ OwnAt K F H ω i x v
  len : s.length = σ.length
structure Stp (F H : Hp) (ω : Om) (F' H' : Hp) (ω' : Om) : Prop where
  sf : Same F F'
  fr : ∀ b o, ω b = none → H b = some o → H' b = some o
  om : ∀ b o, ω b = none → H b = some o → ω' b = none
  fn : ∀ b o, ω b = none → H b = some o → F b = none → F' b = none
  tr : ∀ b, H' b = none → H b = none
  bk : ∀ b j, ω' b = some (j, true) ↔ ω b = some (j, true)
theorem Stp.refl (F H : Hp) (ω : Om) : Stp F H ω F H ω := ⟨Same.refl F, fun _ _ _ h => h, fun _ _ h _ => h, fun _ _ _ _ h => h, fun _ h => h, fun _ _ => Iff.rfl⟩
theorem Stp.trans {F H F1 H1 F2 H2 : Hp} {ω ω1 ω2 : Om} (a : Stp F H ω F1 H1 ω1) (b : Stp F1 H1 ω1 F2 H2 ω2) : Stp F H ω F2 H2 ω2 :=
  ⟨a.sf.trans b.sf, fun c o h1 h2 => b.fr c o (a.om c o h1 h2) (a.fr c o h1 h2), fun c o h1 h2 => b.om c o (a.om c o h1 h2) (a.fr c o h1 h2),
   fun c o h1 h2 h3 => b.fn c o (a.om c o h1 h2) (a.fr c o h1 h2) (a.fn c o h1 h2 h3), fun c h => a.tr c (b.tr c h), fun c j => (b.bk c j).trans (a.bk c j)⟩
/-- a result: data, or a new object of its own -/
def Rt (K : PySem.W.Frag) (H0 F H : Hp) (ω : Om) : S → V → Prop
  | .fr d, v => Rp K F d v
  | .ow _ o, v => ∃ l, v = .ref l ∧ H0 l = none ∧ ω l = none ∧ F l = none ∧ ObjR K F H l o
theorem Rt.early {H0 H1 F H : Hp} {ω : Om} (h : ∀ b, H1 b = none → H0 b = none) : ∀ {x : S} {v : V}, Rt K H1 F H ω x v → Rt K H0 F H ω x v
  | .fr _, _, r => r
  | .ow _ _, _, ⟨l, e, h0, r⟩ => ⟨l, e, h l h0, r⟩
/-- only new objects come -/
structure Ext (F H F' H' : Hp) : Prop where
  sf : Same F F'
  sh : Same H H'
  fn : ∀ b o, H b = some o → F b = none → F' b = none
  fs : Same F' H'
theorem Ext.refl {F H : Hp} (h : Same F H) : Ext F H F H := ⟨Same.refl F, Same.refl H, fun _ _ _ z => z, h⟩
theorem Ext.trans {F H F1 H1 F2 H2 : Hp} (a : Ext F H F1 H1) (b : Ext F1 H1 F2 H2) : Ext F H F2 H2 := ⟨a.sf.trans b.sf, a.sh.trans b.sh, fun c o h1 h2 => b.fn c o (a.sh c o h1) (a.fn c o h1 h2), b.fs⟩
/-- a new thing, to be read only -/
theorem Ext.fz {F H : Hp} (h : Same F H) {p : Addr} (hp : H p = none) (u : HO) : Ext F H (upd F p u) (upd H p u) := by
  have hF := h.free hp
  refine ⟨same_upd hF, same_upd hp, fun b o h1 h2 => ?_, fun b o e => ?_⟩
  · rw [upd_ne (ne_of_none h1 hp)]
    exact h2
  · by_cases hb : b = p
    · subst hb
      rw [upd_same] at e ⊢
      exact e
    · rw [upd_ne hb] at e ⊢
      exact h b o e
/-- a new thing of its own -/
theorem Ext.ow {F H : Hp} (h : Same F H) {p : Addr} (hp : H p = none) (u : HO) : Ext F H F (upd H p u) := ⟨Same.refl F, same_upd hp, fun _ _ _ z => z, h.trans (same_upd hp)⟩
theorem Ext.stp {F H F' H' : Hp} {ω : Om} {s : Sl} {σ : L2.St} (e : Ext F H F' H') (t : Sta K F H ω s σ) : Stp F H ω F' H' ω ∧ Sta K F' H' ω s σ := by
  refine ⟨⟨e.sf, fun b o _ h => e.sh b o h, fun _ _ h _ => h, fun b o _ h1 h2 => e.fn b o h1 h2, fun b h => e.sh.free h, fun _ _ => Iff.rfl⟩,
    ⟨e.fs, fun b p h => ?_, fun i x h => ?_, t.len⟩⟩
  · obtain ⟨h1, u, h2⟩ := t.ow b p h
    exact ⟨e.fn b u h2 h1, u, e.sh b u h2⟩
  · obtain ⟨v, h1, h2⟩ := t.at' i x h
    refine ⟨v, h1, ?_⟩
    cases x with
    | fr d => exact Rp.mono e.sf h2
    | ow b o =>
      obtain ⟨l, rfl, h3, h4⟩ := h2
      exact ⟨l, rfl, h3, (h4.mono e.sf).heap fun u hu => e.sh _ _ hu⟩
/-- a result of its own becomes data -/
theorem Rt.frz {F0 H0 F H : Hp} {ω0 ω : Om} {s : Sl} {σ : L2.St} {x : S} {v : V} (p : Stp F0 H0 ω0 F H ω) (t : Sta K F H ω s σ) (r : Rt K H0 F H ω x v) :
    ∃ F', Stp F0 H0 ω0 F' H ω ∧ Sta K F' H ω s σ ∧ Rp K F' x.dat v ∧ Same F F' := by
  cases x with
  | fr d => exact ⟨F, p, t, r, Same.refl F⟩
  | ow b o =>
    obtain ⟨l, rfl, h0, h1, h2, h3⟩ := r
    obtain ⟨u, hu⟩ := h3.has
    have e := same_upd (o := u) h2
    refine ⟨upd F l u, ⟨p.sf.trans e, p.fr, p.om, fun b o q1 q2 q3 => ?_, p.tr, p.bk⟩, ⟨fun b o q => ?_, fun b q hq => ?_, fun i x h => ?_, t.len⟩, h3.frz hu h2, e⟩
    · rw [upd_ne (ne_of_none q2 h0)]
      exact p.fn b o q1 q2 q3
    · by_cases hb : b = l
      · subst hb
        rw [upd_same] at q
        rw [← q]
        exact hu
      · rw [upd_ne hb] at q
        exact t.sf b o q
    · obtain ⟨h4, h5⟩ := t.ow b q hq
      refine ⟨?_, h5⟩
      rw [upd_ne (fun z => by rw [z, h1] at hq; cases hq)]
      exact h4
    · obtain ⟨v, h4, h5⟩ := t.at' i x h
      refine ⟨v, h4, ?_⟩
      cases x with
      | fr d => exact Rp.mono e h5
      | ow b o =>
        obtain ⟨l', rfl, h6, h7⟩ := h5
        exact ⟨l', rfl, h6, h7.mono e⟩
/-- a slot's object becomes data -/
theorem Sta.frzSlot {F H : Hp} {ω : Om} {s : Sl} {σ : L2.St} {i : Nat} {o : O} (t : Sta K F H ω s σ) (hi : s[i]? = some (some (.ow false o))) :
    ∃ F' ω' v, Stp F H ω F' H ω' ∧ Sta K F' H ω' (s.set i (some (.fr o.dat))) σ ∧ σ[i]? = some (some v) ∧ Rp K F' o.dat v := by
  obtain ⟨v, hv, l, rfl, hl, ho⟩ := t.at' i _ hi
  obtain ⟨u, hu⟩ := ho.has
  have hF := (t.ow l _ hl).1
  have e := same_upd (o := u) hF
  have hr := ho.frz hu hF
  refine ⟨upd F l u, fun b => if b = l then none else ω b, .ref l, ⟨e, fun _ _ _ h => h, fun b o h _ => ?_, fun b o h1 h2 h3 => ?_, fun _ h => h, fun b j => ?_⟩, ⟨fun b o q => ?_, fun b q hq => ?_, fun j x h => ?_, ?_⟩, hv, hr⟩
  · show (if b = l then none else ω b) = none
    split
    · rfl
    · exact h
  · rw [upd_ne (fun z => by rw [z, hl] at h1; cases h1)]
    exact h3
  · show (if b = l then none else ω b) = some (j, true) ↔ _
    split
    · rename_i hb
      subst hb
      rw [hl]
      constructor
      · intro h; cases h
      · intro h; cases h
    · exact Iff.rfl
  · by_cases hb : b = l
    · subst hb
      rw [upd_same] at q
      rw [← q]
      exact hu
    · rw [upd_ne hb] at q
      exact t.sf b o q
  · have hq' : (if b = l then none else ω b) = some q := hq
    split at hq'
    · cases hq'
    · rename_i hb
      obtain ⟨h4, h5⟩ := t.ow b q hq'
      refine ⟨?_, h5⟩
      rw [upd_ne hb]
      exact h4
  · rw [List.getElem?_set] at h
    split at h
    · rename_i hij
      subst hij
      split at h
      · have h' := Option.some.inj (Option.some.inj h)
        subst h'
        exact ⟨_, hv, hr⟩
      · cases h
    · rename_i hij
      obtain ⟨v, h4, h5⟩ := t.at' j x h
      refine ⟨v, h4, ?_⟩
      cases x with
      | fr d => exact Rp.mono e h5
      | ow b o =>
        obtain ⟨l', rfl, h6, h7⟩ := h5
        refine ⟨l', rfl, ?_, h7.mono e⟩
        show (if l' = l then none else ω l') = _
        rw [if_neg (fun z => by rw [z, hl] at h6; cases h6; exact hij rfl)]
        exact h6
  · rw [List.length_set]
    exact t.len
theorem Sta.get {F H : Hp} {ω : Om} {s : Sl} {σ : L2.St} {i : Nat} {d : D} (t : Sta K F H ω s σ) (hi : s[i]? = some (some (.fr d))) : ∃ v, σ[i]? = some (some v) ∧ Rp K F d v := t.at' i _ hi
/-- a name is bound to data -/
theorem Sta.set {F H : Hp} {ω : Om} {s : Sl} {σ : L2.St} {d : D} {v : V} (t : Sta K F H ω s σ) (i : Nat) (r : Rp K F d v) : Sta K F H ω (s.set i (some (.fr d))) (σ.set i (some v)) := by
  refine ⟨t.sf, t.ow, fun j x h => ?_, by rw [List.length_set, List.length_set]; exact t.len⟩
  rw [List.getElem?_set] at h ⊢
  split at h
  · rename_i hij
    rw [if_pos hij]
    split at h
    · rename_i hl
      rw [if_pos (by rw [← t.len]; exact hl)]
      have h' := Option.some.inj (Option.some.inj h)
      subst h'
      exact ⟨v, rfl, r⟩
    · cases h
  · rename_i hij
    rw [if_neg hij]
    exact t.at' j x h
/-- nothing is known of a name any more -/
theorem Sta.drop {F H : Hp} {ω : Om} {s : Sl} {σ : L2.St} (t : Sta K F H ω s σ) (i : Nat) : Sta K F H ω (s.set i none) σ := by
  refine ⟨t.sf, t.ow, fun j x h => ?_, by rw [List.length_set]; exact t.len⟩
  rw [List.getElem?_set] at h
  split at h
  · split at h
    · cases h
    · cases h
  · exact t.at' j x h
theorem Sta.dropσ {F H : Hp} {ω : Om} {s : Sl} {σ : L2.St} (t : Sta K F H ω s σ) (i : Nat) (o : Option V) : Sta K F H ω (s.set i none) (σ.set i o) := by
  refine ⟨t.sf, t.ow, fun j x h => ?_, by rw [List.length_set, List.length_set]; exact t.len⟩
  rw [List.getElem?_set] at h
  split at h
  · split at h
    · cases h
    · cases h
  · rename_i hij
    rw [List.getElem?_set_ne hij]
    exact t.at' j x h
/-- a name is bound to a new object -/
theorem Sta.setO {F0 H0 F H : Hp} {ω0 ω : Om} {s : Sl} {σ : L2.St} {b : Bool} {o : O} {v : V} (p : Stp F0 H0 ω0 F H ω) (t : Sta K F H ω s σ) (i : Nat) (r : Rt K H0 F H ω (.ow b o) v) :
    ∃ ω', Stp F0 H0 ω0 F H ω' ∧ Sta K F H ω' (s.set i (some (.ow false o))) (σ.set i (some v)) := by
  obtain ⟨l, rfl, h0, h1, h2, h3⟩ := r
  refine ⟨fun c => if c = l then some (i, false) else ω c, ⟨p.sf, p.fr, fun c o q1 q2 => ?_, p.fn, p.tr, fun c j => ?_⟩, ⟨t.sf, fun c q hq => ?_, fun j x h => ?_, by rw [List.length_set, List.length_set]; exact t.len⟩⟩
  · show (if c = l then some (i, false) else ω c) = none
    rw [if_neg (ne_of_none q2 h0)]
    exact p.om c o q1 q2
  · show (if c = l then some (i, false) else ω c) = some (j, true) ↔ _
    split
    · rename_i hc
      subst hc
      constructor
      · intro h; cases h
      · intro h
        rw [← p.bk, h1] at h
        cases h
    · exact p.bk c j
  · have hq' : (if c = l then some (i, false) else ω c) = some q := hq
    split at hq'
    · rename_i hc
      subst hc
      exact ⟨h2, h3.has⟩
    · exact t.ow c q hq'
  · rw [List.getElem?_set] at h ⊢
    split at h
    · rename_i hij
      subst hij
      rw [if_pos rfl]
      split at h
      · rename_i hl
        rw [if_pos (by rw [← t.len]; exact hl)]
        have h' := Option.some.inj (Option.some.inj h)
        subst h'
        refine ⟨_, rfl, l, rfl, ?_, h3⟩
        show (if l = l then some (i, false) else ω l) = _
        rw [if_pos rfl]
      · cases h
    · rename_i hij
      rw [if_neg hij]
      obtain ⟨v, h4, h5⟩ := t.at' j x h
      refine ⟨v, h4, ?_⟩
      cases x with
      | fr d => exact h5
      | ow b o =>
        obtain ⟨l', rfl, h6, h7⟩ := h5
        refine ⟨l', rfl, ?_, h7⟩
        show (if l' = l then some (i, false) else ω l') = _
        rw [if_neg (fun z => by rw [z, h1] at h6; cases h6)]
        exact h6
/-- a slot's object is changed -/
theorem Sta.mut {F H : Hp} {ω : Om} {s : Sl} {σ : L2.St} {b : Bool} {o' : O} {l i : Nat} {u : HO} (t : Sta K F H ω s σ) (hv : σ[i]? = some (some (.ref l))) (hl : ω l = some (i, b)) (r : ObjR K F (upd H l u) l o') :
    Stp F H ω F (upd H l u) ω ∧ Sta K F (upd H l u) ω (s.set i (some (.ow b o'))) σ := by
  have hn : ∀ c, ω c = none → c ≠ l := fun c h z => by rw [z, hl] at h; cases h
  have hF := (t.ow l _ hl).1
  refine ⟨⟨Same.refl F, fun c o h1 h2 => ?_, fun _ _ h _ => h, fun _ _ _ _ h => h, fun c h => ?_, fun _ _ => Iff.rfl⟩, ⟨fun c o h => ?_, fun c q h => ⟨(t.ow c q h).1, ?_⟩, fun j x h => ?_, by rw [List.length_set]; exact t.len⟩⟩
  · rw [upd_ne (hn c h1)]
    exact h2
  · by_cases hc : c = l
    · subst hc
      rw [upd_same] at h
      cases h
    · rw [upd_ne hc] at h
      exact h
  · rw [upd_ne (fun z => by rw [z, hF] at h; cases h)]
    exact t.sf c o h
  · by_cases hc : c = l
    · subst hc
      exact ⟨u, upd_same⟩
    · rw [upd_ne hc]
      exact (t.ow c q h).2
  · rw [List.getElem?_set] at h
    split at h
    · rename_i hij
      subst hij
      split at h
      · have h' := Option.some.inj (Option.some.inj h)
        subst h'
        exact ⟨_, hv, l, rfl, hl, r⟩
      · cases h
    · rename_i hij
      obtain ⟨v, h4, h5⟩ := t.at' j x h
      refine ⟨v, h4, ?_⟩
      cases x with
      | fr d => exact h5
      | ow b o =>
        obtain ⟨l', rfl, h6, h7⟩ := h5
        exact ⟨l', rfl, h6, h7.heap fun w hw => by
          rw [upd_ne (fun z => by rw [z, hl] at h6; cases h6; exact hij rfl)]
          exact hw⟩
end
/-! ### readings by data -/
/-- what an expression gives, by data -/
abbrev PX := Sl → (S → Sl → Prop) → Prop
/-- an expression whose value is data -/
abbrev PD := Sl → (D → Sl → Prop) → Prop
class LiftE (K : PySem.W.Frag) (t : TE) (p : outParam PX) : Prop where
  run : ∀ {F H : Hp} {ω : Om} {s : Sl} {σ : L2.St} {Q : VK} (q : S → Sl → Prop), Sta K F H ω s σ → p s q →
    (∀ v F' H' ω' x s', Stp F H ω F' H' ω' → Sta K F' H' ω' s' σ → Rt K H F' H' ω' x v → q x s' → Q v H') → t σ H Q
/-- .. frozen -/
class LiftD (K : PySem.W.Frag) (t : TE) (p : outParam PD) : Prop where
  run : ∀ {F H : Hp} {ω : Om} {s : Sl} {σ : L2.St} {Q : VK} (q : D → Sl → Prop), Sta K F H ω s σ → p s q →
    (∀ v F' H' ω' d s', Stp F H ω F' H' ω' → Sta K F' H' ω' s' σ → Rp K F' d v → q d s' → Q v H') → t σ H Q
def pDat (p : PX) : PD := fun s q => p s fun x s' => q x.dat s'
instance {K : PySem.W.Frag} {t : TE} {p : PX} [LiftE K t p] : LiftD K t (pDat p) := ⟨fun {F H ω s σ Q} q T h k =>
  LiftE.run (K := K) (t := t) (p := p) (fun x s' => q x.dat s') T h fun v F' H' ω' x s' p' T' r hq => by
    obtain ⟨F2, p2, T2, r2, _⟩ := Rt.frz p' T' r
    exact k v F2 H' ω' x.dat s' p2 T2 r2 hq⟩
section
variable {K : PySem.W.Frag}
/-! names, constants -/
def pVar (i : Nat) : PX := fun s q => match s[i]? with
  | some (some (.fr d)) => q (.fr d) s
  | some (some (.ow false o)) => q (.fr o.dat) (s.set i (some (.fr o.dat)))
  | _ => False
theorem liftVar (i : Nat) {F H : Hp} {ω : Om} {s : Sl} {σ : L2.St} (q : S → Sl → Prop) (T : Sta K F H ω s σ) (h : pVar i s q) :
    ∃ v F' ω' d s', σ[i]? = some (some v) ∧ Stp F H ω F' H ω' ∧ Sta K F' H ω' s' σ ∧ Rp K F' d v ∧ q (.fr d) s' := by
  unfold pVar at h
  split at h
  · rename_i d e
    obtain ⟨v, hv, r⟩ := T.get e
    exact ⟨v, F, ω, d, s, hv, Stp.refl F H ω, T, r, h⟩
  · rename_i o e
    obtain ⟨F', ω', v, p, T', hv, r⟩ := T.frzSlot e
    exact ⟨v, F', ω', _, _, hv, p, T', r, h⟩
  · exact h.elim
instance (i : Nat) : LiftE K (tVar i) (pVar i) := ⟨fun q T h k => by
  obtain ⟨v, F', ω', d, s', hv, p, T', r, hq⟩ := liftVar i q T h
  exact ⟨v, hv, k v F' _ ω' (.fr d) s' p T' r hq⟩⟩
def vS : V → Option D
  | .non => some .non
  | .bl b => some (.bl b)
  | .int i => some (.int i)
  | .str x => some (.str x)
  | _ => none
theorem vS_rp {F : Hp} : ∀ {v : V} {d : D}, vS v = some d → Rp K F d v
  | .non, _, h => by cases h; rfl
  | .bl _, _, h => by cases h; rfl
  | .int _, _, h => by cases h; rfl
  | .str _, _, h => by cases h; rfl
/-- a plain value -/
def qV (v : V) (q : D → Prop) : Prop := match vS v with
  | some d => q d
  | none => False
theorem qV_rp {v : V} {q : D → Prop} (h : qV v q) (F : Hp) : ∃ d, Rp K F d v ∧ q d := by
  unfold qV at h
  split at h
  · rename_i d e
    exact ⟨d, vS_rp e, h⟩
  · exact h.elim
/-- a constant: data that stands in the written part, or a plain value -/
class ConD (K : PySem.W.Frag) (v : V) (d : outParam D) : Prop where
  rp : ∀ F : Hp, Rp K F d v
instance (b : Bool) : ConD K (.bl b) (.bl b) := ⟨fun _ => rfl⟩
instance (i : Int) : ConD K (.int i) (.int i) := ⟨fun _ => rfl⟩
instance (x : Str) : ConD K (.str x) (.str x) := ⟨fun _ => rfl⟩
instance : ConD K .non .non := ⟨fun _ => rfl⟩
def pC (d : D) : PX := fun s q => q (.fr d) s
instance {v : V} {d : D} [ConD K v d] : LiftE K (tC v) (pC d) := ⟨fun {F H ω s σ Q} q T h k => k v F H ω (.fr d) s (Stp.refl F H ω) T (ConD.rp F : Rp K F d v) h⟩
/-! operators by values -/
/-- a result that is data, or new -/
def Rn (K : PySem.W.Frag) (H0 F H : Hp) : S → V → Prop
  | .fr d, v => Rp K F d v
  | .ow _ o, v => ∃ l, v = .ref l ∧ H0 l = none ∧ F l = none ∧ ObjR K F H l o
theorem Sta.free {F H : Hp} {ω : Om} {s : Sl} {σ : L2.St} (T : Sta K F H ω s σ) {l : Addr} (h0 : H l = none) : ω l = none := by
  cases hw : ω l with
  | none => rfl
  | some w =>
    obtain ⟨_, u, hu⟩ := T.ow l w hw
    rw [h0] at hu
    cases hu
theorem Rn.rt {F0 H0 F H F' H' : Hp} {ω0 ω : Om} {s : Sl} {σ : L2.St} (p : Stp F0 H0 ω0 F H ω) (T : Sta K F H ω s σ) : ∀ {x : S} {v : V}, Rn K H F' H' x v → Rt K H0 F' H' ω x v
  | .fr _, _, r => r
  | .ow _ _, _, ⟨l, e, h0, r⟩ => ⟨l, e, p.tr l h0, T.free h0, r⟩
class OpL (K : PySem.W.Frag) (r : R2) (g : outParam (D → D → (S → Prop) → Prop)) : Prop where
  run : ∀ {F H : Hp} {x y : V} {d e : D} {Q : VK} (q : S → Prop), Same F H → Rp K F d x → Rp K F e y → g d e q → (∀ v F' H' z, Ext F H F' H' → Rn K H F' H' z v → q z → Q v H') → r x y H Q
def pOp (g : D → D → (S → Prop) → Prop) (pa pb : PD) : PX := fun s q => pa s fun d s1 => pb s1 fun e s2 => g d e fun z => q z s2
instance {r : R2} {g : D → D → (S → Prop) → Prop} {ta tb : TE} {pa pb : PD} [OpL K r g] [LiftD K ta pa] [LiftD K tb pb] : LiftE K (tOp r ta tb) (pOp g pa pb) := ⟨fun q T h k => by
  refine LiftD.run (K := K) (t := ta) (p := pa) _ T h fun x F1 H1 ω1 d s1 p1 T1 r1 h1 => ?_
  refine LiftD.run (K := K) (t := tb) (p := pb) _ T1 h1 fun y F2 H2 ω2 e s2 p2 T2 r2 h2 => ?_
  refine OpL.run (K := K) (r := r) (g := g) _ T2.sf (r1.mono p2.sf) r2 h2 fun v F3 H3 z e3 r3 hq => ?_
  obtain ⟨p3, T3⟩ := e3.stp T2
  exact k v F3 H3 ω2 z s2 ((p1.trans p2).trans p3) T3 (Rn.rt (p1.trans p2) T2 r3) hq⟩
class UnL (K : PySem.W.Frag) (r : V → Hp → VK → Prop) (g : outParam (D → (S → Prop) → Prop)) : Prop where
  run : ∀ {F H : Hp} {x : V} {d : D} {Q : VK} (q : S → Prop), Same F H → Rp K F d x → g d q → (∀ v F' H' z, Ext F H F' H' → Rn K H F' H' z v → q z → Q v H') → r x H Q
def pUn (g : D → (S → Prop) → Prop) (pa : PD) : PX := fun s q => pa s fun d s1 => g d fun z => q z s1
instance {r : V → Hp → VK → Prop} {g : D → (S → Prop) → Prop} {ta : TE} {pa : PD} [UnL K r g] [LiftD K ta pa] : LiftE K (tUn r ta) (pUn g pa) := ⟨fun q T h k => by
  refine LiftD.run (K := K) (t := ta) (p := pa) _ T h fun x F1 H1 ω1 d s1 p1 T1 r1 h1 => ?_
  refine UnL.run (K := K) (r := r) (g := g) _ T1.sf r1 h1 fun v F3 H3 z e3 r3 hq => ?_
  obtain ⟨p3, T3⟩ := e3.stp T1
  exact k v F3 H3 ω1 z s1 (p1.trans p3) T3 (Rn.rt p1 T1 r3) hq⟩
theorem rp_int {F : Hp} {i : Int} {v : V} (h : Rp K F (.int i) v) : v = .int i := h
/-- plain answers -/
theorem plain {F H : Hp} {w : V} {Q : VK} {q : S → Prop} (e : Same F H) (h : qV w fun d => q (.fr d)) (k : ∀ v F' H' z, Ext F H F' H' → Rn K H F' H' z v → q z → Q v H') : Q w H := by
  obtain ⟨d, r, hq⟩ := qV_rp (K := K) h F
  exact k w F H (.fr d) (Ext.refl e) r hq
def gI0 (g : Int → Int → V) : D → D → (S → Prop) → Prop := fun d e q => match d, e with
  | .int i, .int j => qV (g i j) fun z => q (.fr z)
  | _, _ => False
instance (g : Int → Int → V) : OpL K (rI0 g) (gI0 g) := ⟨fun {F H x y d e Q} q hs h1 h2 h k => by
  unfold gI0 at h
  split at h
  · exact ⟨_, _, h1, h2, plain hs h k⟩
  · exact h.elim⟩
def gI (C : Int → Int → Prop) (g : Int → Int → V) : D → D → (S → Prop) → Prop := fun d e q => match d, e with
  | .int i, .int j => C i j ∧ qV (g i j) fun z => q (.fr z)
  | _, _ => False
instance (C : Int → Int → Prop) (g : Int → Int → V) : OpL K (rI C g) (gI C g) := ⟨fun {F H x y d e Q} q hs h1 h2 h k => by
  unfold gI at h
  split at h
  · exact ⟨_, _, h1, h2, h.1, plain hs h.2 k⟩
  · exact h.elim⟩
def gU (g : Int → V) : D → (S → Prop) → Prop := fun d q => match d with
  | .int i => qV (g i) fun z => q (.fr z)
  | _ => False
instance (g : Int → V) : UnL K (rU g) (gU g) := ⟨fun {F H x d Q} q hs h1 h k => by
  unfold gU at h
  split at h
  · exact ⟨_, h1, plain hs h k⟩
  · exact h.elim⟩
def gEq (f : Bool → Bool) : D → D → (S → Prop) → Prop := fun d e q => match d, e with
  | .int i, .int j => q (.fr (.bl (f (decide (i = j)))))
  | .str i, .str j => q (.fr (.bl (f (decide (i = j)))))
  | .bl i, .bl j => q (.fr (.bl (f (decide (i = j)))))
  | _, _ => False
theorem dec_v {α : Type} {a b : V} {x y : α} [Decidable (x = y)] (h : a = b ↔ x = y) : decide (a = b) = decide (x = y) := by
  by_cases e : x = y
  · rw [decide_eq_true e, decide_eq_true (h.mpr e)]
  · rw [decide_eq_false e, decide_eq_false fun z => e (h.mp z)]
theorem gEq_run (f : Bool → Bool) {F H : Hp} {x y : V} {d e : D} {Q : VK} (q : S → Prop) (hs : Same F H) (h1 : Rp K F d x) (h2 : Rp K F e y) (h : gEq f d e q)
    (k : ∀ v F' H' z, Ext F H F' H' → Rn K H F' H' z v → q z → Q v H') : scal x y = true ∧ Q (.bl (f (decide (x = y)))) H := by
  unfold gEq at h
  split at h
  · cases (show x = _ from h1)
    cases (show y = _ from h2)
    refine ⟨rfl, k _ F H (.fr (.bl _)) (Ext.refl hs) rfl ?_⟩
    rw [dec_v ⟨V.int.inj, congrArg V.int⟩]
    exact h
  · cases (show x = _ from h1)
    cases (show y = _ from h2)
    refine ⟨rfl, k _ F H (.fr (.bl _)) (Ext.refl hs) rfl ?_⟩
    rw [dec_v ⟨V.str.inj, congrArg V.str⟩]
    exact h
  · cases (show x = _ from h1)
    cases (show y = _ from h2)
    refine ⟨rfl, k _ F H (.fr (.bl _)) (Ext.refl hs) rfl ?_⟩
    rw [dec_v ⟨V.bl.inj, congrArg V.bl⟩]
    exact h
  · exact h.elim
instance : OpL K rEq (gEq id) := ⟨fun q hs h1 h2 h k => gEq_run id q hs h1 h2 h k⟩
instance : OpL K rNe (gEq not) := ⟨fun q hs h1 h2 h k => gEq_run not q hs h1 h2 h k⟩
def isNon : D → Bool
  | .non => true
  | _ => false
theorem isNon_v {F : Hp} {d : D} {x : V} (h : Rp K F d x) : decide (x = .non) = isNon d := by
  cases d with
  | non => cases (show x = _ from h); rfl
  | bl b => cases (show x = _ from h); rfl
  | int b => cases (show x = _ from h); rfl
  | str b => cases (show x = _ from h); rfl
  | lst ds => obtain ⟨a, vs, rfl, _⟩ := h; rfl
  | scr ds => obtain ⟨a, rfl, _⟩ := h; rfl
  | ty n => cases (show x = _ from h); rfl
  | tup ds => obtain ⟨a, vs, rfl, _⟩ := h; rfl
  | dic ks ds => obtain ⟨a, vs, rfl, _⟩ := h; rfl
  | obj C ns ds => obtain ⟨a, dx, vs, rfl, _⟩ := h; rfl
def gIsN (f : Bool → Bool) : D → D → (S → Prop) → Prop := fun d e q => match e with
  | .non => q (.fr (.bl (f (isNon d))))
  | _ => False
instance : OpL K (fun x y H Q => y = .non ∧ Q (.bl (decide (x = .non))) H) (gIsN id) := ⟨fun {F H x y d e Q} q hs h1 h2 h k => by
  unfold gIsN at h
  split at h
  · refine ⟨h2, ?_⟩
    rw [isNon_v h1]
    exact k _ F H (.fr (.bl _)) (Ext.refl hs) rfl h
  · exact h.elim⟩
instance : OpL K (fun x y H Q => y = .non ∧ Q (.bl (!decide (x = .non))) H) (gIsN not) := ⟨fun {F H x y d e Q} q hs h1 h2 h k => by
  unfold gIsN at h
  split at h
  · refine ⟨h2, ?_⟩
    rw [isNon_v h1]
    exact k _ F H (.fr (.bl _)) (Ext.refl hs) rfl h
  · exact h.elim⟩
/-! items of sequences -/
def gIxL : D → D → (S → Prop) → Prop := fun d e q => match d, e with
  | .lst ds, .int i => match atI ds i with
    | some z => q (.fr z)
    | none => False
  | _, _ => False
def gIxT : D → D → (S → Prop) → Prop := fun d e q => match d, e with
  | .tup ds, .int i => match atI ds i with
    | some z => q (.fr z)
    | none => False
  | _, _ => False
theorem RpA.atI {F : Hp} {ds : List D} {vs : List V} {i : Int} {d : D} (h : RpA K F ds vs) (e : atI ds i = some d) : ∃ v, L2.atI vs i = some v ∧ Rp K F d v := by
  unfold L2.atI at e ⊢
  rw [← h.len]
  cases hx : ixN ds.length i with
  | none => rw [hx] at e; cases e
  | some j =>
    rw [hx] at e
    exact h.get e
instance : OpL K (rIxL K) gIxL := ⟨fun {F H x y d e Q} q hs h1 h2 h k => by
  unfold gIxL at h
  split at h
  · split at h
    · rename_i z hz
      obtain ⟨a, vs, rfl, h3, h4⟩ := h1
      obtain ⟨v, hv, r⟩ := h4.atI hz
      exact ⟨a, vs, _, v, rfl, h2, SqL.of (hs _ _ h3), hv, k v F H (.fr z) (Ext.refl hs) r h⟩
    · exact h.elim
  · exact h.elim⟩
instance : OpL K (rIxT K) gIxT := ⟨fun {F H x y d e Q} q hs h1 h2 h k => by
  unfold gIxT at h
  split at h
  · split at h
    · rename_i z hz
      obtain ⟨a, vs, rfl, h3, h4⟩ := h1
      obtain ⟨v, hv, r⟩ := h4.atI hz
      exact ⟨a, vs, _, v, rfl, h2, hs.tupq h3, hv, k v F H (.fr z) (Ext.refl hs) r h⟩
    · exact h.elim
  · exact h.elim⟩
def gIxS : D → D → (S → Prop) → Prop := fun d e q => match d, e with
  | .str z, .int i => z.length ≤ sizeLine ∧ match atI z.cps.toList i with
    | some c => q (.fr (.str ⟨#[c]⟩))
    | none => False
  | _, _ => False
instance : OpL K rIxS gIxS := ⟨fun {F H x y d e Q} q hs h1 h2 h k => by
  unfold gIxS at h
  split at h
  · obtain ⟨h0, h⟩ := h
    split at h
    · rename_i z hz
      exact ⟨_, _, _, h1, h2, h0, hz, k _ F H (.fr (.str _)) (Ext.refl hs) rfl h⟩
    · exact h.elim
  · exact h.elim⟩
instance : OpL K (rIx K) (fun d e q => gIxL d e q ∨ gIxT d e q ∨ gIxS d e q) := ⟨fun q hs h1 h2 h k => by
  rcases h with h | h | h
  · exact .inl (OpL.run (K := K) (r := rIxL K) (g := gIxL) q hs h1 h2 h k)
  · exact .inr (.inl (OpL.run (K := K) (r := rIxT K) (g := gIxT) q hs h1 h2 h k))
  · exact .inr (.inr (OpL.run (K := K) (r := rIxS) (g := gIxS) q hs h1 h2 h k))⟩
/-! lists and tuples made -/
theorem Ext.lst {F H : Hp} {p : Addr} {ds : List D} {vs : List V} {Q : VK} {q : S → Prop} (hs : Same F H) (r : RpA K F ds vs) (hq : q (.ow false (.lst ds))) (k : ∀ v F' H' z, Ext F H F' H' → Rn K H F' H' z v → q z → Q v H')
    (hp : H p = none) : Q (.ref p) (upd H p (.lst vs)) := k _ F _ (.ow false (.lst ds)) (Ext.ow hs hp _) ⟨p, rfl, hp, hs.free hp, vs, upd_same, r⟩ hq
theorem Ext.tup {F H : Hp} {p : Addr} {ds : List D} {vs : List V} {Q : VK} {q : S → Prop} (hs : Same F H) (r : RpA K F ds vs) (hq : q (.fr (.tup ds))) (k : ∀ v F' H' z, Ext F H F' H' → Rn K H F' H' z v → q z → Q v H')
    (hp : H p = none) : Q (.ref p) (upd H p (.tup vs)) := k _ _ _ (.fr (.tup ds)) (Ext.fz hs hp _) ⟨p, vs, rfl, SqT.of upd_same, r.mono (same_upd (hs.free hp))⟩ hq
def gCat : D → D → (S → Prop) → Prop := fun d e q => match d, e with
  | .lst a, .lst b => a.length + b.length ≤ sizeLine ∧ q (.ow false (.lst (a ++ b)))
  | _, _ => False
def gCatT : D → D → (S → Prop) → Prop := fun d e q => match d, e with
  | .tup a, .tup b => a ≠ [] ∧ a.length + b.length ≤ sizeLine ∧ q (.fr (.tup (a ++ b)))
  | _, _ => False
end
section
variable {K : PySem.W.Frag}
instance : OpL K rCat gCat := ⟨fun {F H x y d e Q} q hs h1 h2 h k => by
  unfold gCat at h
  split at h
  · obtain ⟨a, vs, rfl, h3, h4⟩ := h1
    obtain ⟨b, ws, rfl, h5, h6⟩ := h2
    exact ⟨a, b, vs, ws, rfl, rfl, hs _ _ h3, hs _ _ h5, by rw [← h4.len, ← h6.len]; exact h.1, fun p hp => Ext.lst hs (h4.app h6) h.2 k hp⟩
  · exact h.elim⟩
instance : OpL K (rCatT K) gCatT := ⟨fun {F H x y d e Q} q hs h1 h2 h k => by
  unfold gCatT at h
  split at h
  · obtain ⟨a, vs, rfl, h3, h4⟩ := h1
    obtain ⟨b, ws, rfl, h5, h6⟩ := h2
    refine ⟨a, b, vs, ws, rfl, rfl, hs.tupq h3, hs.tupq h5, fun z => h.1 ?_, by rw [← h4.len, ← h6.len]; exact h.2.1, fun z => ?_, fun _ p hp => Ext.tup hs (h4.app h6) h.2.2 k hp⟩
    · have := h4.len
      rw [z] at this
      exact List.length_eq_zero_iff.mp this
    · have hz := h6.len
      rw [z] at hz
      have e0 := List.length_eq_zero_iff.mp hz
      have hq := h.2.2
      rw [e0, List.append_nil] at hq
      exact k _ F H (.fr (.tup _)) (Ext.refl hs) ⟨a, vs, rfl, h3, h4⟩ hq
  · exact h.elim⟩
def gRep : D → D → (S → Prop) → Prop := fun d e q => match d, e with
  | .lst a, .int k => -(2 ^ 63) ≤ k ∧ k < 2 ^ 63 ∧ a.length * k.toNat ≤ sizeLine ∧ q (.ow false (.lst (List.replicate k.toNat a).flatten))
  | _, _ => False
theorem RpA.flat {F : Hp} {ds : List D} {vs : List V} (h : RpA K F ds vs) : ∀ n, RpA K F (List.replicate n ds).flatten (List.replicate n vs).flatten
  | 0 => rfl
  | n + 1 => by
    rw [List.replicate_succ, List.replicate_succ, List.flatten_cons, List.flatten_cons]
    exact h.app (RpA.flat h n)
instance : OpL K rRep gRep := ⟨fun {F H x y d e Q} q hs h1 h2 h k => by
  unfold gRep at h
  split at h
  · obtain ⟨a, vs, rfl, h3, h4⟩ := h1
    exact ⟨a, _, vs, rfl, h2, hs _ _ h3, h.1, h.2.1, by rw [← h4.len]; exact h.2.2.1, fun p hp => Ext.lst hs (h4.flat _) h.2.2.2 k hp⟩
  · exact h.elim⟩
/-! texts -/
def gStrB (f : Str → Str → Bool) : D → D → (S → Prop) → Prop := fun d e q => match d, e with
  | .str i, .str j => q (.fr (.bl (f i j)))
  | _, _ => False
theorem gStrB_run {f : Str → Str → Bool} {F H : Hp} {x y : V} {d e : D} {Q : VK} (q : S → Prop) (hs : Same F H) (h1 : Rp K F d x) (h2 : Rp K F e y) (h : gStrB f d e q) (k : ∀ v F' H' z, Ext F H F' H' → Rn K H F' H' z v → q z → Q v H') :
    ∃ i j, x = .str i ∧ y = .str j ∧ Q (.bl (f i j)) H := by
  unfold gStrB at h
  split at h
  · exact ⟨_, _, h1, h2, k _ F H (.fr (.bl _)) (Ext.refl hs) rfl h⟩
  · exact h.elim
instance : OpL K (fun x y H Q => ∃ i j, x = .str i ∧ y = .str j ∧ Q (.bl (decide (i.cps.toList < j.cps.toList))) H) (gStrB fun i j => decide (i.cps.toList < j.cps.toList)) := ⟨fun q hs h1 h2 h k => gStrB_run q hs h1 h2 h k⟩
instance : OpL K (fun x y H Q => ∃ i j, x = .str i ∧ y = .str j ∧ Q (.bl (!(Builtin.Str.occurrences j i 0 j.length 1).isEmpty)) H) (gStrB fun i j => !(Builtin.Str.occurrences j i 0 j.length 1).isEmpty) := ⟨fun q hs h1 h2 h k => gStrB_run q hs h1 h2 h k⟩
def gAddS : D → D → (S → Prop) → Prop := fun d e q => match d, e with
  | .str i, .str j => i.length + j.length ≤ sizeLine ∧ q (.fr (.str (i ++ j)))
  | _, _ => False
instance : OpL K (fun x y H Q => ∃ i j, x = .str i ∧ y = .str j ∧ i.length + j.length ≤ sizeLine ∧ Q (.str (i ++ j)) H) gAddS := ⟨fun {F H x y d e Q} q hs h1 h2 h k => by
  unfold gAddS at h
  split at h
  · exact ⟨_, _, h1, h2, h.1, k _ F H (.fr (.str _)) (Ext.refl hs) rfl h.2⟩
  · exact h.elim⟩
/-! == of data -/
def D.plN : Nat → D → Bool
  | _, .non => true
  | _, .int _ => true
  | _, .str x => PyData.strOk x
  | n + 1, .lst ds => ds.all (D.plN n)
  | n + 1, .tup ds => ds.all (D.plN n)
  | _, _ => false
mutual
def D.py : D → PyData
  | .non => .none
  | .bl b => .bool b
  | .int i => .int i
  | .str x => .str x
  | .lst ds => .list (D.pys ds)
  | .tup ds => .tuple (D.pys ds)
  | .dic _ _ => .none
  | .obj _ _ _ => .none
  | .scr ns => .list (ns.map .int)
  | .ty _ => .none
def D.pys : List D → List PyData
  | [] => []
  | d :: ds => d.py :: D.pys ds
end
theorem all_cons {n : Nat} {d : D} {ds : List D} (h : (d :: ds).all (D.plN n) = true) : D.plN n d = true ∧ ds.all (D.plN n) = true := Bool.and_eq_true_iff.mp h
theorem pys_of {n : Nat} {F : Hp} (ih : ∀ {d : D} {v : V}, D.plN n d = true → Rp K F d v → Dp K F v d.py ∧ d.py.canLay0 = true ∧ d.py.depth ≤ n) :
    ∀ {ds : List D} {vs : List V}, ds.all (D.plN n) = true → RpA K F ds vs → DpAll K F vs (D.pys ds) ∧ PyData.canLayAll0 (D.pys ds) = true ∧ PyData.depthAll (D.pys ds) ≤ n
  | [], _, _, h => by
    subst h
    exact ⟨.nil, rfl, Nat.zero_le _⟩
  | d :: ds, _, hp, h => by
    obtain ⟨v, ws, rfl, h1, h2⟩ := h
    obtain ⟨p1, p2⟩ := all_cons hp
    obtain ⟨a1, a2, a3⟩ := ih p1 h1
    obtain ⟨b1, b2, b3⟩ := pys_of ih p2 h2
    exact ⟨.cons a1 b1, Bool.and_eq_true_iff.mpr ⟨a2, b2⟩, Nat.max_le.mpr ⟨a3, b3⟩⟩
theorem py_of {F : Hp} (n : Nat) {d : D} {v : V} (hp : D.plN n d = true) (h : Rp K F d v) : Dp K F v d.py ∧ d.py.canLay0 = true ∧ d.py.depth ≤ n := by
  induction n generalizing d v with
  | zero =>
    cases d with
    | non => cases (show _ = _ from h); exact ⟨.non, rfl, Nat.zero_le _⟩
    | int i => cases (show _ = _ from h); exact ⟨.int i, rfl, Nat.zero_le _⟩
    | str i => cases (show _ = _ from h); exact ⟨.str i, hp, Nat.zero_le _⟩
    | _ => cases hp
  | succ n ih =>
    cases d with
    | non => cases (show _ = _ from h); exact ⟨.non, rfl, Nat.zero_le _⟩
    | int i => cases (show _ = _ from h); exact ⟨.int i, rfl, Nat.zero_le _⟩
    | str i => cases (show _ = _ from h); exact ⟨.str i, hp, Nat.zero_le _⟩
    | lst ds =>
      obtain ⟨a, vs, rfl, h1, h2⟩ := h
      obtain ⟨b1, b2, b3⟩ := pys_of (fun hp h => ih hp h) (show ds.all (D.plN n) = true from hp) h2
      exact ⟨.lst (SqL.of h1) b1, b2, Nat.succ_le_succ b3⟩
    | tup ds =>
      obtain ⟨a, vs, rfl, h1, h2⟩ := h
      obtain ⟨b1, b2, b3⟩ := pys_of (fun hp h => ih hp h) (show ds.all (D.plN n) = true from hp) h2
      exact ⟨.tup h1 b1, b2, Nat.succ_le_succ b3⟩
    | _ => cases hp
theorem eqvA {n : Nat} (ih : ∀ {d e : D}, D.plN n d = true → D.plN n e = true → (PyData.eqv d.py e.py = true ↔ d = e)) :
    ∀ {ds es : List D}, ds.all (D.plN n) = true → es.all (D.plN n) = true → (PyData.eqvAll (D.pys ds) (D.pys es) = true ↔ ds = es)
  | [], [], _, _ => by simp [D.pys, PyData.eqvAll]
  | [], _ :: _, _, _ => by simp [D.pys, PyData.eqvAll]
  | _ :: _, [], _, _ => by simp [D.pys, PyData.eqvAll]
  | d :: ds, e :: es, h1, h2 => by
    obtain ⟨p1, p2⟩ := all_cons h1
    obtain ⟨q1, q2⟩ := all_cons h2
    have a := ih p1 q1
    have b := eqvA ih p2 q2
    simp only [D.pys, PyData.eqvAll, Bool.and_eq_true, List.cons.injEq, a, b]
theorem eqv_iff : ∀ (n : Nat) {d e : D}, D.plN n d = true → D.plN n e = true → (PyData.eqv d.py e.py = true ↔ d = e)
  | n, d, e, h1, h2 => by
    cases d <;> cases e <;> first
      | (cases n <;> cases h1; done)
      | (cases n <;> cases h2; done)
      | (simp [D.py, PyData.eqv]; done)
      | skip
    all_goals
      cases n with
      | zero => first | (cases h1; done) | (cases h2; done)
      | succ n =>
        simp only [D.py, PyData.eqv, D.lst.injEq, D.tup.injEq]
        exact eqvA (fun h1 h2 => eqv_iff n h1 h2) h1 h2
noncomputable def eqD (d e : D) : Bool := @decide (d = e) (Classical.propDecidable _)
theorem eqD_true {d e : D} (h : d = e) : eqD d e = true := by unfold eqD; exact @decide_eq_true _ (_) h
theorem eqD_false {d e : D} (h : d ≠ e) : eqD d e = false := by unfold eqD; exact @decide_eq_false _ (_) h
theorem of_eqD {d e : D} (h : eqD d e = true) : d = e := by unfold eqD at h; exact @of_decide_eq_true _ (_) h
theorem of_eqD_f {d e : D} (h : eqD d e = false) : d ≠ e := by unfold eqD at h; exact @of_decide_eq_false _ (_) h
def gEqD (f : Bool → Bool) : D → D → (S → Prop) → Prop := fun d e q => D.plN 60 d = true ∧ D.plN 60 e = true ∧ q (.fr (.bl (f (eqD d e))))
theorem eqD_is {d e : D} (h1 : D.plN 60 d = true) (h2 : D.plN 60 e = true) : PyData.eqv d.py e.py = eqD d e := by
  by_cases h : d = e
  · rw [eqD_true h]
    exact (eqv_iff 60 h1 h2).mpr h
  · rw [eqD_false h]
    exact Bool.eq_false_iff.mpr fun z => h ((eqv_iff 60 h1 h2).mp z)
theorem gEqD_run (f : Bool → Bool) {F H : Hp} {x y : V} {d e : D} {Q : VK} (q : S → Prop) (hs : Same F H) (h1 : Rp K F d x) (h2 : Rp K F e y) (h : gEqD f d e q) (k : ∀ v F' H' z, Ext F H F' H' → Rn K H F' H' z v → q z → Q v H') :
    ∃ a b, Dp K H x a ∧ Dp K H y b ∧ SeqAt.shaped a = true ∧ SeqAt.shaped b = true ∧ Q (.bl (f (PyData.eqv a b))) H := by
  obtain ⟨p1, p2, hq⟩ := h
  obtain ⟨a1, a2, a3⟩ := py_of 60 p1 (h1.mono hs)
  obtain ⟨b1, b2, b3⟩ := py_of 60 p2 (h2.mono hs)
  refine ⟨_, _, a1, b1, shaped_mk a2 (Nat.le_trans a3 (by decide)), shaped_mk b2 (Nat.le_trans b3 (by decide)), ?_⟩
  rw [eqD_is p1 p2]
  exact k _ F H (.fr (.bl _)) (Ext.refl hs) rfl hq
instance : OpL K (rEqD K) (gEqD id) := ⟨fun q hs h1 h2 h k => gEqD_run id q hs h1 h2 h k⟩
instance : OpL K (rNeD K) (gEqD not) := ⟨fun q hs h1 h2 h k => gEqD_run not q hs h1 h2 h k⟩
end
/-! ### tests -/
abbrev PT1 := Sl → (Sl → Prop) → (Sl → Prop) → Prop
def YN (b : Bool) (y n : Prop) : Prop := (b = true → y) ∧ (b = false → n)
theorem YN.ite {b : Bool} {y n : Prop} (h : YN b y n) : if b = true then y else n := by
  cases b with
  | true => exact iteT (h.1 rfl)
  | false => exact iteF (h.2 rfl)
class LiftT (K : PySem.W.Frag) (t : TT) (p : outParam PT1) : Prop where
  run : ∀ {F H : Hp} {ω : Om} {s : Sl} {σ : L2.St} {Q : Bool → Hp → Prop} (y n : Sl → Prop), Sta K F H ω s σ → p s y n →
    (∀ b F' H' ω' s', Stp F H ω F' H' ω' → Sta K F' H' ω' s' σ → (if b = true then y s' else n s') → Q b H') → t σ H Q
section
variable {K : PySem.W.Frag}
def pTest (p : PD) : PT1 := fun s y n => p s fun d s' => match d with
  | .bl b => YN b (y s') (n s')
  | _ => False
theorem pTest_run {t : TE} {p : PD} [LiftD K t p] {F H : Hp} {ω : Om} {s : Sl} {σ : L2.St} {Q : Bool → Hp → Prop} (y n : Sl → Prop) (T : Sta K F H ω s σ) (h : pTest p s y n)
    (k : ∀ b F' H' ω' s', Stp F H ω F' H' ω' → Sta K F' H' ω' s' σ → (if b = true then y s' else n s') → Q b H') : t σ H fun x H' => ∃ c, x = .bl c ∧ Q c H' := by
  refine LiftD.run (K := K) (t := t) (p := p) _ T h fun v F1 H1 ω1 d s1 p1 T1 r1 h1 => ?_
  split at h1
  · exact ⟨_, r1, k _ F1 H1 ω1 s1 p1 T1 h1.ite⟩
  · exact h1.elim
instance {t : TE} {p : PD} [LiftD K t p] : LiftT K (tTest t) (pTest p) := ⟨fun y n T h k => pTest_run (t := t) (p := p) y n T h k⟩
instance {t : TE} {p : PD} [LiftD K t p] : LiftT K (tB t) (pTest p) := ⟨fun y n T h k => pTest_run (t := t) (p := p) y n T h k⟩
def pAnd (p q : PT1) : PT1 := fun s y n => p s (fun s1 => q s1 y n) n
def pOr (p q : PT1) : PT1 := fun s y n => p s y (fun s1 => q s1 y n)
def pNot (p : PT1) : PT1 := fun s y n => p s n y
instance {t u : TT} {p q : PT1} [LiftT K t p] [LiftT K u q] : LiftT K (tAnd t u) (pAnd p q) := ⟨fun y n T h k => by
  refine LiftT.run (K := K) (t := t) (p := p) _ _ T h fun b F1 H1 ω1 s1 p1 T1 h1 => ?_
  cases b with
  | true =>
    refine iteT (LiftT.run (K := K) (t := u) (p := q) y n T1 (by simpa using h1) fun b F2 H2 ω2 s2 p2 T2 h2 => k b F2 H2 ω2 s2 (p1.trans p2) T2 h2)
  | false => exact iteF (k false F1 H1 ω1 s1 p1 T1 h1)⟩
instance {t u : TT} {p q : PT1} [LiftT K t p] [LiftT K u q] : LiftT K (tOr t u) (pOr p q) := ⟨fun y n T h k => by
  refine LiftT.run (K := K) (t := t) (p := p) _ _ T h fun b F1 H1 ω1 s1 p1 T1 h1 => ?_
  cases b with
  | true => exact iteT (k true F1 H1 ω1 s1 p1 T1 h1)
  | false => refine iteF (LiftT.run (K := K) (t := u) (p := q) y n T1 (by simpa using h1) fun b F2 H2 ω2 s2 p2 T2 h2 => k b F2 H2 ω2 s2 (p1.trans p2) T2 h2)⟩
instance {t : TT} {p : PT1} [LiftT K t p] : LiftT K (tNot t) (pNot p) := ⟨fun y n T h k => by
  refine LiftT.run (K := K) (t := t) (p := p) n y T h fun b F1 H1 ω1 s1 p1 T1 h1 => k (!b) F1 H1 ω1 s1 p1 T1 ?_
  cases b with
  | true => simpa using h1
  | false => simpa using h1⟩
instance : LiftT K tYes (fun s y _ => y s) := ⟨fun {F H ω s σ Q} y n T h k => k true F H ω s (Stp.refl F H ω) T (iteT h)⟩
/-! truth of any value -/
def truD : D → Option Bool
  | .non => some false
  | .bl b => some b
  | .int i => some (i != 0)
  | .str x => some ((x.length : Int) != 0)
  | .lst ds => some (!ds.isEmpty)
  | .tup ds => some (!ds.isEmpty)
  | _ => none
/-! and, or, not as values; one or the other -/
def pAndV (p q : PD) : PX := fun s k => p s fun d s1 => match d with
  | .bl b => YN b (q s1 fun e s2 => k (.fr e) s2) (k (.fr (.bl false)) s1)
  | _ => False
def pOrV (p q : PD) : PX := fun s k => p s fun d s1 => match d with
  | .bl b => YN b (k (.fr (.bl true)) s1) (q s1 fun e s2 => k (.fr e) s2)
  | _ => False
def pNotV (p : PD) : PX := fun s k => p s fun d s1 => match d with
  | .bl b => k (.fr (.bl (!b))) s1
  | _ => False
instance {t u : TE} {p q : PD} [LiftD K t p] [LiftD K u q] : LiftE K (tAndV t u) (pAndV p q) := ⟨fun kk T h k => by
  refine LiftD.run (K := K) (t := t) (p := p) _ T h fun v F1 H1 ω1 d s1 p1 T1 r1 h1 => ?_
  split at h1
  · rename_i b
    refine ⟨b, r1, ?_⟩
    cases b with
    | true =>
      refine iteT (LiftD.run (K := K) (t := u) (p := q) _ T1 (h1.1 rfl) fun v F2 H2 ω2 e s2 p2 T2 r2 h2 => k v F2 H2 ω2 (.fr e) s2 (p1.trans p2) T2 r2 h2)
    | false => exact iteF (k _ F1 H1 ω1 (.fr (.bl false)) s1 p1 T1 rfl (h1.2 rfl))
  · exact h1.elim⟩
instance {t u : TE} {p q : PD} [LiftD K t p] [LiftD K u q] : LiftE K (tOrV t u) (pOrV p q) := ⟨fun kk T h k => by
  refine LiftD.run (K := K) (t := t) (p := p) _ T h fun v F1 H1 ω1 d s1 p1 T1 r1 h1 => ?_
  split at h1
  · rename_i b
    refine ⟨b, r1, ?_⟩
    cases b with
    | true => exact iteT (k _ F1 H1 ω1 (.fr (.bl true)) s1 p1 T1 rfl (h1.1 rfl))
    | false =>
      refine iteF (LiftD.run (K := K) (t := u) (p := q) _ T1 (h1.2 rfl) fun v F2 H2 ω2 e s2 p2 T2 r2 h2 => k v F2 H2 ω2 (.fr e) s2 (p1.trans p2) T2 r2 h2)
  · exact h1.elim⟩
instance {t : TE} {p : PD} [LiftD K t p] : LiftE K (tNotV t) (pNotV p) := ⟨fun kk T h k => by
  refine LiftD.run (K := K) (t := t) (p := p) _ T h fun v F1 H1 ω1 d s1 p1 T1 r1 h1 => ?_
  split at h1
  · exact ⟨_, r1, k _ F1 H1 ω1 (.fr (.bl _)) s1 p1 T1 rfl h1⟩
  · exact h1.elim⟩
def pIfE (c : PT1) (p q : PX) : PX := fun s k => c s (fun s1 => p s1 k) (fun s1 => q s1 k)
instance {c : TT} {t u : TE} {pc : PT1} {p q : PX} [LiftT K c pc] [LiftE K t p] [LiftE K u q] : LiftE K (tIf c t u) (pIfE pc p q) := ⟨fun kk T h k => by
  refine LiftT.run (K := K) (t := c) (p := pc) _ _ T h fun b F1 H1 ω1 s1 p1 T1 h1 => ?_
  cases b with
  | true => exact iteT (LiftE.run (K := K) (t := t) (p := p) kk T1 (by simpa using h1) fun v F2 H2 ω2 x s2 p2 T2 r2 h2 => k v F2 H2 ω2 x s2 (p1.trans p2) T2 (r2.early p1.tr) h2)
  | false => exact iteF (LiftE.run (K := K) (t := u) (p := q) kk T1 (by simpa using h1) fun v F2 H2 ω2 x s2 p2 T2 r2 h2 => k v F2 H2 ω2 x s2 (p1.trans p2) T2 (r2.early p1.tr) h2)⟩
def pChain (g g' : D → D → (S → Prop) → Prop) (pa pb pc : PD) : PX := fun s k => pa s fun d s1 => pb s1 fun e s2 => g d e fun z => match z with
  | .fr (.bl b) => YN b (pc s2 fun f s3 => g' e f fun z => k z s3) (k (.fr (.bl false)) s2)
  | _ => False
instance {r r' : R2} {g g' : D → D → (S → Prop) → Prop} {ta tb tc : TE} {pa pb pc : PD} [OpL K r g] [OpL K r' g'] [LiftD K ta pa] [LiftD K tb pb] [LiftD K tc pc] : LiftE K (tChain r r' ta tb tc) (pChain g g' pa pb pc) := ⟨fun kk T h k => by
  refine LiftD.run (K := K) (t := ta) (p := pa) _ T h fun x F1 H1 ω1 d s1 p1 T1 r1 h1 => ?_
  refine LiftD.run (K := K) (t := tb) (p := pb) _ T1 h1 fun y F2 H2 ω2 e s2 p2 T2 r2 h2 => ?_
  refine OpL.run (K := K) (r := r) (g := g) _ T2.sf (r1.mono p2.sf) r2 h2 fun v F3 H3 z e3 r3 hq => ?_
  obtain ⟨p3, T3⟩ := e3.stp T2
  split at hq
  · rename_i b
    refine ⟨b, r3, ?_⟩
    have pp := (p1.trans p2).trans p3
    cases b with
    | true =>
      refine iteT (LiftD.run (K := K) (t := tc) (p := pc) _ T3 (hq.1 rfl) fun w F4 H4 ω4 f s4 p4 T4 r4 h4 => ?_)
      refine OpL.run (K := K) (r := r') (g := g') _ T4.sf (r2.mono (e3.sf.trans p4.sf)) r4 h4 fun v F5 H5 z e5 r5 hq => ?_
      obtain ⟨p5, T5⟩ := e5.stp T4
      exact k v F5 H5 ω4 z s4 ((pp.trans p4).trans p5) T5 (Rn.rt (pp.trans p4) T4 r5) hq
    | false => exact iteF (k _ F3 H3 ω2 (.fr (.bl false)) s2 pp T3 rfl (hq.2 rfl))
  · exact hq.elim⟩
/-! ### lists of arguments that are data -/
abbrev PA1 := Sl → (List D → Sl → Prop) → Prop
class LiftA (K : PySem.W.Frag) (t : TA) (p : outParam PA1) : Prop where
  run : ∀ {F H : Hp} {ω : Om} {s : Sl} {σ : L2.St} {Q : List V → Hp → Prop} (q : List D → Sl → Prop), Sta K F H ω s σ → p s q →
    (∀ vs F' H' ω' ds s', Stp F H ω F' H' ω' → Sta K F' H' ω' s' σ → RpA K F' ds vs → q ds s' → Q vs H') → t σ H Q
instance : LiftA K tNil (fun s q => q [] s) := ⟨fun {F H ω s σ Q} q T h k => k [] F H ω [] s (Stp.refl F H ω) T rfl h⟩
def pCons (p : PD) (r : PA1) : PA1 := fun s q => p s fun d s1 => r s1 fun ds s2 => q (d :: ds) s2
instance {t : TE} {r : TA} {p : PD} {pr : PA1} [LiftD K t p] [LiftA K r pr] : LiftA K (tCons t r) (pCons p pr) := ⟨fun kk T h k => by
  refine LiftD.run (K := K) (t := t) (p := p) _ T h fun x F1 H1 ω1 d s1 p1 T1 r1 h1 => ?_
  refine LiftA.run (K := K) (t := r) (p := pr) _ T1 h1 fun vs F2 H2 ω2 ds s2 p2 T2 r2 h2 => ?_
  exact k _ F2 H2 ω2 (d :: ds) s2 (p1.trans p2) T2 ⟨x, vs, rfl, r1.mono p2.sf, r2⟩ h2⟩
def pTup (p : PA1) : PX := fun s q => p s fun ds s1 => if ds.length ≤ 1000 then q (.fr (.tup ds)) s1 else False
def pLst (p : PA1) : PX := fun s q => p s fun ds s1 => if ds.length ≤ 1000 then q (.ow false (.lst ds)) s1 else False
instance {t : TA} {p : PA1} [LiftA K t p] : LiftE K (tTup t) (pTup p) := ⟨fun {F H ω s σ Q} kk T h k => by
  refine LiftA.run (K := K) (t := t) (p := p) _ T h fun vs F1 H1 ω1 ds s1 p1 T1 r1 h1 => ?_
  split at h1
  · rename_i hl
    refine ⟨Nat.le_trans (r1.len ▸ hl) (by decide), fun a ha => ?_⟩
    refine Ext.tup (q := fun z => kk z s1) T1.sf r1 h1 (fun v F' H' z e r hq => ?_) ha
    obtain ⟨p2, T2⟩ := e.stp T1
    exact k v F' H' ω1 z s1 (p1.trans p2) T2 (Rn.rt p1 T1 r) hq
  · exact h1.elim⟩
instance {t : TA} {p : PA1} [LiftA K t p] : LiftE K (tLst t) (pLst p) := ⟨fun {F H ω s σ Q} kk T h k => by
  refine LiftA.run (K := K) (t := t) (p := p) _ T h fun vs F1 H1 ω1 ds s1 p1 T1 r1 h1 => ?_
  split at h1
  · rename_i hl
    refine ⟨Nat.le_trans (r1.len ▸ hl) (by decide), fun a ha => ?_⟩
    refine Ext.lst (q := fun z => kk z s1) T1.sf r1 h1 (fun v F' H' z e r hq => ?_) ha
    obtain ⟨p2, T2⟩ := e.stp T1
    exact k v F' H' ω1 z s1 (p1.trans p2) T2 (Rn.rt p1 T1 r) hq
  · exact h1.elim⟩
/-! ### built-in functions -/
class CaL (K : PySem.W.Frag) (r : List V → Hp → VK → Prop) (g : outParam (List D → (S → Prop) → Prop)) : Prop where
  run : ∀ {F H : Hp} {vs : List V} {ds : List D} {Q : VK} (q : S → Prop), Same F H → RpA K F ds vs → g ds q → (∀ v F' H' z, Ext F H F' H' → Rn K H F' H' z v → q z → Q v H') → r vs H Q
def pCB (g : List D → (S → Prop) → Prop) (p : PA1) : PX := fun s q => p s fun ds s1 => g ds fun z => q z s1
instance {r : List V → Hp → VK → Prop} {g : List D → (S → Prop) → Prop} {t : TA} {p : PA1} [CaL K r g] [LiftA K t p] : LiftE K (tCB r t) (pCB g p) := ⟨fun kk T h k => by
  refine LiftA.run (K := K) (t := t) (p := p) _ T h fun vs F1 H1 ω1 ds s1 p1 T1 r1 h1 => ?_
  refine CaL.run (K := K) (r := r) (g := g) _ T1.sf r1 h1 fun v F3 H3 z e3 r3 hq => ?_
  obtain ⟨p3, T3⟩ := e3.stp T1
  exact k v F3 H3 ω1 z s1 (p1.trans p3) T3 (Rn.rt p1 T1 r3) hq⟩
theorem RpA.one {F : Hp} {d : D} {vs : List V} (h : RpA K F [d] vs) : ∃ v, vs = [v] ∧ Rp K F d v := by
  obtain ⟨v, ws, rfl, h1, h2⟩ := h
  cases (show ws = _ from h2)
  exact ⟨v, rfl, h1⟩
theorem RpA.two {F : Hp} {d e : D} {vs : List V} (h : RpA K F [d, e] vs) : ∃ v w, vs = [v, w] ∧ Rp K F d v ∧ Rp K F e w := by
  obtain ⟨v, ws, rfl, h1, h2⟩ := h
  obtain ⟨w, rfl, h3⟩ := RpA.one h2
  exact ⟨v, w, rfl, h1, h3⟩
def gLen : List D → (S → Prop) → Prop := fun ds q => match ds with
  | [.lst xs] => q (.fr (.int xs.length))
  | [.tup xs] => q (.fr (.int xs.length))
  | [.scr xs] => q (.fr (.int xs.length))
  | _ => False
theorem gLen_run {F H : Hp} {vs : List V} {ds : List D} {Q : VK} (q : S → Prop) (hs : Same F H) (r : RpA K F ds vs) (h : gLen ds q) (k : ∀ v F' H' z, Ext F H F' H' → Rn K H F' H' z v → q z → Q v H') :
    ∃ p ys, vs = [.ref p] ∧ (SqL K H p ys ∨ SqT K H p ys) ∧ Q (.int ys.length) H := by
  unfold gLen at h
  split at h
  · obtain ⟨v, rfl, a, ws, rfl, h1, h2⟩ := r.one
    refine ⟨a, ws, rfl, .inl (SqL.of (hs _ _ h1)), ?_⟩
    rw [← h2.len]
    exact k _ F H (.fr (.int _)) (Ext.refl hs) rfl h
  · obtain ⟨v, rfl, a, ws, rfl, h1, h2⟩ := r.one
    refine ⟨a, ws, rfl, .inr (hs.tupq h1), ?_⟩
    rw [← h2.len]
    exact k _ F H (.fr (.int _)) (Ext.refl hs) rfl h
  · obtain ⟨v, rfl, a, rfl, h1⟩ := r.one
    refine ⟨a, _, rfl, .inl (hs.seq h1), ?_⟩
    rw [List.length_map]
    exact k _ F H (.fr (.int _)) (Ext.refl hs) rfl h
  · exact h.elim
instance : CaL K (rLenQ K) gLen := ⟨fun q hs r h k => gLen_run q hs r h k⟩
instance : CaL K (fun xs H Q => ∃ p ys, xs = [.ref p] ∧ (SqL K H p ys ∨ SqT K H p ys) ∧ Q (.int ys.length) H) gLen := ⟨fun q hs r h k => gLen_run q hs r h k⟩
def gLenS : List D → (S → Prop) → Prop := fun ds q => match ds with
  | [.str x] => x.length ≤ sizeLine ∧ q (.fr (.int x.length))
  | _ => False
instance : CaL K (fun xs H Q => ∃ x, xs = [.str x] ∧ x.length ≤ sizeLine ∧ Q (.int x.length) H) gLenS := ⟨fun {F H vs ds Q} q hs r h k => by
  unfold gLenS at h
  split at h
  · obtain ⟨v, rfl, h1⟩ := r.one
    cases (show v = _ from h1)
    exact ⟨_, rfl, h.1, k _ F H (.fr (.int _)) (Ext.refl hs) rfl h.2⟩
  · exact h.elim⟩
/-- all the items are ints -/
def intsOf : List D → Option (List Int)
  | [] => some []
  | .int i :: r => (intsOf r).map (i :: ·)
  | _ => none
theorem intsOf_is : ∀ {ds : List D} {ns : List Int}, intsOf ds = some ns → ds = ns.map D.int
  | [], _, h => by cases h; rfl
  | .int i :: r, ns, h => by
    unfold intsOf at h
    cases e : intsOf r with
    | none => rw [e] at h; cases h
    | some m =>
      rw [e] at h
      cases h
      rw [intsOf_is e]
      rfl
  | .non :: _, _, h => by cases h
  | .bl _ :: _, _, h => by cases h
  | .str _ :: _, _, h => by cases h
  | .lst _ :: _, _, h => by cases h
  | .tup _ :: _, _, h => by cases h
  | .dic _ _ :: _, _, h => by cases h
  | .obj _ _ _ :: _, _, h => by cases h
  | .scr _ :: _, _, h => by cases h
  | .ty _ :: _, _, h => by cases h
theorem intsOf_map : ∀ ns : List Int, intsOf (ns.map D.int) = some ns
  | [] => rfl
  | n :: ns => by
    show (intsOf (ns.map D.int)).map (n :: ·) = _
    rw [intsOf_map ns]
    rfl
/-- a list of ints (said by the prover), its sum -/
def gSum : List D → (S → Prop) → Prop := fun ds q => match ds with
  | [.lst xs] => ∃ ns : List Int, xs = ns.map D.int ∧ q (.fr (.int ns.sum))
  | _ => False
instance : CaL K (rSum K) gSum := ⟨fun {F H vs ds Q} q hs r h k => by
  unfold gSum at h
  split at h
  · obtain ⟨ns, rfl, hq⟩ := h
    obtain ⟨v, rfl, a, ws, rfl, h1, h2⟩ := r.one
    cases RpA.intsV h2
    exact ⟨a, ns, rfl, SqL.of (hs _ _ h1), k _ F H (.fr (.int _)) (Ext.refl hs) rfl hq⟩
  · exact h.elim⟩
def gBls (f : List Bool → Bool) : List D → (S → Prop) → Prop := fun ds q => match ds with
  | [.lst xs] => ∃ bs : List Bool, xs = bs.map D.bl ∧ q (.fr (.bl (f bs)))
  | _ => False
theorem gBls_run {f : List Bool → Bool} {F H : Hp} {vs : List V} {ds : List D} {Q : VK} (q : S → Prop) (hs : Same F H) (r : RpA K F ds vs) (h : gBls f ds q) (k : ∀ v F' H' z, Ext F H F' H' → Rn K H F' H' z v → q z → Q v H') :
    ∃ (a : Addr) (bs : List Bool), vs = [V.ref a] ∧ SqL K H a (bs.map V.bl) ∧ Q (.bl (f bs)) H := by
  unfold gBls at h
  split at h
  · obtain ⟨ns, rfl, hq⟩ := h
    obtain ⟨v, rfl, a, ws, rfl, h1, h2⟩ := r.one
    cases RpA.blsV h2
    exact ⟨a, ns, rfl, SqL.of (hs _ _ h1), k _ F H (.fr (.bl _)) (Ext.refl hs) rfl hq⟩
  · exact h.elim
instance : CaL K (rAny K) (gBls fun bs => bs.any id) := ⟨fun q hs r h k => gBls_run q hs r h k⟩
instance : CaL K (rAll K) (gBls fun bs => bs.all id) := ⟨fun q hs r h k => gBls_run q hs r h k⟩
def gMax (le : Int → Int → Prop) : List D → (S → Prop) → Prop := fun ds q => match ds with
  | [.lst xs] => ∃ ns : List Int, xs = ns.map D.int ∧ 0 < ns.length ∧ ∀ m, m ∈ ns → (∀ y, y ∈ ns → le y m) → q (.fr (.int m))
  | _ => False
instance : CaL K (rMax K) (gMax fun y m => y ≤ m) := ⟨fun {F H vs ds Q} q hs r h k => by
  unfold gMax at h
  split at h
  · obtain ⟨ns, rfl, h0, hq⟩ := h
    obtain ⟨v, rfl, a, ws, rfl, h1, h2⟩ := r.one
    cases RpA.intsV h2
    exact ⟨a, ns, rfl, SqL.of (hs _ _ h1), h0, fun m h3 h4 => k _ F H (.fr (.int _)) (Ext.refl hs) rfl (hq m h3 h4)⟩
  · exact h.elim⟩
instance : CaL K (rMin K) (gMax fun y m => m ≤ y) := ⟨fun {F H vs ds Q} q hs r h k => by
  unfold gMax at h
  split at h
  · obtain ⟨ns, rfl, h0, hq⟩ := h
    obtain ⟨v, rfl, a, ws, rfl, h1, h2⟩ := r.one
    cases RpA.intsV h2
    exact ⟨a, ns, rfl, SqL.of (hs _ _ h1), h0, fun m h3 h4 => k _ F H (.fr (.int _)) (Ext.refl hs) rfl (hq m h3 h4)⟩
  · exact h.elim⟩
def gI1 (f : Int → D) : List D → (S → Prop) → Prop := fun ds q => match ds with
  | [.int i] => q (.fr (f i))
  | _ => False
instance : CaL K (fun xs H Q => ∃ i, xs = [.int i] ∧ Q (.int (if i < 0 then -i else i)) H) (gI1 fun i => .int (if i < 0 then -i else i)) := ⟨fun {F H vs ds Q} q hs r h k => by
  unfold gI1 at h
  split at h
  · obtain ⟨v, rfl, h1⟩ := r.one
    cases (show v = _ from h1)
    exact ⟨_, rfl, k _ F H (.fr (.int _)) (Ext.refl hs) rfl h⟩
  · exact h.elim⟩
def gI2 (f : Int → Int → Int) : List D → (S → Prop) → Prop := fun ds q => match ds with
  | [.int i, .int j] => q (.fr (.int (f i j)))
  | _ => False
theorem gI2_run {f : Int → Int → Int} {F H : Hp} {vs : List V} {ds : List D} {Q : VK} (q : S → Prop) (hs : Same F H) (r : RpA K F ds vs) (h : gI2 f ds q) (k : ∀ v F' H' z, Ext F H F' H' → Rn K H F' H' z v → q z → Q v H') :
    ∃ i j, vs = [.int i, .int j] ∧ Q (.int (f i j)) H := by
  unfold gI2 at h
  split at h
  · obtain ⟨v, w, rfl, h1, h2⟩ := r.two
    cases (show v = _ from h1)
    cases (show w = _ from h2)
    exact ⟨_, _, rfl, k _ F H (.fr (.int _)) (Ext.refl hs) rfl h⟩
  · exact h.elim
instance : CaL K (fun xs H Q => ∃ i j, xs = [.int i, .int j] ∧ Q (.int (if j > i then j else i)) H) (gI2 fun i j => if j > i then j else i) := ⟨fun q hs r h k => gI2_run q hs r h k⟩
instance : CaL K (fun xs H Q => ∃ i j, xs = [.int i, .int j] ∧ Q (.int (if j < i then j else i)) H) (gI2 fun i j => if j < i then j else i) := ⟨fun q hs r h k => gI2_run q hs r h k⟩
def gInt : List D → (S → Prop) → Prop := fun ds q => match ds with
  | [.int i] => q (.fr (.int i))
  | [.bl b] => YN b (q (.fr (.int 1))) (q (.fr (.int 0)))
  | _ => False
instance : CaL K (fun xs H Q => (∃ i, xs = [.int i] ∧ Q (.int i) H) ∨ ∃ k, xs = [.bl k] ∧ Q (.int (if k then 1 else 0)) H) gInt := ⟨fun {F H vs ds Q} q hs r h k => by
  unfold gInt at h
  split at h
  · obtain ⟨v, rfl, h1⟩ := r.one
    cases (show v = _ from h1)
    exact .inl ⟨_, rfl, k _ F H (.fr (.int _)) (Ext.refl hs) rfl h⟩
  · rename_i b
    obtain ⟨v, rfl, h1⟩ := r.one
    cases (show v = _ from h1)
    refine .inr ⟨_, rfl, ?_⟩
    cases b with
    | true => exact k _ F H (.fr (.int 1)) (Ext.refl hs) rfl (h.1 rfl)
    | false => exact k _ F H (.fr (.int 0)) (Ext.refl hs) rfl (h.2 rfl)
  · exact h.elim⟩
def gListOf : List D → (S → Prop) → Prop := fun ds q => match ds with
  | [.lst xs] => q (.ow false (.lst xs))
  | [.tup xs] => q (.ow false (.lst xs))
  | [.scr xs] => q (.ow false (.lst (xs.map .int)))
  | _ => False
instance : CaL K (fun xs H Q => ∃ p ys, xs = [.ref p] ∧ (SqL K H p ys ∨ SqT K H p ys) ∧ ∀ l, H l = none → Q (.ref l) (upd H l (.lst ys))) gListOf := ⟨fun {F H vs ds Q} q hs r h k => by
  unfold gListOf at h
  split at h
  · obtain ⟨v, rfl, a, ws, rfl, h1, h2⟩ := r.one
    exact ⟨a, ws, rfl, .inl (SqL.of (hs _ _ h1)), fun p hp => Ext.lst hs h2 h k hp⟩
  · obtain ⟨v, rfl, a, ws, rfl, h1, h2⟩ := r.one
    exact ⟨a, ws, rfl, .inr (hs.tupq h1), fun p hp => Ext.lst hs h2 h k hp⟩
  · obtain ⟨v, rfl, a, rfl, h1⟩ := r.one
    exact ⟨a, _, rfl, .inl (hs.seq h1), fun p hp => Ext.lst hs RpA.ints h k hp⟩
  · exact h.elim⟩
def gTupOf : List D → (S → Prop) → Prop := fun ds q => match ds with
  | [.lst xs] => q (.fr (.tup xs))
  | [.tup xs] => q (.fr (.tup xs))
  | _ => False
instance : CaL K (fun xs H Q => ∃ p ys, xs = [.ref p] ∧ ((SqL K H p ys ∧ ∀ l, H l = none → Q (.ref l) (upd H l (.tup ys))) ∨ (SqT K H p ys ∧ Q (.ref p) H))) gTupOf := ⟨fun {F H vs ds Q} q hs r h k => by
  unfold gTupOf at h
  split at h
  · obtain ⟨v, rfl, a, ws, rfl, h1, h2⟩ := r.one
    exact ⟨a, ws, rfl, .inl ⟨SqL.of (hs _ _ h1), fun p hp => Ext.tup hs h2 h k hp⟩⟩
  · obtain ⟨v, rfl, a, ws, rfl, h1, h2⟩ := r.one
    exact ⟨a, ws, rfl, .inr ⟨hs.tupq h1, k _ F H (.fr (.tup _)) (Ext.refl hs) ⟨a, ws, rfl, h1, h2⟩ h⟩⟩
  · exact h.elim⟩
/-! ### slices -/
abbrev PO1 := Sl → (Option Int → Sl → Prop) → Prop
class LiftO (K : PySem.W.Frag) (t : TO) (p : outParam PO1) : Prop where
  run : ∀ {F H : Hp} {ω : Om} {s : Sl} {σ : L2.St} {Q : Option Int → Hp → Prop} (q : Option Int → Sl → Prop), Sta K F H ω s σ → p s q →
    (∀ o F' H' ω' s', Stp F H ω F' H' ω' → Sta K F' H' ω' s' σ → q o s' → Q o H') → t σ H Q
instance : LiftO K tNoPart (fun s q => q none s) := ⟨fun {F H ω s σ Q} q T h k => k none F H ω s (Stp.refl F H ω) T h⟩
def pPart (p : PD) : PO1 := fun s q => p s fun d s1 => match d with
  | .int i => q (some i) s1
  | _ => False
instance {t : TE} {p : PD} [LiftD K t p] : LiftO K (tPart t) (pPart p) := ⟨fun q T h k => by
  refine LiftD.run (K := K) (t := t) (p := p) _ T h fun x F1 H1 ω1 d s1 p1 T1 r1 h1 => ?_
  split at h1
  · exact ⟨_, r1, k _ F1 H1 ω1 s1 p1 T1 h1⟩
  · exact h1.elim⟩
class SlL (K : PySem.W.Frag) (r : V → Option Int → Option Int → Hp → VK → Prop) (g : outParam (D → Option Int → Option Int → (S → Prop) → Prop)) : Prop where
  run : ∀ {F H : Hp} {x : V} {d : D} {lo hi : Option Int} {Q : VK} (q : S → Prop), Same F H → Rp K F d x → g d lo hi q → (∀ v F' H' z, Ext F H F' H' → Rn K H F' H' z v → q z → Q v H') → r x lo hi H Q
def pSl (g : D → Option Int → Option Int → (S → Prop) → Prop) (pe : PD) (pl ph : PO1) : PX := fun s q => pe s fun d s1 => pl s1 fun lo s2 => ph s2 fun hi s3 => g d lo hi fun z => q z s3
instance {r : V → Option Int → Option Int → Hp → VK → Prop} {g : D → Option Int → Option Int → (S → Prop) → Prop} {te : TE} {tl th : TO} {pe : PD} {pl ph : PO1} [SlL K r g] [LiftD K te pe] [LiftO K tl pl] [LiftO K th ph] :
    LiftE K (tSl r te tl th) (pSl g pe pl ph) := ⟨fun kk T h k => by
  refine LiftD.run (K := K) (t := te) (p := pe) _ T h fun x F1 H1 ω1 d s1 p1 T1 r1 h1 => ?_
  refine LiftO.run (K := K) (t := tl) (p := pl) _ T1 h1 fun lo F2 H2 ω2 s2 p2 T2 h2 => ?_
  refine LiftO.run (K := K) (t := th) (p := ph) _ T2 h2 fun hi F3 H3 ω3 s3 p3 T3 h3 => ?_
  refine SlL.run (K := K) (r := r) (g := g) _ T3.sf (r1.mono (p2.sf.trans p3.sf)) h3 fun v F4 H4 z e4 r4 hq => ?_
  obtain ⟨p4, T4⟩ := e4.stp T3
  have pp := (p1.trans p2).trans p3
  exact k v F4 H4 ω3 z s3 (pp.trans p4) T4 (Rn.rt pp T3 r4) hq⟩
def cutD (xs : List D) (lo hi : Option Int) : List D := (xs.drop (HT.sIx xs.length 0 lo)).take (HT.sIx xs.length xs.length hi - HT.sIx xs.length 0 lo)
theorem RpA.cut {F : Hp} {ds : List D} {vs : List V} (h : RpA K F ds vs) (lo hi : Option Int) : RpA K F (cutD ds lo hi) (cutV vs lo hi) := by
  unfold cutD cutV
  rw [← h.len]
  exact (h.drop _).take _
def gSlL : D → Option Int → Option Int → (S → Prop) → Prop := fun d lo hi q => match d with
  | .lst xs => q (.ow false (.lst (cutD xs lo hi)))
  | .scr ns => q (.ow false (.lst (cutD (ns.map .int) lo hi)))
  | _ => False
instance : SlL K (rSlL K) gSlL := ⟨fun {F H x d lo hi Q} q hs r h k => by
  unfold gSlL at h
  split at h
  · obtain ⟨a, ws, rfl, h1, h2⟩ := r
    exact ⟨a, ws, rfl, SqL.of (hs _ _ h1), fun p hp => Ext.lst hs (h2.cut lo hi) h k hp⟩
  · obtain ⟨a, rfl, h1⟩ := r
    exact ⟨a, _, rfl, hs.seq h1, fun p hp => Ext.lst hs (RpA.ints.cut lo hi) h k hp⟩
  · exact h.elim⟩
def gSlS : D → Option Int → Option Int → (S → Prop) → Prop := fun d lo hi q => match d with
  | .str z => z.length ≤ sizeLine ∧ q (.fr (.str (cutS z lo hi)))
  | _ => False
instance : SlL K rSlS gSlS := ⟨fun {F H x d lo hi Q} q hs r h k => by
  unfold gSlS at h
  split at h
  · cases (show x = _ from r)
    exact ⟨_, rfl, h.1, k _ F H (.fr (.str _)) (Ext.refl hs) rfl h.2⟩
  · exact h.elim⟩
end
/-! ### truth of a value as a test -/
section
variable {K : PySem.W.Frag}
theorem emp_len {ds : List D} {ws : List V} (h : ds.length = ws.length) : (!ws.isEmpty) = !ds.isEmpty := by
  cases ds <;> cases ws <;> first | rfl | (simp at h)
theorem tru_is {F H : Hp} {d : D} {v : V} {b : Bool} (hs : Same F H) (r : Rp K F d v) (e : truD d = some b) (h : ∀ x, d = .str x → x.length ≤ sizeLine) : TruV K v H b := by
  cases d with
  | non => cases (show v = _ from r); cases e; rfl
  | bl _ => cases (show v = _ from r); cases e; rfl
  | int _ => cases (show v = _ from r); cases e; rfl
  | str x =>
    cases (show v = _ from r)
    have e1 := Option.some.inj e
    exact ⟨h x rfl, e1.symm⟩
  | lst ds =>
    obtain ⟨a, ws, rfl, h1, h2⟩ := r
    have e1 := Option.some.inj e
    exact .inl ⟨ws, SqL.of (hs _ _ h1), by rw [emp_len h2.len]; exact e1.symm⟩
  | tup ds =>
    obtain ⟨a, ws, rfl, h1, h2⟩ := r
    have e1 := Option.some.inj e
    exact .inr (.inl ⟨ws, hs.tupq h1, by rw [emp_len h2.len]; exact e1.symm⟩)
  | _ => cases e
def pTru (p : PD) : PT1 := fun s y n => p s fun d s' => match truD d with
  | some b => (∀ x, d = .str x → x.length ≤ sizeLine) ∧ YN b (y s') (n s')
  | none => False
instance {t : TE} {p : PD} [LiftD K t p] : LiftT K (fun σ H Q => t σ H fun x H' => ∃ k, TruV K x H' k ∧ Q k H') (pTru p) := ⟨fun y n T h k => by
  refine LiftD.run (K := K) (t := t) (p := p) _ T h fun v F1 H1 ω1 d s1 p1 T1 r1 h1 => ?_
  split at h1
  · rename_i b e
    exact ⟨b, tru_is T1.sf r1 e h1.1, k _ F1 H1 ω1 s1 p1 T1 h1.2.ite⟩
  · exact h1.elim⟩
/-- a name's list, which stays its own -/
def pTruV (i : Nat) : PT1 := fun s y n => match s[i]? with
  | some (some (.ow _ (.lst ds))) => YN (!ds.isEmpty) (y s) (n s)
  | _ => pTru (pDat (pVar i)) s y n
instance (priority := high) (i : Nat) : LiftT K (fun σ H Q => tVar i σ H fun x H' => ∃ k, TruV K x H' k ∧ Q k H') (pTruV i) := ⟨fun {F H ω s σ Q} y n T h k => by
  unfold pTruV at h
  split at h
  · rename_i b ds e
    obtain ⟨v, hv, l, rfl, hl, ws, h1, h2⟩ := T.at' i _ e
    refine ⟨_, hv, _, .inl ⟨ws, SqL.of h1, rfl⟩, k _ F H ω s (Stp.refl F H ω) T ?_⟩
    rw [emp_len h2.len]
    exact h.ite
  · exact LiftT.run (K := K) (t := fun σ H Q => tVar i σ H fun x H' => ∃ k, TruV K x H' k ∧ Q k H') (p := pTru (pDat (pVar i))) y n T h k⟩
/-! ### targets -/
theorem wipe_set {i : Nat} {x : Option V} : ∀ {vs : List Nat} {σ : L2.St}, wipe (σ.set i x) vs = if i ∈ vs then wipe σ vs else (wipe σ vs).set i x
  | [], σ => by simp [wipe]
  | v :: vs, σ => by
    show (wipe (σ.set i x) vs).set v none = if i ∈ v :: vs then (wipe σ vs).set v none else ((wipe σ vs).set v none).set i x
    rw [wipe_set]
    by_cases h1 : i ∈ vs
    · simp [h1]
    · by_cases h2 : i = v
      · subst h2
        simp [h1]
      · simp [h1, h2]
        rw [List.set_comm _ _ h2]
theorem wipe_mem {i : Nat} {x : Option V} {vs : List Nat} {σ : L2.St} (h : i ∈ vs) : wipe (σ.set i x) vs = wipe σ vs := by rw [wipe_set, if_pos h]
abbrev PG1 := D → Sl → (Sl → Prop) → Prop
class LiftG (K : PySem.W.Frag) (g : TG) (p : outParam PG1) (ss : outParam (List Nat)) : Prop where
  run : ∀ {F H : Hp} {ω : Om} {s : Sl} {σ : L2.St} {v : V} {d : D} {Q : L2.St → Hp → Prop} (q : Sl → Prop), Sta K F H ω s σ → Rp K F d v → p d s q →
    (∀ σ' s', Sta K F H ω s' σ' → (∀ vs, (∀ i ∈ ss, i ∈ vs) → wipe σ' vs = wipe σ vs) → q s' → Q σ' H) → g v σ H Q
def pgName (i : Nat) : PG1 := fun d s q => q (s.set i (some (.fr d)))
instance (i : Nat) : LiftG K (gName i) (pgName i) [i] := ⟨fun q T r h k => k _ _ (T.set i r) (fun vs hv => wipe_mem (hv i (by simp))) h⟩
abbrev PGs1 := List D → Sl → (Sl → Prop) → Prop
class LiftGs (K : PySem.W.Frag) (g : TGs) (p : outParam PGs1) (ss : outParam (List Nat)) : Prop where
  run : ∀ {F H : Hp} {ω : Om} {s : Sl} {σ : L2.St} {vs : List V} {ds : List D} {Q : L2.St → Hp → Prop} (q : Sl → Prop), Sta K F H ω s σ → RpA K F ds vs → p ds s q →
    (∀ σ' s', Sta K F H ω s' σ' → (∀ vs, (∀ i ∈ ss, i ∈ vs) → wipe σ' vs = wipe σ vs) → q s' → Q σ' H) → g vs σ H Q
def pgNil : PGs1 := fun ds s q => match ds with
  | [] => q s
  | _ => False
def pgCons (p : PG1) (r : PGs1) : PGs1 := fun ds s q => match ds with
  | d :: es => p d s fun s1 => r es s1 q
  | [] => False
instance : LiftGs K gNil pgNil [] := ⟨fun {F H ω s σ vs ds Q} q T r h k => by
  unfold pgNil at h
  split at h
  · cases (show vs = [] from r)
    exact ⟨rfl, k _ _ T (fun _ _ => rfl) h⟩
  · exact h.elim⟩
instance {g : TG} {gs : TGs} {p : PG1} {ps : PGs1} {ss ts : List Nat} [LiftG K g p ss] [LiftGs K gs ps ts] : LiftGs K (gCons g gs) (pgCons p ps) (ss ++ ts) := ⟨fun {F H ω s σ vs ds Q} q T r h k => by
  unfold pgCons at h
  split at h
  · obtain ⟨v, ws, rfl, r1, r2⟩ := r
    refine ⟨v, ws, rfl, LiftG.run (K := K) (g := g) (p := p) (ss := ss) _ T r1 h fun σ1 s1 T1 w1 h1 => ?_⟩
    refine LiftGs.run (K := K) (g := gs) (p := ps) (ss := ts) _ T1 r2 h1 fun σ2 s2 T2 w2 h2 => k _ _ T2 (fun vs hv => ?_) h2
    rw [w2 vs fun i hi => hv i (List.mem_append_right _ hi), w1 vs fun i hi => hv i (List.mem_append_left _ hi)]
  · exact h.elim⟩
def pgTup (n : Nat) (p : PGs1) : PG1 := fun d s q => match d with
  | .tup ds => if ds.length = n then p ds s q else False
  | _ => False
instance {n : Nat} {g : TGs} {p : PGs1} {ss : List Nat} [LiftGs K g p ss] : LiftG K (gTup K n g) (pgTup n p) ss := ⟨fun {F H ω s σ v d Q} q T r h k => by
  unfold pgTup at h
  split at h
  · split at h
    · rename_i hl
      obtain ⟨a, ws, rfl, h1, h2⟩ := r
      exact ⟨a, ws, rfl, T.sf.tupq h1, by rw [← h2.len]; exact hl, LiftGs.run (K := K) (g := g) (p := p) (ss := ss) q T h2 h k⟩
    · exact h.elim
  · exact h.elim⟩
/-! ### what is walked -/
def WalkD (K : PySem.W.Frag) (F : Hp) (J : It) (ds : List D) : Prop := ∃ (G : Hp → Prop) (Y : Nat → Hp → V → Hp → Prop), Walk J ds.length G Y ∧ (∀ H, Same F H → G H) ∧
  ∀ i H x H' F1 d, ds[i]? = some d → Same F F1 → Same F1 H → Y i H x H' → ∃ F2, Ext F1 H F2 H' ∧ Rp K F2 d x
abbrev PI1 := Sl → (List D → Sl → Prop) → Prop
class LiftI (K : PySem.W.Frag) (t : TI) (p : outParam PI1) : Prop where
  run : ∀ {F H : Hp} {ω : Om} {s : Sl} {σ : L2.St} {R : It → Hp → Prop} (q : List D → Sl → Prop), Sta K F H ω s σ → p s q →
    (∀ J F' H' ω' ds s', Stp F H ω F' H' ω' → Sta K F' H' ω' s' σ → WalkD K F' J ds → q ds s' → R J H') → t σ H R
def pIterL (p : PD) : PI1 := fun s q => p s fun d s1 => match d with
  | .lst ds => q ds s1
  | .scr ns => q (ns.map .int) s1
  | _ => False
theorem walkD_list {F : Hp} {a : Addr} {ds : List D} {vs : List V} (h1 : SqL K F a vs) (h2 : RpA K F ds vs) : WalkD K F (Itl K a) ds := by
  refine ⟨_, _, h2.len ▸ walk_list (K := K) (a := a) (xs := vs), fun H hs => hs.seq h1, fun i H x H' F1 d e s1 s2 y => ?_⟩
  obtain ⟨rfl, hx⟩ := y
  obtain ⟨v, hv, r⟩ := h2.get e
  rw [hx] at hv
  cases hv
  exact ⟨F1, Ext.refl s2, r.mono s1⟩
instance {t : TE} {p : PD} [LiftD K t p] : LiftI K (iList K t) (pIterL p) := ⟨fun q T h k => by
  refine LiftD.run (K := K) (t := t) (p := p) _ T h fun v F1 H1 ω1 d s1 p1 T1 r1 h1 => ?_
  split at h1
  · obtain ⟨a, ws, rfl, r2, r3⟩ := r1
    exact ⟨a, rfl, ⟨ws, SqL.of (T1.sf _ _ r2)⟩, k _ F1 H1 ω1 _ s1 p1 T1 (walkD_list (SqL.of r2) r3) h1⟩
  · obtain ⟨a, rfl, r2⟩ := r1
    exact ⟨a, rfl, ⟨_, T1.sf.seq r2⟩, k _ F1 H1 ω1 _ s1 p1 T1 (walkD_list r2 RpA.ints) h1⟩
  · exact h1.elim⟩
def pIterT (p : PD) : PI1 := fun s q => p s fun d s1 => match d with
  | .tup ds => q ds s1
  | _ => False
theorem walkD_tup {F : Hp} {a : Addr} {ds : List D} {vs : List V} (h1 : SqT K F a vs) (h2 : RpA K F ds vs) : WalkD K F (Itt K a) ds := by
  refine ⟨_, _, h2.len ▸ walk_tup (K := K) (a := a) (xs := vs), fun H hs => hs.tupq h1, fun i H x H' F1 d e s1 s2 y => ?_⟩
  obtain ⟨rfl, hx⟩ := y
  obtain ⟨v, hv, r⟩ := h2.get e
  rw [hx] at hv
  cases hv
  exact ⟨F1, Ext.refl s2, r.mono s1⟩
instance {t : TE} {p : PD} [LiftD K t p] : LiftI K (iTup K t) (pIterT p) := ⟨fun q T h k => by
  refine LiftD.run (K := K) (t := t) (p := p) _ T h fun v F1 H1 ω1 d s1 p1 T1 r1 h1 => ?_
  split at h1
  · obtain ⟨a, ws, rfl, r2, r3⟩ := r1
    exact ⟨a, rfl, ⟨ws, T1.sf.tupq r2⟩, k _ F1 H1 ω1 _ s1 p1 T1 (walkD_tup r2 r3) h1⟩
  · exact h1.elim⟩
def rngD (lo : Int) (n : Nat) : List D := (List.range n).map fun i => .int (lo + (i : Nat))
theorem rngD_len {lo : Int} {n : Nat} : (rngD lo n).length = n := by simp [rngD]
theorem rngD_get {lo : Int} {n i : Nat} {d : D} (h : (rngD lo n)[i]? = some d) : i < n ∧ d = .int (lo + (i : Nat)) := by
  unfold rngD at h
  rw [List.getElem?_map] at h
  by_cases hi : i < n
  · rw [List.getElem?_range hi] at h
    exact ⟨hi, (Option.some.inj h).symm⟩
  · rw [List.getElem?_eq_none (by rw [List.length_range]; omega)] at h
    cases h
theorem walkD_range {F : Hp} {lo : Int} {n : Nat} : WalkD K F (Itr lo n) (rngD lo n) := by
  refine ⟨fun _ => True, YFn fun i => .int (lo + (i : Nat)), ?_, fun _ _ => trivial, fun i H x H' F1 d e s1 s2 y => ?_⟩
  · rw [rngD_len]
    exact walk_range
  · obtain ⟨rfl, rfl⟩ := y
    exact ⟨F1, Ext.refl s2, by rw [(rngD_get e).2]; rfl⟩
def pRng1 (p : PA1) : PI1 := fun s q => p s fun ds s1 => match ds with
  | [.int j] => (-(2 ^ 62) ≤ j ∧ j < 2 ^ 62) ∧ q (rngD 0 j.toNat) s1
  | _ => False
instance {t : TA} {p : PA1} [LiftA K t p] : LiftI K (iRng1 t) (pRng1 p) := ⟨fun q T h k => by
  refine LiftA.run (K := K) (t := t) (p := p) _ T h fun vs F1 H1 ω1 ds s1 p1 T1 r1 h1 => ?_
  split at h1
  · obtain ⟨v, rfl, r2⟩ := r1.one
    cases (show v = _ from r2)
    exact ⟨_, rfl, h1.1.1, h1.1.2, k _ F1 H1 ω1 _ s1 p1 T1 walkD_range h1.2⟩
  · exact h1.elim⟩
def pRng2 (p : PA1) : PI1 := fun s q => p s fun ds s1 => match ds with
  | [.int i, .int j] => (-(2 ^ 62) ≤ i ∧ i < 2 ^ 62 ∧ -(2 ^ 62) ≤ j ∧ j < 2 ^ 62) ∧ q (rngD i (j - i).toNat) s1
  | _ => False
instance {t : TA} {p : PA1} [LiftA K t p] : LiftI K (iRng2 t) (pRng2 p) := ⟨fun q T h k => by
  refine LiftA.run (K := K) (t := t) (p := p) _ T h fun vs F1 H1 ω1 ds s1 p1 T1 r1 h1 => ?_
  split at h1
  · obtain ⟨v, w, rfl, r2, r3⟩ := r1.two
    cases (show v = _ from r2)
    cases (show w = _ from r3)
    exact ⟨_, _, rfl, h1.1, k _ F1 H1 ω1 _ s1 p1 T1 walkD_range h1.2⟩
  · exact h1.elim⟩
def enD (ds : List D) : List D := ds.mapIdx fun i d => .tup [.int (i : Nat), d]
theorem enD_len {ds : List D} : (enD ds).length = ds.length := by simp [enD]
theorem enD_get {ds : List D} {i : Nat} {d : D} (h : (enD ds)[i]? = some d) : ∃ x, ds[i]? = some x ∧ d = .tup [.int (i : Nat), x] := by
  unfold enD at h
  rw [List.getElem?_mapIdx] at h
  cases e : ds[i]? with
  | none => rw [e] at h; cases h
  | some x => rw [e] at h; exact ⟨x, rfl, (Option.some.inj h).symm⟩
def zipD (ds es : List D) : List D := List.zipWith (fun a b => .tup [a, b]) ds es
theorem zipD_get {ds es : List D} {i : Nat} {d : D} (h : (zipD ds es)[i]? = some d) : ∃ x y, ds[i]? = some x ∧ es[i]? = some y ∧ d = .tup [x, y] := by
  unfold zipD at h
  rw [List.getElem?_zipWith] at h
  cases e : ds[i]? with
  | none => rw [e] at h; cases h
  | some x =>
    cases e2 : es[i]? with
    | none => rw [e, e2] at h; cases h
    | some y => rw [e, e2] at h; exact ⟨x, y, rfl, rfl, (Option.some.inj h).symm⟩
theorem pair_new {F1 H H' : Hp} {x : V} {xs ys : Nat → Option V} {i : Nat} {d e : D} (s2 : Same F1 H) (y : YPair xs ys i H x H') (h1 : ∀ v, xs i = some v → Rp K F1 d v) (h2 : ∀ v, ys i = some v → Rp K F1 e v) :
    ∃ F2, Ext F1 H F2 H' ∧ Rp K F2 (.tup [d, e]) x := by
  obtain ⟨T, v, w, rfl, hT, rfl, e1, e2⟩ := y
  have hm := same_upd (o := .tup [v, w]) (s2.free hT)
  exact ⟨_, Ext.fz s2 hT _, T, [v, w], rfl, SqT.of upd_same, v, [w], rfl, (h1 v e1).mono hm, w, [], rfl, (h2 w e2).mono hm, rfl⟩
theorem walkD_enum {F : Hp} {a : Addr} {ds : List D} {vs : List V} (h1 : SqL K F a vs) (h2 : RpA K F ds vs) : WalkD K F (Ite K a) (enD ds) := by
  refine ⟨_, _, by rw [enD_len, h2.len]; exact walk_enum (K := K) (a := a) (xs := vs), fun H hs => hs.seq h1, fun i H x H' F1 d e s1 s2 y => ?_⟩
  obtain ⟨z, hz, rfl⟩ := enD_get e
  refine pair_new s2 y (fun v hv => (Option.some.inj hv).symm) fun v hv => ?_
  obtain ⟨w, hw, r⟩ := h2.get hz
  rw [hw] at hv
  cases hv
  exact r.mono s1
def pEnum (p : PA1) : PI1 := fun s q => p s fun ds s1 => match ds with
  | [.lst xs] => q (enD xs) s1
  | _ => False
instance {t : TA} {p : PA1} [LiftA K t p] : LiftI K (iEnum K t) (pEnum p) := ⟨fun q T h k => by
  refine LiftA.run (K := K) (t := t) (p := p) _ T h fun vs F1 H1 ω1 ds s1 p1 T1 r1 h1 => ?_
  split at h1
  · obtain ⟨v, rfl, a, ws, rfl, r2, r3⟩ := r1.one
    exact ⟨a, ws, rfl, SqL.of (T1.sf _ _ r2), k _ F1 H1 ω1 _ s1 p1 T1 (walkD_enum (SqL.of r2) r3) h1⟩
  · exact h1.elim⟩
theorem walkD_zip {F : Hp} {a b : Addr} {ds es : List D} {vs ws : List V} (h1 : SqL K F a vs) (h2 : RpA K F ds vs) (h3 : SqL K F b ws) (h4 : RpA K F es ws) : WalkD K F (Itz K a b) (zipD ds es) := by
  refine ⟨_, _, walk_zip (K := K) (a := a) (b := b) (xs := vs) (ys := ws) (by unfold zipD; rw [List.length_zipWith, h2.len, h4.len]), fun H hs => ⟨hs.seq h1, hs.seq h3⟩, fun i H x H' F1 d e s1 s2 y => ?_⟩
  obtain ⟨z, u, hz, hu, rfl⟩ := zipD_get e
  refine pair_new s2 y (fun v hv => ?_) fun v hv => ?_
  · obtain ⟨w, hw, r⟩ := h2.get hz
    rw [hw] at hv
    cases hv
    exact r.mono s1
  · obtain ⟨w, hw, r⟩ := h4.get hu
    rw [hw] at hv
    cases hv
    exact r.mono s1
def pZip (p : PA1) : PI1 := fun s q => p s fun ds s1 => match ds with
  | [.lst xs, .lst ys] => q (zipD xs ys) s1
  | _ => False
instance {t : TA} {p : PA1} [LiftA K t p] : LiftI K (iZip K t) (pZip p) := ⟨fun q T h k => by
  refine LiftA.run (K := K) (t := t) (p := p) _ T h fun vs F1 H1 ω1 ds s1 p1 T1 r1 h1 => ?_
  split at h1
  · obtain ⟨v, w, rfl, ⟨a, ws, rfl, r2, r3⟩, ⟨b, us, rfl, r4, r5⟩⟩ := r1.two
    exact ⟨a, b, ws, us, rfl, SqL.of (T1.sf _ _ r2), SqL.of (T1.sf _ _ r4), k _ F1 H1 ω1 _ s1 p1 T1 (walkD_zip (SqL.of r2) r3 (SqL.of r4) r5) h1⟩
  · exact h1.elim⟩
def chD (z : Str) : List D := z.cps.toList.map fun c => .str ⟨#[c]⟩
def pStrI (p : PD) : PI1 := fun s q => p s fun d s1 => match d with
  | .str z => q (chD z) s1
  | _ => False
theorem walkD_str {F : Hp} {z : Str} : WalkD K F (Its z) (chD z) := by
  refine ⟨_, _, by rw [show (chD z).length = z.cps.size by simp [chD]]; exact walk_str, fun _ _ => trivial, fun i H x H' F1 d e s1 s2 y => ?_⟩
  obtain ⟨rfl, c, hc, rfl⟩ := y
  unfold chD at e
  rw [List.getElem?_map, Array.getElem?_toList, hc] at e
  cases e
  exact ⟨F1, Ext.refl s2, rfl⟩
instance {t : TE} {p : PD} [LiftD K t p] : LiftI K (fun σ H R => t σ H fun v H1 => ∃ x, v = .str x ∧ R (Its x) H1) (pStrI p) := ⟨fun q T h k => by
  refine LiftD.run (K := K) (t := t) (p := p) _ T h fun v F1 H1 ω1 d s1 p1 T1 r1 h1 => ?_
  split at h1
  · exact ⟨_, r1, k _ F1 H1 ω1 _ s1 p1 T1 walkD_str h1⟩
  · exact h1.elim⟩
/-! ### comprehensions -/
def wipeS (s : Sl) : List Nat → Sl
  | [] => s
  | v :: vs => (wipeS s vs).set v none
theorem Sta.wipe {F H : Hp} {ω : Om} {s : Sl} {σ : L2.St} (T : Sta K F H ω s σ) : ∀ vs, Sta K F H ω (wipeS s vs) (L2.wipe σ vs)
  | [] => T
  | v :: vs => (Sta.wipe T vs).dropσ v none
/-- .. and back: the slots of the block are as before, and nothing is said of them -/
theorem Sta.unwipe {F H : Hp} {ω : Om} {s : Sl} {σ σ' : L2.St} (T : Sta K F H ω s σ') {vs : List Nat} (hw : L2.wipe σ' vs = L2.wipe σ vs) : Sta K F H ω (wipeS s vs) σ := by
  have T1 := T.wipe vs
  rw [hw] at T1
  refine ⟨T1.sf, T1.ow, fun i x h => ?_, by rw [T1.len, wipe_length]⟩
  obtain ⟨v, hv, r⟩ := T1.at' i x h
  exact ⟨v, (wipe_some hv).1, r⟩
def pLc (pi : PI1) (pg : PG1) (ss : List Nat) (pt : PT1) (pe : PD) (vs : List Nat) : PX := fun s q => pi s fun ds s1 => if ss.all vs.contains = true then ds.length ≤ 100000 ∧ ∃ I : Nat → List D → Sl → Prop, I 0 [] (wipeS s1 vs) ∧
  (∀ i d acc s2, ds[i]? = some d → I i acc s2 → pg d s2 fun s3 => pt s3 (fun s4 => pe s4 fun e s5 => I (i + 1) (acc ++ [e]) (wipeS s5 vs)) (fun s4 => I (i + 1) acc (wipeS s4 vs))) ∧
  ∀ acc s2, I ds.length acc s2 → q (.ow false (.lst acc)) s2 else False
theorem wipe_setm {v : Nat} : ∀ {vs : List Nat} {σ : L2.St}, v ∈ vs → (L2.wipe σ vs).set v none = L2.wipe σ vs
  | [], _, h => by simp at h
  | w :: vs, σ, h => by
    show ((L2.wipe σ vs).set w none).set v none = (L2.wipe σ vs).set w none
    by_cases e : v = w
    · subst e
      rw [List.set_set]
    · rw [List.set_comm _ _ (fun z => e z.symm), wipe_setm ((List.mem_cons.mp h).resolve_left e)]
theorem wipe_sub {σ : L2.St} {vs : List Nat} : ∀ {ws : List Nat}, (∀ i ∈ ws, i ∈ vs) → L2.wipe (L2.wipe σ vs) ws = L2.wipe σ vs
  | [], _ => rfl
  | w :: ws, h => by
    show (L2.wipe (L2.wipe σ vs) ws).set w none = L2.wipe σ vs
    rw [wipe_sub fun i hi => h i (List.mem_cons_of_mem _ hi), wipe_setm (h w List.mem_cons_self)]
theorem wipe_wipe (σ : L2.St) (vs : List Nat) : L2.wipe (L2.wipe σ vs) vs = L2.wipe σ vs := wipe_sub fun _ h => h
/-- a new thing that no slot has is changed -/
theorem Stp.mutNew {F0 H0 F H : Hp} {ω0 ω : Om} {A : Addr} {u : HO} (p : Stp F0 H0 ω0 F H ω) (hA : H0 A = none) : Stp F0 H0 ω0 F (upd H A u) ω :=
  ⟨p.sf, fun b o h1 h2 => by rw [upd_ne (ne_of_none h2 hA)]; exact p.fr b o h1 h2, p.om, p.fn, fun b h => by
    by_cases hb : b = A
    · rw [hb]
      exact hA
    · rw [upd_ne hb] at h
      exact p.tr b h, p.bk⟩
theorem Sta.mutFree {F H : Hp} {ω : Om} {s : Sl} {σ : L2.St} {A : Addr} {u : HO} (T : Sta K F H ω s σ) (h1 : ω A = none) (h2 : F A = none) : Sta K F (upd H A u) ω s σ := by
  refine ⟨fun b o h => ?_, fun b p h => ?_, fun i x h => ?_, T.len⟩
  · rw [upd_ne (fun z => by rw [z, h2] at h; cases h)]
    exact T.sf b o h
  · rw [upd_ne (fun z => by rw [z, h1] at h; cases h)]
    exact T.ow b p h
  · obtain ⟨v, hv, r⟩ := T.at' i x h
    refine ⟨v, hv, ?_⟩
    cases x with
    | fr d => exact r
    | ow b o =>
      obtain ⟨l, rfl, h6, h7⟩ := r
      exact ⟨l, rfl, h6, h7.heap fun w hw => by
        rw [upd_ne (fun z => by rw [z, h1] at h6; cases h6)]
        exact hw⟩
instance {wi : TI} {g : TG} {tt : TT} {te : TE} {vs : List Nat} {pi : PI1} {pg : PG1} {ss : List Nat} {pt : PT1} {pe : PD} [LiftI K wi pi] [LiftG K g pg ss] [LiftT K tt pt] [LiftD K te pe] : LiftE K (tLc wi g tt te vs) (pLc pi pg ss pt pe vs) := ⟨fun {F H ω s σ Q} kk T h k => by
  refine LiftI.run (K := K) (t := wi) (p := pi) _ T h fun J F1 H1 ω1 ds s1 p1 T1 w1 h1 => ?_
  split at h1
  rotate_left
  · exact h1.elim
  rename_i hss
  have hss' : ∀ i ∈ ss, i ∈ vs := fun i hi => by simpa using List.all_eq_true.mp hss i hi
  obtain ⟨hlen, I, i0, istep, iend⟩ := h1
  obtain ⟨G, Y, W, hG, hY⟩ := w1
  intro A hA
  have e0 : Ext F1 H1 F1 (upd H1 A (.lst [])) := Ext.ow T1.sf hA _
  obtain ⟨p2, T2⟩ := e0.stp T1
  have kk' : ∀ {F2 : Hp} {ω2 : Om} {s2 : Sl} {acc : List D} {ws : List V} {H' : Hp}, Sta K F2 H' ω2 s2 σ → I ds.length acc s2 → Stp F1 H1 ω1 F2 H' ω2 → ω2 A = none → F2 A = none → H' A = some (.lst ws) → RpA K F2 acc ws → Q (.ref A) H' :=
    fun {F2 ω2 s2 acc ws H'} T4 hI p3 a1 a2 a3 a4 => k _ F2 H' ω2 (.ow false (.lst acc)) s2 (p1.trans p3) T4 ⟨A, rfl, p1.tr A hA, a1, a2, ws, a3, a4⟩ (iend acc s2 hI)
  -- the invariant: a state of the slots without the block's names, the new list at A
  refine lc_it W (fun i H' => ∃ F2 ω2 s2 acc ws, Stp F1 H1 ω1 F2 H' ω2 ∧ Sta K F2 H' ω2 s2 (L2.wipe σ vs) ∧ ω2 A = none ∧ F2 A = none ∧ H' A = some (.lst ws) ∧ RpA K F2 acc ws ∧ acc.length ≤ i ∧ I i acc s2) ?_ ?_ ?_ ?_
  · exact ⟨F1, ω1, wipeS s1 vs, [], [], p2, T2.wipe vs, T1.free hA, T1.sf.free hA, upd_same, rfl, Nat.le_refl _, i0⟩
  · rintro i H' hi ⟨F2, ω2, s2, acc, ws, p3, T3, _⟩
    exact hG H' (p3.sf.trans T3.sf)
  · rintro i x H' H'' hi ⟨F2, ω2, s2, acc, ws, p3, T3, a1, a2, a3, a4, a5, hI⟩ y
    have hd : ds[i]? = some ds[i] := List.getElem?_eq_getElem hi
    obtain ⟨F3, e3, r3⟩ := hY i H' x H'' F2 _ hd p3.sf T3.sf y
    obtain ⟨p4, T4⟩ := e3.stp T3
    refine LiftG.run (K := K) (g := g) (p := pg) (ss := ss) _ T4 r3 (istep i _ acc s2 hd hI) fun σ5 s5 T5 w5 h5 => ?_
    have hw5 : L2.wipe σ5 vs = L2.wipe σ vs := by rw [w5 vs hss']; exact wipe_wipe σ vs
    refine ⟨hw5, ?_⟩
    have pp := p3.trans p4
    refine LiftT.run (K := K) (t := tt) (p := pt) _ _ T5 h5 fun b F6 H6 ω6 s6 p6 T6 h6 => ?_
    have b1 : H'' A = some (.lst ws) := e3.sh _ _ a3
    have b2 : F3 A = none := e3.fn _ _ a3 a2
    have c1 := p6.fr A _ a1 b1
    have c2 := p6.fn A _ a1 b1 b2
    have c3 := p6.om A _ a1 b1
    cases b with
    | false =>
      refine iteF ⟨F6, ω6, wipeS s6 vs, acc, ws, pp.trans p6, ?_, c3, c2, c1, a4.mono (e3.sf.trans p6.sf), by omega, by simpa using h6⟩
      have T7 := T6.wipe vs
      rw [hw5] at T7
      exact T7
    | true =>
      refine iteT (LiftD.run (K := K) (t := te) (p := pe) _ T6 (by simpa using h6) fun v F7 H7 ω7 d s7 p7 T7 r7 h7 => ?_)
      have d1 := p7.fr A _ c3 c1
      have d2 := p7.fn A _ c3 c1 c2
      have d3 := p7.om A _ c3 c1
      have hlA : ws.length = acc.length := a4.len.symm
      have T8 := T7.wipe vs
      rw [hw5] at T8
      exact ⟨ws, d1, Nat.lt_of_le_of_lt (show ws.length ≤ 100000 by omega) (by decide), F7, ω7, wipeS s7 vs, acc ++ [d], ws ++ [v], ((pp.trans p6).trans p7).mutNew hA, T8.mutFree d3 d2, d3, d2, upd_same,
        ((a4.mono ((e3.sf.trans p6.sf).trans p7.sf)).snoc r7), by rw [List.length_append]; simp; omega, h7⟩
  · rintro H' ⟨F2, ω2, s2, acc, ws, p3, T3, a1, a2, a3, a4, a5, hI⟩
    exact kk' ⟨T3.sf, T3.ow, fun i x h => (T3.at' i x h).elim fun v hv => ⟨v, (wipe_some hv.1).1, hv.2⟩, by rw [T3.len, wipe_length]⟩ hI p3 a1 a2 a3 a4⟩
end
/-! ### statements -/
structure PEnds where
  nx : Sl → Prop
  rt : S → Sl → Prop
  bk : Sl → Prop := fun _ => False
  ct : Sl → Prop := fun _ => False
abbrev PS1 := PEnds → Sl → Prop
structure Meets (K : PySem.W.Frag) (H0 F H : Hp) (ω : Om) (E : PEnds) (D : Ends) : Prop where
  nx : ∀ {σ' F' H' ω' s'}, Stp F H ω F' H' ω' → Sta K F' H' ω' s' σ' → E.nx s' → D.nx σ' H'
  rt : ∀ {v σ' F' H' ω' x s'}, Stp F H ω F' H' ω' → Sta K F' H' ω' s' σ' → Rt K H0 F' H' ω' x v → E.rt x s' → D.rt v H'
  bk : ∀ {σ' F' H' ω' s'}, Stp F H ω F' H' ω' → Sta K F' H' ω' s' σ' → E.bk s' → D.bk σ' H'
  ct : ∀ {σ' F' H' ω' s'}, Stp F H ω F' H' ω' → Sta K F' H' ω' s' σ' → E.ct s' → D.ct σ' H'
  up : ∀ b, H b = none → H0 b = none
  yg : ∀ b j, ω b = some (j, false) → H0 b = none
theorem Meets.old {K : PySem.W.Frag} {H0 F H F1 H1 : Hp} {ω ω1 : Om} {E : PEnds} {D : Ends} (M : Meets K H0 F H ω E D) (p : Stp F H ω F1 H1 ω1) : (∀ b, H1 b = none → H0 b = none) ∧ ∀ b j, ω1 b = some (j, false) → H0 b = none := by
  refine ⟨fun b h => M.up b (p.tr b h), fun b j h => ?_⟩
  cases hw : ω b with
  | none =>
    cases hb : H b with
    | none => exact M.up b hb
    | some o =>
      rw [p.om b o hw hb] at h
      cases h
  | some w =>
    obtain ⟨j', c⟩ := w
    cases c with
    | false => exact M.yg b j' hw
    | true =>
      rw [(p.bk b j').mpr hw] at h
      cases h
theorem Meets.step {K : PySem.W.Frag} {H0 F H F1 H1 : Hp} {ω ω1 : Om} {E : PEnds} {D : Ends} (M : Meets K H0 F H ω E D) (p : Stp F H ω F1 H1 ω1) : Meets K H0 F1 H1 ω1 E D :=
  ⟨fun q T h => M.nx (p.trans q) T h, fun q T r h => M.rt (p.trans q) T r h, fun q T h => M.bk (p.trans q) T h, fun q T h => M.ct (p.trans q) T h, (M.old p).1, (M.old p).2⟩
/-- the same for other ends -/
theorem Meets.ends {K : PySem.W.Frag} {H0 F H : Hp} {ω : Om} {E E' : PEnds} {D D' : Ends} (M : Meets K H0 F H ω E D) (hrE : E'.rt = E.rt) (hrD : D'.rt = D.rt)
    (nx : ∀ {σ' F' H' ω' s'}, Stp F H ω F' H' ω' → Sta K F' H' ω' s' σ' → E'.nx s' → D'.nx σ' H') (bk : ∀ {σ' F' H' ω' s'}, Stp F H ω F' H' ω' → Sta K F' H' ω' s' σ' → E'.bk s' → D'.bk σ' H')
    (ct : ∀ {σ' F' H' ω' s'}, Stp F H ω F' H' ω' → Sta K F' H' ω' s' σ' → E'.ct s' → D'.ct σ' H') : Meets K H0 F H ω E' D' :=
  ⟨nx, fun q T r h => by rw [hrD]; exact M.rt q T r (by rw [← hrE]; exact h), bk, ct, M.up, M.yg⟩
class LiftS (K : PySem.W.Frag) (t : TS) (p : outParam PS1) : Prop where
  run : ∀ {H0 F H : Hp} {ω : Om} {s : Sl} {σ : L2.St} {D : Ends} (E : PEnds), Sta K F H ω s σ → p E s → Meets K H0 F H ω E D → t D σ H
section
variable {K : PySem.W.Frag}
def psSeq (p q : PS1) : PS1 := fun E s => p { E with nx := q E } s
def psCut (p q : PS1) : PS1 := fun E s => ∃ Mid : Sl → Prop, p { E with nx := Mid } s ∧ ∀ s', Mid s' → q E s'
theorem psSeq_run {t u : TS} {p q : PS1} [LiftS K t p] [LiftS K u q] {H0 F H : Hp} {ω : Om} {s : Sl} {σ : L2.St} {D : Ends} (E : PEnds) (T : Sta K F H ω s σ) (h : psSeq p q E s) (M : Meets K H0 F H ω E D) : t { D with nx := u D } σ H :=
  LiftS.run (K := K) (t := t) (p := p) _ T h (M.ends rfl rfl (fun {σ' F' H' ω' s'} p' T' h' => LiftS.run (K := K) (t := u) (p := q) E T' h' (M.step p')) M.bk M.ct)
instance {t u : TS} {p q : PS1} [LiftS K t p] [LiftS K u q] : LiftS K (tSeq t u) (psSeq p q) := ⟨fun E T h M => psSeq_run (t := t) (u := u) (p := p) (q := q) E T h M⟩
instance {t u : TS} {p q : PS1} [LiftS K t p] [LiftS K u q] : LiftS K (C8.tCut t u) (psCut p q) := ⟨fun {H0 F H ω s σ D} E T h M => by
  obtain ⟨Mid, h1, h2⟩ := h
  refine ⟨fun σ' H' => ∃ F' ω' s', Stp F H ω F' H' ω' ∧ Sta K F' H' ω' s' σ' ∧ Mid s', ?_, fun σ' H' hm => ?_⟩
  · exact LiftS.run (K := K) (t := t) (p := p) _ T h1 (M.ends rfl rfl (fun {σ' F' H' ω' s'} p' T' h' => ⟨F', ω', s', p', T', h'⟩) M.bk M.ct)
  · obtain ⟨F', ω', s', p', T', hm⟩ := hm
    exact LiftS.run (K := K) (t := u) (p := q) E T' (h2 s' hm) (M.step p')⟩
instance : LiftS K tNext (fun E s => E.nx s) := ⟨fun E T h M => M.nx (Stp.refl _ _ _) T h⟩
instance : LiftS K tBreak (fun E s => E.bk s) := ⟨fun E T h M => M.bk (Stp.refl _ _ _) T h⟩
instance : LiftS K tCont (fun E s => E.ct s) := ⟨fun E T h M => M.ct (Stp.refl _ _ _) T h⟩
instance : LiftS K tNever (fun _ _ => False) := ⟨fun E T h M => h.elim⟩
def psDrop (p : PX) : PS1 := fun E s => p s fun _ s1 => E.nx s1
instance {t : TE} {p : PX} [LiftE K t p] : LiftS K (tDrop t) (psDrop p) := ⟨fun E T h M =>
  LiftE.run (K := K) (t := t) (p := p) _ T h fun v F' H' ω' x s' p' T' r hq => M.nx p' T' hq⟩
def psRet (p : PX) : PS1 := fun E s => p s E.rt
instance {t : TE} {p : PX} [LiftE K t p] : LiftS K (tRet t) (psRet p) := ⟨fun E T h M =>
  LiftE.run (K := K) (t := t) (p := p) _ T h fun v F' H' ω' x s' p' T' r hq => M.rt p' T' (r.early M.up) hq⟩
instance : LiftS K tRetN (fun E s => E.rt (.fr .non) s) := ⟨fun E T h M => M.rt (Stp.refl _ _ _) T (x := .fr .non) rfl h⟩
/-- what is returned as it stands: an object of its own is handed out -/
def psRetV (i : Nat) : PS1 := fun E s => match s[i]? with
  | some (some (.ow false o)) => E.rt (.ow false o) (s.set i none) ∨ psRet (pVar i) E s
  | _ => psRet (pVar i) E s
/-- a name's own object is let go -/
theorem Sta.letgo {F H : Hp} {ω : Om} {s : Sl} {σ : L2.St} {i : Nat} {o : O} (T : Sta K F H ω s σ) (hi : s[i]? = some (some (.ow false o))) :
    ∃ l ω', σ[i]? = some (some (.ref l)) ∧ ω l = some (i, false) ∧ Stp F H ω F H ω' ∧ Sta K F H ω' (s.set i none) σ ∧ ω' l = none ∧ F l = none ∧ ObjR K F H l o := by
  obtain ⟨v, hv, l, rfl, hl, ho⟩ := T.at' i _ hi
  have hF := (T.ow l _ hl).1
  refine ⟨l, fun b => if b = l then none else ω b, hv, hl, ⟨Same.refl F, fun _ _ _ h => h, fun b o h _ => ?_, fun _ _ _ _ h => h, fun _ h => h, fun b j => ?_⟩, ⟨T.sf, fun b q hq => ?_, fun j x h => ?_, by rw [List.length_set]; exact T.len⟩, if_pos rfl, hF, ho⟩
  · show (if b = l then none else ω b) = none
    split
    · rfl
    · exact h
  · show (if b = l then none else ω b) = some (j, true) ↔ _
    split
    · rename_i hb
      subst hb
      rw [hl]
      constructor
      · intro h; cases h
      · intro h; cases h
    · exact Iff.rfl
  · have hq' : (if b = l then none else ω b) = some q := hq
    split at hq'
    · cases hq'
    · exact T.ow b q hq'
  · rw [List.getElem?_set] at h
    split at h
    · split at h
      · cases h
      · cases h
    · rename_i hij
      obtain ⟨v, h4, h5⟩ := T.at' j x h
      refine ⟨v, h4, ?_⟩
      cases x with
      | fr d => exact h5
      | ow b o =>
        obtain ⟨l', rfl, h6, h7⟩ := h5
        refine ⟨l', rfl, ?_, h7⟩
        show (if l' = l then none else ω l') = _
        rw [if_neg (fun z => by rw [z, hl] at h6; cases h6; exact hij rfl)]
        exact h6
instance (priority := high) (i : Nat) : LiftS K (tRet (tVar i)) (psRetV i) := ⟨fun {H0 F H ω s σ D} E T h M => by
  unfold psRetV at h
  split at h
  · rename_i o e
    rcases h with h | h
    · obtain ⟨l, ω', hv, hl, p, T', h1, h2, ho⟩ := T.letgo e
      exact ⟨_, hv, M.rt p T' (x := .ow false o) ⟨l, rfl, M.yg l i hl, h1, h2, ho⟩ h⟩
    · exact LiftS.run (K := K) (t := tRet (tVar i)) (p := psRet (pVar i)) E T h M
  · exact LiftS.run (K := K) (t := tRet (tVar i)) (p := psRet (pVar i)) E T h M⟩
def psIf (c : PT1) (p q : PS1) : PS1 := fun E s => c s (fun s1 => p E s1) (fun s1 => q E s1)
instance {c : TT} {t u : TS} {pc : PT1} {p q : PS1} [LiftT K c pc] [LiftS K t p] [LiftS K u q] : LiftS K (tIfS c t u) (psIf pc p q) := ⟨fun E T h M => by
  refine LiftT.run (K := K) (t := c) (p := pc) _ _ T h fun b F1 H1 ω1 s1 p1 T1 h1 => ?_
  cases b with
  | true => exact iteT (LiftS.run (K := K) (t := t) (p := p) E T1 (by simpa using h1) (M.step p1))
  | false => exact iteF (LiftS.run (K := K) (t := u) (p := q) E T1 (by simpa using h1) (M.step p1))⟩
/-! assignments -/
def setS (i : Nat) (x : S) (s : Sl) : Sl := match x with
  | .fr d => s.set i (some (.fr d))
  | .ow _ o => s.set i (some (.ow false o))
def psSet (i : Nat) (p : PX) : PS1 := fun E s => p s fun x s1 => E.nx (setS i x s1)
instance (priority := high) {t : TE} {p : PX} {i : Nat} [LiftE K t p] : LiftS K (tAsg t (gName i)) (psSet i p) := ⟨fun E T h M => by
  refine LiftE.run (K := K) (t := t) (p := p) _ T h fun v F' H' ω' x s' p' T' r hq => ?_
  cases x with
  | fr d => exact M.nx p' (T'.set i r) hq
  | ow b o =>
    obtain ⟨ω2, p2, T2⟩ := Sta.setO p' T' i r
    exact M.nx p2 T2 hq⟩
def psAsg (p : PD) (pg : PG1) : PS1 := fun E s => p s fun d s1 => pg d s1 E.nx
instance {t : TE} {p : PD} {g : TG} {pg : PG1} {ss : List Nat} [LiftD K t p] [LiftG K g pg ss] : LiftS K (tAsg t g) (psAsg p pg) := ⟨fun E T h M => by
  refine LiftD.run (K := K) (t := t) (p := p) _ T h fun v F' H' ω' d s' p' T' r hq => ?_
  exact LiftG.run (K := K) (g := g) (p := pg) (ss := ss) _ T' r hq fun σ2 s2 T2 _ h2 => M.nx p' T2 h2⟩
def psPar (i j : Nat) (p : PA1) : PS1 := fun E s => p s fun ds s1 => match ds with
  | [d, e] => E.nx ((s1.set i (some (.fr d))).set j (some (.fr e)))
  | _ => False
instance {i j : Nat} {t : TA} {p : PA1} [LiftA K t p] : LiftS K (tPar i j t) (psPar i j p) := ⟨fun E T h M => by
  refine LiftA.run (K := K) (t := t) (p := p) _ T h fun vs F' H' ω' ds s' p' T' r hq => ?_
  split at hq
  · obtain ⟨v, w, rfl, r1, r2⟩ := r.two
    exact ⟨v, w, rfl, M.nx p' ((T'.set i r1).set j r2) hq⟩
  · exact hq.elim⟩
def psAug (i : Nat) (f : Int → Int → Int) (p : PD) : PS1 := fun E s => match s[i]? with
  | some (some (.fr (.int a))) => p s fun d s1 => match d with
    | .int b => E.nx (s1.set i (some (.fr (.int (f a b)))))
    | _ => False
  | _ => False
instance {i : Nat} {f : Int → Int → Int} {t : TE} {p : PD} [LiftD K t p] : LiftS K (tAug i t (ipI f)) (psAug i f p) := ⟨fun E T h M => by
  unfold psAug at h
  split at h
  · rename_i a e
    obtain ⟨v, hv, r⟩ := T.get e
    cases (show v = _ from r)
    refine ⟨_, hv, LiftD.run (K := K) (t := t) (p := p) _ T h fun v F' H' ω' d s' p' T' r hq => ?_⟩
    split at hq
    · rename_i b
      exact ⟨_, _, rfl, r, M.nx p' (T'.set i (d := .int (f a b)) rfl) hq⟩
    · exact hq.elim
  · exact h.elim⟩
/-! loops -/
def psFor (pi : PI1) (pg : PG1) (pb : PS1) : PS1 := fun E s => pi s fun ds s1 => ∃ I : Nat → Sl → Prop, I 0 s1 ∧
  (∀ i d s2, ds[i]? = some d → I i s2 → pg d s2 fun s3 => pb { E with nx := I (i + 1), ct := I (i + 1), bk := E.nx } s3) ∧ ∀ s2, I ds.length s2 → E.nx s2
instance {wi : TI} {g : TG} {tb : TS} {pi : PI1} {pg : PG1} {ss : List Nat} {pb : PS1} [LiftI K wi pi] [LiftG K g pg ss] [LiftS K tb pb] : LiftS K (tFor wi g tb) (psFor pi pg pb) := ⟨fun {H0 F H ω s σ D} E T h M => by
  refine LiftI.run (K := K) (t := wi) (p := pi) _ T h fun J F1 H1 ω1 ds s1 p1 T1 w1 h1 => ?_
  obtain ⟨I, i0, istep, iend⟩ := h1
  obtain ⟨G, Y, W, hG, hY⟩ := w1
  refine for_it W (fun i σ' H' => ∃ F2 ω2 s2, Stp F1 H1 ω1 F2 H' ω2 ∧ Sta K F2 H' ω2 s2 σ' ∧ I i s2) ⟨F1, ω1, s1, Stp.refl _ _ _, T1, i0⟩ ?_ ?_ ?_
  · rintro i σ' H' hi ⟨F2, ω2, s2, p3, T3, _⟩
    exact hG H' (p3.sf.trans T3.sf)
  · rintro i x σ' H' H'' hi ⟨F2, ω2, s2, p3, T3, hI⟩ y
    have hd : ds[i]? = some ds[i] := List.getElem?_eq_getElem hi
    obtain ⟨F3, e3, r3⟩ := hY i H' x H'' F2 _ hd p3.sf T3.sf y
    obtain ⟨p4, T4⟩ := e3.stp T3
    refine LiftG.run (K := K) (g := g) (p := pg) (ss := ss) _ T4 r3 (istep i _ s2 hd hI) fun σ5 s5 T5 w5 h5 => ?_
    have pp := p3.trans p4
    have M1 := M.step (p1.trans pp)
    exact LiftS.run (K := K) (t := tb) (p := pb) _ T5 h5 (M1.ends rfl rfl (fun {σ' F' H' ω' s'} p' T' h' => ⟨F', ω', s', pp.trans p', T', h'⟩)
      M1.nx (fun {σ' F' H' ω' s'} p' T' h' => ⟨F', ω', s', pp.trans p', T', h'⟩))
  · rintro σ' H' ⟨F2, ω2, s2, p3, T3, hI⟩
    exact M.nx (p1.trans p3) T3 (iend s2 hI)⟩
def psWhile (c : PT1) (pb : PS1) : PS1 := fun E s => ∃ I : Nat → Sl → Prop, (∃ m, I m s) ∧
  ∀ m s1, I m s1 → c s1 (fun s2 => pb { E with nx := fun s3 => ∃ m', m' < m ∧ I m' s3, ct := fun s3 => ∃ m', m' < m ∧ I m' s3, bk := E.nx } s2) (fun s2 => E.nx s2)
instance {c : TT} {tb : TS} {pc : PT1} {pb : PS1} [LiftT K c pc] [LiftS K tb pb] : LiftS K (tWhile c tb) (psWhile pc pb) := ⟨fun {H0 F H ω s σ D} E T h M => by
  obtain ⟨I, ⟨m0, i0⟩, istep⟩ := h
  refine ⟨fun m σ' H' => ∃ F2 ω2 s2, Stp F H ω F2 H' ω2 ∧ Sta K F2 H' ω2 s2 σ' ∧ I m s2, ⟨m0, F, ω, s, Stp.refl _ _ _, T, i0⟩, ?_⟩
  rintro m σ' H' ⟨F2, ω2, s2, p3, T3, hI⟩
  refine LiftT.run (K := K) (t := c) (p := pc) _ _ T3 (istep m s2 hI) fun b F4 H4 ω4 s4 p4 T4 h4 => ?_
  have pp := p3.trans p4
  have M1 := M.step pp
  cases b with
  | false => exact iteF (M.nx pp T4 (by simpa using h4))
  | true =>
    rw [if_pos rfl] at h4
    refine iteT ⟨fun σ' H' => ∃ m', m' < m ∧ ∃ F2 ω2 s2, Stp F H ω F2 H' ω2 ∧ Sta K F2 H' ω2 s2 σ' ∧ I m' s2, fun σ' H' hh => hh, ?_⟩
    exact LiftS.run (K := K) (t := tb) (p := pb) _ T4 h4 (M1.ends rfl rfl (fun {σ' F' H' ω' s'} p' T' h' => let ⟨m', hm, hi⟩ := h'; ⟨m', hm, F', ω', s', pp.trans p', T', hi⟩)
      M1.nx (fun {σ' F' H' ω' s'} p' T' h' => let ⟨m', hm, hi⟩ := h'; ⟨m', hm, F', ω', s', pp.trans p', T', hi⟩))⟩
/-! ### a name's own list is changed -/
class MuL (K : PySem.W.Frag) (r : V → List V → Hp → VK → Prop) (g : outParam (List D → List D → (D → List D → Prop) → Prop)) : Prop where
  run : ∀ {F H : Hp} {l : Addr} {xs : List D} {ws vs : List V} {ds : List D} {Q : VK} (q : D → List D → Prop), Same F H → F l = none → H l = some (.lst ws) → RpA K F xs ws → RpA K F ds vs → g xs ds q →
    (∀ v us d ys, Rp K F d v → RpA K F ys us → q d ys → Q v (upd H l (.lst us))) → r (.ref l) vs H Q
def pMu (i : Nat) (g : List D → List D → (D → List D → Prop) → Prop) (pa : PA1) : PX := fun s q => match s[i]? with
  | some (some (.ow _ (.lst _))) => pa s fun ds s1 => match s1[i]? with
    | some (some (.ow b (.lst xs))) => g xs ds fun d ys => q (.fr d) (s1.set i (some (.ow b (.lst ys))))
    | _ => False
  | _ => False
theorem mu_run {r : V → List V → Hp → VK → Prop} {g : List D → List D → (D → List D → Prop) → Prop} [MuL K r g] {i : Nat} {F H : Hp} {ω : Om} {s : Sl} {σ : L2.St} {v0 : V} {vs : List V} {ds : List D} {b : Bool} {xs : List D} {Q : VK} {q : S → Sl → Prop} (T : Sta K F H ω s σ) (hv : σ[i]? = some (some v0))
    (hs : s[i]? = some (some (.ow b (.lst xs)))) (r1 : RpA K F ds vs) (h : g xs ds fun d ys => q (.fr d) (s.set i (some (.ow b (.lst ys)))))
    (k : ∀ v F' H' ω' x s', Stp F H ω F' H' ω' → Sta K F' H' ω' s' σ → Rt K H F' H' ω' x v → q x s' → Q v H') : r v0 vs H Q := by
  obtain ⟨v, hv', l, rfl, hl, ws, h1, h2⟩ := T.at' i _ hs
  rw [hv] at hv'
  cases hv'
  refine MuL.run (K := K) (r := r) (g := g) _ T.sf (T.ow l _ hl).1 h1 h2 r1 h fun v us d ys r2 r3 hq => ?_
  obtain ⟨p2, T2⟩ := T.mut (u := .lst us) hv hl (o' := .lst ys) ⟨us, upd_same, r3⟩
  exact k v F _ ω (.fr d) _ p2 T2 r2 hq
theorem own_ty {i : Nat} {F H : Hp} {ω : Om} {s : Sl} {σ : L2.St} {b : Bool} {xs : List D} (T : Sta K F H ω s σ) (hs : s[i]? = some (some (.ow b (.lst xs)))) : ∃ v, σ[i]? = some (some v) ∧ tyV K "list" v H := by
  obtain ⟨v, hv', l, rfl, hl, ws, h1, h2⟩ := T.at' i _ hs
  exact ⟨_, hv', .inl ⟨rfl, _, SqL.of h1⟩⟩
instance {r : V → List V → Hp → VK → Prop} {g : List D → List D → (D → List D → Prop) → Prop} {i : Nat} {t : TA} {pa : PA1} [MuL K r g] [LiftA K t pa] : LiftE K (tBM K "list" r (tVar i) t) (pMu i g pa) := ⟨fun {F H ω s σ Q} q T h k => by
  unfold pMu at h
  split at h
  · rename_i e
    obtain ⟨v0, hv0, ty⟩ := own_ty T e
    refine ⟨v0, hv0, ty, LiftA.run (K := K) (t := t) (p := pa) _ T h fun vs F1 H1 ω1 ds s1 p1 T1 r1 h1 => ?_⟩
    split at h1
    · rename_i b xs e1
      exact mu_run (r := r) (g := g) T1 hv0 e1 r1 h1 fun v F2 H2 ω2 x s2 p2 T2 r2 hq => k v F2 H2 ω2 x s2 (p1.trans p2) T2 (r2.early p1.tr) hq
    · exact h1.elim
  · exact h.elim⟩
def pMu0 (i : Nat) (g : List D → List D → (D → List D → Prop) → Prop) : PX := fun s q => match s[i]? with
  | some (some (.ow b (.lst xs))) => g xs [] fun d ys => q (.fr d) (s.set i (some (.ow b (.lst ys))))
  | _ => False
instance {r : V → List V → Hp → VK → Prop} {g : List D → List D → (D → List D → Prop) → Prop} {i : Nat} [MuL K r g] : LiftE K (tBM0 K "list" r (tVar i)) (pMu0 i g) := ⟨fun {F H ω s σ Q} q T h k => by
  unfold pMu0 at h
  split at h
  · rename_i b xs e
    obtain ⟨v0, hv0, ty⟩ := own_ty T e
    exact ⟨v0, hv0, ty, mu_run (r := r) (g := g) (vs := []) (ds := []) T hv0 e rfl h k⟩
  · exact h.elim⟩
instance : MuL K rAppend (fun xs ds q => match ds with
    | [d] => xs.length < 1000000 ∧ q .non (xs ++ [d])
    | _ => False) := ⟨fun {F H l xs ws vs ds Q} q hs hF hl hx hd h k => by
  split at h
  · obtain ⟨v, rfl, r⟩ := hd.one
    exact ⟨l, ws, v, rfl, rfl, hl, by rw [← hx.len]; exact Nat.lt_trans h.1 (by decide), k _ _ .non _ rfl (hx.snoc r) h.2⟩
  · exact h.elim⟩
instance : MuL K rExtend (fun xs ds q => match ds with
    | [.lst ys] => xs.length + ys.length ≤ 1000000 ∧ q .non (xs ++ ys)
    | _ => False) := ⟨fun {F H l xs ws vs ds Q} q hs hF hl hx hd h k => by
  split at h
  · obtain ⟨v, rfl, a, us, rfl, h1, h2⟩ := hd.one
    exact ⟨l, a, ws, us, rfl, rfl, hl, hs _ _ h1, by rw [← hx.len, ← h2.len]; exact Nat.le_trans h.1 (by decide), k _ _ .non _ rfl (hx.app h2) h.2⟩
  · exact h.elim⟩
instance : MuL K rPop (fun xs ds q => match ds with
    | [] => match xs[xs.length - 1]? with
      | some d => q d xs.dropLast
      | none => False
    | _ => False) := ⟨fun {F H l xs ws vs ds Q} q hs hF hl hx hd h k => by
  split at h
  · split at h
    · rename_i d e
      cases (show vs = [] from hd)
      obtain ⟨v, hv, r⟩ := hx.get e
      rw [hx.len] at hv
      exact ⟨l, ws, v, rfl, rfl, hl, hv, k v _ d _ r hx.dropLast h⟩
    · exact h.elim
  · exact h.elim⟩
instance : MuL K rPopAt (fun xs ds q => match ds with
    | [.int i] => (0 ≤ i ∧ i < 2 ^ 63 ∧ i.toNat < xs.length) ∧ match xs[i.toNat]? with
      | some d => q d (xs.eraseIdx i.toNat)
      | none => False
    | _ => False) := ⟨fun {F H l xs ws vs ds Q} q hs hF hl hx hd h k => by
  split at h
  · rename_i i
    obtain ⟨⟨h1, h2, h3⟩, h⟩ := h
    split at h
    · rename_i d e
      obtain ⟨v, rfl, r⟩ := hd.one
      cases (show v = _ from r)
      obtain ⟨v, hv, r⟩ := hx.get e
      refine ⟨l, ws, i, i.toNat, v, rfl, rfl, hl, by omega, h2, ?_, hv, k v _ d _ r (hx.erase _) h⟩
      rw [← hx.len]
      unfold seqIndex?
      simp
      omega
    · exact h.elim
  · exact h.elim⟩
instance : MuL K rReverse (fun xs ds q => match ds with
    | [] => q .non xs.reverse
    | _ => False) := ⟨fun {F H l xs ws vs ds Q} q hs hF hl hx hd h k => by
  split at h
  · cases (show vs = [] from hd)
    exact ⟨l, ws, rfl, rfl, hl, k _ _ .non _ rfl hx.rev h⟩
  · exact h.elim⟩
/-- xs[i] = e -/
def psSub (i : Nat) (pv : PD) (pi : PD) : PS1 := fun E s => pv s fun d s1 => match s1[i]? with
  | some (some (.ow _ (.lst _))) => pi s1 fun e s2 => match e, s2[i]? with
    | .int k, some (some (.ow b (.lst xs))) => match ixN xs.length k with
      | some j => E.nx (s2.set i (some (.ow b (.lst (xs.set j d)))))
      | none => False
    | _, _ => False
  | _ => False
instance (priority := high) {i : Nat} {te ti : TE} {pv pi : PD} [LiftD K te pv] [LiftD K ti pi] : LiftS K (tAsg te (gSub (tVar i) ti rSetL)) (psSub i pv pi) := ⟨fun E T h M => by
  refine LiftD.run (K := K) (t := te) (p := pv) _ T h fun v F1 H1 ω1 d s1 p1 T1 r1 h1 => ?_
  split at h1
  · rename_i e0
    obtain ⟨v0, hv0, _⟩ := own_ty T1 e0
    refine ⟨v0, hv0, LiftD.run (K := K) (t := ti) (p := pi) _ T1 h1 fun w F2 H2 ω2 e s2 p2 T2 r2 h2 => ?_⟩
    split at h2
    · rename_i k b xs e1
      split at h2
      · rename_i j ej
        obtain ⟨v, hv', l, rfl, hl, ws, q1, q2⟩ := T2.at' i _ e1
        rw [hv0] at hv'
        cases hv'
        cases (show w = _ from r2)
        refine ⟨l, ws, k, j, rfl, rfl, q1, by rw [← q2.len]; exact ej, ?_⟩
        obtain ⟨p3, T3⟩ := T2.mut (u := .lst (ws.set j v)) hv0 hl (o' := .lst (xs.set j d)) ⟨_, upd_same, q2.set j (r1.mono p2.sf)⟩
        exact M.nx ((p1.trans p2).trans p3) T3 h2
      · exact h2.elim
    · exact h2.elim
  · exact h1.elim⟩
/-! reading from a name's own list without giving it away -/
def pIxV (i : Nat) (pi : PD) : PX := fun s q => match s[i]? with
  | some (some (.ow _ (.lst _))) => pi s fun e s1 => match e, s1[i]? with
    | .int k, some (some (.ow _ (.lst xs))) => match atI xs k with
      | some d => q (.fr d) s1
      | none => False
    | _, _ => False
  | _ => pOp gIxL (pDat (pVar i)) pi s q
instance (priority := high) {i : Nat} {ti : TE} {pi : PD} [LiftD K ti pi] : LiftE K (tOp (rIxL K) (tVar i) ti) (pIxV i pi) := ⟨fun {F H ω s σ Q} q T h k => by
  unfold pIxV at h
  split at h
  · rename_i e0
    obtain ⟨v0, hv0, _⟩ := own_ty T e0
    refine ⟨v0, hv0, LiftD.run (K := K) (t := ti) (p := pi) _ T h fun w F2 H2 ω2 e s2 p2 T2 r2 h2 => ?_⟩
    split at h2
    · rename_i kk b xs e1
      split at h2
      · rename_i d ed
        obtain ⟨v, hv', l, rfl, hl, ws, q1, q2⟩ := T2.at' i _ e1
        rw [hv0] at hv'
        cases hv'
        cases (show w = _ from r2)
        obtain ⟨v, hv, r⟩ := q2.atI ed
        exact ⟨l, ws, kk, v, rfl, rfl, SqL.of q1, hv, k v F2 H2 ω2 (.fr d) s2 p2 T2 r h2⟩
      · exact h2.elim
    · exact h2.elim
  · exact LiftE.run (K := K) (t := tOp (rIxL K) (tVar i) ti) (p := pOp gIxL (pDat (pVar i)) pi) q T h k⟩
def pLenV (i : Nat) : PX := fun s q => match s[i]? with
  | some (some (.ow _ (.lst xs))) => q (.fr (.int xs.length)) s
  | _ => pCB gLen (pCons (pDat (pVar i)) (fun s q => q [] s)) s q
instance (priority := high) {i : Nat} : LiftE K (tCB (rLenQ K) (tCons (tVar i) tNil)) (pLenV i) := ⟨fun {F H ω s σ Q} q T h k => by
  unfold pLenV at h
  split at h
  · rename_i b xs e
    obtain ⟨v, hv', l, rfl, hl, ws, q1, q2⟩ := T.at' i _ e
    refine ⟨_, hv', l, ws, rfl, .inl (SqL.of q1), ?_⟩
    rw [← q2.len]
    exact k _ F H ω (.fr (.int _)) s (Stp.refl _ _ _) T rfl h
  · exact LiftE.run (K := K) (t := tCB (rLenQ K) (tCons (tVar i) tNil)) (p := pCB gLen (pCons (pDat (pVar i)) (fun s q => q [] s))) q T h k⟩
instance (priority := high) {i : Nat} : LiftE K (tCB (fun xs H Q => ∃ p ys, xs = [.ref p] ∧ (SqL K H p ys ∨ SqT K H p ys) ∧ Q (.int ys.length) H) (tCons (tVar i) tNil)) (pLenV i) :=
  ⟨fun {F H ω s σ Q} q T h k => LiftE.run (K := K) (t := tCB (rLenQ K) (tCons (tVar i) tNil)) (p := pLenV i) q T h k⟩
/-- a copy of it -/
def pCopyV (i : Nat) : PX := fun s q => match s[i]? with
  | some (some (.ow _ (.lst xs))) => q (.ow false (.lst xs)) s
  | _ => pCB gListOf (pCons (pDat (pVar i)) (fun s q => q [] s)) s q
instance (priority := high) {i : Nat} : LiftE K (tCB (fun xs H Q => ∃ p ys, xs = [.ref p] ∧ (SqL K H p ys ∨ SqT K H p ys) ∧ ∀ l, H l = none → Q (.ref l) (upd H l (.lst ys))) (tCons (tVar i) tNil)) (pCopyV i) := ⟨fun {F H ω s σ Q} q T h k => by
  unfold pCopyV at h
  split at h
  · rename_i b xs e
    obtain ⟨v, hv', l, rfl, hl, ws, q1, q2⟩ := T.at' i _ e
    refine ⟨_, hv', l, ws, rfl, .inl (SqL.of q1), fun p hp => ?_⟩
    refine Ext.lst (q := fun z => q z s) T.sf q2 h (fun v F' H' z e r hq => ?_) hp
    obtain ⟨p2, T2⟩ := e.stp T
    exact k v F' H' ω z s p2 T2 (Rn.rt (Stp.refl _ _ _) T r) hq
  · exact LiftE.run (K := K) (t := tCB _ (tCons (tVar i) tNil)) (p := pCB gListOf (pCons (pDat (pVar i)) (fun s q => q [] s))) q T h k⟩
/-- the sum of a name's own list -/
def pSumV (i : Nat) : PX := fun s q => match s[i]? with
  | some (some (.ow _ (.lst xs))) => ∃ ns : List Int, xs = ns.map D.int ∧ q (.fr (.int ns.sum)) s
  | _ => pCB gSum (pCons (pDat (pVar i)) (fun s q => q [] s)) s q
instance (priority := high) {i : Nat} : LiftE K (tCB (rSum K) (tCons (tVar i) tNil)) (pSumV i) := ⟨fun {F H ω s σ Q} q T h k => by
  unfold pSumV at h
  split at h
  · rename_i b xs e
    obtain ⟨ns, rfl, h⟩ := h
    obtain ⟨v, hv', l, rfl, hl, ws, q1, q2⟩ := T.at' i _ e
    cases RpA.intsV q2
    exact ⟨_, hv', l, ns, rfl, SqL.of q1, k _ F H ω (.fr (.int _)) s (Stp.refl _ _ _) T rfl h⟩
  · exact LiftE.run (K := K) (t := tCB (rSum K) (tCons (tVar i) tNil)) (p := pCB gSum (pCons (pDat (pVar i)) (fun s q => q [] s))) q T h k⟩
end
/-! ### defs: promises by data -/
/-- what a def promises: its arguments by data (an own object may be lent), its answer, the lent objects behind it -/
structure Psp where
  n : Nat
  run : List S → (S → List O → Prop) → Prop
/-- the lent objects at the end -/
def bors : List S → Sl → Option (List O)
  | [], _ => some []
  | .fr _ :: xs, _ :: s => bors xs s
  | .ow _ _ :: xs, some (.ow true o) :: s => (bors xs s).map (o :: ·)
  | _, _ => none
def lent : List S → Prop
  | [] => True
  | .fr _ :: xs => lent xs
  | .ow b _ :: xs => b = true ∧ lent xs
/-- what is known of the lent objects' addresses at the end -/
def BosR (K : PySem.W.Frag) (F H : Hp) : List S → List V → List O → Prop
  | [], _, os => os = []
  | .fr _ :: xs, vs, os => ∃ v ws, vs = v :: ws ∧ BosR K F H xs ws os
  | .ow _ _ :: xs, vs, os => ∃ l ws o os', vs = .ref l :: ws ∧ os = o :: os' ∧ ObjR K F H l o ∧ BosR K F H xs ws os'
def Lsp (K : PySem.W.Frag) (ps : Psp) : Sp := fun vs H Q _ => ∃ (F : Hp) (ω : Om) (xs : List S) (q : S → List O → Prop), Sta K F H ω (xs.map some) (vs.map some) ∧ lent xs ∧
  (∀ a b j, ω a = some (j, true) → ω b = some (j, true) → a = b) ∧ (∀ b j c, ω b = some (j, c) → c = true) ∧ xs.length = ps.n ∧ ps.run xs q ∧
  ∀ v F' H' ω' x os, Stp F H ω F' H' ω' → Same F' H' → (∀ b p, ω' b = some p → F' b = none) → BosR K F' H' xs vs os → Rt K H F' H' ω' x v → q x os → Q v H'
section
variable {K : PySem.W.Frag}
/-! a call -/
inductive Ar where
  | v (d : D) | b (i : Nat) | w (i : Nat)
def Ar.isB (i : Nat) : Ar → Bool
  | .b j => i == j
  | _ => false
def Ar.isW : Ar → Bool
  | .w _ => true
  | _ => false
def Ar.isL : Ar → Bool
  | .b _ => true
  | _ => false
def ArR (K : PySem.W.Frag) (F : Hp) (σ : L2.St) : List Ar → List V → Prop
  | [], vs => vs = []
  | .v d :: as, vs => ∃ v ws, vs = v :: ws ∧ Rp K F d v ∧ ArR K F σ as ws
  | .b i :: as, vs => ∃ v ws, vs = v :: ws ∧ σ[i]? = some (some v) ∧ ArR K F σ as ws
  | .w i :: as, vs => ∃ v ws, vs = v :: ws ∧ σ[i]? = some (some v) ∧ ArR K F σ as ws
theorem ArR.mono {F F' : Hp} {σ : L2.St} (e : Same F F') : ∀ {as : List Ar} {vs : List V}, ArR K F σ as vs → ArR K F' σ as vs
  | [], _, h => h
  | .v _ :: _, _, h => let ⟨v, ws, e1, h1, h2⟩ := h; ⟨v, ws, e1, h1.mono e, ArR.mono e h2⟩
  | .b _ :: _, _, h => let ⟨v, ws, e1, h1, h2⟩ := h; ⟨v, ws, e1, h1, ArR.mono e h2⟩
  | .w _ :: _, _, h => let ⟨v, ws, e1, h1, h2⟩ := h; ⟨v, ws, e1, h1, ArR.mono e h2⟩
abbrev PR1 := Sl → (List Ar → Sl → Prop) → Prop
class LiftR (K : PySem.W.Frag) (t : TA) (p : outParam PR1) : Prop where
  run : ∀ {F H : Hp} {ω : Om} {s : Sl} {σ : L2.St} {Q : List V → Hp → Prop} (q : List Ar → Sl → Prop), Sta K F H ω s σ → p s q →
    (∀ vs F' H' ω' as s', Stp F H ω F' H' ω' → Sta K F' H' ω' s' σ → ArR K F' σ as vs → q as s' → Q vs H') → t σ H Q
def prNil : PR1 := fun s q => q [] s
instance : LiftR K tNil prNil := ⟨fun {F H ω s σ Q} q T h k => k [] F H ω [] s (Stp.refl F H ω) T rfl h⟩
def prCons (p : PD) (r : PR1) : PR1 := fun s q => p s fun d s1 => r s1 fun as s2 => q (.v d :: as) s2
instance {t : TE} {r : TA} {p : PD} {pr : PR1} [LiftD K t p] [LiftR K r pr] : LiftR K (tCons t r) (prCons p pr) := ⟨fun kk T h k => by
  refine LiftD.run (K := K) (t := t) (p := p) _ T h fun x F1 H1 ω1 d s1 p1 T1 r1 h1 => ?_
  refine LiftR.run (K := K) (t := r) (p := pr) _ T1 h1 fun vs F2 H2 ω2 as s2 p2 T2 r2 h2 => ?_
  exact k _ F2 H2 ω2 (.v d :: as) s2 (p1.trans p2) T2 ⟨x, vs, rfl, r1.mono p2.sf, r2⟩ h2⟩
/-- a name: data, or its object lent (inl), or given away as data (inr inl), or shown as data (inr inr) -/
def prVar (i : Nat) (r : PR1) : PR1 := fun s q => match s[i]? with
  | some (some (.ow false _)) => (r s fun as s2 => q (.b i :: as) s2) ∨ prCons (pDat (pVar i)) r s q ∨ (r s fun as s2 => q (.w i :: as) s2)
  | some (some (.ow true _)) => r s fun as s2 => q (.b i :: as) s2
  | _ => prCons (pDat (pVar i)) r s q
theorem prVar_b {i : Nat} {r : TA} {pr : PR1} [LiftR K r pr] {F H : Hp} {ω : Om} {s : Sl} {σ : L2.St} {Q : List V → Hp → Prop} {b : Bool} {o : O} (q : List Ar → Sl → Prop) (T : Sta K F H ω s σ) (e : s[i]? = some (some (.ow b o)))
    (h : pr s fun as s2 => q (.b i :: as) s2) (k : ∀ vs F' H' ω' as s', Stp F H ω F' H' ω' → Sta K F' H' ω' s' σ → ArR K F' σ as vs → q as s' → Q vs H') : tCons (tVar i) r σ H Q := by
  obtain ⟨v, hv, _⟩ := T.at' i _ e
  refine ⟨v, hv, LiftR.run (K := K) (t := r) (p := pr) _ T h fun vs F2 H2 ω2 as s2 p2 T2 r2 h2 => ?_⟩
  exact k _ F2 H2 ω2 (.b i :: as) s2 p2 T2 ⟨v, vs, rfl, hv, r2⟩ h2
instance (priority := high) {i : Nat} {r : TA} {pr : PR1} [LiftR K r pr] : LiftR K (tCons (tVar i) r) (prVar i pr) := ⟨fun {F H ω s σ Q} q T h k => by
  unfold prVar at h
  split at h
  · rename_i e
    rcases h with h | h | h
    · exact prVar_b q T e h k
    · exact LiftR.run (K := K) (t := tCons (tVar i) r) (p := prCons (pDat (pVar i)) pr) q T h k
    · obtain ⟨v, hv, _⟩ := T.at' i _ e
      refine ⟨v, hv, LiftR.run (K := K) (t := r) (p := pr) _ T h fun vs F2 H2 ω2 as s2 p2 T2 r2 h2 => ?_⟩
      exact k _ F2 H2 ω2 (.w i :: as) s2 p2 T2 ⟨v, vs, rfl, hv, r2⟩ h2
  · rename_i e
    exact prVar_b q T e h k
  · exact LiftR.run (K := K) (t := tCons (tVar i) r) (p := prCons (pDat (pVar i)) pr) q T h k⟩
def getA : List Ar → Sl → Option (List S)
  | [], _ => some []
  | .v d :: as, s => (getA as s).map (.fr d :: ·)
  | .b i :: as, s => match s[i]? with
    | some (some (.ow _ o)) => if as.any (Ar.isB i) then none else (getA as s).map (.ow true o :: ·)
    | _ => none
  | .w i :: as, s => match s[i]? with
    | some (some (.ow _ (.lst ds))) => (getA as s).map (.fr (.lst ds) :: ·)
    | _ => none
def setO (i : Nat) (o : O) (s : Sl) : Sl := match s[i]? with
  | some (some (.ow b _)) => s.set i (some (.ow b o))
  | _ => s
def putA : List Ar → List O → Sl → Sl
  | [], _, s => s
  | .v _ :: as, os, s => putA as os s
  | .w _ :: as, os, s => putA as os s
  | .b i :: as, o :: os, s => setO i o (putA as os s)
  | .b _ :: _, [], s => s

mutual
def D.lf : D → Bool
  | .lst _ => false
  | .dic _ _ => false
  | .obj _ _ _ => false
  | .scr _ => false
  | .tup ds => D.lfs ds
  | _ => true
def D.lfs : List D → Bool
  | [] => true
  | d :: ds => d.lf && D.lfs ds
end
def lfS : S → Bool
  | .fr d => d.lf
  | .ow _ (.lst ds) => D.lfs ds
  | .ow _ _ => false
def pCall (ps : Psp) (pa : PR1) : PX := fun s q => pa s fun as s1 => match getA as s1 with
  | some xs => if xs.length = ps.n then (if as.any Ar.isW = true then (if as.any Ar.isL = true then False else ps.run xs fun x _ => lfS x = true ∧ q x s1) else ps.run xs fun x os => q x (putA as os s1)) else False
  | none => False
inductive ArOk (K : PySem.W.Frag) (F H : Hp) (ω : Om) (s : Sl) (σ : L2.St) : List Ar → List V → List S → Prop
  | nil : ArOk K F H ω s σ [] [] []
  | v {d : D} {x : V} {as : List Ar} {vs : List V} {xs : List S} : Rp K F d x → ArOk K F H ω s σ as vs xs → ArOk K F H ω s σ (.v d :: as) (x :: vs) (.fr d :: xs)
  | b {i : Nat} {b : Bool} {o : O} {l : Addr} {as : List Ar} {vs : List V} {xs : List S} : s[i]? = some (some (.ow b o)) → σ[i]? = some (some (.ref l)) → ω l = some (i, b) → ObjR K F H l o → as.any (Ar.isB i) = false →
    ArOk K F H ω s σ as vs xs → ArOk K F H ω s σ (.b i :: as) (.ref l :: vs) (.ow true o :: xs)
theorem arOk {F H : Hp} {ω : Om} {s : Sl} {σ : L2.St} (T : Sta K F H ω s σ) : ∀ {as : List Ar} {vs : List V} {xs : List S}, as.any Ar.isW = false → ArR K F σ as vs → getA as s = some xs → ArOk K F H ω s σ as vs xs
  | .w i :: as, _, _, hW, _, _ => by simp [Ar.isW] at hW
  | [], _, _, _, h, e => by
    cases (show _ = [] from h)
    cases e
    exact .nil
  | .v d :: as, _, xs, hW, h, e => by
    have hW : as.any Ar.isW = false := by simpa [Ar.isW] using hW
    obtain ⟨v, ws, rfl, r1, r2⟩ := h
    unfold getA at e
    cases e1 : getA as s with
    | none => rw [e1] at e; cases e
    | some ys =>
      rw [e1] at e
      cases e
      exact .v r1 (arOk T hW r2 e1)
  | .b i :: as, _, xs, hW, h, e => by
    have hW : as.any Ar.isW = false := by simpa [Ar.isW] using hW
    obtain ⟨v, ws, rfl, r1, r2⟩ := h
    unfold getA at e
    split at e
    · rename_i b o e0
      split at e
      · cases e
      · rename_i hn
        cases e1 : getA as s with
        | none => rw [e1] at e; cases e
        | some ys =>
          rw [e1] at e
          cases e
          obtain ⟨v', hv', l, rfl, hl, ho⟩ := T.at' i _ e0
          rw [r1] at hv'
          cases hv'
          exact .b e0 r1 hl ho (by simpa using hn) (arOk T hW r2 e1)
    · cases e
/-- who owns what for the callee -/
def omC : List Ar → List V → Nat → Om
  | .b _ :: as, .ref l :: vs, j => fun a => if a = l then some (j, true) else omC as vs (j + 1) a
  | _ :: as, _ :: vs, j => omC as vs (j + 1)
  | _, _, _ => fun _ => none
section
variable {F H : Hp} {ω : Om} {s : Sl} {σ : L2.St}
theorem omC_in {as : List Ar} {vs : List V} {xs : List S} (A : ArOk K F H ω s σ as vs xs) : ∀ {j : Nat} {a : Addr} {p : Nat × Bool}, omC as vs j a = some p → (∃ i b, ω a = some (i, b) ∧ as.any (Ar.isB i) = true) ∧ p.2 = true ∧ j ≤ p.1 := by
  induction A with
  | nil => intro j a p h; cases h
  | v r A ih =>
    intro j a p h
    obtain ⟨⟨i, b, h1, h2⟩, h3, h4⟩ := ih (j := j + 1) h
    exact ⟨⟨i, b, h1, by rw [List.any_cons, h2]; rfl⟩, h3, by omega⟩
  | @b i b o l as vs xs e1 e2 e3 e4 e5 A ih =>
    intro j a p h
    have h' : (if a = l then some (j, true) else omC as vs (j + 1) a) = some p := h
    split at h'
    · rename_i ha
      subst ha
      cases h'
      exact ⟨⟨i, b, e3, by simp [Ar.isB]⟩, rfl, Nat.le_refl _⟩
    · obtain ⟨⟨i, b, h1, h2⟩, h3, h4⟩ := ih h'
      exact ⟨⟨i, b, h1, by rw [List.any_cons, h2, Bool.or_true]⟩, h3, by omega⟩
theorem omC_uniq {as : List Ar} {vs : List V} {xs : List S} (A : ArOk K F H ω s σ as vs xs) : ∀ {j k : Nat} {a b : Addr}, omC as vs j a = some (k, true) → omC as vs j b = some (k, true) → a = b := by
  induction A with
  | nil => intro j k a b h; cases h
  | v r A ih => intro j k a b h1 h2; exact ih (j := j + 1) h1 h2
  | @b i bb o l as vs xs e1 e2 e3 e4 e5 A ih =>
    intro j k a b h1 h2
    have h1' : (if a = l then some (j, true) else omC as vs (j + 1) a) = some (k, true) := h1
    have h2' : (if b = l then some (j, true) else omC as vs (j + 1) b) = some (k, true) := h2
    split at h1' <;> split at h2'
    · rename_i x y; rw [x, y]
    · cases h1'
      exact absurd (omC_in A h2').2.2 (by show ¬ (j + 1 ≤ j); omega)
    · cases h2'
      exact absurd (omC_in A h1').2.2 (by show ¬ (j + 1 ≤ j); omega)
    · exact ih h1' h2'
theorem omC_at {as : List Ar} {vs : List V} {xs : List S} (A : ArOk K F H ω s σ as vs xs) : ∀ {j k : Nat} {x : S}, xs[k]? = some x → ∃ v, vs[k]? = some v ∧ OwnAt K F H (omC as vs j) (j + k) x v ∧ ∀ a, v = .ref a → ∀ b o, x = .ow b o → ∃ i, as.any (Ar.isB i) = true ∧ ∃ c, ω a = some (i, c) := by
  induction A with
  | nil => intro j k x h; simp at h
  | @v d y as vs xs r A ih =>
    intro j k x h
    cases k with
    | zero =>
      cases h
      exact ⟨y, rfl, r, fun _ _ _ _ z => by cases z⟩
    | succ k =>
      obtain ⟨v, hv, h1, h2⟩ := ih (j := j + 1) (k := k) h
      refine ⟨v, hv, ?_, fun a e b o z => ?_⟩
      · rw [show j + (k + 1) = j + 1 + k by omega]
        cases x with
        | fr _ => exact h1
        | ow _ _ => exact h1
      · obtain ⟨i, q1, q2⟩ := h2 a e b o z
        exact ⟨i, by rw [List.any_cons, q1, Bool.or_true], q2⟩
  | @b i b o l as vs xs e1 e2 e3 e4 e5 A ih =>
    intro j k x h
    cases k with
    | zero =>
      cases h
      refine ⟨.ref l, rfl, ⟨l, rfl, if_pos rfl, e4⟩, fun a e _ _ _ => ⟨i, by simp [Ar.isB], b, by cases e; exact e3⟩⟩
    | succ k =>
      obtain ⟨v, hv, h1, h2⟩ := ih (j := j + 1) (k := k) h
      refine ⟨v, hv, ?_, fun a e b o z => ?_⟩
      · rw [show j + (k + 1) = j + 1 + k by omega]
        cases x with
        | fr _ => exact h1
        | ow c o' =>
          obtain ⟨l', rfl, q1, q2⟩ := h1
          refine ⟨l', rfl, ?_, q2⟩
          have hne : l' ≠ l := by
            rintro rfl
            obtain ⟨i', q3, c', q4⟩ := h2 l' rfl _ _ rfl
            rw [e3] at q4
            cases q4
            rw [e5] at q3
            cases q3
          show (if l' = l then some (j, true) else omC as vs (j + 1) l') = _
          rw [if_neg hne]
          exact q1
      · obtain ⟨i', q1, q2⟩ := h2 a e b o z
        exact ⟨i', by rw [List.any_cons, q1, Bool.or_true], q2⟩
theorem arOk_len {as : List Ar} {vs : List V} {xs : List S} (A : ArOk K F H ω s σ as vs xs) : xs.length = vs.length ∧ lent xs := by
  induction A with
  | nil => exact ⟨rfl, trivial⟩
  | v _ _ ih => exact ⟨congrArg (· + 1) ih.1, ih.2⟩
  | b _ _ _ _ _ _ ih => exact ⟨congrArg (· + 1) ih.1, rfl, ih.2⟩
/-- the callee's state -/
theorem staC {as : List Ar} {vs : List V} {xs : List S} (T : Sta K F H ω s σ) (A : ArOk K F H ω s σ as vs xs) : Sta K F H (omC as vs 0) (xs.map some) (vs.map some) := by
  refine ⟨T.sf, fun b p h => ?_, fun i x h => ?_, by rw [List.length_map, List.length_map, (arOk_len A).1]⟩
  · obtain ⟨⟨i, c, h1, _⟩, _⟩ := omC_in A h
    exact T.ow b _ h1
  · rw [List.getElem?_map] at h
    cases e : xs[i]? with
    | none => rw [e] at h; cases h
    | some y =>
      rw [e] at h
      cases h
      obtain ⟨v, hv, h1, _⟩ := omC_at A (j := 0) e
      refine ⟨v, by rw [List.getElem?_map, hv]; rfl, ?_⟩
      rw [Nat.zero_add] at h1
      exact h1
/-- the slots behind the call -/
theorem putA_at {F' H' : Hp} {as : List Ar} {vs : List V} {xs : List S} (A : ArOk K F H ω s σ as vs xs) : ∀ {os : List O}, BosR K F' H' xs vs os →
    (putA as os s).length = s.length ∧ (∀ k, as.any (Ar.isB k) = false → (putA as os s)[k]? = s[k]?) ∧
    ∀ k x, as.any (Ar.isB k) = true → (putA as os s)[k]? = some (some x) → ∃ l b o, x = .ow b o ∧ σ[k]? = some (some (.ref l)) ∧ ω l = some (k, b) ∧ ObjR K F' H' l o := by
  induction A with
  | nil => intro os _; exact ⟨rfl, fun _ _ => rfl, fun _ _ h => by cases h⟩
  | v r A ih =>
    intro os B
    obtain ⟨v, ws, e, B⟩ := B
    cases e
    obtain ⟨h0, h1, h2⟩ := ih B
    exact ⟨h0, fun k hk => h1 k (by simpa [Ar.isB] using hk), fun k x hk => h2 k x (by simpa [Ar.isB] using hk)⟩
  | @b i b o l as vs xs e1 e2 e3 e4 e5 A ih =>
    intro os B
    obtain ⟨l', ws, o', os', e, rfl, ho, B⟩ := B
    cases e
    obtain ⟨h0, h1, h2⟩ := ih B
    have hi : (putA as os' s)[i]? = some (some (.ow b o)) := by rw [h1 i e5]; exact e1
    have hp : putA (.b i :: as) (o' :: os') s = (putA as os' s).set i (some (.ow b o')) := by
      show setO i o' (putA as os' s) = _
      unfold setO
      rw [hi]
    rw [hp]
    refine ⟨by rw [List.length_set]; exact h0, fun k hk => ?_, fun k x hk hx => ?_⟩
    · have hk' : (k == i) = false ∧ as.any (Ar.isB k) = false := by
        rw [List.any_cons, Bool.or_eq_false_iff] at hk
        exact hk
      have hne : i ≠ k := fun z => by rw [z] at hk'; simp at hk'
      rw [List.getElem?_set_ne hne]
      exact h1 k hk'.2
    · by_cases hik : i = k
      · subst hik
        rw [List.getElem?_set] at hx
        rw [if_pos rfl] at hx
        split at hx
        · cases hx
          exact ⟨_, b, o', rfl, e2, e3, ho⟩
        · cases hx
      · rw [List.getElem?_set_ne hik] at hx
        have hk' : as.any (Ar.isB k) = true := by
          rw [List.any_cons, Bool.or_eq_true] at hk
          rcases hk with hk | hk
          · exact absurd (beq_iff_eq.mp hk).symm hik
          · exact hk
        exact h2 k x hk' hx
end
theorem lsp_call {ps : Psp} {F H : Hp} {ω : Om} {s : Sl} {σ : L2.St} {as : List Ar} {vs : List V} {xs : List S} {Q : VK} {E : XK} {q : S → Sl → Prop} (T : Sta K F H ω s σ) (hW : as.any Ar.isW = false) (r : ArR K F σ as vs) (g : getA as s = some xs) (hn : xs.length = ps.n) (h : ps.run xs fun x os => q x (putA as os s))
    (k : ∀ v F' H' ω' x s', Stp F H ω F' H' ω' → Sta K F' H' ω' s' σ → Rt K H F' H' ω' x v → q x s' → Q v H') : Lsp K ps vs H Q E := by
  have A := arOk T hW r g
  have hcn : ∀ b, ω b = none → omC as vs 0 b = none := fun b hb => by
    cases e : omC as vs 0 b with
    | none => rfl
    | some p =>
      obtain ⟨⟨i, c, h1, _⟩, _⟩ := omC_in A e
      rw [hb] at h1
      cases h1
  refine ⟨F, omC as vs 0, xs, _, staC T A, (arOk_len A).2, fun a b j h1 h2 => omC_uniq A h1 h2, fun b j c h => (omC_in A h).2.1, hn, h, fun v F' H' ω' x os p' fs' fo' B R hq => ?_⟩
  obtain ⟨h0, h1, h2⟩ := putA_at A B
  have hF' : ∀ b p, ω b = some p → F' b = none := fun b p hb => by
    obtain ⟨q1, u, q2⟩ := T.ow b p hb
    cases e : omC as vs 0 b with
    | none => exact p'.fn b u e q2 q1
    | some w =>
      obtain ⟨j, c⟩ := w
      have hc : c = true := (omC_in A e).2.1
      subst hc
      exact fo' b _ ((p'.bk b j).mpr e)
  have hH' : ∀ b p, ω b = some p → ∃ u, H' b = some u := fun b p hb => by
    obtain ⟨_, u, q2⟩ := T.ow b p hb
    cases e : H' b with
    | some u => exact ⟨u, rfl⟩
    | none =>
      rw [p'.tr b e] at q2
      cases q2
  refine k v F' H' ω x _ ⟨p'.sf, fun b o q1 q2 => p'.fr b o (hcn b q1) q2, fun _ _ z _ => z, fun b o q1 q2 q3 => p'.fn b o (hcn b q1) q2 q3, p'.tr, fun _ _ => Iff.rfl⟩
    ⟨fs', fun b p hb => ⟨hF' b p hb, hH' b p hb⟩, fun i y hy => ?_, by rw [h0]; exact T.len⟩ ?_ hq
  · cases hb : as.any (Ar.isB i) with
    | true =>
      obtain ⟨l, b, o, rfl, q1, q2, q3⟩ := h2 i y hb hy
      exact ⟨_, q1, l, rfl, q2, q3⟩
    | false =>
      rw [h1 i hb] at hy
      obtain ⟨v, hv, r⟩ := T.at' i y hy
      refine ⟨v, hv, ?_⟩
      cases y with
      | fr d => exact Rp.mono p'.sf r
      | ow b o =>
        obtain ⟨l, rfl, q1, q2⟩ := r
        refine ⟨l, rfl, q1, (q2.mono p'.sf).heap fun u hu => p'.fr l u ?_ hu⟩
        cases e : omC as vs 0 l with
        | none => rfl
        | some w =>
          obtain ⟨⟨i', c, q3, q4⟩, _⟩ := omC_in A e
          rw [q1] at q3
          cases q3
          rw [hb] at q4
          cases q4
  · cases x with
    | fr d => exact R
    | ow b o =>
      obtain ⟨l, e, z0, z1, z2, z3⟩ := R
      exact ⟨l, e, z0, T.free z0, z2, z3⟩
mutual
theorem Rp.thaw {F F' : Hp} (h : ∀ b u, F b = some u → F' b = some u ∨ ∃ ws, u = .lst ws) : ∀ {d : D} {v : V}, d.lf = true → Rp K F d v → Rp K F' d v
  | .non, _, _, r => r
  | .bl _, _, _, r => r
  | .int _, _, _, r => r
  | .str _, _, _, r => r
  | .ty _, _, _, r => r
  | .lst _, _, e, _ => by cases e
  | .dic _ _, _, e, _ => by cases e
  | .obj _ _ _, _, e, _ => by cases e
  | .scr _, _, e, _ => by cases e
  | .tup ds, _, e, r => by
    obtain ⟨a, vs, rfl, h1, h2⟩ := r
    refine ⟨a, vs, rfl, ?_, RpA.thaw h e h2⟩
    rcases h1 with (h1 | ⟨o, h1⟩) | h1
    · rcases h _ _ h1 with z | ⟨ws, z⟩
      · exact .inl (.inl z)
      · cases z
    · rcases h _ _ h1 with z | ⟨ws, z⟩
      · exact .inl (.inr ⟨o, z⟩)
      · cases z
    · exact .inr h1
theorem RpA.thaw {F F' : Hp} (h : ∀ b u, F b = some u → F' b = some u ∨ ∃ ws, u = .lst ws) : ∀ {ds : List D} {vs : List V}, D.lfs ds = true → RpA K F ds vs → RpA K F' ds vs
  | [], _, _, r => r
  | d :: ds, _, e, r => by
    obtain ⟨v, ws, rfl, r1, r2⟩ := r
    have e' := Bool.and_eq_true_iff.mp (show (d.lf && D.lfs ds) = true from e)
    exact ⟨v, ws, rfl, Rp.thaw h e'.1 r1, RpA.thaw h e'.2 r2⟩
end
/-- the addresses that are shown -/
def Shown (as : List Ar) (σ : L2.St) (b : Addr) : Prop := ∃ i, Ar.w i ∈ as ∧ σ[i]? = some (some (.ref b))
theorem shown_own {F H : Hp} {ω : Om} {s : Sl} {σ : L2.St} (T : Sta K F H ω s σ) : ∀ {as : List Ar} {xs : List S}, getA as s = some xs → ∀ b, Shown as σ b → ∃ p ws, ω b = some p ∧ H b = some (.lst ws)
  | [], _, _, b, h => by
    obtain ⟨i, hi, _⟩ := h
    simp at hi
  | a :: as, xs, e, b, h => by
    obtain ⟨i, hi, hv⟩ := h
    have rest : ∀ ys, getA as s = some ys → Ar.w i ∈ as → ∃ p ws, ω b = some p ∧ H b = some (.lst ws) := fun ys e1 hm => shown_own T e1 b ⟨i, hm, hv⟩
    cases a with
    | v d =>
      unfold getA at e
      cases e1 : getA as s with
      | none => rw [e1] at e; cases e
      | some ys => exact rest ys e1 (by simpa using hi)
    | b j =>
      unfold getA at e
      split at e
      · split at e
        · cases e
        · cases e1 : getA as s with
          | none => rw [e1] at e; cases e
          | some ys => exact rest ys e1 (by simpa using hi)
      · cases e
    | w j =>
      unfold getA at e
      split at e
      · rename_i c ds e0
        cases e1 : getA as s with
        | none => rw [e1] at e; cases e
        | some ys =>
          rcases List.mem_cons.mp hi with z | z
          · cases z
            obtain ⟨v, hv', l, rfl, hl, ws, q1, q2⟩ := T.at' _ _ e0
            rw [hv] at hv'
            cases hv'
            exact ⟨_, ws, hl, q1⟩
          · exact rest ys e1 z
      · cases e
theorem view_args {F F1 H : Hp} {ω : Om} {s : Sl} {σ : L2.St} (T : Sta K F H ω s σ) (hs : Same F F1) : ∀ {as : List Ar} {vs : List V} {xs : List S}, as.any Ar.isL = false → ArR K F σ as vs → getA as s = some xs → (∀ b u, Shown as σ b → H b = some u → F1 b = some u) →
    lent xs ∧ xs.length = vs.length ∧ ∀ (k : Nat) (x : S), xs[k]? = some x → ∃ v, vs[k]? = some v ∧ ∃ d, x = .fr d ∧ Rp K F1 d v
  | [], _, _, _, r, e, _ => by
    cases (show _ = [] from r)
    cases e
    exact ⟨trivial, rfl, fun k x h => by simp at h⟩
  | .v d :: as, _, xs, hL, r, e, hF => by
    obtain ⟨v, ws, rfl, r1, r2⟩ := r
    unfold getA at e
    cases e1 : getA as s with
    | none => rw [e1] at e; cases e
    | some ys =>
      rw [e1] at e
      cases e
      obtain ⟨a1, a2, a3⟩ := view_args T hs (by simpa [Ar.isL] using hL) r2 e1 fun b u q => hF b u (by obtain ⟨i, q1, q2⟩ := q; exact ⟨i, List.mem_cons_of_mem _ q1, q2⟩)
      refine ⟨a1, congrArg (· + 1) a2, fun k x h => ?_⟩
      cases k with
      | zero => cases h; exact ⟨v, rfl, d, rfl, r1.mono hs⟩
      | succ k => exact a3 k x h
  | .b i :: as, _, xs, hL, _, _, _ => by simp [Ar.isL] at hL
  | .w i :: as, _, xs, hL, r, e, hF => by
    obtain ⟨v, ws, rfl, r1, r2⟩ := r
    unfold getA at e
    split at e
    · rename_i c ds e0
      cases e1 : getA as s with
      | none => rw [e1] at e; cases e
      | some ys =>
        rw [e1] at e
        cases e
        obtain ⟨a1, a2, a3⟩ := view_args T hs (by simpa [Ar.isL] using hL) r2 e1 fun b u q => hF b u (by obtain ⟨i, q1, q2⟩ := q; exact ⟨i, List.mem_cons_of_mem _ q1, q2⟩)
        refine ⟨a1, congrArg (· + 1) a2, fun k x h => ?_⟩
        cases k with
        | zero =>
          cases h
          obtain ⟨v', hv', l, rfl, hl, us, q1, q2⟩ := T.at' i _ e0
          rw [r1] at hv'
          cases hv'
          exact ⟨_, rfl, _, rfl, l, us, rfl, hF l _ ⟨i, List.mem_cons_self, r1⟩ q1, q2.mono hs⟩
        | succ k => exact a3 k x h
    · cases e
/-- a call that is shown own lists: they stay -/
theorem lsp_view {ps : Psp} {F H : Hp} {ω : Om} {s : Sl} {σ : L2.St} {as : List Ar} {vs : List V} {xs : List S} {Q : VK} {E : XK} {q : S → Sl → Prop} (T : Sta K F H ω s σ) (r : ArR K F σ as vs) (g : getA as s = some xs) (hn : xs.length = ps.n) (hL : as.any Ar.isL = false)
    (h : ps.run xs fun x _ => lfS x = true ∧ q x s) (k : ∀ v F' H' ω' x s', Stp F H ω F' H' ω' → Sta K F' H' ω' s' σ → Rt K H F' H' ω' x v → q x s' → Q v H') : Lsp K ps vs H Q E := by
  classical
  have hsh := shown_own T g
  have F1s : ∀ b u, (if Shown as σ b then H b else F b) = some u → H b = some u := fun b u e => by
    split at e
    · exact e
    · exact T.sf b u e
  have hFF : Same F (fun b => if Shown as σ b then H b else F b) := fun b u e => by
    show (if Shown as σ b then H b else F b) = some u
    split
    · exact T.sf b u e
    · exact e
  obtain ⟨a1, a2, a3⟩ := view_args (F1 := fun b => if Shown as σ b then H b else F b) T hFF hL r g fun b u q e => by
    show (if Shown as σ b then H b else F b) = some u
    rw [if_pos q]
    exact e
  have T1 : Sta K (fun b => if Shown as σ b then H b else F b) H (fun _ => none) (xs.map some) (vs.map some) := by
    refine ⟨fun b u e => F1s b u e, fun _ _ h => (by cases h), fun i x h => ?_, by rw [List.length_map, List.length_map, a2]⟩
    rw [List.getElem?_map] at h
    cases e : xs[i]? with
    | none => rw [e] at h; cases h
    | some y =>
      rw [e] at h
      cases h
      obtain ⟨v, hv, d, rfl, rr⟩ := a3 i _ e
      exact ⟨v, by rw [List.getElem?_map, hv]; rfl, rr⟩
  refine ⟨_, _, xs, _, T1, a1, fun _ _ _ h => (by cases h), fun _ _ _ h => (by cases h), hn, h, fun v F' H' ω' x os p' fs' _ _ R hq => ?_⟩
  obtain ⟨hlf, hq⟩ := hq
  have hF2 : ∀ b, Shown as σ b → F' b = H b := fun b hb => by
    obtain ⟨p, ws, h1, h2⟩ := hsh b hb
    rw [h2]
    exact p'.sf b _ (by show (if Shown as σ b then H b else F b) = _; rw [if_pos hb]; exact h2)
  have hH : ∀ b u, H b = some u → H' b = some u := fun b u e => p'.fr b u rfl e
  -- the shown lists are taken out of what is frozen
  have hF3 : ∀ b u, (if Shown as σ b then none else F' b) = some u → F' b = some u := fun b u e => by
    split at e
    · cases e
    · exact e
  have sFF : Same F (fun b => if Shown as σ b then none else F' b) := fun b u e => by
    show (if Shown as σ b then none else F' b) = some u
    split
    · rename_i hb
      obtain ⟨p, ws, h1, h2⟩ := hsh b hb
      rw [(T.ow b p h1).1] at e
      cases e
    · exact p'.sf b u (hFF b u e)
  have th : ∀ b u, F' b = some u → (fun b => if Shown as σ b then none else F' b) b = some u ∨ ∃ ws, u = .lst ws := fun b u e => by
    by_cases hb : Shown as σ b
    · obtain ⟨p, ws, h1, h2⟩ := hsh b hb
      rw [hF2 b hb, h2] at e
      exact .inr ⟨ws, (Option.some.inj e).symm⟩
    · exact .inl (by show (if Shown as σ b then none else F' b) = some u; rw [if_neg hb]; exact e)
  refine k v (fun b => if Shown as σ b then none else F' b) H' ω x s ⟨sFF, fun b o _ e => hH b o e, fun _ _ z _ => z, fun b o q1 q2 q3 => ?_, p'.tr, fun _ _ => Iff.rfl⟩ ⟨fun b u e => fs' b u (hF3 b u e), fun b p hb => ⟨?_, ?_⟩, fun i y hy => ?_, T.len⟩ ?_ hq
  · show (if Shown as σ b then none else F' b) = none
    split
    · rfl
    · rename_i hb
      refine p'.fn b o rfl q2 ?_
      show (if Shown as σ b then H b else F b) = none
      rw [if_neg hb]
      exact q3
  · show (if Shown as σ b then none else F' b) = none
    split
    · rfl
    · rename_i hb'
      obtain ⟨q1, u, q2⟩ := T.ow b p hb
      refine p'.fn b u rfl q2 ?_
      show (if Shown as σ b then H b else F b) = none
      rw [if_neg hb']
      exact q1
  · obtain ⟨q1, u, q2⟩ := T.ow b p hb
    exact ⟨u, hH b u q2⟩
  · obtain ⟨v, hv, r⟩ := T.at' i y hy
    refine ⟨v, hv, ?_⟩
    cases y with
    | fr d => exact Rp.mono sFF r
    | ow b o =>
      obtain ⟨l, rfl, q1, q2⟩ := r
      exact ⟨l, rfl, q1, (q2.mono sFF).heap fun u hu => hH l u hu⟩
  · cases x with
    | fr d => exact Rp.thaw th hlf R
    | ow b o =>
      obtain ⟨l, e, z0, z1, z2, z3⟩ := R
      refine ⟨l, e, z0, T.free z0, ?_, ?_⟩
      · show (if Shown as σ l then none else F' l) = none
        rw [z2]
        split <;> rfl
      · cases o with
        | lst ds =>
          obtain ⟨ws, y1, y2⟩ := z3
          exact ⟨ws, y1, RpA.thaw th hlf y2⟩
        | dk _ => cases hlf
        | dt _ => cases hlf
instance {ps : Psp} {E : XK} {t : TA} {pa : PR1} [LiftR K t pa] : LiftE K (tCall (Lsp K ps) [] E t) (pCall ps pa) := ⟨fun {F H ω s σ Q} q T h k => by
  refine LiftR.run (K := K) (t := t) (p := pa) _ T h fun vs F1 H1 ω1 as s1 p1 T1 r1 h1 => ?_
  split at h1
  · rename_i xs e
    rw [List.append_nil]
    split at h1
    rotate_left
    · exact h1.elim
    rename_i hn
    split at h1
    · split at h1
      · exact h1.elim
      · rename_i hB
        exact lsp_view T1 r1 e hn (by simpa using hB) h1 fun v F2 H2 ω2 x s2 p2 T2 r2 hq => k v F2 H2 ω2 x s2 (p1.trans p2) T2 (r2.early p1.tr) hq
    · rename_i hW
      exact lsp_call T1 (by simpa using hW) r1 e hn h1 fun v F2 H2 ω2 x s2 p2 T2 r2 hq => k v F2 H2 ω2 x s2 (p1.trans p2) T2 (r2.early p1.tr) hq
  · exact h1.elim⟩
/-! a def's body -/
def fin (xs : List S) (q : S → List O → Prop) (x : S) (s : Sl) : Prop := match bors xs s with
  | some os => q x os
  | none => False
theorem bors_at {F H : Hp} {ω ω0 : Om} : ∀ {xs : List S} {vs : List V} {s : Sl} {σ : L2.St} {os : List O} {n : Nat}, bors xs s = some os →
    (∀ i x, xs[i]? = some x → ∃ v, vs[i]? = some v ∧ ∀ b o, x = .ow b o → ∃ l, v = .ref l ∧ ω0 l = some (n + i, true)) → xs.length = vs.length →
    (∀ i x, s[i]? = some (some x) → ∃ v, σ[i]? = some (some v) ∧ OwnAt K F H ω (n + i) x v) → (∀ b j, ω b = some (j, true) → ω0 b = some (j, true)) → (∀ a b j, ω0 a = some (j, true) → ω0 b = some (j, true) → a = b) → BosR K F H xs vs os
  | [], _, _, _, _, _, e, _, _, _, _, _ => by cases e; exact rfl
  | .fr d :: xs, [], _, _, _, _, e, _, hl, _, _, _ => by simp at hl
  | .fr d :: xs, v :: vs, [], σ, os, n, e, _, _, _, _, _ => by cases e
  | .fr d :: xs, v :: vs, y :: s, [], os, n, e, hv, hl, ha, h1, h2 => by
    refine ⟨v, vs, rfl, bors_at (n := n + 1) (σ := []) e (fun i x h => ?_) (by simpa using hl) (fun i x h => ?_) h1 h2⟩
    · obtain ⟨w, q1, q2⟩ := hv (i + 1) x h
      exact ⟨w, q1, fun b o z => by rw [show n + 1 + i = n + (i + 1) by omega]; exact q2 b o z⟩
    · obtain ⟨w, q1, q2⟩ := ha (i + 1) x h
      cases q1
  | .fr d :: xs, v :: vs, y :: s, z :: σ, os, n, e, hv, hl, ha, h1, h2 => by
    refine ⟨v, vs, rfl, bors_at (n := n + 1) (σ := σ) e (fun i x h => ?_) (by simpa using hl) (fun i x h => ?_) h1 h2⟩
    · obtain ⟨w, q1, q2⟩ := hv (i + 1) x h
      exact ⟨w, q1, fun b o z => by rw [show n + 1 + i = n + (i + 1) by omega]; exact q2 b o z⟩
    · obtain ⟨w, q1, q2⟩ := ha (i + 1) x h
      exact ⟨w, q1, by rw [show n + 1 + i = n + (i + 1) by omega]; exact q2⟩
  | .ow c o :: xs, vs, s, σ, os, n, e, hv, hl, ha, h1, h2 => by
    cases s with
    | nil => cases e
    | cons y s =>
      cases y with
      | none => cases e
      | some y =>
        cases y with
        | fr _ => cases e
        | ow c' o' =>
          cases c' with
          | false => cases e
          | true =>
            have e' : (bors xs s).map (o' :: ·) = some os := e
            cases eb : bors xs s with
            | none => rw [eb] at e'; cases e'
            | some os' =>
              rw [eb] at e'
              cases e'
              obtain ⟨v0, q1, q2⟩ := hv 0 _ rfl
              obtain ⟨l, rfl, q3⟩ := q2 c o rfl
              obtain ⟨v1, q4, l', rfl, q5, q6⟩ := ha 0 _ rfl
              have : l' = l := h2 l' l _ (h1 l' _ q5) q3
              subst this
              cases vs with
              | nil => cases q1
              | cons w vs =>
                cases q1
                cases σ with
                | nil => cases q4
                | cons z σ =>
                  refine ⟨l', vs, o', os', rfl, rfl, q6, bors_at (n := n + 1) (σ := σ) eb (fun i x h => ?_) (by simpa using hl) (fun i x h => ?_) h1 h2⟩
                  · obtain ⟨w, q1, q2⟩ := hv (i + 1) x h
                    exact ⟨w, q1, fun b o z => by rw [show n + 1 + i = n + (i + 1) by omega]; exact q2 b o z⟩
                  · obtain ⟨w, q1, q2⟩ := ha (i + 1) x h
                    exact ⟨w, q1, by rw [show n + 1 + i = n + (i + 1) by omega]; exact q2⟩
theorem lsp_len {ps : Psp} {vs : List V} {H : Hp} {Q : VK} {E : XK} (h : Lsp K ps vs H Q E) : vs.length = ps.n := by
  obtain ⟨F, ω, xs, q, T, hle, hu, hc, hn, hq, k⟩ := h
  rw [← hn]
  simpa using T.len.symm
/-- the slots at the start: the arguments, the other names unknown -/
def startS (n : Nat) (xs : List S) : Sl := xs.map some ++ List.replicate (n - xs.length) none
theorem lsp_body {ps : Psp} {N : List Str} {vs : List V} {H : Hp} {Q : VK} {E : XK} {t : TS} {p : PS1} (h : Lsp K ps vs H Q E) [LiftS K t p] (hN' : ps.n ≤ N.length)
    (hp : ∀ xs q, xs.length = ps.n → ps.run xs q → p { nx := fin xs q (.fr .non), rt := fin xs q } (startS N.length xs)) : t { nx := fun _ H' => Q .non H', rt := Q } (L2.start N vs) H := by
  obtain ⟨F, ω, xs, q, T, hle, hu, hc, hn, hq, k⟩ := h
  have hlen : xs.length = vs.length := by simpa using T.len
  have hN : vs.length ≤ N.length := by omega
  have T1 : Sta K F H ω (startS N.length xs) (L2.start N vs) := by
    refine ⟨T.sf, T.ow, fun i x h => ?_, by unfold startS L2.start; simp [hlen]⟩
    unfold startS at h
    unfold L2.start
    by_cases hi : i < xs.length
    · rw [List.getElem?_append_left (by simpa using hi)] at h
      rw [List.getElem?_append_left (by rw [List.length_map]; omega)]
      exact T.at' i x h
    · rw [List.getElem?_append_right (by simpa using Nat.not_lt.mp hi)] at h
      rw [List.getElem?_replicate] at h
      split at h
      · cases h
      · cases h
  have hat : ∀ i x, xs[i]? = some x → ∃ v, vs[i]? = some v ∧ ∀ b o, x = .ow b o → ∃ l, v = .ref l ∧ ω l = some (0 + i, true) := by
    intro i x h
    obtain ⟨v, hv, r⟩ := T.at' i x (by rw [List.getElem?_map, h]; rfl)
    rw [List.getElem?_map] at hv
    cases e : vs[i]? with
    | none => rw [e] at hv; cases hv
    | some w =>
      rw [e] at hv
      cases hv
      refine ⟨v, rfl, fun b o z => ?_⟩
      subst z
      obtain ⟨l, rfl, q1, _⟩ := r
      have : b = true := hc l i b q1
      subst this
      exact ⟨l, rfl, by rw [Nat.zero_add]; exact q1⟩
  have hend : ∀ {v σ' F' H' ω' x s'}, Stp F H ω F' H' ω' → Sta K F' H' ω' s' σ' → Rt K H F' H' ω' x v → fin xs q x s' → Q v H' := by
    intro v σ' F' H' ω' x s' p' T' r h
    unfold fin at h
    split at h
    · rename_i os e
      refine k v F' H' ω' x os p' T'.sf (fun b p hb => (T'.ow b p hb).1) ?_ r h
      exact bors_at (ω0 := ω) (n := 0) e hat hlen (fun i x h => by rw [Nat.zero_add]; exact T'.at' i x h) (fun b j hb => (p'.bk b j).mp hb) hu
    · exact h.elim
  exact LiftS.run (K := K) (t := t) (p := p) (H0 := H) _ T1 (hp xs q hn hq) ⟨fun {σ' F' H' ω' s'} p' T' h => hend p' T' (x := .fr .non) rfl h, fun {v σ' F' H' ω' x s'} p' T' r h => hend p' T' r h, fun _ _ h => h.elim, fun _ _ h => h.elim, fun _ h => h, fun b j h => by
    cases hc b j false h⟩
end
/-! ### the written part's name in a reading -/
theorem cxK {CX : CXT} {P : Program} {w : World} {K : PySem.W.Frag} {mg : Str → Option Value} {base : Heap} {N : List Str} {qual : Str} {scope : Scope} {f : Addr} {cd : Value} {A : Around} {outer : List Env} {s : Shared} {H : Hp} {E : XK} :
    (cxOf CX P w K mg base N qual scope f cd A outer s H E).K = K := rfl
theorem blkK {X : Cx} {s : Shared} {H : Hp} {scope : Scope} {cenv : Env} {fp : List Addr} : (X.blk s H scope cenv fp).K = X.K := rfl
theorem noxK {X : Cx} : X.nox.K = X.K := rfl
theorem wishK {X : Cx} {E : Value → Shared → Prop} : (X.wish E).K = X.K := rfl
section
variable {K : PySem.W.Frag}
def gGcd : List D → (S → Prop) → Prop := fun ds q => match ds with
  | [.int i, .int j] => q (.fr (.int (Int.gcd i j : Nat)))
  | _ => False
instance : CaL K rGcd gGcd := ⟨fun {F H vs ds Q} q hs r h k => by
  unfold gGcd at h
  split at h
  · obtain ⟨v, w, rfl, h1, h2⟩ := r.two
    cases (show v = _ from h1)
    cases (show w = _ from h2)
    exact ⟨_, _, rfl, k _ F H (.fr (.int _)) (Ext.refl hs) rfl h⟩
  · exact h.elim⟩
def gSortedI : List D → (S → Prop) → Prop := fun ds q => match ds with
  | [.lst xs] => ∃ ns : List Int, xs = ns.map D.int ∧ ∀ ms : List Int, ms.Perm ns → ms.Pairwise (· ≤ ·) → q (.ow false (.lst (ms.map .int)))
  | _ => False
instance : CaL K (rSortedI K) gSortedI := ⟨fun {F H vs ds Q} q hs r h k => by
  unfold gSortedI at h
  split at h
  · obtain ⟨ns, rfl, hq⟩ := h
    obtain ⟨v, rfl, a, ws, rfl, h1, h2⟩ := r.one
    cases RpA.intsV h2
    exact ⟨a, ns, rfl, SqL.of (hs _ _ h1), fun ms p h3 h4 hp => Ext.lst hs RpA.ints (hq ms h3 h4) k hp⟩
  · exact h.elim⟩
/-- the law's promise -/
def psp_law : Psp := ⟨1, fun xs q => ∃ ns : List Int, xs = [.fr (.scr ns)] ∧ ns.length ≤ 63 ∧ q (.fr (.bl true)) []⟩
def sp_law (K : PySem.W.Frag) : Sp := fun vs H Q _ => ∃ (a : Addr) (ns : List Int), vs = [.ref a] ∧ SqL K H a (ns.map V.int) ∧ ns.length ≤ 63 ∧ ∀ H', Q (.bl true) H'
theorem law_imp : ∀ vs H Q E, sp_law K vs H Q E → Lsp K psp_law vs H Q E := by
  rintro vs H Q E ⟨a, ns, rfl, h, hl, q⟩
  have hF : Same (fun b => if b = a then H a else none) H := fun b o e => by
    have e' : (if b = a then H a else none) = some o := e
    split at e'
    · rename_i hb
      rw [hb]
      exact e'
    · cases e'
  have hS : SqL K (fun b => if b = a then H a else none) a (ns.map V.int) := by
    rcases h with (h | ⟨o, h⟩) | h
    · exact .inl (.inl (by show (if a = a then H a else none) = _; rw [if_pos rfl]; exact h))
    · exact .inl (.inr ⟨o, by show (if a = a then H a else none) = _; rw [if_pos rfl]; exact h⟩)
    · exact .inr h
  have T : Sta K (fun b => if b = a then H a else none) H (fun _ => none) ([S.fr (.scr ns)].map some) ([V.ref a].map some) := by
    refine ⟨hF, fun _ _ h => (by cases h), fun i x h => ?_, rfl⟩
    cases i with
    | zero =>
      cases h
      exact ⟨_, rfl, a, rfl, hS⟩
    | succ i => simp at h
  refine ⟨_, _, [.fr (.scr ns)], fun x _ => x = .fr (.bl true), T, trivial, fun _ _ _ h => (by cases h), fun _ _ _ h => (by cases h), rfl, ⟨ns, rfl, hl, rfl⟩, fun v F' H' ω' x os _ _ _ _ r hx => ?_⟩
  subst hx
  cases (show v = _ from r)
  exact q H'
end
/-! ### helpers for answering -/
theorem take_snocD {es : List D} {i : Nat} {e : D} (h : es[i]? = some e) : es.take i ++ [e] = es.take (i + 1) := by
  rw [List.take_add_one, h]
  rfl
/-- a comprehension without tests, element by element; the slots stay -/
theorem pLc_map {pi : PI1} {pg : PG1} {ss : List Nat} {pe : PD} {vs : List Nat} {s : Sl} {q : S → Sl → Prop} (ds es : List D) (s1 S0 : Sl) (h1 : ∀ k : List D → Sl → Prop, k ds s1 → pi s k) (hl : ds.length ≤ 100000) (he : es.length = ds.length) (hs : ∀ i d, ds[i]? = some d → pg d S0 fun s3 => pe s3 fun e s5 => es.take i ++ [e] = es.take (i + 1) ∧ wipeS s5 vs = S0)
    (hq : q (.ow false (.lst es)) S0) (hss : ss.all vs.contains = true := by rfl) (h0 : wipeS s1 vs = S0 := by rfl) : pLc pi pg ss (fun s y _ => y s) pe vs s q := by
  refine h1 _ ?_
  show (if ss.all vs.contains = true then _ else False)
  rw [if_pos hss]
  refine ⟨hl, fun i acc s => acc = es.take i ∧ s = S0, ⟨rfl, h0⟩, ?_, ?_⟩
  · rintro i d acc s2 hd ⟨rfl, rfl⟩
    exact hs i d hd
  · rintro acc s2 ⟨rfl, rfl⟩
    rw [← he, List.take_length]
    exact hq
theorem map_at {α : Type} {f : α → D} {xs : List α} {i : Nat} {d : D} (h : (xs.map f)[i]? = some d) : ∃ x, xs[i]? = some x ∧ d = f x := by
  rw [List.getElem?_map] at h
  cases e : xs[i]? with
  | none => rw [e] at h; cases h
  | some x => rw [e] at h; exact ⟨x, rfl, (Option.some.inj h).symm⟩
theorem at_map {α : Type} {f : α → D} {xs : List α} {i : Nat} {x : α} (h : xs[i]? = some x) : (xs.map f)[i]? = some (f x) := by
  rw [List.getElem?_map, h]
  rfl
theorem lt_of_at {α : Type} {xs : List α} {i : Nat} {x : α} (h : xs[i]? = some x) : i < xs.length := (List.getElem?_eq_some_iff.mp h).1
theorem take_snocM {α β : Type} {f : α → β} {xs : List α} {i : Nat} {x : α} (h : xs[i]? = some x) : (xs.map f).take i ++ [f x] = (xs.map f).take (i + 1) := by
  rw [List.take_add_one, List.getElem?_map, h]
  rfl
theorem D.lst_inj {a b : List D} (h : D.lst a = D.lst b) : a = b := by injection h
theorem map_inj {α : Type} {f : α → D} (hf : ∀ a b, f a = f b → a = b) : ∀ {xs ys : List α}, xs.map f = ys.map f → xs = ys
  | [], [], _ => rfl
  | [], _ :: _, h => by cases h
  | _ :: _, [], h => by cases h
  | x :: xs, y :: ys, h => by
    rw [List.map_cons, List.map_cons, List.cons.injEq] at h
    rw [hf x y h.1, map_inj hf h.2]
theorem int_inj {a b : Int} (h : D.int a = D.int b) : a = b := by injection h
theorem all_pl {α : Type} {f : α → D} {n : Nat} (h : ∀ x, D.plN n (f x) = true) (xs : List α) : D.plN (n + 1) (.lst (xs.map f)) = true := by
  show (xs.map f).all (D.plN n) = true
  rw [List.all_eq_true]
  intro d hd
  obtain ⟨x, _, rfl⟩ := List.mem_map.mp hd
  exact h x
theorem atI_get {ds : List D} {i : Int} {d : D} (h0 : 0 ≤ i) (h : ds[i.toNat]? = some d) : atI ds i = some d := by
  have hl := lt_of_at h
  unfold atI ixN
  rw [if_pos h0, if_pos (by omega)]
  exact h
theorem nf {b : Bool} (h : not b = false) : b = true := by cases b <;> first | rfl | cases h
theorem nt {b : Bool} (h : not b = true) : b = false := by cases b <;> first | rfl | cases h

/-! ### fractions by data -/
def dF (r : Rat) : D := .tup [.int r.num, .int (r.den : Int)]
def dFs (rs : List Rat) : D := .lst (rs.map dF)
theorem dF_inj {a b : Rat} (h : dF a = dF b) : a = b := by
  unfold dF at h
  injection h with h
  injection h with h1 h
  injection h1 with h1
  injection h with h2 h
  injection h2 with h2
  exact rat_eq h1 h2
abbrev LIM : Nat := 980
section
variable {X : Cx}
/-- // by any divisor of moderate size -/
theorem op_fdivZ : OpR X (binaryOp .FloorDiv) (rI (fun _ j => j ≠ 0 ∧ j.natAbs < 2 ^ 8000) fun i j => .int (i.fdiv j)) :=
  opI fun i j _ _ _ _ _ hc q => floordiv_int hc.1 q
    (.inl (PyProof.noPylong_of_log2 (Nat.lt_of_lt_of_le (log2_lt' (by decide) hc.2) (by decide))))
end
theorem mulOk {i j : Int} {m n : Nat} (hi : i.natAbs < 2 ^ m) (hj : j.natAbs < 2 ^ n) (h : m + n ≤ 100000) (hm : 0 < m) (hn : 0 < n) : CMulW i j := wide_mul hi hj hm hn (by omega)
theorem mulFF {a b : Rat} (ha : Sz LIM a) (hb : Sz LIM b) : CMulW a.num (b.den : Int) := mulOk ha.1 hb.d (by decide) (by decide) (by decide)
theorem mulNN {a b : Rat} (ha : Sz LIM a) (hb : Sz LIM b) : CMulW a.num b.num := mulOk ha.1 hb.1 (by decide) (by decide) (by decide)
theorem mulDD {a b : Rat} (ha : Sz LIM a) (hb : Sz LIM b) : CMulW (a.den : Int) (b.den : Int) := mulOk ha.d hb.d (by decide) (by decide) (by decide)
theorem mulDN {a b : Rat} (ha : Sz LIM a) (hb : Sz LIM b) : CMulW (a.den : Int) b.num := mulOk ha.d hb.1 (by decide) (by decide) (by decide)
theorem less_is {a b : Rat} : decide (a.num * (b.den : Int) < b.num * (a.den : Int)) = decide (a < b) := by
  by_cases h : a < b
  · rw [decide_eq_true h, decide_eq_true ((Rat.lt_iff a b).mp h)]
  · rw [decide_eq_false h, decide_eq_false fun z => h ((Rat.lt_iff a b).mpr z)]
def LowQ (q : Int) : Prop := 0 < q
theorem LowQ.dd (a b : Rat) : LowQ ((a.den : Int) * b.den) := by
  have h1 := a.den_pos
  have h2 := b.den_pos
  show 0 < (a.den : Int) * b.den
  exact Int.mul_pos (by omega) (by omega)

def psp_two (f : Rat → Rat → Rat) (ok : Rat → Rat → Prop) : Psp := ⟨2, fun xs q => ∃ a b : Rat, xs = [.fr (dF a), .fr (dF b)] ∧ (Sz LIM a ∧ Sz LIM b ∧ ok a b) ∧ q (.fr (dF (f a b))) []⟩
def psp_less : Psp := ⟨2, fun xs q => ∃ a b : Rat, xs = [.fr (dF a), .fr (dF b)] ∧ (Sz LIM a ∧ Sz LIM b) ∧ q (.fr (.bl (decide (a < b)))) []⟩
def psp_low (C : Int → Prop) : Psp := ⟨2, fun xs q => ∃ n d : Int, xs = [.fr (.int n), .fr (.int d)] ∧ (C d ∧ n.natAbs < 2 ^ 1990 ∧ d.natAbs < 2 ^ 1990) ∧ q (.fr (dF (Rat.divInt n d))) []⟩
abbrev sp_lowest (K : PySem.W.Frag) : Sp := Lsp K (psp_low (· ≠ 0))
abbrev sp_plus (K : PySem.W.Frag) : Sp := Lsp K (psp_two (· + ·) fun _ _ => True)
abbrev sp_minus (K : PySem.W.Frag) : Sp := Lsp K (psp_two (· - ·) fun _ _ => True)
abbrev sp_times (K : PySem.W.Frag) : Sp := Lsp K (psp_two (· * ·) fun _ _ => True)
abbrev sp_over (K : PySem.W.Frag) : Sp := Lsp K (psp_two (· / ·) fun _ b => b ≠ 0)
abbrev sp_less (K : PySem.W.Frag) : Sp := Lsp K psp_less
abbrev sp__law_low (K : PySem.W.Frag) : Sp := Lsp K (psp_low LowQ)
abbrev sp__law_plus (K : PySem.W.Frag) : Sp := Lsp K (psp_two (· + ·) fun _ _ => True)
abbrev sp__law_minus (K : PySem.W.Frag) : Sp := Lsp K (psp_two (· - ·) fun _ _ => True)
abbrev sp__law_times (K : PySem.W.Frag) : Sp := Lsp K (psp_two (· * ·) fun _ _ => True)
abbrev sp__law_less (K : PySem.W.Frag) : Sp := Lsp K psp_less
/-! ### sums -/
def rsum (rs : List Rat) : Rat := rs.foldl (· + ·) 0
theorem rsum_take {rs : List Rat} {i : Nat} {r : Rat} (h : rs[i]? = some r) : rsum (rs.take (i + 1)) = rsum (rs.take i) + r := by
  unfold rsum
  rw [List.take_add_one, h, Option.toList_some, List.foldl_append]
  rfl
theorem sz_rsum {m : Nat} {rs : List Rat} (h : ∀ r ∈ rs, Sz m r) : ∀ i, i ≤ rs.length → Sz (i * (m + 1) + 1) (rsum (rs.take i))
  | 0, _ => by
    rw [List.take_zero]
    exact sz_zero.mono (by omega)
  | i + 1, hi => by
    have hlt : i < rs.length := hi
    have e : rs[i]? = some rs[i] := List.getElem?_eq_getElem hlt
    rw [rsum_take e]
    have := (sz_rsum h i (by omega)).add (h _ (List.getElem_mem hlt))
    refine this.mono ?_
    rw [Nat.add_mul]
    omega
theorem sz_rsumA {m n : Nat} {rs : List Rat} (h : ∀ r ∈ rs, Sz m r) (hn : rs.length * (m + 1) + 1 ≤ n) : Sz n (rsum rs) := by
  have := sz_rsum h rs.length (Nat.le_refl _)
  rw [List.take_length] at this
  exact this.mono hn
theorem foldl_add (rs : List Rat) (a : Rat) : rs.foldl (· + ·) a = a + rs.foldl (· + ·) 0 := by
  induction rs generalizing a with
  | nil => show a = a + 0; grind
  | cons r rs ih =>
    rw [List.foldl_cons, List.foldl_cons, ih (a + r), ih (0 + r)]
    grind
theorem rsum_cons (r : Rat) (rs : List Rat) : rsum (r :: rs) = r + rsum rs := by
  unfold rsum
  rw [List.foldl_cons, foldl_add]
  grind
theorem rsum_nil : rsum [] = 0 := rfl
theorem rsum_perm {a b : List Rat} (h : a.Perm b) : rsum a = rsum b := by
  induction h with
  | nil => rfl
  | cons x _ ih => rw [rsum_cons, rsum_cons, ih]
  | swap x y l => simp only [rsum_cons]; grind
  | trans _ _ h1 h2 => rw [h1, h2]
theorem rsum_app (a b : List Rat) : rsum (a ++ b) = rsum a + rsum b := by
  induction a with
  | nil => rw [List.nil_append, rsum_nil]; grind
  | cons x a ih => rw [List.cons_append, rsum_cons, rsum_cons, ih]; grind
theorem rsum_mul (c : Rat) (a : List Rat) : rsum (a.map (c * ·)) = c * rsum a := by
  induction a with
  | nil => rw [List.map_nil, rsum_nil]; grind
  | cons x a ih => rw [List.map_cons, rsum_cons, rsum_cons, ih]; grind
theorem rsum_le {α : Type} {f g : α → Rat} {a : List α} (h : ∀ x ∈ a, f x ≤ g x) : rsum (a.map f) ≤ rsum (a.map g) := by
  induction a with
  | nil => exact Rat.le_refl
  | cons x a ih =>
    rw [List.map_cons, List.map_cons, rsum_cons, rsum_cons]
    have h1 := h x List.mem_cons_self
    have h2 := ih fun y hy => h y (List.mem_cons_of_mem _ hy)
    grind
theorem sq_nn (a : Rat) : 0 ≤ a * a := by
  rcases (Rat.le_total : 0 ≤ a ∨ a ≤ 0) with h | h
  · exact Rat.mul_nonneg h h
  · have : 0 ≤ -a := by grind
    have := Rat.mul_nonneg this this
    grind
/-- a sum that stays small on its way -/
def SumOk (rs : List Rat) : Prop := (∀ r ∈ rs, Sz LIM r) ∧ ∀ i, Sz LIM (rsum (rs.take i))
theorem sumOk {rs : List Rat} (m : Nat) (h : ∀ r ∈ rs, Sz m r) (hl : rs.length * (m + 1) + 1 ≤ LIM) (hm : m ≤ LIM) : SumOk rs := by
  refine ⟨fun r hr => (h r hr).mono hm, fun i => ?_⟩
  refine sz_rsumA (m := m) (fun r hr => h r (List.mem_of_mem_take hr)) ?_
  have : (rs.take i).length * (m + 1) ≤ rs.length * (m + 1) := Nat.mul_le_mul_right _ (List.length_take_le' i rs)
  omega
def psp_sum_of : Psp := ⟨1, fun xs q => ∃ rs : List Rat, xs = [.fr (dFs rs)] ∧ SumOk rs ∧ q (.fr (dF (rsum rs))) []⟩
abbrev sp_sum_of (K : PySem.W.Frag) : Sp := Lsp K psp_sum_of
theorem sz_int {n : Nat} {w : Int} (h : w.natAbs < 2 ^ n) (hn : 0 < n) : Sz n (w : Rat) := by
  refine ⟨h, ?_⟩
  show 1 < 2 ^ n
  exact Nat.one_lt_two_pow (by omega)
theorem plN_int (n : Nat) (i : Int) : D.plN n (.int i) = true := by cases n <;> rfl
theorem pl_dF (n : Nat) (r : Rat) : D.plN (n + 1) (dF r) = true := by
  show (D.plN n (.int r.num) && (D.plN n (.int (r.den : Int)) && true)) = true
  rw [plN_int, plN_int]
  rfl
theorem pl_dFs (n : Nat) (rs : List Rat) : D.plN (n + 2) (dFs rs) = true := all_pl (pl_dF n) rs
theorem mulS {i j : Int} (hi : i.natAbs < 2 ^ 64) (hj : j.natAbs < 2 ^ 64) : CMulW i j := mulOk hi hj (by decide) (by decide) (by decide)
theorem fmodS (x : Int) {m : Int} (h : 0 < m) : 0 ≤ x.fmod m ∧ x.fmod m < m := ⟨Int.fmod_nonneg_of_pos x h, Int.fmod_lt_of_pos x h⟩
theorem dF_neg (b : Rat) : dF (-b) = .tup [.int (0 - b.num), .int (b.den : Int)] := by
  unfold dF
  rw [Rat.neg_num, Rat.neg_den, Int.zero_sub]

/-! ### for x in (a name's own list): acc = e; the list stays its own -/
section
variable {K : PySem.W.Frag}
/-- an object that stands alone is a slot's own again -/
theorem Sta.own {F0 H0 F H : Hp} {ω0 ω : Om} {s : Sl} {σ : L2.St} {i : Nat} {l : Addr} {o : O} (p : Stp F0 H0 ω0 F H ω) (T : Sta K F H ω s σ) (hv : σ[i]? = some (some (.ref l))) (h0 : ω0 l = some (i, false)) (h1 : ω l = none) (h2 : F l = none) (ho : ObjR K F H l o) :
    ∃ ω', Stp F0 H0 ω0 F H ω' ∧ Sta K F H ω' (s.set i (some (.ow false o))) σ := by
  refine ⟨fun c => if c = l then some (i, false) else ω c, ⟨p.sf, p.fr, fun c o q1 q2 => ?_, p.fn, p.tr, fun c j => ?_⟩, ⟨T.sf, fun c q hq => ?_, fun j x h => ?_, by rw [List.length_set]; exact T.len⟩⟩
  · show (if c = l then some (i, false) else ω c) = none
    rw [if_neg (fun z => by rw [z, h0] at q1; cases q1)]
    exact p.om c o q1 q2
  · show (if c = l then some (i, false) else ω c) = some (j, true) ↔ _
    split
    · rename_i hc
      subst hc
      rw [h0]
    · exact p.bk c j
  · have hq' : (if c = l then some (i, false) else ω c) = some q := hq
    split at hq'
    · rename_i hc
      subst hc
      exact ⟨h2, ho.has⟩
    · exact T.ow c q hq'
  · rw [List.getElem?_set] at h
    split at h
    · rename_i hij
      subst hij
      split at h
      · have h' := Option.some.inj (Option.some.inj h)
        subst h'
        exact ⟨_, hv, l, rfl, if_pos rfl, ho⟩
      · cases h
    · obtain ⟨v, h4, h5⟩ := T.at' j x h
      refine ⟨v, h4, ?_⟩
      cases x with
      | fr d => exact h5
      | ow b o =>
        obtain ⟨l', rfl, h6, h7⟩ := h5
        refine ⟨l', rfl, ?_, h7⟩
        show (if l' = l then some (i, false) else ω l') = _
        rw [if_neg (fun z => by rw [z, h1] at h6; cases h6)]
        exact h6
def psForAcc (i j k : Nat) (pe : PX) : PS1 := fun E s => match s[i]? with
  | some (some (.ow false (.lst ds))) => if (i != j && i != k) = true then ∃ I : Nat → Sl → Prop, I 0 (s.set i none) ∧
      (∀ n d s2, ds[n]? = some d → I n s2 → pe (s2.set j (some (.fr d))) fun x s3 => I (n + 1) (setS k x s3)) ∧ ∀ s2, I ds.length s2 → E.nx (s2.set i (some (.ow false (.lst ds)))) else False
  | _ => psFor (pIterL (pDat (pVar i))) (pgName j) (psSet k pe) E s
instance (priority := high) {i j k : Nat} {te : TE} {pe : PX} [LiftE K te pe] : LiftS K (tFor (iList K (tVar i)) (gName j) (tAsg te (gName k))) (psForAcc i j k pe) := ⟨fun {H0 F H ω s σ D} E T h M => by
  unfold psForAcc at h
  split at h
  rotate_left
  · exact LiftS.run (K := K) (t := tFor (iList K (tVar i)) (gName j) (tAsg te (gName k))) (p := psFor (pIterL (pDat (pVar i))) (pgName j) (psSet k pe)) E T h M
  rename_i ds e
  split at h
  rotate_left
  · exact h.elim
  rename_i hne
  have hij : i ≠ j := fun z => by rw [z] at hne; simp at hne
  have hik : i ≠ k := fun z => by rw [z] at hne; simp at hne
  obtain ⟨I, i0, istep, iend⟩ := h
  obtain ⟨l, ω1, hv, hl, p1, T1, w1, f1, ws, hl1, hr1⟩ := T.letgo e
  refine ⟨_, hv, l, rfl, ⟨ws, SqL.of hl1⟩, ?_⟩
  refine for_it (walk_list (K := K) (a := l) (xs := ws)) (fun n σ' H' => ∃ F2 ω2 s2, Stp F H ω F2 H' ω2 ∧ Sta K F2 H' ω2 s2 σ' ∧ σ'[i]? = some (some (.ref l)) ∧ H' l = some (.lst ws) ∧ ω2 l = none ∧ F2 l = none ∧ I n s2) ⟨F, ω1, _, p1, T1, hv, hl1, w1, f1, i0⟩ ?_ ?_ ?_
  · rintro n σ' H' hn ⟨F2, ω2, s2, p3, T3, a0, a1, _⟩
    exact SqL.of a1
  · rintro n x σ' H' H'' hn ⟨F2, ω2, s2, p3, T3, a0, a1, a2, a3, hI⟩ y
    obtain ⟨rfl, hx⟩ := y
    obtain ⟨d, hd, hr⟩ := hr1.getV hx
    have T4 := T3.set j (hr.mono p3.sf)
    refine LiftE.run (K := K) (t := te) (p := pe) _ T4 (istep n d s2 hd hI) fun v F5 H5 ω5 z s5 p5 T5 r5 h5 => ?_
    have b1 := p5.fr l _ a2 a1
    have b2 := p5.om l _ a2 a1
    have b3 := p5.fn l _ a2 a1 a3
    have e1 : ((σ'.set j (some x)).set k (some v))[i]? = some (some (.ref l)) := by
      rw [List.getElem?_set_ne (fun q => hik q.symm), List.getElem?_set_ne (fun q => hij q.symm)]
      exact a0
    cases z with
    | fr d2 => exact ⟨F5, ω5, _, p3.trans p5, T5.set k r5, e1, b1, b2, b3, h5⟩
    | ow b o =>
      obtain ⟨l2, rfl, q0, q1, q2, q3⟩ := r5
      have hne2 : l2 ≠ l := fun z => by rw [z, a1] at q0; cases q0
      obtain ⟨ω6, p6, T6⟩ := Sta.setO (v := .ref l2) (b := b) (o := o) p5 T5 k ⟨l2, rfl, q0, q1, q2, q3⟩
      refine ⟨F5, ω6, _, p3.trans p6, T6, e1, b1, p6.om l _ a2 a1, b3, h5⟩
  · rintro σ' H' ⟨F2, ω2, s2, p3, T3, a0, a1, a2, a3, hI⟩
    obtain ⟨ω3, p4, T4⟩ := Sta.own p3 T3 a0 hl a2 a3 (o := .lst ds) ⟨ws, a1, hr1.mono p3.sf⟩
    rw [← hr1.len] at hI
    exact M.nx p4 T4 (iend s2 hI)⟩
end

/-! ### xs.remove(y), items data of any depth -/
section
open PySem.SeqAt PySem.MeetsSeq
theorem remD_loop (l : Addr) (us : Array Value) (n : Nat) (y : Value) (f : Value → Bool) (j : Nat) (hj : j < us.size) (hit : f us[j] = true) (hz : us.size ≤ sizeLine) (k : Nat) :
    ∀ i : Nat, j - i = k → i ≤ j → (∀ m (q : m < us.size), i ≤ m → m < j → f us[m] = false) →
    PySem.Meets (Builtin.«list.remove.loop» ⟨[.ref l, y, rawInt i], []⟩) (fun A R s => s.heap.get? l = some ⟨.type "list", none, .seq us n, #[]⟩ ∧ (∀ u, u ∈ us → EqAt A.in1 s u y (f u)) ∧
      R (.ok (.ret .none)) { s with heap := s.heap.update l (Obj.mapSeq fun xs => xs.eraseIdxIfInBounds j) }) := by
  induction k with
  | zero =>
    intro i e1 e2 no prog w A R s h
    obtain ⟨hp, g, d, tk, os⟩ := s
    obtain ⟨hl, he, h⟩ := h
    obtain rfl : i = j := by omega
    wp_walk using wpAny_loadPart' hl
    have at_ : us[((i : Nat) : Int).toNat]? = some us[i] := by simp [hj]
    rw [at_]
    refine wpAny_bind (he _ (Array.getElem_mem hj) prog w _ _ ?_)
    rw [hit]
    have z2 : (us.eraseIdxIfInBounds i).size ≤ sizeLine + 1 := by
      have := size_erased us i
      omega
    wp_walk using (wpAny_updateSeq hl rfl (hz := hz) (_hz' := z2)), wpAny_loadPart' hl
    simpa using h
  | succ k ih =>
    intro i e1 e2 no prog w A R s h
    obtain ⟨hp, g, d, tk, os⟩ := s
    obtain ⟨hl, he, h⟩ := h
    have lt : i < us.size := by omega
    wp_walk using wpAny_loadPart' hl
    have at_ : us[((i : Nat) : Int).toNat]? = some us[i] := by simp [lt]
    have nx : ((i : Int) + 1) = ((i + 1 : Nat) : Int) := by push_cast; rfl
    rw [at_]
    refine wpAny_bind (he _ (Array.getElem_mem lt) prog w _ _ ?_)
    rw [no i lt (Nat.le_refl _) (by omega)]
    wp_walk
    rw [nx]
    refine ⟨plainId_quiet plain_remove_loop _, codeAny_builtin entry_remove_loop ?_⟩
    rw [Around.under_plainId plain_remove_loop _]
    exact ih (i + 1) (by omega) (by omega) (fun m q a b => no m q (by omega) b) prog w A R _ ⟨hl, he, h⟩
theorem remD (l : Addr) (us : Array Value) (n : Nat) (y : Value) (f : Value → Bool) (j : Nat) (hj : j < us.size) (hit : f us[j] = true) (no : ∀ m (q : m < us.size), m < j → f us[m] = false) (hz : us.size ≤ sizeLine) :
    PySem.Meets (Builtin.«list.remove» ⟨[.ref l, y], []⟩) (fun A R s => s.heap.get? l = some ⟨.type "list", none, .seq us n, #[]⟩ ∧ (∀ u, u ∈ us → EqAt A.in1 s u y (f u)) ∧
      R (.ok (.ret .none)) { s with heap := s.heap.update l (Obj.mapSeq fun xs => xs.eraseIdxIfInBounds j) }) := by
  intro prog w A R s h
  obtain ⟨hp, g, d, tk, os⟩ := s
  obtain ⟨hl, he, h⟩ := h
  wp_walk using wpAny_loadPart' hl
  refine ⟨plainId_quiet plain_remove_loop _, codeAny_builtin entry_remove_loop ?_⟩
  rw [Around.under_plainId plain_remove_loop _]
  exact remD_loop l us n y f j hj hit hz _ 0 rfl (Nat.zero_le _) (fun m q _ b => no m q b) prog w A R _ ⟨hl, he, h⟩
end
def rRemD (K : PySem.W.Frag) : V → List V → Hp → VK → Prop := fun x xs H Q => ∃ (l : Addr) (vs : List V) (y : V) (d : PyData) (ds : List PyData) (j : Nat) (z : PyData), x = .ref l ∧ xs = [y] ∧ H l = some (.lst vs) ∧ DpAll K H vs ds ∧ Dp K H y d ∧
  SeqAt.shaped (.list ds) = true ∧ SeqAt.shaped d = true ∧ ds[j]? = some z ∧ PyData.eqv z d = true ∧ (∀ (m : Nat) (z' : PyData), m < j → ds[m]? = some z' → PyData.eqv z' d = false) ∧ Q .non (upd H l (.lst (vs.eraseIdx j)))
theorem mt_remD {X : Cx} (hu : X.A.units + 65 < cLine) : MtR X "list.remove" (rRemD X.K) := by
  intro pins s σ H x xs v us Q I rx rxs h
  obtain ⟨l, vs, y, d, ds, j, z, rfl, rfl, hH, ha, hy, sl, sd, hz, hzj, hno, q⟩ := h
  cases rx
  cases rxs with
  | cons ry rt =>
    rename_i uy ut
    cases rt
    obtain ⟨bs, r1⟩ := Dp.reads I d y uy hy ry
    have lay : PyData.canLayAll0 ds = true := SeqAt.canLay_of_shaped sl
    have room := room_in_shaped (A := X.A) (xs := ds) sd hu
    obtain ⟨zl, its, n, r, hl, e⟩ := I.lstM hH
    obtain ⟨as, h4⟩ := Dp.readsAll I ds _ its ha r
    have hn : its.length = ds.length := SeqAt.ReadsAll.length ds its as h4
    have hmap : its.map (SeqAt.readOf s.heap) = ds := SeqAt.readsAll_map ds its as lay h4
    have hj : j < its.toArray.size := by
      have := (List.getElem?_eq_some_iff.mp hz).1
      rw [List.size_toArray]
      omega
    have rd : ∀ (m : Nat) (hm : m < its.toArray.size) (z' : PyData), ds[m]? = some z' → SeqAt.readOf s.heap its.toArray[m] = z' := fun m hm z' hz' => by
      have hml : m < its.length := by simpa using hm
      rw [← hmap, List.getElem?_map, List.getElem?_eq_getElem hml] at hz'
      have e1 := Option.some.inj hz'
      simpa using e1
    have hsz : its.toArray.size ≤ sizeLine := by
      have := r.length
      rw [List.size_toArray]
      omega
    refine call_meets PySem.F.slot_list_remove ⟨_, e, rfl⟩ PySem.F.entry_list_remove (PySem.F.args_list_remove_2 _ _)
      (remD l its.toArray n uy (fun u => PyData.eqv (SeqAt.readOf s.heap u) d) j hj ?_ ?_ hsz) ⟨e, SeqAt.items_eqAt (vs := its.toArray) h4 r1 lay (SeqAt.canLay_of_shaped sd) room, ?_⟩
    · show PyData.eqv (SeqAt.readOf s.heap its.toArray[j]) d = true
      rw [rd j hj z hz]
      exact hzj
    · intro m hm hmj
      have hmd : m < ds.length := by
        rw [List.size_toArray] at hm
        omega
      have hz' : ds[m]? = some ds[m] := List.getElem?_eq_getElem hmd
      show PyData.eqv (SeqAt.readOf s.heap its.toArray[m]) d = false
      rw [rd m hm _ hz']
      exact hno m _ hmj hz'
    · refine ⟨.non, _, I.lset (its' := its.eraseIdx j) (t' := s.toks) hH e ?_ (r.eraseIdx j) ?_, rfl, q⟩
      · show its.toArray.eraseIdxIfInBounds j = (its.eraseIdx j).toArray
        rw [List.eraseIdxIfInBounds_toArray]
      · have := List.length_eraseIdx_le vs j
        omega
theorem room65 {k : Nat} {A : Around} (hr : Room k A) : A.units + 65 < cLine := by
  have := hr.un
  omega
theorem mt_remDk {X : Cx} {K : PySem.W.Frag} (h : X.K = K) (hu : X.A.units + 65 < cLine) : MtR X "list.remove" (rRemD K) := by
  subst h
  exact mt_remD hu
section
variable {K : PySem.W.Frag}
theorem pys_at : ∀ {ds : List D} {i : Nat}, (D.pys ds)[i]? = ds[i]?.map D.py
  | [], i => by simp [D.pys]
  | d :: ds, 0 => by simp [D.pys]
  | d :: ds, i + 1 => by simpa [D.pys] using pys_at (ds := ds) (i := i)
/-- what is removed is there, at j first -/
def gRemD : List D → List D → (D → List D → Prop) → Prop := fun xs ds q => match ds with
  | [d] => ∃ j, (xs.all (D.plN 50) = true ∧ D.plN 50 d = true) ∧ xs[j]? = some d ∧ (∀ m, m < j → xs[m]? ≠ some d) ∧ q .non (xs.eraseIdx j)
  | _ => False
instance : MuL K (rRemD K) gRemD := ⟨fun {F H l xs ws vs ds Q} q hs hF hl hx hd h k => by
  unfold gRemD at h
  split at h
  · obtain ⟨j, ⟨p1, p2⟩, e1, e2, hq⟩ := h
    obtain ⟨v, rfl, r⟩ := hd.one
    obtain ⟨b1, b2, b3⟩ := pys_of (fun hp h => py_of 50 hp h) p1 (hx.mono hs)
    obtain ⟨a1, a2, a3⟩ := py_of 50 p2 (r.mono hs)
    refine ⟨l, ws, v, _, _, j, _, rfl, rfl, hl, b1, a1, shaped_mk b2 (show PyData.depthAll _ + 1 ≤ 64 by omega), shaped_mk a2 (by omega), by rw [pys_at, e1]; rfl, ?_, fun m z' hm hz' => ?_, k _ _ .non _ rfl (hx.erase j) hq⟩
    · exact (eqv_iff 50 p2 p2).mpr rfl
    · rw [pys_at] at hz'
      cases e : xs[m]? with
      | none => rw [e] at hz'; cases hz'
      | some x =>
        rw [e] at hz'
        cases hz'
        have px : D.plN 50 x = true := List.all_eq_true.mp p1 x (List.mem_of_getElem? e)
        refine Bool.eq_false_iff.mpr fun z => ?_
        have := (eqv_iff 50 px p2).mp z
        subst this
        exact e2 m hm e
  · exact h.elim⟩
end

structure Txt (K : PySem.W.Frag) (mg : Str → Option Value) where
  a_SamphireError : Addr
  g_SamphireError : mg "SamphireError" = some (.ref a_SamphireError)
  kp_SamphireError : PySem.W.keepIn K (.ref a_SamphireError) = true
  sb_SamphireError : PySem.W.subIn K (.ref a_SamphireError) (.type "BaseException") = some true
  ty_SamphireError : PySem.W.typeIn K (.ref a_SamphireError) = some (.type "type")
  te_SamphireError : PySem.W.exmOne K (.ref a_SamphireError) (.ref a_SamphireError) = some true
  a_ZeroDenominator : Addr
  g_ZeroDenominator : mg "ZeroDenominator" = some (.ref a_ZeroDenominator)
  kp_ZeroDenominator : PySem.W.keepIn K (.ref a_ZeroDenominator) = true
  sb_ZeroDenominator : PySem.W.subIn K (.ref a_ZeroDenominator) (.type "BaseException") = some true
  ty_ZeroDenominator : PySem.W.typeIn K (.ref a_ZeroDenominator) = some (.type "type")
  te_ZeroDenominator : PySem.W.exmOne K (.ref a_ZeroDenominator) (.ref a_ZeroDenominator) = some true
  x_ZeroDenominator : PySem.W.excIn K a_ZeroDenominator [.type "ValueError", .type "Exception", .type "BaseException", .type "object"] "ValueError.__new__" = true
  f_lowest : Addr
  fd_lowest : FuncData
  F_lowest : Fun K "lowest" "lowest" s_lowest f_lowest fd_lowest
  b_lowest : Binds K fd_lowest ["p", "q"] []
  g_lowest : mg "lowest" = some (.ref f_lowest)
  f_plus : Addr
  fd_plus : FuncData
  F_plus : Fun K "plus" "plus" s_plus f_plus fd_plus
  b_plus : Binds K fd_plus ["a", "b"] []
  g_plus : mg "plus" = some (.ref f_plus)
  f_minus : Addr
  fd_minus : FuncData
  F_minus : Fun K "minus" "minus" s_minus f_minus fd_minus
  b_minus : Binds K fd_minus ["a", "b"] []
  g_minus : mg "minus" = some (.ref f_minus)
  f_over : Addr
  fd_over : FuncData
  F_over : Fun K "over" "over" s_over f_over fd_over
  b_over : Binds K fd_over ["a", "b"] []
  g_over : mg "over" = some (.ref f_over)
  f_less : Addr
  fd_less : FuncData
  F_less : Fun K "less" "less" s_less f_less fd_less
  b_less : Binds K fd_less ["a", "b"] []
  g_less : mg "less" = some (.ref f_less)
  f_sum_of : Addr
  fd_sum_of : FuncData
  F_sum_of : Fun K "sum_of" "sum_of" s_sum_of f_sum_of fd_sum_of
  b_sum_of : Binds K fd_sum_of ["fractions"] []
  g_sum_of : mg "sum_of" = some (.ref f_sum_of)
  f_greater : Addr
  fd_greater : FuncData
  F_greater : Fun K "greater" "greater" s_greater f_greater fd_greater
  b_greater : Binds K fd_greater ["one", "other"] []
  g_greater : mg "greater" = some (.ref f_greater)
  f_threshold : Addr
  fd_threshold : FuncData
  F_threshold : Fun K "threshold" "threshold" s_threshold f_threshold fd_threshold
  b_threshold : Binds K fd_threshold ["weights", "size"] []
  g_threshold : mg "threshold" = some (.ref f_threshold)
  f__law_mix : Addr
  fd__law_mix : FuncData
  F__law_mix : Fun K "_law_mix" "_law_mix" s__law_mix f__law_mix fd__law_mix
  b__law_mix : Binds K fd__law_mix ["_law_number", "_law_k"] []
  g__law_mix : mg "_law_mix" = some (.ref f__law_mix)
  f__law_numbers : Addr
  fd__law_numbers : FuncData
  F__law_numbers : Fun K "_law_numbers" "_law_numbers" s__law_numbers f__law_numbers fd__law_numbers
  b__law_numbers : Binds K fd__law_numbers ["_law_script", "_law_count"] []
  g__law_numbers : mg "_law_numbers" = some (.ref f__law_numbers)
  f__law_take : Addr
  fd__law_take : FuncData
  F__law_take : Fun K "_law_take" "_law_take" s__law_take f__law_take fd__law_take
  b__law_take : Binds K fd__law_take ["_law_row", "_law_bound"] []
  g__law_take : mg "_law_take" = some (.ref f__law_take)
  f__law_low : Addr
  fd__law_low : FuncData
  F__law_low : Fun K "_law_low" "_law_low" s__law_low f__law_low fd__law_low
  b__law_low : Binds K fd__law_low ["_law_p", "_law_q"] []
  g__law_low : mg "_law_low" = some (.ref f__law_low)
  f__law_plus : Addr
  fd__law_plus : FuncData
  F__law_plus : Fun K "_law_plus" "_law_plus" s__law_plus f__law_plus fd__law_plus
  b__law_plus : Binds K fd__law_plus ["_law_one", "_law_other"] []
  g__law_plus : mg "_law_plus" = some (.ref f__law_plus)
  f__law_less : Addr
  fd__law_less : FuncData
  F__law_less : Fun K "_law_less" "_law_less" s__law_less f__law_less fd__law_less
  b__law_less : Binds K fd__law_less ["_law_one", "_law_other"] []
  g__law_less : mg "_law_less" = some (.ref f__law_less)
  f__law_sum : Addr
  fd__law_sum : FuncData
  F__law_sum : Fun K "_law_sum" "_law_sum" s__law_sum f__law_sum fd__law_sum
  b__law_sum : Binds K fd__law_sum ["_law_rows"] []
  g__law_sum : mg "_law_sum" = some (.ref f__law_sum)
  f__law_weight : Addr
  fd__law_weight : FuncData
  F__law_weight : Fun K "_law_weight" "_law_weight" s__law_weight f__law_weight fd__law_weight
  b__law_weight : Binds K fd__law_weight ["_law_row"] []
  g__law_weight : mg "_law_weight" = some (.ref f__law_weight)
  f_law : Addr
  fd_law : FuncData
  F_law : Fun K "law" "law" s_law f_law fd_law
  b_law : Binds K fd_law ["_law_script"] []
  g_law : mg "law" = some (.ref f_law)
  a_NOTHING_optimal : Addr
  g_NOTHING_optimal : mg "NOTHING_optimal" = some (.ref a_NOTHING_optimal)
  v_NOTHING_optimal : ∀ H : Hp, SqT K H a_NOTHING_optimal [.int (0), .int (1)]
  a_NOTHING_ratios : Addr
  g_NOTHING_ratios : mg "NOTHING_ratios" = some (.ref a_NOTHING_ratios)
  v_NOTHING_ratios : ∀ H : Hp, SqT K H a_NOTHING_ratios [.int (0), .int (1)]
  z_abs : mg "abs" = none
  z_int : mg "int" = none
  z_len : mg "len" = none
  z_list : mg "list" = none
  z_range : mg "range" = none
  g_gcd : mg "gcd" = some (.builtin "math.gcd")
instance {K : PySem.W.Frag} {mg : Str → Option Value} (T : Txt K mg) : ConD K (.ref T.a_NOTHING_optimal) (.tup [.int (0), .int (1)]) := ⟨fun F => ⟨_, _, rfl, T.v_NOTHING_optimal F, ⟨_, _, rfl, rfl, ⟨_, _, rfl, rfl, rfl⟩⟩⟩⟩
instance {K : PySem.W.Frag} {mg : Str → Option Value} (T : Txt K mg) : ConD K (.ref T.a_NOTHING_ratios) (.tup [.int (0), .int (1)]) := ⟨fun F => ⟨_, _, rfl, T.v_NOTHING_ratios F, ⟨_, _, rfl, rfl, ⟨_, _, rfl, rfl, rfl⟩⟩⟩⟩
section
variable {P : Program} {w : World} {K : PySem.W.Frag} {mg : Str → Option Value} {base : Heap}
/-! ### thresholds -/
def keepQ (w t : Rat) : Rat := if w < t then w / t else 1
structure Th (ws : List Rat) (k : Int) (t : Rat) : Prop where
  zero : (ws.length : Int) ≤ k → t = 0
  pos : k < ws.length → 0 < t ∧ rsum (ws.map (keepQ · t)) = (k : Rat)
theorem Th.nn {ws : List Rat} {k : Int} {t : Rat} (h : Th ws k t) : 0 ≤ t := by
  rcases Int.lt_or_le k ws.length with z | z
  · exact Rat.le_of_lt (h.pos z).1
  · rw [h.zero z]
    exact Rat.le_refl
theorem cast_succ (n : Nat) : (((n + 1 : Nat) : Int) : Rat) = ((n : Int) : Rat) + 1 := by
  rw [Int.natCast_add, Rat.intCast_add]
  rfl
theorem keepQ_big {t : Rat} : ∀ {ts : List Rat}, (∀ y ∈ ts, t ≤ y) → rsum (ts.map (keepQ · t)) = ((ts.length : Int) : Rat)
  | [], _ => rfl
  | y :: ts, h => by
    have h1 := h y List.mem_cons_self
    rw [List.map_cons, rsum_cons, keepQ_big fun z hz => h z (List.mem_cons_of_mem _ hz), List.length_cons, cast_succ]
    have : keepQ y t = 1 := by
      unfold keepQ
      rw [if_neg (by grind)]
    rw [this]
    grind
theorem keepQ_small {t : Rat} (ht : 0 < t) : ∀ {ss : List Rat}, (∀ y ∈ ss, y ≤ t) → rsum (ss.map (keepQ · t)) = rsum ss / t
  | [], _ => by
    show rsum [] = rsum [] / t
    rw [rsum_nil]
    grind
  | y :: ss, h => by
    have h1 := h y List.mem_cons_self
    rw [List.map_cons, rsum_cons, keepQ_small ht fun z hz => h z (List.mem_cons_of_mem _ hz), rsum_cons]
    have : keepQ y t = y / t := by
      unfold keepQ
      split
      · rfl
      · have : y = t := by grind
        subst this
        grind
    rw [this]
    grind
theorem keepQ_mono {w t t' : Rat} (hw : 0 < w) (h0 : 0 < t) (h : t < t') : keepQ w t' ≤ keepQ w t ∧ (w < t' → keepQ w t' < keepQ w t) := by
  unfold keepQ
  have hi := Rat.inv_pos.mpr h0
  have hi' := Rat.inv_pos.mpr (show 0 < t' by grind)
  have e1 : t * t⁻¹ = 1 := by grind
  have e2 : t' * t'⁻¹ = 1 := by grind
  have lt : t'⁻¹ < t⁻¹ := by
    have := Rat.mul_lt_mul_of_pos_right h (Rat.mul_pos hi hi')
    have e3 : t * (t⁻¹ * t'⁻¹) = t'⁻¹ := by grind
    have e4 : t' * (t⁻¹ * t'⁻¹) = t⁻¹ := by grind
    rw [e3, e4] at this
    exact this
  have l2 : w * t'⁻¹ < w * t⁻¹ := Rat.mul_lt_mul_of_pos_left lt hw
  by_cases c1 : w < t'
  · have l3 : w * t'⁻¹ < 1 := by
      have := Rat.mul_lt_mul_of_pos_right c1 hi'
      rw [e2] at this
      exact this
    rw [if_pos c1]
    split
    · rw [Rat.div_def, Rat.div_def]
      exact ⟨Rat.le_of_lt l2, fun _ => l2⟩
    · rw [Rat.div_def]
      exact ⟨Rat.le_of_lt l3, fun _ => l3⟩
  · rw [if_neg c1, if_neg (by grind)]
    exact ⟨Rat.le_refl, fun z => absurd z c1⟩
theorem keepQ_strict {t t' : Rat} (h0 : 0 < t) (h : t < t') : ∀ {ws : List Rat}, (∀ w ∈ ws, 0 < w) → (∃ w ∈ ws, w < t') → rsum (ws.map (keepQ · t')) < rsum (ws.map (keepQ · t))
  | [], _, he => by simp at he
  | w :: ws, hw, he => by
    have h1 := keepQ_mono (hw w List.mem_cons_self) h0 h
    have h2 : rsum (ws.map (keepQ · t')) ≤ rsum (ws.map (keepQ · t)) := rsum_le fun x hx => (keepQ_mono (hw x (List.mem_cons_of_mem _ hx)) h0 h).1
    rw [List.map_cons, List.map_cons, rsum_cons, rsum_cons]
    obtain ⟨x, hx, hlt⟩ := he
    rcases List.mem_cons.mp hx with rfl | hx
    · have := h1.2 hlt
      grind
    · have := keepQ_strict h0 h (ws := ws) (fun y hy => hw y (List.mem_cons_of_mem _ hy)) ⟨x, hx, hlt⟩
      grind
theorem some_small {ws : List Rat} {k : Int} {t : Rat} (h : rsum (ws.map (keepQ · t)) = (k : Rat)) (hk : k < ws.length) : ∃ w ∈ ws, w < t := by
  rcases Classical.em (∃ w ∈ ws, w < t) with z | z
  · exact z
  · have := keepQ_big (t := t) (ts := ws) fun y hy => Rat.not_lt.mp fun q => z ⟨y, hy, q⟩
    rw [h] at this
    have := Rat.intCast_inj.mp this
    omega
theorem Th.uniq {ws : List Rat} {k : Int} {t t' : Rat} (h : Th ws k t) (h' : Th ws k t') (hw : ∀ w ∈ ws, 0 < w) : t = t' := by
  rcases Int.lt_or_le k ws.length with z | z
  · have a := h.pos z
    have b := h'.pos z
    rcases Classical.em (t < t') with q | q
    · have := keepQ_strict a.1 q hw (some_small b.2 z)
      rw [a.2, b.2] at this
      grind
    · rcases Classical.em (t' < t) with q' | q'
      · have := keepQ_strict b.1 q' hw (some_small a.2 z)
        rw [a.2, b.2] at this
        grind
      · grind
  · rw [h.zero z, h'.zero z]
/-- how the search stands: what is left, what was taken off -/
structure ThI (ws : List Rat) (k : Int) (ls ts : List Rat) : Prop where
  perm : (ls ++ ts).Perm ws
  few : (ts.length : Int) < k
  top : ∀ y ∈ ts, rsum ls / ((k - ts.length : Int) : Rat) ≤ y
theorem ThI.done {ws : List Rat} {k : Int} {ls ts : List Rat} (h : ThI ws k ls ts) (hw : ∀ w ∈ ws, 0 < w) (hk : k < ws.length) (hx : ∀ y ∈ ls, y ≤ rsum ls / ((k - ts.length : Int) : Rat)) : Th ws k (rsum ls / ((k - ts.length : Int) : Rat)) := by
  have hfew := h.few
  have hl := h.perm.length_eq
  rw [List.length_append] at hl
  have hM : (0 : Rat) < ((k - ts.length : Int) : Rat) := Rat.intCast_pos.mpr (by omega)
  have h0 : 0 < rsum ls / ((k - ts.length : Int) : Rat) := by
    cases ls with
    | nil =>
      simp at hl
      omega
    | cons y ls =>
      have h1 := hx y List.mem_cons_self
      have h2 := hw y (h.perm.subset (by simp))
      grind
  refine ⟨fun z => absurd hk (by omega), fun _ => ⟨h0, ?_⟩⟩
  rw [rsum_perm (h.perm.symm.map (keepQ · _)), List.map_append, rsum_app, keepQ_small h0 hx, keepQ_big h.top]
  have : (k : Rat) = ((k - ts.length : Int) : Rat) + ((ts.length : Int) : Rat) := by
    rw [Rat.intCast_sub]
    grind
  rw [this]
  have hne : rsum ls ≠ 0 := by
    intro z
    rw [z] at h0
    grind
  grind
theorem rsum_nn {rs : List Rat} (h : ∀ r ∈ rs, 0 ≤ r) : 0 ≤ rsum rs := by
  induction rs with
  | nil => exact Rat.le_refl
  | cons r rs ih =>
    rw [rsum_cons]
    have := h r List.mem_cons_self
    have := ih fun x hx => h x (List.mem_cons_of_mem _ hx)
    grind
theorem rsum_pos {rs : List Rat} (h : ∀ r ∈ rs, 0 < r) (hn : rs ≠ []) : 0 < rsum rs := by
  cases rs with
  | nil => exact absurd rfl hn
  | cons r rs =>
    rw [rsum_cons]
    have := h r List.mem_cons_self
    have := rsum_nn fun x hx => Rat.le_of_lt (h x (List.mem_cons_of_mem _ hx))
    grind
theorem erase_perm {α : Type} {l : List α} {j : Nat} {x : α} (h : l[j]? = some x) : (x :: l.eraseIdx j).Perm l := by
  induction l generalizing j with
  | nil => simp at h
  | cons y l ih =>
    cases j with
    | zero =>
      have : y = x := by simpa using h
      subst this
      exact List.Perm.refl _
    | succ j =>
      have := ih (j := j) (by simpa using h)
      rw [List.eraseIdx_cons_succ]
      exact (List.Perm.swap y x _).trans (this.cons y)
theorem ThI.next {ws : List Rat} {k : Int} {ls ts : List Rat} {j : Nat} {x : Rat} (h : ThI ws k ls ts) (hw : ∀ w ∈ ws, 0 < w) (hk : k < ws.length) (hj : ls[j]? = some x) (hx : rsum ls / ((k - ts.length : Int) : Rat) < x) : ThI ws k (ls.eraseIdx j) (x :: ts) := by
  have hfew := h.few
  have hp := erase_perm hj
  have hl := h.perm.length_eq
  have hl2 := hp.length_eq
  rw [List.length_append] at hl
  rw [List.length_cons] at hl2
  have hs : rsum ls = x + rsum (ls.eraseIdx j) := by rw [← rsum_perm hp, rsum_cons]
  have hpos : ∀ w ∈ ls.eraseIdx j, 0 < w := fun w hm => hw w (h.perm.subset (List.mem_append_left _ (hp.subset (List.mem_cons_of_mem _ hm))))
  have hM : (0 : Rat) < ((k - ts.length : Int) : Rat) := Rat.intCast_pos.mpr (by omega)
  have hlt : rsum ls < x * ((k - ts.length : Int) : Rat) := by
    have e : ∀ M S : Rat, 0 < M → S / M < x → S < x * M := fun M S hM h => by
      have := Rat.mul_lt_mul_of_pos_right h hM
      have e : S / M * M = S := by grind
      rw [e] at this
      exact this
    exact e _ _ hM hx
  have hfew2 : (ts.length : Int) + 1 < k := by
    rcases Int.lt_or_le ((ts.length : Int) + 1) k with z | z
    · exact z
    · have e : k - (ts.length : Int) = 1 := by omega
      rw [e] at hlt
      have e1 : ((1 : Int) : Rat) = 1 := rfl
      rw [e1] at hlt
      have := rsum_nn fun w hm => Rat.le_of_lt (hpos w hm)
      grind
  have hc : ((k - (x :: ts).length : Int) : Rat) = ((k - ts.length : Int) : Rat) - 1 := by
    rw [List.length_cons, show k - ((ts.length + 1 : Nat) : Int) = (k - ts.length) - 1 by omega, Rat.intCast_sub]
    rfl
  have hM1 : (1 : Rat) < ((k - ts.length : Int) : Rat) := Rat.intCast_lt_intCast.mpr (show (1 : Int) < k - ts.length by omega)
  have hle : rsum (ls.eraseIdx j) / ((k - (x :: ts).length : Int) : Rat) ≤ rsum ls / ((k - ts.length : Int) : Rat) := by
    rw [hc]
    generalize ((k - ts.length : Int) : Rat) = M at *
    refine Rat.not_lt.mp fun z => ?_
    have h2 := Rat.mul_lt_mul_of_pos_right z (show 0 < M - 1 by grind)
    have e1 : rsum (ls.eraseIdx j) / (M - 1) * (M - 1) = rsum (ls.eraseIdx j) := by grind
    have e2 : rsum ls / M * (M - 1) = rsum ls - rsum ls / M := by grind
    rw [e1, e2] at h2
    grind
  refine ⟨?_, by rw [List.length_cons]; omega, fun y hy => ?_⟩
  · refine List.Perm.trans ?_ h.perm
    refine (List.perm_middle).trans ?_
    rw [← List.cons_append]
    exact hp.append_right ts
  · rcases List.mem_cons.mp hy with rfl | hy
    · exact Rat.le_trans hle (Rat.le_of_lt hx)
    · exact Rat.le_trans hle (h.top y hy)
theorem keepQ_split (t : Rat) (ws : List Rat) : rsum (ws.map (keepQ · t)) = rsum (ws.filter (fun w => decide (w < t))) / t + (((ws.filter (fun w => !decide (w < t))).length : Int) : Rat) := by
  induction ws with
  | nil =>
    show rsum [] = rsum [] / t + ((0 : Int) : Rat)
    rw [rsum_nil]
    have : ((0 : Int) : Rat) = 0 := rfl
    grind
  | cons w ws ih =>
    rw [List.map_cons, rsum_cons, ih]
    unfold keepQ
    by_cases h : w < t
    · rw [if_pos h, List.filter_cons_of_pos (by simpa using h), List.filter_cons_of_neg (by simpa using h), rsum_cons]
      grind
    · rw [if_neg h, List.filter_cons_of_neg (by simpa using h), List.filter_cons_of_pos (by simpa using h), List.length_cons, cast_succ]
      grind
/-- the sum of the chances stays small -/
theorem sz_keepQs {m n : Nat} {ws : List Rat} {t : Rat} (hw : ∀ w ∈ ws, Sz m w) (ht : Sz n t) (t0 : t ≠ 0) (hl : ws.length ≤ 1000) : Sz (ws.length * (m + 1) + n + 12) (rsum (ws.map (keepQ · t))) := by
  rw [keepQ_split]
  have h1 : Sz (ws.length * (m + 1) + 1) (rsum (ws.filter (fun w => decide (w < t)))) := by
    refine sz_rsumA (fun r hr => hw r (List.mem_filter.mp hr).1) ?_
    have := Nat.mul_le_mul_right (m + 1) (List.length_filter_le (fun w => decide (w < t)) ws)
    omega
  have h2 : Sz 10 ((((ws.filter (fun w => !decide (w < t))).length : Int) : Rat)) := sz_int (by
    have := List.length_filter_le (fun w => !decide (w < t)) ws
    rw [Int.natAbs_natCast]
    omega) (by decide)
  exact ((h1.div ht t0).add h2).mono (by omega)
theorem neq_no {d e : D} {C : Prop} (h : not (eqD d e) = true) (he : d = e) : C := by
  rw [eqD_true he] at h
  cases h

theorem ok_lowest (T : Txt K mg) : FnOk P w K mg base CX0 1 T.f_lowest T.fd_lowest ["p", "q"] (sp_lowest K) := by
  refine T.F_lowest.ok sc_lowest (fun vs H Q E h => lsp_len h) (fun cdv A outer s H vs Q E hr h => ⟨_, (pss_cons (ps_if (pt_cmpR op_eq (pv 1) pe_int (nomark _))
        (pss_one ps_never)
        pss_nil)
      (pss_cons (ps_set (i := 2) sc_lowest.nd rfl (Or.inl rfl) (pe_callBfun cr_gcd (by rfl) T.g_gcd (pa_cons (pv 0) (pa_cons (pv 1) pa_nil))))
      (pss_cut (ps_if (pt_cmpR op_lt (pv 1) pe_int (nomark _))
        (pss_one (ps_set (i := 2) sc_lowest.nd rfl (Or.inl rfl) (pe_un un_neg (pv 2))))
        pss_nil)
      (pss_one (ps_ret (pe_tup (pa_cons (pe_op op_fdivZ (pv 0) (pv 2)) (pa_cons (pe_op op_fdivZ (pv 1) (pv 2)) pa_nil)))))))), ?_⟩)
  try dsimp only [cxK, blkK, noxK, wishK]
  refine lsp_body (N := nm_lowest) h (by decide) fun xs q hn h => ?_
  clear hn
  obtain ⟨n, d, rfl, ⟨hd, h1, h2⟩, hq⟩ := h
  have hd2 := lowD_ne (p := n) hd
  have hd3 : (lowD n d).natAbs < 2 ^ 8000 := by
    rw [lowD_abs]
    exact pow_up (Nat.lt_of_le_of_lt (gcd_le_right hd) h2) (by decide)
  refine ⟨fun hz => absurd (of_decide_eq_true hz) hd, fun _ => ?_⟩
  refine ⟨fun s => s = [some (.fr (.int n)), some (.fr (.int d)), some (.fr (.int (lowD n d)))], ⟨fun hz => ?_, fun hz => ?_⟩, ?_⟩
  · show [_, _, some (S.fr (.int (-(Int.gcd n d : Int))))] = _
    unfold lowD
    rw [if_pos (of_decide_eq_true hz)]
  · show [_, _, some (S.fr (.int (Int.gcd n d : Int)))] = _
    unfold lowD
    rw [if_neg (of_decide_eq_false hz)]
  · rintro s' rfl
    refine ⟨⟨hd2, hd3⟩, ⟨hd2, hd3⟩, ?_⟩
    show q (.fr (.tup [.int (n.fdiv (lowD n d)), .int (d.fdiv (lowD n d))])) []
    rw [low_num hd, low_den hd]
    exact hq
theorem ok_plus (T : Txt K mg) : FnOk P w K mg base CX0 2 T.f_plus T.fd_plus ["a", "b"] (sp_plus K) := by
  refine T.F_plus.ok sc_plus (fun vs H Q E h => lsp_len h) (fun cdv A outer s H vs Q E hr h => ⟨_, (pss_one (ps_ret (pe_call (ok_lowest T) (hr.mono (by decide)) (by rfl) T.g_lowest T.F_lowest.kp T.b_lowest .nil pass0 (pa_cons (pe_op op_add (pe_op op_mulW (pe_ix ix_tup (pv 0) pe_int (fun _ _ => rfl)) (pe_ix ix_tup (pv 1) pe_int (fun _ _ => rfl))) (pe_op op_mulW (pe_ix ix_tup (pv 1) pe_int (fun _ _ => rfl)) (pe_ix ix_tup (pv 0) pe_int (fun _ _ => rfl)))) (pa_cons (pe_op op_mulW (pe_ix ix_tup (pv 0) pe_int (fun _ _ => rfl)) (pe_ix ix_tup (pv 1) pe_int (fun _ _ => rfl))) pa_nil))))), ?_⟩)
  try dsimp only [cxK, blkK, noxK, wishK]
  refine lsp_body (N := nm_plus) h (by decide) fun xs q hn h => ?_
  clear hn
  obtain ⟨a, b, rfl, ⟨ha, hb, _⟩, hq⟩ := h
  refine ⟨mulFF ha hb, mulFF hb ha, mulDD ha hb, _, _, rfl, ⟨dd_ne a b, pow_up (sz_num ha hb) (by decide), pow_up (sz_den ha hb) (by decide)⟩, ?_⟩
  rw [add_divInt]
  exact hq
theorem ok_minus (T : Txt K mg) : FnOk P w K mg base CX0 2 T.f_minus T.fd_minus ["a", "b"] (sp_minus K) := by
  refine T.F_minus.ok sc_minus (fun vs H Q E h => lsp_len h) (fun cdv A outer s H vs Q E hr h => ⟨_, (pss_one (ps_ret (pe_call (ok_lowest T) (hr.mono (by decide)) (by rfl) T.g_lowest T.F_lowest.kp T.b_lowest .nil pass0 (pa_cons (pe_op op_sub (pe_op op_mulW (pe_ix ix_tup (pv 0) pe_int (fun _ _ => rfl)) (pe_ix ix_tup (pv 1) pe_int (fun _ _ => rfl))) (pe_op op_mulW (pe_ix ix_tup (pv 1) pe_int (fun _ _ => rfl)) (pe_ix ix_tup (pv 0) pe_int (fun _ _ => rfl)))) (pa_cons (pe_op op_mulW (pe_ix ix_tup (pv 0) pe_int (fun _ _ => rfl)) (pe_ix ix_tup (pv 1) pe_int (fun _ _ => rfl))) pa_nil))))), ?_⟩)
  try dsimp only [cxK, blkK, noxK, wishK]
  refine lsp_body (N := nm_minus) h (by decide) fun xs q hn h => ?_
  clear hn
  obtain ⟨a, b, rfl, ⟨ha, hb, _⟩, hq⟩ := h
  refine ⟨mulFF ha hb, mulFF hb ha, mulDD ha hb, _, _, rfl, ⟨dd_ne a b, pow_up (sz_numS ha hb) (by decide), pow_up (sz_den ha hb) (by decide)⟩, ?_⟩
  rw [sub_divInt]
  exact hq
theorem ok_over (T : Txt K mg) : FnOk P w K mg base CX0 2 T.f_over T.fd_over ["a", "b"] (sp_over K) := by
  refine T.F_over.ok sc_over (fun vs H Q E h => lsp_len h) (fun cdv A outer s H vs Q E hr h => ⟨_, (pss_one (ps_ret (pe_call (ok_lowest T) (hr.mono (by decide)) (by rfl) T.g_lowest T.F_lowest.kp T.b_lowest .nil pass0 (pa_cons (pe_op op_mulW (pe_ix ix_tup (pv 0) pe_int (fun _ _ => rfl)) (pe_ix ix_tup (pv 1) pe_int (fun _ _ => rfl))) (pa_cons (pe_op op_mulW (pe_ix ix_tup (pv 0) pe_int (fun _ _ => rfl)) (pe_ix ix_tup (pv 1) pe_int (fun _ _ => rfl))) pa_nil))))), ?_⟩)
  try dsimp only [cxK, blkK, noxK, wishK]
  refine lsp_body (N := nm_over) h (by decide) fun xs q hn h => ?_
  clear hn
  obtain ⟨a, b, rfl, ⟨ha, hb, h0⟩, hq⟩ := h
  refine ⟨mulFF ha hb, mulDN ha hb, _, _, rfl, ⟨Int.mul_ne_zero (den_ne a) (num_ne h0), pow_up (abs_mul_lt ha.1 hb.d) (by decide), pow_up (abs_mul_lt ha.d hb.1) (by decide)⟩, ?_⟩
  rw [div_divInt]
  exact hq
theorem ok_less (T : Txt K mg) : FnOk P w K mg base CX0 1 T.f_less T.fd_less ["a", "b"] (sp_less K) := by
  refine T.F_less.ok sc_less (fun vs H Q E h => lsp_len h) (fun cdv A outer s H vs Q E hr h => ⟨_, (pss_one (ps_ret (pe_cmpR op_lt (pe_op op_mulW (pe_ix ix_tup (pv 0) pe_int (fun _ _ => rfl)) (pe_ix ix_tup (pv 1) pe_int (fun _ _ => rfl))) (pe_op op_mulW (pe_ix ix_tup (pv 1) pe_int (fun _ _ => rfl)) (pe_ix ix_tup (pv 0) pe_int (fun _ _ => rfl))) (nomark _)))), ?_⟩)
  try dsimp only [cxK, blkK, noxK, wishK]
  refine lsp_body (N := nm_less) h (by decide) fun xs q hn h => ?_
  clear hn
  obtain ⟨a, b, rfl, ⟨ha, hb⟩, hq⟩ := h
  refine ⟨mulFF ha hb, mulFF hb ha, ?_⟩
  show q (.fr (.bl (decide (a.num * (b.den : Int) < b.num * (a.den : Int))))) []
  rw [less_is]
  exact hq
theorem gcd_zero_nn {a : Int} {p q : Int} (h0 : 0 ≤ a) (h : Int.gcd a 0 = Int.gcd p q) : a = (Int.gcd p q : Int) := by
  rw [Int.gcd_zero_right] at h
  omega
theorem ok__law_low (T : Txt K mg) : FnOk P w K mg base CX0 1 T.f__law_low T.fd__law_low ["_law_p", "_law_q"] (sp__law_low K) := by
  refine T.F__law_low.ok sc__law_low (fun vs H Q E h => lsp_len h) (fun cdv A outer s H vs Q E hr h => ⟨_, (pss_cons (ps_par (i := 2) (j := 3) (by rfl) sc__law_low.nd rfl rfl (by decide) rfl rfl (pa_cons (pe_callB (id := "abs") call_abs (by rfl) T.z_abs (by decide +kernel) (pa_cons (pv 0) pa_nil)) (pa_cons (pv 1) pa_nil)) (by rfl))
      (pss_cut (ps_for PassesOwn.never rfl (pi_range1 (by rfl) T.z_range (pa_cons pe_int pa_nil)) (pg_name (i := 4) sc__law_low.nd rfl (Or.inl rfl))
        (pss_cons (ps_if (pt_cmpR op_eq (pv 3) pe_int (nomark _))
          (pss_one ps_break)
          pss_nil)
        (pss_one (ps_par (i := 2) (j := 3) (by rfl) sc__law_low.nd rfl rfl (by decide) rfl rfl (pa_cons (pv 3) (pa_cons (pe_op op_modN (pe_callTy (T := "int") call_int1 (by rfl) T.z_int (by decide +kernel) (pa_cons (pv 2) pa_nil)) (pv 3)) pa_nil)) (by rfl)))))
      (pss_one (ps_ret (pe_tup (pa_cons (pe_op op_fdivZ (pv 0) (pv 2)) (pa_cons (pe_op op_fdivZ (pv 1) (pv 2)) pa_nil))))))), ?_⟩)
  try dsimp only [cxK, blkK, noxK, wishK]
  refine lsp_body (N := nm__law_low) h (by decide) fun xs q hn h => ?_
  clear hn
  obtain ⟨n, d, rfl, ⟨hd, h1, h2⟩, hq⟩ := h
  have hd : 0 < d := hd
  have hd0 : d ≠ 0 := by omega
  have hn : n.natAbs * d.natAbs < 2 ^ 3980 := by
    have := Nat.mul_lt_mul'' h1 h2
    rw [← Nat.pow_add] at this
    exact this
  have ap : (if n < 0 then -n else n) = (n.natAbs : Int) := by split <;> omega
  have eq : (d.natAbs : Int) = d := by omega
  have st := Euc.start hd0 hn
  rw [eq] at st
  have hlow : lowD n d = (Int.gcd n d : Int) := by
    unfold lowD
    rw [if_neg (by omega)]
  have hd2 := lowD_ne (p := n) hd0
  have hd3 : (lowD n d).natAbs < 2 ^ 8000 := by
    rw [lowD_abs]
    exact pow_up (Nat.lt_of_le_of_lt (gcd_le_right hd0) h2) (by decide)
  rw [hlow] at hd2 hd3
  refine ⟨fun s => ∃ x3 x4, s = [some (.fr (.int n)), some (.fr (.int d)), some (.fr (.int (Int.gcd n d : Int))), x3, x4], ?_, ?_⟩
  · refine ⟨⟨by decide, by decide⟩, fun i s => ∃ (a b : Int) (x4 : Option S), s = [some (.fr (.int n)), some (.fr (.int d)), some (.fr (.int a)), some (.fr (.int b)), x4] ∧ (b = 0 ∧ a = (Int.gcd n d : Int) ∨ i ≤ 3980 + 1 ∧ Euc n d 3980 i a b), ⟨(if n < 0 then -n else n), d, none, rfl, .inr ⟨by decide, by rw [ap]; exact st⟩⟩, ?_, ?_⟩
    · rintro i v s hv ⟨a, b, x4, rfl, hab⟩
      obtain ⟨hi, rfl⟩ := rngD_get hv
      refine ⟨fun hz => ?_, fun hz => ?_⟩
      · have hb : b = 0 := of_decide_eq_true hz
        subst hb
        have ea : a = (Int.gcd n d : Int) := by
          rcases hab with ⟨_, e⟩ | ⟨_, e⟩
          · exact e
          · exact e.gcd
        subst ea
        exact ⟨_, _, rfl⟩
      · have hb : b ≠ 0 := of_decide_eq_false hz
        rcases hab with ⟨e, _⟩ | ⟨hle, e⟩
        · exact absurd e hb
        · have hi2 : i ≤ 3980 := by
            rcases Nat.lt_or_ge 3980 i with z | z
            · have : i = 3980 + 1 := by omega
              subst this
              exact absurd e.ended hb
            · exact z
          exact ⟨hb, b, a.fmod b, _, rfl, .inr ⟨by omega, e.next hi2 hb⟩⟩
    · rintro s ⟨a, b, x4, rfl, hab⟩
      rcases hab with ⟨rfl, rfl⟩ | ⟨hle, _⟩
      · exact ⟨_, _, rfl⟩
      · exact absurd hle (by decide)
  · rintro s ⟨x3, x4, rfl⟩
    refine ⟨⟨hd2, hd3⟩, ⟨hd2, hd3⟩, ?_⟩
    show q (.fr (.tup [.int (n.fdiv (Int.gcd n d : Int)), .int (d.fdiv (Int.gcd n d : Int))])) []
    rw [← hlow, low_num hd0, low_den hd0]
    exact hq

theorem ok__law_plus (T : Txt K mg) : FnOk P w K mg base CX0 2 T.f__law_plus T.fd__law_plus ["_law_one", "_law_other"] (sp__law_plus K) := by
  refine T.F__law_plus.ok sc__law_plus (fun vs H Q E h => lsp_len h) (fun cdv A outer s H vs Q E hr h => ⟨_, (pss_one (ps_ret (pe_call (ok__law_low T) (hr.mono (by decide)) (by rfl) T.g__law_low T.F__law_low.kp T.b__law_low .nil pass0 (pa_cons (pe_op op_add (pe_op op_mulW (pe_ix ix_tup (pv 0) pe_int (fun _ _ => rfl)) (pe_ix ix_tup (pv 1) pe_int (fun _ _ => rfl))) (pe_op op_mulW (pe_ix ix_tup (pv 1) pe_int (fun _ _ => rfl)) (pe_ix ix_tup (pv 0) pe_int (fun _ _ => rfl)))) (pa_cons (pe_op op_mulW (pe_ix ix_tup (pv 0) pe_int (fun _ _ => rfl)) (pe_ix ix_tup (pv 1) pe_int (fun _ _ => rfl))) pa_nil))))), ?_⟩)
  try dsimp only [cxK, blkK, noxK, wishK]
  refine lsp_body (N := nm__law_plus) h (by decide) fun xs q hn h => ?_
  clear hn
  obtain ⟨a, b, rfl, ⟨ha, hb, _⟩, hq⟩ := h
  refine ⟨mulFF ha hb, mulFF hb ha, mulDD ha hb, _, _, rfl, ⟨LowQ.dd a b, pow_up (sz_num ha hb) (by decide), pow_up (sz_den ha hb) (by decide)⟩, ?_⟩
  rw [add_divInt]
  exact hq
theorem ok__law_less (T : Txt K mg) : FnOk P w K mg base CX0 1 T.f__law_less T.fd__law_less ["_law_one", "_law_other"] (sp__law_less K) := by
  refine T.F__law_less.ok sc__law_less (fun vs H Q E h => lsp_len h) (fun cdv A outer s H vs Q E hr h => ⟨_, (pss_one (ps_ret (pe_cmpR op_lt (pe_op op_mulW (pe_ix ix_tup (pv 0) pe_int (fun _ _ => rfl)) (pe_ix ix_tup (pv 1) pe_int (fun _ _ => rfl))) (pe_op op_mulW (pe_ix ix_tup (pv 1) pe_int (fun _ _ => rfl)) (pe_ix ix_tup (pv 0) pe_int (fun _ _ => rfl))) (nomark _)))), ?_⟩)
  try dsimp only [cxK, blkK, noxK, wishK]
  refine lsp_body (N := nm__law_less) h (by decide) fun xs q hn h => ?_
  clear hn
  obtain ⟨a, b, rfl, ⟨ha, hb⟩, hq⟩ := h
  refine ⟨mulFF ha hb, mulFF hb ha, ?_⟩
  show q (.fr (.bl (decide (a.num * (b.den : Int) < b.num * (a.den : Int))))) []
  rw [less_is]
  exact hq
theorem ok_sum_of (T : Txt K mg) : FnOk P w K mg base CX0 3 T.f_sum_of T.fd_sum_of ["fractions"] (sp_sum_of K) := by
  refine T.F_sum_of.ok sc_sum_of (fun vs H Q E h => lsp_len h) (fun cdv A outer s H vs Q E hr h => ⟨_, (pss_cons (ps_set (i := 1) sc_sum_of.nd rfl (Or.inl rfl) (pe_glob (v := .ref T.a_NOTHING_ratios) (by rfl) T.g_NOTHING_ratios rfl))
      (pss_cons (ps_for PassesOwn.never rfl (pi_list (pv 0)) (pg_name (i := 2) sc_sum_of.nd rfl (Or.inl rfl))
        (pss_one (ps_set (i := 1) sc_sum_of.nd rfl (Or.inl rfl) (pe_call (ok_plus T) (hr.mono (by decide)) (by rfl) T.g_plus T.F_plus.kp T.b_plus .nil pass0 (pa_cons (pv 1) (pa_cons (pv 2) pa_nil))))))
      (pss_one (ps_ret (pv 1))))), ?_⟩)
  try dsimp only [cxK, blkK, noxK, wishK]
  refine lsp_body (N := nm_sum_of) h (by decide) fun xs q hn h => ?_
  clear hn
  obtain ⟨rs, rfl, hs, hq⟩ := h
  refine ⟨fun i s => ∃ x2, s = [some (.fr (dFs rs)), some (.fr (dF (rsum (rs.take i)))), x2], ⟨_, rfl⟩, ?_, ?_⟩
  · rintro i d s hd ⟨x2, rfl⟩
    obtain ⟨r, hr, rfl⟩ := map_at hd
    refine ⟨_, _, rfl, ⟨hs.2 i, hs.1 r (List.mem_of_getElem? hr), trivial⟩, some (.fr (dF r)), ?_⟩
    rw [rsum_take hr]
    rfl
  · rintro s ⟨x2, rfl⟩
    rw [List.length_map, List.take_length]
    exact hq
/-! ### draws: a list of ints that is lent, popped (family C) -/
def rowO (ns : List Int) : O := .lst (ns.map D.int)
def psp__law_mix : Psp := ⟨2, fun xs q => ∃ n k : Int, xs = [.fr (.int n), .fr (.int k)] ∧ k.natAbs < 2 ^ 20 ∧ ∀ z : Int, 0 ≤ z → z < 998244353 → q (.fr (.int z)) []⟩
abbrev sp__law_mix (K : PySem.W.Frag) : Sp := Lsp K psp__law_mix
def psp__law_numbers : Psp := ⟨2, fun xs q => ∃ (ns : List Int) (c : Int), xs = [.fr (.scr ns), .fr (.int c)] ∧ (ns.length ≤ 63 ∧ 0 ≤ c ∧ c ≤ 1000) ∧ ∀ ms, q (.ow false (rowO ms)) []⟩
abbrev sp__law_numbers (K : PySem.W.Frag) : Sp := Lsp K psp__law_numbers
def psp__law_take : Psp := ⟨2, fun xs q => ∃ (ns : List Int) (b : Int), xs = [.ow true (rowO ns), .fr (.int b)] ∧ 0 < b ∧ ∀ z ms, 0 ≤ z → z < b → q (.fr (.int z)) [rowO ms]⟩
abbrev sp__law_take (K : PySem.W.Frag) : Sp := Lsp K psp__law_take
theorem ints_snoc (ms : List Int) (z : Int) : ms.map D.int ++ [D.int z] = (ms ++ [z]).map D.int := by rw [List.map_append]; rfl
theorem ints_at {ns : List Int} {i : Nat} {d : D} (h : (ns.map D.int)[i]? = some d) : ∃ z, d = .int z ∧ ns[i]? = some z := by
  rw [List.getElem?_map] at h
  cases e : ns[i]? with
  | none => rw [e] at h; cases h
  | some z => rw [e] at h; exact ⟨z, (Option.some.inj h).symm, rfl⟩
theorem cutD_ints (ns : List Int) (lo hi : Option Int) : ∃ ms : List Int, cutD (ns.map D.int) lo hi = ms.map D.int ∧ ms.length ≤ ns.length := by
  unfold cutD
  rw [← List.map_drop, ← List.map_take]
  exact ⟨_, rfl, by rw [List.length_take, List.length_drop]; omega⟩
theorem rowO_snoc (ms : List Int) (z : Int) : rowO (ms ++ [z]) = .lst (ms.map D.int ++ [D.int z]) := by rw [ints_snoc]; rfl

theorem ok__law_mix (T : Txt K mg) : FnOk P w K mg base CX0 1 T.f__law_mix T.fd__law_mix ["_law_number", "_law_k"] (sp__law_mix K) := by
  refine T.F__law_mix.ok sc__law_mix (fun vs H Q E h => lsp_len h) (fun cdv A outer s H vs Q E hr h => ⟨_, (pss_one (ps_ret (pe_op op_modN (pe_op op_mulW (pe_op op_modN (pe_callTy (T := "int") call_int1 (by rfl) T.z_int (by decide +kernel) (pa_cons (pe_op op_mulW (pe_op op_add (pe_op op_add (pe_op op_modN (pe_callTy (T := "int") call_int1 (by rfl) T.z_int (by decide +kernel) (pa_cons (pv 0) pa_nil)) pe_int) (pe_op op_mulW pe_int (pv 1))) pe_int) pe_int) pa_nil)) pe_int) pe_int) pe_int))), ?_⟩)
  try dsimp only [cxK, blkK, noxK, wishK]
  refine lsp_body (N := nm__law_mix) h (by decide) fun xs q hn h => ?_
  clear hn
  obtain ⟨n, k, rfl, hk, hq⟩ := h
  have h1 := fmodS n (m := 1000003) (by decide)
  have hm : (7919 * k).natAbs < 2 ^ 40 := by
    have : (7919 * k).natAbs = 7919 * k.natAbs := Int.natAbs_mul ..
    omega
  refine ⟨(show (1000003 : Int) ≠ 0 by decide), mulS (by decide) (by omega), mulS (by omega) (by decide), (show (1000033 : Int) ≠ 0 by decide), ?_⟩
  have h2 := fmodS ((n.fmod 1000003 + 7919 * k + 1) * 48271) (m := 1000033) (by decide)
  refine ⟨mulS (by omega) (by decide), (show (998244353 : Int) ≠ 0 by decide), ?_⟩
  exact hq _ (fmodS _ (by decide)).1 (fmodS _ (by decide)).2
theorem ok__law_numbers (T : Txt K mg) : FnOk P w K mg base CX0 2 T.f__law_numbers T.fd__law_numbers ["_law_script", "_law_count"] (sp__law_numbers K) := by
  refine T.F__law_numbers.ok sc__law_numbers (fun vs H Q E h => lsp_len h) (fun cdv A outer s H vs Q E hr h => ⟨_, (pss_cons (ps_set (i := 2) sc__law_numbers.nd rfl (Or.inl rfl) (pe_lst pa_nil))
      (pss_cons (ps_set (i := 3) sc__law_numbers.nd rfl (Or.inl rfl) pe_int)
      (pss_cut (ps_for PassesOwn.never rfl (pi_list (pe_slice sl_list (pv 0) po_none (po_some pe_int))) (pg_name (i := 4) sc__law_numbers.nd rfl (Or.inl rfl))
        (pss_cons (ps_set (i := 3) sc__law_numbers.nd rfl (Or.inl rfl) (pe_op op_add (pv 3) (pv 4)))
        (pss_one (ps_if (pt_cmpR op_ge (pv 4) pe_int (nomark _))
          (pss_cons (ps_set (i := 5) sc__law_numbers.nd rfl (Or.inl rfl) (pv 4))
          (pss_one (ps_for PassesOwn.never rfl (pi_range1 (by rfl) T.z_range (pa_cons pe_int pa_nil)) (pg_name (i := 6) sc__law_numbers.nd rfl (Or.inl rfl))
            (pss_cons (ps_expr (pe_bm PySem.F.plainAttrs_list PySem.F.slot_list_append PySem.F.type_list_append mt_append (pv 2) (pa_cons (pe_op op_modN (pe_callTy (T := "int") call_int1 (by rfl) T.z_int (by decide +kernel) (pa_cons (pv 5) pa_nil)) pe_int) pa_nil)))
            (pss_cons (ps_set (i := 5) sc__law_numbers.nd rfl (Or.inl rfl) (pe_op op_fdivW (pv 5) pe_int))
            (pss_one (ps_if (pt_cmpR op_eq (pv 5) pe_int (nomark _))
              (pss_one ps_break)
              pss_nil)))))))
          (pss_one (ps_expr (pe_bm PySem.F.plainAttrs_list PySem.F.slot_list_append PySem.F.type_list_append mt_append (pv 2) (pa_cons (pe_call (ok__law_mix T) (hr.mono (by decide)) (by rfl) T.g__law_mix T.F__law_mix.kp T.b__law_mix .nil pass0 (pa_cons (pe_call (ok__law_mix T) (hr.mono (by decide)) (by rfl) T.g__law_mix T.F__law_mix.kp T.b__law_mix .nil pass0 (pa_cons (pv 4) (pa_cons pe_int pa_nil))) (pa_cons pe_int pa_nil))) pa_nil))))))))
      (pss_cons (ps_for PassesOwn.never rfl (pi_range1 (by rfl) T.z_range (pa_cons (pv 1) pa_nil)) (pg_name (i := 6) sc__law_numbers.nd rfl (Or.inl rfl))
        (pss_one (ps_expr (pe_bm PySem.F.plainAttrs_list PySem.F.slot_list_append PySem.F.type_list_append mt_append (pv 2) (pa_cons (pe_call (ok__law_mix T) (hr.mono (by decide)) (by rfl) T.g__law_mix T.F__law_mix.kp T.b__law_mix .nil pass0 (pa_cons (pe_call (ok__law_mix T) (hr.mono (by decide)) (by rfl) T.g__law_mix T.F__law_mix.kp T.b__law_mix .nil pass0 (pa_cons (pe_op op_add (pv 3) (pe_op op_mulW pe_int (pv 6))) (pa_cons (pe_op op_add pe_int (pv 6)) pa_nil))) (pa_cons pe_int pa_nil))) pa_nil)))))
      (pss_cons (ps_expr (pe_bm0 PySem.F.plainAttrs_list PySem.F.slot_list_reverse PySem.F.type_list_reverse mt_reverse (pv 2)))
      (pss_one (ps_ret (pv 2)))))))), ?_⟩)
  try dsimp only [cxK, blkK, noxK, wishK]
  refine lsp_body (N := nm__law_numbers) h (by decide) fun xs q hn h => ?_
  clear hn
  obtain ⟨ns, c, rfl, ⟨hl, c0, c1⟩, hq⟩ := h
  obtain ⟨ms, e1, e2⟩ := cutD_ints ns none (some 63)
  refine ⟨fun s => ∃ (b : Int) (x4 x5 x6 : Option S) (r : List Int), s = [some (.fr (.scr ns)), some (.fr (.int c)), some (.ow false (rowO r)), some (.fr (.int b)), x4, x5, x6] ∧ r.length ≤ 10000, ?_, ?_⟩
  · refine ⟨fun i s => ∃ (b : Int) (x4 x5 x6 : Option S) (r : List Int), s = [some (.fr (.scr ns)), some (.fr (.int c)), some (.ow false (rowO r)), some (.fr (.int b)), x4, x5, x6] ∧ r.length ≤ 60 * i, ⟨_, _, _, _, [], rfl, by decide⟩, ?_, ?_⟩
    · rintro i d s hd ⟨b, x4, x5, x6, r, rfl, hr⟩
      have hi := (List.getElem?_eq_some_iff.mp hd).1
      rw [e1] at hd hi
      rw [List.length_map] at hi
      obtain ⟨z, rfl, hz⟩ := ints_at hd
      refine ⟨fun _ => ?_, fun _ => ?_⟩
      · refine ⟨⟨by decide, by decide⟩, fun j s => ∃ (x6 : Option S) (y : Int) (r : List Int), s = [some (.fr (.scr ns)), some (.fr (.int c)), some (.ow false (rowO r)), some (.fr (.int (b + z))), some (.fr (.int z)), some (.fr (.int y)), x6] ∧ r.length ≤ 60 * i + j, ⟨_, _, _, rfl, hr⟩, ?_, ?_⟩
        · rintro j d s hd2 ⟨x6, y, r, rfl, hr⟩
          obtain ⟨hj, rfl⟩ := rngD_get hd2
          have hj : j < 60 := hj
          refine ⟨(show (840 : Int) ≠ 0 by decide), by simp; omega, ⟨by decide, by decide⟩, fun _ => ?_, fun _ => ?_⟩
          · exact ⟨b + z, _, _, _, r ++ [y.fmod 840], by rw [rowO_snoc]; rfl, by simp; omega⟩
          · exact ⟨_, _, r ++ [y.fmod 840], by rw [rowO_snoc]; rfl, by simp; omega⟩
        · rintro s ⟨x6, y, r, rfl, hr⟩
          have hr : r.length ≤ 60 * i + 60 := hr
          exact ⟨b + z, _, _, _, r, rfl, by omega⟩
      · exact ⟨z, 3, rfl, by decide, fun z1 _ _ => ⟨z1, 5, rfl, by decide, fun z2 _ _ => ⟨by simp; omega, b + z, _, _, _, r ++ [z2], by rw [rowO_snoc]; rfl, by simp; omega⟩⟩⟩
    · rintro s ⟨b, x4, x5, x6, r, rfl, hr⟩
      rw [e1, List.length_map] at hr
      exact ⟨b, _, _, _, r, rfl, by omega⟩
  · rintro s' ⟨b, x4, x5, x6, r, rfl, hr⟩
    refine ⟨⟨by omega, by omega⟩, fun i s => ∃ (x4 x5 x6 : Option S) (r : List Int), s = [some (.fr (.scr ns)), some (.fr (.int c)), some (.ow false (rowO r)), some (.fr (.int b)), x4, x5, x6] ∧ r.length ≤ 10000 + i, ⟨_, _, _, _, rfl, hr⟩, ?_, ?_⟩
    · rintro i d s hd ⟨x4, x5, x6, r, rfl, hr⟩
      obtain ⟨hi, rfl⟩ := rngD_get hd
      refine ⟨mulS (by decide) (by omega), _, _, rfl, by omega, fun z _ _ => ⟨_, _, rfl, by decide, fun z2 _ _ => ⟨by simp; omega, x4, x5, _, r ++ [z2], by rw [rowO_snoc]; rfl, by simp; omega⟩⟩⟩
    · rintro s ⟨x4, x5, x6, r, rfl, hr⟩
      have := hq r.reverse
      unfold rowO at this
      rw [List.map_reverse] at this
      exact .inl this
theorem ok__law_take (T : Txt K mg) : FnOk P w K mg base CX0 1 T.f__law_take T.fd__law_take ["_law_row", "_law_bound"] (sp__law_take K) := by
  refine T.F__law_take.ok sc__law_take (fun vs H Q E h => lsp_len h) (fun cdv A outer s H vs Q E hr h => ⟨_, (pss_cons (ps_if (pt_not (pt_truth (pv 0) (by intro _; rfl)))
        (pss_one (ps_ret pe_int))
        pss_nil)
      (pss_one (ps_ret (pe_op op_modN (pe_callTy (T := "int") call_int1 (by rfl) T.z_int (by decide +kernel) (pa_cons (pe_bm0 PySem.F.plainAttrs_list PySem.F.slot_list_pop PySem.F.type_list_pop mt_pop (pv 0)) pa_nil)) (pv 1))))), ?_⟩)
  try dsimp only [cxK, blkK, noxK, wishK]
  refine lsp_body (N := nm__law_take) h (by decide) fun xs q hn h => ?_
  clear hn
  obtain ⟨ns, b, rfl, hb, hq⟩ := h
  rcases List.eq_nil_or_concat ns with rfl | ⟨ms, z, rfl⟩
  · exact ⟨fun h => (by cases h), fun _ => hq 0 [] (by decide) hb⟩
  · have e : (ms.concat z).map D.int = ms.map D.int ++ [D.int z] := by rw [List.concat_eq_append, List.map_append]; rfl
    rw [rowO, e]
    refine ⟨fun _ => ?_, fun h => ?_⟩
    · show (match (ms.map D.int ++ [D.int z])[(ms.map D.int ++ [D.int z]).length - 1]? with | some d => _ | none => False)
      rw [List.length_append, List.length_singleton, Nat.add_sub_cancel, List.getElem?_append_right (Nat.le_refl _), Nat.sub_self]
      rw [List.dropLast_concat]
      exact ⟨(show b ≠ 0 by omega), hq _ ms (fmodS z hb).1 (fmodS z hb).2⟩
    · cases hm : ms.map D.int <;> rw [hm] at h <;> cases h

def psp_greater : Psp := ⟨2, fun xs q => ∃ a b : Rat, xs = [.fr (dF a), .fr (dF b)] ∧ (Sz LIM a ∧ Sz LIM b) ∧ q (.fr (dF (if a < b then b else a))) []⟩
abbrev sp_greater (K : PySem.W.Frag) : Sp := Lsp K psp_greater
theorem ok_greater (T : Txt K mg) : FnOk P w K mg base CX0 2 T.f_greater T.fd_greater ["one", "other"] (sp_greater K) := by
  refine T.F_greater.ok sc_greater (fun vs H Q E h => lsp_len h) (fun cdv A outer s H vs Q E hr h => ⟨_, (pss_one (ps_ret (pe_ifExp (pt_val (pe_call (ok_less T) (hr.mono (by decide)) (by rfl) T.g_less T.F_less.kp T.b_less .nil pass0 (pa_cons (pv 0) (pa_cons (pv 1) pa_nil)))) (pv 1) (pv 0)))), ?_⟩)
  try dsimp only [cxK, blkK, noxK, wishK]
  refine lsp_body (N := nm_greater) h (by decide) fun xs q hn h => ?_
  clear hn
  obtain ⟨a, b, rfl, ⟨ha, hb⟩, hq⟩ := h
  refine ⟨a, b, rfl, ⟨ha, hb⟩, fun hz => ?_, fun hz => ?_⟩
  · rw [if_pos (of_decide_eq_true hz)] at hq
    exact hq
  · rw [if_neg (of_decide_eq_false hz)] at hq
    exact hq
/-- the greatest of the first i, beginning with a -/
def maxQ : Rat → List Rat → Rat
  | a, [] => a
  | a, x :: xs => maxQ (if a < x then x else a) xs
theorem maxQ_snoc (x : Rat) : ∀ (xs : List Rat) (a : Rat), maxQ a (xs ++ [x]) = if maxQ a xs < x then x else maxQ a xs
  | [], a => rfl
  | y :: ys, a => maxQ_snoc x ys _
theorem maxQ_ge : ∀ (xs : List Rat) (a : Rat), a ≤ maxQ a xs ∧ ∀ x ∈ xs, x ≤ maxQ a xs
  | [], a => ⟨Rat.le_refl, fun _ h => by simp at h⟩
  | y :: ys, a => by
    obtain ⟨h1, h2⟩ := maxQ_ge ys (if a < y then y else a)
    unfold maxQ
    generalize maxQ (if a < y then y else a) ys = m at *
    refine ⟨?_, fun x hx => ?_⟩
    · split at h1 <;> grind
    · rcases List.mem_cons.mp hx with rfl | hx
      · split at h1 <;> grind
      · exact h2 x hx
theorem maxQ_mem : ∀ (xs : List Rat) (a : Rat), maxQ a xs = a ∨ maxQ a xs ∈ xs
  | [], a => .inl rfl
  | y :: ys, a => by
    unfold maxQ
    rcases maxQ_mem ys (if a < y then y else a) with h | h
    · rw [h]
      split
      · exact .inr List.mem_cons_self
      · exact .inl rfl
    · exact .inr (List.mem_cons_of_mem _ h)
theorem maxQ_take {xs : List Rat} {i : Nat} {x a : Rat} (h : xs[i]? = some x) : maxQ a (xs.take (i + 1)) = if maxQ a (xs.take i) < x then x else maxQ a (xs.take i) := by
  rw [List.take_add_one, h, Option.toList_some, maxQ_snoc]
def TBits (m : Nat) (ws : List Rat) : Nat := ws.length * (m + 1) + 1
def psp_threshold : Psp := ⟨2, fun xs q => ∃ (ws : List Rat) (k : Int) (m : Nat), xs = [.fr (dFs ws), .fr (.int k)] ∧ ((∀ w ∈ ws, 0 < w ∧ Sz m w) ∧ (0 < k ∧ k ≤ 1000) ∧ TBits m ws ≤ 900 ∧ ws.length ≤ 1000) ∧ ∀ t, Th ws k t → Sz (TBits m ws + 11) t → q (.fr (dF t)) []⟩
abbrev sp_threshold (K : PySem.W.Frag) : Sp := Lsp K psp_threshold
theorem first_of {xs : List Rat} {x : Rat} (h : x ∈ xs) : ∃ j : Nat, xs[j]? = some x ∧ ∀ m : Nat, m < j → xs[m]? ≠ some x := by
  induction xs with
  | nil => simp at h
  | cons y xs ih =>
    rcases Classical.em (y = x) with e | e
    · exact ⟨0, by rw [e]; rfl, fun m hm => absurd hm (by omega)⟩
    · obtain ⟨j, h1, h2⟩ := ih (by
        rcases List.mem_cons.mp h with z | z
        · exact absurd z.symm e
        · exact z)
      refine ⟨j + 1, h1, fun m hm => ?_⟩
      cases m with
      | zero =>
        intro z
        exact e (Option.some.inj z)
      | succ m => exact h2 m (by omega)
theorem dF_at {xs : List Rat} {m : Nat} {x : Rat} : (xs.map dF)[m]? = some (dF x) ↔ xs[m]? = some x := by
  rw [List.getElem?_map]
  cases e : xs[m]? with
  | none => simp
  | some y =>
    simp only [Option.map_some, Option.some.injEq]
    exact ⟨fun h => dF_inj h, fun h => by rw [h]⟩
theorem map_erase {α : Type} (f : α → D) : ∀ (xs : List α) (j : Nat), (xs.map f).eraseIdx j = (xs.eraseIdx j).map f
  | [], _ => rfl
  | _ :: _, 0 => rfl
  | x :: xs, j + 1 => by
    show f x :: (xs.map f).eraseIdx j = f x :: (xs.eraseIdx j).map f
    rw [map_erase f xs j]
theorem ok_threshold (T : Txt K mg) : FnOk P w K mg base CX0 4 T.f_threshold T.fd_threshold ["weights", "size"] (sp_threshold K) := by
  refine T.F_threshold.ok sc_threshold (fun vs H Q E h => lsp_len h) (fun cdv A outer s H vs Q E hr h => ⟨_, (pss_cons (ps_if (pt_cmpR op_le (pe_callB (id := "len") call_len_seq (by rfl) T.z_len (by decide +kernel) (pa_cons (pv 0) pa_nil)) (pv 1) (nomark _))
        (pss_one (ps_ret (pe_glob (v := .ref T.a_NOTHING_optimal) (by rfl) T.g_NOTHING_optimal rfl)))
        pss_nil)
      (pss_cons (ps_set (i := 2) sc_threshold.nd rfl (Or.inl rfl) (pe_callTy (T := "list") call_list_of (by rfl) T.z_list (by decide +kernel) (pa_cons (pv 0) pa_nil)))
      (pss_cons (ps_set (i := 3) sc_threshold.nd rfl (Or.inl rfl) (pe_call (ok_sum_of T) (hr.mono (by decide)) (by rfl) T.g_sum_of T.F_sum_of.kp T.b_sum_of .nil pass0 (pa_cons (pv 2) pa_nil)))
      (pss_cons (ps_set (i := 4) sc_threshold.nd rfl (Or.inl rfl) (pv 1))
      (pss_one (ps_while PassesOwn.never (pt_val pe_bl)
        (pss_cons (ps_set (i := 5) sc_threshold.nd rfl (Or.inl rfl) (pe_call (ok_over T) (hr.mono (by decide)) (by rfl) T.g_over T.F_over.kp T.b_over .nil pass0 (pa_cons (pv 3) (pa_cons (pe_tup (pa_cons (pv 4) (pa_cons pe_int pa_nil))) pa_nil))))
        (pss_cons (ps_set (i := 6) sc_threshold.nd rfl (Or.inl rfl) (pe_ix ix_list (pv 2) pe_int (fun _ _ => rfl)))
        (pss_cons (ps_for PassesOwn.never rfl (pi_list (pv 2)) (pg_name (i := 7) sc_threshold.nd rfl (Or.inl rfl))
          (pss_one (ps_set (i := 6) sc_threshold.nd rfl (Or.inl rfl) (pe_call (ok_greater T) (hr.mono (by decide)) (by rfl) T.g_greater T.F_greater.kp T.b_greater .nil pass0 (pa_cons (pv 6) (pa_cons (pv 7) pa_nil))))))
        (pss_cons (ps_if (pt_not (pt_val (pe_call (ok_less T) (hr.mono (by decide)) (by rfl) T.g_less T.F_less.kp T.b_less .nil pass0 (pa_cons (pv 5) (pa_cons (pv 6) pa_nil)))))
          (pss_one (ps_ret (pv 5)))
          pss_nil)
        (pss_cons (ps_expr (pe_bm PySem.F.plainAttrs_list PySem.F.slot_list_remove PySem.F.type_list_remove (mt_remDk (K := K) rfl (room65 hr)) (pv 2) (pa_cons (pv 6) pa_nil)))
        (pss_cons (ps_set (i := 3) sc_threshold.nd rfl (Or.inl rfl) (pe_call (ok_minus T) (hr.mono (by decide)) (by rfl) T.g_minus T.F_minus.kp T.b_minus .nil pass0 (pa_cons (pv 3) (pa_cons (pv 6) pa_nil))))
        (pss_one (ps_aug (i := 4) sc_threshold.nd rfl (Or.inl rfl) pe_int ip_sub)))))))))))))), ?_⟩)
  try dsimp only [cxK, blkK, noxK, wishK]
  refine lsp_body (N := nm_threshold) h (by decide) fun xs q hn h => ?_
  clear hn
  obtain ⟨ws, k, m, rfl, ⟨hw, hk, hb, hlw⟩, hq⟩ := h
  have hw0 : ∀ w ∈ ws, 0 < w := fun w z => (hw w z).1
  refine ⟨fun hz => ?_, fun hz => ?_⟩
  · have hz' : (ws.length : Int) ≤ k := by simpa using of_decide_eq_true hz
    exact hq 0 ⟨fun _ => rfl, fun z => absurd z (by omega)⟩ (sz_zero.mono (by omega))
  · have hkl : k < ws.length := by
      have := of_decide_eq_false hz
      simp at this
      omega
    have hs0 : Sz LIM (rsum ws) := sz_rsumA (fun r hr => (hw r hr).2) (show TBits m ws ≤ 980 by omega)
    have hm : m ≤ 900 := by
      have : 1 * (m + 1) ≤ ws.length * (m + 1) := Nat.mul_le_mul_right _ (by omega)
      unfold TBits at hb
      omega
    refine .inr (.inr ⟨ws, rfl, sumOk m (fun r hr => (hw r hr).2) (show TBits m ws ≤ 980 by omega) (show m ≤ 980 by omega), rfl, ?_⟩)
    have two : ∀ (ls ts : List Rat), ThI ws k ls ts → Sz (TBits m ws) (rsum ls) := fun ls ts h => by
      have hl := h.perm.length_eq
      rw [List.length_append] at hl
      refine sz_rsumA (fun r hr => (hw r (h.perm.subset (List.mem_append_left _ hr))).2) ?_
      unfold TBits
      have : ls.length * (m + 1) ≤ ws.length * (m + 1) := Nat.mul_le_mul_right _ (by omega)
      omega
    refine ⟨fun n s => ∃ (ls ts : List Rat) (x5 x6 x7 : Option S), s = [some (.fr (dFs ws)), some (.fr (.int k)), some (.ow false (.lst (ls.map dF))), some (.fr (dF (rsum ls))), some (.fr (.int (k - ts.length))), x5, x6, x7] ∧ n = ls.length ∧ ThI ws k ls ts,
      ⟨_, ws, [], _, _, _, by simp; rfl, rfl, ⟨by simp, by simp; omega, fun _ h => by simp at h⟩⟩, ?_⟩
    rintro n s ⟨ls, ts, x5, x6, x7, rfl, rfl, hI⟩
    refine ⟨fun _ => ?_, fun h => (by cases h)⟩
    have hfew := hI.few
    have hl := hI.perm.length_eq
    rw [List.length_append] at hl
    have hSz := two ls ts hI
    have hM0 : ((k - ts.length : Int) : Rat) ≠ 0 := fun z => by
      have : k - (ts.length : Int) = 0 := Rat.intCast_inj.mp (z.trans rfl)
      omega
    have hMs : Sz 10 ((k - ts.length : Int) : Rat) := sz_int (by omega) (by decide)
    have hF := hSz.div hMs hM0
    have hmem : ∀ w ∈ ls, 0 < w ∧ Sz m w := fun w z => hw w (hI.perm.subset (List.mem_append_left _ z))
    cases ls with
    | nil =>
      simp at hl
      omega
    | cons a ls =>
      refine ⟨rsum (a :: ls), ((k - ts.length : Int) : Rat), rfl, ⟨hSz.mono (show _ ≤ 980 by omega), hMs.mono (by decide), hM0⟩, ?_⟩
      show (match atI ((a :: ls).map dF) 0 with | some z => _ | none => False)
      rw [show atI ((a :: ls).map dF) 0 = some (dF a) from atI_get (by decide) rfl]
      refine ⟨fun n s => ∃ x7, s = [some (.fr (dFs ws)), some (.fr (.int k)), none, some (.fr (dF (rsum (a :: ls)))), some (.fr (.int (k - ts.length))), some (.fr (dF (rsum (a :: ls) / ((k - ts.length : Int) : Rat)))), some (.fr (dF (maxQ a ((a :: ls).take n)))), x7], ⟨x7, rfl⟩, ?_, ?_⟩
      · rintro n d s hd ⟨x7, rfl⟩
        obtain ⟨b, hb1, rfl⟩ := map_at hd
        have hx : Sz m (maxQ a ((a :: ls).take n)) := by
          rcases maxQ_mem ((a :: ls).take n) a with z | z
          · rw [z]
            exact (hmem a List.mem_cons_self).2
          · exact (hmem _ (List.mem_of_mem_take z)).2
        refine ⟨_, b, rfl, ⟨hx.mono (show m ≤ 980 by omega), (hmem b (List.mem_of_getElem? hb1)).2.mono (show m ≤ 980 by omega)⟩, ?_⟩
        exact ⟨_, by rw [maxQ_take hb1]; rfl⟩
      · rintro s ⟨x7, rfl⟩
        rw [List.length_map, List.take_length]
        have hmx := (maxQ_ge (a :: ls) a).2
        have hin : maxQ a (a :: ls) ∈ a :: ls := by
          rcases maxQ_mem (a :: ls) a with z | z
          · rw [z]
            exact List.mem_cons_self
          · exact z
        generalize maxQ a (a :: ls) = x at hmx hin
        refine ⟨_, x, rfl, ⟨hF.mono (show _ ≤ 980 by omega), (hmem x hin).2.mono (show m ≤ 980 by omega)⟩, fun hz => ?_, fun hz => ?_⟩
        · have hlt : rsum (a :: ls) / ((k - ts.length : Int) : Rat) < x := of_decide_eq_true hz
          obtain ⟨j, hj, hno⟩ := first_of hin
          refine ⟨j, ⟨all_pl (n := 50) (f := dF) (fun r => pl_dF 49 r) (a :: ls), pl_dF 49 x⟩, dF_at.mpr hj, fun n hn z => hno n hn (dF_at.mp z), ?_⟩
          have hN := hI.next hw0 hkl hj hlt
          have hs : rsum (a :: ls) = x + rsum ((a :: ls).eraseIdx j) := by rw [← rsum_perm (erase_perm hj), rsum_cons]
          have hlen : ((a :: ls).eraseIdx j).length < (a :: ls).length := by
            have := (erase_perm hj).length_eq
            rw [List.length_cons] at this
            omega
          have e1 : k - (((x :: ts).length : Nat) : Int) = k - ts.length - 1 := by rw [List.length_cons]; omega
          have e2 : rsum (a :: ls) - x = rsum ((a :: ls).eraseIdx j) := by rw [hs]; grind
          exact ⟨rsum (a :: ls), x, rfl, ⟨hSz.mono (show _ ≤ 980 by omega), (hmem x hin).2.mono (show m ≤ 980 by omega), trivial⟩, ((a :: ls).eraseIdx j).length, hlen, (a :: ls).eraseIdx j, x :: ts, _, _, _, by rw [map_erase, ← e2, e1]; rfl, rfl, hN⟩
        · have hle : x ≤ rsum (a :: ls) / ((k - ts.length : Int) : Rat) := Rat.not_lt.mp (of_decide_eq_false hz)
          exact hq _ (hI.done hw0 hkl fun y hy => Rat.le_trans (hmx y hy) hle) (hF.mono (by omega))

def psp__law_sum : Psp := psp_sum_of
abbrev sp__law_sum (K : PySem.W.Frag) : Sp := Lsp K psp_sum_of
theorem ok__law_sum (T : Txt K mg) : FnOk P w K mg base CX0 3 T.f__law_sum T.fd__law_sum ["_law_rows"] (sp__law_sum K) := by
  refine T.F__law_sum.ok sc__law_sum (fun vs H Q E h => lsp_len h) (fun cdv A outer s H vs Q E hr h => ⟨_, (pss_cons (ps_set (i := 1) sc__law_sum.nd rfl (Or.inl rfl) (pe_tup (pa_cons pe_int (pa_cons pe_int pa_nil))))
      (pss_cons (ps_for PassesOwn.never rfl (pi_list (pv 0)) (pg_name (i := 2) sc__law_sum.nd rfl (Or.inl rfl))
        (pss_one (ps_set (i := 1) sc__law_sum.nd rfl (Or.inl rfl) (pe_call (ok__law_plus T) (hr.mono (by decide)) (by rfl) T.g__law_plus T.F__law_plus.kp T.b__law_plus .nil pass0 (pa_cons (pv 1) (pa_cons (pv 2) pa_nil))))))
      (pss_one (ps_ret (pv 1))))), ?_⟩)
  try dsimp only [cxK, blkK, noxK, wishK]
  refine lsp_body (N := nm__law_sum) h (by decide) fun xs q hn h => ?_
  clear hn
  obtain ⟨rs, rfl, hs, hq⟩ := h
  refine ⟨fun i s => ∃ x2, s = [some (.fr (dFs rs)), some (.fr (dF (rsum (rs.take i)))), x2], ⟨_, rfl⟩, ?_, ?_⟩
  · rintro i d s hd ⟨x2, rfl⟩
    obtain ⟨r, hr, rfl⟩ := map_at hd
    refine ⟨_, _, rfl, ⟨hs.2 i, hs.1 r (List.mem_of_getElem? hr), trivial⟩, some (.fr (dF r)), ?_⟩
    rw [rsum_take hr]
    rfl
  · rintro s ⟨x2, rfl⟩
    rw [List.length_map, List.take_length]
    exact hq

def psp__law_weight : Psp := ⟨1, fun xs q => ∃ ns : List Int, xs = [.ow true (rowO ns)] ∧ ∀ (w : Rat) (ms : List Int), 0 < w → Sz 10 w → q (.fr (dF w)) [rowO ms]⟩
abbrev sp__law_weight (K : PySem.W.Frag) : Sp := Lsp K psp__law_weight
theorem divInt_pos {a b : Int} (ha : 0 < a) (hb : 0 < b) : 0 < Rat.divInt a b := by
  rw [Rat.divInt_eq_div, Rat.div_def]
  exact Rat.mul_pos (Rat.intCast_pos.mpr ha) (Rat.inv_pos.mpr (Rat.intCast_pos.mpr hb))
theorem ok__law_weight (T : Txt K mg) : FnOk P w K mg base CX0 2 T.f__law_weight T.fd__law_weight ["_law_row"] (sp__law_weight K) := by
  refine T.F__law_weight.ok sc__law_weight (fun vs H Q E h => lsp_len h) (fun cdv A outer s H vs Q E hr h => ⟨_, (pss_cons (ps_if (pt_cmpR op_eq (pe_call (ok__law_take T) (hr.mono (by decide)) (by rfl) T.g__law_take T.F__law_take.kp T.b__law_take .nil pass0 (pa_cons (pv 0) (pa_cons pe_int pa_nil))) pe_int (nomark _))
        (pss_one (ps_ret (pe_call (ok__law_low T) (hr.mono (by decide)) (by rfl) T.g__law_low T.F__law_low.kp T.b__law_low .nil pass0 (pa_cons (pe_op op_add pe_int (pe_call (ok__law_take T) (hr.mono (by decide)) (by rfl) T.g__law_take T.F__law_take.kp T.b__law_take .nil pass0 (pa_cons (pv 0) (pa_cons pe_int pa_nil)))) (pa_cons (pe_op op_add pe_int (pe_call (ok__law_take T) (hr.mono (by decide)) (by rfl) T.g__law_take T.F__law_take.kp T.b__law_take .nil pass0 (pa_cons (pv 0) (pa_cons pe_int pa_nil)))) pa_nil)))))
        pss_nil)
      (pss_one (ps_ret (pe_call (ok__law_low T) (hr.mono (by decide)) (by rfl) T.g__law_low T.F__law_low.kp T.b__law_low .nil pass0 (pa_cons (pe_op op_add pe_int (pe_call (ok__law_take T) (hr.mono (by decide)) (by rfl) T.g__law_take T.F__law_take.kp T.b__law_take .nil pass0 (pa_cons (pv 0) (pa_cons pe_int pa_nil)))) (pa_cons (pe_op op_add pe_int (pe_call (ok__law_take T) (hr.mono (by decide)) (by rfl) T.g__law_take T.F__law_take.kp T.b__law_take .nil pass0 (pa_cons (pv 0) (pa_cons pe_int pa_nil)))) pa_nil)))))), ?_⟩)
  try dsimp only [cxK, blkK, noxK, wishK]
  refine lsp_body (N := nm__law_weight) h (by decide) fun xs q hn h => ?_
  clear hn
  obtain ⟨ns, rfl, hq⟩ := h
  refine ⟨ns, 5, rfl, by decide, fun z ms z0 z1 => ⟨fun _ => ?_, fun _ => ?_⟩⟩
  · refine ⟨ms, 840, rfl, by decide, fun z2 ms2 z20 z21 => ⟨ms2, 4, rfl, by decide, fun z3 ms3 z30 z31 => ?_⟩⟩
    refine ⟨1 + z2, 1 + z3, rfl, ⟨show 0 < 1 + z3 by omega, pow_up (a := 30) (by omega) (by decide), pow_up (a := 30) (by omega) (by decide)⟩, ?_⟩
    exact hq _ ms3 (divInt_pos (by omega) (by omega)) (sz_divInt (by omega) (by omega) (by omega))
  · refine ⟨ms, 12, rfl, by decide, fun z2 ms2 z20 z21 => ⟨ms2, 3, rfl, by decide, fun z3 ms3 z30 z31 => ?_⟩⟩
    refine ⟨1 + z2, 1 + z3, rfl, ⟨show 0 < 1 + z3 by omega, pow_up (a := 30) (by omega) (by decide), pow_up (a := 30) (by omega) (by decide)⟩, ?_⟩
    exact hq _ ms3 (divInt_pos (by omega) (by omega)) (sz_divInt (by omega) (by omega) (by omega))

theorem Th.ge {ws : List Rat} {k : Int} {T t : Rat} (h : Th ws k T) (hw : ∀ w ∈ ws, 0 < w) (hk : k < ws.length) (hge : (k : Rat) ≤ rsum (ws.map (keepQ · t))) : t ≤ T := by
  have a := h.pos hk
  rcases Classical.em (T < t) with q | q
  · rcases Classical.em (∃ w ∈ ws, w < t) with z | z
    · have := keepQ_strict a.1 q hw z
      rw [a.2] at this
      grind
    · obtain ⟨w, h1, h2⟩ := some_small a.2 hk
      exact absurd ⟨w, h1, by grind⟩ z
  · grind
theorem keepQ_pos {w t : Rat} (hw : 0 < w) (ht : 0 ≤ t) : 0 ≤ keepQ w t := by
  unfold keepQ
  split
  · rw [Rat.div_def]
    exact Rat.le_of_lt (Rat.mul_pos hw (Rat.inv_pos.mpr (by grind)))
  · decide
def bigQ (S : List Rat) (t : Rat) : List Rat := S.filter (fun w => !decide (w < t))
def smallQ (S : List Rat) (t : Rat) : List Rat := S.filter (fun w => decide (w < t))
theorem rsum_split (S : List Rat) (t : Rat) : rsum S = rsum (bigQ S t) + rsum (smallQ S t) := by
  induction S with
  | nil => show (0 : Rat) = 0 + 0; grind
  | cons x S ih =>
    unfold bigQ smallQ at *
    rw [List.filter_cons, List.filter_cons, rsum_cons, ih]
    by_cases c : x < t
    · simp only [c, decide_true, Bool.not_true, if_true]
      rw [if_neg (by decide), rsum_cons]
      grind
    · simp only [c, decide_false, Bool.not_false, if_true]
      rw [if_neg (by decide), rsum_cons]
      grind
theorem fsum_split (S : List Rat) (t T : Rat) : rsum (S.map (keepQ · T)) = rsum ((bigQ S t).map (keepQ · T)) + rsum ((smallQ S t).map (keepQ · T)) := by
  induction S with
  | nil => show (0 : Rat) = 0 + 0; grind
  | cons x S ih =>
    unfold bigQ smallQ at *
    rw [List.filter_cons, List.filter_cons, List.map_cons, rsum_cons, ih]
    by_cases c : x < t
    · simp only [c, decide_true, Bool.not_true, if_true]
      rw [if_neg (by decide), List.map_cons, rsum_cons]
      grind
    · simp only [c, decide_false, Bool.not_false, if_true]
      rw [if_neg (by decide), List.map_cons, rsum_cons]
      grind
theorem rsum_rep (n : Nat) (t : Rat) : rsum (List.replicate n t) = ((n : Int) : Rat) * t := by
  induction n with
  | zero => rw [List.replicate_zero, rsum_nil]; show (0 : Rat) = 0 * t; grind
  | succ n ih => rw [List.replicate_succ, rsum_cons, ih, cast_succ]; grind
/-- the parts below the limit, by their sum -/
theorem small_is {S : List Rat} {k : Int} {t : Rat} (h : Th S k t) (hw : ∀ w ∈ S, 0 < w) (hk : k < S.length) : ((bigQ S t).length : Int) ≤ k ∧ rsum (smallQ S t) = ((k - (bigQ S t).length : Int) : Rat) * t := by
  have a := h.pos hk
  have e := keepQ_split t S
  rw [a.2] at e
  have e : (k : Rat) = rsum (smallQ S t) / t + (((bigQ S t).length : Int) : Rat) := e
  have hn : 0 ≤ rsum (smallQ S t) := rsum_nn fun r hr => Rat.le_of_lt (hw r (List.mem_filter.mp hr).1)
  have t0 := a.1
  have hd : 0 ≤ rsum (smallQ S t) / t := by
    rw [Rat.div_def]
    exact Rat.mul_nonneg hn (Rat.le_of_lt (Rat.inv_pos.mpr t0))
  refine ⟨Rat.intCast_le_intCast.mp (by grind), ?_⟩
  rw [Rat.intCast_sub]
  grind
def raised (S : List Rat) (k : Int) (t : Rat) : List Rat := bigQ S t ++ List.replicate (k - (bigQ S t).length).toNat t
theorem raised_sum {S : List Rat} {k : Int} {t : Rat} (h : Th S k t) (hw : ∀ w ∈ S, 0 < w) (hk : k < S.length) : rsum (raised S k t) = rsum S ∧ ((raised S k t).length : Int) = k := by
  have b := small_is h hw hk
  unfold raised
  rw [rsum_app, rsum_rep, rsum_split S t, b.2, Int.toNat_of_nonneg (by omega), List.length_append, List.length_replicate]
  exact ⟨rfl, by omega⟩
theorem raised_th {S R : List Rat} {k : Int} {t T : Rat} (h : Th S k t) (hS : ∀ w ∈ S, 0 < w) (hR : ∀ w ∈ R, 0 < w) (hk : k < S.length) (hT : Th (S ++ R) k T) : t ≤ T ∧ (R ≠ [] → Th (raised S k t ++ R) k T) := by
  have hw : ∀ w ∈ S ++ R, 0 < w := fun w hw => by
    rcases List.mem_append.mp hw with z | z
    · exact hS w z
    · exact hR w z
  have hk2 : k < ((S ++ R).length : Int) := by rw [List.length_append]; omega
  have t0 := (h.pos hk).1
  have a := hT.pos hk2
  have htT : t ≤ T := by
    refine hT.ge hw hk2 ?_
    rw [List.map_append, rsum_app, (h.pos hk).2]
    have : 0 ≤ rsum (R.map (keepQ · t)) := rsum_nn fun r hr => by
      obtain ⟨w, z, rfl⟩ := List.mem_map.mp hr
      exact keepQ_pos (hR w z) (Rat.le_of_lt t0)
    grind
  refine ⟨htT, fun hne => ?_⟩
  have hl := (raised_sum h hS hk).2
  have hRl : 0 < R.length := List.length_pos_iff.mpr hne
  refine ⟨fun z => ?_, fun _ => ⟨a.1, ?_⟩⟩
  · rw [List.length_append] at z
    omega
  · have b := small_is h hS hk
    have e := a.2
    rw [List.map_append, rsum_app, fsum_split S t T, keepQ_small a.1 (ss := smallQ S t) fun y hy => by
      have := of_decide_eq_true (List.mem_filter.mp hy).2
      grind] at e
    unfold raised
    rw [List.map_append, rsum_app, List.map_append, rsum_app, keepQ_small a.1 (ss := List.replicate _ t) fun y hy => by
      rw [(List.mem_replicate.mp hy).2]
      exact htT, rsum_rep, Int.toNat_of_nonneg (by omega), ← b.2]
    exact e
def rd (S : List Rat) (k : Int) (t : Rat) : List Rat := if t = 0 then S else raised S k t
theorem bigQ_zero {S : List Rat} (h : ∀ w ∈ S, 0 < w) : bigQ S 0 = S := by
  unfold bigQ
  rw [List.filter_eq_self]
  intro w hw
  have := h w hw
  rw [decide_eq_false (by grind)]
  rfl
theorem bigQ_snoc (S : List Rat) (x t : Rat) : bigQ (S ++ [x]) t = if x < t then bigQ S t else bigQ S t ++ [x] := by
  unfold bigQ
  rw [List.filter_append]
  split
  · rename_i c
    rw [List.filter_cons, if_neg (by simp [c]), List.filter_nil, List.append_nil]
  · rename_i c
    rw [List.filter_cons, if_pos (by simp [c]), List.filter_nil]
theorem Th.pos_iff {ws : List Rat} {k : Int} {t : Rat} (h : Th ws k t) : t ≠ 0 → k < ws.length := fun z => by
  rcases Int.lt_or_le k ws.length with q | q
  · exact q
  · exact absurd (h.zero q) z
theorem rd_ok {S : List Rat} {k : Int} {t : Rat} {n : Nat} (h : Th S k t) (hS : ∀ w ∈ S, 0 < w ∧ Sz n w) (ht : Sz n t) : (∀ w ∈ rd S k t, 0 < w ∧ Sz n w) ∧ (rd S k t).length ≤ S.length ∧ rsum (rd S k t) = rsum S := by
  unfold rd
  split
  · exact ⟨hS, Nat.le_refl _, rfl⟩
  · rename_i hz
    have hk := h.pos_iff hz
    have hs := raised_sum h (fun w z => (hS w z).1) hk
    refine ⟨fun w hw => ?_, by omega, hs.1⟩
    unfold raised at hw
    rcases List.mem_append.mp hw with z | z
    · exact hS w (List.mem_filter.mp z).1
    · rw [(List.mem_replicate.mp z).2]
      exact ⟨(h.pos hk).1, ht⟩
theorem rd_th {S R : List Rat} {k : Int} {t T : Rat} (h : Th S k t) (hS : ∀ w ∈ S, 0 < w) (hR : ∀ w ∈ R, 0 < w) (hT : Th (S ++ R) k T) (hc : R ≠ [] ∨ t = 0) : Th (rd S k t ++ R) k T := by
  unfold rd
  split
  · exact hT
  · rename_i hz
    exact (raised_th h hS hR (h.pos_iff hz) hT).2 (hc.resolve_right hz)
theorem Th.le_of {us ws : List Rat} {j k : Int} {t T : Rat} (h : Th us j t) (hT : Th ws k T) (hw : ∀ w ∈ ws, 0 < w) (hk : t ≠ 0 → k < ws.length ∧ (k : Rat) ≤ rsum (ws.map (keepQ · t))) : ¬ T < t := by
  rcases Classical.em (t = 0) with z | z
  · have := hT.nn
    grind
  · have := hT.ge hw (hk z).1 (hk z).2
    grind
theorem le1 {S R : List Rat} {k : Int} {t T : Rat} (h : Th S k t) (hR : ∀ w ∈ R, 0 < w) (hS : ∀ w ∈ S, 0 < w) (hT : Th (S ++ R) k T) : ¬ T < t :=
  h.le_of hT (fun w hw => (List.mem_append.mp hw).elim (hS w) (hR w)) fun z => by
    have hk := h.pos_iff z
    refine ⟨by rw [List.length_append]; omega, ?_⟩
    have a := h.pos hk
    rw [List.map_append, rsum_app, a.2]
    have : 0 ≤ rsum (R.map (keepQ · t)) := rsum_nn fun r hr => by
      obtain ⟨w, z, rfl⟩ := List.mem_map.mp hr
      exact keepQ_pos (hR w z) (Rat.le_of_lt a.1)
    grind
theorem le2 {ws : List Rat} {k : Int} {t T : Rat} (h : Th ws (k + 1) t) (hT : Th ws k T) (hw : ∀ w ∈ ws, 0 < w) : ¬ T < t :=
  h.le_of hT hw fun z => by
    have hk := h.pos_iff z
    refine ⟨by omega, ?_⟩
    rw [(h.pos hk).2]
    exact Rat.intCast_le_intCast.mpr (by omega)
theorem cut_lo (ws : List Rat) (n : Nat) (h : n ≤ ws.length) : cutD (ws.map dF) none (some (n : Int)) = (ws.take n).map dF := by
  unfold cutD
  rw [HT.sIx_nat, HT.sIx_none, List.length_map, Nat.min_eq_left h, List.drop_zero, List.map_take]
  rfl
theorem cut_hi (ws : List Rat) (n : Nat) (h : n ≤ ws.length) : cutD (ws.map dF) (some (n : Int)) none = (ws.drop n).map dF := by
  unfold cutD
  rw [HT.sIx_nat, HT.sIx_none, List.length_map, Nat.min_eq_left h, ← List.map_drop, List.take_of_length_le (by simp)]
theorem pLc_fil {pi : PI1} {pg : PG1} {pt : PT1} {ss : List Nat} {pe : PD} {vs : List Nat} {s : Sl} {q : S → Sl → Prop} (ds : List D) (fl : Nat → List D) (s1 S0 : Sl) (h1 : ∀ k : List D → Sl → Prop, k ds s1 → pi s k) (hl : ds.length ≤ 100000) (hf : fl 0 = [])
    (hs : ∀ i d, ds[i]? = some d → pg d S0 fun s3 => pt s3 (fun s4 => pe s4 fun e s5 => fl i ++ [e] = fl (i + 1) ∧ wipeS s5 vs = S0) fun s4 => fl i = fl (i + 1) ∧ wipeS s4 vs = S0)
    (hq : q (.ow false (.lst (fl ds.length))) S0) (hss : ss.all vs.contains = true := by rfl) (h0 : wipeS s1 vs = S0 := by rfl) : pLc pi pg ss pt pe vs s q := by
  refine h1 _ ?_
  show (if ss.all vs.contains = true then _ else False)
  rw [if_pos hss]
  refine ⟨hl, fun i acc s => acc = fl i ∧ s = S0, ⟨hf.symm, h0⟩, ?_, ?_⟩
  · rintro i d acc s2 hd ⟨rfl, rfl⟩
    exact hs i d hd
  · rintro acc s2 ⟨rfl, rfl⟩
    exact hq
theorem dF_zero {t : Rat} : dF t = .tup [.int 0, .int 1] ↔ t = 0 := ⟨fun h => dF_inj (h.trans rfl), fun h => by rw [h]; rfl⟩
theorem pVar_ow {i : Nat} {s : Sl} {q : S → Sl → Prop} {o : O} (h : s[i]? = some (some (.ow false o))) (k : q (.fr o.dat) (s.set i (some (.fr o.dat)))) : pVar i s q := by
  unfold pVar
  rw [h]
  exact k

abbrev L29 (sc ns : List Int) (a b c d e f g : Option S) : Sl := [some (.fr (.scr sc)), some (.ow false (rowO ns)), a, b, c, d, e, f, g, none, none]
set_option maxHeartbeats 8000000 in
theorem okP_law (T : Txt K mg) : FnOk P w K mg base CX0 5 T.f_law T.fd_law ["_law_script"] (Lsp K psp_law) := by
  refine T.F_law.ok sc_law (fun vs H Q E h => lsp_len h) (fun cdv A outer s H vs Q E hr h => ⟨_, (pss_cons (ps_set (i := 1) sc_law.nd rfl (Or.inr rfl) (pe_call (ok__law_numbers T) (hr.mono (by decide)) (by rfl) T.g__law_numbers T.F__law_numbers.kp T.b__law_numbers .nil pass0 (pa_cons (pv 0) (pa_cons pe_int pa_nil))))
      (pss_cons (ps_for PassesOwn.never rfl (pi_range1 (by rfl) T.z_range (pa_cons pe_int pa_nil)) (pg_name (i := 2) sc_law.nd rfl (Or.inl rfl))
        (pss_cons (ps_setLc (i := 3) (own := [("_law_k", 9)]) (g := gName 9) rfl sc_law.nd rfl rfl (sw_true rfl rfl rfl (by decide +kernel)) (pi_range1 (by rfl) T.z_range (pa_cons (pe_op op_add pe_int (pe_call (ok__law_take T) (hr.mono (by decide)) (by rfl) T.g__law_take T.F__law_take.kp T.b__law_take .nil pass0 (pa_cons (pv 1) (pa_cons pe_int pa_nil)))) pa_nil)) (blkOk_by (own := [("_law_k", 9)]) (N := nm_law) (sc := defScope s_law) (by decide +kernel)) (fun _ _ _ _ _ => pg_name (i := 9) sc_law.nd rfl (Or.inl rfl)) (fun _ _ _ _ _ => pts_nil) (fun _ _ _ _ _ => (pe_call (ok__law_weight T) (hr.mono (by decide)) (by rfl) T.g__law_weight T.F__law_weight.kp T.b__law_weight .nil pass0 (pa_cons (pv 1) pa_nil))))
        (pss_cons (ps_set (i := 4) sc_law.nd rfl (Or.inl rfl) (pe_op op_add pe_int (pe_call (ok__law_take T) (hr.mono (by decide)) (by rfl) T.g__law_take T.F__law_take.kp T.b__law_take .nil pass0 (pa_cons (pv 1) (pa_cons pe_int pa_nil)))))
        (pss_cons (ps_set (i := 5) sc_law.nd rfl (Or.inl rfl) (pe_call (ok__law_take T) (hr.mono (by decide)) (by rfl) T.g__law_take T.F__law_take.kp T.b__law_take .nil pass0 (pa_cons (pv 1) (pa_cons (pe_op op_add (pe_callB (id := "len") call_len_seq (by rfl) T.z_len (by decide +kernel) (pa_cons (pv 3) pa_nil)) pe_int) pa_nil))))
        (pss_cons (ps_set (i := 6) sc_law.nd rfl (Or.inr rfl) (pe_call (ok_threshold T) (hr.mono (by decide)) (by rfl) T.g_threshold T.F_threshold.kp T.b_threshold .nil pass0 (pa_cons (pe_slice sl_list (pv 3) po_none (po_some (pv 5))) (pa_cons (pv 4) pa_nil))))
        (pss_cons (ps_setLc (i := 7) (own := [("_law_weight_here", 10)]) (g := gName 10) rfl sc_law.nd rfl rfl (sw_true rfl rfl rfl (by decide +kernel)) (pi_list (pe_slice sl_list (pv 3) po_none (po_some (pv 5)))) (blkOk_by (own := [("_law_weight_here", 10)]) (N := nm_law) (sc := defScope s_law) (by decide +kernel)) (fun _ _ _ _ _ => pg_name (i := 10) sc_law.nd rfl (Or.inl rfl)) (fun _ _ _ _ _ => (pts_one (pt_not (pt_val (pe_call (ok__law_less T) (hr.mono (by decide)) (by rfl) T.g__law_less T.F__law_less.kp T.b__law_less .nil pass0 (pa_cons (pv 10) (pa_cons (pv 6) pa_nil))))))) (fun _ _ _ _ _ => (pv 10)))
        (pss_cut (ps_if (pt_cmpR (op_neD hr.units) (pv 6) (pe_tup (pa_cons pe_int (pa_cons pe_int pa_nil))) (nomark _))
          (pss_one (ps_set (i := 7) sc_law.nd rfl (Or.inl rfl) (pe_op op_cat (pv 7) (pe_lc (own := [("_law_k", 9)]) (g := gName 9) rfl sc_law.nd (pi_range1 (by rfl) T.z_range (pa_cons (pe_op op_sub (pv 4) (pe_callB (id := "len") call_len_seq (by rfl) T.z_len (by decide +kernel) (pa_cons (pv 7) pa_nil))) pa_nil)) (blkOk_by (own := [("_law_k", 9)]) (N := nm_law) (sc := defScope s_law) (by decide +kernel)) (fun _ _ _ _ _ => pg_name (i := 9) sc_law.nd rfl (Or.inl rfl)) (fun _ _ _ _ _ => pts_nil) (fun _ _ _ _ _ => (pv 6))))))
          pss_nil)
        (pss_cons (ps_set (i := 8) sc_law.nd rfl (Or.inl rfl) (pe_call (ok_threshold T) (hr.mono (by decide)) (by rfl) T.g_threshold T.F_threshold.kp T.b_threshold .nil pass0 (pa_cons (pe_callTy (T := "list") call_list_of (by rfl) T.z_list (by decide +kernel) (pa_cons (pv 3) pa_nil)) (pa_cons (pv 4) pa_nil))))
        (pss_cons (ps_if (pt_cmpR (op_neD hr.units) (pe_call (ok__law_sum T) (hr.mono (by decide)) (by rfl) T.g__law_sum T.F__law_sum.kp T.b__law_sum .nil pass0 (pa_cons (pv 7) pa_nil)) (pe_call (ok__law_sum T) (hr.mono (by decide)) (by rfl) T.g__law_sum T.F__law_sum.kp T.b__law_sum .nil pass0 (pa_cons (pe_slice sl_list (pv 3) po_none (po_some (pv 5))) pa_nil)) (nomark _))
          (pss_one (ps_ret pe_bl))
          pss_nil)
        (pss_cut (ps_if (PW.pt (pw_and (PW.pt (pw_or (pt_cmpR op_lt (pv 5) (pe_callB (id := "len") call_len_seq (by rfl) T.z_len (by decide +kernel) (pa_cons (pv 3) pa_nil)) (nomark _)) (pw_or1 (pt_cmpR (op_eqD hr.units) (pv 6) (pe_tup (pa_cons pe_int (pa_cons pe_int pa_nil))) (nomark _))))) (pw_and1 (pt_cmpR (op_neD hr.units) (pe_call (ok_threshold T) (hr.mono (by decide)) (by rfl) T.g_threshold T.F_threshold.kp T.b_threshold .nil pass0 (pa_cons (pe_op op_cat (pv 7) (pe_slice sl_list (pv 3) (po_some (pv 5)) po_none)) (pa_cons (pv 4) pa_nil))) (pv 8) (nomark _)))))
          (pss_one (ps_ret pe_bl))
          pss_nil)
        (pss_cons (ps_if (PW.pt (pw_or (pt_val (pe_call (ok__law_less T) (hr.mono (by decide)) (by rfl) T.g__law_less T.F__law_less.kp T.b__law_less .nil pass0 (pa_cons (pv 8) (pa_cons (pv 6) pa_nil)))) (pw_or1 (pt_val (pe_call (ok__law_less T) (hr.mono (by decide)) (by rfl) T.g__law_less T.F__law_less.kp T.b__law_less .nil pass0 (pa_cons (pv 8) (pa_cons (pe_call (ok_threshold T) (hr.mono (by decide)) (by rfl) T.g_threshold T.F_threshold.kp T.b_threshold .nil pass0 (pa_cons (pe_callTy (T := "list") call_list_of (by rfl) T.z_list (by decide +kernel) (pa_cons (pv 3) pa_nil)) (pa_cons (pe_op op_add (pv 4) pe_int) pa_nil))) pa_nil)))))))
          (pss_one (ps_ret pe_bl))
          pss_nil)
        (pss_one (ps_if (pt_val (pe_call (ok__law_less T) (hr.mono (by decide)) (by rfl) T.g__law_less T.F__law_less.kp T.b__law_less .nil pass0 (pa_cons (pe_call (ok_threshold T) (hr.mono (by decide)) (by rfl) T.g_threshold T.F_threshold.kp T.b_threshold .nil pass0 (pa_cons (pe_op op_cat (pv 3) (pe_lst (pa_cons (pe_call (ok__law_weight T) (hr.mono (by decide)) (by rfl) T.g__law_weight T.F__law_weight.kp T.b__law_weight .nil pass0 (pa_cons (pv 1) pa_nil)) pa_nil))) (pa_cons (pv 4) pa_nil))) (pa_cons (pv 8) pa_nil))))
          (pss_one (ps_ret pe_bl))
          pss_nil)))))))))))))
      (pss_one (ps_ret pe_bl)))), ?_⟩)
  try dsimp only [cxK, blkK, noxK, wishK]
  refine lsp_body (N := nm_law) h (by decide) fun xs q hn h => ?_
  clear hn
  obtain ⟨sc, rfl, hsc, hq⟩ := h
  refine ⟨sc, 60, rfl, ⟨hsc, by decide, by decide⟩, fun ns => ?_⟩
  refine ⟨⟨by decide, by decide⟩, fun i s => ∃ (ns : List Int) (x2 x3 x4 x5 x6 x7 x8 : Option S), s = L29 sc ns x2 x3 x4 x5 x6 x7 x8, ⟨_, _, _, _, _, _, _, _, rfl⟩, ?_, ?_⟩
  · rintro i d s hd ⟨ns, x2, x3, x4, x5, x6, x7, x8, rfl⟩
    refine .inl ⟨ns, 6, rfl, by decide, fun n6 ns1 n60 n61 => ?_⟩
    refine ⟨⟨by omega, by omega⟩, by rw [rngD_len]; omega, fun i acc s => ∃ (ws : List Rat) (ns : List Int), acc = ws.map dF ∧ ws.length = i ∧ (∀ w ∈ ws, 0 < w ∧ Sz 10 w) ∧
      s = L29 sc ns (some (.fr d)) x3 x4 x5 x6 x7 x8, ⟨[], ns1, rfl, rfl, by simp, rfl⟩, ?_, ?_⟩
    · rintro i d acc s hd ⟨ws, ns, rfl, hl, hall, rfl⟩
      refine .inl ⟨ns, rfl, fun w ms w0 wS => ⟨ws ++ [w], ms, by rw [List.map_append]; rfl, by simp [hl], fun p h => ?_, rfl⟩⟩
      rcases List.mem_append.mp h with h | h
      · exact hall p h
      · rw [List.mem_singleton.mp h]
        exact ⟨w0, wS⟩
    rintro acc s ⟨ws, ns2, rfl, hl, hall, rfl⟩
    rw [rngD_len] at hl
    refine .inl ⟨ns2, 4, rfl, by decide, fun z ms z0 z1 => ?_⟩
    refine .inl ⟨ms, ((ws.map dF).length : Int) + 1, rfl, by have := List.length_map (as := ws) dF; omega, fun c ms2 c0 c1 => ?_⟩
    have hcl : ((ws.map dF).length : Int) = ws.length := by simp
    rw [hcl] at c1
    have hw : ∀ w ∈ ws, 0 < w := fun w h => (hall w h).1
    obtain ⟨n, rfl⟩ : ∃ n : Nat, c = (n : Int) := ⟨c.toNat, by omega⟩
    have hn : n ≤ ws.length := by omega
    have he := cut_lo ws n hn
    have he2 := cut_hi ws n hn
    have hS : ∀ w ∈ ws.take n, 0 < w ∧ Sz 10 w := fun w h => hall w (List.mem_of_mem_take h)
    have hR : ∀ w ∈ ws.drop n, 0 < w ∧ Sz 10 w := fun w h => hall w (List.mem_of_mem_drop h)
    have hSl : (ws.take n).length ≤ 6 := by rw [List.length_take]; omega
    have hSR : ws.take n ++ ws.drop n = ws := List.take_append_drop n ws
    refine ⟨ws.take n, 1 + z, 10, congrArg (fun y => [S.fr (D.lst y), S.fr (.int (1 + z))]) he, ⟨hS, by omega, by unfold TBits; omega, by omega⟩, fun t hT ht => ?_⟩
    have ht : Sz 78 t := ht.mono (by unfold TBits; omega)
    dsimp only [psSeq, psSet, psRet, psDrop, psAsg, pCall, prCons, prNil, pDat, pCB, pCons, pOp]
    refine pLc_fil ((ws.take n).map dF) (fun i => (bigQ ((ws.take n).take i) t).map dF) (L29 sc ms2 (some (.fr d)) (some (.fr (dFs ws))) (some (.fr (.int (1 + z)))) (some (.fr (.int (n : Int)))) (some (.fr (dF t))) x7 x8) (L29 sc ms2 (some (.fr d)) (some (.fr (dFs ws))) (some (.fr (.int (1 + z)))) (some (.fr (.int (n : Int)))) (some (.fr (dF t))) x7 x8) (fun k h => ?_) (by simp; omega) rfl (fun i d hd => ?_) ?_
    · show k (cutD (ws.map dF) none (some (n : Int))) _
      rw [he]
      exact h
    · obtain ⟨w, hw1, rfl⟩ := map_at hd
      have h1 := hS w (List.mem_of_getElem? hw1)
      have e1 : ((ws.take n).take (i + 1)) = (ws.take n).take i ++ [w] := by rw [List.take_add_one, hw1]; rfl
      refine ⟨w, t, rfl, ⟨h1.2.mono (by decide), ht.mono (by decide)⟩, fun hz => ?_, fun hz => ?_⟩
      · rw [e1, bigQ_snoc, if_pos (of_decide_eq_true hz)]
        exact ⟨rfl, rfl⟩
      · rw [e1, bigQ_snoc, if_neg (of_decide_eq_false hz), List.map_append]
        exact ⟨rfl, rfl⟩
    rw [List.length_map, List.take_length]
    refine ⟨fun s => s = (L29 sc ms2 (some (.fr d)) (some (.fr (dFs ws))) (some (.fr (.int (1 + z)))) (some (.fr (.int (n : Int)))) (some (.fr (dF t))) (some (.ow false (.lst ((rd (ws.take n) (1 + z) t).map dF)))) x8), ?_, ?_⟩
    · refine ⟨pl_dF _ _, rfl, fun hz => ?_, fun hz => ?_⟩
      · have hz0 : t ≠ 0 := fun e => by
          rw [show eqD (S.fr (dF t)).dat (S.fr (D.tup [(S.fr (D.int 0)).dat, (S.fr (D.int 1)).dat])).dat = true from eqD_true (dF_zero.mpr e)] at hz
          cases hz
        have hkS := hT.pos_iff hz0
        have hbk := (small_is hT (fun w h => (hS w h).1) hkS).1
        dsimp only [psSeq, psSet, psRet, psDrop, psAsg, pCall, prCons, prNil, pDat, pCB, pCons, pOp]
        refine pVar_ow (o := .lst ((bigQ (ws.take n) t).map dF)) rfl ?_
        refine pLc_map (rngD 0 ((1 + z) - ((bigQ (ws.take n) t).map dF).length).toNat) ((List.replicate ((1 + z) - (bigQ (ws.take n) t).length).toNat t).map dF) (L29 sc ms2 (some (.fr d)) (some (.fr (dFs ws))) (some (.fr (.int (1 + z)))) (some (.fr (.int (n : Int)))) (some (.fr (dF t))) (some (.fr (dFs (bigQ (ws.take n) t)))) x8) (L29 sc ms2 (some (.fr d)) (some (.fr (dFs ws))) (some (.fr (.int (1 + z)))) (some (.fr (.int (n : Int)))) (some (.fr (dF t))) (some (.fr (dFs (bigQ (ws.take n) t)))) x8) (fun k h => ?_) (by rw [rngD_len]; omega) (by rw [rngD_len]; simp) (fun i d hd => ?_) ?_
        · refine ⟨⟨?_, ?_⟩, h⟩
          all_goals (have := List.length_map (as := bigQ (ws.take n) t) dF; omega)
        · have hi := (rngD_get hd).1
          rw [List.length_map] at hi
          refine ⟨?_, rfl⟩
          refine take_snocD ?_
          rw [List.getElem?_map, List.getElem?_replicate, if_pos hi]
          rfl
        · refine ⟨Nat.le_trans (m := 12) (by have h4 : (bigQ (ws.take n) t).length ≤ (ws.take n).length := List.length_filter_le ..; simp; omega) (by decide), ?_⟩
          have e1 : rd (ws.take n) (1 + z) t = bigQ (ws.take n) t ++ List.replicate ((1 + z) - (bigQ (ws.take n) t).length).toNat t := by
            unfold rd
            rw [if_neg hz0]
            rfl
          show _ = _
          rw [e1, List.map_append]
          rfl
      · have e0 : t = 0 := by
          have hz2 : eqD (dF t) (.tup [.int 0, .int 1]) = true := (by simpa using hz : eqD (S.fr (dF t)).dat (S.fr (D.tup [(S.fr (D.int 0)).dat, (S.fr (D.int 1)).dat])).dat = true)
          exact dF_zero.mp (of_eqD hz2)
        have e1 : rd (ws.take n) (1 + z) t = bigQ (ws.take n) t := by
          unfold rd
          rw [if_pos e0, e0, bigQ_zero fun w h => (hS w h).1]
        show _ = _
        rw [e1]
        rfl
    rintro s rfl
    have hrd := rd_ok (n := 78) hT (fun w h => ⟨(hS w h).1, (hS w h).2.mono (by decide)⟩) ht
    refine ⟨ws, 1 + z, 10, rfl, ⟨hall, by omega, by unfold TBits; omega, by omega⟩, fun T hT2 hTs => ?_⟩
    have hTs : Sz 90 T := hTs.mono (by unfold TBits; omega)
    refine .inr (.inl ⟨rd (ws.take n) (1 + z) t, rfl, sumOk 78 (fun w h => (hrd.1 w h).2) (by have := hrd.2.1; show _ ≤ 980; omega) (by decide), ws.take n, congrArg (fun y => [S.fr (D.lst y)]) he, sumOk 10 (fun w h => (hS w h).2) (by show _ ≤ 980; omega) (by decide), pl_dF _ _, pl_dF _ _, fun h => neq_no h (by rw [hrd.2.2]), fun _ => ?_⟩)
    refine ⟨fun s => s = (L29 sc ms2 (some (.fr d)) (some (.fr (dFs ws))) (some (.fr (.int (1 + z)))) (some (.fr (.int (n : Int)))) (some (.fr (dF t))) (some (.fr (dFs (rd (ws.take n) (1 + z) t)))) (some (.fr (dF T)))), ?_, ?_⟩
    · have hR0 : ∀ w ∈ ws.drop n, 0 < w := fun w h => (hR w h).1
      have hS0 : ∀ w ∈ ws.take n, 0 < w := fun w h => (hS w h).1
      have hTS : Th (ws.take n ++ ws.drop n) (1 + z) T := by rw [hSR]; exact hT2
      have hlen : (rd (ws.take n) (1 + z) t ++ ws.drop n).length ≤ 6 := by
        rw [List.length_append]
        have := hrd.2.1
        have h3 := congrArg List.length hSR
        rw [List.length_append] at h3
        omega
      have hall2 : ∀ w ∈ rd (ws.take n) (1 + z) t ++ ws.drop n, 0 < w ∧ Sz 78 w := fun w hw => by
        rcases List.mem_append.mp hw with h | h
        · exact hrd.1 w h
        · exact ⟨(hR w h).1, (hR w h).2.mono (by decide)⟩
      have hcat : (rd (ws.take n) (1 + z) t).map dF ++ cutD (ws.map dF) (some (n : Int)) none = (rd (ws.take n) (1 + z) t ++ ws.drop n).map dF := by rw [he2, List.map_append]
      have hcl2 : ((rd (ws.take n) (1 + z) t).map dF).length + (cutD (ws.map dF) (some (n : Int)) none).length ≤ sizeLine := by
        rw [← List.length_append, hcat, List.length_map]
        exact Nat.le_trans hlen (by decide)
      refine ⟨fun hA => ?_, fun hA => ⟨pl_dF _ _, rfl, fun hB => ?_, fun hB => rfl⟩⟩
      · have hc : ws.drop n ≠ [] ∨ t = 0 := .inl fun e => by
          have := of_decide_eq_true hA
          have e2 := congrArg List.length e
          rw [List.length_drop, List.length_nil] at e2
          omega
        refine ⟨hcl2, rd (ws.take n) (1 + z) t ++ ws.drop n, 1 + z, 78, congrArg (fun y => [S.fr (D.lst y), S.fr (.int (1 + z))]) hcat, ⟨hall2, by omega, by unfold TBits; omega, by omega⟩, fun T' hT' _ => ⟨pl_dF _ _, pl_dF _ _, fun h => neq_no h (by rw [hT'.uniq (rd_th hT hS0 hR0 hTS hc) fun w h => (hall2 w h).1]), fun _ => rfl⟩⟩
      · have hc : ws.drop n ≠ [] ∨ t = 0 := .inr (by
          have hz2 : eqD (dF t) (.tup [.int 0, .int 1]) = true := hB
          exact dF_zero.mp (of_eqD hz2))
        refine ⟨hcl2, rd (ws.take n) (1 + z) t ++ ws.drop n, 1 + z, 78, congrArg (fun y => [S.fr (D.lst y), S.fr (.int (1 + z))]) hcat, ⟨hall2, by omega, by unfold TBits; omega, by omega⟩, fun T' hT' _ => ⟨pl_dF _ _, pl_dF _ _, fun h => neq_no h (by rw [hT'.uniq (rd_th hT hS0 hR0 hTS hc) fun w h => (hall2 w h).1]), fun _ => rfl⟩⟩
    rintro s rfl
    have l1 : ¬ T < t := le1 hT (fun w h => (hR w h).1) (fun w h => (hS w h).1) (by rw [hSR]; exact hT2)
    refine ⟨T, t, rfl, ⟨hTs.mono (by decide), ht.mono (by decide)⟩, fun h => absurd (of_decide_eq_true h) l1, fun _ => ?_⟩
    refine ⟨ws, 1 + z + 1, 10, rfl, ⟨hall, by omega, by unfold TBits; omega, by omega⟩, fun t2 hT3 hT3s => ?_⟩
    have hT3s : Sz 90 t2 := hT3s.mono (by unfold TBits; omega)
    refine ⟨T, t2, rfl, ⟨hTs.mono (by decide), hT3s.mono (by decide)⟩, fun h => absurd (of_decide_eq_true h) (le2 hT3 hT2 hw), fun _ => ?_⟩
    refine .inl ⟨ms2, rfl, fun w ms3 w0 wS => ?_⟩
    have hx : ws.map dF ++ [dF w] = (ws ++ [w]).map dF := by rw [List.map_append]; rfl
    refine ⟨Nat.le_trans (m := 12) (by simp; omega) (by decide), ws ++ [w], 1 + z, 10, congrArg (fun y => [S.fr (D.lst y), S.fr (.int (1 + z))]) hx, ⟨fun x hx => ?_, by omega, by unfold TBits; simp; omega, by simp; omega⟩, fun T3 hT4 hT4s => ?_⟩
    · rcases List.mem_append.mp hx with h | h
      · exact hall x h
      · rw [List.mem_singleton.mp h]
        exact ⟨w0, wS⟩
    have hT4s : Sz 90 T3 := hT4s.mono (by unfold TBits; simp; omega)
    refine ⟨T3, T, rfl, ⟨hT4s.mono (by decide), hTs.mono (by decide)⟩, fun h => absurd (of_decide_eq_true h) (le1 hT2 (fun x h => by rw [List.mem_singleton.mp h]; exact w0) hw hT4), fun _ => ⟨_, _, _, _, _, _, _, _, rfl⟩⟩
  · rintro s ⟨ns, x2, x3, x4, x5, x6, x7, x8, rfl⟩
    exact hq
theorem ok_law (T : Txt K mg) : FnOk P w K mg base CX0 5 T.f_law T.fd_law ["_law_script"] (sp_law K) := (okP_law T).imp law_imp

end
theorem all_mk {l : PySem.W.OpenLaw} {w : World} {K : PySem.W.Frag} {h : Heap} {mg : Str → Option Value} {fa a_SamphireError a_ZeroDenominator f_lowest f_plus f_minus f_over f_less f_sum_of f_greater f_threshold f__law_mix f__law_numbers f__law_take f__law_low f__law_plus f__law_less f__law_sum f__law_weight f_law a_NOTHING_optimal a_NOTHING_ratios : Addr} (X : K.In h) (G : h.Ns mainGlobals mg) (hfa : mg "law" = some (.ref fa))
    {odlowest anlowest : Option Addr} {sllowest : Array (Option Value)} {oclowest kVlowest dclowest pmlowest cdlowest ctlowest : Value}
    {odplus anplus : Option Addr} {slplus : Array (Option Value)} {ocplus kVplus dcplus pmplus cdplus ctplus : Value}
    {odminus anminus : Option Addr} {slminus : Array (Option Value)} {ocminus kVminus dcminus pmminus cdminus ctminus : Value}
    {odover anover : Option Addr} {slover : Array (Option Value)} {ocover kVover dcover pmover cdover ctover : Value}
    {odless anless : Option Addr} {slless : Array (Option Value)} {ocless kVless dcless pmless cdless ctless : Value}
    {odsum_of ansum_of : Option Addr} {slsum_of : Array (Option Value)} {ocsum_of kVsum_of dcsum_of pmsum_of cdsum_of ctsum_of : Value}
    {odgreater angreater : Option Addr} {slgreater : Array (Option Value)} {ocgreater kVgreater dcgreater pmgreater cdgreater ctgreater : Value}
    {odthreshold anthreshold : Option Addr} {slthreshold : Array (Option Value)} {octhreshold kVthreshold dcthreshold pmthreshold cdthreshold ctthreshold : Value}
    {od_law_mix an_law_mix : Option Addr} {sl_law_mix : Array (Option Value)} {oc_law_mix kV_law_mix dc_law_mix pm_law_mix cd_law_mix ct_law_mix : Value}
    {od_law_numbers an_law_numbers : Option Addr} {sl_law_numbers : Array (Option Value)} {oc_law_numbers kV_law_numbers dc_law_numbers pm_law_numbers cd_law_numbers ct_law_numbers : Value}
    {od_law_take an_law_take : Option Addr} {sl_law_take : Array (Option Value)} {oc_law_take kV_law_take dc_law_take pm_law_take cd_law_take ct_law_take : Value}
    {od_law_low an_law_low : Option Addr} {sl_law_low : Array (Option Value)} {oc_law_low kV_law_low dc_law_low pm_law_low cd_law_low ct_law_low : Value}
    {od_law_plus an_law_plus : Option Addr} {sl_law_plus : Array (Option Value)} {oc_law_plus kV_law_plus dc_law_plus pm_law_plus cd_law_plus ct_law_plus : Value}
    {od_law_less an_law_less : Option Addr} {sl_law_less : Array (Option Value)} {oc_law_less kV_law_less dc_law_less pm_law_less cd_law_less ct_law_less : Value}
    {od_law_sum an_law_sum : Option Addr} {sl_law_sum : Array (Option Value)} {oc_law_sum kV_law_sum dc_law_sum pm_law_sum cd_law_sum ct_law_sum : Value}
    {od_law_weight an_law_weight : Option Addr} {sl_law_weight : Array (Option Value)} {oc_law_weight kV_law_weight dc_law_weight pm_law_weight cd_law_weight ct_law_weight : Value}
    {odlaw anlaw : Option Addr} {sllaw : Array (Option Value)} {oclaw kVlaw dclaw pmlaw cdlaw ctlaw : Value}
    {odNOTHING_optimal : Option Addr} {slNOTHING_optimal : Array (Option Value)} {nNOTHING_optimal : Nat} {tNOTHING_optimal0 tNOTHING_optimal1 : Tok}
    {odNOTHING_ratios : Option Addr} {slNOTHING_ratios : Array (Option Value)} {nNOTHING_ratios : Nat} {tNOTHING_ratios0 tNOTHING_ratios1 : Tok}
    (hSamphireError : PySem.W.nsIn K mainGlobals "SamphireError" = some (some (.ref a_SamphireError)))
    (kpSamphireError : PySem.W.keepIn K (.ref a_SamphireError) = true)
    (sbSamphireError : PySem.W.subIn K (.ref a_SamphireError) (.type "BaseException") = some true)
    (tySamphireError : PySem.W.typeIn K (.ref a_SamphireError) = some (.type "type"))
    (hdSamphireError : PySem.W.hasDictIn K a_SamphireError = true)
    (suSamphireError : PySem.W.subIn K (.ref a_SamphireError) (.ref a_SamphireError) = some true)
    (hZeroDenominator : PySem.W.nsIn K mainGlobals "ZeroDenominator" = some (some (.ref a_ZeroDenominator)))
    (kpZeroDenominator : PySem.W.keepIn K (.ref a_ZeroDenominator) = true)
    (sbZeroDenominator : PySem.W.subIn K (.ref a_ZeroDenominator) (.type "BaseException") = some true)
    (tyZeroDenominator : PySem.W.typeIn K (.ref a_ZeroDenominator) = some (.type "type"))
    (hdZeroDenominator : PySem.W.hasDictIn K a_ZeroDenominator = true)
    (suZeroDenominator : PySem.W.subIn K (.ref a_ZeroDenominator) (.ref a_ZeroDenominator) = some true)
    (xZeroDenominator : PySem.W.excIn K a_ZeroDenominator [.type "ValueError", .type "Exception", .type "BaseException", .type "object"] "ValueError.__new__" = true)
    (alowest : PySem.W.nsIn K mainGlobals "lowest" = some (some (.ref f_lowest)))
    (llowest : K.lookup f_lowest = some ⟨oclowest, odlowest, .func (PySem.W.fnOf "lowest" "lowest" (defArgs s_lowest) (defBody s_lowest) (defScope s_lowest) .none kVlowest dclowest pmlowest anlowest cdlowest ctlowest), sllowest⟩)
    (clowest : PySem.W.codeIn K cdlowest "lowest" = true)
    (klowest : PySem.W.keepIn K (.ref f_lowest) = true)
    (aplus : PySem.W.nsIn K mainGlobals "plus" = some (some (.ref f_plus)))
    (lplus : K.lookup f_plus = some ⟨ocplus, odplus, .func (PySem.W.fnOf "plus" "plus" (defArgs s_plus) (defBody s_plus) (defScope s_plus) .none kVplus dcplus pmplus anplus cdplus ctplus), slplus⟩)
    (cplus : PySem.W.codeIn K cdplus "plus" = true)
    (kplus : PySem.W.keepIn K (.ref f_plus) = true)
    (aminus : PySem.W.nsIn K mainGlobals "minus" = some (some (.ref f_minus)))
    (lminus : K.lookup f_minus = some ⟨ocminus, odminus, .func (PySem.W.fnOf "minus" "minus" (defArgs s_minus) (defBody s_minus) (defScope s_minus) .none kVminus dcminus pmminus anminus cdminus ctminus), slminus⟩)
    (cminus : PySem.W.codeIn K cdminus "minus" = true)
    (kminus : PySem.W.keepIn K (.ref f_minus) = true)
    (aover : PySem.W.nsIn K mainGlobals "over" = some (some (.ref f_over)))
    (lover : K.lookup f_over = some ⟨ocover, odover, .func (PySem.W.fnOf "over" "over" (defArgs s_over) (defBody s_over) (defScope s_over) .none kVover dcover pmover anover cdover ctover), slover⟩)
    (cover : PySem.W.codeIn K cdover "over" = true)
    (kover : PySem.W.keepIn K (.ref f_over) = true)
    (aless : PySem.W.nsIn K mainGlobals "less" = some (some (.ref f_less)))
    (lless : K.lookup f_less = some ⟨ocless, odless, .func (PySem.W.fnOf "less" "less" (defArgs s_less) (defBody s_less) (defScope s_less) .none kVless dcless pmless anless cdless ctless), slless⟩)
    (cless : PySem.W.codeIn K cdless "less" = true)
    (kless : PySem.W.keepIn K (.ref f_less) = true)
    (asum_of : PySem.W.nsIn K mainGlobals "sum_of" = some (some (.ref f_sum_of)))
    (lsum_of : K.lookup f_sum_of = some ⟨ocsum_of, odsum_of, .func (PySem.W.fnOf "sum_of" "sum_of" (defArgs s_sum_of) (defBody s_sum_of) (defScope s_sum_of) .none kVsum_of dcsum_of pmsum_of ansum_of cdsum_of ctsum_of), slsum_of⟩)
    (csum_of : PySem.W.codeIn K cdsum_of "sum_of" = true)
    (ksum_of : PySem.W.keepIn K (.ref f_sum_of) = true)
    (agreater : PySem.W.nsIn K mainGlobals "greater" = some (some (.ref f_greater)))
    (lgreater : K.lookup f_greater = some ⟨ocgreater, odgreater, .func (PySem.W.fnOf "greater" "greater" (defArgs s_greater) (defBody s_greater) (defScope s_greater) .none kVgreater dcgreater pmgreater angreater cdgreater ctgreater), slgreater⟩)
    (cgreater : PySem.W.codeIn K cdgreater "greater" = true)
    (kgreater : PySem.W.keepIn K (.ref f_greater) = true)
    (athreshold : PySem.W.nsIn K mainGlobals "threshold" = some (some (.ref f_threshold)))
    (lthreshold : K.lookup f_threshold = some ⟨octhreshold, odthreshold, .func (PySem.W.fnOf "threshold" "threshold" (defArgs s_threshold) (defBody s_threshold) (defScope s_threshold) .none kVthreshold dcthreshold pmthreshold anthreshold cdthreshold ctthreshold), slthreshold⟩)
    (cthreshold : PySem.W.codeIn K cdthreshold "threshold" = true)
    (kthreshold : PySem.W.keepIn K (.ref f_threshold) = true)
    (a_law_mix : PySem.W.nsIn K mainGlobals "_law_mix" = some (some (.ref f__law_mix)))
    (l_law_mix : K.lookup f__law_mix = some ⟨oc_law_mix, od_law_mix, .func (PySem.W.fnOf "_law_mix" "_law_mix" (defArgs s__law_mix) (defBody s__law_mix) (defScope s__law_mix) .none kV_law_mix dc_law_mix pm_law_mix an_law_mix cd_law_mix ct_law_mix), sl_law_mix⟩)
    (c_law_mix : PySem.W.codeIn K cd_law_mix "_law_mix" = true)
    (k_law_mix : PySem.W.keepIn K (.ref f__law_mix) = true)
    (a_law_numbers : PySem.W.nsIn K mainGlobals "_law_numbers" = some (some (.ref f__law_numbers)))
    (l_law_numbers : K.lookup f__law_numbers = some ⟨oc_law_numbers, od_law_numbers, .func (PySem.W.fnOf "_law_numbers" "_law_numbers" (defArgs s__law_numbers) (defBody s__law_numbers) (defScope s__law_numbers) .none kV_law_numbers dc_law_numbers pm_law_numbers an_law_numbers cd_law_numbers ct_law_numbers), sl_law_numbers⟩)
    (c_law_numbers : PySem.W.codeIn K cd_law_numbers "_law_numbers" = true)
    (k_law_numbers : PySem.W.keepIn K (.ref f__law_numbers) = true)
    (a_law_take : PySem.W.nsIn K mainGlobals "_law_take" = some (some (.ref f__law_take)))
    (l_law_take : K.lookup f__law_take = some ⟨oc_law_take, od_law_take, .func (PySem.W.fnOf "_law_take" "_law_take" (defArgs s__law_take) (defBody s__law_take) (defScope s__law_take) .none kV_law_take dc_law_take pm_law_take an_law_take cd_law_take ct_law_take), sl_law_take⟩)
    (c_law_take : PySem.W.codeIn K cd_law_take "_law_take" = true)
    (k_law_take : PySem.W.keepIn K (.ref f__law_take) = true)
    (a_law_low : PySem.W.nsIn K mainGlobals "_law_low" = some (some (.ref f__law_low)))
    (l_law_low : K.lookup f__law_low = some ⟨oc_law_low, od_law_low, .func (PySem.W.fnOf "_law_low" "_law_low" (defArgs s__law_low) (defBody s__law_low) (defScope s__law_low) .none kV_law_low dc_law_low pm_law_low an_law_low cd_law_low ct_law_low), sl_law_low⟩)
    (c_law_low : PySem.W.codeIn K cd_law_low "_law_low" = true)
    (k_law_low : PySem.W.keepIn K (.ref f__law_low) = true)
    (a_law_plus : PySem.W.nsIn K mainGlobals "_law_plus" = some (some (.ref f__law_plus)))
    (l_law_plus : K.lookup f__law_plus = some ⟨oc_law_plus, od_law_plus, .func (PySem.W.fnOf "_law_plus" "_law_plus" (defArgs s__law_plus) (defBody s__law_plus) (defScope s__law_plus) .none kV_law_plus dc_law_plus pm_law_plus an_law_plus cd_law_plus ct_law_plus), sl_law_plus⟩)
    (c_law_plus : PySem.W.codeIn K cd_law_plus "_law_plus" = true)
    (k_law_plus : PySem.W.keepIn K (.ref f__law_plus) = true)
    (a_law_less : PySem.W.nsIn K mainGlobals "_law_less" = some (some (.ref f__law_less)))
    (l_law_less : K.lookup f__law_less = some ⟨oc_law_less, od_law_less, .func (PySem.W.fnOf "_law_less" "_law_less" (defArgs s__law_less) (defBody s__law_less) (defScope s__law_less) .none kV_law_less dc_law_less pm_law_less an_law_less cd_law_less ct_law_less), sl_law_less⟩)
    (c_law_less : PySem.W.codeIn K cd_law_less "_law_less" = true)
    (k_law_less : PySem.W.keepIn K (.ref f__law_less) = true)
    (a_law_sum : PySem.W.nsIn K mainGlobals "_law_sum" = some (some (.ref f__law_sum)))
    (l_law_sum : K.lookup f__law_sum = some ⟨oc_law_sum, od_law_sum, .func (PySem.W.fnOf "_law_sum" "_law_sum" (defArgs s__law_sum) (defBody s__law_sum) (defScope s__law_sum) .none kV_law_sum dc_law_sum pm_law_sum an_law_sum cd_law_sum ct_law_sum), sl_law_sum⟩)
    (c_law_sum : PySem.W.codeIn K cd_law_sum "_law_sum" = true)
    (k_law_sum : PySem.W.keepIn K (.ref f__law_sum) = true)
    (a_law_weight : PySem.W.nsIn K mainGlobals "_law_weight" = some (some (.ref f__law_weight)))
    (l_law_weight : K.lookup f__law_weight = some ⟨oc_law_weight, od_law_weight, .func (PySem.W.fnOf "_law_weight" "_law_weight" (defArgs s__law_weight) (defBody s__law_weight) (defScope s__law_weight) .none kV_law_weight dc_law_weight pm_law_weight an_law_weight cd_law_weight ct_law_weight), sl_law_weight⟩)
    (c_law_weight : PySem.W.codeIn K cd_law_weight "_law_weight" = true)
    (k_law_weight : PySem.W.keepIn K (.ref f__law_weight) = true)
    (alaw : PySem.W.nsIn K mainGlobals "law" = some (some (.ref f_law)))
    (llaw : K.lookup f_law = some ⟨oclaw, odlaw, .func (PySem.W.fnOf "law" "law" (defArgs s_law) (defBody s_law) (defScope s_law) .none kVlaw dclaw pmlaw anlaw cdlaw ctlaw), sllaw⟩)
    (claw : PySem.W.codeIn K cdlaw "law" = true)
    (klaw : PySem.W.keepIn K (.ref f_law) = true)
    (hNOTHING_optimal : PySem.W.nsIn K mainGlobals "NOTHING_optimal" = some (some (.ref a_NOTHING_optimal)))
    (lNOTHING_optimal : K.lookup a_NOTHING_optimal = some ⟨.type "tuple", odNOTHING_optimal, .seq (List.toArray [.int (0) tNOTHING_optimal0, .int (1) tNOTHING_optimal1]) nNOTHING_optimal, slNOTHING_optimal⟩)
    (hNOTHING_ratios : PySem.W.nsIn K mainGlobals "NOTHING_ratios" = some (some (.ref a_NOTHING_ratios)))
    (lNOTHING_ratios : K.lookup a_NOTHING_ratios = some ⟨.type "tuple", odNOTHING_ratios, .seq (List.toArray [.int (0) tNOTHING_ratios0, .int (1) tNOTHING_ratios1]) nNOTHING_ratios, slNOTHING_ratios⟩)
    (zabs : PySem.W.nsIn K mainGlobals "abs" = some none)
    (zint : PySem.W.nsIn K mainGlobals "int" = some none)
    (zlen : PySem.W.nsIn K mainGlobals "len" = some none)
    (zlist : PySem.W.nsIn K mainGlobals "list" = some none)
    (zrange : PySem.W.nsIn K mainGlobals "range" = some none)
    (hgcd : PySem.W.nsIn K mainGlobals "gcd" = some (some (.builtin "math.gcd")))
    : ∃ fd : FuncData, (∀ (s : Shared) (v : Value), BindsTo s fd ⟨[v], []⟩ [("_law_script", v)]) ∧ ∀ base : Heap, K.In base → base.Ns mainGlobals mg → FnOk l.prog w K mg base CX0 5 fa fd ["_law_script"] (sp_law K) := by
  have e := hfa.symm.trans (PySem.W.mg_of X G alaw)
  cases e
  let T : Txt K mg := {
    a_SamphireError := a_SamphireError
    g_SamphireError := PySem.W.mg_of X G hSamphireError
    kp_SamphireError := kpSamphireError
    sb_SamphireError := sbSamphireError
    ty_SamphireError := tySamphireError
    te_SamphireError := PySem.W.exm_ref sbSamphireError hdSamphireError tySamphireError suSamphireError
    a_ZeroDenominator := a_ZeroDenominator
    g_ZeroDenominator := PySem.W.mg_of X G hZeroDenominator
    kp_ZeroDenominator := kpZeroDenominator
    sb_ZeroDenominator := sbZeroDenominator
    ty_ZeroDenominator := tyZeroDenominator
    te_ZeroDenominator := PySem.W.exm_ref sbZeroDenominator hdZeroDenominator tyZeroDenominator suZeroDenominator
    x_ZeroDenominator := xZeroDenominator
    g_lowest := PySem.W.mg_of X G alowest
    f_lowest := f_lowest
    fd_lowest := _
    F_lowest := fun_mk (st := s_lowest) llowest clowest klowest
    b_lowest := (fun_mk (st := s_lowest) llowest clowest klowest).binds (ps := ["p", "q"]) fun _ _ _ _ _ _ us hl => match us, hl with | [_, _], _ => rfl
    g_plus := PySem.W.mg_of X G aplus
    f_plus := f_plus
    fd_plus := _
    F_plus := fun_mk (st := s_plus) lplus cplus kplus
    b_plus := (fun_mk (st := s_plus) lplus cplus kplus).binds (ps := ["a", "b"]) fun _ _ _ _ _ _ us hl => match us, hl with | [_, _], _ => rfl
    g_minus := PySem.W.mg_of X G aminus
    f_minus := f_minus
    fd_minus := _
    F_minus := fun_mk (st := s_minus) lminus cminus kminus
    b_minus := (fun_mk (st := s_minus) lminus cminus kminus).binds (ps := ["a", "b"]) fun _ _ _ _ _ _ us hl => match us, hl with | [_, _], _ => rfl
    g_over := PySem.W.mg_of X G aover
    f_over := f_over
    fd_over := _
    F_over := fun_mk (st := s_over) lover cover kover
    b_over := (fun_mk (st := s_over) lover cover kover).binds (ps := ["a", "b"]) fun _ _ _ _ _ _ us hl => match us, hl with | [_, _], _ => rfl
    g_less := PySem.W.mg_of X G aless
    f_less := f_less
    fd_less := _
    F_less := fun_mk (st := s_less) lless cless kless
    b_less := (fun_mk (st := s_less) lless cless kless).binds (ps := ["a", "b"]) fun _ _ _ _ _ _ us hl => match us, hl with | [_, _], _ => rfl
    g_sum_of := PySem.W.mg_of X G asum_of
    f_sum_of := f_sum_of
    fd_sum_of := _
    F_sum_of := fun_mk (st := s_sum_of) lsum_of csum_of ksum_of
    b_sum_of := (fun_mk (st := s_sum_of) lsum_of csum_of ksum_of).binds (ps := ["fractions"]) fun _ _ _ _ _ _ us hl => match us, hl with | [_], _ => rfl
    g_greater := PySem.W.mg_of X G agreater
    f_greater := f_greater
    fd_greater := _
    F_greater := fun_mk (st := s_greater) lgreater cgreater kgreater
    b_greater := (fun_mk (st := s_greater) lgreater cgreater kgreater).binds (ps := ["one", "other"]) fun _ _ _ _ _ _ us hl => match us, hl with | [_, _], _ => rfl
    g_threshold := PySem.W.mg_of X G athreshold
    f_threshold := f_threshold
    fd_threshold := _
    F_threshold := fun_mk (st := s_threshold) lthreshold cthreshold kthreshold
    b_threshold := (fun_mk (st := s_threshold) lthreshold cthreshold kthreshold).binds (ps := ["weights", "size"]) fun _ _ _ _ _ _ us hl => match us, hl with | [_, _], _ => rfl
    g__law_mix := PySem.W.mg_of X G a_law_mix
    f__law_mix := f__law_mix
    fd__law_mix := _
    F__law_mix := fun_mk (st := s__law_mix) l_law_mix c_law_mix k_law_mix
    b__law_mix := (fun_mk (st := s__law_mix) l_law_mix c_law_mix k_law_mix).binds (ps := ["_law_number", "_law_k"]) fun _ _ _ _ _ _ us hl => match us, hl with | [_, _], _ => rfl
    g__law_numbers := PySem.W.mg_of X G a_law_numbers
    f__law_numbers := f__law_numbers
    fd__law_numbers := _
    F__law_numbers := fun_mk (st := s__law_numbers) l_law_numbers c_law_numbers k_law_numbers
    b__law_numbers := (fun_mk (st := s__law_numbers) l_law_numbers c_law_numbers k_law_numbers).binds (ps := ["_law_script", "_law_count"]) fun _ _ _ _ _ _ us hl => match us, hl with | [_, _], _ => rfl
    g__law_take := PySem.W.mg_of X G a_law_take
    f__law_take := f__law_take
    fd__law_take := _
    F__law_take := fun_mk (st := s__law_take) l_law_take c_law_take k_law_take
    b__law_take := (fun_mk (st := s__law_take) l_law_take c_law_take k_law_take).binds (ps := ["_law_row", "_law_bound"]) fun _ _ _ _ _ _ us hl => match us, hl with | [_, _], _ => rfl
    g__law_low := PySem.W.mg_of X G a_law_low
    f__law_low := f__law_low
    fd__law_low := _
    F__law_low := fun_mk (st := s__law_low) l_law_low c_law_low k_law_low
    b__law_low := (fun_mk (st := s__law_low) l_law_low c_law_low k_law_low).binds (ps := ["_law_p", "_law_q"]) fun _ _ _ _ _ _ us hl => match us, hl with | [_, _], _ => rfl
    g__law_plus := PySem.W.mg_of X G a_law_plus
    f__law_plus := f__law_plus
    fd__law_plus := _
    F__law_plus := fun_mk (st := s__law_plus) l_law_plus c_law_plus k_law_plus
    b__law_plus := (fun_mk (st := s__law_plus) l_law_plus c_law_plus k_law_plus).binds (ps := ["_law_one", "_law_other"]) fun _ _ _ _ _ _ us hl => match us, hl with | [_, _], _ => rfl
    g__law_less := PySem.W.mg_of X G a_law_less
    f__law_less := f__law_less
    fd__law_less := _
    F__law_less := fun_mk (st := s__law_less) l_law_less c_law_less k_law_less
    b__law_less := (fun_mk (st := s__law_less) l_law_less c_law_less k_law_less).binds (ps := ["_law_one", "_law_other"]) fun _ _ _ _ _ _ us hl => match us, hl with | [_, _], _ => rfl
    g__law_sum := PySem.W.mg_of X G a_law_sum
    f__law_sum := f__law_sum
    fd__law_sum := _
    F__law_sum := fun_mk (st := s__law_sum) l_law_sum c_law_sum k_law_sum
    b__law_sum := (fun_mk (st := s__law_sum) l_law_sum c_law_sum k_law_sum).binds (ps := ["_law_rows"]) fun _ _ _ _ _ _ us hl => match us, hl with | [_], _ => rfl
    g__law_weight := PySem.W.mg_of X G a_law_weight
    f__law_weight := f__law_weight
    fd__law_weight := _
    F__law_weight := fun_mk (st := s__law_weight) l_law_weight c_law_weight k_law_weight
    b__law_weight := (fun_mk (st := s__law_weight) l_law_weight c_law_weight k_law_weight).binds (ps := ["_law_row"]) fun _ _ _ _ _ _ us hl => match us, hl with | [_], _ => rfl
    g_law := PySem.W.mg_of X G alaw
    f_law := fa
    fd_law := _
    F_law := fun_mk (st := s_law) llaw claw klaw
    b_law := (fun_mk (st := s_law) llaw claw klaw).binds (ps := ["_law_script"]) fun _ _ _ _ _ _ us hl => match us, hl with | [_], _ => rfl
    a_NOTHING_optimal := a_NOTHING_optimal
    g_NOTHING_optimal := PySem.W.mg_of X G hNOTHING_optimal
    v_NOTHING_optimal := fun H => sqT_of_k lNOTHING_optimal (.cons ⟨_, rfl⟩ (.cons ⟨_, rfl⟩ .nil))
    a_NOTHING_ratios := a_NOTHING_ratios
    g_NOTHING_ratios := PySem.W.mg_of X G hNOTHING_ratios
    v_NOTHING_ratios := fun H => sqT_of_k lNOTHING_ratios (.cons ⟨_, rfl⟩ (.cons ⟨_, rfl⟩ .nil))
    z_abs := PySem.W.mg_none_of X G zabs
    z_int := PySem.W.mg_none_of X G zint
    z_len := PySem.W.mg_none_of X G zlen
    z_list := PySem.W.mg_none_of X G zlist
    z_range := PySem.W.mg_none_of X G zrange
    g_gcd := PySem.W.mg_of X G hgcd }
  exact ⟨T.fd_law, fun s v => .of_eq rfl, fun base _ _ => ok_law T⟩
end Sam
open PySem PySem.W PyProof.Rows
set_option maxHeartbeats 0 in
theorem PySem.Challenge.cw_samphire_k29_thresholds_of_wholes_by_par_holds : PySem.Challenge.rw_samphire_k29_thresholds_of_wholes_by_par.Holds := by
  w_on; o_law; k_head; (case hw => w_witness2)
  k_fill
  refine L2.walk_of (l := PySem.Challenge.rw_samphire_k29_thresholds_of_wholes_by_par) (n := 63) (k := 5) (x := "_law_script") (CX := fun _ => L2.CX0) (sp := fun w => Sam.sp_law _) rfl (by decide) rfl ⟨rfl, by decide, by decide⟩ (fun w h Y => PySem.W.kIn_of Y) ?F (fun _ _ a ns hl _ hS => ⟨a, ns, rfl, hS, hl, fun _ => rfl⟩) (fun _ _ _ _ _ h => h)
  case F =>
    intro w mg fa h KX G hmg
    refine' Sam.all_mk KX G hmg ?hSamphireError ?kpSamphireError ?sbSamphireError ?tySamphireError ?hdSamphireError ?suSamphireError ?hZeroDenominator ?kpZeroDenominator ?sbZeroDenominator ?tyZeroDenominator ?hdZeroDenominator ?suZeroDenominator ?xZeroDenominator ?alowest ?llowest ?clowest ?klowest ?aplus ?lplus ?cplus ?kplus ?aminus ?lminus ?cminus ?kminus ?aover ?lover ?cover ?kover ?aless ?lless ?cless ?kless ?asum_of ?lsum_of ?csum_of ?ksum_of ?agreater ?lgreater ?cgreater ?kgreater ?athreshold ?lthreshold ?cthreshold ?kthreshold ?a_law_mix ?l_law_mix ?c_law_mix ?k_law_mix ?a_law_numbers ?l_law_numbers ?c_law_numbers ?k_law_numbers ?a_law_take ?l_law_take ?c_law_take ?k_law_take ?a_law_low ?l_law_low ?c_law_low ?k_law_low ?a_law_plus ?l_law_plus ?c_law_plus ?k_law_plus ?a_law_less ?l_law_less ?c_law_less ?k_law_less ?a_law_sum ?l_law_sum ?c_law_sum ?k_law_sum ?a_law_weight ?l_law_weight ?c_law_weight ?k_law_weight ?alaw ?llaw ?claw ?klaw ?hNOTHING_optimal ?lNOTHING_optimal ?hNOTHING_ratios ?lNOTHING_ratios ?zabs ?zint ?zlen ?zlist ?zrange ?hgcd
    (case hSamphireError => k_is)
    (case kpSamphireError => k_is)
    (case sbSamphireError => k_is)
    (case tySamphireError => k_is)
    (case hdSamphireError => k_is)
    (case suSamphireError => first | rfl | k_is)
    (case hZeroDenominator => k_is)
    (case kpZeroDenominator => k_is)
    (case sbZeroDenominator => k_is)
    (case tyZeroDenominator => k_is)
    (case hdZeroDenominator => k_is)
    (case suZeroDenominator => first | rfl | k_is)
    (case xZeroDenominator => k_exc)
    (case alowest => k_is)
    (case llowest => k_is)
    (case clowest => k_is)
    (case klowest => k_is)
    (case aplus => k_is)
    (case lplus => k_is)
    (case cplus => k_is)
    (case kplus => k_is)
    (case aminus => k_is)
    (case lminus => k_is)
    (case cminus => k_is)
    (case kminus => k_is)
    (case aover => k_is)
    (case lover => k_is)
    (case cover => k_is)
    (case kover => k_is)
    (case aless => k_is)
    (case lless => k_is)
    (case cless => k_is)
    (case kless => k_is)
    (case asum_of => k_is)
    (case lsum_of => k_is)
    (case csum_of => k_is)
    (case ksum_of => k_is)
    (case agreater => k_is)
    (case lgreater => k_is)
    (case cgreater => k_is)
    (case kgreater => k_is)
    (case athreshold => k_is)
    (case lthreshold => k_is)
    (case cthreshold => k_is)
    (case kthreshold => k_is)
    (case a_law_mix => k_is)
    (case l_law_mix => k_is)
    (case c_law_mix => k_is)
    (case k_law_mix => k_is)
    (case a_law_numbers => k_is)
    (case l_law_numbers => k_is)
    (case c_law_numbers => k_is)
    (case k_law_numbers => k_is)
    (case a_law_take => k_is)
    (case l_law_take => k_is)
    (case c_law_take => k_is)
    (case k_law_take => k_is)
    (case a_law_low => k_is)
    (case l_law_low => k_is)
    (case c_law_low => k_is)
    (case k_law_low => k_is)
    (case a_law_plus => k_is)
    (case l_law_plus => k_is)
    (case c_law_plus => k_is)
    (case k_law_plus => k_is)
    (case a_law_less => k_is)
    (case l_law_less => k_is)
    (case c_law_less => k_is)
    (case k_law_less => k_is)
    (case a_law_sum => k_is)
    (case l_law_sum => k_is)
    (case c_law_sum => k_is)
    (case k_law_sum => k_is)
    (case a_law_weight => k_is)
    (case l_law_weight => k_is)
    (case c_law_weight => k_is)
    (case k_law_weight => k_is)
    (case alaw => k_is)
    (case llaw => k_is)
    (case claw => k_is)
    (case klaw => k_is)
    (case hNOTHING_optimal => k_is)
    (case lNOTHING_optimal => k_is)
    (case hNOTHING_ratios => k_is)
    (case lNOTHING_ratios => k_is)
    (case zabs => k_is)
    (case zint => k_is)
    (case zlen => k_is)
    (case zlist => k_is)
    (case zrange => k_is)
    (case hgcd => k_is)
