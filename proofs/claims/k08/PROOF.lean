import PyProof.Rows.All
import Wide.All
import OpenK.AllK
import Wide.FinOn
import HandS.ForMost
import HandS.Walk
import HandS.Wide
import HandS.Gcd
import HandS.IsInst
import HandS.Codes
import HandS.Exc
import HandS.ExcOwn
import HandS.ExcIs
import HandS.TryOnly
import HandS.WordsExc
import HandS.CallLocal
import PySem.Challenge.RW_samphire_k08_exact_fractions
set_option Elab.async false
set_option linter.all false
set_option maxRecDepth 100000
namespace Sam
open PySem PySem.Spec PyProof.Rows L2
open C8 (pss_cut tCut)
def topS (i : Nat) : Stmt := PySem.Challenge.pw_samphire_k08_exact_fractions.main.body.getD i (.Pass ⟨0, 0, 0, 0⟩)
abbrev s_is_fraction : Stmt := (topS 6)
abbrev nm_is_fraction : List Str := ["pair"]
theorem sc_is_fraction : FnScope ["pair"] ["pair"] (defScope s_is_fraction) := ⟨rfl, rfl, rfl, by decide +kernel, rfl, by decide +kernel, by decide +kernel⟩
abbrev s_lowest : Stmt := (topS 7)
abbrev nm_lowest : List Str := ["p", "q", "divisor"]
theorem sc_lowest : FnScope ["p", "q", "divisor"] ["p", "q"] (defScope s_lowest) := ⟨rfl, rfl, rfl, by decide +kernel, rfl, by decide +kernel, by decide +kernel⟩
abbrev s_plus : Stmt := (topS 8)
abbrev nm_plus : List Str := ["a", "b"]
theorem sc_plus : FnScope ["a", "b"] ["a", "b"] (defScope s_plus) := ⟨rfl, rfl, rfl, by decide +kernel, rfl, by decide +kernel, by decide +kernel⟩
abbrev s_minus : Stmt := (topS 9)
abbrev nm_minus : List Str := ["a", "b"]
theorem sc_minus : FnScope ["a", "b"] ["a", "b"] (defScope s_minus) := ⟨rfl, rfl, rfl, by decide +kernel, rfl, by decide +kernel, by decide +kernel⟩
abbrev s_times : Stmt := (topS 10)
abbrev nm_times : List Str := ["a", "b"]
theorem sc_times : FnScope ["a", "b"] ["a", "b"] (defScope s_times) := ⟨rfl, rfl, rfl, by decide +kernel, rfl, by decide +kernel, by decide +kernel⟩
abbrev s_over : Stmt := (topS 11)
abbrev nm_over : List Str := ["a", "b"]
theorem sc_over : FnScope ["a", "b"] ["a", "b"] (defScope s_over) := ⟨rfl, rfl, rfl, by decide +kernel, rfl, by decide +kernel, by decide +kernel⟩
abbrev s_less : Stmt := (topS 12)
abbrev nm_less : List Str := ["a", "b"]
theorem sc_less : FnScope ["a", "b"] ["a", "b"] (defScope s_less) := ⟨rfl, rfl, rfl, by decide +kernel, rfl, by decide +kernel, by decide +kernel⟩
abbrev s_sum_of : Stmt := (topS 13)
abbrev nm_sum_of : List Str := ["fractions", "total", "fraction"]
theorem sc_sum_of : FnScope ["fractions", "total", "fraction"] ["fractions"] (defScope s_sum_of) := ⟨rfl, rfl, rfl, by decide +kernel, rfl, by decide +kernel, by decide +kernel⟩
abbrev s__law_deck : Stmt := (topS 15)
abbrev nm__law_deck : List Str := ["_law_script"]
theorem sc__law_deck : FnScope ["_law_script"] ["_law_script"] (defScope s__law_deck) := ⟨rfl, rfl, rfl, by decide +kernel, rfl, by decide +kernel, by decide +kernel⟩
abbrev s__law_draw : Stmt := (topS 16)
abbrev nm__law_draw : List Str := ["_law_deck_here", "_law_most", "_law_value", "_law_cell"]
theorem sc__law_draw : FnScope ["_law_deck_here", "_law_most", "_law_value", "_law_cell"] ["_law_deck_here", "_law_most"] (defScope s__law_draw) := ⟨rfl, rfl, rfl, by decide +kernel, rfl, by decide +kernel, by decide +kernel⟩
abbrev s__law_low : Stmt := (topS 17)
abbrev nm__law_low : List Str := ["_law_p", "_law_q", "_law_first", "_law_second", "_law_turn"]
theorem sc__law_low : FnScope ["_law_p", "_law_q", "_law_first", "_law_second", "_law_turn"] ["_law_p", "_law_q"] (defScope s__law_low) := ⟨rfl, rfl, rfl, by decide +kernel, rfl, by decide +kernel, by decide +kernel⟩
abbrev s__law_plus : Stmt := (topS 18)
abbrev nm__law_plus : List Str := ["_law_one", "_law_other"]
theorem sc__law_plus : FnScope ["_law_one", "_law_other"] ["_law_one", "_law_other"] (defScope s__law_plus) := ⟨rfl, rfl, rfl, by decide +kernel, rfl, by decide +kernel, by decide +kernel⟩
abbrev s__law_times : Stmt := (topS 19)
abbrev nm__law_times : List Str := ["_law_one", "_law_other"]
theorem sc__law_times : FnScope ["_law_one", "_law_other"] ["_law_one", "_law_other"] (defScope s__law_times) := ⟨rfl, rfl, rfl, by decide +kernel, rfl, by decide +kernel, by decide +kernel⟩
abbrev s__law_less : Stmt := (topS 20)
abbrev nm__law_less : List Str := ["_law_one", "_law_other"]
theorem sc__law_less : FnScope ["_law_one", "_law_other"] ["_law_one", "_law_other"] (defScope s__law_less) := ⟨rfl, rfl, rfl, by decide +kernel, rfl, by decide +kernel, by decide +kernel⟩
abbrev s__law_number : Stmt := (topS 21)
abbrev nm__law_number : List Str := ["_law_deck_here", "_law_kind", "_law_number_here", "_law_k"]
theorem sc__law_number : FnScope ["_law_deck_here", "_law_kind", "_law_number_here", "_law_k"] ["_law_deck_here"] (defScope s__law_number) := ⟨rfl, rfl, rfl, by decide +kernel, rfl, by decide +kernel, by decide +kernel⟩
abbrev s__law_same : Stmt := (topS 22)
abbrev nm__law_same : List Str := ["_law_told", "_law_due", "_law_part"]
theorem sc__law_same : FnScope ["_law_told", "_law_due", "_law_part"] ["_law_told", "_law_due"] (defScope s__law_same) := ⟨rfl, rfl, rfl, by decide +kernel, rfl, by decide +kernel, by decide +kernel⟩
abbrev s__law_refused : Stmt := (topS 23)
abbrev nm__law_refused : List Str := ["_law_call", "_law_first", "_law_second", "e"]
theorem sc__law_refused : FnScope ["_law_call", "_law_first", "_law_second", "e"] ["_law_call", "_law_first", "_law_second"] (defScope s__law_refused) := ⟨rfl, rfl, rfl, by decide +kernel, rfl, by decide +kernel, by decide +kernel⟩
abbrev s__law_fraction : Stmt := (topS 24)
abbrev nm__law_fraction : List Str := ["_law_deck_here", "_law_q"]
theorem sc__law_fraction : FnScope ["_law_deck_here", "_law_q"] ["_law_deck_here"] (defScope s__law_fraction) := ⟨rfl, rfl, rfl, by decide +kernel, rfl, by decide +kernel, by decide +kernel⟩
abbrev s_law : Stmt := (topS 25)
abbrev nm_law : List Str := ["_law_script", "_law_deck_here", "_law_turn", "_law_p", "_law_q", "_law_one", "_law_other", "_law_back", "_law_rows", "_law_due", "_law_row", "_law_kept", "_law_scale", "_law_pair", "_law_k"]
theorem sc_law : FnScope ["_law_script", "_law_deck_here", "_law_turn", "_law_p", "_law_q", "_law_one", "_law_other", "_law_back", "_law_rows", "_law_due", "_law_row", "_law_kept", "_law_scale", "_law_pair", "_law_k"] ["_law_script"] (defScope s_law) := ⟨rfl, rfl, rfl, by decide +kernel, rfl, by decide +kernel, by decide +kernel⟩
/-! ### own layer: what stays, new objects, steps -/
/-- all that was tracked outside F is as it was -/
def Ex (F : List Addr) (H H' : Hp) : Prop := ∀ b o, b ∉ F → H b = some o → H' b = some o
theorem Ex.refl {F : List Addr} (H : Hp) : Ex F H H := fun _ _ _ h => h
theorem Ex.trans {F : List Addr} {H H1 H2 : Hp} (a : Ex F H H1) (b : Ex F H1 H2) : Ex F H H2 := fun c o n h => b c o n (a c o n h)
theorem Ex.of {F : List Addr} {H H1 : Hp} (a : Same H H1) : Ex F H H1 := fun c o _ h => a c o h
theorem Ex.mono {F G : List Addr} {H H1 : Hp} (a : Ex F H H1) (h : ∀ b, b ∈ F → b ∈ G) : Ex G H H1 := fun c o n e => a c o (fun z => n (h c z)) e
theorem Ex.rd {F : List Addr} {H H' : Hp} {a : Addr} {u : HO} (e : Ex F H H') (n : a ∉ F) (h : Rd H a u) : Rd H' a u := by
  rcases h with h | ⟨o, h⟩
  · exact .inl (e _ _ n h)
  · exact .inr ⟨o, e _ _ n h⟩
theorem Ex.seq {K : PySem.W.Frag} {F : List Addr} {H H' : Hp} {a : Addr} {xs : List V} (e : Ex F H H') (n : a ∉ F) (h : SqL K H a xs) : SqL K H' a xs := by
  rcases h with h | h
  · exact .inl (e.rd n h)
  · exact .inr h
theorem Ex.tup {K : PySem.W.Frag} {F : List Addr} {H H' : Hp} {a : Addr} {xs : List V} (e : Ex F H H') (n : a ∉ F) (h : SqT K H a xs) : SqT K H' a xs := by
  rcases h with h | h
  · exact .inl (e.rd n h)
  · exact .inr h
theorem same_upd {H : Hp} {p : Addr} {o : HO} (h : H p = none) : Same H (upd H p o) := fun b x e => by
  rw [upd_ne (ne_of_none e h)]
  exact e
/-- an object that H does not know is changed -/
theorem _root_.L2.Same.mut {H H' : Hp} {p : Addr} {o : HO} (e : Same H H') (h : H p = none) : Same H (upd H' p o) := fun a u ha => by
  rw [upd_ne (ne_of_none ha h)]
  exact e a u ha
theorem Ex.mut {F : List Addr} {H H' : Hp} {p : Addr} {o : HO} (e : Ex F H H') (h : H p = none ∨ p ∈ F) : Ex F H (upd H' p o) := fun a u n ha => by
  have hne : a ≠ p := by
    rcases h with h | h
    · exact ne_of_none ha h
    · exact fun z => n (z ▸ h)
  rw [upd_ne hne]
  exact e a u n ha
theorem _root_.L2.Same.tupq {K : PySem.W.Frag} {H H' : Hp} {a : Addr} {xs : List V} (e : Same H H') (h : SqT K H a xs) : SqT K H' a xs := by
  rcases h with (h | ⟨o, h⟩) | h
  · exact .inl (.inl (e _ _ h))
  · exact .inl (.inr ⟨o, e _ _ h⟩)
  · exact .inr h
/-- a new object, met by what is known of the heap -/
theorem w_new {H : Hp} {o : HO} {Q : V → Hp → Prop} (h : ∀ p H', H p = none → Same H H' → H' p = some o → Q (.ref p) H') : ∀ p, H p = none → Q (.ref p) (upd H p o) := fun p hp => h p _ hp (same_upd hp) upd_same
section
variable {K : PySem.W.Frag} {H : Hp} {Q : VK}
theorem w_ixL {p : Addr} {xs : List V} {i : Int} {v : V} (h : SqL K H p xs) (e : atI xs i = some v) (q : Q v H) : rIxL K (.ref p) (.int i) H Q := ⟨p, xs, i, v, rfl, rfl, h, e, q⟩
theorem w_ixT {p : Addr} {xs : List V} {i : Int} {v : V} (h : SqT K H p xs) (e : atI xs i = some v) (q : Q v H) : rIxT K (.ref p) (.int i) H Q := ⟨p, xs, i, v, rfl, rfl, h, e, q⟩
end
theorem bl_inj {a b : Bool} (h : V.bl a = V.bl b) : a = b := V.bl.inj h
theorem ite_dec {c : Prop} [Decidable c] {A B : Prop} (h1 : c → A) (h2 : ¬ c → B) : if decide c = true then A else B := by
  by_cases h : c
  · rw [if_pos (decide_eq_true h)]; exact h1 h
  · rw [if_neg (by rw [decide_eq_false h]; exact Bool.false_ne_true)]; exact h2 h
theorem atI_int {xs : List V} {i : Int} {v : V} (h0 : 0 ≤ i) (h : xs[i.toNat]? = some v) : atI xs i = some v := by
  have e := atI_nat h
  rw [Int.toNat_of_nonneg h0] at e
  exact e
theorem map_get {ns : List Int} {i : Nat} {v : V} (h : (ns.map V.int)[i]? = some v) : ∃ z, v = .int z ∧ ns[i]? = some z := by
  rw [List.getElem?_map] at h
  cases e : ns[i]? with
  | none => rw [e] at h; cases h
  | some z => rw [e] at h; exact ⟨z, (Option.some.inj h).symm, rfl⟩
theorem get_map {ns : List Int} {i : Nat} {z : Int} (h : ns[i]? = some z) : (ns.map V.int)[i]? = some (.int z) := by
  rw [List.getElem?_map, h]
  rfl
theorem nin {p L : Addr} (h : p ≠ L) : p ∉ [L] := fun z => h (List.mem_singleton.mp z)
/-- a change at x alone, which H did not know -/
theorem Ex.new1 {F : List Addr} {H H1 H2 : Hp} {x : Addr} (a : Ex F H H1) (b : Ex [x] H1 H2) (h : H x = none) : Ex F H H2 := fun c o n e => b c o (nin (ne_of_none e h)) (a c o n e)
theorem Ex.free {F : List Addr} {H H' : Hp} {l : Addr} (e : Ex F H H') (n : l ∉ F) (h : H' l = none) : H l = none := by
  cases q : H l with
  | none => rfl
  | some o =>
    rw [e l o n q] at h
    cases h
theorem Ex.at {F : List Addr} {H H' : Hp} {l : Addr} {o : HO} (e : Ex F H H') (n : l ∉ F) (h : H l = some o) : H' l = some o := e l o n h
theorem ixN_int {n : Nat} {k : Int} (h0 : 0 ≤ k) (h1 : k < n) : ixN n k = some k.toNat := by
  unfold ixN
  rw [if_pos h0, if_pos h1]
theorem sum_set : ∀ (l : List Int) (j : Nat) (x v : Int), l[j]? = some x → (l.set j v).sum = l.sum - x + v
  | [], _, _, _, h => by simp at h
  | y :: l, 0, x, v, h => by
    have e : y = x := by simpa using h
    subst e
    simp
    omega
  | y :: l, j + 1, x, v, h => by
    have ih := sum_set l j x v (by simpa using h)
    simp only [List.set_cons_succ, List.sum_cons, ih]
    omega
theorem mem_le_sum : ∀ (l : List Int), (∀ x ∈ l, 0 ≤ x) → ∀ x ∈ l, x ≤ l.sum
  | [], _, x, hx => by simp at hx
  | y :: l, h, x, hx => by
    have h0 : 0 ≤ y := h y List.mem_cons_self
    have hl : ∀ x ∈ l, 0 ≤ x := fun z hz => h z (List.mem_cons_of_mem _ hz)
    have hs : 0 ≤ l.sum := sum_nn l hl
    rcases List.mem_cons.mp hx with e | e
    · subst e; rw [List.sum_cons]; omega
    · have := mem_le_sum l hl x e
      rw [List.sum_cons]; omega
where
  sum_nn : ∀ (l : List Int), (∀ x ∈ l, 0 ≤ x) → 0 ≤ l.sum
    | [], _ => by simp
    | y :: l, h => by
      have h0 : 0 ≤ y := h y List.mem_cons_self
      have := sum_nn l (fun z hz => h z (List.mem_cons_of_mem _ hz))
      rw [List.sum_cons]; omega
theorem sum_le_of : ∀ (l : List Int) (b : Int), (∀ x ∈ l, x ≤ b) → l.sum ≤ b * l.length
  | [], _, _ => by simp
  | y :: l, b, h => by
    have h0 : y ≤ b := h y List.mem_cons_self
    have := sum_le_of l b (fun z hz => h z (List.mem_cons_of_mem _ hz))
    rw [List.sum_cons, List.length_cons]
    have e : b * ((l.length + 1 : Nat) : Int) = b * l.length + b := by
      rw [Int.natCast_add, Int.mul_add]; simp
    omega
theorem w_yes {σ : L2.St} {H : Hp} {A B : Hp → Prop} (h : A H) : tYes σ H (fun b H3 => if b = true then A H3 else B H3) := by
  show (if true = true then A H else B H)
  rw [if_pos rfl]
  exact h
theorem lk_eq {f : Str} {v : V} {fs : List (Str × V)} : ((f, v) :: fs).lookup f = some v := by simp [List.lookup]
theorem lk_ne {f g : Str} {v : V} {fs : List (Str × V)} (h : (f == g) = false) : ((g, v) :: fs).lookup f = fs.lookup f := by simp [List.lookup, h]
theorem putF_eq {f : Str} {u v : V} {fs : List (Str × V)} : putF f v ((f, u) :: fs) = (f, v) :: fs := by simp [putF]
theorem putF_ne {f g : Str} {u v : V} {fs : List (Str × V)} (h : ¬ g = f) : putF f v ((g, u) :: fs) = (g, u) :: putF f v fs := by simp [putF, h]
theorem putF_nil {f : Str} {v : V} : putF f v [] = [(f, v)] := rfl
/-- a list stays where a thing of another kind at x changes -/
theorem _root_.L2.SqL.stay {K : PySem.W.Frag} {H H' : Hp} {a x : Addr} {xs : List V} {o : HO} (h : SqL K H a xs) (hx : H x = some o) (ho : ∀ ys, o ≠ .lst ys) (ho2 : ∀ b u, o ≠ .frz b u) (e : Ex [x] H H') : SqL K H' a xs := by
  rcases h with (h | ⟨u, h⟩) | h
  · exact .inl (.inl (e _ _ (nin fun z => ho _ (Option.some.inj ((z ▸ hx).symm.trans h))) h))
  · exact .inl (.inr ⟨u, e _ _ (nin fun z => ho2 _ _ (Option.some.inj ((z ▸ hx).symm.trans h))) h⟩)
  · exact .inr h
theorem sqT_of_k {K : PySem.W.Frag} {H : Hp} {a : Addr} {dd : Option Addr} {its : Array Value} {n : Nat} {sl : Array (Option Value)} {xs : List V}
    (l : K.lookup a = some ⟨.type "tuple", dd, .seq its n, sl⟩) (h : Vals xs its.toList) (hz : its.size ≤ 1000 := by simp) : SqT K H a xs :=
  .inr ⟨_, its, n, l, rfl, rfl, Nat.le_trans hz (by decide), h⟩
/-! rules whose reading names K, for use within a comprehension's block -/
section
variable {X : Cx} {K : PySem.W.Frag}
theorem ixLk (h : X.K = K) : IxR X (rIxL K) := by subst h; exact ix_list
theorem ixTk (h : X.K = K) : IxR X (rIxT K) := by subst h; exact ix_tup
theorem eqDk (h : X.K = K) (hu : X.A.units + 64 < cLine) : OpR X (compareOp .Eq) (rEqD K) := by subst h; exact op_eqD hu
theorem neDk (h : X.K = K) (hu : X.A.units + 64 < cLine) : OpR X (compareOp .NotEq) (rNeD K) := by subst h; exact op_neD hu
theorem inSk (h : X.K = K) : OpR X (compareOp .In) (rIn K false) := by subst h; exact op_in_seq
theorem niSk (h : X.K = K) : OpR X (compareOp .NotIn) (rIn K true) := by subst h; exact op_notIn_seq
def rLenQ (K : PySem.W.Frag) : List V → Hp → VK → Prop := fun xs H Q => ∃ p ys, xs = [.ref p] ∧ (SqL K H p ys ∨ SqT K H p ys) ∧ Q (.int ys.length) H
theorem lenk (h : X.K = K) : CallR X (.builtin "len") (rLenQ K) := by subst h; exact call_len_seq
theorem sumk (h : X.K = K) (hc : X.calm = true) : CallR X (.builtin "sum") (rSum K) := by subst h; exact cr_sum hc
theorem allk (h : X.K = K) (hc : X.calm = true) : CallR X (.builtin "all") (rAll K) := by subst h; exact cr_all hc
theorem anyk (h : X.K = K) (hc : X.calm = true) : CallR X (.builtin "any") (rAny K) := by subst h; exact cr_any hc
theorem pe_fldk {o : Expr} {ta : TE} {f : Str} {pos : Pos} (h : X.K = K) (ho : PE X o ta) (hb : attributeBase o f X.env (eval o X.env) = eval o X.env) : PE X (.Attribute o f pos) (tFld K ta f) := by subst h; exact pe_fld ho hb
theorem slLk (h : X.K = K) : SlR X (rSlL K) := by subst h; exact sl_list
theorem slTk (h : X.K = K) : SlR X (rSlT K) := by subst h; exact sl_tup
end

/-! ### data: lists of ints, comparisons -/
theorem shaped_mk {d : PyData} (h1 : d.canLay0 = true) (h2 : d.depth ≤ 64) : SeqAt.shaped d = true := by
  unfold SeqAt.shaped
  rw [h1, decide_eq_true h2]
  rfl
theorem lay_ints : ∀ ns : List Int, PyData.canLayAll0 (ns.map PyData.int) = true
  | [] => rfl
  | _ :: r => by
    show (true && PyData.canLayAll0 (r.map PyData.int)) = true
    rw [lay_ints r]
    rfl
theorem depth_ints : ∀ ns : List Int, PyData.depthAll (ns.map PyData.int) = 0
  | [] => rfl
  | _ :: r => by
    show max 0 (PyData.depthAll (r.map PyData.int)) = 0
    rw [depth_ints r]
    rfl
theorem shaped_ints (ns : List Int) : SeqAt.shaped (.list (ns.map .int)) = true := shaped_mk (lay_ints ns) (by
  show PyData.depthAll (ns.map PyData.int) + 1 ≤ 64
  rw [depth_ints]
  decide)
theorem shaped_intsT (ns : List Int) : SeqAt.shaped (.tuple (ns.map .int)) = true := shaped_mk (lay_ints ns) (by
  show PyData.depthAll (ns.map PyData.int) + 1 ≤ 64
  rw [depth_ints]
  decide)
theorem eqvAll_ints : ∀ ns ms : List Int, PyData.eqvAll (ns.map .int) (ms.map .int) = decide (ns = ms)
  | [], [] => rfl
  | [], _ :: _ => rfl
  | _ :: _, [] => rfl
  | x :: r, y :: t => by
    show (PyData.eqv (.int x) (.int y) && PyData.eqvAll (r.map PyData.int) (t.map PyData.int)) = _
    rw [eqvAll_ints r t]
    show ((x == y) && decide (r = t)) = decide (x :: r = y :: t)
    by_cases h1 : x = y
    · by_cases h2 : r = t
      · subst h1 h2; simp
      · subst h1; simp [h2]
    · simp [h1]
theorem eqv_ints (ns ms : List Int) : PyData.eqv (.list (ns.map .int)) (.list (ms.map .int)) = decide (ns = ms) := by
  rw [PyData.eqv]
  exact eqvAll_ints ns ms
theorem eqv_intsT (ns ms : List Int) : PyData.eqv (.tuple (ns.map .int)) (.tuple (ms.map .int)) = decide (ns = ms) := by
  rw [PyData.eqv]
  exact eqvAll_ints ns ms
theorem dp_ints {K : PySem.W.Frag} {H : Hp} : ∀ ns : List Int, DpAll K H (ns.map V.int) (ns.map PyData.int)
  | [] => .nil
  | _ :: r => .cons (.int _) (dp_ints r)

/-! ### fractions as rationals: plain facts -/
theorem log2_lt' {i : Int} {b : Nat} (hb : 0 < b) (h : i.natAbs < 2 ^ b) : i.natAbs.log2 < b := PySem.Flt.log2_lt_of hb h
theorem gcd_pos_right {p q : Int} (hq : q ≠ 0) : 0 < Int.gcd p q := Nat.pos_of_ne_zero fun z => hq (Int.gcd_eq_zero_iff.mp z).2
def lowD (p q : Int) : Int := if q < 0 then -(Int.gcd p q : Int) else (Int.gcd p q : Int)
theorem lowD_ne {p q : Int} (hq : q ≠ 0) : lowD p q ≠ 0 := by
  have := gcd_pos_right (p := p) hq
  unfold lowD
  split <;> omega
theorem lowD_abs (p q : Int) : (lowD p q).natAbs = Int.gcd p q := by
  unfold lowD
  split
  · rw [Int.natAbs_neg, Int.natAbs_natCast]
  · rw [Int.natAbs_natCast]
theorem gcd_le_right {p q : Int} (hq : q ≠ 0) : Int.gcd p q ≤ q.natAbs := Nat.le_of_dvd (by omega) (by
  have := Int.gcd_dvd_natAbs_right p q
  exact this)
theorem low_num {p q : Int} (hq : q ≠ 0) : p.fdiv (lowD p q) = (Rat.divInt p q).num := by
  have hg := gcd_pos_right (p := p) hq
  obtain ⟨k, hk⟩ := Int.gcd_dvd_left p q
  rw [Rat.num_divInt, Int.gcd_comm q p]
  unfold lowD
  have hg' : (Int.gcd p q : Int) ≠ 0 := by omega
  generalize Int.gcd p q = g at hk hg hg'
  subst hk
  by_cases h : q < 0
  · rw [if_pos h, Int.sign_eq_neg_one_of_neg h]
    rw [show -1 * ((g : Int) * k) = (g : Int) * (-k) by rw [Int.mul_neg]; omega, Int.mul_ediv_cancel_left _ hg']
    rw [show (g : Int) * k = (-(g : Int)) * (-k) by rw [Int.neg_mul_neg]]
    exact Int.mul_fdiv_cancel_left _ (by omega)
  · rw [if_neg h, Int.sign_eq_one_of_pos (by omega), Int.one_mul, Int.mul_ediv_cancel_left _ hg']
    exact Int.mul_fdiv_cancel_left _ hg'
theorem low_den {p q : Int} (hq : q ≠ 0) : q.fdiv (lowD p q) = ((Rat.divInt p q).den : Int) := by
  have hg := gcd_pos_right (p := p) hq
  obtain ⟨k, hk⟩ := Int.gcd_dvd_right p q
  rw [Rat.den_divInt, if_neg hq, Int.gcd_comm q p]
  unfold lowD
  have hg' : (Int.gcd p q : Int) ≠ 0 := by omega
  generalize Int.gcd p q = g at hk hg hg'
  have hab : q.natAbs = g * k.natAbs := by rw [hk, Int.natAbs_mul, Int.natAbs_natCast]
  rw [hab, Nat.mul_div_cancel_left _ hg]
  by_cases h : q < 0
  · rw [if_pos h]
    have hk0 : k < 0 := by
      rcases Int.lt_or_le k 0 with z | z
      · exact z
      · have : 0 ≤ (g : Int) * k := Int.mul_nonneg (by omega) z
        omega
    rw [hk, show (g : Int) * k = (-(g : Int)) * (-k) by rw [Int.neg_mul_neg]]
    rw [Int.mul_fdiv_cancel_left _ (by omega)]
    omega
  · rw [if_neg h]
    have hk0 : 0 ≤ k := by
      rcases Int.lt_or_le k 0 with z | z
      · have : (g : Int) * k < 0 := Int.mul_neg_of_pos_of_neg (by omega) z
        omega
      · exact z
    rw [hk, Int.mul_fdiv_cancel_left _ hg']
    omega
/-! sizes -/
def Sz (n : Nat) (r : Rat) : Prop := r.num.natAbs < 2 ^ n ∧ r.den < 2 ^ n
theorem Sz.mono {m n : Nat} {r : Rat} (h : Sz m r) (e : m ≤ n) : Sz n r := ⟨Nat.lt_of_lt_of_le h.1 (Nat.pow_le_pow_right (by decide) e), Nat.lt_of_lt_of_le h.2 (Nat.pow_le_pow_right (by decide) e)⟩
theorem sz_divInt {p q : Int} {n : Nat} (hq : q ≠ 0) (h1 : p.natAbs < 2 ^ n) (h2 : q.natAbs < 2 ^ n) : Sz n (Rat.divInt p q) := by
  constructor
  · rw [Rat.num_divInt]
    refine Nat.lt_of_le_of_lt ?_ h1
    refine Nat.le_trans (Int.natAbs_ediv_le_natAbs _ _) ?_
    rw [Int.natAbs_mul]
    rcases Int.lt_trichotomy q 0 with h | h | h
    · rw [Int.sign_eq_neg_one_of_neg h]; simp
    · exact absurd h hq
    · rw [Int.sign_eq_one_of_pos h]; simp
  · rw [Rat.den_divInt, if_neg hq]
    exact Nat.lt_of_le_of_lt (Nat.div_le_self _ _) h2
theorem abs_mul_lt {i j : Int} {a b : Nat} (ha : i.natAbs < 2 ^ a) (hb : j.natAbs < 2 ^ b) : (i * j).natAbs < 2 ^ (a + b) := wide_lt ha hb
theorem abs_add_lt {i j : Int} {a : Nat} (ha : i.natAbs < 2 ^ a) (hb : j.natAbs < 2 ^ a) : (i + j).natAbs < 2 ^ (a + 1) := by
  have : (i + j).natAbs ≤ i.natAbs + j.natAbs := Int.natAbs_add_le i j
  rw [Nat.pow_succ]
  omega
theorem abs_sub_lt {i j : Int} {a : Nat} (ha : i.natAbs < 2 ^ a) (hb : j.natAbs < 2 ^ a) : (i - j).natAbs < 2 ^ (a + 1) := by
  have : (i - j).natAbs ≤ i.natAbs + j.natAbs := Int.natAbs_sub_le i j
  rw [Nat.pow_succ]
  omega
theorem pow_up {x a b : Nat} (h : x < 2 ^ a) (e : a ≤ b) : x < 2 ^ b := Nat.lt_of_lt_of_le h (Nat.pow_le_pow_right (by decide) e)
theorem Sz.d {n : Nat} {r : Rat} (h : Sz n r) : (r.den : Int).natAbs < 2 ^ n := by rw [Int.natAbs_natCast]; exact h.2
theorem den_ne (r : Rat) : (r.den : Int) ≠ 0 := by have := r.den_pos; omega
theorem add_divInt (a b : Rat) : Rat.divInt (a.num * b.den + b.num * a.den) (a.den * b.den) = a + b := by
  rw [← Rat.divInt_add_divInt _ _ (den_ne a) (den_ne b), Rat.num_divInt_den, Rat.num_divInt_den]
theorem sub_divInt (a b : Rat) : Rat.divInt (a.num * b.den - b.num * a.den) (a.den * b.den) = a - b := by
  rw [← Rat.divInt_sub_divInt _ _ (den_ne a) (den_ne b), Rat.num_divInt_den, Rat.num_divInt_den]
theorem mul_divInt (a b : Rat) : Rat.divInt (a.num * b.num) (a.den * b.den) = a * b := by
  rw [← Rat.divInt_mul_divInt, Rat.num_divInt_den, Rat.num_divInt_den]
theorem div_divInt (a b : Rat) : Rat.divInt (a.num * b.den) (a.den * b.num) = a / b := by
  rw [← Rat.divInt_mul_divInt, Rat.num_divInt_den, Rat.div_def]
  congr 1
  rw [← Rat.inv_divInt, Rat.num_divInt_den]
theorem sz_num {m n : Nat} {a b : Rat} (ha : Sz m a) (hb : Sz n b) : (a.num * b.den + b.num * a.den).natAbs < 2 ^ (m + n + 1) := abs_add_lt (abs_mul_lt ha.1 hb.d) (by rw [Nat.add_comm m n]; exact abs_mul_lt hb.1 ha.d)
theorem sz_numS {m n : Nat} {a b : Rat} (ha : Sz m a) (hb : Sz n b) : (a.num * b.den - b.num * a.den).natAbs < 2 ^ (m + n + 1) := abs_sub_lt (abs_mul_lt ha.1 hb.d) (by rw [Nat.add_comm m n]; exact abs_mul_lt hb.1 ha.d)
theorem sz_den {m n : Nat} {a b : Rat} (ha : Sz m a) (hb : Sz n b) : ((a.den : Int) * b.den).natAbs < 2 ^ (m + n) := abs_mul_lt ha.d hb.d
theorem dd_ne (a b : Rat) : (a.den : Int) * b.den ≠ 0 := Int.mul_ne_zero (den_ne a) (den_ne b)
theorem Sz.add {m n : Nat} {a b : Rat} (ha : Sz m a) (hb : Sz n b) : Sz (m + n + 1) (a + b) := by
  rw [← add_divInt]
  exact sz_divInt (dd_ne a b) (sz_num ha hb) (pow_up (sz_den ha hb) (by omega))
theorem Sz.sub {m n : Nat} {a b : Rat} (ha : Sz m a) (hb : Sz n b) : Sz (m + n + 1) (a - b) := by
  rw [← sub_divInt]
  exact sz_divInt (dd_ne a b) (sz_numS ha hb) (pow_up (sz_den ha hb) (by omega))
theorem Sz.mul {m n : Nat} {a b : Rat} (ha : Sz m a) (hb : Sz n b) : Sz (m + n) (a * b) := by
  rw [← mul_divInt]
  exact sz_divInt (dd_ne a b) (abs_mul_lt ha.1 hb.1) (sz_den ha hb)
theorem num_ne {b : Rat} (h : b ≠ 0) : b.num ≠ 0 := fun z => h (Rat.num_eq_zero.mp z)
theorem Sz.div {m n : Nat} {a b : Rat} (ha : Sz m a) (hb : Sz n b) (h0 : b ≠ 0) : Sz (m + n) (a / b) := by
  rw [← div_divInt]
  exact sz_divInt (Int.mul_ne_zero (den_ne a) (num_ne h0)) (abs_mul_lt ha.1 hb.d) (abs_mul_lt ha.d hb.1)
theorem Sz.neg {m : Nat} {a : Rat} (ha : Sz m a) : Sz m (-a) := by
  refine ⟨?_, ?_⟩
  · show (-a.num).natAbs < 2 ^ m
    rw [Int.natAbs_neg]
    exact ha.1
  · exact ha.2
theorem sz_zero : Sz 1 0 := ⟨by decide, by decide⟩
theorem sz_one : Sz 1 1 := ⟨by decide, by decide⟩
theorem rat_eq {a b : Rat} (h1 : a.num = b.num) (h2 : (a.den : Int) = b.den) : a = b := Rat.ext h1 (Int.ofNat.inj h2)
theorem rat_list_eq (a b : Rat) : decide ([a.num, (a.den : Int)] = [b.num, (b.den : Int)]) = decide (a = b) := by
  by_cases h : a = b
  · subst h; simp
  · rw [decide_eq_false h]
    refine decide_eq_false fun z => h ?_
    injection z with z1 z2
    injection z2 with z2 _
    exact rat_eq z1 z2
/-! Euclid's turns -/
theorem euc_gcd (a b : Int) : Int.gcd b (a.fmod b) = Int.gcd a b := by
  by_cases hb : b = 0
  · subst hb; rw [Int.fmod_zero]; exact Int.gcd_comm 0 a
  · rw [show a.fmod b = a - b * a.fdiv b from Int.fmod_def a b]
    rw [Int.gcd_comm b, Int.gcd_sub_mul_left_left]
theorem euc_step {a b : Int} {m : Nat} (h0 : 0 < b) (hb : b < a) (h : a.natAbs * b.natAbs < 2 ^ (m + 1)) : b.natAbs * (a.fmod b).natAbs < 2 ^ m := by
  have hr0 : 0 ≤ a.fmod b := Int.fmod_nonneg_of_pos a h0
  have hr1 : a.fmod b < b := Int.fmod_lt_of_pos a h0
  have hd : a = b * a.fdiv b + a.fmod b := (Int.mul_fdiv_add_fmod a b).symm
  have hq : 1 ≤ a.fdiv b := by
    rcases Int.lt_or_le (a.fdiv b) 1 with z | z
    · have : b * a.fdiv b ≤ 0 := Int.mul_nonpos_of_nonneg_of_nonpos (by omega) (by omega)
      omega
    · exact z
  have h2 : 2 * (a.fmod b) < a := by
    have : b * 1 ≤ b * a.fdiv b := Int.mul_le_mul_of_nonneg_left hq (by omega)
    omega
  have h3 : 2 * (a.fmod b).natAbs ≤ a.natAbs := by omega
  have h4 : 2 * (b.natAbs * (a.fmod b).natAbs) ≤ a.natAbs * b.natAbs := by
    calc 2 * (b.natAbs * (a.fmod b).natAbs) = (2 * (a.fmod b).natAbs) * b.natAbs := by rw [Nat.mul_comm b.natAbs, Nat.mul_assoc]
      _ ≤ a.natAbs * b.natAbs := Nat.mul_le_mul_right _ h3
  rw [Nat.pow_succ] at h
  omega
/-- what stands behind i turns: m is what the product may still be -/
def Euc (p q : Int) (n i : Nat) (a b : Int) : Prop := 0 ≤ a ∧ 0 ≤ b ∧ (0 < a ∨ 0 < b) ∧ Int.gcd a b = Int.gcd p q ∧ a.natAbs * b.natAbs < 2 ^ (n + 1 - max i 1) ∧ (0 < i → b < a)
theorem Euc.start {p q : Int} {n : Nat} (hq : q ≠ 0) (h : p.natAbs * q.natAbs < 2 ^ n) : Euc p q n 0 (p.natAbs : Int) (q.natAbs : Int) := by
  refine ⟨by omega, by omega, by omega, ?_, ?_, fun z => absurd z (by decide)⟩
  · exact Int.gcd_natAbs_natAbs' p q
  · rw [Int.natAbs_natCast, Int.natAbs_natCast]
    exact h
where
  Int.gcd_natAbs_natAbs' (p q : Int) : Int.gcd (p.natAbs : Int) (q.natAbs : Int) = Int.gcd p q := by
    unfold Int.gcd
    rw [Int.natAbs_natCast, Int.natAbs_natCast]
theorem Euc.next {p q : Int} {n i : Nat} {a b : Int} (h : Euc p q n i a b) (hi : i ≤ n) (hb : b ≠ 0) : Euc p q n (i + 1) b (a.fmod b) := by
  obtain ⟨h1, h2, h3, h4, h5, h6⟩ := h
  have b0 : 0 < b := by omega
  have hr0 : 0 ≤ a.fmod b := Int.fmod_nonneg_of_pos a b0
  have hr1 : a.fmod b < b := Int.fmod_lt_of_pos a b0
  refine ⟨h2, hr0, .inl b0, by rw [euc_gcd, h4], ?_, fun _ => hr1⟩
  by_cases z : b < a
  · rcases Nat.eq_zero_or_pos (n + 1 - max i 1) with e | e
    · rw [e] at h5
      have := h5
      have : 1 ≤ a.natAbs * b.natAbs := Nat.mul_pos (by omega) (by omega)
      omega
    · have e1 : n + 1 - max i 1 = (n + 1 - max i 1 - 1) + 1 := by omega
      rw [e1] at h5
      exact pow_up (euc_step b0 z h5) (by omega)
  · have hi0 : i = 0 := by
      rcases Nat.eq_zero_or_pos i with e | e
      · exact e
      · exact absurd (h6 e) z
    subst hi0
    have hle : (a.fmod b).natAbs ≤ a.natAbs := by
      by_cases z2 : a < b
      · rw [Int.fmod_eq_emod_of_nonneg a h2, Int.emod_eq_of_lt h1 z2]; exact Nat.le_refl _
      · have : a = b := by omega
        rw [this, Int.fmod_self]; omega
    have : b.natAbs * (a.fmod b).natAbs ≤ a.natAbs * b.natAbs := by
      rw [Nat.mul_comm]
      exact Nat.mul_le_mul_right _ hle
    exact Nat.lt_of_le_of_lt this h5
theorem Euc.ended {p q : Int} {n : Nat} {a b : Int} (h : Euc p q n (n + 1) a b) : b = 0 := by
  obtain ⟨h1, h2, h3, h4, h5, h6⟩ := h
  have hlt := h6 (by omega)
  rw [show n + 1 - max (n + 1) 1 = 0 by omega, Nat.pow_zero] at h5
  rcases Nat.eq_zero_or_pos b.natAbs with e | e
  · omega
  · have : 1 ≤ a.natAbs * b.natAbs := Nat.mul_pos (by omega) e
    omega
theorem Euc.gcd {p q : Int} {n i : Nat} {a : Int} (h : Euc p q n i a 0) : a = (Int.gcd p q : Int) := by
  obtain ⟨h1, h2, h3, h4, h5, h6⟩ := h
  rw [Int.gcd_zero_right] at h4
  omega

/-! ### own exceptions: made without arguments, a local def called in a try, isinstance of what is caught -/
section
variable {X : Cx} {C : Addr} {bmB : List Value} {B newId initId : String}
/-- X(), no argument, no own __init__ -/
theorem pmk_own0 {x : Str} {p pos : Pos} (F : ExcBaseFacts B newId initId bmB) (q : PySem.W.excIn X.K C bmB newId = true) (gC : X.mg x = some (.ref C))
    (kC : PySem.W.keepIn X.K (.ref C) = true) (r : Raises X (.ref C)) (hg : Gl X x)
    (hdb : (x == ("__debug__" : Str)) = false := by decide) :
    PMk X (.Call (.Name x p) [] [] pos) (fun _ H Q => Q (.ref C) none H) := by
  intro pins s σ H Q I h
  refine wpAny_Call_Name_kw (ld_glob I hg gC ?_ hdb)
  refine PySem.W.callWith_K0 I.kIn kC ?_
  obtain ⟨bm, N, nm, qn, bs, hdct, sn, sub, ab, col, dd, k0, k1, k2, k3, k5, mN, hC, hN, hni, T⟩ :=
    exc_obj I.kIn q
  show wpAny _ _ (call (.ref C) []) _ _ _
  exact wpAny_call_exc_subT F T hC hN hni (fun h' e hm =>
    mk_of I hm r h (I.hok.gone hm.new)) (Nat.zero_le _)
variable {CX : CXT} {k i : Nat} {f : Addr} {fd : FuncData} {ps : List Str} {sp : Sp} {E : L2.St → XK} {x : Str} {p pos : Pos} {e : Expr} {es : List Expr} {t : TA}
def tCallLS (i : Nat) (f : Addr) (sp : Sp) (E : L2.St → XK) (t : TA) : TE := fun σ H Q => σ[i]? = some (some (.ref f)) ∧ t σ H fun vs H1 => sp vs H1 Q (E σ)
/-- a local name that holds a def, called; what it lets out is wished for at the slots -/
theorem pe_callLS (F : FnOk X.prog X.w X.K X.mg X.base CX k f fd ps sp) (hr : Room k X.A) (hN : X.N[i]? = some x) (hv : Vis X.env.scope x)
    (hk : PySem.W.keepIn X.K (.ref f) = true) (hb : Binds X.K fd ps []) (hx : ∀ σ, PassesAt CX X σ (E σ)) (ha : PA X (e :: es) t)
    (hdb : (x == ("__debug__" : Str)) = false := by decide)
    (hcd : (x == ("__classdict__" : Str)) = false := by decide)
    (he : starEach (e :: es) X.env = (false, eval e X.env) :: starEach es X.env := by rfl)
    (hpl : (backTo pos (starEach es X.env)).any (·.1) = false := by rfl) :
    PE X (.Call (.Name x p) (e :: es) [] pos) (tCallLS i f sp E t) := by
  refine ⟨fun pins s σ H Q I ⟨hs, ht⟩ => ?_⟩
  have ld := (pe_var (pos := p) hN hv hdb hcd).run pins s σ H
    (fun v H1 => v = .ref f ∧ H1 = H) I ⟨.ref f, hs, rfl, rfl⟩
  refine wpAny_Call_Name_kw (thn ld fun u s1 z => ?_)
  obtain ⟨v, H1, I1, r1, rfl, rfl⟩ := z
  cases r1
  refine PySem.W.callWith_K (h₀ := X.base) I.ok.mod.kin hk
    (thn (ha.run pos pins s1 σ _ _ I1 ht) fun us s2 z2 => ?_) he hpl
  obtain ⟨vs, H2, I2, r, q⟩ := z2
  exact ⟨I2.kIn, run_fnS F hr hb (hx σ) I2 r q⟩
/-- isinstance(e, c) within the suite, e what it caught -/
def tIsE (K : PySem.W.Frag) (D a : Addr) (cls : Value) (d : Option Addr) (t : TA) : TE := fun σ H Q => cls = .ref D ∧ d = none ∧ tCB (rIsE K D a) t σ H Q
theorem pe_isE {a D : Addr} {oe : Obj} {pn : List (Addr × Obj)} {cls : Value} {d : Option Addr} (C : ExcC X.K D) (hz : Zc cls d oe) (hf : ∃ vs, oe.data = .fields vs)
    (hg : Gl (X.suite a ((a, oe) :: pn)) "isinstance") (hm : X.mg "isinstance" = none) (ha : PA (X.suite a ((a, oe) :: pn)) (e :: es) t)
    (he : starEach (e :: es) X.env = (false, eval e X.env) :: starEach es X.env := by rfl)
    (hpl : (backTo pos (starEach es X.env)).any (·.1) = false := by rfl) :
    PE (X.suite a ((a, oe) :: pn)) (.Call (.Name "isinstance" p) (e :: es) [] pos) (tIsE X.K D a cls d t) := by
  refine ⟨fun pins s σ H Q I h => ?_⟩
  obtain ⟨rfl, rfl, h⟩ := h
  exact (pe_callB (call_isE C hz hf) hg hm (by decide +kernel) ha (by decide) (by decide) he hpl).run pins s σ H Q I h
end
theorem kit_sub {K : PySem.W.Frag} {C D : Addr} (hd : PySem.W.hasDictIn K C = true) (ty : PySem.W.typeIn K (.ref C) = some (.type "type"))
    (s : PySem.W.subIn K (.ref D) (.ref C) = some true) : PySem.W.kitOne K (.ref D) (.ref C) = some true := by
  obtain ⟨cd, hc, _⟩ := PySem.W.any_some hd
  unfold PySem.W.kitOne
  split
  · rfl
  · show (if ((PySem.W.clsIn K C).isSome && PySem.W.typeIn K (.ref C) == some (.type "type")) = true
      then PySem.W.subIn K (.ref D) (.ref C) else none) = some true
    rw [hc, ty]
    exact s

theorem isik {X : Cx} {K : PySem.W.Frag} (h : X.K = K) : CallR X (.builtin "isinstance") (rIsi K) := by subst h; exact call_isi

structure Txt (K : PySem.W.Frag) (mg : Str → Option Value) where
  a_SamphireError : Addr
  g_SamphireError : mg "SamphireError" = some (.ref a_SamphireError)
  kp_SamphireError : PySem.W.keepIn K (.ref a_SamphireError) = true
  sb_SamphireError : PySem.W.subIn K (.ref a_SamphireError) (.type "BaseException") = some true
  ty_SamphireError : PySem.W.typeIn K (.ref a_SamphireError) = some (.type "type")
  te_SamphireError : PySem.W.exmOne K (.ref a_SamphireError) (.ref a_SamphireError) = some true
  a_ZeroDenominator : Addr
  g_ZeroDenominator : mg "ZeroDenominator" = some (.ref a_ZeroDenominator)
  kp_ZeroDenominator : PySem.W.keepIn K (.ref a_ZeroDenominator) = true
  sb_ZeroDenominator : PySem.W.subIn K (.ref a_ZeroDenominator) (.type "BaseException") = some true
  ty_ZeroDenominator : PySem.W.typeIn K (.ref a_ZeroDenominator) = some (.type "type")
  te_ZeroDenominator : PySem.W.exmOne K (.ref a_ZeroDenominator) (.ref a_ZeroDenominator) = some true
  x_ZeroDenominator : PySem.W.excIn K a_ZeroDenominator [.type "ValueError", .type "Exception", .type "BaseException", .type "object"] "ValueError.__new__" = true
  ec_ZeroDenominator : ExcC K a_ZeroDenominator
  of_ZeroDenominator_SamphireError : PySem.W.kitOne K (.ref a_ZeroDenominator) (.ref a_SamphireError) = some true
  f_is_fraction : Addr
  fd_is_fraction : FuncData
  F_is_fraction : Fun K "is_fraction" "is_fraction" s_is_fraction f_is_fraction fd_is_fraction
  b_is_fraction : Binds K fd_is_fraction ["pair"] []
  g_is_fraction : mg "is_fraction" = some (.ref f_is_fraction)
  f_lowest : Addr
  fd_lowest : FuncData
  F_lowest : Fun K "lowest" "lowest" s_lowest f_lowest fd_lowest
  b_lowest : Binds K fd_lowest ["p", "q"] []
  g_lowest : mg "lowest" = some (.ref f_lowest)
  f_plus : Addr
  fd_plus : FuncData
  F_plus : Fun K "plus" "plus" s_plus f_plus fd_plus
  b_plus : Binds K fd_plus ["a", "b"] []
  g_plus : mg "plus" = some (.ref f_plus)
  f_minus : Addr
  fd_minus : FuncData
  F_minus : Fun K "minus" "minus" s_minus f_minus fd_minus
  b_minus : Binds K fd_minus ["a", "b"] []
  g_minus : mg "minus" = some (.ref f_minus)
  f_times : Addr
  fd_times : FuncData
  F_times : Fun K "times" "times" s_times f_times fd_times
  b_times : Binds K fd_times ["a", "b"] []
  g_times : mg "times" = some (.ref f_times)
  f_over : Addr
  fd_over : FuncData
  F_over : Fun K "over" "over" s_over f_over fd_over
  b_over : Binds K fd_over ["a", "b"] []
  g_over : mg "over" = some (.ref f_over)
  f_less : Addr
  fd_less : FuncData
  F_less : Fun K "less" "less" s_less f_less fd_less
  b_less : Binds K fd_less ["a", "b"] []
  g_less : mg "less" = some (.ref f_less)
  f_sum_of : Addr
  fd_sum_of : FuncData
  F_sum_of : Fun K "sum_of" "sum_of" s_sum_of f_sum_of fd_sum_of
  b_sum_of : Binds K fd_sum_of ["fractions"] []
  g_sum_of : mg "sum_of" = some (.ref f_sum_of)
  f__law_deck : Addr
  fd__law_deck : FuncData
  F__law_deck : Fun K "_law_deck" "_law_deck" s__law_deck f__law_deck fd__law_deck
  b__law_deck : Binds K fd__law_deck ["_law_script"] []
  g__law_deck : mg "_law_deck" = some (.ref f__law_deck)
  f__law_draw : Addr
  fd__law_draw : FuncData
  F__law_draw : Fun K "_law_draw" "_law_draw" s__law_draw f__law_draw fd__law_draw
  b__law_draw : Binds K fd__law_draw ["_law_deck_here", "_law_most"] []
  g__law_draw : mg "_law_draw" = some (.ref f__law_draw)
  f__law_low : Addr
  fd__law_low : FuncData
  F__law_low : Fun K "_law_low" "_law_low" s__law_low f__law_low fd__law_low
  b__law_low : Binds K fd__law_low ["_law_p", "_law_q"] []
  g__law_low : mg "_law_low" = some (.ref f__law_low)
  f__law_plus : Addr
  fd__law_plus : FuncData
  F__law_plus : Fun K "_law_plus" "_law_plus" s__law_plus f__law_plus fd__law_plus
  b__law_plus : Binds K fd__law_plus ["_law_one", "_law_other"] []
  g__law_plus : mg "_law_plus" = some (.ref f__law_plus)
  f__law_times : Addr
  fd__law_times : FuncData
  F__law_times : Fun K "_law_times" "_law_times" s__law_times f__law_times fd__law_times
  b__law_times : Binds K fd__law_times ["_law_one", "_law_other"] []
  g__law_times : mg "_law_times" = some (.ref f__law_times)
  f__law_less : Addr
  fd__law_less : FuncData
  F__law_less : Fun K "_law_less" "_law_less" s__law_less f__law_less fd__law_less
  b__law_less : Binds K fd__law_less ["_law_one", "_law_other"] []
  g__law_less : mg "_law_less" = some (.ref f__law_less)
  f__law_number : Addr
  fd__law_number : FuncData
  F__law_number : Fun K "_law_number" "_law_number" s__law_number f__law_number fd__law_number
  b__law_number : Binds K fd__law_number ["_law_deck_here"] []
  g__law_number : mg "_law_number" = some (.ref f__law_number)
  f__law_same : Addr
  fd__law_same : FuncData
  F__law_same : Fun K "_law_same" "_law_same" s__law_same f__law_same fd__law_same
  b__law_same : Binds K fd__law_same ["_law_told", "_law_due"] []
  g__law_same : mg "_law_same" = some (.ref f__law_same)
  f__law_refused : Addr
  fd__law_refused : FuncData
  F__law_refused : Fun K "_law_refused" "_law_refused" s__law_refused f__law_refused fd__law_refused
  b__law_refused : Binds K fd__law_refused ["_law_call", "_law_first", "_law_second"] []
  g__law_refused : mg "_law_refused" = some (.ref f__law_refused)
  f__law_fraction : Addr
  fd__law_fraction : FuncData
  F__law_fraction : Fun K "_law_fraction" "_law_fraction" s__law_fraction f__law_fraction fd__law_fraction
  b__law_fraction : Binds K fd__law_fraction ["_law_deck_here"] []
  g__law_fraction : mg "_law_fraction" = some (.ref f__law_fraction)
  f_law : Addr
  fd_law : FuncData
  F_law : Fun K "law" "law" s_law f_law fd_law
  b_law : Binds K fd_law ["_law_script"] []
  g_law : mg "law" = some (.ref f_law)
  a_NOTHING : Addr
  g_NOTHING : mg "NOTHING" = some (.ref a_NOTHING)
  v_NOTHING : ∀ H : Hp, SqT K H a_NOTHING [.int (0), .int (1)]
  z_abs : mg "abs" = none
  z_all : mg "all" = none
  z_bool : mg "bool" = none
  z_int : mg "int" = none
  z_isinstance : mg "isinstance" = none
  z_len : mg "len" = none
  z_list : mg "list" = none
  z_range : mg "range" = none
  z_tuple : mg "tuple" = none
  g_gcd : mg "gcd" = some (.builtin "math.gcd")
section
variable {P : Program} {w : World} {K : PySem.W.Frag} {mg : Str → Option Value} {base : Heap}
/-! ### the deck: a list of the script's copy, a place, what is left of a great cell, a seed -/
def Dk (K : PySem.W.Frag) (H : Hp) (L : Addr) (k : Addr × List Int) : Prop := ∃ (a c d : Int), H L = some (.lst [.ref k.1, .int a, .int c, .int d]) ∧ k.1 ≠ L ∧ SqL K H k.1 (k.2.map V.int) ∧ 0 ≤ a ∧ 0 ≤ c
section
variable {K : PySem.W.Frag} {H H' H1 : Hp} {L p : Addr} {k : Addr × List Int}
theorem Dk.ne (h : Dk K H L k) (hp : H p = none) : p ≠ L := by
  obtain ⟨a, c, d, h1, _⟩ := h
  exact (ne_of_none h1 hp).symm
theorem Dk.nem (h : Dk K H L k) (hp : H p = none) : p ∉ [L] := nin (h.ne hp)
theorem Dk.same (e : Same H H') (h : Dk K H L k) : Dk K H' L k := by
  obtain ⟨a, c, d, h1, h2, h3, h4, h5⟩ := h
  exact ⟨a, c, d, e _ _ h1, h2, e.seq h3, h4, h5⟩
/-- what the deck is read from stands since H1 -/
theorem Dk.upd {D : Addr} {o : HO} (h : Dk K H L k) (b : Dk K H1 L k) (hD : H1 D = none) (e : Ex [L] H1 H) : Dk K (upd H D o) L k := by
  obtain ⟨a, c, d, h1, h2, h3, h4, h5⟩ := h
  obtain ⟨a', c', d', g1, g2, g3, g4, g5⟩ := b
  refine ⟨a, c, d, ?_, h2, Ex.seq (Ex.mut e (.inl hD)) (nin h2) g3, h4, h5⟩
  rw [upd_ne (ne_of_none g1 hD)]
  exact h1
/-- a change of an object x that H1 did not know -/
theorem Dk.ex1 {x : Addr} (h : Dk K H L k) (b : Dk K H1 L k) (hx : H1 x = none) (e : Ex [L] H1 H) (e2 : Ex [x] H H') : Dk K H' L k := by
  obtain ⟨a, c, d, h1, h2, h3, h4, h5⟩ := h
  obtain ⟨a', c', d', g1, g2, g3, g4, g5⟩ := b
  exact ⟨a, c, d, e2 _ _ (nin (ne_of_none g1 hx)) h1, h2, Ex.seq (e.new1 e2 hx) (nin h2) g3, h4, h5⟩
/-- the deck rewritten -/
theorem Dk.put {a c d : Int} (h2 : k.1 ≠ L) (h3 : SqL K H k.1 (k.2.map V.int)) (h4 : 0 ≤ a) (h5 : 0 ≤ c) : Dk K (L2.upd H L (.lst [.ref k.1, .int a, .int c, .int d])) L k :=
  ⟨a, c, d, upd_same, h2, Ex.seq (F := [L]) ((Ex.refl H).mut (.inr (List.mem_singleton.mpr rfl))) (nin h2) h3, h4, h5⟩
theorem ex_put {o : HO} : Ex [L] H (L2.upd H L o) := (Ex.refl H).mut (.inr (List.mem_singleton.mpr rfl))
end
theorem ne_big : (2147483647 : Int) ≠ 0 := by decide
theorem log2_small {m : Int} (h0 : 0 < m) (h1 : m < 2 ^ 64) : CDivW 0 m := wide_div (b := 64) h0 (by omega) (by decide) (by decide)
def sp__law_deck (K : PySem.W.Frag) : Sp := fun vs H Q _ => ∃ (a : Addr) (ns : List Int), vs = [.ref a] ∧ SqL K H a (ns.map V.int) ∧ ∀ k L H', H L = none → Same H H' → Dk K H' L k → Q (.ref L) H'
theorem ok__law_deck (T : Txt K mg) : FnOk P w K mg base CX0 1 T.f__law_deck T.fd__law_deck ["_law_script"] (sp__law_deck K) := by
  refine T.F__law_deck.ok sc__law_deck (fun vs H Q E h => ?_) (fun cdv A outer s H vs Q E hr h => ?_)
  · obtain ⟨a, ns, rfl, _⟩ := h
    rfl
  · obtain ⟨a, ns, rfl, hS, q⟩ := h
    refine ⟨_, (pss_one (ps_ret (pe_lst (pa_cons (pe_callTy (T := "list") call_list_of (by rfl) T.z_list (by decide +kernel) (pa_cons (pv 0) pa_nil)) (pa_cons pe_int (pa_cons pe_int (pa_cons pe_int pa_nil))))))), ?_⟩
    refine ⟨_, rfl, a, _, rfl, .inl hS, fun l hl => ⟨by show 4 ≤ sizeLine; decide, fun L hL => ?_⟩⟩
    have e1 : Same H (upd H l (.lst (ns.map V.int))) := same_upd hl
    have nl : l ≠ L := ne_of_none (H := upd H l (.lst (ns.map V.int))) upd_same hL
    refine q (l, ns) L _ (e1.free hL) (e1.trans (same_upd hL)) ⟨0, 0, 7, upd_same, nl, .inl (.inl ?_), by decide, by decide⟩
    rw [upd_ne nl, upd_same]
def sp__law_draw (K : PySem.W.Frag) : Sp := fun vs H Q _ => ∃ (k : Addr × List Int) (L : Addr) (m : Int), vs = [.ref L, .int m] ∧ 0 < m ∧ m < 2 ^ 64 ∧ Dk K H L k ∧ ∀ v H', 0 ≤ v → v < m → Ex [L] H H' → Dk K H' L k → Q (.int v) H'
theorem ok__law_draw (T : Txt K mg) : FnOk P w K mg base CX0 1 T.f__law_draw T.fd__law_draw ["_law_deck_here", "_law_most"] (sp__law_draw K) := by
  refine T.F__law_draw.ok sc__law_draw (fun vs H Q E h => ?_) (fun cdv A outer s H vs Q E hr h => ?_)
  · obtain ⟨k, a, m, rfl, _⟩ := h
    rfl
  · obtain ⟨⟨s, ns⟩, L, m, rfl, h0, hm, ⟨a, c, d, hL, hs, hS, ha, hc⟩, q⟩ := h
    refine ⟨_, (pss_cons (ps_if (pt_cmpR op_ge (pe_ix ix_list (pv 0) pe_int (fun _ _ => rfl)) (pv 1) (nomark _))
        (pss_cons (ps_set (i := 2) sc__law_draw.nd rfl (Or.inl rfl) (pe_op op_modN (pe_callTy (T := "int") call_int1 (by rfl) T.z_int (by decide +kernel) (pa_cons (pe_ix ix_list (pv 0) pe_int (fun _ _ => rfl)) pa_nil)) (pv 1)))
        (pss_cons (ps_asg (pe_op op_fdivW (pe_ix ix_list (pv 0) pe_int (fun _ _ => rfl)) (pv 1)) (pg_sub (pv 0) pe_int set_list))
        (pss_one (ps_ret (pv 2)))))
        pss_nil)
      (pss_cons (ps_set (i := 3) sc__law_draw.nd rfl (Or.inl rfl) pe_int)
      (pss_cut (ps_if (pt_cmpR op_lt (pe_ix ix_list (pv 0) pe_int (fun _ _ => rfl)) (pe_callB (id := "len") call_len_seq (by rfl) T.z_len (by decide +kernel) (pa_cons (pe_ix ix_list (pv 0) pe_int (fun _ _ => rfl)) pa_nil)) (nomark _))
        (pss_one (ps_set (i := 3) sc__law_draw.nd rfl (Or.inl rfl) (pe_ix ix_list (pe_ix ix_list (pv 0) pe_int (fun _ _ => rfl)) (pe_ix ix_list (pv 0) pe_int (fun _ _ => rfl)) (fun _ _ => rfl))))
        pss_nil)
      (pss_cons (ps_asg (pe_op op_add (pe_ix ix_list (pv 0) pe_int (fun _ _ => rfl)) pe_int) (pg_sub (pv 0) pe_int set_list))
      (pss_cons (ps_asg pe_int (pg_sub (pv 0) pe_int set_list))
      (pss_cons (ps_if (pt_cmpR op_ge (pv 3) (pe_op op_pow pe_int pe_int) (nomark _))
        (pss_cons (ps_asg (pe_op op_fdivW (pv 3) (pv 1)) (pg_sub (pv 0) pe_int set_list))
        (pss_one (ps_ret (pe_op op_modN (pe_callTy (T := "int") call_int1 (by rfl) T.z_int (by decide +kernel) (pa_cons (pv 3) pa_nil)) (pv 1)))))
        pss_nil)
      (pss_cons (ps_asg (pe_op op_modN (pe_callTy (T := "int") call_int1 (by rfl) T.z_int (by decide +kernel) (pa_cons (pe_op op_add (pe_op op_add (pe_op op_mul (pe_ix ix_list (pv 0) pe_int (fun _ _ => rfl)) pe_int) (pe_op op_mul (pv 3) pe_int)) (pe_op op_mul (pe_ix ix_list (pv 0) pe_int (fun _ _ => rfl)) pe_int)) pa_nil)) pe_int) (pg_sub (pv 0) pe_int set_list))
      (pss_cons (ps_asg (pe_op op_modN (pe_callTy (T := "int") call_int1 (by rfl) T.z_int (by decide +kernel) (pa_cons (pe_op op_add (pe_op op_mul (pe_ix ix_list (pv 0) pe_int (fun _ _ => rfl)) pe_int) pe_int) pa_nil)) pe_int) (pg_sub (pv 0) pe_int set_list))
      (pss_one (ps_ret (pe_op op_modN (pe_callTy (T := "int") call_int1 (by rfl) T.z_int (by decide +kernel) (pa_cons (pe_op op_fdivW (pe_ix ix_list (pv 0) pe_int (fun _ _ => rfl)) pe_int) pa_nil)) (pv 1)))))))))))), ?_⟩
    have md : m ≠ 0 := by omega
    have dv : ∀ i : Int, CDivW i m := fun i => log2_small h0 hm
    have fm : ∀ i : Int, 0 ≤ i.fmod m ∧ i.fmod m < m := fun i => ⟨Int.fmod_nonneg_of_pos i h0, Int.fmod_lt_of_pos i h0⟩
    refine ⟨_, rfl, L, _, 2, _, rfl, rfl, SqL.of hL, rfl, _, rfl, _, _, rfl, rfl, _, rfl, ite_dec (fun h1 => ?_) (fun h1 => ?_)⟩
    · refine ⟨_, rfl, L, _, 2, _, rfl, rfl, SqL.of hL, rfl, .inl ⟨_, rfl, _, rfl, _, _, rfl, rfl, md, ?_⟩⟩
      refine ⟨_, rfl, L, _, 2, _, rfl, rfl, SqL.of hL, rfl, _, rfl, _, _, rfl, rfl, dv _, _, rfl, L, _, 2, 2, rfl, rfl, hL, rfl, ?_⟩
      exact ⟨_, rfl, q _ _ (fm c).1 (fm c).2 ex_put (Dk.put (k := (s, ns)) hs hS ha (Int.ediv_nonneg hc (by omega)))⟩
    · refine ⟨fun σ' H' => ∃ cell : Int, H' = H ∧ σ' = [some (.ref L), some (.int m), none, some (.int cell)], ?_, ?_⟩
      · refine ⟨_, rfl, L, _, 1, _, rfl, rfl, SqL.of hL, rfl, _, rfl, L, _, 0, _, rfl, rfl, SqL.of hL, rfl, s, _, rfl, .inl hS, _, _, rfl, rfl, _, rfl, ite_dec (fun h2 => ?_) (fun h2 => ?_)⟩
        · have hlt : a.toNat < ns.length := by
            have h3 : a < ((ns.map V.int).length : Int) := h2
            rw [List.length_map] at h3
            omega
          refine ⟨_, rfl, L, _, 0, _, rfl, rfl, SqL.of hL, rfl, _, rfl, L, _, 1, _, rfl, rfl, SqL.of hL, rfl, s, _, a, .int ns[a.toNat], rfl, rfl, hS, atI_int ha (get_map (List.getElem?_eq_getElem hlt)), ?_⟩
          exact ⟨_, rfl, rfl⟩
        · exact ⟨_, rfl, rfl⟩
      · rintro σ' H' ⟨cell, rfl, rfl⟩
        -- the place, the rest
        refine ⟨_, rfl, L, _, 1, _, rfl, rfl, SqL.of hL, rfl, _, _, rfl, rfl, _, rfl, L, _, 1, 1, rfl, rfl, hL, rfl, ?_⟩
        have hs1 : SqL K (upd H' L (.lst [.ref s, .int (a + 1), .int c, .int d])) s (ns.map V.int) := Ex.seq (F := [L]) ex_put (nin hs) hS
        refine ⟨_, rfl, L, _, 2, 2, rfl, rfl, upd_same, rfl, ?_⟩
        refine ⟨_, rfl, 10, 18, rfl, rfl, ⟨by decide, by decide, by decide⟩, _, _, rfl, rfl, _, rfl, ite_dec (fun h2 => ?_) (fun h2 => ?_)⟩
        · have c0 : 0 ≤ cell := Int.le_trans (by decide) h2
          refine ⟨_, rfl, _, rfl, _, _, rfl, rfl, dv _, _, rfl, L, _, 2, 2, rfl, rfl, upd_same, rfl, ?_⟩
          refine ⟨_, rfl, .inl ⟨_, rfl, _, rfl, _, _, rfl, rfl, md, ?_⟩⟩
          rw [upd_upd, upd_upd]
          exact q _ _ (fm cell).1 (fm cell).2 ex_put (Dk.put (k := (s, ns)) hs hS (by omega) (Int.ediv_nonneg c0 (by omega)))
        · refine ⟨_, rfl, L, _, 3, _, rfl, rfl, SqL.of upd_same, rfl, _, _, rfl, rfl, .inr ⟨by decide, by decide⟩, _, rfl, _, _, rfl, rfl, .inr ⟨by decide, by decide⟩, _, _, rfl, rfl, _, rfl, L, _, 1, _, rfl, rfl, SqL.of upd_same, rfl, _, _, rfl, rfl, .inr ⟨by decide, by decide⟩, _, _, rfl, rfl,
            .inl ⟨_, rfl, _, _, rfl, rfl, ne_big, _, rfl, L, _, 3, 3, rfl, rfl, upd_same, rfl, ?_⟩⟩
          refine ⟨_, rfl, L, _, 3, _, rfl, rfl, SqL.of upd_same, rfl, _, _, rfl, rfl, .inr ⟨by decide, by decide⟩, _, _, rfl, rfl, .inl ⟨_, rfl, _, _, rfl, rfl, ne_big, _, rfl, L, _, 3, 3, rfl, rfl, upd_same, rfl, ?_⟩⟩
          refine ⟨_, rfl, L, _, 3, _, rfl, rfl, SqL.of upd_same, rfl, _, _, rfl, rfl, ⟨by decide, by decide⟩, .inl ⟨_, rfl, _, rfl, _, _, rfl, rfl, md, ?_⟩⟩
          rw [upd_upd, upd_upd, upd_upd]
          exact q _ _ (fm _).1 (fm _).2 ex_put (Dk.put (k := (s, ns)) hs hS (by omega) (by decide))

/-! ### fractions in the heap -/
def frT (r : Rat) : HO := .tup [.int r.num, .int (r.den : Int)]
def Fr (K : PySem.W.Frag) (H : Hp) (v : V) (r : Rat) : Prop := ∃ a, v = .ref a ∧ SqT K H a [.int r.num, .int (r.den : Int)]
theorem Fr.same {K : PySem.W.Frag} {H H' : Hp} {v : V} {r : Rat} (e : Same H H') (h : Fr K H v r) : Fr K H' v r := by
  obtain ⟨a, rfl, h⟩ := h
  exact ⟨a, rfl, e.tupq h⟩
/-- a tuple stays where a thing of another kind at x changes -/
theorem sqT_stay {K : PySem.W.Frag} {H H' : Hp} {a x : Addr} {xs ys : List V} (h : SqT K H a xs) (hx : H x = some (.lst ys)) (e : Ex [x] H H') : SqT K H' a xs := by
  rcases h with (h | ⟨u, h⟩) | h
  · exact .inl (.inl (e _ _ (nin fun z => by rw [z, hx] at h; cases h) h))
  · exact .inl (.inr ⟨u, e _ _ (nin fun z => by rw [z, hx] at h; cases h) h⟩)
  · exact .inr h
theorem Fr.stay {K : PySem.W.Frag} {H H' : Hp} {v : V} {r : Rat} {x : Addr} {ys : List V} (h : Fr K H v r) (hx : H x = some (.lst ys)) (e : Ex [x] H H') : Fr K H' v r := by
  obtain ⟨a, rfl, h⟩ := h
  exact ⟨a, rfl, sqT_stay h hx e⟩
theorem Fr.of {K : PySem.W.Frag} {H : Hp} {t : Addr} {r : Rat} (h : H t = some (frT r)) : Fr K H (.ref t) r := ⟨t, rfl, SqT.of h⟩
abbrev FrL (K : PySem.W.Frag) (H : Hp) : List V → List Rat → Prop := Paired (fun v r => Fr K H v r)
theorem FrL.same {K : PySem.W.Frag} {H H' : Hp} {xs : List V} {rs : List Rat} (e : Same H H') (h : FrL K H xs rs) : FrL K H' xs rs := Paired.mapP h fun _ _ z => z.same e
theorem FrL.stay {K : PySem.W.Frag} {H H' : Hp} {xs : List V} {rs : List Rat} {x : Addr} {ys : List V} (h : FrL K H xs rs) (hx : H x = some (.lst ys)) (e : Ex [x] H H') : FrL K H' xs rs := Paired.mapP h fun _ _ z => z.stay hx e
theorem FrL.get {K : PySem.W.Frag} {H : Hp} : ∀ {xs : List V} {rs : List Rat}, FrL K H xs rs → ∀ {i : Nat} {v : V}, xs[i]? = some v → ∃ r, rs[i]? = some r ∧ Fr K H v r
  | _, _, .nil, i, v, e => by simp at e
  | _, _, .cons h t, 0, v, e => by
    have e1 := Option.some.inj e
    subst e1
    exact ⟨_, rfl, h⟩
  | _, _, .cons h t, i + 1, v, e => FrL.get t (i := i) e
theorem FrL.snoc {K : PySem.W.Frag} {H : Hp} {v : V} {r : Rat} (q : Fr K H v r) : ∀ {xs : List V} {rs : List Rat}, FrL K H xs rs → FrL K H (xs ++ [v]) (rs ++ [r])
  | _, _, .nil => .cons q .nil
  | _, _, .cons h t => .cons h (FrL.snoc q t)
theorem FrL.len {K : PySem.W.Frag} {H : Hp} {xs : List V} {rs : List Rat} (h : FrL K H xs rs) : xs.length = rs.length := Paired.length h
def rsum (rs : List Rat) : Rat := rs.foldl (· + ·) 0
theorem rsum_take {rs : List Rat} {i : Nat} {r : Rat} (h : rs[i]? = some r) : rsum (rs.take (i + 1)) = rsum (rs.take i) + r := by
  unfold rsum
  rw [List.take_add_one, h, Option.toList_some, List.foldl_append]
  rfl
theorem rsum_snoc (rs : List Rat) (r : Rat) : rsum (rs ++ [r]) = rsum rs + r := by
  unfold rsum
  rw [List.foldl_append]
  rfl
theorem sz_rsum {m : Nat} {rs : List Rat} (h : ∀ r ∈ rs, Sz m r) : ∀ i, i ≤ rs.length → Sz (i * (m + 1) + 1) (rsum (rs.take i))
  | 0, _ => by
    rw [List.take_zero]
    exact sz_zero.mono (by omega)
  | i + 1, hi => by
    have hlt : i < rs.length := hi
    have e : rs[i]? = some rs[i] := List.getElem?_eq_getElem hlt
    rw [rsum_take e]
    have := (sz_rsum h i (by omega)).add (h _ (List.getElem_mem hlt))
    refine this.mono ?_
    rw [Nat.add_mul]
    omega
/-- what the fractions' own bound is -/
abbrev LIM : Nat := 980
section
variable {X : Cx}
/-- // by any divisor of moderate size -/
theorem op_fdivZ : OpR X (binaryOp .FloorDiv) (rI (fun _ j => j ≠ 0 ∧ j.natAbs < 2 ^ 8000) fun i j => .int (i.fdiv j)) :=
  opI fun i j _ _ _ _ _ hc q => floordiv_int hc.1 q
    (.inl (PyProof.noPylong_of_log2 (Nat.lt_of_lt_of_le (log2_lt' (by decide) hc.2) (by decide))))
end
theorem fdz {i j : Int} (h : j ≠ 0) (h2 : j.natAbs < 2 ^ 8000) : (fun (_ : Int) (j : Int) => j ≠ 0 ∧ j.natAbs < 2 ^ 8000) i j := ⟨h, h2⟩
theorem mulOk {i j : Int} {m n : Nat} (hi : i.natAbs < 2 ^ m) (hj : j.natAbs < 2 ^ n) (h : m + n ≤ 100000) (hm : 0 < m) (hn : 0 < n) : CMulW i j := wide_mul hi hj hm hn (by omega)
theorem mulFF {a b : Rat} (ha : Sz LIM a) (hb : Sz LIM b) : CMulW a.num (b.den : Int) := mulOk ha.1 hb.d (by decide) (by decide) (by decide)
theorem mulNN {a b : Rat} (ha : Sz LIM a) (hb : Sz LIM b) : CMulW a.num b.num := mulOk ha.1 hb.1 (by decide) (by decide) (by decide)
theorem mulDD {a b : Rat} (ha : Sz LIM a) (hb : Sz LIM b) : CMulW (a.den : Int) (b.den : Int) := mulOk ha.d hb.d (by decide) (by decide) (by decide)
theorem mulDN {a b : Rat} (ha : Sz LIM a) (hb : Sz LIM b) : CMulW (a.den : Int) b.num := mulOk ha.d hb.1 (by decide) (by decide) (by decide)
/-! ### the law's own fractions -/
def LowQ (q : Int) : Prop := q ≠ 0
theorem LowQ.dd (a b : Rat) : LowQ ((a.den : Int) * b.den) := dd_ne a b

def sp__law_low (K : PySem.W.Frag) : Sp := fun vs H Q _ => ∃ (p q : Int), vs = [.int p, .int q] ∧ LowQ q ∧ p.natAbs < 2 ^ 1990 ∧ q.natAbs < 2 ^ 1990 ∧
  ∀ t H', H t = none → Same H H' → H' t = some (frT (Rat.divInt p q)) → Q (.ref t) H'
def sp_two (K : PySem.W.Frag) (f : Rat → Rat → Rat) : Sp := fun vs H Q _ => ∃ (u v : V) (a b : Rat), vs = [u, v] ∧ Fr K H u a ∧ Fr K H v b ∧ Sz LIM a ∧ Sz LIM b ∧
  ∀ t H', H t = none → Same H H' → H' t = some (frT (f a b)) → Q (.ref t) H'
def sp__law_plus (K : PySem.W.Frag) : Sp := sp_two K (· + ·)
def sp__law_times (K : PySem.W.Frag) : Sp := sp_two K (· * ·)
def sp__law_less (K : PySem.W.Frag) : Sp := fun vs H Q _ => ∃ (u v : V) (a b : Rat), vs = [u, v] ∧ Fr K H u a ∧ Fr K H v b ∧ Sz LIM a ∧ Sz LIM b ∧ Q (.bl (decide (a < b))) H
theorem less_is {a b : Rat} : decide (a.num * (b.den : Int) < b.num * (a.den : Int)) = decide (a < b) := by
  by_cases h : a < b
  · rw [decide_eq_true h, decide_eq_true ((Rat.lt_iff a b).mp h)]
  · rw [decide_eq_false h, decide_eq_false fun z => h ((Rat.lt_iff a b).mpr z)]
theorem ok__law_low (T : Txt K mg) : FnOk P w K mg base CX0 1 T.f__law_low T.fd__law_low ["_law_p", "_law_q"] (sp__law_low K) := by
  refine T.F__law_low.ok sc__law_low (fun vs H Q E h => ?_) (fun cdv A outer s H vs Q E hr h => ?_)
  · obtain ⟨p, q, rfl, _⟩ := h
    rfl
  · obtain ⟨p, q, rfl, hq, hp1, hq1, kq⟩ := h
    refine ⟨_, (pss_cons (ps_set (i := 2) sc__law_low.nd rfl (Or.inl rfl) (pe_callB (id := "abs") call_abs (by rfl) T.z_abs (by decide +kernel) (pa_cons (pv 0) pa_nil)))
      (pss_cons (ps_set (i := 3) sc__law_low.nd rfl (Or.inl rfl) (pe_callB (id := "abs") call_abs (by rfl) T.z_abs (by decide +kernel) (pa_cons (pv 1) pa_nil)))
      (pss_cut (ps_for PassesOwn.never rfl (pi_range1 (by rfl) T.z_range (pa_cons pe_int pa_nil)) (pg_name (i := 4) sc__law_low.nd rfl (Or.inl rfl))
        (pss_cons (ps_if (pt_cmpR op_eq (pv 3) pe_int (nomark _))
          (pss_one ps_break)
          pss_nil)
        (pss_one (ps_par (i := 2) (j := 3) (by rfl) sc__law_low.nd rfl rfl (by decide) rfl rfl (pa_cons (pv 3) (pa_cons (pe_op op_modN (pe_callTy (T := "int") call_int1 (by rfl) T.z_int (by decide +kernel) (pa_cons (pv 2) pa_nil)) (pv 3)) pa_nil)) (by rfl)))))
      (pss_cut (ps_if (pt_cmpR op_lt (pv 1) pe_int (nomark _))
        (pss_one (ps_set (i := 2) sc__law_low.nd rfl (Or.inl rfl) (pe_op op_sub pe_int (pv 2))))
        pss_nil)
      (pss_one (ps_ret (pe_tup (pa_cons (pe_op op_fdivZ (pv 0) (pv 2)) (pa_cons (pe_op op_fdivZ (pv 1) (pv 2)) pa_nil))))))))), ?_⟩
    have hn : p.natAbs * q.natAbs < 2 ^ 3980 := by
      have := Nat.mul_lt_mul'' hp1 hq1
      rw [← Nat.pow_add] at this
      exact this
    have ap : ∀ z : Int, (if z < 0 then -z else z) = (z.natAbs : Int) := fun z => by split <;> omega
    refine ⟨_, rfl, _, rfl, _, rfl, _, rfl, ?_⟩
    rw [ap, ap]
    refine ⟨fun σ' H' => H' = H ∧ ∃ x y, σ' = [some (.int p), some (.int q), some (.int (Int.gcd p q : Int)), x, y], ?_, ?_⟩
    · refine ⟨_, rfl, by decide, by decide, for_it walk_range (fun i σ H' => H' = H ∧ ∃ x a b, σ = [some (.int p), some (.int q), some (.int a), some (.int b), x] ∧ (b = 0 ∧ a = (Int.gcd p q : Int) ∨ i ≤ 3980 + 1 ∧ Euc p q 3980 i a b))
        ⟨rfl, _, _, _, rfl, .inr ⟨by decide, Euc.start hq hn⟩⟩ (fun _ _ _ _ _ => trivial) ?_ ?_⟩
      · rintro i v σ Ha Hb hi ⟨rfl, x, a, b, rfl, hab⟩ ⟨rfl, rfl⟩
        refine ⟨_, rfl, rfl, _, rfl, ite_dec (fun hz => ?_) (fun hz => ?_)⟩
        · have hb : b = 0 := V.int.inj hz
          subst hb
          have ea : a = (Int.gcd p q : Int) := by
            rcases hab with ⟨_, e⟩ | ⟨_, e⟩
            · exact e
            · exact e.gcd
          subst ea
          exact ⟨rfl, _, _, rfl⟩
        · have hb : b ≠ 0 := fun z => hz (congrArg V.int z)
          rcases hab with ⟨e, _⟩ | ⟨hle, e⟩
          · exact absurd e hb
          · have hi2 : i ≤ 3980 := by
              rcases Nat.lt_or_ge 3980 i with z | z
              · have : i = 3980 + 1 := by omega
                subst this
                exact absurd e.ended hb
              · exact z
            refine ⟨_, rfl, _, rfl, .inl ⟨_, rfl, _, rfl, _, _, rfl, rfl, hb, _, _, rfl, ?_⟩⟩
            exact ⟨rfl, _, b, a.fmod b, rfl, .inr ⟨by omega, e.next hi2 hb⟩⟩
      · rintro σ Ha ⟨rfl, x, a, b, rfl, hab⟩
        rcases hab with ⟨rfl, rfl⟩ | ⟨hle, _⟩
        · exact ⟨rfl, _, _, rfl⟩
        · exact absurd hle (by decide)
    · rintro σ' H' ⟨rfl, x, y, rfl⟩
      refine ⟨fun σ' H'' => H'' = H' ∧ ∃ x y, σ' = [some (.int p), some (.int q), some (.int (lowD p q)), x, y], ?_, ?_⟩
      · refine ⟨_, rfl, _, _, rfl, rfl, _, rfl, ite_dec (fun hz => ?_) (fun hz => ?_)⟩
        · refine ⟨_, rfl, _, _, rfl, rfl, rfl, x, y, ?_⟩
          show [_, _, some (V.int (0 - (Int.gcd p q : Int))), _, _] = _
          unfold lowD
          rw [if_pos hz, Int.zero_sub]
        · refine ⟨rfl, x, y, ?_⟩
          unfold lowD
          rw [if_neg hz]
      · rintro σ' H'' ⟨rfl, x, y, rfl⟩
        have hd := lowD_ne (p := p) hq
        have hd2 : (lowD p q).natAbs < 2 ^ 8000 := by
          rw [lowD_abs]
          exact pow_up (Nat.lt_of_le_of_lt (gcd_le_right hq) hq1) (by decide)
        refine ⟨_, rfl, _, rfl, _, _, rfl, rfl, ⟨hd, hd2⟩, _, rfl, _, rfl, _, _, rfl, rfl, ⟨hd, hd2⟩, by show 2 ≤ sizeLine; decide, fun t ht => ?_⟩
        show Q (.ref t) (upd H'' t (.tup [.int (p.fdiv (lowD p q)), .int (q.fdiv (lowD p q))]))
        rw [low_num hq, low_den hq]
        exact kq t _ ht (same_upd ht) upd_same

theorem ok__law_plus (T : Txt K mg) : FnOk P w K mg base CX0 2 T.f__law_plus T.fd__law_plus ["_law_one", "_law_other"] (sp__law_plus K) := by
  refine T.F__law_plus.ok sc__law_plus (fun vs H Q E h => ?_) (fun cdv A outer s H vs Q E hr h => ?_)
  · obtain ⟨u, v, a, b, rfl, _⟩ := h
    rfl
  · obtain ⟨u, v, a, b, rfl, ⟨x, rfl, hx⟩, ⟨y, rfl, hy⟩, sa, sb, q⟩ := h
    refine ⟨_, (pss_one (ps_ret (pe_call (ok__law_low T) (hr.mono (by decide)) (by rfl) T.g__law_low T.F__law_low.kp T.b__law_low .nil pass0 (pa_cons (pe_op op_add (pe_op op_mulW (pe_ix ix_tup (pv 0) pe_int (fun _ _ => rfl)) (pe_ix ix_tup (pv 1) pe_int (fun _ _ => rfl))) (pe_op op_mulW (pe_ix ix_tup (pv 1) pe_int (fun _ _ => rfl)) (pe_ix ix_tup (pv 0) pe_int (fun _ _ => rfl)))) (pa_cons (pe_op op_mulW (pe_ix ix_tup (pv 0) pe_int (fun _ _ => rfl)) (pe_ix ix_tup (pv 1) pe_int (fun _ _ => rfl))) pa_nil))))), ?_⟩
    refine ⟨_, rfl, x, _, 0, _, rfl, rfl, hx, rfl, _, rfl, y, _, 1, _, rfl, rfl, hy, rfl, _, _, rfl, rfl, mulFF sa sb,
      _, rfl, y, _, 0, _, rfl, rfl, hy, rfl, _, rfl, x, _, 1, _, rfl, rfl, hx, rfl, _, _, rfl, rfl, mulFF sb sa, _, _, rfl, rfl,
      _, rfl, x, _, 1, _, rfl, rfl, hx, rfl, _, rfl, y, _, 1, _, rfl, rfl, hy, rfl, _, _, rfl, rfl, mulDD sa sb, ?_⟩
    refine ⟨_, _, rfl, LowQ.dd a b, pow_up (sz_num sa sb) (by decide), pow_up (sz_den sa sb) (by decide), fun t H' ht e h => ?_⟩
    rw [add_divInt] at h
    exact q t H' ht e h
theorem ok__law_times (T : Txt K mg) : FnOk P w K mg base CX0 2 T.f__law_times T.fd__law_times ["_law_one", "_law_other"] (sp__law_times K) := by
  refine T.F__law_times.ok sc__law_times (fun vs H Q E h => ?_) (fun cdv A outer s H vs Q E hr h => ?_)
  · obtain ⟨u, v, a, b, rfl, _⟩ := h
    rfl
  · obtain ⟨u, v, a, b, rfl, ⟨x, rfl, hx⟩, ⟨y, rfl, hy⟩, sa, sb, q⟩ := h
    refine ⟨_, (pss_one (ps_ret (pe_call (ok__law_low T) (hr.mono (by decide)) (by rfl) T.g__law_low T.F__law_low.kp T.b__law_low .nil pass0 (pa_cons (pe_op op_mulW (pe_ix ix_tup (pv 0) pe_int (fun _ _ => rfl)) (pe_ix ix_tup (pv 1) pe_int (fun _ _ => rfl))) (pa_cons (pe_op op_mulW (pe_ix ix_tup (pv 0) pe_int (fun _ _ => rfl)) (pe_ix ix_tup (pv 1) pe_int (fun _ _ => rfl))) pa_nil))))), ?_⟩
    refine ⟨_, rfl, x, _, 0, _, rfl, rfl, hx, rfl, _, rfl, y, _, 0, _, rfl, rfl, hy, rfl, _, _, rfl, rfl, mulNN sa sb,
      _, rfl, x, _, 1, _, rfl, rfl, hx, rfl, _, rfl, y, _, 1, _, rfl, rfl, hy, rfl, _, _, rfl, rfl, mulDD sa sb, ?_⟩
    refine ⟨_, _, rfl, LowQ.dd a b, pow_up (abs_mul_lt sa.1 sb.1) (by decide), pow_up (sz_den sa sb) (by decide), fun t H' ht e h => ?_⟩
    rw [mul_divInt] at h
    exact q t H' ht e h
theorem ok__law_less (T : Txt K mg) : FnOk P w K mg base CX0 1 T.f__law_less T.fd__law_less ["_law_one", "_law_other"] (sp__law_less K) := by
  refine T.F__law_less.ok sc__law_less (fun vs H Q E h => ?_) (fun cdv A outer s H vs Q E hr h => ?_)
  · obtain ⟨u, v, a, b, rfl, _⟩ := h
    rfl
  · obtain ⟨u, v, a, b, rfl, ⟨x, rfl, hx⟩, ⟨y, rfl, hy⟩, sa, sb, q⟩ := h
    refine ⟨_, (pss_one (ps_ret (pe_cmpR op_lt (pe_op op_mulW (pe_ix ix_tup (pv 0) pe_int (fun _ _ => rfl)) (pe_ix ix_tup (pv 1) pe_int (fun _ _ => rfl))) (pe_op op_mulW (pe_ix ix_tup (pv 1) pe_int (fun _ _ => rfl)) (pe_ix ix_tup (pv 0) pe_int (fun _ _ => rfl))) (nomark _)))), ?_⟩
    refine ⟨_, rfl, x, _, 0, _, rfl, rfl, hx, rfl, _, rfl, y, _, 1, _, rfl, rfl, hy, rfl, _, _, rfl, rfl, mulFF sa sb,
      _, rfl, y, _, 0, _, rfl, rfl, hy, rfl, _, rfl, x, _, 1, _, rfl, rfl, hx, rfl, _, _, rfl, rfl, mulFF sb sa, _, _, rfl, rfl, ?_⟩
    show Q (.bl (decide (a.num * (b.den : Int) < b.num * (a.den : Int)))) H
    rw [less_is]
    exact q

/-! ### the program's fractions -/
def sp_lowest (K : PySem.W.Frag) : Sp := fun vs H Q _ => ∃ (p q : Int), vs = [.int p, .int q] ∧ q ≠ 0 ∧ p.natAbs < 2 ^ 1990 ∧ q.natAbs < 2 ^ 1990 ∧
  ∀ t H', H t = none → Same H H' → H' t = some (frT (Rat.divInt p q)) → Q (.ref t) H'
theorem ok_lowest (T : Txt K mg) : FnOk P w K mg base CX0 1 T.f_lowest T.fd_lowest ["p", "q"] (sp_lowest K) := by
  refine T.F_lowest.ok sc_lowest (fun vs H Q E h => ?_) (fun cdv A outer s H vs Q E hr h => ?_)
  · obtain ⟨p, q, rfl, _⟩ := h
    rfl
  · obtain ⟨p, q, rfl, hq, hp1, hq1, kq⟩ := h
    refine ⟨_, (pss_cons (ps_if (pt_cmpR op_eq (pv 1) pe_int (nomark _))
        (pss_one ps_never)
        pss_nil)
      (pss_cons (ps_set (i := 2) sc_lowest.nd rfl (Or.inl rfl) (pe_callBfun cr_gcd (by rfl) T.g_gcd (pa_cons (pv 0) (pa_cons (pv 1) pa_nil))))
      (pss_cut (ps_if (pt_cmpR op_lt (pv 1) pe_int (nomark _))
        (pss_one (ps_set (i := 2) sc_lowest.nd rfl (Or.inl rfl) (pe_un un_neg (pv 2))))
        pss_nil)
      (pss_one (ps_ret (pe_tup (pa_cons (pe_op op_fdivZ (pv 0) (pv 2)) (pa_cons (pe_op op_fdivZ (pv 1) (pv 2)) pa_nil)))))))), ?_⟩
    have hd := lowD_ne (p := p) hq
    have hd2 : (lowD p q).natAbs < 2 ^ 8000 := by
      rw [lowD_abs]
      exact pow_up (Nat.lt_of_le_of_lt (gcd_le_right hq) hq1) (by decide)
    refine ⟨_, rfl, rfl, _, rfl, ite_dec (fun hz => absurd (V.int.inj hz) hq) (fun _ => ?_)⟩
    refine ⟨_, rfl, _, rfl, _, _, rfl, ?_⟩
    refine ⟨fun σ' H'' => H'' = H ∧ σ' = [some (.int p), some (.int q), some (.int (lowD p q))], ?_, ?_⟩
    · refine ⟨_, rfl, _, _, rfl, rfl, _, rfl, ite_dec (fun hz => ?_) (fun hz => ?_)⟩
      · refine ⟨_, rfl, _, rfl, rfl, ?_⟩
        unfold lowD
        rw [if_pos hz]
        rfl
      · refine ⟨rfl, ?_⟩
        unfold lowD
        rw [if_neg hz]
        rfl
    · rintro σ' H'' ⟨rfl, rfl⟩
      refine ⟨_, rfl, _, rfl, _, _, rfl, rfl, ⟨hd, hd2⟩, _, rfl, _, rfl, _, _, rfl, rfl, ⟨hd, hd2⟩, by show 2 ≤ sizeLine; decide, fun t ht => ?_⟩
      show Q (.ref t) (upd H'' t (.tup [.int (p.fdiv (lowD p q)), .int (q.fdiv (lowD p q))]))
      rw [low_num hq, low_den hq]
      exact kq t _ ht (same_upd ht) upd_same
def sp_plus (K : PySem.W.Frag) : Sp := sp_two K (· + ·)
theorem ok_plus (T : Txt K mg) : FnOk P w K mg base CX0 2 T.f_plus T.fd_plus ["a", "b"] (sp_plus K) := by
  refine T.F_plus.ok sc_plus (fun vs H Q E h => ?_) (fun cdv A outer s H vs Q E hr h => ?_)
  · obtain ⟨u, v, a, b, rfl, _⟩ := h
    rfl
  · obtain ⟨u, v, a, b, rfl, ⟨x, rfl, hx⟩, ⟨y, rfl, hy⟩, sa, sb, q⟩ := h
    refine ⟨_, (pss_one (ps_ret (pe_call (ok_lowest T) (hr.mono (by decide)) (by rfl) T.g_lowest T.F_lowest.kp T.b_lowest .nil pass0 (pa_cons (pe_op op_add (pe_op op_mulW (pe_ix ix_tup (pv 0) pe_int (fun _ _ => rfl)) (pe_ix ix_tup (pv 1) pe_int (fun _ _ => rfl))) (pe_op op_mulW (pe_ix ix_tup (pv 1) pe_int (fun _ _ => rfl)) (pe_ix ix_tup (pv 0) pe_int (fun _ _ => rfl)))) (pa_cons (pe_op op_mulW (pe_ix ix_tup (pv 0) pe_int (fun _ _ => rfl)) (pe_ix ix_tup (pv 1) pe_int (fun _ _ => rfl))) pa_nil))))), ?_⟩
    refine ⟨_, rfl, x, _, 0, _, rfl, rfl, hx, rfl, _, rfl, y, _, 1, _, rfl, rfl, hy, rfl, _, _, rfl, rfl, mulFF sa sb, _, rfl, y, _, 0, _, rfl, rfl, hy, rfl, _, rfl, x, _, 1, _, rfl, rfl, hx, rfl, _, _, rfl, rfl, mulFF sb sa, _, _, rfl, rfl, _, rfl, x, _, 1, _, rfl, rfl, hx, rfl, _, rfl, y, _, 1, _, rfl, rfl, hy, rfl, _, _, rfl, rfl, mulDD sa sb, ?_⟩
    refine ⟨_, _, rfl, dd_ne a b, pow_up (sz_num sa sb) (by decide), pow_up (sz_den sa sb) (by decide), fun t H' ht e h => ?_⟩
    rw [add_divInt] at h
    exact q t H' ht e h
def sp_minus (K : PySem.W.Frag) : Sp := sp_two K (· - ·)
theorem ok_minus (T : Txt K mg) : FnOk P w K mg base CX0 2 T.f_minus T.fd_minus ["a", "b"] (sp_minus K) := by
  refine T.F_minus.ok sc_minus (fun vs H Q E h => ?_) (fun cdv A outer s H vs Q E hr h => ?_)
  · obtain ⟨u, v, a, b, rfl, _⟩ := h
    rfl
  · obtain ⟨u, v, a, b, rfl, ⟨x, rfl, hx⟩, ⟨y, rfl, hy⟩, sa, sb, q⟩ := h
    refine ⟨_, (pss_one (ps_ret (pe_call (ok_lowest T) (hr.mono (by decide)) (by rfl) T.g_lowest T.F_lowest.kp T.b_lowest .nil pass0 (pa_cons (pe_op op_sub (pe_op op_mulW (pe_ix ix_tup (pv 0) pe_int (fun _ _ => rfl)) (pe_ix ix_tup (pv 1) pe_int (fun _ _ => rfl))) (pe_op op_mulW (pe_ix ix_tup (pv 1) pe_int (fun _ _ => rfl)) (pe_ix ix_tup (pv 0) pe_int (fun _ _ => rfl)))) (pa_cons (pe_op op_mulW (pe_ix ix_tup (pv 0) pe_int (fun _ _ => rfl)) (pe_ix ix_tup (pv 1) pe_int (fun _ _ => rfl))) pa_nil))))), ?_⟩
    refine ⟨_, rfl, x, _, 0, _, rfl, rfl, hx, rfl, _, rfl, y, _, 1, _, rfl, rfl, hy, rfl, _, _, rfl, rfl, mulFF sa sb, _, rfl, y, _, 0, _, rfl, rfl, hy, rfl, _, rfl, x, _, 1, _, rfl, rfl, hx, rfl, _, _, rfl, rfl, mulFF sb sa, _, _, rfl, rfl, _, rfl, x, _, 1, _, rfl, rfl, hx, rfl, _, rfl, y, _, 1, _, rfl, rfl, hy, rfl, _, _, rfl, rfl, mulDD sa sb, ?_⟩
    refine ⟨_, _, rfl, dd_ne a b, pow_up (sz_numS sa sb) (by decide), pow_up (sz_den sa sb) (by decide), fun t H' ht e h => ?_⟩
    rw [sub_divInt] at h
    exact q t H' ht e h
def sp_times (K : PySem.W.Frag) : Sp := sp_two K (· * ·)
theorem ok_times (T : Txt K mg) : FnOk P w K mg base CX0 2 T.f_times T.fd_times ["a", "b"] (sp_times K) := by
  refine T.F_times.ok sc_times (fun vs H Q E h => ?_) (fun cdv A outer s H vs Q E hr h => ?_)
  · obtain ⟨u, v, a, b, rfl, _⟩ := h
    rfl
  · obtain ⟨u, v, a, b, rfl, ⟨x, rfl, hx⟩, ⟨y, rfl, hy⟩, sa, sb, q⟩ := h
    refine ⟨_, (pss_one (ps_ret (pe_call (ok_lowest T) (hr.mono (by decide)) (by rfl) T.g_lowest T.F_lowest.kp T.b_lowest .nil pass0 (pa_cons (pe_op op_mulW (pe_ix ix_tup (pv 0) pe_int (fun _ _ => rfl)) (pe_ix ix_tup (pv 1) pe_int (fun _ _ => rfl))) (pa_cons (pe_op op_mulW (pe_ix ix_tup (pv 0) pe_int (fun _ _ => rfl)) (pe_ix ix_tup (pv 1) pe_int (fun _ _ => rfl))) pa_nil))))), ?_⟩
    refine ⟨_, rfl, x, _, 0, _, rfl, rfl, hx, rfl, _, rfl, y, _, 0, _, rfl, rfl, hy, rfl, _, _, rfl, rfl, mulNN sa sb, _, rfl, x, _, 1, _, rfl, rfl, hx, rfl, _, rfl, y, _, 1, _, rfl, rfl, hy, rfl, _, _, rfl, rfl, mulDD sa sb, ?_⟩
    refine ⟨_, _, rfl, dd_ne a b, pow_up (abs_mul_lt sa.1 sb.1) (by decide), pow_up (sz_den sa sb) (by decide), fun t H' ht e h => ?_⟩
    rw [mul_divInt] at h
    exact q t H' ht e h
def sp_over (K : PySem.W.Frag) : Sp := fun vs H Q _ => ∃ (u v : V) (a b : Rat), vs = [u, v] ∧ Fr K H u a ∧ Fr K H v b ∧ Sz LIM a ∧ Sz LIM b ∧ b ≠ 0 ∧
  ∀ t H', H t = none → Same H H' → H' t = some (frT (a / b)) → Q (.ref t) H'
theorem ok_over (T : Txt K mg) : FnOk P w K mg base CX0 2 T.f_over T.fd_over ["a", "b"] (sp_over K) := by
  refine T.F_over.ok sc_over (fun vs H Q E h => ?_) (fun cdv A outer s H vs Q E hr h => ?_)
  · obtain ⟨u, v, a, b, rfl, _⟩ := h
    rfl
  · obtain ⟨u, v, a, b, rfl, ⟨x, rfl, hx⟩, ⟨y, rfl, hy⟩, sa, sb, hb, q⟩ := h
    refine ⟨_, (pss_one (ps_ret (pe_call (ok_lowest T) (hr.mono (by decide)) (by rfl) T.g_lowest T.F_lowest.kp T.b_lowest .nil pass0 (pa_cons (pe_op op_mulW (pe_ix ix_tup (pv 0) pe_int (fun _ _ => rfl)) (pe_ix ix_tup (pv 1) pe_int (fun _ _ => rfl))) (pa_cons (pe_op op_mulW (pe_ix ix_tup (pv 0) pe_int (fun _ _ => rfl)) (pe_ix ix_tup (pv 1) pe_int (fun _ _ => rfl))) pa_nil))))), ?_⟩
    refine ⟨_, rfl, x, _, 0, _, rfl, rfl, hx, rfl, _, rfl, y, _, 1, _, rfl, rfl, hy, rfl, _, _, rfl, rfl, mulFF sa sb, _, rfl, x, _, 1, _, rfl, rfl, hx, rfl, _, rfl, y, _, 0, _, rfl, rfl, hy, rfl, _, _, rfl, rfl, mulDN sa sb, ?_⟩
    refine ⟨_, _, rfl, Int.mul_ne_zero (den_ne a) (num_ne hb), pow_up (abs_mul_lt sa.1 sb.d) (by decide), pow_up (abs_mul_lt sa.d sb.1) (by decide), fun t H' ht e h => ?_⟩
    rw [div_divInt] at h
    exact q t H' ht e h
def sp_less (K : PySem.W.Frag) : Sp := fun vs H Q _ => ∃ (u v : V) (a b : Rat), vs = [u, v] ∧ Fr K H u a ∧ Fr K H v b ∧ Sz LIM a ∧ Sz LIM b ∧ Q (.bl (decide (a < b))) H
theorem ok_less (T : Txt K mg) : FnOk P w K mg base CX0 1 T.f_less T.fd_less ["a", "b"] (sp_less K) := by
  refine T.F_less.ok sc_less (fun vs H Q E h => ?_) (fun cdv A outer s H vs Q E hr h => ?_)
  · obtain ⟨u, v, a, b, rfl, _⟩ := h
    rfl
  · obtain ⟨u, v, a, b, rfl, ⟨x, rfl, hx⟩, ⟨y, rfl, hy⟩, sa, sb, q⟩ := h
    refine ⟨_, (pss_one (ps_ret (pe_cmpR op_lt (pe_op op_mulW (pe_ix ix_tup (pv 0) pe_int (fun _ _ => rfl)) (pe_ix ix_tup (pv 1) pe_int (fun _ _ => rfl))) (pe_op op_mulW (pe_ix ix_tup (pv 1) pe_int (fun _ _ => rfl)) (pe_ix ix_tup (pv 0) pe_int (fun _ _ => rfl))) (nomark _)))), ?_⟩
    refine ⟨_, rfl, x, _, 0, _, rfl, rfl, hx, rfl, _, rfl, y, _, 1, _, rfl, rfl, hy, rfl, _, _, rfl, rfl, mulFF sa sb, _, rfl, y, _, 0, _, rfl, rfl, hy, rfl, _, rfl, x, _, 1, _, rfl, rfl, hx, rfl, _, _, rfl, rfl, mulFF sb sa, _, _, rfl, rfl, ?_⟩
    show Q (.bl (decide (a.num * (b.den : Int) < b.num * (a.den : Int)))) H
    rw [less_is]
    exact q
def sp_sum_of (K : PySem.W.Frag) : Sp := fun vs H Q _ => ∃ (p : Addr) (xs : List V) (rs : List Rat) (m : Nat), vs = [.ref p] ∧ SqL K H p xs ∧ FrL K H xs rs ∧ (∀ r ∈ rs, Sz m r) ∧ m ≤ LIM ∧ rs.length * (m + 1) + 1 ≤ LIM ∧
  ∀ v H', Same H H' → Fr K H' v (rsum rs) → Q v H'
theorem ok_sum_of (T : Txt K mg) : FnOk P w K mg base CX0 3 T.f_sum_of T.fd_sum_of ["fractions"] (sp_sum_of K) := by
  refine T.F_sum_of.ok sc_sum_of (fun vs H Q E h => ?_) (fun cdv A outer s H vs Q E hr h => ?_)
  · obtain ⟨p, xs, rs, m, rfl, _⟩ := h
    rfl
  · obtain ⟨p, xs, rs, m, rfl, hS, hF, hz, hm, hlim, q⟩ := h
    refine ⟨_, (pss_cons (ps_set (i := 1) sc_sum_of.nd rfl (Or.inl rfl) (pe_glob (v := .ref T.a_NOTHING) (by rfl) T.g_NOTHING rfl))
      (pss_cons (ps_for PassesOwn.never rfl (pi_list (pv 0)) (pg_name (i := 2) sc_sum_of.nd rfl (Or.inl rfl))
        (pss_one (ps_set (i := 1) sc_sum_of.nd rfl (Or.inl rfl) (pe_call (ok_plus T) (hr.mono (by decide)) (by rfl) T.g_plus T.F_plus.kp T.b_plus .nil pass0 (pa_cons (pv 1) (pa_cons (pv 2) pa_nil))))))
      (pss_one (ps_ret (pv 1))))), ?_⟩
    refine ⟨_, rfl, p, rfl, ⟨_, hS⟩, for_it walk_list (fun i σ H' => ∃ v x, σ = [some (.ref p), some v, x] ∧ Same H H' ∧ Fr K H' v (rsum (rs.take i))) ⟨_, _, rfl, Same.refl H, ⟨_, rfl, T.v_NOTHING H⟩⟩ (fun _ _ _ _ ⟨_, _, _, e, _⟩ => e.seq hS) ?_ ?_⟩
    · rintro i y σ Ha Hb hi ⟨v, x, rfl, e, hv⟩ ⟨rfl, hy⟩
      obtain ⟨r, hr1, hr2⟩ := hF.get hy
      have hi' : i < rs.length := (List.getElem?_eq_some_iff.mp hr1).1
      have hb : i * (m + 1) ≤ rs.length * (m + 1) := Nat.mul_le_mul_right _ (by omega)
      refine ⟨_, rfl, _, rfl, _, _, _, _, rfl, hv, hr2.same e, (sz_rsum hz i (by omega)).mono (by omega), (hz r (List.mem_of_getElem? hr1)).mono hm, fun t H' ht e2 h2 => ⟨_, _, rfl, e.trans e2, ?_⟩⟩
      rw [rsum_take hr1]
      exact Fr.of h2
    · rintro σ Ha ⟨v, x, rfl, e, hv⟩
      rw [hF.len, List.take_length] at hv
      exact ⟨_, rfl, q _ _ e hv⟩
def isFr (p q : Int) : Bool := decide (1 ≤ q) && decide (Int.gcd p q = 1)
def sp_is_fraction (K : PySem.W.Frag) : Sp := fun vs H Q _ => ∃ (x : Addr) (p q : Int), vs = [.ref x] ∧ SqT K H x [.int p, .int q] ∧ Q (.bl (isFr p q)) H
theorem ok_is_fraction (T : Txt K mg) : FnOk P w K mg base CX0 1 T.f_is_fraction T.fd_is_fraction ["pair"] (sp_is_fraction K) := by
  refine T.F_is_fraction.ok sc_is_fraction (fun vs H Q E h => ?_) (fun cdv A outer s H vs Q E hr h => ?_)
  · obtain ⟨x, p, q, rfl, _⟩ := h
    rfl
  · obtain ⟨x, p, q, rfl, hx, kq⟩ := h
    refine ⟨_, (pss_one (ps_ret (pe_and (pe_cmpR op_ge (pe_ix ix_tup (pv 0) pe_int (fun _ _ => rfl)) pe_int (nomark _)) (pe_one (pe_cmpR op_eq (pe_callBfun cr_gcd (by rfl) T.g_gcd (pa_cons (pe_ix ix_tup (pv 0) pe_int (fun _ _ => rfl)) (pa_cons (pe_ix ix_tup (pv 0) pe_int (fun _ _ => rfl)) pa_nil))) pe_int (nomark _)))))), ?_⟩
    unfold isFr at kq
    refine ⟨_, rfl, x, _, 1, _, rfl, rfl, hx, rfl, _, _, rfl, rfl, _, rfl, ite_dec (fun h1 => ?_) (fun h1 => ?_)⟩
    · refine ⟨_, rfl, x, _, 0, _, rfl, rfl, hx, rfl, _, rfl, x, _, 1, _, rfl, rfl, hx, rfl, _, _, rfl, rfl, ?_⟩
      rw [decide_eq_true h1, Bool.true_and] at kq
      have e : decide (V.int ((Nat.gcd p.natAbs q.natAbs : Nat) : Int) = V.int 1) = decide (Int.gcd p q = 1) := by
        by_cases z : Int.gcd p q = 1
        · rw [decide_eq_true z]
          exact decide_eq_true (congrArg V.int (congrArg Int.ofNat z))
        · rw [decide_eq_false z]
          exact decide_eq_false fun z2 => z (Int.ofNat.inj (V.int.inj z2))
      rw [e]
      exact kq
    · rw [decide_eq_false h1, Bool.false_and] at kq
      exact kq


/-! ### lowest, over with their errors -/
def spX_lowest (K : PySem.W.Frag) (C : Addr) : Sp := fun vs H Q E => ∃ (p q : Int), vs = [.int p, .int q] ∧ p.natAbs < 2 ^ 1990 ∧ q.natAbs < 2 ^ 1990 ∧ (q = 0 → E (.ref C) none H) ∧ q = 0
theorem okX_lowest (T : Txt K mg) : FnOk P w K mg base (L2.CX P w) 1 T.f_lowest T.fd_lowest ["p", "q"] (spX_lowest K T.a_ZeroDenominator) := by
  refine T.F_lowest.okX sc_lowest (fun vs H Q E h => ?_) (fun cdv A outer s H vs Q E hr h => ?_)
  · obtain ⟨p, q, rfl, _⟩ := h
    rfl
  · obtain ⟨p, q, rfl, hp1, hq1, kx, rfl⟩ := h
    refine ⟨_, (pss_cons (ps_if (pt_cmpR op_eq (pv 1) pe_int (nomark _))
        (pss_one (ps_raise rfl (takes_of rfl rfl rfl rfl) (pmk_own0 PySem.F.excBase_ValueError T.x_ZeroDenominator T.g_ZeroDenominator T.kp_ZeroDenominator (raises_own T.sb_ZeroDenominator T.ty_ZeroDenominator) rfl)))
        pss_nil)
      (pss_cons (ps_set (i := 2) sc_lowest.nd rfl (Or.inl rfl) (pe_callBfun cr_gcd (by rfl) T.g_gcd (pa_cons (pv 0) (pa_cons (pv 1) pa_nil))))
      (pss_cut (ps_if (pt_cmpR op_lt (pv 1) pe_int (nomark _))
        (pss_one (ps_set (i := 2) sc_lowest.nd rfl (Or.inl rfl) (pe_un un_neg (pv 2))))
        pss_nil)
      (pss_one (ps_ret (pe_tup (pa_cons (pe_op op_fdivZ (pv 0) (pv 2)) (pa_cons (pe_op op_fdivZ (pv 1) (pv 2)) pa_nil)))))))), ?_⟩
    exact ⟨_, rfl, rfl, _, rfl, ite_dec (fun hz => kx rfl) (fun hz => absurd rfl hz)⟩
def spX_over (K : PySem.W.Frag) (C : Addr) : Sp := fun vs H Q E => ∃ (u v : V) (a b : Rat), vs = [u, v] ∧ Fr K H u a ∧ Fr K H v b ∧ Sz LIM a ∧ Sz LIM b ∧ b = 0 ∧ E (.ref C) none H
theorem okX_over (T : Txt K mg) : FnOk P w K mg base (L2.CX P w) 2 T.f_over T.fd_over ["a", "b"] (spX_over K T.a_ZeroDenominator) := by
  refine T.F_over.okX sc_over (fun vs H Q E h => ?_) (fun cdv A outer s H vs Q E hr h => ?_)
  · obtain ⟨u, v, a, b, rfl, _⟩ := h
    rfl
  · obtain ⟨u, v, a, b, rfl, ⟨x, rfl, hx⟩, ⟨y, rfl, hy⟩, sa, sb, rfl, q⟩ := h
    refine ⟨_, (pss_one (ps_ret (pe_call (okX_lowest T) (hr.mono (by decide)) (by rfl) T.g_lowest T.F_lowest.kp T.b_lowest .nil (passes_call (takes_of rfl rfl rfl rfl) (fun _ _ _ _ h => h)) (pa_cons (pe_op op_mulW (pe_ix ix_tup (pv 0) pe_int (fun _ _ => rfl)) (pe_ix ix_tup (pv 1) pe_int (fun _ _ => rfl))) (pa_cons (pe_op op_mulW (pe_ix ix_tup (pv 0) pe_int (fun _ _ => rfl)) (pe_ix ix_tup (pv 1) pe_int (fun _ _ => rfl))) pa_nil))))), ?_⟩
    refine ⟨_, rfl, x, _, 0, _, rfl, rfl, hx, rfl, _, rfl, y, _, 1, _, rfl, rfl, hy, rfl, _, _, rfl, rfl, mulFF sa sb, _, rfl, x, _, 1, _, rfl, rfl, hx, rfl, _, rfl, y, _, 0, _, rfl, rfl, hy, rfl, _, _, rfl, rfl, mulDN sa sb, ?_⟩
    exact ⟨_, _, rfl, pow_up (abs_mul_lt sa.1 sb.d) (by decide), by show ((a.den : Int) * 0).natAbs < _; rw [Int.mul_zero]; exact Nat.two_pow_pos _, fun _ => q, Int.mul_zero _⟩
/-! ### refused -/
def sp__law_refused (K : PySem.W.Frag) (fl fo : Addr) : Sp := fun vs H Q _ => ∃ (f : Addr) (u v : V), vs = [.ref f, u, v] ∧
  (f = fl ∧ (∃ p : Int, u = .int p ∧ v = .int 0 ∧ p.natAbs < 2 ^ 1990) ∨ f = fo ∧ ∃ a : Rat, Fr K H u a ∧ Fr K H v 0 ∧ Sz LIM a) ∧ ∀ H', Same H H' → Q (.bl true) H'
theorem ok__law_refused (T : Txt K mg) : FnOk P w K mg base CX0 4 T.f__law_refused T.fd__law_refused ["_law_call", "_law_first", "_law_second"] (sp__law_refused K T.f_lowest T.f_over) := by
  refine T.F__law_refused.ok sc__law_refused (fun vs H Q E h => ?_) (fun cdv A outer s H vs Q E hr h => ?_)
  · obtain ⟨f, u, v, rfl, _⟩ := h
    rfl
  · obtain ⟨f, u, v, rfl, hc, q⟩ := h
    rcases hc with ⟨rfl, p, rfl, rfl, hp⟩ | ⟨rfl, a, ha, h0, sa⟩
    · refine ⟨_, pss_cut (ps_try_as (i := 3) rfl rfl sc__law_refused.nd rfl rfl ⟨rfl, by decide, .inl T.g_ZeroDenominator⟩ takes0
        (fun W pn xe tk _ => pss_one (ps_expr (pe_callLS (i := 0) (okX_lowest T) (hr.mono (by decide)) rfl (.inl rfl) T.F_lowest.kp T.b_lowest (fun σ => passAt tk σ) (pa_cons (pv 1) (pa_cons (pv 2) pa_nil)))))
        (fun a oe cls d pn hz hf => pss_one (ps_ret (pe_isE T.ec_ZeroDenominator hz hf (by rfl) T.z_isinstance (pa_cons (pv 3) (pa_cons (pe_glob (v := .ref T.a_SamphireError) (by rfl) T.g_SamphireError rfl) pa_nil))))))
        (pss_one (ps_ret pe_bl)), ?_⟩
      refine ⟨fun _ _ => False, ?_, fun _ _ z => z.elim⟩
      refine ⟨rfl, _, rfl, _, rfl, _, _, rfl, hp, by decide, fun _ => ?_, rfl⟩
      refine ⟨true, T.te_ZeroDenominator, fun _ a ha => ?_, fun z => nomatch z⟩
      exact ⟨rfl, rfl, _, rfl, _, .ref T.a_SamphireError, true, rfl, fun _ z => z, T.of_ZeroDenominator_SamphireError, q H (Same.refl H)⟩
    · refine ⟨_, pss_cut (ps_try_as (i := 3) rfl rfl sc__law_refused.nd rfl rfl ⟨rfl, by decide, .inl T.g_ZeroDenominator⟩ takes0
        (fun W pn xe tk _ => pss_one (ps_expr (pe_callLS (i := 0) (okX_over T) (hr.mono (by decide)) rfl (.inl rfl) T.F_over.kp T.b_over (fun σ => passAt tk σ) (pa_cons (pv 1) (pa_cons (pv 2) pa_nil)))))
        (fun a oe cls d pn hz hf => pss_one (ps_ret (pe_isE T.ec_ZeroDenominator hz hf (by rfl) T.z_isinstance (pa_cons (pv 3) (pa_cons (pe_glob (v := .ref T.a_SamphireError) (by rfl) T.g_SamphireError rfl) pa_nil))))))
        (pss_one (ps_ret pe_bl)), ?_⟩
      refine ⟨fun _ _ => False, ?_, fun _ _ z => z.elim⟩
      refine ⟨rfl, _, rfl, _, rfl, u, v, a, 0, rfl, ha, h0, sa, sz_zero.mono (by decide), rfl, ?_⟩
      refine ⟨true, T.te_ZeroDenominator, fun _ a ha => ?_, fun z => nomatch z⟩
      exact ⟨rfl, rfl, _, rfl, _, .ref T.a_SamphireError, true, rfl, fun _ z => z, T.of_ZeroDenominator_SamphireError, q H (Same.refl H)⟩
/-! ### numbers, fractions -/
theorem num_step {n d M : Int} {a : Nat} (h0 : 0 ≤ n) (h : n < 2 ^ a) (hd : d < M) (hM : M ≤ 2 ^ 40) (hM0 : 0 < M) : n * M + d < 2 ^ (a + 40) := by
  have h1 : (n + 1) * M ≤ 2 ^ a * M := Int.mul_le_mul_of_nonneg_right (by omega) (by omega)
  have h2 : (2 : Int) ^ a * M ≤ 2 ^ a * 2 ^ 40 := Int.mul_le_mul_of_nonneg_left hM (Int.le_of_lt (Int.pow_pos (by decide)))
  rw [Int.add_mul, Int.one_mul] at h1
  rw [Int.pow_add]
  omega
theorem tyx_tup {K : PySem.W.Frag} {H : Hp} {a : Addr} {xs : List V} (h : SqT K H a xs) : TyX K H (.ref a) (.type "tuple") := by
  rcases h with (h | ⟨o, h⟩) | ⟨o, its, n, h1, h2, _⟩
  · exact .base (.tup h)
  · exact .fTuple h
  · exact .kTuple h1 h2
def sp__law_number (K : PySem.W.Frag) : Sp := fun vs H Q _ => ∃ (k : Addr × List Int) (L : Addr), vs = [.ref L] ∧ Dk K H L k ∧ ∀ v H', v.natAbs < 2 ^ 140 → Ex [L] H H' → Dk K H' L k → Q (.int v) H'
theorem ok__law_number (T : Txt K mg) : FnOk P w K mg base CX0 2 T.f__law_number T.fd__law_number ["_law_deck_here"] (sp__law_number K) := by
  refine T.F__law_number.ok sc__law_number (fun vs H Q E h => ?_) (fun cdv A outer s H vs Q E hr h => ?_)
  · obtain ⟨k, L, rfl, _⟩ := h
    rfl
  · obtain ⟨k, L, rfl, hD, q⟩ := h
    refine ⟨_, (pss_cons (ps_set (i := 1) sc__law_number.nd rfl (Or.inl rfl) (pe_call (ok__law_draw T) (hr.mono (by decide)) (by rfl) T.g__law_draw T.F__law_draw.kp T.b__law_draw .nil pass0 (pa_cons (pv 0) (pa_cons pe_int pa_nil))))
      (pss_cons (ps_if (pt_cmpR op_eq (pv 1) pe_int (nomark _))
        (pss_one (ps_ret pe_int))
        pss_nil)
      (pss_cons (ps_set (i := 2) sc__law_number.nd rfl (Or.inl rfl) (pe_op op_add pe_int (pe_call (ok__law_draw T) (hr.mono (by decide)) (by rfl) T.g__law_draw T.F__law_draw.kp T.b__law_draw .nil pass0 (pa_cons (pv 0) (pa_cons (pe_ix ix_list (pe_lst (pa_cons pe_int (pa_cons pe_int (pa_cons (pe_op op_pow pe_int pe_int) pa_nil)))) (pe_op op_modN (pv 1) pe_int) (fun _ _ => rfl)) pa_nil)))))
      (pss_cut (ps_if (pt_cmpR op_eq (pv 1) pe_int (nomark _))
        (pss_one (ps_for PassesOwn.never rfl (pi_range1 (by rfl) T.z_range (pa_cons pe_int pa_nil)) (pg_name (i := 3) sc__law_number.nd rfl (Or.inl rfl))
          (pss_one (ps_set (i := 2) sc__law_number.nd rfl (Or.inl rfl) (pe_op op_add (pe_op op_mul (pv 2) (pe_op op_pow pe_int pe_int)) (pe_call (ok__law_draw T) (hr.mono (by decide)) (by rfl) T.g__law_draw T.F__law_draw.kp T.b__law_draw .nil pass0 (pa_cons (pv 0) (pa_cons (pe_op op_pow pe_int pe_int) pa_nil))))))))
        pss_nil)
      (pss_one (ps_ret (pe_op op_mul (pv 2) (pe_ix ix_list (pe_lst (pa_cons pe_int (pa_cons (pe_un un_neg pe_int) pa_nil))) (pe_call (ok__law_draw T) (hr.mono (by decide)) (by rfl) T.g__law_draw T.F__law_draw.kp T.b__law_draw .nil pass0 (pa_cons (pv 0) (pa_cons pe_int pa_nil))) (fun _ _ => rfl))))))))), ?_⟩
    refine ⟨_, rfl, k, L, 5, rfl, by decide, by decide, hD, fun kd H1 k0 k5 e1 d1 => ?_⟩
    refine ⟨_, rfl, rfl, _, rfl, ite_dec (fun hz => ?_) (fun hz => ?_)⟩
    · exact q 0 H1 (by decide) e1 d1
    · obtain ⟨m, hm, hm0, hm6⟩ : ∃ m : Int, atI [V.int 12, V.int 60, V.int ((10 : Int) ^ (6 : Int).toNat)] (kd.fmod 3) = some (.int m) ∧ 0 < m ∧ m < 2 ^ 20 := by
        have h1 : 0 ≤ kd.fmod 3 := Int.fmod_nonneg_of_pos _ (by decide)
        have h2 : kd.fmod 3 < 3 := Int.fmod_lt_of_pos _ (by decide)
        have : kd.fmod 3 = 0 ∨ kd.fmod 3 = 1 ∨ kd.fmod 3 = 2 := by omega
        rcases this with h | h | h <;> rw [h]
        · exact ⟨_, rfl, by decide, by decide⟩
        · exact ⟨_, rfl, by decide, by decide⟩
        · exact ⟨_, rfl, by decide, by decide⟩
      refine ⟨_, rfl, _, _, rfl, rfl, ⟨by decide, by decide, by decide⟩, by show 3 ≤ sizeLine; decide, fun g hg => ?_⟩
      have e2 := same_upd (o := .lst [V.int 12, V.int 60, V.int ((10 : Int) ^ (6 : Int).toNat)]) hg
      have hg2 : upd H1 g (.lst [V.int 12, V.int 60, V.int ((10 : Int) ^ (6 : Int).toNat)]) g = some (.lst [V.int 12, V.int 60, V.int ((10 : Int) ^ (6 : Int).toNat)]) := upd_same
      generalize upd H1 g (.lst [V.int 12, V.int 60, V.int ((10 : Int) ^ (6 : Int).toNat)]) = H2 at e2 hg2 ⊢
      refine ⟨_, rfl, _, _, rfl, rfl, (by show (3 : Int) ≠ 0; decide), g, _, _, .int m, rfl, rfl, SqL.of hg2, hm, ?_⟩
      have d2 := d1.same e2
      refine ⟨k, L, m, rfl, hm0, by omega, d2, fun x H3 x0 xm e3 d3 => ⟨_, _, rfl, rfl, ?_⟩⟩
      have e13 : Ex [L] H H3 := (e1.trans (Ex.of e2)).trans e3
      refine ⟨fun σ' H' => ∃ (n : Int) (z : Option V), σ' = [some (.ref L), some (.int kd), some (.int n), z] ∧ 0 ≤ n ∧ n < 2 ^ 140 ∧ Ex [L] H H' ∧ Dk K H' L k, ?_, ?_⟩
      · refine ⟨_, rfl, rfl, _, rfl, ite_dec (fun h4 => ?_) (fun h4 => ?_)⟩
        · refine ⟨_, rfl, by decide, by decide, for_it walk_range (fun i σ H' => ∃ (n : Int) (z : Option V), σ = [some (.ref L), some (.int kd), some (.int n), z] ∧ 0 ≤ n ∧ n < 2 ^ (20 + 40 * i) ∧ Ex [L] H H' ∧ Dk K H' L k)
            ⟨1 + x, _, rfl, by omega, (by show 1 + x < 2 ^ 20; omega), e13, d3⟩ (fun _ _ _ _ _ => trivial) ?_ ?_⟩
          · rintro i v σ Ha Hb hi ⟨n, z, rfl, n0, nb, ea, da⟩ ⟨rfl, rfl⟩
            refine ⟨_, rfl, _, _, rfl, rfl, ⟨by decide, by decide, by decide⟩, _, _, rfl, rfl, .inr ⟨by decide, by decide⟩, ?_⟩
            refine ⟨_, rfl, _, _, rfl, rfl, ⟨by decide, by decide, by decide⟩, k, L, _, rfl, by decide, by decide, da, fun y H5 y0 ym e5 d5 => ⟨_, _, rfl, rfl, ?_⟩⟩
            refine ⟨n * (10 : Int) ^ (12 : Int).toNat + y, _, rfl, ?_, num_step n0 nb ym (by decide) (by decide), ea.trans e5, d5⟩
            have : 0 ≤ n * (10 : Int) ^ (12 : Int).toNat := Int.mul_nonneg n0 (by decide)
            omega
          · rintro σ Ha ⟨n, z, rfl, n0, nb, ea, da⟩
            exact ⟨n, z, rfl, n0, nb, ea, da⟩
        · exact ⟨1 + x, _, rfl, by omega, by omega, e13, d3⟩
      · rintro σ' H' ⟨n, z, rfl, n0, nb, ea, da⟩
        refine ⟨_, rfl, _, rfl, by show 2 ≤ sizeLine; decide, fun r hr5 => ?_⟩
        have e5 := same_upd (o := .lst [V.int 1, V.int (-1)]) hr5
        have h5 : upd H' r (.lst [V.int 1, V.int (-1)]) r = some (.lst [V.int 1, V.int (-1)]) := upd_same
        generalize upd H' r (.lst [V.int 1, V.int (-1)]) = H5 at e5 h5 ⊢
        refine ⟨_, rfl, k, L, 2, rfl, by decide, by decide, da.same e5, fun y H6 y0 y2 e6 d6 => ?_⟩
        have h6 := e6.at (nin (da.ne hr5)) h5
        have hy : y = 0 ∨ y = 1 := by omega
        rcases hy with rfl | rfl
        · refine ⟨r, _, 0, .int 1, rfl, rfl, SqL.of h6, rfl, _, _, rfl, rfl, .inr ⟨by decide, by decide⟩, q _ H6 ?_ ((ea.trans (Ex.of e5)).trans e6) d6⟩
          rw [Int.mul_one]
          omega
        · refine ⟨r, _, 1, .int (-1), rfl, rfl, SqL.of h6, rfl, _, _, rfl, rfl, .inr ⟨by decide, by decide⟩, q _ H6 ?_ ((ea.trans (Ex.of e5)).trans e6) d6⟩
          rw [Int.mul_neg, Int.mul_one]
          omega
def sp__law_same (K : PySem.W.Frag) : Sp := fun vs H Q _ => ∃ (u v : V) (a b : Rat), vs = [u, v] ∧ Fr K H u a ∧ Fr K H v b ∧ ∀ H', Same H H' → Q (.bl (decide (a = b))) H'
theorem ok__law_same (T : Txt K mg) : FnOk P w K mg base CX0 1 T.f__law_same T.fd__law_same ["_law_told", "_law_due"] (sp__law_same K) := by
  refine T.F__law_same.ok sc__law_same (fun vs H Q E h => ?_) (fun cdv A outer s H vs Q E hr h => ?_)
  · obtain ⟨u, v, a, b, rfl, _⟩ := h
    rfl
  · obtain ⟨u, v, a, b, rfl, ⟨x, rfl, hx⟩, ⟨y, rfl, hy⟩, q⟩ := h
    refine ⟨_, (pss_cons (ps_if (PW.pt (pw_or (pt_not (pt_val (pe_callB (id := "isinstance") call_isi (by rfl) T.z_isinstance (by decide +kernel) (pa_cons (pv 0) (pa_cons (pe_bltn (v := .ty "tuple") (by rfl) T.z_tuple (by decide +kernel) rfl) pa_nil))))) (pw_or1 (pt_cmpR (op_neD hr.units) (pv 0) (pv 1) (nomark _)))))
        (pss_one (ps_ret pe_bl))
        pss_nil)
      (pss_one (ps_ret (pe_callB (id := "all") (cr_all rfl) (by rfl) T.z_all (by decide +kernel) (pa_cons (pe_lc (own := [("_law_part", 2)]) (g := gName 2) rfl sc__law_same.nd (pi_tup (pv 0)) (blkOk_by (own := [("_law_part", 2)]) (N := nm__law_same) (sc := defScope s__law_same) (by decide +kernel)) (fun _ _ _ _ _ => pg_name (i := 2) sc__law_same.nd rfl (Or.inl rfl)) (fun _ _ _ _ _ => pts_nil) (fun _ _ _ _ _ => (pe_and (pe_callB (id := "isinstance") (isik (K := K) rfl) (by rfl) T.z_isinstance (by decide +kernel) (pa_cons (pv 2) (pa_cons (pe_bltn (v := .ty "int") (by rfl) T.z_int (by decide +kernel) rfl) pa_nil))) (pe_one (pe_not (pe_callB (id := "isinstance") (isik (K := K) rfl) (by rfl) T.z_isinstance (by decide +kernel) (pa_cons (pv 2) (pa_cons (pe_bltn (v := .ty "bool") (by rfl) T.z_bool (by decide +kernel) rfl) pa_nil)))))))) pa_nil))))), ?_⟩
    refine ⟨_, rfl, _, .ty "tuple", .type "tuple", .type "tuple", true, rfl, .ty _, tyx_tup hx, kit_ty (by decide +kernel), _, rfl, iteF ?_⟩
    refine ⟨_, rfl, _, rfl, .tuple ([a.num, (a.den : Int)].map .int), .tuple ([b.num, (b.den : Int)].map .int), .tup hx (dp_ints [a.num, (a.den : Int)]), .tup hy (dp_ints [b.num, (b.den : Int)]), shaped_intsT _, shaped_intsT _, _, rfl, ?_⟩
    rw [eqv_intsT, rat_list_eq]
    by_cases hab : a = b
    · rw [decide_eq_true hab]
      refine iteF ?_
      refine ⟨_, rfl, x, rfl, ⟨_, hx⟩, fun D hDn => ?_⟩
      refine lc_it walk_tup (fun i H' => Same H H' ∧ H' D = some (.lst ((List.replicate i true).map V.bl))) ⟨same_upd hDn, upd_same⟩ (fun _ _ _ ⟨e, _⟩ => e.tupq hx) ?_ ?_
      · rintro i z Ha Hb hi ⟨e, hd⟩ ⟨rfl, hz⟩
        obtain ⟨n, rfl⟩ : ∃ n : Int, z = .int n := by
          have hz' := hz
          match i, hz' with
          | 0, hz' => exact ⟨_, (Option.some.inj hz').symm⟩
          | 1, hz' => exact ⟨_, (Option.some.inj hz').symm⟩
          | n + 2, hz' => simp at hz'
        refine ⟨rfl, w_yes ?_⟩
        refine ⟨_, rfl, _, .ty "int", .type "int", .type "int", true, rfl, .ty _, .base (.int _), kit_ty (by decide +kernel), _, rfl, iteT ?_⟩
        refine ⟨_, rfl, _, .ty "bool", .type "int", .type "bool", false, rfl, .ty _, .base (.int _), kit_ty (by decide +kernel), _, rfl, ?_⟩
        refine ⟨_, hd, ?_, Same.mut e hDn, ?_⟩
        · rw [List.length_map, List.length_replicate]
          exact small1000 (Nat.le_trans (Nat.le_of_lt hi) (by show 2 ≤ 1000; decide))
        · rw [upd_same, List.replicate_succ', List.map_append]
          rfl
      · rintro Ha ⟨e, hd⟩
        have e2 := q Ha e
        rw [decide_eq_true hab] at e2
        exact ⟨D, List.replicate 2 true, rfl, SqL.of hd, e2⟩
    · have e2 := q H (Same.refl H)
      rw [decide_eq_false hab] at e2 ⊢
      exact iteT e2
def sp__law_fraction (K : PySem.W.Frag) : Sp := fun vs H Q _ => ∃ (k : Addr × List Int) (L : Addr), vs = [.ref L] ∧ Dk K H L k ∧ ∀ t H' r, H t = none → Ex [L] H H' → Dk K H' L k → H' t = some (frT r) → Sz 140 r → Q (.ref t) H'
theorem ok__law_fraction (T : Txt K mg) : FnOk P w K mg base CX0 3 T.f__law_fraction T.fd__law_fraction ["_law_deck_here"] (sp__law_fraction K) := by
  refine T.F__law_fraction.ok sc__law_fraction (fun vs H Q E h => ?_) (fun cdv A outer s H vs Q E hr h => ?_)
  · obtain ⟨k, L, rfl, _⟩ := h
    rfl
  · obtain ⟨k, L, rfl, hD, q⟩ := h
    refine ⟨_, (pss_cons (ps_set (i := 1) sc__law_fraction.nd rfl (Or.inl rfl) (pe_call (ok__law_number T) (hr.mono (by decide)) (by rfl) T.g__law_number T.F__law_number.kp T.b__law_number .nil pass0 (pa_cons (pv 0) pa_nil)))
      (pss_cut (ps_if (pt_cmpR op_eq (pv 1) pe_int (nomark _))
        (pss_one (ps_set (i := 1) sc__law_fraction.nd rfl (Or.inl rfl) pe_int))
        pss_nil)
      (pss_one (ps_ret (pe_call (ok__law_low T) (hr.mono (by decide)) (by rfl) T.g__law_low T.F__law_low.kp T.b__law_low .nil pass0 (pa_cons (pe_call (ok__law_number T) (hr.mono (by decide)) (by rfl) T.g__law_number T.F__law_number.kp T.b__law_number .nil pass0 (pa_cons (pv 0) pa_nil)) (pa_cons (pv 1) pa_nil))))))), ?_⟩
    refine ⟨_, rfl, k, L, rfl, hD, fun x H1 xb e1 d1 => ?_⟩
    refine ⟨fun σ' H' => H' = H1 ∧ ∃ y : Int, σ' = [some (.ref L), some (.int y)] ∧ y ≠ 0 ∧ y.natAbs < 2 ^ 140, ?_, ?_⟩
    · refine ⟨_, rfl, rfl, _, rfl, ite_dec (fun hz => ?_) (fun hz => ?_)⟩
      · exact ⟨rfl, 7, rfl, by decide, by decide⟩
      · exact ⟨rfl, x, rfl, fun z => hz (congrArg V.int z), xb⟩
    · rintro σ' H' ⟨rfl, y, rfl, y0, yb⟩
      refine ⟨_, rfl, k, L, rfl, d1, fun p H2 pb e2 d2 => ?_⟩
      refine ⟨_, rfl, p, y, rfl, y0, pow_up pb (by decide), pow_up yb (by decide), fun t H3 ht e3 h3 => ?_⟩
      exact q t H3 _ (e1.free (d1.nem (e2.free (d2.nem ht) ht)) (e2.free (d2.nem ht) ht)) ((e1.trans e2).trans (Ex.of e3)) (d2.same e3) h3 (sz_divInt y0 pb yb)
/-! ### the law -/
theorem Fr.dk {K : PySem.W.Frag} {H H' : Hp} {v : V} {r : Rat} {L : Addr} {k : Addr × List Int} (h : Fr K H v r) (d : Dk K H L k) (e : Ex [L] H H') : Fr K H' v r := by
  obtain ⟨a, c, x, h1, _⟩ := d
  exact h.stay h1 e
theorem FrL.dk {K : PySem.W.Frag} {H H' : Hp} {v : List V} {r : List Rat} {L : Addr} {k : Addr × List Int} (h : FrL K H v r) (d : Dk K H L k) (e : Ex [L] H H') : FrL K H' v r := by
  obtain ⟨a, c, x, h1, _⟩ := d
  exact h.stay h1 e
def frD (r : Rat) : PyData := .tuple [.int r.num, .int (r.den : Int)]
theorem dp_fr {K : PySem.W.Frag} {H : Hp} {v : V} {r : Rat} (h : Fr K H v r) : Dp K H v (frD r) := by
  obtain ⟨a, rfl, h⟩ := h
  exact .tup h (dp_ints [r.num, (r.den : Int)])
theorem dp_frs {K : PySem.W.Frag} {H : Hp} : ∀ {xs : List V} {rs : List Rat}, FrL K H xs rs → DpAll K H xs (rs.map frD)
  | _, _, .nil => .nil
  | _, _, .cons h t => .cons (dp_fr h) (dp_frs t)
theorem lay_frs : ∀ rs : List Rat, PyData.canLayAll0 (rs.map frD) = true
  | [] => rfl
  | _ :: r => by
    show (true && PyData.canLayAll0 (r.map frD)) = true
    rw [lay_frs r]
    rfl
theorem depth_frs : ∀ rs : List Rat, PyData.depthAll (rs.map frD) ≤ 1
  | [] => by decide
  | a :: r => by
    have := depth_frs r
    show max 1 (PyData.depthAll (r.map frD)) ≤ 1
    omega
theorem shaped_frs (rs : List Rat) : SeqAt.shaped (.list (rs.map frD)) = true := shaped_mk (lay_frs rs) (by
  have := depth_frs rs
  show PyData.depthAll (rs.map frD) + 1 ≤ 64
  omega)
theorem eqv_self {d : PyData} (h : SeqAt.shaped d = true) : PyData.eqv d d = true := SeqAt.eqv_refl d (SeqAt.canLay_of_shaped h)
theorem isFr_scale (r : Rat) {s : Int} (hs : s = 1 ∨ s = 2 ∨ s = -1 ∨ s = 0) : isFr (r.num * s) ((r.den : Int) * s) = decide (s = 1) := by
  have hd := r.den_pos
  unfold isFr
  rcases hs with rfl | rfl | rfl | rfl
  · rw [Int.mul_one, Int.mul_one, decide_eq_true (show (1 : Int) ≤ r.den by omega)]
    have : Int.gcd r.num (r.den : Int) = 1 := by
      have := r.reduced
      unfold Int.gcd
      rw [Int.natAbs_natCast]
      exact this
    rw [this]
    rfl
  · have : Int.gcd (r.num * 2) ((r.den : Int) * 2) ≠ 1 := by
      rw [Int.gcd_mul_right]
      intro z
      have z2 : Int.gcd r.num (r.den : Int) * 2 = 1 := z
      omega
    rw [decide_eq_false this, Bool.and_false]
    rfl
  · rw [decide_eq_false (show ¬ (1 : Int) ≤ (r.den : Int) * -1 by omega)]
    rfl
  · rw [decide_eq_false (show ¬ (1 : Int) ≤ (r.den : Int) * 0 by omega)]
    rfl
def sp_law (K : PySem.W.Frag) : Sp := fun vs H Q _ => ∃ (a : Addr) (ns : List Int), vs = [.ref a] ∧ SqL K H a (ns.map V.int) ∧ ns.length ≤ 63 ∧ ∀ H', Q (.bl true) H'
theorem ok_law (T : Txt K mg) : FnOk P w K mg base CX0 6 T.f_law T.fd_law ["_law_script"] (sp_law K) := by
  refine T.F_law.ok sc_law (fun vs H Q E h => ?_) (fun cdv A outer s H vs Q E hr h => ?_)
  · obtain ⟨a, ns, rfl, _⟩ := h
    rfl
  · obtain ⟨a, ns, rfl, hS, hlen, q⟩ := h
    refine ⟨_, (pss_cons (ps_set (i := 1) sc_law.nd rfl (Or.inr rfl) (pe_call (ok__law_deck T) (hr.mono (by decide)) (by rfl) T.g__law_deck T.F__law_deck.kp T.b__law_deck .nil pass0 (pa_cons (pv 0) pa_nil)))
      (pss_cons (ps_for PassesOwn.never rfl (pi_range1 (by rfl) T.z_range (pa_cons pe_int pa_nil)) (pg_name (i := 2) sc_law.nd rfl (Or.inl rfl))
        (pss_cons (ps_par (i := 3) (j := 4) (by rfl) sc_law.nd rfl rfl (by decide) rfl rfl (pa_cons (pe_call (ok__law_number T) (hr.mono (by decide)) (by rfl) T.g__law_number T.F__law_number.kp T.b__law_number .nil pass0 (pa_cons (pv 1) pa_nil)) (pa_cons (pe_call (ok__law_number T) (hr.mono (by decide)) (by rfl) T.g__law_number T.F__law_number.kp T.b__law_number .nil pass0 (pa_cons (pv 1) pa_nil)) pa_nil)) (by rfl))
        (pss_cut (ps_if (pt_cmpR op_eq (pv 4) pe_int (nomark _))
          (pss_one (ps_if (pt_not (pt_val (pe_call (ok__law_refused T) (hr.mono (by decide)) (by rfl) T.g__law_refused T.F__law_refused.kp T.b__law_refused .nil pass0 (pa_cons (pe_glob (v := .ref T.f_lowest) (by rfl) T.g_lowest rfl) (pa_cons (pv 3) (pa_cons pe_int pa_nil))))))
            (pss_one (ps_ret pe_bl))
            pss_nil))
          (pss_one (ps_if (pt_not (pt_val (pe_call (ok__law_same T) (hr.mono (by decide)) (by rfl) T.g__law_same T.F__law_same.kp T.b__law_same .nil pass0 (pa_cons (pe_call (ok_lowest T) (hr.mono (by decide)) (by rfl) T.g_lowest T.F_lowest.kp T.b_lowest .nil pass0 (pa_cons (pv 3) (pa_cons (pv 4) pa_nil))) (pa_cons (pe_call (ok__law_low T) (hr.mono (by decide)) (by rfl) T.g__law_low T.F__law_low.kp T.b__law_low .nil pass0 (pa_cons (pv 3) (pa_cons (pv 4) pa_nil))) pa_nil)))))
            (pss_one (ps_ret pe_bl))
            pss_nil)))
        (pss_cons (ps_par (i := 5) (j := 6) (by rfl) sc_law.nd rfl rfl (by decide) rfl rfl (pa_cons (pe_call (ok__law_fraction T) (hr.mono (by decide)) (by rfl) T.g__law_fraction T.F__law_fraction.kp T.b__law_fraction .nil pass0 (pa_cons (pv 1) pa_nil)) (pa_cons (pe_call (ok__law_fraction T) (hr.mono (by decide)) (by rfl) T.g__law_fraction T.F__law_fraction.kp T.b__law_fraction .nil pass0 (pa_cons (pv 1) pa_nil)) pa_nil)) (by rfl))
        (pss_cons (ps_if (PW.pt (pw_or (pt_not (pt_val (pe_call (ok__law_same T) (hr.mono (by decide)) (by rfl) T.g__law_same T.F__law_same.kp T.b__law_same .nil pass0 (pa_cons (pe_call (ok_plus T) (hr.mono (by decide)) (by rfl) T.g_plus T.F_plus.kp T.b_plus .nil pass0 (pa_cons (pv 5) (pa_cons (pv 6) pa_nil))) (pa_cons (pe_call (ok__law_plus T) (hr.mono (by decide)) (by rfl) T.g__law_plus T.F__law_plus.kp T.b__law_plus .nil pass0 (pa_cons (pv 5) (pa_cons (pv 6) pa_nil))) pa_nil))))) (pw_or1 (pt_not (pt_val (pe_call (ok__law_same T) (hr.mono (by decide)) (by rfl) T.g__law_same T.F__law_same.kp T.b__law_same .nil pass0 (pa_cons (pe_call (ok_times T) (hr.mono (by decide)) (by rfl) T.g_times T.F_times.kp T.b_times .nil pass0 (pa_cons (pv 5) (pa_cons (pv 6) pa_nil))) (pa_cons (pe_call (ok__law_times T) (hr.mono (by decide)) (by rfl) T.g__law_times T.F__law_times.kp T.b__law_times .nil pass0 (pa_cons (pv 5) (pa_cons (pv 6) pa_nil))) pa_nil))))))))
          (pss_one (ps_ret pe_bl))
          pss_nil)
        (pss_cons (ps_set (i := 7) sc_law.nd rfl (Or.inl rfl) (pe_tup (pa_cons (pe_op op_sub pe_int (pe_ix ix_tup (pv 6) pe_int (fun _ _ => rfl))) (pa_cons (pe_ix ix_tup (pv 6) pe_int (fun _ _ => rfl)) pa_nil))))
        (pss_cons (ps_if (pt_not (pt_val (pe_call (ok__law_same T) (hr.mono (by decide)) (by rfl) T.g__law_same T.F__law_same.kp T.b__law_same .nil pass0 (pa_cons (pe_call (ok_minus T) (hr.mono (by decide)) (by rfl) T.g_minus T.F_minus.kp T.b_minus .nil pass0 (pa_cons (pv 5) (pa_cons (pv 6) pa_nil))) (pa_cons (pe_call (ok__law_plus T) (hr.mono (by decide)) (by rfl) T.g__law_plus T.F__law_plus.kp T.b__law_plus .nil pass0 (pa_cons (pv 5) (pa_cons (pv 7) pa_nil))) pa_nil)))))
          (pss_one (ps_ret pe_bl))
          pss_nil)
        (pss_cut (ps_if (pt_cmpR op_eq (pe_ix ix_tup (pv 6) pe_int (fun _ _ => rfl)) pe_int (nomark _))
          (pss_one (ps_if (pt_not (pt_val (pe_call (ok__law_refused T) (hr.mono (by decide)) (by rfl) T.g__law_refused T.F__law_refused.kp T.b__law_refused .nil pass0 (pa_cons (pe_glob (v := .ref T.f_over) (by rfl) T.g_over rfl) (pa_cons (pv 5) (pa_cons (pv 6) pa_nil))))))
            (pss_one (ps_ret pe_bl))
            pss_nil))
          (pss_one (ps_if (pt_not (pt_val (pe_call (ok__law_same T) (hr.mono (by decide)) (by rfl) T.g__law_same T.F__law_same.kp T.b__law_same .nil pass0 (pa_cons (pe_call (ok_over T) (hr.mono (by decide)) (by rfl) T.g_over T.F_over.kp T.b_over .nil pass0 (pa_cons (pv 5) (pa_cons (pv 6) pa_nil))) (pa_cons (pe_call (ok__law_low T) (hr.mono (by decide)) (by rfl) T.g__law_low T.F__law_low.kp T.b__law_low .nil pass0 (pa_cons (pe_op op_mulW (pe_ix ix_tup (pv 5) pe_int (fun _ _ => rfl)) (pe_ix ix_tup (pv 6) pe_int (fun _ _ => rfl))) (pa_cons (pe_op op_mulW (pe_ix ix_tup (pv 5) pe_int (fun _ _ => rfl)) (pe_ix ix_tup (pv 6) pe_int (fun _ _ => rfl))) pa_nil))) pa_nil)))))
            (pss_one (ps_ret pe_bl))
            pss_nil)))
        (pss_cons (ps_if (PW.pt (pw_or (pt_cmpR op_ne (pe_call (ok_less T) (hr.mono (by decide)) (by rfl) T.g_less T.F_less.kp T.b_less .nil pass0 (pa_cons (pv 5) (pa_cons (pv 6) pa_nil))) (pe_call (ok__law_less T) (hr.mono (by decide)) (by rfl) T.g__law_less T.F__law_less.kp T.b__law_less .nil pass0 (pa_cons (pv 5) (pa_cons (pv 6) pa_nil))) (nomark _)) (pw_or1 (pt_val (pe_call (ok_less T) (hr.mono (by decide)) (by rfl) T.g_less T.F_less.kp T.b_less .nil pass0 (pa_cons (pv 5) (pa_cons (pv 5) pa_nil)))))))
          (pss_one (ps_ret pe_bl))
          pss_nil)
        (pss_cons (ps_setLc (i := 8) (own := [("_law_k", 14)]) (g := gName 14) rfl sc_law.nd rfl rfl (sw_true rfl rfl rfl (by decide +kernel)) (pi_range1 (by rfl) T.z_range (pa_cons (pe_call (ok__law_draw T) (hr.mono (by decide)) (by rfl) T.g__law_draw T.F__law_draw.kp T.b__law_draw .nil pass0 (pa_cons (pv 1) (pa_cons pe_int pa_nil))) pa_nil)) (blkOk_by (own := [("_law_k", 14)]) (N := nm_law) (sc := defScope s_law) (by decide +kernel)) (fun _ _ _ _ _ => pg_name (i := 14) sc_law.nd rfl (Or.inl rfl)) (fun _ _ _ _ _ => pts_nil) (fun _ _ _ _ _ => (pe_call (ok__law_fraction T) (hr.mono (by decide)) (by rfl) T.g__law_fraction T.F__law_fraction.kp T.b__law_fraction .nil pass0 (pa_cons (pv 1) pa_nil))))
        (pss_cons (ps_set (i := 9) sc_law.nd rfl (Or.inl rfl) (pe_tup (pa_cons pe_int (pa_cons pe_int pa_nil))))
        (pss_cons (ps_for PassesOwn.never rfl (pi_list (pv 8)) (pg_name (i := 10) sc_law.nd rfl (Or.inl rfl))
          (pss_one (ps_set (i := 9) sc_law.nd rfl (Or.inl rfl) (pe_call (ok__law_plus T) (hr.mono (by decide)) (by rfl) T.g__law_plus T.F__law_plus.kp T.b__law_plus .nil pass0 (pa_cons (pv 9) (pa_cons (pv 10) pa_nil))))))
        (pss_cons (ps_set (i := 11) sc_law.nd rfl (Or.inl rfl) (pe_callTy (T := "list") call_list_of (by rfl) T.z_list (by decide +kernel) (pa_cons (pv 8) pa_nil)))
        (pss_cons (ps_if (PW.pt (pw_or (pt_not (pt_val (pe_call (ok__law_same T) (hr.mono (by decide)) (by rfl) T.g__law_same T.F__law_same.kp T.b__law_same .nil pass0 (pa_cons (pe_call (ok_sum_of T) (hr.mono (by decide)) (by rfl) T.g_sum_of T.F_sum_of.kp T.b_sum_of .nil pass0 (pa_cons (pv 8) pa_nil)) (pa_cons (pv 9) pa_nil))))) (pw_or1 (pt_cmpR (op_neD hr.units) (pv 8) (pv 11) (nomark _)))))
          (pss_one (ps_ret pe_bl))
          pss_nil)
        (pss_cons (ps_set (i := 12) sc_law.nd rfl (Or.inl rfl) (pe_ix ix_list (pe_lst (pa_cons pe_int (pa_cons pe_int (pa_cons pe_int (pa_cons (pe_un un_neg pe_int) (pa_cons pe_int pa_nil)))))) (pe_call (ok__law_draw T) (hr.mono (by decide)) (by rfl) T.g__law_draw T.F__law_draw.kp T.b__law_draw .nil pass0 (pa_cons (pv 1) (pa_cons pe_int pa_nil))) (fun _ _ => rfl)))
        (pss_cons (ps_set (i := 13) sc_law.nd rfl (Or.inl rfl) (pe_tup (pa_cons (pe_op op_mulW (pe_ix ix_tup (pv 5) pe_int (fun _ _ => rfl)) (pv 12)) (pa_cons (pe_op op_mulW (pe_ix ix_tup (pv 5) pe_int (fun _ _ => rfl)) (pv 12)) pa_nil))))
        (pss_one (ps_if (pt_cmpR op_ne (pe_call (ok_is_fraction T) (hr.mono (by decide)) (by rfl) T.g_is_fraction T.F_is_fraction.kp T.b_is_fraction .nil pass0 (pa_cons (pv 13) pa_nil)) (pe_cmpR op_eq (pv 12) pe_int (nomark _)) (nomark _))
          (pss_one (ps_ret pe_bl))
          pss_nil))))))))))))))))))
      (pss_one (ps_ret (pe_and (pe_call (ok_is_fraction T) (hr.mono (by decide)) (by rfl) T.g_is_fraction T.F_is_fraction.kp T.b_is_fraction .nil pass0 (pa_cons (pe_tup (pa_cons pe_int (pa_cons pe_int pa_nil))) pa_nil)) (pe_and (pe_not (pe_call (ok_is_fraction T) (hr.mono (by decide)) (by rfl) T.g_is_fraction T.F_is_fraction.kp T.b_is_fraction .nil pass0 (pa_cons (pe_tup (pa_cons pe_int (pa_cons pe_int pa_nil))) pa_nil))) (pe_one (pe_not (pe_call (ok_is_fraction T) (hr.mono (by decide)) (by rfl) T.g_is_fraction T.F_is_fraction.kp T.b_is_fraction .nil pass0 (pa_cons (pe_tup (pa_cons pe_int (pa_cons pe_int pa_nil))) pa_nil)))))))))), ?_⟩
    refine ⟨_, rfl, a, ns, rfl, hS, fun k L H1 hL e1 d1 => ?_⟩
    have up : ∀ {r : Rat}, Sz 140 r → Sz LIM r := fun h => h.mono (by decide)
    refine ⟨_, rfl, by decide, by decide, for_it walk_range (fun i σ H' => ∃ a2 a3 a4 a5 a6 a7 a8 a9 a10 a11 a12 a13 a14, σ = [some (.ref a), some (.ref L), a2, a3, a4, a5, a6, a7, a8, a9, a10, a11, a12, a13, a14] ∧ Dk K H' L k)
      ⟨_, _, _, _, _, _, _, _, _, _, _, _, _, rfl, d1⟩ (fun _ _ _ _ _ => trivial) ?_ ?_⟩
    · rintro i v σ Ha Hb hi ⟨a2, a3, a4, a5, a6, a7, a8, a9, a10, a11, a12, a13, a14, rfl, da⟩ ⟨rfl, rfl⟩
      -- p, q
      refine ⟨_, rfl, k, L, rfl, da, fun p H2 pb e2 d2 => ⟨_, rfl, k, L, rfl, d2, fun qq H3 qb e3 d3 => ⟨_, _, rfl, ?_⟩⟩⟩
      refine ⟨fun σ' H' => σ' = [some (.ref a), some (.ref L), some (.int (0 + (i : Nat))), some (.int p), some (.int qq), a5, a6, a7, a8, a9, a10, a11, a12, a13, a14] ∧ Dk K H' L k, ?_, ?_⟩
      · refine ⟨_, rfl, rfl, _, rfl, ite_dec (fun hz => ?_) (fun hz => ?_)⟩
        · refine ⟨_, rfl, T.f_lowest, _, _, rfl, .inl ⟨rfl, p, rfl, rfl, pow_up pb (by decide)⟩, fun H4 e4 => ⟨_, rfl, iteF ⟨rfl, d3.same e4⟩⟩⟩
        · have hq : qq ≠ 0 := fun z => hz (congrArg V.int z)
          refine ⟨_, rfl, _, rfl, p, qq, rfl, hq, pow_up pb (by decide), pow_up qb (by decide), fun t H4 ht e4 h4 => ?_⟩
          refine ⟨_, rfl, _, rfl, p, qq, rfl, hq, pow_up pb (by decide), pow_up qb (by decide), fun u H5 hu e5 h5 => ?_⟩
          refine ⟨_, _, _, _, rfl, (Fr.of h4).same e5, Fr.of h5, fun H6 e6 => ?_⟩
          rw [decide_eq_true rfl]
          exact ⟨_, rfl, iteF ⟨rfl, ((d3.same e4).same e5).same e6⟩⟩
      · rintro σ' Hc ⟨rfl, dc⟩
        -- one, other
        refine ⟨_, rfl, k, L, rfl, dc, fun x H2 r hx e2 d2 h2 sx => ⟨_, rfl, k, L, rfl, d2, fun y H3 u hy e3 d3 h3 sy => ⟨_, _, rfl, ?_⟩⟩⟩
        have fx : Fr K H3 (.ref x) r := (Fr.of h2).dk d2 e3
        have fy : Fr K H3 (.ref y) u := Fr.of h3
        -- plus, times
        refine ⟨_, rfl, _, rfl, _, _, r, u, rfl, fx, fy, up sx, up sy, fun t H4 ht e4 h4 => ?_⟩
        refine ⟨_, rfl, _, rfl, _, _, r, u, rfl, fx.same e4, fy.same e4, up sx, up sy, fun t2 H5 ht2 e5 h5 => ?_⟩
        refine ⟨_, _, _, _, rfl, (Fr.of h4).same e5, Fr.of h5, fun H6 e6 => ?_⟩
        have e36 : Same H3 H6 := (e4.trans e5).trans e6
        refine ⟨_, rfl, ?_⟩
        rw [decide_eq_true rfl]
        refine iteF ?_
        refine ⟨_, rfl, _, rfl, _, _, r, u, rfl, fx.same e36, fy.same e36, up sx, up sy, fun t3 H7 ht3 e7 h7 => ?_⟩
        refine ⟨_, rfl, _, rfl, _, _, r, u, rfl, (fx.same e36).same e7, (fy.same e36).same e7, up sx, up sy, fun t4 H8 ht4 e8 h8 => ?_⟩
        refine ⟨_, _, _, _, rfl, (Fr.of h7).same e8, Fr.of h8, fun H9 e9 => ?_⟩
        have e39 : Same H3 H9 := ((e36.trans e7).trans e8).trans e9
        refine ⟨_, rfl, ?_⟩
        rw [decide_eq_true rfl]
        refine iteF ?_
        clear h4 h5 h7 h8 e4 e5 e6 e36 e7 e8 e9
        replace d3 := d3.same e39
        replace fx := fx.same e39
        replace fy := fy.same e39
        clear e39
        obtain ⟨y', ey', hyT⟩ := fy
        cases ey'
        -- back
        refine ⟨_, rfl, y, _, 0, _, rfl, rfl, hyT, rfl, _, _, rfl, rfl, _, rfl, y, _, 1, _, rfl, rfl, hyT, rfl, by show 2 ≤ sizeLine; decide, fun b hb => ?_⟩
        have eA := same_upd (o := .tup [V.int (0 - u.num), V.int (u.den : Int)]) hb
        have hA : upd H9 b (.tup [V.int (0 - u.num), V.int (u.den : Int)]) b = some (.tup [V.int (0 - u.num), V.int (u.den : Int)]) := upd_same
        generalize upd H9 b (.tup [V.int (0 - u.num), V.int (u.den : Int)]) = HA at eA hA ⊢
        have fb : Fr K HA (.ref b) (-u) := ⟨b, rfl, .inl (.inl (by rw [hA, Int.zero_sub]; rfl))⟩
        have fy : Fr K HA (.ref y) u := ⟨y, rfl, eA.tupq hyT⟩
        replace fx := fx.same eA
        replace d3 := d3.same eA
        refine ⟨_, rfl, _, rfl, _, _, r, u, rfl, fx, fy, up sx, up sy, fun t H4 ht e4 h4 => ?_⟩
        refine ⟨_, rfl, _, rfl, _, _, r, -u, rfl, fx.same e4, fb.same e4, up sx, up sy.neg, fun t2 H5 ht2 e5 h5 => ?_⟩
        refine ⟨_, _, _, _, rfl, (Fr.of h4).same e5, Fr.of h5, fun H6 e6 => ?_⟩
        refine ⟨_, rfl, ?_⟩
        rw [decide_eq_true (Rat.sub_eq_add_neg r u)]
        refine iteF ?_
        have e36 : Same HA H6 := (e4.trans e5).trans e6
        replace d3 := d3.same e36
        replace fx := fx.same e36
        replace fy := fy.same e36
        clear h4 h5 e4 e5 e6 e36 fb hA eA hyT
        refine ⟨fun σ' H' => σ' = [some (.ref a), some (.ref L), some (.int (0 + (i : Nat))), some (.int p), some (.int qq), some (.ref x), some (.ref y), some (.ref b), a8, a9, a10, a11, a12, a13, a14] ∧ Same H6 H', ?_, ?_⟩
        · obtain ⟨y', ey', hyT⟩ := id fy
          cases ey'
          obtain ⟨x', ex', hxT⟩ := id fx
          cases ex'
          refine ⟨_, rfl, y, _, 0, _, rfl, rfl, hyT, rfl, rfl, _, rfl, ite_dec (fun hz => ?_) (fun hz => ?_)⟩
          · have hu : u = 0 := Rat.num_eq_zero.mp (V.int.inj hz)
            subst hu
            refine ⟨_, rfl, _, rfl, T.f_over, _, _, rfl, .inr ⟨rfl, r, fx, fy, up sx⟩, fun H7 e7 => ⟨_, rfl, iteF ⟨rfl, e7⟩⟩⟩
          · have hu : u ≠ 0 := fun z => hz (by rw [z]; rfl)
            refine ⟨_, rfl, _, rfl, _, _, r, u, rfl, fx, fy, up sx, up sy, hu, fun t H7 ht e7 h7 => ?_⟩
            have hx7 := e7.tupq hxT
            have hy7 := e7.tupq hyT
            refine ⟨_, rfl, x, _, 0, _, rfl, rfl, hx7, rfl, _, rfl, y, _, 1, _, rfl, rfl, hy7, rfl, _, _, rfl, rfl, mulFF (up sx) (up sy), _, rfl, x, _, 1, _, rfl, rfl, hx7, rfl, _, rfl, y, _, 0, _, rfl, rfl, hy7, rfl, _, _, rfl, rfl, mulDN (up sx) (up sy), ?_⟩
            refine ⟨_, _, rfl, Int.mul_ne_zero (den_ne r) (num_ne hu), pow_up (abs_mul_lt sx.1 sy.d) (by decide), pow_up (abs_mul_lt sx.d sy.1) (by decide), fun t2 H8 ht2 e8 h8 => ?_⟩
            rw [div_divInt] at h8
            refine ⟨_, _, _, _, rfl, (Fr.of h7).same e8, Fr.of h8, fun H9 e9 => ⟨_, rfl, ?_⟩⟩
            rw [decide_eq_true rfl]
            exact iteF ⟨rfl, (e7.trans e8).trans e9⟩
        · rintro σ' H7 ⟨rfl, e7⟩
          replace d3 := d3.same e7
          replace fx := fx.same e7
          replace fy := fy.same e7
          -- less
          refine ⟨_, rfl, _, rfl, _, _, r, u, rfl, fx, fy, up sx, up sy, _, rfl, _, rfl, _, _, r, u, rfl, fx, fy, up sx, up sy, rfl, _, rfl, ?_⟩
          rw [decide_eq_true rfl]
          refine iteF ?_
          refine ⟨_, rfl, _, rfl, _, _, r, r, rfl, fx, fx, up sx, up sx, _, rfl, ?_⟩
          rw [decide_eq_false (Rat.lt_irrefl)]
          refine iteF ?_
          -- rows
          refine ⟨_, rfl, k, L, 6, rfl, by decide, by decide, d3, fun n H8 n0 n6 e8 d8 => ⟨_, rfl, by omega, by omega, fun D hDn => ?_⟩⟩
          have fx8 := fx.dk d3 e8
          have nDL : D ≠ L := d8.ne hDn
          refine lc_it walk_range (fun i H' => Ex [L] H8 H' ∧ Dk K H' L k ∧ ∃ xs rs, H' D = some (.lst xs) ∧ FrL K H' xs rs ∧ xs.length = i ∧ ∀ r ∈ rs, Sz 140 r)
            ⟨Ex.of (same_upd hDn), d8.same (same_upd hDn), [], [], upd_same, .nil, rfl, fun w hw => by simp at hw⟩ (fun _ _ _ _ => trivial) ?_ ?_
          · rintro j z Hc Hd hj ⟨ec, dc, xs, rs, hw, hf, hl, hz⟩ ⟨rfl, rfl⟩
            refine ⟨rfl, w_yes ?_⟩
            refine ⟨_, rfl, k, L, rfl, dc, fun t He rt ht ee de he st => ?_⟩
            have hwe := ee.at (nin nDL) hw
            have sm : Ex [D] He (upd He D (.lst (xs ++ [V.ref t]))) := ex_put
            refine ⟨_, hwe, by exact small1000 (by omega), Ex.mut (ec.trans ee) (.inl hDn), de.upd d8 hDn (ec.trans ee), _, rs ++ [rt], upd_same, FrL.snoc ((Fr.of he).stay hwe sm) ((hf.dk dc ee).stay hwe sm), by simp [hl], fun w hw' => ?_⟩
            rcases List.mem_append.mp hw' with h | h
            · exact hz w h
            · rw [List.mem_singleton] at h
              subst h
              exact st
          · rintro Hc ⟨ec, dc, xs, rs, hw, hf, hl, hz⟩
            have fxc := fx8.dk d8 ec
            have hl5 : rs.length ≤ 5 := by rw [← hf.len]; omega
            -- due
            refine ⟨by show 2 ≤ sizeLine; decide, fun t ht => ?_⟩
            have ed := same_upd (o := .tup [V.int 0, V.int 1]) ht
            have hd : upd Hc t (.tup [V.int 0, V.int 1]) t = some (.tup [V.int 0, V.int 1]) := upd_same
            generalize upd Hc t (.tup [V.int 0, V.int 1]) = Hd at ed hd ⊢
            have hwd := ed _ _ hw
            have hfd := hf.same ed
            have LL : rs.length * (140 + 1) + 1 ≤ LIM := by show rs.length * 141 + 1 ≤ 980; omega
            refine ⟨_, rfl, D, rfl, ⟨_, SqL.of hwd⟩, for_it walk_list (fun j σ H' => ∃ v z, σ = [some (.ref a), some (.ref L), some (.int (0 + (i : Nat))), some (.int p), some (.int qq), some (.ref x), some (.ref y), some (.ref b), some (.ref D), some v, z, a11, a12, a13, a14] ∧ Same Hd H' ∧ Fr K H' v (rsum (rs.take j)))
              ⟨_, _, rfl, Same.refl Hd, ⟨t, rfl, SqT.of hd⟩⟩ (fun _ _ _ _ ⟨_, _, _, e, _⟩ => e.seq (SqL.of hwd)) ?_ ?_⟩
            · rintro j z σ He Hf hj ⟨v, z2, rfl, ee, fv⟩ ⟨rfl, hz2⟩
              obtain ⟨rr, hr1, hr2⟩ := hfd.get hz2
              have hj' : j < rs.length := (List.getElem?_eq_some_iff.mp hr1).1
              have hb : j * (140 + 1) ≤ rs.length * (140 + 1) := Nat.mul_le_mul_right _ (by omega)
              refine ⟨_, rfl, _, rfl, _, _, _, _, rfl, fv, hr2.same ee, (sz_rsum hz j (by omega)).mono (by omega), (hz rr (List.mem_of_getElem? hr1)).mono (by decide), fun t3 H9 ht3 e9 h9 => ⟨_, _, rfl, ee.trans e9, ?_⟩⟩
              rw [rsum_take hr1]
              exact Fr.of h9
            · rintro σ He ⟨v, z2, rfl, ee, fv⟩
              rw [hfd.len, List.take_length] at fv
              have hwe := ee _ _ hwd
              have hfe := hfd.same ee
              -- kept
              refine ⟨_, rfl, D, _, rfl, .inl (SqL.of hwe), fun g hg => ?_⟩
              have eg := same_upd (o := .lst xs) hg
              have hgg : upd He g (.lst xs) g = some (.lst xs) := upd_same
              generalize upd He g (.lst xs) = Hg at eg hgg ⊢
              refine ⟨_, rfl, D, xs, rs, 140, rfl, SqL.of (eg _ _ hwe), hfe.same eg, hz, by decide, LL, fun w Hh eh fw => ?_⟩
              refine ⟨_, rfl, _, _, _, _, rfl, fw, (fv.same eg).same eh, fun Hi ei => ⟨_, rfl, ?_⟩⟩
              rw [decide_eq_true rfl]
              refine iteF ?_
              have ege : Same He Hi := (eg.trans eh).trans ei
              refine ⟨_, rfl, _, rfl, .list (rs.map frD), .list (rs.map frD), .lst (SqL.of (ege _ _ hwe)) (dp_frs (hfe.same ege)), .lst (SqL.of (ei _ _ (eh _ _ hgg))) (dp_frs (hfe.same ege)), shaped_frs rs, shaped_frs rs, _, rfl, ?_⟩
              rw [eqv_self (shaped_frs rs)]
              refine iteF ?_
              -- scale
              have dI : Dk K Hi L k := ((dc.same ed).same ee).same ege
              have fxi : Fr K Hi (.ref x) r := ((fxc.same ed).same ee).same ege
              refine ⟨_, rfl, by show 5 ≤ sizeLine; decide, fun m hm => ?_⟩
              have ej := same_upd (o := .lst [V.int 1, V.int 1, V.int 2, V.int (-1), V.int 0]) hm
              have hmj : upd Hi m (.lst [V.int 1, V.int 1, V.int 2, V.int (-1), V.int 0]) m = some (.lst [V.int 1, V.int 1, V.int 2, V.int (-1), V.int 0]) := upd_same
              generalize upd Hi m (.lst [V.int 1, V.int 1, V.int 2, V.int (-1), V.int 0]) = Hj at ej hmj ⊢
              refine ⟨_, rfl, k, L, 5, rfl, by decide, by decide, dI.same ej, fun c Hk c0 c5 ek dk => ?_⟩
              obtain ⟨sc, hsc, hs1⟩ : ∃ sc : Int, atI [V.int 1, V.int 1, V.int 2, V.int (-1), V.int 0] c = some (.int sc) ∧ (sc = 1 ∨ sc = 2 ∨ sc = -1 ∨ sc = 0) := by
                have : c = 0 ∨ c = 1 ∨ c = 2 ∨ c = 3 ∨ c = 4 := by omega
                rcases this with rfl | rfl | rfl | rfl | rfl
                · exact ⟨_, rfl, by decide⟩
                · exact ⟨_, rfl, by decide⟩
                · exact ⟨_, rfl, by decide⟩
                · exact ⟨_, rfl, by decide⟩
                · exact ⟨_, rfl, by decide⟩
              have sb : sc.natAbs < 2 ^ 2 := by rcases hs1 with rfl | rfl | rfl | rfl <;> decide
              refine ⟨m, _, c, .int sc, rfl, rfl, SqL.of (ek.at (nin (dI.ne hm)) hmj), hsc, ?_⟩
              obtain ⟨x', ex', hxT⟩ := (fxi.same ej).dk (dI.same ej) ek
              cases ex'
              refine ⟨_, rfl, x, _, 0, _, rfl, rfl, hxT, rfl, _, rfl, _, _, rfl, rfl, mulOk sx.1 sb (by decide) (by decide) (by decide), _, rfl, x, _, 1, _, rfl, rfl, hxT, rfl, _, rfl, _, _, rfl, rfl, mulOk sx.d sb (by decide) (by decide) (by decide), by show 2 ≤ sizeLine; decide, fun o ho => ?_⟩
              have el := same_upd (o := .tup [V.int (r.num * sc), V.int ((r.den : Int) * sc)]) ho
              have hol : upd Hk o (.tup [V.int (r.num * sc), V.int ((r.den : Int) * sc)]) o = some (.tup [V.int (r.num * sc), V.int ((r.den : Int) * sc)]) := upd_same
              generalize upd Hk o (.tup [V.int (r.num * sc), V.int ((r.den : Int) * sc)]) = Hl at el hol ⊢
              refine ⟨_, rfl, o, _, _, rfl, SqT.of hol, _, rfl, rfl, rfl, _, rfl, ?_⟩
              rw [isFr_scale r hs1]
              rw [show decide (V.bl (decide (sc = 1)) = V.bl (decide (V.int sc = V.int 1))) = true from decide_eq_true (congrArg V.bl (by
                by_cases h : sc = 1
                · rw [decide_eq_true h, decide_eq_true (congrArg V.int h)]
                · rw [decide_eq_false h, decide_eq_false fun z => h (V.int.inj z)]))]
              refine iteF ⟨_, _, _, _, _, _, _, _, _, _, _, _, _, rfl, dk.same el⟩
    · rintro σ Ha ⟨a2, a3, a4, a5, a6, a7, a8, a9, a10, a11, a12, a13, a14, rfl, da⟩
      refine ⟨by show 2 ≤ sizeLine; decide, fun t ht => ?_⟩
      refine ⟨t, 0, 1, rfl, SqT.of upd_same, _, rfl, iteT ?_⟩
      refine ⟨by show 2 ≤ sizeLine; decide, fun t2 ht2 => ?_⟩
      refine ⟨t2, 0, 2, rfl, SqT.of upd_same, _, rfl, _, rfl, iteT ?_⟩
      refine ⟨by show 2 ≤ sizeLine; decide, fun t3 ht3 => ?_⟩
      exact ⟨t3, 3, 0, rfl, SqT.of upd_same, _, rfl, q _⟩
end
theorem all_mk {l : PySem.W.OpenLaw} {w : World} {K : PySem.W.Frag} {h : Heap} {mg : Str → Option Value} {fa a_SamphireError a_ZeroDenominator f_is_fraction f_lowest f_plus f_minus f_times f_over f_less f_sum_of f__law_deck f__law_draw f__law_low f__law_plus f__law_times f__law_less f__law_number f__law_same f__law_refused f__law_fraction f_law a_NOTHING : Addr} (X : K.In h) (G : h.Ns mainGlobals mg) (hfa : mg "law" = some (.ref fa))
    {odis_fraction anis_fraction : Option Addr} {slis_fraction : Array (Option Value)} {ocis_fraction kVis_fraction dcis_fraction pmis_fraction cdis_fraction ctis_fraction : Value}
    {odlowest anlowest : Option Addr} {sllowest : Array (Option Value)} {oclowest kVlowest dclowest pmlowest cdlowest ctlowest : Value}
    {odplus anplus : Option Addr} {slplus : Array (Option Value)} {ocplus kVplus dcplus pmplus cdplus ctplus : Value}
    {odminus anminus : Option Addr} {slminus : Array (Option Value)} {ocminus kVminus dcminus pmminus cdminus ctminus : Value}
    {odtimes antimes : Option Addr} {sltimes : Array (Option Value)} {octimes kVtimes dctimes pmtimes cdtimes cttimes : Value}
    {odover anover : Option Addr} {slover : Array (Option Value)} {ocover kVover dcover pmover cdover ctover : Value}
    {odless anless : Option Addr} {slless : Array (Option Value)} {ocless kVless dcless pmless cdless ctless : Value}
    {odsum_of ansum_of : Option Addr} {slsum_of : Array (Option Value)} {ocsum_of kVsum_of dcsum_of pmsum_of cdsum_of ctsum_of : Value}
    {od_law_deck an_law_deck : Option Addr} {sl_law_deck : Array (Option Value)} {oc_law_deck kV_law_deck dc_law_deck pm_law_deck cd_law_deck ct_law_deck : Value}
    {od_law_draw an_law_draw : Option Addr} {sl_law_draw : Array (Option Value)} {oc_law_draw kV_law_draw dc_law_draw pm_law_draw cd_law_draw ct_law_draw : Value}
    {od_law_low an_law_low : Option Addr} {sl_law_low : Array (Option Value)} {oc_law_low kV_law_low dc_law_low pm_law_low cd_law_low ct_law_low : Value}
    {od_law_plus an_law_plus : Option Addr} {sl_law_plus : Array (Option Value)} {oc_law_plus kV_law_plus dc_law_plus pm_law_plus cd_law_plus ct_law_plus : Value}
    {od_law_times an_law_times : Option Addr} {sl_law_times : Array (Option Value)} {oc_law_times kV_law_times dc_law_times pm_law_times cd_law_times ct_law_times : Value}
    {od_law_less an_law_less : Option Addr} {sl_law_less : Array (Option Value)} {oc_law_less kV_law_less dc_law_less pm_law_less cd_law_less ct_law_less : Value}
    {od_law_number an_law_number : Option Addr} {sl_law_number : Array (Option Value)} {oc_law_number kV_law_number dc_law_number pm_law_number cd_law_number ct_law_number : Value}
    {od_law_same an_law_same : Option Addr} {sl_law_same : Array (Option Value)} {oc_law_same kV_law_same dc_law_same pm_law_same cd_law_same ct_law_same : Value}
    {od_law_refused an_law_refused : Option Addr} {sl_law_refused : Array (Option Value)} {oc_law_refused kV_law_refused dc_law_refused pm_law_refused cd_law_refused ct_law_refused : Value}
    {od_law_fraction an_law_fraction : Option Addr} {sl_law_fraction : Array (Option Value)} {oc_law_fraction kV_law_fraction dc_law_fraction pm_law_fraction cd_law_fraction ct_law_fraction : Value}
    {odlaw anlaw : Option Addr} {sllaw : Array (Option Value)} {oclaw kVlaw dclaw pmlaw cdlaw ctlaw : Value}
    {odNOTHING : Option Addr} {slNOTHING : Array (Option Value)} {nNOTHING : Nat} {tNOTHING0 tNOTHING1 : Tok}
    (hSamphireError : PySem.W.nsIn K mainGlobals "SamphireError" = some (some (.ref a_SamphireError)))
    (kpSamphireError : PySem.W.keepIn K (.ref a_SamphireError) = true)
    (sbSamphireError : PySem.W.subIn K (.ref a_SamphireError) (.type "BaseException") = some true)
    (tySamphireError : PySem.W.typeIn K (.ref a_SamphireError) = some (.type "type"))
    (hdSamphireError : PySem.W.hasDictIn K a_SamphireError = true)
    (suSamphireError : PySem.W.subIn K (.ref a_SamphireError) (.ref a_SamphireError) = some true)
    (hZeroDenominator : PySem.W.nsIn K mainGlobals "ZeroDenominator" = some (some (.ref a_ZeroDenominator)))
    (kpZeroDenominator : PySem.W.keepIn K (.ref a_ZeroDenominator) = true)
    (sbZeroDenominator : PySem.W.subIn K (.ref a_ZeroDenominator) (.type "BaseException") = some true)
    (tyZeroDenominator : PySem.W.typeIn K (.ref a_ZeroDenominator) = some (.type "type"))
    (hdZeroDenominator : PySem.W.hasDictIn K a_ZeroDenominator = true)
    (suZeroDenominator : PySem.W.subIn K (.ref a_ZeroDenominator) (.ref a_ZeroDenominator) = some true)
    (xZeroDenominator : PySem.W.excIn K a_ZeroDenominator [.type "ValueError", .type "Exception", .type "BaseException", .type "object"] "ValueError.__new__" = true)
    (egZeroDenominator : PySem.W.findIn K (.ref a_ZeroDenominator) "__getattribute__" = some (some (.builtin "BaseException.__getattribute__")))
    (ekZeroDenominator : PySem.W.findIn K (.ref a_ZeroDenominator) "__getattr__" = some none)
    (eaZeroDenominator : PySem.W.findIn K (.ref a_ZeroDenominator) "__class__" = some (some (.builtin "object.__class__")))
    (enZeroDenominator : PySem.W.specialIn K (.builtin "object.__class__") "__get__" = some (some (.builtin "getset_descriptor.__get__")))
    (etZeroDenominator : PySem.W.takesIn K (.builtin "object.__class__") = some true)
    (emZeroDenominator : PySem.W.mroIn K a_ZeroDenominator (.type "object") = some true)
    (ofZeroDenominatorSamphireError : PySem.W.subIn K (.ref a_ZeroDenominator) (.ref a_SamphireError) = some true)
    (ais_fraction : PySem.W.nsIn K mainGlobals "is_fraction" = some (some (.ref f_is_fraction)))
    (lis_fraction : K.lookup f_is_fraction = some ⟨ocis_fraction, odis_fraction, .func (PySem.W.fnOf "is_fraction" "is_fraction" (defArgs s_is_fraction) (defBody s_is_fraction) (defScope s_is_fraction) .none kVis_fraction dcis_fraction pmis_fraction anis_fraction cdis_fraction ctis_fraction), slis_fraction⟩)
    (cis_fraction : PySem.W.codeIn K cdis_fraction "is_fraction" = true)
    (kis_fraction : PySem.W.keepIn K (.ref f_is_fraction) = true)
    (alowest : PySem.W.nsIn K mainGlobals "lowest" = some (some (.ref f_lowest)))
    (llowest : K.lookup f_lowest = some ⟨oclowest, odlowest, .func (PySem.W.fnOf "lowest" "lowest" (defArgs s_lowest) (defBody s_lowest) (defScope s_lowest) .none kVlowest dclowest pmlowest anlowest cdlowest ctlowest), sllowest⟩)
    (clowest : PySem.W.codeIn K cdlowest "lowest" = true)
    (klowest : PySem.W.keepIn K (.ref f_lowest) = true)
    (aplus : PySem.W.nsIn K mainGlobals "plus" = some (some (.ref f_plus)))
    (lplus : K.lookup f_plus = some ⟨ocplus, odplus, .func (PySem.W.fnOf "plus" "plus" (defArgs s_plus) (defBody s_plus) (defScope s_plus) .none kVplus dcplus pmplus anplus cdplus ctplus), slplus⟩)
    (cplus : PySem.W.codeIn K cdplus "plus" = true)
    (kplus : PySem.W.keepIn K (.ref f_plus) = true)
    (aminus : PySem.W.nsIn K mainGlobals "minus" = some (some (.ref f_minus)))
    (lminus : K.lookup f_minus = some ⟨ocminus, odminus, .func (PySem.W.fnOf "minus" "minus" (defArgs s_minus) (defBody s_minus) (defScope s_minus) .none kVminus dcminus pmminus anminus cdminus ctminus), slminus⟩)
    (cminus : PySem.W.codeIn K cdminus "minus" = true)
    (kminus : PySem.W.keepIn K (.ref f_minus) = true)
    (atimes : PySem.W.nsIn K mainGlobals "times" = some (some (.ref f_times)))
    (ltimes : K.lookup f_times = some ⟨octimes, odtimes, .func (PySem.W.fnOf "times" "times" (defArgs s_times) (defBody s_times) (defScope s_times) .none kVtimes dctimes pmtimes antimes cdtimes cttimes), sltimes⟩)
    (ctimes : PySem.W.codeIn K cdtimes "times" = true)
    (ktimes : PySem.W.keepIn K (.ref f_times) = true)
    (aover : PySem.W.nsIn K mainGlobals "over" = some (some (.ref f_over)))
    (lover : K.lookup f_over = some ⟨ocover, odover, .func (PySem.W.fnOf "over" "over" (defArgs s_over) (defBody s_over) (defScope s_over) .none kVover dcover pmover anover cdover ctover), slover⟩)
    (cover : PySem.W.codeIn K cdover "over" = true)
    (kover : PySem.W.keepIn K (.ref f_over) = true)
    (aless : PySem.W.nsIn K mainGlobals "less" = some (some (.ref f_less)))
    (lless : K.lookup f_less = some ⟨ocless, odless, .func (PySem.W.fnOf "less" "less" (defArgs s_less) (defBody s_less) (defScope s_less) .none kVless dcless pmless anless cdless ctless), slless⟩)
    (cless : PySem.W.codeIn K cdless "less" = true)
    (kless : PySem.W.keepIn K (.ref f_less) = true)
    (asum_of : PySem.W.nsIn K mainGlobals "sum_of" = some (some (.ref f_sum_of)))
    (lsum_of : K.lookup f_sum_of = some ⟨ocsum_of, odsum_of, .func (PySem.W.fnOf "sum_of" "sum_of" (defArgs s_sum_of) (defBody s_sum_of) (defScope s_sum_of) .none kVsum_of dcsum_of pmsum_of ansum_of cdsum_of ctsum_of), slsum_of⟩)
    (csum_of : PySem.W.codeIn K cdsum_of "sum_of" = true)
    (ksum_of : PySem.W.keepIn K (.ref f_sum_of) = true)
    (a_law_deck : PySem.W.nsIn K mainGlobals "_law_deck" = some (some (.ref f__law_deck)))
    (l_law_deck : K.lookup f__law_deck = some ⟨oc_law_deck, od_law_deck, .func (PySem.W.fnOf "_law_deck" "_law_deck" (defArgs s__law_deck) (defBody s__law_deck) (defScope s__law_deck) .none kV_law_deck dc_law_deck pm_law_deck an_law_deck cd_law_deck ct_law_deck), sl_law_deck⟩)
    (c_law_deck : PySem.W.codeIn K cd_law_deck "_law_deck" = true)
    (k_law_deck : PySem.W.keepIn K (.ref f__law_deck) = true)
    (a_law_draw : PySem.W.nsIn K mainGlobals "_law_draw" = some (some (.ref f__law_draw)))
    (l_law_draw : K.lookup f__law_draw = some ⟨oc_law_draw, od_law_draw, .func (PySem.W.fnOf "_law_draw" "_law_draw" (defArgs s__law_draw) (defBody s__law_draw) (defScope s__law_draw) .none kV_law_draw dc_law_draw pm_law_draw an_law_draw cd_law_draw ct_law_draw), sl_law_draw⟩)
    (c_law_draw : PySem.W.codeIn K cd_law_draw "_law_draw" = true)
    (k_law_draw : PySem.W.keepIn K (.ref f__law_draw) = true)
    (a_law_low : PySem.W.nsIn K mainGlobals "_law_low" = some (some (.ref f__law_low)))
    (l_law_low : K.lookup f__law_low = some ⟨oc_law_low, od_law_low, .func (PySem.W.fnOf "_law_low" "_law_low" (defArgs s__law_low) (defBody s__law_low) (defScope s__law_low) .none kV_law_low dc_law_low pm_law_low an_law_low cd_law_low ct_law_low), sl_law_low⟩)
    (c_law_low : PySem.W.codeIn K cd_law_low "_law_low" = true)
    (k_law_low : PySem.W.keepIn K (.ref f__law_low) = true)
    (a_law_plus : PySem.W.nsIn K mainGlobals "_law_plus" = some (some (.ref f__law_plus)))
    (l_law_plus : K.lookup f__law_plus = some ⟨oc_law_plus, od_law_plus, .func (PySem.W.fnOf "_law_plus" "_law_plus" (defArgs s__law_plus) (defBody s__law_plus) (defScope s__law_plus) .none kV_law_plus dc_law_plus pm_law_plus an_law_plus cd_law_plus ct_law_plus), sl_law_plus⟩)
    (c_law_plus : PySem.W.codeIn K cd_law_plus "_law_plus" = true)
    (k_law_plus : PySem.W.keepIn K (.ref f__law_plus) = true)
    (a_law_times : PySem.W.nsIn K mainGlobals "_law_times" = some (some (.ref f__law_times)))
    (l_law_times : K.lookup f__law_times = some ⟨oc_law_times, od_law_times, .func (PySem.W.fnOf "_law_times" "_law_times" (defArgs s__law_times) (defBody s__law_times) (defScope s__law_times) .none kV_law_times dc_law_times pm_law_times an_law_times cd_law_times ct_law_times), sl_law_times⟩)
    (c_law_times : PySem.W.codeIn K cd_law_times "_law_times" = true)
    (k_law_times : PySem.W.keepIn K (.ref f__law_times) = true)
    (a_law_less : PySem.W.nsIn K mainGlobals "_law_less" = some (some (.ref f__law_less)))
    (l_law_less : K.lookup f__law_less = some ⟨oc_law_less, od_law_less, .func (PySem.W.fnOf "_law_less" "_law_less" (defArgs s__law_less) (defBody s__law_less) (defScope s__law_less) .none kV_law_less dc_law_less pm_law_less an_law_less cd_law_less ct_law_less), sl_law_less⟩)
    (c_law_less : PySem.W.codeIn K cd_law_less "_law_less" = true)
    (k_law_less : PySem.W.keepIn K (.ref f__law_less) = true)
    (a_law_number : PySem.W.nsIn K mainGlobals "_law_number" = some (some (.ref f__law_number)))
    (l_law_number : K.lookup f__law_number = some ⟨oc_law_number, od_law_number, .func (PySem.W.fnOf "_law_number" "_law_number" (defArgs s__law_number) (defBody s__law_number) (defScope s__law_number) .none kV_law_number dc_law_number pm_law_number an_law_number cd_law_number ct_law_number), sl_law_number⟩)
    (c_law_number : PySem.W.codeIn K cd_law_number "_law_number" = true)
    (k_law_number : PySem.W.keepIn K (.ref f__law_number) = true)
    (a_law_same : PySem.W.nsIn K mainGlobals "_law_same" = some (some (.ref f__law_same)))
    (l_law_same : K.lookup f__law_same = some ⟨oc_law_same, od_law_same, .func (PySem.W.fnOf "_law_same" "_law_same" (defArgs s__law_same) (defBody s__law_same) (defScope s__law_same) .none kV_law_same dc_law_same pm_law_same an_law_same cd_law_same ct_law_same), sl_law_same⟩)
    (c_law_same : PySem.W.codeIn K cd_law_same "_law_same" = true)
    (k_law_same : PySem.W.keepIn K (.ref f__law_same) = true)
    (a_law_refused : PySem.W.nsIn K mainGlobals "_law_refused" = some (some (.ref f__law_refused)))
    (l_law_refused : K.lookup f__law_refused = some ⟨oc_law_refused, od_law_refused, .func (PySem.W.fnOf "_law_refused" "_law_refused" (defArgs s__law_refused) (defBody s__law_refused) (defScope s__law_refused) .none kV_law_refused dc_law_refused pm_law_refused an_law_refused cd_law_refused ct_law_refused), sl_law_refused⟩)
    (c_law_refused : PySem.W.codeIn K cd_law_refused "_law_refused" = true)
    (k_law_refused : PySem.W.keepIn K (.ref f__law_refused) = true)
    (a_law_fraction : PySem.W.nsIn K mainGlobals "_law_fraction" = some (some (.ref f__law_fraction)))
    (l_law_fraction : K.lookup f__law_fraction = some ⟨oc_law_fraction, od_law_fraction, .func (PySem.W.fnOf "_law_fraction" "_law_fraction" (defArgs s__law_fraction) (defBody s__law_fraction) (defScope s__law_fraction) .none kV_law_fraction dc_law_fraction pm_law_fraction an_law_fraction cd_law_fraction ct_law_fraction), sl_law_fraction⟩)
    (c_law_fraction : PySem.W.codeIn K cd_law_fraction "_law_fraction" = true)
    (k_law_fraction : PySem.W.keepIn K (.ref f__law_fraction) = true)
    (alaw : PySem.W.nsIn K mainGlobals "law" = some (some (.ref f_law)))
    (llaw : K.lookup f_law = some ⟨oclaw, odlaw, .func (PySem.W.fnOf "law" "law" (defArgs s_law) (defBody s_law) (defScope s_law) .none kVlaw dclaw pmlaw anlaw cdlaw ctlaw), sllaw⟩)
    (claw : PySem.W.codeIn K cdlaw "law" = true)
    (klaw : PySem.W.keepIn K (.ref f_law) = true)
    (hNOTHING : PySem.W.nsIn K mainGlobals "NOTHING" = some (some (.ref a_NOTHING)))
    (lNOTHING : K.lookup a_NOTHING = some ⟨.type "tuple", odNOTHING, .seq (List.toArray [.int (0) tNOTHING0, .int (1) tNOTHING1]) nNOTHING, slNOTHING⟩)
    (zabs : PySem.W.nsIn K mainGlobals "abs" = some none)
    (zall : PySem.W.nsIn K mainGlobals "all" = some none)
    (zbool : PySem.W.nsIn K mainGlobals "bool" = some none)
    (zint : PySem.W.nsIn K mainGlobals "int" = some none)
    (zisinstance : PySem.W.nsIn K mainGlobals "isinstance" = some none)
    (zlen : PySem.W.nsIn K mainGlobals "len" = some none)
    (zlist : PySem.W.nsIn K mainGlobals "list" = some none)
    (zrange : PySem.W.nsIn K mainGlobals "range" = some none)
    (ztuple : PySem.W.nsIn K mainGlobals "tuple" = some none)
    (hgcd : PySem.W.nsIn K mainGlobals "gcd" = some (some (.builtin "math.gcd")))
    : ∃ fd : FuncData, (∀ (s : Shared) (v : Value), BindsTo s fd ⟨[v], []⟩ [("_law_script", v)]) ∧ ∀ base : Heap, K.In base → base.Ns mainGlobals mg → FnOk l.prog w K mg base CX0 6 fa fd ["_law_script"] (sp_law K) := by
  have e := hfa.symm.trans (PySem.W.mg_of X G alaw)
  cases e
  let T : Txt K mg := {
    a_SamphireError := a_SamphireError
    g_SamphireError := PySem.W.mg_of X G hSamphireError
    kp_SamphireError := kpSamphireError
    sb_SamphireError := sbSamphireError
    ty_SamphireError := tySamphireError
    te_SamphireError := PySem.W.exm_ref sbSamphireError hdSamphireError tySamphireError suSamphireError
    a_ZeroDenominator := a_ZeroDenominator
    g_ZeroDenominator := PySem.W.mg_of X G hZeroDenominator
    kp_ZeroDenominator := kpZeroDenominator
    sb_ZeroDenominator := sbZeroDenominator
    ty_ZeroDenominator := tyZeroDenominator
    te_ZeroDenominator := PySem.W.exm_ref sbZeroDenominator hdZeroDenominator tyZeroDenominator suZeroDenominator
    x_ZeroDenominator := xZeroDenominator
    ec_ZeroDenominator := ⟨egZeroDenominator, ekZeroDenominator, sbZeroDenominator, hdZeroDenominator, eaZeroDenominator, enZeroDenominator, etZeroDenominator, emZeroDenominator⟩
    of_ZeroDenominator_SamphireError := kit_sub hdSamphireError tySamphireError ofZeroDenominatorSamphireError
    g_is_fraction := PySem.W.mg_of X G ais_fraction
    f_is_fraction := f_is_fraction
    fd_is_fraction := _
    F_is_fraction := fun_mk (st := s_is_fraction) lis_fraction cis_fraction kis_fraction
    b_is_fraction := (fun_mk (st := s_is_fraction) lis_fraction cis_fraction kis_fraction).binds (ps := ["pair"]) fun _ _ _ _ _ _ us hl => match us, hl with | [_], _ => rfl
    g_lowest := PySem.W.mg_of X G alowest
    f_lowest := f_lowest
    fd_lowest := _
    F_lowest := fun_mk (st := s_lowest) llowest clowest klowest
    b_lowest := (fun_mk (st := s_lowest) llowest clowest klowest).binds (ps := ["p", "q"]) fun _ _ _ _ _ _ us hl => match us, hl with | [_, _], _ => rfl
    g_plus := PySem.W.mg_of X G aplus
    f_plus := f_plus
    fd_plus := _
    F_plus := fun_mk (st := s_plus) lplus cplus kplus
    b_plus := (fun_mk (st := s_plus) lplus cplus kplus).binds (ps := ["a", "b"]) fun _ _ _ _ _ _ us hl => match us, hl with | [_, _], _ => rfl
    g_minus := PySem.W.mg_of X G aminus
    f_minus := f_minus
    fd_minus := _
    F_minus := fun_mk (st := s_minus) lminus cminus kminus
    b_minus := (fun_mk (st := s_minus) lminus cminus kminus).binds (ps := ["a", "b"]) fun _ _ _ _ _ _ us hl => match us, hl with | [_, _], _ => rfl
    g_times := PySem.W.mg_of X G atimes
    f_times := f_times
    fd_times := _
    F_times := fun_mk (st := s_times) ltimes ctimes ktimes
    b_times := (fun_mk (st := s_times) ltimes ctimes ktimes).binds (ps := ["a", "b"]) fun _ _ _ _ _ _ us hl => match us, hl with | [_, _], _ => rfl
    g_over := PySem.W.mg_of X G aover
    f_over := f_over
    fd_over := _
    F_over := fun_mk (st := s_over) lover cover kover
    b_over := (fun_mk (st := s_over) lover cover kover).binds (ps := ["a", "b"]) fun _ _ _ _ _ _ us hl => match us, hl with | [_, _], _ => rfl
    g_less := PySem.W.mg_of X G aless
    f_less := f_less
    fd_less := _
    F_less := fun_mk (st := s_less) lless cless kless
    b_less := (fun_mk (st := s_less) lless cless kless).binds (ps := ["a", "b"]) fun _ _ _ _ _ _ us hl => match us, hl with | [_, _], _ => rfl
    g_sum_of := PySem.W.mg_of X G asum_of
    f_sum_of := f_sum_of
    fd_sum_of := _
    F_sum_of := fun_mk (st := s_sum_of) lsum_of csum_of ksum_of
    b_sum_of := (fun_mk (st := s_sum_of) lsum_of csum_of ksum_of).binds (ps := ["fractions"]) fun _ _ _ _ _ _ us hl => match us, hl with | [_], _ => rfl
    g__law_deck := PySem.W.mg_of X G a_law_deck
    f__law_deck := f__law_deck
    fd__law_deck := _
    F__law_deck := fun_mk (st := s__law_deck) l_law_deck c_law_deck k_law_deck
    b__law_deck := (fun_mk (st := s__law_deck) l_law_deck c_law_deck k_law_deck).binds (ps := ["_law_script"]) fun _ _ _ _ _ _ us hl => match us, hl with | [_], _ => rfl
    g__law_draw := PySem.W.mg_of X G a_law_draw
    f__law_draw := f__law_draw
    fd__law_draw := _
    F__law_draw := fun_mk (st := s__law_draw) l_law_draw c_law_draw k_law_draw
    b__law_draw := (fun_mk (st := s__law_draw) l_law_draw c_law_draw k_law_draw).binds (ps := ["_law_deck_here", "_law_most"]) fun _ _ _ _ _ _ us hl => match us, hl with | [_, _], _ => rfl
    g__law_low := PySem.W.mg_of X G a_law_low
    f__law_low := f__law_low
    fd__law_low := _
    F__law_low := fun_mk (st := s__law_low) l_law_low c_law_low k_law_low
    b__law_low := (fun_mk (st := s__law_low) l_law_low c_law_low k_law_low).binds (ps := ["_law_p", "_law_q"]) fun _ _ _ _ _ _ us hl => match us, hl with | [_, _], _ => rfl
    g__law_plus := PySem.W.mg_of X G a_law_plus
    f__law_plus := f__law_plus
    fd__law_plus := _
    F__law_plus := fun_mk (st := s__law_plus) l_law_plus c_law_plus k_law_plus
    b__law_plus := (fun_mk (st := s__law_plus) l_law_plus c_law_plus k_law_plus).binds (ps := ["_law_one", "_law_other"]) fun _ _ _ _ _ _ us hl => match us, hl with | [_, _], _ => rfl
    g__law_times := PySem.W.mg_of X G a_law_times
    f__law_times := f__law_times
    fd__law_times := _
    F__law_times := fun_mk (st := s__law_times) l_law_times c_law_times k_law_times
    b__law_times := (fun_mk (st := s__law_times) l_law_times c_law_times k_law_times).binds (ps := ["_law_one", "_law_other"]) fun _ _ _ _ _ _ us hl => match us, hl with | [_, _], _ => rfl
    g__law_less := PySem.W.mg_of X G a_law_less
    f__law_less := f__law_less
    fd__law_less := _
    F__law_less := fun_mk (st := s__law_less) l_law_less c_law_less k_law_less
    b__law_less := (fun_mk (st := s__law_less) l_law_less c_law_less k_law_less).binds (ps := ["_law_one", "_law_other"]) fun _ _ _ _ _ _ us hl => match us, hl with | [_, _], _ => rfl
    g__law_number := PySem.W.mg_of X G a_law_number
    f__law_number := f__law_number
    fd__law_number := _
    F__law_number := fun_mk (st := s__law_number) l_law_number c_law_number k_law_number
    b__law_number := (fun_mk (st := s__law_number) l_law_number c_law_number k_law_number).binds (ps := ["_law_deck_here"]) fun _ _ _ _ _ _ us hl => match us, hl with | [_], _ => rfl
    g__law_same := PySem.W.mg_of X G a_law_same
    f__law_same := f__law_same
    fd__law_same := _
    F__law_same := fun_mk (st := s__law_same) l_law_same c_law_same k_law_same
    b__law_same := (fun_mk (st := s__law_same) l_law_same c_law_same k_law_same).binds (ps := ["_law_told", "_law_due"]) fun _ _ _ _ _ _ us hl => match us, hl with | [_, _], _ => rfl
    g__law_refused := PySem.W.mg_of X G a_law_refused
    f__law_refused := f__law_refused
    fd__law_refused := _
    F__law_refused := fun_mk (st := s__law_refused) l_law_refused c_law_refused k_law_refused
    b__law_refused := (fun_mk (st := s__law_refused) l_law_refused c_law_refused k_law_refused).binds (ps := ["_law_call", "_law_first", "_law_second"]) fun _ _ _ _ _ _ us hl => match us, hl with | [_, _, _], _ => rfl
    g__law_fraction := PySem.W.mg_of X G a_law_fraction
    f__law_fraction := f__law_fraction
    fd__law_fraction := _
    F__law_fraction := fun_mk (st := s__law_fraction) l_law_fraction c_law_fraction k_law_fraction
    b__law_fraction := (fun_mk (st := s__law_fraction) l_law_fraction c_law_fraction k_law_fraction).binds (ps := ["_law_deck_here"]) fun _ _ _ _ _ _ us hl => match us, hl with | [_], _ => rfl
    g_law := PySem.W.mg_of X G alaw
    f_law := fa
    fd_law := _
    F_law := fun_mk (st := s_law) llaw claw klaw
    b_law := (fun_mk (st := s_law) llaw claw klaw).binds (ps := ["_law_script"]) fun _ _ _ _ _ _ us hl => match us, hl with | [_], _ => rfl
    a_NOTHING := a_NOTHING
    g_NOTHING := PySem.W.mg_of X G hNOTHING
    v_NOTHING := fun H => sqT_of_k lNOTHING (.cons ⟨_, rfl⟩ (.cons ⟨_, rfl⟩ .nil))
    z_abs := PySem.W.mg_none_of X G zabs
    z_all := PySem.W.mg_none_of X G zall
    z_bool := PySem.W.mg_none_of X G zbool
    z_int := PySem.W.mg_none_of X G zint
    z_isinstance := PySem.W.mg_none_of X G zisinstance
    z_len := PySem.W.mg_none_of X G zlen
    z_list := PySem.W.mg_none_of X G zlist
    z_range := PySem.W.mg_none_of X G zrange
    z_tuple := PySem.W.mg_none_of X G ztuple
    g_gcd := PySem.W.mg_of X G hgcd }
  exact ⟨T.fd_law, fun s v => .of_eq rfl, fun base _ _ => ok_law T⟩
end Sam
open PySem PySem.W PyProof.Rows
set_option maxHeartbeats 0 in
theorem PySem.Challenge.cw_samphire_k08_exact_fractions_holds : PySem.Challenge.rw_samphire_k08_exact_fractions.Holds := by
  w_on; o_law; k_head; (case hw => w_witness2)
  k_fill
  refine L2.walk_of (l := PySem.Challenge.rw_samphire_k08_exact_fractions) (n := 63) (k := 6) (x := "_law_script") (CX := fun _ => L2.CX0) (sp := fun w => Sam.sp_law _) rfl (by decide) rfl ⟨rfl, by decide, by decide⟩ (fun w h Y => PySem.W.kIn_of Y) ?F (fun _ _ a ns hl _ hS => ⟨a, ns, rfl, hS, hl, fun _ => rfl⟩) (fun _ _ _ _ _ h => h)
  case F =>
    intro w mg fa h KX G hmg
    refine' Sam.all_mk KX G hmg ?hSamphireError ?kpSamphireError ?sbSamphireError ?tySamphireError ?hdSamphireError ?suSamphireError ?hZeroDenominator ?kpZeroDenominator ?sbZeroDenominator ?tyZeroDenominator ?hdZeroDenominator ?suZeroDenominator ?xZeroDenominator ?egZeroDenominator ?ekZeroDenominator ?eaZeroDenominator ?enZeroDenominator ?etZeroDenominator ?emZeroDenominator ?ofZeroDenominatorSamphireError ?ais_fraction ?lis_fraction ?cis_fraction ?kis_fraction ?alowest ?llowest ?clowest ?klowest ?aplus ?lplus ?cplus ?kplus ?aminus ?lminus ?cminus ?kminus ?atimes ?ltimes ?ctimes ?ktimes ?aover ?lover ?cover ?kover ?aless ?lless ?cless ?kless ?asum_of ?lsum_of ?csum_of ?ksum_of ?a_law_deck ?l_law_deck ?c_law_deck ?k_law_deck ?a_law_draw ?l_law_draw ?c_law_draw ?k_law_draw ?a_law_low ?l_law_low ?c_law_low ?k_law_low ?a_law_plus ?l_law_plus ?c_law_plus ?k_law_plus ?a_law_times ?l_law_times ?c_law_times ?k_law_times ?a_law_less ?l_law_less ?c_law_less ?k_law_less ?a_law_number ?l_law_number ?c_law_number ?k_law_number ?a_law_same ?l_law_same ?c_law_same ?k_law_same ?a_law_refused ?l_law_refused ?c_law_refused ?k_law_refused ?a_law_fraction ?l_law_fraction ?c_law_fraction ?k_law_fraction ?alaw ?llaw ?claw ?klaw ?hNOTHING ?lNOTHING ?zabs ?zall ?zbool ?zint ?zisinstance ?zlen ?zlist ?zrange ?ztuple ?hgcd
    (case hSamphireError => k_is)
    (case kpSamphireError => k_is)
    (case sbSamphireError => k_is)
    (case tySamphireError => k_is)
    (case hdSamphireError => k_is)
    (case suSamphireError => first | rfl | k_is)
    (case hZeroDenominator => k_is)
    (case kpZeroDenominator => k_is)
    (case sbZeroDenominator => k_is)
    (case tyZeroDenominator => k_is)
    (case hdZeroDenominator => k_is)
    (case suZeroDenominator => first | rfl | k_is)
    (case xZeroDenominator => k_exc)
    (case egZeroDenominator => k_is)
    (case ekZeroDenominator => k_is)
    (case eaZeroDenominator => k_is)
    (case enZeroDenominator => k_is)
    (case etZeroDenominator => k_is)
    (case emZeroDenominator => k_is)
    (case ofZeroDenominatorSamphireError => k_is)
    (case ais_fraction => k_is)
    (case lis_fraction => k_is)
    (case cis_fraction => k_is)
    (case kis_fraction => k_is)
    (case alowest => k_is)
    (case llowest => k_is)
    (case clowest => k_is)
    (case klowest => k_is)
    (case aplus => k_is)
    (case lplus => k_is)
    (case cplus => k_is)
    (case kplus => k_is)
    (case aminus => k_is)
    (case lminus => k_is)
    (case cminus => k_is)
    (case kminus => k_is)
    (case atimes => k_is)
    (case ltimes => k_is)
    (case ctimes => k_is)
    (case ktimes => k_is)
    (case aover => k_is)
    (case lover => k_is)
    (case cover => k_is)
    (case kover => k_is)
    (case aless => k_is)
    (case lless => k_is)
    (case cless => k_is)
    (case kless => k_is)
    (case asum_of => k_is)
    (case lsum_of => k_is)
    (case csum_of => k_is)
    (case ksum_of => k_is)
    (case a_law_deck => k_is)
    (case l_law_deck => k_is)
    (case c_law_deck => k_is)
    (case k_law_deck => k_is)
    (case a_law_draw => k_is)
    (case l_law_draw => k_is)
    (case c_law_draw => k_is)
    (case k_law_draw => k_is)
    (case a_law_low => k_is)
    (case l_law_low => k_is)
    (case c_law_low => k_is)
    (case k_law_low => k_is)
    (case a_law_plus => k_is)
    (case l_law_plus => k_is)
    (case c_law_plus => k_is)
    (case k_law_plus => k_is)
    (case a_law_times => k_is)
    (case l_law_times => k_is)
    (case c_law_times => k_is)
    (case k_law_times => k_is)
    (case a_law_less => k_is)
    (case l_law_less => k_is)
    (case c_law_less => k_is)
    (case k_law_less => k_is)
    (case a_law_number => k_is)
    (case l_law_number => k_is)
    (case c_law_number => k_is)
    (case k_law_number => k_is)
    (case a_law_same => k_is)
    (case l_law_same => k_is)
    (case c_law_same => k_is)
    (case k_law_same => k_is)
    (case a_law_refused => k_is)
    (case l_law_refused => k_is)
    (case c_law_refused => k_is)
    (case k_law_refused => k_is)
    (case a_law_fraction => k_is)
    (case l_law_fraction => k_is)
    (case c_law_fraction => k_is)
    (case k_law_fraction => k_is)
    (case alaw => k_is)
    (case llaw => k_is)
    (case claw => k_is)
    (case klaw => k_is)
    (case hNOTHING => k_is)
    (case lNOTHING => k_is)
    (case zabs => k_is)
    (case zall => k_is)
    (case zbool => k_is)
    (case zint => k_is)
    (case zisinstance => k_is)
    (case zlen => k_is)
    (case zlist => k_is)
    (case zrange => k_is)
    (case ztuple => k_is)
    (case hgcd => k_is)
