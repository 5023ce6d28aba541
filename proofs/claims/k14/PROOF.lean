import PyProof.Rows.All
import Wide.All
import OpenK.AllK
import Wide.FinOn
import HandS.ForMost
import HandS.Walk
import HandS.Wide
import HandS.Gcd
import HandS.IsInst
import HandS.Codes
import HandS.Exc
import HandS.ExcOwn
import HandS.ExcIs
import HandS.TryOnly
import HandS.WordsExc
import HandS.CallLocal
import HandS.More
import HandS.NoneIn
import HandS.SortInts
import HandS.ExcInit
import HandS.ExcField
import HandS.WordsDict
import PyProof.Rows.StrMeet
import PySem.Challenge.RW_samphire_k14_most_runs
set_option Elab.async false
set_option linter.all false
set_option maxRecDepth 100000
namespace Sam
open PySem PySem.Spec PyProof.Rows L2
open C8 (pss_cut tCut)
def topS (i : Nat) : Stmt := PySem.Challenge.pw_samphire_k14_most_runs.main.body.getD i (.Pass ⟨0, 0, 0, 0⟩)
abbrev s_TooLarge___init__ : Stmt := (inClass (topS 3) 0)
abbrev nm_TooLarge___init__ : List Str := ["self", "limit"]
theorem sc_TooLarge___init__ : FnScope ["self", "limit"] ["self", "limit"] (defScope s_TooLarge___init__) := ⟨rfl, rfl, rfl, by decide +kernel, rfl, by decide +kernel, by decide +kernel⟩
abbrev s_lowest : Stmt := (topS 10)
abbrev nm_lowest : List Str := ["p", "q", "divisor"]
theorem sc_lowest : FnScope ["p", "q", "divisor"] ["p", "q"] (defScope s_lowest) := ⟨rfl, rfl, rfl, by decide +kernel, rfl, by decide +kernel, by decide +kernel⟩
abbrev s_plus : Stmt := (topS 11)
abbrev nm_plus : List Str := ["a", "b"]
theorem sc_plus : FnScope ["a", "b"] ["a", "b"] (defScope s_plus) := ⟨rfl, rfl, rfl, by decide +kernel, rfl, by decide +kernel, by decide +kernel⟩
abbrev s_times : Stmt := (topS 12)
abbrev nm_times : List Str := ["a", "b"]
theorem sc_times : FnScope ["a", "b"] ["a", "b"] (defScope s_times) := ⟨rfl, rfl, rfl, by decide +kernel, rfl, by decide +kernel, by decide +kernel⟩
abbrev s_less : Stmt := (topS 13)
abbrev nm_less : List Str := ["a", "b"]
theorem sc_less : FnScope ["a", "b"] ["a", "b"] (defScope s_less) := ⟨rfl, rfl, rfl, by decide +kernel, rfl, by decide +kernel, by decide +kernel⟩
abbrev s_sum_of : Stmt := (topS 14)
abbrev nm_sum_of : List Str := ["fractions", "total", "fraction"]
theorem sc_sum_of : FnScope ["fractions", "total", "fraction"] ["fractions"] (defScope s_sum_of) := ⟨rfl, rfl, rfl, by decide +kernel, rfl, by decide +kernel, by decide +kernel⟩
abbrev s_are_chances : Stmt := (topS 16)
abbrev nm_are_chances : List Str := ["fractions", "fraction"]
theorem sc_are_chances : FnScope ["fractions", "fraction"] ["fractions"] (defScope s_are_chances) := ⟨rfl, rfl, rfl, by decide +kernel, rfl, by decide +kernel, by decide +kernel⟩
abbrev s_law_from : Stmt := (topS 17)
abbrev nm_law_from : List Str := ["rows", "sums", "outcome", "chance", "_"]
theorem sc_law_from : FnScope ["rows", "sums", "outcome", "chance", "_"] ["rows"] (defScope s_law_from) := ⟨rfl, rfl, rfl, by decide +kernel, rfl, by decide +kernel, by decide +kernel⟩
abbrev s_Explorer___init__ : Stmt := (inClass (topS 20) 0)
abbrev nm_Explorer___init__ : List Str := ["self"]
theorem sc_Explorer___init__ : FnScope ["self"] ["self"] (defScope s_Explorer___init__) := ⟨rfl, rfl, rfl, by decide +kernel, rfl, by decide +kernel, by decide +kernel⟩
abbrev s_Explorer_advance : Stmt := (inClass (topS 20) 1)
abbrev nm_Explorer_advance : List Str := ["self", "number", "weights", "other"]
theorem sc_Explorer_advance : FnScope ["self", "number", "weights", "other"] ["self"] (defScope s_Explorer_advance) := ⟨rfl, rfl, rfl, by decide +kernel, rfl, by decide +kernel, by decide +kernel⟩
abbrev s_Explorer_begin : Stmt := (inClass (topS 20) 2)
abbrev nm_Explorer_begin : List Str := ["self", "kept"]
theorem sc_Explorer_begin : FnScope ["self", "kept"] ["self"] (defScope s_Explorer_begin) := ⟨rfl, rfl, rfl, by decide +kernel, rfl, by decide +kernel, by decide +kernel⟩
abbrev s_Explorer_pick : Stmt := (inClass (topS 20) 3)
abbrev nm_Explorer_pick : List Str := ["self", "weights", "first", "number"]
theorem sc_Explorer_pick : FnScope ["self", "weights", "first", "number"] ["self", "weights"] (defScope s_Explorer_pick) := ⟨rfl, rfl, rfl, by decide +kernel, rfl, by decide +kernel, by decide +kernel⟩
abbrev s_Explorer_end : Stmt := (inClass (topS 20) 4)
abbrev nm_Explorer_end : List Str := ["self", "outcome"]
theorem sc_Explorer_end : FnScope ["self", "outcome"] ["self", "outcome"] (defScope s_Explorer_end) := ⟨rfl, rfl, rfl, by decide +kernel, rfl, by decide +kernel, by decide +kernel⟩
abbrev s_Explorer_runs : Stmt := (inClass (topS 20) 5)
abbrev nm_Explorer_runs : List Str := ["self"]
theorem sc_Explorer_runs : FnScope ["self"] ["self"] (defScope s_Explorer_runs) := ⟨rfl, rfl, rfl, by decide +kernel, rfl, by decide +kernel, by decide +kernel⟩
abbrev s_Explorer_gathered : Stmt := (inClass (topS 20) 6)
abbrev nm_Explorer_gathered : List Str := ["self"]
theorem sc_Explorer_gathered : FnScope ["self"] ["self"] (defScope s_Explorer_gathered) := ⟨rfl, rfl, rfl, by decide +kernel, rfl, by decide +kernel, by decide +kernel⟩
abbrev s__law_deck : Stmt := (topS 22)
abbrev nm__law_deck : List Str := ["_law_script"]
theorem sc__law_deck : FnScope ["_law_script"] ["_law_script"] (defScope s__law_deck) := ⟨rfl, rfl, rfl, by decide +kernel, rfl, by decide +kernel, by decide +kernel⟩
abbrev s__law_draw : Stmt := (topS 23)
abbrev nm__law_draw : List Str := ["_law_deck_here", "_law_most", "_law_value", "_law_cell"]
theorem sc__law_draw : FnScope ["_law_deck_here", "_law_most", "_law_value", "_law_cell"] ["_law_deck_here", "_law_most"] (defScope s__law_draw) := ⟨rfl, rfl, rfl, by decide +kernel, rfl, by decide +kernel, by decide +kernel⟩
abbrev s__law_low : Stmt := (topS 24)
abbrev nm__law_low : List Str := ["_law_p", "_law_q", "_law_first", "_law_second", "_law_turn"]
theorem sc__law_low : FnScope ["_law_p", "_law_q", "_law_first", "_law_second", "_law_turn"] ["_law_p", "_law_q"] (defScope s__law_low) := ⟨rfl, rfl, rfl, by decide +kernel, rfl, by decide +kernel, by decide +kernel⟩
abbrev s__law_limit : Stmt := (topS 28)
abbrev nm__law_limit : List Str := ["_law_explorer", "e"]
theorem sc__law_limit : FnScope ["_law_explorer", "e"] ["_law_explorer"] (defScope s__law_limit) := ⟨rfl, rfl, rfl, by decide +kernel, rfl, by decide +kernel, by decide +kernel⟩
abbrev s_law : Stmt := (topS 29)
abbrev nm_law : List Str := ["_law_script", "_law_deck_here", "_law_side", "_law_weights", "_law_explorer", "_law_turn", "_law_first", "_law_number"]
theorem sc_law : FnScope ["_law_script", "_law_deck_here", "_law_side", "_law_weights", "_law_explorer", "_law_turn", "_law_first", "_law_number"] ["_law_script"] (defScope s_law) := ⟨rfl, rfl, rfl, by decide +kernel, rfl, by decide +kernel, by decide +kernel⟩
/-! ### own layer: what stays, new objects, steps -/
/-- all that was tracked outside F is as it was -/
def Ex (F : List Addr) (H H' : Hp) : Prop := ∀ b o, b ∉ F → H b = some o → H' b = some o
theorem Ex.refl {F : List Addr} (H : Hp) : Ex F H H := fun _ _ _ h => h
theorem Ex.trans {F : List Addr} {H H1 H2 : Hp} (a : Ex F H H1) (b : Ex F H1 H2) : Ex F H H2 := fun c o n h => b c o n (a c o n h)
theorem Ex.of {F : List Addr} {H H1 : Hp} (a : Same H H1) : Ex F H H1 := fun c o _ h => a c o h
theorem Ex.mono {F G : List Addr} {H H1 : Hp} (a : Ex F H H1) (h : ∀ b, b ∈ F → b ∈ G) : Ex G H H1 := fun c o n e => a c o (fun z => n (h c z)) e
theorem Ex.rd {F : List Addr} {H H' : Hp} {a : Addr} {u : HO} (e : Ex F H H') (n : a ∉ F) (h : Rd H a u) : Rd H' a u := by
  rcases h with h | ⟨o, h⟩
  · exact .inl (e _ _ n h)
  · exact .inr ⟨o, e _ _ n h⟩
theorem Ex.seq {K : PySem.W.Frag} {F : List Addr} {H H' : Hp} {a : Addr} {xs : List V} (e : Ex F H H') (n : a ∉ F) (h : SqL K H a xs) : SqL K H' a xs := by
  rcases h with h | h
  · exact .inl (e.rd n h)
  · exact .inr h
theorem Ex.tup {K : PySem.W.Frag} {F : List Addr} {H H' : Hp} {a : Addr} {xs : List V} (e : Ex F H H') (n : a ∉ F) (h : SqT K H a xs) : SqT K H' a xs := by
  rcases h with h | h
  · exact .inl (e.rd n h)
  · exact .inr h
theorem same_upd {H : Hp} {p : Addr} {o : HO} (h : H p = none) : Same H (upd H p o) := fun b x e => by
  rw [upd_ne (ne_of_none e h)]
  exact e
/-- an object that H does not know is changed -/
theorem _root_.L2.Same.mut {H H' : Hp} {p : Addr} {o : HO} (e : Same H H') (h : H p = none) : Same H (upd H' p o) := fun a u ha => by
  rw [upd_ne (ne_of_none ha h)]
  exact e a u ha
theorem Ex.mut {F : List Addr} {H H' : Hp} {p : Addr} {o : HO} (e : Ex F H H') (h : H p = none ∨ p ∈ F) : Ex F H (upd H' p o) := fun a u n ha => by
  have hne : a ≠ p := by
    rcases h with h | h
    · exact ne_of_none ha h
    · exact fun z => n (z ▸ h)
  rw [upd_ne hne]
  exact e a u n ha
theorem _root_.L2.Same.tupq {K : PySem.W.Frag} {H H' : Hp} {a : Addr} {xs : List V} (e : Same H H') (h : SqT K H a xs) : SqT K H' a xs := by
  rcases h with (h | ⟨o, h⟩) | h
  · exact .inl (.inl (e _ _ h))
  · exact .inl (.inr ⟨o, e _ _ h⟩)
  · exact .inr h
/-- a new object, met by what is known of the heap -/
theorem w_new {H : Hp} {o : HO} {Q : V → Hp → Prop} (h : ∀ p H', H p = none → Same H H' → H' p = some o → Q (.ref p) H') : ∀ p, H p = none → Q (.ref p) (upd H p o) := fun p hp => h p _ hp (same_upd hp) upd_same
section
variable {K : PySem.W.Frag} {H : Hp} {Q : VK}
theorem w_ixL {p : Addr} {xs : List V} {i : Int} {v : V} (h : SqL K H p xs) (e : atI xs i = some v) (q : Q v H) : rIxL K (.ref p) (.int i) H Q := ⟨p, xs, i, v, rfl, rfl, h, e, q⟩
theorem w_ixT {p : Addr} {xs : List V} {i : Int} {v : V} (h : SqT K H p xs) (e : atI xs i = some v) (q : Q v H) : rIxT K (.ref p) (.int i) H Q := ⟨p, xs, i, v, rfl, rfl, h, e, q⟩
end
theorem bl_inj {a b : Bool} (h : V.bl a = V.bl b) : a = b := V.bl.inj h
theorem ite_dec {c : Prop} [Decidable c] {A B : Prop} (h1 : c → A) (h2 : ¬ c → B) : if decide c = true then A else B := by
  by_cases h : c
  · rw [if_pos (decide_eq_true h)]; exact h1 h
  · rw [if_neg (by rw [decide_eq_false h]; exact Bool.false_ne_true)]; exact h2 h
theorem atI_int {xs : List V} {i : Int} {v : V} (h0 : 0 ≤ i) (h : xs[i.toNat]? = some v) : atI xs i = some v := by
  have e := atI_nat h
  rw [Int.toNat_of_nonneg h0] at e
  exact e
theorem map_get {ns : List Int} {i : Nat} {v : V} (h : (ns.map V.int)[i]? = some v) : ∃ z, v = .int z ∧ ns[i]? = some z := by
  rw [List.getElem?_map] at h
  cases e : ns[i]? with
  | none => rw [e] at h; cases h
  | some z => rw [e] at h; exact ⟨z, (Option.some.inj h).symm, rfl⟩
theorem get_map {ns : List Int} {i : Nat} {z : Int} (h : ns[i]? = some z) : (ns.map V.int)[i]? = some (.int z) := by
  rw [List.getElem?_map, h]
  rfl
theorem nin {p L : Addr} (h : p ≠ L) : p ∉ [L] := fun z => h (List.mem_singleton.mp z)
/-- a change at x alone, which H did not know -/
theorem Ex.new1 {F : List Addr} {H H1 H2 : Hp} {x : Addr} (a : Ex F H H1) (b : Ex [x] H1 H2) (h : H x = none) : Ex F H H2 := fun c o n e => b c o (nin (ne_of_none e h)) (a c o n e)
theorem Ex.free {F : List Addr} {H H' : Hp} {l : Addr} (e : Ex F H H') (n : l ∉ F) (h : H' l = none) : H l = none := by
  cases q : H l with
  | none => rfl
  | some o =>
    rw [e l o n q] at h
    cases h
theorem Ex.at {F : List Addr} {H H' : Hp} {l : Addr} {o : HO} (e : Ex F H H') (n : l ∉ F) (h : H l = some o) : H' l = some o := e l o n h
theorem ixN_int {n : Nat} {k : Int} (h0 : 0 ≤ k) (h1 : k < n) : ixN n k = some k.toNat := by
  unfold ixN
  rw [if_pos h0, if_pos h1]
theorem sum_set : ∀ (l : List Int) (j : Nat) (x v : Int), l[j]? = some x → (l.set j v).sum = l.sum - x + v
  | [], _, _, _, h => by simp at h
  | y :: l, 0, x, v, h => by
    have e : y = x := by simpa using h
    subst e
    simp
    omega
  | y :: l, j + 1, x, v, h => by
    have ih := sum_set l j x v (by simpa using h)
    simp only [List.set_cons_succ, List.sum_cons, ih]
    omega
theorem mem_le_sum : ∀ (l : List Int), (∀ x ∈ l, 0 ≤ x) → ∀ x ∈ l, x ≤ l.sum
  | [], _, x, hx => by simp at hx
  | y :: l, h, x, hx => by
    have h0 : 0 ≤ y := h y List.mem_cons_self
    have hl : ∀ x ∈ l, 0 ≤ x := fun z hz => h z (List.mem_cons_of_mem _ hz)
    have hs : 0 ≤ l.sum := sum_nn l hl
    rcases List.mem_cons.mp hx with e | e
    · subst e; rw [List.sum_cons]; omega
    · have := mem_le_sum l hl x e
      rw [List.sum_cons]; omega
where
  sum_nn : ∀ (l : List Int), (∀ x ∈ l, 0 ≤ x) → 0 ≤ l.sum
    | [], _ => by simp
    | y :: l, h => by
      have h0 : 0 ≤ y := h y List.mem_cons_self
      have := sum_nn l (fun z hz => h z (List.mem_cons_of_mem _ hz))
      rw [List.sum_cons]; omega
theorem sum_le_of : ∀ (l : List Int) (b : Int), (∀ x ∈ l, x ≤ b) → l.sum ≤ b * l.length
  | [], _, _ => by simp
  | y :: l, b, h => by
    have h0 : y ≤ b := h y List.mem_cons_self
    have := sum_le_of l b (fun z hz => h z (List.mem_cons_of_mem _ hz))
    rw [List.sum_cons, List.length_cons]
    have e : b * ((l.length + 1 : Nat) : Int) = b * l.length + b := by
      rw [Int.natCast_add, Int.mul_add]; simp
    omega
theorem w_yes {σ : L2.St} {H : Hp} {A B : Hp → Prop} (h : A H) : tYes σ H (fun b H3 => if b = true then A H3 else B H3) := by
  show (if true = true then A H else B H)
  rw [if_pos rfl]
  exact h
theorem lk_eq {f : Str} {v : V} {fs : List (Str × V)} : ((f, v) :: fs).lookup f = some v := by simp [List.lookup]
theorem lk_ne {f g : Str} {v : V} {fs : List (Str × V)} (h : (f == g) = false) : ((g, v) :: fs).lookup f = fs.lookup f := by simp [List.lookup, h]
theorem putF_eq {f : Str} {u v : V} {fs : List (Str × V)} : putF f v ((f, u) :: fs) = (f, v) :: fs := by simp [putF]
theorem putF_ne {f g : Str} {u v : V} {fs : List (Str × V)} (h : ¬ g = f) : putF f v ((g, u) :: fs) = (g, u) :: putF f v fs := by simp [putF, h]
theorem putF_nil {f : Str} {v : V} : putF f v [] = [(f, v)] := rfl
/-- a list stays where a thing of another kind at x changes -/
theorem _root_.L2.SqL.stay {K : PySem.W.Frag} {H H' : Hp} {a x : Addr} {xs : List V} {o : HO} (h : SqL K H a xs) (hx : H x = some o) (ho : ∀ ys, o ≠ .lst ys) (ho2 : ∀ b u, o ≠ .frz b u) (e : Ex [x] H H') : SqL K H' a xs := by
  rcases h with (h | ⟨u, h⟩) | h
  · exact .inl (.inl (e _ _ (nin fun z => ho _ (Option.some.inj ((z ▸ hx).symm.trans h))) h))
  · exact .inl (.inr ⟨u, e _ _ (nin fun z => ho2 _ _ (Option.some.inj ((z ▸ hx).symm.trans h))) h⟩)
  · exact .inr h
theorem sqT_of_k {K : PySem.W.Frag} {H : Hp} {a : Addr} {dd : Option Addr} {its : Array Value} {n : Nat} {sl : Array (Option Value)} {xs : List V}
    (l : K.lookup a = some ⟨.type "tuple", dd, .seq its n, sl⟩) (h : Vals xs its.toList) (hz : its.size ≤ 1000 := by simp) : SqT K H a xs :=
  .inr ⟨_, its, n, l, rfl, rfl, Nat.le_trans hz (by decide), h⟩
/-! rules whose reading names K, for use within a comprehension's block -/
section
variable {X : Cx} {K : PySem.W.Frag}
theorem ixLk (h : X.K = K) : IxR X (rIxL K) := by subst h; exact ix_list
theorem ixTk (h : X.K = K) : IxR X (rIxT K) := by subst h; exact ix_tup
theorem eqDk (h : X.K = K) (hu : X.A.units + 64 < cLine) : OpR X (compareOp .Eq) (rEqD K) := by subst h; exact op_eqD hu
theorem neDk (h : X.K = K) (hu : X.A.units + 64 < cLine) : OpR X (compareOp .NotEq) (rNeD K) := by subst h; exact op_neD hu
theorem inSk (h : X.K = K) : OpR X (compareOp .In) (rIn K false) := by subst h; exact op_in_seq
theorem niSk (h : X.K = K) : OpR X (compareOp .NotIn) (rIn K true) := by subst h; exact op_notIn_seq
def rLenQ (K : PySem.W.Frag) : List V → Hp → VK → Prop := fun xs H Q => ∃ p ys, xs = [.ref p] ∧ (SqL K H p ys ∨ SqT K H p ys) ∧ Q (.int ys.length) H
theorem lenk (h : X.K = K) : CallR X (.builtin "len") (rLenQ K) := by subst h; exact call_len_seq
theorem sumk (h : X.K = K) (hc : X.calm = true) : CallR X (.builtin "sum") (rSum K) := by subst h; exact cr_sum hc
theorem allk (h : X.K = K) (hc : X.calm = true) : CallR X (.builtin "all") (rAll K) := by subst h; exact cr_all hc
theorem anyk (h : X.K = K) (hc : X.calm = true) : CallR X (.builtin "any") (rAny K) := by subst h; exact cr_any hc
theorem pe_fldk {o : Expr} {ta : TE} {f : Str} {pos : Pos} (h : X.K = K) (ho : PE X o ta) (hb : attributeBase o f X.env (eval o X.env) = eval o X.env) : PE X (.Attribute o f pos) (tFld K ta f) := by subst h; exact pe_fld ho hb
theorem slLk (h : X.K = K) : SlR X (rSlL K) := by subst h; exact sl_list
theorem slTk (h : X.K = K) : SlR X (rSlT K) := by subst h; exact sl_tup
end
theorem pg_tupk {X : Cx} {K : PySem.W.Frag} {pos : Pos} {es : List Expr} {k : Nat} {t : TGs} {n : Nat} (hK : X.K = K) (hc : X.calm = true) (h : PGs X es t)
    (hn : (assignEach es X.env).length = n := by rfl) (hst : (assignEach es X.env).findIdx? (·.1) = none := by rfl) : PG X (.Tuple es k pos) (gTup K n t) := by subst hK; exact pg_tup hc h hn hst
/-- two tests joined, each known -/
theorem w_or {t u : TT} {σ : L2.St} {H : Hp} {Q : Bool → Hp → Prop} {b1 b2 : Bool} (h1 : ∀ Q' : Bool → Hp → Prop, Q' b1 H → t σ H Q') (h2 : ∀ Q' : Bool → Hp → Prop, Q' b2 H → u σ H Q') (q : Q (b1 || b2) H) : tOr t u σ H Q := by
  refine h1 _ ?_
  cases b1 with
  | true => exact iteT q
  | false => exact iteF (h2 _ q)
theorem w_and {t u : TT} {σ : L2.St} {H : Hp} {Q : Bool → Hp → Prop} {b1 b2 : Bool} (h1 : ∀ Q' : Bool → Hp → Prop, Q' b1 H → t σ H Q') (h2 : ∀ Q' : Bool → Hp → Prop, Q' b2 H → u σ H Q') (q : Q (b1 && b2) H) : tAnd t u σ H Q := by
  refine h1 _ ?_
  cases b1 with
  | true => exact iteT (h2 _ q)
  | false => exact iteF q
theorem w_ifor {t u : TT} {σ : L2.St} {H : Hp} {A B R : TS} {D : Ends} {b1 b2 : Bool} (h1 : ∀ Q' : Bool → Hp → Prop, Q' b1 H → t σ H Q') (h2 : ∀ Q' : Bool → Hp → Prop, Q' b2 H → u σ H Q')
    (q : if (b1 || b2) = true then A { D with nx := R D } σ H else B { D with nx := R D } σ H) : tSeq (tIfS (tOr t u) A B) R D σ H :=
  w_or (t := t) (u := u) h1 h2 q
theorem w_ifand {t u : TT} {σ : L2.St} {H : Hp} {A B R : TS} {D : Ends} {b1 b2 : Bool} (h1 : ∀ Q' : Bool → Hp → Prop, Q' b1 H → t σ H Q') (h2 : ∀ Q' : Bool → Hp → Prop, Q' b2 H → u σ H Q')
    (q : if (b1 && b2) = true then A { D with nx := R D } σ H else B { D with nx := R D } σ H) : tSeq (tIfS (tAnd t u) A B) R D σ H :=
  w_and (t := t) (u := u) h1 h2 q

/-! ### data: lists of ints, comparisons -/
theorem shaped_mk {d : PyData} (h1 : d.canLay0 = true) (h2 : d.depth ≤ 64) : SeqAt.shaped d = true := by
  unfold SeqAt.shaped
  rw [h1, decide_eq_true h2]
  rfl
theorem lay_ints : ∀ ns : List Int, PyData.canLayAll0 (ns.map PyData.int) = true
  | [] => rfl
  | _ :: r => by
    show (true && PyData.canLayAll0 (r.map PyData.int)) = true
    rw [lay_ints r]
    rfl
theorem depth_ints : ∀ ns : List Int, PyData.depthAll (ns.map PyData.int) = 0
  | [] => rfl
  | _ :: r => by
    show max 0 (PyData.depthAll (r.map PyData.int)) = 0
    rw [depth_ints r]
    rfl
theorem shaped_ints (ns : List Int) : SeqAt.shaped (.list (ns.map .int)) = true := shaped_mk (lay_ints ns) (by
  show PyData.depthAll (ns.map PyData.int) + 1 ≤ 64
  rw [depth_ints]
  decide)
theorem shaped_intsT (ns : List Int) : SeqAt.shaped (.tuple (ns.map .int)) = true := shaped_mk (lay_ints ns) (by
  show PyData.depthAll (ns.map PyData.int) + 1 ≤ 64
  rw [depth_ints]
  decide)
theorem eqvAll_ints : ∀ ns ms : List Int, PyData.eqvAll (ns.map .int) (ms.map .int) = decide (ns = ms)
  | [], [] => rfl
  | [], _ :: _ => rfl
  | _ :: _, [] => rfl
  | x :: r, y :: t => by
    show (PyData.eqv (.int x) (.int y) && PyData.eqvAll (r.map PyData.int) (t.map PyData.int)) = _
    rw [eqvAll_ints r t]
    show ((x == y) && decide (r = t)) = decide (x :: r = y :: t)
    by_cases h1 : x = y
    · by_cases h2 : r = t
      · subst h1 h2; simp
      · subst h1; simp [h2]
    · simp [h1]
theorem eqv_ints (ns ms : List Int) : PyData.eqv (.list (ns.map .int)) (.list (ms.map .int)) = decide (ns = ms) := by
  rw [PyData.eqv]
  exact eqvAll_ints ns ms
theorem eqv_intsT (ns ms : List Int) : PyData.eqv (.tuple (ns.map .int)) (.tuple (ms.map .int)) = decide (ns = ms) := by
  rw [PyData.eqv]
  exact eqvAll_ints ns ms
theorem dp_ints {K : PySem.W.Frag} {H : Hp} : ∀ ns : List Int, DpAll K H (ns.map V.int) (ns.map PyData.int)
  | [] => .nil
  | _ :: r => .cons (.int _) (dp_ints r)

/-! ### fractions as rationals: plain facts -/
theorem log2_lt' {i : Int} {b : Nat} (hb : 0 < b) (h : i.natAbs < 2 ^ b) : i.natAbs.log2 < b := PySem.Flt.log2_lt_of hb h
theorem gcd_pos_right {p q : Int} (hq : q ≠ 0) : 0 < Int.gcd p q := Nat.pos_of_ne_zero fun z => hq (Int.gcd_eq_zero_iff.mp z).2
def lowD (p q : Int) : Int := if q < 0 then -(Int.gcd p q : Int) else (Int.gcd p q : Int)
theorem lowD_ne {p q : Int} (hq : q ≠ 0) : lowD p q ≠ 0 := by
  have := gcd_pos_right (p := p) hq
  unfold lowD
  split <;> omega
theorem lowD_abs (p q : Int) : (lowD p q).natAbs = Int.gcd p q := by
  unfold lowD
  split
  · rw [Int.natAbs_neg, Int.natAbs_natCast]
  · rw [Int.natAbs_natCast]
theorem gcd_le_right {p q : Int} (hq : q ≠ 0) : Int.gcd p q ≤ q.natAbs := Nat.le_of_dvd (by omega) (by
  have := Int.gcd_dvd_natAbs_right p q
  exact this)
theorem low_num {p q : Int} (hq : q ≠ 0) : p.fdiv (lowD p q) = (Rat.divInt p q).num := by
  have hg := gcd_pos_right (p := p) hq
  obtain ⟨k, hk⟩ := Int.gcd_dvd_left p q
  rw [Rat.num_divInt, Int.gcd_comm q p]
  unfold lowD
  have hg' : (Int.gcd p q : Int) ≠ 0 := by omega
  generalize Int.gcd p q = g at hk hg hg'
  subst hk
  by_cases h : q < 0
  · rw [if_pos h, Int.sign_eq_neg_one_of_neg h]
    rw [show -1 * ((g : Int) * k) = (g : Int) * (-k) by rw [Int.mul_neg]; omega, Int.mul_ediv_cancel_left _ hg']
    rw [show (g : Int) * k = (-(g : Int)) * (-k) by rw [Int.neg_mul_neg]]
    exact Int.mul_fdiv_cancel_left _ (by omega)
  · rw [if_neg h, Int.sign_eq_one_of_pos (by omega), Int.one_mul, Int.mul_ediv_cancel_left _ hg']
    exact Int.mul_fdiv_cancel_left _ hg'
theorem low_den {p q : Int} (hq : q ≠ 0) : q.fdiv (lowD p q) = ((Rat.divInt p q).den : Int) := by
  have hg := gcd_pos_right (p := p) hq
  obtain ⟨k, hk⟩ := Int.gcd_dvd_right p q
  rw [Rat.den_divInt, if_neg hq, Int.gcd_comm q p]
  unfold lowD
  have hg' : (Int.gcd p q : Int) ≠ 0 := by omega
  generalize Int.gcd p q = g at hk hg hg'
  have hab : q.natAbs = g * k.natAbs := by rw [hk, Int.natAbs_mul, Int.natAbs_natCast]
  rw [hab, Nat.mul_div_cancel_left _ hg]
  by_cases h : q < 0
  · rw [if_pos h]
    have hk0 : k < 0 := by
      rcases Int.lt_or_le k 0 with z | z
      · exact z
      · have : 0 ≤ (g : Int) * k := Int.mul_nonneg (by omega) z
        omega
    rw [hk, show (g : Int) * k = (-(g : Int)) * (-k) by rw [Int.neg_mul_neg]]
    rw [Int.mul_fdiv_cancel_left _ (by omega)]
    omega
  · rw [if_neg h]
    have hk0 : 0 ≤ k := by
      rcases Int.lt_or_le k 0 with z | z
      · have : (g : Int) * k < 0 := Int.mul_neg_of_pos_of_neg (by omega) z
        omega
      · exact z
    rw [hk, Int.mul_fdiv_cancel_left _ hg']
    omega
/-! sizes -/
def Sz (n : Nat) (r : Rat) : Prop := r.num.natAbs < 2 ^ n ∧ r.den < 2 ^ n
theorem Sz.mono {m n : Nat} {r : Rat} (h : Sz m r) (e : m ≤ n) : Sz n r := ⟨Nat.lt_of_lt_of_le h.1 (Nat.pow_le_pow_right (by decide) e), Nat.lt_of_lt_of_le h.2 (Nat.pow_le_pow_right (by decide) e)⟩
theorem sz_divInt {p q : Int} {n : Nat} (hq : q ≠ 0) (h1 : p.natAbs < 2 ^ n) (h2 : q.natAbs < 2 ^ n) : Sz n (Rat.divInt p q) := by
  constructor
  · rw [Rat.num_divInt]
    refine Nat.lt_of_le_of_lt ?_ h1
    refine Nat.le_trans (Int.natAbs_ediv_le_natAbs _ _) ?_
    rw [Int.natAbs_mul]
    rcases Int.lt_trichotomy q 0 with h | h | h
    · rw [Int.sign_eq_neg_one_of_neg h]; simp
    · exact absurd h hq
    · rw [Int.sign_eq_one_of_pos h]; simp
  · rw [Rat.den_divInt, if_neg hq]
    exact Nat.lt_of_le_of_lt (Nat.div_le_self _ _) h2
theorem abs_mul_lt {i j : Int} {a b : Nat} (ha : i.natAbs < 2 ^ a) (hb : j.natAbs < 2 ^ b) : (i * j).natAbs < 2 ^ (a + b) := wide_lt ha hb
theorem abs_add_lt {i j : Int} {a : Nat} (ha : i.natAbs < 2 ^ a) (hb : j.natAbs < 2 ^ a) : (i + j).natAbs < 2 ^ (a + 1) := by
  have : (i + j).natAbs ≤ i.natAbs + j.natAbs := Int.natAbs_add_le i j
  rw [Nat.pow_succ]
  omega
theorem abs_sub_lt {i j : Int} {a : Nat} (ha : i.natAbs < 2 ^ a) (hb : j.natAbs < 2 ^ a) : (i - j).natAbs < 2 ^ (a + 1) := by
  have : (i - j).natAbs ≤ i.natAbs + j.natAbs := Int.natAbs_sub_le i j
  rw [Nat.pow_succ]
  omega
theorem pow_up {x a b : Nat} (h : x < 2 ^ a) (e : a ≤ b) : x < 2 ^ b := Nat.lt_of_lt_of_le h (Nat.pow_le_pow_right (by decide) e)
theorem Sz.d {n : Nat} {r : Rat} (h : Sz n r) : (r.den : Int).natAbs < 2 ^ n := by rw [Int.natAbs_natCast]; exact h.2
theorem den_ne (r : Rat) : (r.den : Int) ≠ 0 := by have := r.den_pos; omega
theorem add_divInt (a b : Rat) : Rat.divInt (a.num * b.den + b.num * a.den) (a.den * b.den) = a + b := by
  rw [← Rat.divInt_add_divInt _ _ (den_ne a) (den_ne b), Rat.num_divInt_den, Rat.num_divInt_den]
theorem sub_divInt (a b : Rat) : Rat.divInt (a.num * b.den - b.num * a.den) (a.den * b.den) = a - b := by
  rw [← Rat.divInt_sub_divInt _ _ (den_ne a) (den_ne b), Rat.num_divInt_den, Rat.num_divInt_den]
theorem mul_divInt (a b : Rat) : Rat.divInt (a.num * b.num) (a.den * b.den) = a * b := by
  rw [← Rat.divInt_mul_divInt, Rat.num_divInt_den, Rat.num_divInt_den]
theorem div_divInt (a b : Rat) : Rat.divInt (a.num * b.den) (a.den * b.num) = a / b := by
  rw [← Rat.divInt_mul_divInt, Rat.num_divInt_den, Rat.div_def]
  congr 1
  rw [← Rat.inv_divInt, Rat.num_divInt_den]
theorem sz_num {m n : Nat} {a b : Rat} (ha : Sz m a) (hb : Sz n b) : (a.num * b.den + b.num * a.den).natAbs < 2 ^ (m + n + 1) := abs_add_lt (abs_mul_lt ha.1 hb.d) (by rw [Nat.add_comm m n]; exact abs_mul_lt hb.1 ha.d)
theorem sz_numS {m n : Nat} {a b : Rat} (ha : Sz m a) (hb : Sz n b) : (a.num * b.den - b.num * a.den).natAbs < 2 ^ (m + n + 1) := abs_sub_lt (abs_mul_lt ha.1 hb.d) (by rw [Nat.add_comm m n]; exact abs_mul_lt hb.1 ha.d)
theorem sz_den {m n : Nat} {a b : Rat} (ha : Sz m a) (hb : Sz n b) : ((a.den : Int) * b.den).natAbs < 2 ^ (m + n) := abs_mul_lt ha.d hb.d
theorem dd_ne (a b : Rat) : (a.den : Int) * b.den ≠ 0 := Int.mul_ne_zero (den_ne a) (den_ne b)
theorem Sz.add {m n : Nat} {a b : Rat} (ha : Sz m a) (hb : Sz n b) : Sz (m + n + 1) (a + b) := by
  rw [← add_divInt]
  exact sz_divInt (dd_ne a b) (sz_num ha hb) (pow_up (sz_den ha hb) (by omega))
theorem Sz.sub {m n : Nat} {a b : Rat} (ha : Sz m a) (hb : Sz n b) : Sz (m + n + 1) (a - b) := by
  rw [← sub_divInt]
  exact sz_divInt (dd_ne a b) (sz_numS ha hb) (pow_up (sz_den ha hb) (by omega))
theorem Sz.mul {m n : Nat} {a b : Rat} (ha : Sz m a) (hb : Sz n b) : Sz (m + n) (a * b) := by
  rw [← mul_divInt]
  exact sz_divInt (dd_ne a b) (abs_mul_lt ha.1 hb.1) (sz_den ha hb)
theorem num_ne {b : Rat} (h : b ≠ 0) : b.num ≠ 0 := fun z => h (Rat.num_eq_zero.mp z)
theorem Sz.div {m n : Nat} {a b : Rat} (ha : Sz m a) (hb : Sz n b) (h0 : b ≠ 0) : Sz (m + n) (a / b) := by
  rw [← div_divInt]
  exact sz_divInt (Int.mul_ne_zero (den_ne a) (num_ne h0)) (abs_mul_lt ha.1 hb.d) (abs_mul_lt ha.d hb.1)
theorem Sz.neg {m : Nat} {a : Rat} (ha : Sz m a) : Sz m (-a) := by
  refine ⟨?_, ?_⟩
  · show (-a.num).natAbs < 2 ^ m
    rw [Int.natAbs_neg]
    exact ha.1
  · exact ha.2
theorem sz_zero : Sz 1 0 := ⟨by decide, by decide⟩
theorem sz_one : Sz 1 1 := ⟨by decide, by decide⟩
theorem rat_eq {a b : Rat} (h1 : a.num = b.num) (h2 : (a.den : Int) = b.den) : a = b := Rat.ext h1 (Int.ofNat.inj h2)
theorem rat_list_eq (a b : Rat) : decide ([a.num, (a.den : Int)] = [b.num, (b.den : Int)]) = decide (a = b) := by
  by_cases h : a = b
  · subst h; simp
  · rw [decide_eq_false h]
    refine decide_eq_false fun z => h ?_
    injection z with z1 z2
    injection z2 with z2 _
    exact rat_eq z1 z2
/-! Euclid's turns -/
theorem euc_gcd (a b : Int) : Int.gcd b (a.fmod b) = Int.gcd a b := by
  by_cases hb : b = 0
  · subst hb; rw [Int.fmod_zero]; exact Int.gcd_comm 0 a
  · rw [show a.fmod b = a - b * a.fdiv b from Int.fmod_def a b]
    rw [Int.gcd_comm b, Int.gcd_sub_mul_left_left]
theorem euc_step {a b : Int} {m : Nat} (h0 : 0 < b) (hb : b < a) (h : a.natAbs * b.natAbs < 2 ^ (m + 1)) : b.natAbs * (a.fmod b).natAbs < 2 ^ m := by
  have hr0 : 0 ≤ a.fmod b := Int.fmod_nonneg_of_pos a h0
  have hr1 : a.fmod b < b := Int.fmod_lt_of_pos a h0
  have hd : a = b * a.fdiv b + a.fmod b := (Int.mul_fdiv_add_fmod a b).symm
  have hq : 1 ≤ a.fdiv b := by
    rcases Int.lt_or_le (a.fdiv b) 1 with z | z
    · have : b * a.fdiv b ≤ 0 := Int.mul_nonpos_of_nonneg_of_nonpos (by omega) (by omega)
      omega
    · exact z
  have h2 : 2 * (a.fmod b) < a := by
    have : b * 1 ≤ b * a.fdiv b := Int.mul_le_mul_of_nonneg_left hq (by omega)
    omega
  have h3 : 2 * (a.fmod b).natAbs ≤ a.natAbs := by omega
  have h4 : 2 * (b.natAbs * (a.fmod b).natAbs) ≤ a.natAbs * b.natAbs := by
    calc 2 * (b.natAbs * (a.fmod b).natAbs) = (2 * (a.fmod b).natAbs) * b.natAbs := by rw [Nat.mul_comm b.natAbs, Nat.mul_assoc]
      _ ≤ a.natAbs * b.natAbs := Nat.mul_le_mul_right _ h3
  rw [Nat.pow_succ] at h
  omega
/-- what stands behind i turns: m is what the product may still be -/
def Euc (p q : Int) (n i : Nat) (a b : Int) : Prop := 0 ≤ a ∧ 0 ≤ b ∧ (0 < a ∨ 0 < b) ∧ Int.gcd a b = Int.gcd p q ∧ a.natAbs * b.natAbs < 2 ^ (n + 1 - max i 1) ∧ (0 < i → b < a)
theorem Euc.start {p q : Int} {n : Nat} (hq : q ≠ 0) (h : p.natAbs * q.natAbs < 2 ^ n) : Euc p q n 0 (p.natAbs : Int) (q.natAbs : Int) := by
  refine ⟨by omega, by omega, by omega, ?_, ?_, fun z => absurd z (by decide)⟩
  · exact Int.gcd_natAbs_natAbs' p q
  · rw [Int.natAbs_natCast, Int.natAbs_natCast]
    exact h
where
  Int.gcd_natAbs_natAbs' (p q : Int) : Int.gcd (p.natAbs : Int) (q.natAbs : Int) = Int.gcd p q := by
    unfold Int.gcd
    rw [Int.natAbs_natCast, Int.natAbs_natCast]
theorem Euc.next {p q : Int} {n i : Nat} {a b : Int} (h : Euc p q n i a b) (hi : i ≤ n) (hb : b ≠ 0) : Euc p q n (i + 1) b (a.fmod b) := by
  obtain ⟨h1, h2, h3, h4, h5, h6⟩ := h
  have b0 : 0 < b := by omega
  have hr0 : 0 ≤ a.fmod b := Int.fmod_nonneg_of_pos a b0
  have hr1 : a.fmod b < b := Int.fmod_lt_of_pos a b0
  refine ⟨h2, hr0, .inl b0, by rw [euc_gcd, h4], ?_, fun _ => hr1⟩
  by_cases z : b < a
  · rcases Nat.eq_zero_or_pos (n + 1 - max i 1) with e | e
    · rw [e] at h5
      have := h5
      have : 1 ≤ a.natAbs * b.natAbs := Nat.mul_pos (by omega) (by omega)
      omega
    · have e1 : n + 1 - max i 1 = (n + 1 - max i 1 - 1) + 1 := by omega
      rw [e1] at h5
      exact pow_up (euc_step b0 z h5) (by omega)
  · have hi0 : i = 0 := by
      rcases Nat.eq_zero_or_pos i with e | e
      · exact e
      · exact absurd (h6 e) z
    subst hi0
    have hle : (a.fmod b).natAbs ≤ a.natAbs := by
      by_cases z2 : a < b
      · rw [Int.fmod_eq_emod_of_nonneg a h2, Int.emod_eq_of_lt h1 z2]; exact Nat.le_refl _
      · have : a = b := by omega
        rw [this, Int.fmod_self]; omega
    have : b.natAbs * (a.fmod b).natAbs ≤ a.natAbs * b.natAbs := by
      rw [Nat.mul_comm]
      exact Nat.mul_le_mul_right _ hle
    exact Nat.lt_of_le_of_lt this h5
theorem Euc.ended {p q : Int} {n : Nat} {a b : Int} (h : Euc p q n (n + 1) a b) : b = 0 := by
  obtain ⟨h1, h2, h3, h4, h5, h6⟩ := h
  have hlt := h6 (by omega)
  rw [show n + 1 - max (n + 1) 1 = 0 by omega, Nat.pow_zero] at h5
  rcases Nat.eq_zero_or_pos b.natAbs with e | e
  · omega
  · have : 1 ≤ a.natAbs * b.natAbs := Nat.mul_pos (by omega) e
    omega
theorem Euc.gcd {p q : Int} {n i : Nat} {a : Int} (h : Euc p q n i a 0) : a = (Int.gcd p q : Int) := by
  obtain ⟨h1, h2, h3, h4, h5, h6⟩ := h
  rw [Int.gcd_zero_right] at h4
  omega

/-! ### own exceptions: made without arguments, a local def called in a try, isinstance of what is caught -/
section
variable {X : Cx} {C : Addr} {bmB : List Value} {B newId initId : String}
/-- X(), no argument, no own __init__ -/
theorem pmk_own0 {x : Str} {p pos : Pos} (F : ExcBaseFacts B newId initId bmB) (q : PySem.W.excIn X.K C bmB newId = true) (gC : X.mg x = some (.ref C))
    (kC : PySem.W.keepIn X.K (.ref C) = true) (r : Raises X (.ref C)) (hg : Gl X x)
    (hdb : (x == ("__debug__" : Str)) = false := by decide) :
    PMk X (.Call (.Name x p) [] [] pos) (fun _ H Q => Q (.ref C) none H) := by
  intro pins s σ H Q I h
  refine wpAny_Call_Name_kw (ld_glob I hg gC ?_ hdb)
  refine PySem.W.callWith_K0 I.kIn kC ?_
  obtain ⟨bm, N, nm, qn, bs, hdct, sn, sub, ab, col, dd, k0, k1, k2, k3, k5, mN, hC, hN, hni, T⟩ :=
    exc_obj I.kIn q
  show wpAny _ _ (call (.ref C) []) _ _ _
  exact wpAny_call_exc_subT F T hC hN hni (fun h' e hm =>
    mk_of I hm r h (I.hok.gone hm.new)) (Nat.zero_le _)
variable {CX : CXT} {k i : Nat} {f : Addr} {fd : FuncData} {ps : List Str} {sp : Sp} {E : L2.St → XK} {x : Str} {p pos : Pos} {e : Expr} {es : List Expr} {t : TA}
def tCallLS (i : Nat) (f : Addr) (sp : Sp) (E : L2.St → XK) (t : TA) : TE := fun σ H Q => σ[i]? = some (some (.ref f)) ∧ t σ H fun vs H1 => sp vs H1 Q (E σ)
/-- a local name that holds a def, called; what it lets out is wished for at the slots -/
theorem pe_callLS (F : FnOk X.prog X.w X.K X.mg X.base CX k f fd ps sp) (hr : Room k X.A) (hN : X.N[i]? = some x) (hv : Vis X.env.scope x)
    (hk : PySem.W.keepIn X.K (.ref f) = true) (hb : Binds X.K fd ps []) (hx : ∀ σ, PassesAt CX X σ (E σ)) (ha : PA X (e :: es) t)
    (hdb : (x == ("__debug__" : Str)) = false := by decide)
    (hcd : (x == ("__classdict__" : Str)) = false := by decide)
    (he : starEach (e :: es) X.env = (false, eval e X.env) :: starEach es X.env := by rfl)
    (hpl : (backTo pos (starEach es X.env)).any (·.1) = false := by rfl) :
    PE X (.Call (.Name x p) (e :: es) [] pos) (tCallLS i f sp E t) := by
  refine ⟨fun pins s σ H Q I ⟨hs, ht⟩ => ?_⟩
  have ld := (pe_var (pos := p) hN hv hdb hcd).run pins s σ H
    (fun v H1 => v = .ref f ∧ H1 = H) I ⟨.ref f, hs, rfl, rfl⟩
  refine wpAny_Call_Name_kw (thn ld fun u s1 z => ?_)
  obtain ⟨v, H1, I1, r1, rfl, rfl⟩ := z
  cases r1
  refine PySem.W.callWith_K (h₀ := X.base) I.ok.mod.kin hk
    (thn (ha.run pos pins s1 σ _ _ I1 ht) fun us s2 z2 => ?_) he hpl
  obtain ⟨vs, H2, I2, r, q⟩ := z2
  exact ⟨I2.kIn, run_fnS F hr hb (hx σ) I2 r q⟩
/-- isinstance(e, c) within the suite, e what it caught -/
def tIsE (K : PySem.W.Frag) (D a : Addr) (cls : Value) (d : Option Addr) (t : TA) : TE := fun σ H Q => cls = .ref D ∧ d = none ∧ tCB (rIsE K D a) t σ H Q
theorem pe_isE {a D : Addr} {oe : Obj} {pn : List (Addr × Obj)} {cls : Value} {d : Option Addr} (C : ExcC X.K D) (hz : Zc cls d oe) (hf : ∃ vs, oe.data = .fields vs)
    (hg : Gl (X.suite a ((a, oe) :: pn)) "isinstance") (hm : X.mg "isinstance" = none) (ha : PA (X.suite a ((a, oe) :: pn)) (e :: es) t)
    (he : starEach (e :: es) X.env = (false, eval e X.env) :: starEach es X.env := by rfl)
    (hpl : (backTo pos (starEach es X.env)).any (·.1) = false := by rfl) :
    PE (X.suite a ((a, oe) :: pn)) (.Call (.Name "isinstance" p) (e :: es) [] pos) (tIsE X.K D a cls d t) := by
  refine ⟨fun pins s σ H Q I h => ?_⟩
  obtain ⟨rfl, rfl, h⟩ := h
  exact (pe_callB (call_isE C hz hf) hg hm (by decide +kernel) ha (by decide) (by decide) he hpl).run pins s σ H Q I h
end
theorem kit_sub {K : PySem.W.Frag} {C D : Addr} (hd : PySem.W.hasDictIn K C = true) (ty : PySem.W.typeIn K (.ref C) = some (.type "type"))
    (s : PySem.W.subIn K (.ref D) (.ref C) = some true) : PySem.W.kitOne K (.ref D) (.ref C) = some true := by
  obtain ⟨cd, hc, _⟩ := PySem.W.any_some hd
  unfold PySem.W.kitOne
  split
  · rfl
  · show (if ((PySem.W.clsIn K C).isSome && PySem.W.typeIn K (.ref C) == some (.type "type")) = true
      then PySem.W.subIn K (.ref D) (.ref C) else none) = some true
    rw [hc, ty]
    exact s

theorem isik {X : Cx} {K : PySem.W.Frag} (h : X.K = K) : CallR X (.builtin "isinstance") (rIsi K) := by subst h; exact call_isi

/-! ### dicts: the same entries, the values as a list, get with None; texts in order -/
section
variable {X : Cx}
theorem eqAt_self {A : Around} {s : Shared} {v : V} {u u' : Value} (r : RelV v u) (r' : RelV v u') (f : flatB v = true ∨ ∃ a, v = .ref a) : SeqAt.EqAt A s u u' true := by
  rcases f with f | ⟨a, rfl⟩
  · exact eqAt_same r r' f
  · obtain rfl : u = Value.ref a := r
    obtain rfl : u' = Value.ref a := r'
    exact SeqAt.EqAt.same _
theorem hits_self {κ : Type} [DecidableEq κ] {A : Around} {s : Shared} {kvs : List (κ × V)} {vb : List (κ × Value)} (rb : KV kvs vb) {ks : List (κ × V)} {va : List (κ × Value)} (ra : KV ks va) :
    (∀ p ∈ ks, valV kvs p.1 = some p.2 ∧ (flatB p.2 = true ∨ ∃ a, p.2 = .ref a)) → PySem.W.KeqHits A s vb va true := by
  unfold KV at ra
  induction ra with
  | nil => intro _; exact .nil
  | @cons p q ps qs h t ih =>
    intro hp
    obtain ⟨h1, h2⟩ := h
    obtain ⟨e, f⟩ := hp p List.mem_cons_self
    have rr : RelO (some p.2) (valueAt vb p.1) := by rw [← e]; exact rb.val p.1
    obtain ⟨y, hy, ry⟩ := rr.some_of
    obtain ⟨k, v⟩ := q
    have h1' : p.1 = k := h1
    rw [h1'] at hy
    show PySem.W.KeqHits A s vb ((k, v) :: qs) (true && true)
    exact .hit hy (eqAt_self h2 ry f) (ih fun p' hm => hp p' (List.mem_cons_of_mem _ hm))
/-- d == e, both with the very same entries -/
def rEqDict : V → V → Hp → VK → Prop := fun x y H Q => ∃ a b kvs, x = .ref a ∧ y = .ref b ∧ Rd H a (.dK kvs) ∧ Rd H b (.dK kvs) ∧ (kvs.map (·.1)).Nodup ∧ (∀ p ∈ kvs, flatB p.2 = true ∨ ∃ a, p.2 = .ref a) ∧ Q (.bl true) H
theorem op_eq_dictS (hu : X.A.units < cLine) : OpR X (compareOp .Eq) rEqDict := by
  intro pins s σ H x y v u Q I rx ry h
  obtain ⟨a, b, kvs, rfl, rfl, ea, eb, nd, fl, q⟩ := h
  obtain rfl : v = Value.ref a := rx
  obtain rfl : u = Value.ref b := ry
  obtain ⟨_, ya, va, ra, da⟩ := dk_rd I.hok ea
  obtain ⟨_, yb, vb, rb, db⟩ := dk_rd I.hok eb
  have hl : va.length = vb.length := ra.length.symm.trans rb.length
  exact PySem.W.keq_eq (knd := mixKind X.prog X.w) (r := true) ya yb da db hu (fun _ => hits_self rb ra fun p hp => ⟨val_nodup nd p hp, fl p hp⟩) (fin_bl I q (by simp [hl]))
/-- the view d.values() at p -/
def valsO (p d : Addr) : HO := .ext fun h => h.IsValuesView p d
theorem valsO_ok {P : Program} {w : World} {H : Hp} {h : Heap} {p d : Addr} (e : h.get? p = some { cls := .type "dict_values", data := .fields #[.ref d] }) : ObjOk P w H h p (valsO p d) :=
  ⟨⟨_, e, rfl, rfl⟩, ⟨_, e⟩, fun h1 h2 x k => let ⟨o, ho, r⟩ := x; ⟨o, k o ho, r⟩⟩
def rValues : V → List V → Hp → VK → Prop := fun x xs H Q => ∃ (a : Addr) (kvs : List (Key × V)), x = .ref a ∧ xs = [] ∧ Rd H a (.dK kvs) ∧ ∀ p, H p = none → Q (.ref p) (upd H p (valsO p a))
theorem mt_valuesD : MtR X "dict.values" rValues := by
  intro pins s σ H x xs v us Q I rx rxs h
  obtain ⟨a, kvs, rfl, rfl, ha, q⟩ := h
  cases rx
  cases rxs
  obtain ⟨z, hd, vs, rel, dd⟩ := dk_rd I.hok ha
  have hf : H s.heap.objs.size = none := I.hok.fresh (Nat.le_refl _)
  refine call_meetsIn PySem.F.slot_dict_values dd.typeIs PySem.F.entry_dict_values (PySem.F.args_dict_values_1 _) (meets_dict_values (mixKind X.prog X.w) a hd) ⟨⟨vs, dd⟩, ?_⟩
  exact ⟨.ref s.heap.objs.size, upd H s.heap.objs.size (valsO s.heap.objs.size a), I.laid (t' := s.toks) (fun b u e => Heap.get?_push_of_some _ e) (Nat.le_refl _) (valsO_ok (Heap.get?_push_size _ rfl)), rfl, q _ hf⟩
theorem kv_vals {κ : Type} {kvs : List (κ × V)} {vs : List (κ × Value)} (r : KV kvs vs) : Vals (kvs.map (·.2)) (vs.map (·.2)) := by
  unfold KV at r
  induction r with
  | nil => exact .nil
  | cons h t ih => exact .cons h.2 ih
/-- list of a view of values -/
def rListVals : List V → Hp → VK → Prop := fun xs H Q => ∃ (p a : Addr) (kvs : List (Key × V)), xs = [.ref p] ∧ H p = some (valsO p a) ∧ Rd H a (.dK kvs) ∧ ∀ q, H q = none → Q (.ref q) (upd H q (.lst (kvs.map (·.2))))
theorem call_listVals (hcalm : X.calm = true) : CallR X (.type "list") rListVals := by
  intro pins s σ H xs us Q I r q
  obtain ⟨p, a, kvs, rfl, hp, hd, q⟩ := q
  obtain ⟨u, rfl, rx⟩ := vals1 r
  cases rx
  obtain ⟨z, lo, vs, rel, dd⟩ := dk_rd I.hok hd
  obtain ⟨ep, hat⟩ := dd.dictAt
  have hv : s.heap.IsValuesView p a := (I.hok p _ hp).1
  refine PySem.W.kdl_call (PySem.W.kdl_values (knd := mixKind X.prog X.w) (kvs := vs) (ep := ep)) (I.ok.hd hcalm) ⟨hv, hat⟩ (by rw [← rel.length]; exact z) fun h' tk acc c' hk hD hacc => ?_
  have ev : acc.toList = vs.map (·.2) := PySem.W.kdl_vals_eq acc.toList (by rw [Array.length_toList]; exact hacc.1) fun j v e => hacc.2 j v (by rw [← Array.getElem?_toList]; exact e)
  refine ⟨.ref s.heap.objs.size, upd H s.heap.objs.size (.lst (kvs.map (·.2))), I.laid (t' := tk) hk (Nat.le_refl _)
    (show ObjOk X.prog X.w _ _ _ (.lst (kvs.map (·.2))) from ⟨by rw [List.length_map]; exact z, acc.toList, c', by rw [ev]; exact kv_vals rel, by rw [Array.toArray_toList]; exact hD⟩), rfl, q _ (I.hok.fresh (Nat.le_refl _))⟩
/-- d.get(y, x), y may be None (d's keys ints and texts then) -/
theorem d_getNone {pins : List (Addr × Obj)} {σ : L2.St} {H : Hp} {s : Shared} {a : Addr} {kvs : List (Key × V)} {A : Around} {E Q : Value → Shared → Prop} {r : Value} (I : Inv X pins σ H s) (e : Rd H a (.dK kvs)) (h : ∀ s', Inv X pins σ H s' → Q r s') :
    wpAny (model X.prog X.w) A (call (.builtin "dict.get") [.ref a, .none, r]) Q E s := by
  obtain ⟨_, hd, vs, _, dd⟩ := dk_rd I.hok e
  obtain ⟨f, hm, hf⟩ := none_map dd
  refine call_meetsIn PySem.F.slot_dict_get dd.typeIs PySem.F.entry_dict_get (PySem.F.args_dict_get_3 _ _ _) (meets_dict_get_default (noneKind X.prog X.w) a (k := none) rfl hd r) ⟨_, hm, ?_⟩
  rw [hf]
  exact h _ (I.tok _)
def tDGet2N (td ty tx : TE) : TE := fun σ H Q => td σ H fun x H1 => ∃ a, x = .ref a ∧ IsD H1 a ∧ ty σ H1 fun y H2 => tx σ H2 fun z H3 => (∃ o, DGet H3 a y o ∧ Q (o.getD z) H3) ∨ ∃ kvs, y = .non ∧ Rd H3 a (.dK kvs) ∧ Q z H3
theorem pe_dget2N {o e f : Expr} {apos cpos : Pos} {td ty tx : TE} (hu : X.A.units + 1 < cLine) (ho : PE X o td) (he : PE X e ty) (hf : PE X f tx) (m : M2 X o "get" apos e f cpos) : PE X (.Call (.Attribute o "get" apos) [e, f] [] cpos) (tDGet2N td ty tx) := by
  refine ⟨fun pins s σ H Q I h => ?_⟩
  refine wpAny_Call_method m.base m.few m.line PySem.F.plainAttrs_dict PySem.F.slot_dict_get PySem.F.type_dict_get (thn (ho.run pins s σ H _ I h) fun u s1 ⟨x, H1, I1, rx, a, ex, d, q1⟩ => ?_)
  subst ex
  obtain rfl : u = Value.ref a := rx
  obtain ⟨t1, t2, _⟩ := isD_at I1 d
  refine ⟨t1, t2, ?_⟩
  rw [m.trees]
  refine Calls.callWith_builtin rfl (Calls.evalArgs_plain (Calls.spliced_cons (thn (he.run pins s1 σ H1 _ I1 q1) fun iv s2 ⟨y, H2, I2, ry, q2⟩ =>
    Calls.spliced_cons (thn (hf.run pins s2 σ H2 _ I2 q2) fun fv s3 ⟨z, H3, I3, rz, q3⟩ => Calls.spliced_nil ?_))))
  rcases q3 with ⟨ov, g, q3⟩ | ⟨kvs, rfl, g, q3⟩
  · exact d_get2 hu I3 g ry rz fun w' s4 I4 rw' => ⟨_, H3, I4, rw', q3⟩
  · obtain rfl : iv = Value.none := ry
    exact d_getNone I3 g fun s4 I4 => ⟨_, H3, I4, rz, q3⟩
end
/-- texts in order, by their code points -/
def leS (a b : Str) : Prop := ltCps b.cps.toList a.cps.toList = false
theorem leS_iff {a b : Str} : leS a b ↔ ¬ b.cps.toList < a.cps.toList := by
  unfold leS
  rw [PyProof.Rows.ltCps_eq]
  exact decide_eq_false_iff_not
theorem leS_anti {a b : Str} (h1 : leS a b) (h2 : leS b a) : a = b := by
  rw [leS_iff] at h1 h2
  have e : a.cps.toList = b.cps.toList := List.le_antisymm (List.not_lt.mp h1) (List.not_lt.mp h2)
  cases a with
  | mk x =>
    cases b with
    | mk y => exact congrArg Str.mk (Array.toList_inj.mp e)
theorem leS_trans {a b c : Str} (h1 : leS a b) (h2 : leS b c) : leS a c := by
  rw [leS_iff] at *
  exact List.not_lt.mpr (List.le_trans (List.not_lt.mp h1) (List.not_lt.mp h2))
theorem rising_pw : ∀ (l : List Str) (p : Str), risingS p l = true → (p :: l).Pairwise leS
  | [], p, _ => List.pairwise_cons.mpr ⟨fun _ h => absurd h List.not_mem_nil, .nil⟩
  | x :: r, p, h => by
    obtain ⟨h1, h2⟩ := Bool.and_eq_true_iff.mp h
    have ih := rising_pw r x h2
    have hpx : leS p x := by
      unfold leS
      revert h1
      cases ltCps x.cps.toList p.cps.toList with
      | true => intro h; cases h
      | false => intro _; rfl
    refine List.pairwise_cons.mpr ⟨fun y hy => ?_, ih⟩
    rcases List.mem_cons.mp hy with rfl | hy
    · exact hpx
    · exact leS_trans hpx ((List.pairwise_cons.mp ih).1 y hy)
theorem sorted_pw : ∀ {l : List Str}, sortedS l = true → l.Pairwise leS
  | [], _ => .nil
  | x :: r, h => rising_pw r x h
theorem pw_uniq {α : Type} {le : α → α → Prop} (anti : ∀ a b, le a b → le b a → a = b) : ∀ {l m : List α}, l.Pairwise le → m.Pairwise le → l.Perm m → l = m
  | [], m, _, _, p => (List.nil_perm.mp p).symm
  | x :: r, [], _, _, p => absurd p.length_eq (by simp)
  | x :: r, y :: t, h1, h2, p => by
    obtain ⟨a1, b1⟩ := List.pairwise_cons.mp h1
    obtain ⟨a2, b2⟩ := List.pairwise_cons.mp h2
    have e : x = y := by
      have hx : x ∈ y :: t := p.subset List.mem_cons_self
      have hy : y ∈ x :: r := p.symm.subset List.mem_cons_self
      rcases List.mem_cons.mp hx with e | hx
      · exact e
      · rcases List.mem_cons.mp hy with e | hy
        · exact e.symm
        · exact anti _ _ (a1 y hy) (a2 x hx)
    subst e
    rw [pw_uniq anti b1 b2 (List.Perm.cons_inv p)]
theorem sortedS_uniq {l m : List Str} (h1 : sortedS l = true) (h2 : sortedS m = true) (p : l.Perm m) : l = m := pw_uniq (fun _ _ => leS_anti) (sorted_pw h1) (sorted_pw h2) p

/-! ### sorted(d), the keys whole numbers, any number of them -/
section
variable {X : Cx}
def rSortedDI : List V → Hp → VK → Prop := fun xs H Q => ∃ (a : Addr) (kvs : List (Key × V)) (ks : List Int), xs = [.ref a] ∧ Rd H a (.dK kvs) ∧ kvs.map (·.1) = ks.map Sum.inl ∧
    ∀ (ys : List Int) (p : Addr), ys.Perm ks → ys.Pairwise (· ≤ ·) → H p = none → Q (.ref p) (upd H p (.lst (ys.map V.int)))
theorem cr_sortedDI (hcalm : X.calm = true) : CallR X (.builtin "sorted") rSortedDI := by
  intro pins s σ H xs us Q I r q
  obtain ⟨a, kvs, ks, ex, hd, hks, q⟩ := q
  subst ex
  obtain ⟨u, eu, rx⟩ := vals1 r
  subst eu
  cases rx
  obtain ⟨z, lo, vs, rel, dd⟩ := dk_rd I.hok hd
  obtain ⟨ep, hat⟩ := dd.dictAt
  have hkeys : vs.map (·.1) = ks.map Sum.inl := rel.keys.symm.trans hks
  have hl : vs.length = ks.length := by
    have e := congrArg List.length hkeys
    rw [List.length_map, List.length_map] at e
    exact e
  have h16 : vs.length ≤ sizeLine := by rw [← rel.length]; exact z
  refine Calls.call_function_entry PyProof.Rows.kind_sorted PyProof.Rows.plain_sorted PyProof.Rows.entry_sorted (PyProof.Rows.args_sorted1 _) ?_
  unfold Builtin.«sorted»
  refine wpAny_bind (m := checkCount "sorted" 1 1 _) (wpAny_pure ?_)
  refine wpAny_bind (PySem.W.kdu_collect (A := X.A.in1) (PySem.W.kdl_dict (knd := mixKind X.prog X.w) (kvs := vs) (ep := ep) lo) (I.ok.hd hcalm) hat h16 fun h' tk acc hk hacc => ?_)
  have hal : acc.toList.length = ks.length := by rw [Array.length_toList, hacc.1, hl]
  have hS : IntsAre acc.toList ks := ints_each hal fun j v e => by
    obtain ⟨k, x, e1, e2⟩ := hacc.2 j v (by rw [← Array.getElem?_toList]; exact e)
    have e3 : (vs.map (·.1))[j]? = some k := by rw [List.getElem?_map, e1]; rfl
    rw [hkeys, List.getElem?_map] at e3
    cases e4 : ks[j]? with
    | none => rw [e4] at e3; cases e3
    | some y =>
      rw [e4] at e3
      have e5 : Sum.inl y = k := Option.some.inj e3
      subst e5
      rcases keyIs_shape (show keyIs (Sum.inl y) v = true from e2) with ⟨i, t, ek, ev⟩ | ⟨z, t, ek, ev⟩
      · cases ek
        exact ⟨y, t, rfl, ev⟩
      · cases ek
  have I1 : Inv X pins σ H { s with heap := h', toks := tk } := I.kept hk
  have hsz : acc.toList.length ≤ sizeLine := by rw [hal, ← hl]; exact h16
  refine wpAny_bind (wpAny_newList ?_ hsz)
  have hoL : (h'.push (seqObj "list" acc.toList.toArray 0)).get? h'.objs.size = some (seqObj "list" acc.toList.toArray 0) := Heap.get?_push_size _ rfl
  show wpAny _ _ _ _ _ { s with heap := h'.push (seqObj "list" acc.toList.toArray 0), toks := tk }
  refine wpAny_bind (wpAny_holding (wpAny_call_entry PyProof.Rows.slot_list_sort ⟨_, hoL, rfl⟩ PyProof.Rows.entry_list_sort
    (SrtO.list_sort_ord (s := { s with heap := h'.push (seqObj "list" acc.toList.toArray 0), toks := tk }) SrtO.swo_int hoL hsz (fun h2 => SrtO.ints_sortable hS h2) fun out h1 h2 => ⟨_, rfl, ?_⟩) (PyProof.Rows.args_list_sort _)))
  obtain ⟨k1, k2, k3⟩ := SrtO.ints_out hS h1 h2
  obtain ⟨e', he'⟩ := PyProof.Rows.sortedHeap_at (vs := acc.toList) (out := out.toArray) hoL
  have hlen : ((out.map SrtO.iv).map V.int).length ≤ sizeLine := by
    rw [List.length_map, k2.length_eq, ← hl]
    exact h16
  refine wpAny_pure ⟨_, rfl, .ref h'.objs.size, upd H h'.objs.size (.lst ((out.map SrtO.iv).map V.int)), I1.laid (t' := tk) (fun b u e => ?_) (Nat.le_refl _)
    (show ObjOk X.prog X.w _ _ _ (.lst ((out.map SrtO.iv).map V.int)) from ⟨hlen, out, e', vals_of_ints k1, he'⟩), rfl, q _ _ k2 k3 (I1.hok.fresh (Nat.le_refl _))⟩
  have hb : b < h'.objs.size := Heap.lt_size e
  rw [PyProof.Rows.sortedHeap_old (Nat.ne_of_lt hb) (by rw [size_push']; exact Nat.lt_succ_of_lt hb)]
  exact Heap.get?_push_of_some _ e
end

/-! ### own exceptions with an own __init__ that stores one field; an own class whose __init__ may raise, made in a try -/
section
variable {X : Cx} {CX : CXT} {k : Nat} {f C : Addr} {fd : FuncData} {ps : List Str} {sp : Sp} {E : L2.St → XK} {x : Str} {p pos : Pos} {e : Expr} {es : List Expr} {t : TA}
theorem run_makeS {pins : List (Addr × Obj)} {σ : L2.St} {H : Hp} {s : Shared} {Q : VK} {us : List Value} {vs : List V} (M : Mk X.K C f) (F : FnOk X.prog X.w X.K X.mg X.base CX k f fd ps sp) (hr : Room (k + 1) X.A) (hb : Binds X.K fd ps [])
    (hx : PassesAt CX X σ (E σ)) (I : Inv X pins σ H s) (r : Vals vs us)
    (h : ∀ x dx, H x = none → H dx = none → dx ≠ x → sp (.ref x :: vs) (upd (upd H dx (.own x)) x (.ins C dx [])) (fun v H2 => v = .non ∧ Q (.ref x) H2) (E σ)) :
    wpAny (model X.prog X.w) X.A (call (.ref C) us) (EP X pins σ Q) X.xe s := by
  have hq := h (s.heap.objs.size + 1) s.heap.objs.size (I.hok.fresh (Nat.le_succ _)) (I.hok.fresh (Nat.le_refl _)) (Nat.ne_of_lt (Nat.lt_succ_self _))
  have I2 := Inv.made (C := C) I
  have r2 : Vals (V.ref (s.heap.objs.size + 1) :: vs) (Value.ref (s.heap.objs.size + 1) :: us) := .cons rfl r
  have hl : (Value.ref (s.heap.objs.size + 1) :: us).length = ps.length := by
    have e := r2.length
    rw [F.len _ _ _ _ hq] at e
    exact e.symm
  have hb' := hb s (Value.ref (s.heap.objs.size + 1) :: us)
  refine wpAny_call (make_map (f := f) I.kIn M.makes M.init (beq_iff_eq.mp M.fn) (codeAny_mono (F.run _ X.stack _ _ ⟨Value.ref (s.heap.objs.size + 1) :: us, []⟩ (Value.ref (s.heap.objs.size + 1) :: us) _ _ (E σ) (hr.make C us [])
    (I2.env0.make C us []) (by simpa using hb _ (Value.ref (s.heap.objs.size + 1) :: us) I2.kIn (by simpa using hl)) r2 hq) fun r s' hq' => ?_))
  cases r with
  | error e => exact hx pins _ _ e s' I2 hq'
  | ok fl =>
    cases fl with
    | ret u =>
      obtain ⟨v, H', I3, rv, ev, q3⟩ := I2.after hq'
      subst ev
      exact ⟨rv, ⟨V.ref (s.heap.objs.size + 1), H', I3, rfl, q3⟩⟩
    | next => exact False.elim hq'
    | brk => exact False.elim hq'
    | cont => exact False.elim hq'
def tMakeS (C : Addr) (sp : Sp) (E : L2.St → XK) (t : TA) : TE := fun σ H Q => t σ H fun vs H1 => ∀ x dx, H1 x = none → H1 dx = none → dx ≠ x → sp (.ref x :: vs) (upd (upd H1 dx (.own x)) x (.ins C dx [])) (fun v H2 => v = .non ∧ Q (.ref x) H2) (E σ)
theorem pe_makeS (M : Mk X.K C f) (F : FnOk X.prog X.w X.K X.mg X.base CX k f fd ps sp) (hr : Room (k + 1) X.A) (hg : Gl X x) (hm : X.mg x = some (.ref C)) (hb : Binds X.K fd ps []) (hx : ∀ σ, PassesAt CX X σ (E σ))
    (ha : PA X (e :: es) t) (hdb : (x == ("__debug__" : Str)) = false := by decide) (he : starEach (e :: es) X.env = (false, eval e X.env) :: starEach es X.env := by rfl) (hpl : (backTo pos (starEach es X.env)).any (·.1) = false := by rfl) :
    PE X (.Call (.Name x p) (e :: es) [] pos) (tMakeS C sp E t) := by
  refine ⟨fun pins s σ H Q I h => ?_⟩
  refine wpAny_Call_Name_kw (ld_glob I hg hm ?_ hdb)
  refine PySem.W.callWith_K (h₀ := X.base) I.ok.mod.kin M.kp (thn (ha.run pos pins s σ H _ I h) fun us s1 ⟨vs, H1, I1, r, q⟩ => ⟨I1.kIn, ?_⟩) he hpl
  exact run_makeS M F hr hb (hx σ) I1 r q
/-- the __init__ of an exception that stores its one argument -/
def sp_exc1 (K : PySem.W.Frag) (C : Addr) (fld : Str) : Sp := fun vs H Q _ => ∃ (a : Addr) (v : V), vs = [.ref a, v] ∧ H a = some (exo a C none) ∧ ∀ dx, H dx = none → dx ≠ a → Q .non (upd (upd H dx (exd dx [(fld, v)])) a (exo a C (some dx)))
end
/-- X(v): the exception is let go; its dict holds the field -/
theorem exc1_made {K : PySem.W.Frag} {C a : Addr} {fld : Str} {v : V} {H1 : Hp} {Q : XK} {E : XK} (ha : H1 a = none) (q : ∀ d H', Same H1 H' → H1 d = none → H' d = some (.xd [(fld, v)]) → Q (.ref C) (some d) H') :
    sp_exc1 K C fld (.ref a :: ([v] ++ [])) (upd H1 a (exo a C none)) (fun v H2 => v = .non ∧ ∃ (d : Addr) (fs : List (Str × V)), H2 a = some (exo a C (some d)) ∧ H2 d = some (exd d fs) ∧ H1 d = none ∧ Q (.ref C) (some d) (upd (del H2 a) d (.xd fs))) E := by
  refine ⟨a, v, rfl, upd_same, fun dx hdx ne => ⟨rfl, dx, [(fld, v)], upd_same, ?_, ?_, ?_⟩⟩
  · rw [upd_ne ne, upd_same]
  · rw [upd_ne ne] at hdx
    exact hdx
  · have h0 : H1 dx = none := by rw [upd_ne ne] at hdx; exact hdx
    refine q dx _ (fun b o hb => ?_) h0 upd_same
    have n1 : b ≠ a := ne_of_none hb ha
    have n2 : b ≠ dx := ne_of_none hb h0
    rw [upd_ne n2, del_ne n1, upd_ne n1, upd_ne n2, upd_ne n1]
    exact hb
theorem refs_sub (a : Addr) : PySem.HandSPX.refsVE [.ref a, .type "ValueError", .type "Exception", .type "BaseException", .type "object"] = true := by
  show PySem.HandSPX.refsVE [.type "ValueError", .type "Exception", .type "BaseException", .type "object"] = true
  decide +kernel

/-! ### own methods that may raise, called in a try -/
section
variable {X : Cx} {CX : CXT} {k : Nat} {f C : Addr} {fd : FuncData} {ps : List Str} {sp : Sp} {E : L2.St → XK} {x m : Str} {p pos apos : Pos} {e o : Expr} {es : List Expr} {ta : TE} {t : TA}
def tMethS (C : Addr) (m : Str) (sp : Sp) (E : L2.St → XK) (ta : TE) (t : TA) : TE := fun σ H Q => ta σ H fun x H1 => ∃ a dx fs, x = .ref a ∧ H1 a = some (.ins C dx fs) ∧ fs.lookup m = none ∧ t σ H1 fun vs H2 => sp (x :: vs) H2 Q (E σ)
theorem pe_meth0S {pl : Sem Bool} (he : PE X o ta) (c : Cls X.K C) (hm : Meth X.K C m f) (F : FnOk X.prog X.w X.K X.mg X.base CX k f fd ps sp) (hr : Room k X.A) (hb : Binds X.K fd ps []) (hx : ∀ σ, PassesAt CX X σ (E σ))
    (ht : eval (.Call (.Attribute o m apos) [] [] pos) X.env = (do
      let ov ← eval o X.env
      standAt apos.atName
      let (f, first) ← holding [ov] (getMethod ov m pl)
      callWith pos f first (backTo pos (starEach [] X.env)) (backToKw pos (keywordEach [] X.env))) := by rfl) :
    PE X (.Call (.Attribute o m apos) [] [] pos) (tMethS C m sp E ta tNil) := by
  refine ⟨fun pins s σ H Q I h => ?_⟩
  refine PySem.W.methodCall_KW (pl := pl) (thn (he.run pins s σ H _ I h) fun u s1 ⟨x, H1, I1, rx, a, dx, fs, ex, ea, l, q⟩ => ?_) ht
  subst ex
  obtain rfl : u = Value.ref a := rx
  refine getmeth_ok I1 ea c hm l ?_
  exact PySem.W.callWith_K0 (first := [.ref a]) I1.kIn hm.kp (run_fnS (us := [.ref a]) (vs := [.ref a]) F hr hb (hx σ) I1 (.cons rfl .nil) q)
theorem pe_methS {pl : Sem Bool} (he : PE X o ta) (c : Cls X.K C) (hm : Meth X.K C m f) (F : FnOk X.prog X.w X.K X.mg X.base CX k f fd ps sp) (hr : Room k X.A) (hb : Binds X.K fd ps []) (hx : ∀ σ, PassesAt CX X σ (E σ)) (ha : PA X (e :: es) t)
    (ht : eval (.Call (.Attribute o m apos) (e :: es) [] pos) X.env = (do
      let ov ← eval o X.env
      standAt apos.atName
      let (f, first) ← holding [ov] (getMethod ov m pl)
      callWith pos f first (backTo pos (starEach (e :: es) X.env)) (backToKw pos (keywordEach [] X.env))) := by rfl)
    (hst : starEach (e :: es) X.env = (false, eval e X.env) :: starEach es X.env := by rfl) (hpl : (backTo pos (starEach es X.env)).any (·.1) = false := by rfl) :
    PE X (.Call (.Attribute o m apos) (e :: es) [] pos) (tMethS C m sp E ta t) := by
  refine ⟨fun pins s σ H Q I h => ?_⟩
  refine PySem.W.methodCall_KW (pl := pl) (thn (he.run pins s σ H _ I h) fun u s1 ⟨x, H1, I1, rx, a, dx, fs, ex, ea, l, q⟩ => ?_) ht
  subst ex
  obtain rfl : u = Value.ref a := rx
  refine getmeth_ok I1 ea c hm l ?_
  refine PySem.W.callWith_K (first := [.ref a]) (h₀ := X.base) I.ok.mod.kin hm.kp (thn (ha.run pos pins s1 σ H1 _ I1 q) fun us s2 ⟨vs, H2, I2, r, q2⟩ => ⟨I2.kIn, ?_⟩) hst hpl
  exact run_fnS (us := .ref a :: us) (vs := .ref a :: vs) F hr hb (hx σ) I2 (.cons rfl r) q2
end
theorem mk_sameX {H : Hp} {x dx C : Addr} (hx : H x = none) (hdx : H dx = none) : Same H (upd (upd H dx (.own x)) x (.ins C dx [])) := (same_upd hdx).mut hx
theorem ex_sameX {H H1 H' : Hp} {x : Addr} (hx : H x = none) (e : Same H H1) (e1 : Ex [x] H1 H') : Same H H' := fun b o hb => e1 b o (nin (ne_of_none hb hx)) (e b o hb)

structure Txt (K : PySem.W.Frag) (mg : Str → Option Value) where
  a_Explorer : Addr
  cl_Explorer : Cls K a_Explorer
  g_Explorer : mg "Explorer" = some (.ref a_Explorer)
  n_Explorer_path : NoAttr K a_Explorer "path"
  n_Explorer_at : NoAttr K a_Explorer "at"
  n_Explorer_chance : NoAttr K a_Explorer "chance"
  n_Explorer_is_open : NoAttr K a_Explorer "is_open"
  n_Explorer_is_over : NoAttr K a_Explorer "is_over"
  n_Explorer_many : NoAttr K a_Explorer "many"
  n_Explorer_rows : NoAttr K a_Explorer "rows"
  a_SamphireError : Addr
  g_SamphireError : mg "SamphireError" = some (.ref a_SamphireError)
  kp_SamphireError : PySem.W.keepIn K (.ref a_SamphireError) = true
  sb_SamphireError : PySem.W.subIn K (.ref a_SamphireError) (.type "BaseException") = some true
  ty_SamphireError : PySem.W.typeIn K (.ref a_SamphireError) = some (.type "type")
  te_SamphireError : PySem.W.exmOne K (.ref a_SamphireError) (.ref a_SamphireError) = some true
  a_TooLarge : Addr
  g_TooLarge : mg "TooLarge" = some (.ref a_TooLarge)
  kp_TooLarge : PySem.W.keepIn K (.ref a_TooLarge) = true
  sb_TooLarge : PySem.W.subIn K (.ref a_TooLarge) (.type "BaseException") = some true
  ty_TooLarge : PySem.W.typeIn K (.ref a_TooLarge) = some (.type "type")
  te_TooLarge : PySem.W.exmOne K (.ref a_TooLarge) (.ref a_TooLarge) = some true
  ox_TooLarge : OexC K a_TooLarge
  xf_TooLarge : XfC K a_TooLarge
  no_TooLarge_limit : PySem.W.findIn K (.ref a_TooLarge) "limit" = some none
  a_NotEnded : Addr
  g_NotEnded : mg "NotEnded" = some (.ref a_NotEnded)
  kp_NotEnded : PySem.W.keepIn K (.ref a_NotEnded) = true
  sb_NotEnded : PySem.W.subIn K (.ref a_NotEnded) (.type "BaseException") = some true
  ty_NotEnded : PySem.W.typeIn K (.ref a_NotEnded) = some (.type "type")
  te_NotEnded : PySem.W.exmOne K (.ref a_NotEnded) (.ref a_NotEnded) = some true
  x_NotEnded : PySem.W.excIn K a_NotEnded [.type "ValueError", .type "Exception", .type "BaseException", .type "object"] "ValueError.__new__" = true
  f_TooLarge___init__ : Addr
  fd_TooLarge___init__ : FuncData
  F_TooLarge___init__ : Fun K "__init__" "TooLarge.__init__" s_TooLarge___init__ f_TooLarge___init__ fd_TooLarge___init__
  b_TooLarge___init__ : Binds K fd_TooLarge___init__ ["self", "limit"] []
  ic_TooLarge : PySem.W.findIn K (.ref a_TooLarge) "__init__" = some (some (.ref f_TooLarge___init__))
  tc_TooLarge : PySem.W.typeIn K (.ref f_TooLarge___init__) = some (.type "function")
  f_lowest : Addr
  fd_lowest : FuncData
  F_lowest : Fun K "lowest" "lowest" s_lowest f_lowest fd_lowest
  b_lowest : Binds K fd_lowest ["p", "q"] []
  g_lowest : mg "lowest" = some (.ref f_lowest)
  f_plus : Addr
  fd_plus : FuncData
  F_plus : Fun K "plus" "plus" s_plus f_plus fd_plus
  b_plus : Binds K fd_plus ["a", "b"] []
  g_plus : mg "plus" = some (.ref f_plus)
  f_times : Addr
  fd_times : FuncData
  F_times : Fun K "times" "times" s_times f_times fd_times
  b_times : Binds K fd_times ["a", "b"] []
  g_times : mg "times" = some (.ref f_times)
  f_less : Addr
  fd_less : FuncData
  F_less : Fun K "less" "less" s_less f_less fd_less
  b_less : Binds K fd_less ["a", "b"] []
  g_less : mg "less" = some (.ref f_less)
  f_sum_of : Addr
  fd_sum_of : FuncData
  F_sum_of : Fun K "sum_of" "sum_of" s_sum_of f_sum_of fd_sum_of
  b_sum_of : Binds K fd_sum_of ["fractions"] []
  g_sum_of : mg "sum_of" = some (.ref f_sum_of)
  f_are_chances : Addr
  fd_are_chances : FuncData
  F_are_chances : Fun K "are_chances" "are_chances" s_are_chances f_are_chances fd_are_chances
  b_are_chances : Binds K fd_are_chances ["fractions"] []
  g_are_chances : mg "are_chances" = some (.ref f_are_chances)
  f_law_from : Addr
  fd_law_from : FuncData
  F_law_from : Fun K "law_from" "law_from" s_law_from f_law_from fd_law_from
  b_law_from : Binds K fd_law_from ["rows"] []
  g_law_from : mg "law_from" = some (.ref f_law_from)
  f_Explorer___init__ : Addr
  fd_Explorer___init__ : FuncData
  F_Explorer___init__ : Fun K "__init__" "Explorer.__init__" s_Explorer___init__ f_Explorer___init__ fd_Explorer___init__
  b_Explorer___init__ : Binds K fd_Explorer___init__ ["self"] []
  mk_Explorer : Mk K a_Explorer f_Explorer___init__
  f_Explorer_advance : Addr
  fd_Explorer_advance : FuncData
  F_Explorer_advance : Fun K "advance" "Explorer.advance" s_Explorer_advance f_Explorer_advance fd_Explorer_advance
  b_Explorer_advance : Binds K fd_Explorer_advance ["self"] []
  M_Explorer_advance : Meth K a_Explorer "advance" f_Explorer_advance
  f_Explorer_begin : Addr
  fd_Explorer_begin : FuncData
  F_Explorer_begin : Fun K "begin" "Explorer.begin" s_Explorer_begin f_Explorer_begin fd_Explorer_begin
  b_Explorer_begin : Binds K fd_Explorer_begin ["self"] []
  M_Explorer_begin : Meth K a_Explorer "begin" f_Explorer_begin
  f_Explorer_pick : Addr
  fd_Explorer_pick : FuncData
  F_Explorer_pick : Fun K "pick" "Explorer.pick" s_Explorer_pick f_Explorer_pick fd_Explorer_pick
  b_Explorer_pick : Binds K fd_Explorer_pick ["self", "weights"] []
  M_Explorer_pick : Meth K a_Explorer "pick" f_Explorer_pick
  f_Explorer_end : Addr
  fd_Explorer_end : FuncData
  F_Explorer_end : Fun K "end" "Explorer.end" s_Explorer_end f_Explorer_end fd_Explorer_end
  b_Explorer_end : Binds K fd_Explorer_end ["self", "outcome"] []
  M_Explorer_end : Meth K a_Explorer "end" f_Explorer_end
  f_Explorer_runs : Addr
  fd_Explorer_runs : FuncData
  F_Explorer_runs : Fun K "runs" "Explorer.runs" s_Explorer_runs f_Explorer_runs fd_Explorer_runs
  b_Explorer_runs : Binds K fd_Explorer_runs ["self"] []
  M_Explorer_runs : Meth K a_Explorer "runs" f_Explorer_runs
  f_Explorer_gathered : Addr
  fd_Explorer_gathered : FuncData
  F_Explorer_gathered : Fun K "gathered" "Explorer.gathered" s_Explorer_gathered f_Explorer_gathered fd_Explorer_gathered
  b_Explorer_gathered : Binds K fd_Explorer_gathered ["self"] []
  M_Explorer_gathered : Meth K a_Explorer "gathered" f_Explorer_gathered
  f__law_deck : Addr
  fd__law_deck : FuncData
  F__law_deck : Fun K "_law_deck" "_law_deck" s__law_deck f__law_deck fd__law_deck
  b__law_deck : Binds K fd__law_deck ["_law_script"] []
  g__law_deck : mg "_law_deck" = some (.ref f__law_deck)
  f__law_draw : Addr
  fd__law_draw : FuncData
  F__law_draw : Fun K "_law_draw" "_law_draw" s__law_draw f__law_draw fd__law_draw
  b__law_draw : Binds K fd__law_draw ["_law_deck_here", "_law_most"] []
  g__law_draw : mg "_law_draw" = some (.ref f__law_draw)
  f__law_low : Addr
  fd__law_low : FuncData
  F__law_low : Fun K "_law_low" "_law_low" s__law_low f__law_low fd__law_low
  b__law_low : Binds K fd__law_low ["_law_p", "_law_q"] []
  g__law_low : mg "_law_low" = some (.ref f__law_low)
  f__law_limit : Addr
  fd__law_limit : FuncData
  F__law_limit : Fun K "_law_limit" "_law_limit" s__law_limit f__law_limit fd__law_limit
  b__law_limit : Binds K fd__law_limit ["_law_explorer"] []
  g__law_limit : mg "_law_limit" = some (.ref f__law_limit)
  f_law : Addr
  fd_law : FuncData
  F_law : Fun K "law" "law" s_law f_law fd_law
  b_law : Binds K fd_law ["_law_script"] []
  g_law : mg "law" = some (.ref f_law)
  t_MOST_RUNS : Tok
  g_MOST_RUNS : mg "MOST_RUNS" = some (.int (20000) t_MOST_RUNS)
  a_NOTHING : Addr
  g_NOTHING : mg "NOTHING" = some (.ref a_NOTHING)
  v_NOTHING : ∀ H : Hp, SqT K H a_NOTHING [.int (0), .int (1)]
  a_ONE : Addr
  g_ONE : mg "ONE" = some (.ref a_ONE)
  v_ONE : ∀ H : Hp, SqT K H a_ONE [.int (1), .int (1)]
  z_abs : mg "abs" = none
  z_any : mg "any" = none
  z_int : mg "int" = none
  z_len : mg "len" = none
  z_list : mg "list" = none
  z_min : mg "min" = none
  z_range : mg "range" = none
  z_sorted : mg "sorted" = none
  z_sum : mg "sum" = none
  g_gcd : mg "gcd" = some (.builtin "math.gcd")
section
variable {P : Program} {w : World} {K : PySem.W.Frag} {mg : Str → Option Value} {base : Heap}
/-! ### the deck: a list of the script's copy, a place, what is left of a great cell, a seed -/
def Dk (K : PySem.W.Frag) (H : Hp) (L : Addr) (k : Addr × List Int) : Prop := ∃ (a c d : Int), H L = some (.lst [.ref k.1, .int a, .int c, .int d]) ∧ k.1 ≠ L ∧ SqL K H k.1 (k.2.map V.int) ∧ 0 ≤ a ∧ 0 ≤ c
section
variable {K : PySem.W.Frag} {H H' H1 : Hp} {L p : Addr} {k : Addr × List Int}
theorem Dk.ne (h : Dk K H L k) (hp : H p = none) : p ≠ L := by
  obtain ⟨a, c, d, h1, _⟩ := h
  exact (ne_of_none h1 hp).symm
theorem Dk.nem (h : Dk K H L k) (hp : H p = none) : p ∉ [L] := nin (h.ne hp)
theorem Dk.same (e : Same H H') (h : Dk K H L k) : Dk K H' L k := by
  obtain ⟨a, c, d, h1, h2, h3, h4, h5⟩ := h
  exact ⟨a, c, d, e _ _ h1, h2, e.seq h3, h4, h5⟩
/-- what the deck is read from stands since H1 -/
theorem Dk.upd {D : Addr} {o : HO} (h : Dk K H L k) (b : Dk K H1 L k) (hD : H1 D = none) (e : Ex [L] H1 H) : Dk K (upd H D o) L k := by
  obtain ⟨a, c, d, h1, h2, h3, h4, h5⟩ := h
  obtain ⟨a', c', d', g1, g2, g3, g4, g5⟩ := b
  refine ⟨a, c, d, ?_, h2, Ex.seq (Ex.mut e (.inl hD)) (nin h2) g3, h4, h5⟩
  rw [upd_ne (ne_of_none g1 hD)]
  exact h1
/-- a change of an object x that H1 did not know -/
theorem Dk.ex1 {x : Addr} (h : Dk K H L k) (b : Dk K H1 L k) (hx : H1 x = none) (e : Ex [L] H1 H) (e2 : Ex [x] H H') : Dk K H' L k := by
  obtain ⟨a, c, d, h1, h2, h3, h4, h5⟩ := h
  obtain ⟨a', c', d', g1, g2, g3, g4, g5⟩ := b
  exact ⟨a, c, d, e2 _ _ (nin (ne_of_none g1 hx)) h1, h2, Ex.seq (e.new1 e2 hx) (nin h2) g3, h4, h5⟩
/-- the deck rewritten -/
theorem Dk.put {a c d : Int} (h2 : k.1 ≠ L) (h3 : SqL K H k.1 (k.2.map V.int)) (h4 : 0 ≤ a) (h5 : 0 ≤ c) : Dk K (L2.upd H L (.lst [.ref k.1, .int a, .int c, .int d])) L k :=
  ⟨a, c, d, upd_same, h2, Ex.seq (F := [L]) ((Ex.refl H).mut (.inr (List.mem_singleton.mpr rfl))) (nin h2) h3, h4, h5⟩
theorem ex_put {o : HO} : Ex [L] H (L2.upd H L o) := (Ex.refl H).mut (.inr (List.mem_singleton.mpr rfl))
end
theorem ne_big : (2147483647 : Int) ≠ 0 := by decide
theorem log2_small {m : Int} (h0 : 0 < m) (h1 : m < 2 ^ 64) : CDivW 0 m := wide_div (b := 64) h0 (by omega) (by decide) (by decide)
def sp__law_deck (K : PySem.W.Frag) : Sp := fun vs H Q _ => ∃ (a : Addr) (ns : List Int), vs = [.ref a] ∧ SqL K H a (ns.map V.int) ∧ ∀ k L H', H L = none → Same H H' → Dk K H' L k → Q (.ref L) H'
theorem ok__law_deck (T : Txt K mg) : FnOk P w K mg base CX0 1 T.f__law_deck T.fd__law_deck ["_law_script"] (sp__law_deck K) := by
  refine T.F__law_deck.ok sc__law_deck (fun vs H Q E h => ?_) (fun cdv A outer s H vs Q E hr h => ?_)
  · obtain ⟨a, ns, rfl, _⟩ := h
    rfl
  · obtain ⟨a, ns, rfl, hS, q⟩ := h
    refine ⟨_, (pss_one (ps_ret (pe_lst (pa_cons (pe_callTy (T := "list") call_list_of (by rfl) T.z_list (by decide +kernel) (pa_cons (pv 0) pa_nil)) (pa_cons pe_int (pa_cons pe_int (pa_cons pe_int pa_nil))))))), ?_⟩
    refine ⟨_, rfl, a, _, rfl, .inl hS, fun l hl => ⟨by show 4 ≤ sizeLine; decide, fun L hL => ?_⟩⟩
    have e1 : Same H (upd H l (.lst (ns.map V.int))) := same_upd hl
    have nl : l ≠ L := ne_of_none (H := upd H l (.lst (ns.map V.int))) upd_same hL
    refine q (l, ns) L _ (e1.free hL) (e1.trans (same_upd hL)) ⟨0, 0, 7, upd_same, nl, .inl (.inl ?_), by decide, by decide⟩
    rw [upd_ne nl, upd_same]
def sp__law_draw (K : PySem.W.Frag) : Sp := fun vs H Q _ => ∃ (k : Addr × List Int) (L : Addr) (m : Int), vs = [.ref L, .int m] ∧ 0 < m ∧ m < 2 ^ 64 ∧ Dk K H L k ∧ ∀ v H', 0 ≤ v → v < m → Ex [L] H H' → Dk K H' L k → Q (.int v) H'
theorem ok__law_draw (T : Txt K mg) : FnOk P w K mg base CX0 1 T.f__law_draw T.fd__law_draw ["_law_deck_here", "_law_most"] (sp__law_draw K) := by
  refine T.F__law_draw.ok sc__law_draw (fun vs H Q E h => ?_) (fun cdv A outer s H vs Q E hr h => ?_)
  · obtain ⟨k, a, m, rfl, _⟩ := h
    rfl
  · obtain ⟨⟨s, ns⟩, L, m, rfl, h0, hm, ⟨a, c, d, hL, hs, hS, ha, hc⟩, q⟩ := h
    refine ⟨_, (pss_cons (ps_if (pt_cmpR op_ge (pe_ix ix_list (pv 0) pe_int (fun _ _ => rfl)) (pv 1) (nomark _))
        (pss_cons (ps_set (i := 2) sc__law_draw.nd rfl (Or.inl rfl) (pe_op op_modN (pe_callTy (T := "int") call_int1 (by rfl) T.z_int (by decide +kernel) (pa_cons (pe_ix ix_list (pv 0) pe_int (fun _ _ => rfl)) pa_nil)) (pv 1)))
        (pss_cons (ps_asg (pe_op op_fdivW (pe_ix ix_list (pv 0) pe_int (fun _ _ => rfl)) (pv 1)) (pg_sub (pv 0) pe_int set_list))
        (pss_one (ps_ret (pv 2)))))
        pss_nil)
      (pss_cons (ps_set (i := 3) sc__law_draw.nd rfl (Or.inl rfl) pe_int)
      (pss_cut (ps_if (pt_cmpR op_lt (pe_ix ix_list (pv 0) pe_int (fun _ _ => rfl)) (pe_callB (id := "len") call_len_seq (by rfl) T.z_len (by decide +kernel) (pa_cons (pe_ix ix_list (pv 0) pe_int (fun _ _ => rfl)) pa_nil)) (nomark _))
        (pss_one (ps_set (i := 3) sc__law_draw.nd rfl (Or.inl rfl) (pe_ix ix_list (pe_ix ix_list (pv 0) pe_int (fun _ _ => rfl)) (pe_ix ix_list (pv 0) pe_int (fun _ _ => rfl)) (fun _ _ => rfl))))
        pss_nil)
      (pss_cons (ps_asg (pe_op op_add (pe_ix ix_list (pv 0) pe_int (fun _ _ => rfl)) pe_int) (pg_sub (pv 0) pe_int set_list))
      (pss_cons (ps_asg pe_int (pg_sub (pv 0) pe_int set_list))
      (pss_cons (ps_if (pt_cmpR op_ge (pv 3) (pe_op op_pow pe_int pe_int) (nomark _))
        (pss_cons (ps_asg (pe_op op_fdivW (pv 3) (pv 1)) (pg_sub (pv 0) pe_int set_list))
        (pss_one (ps_ret (pe_op op_modN (pe_callTy (T := "int") call_int1 (by rfl) T.z_int (by decide +kernel) (pa_cons (pv 3) pa_nil)) (pv 1)))))
        pss_nil)
      (pss_cons (ps_asg (pe_op op_modN (pe_callTy (T := "int") call_int1 (by rfl) T.z_int (by decide +kernel) (pa_cons (pe_op op_add (pe_op op_add (pe_op op_mul (pe_ix ix_list (pv 0) pe_int (fun _ _ => rfl)) pe_int) (pe_op op_mul (pv 3) pe_int)) (pe_op op_mul (pe_ix ix_list (pv 0) pe_int (fun _ _ => rfl)) pe_int)) pa_nil)) pe_int) (pg_sub (pv 0) pe_int set_list))
      (pss_cons (ps_asg (pe_op op_modN (pe_callTy (T := "int") call_int1 (by rfl) T.z_int (by decide +kernel) (pa_cons (pe_op op_add (pe_op op_mul (pe_ix ix_list (pv 0) pe_int (fun _ _ => rfl)) pe_int) pe_int) pa_nil)) pe_int) (pg_sub (pv 0) pe_int set_list))
      (pss_one (ps_ret (pe_op op_modN (pe_callTy (T := "int") call_int1 (by rfl) T.z_int (by decide +kernel) (pa_cons (pe_op op_fdivW (pe_ix ix_list (pv 0) pe_int (fun _ _ => rfl)) pe_int) pa_nil)) (pv 1)))))))))))), ?_⟩
    have md : m ≠ 0 := by omega
    have dv : ∀ i : Int, CDivW i m := fun i => log2_small h0 hm
    have fm : ∀ i : Int, 0 ≤ i.fmod m ∧ i.fmod m < m := fun i => ⟨Int.fmod_nonneg_of_pos i h0, Int.fmod_lt_of_pos i h0⟩
    refine ⟨_, rfl, L, _, 2, _, rfl, rfl, SqL.of hL, rfl, _, rfl, _, _, rfl, rfl, _, rfl, ite_dec (fun h1 => ?_) (fun h1 => ?_)⟩
    · refine ⟨_, rfl, L, _, 2, _, rfl, rfl, SqL.of hL, rfl, .inl ⟨_, rfl, _, rfl, _, _, rfl, rfl, md, ?_⟩⟩
      refine ⟨_, rfl, L, _, 2, _, rfl, rfl, SqL.of hL, rfl, _, rfl, _, _, rfl, rfl, dv _, _, rfl, L, _, 2, 2, rfl, rfl, hL, rfl, ?_⟩
      exact ⟨_, rfl, q _ _ (fm c).1 (fm c).2 ex_put (Dk.put (k := (s, ns)) hs hS ha (Int.ediv_nonneg hc (by omega)))⟩
    · refine ⟨fun σ' H' => ∃ cell : Int, H' = H ∧ σ' = [some (.ref L), some (.int m), none, some (.int cell)], ?_, ?_⟩
      · refine ⟨_, rfl, L, _, 1, _, rfl, rfl, SqL.of hL, rfl, _, rfl, L, _, 0, _, rfl, rfl, SqL.of hL, rfl, s, _, rfl, .inl hS, _, _, rfl, rfl, _, rfl, ite_dec (fun h2 => ?_) (fun h2 => ?_)⟩
        · have hlt : a.toNat < ns.length := by
            have h3 : a < ((ns.map V.int).length : Int) := h2
            rw [List.length_map] at h3
            omega
          refine ⟨_, rfl, L, _, 0, _, rfl, rfl, SqL.of hL, rfl, _, rfl, L, _, 1, _, rfl, rfl, SqL.of hL, rfl, s, _, a, .int ns[a.toNat], rfl, rfl, hS, atI_int ha (get_map (List.getElem?_eq_getElem hlt)), ?_⟩
          exact ⟨_, rfl, rfl⟩
        · exact ⟨_, rfl, rfl⟩
      · rintro σ' H' ⟨cell, rfl, rfl⟩
        -- the place, the rest
        refine ⟨_, rfl, L, _, 1, _, rfl, rfl, SqL.of hL, rfl, _, _, rfl, rfl, _, rfl, L, _, 1, 1, rfl, rfl, hL, rfl, ?_⟩
        have hs1 : SqL K (upd H' L (.lst [.ref s, .int (a + 1), .int c, .int d])) s (ns.map V.int) := Ex.seq (F := [L]) ex_put (nin hs) hS
        refine ⟨_, rfl, L, _, 2, 2, rfl, rfl, upd_same, rfl, ?_⟩
        refine ⟨_, rfl, 10, 18, rfl, rfl, ⟨by decide, by decide, by decide⟩, _, _, rfl, rfl, _, rfl, ite_dec (fun h2 => ?_) (fun h2 => ?_)⟩
        · have c0 : 0 ≤ cell := Int.le_trans (by decide) h2
          refine ⟨_, rfl, _, rfl, _, _, rfl, rfl, dv _, _, rfl, L, _, 2, 2, rfl, rfl, upd_same, rfl, ?_⟩
          refine ⟨_, rfl, .inl ⟨_, rfl, _, rfl, _, _, rfl, rfl, md, ?_⟩⟩
          rw [upd_upd, upd_upd]
          exact q _ _ (fm cell).1 (fm cell).2 ex_put (Dk.put (k := (s, ns)) hs hS (by omega) (Int.ediv_nonneg c0 (by omega)))
        · refine ⟨_, rfl, L, _, 3, _, rfl, rfl, SqL.of upd_same, rfl, _, _, rfl, rfl, .inr ⟨by decide, by decide⟩, _, rfl, _, _, rfl, rfl, .inr ⟨by decide, by decide⟩, _, _, rfl, rfl, _, rfl, L, _, 1, _, rfl, rfl, SqL.of upd_same, rfl, _, _, rfl, rfl, .inr ⟨by decide, by decide⟩, _, _, rfl, rfl,
            .inl ⟨_, rfl, _, _, rfl, rfl, ne_big, _, rfl, L, _, 3, 3, rfl, rfl, upd_same, rfl, ?_⟩⟩
          refine ⟨_, rfl, L, _, 3, _, rfl, rfl, SqL.of upd_same, rfl, _, _, rfl, rfl, .inr ⟨by decide, by decide⟩, _, _, rfl, rfl, .inl ⟨_, rfl, _, _, rfl, rfl, ne_big, _, rfl, L, _, 3, 3, rfl, rfl, upd_same, rfl, ?_⟩⟩
          refine ⟨_, rfl, L, _, 3, _, rfl, rfl, SqL.of upd_same, rfl, _, _, rfl, rfl, ⟨by decide, by decide⟩, .inl ⟨_, rfl, _, rfl, _, _, rfl, rfl, md, ?_⟩⟩
          rw [upd_upd, upd_upd, upd_upd]
          exact q _ _ (fm _).1 (fm _).2 ex_put (Dk.put (k := (s, ns)) hs hS (by omega) (by decide))

/-! ### fractions in the heap -/
def frT (r : Rat) : HO := .tup [.int r.num, .int (r.den : Int)]
def Fr (K : PySem.W.Frag) (H : Hp) (v : V) (r : Rat) : Prop := ∃ a, v = .ref a ∧ SqT K H a [.int r.num, .int (r.den : Int)]
theorem Fr.same {K : PySem.W.Frag} {H H' : Hp} {v : V} {r : Rat} (e : Same H H') (h : Fr K H v r) : Fr K H' v r := by
  obtain ⟨a, rfl, h⟩ := h
  exact ⟨a, rfl, e.tupq h⟩
/-- a tuple stays where a thing of another kind at x changes -/
theorem sqT_stay {K : PySem.W.Frag} {H H' : Hp} {a x : Addr} {xs ys : List V} (h : SqT K H a xs) (hx : H x = some (.lst ys)) (e : Ex [x] H H') : SqT K H' a xs := by
  rcases h with (h | ⟨u, h⟩) | h
  · exact .inl (.inl (e _ _ (nin fun z => by rw [z, hx] at h; cases h) h))
  · exact .inl (.inr ⟨u, e _ _ (nin fun z => by rw [z, hx] at h; cases h) h⟩)
  · exact .inr h
theorem Fr.stay {K : PySem.W.Frag} {H H' : Hp} {v : V} {r : Rat} {x : Addr} {ys : List V} (h : Fr K H v r) (hx : H x = some (.lst ys)) (e : Ex [x] H H') : Fr K H' v r := by
  obtain ⟨a, rfl, h⟩ := h
  exact ⟨a, rfl, sqT_stay h hx e⟩
theorem Fr.of {K : PySem.W.Frag} {H : Hp} {t : Addr} {r : Rat} (h : H t = some (frT r)) : Fr K H (.ref t) r := ⟨t, rfl, SqT.of h⟩
abbrev FrL (K : PySem.W.Frag) (H : Hp) : List V → List Rat → Prop := Paired (fun v r => Fr K H v r)
theorem FrL.same {K : PySem.W.Frag} {H H' : Hp} {xs : List V} {rs : List Rat} (e : Same H H') (h : FrL K H xs rs) : FrL K H' xs rs := Paired.mapP h fun _ _ z => z.same e
theorem FrL.stay {K : PySem.W.Frag} {H H' : Hp} {xs : List V} {rs : List Rat} {x : Addr} {ys : List V} (h : FrL K H xs rs) (hx : H x = some (.lst ys)) (e : Ex [x] H H') : FrL K H' xs rs := Paired.mapP h fun _ _ z => z.stay hx e
theorem FrL.get {K : PySem.W.Frag} {H : Hp} : ∀ {xs : List V} {rs : List Rat}, FrL K H xs rs → ∀ {i : Nat} {v : V}, xs[i]? = some v → ∃ r, rs[i]? = some r ∧ Fr K H v r
  | _, _, .nil, i, v, e => by simp at e
  | _, _, .cons h t, 0, v, e => by
    have e1 := Option.some.inj e
    subst e1
    exact ⟨_, rfl, h⟩
  | _, _, .cons h t, i + 1, v, e => FrL.get t (i := i) e
theorem FrL.snoc {K : PySem.W.Frag} {H : Hp} {v : V} {r : Rat} (q : Fr K H v r) : ∀ {xs : List V} {rs : List Rat}, FrL K H xs rs → FrL K H (xs ++ [v]) (rs ++ [r])
  | _, _, .nil => .cons q .nil
  | _, _, .cons h t => .cons h (FrL.snoc q t)
theorem FrL.len {K : PySem.W.Frag} {H : Hp} {xs : List V} {rs : List Rat} (h : FrL K H xs rs) : xs.length = rs.length := Paired.length h
def rsum (rs : List Rat) : Rat := rs.foldl (· + ·) 0
theorem rsum_take {rs : List Rat} {i : Nat} {r : Rat} (h : rs[i]? = some r) : rsum (rs.take (i + 1)) = rsum (rs.take i) + r := by
  unfold rsum
  rw [List.take_add_one, h, Option.toList_some, List.foldl_append]
  rfl
theorem rsum_snoc (rs : List Rat) (r : Rat) : rsum (rs ++ [r]) = rsum rs + r := by
  unfold rsum
  rw [List.foldl_append]
  rfl
theorem sz_rsum {m : Nat} {rs : List Rat} (h : ∀ r ∈ rs, Sz m r) : ∀ i, i ≤ rs.length → Sz (i * (m + 1) + 1) (rsum (rs.take i))
  | 0, _ => by
    rw [List.take_zero]
    exact sz_zero.mono (by omega)
  | i + 1, hi => by
    have hlt : i < rs.length := hi
    have e : rs[i]? = some rs[i] := List.getElem?_eq_getElem hlt
    rw [rsum_take e]
    have := (sz_rsum h i (by omega)).add (h _ (List.getElem_mem hlt))
    refine this.mono ?_
    rw [Nat.add_mul]
    omega
/-- what the fractions' own bound is -/
abbrev LIM : Nat := 980
section
variable {X : Cx}
/-- // by any divisor of moderate size -/
theorem op_fdivZ : OpR X (binaryOp .FloorDiv) (rI (fun _ j => j ≠ 0 ∧ j.natAbs < 2 ^ 8000) fun i j => .int (i.fdiv j)) :=
  opI fun i j _ _ _ _ _ hc q => floordiv_int hc.1 q
    (.inl (PyProof.noPylong_of_log2 (Nat.lt_of_lt_of_le (log2_lt' (by decide) hc.2) (by decide))))
end
theorem fdz {i j : Int} (h : j ≠ 0) (h2 : j.natAbs < 2 ^ 8000) : (fun (_ : Int) (j : Int) => j ≠ 0 ∧ j.natAbs < 2 ^ 8000) i j := ⟨h, h2⟩
theorem mulOk {i j : Int} {m n : Nat} (hi : i.natAbs < 2 ^ m) (hj : j.natAbs < 2 ^ n) (h : m + n ≤ 100000) (hm : 0 < m) (hn : 0 < n) : CMulW i j := wide_mul hi hj hm hn (by omega)
theorem mulFF {a b : Rat} (ha : Sz LIM a) (hb : Sz LIM b) : CMulW a.num (b.den : Int) := mulOk ha.1 hb.d (by decide) (by decide) (by decide)
theorem mulNN {a b : Rat} (ha : Sz LIM a) (hb : Sz LIM b) : CMulW a.num b.num := mulOk ha.1 hb.1 (by decide) (by decide) (by decide)
theorem mulDD {a b : Rat} (ha : Sz LIM a) (hb : Sz LIM b) : CMulW (a.den : Int) (b.den : Int) := mulOk ha.d hb.d (by decide) (by decide) (by decide)
theorem mulDN {a b : Rat} (ha : Sz LIM a) (hb : Sz LIM b) : CMulW (a.den : Int) b.num := mulOk ha.d hb.1 (by decide) (by decide) (by decide)
/-! ### the law's own fractions -/
def LowQ (q : Int) : Prop := q ≠ 0
theorem LowQ.dd (a b : Rat) : LowQ ((a.den : Int) * b.den) := dd_ne a b

def sp__law_low (K : PySem.W.Frag) : Sp := fun vs H Q _ => ∃ (p q : Int), vs = [.int p, .int q] ∧ LowQ q ∧ p.natAbs < 2 ^ 1990 ∧ q.natAbs < 2 ^ 1990 ∧
  ∀ t H', H t = none → Same H H' → H' t = some (frT (Rat.divInt p q)) → Q (.ref t) H'
def sp_two (K : PySem.W.Frag) (f : Rat → Rat → Rat) : Sp := fun vs H Q _ => ∃ (u v : V) (a b : Rat), vs = [u, v] ∧ Fr K H u a ∧ Fr K H v b ∧ Sz LIM a ∧ Sz LIM b ∧
  ∀ t H', H t = none → Same H H' → H' t = some (frT (f a b)) → Q (.ref t) H'
def sp__law_plus (K : PySem.W.Frag) : Sp := sp_two K (· + ·)
def sp__law_times (K : PySem.W.Frag) : Sp := sp_two K (· * ·)
def sp__law_less (K : PySem.W.Frag) : Sp := fun vs H Q _ => ∃ (u v : V) (a b : Rat), vs = [u, v] ∧ Fr K H u a ∧ Fr K H v b ∧ Sz LIM a ∧ Sz LIM b ∧ Q (.bl (decide (a < b))) H
theorem less_is {a b : Rat} : decide (a.num * (b.den : Int) < b.num * (a.den : Int)) = decide (a < b) := by
  by_cases h : a < b
  · rw [decide_eq_true h, decide_eq_true ((Rat.lt_iff a b).mp h)]
  · rw [decide_eq_false h, decide_eq_false fun z => h ((Rat.lt_iff a b).mpr z)]
theorem ok__law_low (T : Txt K mg) : FnOk P w K mg base CX0 1 T.f__law_low T.fd__law_low ["_law_p", "_law_q"] (sp__law_low K) := by
  refine T.F__law_low.ok sc__law_low (fun vs H Q E h => ?_) (fun cdv A outer s H vs Q E hr h => ?_)
  · obtain ⟨p, q, rfl, _⟩ := h
    rfl
  · obtain ⟨p, q, rfl, hq, hp1, hq1, kq⟩ := h
    refine ⟨_, (pss_cons (ps_set (i := 2) sc__law_low.nd rfl (Or.inl rfl) (pe_callB (id := "abs") call_abs (by rfl) T.z_abs (by decide +kernel) (pa_cons (pv 0) pa_nil)))
      (pss_cons (ps_set (i := 3) sc__law_low.nd rfl (Or.inl rfl) (pe_callB (id := "abs") call_abs (by rfl) T.z_abs (by decide +kernel) (pa_cons (pv 1) pa_nil)))
      (pss_cut (ps_for PassesOwn.never rfl (pi_range1 (by rfl) T.z_range (pa_cons pe_int pa_nil)) (pg_name (i := 4) sc__law_low.nd rfl (Or.inl rfl))
        (pss_cons (ps_if (pt_cmpR op_eq (pv 3) pe_int (nomark _))
          (pss_one ps_break)
          pss_nil)
        (pss_one (ps_par (i := 2) (j := 3) (by rfl) sc__law_low.nd rfl rfl (by decide) rfl rfl (pa_cons (pv 3) (pa_cons (pe_op op_modN (pe_callTy (T := "int") call_int1 (by rfl) T.z_int (by decide +kernel) (pa_cons (pv 2) pa_nil)) (pv 3)) pa_nil)) (by rfl)))))
      (pss_cut (ps_if (pt_cmpR op_lt (pv 1) pe_int (nomark _))
        (pss_one (ps_set (i := 2) sc__law_low.nd rfl (Or.inl rfl) (pe_op op_sub pe_int (pv 2))))
        pss_nil)
      (pss_one (ps_ret (pe_tup (pa_cons (pe_op op_fdivZ (pv 0) (pv 2)) (pa_cons (pe_op op_fdivZ (pv 1) (pv 2)) pa_nil))))))))), ?_⟩
    have hn : p.natAbs * q.natAbs < 2 ^ 3980 := by
      have := Nat.mul_lt_mul'' hp1 hq1
      rw [← Nat.pow_add] at this
      exact this
    have ap : ∀ z : Int, (if z < 0 then -z else z) = (z.natAbs : Int) := fun z => by split <;> omega
    refine ⟨_, rfl, _, rfl, _, rfl, _, rfl, ?_⟩
    rw [ap, ap]
    refine ⟨fun σ' H' => H' = H ∧ ∃ x y, σ' = [some (.int p), some (.int q), some (.int (Int.gcd p q : Int)), x, y], ?_, ?_⟩
    · refine ⟨_, rfl, by decide, by decide, for_it walk_range (fun i σ H' => H' = H ∧ ∃ x a b, σ = [some (.int p), some (.int q), some (.int a), some (.int b), x] ∧ (b = 0 ∧ a = (Int.gcd p q : Int) ∨ i ≤ 3980 + 1 ∧ Euc p q 3980 i a b))
        ⟨rfl, _, _, _, rfl, .inr ⟨by decide, Euc.start hq hn⟩⟩ (fun _ _ _ _ _ => trivial) ?_ ?_⟩
      · rintro i v σ Ha Hb hi ⟨rfl, x, a, b, rfl, hab⟩ ⟨rfl, rfl⟩
        refine ⟨_, rfl, rfl, _, rfl, ite_dec (fun hz => ?_) (fun hz => ?_)⟩
        · have hb : b = 0 := V.int.inj hz
          subst hb
          have ea : a = (Int.gcd p q : Int) := by
            rcases hab with ⟨_, e⟩ | ⟨_, e⟩
            · exact e
            · exact e.gcd
          subst ea
          exact ⟨rfl, _, _, rfl⟩
        · have hb : b ≠ 0 := fun z => hz (congrArg V.int z)
          rcases hab with ⟨e, _⟩ | ⟨hle, e⟩
          · exact absurd e hb
          · have hi2 : i ≤ 3980 := by
              rcases Nat.lt_or_ge 3980 i with z | z
              · have : i = 3980 + 1 := by omega
                subst this
                exact absurd e.ended hb
              · exact z
            refine ⟨_, rfl, _, rfl, .inl ⟨_, rfl, _, rfl, _, _, rfl, rfl, hb, _, _, rfl, ?_⟩⟩
            exact ⟨rfl, _, b, a.fmod b, rfl, .inr ⟨by omega, e.next hi2 hb⟩⟩
      · rintro σ Ha ⟨rfl, x, a, b, rfl, hab⟩
        rcases hab with ⟨rfl, rfl⟩ | ⟨hle, _⟩
        · exact ⟨rfl, _, _, rfl⟩
        · exact absurd hle (by decide)
    · rintro σ' H' ⟨rfl, x, y, rfl⟩
      refine ⟨fun σ' H'' => H'' = H' ∧ ∃ x y, σ' = [some (.int p), some (.int q), some (.int (lowD p q)), x, y], ?_, ?_⟩
      · refine ⟨_, rfl, _, _, rfl, rfl, _, rfl, ite_dec (fun hz => ?_) (fun hz => ?_)⟩
        · refine ⟨_, rfl, _, _, rfl, rfl, rfl, x, y, ?_⟩
          show [_, _, some (V.int (0 - (Int.gcd p q : Int))), _, _] = _
          unfold lowD
          rw [if_pos hz, Int.zero_sub]
        · refine ⟨rfl, x, y, ?_⟩
          unfold lowD
          rw [if_neg hz]
      · rintro σ' H'' ⟨rfl, x, y, rfl⟩
        have hd := lowD_ne (p := p) hq
        have hd2 : (lowD p q).natAbs < 2 ^ 8000 := by
          rw [lowD_abs]
          exact pow_up (Nat.lt_of_le_of_lt (gcd_le_right hq) hq1) (by decide)
        refine ⟨_, rfl, _, rfl, _, _, rfl, rfl, ⟨hd, hd2⟩, _, rfl, _, rfl, _, _, rfl, rfl, ⟨hd, hd2⟩, by show 2 ≤ sizeLine; decide, fun t ht => ?_⟩
        show Q (.ref t) (upd H'' t (.tup [.int (p.fdiv (lowD p q)), .int (q.fdiv (lowD p q))]))
        rw [low_num hq, low_den hq]
        exact kq t _ ht (same_upd ht) upd_same

/-! ### the program's fractions -/
def sp_lowest (K : PySem.W.Frag) : Sp := fun vs H Q _ => ∃ (p q : Int), vs = [.int p, .int q] ∧ q ≠ 0 ∧ p.natAbs < 2 ^ 1990 ∧ q.natAbs < 2 ^ 1990 ∧
  ∀ t H', H t = none → Same H H' → H' t = some (frT (Rat.divInt p q)) → Q (.ref t) H'
theorem ok_lowest (T : Txt K mg) : FnOk P w K mg base CX0 1 T.f_lowest T.fd_lowest ["p", "q"] (sp_lowest K) := by
  refine T.F_lowest.ok sc_lowest (fun vs H Q E h => ?_) (fun cdv A outer s H vs Q E hr h => ?_)
  · obtain ⟨p, q, rfl, _⟩ := h
    rfl
  · obtain ⟨p, q, rfl, hq, hp1, hq1, kq⟩ := h
    refine ⟨_, (pss_cons (ps_if (pt_cmpR op_eq (pv 1) pe_int (nomark _))
        (pss_one ps_never)
        pss_nil)
      (pss_cons (ps_set (i := 2) sc_lowest.nd rfl (Or.inl rfl) (pe_callBfun cr_gcd (by rfl) T.g_gcd (pa_cons (pv 0) (pa_cons (pv 1) pa_nil))))
      (pss_cut (ps_if (pt_cmpR op_lt (pv 1) pe_int (nomark _))
        (pss_one (ps_set (i := 2) sc_lowest.nd rfl (Or.inl rfl) (pe_un un_neg (pv 2))))
        pss_nil)
      (pss_one (ps_ret (pe_tup (pa_cons (pe_op op_fdivZ (pv 0) (pv 2)) (pa_cons (pe_op op_fdivZ (pv 1) (pv 2)) pa_nil)))))))), ?_⟩
    have hd := lowD_ne (p := p) hq
    have hd2 : (lowD p q).natAbs < 2 ^ 8000 := by
      rw [lowD_abs]
      exact pow_up (Nat.lt_of_le_of_lt (gcd_le_right hq) hq1) (by decide)
    refine ⟨_, rfl, rfl, _, rfl, ite_dec (fun hz => absurd (V.int.inj hz) hq) (fun _ => ?_)⟩
    refine ⟨_, rfl, _, rfl, _, _, rfl, ?_⟩
    refine ⟨fun σ' H'' => H'' = H ∧ σ' = [some (.int p), some (.int q), some (.int (lowD p q))], ?_, ?_⟩
    · refine ⟨_, rfl, _, _, rfl, rfl, _, rfl, ite_dec (fun hz => ?_) (fun hz => ?_)⟩
      · refine ⟨_, rfl, _, rfl, rfl, ?_⟩
        unfold lowD
        rw [if_pos hz]
        rfl
      · refine ⟨rfl, ?_⟩
        unfold lowD
        rw [if_neg hz]
        rfl
    · rintro σ' H'' ⟨rfl, rfl⟩
      refine ⟨_, rfl, _, rfl, _, _, rfl, rfl, ⟨hd, hd2⟩, _, rfl, _, rfl, _, _, rfl, rfl, ⟨hd, hd2⟩, by show 2 ≤ sizeLine; decide, fun t ht => ?_⟩
      show Q (.ref t) (upd H'' t (.tup [.int (p.fdiv (lowD p q)), .int (q.fdiv (lowD p q))]))
      rw [low_num hq, low_den hq]
      exact kq t _ ht (same_upd ht) upd_same
def sp_plus (K : PySem.W.Frag) : Sp := sp_two K (· + ·)
theorem ok_plus (T : Txt K mg) : FnOk P w K mg base CX0 2 T.f_plus T.fd_plus ["a", "b"] (sp_plus K) := by
  refine T.F_plus.ok sc_plus (fun vs H Q E h => ?_) (fun cdv A outer s H vs Q E hr h => ?_)
  · obtain ⟨u, v, a, b, rfl, _⟩ := h
    rfl
  · obtain ⟨u, v, a, b, rfl, ⟨x, rfl, hx⟩, ⟨y, rfl, hy⟩, sa, sb, q⟩ := h
    refine ⟨_, (pss_one (ps_ret (pe_call (ok_lowest T) (hr.mono (by decide)) (by rfl) T.g_lowest T.F_lowest.kp T.b_lowest .nil pass0 (pa_cons (pe_op op_add (pe_op op_mulW (pe_ix ix_tup (pv 0) pe_int (fun _ _ => rfl)) (pe_ix ix_tup (pv 1) pe_int (fun _ _ => rfl))) (pe_op op_mulW (pe_ix ix_tup (pv 1) pe_int (fun _ _ => rfl)) (pe_ix ix_tup (pv 0) pe_int (fun _ _ => rfl)))) (pa_cons (pe_op op_mulW (pe_ix ix_tup (pv 0) pe_int (fun _ _ => rfl)) (pe_ix ix_tup (pv 1) pe_int (fun _ _ => rfl))) pa_nil))))), ?_⟩
    refine ⟨_, rfl, x, _, 0, _, rfl, rfl, hx, rfl, _, rfl, y, _, 1, _, rfl, rfl, hy, rfl, _, _, rfl, rfl, mulFF sa sb, _, rfl, y, _, 0, _, rfl, rfl, hy, rfl, _, rfl, x, _, 1, _, rfl, rfl, hx, rfl, _, _, rfl, rfl, mulFF sb sa, _, _, rfl, rfl, _, rfl, x, _, 1, _, rfl, rfl, hx, rfl, _, rfl, y, _, 1, _, rfl, rfl, hy, rfl, _, _, rfl, rfl, mulDD sa sb, ?_⟩
    refine ⟨_, _, rfl, dd_ne a b, pow_up (sz_num sa sb) (by decide), pow_up (sz_den sa sb) (by decide), fun t H' ht e h => ?_⟩
    rw [add_divInt] at h
    exact q t H' ht e h
def sp_times (K : PySem.W.Frag) : Sp := sp_two K (· * ·)
theorem ok_times (T : Txt K mg) : FnOk P w K mg base CX0 2 T.f_times T.fd_times ["a", "b"] (sp_times K) := by
  refine T.F_times.ok sc_times (fun vs H Q E h => ?_) (fun cdv A outer s H vs Q E hr h => ?_)
  · obtain ⟨u, v, a, b, rfl, _⟩ := h
    rfl
  · obtain ⟨u, v, a, b, rfl, ⟨x, rfl, hx⟩, ⟨y, rfl, hy⟩, sa, sb, q⟩ := h
    refine ⟨_, (pss_one (ps_ret (pe_call (ok_lowest T) (hr.mono (by decide)) (by rfl) T.g_lowest T.F_lowest.kp T.b_lowest .nil pass0 (pa_cons (pe_op op_mulW (pe_ix ix_tup (pv 0) pe_int (fun _ _ => rfl)) (pe_ix ix_tup (pv 1) pe_int (fun _ _ => rfl))) (pa_cons (pe_op op_mulW (pe_ix ix_tup (pv 0) pe_int (fun _ _ => rfl)) (pe_ix ix_tup (pv 1) pe_int (fun _ _ => rfl))) pa_nil))))), ?_⟩
    refine ⟨_, rfl, x, _, 0, _, rfl, rfl, hx, rfl, _, rfl, y, _, 0, _, rfl, rfl, hy, rfl, _, _, rfl, rfl, mulNN sa sb, _, rfl, x, _, 1, _, rfl, rfl, hx, rfl, _, rfl, y, _, 1, _, rfl, rfl, hy, rfl, _, _, rfl, rfl, mulDD sa sb, ?_⟩
    refine ⟨_, _, rfl, dd_ne a b, pow_up (abs_mul_lt sa.1 sb.1) (by decide), pow_up (sz_den sa sb) (by decide), fun t H' ht e h => ?_⟩
    rw [mul_divInt] at h
    exact q t H' ht e h
def sp_less (K : PySem.W.Frag) : Sp := fun vs H Q _ => ∃ (u v : V) (a b : Rat), vs = [u, v] ∧ Fr K H u a ∧ Fr K H v b ∧ Sz LIM a ∧ Sz LIM b ∧ Q (.bl (decide (a < b))) H
theorem ok_less (T : Txt K mg) : FnOk P w K mg base CX0 1 T.f_less T.fd_less ["a", "b"] (sp_less K) := by
  refine T.F_less.ok sc_less (fun vs H Q E h => ?_) (fun cdv A outer s H vs Q E hr h => ?_)
  · obtain ⟨u, v, a, b, rfl, _⟩ := h
    rfl
  · obtain ⟨u, v, a, b, rfl, ⟨x, rfl, hx⟩, ⟨y, rfl, hy⟩, sa, sb, q⟩ := h
    refine ⟨_, (pss_one (ps_ret (pe_cmpR op_lt (pe_op op_mulW (pe_ix ix_tup (pv 0) pe_int (fun _ _ => rfl)) (pe_ix ix_tup (pv 1) pe_int (fun _ _ => rfl))) (pe_op op_mulW (pe_ix ix_tup (pv 1) pe_int (fun _ _ => rfl)) (pe_ix ix_tup (pv 0) pe_int (fun _ _ => rfl))) (nomark _)))), ?_⟩
    refine ⟨_, rfl, x, _, 0, _, rfl, rfl, hx, rfl, _, rfl, y, _, 1, _, rfl, rfl, hy, rfl, _, _, rfl, rfl, mulFF sa sb, _, rfl, y, _, 0, _, rfl, rfl, hy, rfl, _, rfl, x, _, 1, _, rfl, rfl, hx, rfl, _, _, rfl, rfl, mulFF sb sa, _, _, rfl, rfl, ?_⟩
    show Q (.bl (decide (a.num * (b.den : Int) < b.num * (a.den : Int)))) H
    rw [less_is]
    exact q
def sp_sum_of (K : PySem.W.Frag) : Sp := fun vs H Q _ => ∃ (p : Addr) (xs : List V) (rs : List Rat), vs = [.ref p] ∧ SqL K H p xs ∧ FrL K H xs rs ∧ (∀ r ∈ rs, Sz LIM r) ∧ (∀ i, i ≤ rs.length → Sz LIM (rsum (rs.take i))) ∧
  ∀ v H', Same H H' → Fr K H' v (rsum rs) → Q v H'
theorem ok_sum_of (T : Txt K mg) : FnOk P w K mg base CX0 3 T.f_sum_of T.fd_sum_of ["fractions"] (sp_sum_of K) := by
  refine T.F_sum_of.ok sc_sum_of (fun vs H Q E h => ?_) (fun cdv A outer s H vs Q E hr h => ?_)
  · obtain ⟨p, xs, rs, rfl, _⟩ := h
    rfl
  · obtain ⟨p, xs, rs, rfl, hS, hF, hz, hlim, q⟩ := h
    refine ⟨_, (pss_cons (ps_set (i := 1) sc_sum_of.nd rfl (Or.inl rfl) (pe_glob (v := .ref T.a_NOTHING) (by rfl) T.g_NOTHING rfl))
      (pss_cons (ps_for PassesOwn.never rfl (pi_list (pv 0)) (pg_name (i := 2) sc_sum_of.nd rfl (Or.inl rfl))
        (pss_one (ps_set (i := 1) sc_sum_of.nd rfl (Or.inl rfl) (pe_call (ok_plus T) (hr.mono (by decide)) (by rfl) T.g_plus T.F_plus.kp T.b_plus .nil pass0 (pa_cons (pv 1) (pa_cons (pv 2) pa_nil))))))
      (pss_one (ps_ret (pv 1))))), ?_⟩
    refine ⟨_, rfl, p, rfl, ⟨_, hS⟩, for_it walk_list (fun i σ H' => ∃ v x, σ = [some (.ref p), some v, x] ∧ Same H H' ∧ Fr K H' v (rsum (rs.take i))) ⟨_, _, rfl, Same.refl H, ⟨_, rfl, T.v_NOTHING H⟩⟩ (fun _ _ _ _ ⟨_, _, _, e, _⟩ => e.seq hS) ?_ ?_⟩
    · rintro i y σ Ha Hb hi ⟨v, x, rfl, e, hv⟩ ⟨rfl, hy⟩
      obtain ⟨r, hr1, hr2⟩ := hF.get hy
      have hi' : i < rs.length := (List.getElem?_eq_some_iff.mp hr1).1
      refine ⟨_, rfl, _, rfl, _, _, _, _, rfl, hv, hr2.same e, hlim i (by omega), hz r (List.mem_of_getElem? hr1), fun t H' ht e2 h2 => ⟨_, _, rfl, e.trans e2, ?_⟩⟩
      rw [rsum_take hr1]
      exact Fr.of h2
    · rintro σ Ha ⟨v, x, rfl, e, hv⟩
      rw [hF.len, List.take_length] at hv
      exact ⟨_, rfl, q _ _ e hv⟩


/-! ### the explorer -/
def NextIs (n : Nat) (ws : List Int) (m : Nat) : Prop := n < m ∧ m < ws.length ∧ 0 < ws.getD m 0 ∧ ∀ j, n < j → j < m → ¬ 0 < ws.getD j 0
def NextNo (n : Nat) (ws : List Int) : Prop := ∀ j, n < j → j < ws.length → ¬ 0 < ws.getD j 0
/-- the path, reversed, moved on -/
inductive Adv : List (Nat × List Int) → Option (List (Nat × List Int)) → Prop
  | nil : Adv [] none
  | here {n m : Nat} {ws : List Int} {r : List (Nat × List Int)} : NextIs n ws m → Adv ((n, ws) :: r) (some ((m, ws) :: r))
  | skip {n : Nat} {ws : List Int} {r : List (Nat × List Int)} {o : Option (List (Nat × List Int))} : NextNo n ws → Adv r o → Adv ((n, ws) :: r) o
/-- an entry of the path; its weights are none of A -/
def Ent (K : PySem.W.Frag) (H : Hp) (A : List Addr) (v : V) (e : Nat × List Int) : Prop := ∃ t w, v = .ref t ∧ SqT K H t [.int (e.1 : Int), .ref w] ∧ SqL K H w (e.2.map V.int) ∧ w ∉ A ∧ e.2.length ≤ 1000 ∧ e.1 < e.2.length
abbrev Ents (K : PySem.W.Frag) (H : Hp) (A : List Addr) : List V → List (Nat × List Int) → Prop := Paired (Ent K H A)
theorem sqT_ex {K : PySem.W.Frag} {H H' : Hp} {F : List Addr} {a : Addr} {xs : List V} (h : SqT K H a xs) (hF : ∀ x ∈ F, ∃ o, H x = some o ∧ (∀ ys, o ≠ .tup ys) ∧ ∀ b u, o ≠ .frz b u) (e : Ex F H H') : SqT K H' a xs := by
  rcases h with (h | ⟨u, h⟩) | h
  · refine .inl (.inl (e _ _ (fun z => ?_) h))
    obtain ⟨o, h1, h2, _⟩ := hF _ z
    rw [h1] at h
    exact h2 _ (Option.some.inj h)
  · refine .inl (.inr ⟨u, e _ _ (fun z => ?_) h⟩)
    obtain ⟨o, h1, _, h2⟩ := hF _ z
    rw [h1] at h
    exact h2 _ _ (Option.some.inj h)
  · exact .inr h
theorem Ent.ex {K : PySem.W.Frag} {H H' : Hp} {A F : List Addr} {v : V} {e : Nat × List Int} (h : Ent K H A v e) (hF : ∀ x ∈ F, ∃ o, H x = some o ∧ (∀ ys, o ≠ .tup ys) ∧ ∀ b u, o ≠ .frz b u) (ex : Ex F H H') (hA : ∀ x ∈ F, (∃ ys, H x = some (.lst ys)) → x ∈ A) : Ent K H' A v e := by
  obtain ⟨t, w, rfl, hT, hW, hn, hl⟩ := h
  refine ⟨t, w, rfl, sqT_ex hT hF ex, ?_, hn, hl⟩
  rcases hW with (h | ⟨u, h⟩) | h
  · exact .inl (.inl (ex _ _ (fun z => hn (hA _ z ⟨_, h⟩)) h))
  · refine .inl (.inr ⟨u, ex _ _ (fun z => ?_) h⟩)
    obtain ⟨o, h1, _, h2⟩ := hF _ z
    rw [h1] at h
    exact h2 _ _ (Option.some.inj h)
  · exact .inr h
theorem Ent.same {K : PySem.W.Frag} {H H' : Hp} {A : List Addr} {v : V} {e : Nat × List Int} (h : Ent K H A v e) (ex : Same H H') : Ent K H' A v e := by
  obtain ⟨t, w, rfl, hT, hW, hn, hl⟩ := h
  exact ⟨t, w, rfl, ex.tupq hT, ex.seq hW, hn, hl⟩
theorem entsOn {K : PySem.W.Frag} {H H' : Hp} {A : List Addr} {xs : List V} {es : List (Nat × List Int)} (f : ∀ v e, Ent K H A v e → Ent K H' A v e) (h : Ents K H A xs es) : Ents K H' A xs es := Paired.mapP h f
theorem entsSnoc {K : PySem.W.Frag} {H : Hp} {A : List Addr} {v : V} {e : Nat × List Int} (q : Ent K H A v e) : ∀ {xs : List V} {es : List (Nat × List Int)}, Ents K H A xs es → Ents K H A (xs ++ [v]) (es ++ [e])
  | _, _, .nil => .cons q .nil
  | _, _, .cons h t => .cons h (entsSnoc q t)
theorem entsLast {K : PySem.W.Frag} {H : Hp} {A : List Addr} {xs : List V} {es : List (Nat × List Int)} (h : Ents K H A xs es) (hp : 0 < xs.length) :
    ∃ v e, xs[xs.length - 1]? = some v ∧ Ent K H A v e ∧ es = es.dropLast ++ [e] ∧ Ents K H A xs.dropLast es.dropLast := by
  induction h with
  | nil => exact absurd hp (by decide)
  | @cons x y xs ys h t ih =>
    cases t with
    | nil => exact ⟨x, y, rfl, h, rfl, .nil⟩
    | @cons x2 y2 xs2 ys2 h2 t2 =>
      obtain ⟨v, e, e1, e2, e3, e4⟩ := ih (by simp)
      refine ⟨v, e, ?_, e2, ?_, ?_⟩
      · simpa using e1
      · rw [List.dropLast_cons₂, List.cons_append, ← e3]
      · rw [List.dropLast_cons₂, List.dropLast_cons₂]
        exact .cons h e4
def sp_Explorer_advance (K : PySem.W.Frag) (C : Addr) : Sp := fun vs H Q _ => ∃ (x dx P : Addr) (fs : List (Str × V)) (pvs : List V) (ps : List (Nat × List Int)) (A : List Addr), vs = [.ref x] ∧ H x = some (.ins C dx fs) ∧ fs.lookup ("path" : Str) = some (.ref P) ∧ H P = some (.lst pvs) ∧
  P ∈ A ∧ Ents K H A pvs ps ∧ ps.length ≤ 1000 ∧
  (∀ H', Ex [P] H H' → Adv ps.reverse none → H' P = some (.lst []) → Q (.bl false) H') ∧
  (∀ H' pvs' ps', Ex [P] H H' → Adv ps.reverse (some ps'.reverse) → H' P = some (.lst pvs') → Ents K H' A pvs' ps' → Q (.bl true) H')
theorem ok_Explorer_advance (T : Txt K mg) : FnOk P w K mg base CX0 1 T.f_Explorer_advance T.fd_Explorer_advance ["self"] (sp_Explorer_advance K T.a_Explorer) := by
  refine T.F_Explorer_advance.ok sc_Explorer_advance (fun vs H Q E h => ?_) (fun cdv A outer s H vs Q E hr h => ?_)
  · obtain ⟨x, dx, P, fs, pvs, ps, B, rfl, _⟩ := h
    rfl
  · obtain ⟨x, dx, P, fs, pvs, ps, B, rfl, hx, hf, hP, hPB, hE, hl, q1, q2⟩ := h
    refine ⟨_, (pss_cons (ps_while PassesOwn.never (pt_cmpR op_gt (pe_callB (id := "len") call_len_seq (by rfl) T.z_len (by decide +kernel) (pa_cons (pe_fld (pv 0) rfl) pa_nil)) pe_int (nomark _))
        (pss_cons (ps_asg (pe_bm0 PySem.F.plainAttrs_list PySem.F.slot_list_pop PySem.F.type_list_pop mt_pop (pe_fld (pv 0) rfl)) (pg_tup rfl (pgs_cons (pg_name (i := 1) sc_Explorer_advance.nd rfl (Or.inl rfl)) (pgs_cons (pg_name (i := 2) sc_Explorer_advance.nd rfl (Or.inl rfl)) pgs_nil))))
        (pss_one (ps_for PassesOwn.never rfl (pi_range2 (by rfl) T.z_range (pa_cons (pe_op op_add (pv 1) pe_int) (pa_cons (pe_callB (id := "len") call_len_seq (by rfl) T.z_len (by decide +kernel) (pa_cons (pv 2) pa_nil)) pa_nil))) (pg_name (i := 3) sc_Explorer_advance.nd rfl (Or.inl rfl))
          (pss_one (ps_if (pt_cmpR op_gt (pe_ix ix_list (pv 2) (pv 3) (fun _ _ => rfl)) pe_int (nomark _))
            (pss_cons (ps_expr (pe_bm PySem.F.plainAttrs_list PySem.F.slot_list_append PySem.F.type_list_append mt_append (pe_fld (pv 0) rfl) (pa_cons (pe_tup (pa_cons (pv 3) (pa_cons (pv 2) pa_nil))) pa_nil)))
            (pss_one (ps_ret pe_bl)))
            pss_nil))))))
      (pss_one (ps_ret pe_bl))), ?_⟩
    have nxP : x ≠ P := fun z => by rw [z, hP] at hx; cases hx
    refine ⟨fun m σ H' => ∃ (x1 x2 x3 : Option V) (pv : List V) (cur : List (Nat × List Int)), σ = [some (.ref x), x1, x2, x3] ∧ m = cur.length ∧ Ex [P] H H' ∧ H' P = some (.lst pv) ∧ Ents K H' B pv cur ∧ cur.length ≤ 1000 ∧ ∀ o, Adv cur.reverse o → Adv ps.reverse o,
      ⟨ps.length, _, _, _, pvs, ps, rfl, rfl, Ex.refl H, hP, hE, hl, fun o h => h⟩, ?_⟩
    rintro m σ H1 ⟨x1, x2, x3, pv, cur, rfl, rfl, e, hP1, hE1, hl1, hadv⟩
    have hx1 := e.at (nin nxP) hx
    have hlen : pv.length = cur.length := Paired.length hE1
    refine ⟨_, rfl, x, T.a_Explorer, dx, fs, _, rfl, hx1, T.cl_Explorer, T.n_Explorer_path, hf, P, pv, rfl, .inl (SqL.of hP1), _, _, rfl, rfl, _, rfl, ite_dec (fun h1 => ?_) (fun h1 => ?_)⟩
    · have hpos : 0 < pv.length := by omega
      obtain ⟨v, ent, hv, hEnt, hcur, hE2⟩ := entsLast hE1 hpos
      obtain ⟨n, ws⟩ := ent
      obtain ⟨t, w, rfl, hT, hW, hnw, hwl, hnl⟩ := hEnt
      have hwl : ws.length ≤ 1000 := hwl
      have hnl : n < ws.length := hnl
      have hT : SqT K H1 t [.int (n : Int), .ref w] := hT
      have hW : SqL K H1 w (ws.map V.int) := hW
      have hwP : w ≠ P := fun z => hnw (z ▸ hPB)
      have ecur : cur.reverse = (n, ws) :: cur.dropLast.reverse := by
        rw [hcur, List.reverse_append, List.dropLast_concat]
        rfl
      have clen : cur.dropLast.length = cur.length - 1 := List.length_dropLast ..
      refine ⟨fun σ' H' => ∃ (x1 x2 x3 : Option V) (pv : List V), σ' = [some (.ref x), x1, x2, x3] ∧ Ex [P] H H' ∧ H' P = some (.lst pv) ∧ Ents K H' B pv cur.dropLast ∧ ∀ o, Adv cur.dropLast.reverse o → Adv ps.reverse o, ?_, ?_⟩
      · rintro σ' H' ⟨x1, x2, x3, pv', rfl, e', hP', hE', hadv'⟩
        exact ⟨cur.dropLast.length, by omega, x1, x2, x3, pv', cur.dropLast, rfl, rfl, e', hP', hE', by omega, hadv'⟩
      · refine ⟨_, rfl, x, T.a_Explorer, dx, fs, _, rfl, hx1, T.cl_Explorer, T.n_Explorer_path, hf, .inl ⟨rfl, _, SqL.of hP1⟩, P, pv, _, rfl, rfl, hP1, hv, ?_⟩
        have e2 : Ex [P] H1 (upd H1 P (.lst pv.dropLast)) := (Ex.refl H1).mut (.inr (List.mem_singleton.mpr rfl))
        have hFs : ∀ z ∈ [P], ∃ o, H1 z = some o ∧ (∀ ys, o ≠ .tup ys) ∧ ∀ b u, o ≠ .frz b u := fun z hz => by
          rw [List.mem_singleton.mp hz]
          exact ⟨_, hP1, (fun _ z => nomatch z), (fun _ _ z => nomatch z)⟩
        have hT2 := sqT_ex hT hFs e2
        have hW2 := e2.seq (nin hwP) hW
        have hE2' := entsOn (fun v en he => he.ex hFs e2 fun z hz _ => by rw [List.mem_singleton.mp hz]; exact hPB) hE2
        have hP2 : upd H1 P (.lst pv.dropLast) P = some (.lst pv.dropLast) := upd_same
        have hx2 := e2.at (nin nxP) hx1
        have e02 := e.trans e2
        generalize upd H1 P (.lst pv.dropLast) = H2 at hT2 hW2 hE2' hP2 hx2 e02 ⊢
        refine ⟨t, _, rfl, hT2, rfl, _, _, rfl, _, _, rfl, rfl, ?_⟩
        have hwl' : (ws.map V.int).length = ws.length := List.length_map ..
        have hNo : ∀ j, n < j → j < n + 1 → ¬ 0 < ws.getD j 0 := fun j h1 h2 => by omega
        refine ⟨_, rfl, _, _, rfl, rfl, _, rfl, w, _, rfl, .inl hW2, _, _, rfl, ⟨by omega, by omega, by omega, by omega⟩, ?_⟩
        refine for_it walk_range (fun i σ' H' => H' = H2 ∧ ∃ x3, σ' = [some (.ref x), some (.int (n : Int)), some (.ref w), x3] ∧ ∀ j, n < j → j < n + 1 + i → ¬ 0 < ws.getD j 0) ⟨rfl, _, rfl, hNo⟩ (fun _ _ _ _ _ => trivial) ?_ ?_
        · rintro i z σ' Ha Hb hi ⟨rfl, x3', rfl, hno⟩ ⟨rfl, rfl⟩
          have hlt : n + 1 + i < ws.length := by omega
          have hg : ws[n + 1 + i]? = some (ws.getD (n + 1 + i) 0) := by
            rw [List.getD_eq_getElem?_getD, List.getElem?_eq_getElem hlt]
            rfl
          refine ⟨_, rfl, _, rfl, w, _, _, _, rfl, rfl, hW2, atI_int (v := .int (ws.getD (n + 1 + i) 0)) (by omega) ?_, _, _, rfl, rfl, _, rfl, ite_dec (fun hp => ?_) (fun hp => ?_)⟩
          · rw [show ((n : Int) + 1 + (i : Nat)).toNat = n + 1 + i by omega]
            exact get_map hg
          · refine ⟨_, rfl, x, T.a_Explorer, dx, fs, _, rfl, hx2, T.cl_Explorer, T.n_Explorer_path, hf, .inl ⟨rfl, _, SqL.of hP2⟩, _, rfl, _, rfl, by show 2 ≤ sizeLine; decide, fun t2 ht2 => ?_⟩
            have nP : P ≠ t2 := ne_of_none hP2 ht2
            have e3 := same_upd (o := .tup [.int ((n : Int) + 1 + (i : Nat)), .ref w]) ht2
            have ht3 : upd Hb t2 (.tup [.int ((n : Int) + 1 + (i : Nat)), .ref w]) t2 = some (.tup [.int ((n : Int) + 1 + (i : Nat)), .ref w]) := upd_same
            generalize upd Hb t2 (.tup [.int ((n : Int) + 1 + (i : Nat)), .ref w]) = H3 at e3 ht3 ⊢
            refine ⟨P, _, _, rfl, rfl, e3 _ _ hP2, ?_, ?_⟩
            · have := Paired.length hE2'
              rw [this, clen]
              exact small1000 (by omega)
            have e4 : Ex [P] H3 (upd H3 P (.lst (pv.dropLast ++ [.ref t2]))) := (Ex.refl H3).mut (.inr (List.mem_singleton.mpr rfl))
            have hFs3 : ∀ z ∈ [P], ∃ o, H3 z = some o ∧ (∀ ys, o ≠ .tup ys) ∧ ∀ b u, o ≠ .frz b u := fun z hz => by
              rw [List.mem_singleton.mp hz]
              exact ⟨_, e3 _ _ hP2, (fun _ z => nomatch z), (fun _ _ z => nomatch z)⟩
            have hA : ∀ z ∈ [P], (∃ ys, H3 z = some (.lst ys)) → z ∈ B := fun z hz _ => by rw [List.mem_singleton.mp hz]; exact hPB
            have hnew : Ent K H3 B (.ref t2) (n + 1 + i, ws) := ⟨t2, w, rfl, by rw [show (((n + 1 + i : Nat)) : Int) = (n : Int) + 1 + (i : Nat) by omega]; exact SqT.of ht3, e3.seq hW2, hnw, hwl, hlt⟩
            refine q2 _ (pv.dropLast ++ [.ref t2]) (cur.dropLast ++ [(n + 1 + i, ws)]) ((e02.trans (Ex.of e3)).trans e4) (hadv _ ?_) upd_same (entsSnoc (hnew.ex hFs3 e4 hA) (entsOn (fun v en he => (he.same e3).ex hFs3 e4 hA) hE2'))
            rw [ecur, List.reverse_append]
            exact .here ⟨by omega, hlt, hp, fun j h1 h2 => hno j h1 (by omega)⟩
          · refine ⟨rfl, _, rfl, fun j h1 h2 => ?_⟩
            by_cases hj : j = n + 1 + i
            · subst hj
              exact hp
            · exact hno j h1 (by omega)
        · rintro σ' Ha ⟨rfl, x3', rfl, hno⟩
          refine ⟨_, _, _, _, rfl, e02, hP2, hE2', fun o ho => hadv o ?_⟩
          rw [ecur]
          exact .skip (fun j h1 h2 => hno j h1 (by omega)) ho
    · have hc : cur = [] := List.eq_nil_of_length_eq_zero (by omega)
      subst hc
      have hpv : pv = [] := List.eq_nil_of_length_eq_zero (by simpa using hlen)
      subst hpv
      exact q1 H1 e (hadv _ .nil) hP1
structure XSt where
  P : Addr
  R : Addr
  ps : List (Nat × List Int)
  at_ : Nat
  ch : Rat
  op : Bool
  ov : Bool
  many : Nat
  rows : List (V × Rat)
def xF (P R : Addr) (at_ : Int) (cv : V) (op ov : Bool) (many : Int) : List (Str × V) := [("path", .ref P), ("at", .int at_), ("chance", cv), ("is_open", .bl op), ("is_over", .bl ov), ("many", .int many), ("rows", .ref R)]
section
variable {P R : Addr} {a m : Int} {c : V} {o v : Bool}
theorem xF_path : (xF P R a c o v m).lookup ("path" : Str) = some (.ref P) := lk_eq
theorem xF_at : (xF P R a c o v m).lookup ("at" : Str) = some (.int a) := (lk_ne (by decide +kernel)).trans lk_eq
theorem xF_chance : (xF P R a c o v m).lookup ("chance" : Str) = some c := (lk_ne (by decide +kernel)).trans ((lk_ne (by decide +kernel)).trans lk_eq)
theorem xF_open : (xF P R a c o v m).lookup ("is_open" : Str) = some (.bl o) := (lk_ne (by decide +kernel)).trans ((lk_ne (by decide +kernel)).trans ((lk_ne (by decide +kernel)).trans lk_eq))
theorem xF_over : (xF P R a c o v m).lookup ("is_over" : Str) = some (.bl v) := (lk_ne (by decide +kernel)).trans ((lk_ne (by decide +kernel)).trans ((lk_ne (by decide +kernel)).trans ((lk_ne (by decide +kernel)).trans lk_eq)))
theorem xF_many : (xF P R a c o v m).lookup ("many" : Str) = some (.int m) := (lk_ne (by decide +kernel)).trans ((lk_ne (by decide +kernel)).trans ((lk_ne (by decide +kernel)).trans ((lk_ne (by decide +kernel)).trans ((lk_ne (by decide +kernel)).trans lk_eq))))
theorem xF_rows : (xF P R a c o v m).lookup ("rows" : Str) = some (.ref R) := (lk_ne (by decide +kernel)).trans ((lk_ne (by decide +kernel)).trans ((lk_ne (by decide +kernel)).trans ((lk_ne (by decide +kernel)).trans ((lk_ne (by decide +kernel)).trans ((lk_ne (by decide +kernel)).trans lk_eq)))))
theorem xF_no {f : Str} (h : f ∉ [("path" : Str), "at", "chance", "is_open", "is_over", "many", "rows"]) : (xF P R a c o v m).lookup f = none := by
  have g : ∀ s : Str, s ∈ [("path" : Str), "at", "chance", "is_open", "is_over", "many", "rows"] → (f == s) = false := fun s hs => by
    rw [beq_eq_false_iff_ne]
    exact fun z => h (z ▸ hs)
  unfold xF
  rw [lk_ne (g _ (by simp)), lk_ne (g _ (by simp)), lk_ne (g _ (by simp)), lk_ne (g _ (by simp)), lk_ne (g _ (by simp)), lk_ne (g _ (by simp)), lk_ne (g _ (by simp))]
  rfl
theorem xF_len : (xF P R a c o v m).length < 1000 := by show 7 < 1000; decide
theorem xF_putA {z : Int} : putF "at" (.int z) (xF P R a c o v m) = xF P R z c o v m := by
  unfold xF
  rw [putF_ne (by decide +kernel), putF_eq]
theorem xF_putC {z : V} : putF "chance" z (xF P R a c o v m) = xF P R a z o v m := by
  unfold xF
  rw [putF_ne (by decide +kernel), putF_ne (by decide +kernel), putF_eq]
theorem xF_putO {z : Bool} : putF "is_open" (.bl z) (xF P R a c o v m) = xF P R a c z v m := by
  unfold xF
  rw [putF_ne (by decide +kernel), putF_ne (by decide +kernel), putF_ne (by decide +kernel), putF_eq]
theorem xF_putV {z : Bool} : putF "is_over" (.bl z) (xF P R a c o v m) = xF P R a c o z m := by
  unfold xF
  rw [putF_ne (by decide +kernel), putF_ne (by decide +kernel), putF_ne (by decide +kernel), putF_ne (by decide +kernel), putF_eq]
theorem xF_putM {z : Int} : putF "many" (.int z) (xF P R a c o v m) = xF P R a c o v z := by
  unfold xF
  rw [putF_ne (by decide +kernel), putF_ne (by decide +kernel), putF_ne (by decide +kernel), putF_ne (by decide +kernel), putF_ne (by decide +kernel), putF_eq]
theorem xF_mk : putF "rows" (.ref R) (putF "many" (.int m) (putF "is_over" (.bl v) (putF "is_open" (.bl o) (putF "chance" c (putF "at" (.int a) (putF "path" (.ref P) [])))))) = xF P R a c o v m := by
  rw [putF_nil]
  have e1 : putF ("at" : Str) (.int a) ([("path", .ref P)] : List (Str × V)) = ([("path", .ref P), ("at", .int a)] : List (Str × V)) := by
    rw [putF_ne (by decide +kernel), putF_nil]
  have e2 : putF ("chance" : Str) c ([("path", .ref P), ("at", .int a)] : List (Str × V)) = ([("path", .ref P), ("at", .int a), ("chance", c)] : List (Str × V)) := by
    rw [putF_ne (by decide +kernel), putF_ne (by decide +kernel), putF_nil]
  have e3 : putF ("is_open" : Str) (.bl o) ([("path", .ref P), ("at", .int a), ("chance", c)] : List (Str × V)) = ([("path", .ref P), ("at", .int a), ("chance", c), ("is_open", .bl o)] : List (Str × V)) := by
    rw [putF_ne (by decide +kernel), putF_ne (by decide +kernel), putF_ne (by decide +kernel), putF_nil]
  have e4 : putF ("is_over" : Str) (.bl v) ([("path", .ref P), ("at", .int a), ("chance", c), ("is_open", .bl o)] : List (Str × V)) = ([("path", .ref P), ("at", .int a), ("chance", c), ("is_open", .bl o), ("is_over", .bl v)] : List (Str × V)) := by
    rw [putF_ne (by decide +kernel), putF_ne (by decide +kernel), putF_ne (by decide +kernel), putF_ne (by decide +kernel), putF_nil]
  have e5 : putF ("many" : Str) (.int m) ([("path", .ref P), ("at", .int a), ("chance", c), ("is_open", .bl o), ("is_over", .bl v)] : List (Str × V)) = ([("path", .ref P), ("at", .int a), ("chance", c), ("is_open", .bl o), ("is_over", .bl v), ("many", .int m)] : List (Str × V)) := by
    rw [putF_ne (by decide +kernel), putF_ne (by decide +kernel), putF_ne (by decide +kernel), putF_ne (by decide +kernel), putF_ne (by decide +kernel), putF_nil]
  have e6 : putF ("rows" : Str) (.ref R) ([("path", .ref P), ("at", .int a), ("chance", c), ("is_open", .bl o), ("is_over", .bl v), ("many", .int m)] : List (Str × V)) = ([("path", .ref P), ("at", .int a), ("chance", c), ("is_open", .bl o), ("is_over", .bl v), ("many", .int m), ("rows", .ref R)] : List (Str × V)) := by
    rw [putF_ne (by decide +kernel), putF_ne (by decide +kernel), putF_ne (by decide +kernel), putF_ne (by decide +kernel), putF_ne (by decide +kernel), putF_ne (by decide +kernel), putF_nil]
  rw [e1, e2, e3, e4, e5, e6]
  rfl
end
def Row (K : PySem.W.Frag) (H : Hp) (v : V) (r : V × Rat) : Prop := ∃ t cv, v = .ref t ∧ SqT K H t [r.1, cv] ∧ Fr K H cv r.2
abbrev Rows' (K : PySem.W.Frag) (H : Hp) : List V → List (V × Rat) → Prop := Paired (Row K H)
theorem Row.ex {K : PySem.W.Frag} {H H' : Hp} {F : List Addr} {v : V} {r : V × Rat} (h : Row K H v r) (hF : ∀ x ∈ F, ∃ o, H x = some o ∧ (∀ ys, o ≠ .tup ys) ∧ ∀ b u, o ≠ .frz b u) (ex : Ex F H H') : Row K H' v r := by
  obtain ⟨t, cv, rfl, hT, a, rfl, hC⟩ := h
  exact ⟨t, _, rfl, sqT_ex hT hF ex, a, rfl, sqT_ex hC hF ex⟩
/-- an explorer stands at x -/
structure XAt (K : PySem.W.Frag) (H : Hp) (C x : Addr) (s : XSt) : Prop where
  inst : ∃ dx cv, H x = some (.ins C dx (xF s.P s.R s.at_ cv s.op s.ov s.many)) ∧ Fr K H cv s.ch
  path : ∃ pvs, H s.P = some (.lst pvs) ∧ Ents K H [s.P, s.R] pvs s.ps
  rows : ∃ rvs, H s.R = some (.lst rvs) ∧ Rows' K H rvs s.rows
  ne : s.P ≠ s.R
theorem XAt.same {K : PySem.W.Frag} {H H' : Hp} {C x : Addr} {s : XSt} (e : Same H H') (h : XAt K H C x s) : XAt K H' C x s := by
  obtain ⟨⟨dx, cv, h1, h2⟩, ⟨pvs, h3, h4⟩, ⟨rvs, h5, h6⟩, h7⟩ := h
  exact ⟨⟨dx, cv, e _ _ h1, h2.same e⟩, ⟨pvs, e _ _ h3, entsOn (fun _ _ q => q.same e) h4⟩, ⟨rvs, e _ _ h5, Paired.mapP h6 fun _ _ q => q.ex (F := []) (fun _ z => absurd z List.not_mem_nil) (Ex.of e)⟩, h7⟩
theorem XAt.nx {K : PySem.W.Frag} {H : Hp} {C x : Addr} {s : XSt} (h : XAt K H C x s) : x ≠ s.P ∧ x ≠ s.R := by
  obtain ⟨⟨dx, cv, h1, h2⟩, ⟨pvs, h3, h4⟩, ⟨rvs, h5, h6⟩, h7⟩ := h
  exact ⟨(fun z => by rw [z, h3] at h1; cases h1), (fun z => by rw [z, h5] at h1; cases h1)⟩
/-- the three objects of an explorer are no tuples -/
theorem XAt.fs {K : PySem.W.Frag} {H : Hp} {C x : Addr} {s : XSt} (h : XAt K H C x s) : ∀ z ∈ [x, s.P, s.R], ∃ o, H z = some o ∧ (∀ ys, o ≠ .tup ys) ∧ ∀ b u, o ≠ .frz b u := by
  obtain ⟨⟨dx, cv, h1, h2⟩, ⟨pvs, h3, h4⟩, ⟨rvs, h5, h6⟩, h7⟩ := h
  intro z hz
  rcases List.mem_cons.mp hz with rfl | hz
  · exact ⟨_, h1, (fun _ z => nomatch z), (fun _ _ z => nomatch z)⟩
  · rcases List.mem_cons.mp hz with rfl | hz
    · exact ⟨_, h3, (fun _ z => nomatch z), (fun _ _ z => nomatch z)⟩
    · rw [List.mem_singleton.mp hz]
      exact ⟨_, h5, (fun _ z => nomatch z), (fun _ _ z => nomatch z)⟩
/-- what the three objects' changes leave of entries, rows, fractions -/
theorem XAt.keeps {K : PySem.W.Frag} {H H' : Hp} {C x : Addr} {s : XSt} (h : XAt K H C x s) (e : Ex [x, s.P, s.R] H H') :
    (∀ v en, Ent K H [s.P, s.R] v en → Ent K H' [s.P, s.R] v en) ∧ (∀ v r, Row K H v r → Row K H' v r) ∧ (∀ v r, Fr K H v r → Fr K H' v r) ∧ ∀ a xs, SqT K H a xs → SqT K H' a xs := by
  refine ⟨fun v en q => q.ex h.fs e fun z hz hl => ?_, fun v r q => q.ex h.fs e, fun v r ⟨a, ea, q⟩ => ⟨a, ea, sqT_ex q h.fs e⟩, fun a xs q => sqT_ex q h.fs e⟩
  rcases List.mem_cons.mp hz with rfl | hz
  · obtain ⟨⟨dx, cv, h1, h2⟩, _⟩ := h
    obtain ⟨ys, hl⟩ := hl
    rw [h1] at hl
    cases hl
  · exact hz
/-- the rest of a change of the instance alone -/
theorem XAt.inst' {K : PySem.W.Frag} {H : Hp} {C x dx : Addr} {s : XSt} {a m : Int} {cv : V} {o v : Bool} (h : XAt K H C x s) (a' : Nat) (c' : Rat) (m' : Nat) (hc : Fr K H cv c') (ha : a = a') (hm : m = m') :
    XAt K (upd H x (.ins C dx (xF s.P s.R a cv o v m))) C x { s with at_ := a', ch := c', op := o, ov := v, many := m' } := by
  have e : Ex [x] H (upd H x (.ins C dx (xF s.P s.R a cv o v m))) := (Ex.refl H).mut (.inr (List.mem_singleton.mpr rfl))
  obtain ⟨k1, k2, k3, k4⟩ := h.keeps (e.mono fun b hb => by rw [List.mem_singleton.mp hb]; exact List.mem_cons_self)
  have nx := h.nx
  obtain ⟨_, ⟨pvs, h3, h4⟩, ⟨rvs, h5, h6⟩, h7⟩ := h
  subst ha hm
  exact ⟨⟨dx, cv, upd_same, k3 _ _ hc⟩, ⟨pvs, e _ _ (nin nx.1.symm) h3, entsOn k1 h4⟩, ⟨rvs, e _ _ (nin nx.2.symm) h5, Paired.mapP h6 k2⟩, h7⟩
def sp_Explorer___init__ (K : PySem.W.Frag) (C : Addr) : Sp := fun vs H Q _ => ∃ (x dx : Addr), vs = [.ref x] ∧ H x = some (.ins C dx []) ∧ ∀ P R H', Ex [x] H H' → XAt K H' C x ⟨P, R, [], 0, 1, false, false, 0, []⟩ → H P = none → H R = none → Q .non H'
theorem ok_Explorer___init__ (T : Txt K mg) : FnOk P w K mg base CX0 1 T.f_Explorer___init__ T.fd_Explorer___init__ ["self"] (sp_Explorer___init__ K T.a_Explorer) := by
  refine T.F_Explorer___init__.ok sc_Explorer___init__ (fun vs H Q E h => ?_) (fun cdv A outer s H vs Q E hr h => ?_)
  · obtain ⟨x, dx, rfl, _⟩ := h
    rfl
  · obtain ⟨x, dx, rfl, hx, q⟩ := h
    refine ⟨_, (pss_cons (ps_fld (pv 0) (pe_lst pa_nil) rfl)
      (pss_cons (ps_fld (pv 0) pe_int rfl)
      (pss_cons (ps_fld (pv 0) (pe_glob (v := .ref T.a_ONE) (by rfl) T.g_ONE rfl) rfl)
      (pss_cons (ps_fld (pv 0) pe_bl rfl)
      (pss_cons (ps_fld (pv 0) pe_bl rfl)
      (pss_cons (ps_fld (pv 0) pe_int rfl)
      (pss_one (ps_fld (pv 0) (pe_lst pa_nil) rfl)))))))), ?_⟩
    refine ⟨Nat.zero_le _, fun P hP => ?_⟩
    have nxP : x ≠ P := ne_of_none hx hP
    refine ⟨_, rfl, x, T.a_Explorer, dx, [], rfl, by rw [upd_ne nxP]; exact hx, T.cl_Explorer, T.n_Explorer_path, by show 0 < 1000; decide, ?_⟩
    refine ⟨_, rfl, x, T.a_Explorer, dx, _, rfl, upd_same, T.cl_Explorer, T.n_Explorer_at, by show 1 < 1000; decide, ?_⟩
    refine ⟨_, rfl, x, T.a_Explorer, dx, _, rfl, upd_same, T.cl_Explorer, T.n_Explorer_chance, by show 2 < 1000; decide, ?_⟩
    refine ⟨_, rfl, x, T.a_Explorer, dx, _, rfl, upd_same, T.cl_Explorer, T.n_Explorer_is_open, by show 3 < 1000; decide, ?_⟩
    refine ⟨_, rfl, x, T.a_Explorer, dx, _, rfl, upd_same, T.cl_Explorer, T.n_Explorer_is_over, by show 4 < 1000; decide, ?_⟩
    refine ⟨_, rfl, x, T.a_Explorer, dx, _, rfl, upd_same, T.cl_Explorer, T.n_Explorer_many, by show 5 < 1000; decide, ?_⟩
    rw [upd_upd, upd_upd, upd_upd, upd_upd, upd_upd]
    refine ⟨Nat.zero_le _, fun R hR => ?_⟩
    have nxR : x ≠ R := ne_of_none upd_same hR
    have hR2 : upd H P (.lst []) R = none := by
      rw [upd_ne nxR.symm] at hR
      exact hR
    have nPR : P ≠ R := ne_of_none upd_same hR2
    have hR3 : H R = none := by
      rw [upd_ne nPR.symm] at hR2
      exact hR2
    refine ⟨_, rfl, x, T.a_Explorer, dx, _, rfl, by rw [upd_ne nxR, upd_same], T.cl_Explorer, T.n_Explorer_rows, by show 6 < 1000; decide, ?_⟩
    rw [xF_mk]
    refine q P R _ ((((Ex.of (same_upd hP)).mut (.inr (by simp))).mut (.inl hR3)).mut (.inr (by simp))) ⟨⟨dx, _, upd_same, T.a_ONE, rfl, T.v_ONE _⟩, ⟨[], ?_, .nil⟩, ⟨[], ?_, .nil⟩, nPR⟩ hP hR3
    · rw [upd_ne nxP.symm, upd_ne nPR, upd_ne nxP.symm, upd_same]
    · rw [upd_ne nxR.symm, upd_same]
def BeginTo (s : XSt) (b : Bool) (s' : XSt) : Prop :=
  (s.ov = true ∧ b = false ∧ s' = s) ∨ (s.ov = false ∧ s.many = 0 ∧ b = true ∧ s' = { s with op := true, at_ := 0, ch := 1 }) ∨
  (s.ov = false ∧ 0 < s.many ∧ Adv s.ps.reverse none ∧ b = false ∧ s' = { s with ps := [], ov := true }) ∨
  (s.ov = false ∧ 0 < s.many ∧ ∃ ps', Adv s.ps.reverse (some ps'.reverse) ∧ b = true ∧ s' = { s with ps := ps', op := true, at_ := 0, ch := 1 })
def sp_Explorer_begin (K : PySem.W.Frag) (C : Addr) : Sp := fun vs H Q _ => ∃ (x : Addr) (s : XSt), vs = [.ref x] ∧ XAt K H C x s ∧ s.op = false ∧ s.ps.length ≤ 1000 ∧ (s.many = 20000 → ∀ ps', ¬ Adv s.ps.reverse (some ps')) ∧
  ∀ H' b s', Ex [x, s.P] H H' → BeginTo s b s' → XAt K H' C x s' → Q (.bl b) H'
theorem ok_Explorer_begin (T : Txt K mg) : FnOk P w K mg base CX0 3 T.f_Explorer_begin T.fd_Explorer_begin ["self"] (sp_Explorer_begin K T.a_Explorer) := by
  refine T.F_Explorer_begin.ok sc_Explorer_begin (fun vs H Q E h => ?_) (fun cdv A outer s H vs Q E hr h => ?_)
  · obtain ⟨x, st, rfl, _⟩ := h
    rfl
  · obtain ⟨x, st, rfl, hX, hop, hl, hmost, q⟩ := h
    refine ⟨_, (pss_cons (ps_if (pt_val (pe_fld (pv 0) rfl))
        (pss_one ps_never)
        pss_nil)
      (pss_cons (ps_if (pt_val (pe_fld (pv 0) rfl))
        (pss_one (ps_ret pe_bl))
        pss_nil)
      (pss_cut (ps_if (pt_cmpR op_gt (pe_fld (pv 0) rfl) pe_int (nomark _))
        (pss_cons (ps_set (i := 1) sc_Explorer_begin.nd rfl (Or.inl rfl) (pe_callTy (T := "list") call_list_of (by rfl) T.z_list (by decide +kernel) (pa_cons (pe_fld (pv 0) rfl) pa_nil)))
        (pss_cons (ps_if (pt_not (pt_val (pe_meth0 (pv 0) T.cl_Explorer T.M_Explorer_advance (ok_Explorer_advance T) (hr.mono (by decide)) T.b_Explorer_advance .nil pass0)))
          (pss_cons (ps_fld (pv 0) pe_bl rfl)
          (pss_one (ps_ret pe_bl)))
          pss_nil)
        (pss_one (ps_if (pt_cmpR op_eq (pe_fld (pv 0) rfl) (pe_glob (v := .int (20000)) (by rfl) T.g_MOST_RUNS ⟨_, rfl⟩) (nomark _))
          (pss_cons (ps_fld (pv 0) (pv 1) rfl)
          (pss_one ps_never))
          pss_nil))))
        pss_nil)
      (pss_cons (ps_fld (pv 0) pe_bl rfl)
      (pss_cons (ps_fld (pv 0) pe_int rfl)
      (pss_cons (ps_fld (pv 0) (pe_glob (v := .ref T.a_ONE) (by rfl) T.g_ONE rfl) rfl)
      (pss_one (ps_ret pe_bl)))))))), ?_⟩
    obtain ⟨⟨dx, cv, hx, hc⟩, ⟨pvs, hP, hE⟩, ⟨rvs, hR, hRr⟩, hne⟩ := id hX
    rw [hop] at hx
    refine ⟨_, rfl, x, T.a_Explorer, dx, _, _, rfl, hx, T.cl_Explorer, T.n_Explorer_is_open, xF_open, _, rfl, iteF ?_⟩
    refine ⟨_, rfl, x, T.a_Explorer, dx, _, _, rfl, hx, T.cl_Explorer, T.n_Explorer_is_over, xF_over, _, rfl, ?_⟩
    cases hov : st.ov with
    | true => exact iteT (q H false st (Ex.refl H) (.inl ⟨hov, rfl, rfl⟩) hX)
    | false =>
      rw [hov] at hx
      refine iteF ?_
      have fin : ∀ {H1 : Hp} {s1 : XSt}, XAt K H1 T.a_Explorer x s1 → XAt K (upd (upd (upd H1 x (.ins T.a_Explorer dx (xF s1.P s1.R s1.at_ cv true s1.ov s1.many))) x (.ins T.a_Explorer dx (xF s1.P s1.R 0 cv true s1.ov s1.many))) x (.ins T.a_Explorer dx (xF s1.P s1.R 0 (.ref T.a_ONE) true s1.ov s1.many))) T.a_Explorer x { s1 with op := true, at_ := 0, ch := 1 } := fun h => by
        rw [upd_upd, upd_upd]
        exact h.inst' 0 1 _ ⟨T.a_ONE, rfl, T.v_ONE _⟩ rfl rfl
      have exf : ∀ {H1 : Hp} {o1 o2 o3 : HO}, Ex [x, st.P] H1 (upd (upd (upd H1 x o1) x o2) x o3) := fun {H1} {o1} {o2} {o3} => by
        rw [upd_upd, upd_upd]
        exact (Ex.refl H1).mut (.inr (by simp))
      refine ⟨fun σ' H' => ∃ x1 s1, σ' = [some (.ref x), x1] ∧ Ex [x, st.P] H H' ∧ XAt K H' T.a_Explorer x s1 ∧ H' x = some (.ins T.a_Explorer dx (xF s1.P s1.R s1.at_ cv false s1.ov s1.many)) ∧ BeginTo st true { s1 with op := true, at_ := 0, ch := 1 }, ?_, ?_⟩
      · refine ⟨_, rfl, x, T.a_Explorer, dx, _, _, rfl, hx, T.cl_Explorer, T.n_Explorer_many, xF_many, _, _, rfl, rfl, _, rfl, ite_dec (fun hm => ?_) (fun hm => ?_)⟩
        · have hm0 : 0 < st.many := by omega
          refine ⟨_, rfl, x, T.a_Explorer, dx, _, _, rfl, hx, T.cl_Explorer, T.n_Explorer_path, xF_path, st.P, pvs, rfl, .inl (SqL.of hP), fun kp hkp => ?_⟩
          have nkx : x ≠ kp := ne_of_none hx hkp
          have nkP : st.P ≠ kp := ne_of_none hP hkp
          have e1 := same_upd (o := .lst pvs) hkp
          have hk1 : upd H kp (.lst pvs) kp = some (.lst pvs) := upd_same
          generalize upd H kp (.lst pvs) = H1 at e1 hk1 ⊢
          have hX1 := hX.same e1
          refine ⟨_, rfl, x, dx, _, rfl, e1 _ _ hx, xF_no (by decide +kernel), x, dx, st.P, _, pvs, st.ps, [st.P, st.R], rfl, e1 _ _ hx, xF_path, e1 _ _ hP, by simp, entsOn (fun _ _ q => q.same e1) hE, hl, fun H2 e2 ha hP2 => ?_, fun H2 pvs' ps' e2 ha hP2 hE2 => ?_⟩
          · have e2' : Ex [x, st.P, st.R] H1 H2 := e2.mono fun b hb => by rw [List.mem_singleton.mp hb]; simp
            obtain ⟨k1, k2, k3, k4⟩ := hX1.keeps e2'
            have hx2 : H2 x = some (.ins T.a_Explorer dx (xF st.P st.R st.at_ cv false false st.many)) := e2 _ _ (nin hX.nx.1) (e1 _ _ hx)
            have hX2 : XAt K H2 T.a_Explorer x { st with ps := [] } := ⟨⟨dx, cv, by rw [hop, hov]; exact hx2, k3 _ _ (hc.same e1)⟩, ⟨[], hP2, .nil⟩, ⟨rvs, e2 _ _ (nin hne.symm) (e1 _ _ hR), Paired.mapP hRr fun v r hr => k2 _ _ (hr.ex (F := []) (fun _ z => absurd z List.not_mem_nil) (Ex.of e1))⟩, hne⟩
            refine ⟨_, rfl, iteT ⟨_, rfl, x, T.a_Explorer, dx, _, rfl, hx2, T.cl_Explorer, T.n_Explorer_is_over, xF_len, ?_⟩⟩
            rw [xF_putV]
            refine q _ false { st with ps := [], ov := true } (((Ex.of e1).trans (e2.mono fun b hb => by rw [List.mem_singleton.mp hb]; simp)).mut (.inr (by simp))) (.inr (.inr (.inl ⟨hov, hm0, ha, rfl, rfl⟩))) ?_
            have z := hX2.inst' (dx := dx) (o := false) (v := true) st.at_ st.ch st.many (k3 _ _ (hc.same e1)) rfl rfl
            have es : ({ st with ps := [], ov := true } : XSt) = { st with ps := [], at_ := st.at_, ch := st.ch, op := false, ov := true, many := st.many } := by
              rw [← hop]
            rw [es]
            exact z
          · have e2' : Ex [x, st.P, st.R] H1 H2 := e2.mono fun b hb => by rw [List.mem_singleton.mp hb]; simp
            obtain ⟨k1, k2, k3, k4⟩ := hX1.keeps e2'
            have hx2 : H2 x = some (.ins T.a_Explorer dx (xF st.P st.R st.at_ cv false false st.many)) := e2 _ _ (nin hX.nx.1) (e1 _ _ hx)
            have hX2 : XAt K H2 T.a_Explorer x { st with ps := ps' } := ⟨⟨dx, cv, by rw [hop, hov]; exact hx2, k3 _ _ (hc.same e1)⟩, ⟨pvs', hP2, hE2⟩, ⟨rvs, e2 _ _ (nin hne.symm) (e1 _ _ hR), Paired.mapP hRr fun v r hr => k2 _ _ (hr.ex (F := []) (fun _ z => absurd z List.not_mem_nil) (Ex.of e1))⟩, hne⟩
            refine ⟨_, rfl, iteF ?_⟩
            refine ⟨_, rfl, x, T.a_Explorer, dx, _, _, rfl, hx2, T.cl_Explorer, T.n_Explorer_many, xF_many, rfl, _, rfl, ite_dec (fun hm2 => ?_) (fun hm2 => ?_)⟩
            · have hm3 : st.many = 20000 := by
                have := V.int.inj hm2
                omega
              exact absurd ha (hmost hm3 _)
            · refine ⟨_, { st with ps := ps' }, rfl, (Ex.of e1).trans (e2.mono fun b hb => by rw [List.mem_singleton.mp hb]; simp), hX2, ?_, .inr (.inr (.inr ⟨hov, hm0, ps', ha, rfl, rfl⟩))⟩
              show H2 x = some (.ins T.a_Explorer dx (xF st.P st.R st.at_ cv false st.ov st.many))
              rw [hov]
              exact hx2
        · have hm0 : st.many = 0 := by omega
          refine ⟨_, st, rfl, Ex.refl H, hX, ?_, .inr (.inl ⟨hov, hm0, rfl, rfl⟩)⟩
          rw [hov]
          exact hx
      · rintro σ' H' ⟨x1, s1, rfl, e, hX1, hx1, hb⟩
        refine ⟨_, rfl, x, T.a_Explorer, dx, _, rfl, hx1, T.cl_Explorer, T.n_Explorer_is_open, xF_len, ?_⟩
        rw [xF_putO]
        refine ⟨_, rfl, x, T.a_Explorer, dx, _, rfl, upd_same, T.cl_Explorer, T.n_Explorer_at, xF_len, ?_⟩
        rw [xF_putA]
        refine ⟨_, rfl, x, T.a_Explorer, dx, _, rfl, upd_same, T.cl_Explorer, T.n_Explorer_chance, xF_len, ?_⟩
        rw [xF_putC]
        exact q _ true _ (e.trans exf) hb (fin hX1)
theorem Adv.det {l : List (Nat × List Int)} {o o' : Option (List (Nat × List Int))} (h : Adv l o) (h' : Adv l o') : o = o' := by
  induction h generalizing o' with
  | nil => cases h'; rfl
  | @here n m ws r a =>
    cases h' with
    | @here _ m' _ _ b =>
      have : m = m' := by
        rcases Nat.lt_trichotomy m m' with z | z | z
        · exact absurd a.2.2.1 (b.2.2.2 m a.1 z)
        · exact z
        · exact absurd b.2.2.1 (a.2.2.2 m' b.1 z)
      rw [this]
    | skip b _ => exact absurd a.2.2.1 (b m a.1 a.2.1)
  | @skip n ws r o a t ih =>
    cases h' with
    | @here _ m' _ _ b => exact absurd b.2.2.1 (a m' b.1 b.2.1)
    | skip _ t' => exact ih t'

def sp_TooLarge___init__ (K : PySem.W.Frag) (C : Addr) : Sp := sp_exc1 K C "limit"
theorem ok_TooLarge___init__ (T : Txt K mg) : FnOk P w K mg base CX0 1 T.f_TooLarge___init__ T.fd_TooLarge___init__ ["self", "limit"] (sp_TooLarge___init__ K T.a_TooLarge) := by
  refine T.F_TooLarge___init__.ok sc_TooLarge___init__ (fun vs H Q E h => ?_) (fun cdv A outer s H vs Q E hr h => ?_)
  · obtain ⟨a, v, rfl, _⟩ := h
    rfl
  · obtain ⟨a, v, rfl, ha, q⟩ := h
    refine ⟨_, (pss_one (ps_ost (pv 0) (pv 1))), ?_⟩
    exact ⟨_, rfl, _, rfl, a, T.a_TooLarge, rfl, T.ox_TooLarge, T.no_TooLarge_limit, .inl ⟨ha, fun dx hd ne => q dx hd ne⟩⟩
def spX_Explorer_begin (K : PySem.W.Frag) (C D : Addr) : Sp := fun vs H Q E => ∃ (x : Addr) (s : XSt) (ps' : List (Nat × List Int)), vs = [.ref x] ∧ XAt K H C x s ∧ s.op = false ∧ s.ov = false ∧ s.ps.length ≤ 1000 ∧ s.many = 20000 ∧ Adv s.ps.reverse (some ps') ∧
  ∀ d H', H' d = some (.xd [("limit", .str "runs")]) → E (.ref D) (some d) H'
theorem okX_Explorer_begin (T : Txt K mg) : FnOk P w K mg base (L2.CX P w) 3 T.f_Explorer_begin T.fd_Explorer_begin ["self"] (spX_Explorer_begin K T.a_Explorer T.a_TooLarge) := by
  refine T.F_Explorer_begin.okX sc_Explorer_begin (fun vs H Q E h => ?_) (fun cdv A outer s H vs Q E hr h => ?_)
  · obtain ⟨x, st, ps', rfl, _⟩ := h
    rfl
  · obtain ⟨x, st, ps', rfl, hX, hop, hov, hl, hmost, hadv, q⟩ := h
    refine ⟨_, (pss_cons (ps_if (pt_val (pe_fld (pv 0) rfl))
        (pss_one (ps_raise rfl (takes_of rfl rfl rfl rfl) (pmk_own0 PySem.F.excBase_ValueError T.x_NotEnded T.g_NotEnded T.kp_NotEnded (raises_own T.sb_NotEnded T.ty_NotEnded) rfl)))
        pss_nil)
      (pss_cons (ps_if (pt_val (pe_fld (pv 0) rfl))
        (pss_one (ps_ret pe_bl))
        pss_nil)
      (pss_cut (ps_if (pt_cmpR op_gt (pe_fld (pv 0) rfl) pe_int (nomark _))
        (pss_cons (ps_set (i := 1) sc_Explorer_begin.nd rfl (Or.inl rfl) (pe_callTy (T := "list") call_list_of (by rfl) T.z_list (by decide +kernel) (pa_cons (pe_fld (pv 0) rfl) pa_nil)))
        (pss_cons (ps_if (pt_not (pt_val (pe_meth0 (pv 0) T.cl_Explorer T.M_Explorer_advance (ok_Explorer_advance T) (hr.mono (by decide)) T.b_Explorer_advance .nil pass0)))
          (pss_cons (ps_fld (pv 0) pe_bl rfl)
          (pss_one (ps_ret pe_bl)))
          pss_nil)
        (pss_one (ps_if (pt_cmpR op_eq (pe_fld (pv 0) rfl) (pe_glob (v := .int (20000)) (by rfl) T.g_MOST_RUNS ⟨_, rfl⟩) (nomark _))
          (pss_cons (ps_fld (pv 0) (pv 1) rfl)
          (pss_one (ps_raise rfl (takes_of rfl rfl rfl rfl) (pmk_oex T.ox_TooLarge T.ic_TooLarge T.tc_TooLarge (ok_TooLarge___init__ T) (hr.mono (by decide)) T.b_TooLarge___init__ .nil pass0 (by rfl) T.g_TooLarge (pa_cons pe_str pa_nil)))))
          pss_nil))))
        pss_nil)
      (pss_cons (ps_fld (pv 0) pe_bl rfl)
      (pss_cons (ps_fld (pv 0) pe_int rfl)
      (pss_cons (ps_fld (pv 0) (pe_glob (v := .ref T.a_ONE) (by rfl) T.g_ONE rfl) rfl)
      (pss_one (ps_ret pe_bl)))))))), ?_⟩
    obtain ⟨⟨dx, cv, hx, hc⟩, ⟨pvs, hP, hE⟩, ⟨rvs, hR, hRr⟩, hne⟩ := id hX
    rw [hop, hov] at hx
    refine ⟨_, rfl, x, T.a_Explorer, dx, _, _, rfl, hx, T.cl_Explorer, T.n_Explorer_is_open, xF_open, _, rfl, iteF ?_⟩
    refine ⟨_, rfl, x, T.a_Explorer, dx, _, _, rfl, hx, T.cl_Explorer, T.n_Explorer_is_over, xF_over, _, rfl, iteF ?_⟩
    refine ⟨fun _ _ => False, ?_, fun _ _ z => z.elim⟩
    refine ⟨_, rfl, x, T.a_Explorer, dx, _, _, rfl, hx, T.cl_Explorer, T.n_Explorer_many, xF_many, _, _, rfl, rfl, _, rfl, ite_dec (fun hm => ?_) (fun hm => absurd (show (0 : Int) < st.many by omega) hm)⟩
    refine ⟨_, rfl, x, T.a_Explorer, dx, _, _, rfl, hx, T.cl_Explorer, T.n_Explorer_path, xF_path, st.P, pvs, rfl, .inl (SqL.of hP), fun kp hkp => ?_⟩
    have e1 := same_upd (o := .lst pvs) hkp
    have hk1 : upd H kp (.lst pvs) kp = some (.lst pvs) := upd_same
    generalize upd H kp (.lst pvs) = H1 at e1 hk1 ⊢
    refine ⟨_, rfl, x, dx, _, rfl, e1 _ _ hx, xF_no (by decide +kernel), x, dx, st.P, _, pvs, st.ps, [st.P, st.R], rfl, e1 _ _ hx, xF_path, e1 _ _ hP, by simp, entsOn (fun _ _ q => q.same e1) hE, hl, fun H2 e2 ha hP2 => ?_, fun H2 pvs' ps' e2 ha hP2 hE2 => ?_⟩
    · exact absurd (ha.det hadv) (fun z => nomatch z)
    · have hx2 : H2 x = some (.ins T.a_Explorer dx (xF st.P st.R st.at_ cv false false st.many)) := e2 _ _ (nin hX.nx.1) (e1 _ _ hx)
      refine ⟨_, rfl, iteF ?_⟩
      refine ⟨_, rfl, x, T.a_Explorer, dx, _, _, rfl, hx2, T.cl_Explorer, T.n_Explorer_many, xF_many, rfl, _, rfl, ite_dec (fun hm2 => ?_) (fun hm2 => absurd (congrArg V.int (show (st.many : Int) = 20000 by omega)) hm2)⟩
      refine ⟨_, rfl, _, rfl, x, T.a_Explorer, dx, _, rfl, hx2, T.cl_Explorer, T.n_Explorer_path, xF_len, ?_⟩
      refine ⟨by show 1 ≤ 1000; decide, fun a ha => exc1_made ha fun d H3 e3 hd hx3 => q d H3 hx3⟩
/-! ### a pick -/
def First (ws : List Int) (n : Nat) : Prop := n < ws.length ∧ 0 < ws.getD n 0 ∧ ∀ j, j < n → ¬ 0 < ws.getD j 0
def PickTo (s : XSt) (ws : List Int) (n : Nat) (s' : XSt) : Prop := ∃ ps', ((s.at_ = s.ps.length ∧ First ws n ∧ ps' = s.ps ++ [(n, ws)]) ∨ (∃ ws', s.ps[s.at_]? = some (n, ws') ∧ ps' = s.ps)) ∧
  s' = { s with ps := ps', at_ := s.at_ + 1, ch := s.ch * Rat.divInt (ws.getD n 0) ws.sum }
def pos_of (ws : List Int) : List Int := ((List.range ws.length).filter fun j => decide (0 < ws.getD j 0)).map fun j : Nat => (j : Int)
theorem pos_first {ws : List Int} {n : Nat} (h : First ws n) : atI ((pos_of ws).map V.int) 0 = some (.int n) := by
  refine atI_int (Int.le_refl _) ?_
  unfold pos_of
  rw [List.map_map, List.getElem?_map]
  have e : ((List.range ws.length).filter fun j => decide (0 < ws.getD j 0))[(0 : Int).toNat]? = some n := by
    show ((List.range ws.length).filter fun j => decide (0 < ws.getD j 0))[0]? = some n
    rw [← List.head?_eq_getElem?, List.head?_filter, List.find?_range_eq_some]
    exact ⟨decide_eq_true h.2.1, List.mem_range.mpr h.1, fun j hj => by rw [decide_eq_false (h.2.2 j hj)]; rfl⟩
  rw [e]
  rfl
def sp_Explorer_pick (K : PySem.W.Frag) (C : Addr) : Sp := fun vs H Q _ => ∃ (x wl : Addr) (s : XSt) (ws : List Int) (n : Nat), vs = [.ref x, .ref wl] ∧ XAt K H C x s ∧ SqL K H wl (ws.map V.int) ∧ wl ∉ [s.P, s.R] ∧ ws.length ≤ 1000 ∧ s.ps.length ≤ 1000 ∧ 0 < ws.sum ∧
  (s.at_ = s.ps.length → First ws n) ∧ (s.at_ ≠ s.ps.length → ∃ ws', s.ps[s.at_]? = some (n, ws')) ∧ n < ws.length ∧ (ws.getD n 0).natAbs < 2 ^ 900 ∧ ws.sum.natAbs < 2 ^ 900 ∧ Sz LIM s.ch ∧
  ∀ H' s', Ex [x, s.P] H H' → PickTo s ws n s' → XAt K H' C x s' → Q (.int n) H'
theorem entsGet {K : PySem.W.Frag} {H : Hp} {A : List Addr} {xs : List V} {es : List (Nat × List Int)} (h : Ents K H A xs es) {i : Nat} {en : Nat × List Int} (e : es[i]? = some en) : ∃ v, xs[i]? = some v ∧ Ent K H A v en := by
  induction h generalizing i with
  | nil => simp at e
  | @cons a b xs es q t ih =>
    cases i with
    | zero =>
      have e1 : b = en := Option.some.inj e
      subst e1
      exact ⟨a, rfl, q⟩
    | succ i => exact ih e
theorem ok_Explorer_pick (T : Txt K mg) : FnOk P w K mg base CX0 3 T.f_Explorer_pick T.fd_Explorer_pick ["self", "weights"] (sp_Explorer_pick K T.a_Explorer) := by
  refine T.F_Explorer_pick.ok sc_Explorer_pick (fun vs H Q E h => ?_) (fun cdv A outer s H vs Q E hr h => ?_)
  · obtain ⟨x, wl, st, ws, n, rfl, _⟩ := h
    rfl
  · obtain ⟨x, wl, st, ws, n, rfl, hX, hW, hwn, hwl, hpl, hsum, hfirst, hold, hn, hz1, hz2, hzc, q⟩ := h
    refine ⟨_, (pss_cut (ps_if (pt_cmpR op_eq (pe_fld (pv 0) rfl) (pe_callB (id := "len") call_len_seq (by rfl) T.z_len (by decide +kernel) (pa_cons (pe_fld (pv 0) rfl) pa_nil)) (nomark _))
        (pss_cons (ps_set (i := 2) sc_Explorer_pick.nd rfl (Or.inl rfl) (pe_ix ix_list (pe_lc (own := [("number", 3)]) (g := gName 3) rfl sc_Explorer_pick.nd (pi_range1 (by rfl) T.z_range (pa_cons (pe_callB (id := "len") call_len_seq (by rfl) T.z_len (by decide +kernel) (pa_cons (pv 1) pa_nil)) pa_nil)) (blkOk_by (own := [("number", 3)]) (N := nm_Explorer_pick) (sc := defScope s_Explorer_pick) (by decide +kernel)) (fun _ _ _ _ _ => pg_name (i := 3) sc_Explorer_pick.nd rfl (Or.inl rfl)) (fun _ _ _ _ _ => (pts_one (pt_cmpR op_gt (pe_ix (ixLk (K := K) rfl) (pv 1) (pv 3) (fun _ _ => rfl)) pe_int (nomark _)))) (fun _ _ _ _ _ => (pv 3))) pe_int (fun _ _ => rfl)))
        (pss_one (ps_expr (pe_bm PySem.F.plainAttrs_list PySem.F.slot_list_append PySem.F.type_list_append mt_append (pe_fld (pv 0) rfl) (pa_cons (pe_tup (pa_cons (pv 2) (pa_cons (pe_callTy (T := "list") call_list_of (by rfl) T.z_list (by decide +kernel) (pa_cons (pv 1) pa_nil)) pa_nil))) pa_nil)))))
        pss_nil)
      (pss_cons (ps_set (i := 3) sc_Explorer_pick.nd rfl (Or.inl rfl) (pe_ix ix_tup (pe_ix ix_list (pe_fld (pv 0) rfl) (pe_fld (pv 0) rfl) (fun _ _ => rfl)) pe_int (fun _ _ => rfl)))
      (pss_cons (ps_fldaug (pv 0) pe_int in_add)
      (pss_cons (ps_fld (pv 0) (pe_call (ok_times T) (hr.mono (by decide)) (by rfl) T.g_times T.F_times.kp T.b_times .nil pass0 (pa_cons (pe_fld (pv 0) rfl) (pa_cons (pe_call (ok_lowest T) (hr.mono (by decide)) (by rfl) T.g_lowest T.F_lowest.kp T.b_lowest .nil pass0 (pa_cons (pe_ix ix_list (pv 1) (pv 3) (fun _ _ => rfl)) (pa_cons (pe_callB (id := "sum") (cr_sum rfl) (by rfl) T.z_sum (by decide +kernel) (pa_cons (pv 1) pa_nil)) pa_nil))) pa_nil))) rfl)
      (pss_one (ps_ret (pv 3))))))), ?_⟩
    obtain ⟨⟨dx, cv, hx, hc⟩, ⟨pvs, hP, hE⟩, ⟨rvs, hR, hRr⟩, hne⟩ := id hX
    have hpvl : pvs.length = st.ps.length := Paired.length hE
    have hnx := hX.nx
    have nwP : wl ≠ st.P := fun z => hwn (by rw [z]; simp)
    have hwl' : (ws.map V.int).length = ws.length := List.length_map ..
    have hget : ∀ j, j < ws.length → (ws.map V.int)[j]? = some (.int (ws.getD j 0)) := fun j hj => get_map (by rw [List.getD_eq_getElem?_getD, List.getElem?_eq_getElem hj]; rfl)
    refine ⟨fun σ' H' => ∃ (x2 x3 : Option V) (ps' : List (Nat × List Int)) (pvs' : List V) (ws' : List Int), σ' = [some (.ref x), some (.ref wl), x2, x3] ∧ Ex [st.P] H H' ∧ H' st.P = some (.lst pvs') ∧ Ents K H' [st.P, st.R] pvs' ps' ∧
      ((st.at_ = st.ps.length ∧ First ws n ∧ ps' = st.ps ++ [(n, ws)]) ∨ (∃ ws', st.ps[st.at_]? = some (n, ws') ∧ ps' = st.ps)) ∧ ps'[st.at_]? = some (n, ws'), ?_, ?_⟩
    · refine ⟨_, rfl, x, T.a_Explorer, dx, _, _, rfl, hx, T.cl_Explorer, T.n_Explorer_at, xF_at, _, rfl, x, T.a_Explorer, dx, _, _, rfl, hx, T.cl_Explorer, T.n_Explorer_path, xF_path, st.P, pvs, rfl, .inl (SqL.of hP), rfl, _, rfl, ite_dec (fun h1 => ?_) (fun h1 => ?_)⟩
      · have hat : st.at_ = st.ps.length := by
          have := V.int.inj h1
          omega
        have hF := hfirst hat
        refine ⟨_, rfl, wl, _, rfl, .inl hW, _, rfl, by omega, by omega, fun D hD => ?_⟩
        refine lc_it walk_range (fun i H' => Same H H' ∧ H' D = some (.lst (((((List.range i).filter fun j => decide (0 < ws.getD j 0)).map fun j : Nat => (j : Int)).map V.int)))) ⟨same_upd hD, upd_same⟩ (fun _ _ _ _ => trivial) ?_ ?_
        · rintro i v Ha Hb hi ⟨e, hd⟩ ⟨rfl, rfl⟩
          have hi' : i < ws.length := by omega
          refine ⟨rfl, _, rfl, _, rfl, wl, _, _, .int (ws.getD i 0), rfl, rfl, e.seq hW, atI_int (by omega) (by rw [show ((0 : Int) + (i : Nat)).toNat = i by omega]; exact hget i hi'), _, _, rfl, rfl, _, rfl, ite_dec (fun hp => ?_) (fun hp => ?_)⟩
          · refine ⟨_, rfl, _, hd, ?_, e.mut hD, ?_⟩
            · rw [List.length_map, List.length_map]
              refine Nat.lt_of_le_of_lt (List.length_filter_le _ _) ?_
              rw [List.length_range]
              exact small1000 (by omega)
            · rw [upd_same, List.range_succ, List.filter_append, List.filter_cons_of_pos (p := fun j => decide (0 < ws.getD j 0)) (decide_eq_true hp), List.filter_nil, List.map_append, List.map_append]
              show some (HO.lst (_ ++ [V.int ((0 : Int) + (i : Nat))])) = some (HO.lst (_ ++ [V.int (i : Nat)]))
              rw [Int.zero_add]
          · refine ⟨e, ?_⟩
            rw [List.range_succ, List.filter_append, List.filter_cons_of_neg (p := fun j => decide (0 < ws.getD j 0)) (by rw [decide_eq_false hp]; decide), List.filter_nil, List.append_nil]
            exact hd
        · rintro Ha ⟨e, hd⟩
          have hd' : Ha D = some (.lst ((pos_of ws).map V.int)) := by
            rw [hd, show (((ws.map V.int).length : Nat) : Int).toNat = ws.length by omega]
            rfl
          refine ⟨D, _, 0, _, rfl, rfl, SqL.of hd', pos_first hF, ?_⟩
          have hxa := e _ _ hx
          refine ⟨_, rfl, x, T.a_Explorer, dx, _, _, rfl, hxa, T.cl_Explorer, T.n_Explorer_path, xF_path, .inl ⟨rfl, _, SqL.of (e _ _ hP)⟩, _, rfl, _, rfl, wl, _, rfl, .inl (e.seq hW), fun c hc2 => ?_⟩
          have ncP : c ≠ st.P := (ne_of_none (e _ _ hP) hc2).symm
          have ncR : c ≠ st.R := (ne_of_none (e _ _ hR) hc2).symm
          have e2 := same_upd (o := .lst (ws.map V.int)) hc2
          have hc3 : upd Ha c (.lst (ws.map V.int)) c = some (.lst (ws.map V.int)) := upd_same
          generalize upd Ha c (.lst (ws.map V.int)) = H2 at e2 hc3 ⊢
          refine ⟨by show 2 ≤ sizeLine; decide, fun t ht => ?_⟩
          have e3 := same_upd (o := .tup [.int (n : Int), .ref c]) ht
          have ht3 : upd H2 t (.tup [.int (n : Int), .ref c]) t = some (.tup [.int (n : Int), .ref c]) := upd_same
          generalize upd H2 t (.tup [.int (n : Int), .ref c]) = H3 at e3 ht3 ⊢
          have e03 := (e.trans e2).trans e3
          refine ⟨st.P, pvs, _, rfl, rfl, e03 _ _ hP, small1000 (by omega), ?_⟩
          have e4 : Ex [st.P] H3 (upd H3 st.P (.lst (pvs ++ [.ref t]))) := (Ex.refl H3).mut (.inr (List.mem_singleton.mpr rfl))
          have hFs3 : ∀ z ∈ [st.P], ∃ o, H3 z = some o ∧ (∀ ys, o ≠ .tup ys) ∧ ∀ b u, o ≠ .frz b u := fun z hz => by
            rw [List.mem_singleton.mp hz]
            exact ⟨_, e03 _ _ hP, (fun _ z => nomatch z), (fun _ _ z => nomatch z)⟩
          have hA : ∀ z ∈ [st.P], (∃ ys, H3 z = some (.lst ys)) → z ∈ [st.P, st.R] := fun z hz _ => by rw [List.mem_singleton.mp hz]; simp
          have hnew : Ent K H3 [st.P, st.R] (.ref t) (n, ws) := ⟨t, c, rfl, SqT.of ht3, SqL.of (e3 _ _ hc3), by simp [ncP, ncR], hwl, hn⟩
          refine ⟨_, _, st.ps ++ [(n, ws)], pvs ++ [.ref t], ws, rfl, (Ex.of e03).trans e4, upd_same, entsSnoc (hnew.ex hFs3 e4 hA) (entsOn (fun v en he => (he.same e03).ex hFs3 e4 hA) hE), .inl ⟨hat, hF, rfl⟩, ?_⟩
          rw [hat, List.getElem?_append_right (Nat.le_refl _), Nat.sub_self]
          rfl
      · have hat : st.at_ ≠ st.ps.length := fun z => h1 (congrArg V.int (by omega))
        obtain ⟨ws', hw'⟩ := hold hat
        exact ⟨_, _, st.ps, pvs, ws', rfl, Ex.refl H, hP, hE, .inr ⟨ws', hw', rfl⟩, hw'⟩
    · rintro σ' H1 ⟨x2, x3, ps', pvs', ws', rfl, e, hP1, hE1, hcase, hget1⟩
      have hx1 := e _ _ (nin hnx.1) hx
      have hR1 := e _ _ (nin hne.symm) hR
      have hW1 := e.seq (nin nwP) hW
      have hFs : ∀ z ∈ [st.P], ∃ o, H z = some o ∧ (∀ ys, o ≠ .tup ys) ∧ ∀ b u, o ≠ .frz b u := fun z hz => by
        rw [List.mem_singleton.mp hz]
        exact ⟨_, hP, (fun _ z => nomatch z), (fun _ _ z => nomatch z)⟩
      have hc1 : Fr K H1 cv st.ch := by
        obtain ⟨a, rfl, ha⟩ := hc
        exact ⟨a, rfl, sqT_ex ha hFs e⟩
      have hX1 : XAt K H1 T.a_Explorer x { st with ps := ps' } := ⟨⟨dx, cv, hx1, hc1⟩, ⟨pvs', hP1, hE1⟩, ⟨rvs, hR1, Paired.mapP hRr fun v r hr => hr.ex hFs e⟩, hne⟩
      obtain ⟨v, hv, hEnt⟩ := entsGet hE1 hget1
      obtain ⟨t, w', rfl, hT, _⟩ := hEnt
      refine ⟨_, rfl, x, T.a_Explorer, dx, _, _, rfl, hx1, T.cl_Explorer, T.n_Explorer_path, xF_path, _, rfl, x, T.a_Explorer, dx, _, _, rfl, hx1, T.cl_Explorer, T.n_Explorer_at, xF_at, st.P, pvs', _, _, rfl, rfl, SqL.of hP1, atI_int (by omega) (by rw [show ((st.at_ : Nat) : Int).toNat = st.at_ by omega]; exact hv), t, _, 0, _, rfl, rfl, hT, rfl, ?_⟩
      refine ⟨_, rfl, x, T.a_Explorer, dx, _, _, rfl, hx1, T.cl_Explorer, T.n_Explorer_at, xF_at, _, _, rfl, rfl, dx, _, hx1, xF_len, ?_⟩
      rw [xF_putA]
      have z1 := hX1.inst' (dx := dx) (o := st.op) (v := st.ov) (st.at_ + 1) st.ch st.many hc1 (show ((st.at_ : Int) + 1) = ((st.at_ + 1 : Nat) : Int) by omega) rfl
      have e2 : Ex [x] H1 (upd H1 x (.ins T.a_Explorer dx (xF st.P st.R (st.at_ + 1) cv st.op st.ov st.many))) := (Ex.refl H1).mut (.inr (List.mem_singleton.mpr rfl))
      have hx2 : upd H1 x (.ins T.a_Explorer dx (xF st.P st.R (st.at_ + 1) cv st.op st.ov st.many)) x = some (.ins T.a_Explorer dx (xF st.P st.R (st.at_ + 1) cv st.op st.ov st.many)) := upd_same
      have hW2 : SqL K (upd H1 x (.ins T.a_Explorer dx (xF st.P st.R (st.at_ + 1) cv st.op st.ov st.many))) wl (ws.map V.int) := hW1.stay hx1 (fun _ z => nomatch z) (fun _ _ z => nomatch z) e2
      have z1 : XAt K (upd H1 x (.ins T.a_Explorer dx (xF st.P st.R (st.at_ + 1) cv st.op st.ov st.many))) T.a_Explorer x { st with ps := ps', at_ := st.at_ + 1 } := z1
      have hc2 : Fr K (upd H1 x (.ins T.a_Explorer dx (xF st.P st.R (st.at_ + 1) cv st.op st.ov st.many))) cv st.ch := by
        obtain ⟨a, rfl, ha⟩ := hc1
        refine ⟨a, rfl, sqT_ex ha (F := [x]) (fun z hz => ?_) e2⟩
        rw [List.mem_singleton.mp hz]
        exact ⟨_, hx1, (fun _ z => nomatch z), (fun _ _ z => nomatch z)⟩
      generalize upd H1 x (.ins T.a_Explorer dx (xF st.P st.R (st.at_ + 1) cv st.op st.ov st.many)) = H2 at e2 hx2 hW2 z1 hc2 ⊢
      refine ⟨_, rfl, x, T.a_Explorer, dx, _, _, rfl, hx2, T.cl_Explorer, T.n_Explorer_chance, xF_chance, ?_⟩
      refine ⟨_, rfl, _, rfl, wl, _, _, .int (ws.getD n 0), rfl, rfl, hW2, atI_int (by omega) (by rw [show ((n : Nat) : Int).toNat = n by omega]; exact hget n hn), _, rfl, wl, ws, rfl, hW2, ?_⟩
      refine ⟨_, _, rfl, by omega, pow_up hz1 (by decide), pow_up hz2 (by decide), fun t3 H3 ht3 e3 hf3 => ?_⟩
      refine ⟨_, _, _, _, rfl, hc2.same e3, Fr.of hf3, hzc, sz_divInt (by omega) (pow_up hz1 (by decide)) (pow_up hz2 (by decide)), fun t4 H4 ht4 e4 hf4 => ?_⟩
      have hx4 := e4 _ _ (e3 _ _ hx2)
      refine ⟨_, rfl, x, T.a_Explorer, dx, _, rfl, hx4, T.cl_Explorer, T.n_Explorer_chance, xF_len, ?_⟩
      rw [xF_putC]
      refine ⟨_, rfl, ?_⟩
      have z4 := (z1.same (e3.trans e4)).inst' (dx := dx) (o := st.op) (v := st.ov) (st.at_ + 1) (st.ch * Rat.divInt (ws.getD n 0) ws.sum) st.many (Fr.of hf4) (show ((st.at_ : Int) + 1) = ((st.at_ + 1 : Nat) : Int) by omega) rfl
      refine q _ _ ?_ ⟨ps', hcase, rfl⟩ z4
      refine Ex.mut ?_ (.inr (by simp))
      exact (((e.mono fun b hb => by rw [List.mem_singleton.mp hb]; simp).trans (e2.mono fun b hb => by rw [List.mem_singleton.mp hb]; simp)).trans (Ex.of e3)).trans (Ex.of e4)
theorem rowsSnoc {K : PySem.W.Frag} {H : Hp} {v : V} {r : V × Rat} (q : Row K H v r) : ∀ {xs : List V} {rs : List (V × Rat)}, Rows' K H xs rs → Rows' K H (xs ++ [v]) (rs ++ [r])
  | _, _, .nil => .cons q .nil
  | _, _, .cons h t => .cons h (rowsSnoc q t)
def sp_Explorer_end (K : PySem.W.Frag) (C : Addr) : Sp := fun vs H Q _ => ∃ (x : Addr) (s : XSt) (o : V), vs = [.ref x, o] ∧ XAt K H C x s ∧ s.rows.length ≤ 100000 ∧
  ∀ H', Ex [x, s.R] H H' → XAt K H' C x { s with rows := s.rows ++ [(o, s.ch)], many := s.many + 1, op := false } → Q .non H'
theorem ok_Explorer_end (T : Txt K mg) : FnOk P w K mg base CX0 1 T.f_Explorer_end T.fd_Explorer_end ["self", "outcome"] (sp_Explorer_end K T.a_Explorer) := by
  refine T.F_Explorer_end.ok sc_Explorer_end (fun vs H Q E h => ?_) (fun cdv A outer s H vs Q E hr h => ?_)
  · obtain ⟨x, st, o, rfl, _⟩ := h
    rfl
  · obtain ⟨x, st, o, rfl, hX, hl, q⟩ := h
    refine ⟨_, (pss_cons (ps_expr (pe_bm PySem.F.plainAttrs_list PySem.F.slot_list_append PySem.F.type_list_append mt_append (pe_fld (pv 0) rfl) (pa_cons (pe_tup (pa_cons (pv 1) (pa_cons (pe_fld (pv 0) rfl) pa_nil))) pa_nil)))
      (pss_cons (ps_fldaug (pv 0) pe_int in_add)
      (pss_one (ps_fld (pv 0) pe_bl rfl)))), ?_⟩
    obtain ⟨⟨dx, cv, hx, hc⟩, ⟨pvs, hP, hE⟩, ⟨rvs, hR, hRr⟩, hne⟩ := id hX
    have hrl : rvs.length = st.rows.length := Paired.length hRr
    have hnx := hX.nx
    refine ⟨_, rfl, x, T.a_Explorer, dx, _, _, rfl, hx, T.cl_Explorer, T.n_Explorer_rows, xF_rows, .inl ⟨rfl, _, SqL.of hR⟩, _, rfl, _, rfl, x, T.a_Explorer, dx, _, _, rfl, hx, T.cl_Explorer, T.n_Explorer_chance, xF_chance, by show 2 ≤ sizeLine; decide, fun t ht => ?_⟩
    have e1 := same_upd (o := .tup [o, cv]) ht
    have ht1 : upd H t (.tup [o, cv]) t = some (.tup [o, cv]) := upd_same
    generalize upd H t (.tup [o, cv]) = H1 at e1 ht1 ⊢
    have hX1 := hX.same e1
    refine ⟨st.R, rvs, _, rfl, rfl, e1 _ _ hR, Nat.lt_of_le_of_lt (by omega : rvs.length ≤ 100000) (by decide), ?_⟩
    have e2 : Ex [st.R] H1 (upd H1 st.R (.lst (rvs ++ [.ref t]))) := (Ex.refl H1).mut (.inr (List.mem_singleton.mpr rfl))
    obtain ⟨k1, k2, k3, k4⟩ := hX1.keeps (e2.mono fun b hb => by rw [List.mem_singleton.mp hb]; simp)
    have hx2 := e2 _ _ (nin hnx.2) (e1 _ _ hx)
    have hX2 : XAt K (upd H1 st.R (.lst (rvs ++ [.ref t]))) T.a_Explorer x { st with rows := st.rows ++ [(o, st.ch)] } :=
      ⟨⟨dx, cv, hx2, k3 _ _ (hc.same e1)⟩, ⟨pvs, e2 _ _ (nin hne) (e1 _ _ hP), entsOn k1 (entsOn (fun _ _ q => q.same e1) hE)⟩,
       ⟨_, upd_same, rowsSnoc (k2 _ (o, st.ch) ⟨t, cv, rfl, SqT.of ht1, hc.same e1⟩) (Paired.mapP hRr fun v r hr => k2 _ _ (hr.ex (F := []) (fun _ z => absurd z List.not_mem_nil) (Ex.of e1)))⟩, hne⟩
    have hcv := k3 _ _ (hc.same e1)
    generalize upd H1 st.R (.lst (rvs ++ [.ref t])) = H2 at e2 hx2 hX2 hcv ⊢
    refine ⟨_, rfl, x, T.a_Explorer, dx, _, _, rfl, hx2, T.cl_Explorer, T.n_Explorer_many, xF_many, _, _, rfl, rfl, dx, _, hx2, xF_len, ?_⟩
    rw [xF_putM]
    refine ⟨_, rfl, x, T.a_Explorer, dx, _, rfl, upd_same, T.cl_Explorer, T.n_Explorer_is_open, xF_len, ?_⟩
    rw [xF_putO, upd_upd]
    have z := hX2.inst' (dx := dx) (o := false) (v := st.ov) st.at_ st.ch (st.many + 1) hcv rfl (show ((st.many : Int) + 1) = ((st.many + 1 : Nat) : Int) by omega)
    exact q _ (((Ex.of e1).trans (e2.mono fun b hb => by rw [List.mem_singleton.mp hb]; simp)).mut (.inr (by simp))) z
def sp_Explorer_runs (K : PySem.W.Frag) (C : Addr) : Sp := fun vs H Q _ => ∃ (x : Addr) (s : XSt), vs = [.ref x] ∧ XAt K H C x s ∧ Q (.int s.many) H
theorem ok_Explorer_runs (T : Txt K mg) : FnOk P w K mg base CX0 1 T.f_Explorer_runs T.fd_Explorer_runs ["self"] (sp_Explorer_runs K T.a_Explorer) := by
  refine T.F_Explorer_runs.ok sc_Explorer_runs (fun vs H Q E h => ?_) (fun cdv A outer s H vs Q E hr h => ?_)
  · obtain ⟨x, st, rfl, _⟩ := h
    rfl
  · obtain ⟨x, st, rfl, hX, q⟩ := h
    obtain ⟨⟨dx, cv, hx, hc⟩, _⟩ := hX
    exact ⟨_, (pss_one (ps_ret (pe_fld (pv 0) rfl))), _, rfl, x, T.a_Explorer, dx, _, _, rfl, hx, T.cl_Explorer, T.n_Explorer_many, xF_many, q⟩

theorem take_snoc' {α : Type} {l : List α} {i : Nat} {x : α} (h : l[i]? = some x) : l.take (i + 1) = l.take i ++ [x] := by
  rw [List.take_add_one, h]
  rfl
theorem fr_dp {K : PySem.W.Frag} {H : Hp} {v : V} {r : Rat} (h : Fr K H v r) : Dp K H v (.tuple [.int r.num, .int (r.den : Int)]) := by
  obtain ⟨a, rfl, h⟩ := h
  exact .tup h (.cons (.int _) (.cons (.int _) .nil))
theorem fr_shaped (r : Rat) : SeqAt.shaped (.tuple [.int r.num, .int (r.den : Int)]) = true := shaped_intsT [r.num, (r.den : Int)]
theorem fr_eqv (a b : Rat) : PyData.eqv (.tuple [.int a.num, .int (a.den : Int)]) (.tuple [.int b.num, .int (b.den : Int)]) = decide (a = b) := by
  rw [← rat_list_eq a b]
  exact eqv_intsT [a.num, (a.den : Int)] [b.num, (b.den : Int)]
def chances (rs : List Rat) : Bool := (!(rs.any fun r => decide (r < 0))) && decide (rsum rs = 1)
def sp_are_chances (K : PySem.W.Frag) : Sp := fun vs H Q _ => ∃ (p : Addr) (xs : List V) (rs : List Rat), vs = [.ref p] ∧ SqL K H p xs ∧ FrL K H xs rs ∧ (∀ r ∈ rs, Sz LIM r) ∧ (∀ i, i ≤ rs.length → Sz LIM (rsum (rs.take i))) ∧ rs.length ≤ 100000 ∧
  ∀ H', Same H H' → Q (.bl (chances rs)) H'
theorem ok_are_chances (T : Txt K mg) : FnOk P w K mg base CX0 4 T.f_are_chances T.fd_are_chances ["fractions"] (sp_are_chances K) := by
  refine T.F_are_chances.ok sc_are_chances (fun vs H Q E h => ?_) (fun cdv A outer s H vs Q E hr h => ?_)
  · obtain ⟨p, xs, rs, rfl, _⟩ := h
    rfl
  · obtain ⟨p, xs, rs, rfl, hS, hF, hz, hlim, hlen, q⟩ := h
    refine ⟨_, (pss_one (ps_ret (pe_and (pe_not (pe_callB (id := "any") (cr_any rfl) (by rfl) T.z_any (by decide +kernel) (pa_cons (pe_lc (own := [("fraction", 1)]) (g := gName 1) rfl sc_are_chances.nd (pi_list (pv 0)) (blkOk_by (own := [("fraction", 1)]) (N := nm_are_chances) (sc := defScope s_are_chances) (by decide +kernel)) (fun _ _ _ _ _ => pg_name (i := 1) sc_are_chances.nd rfl (Or.inl rfl)) (fun _ _ _ _ _ => pts_nil) (fun _ _ _ _ _ => (pe_call (ok_less T) (hr.mono (by decide)) (by rfl) T.g_less T.F_less.kp T.b_less .nil pass0 (pa_cons (pv 1) (pa_cons (pe_glob (v := .ref T.a_NOTHING) (by rfl) T.g_NOTHING rfl) pa_nil))))) pa_nil))) (pe_one (pe_cmpR (op_eqD hr.units) (pe_call (ok_sum_of T) (hr.mono (by decide)) (by rfl) T.g_sum_of T.F_sum_of.kp T.b_sum_of .nil pass0 (pa_cons (pv 0) pa_nil)) (pe_glob (v := .ref T.a_ONE) (by rfl) T.g_ONE rfl) (nomark _)))))), ?_⟩
    unfold chances at q
    have hxl := hF.len
    refine ⟨_, rfl, p, rfl, ⟨_, hS⟩, fun D hD => ?_⟩
    refine lc_it walk_list (fun i H' => Same H H' ∧ H' D = some (.lst (((rs.take i).map fun r => decide (r < 0)).map V.bl))) ⟨same_upd hD, upd_same⟩ (fun _ _ _ ⟨e, _⟩ => e.seq hS) ?_ ?_
    · rintro i x Ha Hb hi ⟨e, hd⟩ ⟨rfl, hx⟩
      obtain ⟨r, hr1, hr2⟩ := hF.get hx
      refine ⟨rfl, w_yes ⟨_, rfl, _, _, r, 0, rfl, hr2.same e, ⟨_, rfl, T.v_NOTHING _⟩, hz r (List.mem_of_getElem? hr1), sz_zero.mono (by decide), _, hd, ?_, e.mut hD, ?_⟩⟩
      · rw [List.length_map, List.length_map, List.length_take]
        exact Nat.lt_of_le_of_lt (by omega : min i rs.length ≤ 100000) (by decide)
      · rw [upd_same, take_snoc' hr1, List.map_append, List.map_append]
        rfl
    · rintro Ha ⟨e, hd⟩
      rw [hxl, List.take_length] at hd
      refine ⟨D, _, rfl, SqL.of hd, ?_⟩
      rw [List.any_map]
      refine ⟨_, rfl, _, rfl, ?_⟩
      show if (!(rs.any fun r => decide (r < 0))) = true then _ else _
      cases hb : rs.any fun r => decide (r < 0) with
      | true =>
        rw [hb] at q
        exact iteF (q _ e)
      | false =>
        rw [hb] at q
        refine iteT ⟨_, rfl, p, xs, rs, rfl, e.seq hS, hF.same e, hz, hlim, fun v H2 e2 hv => ?_⟩
        refine ⟨_, _, fr_dp hv, fr_dp (r := 1) ⟨_, rfl, T.v_ONE _⟩, fr_shaped _, fr_shaped 1, ?_⟩
        rw [fr_eqv]
        exact q _ (e.trans e2)

/-! ### the law of equal chances, from the explorer's rows -/
theorem rsum_rep (r : Rat) : ∀ k : Nat, rsum (List.replicate k r) = (k : Rat) * r
  | 0 => by
    show (0 : Rat) = ((0 : Nat) : Rat) * r
    rw [show ((0 : Nat) : Rat) = 0 from rfl, Rat.zero_mul]
  | k + 1 => by
    rw [List.replicate_succ', rsum_snoc, rsum_rep r k, Rat.natCast_add, Rat.add_mul, show ((1 : Nat) : Rat) = 1 from rfl, Rat.one_mul]
def eqRows (n : Nat) (r : Rat) : List (V × Rat) := (List.range n).map fun i : Nat => (V.int i, r)
theorem eqRows_at {n i : Nat} {r : Rat} (h : i < n) : (eqRows n r)[i]? = some (V.int i, r) := by
  unfold eqRows
  rw [List.getElem?_map, List.getElem?_range h]
  rfl
theorem eqRows_succ (n : Nat) (r : Rat) : eqRows (n + 1) r = eqRows n r ++ [(V.int n, r)] := by
  unfold eqRows
  rw [List.range_succ, List.map_append]
  rfl
theorem eqRows_len (n : Nat) (r : Rat) : (eqRows n r).length = n := by
  unfold eqRows
  rw [List.length_map, List.length_range]
theorem rowsGet {K : PySem.W.Frag} {H : Hp} {xs : List V} {rs : List (V × Rat)} (h : Rows' K H xs rs) {i : Nat} {v : V} (e : xs[i]? = some v) : ∃ r, rs[i]? = some r ∧ Row K H v r := by
  induction h generalizing i with
  | nil => simp at e
  | @cons a b xs es q t ih =>
    cases i with
    | zero =>
      have e1 : a = v := Option.some.inj e
      subst e1
      exact ⟨b, rfl, q⟩
    | succ i => exact ih e
theorem rowsSame {K : PySem.W.Frag} {H H' : Hp} {xs : List V} {rs : List (V × Rat)} (e : Same H H') (h : Rows' K H xs rs) : Rows' K H' xs rs := Paired.mapP h fun _ _ hr => hr.ex (F := []) (fun _ z => absurd z List.not_mem_nil) (Ex.of e)
theorem valV_no {kvs : List (Key × V)} {k : Key} (h : k ∉ kvs.map (·.1)) : valV kvs k = none := by
  cases e : valV kvs k with
  | none => rfl
  | some v => exact absurd (valV_in e) h
def intKeys (n : Nat) : List Int := (List.range n).map fun j : Nat => (j : Int)
theorem intKeys_pw (n : Nat) : (intKeys n).Pairwise (· ≤ ·) := by
  unfold intKeys
  rw [List.pairwise_map]
  exact (List.pairwise_lt_range (n := n)).imp fun h => by omega
theorem intKeys_mem {n : Nat} {j : Int} (h : j ∈ intKeys n) : 0 ≤ j ∧ j < n := by
  obtain ⟨i, hi, rfl⟩ := List.mem_map.mp h
  have := List.mem_range.mp hi
  omega
def sp_law_from (K : PySem.W.Frag) : Sp := fun vs H Q _ => ∃ (p : Addr) (rvs : List V) (n : Nat) (r : Rat), vs = [.ref p] ∧ SqL K H p rvs ∧ Rows' K H rvs (eqRows n r) ∧ n ≤ 20000 ∧ 0 < r ∧ Sz LIM r ∧ (∀ i, i ≤ n → Sz LIM ((i : Rat) * r)) ∧ (n : Rat) * r = 1 ∧
  ∀ q ys H', Same H H' → H' q = some (.lst ys) → Rows' K H' ys (eqRows n r) → Q (.ref q) H'
theorem ok_law_from (T : Txt K mg) : FnOk P w K mg base CX0 5 T.f_law_from T.fd_law_from ["rows"] (sp_law_from K) := by
  refine T.F_law_from.ok sc_law_from (fun vs H Q E h => ?_) (fun cdv A outer s H vs Q E hr h => ?_)
  · obtain ⟨p, rvs, n, r, rfl, _⟩ := h
    rfl
  · obtain ⟨p, rvs, n, r, rfl, hS, hRr, hn, hr0, hz, hzi, hone, q⟩ := h
    refine ⟨_, (pss_cons (ps_if (pt_not (pt_val (pe_call (ok_are_chances T) (hr.mono (by decide)) (by rfl) T.g_are_chances T.F_are_chances.kp T.b_are_chances .nil pass0 (pa_cons (pe_lc (own := [("_", 4), ("chance", 3)]) (g := gTup K 2 (gCons (gName 4) (gCons (gName 3) gNil))) rfl sc_law_from.nd (pi_list (pv 0)) (blkOk_by (own := [("_", 4), ("chance", 3)]) (N := nm_law_from) (sc := defScope s_law_from) (by decide +kernel)) (fun _ _ _ _ _ => (pg_tupk (K := K) rfl rfl (pgs_cons (pg_name (i := 4) sc_law_from.nd rfl (Or.inl rfl)) (pgs_cons (pg_name (i := 3) sc_law_from.nd rfl (Or.inl rfl)) pgs_nil)))) (fun _ _ _ _ _ => pts_nil) (fun _ _ _ _ _ => (pv 3))) pa_nil))))
        (pss_one ps_never)
        pss_nil)
      (pss_cons (ps_set (i := 1) sc_law_from.nd rfl (Or.inr rfl) pe_dnewK)
      (pss_cons (ps_for PassesOwn.never rfl (pi_list (pv 0)) (pg_tup rfl (pgs_cons (pg_name (i := 2) sc_law_from.nd rfl (Or.inl rfl)) (pgs_cons (pg_name (i := 3) sc_law_from.nd rfl (Or.inl rfl)) pgs_nil)))
        (pss_one (ps_dput (hu_of hr) (pv 1) (pv 2) (pe_call (ok_plus T) (hr.mono (by decide)) (by rfl) T.g_plus T.F_plus.kp T.b_plus .nil pass0 (pa_cons (pe_dget2N (hu_of hr) (pv 1) (pv 2) (pe_glob (v := .ref T.a_NOTHING) (by rfl) T.g_NOTHING rfl) ⟨rfl, rfl, rfl, rfl⟩) (pa_cons (pv 3) pa_nil))) rfl)))
      (pss_one (ps_ret (pe_lc (own := [("outcome", 2)]) (g := gName 2) rfl sc_law_from.nd (pi_list (pe_callB (id := "sorted") (cr_sortedDI rfl) (by rfl) T.z_sorted (by decide +kernel) (pa_cons (pv 1) pa_nil))) (blkOk_by (own := [("outcome", 2)]) (N := nm_law_from) (sc := defScope s_law_from) (by decide +kernel)) (fun _ _ _ _ _ => pg_name (i := 2) sc_law_from.nd rfl (Or.inl rfl)) (fun _ _ _ _ _ => (pts_one (pt_cmpR (neDk (K := K) rfl hr.units) (pe_dget (hu_of hr) (pv 1) (pv 2) (fun _ _ => rfl)) (pe_glob (v := .ref T.a_NOTHING) (by rfl) T.g_NOTHING rfl) (nomark _)))) (fun _ _ _ _ _ => (pe_tup (pa_cons (pv 2) (pa_cons (pe_dget (hu_of hr) (pv 1) (pv 2) (fun _ _ => rfl)) pa_nil)))))))))), ?_⟩
    have hrl : rvs.length = n := (Paired.length hRr).trans (eqRows_len n r)
    refine ⟨_, rfl, p, rfl, ⟨_, hS⟩, fun D hD => ?_⟩
    refine lc_it walk_list (fun i H' => Same H H' ∧ ∃ cs, H' D = some (.lst cs) ∧ FrL K H cs (List.replicate i r)) ⟨same_upd hD, [], upd_same, .nil⟩ (fun _ _ _ ⟨e, _⟩ => e.seq hS) ?_ ?_
    · rintro i x Ha Hb hi ⟨e, cs, hd, hcs⟩ ⟨rfl, hx⟩
      obtain ⟨rw, hr1, t, cv, rfl, hT, hcv⟩ := rowsGet hRr hx
      have hi' : i < n := by omega
      rw [eqRows_at hi'] at hr1
      cases hr1
      refine ⟨t, _, rfl, e.tupq hT, rfl, _, _, rfl, _, _, rfl, rfl, rfl, w_yes ⟨_, rfl, _, hd, ?_, e.mut hD, _, upd_same, ?_⟩⟩
      · rw [hcs.len, List.length_replicate]
        exact Nat.lt_of_le_of_lt (by omega : i ≤ 20000) (by decide)
      · rw [List.replicate_succ']
        exact FrL.snoc hcv hcs
    · rintro Ha ⟨e, cs, hd, hcs⟩
      rw [hrl] at hcs
      have hrep : ∀ i, i ≤ n → (List.replicate n r).take i = List.replicate i r := fun i hi => by
        rw [List.take_replicate, Nat.min_eq_left hi]
      refine ⟨D, cs, List.replicate n r, rfl, SqL.of hd, hcs.same e, fun x hx => ?_, fun i hi => ?_, ?_, fun H1 e1 => ?_⟩
      · rw [List.eq_of_mem_replicate hx]
        exact hz
      · rw [List.length_replicate] at hi
        rw [hrep i hi, rsum_rep]
        exact hzi i hi
      · rw [List.length_replicate]
        omega
      have hch : chances (List.replicate n r) = true := by
        unfold chances
        rw [rsum_rep, decide_eq_true hone, Bool.and_true]
        have : (List.replicate n r).any (fun r => decide (r < 0)) = false := by
          rw [List.any_eq_false]
          intro x hx
          rw [List.eq_of_mem_replicate hx, decide_eq_false (Rat.not_lt.mpr (Rat.le_of_lt hr0))]
          decide
        rw [this]
        rfl
      rw [hch]
      refine ⟨_, rfl, iteF ?_⟩
      have e01 := e.trans e1
      intro d hdn
      have e2 := same_upd (o := .dK []) hdn
      have hd2 : upd H1 d (.dK []) d = some (.dK []) := upd_same
      generalize upd H1 d (.dK []) = H2 at e2 hd2 ⊢
      have e02 := e01.trans e2
      have hd0 : H d = none := e01.free hdn
      refine ⟨_, rfl, p, rfl, ⟨_, e02.seq hS⟩, for_it walk_list (fun i σ H' => ∃ (x2 x3 x4 : Option V) (kvs : List (Key × V)), σ = [some (.ref p), some (.ref d), x2, x3, x4] ∧ Same H H' ∧ H' d = some (.dK kvs) ∧ kvs.map (·.1) = (intKeys i).map Sum.inl ∧ ∀ en ∈ kvs, Fr K H' en.2 r)
        ⟨_, _, _, [], rfl, e02, hd2, rfl, fun en h => absurd h List.not_mem_nil⟩ (fun _ _ _ _ ⟨_, _, _, _, _, e, _⟩ => e.seq hS) ?_ ?_⟩
      · rintro i x σ Hb Hc hi ⟨x2, x3, x4, kvs, rfl, ea, hda, hk, hfa⟩ ⟨rfl, hx⟩
        obtain ⟨rw, hr1, t, cv, rfl, hT, hcv⟩ := rowsGet hRr hx
        have hi' : i < n := by omega
        rw [eqRows_at hi'] at hr1
        cases hr1
        have hkl : kvs.length = i := by
          have e := congrArg List.length hk
          rw [List.length_map, List.length_map] at e
          rw [e]
          unfold intKeys
          rw [List.length_map, List.length_range]
        have hno : valV kvs (.inl (i : Int)) = none := valV_no (by
          rw [hk]
          intro hm
          obtain ⟨j, hj, hje⟩ := List.mem_map.mp hm
          have h1 := intKeys_mem hj
          have h2 : j = (i : Int) := Sum.inl.inj hje
          omega)
        refine ⟨t, _, rfl, ea.tupq hT, rfl, _, _, rfl, _, _, rfl, rfl, ?_⟩
        refine ⟨_, rfl, d, rfl, .inl ⟨kvs, .inl hda⟩, _, rfl, .inl ⟨_, DGet.k (k := .inl (i : Int)) hda, _, rfl, ?_⟩⟩
        rw [hno]
        refine ⟨_, _, 0, r, rfl, ⟨_, rfl, T.v_NOTHING _⟩, hcv.same ea, sz_zero.mono (by decide), hz, fun t2 H3 ht2 e3 hf3 => ?_⟩
        have hf3 : H3 t2 = some (frT (0 + r)) := hf3
        rw [Rat.zero_add] at hf3
        have e03 := ea.trans e3
        refine ⟨_, rfl, _, rfl, d, _, rfl, DPut.k (k := .inl (i : Int)) (e3 _ _ hda) (Nat.lt_of_le_of_lt (by omega : kvs.length ≤ 20000) (by decide)), ?_⟩
        rw [putK_new _ hno]
        refine ⟨_, _, _, kvs ++ [(.inl (i : Int), .ref t2)], rfl, e03.mut hd0, upd_same, ?_, fun en hen => ?_⟩
        · rw [List.map_append, hk]
          unfold intKeys
          rw [List.range_succ, List.map_append, List.map_append]
          rfl
        · have eu : Ex [d] H3 (upd H3 d (.dK (kvs ++ [(.inl (i : Int), .ref t2)]))) := (Ex.refl H3).mut (.inr (List.mem_singleton.mpr rfl))
          have kf : ∀ v, Fr K H3 v r → Fr K (upd H3 d (.dK (kvs ++ [(.inl (i : Int), .ref t2)]))) v r := fun v ⟨a, ea, ha⟩ => ⟨a, ea, sqT_ex ha (F := [d]) (fun z hz => by
            rw [List.mem_singleton.mp hz]
            exact ⟨_, e3 _ _ hda, (fun _ z => nomatch z), (fun _ _ z => nomatch z)⟩) eu⟩
          rcases List.mem_append.mp hen with hen | hen
          · exact kf _ ((hfa en hen).same e3)
          · rw [List.mem_singleton.mp hen]
            exact kf _ (Fr.of hf3)
      · rintro σ Hb ⟨x2, x3, x4, kvs, rfl, ea, hda, hk, hfa⟩
        rw [hrl] at hk
        have hnd : (kvs.map (·.1)).Nodup := by
          rw [hk]
          unfold intKeys
          rw [List.map_map]
          show List.Pairwise (· ≠ ·) _
          rw [List.pairwise_map]
          refine (List.pairwise_lt_range (n := n)).imp fun {a b} h z => ?_
          have : (a : Int) = (b : Int) := Sum.inl.inj z
          omega
        refine ⟨_, rfl, d, kvs, intKeys n, rfl, .inl hda, hk, fun ys p2 hperm hpw hp2 => ?_⟩
        have := pw_uniq (le := (· ≤ ·)) (fun a b h1 h2 => Int.le_antisymm h1 h2) hpw (intKeys_pw n) hperm
        subst this
        have e3 := same_upd (o := .lst ((intKeys n).map V.int)) hp2
        have hp3 : upd Hb p2 (.lst ((intKeys n).map V.int)) p2 = some (.lst ((intKeys n).map V.int)) := upd_same
        generalize upd Hb p2 (.lst ((intKeys n).map V.int)) = H3 at e3 hp3 ⊢
        have e03 := ea.trans e3
        have hd3 := e3 _ _ hda
        refine ⟨p2, rfl, ⟨_, SqL.of hp3⟩, fun D2 hD2 => ?_⟩
        refine lc_it walk_list (fun i H' => Same H3 H' ∧ ∃ ys, H' D2 = some (.lst ys) ∧ Rows' K H' ys (eqRows i r)) ⟨same_upd hD2, [], upd_same, .nil⟩ (fun _ _ _ ⟨e, _⟩ => e.seq (SqL.of hp3)) ?_ ?_
        · rintro i x Hc He hi ⟨e4, ys, hd4, hys⟩ ⟨rfl, hx⟩
          have hi' : i < n := by
            rw [List.length_map] at hi
            unfold intKeys at hi
            rw [List.length_map, List.length_range] at hi
            exact hi
          have hxe : x = .int (i : Int) := by
            unfold intKeys at hx
            rw [List.map_map, List.getElem?_map, List.getElem?_range hi'] at hx
            exact (Option.some.inj hx).symm
          subst hxe
          obtain ⟨en, hen, hek⟩ : ∃ en ∈ kvs, en.1 = Sum.inl (i : Int) := by
            have : (Sum.inl (i : Int) : Key) ∈ kvs.map (·.1) := by
              rw [hk]
              exact List.mem_map.mpr ⟨(i : Int), List.mem_map.mpr ⟨i, List.mem_range.mpr hi', rfl⟩, rfl⟩
            obtain ⟨en, hen, hek⟩ := List.mem_map.mp this
            exact ⟨en, hen, hek⟩
          have hv : valV kvs (.inl (i : Int)) = some en.2 := by
            rw [← hek]
            exact val_nodup hnd en hen
          have hfr := ((hfa en hen).same e3).same e4
          have hdg : DGet He d (kV (.inl (i : Int))) (some en.2) := by
            rw [← hv]
            exact DGet.k (k := .inl (i : Int)) (e4 _ _ hd3)
          refine ⟨rfl, _, rfl, _, rfl, d, en.2, rfl, hdg, _, _, fr_dp hfr, fr_dp (r := 0) ⟨_, rfl, T.v_NOTHING _⟩, fr_shaped _, fr_shaped 0, _, rfl, ?_⟩
          rw [fr_eqv, decide_eq_false (fun z => by rw [z] at hr0; exact absurd hr0 (by decide))]
          refine iteT ⟨_, rfl, _, rfl, _, rfl, d, en.2, rfl, hdg, by show 2 ≤ sizeLine; decide, fun t ht => ?_⟩
          have e5 := same_upd (o := .tup [.int (i : Int), en.2]) ht
          have ht5 : upd He t (.tup [.int (i : Int), en.2]) t = some (.tup [.int (i : Int), en.2]) := upd_same
          generalize upd He t (.tup [.int (i : Int), en.2]) = H5 at e5 ht5 ⊢
          have hyl : ys.length = i := (Paired.length hys).trans (eqRows_len i r)
          refine ⟨ys, e5 _ _ hd4, Nat.lt_of_le_of_lt (by omega : ys.length ≤ 20000) (by decide), (e4.trans e5).mut hD2, _, upd_same, ?_⟩
          have eu : Ex [D2] H5 (upd H5 D2 (.lst (ys ++ [.ref t]))) := (Ex.refl H5).mut (.inr (List.mem_singleton.mpr rfl))
          have hFs : ∀ z ∈ [D2], ∃ o, H5 z = some o ∧ (∀ ys, o ≠ .tup ys) ∧ ∀ b u, o ≠ .frz b u := fun z hz => by
            rw [List.mem_singleton.mp hz]
            exact ⟨_, e5 _ _ hd4, (fun _ z => nomatch z), (fun _ _ z => nomatch z)⟩
          rw [eqRows_succ]
          exact Paired.mapP (rowsSnoc (r := (V.int i, r)) ⟨t, en.2, rfl, SqT.of ht5, hfr.same e5⟩ (rowsSame e5 hys)) fun _ _ hr => hr.ex hFs eu
        · rintro Hc ⟨e4, ys, hd4, hys⟩
          have hnl : ((intKeys n).map V.int).length = n := by
            rw [List.length_map]
            unfold intKeys
            rw [List.length_map, List.length_range]
          rw [hnl] at hys
          exact q D2 ys Hc (e03.trans e4) hd4 hys

def sp_Explorer_gathered (K : PySem.W.Frag) (C : Addr) : Sp := fun vs H Q _ => ∃ (x : Addr) (s : XSt) (n : Nat) (r : Rat), vs = [.ref x] ∧ XAt K H C x s ∧ s.ov = true ∧ s.rows = eqRows n r ∧ n ≤ 20000 ∧ 0 < r ∧ Sz LIM r ∧ (∀ i, i ≤ n → Sz LIM ((i : Rat) * r)) ∧ (n : Rat) * r = 1 ∧
  ∀ q ys H', Same H H' → H' q = some (.lst ys) → Rows' K H' ys (eqRows n r) → Q (.ref q) H'
theorem ok_Explorer_gathered (T : Txt K mg) : FnOk P w K mg base CX0 6 T.f_Explorer_gathered T.fd_Explorer_gathered ["self"] (sp_Explorer_gathered K T.a_Explorer) := by
  refine T.F_Explorer_gathered.ok sc_Explorer_gathered (fun vs H Q E h => ?_) (fun cdv A outer s H vs Q E hr h => ?_)
  · obtain ⟨x, st, n, r, rfl, _⟩ := h
    rfl
  · obtain ⟨x, st, n, r, rfl, hX, hov, hrows, hn, hr0, hz, hzi, hone, q⟩ := h
    refine ⟨_, (pss_cons (ps_if (pt_not (pt_val (pe_fld (pv 0) rfl)))
        (pss_one ps_never)
        pss_nil)
      (pss_one (ps_ret (pe_call (ok_law_from T) (hr.mono (by decide)) (by rfl) T.g_law_from T.F_law_from.kp T.b_law_from .nil pass0 (pa_cons (pe_fld (pv 0) rfl) pa_nil))))), ?_⟩
    obtain ⟨⟨dx, cv, hx, hc⟩, ⟨pvs, hP, hE⟩, ⟨rvs, hR, hRr⟩, hne⟩ := id hX
    rw [hrows] at hRr
    refine ⟨_, rfl, x, T.a_Explorer, dx, _, _, rfl, hx, T.cl_Explorer, T.n_Explorer_is_over, xF_over, _, rfl, ?_⟩
    rw [hov]
    refine iteF ⟨_, rfl, x, T.a_Explorer, dx, _, _, rfl, hx, T.cl_Explorer, T.n_Explorer_rows, xF_rows, st.R, rvs, n, r, rfl, SqL.of hR, hRr, hn, hr0, hz, hzi, hone, q⟩
def sp__law_limit (K : PySem.W.Frag) (C : Addr) : Sp := fun vs H Q _ => ∃ (x : Addr) (s : XSt) (ps' : List (Nat × List Int)), vs = [.ref x] ∧ XAt K H C x s ∧ s.op = false ∧ s.ov = false ∧ s.ps.length ≤ 1000 ∧ s.many = 20000 ∧ Adv s.ps.reverse (some ps') ∧ ∀ H', Q (.str "runs") H'
theorem ok__law_limit (T : Txt K mg) : FnOk P w K mg base CX0 4 T.f__law_limit T.fd__law_limit ["_law_explorer"] (sp__law_limit K T.a_Explorer) := by
  refine T.F__law_limit.ok sc__law_limit (fun vs H Q E h => ?_) (fun cdv A outer s H vs Q E hr h => ?_)
  · obtain ⟨x, st, ps', rfl, _⟩ := h
    rfl
  · obtain ⟨x, st, ps', rfl, hX, hop, hov, hl, hm, ha, q⟩ := h
    refine ⟨_, (pss_cut (ps_try_as (i := 1) rfl rfl sc__law_limit.nd rfl rfl ⟨rfl, by decide, .inl T.g_TooLarge⟩ takes0
        (fun W pn xe tk _ => (pss_one (ps_expr (pe_meth0S (pv 0) T.cl_Explorer T.M_Explorer_begin (okX_Explorer_begin T) (hr.mono (by decide)) T.b_Explorer_begin (fun σ => passAt tk σ)))))
        (fun a oe cls d pn hz hf => (pss_one (ps_ret (pe_xf T.xf_TooLarge T.no_TooLarge_limit hz hf (pv 1))))))
      (pss_one (ps_ret pe_non))), ?_⟩
    obtain ⟨⟨dx, cv, hx, hc⟩, _⟩ := id hX
    refine ⟨fun _ _ => False, ?_, fun _ _ z => z.elim⟩
    refine ⟨_, rfl, x, dx, _, rfl, hx, xF_no (by decide +kernel), x, st, ps', rfl, hX, hop, hov, hl, hm, ha, fun d H' hd => ⟨true, T.te_TooLarge, fun _ a ha => ?_, fun z => nomatch z⟩⟩
    exact ⟨_, rfl, rfl, rfl, d, _, _, rfl, hd, lk_eq, q _⟩

def ones (s : Nat) : List Int := List.replicate s 1
theorem ones_len (s : Nat) : (ones s).length = s := List.length_replicate
theorem ones_at {s j : Nat} (h : j < s) : (ones s).getD j 0 = 1 := by
  unfold ones
  rw [List.getD_eq_getElem?_getD, List.getElem?_replicate, if_pos h]
  rfl
theorem ones_sum : ∀ s : Nat, (ones s).sum = (s : Int)
  | 0 => rfl
  | s + 1 => by
    have e : ones (s + 1) = 1 :: ones s := rfl
    rw [e, List.sum_cons, ones_sum s]
    omega
theorem ones_first {s : Nat} (h : 0 < s) : First (ones s) 0 := ⟨by rw [ones_len]; exact h, by rw [ones_at h]; decide, fun j hj => absurd hj (Nat.not_lt_zero _)⟩
theorem ones_next {s n : Nat} (h : n + 1 < s) : NextIs n (ones s) (n + 1) := ⟨by omega, by rw [ones_len]; exact h, by rw [ones_at h]; decide, fun j h1 h2 => by omega⟩
theorem ones_last {s n : Nat} (h : s ≤ n + 1) : NextNo n (ones s) := fun j h1 h2 => by
  rw [ones_len] at h2
  omega
/-- the path behind t runs -/
def pathOf (s : Nat) : Nat → List (Nat × List Int)
  | 0 => []
  | t + 1 => [(t / s, ones s), (t % s, ones s)]
/-- the path at the begin of run t -/
def pathAt (s t : Nat) : List (Nat × List Int) := if t = 0 then [] else if t % s = 0 then [(t / s, ones s)] else [(t / s, ones s), (t % s, ones s)]
theorem path_adv {s t : Nat} (hs : 0 < s) (h0 : 0 < t) (h : t < s * s) : Adv (pathOf s t).reverse (some (pathAt s t).reverse) := by
  obtain ⟨k, rfl⟩ : ∃ k, t = k + 1 := ⟨t - 1, by omega⟩
  have hd : s * (k / s) + k % s = k := Nat.div_add_mod k s
  have hm : k % s < s := Nat.mod_lt _ hs
  unfold pathOf pathAt
  rw [if_neg (by omega)]
  by_cases hl : k % s + 1 < s
  · have e1 : (k + 1) % s = k % s + 1 := by
      rw [Nat.add_mod, Nat.mod_eq_of_lt (show 1 < s by omega), Nat.mod_eq_of_lt hl]
    have e2 : (k + 1) / s = k / s := by
      have := Nat.div_add_mod (k + 1) s
      rw [e1] at this
      have h3 : s * ((k + 1) / s) = s * (k / s) := by omega
      exact Nat.eq_of_mul_eq_mul_left hs h3
    rw [e1, e2, if_neg (by omega)]
    exact .here (ones_next hl)
  · have e1 : k + 1 = s * (k / s + 1) := by
      rw [Nat.mul_add]
      omega
    have e2 : (k + 1) % s = 0 := by rw [e1, Nat.mul_mod_right]
    have e3 : (k + 1) / s = k / s + 1 := by
      rw [e1, Nat.mul_div_cancel_left _ hs]
    have h4 : k / s + 1 < s := by
      rw [e1] at h
      exact Nat.lt_of_mul_lt_mul_left h
    rw [if_pos e2, e3]
    exact .skip (ones_last (by omega)) (.here (ones_next h4))
theorem path_end {s : Nat} (hs : 0 < s) : Adv (pathOf s (s * s)).reverse none := by
  obtain ⟨k, hk⟩ : ∃ k, s * s = k + 1 := ⟨s * s - 1, by have := Nat.mul_pos hs hs; omega⟩
  rw [hk]
  have hd : s * (k / s) + k % s = k := Nat.div_add_mod k s
  have hm : k % s < s := Nat.mod_lt _ hs
  have e2 : k / s = s - 1 := by
    have h1 : k / s < s := Nat.div_lt_of_lt_mul (by omega)
    have h2 : s - 1 ≤ k / s := by
      rw [Nat.le_div_iff_mul_le hs, Nat.sub_mul]
      omega
    omega
  have e3 : k % s = s - 1 := by
    have : s * (s - 1) = s * s - s := by rw [Nat.mul_sub, Nat.mul_one]
    have h5 : s ≤ s * s := Nat.le_mul_of_pos_left s hs
    rw [e2] at hd
    omega
  show Adv [(k % s, ones s), (k / s, ones s)] none
  exact .skip (ones_last (by omega)) (.skip (ones_last (by omega)) .nil)
def rOf (s : Nat) : Rat := 1 * Rat.divInt 1 s * Rat.divInt 1 s
theorem rOf_eq {s : Nat} (h : 0 < s) : rOf s = Rat.divInt 1 ((s * s : Nat) : Int) := by
  unfold rOf
  rw [Rat.one_mul, Rat.divInt_mul_divInt, Int.natCast_mul]
  rfl
theorem natRat (i : Nat) {m : Int} : (i : Rat) * Rat.divInt 1 m = Rat.divInt i m := by
  have e : (i : Rat) = Rat.divInt (i : Int) 1 := (Rat.num_divInt_den (i : Rat)).symm
  rw [e, Rat.divInt_mul_divInt, Int.mul_one, Int.one_mul]
theorem rOf_one {s : Nat} (h : 0 < s) : ((s * s : Nat) : Rat) * rOf s = 1 := by
  have hp := Nat.mul_pos h h
  rw [rOf_eq h, natRat]
  exact Rat.divInt_self' (by omega)
theorem rOf_pos {s : Nat} (h : 0 < s) : 0 < rOf s := by
  refine Rat.lt_of_le_of_ne ?_ fun z => ?_
  · rw [rOf_eq h]
    exact Rat.divInt_nonneg (by decide) (by omega)
  · have e := rOf_one h
    rw [← z, Rat.mul_zero] at e
    exact absurd e (by decide)
theorem rOf_sz {s : Nat} (h : 0 < s) (h2 : s ≤ 200) : Sz LIM (rOf s) := by
  rw [rOf_eq h]
  have hp := Nat.mul_pos h h
  have hq : s * s ≤ 200 * 200 := Nat.mul_le_mul h2 h2
  exact sz_divInt (by omega) (by decide) (by rw [Int.natAbs_natCast]; exact Nat.lt_of_le_of_lt hq (by decide))
theorem rOf_szi {s : Nat} (h : 0 < s) (h2 : s ≤ 200) (i : Nat) (hi : i ≤ s * s) : Sz LIM ((i : Rat) * rOf s) := by
  rw [rOf_eq h, natRat]
  have hp := Nat.mul_pos h h
  have hq : s * s ≤ 200 * 200 := Nat.mul_le_mul h2 h2
  exact sz_divInt (by omega) (by rw [Int.natAbs_natCast]; exact Nat.lt_of_le_of_lt (Nat.le_trans hi hq) (by decide)) (by rw [Int.natAbs_natCast]; exact Nat.lt_of_le_of_lt hq (by decide))

theorem begin_run {s t : Nat} {st st1 : XSt} {b : Bool} (hs : 0 < s) (ht : t < s * s) (hov : st.ov = false) (hm : st.many = t) (hp : st.ps = pathOf s t) (h : BeginTo st b st1) : b = true ∧ st1 = { st with ps := pathAt s t, op := true, at_ := 0, ch := 1 } := by
  rcases h with ⟨h, _⟩ | ⟨_, h0, hb, e⟩ | ⟨_, h0, ha, _⟩ | ⟨_, h0, ps', ha, hb, e⟩
  · rw [hov] at h
    cases h
  · have : t = 0 := by omega
    subst this
    refine ⟨hb, ?_⟩
    rw [e]
    have : pathAt s 0 = st.ps := by rw [hp]; rfl
    rw [this]
  · rw [hp] at ha
    exact absurd (ha.det (path_adv hs (by omega) ht)) (fun z => nomatch z)
  · rw [hp] at ha
    have e2 := Option.some.inj (ha.det (path_adv hs (by omega) ht))
    have e3 : ps' = pathAt s t := List.reverse_inj.mp e2
    exact ⟨hb, by rw [e, e3]⟩
def pathMid (s t : Nat) : List (Nat × List Int) := if t % s = 0 then [(t / s, ones s)] else [(t / s, ones s), (t % s, ones s)]
theorem pick_one {s t : Nat} {st st2 : XSt} (hs : 0 < s) (ht : t < s * s) (ha : st.at_ = 0) (hp : st.ps = pathAt s t) :
    ((st.at_ = st.ps.length → First (ones s) (t / s)) ∧ (st.at_ ≠ st.ps.length → ∃ ws', st.ps[st.at_]? = some (t / s, ws'))) ∧
    (PickTo st (ones s) (t / s) st2 → st2 = { st with ps := pathMid s t, at_ := 1, ch := st.ch * Rat.divInt 1 s }) := by
  have hlt : t / s < s := Nat.div_lt_of_lt_mul ht
  refine ⟨⟨fun h => ?_, fun h => ?_⟩, ?_⟩
  · rw [ha, hp] at h
    unfold pathAt at h
    by_cases h0 : t = 0
    · subst h0
      rw [Nat.zero_div]
      exact ones_first hs
    · rw [if_neg h0] at h
      split at h <;> simp at h
  · rw [ha, hp] at h ⊢
    unfold pathAt at h ⊢
    by_cases h0 : t = 0
    · rw [if_pos h0] at h
      exact absurd rfl h
    · rw [if_neg h0]
      split
      · exact ⟨_, rfl⟩
      · exact ⟨_, rfl⟩
  · rintro ⟨ps', hc, e⟩
    rw [ones_at hlt, ones_sum] at e
    have hm : ps' = pathMid s t := by
      unfold pathMid
      rcases hc with ⟨h1, _, e1⟩ | ⟨ws', h1, e1⟩
      · rw [ha, hp] at h1
        unfold pathAt at h1
        by_cases h0 : t = 0
        · subst h0
          rw [e1, hp]
          unfold pathAt
          rw [if_pos rfl, if_pos (Nat.zero_mod s)]
          rfl
        · rw [if_neg h0] at h1
          split at h1 <;> simp at h1
      · rw [ha, hp] at h1
        rw [e1, hp]
        unfold pathAt at h1 ⊢
        by_cases h0 : t = 0
        · rw [if_pos h0] at h1
          simp at h1
        · rw [if_neg h0]
    rw [e, hm, ha]
theorem pick_two {s t : Nat} {st st2 : XSt} (hs : 0 < s) (ha : st.at_ = 1) (hp : st.ps = pathMid s t) :
    ((st.at_ = st.ps.length → First (ones s) (t % s)) ∧ (st.at_ ≠ st.ps.length → ∃ ws', st.ps[st.at_]? = some (t % s, ws'))) ∧
    (PickTo st (ones s) (t % s) st2 → st2 = { st with ps := pathOf s (t + 1), at_ := 2, ch := st.ch * Rat.divInt 1 s }) := by
  have hlt : t % s < s := Nat.mod_lt _ hs
  refine ⟨⟨fun h => ?_, fun h => ?_⟩, ?_⟩
  · rw [ha, hp] at h
    unfold pathMid at h
    by_cases h0 : t % s = 0
    · rw [h0]
      exact ones_first hs
    · rw [if_neg h0] at h
      simp at h
  · rw [ha, hp] at h ⊢
    unfold pathMid at h ⊢
    by_cases h0 : t % s = 0
    · rw [if_pos h0] at h
      exact absurd rfl h
    · rw [if_neg h0]
      exact ⟨_, rfl⟩
  · rintro ⟨ps', hc, e⟩
    rw [ones_at hlt, ones_sum] at e
    have hm : ps' = pathOf s (t + 1) := by
      unfold pathOf
      rcases hc with ⟨h1, _, e1⟩ | ⟨ws', h1, e1⟩
      · rw [ha, hp] at h1
        rw [e1, hp]
        unfold pathMid at h1 ⊢
        by_cases h0 : t % s = 0
        · rw [if_pos h0]
          rfl
        · rw [if_neg h0] at h1
          simp at h1
      · rw [ha, hp] at h1
        rw [e1, hp]
        unfold pathMid at h1 ⊢
        by_cases h0 : t % s = 0
        · rw [if_pos h0] at h1
          simp at h1
        · rw [if_neg h0]
    rw [e, hm, ha]

def eqD (n : Nat) (r : Rat) : List PyData := (List.range n).map fun i : Nat => .tuple [.int i, .tuple [.int r.num, .int (r.den : Int)]]
theorem rowsDp' {K : PySem.W.Frag} {H : Hp} {r : Rat} {ys : List V} {rs : List (V × Rat)} (h : Rows' K H ys rs) : ∀ l : List Nat, rs = (l.map fun i : Nat => (V.int i, r)) → DpAll K H ys (l.map fun i : Nat => .tuple [.int i, .tuple [.int r.num, .int (r.den : Int)]]) := by
  induction h with
  | nil =>
    intro l e
    cases l with
    | nil => exact .nil
    | cons a l => cases e
  | @cons v x vs xs a t ih =>
    intro l e
    cases l with
    | nil => cases e
    | cons i l =>
      rw [List.map_cons] at e
      injection e with e1 e2
      subst e1
      obtain ⟨b, cv, rfl, hT, hc⟩ := a
      exact .cons (.tup hT (.cons (.int _) (.cons (fr_dp hc) .nil))) (ih l e2)
theorem rowsDp {K : PySem.W.Frag} {H : Hp} {n : Nat} {r : Rat} {ys : List V} (h : Rows' K H ys (eqRows n r)) : DpAll K H ys (eqD n r) := rowsDp' h _ rfl
theorem eqD_shaped (n : Nat) (r : Rat) : SeqAt.shaped (.list (eqD n r)) = true := by
  have h : ∀ l : List Nat, PyData.canLayAll0 (l.map fun i : Nat => PyData.tuple [.int i, .tuple [.int r.num, .int (r.den : Int)]]) = true ∧ PyData.depthAll (l.map fun i : Nat => PyData.tuple [.int i, .tuple [.int r.num, .int (r.den : Int)]]) ≤ 2 := by
    intro l
    induction l with
    | nil => exact ⟨rfl, by show 0 ≤ 2; decide⟩
    | cons i l ih =>
      refine ⟨?_, ?_⟩
      · show (true && PyData.canLayAll0 _) = true
        rw [ih.1]
        rfl
      · show max 2 (PyData.depthAll _) ≤ 2
        have := ih.2
        omega
  refine shaped_mk (h _).1 ?_
  show PyData.depthAll _ + 1 ≤ 64
  have := (h (List.range n)).2
  unfold eqD
  omega
def sp_law (K : PySem.W.Frag) : Sp := fun vs H Q _ => ∃ (a : Addr) (ns : List Int), vs = [.ref a] ∧ SqL K H a (ns.map V.int) ∧ ns.length ≤ 63 ∧ ∀ H', Q (.bl true) H'
theorem ok_law (T : Txt K mg) : FnOk P w K mg base CX0 7 T.f_law T.fd_law ["_law_script"] (sp_law K) := by
  refine T.F_law.ok sc_law (fun vs H Q E h => ?_) (fun cdv A outer s H vs Q E hr h => ?_)
  · obtain ⟨a, ns, rfl, _⟩ := h
    rfl
  · obtain ⟨a, ns, rfl, hS, hlen, q⟩ := h
    refine ⟨_, (pss_cons (ps_set (i := 1) sc_law.nd rfl (Or.inl rfl) (pe_call (ok__law_deck T) (hr.mono (by decide)) (by rfl) T.g__law_deck T.F__law_deck.kp T.b__law_deck .nil pass0 (pa_cons (pv 0) pa_nil)))
      (pss_cons (ps_set (i := 2) sc_law.nd rfl (Or.inr rfl) (pe_op op_add pe_int (pe_call (ok__law_draw T) (hr.mono (by decide)) (by rfl) T.g__law_draw T.F__law_draw.kp T.b__law_draw .nil pass0 (pa_cons (pv 1) (pa_cons pe_int pa_nil)))))
      (pss_cut (ps_if (pt_cmpR op_eq (pe_call (ok__law_draw T) (hr.mono (by decide)) (by rfl) T.g__law_draw T.F__law_draw.kp T.b__law_draw .nil pass0 (pa_cons (pv 1) (pa_cons pe_int pa_nil))) pe_int (nomark _))
        (pss_one (ps_set (i := 2) sc_law.nd rfl (Or.inr rfl) pe_int))
        pss_nil)
      (pss_cons (ps_set (i := 3) sc_law.nd rfl (Or.inl rfl) (pe_op op_rep (pe_lst (pa_cons pe_int pa_nil)) (pv 2)))
      (pss_cons (ps_set (i := 4) sc_law.nd rfl (Or.inl rfl) (pe_make0 T.mk_Explorer (ok_Explorer___init__ T) (hr.mono (by decide)) (by rfl) T.g_Explorer T.b_Explorer___init__ .nil pass0))
      (pss_cons (ps_for PassesOwn.never rfl (pi_range1 (by rfl) T.z_range (pa_cons (pe_callB (id := "min") (call_min2 rfl) (by rfl) T.z_min (by decide +kernel) (pa_cons (pe_op op_mulW (pv 2) (pv 2)) (pa_cons pe_int pa_nil))) pa_nil)) (pg_name (i := 5) sc_law.nd rfl (Or.inl rfl))
        (pss_cons (ps_if (pt_not (pt_val (pe_meth0 (pv 4) T.cl_Explorer T.M_Explorer_begin (ok_Explorer_begin T) (hr.mono (by decide)) T.b_Explorer_begin .nil pass0)))
          (pss_one (ps_ret pe_bl))
          pss_nil)
        (pss_cons (ps_set (i := 6) sc_law.nd rfl (Or.inl rfl) (pe_meth (pv 4) T.cl_Explorer T.M_Explorer_pick (ok_Explorer_pick T) (hr.mono (by decide)) T.b_Explorer_pick .nil pass0 (pa_cons (pv 3) pa_nil)))
        (pss_one (ps_expr (pe_meth (pv 4) T.cl_Explorer T.M_Explorer_end (ok_Explorer_end T) (hr.mono (by decide)) T.b_Explorer_end .nil pass0 (pa_cons (pe_op op_add (pe_op op_mulW (pv 6) (pv 2)) (pe_meth (pv 4) T.cl_Explorer T.M_Explorer_pick (ok_Explorer_pick T) (hr.mono (by decide)) T.b_Explorer_pick .nil pass0 (pa_cons (pv 3) pa_nil))) pa_nil)))))))
      (pss_cons (ps_if (pt_cmpR op_eq (pv 2) pe_int (nomark _))
        (pss_one (ps_ret (pe_and (pe_cmpR op_eq (pe_meth0 (pv 4) T.cl_Explorer T.M_Explorer_runs (ok_Explorer_runs T) (hr.mono (by decide)) T.b_Explorer_runs .nil pass0) pe_int (nomark _)) (pe_one (pe_cmpR (op_eqD hr.units) (pe_call (ok__law_limit T) (hr.mono (by decide)) (by rfl) T.g__law_limit T.F__law_limit.kp T.b__law_limit .nil pass0 (pa_cons (pv 4) pa_nil)) pe_str (nomark _))))))
        pss_nil)
      (pss_cons (ps_if (pt_val (pe_meth0 (pv 4) T.cl_Explorer T.M_Explorer_begin (ok_Explorer_begin T) (hr.mono (by decide)) T.b_Explorer_begin .nil pass0))
        (pss_one (ps_ret pe_bl))
        pss_nil)
      (pss_one (ps_ret (pe_cmpR (op_eqD hr.units) (pe_meth0 (pv 4) T.cl_Explorer T.M_Explorer_gathered (ok_Explorer_gathered T) (hr.mono (by decide)) T.b_Explorer_gathered .nil pass0) (pe_lc (own := [("_law_number", 7)]) (g := gName 7) rfl sc_law.nd (pi_range1 (by rfl) T.z_range (pa_cons (pe_op op_mulW (pv 2) (pv 2)) pa_nil)) (blkOk_by (own := [("_law_number", 7)]) (N := nm_law) (sc := defScope s_law) (by decide +kernel)) (fun _ _ _ _ _ => pg_name (i := 7) sc_law.nd rfl (Or.inl rfl)) (fun _ _ _ _ _ => pts_nil) (fun _ _ _ _ _ => (pe_tup (pa_cons (pv 7) (pa_cons (pe_call (ok__law_low T) (hr.mono (by decide)) (by rfl) T.g__law_low T.F__law_low.kp T.b__law_low .nil pass0 (pa_cons pe_int (pa_cons (pe_op op_mulW (pv 2) (pv 2)) pa_nil))) pa_nil))))) (nomark _)))))))))))), ?_⟩
    refine ⟨_, rfl, a, ns, rfl, hS, fun k L H1 hL e1 D1 => ?_⟩
    refine ⟨_, rfl, k, L, 12, rfl, by decide, by decide, D1, fun v H2 v0 v1 e2 D2 => ?_⟩
    refine ⟨_, _, rfl, rfl, ?_⟩
    refine ⟨fun σ' H' => ∃ s : Nat, σ' = [some (.ref a), some (.ref L), some (.int (s : Int)), none, none, none, none, none] ∧ 0 < s ∧ (s ≤ 12 ∨ s = 142), ?_, ?_⟩
    · refine ⟨_, rfl, k, L, 40, rfl, by decide, by decide, D2, fun u H3 _ _ e3 D3 => ?_⟩
      refine ⟨rfl, _, rfl, ite_dec (fun _ => ?_) (fun _ => ?_)⟩
      · exact ⟨142, rfl, by decide, .inr rfl⟩
      · refine ⟨(1 + v).toNat, ?_, by omega, .inl (by omega)⟩
        rw [show (((1 + v).toNat : Nat) : Int) = 1 + v by omega]
        rfl
    · rintro σ' H3 ⟨s, rfl, hs, hs2⟩
      have hs142 : s ≤ 142 := by omega
      have hss : s * s ≤ 142 * 142 := Nat.mul_le_mul hs142 hs142
      refine ⟨by show 1 ≤ sizeLine; decide, fun l hl => ?_⟩
      have e4 := same_upd (o := .lst [.int 1]) hl
      have hl4 : upd H3 l (.lst [.int 1]) l = some (.lst [.int 1]) := upd_same
      generalize upd H3 l (.lst [.int 1]) = H4 at e4 hl4 ⊢
      refine ⟨_, rfl, l, _, _, rfl, rfl, hl4, by omega, by omega, ?_, fun wl hwl => ?_⟩
      · show 1 * ((s : Int).toNat) ≤ sizeLine
        exact Nat.le_trans (by omega : 1 * ((s : Int).toNat) ≤ 142) (by decide)
      have ew : (List.replicate ((s : Int).toNat) [V.int 1]).flatten = (ones s).map V.int := by
        rw [Int.toNat_natCast, List.flatten_replicate_singleton]
        unfold ones
        rw [List.map_replicate]
      rw [ew]
      have e5 := same_upd (o := .lst ((ones s).map V.int)) hwl
      have hw5 : upd H4 wl (.lst ((ones s).map V.int)) wl = some (.lst ((ones s).map V.int)) := upd_same
      generalize upd H4 wl (.lst ((ones s).map V.int)) = H5 at e5 hw5 ⊢
      refine fun x dx hx hdx hne => ?_
      have em := mk_sameX (C := T.a_Explorer) hx hdx
      refine ⟨x, dx, rfl, upd_same, fun P R H6 e6 hX hP hR => ⟨rfl, ?_⟩⟩
      have e56 : Same H5 H6 := ex_sameX hx em e6
      have hw6 := e56 _ _ hw5
      have nwP : wl ≠ P := ne_of_none (em _ _ hw5) hP
      have nwR : wl ≠ R := ne_of_none (em _ _ hw5) hR
      have nwx : wl ≠ x := ne_of_none hw5 hx
      have sAbs : ((s : Int)).natAbs < 2 ^ 10 := by rw [Int.natAbs_natCast]; exact Nat.lt_of_le_of_lt hs142 (by decide)
      refine ⟨_, rfl, _, rfl, _, _, rfl, rfl, mulOk sAbs sAbs (by decide) (by decide) (by decide), _, _, rfl, ?_⟩
      obtain ⟨N, hN, hN2, hN3, hN3', hN4⟩ : ∃ N : Nat, (if (20000 : Int) < (s : Int) * s then 20000 else (s : Int) * s) = (N : Int) ∧ N ≤ 20000 ∧ N ≤ s * s ∧ (s ≤ 12 → N = s * s) ∧ (s = 142 → N = 20000) := by
        by_cases hc : (20000 : Int) < (s : Int) * s
        · rw [if_pos hc]
          have h1 : 20000 < s * s := by
            rw [← Int.natCast_mul] at hc
            omega
          refine ⟨20000, rfl, by omega, by omega, fun h => ?_, fun _ => rfl⟩
          have := Nat.mul_le_mul h h
          omega
        · rw [if_neg hc]
          have h1 : s * s ≤ 20000 := by
            rw [← Int.natCast_mul] at hc
            omega
          refine ⟨s * s, by rw [Int.natCast_mul], by omega, by omega, fun _ => rfl, fun h => ?_⟩
          subst h
          omega
      rw [hN]
      refine ⟨_, rfl, by omega, by omega, for_it walk_range (fun i σ H' => ∃ (st : XSt) (x5 x6 x7 : Option V), σ = [some (.ref a), some (.ref L), some (.int (s : Int)), some (.ref wl), some (.ref x), x5, x6, x7] ∧ XAt K H' T.a_Explorer x st ∧ H' wl = some (.lst ((ones s).map V.int)) ∧ wl ∉ [st.P, st.R] ∧
          st.op = false ∧ st.ov = false ∧ st.many = i ∧ st.rows = eqRows i (rOf s) ∧ st.ps = pathOf s i)
        ⟨_, _, _, _, rfl, hX, hw6, by simp [nwP, nwR], rfl, rfl, rfl, rfl, rfl⟩ (fun _ _ _ _ _ => trivial) ?_ ?_⟩
      · rintro i z σ Ha Hb hi ⟨st, x5, x6, x7, rfl, hXi, hwi, hwn, hop, hov, hmany, hrows, hps⟩ ⟨rfl, rfl⟩
        have hiN : i < N := by omega
        have hiss : i < s * s := by omega
        obtain ⟨dxi, cvi, hxi, _⟩ := hXi.inst
        have hpl : st.ps.length ≤ 1000 := by
          rw [hps]
          cases i with
          | zero => exact Nat.zero_le _
          | succ i => show 2 ≤ 1000; decide
        have nwP : wl ≠ st.P := fun z => hwn (by rw [z]; simp)
        have nwR : wl ≠ st.R := fun z => hwn (by rw [z]; simp)
        have wst : ∀ {G G' : Hp}, Ex [x, st.P] G G' → G wl = some (.lst ((ones s).map V.int)) → G' wl = some (.lst ((ones s).map V.int)) := fun e h => e _ _ (by simp [nwP, nwx]) h
        refine ⟨_, rfl, x, dxi, _, rfl, hxi, xF_no (by decide +kernel), x, st, rfl, hXi, hop, hpl, fun h => by omega, fun H1 b st1 e1 hb hX1 => ?_⟩
        obtain ⟨rfl, rfl⟩ := begin_run hs hiss hov hmany hps hb
        refine ⟨_, rfl, iteF ?_⟩
        obtain ⟨dx1, cv1, hx1, _⟩ := hX1.inst
        have hw1 := wst e1 hwi
        have pl1 : (pathAt s i).length ≤ 1000 := by
          unfold pathAt
          split
          · exact Nat.zero_le _
          · split
            · show 1 ≤ 1000; decide
            · show 2 ≤ 1000; decide
        have ol : (ones s).length ≤ 1000 := by rw [ones_len]; omega
        have os : 0 < (ones s).sum := by rw [ones_sum]; omega
        have oz : (ones s).sum.natAbs < 2 ^ 900 := by rw [ones_sum, Int.natAbs_natCast]; exact Nat.lt_of_le_of_lt hs142 (by decide)
        have dlt : i / s < s := Nat.div_lt_of_lt_mul hiss
        have mlt : i % s < s := Nat.mod_lt _ hs
        have p1 := fun st2 => pick_one (st := { st with ps := pathAt s i, op := true, at_ := 0, ch := 1 }) (st2 := st2) hs hiss rfl rfl
        refine ⟨_, rfl, x, dx1, _, rfl, hx1, xF_no (by decide +kernel), _, rfl, x, wl, _, ones s, i / s, rfl, hX1, SqL.of hw1, hwn, ol, pl1, os, (p1 st).1.1, (p1 st).1.2, by rw [ones_len]; exact dlt, by rw [ones_at dlt]; decide, oz, sz_one.mono (by decide), fun H2 st2 e2 hp2 hX2 => ?_⟩
        obtain rfl := (p1 st2).2 hp2
        obtain ⟨dx2, cv2, hx2, _⟩ := hX2.inst
        have hw2 := wst e2 hw1
        have p2 := fun st3 => pick_two (s := s) (t := i) (st := { st with ps := pathMid s i, op := true, at_ := 1, ch := 1 * Rat.divInt 1 s }) (st2 := st3) hs rfl rfl
        have pl2 : (pathMid s i).length ≤ 1000 := by
          unfold pathMid
          split
          · show 1 ≤ 1000; decide
          · show 2 ≤ 1000; decide
        refine ⟨_, rfl, x, dx2, _, rfl, hx2, xF_no (by decide +kernel), _, rfl, _, rfl, _, _, rfl, rfl, mulOk (m := 10) (by rw [Int.natAbs_natCast]; exact Nat.lt_trans (Nat.lt_of_lt_of_le dlt hs142) (by decide)) sAbs (by decide) (by decide) (by decide), ?_⟩
        refine ⟨_, rfl, x, dx2, _, rfl, hx2, xF_no (by decide +kernel), _, rfl, x, wl, _, ones s, i % s, rfl, hX2, SqL.of hw2, hwn, ol, pl2, os, (p2 st).1.1, (p2 st).1.2, by rw [ones_len]; exact mlt, by rw [ones_at mlt]; decide, oz, ?_, fun H3 st3 e3 hp3 hX3 => ?_⟩
        · show Sz LIM (1 * Rat.divInt 1 s)
          rw [Rat.one_mul]
          exact sz_divInt (by omega) (by decide) (pow_up sAbs (by decide))
        obtain rfl := (p2 st3).2 hp3
        have hw3 := wst e3 hw2
        refine ⟨_, _, rfl, rfl, x, _, _, rfl, hX3, ?_, fun H4 e4 hX4 => ?_⟩
        · show st.rows.length ≤ 100000
          rw [hrows, eqRows_len]
          omega
        refine ⟨_, _, _, _, rfl, hX4, e4 _ _ (by simp [nwR, nwx]) hw3, hwn, rfl, hov, ?_, ?_, rfl⟩
        · show st.many + 1 = i + 1
          rw [hmany]
        · show st.rows ++ [(V.int ((i / s : Nat) * (s : Int) + (i % s : Nat)), 1 * Rat.divInt 1 s * Rat.divInt 1 s)] = eqRows (i + 1) (rOf s)
          rw [hrows, eqRows_succ]
          have : ((i / s : Nat) : Int) * (s : Int) + ((i % s : Nat) : Int) = (i : Int) := by
            rw [← Int.natCast_mul, ← Int.natCast_add, Nat.mul_comm, Nat.div_add_mod]
          rw [this]
          rfl
      · rintro σ Ha ⟨st, x5, x6, x7, rfl, hXi, hwi, hwn, hop, hov, hmany, hrows, hps⟩
        rw [show ((N : Nat) : Int).toNat = N by omega] at hmany hrows hps
        obtain ⟨dxi, cvi, hxi, _⟩ := hXi.inst
        have hpl : st.ps.length ≤ 1000 := by
          rw [hps]
          cases N with
          | zero => exact Nat.zero_le _
          | succ i => show 2 ≤ 1000; decide
        refine ⟨_, rfl, rfl, _, rfl, ite_dec (fun h1 => ?_) (fun h1 => ?_)⟩
        · have hs3 : s = 142 := by
            have := V.int.inj h1
            omega
          have hN20 := hN4 hs3
          refine ⟨_, rfl, x, dxi, _, rfl, hxi, xF_no (by decide +kernel), x, st, rfl, hXi, rfl, _, rfl, ?_⟩
          rw [show decide (V.int (st.many : Int) = V.int 20000) = true from decide_eq_true (by rw [hmany, hN20]; rfl)]
          refine iteT ⟨_, rfl, x, st, (pathAt s N).reverse, rfl, hXi, hop, hov, hpl, by omega, ?_, fun H' => ?_⟩
          · rw [hps]
            exact path_adv hs (by omega) (by subst hs3; omega)
          · refine ⟨.str "runs", .str "runs", .str _, .str _, by decide +kernel, by decide +kernel, ?_⟩
            rw [show PyData.eqv (.str "runs") (.str "runs") = true by decide +kernel]
            exact q _
        · have hs3 : s ≤ 12 := by
            rcases hs2 with z | z
            · exact z
            · subst z
              exact absurd rfl h1
          have hNs := hN3' hs3
          have h144 : s * s ≤ 12 * 12 := Nat.mul_le_mul hs3 hs3
          have hpos := Nat.mul_pos hs hs
          refine ⟨_, rfl, x, dxi, _, rfl, hxi, xF_no (by decide +kernel), x, st, rfl, hXi, hop, hpl, fun h => by omega, fun H1 b st1 e1 hb hX1 => ?_⟩
          have hend : b = false ∧ st1 = { st with ps := [], ov := true } := by
            rcases hb with ⟨h, _⟩ | ⟨_, h0, _⟩ | ⟨_, h0, ha, hb, e⟩ | ⟨_, h0, ps', ha, hb, e⟩
            · rw [hov] at h
              cases h
            · omega
            · exact ⟨hb, e⟩
            · rw [hps, hNs] at ha
              exact absurd (ha.det (path_end hs)) (fun z => nomatch z)
          obtain ⟨rfl, rfl⟩ := hend
          obtain ⟨dx1, cv1, hx1, _⟩ := hX1.inst
          refine ⟨_, rfl, iteF ?_⟩
          refine ⟨_, rfl, x, dx1, _, rfl, hx1, xF_no (by decide +kernel), x, _, s * s, rOf s, rfl, hX1, rfl, by show st.rows = _; rw [hrows, hNs], by omega, rOf_pos hs, rOf_sz hs (by omega), fun i hi => rOf_szi hs (by omega) i hi, rOf_one hs, fun q1 ys H2 e2 hq hys => ?_⟩
          refine ⟨_, rfl, _, rfl, _, _, rfl, rfl, mulOk sAbs sAbs (by decide) (by decide) (by decide), _, rfl, ?_, ?_, fun D hD => ?_⟩
          · rw [← Int.natCast_mul]; omega
          · rw [← Int.natCast_mul]; omega
          refine lc_it walk_range (fun i H' => Same H2 H' ∧ ∃ zs, H' D = some (.lst zs) ∧ Rows' K H' zs (eqRows i (rOf s))) ⟨same_upd hD, [], upd_same, .nil⟩ (fun _ _ _ _ => trivial) ?_ ?_
          · rintro i z Hc He hi ⟨e4, zs, hd4, hzs⟩ ⟨rfl, rfl⟩
            have hi' : i < s * s := by
              rw [← Int.natCast_mul] at hi
              omega
            have qAbs : ((s : Int) * (s : Int)).natAbs < 2 ^ 1990 := by
              rw [← Int.natCast_mul, Int.natAbs_natCast]
              exact Nat.lt_of_le_of_lt h144 (by decide)
            refine ⟨rfl, w_yes ⟨_, rfl, _, rfl, _, rfl, _, _, rfl, rfl, mulOk sAbs sAbs (by decide) (by decide) (by decide), _, _, rfl, (by rw [← Int.natCast_mul]; show ((s * s : Nat) : Int) ≠ 0; omega), by decide, qAbs, fun t H3 ht e3 hf => ⟨by show 2 ≤ sizeLine; decide, fun t2 ht2 => ?_⟩⟩⟩
            rw [← Int.natCast_mul, ← rOf_eq hs] at hf
            have e5 := same_upd (o := .tup [.int ((0 : Int) + (i : Nat)), .ref t]) ht2
            have ht5 : upd H3 t2 (.tup [.int ((0 : Int) + (i : Nat)), .ref t]) t2 = some (.tup [.int ((0 : Int) + (i : Nat)), .ref t]) := upd_same
            generalize upd H3 t2 (.tup [.int ((0 : Int) + (i : Nat)), .ref t]) = H4 at e5 ht5 ⊢
            have hzl : zs.length = i := (Paired.length hzs).trans (eqRows_len i _)
            refine ⟨zs, e5 _ _ (e3 _ _ hd4), Nat.lt_of_le_of_lt (by omega : zs.length ≤ 20000) (by decide), ((e4.trans e3).trans e5).mut hD, _, upd_same, ?_⟩
            have eu : Ex [D] H4 (upd H4 D (.lst (zs ++ [.ref t2]))) := (Ex.refl H4).mut (.inr (List.mem_singleton.mpr rfl))
            have hFs : ∀ z ∈ [D], ∃ o, H4 z = some o ∧ (∀ ys, o ≠ .tup ys) ∧ ∀ b u, o ≠ .frz b u := fun z hz => by
              rw [List.mem_singleton.mp hz]
              exact ⟨_, e5 _ _ (e3 _ _ hd4), (fun _ z => nomatch z), (fun _ _ z => nomatch z)⟩
            rw [eqRows_succ]
            rw [Int.zero_add] at ht5
            exact Paired.mapP (rowsSnoc (r := (V.int i, rOf s)) ⟨t2, .ref t, rfl, SqT.of ht5, (Fr.of hf).same e5⟩ (rowsSame (e3.trans e5) hzs)) fun _ _ hr => hr.ex hFs eu
          · rintro Hc ⟨e4, zs, hd4, hzs⟩
            rw [show ((s : Int) * (s : Int)).toNat = s * s by rw [← Int.natCast_mul]; omega] at hzs
            refine ⟨.list (eqD (s * s) (rOf s)), .list (eqD (s * s) (rOf s)), .lst (SqL.of (e4 _ _ hq)) (rowsDp (rowsSame e4 hys)), .lst (SqL.of hd4) (rowsDp hzs), eqD_shaped _ _, eqD_shaped _ _, ?_⟩
            rw [SeqAt.eqv_refl _ (SeqAt.canLay_of_shaped (eqD_shaped _ _))]
            exact q _

end
theorem all_mk {l : PySem.W.OpenLaw} {w : World} {K : PySem.W.Frag} {h : Heap} {mg : Str → Option Value} {fa a_Explorer a_SamphireError a_TooLarge a_NotEnded f_TooLarge___init__ f_lowest f_plus f_times f_less f_sum_of f_are_chances f_law_from f_Explorer___init__ f_Explorer_advance f_Explorer_begin f_Explorer_pick f_Explorer_end f_Explorer_runs f_Explorer_gathered f__law_deck f__law_draw f__law_low f__law_limit f_law a_NOTHING a_ONE : Addr} (X : K.In h) (G : h.Ns mainGlobals mg) (hfa : mg "law" = some (.ref fa))
    {xnmTooLarge xqTooLarge : Str} {xNTooLarge : Addr} {xbsTooLarge : List Value} {xsnTooLarge : List Str} {xsubTooLarge : List Value} {xabTooLarge : Bool} {xcolTooLarge : Option Bool} {xddTooLarge : Option Addr} {xk0TooLarge xk1TooLarge xk2TooLarge xk3TooLarge xk5TooLarge : Option Value}
    {odTooLarge___init__ anTooLarge___init__ : Option Addr} {slTooLarge___init__ : Array (Option Value)} {ocTooLarge___init__ kVTooLarge___init__ dcTooLarge___init__ pmTooLarge___init__ cdTooLarge___init__ ctTooLarge___init__ : Value}
    {odlowest anlowest : Option Addr} {sllowest : Array (Option Value)} {oclowest kVlowest dclowest pmlowest cdlowest ctlowest : Value}
    {odplus anplus : Option Addr} {slplus : Array (Option Value)} {ocplus kVplus dcplus pmplus cdplus ctplus : Value}
    {odtimes antimes : Option Addr} {sltimes : Array (Option Value)} {octimes kVtimes dctimes pmtimes cdtimes cttimes : Value}
    {odless anless : Option Addr} {slless : Array (Option Value)} {ocless kVless dcless pmless cdless ctless : Value}
    {odsum_of ansum_of : Option Addr} {slsum_of : Array (Option Value)} {ocsum_of kVsum_of dcsum_of pmsum_of cdsum_of ctsum_of : Value}
    {odare_chances anare_chances : Option Addr} {slare_chances : Array (Option Value)} {ocare_chances kVare_chances dcare_chances pmare_chances cdare_chances ctare_chances : Value}
    {odlaw_from anlaw_from : Option Addr} {sllaw_from : Array (Option Value)} {oclaw_from kVlaw_from dclaw_from pmlaw_from cdlaw_from ctlaw_from : Value}
    {odExplorer___init__ anExplorer___init__ : Option Addr} {slExplorer___init__ : Array (Option Value)} {ocExplorer___init__ kVExplorer___init__ dcExplorer___init__ pmExplorer___init__ cdExplorer___init__ ctExplorer___init__ : Value}
    {odExplorer_advance anExplorer_advance : Option Addr} {slExplorer_advance : Array (Option Value)} {ocExplorer_advance kVExplorer_advance dcExplorer_advance pmExplorer_advance cdExplorer_advance ctExplorer_advance : Value}
    {odExplorer_begin anExplorer_begin : Option Addr} {slExplorer_begin : Array (Option Value)} {ocExplorer_begin kVExplorer_begin dcExplorer_begin pmExplorer_begin cdExplorer_begin ctExplorer_begin : Value}
    {odExplorer_pick anExplorer_pick : Option Addr} {slExplorer_pick : Array (Option Value)} {ocExplorer_pick kVExplorer_pick dcExplorer_pick pmExplorer_pick cdExplorer_pick ctExplorer_pick : Value}
    {odExplorer_end anExplorer_end : Option Addr} {slExplorer_end : Array (Option Value)} {ocExplorer_end kVExplorer_end dcExplorer_end pmExplorer_end cdExplorer_end ctExplorer_end : Value}
    {odExplorer_runs anExplorer_runs : Option Addr} {slExplorer_runs : Array (Option Value)} {ocExplorer_runs kVExplorer_runs dcExplorer_runs pmExplorer_runs cdExplorer_runs ctExplorer_runs : Value}
    {odExplorer_gathered anExplorer_gathered : Option Addr} {slExplorer_gathered : Array (Option Value)} {ocExplorer_gathered kVExplorer_gathered dcExplorer_gathered pmExplorer_gathered cdExplorer_gathered ctExplorer_gathered : Value}
    {od_law_deck an_law_deck : Option Addr} {sl_law_deck : Array (Option Value)} {oc_law_deck kV_law_deck dc_law_deck pm_law_deck cd_law_deck ct_law_deck : Value}
    {od_law_draw an_law_draw : Option Addr} {sl_law_draw : Array (Option Value)} {oc_law_draw kV_law_draw dc_law_draw pm_law_draw cd_law_draw ct_law_draw : Value}
    {od_law_low an_law_low : Option Addr} {sl_law_low : Array (Option Value)} {oc_law_low kV_law_low dc_law_low pm_law_low cd_law_low ct_law_low : Value}
    {od_law_limit an_law_limit : Option Addr} {sl_law_limit : Array (Option Value)} {oc_law_limit kV_law_limit dc_law_limit pm_law_limit cd_law_limit ct_law_limit : Value}
    {odlaw anlaw : Option Addr} {sllaw : Array (Option Value)} {oclaw kVlaw dclaw pmlaw cdlaw ctlaw : Value}
    {t_MOST_RUNS : Tok}
    {odNOTHING : Option Addr} {slNOTHING : Array (Option Value)} {nNOTHING : Nat} {tNOTHING0 tNOTHING1 : Tok}
    {odONE : Option Addr} {slONE : Array (Option Value)} {nONE : Nat} {tONE0 tONE1 : Tok}
    (hExplorer : PySem.W.nsIn K mainGlobals "Explorer" = some (some (.ref a_Explorer)))
    (pgExplorer : PySem.W.plainGet K a_Explorer Str.empty = true)
    (hdExplorer : PySem.W.hasDictIn K a_Explorer = true)
    (poExplorer : PySem.W.plainOver K a_Explorer = true)
    (saExplorer : PySem.W.findIn K (.ref a_Explorer) "__setattr__" = some (some (.builtin "object.__setattr__")))
    (mkExplorer : PySem.W.makesIn K a_Explorer = true)
    (kcExplorer : PySem.W.keepIn K (.ref a_Explorer) = true)
    (nExplorer_path : PySem.W.findIn K (.ref a_Explorer) "path" = some none)
    (nExplorer_at : PySem.W.findIn K (.ref a_Explorer) "at" = some none)
    (nExplorer_chance : PySem.W.findIn K (.ref a_Explorer) "chance" = some none)
    (nExplorer_is_open : PySem.W.findIn K (.ref a_Explorer) "is_open" = some none)
    (nExplorer_is_over : PySem.W.findIn K (.ref a_Explorer) "is_over" = some none)
    (nExplorer_many : PySem.W.findIn K (.ref a_Explorer) "many" = some none)
    (nExplorer_rows : PySem.W.findIn K (.ref a_Explorer) "rows" = some none)
    (hSamphireError : PySem.W.nsIn K mainGlobals "SamphireError" = some (some (.ref a_SamphireError)))
    (kpSamphireError : PySem.W.keepIn K (.ref a_SamphireError) = true)
    (sbSamphireError : PySem.W.subIn K (.ref a_SamphireError) (.type "BaseException") = some true)
    (tySamphireError : PySem.W.typeIn K (.ref a_SamphireError) = some (.type "type"))
    (hdSamphireError : PySem.W.hasDictIn K a_SamphireError = true)
    (suSamphireError : PySem.W.subIn K (.ref a_SamphireError) (.ref a_SamphireError) = some true)
    (hTooLarge : PySem.W.nsIn K mainGlobals "TooLarge" = some (some (.ref a_TooLarge)))
    (kpTooLarge : PySem.W.keepIn K (.ref a_TooLarge) = true)
    (sbTooLarge : PySem.W.subIn K (.ref a_TooLarge) (.type "BaseException") = some true)
    (tyTooLarge : PySem.W.typeIn K (.ref a_TooLarge) = some (.type "type"))
    (hdTooLarge : PySem.W.hasDictIn K a_TooLarge = true)
    (suTooLarge : PySem.W.subIn K (.ref a_TooLarge) (.ref a_TooLarge) = some true)
    (xLTooLarge : K.lookup a_TooLarge = some (excClassObj xnmTooLarge xqTooLarge a_TooLarge xNTooLarge xbsTooLarge [.ref a_SamphireError, .type "ValueError", .type "Exception", .type "BaseException", .type "object"] true xsnTooLarge xsubTooLarge xabTooLarge xcolTooLarge xddTooLarge xk0TooLarge xk1TooLarge xk2TooLarge xk3TooLarge xk5TooLarge "ValueError.__new__"))
    (xsTooLarge : PySem.W.findIn K (.ref a_TooLarge) "__setattr__" = some (some (.builtin "object.__setattr__")))
    (egTooLarge : PySem.W.findIn K (.ref a_TooLarge) "__getattribute__" = some (some (.builtin "BaseException.__getattribute__")))
    (ekTooLarge : PySem.W.findIn K (.ref a_TooLarge) "__getattr__" = some none)
    (noTooLargelimit : PySem.W.findIn K (.ref a_TooLarge) "limit" = some none)
    (hNotEnded : PySem.W.nsIn K mainGlobals "NotEnded" = some (some (.ref a_NotEnded)))
    (kpNotEnded : PySem.W.keepIn K (.ref a_NotEnded) = true)
    (sbNotEnded : PySem.W.subIn K (.ref a_NotEnded) (.type "BaseException") = some true)
    (tyNotEnded : PySem.W.typeIn K (.ref a_NotEnded) = some (.type "type"))
    (hdNotEnded : PySem.W.hasDictIn K a_NotEnded = true)
    (suNotEnded : PySem.W.subIn K (.ref a_NotEnded) (.ref a_NotEnded) = some true)
    (xNotEnded : PySem.W.excIn K a_NotEnded [.type "ValueError", .type "Exception", .type "BaseException", .type "object"] "ValueError.__new__" = true)
    (aTooLarge___init__ : PySem.W.findIn K (.ref a_TooLarge) "__init__" = some (some (.ref f_TooLarge___init__)))
    (tcTooLarge : PySem.W.typeIn K (.ref f_TooLarge___init__) = some (.type "function"))
    (lTooLarge___init__ : K.lookup f_TooLarge___init__ = some ⟨ocTooLarge___init__, odTooLarge___init__, .func (PySem.W.fnOf "__init__" "TooLarge.__init__" (defArgs s_TooLarge___init__) (defBody s_TooLarge___init__) (defScope s_TooLarge___init__) .none kVTooLarge___init__ dcTooLarge___init__ pmTooLarge___init__ anTooLarge___init__ cdTooLarge___init__ ctTooLarge___init__), slTooLarge___init__⟩)
    (cTooLarge___init__ : PySem.W.codeIn K cdTooLarge___init__ "TooLarge.__init__" = true)
    (kTooLarge___init__ : PySem.W.keepIn K (.ref f_TooLarge___init__) = true)
    (alowest : PySem.W.nsIn K mainGlobals "lowest" = some (some (.ref f_lowest)))
    (llowest : K.lookup f_lowest = some ⟨oclowest, odlowest, .func (PySem.W.fnOf "lowest" "lowest" (defArgs s_lowest) (defBody s_lowest) (defScope s_lowest) .none kVlowest dclowest pmlowest anlowest cdlowest ctlowest), sllowest⟩)
    (clowest : PySem.W.codeIn K cdlowest "lowest" = true)
    (klowest : PySem.W.keepIn K (.ref f_lowest) = true)
    (aplus : PySem.W.nsIn K mainGlobals "plus" = some (some (.ref f_plus)))
    (lplus : K.lookup f_plus = some ⟨ocplus, odplus, .func (PySem.W.fnOf "plus" "plus" (defArgs s_plus) (defBody s_plus) (defScope s_plus) .none kVplus dcplus pmplus anplus cdplus ctplus), slplus⟩)
    (cplus : PySem.W.codeIn K cdplus "plus" = true)
    (kplus : PySem.W.keepIn K (.ref f_plus) = true)
    (atimes : PySem.W.nsIn K mainGlobals "times" = some (some (.ref f_times)))
    (ltimes : K.lookup f_times = some ⟨octimes, odtimes, .func (PySem.W.fnOf "times" "times" (defArgs s_times) (defBody s_times) (defScope s_times) .none kVtimes dctimes pmtimes antimes cdtimes cttimes), sltimes⟩)
    (ctimes : PySem.W.codeIn K cdtimes "times" = true)
    (ktimes : PySem.W.keepIn K (.ref f_times) = true)
    (aless : PySem.W.nsIn K mainGlobals "less" = some (some (.ref f_less)))
    (lless : K.lookup f_less = some ⟨ocless, odless, .func (PySem.W.fnOf "less" "less" (defArgs s_less) (defBody s_less) (defScope s_less) .none kVless dcless pmless anless cdless ctless), slless⟩)
    (cless : PySem.W.codeIn K cdless "less" = true)
    (kless : PySem.W.keepIn K (.ref f_less) = true)
    (asum_of : PySem.W.nsIn K mainGlobals "sum_of" = some (some (.ref f_sum_of)))
    (lsum_of : K.lookup f_sum_of = some ⟨ocsum_of, odsum_of, .func (PySem.W.fnOf "sum_of" "sum_of" (defArgs s_sum_of) (defBody s_sum_of) (defScope s_sum_of) .none kVsum_of dcsum_of pmsum_of ansum_of cdsum_of ctsum_of), slsum_of⟩)
    (csum_of : PySem.W.codeIn K cdsum_of "sum_of" = true)
    (ksum_of : PySem.W.keepIn K (.ref f_sum_of) = true)
    (aare_chances : PySem.W.nsIn K mainGlobals "are_chances" = some (some (.ref f_are_chances)))
    (lare_chances : K.lookup f_are_chances = some ⟨ocare_chances, odare_chances, .func (PySem.W.fnOf "are_chances" "are_chances" (defArgs s_are_chances) (defBody s_are_chances) (defScope s_are_chances) .none kVare_chances dcare_chances pmare_chances anare_chances cdare_chances ctare_chances), slare_chances⟩)
    (care_chances : PySem.W.codeIn K cdare_chances "are_chances" = true)
    (kare_chances : PySem.W.keepIn K (.ref f_are_chances) = true)
    (alaw_from : PySem.W.nsIn K mainGlobals "law_from" = some (some (.ref f_law_from)))
    (llaw_from : K.lookup f_law_from = some ⟨oclaw_from, odlaw_from, .func (PySem.W.fnOf "law_from" "law_from" (defArgs s_law_from) (defBody s_law_from) (defScope s_law_from) .none kVlaw_from dclaw_from pmlaw_from anlaw_from cdlaw_from ctlaw_from), sllaw_from⟩)
    (claw_from : PySem.W.codeIn K cdlaw_from "law_from" = true)
    (klaw_from : PySem.W.keepIn K (.ref f_law_from) = true)
    (aExplorer___init__ : PySem.W.findIn K (.ref a_Explorer) "__init__" = some (some (.ref f_Explorer___init__)))
    (iExplorer___init__ : PySem.W.isFn K (.ref f_Explorer___init__) = true)
    (lExplorer___init__ : K.lookup f_Explorer___init__ = some ⟨ocExplorer___init__, odExplorer___init__, .func (PySem.W.fnOf "__init__" "Explorer.__init__" (defArgs s_Explorer___init__) (defBody s_Explorer___init__) (defScope s_Explorer___init__) .none kVExplorer___init__ dcExplorer___init__ pmExplorer___init__ anExplorer___init__ cdExplorer___init__ ctExplorer___init__), slExplorer___init__⟩)
    (cExplorer___init__ : PySem.W.codeIn K cdExplorer___init__ "Explorer.__init__" = true)
    (kExplorer___init__ : PySem.W.keepIn K (.ref f_Explorer___init__) = true)
    (aExplorer_advance : PySem.W.findIn K (.ref a_Explorer) "advance" = some (some (.ref f_Explorer_advance)))
    (iExplorer_advance : PySem.W.isFn K (.ref f_Explorer_advance) = true)
    (lExplorer_advance : K.lookup f_Explorer_advance = some ⟨ocExplorer_advance, odExplorer_advance, .func (PySem.W.fnOf "advance" "Explorer.advance" (defArgs s_Explorer_advance) (defBody s_Explorer_advance) (defScope s_Explorer_advance) .none kVExplorer_advance dcExplorer_advance pmExplorer_advance anExplorer_advance cdExplorer_advance ctExplorer_advance), slExplorer_advance⟩)
    (cExplorer_advance : PySem.W.codeIn K cdExplorer_advance "Explorer.advance" = true)
    (kExplorer_advance : PySem.W.keepIn K (.ref f_Explorer_advance) = true)
    (aExplorer_begin : PySem.W.findIn K (.ref a_Explorer) "begin" = some (some (.ref f_Explorer_begin)))
    (iExplorer_begin : PySem.W.isFn K (.ref f_Explorer_begin) = true)
    (lExplorer_begin : K.lookup f_Explorer_begin = some ⟨ocExplorer_begin, odExplorer_begin, .func (PySem.W.fnOf "begin" "Explorer.begin" (defArgs s_Explorer_begin) (defBody s_Explorer_begin) (defScope s_Explorer_begin) .none kVExplorer_begin dcExplorer_begin pmExplorer_begin anExplorer_begin cdExplorer_begin ctExplorer_begin), slExplorer_begin⟩)
    (cExplorer_begin : PySem.W.codeIn K cdExplorer_begin "Explorer.begin" = true)
    (kExplorer_begin : PySem.W.keepIn K (.ref f_Explorer_begin) = true)
    (aExplorer_pick : PySem.W.findIn K (.ref a_Explorer) "pick" = some (some (.ref f_Explorer_pick)))
    (iExplorer_pick : PySem.W.isFn K (.ref f_Explorer_pick) = true)
    (lExplorer_pick : K.lookup f_Explorer_pick = some ⟨ocExplorer_pick, odExplorer_pick, .func (PySem.W.fnOf "pick" "Explorer.pick" (defArgs s_Explorer_pick) (defBody s_Explorer_pick) (defScope s_Explorer_pick) .none kVExplorer_pick dcExplorer_pick pmExplorer_pick anExplorer_pick cdExplorer_pick ctExplorer_pick), slExplorer_pick⟩)
    (cExplorer_pick : PySem.W.codeIn K cdExplorer_pick "Explorer.pick" = true)
    (kExplorer_pick : PySem.W.keepIn K (.ref f_Explorer_pick) = true)
    (aExplorer_end : PySem.W.findIn K (.ref a_Explorer) "end" = some (some (.ref f_Explorer_end)))
    (iExplorer_end : PySem.W.isFn K (.ref f_Explorer_end) = true)
    (lExplorer_end : K.lookup f_Explorer_end = some ⟨ocExplorer_end, odExplorer_end, .func (PySem.W.fnOf "end" "Explorer.end" (defArgs s_Explorer_end) (defBody s_Explorer_end) (defScope s_Explorer_end) .none kVExplorer_end dcExplorer_end pmExplorer_end anExplorer_end cdExplorer_end ctExplorer_end), slExplorer_end⟩)
    (cExplorer_end : PySem.W.codeIn K cdExplorer_end "Explorer.end" = true)
    (kExplorer_end : PySem.W.keepIn K (.ref f_Explorer_end) = true)
    (aExplorer_runs : PySem.W.findIn K (.ref a_Explorer) "runs" = some (some (.ref f_Explorer_runs)))
    (iExplorer_runs : PySem.W.isFn K (.ref f_Explorer_runs) = true)
    (lExplorer_runs : K.lookup f_Explorer_runs = some ⟨ocExplorer_runs, odExplorer_runs, .func (PySem.W.fnOf "runs" "Explorer.runs" (defArgs s_Explorer_runs) (defBody s_Explorer_runs) (defScope s_Explorer_runs) .none kVExplorer_runs dcExplorer_runs pmExplorer_runs anExplorer_runs cdExplorer_runs ctExplorer_runs), slExplorer_runs⟩)
    (cExplorer_runs : PySem.W.codeIn K cdExplorer_runs "Explorer.runs" = true)
    (kExplorer_runs : PySem.W.keepIn K (.ref f_Explorer_runs) = true)
    (aExplorer_gathered : PySem.W.findIn K (.ref a_Explorer) "gathered" = some (some (.ref f_Explorer_gathered)))
    (iExplorer_gathered : PySem.W.isFn K (.ref f_Explorer_gathered) = true)
    (lExplorer_gathered : K.lookup f_Explorer_gathered = some ⟨ocExplorer_gathered, odExplorer_gathered, .func (PySem.W.fnOf "gathered" "Explorer.gathered" (defArgs s_Explorer_gathered) (defBody s_Explorer_gathered) (defScope s_Explorer_gathered) .none kVExplorer_gathered dcExplorer_gathered pmExplorer_gathered anExplorer_gathered cdExplorer_gathered ctExplorer_gathered), slExplorer_gathered⟩)
    (cExplorer_gathered : PySem.W.codeIn K cdExplorer_gathered "Explorer.gathered" = true)
    (kExplorer_gathered : PySem.W.keepIn K (.ref f_Explorer_gathered) = true)
    (a_law_deck : PySem.W.nsIn K mainGlobals "_law_deck" = some (some (.ref f__law_deck)))
    (l_law_deck : K.lookup f__law_deck = some ⟨oc_law_deck, od_law_deck, .func (PySem.W.fnOf "_law_deck" "_law_deck" (defArgs s__law_deck) (defBody s__law_deck) (defScope s__law_deck) .none kV_law_deck dc_law_deck pm_law_deck an_law_deck cd_law_deck ct_law_deck), sl_law_deck⟩)
    (c_law_deck : PySem.W.codeIn K cd_law_deck "_law_deck" = true)
    (k_law_deck : PySem.W.keepIn K (.ref f__law_deck) = true)
    (a_law_draw : PySem.W.nsIn K mainGlobals "_law_draw" = some (some (.ref f__law_draw)))
    (l_law_draw : K.lookup f__law_draw = some ⟨oc_law_draw, od_law_draw, .func (PySem.W.fnOf "_law_draw" "_law_draw" (defArgs s__law_draw) (defBody s__law_draw) (defScope s__law_draw) .none kV_law_draw dc_law_draw pm_law_draw an_law_draw cd_law_draw ct_law_draw), sl_law_draw⟩)
    (c_law_draw : PySem.W.codeIn K cd_law_draw "_law_draw" = true)
    (k_law_draw : PySem.W.keepIn K (.ref f__law_draw) = true)
    (a_law_low : PySem.W.nsIn K mainGlobals "_law_low" = some (some (.ref f__law_low)))
    (l_law_low : K.lookup f__law_low = some ⟨oc_law_low, od_law_low, .func (PySem.W.fnOf "_law_low" "_law_low" (defArgs s__law_low) (defBody s__law_low) (defScope s__law_low) .none kV_law_low dc_law_low pm_law_low an_law_low cd_law_low ct_law_low), sl_law_low⟩)
    (c_law_low : PySem.W.codeIn K cd_law_low "_law_low" = true)
    (k_law_low : PySem.W.keepIn K (.ref f__law_low) = true)
    (a_law_limit : PySem.W.nsIn K mainGlobals "_law_limit" = some (some (.ref f__law_limit)))
    (l_law_limit : K.lookup f__law_limit = some ⟨oc_law_limit, od_law_limit, .func (PySem.W.fnOf "_law_limit" "_law_limit" (defArgs s__law_limit) (defBody s__law_limit) (defScope s__law_limit) .none kV_law_limit dc_law_limit pm_law_limit an_law_limit cd_law_limit ct_law_limit), sl_law_limit⟩)
    (c_law_limit : PySem.W.codeIn K cd_law_limit "_law_limit" = true)
    (k_law_limit : PySem.W.keepIn K (.ref f__law_limit) = true)
    (alaw : PySem.W.nsIn K mainGlobals "law" = some (some (.ref f_law)))
    (llaw : K.lookup f_law = some ⟨oclaw, odlaw, .func (PySem.W.fnOf "law" "law" (defArgs s_law) (defBody s_law) (defScope s_law) .none kVlaw dclaw pmlaw anlaw cdlaw ctlaw), sllaw⟩)
    (claw : PySem.W.codeIn K cdlaw "law" = true)
    (klaw : PySem.W.keepIn K (.ref f_law) = true)
    (hMOST_RUNS : PySem.W.nsIn K mainGlobals "MOST_RUNS" = some (some (.int (20000) t_MOST_RUNS)))
    (hNOTHING : PySem.W.nsIn K mainGlobals "NOTHING" = some (some (.ref a_NOTHING)))
    (lNOTHING : K.lookup a_NOTHING = some ⟨.type "tuple", odNOTHING, .seq (List.toArray [.int (0) tNOTHING0, .int (1) tNOTHING1]) nNOTHING, slNOTHING⟩)
    (hONE : PySem.W.nsIn K mainGlobals "ONE" = some (some (.ref a_ONE)))
    (lONE : K.lookup a_ONE = some ⟨.type "tuple", odONE, .seq (List.toArray [.int (1) tONE0, .int (1) tONE1]) nONE, slONE⟩)
    (zabs : PySem.W.nsIn K mainGlobals "abs" = some none)
    (zany : PySem.W.nsIn K mainGlobals "any" = some none)
    (zint : PySem.W.nsIn K mainGlobals "int" = some none)
    (zlen : PySem.W.nsIn K mainGlobals "len" = some none)
    (zlist : PySem.W.nsIn K mainGlobals "list" = some none)
    (zmin : PySem.W.nsIn K mainGlobals "min" = some none)
    (zrange : PySem.W.nsIn K mainGlobals "range" = some none)
    (zsorted : PySem.W.nsIn K mainGlobals "sorted" = some none)
    (zsum : PySem.W.nsIn K mainGlobals "sum" = some none)
    (hgcd : PySem.W.nsIn K mainGlobals "gcd" = some (some (.builtin "math.gcd")))
    : ∃ fd : FuncData, (∀ (s : Shared) (v : Value), BindsTo s fd ⟨[v], []⟩ [("_law_script", v)]) ∧ ∀ base : Heap, K.In base → base.Ns mainGlobals mg → FnOk l.prog w K mg base CX0 7 fa fd ["_law_script"] (sp_law K) := by
  have e := hfa.symm.trans (PySem.W.mg_of X G alaw)
  cases e
  let T : Txt K mg := {
    a_Explorer := a_Explorer
    cl_Explorer := ⟨pgExplorer, hdExplorer, poExplorer, saExplorer⟩
    g_Explorer := PySem.W.mg_of X G hExplorer
    n_Explorer_path := nExplorer_path
    n_Explorer_at := nExplorer_at
    n_Explorer_chance := nExplorer_chance
    n_Explorer_is_open := nExplorer_is_open
    n_Explorer_is_over := nExplorer_is_over
    n_Explorer_many := nExplorer_many
    n_Explorer_rows := nExplorer_rows
    a_SamphireError := a_SamphireError
    g_SamphireError := PySem.W.mg_of X G hSamphireError
    kp_SamphireError := kpSamphireError
    sb_SamphireError := sbSamphireError
    ty_SamphireError := tySamphireError
    te_SamphireError := PySem.W.exm_ref sbSamphireError hdSamphireError tySamphireError suSamphireError
    a_TooLarge := a_TooLarge
    g_TooLarge := PySem.W.mg_of X G hTooLarge
    kp_TooLarge := kpTooLarge
    sb_TooLarge := sbTooLarge
    ty_TooLarge := tyTooLarge
    te_TooLarge := PySem.W.exm_ref sbTooLarge hdTooLarge tyTooLarge suTooLarge
    ox_TooLarge := ⟨⟨_, _, _, _, _, _, _, _, _, _, _, _, _, _, _, xLTooLarge, refs_sub _⟩, xsTooLarge, sbTooLarge, tyTooLarge, kpTooLarge⟩
    xf_TooLarge := ⟨egTooLarge, ekTooLarge, sbTooLarge, hdTooLarge⟩
    no_TooLarge_limit := noTooLargelimit
    a_NotEnded := a_NotEnded
    g_NotEnded := PySem.W.mg_of X G hNotEnded
    kp_NotEnded := kpNotEnded
    sb_NotEnded := sbNotEnded
    ty_NotEnded := tyNotEnded
    te_NotEnded := PySem.W.exm_ref sbNotEnded hdNotEnded tyNotEnded suNotEnded
    x_NotEnded := xNotEnded
    ic_TooLarge := aTooLarge___init__
    tc_TooLarge := tcTooLarge
    f_TooLarge___init__ := f_TooLarge___init__
    fd_TooLarge___init__ := _
    F_TooLarge___init__ := fun_mk (st := s_TooLarge___init__) lTooLarge___init__ cTooLarge___init__ kTooLarge___init__
    b_TooLarge___init__ := (fun_mk (st := s_TooLarge___init__) lTooLarge___init__ cTooLarge___init__ kTooLarge___init__).binds (ps := ["self", "limit"]) fun _ _ _ _ _ _ us hl => match us, hl with | [_, _], _ => rfl
    g_lowest := PySem.W.mg_of X G alowest
    f_lowest := f_lowest
    fd_lowest := _
    F_lowest := fun_mk (st := s_lowest) llowest clowest klowest
    b_lowest := (fun_mk (st := s_lowest) llowest clowest klowest).binds (ps := ["p", "q"]) fun _ _ _ _ _ _ us hl => match us, hl with | [_, _], _ => rfl
    g_plus := PySem.W.mg_of X G aplus
    f_plus := f_plus
    fd_plus := _
    F_plus := fun_mk (st := s_plus) lplus cplus kplus
    b_plus := (fun_mk (st := s_plus) lplus cplus kplus).binds (ps := ["a", "b"]) fun _ _ _ _ _ _ us hl => match us, hl with | [_, _], _ => rfl
    g_times := PySem.W.mg_of X G atimes
    f_times := f_times
    fd_times := _
    F_times := fun_mk (st := s_times) ltimes ctimes ktimes
    b_times := (fun_mk (st := s_times) ltimes ctimes ktimes).binds (ps := ["a", "b"]) fun _ _ _ _ _ _ us hl => match us, hl with | [_, _], _ => rfl
    g_less := PySem.W.mg_of X G aless
    f_less := f_less
    fd_less := _
    F_less := fun_mk (st := s_less) lless cless kless
    b_less := (fun_mk (st := s_less) lless cless kless).binds (ps := ["a", "b"]) fun _ _ _ _ _ _ us hl => match us, hl with | [_, _], _ => rfl
    g_sum_of := PySem.W.mg_of X G asum_of
    f_sum_of := f_sum_of
    fd_sum_of := _
    F_sum_of := fun_mk (st := s_sum_of) lsum_of csum_of ksum_of
    b_sum_of := (fun_mk (st := s_sum_of) lsum_of csum_of ksum_of).binds (ps := ["fractions"]) fun _ _ _ _ _ _ us hl => match us, hl with | [_], _ => rfl
    g_are_chances := PySem.W.mg_of X G aare_chances
    f_are_chances := f_are_chances
    fd_are_chances := _
    F_are_chances := fun_mk (st := s_are_chances) lare_chances care_chances kare_chances
    b_are_chances := (fun_mk (st := s_are_chances) lare_chances care_chances kare_chances).binds (ps := ["fractions"]) fun _ _ _ _ _ _ us hl => match us, hl with | [_], _ => rfl
    g_law_from := PySem.W.mg_of X G alaw_from
    f_law_from := f_law_from
    fd_law_from := _
    F_law_from := fun_mk (st := s_law_from) llaw_from claw_from klaw_from
    b_law_from := (fun_mk (st := s_law_from) llaw_from claw_from klaw_from).binds (ps := ["rows"]) fun _ _ _ _ _ _ us hl => match us, hl with | [_], _ => rfl
    mk_Explorer := ⟨mkExplorer, aExplorer___init__, iExplorer___init__, kcExplorer⟩
    f_Explorer___init__ := f_Explorer___init__
    fd_Explorer___init__ := _
    F_Explorer___init__ := fun_mk (st := s_Explorer___init__) lExplorer___init__ cExplorer___init__ kExplorer___init__
    b_Explorer___init__ := (fun_mk (st := s_Explorer___init__) lExplorer___init__ cExplorer___init__ kExplorer___init__).binds (ps := ["self"]) fun _ _ _ _ _ _ us hl => match us, hl with | [_], _ => rfl
    M_Explorer_advance := ⟨aExplorer_advance, iExplorer_advance, kExplorer_advance⟩
    f_Explorer_advance := f_Explorer_advance
    fd_Explorer_advance := _
    F_Explorer_advance := fun_mk (st := s_Explorer_advance) lExplorer_advance cExplorer_advance kExplorer_advance
    b_Explorer_advance := (fun_mk (st := s_Explorer_advance) lExplorer_advance cExplorer_advance kExplorer_advance).binds (ps := ["self"]) fun _ _ _ _ _ _ us hl => match us, hl with | [_], _ => rfl
    M_Explorer_begin := ⟨aExplorer_begin, iExplorer_begin, kExplorer_begin⟩
    f_Explorer_begin := f_Explorer_begin
    fd_Explorer_begin := _
    F_Explorer_begin := fun_mk (st := s_Explorer_begin) lExplorer_begin cExplorer_begin kExplorer_begin
    b_Explorer_begin := (fun_mk (st := s_Explorer_begin) lExplorer_begin cExplorer_begin kExplorer_begin).binds (ps := ["self"]) fun _ _ _ _ _ _ us hl => match us, hl with | [_], _ => rfl
    M_Explorer_pick := ⟨aExplorer_pick, iExplorer_pick, kExplorer_pick⟩
    f_Explorer_pick := f_Explorer_pick
    fd_Explorer_pick := _
    F_Explorer_pick := fun_mk (st := s_Explorer_pick) lExplorer_pick cExplorer_pick kExplorer_pick
    b_Explorer_pick := (fun_mk (st := s_Explorer_pick) lExplorer_pick cExplorer_pick kExplorer_pick).binds (ps := ["self", "weights"]) fun _ _ _ _ _ _ us hl => match us, hl with | [_, _], _ => rfl
    M_Explorer_end := ⟨aExplorer_end, iExplorer_end, kExplorer_end⟩
    f_Explorer_end := f_Explorer_end
    fd_Explorer_end := _
    F_Explorer_end := fun_mk (st := s_Explorer_end) lExplorer_end cExplorer_end kExplorer_end
    b_Explorer_end := (fun_mk (st := s_Explorer_end) lExplorer_end cExplorer_end kExplorer_end).binds (ps := ["self", "outcome"]) fun _ _ _ _ _ _ us hl => match us, hl with | [_, _], _ => rfl
    M_Explorer_runs := ⟨aExplorer_runs, iExplorer_runs, kExplorer_runs⟩
    f_Explorer_runs := f_Explorer_runs
    fd_Explorer_runs := _
    F_Explorer_runs := fun_mk (st := s_Explorer_runs) lExplorer_runs cExplorer_runs kExplorer_runs
    b_Explorer_runs := (fun_mk (st := s_Explorer_runs) lExplorer_runs cExplorer_runs kExplorer_runs).binds (ps := ["self"]) fun _ _ _ _ _ _ us hl => match us, hl with | [_], _ => rfl
    M_Explorer_gathered := ⟨aExplorer_gathered, iExplorer_gathered, kExplorer_gathered⟩
    f_Explorer_gathered := f_Explorer_gathered
    fd_Explorer_gathered := _
    F_Explorer_gathered := fun_mk (st := s_Explorer_gathered) lExplorer_gathered cExplorer_gathered kExplorer_gathered
    b_Explorer_gathered := (fun_mk (st := s_Explorer_gathered) lExplorer_gathered cExplorer_gathered kExplorer_gathered).binds (ps := ["self"]) fun _ _ _ _ _ _ us hl => match us, hl with | [_], _ => rfl
    g__law_deck := PySem.W.mg_of X G a_law_deck
    f__law_deck := f__law_deck
    fd__law_deck := _
    F__law_deck := fun_mk (st := s__law_deck) l_law_deck c_law_deck k_law_deck
    b__law_deck := (fun_mk (st := s__law_deck) l_law_deck c_law_deck k_law_deck).binds (ps := ["_law_script"]) fun _ _ _ _ _ _ us hl => match us, hl with | [_], _ => rfl
    g__law_draw := PySem.W.mg_of X G a_law_draw
    f__law_draw := f__law_draw
    fd__law_draw := _
    F__law_draw := fun_mk (st := s__law_draw) l_law_draw c_law_draw k_law_draw
    b__law_draw := (fun_mk (st := s__law_draw) l_law_draw c_law_draw k_law_draw).binds (ps := ["_law_deck_here", "_law_most"]) fun _ _ _ _ _ _ us hl => match us, hl with | [_, _], _ => rfl
    g__law_low := PySem.W.mg_of X G a_law_low
    f__law_low := f__law_low
    fd__law_low := _
    F__law_low := fun_mk (st := s__law_low) l_law_low c_law_low k_law_low
    b__law_low := (fun_mk (st := s__law_low) l_law_low c_law_low k_law_low).binds (ps := ["_law_p", "_law_q"]) fun _ _ _ _ _ _ us hl => match us, hl with | [_, _], _ => rfl
    g__law_limit := PySem.W.mg_of X G a_law_limit
    f__law_limit := f__law_limit
    fd__law_limit := _
    F__law_limit := fun_mk (st := s__law_limit) l_law_limit c_law_limit k_law_limit
    b__law_limit := (fun_mk (st := s__law_limit) l_law_limit c_law_limit k_law_limit).binds (ps := ["_law_explorer"]) fun _ _ _ _ _ _ us hl => match us, hl with | [_], _ => rfl
    g_law := PySem.W.mg_of X G alaw
    f_law := fa
    fd_law := _
    F_law := fun_mk (st := s_law) llaw claw klaw
    b_law := (fun_mk (st := s_law) llaw claw klaw).binds (ps := ["_law_script"]) fun _ _ _ _ _ _ us hl => match us, hl with | [_], _ => rfl
    t_MOST_RUNS := t_MOST_RUNS
    g_MOST_RUNS := PySem.W.mg_of X G hMOST_RUNS
    a_NOTHING := a_NOTHING
    g_NOTHING := PySem.W.mg_of X G hNOTHING
    v_NOTHING := fun H => sqT_of_k lNOTHING (.cons ⟨_, rfl⟩ (.cons ⟨_, rfl⟩ .nil))
    a_ONE := a_ONE
    g_ONE := PySem.W.mg_of X G hONE
    v_ONE := fun H => sqT_of_k lONE (.cons ⟨_, rfl⟩ (.cons ⟨_, rfl⟩ .nil))
    z_abs := PySem.W.mg_none_of X G zabs
    z_any := PySem.W.mg_none_of X G zany
    z_int := PySem.W.mg_none_of X G zint
    z_len := PySem.W.mg_none_of X G zlen
    z_list := PySem.W.mg_none_of X G zlist
    z_min := PySem.W.mg_none_of X G zmin
    z_range := PySem.W.mg_none_of X G zrange
    z_sorted := PySem.W.mg_none_of X G zsorted
    z_sum := PySem.W.mg_none_of X G zsum
    g_gcd := PySem.W.mg_of X G hgcd }
  exact ⟨T.fd_law, fun s v => .of_eq rfl, fun base _ _ => ok_law T⟩
end Sam
open PySem PySem.W PyProof.Rows
set_option maxHeartbeats 0 in
theorem PySem.Challenge.cw_samphire_k14_most_runs_holds : PySem.Challenge.rw_samphire_k14_most_runs.Holds := by
  w_on; o_law; k_head; (case hw => w_witness2)
  k_fill
  refine L2.walk_of (l := PySem.Challenge.rw_samphire_k14_most_runs) (n := 63) (k := 7) (x := "_law_script") (CX := fun _ => L2.CX0) (sp := fun w => Sam.sp_law _) rfl (by decide) rfl ⟨rfl, by decide, by decide⟩ (fun w h Y => PySem.W.kIn_of Y) ?F (fun _ _ a ns hl _ hS => ⟨a, ns, rfl, hS, hl, fun _ => rfl⟩) (fun _ _ _ _ _ h => h)
  case F =>
    intro w mg fa h KX G hmg
    refine' Sam.all_mk KX G hmg ?hExplorer ?pgExplorer ?hdExplorer ?poExplorer ?saExplorer ?mkExplorer ?kcExplorer ?nExplorer_path ?nExplorer_at ?nExplorer_chance ?nExplorer_is_open ?nExplorer_is_over ?nExplorer_many ?nExplorer_rows ?hSamphireError ?kpSamphireError ?sbSamphireError ?tySamphireError ?hdSamphireError ?suSamphireError ?hTooLarge ?kpTooLarge ?sbTooLarge ?tyTooLarge ?hdTooLarge ?suTooLarge ?xLTooLarge ?xsTooLarge ?egTooLarge ?ekTooLarge ?noTooLargelimit ?hNotEnded ?kpNotEnded ?sbNotEnded ?tyNotEnded ?hdNotEnded ?suNotEnded ?xNotEnded ?aTooLarge___init__ ?tcTooLarge ?lTooLarge___init__ ?cTooLarge___init__ ?kTooLarge___init__ ?alowest ?llowest ?clowest ?klowest ?aplus ?lplus ?cplus ?kplus ?atimes ?ltimes ?ctimes ?ktimes ?aless ?lless ?cless ?kless ?asum_of ?lsum_of ?csum_of ?ksum_of ?aare_chances ?lare_chances ?care_chances ?kare_chances ?alaw_from ?llaw_from ?claw_from ?klaw_from ?aExplorer___init__ ?iExplorer___init__ ?lExplorer___init__ ?cExplorer___init__ ?kExplorer___init__ ?aExplorer_advance ?iExplorer_advance ?lExplorer_advance ?cExplorer_advance ?kExplorer_advance ?aExplorer_begin ?iExplorer_begin ?lExplorer_begin ?cExplorer_begin ?kExplorer_begin ?aExplorer_pick ?iExplorer_pick ?lExplorer_pick ?cExplorer_pick ?kExplorer_pick ?aExplorer_end ?iExplorer_end ?lExplorer_end ?cExplorer_end ?kExplorer_end ?aExplorer_runs ?iExplorer_runs ?lExplorer_runs ?cExplorer_runs ?kExplorer_runs ?aExplorer_gathered ?iExplorer_gathered ?lExplorer_gathered ?cExplorer_gathered ?kExplorer_gathered ?a_law_deck ?l_law_deck ?c_law_deck ?k_law_deck ?a_law_draw ?l_law_draw ?c_law_draw ?k_law_draw ?a_law_low ?l_law_low ?c_law_low ?k_law_low ?a_law_limit ?l_law_limit ?c_law_limit ?k_law_limit ?alaw ?llaw ?claw ?klaw ?hMOST_RUNS ?hNOTHING ?lNOTHING ?hONE ?lONE ?zabs ?zany ?zint ?zlen ?zlist ?zmin ?zrange ?zsorted ?zsum ?hgcd
    (case hExplorer => k_is)
    (case pgExplorer => k_is)
    (case hdExplorer => k_is)
    (case poExplorer => k_is)
    (case saExplorer => k_is)
    (case mkExplorer => k_is)
    (case kcExplorer => k_is)
    (case nExplorer_path => k_is)
    (case nExplorer_at => k_is)
    (case nExplorer_chance => k_is)
    (case nExplorer_is_open => k_is)
    (case nExplorer_is_over => k_is)
    (case nExplorer_many => k_is)
    (case nExplorer_rows => k_is)
    (case hSamphireError => k_is)
    (case kpSamphireError => k_is)
    (case sbSamphireError => k_is)
    (case tySamphireError => k_is)
    (case hdSamphireError => k_is)
    (case suSamphireError => first | rfl | k_is)
    (case hTooLarge => k_is)
    (case kpTooLarge => k_is)
    (case sbTooLarge => k_is)
    (case tyTooLarge => k_is)
    (case hdTooLarge => k_is)
    (case suTooLarge => first | rfl | k_is)
    (case xLTooLarge => k_is)
    (case xsTooLarge => k_is)
    (case egTooLarge => k_is)
    (case ekTooLarge => k_is)
    (case noTooLargelimit => k_is)
    (case hNotEnded => k_is)
    (case kpNotEnded => k_is)
    (case sbNotEnded => k_is)
    (case tyNotEnded => k_is)
    (case hdNotEnded => k_is)
    (case suNotEnded => first | rfl | k_is)
    (case xNotEnded => k_exc)
    (case aTooLarge___init__ => k_is)
    (case tcTooLarge => k_is)
    (case lTooLarge___init__ => k_is)
    (case cTooLarge___init__ => k_is)
    (case kTooLarge___init__ => k_is)
    (case alowest => k_is)
    (case llowest => k_is)
    (case clowest => k_is)
    (case klowest => k_is)
    (case aplus => k_is)
    (case lplus => k_is)
    (case cplus => k_is)
    (case kplus => k_is)
    (case atimes => k_is)
    (case ltimes => k_is)
    (case ctimes => k_is)
    (case ktimes => k_is)
    (case aless => k_is)
    (case lless => k_is)
    (case cless => k_is)
    (case kless => k_is)
    (case asum_of => k_is)
    (case lsum_of => k_is)
    (case csum_of => k_is)
    (case ksum_of => k_is)
    (case aare_chances => k_is)
    (case lare_chances => k_is)
    (case care_chances => k_is)
    (case kare_chances => k_is)
    (case alaw_from => k_is)
    (case llaw_from => k_is)
    (case claw_from => k_is)
    (case klaw_from => k_is)
    (case aExplorer___init__ => k_is)
    (case iExplorer___init__ => k_is)
    (case lExplorer___init__ => k_is)
    (case cExplorer___init__ => k_is)
    (case kExplorer___init__ => k_is)
    (case aExplorer_advance => k_is)
    (case iExplorer_advance => k_is)
    (case lExplorer_advance => k_is)
    (case cExplorer_advance => k_is)
    (case kExplorer_advance => k_is)
    (case aExplorer_begin => k_is)
    (case iExplorer_begin => k_is)
    (case lExplorer_begin => k_is)
    (case cExplorer_begin => k_is)
    (case kExplorer_begin => k_is)
    (case aExplorer_pick => k_is)
    (case iExplorer_pick => k_is)
    (case lExplorer_pick => k_is)
    (case cExplorer_pick => k_is)
    (case kExplorer_pick => k_is)
    (case aExplorer_end => k_is)
    (case iExplorer_end => k_is)
    (case lExplorer_end => k_is)
    (case cExplorer_end => k_is)
    (case kExplorer_end => k_is)
    (case aExplorer_runs => k_is)
    (case iExplorer_runs => k_is)
    (case lExplorer_runs => k_is)
    (case cExplorer_runs => k_is)
    (case kExplorer_runs => k_is)
    (case aExplorer_gathered => k_is)
    (case iExplorer_gathered => k_is)
    (case lExplorer_gathered => k_is)
    (case cExplorer_gathered => k_is)
    (case kExplorer_gathered => k_is)
    (case a_law_deck => k_is)
    (case l_law_deck => k_is)
    (case c_law_deck => k_is)
    (case k_law_deck => k_is)
    (case a_law_draw => k_is)
    (case l_law_draw => k_is)
    (case c_law_draw => k_is)
    (case k_law_draw => k_is)
    (case a_law_low => k_is)
    (case l_law_low => k_is)
    (case c_law_low => k_is)
    (case k_law_low => k_is)
    (case a_law_limit => k_is)
    (case l_law_limit => k_is)
    (case c_law_limit => k_is)
    (case k_law_limit => k_is)
    (case alaw => k_is)
    (case llaw => k_is)
    (case claw => k_is)
    (case klaw => k_is)
    (case hMOST_RUNS => k_is)
    (case hNOTHING => k_is)
    (case lNOTHING => k_is)
    (case hONE => k_is)
    (case lONE => k_is)
    (case zabs => k_is)
    (case zany => k_is)
    (case zint => k_is)
    (case zlen => k_is)
    (case zlist => k_is)
    (case zmin => k_is)
    (case zrange => k_is)
    (case zsorted => k_is)
    (case zsum => k_is)
    (case hgcd => k_is)
