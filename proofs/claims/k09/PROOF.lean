import PyProof.Rows.All
import Wide.All
import OpenK.AllK
import Wide.FinOn
import HandS.ForMost
import HandS.Walk
import HandS.Wide
import HandS.IsInst
import HandS.Codes
import PySem.Challenge.RW_samphire_k09_picks_of_tapes_and_mixers
set_option Elab.async false
set_option linter.all false
set_option maxRecDepth 100000
namespace Sam
open PySem PySem.Spec PyProof.Rows L2
open C8 (pss_cut tCut)
def topS (i : Nat) : Stmt := PySem.Challenge.pw_samphire_k09_picks_of_tapes_and_mixers.main.body.getD i (.Pass ⟨0, 0, 0, 0⟩)
abbrev s_number_at : Stmt := (topS 3)
abbrev nm_number_at : List Str := ["weights", "place", "total", "number", "weight"]
theorem sc_number_at : FnScope ["weights", "place", "total", "number", "weight"] ["weights", "place"] (defScope s_number_at) := ⟨rfl, rfl, rfl, by decide +kernel, rfl, by decide +kernel, by decide +kernel⟩
abbrev s_Tape___init__ : Stmt := (inClass (topS 4) 0)
abbrev nm_Tape___init__ : List Str := ["self", "numbers"]
theorem sc_Tape___init__ : FnScope ["self", "numbers"] ["self", "numbers"] (defScope s_Tape___init__) := ⟨rfl, rfl, rfl, by decide +kernel, rfl, by decide +kernel, by decide +kernel⟩
abbrev s_Tape_pick : Stmt := (inClass (topS 4) 1)
abbrev nm_Tape_pick : List Str := ["self", "weights", "number"]
theorem sc_Tape_pick : FnScope ["self", "weights", "number"] ["self", "weights"] (defScope s_Tape_pick) := ⟨rfl, rfl, rfl, by decide +kernel, rfl, by decide +kernel, by decide +kernel⟩
abbrev s_Tape_used : Stmt := (inClass (topS 4) 2)
abbrev nm_Tape_used : List Str := ["self"]
theorem sc_Tape_used : FnScope ["self"] ["self"] (defScope s_Tape_used) := ⟨rfl, rfl, rfl, by decide +kernel, rfl, by decide +kernel, by decide +kernel⟩
abbrev s_Mixer___init__ : Stmt := (inClass (topS 5) 0)
abbrev nm_Mixer___init__ : List Str := ["self", "seed"]
theorem sc_Mixer___init__ : FnScope ["self", "seed"] ["self", "seed"] (defScope s_Mixer___init__) := ⟨rfl, rfl, rfl, by decide +kernel, rfl, by decide +kernel, by decide +kernel⟩
abbrev s_Mixer_step : Stmt := (inClass (topS 5) 1)
abbrev nm_Mixer_step : List Str := ["self"]
theorem sc_Mixer_step : FnScope ["self"] ["self"] (defScope s_Mixer_step) := ⟨rfl, rfl, rfl, by decide +kernel, rfl, by decide +kernel, by decide +kernel⟩
abbrev s_Mixer_pick : Stmt := (inClass (topS 5) 2)
abbrev nm_Mixer_pick : List Str := ["self", "weights", "high", "number"]
theorem sc_Mixer_pick : FnScope ["self", "weights", "high", "number"] ["self", "weights"] (defScope s_Mixer_pick) := ⟨rfl, rfl, rfl, by decide +kernel, rfl, by decide +kernel, by decide +kernel⟩
abbrev s__law_deck : Stmt := (topS 7)
abbrev nm__law_deck : List Str := ["_law_script"]
theorem sc__law_deck : FnScope ["_law_script"] ["_law_script"] (defScope s__law_deck) := ⟨rfl, rfl, rfl, by decide +kernel, rfl, by decide +kernel, by decide +kernel⟩
abbrev s__law_draw : Stmt := (topS 8)
abbrev nm__law_draw : List Str := ["_law_deck_here", "_law_most", "_law_value", "_law_cell"]
theorem sc__law_draw : FnScope ["_law_deck_here", "_law_most", "_law_value", "_law_cell"] ["_law_deck_here", "_law_most"] (defScope s__law_draw) := ⟨rfl, rfl, rfl, by decide +kernel, rfl, by decide +kernel, by decide +kernel⟩
abbrev s__law_weights : Stmt := (topS 9)
abbrev nm__law_weights : List Str := ["_law_deck_here", "_law_most", "_law_weights_here", "_law_k"]
theorem sc__law_weights : FnScope ["_law_deck_here", "_law_most", "_law_weights_here", "_law_k"] ["_law_deck_here", "_law_most"] (defScope s__law_weights) := ⟨rfl, rfl, rfl, by decide +kernel, rfl, by decide +kernel, by decide +kernel⟩
abbrev s__law_at : Stmt := (topS 10)
abbrev nm__law_at : List Str := ["_law_weights_here", "_law_place", "_law_total", "_law_k"]
theorem sc__law_at : FnScope ["_law_weights_here", "_law_place", "_law_total", "_law_k"] ["_law_weights_here", "_law_place"] (defScope s__law_at) := ⟨rfl, rfl, rfl, by decide +kernel, rfl, by decide +kernel, by decide +kernel⟩
abbrev s__law_large : Stmt := (topS 11)
abbrev nm__law_large : List Str := ["_law_deck_here", "_law_kind", "_law_number"]
theorem sc__law_large : FnScope ["_law_deck_here", "_law_kind", "_law_number"] ["_law_deck_here"] (defScope s__law_large) := ⟨rfl, rfl, rfl, by decide +kernel, rfl, by decide +kernel, by decide +kernel⟩
abbrev s__law_tape : Stmt := (topS 12)
abbrev nm__law_tape : List Str := ["_law_deck_here", "_law_numbers", "_law_given", "_law_tape_here", "_law_k", "_law_weights_here", "_law_kept", "_law_number"]
theorem sc__law_tape : FnScope ["_law_deck_here", "_law_numbers", "_law_given", "_law_tape_here", "_law_k", "_law_weights_here", "_law_kept", "_law_number"] ["_law_deck_here"] (defScope s__law_tape) := ⟨rfl, rfl, rfl, by decide +kernel, rfl, by decide +kernel, by decide +kernel⟩
abbrev s__law_mixer : Stmt := (topS 13)
abbrev nm__law_mixer : List Str := ["_law_deck_here", "_law_seeds", "_law_first", "_law_mixer_here", "_law_state", "_law_other", "_law_k", "_law_weights_here", "_law_high", "_law_row"]
theorem sc__law_mixer : FnScope ["_law_deck_here", "_law_seeds", "_law_first", "_law_mixer_here", "_law_state", "_law_other", "_law_k", "_law_weights_here", "_law_high", "_law_row"] ["_law_deck_here"] (defScope s__law_mixer) := ⟨rfl, rfl, rfl, by decide +kernel, rfl, by decide +kernel, by decide +kernel⟩
abbrev s_law : Stmt := (topS 14)
abbrev nm_law : List Str := ["_law_script", "_law_deck_here", "_law_weights_here", "_law_place", "_law_told"]
theorem sc_law : FnScope ["_law_script", "_law_deck_here", "_law_weights_here", "_law_place", "_law_told"] ["_law_script"] (defScope s_law) := ⟨rfl, rfl, rfl, by decide +kernel, rfl, by decide +kernel, by decide +kernel⟩
/-! ### own layer: what stays, new objects, steps -/
/-- all that was tracked outside F is as it was -/
def Ex (F : List Addr) (H H' : Hp) : Prop := ∀ b o, b ∉ F → H b = some o → H' b = some o
theorem Ex.refl {F : List Addr} (H : Hp) : Ex F H H := fun _ _ _ h => h
theorem Ex.trans {F : List Addr} {H H1 H2 : Hp} (a : Ex F H H1) (b : Ex F H1 H2) : Ex F H H2 := fun c o n h => b c o n (a c o n h)
theorem Ex.of {F : List Addr} {H H1 : Hp} (a : Same H H1) : Ex F H H1 := fun c o _ h => a c o h
theorem Ex.mono {F G : List Addr} {H H1 : Hp} (a : Ex F H H1) (h : ∀ b, b ∈ F → b ∈ G) : Ex G H H1 := fun c o n e => a c o (fun z => n (h c z)) e
theorem Ex.rd {F : List Addr} {H H' : Hp} {a : Addr} {u : HO} (e : Ex F H H') (n : a ∉ F) (h : Rd H a u) : Rd H' a u := by
  rcases h with h | ⟨o, h⟩
  · exact .inl (e _ _ n h)
  · exact .inr ⟨o, e _ _ n h⟩
theorem Ex.seq {K : PySem.W.Frag} {F : List Addr} {H H' : Hp} {a : Addr} {xs : List V} (e : Ex F H H') (n : a ∉ F) (h : SqL K H a xs) : SqL K H' a xs := by
  rcases h with h | h
  · exact .inl (e.rd n h)
  · exact .inr h
theorem Ex.tup {K : PySem.W.Frag} {F : List Addr} {H H' : Hp} {a : Addr} {xs : List V} (e : Ex F H H') (n : a ∉ F) (h : SqT K H a xs) : SqT K H' a xs := by
  rcases h with h | h
  · exact .inl (e.rd n h)
  · exact .inr h
theorem same_upd {H : Hp} {p : Addr} {o : HO} (h : H p = none) : Same H (upd H p o) := fun b x e => by
  rw [upd_ne (ne_of_none e h)]
  exact e
/-- an object that H does not know is changed -/
theorem Same.mut {H H' : Hp} {p : Addr} {o : HO} (e : Same H H') (h : H p = none) : Same H (upd H' p o) := fun a u ha => by
  rw [upd_ne (ne_of_none ha h)]
  exact e a u ha
theorem Ex.mut {F : List Addr} {H H' : Hp} {p : Addr} {o : HO} (e : Ex F H H') (h : H p = none ∨ p ∈ F) : Ex F H (upd H' p o) := fun a u n ha => by
  have hne : a ≠ p := by
    rcases h with h | h
    · exact ne_of_none ha h
    · exact fun z => n (z ▸ h)
  rw [upd_ne hne]
  exact e a u n ha
theorem Same.tupq {K : PySem.W.Frag} {H H' : Hp} {a : Addr} {xs : List V} (e : Same H H') (h : SqT K H a xs) : SqT K H' a xs := by
  rcases h with (h | ⟨o, h⟩) | h
  · exact .inl (.inl (e _ _ h))
  · exact .inl (.inr ⟨o, e _ _ h⟩)
  · exact .inr h
/-- a new object, met by what is known of the heap -/
theorem w_new {H : Hp} {o : HO} {Q : V → Hp → Prop} (h : ∀ p H', H p = none → Same H H' → H' p = some o → Q (.ref p) H') : ∀ p, H p = none → Q (.ref p) (upd H p o) := fun p hp => h p _ hp (same_upd hp) upd_same
section
variable {K : PySem.W.Frag} {H : Hp} {Q : VK}
theorem w_ixL {p : Addr} {xs : List V} {i : Int} {v : V} (h : SqL K H p xs) (e : atI xs i = some v) (q : Q v H) : rIxL K (.ref p) (.int i) H Q := ⟨p, xs, i, v, rfl, rfl, h, e, q⟩
theorem w_ixT {p : Addr} {xs : List V} {i : Int} {v : V} (h : SqT K H p xs) (e : atI xs i = some v) (q : Q v H) : rIxT K (.ref p) (.int i) H Q := ⟨p, xs, i, v, rfl, rfl, h, e, q⟩
end
theorem bl_inj {a b : Bool} (h : V.bl a = V.bl b) : a = b := V.bl.inj h
theorem ite_dec {c : Prop} [Decidable c] {A B : Prop} (h1 : c → A) (h2 : ¬ c → B) : if decide c = true then A else B := by
  by_cases h : c
  · rw [if_pos (decide_eq_true h)]; exact h1 h
  · rw [if_neg (by rw [decide_eq_false h]; exact Bool.false_ne_true)]; exact h2 h
theorem atI_int {xs : List V} {i : Int} {v : V} (h0 : 0 ≤ i) (h : xs[i.toNat]? = some v) : atI xs i = some v := by
  have e := atI_nat h
  rw [Int.toNat_of_nonneg h0] at e
  exact e
theorem map_get {ns : List Int} {i : Nat} {v : V} (h : (ns.map V.int)[i]? = some v) : ∃ z, v = .int z ∧ ns[i]? = some z := by
  rw [List.getElem?_map] at h
  cases e : ns[i]? with
  | none => rw [e] at h; cases h
  | some z => rw [e] at h; exact ⟨z, (Option.some.inj h).symm, rfl⟩
theorem get_map {ns : List Int} {i : Nat} {z : Int} (h : ns[i]? = some z) : (ns.map V.int)[i]? = some (.int z) := by
  rw [List.getElem?_map, h]
  rfl
theorem nin {p L : Addr} (h : p ≠ L) : p ∉ [L] := fun z => h (List.mem_singleton.mp z)
/-- a change at x alone, which H did not know -/
theorem Ex.new1 {F : List Addr} {H H1 H2 : Hp} {x : Addr} (a : Ex F H H1) (b : Ex [x] H1 H2) (h : H x = none) : Ex F H H2 := fun c o n e => b c o (nin (ne_of_none e h)) (a c o n e)
theorem Ex.free {F : List Addr} {H H' : Hp} {l : Addr} (e : Ex F H H') (n : l ∉ F) (h : H' l = none) : H l = none := by
  cases q : H l with
  | none => rfl
  | some o =>
    rw [e l o n q] at h
    cases h
theorem Ex.at {F : List Addr} {H H' : Hp} {l : Addr} {o : HO} (e : Ex F H H') (n : l ∉ F) (h : H l = some o) : H' l = some o := e l o n h
theorem ixN_int {n : Nat} {k : Int} (h0 : 0 ≤ k) (h1 : k < n) : ixN n k = some k.toNat := by
  unfold ixN
  rw [if_pos h0, if_pos h1]
theorem sum_set : ∀ (l : List Int) (j : Nat) (x v : Int), l[j]? = some x → (l.set j v).sum = l.sum - x + v
  | [], _, _, _, h => by simp at h
  | y :: l, 0, x, v, h => by
    have e : y = x := by simpa using h
    subst e
    simp
    omega
  | y :: l, j + 1, x, v, h => by
    have ih := sum_set l j x v (by simpa using h)
    simp only [List.set_cons_succ, List.sum_cons, ih]
    omega
theorem mem_le_sum : ∀ (l : List Int), (∀ x ∈ l, 0 ≤ x) → ∀ x ∈ l, x ≤ l.sum
  | [], _, x, hx => by simp at hx
  | y :: l, h, x, hx => by
    have h0 : 0 ≤ y := h y List.mem_cons_self
    have hl : ∀ x ∈ l, 0 ≤ x := fun z hz => h z (List.mem_cons_of_mem _ hz)
    have hs : 0 ≤ l.sum := sum_nn l hl
    rcases List.mem_cons.mp hx with e | e
    · subst e; rw [List.sum_cons]; omega
    · have := mem_le_sum l hl x e
      rw [List.sum_cons]; omega
where
  sum_nn : ∀ (l : List Int), (∀ x ∈ l, 0 ≤ x) → 0 ≤ l.sum
    | [], _ => by simp
    | y :: l, h => by
      have h0 : 0 ≤ y := h y List.mem_cons_self
      have := sum_nn l (fun z hz => h z (List.mem_cons_of_mem _ hz))
      rw [List.sum_cons]; omega
theorem sum_le_of : ∀ (l : List Int) (b : Int), (∀ x ∈ l, x ≤ b) → l.sum ≤ b * l.length
  | [], _, _ => by simp
  | y :: l, b, h => by
    have h0 : y ≤ b := h y List.mem_cons_self
    have := sum_le_of l b (fun z hz => h z (List.mem_cons_of_mem _ hz))
    rw [List.sum_cons, List.length_cons]
    have e : b * ((l.length + 1 : Nat) : Int) = b * l.length + b := by
      rw [Int.natCast_add, Int.mul_add]; simp
    omega
theorem w_yes {σ : L2.St} {H : Hp} {A B : Hp → Prop} (h : A H) : tYes σ H (fun b H3 => if b = true then A H3 else B H3) := by
  show (if true = true then A H else B H)
  rw [if_pos rfl]
  exact h
theorem lk_eq {f : Str} {v : V} {fs : List (Str × V)} : ((f, v) :: fs).lookup f = some v := by simp [List.lookup]
theorem lk_ne {f g : Str} {v : V} {fs : List (Str × V)} (h : (f == g) = false) : ((g, v) :: fs).lookup f = fs.lookup f := by simp [List.lookup, h]
theorem putF_eq {f : Str} {u v : V} {fs : List (Str × V)} : putF f v ((f, u) :: fs) = (f, v) :: fs := by simp [putF]
theorem putF_ne {f g : Str} {u v : V} {fs : List (Str × V)} (h : ¬ g = f) : putF f v ((g, u) :: fs) = (g, u) :: putF f v fs := by simp [putF, h]
theorem putF_nil {f : Str} {v : V} : putF f v [] = [(f, v)] := rfl
/-- a list stays where a thing of another kind at x changes -/
theorem _root_.L2.SqL.stay {K : PySem.W.Frag} {H H' : Hp} {a x : Addr} {xs : List V} {o : HO} (h : SqL K H a xs) (hx : H x = some o) (ho : ∀ ys, o ≠ .lst ys) (ho2 : ∀ b u, o ≠ .frz b u) (e : Ex [x] H H') : SqL K H' a xs := by
  rcases h with (h | ⟨u, h⟩) | h
  · exact .inl (.inl (e _ _ (nin fun z => ho _ (Option.some.inj ((z ▸ hx).symm.trans h))) h))
  · exact .inl (.inr ⟨u, e _ _ (nin fun z => ho2 _ _ (Option.some.inj ((z ▸ hx).symm.trans h))) h⟩)
  · exact .inr h

/-! ### data: lists of ints, comparisons -/
theorem shaped_mk {d : PyData} (h1 : d.canLay0 = true) (h2 : d.depth ≤ 64) : SeqAt.shaped d = true := by
  unfold SeqAt.shaped
  rw [h1, decide_eq_true h2]
  rfl
theorem lay_ints : ∀ ns : List Int, PyData.canLayAll0 (ns.map PyData.int) = true
  | [] => rfl
  | _ :: r => by
    show (true && PyData.canLayAll0 (r.map PyData.int)) = true
    rw [lay_ints r]
    rfl
theorem depth_ints : ∀ ns : List Int, PyData.depthAll (ns.map PyData.int) = 0
  | [] => rfl
  | _ :: r => by
    show max 0 (PyData.depthAll (r.map PyData.int)) = 0
    rw [depth_ints r]
    rfl
theorem shaped_ints (ns : List Int) : SeqAt.shaped (.list (ns.map .int)) = true := shaped_mk (lay_ints ns) (by
  show PyData.depthAll (ns.map PyData.int) + 1 ≤ 64
  rw [depth_ints]
  decide)
theorem shaped_intsT (ns : List Int) : SeqAt.shaped (.tuple (ns.map .int)) = true := shaped_mk (lay_ints ns) (by
  show PyData.depthAll (ns.map PyData.int) + 1 ≤ 64
  rw [depth_ints]
  decide)
theorem eqvAll_ints : ∀ ns ms : List Int, PyData.eqvAll (ns.map .int) (ms.map .int) = decide (ns = ms)
  | [], [] => rfl
  | [], _ :: _ => rfl
  | _ :: _, [] => rfl
  | x :: r, y :: t => by
    show (PyData.eqv (.int x) (.int y) && PyData.eqvAll (r.map PyData.int) (t.map PyData.int)) = _
    rw [eqvAll_ints r t]
    show ((x == y) && decide (r = t)) = decide (x :: r = y :: t)
    by_cases h1 : x = y
    · by_cases h2 : r = t
      · subst h1 h2; simp
      · subst h1; simp [h2]
    · simp [h1]
theorem eqv_ints (ns ms : List Int) : PyData.eqv (.list (ns.map .int)) (.list (ms.map .int)) = decide (ns = ms) := by
  rw [PyData.eqv]
  exact eqvAll_ints ns ms
theorem eqv_intsT (ns ms : List Int) : PyData.eqv (.tuple (ns.map .int)) (.tuple (ms.map .int)) = decide (ns = ms) := by
  rw [PyData.eqv]
  exact eqvAll_ints ns ms
theorem dp_ints {K : PySem.W.Frag} {H : Hp} : ∀ ns : List Int, DpAll K H (ns.map V.int) (ns.map PyData.int)
  | [] => .nil
  | _ :: r => .cons (.int _) (dp_ints r)

structure Txt (K : PySem.W.Frag) (mg : Str → Option Value) where
  a_Tape : Addr
  cl_Tape : Cls K a_Tape
  g_Tape : mg "Tape" = some (.ref a_Tape)
  n_Tape_numbers : NoAttr K a_Tape "numbers"
  n_Tape_at : NoAttr K a_Tape "at"
  a_Mixer : Addr
  cl_Mixer : Cls K a_Mixer
  g_Mixer : mg "Mixer" = some (.ref a_Mixer)
  n_Mixer_state : NoAttr K a_Mixer "state"
  f_number_at : Addr
  fd_number_at : FuncData
  F_number_at : Fun K "number_at" "number_at" s_number_at f_number_at fd_number_at
  b_number_at : Binds K fd_number_at ["weights", "place"] []
  g_number_at : mg "number_at" = some (.ref f_number_at)
  f_Tape___init__ : Addr
  fd_Tape___init__ : FuncData
  F_Tape___init__ : Fun K "__init__" "Tape.__init__" s_Tape___init__ f_Tape___init__ fd_Tape___init__
  b_Tape___init__ : Binds K fd_Tape___init__ ["self", "numbers"] []
  mk_Tape : Mk K a_Tape f_Tape___init__
  f_Tape_pick : Addr
  fd_Tape_pick : FuncData
  F_Tape_pick : Fun K "pick" "Tape.pick" s_Tape_pick f_Tape_pick fd_Tape_pick
  b_Tape_pick : Binds K fd_Tape_pick ["self", "weights"] []
  M_Tape_pick : Meth K a_Tape "pick" f_Tape_pick
  f_Tape_used : Addr
  fd_Tape_used : FuncData
  F_Tape_used : Fun K "used" "Tape.used" s_Tape_used f_Tape_used fd_Tape_used
  b_Tape_used : Binds K fd_Tape_used ["self"] []
  M_Tape_used : Meth K a_Tape "used" f_Tape_used
  f_Mixer___init__ : Addr
  fd_Mixer___init__ : FuncData
  F_Mixer___init__ : Fun K "__init__" "Mixer.__init__" s_Mixer___init__ f_Mixer___init__ fd_Mixer___init__
  b_Mixer___init__ : Binds K fd_Mixer___init__ ["self", "seed"] []
  mk_Mixer : Mk K a_Mixer f_Mixer___init__
  f_Mixer_step : Addr
  fd_Mixer_step : FuncData
  F_Mixer_step : Fun K "step" "Mixer.step" s_Mixer_step f_Mixer_step fd_Mixer_step
  b_Mixer_step : Binds K fd_Mixer_step ["self"] []
  M_Mixer_step : Meth K a_Mixer "step" f_Mixer_step
  f_Mixer_pick : Addr
  fd_Mixer_pick : FuncData
  F_Mixer_pick : Fun K "pick" "Mixer.pick" s_Mixer_pick f_Mixer_pick fd_Mixer_pick
  b_Mixer_pick : Binds K fd_Mixer_pick ["self", "weights"] []
  M_Mixer_pick : Meth K a_Mixer "pick" f_Mixer_pick
  f__law_deck : Addr
  fd__law_deck : FuncData
  F__law_deck : Fun K "_law_deck" "_law_deck" s__law_deck f__law_deck fd__law_deck
  b__law_deck : Binds K fd__law_deck ["_law_script"] []
  g__law_deck : mg "_law_deck" = some (.ref f__law_deck)
  f__law_draw : Addr
  fd__law_draw : FuncData
  F__law_draw : Fun K "_law_draw" "_law_draw" s__law_draw f__law_draw fd__law_draw
  b__law_draw : Binds K fd__law_draw ["_law_deck_here", "_law_most"] []
  g__law_draw : mg "_law_draw" = some (.ref f__law_draw)
  f__law_weights : Addr
  fd__law_weights : FuncData
  F__law_weights : Fun K "_law_weights" "_law_weights" s__law_weights f__law_weights fd__law_weights
  b__law_weights : Binds K fd__law_weights ["_law_deck_here", "_law_most"] []
  g__law_weights : mg "_law_weights" = some (.ref f__law_weights)
  f__law_at : Addr
  fd__law_at : FuncData
  F__law_at : Fun K "_law_at" "_law_at" s__law_at f__law_at fd__law_at
  b__law_at : Binds K fd__law_at ["_law_weights_here", "_law_place"] []
  g__law_at : mg "_law_at" = some (.ref f__law_at)
  f__law_large : Addr
  fd__law_large : FuncData
  F__law_large : Fun K "_law_large" "_law_large" s__law_large f__law_large fd__law_large
  b__law_large : Binds K fd__law_large ["_law_deck_here"] []
  g__law_large : mg "_law_large" = some (.ref f__law_large)
  f__law_tape : Addr
  fd__law_tape : FuncData
  F__law_tape : Fun K "_law_tape" "_law_tape" s__law_tape f__law_tape fd__law_tape
  b__law_tape : Binds K fd__law_tape ["_law_deck_here"] []
  g__law_tape : mg "_law_tape" = some (.ref f__law_tape)
  f__law_mixer : Addr
  fd__law_mixer : FuncData
  F__law_mixer : Fun K "_law_mixer" "_law_mixer" s__law_mixer f__law_mixer fd__law_mixer
  b__law_mixer : Binds K fd__law_mixer ["_law_deck_here"] []
  g__law_mixer : mg "_law_mixer" = some (.ref f__law_mixer)
  f_law : Addr
  fd_law : FuncData
  F_law : Fun K "law" "law" s_law f_law fd_law
  b_law : Binds K fd_law ["_law_script"] []
  g_law : mg "law" = some (.ref f_law)
  t_FACTOR : Tok
  g_FACTOR : mg "FACTOR" = some (.int (48271) t_FACTOR)
  t_MODULUS : Tok
  g_MODULUS : mg "MODULUS" = some (.int (2147483647) t_MODULUS)
  z_bool : mg "bool" = none
  z_enumerate : mg "enumerate" = none
  z_int : mg "int" = none
  z_isinstance : mg "isinstance" = none
  z_len : mg "len" = none
  z_list : mg "list" = none
  z_range : mg "range" = none
  z_sum : mg "sum" = none
section
variable {P : Program} {w : World} {K : PySem.W.Frag} {mg : Str → Option Value} {base : Heap}
/-! ### number_at -/
def pfind : List Int → Int → Int → Nat → Option Nat
  | [], _, _, _ => none
  | x :: xs, t, p, i => if t + x > p then some i else pfind xs (t + x) p (i + 1)
def sp_number_at (K : PySem.W.Frag) : Sp := fun vs H Q _ => ∃ (a : Addr) (ns : List Int) (p : Int), vs = [.ref a, .int p] ∧ SqL K H a (ns.map V.int) ∧ ns.length ≤ 1000 ∧
  ∀ v H', v = V.int (match pfind ns 0 p 0 with | some i => (i : Int) | none => (ns.length : Int) - 1) → Same H H' → Q v H'
theorem pfind_drop (ns : List Int) (p : Int) (i : Nat) (x : Int) (h : ns[i]? = some x) :
    pfind (ns.drop i) (ns.take i).sum p i = if (ns.take i).sum + x > p then some i else pfind (ns.drop (i+1)) (ns.take (i+1)).sum p (i+1) := by
  have hi := (List.getElem?_eq_some_iff.mp h).1
  have e : ns.drop i = x :: ns.drop (i+1) := by
    rw [List.drop_eq_getElem_cons hi]
    congr 1
    exact (List.getElem?_eq_some_iff.mp h).2
  rw [e]
  show (if _ then _ else _) = _
  have e2 : (ns.take (i+1)).sum = (ns.take i).sum + x := sum_take h
  rw [e2]
theorem ok_number_at (T : Txt K mg) : FnOk P w K mg base CX0 1 T.f_number_at T.fd_number_at ["weights", "place"] (sp_number_at K) := by
  refine T.F_number_at.ok sc_number_at (fun vs H Q E h => ?_) (fun cdv A outer s H vs Q E hr h => ?_)
  · obtain ⟨a, ns, p, rfl, _⟩ := h
    rfl
  · obtain ⟨a, ns, p, rfl, hS, hlen, q⟩ := h
    refine ⟨_, (pss_cons (ps_set (i := 2) sc_number_at.nd rfl (Or.inl rfl) pe_int)
      (pss_cons (ps_for PassesOwn.never rfl (pi_enum (by rfl) T.z_enumerate (pa_cons (pv 0) pa_nil)) (pg_tup rfl (pgs_cons (pg_name (i := 3) sc_number_at.nd rfl (Or.inl rfl)) (pgs_cons (pg_name (i := 4) sc_number_at.nd rfl (Or.inl rfl)) pgs_nil)))
        (pss_cons (ps_aug (i := 2) sc_number_at.nd rfl (Or.inl rfl) (pv 4) ip_add)
        (pss_one (ps_if (pt_cmpR op_gt (pv 2) (pv 1) (nomark _))
          (pss_one (ps_ret (pv 3)))
          pss_nil))))
      (pss_one (ps_ret (pe_op op_sub (pe_callB call_len_seq (by rfl) T.z_len (by decide +kernel) (pa_cons (pv 0) pa_nil)) pe_int))))), ?_⟩
    refine ⟨_, rfl, a, _, rfl, hS, for_it walk_enum (fun i σ H' => ∃ x y, σ = [some (.ref a), some (.int p), some (.int (ns.take i).sum), x, y] ∧ Same H H' ∧ pfind ns 0 p 0 = pfind (ns.drop i) (ns.take i).sum p i) ⟨_, _, rfl, Same.refl H, rfl⟩ (fun i σ H' _ ⟨x, y, _, e, _⟩ => e.seq hS) ?_ ?_⟩
    · rintro i v σ H1 H2 hi ⟨x, y, rfl, e, ef⟩ ⟨t, x1, x2, rfl, ht, rfl, h1, h2⟩
      cases h1
      obtain ⟨z, rfl, hz⟩ := map_get h2
      refine ⟨t, _, rfl, SqT.of upd_same, rfl, _, _, rfl, _, _, rfl, rfl, ?_⟩
      refine ⟨_, rfl, _, rfl, _, _, rfl, rfl, ?_⟩
      have ee := pfind_drop ns p i z hz
      refine ⟨_, rfl, _, rfl, _, _, rfl, rfl, _, rfl, ite_dec (fun hc => ?_) (fun hc => ?_)⟩
      · refine ⟨_, rfl, ?_⟩
        refine q _ _ ?_ (e.trans (same_upd ht))
        rw [ef, ee, if_pos hc]
      · refine ⟨some (.int i), some (.int z), ?_, e.trans (same_upd ht), ?_⟩
        · rw [sum_take hz]; rfl
        · rw [ef, ee, if_neg hc]
    · rintro σ H1 ⟨x, y, rfl, e, ef⟩
      refine ⟨_, rfl, a, _, rfl, .inl (e.seq hS), _, _, rfl, rfl, ?_⟩
      refine q _ _ ?_ e
      rw [ef, List.length_map, List.drop_length]
      rfl
/-! ### the deck: a list of the script's copy, a place, what is left of a great cell, a seed -/
def Dk (K : PySem.W.Frag) (H : Hp) (L : Addr) (k : Addr × List Int) : Prop := ∃ (a c d : Int), H L = some (.lst [.ref k.1, .int a, .int c, .int d]) ∧ k.1 ≠ L ∧ SqL K H k.1 (k.2.map V.int) ∧ 0 ≤ a ∧ 0 ≤ c
section
variable {K : PySem.W.Frag} {H H' H1 : Hp} {L p : Addr} {k : Addr × List Int}
theorem Dk.ne (h : Dk K H L k) (hp : H p = none) : p ≠ L := by
  obtain ⟨a, c, d, h1, _⟩ := h
  exact (ne_of_none h1 hp).symm
theorem Dk.nem (h : Dk K H L k) (hp : H p = none) : p ∉ [L] := nin (h.ne hp)
theorem Dk.same (e : Same H H') (h : Dk K H L k) : Dk K H' L k := by
  obtain ⟨a, c, d, h1, h2, h3, h4, h5⟩ := h
  exact ⟨a, c, d, e _ _ h1, h2, e.seq h3, h4, h5⟩
/-- what the deck is read from stands since H1 -/
theorem Dk.upd {D : Addr} {o : HO} (h : Dk K H L k) (b : Dk K H1 L k) (hD : H1 D = none) (e : Ex [L] H1 H) : Dk K (upd H D o) L k := by
  obtain ⟨a, c, d, h1, h2, h3, h4, h5⟩ := h
  obtain ⟨a', c', d', g1, g2, g3, g4, g5⟩ := b
  refine ⟨a, c, d, ?_, h2, Ex.seq (Ex.mut e (.inl hD)) (nin h2) g3, h4, h5⟩
  rw [upd_ne (ne_of_none g1 hD)]
  exact h1
/-- a change of an object x that H1 did not know -/
theorem Dk.ex1 {x : Addr} (h : Dk K H L k) (b : Dk K H1 L k) (hx : H1 x = none) (e : Ex [L] H1 H) (e2 : Ex [x] H H') : Dk K H' L k := by
  obtain ⟨a, c, d, h1, h2, h3, h4, h5⟩ := h
  obtain ⟨a', c', d', g1, g2, g3, g4, g5⟩ := b
  exact ⟨a, c, d, e2 _ _ (nin (ne_of_none g1 hx)) h1, h2, Ex.seq (e.new1 e2 hx) (nin h2) g3, h4, h5⟩
/-- the deck rewritten -/
theorem Dk.put {a c d : Int} (h2 : k.1 ≠ L) (h3 : SqL K H k.1 (k.2.map V.int)) (h4 : 0 ≤ a) (h5 : 0 ≤ c) : Dk K (L2.upd H L (.lst [.ref k.1, .int a, .int c, .int d])) L k :=
  ⟨a, c, d, upd_same, h2, Ex.seq (F := [L]) ((Ex.refl H).mut (.inr (List.mem_singleton.mpr rfl))) (nin h2) h3, h4, h5⟩
theorem ex_put {o : HO} : Ex [L] H (L2.upd H L o) := (Ex.refl H).mut (.inr (List.mem_singleton.mpr rfl))
end
theorem ne_big : (2147483647 : Int) ≠ 0 := by decide
theorem log2_small {m : Int} (h0 : 0 < m) (h1 : m < 2 ^ 64) : CDivW 0 m := wide_div (b := 64) h0 (by omega) (by decide) (by decide)
def sp__law_deck (K : PySem.W.Frag) : Sp := fun vs H Q _ => ∃ (a : Addr) (ns : List Int), vs = [.ref a] ∧ SqL K H a (ns.map V.int) ∧ ∀ k L H', H L = none → Same H H' → Dk K H' L k → Q (.ref L) H'
theorem ok__law_deck (T : Txt K mg) : FnOk P w K mg base CX0 1 T.f__law_deck T.fd__law_deck ["_law_script"] (sp__law_deck K) := by
  refine T.F__law_deck.ok sc__law_deck (fun vs H Q E h => ?_) (fun cdv A outer s H vs Q E hr h => ?_)
  · obtain ⟨a, ns, rfl, _⟩ := h
    rfl
  · obtain ⟨a, ns, rfl, hS, q⟩ := h
    refine ⟨_, (pss_one (ps_ret (pe_lst (pa_cons (pe_callTy call_list_of (by rfl) T.z_list (by decide +kernel) (pa_cons (pv 0) pa_nil)) (pa_cons pe_int (pa_cons pe_int (pa_cons pe_int pa_nil))))))), ?_⟩
    refine ⟨_, rfl, a, _, rfl, .inl hS, fun l hl => ⟨by show 4 ≤ sizeLine; decide, fun L hL => ?_⟩⟩
    have e1 : Same H (upd H l (.lst (ns.map V.int))) := same_upd hl
    have nl : l ≠ L := ne_of_none (H := upd H l (.lst (ns.map V.int))) upd_same hL
    refine q (l, ns) L _ (e1.free hL) (e1.trans (same_upd hL)) ⟨0, 0, 7, upd_same, nl, .inl (.inl ?_), by decide, by decide⟩
    rw [upd_ne nl, upd_same]
def sp__law_draw (K : PySem.W.Frag) : Sp := fun vs H Q _ => ∃ (k : Addr × List Int) (L : Addr) (m : Int), vs = [.ref L, .int m] ∧ 0 < m ∧ m < 2 ^ 64 ∧ Dk K H L k ∧ ∀ v H', 0 ≤ v → v < m → Ex [L] H H' → Dk K H' L k → Q (.int v) H'
theorem ok__law_draw (T : Txt K mg) : FnOk P w K mg base CX0 1 T.f__law_draw T.fd__law_draw ["_law_deck_here", "_law_most"] (sp__law_draw K) := by
  refine T.F__law_draw.ok sc__law_draw (fun vs H Q E h => ?_) (fun cdv A outer s H vs Q E hr h => ?_)
  · obtain ⟨k, a, m, rfl, _⟩ := h
    rfl
  · obtain ⟨⟨s, ns⟩, L, m, rfl, h0, hm, ⟨a, c, d, hL, hs, hS, ha, hc⟩, q⟩ := h
    refine ⟨_, (pss_cons (ps_if (pt_cmpR op_ge (pe_ix ix_list (pv 0) pe_int (fun _ _ => rfl)) (pv 1) (nomark _))
        (pss_cons (ps_set (i := 2) sc__law_draw.nd rfl (Or.inl rfl) (pe_op op_modN (pe_callTy call_int1 (by rfl) T.z_int (by decide +kernel) (pa_cons (pe_ix ix_list (pv 0) pe_int (fun _ _ => rfl)) pa_nil)) (pv 1)))
        (pss_cons (ps_asg (pe_op op_fdivW (pe_ix ix_list (pv 0) pe_int (fun _ _ => rfl)) (pv 1)) (pg_sub (pv 0) pe_int set_list))
        (pss_one (ps_ret (pv 2)))))
        pss_nil)
      (pss_cons (ps_set (i := 3) sc__law_draw.nd rfl (Or.inl rfl) pe_int)
      (pss_cut (ps_if (pt_cmpR op_lt (pe_ix ix_list (pv 0) pe_int (fun _ _ => rfl)) (pe_callB call_len_seq (by rfl) T.z_len (by decide +kernel) (pa_cons (pe_ix ix_list (pv 0) pe_int (fun _ _ => rfl)) pa_nil)) (nomark _))
        (pss_one (ps_set (i := 3) sc__law_draw.nd rfl (Or.inl rfl) (pe_ix ix_list (pe_ix ix_list (pv 0) pe_int (fun _ _ => rfl)) (pe_ix ix_list (pv 0) pe_int (fun _ _ => rfl)) (fun _ _ => rfl))))
        pss_nil)
      (pss_cons (ps_asg (pe_op op_add (pe_ix ix_list (pv 0) pe_int (fun _ _ => rfl)) pe_int) (pg_sub (pv 0) pe_int set_list))
      (pss_cons (ps_asg pe_int (pg_sub (pv 0) pe_int set_list))
      (pss_cons (ps_if (pt_cmpR op_ge (pv 3) (pe_op op_pow pe_int pe_int) (nomark _))
        (pss_cons (ps_asg (pe_op op_fdivW (pv 3) (pv 1)) (pg_sub (pv 0) pe_int set_list))
        (pss_one (ps_ret (pe_op op_modN (pe_callTy call_int1 (by rfl) T.z_int (by decide +kernel) (pa_cons (pv 3) pa_nil)) (pv 1)))))
        pss_nil)
      (pss_cons (ps_asg (pe_op op_modN (pe_callTy call_int1 (by rfl) T.z_int (by decide +kernel) (pa_cons (pe_op op_add (pe_op op_add (pe_op op_mul (pe_ix ix_list (pv 0) pe_int (fun _ _ => rfl)) pe_int) (pe_op op_mul (pv 3) pe_int)) (pe_op op_mul (pe_ix ix_list (pv 0) pe_int (fun _ _ => rfl)) pe_int)) pa_nil)) pe_int) (pg_sub (pv 0) pe_int set_list))
      (pss_cons (ps_asg (pe_op op_modN (pe_callTy call_int1 (by rfl) T.z_int (by decide +kernel) (pa_cons (pe_op op_add (pe_op op_mul (pe_ix ix_list (pv 0) pe_int (fun _ _ => rfl)) pe_int) pe_int) pa_nil)) pe_int) (pg_sub (pv 0) pe_int set_list))
      (pss_one (ps_ret (pe_op op_modN (pe_callTy call_int1 (by rfl) T.z_int (by decide +kernel) (pa_cons (pe_op op_fdivW (pe_ix ix_list (pv 0) pe_int (fun _ _ => rfl)) pe_int) pa_nil)) (pv 1)))))))))))), ?_⟩
    have md : m ≠ 0 := by omega
    have dv : ∀ i : Int, CDivW i m := fun i => log2_small h0 hm
    have fm : ∀ i : Int, 0 ≤ i.fmod m ∧ i.fmod m < m := fun i => ⟨Int.fmod_nonneg_of_pos i h0, Int.fmod_lt_of_pos i h0⟩
    refine ⟨_, rfl, L, _, 2, _, rfl, rfl, SqL.of hL, rfl, _, rfl, _, _, rfl, rfl, _, rfl, ite_dec (fun h1 => ?_) (fun h1 => ?_)⟩
    · refine ⟨_, rfl, L, _, 2, _, rfl, rfl, SqL.of hL, rfl, .inl ⟨_, rfl, _, rfl, _, _, rfl, rfl, md, ?_⟩⟩
      refine ⟨_, rfl, L, _, 2, _, rfl, rfl, SqL.of hL, rfl, _, rfl, _, _, rfl, rfl, dv _, _, rfl, L, _, 2, 2, rfl, rfl, hL, rfl, ?_⟩
      exact ⟨_, rfl, q _ _ (fm c).1 (fm c).2 ex_put (Dk.put (k := (s, ns)) hs hS ha (Int.ediv_nonneg hc (by omega)))⟩
    · refine ⟨fun σ' H' => ∃ cell : Int, H' = H ∧ σ' = [some (.ref L), some (.int m), none, some (.int cell)], ?_, ?_⟩
      · refine ⟨_, rfl, L, _, 1, _, rfl, rfl, SqL.of hL, rfl, _, rfl, L, _, 0, _, rfl, rfl, SqL.of hL, rfl, s, _, rfl, .inl hS, _, _, rfl, rfl, _, rfl, ite_dec (fun h2 => ?_) (fun h2 => ?_)⟩
        · have hlt : a.toNat < ns.length := by
            have h3 : a < ((ns.map V.int).length : Int) := h2
            rw [List.length_map] at h3
            omega
          refine ⟨_, rfl, L, _, 0, _, rfl, rfl, SqL.of hL, rfl, _, rfl, L, _, 1, _, rfl, rfl, SqL.of hL, rfl, s, _, a, .int ns[a.toNat], rfl, rfl, hS, atI_int ha (get_map (List.getElem?_eq_getElem hlt)), ?_⟩
          exact ⟨_, rfl, rfl⟩
        · exact ⟨_, rfl, rfl⟩
      · rintro σ' H' ⟨cell, rfl, rfl⟩
        -- the place, the rest
        refine ⟨_, rfl, L, _, 1, _, rfl, rfl, SqL.of hL, rfl, _, _, rfl, rfl, _, rfl, L, _, 1, 1, rfl, rfl, hL, rfl, ?_⟩
        have hs1 : SqL K (upd H' L (.lst [.ref s, .int (a + 1), .int c, .int d])) s (ns.map V.int) := Ex.seq (F := [L]) ex_put (nin hs) hS
        refine ⟨_, rfl, L, _, 2, 2, rfl, rfl, upd_same, rfl, ?_⟩
        refine ⟨_, rfl, 10, 18, rfl, rfl, ⟨by decide, by decide, by decide⟩, _, _, rfl, rfl, _, rfl, ite_dec (fun h2 => ?_) (fun h2 => ?_)⟩
        · have c0 : 0 ≤ cell := Int.le_trans (by decide) h2
          refine ⟨_, rfl, _, rfl, _, _, rfl, rfl, dv _, _, rfl, L, _, 2, 2, rfl, rfl, upd_same, rfl, ?_⟩
          refine ⟨_, rfl, .inl ⟨_, rfl, _, rfl, _, _, rfl, rfl, md, ?_⟩⟩
          rw [upd_upd, upd_upd]
          exact q _ _ (fm cell).1 (fm cell).2 ex_put (Dk.put (k := (s, ns)) hs hS (by omega) (Int.ediv_nonneg c0 (by omega)))
        · refine ⟨_, rfl, L, _, 3, _, rfl, rfl, SqL.of upd_same, rfl, _, _, rfl, rfl, .inr ⟨by decide, by decide⟩, _, rfl, _, _, rfl, rfl, .inr ⟨by decide, by decide⟩, _, _, rfl, rfl, _, rfl, L, _, 1, _, rfl, rfl, SqL.of upd_same, rfl, _, _, rfl, rfl, .inr ⟨by decide, by decide⟩, _, _, rfl, rfl,
            .inl ⟨_, rfl, _, _, rfl, rfl, ne_big, _, rfl, L, _, 3, 3, rfl, rfl, upd_same, rfl, ?_⟩⟩
          refine ⟨_, rfl, L, _, 3, _, rfl, rfl, SqL.of upd_same, rfl, _, _, rfl, rfl, .inr ⟨by decide, by decide⟩, _, _, rfl, rfl, .inl ⟨_, rfl, _, _, rfl, rfl, ne_big, _, rfl, L, _, 3, 3, rfl, rfl, upd_same, rfl, ?_⟩⟩
          refine ⟨_, rfl, L, _, 3, _, rfl, rfl, SqL.of upd_same, rfl, _, _, rfl, rfl, ⟨by decide, by decide⟩, .inl ⟨_, rfl, _, rfl, _, _, rfl, rfl, md, ?_⟩⟩
          rw [upd_upd, upd_upd, upd_upd]
          exact q _ _ (fm _).1 (fm _).2 ex_put (Dk.put (k := (s, ns)) hs hS (by omega) (by decide))


/-! ### plain facts of picking -/
theorem pfind_none : ∀ (xs : List Int) (t p : Int) (i : Nat), t ≤ p → pfind xs t p i = none → t + xs.sum ≤ p
  | [], t, p, i, h, _ => by simpa using h
  | x :: xs, t, p, i, h, e => by
    unfold pfind at e
    by_cases hc : t + x > p
    · rw [if_pos hc] at e; cases e
    · rw [if_neg hc] at e
      have := pfind_none xs (t + x) p (i + 1) (by omega) e
      rw [List.sum_cons]
      omega
def numAt (ns : List Int) (p : Int) : Int := match pfind ns 0 p 0 with | some i => (i : Int) | none => (ns.length : Int) - 1
def lawAt (ns : List Int) (p : Int) : Int := match pfind ns 0 p 0 with | some i => (i : Int) | none => (ns.length : Int)
theorem at_same {ns : List Int} {p : Int} (h0 : 0 ≤ p) (h1 : p < ns.sum) : numAt ns p = lawAt ns p := by
  unfold numAt lawAt
  cases e : pfind ns 0 p 0 with
  | some i => rfl
  | none =>
    have := pfind_none ns 0 p 0 h0 e
    omega
/-! ### the law's weights -/
def WsOk (ws : List Int) : Prop := 1 ≤ ws.length ∧ ws.length ≤ 5 ∧ (∀ w ∈ ws, 0 ≤ w ∧ w ≤ 3) ∧ 0 < ws.sum ∧ ws.sum ≤ 15
def sp__law_weights (K : PySem.W.Frag) : Sp := fun vs H Q _ => ∃ (k : Addr × List Int) (L : Addr) (m : Int), vs = [.ref L, .int m] ∧ 0 < m ∧ m ≤ 5 ∧ Dk K H L k ∧
  ∀ p ws H', H p = none → Ex [L] H H' → Dk K H' L k → H' p = some (.lst (ws.map V.int)) → WsOk ws → Q (.ref p) H'
theorem ok__law_weights (T : Txt K mg) : FnOk P w K mg base CX0 2 T.f__law_weights T.fd__law_weights ["_law_deck_here", "_law_most"] (sp__law_weights K) := by
  refine T.F__law_weights.ok sc__law_weights (fun vs H Q E h => ?_) (fun cdv A outer s H vs Q E hr h => ?_)
  · obtain ⟨k, a, m, rfl, _⟩ := h
    rfl
  · obtain ⟨k, L, m, rfl, h0, hm, hD, q⟩ := h
    refine ⟨_, (pss_cons (ps_setLc (i := 2) (own := [("_law_k", 3)]) (g := gName 3) rfl sc__law_weights.nd rfl rfl (sw_true rfl rfl rfl (by decide +kernel)) (pi_range1 (by rfl) T.z_range (pa_cons (pe_op op_add pe_int (pe_call (ok__law_draw T) (hr.mono (by decide)) (by rfl) T.g__law_draw T.F__law_draw.kp T.b__law_draw .nil pass0 (pa_cons (pv 0) (pa_cons (pv 1) pa_nil)))) pa_nil)) (blkOk_by (own := [("_law_k", 3)]) (N := nm__law_weights) (sc := defScope s__law_weights) (by decide +kernel)) (fun _ _ _ _ _ => pg_name (i := 3) sc__law_weights.nd rfl (Or.inl rfl)) (fun _ _ _ _ _ => pts_nil) (fun _ _ _ _ _ => (pe_op op_mul (pe_call (ok__law_draw T) (hr.mono (by decide)) (by rfl) T.g__law_draw T.F__law_draw.kp T.b__law_draw .nil pass0 (pa_cons (pv 0) (pa_cons pe_int pa_nil))) (pe_call (ok__law_draw T) (hr.mono (by decide)) (by rfl) T.g__law_draw T.F__law_draw.kp T.b__law_draw .nil pass0 (pa_cons (pv 0) (pa_cons pe_int pa_nil))))))
      (pss_cut (ps_if (pt_cmpR op_eq (pe_callB (cr_sum rfl) (by rfl) T.z_sum (by decide +kernel) (pa_cons (pv 2) pa_nil)) pe_int (nomark _))
        (pss_one (ps_asg (pe_op op_add pe_int (pe_call (ok__law_draw T) (hr.mono (by decide)) (by rfl) T.g__law_draw T.F__law_draw.kp T.b__law_draw .nil pass0 (pa_cons (pv 0) (pa_cons pe_int pa_nil)))) (pg_sub (pv 2) (pe_call (ok__law_draw T) (hr.mono (by decide)) (by rfl) T.g__law_draw T.F__law_draw.kp T.b__law_draw .nil pass0 (pa_cons (pv 0) (pa_cons (pe_callB call_len_seq (by rfl) T.z_len (by decide +kernel) (pa_cons (pv 2) pa_nil)) pa_nil))) set_list)))
        pss_nil)
      (pss_one (ps_ret (pv 2))))), ?_⟩
    refine ⟨_, rfl, _, rfl, k, L, m, rfl, h0, by omega, hD, fun v H1 v0 vm e1 d1 => ⟨_, _, rfl, rfl, _, rfl, by omega, by omega, fun D hDn => ?_⟩⟩
    have nDL : D ≠ L := d1.ne hDn
    have nD0 : H D = none := e1.free (nin nDL) hDn
    refine lc_it walk_range (fun i H' => Ex [L] H1 H' ∧ Dk K H' L k ∧ ∃ ws : List Int, H' D = some (.lst (ws.map V.int)) ∧ ws.length = i ∧ ∀ w ∈ ws, 0 ≤ w ∧ w ≤ 3)
      ⟨Ex.of (same_upd hDn), d1.same (same_upd hDn), [], upd_same, rfl, fun w hw => by simp at hw⟩ (fun _ _ _ _ => trivial) ?_ ?_
    · rintro i x Ha Hb hi ⟨e2, d2, ws, hw, hl, hb⟩ ⟨rfl, rfl⟩
      refine ⟨rfl, w_yes ?_⟩
      refine ⟨_, rfl, k, L, 4, rfl, by decide, by decide, d2, fun x1 H3 x0 x4 e3 d3 => ?_⟩
      refine ⟨_, rfl, k, L, 2, rfl, by decide, by decide, d3, fun y1 H4 y0 y2 e4 d4 => ?_⟩
      refine ⟨_, _, rfl, rfl, .inl ⟨by omega, by omega⟩, ?_⟩
      refine ⟨_, (e4.at (nin nDL) (e3.at (nin nDL) hw)), by rw [List.length_map]; exact small1000 (by omega), ?_⟩
      refine ⟨Ex.mut (e2.trans (e3.trans e4)) (.inl hDn), d4.upd d1 hDn (e2.trans (e3.trans e4)), ws ++ [x1 * y1], ?_, by simp [hl], fun w hw => ?_⟩
      · rw [upd_same, List.map_append]; rfl
      · rcases List.mem_append.mp hw with h | h
        · exact hb w h
        · rw [List.mem_singleton] at h
          subst h
          have : y1 = 0 ∨ y1 = 1 := by omega
          rcases this with rfl | rfl <;> omega
    · rintro H2 ⟨e2, d2, ws, hw, hl, hb⟩
      have hlen : 1 ≤ ws.length ∧ ws.length ≤ 5 := by omega
      have hs15 := sum_le_of ws 3 (fun x hx => (hb x hx).2)
      have hs0 := mem_le_sum.sum_nn ws (fun x hx => (hb x hx).1)
      refine ⟨fun σ' H' => ∃ ws', σ' = [some (.ref L), some (.int m), some (.ref D), none] ∧ Ex [L] H1 H' ∧ Dk K H' L k ∧ H' D = some (.lst (ws'.map V.int)) ∧ WsOk ws', ?_, ?_⟩
      · refine ⟨_, rfl, D, ws, rfl, SqL.of hw, rfl, _, rfl, ite_dec (fun hc => ?_) (fun hc => ?_)⟩
        · have hz : ws.sum = 0 := V.int.inj hc
          refine ⟨_, rfl, k, L, 3, rfl, by decide, by decide, d2, fun x1 H3 x0 x3 e3 d3 => ⟨_, _, rfl, rfl, ?_⟩⟩
          refine ⟨_, rfl, _, rfl, _, rfl, D, _, rfl, .inl (SqL.of (e3.at (nin nDL) hw)), ?_⟩
          refine ⟨k, L, _, rfl, ?_, ?_, d3, fun y1 H4 y0 ym e4 d4 => ?_⟩
          · rw [List.length_map]; omega
          · rw [List.length_map]; omega
          · have hy : y1 < ((ws.map V.int).length : Int) := ym
            have hy' : y1.toNat < ws.length := by rw [List.length_map] at hy; omega
            refine ⟨D, _, y1, _, rfl, rfl, e4.at (nin nDL) (e3.at (nin nDL) hw), ixN_int y0 hy, ?_⟩
            have hg : ws[y1.toNat]? = some ws[y1.toNat] := List.getElem?_eq_getElem hy'
            have hm0 := mem_le_sum ws (fun x hx => (hb x hx).1) _ (List.getElem_mem hy')
            have hm1 := (hb _ (List.getElem_mem hy')).1
            have hsum := sum_set ws y1.toNat _ (1 + x1) hg
            refine ⟨ws.set y1.toNat (1 + x1), rfl, Ex.mut (e2.trans (e3.trans e4)) (.inl hDn), d4.upd d1 hDn (e2.trans (e3.trans e4)), ?_, ?_, ?_, ?_, ?_, ?_⟩
            · rw [upd_same, List.map_set]
            · rw [List.length_set]; exact hlen.1
            · rw [List.length_set]; exact hlen.2
            · intro w hw'
              rcases List.mem_or_eq_of_mem_set hw' with h | h
              · exact hb w h
              · omega
            · omega
            · omega
        · have hz : ws.sum ≠ 0 := fun z => hc (congrArg V.int z)
          exact ⟨ws, rfl, e2, d2, hw, hlen.1, hlen.2, hb, by omega, by omega⟩
      · rintro σ' H' ⟨ws', rfl, e3, d3, hw', ok⟩
        exact ⟨_, rfl, q D ws' H' nD0 (e1.trans e3) d3 hw' ok⟩
def sp__law_at (K : PySem.W.Frag) : Sp := fun vs H Q _ => ∃ (a : Addr) (ns : List Int) (p : Int), vs = [.ref a, .int p] ∧ SqL K H a (ns.map V.int) ∧ ns.length ≤ 1000 ∧
  Q (.int (lawAt ns p)) H
theorem ok__law_at (T : Txt K mg) : FnOk P w K mg base CX0 1 T.f__law_at T.fd__law_at ["_law_weights_here", "_law_place"] (sp__law_at K) := by
  refine T.F__law_at.ok sc__law_at (fun vs H Q E h => ?_) (fun cdv A outer s H vs Q E hr h => ?_)
  · obtain ⟨a, ns, p, rfl, _⟩ := h
    rfl
  · obtain ⟨a, ns, p, rfl, hS, hlen, q⟩ := h
    refine ⟨_, (pss_cons (ps_set (i := 2) sc__law_at.nd rfl (Or.inl rfl) pe_int)
      (pss_cons (ps_for PassesOwn.never rfl (pi_range1 (by rfl) T.z_range (pa_cons (pe_callB call_len_seq (by rfl) T.z_len (by decide +kernel) (pa_cons (pv 0) pa_nil)) pa_nil)) (pg_name (i := 3) sc__law_at.nd rfl (Or.inl rfl))
        (pss_cons (ps_set (i := 2) sc__law_at.nd rfl (Or.inl rfl) (pe_op op_add (pv 2) (pe_ix ix_list (pv 0) (pv 3) (fun _ _ => rfl))))
        (pss_one (ps_if (pt_cmpR op_gt (pv 2) (pv 1) (nomark _))
          (pss_one (ps_ret (pv 3)))
          pss_nil))))
      (pss_one (ps_ret (pe_callB call_len_seq (by rfl) T.z_len (by decide +kernel) (pa_cons (pv 0) pa_nil)))))), ?_⟩
    refine ⟨_, rfl, a, _, rfl, .inl hS, _, rfl, by omega, by rw [List.length_map]; omega, for_it walk_range (fun i σ H' => ∃ x, σ = [some (.ref a), some (.int p), some (.int (ns.take i).sum), x] ∧ H' = H ∧ pfind ns 0 p 0 = pfind (ns.drop i) (ns.take i).sum p i) ⟨_, rfl, rfl, rfl⟩ (fun _ _ _ _ _ => trivial) ?_ ?_⟩
    · rintro i v σ H1 H2 hi ⟨x, rfl, rfl, ef⟩ ⟨rfl, rfl⟩
      have hi' : i < ns.length := by rw [List.length_map] at hi; omega
      have hz : ns[i]? = some ns[i] := List.getElem?_eq_getElem hi'
      refine ⟨_, rfl, _, rfl, _, rfl, a, _, _, _, rfl, rfl, hS, atI_int (by omega) (v := .int ns[i]) (get_map ?_), _, _, rfl, rfl, ?_⟩
      · rw [show ((0 : Int) + (i : Nat)).toNat = i by omega]; exact hz
      have ee := pfind_drop ns p i _ hz
      refine ⟨_, rfl, _, rfl, _, _, rfl, rfl, _, rfl, ite_dec (fun hc => ?_) (fun hc => ?_)⟩
      · refine ⟨_, rfl, ?_⟩
        unfold lawAt at q
        rw [ef, ee, if_pos hc] at q
        show Q (V.int ((0 : Int) + (i : Nat))) H2
        rw [Int.zero_add]
        exact q
      · refine ⟨some (.int (0 + (i : Nat))), ?_, rfl, ?_⟩
        · rw [sum_take hz]; rfl
        · rw [ef, ee, if_neg hc]
    · rintro σ H1 ⟨x, rfl, rfl, ef⟩
      refine ⟨_, rfl, a, _, rfl, .inl hS, ?_⟩
      unfold lawAt at q
      rw [ef] at q
      have e0 : ((List.map V.int ns).length : Int).toNat = ns.length := by rw [List.length_map]; omega
      rw [e0, List.drop_length] at q
      rw [List.length_map]
      exact q
def sp__law_large (K : PySem.W.Frag) : Sp := fun vs H Q _ => ∃ (k : Addr × List Int) (L : Addr), vs = [.ref L] ∧ Dk K H L k ∧ ∀ v H', Ex [L] H H' → Dk K H' L k → Q (.int v) H'
theorem ok__law_large (T : Txt K mg) : FnOk P w K mg base CX0 2 T.f__law_large T.fd__law_large ["_law_deck_here"] (sp__law_large K) := by
  refine T.F__law_large.ok sc__law_large (fun vs H Q E h => ?_) (fun cdv A outer s H vs Q E hr h => ?_)
  · obtain ⟨k, a, rfl, _⟩ := h
    rfl
  · obtain ⟨k, L, rfl, hD, q⟩ := h
    refine ⟨_, (pss_cons (ps_set (i := 1) sc__law_large.nd rfl (Or.inl rfl) (pe_call (ok__law_draw T) (hr.mono (by decide)) (by rfl) T.g__law_draw T.F__law_draw.kp T.b__law_draw .nil pass0 (pa_cons (pv 0) (pa_cons pe_int pa_nil))))
      (pss_cons (ps_if (pt_cmpR op_lt (pv 1) pe_int (nomark _))
        (pss_one (ps_ret (pe_call (ok__law_draw T) (hr.mono (by decide)) (by rfl) T.g__law_draw T.F__law_draw.kp T.b__law_draw .nil pass0 (pa_cons (pv 0) (pa_cons pe_int pa_nil)))))
        pss_nil)
      (pss_cons (ps_set (i := 2) sc__law_large.nd rfl (Or.inl rfl) (pe_call (ok__law_draw T) (hr.mono (by decide)) (by rfl) T.g__law_draw T.F__law_draw.kp T.b__law_draw .nil pass0 (pa_cons (pv 0) (pa_cons (pe_op op_pow pe_int pe_int) pa_nil))))
      (pss_cut (ps_if (pt_cmpR op_eq (pv 1) pe_int (nomark _))
        (pss_one (ps_set (i := 2) sc__law_large.nd rfl (Or.inl rfl) (pe_op op_add (pe_op op_mul (pv 2) (pe_op op_pow pe_int pe_int)) (pe_call (ok__law_draw T) (hr.mono (by decide)) (by rfl) T.g__law_draw T.F__law_draw.kp T.b__law_draw .nil pass0 (pa_cons (pv 0) (pa_cons (pe_op op_pow pe_int pe_int) pa_nil))))))
        pss_nil)
      (pss_one (ps_ret (pv 2))))))), ?_⟩
    refine ⟨_, rfl, k, L, 4, rfl, by decide, by decide, hD, fun v H1 v0 vm e1 d1 => ?_⟩
    refine ⟨_, rfl, _, _, rfl, rfl, _, rfl, ite_dec (fun hc => ?_) (fun hc => ?_)⟩
    · exact ⟨_, rfl, k, L, 40, rfl, by decide, by decide, d1, fun u H2 _ _ e2 d2 => q _ _ (e1.trans e2) d2⟩
    · refine ⟨_, rfl, _, _, rfl, rfl, ⟨by decide, by decide, by decide⟩, k, L, _, rfl, by decide, by decide, d1, fun u H2 u0 um e2 d2 => ?_⟩
      refine ⟨fun σ' H' => ∃ z : Int, σ' = [some (.ref L), some (.int v), some (.int z)] ∧ Ex [L] H H' ∧ Dk K H' L k, ?_, ?_⟩
      · refine ⟨_, rfl, rfl, _, rfl, ite_dec (fun hk => ?_) (fun hk => ?_)⟩
        · refine ⟨_, rfl, _, _, rfl, rfl, ⟨by decide, by decide, by decide⟩, _, _, rfl, rfl, .inl ⟨by omega, ?_⟩, ?_⟩
          · have h9 : u < (10 : Int) ^ (9 : Int).toNat := um
            have e9 : (10 : Int) ^ (9 : Int).toNat = 1000000000 := by decide
            omega
          · refine ⟨_, rfl, _, _, rfl, rfl, ⟨by decide, by decide, by decide⟩, k, L, _, rfl, by decide, by decide, d2, fun u3 H3 _ _ e3 d3 => ⟨_, _, rfl, rfl, _, rfl, (e1.trans e2).trans e3, d3⟩⟩
        · exact ⟨_, rfl, e1.trans e2, d2⟩
      · rintro σ' H' ⟨z, rfl, e3, d3⟩
        exact ⟨_, rfl, q _ _ e3 d3⟩
/-! ### tapes -/
def tapeF (l : Addr) (i : Int) : List (Str × V) := [("numbers", .ref l), ("at", .int i)]
theorem tapeF_n (l : Addr) (i : Int) : (tapeF l i).lookup ("numbers" : Str) = some (.ref l) := lk_eq
theorem tapeF_a (l : Addr) (i : Int) : (tapeF l i).lookup ("at" : Str) = some (.int i) := (lk_ne (by decide +kernel)).trans lk_eq
theorem tapeF_no (l : Addr) (i : Int) {m : Str} (h1 : (m == "numbers") = false) (h2 : (m == "at") = false) : (tapeF l i).lookup m = none := (lk_ne h1).trans ((lk_ne h2).trans rfl)
theorem tapeF_put (l : Addr) (i j : Int) : putF "at" (.int j) (tapeF l i) = tapeF l j := (putF_ne (by decide +kernel)).trans (by rw [putF_eq]; rfl)
theorem tapeF_mk (l : Addr) (j : Int) : putF "at" (.int j) (putF "numbers" (.ref l) []) = tapeF l j := (putF_ne (by decide +kernel)).trans (by rw [putF_nil]; rfl)
def sp_Tape___init__ (K : PySem.W.Frag) (C : Addr) : Sp := fun vs H Q _ => ∃ (x dx a : Addr) (ns : List Int), vs = [.ref x, .ref a] ∧ H x = some (.ins C dx []) ∧ SqL K H a (ns.map V.int) ∧
  ∀ l H', H l = none → Ex [x] H H' → H' x = some (.ins C dx (tapeF l 0)) → H' l = some (.lst (ns.map V.int)) → Q .non H'
theorem ok_Tape___init__ (T : Txt K mg) : FnOk P w K mg base CX0 1 T.f_Tape___init__ T.fd_Tape___init__ ["self", "numbers"] (sp_Tape___init__ K T.a_Tape) := by
  refine T.F_Tape___init__.ok sc_Tape___init__ (fun vs H Q E h => ?_) (fun cdv A outer s H vs Q E hr h => ?_)
  · obtain ⟨x, dx, a, ns, rfl, _⟩ := h
    rfl
  · obtain ⟨x, dx, a, ns, rfl, hx, hS, q⟩ := h
    refine ⟨_, (pss_cons (ps_fld (pv 0) (pe_callTy call_list_of (by rfl) T.z_list (by decide +kernel) (pa_cons (pv 1) pa_nil)) rfl)
      (pss_one (ps_fld (pv 0) pe_int rfl))), ?_⟩
    refine ⟨_, rfl, a, _, rfl, .inl hS, fun l hl => ?_⟩
    have nxl : x ≠ l := ne_of_none hx hl
    have hx1 : upd H l (.lst (ns.map V.int)) x = some (.ins T.a_Tape dx []) := by rw [upd_ne nxl]; exact hx
    refine ⟨_, rfl, x, T.a_Tape, dx, [], rfl, hx1, T.cl_Tape, T.n_Tape_numbers, (by show 0 < 1000; decide), ?_⟩
    refine ⟨_, rfl, x, T.a_Tape, dx, _, rfl, upd_same, T.cl_Tape, T.n_Tape_at, (by show 1 < 1000; decide), ?_⟩
    refine q l _ hl (Ex.mut (Ex.mut (Ex.of (same_upd hl)) (.inr (by simp))) (.inr (by simp))) ?_ ?_
    · rw [upd_same, tapeF_mk]
    · rw [upd_ne nxl.symm, upd_ne nxl.symm, upd_same]
def tapeV (ns : List Int) (i : Int) : Int := if i < ns.length then ns.getD i.toNat 0 else 0
def sp_Tape_pick (K : PySem.W.Frag) (C : Addr) : Sp := fun vs H Q _ => ∃ (x dx l a : Addr) (i : Int) (ns ws : List Int), vs = [.ref x, .ref a] ∧ H x = some (.ins C dx (tapeF l i)) ∧ H l = some (.lst (ns.map V.int)) ∧ 0 ≤ i ∧
  SqL K H a (ws.map V.int) ∧ ws.length ≤ 1000 ∧ 0 < ws.sum ∧ ∀ H', Ex [x] H H' → H' x = some (.ins C dx (tapeF l (i + 1))) → Q (.int (numAt ws ((tapeV ns i).fmod ws.sum))) H'
theorem ok_Tape_pick (T : Txt K mg) : FnOk P w K mg base CX0 2 T.f_Tape_pick T.fd_Tape_pick ["self", "weights"] (sp_Tape_pick K T.a_Tape) := by
  refine T.F_Tape_pick.ok sc_Tape_pick (fun vs H Q E h => ?_) (fun cdv A outer s H vs Q E hr h => ?_)
  · obtain ⟨x, dx, l, a, i, ns, ws, rfl, _⟩ := h
    rfl
  · obtain ⟨x, dx, l, a, i, ns, ws, rfl, hx, hl, h0, hS, hlen, hsum, q⟩ := h
    refine ⟨_, (pss_cut (ps_set (i := 2) sc_Tape_pick.nd rfl (Or.inl rfl) (pe_ifExp (pt_cmpR op_lt (pe_fld (pv 0) rfl) (pe_callB call_len_seq (by rfl) T.z_len (by decide +kernel) (pa_cons (pe_fld (pv 0) rfl) pa_nil)) (nomark _)) (pe_ix ix_list (pe_fld (pv 0) rfl) (pe_fld (pv 0) rfl) (fun _ _ => rfl)) pe_int))
      (pss_cons (ps_fldaug (pv 0) pe_int in_add)
      (pss_one (ps_ret (pe_call (ok_number_at T) (hr.mono (by decide)) (by rfl) T.g_number_at T.F_number_at.kp T.b_number_at .nil pass0 (pa_cons (pv 1) (pa_cons (pe_op op_modN (pe_callTy call_int1 (by rfl) T.z_int (by decide +kernel) (pa_cons (pv 2) pa_nil)) (pe_callB (cr_sum rfl) (by rfl) T.z_sum (by decide +kernel) (pa_cons (pv 1) pa_nil))) pa_nil))))))), ?_⟩
    refine ⟨fun σ' H' => H' = H ∧ σ' = [some (.ref x), some (.ref a), some (.int (tapeV ns i))], ?_, ?_⟩
    · refine ⟨_, rfl, x, T.a_Tape, dx, _, _, rfl, hx, T.cl_Tape, T.n_Tape_at, tapeF_a _ _, ?_⟩
      refine ⟨_, rfl, x, T.a_Tape, dx, _, _, rfl, hx, T.cl_Tape, T.n_Tape_numbers, tapeF_n _ _, l, _, rfl, .inl (SqL.of hl), _, _, rfl, rfl, _, rfl, ite_dec (fun hc => ?_) (fun hc => ?_)⟩
      · have hc' : i < ns.length := by rw [List.length_map] at hc; exact hc
        have ht : i.toNat < ns.length := by omega
        refine ⟨_, rfl, x, T.a_Tape, dx, _, _, rfl, hx, T.cl_Tape, T.n_Tape_numbers, tapeF_n _ _, _, rfl, x, T.a_Tape, dx, _, _, rfl, hx, T.cl_Tape, T.n_Tape_at, tapeF_a _ _, ?_⟩
        refine ⟨l, _, i, .int (ns[i.toNat]), rfl, rfl, SqL.of hl, atI_int h0 (get_map (List.getElem?_eq_getElem ht)), rfl, ?_⟩
        unfold tapeV
        rw [if_pos hc', List.getD_eq_getElem?_getD, List.getElem?_eq_getElem ht]
        rfl
      · have hc' : ¬ i < ns.length := by rw [List.length_map] at hc; exact hc
        refine ⟨rfl, ?_⟩
        unfold tapeV
        rw [if_neg hc']
        rfl
    · rintro σ' H' ⟨rfl, rfl⟩
      refine ⟨_, rfl, x, T.a_Tape, dx, _, _, rfl, hx, T.cl_Tape, T.n_Tape_at, tapeF_a _ _, _, _, rfl, rfl, dx, _, hx, (by show 2 < 1000; decide), ?_⟩
      have ex1 : Ex [x] H' (upd H' x (.ins T.a_Tape dx (tapeF l (i + 1)))) := Ex.mut (Ex.refl H') (.inr (by simp))
      rw [tapeF_put]
      have hS1 : SqL K (upd H' x (.ins T.a_Tape dx (tapeF l (i + 1)))) a (ws.map V.int) := hS.stay hx (fun _ z => nomatch z) (fun _ _ z => nomatch z) ex1
      refine ⟨_, rfl, _, rfl, .inl ⟨_, rfl, _, rfl, a, ws, rfl, hS1, _, _, rfl, rfl, by omega, ?_⟩⟩
      refine ⟨a, ws, _, rfl, hS1, hlen, fun v H2 hv e2 => ?_⟩
      subst hv
      exact q H2 (ex1.trans (Ex.of e2)) (e2 _ _ upd_same)
def sp_Tape_used (K : PySem.W.Frag) (C : Addr) : Sp := fun vs H Q _ => ∃ (x dx l : Addr) (i : Int), vs = [.ref x] ∧ H x = some (.ins C dx (tapeF l i)) ∧ Q (.int i) H
theorem ok_Tape_used (T : Txt K mg) : FnOk P w K mg base CX0 1 T.f_Tape_used T.fd_Tape_used ["self"] (sp_Tape_used K T.a_Tape) := by
  refine T.F_Tape_used.ok sc_Tape_used (fun vs H Q E h => ?_) (fun cdv A outer s H vs Q E hr h => ?_)
  · obtain ⟨x, dx, l, i, rfl, _⟩ := h
    rfl
  · obtain ⟨x, dx, l, i, rfl, hx, q⟩ := h
    exact ⟨_, (pss_one (ps_ret (pe_fld (pv 0) rfl))), ⟨_, rfl, x, T.a_Tape, dx, _, _, rfl, hx, T.cl_Tape, T.n_Tape_at, tapeF_a _ _, q⟩⟩
/-! ### mixers -/
def mixF (z : Int) : List (Str × V) := [("state", .int z)]
theorem mixF_s (z : Int) : (mixF z).lookup ("state" : Str) = some (.int z) := lk_eq
theorem mixF_no (z : Int) {m : Str} (h1 : (m == "state") = false) : (mixF z).lookup m = none := (lk_ne h1).trans rfl
theorem mixF_put (z y : Int) : putF "state" (.int y) (mixF z) = mixF y := putF_eq
def mixNext (z : Int) : Int := (z * 48271).fmod 2147483647
def sp_Mixer___init__ (K : PySem.W.Frag) (C : Addr) : Sp := fun vs H Q _ => ∃ (x dx : Addr) (z : Int), vs = [.ref x, .int z] ∧ H x = some (.ins C dx []) ∧
  ∀ H', Ex [x] H H' → H' x = some (.ins C dx (mixF (z.fmod 2147483646 + 1))) → Q .non H'
theorem ok_Mixer___init__ (T : Txt K mg) : FnOk P w K mg base CX0 1 T.f_Mixer___init__ T.fd_Mixer___init__ ["self", "seed"] (sp_Mixer___init__ K T.a_Mixer) := by
  refine T.F_Mixer___init__.ok sc_Mixer___init__ (fun vs H Q E h => ?_) (fun cdv A outer s H vs Q E hr h => ?_)
  · obtain ⟨x, dx, z, rfl, _⟩ := h
    rfl
  · obtain ⟨x, dx, z, rfl, hx, q⟩ := h
    refine ⟨_, (pss_one (ps_fld (pv 0) (pe_op op_add (pe_op op_modN (pe_callTy call_int1 (by rfl) T.z_int (by decide +kernel) (pa_cons (pv 1) pa_nil)) (pe_op op_sub (pe_glob (v := .int (2147483647)) (by rfl) T.g_MODULUS ⟨_, rfl⟩) pe_int)) pe_int) rfl)), ?_⟩
    refine ⟨_, rfl, .inl ⟨_, rfl, _, _, rfl, rfl, _, _, rfl, rfl, (by show (2147483647 - 1 : Int) ≠ 0; decide), _, _, rfl, rfl, _, rfl, x, T.a_Mixer, dx, [], rfl, hx, T.cl_Mixer, T.n_Mixer_state, (by show 0 < 1000; decide), ?_⟩⟩
    exact q _ (Ex.mut (Ex.refl H) (.inr (by simp))) upd_same
def sp_Mixer_step (K : PySem.W.Frag) (C : Addr) : Sp := fun vs H Q _ => ∃ (x dx : Addr) (z : Int), vs = [.ref x] ∧ H x = some (.ins C dx (mixF z)) ∧
  ∀ H', Ex [x] H H' → H' x = some (.ins C dx (mixF (mixNext z))) → Q (.int (mixNext z)) H'
theorem ok_Mixer_step (T : Txt K mg) : FnOk P w K mg base CX0 1 T.f_Mixer_step T.fd_Mixer_step ["self"] (sp_Mixer_step K T.a_Mixer) := by
  refine T.F_Mixer_step.ok sc_Mixer_step (fun vs H Q E h => ?_) (fun cdv A outer s H vs Q E hr h => ?_)
  · obtain ⟨x, dx, z, rfl, _⟩ := h
    rfl
  · obtain ⟨x, dx, z, rfl, hx, q⟩ := h
    refine ⟨_, (pss_cons (ps_fld (pv 0) (pe_op op_modN (pe_op op_mul (pe_fld (pv 0) rfl) (pe_glob (v := .int (48271)) (by rfl) T.g_FACTOR ⟨_, rfl⟩)) (pe_glob (v := .int (2147483647)) (by rfl) T.g_MODULUS ⟨_, rfl⟩)) rfl)
      (pss_one (ps_ret (pe_fld (pv 0) rfl)))), ?_⟩
    refine ⟨_, rfl, x, T.a_Mixer, dx, _, _, rfl, hx, T.cl_Mixer, T.n_Mixer_state, mixF_s _, _, _, rfl, rfl, .inr ⟨by decide, by decide⟩, _, _, rfl, rfl, ne_big, _, rfl, x, T.a_Mixer, dx, _, rfl, hx, T.cl_Mixer, T.n_Mixer_state, (by show 1 < 1000; decide), ?_⟩
    rw [mixF_put]
    refine ⟨_, rfl, x, T.a_Mixer, dx, _, _, rfl, upd_same, T.cl_Mixer, T.n_Mixer_state, mixF_s _, ?_⟩
    exact q _ (Ex.mut (Ex.refl H) (.inr (by simp))) upd_same
theorem mixNext_b (z : Int) : 0 ≤ mixNext z ∧ mixNext z < 2147483647 := ⟨Int.fmod_nonneg_of_pos _ (by decide), Int.fmod_lt_of_pos _ (by decide)⟩
def sp_Mixer_pick (K : PySem.W.Frag) (C : Addr) : Sp := fun vs H Q _ => ∃ (x dx a : Addr) (z : Int) (ws : List Int), vs = [.ref x, .ref a] ∧ H x = some (.ins C dx (mixF z)) ∧ SqL K H a (ws.map V.int) ∧ ws.length ≤ 1000 ∧ 0 < ws.sum ∧
  ∀ H', Ex [x] H H' → H' x = some (.ins C dx (mixF (mixNext (mixNext z)))) → Q (.int (numAt ws ((mixNext z * 2147483647 + mixNext (mixNext z)).fmod ws.sum))) H'
theorem ok_Mixer_pick (T : Txt K mg) : FnOk P w K mg base CX0 2 T.f_Mixer_pick T.fd_Mixer_pick ["self", "weights"] (sp_Mixer_pick K T.a_Mixer) := by
  refine T.F_Mixer_pick.ok sc_Mixer_pick (fun vs H Q E h => ?_) (fun cdv A outer s H vs Q E hr h => ?_)
  · obtain ⟨x, dx, a, z, ws, rfl, _⟩ := h
    rfl
  · obtain ⟨x, dx, a, z, ws, rfl, hx, hS, hlen, hsum, q⟩ := h
    refine ⟨_, (pss_cons (ps_set (i := 2) sc_Mixer_pick.nd rfl (Or.inl rfl) (pe_meth0 (pv 0) T.cl_Mixer T.M_Mixer_step (ok_Mixer_step T) (hr.mono (by decide)) T.b_Mixer_step .nil pass0))
      (pss_cons (ps_set (i := 3) sc_Mixer_pick.nd rfl (Or.inl rfl) (pe_op op_add (pe_op op_mul (pv 2) (pe_glob (v := .int (2147483647)) (by rfl) T.g_MODULUS ⟨_, rfl⟩)) (pe_meth0 (pv 0) T.cl_Mixer T.M_Mixer_step (ok_Mixer_step T) (hr.mono (by decide)) T.b_Mixer_step .nil pass0)))
      (pss_one (ps_ret (pe_call (ok_number_at T) (hr.mono (by decide)) (by rfl) T.g_number_at T.F_number_at.kp T.b_number_at .nil pass0 (pa_cons (pv 1) (pa_cons (pe_op op_modN (pv 3) (pe_callB (cr_sum rfl) (by rfl) T.z_sum (by decide +kernel) (pa_cons (pv 1) pa_nil))) pa_nil))))))), ?_⟩
    have nS : (mixF z).lookup ("step" : Str) = none := mixF_no _ (by decide +kernel)
    refine ⟨_, rfl, x, dx, _, rfl, hx, nS, x, dx, z, rfl, hx, fun H1 e1 h1 => ?_⟩
    have hb := mixNext_b z
    refine ⟨_, rfl, _, _, rfl, rfl, .inl ⟨by omega, by omega⟩, ?_⟩
    refine ⟨_, rfl, x, dx, _, rfl, h1, mixF_no _ (by decide +kernel), x, dx, _, rfl, h1, fun H2 e2 h2 => ⟨_, _, rfl, rfl, ?_⟩⟩
    have hS2 : SqL K H2 a (ws.map V.int) := hS.stay hx (fun _ z => nomatch z) (fun _ _ z => nomatch z) (e1.trans e2)
    refine ⟨_, rfl, _, rfl, _, rfl, a, ws, rfl, hS2, _, _, rfl, rfl, by omega, ?_⟩
    refine ⟨a, ws, _, rfl, hS2, hlen, fun v H3 hv e3 => ?_⟩
    subst hv
    exact q H3 ((e1.trans e2).trans (Ex.of e3)) (e3 _ _ h2)
/-! ### the law's parts -/
def sp__law_tape (K : PySem.W.Frag) : Sp := fun vs H Q _ => ∃ (k : Addr × List Int) (L : Addr), vs = [.ref L] ∧ Dk K H L k ∧ ∀ H', Dk K H' L k → Q (.bl true) H'
theorem ok__law_tape (T : Txt K mg) : FnOk P w K mg base CX0 3 T.f__law_tape T.fd__law_tape ["_law_deck_here"] (sp__law_tape K) := by
  refine T.F__law_tape.ok sc__law_tape (fun vs H Q E h => ?_) (fun cdv A outer s H vs Q E hr h => ?_)
  · obtain ⟨k, L, rfl, _⟩ := h
    rfl
  · obtain ⟨k, L, rfl, hD, q⟩ := h
    refine ⟨_, (pss_cons (ps_setLc (i := 1) (own := [("_law_k", 4)]) (g := gName 4) rfl sc__law_tape.nd rfl rfl (sw_true rfl rfl rfl (by decide +kernel)) (pi_range1 (by rfl) T.z_range (pa_cons (pe_call (ok__law_draw T) (hr.mono (by decide)) (by rfl) T.g__law_draw T.F__law_draw.kp T.b__law_draw .nil pass0 (pa_cons (pv 0) (pa_cons pe_int pa_nil))) pa_nil)) (blkOk_by (own := [("_law_k", 4)]) (N := nm__law_tape) (sc := defScope s__law_tape) (by decide +kernel)) (fun _ _ _ _ _ => pg_name (i := 4) sc__law_tape.nd rfl (Or.inl rfl)) (fun _ _ _ _ _ => pts_nil) (fun _ _ _ _ _ => (pe_call (ok__law_large T) (hr.mono (by decide)) (by rfl) T.g__law_large T.F__law_large.kp T.b__law_large .nil pass0 (pa_cons (pv 0) pa_nil))))
      (pss_cons (ps_set (i := 2) sc__law_tape.nd rfl (Or.inl rfl) (pe_callTy call_list_of (by rfl) T.z_list (by decide +kernel) (pa_cons (pv 1) pa_nil)))
      (pss_cons (ps_set (i := 3) sc__law_tape.nd rfl (Or.inl rfl) (pe_make T.mk_Tape (ok_Tape___init__ T) (hr.mono (by decide)) (by rfl) T.g_Tape T.b_Tape___init__ .nil pass0 (pa_cons (pv 2) pa_nil)))
      (pss_cons (ps_expr (pe_bm PySem.F.plainAttrs_list PySem.F.slot_list_append PySem.F.type_list_append mt_append (pv 2) (pa_cons pe_int pa_nil)))
      (pss_cons (ps_for PassesOwn.never rfl (pi_range1 (by rfl) T.z_range (pa_cons (pe_op op_add (pe_callB call_len_seq (by rfl) T.z_len (by decide +kernel) (pa_cons (pv 1) pa_nil)) pe_int) pa_nil)) (pg_name (i := 4) sc__law_tape.nd rfl (Or.inl rfl))
        (pss_cons (ps_set (i := 5) sc__law_tape.nd rfl (Or.inl rfl) (pe_call (ok__law_weights T) (hr.mono (by decide)) (by rfl) T.g__law_weights T.F__law_weights.kp T.b__law_weights .nil pass0 (pa_cons (pv 0) (pa_cons pe_int pa_nil))))
        (pss_cons (ps_set (i := 6) sc__law_tape.nd rfl (Or.inl rfl) (pe_callTy call_list_of (by rfl) T.z_list (by decide +kernel) (pa_cons (pv 5) pa_nil)))
        (pss_cons (ps_set (i := 7) sc__law_tape.nd rfl (Or.inl rfl) pe_int)
        (pss_cut (ps_if (pt_cmpR op_lt (pv 4) (pe_callB call_len_seq (by rfl) T.z_len (by decide +kernel) (pa_cons (pv 1) pa_nil)) (nomark _))
          (pss_one (ps_set (i := 7) sc__law_tape.nd rfl (Or.inl rfl) (pe_ix ix_list (pv 1) (pv 4) (fun _ _ => rfl))))
          pss_nil)
        (pss_one (ps_if (PW.pt (pw_or (pt_cmpR op_ne (pe_meth0 (pv 3) T.cl_Tape T.M_Tape_used (ok_Tape_used T) (hr.mono (by decide)) T.b_Tape_used .nil pass0) (pv 4) (nomark _)) (pw_or (pt_cmpR op_ne (pe_meth (pv 3) T.cl_Tape T.M_Tape_pick (ok_Tape_pick T) (hr.mono (by decide)) T.b_Tape_pick .nil pass0 (pa_cons (pv 5) pa_nil)) (pe_call (ok__law_at T) (hr.mono (by decide)) (by rfl) T.g__law_at T.F__law_at.kp T.b__law_at .nil pass0 (pa_cons (pv 6) (pa_cons (pe_op op_modN (pe_callTy call_int1 (by rfl) T.z_int (by decide +kernel) (pa_cons (pv 7) pa_nil)) (pe_callB (cr_sum rfl) (by rfl) T.z_sum (by decide +kernel) (pa_cons (pv 6) pa_nil))) pa_nil))) (nomark _)) (pw_or1 (pt_cmpR (op_neD hr.units) (pv 5) (pv 6) (nomark _))))))
          (pss_one (ps_ret pe_bl))
          pss_nil)))))))
      (pss_one (ps_ret (pe_cmpR op_eq (pe_meth0 (pv 3) T.cl_Tape T.M_Tape_used (ok_Tape_used T) (hr.mono (by decide)) T.b_Tape_used .nil pass0) (pe_op op_add (pe_callB call_len_seq (by rfl) T.z_len (by decide +kernel) (pa_cons (pv 1) pa_nil)) pe_int) (nomark _))))))))), ?_⟩
    refine ⟨_, rfl, k, L, 7, rfl, by decide, by decide, hD, fun v H1 v0 vm e1 d1 => ⟨_, rfl, by omega, by omega, fun D hDn => ?_⟩⟩
    have nDL : D ≠ L := d1.ne hDn
    refine lc_it walk_range (fun i H' => Ex [L] H1 H' ∧ Dk K H' L k ∧ ∃ ws : List Int, H' D = some (.lst (ws.map V.int)) ∧ ws.length = i)
      ⟨Ex.of (same_upd hDn), d1.same (same_upd hDn), [], upd_same, rfl⟩ (fun _ _ _ _ => trivial) ?_ ?_
    · rintro i x Ha Hb hi ⟨e2, d2, ws, hw, hl⟩ ⟨rfl, rfl⟩
      refine ⟨rfl, w_yes ?_⟩
      refine ⟨_, rfl, k, L, rfl, d2, fun x1 H3 e3 d3 => ?_⟩
      refine ⟨_, e3.at (nin nDL) hw, by rw [List.length_map]; exact small1000 (by omega), ?_⟩
      refine ⟨Ex.mut (e2.trans e3) (.inl hDn), d3.upd d1 hDn (e2.trans e3), ws ++ [x1], ?_, by simp [hl]⟩
      rw [upd_same, List.map_append]; rfl
    · rintro H2 ⟨e2, d2, ns, hn, hl⟩
      have hl7 : ns.length ≤ 6 := by omega
      -- given = list(numbers)
      refine ⟨_, rfl, D, _, rfl, .inl (SqL.of hn), fun g hg => ?_⟩
      have e3 := same_upd (o := .lst (ns.map V.int)) hg
      have hg3 : upd H2 g (.lst (ns.map V.int)) g = some (.lst (ns.map V.int)) := upd_same
      generalize upd H2 g (.lst (ns.map V.int)) = H3 at e3 hg3 ⊢
      have d3 : Dk K H3 L k := d2.same e3
      -- Tape(given)
      refine ⟨_, rfl, fun x dx hx hdx hne => ?_⟩
      have exx : Same H3 (upd (upd H3 dx (.own x)) x (.ins T.a_Tape dx [])) := fun b o e => by
        rw [upd_ne (ne_of_none e hx), upd_ne (ne_of_none e hdx)]
        exact e
      refine ⟨x, dx, g, ns, rfl, upd_same, exx.seq (SqL.of hg3), fun l H4 hl4 e4 hx4 hlst => ⟨rfl, ?_⟩⟩
      have e34 : Same H3 H4 := fun b o e => e4 _ _ (nin (ne_of_none e hx)) (exx _ _ e)
      have hlx : l ≠ x := fun z => by rw [z, upd_same] at hl4; cases hl4
      have hl3 : H3 l = none := exx.free hl4
      have d4 : Dk K H4 L k := d3.same e34
      have hg4 : H4 g = some (.lst (ns.map V.int)) := e34 _ _ hg3
      have hn4 : H4 D = some (.lst (ns.map V.int)) := e34 _ _ (e3 _ _ hn)
      have ngl : l ≠ g := (ne_of_none hg3 hl3).symm
      have ngx : x ≠ g := (ne_of_none hg3 hx).symm
      have nDg : D ≠ g := ne_of_none hn hg
      have nDx : D ≠ x := ne_of_none (e3 _ _ hn) hx
      have nDl : D ≠ l := ne_of_none (e3 _ _ hn) hl3
      have nLg : L ≠ g := (d2.ne hg).symm
      have nLx : L ≠ x := (d3.ne hx).symm
      have nLl : L ≠ l := (d3.ne hl3).symm
      -- given.append(5)
      refine ⟨_, rfl, .inl ⟨rfl, _, SqL.of hg4⟩, g, _, _, rfl, rfl, hg4, by rw [List.length_map]; exact small1000 (by omega), ?_⟩
      have e5 : Ex [g] H4 (upd H4 g (.lst (ns.map V.int ++ [.int 5]))) := ex_put
      have d5 : Dk K (upd H4 g (.lst (ns.map V.int ++ [.int 5]))) L k := d4.ex1 d2 hg (Ex.of (e3.trans e34)) e5
      have hn5 := e5.at (nin nDg) hn4
      have hx5 := e5.at (nin ngx) hx4
      have hl5 := e5.at (nin ngl) hlst
      -- the loop
      generalize hH5 : upd H4 g (.lst (ns.map V.int ++ [.int 5])) = H5 at e5 d5 hn5 hx5 hl5 ⊢
      refine ⟨_, rfl, D, _, rfl, .inl (SqL.of hn5), _, _, rfl, rfl, _, rfl, by rw [List.length_map]; omega, by rw [List.length_map]; omega, ?_⟩
      have x2 : H2 x = none := e3.free hx
      refine for_it walk_range (fun i σ H' => ∃ a b c d, σ = [some (.ref L), some (.ref D), some (.ref g), some (.ref x), a, b, c, d] ∧ Dk K H' L k ∧ H' D = some (.lst (ns.map V.int)) ∧ H' x = some (.ins T.a_Tape dx (tapeF l i)) ∧ H' l = some (.lst (ns.map V.int)) ∧ Ex [L] H2 H')
        ⟨_, _, _, _, rfl, d5, hn5, hx5, hl5, (Ex.of (e3.trans e34)).new1 e5 hg⟩ (fun _ _ _ _ _ => trivial) ?_ ?_
      · rintro i v σ Ha Hb hi ⟨a, b, c, d, rfl, da, hna, hxa, hla, ea⟩ ⟨rfl, rfl⟩
        refine ⟨_, rfl, k, L, 5, rfl, by decide, by decide, da, fun p ws H6 hp e6 d6 hw6 ok => ?_⟩
        have nxp : p ≠ x := (ne_of_none hxa hp).symm
        have hn6 := e6.at (nin (show D ≠ L from nDL)) hna
        have hx6 := e6.at (nin nLx.symm) hxa
        have hl6 := e6.at (nin nLl.symm) hla
        -- kept = list(weights)
        refine ⟨_, rfl, p, _, rfl, .inl (SqL.of hw6), fun t ht => ?_⟩
        have e7 := same_upd (o := .lst (ws.map V.int)) ht
        have ht7 : upd H6 t (.lst (ws.map V.int)) t = some (.lst (ws.map V.int)) := upd_same
        generalize upd H6 t (.lst (ws.map V.int)) = H7 at e7 ht7 ⊢
        have d7 : Dk K H7 L k := d6.same e7
        refine ⟨fun σ' H' => H' = H7 ∧ σ' = [some (.ref L), some (.ref D), some (.ref g), some (.ref x), some (.int i), some (.ref p), some (.ref t), some (.int (tapeV ns i))], ?_, ?_⟩
        · refine ⟨_, rfl, _, rfl, D, _, rfl, .inl (SqL.of (e7 _ _ hn6)), _, _, rfl, rfl, _, rfl, ite_dec (fun hc => ?_) (fun hc => ?_)⟩
          · have hc' : ((0 : Int) + (i : Nat)) < ns.length := by rw [List.length_map] at hc; exact hc
            have ht' : i < ns.length := by omega
            refine ⟨_, rfl, _, rfl, D, _, _, .int (ns[i]), rfl, rfl, SqL.of (e7 _ _ hn6), atI_int (by omega) ?_, rfl, ?_⟩
            · rw [show ((0 : Int) + (i : Nat)).toNat = i by omega]
              exact get_map (List.getElem?_eq_getElem ht')
            · unfold tapeV
              rw [if_pos (by omega), List.getD_eq_getElem?_getD, Int.toNat_natCast, List.getElem?_eq_getElem ht']
              show [_, _, _, _, some (V.int (0 + (i : Nat))), _, _, _] = _
              rw [Int.zero_add]
              rfl
          · have hc' : ¬ ((0 : Int) + (i : Nat)) < ns.length := by rw [List.length_map] at hc; exact hc
            refine ⟨rfl, ?_⟩
            unfold tapeV
            rw [if_neg (by omega)]
            show [_, _, _, _, some (V.int (0 + (i : Nat))), _, _, _] = _
            rw [Int.zero_add]
        · rintro σ' H' ⟨rfl, rfl⟩
          -- used
          have hx7 := e7 _ _ hx6
          refine ⟨_, rfl, x, dx, _, rfl, hx7, tapeF_no _ _ (by decide +kernel) (by decide +kernel), x, dx, l, i, rfl, hx7, _, rfl, rfl, _, rfl, ?_⟩
          rw [decide_eq_true rfl]
          -- pick
          refine iteF ?_
          have hw7 : SqL K H' p (ws.map V.int) := SqL.of (e7 _ _ hw6)
          refine ⟨_, rfl, x, dx, _, rfl, hx7, tapeF_no _ _ (by decide +kernel) (by decide +kernel), _, rfl, x, dx, l, p, i, ns, ws, rfl, hx7, e7 _ _ hl6, by omega, hw7, (by have := ok.2.1; omega), ok.2.2.2.1, fun H8 e8 hx8 => ?_⟩
          have ht8 : H8 t = some (.lst (ws.map V.int)) := e8.at (nin (ne_of_none hx6 ht).symm) ht7
          have hp8 : H8 p = some (.lst (ws.map V.int)) := e8.at (nin nxp) (e7 _ _ hw6)
          refine ⟨_, rfl, _, rfl, .inl ⟨_, rfl, _, rfl, t, ws, rfl, SqL.of ht8, _, _, rfl, rfl, (by have := ok.2.2.2.1; omega), t, ws, _, rfl, SqL.of ht8, (by have := ok.2.1; omega), rfl, _, rfl, ?_⟩⟩
          rw [at_same (Int.fmod_nonneg_of_pos _ ok.2.2.2.1) (Int.fmod_lt_of_pos _ ok.2.2.2.1), decide_eq_true rfl]
          refine iteF ?_
          refine ⟨_, rfl, _, rfl, .list (ws.map .int), .list (ws.map .int), .lst (SqL.of hp8) (dp_ints ws), .lst (SqL.of ht8) (dp_ints ws), shaped_ints ws, shaped_ints ws, _, rfl, ?_⟩
          rw [eqv_ints, decide_eq_true rfl]
          have e27 : Ex [L] H2 Hb := ea
          refine iteF ⟨_, _, _, _, rfl, ?_, ?_, ?_, ?_, ?_⟩
          · exact d7.ex1 d2 x2 ((ea.trans e6).trans (Ex.of e7)) e8
          · exact e8.at (nin nDx) (e7 _ _ hn6)
          · exact hx8
          · exact e8.at (nin hlx) (e7 _ _ hl6)
          · exact ((ea.trans e6).trans (Ex.of e7)).new1 e8 x2
      · rintro σ H' ⟨a, b, c, d, rfl, da, hna, hxa, hla, ea⟩
        refine ⟨_, rfl, x, dx, _, rfl, hxa, tapeF_no _ _ (by decide +kernel) (by decide +kernel), x, dx, l, _, rfl, hxa, _, rfl, D, _, rfl, .inl (SqL.of hna), _, _, rfl, rfl, rfl, ?_⟩
        rw [decide_eq_true (by rw [List.length_map]; congr 1)]
        exact q _ da
theorem scale_sum : ∀ ws : List Int, (∀ w ∈ ws, 0 ≤ w) → 0 < ws.sum → 0 < (ws.map fun w => w * 100000000000000000000 + (if decide (0 < w) = true then 1 else 0)).sum
  | [], _, h => by simp at h
  | w :: r, h, hs => by
    have h0 : 0 ≤ w := h w List.mem_cons_self
    have hr : ∀ x ∈ r, 0 ≤ x := fun z hz => h z (List.mem_cons_of_mem _ hz)
    have nn : 0 ≤ (r.map fun w => w * 100000000000000000000 + (if decide (0 < w) = true then 1 else 0)).sum := mem_le_sum.sum_nn _ (fun x hx => by
      obtain ⟨z, hz, rfl⟩ := List.mem_map.mp hx
      have := hr z hz
      split <;> omega)
    rw [List.map_cons, List.sum_cons]
    rw [List.sum_cons] at hs
    by_cases hw : 0 < w
    · rw [decide_eq_true hw, if_pos rfl]; omega
    · have : w = 0 := by omega
      subst this
      have := scale_sum r hr (by omega)
      rw [if_neg (by simp)]; omega
def sp__law_mixer (K : PySem.W.Frag) : Sp := fun vs H Q _ => ∃ (k : Addr × List Int) (L : Addr), vs = [.ref L] ∧ Dk K H L k ∧ ∀ H', Dk K H' L k → Q (.bl true) H'
theorem ok__law_mixer (T : Txt K mg) : FnOk P w K mg base CX0 3 T.f__law_mixer T.fd__law_mixer ["_law_deck_here"] (sp__law_mixer K) := by
  refine T.F__law_mixer.ok sc__law_mixer (fun vs H Q E h => ?_) (fun cdv A outer s H vs Q E hr h => ?_)
  · obtain ⟨k, L, rfl, _⟩ := h
    rfl
  · obtain ⟨k, L, rfl, hD, q⟩ := h
    refine ⟨_, (pss_cons (ps_set (i := 1) sc__law_mixer.nd rfl (Or.inl rfl) (pe_lst (pa_cons (pe_call (ok__law_large T) (hr.mono (by decide)) (by rfl) T.g__law_large T.F__law_large.kp T.b__law_large .nil pass0 (pa_cons (pv 0) pa_nil)) (pa_cons (pe_call (ok__law_draw T) (hr.mono (by decide)) (by rfl) T.g__law_draw T.F__law_draw.kp T.b__law_draw .nil pass0 (pa_cons (pv 0) (pa_cons pe_int pa_nil))) (pa_cons pe_int (pa_cons pe_int pa_nil))))))
      (pss_cons (ps_set (i := 2) sc__law_mixer.nd rfl (Or.inl rfl) (pe_ix ix_list (pv 1) (pe_call (ok__law_draw T) (hr.mono (by decide)) (by rfl) T.g__law_draw T.F__law_draw.kp T.b__law_draw .nil pass0 (pa_cons (pv 0) (pa_cons pe_int pa_nil))) (fun _ _ => rfl)))
      (pss_cons (ps_set (i := 3) sc__law_mixer.nd rfl (Or.inl rfl) (pe_make T.mk_Mixer (ok_Mixer___init__ T) (hr.mono (by decide)) (by rfl) T.g_Mixer T.b_Mixer___init__ .nil pass0 (pa_cons (pv 2) pa_nil)))
      (pss_cons (ps_set (i := 4) sc__law_mixer.nd rfl (Or.inl rfl) (pe_op op_add (pe_op op_modN (pe_callTy call_int1 (by rfl) T.z_int (by decide +kernel) (pa_cons (pv 2) pa_nil)) pe_int) pe_int))
      (pss_cons (ps_set (i := 5) sc__law_mixer.nd rfl (Or.inl rfl) (pe_make T.mk_Mixer (ok_Mixer___init__ T) (hr.mono (by decide)) (by rfl) T.g_Mixer T.b_Mixer___init__ .nil pass0 (pa_cons (pe_op op_add (pv 2) pe_int) pa_nil)))
      (pss_cons (ps_for PassesOwn.never rfl (pi_range1 (by rfl) T.z_range (pa_cons pe_int pa_nil)) (pg_name (i := 6) sc__law_mixer.nd rfl (Or.inl rfl))
        (pss_cons (ps_set (i := 7) sc__law_mixer.nd rfl (Or.inl rfl) (pe_call (ok__law_weights T) (hr.mono (by decide)) (by rfl) T.g__law_weights T.F__law_weights.kp T.b__law_weights .nil pass0 (pa_cons (pv 0) (pa_cons pe_int pa_nil))))
        (pss_cut (ps_if (pt_cmpR op_eq (pe_call (ok__law_draw T) (hr.mono (by decide)) (by rfl) T.g__law_draw T.F__law_draw.kp T.b__law_draw .nil pass0 (pa_cons (pv 0) (pa_cons pe_int pa_nil))) pe_int (nomark _))
          (pss_one (ps_setLc (i := 7) (own := [("_law_row", 9)]) (g := gName 9) rfl sc__law_mixer.nd rfl rfl (sw_true rfl rfl rfl (by decide +kernel)) (pi_list (pv 7)) (blkOk_by (own := [("_law_row", 9)]) (N := nm__law_mixer) (sc := defScope s__law_mixer) (by decide +kernel)) (fun _ _ _ _ _ => pg_name (i := 9) sc__law_mixer.nd rfl (Or.inl rfl)) (fun _ _ _ _ _ => pts_nil) (fun _ _ _ _ _ => (pe_op op_add (pe_op op_mul (pv 9) (pe_op op_pow pe_int pe_int)) (pe_callTy call_int1 (by rfl) T.z_int (by decide +kernel) (pa_cons (pe_cmpR op_gt (pv 9) pe_int (nomark _)) pa_nil))))))
          pss_nil)
        (pss_cons (ps_set (i := 8) sc__law_mixer.nd rfl (Or.inl rfl) (pe_op op_modN (pe_op op_mul (pv 4) pe_int) pe_int))
        (pss_cons (ps_set (i := 4) sc__law_mixer.nd rfl (Or.inl rfl) (pe_op op_modN (pe_op op_mul (pv 8) pe_int) pe_int))
        (pss_cons (ps_if (pt_cmpR op_ne (pe_meth (pv 3) T.cl_Mixer T.M_Mixer_pick (ok_Mixer_pick T) (hr.mono (by decide)) T.b_Mixer_pick .nil pass0 (pa_cons (pe_callTy call_list_of (by rfl) T.z_list (by decide +kernel) (pa_cons (pv 7) pa_nil)) pa_nil)) (pe_call (ok__law_at T) (hr.mono (by decide)) (by rfl) T.g__law_at T.F__law_at.kp T.b__law_at .nil pass0 (pa_cons (pv 7) (pa_cons (pe_op op_modN (pe_callTy call_int1 (by rfl) T.z_int (by decide +kernel) (pa_cons (pe_op op_add (pe_op op_mul (pv 8) pe_int) (pv 4)) pa_nil)) (pe_callB (cr_sum rfl) (by rfl) T.z_sum (by decide +kernel) (pa_cons (pv 7) pa_nil))) pa_nil))) (nomark _))
          (pss_one (ps_ret pe_bl))
          pss_nil)
        (pss_one (ps_expr (pe_meth (pv 5) T.cl_Mixer T.M_Mixer_pick (ok_Mixer_pick T) (hr.mono (by decide)) T.b_Mixer_pick .nil pass0 (pa_cons (pv 7) pa_nil))))))))))
      (pss_one (ps_ret pe_bl)))))))), ?_⟩
    refine ⟨_, rfl, k, L, rfl, hD, fun z1 H1 e1 d1 => ?_⟩
    refine ⟨_, rfl, k, L, 3, rfl, by decide, by decide, d1, fun z2 H2 _ _ e2 d2 => ⟨by show 4 ≤ sizeLine; decide, fun g hg => ?_⟩⟩
    have e3 := same_upd (o := .lst [.int z1, .int z2, .int 2147483646, .int 2147483645]) hg
    have hg3 : upd H2 g (.lst [.int z1, .int z2, .int 2147483646, .int 2147483645]) g = some (.lst [.int z1, .int z2, .int 2147483646, .int 2147483645]) := upd_same
    generalize upd H2 g (.lst [.int z1, .int z2, .int 2147483646, .int 2147483645]) = H3 at e3 hg3 ⊢
    have d3 := d2.same e3
    have ngL : g ≠ L := d2.ne hg
    refine ⟨_, rfl, _, rfl, k, L, 4, rfl, by decide, by decide, d3, fun j H4 j0 j4 e4 d4 => ?_⟩
    have hg4 := e4.at (nin ngL) hg3
    obtain ⟨f, hf⟩ : ∃ f, atI [V.int z1, .int z2, .int 2147483646, .int 2147483645] j = some (.int f) := by
      have : j = 0 ∨ j = 1 ∨ j = 2 ∨ j = 3 := by omega
      rcases this with rfl | rfl | rfl | rfl
      · exact ⟨_, rfl⟩
      · exact ⟨_, rfl⟩
      · exact ⟨_, rfl⟩
      · exact ⟨_, rfl⟩
    refine ⟨g, _, j, _, rfl, rfl, SqL.of hg4, hf, ?_⟩
    -- Mixer(first)
    refine ⟨_, rfl, fun x dx hx hdx hne => ?_⟩
    have exx : Same H4 (upd (upd H4 dx (.own x)) x (.ins T.a_Mixer dx [])) := fun b o e => by
      rw [upd_ne (ne_of_none e hx), upd_ne (ne_of_none e hdx)]
      exact e
    refine ⟨x, dx, f, rfl, upd_same, fun H5 e5 hx5 => ⟨rfl, ?_⟩⟩
    have e45 : Same H4 H5 := fun b o e => e5 _ _ (nin (ne_of_none e hx)) (exx _ _ e)
    have d5 := d4.same e45
    have nLx : L ≠ x := (d4.ne hx).symm
    refine ⟨_, rfl, .inl ⟨_, rfl, _, _, rfl, rfl, (by show (2147483646 : Int) ≠ 0; decide), _, _, rfl, rfl, ?_⟩⟩
    -- Mixer(first + 1)
    refine ⟨_, rfl, _, _, rfl, rfl, fun y dy hy hdy hney => ?_⟩
    have exy : Same H5 (upd (upd H5 dy (.own y)) y (.ins T.a_Mixer dy [])) := fun b o e => by
      rw [upd_ne (ne_of_none e hy), upd_ne (ne_of_none e hdy)]
      exact e
    refine ⟨y, dy, _, rfl, upd_same, fun H6 e6 hy6 => ⟨rfl, ?_⟩⟩
    have e56 : Same H5 H6 := fun b o e => e6 _ _ (nin (ne_of_none e hy)) (exy _ _ e)
    have d6 := d5.same e56
    have hx6 := e56 _ _ hx5
    have nxy : x ≠ y := ne_of_none hx5 hy
    have nLy : L ≠ y := (d5.ne hy).symm
    have hy4 : H4 y = none := e45.free hy
    refine ⟨_, rfl, by decide, by decide, for_it walk_range (fun i σ H' => ∃ z w a b c d, σ = [some (.ref L), some (.ref g), some (.int f), some (.ref x), some (.int z), some (.ref y), a, b, c, d] ∧ Dk K H' L k ∧ H' x = some (.ins T.a_Mixer dx (mixF z)) ∧ H' y = some (.ins T.a_Mixer dy (mixF w)) ∧ Ex [L] H4 H')
      ⟨_, _, _, _, _, _, rfl, d6, hx6, hy6, Ex.of (e45.trans e56)⟩ (fun _ _ _ _ _ => trivial) ?_ ?_⟩
    · rintro i v σ Ha Hb hi ⟨z, u, a, b, c, d, rfl, da, hxa, hya, ea⟩ ⟨rfl, rfl⟩
      refine ⟨_, rfl, k, L, 5, rfl, by decide, by decide, da, fun p ws H7 hp e7 d7 hw7 ok => ?_⟩
      have npx : p ≠ x := (ne_of_none hxa hp).symm
      have npy : p ≠ y := (ne_of_none hya hp).symm
      have hx7 := e7.at (nin nLx.symm) hxa
      have hy7 := e7.at (nin nLy.symm) hya
      refine ⟨fun σ' H' => ∃ (t : Addr) (ws' : List Int) (d' : Option V), σ' = [some (.ref L), some (.ref g), some (.int f), some (.ref x), some (.int z), some (.ref y), some (.int i), some (.ref t), c, d'] ∧ H' t = some (.lst (ws'.map V.int)) ∧ ws'.length ≤ 1000 ∧ 0 < ws'.sum ∧ t ≠ x ∧ t ≠ y ∧ Dk K H' L k ∧ Ex [L] H7 H', ?_, ?_⟩
      · refine ⟨_, rfl, k, L, 3, rfl, by decide, by decide, d7, fun c3 H8 _ _ e8 d8 => ⟨rfl, _, rfl, ite_dec (fun hc => ?_) (fun hc => ?_)⟩⟩
        · have npL : p ≠ L := da.ne hp
          have hw8 := e8.at (nin npL) hw7
          refine ⟨_, rfl, p, rfl, ⟨_, SqL.of hw8⟩, fun D hDn => ?_⟩
          refine lc_it walk_list (fun i H' => Same H8 H' ∧ H' D = some (.lst (((ws.take i).map fun w => w * 100000000000000000000 + (if decide (0 < w) = true then 1 else 0)).map V.int)))
            ⟨same_upd hDn, upd_same⟩ (fun _ _ _ ⟨e, _⟩ => e.seq (SqL.of hw8)) ?_ ?_
          · rintro n xv Hc Hd hn ⟨e9, h9⟩ ⟨rfl, hxv⟩
            obtain ⟨zz, rfl, hzz⟩ := map_get hxv
            refine ⟨rfl, w_yes ?_⟩
            refine ⟨_, rfl, _, _, rfl, rfl, ⟨by decide, by decide, by decide⟩, _, _, rfl, rfl, .inl ?_, _, rfl, _, _, rfl, rfl, .inr ⟨_, rfl, _, _, rfl, rfl, ?_⟩⟩
            · have := ok.2.2.1 zz (List.mem_of_getElem? hzz)
              exact ⟨by omega, by omega⟩
            · refine ⟨_, h9, by rw [List.length_map, List.length_map, List.length_take]; exact small1000 (by have := ok.2.1; omega), Same.mut e9 hDn, ?_⟩
              rw [upd_same, List.take_add_one, hzz]
              simp
          · rintro H9 ⟨e9, h9⟩
            have eall : (List.map V.int ws).length = ws.length := List.length_map _
            rw [eall, List.take_length] at h9
            have nD7 : H7 D = none := e8.free (nin (d8.ne hDn)) hDn
            refine ⟨D, _, d, ?_, h9, ?_, scale_sum ws (fun w hw => (ok.2.2.1 w hw).1) ok.2.2.2.1, (ne_of_none hx7 nD7).symm, (ne_of_none hy7 nD7).symm, d8.same e9, e8.trans (Ex.of e9)⟩
            · show [_, _, _, _, _, _, some (V.int (0 + (i : Nat))), _, _, _] = _
              rw [Int.zero_add]
            · rw [List.length_map]; have := ok.2.1; omega
        · refine ⟨p, ws, d, ?_, e8.at (nin (da.ne hp)) hw7, by have := ok.2.1; omega, ok.2.2.2.1, npx, npy, d8, e8⟩
          show [_, _, _, _, _, _, some (V.int (0 + (i : Nat))), _, _, _] = _
          rw [Int.zero_add]
      · rintro σ' H' ⟨t, ws', d', rfl, ht, hlen, hsum, ntx, nty, dk, e8⟩
        -- high, state
        refine ⟨_, rfl, _, _, rfl, rfl, .inr ⟨by decide, by decide⟩, _, _, rfl, rfl, ne_big, ?_⟩
        refine ⟨_, rfl, _, _, rfl, rfl, .inr ⟨by decide, by decide⟩, _, _, rfl, rfl, ne_big, ?_⟩
        have hx8 := e8.at (nin nLx.symm) hx7
        have hy8 := e8.at (nin nLy.symm) hy7
        -- mixer.pick(list(weights))
        refine ⟨_, rfl, x, dx, _, rfl, hx8, mixF_no _ (by decide +kernel), _, rfl, t, _, rfl, .inl (SqL.of ht), fun r hr9 => ?_⟩
        have e9 := same_upd (o := .lst (ws'.map V.int)) hr9
        have h9 : upd H' r (.lst (ws'.map V.int)) r = some (.lst (ws'.map V.int)) := upd_same
        generalize upd H' r (.lst (ws'.map V.int)) = H9 at e9 h9 ⊢
        refine ⟨x, dx, r, z, ws', rfl, e9 _ _ hx8, SqL.of h9, hlen, hsum, fun H10 e10 hx10 => ?_⟩
        have ht10 : H10 t = some (.lst (ws'.map V.int)) := e10.at (nin ntx) (e9 _ _ ht)
        have hb := mixNext_b z
        refine ⟨_, rfl, _, rfl, _, _, rfl, rfl, .inl ⟨?_, ?_⟩, _, rfl, _, _, rfl, rfl, .inl ⟨_, rfl, _, rfl, t, ws', rfl, SqL.of ht10, _, _, rfl, rfl, by omega, t, ws', _, rfl, SqL.of ht10, hlen, rfl, _, rfl, ?_⟩⟩
        · show -(2 ^ 64) < mixNext z
          omega
        · show mixNext z < 2 ^ 64
          omega
        refine iteNS (congrArg V.int (at_same (Int.fmod_nonneg_of_pos _ hsum) (Int.fmod_lt_of_pos _ hsum))) ?_
        have ex4 : Ex [L] H4 H10 := ((((ea.trans e7).trans e8).trans (Ex.of e9))).new1 e10 hx
        have dk10 : Dk K H10 L k := (dk.same e9).ex1 d4 hx (((ea.trans e7).trans e8).trans (Ex.of e9)) e10
        have hy10 := e10.at (nin nxy.symm) (e9 _ _ hy8)
        refine ⟨_, rfl, y, dy, _, rfl, hy10, mixF_no _ (by decide +kernel), _, rfl, y, dy, t, u, ws', rfl, hy10, SqL.of ht10, hlen, hsum, fun H11 e11 hy11 => ?_⟩
        refine ⟨mixNext (mixNext z), mixNext (mixNext u), _, _, _, _, rfl, ?_, e11.at (nin nxy) hx10, hy11, ex4.new1 e11 hy4⟩
        exact dk10.ex1 d4 hy4 ex4 e11
    · rintro σ' H' ⟨z, u, a, b, c, d, rfl, da, hxa, hya, ea⟩
      exact q _ da
def sp_law (K : PySem.W.Frag) : Sp := fun vs H Q _ => ∃ (a : Addr) (ns : List Int), vs = [.ref a] ∧ SqL K H a (ns.map V.int) ∧ ns.length ≤ 63 ∧ ∀ H', Q (.bl true) H'
theorem ok_law (T : Txt K mg) : FnOk P w K mg base CX0 4 T.f_law T.fd_law ["_law_script"] (sp_law K) := by
  refine T.F_law.ok sc_law (fun vs H Q E h => ?_) (fun cdv A outer s H vs Q E hr h => ?_)
  · obtain ⟨a, ns, rfl, _⟩ := h
    rfl
  · obtain ⟨a, ns, rfl, hS, hlen, q⟩ := h
    refine ⟨_, (pss_cons (ps_set (i := 1) sc_law.nd rfl (Or.inl rfl) (pe_call (ok__law_deck T) (hr.mono (by decide)) (by rfl) T.g__law_deck T.F__law_deck.kp T.b__law_deck .nil pass0 (pa_cons (pv 0) pa_nil)))
      (pss_cons (ps_set (i := 2) sc_law.nd rfl (Or.inl rfl) (pe_call (ok__law_weights T) (hr.mono (by decide)) (by rfl) T.g__law_weights T.F__law_weights.kp T.b__law_weights .nil pass0 (pa_cons (pv 1) (pa_cons pe_int pa_nil))))
      (pss_cons (ps_for PassesOwn.never rfl (pi_range1 (by rfl) T.z_range (pa_cons (pe_callB (cr_sum rfl) (by rfl) T.z_sum (by decide +kernel) (pa_cons (pv 2) pa_nil)) pa_nil)) (pg_name (i := 3) sc_law.nd rfl (Or.inl rfl))
        (pss_cons (ps_set (i := 4) sc_law.nd rfl (Or.inl rfl) (pe_call (ok_number_at T) (hr.mono (by decide)) (by rfl) T.g_number_at T.F_number_at.kp T.b_number_at .nil pass0 (pa_cons (pv 2) (pa_cons (pv 3) pa_nil))))
        (pss_one (ps_if (PW.pt (pw_or (pt_cmpR op_ne (pv 4) (pe_call (ok__law_at T) (hr.mono (by decide)) (by rfl) T.g__law_at T.F__law_at.kp T.b__law_at .nil pass0 (pa_cons (pv 2) (pa_cons (pv 3) pa_nil))) (nomark _)) (pw_or1 (pt_val (pe_callB call_isi (by rfl) T.z_isinstance (by decide +kernel) (pa_cons (pv 4) (pa_cons (pe_bltn (v := .ty "bool") (by rfl) T.z_bool (by decide +kernel) rfl) pa_nil)))))))
          (pss_one (ps_ret pe_bl))
          pss_nil))))
      (pss_one (ps_ret (pe_and (pe_call (ok__law_tape T) (hr.mono (by decide)) (by rfl) T.g__law_tape T.F__law_tape.kp T.b__law_tape .nil pass0 (pa_cons (pv 1) pa_nil)) (pe_one (pe_call (ok__law_mixer T) (hr.mono (by decide)) (by rfl) T.g__law_mixer T.F__law_mixer.kp T.b__law_mixer .nil pass0 (pa_cons (pv 1) pa_nil))))))))), ?_⟩
    refine ⟨_, rfl, a, ns, rfl, hS, fun k L H1 hL e1 d1 => ?_⟩
    refine ⟨_, rfl, k, L, 5, rfl, by decide, by decide, d1, fun p ws H2 hp e2 d2 hw ok => ?_⟩
    refine ⟨_, rfl, p, ws, rfl, SqL.of hw, _, rfl, by have := ok.2.2.2.1; omega, by have := ok.2.2.2.2; omega, for_it walk_range (fun i σ H' => ∃ x y, σ = [some (.ref a), some (.ref L), some (.ref p), x, y] ∧ Same H2 H') ⟨_, _, rfl, Same.refl H2⟩ (fun _ _ _ _ _ => trivial) ?_ ?_⟩
    · rintro i v σ Ha Hb hi ⟨x, y, rfl, e3⟩ ⟨rfl, rfl⟩
      have hi' : ((0 : Int) + (i : Nat)) < ws.sum := by omega
      have hS' : SqL K Hb p (ws.map V.int) := SqL.of (e3 _ _ hw)
      have hl : ws.length ≤ 1000 := by have := ok.2.1; omega
      refine ⟨_, rfl, _, rfl, p, ws, _, rfl, hS', hl, fun v H3 hv e4 => ?_⟩
      subst hv
      have hS3 : SqL K H3 p (ws.map V.int) := SqL.of (e4 _ _ (e3 _ _ hw))
      refine ⟨_, rfl, _, rfl, _, rfl, p, ws, _, rfl, hS3, hl, rfl, _, rfl, ?_⟩
      rw [show decide (V.int (match pfind ws 0 (0 + (i : Nat)) 0 with | some i => (i : Int) | none => (ws.length : Int) - 1) = V.int (lawAt ws (0 + (i : Nat)))) = true from decide_eq_true (congrArg V.int (at_same (by omega) hi'))]
      refine iteF ?_
      refine ⟨_, rfl, _, .ty "bool", .type "int", .type "bool", false, rfl, .ty _, .base (.int _), kit_ty (by decide +kernel), _, rfl, iteF ⟨_, _, rfl, e3.trans e4⟩⟩
    · rintro σ Ha ⟨x, y, rfl, e3⟩
      refine ⟨_, rfl, k, L, rfl, d2.same e3, fun H4 d4 => ⟨_, rfl, iteT ?_⟩⟩
      exact ⟨_, rfl, k, L, rfl, d4, fun H5 _ => q H5⟩
end
theorem all_mk {l : PySem.W.OpenLaw} {w : World} {K : PySem.W.Frag} {h : Heap} {mg : Str → Option Value} {fa a_Tape a_Mixer f_number_at f_Tape___init__ f_Tape_pick f_Tape_used f_Mixer___init__ f_Mixer_step f_Mixer_pick f__law_deck f__law_draw f__law_weights f__law_at f__law_large f__law_tape f__law_mixer f_law : Addr} (X : K.In h) (G : h.Ns mainGlobals mg) (hfa : mg "law" = some (.ref fa))
    {odnumber_at annumber_at : Option Addr} {slnumber_at : Array (Option Value)} {ocnumber_at kVnumber_at dcnumber_at pmnumber_at cdnumber_at ctnumber_at : Value}
    {odTape___init__ anTape___init__ : Option Addr} {slTape___init__ : Array (Option Value)} {ocTape___init__ kVTape___init__ dcTape___init__ pmTape___init__ cdTape___init__ ctTape___init__ : Value}
    {odTape_pick anTape_pick : Option Addr} {slTape_pick : Array (Option Value)} {ocTape_pick kVTape_pick dcTape_pick pmTape_pick cdTape_pick ctTape_pick : Value}
    {odTape_used anTape_used : Option Addr} {slTape_used : Array (Option Value)} {ocTape_used kVTape_used dcTape_used pmTape_used cdTape_used ctTape_used : Value}
    {odMixer___init__ anMixer___init__ : Option Addr} {slMixer___init__ : Array (Option Value)} {ocMixer___init__ kVMixer___init__ dcMixer___init__ pmMixer___init__ cdMixer___init__ ctMixer___init__ : Value}
    {odMixer_step anMixer_step : Option Addr} {slMixer_step : Array (Option Value)} {ocMixer_step kVMixer_step dcMixer_step pmMixer_step cdMixer_step ctMixer_step : Value}
    {odMixer_pick anMixer_pick : Option Addr} {slMixer_pick : Array (Option Value)} {ocMixer_pick kVMixer_pick dcMixer_pick pmMixer_pick cdMixer_pick ctMixer_pick : Value}
    {od_law_deck an_law_deck : Option Addr} {sl_law_deck : Array (Option Value)} {oc_law_deck kV_law_deck dc_law_deck pm_law_deck cd_law_deck ct_law_deck : Value}
    {od_law_draw an_law_draw : Option Addr} {sl_law_draw : Array (Option Value)} {oc_law_draw kV_law_draw dc_law_draw pm_law_draw cd_law_draw ct_law_draw : Value}
    {od_law_weights an_law_weights : Option Addr} {sl_law_weights : Array (Option Value)} {oc_law_weights kV_law_weights dc_law_weights pm_law_weights cd_law_weights ct_law_weights : Value}
    {od_law_at an_law_at : Option Addr} {sl_law_at : Array (Option Value)} {oc_law_at kV_law_at dc_law_at pm_law_at cd_law_at ct_law_at : Value}
    {od_law_large an_law_large : Option Addr} {sl_law_large : Array (Option Value)} {oc_law_large kV_law_large dc_law_large pm_law_large cd_law_large ct_law_large : Value}
    {od_law_tape an_law_tape : Option Addr} {sl_law_tape : Array (Option Value)} {oc_law_tape kV_law_tape dc_law_tape pm_law_tape cd_law_tape ct_law_tape : Value}
    {od_law_mixer an_law_mixer : Option Addr} {sl_law_mixer : Array (Option Value)} {oc_law_mixer kV_law_mixer dc_law_mixer pm_law_mixer cd_law_mixer ct_law_mixer : Value}
    {odlaw anlaw : Option Addr} {sllaw : Array (Option Value)} {oclaw kVlaw dclaw pmlaw cdlaw ctlaw : Value}
    {t_FACTOR : Tok}
    {t_MODULUS : Tok}
    (hTape : PySem.W.nsIn K mainGlobals "Tape" = some (some (.ref a_Tape)))
    (pgTape : PySem.W.plainGet K a_Tape Str.empty = true)
    (hdTape : PySem.W.hasDictIn K a_Tape = true)
    (poTape : PySem.W.plainOver K a_Tape = true)
    (saTape : PySem.W.findIn K (.ref a_Tape) "__setattr__" = some (some (.builtin "object.__setattr__")))
    (mkTape : PySem.W.makesIn K a_Tape = true)
    (kcTape : PySem.W.keepIn K (.ref a_Tape) = true)
    (nTape_numbers : PySem.W.findIn K (.ref a_Tape) "numbers" = some none)
    (nTape_at : PySem.W.findIn K (.ref a_Tape) "at" = some none)
    (hMixer : PySem.W.nsIn K mainGlobals "Mixer" = some (some (.ref a_Mixer)))
    (pgMixer : PySem.W.plainGet K a_Mixer Str.empty = true)
    (hdMixer : PySem.W.hasDictIn K a_Mixer = true)
    (poMixer : PySem.W.plainOver K a_Mixer = true)
    (saMixer : PySem.W.findIn K (.ref a_Mixer) "__setattr__" = some (some (.builtin "object.__setattr__")))
    (mkMixer : PySem.W.makesIn K a_Mixer = true)
    (kcMixer : PySem.W.keepIn K (.ref a_Mixer) = true)
    (nMixer_state : PySem.W.findIn K (.ref a_Mixer) "state" = some none)
    (anumber_at : PySem.W.nsIn K mainGlobals "number_at" = some (some (.ref f_number_at)))
    (lnumber_at : K.lookup f_number_at = some ⟨ocnumber_at, odnumber_at, .func (PySem.W.fnOf "number_at" "number_at" (defArgs s_number_at) (defBody s_number_at) (defScope s_number_at) .none kVnumber_at dcnumber_at pmnumber_at annumber_at cdnumber_at ctnumber_at), slnumber_at⟩)
    (cnumber_at : PySem.W.codeIn K cdnumber_at "number_at" = true)
    (knumber_at : PySem.W.keepIn K (.ref f_number_at) = true)
    (aTape___init__ : PySem.W.findIn K (.ref a_Tape) "__init__" = some (some (.ref f_Tape___init__)))
    (iTape___init__ : PySem.W.isFn K (.ref f_Tape___init__) = true)
    (lTape___init__ : K.lookup f_Tape___init__ = some ⟨ocTape___init__, odTape___init__, .func (PySem.W.fnOf "__init__" "Tape.__init__" (defArgs s_Tape___init__) (defBody s_Tape___init__) (defScope s_Tape___init__) .none kVTape___init__ dcTape___init__ pmTape___init__ anTape___init__ cdTape___init__ ctTape___init__), slTape___init__⟩)
    (cTape___init__ : PySem.W.codeIn K cdTape___init__ "Tape.__init__" = true)
    (kTape___init__ : PySem.W.keepIn K (.ref f_Tape___init__) = true)
    (aTape_pick : PySem.W.findIn K (.ref a_Tape) "pick" = some (some (.ref f_Tape_pick)))
    (iTape_pick : PySem.W.isFn K (.ref f_Tape_pick) = true)
    (lTape_pick : K.lookup f_Tape_pick = some ⟨ocTape_pick, odTape_pick, .func (PySem.W.fnOf "pick" "Tape.pick" (defArgs s_Tape_pick) (defBody s_Tape_pick) (defScope s_Tape_pick) .none kVTape_pick dcTape_pick pmTape_pick anTape_pick cdTape_pick ctTape_pick), slTape_pick⟩)
    (cTape_pick : PySem.W.codeIn K cdTape_pick "Tape.pick" = true)
    (kTape_pick : PySem.W.keepIn K (.ref f_Tape_pick) = true)
    (aTape_used : PySem.W.findIn K (.ref a_Tape) "used" = some (some (.ref f_Tape_used)))
    (iTape_used : PySem.W.isFn K (.ref f_Tape_used) = true)
    (lTape_used : K.lookup f_Tape_used = some ⟨ocTape_used, odTape_used, .func (PySem.W.fnOf "used" "Tape.used" (defArgs s_Tape_used) (defBody s_Tape_used) (defScope s_Tape_used) .none kVTape_used dcTape_used pmTape_used anTape_used cdTape_used ctTape_used), slTape_used⟩)
    (cTape_used : PySem.W.codeIn K cdTape_used "Tape.used" = true)
    (kTape_used : PySem.W.keepIn K (.ref f_Tape_used) = true)
    (aMixer___init__ : PySem.W.findIn K (.ref a_Mixer) "__init__" = some (some (.ref f_Mixer___init__)))
    (iMixer___init__ : PySem.W.isFn K (.ref f_Mixer___init__) = true)
    (lMixer___init__ : K.lookup f_Mixer___init__ = some ⟨ocMixer___init__, odMixer___init__, .func (PySem.W.fnOf "__init__" "Mixer.__init__" (defArgs s_Mixer___init__) (defBody s_Mixer___init__) (defScope s_Mixer___init__) .none kVMixer___init__ dcMixer___init__ pmMixer___init__ anMixer___init__ cdMixer___init__ ctMixer___init__), slMixer___init__⟩)
    (cMixer___init__ : PySem.W.codeIn K cdMixer___init__ "Mixer.__init__" = true)
    (kMixer___init__ : PySem.W.keepIn K (.ref f_Mixer___init__) = true)
    (aMixer_step : PySem.W.findIn K (.ref a_Mixer) "step" = some (some (.ref f_Mixer_step)))
    (iMixer_step : PySem.W.isFn K (.ref f_Mixer_step) = true)
    (lMixer_step : K.lookup f_Mixer_step = some ⟨ocMixer_step, odMixer_step, .func (PySem.W.fnOf "step" "Mixer.step" (defArgs s_Mixer_step) (defBody s_Mixer_step) (defScope s_Mixer_step) .none kVMixer_step dcMixer_step pmMixer_step anMixer_step cdMixer_step ctMixer_step), slMixer_step⟩)
    (cMixer_step : PySem.W.codeIn K cdMixer_step "Mixer.step" = true)
    (kMixer_step : PySem.W.keepIn K (.ref f_Mixer_step) = true)
    (aMixer_pick : PySem.W.findIn K (.ref a_Mixer) "pick" = some (some (.ref f_Mixer_pick)))
    (iMixer_pick : PySem.W.isFn K (.ref f_Mixer_pick) = true)
    (lMixer_pick : K.lookup f_Mixer_pick = some ⟨ocMixer_pick, odMixer_pick, .func (PySem.W.fnOf "pick" "Mixer.pick" (defArgs s_Mixer_pick) (defBody s_Mixer_pick) (defScope s_Mixer_pick) .none kVMixer_pick dcMixer_pick pmMixer_pick anMixer_pick cdMixer_pick ctMixer_pick), slMixer_pick⟩)
    (cMixer_pick : PySem.W.codeIn K cdMixer_pick "Mixer.pick" = true)
    (kMixer_pick : PySem.W.keepIn K (.ref f_Mixer_pick) = true)
    (a_law_deck : PySem.W.nsIn K mainGlobals "_law_deck" = some (some (.ref f__law_deck)))
    (l_law_deck : K.lookup f__law_deck = some ⟨oc_law_deck, od_law_deck, .func (PySem.W.fnOf "_law_deck" "_law_deck" (defArgs s__law_deck) (defBody s__law_deck) (defScope s__law_deck) .none kV_law_deck dc_law_deck pm_law_deck an_law_deck cd_law_deck ct_law_deck), sl_law_deck⟩)
    (c_law_deck : PySem.W.codeIn K cd_law_deck "_law_deck" = true)
    (k_law_deck : PySem.W.keepIn K (.ref f__law_deck) = true)
    (a_law_draw : PySem.W.nsIn K mainGlobals "_law_draw" = some (some (.ref f__law_draw)))
    (l_law_draw : K.lookup f__law_draw = some ⟨oc_law_draw, od_law_draw, .func (PySem.W.fnOf "_law_draw" "_law_draw" (defArgs s__law_draw) (defBody s__law_draw) (defScope s__law_draw) .none kV_law_draw dc_law_draw pm_law_draw an_law_draw cd_law_draw ct_law_draw), sl_law_draw⟩)
    (c_law_draw : PySem.W.codeIn K cd_law_draw "_law_draw" = true)
    (k_law_draw : PySem.W.keepIn K (.ref f__law_draw) = true)
    (a_law_weights : PySem.W.nsIn K mainGlobals "_law_weights" = some (some (.ref f__law_weights)))
    (l_law_weights : K.lookup f__law_weights = some ⟨oc_law_weights, od_law_weights, .func (PySem.W.fnOf "_law_weights" "_law_weights" (defArgs s__law_weights) (defBody s__law_weights) (defScope s__law_weights) .none kV_law_weights dc_law_weights pm_law_weights an_law_weights cd_law_weights ct_law_weights), sl_law_weights⟩)
    (c_law_weights : PySem.W.codeIn K cd_law_weights "_law_weights" = true)
    (k_law_weights : PySem.W.keepIn K (.ref f__law_weights) = true)
    (a_law_at : PySem.W.nsIn K mainGlobals "_law_at" = some (some (.ref f__law_at)))
    (l_law_at : K.lookup f__law_at = some ⟨oc_law_at, od_law_at, .func (PySem.W.fnOf "_law_at" "_law_at" (defArgs s__law_at) (defBody s__law_at) (defScope s__law_at) .none kV_law_at dc_law_at pm_law_at an_law_at cd_law_at ct_law_at), sl_law_at⟩)
    (c_law_at : PySem.W.codeIn K cd_law_at "_law_at" = true)
    (k_law_at : PySem.W.keepIn K (.ref f__law_at) = true)
    (a_law_large : PySem.W.nsIn K mainGlobals "_law_large" = some (some (.ref f__law_large)))
    (l_law_large : K.lookup f__law_large = some ⟨oc_law_large, od_law_large, .func (PySem.W.fnOf "_law_large" "_law_large" (defArgs s__law_large) (defBody s__law_large) (defScope s__law_large) .none kV_law_large dc_law_large pm_law_large an_law_large cd_law_large ct_law_large), sl_law_large⟩)
    (c_law_large : PySem.W.codeIn K cd_law_large "_law_large" = true)
    (k_law_large : PySem.W.keepIn K (.ref f__law_large) = true)
    (a_law_tape : PySem.W.nsIn K mainGlobals "_law_tape" = some (some (.ref f__law_tape)))
    (l_law_tape : K.lookup f__law_tape = some ⟨oc_law_tape, od_law_tape, .func (PySem.W.fnOf "_law_tape" "_law_tape" (defArgs s__law_tape) (defBody s__law_tape) (defScope s__law_tape) .none kV_law_tape dc_law_tape pm_law_tape an_law_tape cd_law_tape ct_law_tape), sl_law_tape⟩)
    (c_law_tape : PySem.W.codeIn K cd_law_tape "_law_tape" = true)
    (k_law_tape : PySem.W.keepIn K (.ref f__law_tape) = true)
    (a_law_mixer : PySem.W.nsIn K mainGlobals "_law_mixer" = some (some (.ref f__law_mixer)))
    (l_law_mixer : K.lookup f__law_mixer = some ⟨oc_law_mixer, od_law_mixer, .func (PySem.W.fnOf "_law_mixer" "_law_mixer" (defArgs s__law_mixer) (defBody s__law_mixer) (defScope s__law_mixer) .none kV_law_mixer dc_law_mixer pm_law_mixer an_law_mixer cd_law_mixer ct_law_mixer), sl_law_mixer⟩)
    (c_law_mixer : PySem.W.codeIn K cd_law_mixer "_law_mixer" = true)
    (k_law_mixer : PySem.W.keepIn K (.ref f__law_mixer) = true)
    (alaw : PySem.W.nsIn K mainGlobals "law" = some (some (.ref f_law)))
    (llaw : K.lookup f_law = some ⟨oclaw, odlaw, .func (PySem.W.fnOf "law" "law" (defArgs s_law) (defBody s_law) (defScope s_law) .none kVlaw dclaw pmlaw anlaw cdlaw ctlaw), sllaw⟩)
    (claw : PySem.W.codeIn K cdlaw "law" = true)
    (klaw : PySem.W.keepIn K (.ref f_law) = true)
    (hFACTOR : PySem.W.nsIn K mainGlobals "FACTOR" = some (some (.int (48271) t_FACTOR)))
    (hMODULUS : PySem.W.nsIn K mainGlobals "MODULUS" = some (some (.int (2147483647) t_MODULUS)))
    (zbool : PySem.W.nsIn K mainGlobals "bool" = some none)
    (zenumerate : PySem.W.nsIn K mainGlobals "enumerate" = some none)
    (zint : PySem.W.nsIn K mainGlobals "int" = some none)
    (zisinstance : PySem.W.nsIn K mainGlobals "isinstance" = some none)
    (zlen : PySem.W.nsIn K mainGlobals "len" = some none)
    (zlist : PySem.W.nsIn K mainGlobals "list" = some none)
    (zrange : PySem.W.nsIn K mainGlobals "range" = some none)
    (zsum : PySem.W.nsIn K mainGlobals "sum" = some none)
    : ∃ fd : FuncData, (∀ (s : Shared) (v : Value), BindsTo s fd ⟨[v], []⟩ [("_law_script", v)]) ∧ ∀ base : Heap, K.In base → base.Ns mainGlobals mg → FnOk l.prog w K mg base CX0 4 fa fd ["_law_script"] (sp_law K) := by
  have e := hfa.symm.trans (PySem.W.mg_of X G alaw)
  cases e
  let T : Txt K mg := {
    a_Tape := a_Tape
    cl_Tape := ⟨pgTape, hdTape, poTape, saTape⟩
    g_Tape := PySem.W.mg_of X G hTape
    n_Tape_numbers := nTape_numbers
    n_Tape_at := nTape_at
    a_Mixer := a_Mixer
    cl_Mixer := ⟨pgMixer, hdMixer, poMixer, saMixer⟩
    g_Mixer := PySem.W.mg_of X G hMixer
    n_Mixer_state := nMixer_state
    g_number_at := PySem.W.mg_of X G anumber_at
    f_number_at := f_number_at
    fd_number_at := _
    F_number_at := fun_mk (st := s_number_at) lnumber_at cnumber_at knumber_at
    b_number_at := (fun_mk (st := s_number_at) lnumber_at cnumber_at knumber_at).binds (ps := ["weights", "place"]) fun _ _ _ _ _ _ us hl => match us, hl with | [_, _], _ => rfl
    mk_Tape := ⟨mkTape, aTape___init__, iTape___init__, kcTape⟩
    f_Tape___init__ := f_Tape___init__
    fd_Tape___init__ := _
    F_Tape___init__ := fun_mk (st := s_Tape___init__) lTape___init__ cTape___init__ kTape___init__
    b_Tape___init__ := (fun_mk (st := s_Tape___init__) lTape___init__ cTape___init__ kTape___init__).binds (ps := ["self", "numbers"]) fun _ _ _ _ _ _ us hl => match us, hl with | [_, _], _ => rfl
    M_Tape_pick := ⟨aTape_pick, iTape_pick, kTape_pick⟩
    f_Tape_pick := f_Tape_pick
    fd_Tape_pick := _
    F_Tape_pick := fun_mk (st := s_Tape_pick) lTape_pick cTape_pick kTape_pick
    b_Tape_pick := (fun_mk (st := s_Tape_pick) lTape_pick cTape_pick kTape_pick).binds (ps := ["self", "weights"]) fun _ _ _ _ _ _ us hl => match us, hl with | [_, _], _ => rfl
    M_Tape_used := ⟨aTape_used, iTape_used, kTape_used⟩
    f_Tape_used := f_Tape_used
    fd_Tape_used := _
    F_Tape_used := fun_mk (st := s_Tape_used) lTape_used cTape_used kTape_used
    b_Tape_used := (fun_mk (st := s_Tape_used) lTape_used cTape_used kTape_used).binds (ps := ["self"]) fun _ _ _ _ _ _ us hl => match us, hl with | [_], _ => rfl
    mk_Mixer := ⟨mkMixer, aMixer___init__, iMixer___init__, kcMixer⟩
    f_Mixer___init__ := f_Mixer___init__
    fd_Mixer___init__ := _
    F_Mixer___init__ := fun_mk (st := s_Mixer___init__) lMixer___init__ cMixer___init__ kMixer___init__
    b_Mixer___init__ := (fun_mk (st := s_Mixer___init__) lMixer___init__ cMixer___init__ kMixer___init__).binds (ps := ["self", "seed"]) fun _ _ _ _ _ _ us hl => match us, hl with | [_, _], _ => rfl
    M_Mixer_step := ⟨aMixer_step, iMixer_step, kMixer_step⟩
    f_Mixer_step := f_Mixer_step
    fd_Mixer_step := _
    F_Mixer_step := fun_mk (st := s_Mixer_step) lMixer_step cMixer_step kMixer_step
    b_Mixer_step := (fun_mk (st := s_Mixer_step) lMixer_step cMixer_step kMixer_step).binds (ps := ["self"]) fun _ _ _ _ _ _ us hl => match us, hl with | [_], _ => rfl
    M_Mixer_pick := ⟨aMixer_pick, iMixer_pick, kMixer_pick⟩
    f_Mixer_pick := f_Mixer_pick
    fd_Mixer_pick := _
    F_Mixer_pick := fun_mk (st := s_Mixer_pick) lMixer_pick cMixer_pick kMixer_pick
    b_Mixer_pick := (fun_mk (st := s_Mixer_pick) lMixer_pick cMixer_pick kMixer_pick).binds (ps := ["self", "weights"]) fun _ _ _ _ _ _ us hl => match us, hl with | [_, _], _ => rfl
    g__law_deck := PySem.W.mg_of X G a_law_deck
    f__law_deck := f__law_deck
    fd__law_deck := _
    F__law_deck := fun_mk (st := s__law_deck) l_law_deck c_law_deck k_law_deck
    b__law_deck := (fun_mk (st := s__law_deck) l_law_deck c_law_deck k_law_deck).binds (ps := ["_law_script"]) fun _ _ _ _ _ _ us hl => match us, hl with | [_], _ => rfl
    g__law_draw := PySem.W.mg_of X G a_law_draw
    f__law_draw := f__law_draw
    fd__law_draw := _
    F__law_draw := fun_mk (st := s__law_draw) l_law_draw c_law_draw k_law_draw
    b__law_draw := (fun_mk (st := s__law_draw) l_law_draw c_law_draw k_law_draw).binds (ps := ["_law_deck_here", "_law_most"]) fun _ _ _ _ _ _ us hl => match us, hl with | [_, _], _ => rfl
    g__law_weights := PySem.W.mg_of X G a_law_weights
    f__law_weights := f__law_weights
    fd__law_weights := _
    F__law_weights := fun_mk (st := s__law_weights) l_law_weights c_law_weights k_law_weights
    b__law_weights := (fun_mk (st := s__law_weights) l_law_weights c_law_weights k_law_weights).binds (ps := ["_law_deck_here", "_law_most"]) fun _ _ _ _ _ _ us hl => match us, hl with | [_, _], _ => rfl
    g__law_at := PySem.W.mg_of X G a_law_at
    f__law_at := f__law_at
    fd__law_at := _
    F__law_at := fun_mk (st := s__law_at) l_law_at c_law_at k_law_at
    b__law_at := (fun_mk (st := s__law_at) l_law_at c_law_at k_law_at).binds (ps := ["_law_weights_here", "_law_place"]) fun _ _ _ _ _ _ us hl => match us, hl with | [_, _], _ => rfl
    g__law_large := PySem.W.mg_of X G a_law_large
    f__law_large := f__law_large
    fd__law_large := _
    F__law_large := fun_mk (st := s__law_large) l_law_large c_law_large k_law_large
    b__law_large := (fun_mk (st := s__law_large) l_law_large c_law_large k_law_large).binds (ps := ["_law_deck_here"]) fun _ _ _ _ _ _ us hl => match us, hl with | [_], _ => rfl
    g__law_tape := PySem.W.mg_of X G a_law_tape
    f__law_tape := f__law_tape
    fd__law_tape := _
    F__law_tape := fun_mk (st := s__law_tape) l_law_tape c_law_tape k_law_tape
    b__law_tape := (fun_mk (st := s__law_tape) l_law_tape c_law_tape k_law_tape).binds (ps := ["_law_deck_here"]) fun _ _ _ _ _ _ us hl => match us, hl with | [_], _ => rfl
    g__law_mixer := PySem.W.mg_of X G a_law_mixer
    f__law_mixer := f__law_mixer
    fd__law_mixer := _
    F__law_mixer := fun_mk (st := s__law_mixer) l_law_mixer c_law_mixer k_law_mixer
    b__law_mixer := (fun_mk (st := s__law_mixer) l_law_mixer c_law_mixer k_law_mixer).binds (ps := ["_law_deck_here"]) fun _ _ _ _ _ _ us hl => match us, hl with | [_], _ => rfl
    g_law := PySem.W.mg_of X G alaw
    f_law := fa
    fd_law := _
    F_law := fun_mk (st := s_law) llaw claw klaw
    b_law := (fun_mk (st := s_law) llaw claw klaw).binds (ps := ["_law_script"]) fun _ _ _ _ _ _ us hl => match us, hl with | [_], _ => rfl
    t_FACTOR := t_FACTOR
    g_FACTOR := PySem.W.mg_of X G hFACTOR
    t_MODULUS := t_MODULUS
    g_MODULUS := PySem.W.mg_of X G hMODULUS
    z_bool := PySem.W.mg_none_of X G zbool
    z_enumerate := PySem.W.mg_none_of X G zenumerate
    z_int := PySem.W.mg_none_of X G zint
    z_isinstance := PySem.W.mg_none_of X G zisinstance
    z_len := PySem.W.mg_none_of X G zlen
    z_list := PySem.W.mg_none_of X G zlist
    z_range := PySem.W.mg_none_of X G zrange
    z_sum := PySem.W.mg_none_of X G zsum }
  exact ⟨T.fd_law, fun s v => .of_eq rfl, fun base _ _ => ok_law T⟩
end Sam
open PySem PySem.W PyProof.Rows
set_option maxHeartbeats 0 in
theorem PySem.Challenge.cw_samphire_k09_picks_of_tapes_and_mixers_holds : PySem.Challenge.rw_samphire_k09_picks_of_tapes_and_mixers.Holds := by
  w_on; o_law; k_head; (case hw => w_witness2)
  k_fill
  refine L2.walk_of (l := PySem.Challenge.rw_samphire_k09_picks_of_tapes_and_mixers) (n := 63) (k := 4) (x := "_law_script") (CX := fun _ => L2.CX0) (sp := fun w => Sam.sp_law _) rfl (by decide) rfl ⟨rfl, by decide, by decide⟩ (fun w h Y => PySem.W.kIn_of Y) ?F (fun _ _ a ns hl _ hS => ⟨a, ns, rfl, hS, hl, fun _ => rfl⟩) (fun _ _ _ _ _ h => h)
  case F =>
    intro w mg fa h KX G hmg
    refine' Sam.all_mk KX G hmg ?hTape ?pgTape ?hdTape ?poTape ?saTape ?mkTape ?kcTape ?nTape_numbers ?nTape_at ?hMixer ?pgMixer ?hdMixer ?poMixer ?saMixer ?mkMixer ?kcMixer ?nMixer_state ?anumber_at ?lnumber_at ?cnumber_at ?knumber_at ?aTape___init__ ?iTape___init__ ?lTape___init__ ?cTape___init__ ?kTape___init__ ?aTape_pick ?iTape_pick ?lTape_pick ?cTape_pick ?kTape_pick ?aTape_used ?iTape_used ?lTape_used ?cTape_used ?kTape_used ?aMixer___init__ ?iMixer___init__ ?lMixer___init__ ?cMixer___init__ ?kMixer___init__ ?aMixer_step ?iMixer_step ?lMixer_step ?cMixer_step ?kMixer_step ?aMixer_pick ?iMixer_pick ?lMixer_pick ?cMixer_pick ?kMixer_pick ?a_law_deck ?l_law_deck ?c_law_deck ?k_law_deck ?a_law_draw ?l_law_draw ?c_law_draw ?k_law_draw ?a_law_weights ?l_law_weights ?c_law_weights ?k_law_weights ?a_law_at ?l_law_at ?c_law_at ?k_law_at ?a_law_large ?l_law_large ?c_law_large ?k_law_large ?a_law_tape ?l_law_tape ?c_law_tape ?k_law_tape ?a_law_mixer ?l_law_mixer ?c_law_mixer ?k_law_mixer ?alaw ?llaw ?claw ?klaw ?hFACTOR ?hMODULUS ?zbool ?zenumerate ?zint ?zisinstance ?zlen ?zlist ?zrange ?zsum
    (case hTape => k_is)
    (case pgTape => k_is)
    (case hdTape => k_is)
    (case poTape => k_is)
    (case saTape => k_is)
    (case mkTape => k_is)
    (case kcTape => k_is)
    (case nTape_numbers => k_is)
    (case nTape_at => k_is)
    (case hMixer => k_is)
    (case pgMixer => k_is)
    (case hdMixer => k_is)
    (case poMixer => k_is)
    (case saMixer => k_is)
    (case mkMixer => k_is)
    (case kcMixer => k_is)
    (case nMixer_state => k_is)
    (case anumber_at => k_is)
    (case lnumber_at => k_is)
    (case cnumber_at => k_is)
    (case knumber_at => k_is)
    (case aTape___init__ => k_is)
    (case iTape___init__ => k_is)
    (case lTape___init__ => k_is)
    (case cTape___init__ => k_is)
    (case kTape___init__ => k_is)
    (case aTape_pick => k_is)
    (case iTape_pick => k_is)
    (case lTape_pick => k_is)
    (case cTape_pick => k_is)
    (case kTape_pick => k_is)
    (case aTape_used => k_is)
    (case iTape_used => k_is)
    (case lTape_used => k_is)
    (case cTape_used => k_is)
    (case kTape_used => k_is)
    (case aMixer___init__ => k_is)
    (case iMixer___init__ => k_is)
    (case lMixer___init__ => k_is)
    (case cMixer___init__ => k_is)
    (case kMixer___init__ => k_is)
    (case aMixer_step => k_is)
    (case iMixer_step => k_is)
    (case lMixer_step => k_is)
    (case cMixer_step => k_is)
    (case kMixer_step => k_is)
    (case aMixer_pick => k_is)
    (case iMixer_pick => k_is)
    (case lMixer_pick => k_is)
    (case cMixer_pick => k_is)
    (case kMixer_pick => k_is)
    (case a_law_deck => k_is)
    (case l_law_deck => k_is)
    (case c_law_deck => k_is)
    (case k_law_deck => k_is)
    (case a_law_draw => k_is)
    (case l_law_draw => k_is)
    (case c_law_draw => k_is)
    (case k_law_draw => k_is)
    (case a_law_weights => k_is)
    (case l_law_weights => k_is)
    (case c_law_weights => k_is)
    (case k_law_weights => k_is)
    (case a_law_at => k_is)
    (case l_law_at => k_is)
    (case c_law_at => k_is)
    (case k_law_at => k_is)
    (case a_law_large => k_is)
    (case l_law_large => k_is)
    (case c_law_large => k_is)
    (case k_law_large => k_is)
    (case a_law_tape => k_is)
    (case l_law_tape => k_is)
    (case c_law_tape => k_is)
    (case k_law_tape => k_is)
    (case a_law_mixer => k_is)
    (case l_law_mixer => k_is)
    (case c_law_mixer => k_is)
    (case k_law_mixer => k_is)
    (case alaw => k_is)
    (case llaw => k_is)
    (case claw => k_is)
    (case klaw => k_is)
    (case hFACTOR => k_is)
    (case hMODULUS => k_is)
    (case zbool => k_is)
    (case zenumerate => k_is)
    (case zint => k_is)
    (case zisinstance => k_is)
    (case zlen => k_is)
    (case zlist => k_is)
    (case zrange => k_is)
    (case zsum => k_is)
