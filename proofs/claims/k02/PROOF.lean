import PyProof.Rows.All
import Wide.All
import OpenK.AllK
import Wide.FinOn
import HandS.ForMost
import HandS.Walk
import HandS.Wide
import HandS.IsInst
import HandS.Codes
import HandS.Rev
import HandS.Steps
import PySem.Challenge.RW_samphire_k02_conditions_hold
set_option Elab.async false
set_option linter.all false
set_option maxRecDepth 100000
namespace Sam
end Sam
namespace SamRev
open PySem PySem.Spec PyProof.Rows L2 RT
/-! ### list(reversed(xs)): the list's own machine over a reversed list's iterator -/
section
variable {prog : Program} {w : World} {A : Around} {E : Value → Shared → Prop} {s : Shared} {it l : Addr} {items : Array Value}
/-- an empty list at S is extended by it -/
theorem extend_rev {R : Result → Shared → Prop} (hh : A.handled = none) (hit : s.heap.IsRevIter it l ((items.size : Int) - 1)) (hl : s.heap.IsList l items) (hne : l ≠ it)
    (hn : items.size ≤ sizeLine) (S : Addr) (res : Value) (c₀ : Nat) (hS : s.heap.get? S = some { cls := .type "list", data := .seq #[] c₀ }) (hSi : S ≠ it) (hSl : S ≠ l)
    (hR : ∀ h' tk acc' c', (∀ b o, b ≠ S → b ≠ it → s.heap.get? b = some o → h'.get? b = some o) →
      h'.get? S = some { cls := .type "list", dict := none, data := .seq acc' c', slots := #[] } →
      ItemsOf (fun i v => items[items.size - 1 - i]? = some v) acc' items.size → R (.ok (.ret res)) { s with heap := h', toks := tk }) :
    wpAny (model prog w) A.in1 (Builtin.List.listExtendWith (.ref S) (.ref it) res)
      (fun fin s' => match fin with | .done f => R (.ok f) s' | .again c' => c'.quiet = true ∧ codeAny (model prog w) A c' R s')
      (fun e s' => R (.error e) s') s := by
  have W := (Walks.listRev (prog := prog) (w := w) (A := A.in1) hh it l hne items).toS
  have nS : S ∉ [it, l] := by
    simp only [List.mem_cons, List.not_mem_nil, or_false, not_or]
    exact ⟨hSi, hSl⟩
  have same : Builtin.List.listSameRef (.ref S) (.ref it) = false := by
    simp [Builtin.List.listSameRef, hSi]
  unfold Builtin.List.listExtendWith
  refine wpAny_bind (wpAny_typeOf hit.typeIs ?_)
  rw [if_neg (by rw [same]; decide)]
  refine wpAny_bind (wpAny_pyIter_revIter hit ?_)
  refine wpAny_bind (wpAny_holding ?_)
  unfold Builtin.List.listLengthHint
  refine wpAny_bind (wpAny_specialOf hit.typeIs nolen_lri ?_)
  show wpAny _ A.in1 (specialOf (.ref it) (Str.ofString "__length_hint__") >>= _) _ _ _
  refine wpAny_bind (wpAny_specialOf hit.typeIs hint_lri ?_)
  generalize hid : ("list_reverseiterator.__length_hint__" : String) = id0
  wp_delta
  have spl : splitId id0 = some ("list_reverseiterator", "__length_hint__") := by
    subst hid
    decide +kernel
  rw [spl]
  subst hid
  refine wpAny_bind (wpAny_isInstance (b := true) hit.typeIs (by rw [isSubtype_type]; kernel_rfl) ?_)
  refine wpAny_pure ?_
  rw [if_neg (by decide)]
  have e0 : ((items.size : Nat) : Int) - 1 - ((0 : Nat) : Int) = (items.size : Int) - 1 := by
    omega
  refine wpAny_pure ⟨plainId_quiet F.plain_extend_loop _, ?_⟩
  refine codeAny_extend_loopS W hn _ nS _ items.size 0 _ _ _ rfl (Nat.zero_le _)
    ⟨Nat.zero_le _, by rw [e0]; exact hit, hl⟩ hS (ItemsOf.nil _) fun s' acc' c' hm hS' hacc => ?_
  rw [Moved.eq_with hm]
  refine hR s'.heap s'.toks acc' c' (fun b o hb hb2 e => hm.heap b o (fun hmem => ?_) e) hS' hacc
  rcases List.mem_cons.mp hmem with e' | hmem
  · exact hb e'
  · exact hb2 (List.mem_singleton.mp hmem)
theorem init_rev {R : Result → Shared → Prop} (hh : A.handled = none) (hit : s.heap.IsRevIter it l ((items.size : Int) - 1)) (hl : s.heap.IsList l items) (hne : l ≠ it)
    (hn : items.size ≤ sizeLine) (S : Addr) (hS : s.heap.get? S = some { cls := .type "list", data := .seq #[] }) (hSi : S ≠ it) (hSl : S ≠ l)
    (hR : ∀ h' tk acc' c', (∀ b o, b ≠ S → b ≠ it → s.heap.get? b = some o → h'.get? b = some o) →
      h'.get? S = some { cls := .type "list", dict := none, data := .seq acc' c', slots := #[] } →
      ItemsOf (fun i v => items[items.size - 1 - i]? = some v) acc' items.size → R (.ok (.ret .none)) { s with heap := h', toks := tk }) :
    wpAny (model prog w) A.in1 (Builtin.«list.__init__» ⟨[.ref S, .ref it], []⟩)
      (fun fin s' => match fin with | .done f => R (.ok f) s' | .again c' => c'.quiet = true ∧ codeAny (model prog w) A c' R s')
      (fun e s' => R (.error e) s') s := by
  show wpAny _ _ (do
    let old ← Builtin.List.listItems (.ref S)
    Builtin.List.listUpdate (.ref S) (fun _ => #[])
    letGo old.toList.reverse
    Builtin.List.listExtendWith (.ref S) (.ref it) .none) _ _ s
  refine wpAny_bind ?_
  unfold Builtin.List.listItems
  refine wpAny_bind (wpAny_seqItems hS rfl (wpAny_pure ?_))
  show wpAny _ _ (updateSeq S (fun _ => #[]) >>= fun _ =>
    letGo (#[] : Array Value).toList.reverse >>= fun _ =>
    Builtin.List.listExtendWith (.ref S) (.ref it) .none) _ _ s
  refine wpAny_bind (wpAny_updateSeq hS rfl ?_)
  have hS2 := Heap.get?_update_self (Obj.mapSeq (fun _ => (#[] : Array Value))) hS rfl
  have oth : ∀ b o, b ≠ S → s.heap.get? b = some o →
      (s.heap.update S (Obj.mapSeq (fun _ => (#[] : Array Value)))).get? b = some o :=
    fun b o hb e => (Heap.get?_update_other _ _ (Ne.symm hb)).trans e
  refine wpAny_bind (wpAny_letGo ?_)
  have hl' := hl
  obtain ⟨ol, hol, hcl, nl, hdl⟩ := hl'
  refine extend_rev (s := { s with heap := s.heap.update S (Obj.mapSeq (fun _ => (#[] : Array Value))) }) hh
    (hit.at fun o e => oth it o (Ne.symm hSi) e) ⟨ol, oth l _ (Ne.symm hSl) hol, hcl, nl, hdl⟩ hne hn S .none _ hS2 hSi hSl
    fun h' tk acc' c' hk hS' hacc => ?_
  exact hR h' tk acc' c' (fun b o hb hb2 e => hk b o hb hb2 (oth b o hb e)) hS' hacc
theorem call_list_rev {Q : Value → Shared → Prop} (hh : A.handled = none) (hit : s.heap.IsRevIter it l ((items.size : Int) - 1)) (hl : s.heap.IsList l items) (hne : l ≠ it)
    (hn : items.size ≤ sizeLine)
    (hQ : ∀ h' tk acc' c', (∀ b o, b ≠ it → s.heap.get? b = some o → h'.get? b = some o) →
      h'.get? s.heap.objs.size = some { cls := .type "list", dict := none, data := .seq acc' c', slots := #[] } →
      ItemsOf (fun i v => items[items.size - 1 - i]? = some v) acc' items.size → Q (.ref s.heap.objs.size) { s with heap := h', toks := tk }) :
    wpAny (model prog w) A (call (.type "list") [.ref it]) Q E s := by
  refine callType_codes (Q₁ := fun obj s₁ => obj = .ref s.heap.objs.size ∧
      s₁ = { s with heap := s.heap.push { cls := .type "list", data := .seq #[] } })
    F.called_list (F.typeCall_list_1 _) F.entry_list_init (code_list_new _ ⟨rfl, rfl⟩) fun obj s₁ h₁ => ?_
  obtain ⟨rfl, rfl⟩ := h₁
  have hS : (s.heap.push { cls := .type "list", data := .seq #[] }).get? s.heap.objs.size =
      some { cls := .type "list", data := .seq #[] } := Heap.get?_push_size _ rfl
  obtain ⟨oi, hoi, _⟩ := id hit
  obtain ⟨ol, hol, _⟩ := id hl
  refine ⟨⟨_, hS, rfl⟩, F.args_list_init_2 _ _, ?_⟩
  refine init_rev (A := A.in1) (s := { s with heap := s.heap.push { cls := .type "list", data := .seq #[] } }) hh
    (hit.at fun o e => Heap.get?_push_of_some _ e) (hl.push _) hne hn _ hS
    (Nat.ne_of_gt (Heap.lt_size hoi)) (Nat.ne_of_gt (Heap.lt_size hol)) fun h' tk acc' c' hk hS' hacc => ?_
  exact ⟨rfl, hQ h' tk acc' c' (fun b o hb e =>
    hk b o (Nat.ne_of_lt (Heap.lt_size e)) hb (Heap.get?_push_of_some _ e)) hS' hacc⟩
end
/-- list(reversed(x)), x a list: a new list -/
def tLstRev (K : PySem.W.Frag) (te : TE) : TE := fun σ H Q => te σ H fun v H1 => ∃ (a : Addr) (xs : List V), v = .ref a ∧ SqL K H1 a xs ∧ ∀ q, H1 q = none → Q (.ref q) (upd H1 q (.lst xs.reverse))
section
variable {X : Cx}
theorem pe_listRev {e : Expr} {te : TE} {p p2 pos pos2 : Pos} (hc : X.calm = true) (hg : Gl X "list") (hm : X.mg "list" = none) (hg2 : Gl X "reversed") (hm2 : X.mg "reversed" = none) (he : PE X e te)
    (hs : starEach [e] X.env = (false, eval e X.env) :: starEach [] X.env := by rfl)
    (hs2 : starEach [.Call (.Name "reversed" p2) [e] [] pos2] X.env =
      (false, eval (.Call (.Name "reversed" p2) [e] [] pos2) X.env) :: starEach [] X.env := by rfl) :
    PE X (.Call (.Name "list" p) [.Call (.Name "reversed" p2) [e] [] pos2] [] pos) (tLstRev X.K te) := by
  refine ⟨fun pins s σ H Q I h => ?_⟩
  refine Call_ (ld_blt I hg hm boot_list (PyProof.Rows.callWith_type1 (args_cons (Call_ (ld_blt I hg2 hm2
    PyProof.Rows.boot_reversed (PyProof.Rows.callWith_type1 (args_cons (thn (he.run pins s σ H _ I h)
      fun u s1 ⟨v, H1, I1, r1, q1⟩ => args_nil ?_) hs) hs rfl))) hs2) hs2 rfl))
  obtain ⟨a, xs, rfl, hq, q⟩ := q1
  obtain rfl : u = Value.ref a := r1
  obtain ⟨its, rv, p', hz⟩ := I1.list hq
  refine call_reversed_list p'.isList (args_nil ?_)
  have k0 : ∀ b o, s1.heap.get? b = some o →
      (s1.heap.push (revObj a ((its.toArray.size : Int) - 1))).get? b = some o := fun b o e => Heap.get?_push_of_some _ e
  have I2 : Inv X pins σ H1 { s1 with heap := s1.heap.push (revObj a ((its.toArray.size : Int) - 1)) } :=
    I1.kept (t' := s1.toks) k0
  have hit : (s1.heap.push (revObj a ((its.toArray.size : Int) - 1))).IsRevIter s1.heap.objs.size a ((its.toArray.size : Int) - 1) :=
    ⟨_, Heap.get?_push_size _ rfl, rfl, rfl⟩
  obtain ⟨oa, hoa, _⟩ := id p'.isList
  have hne : a ≠ s1.heap.objs.size := Nat.ne_of_lt (Heap.lt_size hoa)
  have hz' : its.toArray.size ≤ sizeLine := by
    rw [List.size_toArray, ← rv.length]
    exact hz
  have fp : FpOk X pins H1 s1.heap.objs.size :=
    I1.fpOk (H' := H1) (b := s1.heap.objs.size) (Nat.le_refl _) (I1.hok.fresh (Nat.le_refl _))
  refine call_list_rev (s := { s1 with heap := s1.heap.push (revObj a ((its.toArray.size : Int) - 1)) })
    (I1.ok.hd hc) hit (p'.isList.push _) hne hz' fun h' tk acc c' hk hS hi => ?_
  have hT : s1.heap.objs.size ≤ (s1.heap.push (revObj a ((its.toArray.size : Int) - 1))).objs.size := by
    rw [Heap.size_push]
    exact Nat.le_succ _
  have new : ObjOk X.prog X.w (upd H1 (s1.heap.push (revObj a ((its.toArray.size : Int) - 1))).objs.size (.lst xs.reverse)) h'
      (s1.heap.push (revObj a ((its.toArray.size : Int) - 1))).objs.size (.lst xs.reverse) :=
    ⟨by rw [List.length_reverse]; exact hz, acc.toList, c', vals_rev rv hi, by rw [Array.toArray_toList]; exact hS⟩
  have I3 := I2.turnedNew (t' := tk) (ch := [s1.heap.objs.size]) (T := (s1.heap.push (revObj a ((its.toArray.size : Int) - 1))).objs.size)
    (ob := .lst xs.reverse) (h' := h') (fun b o hb e => hk b o (fun z => hb (List.mem_singleton.mpr z)) e)
    (fun b hb => by rw [List.mem_singleton.mp hb]; exact fp) (Nat.le_refl _) new
  exact ⟨.ref _, _, I3, rfl, q _ (I2.hok.fresh (Nat.le_refl _))⟩
end
end SamRev
namespace Sam
open SamRev

open PySem PySem.Spec PyProof.Rows L2
open C8 (pss_cut tCut)
def topS (i : Nat) : Stmt := PySem.Challenge.pw_samphire_k02_conditions_hold.main.body.getD i (.Pass ⟨0, 0, 0, 0⟩)
abbrev s_compares : Stmt := (topS 1)
abbrev nm_compares : List Str := ["number", "order", "other"]
theorem sc_compares : FnScope ["number", "order", "other"] ["number", "order", "other"] (defScope s_compares) := ⟨rfl, rfl, rfl, by decide +kernel, rfl, by decide +kernel, by decide +kernel⟩
abbrev s_held : Stmt := (topS 2)
abbrev nm_held : List Str := ["condition", "item", "word"]
theorem sc_held : FnScope ["condition", "item", "word"] ["condition", "item"] (defScope s_held) := ⟨rfl, rfl, rfl, by decide +kernel, rfl, by decide +kernel, by decide +kernel⟩
abbrev s_held_items : Stmt := (topS 3)
abbrev nm_held_items : List Str := ["condition", "rows", "row"]
theorem sc_held_items : FnScope ["condition", "rows", "row"] ["condition", "rows"] (defScope s_held_items) := ⟨rfl, rfl, rfl, by decide +kernel, rfl, by decide +kernel, by decide +kernel⟩
abbrev s__law_draws : Stmt := (topS 5)
abbrev nm__law_draws : List Str := ["_law_script", "_law_draws_here", "_law_cell", "_law_number_here", "_law_first", "_law_k", "_law_seed"]
theorem sc__law_draws : FnScope ["_law_script", "_law_draws_here", "_law_cell", "_law_number_here", "_law_first", "_law_k", "_law_seed"] ["_law_script"] (defScope s__law_draws) := ⟨rfl, rfl, rfl, by decide +kernel, rfl, by decide +kernel, by decide +kernel⟩
abbrev s__law_take : Stmt := (topS 6)
abbrev nm__law_take : List Str := ["_law_draws_here", "_law_bound"]
theorem sc__law_take : FnScope ["_law_draws_here", "_law_bound"] ["_law_draws_here", "_law_bound"] (defScope s__law_take) := ⟨rfl, rfl, rfl, by decide +kernel, rfl, by decide +kernel, by decide +kernel⟩
abbrev s__law_same : Stmt := (topS 7)
abbrev nm__law_same : List Str := ["_law_actual", "_law_due", "_law_k"]
theorem sc__law_same : FnScope ["_law_actual", "_law_due", "_law_k"] ["_law_actual", "_law_due"] (defScope s__law_same) := ⟨rfl, rfl, rfl, by decide +kernel, rfl, by decide +kernel, by decide +kernel⟩
abbrev s__law_name : Stmt := (topS 8)
abbrev nm__law_name : List Str := ["_law_draws_here"]
theorem sc__law_name : FnScope ["_law_draws_here"] ["_law_draws_here"] (defScope s__law_name) := ⟨rfl, rfl, rfl, by decide +kernel, rfl, by decide +kernel, by decide +kernel⟩
abbrev s__law_items : Stmt := (topS 9)
abbrev nm__law_items : List Str := ["_law_draws_here", "_law_most", "_law_found", "_law_keys", "_law_k", "_law_key", "_law_weight", "_law_amount"]
theorem sc__law_items : FnScope ["_law_draws_here", "_law_most", "_law_found", "_law_keys", "_law_k", "_law_key", "_law_weight", "_law_amount"] ["_law_draws_here", "_law_most"] (defScope s__law_items) := ⟨rfl, rfl, rfl, by decide +kernel, rfl, by decide +kernel, by decide +kernel⟩
abbrev s__law_number : Stmt := (topS 10)
abbrev nm__law_number : List Str := ["_law_draws_here"]
theorem sc__law_number : FnScope ["_law_draws_here"] ["_law_draws_here"] (defScope s__law_number) := ⟨rfl, rfl, rfl, by decide +kernel, rfl, by decide +kernel, by decide +kernel⟩
abbrev s__law_condition : Stmt := (topS 11)
abbrev nm__law_condition : List Str := ["_law_draws_here", "_law_depth", "_law_kind", "_law_first"]
theorem sc__law_condition : FnScope ["_law_draws_here", "_law_depth", "_law_kind", "_law_first"] ["_law_draws_here", "_law_depth"] (defScope s__law_condition) := ⟨rfl, rfl, rfl, by decide +kernel, rfl, by decide +kernel, by decide +kernel⟩
abbrev s__law_held : Stmt := (topS 12)
abbrev nm__law_held : List Str := ["_law_condition_here", "_law_item", "_law_word", "_law_number_here", "_law_sign", "_law_first", "_law_second"]
theorem sc__law_held : FnScope ["_law_condition_here", "_law_item", "_law_word", "_law_number_here", "_law_sign", "_law_first", "_law_second"] ["_law_condition_here", "_law_item"] (defScope s__law_held) := ⟨rfl, rfl, rfl, by decide +kernel, rfl, by decide +kernel, by decide +kernel⟩
abbrev s__law_near : Stmt := (topS 13)
abbrev nm__law_near : List Str := ["_law_draws_here", "_law_condition_here", "_law_items_here", "_law_item"]
theorem sc__law_near : FnScope ["_law_draws_here", "_law_condition_here", "_law_items_here", "_law_item"] ["_law_draws_here", "_law_condition_here", "_law_items_here"] (defScope s__law_near) := ⟨rfl, rfl, rfl, by decide +kernel, rfl, by decide +kernel, by decide +kernel⟩
abbrev s_law : Stmt := (topS 14)
abbrev nm_law : List Str := ["_law_script", "_law_draws_here", "_law_items_here", "_law_turn", "_law_condition_here", "_law_kept", "_law_due", "_law_item", "_law_k"]
theorem sc_law : FnScope ["_law_script", "_law_draws_here", "_law_items_here", "_law_turn", "_law_condition_here", "_law_kept", "_law_due", "_law_item", "_law_k"] ["_law_script"] (defScope s_law) := ⟨rfl, rfl, rfl, by decide +kernel, rfl, by decide +kernel, by decide +kernel⟩
/-! ### own layer: what stays, new objects, steps -/
/-- all that was tracked outside F is as it was -/
def Ex (F : List Addr) (H H' : Hp) : Prop := ∀ b o, b ∉ F → H b = some o → H' b = some o
theorem Ex.refl {F : List Addr} (H : Hp) : Ex F H H := fun _ _ _ h => h
theorem Ex.trans {F : List Addr} {H H1 H2 : Hp} (a : Ex F H H1) (b : Ex F H1 H2) : Ex F H H2 := fun c o n h => b c o n (a c o n h)
theorem Ex.of {F : List Addr} {H H1 : Hp} (a : Same H H1) : Ex F H H1 := fun c o _ h => a c o h
theorem Ex.mono {F G : List Addr} {H H1 : Hp} (a : Ex F H H1) (h : ∀ b, b ∈ F → b ∈ G) : Ex G H H1 := fun c o n e => a c o (fun z => n (h c z)) e
theorem Ex.rd {F : List Addr} {H H' : Hp} {a : Addr} {u : HO} (e : Ex F H H') (n : a ∉ F) (h : Rd H a u) : Rd H' a u := by
  rcases h with h | ⟨o, h⟩
  · exact .inl (e _ _ n h)
  · exact .inr ⟨o, e _ _ n h⟩
theorem Ex.seq {K : PySem.W.Frag} {F : List Addr} {H H' : Hp} {a : Addr} {xs : List V} (e : Ex F H H') (n : a ∉ F) (h : SqL K H a xs) : SqL K H' a xs := by
  rcases h with h | h
  · exact .inl (e.rd n h)
  · exact .inr h
theorem Ex.tup {K : PySem.W.Frag} {F : List Addr} {H H' : Hp} {a : Addr} {xs : List V} (e : Ex F H H') (n : a ∉ F) (h : SqT K H a xs) : SqT K H' a xs := by
  rcases h with h | h
  · exact .inl (e.rd n h)
  · exact .inr h
theorem same_upd {H : Hp} {p : Addr} {o : HO} (h : H p = none) : Same H (upd H p o) := fun b x e => by
  rw [upd_ne (ne_of_none e h)]
  exact e
/-- an object that H does not know is changed -/
theorem _root_.L2.Same.mut {H H' : Hp} {p : Addr} {o : HO} (e : Same H H') (h : H p = none) : Same H (upd H' p o) := fun a u ha => by
  rw [upd_ne (ne_of_none ha h)]
  exact e a u ha
theorem Ex.mut {F : List Addr} {H H' : Hp} {p : Addr} {o : HO} (e : Ex F H H') (h : H p = none ∨ p ∈ F) : Ex F H (upd H' p o) := fun a u n ha => by
  have hne : a ≠ p := by
    rcases h with h | h
    · exact ne_of_none ha h
    · exact fun z => n (z ▸ h)
  rw [upd_ne hne]
  exact e a u n ha
theorem _root_.L2.Same.tupq {K : PySem.W.Frag} {H H' : Hp} {a : Addr} {xs : List V} (e : Same H H') (h : SqT K H a xs) : SqT K H' a xs := by
  rcases h with (h | ⟨o, h⟩) | h
  · exact .inl (.inl (e _ _ h))
  · exact .inl (.inr ⟨o, e _ _ h⟩)
  · exact .inr h
/-- a new object, met by what is known of the heap -/
theorem w_new {H : Hp} {o : HO} {Q : V → Hp → Prop} (h : ∀ p H', H p = none → Same H H' → H' p = some o → Q (.ref p) H') : ∀ p, H p = none → Q (.ref p) (upd H p o) := fun p hp => h p _ hp (same_upd hp) upd_same
section
variable {K : PySem.W.Frag} {H : Hp} {Q : VK}
theorem w_ixL {p : Addr} {xs : List V} {i : Int} {v : V} (h : SqL K H p xs) (e : atI xs i = some v) (q : Q v H) : rIxL K (.ref p) (.int i) H Q := ⟨p, xs, i, v, rfl, rfl, h, e, q⟩
theorem w_ixT {p : Addr} {xs : List V} {i : Int} {v : V} (h : SqT K H p xs) (e : atI xs i = some v) (q : Q v H) : rIxT K (.ref p) (.int i) H Q := ⟨p, xs, i, v, rfl, rfl, h, e, q⟩
end
theorem bl_inj {a b : Bool} (h : V.bl a = V.bl b) : a = b := V.bl.inj h
theorem ite_dec {c : Prop} [Decidable c] {A B : Prop} (h1 : c → A) (h2 : ¬ c → B) : if decide c = true then A else B := by
  by_cases h : c
  · rw [if_pos (decide_eq_true h)]; exact h1 h
  · rw [if_neg (by rw [decide_eq_false h]; exact Bool.false_ne_true)]; exact h2 h
theorem atI_int {xs : List V} {i : Int} {v : V} (h0 : 0 ≤ i) (h : xs[i.toNat]? = some v) : atI xs i = some v := by
  have e := atI_nat h
  rw [Int.toNat_of_nonneg h0] at e
  exact e
theorem map_get {ns : List Int} {i : Nat} {v : V} (h : (ns.map V.int)[i]? = some v) : ∃ z, v = .int z ∧ ns[i]? = some z := by
  rw [List.getElem?_map] at h
  cases e : ns[i]? with
  | none => rw [e] at h; cases h
  | some z => rw [e] at h; exact ⟨z, (Option.some.inj h).symm, rfl⟩
theorem get_map {ns : List Int} {i : Nat} {z : Int} (h : ns[i]? = some z) : (ns.map V.int)[i]? = some (.int z) := by
  rw [List.getElem?_map, h]
  rfl
theorem nin {p L : Addr} (h : p ≠ L) : p ∉ [L] := fun z => h (List.mem_singleton.mp z)
/-- a change at x alone, which H did not know -/
theorem Ex.new1 {F : List Addr} {H H1 H2 : Hp} {x : Addr} (a : Ex F H H1) (b : Ex [x] H1 H2) (h : H x = none) : Ex F H H2 := fun c o n e => b c o (nin (ne_of_none e h)) (a c o n e)
theorem Ex.free {F : List Addr} {H H' : Hp} {l : Addr} (e : Ex F H H') (n : l ∉ F) (h : H' l = none) : H l = none := by
  cases q : H l with
  | none => rfl
  | some o =>
    rw [e l o n q] at h
    cases h
theorem Ex.at {F : List Addr} {H H' : Hp} {l : Addr} {o : HO} (e : Ex F H H') (n : l ∉ F) (h : H l = some o) : H' l = some o := e l o n h
theorem ixN_int {n : Nat} {k : Int} (h0 : 0 ≤ k) (h1 : k < n) : ixN n k = some k.toNat := by
  unfold ixN
  rw [if_pos h0, if_pos h1]
theorem sum_set : ∀ (l : List Int) (j : Nat) (x v : Int), l[j]? = some x → (l.set j v).sum = l.sum - x + v
  | [], _, _, _, h => by simp at h
  | y :: l, 0, x, v, h => by
    have e : y = x := by simpa using h
    subst e
    simp
    omega
  | y :: l, j + 1, x, v, h => by
    have ih := sum_set l j x v (by simpa using h)
    simp only [List.set_cons_succ, List.sum_cons, ih]
    omega
theorem mem_le_sum : ∀ (l : List Int), (∀ x ∈ l, 0 ≤ x) → ∀ x ∈ l, x ≤ l.sum
  | [], _, x, hx => by simp at hx
  | y :: l, h, x, hx => by
    have h0 : 0 ≤ y := h y List.mem_cons_self
    have hl : ∀ x ∈ l, 0 ≤ x := fun z hz => h z (List.mem_cons_of_mem _ hz)
    have hs : 0 ≤ l.sum := sum_nn l hl
    rcases List.mem_cons.mp hx with e | e
    · subst e; rw [List.sum_cons]; omega
    · have := mem_le_sum l hl x e
      rw [List.sum_cons]; omega
where
  sum_nn : ∀ (l : List Int), (∀ x ∈ l, 0 ≤ x) → 0 ≤ l.sum
    | [], _ => by simp
    | y :: l, h => by
      have h0 : 0 ≤ y := h y List.mem_cons_self
      have := sum_nn l (fun z hz => h z (List.mem_cons_of_mem _ hz))
      rw [List.sum_cons]; omega
theorem sum_le_of : ∀ (l : List Int) (b : Int), (∀ x ∈ l, x ≤ b) → l.sum ≤ b * l.length
  | [], _, _ => by simp
  | y :: l, b, h => by
    have h0 : y ≤ b := h y List.mem_cons_self
    have := sum_le_of l b (fun z hz => h z (List.mem_cons_of_mem _ hz))
    rw [List.sum_cons, List.length_cons]
    have e : b * ((l.length + 1 : Nat) : Int) = b * l.length + b := by
      rw [Int.natCast_add, Int.mul_add]; simp
    omega
theorem w_yes {σ : L2.St} {H : Hp} {A B : Hp → Prop} (h : A H) : tYes σ H (fun b H3 => if b = true then A H3 else B H3) := by
  show (if true = true then A H else B H)
  rw [if_pos rfl]
  exact h
theorem lk_eq {f : Str} {v : V} {fs : List (Str × V)} : ((f, v) :: fs).lookup f = some v := by simp [List.lookup]
theorem lk_ne {f g : Str} {v : V} {fs : List (Str × V)} (h : (f == g) = false) : ((g, v) :: fs).lookup f = fs.lookup f := by simp [List.lookup, h]
theorem putF_eq {f : Str} {u v : V} {fs : List (Str × V)} : putF f v ((f, u) :: fs) = (f, v) :: fs := by simp [putF]
theorem putF_ne {f g : Str} {u v : V} {fs : List (Str × V)} (h : ¬ g = f) : putF f v ((g, u) :: fs) = (g, u) :: putF f v fs := by simp [putF, h]
theorem putF_nil {f : Str} {v : V} : putF f v [] = [(f, v)] := rfl
/-- a list stays where a thing of another kind at x changes -/
theorem _root_.L2.SqL.stay {K : PySem.W.Frag} {H H' : Hp} {a x : Addr} {xs : List V} {o : HO} (h : SqL K H a xs) (hx : H x = some o) (ho : ∀ ys, o ≠ .lst ys) (ho2 : ∀ b u, o ≠ .frz b u) (e : Ex [x] H H') : SqL K H' a xs := by
  rcases h with (h | ⟨u, h⟩) | h
  · exact .inl (.inl (e _ _ (nin fun z => ho _ (Option.some.inj ((z ▸ hx).symm.trans h))) h))
  · exact .inl (.inr ⟨u, e _ _ (nin fun z => ho2 _ _ (Option.some.inj ((z ▸ hx).symm.trans h))) h⟩)
  · exact .inr h
theorem sqT_of_k {K : PySem.W.Frag} {H : Hp} {a : Addr} {dd : Option Addr} {its : Array Value} {n : Nat} {sl : Array (Option Value)} {xs : List V}
    (l : K.lookup a = some ⟨.type "tuple", dd, .seq its n, sl⟩) (h : Vals xs its.toList) (hz : its.size ≤ 1000 := by simp) : SqT K H a xs :=
  .inr ⟨_, its, n, l, rfl, rfl, Nat.le_trans hz (by decide), h⟩
/-! rules whose reading names K, for use within a comprehension's block -/
section
variable {X : Cx} {K : PySem.W.Frag}
theorem ixLk (h : X.K = K) : IxR X (rIxL K) := by subst h; exact ix_list
theorem ixTk (h : X.K = K) : IxR X (rIxT K) := by subst h; exact ix_tup
theorem eqDk (h : X.K = K) (hu : X.A.units + 64 < cLine) : OpR X (compareOp .Eq) (rEqD K) := by subst h; exact op_eqD hu
theorem neDk (h : X.K = K) (hu : X.A.units + 64 < cLine) : OpR X (compareOp .NotEq) (rNeD K) := by subst h; exact op_neD hu
theorem inSk (h : X.K = K) : OpR X (compareOp .In) (rIn K false) := by subst h; exact op_in_seq
theorem niSk (h : X.K = K) : OpR X (compareOp .NotIn) (rIn K true) := by subst h; exact op_notIn_seq
def rLenQ (K : PySem.W.Frag) : List V → Hp → VK → Prop := fun xs H Q => ∃ p ys, xs = [.ref p] ∧ (SqL K H p ys ∨ SqT K H p ys) ∧ Q (.int ys.length) H
theorem lenk (h : X.K = K) : CallR X (.builtin "len") (rLenQ K) := by subst h; exact call_len_seq
theorem sumk (h : X.K = K) (hc : X.calm = true) : CallR X (.builtin "sum") (rSum K) := by subst h; exact cr_sum hc
theorem allk (h : X.K = K) (hc : X.calm = true) : CallR X (.builtin "all") (rAll K) := by subst h; exact cr_all hc
theorem anyk (h : X.K = K) (hc : X.calm = true) : CallR X (.builtin "any") (rAny K) := by subst h; exact cr_any hc
theorem pe_fldk {o : Expr} {ta : TE} {f : Str} {pos : Pos} (h : X.K = K) (ho : PE X o ta) (hb : attributeBase o f X.env (eval o X.env) = eval o X.env) : PE X (.Attribute o f pos) (tFld K ta f) := by subst h; exact pe_fld ho hb
theorem slLk (h : X.K = K) : SlR X (rSlL K) := by subst h; exact sl_list
theorem slTk (h : X.K = K) : SlR X (rSlT K) := by subst h; exact sl_tup
end
/-- two tests joined, each known -/
theorem w_or {t u : TT} {σ : L2.St} {H : Hp} {Q : Bool → Hp → Prop} {b1 b2 : Bool} (h1 : ∀ Q' : Bool → Hp → Prop, Q' b1 H → t σ H Q') (h2 : ∀ Q' : Bool → Hp → Prop, Q' b2 H → u σ H Q') (q : Q (b1 || b2) H) : tOr t u σ H Q := by
  refine h1 _ ?_
  cases b1 with
  | true => exact iteT q
  | false => exact iteF (h2 _ q)
theorem w_and {t u : TT} {σ : L2.St} {H : Hp} {Q : Bool → Hp → Prop} {b1 b2 : Bool} (h1 : ∀ Q' : Bool → Hp → Prop, Q' b1 H → t σ H Q') (h2 : ∀ Q' : Bool → Hp → Prop, Q' b2 H → u σ H Q') (q : Q (b1 && b2) H) : tAnd t u σ H Q := by
  refine h1 _ ?_
  cases b1 with
  | true => exact iteT (h2 _ q)
  | false => exact iteF q
theorem w_ifor {t u : TT} {σ : L2.St} {H : Hp} {A B R : TS} {D : Ends} {b1 b2 : Bool} (h1 : ∀ Q' : Bool → Hp → Prop, Q' b1 H → t σ H Q') (h2 : ∀ Q' : Bool → Hp → Prop, Q' b2 H → u σ H Q')
    (q : if (b1 || b2) = true then A { D with nx := R D } σ H else B { D with nx := R D } σ H) : tSeq (tIfS (tOr t u) A B) R D σ H :=
  w_or (t := t) (u := u) h1 h2 q
theorem w_ifand {t u : TT} {σ : L2.St} {H : Hp} {A B R : TS} {D : Ends} {b1 b2 : Bool} (h1 : ∀ Q' : Bool → Hp → Prop, Q' b1 H → t σ H Q') (h2 : ∀ Q' : Bool → Hp → Prop, Q' b2 H → u σ H Q')
    (q : if (b1 && b2) = true then A { D with nx := R D } σ H else B { D with nx := R D } σ H) : tSeq (tIfS (tAnd t u) A B) R D σ H :=
  w_and (t := t) (u := u) h1 h2 q

theorem isik {X : Cx} {K : PySem.W.Frag} (h : X.K = K) : CallR X (.builtin "isinstance") (rIsi K) := by subst h; exact call_isi

/-! ### data: lists of ints, comparisons -/
theorem shaped_mk {d : PyData} (h1 : d.canLay0 = true) (h2 : d.depth ≤ 64) : SeqAt.shaped d = true := by
  unfold SeqAt.shaped
  rw [h1, decide_eq_true h2]
  rfl
theorem lay_ints : ∀ ns : List Int, PyData.canLayAll0 (ns.map PyData.int) = true
  | [] => rfl
  | _ :: r => by
    show (true && PyData.canLayAll0 (r.map PyData.int)) = true
    rw [lay_ints r]
    rfl
theorem depth_ints : ∀ ns : List Int, PyData.depthAll (ns.map PyData.int) = 0
  | [] => rfl
  | _ :: r => by
    show max 0 (PyData.depthAll (r.map PyData.int)) = 0
    rw [depth_ints r]
    rfl
theorem shaped_ints (ns : List Int) : SeqAt.shaped (.list (ns.map .int)) = true := shaped_mk (lay_ints ns) (by
  show PyData.depthAll (ns.map PyData.int) + 1 ≤ 64
  rw [depth_ints]
  decide)
theorem shaped_intsT (ns : List Int) : SeqAt.shaped (.tuple (ns.map .int)) = true := shaped_mk (lay_ints ns) (by
  show PyData.depthAll (ns.map PyData.int) + 1 ≤ 64
  rw [depth_ints]
  decide)
theorem eqvAll_ints : ∀ ns ms : List Int, PyData.eqvAll (ns.map .int) (ms.map .int) = decide (ns = ms)
  | [], [] => rfl
  | [], _ :: _ => rfl
  | _ :: _, [] => rfl
  | x :: r, y :: t => by
    show (PyData.eqv (.int x) (.int y) && PyData.eqvAll (r.map PyData.int) (t.map PyData.int)) = _
    rw [eqvAll_ints r t]
    show ((x == y) && decide (r = t)) = decide (x :: r = y :: t)
    by_cases h1 : x = y
    · by_cases h2 : r = t
      · subst h1 h2; simp
      · subst h1; simp [h2]
    · simp [h1]
theorem eqv_ints (ns ms : List Int) : PyData.eqv (.list (ns.map .int)) (.list (ms.map .int)) = decide (ns = ms) := by
  rw [PyData.eqv]
  exact eqvAll_ints ns ms
theorem eqv_intsT (ns ms : List Int) : PyData.eqv (.tuple (ns.map .int)) (.tuple (ms.map .int)) = decide (ns = ms) := by
  rw [PyData.eqv]
  exact eqvAll_ints ns ms
theorem dp_ints {K : PySem.W.Frag} {H : Hp} : ∀ ns : List Int, DpAll K H (ns.map V.int) (ns.map PyData.int)
  | [] => .nil
  | _ :: r => .cons (.int _) (dp_ints r)

structure Txt (K : PySem.W.Frag) (mg : Str → Option Value) where
  f_compares : Addr
  fd_compares : FuncData
  F_compares : Fun K "compares" "compares" s_compares f_compares fd_compares
  b_compares : Binds K fd_compares ["number", "order", "other"] []
  g_compares : mg "compares" = some (.ref f_compares)
  f_held : Addr
  fd_held : FuncData
  F_held : Fun K "held" "held" s_held f_held fd_held
  b_held : Binds K fd_held ["condition", "item"] []
  g_held : mg "held" = some (.ref f_held)
  f_held_items : Addr
  fd_held_items : FuncData
  F_held_items : Fun K "held_items" "held_items" s_held_items f_held_items fd_held_items
  b_held_items : Binds K fd_held_items ["condition", "rows"] []
  g_held_items : mg "held_items" = some (.ref f_held_items)
  f__law_draws : Addr
  fd__law_draws : FuncData
  F__law_draws : Fun K "_law_draws" "_law_draws" s__law_draws f__law_draws fd__law_draws
  b__law_draws : Binds K fd__law_draws ["_law_script"] []
  g__law_draws : mg "_law_draws" = some (.ref f__law_draws)
  f__law_take : Addr
  fd__law_take : FuncData
  F__law_take : Fun K "_law_take" "_law_take" s__law_take f__law_take fd__law_take
  b__law_take : Binds K fd__law_take ["_law_draws_here", "_law_bound"] []
  g__law_take : mg "_law_take" = some (.ref f__law_take)
  f__law_same : Addr
  fd__law_same : FuncData
  F__law_same : Fun K "_law_same" "_law_same" s__law_same f__law_same fd__law_same
  b__law_same : Binds K fd__law_same ["_law_actual", "_law_due"] []
  g__law_same : mg "_law_same" = some (.ref f__law_same)
  f__law_name : Addr
  fd__law_name : FuncData
  F__law_name : Fun K "_law_name" "_law_name" s__law_name f__law_name fd__law_name
  b__law_name : Binds K fd__law_name ["_law_draws_here"] []
  g__law_name : mg "_law_name" = some (.ref f__law_name)
  f__law_items : Addr
  fd__law_items : FuncData
  F__law_items : Fun K "_law_items" "_law_items" s__law_items f__law_items fd__law_items
  b__law_items : Binds K fd__law_items ["_law_draws_here", "_law_most"] []
  g__law_items : mg "_law_items" = some (.ref f__law_items)
  f__law_number : Addr
  fd__law_number : FuncData
  F__law_number : Fun K "_law_number" "_law_number" s__law_number f__law_number fd__law_number
  b__law_number : Binds K fd__law_number ["_law_draws_here"] []
  g__law_number : mg "_law_number" = some (.ref f__law_number)
  f__law_condition : Addr
  fd__law_condition : FuncData
  F__law_condition : Fun K "_law_condition" "_law_condition" s__law_condition f__law_condition fd__law_condition
  b__law_condition : Binds K fd__law_condition ["_law_draws_here", "_law_depth"] []
  g__law_condition : mg "_law_condition" = some (.ref f__law_condition)
  f__law_held : Addr
  fd__law_held : FuncData
  F__law_held : Fun K "_law_held" "_law_held" s__law_held f__law_held fd__law_held
  b__law_held : Binds K fd__law_held ["_law_condition_here", "_law_item"] []
  g__law_held : mg "_law_held" = some (.ref f__law_held)
  f__law_near : Addr
  fd__law_near : FuncData
  F__law_near : Fun K "_law_near" "_law_near" s__law_near f__law_near fd__law_near
  b__law_near : Binds K fd__law_near ["_law_draws_here", "_law_condition_here", "_law_items_here"] []
  g__law_near : mg "_law_near" = some (.ref f__law_near)
  f_law : Addr
  fd_law : FuncData
  F_law : Fun K "law" "law" s_law f_law fd_law
  b_law : Binds K fd_law ["_law_script"] []
  g_law : mg "law" = some (.ref f_law)
  z_abs : mg "abs" = none
  z_bool : mg "bool" = none
  z_int : mg "int" = none
  z_isinstance : mg "isinstance" = none
  z_len : mg "len" = none
  z_list : mg "list" = none
  z_range : mg "range" = none
  z_reversed : mg "reversed" = none
  z_str : mg "str" = none
  z_tuple : mg "tuple" = none
section
variable {P : Program} {w : World} {K : PySem.W.Frag} {mg : Str → Option Value} {base : Heap}
/-! ### the draws: a list of ints, popped -/
def Dr (H : Hp) (L : Addr) : Prop := ∃ ns : List Int, H L = some (.lst (ns.map V.int))
theorem Dr.same {H H' : Hp} {L : Addr} (e : Same H H') (h : Dr H L) : Dr H' L := by
  obtain ⟨ns, h⟩ := h
  exact ⟨ns, e _ _ h⟩
theorem Dr.ne {H : Hp} {L p : Addr} (h : Dr H L) (hp : H p = none) : p ≠ L := by
  obtain ⟨ns, h⟩ := h
  exact (ne_of_none h hp).symm
theorem Dr.at {H H' : Hp} {L x : Addr} (e : Ex [x] H H') (n : L ≠ x) (h : Dr H L) : Dr H' L := by
  obtain ⟨ns, h⟩ := h
  exact ⟨ns, e _ _ (nin n) h⟩
theorem ex_put {H : Hp} {L : Addr} {o : HO} : Ex [L] H (L2.upd H L o) := (Ex.refl H).mut (.inr (List.mem_singleton.mpr rfl))
theorem nez {i j : Int} (h : j ≠ 0) : (fun (_ j : Int) => j ≠ 0) i j := h
def sp__law_draws (K : PySem.W.Frag) : Sp := fun vs H Q _ => ∃ (a : Addr) (ns : List Int), vs = [.ref a] ∧ SqL K H a (ns.map V.int) ∧ ns.length ≤ 63 ∧ ∀ L H', H L = none → Same H H' → Dr H' L → Q (.ref L) H'
theorem ok__law_draws (T : Txt K mg) : FnOk P w K mg base CX0 1 T.f__law_draws T.fd__law_draws ["_law_script"] (sp__law_draws K) := by
  refine T.F__law_draws.ok sc__law_draws (fun vs H Q E h => ?_) (fun cdv A outer s H vs Q E hr h => ?_)
  · obtain ⟨a, ns, rfl, _⟩ := h
    rfl
  · obtain ⟨a, ns, rfl, hS, hlen, q⟩ := h
    refine ⟨_, (pss_cons (ps_set (i := 1) sc__law_draws.nd rfl (Or.inl rfl) (pe_lst pa_nil))
      (pss_cons (ps_for PassesOwn.never rfl (pi_list (pv 0)) (pg_name (i := 2) sc__law_draws.nd rfl (Or.inl rfl))
        (pss_cons (ps_set (i := 3) sc__law_draws.nd rfl (Or.inl rfl) (pe_callB (id := "abs") call_abs (by rfl) T.z_abs (by decide +kernel) (pa_cons (pv 2) pa_nil)))
        (pss_cut (ps_if (pt_cmpR op_lt (pv 3) (pe_op op_pow pe_int pe_int) (nomark _))
          (pss_cons (ps_set (i := 4) sc__law_draws.nd rfl (Or.inl rfl) (pe_op op_modN (pe_callTy (T := "int") call_int1 (by rfl) T.z_int (by decide +kernel) (pa_cons (pe_op op_add (pe_op op_mul (pv 3) pe_int) pe_int) pa_nil)) pe_int))
          (pss_cons (ps_expr (pe_bm PySem.F.plainAttrs_list PySem.F.slot_list_append PySem.F.type_list_append mt_append (pv 1) (pa_cons (pe_op op_modN (pe_callTy (T := "int") call_int1 (by rfl) T.z_int (by decide +kernel) (pa_cons (pe_op op_add (pe_op op_mul (pv 4) pe_int) (pv 3)) pa_nil)) pe_int) pa_nil)))
          (pss_cons (ps_expr (pe_bm PySem.F.plainAttrs_list PySem.F.slot_list_append PySem.F.type_list_append mt_append (pv 1) (pa_cons (pe_op op_modN (pe_callTy (T := "int") call_int1 (by rfl) T.z_int (by decide +kernel) (pa_cons (pe_op op_add (pv 4) (pe_op op_fdivW (pv 3) pe_int)) pa_nil)) pe_int) pa_nil)))
          (pss_one (ps_set (i := 3) sc__law_draws.nd rfl (Or.inl rfl) pe_int)))))
          pss_nil)
        (pss_one (ps_for PassesOwn.never rfl (pi_range1 (by rfl) T.z_range (pa_cons pe_int pa_nil)) (pg_name (i := 5) sc__law_draws.nd rfl (Or.inl rfl))
          (pss_one (ps_if (pt_cmpR op_gt (pv 3) pe_int (nomark _))
            (pss_cons (ps_expr (pe_bm PySem.F.plainAttrs_list PySem.F.slot_list_append PySem.F.type_list_append mt_append (pv 1) (pa_cons (pe_op op_modN (pe_callTy (T := "int") call_int1 (by rfl) T.z_int (by decide +kernel) (pa_cons (pv 3) pa_nil)) pe_int) pa_nil)))
            (pss_one (ps_set (i := 3) sc__law_draws.nd rfl (Or.inl rfl) (pe_op op_fdivW (pv 3) pe_int))))
            pss_nil)))))))
      (pss_cons (ps_set (i := 6) sc__law_draws.nd rfl (Or.inl rfl) pe_int)
      (pss_cut (ps_if (pt_cmpR op_gt (pe_callB (id := "len") call_len_seq (by rfl) T.z_len (by decide +kernel) (pa_cons (pv 0) pa_nil)) pe_int (nomark _))
        (pss_one (ps_set (i := 6) sc__law_draws.nd rfl (Or.inl rfl) (pe_op op_add pe_int (pe_callB (id := "abs") call_abs (by rfl) T.z_abs (by decide +kernel) (pa_cons (pe_ix ix_list (pv 0) pe_int (fun _ _ => rfl)) pa_nil)))))
        pss_nil)
      (pss_cons (ps_for PassesOwn.never rfl (pi_range1 (by rfl) T.z_range (pa_cons pe_int pa_nil)) (pg_name (i := 5) sc__law_draws.nd rfl (Or.inl rfl))
        (pss_cons (ps_set (i := 6) sc__law_draws.nd rfl (Or.inl rfl) (pe_op op_modN (pe_callTy (T := "int") call_int1 (by rfl) T.z_int (by decide +kernel) (pa_cons (pe_op op_add (pe_op op_mul (pv 6) pe_int) pe_int) pa_nil)) pe_int))
        (pss_one (ps_expr (pe_bm PySem.F.plainAttrs_list PySem.F.slot_list_append PySem.F.type_list_append mt_append (pv 1) (pa_cons (pe_op op_fdivW (pv 6) pe_int) pa_nil))))))
      (pss_one (ps_ret (pe_listRev rfl (by rfl) T.z_list (by rfl) T.z_reversed (pv 1))))))))), ?_⟩
    refine ⟨Nat.zero_le _, fun D hD => ?_⟩
    have add1 : ∀ {H' : Hp} {ms : List Int} (z : Int), Same H H' → H' D = some (.lst (ms.map V.int)) → Same H (upd H' D (.lst (ms.map V.int ++ [V.int z]))) ∧ upd H' D (.lst (ms.map V.int ++ [V.int z])) D = some (.lst ((ms ++ [z]).map V.int)) :=
      fun z e h => ⟨e.mut hD, by rw [upd_same, List.map_append]; rfl⟩
    have small : ∀ {ms : List Int}, ms.length ≤ 10000 → (ms.map V.int).length < sizeLine := fun h => by
      rw [List.length_map]
      exact Nat.lt_of_le_of_lt h (by decide)
    refine ⟨_, rfl, a, rfl, ⟨_, (same_upd hD).seq hS⟩, for_it walk_list (fun i σ H' => ∃ (x2 x3 x4 x5 x6 : Option V) (ms : List Int), σ = [some (.ref a), some (.ref D), x2, x3, x4, x5, x6] ∧ Same H H' ∧ H' D = some (.lst (ms.map V.int)) ∧ ms.length ≤ 62 * i)
      ⟨_, _, _, _, _, [], rfl, same_upd hD, upd_same, Nat.zero_le _⟩ (fun _ _ _ _ ⟨_, _, _, _, _, _, _, e, _⟩ => e.seq hS) ?_ ?_⟩
    · rintro i v σ Ha Hb hi ⟨x2, x3, x4, x5, x6, ms, rfl, e, hd, hl⟩ ⟨rfl, hv⟩
      obtain ⟨c, rfl, hc⟩ := map_get hv
      have hi63 : i < 63 := by rw [List.length_map] at hi; omega
      refine ⟨_, rfl, c, rfl, ?_⟩
      generalize (if c < 0 then -c else c) = n
      refine ⟨fun σ' H' => ∃ (n : Int) (y4 : Option V) (ms' : List Int), σ' = [some (.ref a), some (.ref D), some (.int c), some (.int n), y4, x5, x6] ∧ Same H H' ∧ H' D = some (.lst (ms'.map V.int)) ∧ ms'.length ≤ 62 * i + 2, ?_, ?_⟩
      · refine ⟨_, rfl, _, _, rfl, rfl, ⟨by decide, by decide, by decide⟩, _, _, rfl, rfl, _, rfl, ite_dec (fun h1 => ?_) (fun h1 => ?_)⟩
        · refine ⟨_, rfl, _, _, rfl, rfl, .inr ⟨by decide, by decide⟩, _, _, rfl, rfl, .inl ⟨_, rfl, _, _, rfl, rfl, (by dsimp only; decide), ?_⟩⟩
          refine ⟨_, rfl, .inl ⟨rfl, _, SqL.of hd⟩, _, rfl, _, _, rfl, rfl, .inr ⟨by decide, by decide⟩, _, rfl, _, _, rfl, rfl, .inl ⟨_, rfl, _, _, rfl, rfl, (by dsimp only; decide), D, _, _, rfl, rfl, hd, small (by omega), ?_⟩⟩
          obtain ⟨e1, hd1⟩ := add1 _ e hd
          refine ⟨_, rfl, .inl ⟨rfl, _, SqL.of hd1⟩, _, rfl, _, rfl, _, _, rfl, rfl, ⟨by decide, by decide⟩, _, _, rfl, rfl, .inl ⟨_, rfl, _, _, rfl, rfl, (by dsimp only; decide), D, _, _, rfl, rfl, hd1, small (by rw [List.length_append, List.length_singleton]; omega), ?_⟩⟩
          obtain ⟨e2, hd2⟩ := add1 _ e1 hd1
          exact ⟨0, _, _, rfl, e2, hd2, by simp only [List.length_append, List.length_singleton]; omega⟩
        · exact ⟨n, _, ms, rfl, e, hd, by omega⟩
      · rintro σ' H' ⟨n, y4, ms', rfl, e', hd', hl'⟩
        refine ⟨_, rfl, by decide, by decide, for_it walk_range (fun j σ H' => ∃ (n : Int) (y5 : Option V) (ms : List Int), σ = [some (.ref a), some (.ref D), some (.int c), some (.int n), y4, y5, x6] ∧ Same H H' ∧ H' D = some (.lst (ms.map V.int)) ∧ ms.length ≤ 62 * i + 2 + j)
          ⟨_, _, _, rfl, e', hd', hl'⟩ (fun _ _ _ _ _ => trivial) ?_ ?_⟩
        · rintro j v σ Hc Hd hj ⟨n, y5, ms2, rfl, e2, hd2, hl2⟩ ⟨rfl, rfl⟩
          have hj60 : j < 60 := hj
          refine ⟨_, rfl, _, _, rfl, rfl, _, rfl, ite_dec (fun h1 => ?_) (fun h1 => ?_)⟩
          · refine ⟨_, rfl, .inl ⟨rfl, _, SqL.of hd2⟩, _, rfl, .inl ⟨_, rfl, _, _, rfl, rfl, (by dsimp only; decide), D, _, _, rfl, rfl, hd2, small (by omega), ?_⟩⟩
            obtain ⟨e3, hd3⟩ := add1 _ e2 hd2
            exact ⟨_, rfl, _, _, rfl, rfl, ⟨by decide, by decide⟩, _, _, _, rfl, e3, hd3, by simp only [List.length_append, List.length_singleton]; omega⟩
          · exact ⟨_, _, _, rfl, e2, hd2, by omega⟩
        · rintro σ Hc ⟨n, y5, ms2, rfl, e2, hd2, hl2⟩
          have hl3 : ms2.length ≤ 62 * i + 2 + 60 := hl2
          exact ⟨_, _, _, _, _, _, rfl, e2, hd2, by omega⟩
    · rintro σ Ha ⟨x2, x3, x4, x5, x6, ms, rfl, e, hd, hl⟩
      have hl0 : ms.length ≤ 62 * 63 := by rw [List.length_map] at hl; omega
      refine ⟨fun σ' H' => H' = Ha ∧ ∃ z : Int, σ' = [some (.ref a), some (.ref D), x2, x3, x4, x5, some (.int z)], ?_, ?_⟩
      · refine ⟨_, rfl, a, _, rfl, .inl (e.seq hS), _, _, rfl, rfl, _, rfl, ite_dec (fun h1 => ?_) (fun h1 => ?_)⟩
        · have h1' : 0 < ns.length := by rw [List.length_map] at h1; omega
          refine ⟨_, rfl, a, _, 0, .int ns[0], rfl, rfl, e.seq hS, atI_nat (j := 0) (get_map (List.getElem?_eq_getElem h1')), _, rfl, _, _, rfl, rfl, rfl, _, rfl⟩
        · exact ⟨rfl, _, rfl⟩
      · rintro σ' H' ⟨rfl, z, rfl⟩
        refine ⟨_, rfl, by decide, by decide, for_it walk_range (fun j σ H' => ∃ (y5 : Option V) (z : Int) (ms : List Int), σ = [some (.ref a), some (.ref D), x2, x3, x4, y5, some (.int z)] ∧ Same H H' ∧ H' D = some (.lst (ms.map V.int)) ∧ ms.length ≤ 62 * 63 + j)
          ⟨_, _, _, rfl, e, hd, hl0⟩ (fun _ _ _ _ _ => trivial) ?_ ?_⟩
        · rintro j v σ Hc Hd hj ⟨y5, z, ms2, rfl, e2, hd2, hl2⟩ ⟨rfl, rfl⟩
          have hj2 : j < 240 := hj
          refine ⟨_, rfl, _, _, rfl, rfl, .inr ⟨by decide, by decide⟩, _, _, rfl, rfl, .inl ⟨_, rfl, _, _, rfl, rfl, (by dsimp only; decide), ?_⟩⟩
          refine ⟨_, rfl, .inl ⟨rfl, _, SqL.of hd2⟩, _, rfl, _, _, rfl, rfl, ⟨by decide, by decide⟩, D, _, _, rfl, rfl, hd2, small (by omega), ?_⟩
          obtain ⟨e3, hd3⟩ := add1 _ e2 hd2
          exact ⟨_, _, _, rfl, e3, hd3, by simp only [List.length_append, List.length_singleton]; omega⟩
        · rintro σ Hc ⟨y5, z, ms2, rfl, e2, hd2, hl2⟩
          refine ⟨_, rfl, D, _, rfl, SqL.of hd2, fun L hL => ?_⟩
          refine q L _ (e2.free hL) (e2.trans (same_upd hL)) ⟨ms2.reverse, ?_⟩
          rw [upd_same, List.map_reverse]
def sp__law_take (K : PySem.W.Frag) : Sp := fun vs H Q _ => ∃ (L : Addr) (m : Int), vs = [.ref L, .int m] ∧ 0 < m ∧ Dr H L ∧ ∀ v H', 0 ≤ v → v < m → Ex [L] H H' → Dr H' L → Q (.int v) H'
theorem ok__law_take (T : Txt K mg) : FnOk P w K mg base CX0 1 T.f__law_take T.fd__law_take ["_law_draws_here", "_law_bound"] (sp__law_take K) := by
  refine T.F__law_take.ok sc__law_take (fun vs H Q E h => ?_) (fun cdv A outer s H vs Q E hr h => ?_)
  · obtain ⟨L, m, rfl, _⟩ := h
    rfl
  · obtain ⟨L, m, rfl, h0, ⟨ns, hL⟩, q⟩ := h
    refine ⟨_, (pss_cons (ps_if (pt_cmpR op_eq (pe_callB (id := "len") call_len_seq (by rfl) T.z_len (by decide +kernel) (pa_cons (pv 0) pa_nil)) pe_int (nomark _))
        (pss_one (ps_ret pe_int))
        pss_nil)
      (pss_one (ps_ret (pe_op op_modN (pe_callTy (T := "int") call_int1 (by rfl) T.z_int (by decide +kernel) (pa_cons (pe_bm0 PySem.F.plainAttrs_list PySem.F.slot_list_pop PySem.F.type_list_pop mt_pop (pv 0)) pa_nil)) (pv 1))))), ?_⟩
    refine ⟨_, rfl, L, _, rfl, .inl (SqL.of hL), rfl, _, rfl, ite_dec (fun h1 => ?_) (fun h1 => ?_)⟩
    · exact q 0 H (Int.le_refl _) h0 (Ex.refl H) ⟨ns, hL⟩
    · have hne : ns ≠ [] := fun z => h1 (by rw [z]; rfl)
      have hlast : (ns.map V.int)[(ns.map V.int).length - 1]? = some (.int (ns.getLast hne)) := by
        rw [List.length_map, List.getElem?_map, ← List.getLast?_eq_getElem?, List.getLast?_eq_some_getLast hne]
        rfl
      refine ⟨_, rfl, .inl ⟨rfl, _, SqL.of hL⟩, L, _, _, rfl, rfl, hL, hlast, .inl ⟨_, rfl, _, rfl, _, _, rfl, rfl, (by show m ≠ 0; omega), ?_⟩⟩
      refine q _ _ (Int.fmod_nonneg_of_pos _ h0) (Int.fmod_lt_of_pos _ h0) ex_put ⟨ns.dropLast, ?_⟩
      rw [upd_same, List.map_dropLast]

/-! ### the same data, by the law's recursion -/
mutual
theorem dp_same {K : PySem.W.Frag} {H H' : Hp} (e : Same H H') : ∀ (d : PyData) (v : V), Dp K H v d → Dp K H' v d
  | .none, _, h => by cases h; exact .non
  | .bool b, _, h => by cases h; exact .bl b
  | .int i, _, h => by cases h; exact .int i
  | .str x, _, h => by cases h; exact .str x
  | .list ds, _, h => by
    cases h with
    | lst hs ha => exact .lst (e.seq hs) (dpAll_same e ds _ ha)
  | .tuple ds, _, h => by
    cases h with
    | tup hs ha => exact .tup (e.tupq hs) (dpAll_same e ds _ ha)
  | .dict _, _, h => by cases h
theorem dpAll_same {K : PySem.W.Frag} {H H' : Hp} (e : Same H H') : ∀ (ds : List PyData) (vs : List V), DpAll K H vs ds → DpAll K H' vs ds
  | [], _, h => by cases h; exact .nil
  | d :: ds, _, h => by
    cases h with
    | cons h1 h2 => exact .cons (dp_same e d _ h1) (dpAll_same e ds _ h2)
end
theorem dpAll_len {K : PySem.W.Frag} {H : Hp} : ∀ {vs : List V} {ds : List PyData}, DpAll K H vs ds → vs.length = ds.length
  | _, _, .nil => rfl
  | _, _, .cons _ t => congrArg (· + 1) (dpAll_len t)
theorem dpAll_get {K : PySem.W.Frag} {H : Hp} : ∀ {vs : List V} {ds : List PyData}, DpAll K H vs ds → ∀ {i : Nat} {d : PyData}, ds[i]? = some d → ∃ v, vs[i]? = some v ∧ Dp K H v d
  | _, _, .nil, i, d, e => by simp at e
  | _, _, .cons h t, 0, d, e => by
    have e1 := Option.some.inj e
    subst e1
    exact ⟨_, rfl, h⟩
  | _, _, .cons h t, i + 1, d, e => dpAll_get t (i := i) e
def tyN : PyData → String
  | .none => "NoneType"
  | .bool _ => "bool"
  | .int _ => "int"
  | .str _ => "str"
  | .list _ => "list"
  | .tuple _ => "tuple"
  | .dict _ => "dict"
theorem tyx_tup' {K : PySem.W.Frag} {H : Hp} {a : Addr} {xs : List V} (h : SqT K H a xs) : TyX K H (.ref a) (.type "tuple") := by
  rcases h with (h | ⟨o, h⟩) | ⟨o, its, n, h1, h2, _⟩
  · exact .base (.tup h)
  · exact .fTuple h
  · exact .kTuple h1 h2
theorem tyx_lst' {K : PySem.W.Frag} {H : Hp} {a : Addr} {xs : List V} (h : SqL K H a xs) : TyX K H (.ref a) (.type "list") := by
  rcases h with (h | ⟨o, h⟩) | ⟨o, its, n, h1, h2, _⟩
  · exact .base (.lst h)
  · exact .base (.frz h)
  · exact .kList h1 h2
theorem ty_of {K : PySem.W.Frag} {H : Hp} {v : V} {d : PyData} (h : Dp K H v d) : TyX K H v (.type (tyN d)) := by
  cases h with
  | non => exact .base .non
  | bl b => exact .base (.bl b)
  | int i => exact .base (.int i)
  | str x => exact .base (.str x)
  | lst hs _ => exact tyx_lst' hs
  | tup hs _ => exact tyx_tup' hs
theorem canAll_get : ∀ {ds : List PyData}, PyData.canLayAll0 ds = true → ∀ {i : Nat} {d : PyData}, ds[i]? = some d → d.canLay0 = true
  | [], _, i, d, e => by simp at e
  | x :: r, h, 0, d, e => by
    have e1 := Option.some.inj e
    subst e1
    exact (Bool.and_eq_true_iff.mp h).1
  | x :: r, h, i + 1, d, e => canAll_get (Bool.and_eq_true_iff.mp h).2 (i := i) e
theorem depthAll_get : ∀ {ds : List PyData} {i : Nat} {d : PyData}, ds[i]? = some d → d.depth ≤ PyData.depthAll ds
  | [], i, d, e => by simp at e
  | x :: r, 0, d, e => by
    have e1 := Option.some.inj e
    subst e1
    exact Nat.le_max_left _ _
  | x :: r, i + 1, d, e => Nat.le_trans (depthAll_get (ds := r) (i := i) e) (Nat.le_max_right _ _)
mutual
def smallD : PyData → Bool
  | .list ds | .tuple ds => decide (ds.length ≤ 1000) && smallAllD ds
  | .none | .bool _ | .int _ | .str _ | .dict _ => true
def smallAllD : List PyData → Bool
  | [] => true
  | d :: r => smallD d && smallAllD r
end
theorem smallAll_get : ∀ {ds : List PyData}, smallAllD ds = true → ∀ {i : Nat} {d : PyData}, ds[i]? = some d → smallD d = true
  | [], _, i, d, e => by simp at e
  | x :: r, h, 0, d, e => by
    have e1 := Option.some.inj e
    subst e1
    exact (Bool.and_eq_true_iff.mp h).1
  | x :: r, h, i + 1, d, e => smallAll_get (Bool.and_eq_true_iff.mp h).2 (i := i) e
def sp__law_same (K : PySem.W.Frag) (n : Nat) : Sp := fun vs H Q _ => ∃ (u v : V) (d : PyData), vs = [u, v] ∧ Dp K H u d ∧ Dp K H v d ∧ d.canLay0 = true ∧ d.depth < n ∧ n ≤ 60 ∧ smallD d = true ∧ Q (.bl true) H
theorem decT {A B : Prop} {b : Bool} (h : B) : if (!decide (V.bl b = V.bl b)) = true then A else B := by
  rw [decide_eq_true rfl]
  exact iteF h
/-- a sequence of either kind -/
theorem same_seq {K : PySem.W.Frag} {H : Hp} {x : Addr} {xs : List V} {isT : Bool} (h : if isT = true then SqT K H x xs else SqL K H x xs) {i : Nat} {v : V} (hi : xs[i]? = some v) {Q : VK} (q : Q v H) : rIx K (.ref x) (.int ((0 : Int) + (i : Nat))) H Q := by
  have e := atI_nat hi
  rw [show ((i : Nat) : Int) = (0 : Int) + (i : Nat) by omega] at e
  cases isT with
  | true => exact .inr (.inl ⟨x, xs, _, v, rfl, rfl, h, e, q⟩)
  | false => exact .inl ⟨x, xs, _, v, rfl, rfl, h, e, q⟩
theorem okR__law_same (T : Txt K mg) : ∀ n, n ≤ 60 → FnOk P w K mg base CX0 (n + 1) T.f__law_same T.fd__law_same ["_law_actual", "_law_due"] (sp__law_same K n)
  | 0, _ => by
    refine T.F__law_same.ok sc__law_same (fun vs H Q E h => ?_) (fun cdv A outer s H vs Q E hr h => ?_)
    · obtain ⟨u, v, d, rfl, _⟩ := h
      rfl
    · obtain ⟨u, v, d, rfl, _, _, _, hd, _⟩ := h
      exact absurd hd (Nat.not_lt_zero _)
  | n + 1, hn => by
    have ok__law_same : ∀ T : Txt K mg, FnOk P w K mg base CX0 (n + 1) T.f__law_same T.fd__law_same ["_law_actual", "_law_due"] (sp__law_same K n) := fun T => okR__law_same T n (by omega)
    refine T.F__law_same.ok sc__law_same (fun vs H Q E h => ?_) (fun cdv A outer s H vs Q E hr h => ?_)
    · obtain ⟨u, v, d, rfl, _⟩ := h
      rfl
    · obtain ⟨u, v, d, rfl, hu, hv, hc, hd, _, hw, q⟩ := h
      refine ⟨_, (pss_cons (ps_if (PW.pt (pw_or (pt_val (pe_callB (id := "isinstance") call_isi (by rfl) T.z_isinstance (by decide +kernel) (pa_cons (pv 1) (pa_cons (pe_bltn (v := .ty "tuple") (by rfl) T.z_tuple (by decide +kernel) rfl) pa_nil)))) (pw_or1 (pt_val (pe_callB (id := "isinstance") call_isi (by rfl) T.z_isinstance (by decide +kernel) (pa_cons (pv 1) (pa_cons (pe_bltn (v := .ty "list") (by rfl) T.z_list (by decide +kernel) rfl) pa_nil)))))))
        (pss_cons (ps_if (PW.pt (pw_or (pt_cmpR op_ne (pe_callB (id := "isinstance") call_isi (by rfl) T.z_isinstance (by decide +kernel) (pa_cons (pv 1) (pa_cons (pe_bltn (v := .ty "tuple") (by rfl) T.z_tuple (by decide +kernel) rfl) pa_nil))) (pe_callB (id := "isinstance") call_isi (by rfl) T.z_isinstance (by decide +kernel) (pa_cons (pv 0) (pa_cons (pe_bltn (v := .ty "tuple") (by rfl) T.z_tuple (by decide +kernel) rfl) pa_nil))) (nomark _)) (pw_or1 (pt_cmpR op_ne (pe_callB (id := "isinstance") call_isi (by rfl) T.z_isinstance (by decide +kernel) (pa_cons (pv 1) (pa_cons (pe_bltn (v := .ty "list") (by rfl) T.z_list (by decide +kernel) rfl) pa_nil))) (pe_callB (id := "isinstance") call_isi (by rfl) T.z_isinstance (by decide +kernel) (pa_cons (pv 0) (pa_cons (pe_bltn (v := .ty "list") (by rfl) T.z_list (by decide +kernel) rfl) pa_nil))) (nomark _)))))
          (pss_one (ps_ret pe_bl))
          pss_nil)
        (pss_cons (ps_if (pt_cmpR op_ne (pe_callB (id := "len") call_len_seq (by rfl) T.z_len (by decide +kernel) (pa_cons (pv 0) pa_nil)) (pe_callB (id := "len") call_len_seq (by rfl) T.z_len (by decide +kernel) (pa_cons (pv 1) pa_nil)) (nomark _))
          (pss_one (ps_ret pe_bl))
          pss_nil)
        (pss_cons (ps_for PassesOwn.never rfl (pi_range1 (by rfl) T.z_range (pa_cons (pe_callB (id := "len") call_len_seq (by rfl) T.z_len (by decide +kernel) (pa_cons (pv 1) pa_nil)) pa_nil)) (pg_name (i := 2) sc__law_same.nd rfl (Or.inl rfl))
          (pss_one (ps_if (pt_not (pt_val (pe_call (ok__law_same T) (hr.mono (by omega)) (by rfl) T.g__law_same T.F__law_same.kp T.b__law_same .nil pass0 (pa_cons (pe_ix ix_seq (pv 0) (pv 2) (fun _ _ => rfl)) (pa_cons (pe_ix ix_seq (pv 1) (pv 2) (fun _ _ => rfl)) pa_nil)))))
            (pss_one (ps_ret pe_bl))
            pss_nil)))
        (pss_one (ps_ret pe_bl)))))
        pss_nil)
      (pss_cons (ps_if (pt_cmpR op_ne (pe_callB (id := "isinstance") call_isi (by rfl) T.z_isinstance (by decide +kernel) (pa_cons (pv 1) (pa_cons (pe_bltn (v := .ty "bool") (by rfl) T.z_bool (by decide +kernel) rfl) pa_nil))) (pe_callB (id := "isinstance") call_isi (by rfl) T.z_isinstance (by decide +kernel) (pa_cons (pv 0) (pa_cons (pe_bltn (v := .ty "bool") (by rfl) T.z_bool (by decide +kernel) rfl) pa_nil))) (nomark _))
        (pss_one (ps_ret pe_bl))
        pss_nil)
      (pss_cons (ps_if (PW.pt (pw_or (pt_cmpR op_ne (pe_callB (id := "isinstance") call_isi (by rfl) T.z_isinstance (by decide +kernel) (pa_cons (pv 1) (pa_cons (pe_bltn (v := .ty "int") (by rfl) T.z_int (by decide +kernel) rfl) pa_nil))) (pe_callB (id := "isinstance") call_isi (by rfl) T.z_isinstance (by decide +kernel) (pa_cons (pv 0) (pa_cons (pe_bltn (v := .ty "int") (by rfl) T.z_int (by decide +kernel) rfl) pa_nil))) (nomark _)) (pw_or1 (pt_cmpR op_ne (pe_callB (id := "isinstance") call_isi (by rfl) T.z_isinstance (by decide +kernel) (pa_cons (pv 1) (pa_cons (pe_bltn (v := .ty "str") (by rfl) T.z_str (by decide +kernel) rfl) pa_nil))) (pe_callB (id := "isinstance") call_isi (by rfl) T.z_isinstance (by decide +kernel) (pa_cons (pv 0) (pa_cons (pe_bltn (v := .ty "str") (by rfl) T.z_str (by decide +kernel) rfl) pa_nil))) (nomark _)))))
        (pss_one (ps_ret pe_bl))
        pss_nil)
      (pss_one (ps_ret (pe_cmpR (op_eqD hr.units) (pv 0) (pv 1) (nomark _))))))), ?_⟩
      have tu := ty_of hu
      have tv := ty_of hv
      cases d with
      | dict _ => cases hu
      | list ds =>
        cases hu with
        | lst hx ax =>
          cases hv with
          | lst hy ay =>
            rename_i x xs y ys
            refine ⟨_, rfl, _, .ty "tuple", .type "list", .type "tuple", false, rfl, .ty _, tv, kit_ty (by decide +kernel), _, rfl, iteF ⟨_, rfl, _, .ty "list", .type "list", .type "list", true, rfl, .ty _, tv, kit_ty (by decide +kernel), _, rfl, iteT ?_⟩⟩
            refine ⟨_, rfl, _, .ty "tuple", .type "list", .type "tuple", false, rfl, .ty _, tv, kit_ty (by decide +kernel), _, rfl, _, .ty "tuple", .type "list", .type "tuple", false, rfl, .ty _, tu, kit_ty (by decide +kernel), rfl, _, rfl, decT ?_⟩
            refine ⟨_, rfl, _, .ty "list", .type "list", .type "list", true, rfl, .ty _, tv, kit_ty (by decide +kernel), _, rfl, _, .ty "list", .type "list", .type "list", true, rfl, .ty _, tu, kit_ty (by decide +kernel), rfl, _, rfl, decT ?_⟩
            have el : xs.length = ys.length := (dpAll_len ax).trans (dpAll_len ay).symm
            refine ⟨_, rfl, x, xs, rfl, .inl hx, _, rfl, y, ys, rfl, .inl hy, rfl, _, rfl, iteNS (by rw [el]) ?_⟩
            have hw2 := Bool.and_eq_true_iff.mp hw
            have hz : ds.length ≤ 1000 := of_decide_eq_true hw2.1
            have hzy : ys.length = ds.length := dpAll_len ay
            refine ⟨_, rfl, y, ys, rfl, .inl hy, _, rfl, by omega, by omega, for_it walk_range (fun i σ H' => ∃ a, σ = [some (.ref x), some (.ref y), a] ∧ H' = H) ⟨_, rfl, rfl⟩ (fun _ _ _ _ _ => trivial) ?_ ?_⟩
            · rintro i z σ Ha Hb hi ⟨a, rfl, rfl⟩ ⟨rfl, rfl⟩
              have hi' : i < ds.length := by omega
              have hg : ds[i]? = some ds[i] := List.getElem?_eq_getElem hi'
              obtain ⟨ux, hux, dux⟩ := dpAll_get ax hg
              obtain ⟨vy, hvy, dvy⟩ := dpAll_get ay hg
              refine ⟨_, rfl, _, rfl, same_seq (isT := false) hx hux ⟨_, rfl, _, rfl, same_seq (isT := false) hy hvy ⟨ux, vy, ds[i], rfl, dux, dvy, canAll_get hc hg, ?_, by omega, smallAll_get hw2.2 hg, _, rfl, iteF ⟨_, rfl, rfl⟩⟩⟩⟩
              have h1 := depthAll_get hg
              have h2 : PyData.depthAll ds + 1 < n + 1 := hd
              omega
            · rintro σ Ha ⟨a, rfl, rfl⟩
              exact q
      | tuple ds =>
        cases hu with
        | tup hx ax =>
          cases hv with
          | tup hy ay =>
            rename_i x xs y ys
            refine ⟨_, rfl, _, .ty "tuple", .type "tuple", .type "tuple", true, rfl, .ty _, tv, kit_ty (by decide +kernel), _, rfl, iteT ?_⟩
            refine ⟨_, rfl, _, .ty "tuple", .type "tuple", .type "tuple", true, rfl, .ty _, tv, kit_ty (by decide +kernel), _, rfl, _, .ty "tuple", .type "tuple", .type "tuple", true, rfl, .ty _, tu, kit_ty (by decide +kernel), rfl, _, rfl, decT ?_⟩
            refine ⟨_, rfl, _, .ty "list", .type "tuple", .type "list", false, rfl, .ty _, tv, kit_ty (by decide +kernel), _, rfl, _, .ty "list", .type "tuple", .type "list", false, rfl, .ty _, tu, kit_ty (by decide +kernel), rfl, _, rfl, decT ?_⟩
            have el : xs.length = ys.length := (dpAll_len ax).trans (dpAll_len ay).symm
            refine ⟨_, rfl, x, xs, rfl, .inr hx, _, rfl, y, ys, rfl, .inr hy, rfl, _, rfl, iteNS (by rw [el]) ?_⟩
            have hw2 := Bool.and_eq_true_iff.mp hw
            have hz : ds.length ≤ 1000 := of_decide_eq_true hw2.1
            have hzy : ys.length = ds.length := dpAll_len ay
            refine ⟨_, rfl, y, ys, rfl, .inr hy, _, rfl, by omega, by omega, for_it walk_range (fun i σ H' => ∃ a, σ = [some (.ref x), some (.ref y), a] ∧ H' = H) ⟨_, rfl, rfl⟩ (fun _ _ _ _ _ => trivial) ?_ ?_⟩
            · rintro i z σ Ha Hb hi ⟨a, rfl, rfl⟩ ⟨rfl, rfl⟩
              have hi' : i < ds.length := by omega
              have hg : ds[i]? = some ds[i] := List.getElem?_eq_getElem hi'
              obtain ⟨ux, hux, dux⟩ := dpAll_get ax hg
              obtain ⟨vy, hvy, dvy⟩ := dpAll_get ay hg
              refine ⟨_, rfl, _, rfl, same_seq (isT := true) hx hux ⟨_, rfl, _, rfl, same_seq (isT := true) hy hvy ⟨ux, vy, ds[i], rfl, dux, dvy, canAll_get hc hg, ?_, by omega, smallAll_get hw2.2 hg, _, rfl, iteF ⟨_, rfl, rfl⟩⟩⟩⟩
              have h1 := depthAll_get hg
              have h2 : PyData.depthAll ds + 1 < n + 1 := hd
              omega
            · rintro σ Ha ⟨a, rfl, rfl⟩
              exact q
      | none =>
        cases hu
        cases hv
        refine ⟨_, rfl, _, .ty "tuple", .type "NoneType", .type "tuple", false, rfl, .ty _, tv, kit_ty (by decide +kernel), _, rfl, iteF ⟨_, rfl, _, .ty "list", .type "NoneType", .type "list", false, rfl, .ty _, tv, kit_ty (by decide +kernel), _, rfl, iteF ?_⟩⟩
        refine ⟨_, rfl, _, .ty "bool", .type "NoneType", .type "bool", false, rfl, .ty _, tv, kit_ty (by decide +kernel), _, rfl, _, .ty "bool", .type "NoneType", .type "bool", false, rfl, .ty _, tu, kit_ty (by decide +kernel), rfl, _, rfl, decT ?_⟩
        refine ⟨_, rfl, _, .ty "int", .type "NoneType", .type "int", false, rfl, .ty _, tv, kit_ty (by decide +kernel), _, rfl, _, .ty "int", .type "NoneType", .type "int", false, rfl, .ty _, tu, kit_ty (by decide +kernel), rfl, _, rfl, decT ?_⟩
        refine ⟨_, rfl, _, .ty "str", .type "NoneType", .type "str", false, rfl, .ty _, tv, kit_ty (by decide +kernel), _, rfl, _, .ty "str", .type "NoneType", .type "str", false, rfl, .ty _, tu, kit_ty (by decide +kernel), rfl, _, rfl, decT ?_⟩
        refine ⟨_, rfl, _, rfl, .none, .none, .non, .non, shaped_mk hc (Nat.zero_le _), shaped_mk hc (Nat.zero_le _), ?_⟩
        rw [SeqAt.eqv_refl _ hc]
        exact q
      | bool b =>
        cases hu
        cases hv
        refine ⟨_, rfl, _, .ty "tuple", .type "bool", .type "tuple", false, rfl, .ty _, tv, kit_ty (by decide +kernel), _, rfl, iteF ⟨_, rfl, _, .ty "list", .type "bool", .type "list", false, rfl, .ty _, tv, kit_ty (by decide +kernel), _, rfl, iteF ?_⟩⟩
        refine ⟨_, rfl, _, .ty "bool", .type "bool", .type "bool", true, rfl, .ty _, tv, kit_ty (by decide +kernel), _, rfl, _, .ty "bool", .type "bool", .type "bool", true, rfl, .ty _, tu, kit_ty (by decide +kernel), rfl, _, rfl, decT ?_⟩
        refine ⟨_, rfl, _, .ty "int", .type "bool", .type "int", true, rfl, .ty _, tv, kit_ty (by decide +kernel), _, rfl, _, .ty "int", .type "bool", .type "int", true, rfl, .ty _, tu, kit_ty (by decide +kernel), rfl, _, rfl, decT ?_⟩
        refine ⟨_, rfl, _, .ty "str", .type "bool", .type "str", false, rfl, .ty _, tv, kit_ty (by decide +kernel), _, rfl, _, .ty "str", .type "bool", .type "str", false, rfl, .ty _, tu, kit_ty (by decide +kernel), rfl, _, rfl, decT ?_⟩
        refine ⟨_, rfl, _, rfl, (.bool b), (.bool b), (.bl _), (.bl _), shaped_mk hc (Nat.zero_le _), shaped_mk hc (Nat.zero_le _), ?_⟩
        rw [SeqAt.eqv_refl _ hc]
        exact q
      | int i =>
        cases hu
        cases hv
        refine ⟨_, rfl, _, .ty "tuple", .type "int", .type "tuple", false, rfl, .ty _, tv, kit_ty (by decide +kernel), _, rfl, iteF ⟨_, rfl, _, .ty "list", .type "int", .type "list", false, rfl, .ty _, tv, kit_ty (by decide +kernel), _, rfl, iteF ?_⟩⟩
        refine ⟨_, rfl, _, .ty "bool", .type "int", .type "bool", false, rfl, .ty _, tv, kit_ty (by decide +kernel), _, rfl, _, .ty "bool", .type "int", .type "bool", false, rfl, .ty _, tu, kit_ty (by decide +kernel), rfl, _, rfl, decT ?_⟩
        refine ⟨_, rfl, _, .ty "int", .type "int", .type "int", true, rfl, .ty _, tv, kit_ty (by decide +kernel), _, rfl, _, .ty "int", .type "int", .type "int", true, rfl, .ty _, tu, kit_ty (by decide +kernel), rfl, _, rfl, decT ?_⟩
        refine ⟨_, rfl, _, .ty "str", .type "int", .type "str", false, rfl, .ty _, tv, kit_ty (by decide +kernel), _, rfl, _, .ty "str", .type "int", .type "str", false, rfl, .ty _, tu, kit_ty (by decide +kernel), rfl, _, rfl, decT ?_⟩
        refine ⟨_, rfl, _, rfl, (.int i), (.int i), (.int _), (.int _), shaped_mk hc (Nat.zero_le _), shaped_mk hc (Nat.zero_le _), ?_⟩
        rw [SeqAt.eqv_refl _ hc]
        exact q
      | str z =>
        cases hu
        cases hv
        refine ⟨_, rfl, _, .ty "tuple", .type "str", .type "tuple", false, rfl, .ty _, tv, kit_ty (by decide +kernel), _, rfl, iteF ⟨_, rfl, _, .ty "list", .type "str", .type "list", false, rfl, .ty _, tv, kit_ty (by decide +kernel), _, rfl, iteF ?_⟩⟩
        refine ⟨_, rfl, _, .ty "bool", .type "str", .type "bool", false, rfl, .ty _, tv, kit_ty (by decide +kernel), _, rfl, _, .ty "bool", .type "str", .type "bool", false, rfl, .ty _, tu, kit_ty (by decide +kernel), rfl, _, rfl, decT ?_⟩
        refine ⟨_, rfl, _, .ty "int", .type "str", .type "int", false, rfl, .ty _, tv, kit_ty (by decide +kernel), _, rfl, _, .ty "int", .type "str", .type "int", false, rfl, .ty _, tu, kit_ty (by decide +kernel), rfl, _, rfl, decT ?_⟩
        refine ⟨_, rfl, _, .ty "str", .type "str", .type "str", true, rfl, .ty _, tv, kit_ty (by decide +kernel), _, rfl, _, .ty "str", .type "str", .type "str", true, rfl, .ty _, tu, kit_ty (by decide +kernel), rfl, _, rfl, decT ?_⟩
        refine ⟨_, rfl, _, rfl, (.str z), (.str z), (.str _), (.str _), shaped_mk hc (Nat.zero_le _), shaped_mk hc (Nat.zero_le _), ?_⟩
        rw [SeqAt.eqv_refl _ hc]
        exact q

/-! ### names -/
def SIGNS : Str := "abcdefghijklmnopqrstuvwxyz0123456789"
def isName (z : Str) : Bool := decide (1 ≤ z.length) && decide (z.length ≤ 12) && z.cps.toList.all fun c => decide (c ∈ SIGNS.cps.toList)
/-- a text of moderate length whose signs are signs -/
def okS (z : Str) : Prop := z.length ≤ 1000 ∧ PyData.strOk z = true
theorem okS.line {z : Str} (h : okS z) : z.length ≤ sizeLine := Nat.le_trans h.1 (by decide)
theorem menu {α : Type} (f : α → V) (zs : List α) {j : Int} (h0 : 0 ≤ j) (h1 : j < zs.length) : ∃ z, z ∈ zs ∧ atI (zs.map f) j = some (f z) := by
  have hj : j.toNat < zs.length := by omega
  refine ⟨zs[j.toNat], List.getElem_mem hj, atI_int h0 ?_⟩
  rw [List.getElem?_map, List.getElem?_eq_getElem hj]
  rfl
theorem take_toList {z : Str} {i c : Nat} (h : z.cps[i]? = some c) : z.cps.toList.take (i + 1) = z.cps.toList.take i ++ [c] := by
  rw [List.take_add_one, Array.getElem?_toList, h]
  rfl

/-! ### items -/
theorem putK_len' {κ : Type} [DecidableEq κ] (c : List (κ × V)) (k : κ) (x : V) : (putK c k x).length ≤ c.length + 1 := by
  unfold putK
  split
  · rw [List.length_map]
    omega
  · rw [List.length_append, List.length_singleton]
    omega
structure Item where
  k : Str
  g : Str
  w : Int
  m : Int
def Item.ok (it : Item) : Prop := okS it.k ∧ okS it.g
def Item.vs (it : Item) : List V := [.str it.k, .str it.g, .int it.w, .int it.m]
def Item.d (it : Item) : PyData := .tuple [.str it.k, .str it.g, .int it.w, .int it.m]
def It (K : PySem.W.Frag) (H : Hp) (v : V) (it : Item) : Prop := it.ok ∧ ∃ a, v = .ref a ∧ SqT K H a it.vs
abbrev Its' (K : PySem.W.Frag) (H : Hp) : List V → List Item → Prop := Paired (fun v it => It K H v it)
theorem It.same {K : PySem.W.Frag} {H H' : Hp} {v : V} {it : Item} (e : Same H H') (h : It K H v it) : It K H' v it := by
  obtain ⟨o, a, rfl, h⟩ := h
  exact ⟨o, a, rfl, e.tupq h⟩
theorem sqT_stay' {K : PySem.W.Frag} {H H' : Hp} {a x : Addr} {xs ys : List V} (h : SqT K H a xs) (hx : H x = some (.lst ys)) (e : Ex [x] H H') : SqT K H' a xs := by
  rcases h with (h | ⟨u, h⟩) | h
  · exact .inl (.inl (e _ _ (nin fun z => by rw [z, hx] at h; cases h) h))
  · exact .inl (.inr ⟨u, e _ _ (nin fun z => by rw [z, hx] at h; cases h) h⟩)
  · exact .inr h
theorem It.stay {K : PySem.W.Frag} {H H' : Hp} {v : V} {it : Item} {x : Addr} {ys : List V} (h : It K H v it) (hx : H x = some (.lst ys)) (e : Ex [x] H H') : It K H' v it := by
  obtain ⟨o, a, rfl, h⟩ := h
  exact ⟨o, a, rfl, sqT_stay' h hx e⟩
theorem itsSame {K : PySem.W.Frag} {H H' : Hp} {xs : List V} {its : List Item} (e : Same H H') (h : Its' K H xs its) : Its' K H' xs its := Paired.mapP h fun _ _ z => z.same e
theorem itsStay {K : PySem.W.Frag} {H H' : Hp} {xs : List V} {its : List Item} {x : Addr} {ys : List V} (h : Its' K H xs its) (hx : H x = some (.lst ys)) (e : Ex [x] H H') : Its' K H' xs its := Paired.mapP h fun _ _ z => z.stay hx e
theorem itsGet {K : PySem.W.Frag} {H : Hp} : ∀ {xs : List V} {its : List Item}, Its' K H xs its → ∀ {i : Nat} {v : V}, xs[i]? = some v → ∃ it, its[i]? = some it ∧ It K H v it
  | _, _, .nil, i, v, e => by simp at e
  | _, _, .cons h t, 0, v, e => by
    have e1 := Option.some.inj e
    subst e1
    exact ⟨_, rfl, h⟩
  | _, _, .cons h t, i + 1, v, e => itsGet t (i := i) e
theorem itsAt {K : PySem.W.Frag} {H : Hp} {xs : List V} {its : List Item} (h : Its' K H xs its) {i : Nat} (hi : i < its.length) : ∃ v, xs[i]? = some v ∧ It K H v its[i] := by
  have hl : xs.length = its.length := Paired.length h
  have hx : xs[i]? = some (xs[i]'(by omega)) := List.getElem?_eq_getElem (by omega)
  obtain ⟨it, h1, h2⟩ := itsGet h hx
  rw [List.getElem?_eq_getElem hi] at h1
  have := Option.some.inj h1
  subst this
  exact ⟨_, hx, h2⟩
theorem itsSnoc {K : PySem.W.Frag} {H : Hp} {v : V} {it : Item} (q : It K H v it) : ∀ {xs : List V} {its : List Item}, Its' K H xs its → Its' K H (xs ++ [v]) (its ++ [it])
  | _, _, .nil => .cons q .nil
  | _, _, .cons h t => .cons h (itsSnoc q t)
theorem itsSet {K : PySem.W.Frag} {H : Hp} {v : V} {it : Item} (q : It K H v it) : ∀ {xs : List V} {its : List Item} (i : Nat), Its' K H xs its → Its' K H (xs.set i v) (its.set i it)
  | _, _, _, .nil => .nil
  | _, _, 0, .cons h t => .cons q t
  | _, _, i + 1, .cons h t => .cons h (itsSet q i t)
theorem It.dp {K : PySem.W.Frag} {H : Hp} {v : V} {it : Item} (h : It K H v it) : Dp K H v it.d := by
  obtain ⟨o, a, rfl, h⟩ := h
  exact .tup h (.cons (.str _) (.cons (.str _) (.cons (.int _) (.cons (.int _) .nil))))
theorem itsDp {K : PySem.W.Frag} {H : Hp} : ∀ {xs : List V} {its : List Item}, Its' K H xs its → DpAll K H xs (its.map Item.d)
  | _, _, .nil => .nil
  | _, _, .cons h t => .cons h.dp (itsDp t)
theorem itsLay : ∀ {its : List Item}, (∀ it ∈ its, it.ok) → PyData.canLayAll0 (its.map Item.d) = true
  | [], _ => rfl
  | it :: r, h => by
    obtain ⟨h1, h2⟩ := h it List.mem_cons_self
    show ((PyData.strOk it.k && (PyData.strOk it.g && true)) && PyData.canLayAll0 (r.map Item.d)) = true
    rw [itsLay fun x hx => h x (List.mem_cons_of_mem _ hx), h1.2, h2.2]
    rfl
theorem itsDepth : ∀ its : List Item, PyData.depthAll (its.map Item.d) ≤ 1
  | [] => by decide
  | it :: r => by
    have := itsDepth r
    show max 1 (PyData.depthAll (r.map Item.d)) ≤ 1
    omega
theorem itsOk {K : PySem.W.Frag} {H : Hp} {xs : List V} {its : List Item} (h : Its' K H xs its) : ∀ it ∈ its, it.ok := by
  intro it hm
  obtain ⟨i, hi, rfl⟩ := List.mem_iff_getElem.mp hm
  obtain ⟨v, _, h2⟩ := itsAt h hi
  exact h2.1
theorem itsShaped {its : List Item} (h : ∀ it ∈ its, it.ok) : SeqAt.shaped (.list (its.map Item.d)) = true := shaped_mk (itsLay h) (by
  have := itsDepth its
  show PyData.depthAll (its.map Item.d) + 1 ≤ 64
  omega)

/-! ### the law's items -/
theorem its_dr {K : PySem.W.Frag} {H H' : Hp} {xs : List V} {its : List Item} {L : Addr} (h : Its' K H xs its) (d : Dr H L) (e : Ex [L] H H') : Its' K H' xs its := by
  obtain ⟨ns, d⟩ := d
  exact itsStay h d e
theorem Dr.put {H : Hp} {L x : Addr} {o : HO} (d : Dr H L) (n : L ≠ x) : Dr (L2.upd H x o) L := d.at ex_put n
def sp__law_name (K : PySem.W.Frag) : Sp := fun vs H Q _ => ∃ (L : Addr), vs = [.ref L] ∧ Dr H L ∧ ∀ z H', okS z → Ex [L] H H' → Dr H' L → Q (.str z) H'
theorem ok__law_name (T : Txt K mg) : FnOk P w K mg base CX0 2 T.f__law_name T.fd__law_name ["_law_draws_here"] (sp__law_name K) := by
  refine T.F__law_name.ok sc__law_name (fun vs H Q E h => ?_) (fun cdv A outer s H vs Q E hr h => ?_)
  · obtain ⟨L, rfl, _⟩ := h
    rfl
  · obtain ⟨L, rfl, hD, q⟩ := h
    refine ⟨_, (pss_one (ps_ret (pe_ix ix_list (pe_lst (pa_cons pe_str (pa_cons pe_str (pa_cons pe_str (pa_cons pe_str (pa_cons pe_str (pa_cons pe_str (pa_cons pe_str (pa_cons pe_str (pa_cons pe_str (pa_cons pe_str pa_nil))))))))))) (pe_call (ok__law_take T) (hr.mono (by decide)) (by rfl) T.g__law_take T.F__law_take.kp T.b__law_take .nil pass0 (pa_cons (pv 0) (pa_cons pe_int pa_nil))) (fun _ _ => rfl)))), ?_⟩
    refine ⟨by show 10 ≤ sizeLine; decide, fun p hp => ?_⟩
    have npL : p ≠ L := hD.ne hp
    refine ⟨_, rfl, L, 10, rfl, by decide, hD.same (same_upd hp), fun j H2 j0 j1 e2 d2 => ?_⟩
    obtain ⟨z, hz, ha⟩ := menu V.str ["a", "b7", "k", "q", "zz", "9", "abcdefghijkl", "or", "m2", "weight"] j0 j1
    have hok : ∀ z ∈ (["a", "b7", "k", "q", "zz", "9", "abcdefghijkl", "or", "m2", "weight"] : List Str), z.length ≤ 1000 ∧ PyData.strOk z = true := by decide +kernel
    exact ⟨p, _, j, _, rfl, rfl, SqL.of (e2.at (nin npL) upd_same), ha, q z H2 (hok z hz) ((Ex.of (same_upd hp)).trans e2) d2⟩
theorem inV_str : ∀ (z : Str) (ks : List Str), inV (.str z) (ks.map V.str) = decide (z ∈ ks)
  | z, [] => rfl
  | z, k :: r => by
    show (eqV (.str k) (.str z) || inV (.str z) (r.map V.str)) = _
    rw [inV_str z r]
    have e : eqV (.str k) (.str z) = decide (k = z) := rfl
    rw [e]
    by_cases h1 : k = z
    · subst h1; simp
    · by_cases h2 : z ∈ r
      · simp [h2]
      · have h3 : ¬ z = k := fun e => h1 e.symm
        simp [h1, h2, h3]
theorem flat_strs : ∀ ks : List Str, (ks.map V.str).all flatV = true
  | [] => rfl
  | _ :: r => by
    show (true && (r.map V.str).all flatV) = true
    rw [flat_strs r]
    rfl
def sp__law_items (K : PySem.W.Frag) : Sp := fun vs H Q _ => ∃ (L : Addr) (m : Int), vs = [.ref L, .int m] ∧ 0 ≤ m ∧ m ≤ 100 ∧ Dr H L ∧ ∀ p H' xs its, H p = none → Ex [L] H H' → Dr H' L → H' p = some (.lst xs) → Its' K H' xs its → its.length ≤ m → Q (.ref p) H'
theorem ok__law_items (T : Txt K mg) : FnOk P w K mg base CX0 3 T.f__law_items T.fd__law_items ["_law_draws_here", "_law_most"] (sp__law_items K) := by
  refine T.F__law_items.ok sc__law_items (fun vs H Q E h => ?_) (fun cdv A outer s H vs Q E hr h => ?_)
  · obtain ⟨L, m, rfl, _⟩ := h
    rfl
  · obtain ⟨L, m, rfl, hm0, hm, hD, q⟩ := h
    refine ⟨_, (pss_cons (ps_set (i := 2) sc__law_items.nd rfl (Or.inl rfl) (pe_lst pa_nil))
      (pss_cons (ps_set (i := 3) sc__law_items.nd rfl (Or.inl rfl) (pe_lst pa_nil))
      (pss_cons (ps_for PassesOwn.never rfl (pi_range1 (by rfl) T.z_range (pa_cons (pe_call (ok__law_take T) (hr.mono (by decide)) (by rfl) T.g__law_take T.F__law_take.kp T.b__law_take .nil pass0 (pa_cons (pv 0) (pa_cons (pe_op op_add (pv 1) pe_int) pa_nil))) pa_nil)) (pg_name (i := 4) sc__law_items.nd rfl (Or.inl rfl))
        (pss_cons (ps_set (i := 5) sc__law_items.nd rfl (Or.inl rfl) (pe_call (ok__law_name T) (hr.mono (by decide)) (by rfl) T.g__law_name T.F__law_name.kp T.b__law_name .nil pass0 (pa_cons (pv 0) pa_nil)))
        (pss_cons (ps_set (i := 6) sc__law_items.nd rfl (Or.inl rfl) (pe_ix ix_list (pe_lst (pa_cons (pe_op op_add pe_int (pe_call (ok__law_take T) (hr.mono (by decide)) (by rfl) T.g__law_take T.F__law_take.kp T.b__law_take .nil pass0 (pa_cons (pv 0) (pa_cons pe_int pa_nil)))) (pa_cons pe_int (pa_cons (pe_op op_add pe_int (pe_call (ok__law_take T) (hr.mono (by decide)) (by rfl) T.g__law_take T.F__law_take.kp T.b__law_take .nil pass0 (pa_cons (pv 0) (pa_cons pe_int pa_nil)))) pa_nil)))) (pe_ix ix_list (pe_lst (pa_cons pe_int (pa_cons pe_int (pa_cons pe_int (pa_cons pe_int pa_nil))))) (pe_call (ok__law_take T) (hr.mono (by decide)) (by rfl) T.g__law_take T.F__law_take.kp T.b__law_take .nil pass0 (pa_cons (pv 0) (pa_cons pe_int pa_nil))) (fun _ _ => rfl)) (fun _ _ => rfl)))
        (pss_cons (ps_set (i := 7) sc__law_items.nd rfl (Or.inl rfl) (pe_ix ix_list (pe_lst (pa_cons (pe_op op_sub (pe_call (ok__law_take T) (hr.mono (by decide)) (by rfl) T.g__law_take T.F__law_take.kp T.b__law_take .nil pass0 (pa_cons (pv 0) (pa_cons pe_int pa_nil))) pe_int) (pa_cons (pe_un un_neg pe_int) (pa_cons pe_int (pa_cons pe_int pa_nil))))) (pe_ix ix_list (pe_lst (pa_cons pe_int (pa_cons pe_int (pa_cons pe_int (pa_cons pe_int (pa_cons pe_int pa_nil)))))) (pe_call (ok__law_take T) (hr.mono (by decide)) (by rfl) T.g__law_take T.F__law_take.kp T.b__law_take .nil pass0 (pa_cons (pv 0) (pa_cons pe_int pa_nil))) (fun _ _ => rfl)) (fun _ _ => rfl)))
        (pss_one (ps_if (pt_cmpR op_notIn_seq (pv 5) (pv 3) (by rfl))
          (pss_cons (ps_expr (pe_bm PySem.F.plainAttrs_list PySem.F.slot_list_append PySem.F.type_list_append mt_append (pv 3) (pa_cons (pv 5) pa_nil)))
          (pss_one (ps_expr (pe_bm PySem.F.plainAttrs_list PySem.F.slot_list_append PySem.F.type_list_append mt_append (pv 2) (pa_cons (pe_tup (pa_cons (pv 5) (pa_cons (pe_ix ix_list (pe_lst (pa_cons pe_str (pa_cons pe_str (pa_cons pe_str pa_nil)))) (pe_call (ok__law_take T) (hr.mono (by decide)) (by rfl) T.g__law_take T.F__law_take.kp T.b__law_take .nil pass0 (pa_cons (pv 0) (pa_cons pe_int pa_nil))) (fun _ _ => rfl)) (pa_cons (pv 6) (pa_cons (pv 7) pa_nil))))) pa_nil)))))
          pss_nil))))))
      (pss_one (ps_ret (pv 2)))))), ?_⟩
    refine ⟨Nat.zero_le _, fun F hF => ⟨Nat.zero_le _, fun G hG => ?_⟩⟩
    have hF1 : upd H F (.lst []) F = some (.lst []) := upd_same
    have nFG : F ≠ G := ne_of_none hF1 hG
    have e1 : Same H (upd (upd H F (.lst [])) G (.lst [])) := (same_upd hF).trans (same_upd hG)
    have nFL : F ≠ L := hD.ne hF
    have G0 : H G = none := (same_upd hF).free hG
    have nGL : G ≠ L := hD.ne G0
    refine ⟨_, rfl, _, rfl, _, _, rfl, rfl, L, _, rfl, by omega, hD.same e1, fun n H1 n0 nm e2 d2 => ⟨_, rfl, by omega, by omega, ?_⟩⟩
    have e12 : Ex [L] H H1 := (Ex.of e1).trans e2
    refine for_it walk_range (fun i σ H' => ∃ (x4 x5 x6 x7 : Option V) (xs : List V) (its : List Item) (ks : List Str), σ = [some (.ref L), some (.int m), some (.ref F), some (.ref G), x4, x5, x6, x7] ∧ Ex [L] H H' ∧ Dr H' L ∧ H' F = some (.lst xs) ∧ Its' K H' xs its ∧ its.length ≤ i ∧ H' G = some (.lst (ks.map V.str)) ∧ ks.length ≤ i)
      ⟨_, _, _, _, [], [], [], rfl, e12, d2, e2.at (nin nFL) (by rw [upd_ne nFG]; exact upd_same), .nil, Nat.zero_le _, e2.at (nin nGL) upd_same, Nat.zero_le _⟩ (fun _ _ _ _ _ => trivial) ?_ ?_
    · rintro i v σ Ha Hb hi ⟨x4, x5, x6, x7, xs, its, ks, rfl, ea, da, hf, hI, hil, hg, hkl⟩ ⟨rfl, rfl⟩
      have hi100 : i ≤ 100 := by omega
      -- key
      refine ⟨_, rfl, L, rfl, da, fun z H2 okz e3 d3 => ?_⟩
      -- weight
      refine ⟨_, rfl, L, 20, rfl, by decide, d3, fun t1 H3 _ _ e4 d4 => ⟨_, _, rfl, rfl, ?_⟩⟩
      refine ⟨_, rfl, L, 1000, rfl, by decide, d4, fun t2 H4 _ _ e5 d5 => ⟨_, _, rfl, rfl, by show 3 ≤ sizeLine; decide, fun p1 hp1 => ⟨by show 4 ≤ sizeLine; decide, fun p2 hp2 => ?_⟩⟩⟩
      have n1 : p1 ≠ L := d5.ne hp1
      have d5' := d5.same (same_upd hp1 (o := .lst [.int (1 + t1), .int 1000, .int (1 + t2)]))
      have n2 : p2 ≠ L := d5'.ne hp2
      have e6 := (same_upd hp1 (o := .lst [.int (1 + t1), .int 1000, .int (1 + t2)])).trans (same_upd hp2 (o := .lst [.int 0, .int 0, .int 1, .int 2]))
      have n12 : p1 ≠ p2 := ne_of_none (H := upd H4 p1 (.lst [.int (1 + t1), .int 1000, .int (1 + t2)])) upd_same hp2
      refine ⟨_, rfl, L, 4, rfl, by decide, d5.same e6, fun j H5 j0 j4 e7 d7 => ?_⟩
      obtain ⟨c, hc, hca⟩ := menu V.int [0, 0, 1, 2] j0 j4
      have hc3 : 0 ≤ c ∧ c < 3 := by
        have : c = 0 ∨ c = 1 ∨ c = 2 := by simpa using hc
        omega
      obtain ⟨wt, _, hwa⟩ := menu V.int [1 + t1, 1000, 1 + t2] hc3.1 hc3.2
      refine ⟨p2, _, j, _, rfl, rfl, SqL.of (e7.at (nin n2) upd_same), hca, p1, _, c, _, rfl, rfl, SqL.of (e7.at (nin n1) (by rw [upd_ne n12]; exact upd_same)), hwa, ?_⟩
      have e37 : Ex [L] Hb H5 := (((e3.trans e4).trans e5).trans (Ex.of e6)).trans e7
      -- amount
      refine ⟨_, rfl, L, 41, rfl, by decide, d7, fun t3 H6 _ _ e8 d8 => ⟨_, _, rfl, rfl, _, rfl, by show 4 ≤ sizeLine; decide, fun p3 hp3 => ⟨by show 5 ≤ sizeLine; decide, fun p4 hp4 => ?_⟩⟩⟩
      have n3 : p3 ≠ L := d8.ne hp3
      have n4 : p4 ≠ L := (d8.same (same_upd hp3 (o := .lst [.int (t3 - 20), .int (-1000), .int 1000, .int 0]))).ne hp4
      have e9 := (same_upd hp3 (o := .lst [.int (t3 - 20), .int (-1000), .int 1000, .int 0])).trans (same_upd hp4 (o := .lst [.int 0, .int 0, .int 1, .int 2, .int 3]))
      have n34 : p3 ≠ p4 := ne_of_none (H := upd H6 p3 (.lst [.int (t3 - 20), .int (-1000), .int 1000, .int 0])) upd_same hp4
      refine ⟨_, rfl, L, 5, rfl, by decide, d8.same e9, fun j2 H7 j20 j25 e10 d10 => ?_⟩
      obtain ⟨c2, hc2, hca2⟩ := menu V.int [0, 0, 1, 2, 3] j20 j25
      have hc4 : 0 ≤ c2 ∧ c2 < 4 := by
        have : c2 = 0 ∨ c2 = 1 ∨ c2 = 2 ∨ c2 = 3 := by simpa using hc2
        omega
      obtain ⟨am, _, hma⟩ := menu V.int [t3 - 20, -1000, 1000, 0] hc4.1 hc4.2
      refine ⟨p4, _, j2, _, rfl, rfl, SqL.of (e10.at (nin n4) upd_same), hca2, p3, _, c2, _, rfl, rfl, SqL.of (e10.at (nin n3) (by rw [upd_ne n34]; exact upd_same)), hma, ?_⟩
      have eb : Ex [L] Hb H7 := ((e37.trans e8).trans (Ex.of e9)).trans e10
      have hf7 := eb.at (nin nFL) hf
      have hg7 := eb.at (nin nGL) hg
      have hI7 := its_dr hI da eb
      have e07 := ea.trans eb
      refine ⟨_, rfl, _, rfl, G, _, rfl, .inl (SqL.of hg7), rfl, flat_strs ks, _, rfl, ite2 (fun _ => ?_) (fun _ => ?_)⟩
      · refine ⟨_, rfl, .inl ⟨rfl, _, SqL.of hg7⟩, _, rfl, G, _, _, rfl, rfl, hg7, by rw [List.length_map]; exact small1000 (by omega), ?_⟩
        have e11 : Ex [G] H7 (upd H7 G (.lst (ks.map V.str ++ [.str z]))) := ex_put
        have hf8 := e11.at (nin nFG) hf7
        have hI8 := itsStay hI7 hg7 e11
        have d11 := d10.at e11 nGL.symm
        have e08 : Ex [L] H (upd H7 G (.lst (ks.map V.str ++ [.str z]))) := e07.mut (.inl G0)
        have hg8 : upd H7 G (.lst (ks.map V.str ++ [.str z])) G = some (.lst ((ks ++ [z]).map V.str)) := by rw [upd_same, List.map_append]; rfl
        generalize upd H7 G (.lst (ks.map V.str ++ [.str z])) = H8 at e11 hf8 hI8 d11 e08 hg8 ⊢
        refine ⟨_, rfl, .inl ⟨rfl, _, SqL.of hf8⟩, _, rfl, by show 3 ≤ sizeLine; decide, fun p5 hp5 => ?_⟩
        have n5 : p5 ≠ L := d11.ne hp5
        have e12 := same_upd hp5 (o := .lst [.str "red", .str "blue", .str "k"])
        refine ⟨_, rfl, L, 3, rfl, by decide, d11.same e12, fun j3 H9 j30 j33 e13 d13 => ?_⟩
        obtain ⟨gr, hgr, hgra⟩ := menu V.str ["red", "blue", "k"] j30 j33
        have hok : ∀ z ∈ (["red", "blue", "k"] : List Str), z.length ≤ 1000 ∧ PyData.strOk z = true := by decide +kernel
        refine ⟨p5, _, j3, _, rfl, rfl, SqL.of (e13.at (nin n5) upd_same), hgra, _, rfl, _, rfl, by show 4 ≤ sizeLine; decide, fun t ht => ?_⟩
        have e14 := same_upd ht (o := .tup [.str z, .str gr, .int wt, .int am])
        have e813 : Ex [L] H8 (upd H9 t (.tup [.str z, .str gr, .int wt, .int am])) := ((Ex.of e12).trans e13).trans (Ex.of e14)
        have hf9 := e813.at (nin nFL) hf8
        have hg9 := e813.at (nin nGL) hg8
        have hI9 := its_dr hI8 d11 e813
        have hxl : xs.length = its.length := Paired.length hI
        refine ⟨F, _, _, rfl, rfl, hf9, small1000 (by omega), ?_⟩
        have e15 : Ex [F] (upd H9 t (.tup [.str z, .str gr, .int wt, .int am])) (upd (upd H9 t (.tup [.str z, .str gr, .int wt, .int am])) F (.lst (xs ++ [.ref t]))) := ex_put
        have hnew : It K (upd H9 t (.tup [.str z, .str gr, .int wt, .int am])) (.ref t) ⟨z, gr, wt, am⟩ := ⟨⟨okz, hok gr hgr⟩, t, rfl, SqT.of upd_same⟩
        exact ⟨_, _, _, _, _, its ++ [⟨z, gr, wt, am⟩], ks ++ [z], rfl, (e08.trans e813).mut (.inl hF), (d13.same e14).at e15 nFL.symm, upd_same, itsSnoc (hnew.stay hf9 e15) (itsStay hI9 hf9 e15), by simp; omega, e15.at (nin nFG.symm) hg9, by simp; omega⟩
      · exact ⟨_, _, _, _, xs, its, ks, rfl, e07, d10, hf7, hI7, by omega, hg7, by omega⟩
    · rintro σ Ha ⟨x4, x5, x6, x7, xs, its, ks, rfl, ea, da, hf, hI, hil, hg, hkl⟩
      exact ⟨_, rfl, q F Ha xs its hF ea da hf hI (by omega)⟩

/-! ### conditions -/
inductive Od | lt | le | eq | ge | gt
def Od.s : Od → Str
  | .lt => "<" | .le => "<=" | .eq => "=" | .ge => ">=" | .gt => ">"
def Od.h : Od → Int → Int → Bool
  | .lt, a, b => decide (a < b) | .le, a, b => decide (a ≤ b) | .eq, a, b => decide (a = b) | .ge, a, b => decide (b ≤ a) | .gt, a, b => decide (b < a)
inductive Cond
  | all
  | wt (o : Od) (n : Int)
  | am (o : Od) (n : Int)
  | grp (z : Str)
  | key (z : Str)
  | nt (c : Cond)
  | an (c d : Cond)
  | orr (c d : Cond)
def Cond.dep : Cond → Nat
  | .nt c => c.dep + 1
  | .an c d | .orr c d => max c.dep d.dep + 1
  | _ => 0
def Cond.holds (it : Item) : Cond → Bool
  | .all => true
  | .wt o n => o.h it.w n
  | .am o n => o.h it.m n
  | .grp z => decide (it.g = z)
  | .key z => decide (it.k = z)
  | .nt c => !c.holds it
  | .an c d => c.holds it && d.holds it
  | .orr c d => c.holds it || d.holds it
inductive Cd (K : PySem.W.Frag) (H : Hp) : V → Cond → Prop
  | all {a : Addr} : SqT K H a [.str "all"] → Cd K H (.ref a) .all
  | wt {a : Addr} {o : Od} {n : Int} : SqT K H a [.str "weight", .str o.s, .int n] → Cd K H (.ref a) (.wt o n)
  | am {a : Addr} {o : Od} {n : Int} : SqT K H a [.str "amount", .str o.s, .int n] → Cd K H (.ref a) (.am o n)
  | grp {a : Addr} {z : Str} : SqT K H a [.str "group", .str z] → Cd K H (.ref a) (.grp z)
  | key {a : Addr} {z : Str} : SqT K H a [.str "key", .str z] → Cd K H (.ref a) (.key z)
  | nt {a : Addr} {v : V} {c : Cond} : SqT K H a [.str "not", v] → Cd K H v c → Cd K H (.ref a) (.nt c)
  | an {a : Addr} {v u : V} {c d : Cond} : SqT K H a [.str "and", v, u] → Cd K H v c → Cd K H u d → Cd K H (.ref a) (.an c d)
  | orr {a : Addr} {v u : V} {c d : Cond} : SqT K H a [.str "or", v, u] → Cd K H v c → Cd K H u d → Cd K H (.ref a) (.orr c d)
theorem Cd.map {K : PySem.W.Frag} {H H' : Hp} (e : ∀ a xs, SqT K H a xs → SqT K H' a xs) {v : V} {c : Cond} (h : Cd K H v c) : Cd K H' v c := by
  induction h with
  | all h => exact .all (e _ _ h)
  | wt h => exact .wt (e _ _ h)
  | am h => exact .am (e _ _ h)
  | grp h => exact .grp (e _ _ h)
  | key h => exact .key (e _ _ h)
  | nt h _ i => exact .nt (e _ _ h) i
  | an h _ _ i j => exact .an (e _ _ h) i j
  | orr h _ _ i j => exact .orr (e _ _ h) i j
theorem Cd.same {K : PySem.W.Frag} {H H' : Hp} {v : V} {c : Cond} (e : Same H H') (h : Cd K H v c) : Cd K H' v c := h.map fun _ _ z => e.tupq z
theorem Cd.stay {K : PySem.W.Frag} {H H' : Hp} {v : V} {c : Cond} {x : Addr} {ys : List V} (h : Cd K H v c) (hx : H x = some (.lst ys)) (e : Ex [x] H H') : Cd K H' v c := h.map fun _ _ z => sqT_stay' z hx e
theorem Cd.dr {K : PySem.W.Frag} {H H' : Hp} {v : V} {c : Cond} {L : Addr} (h : Cd K H v c) (d : Dr H L) (e : Ex [L] H H') : Cd K H' v c := by
  obtain ⟨ns, d⟩ := d
  exact h.stay d e
local macro_rules | `(tactic| walk_at "sk") => `(tactic| refine ⟨_, rfl, rfl, _, rfl, ite_dec (fun h => absurd (V.str.inj h) (by decide +kernel)) (fun _ => ?_)⟩)
local macro_rules | `(tactic| walk_at "tk") => `(tactic| refine ⟨_, rfl, rfl, _, rfl, ite_dec (fun _ => ?_) (fun h => absurd rfl h)⟩)
def sp_compares (K : PySem.W.Frag) : Sp := fun vs H Q _ => ∃ (a b : Int) (o : Od), vs = [.int a, .str o.s, .int b] ∧ Q (.bl (o.h a b)) H
theorem ok_compares (T : Txt K mg) : FnOk P w K mg base CX0 1 T.f_compares T.fd_compares ["number", "order", "other"] (sp_compares K) := by
  refine T.F_compares.ok sc_compares (fun vs H Q E h => ?_) (fun cdv A outer s H vs Q E hr h => ?_)
  · obtain ⟨a, b, o, rfl, _⟩ := h
    rfl
  · obtain ⟨a, b, o, rfl, q⟩ := h
    refine ⟨_, (pss_cons (ps_if (pt_cmpR op_eq (pv 1) pe_str (nomark _))
        (pss_one (ps_ret (pe_cmpR op_lt (pv 0) (pv 2) (nomark _))))
        pss_nil)
      (pss_cons (ps_if (pt_cmpR op_eq (pv 1) pe_str (nomark _))
        (pss_one (ps_ret (pe_cmpR op_le (pv 0) (pv 2) (nomark _))))
        pss_nil)
      (pss_cons (ps_if (pt_cmpR op_eq (pv 1) pe_str (nomark _))
        (pss_one (ps_ret (pe_cmpR op_eq (pv 0) (pv 2) (nomark _))))
        pss_nil)
      (pss_cons (ps_if (pt_cmpR op_eq (pv 1) pe_str (nomark _))
        (pss_one (ps_ret (pe_cmpR op_ge (pv 0) (pv 2) (nomark _))))
        pss_nil)
      (pss_one (ps_ret (pe_cmpR op_gt (pv 0) (pv 2) (nomark _)))))))), ?_⟩
    cases o with
    | lt =>
      walk_at "tk"
      exact ⟨_, rfl, _, rfl, _, _, rfl, rfl, q⟩
    | le =>
      walk_at "sk"
      walk_at "tk"
      exact ⟨_, rfl, _, rfl, _, _, rfl, rfl, q⟩
    | eq =>
      walk_at "sk"
      walk_at "sk"
      walk_at "tk"
      refine ⟨_, rfl, _, rfl, rfl, ?_⟩
      have e : decide (V.int a = V.int b) = decide (a = b) := by
        by_cases h : a = b
        · rw [h, decide_eq_true rfl, decide_eq_true rfl]
        · rw [decide_eq_false h, decide_eq_false fun z => h (V.int.inj z)]
      rw [e]
      exact q
    | ge =>
      walk_at "sk"
      walk_at "sk"
      walk_at "sk"
      walk_at "tk"
      exact ⟨_, rfl, _, rfl, _, _, rfl, rfl, q⟩
    | gt =>
      walk_at "sk"
      walk_at "sk"
      walk_at "sk"
      walk_at "sk"
      exact ⟨_, rfl, _, rfl, _, _, rfl, rfl, q⟩
theorem dec_str {a b : Str} : decide (V.str a = V.str b) = decide (a = b) := by
  by_cases h : a = b
  · rw [h, decide_eq_true rfl, decide_eq_true rfl]
  · rw [decide_eq_false h, decide_eq_false fun z => h (V.str.inj z)]
def sp_held (K : PySem.W.Frag) (n : Nat) : Sp := fun vs H Q _ => ∃ (u v : V) (c : Cond) (it : Item), vs = [u, v] ∧ Cd K H u c ∧ It K H v it ∧ c.dep < n ∧ ∀ H', Same H H' → Q (.bl (c.holds it)) H'
theorem okR_held (T : Txt K mg) : ∀ n, n ≤ 5 → FnOk P w K mg base CX0 (n + 2) T.f_held T.fd_held ["condition", "item"] (sp_held K n)
  | 0, _ => by
    refine T.F_held.ok sc_held (fun vs H Q E h => ?_) (fun cdv A outer s H vs Q E hr h => ?_)
    · obtain ⟨u, v, c, it, rfl, _⟩ := h
      rfl
    · obtain ⟨u, v, c, it, rfl, _, _, hd, _⟩ := h
      exact absurd hd (Nat.not_lt_zero _)
  | n + 1, hn => by
    have ok_held : ∀ T : Txt K mg, FnOk P w K mg base CX0 (n + 2) T.f_held T.fd_held ["condition", "item"] (sp_held K n) := fun T => okR_held T n (by omega)
    refine T.F_held.ok sc_held (fun vs H Q E h => ?_) (fun cdv A outer s H vs Q E hr h => ?_)
    · obtain ⟨u, v, c, it, rfl, _⟩ := h
      rfl
    · obtain ⟨u, v, c, it, rfl, hc, ⟨iok, ia, rfl, iT⟩, hd, q⟩ := h
      refine ⟨_, (pss_cons (ps_set (i := 2) sc_held.nd rfl (Or.inl rfl) (pe_ix ix_tup (pv 0) pe_int (fun _ _ => rfl)))
      (pss_cons (ps_if (pt_cmpR op_eq (pv 2) pe_str (nomark _))
        (pss_one (ps_ret pe_bl))
        pss_nil)
      (pss_cons (ps_if (pt_cmpR op_eq (pv 2) pe_str (nomark _))
        (pss_one (ps_ret (pe_cmpR op_eq (pe_ix ix_tup (pv 1) pe_int (fun _ _ => rfl)) (pe_ix ix_tup (pv 0) pe_int (fun _ _ => rfl)) (nomark _))))
        pss_nil)
      (pss_cons (ps_if (pt_cmpR op_eq (pv 2) pe_str (nomark _))
        (pss_one (ps_ret (pe_cmpR op_eq (pe_ix ix_tup (pv 1) pe_int (fun _ _ => rfl)) (pe_ix ix_tup (pv 0) pe_int (fun _ _ => rfl)) (nomark _))))
        pss_nil)
      (pss_cons (ps_if (pt_cmpR op_eq (pv 2) pe_str (nomark _))
        (pss_one (ps_ret (pe_call (ok_compares T) (hr.mono (by omega)) (by rfl) T.g_compares T.F_compares.kp T.b_compares .nil pass0 (pa_cons (pe_ix ix_tup (pv 1) pe_int (fun _ _ => rfl)) (pa_cons (pe_ix ix_tup (pv 0) pe_int (fun _ _ => rfl)) (pa_cons (pe_ix ix_tup (pv 0) pe_int (fun _ _ => rfl)) pa_nil))))))
        pss_nil)
      (pss_cons (ps_if (pt_cmpR op_eq (pv 2) pe_str (nomark _))
        (pss_one (ps_ret (pe_call (ok_compares T) (hr.mono (by omega)) (by rfl) T.g_compares T.F_compares.kp T.b_compares .nil pass0 (pa_cons (pe_ix ix_tup (pv 1) pe_int (fun _ _ => rfl)) (pa_cons (pe_ix ix_tup (pv 0) pe_int (fun _ _ => rfl)) (pa_cons (pe_ix ix_tup (pv 0) pe_int (fun _ _ => rfl)) pa_nil))))))
        pss_nil)
      (pss_cons (ps_if (pt_cmpR op_eq (pv 2) pe_str (nomark _))
        (pss_one (ps_ret (pe_not (pe_call (ok_held T) (hr.mono (by omega)) (by rfl) T.g_held T.F_held.kp T.b_held .nil pass0 (pa_cons (pe_ix ix_tup (pv 0) pe_int (fun _ _ => rfl)) (pa_cons (pv 1) pa_nil))))))
        pss_nil)
      (pss_cons (ps_if (pt_cmpR op_eq (pv 2) pe_str (nomark _))
        (pss_one (ps_ret (pe_and (pe_call (ok_held T) (hr.mono (by omega)) (by rfl) T.g_held T.F_held.kp T.b_held .nil pass0 (pa_cons (pe_ix ix_tup (pv 0) pe_int (fun _ _ => rfl)) (pa_cons (pv 1) pa_nil))) (pe_one (pe_call (ok_held T) (hr.mono (by omega)) (by rfl) T.g_held T.F_held.kp T.b_held .nil pass0 (pa_cons (pe_ix ix_tup (pv 0) pe_int (fun _ _ => rfl)) (pa_cons (pv 1) pa_nil)))))))
        pss_nil)
      (pss_one (ps_ret (pe_or (pe_call (ok_held T) (hr.mono (by omega)) (by rfl) T.g_held T.F_held.kp T.b_held .nil pass0 (pa_cons (pe_ix ix_tup (pv 0) pe_int (fun _ _ => rfl)) (pa_cons (pv 1) pa_nil))) (pe_one (pe_call (ok_held T) (hr.mono (by omega)) (by rfl) T.g_held T.F_held.kp T.b_held .nil pass0 (pa_cons (pe_ix ix_tup (pv 0) pe_int (fun _ _ => rfl)) (pa_cons (pv 1) pa_nil))))))))))))))), ?_⟩
      have hI : It K H (.ref ia) it := ⟨iok, ia, rfl, iT⟩
      cases hc with
      | @all a h =>
        refine ⟨_, rfl, a, _, 0, _, rfl, rfl, h, rfl, ?_⟩
        walk_at "tk"
        exact q H (Same.refl H)
      | @key a z h =>
        refine ⟨_, rfl, a, _, 0, _, rfl, rfl, h, rfl, ?_⟩
        walk_at "sk"
        walk_at "tk"
        refine ⟨_, rfl, ia, _, 0, _, rfl, rfl, iT, rfl, _, rfl, a, _, 1, _, rfl, rfl, h, rfl, rfl, ?_⟩
        rw [dec_str]
        exact q H (Same.refl H)
      | @grp a z h =>
        refine ⟨_, rfl, a, _, 0, _, rfl, rfl, h, rfl, ?_⟩
        walk_at "sk"
        walk_at "sk"
        walk_at "tk"
        refine ⟨_, rfl, ia, _, 1, _, rfl, rfl, iT, rfl, _, rfl, a, _, 1, _, rfl, rfl, h, rfl, rfl, ?_⟩
        rw [dec_str]
        exact q H (Same.refl H)
      | @wt a o m h =>
        refine ⟨_, rfl, a, _, 0, _, rfl, rfl, h, rfl, ?_⟩
        walk_at "sk"
        walk_at "sk"
        walk_at "sk"
        walk_at "tk"
        exact ⟨_, rfl, ia, _, 2, _, rfl, rfl, iT, rfl, _, rfl, a, _, 1, _, rfl, rfl, h, rfl, _, rfl, a, _, 2, _, rfl, rfl, h, rfl, _, _, o, rfl, q H (Same.refl H)⟩
      | @am a o m h =>
        refine ⟨_, rfl, a, _, 0, _, rfl, rfl, h, rfl, ?_⟩
        walk_at "sk"
        walk_at "sk"
        walk_at "sk"
        walk_at "sk"
        walk_at "tk"
        exact ⟨_, rfl, ia, _, 3, _, rfl, rfl, iT, rfl, _, rfl, a, _, 1, _, rfl, rfl, h, rfl, _, rfl, a, _, 2, _, rfl, rfl, h, rfl, _, _, o, rfl, q H (Same.refl H)⟩
      | @nt a v c h h1 =>
        refine ⟨_, rfl, a, _, 0, _, rfl, rfl, h, rfl, ?_⟩
        walk_at "sk"
        walk_at "sk"
        walk_at "sk"
        walk_at "sk"
        walk_at "sk"
        walk_at "tk"
        have hd' : c.dep + 1 < n + 1 := hd
        exact ⟨_, rfl, a, _, 1, _, rfl, rfl, h, rfl, _, rfl, v, _, c, it, rfl, h1, hI, by omega, fun H1 e1 => ⟨_, rfl, q H1 e1⟩⟩
      | @an a v u c d h h1 h2 =>
        refine ⟨_, rfl, a, _, 0, _, rfl, rfl, h, rfl, ?_⟩
        walk_at "sk"
        walk_at "sk"
        walk_at "sk"
        walk_at "sk"
        walk_at "sk"
        walk_at "sk"
        walk_at "tk"
        have hd' : max c.dep d.dep + 1 < n + 1 := hd
        refine ⟨_, rfl, a, _, 1, _, rfl, rfl, h, rfl, _, rfl, v, _, c, it, rfl, h1, hI, by omega, fun H1 e1 => ⟨_, rfl, ?_⟩⟩
        cases hb : c.holds it with
        | false =>
          have := q H1 e1
          rw [show (Cond.an c d).holds it = false by show (c.holds it && d.holds it) = false; rw [hb]; rfl] at this
          exact iteF this
        | true =>
          refine iteT ⟨_, rfl, a, _, 2, _, rfl, rfl, e1.tupq h, rfl, _, rfl, u, _, d, it, rfl, h2.same e1, hI.same e1, by omega, fun H2 e2 => ?_⟩
          have := q H2 (e1.trans e2)
          rw [show (Cond.an c d).holds it = d.holds it by show (c.holds it && d.holds it) = _; rw [hb]; rfl] at this
          exact this
      | @orr a v u c d h h1 h2 =>
        refine ⟨_, rfl, a, _, 0, _, rfl, rfl, h, rfl, ?_⟩
        walk_at "sk"
        walk_at "sk"
        walk_at "sk"
        walk_at "sk"
        walk_at "sk"
        walk_at "sk"
        walk_at "sk"
        have hd' : max c.dep d.dep + 1 < n + 1 := hd
        refine ⟨_, rfl, a, _, 1, _, rfl, rfl, h, rfl, _, rfl, v, _, c, it, rfl, h1, hI, by omega, fun H1 e1 => ⟨_, rfl, ?_⟩⟩
        cases hb : c.holds it with
        | true =>
          have := q H1 e1
          rw [show (Cond.orr c d).holds it = true by show (c.holds it || d.holds it) = true; rw [hb]; rfl] at this
          exact iteT this
        | false =>
          refine iteF ⟨_, rfl, a, _, 2, _, rfl, rfl, e1.tupq h, rfl, _, rfl, u, _, d, it, rfl, h2.same e1, hI.same e1, by omega, fun H2 e2 => ?_⟩
          have := q H2 (e1.trans e2)
          rw [show (Cond.orr c d).holds it = d.holds it by show (c.holds it || d.holds it) = _; rw [hb]; rfl] at this
          exact this
/-! ### drawn conditions -/
def sp__law_number (K : PySem.W.Frag) : Sp := fun vs H Q _ => ∃ (L : Addr), vs = [.ref L] ∧ Dr H L ∧ ∀ z H', Ex [L] H H' → Dr H' L → Q (.int z) H'
theorem ok__law_number (T : Txt K mg) : FnOk P w K mg base CX0 2 T.f__law_number T.fd__law_number ["_law_draws_here"] (sp__law_number K) := by
  refine T.F__law_number.ok sc__law_number (fun vs H Q E h => ?_) (fun cdv A outer s H vs Q E hr h => ?_)
  · obtain ⟨L, rfl, _⟩ := h
    rfl
  · obtain ⟨L, rfl, hD, q⟩ := h
    refine ⟨_, (pss_one (ps_ret (pe_ix ix_list (pe_lst (pa_cons (pe_op op_sub (pe_call (ok__law_take T) (hr.mono (by decide)) (by rfl) T.g__law_take T.F__law_take.kp T.b__law_take .nil pass0 (pa_cons (pv 0) (pa_cons pe_int pa_nil))) pe_int) (pa_cons pe_int (pa_cons (pe_un un_neg pe_int) (pa_cons pe_int pa_nil))))) (pe_ix ix_list (pe_lst (pa_cons pe_int (pa_cons pe_int (pa_cons pe_int (pa_cons pe_int (pa_cons pe_int (pa_cons pe_int pa_nil))))))) (pe_call (ok__law_take T) (hr.mono (by decide)) (by rfl) T.g__law_take T.F__law_take.kp T.b__law_take .nil pass0 (pa_cons (pv 0) (pa_cons pe_int pa_nil))) (fun _ _ => rfl)) (fun _ _ => rfl)))), ?_⟩
    refine ⟨_, rfl, L, 41, rfl, by decide, hD, fun t H1 _ _ e1 d1 => ⟨_, _, rfl, rfl, _, rfl, by show 4 ≤ sizeLine; decide, fun p hp => ⟨by show 6 ≤ sizeLine; decide, fun p2 hp2 => ?_⟩⟩⟩
    have n1 : p ≠ L := d1.ne hp
    have e2 := (same_upd hp (o := .lst [.int (t - 20), .int 1000000, .int (-1000000), .int 0]))
    have n2 : p2 ≠ L := (d1.same e2).ne hp2
    have e3 := e2.trans (same_upd hp2 (o := .lst [.int 0, .int 0, .int 0, .int 1, .int 2, .int 3]))
    have n12 : p ≠ p2 := ne_of_none (H := upd H1 p (.lst [.int (t - 20), .int 1000000, .int (-1000000), .int 0])) upd_same hp2
    refine ⟨_, rfl, L, 6, rfl, by decide, d1.same e3, fun j H2 j0 j6 e4 d4 => ?_⟩
    obtain ⟨c, hc, hca⟩ := menu V.int [0, 0, 0, 1, 2, 3] j0 j6
    have hc4 : 0 ≤ c ∧ c < 4 := by
      have : c = 0 ∨ c = 1 ∨ c = 2 ∨ c = 3 := by simpa using hc
      omega
    obtain ⟨z, _, hz⟩ := menu V.int [t - 20, 1000000, -1000000, 0] hc4.1 hc4.2
    exact ⟨p2, _, j, _, rfl, rfl, SqL.of (e4.at (nin n2) upd_same), hca, p, _, c, _, rfl, rfl, SqL.of (e4.at (nin n1) (by rw [upd_ne n12]; exact upd_same)), hz, q z H2 ((e1.trans (Ex.of e3)).trans e4) d4⟩
theorem menu_od {j : Int} (h0 : 0 ≤ j) (h1 : j < 5) : ∃ o : Od, atI [V.str "<", V.str "<=", V.str "=", V.str ">=", V.str ">"] j = some (.str o.s) := by
  have : j = 0 ∨ j = 1 ∨ j = 2 ∨ j = 3 ∨ j = 4 := by omega
  rcases this with rfl | rfl | rfl | rfl | rfl
  · exact ⟨.lt, rfl⟩
  · exact ⟨.le, rfl⟩
  · exact ⟨.eq, rfl⟩
  · exact ⟨.ge, rfl⟩
  · exact ⟨.gt, rfl⟩
def sp__law_condition (K : PySem.W.Frag) (n : Nat) : Sp := fun vs H Q _ => ∃ (L : Addr) (d : Nat), vs = [.ref L, .int (d : Int)] ∧ d < n ∧ Dr H L ∧ ∀ v H' c, Ex [L] H H' → Dr H' L → Cd K H' v c → c.dep ≤ d → Q v H'
theorem okR__law_condition (T : Txt K mg) : ∀ n, n ≤ 5 → FnOk P w K mg base CX0 (n + 3) T.f__law_condition T.fd__law_condition ["_law_draws_here", "_law_depth"] (sp__law_condition K n)
  | 0, _ => by
    refine T.F__law_condition.ok sc__law_condition (fun vs H Q E h => ?_) (fun cdv A outer s H vs Q E hr h => ?_)
    · obtain ⟨L, d, rfl, _⟩ := h
      rfl
    · obtain ⟨L, d, rfl, hd, _⟩ := h
      exact absurd hd (Nat.not_lt_zero _)
  | n + 1, hn => by
    have ok__law_condition : ∀ T : Txt K mg, FnOk P w K mg base CX0 (n + 3) T.f__law_condition T.fd__law_condition ["_law_draws_here", "_law_depth"] (sp__law_condition K n) := fun T => okR__law_condition T n (by omega)
    refine T.F__law_condition.ok sc__law_condition (fun vs H Q E h => ?_) (fun cdv A outer s H vs Q E hr h => ?_)
    · obtain ⟨L, d, rfl, _⟩ := h
      rfl
    · obtain ⟨L, d, rfl, hd, hD, q⟩ := h
      refine ⟨_, (pss_cons (ps_set (i := 2) sc__law_condition.nd rfl (Or.inl rfl) (pe_call (ok__law_take T) (hr.mono (by omega)) (by rfl) T.g__law_take T.F__law_take.kp T.b__law_take .nil pass0 (pa_cons (pv 0) (pa_cons pe_int pa_nil))))
      (pss_cons (ps_if (PW.pt (pw_or (pt_cmpR op_eq (pv 1) pe_int (nomark _)) (pw_or1 (pt_cmpR op_lt (pv 2) pe_int (nomark _)))))
        (pss_cons (ps_set (i := 2) sc__law_condition.nd rfl (Or.inl rfl) (pe_call (ok__law_take T) (hr.mono (by omega)) (by rfl) T.g__law_take T.F__law_take.kp T.b__law_take .nil pass0 (pa_cons (pv 0) (pa_cons pe_int pa_nil))))
        (pss_cons (ps_if (pt_cmpR op_lt (pv 2) pe_int (nomark _))
          (pss_one (ps_ret (pe_tup (pa_cons (pe_ix ix_list (pe_lst (pa_cons pe_str (pa_cons pe_str pa_nil))) (pv 2) (fun _ _ => rfl)) (pa_cons (pe_ix ix_list (pe_lst (pa_cons pe_str (pa_cons pe_str (pa_cons pe_str (pa_cons pe_str (pa_cons pe_str pa_nil)))))) (pe_call (ok__law_take T) (hr.mono (by omega)) (by rfl) T.g__law_take T.F__law_take.kp T.b__law_take .nil pass0 (pa_cons (pv 0) (pa_cons pe_int pa_nil))) (fun _ _ => rfl)) (pa_cons (pe_call (ok__law_number T) (hr.mono (by omega)) (by rfl) T.g__law_number T.F__law_number.kp T.b__law_number .nil pass0 (pa_cons (pv 0) pa_nil)) pa_nil))))))
          pss_nil)
        (pss_cons (ps_if (pt_cmpR op_eq (pv 2) pe_int (nomark _))
          (pss_one (ps_ret (pe_tup (pa_cons pe_str (pa_cons (pe_ix ix_list (pe_lst (pa_cons pe_str (pa_cons pe_str (pa_cons pe_str (pa_cons pe_str pa_nil))))) (pe_call (ok__law_take T) (hr.mono (by omega)) (by rfl) T.g__law_take T.F__law_take.kp T.b__law_take .nil pass0 (pa_cons (pv 0) (pa_cons pe_int pa_nil))) (fun _ _ => rfl)) pa_nil)))))
          pss_nil)
        (pss_cons (ps_if (pt_cmpR op_eq (pv 2) pe_int (nomark _))
          (pss_one (ps_ret (pe_tup (pa_cons pe_str (pa_cons (pe_call (ok__law_name T) (hr.mono (by omega)) (by rfl) T.g__law_name T.F__law_name.kp T.b__law_name .nil pass0 (pa_cons (pv 0) pa_nil)) pa_nil)))))
          pss_nil)
        (pss_one (ps_ret (pe_tup (pa_cons pe_str pa_nil))))))))
        pss_nil)
      (pss_cons (ps_if (pt_cmpR op_eq (pv 2) pe_int (nomark _))
        (pss_one (ps_ret (pe_tup (pa_cons pe_str (pa_cons (pe_call (ok__law_condition T) (hr.mono (by omega)) (by rfl) T.g__law_condition T.F__law_condition.kp T.b__law_condition .nil pass0 (pa_cons (pv 0) (pa_cons (pe_op op_sub (pv 1) pe_int) pa_nil))) pa_nil)))))
        pss_nil)
      (pss_cons (ps_set (i := 3) sc__law_condition.nd rfl (Or.inl rfl) (pe_call (ok__law_condition T) (hr.mono (by omega)) (by rfl) T.g__law_condition T.F__law_condition.kp T.b__law_condition .nil pass0 (pa_cons (pv 0) (pa_cons (pe_op op_sub (pv 1) pe_int) pa_nil))))
      (pss_one (ps_ret (pe_tup (pa_cons (pe_ix ix_list (pe_lst (pa_cons pe_str (pa_cons pe_str pa_nil))) (pe_op op_modN (pe_callTy (T := "int") call_int1 (by rfl) T.z_int (by decide +kernel) (pa_cons (pv 2) pa_nil)) pe_int) (fun _ _ => rfl)) (pa_cons (pv 3) (pa_cons (pe_call (ok__law_condition T) (hr.mono (by omega)) (by rfl) T.g__law_condition T.F__law_condition.kp T.b__law_condition .nil pass0 (pa_cons (pv 0) (pa_cons (pe_op op_sub (pv 1) pe_int) pa_nil))) pa_nil)))))))))), ?_⟩
      refine ⟨_, rfl, L, 9, rfl, by decide, hD, fun k1 H1 _ k9 e1 d1 => ?_⟩
      dsimp only [gName]
      refine w_ifor (b1 := decide (V.int (d : Int) = V.int 0)) (b2 := decide (k1 < 4)) (fun Q' q' => ⟨_, rfl, rfl, _, rfl, q'⟩) (fun Q' q' => ⟨_, rfl, _, _, rfl, rfl, _, rfl, q'⟩) (ite2 (fun hb => ?_) (fun hb => ?_))
      · refine ⟨_, rfl, L, 5, rfl, by decide, d1, fun k2 H2 k20 k25 e2 d2 => ?_⟩
        have e02 := e1.trans e2
        refine ⟨_, rfl, _, _, rfl, rfl, _, rfl, ite_dec (fun h2 => ?_) (fun h2 => ?_)⟩
        · refine ⟨by show 2 ≤ sizeLine; decide, fun p1 hp1 => ?_⟩
          have e3 := same_upd hp1 (o := .lst [.str "weight", .str "amount"])
          obtain ⟨w, hw, hwa⟩ := menu V.str ["weight", "amount"] k20 h2
          refine ⟨_, rfl, p1, _, k2, _, rfl, rfl, SqL.of upd_same, hwa, by show 5 ≤ sizeLine; decide, fun p2 hp2 => ?_⟩
          have e4 := e3.trans (same_upd hp2 (o := .lst [.str "<", .str "<=", .str "=", .str ">=", .str ">"]))
          have np2 : p2 ≠ L := (d2.same e3).ne hp2
          refine ⟨_, rfl, L, 5, rfl, by decide, d2.same e4, fun k3 H3 k30 k35 e5 d5 => ?_⟩
          obtain ⟨o, ho⟩ := menu_od k30 k35
          refine ⟨p2, _, k3, _, rfl, rfl, SqL.of (e5.at (nin np2) upd_same), ho, _, rfl, L, rfl, d5, fun z H4 e6 d6 => ⟨by show 3 ≤ sizeLine; decide, fun t ht => ?_⟩⟩
          have e7 := same_upd ht (o := .tup [.str w, .str o.s, .int z])
          have e07 : Ex [L] H (upd H4 t (.tup [.str w, .str o.s, .int z])) := (((e02.trans (Ex.of e4)).trans e5).trans e6).trans (Ex.of e7)
          have hw2 : w = "weight" ∨ w = "amount" := by simpa using hw
          rcases hw2 with rfl | rfl
          · exact q _ _ (.wt o z) e07 (d6.same e7) (.wt (SqT.of upd_same)) (Nat.zero_le _)
          · exact q _ _ (.am o z) e07 (d6.same e7) (.am (SqT.of upd_same)) (Nat.zero_le _)
        · refine ⟨_, rfl, rfl, _, rfl, ite_dec (fun h3 => ?_) (fun h3 => ?_)⟩
          · refine ⟨by show 4 ≤ sizeLine; decide, fun p2 hp2 => ?_⟩
            have e4 := same_upd hp2 (o := .lst [.str "red", .str "blue", .str "k", .str "and"])
            have np2 : p2 ≠ L := d2.ne hp2
            refine ⟨_, rfl, L, 4, rfl, by decide, d2.same e4, fun k3 H3 k30 k35 e5 d5 => ?_⟩
            obtain ⟨z, _, hz⟩ := menu V.str ["red", "blue", "k", "and"] k30 k35
            refine ⟨p2, _, k3, _, rfl, rfl, SqL.of (e5.at (nin np2) upd_same), hz, by show 2 ≤ sizeLine; decide, fun t ht => ?_⟩
            have e7 := same_upd ht (o := .tup [.str "group", .str z])
            exact q _ _ (.grp z) (((e02.trans (Ex.of e4)).trans e5).trans (Ex.of e7)) (d5.same e7) (.grp (SqT.of upd_same)) (Nat.zero_le _)
          · refine ⟨_, rfl, rfl, _, rfl, ite_dec (fun h4 => ?_) (fun h4 => ?_)⟩
            · refine ⟨_, rfl, L, rfl, d2, fun z H3 _ e5 d5 => ⟨by show 2 ≤ sizeLine; decide, fun t ht => ?_⟩⟩
              have e7 := same_upd ht (o := .tup [.str "key", .str z])
              exact q _ _ (.key z) ((e02.trans e5).trans (Ex.of e7)) (d5.same e7) (.key (SqT.of upd_same)) (Nat.zero_le _)
            · refine ⟨by show 1 ≤ sizeLine; decide, fun t ht => ?_⟩
              have e7 := same_upd ht (o := .tup [.str "all"])
              exact q _ _ .all (e02.trans (Ex.of e7)) (d2.same e7) (.all (SqT.of upd_same)) (Nat.zero_le _)
      · have hd0 : d ≠ 0 := fun z => hb (by subst z; rfl)
        have hd1 : ((d : Int) - 1) = ((d - 1 : Nat) : Int) := by omega
        refine ⟨_, rfl, rfl, _, rfl, ite_dec (fun h2 => ?_) (fun h2 => ?_)⟩
        · refine ⟨_, rfl, _, rfl, _, _, rfl, rfl, ?_⟩
          refine ⟨L, d - 1, by show [V.ref L, V.int ((d : Int) - 1)] = _; rw [hd1], by omega, d1, fun v H2 c e2 d2 hc hcd => ⟨by show 2 ≤ sizeLine; decide, fun t ht => ?_⟩⟩
          have e7 := same_upd ht (o := .tup [.str "not", v])
          exact q _ _ (.nt c) ((e1.trans e2).trans (Ex.of e7)) (d2.same e7) (.nt (SqT.of upd_same) (hc.same e7)) (by show c.dep + 1 ≤ d; omega)
        · refine ⟨_, rfl, _, rfl, _, _, rfl, rfl, ?_⟩
          refine ⟨L, d - 1, by show [V.ref L, V.int ((d : Int) - 1)] = _; rw [hd1], by omega, d1, fun v H2 c e2 d2 hc hcd => ?_⟩
          refine ⟨by show 2 ≤ sizeLine; decide, fun p1 hp1 => ?_⟩
          have e3 := same_upd hp1 (o := .lst [.str "and", .str "or"])
          have h1 : 0 ≤ k1.fmod 2 := Int.fmod_nonneg_of_pos _ (by decide)
          have h2' : k1.fmod 2 < 2 := Int.fmod_lt_of_pos _ (by decide)
          obtain ⟨w, hw, hwa⟩ := menu V.str ["and", "or"] h1 h2'
          refine ⟨_, rfl, .inl ⟨_, rfl, _, _, rfl, rfl, (by dsimp only; decide), p1, _, k1.fmod 2, _, rfl, rfl, SqL.of upd_same, hwa, _, rfl, _, rfl, _, rfl, _, _, rfl, rfl, ?_⟩⟩
          refine ⟨L, d - 1, by show [V.ref L, V.int ((d : Int) - 1)] = _; rw [hd1], by omega, d2.same e3, fun u H3 c2 e4 d4 hc2 hcd2 => ⟨by show 3 ≤ sizeLine; decide, fun t ht => ?_⟩⟩
          have e7 := same_upd ht (o := .tup [.str w, v, u])
          have hcv : Cd K H3 v c := (hc.same e3).dr (d2.same e3) e4
          have e07 := (((e1.trans e2).trans (Ex.of e3)).trans e4).trans (Ex.of e7)
          have hw2 : w = "and" ∨ w = "or" := by simpa using hw
          rcases hw2 with rfl | rfl
          · exact q _ _ (.an c c2) e07 (d4.same e7) (.an (SqT.of upd_same) (hcv.same e7) (hc2.same e7)) (by show max c.dep c2.dep + 1 ≤ d; omega)
          · exact q _ _ (.orr c c2) e07 (d4.same e7) (.orr (SqT.of upd_same) (hcv.same e7) (hc2.same e7)) (by show max c.dep c2.dep + 1 ≤ d; omega)
/-! ### the law's own holding -/
def two (a b : Str) : List V := [.str a, .str b]
theorem flat_two (a b : Str) : (two a b).all flatV = true := rfl
theorem in_two (z a b : Str) : inV (.str z) (two a b) = (decide (a = z) || decide (b = z)) := by
  show ((a == z) || ((b == z) || false)) = _
  rw [Bool.or_false]
  rfl
local macro_rules | `(tactic| walk_at "n2") => `(tactic| refine ⟨_, rfl, by show 2 ≤ sizeLine; decide, fun _ hp => ?_⟩)
def Od.ix : Od → Nat
  | .lt => 0 | .le => 1 | .eq => 2 | .ge => 3 | .gt => 4
theorem Od.at (o : Od) : ([V.str "<", V.str "<=", V.str "=", V.str ">=", V.str ">"] : List V)[o.ix]? = some (.str o.s) := by cases o <;> rfl
theorem Od.no (o : Od) : ∀ (m : Nat) (z' : V), m < o.ix → ([V.str "<", V.str "<=", V.str "=", V.str ">=", V.str ">"] : List V)[m]? = some z' → eqV z' (.str o.s) = false := by
  intro m z' hm hz
  have : ∀ o : Od, ∀ m, m < o.ix → ∀ z', ([V.str "<", V.str "<=", V.str "=", V.str ">=", V.str ">"] : List V)[m]? = some z' → eqV z' (.str o.s) = false := by
    intro o m hm z' hz
    cases o
    · exact absurd hm (Nat.not_lt_zero _)
    · match m, hm with
      | 0, _ => cases hz; decide +kernel
    · match m, hm with
      | 0, _ => cases hz; decide +kernel
      | 1, _ => cases hz; decide +kernel
    · match m, hm with
      | 0, _ => cases hz; decide +kernel
      | 1, _ => cases hz; decide +kernel
      | 2, _ => cases hz; decide +kernel
    · match m, hm with
      | 0, _ => cases hz; decide +kernel
      | 1, _ => cases hz; decide +kernel
      | 2, _ => cases hz; decide +kernel
      | 3, _ => cases hz; decide +kernel
  exact this o m hm z' hz
theorem eqV_self (z : Str) : eqV (.str z) (.str z) = true := by
  show (z == z) = true
  exact beq_self_eq_true z
/-- the signs that an order lets be -/
def Od.sg : Od → List Int
  | .lt => [-1] | .le => [-1, 0] | .eq => [0] | .ge => [0, 1] | .gt => [1]
theorem inV_int : ∀ (z : Int) (ks : List Int), inV (.int z) (ks.map V.int) = decide (z ∈ ks)
  | z, [] => rfl
  | z, k :: r => by
    show (eqV (.int k) (.int z) || inV (.int z) (r.map V.int)) = _
    rw [inV_int z r]
    have e : eqV (.int k) (.int z) = (k == z) := rfl
    rw [e]
    by_cases h1 : k = z
    · subst h1; simp
    · by_cases h2 : z ∈ r
      · simp [h2]
      · have h3 : ¬ z = k := fun e => h1 e.symm
        simp [h1, h2, h3]
theorem flat_ints : ∀ ks : List Int, (ks.map V.int).all flatV = true
  | [] => rfl
  | _ :: r => by
    show (true && (r.map V.int).all flatV) = true
    rw [flat_ints r]
    rfl
theorem sg_is (o : Od) (a b : Int) : decide (((if decide (b < a) = true then (1 : Int) else 0) - (if decide (a < b) = true then (1 : Int) else 0)) ∈ o.sg) = o.h a b := by
  rcases Int.lt_trichotomy a b with h | h | h
  · have h1 : ¬ b < a := by omega
    have h2 : a ≤ b := by omega
    have h3 : ¬ a = b := by omega
    have h4 : ¬ b ≤ a := by omega
    cases o <;> simp [Od.sg, Od.h, h, h1, h2, h3, h4]
  · subst h
    cases o <;> simp [Od.sg, Od.h]
  · have h1 : ¬ a < b := by omega
    have h2 : ¬ a ≤ b := by omega
    have h3 : ¬ a = b := by omega
    have h4 : b ≤ a := by omega
    cases o <;> simp [Od.sg, Od.h, h, h1, h2, h3, h4]
def sp__law_held (K : PySem.W.Frag) (n : Nat) : Sp := sp_held K n
theorem okR__law_held (T : Txt K mg) : ∀ n, n ≤ 5 → FnOk P w K mg base CX0 (n + 2) T.f__law_held T.fd__law_held ["_law_condition_here", "_law_item"] (sp__law_held K n)
  | 0, _ => by
    refine T.F__law_held.ok sc__law_held (fun vs H Q E h => ?_) (fun cdv A outer s H vs Q E hr h => ?_)
    · obtain ⟨u, v, c, it, rfl, _⟩ := h
      rfl
    · obtain ⟨u, v, c, it, rfl, _, _, hd, _⟩ := h
      exact absurd hd (Nat.not_lt_zero _)
  | n + 1, hn => by
    have ok__law_held : ∀ T : Txt K mg, FnOk P w K mg base CX0 (n + 2) T.f__law_held T.fd__law_held ["_law_condition_here", "_law_item"] (sp__law_held K n) := fun T => okR__law_held T n (by omega)
    refine T.F__law_held.ok sc__law_held (fun vs H Q E h => ?_) (fun cdv A outer s H vs Q E hr h => ?_)
    · obtain ⟨u, v, c, it, rfl, _⟩ := h
      rfl
    · obtain ⟨u, v, c, it, rfl, hc, ⟨iok, ia, rfl, iT⟩, hd, q⟩ := h
      refine ⟨_, (pss_cons (ps_set (i := 2) sc__law_held.nd rfl (Or.inl rfl) (pe_ix ix_tup (pv 0) pe_int (fun _ _ => rfl)))
      (pss_cons (ps_if (pt_cmpR op_eq (pv 2) pe_str (nomark _))
        (pss_one (ps_ret pe_bl))
        pss_nil)
      (pss_cons (ps_if (pt_cmpR op_in_seq (pv 2) (pe_lst (pa_cons pe_str (pa_cons pe_str pa_nil))) (by rfl))
        (pss_one (ps_ret (pe_cmpR op_eq (pe_ix ix_tup (pv 1) (pe_bm PySem.F.plainAttrs_list PySem.F.slot_list_index PySem.F.type_list_index mt_index (pe_lst (pa_cons pe_str (pa_cons pe_str pa_nil))) (pa_cons (pv 2) pa_nil)) (fun _ _ => rfl)) (pe_ix ix_tup (pv 0) pe_int (fun _ _ => rfl)) (nomark _))))
        pss_nil)
      (pss_cons (ps_if (pt_cmpR op_in_seq (pv 2) (pe_lst (pa_cons pe_str (pa_cons pe_str pa_nil))) (by rfl))
        (pss_cons (ps_set (i := 3) sc__law_held.nd rfl (Or.inl rfl) (pe_ix ix_tup (pv 1) (pe_op op_add pe_int (pe_bm PySem.F.plainAttrs_list PySem.F.slot_list_index PySem.F.type_list_index mt_index (pe_lst (pa_cons pe_str (pa_cons pe_str pa_nil))) (pa_cons (pv 2) pa_nil))) (fun _ _ => rfl)))
        (pss_cons (ps_set (i := 4) sc__law_held.nd rfl (Or.inl rfl) (pe_op op_sub (pe_callTy (T := "int") call_int1 (by rfl) T.z_int (by decide +kernel) (pa_cons (pe_cmpR op_gt (pv 3) (pe_ix ix_tup (pv 0) pe_int (fun _ _ => rfl)) (nomark _)) pa_nil)) (pe_callTy (T := "int") call_int1 (by rfl) T.z_int (by decide +kernel) (pa_cons (pe_cmpR op_lt (pv 3) (pe_ix ix_tup (pv 0) pe_int (fun _ _ => rfl)) (nomark _)) pa_nil))))
        (pss_one (ps_ret (pe_cmpR op_in_seq (pv 4) (pe_ix ix_list (pe_lst (pa_cons (pe_lst (pa_cons (pe_un un_neg pe_int) pa_nil)) (pa_cons (pe_lst (pa_cons (pe_un un_neg pe_int) (pa_cons pe_int pa_nil))) (pa_cons (pe_lst (pa_cons pe_int pa_nil)) (pa_cons (pe_lst (pa_cons pe_int (pa_cons pe_int pa_nil))) (pa_cons (pe_lst (pa_cons pe_int pa_nil)) pa_nil)))))) (pe_bm PySem.F.plainAttrs_list PySem.F.slot_list_index PySem.F.type_list_index mt_index (pe_lst (pa_cons pe_str (pa_cons pe_str (pa_cons pe_str (pa_cons pe_str (pa_cons pe_str pa_nil)))))) (pa_cons (pe_ix ix_tup (pv 0) pe_int (fun _ _ => rfl)) pa_nil)) (fun _ _ => rfl)) (by rfl))))))
        pss_nil)
      (pss_cons (ps_if (pt_cmpR op_eq (pv 2) pe_str (nomark _))
        (pss_one (ps_ret (pe_not (pe_call (ok__law_held T) (hr.mono (by omega)) (by rfl) T.g__law_held T.F__law_held.kp T.b__law_held .nil pass0 (pa_cons (pe_ix ix_tup (pv 0) pe_int (fun _ _ => rfl)) (pa_cons (pv 1) pa_nil))))))
        pss_nil)
      (pss_cons (ps_set (i := 5) sc__law_held.nd rfl (Or.inl rfl) (pe_call (ok__law_held T) (hr.mono (by omega)) (by rfl) T.g__law_held T.F__law_held.kp T.b__law_held .nil pass0 (pa_cons (pe_ix ix_tup (pv 0) pe_int (fun _ _ => rfl)) (pa_cons (pv 1) pa_nil))))
      (pss_cons (ps_set (i := 6) sc__law_held.nd rfl (Or.inl rfl) (pe_call (ok__law_held T) (hr.mono (by omega)) (by rfl) T.g__law_held T.F__law_held.kp T.b__law_held .nil pass0 (pa_cons (pe_ix ix_tup (pv 0) pe_int (fun _ _ => rfl)) (pa_cons (pv 1) pa_nil))))
      (pss_cons (ps_if (pt_cmpR op_eq (pv 2) pe_str (nomark _))
        (pss_one (ps_ret (pe_and (pv 5) (pe_one (pv 6)))))
        pss_nil)
      (pss_one (ps_ret (pe_or (pv 5) (pe_one (pv 6))))))))))))), ?_⟩
      have hI : It K H (.ref ia) it := ⟨iok, ia, rfl, iT⟩
      -- the comparison of a weight or an amount: from the word's place on
      cases hc with
      | @all a h =>
        refine ⟨_, rfl, a, _, 0, _, rfl, rfl, h, rfl, ?_⟩
        walk_at "tk"
        exact q H (Same.refl H)
      | @key a z h =>
        refine ⟨_, rfl, a, _, 0, _, rfl, rfl, h, rfl, ?_⟩
        walk_at "sk"
        refine ⟨_, rfl, by show 2 ≤ sizeLine; decide, fun p hp => ⟨p, two "key" "group", rfl, .inl (SqL.of upd_same), rfl, flat_two _ _, _, rfl, iteT ?_⟩⟩
        have e1 := same_upd hp (o := .lst (two "key" "group"))
        refine ⟨_, rfl, by show 2 ≤ sizeLine; decide, fun p2 hp2 => ⟨.inl ⟨rfl, _, SqL.of upd_same⟩, _, rfl, p2, two "key" "group", _, 0, .str "key", rfl, rfl, SqL.of upd_same, rfl, flat_two _ _, rfl, rfl, fun m z' hm _ => absurd hm (Nat.not_lt_zero _), ?_⟩⟩
        have e2 := e1.trans (same_upd hp2 (o := .lst (two "key" "group")))
        refine ⟨ia, _, _, _, rfl, rfl, e2.tupq iT, rfl, _, rfl, a, _, 1, _, rfl, rfl, e2.tupq h, rfl, rfl, ?_⟩
        rw [dec_str]
        exact q _ e2
      | @grp a z h =>
        refine ⟨_, rfl, a, _, 0, _, rfl, rfl, h, rfl, ?_⟩
        walk_at "sk"
        refine ⟨_, rfl, by show 2 ≤ sizeLine; decide, fun p hp => ⟨p, two "key" "group", rfl, .inl (SqL.of upd_same), rfl, flat_two _ _, _, rfl, iteT ?_⟩⟩
        have e1 := same_upd hp (o := .lst (two "key" "group"))
        refine ⟨_, rfl, by show 2 ≤ sizeLine; decide, fun p2 hp2 => ⟨.inl ⟨rfl, _, SqL.of upd_same⟩, _, rfl, p2, two "key" "group", _, 1, .str "group", rfl, rfl, SqL.of upd_same, rfl, flat_two _ _, rfl, rfl, fun m z' hm hz => ?_, ?_⟩⟩
        · match m, hm with
          | 0, _ => cases hz; decide +kernel
        have e2 := e1.trans (same_upd hp2 (o := .lst (two "key" "group")))
        refine ⟨ia, _, _, _, rfl, rfl, e2.tupq iT, rfl, _, rfl, a, _, 1, _, rfl, rfl, e2.tupq h, rfl, rfl, ?_⟩
        rw [dec_str]
        exact q _ e2
      | @wt a o m h =>
        refine ⟨_, rfl, a, _, 0, _, rfl, rfl, h, rfl, ?_⟩
        walk_at "sk"
        refine ⟨_, rfl, by show 2 ≤ sizeLine; decide, fun p hp => ⟨p, two "key" "group", rfl, .inl (SqL.of upd_same), rfl, flat_two _ _, _, rfl, iteF ?_⟩⟩
        have g1 := same_upd (o := .lst [.str "key", .str "group"]) hp
        have gp1 : upd H p (.lst [.str "key", .str "group"]) p = some (.lst [.str "key", .str "group"]) := upd_same
        generalize upd H p (.lst [.str "key", .str "group"]) = G1 at g1 gp1 ⊢
        refine ⟨_, rfl, by show 2 ≤ sizeLine; decide, fun p2 hp2 => ⟨p2, two "weight" "amount", rfl, .inl (SqL.of upd_same), rfl, flat_two _ _, _, rfl, iteT ?_⟩⟩
        have g2 := same_upd (o := .lst [.str "weight", .str "amount"]) hp2
        have gp2 : upd G1 p2 (.lst [.str "weight", .str "amount"]) p2 = some (.lst [.str "weight", .str "amount"]) := upd_same
        generalize upd G1 p2 (.lst [.str "weight", .str "amount"]) = G2 at g2 gp2 ⊢
        refine ⟨_, rfl, by show 2 ≤ sizeLine; decide, fun p3 hp3 => ⟨.inl ⟨rfl, _, SqL.of upd_same⟩, _, rfl, p3, two "weight" "amount", _, 0, .str "weight", rfl, rfl, SqL.of upd_same, rfl, flat_two _ _, rfl, rfl, fun m z' hm _ => absurd hm (Nat.not_lt_zero _), ?_⟩⟩
        have g3 := same_upd (o := .lst [.str "weight", .str "amount"]) hp3
        have gp3 : upd G2 p3 (.lst [.str "weight", .str "amount"]) p3 = some (.lst [.str "weight", .str "amount"]) := upd_same
        generalize upd G2 p3 (.lst [.str "weight", .str "amount"]) = G3 at g3 gp3 ⊢
        have e3 := (g1.trans g2).trans g3
        refine ⟨_, _, rfl, rfl, ia, _, _, _, rfl, rfl, e3.tupq iT, rfl, ?_⟩
        refine ⟨_, rfl, _, rfl, a, _, 2, _, rfl, rfl, e3.tupq h, rfl, _, _, rfl, rfl, .inr ⟨_, rfl, _, rfl, _, rfl, a, _, 2, _, rfl, rfl, e3.tupq h, rfl, _, _, rfl, rfl, .inr ⟨_, rfl, _, _, rfl, rfl, ?_⟩⟩⟩
        -- the signs' lists
        refine ⟨_, rfl, _, rfl, by show 1 ≤ sizeLine; decide, fun q1 hq1 => ?_⟩
        have g4 := same_upd (o := .lst [.int (-1)]) hq1
        have gq1 : upd G3 q1 (.lst [.int (-1)]) q1 = some (.lst [.int (-1)]) := upd_same
        generalize upd G3 q1 (.lst [.int (-1)]) = G4 at g4 gq1 ⊢
        refine ⟨_, rfl, by show 2 ≤ sizeLine; decide, fun q2 hq2 => ?_⟩
        have g5 := same_upd (o := .lst [.int (-1), .int 0]) hq2
        have gq2 : upd G4 q2 (.lst [.int (-1), .int 0]) q2 = some (.lst [.int (-1), .int 0]) := upd_same
        generalize upd G4 q2 (.lst [.int (-1), .int 0]) = G5 at g5 gq2 ⊢
        refine ⟨by show 1 ≤ sizeLine; decide, fun q3 hq3 => ?_⟩
        have g6 := same_upd (o := .lst [.int 0]) hq3
        have gq3 : upd G5 q3 (.lst [.int 0]) q3 = some (.lst [.int 0]) := upd_same
        generalize upd G5 q3 (.lst [.int 0]) = G6 at g6 gq3 ⊢
        refine ⟨by show 2 ≤ sizeLine; decide, fun q4 hq4 => ?_⟩
        have g7 := same_upd (o := .lst [.int 0, .int 1]) hq4
        have gq4 : upd G6 q4 (.lst [.int 0, .int 1]) q4 = some (.lst [.int 0, .int 1]) := upd_same
        generalize upd G6 q4 (.lst [.int 0, .int 1]) = G7 at g7 gq4 ⊢
        refine ⟨by show 1 ≤ sizeLine; decide, fun q5 hq5 => ?_⟩
        have g8 := same_upd (o := .lst [.int 1]) hq5
        have gq5 : upd G7 q5 (.lst [.int 1]) q5 = some (.lst [.int 1]) := upd_same
        generalize upd G7 q5 (.lst [.int 1]) = G8 at g8 gq5 ⊢
        refine ⟨by show 5 ≤ sizeLine; decide, fun q6 hq6 => ?_⟩
        have g9 := same_upd (o := .lst [.ref q1, .ref q2, .ref q3, .ref q4, .ref q5]) hq6
        have gq6 : upd G8 q6 (.lst [.ref q1, .ref q2, .ref q3, .ref q4, .ref q5]) q6 = some (.lst [.ref q1, .ref q2, .ref q3, .ref q4, .ref q5]) := upd_same
        generalize upd G8 q6 (.lst [.ref q1, .ref q2, .ref q3, .ref q4, .ref q5]) = G9 at g9 gq6 ⊢
        refine ⟨by show 5 ≤ sizeLine; decide, fun q7 hq7 => ?_⟩
        have gA := same_upd (o := .lst [.str "<", .str "<=", .str "=", .str ">=", .str ">"]) hq7
        have gq7 : upd G9 q7 (.lst [.str "<", .str "<=", .str "=", .str ">=", .str ">"]) q7 = some (.lst [.str "<", .str "<=", .str "=", .str ">=", .str ">"]) := upd_same
        generalize upd G9 q7 (.lst [.str "<", .str "<=", .str "=", .str ">=", .str ">"]) = GA at gA gq7 ⊢
        have e3A : Same G3 GA := (((((((g4.trans g5).trans g6).trans g7).trans g8).trans g9).trans gA))
        refine ⟨.inl ⟨rfl, _, SqL.of gq7⟩, _, rfl, a, _, 1, _, rfl, rfl, e3A.tupq (e3.tupq h), rfl, q7, _, _, o.ix, _, rfl, rfl, SqL.of gq7, rfl, rfl, o.at, eqV_self _, o.no, ?_⟩
        have fin := q GA (e3.trans e3A)
        rw [show (Cond.wt o m).holds it = o.h it.w m from rfl, ← sg_is] at fin
        have hr1 : GA q1 = some (.lst [.int (-1)]) := gA _ _ (g9 _ _ (g8 _ _ (g7 _ _ (g6 _ _ (g5 _ _ gq1)))))
        have hr2 : GA q2 = some (.lst [.int (-1), .int 0]) := gA _ _ (g9 _ _ (g8 _ _ (g7 _ _ (g6 _ _ gq2))))
        have hr3 : GA q3 = some (.lst [.int 0]) := gA _ _ (g9 _ _ (g8 _ _ (g7 _ _ gq3)))
        have hr4 : GA q4 = some (.lst [.int 0, .int 1]) := gA _ _ (g9 _ _ (g8 _ _ gq4))
        have hr5 : GA q5 = some (.lst [.int 1]) := gA _ _ (g9 _ _ gq5)
        have hr6 := gA _ _ gq6
        obtain ⟨qq, hqq, hq2⟩ : ∃ qq, atI [V.ref q1, .ref q2, .ref q3, .ref q4, .ref q5] ((o.ix : Nat) : Int) = some (.ref qq) ∧ GA qq = some (.lst (o.sg.map V.int)) := by
          cases o
          · exact ⟨q1, rfl, hr1⟩
          · exact ⟨q2, rfl, hr2⟩
          · exact ⟨q3, rfl, hr3⟩
          · exact ⟨q4, rfl, hr4⟩
          · exact ⟨q5, rfl, hr5⟩
        refine ⟨q6, _, _, _, rfl, rfl, SqL.of hr6, hqq, qq, _, rfl, .inl (SqL.of hq2), rfl, flat_ints _, ?_⟩
        rw [show (if false = true then !inV _ (o.sg.map V.int) else inV _ (o.sg.map V.int)) = _ from inV_int _ _]
        exact fin
      | @am a o m h =>
        refine ⟨_, rfl, a, _, 0, _, rfl, rfl, h, rfl, ?_⟩
        walk_at "sk"
        refine ⟨_, rfl, by show 2 ≤ sizeLine; decide, fun p hp => ⟨p, two "key" "group", rfl, .inl (SqL.of upd_same), rfl, flat_two _ _, _, rfl, iteF ?_⟩⟩
        have g1 := same_upd (o := .lst [.str "key", .str "group"]) hp
        have gp1 : upd H p (.lst [.str "key", .str "group"]) p = some (.lst [.str "key", .str "group"]) := upd_same
        generalize upd H p (.lst [.str "key", .str "group"]) = G1 at g1 gp1 ⊢
        refine ⟨_, rfl, by show 2 ≤ sizeLine; decide, fun p2 hp2 => ⟨p2, two "weight" "amount", rfl, .inl (SqL.of upd_same), rfl, flat_two _ _, _, rfl, iteT ?_⟩⟩
        have g2 := same_upd (o := .lst [.str "weight", .str "amount"]) hp2
        have gp2 : upd G1 p2 (.lst [.str "weight", .str "amount"]) p2 = some (.lst [.str "weight", .str "amount"]) := upd_same
        generalize upd G1 p2 (.lst [.str "weight", .str "amount"]) = G2 at g2 gp2 ⊢
        refine ⟨_, rfl, by show 2 ≤ sizeLine; decide, fun p3 hp3 => ⟨.inl ⟨rfl, _, SqL.of upd_same⟩, _, rfl, p3, two "weight" "amount", _, 1, .str "amount", rfl, rfl, SqL.of upd_same, rfl, flat_two _ _, rfl, rfl, fun m z' hm hz => by match m, hm with | 0, _ => (cases hz; decide +kernel), ?_⟩⟩
        have g3 := same_upd (o := .lst [.str "weight", .str "amount"]) hp3
        have gp3 : upd G2 p3 (.lst [.str "weight", .str "amount"]) p3 = some (.lst [.str "weight", .str "amount"]) := upd_same
        generalize upd G2 p3 (.lst [.str "weight", .str "amount"]) = G3 at g3 gp3 ⊢
        have e3 := (g1.trans g2).trans g3
        refine ⟨_, _, rfl, rfl, ia, _, _, _, rfl, rfl, e3.tupq iT, rfl, ?_⟩
        refine ⟨_, rfl, _, rfl, a, _, 2, _, rfl, rfl, e3.tupq h, rfl, _, _, rfl, rfl, .inr ⟨_, rfl, _, rfl, _, rfl, a, _, 2, _, rfl, rfl, e3.tupq h, rfl, _, _, rfl, rfl, .inr ⟨_, rfl, _, _, rfl, rfl, ?_⟩⟩⟩
        -- the signs' lists
        refine ⟨_, rfl, _, rfl, by show 1 ≤ sizeLine; decide, fun q1 hq1 => ?_⟩
        have g4 := same_upd (o := .lst [.int (-1)]) hq1
        have gq1 : upd G3 q1 (.lst [.int (-1)]) q1 = some (.lst [.int (-1)]) := upd_same
        generalize upd G3 q1 (.lst [.int (-1)]) = G4 at g4 gq1 ⊢
        refine ⟨_, rfl, by show 2 ≤ sizeLine; decide, fun q2 hq2 => ?_⟩
        have g5 := same_upd (o := .lst [.int (-1), .int 0]) hq2
        have gq2 : upd G4 q2 (.lst [.int (-1), .int 0]) q2 = some (.lst [.int (-1), .int 0]) := upd_same
        generalize upd G4 q2 (.lst [.int (-1), .int 0]) = G5 at g5 gq2 ⊢
        refine ⟨by show 1 ≤ sizeLine; decide, fun q3 hq3 => ?_⟩
        have g6 := same_upd (o := .lst [.int 0]) hq3
        have gq3 : upd G5 q3 (.lst [.int 0]) q3 = some (.lst [.int 0]) := upd_same
        generalize upd G5 q3 (.lst [.int 0]) = G6 at g6 gq3 ⊢
        refine ⟨by show 2 ≤ sizeLine; decide, fun q4 hq4 => ?_⟩
        have g7 := same_upd (o := .lst [.int 0, .int 1]) hq4
        have gq4 : upd G6 q4 (.lst [.int 0, .int 1]) q4 = some (.lst [.int 0, .int 1]) := upd_same
        generalize upd G6 q4 (.lst [.int 0, .int 1]) = G7 at g7 gq4 ⊢
        refine ⟨by show 1 ≤ sizeLine; decide, fun q5 hq5 => ?_⟩
        have g8 := same_upd (o := .lst [.int 1]) hq5
        have gq5 : upd G7 q5 (.lst [.int 1]) q5 = some (.lst [.int 1]) := upd_same
        generalize upd G7 q5 (.lst [.int 1]) = G8 at g8 gq5 ⊢
        refine ⟨by show 5 ≤ sizeLine; decide, fun q6 hq6 => ?_⟩
        have g9 := same_upd (o := .lst [.ref q1, .ref q2, .ref q3, .ref q4, .ref q5]) hq6
        have gq6 : upd G8 q6 (.lst [.ref q1, .ref q2, .ref q3, .ref q4, .ref q5]) q6 = some (.lst [.ref q1, .ref q2, .ref q3, .ref q4, .ref q5]) := upd_same
        generalize upd G8 q6 (.lst [.ref q1, .ref q2, .ref q3, .ref q4, .ref q5]) = G9 at g9 gq6 ⊢
        refine ⟨by show 5 ≤ sizeLine; decide, fun q7 hq7 => ?_⟩
        have gA := same_upd (o := .lst [.str "<", .str "<=", .str "=", .str ">=", .str ">"]) hq7
        have gq7 : upd G9 q7 (.lst [.str "<", .str "<=", .str "=", .str ">=", .str ">"]) q7 = some (.lst [.str "<", .str "<=", .str "=", .str ">=", .str ">"]) := upd_same
        generalize upd G9 q7 (.lst [.str "<", .str "<=", .str "=", .str ">=", .str ">"]) = GA at gA gq7 ⊢
        have e3A : Same G3 GA := (((((((g4.trans g5).trans g6).trans g7).trans g8).trans g9).trans gA))
        refine ⟨.inl ⟨rfl, _, SqL.of gq7⟩, _, rfl, a, _, 1, _, rfl, rfl, e3A.tupq (e3.tupq h), rfl, q7, _, _, o.ix, _, rfl, rfl, SqL.of gq7, rfl, rfl, o.at, eqV_self _, o.no, ?_⟩
        have fin := q GA (e3.trans e3A)
        rw [show (Cond.am o m).holds it = o.h it.m m from rfl, ← sg_is] at fin
        have hr1 : GA q1 = some (.lst [.int (-1)]) := gA _ _ (g9 _ _ (g8 _ _ (g7 _ _ (g6 _ _ (g5 _ _ gq1)))))
        have hr2 : GA q2 = some (.lst [.int (-1), .int 0]) := gA _ _ (g9 _ _ (g8 _ _ (g7 _ _ (g6 _ _ gq2))))
        have hr3 : GA q3 = some (.lst [.int 0]) := gA _ _ (g9 _ _ (g8 _ _ (g7 _ _ gq3)))
        have hr4 : GA q4 = some (.lst [.int 0, .int 1]) := gA _ _ (g9 _ _ (g8 _ _ gq4))
        have hr5 : GA q5 = some (.lst [.int 1]) := gA _ _ (g9 _ _ gq5)
        have hr6 := gA _ _ gq6
        obtain ⟨qq, hqq, hq2⟩ : ∃ qq, atI [V.ref q1, .ref q2, .ref q3, .ref q4, .ref q5] ((o.ix : Nat) : Int) = some (.ref qq) ∧ GA qq = some (.lst (o.sg.map V.int)) := by
          cases o
          · exact ⟨q1, rfl, hr1⟩
          · exact ⟨q2, rfl, hr2⟩
          · exact ⟨q3, rfl, hr3⟩
          · exact ⟨q4, rfl, hr4⟩
          · exact ⟨q5, rfl, hr5⟩
        refine ⟨q6, _, _, _, rfl, rfl, SqL.of hr6, hqq, qq, _, rfl, .inl (SqL.of hq2), rfl, flat_ints _, ?_⟩
        rw [show (if false = true then !inV _ (o.sg.map V.int) else inV _ (o.sg.map V.int)) = _ from inV_int _ _]
        exact fin
      | @nt a v c h h1 =>
        refine ⟨_, rfl, a, _, 0, _, rfl, rfl, h, rfl, ?_⟩
        walk_at "sk"
        refine ⟨_, rfl, by show 2 ≤ sizeLine; decide, fun p hp => ⟨p, two "key" "group", rfl, .inl (SqL.of upd_same), rfl, flat_two _ _, _, rfl, iteF ?_⟩⟩
        have g1 := same_upd (o := .lst [.str "key", .str "group"]) hp
        have gp1 : upd H p (.lst [.str "key", .str "group"]) p = some (.lst [.str "key", .str "group"]) := upd_same
        generalize upd H p (.lst [.str "key", .str "group"]) = G1 at g1 gp1 ⊢
        refine ⟨_, rfl, by show 2 ≤ sizeLine; decide, fun p2 hp2 => ⟨p2, two "weight" "amount", rfl, .inl (SqL.of upd_same), rfl, flat_two _ _, _, rfl, iteF ?_⟩⟩
        have g2 := same_upd (o := .lst [.str "weight", .str "amount"]) hp2
        have gp2 : upd G1 p2 (.lst [.str "weight", .str "amount"]) p2 = some (.lst [.str "weight", .str "amount"]) := upd_same
        generalize upd G1 p2 (.lst [.str "weight", .str "amount"]) = G2 at g2 gp2 ⊢
        have e2 := g1.trans g2
        walk_at "tk"
        have hd' : c.dep + 1 < n + 1 := hd
        exact ⟨_, rfl, a, _, 1, _, rfl, rfl, e2.tupq h, rfl, _, rfl, v, _, c, it, rfl, h1.same e2, hI.same e2, by omega, fun H1 e1 => ⟨_, rfl, q H1 (e2.trans e1)⟩⟩
      | @an a v u c d h h1 h2 =>
        refine ⟨_, rfl, a, _, 0, _, rfl, rfl, h, rfl, ?_⟩
        walk_at "sk"
        refine ⟨_, rfl, by show 2 ≤ sizeLine; decide, fun p hp => ⟨p, two "key" "group", rfl, .inl (SqL.of upd_same), rfl, flat_two _ _, _, rfl, iteF ?_⟩⟩
        have g1 := same_upd (o := .lst [.str "key", .str "group"]) hp
        have gp1 : upd H p (.lst [.str "key", .str "group"]) p = some (.lst [.str "key", .str "group"]) := upd_same
        generalize upd H p (.lst [.str "key", .str "group"]) = G1 at g1 gp1 ⊢
        refine ⟨_, rfl, by show 2 ≤ sizeLine; decide, fun p2 hp2 => ⟨p2, two "weight" "amount", rfl, .inl (SqL.of upd_same), rfl, flat_two _ _, _, rfl, iteF ?_⟩⟩
        have g2 := same_upd (o := .lst [.str "weight", .str "amount"]) hp2
        have gp2 : upd G1 p2 (.lst [.str "weight", .str "amount"]) p2 = some (.lst [.str "weight", .str "amount"]) := upd_same
        generalize upd G1 p2 (.lst [.str "weight", .str "amount"]) = G2 at g2 gp2 ⊢
        have e2 := g1.trans g2
        walk_at "sk"
        have hd' : max c.dep d.dep + 1 < n + 1 := hd
        refine ⟨_, rfl, a, _, 1, _, rfl, rfl, e2.tupq h, rfl, _, rfl, v, _, c, it, rfl, h1.same e2, hI.same e2, by omega, fun H1 e1 => ?_⟩
        have e3 := e2.trans e1
        refine ⟨_, rfl, a, _, 2, _, rfl, rfl, e3.tupq h, rfl, _, rfl, u, _, d, it, rfl, h2.same e3, hI.same e3, by omega, fun H2 e4 => ?_⟩
        have fin : Q (.bl (c.holds it && d.holds it)) H2 := q H2 (e3.trans e4)
        walk_at "tk"
        refine ⟨_, rfl, _, rfl, ?_⟩
        cases hb : c.holds it with
        | true =>
          rw [hb] at fin
          exact iteT ⟨_, rfl, fin⟩
        | false =>
          rw [hb] at fin
          exact iteF fin
      | @orr a v u c d h h1 h2 =>
        refine ⟨_, rfl, a, _, 0, _, rfl, rfl, h, rfl, ?_⟩
        walk_at "sk"
        refine ⟨_, rfl, by show 2 ≤ sizeLine; decide, fun p hp => ⟨p, two "key" "group", rfl, .inl (SqL.of upd_same), rfl, flat_two _ _, _, rfl, iteF ?_⟩⟩
        have g1 := same_upd (o := .lst [.str "key", .str "group"]) hp
        have gp1 : upd H p (.lst [.str "key", .str "group"]) p = some (.lst [.str "key", .str "group"]) := upd_same
        generalize upd H p (.lst [.str "key", .str "group"]) = G1 at g1 gp1 ⊢
        refine ⟨_, rfl, by show 2 ≤ sizeLine; decide, fun p2 hp2 => ⟨p2, two "weight" "amount", rfl, .inl (SqL.of upd_same), rfl, flat_two _ _, _, rfl, iteF ?_⟩⟩
        have g2 := same_upd (o := .lst [.str "weight", .str "amount"]) hp2
        have gp2 : upd G1 p2 (.lst [.str "weight", .str "amount"]) p2 = some (.lst [.str "weight", .str "amount"]) := upd_same
        generalize upd G1 p2 (.lst [.str "weight", .str "amount"]) = G2 at g2 gp2 ⊢
        have e2 := g1.trans g2
        walk_at "sk"
        have hd' : max c.dep d.dep + 1 < n + 1 := hd
        refine ⟨_, rfl, a, _, 1, _, rfl, rfl, e2.tupq h, rfl, _, rfl, v, _, c, it, rfl, h1.same e2, hI.same e2, by omega, fun H1 e1 => ?_⟩
        have e3 := e2.trans e1
        refine ⟨_, rfl, a, _, 2, _, rfl, rfl, e3.tupq h, rfl, _, rfl, u, _, d, it, rfl, h2.same e3, hI.same e3, by omega, fun H2 e4 => ?_⟩
        have fin : Q (.bl (c.holds it || d.holds it)) H2 := q H2 (e3.trans e4)
        walk_at "sk"
        refine ⟨_, rfl, _, rfl, ?_⟩
        cases hb : c.holds it with
        | true =>
          rw [hb] at fin
          exact iteT fin
        | false =>
          rw [hb] at fin
          exact iteF ⟨_, rfl, fin⟩
/-! ### near -/
def sp__law_near (K : PySem.W.Frag) (n : Nat) : Sp := fun vs H Q _ => ∃ (L p : Addr) (v : V) (c : Cond) (xs : List V) (its : List Item), vs = [.ref L, v, .ref p] ∧ p ≠ L ∧ Dr H L ∧ Cd K H v c ∧ H p = some (.lst xs) ∧ Its' K H xs its ∧ its.length ≤ 100 ∧ c.dep < n ∧
  ∀ v' H' c', Ex [L] H H' → Dr H' L → Cd K H' v' c' → c'.dep ≤ c.dep → Q v' H'
theorem items_nil {its : List Item} : PyData.eqv (.list (its.map Item.d)) (.list []) = its.isEmpty := by
  cases its with
  | nil => rfl
  | cons _ _ => rw [PyData.eqv]; rfl
theorem okR__law_near (T : Txt K mg) : ∀ n, n ≤ 5 → FnOk P w K mg base CX0 (n + 2) T.f__law_near T.fd__law_near ["_law_draws_here", "_law_condition_here", "_law_items_here"] (sp__law_near K n)
  | 0, _ => by
    refine T.F__law_near.ok sc__law_near (fun vs H Q E h => ?_) (fun cdv A outer s H vs Q E hr h => ?_)
    · obtain ⟨L, p, v, c, xs, its, rfl, _⟩ := h
      rfl
    · obtain ⟨L, p, v, c, xs, its, rfl, _, _, _, _, _, _, hd, _⟩ := h
      exact absurd hd (Nat.not_lt_zero _)
  | n + 1, hn => by
    have ok__law_near : ∀ T : Txt K mg, FnOk P w K mg base CX0 (n + 2) T.f__law_near T.fd__law_near ["_law_draws_here", "_law_condition_here", "_law_items_here"] (sp__law_near K n) := fun T => okR__law_near T n (by omega)
    refine T.F__law_near.ok sc__law_near (fun vs H Q E h => ?_) (fun cdv A outer s H vs Q E hr h => ?_)
    · obtain ⟨L, p, v, c, xs, its, rfl, _⟩ := h
      rfl
    · obtain ⟨L, p, v, c, xs, its, rfl, npL, hD, hc, hp, hI, hl, hd, q⟩ := h
      refine ⟨_, (pss_cut (ps_if (PW.pt (pw_and (pt_cmpR op_in_seq (pe_ix ix_tup (pv 1) pe_int (fun _ _ => rfl)) (pe_lst (pa_cons pe_str (pa_cons pe_str pa_nil))) (by rfl)) (pw_and (pt_cmpR (op_neD hr.units) (pv 2) (pe_lst pa_nil) (nomark _)) (pw_and1 (pt_cmpR op_eq (pe_call (ok__law_take T) (hr.mono (by omega)) (by rfl) T.g__law_take T.F__law_take.kp T.b__law_take .nil pass0 (pa_cons (pv 0) (pa_cons pe_int pa_nil))) pe_int (nomark _))))))
        (pss_cons (ps_set (i := 3) sc__law_near.nd rfl (Or.inl rfl) (pe_ix ix_list (pv 2) (pe_call (ok__law_take T) (hr.mono (by omega)) (by rfl) T.g__law_take T.F__law_take.kp T.b__law_take .nil pass0 (pa_cons (pv 0) (pa_cons (pe_callB (id := "len") call_len_seq (by rfl) T.z_len (by decide +kernel) (pa_cons (pv 2) pa_nil)) pa_nil))) (fun _ _ => rfl)))
        (pss_one (ps_ret (pe_tup (pa_cons (pe_ix ix_tup (pv 1) pe_int (fun _ _ => rfl)) (pa_cons (pe_ix ix_tup (pv 1) pe_int (fun _ _ => rfl)) (pa_cons (pe_op op_sub (pe_op op_add (pe_ix ix_tup (pv 3) (pe_op op_add pe_int (pe_callTy (T := "int") call_int1 (by rfl) T.z_int (by decide +kernel) (pa_cons (pe_cmpR op_eq (pe_ix ix_tup (pv 1) pe_int (fun _ _ => rfl)) pe_str (nomark _)) pa_nil))) (fun _ _ => rfl)) (pe_call (ok__law_take T) (hr.mono (by omega)) (by rfl) T.g__law_take T.F__law_take.kp T.b__law_take .nil pass0 (pa_cons (pv 0) (pa_cons pe_int pa_nil)))) pe_int) pa_nil)))))))
        pss_nil)
      (pss_cons (ps_if (pt_cmpR op_eq (pe_ix ix_tup (pv 1) pe_int (fun _ _ => rfl)) pe_str (nomark _))
        (pss_one (ps_ret (pe_tup (pa_cons pe_str (pa_cons (pe_call (ok__law_near T) (hr.mono (by omega)) (by rfl) T.g__law_near T.F__law_near.kp T.b__law_near .nil pass0 (pa_cons (pv 0) (pa_cons (pe_ix ix_tup (pv 1) pe_int (fun _ _ => rfl)) (pa_cons (pv 2) pa_nil)))) pa_nil)))))
        pss_nil)
      (pss_cons (ps_if (pt_cmpR op_in_seq (pe_ix ix_tup (pv 1) pe_int (fun _ _ => rfl)) (pe_lst (pa_cons pe_str (pa_cons pe_str pa_nil))) (by rfl))
        (pss_one (ps_ret (pe_tup (pa_cons (pe_ix ix_tup (pv 1) pe_int (fun _ _ => rfl)) (pa_cons (pe_call (ok__law_near T) (hr.mono (by omega)) (by rfl) T.g__law_near T.F__law_near.kp T.b__law_near .nil pass0 (pa_cons (pv 0) (pa_cons (pe_ix ix_tup (pv 1) pe_int (fun _ _ => rfl)) (pa_cons (pv 2) pa_nil)))) (pa_cons (pe_call (ok__law_near T) (hr.mono (by omega)) (by rfl) T.g__law_near T.F__law_near.kp T.b__law_near .nil pass0 (pa_cons (pv 0) (pa_cons (pe_ix ix_tup (pv 1) pe_int (fun _ _ => rfl)) (pa_cons (pv 2) pa_nil)))) pa_nil))))))
        pss_nil)
      (pss_one (ps_ret (pv 1)))))), ?_⟩
      refine ⟨fun σ' H' => ∃ x, σ' = [some (.ref L), some v, some (.ref p), x] ∧ Ex [L] H H' ∧ Dr H' L, ?_, ?_⟩
      · -- the drawn number near an item's
        have plain : ∀ {w : Str} {a : Addr} {rest : List V} {o : HO}, v = .ref a → SqT K H a (.str w :: rest) → (decide (("weight" : Str) = w) || decide (("amount" : Str) = w)) = false → True := fun _ _ _ => trivial
        have cmpw : ∀ (isA : Bool) (a : Addr) (o : Od) (m : Int), v = .ref a → SqT K H a [.str (if isA then "amount" else "weight"), .str o.s, .int m] → c = (if isA then Cond.am o m else Cond.wt o m) → True := fun _ _ _ _ _ _ _ => trivial
        cases hc with
        | @all a h =>
          refine ⟨_, rfl, a, _, 0, _, rfl, rfl, h, rfl, by show 2 ≤ sizeLine; decide, fun p2 hp2 => ⟨p2, two "weight" "amount", rfl, .inl (SqL.of upd_same), rfl, flat_two _ _, _, rfl, iteF ⟨_, rfl, Ex.of (same_upd hp2), hD.same (same_upd hp2)⟩⟩⟩
        | @grp a z h =>
          refine ⟨_, rfl, a, _, 0, _, rfl, rfl, h, rfl, by show 2 ≤ sizeLine; decide, fun p2 hp2 => ⟨p2, two "weight" "amount", rfl, .inl (SqL.of upd_same), rfl, flat_two _ _, _, rfl, iteF ⟨_, rfl, Ex.of (same_upd hp2), hD.same (same_upd hp2)⟩⟩⟩
        | @key a z h =>
          refine ⟨_, rfl, a, _, 0, _, rfl, rfl, h, rfl, by show 2 ≤ sizeLine; decide, fun p2 hp2 => ⟨p2, two "weight" "amount", rfl, .inl (SqL.of upd_same), rfl, flat_two _ _, _, rfl, iteF ⟨_, rfl, Ex.of (same_upd hp2), hD.same (same_upd hp2)⟩⟩⟩
        | @nt a u c h h1 =>
          refine ⟨_, rfl, a, _, 0, _, rfl, rfl, h, rfl, by show 2 ≤ sizeLine; decide, fun p2 hp2 => ⟨p2, two "weight" "amount", rfl, .inl (SqL.of upd_same), rfl, flat_two _ _, _, rfl, iteF ⟨_, rfl, Ex.of (same_upd hp2), hD.same (same_upd hp2)⟩⟩⟩
        | @an a u u2 c d h h1 h2 =>
          refine ⟨_, rfl, a, _, 0, _, rfl, rfl, h, rfl, by show 2 ≤ sizeLine; decide, fun p2 hp2 => ⟨p2, two "weight" "amount", rfl, .inl (SqL.of upd_same), rfl, flat_two _ _, _, rfl, iteF ⟨_, rfl, Ex.of (same_upd hp2), hD.same (same_upd hp2)⟩⟩⟩
        | @orr a u u2 c d h h1 h2 =>
          refine ⟨_, rfl, a, _, 0, _, rfl, rfl, h, rfl, by show 2 ≤ sizeLine; decide, fun p2 hp2 => ⟨p2, two "weight" "amount", rfl, .inl (SqL.of upd_same), rfl, flat_two _ _, _, rfl, iteF ⟨_, rfl, Ex.of (same_upd hp2), hD.same (same_upd hp2)⟩⟩⟩
        | @wt a o m h =>
          refine ⟨_, rfl, a, _, 0, _, rfl, rfl, h, rfl, by show 2 ≤ sizeLine; decide, fun p2 hp2 => ⟨p2, two "weight" "amount", rfl, .inl (SqL.of upd_same), rfl, flat_two _ _, _, rfl, iteT ?_⟩⟩
          have g1 := same_upd (o := .lst [.str "weight", .str "amount"]) hp2
          have gp1 : upd H p2 (.lst [.str "weight", .str "amount"]) p2 = some (.lst [.str "weight", .str "amount"]) := upd_same
          generalize upd H p2 (.lst [.str "weight", .str "amount"]) = G1 at g1 gp1 ⊢
          have hok := itsOk hI
          refine ⟨_, rfl, Nat.zero_le _, fun p3 hp3 => ?_⟩
          have g2 := same_upd (o := .lst []) hp3
          have gp2 : upd G1 p3 (.lst []) p3 = some (.lst []) := upd_same
          generalize upd G1 p3 (.lst []) = G2 at g2 gp2 ⊢
          have e2 := g1.trans g2
          refine ⟨.list (its.map Item.d), .list [], .lst (SqL.of (e2 _ _ hp)) (itsDp (itsSame e2 hI)), .lst (SqL.of gp2) .nil, itsShaped hok, rfl, _, rfl, ?_⟩
          rw [items_nil]
          cases hne : its.isEmpty with
          | true => exact iteF ⟨_, rfl, Ex.of e2, hD.same e2⟩
          | false =>
            have hpos : 0 < its.length := by
              cases its with
              | nil => cases hne
              | cons _ _ => exact Nat.succ_pos _
            have hxl : xs.length = its.length := Paired.length hI
            refine iteT ⟨_, rfl, L, 2, rfl, by decide, hD.same e2, fun b G3 _ _ g3 d3 => ⟨rfl, _, rfl, ite_dec (fun _ => ?_) (fun _ => ⟨_, rfl, (Ex.of e2).trans g3, d3⟩)⟩⟩
            have e3 : Ex [L] H G3 := (Ex.of e2).trans g3
            have hp3 := e3.at (nin npL) hp
            refine ⟨_, rfl, _, rfl, _, rfl, p, xs, rfl, .inl (SqL.of hp3), L, _, rfl, by omega, d3, fun j G4 j0 j1 g4 d4 => ?_⟩
            have e4 := e3.trans g4
            obtain ⟨x, hx, ⟨iok, ia, rfl, iT⟩⟩ := itsAt (its_dr hI hD e4) (i := j.toNat) (by omega)
            refine ⟨p, xs, j, _, rfl, rfl, SqL.of (e4.at (nin npL) hp), atI_int j0 hx, ?_⟩
            have h4 : SqT K G4 a [.str "weight", .str o.s, .int m] := by
              obtain ⟨ns, dn⟩ := hD
              exact sqT_stay' h dn e4
            refine ⟨_, rfl, a, _, 0, _, rfl, rfl, h4, rfl, _, rfl, a, _, 1, _, rfl, rfl, h4, rfl, _, rfl, _, rfl, a, _, 0, _, rfl, rfl, h4, rfl, rfl, .inr ⟨_, rfl, _, _, rfl, rfl, ia, _, _, .int _, rfl, rfl, iT, rfl, ?_⟩⟩
            refine ⟨_, rfl, L, 3, rfl, by decide, d4, fun z G5 _ _ g5 d5 => ⟨_, _, rfl, rfl, _, _, rfl, rfl, by show 3 ≤ sizeLine; decide, fun t ht => ?_⟩⟩
            refine q _ _ (.wt o _) ((e4.trans g5).trans (Ex.of (same_upd ht))) (d5.same (same_upd ht)) (.wt (SqT.of upd_same)) (Nat.le_refl _)
        | @am a o m h =>
          refine ⟨_, rfl, a, _, 0, _, rfl, rfl, h, rfl, by show 2 ≤ sizeLine; decide, fun p2 hp2 => ⟨p2, two "weight" "amount", rfl, .inl (SqL.of upd_same), rfl, flat_two _ _, _, rfl, iteT ?_⟩⟩
          have g1 := same_upd (o := .lst [.str "weight", .str "amount"]) hp2
          have gp1 : upd H p2 (.lst [.str "weight", .str "amount"]) p2 = some (.lst [.str "weight", .str "amount"]) := upd_same
          generalize upd H p2 (.lst [.str "weight", .str "amount"]) = G1 at g1 gp1 ⊢
          have hok := itsOk hI
          refine ⟨_, rfl, Nat.zero_le _, fun p3 hp3 => ?_⟩
          have g2 := same_upd (o := .lst []) hp3
          have gp2 : upd G1 p3 (.lst []) p3 = some (.lst []) := upd_same
          generalize upd G1 p3 (.lst []) = G2 at g2 gp2 ⊢
          have e2 := g1.trans g2
          refine ⟨.list (its.map Item.d), .list [], .lst (SqL.of (e2 _ _ hp)) (itsDp (itsSame e2 hI)), .lst (SqL.of gp2) .nil, itsShaped hok, rfl, _, rfl, ?_⟩
          rw [items_nil]
          cases hne : its.isEmpty with
          | true => exact iteF ⟨_, rfl, Ex.of e2, hD.same e2⟩
          | false =>
            have hpos : 0 < its.length := by
              cases its with
              | nil => cases hne
              | cons _ _ => exact Nat.succ_pos _
            have hxl : xs.length = its.length := Paired.length hI
            refine iteT ⟨_, rfl, L, 2, rfl, by decide, hD.same e2, fun b G3 _ _ g3 d3 => ⟨rfl, _, rfl, ite_dec (fun _ => ?_) (fun _ => ⟨_, rfl, (Ex.of e2).trans g3, d3⟩)⟩⟩
            have e3 : Ex [L] H G3 := (Ex.of e2).trans g3
            have hp3 := e3.at (nin npL) hp
            refine ⟨_, rfl, _, rfl, _, rfl, p, xs, rfl, .inl (SqL.of hp3), L, _, rfl, by omega, d3, fun j G4 j0 j1 g4 d4 => ?_⟩
            have e4 := e3.trans g4
            obtain ⟨x, hx, ⟨iok, ia, rfl, iT⟩⟩ := itsAt (its_dr hI hD e4) (i := j.toNat) (by omega)
            refine ⟨p, xs, j, _, rfl, rfl, SqL.of (e4.at (nin npL) hp), atI_int j0 hx, ?_⟩
            have h4 : SqT K G4 a [.str "amount", .str o.s, .int m] := by
              obtain ⟨ns, dn⟩ := hD
              exact sqT_stay' h dn e4
            refine ⟨_, rfl, a, _, 0, _, rfl, rfl, h4, rfl, _, rfl, a, _, 1, _, rfl, rfl, h4, rfl, _, rfl, _, rfl, a, _, 0, _, rfl, rfl, h4, rfl, rfl, .inr ⟨_, rfl, _, _, rfl, rfl, ia, _, _, .int _, rfl, rfl, iT, rfl, ?_⟩⟩
            refine ⟨_, rfl, L, 3, rfl, by decide, d4, fun z G5 _ _ g5 d5 => ⟨_, _, rfl, rfl, _, _, rfl, rfl, by show 3 ≤ sizeLine; decide, fun t ht => ?_⟩⟩
            refine q _ _ (.am o _) ((e4.trans g5).trans (Ex.of (same_upd ht))) (d5.same (same_upd ht)) (.am (SqT.of upd_same)) (Nat.le_refl _)
      · rintro σ' H1 ⟨x, rfl, e1, d1⟩
        have hc1 := hc.dr hD e1
        have hp1 := e1.at (nin npL) hp
        have hI1 := its_dr hI hD e1
        have asis : ∀ H2, Same H1 H2 → Q v H2 := fun H2 e2 => q v H2 c (e1.trans (Ex.of e2)) (d1.same e2) (hc1.same e2) (Nat.le_refl _)
        cases hc1 with
        | @all a h =>
          refine ⟨_, rfl, a, _, 0, _, rfl, rfl, h, rfl, rfl, _, rfl, ite_dec (fun h => absurd (V.str.inj h) (by decide +kernel)) (fun _ => ?_)⟩
          refine ⟨_, rfl, a, _, 0, _, rfl, rfl, h, rfl, by show 2 ≤ sizeLine; decide, fun p2 hp2 => ⟨p2, two "and" "or", rfl, .inl (SqL.of upd_same), rfl, flat_two _ _, _, rfl, iteF ⟨_, rfl, asis _ (same_upd hp2)⟩⟩⟩
        | @grp a z h =>
          refine ⟨_, rfl, a, _, 0, _, rfl, rfl, h, rfl, rfl, _, rfl, ite_dec (fun h => absurd (V.str.inj h) (by decide +kernel)) (fun _ => ?_)⟩
          refine ⟨_, rfl, a, _, 0, _, rfl, rfl, h, rfl, by show 2 ≤ sizeLine; decide, fun p2 hp2 => ⟨p2, two "and" "or", rfl, .inl (SqL.of upd_same), rfl, flat_two _ _, _, rfl, iteF ⟨_, rfl, asis _ (same_upd hp2)⟩⟩⟩
        | @key a z h =>
          refine ⟨_, rfl, a, _, 0, _, rfl, rfl, h, rfl, rfl, _, rfl, ite_dec (fun h => absurd (V.str.inj h) (by decide +kernel)) (fun _ => ?_)⟩
          refine ⟨_, rfl, a, _, 0, _, rfl, rfl, h, rfl, by show 2 ≤ sizeLine; decide, fun p2 hp2 => ⟨p2, two "and" "or", rfl, .inl (SqL.of upd_same), rfl, flat_two _ _, _, rfl, iteF ⟨_, rfl, asis _ (same_upd hp2)⟩⟩⟩
        | @wt a o m h =>
          refine ⟨_, rfl, a, _, 0, _, rfl, rfl, h, rfl, rfl, _, rfl, ite_dec (fun h => absurd (V.str.inj h) (by decide +kernel)) (fun _ => ?_)⟩
          refine ⟨_, rfl, a, _, 0, _, rfl, rfl, h, rfl, by show 2 ≤ sizeLine; decide, fun p2 hp2 => ⟨p2, two "and" "or", rfl, .inl (SqL.of upd_same), rfl, flat_two _ _, _, rfl, iteF ⟨_, rfl, asis _ (same_upd hp2)⟩⟩⟩
        | @am a o m h =>
          refine ⟨_, rfl, a, _, 0, _, rfl, rfl, h, rfl, rfl, _, rfl, ite_dec (fun h => absurd (V.str.inj h) (by decide +kernel)) (fun _ => ?_)⟩
          refine ⟨_, rfl, a, _, 0, _, rfl, rfl, h, rfl, by show 2 ≤ sizeLine; decide, fun p2 hp2 => ⟨p2, two "and" "or", rfl, .inl (SqL.of upd_same), rfl, flat_two _ _, _, rfl, iteF ⟨_, rfl, asis _ (same_upd hp2)⟩⟩⟩
        | @nt a u c h h1 =>
          refine ⟨_, rfl, a, _, 0, _, rfl, rfl, h, rfl, rfl, _, rfl, ite_dec (fun _ => ?_) (fun h => absurd rfl h)⟩
          have hd' : c.dep + 1 < n + 1 := hd
          refine ⟨_, rfl, _, rfl, a, _, 1, _, rfl, rfl, h, rfl, _, rfl, L, p, u, c, xs, its, rfl, npL, d1, h1, hp1, hI1, hl, by omega, fun v2 H2 c2 e2 d2 hc2 hcd => ⟨by show 2 ≤ sizeLine; decide, fun t ht => ?_⟩⟩
          have e3 := same_upd ht (o := .tup [.str "not", v2])
          exact q _ _ (.nt c2) ((e1.trans e2).trans (Ex.of e3)) (d2.same e3) (.nt (SqT.of upd_same) (hc2.same e3)) (by show c2.dep + 1 ≤ c.dep + 1; omega)
        | @an a u u2 c d h h1 h2 =>
          refine ⟨_, rfl, a, _, 0, _, rfl, rfl, h, rfl, rfl, _, rfl, ite_dec (fun h => absurd (V.str.inj h) (by decide +kernel)) (fun _ => ?_)⟩
          refine ⟨_, rfl, a, _, 0, _, rfl, rfl, h, rfl, by show 2 ≤ sizeLine; decide, fun p2 hp2 => ⟨p2, two "and" "or", rfl, .inl (SqL.of upd_same), rfl, flat_two _ _, _, rfl, iteT ?_⟩⟩
          have g1 := same_upd (o := .lst [.str "and", .str "or"]) hp2
          have gp1 : upd H1 p2 (.lst [.str "and", .str "or"]) p2 = some (.lst [.str "and", .str "or"]) := upd_same
          generalize upd H1 p2 (.lst [.str "and", .str "or"]) = G1 at g1 gp1 ⊢
          have hd' : max c.dep d.dep + 1 < n + 1 := hd
          have hT1 := g1.tupq h
          refine ⟨_, rfl, a, _, 0, _, rfl, rfl, hT1, rfl, _, rfl, _, rfl, a, _, 1, _, rfl, rfl, hT1, rfl, _, rfl, L, p, u, c, xs, its, rfl, npL, d1.same g1, h1.same g1, g1 _ _ hp1, itsSame g1 hI1, hl, by omega, fun v2 H2 c2 e2 d2 hc2 hcd => ?_⟩
          have d1g := d1.same g1
          have hT2 : SqT K H2 a [.str "and", u, u2] := by
            obtain ⟨ns, dn⟩ := d1g
            exact sqT_stay' hT1 dn e2
          refine ⟨_, rfl, _, rfl, a, _, 2, _, rfl, rfl, hT2, rfl, _, rfl, L, p, u2, d, xs, its, rfl, npL, d2, (h2.same g1).dr d1g e2, e2.at (nin npL) (g1 _ _ hp1), its_dr (itsSame g1 hI1) d1g e2, hl, by omega, fun v3 H3 c3 e3 d3 hc3 hcd3 => ⟨by show 3 ≤ sizeLine; decide, fun t ht => ?_⟩⟩
          have e4 := same_upd ht (o := .tup [.str "and", v2, v3])
          exact q _ _ (.an c2 c3) ((((e1.trans (Ex.of g1)).trans e2).trans e3).trans (Ex.of e4)) (d3.same e4) (.an (SqT.of upd_same) ((hc2.dr d2 e3).same e4) (hc3.same e4)) (by show max c2.dep c3.dep + 1 ≤ max c.dep d.dep + 1; omega)
        | @orr a u u2 c d h h1 h2 =>
          refine ⟨_, rfl, a, _, 0, _, rfl, rfl, h, rfl, rfl, _, rfl, ite_dec (fun h => absurd (V.str.inj h) (by decide +kernel)) (fun _ => ?_)⟩
          refine ⟨_, rfl, a, _, 0, _, rfl, rfl, h, rfl, by show 2 ≤ sizeLine; decide, fun p2 hp2 => ⟨p2, two "and" "or", rfl, .inl (SqL.of upd_same), rfl, flat_two _ _, _, rfl, iteT ?_⟩⟩
          have g1 := same_upd (o := .lst [.str "and", .str "or"]) hp2
          have gp1 : upd H1 p2 (.lst [.str "and", .str "or"]) p2 = some (.lst [.str "and", .str "or"]) := upd_same
          generalize upd H1 p2 (.lst [.str "and", .str "or"]) = G1 at g1 gp1 ⊢
          have hd' : max c.dep d.dep + 1 < n + 1 := hd
          have hT1 := g1.tupq h
          refine ⟨_, rfl, a, _, 0, _, rfl, rfl, hT1, rfl, _, rfl, _, rfl, a, _, 1, _, rfl, rfl, hT1, rfl, _, rfl, L, p, u, c, xs, its, rfl, npL, d1.same g1, h1.same g1, g1 _ _ hp1, itsSame g1 hI1, hl, by omega, fun v2 H2 c2 e2 d2 hc2 hcd => ?_⟩
          have d1g := d1.same g1
          have hT2 : SqT K H2 a [.str "or", u, u2] := by
            obtain ⟨ns, dn⟩ := d1g
            exact sqT_stay' hT1 dn e2
          refine ⟨_, rfl, _, rfl, a, _, 2, _, rfl, rfl, hT2, rfl, _, rfl, L, p, u2, d, xs, its, rfl, npL, d2, (h2.same g1).dr d1g e2, e2.at (nin npL) (g1 _ _ hp1), its_dr (itsSame g1 hI1) d1g e2, hl, by omega, fun v3 H3 c3 e3 d3 hc3 hcd3 => ⟨by show 3 ≤ sizeLine; decide, fun t ht => ?_⟩⟩
          have e4 := same_upd ht (o := .tup [.str "or", v2, v3])
          exact q _ _ (.orr c2 c3) ((((e1.trans (Ex.of g1)).trans e2).trans e3).trans (Ex.of e4)) (d3.same e4) (.orr (SqT.of upd_same) ((hc2.dr d2 e3).same e4) (hc3.same e4)) (by show max c2.dep c3.dep + 1 ≤ max c.dep d.dep + 1; omega)
def sp_held_items (K : PySem.W.Frag) : Sp := fun vs H Q _ => ∃ (v : V) (c : Cond) (p : Addr) (xs : List V) (its : List Item), vs = [v, .ref p] ∧ Cd K H v c ∧ SqL K H p xs ∧ Its' K H xs its ∧ its.length ≤ 100 ∧ c.dep < 5 ∧
  ∀ D H' ys, Same H H' → H' D = some (.lst ys) → Its' K H' ys (its.filter fun it => c.holds it) → Q (.ref D) H'
theorem filter_take (c : Cond) {its : List Item} {i : Nat} {it : Item} (hit : its[i]? = some it) : (its.take (i + 1)).filter (fun it => c.holds it) = (its.take i).filter (fun it => c.holds it) ++ (if c.holds it = true then [it] else []) := by
  rw [List.take_add_one, hit, List.filter_append]
  congr 1
  show List.filter _ [it] = _
  by_cases hb : c.holds it = true
  · rw [if_pos hb, List.filter_cons_of_pos (p := fun it => c.holds it) hb, List.filter_nil]
  · rw [if_neg hb, List.filter_cons_of_neg (p := fun it => c.holds it) hb, List.filter_nil]
theorem itsTake {K : PySem.W.Frag} {H : Hp} {xs : List V} {its : List Item} (h : Its' K H xs its) : xs.length = its.length := Paired.length h
theorem ok_held_items (T : Txt K mg) : FnOk P w K mg base CX0 8 T.f_held_items T.fd_held_items ["condition", "rows"] (sp_held_items K) := by
  have ok_held : ∀ T : Txt K mg, FnOk P w K mg base CX0 7 T.f_held T.fd_held ["condition", "item"] (sp_held K 5) := fun T => okR_held T 5 (by decide)
  refine T.F_held_items.ok sc_held_items (fun vs H Q E h => ?_) (fun cdv A outer s H vs Q E hr h => ?_)
  · obtain ⟨v, c, p, xs, its, rfl, _⟩ := h
    rfl
  · obtain ⟨v, c, p, xs, its, rfl, hc, hS, hI, hl, hd, q⟩ := h
    refine ⟨_, (pss_one (ps_ret (pe_lc (own := [("row", 2)]) (g := gName 2) rfl sc_held_items.nd (pi_list (pv 1)) (blkOk_by (own := [("row", 2)]) (N := nm_held_items) (sc := defScope s_held_items) (by decide +kernel)) (fun _ _ _ _ _ => pg_name (i := 2) sc_held_items.nd rfl (Or.inl rfl)) (fun _ _ _ _ _ => (pts_one (pt_val (pe_call (ok_held T) (hr.mono (by omega)) (by rfl) T.g_held T.F_held.kp T.b_held .nil pass0 (pa_cons (pv 0) (pa_cons (pv 2) pa_nil)))))) (fun _ _ _ _ _ => (pv 2))))), ?_⟩
    have hxl := itsTake hI
    refine ⟨_, rfl, p, rfl, ⟨_, hS⟩, fun D hD => ?_⟩
    refine lc_it walk_list (fun i H' => Same H H' ∧ ∃ ys, H' D = some (.lst ys) ∧ Its' K H' ys ((its.take i).filter fun it => c.holds it)) ⟨same_upd hD, [], upd_same, .nil⟩ (fun _ _ _ ⟨e, _⟩ => e.seq hS) ?_ ?_
    · rintro i x Ha Hb hi ⟨e, ys, hd2, hy⟩ ⟨rfl, hx⟩
      obtain ⟨it, hit, hIt⟩ := itsGet hI hx
      refine ⟨rfl, _, rfl, _, rfl, _, _, c, it, rfl, hc.same e, hIt.same e, hd, fun H2 e2 => ⟨_, rfl, ?_⟩⟩
      have e12 := e.trans e2
      have ht := filter_take c hit
      cases hb : c.holds it with
      | true =>
        rw [hb, if_pos rfl] at ht
        have em : Ex [D] H2 (upd H2 D (.lst (ys ++ [x]))) := ex_put
        refine iteT ⟨_, rfl, ys, e2 _ _ hd2, ?_, e12.mut hD, _, upd_same, ?_⟩
        · rw [itsTake hy]
          refine Nat.lt_of_le_of_lt (List.length_filter_le _ _) ?_
          rw [List.length_take]
          exact small1000 (by omega)
        · rw [ht]
          exact itsSnoc ((hIt.same e12).stay (e2 _ _ hd2) em) (itsStay (itsSame e2 hy) (e2 _ _ hd2) em)
      | false =>
        rw [hb, if_neg Bool.false_ne_true, List.append_nil] at ht
        refine iteF ⟨e12, ys, e2 _ _ hd2, ?_⟩
        rw [ht]
        exact itsSame e2 hy
    · rintro Ha ⟨e, ys, hd2, hy⟩
      rw [hxl, List.take_length] at hy
      exact q D Ha ys e hd2 hy
/-! ### the law -/
theorem dp_bls {K : PySem.W.Frag} {H : Hp} : ∀ bs : List Bool, DpAll K H (bs.map V.bl) (bs.map PyData.bool)
  | [] => .nil
  | _ :: r => .cons (.bl _) (dp_bls r)
theorem lay_bls : ∀ bs : List Bool, PyData.canLayAll0 (bs.map PyData.bool) = true ∧ PyData.depthAll (bs.map PyData.bool) = 0 ∧ smallAllD (bs.map PyData.bool) = true
  | [] => ⟨rfl, rfl, rfl⟩
  | b :: r => by
    obtain ⟨h1, h2, h3⟩ := lay_bls r
    refine ⟨?_, ?_, ?_⟩
    · show (true && PyData.canLayAll0 (r.map PyData.bool)) = true
      rw [h1]
      rfl
    · show max 0 (PyData.depthAll (r.map PyData.bool)) = 0
      rw [h2]
      rfl
    · show (true && smallAllD (r.map PyData.bool)) = true
      rw [h3]
      rfl
theorem itsSmall : ∀ its : List Item, smallAllD (its.map Item.d) = true
  | [] => rfl
  | it :: r => by
    show (true && smallAllD (r.map Item.d)) = true
    rw [itsSmall r]
    rfl
def sp_law (K : PySem.W.Frag) : Sp := fun vs H Q _ => ∃ (a : Addr) (ns : List Int), vs = [.ref a] ∧ SqL K H a (ns.map V.int) ∧ ns.length ≤ 63 ∧ ∀ H', Q (.bl true) H'
theorem ok_law (T : Txt K mg) : FnOk P w K mg base CX0 10 T.f_law T.fd_law ["_law_script"] (sp_law K) := by
  have ok__law_same : ∀ T : Txt K mg, FnOk P w K mg base CX0 5 T.f__law_same T.fd__law_same ["_law_actual", "_law_due"] (sp__law_same K 4) := fun T => okR__law_same T 4 (by decide)
  have ok_held : ∀ T : Txt K mg, FnOk P w K mg base CX0 7 T.f_held T.fd_held ["condition", "item"] (sp_held K 5) := fun T => okR_held T 5 (by decide)
  have ok__law_held : ∀ T : Txt K mg, FnOk P w K mg base CX0 7 T.f__law_held T.fd__law_held ["_law_condition_here", "_law_item"] (sp__law_held K 5) := fun T => okR__law_held T 5 (by decide)
  have ok__law_condition : ∀ T : Txt K mg, FnOk P w K mg base CX0 8 T.f__law_condition T.fd__law_condition ["_law_draws_here", "_law_depth"] (sp__law_condition K 5) := fun T => okR__law_condition T 5 (by decide)
  have ok__law_near : ∀ T : Txt K mg, FnOk P w K mg base CX0 7 T.f__law_near T.fd__law_near ["_law_draws_here", "_law_condition_here", "_law_items_here"] (sp__law_near K 5) := fun T => okR__law_near T 5 (by decide)
  refine T.F_law.ok sc_law (fun vs H Q E h => ?_) (fun cdv A outer s H vs Q E hr h => ?_)
  · obtain ⟨a, ns, rfl, _⟩ := h
    rfl
  · obtain ⟨a, ns, rfl, hS, hlen, q⟩ := h
    refine ⟨_, (pss_cons (ps_set (i := 1) sc_law.nd rfl (Or.inl rfl) (pe_call (ok__law_draws T) (hr.mono (by omega)) (by rfl) T.g__law_draws T.F__law_draws.kp T.b__law_draws .nil pass0 (pa_cons (pv 0) pa_nil)))
      (pss_cons (ps_set (i := 2) sc_law.nd rfl (Or.inr rfl) (pe_call (ok__law_items T) (hr.mono (by omega)) (by rfl) T.g__law_items T.F__law_items.kp T.b__law_items .nil pass0 (pa_cons (pv 1) (pa_cons pe_int pa_nil))))
      (pss_cons (ps_for PassesOwn.never rfl (pi_range1 (by rfl) T.z_range (pa_cons pe_int pa_nil)) (pg_name (i := 3) sc_law.nd rfl (Or.inl rfl))
        (pss_cons (ps_set (i := 4) sc_law.nd rfl (Or.inr rfl) (pe_call (ok__law_near T) (hr.mono (by omega)) (by rfl) T.g__law_near T.F__law_near.kp T.b__law_near .nil pass0 (pa_cons (pv 1) (pa_cons (pe_call (ok__law_condition T) (hr.mono (by omega)) (by rfl) T.g__law_condition T.F__law_condition.kp T.b__law_condition .nil pass0 (pa_cons (pv 1) (pa_cons pe_int pa_nil))) (pa_cons (pv 2) pa_nil)))))
        (pss_cons (ps_set (i := 5) sc_law.nd rfl (Or.inl rfl) (pe_callTy (T := "list") call_list_of (by rfl) T.z_list (by decide +kernel) (pa_cons (pv 2) pa_nil)))
        (pss_cons (ps_set (i := 6) sc_law.nd rfl (Or.inr rfl) (pe_lc (own := [("_law_item", 7)]) (g := gName 7) rfl sc_law.nd (pi_list (pv 2)) (blkOk_by (own := [("_law_item", 7)]) (N := nm_law) (sc := defScope s_law) (by decide +kernel)) (fun _ _ _ _ _ => pg_name (i := 7) sc_law.nd rfl (Or.inl rfl)) (fun _ _ _ _ _ => pts_nil) (fun _ _ _ _ _ => (pe_call (ok__law_held T) (hr.mono (by omega)) (by rfl) T.g__law_held T.F__law_held.kp T.b__law_held .nil pass0 (pa_cons (pv 4) (pa_cons (pv 7) pa_nil))))))
        (pss_cons (ps_if (pt_not (pt_val (pe_call (ok__law_same T) (hr.mono (by omega)) (by rfl) T.g__law_same T.F__law_same.kp T.b__law_same .nil pass0 (pa_cons (pe_lc (own := [("_law_item", 7)]) (g := gName 7) rfl sc_law.nd (pi_list (pv 2)) (blkOk_by (own := [("_law_item", 7)]) (N := nm_law) (sc := defScope s_law) (by decide +kernel)) (fun _ _ _ _ _ => pg_name (i := 7) sc_law.nd rfl (Or.inl rfl)) (fun _ _ _ _ _ => pts_nil) (fun _ _ _ _ _ => (pe_call (ok_held T) (hr.mono (by omega)) (by rfl) T.g_held T.F_held.kp T.b_held .nil pass0 (pa_cons (pv 4) (pa_cons (pv 7) pa_nil))))) (pa_cons (pv 6) pa_nil)))))
          (pss_one (ps_ret pe_bl))
          pss_nil)
        (pss_one (ps_if (PW.pt (pw_or (pt_not (pt_val (pe_call (ok__law_same T) (hr.mono (by omega)) (by rfl) T.g__law_same T.F__law_same.kp T.b__law_same .nil pass0 (pa_cons (pe_call (ok_held_items T) (hr.mono (by omega)) (by rfl) T.g_held_items T.F_held_items.kp T.b_held_items .nil pass0 (pa_cons (pv 4) (pa_cons (pv 2) pa_nil))) (pa_cons (pe_lc (own := [("_law_k", 8)]) (g := gName 8) rfl sc_law.nd (pi_range1 (by rfl) T.z_range (pa_cons (pe_callB (id := "len") call_len_seq (by rfl) T.z_len (by decide +kernel) (pa_cons (pv 2) pa_nil)) pa_nil)) (blkOk_by (own := [("_law_k", 8)]) (N := nm_law) (sc := defScope s_law) (by decide +kernel)) (fun _ _ _ _ _ => pg_name (i := 8) sc_law.nd rfl (Or.inl rfl)) (fun _ _ _ _ _ => (pts_one (pt_val (pe_ix (ixLk (K := K) rfl) (pv 6) (pv 8) (fun _ _ => rfl))))) (fun _ _ _ _ _ => (pe_ix (ixLk (K := K) rfl) (pv 2) (pv 8) (fun _ _ => rfl)))) pa_nil))))) (pw_or1 (pt_cmpR (op_neD hr.units) (pv 2) (pv 5) (nomark _)))))
          (pss_one (ps_ret pe_bl))
          pss_nil)))))))
      (pss_one (ps_ret pe_bl))))), ?_⟩
    refine ⟨_, rfl, a, ns, rfl, hS, hlen, fun L H1 hL e1 d1 => ?_⟩
    refine ⟨_, rfl, L, 8, rfl, by decide, by decide, d1, fun p H2 xs its hp e2 d2 hp2 hI2 hl2 => ?_⟩
    have npL : p ≠ L := d1.ne hp
    have hok := itsOk hI2
    have hxl := itsTake hI2
    have hl8 : its.length ≤ 8 := by omega
    refine ⟨_, rfl, by decide, by decide, for_it walk_range (fun i σ H' => ∃ (x3 x4 x5 x6 x7 x8 : Option V), σ = [some (.ref a), some (.ref L), some (.ref p), x3, x4, x5, x6, x7, x8] ∧ Dr H' L ∧ H' p = some (.lst xs) ∧ Its' K H' xs its)
      ⟨_, _, _, _, _, _, rfl, d2, hp2, hI2⟩ (fun _ _ _ _ _ => trivial) ?_ ?_⟩
    · rintro i v σ Ha Hb hi ⟨x3, x4, x5, x6, x7, x8, rfl, da, hpa, hIa⟩ ⟨rfl, rfl⟩
      refine ⟨_, rfl, _, rfl, L, 4, rfl, by decide, da, fun v1 H3 c1 e3 d3 hc1 hcd1 => ?_⟩
      refine ⟨_, rfl, L, p, v1, c1, xs, its, rfl, npL, d3, hc1, e3.at (nin npL) hpa, its_dr hIa da e3, by omega, by omega, fun v2 H4 c e4 d4 hc hcd => ?_⟩
      have hp4 := e4.at (nin npL) (e3.at (nin npL) hpa)
      have hI4 := its_dr (its_dr hIa da e3) d3 e4
      have hdep : c.dep < 5 := by omega
      -- kept
      refine ⟨_, rfl, p, xs, rfl, .inl (SqL.of hp4), fun g hg => ?_⟩
      have e5 := same_upd (o := .lst xs) hg
      have hg5 : upd H4 g (.lst xs) g = some (.lst xs) := upd_same
      generalize upd H4 g (.lst xs) = H5 at e5 hg5 ⊢
      -- due
      refine ⟨_, rfl, p, rfl, ⟨_, SqL.of (e5 _ _ hp4)⟩, fun D hD => ?_⟩
      refine lc_it walk_list (fun j H' => Same H5 H' ∧ H' D = some (.lst (((its.take j).map fun it => c.holds it).map V.bl))) ⟨same_upd hD, upd_same⟩ (fun _ _ _ ⟨e, _⟩ => e.seq (SqL.of (e5 _ _ hp4))) ?_ ?_
      · rintro j x Hc Hd hj ⟨ec, hd⟩ ⟨rfl, hx⟩
        have e45 := e5.trans ec
        obtain ⟨it, hit, hIt⟩ := itsGet hI4 hx
        refine ⟨rfl, w_yes ⟨_, rfl, _, rfl, _, _, c, it, rfl, hc.same e45, hIt.same e45, hdep, fun He ee => ⟨_, ee _ _ hd, ?_, (ec.trans ee).mut hD, ?_⟩⟩⟩
        · rw [List.length_map, List.length_map, List.length_take]
          exact small1000 (by omega)
        · rw [upd_same, List.take_add_one, hit]
          simp
      · rintro Hc ⟨ec, hd⟩
        rw [hxl, List.take_length] at hd
        have e4c := e5.trans ec
        -- [held(..)]
        refine ⟨_, rfl, p, rfl, ⟨_, SqL.of (e4c _ _ hp4)⟩, fun D2 hD2 => ?_⟩
        refine lc_it walk_list (fun j H' => Same Hc H' ∧ H' D2 = some (.lst (((its.take j).map fun it => c.holds it).map V.bl))) ⟨same_upd hD2, upd_same⟩ (fun _ _ _ ⟨e, _⟩ => e.seq (SqL.of (e4c _ _ hp4))) ?_ ?_
        · rintro j x Hd He hj ⟨ed, hd2⟩ ⟨rfl, hx⟩
          have e46 := e4c.trans ed
          obtain ⟨it, hit, hIt⟩ := itsGet hI4 hx
          refine ⟨rfl, w_yes ⟨_, rfl, _, rfl, _, _, c, it, rfl, hc.same e46, hIt.same e46, hdep, fun Hf ef => ⟨_, ef _ _ hd2, ?_, (ed.trans ef).mut hD2, ?_⟩⟩⟩
          · rw [List.length_map, List.length_map, List.length_take]
            exact small1000 (by omega)
          · rw [upd_same, List.take_add_one, hit]
            simp
        · rintro Hd ⟨ed, hd2⟩
          rw [hxl, List.take_length] at hd2
          obtain ⟨b1, b2, b3⟩ := lay_bls (its.map fun it => c.holds it)
          have hdd := ed _ _ hd
          refine ⟨_, rfl, _, _, .list ((its.map fun it => c.holds it).map PyData.bool), rfl, .lst (SqL.of hd2) (dp_bls _), .lst (SqL.of hdd) (dp_bls _), b1, ?_, by decide, ?_, _, rfl, iteF ?_⟩
          · show PyData.depthAll _ + 1 < 4
            rw [b2]
            decide
          · show (decide (_ ≤ 1000) && smallAllD _) = true
            rw [b3, Bool.and_true, List.length_map, List.length_map]
            exact decide_eq_true (by omega)
          have e4d := e4c.trans ed
          -- held_items
          refine ⟨_, rfl, _, rfl, _, c, p, xs, its, rfl, hc.same e4d, SqL.of (e4d _ _ hp4), itsSame e4d hI4, by omega, hdep, fun D3 He ys ee hd3 hy3 => ?_⟩
          have e4e := e4d.trans ee
          refine ⟨_, rfl, p, xs, rfl, .inl (SqL.of (e4e _ _ hp4)), _, rfl, by omega, by omega, fun D4 hD4 => ?_⟩
          refine lc_it walk_range (fun j H' => Same He H' ∧ ∃ zs, H' D4 = some (.lst zs) ∧ Its' K H' zs ((its.take j).filter fun it => c.holds it)) ⟨same_upd hD4, [], upd_same, .nil⟩ (fun _ _ _ _ => trivial) ?_ ?_
          · rintro j x Hf Hg hj ⟨ef, zs, hz, hzI⟩ ⟨rfl, rfl⟩
            have e4f := e4e.trans ef
            have hj' : j < its.length := by omega
            obtain ⟨y, hy, hIt⟩ := itsAt hI4 hj'
            have hit : its[j]? = some its[j] := List.getElem?_eq_getElem hj'
            have hb : (((its.map fun it => c.holds it).map V.bl) : List V)[j]? = some (.bl (c.holds its[j])) := by
              rw [List.getElem?_map, List.getElem?_map, hit]
              rfl
            have ht := filter_take c hit
            refine ⟨rfl, _, rfl, _, rfl, D, _, _, .bl (c.holds its[j]), rfl, rfl, SqL.of (ef _ _ (ee _ _ hdd)), ?_, _, rfl, ?_⟩
            · exact atI_int (v := .bl (c.holds its[j])) (by omega) (by rw [show ((0 : Int) + (j : Nat)).toNat = j by omega]; exact hb)
            · cases hbb : c.holds its[j] with
              | true =>
                rw [hbb, if_pos rfl] at ht
                have em : Ex [D4] Hg (upd Hg D4 (.lst (zs ++ [y]))) := ex_put
                refine iteT ⟨_, rfl, _, rfl, p, xs, _, y, rfl, rfl, SqL.of (e4f _ _ hp4), atI_int (by omega) (by rw [show ((0 : Int) + (j : Nat)).toNat = j by omega]; exact hy), zs, hz, ?_, ef.mut hD4, _, upd_same, ?_⟩
                · rw [itsTake hzI]
                  refine Nat.lt_of_le_of_lt (List.length_filter_le _ _) ?_
                  rw [List.length_take]
                  exact small1000 (by omega)
                · rw [ht]
                  exact itsSnoc ((hIt.same e4f).stay hz em) (itsStay hzI hz em)
              | false =>
                rw [hbb, if_neg Bool.false_ne_true, List.append_nil] at ht
                refine iteF ⟨ef, zs, hz, ?_⟩
                rw [ht]
                exact hzI
          · rintro Hf ⟨ef, zs, hz, hzI⟩
            rw [show ((xs.length : Int)).toNat = its.length by omega, List.take_length] at hzI
            have okf : ∀ it ∈ its.filter (fun it => c.holds it), it.ok := fun it h => hok it (List.mem_filter.mp h).1
            have hfl : (its.filter fun it => c.holds it).length ≤ 8 := Nat.le_trans (List.length_filter_le _ _) hl8
            refine ⟨_, _, .list ((its.filter fun it => c.holds it).map Item.d), rfl, .lst (SqL.of (ef _ _ hd3)) (itsDp (itsSame ef hy3)), .lst (SqL.of hz) (itsDp hzI), itsLay okf, ?_, by decide, ?_, _, rfl, iteF ?_⟩
            · have := itsDepth (its.filter fun it => c.holds it)
              show PyData.depthAll _ + 1 < 4
              omega
            · show (decide (_ ≤ 1000) && smallAllD _) = true
              rw [itsSmall, Bool.and_true, List.length_map]
              exact decide_eq_true (by omega)
            have e4f := e4e.trans ef
            have e5f := (((ec.trans ed).trans ee).trans ef)
            refine ⟨_, rfl, _, rfl, .list (its.map Item.d), .list (its.map Item.d), .lst (SqL.of (e4f _ _ hp4)) (itsDp (itsSame e4f hI4)), .lst (SqL.of (e5f _ _ hg5)) (itsDp (itsSame e4f hI4)), itsShaped hok, itsShaped hok, _, rfl, ?_⟩
            rw [SeqAt.eqv_refl _ (SeqAt.canLay_of_shaped (itsShaped hok))]
            exact iteF ⟨_, _, _, _, _, _, rfl, d4.same e4f, e4f _ _ hp4, itsSame e4f hI4⟩
    · rintro σ Ha ⟨x3, x4, x5, x6, x7, x8, rfl, da, hpa, hIa⟩
      exact q _
end
theorem all_mk {l : PySem.W.OpenLaw} {w : World} {K : PySem.W.Frag} {h : Heap} {mg : Str → Option Value} {fa f_compares f_held f_held_items f__law_draws f__law_take f__law_same f__law_name f__law_items f__law_number f__law_condition f__law_held f__law_near f_law : Addr} (X : K.In h) (G : h.Ns mainGlobals mg) (hfa : mg "law" = some (.ref fa))
    {odcompares ancompares : Option Addr} {slcompares : Array (Option Value)} {occompares kVcompares dccompares pmcompares cdcompares ctcompares : Value}
    {odheld anheld : Option Addr} {slheld : Array (Option Value)} {ocheld kVheld dcheld pmheld cdheld ctheld : Value}
    {odheld_items anheld_items : Option Addr} {slheld_items : Array (Option Value)} {ocheld_items kVheld_items dcheld_items pmheld_items cdheld_items ctheld_items : Value}
    {od_law_draws an_law_draws : Option Addr} {sl_law_draws : Array (Option Value)} {oc_law_draws kV_law_draws dc_law_draws pm_law_draws cd_law_draws ct_law_draws : Value}
    {od_law_take an_law_take : Option Addr} {sl_law_take : Array (Option Value)} {oc_law_take kV_law_take dc_law_take pm_law_take cd_law_take ct_law_take : Value}
    {od_law_same an_law_same : Option Addr} {sl_law_same : Array (Option Value)} {oc_law_same kV_law_same dc_law_same pm_law_same cd_law_same ct_law_same : Value}
    {od_law_name an_law_name : Option Addr} {sl_law_name : Array (Option Value)} {oc_law_name kV_law_name dc_law_name pm_law_name cd_law_name ct_law_name : Value}
    {od_law_items an_law_items : Option Addr} {sl_law_items : Array (Option Value)} {oc_law_items kV_law_items dc_law_items pm_law_items cd_law_items ct_law_items : Value}
    {od_law_number an_law_number : Option Addr} {sl_law_number : Array (Option Value)} {oc_law_number kV_law_number dc_law_number pm_law_number cd_law_number ct_law_number : Value}
    {od_law_condition an_law_condition : Option Addr} {sl_law_condition : Array (Option Value)} {oc_law_condition kV_law_condition dc_law_condition pm_law_condition cd_law_condition ct_law_condition : Value}
    {od_law_held an_law_held : Option Addr} {sl_law_held : Array (Option Value)} {oc_law_held kV_law_held dc_law_held pm_law_held cd_law_held ct_law_held : Value}
    {od_law_near an_law_near : Option Addr} {sl_law_near : Array (Option Value)} {oc_law_near kV_law_near dc_law_near pm_law_near cd_law_near ct_law_near : Value}
    {odlaw anlaw : Option Addr} {sllaw : Array (Option Value)} {oclaw kVlaw dclaw pmlaw cdlaw ctlaw : Value}
    (acompares : PySem.W.nsIn K mainGlobals "compares" = some (some (.ref f_compares)))
    (lcompares : K.lookup f_compares = some ⟨occompares, odcompares, .func (PySem.W.fnOf "compares" "compares" (defArgs s_compares) (defBody s_compares) (defScope s_compares) .none kVcompares dccompares pmcompares ancompares cdcompares ctcompares), slcompares⟩)
    (ccompares : PySem.W.codeIn K cdcompares "compares" = true)
    (kcompares : PySem.W.keepIn K (.ref f_compares) = true)
    (aheld : PySem.W.nsIn K mainGlobals "held" = some (some (.ref f_held)))
    (lheld : K.lookup f_held = some ⟨ocheld, odheld, .func (PySem.W.fnOf "held" "held" (defArgs s_held) (defBody s_held) (defScope s_held) .none kVheld dcheld pmheld anheld cdheld ctheld), slheld⟩)
    (cheld : PySem.W.codeIn K cdheld "held" = true)
    (kheld : PySem.W.keepIn K (.ref f_held) = true)
    (aheld_items : PySem.W.nsIn K mainGlobals "held_items" = some (some (.ref f_held_items)))
    (lheld_items : K.lookup f_held_items = some ⟨ocheld_items, odheld_items, .func (PySem.W.fnOf "held_items" "held_items" (defArgs s_held_items) (defBody s_held_items) (defScope s_held_items) .none kVheld_items dcheld_items pmheld_items anheld_items cdheld_items ctheld_items), slheld_items⟩)
    (cheld_items : PySem.W.codeIn K cdheld_items "held_items" = true)
    (kheld_items : PySem.W.keepIn K (.ref f_held_items) = true)
    (a_law_draws : PySem.W.nsIn K mainGlobals "_law_draws" = some (some (.ref f__law_draws)))
    (l_law_draws : K.lookup f__law_draws = some ⟨oc_law_draws, od_law_draws, .func (PySem.W.fnOf "_law_draws" "_law_draws" (defArgs s__law_draws) (defBody s__law_draws) (defScope s__law_draws) .none kV_law_draws dc_law_draws pm_law_draws an_law_draws cd_law_draws ct_law_draws), sl_law_draws⟩)
    (c_law_draws : PySem.W.codeIn K cd_law_draws "_law_draws" = true)
    (k_law_draws : PySem.W.keepIn K (.ref f__law_draws) = true)
    (a_law_take : PySem.W.nsIn K mainGlobals "_law_take" = some (some (.ref f__law_take)))
    (l_law_take : K.lookup f__law_take = some ⟨oc_law_take, od_law_take, .func (PySem.W.fnOf "_law_take" "_law_take" (defArgs s__law_take) (defBody s__law_take) (defScope s__law_take) .none kV_law_take dc_law_take pm_law_take an_law_take cd_law_take ct_law_take), sl_law_take⟩)
    (c_law_take : PySem.W.codeIn K cd_law_take "_law_take" = true)
    (k_law_take : PySem.W.keepIn K (.ref f__law_take) = true)
    (a_law_same : PySem.W.nsIn K mainGlobals "_law_same" = some (some (.ref f__law_same)))
    (l_law_same : K.lookup f__law_same = some ⟨oc_law_same, od_law_same, .func (PySem.W.fnOf "_law_same" "_law_same" (defArgs s__law_same) (defBody s__law_same) (defScope s__law_same) .none kV_law_same dc_law_same pm_law_same an_law_same cd_law_same ct_law_same), sl_law_same⟩)
    (c_law_same : PySem.W.codeIn K cd_law_same "_law_same" = true)
    (k_law_same : PySem.W.keepIn K (.ref f__law_same) = true)
    (a_law_name : PySem.W.nsIn K mainGlobals "_law_name" = some (some (.ref f__law_name)))
    (l_law_name : K.lookup f__law_name = some ⟨oc_law_name, od_law_name, .func (PySem.W.fnOf "_law_name" "_law_name" (defArgs s__law_name) (defBody s__law_name) (defScope s__law_name) .none kV_law_name dc_law_name pm_law_name an_law_name cd_law_name ct_law_name), sl_law_name⟩)
    (c_law_name : PySem.W.codeIn K cd_law_name "_law_name" = true)
    (k_law_name : PySem.W.keepIn K (.ref f__law_name) = true)
    (a_law_items : PySem.W.nsIn K mainGlobals "_law_items" = some (some (.ref f__law_items)))
    (l_law_items : K.lookup f__law_items = some ⟨oc_law_items, od_law_items, .func (PySem.W.fnOf "_law_items" "_law_items" (defArgs s__law_items) (defBody s__law_items) (defScope s__law_items) .none kV_law_items dc_law_items pm_law_items an_law_items cd_law_items ct_law_items), sl_law_items⟩)
    (c_law_items : PySem.W.codeIn K cd_law_items "_law_items" = true)
    (k_law_items : PySem.W.keepIn K (.ref f__law_items) = true)
    (a_law_number : PySem.W.nsIn K mainGlobals "_law_number" = some (some (.ref f__law_number)))
    (l_law_number : K.lookup f__law_number = some ⟨oc_law_number, od_law_number, .func (PySem.W.fnOf "_law_number" "_law_number" (defArgs s__law_number) (defBody s__law_number) (defScope s__law_number) .none kV_law_number dc_law_number pm_law_number an_law_number cd_law_number ct_law_number), sl_law_number⟩)
    (c_law_number : PySem.W.codeIn K cd_law_number "_law_number" = true)
    (k_law_number : PySem.W.keepIn K (.ref f__law_number) = true)
    (a_law_condition : PySem.W.nsIn K mainGlobals "_law_condition" = some (some (.ref f__law_condition)))
    (l_law_condition : K.lookup f__law_condition = some ⟨oc_law_condition, od_law_condition, .func (PySem.W.fnOf "_law_condition" "_law_condition" (defArgs s__law_condition) (defBody s__law_condition) (defScope s__law_condition) .none kV_law_condition dc_law_condition pm_law_condition an_law_condition cd_law_condition ct_law_condition), sl_law_condition⟩)
    (c_law_condition : PySem.W.codeIn K cd_law_condition "_law_condition" = true)
    (k_law_condition : PySem.W.keepIn K (.ref f__law_condition) = true)
    (a_law_held : PySem.W.nsIn K mainGlobals "_law_held" = some (some (.ref f__law_held)))
    (l_law_held : K.lookup f__law_held = some ⟨oc_law_held, od_law_held, .func (PySem.W.fnOf "_law_held" "_law_held" (defArgs s__law_held) (defBody s__law_held) (defScope s__law_held) .none kV_law_held dc_law_held pm_law_held an_law_held cd_law_held ct_law_held), sl_law_held⟩)
    (c_law_held : PySem.W.codeIn K cd_law_held "_law_held" = true)
    (k_law_held : PySem.W.keepIn K (.ref f__law_held) = true)
    (a_law_near : PySem.W.nsIn K mainGlobals "_law_near" = some (some (.ref f__law_near)))
    (l_law_near : K.lookup f__law_near = some ⟨oc_law_near, od_law_near, .func (PySem.W.fnOf "_law_near" "_law_near" (defArgs s__law_near) (defBody s__law_near) (defScope s__law_near) .none kV_law_near dc_law_near pm_law_near an_law_near cd_law_near ct_law_near), sl_law_near⟩)
    (c_law_near : PySem.W.codeIn K cd_law_near "_law_near" = true)
    (k_law_near : PySem.W.keepIn K (.ref f__law_near) = true)
    (alaw : PySem.W.nsIn K mainGlobals "law" = some (some (.ref f_law)))
    (llaw : K.lookup f_law = some ⟨oclaw, odlaw, .func (PySem.W.fnOf "law" "law" (defArgs s_law) (defBody s_law) (defScope s_law) .none kVlaw dclaw pmlaw anlaw cdlaw ctlaw), sllaw⟩)
    (claw : PySem.W.codeIn K cdlaw "law" = true)
    (klaw : PySem.W.keepIn K (.ref f_law) = true)
    (zabs : PySem.W.nsIn K mainGlobals "abs" = some none)
    (zbool : PySem.W.nsIn K mainGlobals "bool" = some none)
    (zint : PySem.W.nsIn K mainGlobals "int" = some none)
    (zisinstance : PySem.W.nsIn K mainGlobals "isinstance" = some none)
    (zlen : PySem.W.nsIn K mainGlobals "len" = some none)
    (zlist : PySem.W.nsIn K mainGlobals "list" = some none)
    (zrange : PySem.W.nsIn K mainGlobals "range" = some none)
    (zreversed : PySem.W.nsIn K mainGlobals "reversed" = some none)
    (zstr : PySem.W.nsIn K mainGlobals "str" = some none)
    (ztuple : PySem.W.nsIn K mainGlobals "tuple" = some none)
    : ∃ fd : FuncData, (∀ (s : Shared) (v : Value), BindsTo s fd ⟨[v], []⟩ [("_law_script", v)]) ∧ ∀ base : Heap, K.In base → base.Ns mainGlobals mg → FnOk l.prog w K mg base CX0 10 fa fd ["_law_script"] (sp_law K) := by
  have e := hfa.symm.trans (PySem.W.mg_of X G alaw)
  cases e
  let T : Txt K mg := {
    g_compares := PySem.W.mg_of X G acompares
    f_compares := f_compares
    fd_compares := _
    F_compares := fun_mk (st := s_compares) lcompares ccompares kcompares
    b_compares := (fun_mk (st := s_compares) lcompares ccompares kcompares).binds (ps := ["number", "order", "other"]) fun _ _ _ _ _ _ us hl => match us, hl with | [_, _, _], _ => rfl
    g_held := PySem.W.mg_of X G aheld
    f_held := f_held
    fd_held := _
    F_held := fun_mk (st := s_held) lheld cheld kheld
    b_held := (fun_mk (st := s_held) lheld cheld kheld).binds (ps := ["condition", "item"]) fun _ _ _ _ _ _ us hl => match us, hl with | [_, _], _ => rfl
    g_held_items := PySem.W.mg_of X G aheld_items
    f_held_items := f_held_items
    fd_held_items := _
    F_held_items := fun_mk (st := s_held_items) lheld_items cheld_items kheld_items
    b_held_items := (fun_mk (st := s_held_items) lheld_items cheld_items kheld_items).binds (ps := ["condition", "rows"]) fun _ _ _ _ _ _ us hl => match us, hl with | [_, _], _ => rfl
    g__law_draws := PySem.W.mg_of X G a_law_draws
    f__law_draws := f__law_draws
    fd__law_draws := _
    F__law_draws := fun_mk (st := s__law_draws) l_law_draws c_law_draws k_law_draws
    b__law_draws := (fun_mk (st := s__law_draws) l_law_draws c_law_draws k_law_draws).binds (ps := ["_law_script"]) fun _ _ _ _ _ _ us hl => match us, hl with | [_], _ => rfl
    g__law_take := PySem.W.mg_of X G a_law_take
    f__law_take := f__law_take
    fd__law_take := _
    F__law_take := fun_mk (st := s__law_take) l_law_take c_law_take k_law_take
    b__law_take := (fun_mk (st := s__law_take) l_law_take c_law_take k_law_take).binds (ps := ["_law_draws_here", "_law_bound"]) fun _ _ _ _ _ _ us hl => match us, hl with | [_, _], _ => rfl
    g__law_same := PySem.W.mg_of X G a_law_same
    f__law_same := f__law_same
    fd__law_same := _
    F__law_same := fun_mk (st := s__law_same) l_law_same c_law_same k_law_same
    b__law_same := (fun_mk (st := s__law_same) l_law_same c_law_same k_law_same).binds (ps := ["_law_actual", "_law_due"]) fun _ _ _ _ _ _ us hl => match us, hl with | [_, _], _ => rfl
    g__law_name := PySem.W.mg_of X G a_law_name
    f__law_name := f__law_name
    fd__law_name := _
    F__law_name := fun_mk (st := s__law_name) l_law_name c_law_name k_law_name
    b__law_name := (fun_mk (st := s__law_name) l_law_name c_law_name k_law_name).binds (ps := ["_law_draws_here"]) fun _ _ _ _ _ _ us hl => match us, hl with | [_], _ => rfl
    g__law_items := PySem.W.mg_of X G a_law_items
    f__law_items := f__law_items
    fd__law_items := _
    F__law_items := fun_mk (st := s__law_items) l_law_items c_law_items k_law_items
    b__law_items := (fun_mk (st := s__law_items) l_law_items c_law_items k_law_items).binds (ps := ["_law_draws_here", "_law_most"]) fun _ _ _ _ _ _ us hl => match us, hl with | [_, _], _ => rfl
    g__law_number := PySem.W.mg_of X G a_law_number
    f__law_number := f__law_number
    fd__law_number := _
    F__law_number := fun_mk (st := s__law_number) l_law_number c_law_number k_law_number
    b__law_number := (fun_mk (st := s__law_number) l_law_number c_law_number k_law_number).binds (ps := ["_law_draws_here"]) fun _ _ _ _ _ _ us hl => match us, hl with | [_], _ => rfl
    g__law_condition := PySem.W.mg_of X G a_law_condition
    f__law_condition := f__law_condition
    fd__law_condition := _
    F__law_condition := fun_mk (st := s__law_condition) l_law_condition c_law_condition k_law_condition
    b__law_condition := (fun_mk (st := s__law_condition) l_law_condition c_law_condition k_law_condition).binds (ps := ["_law_draws_here", "_law_depth"]) fun _ _ _ _ _ _ us hl => match us, hl with | [_, _], _ => rfl
    g__law_held := PySem.W.mg_of X G a_law_held
    f__law_held := f__law_held
    fd__law_held := _
    F__law_held := fun_mk (st := s__law_held) l_law_held c_law_held k_law_held
    b__law_held := (fun_mk (st := s__law_held) l_law_held c_law_held k_law_held).binds (ps := ["_law_condition_here", "_law_item"]) fun _ _ _ _ _ _ us hl => match us, hl with | [_, _], _ => rfl
    g__law_near := PySem.W.mg_of X G a_law_near
    f__law_near := f__law_near
    fd__law_near := _
    F__law_near := fun_mk (st := s__law_near) l_law_near c_law_near k_law_near
    b__law_near := (fun_mk (st := s__law_near) l_law_near c_law_near k_law_near).binds (ps := ["_law_draws_here", "_law_condition_here", "_law_items_here"]) fun _ _ _ _ _ _ us hl => match us, hl with | [_, _, _], _ => rfl
    g_law := PySem.W.mg_of X G alaw
    f_law := fa
    fd_law := _
    F_law := fun_mk (st := s_law) llaw claw klaw
    b_law := (fun_mk (st := s_law) llaw claw klaw).binds (ps := ["_law_script"]) fun _ _ _ _ _ _ us hl => match us, hl with | [_], _ => rfl
    z_abs := PySem.W.mg_none_of X G zabs
    z_bool := PySem.W.mg_none_of X G zbool
    z_int := PySem.W.mg_none_of X G zint
    z_isinstance := PySem.W.mg_none_of X G zisinstance
    z_len := PySem.W.mg_none_of X G zlen
    z_list := PySem.W.mg_none_of X G zlist
    z_range := PySem.W.mg_none_of X G zrange
    z_reversed := PySem.W.mg_none_of X G zreversed
    z_str := PySem.W.mg_none_of X G zstr
    z_tuple := PySem.W.mg_none_of X G ztuple }
  exact ⟨T.fd_law, fun s v => .of_eq rfl, fun base _ _ => ok_law T⟩
end Sam
open PySem PySem.W PyProof.Rows
set_option maxHeartbeats 0 in
theorem PySem.Challenge.cw_samphire_k02_conditions_hold_holds : PySem.Challenge.rw_samphire_k02_conditions_hold.Holds := by
  w_on; o_law; k_head; (case hw => w_witness2)
  k_fill
  refine L2.walk_of (l := PySem.Challenge.rw_samphire_k02_conditions_hold) (n := 63) (k := 10) (x := "_law_script") (CX := fun _ => L2.CX0) (sp := fun w => Sam.sp_law _) rfl (by decide) rfl ⟨rfl, by decide, by decide⟩ (fun w h Y => PySem.W.kIn_of Y) ?F (fun _ _ a ns hl _ hS => ⟨a, ns, rfl, hS, hl, fun _ => rfl⟩) (fun _ _ _ _ _ h => h)
  case F =>
    intro w mg fa h KX G hmg
    refine' Sam.all_mk KX G hmg ?acompares ?lcompares ?ccompares ?kcompares ?aheld ?lheld ?cheld ?kheld ?aheld_items ?lheld_items ?cheld_items ?kheld_items ?a_law_draws ?l_law_draws ?c_law_draws ?k_law_draws ?a_law_take ?l_law_take ?c_law_take ?k_law_take ?a_law_same ?l_law_same ?c_law_same ?k_law_same ?a_law_name ?l_law_name ?c_law_name ?k_law_name ?a_law_items ?l_law_items ?c_law_items ?k_law_items ?a_law_number ?l_law_number ?c_law_number ?k_law_number ?a_law_condition ?l_law_condition ?c_law_condition ?k_law_condition ?a_law_held ?l_law_held ?c_law_held ?k_law_held ?a_law_near ?l_law_near ?c_law_near ?k_law_near ?alaw ?llaw ?claw ?klaw ?zabs ?zbool ?zint ?zisinstance ?zlen ?zlist ?zrange ?zreversed ?zstr ?ztuple
    (case acompares => k_is)
    (case lcompares => k_is)
    (case ccompares => k_is)
    (case kcompares => k_is)
    (case aheld => k_is)
    (case lheld => k_is)
    (case cheld => k_is)
    (case kheld => k_is)
    (case aheld_items => k_is)
    (case lheld_items => k_is)
    (case cheld_items => k_is)
    (case kheld_items => k_is)
    (case a_law_draws => k_is)
    (case l_law_draws => k_is)
    (case c_law_draws => k_is)
    (case k_law_draws => k_is)
    (case a_law_take => k_is)
    (case l_law_take => k_is)
    (case c_law_take => k_is)
    (case k_law_take => k_is)
    (case a_law_same => k_is)
    (case l_law_same => k_is)
    (case c_law_same => k_is)
    (case k_law_same => k_is)
    (case a_law_name => k_is)
    (case l_law_name => k_is)
    (case c_law_name => k_is)
    (case k_law_name => k_is)
    (case a_law_items => k_is)
    (case l_law_items => k_is)
    (case c_law_items => k_is)
    (case k_law_items => k_is)
    (case a_law_number => k_is)
    (case l_law_number => k_is)
    (case c_law_number => k_is)
    (case k_law_number => k_is)
    (case a_law_condition => k_is)
    (case l_law_condition => k_is)
    (case c_law_condition => k_is)
    (case k_law_condition => k_is)
    (case a_law_held => k_is)
    (case l_law_held => k_is)
    (case c_law_held => k_is)
    (case k_law_held => k_is)
    (case a_law_near => k_is)
    (case l_law_near => k_is)
    (case c_law_near => k_is)
    (case k_law_near => k_is)
    (case alaw => k_is)
    (case llaw => k_is)
    (case claw => k_is)
    (case klaw => k_is)
    (case zabs => k_is)
    (case zbool => k_is)
    (case zint => k_is)
    (case zisinstance => k_is)
    (case zlen => k_is)
    (case zlist => k_is)
    (case zrange => k_is)
    (case zreversed => k_is)
    (case zstr => k_is)
    (case ztuple => k_is)


