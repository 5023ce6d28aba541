import PyProof.Rows.All
import Wide.All
import OpenK.AllK
import Wide.FinOn
import HandS.ForMost
import HandS.Walk
import HandS.Wide
import HandS.IsInst
import HandS.Codes
import HandS.Rev
import HandS.Steps
import PySem.Challenge.RW_samphire_k00_items_checked
set_option Elab.async false
set_option linter.all false
set_option maxRecDepth 100000
namespace Sam
end Sam
namespace SamRev
open PySem PySem.Spec PyProof.Rows L2 RT
/-! ### list(reversed(xs)): the list's own machine over a reversed list's iterator -/
section
variable {prog : Program} {w : World} {A : Around} {E : Value → Shared → Prop} {s : Shared} {it l : Addr} {items : Array Value}
/-- an empty list at S is extended by it -/
theorem extend_rev {R : Result → Shared → Prop} (hh : A.handled = none) (hit : s.heap.IsRevIter it l ((items.size : Int) - 1)) (hl : s.heap.IsList l items) (hne : l ≠ it)
    (hn : items.size ≤ sizeLine) (S : Addr) (res : Value) (c₀ : Nat) (hS : s.heap.get? S = some { cls := .type "list", data := .seq #[] c₀ }) (hSi : S ≠ it) (hSl : S ≠ l)
    (hR : ∀ h' tk acc' c', (∀ b o, b ≠ S → b ≠ it → s.heap.get? b = some o → h'.get? b = some o) →
      h'.get? S = some { cls := .type "list", dict := none, data := .seq acc' c', slots := #[] } →
      ItemsOf (fun i v => items[items.size - 1 - i]? = some v) acc' items.size → R (.ok (.ret res)) { s with heap := h', toks := tk }) :
    wpAny (model prog w) A.in1 (Builtin.List.listExtendWith (.ref S) (.ref it) res)
      (fun fin s' => match fin with | .done f => R (.ok f) s' | .again c' => c'.quiet = true ∧ codeAny (model prog w) A c' R s')
      (fun e s' => R (.error e) s') s := by
  have W := (Walks.listRev (prog := prog) (w := w) (A := A.in1) hh it l hne items).toS
  have nS : S ∉ [it, l] := by
    simp only [List.mem_cons, List.not_mem_nil, or_false, not_or]
    exact ⟨hSi, hSl⟩
  have same : Builtin.List.listSameRef (.ref S) (.ref it) = false := by
    simp [Builtin.List.listSameRef, hSi]
  unfold Builtin.List.listExtendWith
  refine wpAny_bind (wpAny_typeOf hit.typeIs ?_)
  rw [if_neg (by rw [same]; decide)]
  refine wpAny_bind (wpAny_pyIter_revIter hit ?_)
  refine wpAny_bind (wpAny_holding ?_)
  unfold Builtin.List.listLengthHint
  refine wpAny_bind (wpAny_specialOf hit.typeIs nolen_lri ?_)
  show wpAny _ A.in1 (specialOf (.ref it) (Str.ofString "__length_hint__") >>= _) _ _ _
  refine wpAny_bind (wpAny_specialOf hit.typeIs hint_lri ?_)
  generalize hid : ("list_reverseiterator.__length_hint__" : String) = id0
  wp_delta
  have spl : splitId id0 = some ("list_reverseiterator", "__length_hint__") := by
    subst hid
    decide +kernel
  rw [spl]
  subst hid
  refine wpAny_bind (wpAny_isInstance (b := true) hit.typeIs (by rw [isSubtype_type]; kernel_rfl) ?_)
  refine wpAny_pure ?_
  rw [if_neg (by decide)]
  have e0 : ((items.size : Nat) : Int) - 1 - ((0 : Nat) : Int) = (items.size : Int) - 1 := by
    omega
  refine wpAny_pure ⟨plainId_quiet F.plain_extend_loop _, ?_⟩
  refine codeAny_extend_loopS W hn _ nS _ items.size 0 _ _ _ rfl (Nat.zero_le _)
    ⟨Nat.zero_le _, by rw [e0]; exact hit, hl⟩ hS (ItemsOf.nil _) fun s' acc' c' hm hS' hacc => ?_
  rw [Moved.eq_with hm]
  refine hR s'.heap s'.toks acc' c' (fun b o hb hb2 e => hm.heap b o (fun hmem => ?_) e) hS' hacc
  rcases List.mem_cons.mp hmem with e' | hmem
  · exact hb e'
  · exact hb2 (List.mem_singleton.mp hmem)
theorem init_rev {R : Result → Shared → Prop} (hh : A.handled = none) (hit : s.heap.IsRevIter it l ((items.size : Int) - 1)) (hl : s.heap.IsList l items) (hne : l ≠ it)
    (hn : items.size ≤ sizeLine) (S : Addr) (hS : s.heap.get? S = some { cls := .type "list", data := .seq #[] }) (hSi : S ≠ it) (hSl : S ≠ l)
    (hR : ∀ h' tk acc' c', (∀ b o, b ≠ S → b ≠ it → s.heap.get? b = some o → h'.get? b = some o) →
      h'.get? S = some { cls := .type "list", dict := none, data := .seq acc' c', slots := #[] } →
      ItemsOf (fun i v => items[items.size - 1 - i]? = some v) acc' items.size → R (.ok (.ret .none)) { s with heap := h', toks := tk }) :
    wpAny (model prog w) A.in1 (Builtin.«list.__init__» ⟨[.ref S, .ref it], []⟩)
      (fun fin s' => match fin with | .done f => R (.ok f) s' | .again c' => c'.quiet = true ∧ codeAny (model prog w) A c' R s')
      (fun e s' => R (.error e) s') s := by
  show wpAny _ _ (do
    let old ← Builtin.List.listItems (.ref S)
    Builtin.List.listUpdate (.ref S) (fun _ => #[])
    letGo old.toList.reverse
    Builtin.List.listExtendWith (.ref S) (.ref it) .none) _ _ s
  refine wpAny_bind ?_
  unfold Builtin.List.listItems
  refine wpAny_bind (wpAny_seqItems hS rfl (wpAny_pure ?_))
  show wpAny _ _ (updateSeq S (fun _ => #[]) >>= fun _ =>
    letGo (#[] : Array Value).toList.reverse >>= fun _ =>
    Builtin.List.listExtendWith (.ref S) (.ref it) .none) _ _ s
  refine wpAny_bind (wpAny_updateSeq hS rfl ?_)
  have hS2 := Heap.get?_update_self (Obj.mapSeq (fun _ => (#[] : Array Value))) hS rfl
  have oth : ∀ b o, b ≠ S → s.heap.get? b = some o →
      (s.heap.update S (Obj.mapSeq (fun _ => (#[] : Array Value)))).get? b = some o :=
    fun b o hb e => (Heap.get?_update_other _ _ (Ne.symm hb)).trans e
  refine wpAny_bind (wpAny_letGo ?_)
  have hl' := hl
  obtain ⟨ol, hol, hcl, nl, hdl⟩ := hl'
  refine extend_rev (s := { s with heap := s.heap.update S (Obj.mapSeq (fun _ => (#[] : Array Value))) }) hh
    (hit.at fun o e => oth it o (Ne.symm hSi) e) ⟨ol, oth l _ (Ne.symm hSl) hol, hcl, nl, hdl⟩ hne hn S .none _ hS2 hSi hSl
    fun h' tk acc' c' hk hS' hacc => ?_
  exact hR h' tk acc' c' (fun b o hb hb2 e => hk b o hb hb2 (oth b o hb e)) hS' hacc
theorem call_list_rev {Q : Value → Shared → Prop} (hh : A.handled = none) (hit : s.heap.IsRevIter it l ((items.size : Int) - 1)) (hl : s.heap.IsList l items) (hne : l ≠ it)
    (hn : items.size ≤ sizeLine)
    (hQ : ∀ h' tk acc' c', (∀ b o, b ≠ it → s.heap.get? b = some o → h'.get? b = some o) →
      h'.get? s.heap.objs.size = some { cls := .type "list", dict := none, data := .seq acc' c', slots := #[] } →
      ItemsOf (fun i v => items[items.size - 1 - i]? = some v) acc' items.size → Q (.ref s.heap.objs.size) { s with heap := h', toks := tk }) :
    wpAny (model prog w) A (call (.type "list") [.ref it]) Q E s := by
  refine callType_codes (Q₁ := fun obj s₁ => obj = .ref s.heap.objs.size ∧
      s₁ = { s with heap := s.heap.push { cls := .type "list", data := .seq #[] } })
    F.called_list (F.typeCall_list_1 _) F.entry_list_init (code_list_new _ ⟨rfl, rfl⟩) fun obj s₁ h₁ => ?_
  obtain ⟨rfl, rfl⟩ := h₁
  have hS : (s.heap.push { cls := .type "list", data := .seq #[] }).get? s.heap.objs.size =
      some { cls := .type "list", data := .seq #[] } := Heap.get?_push_size _ rfl
  obtain ⟨oi, hoi, _⟩ := id hit
  obtain ⟨ol, hol, _⟩ := id hl
  refine ⟨⟨_, hS, rfl⟩, F.args_list_init_2 _ _, ?_⟩
  refine init_rev (A := A.in1) (s := { s with heap := s.heap.push { cls := .type "list", data := .seq #[] } }) hh
    (hit.at fun o e => Heap.get?_push_of_some _ e) (hl.push _) hne hn _ hS
    (Nat.ne_of_gt (Heap.lt_size hoi)) (Nat.ne_of_gt (Heap.lt_size hol)) fun h' tk acc' c' hk hS' hacc => ?_
  exact ⟨rfl, hQ h' tk acc' c' (fun b o hb e =>
    hk b o (Nat.ne_of_lt (Heap.lt_size e)) hb (Heap.get?_push_of_some _ e)) hS' hacc⟩
end
/-- list(reversed(x)), x a list: a new list -/
def tLstRev (K : PySem.W.Frag) (te : TE) : TE := fun σ H Q => te σ H fun v H1 => ∃ (a : Addr) (xs : List V), v = .ref a ∧ SqL K H1 a xs ∧ ∀ q, H1 q = none → Q (.ref q) (upd H1 q (.lst xs.reverse))
section
variable {X : Cx}
theorem pe_listRev {e : Expr} {te : TE} {p p2 pos pos2 : Pos} (hc : X.calm = true) (hg : Gl X "list") (hm : X.mg "list" = none) (hg2 : Gl X "reversed") (hm2 : X.mg "reversed" = none) (he : PE X e te)
    (hs : starEach [e] X.env = (false, eval e X.env) :: starEach [] X.env := by rfl)
    (hs2 : starEach [.Call (.Name "reversed" p2) [e] [] pos2] X.env =
      (false, eval (.Call (.Name "reversed" p2) [e] [] pos2) X.env) :: starEach [] X.env := by rfl) :
    PE X (.Call (.Name "list" p) [.Call (.Name "reversed" p2) [e] [] pos2] [] pos) (tLstRev X.K te) := by
  refine ⟨fun pins s σ H Q I h => ?_⟩
  refine Call_ (ld_blt I hg hm boot_list (PyProof.Rows.callWith_type1 (args_cons (Call_ (ld_blt I hg2 hm2
    PyProof.Rows.boot_reversed (PyProof.Rows.callWith_type1 (args_cons (thn (he.run pins s σ H _ I h)
      fun u s1 ⟨v, H1, I1, r1, q1⟩ => args_nil ?_) hs) hs rfl))) hs2) hs2 rfl))
  obtain ⟨a, xs, rfl, hq, q⟩ := q1
  obtain rfl : u = Value.ref a := r1
  obtain ⟨its, rv, p', hz⟩ := I1.list hq
  refine call_reversed_list p'.isList (args_nil ?_)
  have k0 : ∀ b o, s1.heap.get? b = some o →
      (s1.heap.push (revObj a ((its.toArray.size : Int) - 1))).get? b = some o := fun b o e => Heap.get?_push_of_some _ e
  have I2 : Inv X pins σ H1 { s1 with heap := s1.heap.push (revObj a ((its.toArray.size : Int) - 1)) } :=
    I1.kept (t' := s1.toks) k0
  have hit : (s1.heap.push (revObj a ((its.toArray.size : Int) - 1))).IsRevIter s1.heap.objs.size a ((its.toArray.size : Int) - 1) :=
    ⟨_, Heap.get?_push_size _ rfl, rfl, rfl⟩
  obtain ⟨oa, hoa, _⟩ := id p'.isList
  have hne : a ≠ s1.heap.objs.size := Nat.ne_of_lt (Heap.lt_size hoa)
  have hz' : its.toArray.size ≤ sizeLine := by
    rw [List.size_toArray, ← rv.length]
    exact hz
  have fp : FpOk X pins H1 s1.heap.objs.size :=
    I1.fpOk (H' := H1) (b := s1.heap.objs.size) (Nat.le_refl _) (I1.hok.fresh (Nat.le_refl _))
  refine call_list_rev (s := { s1 with heap := s1.heap.push (revObj a ((its.toArray.size : Int) - 1)) })
    (I1.ok.hd hc) hit (p'.isList.push _) hne hz' fun h' tk acc c' hk hS hi => ?_
  have hT : s1.heap.objs.size ≤ (s1.heap.push (revObj a ((its.toArray.size : Int) - 1))).objs.size := by
    rw [Heap.size_push]
    exact Nat.le_succ _
  have new : ObjOk X.prog X.w (upd H1 (s1.heap.push (revObj a ((its.toArray.size : Int) - 1))).objs.size (.lst xs.reverse)) h'
      (s1.heap.push (revObj a ((its.toArray.size : Int) - 1))).objs.size (.lst xs.reverse) :=
    ⟨by rw [List.length_reverse]; exact hz, acc.toList, c', vals_rev rv hi, by rw [Array.toArray_toList]; exact hS⟩
  have I3 := I2.turnedNew (t' := tk) (ch := [s1.heap.objs.size]) (T := (s1.heap.push (revObj a ((its.toArray.size : Int) - 1))).objs.size)
    (ob := .lst xs.reverse) (h' := h') (fun b o hb e => hk b o (fun z => hb (List.mem_singleton.mpr z)) e)
    (fun b hb => by rw [List.mem_singleton.mp hb]; exact fp) (Nat.le_refl _) new
  exact ⟨.ref _, _, I3, rfl, q _ (I2.hok.fresh (Nat.le_refl _))⟩
end
end SamRev
namespace Sam
open SamRev

open PySem PySem.Spec PyProof.Rows L2
open C8 (pss_cut tCut)
def topS (i : Nat) : Stmt := PySem.Challenge.pw_samphire_k00_items_checked.main.body.getD i (.Pass ⟨0, 0, 0, 0⟩)
abbrev s_is_name : Stmt := (topS 5)
abbrev nm_is_name : List Str := ["text", "sign"]
theorem sc_is_name : FnScope ["text", "sign"] ["text"] (defScope s_is_name) := ⟨rfl, rfl, rfl, by decide +kernel, rfl, by decide +kernel, by decide +kernel⟩
abbrev s_fault_of : Stmt := (topS 6)
abbrev nm_fault_of : List Str := ["row", "key", "group", "weight", "amount"]
theorem sc_fault_of : FnScope ["row", "key", "group", "weight", "amount"] ["row"] (defScope s_fault_of) := ⟨rfl, rfl, rfl, by decide +kernel, rfl, by decide +kernel, by decide +kernel⟩
abbrev s_is_item : Stmt := (topS 7)
abbrev nm_is_item : List Str := ["row"]
theorem sc_is_item : FnScope ["row"] ["row"] (defScope s_is_item) := ⟨rfl, rfl, rfl, by decide +kernel, rfl, by decide +kernel, by decide +kernel⟩
abbrev s_check_items : Stmt := (topS 8)
abbrev nm_check_items : List Str := ["rows", "known", "place", "row", "reason"]
theorem sc_check_items : FnScope ["rows", "known", "place", "row", "reason"] ["rows"] (defScope s_check_items) := ⟨rfl, rfl, rfl, by decide +kernel, rfl, by decide +kernel, by decide +kernel⟩
abbrev s__law_draws : Stmt := (topS 10)
abbrev nm__law_draws : List Str := ["_law_script", "_law_draws_here", "_law_cell", "_law_number", "_law_first", "_law_k", "_law_seed"]
theorem sc__law_draws : FnScope ["_law_script", "_law_draws_here", "_law_cell", "_law_number", "_law_first", "_law_k", "_law_seed"] ["_law_script"] (defScope s__law_draws) := ⟨rfl, rfl, rfl, by decide +kernel, rfl, by decide +kernel, by decide +kernel⟩
abbrev s__law_take : Stmt := (topS 11)
abbrev nm__law_take : List Str := ["_law_draws_here", "_law_bound"]
theorem sc__law_take : FnScope ["_law_draws_here", "_law_bound"] ["_law_draws_here", "_law_bound"] (defScope s__law_take) := ⟨rfl, rfl, rfl, by decide +kernel, rfl, by decide +kernel, by decide +kernel⟩
abbrev s__law_same : Stmt := (topS 12)
abbrev nm__law_same : List Str := ["_law_actual", "_law_due", "_law_k"]
theorem sc__law_same : FnScope ["_law_actual", "_law_due", "_law_k"] ["_law_actual", "_law_due"] (defScope s__law_same) := ⟨rfl, rfl, rfl, by decide +kernel, rfl, by decide +kernel, by decide +kernel⟩
abbrev s__law_name : Stmt := (topS 13)
abbrev nm__law_name : List Str := ["_law_draws_here"]
theorem sc__law_name : FnScope ["_law_draws_here"] ["_law_draws_here"] (defScope s__law_name) := ⟨rfl, rfl, rfl, by decide +kernel, rfl, by decide +kernel, by decide +kernel⟩
abbrev s__law_items : Stmt := (topS 14)
abbrev nm__law_items : List Str := ["_law_draws_here", "_law_most", "_law_found", "_law_keys", "_law_k", "_law_key", "_law_weight", "_law_amount"]
theorem sc__law_items : FnScope ["_law_draws_here", "_law_most", "_law_found", "_law_keys", "_law_k", "_law_key", "_law_weight", "_law_amount"] ["_law_draws_here", "_law_most"] (defScope s__law_items) := ⟨rfl, rfl, rfl, by decide +kernel, rfl, by decide +kernel, by decide +kernel⟩
abbrev s__law_spoilt : Stmt := (topS 15)
abbrev nm__law_spoilt : List Str := ["_law_draws_here", "_law_rows", "_law_found", "_law_at", "_law_key", "_law_group", "_law_weight", "_law_amount", "_law_kind"]
theorem sc__law_spoilt : FnScope ["_law_draws_here", "_law_rows", "_law_found", "_law_at", "_law_key", "_law_group", "_law_weight", "_law_amount", "_law_kind"] ["_law_draws_here", "_law_rows"] (defScope s__law_spoilt) := ⟨rfl, rfl, rfl, by decide +kernel, rfl, by decide +kernel, by decide +kernel⟩
abbrev s__law_fine : Stmt := (topS 16)
abbrev nm__law_fine : List Str := ["_law_text", "_law_sign"]
theorem sc__law_fine : FnScope ["_law_text", "_law_sign"] ["_law_text"] (defScope s__law_fine) := ⟨rfl, rfl, rfl, by decide +kernel, rfl, by decide +kernel, by decide +kernel⟩
abbrev s__law_reason : Stmt := (topS 17)
abbrev nm__law_reason : List Str := ["_law_row"]
theorem sc__law_reason : FnScope ["_law_row"] ["_law_row"] (defScope s__law_reason) := ⟨rfl, rfl, rfl, by decide +kernel, rfl, by decide +kernel, by decide +kernel⟩
abbrev s__law_fault : Stmt := (topS 18)
abbrev nm__law_fault : List Str := ["_law_rows", "_law_k", "_law_reason_here", "_law_row"]
theorem sc__law_fault : FnScope ["_law_rows", "_law_k", "_law_reason_here", "_law_row"] ["_law_rows"] (defScope s__law_fault) := ⟨rfl, rfl, rfl, by decide +kernel, rfl, by decide +kernel, by decide +kernel⟩
abbrev s_law : Stmt := (topS 19)
abbrev nm_law : List Str := ["_law_script", "_law_draws_here", "_law_rows", "_law_turn", "_law_kept", "_law_row", "_law_told"]
theorem sc_law : FnScope ["_law_script", "_law_draws_here", "_law_rows", "_law_turn", "_law_kept", "_law_row", "_law_told"] ["_law_script"] (defScope s_law) := ⟨rfl, rfl, rfl, by decide +kernel, rfl, by decide +kernel, by decide +kernel⟩
/-! ### own layer: what stays, new objects, steps -/
/-- all that was tracked outside F is as it was -/
def Ex (F : List Addr) (H H' : Hp) : Prop := ∀ b o, b ∉ F → H b = some o → H' b = some o
theorem Ex.refl {F : List Addr} (H : Hp) : Ex F H H := fun _ _ _ h => h
theorem Ex.trans {F : List Addr} {H H1 H2 : Hp} (a : Ex F H H1) (b : Ex F H1 H2) : Ex F H H2 := fun c o n h => b c o n (a c o n h)
theorem Ex.of {F : List Addr} {H H1 : Hp} (a : Same H H1) : Ex F H H1 := fun c o _ h => a c o h
theorem Ex.mono {F G : List Addr} {H H1 : Hp} (a : Ex F H H1) (h : ∀ b, b ∈ F → b ∈ G) : Ex G H H1 := fun c o n e => a c o (fun z => n (h c z)) e
theorem Ex.rd {F : List Addr} {H H' : Hp} {a : Addr} {u : HO} (e : Ex F H H') (n : a ∉ F) (h : Rd H a u) : Rd H' a u := by
  rcases h with h | ⟨o, h⟩
  · exact .inl (e _ _ n h)
  · exact .inr ⟨o, e _ _ n h⟩
theorem Ex.seq {K : PySem.W.Frag} {F : List Addr} {H H' : Hp} {a : Addr} {xs : List V} (e : Ex F H H') (n : a ∉ F) (h : SqL K H a xs) : SqL K H' a xs := by
  rcases h with h | h
  · exact .inl (e.rd n h)
  · exact .inr h
theorem Ex.tup {K : PySem.W.Frag} {F : List Addr} {H H' : Hp} {a : Addr} {xs : List V} (e : Ex F H H') (n : a ∉ F) (h : SqT K H a xs) : SqT K H' a xs := by
  rcases h with h | h
  · exact .inl (e.rd n h)
  · exact .inr h
theorem same_upd {H : Hp} {p : Addr} {o : HO} (h : H p = none) : Same H (upd H p o) := fun b x e => by
  rw [upd_ne (ne_of_none e h)]
  exact e
/-- an object that H does not know is changed -/
theorem _root_.L2.Same.mut {H H' : Hp} {p : Addr} {o : HO} (e : Same H H') (h : H p = none) : Same H (upd H' p o) := fun a u ha => by
  rw [upd_ne (ne_of_none ha h)]
  exact e a u ha
theorem Ex.mut {F : List Addr} {H H' : Hp} {p : Addr} {o : HO} (e : Ex F H H') (h : H p = none ∨ p ∈ F) : Ex F H (upd H' p o) := fun a u n ha => by
  have hne : a ≠ p := by
    rcases h with h | h
    · exact ne_of_none ha h
    · exact fun z => n (z ▸ h)
  rw [upd_ne hne]
  exact e a u n ha
theorem _root_.L2.Same.tupq {K : PySem.W.Frag} {H H' : Hp} {a : Addr} {xs : List V} (e : Same H H') (h : SqT K H a xs) : SqT K H' a xs := by
  rcases h with (h | ⟨o, h⟩) | h
  · exact .inl (.inl (e _ _ h))
  · exact .inl (.inr ⟨o, e _ _ h⟩)
  · exact .inr h
/-- a new object, met by what is known of the heap -/
theorem w_new {H : Hp} {o : HO} {Q : V → Hp → Prop} (h : ∀ p H', H p = none → Same H H' → H' p = some o → Q (.ref p) H') : ∀ p, H p = none → Q (.ref p) (upd H p o) := fun p hp => h p _ hp (same_upd hp) upd_same
section
variable {K : PySem.W.Frag} {H : Hp} {Q : VK}
theorem w_ixL {p : Addr} {xs : List V} {i : Int} {v : V} (h : SqL K H p xs) (e : atI xs i = some v) (q : Q v H) : rIxL K (.ref p) (.int i) H Q := ⟨p, xs, i, v, rfl, rfl, h, e, q⟩
theorem w_ixT {p : Addr} {xs : List V} {i : Int} {v : V} (h : SqT K H p xs) (e : atI xs i = some v) (q : Q v H) : rIxT K (.ref p) (.int i) H Q := ⟨p, xs, i, v, rfl, rfl, h, e, q⟩
end
theorem bl_inj {a b : Bool} (h : V.bl a = V.bl b) : a = b := V.bl.inj h
theorem ite_dec {c : Prop} [Decidable c] {A B : Prop} (h1 : c → A) (h2 : ¬ c → B) : if decide c = true then A else B := by
  by_cases h : c
  · rw [if_pos (decide_eq_true h)]; exact h1 h
  · rw [if_neg (by rw [decide_eq_false h]; exact Bool.false_ne_true)]; exact h2 h
theorem atI_int {xs : List V} {i : Int} {v : V} (h0 : 0 ≤ i) (h : xs[i.toNat]? = some v) : atI xs i = some v := by
  have e := atI_nat h
  rw [Int.toNat_of_nonneg h0] at e
  exact e
theorem map_get {ns : List Int} {i : Nat} {v : V} (h : (ns.map V.int)[i]? = some v) : ∃ z, v = .int z ∧ ns[i]? = some z := by
  rw [List.getElem?_map] at h
  cases e : ns[i]? with
  | none => rw [e] at h; cases h
  | some z => rw [e] at h; exact ⟨z, (Option.some.inj h).symm, rfl⟩
theorem get_map {ns : List Int} {i : Nat} {z : Int} (h : ns[i]? = some z) : (ns.map V.int)[i]? = some (.int z) := by
  rw [List.getElem?_map, h]
  rfl
theorem nin {p L : Addr} (h : p ≠ L) : p ∉ [L] := fun z => h (List.mem_singleton.mp z)
/-- a change at x alone, which H did not know -/
theorem Ex.new1 {F : List Addr} {H H1 H2 : Hp} {x : Addr} (a : Ex F H H1) (b : Ex [x] H1 H2) (h : H x = none) : Ex F H H2 := fun c o n e => b c o (nin (ne_of_none e h)) (a c o n e)
theorem Ex.free {F : List Addr} {H H' : Hp} {l : Addr} (e : Ex F H H') (n : l ∉ F) (h : H' l = none) : H l = none := by
  cases q : H l with
  | none => rfl
  | some o =>
    rw [e l o n q] at h
    cases h
theorem Ex.at {F : List Addr} {H H' : Hp} {l : Addr} {o : HO} (e : Ex F H H') (n : l ∉ F) (h : H l = some o) : H' l = some o := e l o n h
theorem ixN_int {n : Nat} {k : Int} (h0 : 0 ≤ k) (h1 : k < n) : ixN n k = some k.toNat := by
  unfold ixN
  rw [if_pos h0, if_pos h1]
theorem sum_set : ∀ (l : List Int) (j : Nat) (x v : Int), l[j]? = some x → (l.set j v).sum = l.sum - x + v
  | [], _, _, _, h => by simp at h
  | y :: l, 0, x, v, h => by
    have e : y = x := by simpa using h
    subst e
    simp
    omega
  | y :: l, j + 1, x, v, h => by
    have ih := sum_set l j x v (by simpa using h)
    simp only [List.set_cons_succ, List.sum_cons, ih]
    omega
theorem mem_le_sum : ∀ (l : List Int), (∀ x ∈ l, 0 ≤ x) → ∀ x ∈ l, x ≤ l.sum
  | [], _, x, hx => by simp at hx
  | y :: l, h, x, hx => by
    have h0 : 0 ≤ y := h y List.mem_cons_self
    have hl : ∀ x ∈ l, 0 ≤ x := fun z hz => h z (List.mem_cons_of_mem _ hz)
    have hs : 0 ≤ l.sum := sum_nn l hl
    rcases List.mem_cons.mp hx with e | e
    · subst e; rw [List.sum_cons]; omega
    · have := mem_le_sum l hl x e
      rw [List.sum_cons]; omega
where
  sum_nn : ∀ (l : List Int), (∀ x ∈ l, 0 ≤ x) → 0 ≤ l.sum
    | [], _ => by simp
    | y :: l, h => by
      have h0 : 0 ≤ y := h y List.mem_cons_self
      have := sum_nn l (fun z hz => h z (List.mem_cons_of_mem _ hz))
      rw [List.sum_cons]; omega
theorem sum_le_of : ∀ (l : List Int) (b : Int), (∀ x ∈ l, x ≤ b) → l.sum ≤ b * l.length
  | [], _, _ => by simp
  | y :: l, b, h => by
    have h0 : y ≤ b := h y List.mem_cons_self
    have := sum_le_of l b (fun z hz => h z (List.mem_cons_of_mem _ hz))
    rw [List.sum_cons, List.length_cons]
    have e : b * ((l.length + 1 : Nat) : Int) = b * l.length + b := by
      rw [Int.natCast_add, Int.mul_add]; simp
    omega
theorem w_yes {σ : L2.St} {H : Hp} {A B : Hp → Prop} (h : A H) : tYes σ H (fun b H3 => if b = true then A H3 else B H3) := by
  show (if true = true then A H else B H)
  rw [if_pos rfl]
  exact h
theorem lk_eq {f : Str} {v : V} {fs : List (Str × V)} : ((f, v) :: fs).lookup f = some v := by simp [List.lookup]
theorem lk_ne {f g : Str} {v : V} {fs : List (Str × V)} (h : (f == g) = false) : ((g, v) :: fs).lookup f = fs.lookup f := by simp [List.lookup, h]
theorem putF_eq {f : Str} {u v : V} {fs : List (Str × V)} : putF f v ((f, u) :: fs) = (f, v) :: fs := by simp [putF]
theorem putF_ne {f g : Str} {u v : V} {fs : List (Str × V)} (h : ¬ g = f) : putF f v ((g, u) :: fs) = (g, u) :: putF f v fs := by simp [putF, h]
theorem putF_nil {f : Str} {v : V} : putF f v [] = [(f, v)] := rfl
/-- a list stays where a thing of another kind at x changes -/
theorem _root_.L2.SqL.stay {K : PySem.W.Frag} {H H' : Hp} {a x : Addr} {xs : List V} {o : HO} (h : SqL K H a xs) (hx : H x = some o) (ho : ∀ ys, o ≠ .lst ys) (ho2 : ∀ b u, o ≠ .frz b u) (e : Ex [x] H H') : SqL K H' a xs := by
  rcases h with (h | ⟨u, h⟩) | h
  · exact .inl (.inl (e _ _ (nin fun z => ho _ (Option.some.inj ((z ▸ hx).symm.trans h))) h))
  · exact .inl (.inr ⟨u, e _ _ (nin fun z => ho2 _ _ (Option.some.inj ((z ▸ hx).symm.trans h))) h⟩)
  · exact .inr h
theorem sqT_of_k {K : PySem.W.Frag} {H : Hp} {a : Addr} {dd : Option Addr} {its : Array Value} {n : Nat} {sl : Array (Option Value)} {xs : List V}
    (l : K.lookup a = some ⟨.type "tuple", dd, .seq its n, sl⟩) (h : Vals xs its.toList) (hz : its.size ≤ 1000 := by simp) : SqT K H a xs :=
  .inr ⟨_, its, n, l, rfl, rfl, Nat.le_trans hz (by decide), h⟩
/-! rules whose reading names K, for use within a comprehension's block -/
section
variable {X : Cx} {K : PySem.W.Frag}
theorem ixLk (h : X.K = K) : IxR X (rIxL K) := by subst h; exact ix_list
theorem ixTk (h : X.K = K) : IxR X (rIxT K) := by subst h; exact ix_tup
theorem eqDk (h : X.K = K) (hu : X.A.units + 64 < cLine) : OpR X (compareOp .Eq) (rEqD K) := by subst h; exact op_eqD hu
theorem neDk (h : X.K = K) (hu : X.A.units + 64 < cLine) : OpR X (compareOp .NotEq) (rNeD K) := by subst h; exact op_neD hu
theorem inSk (h : X.K = K) : OpR X (compareOp .In) (rIn K false) := by subst h; exact op_in_seq
theorem niSk (h : X.K = K) : OpR X (compareOp .NotIn) (rIn K true) := by subst h; exact op_notIn_seq
def rLenQ (K : PySem.W.Frag) : List V → Hp → VK → Prop := fun xs H Q => ∃ p ys, xs = [.ref p] ∧ (SqL K H p ys ∨ SqT K H p ys) ∧ Q (.int ys.length) H
theorem lenk (h : X.K = K) : CallR X (.builtin "len") (rLenQ K) := by subst h; exact call_len_seq
theorem sumk (h : X.K = K) (hc : X.calm = true) : CallR X (.builtin "sum") (rSum K) := by subst h; exact cr_sum hc
theorem allk (h : X.K = K) (hc : X.calm = true) : CallR X (.builtin "all") (rAll K) := by subst h; exact cr_all hc
theorem anyk (h : X.K = K) (hc : X.calm = true) : CallR X (.builtin "any") (rAny K) := by subst h; exact cr_any hc
theorem pe_fldk {o : Expr} {ta : TE} {f : Str} {pos : Pos} (h : X.K = K) (ho : PE X o ta) (hb : attributeBase o f X.env (eval o X.env) = eval o X.env) : PE X (.Attribute o f pos) (tFld K ta f) := by subst h; exact pe_fld ho hb
theorem slLk (h : X.K = K) : SlR X (rSlL K) := by subst h; exact sl_list
theorem slTk (h : X.K = K) : SlR X (rSlT K) := by subst h; exact sl_tup
end

theorem isik {X : Cx} {K : PySem.W.Frag} (h : X.K = K) : CallR X (.builtin "isinstance") (rIsi K) := by subst h; exact call_isi

/-! ### data: lists of ints, comparisons -/
theorem shaped_mk {d : PyData} (h1 : d.canLay0 = true) (h2 : d.depth ≤ 64) : SeqAt.shaped d = true := by
  unfold SeqAt.shaped
  rw [h1, decide_eq_true h2]
  rfl
theorem lay_ints : ∀ ns : List Int, PyData.canLayAll0 (ns.map PyData.int) = true
  | [] => rfl
  | _ :: r => by
    show (true && PyData.canLayAll0 (r.map PyData.int)) = true
    rw [lay_ints r]
    rfl
theorem depth_ints : ∀ ns : List Int, PyData.depthAll (ns.map PyData.int) = 0
  | [] => rfl
  | _ :: r => by
    show max 0 (PyData.depthAll (r.map PyData.int)) = 0
    rw [depth_ints r]
    rfl
theorem shaped_ints (ns : List Int) : SeqAt.shaped (.list (ns.map .int)) = true := shaped_mk (lay_ints ns) (by
  show PyData.depthAll (ns.map PyData.int) + 1 ≤ 64
  rw [depth_ints]
  decide)
theorem shaped_intsT (ns : List Int) : SeqAt.shaped (.tuple (ns.map .int)) = true := shaped_mk (lay_ints ns) (by
  show PyData.depthAll (ns.map PyData.int) + 1 ≤ 64
  rw [depth_ints]
  decide)
theorem eqvAll_ints : ∀ ns ms : List Int, PyData.eqvAll (ns.map .int) (ms.map .int) = decide (ns = ms)
  | [], [] => rfl
  | [], _ :: _ => rfl
  | _ :: _, [] => rfl
  | x :: r, y :: t => by
    show (PyData.eqv (.int x) (.int y) && PyData.eqvAll (r.map PyData.int) (t.map PyData.int)) = _
    rw [eqvAll_ints r t]
    show ((x == y) && decide (r = t)) = decide (x :: r = y :: t)
    by_cases h1 : x = y
    · by_cases h2 : r = t
      · subst h1 h2; simp
      · subst h1; simp [h2]
    · simp [h1]
theorem eqv_ints (ns ms : List Int) : PyData.eqv (.list (ns.map .int)) (.list (ms.map .int)) = decide (ns = ms) := by
  rw [PyData.eqv]
  exact eqvAll_ints ns ms
theorem eqv_intsT (ns ms : List Int) : PyData.eqv (.tuple (ns.map .int)) (.tuple (ms.map .int)) = decide (ns = ms) := by
  rw [PyData.eqv]
  exact eqvAll_ints ns ms
theorem dp_ints {K : PySem.W.Frag} {H : Hp} : ∀ ns : List Int, DpAll K H (ns.map V.int) (ns.map PyData.int)
  | [] => .nil
  | _ :: r => .cons (.int _) (dp_ints r)

structure Txt (K : PySem.W.Frag) (mg : Str → Option Value) where
  f_is_name : Addr
  fd_is_name : FuncData
  F_is_name : Fun K "is_name" "is_name" s_is_name f_is_name fd_is_name
  b_is_name : Binds K fd_is_name ["text"] []
  g_is_name : mg "is_name" = some (.ref f_is_name)
  f_fault_of : Addr
  fd_fault_of : FuncData
  F_fault_of : Fun K "fault_of" "fault_of" s_fault_of f_fault_of fd_fault_of
  b_fault_of : Binds K fd_fault_of ["row"] []
  g_fault_of : mg "fault_of" = some (.ref f_fault_of)
  f_is_item : Addr
  fd_is_item : FuncData
  F_is_item : Fun K "is_item" "is_item" s_is_item f_is_item fd_is_item
  b_is_item : Binds K fd_is_item ["row"] []
  g_is_item : mg "is_item" = some (.ref f_is_item)
  f_check_items : Addr
  fd_check_items : FuncData
  F_check_items : Fun K "check_items" "check_items" s_check_items f_check_items fd_check_items
  b_check_items : Binds K fd_check_items ["rows"] []
  g_check_items : mg "check_items" = some (.ref f_check_items)
  f__law_draws : Addr
  fd__law_draws : FuncData
  F__law_draws : Fun K "_law_draws" "_law_draws" s__law_draws f__law_draws fd__law_draws
  b__law_draws : Binds K fd__law_draws ["_law_script"] []
  g__law_draws : mg "_law_draws" = some (.ref f__law_draws)
  f__law_take : Addr
  fd__law_take : FuncData
  F__law_take : Fun K "_law_take" "_law_take" s__law_take f__law_take fd__law_take
  b__law_take : Binds K fd__law_take ["_law_draws_here", "_law_bound"] []
  g__law_take : mg "_law_take" = some (.ref f__law_take)
  f__law_same : Addr
  fd__law_same : FuncData
  F__law_same : Fun K "_law_same" "_law_same" s__law_same f__law_same fd__law_same
  b__law_same : Binds K fd__law_same ["_law_actual", "_law_due"] []
  g__law_same : mg "_law_same" = some (.ref f__law_same)
  f__law_name : Addr
  fd__law_name : FuncData
  F__law_name : Fun K "_law_name" "_law_name" s__law_name f__law_name fd__law_name
  b__law_name : Binds K fd__law_name ["_law_draws_here"] []
  g__law_name : mg "_law_name" = some (.ref f__law_name)
  f__law_items : Addr
  fd__law_items : FuncData
  F__law_items : Fun K "_law_items" "_law_items" s__law_items f__law_items fd__law_items
  b__law_items : Binds K fd__law_items ["_law_draws_here", "_law_most"] []
  g__law_items : mg "_law_items" = some (.ref f__law_items)
  f__law_spoilt : Addr
  fd__law_spoilt : FuncData
  F__law_spoilt : Fun K "_law_spoilt" "_law_spoilt" s__law_spoilt f__law_spoilt fd__law_spoilt
  b__law_spoilt : Binds K fd__law_spoilt ["_law_draws_here", "_law_rows"] []
  g__law_spoilt : mg "_law_spoilt" = some (.ref f__law_spoilt)
  f__law_fine : Addr
  fd__law_fine : FuncData
  F__law_fine : Fun K "_law_fine" "_law_fine" s__law_fine f__law_fine fd__law_fine
  b__law_fine : Binds K fd__law_fine ["_law_text"] []
  g__law_fine : mg "_law_fine" = some (.ref f__law_fine)
  f__law_reason : Addr
  fd__law_reason : FuncData
  F__law_reason : Fun K "_law_reason" "_law_reason" s__law_reason f__law_reason fd__law_reason
  b__law_reason : Binds K fd__law_reason ["_law_row"] []
  g__law_reason : mg "_law_reason" = some (.ref f__law_reason)
  f__law_fault : Addr
  fd__law_fault : FuncData
  F__law_fault : Fun K "_law_fault" "_law_fault" s__law_fault f__law_fault fd__law_fault
  b__law_fault : Binds K fd__law_fault ["_law_rows"] []
  g__law_fault : mg "_law_fault" = some (.ref f__law_fault)
  f_law : Addr
  fd_law : FuncData
  F_law : Fun K "law" "law" s_law f_law fd_law
  b_law : Binds K fd_law ["_law_script"] []
  g_law : mg "law" = some (.ref f_law)
  t_MOST_AMOUNT : Tok
  g_MOST_AMOUNT : mg "MOST_AMOUNT" = some (.int (1000) t_MOST_AMOUNT)
  t_MOST_WEIGHT : Tok
  g_MOST_WEIGHT : mg "MOST_WEIGHT" = some (.int (1000) t_MOST_WEIGHT)
  t_NAME_SIGNS : Tok
  g_NAME_SIGNS : mg "NAME_SIGNS" = some (.str ("abcdefghijklmnopqrstuvwxyz0123456789" : Str) t_NAME_SIGNS)
  z_abs : mg "abs" = none
  z_all : mg "all" = none
  z_bool : mg "bool" = none
  z_enumerate : mg "enumerate" = none
  z_int : mg "int" = none
  z_isinstance : mg "isinstance" = none
  z_len : mg "len" = none
  z_list : mg "list" = none
  z_range : mg "range" = none
  z_reversed : mg "reversed" = none
  z_str : mg "str" = none
  z_tuple : mg "tuple" = none
section
variable {P : Program} {w : World} {K : PySem.W.Frag} {mg : Str → Option Value} {base : Heap}
/-! ### the draws: a list of ints, popped -/
def Dr (H : Hp) (L : Addr) : Prop := ∃ ns : List Int, H L = some (.lst (ns.map V.int))
theorem Dr.same {H H' : Hp} {L : Addr} (e : Same H H') (h : Dr H L) : Dr H' L := by
  obtain ⟨ns, h⟩ := h
  exact ⟨ns, e _ _ h⟩
theorem Dr.ne {H : Hp} {L p : Addr} (h : Dr H L) (hp : H p = none) : p ≠ L := by
  obtain ⟨ns, h⟩ := h
  exact (ne_of_none h hp).symm
theorem Dr.at {H H' : Hp} {L x : Addr} (e : Ex [x] H H') (n : L ≠ x) (h : Dr H L) : Dr H' L := by
  obtain ⟨ns, h⟩ := h
  exact ⟨ns, e _ _ (nin n) h⟩
theorem ex_put {H : Hp} {L : Addr} {o : HO} : Ex [L] H (L2.upd H L o) := (Ex.refl H).mut (.inr (List.mem_singleton.mpr rfl))
theorem nez {i j : Int} (h : j ≠ 0) : (fun (_ j : Int) => j ≠ 0) i j := h
def sp__law_draws (K : PySem.W.Frag) : Sp := fun vs H Q _ => ∃ (a : Addr) (ns : List Int), vs = [.ref a] ∧ SqL K H a (ns.map V.int) ∧ ns.length ≤ 63 ∧ ∀ L H', H L = none → Same H H' → Dr H' L → Q (.ref L) H'
theorem ok__law_draws (T : Txt K mg) : FnOk P w K mg base CX0 1 T.f__law_draws T.fd__law_draws ["_law_script"] (sp__law_draws K) := by
  refine T.F__law_draws.ok sc__law_draws (fun vs H Q E h => ?_) (fun cdv A outer s H vs Q E hr h => ?_)
  · obtain ⟨a, ns, rfl, _⟩ := h
    rfl
  · obtain ⟨a, ns, rfl, hS, hlen, q⟩ := h
    refine ⟨_, (pss_cons (ps_set (i := 1) sc__law_draws.nd rfl (Or.inl rfl) (pe_lst pa_nil))
      (pss_cons (ps_for PassesOwn.never rfl (pi_list (pv 0)) (pg_name (i := 2) sc__law_draws.nd rfl (Or.inl rfl))
        (pss_cons (ps_set (i := 3) sc__law_draws.nd rfl (Or.inl rfl) (pe_callB (id := "abs") call_abs (by rfl) T.z_abs (by decide +kernel) (pa_cons (pv 2) pa_nil)))
        (pss_cut (ps_if (pt_cmpR op_lt (pv 3) (pe_op op_pow pe_int pe_int) (nomark _))
          (pss_cons (ps_set (i := 4) sc__law_draws.nd rfl (Or.inl rfl) (pe_op op_modN (pe_callTy (T := "int") call_int1 (by rfl) T.z_int (by decide +kernel) (pa_cons (pe_op op_add (pe_op op_mul (pv 3) pe_int) pe_int) pa_nil)) pe_int))
          (pss_cons (ps_expr (pe_bm PySem.F.plainAttrs_list PySem.F.slot_list_append PySem.F.type_list_append mt_append (pv 1) (pa_cons (pe_op op_modN (pe_callTy (T := "int") call_int1 (by rfl) T.z_int (by decide +kernel) (pa_cons (pe_op op_add (pe_op op_mul (pv 4) pe_int) (pv 3)) pa_nil)) pe_int) pa_nil)))
          (pss_cons (ps_expr (pe_bm PySem.F.plainAttrs_list PySem.F.slot_list_append PySem.F.type_list_append mt_append (pv 1) (pa_cons (pe_op op_modN (pe_callTy (T := "int") call_int1 (by rfl) T.z_int (by decide +kernel) (pa_cons (pe_op op_add (pv 4) (pe_op op_fdivW (pv 3) pe_int)) pa_nil)) pe_int) pa_nil)))
          (pss_one (ps_set (i := 3) sc__law_draws.nd rfl (Or.inl rfl) pe_int)))))
          pss_nil)
        (pss_one (ps_for PassesOwn.never rfl (pi_range1 (by rfl) T.z_range (pa_cons pe_int pa_nil)) (pg_name (i := 5) sc__law_draws.nd rfl (Or.inl rfl))
          (pss_one (ps_if (pt_cmpR op_gt (pv 3) pe_int (nomark _))
            (pss_cons (ps_expr (pe_bm PySem.F.plainAttrs_list PySem.F.slot_list_append PySem.F.type_list_append mt_append (pv 1) (pa_cons (pe_op op_modN (pe_callTy (T := "int") call_int1 (by rfl) T.z_int (by decide +kernel) (pa_cons (pv 3) pa_nil)) pe_int) pa_nil)))
            (pss_one (ps_set (i := 3) sc__law_draws.nd rfl (Or.inl rfl) (pe_op op_fdivW (pv 3) pe_int))))
            pss_nil)))))))
      (pss_cons (ps_set (i := 6) sc__law_draws.nd rfl (Or.inl rfl) pe_int)
      (pss_cut (ps_if (pt_cmpR op_gt (pe_callB (id := "len") call_len_seq (by rfl) T.z_len (by decide +kernel) (pa_cons (pv 0) pa_nil)) pe_int (nomark _))
        (pss_one (ps_set (i := 6) sc__law_draws.nd rfl (Or.inl rfl) (pe_op op_add pe_int (pe_callB (id := "abs") call_abs (by rfl) T.z_abs (by decide +kernel) (pa_cons (pe_ix ix_list (pv 0) pe_int (fun _ _ => rfl)) pa_nil)))))
        pss_nil)
      (pss_cons (ps_for PassesOwn.never rfl (pi_range1 (by rfl) T.z_range (pa_cons pe_int pa_nil)) (pg_name (i := 5) sc__law_draws.nd rfl (Or.inl rfl))
        (pss_cons (ps_set (i := 6) sc__law_draws.nd rfl (Or.inl rfl) (pe_op op_modN (pe_callTy (T := "int") call_int1 (by rfl) T.z_int (by decide +kernel) (pa_cons (pe_op op_add (pe_op op_mul (pv 6) pe_int) pe_int) pa_nil)) pe_int))
        (pss_one (ps_expr (pe_bm PySem.F.plainAttrs_list PySem.F.slot_list_append PySem.F.type_list_append mt_append (pv 1) (pa_cons (pe_op op_fdivW (pv 6) pe_int) pa_nil))))))
      (pss_one (ps_ret (pe_listRev rfl (by rfl) T.z_list (by rfl) T.z_reversed (pv 1))))))))), ?_⟩
    refine ⟨Nat.zero_le _, fun D hD => ?_⟩
    have add1 : ∀ {H' : Hp} {ms : List Int} (z : Int), Same H H' → H' D = some (.lst (ms.map V.int)) → Same H (upd H' D (.lst (ms.map V.int ++ [V.int z]))) ∧ upd H' D (.lst (ms.map V.int ++ [V.int z])) D = some (.lst ((ms ++ [z]).map V.int)) :=
      fun z e h => ⟨e.mut hD, by rw [upd_same, List.map_append]; rfl⟩
    have small : ∀ {ms : List Int}, ms.length ≤ 10000 → (ms.map V.int).length < sizeLine := fun h => by
      rw [List.length_map]
      exact Nat.lt_of_le_of_lt h (by decide)
    refine ⟨_, rfl, a, rfl, ⟨_, (same_upd hD).seq hS⟩, for_it walk_list (fun i σ H' => ∃ (x2 x3 x4 x5 x6 : Option V) (ms : List Int), σ = [some (.ref a), some (.ref D), x2, x3, x4, x5, x6] ∧ Same H H' ∧ H' D = some (.lst (ms.map V.int)) ∧ ms.length ≤ 62 * i)
      ⟨_, _, _, _, _, [], rfl, same_upd hD, upd_same, Nat.zero_le _⟩ (fun _ _ _ _ ⟨_, _, _, _, _, _, _, e, _⟩ => e.seq hS) ?_ ?_⟩
    · rintro i v σ Ha Hb hi ⟨x2, x3, x4, x5, x6, ms, rfl, e, hd, hl⟩ ⟨rfl, hv⟩
      obtain ⟨c, rfl, hc⟩ := map_get hv
      have hi63 : i < 63 := by rw [List.length_map] at hi; omega
      refine ⟨_, rfl, c, rfl, ?_⟩
      generalize (if c < 0 then -c else c) = n
      refine ⟨fun σ' H' => ∃ (n : Int) (y4 : Option V) (ms' : List Int), σ' = [some (.ref a), some (.ref D), some (.int c), some (.int n), y4, x5, x6] ∧ Same H H' ∧ H' D = some (.lst (ms'.map V.int)) ∧ ms'.length ≤ 62 * i + 2, ?_, ?_⟩
      · refine ⟨_, rfl, _, _, rfl, rfl, ⟨by decide, by decide, by decide⟩, _, _, rfl, rfl, _, rfl, ite_dec (fun h1 => ?_) (fun h1 => ?_)⟩
        · refine ⟨_, rfl, _, _, rfl, rfl, .inr ⟨by decide, by decide⟩, _, _, rfl, rfl, .inl ⟨_, rfl, _, _, rfl, rfl, (by dsimp only; decide), ?_⟩⟩
          refine ⟨_, rfl, .inl ⟨rfl, _, SqL.of hd⟩, _, rfl, _, _, rfl, rfl, .inr ⟨by decide, by decide⟩, _, rfl, _, _, rfl, rfl, .inl ⟨_, rfl, _, _, rfl, rfl, (by dsimp only; decide), D, _, _, rfl, rfl, hd, small (by omega), ?_⟩⟩
          obtain ⟨e1, hd1⟩ := add1 _ e hd
          refine ⟨_, rfl, .inl ⟨rfl, _, SqL.of hd1⟩, _, rfl, _, rfl, _, _, rfl, rfl, ⟨by decide, by decide⟩, _, _, rfl, rfl, .inl ⟨_, rfl, _, _, rfl, rfl, (by dsimp only; decide), D, _, _, rfl, rfl, hd1, small (by rw [List.length_append, List.length_singleton]; omega), ?_⟩⟩
          obtain ⟨e2, hd2⟩ := add1 _ e1 hd1
          exact ⟨0, _, _, rfl, e2, hd2, by simp only [List.length_append, List.length_singleton]; omega⟩
        · exact ⟨n, _, ms, rfl, e, hd, by omega⟩
      · rintro σ' H' ⟨n, y4, ms', rfl, e', hd', hl'⟩
        refine ⟨_, rfl, by decide, by decide, for_it walk_range (fun j σ H' => ∃ (n : Int) (y5 : Option V) (ms : List Int), σ = [some (.ref a), some (.ref D), some (.int c), some (.int n), y4, y5, x6] ∧ Same H H' ∧ H' D = some (.lst (ms.map V.int)) ∧ ms.length ≤ 62 * i + 2 + j)
          ⟨_, _, _, rfl, e', hd', hl'⟩ (fun _ _ _ _ _ => trivial) ?_ ?_⟩
        · rintro j v σ Hc Hd hj ⟨n, y5, ms2, rfl, e2, hd2, hl2⟩ ⟨rfl, rfl⟩
          have hj60 : j < 60 := hj
          refine ⟨_, rfl, _, _, rfl, rfl, _, rfl, ite_dec (fun h1 => ?_) (fun h1 => ?_)⟩
          · refine ⟨_, rfl, .inl ⟨rfl, _, SqL.of hd2⟩, _, rfl, .inl ⟨_, rfl, _, _, rfl, rfl, (by dsimp only; decide), D, _, _, rfl, rfl, hd2, small (by omega), ?_⟩⟩
            obtain ⟨e3, hd3⟩ := add1 _ e2 hd2
            exact ⟨_, rfl, _, _, rfl, rfl, ⟨by decide, by decide⟩, _, _, _, rfl, e3, hd3, by simp only [List.length_append, List.length_singleton]; omega⟩
          · exact ⟨_, _, _, rfl, e2, hd2, by omega⟩
        · rintro σ Hc ⟨n, y5, ms2, rfl, e2, hd2, hl2⟩
          have hl3 : ms2.length ≤ 62 * i + 2 + 60 := hl2
          exact ⟨_, _, _, _, _, _, rfl, e2, hd2, by omega⟩
    · rintro σ Ha ⟨x2, x3, x4, x5, x6, ms, rfl, e, hd, hl⟩
      have hl0 : ms.length ≤ 62 * 63 := by rw [List.length_map] at hl; omega
      refine ⟨fun σ' H' => H' = Ha ∧ ∃ z : Int, σ' = [some (.ref a), some (.ref D), x2, x3, x4, x5, some (.int z)], ?_, ?_⟩
      · refine ⟨_, rfl, a, _, rfl, .inl (e.seq hS), _, _, rfl, rfl, _, rfl, ite_dec (fun h1 => ?_) (fun h1 => ?_)⟩
        · have h1' : 0 < ns.length := by rw [List.length_map] at h1; omega
          refine ⟨_, rfl, a, _, 0, .int ns[0], rfl, rfl, e.seq hS, atI_nat (j := 0) (get_map (List.getElem?_eq_getElem h1')), _, rfl, _, _, rfl, rfl, rfl, _, rfl⟩
        · exact ⟨rfl, _, rfl⟩
      · rintro σ' H' ⟨rfl, z, rfl⟩
        refine ⟨_, rfl, by decide, by decide, for_it walk_range (fun j σ H' => ∃ (y5 : Option V) (z : Int) (ms : List Int), σ = [some (.ref a), some (.ref D), x2, x3, x4, y5, some (.int z)] ∧ Same H H' ∧ H' D = some (.lst (ms.map V.int)) ∧ ms.length ≤ 62 * 63 + j)
          ⟨_, _, _, rfl, e, hd, hl0⟩ (fun _ _ _ _ _ => trivial) ?_ ?_⟩
        · rintro j v σ Hc Hd hj ⟨y5, z, ms2, rfl, e2, hd2, hl2⟩ ⟨rfl, rfl⟩
          have hj2 : j < 240 := hj
          refine ⟨_, rfl, _, _, rfl, rfl, .inr ⟨by decide, by decide⟩, _, _, rfl, rfl, .inl ⟨_, rfl, _, _, rfl, rfl, (by dsimp only; decide), ?_⟩⟩
          refine ⟨_, rfl, .inl ⟨rfl, _, SqL.of hd2⟩, _, rfl, _, _, rfl, rfl, ⟨by decide, by decide⟩, D, _, _, rfl, rfl, hd2, small (by omega), ?_⟩
          obtain ⟨e3, hd3⟩ := add1 _ e2 hd2
          exact ⟨_, _, _, rfl, e3, hd3, by simp only [List.length_append, List.length_singleton]; omega⟩
        · rintro σ Hc ⟨y5, z, ms2, rfl, e2, hd2, hl2⟩
          refine ⟨_, rfl, D, _, rfl, SqL.of hd2, fun L hL => ?_⟩
          refine q L _ (e2.free hL) (e2.trans (same_upd hL)) ⟨ms2.reverse, ?_⟩
          rw [upd_same, List.map_reverse]
def sp__law_take (K : PySem.W.Frag) : Sp := fun vs H Q _ => ∃ (L : Addr) (m : Int), vs = [.ref L, .int m] ∧ 0 < m ∧ Dr H L ∧ ∀ v H', 0 ≤ v → v < m → Ex [L] H H' → Dr H' L → Q (.int v) H'
theorem ok__law_take (T : Txt K mg) : FnOk P w K mg base CX0 1 T.f__law_take T.fd__law_take ["_law_draws_here", "_law_bound"] (sp__law_take K) := by
  refine T.F__law_take.ok sc__law_take (fun vs H Q E h => ?_) (fun cdv A outer s H vs Q E hr h => ?_)
  · obtain ⟨L, m, rfl, _⟩ := h
    rfl
  · obtain ⟨L, m, rfl, h0, ⟨ns, hL⟩, q⟩ := h
    refine ⟨_, (pss_cons (ps_if (pt_cmpR op_eq (pe_callB (id := "len") call_len_seq (by rfl) T.z_len (by decide +kernel) (pa_cons (pv 0) pa_nil)) pe_int (nomark _))
        (pss_one (ps_ret pe_int))
        pss_nil)
      (pss_one (ps_ret (pe_op op_modN (pe_callTy (T := "int") call_int1 (by rfl) T.z_int (by decide +kernel) (pa_cons (pe_bm0 PySem.F.plainAttrs_list PySem.F.slot_list_pop PySem.F.type_list_pop mt_pop (pv 0)) pa_nil)) (pv 1))))), ?_⟩
    refine ⟨_, rfl, L, _, rfl, .inl (SqL.of hL), rfl, _, rfl, ite_dec (fun h1 => ?_) (fun h1 => ?_)⟩
    · exact q 0 H (Int.le_refl _) h0 (Ex.refl H) ⟨ns, hL⟩
    · have hne : ns ≠ [] := fun z => h1 (by rw [z]; rfl)
      have hlast : (ns.map V.int)[(ns.map V.int).length - 1]? = some (.int (ns.getLast hne)) := by
        rw [List.length_map, List.getElem?_map, ← List.getLast?_eq_getElem?, List.getLast?_eq_some_getLast hne]
        rfl
      refine ⟨_, rfl, .inl ⟨rfl, _, SqL.of hL⟩, L, _, _, rfl, rfl, hL, hlast, .inl ⟨_, rfl, _, rfl, _, _, rfl, rfl, (by show m ≠ 0; omega), ?_⟩⟩
      refine q _ _ (Int.fmod_nonneg_of_pos _ h0) (Int.fmod_lt_of_pos _ h0) ex_put ⟨ns.dropLast, ?_⟩
      rw [upd_same, List.map_dropLast]

/-! ### the same data, by the law's recursion -/
mutual
theorem dp_same {K : PySem.W.Frag} {H H' : Hp} (e : Same H H') : ∀ (d : PyData) (v : V), Dp K H v d → Dp K H' v d
  | .none, _, h => by cases h; exact .non
  | .bool b, _, h => by cases h; exact .bl b
  | .int i, _, h => by cases h; exact .int i
  | .str x, _, h => by cases h; exact .str x
  | .list ds, _, h => by
    cases h with
    | lst hs ha => exact .lst (e.seq hs) (dpAll_same e ds _ ha)
  | .tuple ds, _, h => by
    cases h with
    | tup hs ha => exact .tup (e.tupq hs) (dpAll_same e ds _ ha)
  | .dict _, _, h => by cases h
theorem dpAll_same {K : PySem.W.Frag} {H H' : Hp} (e : Same H H') : ∀ (ds : List PyData) (vs : List V), DpAll K H vs ds → DpAll K H' vs ds
  | [], _, h => by cases h; exact .nil
  | d :: ds, _, h => by
    cases h with
    | cons h1 h2 => exact .cons (dp_same e d _ h1) (dpAll_same e ds _ h2)
end
theorem dpAll_len {K : PySem.W.Frag} {H : Hp} : ∀ {vs : List V} {ds : List PyData}, DpAll K H vs ds → vs.length = ds.length
  | _, _, .nil => rfl
  | _, _, .cons _ t => congrArg (· + 1) (dpAll_len t)
theorem dpAll_get {K : PySem.W.Frag} {H : Hp} : ∀ {vs : List V} {ds : List PyData}, DpAll K H vs ds → ∀ {i : Nat} {d : PyData}, ds[i]? = some d → ∃ v, vs[i]? = some v ∧ Dp K H v d
  | _, _, .nil, i, d, e => by simp at e
  | _, _, .cons h t, 0, d, e => by
    have e1 := Option.some.inj e
    subst e1
    exact ⟨_, rfl, h⟩
  | _, _, .cons h t, i + 1, d, e => dpAll_get t (i := i) e
def tyN : PyData → String
  | .none => "NoneType"
  | .bool _ => "bool"
  | .int _ => "int"
  | .str _ => "str"
  | .list _ => "list"
  | .tuple _ => "tuple"
  | .dict _ => "dict"
theorem tyx_tup' {K : PySem.W.Frag} {H : Hp} {a : Addr} {xs : List V} (h : SqT K H a xs) : TyX K H (.ref a) (.type "tuple") := by
  rcases h with (h | ⟨o, h⟩) | ⟨o, its, n, h1, h2, _⟩
  · exact .base (.tup h)
  · exact .fTuple h
  · exact .kTuple h1 h2
theorem tyx_lst' {K : PySem.W.Frag} {H : Hp} {a : Addr} {xs : List V} (h : SqL K H a xs) : TyX K H (.ref a) (.type "list") := by
  rcases h with (h | ⟨o, h⟩) | ⟨o, its, n, h1, h2, _⟩
  · exact .base (.lst h)
  · exact .base (.frz h)
  · exact .kList h1 h2
theorem ty_of {K : PySem.W.Frag} {H : Hp} {v : V} {d : PyData} (h : Dp K H v d) : TyX K H v (.type (tyN d)) := by
  cases h with
  | non => exact .base .non
  | bl b => exact .base (.bl b)
  | int i => exact .base (.int i)
  | str x => exact .base (.str x)
  | lst hs _ => exact tyx_lst' hs
  | tup hs _ => exact tyx_tup' hs
theorem canAll_get : ∀ {ds : List PyData}, PyData.canLayAll0 ds = true → ∀ {i : Nat} {d : PyData}, ds[i]? = some d → d.canLay0 = true
  | [], _, i, d, e => by simp at e
  | x :: r, h, 0, d, e => by
    have e1 := Option.some.inj e
    subst e1
    exact (Bool.and_eq_true_iff.mp h).1
  | x :: r, h, i + 1, d, e => canAll_get (Bool.and_eq_true_iff.mp h).2 (i := i) e
theorem depthAll_get : ∀ {ds : List PyData} {i : Nat} {d : PyData}, ds[i]? = some d → d.depth ≤ PyData.depthAll ds
  | [], i, d, e => by simp at e
  | x :: r, 0, d, e => by
    have e1 := Option.some.inj e
    subst e1
    exact Nat.le_max_left _ _
  | x :: r, i + 1, d, e => Nat.le_trans (depthAll_get (ds := r) (i := i) e) (Nat.le_max_right _ _)
mutual
def smallD : PyData → Bool
  | .list ds | .tuple ds => decide (ds.length ≤ 1000) && smallAllD ds
  | .none | .bool _ | .int _ | .str _ | .dict _ => true
def smallAllD : List PyData → Bool
  | [] => true
  | d :: r => smallD d && smallAllD r
end
theorem smallAll_get : ∀ {ds : List PyData}, smallAllD ds = true → ∀ {i : Nat} {d : PyData}, ds[i]? = some d → smallD d = true
  | [], _, i, d, e => by simp at e
  | x :: r, h, 0, d, e => by
    have e1 := Option.some.inj e
    subst e1
    exact (Bool.and_eq_true_iff.mp h).1
  | x :: r, h, i + 1, d, e => smallAll_get (Bool.and_eq_true_iff.mp h).2 (i := i) e
def sp__law_same (K : PySem.W.Frag) (n : Nat) : Sp := fun vs H Q _ => ∃ (u v : V) (d : PyData), vs = [u, v] ∧ Dp K H u d ∧ Dp K H v d ∧ d.canLay0 = true ∧ d.depth < n ∧ n ≤ 60 ∧ smallD d = true ∧ Q (.bl true) H
theorem decT {A B : Prop} {b : Bool} (h : B) : if (!decide (V.bl b = V.bl b)) = true then A else B := by
  rw [decide_eq_true rfl]
  exact iteF h
/-- a sequence of either kind -/
theorem same_seq {K : PySem.W.Frag} {H : Hp} {x : Addr} {xs : List V} {isT : Bool} (h : if isT = true then SqT K H x xs else SqL K H x xs) {i : Nat} {v : V} (hi : xs[i]? = some v) {Q : VK} (q : Q v H) : rIx K (.ref x) (.int ((0 : Int) + (i : Nat))) H Q := by
  have e := atI_nat hi
  rw [show ((i : Nat) : Int) = (0 : Int) + (i : Nat) by omega] at e
  cases isT with
  | true => exact .inr (.inl ⟨x, xs, _, v, rfl, rfl, h, e, q⟩)
  | false => exact .inl ⟨x, xs, _, v, rfl, rfl, h, e, q⟩
theorem okR__law_same (T : Txt K mg) : ∀ n, n ≤ 60 → FnOk P w K mg base CX0 (n + 1) T.f__law_same T.fd__law_same ["_law_actual", "_law_due"] (sp__law_same K n)
  | 0, _ => by
    refine T.F__law_same.ok sc__law_same (fun vs H Q E h => ?_) (fun cdv A outer s H vs Q E hr h => ?_)
    · obtain ⟨u, v, d, rfl, _⟩ := h
      rfl
    · obtain ⟨u, v, d, rfl, _, _, _, hd, _⟩ := h
      exact absurd hd (Nat.not_lt_zero _)
  | n + 1, hn => by
    have ok__law_same : ∀ T : Txt K mg, FnOk P w K mg base CX0 (n + 1) T.f__law_same T.fd__law_same ["_law_actual", "_law_due"] (sp__law_same K n) := fun T => okR__law_same T n (by omega)
    refine T.F__law_same.ok sc__law_same (fun vs H Q E h => ?_) (fun cdv A outer s H vs Q E hr h => ?_)
    · obtain ⟨u, v, d, rfl, _⟩ := h
      rfl
    · obtain ⟨u, v, d, rfl, hu, hv, hc, hd, _, hw, q⟩ := h
      refine ⟨_, (pss_cons (ps_if (PW.pt (pw_or (pt_val (pe_callB (id := "isinstance") call_isi (by rfl) T.z_isinstance (by decide +kernel) (pa_cons (pv 1) (pa_cons (pe_bltn (v := .ty "tuple") (by rfl) T.z_tuple (by decide +kernel) rfl) pa_nil)))) (pw_or1 (pt_val (pe_callB (id := "isinstance") call_isi (by rfl) T.z_isinstance (by decide +kernel) (pa_cons (pv 1) (pa_cons (pe_bltn (v := .ty "list") (by rfl) T.z_list (by decide +kernel) rfl) pa_nil)))))))
        (pss_cons (ps_if (PW.pt (pw_or (pt_cmpR op_ne (pe_callB (id := "isinstance") call_isi (by rfl) T.z_isinstance (by decide +kernel) (pa_cons (pv 1) (pa_cons (pe_bltn (v := .ty "tuple") (by rfl) T.z_tuple (by decide +kernel) rfl) pa_nil))) (pe_callB (id := "isinstance") call_isi (by rfl) T.z_isinstance (by decide +kernel) (pa_cons (pv 0) (pa_cons (pe_bltn (v := .ty "tuple") (by rfl) T.z_tuple (by decide +kernel) rfl) pa_nil))) (nomark _)) (pw_or1 (pt_cmpR op_ne (pe_callB (id := "isinstance") call_isi (by rfl) T.z_isinstance (by decide +kernel) (pa_cons (pv 1) (pa_cons (pe_bltn (v := .ty "list") (by rfl) T.z_list (by decide +kernel) rfl) pa_nil))) (pe_callB (id := "isinstance") call_isi (by rfl) T.z_isinstance (by decide +kernel) (pa_cons (pv 0) (pa_cons (pe_bltn (v := .ty "list") (by rfl) T.z_list (by decide +kernel) rfl) pa_nil))) (nomark _)))))
          (pss_one (ps_ret pe_bl))
          pss_nil)
        (pss_cons (ps_if (pt_cmpR op_ne (pe_callB (id := "len") call_len_seq (by rfl) T.z_len (by decide +kernel) (pa_cons (pv 0) pa_nil)) (pe_callB (id := "len") call_len_seq (by rfl) T.z_len (by decide +kernel) (pa_cons (pv 1) pa_nil)) (nomark _))
          (pss_one (ps_ret pe_bl))
          pss_nil)
        (pss_cons (ps_for PassesOwn.never rfl (pi_range1 (by rfl) T.z_range (pa_cons (pe_callB (id := "len") call_len_seq (by rfl) T.z_len (by decide +kernel) (pa_cons (pv 1) pa_nil)) pa_nil)) (pg_name (i := 2) sc__law_same.nd rfl (Or.inl rfl))
          (pss_one (ps_if (pt_not (pt_val (pe_call (ok__law_same T) (hr.mono (by omega)) (by rfl) T.g__law_same T.F__law_same.kp T.b__law_same .nil pass0 (pa_cons (pe_ix ix_seq (pv 0) (pv 2) (fun _ _ => rfl)) (pa_cons (pe_ix ix_seq (pv 1) (pv 2) (fun _ _ => rfl)) pa_nil)))))
            (pss_one (ps_ret pe_bl))
            pss_nil)))
        (pss_one (ps_ret pe_bl)))))
        pss_nil)
      (pss_cons (ps_if (pt_cmpR op_ne (pe_callB (id := "isinstance") call_isi (by rfl) T.z_isinstance (by decide +kernel) (pa_cons (pv 1) (pa_cons (pe_bltn (v := .ty "bool") (by rfl) T.z_bool (by decide +kernel) rfl) pa_nil))) (pe_callB (id := "isinstance") call_isi (by rfl) T.z_isinstance (by decide +kernel) (pa_cons (pv 0) (pa_cons (pe_bltn (v := .ty "bool") (by rfl) T.z_bool (by decide +kernel) rfl) pa_nil))) (nomark _))
        (pss_one (ps_ret pe_bl))
        pss_nil)
      (pss_cons (ps_if (PW.pt (pw_or (pt_cmpR op_ne (pe_callB (id := "isinstance") call_isi (by rfl) T.z_isinstance (by decide +kernel) (pa_cons (pv 1) (pa_cons (pe_bltn (v := .ty "int") (by rfl) T.z_int (by decide +kernel) rfl) pa_nil))) (pe_callB (id := "isinstance") call_isi (by rfl) T.z_isinstance (by decide +kernel) (pa_cons (pv 0) (pa_cons (pe_bltn (v := .ty "int") (by rfl) T.z_int (by decide +kernel) rfl) pa_nil))) (nomark _)) (pw_or1 (pt_cmpR op_ne (pe_callB (id := "isinstance") call_isi (by rfl) T.z_isinstance (by decide +kernel) (pa_cons (pv 1) (pa_cons (pe_bltn (v := .ty "str") (by rfl) T.z_str (by decide +kernel) rfl) pa_nil))) (pe_callB (id := "isinstance") call_isi (by rfl) T.z_isinstance (by decide +kernel) (pa_cons (pv 0) (pa_cons (pe_bltn (v := .ty "str") (by rfl) T.z_str (by decide +kernel) rfl) pa_nil))) (nomark _)))))
        (pss_one (ps_ret pe_bl))
        pss_nil)
      (pss_one (ps_ret (pe_cmpR (op_eqD hr.units) (pv 0) (pv 1) (nomark _))))))), ?_⟩
      have tu := ty_of hu
      have tv := ty_of hv
      cases d with
      | dict _ => cases hu
      | list ds =>
        cases hu with
        | lst hx ax =>
          cases hv with
          | lst hy ay =>
            rename_i x xs y ys
            refine ⟨_, rfl, _, .ty "tuple", .type "list", .type "tuple", false, rfl, .ty _, tv, kit_ty (by decide +kernel), _, rfl, iteF ⟨_, rfl, _, .ty "list", .type "list", .type "list", true, rfl, .ty _, tv, kit_ty (by decide +kernel), _, rfl, iteT ?_⟩⟩
            refine ⟨_, rfl, _, .ty "tuple", .type "list", .type "tuple", false, rfl, .ty _, tv, kit_ty (by decide +kernel), _, rfl, _, .ty "tuple", .type "list", .type "tuple", false, rfl, .ty _, tu, kit_ty (by decide +kernel), rfl, _, rfl, decT ?_⟩
            refine ⟨_, rfl, _, .ty "list", .type "list", .type "list", true, rfl, .ty _, tv, kit_ty (by decide +kernel), _, rfl, _, .ty "list", .type "list", .type "list", true, rfl, .ty _, tu, kit_ty (by decide +kernel), rfl, _, rfl, decT ?_⟩
            have el : xs.length = ys.length := (dpAll_len ax).trans (dpAll_len ay).symm
            refine ⟨_, rfl, x, xs, rfl, .inl hx, _, rfl, y, ys, rfl, .inl hy, rfl, _, rfl, iteNS (by rw [el]) ?_⟩
            have hw2 := Bool.and_eq_true_iff.mp hw
            have hz : ds.length ≤ 1000 := of_decide_eq_true hw2.1
            have hzy : ys.length = ds.length := dpAll_len ay
            refine ⟨_, rfl, y, ys, rfl, .inl hy, _, rfl, by omega, by omega, for_it walk_range (fun i σ H' => ∃ a, σ = [some (.ref x), some (.ref y), a] ∧ H' = H) ⟨_, rfl, rfl⟩ (fun _ _ _ _ _ => trivial) ?_ ?_⟩
            · rintro i z σ Ha Hb hi ⟨a, rfl, rfl⟩ ⟨rfl, rfl⟩
              have hi' : i < ds.length := by omega
              have hg : ds[i]? = some ds[i] := List.getElem?_eq_getElem hi'
              obtain ⟨ux, hux, dux⟩ := dpAll_get ax hg
              obtain ⟨vy, hvy, dvy⟩ := dpAll_get ay hg
              refine ⟨_, rfl, _, rfl, same_seq (isT := false) hx hux ⟨_, rfl, _, rfl, same_seq (isT := false) hy hvy ⟨ux, vy, ds[i], rfl, dux, dvy, canAll_get hc hg, ?_, by omega, smallAll_get hw2.2 hg, _, rfl, iteF ⟨_, rfl, rfl⟩⟩⟩⟩
              have h1 := depthAll_get hg
              have h2 : PyData.depthAll ds + 1 < n + 1 := hd
              omega
            · rintro σ Ha ⟨a, rfl, rfl⟩
              exact q
      | tuple ds =>
        cases hu with
        | tup hx ax =>
          cases hv with
          | tup hy ay =>
            rename_i x xs y ys
            refine ⟨_, rfl, _, .ty "tuple", .type "tuple", .type "tuple", true, rfl, .ty _, tv, kit_ty (by decide +kernel), _, rfl, iteT ?_⟩
            refine ⟨_, rfl, _, .ty "tuple", .type "tuple", .type "tuple", true, rfl, .ty _, tv, kit_ty (by decide +kernel), _, rfl, _, .ty "tuple", .type "tuple", .type "tuple", true, rfl, .ty _, tu, kit_ty (by decide +kernel), rfl, _, rfl, decT ?_⟩
            refine ⟨_, rfl, _, .ty "list", .type "tuple", .type "list", false, rfl, .ty _, tv, kit_ty (by decide +kernel), _, rfl, _, .ty "list", .type "tuple", .type "list", false, rfl, .ty _, tu, kit_ty (by decide +kernel), rfl, _, rfl, decT ?_⟩
            have el : xs.length = ys.length := (dpAll_len ax).trans (dpAll_len ay).symm
            refine ⟨_, rfl, x, xs, rfl, .inr hx, _, rfl, y, ys, rfl, .inr hy, rfl, _, rfl, iteNS (by rw [el]) ?_⟩
            have hw2 := Bool.and_eq_true_iff.mp hw
            have hz : ds.length ≤ 1000 := of_decide_eq_true hw2.1
            have hzy : ys.length = ds.length := dpAll_len ay
            refine ⟨_, rfl, y, ys, rfl, .inr hy, _, rfl, by omega, by omega, for_it walk_range (fun i σ H' => ∃ a, σ = [some (.ref x), some (.ref y), a] ∧ H' = H) ⟨_, rfl, rfl⟩ (fun _ _ _ _ _ => trivial) ?_ ?_⟩
            · rintro i z σ Ha Hb hi ⟨a, rfl, rfl⟩ ⟨rfl, rfl⟩
              have hi' : i < ds.length := by omega
              have hg : ds[i]? = some ds[i] := List.getElem?_eq_getElem hi'
              obtain ⟨ux, hux, dux⟩ := dpAll_get ax hg
              obtain ⟨vy, hvy, dvy⟩ := dpAll_get ay hg
              refine ⟨_, rfl, _, rfl, same_seq (isT := true) hx hux ⟨_, rfl, _, rfl, same_seq (isT := true) hy hvy ⟨ux, vy, ds[i], rfl, dux, dvy, canAll_get hc hg, ?_, by omega, smallAll_get hw2.2 hg, _, rfl, iteF ⟨_, rfl, rfl⟩⟩⟩⟩
              have h1 := depthAll_get hg
              have h2 : PyData.depthAll ds + 1 < n + 1 := hd
              omega
            · rintro σ Ha ⟨a, rfl, rfl⟩
              exact q
      | none =>
        cases hu
        cases hv
        refine ⟨_, rfl, _, .ty "tuple", .type "NoneType", .type "tuple", false, rfl, .ty _, tv, kit_ty (by decide +kernel), _, rfl, iteF ⟨_, rfl, _, .ty "list", .type "NoneType", .type "list", false, rfl, .ty _, tv, kit_ty (by decide +kernel), _, rfl, iteF ?_⟩⟩
        refine ⟨_, rfl, _, .ty "bool", .type "NoneType", .type "bool", false, rfl, .ty _, tv, kit_ty (by decide +kernel), _, rfl, _, .ty "bool", .type "NoneType", .type "bool", false, rfl, .ty _, tu, kit_ty (by decide +kernel), rfl, _, rfl, decT ?_⟩
        refine ⟨_, rfl, _, .ty "int", .type "NoneType", .type "int", false, rfl, .ty _, tv, kit_ty (by decide +kernel), _, rfl, _, .ty "int", .type "NoneType", .type "int", false, rfl, .ty _, tu, kit_ty (by decide +kernel), rfl, _, rfl, decT ?_⟩
        refine ⟨_, rfl, _, .ty "str", .type "NoneType", .type "str", false, rfl, .ty _, tv, kit_ty (by decide +kernel), _, rfl, _, .ty "str", .type "NoneType", .type "str", false, rfl, .ty _, tu, kit_ty (by decide +kernel), rfl, _, rfl, decT ?_⟩
        refine ⟨_, rfl, _, rfl, .none, .none, .non, .non, shaped_mk hc (Nat.zero_le _), shaped_mk hc (Nat.zero_le _), ?_⟩
        rw [SeqAt.eqv_refl _ hc]
        exact q
      | bool b =>
        cases hu
        cases hv
        refine ⟨_, rfl, _, .ty "tuple", .type "bool", .type "tuple", false, rfl, .ty _, tv, kit_ty (by decide +kernel), _, rfl, iteF ⟨_, rfl, _, .ty "list", .type "bool", .type "list", false, rfl, .ty _, tv, kit_ty (by decide +kernel), _, rfl, iteF ?_⟩⟩
        refine ⟨_, rfl, _, .ty "bool", .type "bool", .type "bool", true, rfl, .ty _, tv, kit_ty (by decide +kernel), _, rfl, _, .ty "bool", .type "bool", .type "bool", true, rfl, .ty _, tu, kit_ty (by decide +kernel), rfl, _, rfl, decT ?_⟩
        refine ⟨_, rfl, _, .ty "int", .type "bool", .type "int", true, rfl, .ty _, tv, kit_ty (by decide +kernel), _, rfl, _, .ty "int", .type "bool", .type "int", true, rfl, .ty _, tu, kit_ty (by decide +kernel), rfl, _, rfl, decT ?_⟩
        refine ⟨_, rfl, _, .ty "str", .type "bool", .type "str", false, rfl, .ty _, tv, kit_ty (by decide +kernel), _, rfl, _, .ty "str", .type "bool", .type "str", false, rfl, .ty _, tu, kit_ty (by decide +kernel), rfl, _, rfl, decT ?_⟩
        refine ⟨_, rfl, _, rfl, (.bool b), (.bool b), (.bl _), (.bl _), shaped_mk hc (Nat.zero_le _), shaped_mk hc (Nat.zero_le _), ?_⟩
        rw [SeqAt.eqv_refl _ hc]
        exact q
      | int i =>
        cases hu
        cases hv
        refine ⟨_, rfl, _, .ty "tuple", .type "int", .type "tuple", false, rfl, .ty _, tv, kit_ty (by decide +kernel), _, rfl, iteF ⟨_, rfl, _, .ty "list", .type "int", .type "list", false, rfl, .ty _, tv, kit_ty (by decide +kernel), _, rfl, iteF ?_⟩⟩
        refine ⟨_, rfl, _, .ty "bool", .type "int", .type "bool", false, rfl, .ty _, tv, kit_ty (by decide +kernel), _, rfl, _, .ty "bool", .type "int", .type "bool", false, rfl, .ty _, tu, kit_ty (by decide +kernel), rfl, _, rfl, decT ?_⟩
        refine ⟨_, rfl, _, .ty "int", .type "int", .type "int", true, rfl, .ty _, tv, kit_ty (by decide +kernel), _, rfl, _, .ty "int", .type "int", .type "int", true, rfl, .ty _, tu, kit_ty (by decide +kernel), rfl, _, rfl, decT ?_⟩
        refine ⟨_, rfl, _, .ty "str", .type "int", .type "str", false, rfl, .ty _, tv, kit_ty (by decide +kernel), _, rfl, _, .ty "str", .type "int", .type "str", false, rfl, .ty _, tu, kit_ty (by decide +kernel), rfl, _, rfl, decT ?_⟩
        refine ⟨_, rfl, _, rfl, (.int i), (.int i), (.int _), (.int _), shaped_mk hc (Nat.zero_le _), shaped_mk hc (Nat.zero_le _), ?_⟩
        rw [SeqAt.eqv_refl _ hc]
        exact q
      | str z =>
        cases hu
        cases hv
        refine ⟨_, rfl, _, .ty "tuple", .type "str", .type "tuple", false, rfl, .ty _, tv, kit_ty (by decide +kernel), _, rfl, iteF ⟨_, rfl, _, .ty "list", .type "str", .type "list", false, rfl, .ty _, tv, kit_ty (by decide +kernel), _, rfl, iteF ?_⟩⟩
        refine ⟨_, rfl, _, .ty "bool", .type "str", .type "bool", false, rfl, .ty _, tv, kit_ty (by decide +kernel), _, rfl, _, .ty "bool", .type "str", .type "bool", false, rfl, .ty _, tu, kit_ty (by decide +kernel), rfl, _, rfl, decT ?_⟩
        refine ⟨_, rfl, _, .ty "int", .type "str", .type "int", false, rfl, .ty _, tv, kit_ty (by decide +kernel), _, rfl, _, .ty "int", .type "str", .type "int", false, rfl, .ty _, tu, kit_ty (by decide +kernel), rfl, _, rfl, decT ?_⟩
        refine ⟨_, rfl, _, .ty "str", .type "str", .type "str", true, rfl, .ty _, tv, kit_ty (by decide +kernel), _, rfl, _, .ty "str", .type "str", .type "str", true, rfl, .ty _, tu, kit_ty (by decide +kernel), rfl, _, rfl, decT ?_⟩
        refine ⟨_, rfl, _, rfl, (.str z), (.str z), (.str _), (.str _), shaped_mk hc (Nat.zero_le _), shaped_mk hc (Nat.zero_le _), ?_⟩
        rw [SeqAt.eqv_refl _ hc]
        exact q

/-! ### names -/
def SIGNS : Str := "abcdefghijklmnopqrstuvwxyz0123456789"
def isName (z : Str) : Bool := decide (1 ≤ z.length) && decide (z.length ≤ 12) && z.cps.toList.all fun c => decide (c ∈ SIGNS.cps.toList)
/-- a text of moderate length whose signs are signs -/
def okS (z : Str) : Prop := z.length ≤ 1000 ∧ PyData.strOk z = true
theorem okS.line {z : Str} (h : okS z) : z.length ≤ sizeLine := Nat.le_trans h.1 (by decide)
theorem menu {α : Type} (f : α → V) (zs : List α) {j : Int} (h0 : 0 ≤ j) (h1 : j < zs.length) : ∃ z, z ∈ zs ∧ atI (zs.map f) j = some (f z) := by
  have hj : j.toNat < zs.length := by omega
  refine ⟨zs[j.toNat], List.getElem_mem hj, atI_int h0 ?_⟩
  rw [List.getElem?_map, List.getElem?_eq_getElem hj]
  rfl
theorem take_toList {z : Str} {i c : Nat} (h : z.cps[i]? = some c) : z.cps.toList.take (i + 1) = z.cps.toList.take i ++ [c] := by
  rw [List.take_add_one, Array.getElem?_toList, h]
  rfl
def sp_is_name (K : PySem.W.Frag) : Sp := fun vs H Q _ => ∃ (z : Str), vs = [.str z] ∧ z.length ≤ sizeLine ∧ ∀ H', Same H H' → Q (.bl (isName z)) H'
theorem ok_is_name (T : Txt K mg) : FnOk P w K mg base CX0 1 T.f_is_name T.fd_is_name ["text"] (sp_is_name K) := by
  refine T.F_is_name.ok sc_is_name (fun vs H Q E h => ?_) (fun cdv A outer s H vs Q E hr h => ?_)
  · obtain ⟨z, rfl, _⟩ := h
    rfl
  · obtain ⟨z, rfl, hz, q⟩ := h
    refine ⟨_, (pss_one (ps_ret (pe_and (pe_chain op_le op_le pe_int (pe_callB (id := "len") call_len_str (by rfl) T.z_len (by decide +kernel) (pa_cons (pv 0) pa_nil)) pe_int) (pe_one (pe_callB (id := "all") (cr_all rfl) (by rfl) T.z_all (by decide +kernel) (pa_cons (pe_lc (own := [("sign", 1)]) (g := gName 1) rfl sc_is_name.nd (pi_str (pv 0)) (blkOk_by (own := [("sign", 1)]) (N := nm_is_name) (sc := defScope s_is_name) (by decide +kernel)) (fun _ _ _ _ _ => pg_name (i := 1) sc_is_name.nd rfl (Or.inl rfl)) (fun _ _ _ _ _ => pts_nil) (fun _ _ _ _ _ => (pe_cmpR op_inS (pv 1) (pe_glob (v := .str "abcdefghijklmnopqrstuvwxyz0123456789") (by rfl) T.g_NAME_SIGNS ⟨_, rfl⟩) (by rfl)))) pa_nil)))))), ?_⟩
    have fin : ∀ {b : Bool} {H'}, b = isName z → Same H H' → Q (.bl b) H' := fun e s => by rw [e]; exact q _ s
    refine ⟨_, rfl, z, rfl, hz, _, _, rfl, rfl, _, rfl, ite_dec (fun h1 => ?_) (fun h1 => ?_)⟩
    · refine ⟨_, _, rfl, rfl, _, rfl, ite_dec (fun h2 => ?_) (fun h2 => ?_)⟩
      · refine ⟨_, rfl, z, rfl, fun D hD => ?_⟩
        refine lc_it walk_str (fun i H' => Same H H' ∧ H' D = some (.lst (((z.cps.toList.take i).map fun c => decide (c ∈ SIGNS.cps.toList)).map V.bl))) ⟨same_upd hD, upd_same⟩ (fun _ _ _ _ => trivial) ?_ ?_
        · rintro i x Ha Hb hi ⟨e, hd⟩ ⟨rfl, c, hc, rfl⟩
          refine ⟨rfl, w_yes ⟨_, rfl, c, SIGNS, rfl, rfl, _, hd, ?_, e.mut hD, ?_⟩⟩
          · rw [List.length_map, List.length_map, List.length_take]
            refine Nat.lt_of_le_of_lt (Nat.min_le_left _ _) ?_
            have : z.cps.size ≤ sizeLine := hz
            omega
          · rw [upd_same, take_toList hc]
            simp
        · rintro Ha ⟨e, hd⟩
          refine ⟨D, _, rfl, SqL.of hd, fin ?_ e⟩
          have e0 : z.cps.toList.take z.cps.size = z.cps.toList := by
            rw [← Array.length_toList]
            exact List.take_length
          have h1' : 1 ≤ z.length := by omega
          have h2' : z.length ≤ 12 := by omega
          rw [e0]
          unfold isName
          rw [decide_eq_true h1', decide_eq_true h2', List.all_map]
          rfl
      · refine fin ?_ (Same.refl H)
        have h2' : ¬ z.length ≤ 12 := by omega
        unfold isName
        rw [decide_eq_false h2', Bool.and_false, Bool.false_and]
    · refine ⟨_, rfl, iteF (fin ?_ (Same.refl H))⟩
      have h1' : ¬ 1 ≤ z.length := by omega
      unfold isName
      rw [decide_eq_false h1', Bool.false_and, Bool.false_and]
def sp__law_fine (K : PySem.W.Frag) : Sp := fun vs H Q _ => ∃ (z : Str), vs = [.str z] ∧ okS z ∧ ∀ H', Same H H' → Q (.bl (isName z)) H'
def signsD (cs : List Nat) : List PyData := cs.map fun c => .str ⟨#[c]⟩
theorem dp_signs {K : PySem.W.Frag} {H : Hp} : ∀ cs : List Nat, DpAll K H (cs.map fun c => V.str ⟨#[c]⟩) (signsD cs)
  | [] => .nil
  | _ :: r => .cons (.str _) (dp_signs r)
theorem lay_signs : ∀ cs : List Nat, (∀ c ∈ cs, c < 0x110000) → PyData.canLayAll0 (signsD cs) = true
  | [], _ => rfl
  | c :: r, h => by
    show (PyData.strOk ⟨#[c]⟩ && PyData.canLayAll0 (signsD r)) = true
    rw [lay_signs r fun x hx => h x (List.mem_cons_of_mem _ hx), Bool.and_true]
    have := h c List.mem_cons_self
    simp [PyData.strOk, this]
theorem depth_signs : ∀ cs : List Nat, PyData.depthAll (signsD cs) = 0
  | [] => rfl
  | c :: r => by
    show max 0 (PyData.depthAll (signsD r)) = 0
    rw [depth_signs r]
    rfl
theorem str_nil {z : Str} : z = "" ↔ z.length = 0 := by
  constructor
  · rintro rfl
    decide +kernel
  · intro h
    obtain ⟨a⟩ := z
    have : a = #[] := Array.eq_empty_of_size_eq_zero h
    subst this
    decide +kernel
theorem ok__law_fine (T : Txt K mg) : FnOk P w K mg base CX0 1 T.f__law_fine T.fd__law_fine ["_law_text"] (sp__law_fine K) := by
  refine T.F__law_fine.ok sc__law_fine (fun vs H Q E h => ?_) (fun cdv A outer s H vs Q E hr h => ?_)
  · obtain ⟨z, rfl, _⟩ := h
    rfl
  · obtain ⟨z, rfl, hz, q⟩ := h
    refine ⟨_, (pss_cons (ps_if (PW.pt (pw_or (pt_cmpR op_eq (pv 0) pe_str (nomark _)) (pw_or1 (pt_cmpR op_gt (pe_callB (id := "len") call_len_str (by rfl) T.z_len (by decide +kernel) (pa_cons (pv 0) pa_nil)) pe_int (nomark _)))))
        (pss_one (ps_ret pe_bl))
        pss_nil)
      (pss_one (ps_ret (pe_cmpR (op_eqD hr.units) (pe_lc (own := [("_law_sign", 1)]) (g := gName 1) rfl sc__law_fine.nd (pi_str (pv 0)) (blkOk_by (own := [("_law_sign", 1)]) (N := nm__law_fine) (sc := defScope s__law_fine) (by decide +kernel)) (fun _ _ _ _ _ => pg_name (i := 1) sc__law_fine.nd rfl (Or.inl rfl)) (fun _ _ _ _ _ => (pts_one (pt_cmpR op_notInS (pv 1) pe_str (by rfl)))) (fun _ _ _ _ _ => (pv 1))) (pe_lst pa_nil) (nomark _))))), ?_⟩
    have fin : ∀ {b : Bool} {H'}, b = isName z → Same H H' → Q (.bl b) H' := fun e s => by rw [e]; exact q _ s
    refine ⟨_, rfl, rfl, _, rfl, ite_dec (fun h1 => ?_) (fun h1 => ?_)⟩
    · refine iteT (fin ?_ (Same.refl H))
      have h0 : z.length = 0 := str_nil.mp (V.str.inj h1)
      have h1' : ¬ 1 ≤ z.length := by omega
      unfold isName
      rw [decide_eq_false h1', Bool.false_and, Bool.false_and]
    · have h0 : z.length ≠ 0 := fun e => h1 (congrArg V.str (str_nil.mpr e))
      have h1' : 1 ≤ z.length := by omega
      refine ⟨_, rfl, z, rfl, hz.line, _, _, rfl, rfl, _, rfl, ite_dec (fun h2 => ?_) (fun h2 => ?_)⟩
      · refine fin ?_ (Same.refl H)
        have h2' : ¬ z.length ≤ 12 := by omega
        unfold isName
        rw [decide_eq_false h2', Bool.and_false, Bool.false_and]
      · have h2' : z.length ≤ 12 := by omega
        refine ⟨_, rfl, z, rfl, fun D hD => ?_⟩
        refine lc_it walk_str (fun i H' => Same H H' ∧ H' D = some (.lst (((z.cps.toList.take i).filter fun c => !decide (c ∈ SIGNS.cps.toList)).map fun c => V.str ⟨#[c]⟩))) ⟨same_upd hD, upd_same⟩ (fun _ _ _ _ => trivial) ?_ ?_
        · rintro i x Ha Hb hi ⟨e, hd⟩ ⟨rfl, c, hc, rfl⟩
          refine ⟨rfl, _, rfl, c, SIGNS, rfl, rfl, _, rfl, ?_⟩
          by_cases hm : c ∈ SIGNS.cps.toList
          · rw [decide_eq_true hm]
            refine iteF ⟨e, ?_⟩
            rw [take_toList hc, List.filter_append, hd, List.filter_cons_of_neg (by rw [decide_eq_true hm]; decide), List.filter_nil, List.append_nil]
          · rw [decide_eq_false hm]
            refine iteT ⟨_, rfl, _, hd, ?_, e.mut hD, ?_⟩
            · rw [List.length_map]
              refine Nat.lt_of_le_of_lt (List.length_filter_le _ _) ?_
              rw [List.length_take]
              refine Nat.lt_of_le_of_lt (Nat.min_le_left _ _) ?_
              have : z.cps.size ≤ 1000 := hz.1
              exact small1000 (by omega)
            · rw [upd_same, take_toList hc, List.filter_append, List.filter_cons_of_pos (by rw [decide_eq_false hm]; decide), List.filter_nil, List.map_append]
              rfl
        · rintro Ha ⟨e, hd⟩
          have e0 : z.cps.toList.take z.cps.size = z.cps.toList := by
            rw [← Array.length_toList]
            exact List.take_length
          rw [e0] at hd
          refine ⟨Nat.zero_le _, fun L hL => ?_⟩
          have hok : ∀ c ∈ z.cps.toList.filter (fun c => !decide (c ∈ SIGNS.cps.toList)), c < 0x110000 := fun c hc => by
            have h3 := (List.mem_filter.mp hc).1
            have h4 := hz.2
            unfold PyData.strOk at h4
            rw [Array.all_eq_true_iff_forall_mem] at h4
            exact of_decide_eq_true (h4 c (Array.mem_toList_iff.mp h3))
          refine ⟨.list (signsD _), .list [], .lst (SqL.of (same_upd hL D _ hd)) (dp_signs _), .lst (SqL.of upd_same) .nil, shaped_mk (lay_signs _ hok) ?_, rfl, fin ?_ (e.trans (same_upd hL))⟩
          · show PyData.depthAll (signsD _) + 1 ≤ 64
            rw [depth_signs]
            decide
          · unfold isName
            rw [decide_eq_true h1', decide_eq_true h2', Bool.and_true, Bool.true_and, PyData.eqv]
            cases hf : z.cps.toList.filter (fun c => !decide (c ∈ SIGNS.cps.toList)) with
            | nil =>
              show true = _
              symm
              rw [List.all_eq_true]
              intro c hc
              have := List.filter_eq_nil_iff.mp hf c hc
              simpa using this
            | cons c r =>
              show false = _
              symm
              have hm : c ∈ z.cps.toList.filter (fun c => !decide (c ∈ SIGNS.cps.toList)) := by rw [hf]; exact List.mem_cons_self
              obtain ⟨m1, m2⟩ := List.mem_filter.mp hm
              rw [Bool.eq_false_iff]
              intro hall
              have := List.all_eq_true.mp hall c m1
              rw [this] at m2
              cases m2

/-! ### items -/
theorem putK_len' {κ : Type} [DecidableEq κ] (c : List (κ × V)) (k : κ) (x : V) : (putK c k x).length ≤ c.length + 1 := by
  unfold putK
  split
  · rw [List.length_map]
    omega
  · rw [List.length_append, List.length_singleton]
    omega
structure Item where
  k : Str
  g : Str
  w : Int
  m : Int
def Item.ok (it : Item) : Prop := okS it.k ∧ okS it.g
def Item.vs (it : Item) : List V := [.str it.k, .str it.g, .int it.w, .int it.m]
def Item.d (it : Item) : PyData := .tuple [.str it.k, .str it.g, .int it.w, .int it.m]
def It (K : PySem.W.Frag) (H : Hp) (v : V) (it : Item) : Prop := it.ok ∧ ∃ a, v = .ref a ∧ SqT K H a it.vs
abbrev Its' (K : PySem.W.Frag) (H : Hp) : List V → List Item → Prop := Paired (fun v it => It K H v it)
theorem It.same {K : PySem.W.Frag} {H H' : Hp} {v : V} {it : Item} (e : Same H H') (h : It K H v it) : It K H' v it := by
  obtain ⟨o, a, rfl, h⟩ := h
  exact ⟨o, a, rfl, e.tupq h⟩
theorem sqT_stay' {K : PySem.W.Frag} {H H' : Hp} {a x : Addr} {xs ys : List V} (h : SqT K H a xs) (hx : H x = some (.lst ys)) (e : Ex [x] H H') : SqT K H' a xs := by
  rcases h with (h | ⟨u, h⟩) | h
  · exact .inl (.inl (e _ _ (nin fun z => by rw [z, hx] at h; cases h) h))
  · exact .inl (.inr ⟨u, e _ _ (nin fun z => by rw [z, hx] at h; cases h) h⟩)
  · exact .inr h
theorem It.stay {K : PySem.W.Frag} {H H' : Hp} {v : V} {it : Item} {x : Addr} {ys : List V} (h : It K H v it) (hx : H x = some (.lst ys)) (e : Ex [x] H H') : It K H' v it := by
  obtain ⟨o, a, rfl, h⟩ := h
  exact ⟨o, a, rfl, sqT_stay' h hx e⟩
theorem itsSame {K : PySem.W.Frag} {H H' : Hp} {xs : List V} {its : List Item} (e : Same H H') (h : Its' K H xs its) : Its' K H' xs its := Paired.mapP h fun _ _ z => z.same e
theorem itsStay {K : PySem.W.Frag} {H H' : Hp} {xs : List V} {its : List Item} {x : Addr} {ys : List V} (h : Its' K H xs its) (hx : H x = some (.lst ys)) (e : Ex [x] H H') : Its' K H' xs its := Paired.mapP h fun _ _ z => z.stay hx e
theorem itsGet {K : PySem.W.Frag} {H : Hp} : ∀ {xs : List V} {its : List Item}, Its' K H xs its → ∀ {i : Nat} {v : V}, xs[i]? = some v → ∃ it, its[i]? = some it ∧ It K H v it
  | _, _, .nil, i, v, e => by simp at e
  | _, _, .cons h t, 0, v, e => by
    have e1 := Option.some.inj e
    subst e1
    exact ⟨_, rfl, h⟩
  | _, _, .cons h t, i + 1, v, e => itsGet t (i := i) e
theorem itsAt {K : PySem.W.Frag} {H : Hp} {xs : List V} {its : List Item} (h : Its' K H xs its) {i : Nat} (hi : i < its.length) : ∃ v, xs[i]? = some v ∧ It K H v its[i] := by
  have hl : xs.length = its.length := Paired.length h
  have hx : xs[i]? = some (xs[i]'(by omega)) := List.getElem?_eq_getElem (by omega)
  obtain ⟨it, h1, h2⟩ := itsGet h hx
  rw [List.getElem?_eq_getElem hi] at h1
  have := Option.some.inj h1
  subst this
  exact ⟨_, hx, h2⟩
theorem itsSnoc {K : PySem.W.Frag} {H : Hp} {v : V} {it : Item} (q : It K H v it) : ∀ {xs : List V} {its : List Item}, Its' K H xs its → Its' K H (xs ++ [v]) (its ++ [it])
  | _, _, .nil => .cons q .nil
  | _, _, .cons h t => .cons h (itsSnoc q t)
theorem itsSet {K : PySem.W.Frag} {H : Hp} {v : V} {it : Item} (q : It K H v it) : ∀ {xs : List V} {its : List Item} (i : Nat), Its' K H xs its → Its' K H (xs.set i v) (its.set i it)
  | _, _, _, .nil => .nil
  | _, _, 0, .cons h t => .cons q t
  | _, _, i + 1, .cons h t => .cons h (itsSet q i t)
theorem It.dp {K : PySem.W.Frag} {H : Hp} {v : V} {it : Item} (h : It K H v it) : Dp K H v it.d := by
  obtain ⟨o, a, rfl, h⟩ := h
  exact .tup h (.cons (.str _) (.cons (.str _) (.cons (.int _) (.cons (.int _) .nil))))
theorem itsDp {K : PySem.W.Frag} {H : Hp} : ∀ {xs : List V} {its : List Item}, Its' K H xs its → DpAll K H xs (its.map Item.d)
  | _, _, .nil => .nil
  | _, _, .cons h t => .cons h.dp (itsDp t)
theorem itsLay : ∀ {its : List Item}, (∀ it ∈ its, it.ok) → PyData.canLayAll0 (its.map Item.d) = true
  | [], _ => rfl
  | it :: r, h => by
    obtain ⟨h1, h2⟩ := h it List.mem_cons_self
    show ((PyData.strOk it.k && (PyData.strOk it.g && true)) && PyData.canLayAll0 (r.map Item.d)) = true
    rw [itsLay fun x hx => h x (List.mem_cons_of_mem _ hx), h1.2, h2.2]
    rfl
theorem itsDepth : ∀ its : List Item, PyData.depthAll (its.map Item.d) ≤ 1
  | [] => by decide
  | it :: r => by
    have := itsDepth r
    show max 1 (PyData.depthAll (r.map Item.d)) ≤ 1
    omega
theorem itsOk {K : PySem.W.Frag} {H : Hp} {xs : List V} {its : List Item} (h : Its' K H xs its) : ∀ it ∈ its, it.ok := by
  intro it hm
  obtain ⟨i, hi, rfl⟩ := List.mem_iff_getElem.mp hm
  obtain ⟨v, _, h2⟩ := itsAt h hi
  exact h2.1
theorem itsShaped {its : List Item} (h : ∀ it ∈ its, it.ok) : SeqAt.shaped (.list (its.map Item.d)) = true := shaped_mk (itsLay h) (by
  have := itsDepth its
  show PyData.depthAll (its.map Item.d) + 1 ≤ 64
  omega)
/-! what the first fault of an item is -/
def vO : Option Str → V
  | none => .non
  | some z => .str z
def reason (it : Item) : Option Str :=
  if isName it.k = false then some "key" else if isName it.g = false then some "group"
  else if it.w < 1 ∨ it.w > 1000 then some "weight" else if it.m < -1000 ∨ it.m > 1000 then some "amount" else none
theorem reason_ok {it : Item} {r : Str} (h : reason it = some r) : PyData.strOk r = true := by
  unfold reason at h
  split at h
  · cases h; decide +kernel
  · split at h
    · cases h; decide +kernel
    · split at h
      · cases h; decide +kernel
      · split at h
        · cases h; decide +kernel
        · cases h
def faultAt (its : List Item) (i : Nat) : Option Str := match its[i]? with
  | none => none
  | some it => match reason it with
    | some r => some r
    | none => if it.k ∈ (its.take i).map Item.k then some "taken" else none
theorem faultAt_ok {its : List Item} {i : Nat} {r : Str} (h : faultAt its i = some r) : PyData.strOk r = true := by
  unfold faultAt at h
  split at h
  · cases h
  · split at h
    · rename_i it r' hr
      cases h
      exact reason_ok hr
    · split at h
      · cases h; decide +kernel
      · cases h
/-- the told data: the first fault -/
def FaultD (its : List Item) (d : PyData) : Prop := (∃ (i : Nat) (r : Str), (∀ j, j < i → faultAt its j = none) ∧ faultAt its i = some r ∧ d = .tuple [.int i, .str r]) ∨ ((∀ j, j < its.length → faultAt its j = none) ∧ d = .none)
theorem faultAt_lt {its : List Item} {i : Nat} {r : Str} (h : faultAt its i = some r) : i < its.length := by
  rcases Nat.lt_or_ge i its.length with z | z
  · exact z
  · unfold faultAt at h
    rw [List.getElem?_eq_none z] at h
    cases h
theorem FaultD.uniq {its : List Item} {d e : PyData} (h : FaultD its d) (h' : FaultD its e) : d = e := by
  rcases h with ⟨i, r, h1, h2, rfl⟩ | ⟨h1, rfl⟩
  · rcases h' with ⟨j, t, g1, g2, rfl⟩ | ⟨g1, rfl⟩
    · have : i = j := by
        rcases Nat.lt_trichotomy i j with z | z | z
        · rw [g1 i z] at h2; cases h2
        · exact z
        · rw [h1 j z] at g2; cases g2
      subst this
      rw [h2] at g2
      cases g2
      rfl
    · rw [g1 i (faultAt_lt h2)] at h2
      cases h2
  · rcases h' with ⟨j, t, g1, g2, rfl⟩ | ⟨g1, rfl⟩
    · rw [h1 j (faultAt_lt g2)] at g2
      cases g2
    · rfl
theorem FaultD.lay {its : List Item} {d : PyData} (h : FaultD its d) : d.canLay0 = true ∧ d.depth < 3 ∧ smallD d = true := by
  rcases h with ⟨i, r, h1, h2, rfl⟩ | ⟨h1, rfl⟩
  · refine ⟨?_, by show 1 < 3; decide, rfl⟩
    show (true && (PyData.strOk r && true)) = true
    rw [faultAt_ok h2]
    rfl
  · exact ⟨rfl, by decide, rfl⟩
def sp_reason (K : PySem.W.Frag) : Sp := fun vs H Q _ => ∃ (v : V) (it : Item), vs = [v] ∧ It K H v it ∧ ∀ H', Same H H' → Q (vO (reason it)) H'
def sp_fault_of (K : PySem.W.Frag) : Sp := sp_reason K
def sp__law_reason (K : PySem.W.Frag) : Sp := sp_reason K
theorem ok_fault_of (T : Txt K mg) : FnOk P w K mg base CX0 2 T.f_fault_of T.fd_fault_of ["row"] (sp_fault_of K) := by
  refine T.F_fault_of.ok sc_fault_of (fun vs H Q E h => ?_) (fun cdv A outer s H vs Q E hr h => ?_)
  · obtain ⟨v, it, rfl, _⟩ := h
    rfl
  · obtain ⟨v, it, rfl, ⟨⟨ok1, ok2⟩, a, rfl, hT⟩, q⟩ := h
    refine ⟨_, (pss_cons (ps_asg (pv 0) (pg_tup rfl (pgs_cons (pg_name (i := 1) sc_fault_of.nd rfl (Or.inl rfl)) (pgs_cons (pg_name (i := 2) sc_fault_of.nd rfl (Or.inl rfl)) (pgs_cons (pg_name (i := 3) sc_fault_of.nd rfl (Or.inl rfl)) (pgs_cons (pg_name (i := 4) sc_fault_of.nd rfl (Or.inl rfl)) pgs_nil))))))
      (pss_cons (ps_if (pt_not (pt_val (pe_call (ok_is_name T) (hr.mono (by decide)) (by rfl) T.g_is_name T.F_is_name.kp T.b_is_name .nil pass0 (pa_cons (pv 1) pa_nil))))
        (pss_one (ps_ret pe_str))
        pss_nil)
      (pss_cons (ps_if (pt_not (pt_val (pe_call (ok_is_name T) (hr.mono (by decide)) (by rfl) T.g_is_name T.F_is_name.kp T.b_is_name .nil pass0 (pa_cons (pv 2) pa_nil))))
        (pss_one (ps_ret pe_str))
        pss_nil)
      (pss_cons (ps_if (pt_not (pt_chain op_le op_le pe_int (pv 3) (pe_glob (v := .int (1000)) (by rfl) T.g_MOST_WEIGHT ⟨_, rfl⟩)))
        (pss_one (ps_ret pe_str))
        pss_nil)
      (pss_cons (ps_if (pt_not (pt_chain op_le op_le (pe_un un_neg (pe_glob (v := .int (1000)) (by rfl) T.g_MOST_AMOUNT ⟨_, rfl⟩)) (pv 4) (pe_glob (v := .int (1000)) (by rfl) T.g_MOST_AMOUNT ⟨_, rfl⟩)))
        (pss_one (ps_ret pe_str))
        pss_nil)
      (pss_one (ps_ret pe_non))))))), ?_⟩
    have fin : ∀ {v : V} {H'}, v = vO (reason it) → Same H H' → Q v H' := fun e s => by rw [e]; exact q _ s
    refine ⟨_, rfl, a, _, rfl, hT, rfl, _, _, rfl, _, _, rfl, _, _, rfl, _, _, rfl, rfl, ?_⟩
    refine ⟨_, rfl, it.k, rfl, ok1.line, fun H1 e1 => ⟨_, rfl, ?_⟩⟩
    cases hk : isName it.k with
    | false => exact iteT (fin (by unfold reason; rw [if_pos hk]; rfl) e1)
    | true =>
      refine iteF ⟨_, rfl, it.g, rfl, ok2.line, fun H2 e2 => ⟨_, rfl, ?_⟩⟩
      have e12 := e1.trans e2
      have nk : ¬ isName it.k = false := by rw [hk]; exact fun z => nomatch z
      cases hg : isName it.g with
      | false => exact iteT (fin (by unfold reason; rw [if_neg nk, if_pos hg]; rfl) e12)
      | true =>
        have ng : ¬ isName it.g = false := by rw [hg]; exact fun z => nomatch z
        refine iteF ?_
        have rest : (it.w < 1 ∨ it.w > 1000 → vO (reason it) = .str "weight") ∧ (¬ (it.w < 1 ∨ it.w > 1000) → (it.m < -1000 ∨ it.m > 1000 → vO (reason it) = .str "amount") ∧ (¬ (it.m < -1000 ∨ it.m > 1000) → vO (reason it) = .non)) := by
          unfold reason
          rw [if_neg nk, if_neg ng]
          refine ⟨fun h => by rw [if_pos h]; rfl, fun h => ?_⟩
          rw [if_neg h]
          exact ⟨fun h => by rw [if_pos h]; rfl, fun h => by rw [if_neg h]; rfl⟩
        have amt : ¬ (it.w < 1 ∨ it.w > 1000) → _ := fun h => rest.2 h
        refine ⟨_, rfl, _, _, rfl, rfl, _, rfl, ite_dec (fun h1 => ?_) (fun h1 => ?_)⟩
        · refine ⟨_, _, rfl, rfl, _, rfl, ?_⟩
          by_cases h2 : it.w ≤ 1000
          · rw [decide_eq_true h2]
            have r2 := rest.2 (by omega)
            refine iteF ⟨_, rfl, _, rfl, _, _, rfl, rfl, _, rfl, ite_dec (fun h3 => ?_) (fun h3 => ?_)⟩
            · refine ⟨_, _, rfl, rfl, _, rfl, ?_⟩
              by_cases h4 : it.m ≤ 1000
              · rw [decide_eq_true h4]
                exact iteF (fin (r2.2 (by omega)).symm e12)
              · rw [decide_eq_false h4]
                exact iteT (fin (r2.1 (by omega)).symm e12)
            · exact ⟨_, rfl, iteT (fin (r2.1 (by omega)).symm e12)⟩
          · rw [decide_eq_false h2]
            exact iteT (fin (rest.1 (by omega)).symm e12)
        · exact ⟨_, rfl, iteT (fin (rest.1 (by omega)).symm e12)⟩
theorem ok__law_reason (T : Txt K mg) : FnOk P w K mg base CX0 2 T.f__law_reason T.fd__law_reason ["_law_row"] (sp__law_reason K) := by
  refine T.F__law_reason.ok sc__law_reason (fun vs H Q E h => ?_) (fun cdv A outer s H vs Q E hr h => ?_)
  · obtain ⟨v, it, rfl, _⟩ := h
    rfl
  · obtain ⟨v, it, rfl, ⟨⟨ok1, ok2⟩, a, rfl, hT⟩, q⟩ := h
    refine ⟨_, (pss_cons (ps_if (pt_not (pt_val (pe_call (ok__law_fine T) (hr.mono (by decide)) (by rfl) T.g__law_fine T.F__law_fine.kp T.b__law_fine .nil pass0 (pa_cons (pe_ix ix_tup (pv 0) pe_int (fun _ _ => rfl)) pa_nil))))
        (pss_one (ps_ret pe_str))
        pss_nil)
      (pss_cons (ps_if (pt_not (pt_val (pe_call (ok__law_fine T) (hr.mono (by decide)) (by rfl) T.g__law_fine T.F__law_fine.kp T.b__law_fine .nil pass0 (pa_cons (pe_ix ix_tup (pv 0) pe_int (fun _ _ => rfl)) pa_nil))))
        (pss_one (ps_ret pe_str))
        pss_nil)
      (pss_cons (ps_if (PW.pt (pw_or (pt_cmpR op_lt (pe_ix ix_tup (pv 0) pe_int (fun _ _ => rfl)) pe_int (nomark _)) (pw_or1 (pt_cmpR op_gt (pe_ix ix_tup (pv 0) pe_int (fun _ _ => rfl)) pe_int (nomark _)))))
        (pss_one (ps_ret pe_str))
        pss_nil)
      (pss_cons (ps_if (PW.pt (pw_or (pt_cmpR op_lt (pe_ix ix_tup (pv 0) pe_int (fun _ _ => rfl)) (pe_un un_neg pe_int) (nomark _)) (pw_or1 (pt_cmpR op_gt (pe_ix ix_tup (pv 0) pe_int (fun _ _ => rfl)) pe_int (nomark _)))))
        (pss_one (ps_ret pe_str))
        pss_nil)
      (pss_one (ps_ret pe_non)))))), ?_⟩
    have fin : ∀ {v : V} {H'}, v = vO (reason it) → Same H H' → Q v H' := fun e s => by rw [e]; exact q _ s
    refine ⟨_, rfl, a, _, 0, _, rfl, rfl, hT, rfl, it.k, rfl, ok1, fun H1 e1 => ⟨_, rfl, ?_⟩⟩
    cases hk : isName it.k with
    | false => exact iteT (fin (by unfold reason; rw [if_pos hk]; rfl) e1)
    | true =>
      refine iteF ⟨_, rfl, a, _, 1, _, rfl, rfl, e1.tupq hT, rfl, it.g, rfl, ok2, fun H2 e2 => ⟨_, rfl, ?_⟩⟩
      have e12 := e1.trans e2
      have hT2 := e12.tupq hT
      have nk : ¬ isName it.k = false := by rw [hk]; exact fun z => nomatch z
      cases hg : isName it.g with
      | false => exact iteT (fin (by unfold reason; rw [if_neg nk, if_pos hg]; rfl) e12)
      | true =>
        have ng : ¬ isName it.g = false := by rw [hg]; exact fun z => nomatch z
        refine iteF ?_
        have rest : (it.w < 1 ∨ it.w > 1000 → vO (reason it) = .str "weight") ∧ (¬ (it.w < 1 ∨ it.w > 1000) → (it.m < -1000 ∨ it.m > 1000 → vO (reason it) = .str "amount") ∧ (¬ (it.m < -1000 ∨ it.m > 1000) → vO (reason it) = .non)) := by
          unfold reason
          rw [if_neg nk, if_neg ng]
          refine ⟨fun h => by rw [if_pos h]; rfl, fun h => ?_⟩
          rw [if_neg h]
          exact ⟨fun h => by rw [if_pos h]; rfl, fun h => by rw [if_neg h]; rfl⟩
        refine ⟨_, rfl, a, _, 2, _, rfl, rfl, hT2, rfl, _, _, rfl, rfl, _, rfl, ite_dec (fun h1 => ?_) (fun h1 => ?_)⟩
        · exact iteT (fin (rest.1 (.inl h1)).symm e12)
        · refine ⟨_, rfl, a, _, 2, _, rfl, rfl, hT2, rfl, _, _, rfl, rfl, _, rfl, ite_dec (fun h2 => ?_) (fun h2 => ?_)⟩
          · exact fin (rest.1 (.inr h2)).symm e12
          · have r2 := rest.2 (by omega)
            refine ⟨_, rfl, a, _, 3, _, rfl, rfl, hT2, rfl, _, rfl, _, _, rfl, rfl, _, rfl, ite_dec (fun h3 => ?_) (fun h3 => ?_)⟩
            · exact iteT (fin (r2.1 (.inl h3)).symm e12)
            · refine ⟨_, rfl, a, _, 3, _, rfl, rfl, hT2, rfl, _, _, rfl, rfl, _, rfl, ite_dec (fun h4 => ?_) (fun h4 => ?_)⟩
              · exact fin (r2.1 (.inr h4)).symm e12
              · exact fin (r2.2 (by omega)).symm e12
def sp_is_item (K : PySem.W.Frag) : Sp := fun vs H Q _ => ∃ (v : V) (it : Item), vs = [v] ∧ It K H v it ∧ ∀ H', Same H H' → Q (.bl (decide (vO (reason it) = .non))) H'
theorem ok_is_item (T : Txt K mg) : FnOk P w K mg base CX0 3 T.f_is_item T.fd_is_item ["row"] (sp_is_item K) := by
  refine T.F_is_item.ok sc_is_item (fun vs H Q E h => ?_) (fun cdv A outer s H vs Q E hr h => ?_)
  · obtain ⟨v, it, rfl, _⟩ := h
    rfl
  · obtain ⟨v, it, rfl, hI, q⟩ := h
    refine ⟨_, (pss_one (ps_ret (pe_cmpR op_isN (pe_call (ok_fault_of T) (hr.mono (by decide)) (by rfl) T.g_fault_of T.F_fault_of.kp T.b_fault_of .nil pass0 (pa_cons (pv 0) pa_nil)) pe_non (nomark _)))), ?_⟩
    exact ⟨_, rfl, v, it, rfl, hI, fun H1 e1 => ⟨rfl, q H1 e1⟩⟩
def sp_check_items (K : PySem.W.Frag) : Sp := fun vs H Q _ => ∃ (p : Addr) (xs : List V) (its : List Item), vs = [.ref p] ∧ SqL K H p xs ∧ Its' K H xs its ∧ its.length ≤ 1000 ∧ ∀ v H' d, Same H H' → FaultD its d → Dp K H' v d → Q v H'
theorem vO_none {o : Option Str} : decide (vO o = V.non) = o.isNone := by
  cases o with
  | none => rfl
  | some z => rfl
theorem ok_check_items (T : Txt K mg) : FnOk P w K mg base CX0 3 T.f_check_items T.fd_check_items ["rows"] (sp_check_items K) := by
  refine T.F_check_items.ok sc_check_items (fun vs H Q E h => ?_) (fun cdv A outer s H vs Q E hr h => ?_)
  · obtain ⟨p, xs, its, rfl, _⟩ := h
    rfl
  · obtain ⟨p, xs, its, rfl, hS, hI, hlen, q⟩ := h
    refine ⟨_, (pss_cons (ps_set (i := 1) sc_check_items.nd rfl (Or.inl rfl) pe_dnewK)
      (pss_cons (ps_for PassesOwn.never rfl (pi_enum (by rfl) T.z_enumerate (pa_cons (pv 0) pa_nil)) (pg_tup rfl (pgs_cons (pg_name (i := 2) sc_check_items.nd rfl (Or.inl rfl)) (pgs_cons (pg_name (i := 3) sc_check_items.nd rfl (Or.inl rfl)) pgs_nil)))
        (pss_cons (ps_set (i := 4) sc_check_items.nd rfl (Or.inl rfl) (pe_call (ok_fault_of T) (hr.mono (by decide)) (by rfl) T.g_fault_of T.F_fault_of.kp T.b_fault_of .nil pass0 (pa_cons (pv 3) pa_nil)))
        (pss_cut (ps_if (PW.pt (pw_and (pt_cmpR op_isN (pv 4) pe_non (nomark _)) (pw_and1 (pt_cmp (pc_din (hu_of hr) (pe_ix ix_tup (pv 3) pe_int (fun _ _ => rfl)) (pv 1))))))
          (pss_one (ps_set (i := 4) sc_check_items.nd rfl (Or.inl rfl) pe_str))
          pss_nil)
        (pss_cons (ps_if (pt_cmpR op_notN (pv 4) pe_non (nomark _))
          (pss_one (ps_ret (pe_tup (pa_cons (pv 2) (pa_cons (pv 4) pa_nil)))))
          pss_nil)
        (pss_one (ps_dput (hu_of hr) (pv 1) (pe_ix ix_tup (pv 3) pe_int (fun _ _ => rfl)) pe_bl rfl))))))
      (pss_one (ps_ret pe_non)))), ?_⟩
    intro d hd
    have hxl : xs.length = its.length := Paired.length hI
    refine ⟨_, rfl, p, _, rfl, (same_upd hd).seq hS, for_it walk_enum (fun i σ H' => ∃ (x2 x3 x4 : Option V) (kvs : List (Key × V)), σ = [some (.ref p), some (.ref d), x2, x3, x4] ∧ Same H H' ∧ H' d = some (.dK kvs) ∧ kvs.length ≤ i ∧ (∀ z : Str, (valV kvs (.inr z)).isSome = decide (z ∈ (its.take i).map Item.k)) ∧ ∀ j, j < i → faultAt its j = none)
      ⟨_, _, _, [], rfl, same_upd hd, upd_same, Nat.zero_le _, fun z => by simp [valV], fun j hj => absurd hj (Nat.not_lt_zero _)⟩ (fun _ _ _ _ ⟨_, _, _, _, _, e, _⟩ => e.seq hS) ?_ ?_⟩
    · rintro i v σ Ha Hb hi ⟨x2, x3, x4, kvs, rfl, e, hk, hkl, hkv, hf⟩ ⟨t, y1, y2, rfl, ht, rfl, h1, h2⟩
      cases h1
      obtain ⟨it, hit, hIt⟩ := itsGet hI h2
      have e2 : Same H (upd Ha t (.tup [.int (i : Nat), y2])) := e.trans (same_upd ht)
      obtain ⟨iok, ia, rfl, iT⟩ := hIt.same e2
      have ndt : d ≠ t := ne_of_none hk ht
      have hk2 : upd Ha t (.tup [.int (i : Nat), .ref ia]) d = some (.dK kvs) := by rw [upd_ne ndt]; exact hk
      refine ⟨t, _, rfl, SqT.of upd_same, rfl, _, _, rfl, _, _, rfl, rfl, ?_⟩
      refine ⟨_, rfl, _, it, rfl, ⟨iok, ia, rfl, iT⟩, fun H3 e3 => ?_⟩
      have e23 := e2.trans e3
      have hk3 := e3 _ _ hk2
      refine ⟨fun σ' H' => H' = H3 ∧ σ' = [some (.ref p), some (.ref d), some (.int (i : Nat)), some (.ref ia), some (vO (faultAt its i))], ?_, ?_⟩
      · refine ⟨_, rfl, rfl, _, rfl, ?_⟩
        have hfa : faultAt its i = match reason it with | some r => some r | none => if it.k ∈ (its.take i).map Item.k then some "taken" else none := by
          unfold faultAt
          rw [hit]
        cases hr2 : reason it with
        | some r =>
          rw [hr2] at hfa
          refine iteF ⟨rfl, ?_⟩
          rw [hfa]
          rfl
        | none =>
          rw [hr2] at hfa
          refine iteT ⟨_, rfl, ia, _, 0, _, rfl, rfl, e3.tupq iT, rfl, _, rfl, d, _, rfl, DGet.k (k := Sum.inr it.k) hk3, _, rfl, ?_⟩
          rw [hkv]
          refine ite_dec (fun hm => ?_) (fun hm => ?_)
          · refine ⟨rfl, ?_⟩
            rw [hfa, if_pos hm]
            rfl
          · refine ⟨rfl, ?_⟩
            rw [hfa, if_neg hm]
            rfl
      · rintro σ' H' ⟨rfl, rfl⟩
        refine ⟨_, rfl, rfl, _, rfl, ?_⟩
        cases hfi : faultAt its i with
        | some r =>
          refine iteT ⟨_, rfl, _, rfl, by show 2 ≤ sizeLine; decide, fun o ho => ?_⟩
          refine q _ _ _ (e23.trans (same_upd ho)) (.inl ⟨i, r, hf, hfi, rfl⟩) (.tup (SqT.of upd_same) (.cons (.int _) (.cons (.str _) .nil)))
        | none =>
          refine iteF ⟨_, rfl, _, rfl, ia, _, 0, _, rfl, rfl, e3.tupq iT, rfl, d, _, rfl, DPut.k (k := Sum.inr it.k) hk3 (Nat.lt_of_le_of_lt hkl (Nat.lt_of_lt_of_le (hxl ▸ hi) (Nat.le_trans hlen (by decide)))), ?_⟩
          refine ⟨_, _, _, putK kvs (Sum.inr it.k) (.bl true), rfl, e23.mut hd, upd_same, ?_, fun z => ?_, fun j hj => ?_⟩
          · have := putK_len' kvs (Sum.inr it.k) (.bl true)
            omega
          · rw [valV_put, List.take_add_one, hit]
            by_cases hz : z = it.k
            · subst hz
              rw [if_pos rfl]
              simp
            · rw [if_neg (fun h => hz (Sum.inr.inj h)), hkv]
              simp [hz]
          · rcases Nat.lt_or_ge j i with z | z
            · exact hf j z
            · have : j = i := by omega
              subst this
              exact hfi
    · rintro σ Ha ⟨x2, x3, x4, kvs, rfl, e, hk, hkl, hkv, hf⟩
      exact q .non Ha .none e (.inr ⟨fun j hj => hf j (by omega), rfl⟩) .non

/-! ### the law's items -/
theorem its_dr {K : PySem.W.Frag} {H H' : Hp} {xs : List V} {its : List Item} {L : Addr} (h : Its' K H xs its) (d : Dr H L) (e : Ex [L] H H') : Its' K H' xs its := by
  obtain ⟨ns, d⟩ := d
  exact itsStay h d e
theorem Dr.put {H : Hp} {L x : Addr} {o : HO} (d : Dr H L) (n : L ≠ x) : Dr (L2.upd H x o) L := d.at ex_put n
def sp__law_name (K : PySem.W.Frag) : Sp := fun vs H Q _ => ∃ (L : Addr), vs = [.ref L] ∧ Dr H L ∧ ∀ z H', okS z → Ex [L] H H' → Dr H' L → Q (.str z) H'
theorem ok__law_name (T : Txt K mg) : FnOk P w K mg base CX0 2 T.f__law_name T.fd__law_name ["_law_draws_here"] (sp__law_name K) := by
  refine T.F__law_name.ok sc__law_name (fun vs H Q E h => ?_) (fun cdv A outer s H vs Q E hr h => ?_)
  · obtain ⟨L, rfl, _⟩ := h
    rfl
  · obtain ⟨L, rfl, hD, q⟩ := h
    refine ⟨_, (pss_one (ps_ret (pe_ix ix_list (pe_lst (pa_cons pe_str (pa_cons pe_str (pa_cons pe_str (pa_cons pe_str (pa_cons pe_str (pa_cons pe_str (pa_cons pe_str (pa_cons pe_str (pa_cons pe_str (pa_cons pe_str pa_nil))))))))))) (pe_call (ok__law_take T) (hr.mono (by decide)) (by rfl) T.g__law_take T.F__law_take.kp T.b__law_take .nil pass0 (pa_cons (pv 0) (pa_cons pe_int pa_nil))) (fun _ _ => rfl)))), ?_⟩
    refine ⟨by show 10 ≤ sizeLine; decide, fun p hp => ?_⟩
    have npL : p ≠ L := hD.ne hp
    refine ⟨_, rfl, L, 10, rfl, by decide, hD.same (same_upd hp), fun j H2 j0 j1 e2 d2 => ?_⟩
    obtain ⟨z, hz, ha⟩ := menu V.str ["a", "b7", "k", "q", "zz", "9", "abcdefghijkl", "or", "m2", "weight"] j0 j1
    have hok : ∀ z ∈ (["a", "b7", "k", "q", "zz", "9", "abcdefghijkl", "or", "m2", "weight"] : List Str), z.length ≤ 1000 ∧ PyData.strOk z = true := by decide +kernel
    exact ⟨p, _, j, _, rfl, rfl, SqL.of (e2.at (nin npL) upd_same), ha, q z H2 (hok z hz) ((Ex.of (same_upd hp)).trans e2) d2⟩
theorem inV_str : ∀ (z : Str) (ks : List Str), inV (.str z) (ks.map V.str) = decide (z ∈ ks)
  | z, [] => rfl
  | z, k :: r => by
    show (eqV (.str k) (.str z) || inV (.str z) (r.map V.str)) = _
    rw [inV_str z r]
    have e : eqV (.str k) (.str z) = decide (k = z) := rfl
    rw [e]
    by_cases h1 : k = z
    · subst h1; simp
    · by_cases h2 : z ∈ r
      · simp [h2]
      · have h3 : ¬ z = k := fun e => h1 e.symm
        simp [h1, h2, h3]
theorem flat_strs : ∀ ks : List Str, (ks.map V.str).all flatV = true
  | [] => rfl
  | _ :: r => by
    show (true && (r.map V.str).all flatV) = true
    rw [flat_strs r]
    rfl
def sp__law_items (K : PySem.W.Frag) : Sp := fun vs H Q _ => ∃ (L : Addr) (m : Int), vs = [.ref L, .int m] ∧ 0 ≤ m ∧ m ≤ 100 ∧ Dr H L ∧ ∀ p H' xs its, H p = none → Ex [L] H H' → Dr H' L → H' p = some (.lst xs) → Its' K H' xs its → its.length ≤ m → Q (.ref p) H'
theorem ok__law_items (T : Txt K mg) : FnOk P w K mg base CX0 3 T.f__law_items T.fd__law_items ["_law_draws_here", "_law_most"] (sp__law_items K) := by
  refine T.F__law_items.ok sc__law_items (fun vs H Q E h => ?_) (fun cdv A outer s H vs Q E hr h => ?_)
  · obtain ⟨L, m, rfl, _⟩ := h
    rfl
  · obtain ⟨L, m, rfl, hm0, hm, hD, q⟩ := h
    refine ⟨_, (pss_cons (ps_set (i := 2) sc__law_items.nd rfl (Or.inl rfl) (pe_lst pa_nil))
      (pss_cons (ps_set (i := 3) sc__law_items.nd rfl (Or.inl rfl) (pe_lst pa_nil))
      (pss_cons (ps_for PassesOwn.never rfl (pi_range1 (by rfl) T.z_range (pa_cons (pe_call (ok__law_take T) (hr.mono (by decide)) (by rfl) T.g__law_take T.F__law_take.kp T.b__law_take .nil pass0 (pa_cons (pv 0) (pa_cons (pe_op op_add (pv 1) pe_int) pa_nil))) pa_nil)) (pg_name (i := 4) sc__law_items.nd rfl (Or.inl rfl))
        (pss_cons (ps_set (i := 5) sc__law_items.nd rfl (Or.inl rfl) (pe_call (ok__law_name T) (hr.mono (by decide)) (by rfl) T.g__law_name T.F__law_name.kp T.b__law_name .nil pass0 (pa_cons (pv 0) pa_nil)))
        (pss_cons (ps_set (i := 6) sc__law_items.nd rfl (Or.inl rfl) (pe_ix ix_list (pe_lst (pa_cons (pe_op op_add pe_int (pe_call (ok__law_take T) (hr.mono (by decide)) (by rfl) T.g__law_take T.F__law_take.kp T.b__law_take .nil pass0 (pa_cons (pv 0) (pa_cons pe_int pa_nil)))) (pa_cons pe_int (pa_cons (pe_op op_add pe_int (pe_call (ok__law_take T) (hr.mono (by decide)) (by rfl) T.g__law_take T.F__law_take.kp T.b__law_take .nil pass0 (pa_cons (pv 0) (pa_cons pe_int pa_nil)))) pa_nil)))) (pe_ix ix_list (pe_lst (pa_cons pe_int (pa_cons pe_int (pa_cons pe_int (pa_cons pe_int pa_nil))))) (pe_call (ok__law_take T) (hr.mono (by decide)) (by rfl) T.g__law_take T.F__law_take.kp T.b__law_take .nil pass0 (pa_cons (pv 0) (pa_cons pe_int pa_nil))) (fun _ _ => rfl)) (fun _ _ => rfl)))
        (pss_cons (ps_set (i := 7) sc__law_items.nd rfl (Or.inl rfl) (pe_ix ix_list (pe_lst (pa_cons (pe_op op_sub (pe_call (ok__law_take T) (hr.mono (by decide)) (by rfl) T.g__law_take T.F__law_take.kp T.b__law_take .nil pass0 (pa_cons (pv 0) (pa_cons pe_int pa_nil))) pe_int) (pa_cons (pe_un un_neg pe_int) (pa_cons pe_int (pa_cons pe_int pa_nil))))) (pe_ix ix_list (pe_lst (pa_cons pe_int (pa_cons pe_int (pa_cons pe_int (pa_cons pe_int (pa_cons pe_int pa_nil)))))) (pe_call (ok__law_take T) (hr.mono (by decide)) (by rfl) T.g__law_take T.F__law_take.kp T.b__law_take .nil pass0 (pa_cons (pv 0) (pa_cons pe_int pa_nil))) (fun _ _ => rfl)) (fun _ _ => rfl)))
        (pss_one (ps_if (pt_cmpR op_notIn_seq (pv 5) (pv 3) (by rfl))
          (pss_cons (ps_expr (pe_bm PySem.F.plainAttrs_list PySem.F.slot_list_append PySem.F.type_list_append mt_append (pv 3) (pa_cons (pv 5) pa_nil)))
          (pss_one (ps_expr (pe_bm PySem.F.plainAttrs_list PySem.F.slot_list_append PySem.F.type_list_append mt_append (pv 2) (pa_cons (pe_tup (pa_cons (pv 5) (pa_cons (pe_ix ix_list (pe_lst (pa_cons pe_str (pa_cons pe_str (pa_cons pe_str pa_nil)))) (pe_call (ok__law_take T) (hr.mono (by decide)) (by rfl) T.g__law_take T.F__law_take.kp T.b__law_take .nil pass0 (pa_cons (pv 0) (pa_cons pe_int pa_nil))) (fun _ _ => rfl)) (pa_cons (pv 6) (pa_cons (pv 7) pa_nil))))) pa_nil)))))
          pss_nil))))))
      (pss_one (ps_ret (pv 2)))))), ?_⟩
    refine ⟨Nat.zero_le _, fun F hF => ⟨Nat.zero_le _, fun G hG => ?_⟩⟩
    have hF1 : upd H F (.lst []) F = some (.lst []) := upd_same
    have nFG : F ≠ G := ne_of_none hF1 hG
    have e1 : Same H (upd (upd H F (.lst [])) G (.lst [])) := (same_upd hF).trans (same_upd hG)
    have nFL : F ≠ L := hD.ne hF
    have G0 : H G = none := (same_upd hF).free hG
    have nGL : G ≠ L := hD.ne G0
    refine ⟨_, rfl, _, rfl, _, _, rfl, rfl, L, _, rfl, by omega, hD.same e1, fun n H1 n0 nm e2 d2 => ⟨_, rfl, by omega, by omega, ?_⟩⟩
    have e12 : Ex [L] H H1 := (Ex.of e1).trans e2
    refine for_it walk_range (fun i σ H' => ∃ (x4 x5 x6 x7 : Option V) (xs : List V) (its : List Item) (ks : List Str), σ = [some (.ref L), some (.int m), some (.ref F), some (.ref G), x4, x5, x6, x7] ∧ Ex [L] H H' ∧ Dr H' L ∧ H' F = some (.lst xs) ∧ Its' K H' xs its ∧ its.length ≤ i ∧ H' G = some (.lst (ks.map V.str)) ∧ ks.length ≤ i)
      ⟨_, _, _, _, [], [], [], rfl, e12, d2, e2.at (nin nFL) (by rw [upd_ne nFG]; exact upd_same), .nil, Nat.zero_le _, e2.at (nin nGL) upd_same, Nat.zero_le _⟩ (fun _ _ _ _ _ => trivial) ?_ ?_
    · rintro i v σ Ha Hb hi ⟨x4, x5, x6, x7, xs, its, ks, rfl, ea, da, hf, hI, hil, hg, hkl⟩ ⟨rfl, rfl⟩
      have hi100 : i ≤ 100 := by omega
      -- key
      refine ⟨_, rfl, L, rfl, da, fun z H2 okz e3 d3 => ?_⟩
      -- weight
      refine ⟨_, rfl, L, 20, rfl, by decide, d3, fun t1 H3 _ _ e4 d4 => ⟨_, _, rfl, rfl, ?_⟩⟩
      refine ⟨_, rfl, L, 1000, rfl, by decide, d4, fun t2 H4 _ _ e5 d5 => ⟨_, _, rfl, rfl, by show 3 ≤ sizeLine; decide, fun p1 hp1 => ⟨by show 4 ≤ sizeLine; decide, fun p2 hp2 => ?_⟩⟩⟩
      have n1 : p1 ≠ L := d5.ne hp1
      have d5' := d5.same (same_upd hp1 (o := .lst [.int (1 + t1), .int 1000, .int (1 + t2)]))
      have n2 : p2 ≠ L := d5'.ne hp2
      have e6 := (same_upd hp1 (o := .lst [.int (1 + t1), .int 1000, .int (1 + t2)])).trans (same_upd hp2 (o := .lst [.int 0, .int 0, .int 1, .int 2]))
      have n12 : p1 ≠ p2 := ne_of_none (H := upd H4 p1 (.lst [.int (1 + t1), .int 1000, .int (1 + t2)])) upd_same hp2
      refine ⟨_, rfl, L, 4, rfl, by decide, d5.same e6, fun j H5 j0 j4 e7 d7 => ?_⟩
      obtain ⟨c, hc, hca⟩ := menu V.int [0, 0, 1, 2] j0 j4
      have hc3 : 0 ≤ c ∧ c < 3 := by
        have : c = 0 ∨ c = 1 ∨ c = 2 := by simpa using hc
        omega
      obtain ⟨wt, _, hwa⟩ := menu V.int [1 + t1, 1000, 1 + t2] hc3.1 hc3.2
      refine ⟨p2, _, j, _, rfl, rfl, SqL.of (e7.at (nin n2) upd_same), hca, p1, _, c, _, rfl, rfl, SqL.of (e7.at (nin n1) (by rw [upd_ne n12]; exact upd_same)), hwa, ?_⟩
      have e37 : Ex [L] Hb H5 := (((e3.trans e4).trans e5).trans (Ex.of e6)).trans e7
      -- amount
      refine ⟨_, rfl, L, 41, rfl, by decide, d7, fun t3 H6 _ _ e8 d8 => ⟨_, _, rfl, rfl, _, rfl, by show 4 ≤ sizeLine; decide, fun p3 hp3 => ⟨by show 5 ≤ sizeLine; decide, fun p4 hp4 => ?_⟩⟩⟩
      have n3 : p3 ≠ L := d8.ne hp3
      have n4 : p4 ≠ L := (d8.same (same_upd hp3 (o := .lst [.int (t3 - 20), .int (-1000), .int 1000, .int 0]))).ne hp4
      have e9 := (same_upd hp3 (o := .lst [.int (t3 - 20), .int (-1000), .int 1000, .int 0])).trans (same_upd hp4 (o := .lst [.int 0, .int 0, .int 1, .int 2, .int 3]))
      have n34 : p3 ≠ p4 := ne_of_none (H := upd H6 p3 (.lst [.int (t3 - 20), .int (-1000), .int 1000, .int 0])) upd_same hp4
      refine ⟨_, rfl, L, 5, rfl, by decide, d8.same e9, fun j2 H7 j20 j25 e10 d10 => ?_⟩
      obtain ⟨c2, hc2, hca2⟩ := menu V.int [0, 0, 1, 2, 3] j20 j25
      have hc4 : 0 ≤ c2 ∧ c2 < 4 := by
        have : c2 = 0 ∨ c2 = 1 ∨ c2 = 2 ∨ c2 = 3 := by simpa using hc2
        omega
      obtain ⟨am, _, hma⟩ := menu V.int [t3 - 20, -1000, 1000, 0] hc4.1 hc4.2
      refine ⟨p4, _, j2, _, rfl, rfl, SqL.of (e10.at (nin n4) upd_same), hca2, p3, _, c2, _, rfl, rfl, SqL.of (e10.at (nin n3) (by rw [upd_ne n34]; exact upd_same)), hma, ?_⟩
      have eb : Ex [L] Hb H7 := ((e37.trans e8).trans (Ex.of e9)).trans e10
      have hf7 := eb.at (nin nFL) hf
      have hg7 := eb.at (nin nGL) hg
      have hI7 := its_dr hI da eb
      have e07 := ea.trans eb
      refine ⟨_, rfl, _, rfl, G, _, rfl, .inl (SqL.of hg7), rfl, flat_strs ks, _, rfl, ite2 (fun _ => ?_) (fun _ => ?_)⟩
      · refine ⟨_, rfl, .inl ⟨rfl, _, SqL.of hg7⟩, _, rfl, G, _, _, rfl, rfl, hg7, by rw [List.length_map]; exact small1000 (by omega), ?_⟩
        have e11 : Ex [G] H7 (upd H7 G (.lst (ks.map V.str ++ [.str z]))) := ex_put
        have hf8 := e11.at (nin nFG) hf7
        have hI8 := itsStay hI7 hg7 e11
        have d11 := d10.at e11 nGL.symm
        have e08 : Ex [L] H (upd H7 G (.lst (ks.map V.str ++ [.str z]))) := e07.mut (.inl G0)
        have hg8 : upd H7 G (.lst (ks.map V.str ++ [.str z])) G = some (.lst ((ks ++ [z]).map V.str)) := by rw [upd_same, List.map_append]; rfl
        generalize upd H7 G (.lst (ks.map V.str ++ [.str z])) = H8 at e11 hf8 hI8 d11 e08 hg8 ⊢
        refine ⟨_, rfl, .inl ⟨rfl, _, SqL.of hf8⟩, _, rfl, by show 3 ≤ sizeLine; decide, fun p5 hp5 => ?_⟩
        have n5 : p5 ≠ L := d11.ne hp5
        have e12 := same_upd hp5 (o := .lst [.str "red", .str "blue", .str "k"])
        refine ⟨_, rfl, L, 3, rfl, by decide, d11.same e12, fun j3 H9 j30 j33 e13 d13 => ?_⟩
        obtain ⟨gr, hgr, hgra⟩ := menu V.str ["red", "blue", "k"] j30 j33
        have hok : ∀ z ∈ (["red", "blue", "k"] : List Str), z.length ≤ 1000 ∧ PyData.strOk z = true := by decide +kernel
        refine ⟨p5, _, j3, _, rfl, rfl, SqL.of (e13.at (nin n5) upd_same), hgra, _, rfl, _, rfl, by show 4 ≤ sizeLine; decide, fun t ht => ?_⟩
        have e14 := same_upd ht (o := .tup [.str z, .str gr, .int wt, .int am])
        have e813 : Ex [L] H8 (upd H9 t (.tup [.str z, .str gr, .int wt, .int am])) := ((Ex.of e12).trans e13).trans (Ex.of e14)
        have hf9 := e813.at (nin nFL) hf8
        have hg9 := e813.at (nin nGL) hg8
        have hI9 := its_dr hI8 d11 e813
        have hxl : xs.length = its.length := Paired.length hI
        refine ⟨F, _, _, rfl, rfl, hf9, small1000 (by omega), ?_⟩
        have e15 : Ex [F] (upd H9 t (.tup [.str z, .str gr, .int wt, .int am])) (upd (upd H9 t (.tup [.str z, .str gr, .int wt, .int am])) F (.lst (xs ++ [.ref t]))) := ex_put
        have hnew : It K (upd H9 t (.tup [.str z, .str gr, .int wt, .int am])) (.ref t) ⟨z, gr, wt, am⟩ := ⟨⟨okz, hok gr hgr⟩, t, rfl, SqT.of upd_same⟩
        exact ⟨_, _, _, _, _, its ++ [⟨z, gr, wt, am⟩], ks ++ [z], rfl, (e08.trans e813).mut (.inl hF), (d13.same e14).at e15 nFL.symm, upd_same, itsSnoc (hnew.stay hf9 e15) (itsStay hI9 hf9 e15), by simp; omega, e15.at (nin nFG.symm) hg9, by simp; omega⟩
      · exact ⟨_, _, _, _, xs, its, ks, rfl, e07, d10, hf7, hI7, by omega, hg7, by omega⟩
    · rintro σ Ha ⟨x4, x5, x6, x7, xs, its, ks, rfl, ea, da, hf, hI, hil, hg, hkl⟩
      exact ⟨_, rfl, q F Ha xs its hF ea da hf hI (by omega)⟩
def sp__law_spoilt (K : PySem.W.Frag) : Sp := fun vs H Q _ => ∃ (L p : Addr) (xs : List V) (its : List Item), vs = [.ref L, .ref p] ∧ Dr H L ∧ SqL K H p xs ∧ Its' K H xs its ∧ 0 < its.length ∧ its.length ≤ 100 ∧
  ∀ r H' ys jts, H r = none → Ex [L] H H' → Dr H' L → H' r = some (.lst ys) → Its' K H' ys jts → jts.length = its.length → Q (.ref r) H'
theorem ok__law_spoilt (T : Txt K mg) : FnOk P w K mg base CX0 2 T.f__law_spoilt T.fd__law_spoilt ["_law_draws_here", "_law_rows"] (sp__law_spoilt K) := by
  refine T.F__law_spoilt.ok sc__law_spoilt (fun vs H Q E h => ?_) (fun cdv A outer s H vs Q E hr h => ?_)
  · obtain ⟨L, p, xs, its, rfl, _⟩ := h
    rfl
  · obtain ⟨L, p, xs, its, rfl, hD, hS, hI, hl0, hl, q⟩ := h
    refine ⟨_, (pss_cons (ps_set (i := 2) sc__law_spoilt.nd rfl (Or.inl rfl) (pe_callTy (T := "list") call_list_of (by rfl) T.z_list (by decide +kernel) (pa_cons (pv 1) pa_nil)))
      (pss_cons (ps_set (i := 3) sc__law_spoilt.nd rfl (Or.inl rfl) (pe_call (ok__law_take T) (hr.mono (by decide)) (by rfl) T.g__law_take T.F__law_take.kp T.b__law_take .nil pass0 (pa_cons (pv 0) (pa_cons (pe_callB (id := "len") call_len_seq (by rfl) T.z_len (by decide +kernel) (pa_cons (pv 2) pa_nil)) pa_nil))))
      (pss_cons (ps_asg (pe_ix ix_list (pv 2) (pv 3) (fun _ _ => rfl)) (pg_tup rfl (pgs_cons (pg_name (i := 4) sc__law_spoilt.nd rfl (Or.inl rfl)) (pgs_cons (pg_name (i := 5) sc__law_spoilt.nd rfl (Or.inl rfl)) (pgs_cons (pg_name (i := 6) sc__law_spoilt.nd rfl (Or.inl rfl)) (pgs_cons (pg_name (i := 7) sc__law_spoilt.nd rfl (Or.inl rfl)) pgs_nil))))))
      (pss_cons (ps_set (i := 8) sc__law_spoilt.nd rfl (Or.inl rfl) (pe_call (ok__law_take T) (hr.mono (by decide)) (by rfl) T.g__law_take T.F__law_take.kp T.b__law_take .nil pass0 (pa_cons (pv 0) (pa_cons pe_int pa_nil))))
      (pss_cut (ps_if (pt_cmpR op_eq (pv 8) pe_int (nomark _))
        (pss_one (ps_set (i := 4) sc__law_spoilt.nd rfl (Or.inl rfl) (pe_ix ix_list (pe_lst (pa_cons pe_str (pa_cons pe_str (pa_cons pe_str (pa_cons pe_str (pa_cons pe_str pa_nil)))))) (pe_call (ok__law_take T) (hr.mono (by decide)) (by rfl) T.g__law_take T.F__law_take.kp T.b__law_take .nil pass0 (pa_cons (pv 0) (pa_cons pe_int pa_nil))) (fun _ _ => rfl))))
        (pss_one (ps_if (pt_cmpR op_eq (pv 8) pe_int (nomark _))
          (pss_one (ps_set (i := 5) sc__law_spoilt.nd rfl (Or.inl rfl) (pe_ix ix_list (pe_lst (pa_cons pe_str (pa_cons pe_str (pa_cons pe_str (pa_cons pe_str pa_nil))))) (pe_call (ok__law_take T) (hr.mono (by decide)) (by rfl) T.g__law_take T.F__law_take.kp T.b__law_take .nil pass0 (pa_cons (pv 0) (pa_cons pe_int pa_nil))) (fun _ _ => rfl))))
          (pss_one (ps_if (pt_cmpR op_eq (pv 8) pe_int (nomark _))
            (pss_one (ps_set (i := 6) sc__law_spoilt.nd rfl (Or.inl rfl) (pe_ix ix_list (pe_lst (pa_cons pe_int (pa_cons (pe_un un_neg pe_int) (pa_cons pe_int (pa_cons (pe_op op_pow pe_int pe_int) pa_nil))))) (pe_call (ok__law_take T) (hr.mono (by decide)) (by rfl) T.g__law_take T.F__law_take.kp T.b__law_take .nil pass0 (pa_cons (pv 0) (pa_cons pe_int pa_nil))) (fun _ _ => rfl))))
            (pss_one (ps_if (pt_cmpR op_eq (pv 8) pe_int (nomark _))
              (pss_one (ps_set (i := 7) sc__law_spoilt.nd rfl (Or.inl rfl) (pe_ix ix_list (pe_lst (pa_cons (pe_un un_neg pe_int) (pa_cons pe_int (pa_cons (pe_op op_pow pe_int pe_int) pa_nil)))) (pe_call (ok__law_take T) (hr.mono (by decide)) (by rfl) T.g__law_take T.F__law_take.kp T.b__law_take .nil pass0 (pa_cons (pv 0) (pa_cons pe_int pa_nil))) (fun _ _ => rfl))))
              (pss_one (ps_set (i := 4) sc__law_spoilt.nd rfl (Or.inl rfl) (pe_ix ix_tup (pe_ix ix_list (pv 2) (pe_call (ok__law_take T) (hr.mono (by decide)) (by rfl) T.g__law_take T.F__law_take.kp T.b__law_take .nil pass0 (pa_cons (pv 0) (pa_cons (pe_callB (id := "len") call_len_seq (by rfl) T.z_len (by decide +kernel) (pa_cons (pv 2) pa_nil)) pa_nil))) (fun _ _ => rfl)) pe_int (fun _ _ => rfl)))))))))))
      (pss_cons (ps_asg (pe_tup (pa_cons (pv 4) (pa_cons (pv 5) (pa_cons (pv 6) (pa_cons (pv 7) pa_nil))))) (pg_sub (pv 2) (pv 3) set_list))
      (pss_one (ps_ret (pv 2))))))))), ?_⟩
    have hxl : xs.length = its.length := Paired.length hI
    refine ⟨_, rfl, p, xs, rfl, .inl hS, fun F hF => ?_⟩
    have e1 := same_upd (o := .lst xs) hF
    have hf1 : upd H F (.lst xs) F = some (.lst xs) := upd_same
    generalize upd H F (.lst xs) = H1 at e1 hf1 ⊢
    have d1 := hD.same e1
    have nF : F ≠ L := hD.ne hF
    have hI1 := itsSame e1 hI
    refine ⟨_, rfl, _, rfl, F, xs, rfl, .inl (SqL.of hf1), L, _, rfl, by omega, d1, fun at_ H2 a0 am e2 d2 => ?_⟩
    have hf2 := e2.at (nin nF) hf1
    have hI2 := its_dr hI1 d1 e2
    have hat : at_.toNat < its.length := by omega
    obtain ⟨v, hv, ⟨ok1, ok2⟩, ia, rfl, iT⟩ := itsAt hI2 hat
    refine ⟨_, rfl, _, rfl, F, xs, at_, _, rfl, rfl, SqL.of hf2, atI_int a0 hv, ia, _, rfl, iT, rfl, _, _, rfl, _, _, rfl, _, _, rfl, _, _, rfl, rfl, ?_⟩
    refine ⟨_, rfl, L, 6, rfl, by decide, d2, fun kd H3 _ _ e3 d3 => ?_⟩
    have hf3 := e3.at (nin nF) hf2
    have hI3 := its_dr hI2 d2 e3
    have e03 : Ex [L] H H3 := ((Ex.of e1).trans e2).trans e3
    have mStr : ∀ (zs : List Str), (∀ z ∈ zs, z.length ≤ 1000 ∧ PyData.strOk z = true) → ∀ j : Int, 0 ≤ j → j < zs.length → ∃ z, okS z ∧ atI (zs.map V.str) j = some (.str z) := fun zs h j j0 j1 => by
      obtain ⟨z, hz, ha⟩ := menu V.str zs j0 j1
      exact ⟨z, h z hz, ha⟩
    have mInt : ∀ (zs : List Int), ∀ j : Int, 0 ≤ j → j < zs.length → ∃ z, atI (zs.map V.int) j = some (.int z) := fun zs j j0 j1 => by
      obtain ⟨z, hz, ha⟩ := menu V.int zs j0 j1
      exact ⟨z, ha⟩
    refine ⟨fun σ' H' => ∃ (k g : Str) (wt am : Int), σ' = [some (.ref L), some (.ref p), some (.ref F), some (.int at_), some (.str k), some (.str g), some (.int wt), some (.int am), some (.int kd)] ∧ okS k ∧ okS g ∧ Ex [L] H3 H' ∧ Dr H' L, ?_, ?_⟩
    · refine ⟨_, rfl, rfl, _, rfl, ite_dec (fun _ => ?_) (fun _ => ?_)⟩
      · refine ⟨by show 5 ≤ sizeLine; decide, fun o ho => ?_⟩
        have no := d3.ne ho
        refine ⟨_, rfl, L, 5, rfl, by decide, d3.same (same_upd ho), fun j H4 j0 j1 e4 d4 => ?_⟩
        obtain ⟨z, okz, hz⟩ := mStr ["", "A", "abcdefghijklm", "a b", "a-"] (by decide +kernel) j j0 j1
        exact ⟨o, _, j, _, rfl, rfl, SqL.of (e4.at (nin no) upd_same), hz, z, _, _, _, rfl, okz, ok2, (Ex.of (same_upd ho)).trans e4, d4⟩
      · refine ⟨_, rfl, rfl, _, rfl, ite_dec (fun _ => ?_) (fun _ => ?_)⟩
        · refine ⟨by show 4 ≤ sizeLine; decide, fun o ho => ?_⟩
          have no := d3.ne ho
          refine ⟨_, rfl, L, 4, rfl, by decide, d3.same (same_upd ho), fun j H4 j0 j1 e4 d4 => ?_⟩
          obtain ⟨z, okz, hz⟩ := mStr ["", "Red", "abcdefghijklm", "x_"] (by decide +kernel) j j0 j1
          exact ⟨o, _, j, _, rfl, rfl, SqL.of (e4.at (nin no) upd_same), hz, _, z, _, _, rfl, ok1, okz, (Ex.of (same_upd ho)).trans e4, d4⟩
        · refine ⟨_, rfl, rfl, _, rfl, ite_dec (fun _ => ?_) (fun _ => ?_)⟩
          · refine ⟨_, rfl, _, _, rfl, rfl, ⟨by decide, by decide, by decide⟩, by show 4 ≤ sizeLine; decide, fun o ho => ?_⟩
            have no := d3.ne ho
            refine ⟨_, rfl, L, 4, rfl, by decide, d3.same (same_upd ho), fun j H4 j0 j1 e4 d4 => ?_⟩
            obtain ⟨z, hz⟩ := mInt [0, -1, 1001, (10 : Int) ^ (9 : Int).toNat] j j0 j1
            exact ⟨o, _, j, _, rfl, rfl, SqL.of (e4.at (nin no) upd_same), hz, _, _, z, _, rfl, ok1, ok2, (Ex.of (same_upd ho)).trans e4, d4⟩
          · refine ⟨_, rfl, rfl, _, rfl, ite_dec (fun _ => ?_) (fun _ => ?_)⟩
            · refine ⟨_, rfl, _, _, rfl, rfl, ⟨by decide, by decide, by decide⟩, by show 3 ≤ sizeLine; decide, fun o ho => ?_⟩
              have no := d3.ne ho
              refine ⟨_, rfl, L, 3, rfl, by decide, d3.same (same_upd ho), fun j H4 j0 j1 e4 d4 => ?_⟩
              obtain ⟨z, hz⟩ := mInt [-1001, 1001, (10 : Int) ^ (9 : Int).toNat] j j0 j1
              exact ⟨o, _, j, _, rfl, rfl, SqL.of (e4.at (nin no) upd_same), hz, _, _, _, z, rfl, ok1, ok2, (Ex.of (same_upd ho)).trans e4, d4⟩
            · refine ⟨_, rfl, _, rfl, _, rfl, F, xs, rfl, .inl (SqL.of hf3), L, _, rfl, by omega, d3, fun j H4 j0 j1 e4 d4 => ?_⟩
              obtain ⟨v, hv, ⟨okv, _⟩, va, rfl, vT⟩ := itsAt (its_dr hI3 d3 e4) (i := j.toNat) (by omega)
              exact ⟨F, xs, j, _, rfl, rfl, SqL.of (e4.at (nin nF) hf3), atI_int j0 hv, va, _, 0, _, rfl, rfl, vT, rfl, _, _, _, _, rfl, okv, ok2, e4, d4⟩
    · rintro σ' H' ⟨k, g, wt, am, rfl, okk, okg, e4, d4⟩
      have hf4 := e4.at (nin nF) hf3
      have hI4 := its_dr hI3 d3 e4
      refine ⟨_, rfl, _, rfl, _, rfl, _, rfl, by show 4 ≤ sizeLine; decide, fun t ht => ?_⟩
      have e5 := same_upd (o := .tup [.str k, .str g, .int wt, .int am]) ht
      have ht5 : upd H' t (.tup [.str k, .str g, .int wt, .int am]) t = some (.tup [.str k, .str g, .int wt, .int am]) := upd_same
      generalize upd H' t (.tup [.str k, .str g, .int wt, .int am]) = H5 at e5 ht5 ⊢
      have hf5 := e5 _ _ hf4
      refine ⟨_, rfl, _, rfl, F, xs, at_, at_.toNat, rfl, rfl, hf5, ixN_int a0 (by omega), ?_⟩
      have hnew : It K H5 (.ref t) ⟨k, g, wt, am⟩ := ⟨⟨okk, okg⟩, t, rfl, SqT.of ht5⟩
      have e6 : Ex [F] H5 (upd H5 F (.lst (xs.set at_.toNat (.ref t)))) := ex_put
      refine ⟨_, rfl, q F _ _ (its.set at_.toNat ⟨k, g, wt, am⟩) hF (((e03.trans e4).trans (Ex.of e5)).mut (.inl hF)) ((d4.same e5).at e6 nF.symm) upd_same (itsSet (hnew.stay hf5 e6) _ (itsStay (itsSame e5 hI4) hf5 e6)) (List.length_set ..)⟩
def sp__law_fault (K : PySem.W.Frag) : Sp := fun vs H Q _ => ∃ (p : Addr) (xs : List V) (its : List Item), vs = [.ref p] ∧ SqL K H p xs ∧ Its' K H xs its ∧ its.length ≤ 1000 ∧ ∀ v H' d, Same H H' → FaultD its d → Dp K H' v d → Q v H'
theorem ok__law_fault (T : Txt K mg) : FnOk P w K mg base CX0 3 T.f__law_fault T.fd__law_fault ["_law_rows"] (sp__law_fault K) := by
  refine T.F__law_fault.ok sc__law_fault (fun vs H Q E h => ?_) (fun cdv A outer s H vs Q E hr h => ?_)
  · obtain ⟨p, xs, its, rfl, _⟩ := h
    rfl
  · obtain ⟨p, xs, its, rfl, hS, hI, hlen, q⟩ := h
    refine ⟨_, (pss_cons (ps_for PassesOwn.never rfl (pi_range1 (by rfl) T.z_range (pa_cons (pe_callB (id := "len") call_len_seq (by rfl) T.z_len (by decide +kernel) (pa_cons (pv 0) pa_nil)) pa_nil)) (pg_name (i := 1) sc__law_fault.nd rfl (Or.inl rfl))
        (pss_cons (ps_set (i := 2) sc__law_fault.nd rfl (Or.inl rfl) (pe_call (ok__law_reason T) (hr.mono (by decide)) (by rfl) T.g__law_reason T.F__law_reason.kp T.b__law_reason .nil pass0 (pa_cons (pe_ix ix_list (pv 0) (pv 1) (fun _ _ => rfl)) pa_nil)))
        (pss_cut (ps_if (PW.pt (pw_and (pt_cmpR op_isN (pv 2) pe_non (nomark _)) (pw_and1 (pt_cmpR op_in_seq (pe_ix ix_tup (pe_ix ix_list (pv 0) (pv 1) (fun _ _ => rfl)) pe_int (fun _ _ => rfl)) (pe_lc (own := [("_law_row", 3)]) (g := gName 3) rfl sc__law_fault.nd (pi_list (pe_slice sl_list (pv 0) po_none (po_some (pv 1)))) (blkOk_by (own := [("_law_row", 3)]) (N := nm__law_fault) (sc := defScope s__law_fault) (by decide +kernel)) (fun _ _ _ _ _ => pg_name (i := 3) sc__law_fault.nd rfl (Or.inl rfl)) (fun _ _ _ _ _ => pts_nil) (fun _ _ _ _ _ => (pe_ix (ixTk (K := K) rfl) (pv 3) pe_int (fun _ _ => rfl)))) (by rfl)))))
          (pss_one (ps_set (i := 2) sc__law_fault.nd rfl (Or.inl rfl) pe_str))
          pss_nil)
        (pss_one (ps_if (pt_cmpR op_notN (pv 2) pe_non (nomark _))
          (pss_one (ps_ret (pe_tup (pa_cons (pv 1) (pa_cons (pv 2) pa_nil)))))
          pss_nil)))))
      (pss_one (ps_ret pe_non))), ?_⟩
    have hxl : xs.length = its.length := Paired.length hI
    refine ⟨_, rfl, p, xs, rfl, .inl hS, _, rfl, by omega, by omega, for_it walk_range (fun i σ H' => ∃ (x1 x2 x3 : Option V), σ = [some (.ref p), x1, x2, x3] ∧ Same H H' ∧ ∀ j, j < i → faultAt its j = none)
      ⟨_, _, _, rfl, Same.refl H, fun j hj => absurd hj (Nat.not_lt_zero _)⟩ (fun _ _ _ _ _ => trivial) ?_ ?_⟩
    · rintro i v σ Ha Hb hi ⟨x1, x2, x3, rfl, e, hf⟩ ⟨rfl, rfl⟩
      have hi' : i < its.length := by omega
      have hit : its[i]? = some its[i] := List.getElem?_eq_getElem hi'
      obtain ⟨y, hy, hIt⟩ := itsAt hI hi'
      have hat : atI xs ((0 : Int) + (i : Nat)) = some y := by rw [Int.zero_add]; exact atI_nat hy
      refine ⟨_, rfl, _, rfl, p, xs, _, y, rfl, rfl, e.seq hS, hat, y, its[i], rfl, hIt.same e, fun H1 e1 => ?_⟩
      have e01 := e.trans e1
      obtain ⟨iok, ia, rfl, iT⟩ := hIt.same e01
      have hfa : faultAt its i = match reason its[i] with | some r => some r | none => if its[i].k ∈ (its.take i).map Item.k then some "taken" else none := by
        unfold faultAt
        rw [hit]
      refine ⟨fun σ' H' => Same H H' ∧ ∃ x3, σ' = [some (.ref p), some (.int (0 + (i : Nat))), some (vO (faultAt its i)), x3], ?_, ?_⟩
      · refine ⟨_, rfl, rfl, _, rfl, ?_⟩
        cases hr2 : reason its[i] with
        | some r =>
          rw [hr2] at hfa
          refine iteF ⟨e01, x3, ?_⟩
          rw [hfa]
          rfl
        | none =>
          rw [hr2] at hfa
          refine iteT ⟨_, rfl, _, rfl, p, xs, _, _, rfl, rfl, e01.seq hS, hat, ia, _, 0, _, rfl, rfl, iT, rfl, ?_⟩
          refine ⟨_, rfl, _, rfl, _, rfl, p, xs, rfl, e01.seq hS, fun c hc => ?_⟩
          have ecut : cutV xs none (some ((0 : Int) + (i : Nat))) = xs.take i := by
            unfold cutV
            rw [HT.sIx_none, Int.zero_add, HT.sIx_nat, Nat.sub_zero, List.drop_zero]
            rw [show min i xs.length = i by omega]
          rw [ecut]
          have e2 := same_upd (o := .lst (xs.take i)) hc
          have hc2 : upd H1 c (.lst (xs.take i)) c = some (.lst (xs.take i)) := upd_same
          generalize upd H1 c (.lst (xs.take i)) = H2 at e2 hc2 ⊢
          have e02 := e01.trans e2
          refine ⟨c, rfl, ⟨_, SqL.of hc2⟩, fun D hD => ?_⟩
          refine lc_it walk_list (fun j H' => Same H2 H' ∧ H' D = some (.lst ((((its.take i).take j).map Item.k).map V.str))) ⟨same_upd hD, by rw [List.take_zero]; exact upd_same⟩ (fun _ _ _ ⟨e, _⟩ => e.seq (SqL.of hc2)) ?_ ?_
          · rintro j x Hc Hd hj ⟨e3, hd3⟩ ⟨rfl, hx⟩
            have hj' : j < i := by rw [List.length_take] at hj; omega
            have hx' : xs[j]? = some x := by rw [List.getElem?_take, if_pos hj'] at hx; exact hx
            obtain ⟨it, hit2, hIt2⟩ := itsGet hI hx'
            obtain ⟨_, xa, rfl, xT⟩ := hIt2.same (e02.trans e3)
            refine ⟨rfl, w_yes ⟨_, rfl, xa, _, 0, _, rfl, rfl, xT, rfl, _, hd3, ?_, e3.mut hD, ?_⟩⟩
            · rw [List.length_map, List.length_map, List.length_take, List.length_take]
              exact small1000 (by omega)
            · rw [upd_same, List.take_add_one, List.getElem?_take, if_pos hj', hit2]
              simp [Item.vs]
          · rintro Hc ⟨e3, hd3⟩
            have et : ((its.take i).take (xs.take i).length) = its.take i := List.take_of_length_le (by rw [List.length_take, List.length_take]; omega)
            rw [et] at hd3
            refine ⟨D, _, rfl, .inl (SqL.of hd3), rfl, flat_strs _, _, rfl, ?_⟩
            rw [show (if false = true then !inV (V.str its[i].k) (((its.take i).map Item.k).map V.str) else inV (V.str its[i].k) (((its.take i).map Item.k).map V.str)) = decide (its[i].k ∈ (its.take i).map Item.k) from inV_str _ _]
            refine ite_dec (fun hm => ?_) (fun hm => ?_)
            · refine ⟨e02.trans e3, x3, ?_⟩
              rw [hfa, if_pos hm]
              rfl
            · refine ⟨e02.trans e3, x3, ?_⟩
              rw [hfa, if_neg hm]
              rfl
      · rintro σ' H' ⟨e3, x3, rfl⟩
        refine ⟨_, rfl, rfl, _, rfl, ?_⟩
        cases hfi : faultAt its i with
        | some r =>
          refine iteT ⟨_, rfl, _, rfl, by show 2 ≤ sizeLine; decide, fun o ho => ?_⟩
          refine q _ _ _ (e3.trans (same_upd ho)) (.inl ⟨i, r, hf, hfi, rfl⟩) (.tup (SqT.of upd_same) (.cons ?_ (.cons (.str _) .nil)))
          rw [Int.zero_add]
          exact .int _
        | none =>
          refine iteF ⟨_, _, _, rfl, e3, fun j hj => ?_⟩
          rcases Nat.lt_or_ge j i with z | z
          · exact hf j z
          · have : j = i := by omega
            subst this
            exact hfi
    · rintro σ Ha ⟨x1, x2, x3, rfl, e, hf⟩
      exact q .non Ha .none e (.inr ⟨fun j hj => hf j (by omega), rfl⟩) .non
/-! ### the law -/
def sp_law (K : PySem.W.Frag) : Sp := fun vs H Q _ => ∃ (a : Addr) (ns : List Int), vs = [.ref a] ∧ SqL K H a (ns.map V.int) ∧ ns.length ≤ 63 ∧ ∀ H', Q (.bl true) H'
theorem ok_law (T : Txt K mg) : FnOk P w K mg base CX0 5 T.f_law T.fd_law ["_law_script"] (sp_law K) := by
  have ok__law_same : ∀ T : Txt K mg, FnOk P w K mg base CX0 4 T.f__law_same T.fd__law_same ["_law_actual", "_law_due"] (sp__law_same K 3) := fun T => okR__law_same T 3 (by decide)
  refine T.F_law.ok sc_law (fun vs H Q E h => ?_) (fun cdv A outer s H vs Q E hr h => ?_)
  · obtain ⟨a, ns, rfl, _⟩ := h
    rfl
  · obtain ⟨a, ns, rfl, hS, hlen, q⟩ := h
    refine ⟨_, (pss_cons (ps_set (i := 1) sc_law.nd rfl (Or.inl rfl) (pe_call (ok__law_draws T) (hr.mono (by decide)) (by rfl) T.g__law_draws T.F__law_draws.kp T.b__law_draws .nil pass0 (pa_cons (pv 0) pa_nil)))
      (pss_cons (ps_set (i := 2) sc_law.nd rfl (Or.inl rfl) (pe_call (ok__law_items T) (hr.mono (by decide)) (by rfl) T.g__law_items T.F__law_items.kp T.b__law_items .nil pass0 (pa_cons (pv 1) (pa_cons pe_int pa_nil))))
      (pss_cons (ps_for PassesOwn.never rfl (pi_range1 (by rfl) T.z_range (pa_cons pe_int pa_nil)) (pg_name (i := 3) sc_law.nd rfl (Or.inl rfl))
        (pss_cons (ps_set (i := 4) sc_law.nd rfl (Or.inl rfl) (pe_callTy (T := "list") call_list_of (by rfl) T.z_list (by decide +kernel) (pa_cons (pv 2) pa_nil)))
        (pss_cons (ps_if (PW.pt (pw_or (pt_not (pt_val (pe_call (ok__law_same T) (hr.mono (by decide)) (by rfl) T.g__law_same T.F__law_same.kp T.b__law_same .nil pass0 (pa_cons (pe_call (ok_check_items T) (hr.mono (by decide)) (by rfl) T.g_check_items T.F_check_items.kp T.b_check_items .nil pass0 (pa_cons (pv 2) pa_nil)) (pa_cons (pe_call (ok__law_fault T) (hr.mono (by decide)) (by rfl) T.g__law_fault T.F__law_fault.kp T.b__law_fault .nil pass0 (pa_cons (pv 2) pa_nil)) pa_nil))))) (pw_or1 (pt_cmpR (op_neD hr.units) (pv 2) (pv 4) (nomark _)))))
          (pss_one (ps_ret pe_bl))
          pss_nil)
        (pss_cons (ps_for PassesOwn.never rfl (pi_list (pv 2)) (pg_name (i := 5) sc_law.nd rfl (Or.inl rfl))
          (pss_cons (ps_set (i := 6) sc_law.nd rfl (Or.inl rfl) (pe_lst (pa_cons (pe_call (ok_is_item T) (hr.mono (by decide)) (by rfl) T.g_is_item T.F_is_item.kp T.b_is_item .nil pass0 (pa_cons (pv 5) pa_nil)) (pa_cons (pe_call (ok_is_name T) (hr.mono (by decide)) (by rfl) T.g_is_name T.F_is_name.kp T.b_is_name .nil pass0 (pa_cons (pe_ix ix_tup (pv 5) pe_int (fun _ _ => rfl)) pa_nil)) (pa_cons (pe_call (ok_is_name T) (hr.mono (by decide)) (by rfl) T.g_is_name T.F_is_name.kp T.b_is_name .nil pass0 (pa_cons (pe_ix ix_tup (pv 5) pe_int (fun _ _ => rfl)) pa_nil)) pa_nil)))))
          (pss_one (ps_if (pt_not (pt_val (pe_call (ok__law_same T) (hr.mono (by decide)) (by rfl) T.g__law_same T.F__law_same.kp T.b__law_same .nil pass0 (pa_cons (pv 6) (pa_cons (pe_lst (pa_cons (pe_cmpR op_isN (pe_call (ok__law_reason T) (hr.mono (by decide)) (by rfl) T.g__law_reason T.F__law_reason.kp T.b__law_reason .nil pass0 (pa_cons (pv 5) pa_nil)) pe_non (nomark _)) (pa_cons (pe_call (ok__law_fine T) (hr.mono (by decide)) (by rfl) T.g__law_fine T.F__law_fine.kp T.b__law_fine .nil pass0 (pa_cons (pe_ix ix_tup (pv 5) pe_int (fun _ _ => rfl)) pa_nil)) (pa_cons (pe_call (ok__law_fine T) (hr.mono (by decide)) (by rfl) T.g__law_fine T.F__law_fine.kp T.b__law_fine .nil pass0 (pa_cons (pe_ix ix_tup (pv 5) pe_int (fun _ _ => rfl)) pa_nil)) pa_nil)))) pa_nil)))))
            (pss_one (ps_ret pe_bl))
            pss_nil))))
        (pss_cons (ps_if (pt_cmpR (op_eqD hr.units) (pv 2) (pe_lst pa_nil) (nomark _))
          (pss_one (ps_ret pe_bl))
          pss_nil)
        (pss_one (ps_set (i := 2) sc_law.nd rfl (Or.inl rfl) (pe_call (ok__law_spoilt T) (hr.mono (by decide)) (by rfl) T.g__law_spoilt T.F__law_spoilt.kp T.b__law_spoilt .nil pass0 (pa_cons (pv 1) (pa_cons (pv 2) pa_nil))))))))))
      (pss_one (ps_ret pe_bl))))), ?_⟩
    refine ⟨_, rfl, a, ns, rfl, hS, hlen, fun L H1 hL e1 d1 => ?_⟩
    refine ⟨_, rfl, L, 8, rfl, by decide, by decide, d1, fun p H2 xs its hp e2 d2 hp2 hI2 hl2 => ?_⟩
    refine ⟨_, rfl, by decide, by decide, for_it walk_range (fun i σ H' => ∃ (p : Addr) (x3 x4 x5 x6 : Option V) (xs : List V) (its : List Item), σ = [some (.ref a), some (.ref L), some (.ref p), x3, x4, x5, x6] ∧ p ≠ L ∧ Dr H' L ∧ H' p = some (.lst xs) ∧ Its' K H' xs its ∧ its.length ≤ 8)
      ⟨p, _, _, _, _, xs, its, rfl, d1.ne hp, d2, hp2, hI2, by omega⟩ (fun _ _ _ _ _ => trivial) ?_ ?_⟩
    · rintro i v σ Ha Hb hi ⟨p, x3, x4, x5, x6, xs, its, rfl, npL, da, hpa, hIa, hla⟩ ⟨rfl, rfl⟩
      have hok := itsOk hIa
      -- kept
      refine ⟨_, rfl, p, xs, rfl, .inl (SqL.of hpa), fun g hg => ?_⟩
      have e3 := same_upd (o := .lst xs) hg
      have hg3 : upd Hb g (.lst xs) g = some (.lst xs) := upd_same
      generalize upd Hb g (.lst xs) = H3 at e3 hg3 ⊢
      refine ⟨_, rfl, p, xs, its, rfl, SqL.of (e3 _ _ hpa), itsSame e3 hIa, by omega, fun w1 H4 dd1 e4 f1 dp1 => ?_⟩
      refine ⟨_, rfl, p, xs, its, rfl, SqL.of (e4 _ _ (e3 _ _ hpa)), itsSame e4 (itsSame e3 hIa), by omega, fun w2 H5 dd2 e5 f2 dp2 => ?_⟩
      have := f1.uniq f2
      subst this
      obtain ⟨l1, l2, l3⟩ := f1.lay
      refine ⟨_, _, dd1, rfl, dp_same e5 _ _ dp1, dp2, l1, l2, by decide, l3, _, rfl, iteF ?_⟩
      have e35 : Same Hb H5 := (e3.trans e4).trans e5
      have hp5 := e35 _ _ hpa
      have hI5 := itsSame e35 hIa
      refine ⟨_, rfl, _, rfl, .list (its.map Item.d), .list (its.map Item.d), .lst (SqL.of hp5) (itsDp hI5), .lst (SqL.of (e5 _ _ (e4 _ _ hg3))) (itsDp hI5), itsShaped hok, itsShaped hok, _, rfl, ?_⟩
      rw [SeqAt.eqv_refl _ (SeqAt.canLay_of_shaped (itsShaped hok))]
      refine iteF ?_
      refine ⟨_, rfl, p, rfl, ⟨_, SqL.of hp5⟩, for_it walk_list (fun j σ H' => ∃ (x5 x6 : Option V), σ = [some (.ref a), some (.ref L), some (.ref p), some (.int (0 + (i : Nat))), some (.ref g), x5, x6] ∧ Same H5 H') ⟨_, _, rfl, Same.refl H5⟩ (fun _ _ _ _ ⟨_, _, _, e⟩ => e.seq (SqL.of hp5)) ?_ ?_⟩
      · rintro j y σ Hc Hd hj ⟨x5, x6, rfl, ec⟩ ⟨rfl, hy⟩
        obtain ⟨it, hit, hIt⟩ := itsGet hI5 hy
        obtain ⟨⟨ok1, ok2⟩, ya, rfl, yT⟩ := hIt.same ec
        refine ⟨_, rfl, _, it, rfl, ⟨⟨ok1, ok2⟩, ya, rfl, yT⟩, fun H6 e6 => ⟨_, rfl, ya, _, 0, _, rfl, rfl, e6.tupq yT, rfl, it.k, rfl, ok1.line, fun H7 e7 => ⟨_, rfl, ya, _, 1, _, rfl, rfl, e7.tupq (e6.tupq yT), rfl, it.g, rfl, ok2.line, fun H8 e8 => ⟨by show 3 ≤ sizeLine; decide, fun t1 ht1 => ?_⟩⟩⟩⟩
        have e9 := same_upd (o := .lst [.bl (decide (vO (reason it) = .non)), .bl (isName it.k), .bl (isName it.g)]) ht1
        have h9 : upd H8 t1 (.lst [.bl (decide (vO (reason it) = .non)), .bl (isName it.k), .bl (isName it.g)]) t1 = some (.lst [.bl (decide (vO (reason it) = .non)), .bl (isName it.k), .bl (isName it.g)]) := upd_same
        generalize upd H8 t1 (.lst [.bl (decide (vO (reason it) = .non)), .bl (isName it.k), .bl (isName it.g)]) = H9 at e9 h9 ⊢
        have e69 := ((e6.trans e7).trans e8).trans e9
        have yT9 := e69.tupq yT
        refine ⟨_, rfl, _, rfl, _, it, rfl, ⟨⟨ok1, ok2⟩, ya, rfl, yT9⟩, fun H10 e10 => ⟨rfl, ?_⟩⟩
        refine ⟨_, rfl, ya, _, 0, _, rfl, rfl, e10.tupq yT9, rfl, it.k, rfl, ok1, fun H11 e11 => ⟨_, rfl, ya, _, 1, _, rfl, rfl, e11.tupq (e10.tupq yT9), rfl, it.g, rfl, ok2, fun H12 e12 => ⟨by show 3 ≤ sizeLine; decide, fun t2 ht2 => ?_⟩⟩⟩
        have e13 := same_upd (o := .lst [.bl (decide (vO (reason it) = .non)), .bl (isName it.k), .bl (isName it.g)]) ht2
        have h13 : upd H12 t2 (.lst [.bl (decide (vO (reason it) = .non)), .bl (isName it.k), .bl (isName it.g)]) t2 = some (.lst [.bl (decide (vO (reason it) = .non)), .bl (isName it.k), .bl (isName it.g)]) := upd_same
        generalize upd H12 t2 (.lst [.bl (decide (vO (reason it) = .non)), .bl (isName it.k), .bl (isName it.g)]) = H13 at e13 h13 ⊢
        refine ⟨_, _, .list [.bool (decide (vO (reason it) = .non)), .bool (isName it.k), .bool (isName it.g)], rfl, .lst (SqL.of (e13 _ _ (e12 _ _ (e11 _ _ (e10 _ _ h9))))) (.cons (.bl _) (.cons (.bl _) (.cons (.bl _) .nil))), .lst (SqL.of h13) (.cons (.bl _) (.cons (.bl _) (.cons (.bl _) .nil))), rfl, by show 1 < 3; decide, by decide, rfl, _, rfl, iteF ?_⟩
        exact ⟨_, _, rfl, ((((ec.trans e69).trans e10).trans e11).trans e12).trans e13⟩
      · rintro σ Hc ⟨x5, x6, rfl, ec⟩
        have hpc := ec _ _ hp5
        have hIc := itsSame ec hI5
        refine ⟨_, rfl, Nat.zero_le _, fun o ho => ?_⟩
        have ed := same_upd (o := .lst []) ho
        have hod : upd Hc o (.lst []) o = some (.lst []) := upd_same
        generalize upd Hc o (.lst []) = Hd at ed hod ⊢
        refine ⟨.list (its.map Item.d), .list [], .lst (SqL.of (ed _ _ hpc)) (itsDp (itsSame ed hIc)), .lst (SqL.of hod) .nil, itsShaped hok, rfl, _, rfl, ?_⟩
        cases its with
        | nil =>
          rw [show PyData.eqv (.list (List.map Item.d [])) (.list []) = true from rfl]
          exact iteT (q _)
        | cons it r =>
          rw [show PyData.eqv (.list (List.map Item.d (it :: r))) (.list []) = false by rw [PyData.eqv]; rfl]
          refine iteF ⟨_, rfl, _, rfl, L, p, xs, it :: r, rfl, ((da.same e35).same ec).same ed, SqL.of (ed _ _ hpc), itsSame ed hIc, by simp, by omega, fun z H' ys jts hz ez dz hyz hIz hlz => ?_⟩
          exact ⟨z, _, _, _, _, ys, jts, rfl, (((da.same e35).same ec).same ed).ne hz, dz, hyz, hIz, by omega⟩
    · rintro σ Ha ⟨p, x3, x4, x5, x6, xs, its, rfl, npL, da, hpa, hIa, hla⟩
      exact q _
end
theorem all_mk {l : PySem.W.OpenLaw} {w : World} {K : PySem.W.Frag} {h : Heap} {mg : Str → Option Value} {fa f_is_name f_fault_of f_is_item f_check_items f__law_draws f__law_take f__law_same f__law_name f__law_items f__law_spoilt f__law_fine f__law_reason f__law_fault f_law : Addr} (X : K.In h) (G : h.Ns mainGlobals mg) (hfa : mg "law" = some (.ref fa))
    {odis_name anis_name : Option Addr} {slis_name : Array (Option Value)} {ocis_name kVis_name dcis_name pmis_name cdis_name ctis_name : Value}
    {odfault_of anfault_of : Option Addr} {slfault_of : Array (Option Value)} {ocfault_of kVfault_of dcfault_of pmfault_of cdfault_of ctfault_of : Value}
    {odis_item anis_item : Option Addr} {slis_item : Array (Option Value)} {ocis_item kVis_item dcis_item pmis_item cdis_item ctis_item : Value}
    {odcheck_items ancheck_items : Option Addr} {slcheck_items : Array (Option Value)} {occheck_items kVcheck_items dccheck_items pmcheck_items cdcheck_items ctcheck_items : Value}
    {od_law_draws an_law_draws : Option Addr} {sl_law_draws : Array (Option Value)} {oc_law_draws kV_law_draws dc_law_draws pm_law_draws cd_law_draws ct_law_draws : Value}
    {od_law_take an_law_take : Option Addr} {sl_law_take : Array (Option Value)} {oc_law_take kV_law_take dc_law_take pm_law_take cd_law_take ct_law_take : Value}
    {od_law_same an_law_same : Option Addr} {sl_law_same : Array (Option Value)} {oc_law_same kV_law_same dc_law_same pm_law_same cd_law_same ct_law_same : Value}
    {od_law_name an_law_name : Option Addr} {sl_law_name : Array (Option Value)} {oc_law_name kV_law_name dc_law_name pm_law_name cd_law_name ct_law_name : Value}
    {od_law_items an_law_items : Option Addr} {sl_law_items : Array (Option Value)} {oc_law_items kV_law_items dc_law_items pm_law_items cd_law_items ct_law_items : Value}
    {od_law_spoilt an_law_spoilt : Option Addr} {sl_law_spoilt : Array (Option Value)} {oc_law_spoilt kV_law_spoilt dc_law_spoilt pm_law_spoilt cd_law_spoilt ct_law_spoilt : Value}
    {od_law_fine an_law_fine : Option Addr} {sl_law_fine : Array (Option Value)} {oc_law_fine kV_law_fine dc_law_fine pm_law_fine cd_law_fine ct_law_fine : Value}
    {od_law_reason an_law_reason : Option Addr} {sl_law_reason : Array (Option Value)} {oc_law_reason kV_law_reason dc_law_reason pm_law_reason cd_law_reason ct_law_reason : Value}
    {od_law_fault an_law_fault : Option Addr} {sl_law_fault : Array (Option Value)} {oc_law_fault kV_law_fault dc_law_fault pm_law_fault cd_law_fault ct_law_fault : Value}
    {odlaw anlaw : Option Addr} {sllaw : Array (Option Value)} {oclaw kVlaw dclaw pmlaw cdlaw ctlaw : Value}
    {t_MOST_AMOUNT : Tok}
    {t_MOST_WEIGHT : Tok}
    {t_NAME_SIGNS : Tok}
    (ais_name : PySem.W.nsIn K mainGlobals "is_name" = some (some (.ref f_is_name)))
    (lis_name : K.lookup f_is_name = some ⟨ocis_name, odis_name, .func (PySem.W.fnOf "is_name" "is_name" (defArgs s_is_name) (defBody s_is_name) (defScope s_is_name) .none kVis_name dcis_name pmis_name anis_name cdis_name ctis_name), slis_name⟩)
    (cis_name : PySem.W.codeIn K cdis_name "is_name" = true)
    (kis_name : PySem.W.keepIn K (.ref f_is_name) = true)
    (afault_of : PySem.W.nsIn K mainGlobals "fault_of" = some (some (.ref f_fault_of)))
    (lfault_of : K.lookup f_fault_of = some ⟨ocfault_of, odfault_of, .func (PySem.W.fnOf "fault_of" "fault_of" (defArgs s_fault_of) (defBody s_fault_of) (defScope s_fault_of) .none kVfault_of dcfault_of pmfault_of anfault_of cdfault_of ctfault_of), slfault_of⟩)
    (cfault_of : PySem.W.codeIn K cdfault_of "fault_of" = true)
    (kfault_of : PySem.W.keepIn K (.ref f_fault_of) = true)
    (ais_item : PySem.W.nsIn K mainGlobals "is_item" = some (some (.ref f_is_item)))
    (lis_item : K.lookup f_is_item = some ⟨ocis_item, odis_item, .func (PySem.W.fnOf "is_item" "is_item" (defArgs s_is_item) (defBody s_is_item) (defScope s_is_item) .none kVis_item dcis_item pmis_item anis_item cdis_item ctis_item), slis_item⟩)
    (cis_item : PySem.W.codeIn K cdis_item "is_item" = true)
    (kis_item : PySem.W.keepIn K (.ref f_is_item) = true)
    (acheck_items : PySem.W.nsIn K mainGlobals "check_items" = some (some (.ref f_check_items)))
    (lcheck_items : K.lookup f_check_items = some ⟨occheck_items, odcheck_items, .func (PySem.W.fnOf "check_items" "check_items" (defArgs s_check_items) (defBody s_check_items) (defScope s_check_items) .none kVcheck_items dccheck_items pmcheck_items ancheck_items cdcheck_items ctcheck_items), slcheck_items⟩)
    (ccheck_items : PySem.W.codeIn K cdcheck_items "check_items" = true)
    (kcheck_items : PySem.W.keepIn K (.ref f_check_items) = true)
    (a_law_draws : PySem.W.nsIn K mainGlobals "_law_draws" = some (some (.ref f__law_draws)))
    (l_law_draws : K.lookup f__law_draws = some ⟨oc_law_draws, od_law_draws, .func (PySem.W.fnOf "_law_draws" "_law_draws" (defArgs s__law_draws) (defBody s__law_draws) (defScope s__law_draws) .none kV_law_draws dc_law_draws pm_law_draws an_law_draws cd_law_draws ct_law_draws), sl_law_draws⟩)
    (c_law_draws : PySem.W.codeIn K cd_law_draws "_law_draws" = true)
    (k_law_draws : PySem.W.keepIn K (.ref f__law_draws) = true)
    (a_law_take : PySem.W.nsIn K mainGlobals "_law_take" = some (some (.ref f__law_take)))
    (l_law_take : K.lookup f__law_take = some ⟨oc_law_take, od_law_take, .func (PySem.W.fnOf "_law_take" "_law_take" (defArgs s__law_take) (defBody s__law_take) (defScope s__law_take) .none kV_law_take dc_law_take pm_law_take an_law_take cd_law_take ct_law_take), sl_law_take⟩)
    (c_law_take : PySem.W.codeIn K cd_law_take "_law_take" = true)
    (k_law_take : PySem.W.keepIn K (.ref f__law_take) = true)
    (a_law_same : PySem.W.nsIn K mainGlobals "_law_same" = some (some (.ref f__law_same)))
    (l_law_same : K.lookup f__law_same = some ⟨oc_law_same, od_law_same, .func (PySem.W.fnOf "_law_same" "_law_same" (defArgs s__law_same) (defBody s__law_same) (defScope s__law_same) .none kV_law_same dc_law_same pm_law_same an_law_same cd_law_same ct_law_same), sl_law_same⟩)
    (c_law_same : PySem.W.codeIn K cd_law_same "_law_same" = true)
    (k_law_same : PySem.W.keepIn K (.ref f__law_same) = true)
    (a_law_name : PySem.W.nsIn K mainGlobals "_law_name" = some (some (.ref f__law_name)))
    (l_law_name : K.lookup f__law_name = some ⟨oc_law_name, od_law_name, .func (PySem.W.fnOf "_law_name" "_law_name" (defArgs s__law_name) (defBody s__law_name) (defScope s__law_name) .none kV_law_name dc_law_name pm_law_name an_law_name cd_law_name ct_law_name), sl_law_name⟩)
    (c_law_name : PySem.W.codeIn K cd_law_name "_law_name" = true)
    (k_law_name : PySem.W.keepIn K (.ref f__law_name) = true)
    (a_law_items : PySem.W.nsIn K mainGlobals "_law_items" = some (some (.ref f__law_items)))
    (l_law_items : K.lookup f__law_items = some ⟨oc_law_items, od_law_items, .func (PySem.W.fnOf "_law_items" "_law_items" (defArgs s__law_items) (defBody s__law_items) (defScope s__law_items) .none kV_law_items dc_law_items pm_law_items an_law_items cd_law_items ct_law_items), sl_law_items⟩)
    (c_law_items : PySem.W.codeIn K cd_law_items "_law_items" = true)
    (k_law_items : PySem.W.keepIn K (.ref f__law_items) = true)
    (a_law_spoilt : PySem.W.nsIn K mainGlobals "_law_spoilt" = some (some (.ref f__law_spoilt)))
    (l_law_spoilt : K.lookup f__law_spoilt = some ⟨oc_law_spoilt, od_law_spoilt, .func (PySem.W.fnOf "_law_spoilt" "_law_spoilt" (defArgs s__law_spoilt) (defBody s__law_spoilt) (defScope s__law_spoilt) .none kV_law_spoilt dc_law_spoilt pm_law_spoilt an_law_spoilt cd_law_spoilt ct_law_spoilt), sl_law_spoilt⟩)
    (c_law_spoilt : PySem.W.codeIn K cd_law_spoilt "_law_spoilt" = true)
    (k_law_spoilt : PySem.W.keepIn K (.ref f__law_spoilt) = true)
    (a_law_fine : PySem.W.nsIn K mainGlobals "_law_fine" = some (some (.ref f__law_fine)))
    (l_law_fine : K.lookup f__law_fine = some ⟨oc_law_fine, od_law_fine, .func (PySem.W.fnOf "_law_fine" "_law_fine" (defArgs s__law_fine) (defBody s__law_fine) (defScope s__law_fine) .none kV_law_fine dc_law_fine pm_law_fine an_law_fine cd_law_fine ct_law_fine), sl_law_fine⟩)
    (c_law_fine : PySem.W.codeIn K cd_law_fine "_law_fine" = true)
    (k_law_fine : PySem.W.keepIn K (.ref f__law_fine) = true)
    (a_law_reason : PySem.W.nsIn K mainGlobals "_law_reason" = some (some (.ref f__law_reason)))
    (l_law_reason : K.lookup f__law_reason = some ⟨oc_law_reason, od_law_reason, .func (PySem.W.fnOf "_law_reason" "_law_reason" (defArgs s__law_reason) (defBody s__law_reason) (defScope s__law_reason) .none kV_law_reason dc_law_reason pm_law_reason an_law_reason cd_law_reason ct_law_reason), sl_law_reason⟩)
    (c_law_reason : PySem.W.codeIn K cd_law_reason "_law_reason" = true)
    (k_law_reason : PySem.W.keepIn K (.ref f__law_reason) = true)
    (a_law_fault : PySem.W.nsIn K mainGlobals "_law_fault" = some (some (.ref f__law_fault)))
    (l_law_fault : K.lookup f__law_fault = some ⟨oc_law_fault, od_law_fault, .func (PySem.W.fnOf "_law_fault" "_law_fault" (defArgs s__law_fault) (defBody s__law_fault) (defScope s__law_fault) .none kV_law_fault dc_law_fault pm_law_fault an_law_fault cd_law_fault ct_law_fault), sl_law_fault⟩)
    (c_law_fault : PySem.W.codeIn K cd_law_fault "_law_fault" = true)
    (k_law_fault : PySem.W.keepIn K (.ref f__law_fault) = true)
    (alaw : PySem.W.nsIn K mainGlobals "law" = some (some (.ref f_law)))
    (llaw : K.lookup f_law = some ⟨oclaw, odlaw, .func (PySem.W.fnOf "law" "law" (defArgs s_law) (defBody s_law) (defScope s_law) .none kVlaw dclaw pmlaw anlaw cdlaw ctlaw), sllaw⟩)
    (claw : PySem.W.codeIn K cdlaw "law" = true)
    (klaw : PySem.W.keepIn K (.ref f_law) = true)
    (hMOST_AMOUNT : PySem.W.nsIn K mainGlobals "MOST_AMOUNT" = some (some (.int (1000) t_MOST_AMOUNT)))
    (hMOST_WEIGHT : PySem.W.nsIn K mainGlobals "MOST_WEIGHT" = some (some (.int (1000) t_MOST_WEIGHT)))
    (hNAME_SIGNS : PySem.W.nsIn K mainGlobals "NAME_SIGNS" = some (some (.str ("abcdefghijklmnopqrstuvwxyz0123456789" : Str) t_NAME_SIGNS)))
    (zabs : PySem.W.nsIn K mainGlobals "abs" = some none)
    (zall : PySem.W.nsIn K mainGlobals "all" = some none)
    (zbool : PySem.W.nsIn K mainGlobals "bool" = some none)
    (zenumerate : PySem.W.nsIn K mainGlobals "enumerate" = some none)
    (zint : PySem.W.nsIn K mainGlobals "int" = some none)
    (zisinstance : PySem.W.nsIn K mainGlobals "isinstance" = some none)
    (zlen : PySem.W.nsIn K mainGlobals "len" = some none)
    (zlist : PySem.W.nsIn K mainGlobals "list" = some none)
    (zrange : PySem.W.nsIn K mainGlobals "range" = some none)
    (zreversed : PySem.W.nsIn K mainGlobals "reversed" = some none)
    (zstr : PySem.W.nsIn K mainGlobals "str" = some none)
    (ztuple : PySem.W.nsIn K mainGlobals "tuple" = some none)
    : ∃ fd : FuncData, (∀ (s : Shared) (v : Value), BindsTo s fd ⟨[v], []⟩ [("_law_script", v)]) ∧ ∀ base : Heap, K.In base → base.Ns mainGlobals mg → FnOk l.prog w K mg base CX0 5 fa fd ["_law_script"] (sp_law K) := by
  have e := hfa.symm.trans (PySem.W.mg_of X G alaw)
  cases e
  let T : Txt K mg := {
    g_is_name := PySem.W.mg_of X G ais_name
    f_is_name := f_is_name
    fd_is_name := _
    F_is_name := fun_mk (st := s_is_name) lis_name cis_name kis_name
    b_is_name := (fun_mk (st := s_is_name) lis_name cis_name kis_name).binds (ps := ["text"]) fun _ _ _ _ _ _ us hl => match us, hl with | [_], _ => rfl
    g_fault_of := PySem.W.mg_of X G afault_of
    f_fault_of := f_fault_of
    fd_fault_of := _
    F_fault_of := fun_mk (st := s_fault_of) lfault_of cfault_of kfault_of
    b_fault_of := (fun_mk (st := s_fault_of) lfault_of cfault_of kfault_of).binds (ps := ["row"]) fun _ _ _ _ _ _ us hl => match us, hl with | [_], _ => rfl
    g_is_item := PySem.W.mg_of X G ais_item
    f_is_item := f_is_item
    fd_is_item := _
    F_is_item := fun_mk (st := s_is_item) lis_item cis_item kis_item
    b_is_item := (fun_mk (st := s_is_item) lis_item cis_item kis_item).binds (ps := ["row"]) fun _ _ _ _ _ _ us hl => match us, hl with | [_], _ => rfl
    g_check_items := PySem.W.mg_of X G acheck_items
    f_check_items := f_check_items
    fd_check_items := _
    F_check_items := fun_mk (st := s_check_items) lcheck_items ccheck_items kcheck_items
    b_check_items := (fun_mk (st := s_check_items) lcheck_items ccheck_items kcheck_items).binds (ps := ["rows"]) fun _ _ _ _ _ _ us hl => match us, hl with | [_], _ => rfl
    g__law_draws := PySem.W.mg_of X G a_law_draws
    f__law_draws := f__law_draws
    fd__law_draws := _
    F__law_draws := fun_mk (st := s__law_draws) l_law_draws c_law_draws k_law_draws
    b__law_draws := (fun_mk (st := s__law_draws) l_law_draws c_law_draws k_law_draws).binds (ps := ["_law_script"]) fun _ _ _ _ _ _ us hl => match us, hl with | [_], _ => rfl
    g__law_take := PySem.W.mg_of X G a_law_take
    f__law_take := f__law_take
    fd__law_take := _
    F__law_take := fun_mk (st := s__law_take) l_law_take c_law_take k_law_take
    b__law_take := (fun_mk (st := s__law_take) l_law_take c_law_take k_law_take).binds (ps := ["_law_draws_here", "_law_bound"]) fun _ _ _ _ _ _ us hl => match us, hl with | [_, _], _ => rfl
    g__law_same := PySem.W.mg_of X G a_law_same
    f__law_same := f__law_same
    fd__law_same := _
    F__law_same := fun_mk (st := s__law_same) l_law_same c_law_same k_law_same
    b__law_same := (fun_mk (st := s__law_same) l_law_same c_law_same k_law_same).binds (ps := ["_law_actual", "_law_due"]) fun _ _ _ _ _ _ us hl => match us, hl with | [_, _], _ => rfl
    g__law_name := PySem.W.mg_of X G a_law_name
    f__law_name := f__law_name
    fd__law_name := _
    F__law_name := fun_mk (st := s__law_name) l_law_name c_law_name k_law_name
    b__law_name := (fun_mk (st := s__law_name) l_law_name c_law_name k_law_name).binds (ps := ["_law_draws_here"]) fun _ _ _ _ _ _ us hl => match us, hl with | [_], _ => rfl
    g__law_items := PySem.W.mg_of X G a_law_items
    f__law_items := f__law_items
    fd__law_items := _
    F__law_items := fun_mk (st := s__law_items) l_law_items c_law_items k_law_items
    b__law_items := (fun_mk (st := s__law_items) l_law_items c_law_items k_law_items).binds (ps := ["_law_draws_here", "_law_most"]) fun _ _ _ _ _ _ us hl => match us, hl with | [_, _], _ => rfl
    g__law_spoilt := PySem.W.mg_of X G a_law_spoilt
    f__law_spoilt := f__law_spoilt
    fd__law_spoilt := _
    F__law_spoilt := fun_mk (st := s__law_spoilt) l_law_spoilt c_law_spoilt k_law_spoilt
    b__law_spoilt := (fun_mk (st := s__law_spoilt) l_law_spoilt c_law_spoilt k_law_spoilt).binds (ps := ["_law_draws_here", "_law_rows"]) fun _ _ _ _ _ _ us hl => match us, hl with | [_, _], _ => rfl
    g__law_fine := PySem.W.mg_of X G a_law_fine
    f__law_fine := f__law_fine
    fd__law_fine := _
    F__law_fine := fun_mk (st := s__law_fine) l_law_fine c_law_fine k_law_fine
    b__law_fine := (fun_mk (st := s__law_fine) l_law_fine c_law_fine k_law_fine).binds (ps := ["_law_text"]) fun _ _ _ _ _ _ us hl => match us, hl with | [_], _ => rfl
    g__law_reason := PySem.W.mg_of X G a_law_reason
    f__law_reason := f__law_reason
    fd__law_reason := _
    F__law_reason := fun_mk (st := s__law_reason) l_law_reason c_law_reason k_law_reason
    b__law_reason := (fun_mk (st := s__law_reason) l_law_reason c_law_reason k_law_reason).binds (ps := ["_law_row"]) fun _ _ _ _ _ _ us hl => match us, hl with | [_], _ => rfl
    g__law_fault := PySem.W.mg_of X G a_law_fault
    f__law_fault := f__law_fault
    fd__law_fault := _
    F__law_fault := fun_mk (st := s__law_fault) l_law_fault c_law_fault k_law_fault
    b__law_fault := (fun_mk (st := s__law_fault) l_law_fault c_law_fault k_law_fault).binds (ps := ["_law_rows"]) fun _ _ _ _ _ _ us hl => match us, hl with | [_], _ => rfl
    g_law := PySem.W.mg_of X G alaw
    f_law := fa
    fd_law := _
    F_law := fun_mk (st := s_law) llaw claw klaw
    b_law := (fun_mk (st := s_law) llaw claw klaw).binds (ps := ["_law_script"]) fun _ _ _ _ _ _ us hl => match us, hl with | [_], _ => rfl
    t_MOST_AMOUNT := t_MOST_AMOUNT
    g_MOST_AMOUNT := PySem.W.mg_of X G hMOST_AMOUNT
    t_MOST_WEIGHT := t_MOST_WEIGHT
    g_MOST_WEIGHT := PySem.W.mg_of X G hMOST_WEIGHT
    t_NAME_SIGNS := t_NAME_SIGNS
    g_NAME_SIGNS := PySem.W.mg_of X G hNAME_SIGNS
    z_abs := PySem.W.mg_none_of X G zabs
    z_all := PySem.W.mg_none_of X G zall
    z_bool := PySem.W.mg_none_of X G zbool
    z_enumerate := PySem.W.mg_none_of X G zenumerate
    z_int := PySem.W.mg_none_of X G zint
    z_isinstance := PySem.W.mg_none_of X G zisinstance
    z_len := PySem.W.mg_none_of X G zlen
    z_list := PySem.W.mg_none_of X G zlist
    z_range := PySem.W.mg_none_of X G zrange
    z_reversed := PySem.W.mg_none_of X G zreversed
    z_str := PySem.W.mg_none_of X G zstr
    z_tuple := PySem.W.mg_none_of X G ztuple }
  exact ⟨T.fd_law, fun s v => .of_eq rfl, fun base _ _ => ok_law T⟩
end Sam
open PySem PySem.W PyProof.Rows
set_option maxHeartbeats 0 in
theorem PySem.Challenge.cw_samphire_k00_items_checked_holds : PySem.Challenge.rw_samphire_k00_items_checked.Holds := by
  w_on; o_law; k_head; (case hw => w_witness2)
  k_fill
  refine L2.walk_of (l := PySem.Challenge.rw_samphire_k00_items_checked) (n := 63) (k := 5) (x := "_law_script") (CX := fun _ => L2.CX0) (sp := fun w => Sam.sp_law _) rfl (by decide) rfl ⟨rfl, by decide, by decide⟩ (fun w h Y => PySem.W.kIn_of Y) ?F (fun _ _ a ns hl _ hS => ⟨a, ns, rfl, hS, hl, fun _ => rfl⟩) (fun _ _ _ _ _ h => h)
  case F =>
    intro w mg fa h KX G hmg
    refine' Sam.all_mk KX G hmg ?ais_name ?lis_name ?cis_name ?kis_name ?afault_of ?lfault_of ?cfault_of ?kfault_of ?ais_item ?lis_item ?cis_item ?kis_item ?acheck_items ?lcheck_items ?ccheck_items ?kcheck_items ?a_law_draws ?l_law_draws ?c_law_draws ?k_law_draws ?a_law_take ?l_law_take ?c_law_take ?k_law_take ?a_law_same ?l_law_same ?c_law_same ?k_law_same ?a_law_name ?l_law_name ?c_law_name ?k_law_name ?a_law_items ?l_law_items ?c_law_items ?k_law_items ?a_law_spoilt ?l_law_spoilt ?c_law_spoilt ?k_law_spoilt ?a_law_fine ?l_law_fine ?c_law_fine ?k_law_fine ?a_law_reason ?l_law_reason ?c_law_reason ?k_law_reason ?a_law_fault ?l_law_fault ?c_law_fault ?k_law_fault ?alaw ?llaw ?claw ?klaw ?hMOST_AMOUNT ?hMOST_WEIGHT ?hNAME_SIGNS ?zabs ?zall ?zbool ?zenumerate ?zint ?zisinstance ?zlen ?zlist ?zrange ?zreversed ?zstr ?ztuple
    (case ais_name => k_is)
    (case lis_name => k_is)
    (case cis_name => k_is)
    (case kis_name => k_is)
    (case afault_of => k_is)
    (case lfault_of => k_is)
    (case cfault_of => k_is)
    (case kfault_of => k_is)
    (case ais_item => k_is)
    (case lis_item => k_is)
    (case cis_item => k_is)
    (case kis_item => k_is)
    (case acheck_items => k_is)
    (case lcheck_items => k_is)
    (case ccheck_items => k_is)
    (case kcheck_items => k_is)
    (case a_law_draws => k_is)
    (case l_law_draws => k_is)
    (case c_law_draws => k_is)
    (case k_law_draws => k_is)
    (case a_law_take => k_is)
    (case l_law_take => k_is)
    (case c_law_take => k_is)
    (case k_law_take => k_is)
    (case a_law_same => k_is)
    (case l_law_same => k_is)
    (case c_law_same => k_is)
    (case k_law_same => k_is)
    (case a_law_name => k_is)
    (case l_law_name => k_is)
    (case c_law_name => k_is)
    (case k_law_name => k_is)
    (case a_law_items => k_is)
    (case l_law_items => k_is)
    (case c_law_items => k_is)
    (case k_law_items => k_is)
    (case a_law_spoilt => k_is)
    (case l_law_spoilt => k_is)
    (case c_law_spoilt => k_is)
    (case k_law_spoilt => k_is)
    (case a_law_fine => k_is)
    (case l_law_fine => k_is)
    (case c_law_fine => k_is)
    (case k_law_fine => k_is)
    (case a_law_reason => k_is)
    (case l_law_reason => k_is)
    (case c_law_reason => k_is)
    (case k_law_reason => k_is)
    (case a_law_fault => k_is)
    (case l_law_fault => k_is)
    (case c_law_fault => k_is)
    (case k_law_fault => k_is)
    (case alaw => k_is)
    (case llaw => k_is)
    (case claw => k_is)
    (case klaw => k_is)
    (case hMOST_AMOUNT => k_is)
    (case hMOST_WEIGHT => k_is)
    (case hNAME_SIGNS => k_is)
    (case zabs => k_is)
    (case zall => k_is)
    (case zbool => k_is)
    (case zenumerate => k_is)
    (case zint => k_is)
    (case zisinstance => k_is)
    (case zlen => k_is)
    (case zlist => k_is)
    (case zrange => k_is)
    (case zreversed => k_is)
    (case zstr => k_is)
    (case ztuple => k_is)

