import PyProof.Rows.All
import Wide.All
import OpenK.AllK
import Wide.FinOn
import HandS.ForMost
import HandS.Walk
import HandS.Wide
import HandS.IsInst
import HandS.Codes
import HandS.Rev
import HandS.Steps
import HandS.More
import HandS.NoneIn
import HandS.ExcInit
import HandS.ExcField
import HandS.WordsExc
import HandS.WordsDict
import HandS.TryOnly
import HandS.ExcOwn
import HandS.ExcIs
import PyProof.Rows.StrMeet
import PySem.Challenge.RW_samphire_k58_plans_checked
set_option Elab.async false
set_option linter.all false
set_option maxRecDepth 100000
namespace Sam
end Sam
namespace SamRev
open PySem PySem.Spec PyProof.Rows L2 RT
/-! ### list(reversed(xs)): the list's own machine over a reversed list's iterator -/
section
variable {prog : Program} {w : World} {A : Around} {E : Value → Shared → Prop} {s : Shared} {it l : Addr} {items : Array Value}
/-- an empty list at S is extended by it -/
theorem extend_rev {R : Result → Shared → Prop} (hh : A.handled = none) (hit : s.heap.IsRevIter it l ((items.size : Int) - 1)) (hl : s.heap.IsList l items) (hne : l ≠ it)
    (hn : items.size ≤ sizeLine) (S : Addr) (res : Value) (c₀ : Nat) (hS : s.heap.get? S = some { cls := .type "list", data := .seq #[] c₀ }) (hSi : S ≠ it) (hSl : S ≠ l)
    (hR : ∀ h' tk acc' c', (∀ b o, b ≠ S → b ≠ it → s.heap.get? b = some o → h'.get? b = some o) →
      h'.get? S = some { cls := .type "list", dict := none, data := .seq acc' c', slots := #[] } →
      ItemsOf (fun i v => items[items.size - 1 - i]? = some v) acc' items.size → R (.ok (.ret res)) { s with heap := h', toks := tk }) :
    wpAny (model prog w) A.in1 (Builtin.List.listExtendWith (.ref S) (.ref it) res)
      (fun fin s' => match fin with | .done f => R (.ok f) s' | .again c' => c'.quiet = true ∧ codeAny (model prog w) A c' R s')
      (fun e s' => R (.error e) s') s := by
  have W := (Walks.listRev (prog := prog) (w := w) (A := A.in1) hh it l hne items).toS
  have nS : S ∉ [it, l] := by
    simp only [List.mem_cons, List.not_mem_nil, or_false, not_or]
    exact ⟨hSi, hSl⟩
  have same : Builtin.List.listSameRef (.ref S) (.ref it) = false := by
    simp [Builtin.List.listSameRef, hSi]
  unfold Builtin.List.listExtendWith
  refine wpAny_bind (wpAny_typeOf hit.typeIs ?_)
  rw [if_neg (by rw [same]; decide)]
  refine wpAny_bind (wpAny_pyIter_revIter hit ?_)
  refine wpAny_bind (wpAny_holding ?_)
  unfold Builtin.List.listLengthHint
  refine wpAny_bind (wpAny_specialOf hit.typeIs nolen_lri ?_)
  show wpAny _ A.in1 (specialOf (.ref it) (Str.ofString "__length_hint__") >>= _) _ _ _
  refine wpAny_bind (wpAny_specialOf hit.typeIs hint_lri ?_)
  generalize hid : ("list_reverseiterator.__length_hint__" : String) = id0
  wp_delta
  have spl : splitId id0 = some ("list_reverseiterator", "__length_hint__") := by
    subst hid
    decide +kernel
  rw [spl]
  subst hid
  refine wpAny_bind (wpAny_isInstance (b := true) hit.typeIs (by rw [isSubtype_type]; kernel_rfl) ?_)
  refine wpAny_pure ?_
  rw [if_neg (by decide)]
  have e0 : ((items.size : Nat) : Int) - 1 - ((0 : Nat) : Int) = (items.size : Int) - 1 := by
    omega
  refine wpAny_pure ⟨plainId_quiet F.plain_extend_loop _, ?_⟩
  refine codeAny_extend_loopS W hn _ nS _ items.size 0 _ _ _ rfl (Nat.zero_le _)
    ⟨Nat.zero_le _, by rw [e0]; exact hit, hl⟩ hS (ItemsOf.nil _) fun s' acc' c' hm hS' hacc => ?_
  rw [Moved.eq_with hm]
  refine hR s'.heap s'.toks acc' c' (fun b o hb hb2 e => hm.heap b o (fun hmem => ?_) e) hS' hacc
  rcases List.mem_cons.mp hmem with e' | hmem
  · exact hb e'
  · exact hb2 (List.mem_singleton.mp hmem)
theorem init_rev {R : Result → Shared → Prop} (hh : A.handled = none) (hit : s.heap.IsRevIter it l ((items.size : Int) - 1)) (hl : s.heap.IsList l items) (hne : l ≠ it)
    (hn : items.size ≤ sizeLine) (S : Addr) (hS : s.heap.get? S = some { cls := .type "list", data := .seq #[] }) (hSi : S ≠ it) (hSl : S ≠ l)
    (hR : ∀ h' tk acc' c', (∀ b o, b ≠ S → b ≠ it → s.heap.get? b = some o → h'.get? b = some o) →
      h'.get? S = some { cls := .type "list", dict := none, data := .seq acc' c', slots := #[] } →
      ItemsOf (fun i v => items[items.size - 1 - i]? = some v) acc' items.size → R (.ok (.ret .none)) { s with heap := h', toks := tk }) :
    wpAny (model prog w) A.in1 (Builtin.«list.__init__» ⟨[.ref S, .ref it], []⟩)
      (fun fin s' => match fin with | .done f => R (.ok f) s' | .again c' => c'.quiet = true ∧ codeAny (model prog w) A c' R s')
      (fun e s' => R (.error e) s') s := by
  show wpAny _ _ (do
    let old ← Builtin.List.listItems (.ref S)
    Builtin.List.listUpdate (.ref S) (fun _ => #[])
    letGo old.toList.reverse
    Builtin.List.listExtendWith (.ref S) (.ref it) .none) _ _ s
  refine wpAny_bind ?_
  unfold Builtin.List.listItems
  refine wpAny_bind (wpAny_seqItems hS rfl (wpAny_pure ?_))
  show wpAny _ _ (updateSeq S (fun _ => #[]) >>= fun _ =>
    letGo (#[] : Array Value).toList.reverse >>= fun _ =>
    Builtin.List.listExtendWith (.ref S) (.ref it) .none) _ _ s
  refine wpAny_bind (wpAny_updateSeq hS rfl ?_)
  have hS2 := Heap.get?_update_self (Obj.mapSeq (fun _ => (#[] : Array Value))) hS rfl
  have oth : ∀ b o, b ≠ S → s.heap.get? b = some o →
      (s.heap.update S (Obj.mapSeq (fun _ => (#[] : Array Value)))).get? b = some o :=
    fun b o hb e => (Heap.get?_update_other _ _ (Ne.symm hb)).trans e
  refine wpAny_bind (wpAny_letGo ?_)
  have hl' := hl
  obtain ⟨ol, hol, hcl, nl, hdl⟩ := hl'
  refine extend_rev (s := { s with heap := s.heap.update S (Obj.mapSeq (fun _ => (#[] : Array Value))) }) hh
    (hit.at fun o e => oth it o (Ne.symm hSi) e) ⟨ol, oth l _ (Ne.symm hSl) hol, hcl, nl, hdl⟩ hne hn S .none _ hS2 hSi hSl
    fun h' tk acc' c' hk hS' hacc => ?_
  exact hR h' tk acc' c' (fun b o hb hb2 e => hk b o hb hb2 (oth b o hb e)) hS' hacc
theorem call_list_rev {Q : Value → Shared → Prop} (hh : A.handled = none) (hit : s.heap.IsRevIter it l ((items.size : Int) - 1)) (hl : s.heap.IsList l items) (hne : l ≠ it)
    (hn : items.size ≤ sizeLine)
    (hQ : ∀ h' tk acc' c', (∀ b o, b ≠ it → s.heap.get? b = some o → h'.get? b = some o) →
      h'.get? s.heap.objs.size = some { cls := .type "list", dict := none, data := .seq acc' c', slots := #[] } →
      ItemsOf (fun i v => items[items.size - 1 - i]? = some v) acc' items.size → Q (.ref s.heap.objs.size) { s with heap := h', toks := tk }) :
    wpAny (model prog w) A (call (.type "list") [.ref it]) Q E s := by
  refine callType_codes (Q₁ := fun obj s₁ => obj = .ref s.heap.objs.size ∧
      s₁ = { s with heap := s.heap.push { cls := .type "list", data := .seq #[] } })
    F.called_list (F.typeCall_list_1 _) F.entry_list_init (code_list_new _ ⟨rfl, rfl⟩) fun obj s₁ h₁ => ?_
  obtain ⟨rfl, rfl⟩ := h₁
  have hS : (s.heap.push { cls := .type "list", data := .seq #[] }).get? s.heap.objs.size =
      some { cls := .type "list", data := .seq #[] } := Heap.get?_push_size _ rfl
  obtain ⟨oi, hoi, _⟩ := id hit
  obtain ⟨ol, hol, _⟩ := id hl
  refine ⟨⟨_, hS, rfl⟩, F.args_list_init_2 _ _, ?_⟩
  refine init_rev (A := A.in1) (s := { s with heap := s.heap.push { cls := .type "list", data := .seq #[] } }) hh
    (hit.at fun o e => Heap.get?_push_of_some _ e) (hl.push _) hne hn _ hS
    (Nat.ne_of_gt (Heap.lt_size hoi)) (Nat.ne_of_gt (Heap.lt_size hol)) fun h' tk acc' c' hk hS' hacc => ?_
  exact ⟨rfl, hQ h' tk acc' c' (fun b o hb e =>
    hk b o (Nat.ne_of_lt (Heap.lt_size e)) hb (Heap.get?_push_of_some _ e)) hS' hacc⟩
end
/-- list(reversed(x)), x a list: a new list -/
def tLstRev (K : PySem.W.Frag) (te : TE) : TE := fun σ H Q => te σ H fun v H1 => ∃ (a : Addr) (xs : List V), v = .ref a ∧ SqL K H1 a xs ∧ ∀ q, H1 q = none → Q (.ref q) (upd H1 q (.lst xs.reverse))
section
variable {X : Cx}
theorem pe_listRev {e : Expr} {te : TE} {p p2 pos pos2 : Pos} (hc : X.calm = true) (hg : Gl X "list") (hm : X.mg "list" = none) (hg2 : Gl X "reversed") (hm2 : X.mg "reversed" = none) (he : PE X e te)
    (hs : starEach [e] X.env = (false, eval e X.env) :: starEach [] X.env := by rfl)
    (hs2 : starEach [.Call (.Name "reversed" p2) [e] [] pos2] X.env =
      (false, eval (.Call (.Name "reversed" p2) [e] [] pos2) X.env) :: starEach [] X.env := by rfl) :
    PE X (.Call (.Name "list" p) [.Call (.Name "reversed" p2) [e] [] pos2] [] pos) (tLstRev X.K te) := by
  refine ⟨fun pins s σ H Q I h => ?_⟩
  refine Call_ (ld_blt I hg hm boot_list (PyProof.Rows.callWith_type1 (args_cons (Call_ (ld_blt I hg2 hm2
    PyProof.Rows.boot_reversed (PyProof.Rows.callWith_type1 (args_cons (thn (he.run pins s σ H _ I h)
      fun u s1 ⟨v, H1, I1, r1, q1⟩ => args_nil ?_) hs) hs rfl))) hs2) hs2 rfl))
  obtain ⟨a, xs, rfl, hq, q⟩ := q1
  obtain rfl : u = Value.ref a := r1
  obtain ⟨its, rv, p', hz⟩ := I1.list hq
  refine call_reversed_list p'.isList (args_nil ?_)
  have k0 : ∀ b o, s1.heap.get? b = some o →
      (s1.heap.push (revObj a ((its.toArray.size : Int) - 1))).get? b = some o := fun b o e => Heap.get?_push_of_some _ e
  have I2 : Inv X pins σ H1 { s1 with heap := s1.heap.push (revObj a ((its.toArray.size : Int) - 1)) } :=
    I1.kept (t' := s1.toks) k0
  have hit : (s1.heap.push (revObj a ((its.toArray.size : Int) - 1))).IsRevIter s1.heap.objs.size a ((its.toArray.size : Int) - 1) :=
    ⟨_, Heap.get?_push_size _ rfl, rfl, rfl⟩
  obtain ⟨oa, hoa, _⟩ := id p'.isList
  have hne : a ≠ s1.heap.objs.size := Nat.ne_of_lt (Heap.lt_size hoa)
  have hz' : its.toArray.size ≤ sizeLine := by
    rw [List.size_toArray, ← rv.length]
    exact hz
  have fp : FpOk X pins H1 s1.heap.objs.size :=
    I1.fpOk (H' := H1) (b := s1.heap.objs.size) (Nat.le_refl _) (I1.hok.fresh (Nat.le_refl _))
  refine call_list_rev (s := { s1 with heap := s1.heap.push (revObj a ((its.toArray.size : Int) - 1)) })
    (I1.ok.hd hc) hit (p'.isList.push _) hne hz' fun h' tk acc c' hk hS hi => ?_
  have hT : s1.heap.objs.size ≤ (s1.heap.push (revObj a ((its.toArray.size : Int) - 1))).objs.size := by
    rw [Heap.size_push]
    exact Nat.le_succ _
  have new : ObjOk X.prog X.w (upd H1 (s1.heap.push (revObj a ((its.toArray.size : Int) - 1))).objs.size (.lst xs.reverse)) h'
      (s1.heap.push (revObj a ((its.toArray.size : Int) - 1))).objs.size (.lst xs.reverse) :=
    ⟨by rw [List.length_reverse]; exact hz, acc.toList, c', vals_rev rv hi, by rw [Array.toArray_toList]; exact hS⟩
  have I3 := I2.turnedNew (t' := tk) (ch := [s1.heap.objs.size]) (T := (s1.heap.push (revObj a ((its.toArray.size : Int) - 1))).objs.size)
    (ob := .lst xs.reverse) (h' := h') (fun b o hb e => hk b o (fun z => hb (List.mem_singleton.mpr z)) e)
    (fun b hb => by rw [List.mem_singleton.mp hb]; exact fp) (Nat.le_refl _) new
  exact ⟨.ref _, _, I3, rfl, q _ (I2.hok.fresh (Nat.le_refl _))⟩
end
end SamRev
namespace Sam
open SamRev

open PySem PySem.Spec PyProof.Rows L2
open C8 (pss_cut tCut)
def topS (i : Nat) : Stmt := PySem.Challenge.pw_samphire_k58_plans_checked.main.body.getD i (.Pass ⟨0, 0, 0, 0⟩)
abbrev s_InvalidPlan___init__ : Stmt := (inClass (topS 2) 0)
abbrev nm_InvalidPlan___init__ : List Str := ["self", "reason"]
theorem sc_InvalidPlan___init__ : FnScope ["self", "reason"] ["self", "reason"] (defScope s_InvalidPlan___init__) := ⟨rfl, rfl, rfl, by decide +kernel, rfl, by decide +kernel, by decide +kernel⟩
abbrev s_is_name : Stmt := (topS 6)
abbrev nm_is_name : List Str := ["text", "sign"]
theorem sc_is_name : FnScope ["text", "sign"] ["text"] (defScope s_is_name) := ⟨rfl, rfl, rfl, by decide +kernel, rfl, by decide +kernel, by decide +kernel⟩
abbrev s_check_plan : Stmt := (topS 11)
abbrev nm_check_plan : List Str := ["rules", "others", "pairs", "group", "kind", "size"]
theorem sc_check_plan : FnScope ["rules", "others", "pairs", "group", "kind", "size"] ["rules", "others"] (defScope s_check_plan) := ⟨rfl, rfl, rfl, by decide +kernel, rfl, by decide +kernel, by decide +kernel⟩
abbrev s_Plan___init__ : Stmt := (inClass (topS 12) 0)
abbrev nm_Plan___init__ : List Str := ["self", "rules", "others", "reason"]
theorem sc_Plan___init__ : FnScope ["self", "rules", "others", "reason"] ["self", "rules", "others"] (defScope s_Plan___init__) := ⟨rfl, rfl, rfl, by decide +kernel, rfl, by decide +kernel, by decide +kernel⟩
abbrev s_Plan_place_of : Stmt := (inClass (topS 12) 1)
abbrev nm_Plan_place_of : List Str := ["self", "group"]
theorem sc_Plan_place_of : FnScope ["self", "group"] ["self", "group"] (defScope s_Plan_place_of) := ⟨rfl, rfl, rfl, by decide +kernel, rfl, by decide +kernel, by decide +kernel⟩
abbrev s_Plan_places : Stmt := (inClass (topS 12) 2)
abbrev nm_Plan_places : List Str := ["self"]
theorem sc_Plan_places : FnScope ["self"] ["self"] (defScope s_Plan_places) := ⟨rfl, rfl, rfl, by decide +kernel, rfl, by decide +kernel, by decide +kernel⟩
abbrev s_Plan_rule : Stmt := (inClass (topS 12) 3)
abbrev nm_Plan_rule : List Str := ["self", "place"]
theorem sc_Plan_rule : FnScope ["self", "place"] ["self", "place"] (defScope s_Plan_rule) := ⟨rfl, rfl, rfl, by decide +kernel, rfl, by decide +kernel, by decide +kernel⟩
abbrev s_same_plan : Stmt := (topS 13)
abbrev nm_same_plan : List Str := ["plan", "other"]
theorem sc_same_plan : FnScope ["plan", "other"] ["plan", "other"] (defScope s_same_plan) := ⟨rfl, rfl, rfl, by decide +kernel, rfl, by decide +kernel, by decide +kernel⟩
abbrev s__law_draws : Stmt := (topS 15)
abbrev nm__law_draws : List Str := ["_law_script", "_law_draws_here", "_law_cell", "_law_number", "_law_first", "_law_k", "_law_seed"]
theorem sc__law_draws : FnScope ["_law_script", "_law_draws_here", "_law_cell", "_law_number", "_law_first", "_law_k", "_law_seed"] ["_law_script"] (defScope s__law_draws) := ⟨rfl, rfl, rfl, by decide +kernel, rfl, by decide +kernel, by decide +kernel⟩
abbrev s__law_take : Stmt := (topS 16)
abbrev nm__law_take : List Str := ["_law_draws_here", "_law_bound"]
theorem sc__law_take : FnScope ["_law_draws_here", "_law_bound"] ["_law_draws_here", "_law_bound"] (defScope s__law_take) := ⟨rfl, rfl, rfl, by decide +kernel, rfl, by decide +kernel, by decide +kernel⟩
abbrev s__law_same : Stmt := (topS 17)
abbrev nm__law_same : List Str := ["_law_actual", "_law_due", "_law_k"]
theorem sc__law_same : FnScope ["_law_actual", "_law_due", "_law_k"] ["_law_actual", "_law_due"] (defScope s__law_same) := ⟨rfl, rfl, rfl, by decide +kernel, rfl, by decide +kernel, by decide +kernel⟩
abbrev s__law_spoilt : Stmt := (topS 18)
abbrev nm__law_spoilt : List Str := ["_law_draws_here", "_law_rules", "_law_others", "_law_kind", "_law_k"]
theorem sc__law_spoilt : FnScope ["_law_draws_here", "_law_rules", "_law_others", "_law_kind", "_law_k"] ["_law_draws_here", "_law_rules", "_law_others"] (defScope s__law_spoilt) := ⟨rfl, rfl, rfl, by decide +kernel, rfl, by decide +kernel, by decide +kernel⟩
abbrev s__law_fine : Stmt := (topS 19)
abbrev nm__law_fine : List Str := ["_law_text", "_law_sign"]
theorem sc__law_fine : FnScope ["_law_text", "_law_sign"] ["_law_text"] (defScope s__law_fine) := ⟨rfl, rfl, rfl, by decide +kernel, rfl, by decide +kernel, by decide +kernel⟩
abbrev s__law_reason : Stmt := (topS 20)
abbrev nm__law_reason : List Str := ["_law_rules", "_law_others", "_law_pairs", "_law_group", "_law_pair"]
theorem sc__law_reason : FnScope ["_law_rules", "_law_others", "_law_pairs", "_law_group", "_law_pair"] ["_law_rules", "_law_others"] (defScope s__law_reason) := ⟨rfl, rfl, rfl, by decide +kernel, rfl, by decide +kernel, by decide +kernel⟩
abbrev s__law_made : Stmt := (topS 21)
abbrev nm__law_made : List Str := ["_law_rules", "_law_others", "e"]
theorem sc__law_made : FnScope ["_law_rules", "_law_others", "e"] ["_law_rules", "_law_others"] (defScope s__law_made) := ⟨rfl, rfl, rfl, by decide +kernel, rfl, by decide +kernel, by decide +kernel⟩
abbrev s__law_stands : Stmt := (topS 22)
abbrev nm__law_stands : List Str := ["_law_rules", "_law_others", "_law_kept", "_law_made_here", "_law_again", "_law_changed", "_law_places", "_law_group", "_law_place"]
theorem sc__law_stands : FnScope ["_law_rules", "_law_others", "_law_kept", "_law_made_here", "_law_again", "_law_changed", "_law_places", "_law_group", "_law_place"] ["_law_rules", "_law_others"] (defScope s__law_stands) := ⟨rfl, rfl, rfl, by decide +kernel, rfl, by decide +kernel, by decide +kernel⟩
abbrev s_law : Stmt := (topS 23)
abbrev nm_law : List Str := ["_law_script", "_law_draws_here", "_law_rules", "_law_group", "_law_others", "_law_turn", "_law_reason_here", "_law_told"]
theorem sc_law : FnScope ["_law_script", "_law_draws_here", "_law_rules", "_law_group", "_law_others", "_law_turn", "_law_reason_here", "_law_told"] ["_law_script"] (defScope s_law) := ⟨rfl, rfl, rfl, by decide +kernel, rfl, by decide +kernel, by decide +kernel⟩
/-! ### own layer: what stays, new objects, steps -/
/-- all that was tracked outside F is as it was -/
def Ex (F : List Addr) (H H' : Hp) : Prop := ∀ b o, b ∉ F → H b = some o → H' b = some o
theorem Ex.refl {F : List Addr} (H : Hp) : Ex F H H := fun _ _ _ h => h
theorem Ex.trans {F : List Addr} {H H1 H2 : Hp} (a : Ex F H H1) (b : Ex F H1 H2) : Ex F H H2 := fun c o n h => b c o n (a c o n h)
theorem Ex.of {F : List Addr} {H H1 : Hp} (a : Same H H1) : Ex F H H1 := fun c o _ h => a c o h
theorem Ex.mono {F G : List Addr} {H H1 : Hp} (a : Ex F H H1) (h : ∀ b, b ∈ F → b ∈ G) : Ex G H H1 := fun c o n e => a c o (fun z => n (h c z)) e
theorem Ex.rd {F : List Addr} {H H' : Hp} {a : Addr} {u : HO} (e : Ex F H H') (n : a ∉ F) (h : Rd H a u) : Rd H' a u := by
  rcases h with h | ⟨o, h⟩
  · exact .inl (e _ _ n h)
  · exact .inr ⟨o, e _ _ n h⟩
theorem Ex.seq {K : PySem.W.Frag} {F : List Addr} {H H' : Hp} {a : Addr} {xs : List V} (e : Ex F H H') (n : a ∉ F) (h : SqL K H a xs) : SqL K H' a xs := by
  rcases h with h | h
  · exact .inl (e.rd n h)
  · exact .inr h
theorem Ex.tup {K : PySem.W.Frag} {F : List Addr} {H H' : Hp} {a : Addr} {xs : List V} (e : Ex F H H') (n : a ∉ F) (h : SqT K H a xs) : SqT K H' a xs := by
  rcases h with h | h
  · exact .inl (e.rd n h)
  · exact .inr h
theorem same_upd {H : Hp} {p : Addr} {o : HO} (h : H p = none) : Same H (upd H p o) := fun b x e => by
  rw [upd_ne (ne_of_none e h)]
  exact e
/-- an object that H does not know is changed -/
theorem _root_.L2.Same.mut {H H' : Hp} {p : Addr} {o : HO} (e : Same H H') (h : H p = none) : Same H (upd H' p o) := fun a u ha => by
  rw [upd_ne (ne_of_none ha h)]
  exact e a u ha
theorem Ex.mut {F : List Addr} {H H' : Hp} {p : Addr} {o : HO} (e : Ex F H H') (h : H p = none ∨ p ∈ F) : Ex F H (upd H' p o) := fun a u n ha => by
  have hne : a ≠ p := by
    rcases h with h | h
    · exact ne_of_none ha h
    · exact fun z => n (z ▸ h)
  rw [upd_ne hne]
  exact e a u n ha
theorem _root_.L2.Same.tupq {K : PySem.W.Frag} {H H' : Hp} {a : Addr} {xs : List V} (e : Same H H') (h : SqT K H a xs) : SqT K H' a xs := by
  rcases h with (h | ⟨o, h⟩) | h
  · exact .inl (.inl (e _ _ h))
  · exact .inl (.inr ⟨o, e _ _ h⟩)
  · exact .inr h
/-- a new object, met by what is known of the heap -/
theorem w_new {H : Hp} {o : HO} {Q : V → Hp → Prop} (h : ∀ p H', H p = none → Same H H' → H' p = some o → Q (.ref p) H') : ∀ p, H p = none → Q (.ref p) (upd H p o) := fun p hp => h p _ hp (same_upd hp) upd_same
section
variable {K : PySem.W.Frag} {H : Hp} {Q : VK}
theorem w_ixL {p : Addr} {xs : List V} {i : Int} {v : V} (h : SqL K H p xs) (e : atI xs i = some v) (q : Q v H) : rIxL K (.ref p) (.int i) H Q := ⟨p, xs, i, v, rfl, rfl, h, e, q⟩
theorem w_ixT {p : Addr} {xs : List V} {i : Int} {v : V} (h : SqT K H p xs) (e : atI xs i = some v) (q : Q v H) : rIxT K (.ref p) (.int i) H Q := ⟨p, xs, i, v, rfl, rfl, h, e, q⟩
end
theorem bl_inj {a b : Bool} (h : V.bl a = V.bl b) : a = b := V.bl.inj h
theorem ite_dec {c : Prop} [Decidable c] {A B : Prop} (h1 : c → A) (h2 : ¬ c → B) : if decide c = true then A else B := by
  by_cases h : c
  · rw [if_pos (decide_eq_true h)]; exact h1 h
  · rw [if_neg (by rw [decide_eq_false h]; exact Bool.false_ne_true)]; exact h2 h
theorem atI_int {xs : List V} {i : Int} {v : V} (h0 : 0 ≤ i) (h : xs[i.toNat]? = some v) : atI xs i = some v := by
  have e := atI_nat h
  rw [Int.toNat_of_nonneg h0] at e
  exact e
theorem map_get {ns : List Int} {i : Nat} {v : V} (h : (ns.map V.int)[i]? = some v) : ∃ z, v = .int z ∧ ns[i]? = some z := by
  rw [List.getElem?_map] at h
  cases e : ns[i]? with
  | none => rw [e] at h; cases h
  | some z => rw [e] at h; exact ⟨z, (Option.some.inj h).symm, rfl⟩
theorem get_map {ns : List Int} {i : Nat} {z : Int} (h : ns[i]? = some z) : (ns.map V.int)[i]? = some (.int z) := by
  rw [List.getElem?_map, h]
  rfl
theorem nin {p L : Addr} (h : p ≠ L) : p ∉ [L] := fun z => h (List.mem_singleton.mp z)
/-- a change at x alone, which H did not know -/
theorem Ex.new1 {F : List Addr} {H H1 H2 : Hp} {x : Addr} (a : Ex F H H1) (b : Ex [x] H1 H2) (h : H x = none) : Ex F H H2 := fun c o n e => b c o (nin (ne_of_none e h)) (a c o n e)
theorem Ex.free {F : List Addr} {H H' : Hp} {l : Addr} (e : Ex F H H') (n : l ∉ F) (h : H' l = none) : H l = none := by
  cases q : H l with
  | none => rfl
  | some o =>
    rw [e l o n q] at h
    cases h
theorem Ex.at {F : List Addr} {H H' : Hp} {l : Addr} {o : HO} (e : Ex F H H') (n : l ∉ F) (h : H l = some o) : H' l = some o := e l o n h
theorem ixN_int {n : Nat} {k : Int} (h0 : 0 ≤ k) (h1 : k < n) : ixN n k = some k.toNat := by
  unfold ixN
  rw [if_pos h0, if_pos h1]
theorem sum_set : ∀ (l : List Int) (j : Nat) (x v : Int), l[j]? = some x → (l.set j v).sum = l.sum - x + v
  | [], _, _, _, h => by simp at h
  | y :: l, 0, x, v, h => by
    have e : y = x := by simpa using h
    subst e
    simp
    omega
  | y :: l, j + 1, x, v, h => by
    have ih := sum_set l j x v (by simpa using h)
    simp only [List.set_cons_succ, List.sum_cons, ih]
    omega
theorem mem_le_sum : ∀ (l : List Int), (∀ x ∈ l, 0 ≤ x) → ∀ x ∈ l, x ≤ l.sum
  | [], _, x, hx => by simp at hx
  | y :: l, h, x, hx => by
    have h0 : 0 ≤ y := h y List.mem_cons_self
    have hl : ∀ x ∈ l, 0 ≤ x := fun z hz => h z (List.mem_cons_of_mem _ hz)
    have hs : 0 ≤ l.sum := sum_nn l hl
    rcases List.mem_cons.mp hx with e | e
    · subst e; rw [List.sum_cons]; omega
    · have := mem_le_sum l hl x e
      rw [List.sum_cons]; omega
where
  sum_nn : ∀ (l : List Int), (∀ x ∈ l, 0 ≤ x) → 0 ≤ l.sum
    | [], _ => by simp
    | y :: l, h => by
      have h0 : 0 ≤ y := h y List.mem_cons_self
      have := sum_nn l (fun z hz => h z (List.mem_cons_of_mem _ hz))
      rw [List.sum_cons]; omega
theorem sum_le_of : ∀ (l : List Int) (b : Int), (∀ x ∈ l, x ≤ b) → l.sum ≤ b * l.length
  | [], _, _ => by simp
  | y :: l, b, h => by
    have h0 : y ≤ b := h y List.mem_cons_self
    have := sum_le_of l b (fun z hz => h z (List.mem_cons_of_mem _ hz))
    rw [List.sum_cons, List.length_cons]
    have e : b * ((l.length + 1 : Nat) : Int) = b * l.length + b := by
      rw [Int.natCast_add, Int.mul_add]; simp
    omega
theorem w_yes {σ : L2.St} {H : Hp} {A B : Hp → Prop} (h : A H) : tYes σ H (fun b H3 => if b = true then A H3 else B H3) := by
  show (if true = true then A H else B H)
  rw [if_pos rfl]
  exact h
theorem lk_eq {f : Str} {v : V} {fs : List (Str × V)} : ((f, v) :: fs).lookup f = some v := by simp [List.lookup]
theorem lk_ne {f g : Str} {v : V} {fs : List (Str × V)} (h : (f == g) = false) : ((g, v) :: fs).lookup f = fs.lookup f := by simp [List.lookup, h]
theorem putF_eq {f : Str} {u v : V} {fs : List (Str × V)} : putF f v ((f, u) :: fs) = (f, v) :: fs := by simp [putF]
theorem putF_ne {f g : Str} {u v : V} {fs : List (Str × V)} (h : ¬ g = f) : putF f v ((g, u) :: fs) = (g, u) :: putF f v fs := by simp [putF, h]
theorem putF_nil {f : Str} {v : V} : putF f v [] = [(f, v)] := rfl
/-- a list stays where a thing of another kind at x changes -/
theorem _root_.L2.SqL.stay {K : PySem.W.Frag} {H H' : Hp} {a x : Addr} {xs : List V} {o : HO} (h : SqL K H a xs) (hx : H x = some o) (ho : ∀ ys, o ≠ .lst ys) (ho2 : ∀ b u, o ≠ .frz b u) (e : Ex [x] H H') : SqL K H' a xs := by
  rcases h with (h | ⟨u, h⟩) | h
  · exact .inl (.inl (e _ _ (nin fun z => ho _ (Option.some.inj ((z ▸ hx).symm.trans h))) h))
  · exact .inl (.inr ⟨u, e _ _ (nin fun z => ho2 _ _ (Option.some.inj ((z ▸ hx).symm.trans h))) h⟩)
  · exact .inr h
theorem sqT_of_k {K : PySem.W.Frag} {H : Hp} {a : Addr} {dd : Option Addr} {its : Array Value} {n : Nat} {sl : Array (Option Value)} {xs : List V}
    (l : K.lookup a = some ⟨.type "tuple", dd, .seq its n, sl⟩) (h : Vals xs its.toList) (hz : its.size ≤ 1000 := by simp) : SqT K H a xs :=
  .inr ⟨_, its, n, l, rfl, rfl, Nat.le_trans hz (by decide), h⟩
/-! rules whose reading names K, for use within a comprehension's block -/
section
variable {X : Cx} {K : PySem.W.Frag}
theorem ixLk (h : X.K = K) : IxR X (rIxL K) := by subst h; exact ix_list
theorem ixTk (h : X.K = K) : IxR X (rIxT K) := by subst h; exact ix_tup
theorem eqDk (h : X.K = K) (hu : X.A.units + 64 < cLine) : OpR X (compareOp .Eq) (rEqD K) := by subst h; exact op_eqD hu
theorem neDk (h : X.K = K) (hu : X.A.units + 64 < cLine) : OpR X (compareOp .NotEq) (rNeD K) := by subst h; exact op_neD hu
theorem inSk (h : X.K = K) : OpR X (compareOp .In) (rIn K false) := by subst h; exact op_in_seq
theorem niSk (h : X.K = K) : OpR X (compareOp .NotIn) (rIn K true) := by subst h; exact op_notIn_seq
def rLenQ (K : PySem.W.Frag) : List V → Hp → VK → Prop := fun xs H Q => ∃ p ys, xs = [.ref p] ∧ (SqL K H p ys ∨ SqT K H p ys) ∧ Q (.int ys.length) H
theorem lenk (h : X.K = K) : CallR X (.builtin "len") (rLenQ K) := by subst h; exact call_len_seq
theorem sumk (h : X.K = K) (hc : X.calm = true) : CallR X (.builtin "sum") (rSum K) := by subst h; exact cr_sum hc
theorem allk (h : X.K = K) (hc : X.calm = true) : CallR X (.builtin "all") (rAll K) := by subst h; exact cr_all hc
theorem anyk (h : X.K = K) (hc : X.calm = true) : CallR X (.builtin "any") (rAny K) := by subst h; exact cr_any hc
theorem pe_fldk {o : Expr} {ta : TE} {f : Str} {pos : Pos} (h : X.K = K) (ho : PE X o ta) (hb : attributeBase o f X.env (eval o X.env) = eval o X.env) : PE X (.Attribute o f pos) (tFld K ta f) := by subst h; exact pe_fld ho hb
theorem slLk (h : X.K = K) : SlR X (rSlL K) := by subst h; exact sl_list
theorem slTk (h : X.K = K) : SlR X (rSlT K) := by subst h; exact sl_tup
end
theorem pg_tupk {X : Cx} {K : PySem.W.Frag} {pos : Pos} {es : List Expr} {k : Nat} {t : TGs} {n : Nat} (hK : X.K = K) (hc : X.calm = true) (h : PGs X es t)
    (hn : (assignEach es X.env).length = n := by rfl) (hst : (assignEach es X.env).findIdx? (·.1) = none := by rfl) : PG X (.Tuple es k pos) (gTup K n t) := by subst hK; exact pg_tup hc h hn hst
/-- two tests joined, each known -/
theorem w_or {t u : TT} {σ : L2.St} {H : Hp} {Q : Bool → Hp → Prop} {b1 b2 : Bool} (h1 : ∀ Q' : Bool → Hp → Prop, Q' b1 H → t σ H Q') (h2 : ∀ Q' : Bool → Hp → Prop, Q' b2 H → u σ H Q') (q : Q (b1 || b2) H) : tOr t u σ H Q := by
  refine h1 _ ?_
  cases b1 with
  | true => exact iteT q
  | false => exact iteF (h2 _ q)
theorem w_and {t u : TT} {σ : L2.St} {H : Hp} {Q : Bool → Hp → Prop} {b1 b2 : Bool} (h1 : ∀ Q' : Bool → Hp → Prop, Q' b1 H → t σ H Q') (h2 : ∀ Q' : Bool → Hp → Prop, Q' b2 H → u σ H Q') (q : Q (b1 && b2) H) : tAnd t u σ H Q := by
  refine h1 _ ?_
  cases b1 with
  | true => exact iteT (h2 _ q)
  | false => exact iteF q
theorem w_ifor {t u : TT} {σ : L2.St} {H : Hp} {A B R : TS} {D : Ends} {b1 b2 : Bool} (h1 : ∀ Q' : Bool → Hp → Prop, Q' b1 H → t σ H Q') (h2 : ∀ Q' : Bool → Hp → Prop, Q' b2 H → u σ H Q')
    (q : if (b1 || b2) = true then A { D with nx := R D } σ H else B { D with nx := R D } σ H) : tSeq (tIfS (tOr t u) A B) R D σ H :=
  w_or (t := t) (u := u) h1 h2 q
theorem w_ifand {t u : TT} {σ : L2.St} {H : Hp} {A B R : TS} {D : Ends} {b1 b2 : Bool} (h1 : ∀ Q' : Bool → Hp → Prop, Q' b1 H → t σ H Q') (h2 : ∀ Q' : Bool → Hp → Prop, Q' b2 H → u σ H Q')
    (q : if (b1 && b2) = true then A { D with nx := R D } σ H else B { D with nx := R D } σ H) : tSeq (tIfS (tAnd t u) A B) R D σ H :=
  w_and (t := t) (u := u) h1 h2 q

theorem isik {X : Cx} {K : PySem.W.Frag} (h : X.K = K) : CallR X (.builtin "isinstance") (rIsi K) := by subst h; exact call_isi

/-! ### data: lists of ints, comparisons -/
theorem shaped_mk {d : PyData} (h1 : d.canLay0 = true) (h2 : d.depth ≤ 64) : SeqAt.shaped d = true := by
  unfold SeqAt.shaped
  rw [h1, decide_eq_true h2]
  rfl
theorem lay_ints : ∀ ns : List Int, PyData.canLayAll0 (ns.map PyData.int) = true
  | [] => rfl
  | _ :: r => by
    show (true && PyData.canLayAll0 (r.map PyData.int)) = true
    rw [lay_ints r]
    rfl
theorem depth_ints : ∀ ns : List Int, PyData.depthAll (ns.map PyData.int) = 0
  | [] => rfl
  | _ :: r => by
    show max 0 (PyData.depthAll (r.map PyData.int)) = 0
    rw [depth_ints r]
    rfl
theorem shaped_ints (ns : List Int) : SeqAt.shaped (.list (ns.map .int)) = true := shaped_mk (lay_ints ns) (by
  show PyData.depthAll (ns.map PyData.int) + 1 ≤ 64
  rw [depth_ints]
  decide)
theorem shaped_intsT (ns : List Int) : SeqAt.shaped (.tuple (ns.map .int)) = true := shaped_mk (lay_ints ns) (by
  show PyData.depthAll (ns.map PyData.int) + 1 ≤ 64
  rw [depth_ints]
  decide)
theorem eqvAll_ints : ∀ ns ms : List Int, PyData.eqvAll (ns.map .int) (ms.map .int) = decide (ns = ms)
  | [], [] => rfl
  | [], _ :: _ => rfl
  | _ :: _, [] => rfl
  | x :: r, y :: t => by
    show (PyData.eqv (.int x) (.int y) && PyData.eqvAll (r.map PyData.int) (t.map PyData.int)) = _
    rw [eqvAll_ints r t]
    show ((x == y) && decide (r = t)) = decide (x :: r = y :: t)
    by_cases h1 : x = y
    · by_cases h2 : r = t
      · subst h1 h2; simp
      · subst h1; simp [h2]
    · simp [h1]
theorem eqv_ints (ns ms : List Int) : PyData.eqv (.list (ns.map .int)) (.list (ms.map .int)) = decide (ns = ms) := by
  rw [PyData.eqv]
  exact eqvAll_ints ns ms
theorem eqv_intsT (ns ms : List Int) : PyData.eqv (.tuple (ns.map .int)) (.tuple (ms.map .int)) = decide (ns = ms) := by
  rw [PyData.eqv]
  exact eqvAll_ints ns ms
theorem dp_ints {K : PySem.W.Frag} {H : Hp} : ∀ ns : List Int, DpAll K H (ns.map V.int) (ns.map PyData.int)
  | [] => .nil
  | _ :: r => .cons (.int _) (dp_ints r)

/-! ### dicts: the same entries, the values as a list, get with None; texts in order -/
section
variable {X : Cx}
theorem eqAt_self {A : Around} {s : Shared} {v : V} {u u' : Value} (r : RelV v u) (r' : RelV v u') (f : flatB v = true ∨ ∃ a, v = .ref a) : SeqAt.EqAt A s u u' true := by
  rcases f with f | ⟨a, rfl⟩
  · exact eqAt_same r r' f
  · obtain rfl : u = Value.ref a := r
    obtain rfl : u' = Value.ref a := r'
    exact SeqAt.EqAt.same _
theorem hits_self {κ : Type} [DecidableEq κ] {A : Around} {s : Shared} {kvs : List (κ × V)} {vb : List (κ × Value)} (rb : KV kvs vb) {ks : List (κ × V)} {va : List (κ × Value)} (ra : KV ks va) :
    (∀ p ∈ ks, valV kvs p.1 = some p.2 ∧ (flatB p.2 = true ∨ ∃ a, p.2 = .ref a)) → PySem.W.KeqHits A s vb va true := by
  unfold KV at ra
  induction ra with
  | nil => intro _; exact .nil
  | @cons p q ps qs h t ih =>
    intro hp
    obtain ⟨h1, h2⟩ := h
    obtain ⟨e, f⟩ := hp p List.mem_cons_self
    have rr : RelO (some p.2) (valueAt vb p.1) := by rw [← e]; exact rb.val p.1
    obtain ⟨y, hy, ry⟩ := rr.some_of
    obtain ⟨k, v⟩ := q
    have h1' : p.1 = k := h1
    rw [h1'] at hy
    show PySem.W.KeqHits A s vb ((k, v) :: qs) (true && true)
    exact .hit hy (eqAt_self h2 ry f) (ih fun p' hm => hp p' (List.mem_cons_of_mem _ hm))
/-- d == e, both with the very same entries -/
def rEqDict : V → V → Hp → VK → Prop := fun x y H Q => ∃ a b kvs, x = .ref a ∧ y = .ref b ∧ Rd H a (.dK kvs) ∧ Rd H b (.dK kvs) ∧ (kvs.map (·.1)).Nodup ∧ (∀ p ∈ kvs, flatB p.2 = true ∨ ∃ a, p.2 = .ref a) ∧ Q (.bl true) H
theorem op_eq_dictS (hu : X.A.units < cLine) : OpR X (compareOp .Eq) rEqDict := by
  intro pins s σ H x y v u Q I rx ry h
  obtain ⟨a, b, kvs, rfl, rfl, ea, eb, nd, fl, q⟩ := h
  obtain rfl : v = Value.ref a := rx
  obtain rfl : u = Value.ref b := ry
  obtain ⟨_, ya, va, ra, da⟩ := dk_rd I.hok ea
  obtain ⟨_, yb, vb, rb, db⟩ := dk_rd I.hok eb
  have hl : va.length = vb.length := ra.length.symm.trans rb.length
  exact PySem.W.keq_eq (knd := mixKind X.prog X.w) (r := true) ya yb da db hu (fun _ => hits_self rb ra fun p hp => ⟨val_nodup nd p hp, fl p hp⟩) (fin_bl I q (by simp [hl]))
/-- the view d.values() at p -/
def valsO (p d : Addr) : HO := .ext fun h => h.IsValuesView p d
theorem valsO_ok {P : Program} {w : World} {H : Hp} {h : Heap} {p d : Addr} (e : h.get? p = some { cls := .type "dict_values", data := .fields #[.ref d] }) : ObjOk P w H h p (valsO p d) :=
  ⟨⟨_, e, rfl, rfl⟩, ⟨_, e⟩, fun h1 h2 x k => let ⟨o, ho, r⟩ := x; ⟨o, k o ho, r⟩⟩
def rValues : V → List V → Hp → VK → Prop := fun x xs H Q => ∃ (a : Addr) (kvs : List (Key × V)), x = .ref a ∧ xs = [] ∧ Rd H a (.dK kvs) ∧ ∀ p, H p = none → Q (.ref p) (upd H p (valsO p a))
theorem mt_valuesD : MtR X "dict.values" rValues := by
  intro pins s σ H x xs v us Q I rx rxs h
  obtain ⟨a, kvs, rfl, rfl, ha, q⟩ := h
  cases rx
  cases rxs
  obtain ⟨z, hd, vs, rel, dd⟩ := dk_rd I.hok ha
  have hf : H s.heap.objs.size = none := I.hok.fresh (Nat.le_refl _)
  refine call_meetsIn PySem.F.slot_dict_values dd.typeIs PySem.F.entry_dict_values (PySem.F.args_dict_values_1 _) (meets_dict_values (mixKind X.prog X.w) a hd) ⟨⟨vs, dd⟩, ?_⟩
  exact ⟨.ref s.heap.objs.size, upd H s.heap.objs.size (valsO s.heap.objs.size a), I.laid (t' := s.toks) (fun b u e => Heap.get?_push_of_some _ e) (Nat.le_refl _) (valsO_ok (Heap.get?_push_size _ rfl)), rfl, q _ hf⟩
theorem kv_vals {κ : Type} {kvs : List (κ × V)} {vs : List (κ × Value)} (r : KV kvs vs) : Vals (kvs.map (·.2)) (vs.map (·.2)) := by
  unfold KV at r
  induction r with
  | nil => exact .nil
  | cons h t ih => exact .cons h.2 ih
/-- list of a view of values -/
def rListVals : List V → Hp → VK → Prop := fun xs H Q => ∃ (p a : Addr) (kvs : List (Key × V)), xs = [.ref p] ∧ H p = some (valsO p a) ∧ Rd H a (.dK kvs) ∧ ∀ q, H q = none → Q (.ref q) (upd H q (.lst (kvs.map (·.2))))
theorem call_listVals (hcalm : X.calm = true) : CallR X (.type "list") rListVals := by
  intro pins s σ H xs us Q I r q
  obtain ⟨p, a, kvs, rfl, hp, hd, q⟩ := q
  obtain ⟨u, rfl, rx⟩ := vals1 r
  cases rx
  obtain ⟨z, lo, vs, rel, dd⟩ := dk_rd I.hok hd
  obtain ⟨ep, hat⟩ := dd.dictAt
  have hv : s.heap.IsValuesView p a := (I.hok p _ hp).1
  refine PySem.W.kdl_call (PySem.W.kdl_values (knd := mixKind X.prog X.w) (kvs := vs) (ep := ep)) (I.ok.hd hcalm) ⟨hv, hat⟩ (by rw [← rel.length]; exact z) fun h' tk acc c' hk hD hacc => ?_
  have ev : acc.toList = vs.map (·.2) := PySem.W.kdl_vals_eq acc.toList (by rw [Array.length_toList]; exact hacc.1) fun j v e => hacc.2 j v (by rw [← Array.getElem?_toList]; exact e)
  refine ⟨.ref s.heap.objs.size, upd H s.heap.objs.size (.lst (kvs.map (·.2))), I.laid (t' := tk) hk (Nat.le_refl _)
    (show ObjOk X.prog X.w _ _ _ (.lst (kvs.map (·.2))) from ⟨by rw [List.length_map]; exact z, acc.toList, c', by rw [ev]; exact kv_vals rel, by rw [Array.toArray_toList]; exact hD⟩), rfl, q _ (I.hok.fresh (Nat.le_refl _))⟩
/-- d.get(y, x), y may be None (d's keys ints and texts then) -/
theorem d_getNone {pins : List (Addr × Obj)} {σ : L2.St} {H : Hp} {s : Shared} {a : Addr} {kvs : List (Key × V)} {A : Around} {E Q : Value → Shared → Prop} {r : Value} (I : Inv X pins σ H s) (e : Rd H a (.dK kvs)) (h : ∀ s', Inv X pins σ H s' → Q r s') :
    wpAny (model X.prog X.w) A (call (.builtin "dict.get") [.ref a, .none, r]) Q E s := by
  obtain ⟨_, hd, vs, _, dd⟩ := dk_rd I.hok e
  obtain ⟨f, hm, hf⟩ := none_map dd
  refine call_meetsIn PySem.F.slot_dict_get dd.typeIs PySem.F.entry_dict_get (PySem.F.args_dict_get_3 _ _ _) (meets_dict_get_default (noneKind X.prog X.w) a (k := none) rfl hd r) ⟨_, hm, ?_⟩
  rw [hf]
  exact h _ (I.tok _)
def tDGet2N (td ty tx : TE) : TE := fun σ H Q => td σ H fun x H1 => ∃ a, x = .ref a ∧ IsD H1 a ∧ ty σ H1 fun y H2 => tx σ H2 fun z H3 => (∃ o, DGet H3 a y o ∧ Q (o.getD z) H3) ∨ ∃ kvs, y = .non ∧ Rd H3 a (.dK kvs) ∧ Q z H3
theorem pe_dget2N {o e f : Expr} {apos cpos : Pos} {td ty tx : TE} (hu : X.A.units + 1 < cLine) (ho : PE X o td) (he : PE X e ty) (hf : PE X f tx) (m : M2 X o "get" apos e f cpos) : PE X (.Call (.Attribute o "get" apos) [e, f] [] cpos) (tDGet2N td ty tx) := by
  refine ⟨fun pins s σ H Q I h => ?_⟩
  refine wpAny_Call_method m.base m.few m.line PySem.F.plainAttrs_dict PySem.F.slot_dict_get PySem.F.type_dict_get (thn (ho.run pins s σ H _ I h) fun u s1 ⟨x, H1, I1, rx, a, ex, d, q1⟩ => ?_)
  subst ex
  obtain rfl : u = Value.ref a := rx
  obtain ⟨t1, t2, _⟩ := isD_at I1 d
  refine ⟨t1, t2, ?_⟩
  rw [m.trees]
  refine Calls.callWith_builtin rfl (Calls.evalArgs_plain (Calls.spliced_cons (thn (he.run pins s1 σ H1 _ I1 q1) fun iv s2 ⟨y, H2, I2, ry, q2⟩ =>
    Calls.spliced_cons (thn (hf.run pins s2 σ H2 _ I2 q2) fun fv s3 ⟨z, H3, I3, rz, q3⟩ => Calls.spliced_nil ?_))))
  rcases q3 with ⟨ov, g, q3⟩ | ⟨kvs, rfl, g, q3⟩
  · exact d_get2 hu I3 g ry rz fun w' s4 I4 rw' => ⟨_, H3, I4, rw', q3⟩
  · obtain rfl : iv = Value.none := ry
    exact d_getNone I3 g fun s4 I4 => ⟨_, H3, I4, rz, q3⟩
end
/-- texts in order, by their code points -/
def leS (a b : Str) : Prop := ltCps b.cps.toList a.cps.toList = false
theorem leS_iff {a b : Str} : leS a b ↔ ¬ b.cps.toList < a.cps.toList := by
  unfold leS
  rw [PyProof.Rows.ltCps_eq]
  exact decide_eq_false_iff_not
theorem leS_anti {a b : Str} (h1 : leS a b) (h2 : leS b a) : a = b := by
  rw [leS_iff] at h1 h2
  have e : a.cps.toList = b.cps.toList := List.le_antisymm (List.not_lt.mp h1) (List.not_lt.mp h2)
  cases a with
  | mk x =>
    cases b with
    | mk y => exact congrArg Str.mk (Array.toList_inj.mp e)
theorem leS_trans {a b c : Str} (h1 : leS a b) (h2 : leS b c) : leS a c := by
  rw [leS_iff] at *
  exact List.not_lt.mpr (List.le_trans (List.not_lt.mp h1) (List.not_lt.mp h2))
theorem rising_pw : ∀ (l : List Str) (p : Str), risingS p l = true → (p :: l).Pairwise leS
  | [], p, _ => List.pairwise_cons.mpr ⟨fun _ h => absurd h List.not_mem_nil, .nil⟩
  | x :: r, p, h => by
    obtain ⟨h1, h2⟩ := Bool.and_eq_true_iff.mp h
    have ih := rising_pw r x h2
    have hpx : leS p x := by
      unfold leS
      revert h1
      cases ltCps x.cps.toList p.cps.toList with
      | true => intro h; cases h
      | false => intro _; rfl
    refine List.pairwise_cons.mpr ⟨fun y hy => ?_, ih⟩
    rcases List.mem_cons.mp hy with rfl | hy
    · exact hpx
    · exact leS_trans hpx ((List.pairwise_cons.mp ih).1 y hy)
theorem sorted_pw : ∀ {l : List Str}, sortedS l = true → l.Pairwise leS
  | [], _ => .nil
  | x :: r, h => rising_pw r x h
theorem pw_uniq {α : Type} {le : α → α → Prop} (anti : ∀ a b, le a b → le b a → a = b) : ∀ {l m : List α}, l.Pairwise le → m.Pairwise le → l.Perm m → l = m
  | [], m, _, _, p => (List.nil_perm.mp p).symm
  | x :: r, [], _, _, p => absurd p.length_eq (by simp)
  | x :: r, y :: t, h1, h2, p => by
    obtain ⟨a1, b1⟩ := List.pairwise_cons.mp h1
    obtain ⟨a2, b2⟩ := List.pairwise_cons.mp h2
    have e : x = y := by
      have hx : x ∈ y :: t := p.subset List.mem_cons_self
      have hy : y ∈ x :: r := p.symm.subset List.mem_cons_self
      rcases List.mem_cons.mp hx with e | hx
      · exact e
      · rcases List.mem_cons.mp hy with e | hy
        · exact e.symm
        · exact anti _ _ (a1 y hy) (a2 x hx)
    subst e
    rw [pw_uniq anti b1 b2 (List.Perm.cons_inv p)]
theorem sortedS_uniq {l m : List Str} (h1 : sortedS l = true) (h2 : sortedS m = true) (p : l.Perm m) : l = m := pw_uniq (fun _ _ => leS_anti) (sorted_pw h1) (sorted_pw h2) p

/-! ### own exceptions with an own __init__ that stores one field; an own class whose __init__ may raise, made in a try -/
section
variable {X : Cx} {CX : CXT} {k : Nat} {f C : Addr} {fd : FuncData} {ps : List Str} {sp : Sp} {E : L2.St → XK} {x : Str} {p pos : Pos} {e : Expr} {es : List Expr} {t : TA}
theorem run_makeS {pins : List (Addr × Obj)} {σ : L2.St} {H : Hp} {s : Shared} {Q : VK} {us : List Value} {vs : List V} (M : Mk X.K C f) (F : FnOk X.prog X.w X.K X.mg X.base CX k f fd ps sp) (hr : Room (k + 1) X.A) (hb : Binds X.K fd ps [])
    (hx : PassesAt CX X σ (E σ)) (I : Inv X pins σ H s) (r : Vals vs us)
    (h : ∀ x dx, H x = none → H dx = none → dx ≠ x → sp (.ref x :: vs) (upd (upd H dx (.own x)) x (.ins C dx [])) (fun v H2 => v = .non ∧ Q (.ref x) H2) (E σ)) :
    wpAny (model X.prog X.w) X.A (call (.ref C) us) (EP X pins σ Q) X.xe s := by
  have hq := h (s.heap.objs.size + 1) s.heap.objs.size (I.hok.fresh (Nat.le_succ _)) (I.hok.fresh (Nat.le_refl _)) (Nat.ne_of_lt (Nat.lt_succ_self _))
  have I2 := Inv.made (C := C) I
  have r2 : Vals (V.ref (s.heap.objs.size + 1) :: vs) (Value.ref (s.heap.objs.size + 1) :: us) := .cons rfl r
  have hl : (Value.ref (s.heap.objs.size + 1) :: us).length = ps.length := by
    have e := r2.length
    rw [F.len _ _ _ _ hq] at e
    exact e.symm
  have hb' := hb s (Value.ref (s.heap.objs.size + 1) :: us)
  refine wpAny_call (make_map (f := f) I.kIn M.makes M.init (beq_iff_eq.mp M.fn) (codeAny_mono (F.run _ X.stack _ _ ⟨Value.ref (s.heap.objs.size + 1) :: us, []⟩ (Value.ref (s.heap.objs.size + 1) :: us) _ _ (E σ) (hr.make C us [])
    (I2.env0.make C us []) (by simpa using hb _ (Value.ref (s.heap.objs.size + 1) :: us) I2.kIn (by simpa using hl)) r2 hq) fun r s' hq' => ?_))
  cases r with
  | error e => exact hx pins _ _ e s' I2 hq'
  | ok fl =>
    cases fl with
    | ret u =>
      obtain ⟨v, H', I3, rv, ev, q3⟩ := I2.after hq'
      subst ev
      exact ⟨rv, ⟨V.ref (s.heap.objs.size + 1), H', I3, rfl, q3⟩⟩
    | next => exact False.elim hq'
    | brk => exact False.elim hq'
    | cont => exact False.elim hq'
def tMakeS (C : Addr) (sp : Sp) (E : L2.St → XK) (t : TA) : TE := fun σ H Q => t σ H fun vs H1 => ∀ x dx, H1 x = none → H1 dx = none → dx ≠ x → sp (.ref x :: vs) (upd (upd H1 dx (.own x)) x (.ins C dx [])) (fun v H2 => v = .non ∧ Q (.ref x) H2) (E σ)
theorem pe_makeS (M : Mk X.K C f) (F : FnOk X.prog X.w X.K X.mg X.base CX k f fd ps sp) (hr : Room (k + 1) X.A) (hg : Gl X x) (hm : X.mg x = some (.ref C)) (hb : Binds X.K fd ps []) (hx : ∀ σ, PassesAt CX X σ (E σ))
    (ha : PA X (e :: es) t) (hdb : (x == ("__debug__" : Str)) = false := by decide) (he : starEach (e :: es) X.env = (false, eval e X.env) :: starEach es X.env := by rfl) (hpl : (backTo pos (starEach es X.env)).any (·.1) = false := by rfl) :
    PE X (.Call (.Name x p) (e :: es) [] pos) (tMakeS C sp E t) := by
  refine ⟨fun pins s σ H Q I h => ?_⟩
  refine wpAny_Call_Name_kw (ld_glob I hg hm ?_ hdb)
  refine PySem.W.callWith_K (h₀ := X.base) I.ok.mod.kin M.kp (thn (ha.run pos pins s σ H _ I h) fun us s1 ⟨vs, H1, I1, r, q⟩ => ⟨I1.kIn, ?_⟩) he hpl
  exact run_makeS M F hr hb (hx σ) I1 r q
/-- the __init__ of an exception that stores its one argument -/
def sp_exc1 (K : PySem.W.Frag) (C : Addr) (fld : Str) : Sp := fun vs H Q _ => ∃ (a : Addr) (v : V), vs = [.ref a, v] ∧ H a = some (exo a C none) ∧ ∀ dx, H dx = none → dx ≠ a → Q .non (upd (upd H dx (exd dx [(fld, v)])) a (exo a C (some dx)))
end
/-- X(v): the exception is let go; its dict holds the field -/
theorem exc1_made {K : PySem.W.Frag} {C a : Addr} {fld : Str} {v : V} {H1 : Hp} {Q : XK} {E : XK} (ha : H1 a = none) (q : ∀ d H', Same H1 H' → H1 d = none → H' d = some (.xd [(fld, v)]) → Q (.ref C) (some d) H') :
    sp_exc1 K C fld (.ref a :: ([v] ++ [])) (upd H1 a (exo a C none)) (fun v H2 => v = .non ∧ ∃ (d : Addr) (fs : List (Str × V)), H2 a = some (exo a C (some d)) ∧ H2 d = some (exd d fs) ∧ H1 d = none ∧ Q (.ref C) (some d) (upd (del H2 a) d (.xd fs))) E := by
  refine ⟨a, v, rfl, upd_same, fun dx hdx ne => ⟨rfl, dx, [(fld, v)], upd_same, ?_, ?_, ?_⟩⟩
  · rw [upd_ne ne, upd_same]
  · rw [upd_ne ne] at hdx
    exact hdx
  · have h0 : H1 dx = none := by rw [upd_ne ne] at hdx; exact hdx
    refine q dx _ (fun b o hb => ?_) h0 upd_same
    have n1 : b ≠ a := ne_of_none hb ha
    have n2 : b ≠ dx := ne_of_none hb h0
    rw [upd_ne n2, del_ne n1, upd_ne n1, upd_ne n2, upd_ne n1]
    exact hb
theorem refs_sub (a : Addr) : PySem.HandSPX.refsVE [.ref a, .type "ValueError", .type "Exception", .type "BaseException", .type "object"] = true := by
  show PySem.HandSPX.refsVE [.type "ValueError", .type "Exception", .type "BaseException", .type "object"] = true
  decide +kernel

open PySem.HandSPX (refsVE)
structure Txt (K : PySem.W.Frag) (mg : Str → Option Value) where
  a_Plan : Addr
  cl_Plan : Cls K a_Plan
  g_Plan : mg "Plan" = some (.ref a_Plan)
  n_Plan_rules : NoAttr K a_Plan "rules"
  n_Plan_others : NoAttr K a_Plan "others"
  a_SamphireError : Addr
  g_SamphireError : mg "SamphireError" = some (.ref a_SamphireError)
  kp_SamphireError : PySem.W.keepIn K (.ref a_SamphireError) = true
  sb_SamphireError : PySem.W.subIn K (.ref a_SamphireError) (.type "BaseException") = some true
  ty_SamphireError : PySem.W.typeIn K (.ref a_SamphireError) = some (.type "type")
  te_SamphireError : PySem.W.exmOne K (.ref a_SamphireError) (.ref a_SamphireError) = some true
  a_InvalidPlan : Addr
  g_InvalidPlan : mg "InvalidPlan" = some (.ref a_InvalidPlan)
  kp_InvalidPlan : PySem.W.keepIn K (.ref a_InvalidPlan) = true
  sb_InvalidPlan : PySem.W.subIn K (.ref a_InvalidPlan) (.type "BaseException") = some true
  ty_InvalidPlan : PySem.W.typeIn K (.ref a_InvalidPlan) = some (.type "type")
  te_InvalidPlan : PySem.W.exmOne K (.ref a_InvalidPlan) (.ref a_InvalidPlan) = some true
  ox_InvalidPlan : OexC K a_InvalidPlan
  xf_InvalidPlan : XfC K a_InvalidPlan
  no_InvalidPlan_reason : PySem.W.findIn K (.ref a_InvalidPlan) "reason" = some none
  f_InvalidPlan___init__ : Addr
  fd_InvalidPlan___init__ : FuncData
  F_InvalidPlan___init__ : Fun K "__init__" "InvalidPlan.__init__" s_InvalidPlan___init__ f_InvalidPlan___init__ fd_InvalidPlan___init__
  b_InvalidPlan___init__ : Binds K fd_InvalidPlan___init__ ["self", "reason"] []
  ic_InvalidPlan : PySem.W.findIn K (.ref a_InvalidPlan) "__init__" = some (some (.ref f_InvalidPlan___init__))
  tc_InvalidPlan : PySem.W.typeIn K (.ref f_InvalidPlan___init__) = some (.type "function")
  f_is_name : Addr
  fd_is_name : FuncData
  F_is_name : Fun K "is_name" "is_name" s_is_name f_is_name fd_is_name
  b_is_name : Binds K fd_is_name ["text"] []
  g_is_name : mg "is_name" = some (.ref f_is_name)
  f_check_plan : Addr
  fd_check_plan : FuncData
  F_check_plan : Fun K "check_plan" "check_plan" s_check_plan f_check_plan fd_check_plan
  b_check_plan : Binds K fd_check_plan ["rules", "others"] []
  g_check_plan : mg "check_plan" = some (.ref f_check_plan)
  f_Plan___init__ : Addr
  fd_Plan___init__ : FuncData
  F_Plan___init__ : Fun K "__init__" "Plan.__init__" s_Plan___init__ f_Plan___init__ fd_Plan___init__
  b_Plan___init__ : Binds K fd_Plan___init__ ["self", "rules", "others"] []
  mk_Plan : Mk K a_Plan f_Plan___init__
  f_Plan_place_of : Addr
  fd_Plan_place_of : FuncData
  F_Plan_place_of : Fun K "place_of" "Plan.place_of" s_Plan_place_of f_Plan_place_of fd_Plan_place_of
  b_Plan_place_of : Binds K fd_Plan_place_of ["self", "group"] []
  M_Plan_place_of : Meth K a_Plan "place_of" f_Plan_place_of
  f_Plan_places : Addr
  fd_Plan_places : FuncData
  F_Plan_places : Fun K "places" "Plan.places" s_Plan_places f_Plan_places fd_Plan_places
  b_Plan_places : Binds K fd_Plan_places ["self"] []
  M_Plan_places : Meth K a_Plan "places" f_Plan_places
  f_Plan_rule : Addr
  fd_Plan_rule : FuncData
  F_Plan_rule : Fun K "rule" "Plan.rule" s_Plan_rule f_Plan_rule fd_Plan_rule
  b_Plan_rule : Binds K fd_Plan_rule ["self", "place"] []
  M_Plan_rule : Meth K a_Plan "rule" f_Plan_rule
  f_same_plan : Addr
  fd_same_plan : FuncData
  F_same_plan : Fun K "same_plan" "same_plan" s_same_plan f_same_plan fd_same_plan
  b_same_plan : Binds K fd_same_plan ["plan", "other"] []
  g_same_plan : mg "same_plan" = some (.ref f_same_plan)
  f__law_draws : Addr
  fd__law_draws : FuncData
  F__law_draws : Fun K "_law_draws" "_law_draws" s__law_draws f__law_draws fd__law_draws
  b__law_draws : Binds K fd__law_draws ["_law_script"] []
  g__law_draws : mg "_law_draws" = some (.ref f__law_draws)
  f__law_take : Addr
  fd__law_take : FuncData
  F__law_take : Fun K "_law_take" "_law_take" s__law_take f__law_take fd__law_take
  b__law_take : Binds K fd__law_take ["_law_draws_here", "_law_bound"] []
  g__law_take : mg "_law_take" = some (.ref f__law_take)
  f__law_same : Addr
  fd__law_same : FuncData
  F__law_same : Fun K "_law_same" "_law_same" s__law_same f__law_same fd__law_same
  b__law_same : Binds K fd__law_same ["_law_actual", "_law_due"] []
  g__law_same : mg "_law_same" = some (.ref f__law_same)
  f__law_spoilt : Addr
  fd__law_spoilt : FuncData
  F__law_spoilt : Fun K "_law_spoilt" "_law_spoilt" s__law_spoilt f__law_spoilt fd__law_spoilt
  b__law_spoilt : Binds K fd__law_spoilt ["_law_draws_here", "_law_rules", "_law_others"] []
  g__law_spoilt : mg "_law_spoilt" = some (.ref f__law_spoilt)
  f__law_fine : Addr
  fd__law_fine : FuncData
  F__law_fine : Fun K "_law_fine" "_law_fine" s__law_fine f__law_fine fd__law_fine
  b__law_fine : Binds K fd__law_fine ["_law_text"] []
  g__law_fine : mg "_law_fine" = some (.ref f__law_fine)
  f__law_reason : Addr
  fd__law_reason : FuncData
  F__law_reason : Fun K "_law_reason" "_law_reason" s__law_reason f__law_reason fd__law_reason
  b__law_reason : Binds K fd__law_reason ["_law_rules", "_law_others"] []
  g__law_reason : mg "_law_reason" = some (.ref f__law_reason)
  f__law_made : Addr
  fd__law_made : FuncData
  F__law_made : Fun K "_law_made" "_law_made" s__law_made f__law_made fd__law_made
  b__law_made : Binds K fd__law_made ["_law_rules", "_law_others"] []
  g__law_made : mg "_law_made" = some (.ref f__law_made)
  f__law_stands : Addr
  fd__law_stands : FuncData
  F__law_stands : Fun K "_law_stands" "_law_stands" s__law_stands f__law_stands fd__law_stands
  b__law_stands : Binds K fd__law_stands ["_law_rules", "_law_others"] []
  g__law_stands : mg "_law_stands" = some (.ref f__law_stands)
  f_law : Addr
  fd_law : FuncData
  F_law : Fun K "law" "law" s_law f_law fd_law
  b_law : Binds K fd_law ["_law_script"] []
  g_law : mg "law" = some (.ref f_law)
  a_KINDS : Addr
  g_KINDS : mg "KINDS" = some (.ref a_KINDS)
  v_KINDS : ∀ H : Hp, SqT K H a_KINDS [.str ("uniform" : Str), .str ("weighted" : Str), .str ("optimal" : Str)]
  t_MOST_GROUPS : Tok
  g_MOST_GROUPS : mg "MOST_GROUPS" = some (.int (20) t_MOST_GROUPS)
  t_MOST_SIZE : Tok
  g_MOST_SIZE : mg "MOST_SIZE" = some (.int (20) t_MOST_SIZE)
  t_NAME_SIGNS : Tok
  g_NAME_SIGNS : mg "NAME_SIGNS" = some (.str ("abcdefghijklmnopqrstuvwxyz0123456789" : Str) t_NAME_SIGNS)
  z_abs : mg "abs" = none
  z_all : mg "all" = none
  z_bool : mg "bool" = none
  z_dict : mg "dict" = none
  z_int : mg "int" = none
  z_isinstance : mg "isinstance" = none
  z_len : mg "len" = none
  z_list : mg "list" = none
  z_range : mg "range" = none
  z_reversed : mg "reversed" = none
  z_sorted : mg "sorted" = none
  z_str : mg "str" = none
  z_tuple : mg "tuple" = none
section
variable {P : Program} {w : World} {K : PySem.W.Frag} {mg : Str → Option Value} {base : Heap}
/-! ### the draws: a list of ints, popped -/
def Dr (H : Hp) (L : Addr) : Prop := ∃ ns : List Int, H L = some (.lst (ns.map V.int))
theorem Dr.same {H H' : Hp} {L : Addr} (e : Same H H') (h : Dr H L) : Dr H' L := by
  obtain ⟨ns, h⟩ := h
  exact ⟨ns, e _ _ h⟩
theorem Dr.ne {H : Hp} {L p : Addr} (h : Dr H L) (hp : H p = none) : p ≠ L := by
  obtain ⟨ns, h⟩ := h
  exact (ne_of_none h hp).symm
theorem Dr.at {H H' : Hp} {L x : Addr} (e : Ex [x] H H') (n : L ≠ x) (h : Dr H L) : Dr H' L := by
  obtain ⟨ns, h⟩ := h
  exact ⟨ns, e _ _ (nin n) h⟩
theorem ex_put {H : Hp} {L : Addr} {o : HO} : Ex [L] H (L2.upd H L o) := (Ex.refl H).mut (.inr (List.mem_singleton.mpr rfl))
theorem nez {i j : Int} (h : j ≠ 0) : (fun (_ j : Int) => j ≠ 0) i j := h
def sp__law_draws (K : PySem.W.Frag) : Sp := fun vs H Q _ => ∃ (a : Addr) (ns : List Int), vs = [.ref a] ∧ SqL K H a (ns.map V.int) ∧ ns.length ≤ 63 ∧ ∀ L H', H L = none → Same H H' → Dr H' L → Q (.ref L) H'
theorem ok__law_draws (T : Txt K mg) : FnOk P w K mg base CX0 1 T.f__law_draws T.fd__law_draws ["_law_script"] (sp__law_draws K) := by
  refine T.F__law_draws.ok sc__law_draws (fun vs H Q E h => ?_) (fun cdv A outer s H vs Q E hr h => ?_)
  · obtain ⟨a, ns, rfl, _⟩ := h
    rfl
  · obtain ⟨a, ns, rfl, hS, hlen, q⟩ := h
    refine ⟨_, (pss_cons (ps_set (i := 1) sc__law_draws.nd rfl (Or.inl rfl) (pe_lst pa_nil))
      (pss_cons (ps_for PassesOwn.never rfl (pi_list (pv 0)) (pg_name (i := 2) sc__law_draws.nd rfl (Or.inl rfl))
        (pss_cons (ps_set (i := 3) sc__law_draws.nd rfl (Or.inl rfl) (pe_callB (id := "abs") call_abs (by rfl) T.z_abs (by decide +kernel) (pa_cons (pv 2) pa_nil)))
        (pss_cut (ps_if (pt_cmpR op_lt (pv 3) (pe_op op_pow pe_int pe_int) (nomark _))
          (pss_cons (ps_set (i := 4) sc__law_draws.nd rfl (Or.inl rfl) (pe_op op_modN (pe_callTy (T := "int") call_int1 (by rfl) T.z_int (by decide +kernel) (pa_cons (pe_op op_add (pe_op op_mul (pv 3) pe_int) pe_int) pa_nil)) pe_int))
          (pss_cons (ps_expr (pe_bm PySem.F.plainAttrs_list PySem.F.slot_list_append PySem.F.type_list_append mt_append (pv 1) (pa_cons (pe_op op_modN (pe_callTy (T := "int") call_int1 (by rfl) T.z_int (by decide +kernel) (pa_cons (pe_op op_add (pe_op op_mul (pv 4) pe_int) (pv 3)) pa_nil)) pe_int) pa_nil)))
          (pss_cons (ps_expr (pe_bm PySem.F.plainAttrs_list PySem.F.slot_list_append PySem.F.type_list_append mt_append (pv 1) (pa_cons (pe_op op_modN (pe_callTy (T := "int") call_int1 (by rfl) T.z_int (by decide +kernel) (pa_cons (pe_op op_add (pv 4) (pe_op op_fdivW (pv 3) pe_int)) pa_nil)) pe_int) pa_nil)))
          (pss_one (ps_set (i := 3) sc__law_draws.nd rfl (Or.inl rfl) pe_int)))))
          pss_nil)
        (pss_one (ps_for PassesOwn.never rfl (pi_range1 (by rfl) T.z_range (pa_cons pe_int pa_nil)) (pg_name (i := 5) sc__law_draws.nd rfl (Or.inl rfl))
          (pss_one (ps_if (pt_cmpR op_gt (pv 3) pe_int (nomark _))
            (pss_cons (ps_expr (pe_bm PySem.F.plainAttrs_list PySem.F.slot_list_append PySem.F.type_list_append mt_append (pv 1) (pa_cons (pe_op op_modN (pe_callTy (T := "int") call_int1 (by rfl) T.z_int (by decide +kernel) (pa_cons (pv 3) pa_nil)) pe_int) pa_nil)))
            (pss_one (ps_set (i := 3) sc__law_draws.nd rfl (Or.inl rfl) (pe_op op_fdivW (pv 3) pe_int))))
            pss_nil)))))))
      (pss_cons (ps_set (i := 6) sc__law_draws.nd rfl (Or.inl rfl) pe_int)
      (pss_cut (ps_if (pt_cmpR op_gt (pe_callB (id := "len") call_len_seq (by rfl) T.z_len (by decide +kernel) (pa_cons (pv 0) pa_nil)) pe_int (nomark _))
        (pss_one (ps_set (i := 6) sc__law_draws.nd rfl (Or.inl rfl) (pe_op op_add pe_int (pe_callB (id := "abs") call_abs (by rfl) T.z_abs (by decide +kernel) (pa_cons (pe_ix ix_list (pv 0) pe_int (fun _ _ => rfl)) pa_nil)))))
        pss_nil)
      (pss_cons (ps_for PassesOwn.never rfl (pi_range1 (by rfl) T.z_range (pa_cons pe_int pa_nil)) (pg_name (i := 5) sc__law_draws.nd rfl (Or.inl rfl))
        (pss_cons (ps_set (i := 6) sc__law_draws.nd rfl (Or.inl rfl) (pe_op op_modN (pe_callTy (T := "int") call_int1 (by rfl) T.z_int (by decide +kernel) (pa_cons (pe_op op_add (pe_op op_mul (pv 6) pe_int) pe_int) pa_nil)) pe_int))
        (pss_one (ps_expr (pe_bm PySem.F.plainAttrs_list PySem.F.slot_list_append PySem.F.type_list_append mt_append (pv 1) (pa_cons (pe_op op_fdivW (pv 6) pe_int) pa_nil))))))
      (pss_one (ps_ret (pe_listRev rfl (by rfl) T.z_list (by rfl) T.z_reversed (pv 1))))))))), ?_⟩
    refine ⟨Nat.zero_le _, fun D hD => ?_⟩
    have add1 : ∀ {H' : Hp} {ms : List Int} (z : Int), Same H H' → H' D = some (.lst (ms.map V.int)) → Same H (upd H' D (.lst (ms.map V.int ++ [V.int z]))) ∧ upd H' D (.lst (ms.map V.int ++ [V.int z])) D = some (.lst ((ms ++ [z]).map V.int)) :=
      fun z e h => ⟨e.mut hD, by rw [upd_same, List.map_append]; rfl⟩
    have small : ∀ {ms : List Int}, ms.length ≤ 10000 → (ms.map V.int).length < sizeLine := fun h => by
      rw [List.length_map]
      exact Nat.lt_of_le_of_lt h (by decide)
    refine ⟨_, rfl, a, rfl, ⟨_, (same_upd hD).seq hS⟩, for_it walk_list (fun i σ H' => ∃ (x2 x3 x4 x5 x6 : Option V) (ms : List Int), σ = [some (.ref a), some (.ref D), x2, x3, x4, x5, x6] ∧ Same H H' ∧ H' D = some (.lst (ms.map V.int)) ∧ ms.length ≤ 62 * i)
      ⟨_, _, _, _, _, [], rfl, same_upd hD, upd_same, Nat.zero_le _⟩ (fun _ _ _ _ ⟨_, _, _, _, _, _, _, e, _⟩ => e.seq hS) ?_ ?_⟩
    · rintro i v σ Ha Hb hi ⟨x2, x3, x4, x5, x6, ms, rfl, e, hd, hl⟩ ⟨rfl, hv⟩
      obtain ⟨c, rfl, hc⟩ := map_get hv
      have hi63 : i < 63 := by rw [List.length_map] at hi; omega
      refine ⟨_, rfl, c, rfl, ?_⟩
      generalize (if c < 0 then -c else c) = n
      refine ⟨fun σ' H' => ∃ (n : Int) (y4 : Option V) (ms' : List Int), σ' = [some (.ref a), some (.ref D), some (.int c), some (.int n), y4, x5, x6] ∧ Same H H' ∧ H' D = some (.lst (ms'.map V.int)) ∧ ms'.length ≤ 62 * i + 2, ?_, ?_⟩
      · refine ⟨_, rfl, _, _, rfl, rfl, ⟨by decide, by decide, by decide⟩, _, _, rfl, rfl, _, rfl, ite_dec (fun h1 => ?_) (fun h1 => ?_)⟩
        · refine ⟨_, rfl, _, _, rfl, rfl, .inr ⟨by decide, by decide⟩, _, _, rfl, rfl, .inl ⟨_, rfl, _, _, rfl, rfl, (by dsimp only; decide), ?_⟩⟩
          refine ⟨_, rfl, .inl ⟨rfl, _, SqL.of hd⟩, _, rfl, _, _, rfl, rfl, .inr ⟨by decide, by decide⟩, _, rfl, _, _, rfl, rfl, .inl ⟨_, rfl, _, _, rfl, rfl, (by dsimp only; decide), D, _, _, rfl, rfl, hd, small (by omega), ?_⟩⟩
          obtain ⟨e1, hd1⟩ := add1 _ e hd
          refine ⟨_, rfl, .inl ⟨rfl, _, SqL.of hd1⟩, _, rfl, _, rfl, _, _, rfl, rfl, ⟨by decide, by decide⟩, _, _, rfl, rfl, .inl ⟨_, rfl, _, _, rfl, rfl, (by dsimp only; decide), D, _, _, rfl, rfl, hd1, small (by rw [List.length_append, List.length_singleton]; omega), ?_⟩⟩
          obtain ⟨e2, hd2⟩ := add1 _ e1 hd1
          exact ⟨0, _, _, rfl, e2, hd2, by simp only [List.length_append, List.length_singleton]; omega⟩
        · exact ⟨n, _, ms, rfl, e, hd, by omega⟩
      · rintro σ' H' ⟨n, y4, ms', rfl, e', hd', hl'⟩
        refine ⟨_, rfl, by decide, by decide, for_it walk_range (fun j σ H' => ∃ (n : Int) (y5 : Option V) (ms : List Int), σ = [some (.ref a), some (.ref D), some (.int c), some (.int n), y4, y5, x6] ∧ Same H H' ∧ H' D = some (.lst (ms.map V.int)) ∧ ms.length ≤ 62 * i + 2 + j)
          ⟨_, _, _, rfl, e', hd', hl'⟩ (fun _ _ _ _ _ => trivial) ?_ ?_⟩
        · rintro j v σ Hc Hd hj ⟨n, y5, ms2, rfl, e2, hd2, hl2⟩ ⟨rfl, rfl⟩
          have hj60 : j < 60 := hj
          refine ⟨_, rfl, _, _, rfl, rfl, _, rfl, ite_dec (fun h1 => ?_) (fun h1 => ?_)⟩
          · refine ⟨_, rfl, .inl ⟨rfl, _, SqL.of hd2⟩, _, rfl, .inl ⟨_, rfl, _, _, rfl, rfl, (by dsimp only; decide), D, _, _, rfl, rfl, hd2, small (by omega), ?_⟩⟩
            obtain ⟨e3, hd3⟩ := add1 _ e2 hd2
            exact ⟨_, rfl, _, _, rfl, rfl, ⟨by decide, by decide⟩, _, _, _, rfl, e3, hd3, by simp only [List.length_append, List.length_singleton]; omega⟩
          · exact ⟨_, _, _, rfl, e2, hd2, by omega⟩
        · rintro σ Hc ⟨n, y5, ms2, rfl, e2, hd2, hl2⟩
          have hl3 : ms2.length ≤ 62 * i + 2 + 60 := hl2
          exact ⟨_, _, _, _, _, _, rfl, e2, hd2, by omega⟩
    · rintro σ Ha ⟨x2, x3, x4, x5, x6, ms, rfl, e, hd, hl⟩
      have hl0 : ms.length ≤ 62 * 63 := by rw [List.length_map] at hl; omega
      refine ⟨fun σ' H' => H' = Ha ∧ ∃ z : Int, σ' = [some (.ref a), some (.ref D), x2, x3, x4, x5, some (.int z)], ?_, ?_⟩
      · refine ⟨_, rfl, a, _, rfl, .inl (e.seq hS), _, _, rfl, rfl, _, rfl, ite_dec (fun h1 => ?_) (fun h1 => ?_)⟩
        · have h1' : 0 < ns.length := by rw [List.length_map] at h1; omega
          refine ⟨_, rfl, a, _, 0, .int ns[0], rfl, rfl, e.seq hS, atI_nat (j := 0) (get_map (List.getElem?_eq_getElem h1')), _, rfl, _, _, rfl, rfl, rfl, _, rfl⟩
        · exact ⟨rfl, _, rfl⟩
      · rintro σ' H' ⟨rfl, z, rfl⟩
        refine ⟨_, rfl, by decide, by decide, for_it walk_range (fun j σ H' => ∃ (y5 : Option V) (z : Int) (ms : List Int), σ = [some (.ref a), some (.ref D), x2, x3, x4, y5, some (.int z)] ∧ Same H H' ∧ H' D = some (.lst (ms.map V.int)) ∧ ms.length ≤ 62 * 63 + j)
          ⟨_, _, _, rfl, e, hd, hl0⟩ (fun _ _ _ _ _ => trivial) ?_ ?_⟩
        · rintro j v σ Hc Hd hj ⟨y5, z, ms2, rfl, e2, hd2, hl2⟩ ⟨rfl, rfl⟩
          have hj2 : j < 240 := hj
          refine ⟨_, rfl, _, _, rfl, rfl, .inr ⟨by decide, by decide⟩, _, _, rfl, rfl, .inl ⟨_, rfl, _, _, rfl, rfl, (by dsimp only; decide), ?_⟩⟩
          refine ⟨_, rfl, .inl ⟨rfl, _, SqL.of hd2⟩, _, rfl, _, _, rfl, rfl, ⟨by decide, by decide⟩, D, _, _, rfl, rfl, hd2, small (by omega), ?_⟩
          obtain ⟨e3, hd3⟩ := add1 _ e2 hd2
          exact ⟨_, _, _, rfl, e3, hd3, by simp only [List.length_append, List.length_singleton]; omega⟩
        · rintro σ Hc ⟨y5, z, ms2, rfl, e2, hd2, hl2⟩
          refine ⟨_, rfl, D, _, rfl, SqL.of hd2, fun L hL => ?_⟩
          refine q L _ (e2.free hL) (e2.trans (same_upd hL)) ⟨ms2.reverse, ?_⟩
          rw [upd_same, List.map_reverse]
def sp__law_take (K : PySem.W.Frag) : Sp := fun vs H Q _ => ∃ (L : Addr) (m : Int), vs = [.ref L, .int m] ∧ 0 < m ∧ Dr H L ∧ ∀ v H', 0 ≤ v → v < m → Ex [L] H H' → Dr H' L → Q (.int v) H'
theorem ok__law_take (T : Txt K mg) : FnOk P w K mg base CX0 1 T.f__law_take T.fd__law_take ["_law_draws_here", "_law_bound"] (sp__law_take K) := by
  refine T.F__law_take.ok sc__law_take (fun vs H Q E h => ?_) (fun cdv A outer s H vs Q E hr h => ?_)
  · obtain ⟨L, m, rfl, _⟩ := h
    rfl
  · obtain ⟨L, m, rfl, h0, ⟨ns, hL⟩, q⟩ := h
    refine ⟨_, (pss_cons (ps_if (pt_cmpR op_eq (pe_callB (id := "len") call_len_seq (by rfl) T.z_len (by decide +kernel) (pa_cons (pv 0) pa_nil)) pe_int (nomark _))
        (pss_one (ps_ret pe_int))
        pss_nil)
      (pss_one (ps_ret (pe_op op_modN (pe_callTy (T := "int") call_int1 (by rfl) T.z_int (by decide +kernel) (pa_cons (pe_bm0 PySem.F.plainAttrs_list PySem.F.slot_list_pop PySem.F.type_list_pop mt_pop (pv 0)) pa_nil)) (pv 1))))), ?_⟩
    refine ⟨_, rfl, L, _, rfl, .inl (SqL.of hL), rfl, _, rfl, ite_dec (fun h1 => ?_) (fun h1 => ?_)⟩
    · exact q 0 H (Int.le_refl _) h0 (Ex.refl H) ⟨ns, hL⟩
    · have hne : ns ≠ [] := fun z => h1 (by rw [z]; rfl)
      have hlast : (ns.map V.int)[(ns.map V.int).length - 1]? = some (.int (ns.getLast hne)) := by
        rw [List.length_map, List.getElem?_map, ← List.getLast?_eq_getElem?, List.getLast?_eq_some_getLast hne]
        rfl
      refine ⟨_, rfl, .inl ⟨rfl, _, SqL.of hL⟩, L, _, _, rfl, rfl, hL, hlast, .inl ⟨_, rfl, _, rfl, _, _, rfl, rfl, (by show m ≠ 0; omega), ?_⟩⟩
      refine q _ _ (Int.fmod_nonneg_of_pos _ h0) (Int.fmod_lt_of_pos _ h0) ex_put ⟨ns.dropLast, ?_⟩
      rw [upd_same, List.map_dropLast]

/-! ### the same data, by the law's recursion -/
mutual
theorem dp_same {K : PySem.W.Frag} {H H' : Hp} (e : Same H H') : ∀ (d : PyData) (v : V), Dp K H v d → Dp K H' v d
  | .none, _, h => by cases h; exact .non
  | .bool b, _, h => by cases h; exact .bl b
  | .int i, _, h => by cases h; exact .int i
  | .str x, _, h => by cases h; exact .str x
  | .list ds, _, h => by
    cases h with
    | lst hs ha => exact .lst (e.seq hs) (dpAll_same e ds _ ha)
  | .tuple ds, _, h => by
    cases h with
    | tup hs ha => exact .tup (e.tupq hs) (dpAll_same e ds _ ha)
  | .dict _, _, h => by cases h
theorem dpAll_same {K : PySem.W.Frag} {H H' : Hp} (e : Same H H') : ∀ (ds : List PyData) (vs : List V), DpAll K H vs ds → DpAll K H' vs ds
  | [], _, h => by cases h; exact .nil
  | d :: ds, _, h => by
    cases h with
    | cons h1 h2 => exact .cons (dp_same e d _ h1) (dpAll_same e ds _ h2)
end
theorem dpAll_len {K : PySem.W.Frag} {H : Hp} : ∀ {vs : List V} {ds : List PyData}, DpAll K H vs ds → vs.length = ds.length
  | _, _, .nil => rfl
  | _, _, .cons _ t => congrArg (· + 1) (dpAll_len t)
theorem dpAll_get {K : PySem.W.Frag} {H : Hp} : ∀ {vs : List V} {ds : List PyData}, DpAll K H vs ds → ∀ {i : Nat} {d : PyData}, ds[i]? = some d → ∃ v, vs[i]? = some v ∧ Dp K H v d
  | _, _, .nil, i, d, e => by simp at e
  | _, _, .cons h t, 0, d, e => by
    have e1 := Option.some.inj e
    subst e1
    exact ⟨_, rfl, h⟩
  | _, _, .cons h t, i + 1, d, e => dpAll_get t (i := i) e
def tyN : PyData → String
  | .none => "NoneType"
  | .bool _ => "bool"
  | .int _ => "int"
  | .str _ => "str"
  | .list _ => "list"
  | .tuple _ => "tuple"
  | .dict _ => "dict"
theorem tyx_tup' {K : PySem.W.Frag} {H : Hp} {a : Addr} {xs : List V} (h : SqT K H a xs) : TyX K H (.ref a) (.type "tuple") := by
  rcases h with (h | ⟨o, h⟩) | ⟨o, its, n, h1, h2, _⟩
  · exact .base (.tup h)
  · exact .fTuple h
  · exact .kTuple h1 h2
theorem tyx_lst' {K : PySem.W.Frag} {H : Hp} {a : Addr} {xs : List V} (h : SqL K H a xs) : TyX K H (.ref a) (.type "list") := by
  rcases h with (h | ⟨o, h⟩) | ⟨o, its, n, h1, h2, _⟩
  · exact .base (.lst h)
  · exact .base (.frz h)
  · exact .kList h1 h2
theorem ty_of {K : PySem.W.Frag} {H : Hp} {v : V} {d : PyData} (h : Dp K H v d) : TyX K H v (.type (tyN d)) := by
  cases h with
  | non => exact .base .non
  | bl b => exact .base (.bl b)
  | int i => exact .base (.int i)
  | str x => exact .base (.str x)
  | lst hs _ => exact tyx_lst' hs
  | tup hs _ => exact tyx_tup' hs
theorem canAll_get : ∀ {ds : List PyData}, PyData.canLayAll0 ds = true → ∀ {i : Nat} {d : PyData}, ds[i]? = some d → d.canLay0 = true
  | [], _, i, d, e => by simp at e
  | x :: r, h, 0, d, e => by
    have e1 := Option.some.inj e
    subst e1
    exact (Bool.and_eq_true_iff.mp h).1
  | x :: r, h, i + 1, d, e => canAll_get (Bool.and_eq_true_iff.mp h).2 (i := i) e
theorem depthAll_get : ∀ {ds : List PyData} {i : Nat} {d : PyData}, ds[i]? = some d → d.depth ≤ PyData.depthAll ds
  | [], i, d, e => by simp at e
  | x :: r, 0, d, e => by
    have e1 := Option.some.inj e
    subst e1
    exact Nat.le_max_left _ _
  | x :: r, i + 1, d, e => Nat.le_trans (depthAll_get (ds := r) (i := i) e) (Nat.le_max_right _ _)
mutual
def smallD : PyData → Bool
  | .list ds | .tuple ds => decide (ds.length ≤ 1000) && smallAllD ds
  | .none | .bool _ | .int _ | .str _ | .dict _ => true
def smallAllD : List PyData → Bool
  | [] => true
  | d :: r => smallD d && smallAllD r
end
theorem smallAll_get : ∀ {ds : List PyData}, smallAllD ds = true → ∀ {i : Nat} {d : PyData}, ds[i]? = some d → smallD d = true
  | [], _, i, d, e => by simp at e
  | x :: r, h, 0, d, e => by
    have e1 := Option.some.inj e
    subst e1
    exact (Bool.and_eq_true_iff.mp h).1
  | x :: r, h, i + 1, d, e => smallAll_get (Bool.and_eq_true_iff.mp h).2 (i := i) e
def sp__law_same (K : PySem.W.Frag) (n : Nat) : Sp := fun vs H Q _ => ∃ (u v : V) (d : PyData), vs = [u, v] ∧ Dp K H u d ∧ Dp K H v d ∧ d.canLay0 = true ∧ d.depth < n ∧ n ≤ 60 ∧ smallD d = true ∧ Q (.bl true) H
theorem decT {A B : Prop} {b : Bool} (h : B) : if (!decide (V.bl b = V.bl b)) = true then A else B := by
  rw [decide_eq_true rfl]
  exact iteF h
/-- a sequence of either kind -/
theorem same_seq {K : PySem.W.Frag} {H : Hp} {x : Addr} {xs : List V} {isT : Bool} (h : if isT = true then SqT K H x xs else SqL K H x xs) {i : Nat} {v : V} (hi : xs[i]? = some v) {Q : VK} (q : Q v H) : rIx K (.ref x) (.int ((0 : Int) + (i : Nat))) H Q := by
  have e := atI_nat hi
  rw [show ((i : Nat) : Int) = (0 : Int) + (i : Nat) by omega] at e
  cases isT with
  | true => exact .inr (.inl ⟨x, xs, _, v, rfl, rfl, h, e, q⟩)
  | false => exact .inl ⟨x, xs, _, v, rfl, rfl, h, e, q⟩
theorem okR__law_same (T : Txt K mg) : ∀ n, n ≤ 60 → FnOk P w K mg base CX0 (n + 1) T.f__law_same T.fd__law_same ["_law_actual", "_law_due"] (sp__law_same K n)
  | 0, _ => by
    refine T.F__law_same.ok sc__law_same (fun vs H Q E h => ?_) (fun cdv A outer s H vs Q E hr h => ?_)
    · obtain ⟨u, v, d, rfl, _⟩ := h
      rfl
    · obtain ⟨u, v, d, rfl, _, _, _, hd, _⟩ := h
      exact absurd hd (Nat.not_lt_zero _)
  | n + 1, hn => by
    have ok__law_same : ∀ T : Txt K mg, FnOk P w K mg base CX0 (n + 1) T.f__law_same T.fd__law_same ["_law_actual", "_law_due"] (sp__law_same K n) := fun T => okR__law_same T n (by omega)
    refine T.F__law_same.ok sc__law_same (fun vs H Q E h => ?_) (fun cdv A outer s H vs Q E hr h => ?_)
    · obtain ⟨u, v, d, rfl, _⟩ := h
      rfl
    · obtain ⟨u, v, d, rfl, hu, hv, hc, hd, _, hw, q⟩ := h
      refine ⟨_, (pss_cons (ps_if (PW.pt (pw_or (pt_val (pe_callB (id := "isinstance") call_isi (by rfl) T.z_isinstance (by decide +kernel) (pa_cons (pv 1) (pa_cons (pe_bltn (v := .ty "tuple") (by rfl) T.z_tuple (by decide +kernel) rfl) pa_nil)))) (pw_or1 (pt_val (pe_callB (id := "isinstance") call_isi (by rfl) T.z_isinstance (by decide +kernel) (pa_cons (pv 1) (pa_cons (pe_bltn (v := .ty "list") (by rfl) T.z_list (by decide +kernel) rfl) pa_nil)))))))
        (pss_cons (ps_if (PW.pt (pw_or (pt_cmpR op_ne (pe_callB (id := "isinstance") call_isi (by rfl) T.z_isinstance (by decide +kernel) (pa_cons (pv 1) (pa_cons (pe_bltn (v := .ty "tuple") (by rfl) T.z_tuple (by decide +kernel) rfl) pa_nil))) (pe_callB (id := "isinstance") call_isi (by rfl) T.z_isinstance (by decide +kernel) (pa_cons (pv 0) (pa_cons (pe_bltn (v := .ty "tuple") (by rfl) T.z_tuple (by decide +kernel) rfl) pa_nil))) (nomark _)) (pw_or1 (pt_cmpR op_ne (pe_callB (id := "isinstance") call_isi (by rfl) T.z_isinstance (by decide +kernel) (pa_cons (pv 1) (pa_cons (pe_bltn (v := .ty "list") (by rfl) T.z_list (by decide +kernel) rfl) pa_nil))) (pe_callB (id := "isinstance") call_isi (by rfl) T.z_isinstance (by decide +kernel) (pa_cons (pv 0) (pa_cons (pe_bltn (v := .ty "list") (by rfl) T.z_list (by decide +kernel) rfl) pa_nil))) (nomark _)))))
          (pss_one (ps_ret pe_bl))
          pss_nil)
        (pss_cons (ps_if (pt_cmpR op_ne (pe_callB (id := "len") call_len_seq (by rfl) T.z_len (by decide +kernel) (pa_cons (pv 0) pa_nil)) (pe_callB (id := "len") call_len_seq (by rfl) T.z_len (by decide +kernel) (pa_cons (pv 1) pa_nil)) (nomark _))
          (pss_one (ps_ret pe_bl))
          pss_nil)
        (pss_cons (ps_for PassesOwn.never rfl (pi_range1 (by rfl) T.z_range (pa_cons (pe_callB (id := "len") call_len_seq (by rfl) T.z_len (by decide +kernel) (pa_cons (pv 1) pa_nil)) pa_nil)) (pg_name (i := 2) sc__law_same.nd rfl (Or.inl rfl))
          (pss_one (ps_if (pt_not (pt_val (pe_call (ok__law_same T) (hr.mono (by omega)) (by rfl) T.g__law_same T.F__law_same.kp T.b__law_same .nil pass0 (pa_cons (pe_ix ix_seq (pv 0) (pv 2) (fun _ _ => rfl)) (pa_cons (pe_ix ix_seq (pv 1) (pv 2) (fun _ _ => rfl)) pa_nil)))))
            (pss_one (ps_ret pe_bl))
            pss_nil)))
        (pss_one (ps_ret pe_bl)))))
        pss_nil)
      (pss_cons (ps_if (pt_cmpR op_ne (pe_callB (id := "isinstance") call_isi (by rfl) T.z_isinstance (by decide +kernel) (pa_cons (pv 1) (pa_cons (pe_bltn (v := .ty "bool") (by rfl) T.z_bool (by decide +kernel) rfl) pa_nil))) (pe_callB (id := "isinstance") call_isi (by rfl) T.z_isinstance (by decide +kernel) (pa_cons (pv 0) (pa_cons (pe_bltn (v := .ty "bool") (by rfl) T.z_bool (by decide +kernel) rfl) pa_nil))) (nomark _))
        (pss_one (ps_ret pe_bl))
        pss_nil)
      (pss_cons (ps_if (PW.pt (pw_or (pt_cmpR op_ne (pe_callB (id := "isinstance") call_isi (by rfl) T.z_isinstance (by decide +kernel) (pa_cons (pv 1) (pa_cons (pe_bltn (v := .ty "int") (by rfl) T.z_int (by decide +kernel) rfl) pa_nil))) (pe_callB (id := "isinstance") call_isi (by rfl) T.z_isinstance (by decide +kernel) (pa_cons (pv 0) (pa_cons (pe_bltn (v := .ty "int") (by rfl) T.z_int (by decide +kernel) rfl) pa_nil))) (nomark _)) (pw_or1 (pt_cmpR op_ne (pe_callB (id := "isinstance") call_isi (by rfl) T.z_isinstance (by decide +kernel) (pa_cons (pv 1) (pa_cons (pe_bltn (v := .ty "str") (by rfl) T.z_str (by decide +kernel) rfl) pa_nil))) (pe_callB (id := "isinstance") call_isi (by rfl) T.z_isinstance (by decide +kernel) (pa_cons (pv 0) (pa_cons (pe_bltn (v := .ty "str") (by rfl) T.z_str (by decide +kernel) rfl) pa_nil))) (nomark _)))))
        (pss_one (ps_ret pe_bl))
        pss_nil)
      (pss_one (ps_ret (pe_cmpR (op_eqD hr.units) (pv 0) (pv 1) (nomark _))))))), ?_⟩
      have tu := ty_of hu
      have tv := ty_of hv
      cases d with
      | dict _ => cases hu
      | list ds =>
        cases hu with
        | lst hx ax =>
          cases hv with
          | lst hy ay =>
            rename_i x xs y ys
            refine ⟨_, rfl, _, .ty "tuple", .type "list", .type "tuple", false, rfl, .ty _, tv, kit_ty (by decide +kernel), _, rfl, iteF ⟨_, rfl, _, .ty "list", .type "list", .type "list", true, rfl, .ty _, tv, kit_ty (by decide +kernel), _, rfl, iteT ?_⟩⟩
            refine ⟨_, rfl, _, .ty "tuple", .type "list", .type "tuple", false, rfl, .ty _, tv, kit_ty (by decide +kernel), _, rfl, _, .ty "tuple", .type "list", .type "tuple", false, rfl, .ty _, tu, kit_ty (by decide +kernel), rfl, _, rfl, decT ?_⟩
            refine ⟨_, rfl, _, .ty "list", .type "list", .type "list", true, rfl, .ty _, tv, kit_ty (by decide +kernel), _, rfl, _, .ty "list", .type "list", .type "list", true, rfl, .ty _, tu, kit_ty (by decide +kernel), rfl, _, rfl, decT ?_⟩
            have el : xs.length = ys.length := (dpAll_len ax).trans (dpAll_len ay).symm
            refine ⟨_, rfl, x, xs, rfl, .inl hx, _, rfl, y, ys, rfl, .inl hy, rfl, _, rfl, iteNS (by rw [el]) ?_⟩
            have hw2 := Bool.and_eq_true_iff.mp hw
            have hz : ds.length ≤ 1000 := of_decide_eq_true hw2.1
            have hzy : ys.length = ds.length := dpAll_len ay
            refine ⟨_, rfl, y, ys, rfl, .inl hy, _, rfl, by omega, by omega, for_it walk_range (fun i σ H' => ∃ a, σ = [some (.ref x), some (.ref y), a] ∧ H' = H) ⟨_, rfl, rfl⟩ (fun _ _ _ _ _ => trivial) ?_ ?_⟩
            · rintro i z σ Ha Hb hi ⟨a, rfl, rfl⟩ ⟨rfl, rfl⟩
              have hi' : i < ds.length := by omega
              have hg : ds[i]? = some ds[i] := List.getElem?_eq_getElem hi'
              obtain ⟨ux, hux, dux⟩ := dpAll_get ax hg
              obtain ⟨vy, hvy, dvy⟩ := dpAll_get ay hg
              refine ⟨_, rfl, _, rfl, same_seq (isT := false) hx hux ⟨_, rfl, _, rfl, same_seq (isT := false) hy hvy ⟨ux, vy, ds[i], rfl, dux, dvy, canAll_get hc hg, ?_, by omega, smallAll_get hw2.2 hg, _, rfl, iteF ⟨_, rfl, rfl⟩⟩⟩⟩
              have h1 := depthAll_get hg
              have h2 : PyData.depthAll ds + 1 < n + 1 := hd
              omega
            · rintro σ Ha ⟨a, rfl, rfl⟩
              exact q
      | tuple ds =>
        cases hu with
        | tup hx ax =>
          cases hv with
          | tup hy ay =>
            rename_i x xs y ys
            refine ⟨_, rfl, _, .ty "tuple", .type "tuple", .type "tuple", true, rfl, .ty _, tv, kit_ty (by decide +kernel), _, rfl, iteT ?_⟩
            refine ⟨_, rfl, _, .ty "tuple", .type "tuple", .type "tuple", true, rfl, .ty _, tv, kit_ty (by decide +kernel), _, rfl, _, .ty "tuple", .type "tuple", .type "tuple", true, rfl, .ty _, tu, kit_ty (by decide +kernel), rfl, _, rfl, decT ?_⟩
            refine ⟨_, rfl, _, .ty "list", .type "tuple", .type "list", false, rfl, .ty _, tv, kit_ty (by decide +kernel), _, rfl, _, .ty "list", .type "tuple", .type "list", false, rfl, .ty _, tu, kit_ty (by decide +kernel), rfl, _, rfl, decT ?_⟩
            have el : xs.length = ys.length := (dpAll_len ax).trans (dpAll_len ay).symm
            refine ⟨_, rfl, x, xs, rfl, .inr hx, _, rfl, y, ys, rfl, .inr hy, rfl, _, rfl, iteNS (by rw [el]) ?_⟩
            have hw2 := Bool.and_eq_true_iff.mp hw
            have hz : ds.length ≤ 1000 := of_decide_eq_true hw2.1
            have hzy : ys.length = ds.length := dpAll_len ay
            refine ⟨_, rfl, y, ys, rfl, .inr hy, _, rfl, by omega, by omega, for_it walk_range (fun i σ H' => ∃ a, σ = [some (.ref x), some (.ref y), a] ∧ H' = H) ⟨_, rfl, rfl⟩ (fun _ _ _ _ _ => trivial) ?_ ?_⟩
            · rintro i z σ Ha Hb hi ⟨a, rfl, rfl⟩ ⟨rfl, rfl⟩
              have hi' : i < ds.length := by omega
              have hg : ds[i]? = some ds[i] := List.getElem?_eq_getElem hi'
              obtain ⟨ux, hux, dux⟩ := dpAll_get ax hg
              obtain ⟨vy, hvy, dvy⟩ := dpAll_get ay hg
              refine ⟨_, rfl, _, rfl, same_seq (isT := true) hx hux ⟨_, rfl, _, rfl, same_seq (isT := true) hy hvy ⟨ux, vy, ds[i], rfl, dux, dvy, canAll_get hc hg, ?_, by omega, smallAll_get hw2.2 hg, _, rfl, iteF ⟨_, rfl, rfl⟩⟩⟩⟩
              have h1 := depthAll_get hg
              have h2 : PyData.depthAll ds + 1 < n + 1 := hd
              omega
            · rintro σ Ha ⟨a, rfl, rfl⟩
              exact q
      | none =>
        cases hu
        cases hv
        refine ⟨_, rfl, _, .ty "tuple", .type "NoneType", .type "tuple", false, rfl, .ty _, tv, kit_ty (by decide +kernel), _, rfl, iteF ⟨_, rfl, _, .ty "list", .type "NoneType", .type "list", false, rfl, .ty _, tv, kit_ty (by decide +kernel), _, rfl, iteF ?_⟩⟩
        refine ⟨_, rfl, _, .ty "bool", .type "NoneType", .type "bool", false, rfl, .ty _, tv, kit_ty (by decide +kernel), _, rfl, _, .ty "bool", .type "NoneType", .type "bool", false, rfl, .ty _, tu, kit_ty (by decide +kernel), rfl, _, rfl, decT ?_⟩
        refine ⟨_, rfl, _, .ty "int", .type "NoneType", .type "int", false, rfl, .ty _, tv, kit_ty (by decide +kernel), _, rfl, _, .ty "int", .type "NoneType", .type "int", false, rfl, .ty _, tu, kit_ty (by decide +kernel), rfl, _, rfl, decT ?_⟩
        refine ⟨_, rfl, _, .ty "str", .type "NoneType", .type "str", false, rfl, .ty _, tv, kit_ty (by decide +kernel), _, rfl, _, .ty "str", .type "NoneType", .type "str", false, rfl, .ty _, tu, kit_ty (by decide +kernel), rfl, _, rfl, decT ?_⟩
        refine ⟨_, rfl, _, rfl, .none, .none, .non, .non, shaped_mk hc (Nat.zero_le _), shaped_mk hc (Nat.zero_le _), ?_⟩
        rw [SeqAt.eqv_refl _ hc]
        exact q
      | bool b =>
        cases hu
        cases hv
        refine ⟨_, rfl, _, .ty "tuple", .type "bool", .type "tuple", false, rfl, .ty _, tv, kit_ty (by decide +kernel), _, rfl, iteF ⟨_, rfl, _, .ty "list", .type "bool", .type "list", false, rfl, .ty _, tv, kit_ty (by decide +kernel), _, rfl, iteF ?_⟩⟩
        refine ⟨_, rfl, _, .ty "bool", .type "bool", .type "bool", true, rfl, .ty _, tv, kit_ty (by decide +kernel), _, rfl, _, .ty "bool", .type "bool", .type "bool", true, rfl, .ty _, tu, kit_ty (by decide +kernel), rfl, _, rfl, decT ?_⟩
        refine ⟨_, rfl, _, .ty "int", .type "bool", .type "int", true, rfl, .ty _, tv, kit_ty (by decide +kernel), _, rfl, _, .ty "int", .type "bool", .type "int", true, rfl, .ty _, tu, kit_ty (by decide +kernel), rfl, _, rfl, decT ?_⟩
        refine ⟨_, rfl, _, .ty "str", .type "bool", .type "str", false, rfl, .ty _, tv, kit_ty (by decide +kernel), _, rfl, _, .ty "str", .type "bool", .type "str", false, rfl, .ty _, tu, kit_ty (by decide +kernel), rfl, _, rfl, decT ?_⟩
        refine ⟨_, rfl, _, rfl, (.bool b), (.bool b), (.bl _), (.bl _), shaped_mk hc (Nat.zero_le _), shaped_mk hc (Nat.zero_le _), ?_⟩
        rw [SeqAt.eqv_refl _ hc]
        exact q
      | int i =>
        cases hu
        cases hv
        refine ⟨_, rfl, _, .ty "tuple", .type "int", .type "tuple", false, rfl, .ty _, tv, kit_ty (by decide +kernel), _, rfl, iteF ⟨_, rfl, _, .ty "list", .type "int", .type "list", false, rfl, .ty _, tv, kit_ty (by decide +kernel), _, rfl, iteF ?_⟩⟩
        refine ⟨_, rfl, _, .ty "bool", .type "int", .type "bool", false, rfl, .ty _, tv, kit_ty (by decide +kernel), _, rfl, _, .ty "bool", .type "int", .type "bool", false, rfl, .ty _, tu, kit_ty (by decide +kernel), rfl, _, rfl, decT ?_⟩
        refine ⟨_, rfl, _, .ty "int", .type "int", .type "int", true, rfl, .ty _, tv, kit_ty (by decide +kernel), _, rfl, _, .ty "int", .type "int", .type "int", true, rfl, .ty _, tu, kit_ty (by decide +kernel), rfl, _, rfl, decT ?_⟩
        refine ⟨_, rfl, _, .ty "str", .type "int", .type "str", false, rfl, .ty _, tv, kit_ty (by decide +kernel), _, rfl, _, .ty "str", .type "int", .type "str", false, rfl, .ty _, tu, kit_ty (by decide +kernel), rfl, _, rfl, decT ?_⟩
        refine ⟨_, rfl, _, rfl, (.int i), (.int i), (.int _), (.int _), shaped_mk hc (Nat.zero_le _), shaped_mk hc (Nat.zero_le _), ?_⟩
        rw [SeqAt.eqv_refl _ hc]
        exact q
      | str z =>
        cases hu
        cases hv
        refine ⟨_, rfl, _, .ty "tuple", .type "str", .type "tuple", false, rfl, .ty _, tv, kit_ty (by decide +kernel), _, rfl, iteF ⟨_, rfl, _, .ty "list", .type "str", .type "list", false, rfl, .ty _, tv, kit_ty (by decide +kernel), _, rfl, iteF ?_⟩⟩
        refine ⟨_, rfl, _, .ty "bool", .type "str", .type "bool", false, rfl, .ty _, tv, kit_ty (by decide +kernel), _, rfl, _, .ty "bool", .type "str", .type "bool", false, rfl, .ty _, tu, kit_ty (by decide +kernel), rfl, _, rfl, decT ?_⟩
        refine ⟨_, rfl, _, .ty "int", .type "str", .type "int", false, rfl, .ty _, tv, kit_ty (by decide +kernel), _, rfl, _, .ty "int", .type "str", .type "int", false, rfl, .ty _, tu, kit_ty (by decide +kernel), rfl, _, rfl, decT ?_⟩
        refine ⟨_, rfl, _, .ty "str", .type "str", .type "str", true, rfl, .ty _, tv, kit_ty (by decide +kernel), _, rfl, _, .ty "str", .type "str", .type "str", true, rfl, .ty _, tu, kit_ty (by decide +kernel), rfl, _, rfl, decT ?_⟩
        refine ⟨_, rfl, _, rfl, (.str z), (.str z), (.str _), (.str _), shaped_mk hc (Nat.zero_le _), shaped_mk hc (Nat.zero_le _), ?_⟩
        rw [SeqAt.eqv_refl _ hc]
        exact q

/-! ### names -/
def SIGNS : Str := "abcdefghijklmnopqrstuvwxyz0123456789"
def isName (z : Str) : Bool := decide (1 ≤ z.length) && decide (z.length ≤ 12) && z.cps.toList.all fun c => decide (c ∈ SIGNS.cps.toList)
/-- a text of moderate length whose signs are signs -/
def okS (z : Str) : Prop := z.length ≤ 1000 ∧ PyData.strOk z = true
theorem okS.line {z : Str} (h : okS z) : z.length ≤ sizeLine := Nat.le_trans h.1 (by decide)
theorem menu {α : Type} (f : α → V) (zs : List α) {j : Int} (h0 : 0 ≤ j) (h1 : j < zs.length) : ∃ z, z ∈ zs ∧ atI (zs.map f) j = some (f z) := by
  have hj : j.toNat < zs.length := by omega
  refine ⟨zs[j.toNat], List.getElem_mem hj, atI_int h0 ?_⟩
  rw [List.getElem?_map, List.getElem?_eq_getElem hj]
  rfl
theorem take_toList {z : Str} {i c : Nat} (h : z.cps[i]? = some c) : z.cps.toList.take (i + 1) = z.cps.toList.take i ++ [c] := by
  rw [List.take_add_one, Array.getElem?_toList, h]
  rfl

def sp_is_name (K : PySem.W.Frag) : Sp := fun vs H Q _ => ∃ (z : Str), vs = [.str z] ∧ z.length ≤ sizeLine ∧ ∀ H', Same H H' → Q (.bl (isName z)) H'
theorem ok_is_name (T : Txt K mg) : FnOk P w K mg base CX0 1 T.f_is_name T.fd_is_name ["text"] (sp_is_name K) := by
  refine T.F_is_name.ok sc_is_name (fun vs H Q E h => ?_) (fun cdv A outer s H vs Q E hr h => ?_)
  · obtain ⟨z, rfl, _⟩ := h
    rfl
  · obtain ⟨z, rfl, hz, q⟩ := h
    refine ⟨_, (pss_one (ps_ret (pe_and (pe_chain op_le op_le pe_int (pe_callB (id := "len") call_len_str (by rfl) T.z_len (by decide +kernel) (pa_cons (pv 0) pa_nil)) pe_int) (pe_one (pe_callB (id := "all") (cr_all rfl) (by rfl) T.z_all (by decide +kernel) (pa_cons (pe_lc (own := [("sign", 1)]) (g := gName 1) rfl sc_is_name.nd (pi_str (pv 0)) (blkOk_by (own := [("sign", 1)]) (N := nm_is_name) (sc := defScope s_is_name) (by decide +kernel)) (fun _ _ _ _ _ => pg_name (i := 1) sc_is_name.nd rfl (Or.inl rfl)) (fun _ _ _ _ _ => pts_nil) (fun _ _ _ _ _ => (pe_cmpR op_inS (pv 1) (pe_glob (v := .str "abcdefghijklmnopqrstuvwxyz0123456789") (by rfl) T.g_NAME_SIGNS ⟨_, rfl⟩) (by rfl)))) pa_nil)))))), ?_⟩
    have fin : ∀ {b : Bool} {H'}, b = isName z → Same H H' → Q (.bl b) H' := fun e s => by rw [e]; exact q _ s
    refine ⟨_, rfl, z, rfl, hz, _, _, rfl, rfl, _, rfl, ite_dec (fun h1 => ?_) (fun h1 => ?_)⟩
    · refine ⟨_, _, rfl, rfl, _, rfl, ite_dec (fun h2 => ?_) (fun h2 => ?_)⟩
      · refine ⟨_, rfl, z, rfl, fun D hD => ?_⟩
        refine lc_it walk_str (fun i H' => Same H H' ∧ H' D = some (.lst (((z.cps.toList.take i).map fun c => decide (c ∈ SIGNS.cps.toList)).map V.bl))) ⟨same_upd hD, upd_same⟩ (fun _ _ _ _ => trivial) ?_ ?_
        · rintro i x Ha Hb hi ⟨e, hd⟩ ⟨rfl, c, hc, rfl⟩
          refine ⟨rfl, w_yes ⟨_, rfl, c, SIGNS, rfl, rfl, _, hd, ?_, e.mut hD, ?_⟩⟩
          · rw [List.length_map, List.length_map, List.length_take]
            refine Nat.lt_of_le_of_lt (Nat.min_le_left _ _) ?_
            have : z.cps.size ≤ sizeLine := hz
            omega
          · rw [upd_same, take_toList hc]
            simp
        · rintro Ha ⟨e, hd⟩
          refine ⟨D, _, rfl, SqL.of hd, fin ?_ e⟩
          have e0 : z.cps.toList.take z.cps.size = z.cps.toList := by
            rw [← Array.length_toList]
            exact List.take_length
          have h1' : 1 ≤ z.length := by omega
          have h2' : z.length ≤ 12 := by omega
          rw [e0]
          unfold isName
          rw [decide_eq_true h1', decide_eq_true h2', List.all_map]
          rfl
      · refine fin ?_ (Same.refl H)
        have h2' : ¬ z.length ≤ 12 := by omega
        unfold isName
        rw [decide_eq_false h2', Bool.and_false, Bool.false_and]
    · refine ⟨_, rfl, iteF (fin ?_ (Same.refl H))⟩
      have h1' : ¬ 1 ≤ z.length := by omega
      unfold isName
      rw [decide_eq_false h1', Bool.false_and, Bool.false_and]

def signsD (cs : List Nat) : List PyData := cs.map fun c => .str ⟨#[c]⟩
theorem dp_signs {K : PySem.W.Frag} {H : Hp} : ∀ cs : List Nat, DpAll K H (cs.map fun c => V.str ⟨#[c]⟩) (signsD cs)
  | [] => .nil
  | _ :: r => .cons (.str _) (dp_signs r)
theorem lay_signs : ∀ cs : List Nat, (∀ c ∈ cs, c < 0x110000) → PyData.canLayAll0 (signsD cs) = true
  | [], _ => rfl
  | c :: r, h => by
    show (PyData.strOk ⟨#[c]⟩ && PyData.canLayAll0 (signsD r)) = true
    rw [lay_signs r fun x hx => h x (List.mem_cons_of_mem _ hx), Bool.and_true]
    have := h c List.mem_cons_self
    simp [PyData.strOk, this]
theorem depth_signs : ∀ cs : List Nat, PyData.depthAll (signsD cs) = 0
  | [] => rfl
  | c :: r => by
    show max 0 (PyData.depthAll (signsD r)) = 0
    rw [depth_signs r]
    rfl
theorem str_nil {z : Str} : z = "" ↔ z.length = 0 := by
  constructor
  · rintro rfl
    decide +kernel
  · intro h
    obtain ⟨a⟩ := z
    have : a = #[] := Array.eq_empty_of_size_eq_zero h
    subst this
    decide +kernel

def sp__law_fine (K : PySem.W.Frag) : Sp := fun vs H Q _ => ∃ (z : Str), vs = [.str z] ∧ okS z ∧ ∀ H', Same H H' → Q (.bl (isName z)) H'
theorem ok__law_fine (T : Txt K mg) : FnOk P w K mg base CX0 1 T.f__law_fine T.fd__law_fine ["_law_text"] (sp__law_fine K) := by
  refine T.F__law_fine.ok sc__law_fine (fun vs H Q E h => ?_) (fun cdv A outer s H vs Q E hr h => ?_)
  · obtain ⟨z, rfl, _⟩ := h
    rfl
  · obtain ⟨z, rfl, hz, q⟩ := h
    refine ⟨_, (pss_one (ps_ret (pe_and (pe_chain op_lt op_lt pe_int (pe_callB (id := "len") call_len_str (by rfl) T.z_len (by decide +kernel) (pa_cons (pv 0) pa_nil)) pe_int) (pe_one (pe_cmpR (op_eqD hr.units) (pe_lc (own := [("_law_sign", 1)]) (g := gName 1) rfl sc__law_fine.nd (pi_str (pv 0)) (blkOk_by (own := [("_law_sign", 1)]) (N := nm__law_fine) (sc := defScope s__law_fine) (by decide +kernel)) (fun _ _ _ _ _ => pg_name (i := 1) sc__law_fine.nd rfl (Or.inl rfl)) (fun _ _ _ _ _ => (pts_one (pt_cmpR op_notInS (pv 1) pe_str (by rfl)))) (fun _ _ _ _ _ => (pv 1))) (pe_lst pa_nil) (nomark _)))))), ?_⟩
    have fin : ∀ {b : Bool} {H'}, b = isName z → Same H H' → Q (.bl b) H' := fun e s => by rw [e]; exact q _ s
    refine ⟨_, rfl, z, rfl, hz.line, _, _, rfl, rfl, _, rfl, ite_dec (fun h1 => ?_) (fun h1 => ?_)⟩
    · have h1' : 1 ≤ z.length := by omega
      refine ⟨_, _, rfl, rfl, _, rfl, ite_dec (fun h2 => ?_) (fun h2 => ?_)⟩
      · have h2' : z.length ≤ 12 := by omega
        refine ⟨_, rfl, z, rfl, fun D hD => ?_⟩
        refine lc_it walk_str (fun i H' => Same H H' ∧ H' D = some (.lst (((z.cps.toList.take i).filter fun c => !decide (c ∈ SIGNS.cps.toList)).map fun c => V.str ⟨#[c]⟩))) ⟨same_upd hD, upd_same⟩ (fun _ _ _ _ => trivial) ?_ ?_
        · rintro i x Ha Hb hi ⟨e, hd⟩ ⟨rfl, c, hc, rfl⟩
          refine ⟨rfl, _, rfl, c, SIGNS, rfl, rfl, _, rfl, ?_⟩
          by_cases hm : c ∈ SIGNS.cps.toList
          · rw [decide_eq_true hm]
            refine iteF ⟨e, ?_⟩
            rw [take_toList hc, List.filter_append, hd, List.filter_cons_of_neg (by rw [decide_eq_true hm]; decide), List.filter_nil, List.append_nil]
          · rw [decide_eq_false hm]
            refine iteT ⟨_, rfl, _, hd, ?_, e.mut hD, ?_⟩
            · rw [List.length_map]
              refine Nat.lt_of_le_of_lt (List.length_filter_le _ _) ?_
              rw [List.length_take]
              refine Nat.lt_of_le_of_lt (Nat.min_le_left _ _) ?_
              have : z.cps.size ≤ 1000 := hz.1
              exact small1000 (by omega)
            · rw [upd_same, take_toList hc, List.filter_append, List.filter_cons_of_pos (by rw [decide_eq_false hm]; decide), List.filter_nil, List.map_append]
              rfl
        · rintro Ha ⟨e, hd⟩
          have e0 : z.cps.toList.take z.cps.size = z.cps.toList := by
            rw [← Array.length_toList]
            exact List.take_length
          rw [e0] at hd
          refine ⟨Nat.zero_le _, fun L hL => ?_⟩
          have hok : ∀ c ∈ z.cps.toList.filter (fun c => !decide (c ∈ SIGNS.cps.toList)), c < 0x110000 := fun c hc => by
            have h3 := (List.mem_filter.mp hc).1
            have h4 := hz.2
            unfold PyData.strOk at h4
            rw [Array.all_eq_true_iff_forall_mem] at h4
            exact of_decide_eq_true (h4 c (Array.mem_toList_iff.mp h3))
          refine ⟨.list (signsD _), .list [], .lst (SqL.of (same_upd hL D _ hd)) (dp_signs _), .lst (SqL.of upd_same) .nil, shaped_mk (lay_signs _ hok) ?_, rfl, fin ?_ (e.trans (same_upd hL))⟩
          · show PyData.depthAll (signsD _) + 1 ≤ 64
            rw [depth_signs]
            decide
          · unfold isName
            rw [decide_eq_true h1', decide_eq_true h2', Bool.and_true, Bool.true_and, PyData.eqv]
            cases hf : z.cps.toList.filter (fun c => !decide (c ∈ SIGNS.cps.toList)) with
            | nil =>
              show true = _
              symm
              rw [List.all_eq_true]
              intro c hc
              have := List.filter_eq_nil_iff.mp hf c hc
              simpa using this
            | cons c r =>
              show false = _
              symm
              have hm : c ∈ z.cps.toList.filter (fun c => !decide (c ∈ SIGNS.cps.toList)) := by rw [hf]; exact List.mem_cons_self
              obtain ⟨m1, m2⟩ := List.mem_filter.mp hm
              rw [Bool.eq_false_iff]
              intro hall
              have := List.all_eq_true.mp hall c m1
              rw [this] at m2
              cases m2
      · refine fin ?_ (Same.refl H)
        have h2' : ¬ z.length ≤ 12 := by omega
        unfold isName
        rw [decide_eq_false h2', Bool.and_false, Bool.false_and]
    · refine ⟨_, rfl, iteF (fin ?_ (Same.refl H))⟩
      have h1' : ¬ 1 ≤ z.length := by omega
      unfold isName
      rw [decide_eq_false h1', Bool.false_and, Bool.false_and]
/-! ### rules: groups with a kind and a size -/
structure Ru where
  g : Str
  k : Str
  n : Int
def Pr (K : PySem.W.Frag) (H : Hp) (v : V) (k : Str) (n : Int) : Prop := okS k ∧ ∃ a, v = .ref a ∧ SqT K H a [.str k, .int n]
def RuOk (K : PySem.W.Frag) (H : Hp) (e : Key × V) (r : Ru) : Prop := e.1 = .inr r.g ∧ okS r.g ∧ Pr K H e.2 r.k r.n
abbrev Rus (K : PySem.W.Frag) (H : Hp) : List (Key × V) → List Ru → Prop := Paired (RuOk K H)
/-- all tuples stay -/
def Tups (K : PySem.W.Frag) (H H' : Hp) : Prop := ∀ a xs, SqT K H a xs → SqT K H' a xs
theorem Tups.of {K : PySem.W.Frag} {H H' : Hp} (e : Same H H') : Tups K H H' := fun _ _ h => e.tupq h
theorem Tups.refl {K : PySem.W.Frag} (H : Hp) : Tups K H H := fun _ _ h => h
theorem Tups.trans {K : PySem.W.Frag} {H H1 H2 : Hp} (a : Tups K H H1) (b : Tups K H1 H2) : Tups K H H2 := fun _ _ h => b _ _ (a _ _ h)
theorem Tups.ex {K : PySem.W.Frag} {H H' : Hp} {x : Addr} {o : HO} (hx : H x = some o) (n1 : ∀ ys, o ≠ .tup ys) (n2 : ∀ b u, o ≠ .frz b u) (e : Ex [x] H H') : Tups K H H' := fun a xs h => by
  rcases h with (h | ⟨u, h⟩) | h
  · exact .inl (.inl (e _ _ (nin fun z => by rw [z, hx] at h; exact n1 _ (Option.some.inj h)) h))
  · exact .inl (.inr ⟨u, e _ _ (nin fun z => by rw [z, hx] at h; exact n2 _ _ (Option.some.inj h)) h⟩)
  · exact .inr h
theorem Pr.on {K : PySem.W.Frag} {H H' : Hp} {v : V} {k : Str} {n : Int} (e : Tups K H H') (h : Pr K H v k n) : Pr K H' v k n := by
  obtain ⟨o, a, rfl, h⟩ := h
  exact ⟨o, a, rfl, e _ _ h⟩
theorem rusOn {K : PySem.W.Frag} {H H' : Hp} {kvs : List (Key × V)} {rs : List Ru} (e : Tups K H H') (h : Rus K H kvs rs) : Rus K H' kvs rs := Paired.mapP h fun _ _ z => ⟨z.1, z.2.1, z.2.2.on e⟩
theorem rusSnoc {K : PySem.W.Frag} {H : Hp} {e : Key × V} {r : Ru} (q : RuOk K H e r) : ∀ {kvs : List (Key × V)} {rs : List Ru}, Rus K H kvs rs → Rus K H (kvs ++ [e]) (rs ++ [r])
  | _, _, .nil => .cons q .nil
  | _, _, .cons h t => .cons h (rusSnoc q t)
theorem rusMap {K : PySem.W.Frag} {H : Hp} {r : Ru} {v : V} (hr : RuOk K H (.inr r.g, v) r) : ∀ {kvs : List (Key × V)} {rs : List Ru}, Rus K H kvs rs → Rus K H (kvs.map fun kv => if kv.1 = .inr r.g then (kv.1, v) else kv) (rs.map fun x => if x.g = r.g then r else x)
  | _, _, .nil => .nil
  | p :: ps, q :: qs, .cons a t => by
    refine .cons ?_ (rusMap hr t)
    show RuOk K H (if p.1 = .inr r.g then (p.1, v) else p) (if q.g = r.g then r else q)
    by_cases e : q.g = r.g
    · have e1 : p.1 = .inr r.g := by rw [a.1, e]
      rw [if_pos e, if_pos e1, e1]
      exact hr
    · have e1 : ¬ p.1 = .inr r.g := by
        rw [a.1]
        exact fun z => e (Sum.inr.inj z)
      rw [if_neg e, if_neg e1]
      exact a
theorem rusPut {K : PySem.W.Frag} {H : Hp} {kvs : List (Key × V)} {rs : List Ru} {r : Ru} {v : V} (h : Rus K H kvs rs) (hr : RuOk K H (.inr r.g, v) r) : ∃ rs', Rus K H (putK kvs (.inr r.g) v) rs' := by
  unfold putK
  split
  · exact ⟨_, rusMap hr h⟩
  · exact ⟨rs ++ [r], rusSnoc hr h⟩
theorem ndPut {kvs : List (Key × V)} {k : Key} (v : V) (h : (kvs.map (·.1)).Nodup) : ((putK kvs k v).map (·.1)).Nodup := by
  cases hv : valV kvs k with
  | none => exact nd_putK v h hv
  | some u =>
    unfold putK
    have ha : (kvs.any fun kv => decide (kv.1 = k)) = true := by rw [valV_any, hv]; rfl
    rw [if_pos ha, List.map_map]
    have e : ((fun kv : Key × V => kv.1) ∘ fun kv => if kv.1 = k then (kv.1, v) else kv) = fun kv => kv.1 := by
      funext kv
      show (if kv.1 = k then (kv.1, v) else kv).1 = kv.1
      split <;> rfl
    rw [e]
    exact h
theorem rusAt {K : PySem.W.Frag} {H : Hp} {kvs : List (Key × V)} {rs : List Ru} (h : Rus K H kvs rs) {i : Nat} {k : Key} {v : V} (e : kvs[i]? = some (k, v)) : ∃ r, rs[i]? = some r ∧ k = .inr r.g ∧ okS r.g ∧ Pr K H v r.k r.n := by
  induction h generalizing i with
  | nil => simp at e
  | @cons p q ps qs a t ih =>
    cases i with
    | zero =>
      have e1 : p = (k, v) := Option.some.inj e
      subst e1
      exact ⟨q, rfl, a⟩
    | succ i => exact ih e
def vO : Option Str → V
  | none => .non
  | some z => .str z
def dO : Option Str → PyData
  | none => .none
  | some z => .str z
theorem dpO {K : PySem.W.Frag} {H : Hp} : ∀ o : Option Str, Dp K H (vO o) (dO o)
  | none => .non
  | some z => .str z
theorem vO_none {o : Option Str} : decide (vO o = V.non) = o.isNone := by
  cases o <;> rfl
def KINDS3 : List Str := ["uniform", "weighted", "optimal"]
/-- pairs of a kind and a size -/
abbrev Prs (K : PySem.W.Frag) (H : Hp) : List V → List (Str × Int) → Prop := Paired (fun v p => Pr K H v p.1 p.2)
theorem prsOn {K : PySem.W.Frag} {H H' : Hp} {xs : List V} {ps : List (Str × Int)} (e : Tups K H H') (h : Prs K H xs ps) : Prs K H' xs ps := Paired.mapP h fun _ _ z => z.on e
theorem rusVals {K : PySem.W.Frag} {H : Hp} {kvs : List (Key × V)} {rs : List Ru} (h : Rus K H kvs rs) : Prs K H (kvs.map (·.2)) (rs.map fun r => (r.k, r.n)) := by
  induction h with
  | nil => exact .nil
  | cons a t ih => exact .cons a.2.2 ih
theorem prsSnoc {K : PySem.W.Frag} {H : Hp} {v : V} {p : Str × Int} (q : Pr K H v p.1 p.2) : ∀ {xs : List V} {ps : List (Str × Int)}, Prs K H xs ps → Prs K H (xs ++ [v]) (ps ++ [p])
  | _, _, .nil => .cons q .nil
  | _, _, .cons h t => .cons h (prsSnoc q t)
theorem prsAt {K : PySem.W.Frag} {H : Hp} {xs : List V} {ps : List (Str × Int)} (h : Prs K H xs ps) {i : Nat} {v : V} (e : xs[i]? = some v) : ∃ p, ps[i]? = some p ∧ Pr K H v p.1 p.2 := by
  induction h generalizing i with
  | nil => simp at e
  | @cons a b xs' ps' q t ih =>
    cases i with
    | zero =>
      have e1 : a = v := Option.some.inj e
      subst e1
      exact ⟨b, rfl, q⟩
    | succ i => exact ih e
def pairsOf' (rs : List Ru) (k : Str) (n : Int) : List (Str × Int) := (rs.map fun r => (r.k, r.n)) ++ [(k, n)]
def kindOk (p : Str × Int) : Bool := decide (p.1 ∈ KINDS3)
def sizeOk (p : Str × Int) : Bool := decide (1 ≤ p.2) && decide (p.2 ≤ 20)
def reasonP (rs : List Ru) (k : Str) (n : Int) : Option Str :=
  if rs.length > 20 then some "many" else if (rs.all fun r => isName r.g) = false then some "group"
  else if (pairsOf' rs k n).all kindOk = false then some "kind" else if (pairsOf' rs k n).all sizeOk = false then some "size" else none
theorem reasonP_ok {rs : List Ru} {k : Str} {n : Int} {r : Str} (h : reasonP rs k n = some r) : PyData.strOk r = true := by
  unfold reasonP at h
  split at h
  · cases h; decide +kernel
  · split at h
    · cases h; decide +kernel
    · split at h
      · cases h; decide +kernel
      · split at h
        · cases h; decide +kernel
        · cases h
theorem same_frz {H H1 : Hp} {p : Addr} {o : Obj} {u : HO} (h : H p = some u) (e : Same (upd H p (.frz o u)) H1) : Same H (upd H1 p u) := fun b x hb => by
  by_cases z : b = p
  · subst z
    rw [upd_same, ← h, hb]
  · rw [upd_ne z]
    exact e b x (by rw [upd_ne z]; exact hb)
theorem inV_strs (z : Str) : ∀ zs : List Str, inV (.str z) (zs.map V.str) = decide (z ∈ zs)
  | [] => by simp [inV]
  | x :: r => by
    have ih := inV_strs z r
    unfold inV at ih ⊢
    rw [List.map_cons, List.any_cons, ih]
    by_cases h : z = x
    · subst h
      simp [eqV]
    · have h' : ¬ x = z := fun e => h e.symm
      simp [eqV, h, h']
theorem take_snoc {α : Type} {l : List α} {i : Nat} {x : α} (h : l[i]? = some x) : l.take (i + 1) = l.take i ++ [x] := by
  rw [List.take_add_one, h]
  rfl
def sp_InvalidPlan___init__ (K : PySem.W.Frag) (C : Addr) : Sp := sp_exc1 K C "reason"
theorem ok_InvalidPlan___init__ (T : Txt K mg) : FnOk P w K mg base CX0 1 T.f_InvalidPlan___init__ T.fd_InvalidPlan___init__ ["self", "reason"] (sp_InvalidPlan___init__ K T.a_InvalidPlan) := by
  refine T.F_InvalidPlan___init__.ok sc_InvalidPlan___init__ (fun vs H Q E h => ?_) (fun cdv A outer s H vs Q E hr h => ?_)
  · obtain ⟨a, v, rfl, _⟩ := h
    rfl
  · obtain ⟨a, v, rfl, ha, q⟩ := h
    refine ⟨_, (pss_one (ps_ost (pv 0) (pv 1))), ?_⟩
    exact ⟨_, rfl, _, rfl, a, T.a_InvalidPlan, rfl, T.ox_InvalidPlan, T.no_InvalidPlan_reason, .inl ⟨ha, fun dx hd ne => q dx hd ne⟩⟩
def sp_check_plan (K : PySem.W.Frag) : Sp := fun vs H Q _ => ∃ (p : Addr) (kvs : List (Key × V)) (rs : List Ru) (o : V) (k : Str) (n : Int), vs = [.ref p, o] ∧ H p = some (.dK kvs) ∧ Rus K H kvs rs ∧ Pr K H o k n ∧ kvs.length ≤ 900 ∧
  ∀ H', Same H H' → Q (vO (reasonP rs k n)) H'
theorem ok_check_plan (T : Txt K mg) : FnOk P w K mg base CX0 2 T.f_check_plan T.fd_check_plan ["rules", "others"] (sp_check_plan K) := by
  refine T.F_check_plan.ok sc_check_plan (fun vs H Q E h => ?_) (fun cdv A outer s H vs Q E hr h => ?_)
  · obtain ⟨p, kvs, rs, o, k, n, rfl, _⟩ := h
    rfl
  · obtain ⟨p, kvs, rs, o, k, n, rfl, hp, hR, hO, hlen, q⟩ := h
    refine ⟨_, (pss_cons (ps_if (pt_cmpR op_gt (pe_callB (id := "len") call_lenD (by rfl) T.z_len (by decide +kernel) (pa_cons (pv 0) pa_nil)) (pe_glob (v := .int (20)) (by rfl) T.g_MOST_GROUPS ⟨_, rfl⟩) (nomark _))
        (pss_one (ps_ret pe_str))
        pss_nil)
      (pss_cons (ps_if (pt_not (pt_val (pe_callB (id := "all") (cr_all rfl) (by rfl) T.z_all (by decide +kernel) (pa_cons (pe_lock (pe_lc (own := [("group", 3)]) (g := gName 3) rfl sc_check_plan.nd (pi_keys (pv 0)) (blkOk_by (own := [("group", 3)]) (N := nm_check_plan) (sc := defScope s_check_plan) (by decide +kernel)) (fun _ _ _ _ _ => pg_name (i := 3) sc_check_plan.nd rfl (Or.inl rfl)) (fun _ _ _ _ _ => pts_nil) (fun _ _ _ _ _ => (pe_call (ok_is_name T) (hr.mono (by decide)) (by rfl) T.g_is_name T.F_is_name.kp T.b_is_name .nil pass0 (pa_cons (pv 3) pa_nil))))) pa_nil))))
        (pss_one (ps_ret pe_str))
        pss_nil)
      (pss_cons (ps_set (i := 2) sc_check_plan.nd rfl (Or.inl rfl) (pe_op op_cat (pe_callTy (T := "list") (call_listVals rfl) (by rfl) T.z_list (by decide +kernel) (pa_cons (pe_bm0 PySem.F.plainAttrs_dict PySem.F.slot_dict_values PySem.F.type_dict_values mt_valuesD (pv 0)) pa_nil)) (pe_lst (pa_cons (pv 1) pa_nil))))
      (pss_cons (ps_if (pt_not (pt_val (pe_callB (id := "all") (cr_all rfl) (by rfl) T.z_all (by decide +kernel) (pa_cons (pe_lc (own := [("kind", 4), ("size", 5)]) (g := gTup K 2 (gCons (gName 4) (gCons (gName 5) gNil))) rfl sc_check_plan.nd (pi_list (pv 2)) (blkOk_by (own := [("kind", 4), ("size", 5)]) (N := nm_check_plan) (sc := defScope s_check_plan) (by decide +kernel)) (fun _ _ _ _ _ => (pg_tupk (K := K) rfl rfl (pgs_cons (pg_name (i := 4) sc_check_plan.nd rfl (Or.inl rfl)) (pgs_cons (pg_name (i := 5) sc_check_plan.nd rfl (Or.inl rfl)) pgs_nil)))) (fun _ _ _ _ _ => pts_nil) (fun _ _ _ _ _ => (pe_cmpR (inSk (K := K) rfl) (pv 4) (pe_glob (v := .ref T.a_KINDS) (by rfl) T.g_KINDS rfl) (by rfl)))) pa_nil))))
        (pss_one (ps_ret pe_str))
        pss_nil)
      (pss_cons (ps_if (pt_not (pt_val (pe_callB (id := "all") (cr_all rfl) (by rfl) T.z_all (by decide +kernel) (pa_cons (pe_lc (own := [("kind", 4), ("size", 5)]) (g := gTup K 2 (gCons (gName 4) (gCons (gName 5) gNil))) rfl sc_check_plan.nd (pi_list (pv 2)) (blkOk_by (own := [("kind", 4), ("size", 5)]) (N := nm_check_plan) (sc := defScope s_check_plan) (by decide +kernel)) (fun _ _ _ _ _ => (pg_tupk (K := K) rfl rfl (pgs_cons (pg_name (i := 4) sc_check_plan.nd rfl (Or.inl rfl)) (pgs_cons (pg_name (i := 5) sc_check_plan.nd rfl (Or.inl rfl)) pgs_nil)))) (fun _ _ _ _ _ => pts_nil) (fun _ _ _ _ _ => (pe_chain op_le op_le pe_int (pv 5) (pe_glob (v := .int (20)) (by rfl) T.g_MOST_SIZE ⟨_, rfl⟩)))) pa_nil))))
        (pss_one (ps_ret pe_str))
        pss_nil)
      (pss_one (ps_ret pe_non))))))), ?_⟩
    have fin : ∀ {v : V} {H'}, v = vO (reasonP rs k n) → Same H H' → Q v H' := fun e s => by rw [e]; exact q _ s
    have hl : kvs.length = rs.length := Paired.length hR
    refine ⟨_, rfl, p, kvs, rfl, hp, _, _, rfl, rfl, _, rfl, ite_dec (fun h1 => ?_) (fun h1 => ?_)⟩
    · refine fin ?_ (Same.refl H)
      unfold reasonP
      rw [if_pos (by omega)]
      rfl
    · have n1 : ¬ rs.length > 20 := by omega
      refine ⟨p, .dK kvs, hp, trivial, fun od => ?_⟩
      have hfz : upd H p (.frz od (.dK kvs)) p = some (.frz od (.dK kvs)) := upd_same
      have back : ∀ {H1}, Same (upd H p (.frz od (.dK kvs))) H1 → Same H (upd H1 p (.dK kvs)) := fun e => same_frz hp e
      generalize upd H p (.frz od (.dK kvs)) = Hz at hfz back ⊢
      refine ⟨_, rfl, p, od, rfl, .inl ⟨kvs, hfz, fun D hD => ?_⟩⟩
      refine lc_it walk_keys (fun i H' => Same Hz H' ∧ H' D = some (.lst (((rs.take i).map fun r => isName r.g).map V.bl))) ⟨same_upd hD, upd_same⟩ (fun _ _ _ ⟨e, _⟩ => e _ _ hfz) ?_ ?_
      · rintro i x Ha Hb hi ⟨e, hd⟩ ⟨rfl, kk, v, hk, rfl⟩
        obtain ⟨r, hr1, rfl, okg, _⟩ := rusAt hR hk
        refine ⟨rfl, w_yes ⟨_, rfl, r.g, rfl, okg.line, fun H1 e1 => ⟨_, e1 _ _ hd, ?_, (e.trans e1).mut hD, ?_⟩⟩⟩
        · rw [List.length_map, List.length_map, List.length_take]
          exact small1000 (by omega)
        · rw [upd_same, take_snoc hr1]
          simp
      · rintro Ha ⟨e, hd⟩
        refine ⟨e _ _ hfz, ?_⟩
        have e5 := back e
        have nDp : D ≠ p := fun z => by rw [z, hfz] at hD; cases hD
        have hd5 : upd Ha p (.dK kvs) D = some (.lst ((rs.map fun r => isName r.g).map V.bl)) := by
          rw [upd_ne nDp, hd, hl, List.take_length]
        have hp5 : upd Ha p (.dK kvs) p = some (.dK kvs) := upd_same
        generalize upd Ha p (.dK kvs) = H5 at e5 hd5 hp5 ⊢
        refine ⟨D, _, rfl, SqL.of hd5, _, rfl, ?_⟩
        rw [List.all_map]
        show if (!(rs.all fun r => isName r.g)) = true then _ else _
        cases hb : rs.all fun r => isName r.g with
        | false =>
          refine iteT (fin ?_ e5)
          unfold reasonP
          rw [if_neg n1, if_pos hb]
          rfl
        | true =>
          refine iteF ?_
          refine ⟨_, rfl, .inr (.inr (.inl ⟨rfl, .inl ⟨kvs, hp5⟩⟩)), p, kvs, rfl, rfl, .inl hp5, fun vw hvw => ?_⟩
          have e6 := same_upd (o := valsO vw p) hvw
          have hv6 : upd H5 vw (valsO vw p) vw = some (valsO vw p) := upd_same
          generalize upd H5 vw (valsO vw p) = H6 at e6 hv6 ⊢
          refine ⟨vw, p, kvs, rfl, hv6, .inl (e6 _ _ hp5), fun q1 hq1 => ?_⟩
          have e7 := same_upd (o := .lst (kvs.map (·.2))) hq1
          have hq7 : upd H6 q1 (.lst (kvs.map (·.2))) q1 = some (.lst (kvs.map (·.2))) := upd_same
          generalize upd H6 q1 (.lst (kvs.map (·.2))) = H7 at e7 hq7 ⊢
          refine ⟨_, rfl, by show 1 ≤ sizeLine; decide, fun q2 hq2 => ?_⟩
          have e8 := same_upd (o := .lst [o]) hq2
          have hq8 : upd H7 q2 (.lst [o]) q2 = some (.lst [o]) := upd_same
          generalize upd H7 q2 (.lst [o]) = H8 at e8 hq8 ⊢
          refine ⟨q1, q2, _, _, rfl, rfl, e8 _ _ hq7, hq8, ?_, fun p9 hp9 => ?_⟩
          · rw [List.length_map, List.length_singleton]
            exact small1000 (by omega)
          have e9 := same_upd (o := .lst (kvs.map (·.2) ++ [o])) hp9
          have hp9' : upd H8 p9 (.lst (kvs.map (·.2) ++ [o])) p9 = some (.lst (kvs.map (·.2) ++ [o])) := upd_same
          generalize upd H8 p9 (.lst (kvs.map (·.2) ++ [o])) = H9 at e9 hp9' ⊢
          have e59 := ((e6.trans e7).trans e8).trans e9
          have e09 := e5.trans e59
          have hP : Prs K H9 (kvs.map (·.2) ++ [o]) (pairsOf' rs k n) := prsOn (Tups.of e09) (prsSnoc (p := (k, n)) hO (rusVals hR))
          have hPl : (kvs.map (·.2) ++ [o]).length = (pairsOf' rs k n).length := Paired.length hP
          have hPn : (pairsOf' rs k n).length ≤ 901 := by
            unfold pairsOf'
            rw [List.length_append, List.length_map, List.length_singleton]
            omega
          generalize kvs.map (·.2) ++ [o] = xs at hp9' hP hPl ⊢
          refine ⟨_, rfl, p9, rfl, ⟨_, SqL.of hp9'⟩, fun D2 hD2 => ?_⟩
          refine lc_it walk_list (fun i H' => Same H9 H' ∧ H' D2 = some (.lst ((((pairsOf' rs k n).take i).map kindOk).map V.bl))) ⟨same_upd hD2, upd_same⟩ (fun _ _ _ ⟨e, _⟩ => e.seq (SqL.of hp9')) ?_ ?_
          · rintro i x Ha Hb hi ⟨e, hd⟩ ⟨rfl, hx⟩
            obtain ⟨pr, hpr, okk, a, rfl, hT⟩ := prsAt hP hx
            refine ⟨a, _, rfl, e.tupq hT, rfl, _, _, rfl, _, _, rfl, rfl, rfl, w_yes ⟨_, rfl, _, _, rfl, .inr (T.v_KINDS _), rfl, rfl, _, hd, ?_, e.mut hD2, ?_⟩⟩
            · rw [List.length_map, List.length_map, List.length_take]
              exact small1000 (by omega)
            · rw [upd_same, take_snoc hpr, List.map_append, List.map_append]
              exact congrArg (fun b => some (HO.lst (_ ++ [V.bl b]))) (inV_strs pr.1 KINDS3)
          · rintro Ha ⟨e, hd⟩
            have e0a := e09.trans e
            have hda : Ha D2 = some (.lst (((pairsOf' rs k n).map kindOk).map V.bl)) := by rw [hd, hPl, List.take_length]
            refine ⟨D2, _, rfl, SqL.of hda, _, rfl, ?_⟩
            rw [List.all_map]
            show if (!((pairsOf' rs k n).all kindOk)) = true then _ else _
            cases hb2 : (pairsOf' rs k n).all kindOk with
            | false =>
              refine iteT (fin ?_ e0a)
              unfold reasonP
              rw [if_neg n1, if_neg (by rw [hb]; decide), if_pos hb2]
              rfl
            | true =>
              refine iteF ?_
              have hp9a := e _ _ hp9'
              have hPa := prsOn (Tups.of e) hP
              refine ⟨_, rfl, p9, rfl, ⟨_, SqL.of hp9a⟩, fun D3 hD3 => ?_⟩
              refine lc_it walk_list (fun i H' => Same Ha H' ∧ H' D3 = some (.lst ((((pairsOf' rs k n).take i).map sizeOk).map V.bl))) ⟨same_upd hD3, upd_same⟩ (fun _ _ _ ⟨e, _⟩ => e.seq (SqL.of hp9a)) ?_ ?_
              · rintro i x Hc Hb hi ⟨e, hd⟩ ⟨rfl, hx⟩
                obtain ⟨pr, hpr, okk, a, rfl, hT⟩ := prsAt hPa hx
                have put : ∀ b : Bool, b = sizeOk pr → upd Hb D3 (.lst (((((pairsOf' rs k n).take i).map sizeOk).map V.bl) ++ [V.bl b])) D3 = some (.lst ((((pairsOf' rs k n).take (i + 1)).map sizeOk).map V.bl)) := fun b hb => by
                  rw [upd_same, take_snoc hpr, List.map_append, List.map_append, hb]
                  rfl
                have sm : (((((pairsOf' rs k n).take i).map sizeOk).map V.bl)).length < sizeLine := by
                  rw [List.length_map, List.length_map, List.length_take]
                  exact small1000 (by omega)
                refine ⟨a, _, rfl, e.tupq hT, rfl, _, _, rfl, _, _, rfl, rfl, rfl, w_yes ⟨_, rfl, _, _, rfl, rfl, _, rfl, ite_dec (fun ha => ⟨_, _, rfl, rfl, _, hd, sm, e.mut hD3, put _ ?_⟩) (fun ha => ⟨_, hd, sm, e.mut hD3, put _ ?_⟩)⟩⟩
                · unfold sizeOk
                  rw [decide_eq_true ha, Bool.true_and]
                · unfold sizeOk
                  rw [decide_eq_false ha, Bool.false_and]
              · rintro Hc ⟨e3, hd3⟩
                have e0c := e0a.trans e3
                have hdc : Hc D3 = some (.lst (((pairsOf' rs k n).map sizeOk).map V.bl)) := by rw [hd3, hPl, List.take_length]
                refine ⟨D3, _, rfl, SqL.of hdc, _, rfl, ?_⟩
                rw [List.all_map]
                show if (!((pairsOf' rs k n).all sizeOk)) = true then _ else _
                cases hb3 : (pairsOf' rs k n).all sizeOk with
                | false =>
                  refine iteT (fin ?_ e0c)
                  unfold reasonP
                  rw [if_neg n1, if_neg (by rw [hb]; decide), if_neg (by rw [hb2]; decide), if_pos hb3]
                  rfl
                | true =>
                  refine iteF (fin ?_ e0c)
                  unfold reasonP
                  rw [if_neg n1, if_neg (by rw [hb]; decide), if_neg (by rw [hb2]; decide), if_neg (by rw [hb3]; decide)]
                  rfl
def planF (d : Addr) (o : V) : List (Str × V) := [("rules", .ref d), ("others", o)]
theorem planF_r (d : Addr) (o : V) : (planF d o).lookup ("rules" : Str) = some (.ref d) := lk_eq
theorem planF_o (d : Addr) (o : V) : (planF d o).lookup ("others" : Str) = some o := (lk_ne (by decide +kernel)).trans lk_eq
theorem planF_no (d : Addr) (o : V) {m : Str} (h1 : (m == "rules") = false) (h2 : (m == "others") = false) : (planF d o).lookup m = none := (lk_ne h1).trans ((lk_ne h2).trans rfl)
theorem planF_mk (d : Addr) (o : V) : putF "others" o (putF "rules" (.ref d) []) = planF d o := by
  rw [putF_nil, putF_ne (by decide +kernel), putF_nil]
  rfl
def PlanIn (vs : List V) (H : Hp) (C x dx p : Addr) (kvs : List (Key × V)) (rs : List Ru) (o : V) (k : Str) (n : Int) (K : PySem.W.Frag) : Prop :=
  vs = [.ref x, .ref p, o] ∧ H x = some (.ins C dx []) ∧ H p = some (.dK kvs) ∧ Rus K H kvs rs ∧ Pr K H o k n ∧ kvs.length ≤ 900
def sp_Plan___init__ (K : PySem.W.Frag) (C : Addr) : Sp := fun vs H Q _ => ∃ (x dx p : Addr) (kvs : List (Key × V)) (rs : List Ru) (o : V) (k : Str) (n : Int), PlanIn vs H C x dx p kvs rs o k n K ∧ reasonP rs k n = none ∧
  ∀ d H', H d = none → Ex [x] H H' → H' x = some (.ins C dx (planF d o)) → H' d = some (.dK kvs) → Q .non H'
theorem ok_Plan___init__ (T : Txt K mg) : FnOk P w K mg base CX0 3 T.f_Plan___init__ T.fd_Plan___init__ ["self", "rules", "others"] (sp_Plan___init__ K T.a_Plan) := by
  refine T.F_Plan___init__.ok sc_Plan___init__ (fun vs H Q E h => ?_) (fun cdv A outer s H vs Q E hr h => ?_)
  · obtain ⟨x, dx, p, kvs, rs, o, k, n, ⟨rfl, _⟩, _⟩ := h
    rfl
  · obtain ⟨x, dx, p, kvs, rs, o, k, n, ⟨rfl, hx, hp, hR, hO, hlen⟩, hN, q1⟩ := h
    refine ⟨_, (pss_cons (ps_set (i := 3) sc_Plan___init__.nd rfl (Or.inl rfl) (pe_call (ok_check_plan T) (hr.mono (by decide)) (by rfl) T.g_check_plan T.F_check_plan.kp T.b_check_plan .nil pass0 (pa_cons (pv 1) (pa_cons (pv 2) pa_nil))))
      (pss_cons (ps_if (pt_cmpR op_notN (pv 3) pe_non (nomark _))
        (pss_one ps_never)
        pss_nil)
      (pss_cons (ps_fld (pv 0) (pe_callTy (T := "dict") call_dictD (by rfl) T.z_dict (by decide +kernel) (pa_cons (pv 1) pa_nil)) rfl)
      (pss_one (ps_fld (pv 0) (pv 2) rfl))))), ?_⟩
    refine ⟨_, rfl, _, rfl, p, kvs, rs, o, k, n, rfl, hp, hR, hO, hlen, fun H1 e1 => ?_⟩
    rw [hN]
    refine ⟨_, rfl, rfl, _, rfl, iteF ?_⟩
    refine ⟨_, rfl, p, kvs, rfl, .inl (e1 _ _ hp), fun d hd => ?_⟩
    have nx : x ≠ d := ne_of_none (e1 _ _ hx) hd
    refine ⟨_, rfl, x, T.a_Plan, dx, [], rfl, by rw [upd_ne nx]; exact e1 _ _ hx, T.cl_Plan, T.n_Plan_rules, (by show 0 < 1000; decide), ?_⟩
    refine ⟨_, rfl, _, rfl, x, T.a_Plan, dx, _, rfl, upd_same, T.cl_Plan, T.n_Plan_others, (by show 1 < 1000; decide), ?_⟩
    refine q1 d _ (e1.free hd) ((Ex.of (e1.trans (same_upd hd))).mut (.inr (by simp)) |>.mut (.inr (by simp))) ?_ ?_
    · rw [upd_same, planF_mk]
    · rw [upd_ne nx.symm, upd_ne nx.symm, upd_same]
def spX_Plan___init__ (K : PySem.W.Frag) (C D : Addr) : Sp := fun vs H Q E => ∃ (x dx p : Addr) (kvs : List (Key × V)) (rs : List Ru) (o : V) (k : Str) (n : Int), PlanIn vs H C x dx p kvs rs o k n K ∧
  (reasonP rs k n = none → ∀ d H', H d = none → Ex [x] H H' → H' x = some (.ins C dx (planF d o)) → H' d = some (.dK kvs) → Q .non H') ∧
  ∀ r, reasonP rs k n = some r → ∀ d H', H d = none → Same H H' → H' d = some (.xd [("reason", .str r)]) → E (.ref D) (some d) H'
theorem okX_Plan___init__ (T : Txt K mg) : FnOk P w K mg base (L2.CX P w) 3 T.f_Plan___init__ T.fd_Plan___init__ ["self", "rules", "others"] (spX_Plan___init__ K T.a_Plan T.a_InvalidPlan) := by
  refine T.F_Plan___init__.okX sc_Plan___init__ (fun vs H Q E h => ?_) (fun cdv A outer s H vs Q E hr h => ?_)
  · obtain ⟨x, dx, p, kvs, rs, o, k, n, ⟨rfl, _⟩, _⟩ := h
    rfl
  · obtain ⟨x, dx, p, kvs, rs, o, k, n, ⟨rfl, hx, hp, hR, hO, hlen⟩, q1, q2⟩ := h
    refine ⟨_, (pss_cons (ps_set (i := 3) sc_Plan___init__.nd rfl (Or.inl rfl) (pe_call (ok_check_plan T) (hr.mono (by decide)) (by rfl) T.g_check_plan T.F_check_plan.kp T.b_check_plan .nil pass0 (pa_cons (pv 1) (pa_cons (pv 2) pa_nil))))
      (pss_cons (ps_if (pt_cmpR op_notN (pv 3) pe_non (nomark _))
        (pss_one (ps_raise rfl (takes_of rfl rfl rfl rfl) (pmk_oex T.ox_InvalidPlan T.ic_InvalidPlan T.tc_InvalidPlan (ok_InvalidPlan___init__ T) (hr.mono (by decide)) T.b_InvalidPlan___init__ .nil pass0 (by rfl) T.g_InvalidPlan (pa_cons (pv 3) pa_nil))))
        pss_nil)
      (pss_cons (ps_fld (pv 0) (pe_callTy (T := "dict") call_dictD (by rfl) T.z_dict (by decide +kernel) (pa_cons (pv 1) pa_nil)) rfl)
      (pss_one (ps_fld (pv 0) (pv 2) rfl))))), ?_⟩
    refine ⟨_, rfl, _, rfl, p, kvs, rs, o, k, n, rfl, hp, hR, hO, hlen, fun H1 e1 => ?_⟩
    cases hN : reasonP rs k n with
    | some r =>
      refine ⟨_, rfl, rfl, _, rfl, iteT ⟨_, rfl, by show 1 ≤ 1000; decide, fun a ha => exc1_made ha fun d H2 e2 hd hx2 => ?_⟩⟩
      exact q2 r hN d H2 (e1.free hd) (e1.trans e2) hx2
    | none =>
      refine ⟨_, rfl, rfl, _, rfl, iteF ?_⟩
      refine ⟨_, rfl, p, kvs, rfl, .inl (e1 _ _ hp), fun d hd => ?_⟩
      have nx : x ≠ d := ne_of_none (e1 _ _ hx) hd
      refine ⟨_, rfl, x, T.a_Plan, dx, [], rfl, by rw [upd_ne nx]; exact e1 _ _ hx, T.cl_Plan, T.n_Plan_rules, (by show 0 < 1000; decide), ?_⟩
      refine ⟨_, rfl, _, rfl, x, T.a_Plan, dx, _, rfl, upd_same, T.cl_Plan, T.n_Plan_others, (by show 1 < 1000; decide), ?_⟩
      refine q1 hN d _ (e1.free hd) ((Ex.of (e1.trans (same_upd hd))).mut (.inr (by simp)) |>.mut (.inr (by simp))) ?_ ?_
      · rw [upd_same, planF_mk]
      · rw [upd_ne nx.symm, upd_ne nx.symm, upd_same]
/-- a plan stands at x -/
def PlanAt (H : Hp) (C x d : Addr) (o : V) (kvs : List (Key × V)) : Prop := (∃ dx, H x = some (.ins C dx (planF d o))) ∧ H d = some (.dK kvs)
theorem PlanAt.same {H H' : Hp} {C x d : Addr} {o : V} {kvs : List (Key × V)} (e : Same H H') (h : PlanAt H C x d o kvs) : PlanAt H' C x d o kvs := by
  obtain ⟨⟨dx, h1⟩, h2⟩ := h
  exact ⟨⟨dx, e _ _ h1⟩, e _ _ h2⟩
def placeV (kvs : List (Key × V)) (z : Str) : Option Str := if (valV kvs (.inr z)).isSome = true then some z else none
def sp_Plan_place_of (K : PySem.W.Frag) (C : Addr) : Sp := fun vs H Q _ => ∃ (x d : Addr) (o : V) (kvs : List (Key × V)) (z : Str), vs = [.ref x, .str z] ∧ PlanAt H C x d o kvs ∧ Q (vO (placeV kvs z)) H
theorem ok_Plan_place_of (T : Txt K mg) : FnOk P w K mg base CX0 1 T.f_Plan_place_of T.fd_Plan_place_of ["self", "group"] (sp_Plan_place_of K T.a_Plan) := by
  refine T.F_Plan_place_of.ok sc_Plan_place_of (fun vs H Q E h => ?_) (fun cdv A outer s H vs Q E hr h => ?_)
  · obtain ⟨x, d, o, kvs, z, rfl, _⟩ := h
    rfl
  · obtain ⟨x, d, o, kvs, z, rfl, ⟨⟨dx, hx⟩, hd⟩, q⟩ := h
    refine ⟨_, (pss_one (ps_ret (pe_ifExp (pt_cmp (pc_din (hu_of hr) (pv 1) (pe_fld (pv 0) rfl))) (pv 1) pe_non))), ?_⟩
    refine ⟨_, rfl, _, rfl, x, T.a_Plan, dx, _, _, rfl, hx, T.cl_Plan, T.n_Plan_rules, planF_r _ _, d, _, rfl, DGet.k (k := .inr z) hd, _, rfl, ?_⟩
    unfold placeV at q
    cases hs : (valV kvs (.inr z)).isSome with
    | true =>
      rw [hs] at q
      exact iteT ⟨_, rfl, q⟩
    | false =>
      rw [hs] at q
      exact iteF q
def keysS (rs : List Ru) : List Str := rs.map Ru.g
theorem rusKeys {K : PySem.W.Frag} {H : Hp} {kvs : List (Key × V)} {rs : List Ru} (h : Rus K H kvs rs) : kvs.map (·.1) = (keysS rs).map Sum.inr := by
  unfold keysS
  induction h with
  | nil => rfl
  | cons a t ih =>
    rw [List.map_cons, List.map_cons, List.map_cons, ih, a.1]
def sp_Plan_places (K : PySem.W.Frag) (C : Addr) : Sp := fun vs H Q _ => ∃ (x d : Addr) (o : V) (kvs : List (Key × V)) (rs : List Ru), vs = [.ref x] ∧ PlanAt H C x d o kvs ∧ Rus K H kvs rs ∧ rs.length ≤ 20 ∧
  ∀ (ys : List Str) r H', ys.Perm (keysS rs) → sortedS ys = true → Same H H' → H' r = some (.lst (ys.map V.str ++ [.non])) → Q (.ref r) H'
theorem ok_Plan_places (T : Txt K mg) : FnOk P w K mg base CX0 1 T.f_Plan_places T.fd_Plan_places ["self"] (sp_Plan_places K T.a_Plan) := by
  refine T.F_Plan_places.ok sc_Plan_places (fun vs H Q E h => ?_) (fun cdv A outer s H vs Q E hr h => ?_)
  · obtain ⟨x, d, o, kvs, rs, rfl, _⟩ := h
    rfl
  · obtain ⟨x, d, o, kvs, rs, rfl, ⟨⟨dx, hx⟩, hd⟩, hR, hlen, q⟩ := h
    refine ⟨_, (pss_one (ps_ret (pe_op op_cat (pe_callB (id := "sorted") (call_sortedD rfl) (by rfl) T.z_sorted (by decide +kernel) (pa_cons (pe_fld (pv 0) rfl) pa_nil)) (pe_lst (pa_cons pe_non pa_nil))))), ?_⟩
    have hkl : (keysS rs).length = rs.length := List.length_map ..
    refine ⟨_, rfl, x, T.a_Plan, dx, _, _, rfl, hx, T.cl_Plan, T.n_Plan_rules, planF_r _ _, d, kvs, keysS rs, rfl, .inl hd, rusKeys hR, by omega, fun ys p hp hs hnew => ?_⟩
    have e1 := same_upd (o := .lst (ys.map V.str)) hnew
    have h1 : upd H p (.lst (ys.map V.str)) p = some (.lst (ys.map V.str)) := upd_same
    generalize upd H p (.lst (ys.map V.str)) = H1 at e1 h1 ⊢
    refine ⟨by show 1 ≤ sizeLine; decide, fun p2 hp2 => ?_⟩
    have e2 := same_upd (o := .lst [.non]) hp2
    have h2 : upd H1 p2 (.lst [.non]) p2 = some (.lst [.non]) := upd_same
    generalize upd H1 p2 (.lst [.non]) = H2 at e2 h2 ⊢
    refine ⟨p, p2, _, _, rfl, rfl, e2 _ _ h1, h2, ?_, fun p3 hp3 => ?_⟩
    · rw [List.length_map, List.length_singleton, hp.length_eq, hkl]
      exact small1000 (by omega)
    · exact q ys p3 _ hp hs ((e1.trans e2).trans (same_upd hp3)) upd_same
def sp_Plan_rule (K : PySem.W.Frag) (C : Addr) : Sp := fun vs H Q _ => ∃ (x d : Addr) (o : V) (kvs : List (Key × V)) (z : Option Str) (v : V), vs = [.ref x, vO z] ∧ PlanAt H C x d o kvs ∧ (match z with | none => v = o | some z => valV kvs (.inr z) = some v) ∧ Q v H
theorem ok_Plan_rule (T : Txt K mg) : FnOk P w K mg base CX0 1 T.f_Plan_rule T.fd_Plan_rule ["self", "place"] (sp_Plan_rule K T.a_Plan) := by
  refine T.F_Plan_rule.ok sc_Plan_rule (fun vs H Q E h => ?_) (fun cdv A outer s H vs Q E hr h => ?_)
  · obtain ⟨x, d, o, kvs, z, v, rfl, _⟩ := h
    rfl
  · obtain ⟨x, d, o, kvs, z, v, rfl, ⟨⟨dx, hx⟩, hd⟩, hv, q⟩ := h
    refine ⟨_, (pss_one (ps_ret (pe_ifExp (pt_cmpR op_isN (pv 1) pe_non (nomark _)) (pe_fld (pv 0) rfl) (pe_dget (hu_of hr) (pe_fld (pv 0) rfl) (pv 1) (fun _ _ => rfl))))), ?_⟩
    cases z with
    | none =>
      obtain rfl : v = o := hv
      exact ⟨_, rfl, rfl, _, rfl, iteT ⟨_, rfl, x, T.a_Plan, dx, _, _, rfl, hx, T.cl_Plan, T.n_Plan_others, planF_o _ _, q⟩⟩
    | some z =>
      have hv' : valV kvs (.inr z) = some v := hv
      exact ⟨_, rfl, rfl, _, rfl, iteF ⟨_, rfl, x, T.a_Plan, dx, _, _, rfl, hx, T.cl_Plan, T.n_Plan_rules, planF_r _ _, _, rfl, d, v, rfl, by rw [← hv']; exact DGet.k (k := .inr z) hd, q⟩⟩
theorem shapedT {k : Str} {n : Int} (h : okS k) : SeqAt.shaped (.tuple [.str k, .int n]) = true := shaped_mk (by show (PyData.strOk k && (true && true)) = true; rw [h.2]; rfl) (by show max 0 (max 0 0) + 1 ≤ 64; decide)
def sp_same_plan (K : PySem.W.Frag) (C : Addr) : Sp := fun vs H Q _ => ∃ (x d y d2 : Addr) (o o2 : V) (kvs : List (Key × V)) (rs : List Ru) (k k2 : Str) (n n2 : Int), vs = [.ref x, .ref y] ∧ PlanAt H C x d o kvs ∧ PlanAt H C y d2 o2 kvs ∧ Rus K H kvs rs ∧ (kvs.map (·.1)).Nodup ∧
  Pr K H o k n ∧ Pr K H o2 k2 n2 ∧ Q (.bl (decide (k = k2) && decide (n = n2))) H
theorem ok_same_plan (T : Txt K mg) : FnOk P w K mg base CX0 1 T.f_same_plan T.fd_same_plan ["plan", "other"] (sp_same_plan K T.a_Plan) := by
  refine T.F_same_plan.ok sc_same_plan (fun vs H Q E h => ?_) (fun cdv A outer s H vs Q E hr h => ?_)
  · obtain ⟨x, d, y, d2, o, o2, kvs, rs, k, k2, n, n2, rfl, _⟩ := h
    rfl
  · obtain ⟨x, d, y, d2, o, o2, kvs, rs, k, k2, n, n2, rfl, ⟨⟨dx, hx⟩, hd⟩, ⟨⟨dy, hy⟩, hd2⟩, hR, hnd, ⟨ok1, a, rfl, hT⟩, ⟨ok2, b, rfl, hT2⟩, q⟩ := h
    refine ⟨_, (pss_one (ps_ret (pe_and (pe_cmpR (op_eq_dictS hr.units0) (pe_fld (pv 0) rfl) (pe_fld (pv 1) rfl) (nomark _)) (pe_one (pe_cmpR (op_eqD hr.units) (pe_fld (pv 0) rfl) (pe_fld (pv 1) rfl) (nomark _)))))), ?_⟩
    refine ⟨_, rfl, x, T.a_Plan, dx, _, _, rfl, hx, T.cl_Plan, T.n_Plan_rules, planF_r _ _, _, rfl, y, T.a_Plan, dy, _, _, rfl, hy, T.cl_Plan, T.n_Plan_rules, planF_r _ _, d, d2, kvs, rfl, rfl, .inl hd, .inl hd2, hnd, ?_, _, rfl, iteT ?_⟩
    · intro e he
      obtain ⟨i, hi⟩ := List.mem_iff_getElem?.mp he
      obtain ⟨r, _, _, _, _, a, ha, _⟩ := rusAt hR (k := e.1) (v := e.2) hi
      exact .inr ⟨a, ha⟩
    · refine ⟨_, rfl, x, T.a_Plan, dx, _, _, rfl, hx, T.cl_Plan, T.n_Plan_others, planF_o _ _, _, rfl, y, T.a_Plan, dy, _, _, rfl, hy, T.cl_Plan, T.n_Plan_others, planF_o _ _, ?_⟩
      refine ⟨.tuple [.str k, .int n], .tuple [.str k2, .int n2], .tup hT (.cons (.str _) (.cons (.int _) .nil)), .tup hT2 (.cons (.str _) (.cons (.int _) .nil)), shapedT ok1, shapedT ok2, ?_⟩
      have e : PyData.eqv (.tuple [.str k, .int n]) (.tuple [.str k2, .int n2]) = (decide (k = k2) && decide (n = n2)) := by
        rw [PyData.eqv]
        show ((k == k2) && ((n == n2) && true)) = _
        rw [Bool.and_true]
        rfl
      rw [e]
      exact q
/-! ### the law's own reasons -/
def strsD (zs : List Str) : List PyData := zs.map PyData.str
theorem dp_strs {K : PySem.W.Frag} {H : Hp} : ∀ zs : List Str, DpAll K H (zs.map V.str) (strsD zs)
  | [] => .nil
  | _ :: r => .cons (.str _) (dp_strs r)
theorem lay_strs : ∀ zs : List Str, (∀ z ∈ zs, PyData.strOk z = true) → PyData.canLayAll0 (strsD zs) = true
  | [], _ => rfl
  | z :: r, h => by
    show (PyData.strOk z && PyData.canLayAll0 (strsD r)) = true
    rw [lay_strs r fun x hx => h x (List.mem_cons_of_mem _ hx), Bool.and_true]
    exact h z List.mem_cons_self
theorem depth_strs : ∀ zs : List Str, PyData.depthAll (strsD zs) = 0
  | [] => rfl
  | z :: r => by
    show max 0 (PyData.depthAll (strsD r)) = 0
    rw [depth_strs r]
    rfl
def prsD (ps : List (Str × Int)) : List PyData := ps.map fun p => .tuple [.str p.1, .int p.2]
theorem dp_prs {K : PySem.W.Frag} {H : Hp} {xs : List V} {ps : List (Str × Int)} (h : Prs K H xs ps) : DpAll K H xs (prsD ps) := by
  induction h with
  | nil => exact .nil
  | cons a t ih =>
    obtain ⟨_, b, rfl, hT⟩ := a
    exact .cons (.tup hT (.cons (.str _) (.cons (.int _) .nil))) ih
theorem prs_ok {K : PySem.W.Frag} {H : Hp} {xs : List V} {ps : List (Str × Int)} (h : Prs K H xs ps) : ∀ p ∈ ps, PyData.strOk p.1 = true := by
  induction h with
  | nil => exact fun p hp => absurd hp List.not_mem_nil
  | cons a t ih =>
    intro p hp
    rcases List.mem_cons.mp hp with rfl | hp
    · exact a.1.2
    · exact ih p hp
theorem lay_prs : ∀ ps : List (Str × Int), (∀ p ∈ ps, PyData.strOk p.1 = true) → PyData.canLayAll0 (prsD ps) = true
  | [], _ => rfl
  | p :: r, h => by
    show ((PyData.strOk p.1 && (true && true)) && PyData.canLayAll0 (prsD r)) = true
    rw [lay_prs r fun x hx => h x (List.mem_cons_of_mem _ hx), h p List.mem_cons_self]
    rfl
theorem depth_prs : ∀ ps : List (Str × Int), PyData.depthAll (prsD ps) ≤ 1
  | [] => by decide
  | p :: r => by
    show max (max 0 (max 0 0) + 1) (PyData.depthAll (prsD r)) ≤ 1
    have := depth_prs r
    omega
theorem eqv_nil {α : Type} (f : α → PyData) (zs : List α) : PyData.eqv (.list (zs.map f)) (.list []) = zs.isEmpty := by
  rw [PyData.eqv]
  cases zs <;> rfl
theorem filter_empty {α : Type} (f : α → Bool) (zs : List α) : (zs.filter fun z => !f z).isEmpty = zs.all f := by
  induction zs with
  | nil => rfl
  | cons z r ih =>
    rw [List.all_cons]
    cases h : f z with
    | true => rw [List.filter_cons_of_neg (by rw [h]; decide), ih, Bool.true_and]
    | false => rw [List.filter_cons_of_pos (by rw [h]; decide), Bool.false_and]; rfl
def sp__law_reason (K : PySem.W.Frag) : Sp := fun vs H Q _ => ∃ (p : Addr) (kvs : List (Key × V)) (rs : List Ru) (o : V) (k : Str) (n : Int), vs = [.ref p, o] ∧ H p = some (.dK kvs) ∧ Rus K H kvs rs ∧ (kvs.map (·.1)).Nodup ∧ Pr K H o k n ∧ kvs.length ≤ 900 ∧
  ∀ H', Same H H' → Q (vO (reasonP rs k n)) H'
theorem ok__law_reason (T : Txt K mg) : FnOk P w K mg base CX0 2 T.f__law_reason T.fd__law_reason ["_law_rules", "_law_others"] (sp__law_reason K) := by
  refine T.F__law_reason.ok sc__law_reason (fun vs H Q E h => ?_) (fun cdv A outer s H vs Q E hr h => ?_)
  · obtain ⟨p, kvs, rs, o, k, n, rfl, _⟩ := h
    rfl
  · obtain ⟨p, kvs, rs, o, k, n, rfl, hp, hR, hnd, hO, hlen, q⟩ := h
    refine ⟨_, (pss_cons (ps_if (pt_cmpR op_gt (pe_callB (id := "len") call_lenD (by rfl) T.z_len (by decide +kernel) (pa_cons (pv 0) pa_nil)) pe_int (nomark _))
        (pss_one (ps_ret pe_str))
        pss_nil)
      (pss_cons (ps_if (pt_cmpR (op_neD hr.units) (pe_lc (own := [("_law_group", 3)]) (g := gName 3) rfl sc__law_reason.nd (pi_list (pe_callTy (T := "list") (call_listD rfl) (by rfl) T.z_list (by decide +kernel) (pa_cons (pv 0) pa_nil))) (blkOk_by (own := [("_law_group", 3)]) (N := nm__law_reason) (sc := defScope s__law_reason) (by decide +kernel)) (fun _ _ _ _ _ => pg_name (i := 3) sc__law_reason.nd rfl (Or.inl rfl)) (fun _ _ _ _ _ => (pts_one (pt_not (pt_val (pe_call (ok__law_fine T) (hr.mono (by decide)) (by rfl) T.g__law_fine T.F__law_fine.kp T.b__law_fine .nil pass0 (pa_cons (pv 3) pa_nil)))))) (fun _ _ _ _ _ => (pv 3))) (pe_lst pa_nil) (nomark _))
        (pss_one (ps_ret pe_str))
        pss_nil)
      (pss_cons (ps_set (i := 2) sc__law_reason.nd rfl (Or.inl rfl) (pe_op op_cat (pe_lc (own := [("_law_group", 3)]) (g := gName 3) rfl sc__law_reason.nd (pi_list (pe_callTy (T := "list") (call_listD rfl) (by rfl) T.z_list (by decide +kernel) (pa_cons (pv 0) pa_nil))) (blkOk_by (own := [("_law_group", 3)]) (N := nm__law_reason) (sc := defScope s__law_reason) (by decide +kernel)) (fun _ _ _ _ _ => pg_name (i := 3) sc__law_reason.nd rfl (Or.inl rfl)) (fun _ _ _ _ _ => pts_nil) (fun _ _ _ _ _ => (pe_dget (hu_of hr) (pv 0) (pv 3) (fun _ _ => rfl)))) (pe_lst (pa_cons (pv 1) pa_nil))))
      (pss_cons (ps_if (pt_cmpR (op_neD hr.units) (pe_lc (own := [("_law_pair", 4)]) (g := gName 4) rfl sc__law_reason.nd (pi_list (pv 2)) (blkOk_by (own := [("_law_pair", 4)]) (N := nm__law_reason) (sc := defScope s__law_reason) (by decide +kernel)) (fun _ _ _ _ _ => pg_name (i := 4) sc__law_reason.nd rfl (Or.inl rfl)) (fun _ _ _ _ _ => (pts_one (pt_cmpR (niSk (K := K) rfl) (pe_ix (ixTk (K := K) rfl) (pv 4) pe_int (fun _ _ => rfl)) (pe_lst (pa_cons pe_str (pa_cons pe_str (pa_cons pe_str pa_nil)))) (by rfl)))) (fun _ _ _ _ _ => (pv 4))) (pe_lst pa_nil) (nomark _))
        (pss_one (ps_ret pe_str))
        pss_nil)
      (pss_cons (ps_if (pt_cmpR (op_neD hr.units) (pe_lc (own := [("_law_pair", 4)]) (g := gName 4) rfl sc__law_reason.nd (pi_list (pv 2)) (blkOk_by (own := [("_law_pair", 4)]) (N := nm__law_reason) (sc := defScope s__law_reason) (by decide +kernel)) (fun _ _ _ _ _ => pg_name (i := 4) sc__law_reason.nd rfl (Or.inl rfl)) (fun _ _ _ _ _ => (pts_one (PW.pt (pw_or (pt_cmpR op_lt (pe_ix (ixTk (K := K) rfl) (pv 4) pe_int (fun _ _ => rfl)) pe_int (nomark _)) (pw_or1 (pt_cmpR op_gt (pe_ix (ixTk (K := K) rfl) (pv 4) pe_int (fun _ _ => rfl)) pe_int (nomark _))))))) (fun _ _ _ _ _ => (pv 4))) (pe_lst pa_nil) (nomark _))
        (pss_one (ps_ret pe_str))
        pss_nil)
      (pss_one (ps_ret pe_non))))))), ?_⟩
    have fin : ∀ {v : V} {H'}, v = vO (reasonP rs k n) → Same H H' → Q v H' := fun e s => by rw [e]; exact q _ s
    have hl : kvs.length = rs.length := Paired.length hR
    have ek : (kvs.map fun kv => kV kv.1) = (keysS rs).map V.str := by
      have e := congrArg (List.map kV) (rusKeys hR)
      rw [List.map_map, List.map_map] at e
      exact e
    have hkl : (keysS rs).length = rs.length := List.length_map ..
    have kok : ∀ z ∈ keysS rs, okS z := fun z hz => by
      obtain ⟨r, hr1, rfl⟩ := List.mem_map.mp hz
      obtain ⟨i, hi⟩ := List.mem_iff_getElem?.mp hr1
      have hi' : i < kvs.length := by rw [hl]; exact (List.getElem?_eq_some_iff.mp hi).1
      obtain ⟨r2, h2, _, okg, _⟩ := rusAt hR (i := i) (k := kvs[i].1) (v := kvs[i].2) (List.getElem?_eq_getElem hi')
      rw [hi] at h2
      cases h2
      exact okg
    have eall : (keysS rs).all isName = rs.all fun r => isName r.g := List.all_map
    refine ⟨_, rfl, p, kvs, rfl, hp, _, _, rfl, rfl, _, rfl, ite_dec (fun h1 => ?_) (fun h1 => ?_)⟩
    · refine fin ?_ (Same.refl H)
      unfold reasonP
      rw [if_pos (by omega)]
      rfl
    · have n1 : ¬ rs.length > 20 := by omega
      refine ⟨_, rfl, p, kvs, rfl, .inl hp, fun l hl1 => ?_⟩
      rw [ek]
      have e1 := same_upd (o := .lst ((keysS rs).map V.str)) hl1
      have hl2 : upd H l (.lst ((keysS rs).map V.str)) l = some (.lst ((keysS rs).map V.str)) := upd_same
      generalize upd H l (.lst ((keysS rs).map V.str)) = H1 at e1 hl2 ⊢
      refine ⟨l, rfl, ⟨_, SqL.of hl2⟩, fun D hD => ?_⟩
      refine lc_it walk_list (fun i H' => Same H1 H' ∧ H' D = some (.lst ((((keysS rs).take i).filter fun z => !isName z).map V.str))) ⟨same_upd hD, upd_same⟩ (fun _ _ _ ⟨e, _⟩ => e.seq (SqL.of hl2)) ?_ ?_
      · rintro i x Ha Hb hi ⟨e, hd⟩ ⟨rfl, hx⟩
        rw [List.length_map] at hi
        have hg : (keysS rs)[i]? = some (keysS rs)[i] := List.getElem?_eq_getElem hi
        rw [List.getElem?_map, hg] at hx
        obtain rfl := (Option.some.inj hx).symm
        refine ⟨rfl, _, rfl, _, rfl, kok _ (List.getElem_mem hi), fun H3 e3 => ⟨_, rfl, ?_⟩⟩
        have hd3 := e3 _ _ hd
        have e03 := e.trans e3
        cases hb : isName (keysS rs)[i] with
        | true =>
          refine iteF ⟨e03, ?_⟩
          rw [take_snoc hg, List.filter_append, hd3, List.filter_cons_of_neg (by rw [hb]; decide), List.filter_nil, List.append_nil]
        | false =>
          refine iteT ⟨_, rfl, _, hd3, ?_, e03.mut hD, ?_⟩
          · rw [List.length_map]
            refine Nat.lt_of_le_of_lt (List.length_filter_le _ _) ?_
            rw [List.length_take]
            exact small1000 (by omega)
          · rw [upd_same, take_snoc hg, List.filter_append, List.filter_cons_of_pos (by rw [hb]; decide), List.filter_nil, List.map_append]
            rfl
      · rintro Ha ⟨e, hd⟩
        rw [List.length_map, List.take_length] at hd
        refine ⟨Nat.zero_le _, fun L hL => ?_⟩
        have e0a := e1.trans e
        refine ⟨.list (strsD ((keysS rs).filter fun z => !isName z)), .list [], .lst (SqL.of (same_upd hL D _ hd)) (dp_strs _), .lst (SqL.of upd_same) .nil, shaped_mk (lay_strs _ fun z hz => (kok z (List.mem_filter.mp hz).1).2) ?_, rfl, _, rfl, ?_⟩
        · show PyData.depthAll (strsD _) + 1 ≤ 64
          rw [depth_strs]
          decide
        have e0b : Same H (upd Ha L (.lst [])) := e0a.trans (same_upd hL)
        generalize upd Ha L (.lst []) = H4 at e0b ⊢
        unfold strsD
        rw [eqv_nil, filter_empty, eall]
        cases hb : rs.all fun r => isName r.g with
        | false =>
          refine iteT (fin ?_ e0b)
          unfold reasonP
          rw [if_neg n1, if_pos hb]
          rfl
        | true =>
          refine iteF ?_
          have hp4 := e0b _ _ hp
          have hR4 := rusOn (Tups.of e0b) hR
          refine ⟨_, rfl, p, kvs, rfl, .inl hp4, fun l2 hl3 => ?_⟩
          rw [ek]
          have e5 := same_upd (o := .lst ((keysS rs).map V.str)) hl3
          have hl5 : upd H4 l2 (.lst ((keysS rs).map V.str)) l2 = some (.lst ((keysS rs).map V.str)) := upd_same
          generalize upd H4 l2 (.lst ((keysS rs).map V.str)) = H5 at e5 hl5 ⊢
          have hp5 := e5 _ _ hp4
          refine ⟨l2, rfl, ⟨_, SqL.of hl5⟩, fun D2 hD2 => ?_⟩
          refine lc_it walk_list (fun i H' => Same H5 H' ∧ H' D2 = some (.lst ((kvs.map (·.2)).take i))) ⟨same_upd hD2, upd_same⟩ (fun _ _ _ ⟨e, _⟩ => e.seq (SqL.of hl5)) ?_ ?_
          · rintro i x Ha Hb hi ⟨e, hd⟩ ⟨rfl, hx⟩
            rw [List.length_map] at hi
            have hi' : i < kvs.length := by omega
            obtain ⟨r, hr1, hk1, _, _⟩ := rusAt hR (i := i) (k := kvs[i].1) (v := kvs[i].2) (List.getElem?_eq_getElem hi')
            have hg : (keysS rs)[i]? = some r.g := by
              unfold keysS
              rw [List.getElem?_map, hr1]
              rfl
            rw [List.getElem?_map, hg] at hx
            obtain rfl := (Option.some.inj hx).symm
            have hv : valV kvs (.inr r.g) = some kvs[i].2 := by
              rw [← hk1]
              exact val_nodup hnd _ (List.getElem_mem hi')
            refine ⟨rfl, w_yes ⟨_, rfl, _, rfl, p, kvs[i].2, rfl, by rw [← hv]; exact DGet.k (k := .inr r.g) (e _ _ hp5), _, hd, ?_, e.mut hD2, ?_⟩⟩
            · rw [List.length_take, List.length_map]
              exact small1000 (by omega)
            · have hg2 : (kvs.map (·.2))[i]? = some kvs[i].2 := by rw [List.getElem?_map, List.getElem?_eq_getElem hi']; rfl
              rw [upd_same, take_snoc hg2]
          · rintro Hc ⟨e, hd⟩
            have hdc : Hc D2 = some (.lst (kvs.map (·.2))) := by rw [hd, List.length_map, hkl, ← hl, ← List.length_map (f := fun kv : Key × V => kv.2), List.take_length]
            refine ⟨_, rfl, by show 1 ≤ sizeLine; decide, fun q2 hq2 => ?_⟩
            have e8 := same_upd (o := .lst [o]) hq2
            have hq8 : upd Hc q2 (.lst [o]) q2 = some (.lst [o]) := upd_same
            generalize upd Hc q2 (.lst [o]) = H8 at e8 hq8 ⊢
            refine ⟨D2, q2, _, _, rfl, rfl, e8 _ _ hdc, hq8, ?_, fun p9 hp9 => ?_⟩
            · rw [List.length_map, List.length_singleton]
              exact small1000 (by omega)
            have e9 := same_upd (o := .lst (kvs.map (·.2) ++ [o])) hp9
            have hp9' : upd H8 p9 (.lst (kvs.map (·.2) ++ [o])) p9 = some (.lst (kvs.map (·.2) ++ [o])) := upd_same
            generalize upd H8 p9 (.lst (kvs.map (·.2) ++ [o])) = H9 at e9 hp9' ⊢
            have e09 := (((e0b.trans e5).trans e).trans e8).trans e9
            have hP : Prs K H9 (kvs.map (·.2) ++ [o]) (pairsOf' rs k n) := prsOn (Tups.of e09) (prsSnoc (p := (k, n)) hO (rusVals hR))
            have hPl : (kvs.map (·.2) ++ [o]).length = (pairsOf' rs k n).length := Paired.length hP
            have hPn : (pairsOf' rs k n).length ≤ 901 := by
              unfold pairsOf'
              rw [List.length_append, List.length_map, List.length_singleton]
              omega
            generalize kvs.map (·.2) ++ [o] = xs at hp9' hP hPl ⊢
            refine ⟨_, rfl, p9, rfl, ⟨_, SqL.of hp9'⟩, fun D3 hD3 => ?_⟩
            refine lc_it walk_list (fun i H' => Same H9 H' ∧ ∃ ys, H' D3 = some (.lst ys) ∧ Prs K H9 ys (((pairsOf' rs k n).take i).filter fun z => !kindOk z)) ⟨same_upd hD3, [], upd_same, .nil⟩ (fun _ _ _ ⟨e, _⟩ => e.seq (SqL.of hp9')) ?_ ?_
            · rintro i x Ha Hb hi ⟨e, ys, hd, hys⟩ ⟨rfl, hx⟩
              obtain ⟨pr, hpr, hPr⟩ := prsAt hP hx
              obtain ⟨okk, a, rfl, hT⟩ := hPr
              have hyl : ys.length ≤ 901 := by
                rw [Paired.length hys]
                refine Nat.le_trans (List.length_filter_le _ _) ?_
                rw [List.length_take]
                omega
              refine ⟨rfl, _, rfl, a, _, 0, _, rfl, rfl, e.tupq hT, rfl, by show 3 ≤ sizeLine; decide, fun m hm => ?_⟩
              have e' := e.trans (same_upd (o := .lst [.str "uniform", .str "weighted", .str "optimal"]) hm)
              refine ⟨m, _, rfl, .inl (SqL.of upd_same), rfl, rfl, ?_⟩
              have hdm := same_upd (o := .lst [.str "uniform", .str "weighted", .str "optimal"]) hm _ _ hd
              generalize upd Hb m (.lst [.str "uniform", .str "weighted", .str "optimal"]) = H3 at e' hdm ⊢
              have hk : inV (.str pr.1) [.str "uniform", .str "weighted", .str "optimal"] = kindOk pr := inV_strs pr.1 KINDS3
              refine ⟨_, rfl, ?_⟩
              show if (!inV (.str pr.1) [.str "uniform", .str "weighted", .str "optimal"]) = true then _ else _
              rw [hk]
              cases hb3 : kindOk pr with
              | true =>
                refine iteF ⟨e', ys, hdm, ?_⟩
                rw [take_snoc hpr, List.filter_append, List.filter_cons_of_neg (by rw [hb3]; decide), List.filter_nil, List.append_nil]
                exact hys
              | false =>
                refine iteT ⟨_, rfl, _, hdm, small1000 (by omega), e'.mut hD3, _, upd_same, ?_⟩
                rw [take_snoc hpr, List.filter_append, List.filter_cons_of_pos (by rw [hb3]; decide), List.filter_nil]
                exact prsSnoc ⟨okk, a, rfl, hT⟩ hys
            · rintro Ha ⟨e, ys, hd, hys⟩
              rw [hPl, List.take_length] at hys
              refine ⟨Nat.zero_le _, fun L hL => ?_⟩
              have e0a := e09.trans e
              have hysL : Prs K (upd Ha L (.lst [])) ys ((pairsOf' rs k n).filter fun z => !kindOk z) := prsOn (Tups.of (e.trans (same_upd hL))) hys
              refine ⟨.list (prsD ((pairsOf' rs k n).filter fun z => !kindOk z)), .list [], .lst (SqL.of (same_upd hL D3 _ hd)) (dp_prs hysL), .lst (SqL.of upd_same) .nil, shaped_mk (lay_prs _ (prs_ok hysL)) ?_, rfl, _, rfl, ?_⟩
              · show PyData.depthAll (prsD _) + 1 ≤ 64
                have := depth_prs ((pairsOf' rs k n).filter fun z => !kindOk z)
                omega
              have e0b : Same H (upd Ha L (.lst [])) := e0a.trans (same_upd hL)
              have e9b : Same H9 (upd Ha L (.lst [])) := e.trans (same_upd hL)
              generalize upd Ha L (.lst []) = H10 at e0b e9b ⊢
              unfold prsD
              rw [eqv_nil, filter_empty]
              cases hb2 : (pairsOf' rs k n).all kindOk with
              | false =>
                refine iteT (fin ?_ e0b)
                unfold reasonP
                rw [if_neg n1, if_neg (by rw [hb]; decide), if_pos hb2]
                rfl
              | true =>
                refine iteF ?_
                have hp10 := e9b _ _ hp9'
                have hP10 := prsOn (Tups.of e9b) hP
                refine ⟨_, rfl, p9, rfl, ⟨_, SqL.of hp10⟩, fun D4 hD4 => ?_⟩
                refine lc_it walk_list (fun i H' => Same H10 H' ∧ ∃ ys, H' D4 = some (.lst ys) ∧ Prs K H10 ys (((pairsOf' rs k n).take i).filter fun z => !sizeOk z)) ⟨same_upd hD4, [], upd_same, .nil⟩ (fun _ _ _ ⟨e, _⟩ => e.seq (SqL.of hp10)) ?_ ?_
                · rintro i x Hc2 Hb hi ⟨e, ys, hd, hys⟩ ⟨rfl, hx⟩
                  obtain ⟨pr, hpr, okk, a, rfl, hT⟩ := prsAt hP10 hx
                  have hyl : ys.length ≤ 901 := by
                    rw [Paired.length hys]
                    refine Nat.le_trans (List.length_filter_le _ _) ?_
                    rw [List.length_take]
                    omega
                  have bad : sizeOk pr = false → (∃ acc, Hb D4 = some (.lst acc) ∧ acc.length < sizeLine ∧ Same H10 (upd Hb D4 (.lst (acc ++ [.ref a]))) ∧ ∃ ys, upd Hb D4 (.lst (acc ++ [.ref a])) D4 = some (.lst ys) ∧ Prs K H10 ys (((pairsOf' rs k n).take (i + 1)).filter fun z => !sizeOk z)) := fun hb3 => by
                    refine ⟨_, hd, small1000 (by omega), e.mut hD4, _, upd_same, ?_⟩
                    rw [take_snoc hpr, List.filter_append, List.filter_cons_of_pos (by rw [hb3]; decide), List.filter_nil]
                    exact prsSnoc ⟨okk, a, rfl, hT⟩ hys
                  refine ⟨rfl, _, rfl, a, _, 1, _, rfl, rfl, e.tupq hT, rfl, _, _, rfl, rfl, _, rfl, ite_dec (fun ha => ?_) (fun ha => ?_)⟩
                  · refine iteT ⟨_, rfl, bad ?_⟩
                    unfold sizeOk
                    rw [decide_eq_false (by omega), Bool.false_and]
                  · refine ⟨_, rfl, a, _, 1, _, rfl, rfl, e.tupq hT, rfl, _, _, rfl, rfl, _, rfl, ite_dec (fun hb => ?_) (fun hb => ?_)⟩
                    · refine ⟨_, rfl, bad ?_⟩
                      unfold sizeOk
                      rw [decide_eq_false (p := pr.2 ≤ 20) (by omega), Bool.and_false]
                    · have hb3 : sizeOk pr = true := by
                        unfold sizeOk
                        rw [decide_eq_true (by omega), decide_eq_true (by omega)]
                        rfl
                      refine ⟨e, ys, hd, ?_⟩
                      rw [take_snoc hpr, List.filter_append, List.filter_cons_of_neg (by rw [hb3]; decide), List.filter_nil, List.append_nil]
                      exact hys
                · rintro Hc2 ⟨e, ys, hd, hys⟩
                  rw [hPl, List.take_length] at hys
                  refine ⟨Nat.zero_le _, fun L2 hL2 => ?_⟩
                  have hysL : Prs K (upd Hc2 L2 (.lst [])) ys ((pairsOf' rs k n).filter fun z => !sizeOk z) := prsOn (Tups.of (e.trans (same_upd hL2))) hys
                  refine ⟨.list (prsD ((pairsOf' rs k n).filter fun z => !sizeOk z)), .list [], .lst (SqL.of (same_upd hL2 D4 _ hd)) (dp_prs hysL), .lst (SqL.of upd_same) .nil, shaped_mk (lay_prs _ (prs_ok hysL)) ?_, rfl, _, rfl, ?_⟩
                  · show PyData.depthAll (prsD _) + 1 ≤ 64
                    have := depth_prs ((pairsOf' rs k n).filter fun z => !sizeOk z)
                    omega
                  have e0c : Same H (upd Hc2 L2 (.lst [])) := (e0b.trans e).trans (same_upd hL2)
                  generalize upd Hc2 L2 (.lst []) = H11 at e0c ⊢
                  unfold prsD
                  rw [eqv_nil, filter_empty]
                  cases hb3 : (pairsOf' rs k n).all sizeOk with
                  | false =>
                    refine iteT (fin ?_ e0c)
                    unfold reasonP
                    rw [if_neg n1, if_neg (by rw [hb]; decide), if_neg (by rw [hb2]; decide), if_pos hb3]
                    rfl
                  | true =>
                    refine iteF (fin ?_ e0c)
                    unfold reasonP
                    rw [if_neg n1, if_neg (by rw [hb]; decide), if_neg (by rw [hb2]; decide), if_neg (by rw [hb3]; decide)]
                    rfl

theorem mk_same {H : Hp} {x dx C : Addr} (hx : H x = none) (hdx : H dx = none) : Same H (upd (upd H dx (.own x)) x (.ins C dx [])) := (same_upd hdx).mut hx
theorem ex_same {H H1 H' : Hp} {x : Addr} (hx : H x = none) (e : Same H H1) (e1 : Ex [x] H1 H') : Same H H' := fun b o hb => e1 b o (nin (ne_of_none hb hx)) (e b o hb)
def sp__law_made (K : PySem.W.Frag) (C : Addr) : Sp := fun vs H Q _ => ∃ (p : Addr) (kvs : List (Key × V)) (rs : List Ru) (o : V) (k : Str) (n : Int), vs = [.ref p, o] ∧ H p = some (.dK kvs) ∧ Rus K H kvs rs ∧ Pr K H o k n ∧ kvs.length ≤ 900 ∧
  (reasonP rs k n = none → ∀ r x H', Same H H' → H' r = some (.lst [.str "plan", .ref x]) → Q (.ref r) H') ∧
  (∀ z, reasonP rs k n = some z → ∀ r H', Same H H' → H' r = some (.lst [.str "refused", .str z]) → Q (.ref r) H')
theorem ok__law_made (T : Txt K mg) : FnOk P w K mg base CX0 5 T.f__law_made T.fd__law_made ["_law_rules", "_law_others"] (sp__law_made K T.a_Plan) := by
  refine T.F__law_made.ok sc__law_made (fun vs H Q E h => ?_) (fun cdv A outer s H vs Q E hr h => ?_)
  · obtain ⟨p, kvs, rs, o, k, n, rfl, _⟩ := h
    rfl
  · obtain ⟨p, kvs, rs, o, k, n, rfl, hp, hR, hO, hlen, q1, q2⟩ := h
    refine ⟨_, (pss_one (ps_try_as (i := 2) rfl rfl sc__law_made.nd rfl rfl ⟨rfl, by decide, .inl T.g_InvalidPlan⟩ takes0
        (fun W pn xe tk _ => (pss_one (ps_ret (pe_lst (pa_cons pe_str (pa_cons (pe_makeS T.mk_Plan (okX_Plan___init__ T) (hr.mono (by decide)) (by rfl) T.g_Plan T.b_Plan___init__ (fun σ => passAt tk σ) (pa_cons (pv 0) (pa_cons (pv 1) pa_nil))) pa_nil))))))
        (fun a oe cls d pn hz hf => (pss_one (ps_ret (pe_lst (pa_cons pe_str (pa_cons (pe_xf T.xf_InvalidPlan T.no_InvalidPlan_reason hz hf (pv 2)) pa_nil)))))))), ?_⟩
    refine ⟨_, rfl, _, rfl, fun x dx hx hdx hne => ?_⟩
    have em : Same H (upd (upd H dx (.own x)) x (.ins T.a_Plan dx [])) := mk_same hx hdx
    refine ⟨x, dx, p, kvs, rs, o, k, n, ⟨rfl, upd_same, em _ _ hp, rusOn (Tups.of em) hR, hO.on (Tups.of em), hlen⟩, fun hN d H' hd e hx' hd' => ⟨rfl, ?_⟩, fun z hN d H' hd e hx' => ?_⟩
    · refine ⟨by show 2 ≤ sizeLine; decide, fun r hr1 => ?_⟩
      exact q1 hN r x _ ((ex_same hx em e).trans (same_upd hr1)) upd_same
    · refine ⟨true, T.te_InvalidPlan, fun _ a ha => ?_, fun z => nomatch z⟩
      refine ⟨_, rfl, rfl, rfl, d, _, _, rfl, hx', lk_eq, by show 2 ≤ sizeLine; decide, fun r hr1 => ?_⟩
      exact q2 z hN r _ ((em.trans e).trans (same_upd hr1)) upd_same
/-- what is known of the law's rules at d -/
def RulesAt (K : PySem.W.Frag) (H : Hp) (d : Addr) (N : Nat) : Prop := ∃ kvs rs, H d = some (.dK kvs) ∧ Rus K H kvs rs ∧ (kvs.map (·.1)).Nodup ∧ kvs.length ≤ N
theorem RulesAt.mono {K : PySem.W.Frag} {H : Hp} {d : Addr} {N M : Nat} (h : RulesAt K H d N) (l : N ≤ M) : RulesAt K H d M := by
  obtain ⟨kvs, rs, a, b, c, e⟩ := h
  exact ⟨kvs, rs, a, b, c, Nat.le_trans e l⟩
theorem RulesAt.same {K : PySem.W.Frag} {H H' : Hp} {d : Addr} {N : Nat} (e : Same H H') (h : RulesAt K H d N) : RulesAt K H' d N := by
  obtain ⟨kvs, rs, a, b, c, l⟩ := h
  exact ⟨kvs, rs, e _ _ a, rusOn (Tups.of e) b, c, l⟩
theorem dr_tups {K : PySem.W.Frag} {H H' : Hp} {L : Addr} (d : Dr H L) (e : Ex [L] H H') : Tups K H H' := by
  obtain ⟨ns, h⟩ := d
  exact Tups.ex h (fun _ z => nomatch z) (fun _ _ z => nomatch z) e
theorem RulesAt.dr {K : PySem.W.Frag} {H H' : Hp} {d L : Addr} {N : Nat} (D : Dr H L) (e : Ex [L] H H') (n : d ≠ L) (h : RulesAt K H d N) : RulesAt K H' d N := by
  obtain ⟨kvs, rs, a, b, c, l⟩ := h
  exact ⟨kvs, rs, e _ _ (nin n) a, rusOn (dr_tups D e) b, c, l⟩
theorem putK_len' {κ : Type} [DecidableEq κ] (c : List (κ × V)) (k : κ) (x : V) : (putK c k x).length ≤ c.length + 1 := by
  unfold putK
  split
  · rw [List.length_map]
    omega
  · rw [List.length_append, List.length_singleton]
    omega
/-- a rule is put -/
theorem RulesAt.put {K : PySem.W.Frag} {H : Hp} {d t : Addr} {N : Nat} {g k : Str} {n : Int} (h : RulesAt K H d N) (hN : N ≤ 900) (og : okS g) (ok : okS k) (ht : H t = some (.tup [.str k, .int n])) :
    ∃ H', DPut H d (.str g) (.ref t) H' ∧ Ex [d] H H' ∧ RulesAt K H' d (N + 1) := by
  obtain ⟨kvs, rs, a, b, c, l⟩ := h
  obtain ⟨rs', hr⟩ := rusPut (r := ⟨g, k, n⟩) (v := .ref t) b ⟨rfl, og, ok, t, rfl, SqT.of ht⟩
  have ex : Ex [d] H (upd H d (.dK (putK kvs (.inr g) (.ref t)))) := ex_put
  exact ⟨_, DPut.k (k := .inr g) a (small1000 (by omega)), ex, _, rs', upd_same, rusOn (Tups.ex a (fun _ z => nomatch z) (fun _ _ z => nomatch z) ex) hr, ndPut _ c, Nat.le_trans (putK_len' ..) (by omega)⟩
theorem Pr.put {K : PySem.W.Frag} {H H' : Hp} {d : Addr} {N : Nat} {v : V} {k : Str} {n : Int} (R : RulesAt K H d N) (e : Ex [d] H H') (h : Pr K H v k n) : Pr K H' v k n := by
  obtain ⟨kvs, rs, a, _⟩ := R
  exact h.on (Tups.ex a (fun _ z => nomatch z) (fun _ _ z => nomatch z) e)
theorem gOk : ∀ i : Nat, i < 21 → okS ("g" ++ toString ((0 : Int) + (i : Nat))) := by
  have h : ∀ i : Nat, i < 21 → (("g" ++ toString ((0 : Int) + (i : Nat)) : Str)).length ≤ 1000 ∧ PyData.strOk ("g" ++ toString ((0 : Int) + (i : Nat))) = true := by decide +kernel
  exact h
def sp__law_spoilt (K : PySem.W.Frag) : Sp := fun vs H Q _ => ∃ (L p : Addr) (o : V) (k : Str) (n : Int) (N : Nat), vs = [.ref L, .ref p, o] ∧ Dr H L ∧ RulesAt K H p N ∧ N ≤ 800 ∧ Pr K H o k n ∧
  ∀ r d o' k' n' H', d ≠ L → Ex [L] H H' → Dr H' L → H' r = some (.lst [.ref d, o']) → RulesAt K H' d (N + 21) → Pr K H' o' k' n' → Q (.ref r) H'
theorem ok__law_spoilt (T : Txt K mg) : FnOk P w K mg base CX0 2 T.f__law_spoilt T.fd__law_spoilt ["_law_draws_here", "_law_rules", "_law_others"] (sp__law_spoilt K) := by
  refine T.F__law_spoilt.ok sc__law_spoilt (fun vs H Q E h => ?_) (fun cdv A outer s H vs Q E hr h => ?_)
  · obtain ⟨L, p, o, k, n, N, rfl, _⟩ := h
    rfl
  · obtain ⟨L, p, o, k, n, N, rfl, hD, ⟨kvs, rs, hp, hR, hnd, hlen⟩, hN, hO, q⟩ := h
    refine ⟨_, (pss_cons (ps_set (i := 1) sc__law_spoilt.nd rfl (Or.inl rfl) (pe_callTy (T := "dict") call_dictD (by rfl) T.z_dict (by decide +kernel) (pa_cons (pv 1) pa_nil)))
      (pss_cons (ps_set (i := 3) sc__law_spoilt.nd rfl (Or.inl rfl) (pe_call (ok__law_take T) (hr.mono (by decide)) (by rfl) T.g__law_take T.F__law_take.kp T.b__law_take .nil pass0 (pa_cons (pv 0) (pa_cons pe_int pa_nil))))
      (pss_cut (ps_if (pt_cmpR op_eq (pv 3) pe_int (nomark _))
        (pss_one (ps_for PassesOwn.never rfl (pi_range1 (by rfl) T.z_range (pa_cons (pe_ix ix_list (pe_lst (pa_cons pe_int (pa_cons pe_int (pa_cons pe_int (pa_cons pe_int pa_nil))))) (pe_call (ok__law_take T) (hr.mono (by decide)) (by rfl) T.g__law_take T.F__law_take.kp T.b__law_take .nil pass0 (pa_cons (pv 0) (pa_cons pe_int pa_nil))) (fun _ _ => rfl)) pa_nil)) (pg_name (i := 4) sc__law_spoilt.nd rfl (Or.inl rfl))
          (pss_one (ps_dput (hu_of hr) (pv 1) (pe_op op_add_str pe_str (pe_callTy (T := "str") call_str_int (by rfl) T.z_str (by decide +kernel) (pa_cons (pv 4) pa_nil))) (pe_tup (pa_cons pe_str (pa_cons (pe_op op_add pe_int (pv 4)) pa_nil))) rfl))))
        (pss_one (ps_if (pt_cmpR op_eq (pv 3) pe_int (nomark _))
          (pss_one (ps_dput (hu_of hr) (pv 1) (pe_ix ix_list (pe_lst (pa_cons pe_str (pa_cons pe_str (pa_cons pe_str (pa_cons pe_str pa_nil))))) (pe_call (ok__law_take T) (hr.mono (by decide)) (by rfl) T.g__law_take T.F__law_take.kp T.b__law_take .nil pass0 (pa_cons (pv 0) (pa_cons pe_int pa_nil))) (fun _ _ => rfl)) (pe_tup (pa_cons pe_str (pa_cons pe_int pa_nil))) rfl))
          (pss_one (ps_if (pt_cmpR op_eq (pv 3) pe_int (nomark _))
            (pss_one (ps_set (i := 2) sc__law_spoilt.nd rfl (Or.inl rfl) (pe_tup (pa_cons (pe_ix ix_list (pe_lst (pa_cons pe_str (pa_cons pe_str (pa_cons pe_str pa_nil)))) (pe_call (ok__law_take T) (hr.mono (by decide)) (by rfl) T.g__law_take T.F__law_take.kp T.b__law_take .nil pass0 (pa_cons (pv 0) (pa_cons pe_int pa_nil))) (fun _ _ => rfl)) (pa_cons (pe_ix ix_tup (pv 2) pe_int (fun _ _ => rfl)) pa_nil)))))
            (pss_one (ps_if (pt_cmpR op_eq (pv 3) pe_int (nomark _))
              (pss_one (ps_set (i := 2) sc__law_spoilt.nd rfl (Or.inl rfl) (pe_tup (pa_cons (pe_ix ix_tup (pv 2) pe_int (fun _ _ => rfl)) (pa_cons (pe_ix ix_list (pe_lst (pa_cons pe_int (pa_cons pe_int (pa_cons (pe_un un_neg pe_int) (pa_cons pe_int pa_nil))))) (pe_call (ok__law_take T) (hr.mono (by decide)) (by rfl) T.g__law_take T.F__law_take.kp T.b__law_take .nil pass0 (pa_cons (pv 0) (pa_cons pe_int pa_nil))) (fun _ _ => rfl)) pa_nil)))))
              (pss_one (ps_if (pt_cmpR op_eq (pv 3) pe_int (nomark _))
                (pss_one (ps_dput (hu_of hr) (pv 1) pe_str (pe_tup (pa_cons (pe_ix ix_list (pe_lst (pa_cons pe_str (pa_cons pe_str pa_nil))) (pe_call (ok__law_take T) (hr.mono (by decide)) (by rfl) T.g__law_take T.F__law_take.kp T.b__law_take .nil pass0 (pa_cons (pv 0) (pa_cons pe_int pa_nil))) (fun _ _ => rfl)) (pa_cons (pe_ix ix_list (pe_lst (pa_cons pe_int (pa_cons pe_int (pa_cons pe_int (pa_cons pe_int pa_nil))))) (pe_call (ok__law_take T) (hr.mono (by decide)) (by rfl) T.g__law_take T.F__law_take.kp T.b__law_take .nil pass0 (pa_cons (pv 0) (pa_cons pe_int pa_nil))) (fun _ _ => rfl)) pa_nil))) rfl))
                pss_nil)))))))))
      (pss_one (ps_ret (pe_lst (pa_cons (pv 1) (pa_cons (pv 2) pa_nil)))))))), ?_⟩
    refine ⟨_, rfl, p, kvs, rfl, .inl hp, fun d hd => ?_⟩
    have e1 := same_upd (o := .dK kvs) hd
    have hd1 : upd H d (.dK kvs) d = some (.dK kvs) := upd_same
    generalize upd H d (.dK kvs) = H1 at e1 hd1 ⊢
    have D1 := hD.same e1
    have nd : d ≠ L := hD.ne hd
    refine ⟨_, rfl, L, 6, rfl, by decide, D1, fun kd H2 _ _ e2 D2 => ?_⟩
    have R2 : RulesAt K H2 d N := RulesAt.dr D1 e2 nd ⟨kvs, rs, hd1, rusOn (Tups.of e1) hR, hnd, hlen⟩
    have hO2 : Pr K H2 o k n := (hO.on (Tups.of e1)).on (dr_tups D1 e2)
    have e02 : Ex [L] H H2 := (Ex.of e1).trans e2
    have mStr : ∀ (zs : List Str), (∀ z ∈ zs, z.length ≤ 1000 ∧ PyData.strOk z = true) → ∀ j : Int, 0 ≤ j → j < zs.length → ∃ z, okS z ∧ atI (zs.map V.str) j = some (.str z) := fun zs h j j0 j1 => by
      obtain ⟨z, hz, ha⟩ := menu V.str zs j0 j1
      exact ⟨z, h z hz, ha⟩
    have mInt : ∀ (zs : List Int), ∀ j : Int, 0 ≤ j → j < zs.length → ∃ z, z ∈ zs ∧ atI (zs.map V.int) j = some (.int z) := fun zs j j0 j1 => menu V.int zs j0 j1
    refine ⟨fun σ' H' => ∃ (o' : V) (k' : Str) (n' : Int) (x4 : Option V), σ' = [some (.ref L), some (.ref d), some o', some (.int kd), x4] ∧ Ex [L] H H' ∧ Dr H' L ∧ RulesAt K H' d (N + 21) ∧ Pr K H' o' k' n', ?_, ?_⟩
    · refine ⟨_, rfl, rfl, _, rfl, ite_dec (fun _ => ?_) (fun _ => ?_)⟩
      · refine ⟨by show 4 ≤ sizeLine; decide, fun m hm => ?_⟩
        have e3 := same_upd (o := .lst [.int 17, .int 18, .int 20, .int 21]) hm
        have hm3 : upd H2 m (.lst [.int 17, .int 18, .int 20, .int 21]) m = some (.lst [.int 17, .int 18, .int 20, .int 21]) := upd_same
        generalize upd H2 m (.lst [.int 17, .int 18, .int 20, .int 21]) = H3 at e3 hm3 ⊢
        have D3 := D2.same e3
        refine ⟨_, rfl, L, 4, rfl, by decide, D3, fun j H4 j0 j1 e4 D4 => ?_⟩
        obtain ⟨z, hzm, hz⟩ := mInt [17, 18, 20, 21] j j0 j1
        have hz0 : 0 ≤ z ∧ z ≤ 21 := by
          simp only [List.mem_cons, List.not_mem_nil, or_false] at hzm
          omega
        have R4 := (R2.same e3).dr D3 e4 nd
        have hO4 := (hO2.on (Tups.of e3)).on (dr_tups (K := K) D3 e4)
        refine ⟨m, _, j, _, rfl, rfl, SqL.of (e4.at (nin (D2.ne hm)) hm3), hz, z, rfl, ?_⟩
        refine ⟨by omega, by omega, ?_⟩
        refine for_it (n := z.toNat) walk_range (fun i σ H' => ∃ (x4 : Option V), σ = [some (.ref L), some (.ref d), some o, some (.int kd), x4] ∧ Ex [L] H H' ∧ Dr H' L ∧ RulesAt K H' d (N + i) ∧ Pr K H' o k n)
          ⟨_, rfl, (e02.trans (Ex.of e3)).trans e4, D4, R4, hO4⟩ (fun _ _ _ _ _ => trivial) ?_ ?_
        · rintro i x σ Ha Hb hi ⟨x4, rfl, ea, Da, Ra, Oa⟩ ⟨rfl, rfl⟩
          have hi21 : i < 21 := by omega
          refine ⟨_, rfl, _, _, rfl, rfl, by show 2 ≤ sizeLine; decide, fun t ht => ?_⟩
          have e5 := same_upd (o := .tup [.str "uniform", .int (1 + (0 + (i : Nat)))]) ht
          have ht5 : upd Hb t (.tup [.str "uniform", .int (1 + (0 + (i : Nat)))]) t = some (.tup [.str "uniform", .int (1 + (0 + (i : Nat)))]) := upd_same
          generalize upd Hb t (.tup [.str "uniform", .int (1 + (0 + (i : Nat)))]) = H5 at e5 ht5 ⊢
          refine ⟨_, rfl, _, rfl, _, rfl, Nat.lt_of_le_of_lt (Nat.log2_le_self _) (by omega), _, _, rfl, rfl, ?_, ?_⟩
          · have := (gOk i hi21).1
            rw [show (("g" : Str)).length = 1 from rfl]
            have h2 : (("g" ++ toString ((0 : Int) + (i : Nat)) : Str)).length = 1 + (toString ((0 : Int) + (i : Nat)) : Str).length := by
              rw [Str.length_append]
              rfl
            rw [← h2]
            exact Nat.le_trans this (by decide)
          · obtain ⟨H6, hput, e6, R6⟩ := (Ra.same e5).put (by omega) (gOk i hi21) (k := "uniform") ⟨by decide, by decide +kernel⟩ ht5
            refine ⟨d, H6, rfl, hput, _, rfl, (ea.trans (Ex.of e5)).new1 e6 hd, (Da.same e5).at e6 nd.symm, R6.mono (by omega), ?_⟩
            · exact Pr.put (Ra.same e5) e6 (Oa.on (Tups.of e5))
        · rintro σ Ha ⟨x4, rfl, ea, Da, Ra, Oa⟩
          exact ⟨_, _, _, _, rfl, ea, Da, Ra.mono (by omega), Oa⟩
      · refine ⟨_, rfl, rfl, _, rfl, ite_dec (fun _ => ?_) (fun _ => ?_)⟩
        · refine ⟨by show 2 ≤ sizeLine; decide, fun t ht => ?_⟩
          have nt := D2.ne ht
          have e3 := same_upd (o := .tup [.str "optimal", .int 3]) ht
          have ht3 : upd H2 t (.tup [.str "optimal", .int 3]) t = some (.tup [.str "optimal", .int 3]) := upd_same
          generalize upd H2 t (.tup [.str "optimal", .int 3]) = H3 at e3 ht3 ⊢
          have D3 := D2.same e3
          refine ⟨_, rfl, by show 4 ≤ sizeLine; decide, fun m hm => ?_⟩
          have nm := D3.ne hm
          have e4 := same_upd (o := .lst [.str "", .str "Red", .str "abcdefghijklm", .str "a b"]) hm
          have hm4 : upd H3 m (.lst [.str "", .str "Red", .str "abcdefghijklm", .str "a b"]) m = some (.lst [.str "", .str "Red", .str "abcdefghijklm", .str "a b"]) := upd_same
          generalize upd H3 m (.lst [.str "", .str "Red", .str "abcdefghijklm", .str "a b"]) = H4 at e4 hm4 ⊢
          have D4 := D3.same e4
          refine ⟨_, rfl, L, 4, rfl, by decide, D4, fun j H5 j0 j1 e5 D5 => ?_⟩
          obtain ⟨z, okz, hz⟩ := mStr ["", "Red", "abcdefghijklm", "a b"] (by decide +kernel) j j0 j1
          have R5 := ((R2.same e3).same e4).dr D4 e5 nd
          have O5 := ((hO2.on (Tups.of e3)).on (Tups.of e4)).on (dr_tups (K := K) D4 e5)
          obtain ⟨H6, hput, e6, R6⟩ := R5.put (by omega) okz (k := "optimal") ⟨by decide, by decide +kernel⟩ (e5.at (nin nt) (e4 _ _ ht3))
          refine ⟨m, _, j, _, rfl, rfl, SqL.of (e5.at (nin nm) hm4), hz, d, H6, rfl, hput, _, _, _, _, rfl, ((((e02.trans (Ex.of e3)).trans (Ex.of e4)).trans e5)).new1 e6 hd, D5.at e6 nd.symm, R6.mono (by omega), Pr.put R5 e6 O5⟩
        · refine ⟨_, rfl, rfl, _, rfl, ite_dec (fun _ => ?_) (fun _ => ?_)⟩
          · refine ⟨by show 3 ≤ sizeLine; decide, fun m hm => ?_⟩
            have nm := D2.ne hm
            have e3 := same_upd (o := .lst [.str "uniforms", .str "", .str "Optimal"]) hm
            have hm3 : upd H2 m (.lst [.str "uniforms", .str "", .str "Optimal"]) m = some (.lst [.str "uniforms", .str "", .str "Optimal"]) := upd_same
            generalize upd H2 m (.lst [.str "uniforms", .str "", .str "Optimal"]) = H3 at e3 hm3 ⊢
            have D3 := D2.same e3
            refine ⟨_, rfl, L, 3, rfl, by decide, D3, fun j H5 j0 j1 e5 D5 => ?_⟩
            obtain ⟨z, okz, hz⟩ := mStr ["uniforms", "", "Optimal"] (by decide +kernel) j j0 j1
            have R5 := (R2.same e3).dr D3 e5 nd
            obtain ⟨ok5, a, rfl, aT⟩ := (hO2.on (Tups.of e3)).on (dr_tups (K := K) D3 e5)
            refine ⟨m, _, j, _, rfl, rfl, SqL.of (e5.at (nin nm) hm3), hz, _, rfl, a, _, 1, _, rfl, rfl, aT, rfl, by show 2 ≤ sizeLine; decide, fun t ht => ?_⟩
            have et : Same H5 (upd H5 t (.tup [.str z, .int n])) := same_upd ht
            exact ⟨_, z, n, _, rfl, ((e02.trans (Ex.of e3)).trans e5).trans (Ex.of et), D5.same et, (R5.same et).mono (by omega), okz, t, rfl, SqT.of upd_same⟩
          · refine ⟨_, rfl, rfl, _, rfl, ite_dec (fun _ => ?_) (fun _ => ?_)⟩
            · obtain ⟨ok2, a, rfl, aT⟩ := hO2
              refine ⟨_, rfl, a, _, 0, _, rfl, rfl, aT, rfl, _, rfl, by show 4 ≤ sizeLine; decide, fun m hm => ?_⟩
              have nm := D2.ne hm
              have e3 := same_upd (o := .lst [.int 0, .int 21, .int (-1), .int 20]) hm
              have hm3 : upd H2 m (.lst [.int 0, .int 21, .int (-1), .int 20]) m = some (.lst [.int 0, .int 21, .int (-1), .int 20]) := upd_same
              generalize upd H2 m (.lst [.int 0, .int 21, .int (-1), .int 20]) = H3 at e3 hm3 ⊢
              have D3 := D2.same e3
              refine ⟨_, rfl, L, 4, rfl, by decide, D3, fun j H5 j0 j1 e5 D5 => ?_⟩
              obtain ⟨z, _, hz⟩ := mInt [0, 21, -1, 20] j j0 j1
              have R5 := (R2.same e3).dr D3 e5 nd
              refine ⟨m, _, j, _, rfl, rfl, SqL.of (e5.at (nin nm) hm3), hz, by show 2 ≤ sizeLine; decide, fun t ht => ?_⟩
              have et : Same H5 (upd H5 t (.tup [.str k, .int z])) := same_upd ht
              exact ⟨_, k, z, _, rfl, ((e02.trans (Ex.of e3)).trans e5).trans (Ex.of et), D5.same et, (R5.same et).mono (by omega), ok2, t, rfl, SqT.of upd_same⟩
            · refine ⟨_, rfl, rfl, _, rfl, ite_dec (fun _ => ?_) (fun _ => ?_)⟩
              · refine ⟨by show 2 ≤ sizeLine; decide, fun m hm => ?_⟩
                have nm := D2.ne hm
                have e3 := same_upd (o := .lst [.str "sum", .str "weighted"]) hm
                have hm3 : upd H2 m (.lst [.str "sum", .str "weighted"]) m = some (.lst [.str "sum", .str "weighted"]) := upd_same
                generalize upd H2 m (.lst [.str "sum", .str "weighted"]) = H3 at e3 hm3 ⊢
                have D3 := D2.same e3
                refine ⟨_, rfl, L, 2, rfl, by decide, D3, fun j H4 j0 j1 e4 D4 => ?_⟩
                obtain ⟨z, okz, hz⟩ := mStr ["sum", "weighted"] (by decide +kernel) j j0 j1
                refine ⟨m, _, j, _, rfl, rfl, SqL.of (e4.at (nin nm) hm3), hz, by show 4 ≤ sizeLine; decide, fun m2 hm2 => ?_⟩
                have nm2 := D4.ne hm2
                have e5 := same_upd (o := .lst [.int 2, .int 20, .int 21, .int 0]) hm2
                have hm5 : upd H4 m2 (.lst [.int 2, .int 20, .int 21, .int 0]) m2 = some (.lst [.int 2, .int 20, .int 21, .int 0]) := upd_same
                generalize upd H4 m2 (.lst [.int 2, .int 20, .int 21, .int 0]) = H5 at e5 hm5 ⊢
                have D5 := D4.same e5
                refine ⟨_, rfl, L, 4, rfl, by decide, D5, fun i H6 i0 i1 e6 D6 => ?_⟩
                obtain ⟨y, _, hy⟩ := mInt [2, 20, 21, 0] i i0 i1
                have R6 := (((R2.same e3).dr D3 e4 nd).same e5).dr D5 e6 nd
                have O6 := (((hO2.on (Tups.of e3)).on (dr_tups (K := K) D3 e4)).on (Tups.of e5)).on (dr_tups (K := K) D5 e6)
                refine ⟨m2, _, i, _, rfl, rfl, SqL.of (e6.at (nin nm2) hm5), hy, by show 2 ≤ sizeLine; decide, fun t ht => ?_⟩
                have e7 := same_upd (o := .tup [.str z, .int y]) ht
                have ht7 : upd H6 t (.tup [.str z, .int y]) t = some (.tup [.str z, .int y]) := upd_same
                generalize upd H6 t (.tup [.str z, .int y]) = H7 at e7 ht7 ⊢
                obtain ⟨H8, hput, e8, R8⟩ := (R6.same e7).put (g := "blue") (by omega) ⟨by decide, by decide +kernel⟩ okz ht7
                refine ⟨_, rfl, d, H8, rfl, hput, _, _, _, _, rfl, (((((e02.trans (Ex.of e3)).trans e4).trans (Ex.of e5)).trans e6).trans (Ex.of e7)).new1 e8 hd, (D6.same e7).at e8 nd.symm, R8.mono (by omega), Pr.put (R6.same e7) e8 (O6.on (Tups.of e7))⟩
              · exact ⟨_, _, _, _, rfl, e02, D2, R2.mono (by omega), hO2⟩
    · rintro σ' H' ⟨o', k', n', x4, rfl, ea, Da, Ra, Oa⟩
      refine ⟨_, rfl, _, rfl, by show 2 ≤ sizeLine; decide, fun r hr1 => ?_⟩
      have er : Same H' (upd H' r (.lst [.ref d, o'])) := same_upd hr1
      exact q r d o' k' n' _ nd (ea.trans (Ex.of er)) (Da.same er) upd_same (Ra.same er) (Oa.on (Tups.of er))

theorem reason_none {rs : List Ru} {k : Str} {n : Int} (h : reasonP rs k n = none) : rs.length ≤ 20 := by
  unfold reasonP at h
  by_cases h1 : rs.length > 20
  · rw [if_pos h1] at h
    cases h
  · omega
theorem reason_kind {rs : List Ru} {k k' : Str} {n : Int} (h : reasonP rs k n = none) (hk : k' ∈ KINDS3) : reasonP rs k' n = none := by
  unfold reasonP at h ⊢
  by_cases h1 : rs.length > 20
  · rw [if_pos h1] at h
    cases h
  rw [if_neg h1] at h ⊢
  by_cases h2 : (rs.all fun r => isName r.g) = false
  · rw [if_pos h2] at h
    cases h
  rw [if_neg h2] at h ⊢
  by_cases h3 : (pairsOf' rs k n).all kindOk = false
  · rw [if_pos h3] at h
    cases h
  rw [if_neg h3] at h
  by_cases h4 : (pairsOf' rs k n).all sizeOk = false
  · rw [if_pos h4] at h
    cases h
  have a3 := Bool.of_not_eq_false h3
  have a4 := Bool.of_not_eq_false h4
  unfold pairsOf' at a3 a4
  rw [List.all_append, Bool.and_eq_true] at a3 a4
  have b3 : (pairsOf' rs k' n).all kindOk = true := by
    unfold pairsOf'
    rw [List.all_append, a3.1]
    show (kindOk (k', n) && true) = true
    unfold kindOk
    rw [decide_eq_true hk]
    rfl
  have b4 : (pairsOf' rs k' n).all sizeOk = true := by
    unfold pairsOf'
    rw [List.all_append, a4.1]
    exact a4.2
  rw [if_neg (by rw [b3]; decide), if_neg (by rw [b4]; decide)]
theorem small_strs : ∀ zs : List Str, smallAllD (strsD zs) = true
  | [] => rfl
  | z :: r => by
    show (true && smallAllD (strsD r)) = true
    rw [small_strs r]
    rfl
theorem small_prs : ∀ ps : List (Str × Int), smallAllD (prsD ps) = true
  | [] => rfl
  | p :: r => by
    show ((decide (2 ≤ 1000) && (true && (true && true))) && smallAllD (prsD r)) = true
    rw [small_prs r]
    rfl
theorem dpAll_app {K : PySem.W.Frag} {H : Hp} {ys : List V} {es : List PyData} (h2 : DpAll K H ys es) : ∀ {xs : List V} {ds : List PyData}, DpAll K H xs ds → DpAll K H (xs ++ ys) (ds ++ es)
  | _, _, .nil => h2
  | _, _, .cons a t => .cons a (dpAll_app h2 t)
theorem layAll_app : ∀ {ds es : List PyData}, PyData.canLayAll0 ds = true → PyData.canLayAll0 es = true → PyData.canLayAll0 (ds ++ es) = true
  | [], _, _, h => h
  | d :: r, es, h1, h2 => by
    obtain ⟨a, b⟩ := Bool.and_eq_true_iff.mp h1
    exact Bool.and_eq_true_iff.mpr ⟨a, layAll_app b h2⟩
theorem smallAll_app : ∀ {ds es : List PyData}, smallAllD ds = true → smallAllD es = true → smallAllD (ds ++ es) = true
  | [], _, _, h => h
  | d :: r, es, h1, h2 => by
    obtain ⟨a, b⟩ := Bool.and_eq_true_iff.mp h1
    exact Bool.and_eq_true_iff.mpr ⟨a, smallAll_app b h2⟩
theorem depthAll_app : ∀ (ds es : List PyData), PyData.depthAll (ds ++ es) = max (PyData.depthAll ds) (PyData.depthAll es)
  | [], es => (Nat.zero_max _).symm
  | d :: r, es => by
    show max d.depth (PyData.depthAll (r ++ es)) = max (max d.depth (PyData.depthAll r)) (PyData.depthAll es)
    rw [depthAll_app r es, Nat.max_assoc]
/-- what a place has: its own rule, or the others' -/
def valP (kvs : List (Key × V)) (o : V) : Option Str → V
  | none => o
  | some z => (valV kvs (.inr z)).getD o
theorem prsOf {K : PySem.W.Frag} {H : Hp} {α : Type} {f : α → V} : ∀ {zs : List α}, (∀ z ∈ zs, ∃ k n, Pr K H (f z) k n) → ∃ ps, Prs K H (zs.map f) ps
  | [], _ => ⟨[], .nil⟩
  | z :: r, h => by
    obtain ⟨ps, hp⟩ := prsOf (zs := r) fun x hx => h x (List.mem_cons_of_mem _ hx)
    obtain ⟨k, n, hz⟩ := h z List.mem_cons_self
    exact ⟨(k, n) :: ps, .cons hz hp⟩
def sp__law_stands (K : PySem.W.Frag) : Sp := fun vs H Q _ => ∃ (p : Addr) (kvs : List (Key × V)) (rs : List Ru) (o : V) (k : Str) (n : Int), vs = [.ref p, o] ∧ H p = some (.dK kvs) ∧ Rus K H kvs rs ∧ (kvs.map (·.1)).Nodup ∧ Pr K H o k n ∧ kvs.length ≤ 900 ∧ reasonP rs k n = none ∧
  ∀ H', Ex [p] H H' → Q (.bl true) H'
theorem ok__law_stands (T : Txt K mg) : FnOk P w K mg base CX0 6 T.f__law_stands T.fd__law_stands ["_law_rules", "_law_others"] (sp__law_stands K) := by
  have ok__law_same : ∀ T : Txt K mg, FnOk P w K mg base CX0 5 T.f__law_same T.fd__law_same ["_law_actual", "_law_due"] (sp__law_same K 4) := fun T => okR__law_same T 4 (by decide)
  refine T.F__law_stands.ok sc__law_stands (fun vs H Q E h => ?_) (fun cdv A outer s H vs Q E hr h => ?_)
  · obtain ⟨p, kvs, rs, o, k, n, rfl, _⟩ := h
    rfl
  · obtain ⟨p, kvs, rs, o, k, n, rfl, hp, hR, hnd, hO, hlen, hN, q⟩ := h
    refine ⟨_, (pss_cons (ps_set (i := 2) sc__law_stands.nd rfl (Or.inr rfl) (pe_callTy (T := "dict") call_dictD (by rfl) T.z_dict (by decide +kernel) (pa_cons (pv 0) pa_nil)))
      (pss_cons (ps_set (i := 3) sc__law_stands.nd rfl (Or.inr rfl) (pe_make T.mk_Plan (ok_Plan___init__ T) (hr.mono (by decide)) (by rfl) T.g_Plan T.b_Plan___init__ .nil pass0 (pa_cons (pv 0) (pa_cons (pv 1) pa_nil))))
      (pss_cons (ps_set (i := 4) sc__law_stands.nd rfl (Or.inl rfl) (pe_make T.mk_Plan (ok_Plan___init__ T) (hr.mono (by decide)) (by rfl) T.g_Plan T.b_Plan___init__ .nil pass0 (pa_cons (pe_callTy (T := "dict") call_dictD (by rfl) T.z_dict (by decide +kernel) (pa_cons (pv 0) pa_nil)) (pa_cons (pv 1) pa_nil))))
      (pss_cons (ps_set (i := 5) sc__law_stands.nd rfl (Or.inl rfl) (pe_make T.mk_Plan (ok_Plan___init__ T) (hr.mono (by decide)) (by rfl) T.g_Plan T.b_Plan___init__ .nil pass0 (pa_cons (pv 2) (pa_cons (pe_tup (pa_cons (pe_ix ix_list (pe_lst (pa_cons pe_str (pa_cons pe_str pa_nil))) (pe_callTy (T := "int") call_int1 (by rfl) T.z_int (by decide +kernel) (pa_cons (pe_cmpR op_eq (pe_ix ix_tup (pv 1) pe_int (fun _ _ => rfl)) pe_str (nomark _)) pa_nil)) (fun _ _ => rfl)) (pa_cons (pe_ix ix_tup (pv 1) pe_int (fun _ _ => rfl)) pa_nil))) pa_nil))))
      (pss_cons (ps_dput (hu_of hr) (pv 0) pe_str (pe_tup (pa_cons pe_str (pa_cons pe_int pa_nil))) rfl)
      (pss_cons (ps_set (i := 6) sc__law_stands.nd rfl (Or.inl rfl) (pe_op op_cat (pe_callB (id := "sorted") cr_sortedS (by rfl) T.z_sorted (by decide +kernel) (pa_cons (pe_callTy (T := "list") (call_listD rfl) (by rfl) T.z_list (by decide +kernel) (pa_cons (pv 2) pa_nil)) pa_nil)) (pe_lst (pa_cons pe_non pa_nil))))
      (pss_cons (ps_if (PW.pt (pw_or (pt_not (pt_val (pe_call (ok__law_same T) (hr.mono (by decide)) (by rfl) T.g__law_same T.F__law_same.kp T.b__law_same .nil pass0 (pa_cons (pe_meth0 (pv 3) T.cl_Plan T.M_Plan_places (ok_Plan_places T) (hr.mono (by decide)) T.b_Plan_places .nil pass0) (pa_cons (pv 6) pa_nil))))) (pw_or1 (pt_not (pt_val (pe_call (ok__law_same T) (hr.mono (by decide)) (by rfl) T.g__law_same T.F__law_same.kp T.b__law_same .nil pass0 (pa_cons (pe_lst (pa_cons (pe_call (ok_same_plan T) (hr.mono (by decide)) (by rfl) T.g_same_plan T.F_same_plan.kp T.b_same_plan .nil pass0 (pa_cons (pv 3) (pa_cons (pv 4) pa_nil))) (pa_cons (pe_call (ok_same_plan T) (hr.mono (by decide)) (by rfl) T.g_same_plan T.F_same_plan.kp T.b_same_plan .nil pass0 (pa_cons (pv 3) (pa_cons (pv 5) pa_nil))) pa_nil))) (pa_cons (pe_lst (pa_cons pe_bl (pa_cons pe_bl pa_nil))) pa_nil))))))))
        (pss_one (ps_ret pe_bl))
        pss_nil)
      (pss_cons (ps_for PassesOwn.never rfl (pi_list (pe_lst (pa_cons pe_str (pa_cons pe_str (pa_cons pe_str (pa_cons pe_str (pa_cons pe_str pa_nil))))))) (pg_name (i := 7) sc__law_stands.nd rfl (Or.inl rfl))
        (pss_cons (ps_set (i := 8) sc__law_stands.nd rfl (Or.inl rfl) pe_non)
        (pss_cut (ps_if (pt_cmp (pc_din (hu_of hr) (pv 7) (pv 2)))
          (pss_one (ps_set (i := 8) sc__law_stands.nd rfl (Or.inl rfl) (pv 7)))
          pss_nil)
        (pss_one (ps_if (pt_not (pt_val (pe_call (ok__law_same T) (hr.mono (by decide)) (by rfl) T.g__law_same T.F__law_same.kp T.b__law_same .nil pass0 (pa_cons (pe_meth (pv 3) T.cl_Plan T.M_Plan_place_of (ok_Plan_place_of T) (hr.mono (by decide)) T.b_Plan_place_of .nil pass0 (pa_cons (pv 7) pa_nil)) (pa_cons (pv 8) pa_nil)))))
          (pss_one (ps_ret pe_bl))
          pss_nil)))))
      (pss_one (ps_ret (pe_call (ok__law_same T) (hr.mono (by decide)) (by rfl) T.g__law_same T.F__law_same.kp T.b__law_same .nil pass0 (pa_cons (pe_lc (own := [("_law_place", 8)]) (g := gName 8) rfl sc__law_stands.nd (pi_list (pv 6)) (blkOk_by (own := [("_law_place", 8)]) (N := nm__law_stands) (sc := defScope s__law_stands) (by decide +kernel)) (fun _ _ _ _ _ => pg_name (i := 8) sc__law_stands.nd rfl (Or.inl rfl)) (fun _ _ _ _ _ => pts_nil) (fun _ _ _ _ _ => (pe_meth (pv 3) T.cl_Plan T.M_Plan_rule (ok_Plan_rule T) (hr.mono (by decide)) T.b_Plan_rule .nil pass0 (pa_cons (pv 8) pa_nil)))) (pa_cons (pe_lc (own := [("_law_place", 8)]) (g := gName 8) rfl sc__law_stands.nd (pi_list (pv 6)) (blkOk_by (own := [("_law_place", 8)]) (N := nm__law_stands) (sc := defScope s__law_stands) (by decide +kernel)) (fun _ _ _ _ _ => pg_name (i := 8) sc__law_stands.nd rfl (Or.inl rfl)) (fun _ _ _ _ _ => pts_nil) (fun _ _ _ _ _ => (pe_dget2N (hu_of hr) (pv 2) (pv 8) (pv 1) ⟨rfl, rfl, rfl, rfl⟩))) pa_nil))))))))))))), ?_⟩
    have hl : kvs.length = rs.length := Paired.length hR
    have h20 := reason_none hN
    have ek : (kvs.map fun kv => kV kv.1) = (keysS rs).map V.str := by
      have e := congrArg (List.map kV) (rusKeys hR)
      rw [List.map_map, List.map_map] at e
      exact e
    have hkl : (keysS rs).length = rs.length := List.length_map ..
    have kAt : ∀ z ∈ keysS rs, okS z ∧ ∃ v, valV kvs (.inr z) = some v ∧ ∃ k n, Pr K H v k n := fun z hz => by
      obtain ⟨r, hr1, rfl⟩ := List.mem_map.mp hz
      obtain ⟨i, hi⟩ := List.mem_iff_getElem?.mp hr1
      have hi' : i < kvs.length := by rw [hl]; exact (List.getElem?_eq_some_iff.mp hi).1
      obtain ⟨r2, h2, hk1, okg, hPr⟩ := rusAt hR (i := i) (k := kvs[i].1) (v := kvs[i].2) (List.getElem?_eq_getElem hi')
      rw [hi] at h2
      cases h2
      refine ⟨okg, _, ?_, _, _, hPr⟩
      rw [← hk1]
      exact val_nodup hnd _ (List.getElem_mem hi')
    -- kept
    refine ⟨_, rfl, p, kvs, rfl, .inl hp, fun g hg => ?_⟩
    have ngp : g ≠ p := (ne_of_none hp hg).symm
    have e1 := same_upd (o := .dK kvs) hg
    have hg1 : upd H g (.dK kvs) g = some (.dK kvs) := upd_same
    generalize upd H g (.dK kvs) = H1 at e1 hg1 ⊢
    -- made
    refine ⟨_, rfl, _, rfl, fun x dx hx hdx hne => ?_⟩
    have nxp : x ≠ p := (ne_of_none (e1 _ _ hp) hx).symm
    have em := mk_same (C := T.a_Plan) hx hdx
    have e1m := e1.trans em
    refine ⟨x, dx, p, kvs, rs, o, k, n, ⟨rfl, upd_same, e1m _ _ hp, rusOn (Tups.of e1m) hR, hO.on (Tups.of e1m), hlen⟩, hN, fun d H2 hd e2 hx2 hd2 => ⟨rfl, ?_⟩⟩
    have ndp : d ≠ p := (ne_of_none (e1m _ _ hp) hd).symm
    have e12 : Same H1 H2 := ex_same hx em e2
    have e02 := e1.trans e12
    -- again
    refine ⟨_, rfl, p, kvs, rfl, .inl (e02 _ _ hp), fun g2 hg2 => ?_⟩
    have e3 := same_upd (o := .dK kvs) hg2
    have hg3 : upd H2 g2 (.dK kvs) g2 = some (.dK kvs) := upd_same
    generalize upd H2 g2 (.dK kvs) = H3 at e3 hg3 ⊢
    have e03 := e02.trans e3
    refine ⟨_, rfl, fun x2 dx2 hxn2 hdx2 hne2 => ?_⟩
    have nx2p : x2 ≠ p := (ne_of_none (e03 _ _ hp) hxn2).symm
    have em2 := mk_same (C := T.a_Plan) hxn2 hdx2
    have e0m := e03.trans em2
    refine ⟨x2, dx2, g2, kvs, rs, o, k, n, ⟨rfl, upd_same, em2 _ _ hg3, rusOn (Tups.of e0m) hR, hO.on (Tups.of e0m), hlen⟩, hN, fun d2 H4 hdn2 e4 hx4 hd4 => ⟨rfl, ?_⟩⟩
    have nd2p : d2 ≠ p := (ne_of_none (e0m _ _ hp) hdn2).symm
    have e34 : Same H3 H4 := ex_same hxn2 em2 e4
    have e04 := e03.trans e34
    -- changed
    obtain ⟨okk, a, rfl, aT⟩ := hO
    obtain ⟨k2, hk2, hkne, hat⟩ : ∃ k2 : Str, k2 ∈ KINDS3 ∧ k ≠ k2 ∧ atI [V.str "uniform", V.str "weighted"] (if decide (V.str k = V.str "uniform") = true then 1 else 0) = some (.str k2) := by
      by_cases hku : k = "uniform"
      · subst hku
        exact ⟨"weighted", by decide +kernel, by decide +kernel, rfl⟩
      · refine ⟨"uniform", by decide +kernel, hku, ?_⟩
        rw [decide_eq_false (fun z => hku (V.str.inj z))]
        rfl
    have okk2 : okS k2 := by
      have : ∀ z ∈ KINDS3, z.length ≤ 1000 ∧ PyData.strOk z = true := by decide +kernel
      exact this k2 hk2
    refine ⟨_, rfl, by show 2 ≤ sizeLine; decide, fun m hm => ?_⟩
    have e5 := same_upd (o := .lst [.str "uniform", .str "weighted"]) hm
    have hm5 : upd H4 m (.lst [.str "uniform", .str "weighted"]) m = some (.lst [.str "uniform", .str "weighted"]) := upd_same
    generalize upd H4 m (.lst [.str "uniform", .str "weighted"]) = H5 at e5 hm5 ⊢
    have e05 := e04.trans e5
    refine ⟨_, rfl, a, _, 0, _, rfl, rfl, e05.tupq aT, rfl, rfl, .inr ⟨_, rfl, m, _, _, _, rfl, rfl, SqL.of hm5, hat, ?_⟩⟩
    refine ⟨_, rfl, a, _, 1, _, rfl, rfl, e05.tupq aT, rfl, by show 2 ≤ sizeLine; decide, fun t ht => ?_⟩
    have e6 := same_upd (o := .tup [.str k2, .int n]) ht
    have ht6 : upd H5 t (.tup [.str k2, .int n]) t = some (.tup [.str k2, .int n]) := upd_same
    generalize upd H5 t (.tup [.str k2, .int n]) = H6 at e6 ht6 ⊢
    have e06 := e05.trans e6
    have hg6 : H6 g = some (.dK kvs) := (((e12.trans e3).trans e34).trans (e5.trans e6)) _ _ hg1
    intro x3 dx3 hxn3 hdx3 hne3
    have nx3p : x3 ≠ p := (ne_of_none (e06 _ _ hp) hxn3).symm
    have em3 := mk_same (C := T.a_Plan) hxn3 hdx3
    have e0n := e06.trans em3
    have hO3 : Pr K (upd (upd H6 dx3 (.own x3)) x3 (.ins T.a_Plan dx3 [])) (.ref t) k2 n := ⟨okk2, t, rfl, em3.tupq (SqT.of ht6)⟩
    refine ⟨x3, dx3, g, kvs, rs, .ref t, k2, n, ⟨rfl, upd_same, em3 _ _ hg6, rusOn (Tups.of e0n) hR, hO3, hlen⟩, reason_kind hN hk2, fun d3 H7 hdn3 e7 hx7 hd7 => ⟨rfl, ?_⟩⟩
    have nd3p : d3 ≠ p := (ne_of_none (e0n _ _ hp) hdn3).symm
    have e67 : Same H6 H7 := ex_same hxn3 em3 e7
    have e07 := e06.trans e67
    -- late
    refine ⟨by show 2 ≤ sizeLine; decide, fun t2 ht2 => ?_⟩
    have e8 := same_upd (o := .tup [.str "uniform", .int 1]) ht2
    have ht8 : upd H7 t2 (.tup [.str "uniform", .int 1]) t2 = some (.tup [.str "uniform", .int 1]) := upd_same
    generalize upd H7 t2 (.tup [.str "uniform", .int 1]) = H8 at e8 ht8 ⊢
    have e08 := e07.trans e8
    refine ⟨_, rfl, p, _, rfl, DPut.k (k := .inr "late") (e08 _ _ hp) (small1000 (by omega)), ?_⟩
    have e9 : Ex [p] H8 (upd H8 p (.dK (putK kvs (.inr "late") (.ref t2)))) := ex_put
    have T9 : Tups K H8 (upd H8 p (.dK (putK kvs (.inr "late") (.ref t2)))) := Tups.ex (e08 _ _ hp) (fun _ z => nomatch z) (fun _ _ z => nomatch z) e9
    generalize upd H8 p (.dK (putK kvs (.inr "late") (.ref t2))) = H9 at e9 T9 ⊢
    have T09 : Tups K H H9 := (Tups.of e08).trans T9
    have at9 : ∀ {y : Addr} {u : HO}, y ≠ p → H7 y = some u → H9 y = some u := fun hy h => e9 _ _ (nin hy) (e8 _ _ h)
    have e27 : Same H2 H7 := (e3.trans e34).trans ((e5.trans e6).trans e67)
    have e47 : Same H4 H7 := (e5.trans e6).trans e67
    have P1 : PlanAt H9 T.a_Plan x d (.ref a) kvs := ⟨⟨dx, at9 nxp (e27 _ _ hx2)⟩, at9 ndp (e27 _ _ hd2)⟩
    have P2 : PlanAt H9 T.a_Plan x2 d2 (.ref a) kvs := ⟨⟨dx2, at9 nx2p (e47 _ _ hx4)⟩, at9 nd2p (e47 _ _ hd4)⟩
    have P3 : PlanAt H9 T.a_Plan x3 d3 (.ref t) kvs := ⟨⟨dx3, at9 nx3p hx7⟩, at9 nd3p hd7⟩
    have hg9 : H9 g = some (.dK kvs) := at9 ngp (e67 _ _ hg6)
    have R9 : Rus K H9 kvs rs := rusOn T09 hR
    have O9 : Pr K H9 (.ref a) k n := ⟨okk, a, rfl, T09 _ _ aT⟩
    have O9b : Pr K H9 (.ref t) k2 n := ⟨okk2, t, rfl, T9 _ _ (e8.tupq (e67.tupq (SqT.of ht6)))⟩
    have E09 : Ex [p] H H9 := (Ex.of e08).trans e9
    -- places
    refine ⟨_, rfl, g, kvs, rfl, .inl hg9, fun l hl9 => ?_⟩
    rw [ek]
    have e10 := same_upd (o := .lst ((keysS rs).map V.str)) hl9
    have hl10 : upd H9 l (.lst ((keysS rs).map V.str)) l = some (.lst ((keysS rs).map V.str)) := upd_same
    generalize upd H9 l (.lst ((keysS rs).map V.str)) = H10 at e10 hl10 ⊢
    refine ⟨l, keysS rs, rfl, SqL.of hl10, by omega, fun ys y1 hperm hsort hy1 => ?_⟩
    have e11 := same_upd (o := .lst (ys.map V.str)) hy1
    have hy11 : upd H10 y1 (.lst (ys.map V.str)) y1 = some (.lst (ys.map V.str)) := upd_same
    generalize upd H10 y1 (.lst (ys.map V.str)) = H11 at e11 hy11 ⊢
    refine ⟨by show 1 ≤ sizeLine; decide, fun y2 hy2 => ?_⟩
    have e12' := same_upd (o := .lst [.non]) hy2
    have hy12 : upd H11 y2 (.lst [.non]) y2 = some (.lst [.non]) := upd_same
    generalize upd H11 y2 (.lst [.non]) = H12 at e12' hy12 ⊢
    have hyl : ys.length = rs.length := hperm.length_eq.trans hkl
    refine ⟨y1, y2, _, _, rfl, rfl, e12' _ _ hy11, hy12, ?_, fun pl hpl => ?_⟩
    · rw [List.length_map, List.length_singleton]
      exact small1000 (by omega)
    have e13 := same_upd (o := .lst (ys.map V.str ++ [.non])) hpl
    have hpl13 : upd H12 pl (.lst (ys.map V.str ++ [.non])) pl = some (.lst (ys.map V.str ++ [.non])) := upd_same
    generalize upd H12 pl (.lst (ys.map V.str ++ [.non])) = H13 at e13 hpl13 ⊢
    have e913 := ((e10.trans e11).trans e12').trans e13
    have ysok : ∀ z ∈ ys, PyData.strOk z = true := fun z hz => (kAt z (hperm.subset hz)).1.2
    have hx13 : H13 x = some (.ins T.a_Plan dx (planF d (.ref a))) := e913 _ _ (at9 nxp (e27 _ _ hx2))
    have layP : (PyData.list (strsD ys ++ [.none])).canLay0 = true := layAll_app (lay_strs ys ysok) rfl
    have depP : (PyData.list (strsD ys ++ [.none])).depth < 4 := by
      show PyData.depthAll (strsD ys ++ [.none]) + 1 < 4
      rw [depthAll_app, depth_strs]
      decide
    have smP : smallD (.list (strsD ys ++ [.none])) = true := by
      show (decide ((strsD ys ++ [PyData.none]).length ≤ 1000) && smallAllD (strsD ys ++ [.none])) = true
      rw [smallAll_app (small_strs ys) rfl, Bool.and_true]
      refine decide_eq_true ?_
      unfold strsD
      rw [List.length_append, List.length_map, List.length_singleton]
      omega
    have dpP : ∀ {H' : Hp}, DpAll K H' (ys.map V.str ++ [.non]) (strsD ys ++ [.none]) := dpAll_app (.cons .non .nil) (dp_strs ys)
    refine ⟨_, rfl, x, dx, _, rfl, hx13, planF_no _ _ (by decide +kernel) (by decide +kernel), x, d, _, kvs, rs, rfl, P1.same e913, rusOn (Tups.of e913) R9, h20, fun ys2 r1 H14 hperm2 hsort2 e14 hr1 => ?_⟩
    have := sortedS_uniq hsort2 hsort (hperm2.trans hperm.symm)
    subst this
    refine ⟨_, rfl, _, _, .list (strsD ys2 ++ [.none]), rfl, .lst (SqL.of hr1) dpP, .lst (SqL.of (e14 _ _ hpl13)) dpP, layP, depP, by decide, smP, _, rfl, iteF ?_⟩
    have e914 := e913.trans e14
    have O14 : Pr K H14 (.ref a) k n := O9.on (Tups.of e914)
    have O14b : Pr K H14 (.ref t) k2 n := O9b.on (Tups.of e914)
    have R14 := rusOn (Tups.of e914) R9
    refine ⟨_, rfl, _, rfl, x, d, x2, d2, _, _, kvs, rs, k, k, n, n, rfl, P1.same e914, P2.same e914, R14, hnd, O14, O14, ?_⟩
    refine ⟨_, rfl, _, rfl, x, d, x3, d3, _, _, kvs, rs, k, k2, n, n, rfl, P1.same e914, P3.same e914, R14, hnd, O14, O14b, ?_⟩
    rw [decide_eq_true (p := k = k) rfl, decide_eq_true (p := n = n) rfl, decide_eq_false hkne, Bool.true_and, Bool.false_and]
    refine ⟨by show 2 ≤ sizeLine; decide, fun m1 hm1 => ?_⟩
    have e15 := same_upd (o := .lst [.bl true, .bl false]) hm1
    have hm15 : upd H14 m1 (.lst [.bl true, .bl false]) m1 = some (.lst [.bl true, .bl false]) := upd_same
    generalize upd H14 m1 (.lst [.bl true, .bl false]) = H15 at e15 hm15 ⊢
    refine ⟨by show 2 ≤ sizeLine; decide, fun m2 hm2 => ?_⟩
    have e16 := same_upd (o := .lst [.bl true, .bl false]) hm2
    have hm16 : upd H15 m2 (.lst [.bl true, .bl false]) m2 = some (.lst [.bl true, .bl false]) := upd_same
    generalize upd H15 m2 (.lst [.bl true, .bl false]) = H16 at e16 hm16 ⊢
    refine ⟨_, _, .list [.bool true, .bool false], rfl, .lst (SqL.of (e16 _ _ hm15)) (.cons (.bl _) (.cons (.bl _) .nil)), .lst (SqL.of hm16) (.cons (.bl _) (.cons (.bl _) .nil)), rfl, by show 1 < 4; decide, by decide, rfl, _, rfl, iteF ?_⟩
    have e916 := (e914.trans e15).trans e16
    -- groups
    refine ⟨by show 5 ≤ sizeLine; decide, fun m3 hm3 => ?_⟩
    have e17 := same_upd (o := .lst [.str "red", .str "blue", .str "gold", .str "k", .str "late"]) hm3
    have hm17 : upd H16 m3 (.lst [.str "red", .str "blue", .str "gold", .str "k", .str "late"]) m3 = some (.lst [.str "red", .str "blue", .str "gold", .str "k", .str "late"]) := upd_same
    generalize upd H16 m3 (.lst [.str "red", .str "blue", .str "gold", .str "k", .str "late"]) = H17 at e17 hm17 ⊢
    have e917 := e916.trans e17
    have hg17 := e917 _ _ hg9
    have P17 := P1.same e917
    have hx17 : H17 x = some (.ins T.a_Plan dx (planF d (.ref a))) := e917 _ _ (at9 nxp (e27 _ _ hx2))
    have hpl17 : H17 pl = some (.lst (ys2.map V.str ++ [.non])) := e17 _ _ (e16 _ _ (e15 _ _ (e14 _ _ hpl13)))
    refine ⟨m3, rfl, ⟨_, SqL.of hm17⟩, for_it walk_list (fun i σ H' => ∃ (x7 x8 : Option V), σ = [some (.ref p), some (.ref a), some (.ref g), some (.ref x), some (.ref x2), some (.ref x3), some (.ref pl), x7, x8] ∧ H' = H17) ⟨_, _, rfl, rfl⟩ (fun _ _ _ _ ⟨_, _, _, e⟩ => by rw [e]; exact SqL.of hm17) ?_ ?_⟩
    · rintro i v σ Ha Hb hi ⟨x7, x8, rfl, rfl⟩ ⟨rfl, hx⟩
      obtain ⟨z, hz, rfl⟩ : ∃ z : Str, PyData.strOk z = true ∧ v = .str z := by
        have hx' : (([("red" : Str), "blue", "gold", "k", "late"]).map V.str)[i]? = some v := hx
        rw [List.getElem?_map] at hx'
        cases hzz : ([("red" : Str), "blue", "gold", "k", "late"])[i]? with
        | none => rw [hzz] at hx'; cases hx'
        | some z =>
          rw [hzz] at hx'
          have hall : ∀ z ∈ ([("red" : Str), "blue", "gold", "k", "late"]), PyData.strOk z = true := by decide +kernel
          exact ⟨z, hall z (List.mem_of_getElem? hzz), (Option.some.inj hx').symm⟩
      refine ⟨fun σ' H' => H' = Hb ∧ σ' = [some (.ref p), some (.ref a), some (.ref g), some (.ref x), some (.ref x2), some (.ref x3), some (.ref pl), some (.str z), some (vO (placeV kvs z))], ?_, ?_⟩
      · refine ⟨_, rfl, _, rfl, g, _, rfl, DGet.k (k := .inr z) hg17, _, rfl, ?_⟩
        unfold placeV
        cases hs : (valV kvs (.inr z)).isSome with
        | true => exact iteT ⟨_, rfl, rfl, rfl⟩
        | false => exact iteF ⟨rfl, rfl⟩
      · rintro σ' H' ⟨rfl, rfl⟩
        refine ⟨_, rfl, x, dx, _, rfl, hx17, planF_no _ _ (by decide +kernel) (by decide +kernel), _, rfl, x, d, _, kvs, z, rfl, P17, ?_⟩
        refine ⟨_, rfl, _, _, dO (placeV kvs z), rfl, dpO _, dpO _, ?_, ?_, by decide, ?_, _, rfl, iteF ⟨_, _, rfl, rfl⟩⟩
        · unfold placeV
          cases (valV kvs (.inr z)).isSome with
          | true => exact hz
          | false => rfl
        · unfold placeV
          cases (valV kvs (.inr z)).isSome with
          | true => show 0 < 4; decide
          | false => show 0 < 4; decide
        · unfold placeV
          cases (valV kvs (.inr z)).isSome with
          | true => rfl
          | false => rfl
    · rintro σ Ha ⟨x7, x8, rfl, rfl⟩
      have epl : ys2.map V.str ++ [.non] = (ys2.map some ++ [none]).map vO := by
        rw [List.map_append, List.map_map]
        rfl
      rw [epl] at hpl17
      have zlen : (ys2.map some ++ [none] : List (Option Str)).length ≤ 21 := by
        rw [List.length_append, List.length_map, List.length_singleton]
        omega
      have zat : ∀ z ∈ (ys2.map some ++ [none] : List (Option Str)), (match z with | none => valP kvs (.ref a) z = .ref a | some y => valV kvs (.inr y) = some (valP kvs (.ref a) z)) ∧ ∃ k n, Pr K H (valP kvs (.ref a) z) k n := fun z hz => by
        rcases List.mem_append.mp hz with hz | hz
        · obtain ⟨y, hy, rfl⟩ := List.mem_map.mp hz
          obtain ⟨_, v, hv, hPv⟩ := kAt y (hperm.subset hy)
          have e : valP kvs (.ref a) (some y) = v := by
            show (valV kvs (.inr y)).getD (.ref a) = v
            rw [hv]
            rfl
          rw [e]
          exact ⟨hv, hPv⟩
        · rw [List.mem_singleton] at hz
          subst hz
          exact ⟨rfl, k, n, okk, a, rfl, aT⟩
      generalize ys2.map some ++ [none] = zs at hpl17 zlen zat
      refine ⟨_, rfl, pl, rfl, ⟨_, SqL.of hpl17⟩, fun D hD => ?_⟩
      refine lc_it walk_list (fun i H' => Same Ha H' ∧ H' D = some (.lst ((zs.take i).map (valP kvs (.ref a))))) ⟨same_upd hD, upd_same⟩ (fun _ _ _ ⟨e, _⟩ => e.seq (SqL.of hpl17)) ?_ ?_
      · rintro i v Hc Hb hi ⟨e, hd⟩ ⟨rfl, hx⟩
        rw [List.length_map] at hi
        have hg : zs[i]? = some zs[i] := List.getElem?_eq_getElem hi
        rw [List.getElem?_map, hg] at hx
        obtain rfl := (Option.some.inj hx).symm
        refine ⟨rfl, w_yes ⟨_, rfl, x, dx, _, rfl, e _ _ hx17, planF_no _ _ (by decide +kernel) (by decide +kernel), _, rfl, x, d, _, kvs, zs[i], valP kvs (.ref a) zs[i], rfl, P17.same e, (zat _ (List.getElem_mem hi)).1, _, hd, ?_, e.mut hD, ?_⟩⟩
        · rw [List.length_map, List.length_take]
          exact small1000 (by omega)
        · rw [upd_same, take_snoc hg, List.map_append]
          rfl
      · rintro Hc ⟨e, hd⟩
        rw [List.length_map, List.take_length] at hd
        have hplc := e _ _ hpl17
        refine ⟨_, rfl, pl, rfl, ⟨_, SqL.of hplc⟩, fun D2 hD2 => ?_⟩
        refine lc_it walk_list (fun i H' => Same Hc H' ∧ H' D2 = some (.lst ((zs.take i).map (valP kvs (.ref a))))) ⟨same_upd hD2, upd_same⟩ (fun _ _ _ ⟨e, _⟩ => e.seq (SqL.of hplc)) ?_ ?_
        · rintro i v He Hb hi ⟨e2, hd2⟩ ⟨rfl, hx⟩
          rw [List.length_map] at hi
          have hg' : zs[i]? = some zs[i] := List.getElem?_eq_getElem hi
          rw [List.getElem?_map, hg'] at hx
          obtain rfl := (Option.some.inj hx).symm
          have hgc := e2 _ _ (e _ _ hg17)
          have fin : ∃ acc, Hb D2 = some (.lst acc) ∧ acc.length < sizeLine ∧ Same Hc (upd Hb D2 (.lst (acc ++ [valP kvs (.ref a) zs[i]]))) ∧ upd Hb D2 (.lst (acc ++ [valP kvs (.ref a) zs[i]])) D2 = some (.lst ((zs.take (i + 1)).map (valP kvs (.ref a)))) := by
            refine ⟨_, hd2, ?_, e2.mut hD2, ?_⟩
            · rw [List.length_map, List.length_take]
              exact small1000 (by omega)
            · rw [upd_same, take_snoc hg', List.map_append]
              rfl
          refine ⟨rfl, w_yes ⟨_, rfl, g, rfl, .inl ⟨kvs, .inl hgc⟩, _, rfl, _, rfl, ?_⟩⟩
          cases hzi : zs[i] with
          | none =>
            rw [hzi] at fin
            exact .inr ⟨kvs, rfl, .inl hgc, fin⟩
          | some y =>
            rw [hzi] at fin
            exact .inl ⟨_, DGet.k (k := .inr y) hgc, fin⟩
        · rintro He ⟨e2, hd2⟩
          rw [List.length_map, List.take_length] at hd2
          obtain ⟨ps, hps⟩ := prsOf (f := valP kvs (.ref a)) fun z hz => (zat z hz).2
          have Tf : Tups K H He := ((T09.trans (Tups.of e917)).trans (Tups.of e)).trans (Tups.of e2)
          have hpsf := prsOn Tf hps
          have hpl : ps.length ≤ 21 := by
            have := Paired.length hps
            rw [List.length_map] at this
            omega
          refine ⟨_, _, .list (prsD ps), rfl, .lst (SqL.of (e2 _ _ hd)) (dp_prs hpsf), .lst (SqL.of hd2) (dp_prs hpsf), lay_prs _ (prs_ok hps), ?_, by decide, ?_, q He ?_⟩
          · show PyData.depthAll (prsD ps) + 1 < 4
            have := depth_prs ps
            omega
          · show (decide ((prsD ps).length ≤ 1000) && smallAllD (prsD ps)) = true
            rw [small_prs, Bool.and_true]
            refine decide_eq_true ?_
            unfold prsD
            rw [List.length_map]
            omega
          · exact ((E09.trans (Ex.of e917)).trans (Ex.of e)).trans (Ex.of e2)

def sp_law (K : PySem.W.Frag) : Sp := fun vs H Q _ => ∃ (a : Addr) (ns : List Int), vs = [.ref a] ∧ SqL K H a (ns.map V.int) ∧ ns.length ≤ 63 ∧ ∀ H', Q (.bl true) H'
theorem ok_law (T : Txt K mg) : FnOk P w K mg base CX0 7 T.f_law T.fd_law ["_law_script"] (sp_law K) := by
  have ok__law_same : ∀ T : Txt K mg, FnOk P w K mg base CX0 5 T.f__law_same T.fd__law_same ["_law_actual", "_law_due"] (sp__law_same K 4) := fun T => okR__law_same T 4 (by decide)
  refine T.F_law.ok sc_law (fun vs H Q E h => ?_) (fun cdv A outer s H vs Q E hr h => ?_)
  · obtain ⟨a, ns, rfl, _⟩ := h
    rfl
  · obtain ⟨a, ns, rfl, hS, hlen, q⟩ := h
    refine ⟨_, (pss_cons (ps_set (i := 1) sc_law.nd rfl (Or.inl rfl) (pe_call (ok__law_draws T) (hr.mono (by decide)) (by rfl) T.g__law_draws T.F__law_draws.kp T.b__law_draws .nil pass0 (pa_cons (pv 0) pa_nil)))
      (pss_cons (ps_set (i := 2) sc_law.nd rfl (Or.inl rfl) pe_dnewK)
      (pss_cons (ps_for PassesOwn.never rfl (pi_list (pe_lst (pa_cons pe_str (pa_cons pe_str (pa_cons pe_str pa_nil))))) (pg_name (i := 3) sc_law.nd rfl (Or.inl rfl))
        (pss_one (ps_if (pt_cmpR op_gt (pe_call (ok__law_take T) (hr.mono (by decide)) (by rfl) T.g__law_take T.F__law_take.kp T.b__law_take .nil pass0 (pa_cons (pv 1) (pa_cons pe_int pa_nil))) pe_int (nomark _))
          (pss_one (ps_dput (hu_of hr) (pv 2) (pv 3) (pe_tup (pa_cons (pe_ix ix_list (pe_lst (pa_cons pe_str (pa_cons pe_str (pa_cons pe_str pa_nil)))) (pe_call (ok__law_take T) (hr.mono (by decide)) (by rfl) T.g__law_take T.F__law_take.kp T.b__law_take .nil pass0 (pa_cons (pv 1) (pa_cons pe_int pa_nil))) (fun _ _ => rfl)) (pa_cons (pe_op op_add pe_int (pe_call (ok__law_take T) (hr.mono (by decide)) (by rfl) T.g__law_take T.F__law_take.kp T.b__law_take .nil pass0 (pa_cons (pv 1) (pa_cons pe_int pa_nil)))) pa_nil))) rfl))
          pss_nil)))
      (pss_cons (ps_set (i := 4) sc_law.nd rfl (Or.inl rfl) (pe_tup (pa_cons (pe_ix ix_list (pe_lst (pa_cons pe_str (pa_cons pe_str (pa_cons pe_str pa_nil)))) (pe_call (ok__law_take T) (hr.mono (by decide)) (by rfl) T.g__law_take T.F__law_take.kp T.b__law_take .nil pass0 (pa_cons (pv 1) (pa_cons pe_int pa_nil))) (fun _ _ => rfl)) (pa_cons (pe_op op_add pe_int (pe_call (ok__law_take T) (hr.mono (by decide)) (by rfl) T.g__law_take T.F__law_take.kp T.b__law_take .nil pass0 (pa_cons (pv 1) (pa_cons pe_int pa_nil)))) pa_nil))))
      (pss_cons (ps_for PassesOwn.never rfl (pi_range1 (by rfl) T.z_range (pa_cons pe_int pa_nil)) (pg_name (i := 5) sc_law.nd rfl (Or.inl rfl))
        (pss_cons (ps_set (i := 6) sc_law.nd rfl (Or.inl rfl) (pe_call (ok__law_reason T) (hr.mono (by decide)) (by rfl) T.g__law_reason T.F__law_reason.kp T.b__law_reason .nil pass0 (pa_cons (pv 2) (pa_cons (pv 4) pa_nil))))
        (pss_cons (ps_if (pt_not (pt_val (pe_call (ok__law_same T) (hr.mono (by decide)) (by rfl) T.g__law_same T.F__law_same.kp T.b__law_same .nil pass0 (pa_cons (pe_call (ok_check_plan T) (hr.mono (by decide)) (by rfl) T.g_check_plan T.F_check_plan.kp T.b_check_plan .nil pass0 (pa_cons (pe_callTy (T := "dict") call_dictD (by rfl) T.z_dict (by decide +kernel) (pa_cons (pv 2) pa_nil)) (pa_cons (pv 4) pa_nil))) (pa_cons (pv 6) pa_nil)))))
          (pss_one (ps_ret pe_bl))
          pss_nil)
        (pss_cons (ps_set (i := 7) sc_law.nd rfl (Or.inl rfl) (pe_call (ok__law_made T) (hr.mono (by decide)) (by rfl) T.g__law_made T.F__law_made.kp T.b__law_made .nil pass0 (pa_cons (pe_callTy (T := "dict") call_dictD (by rfl) T.z_dict (by decide +kernel) (pa_cons (pv 2) pa_nil)) (pa_cons (pv 4) pa_nil))))
        (pss_cons (ps_if (PW.pt (pw_and (pt_cmpR op_isN (pv 6) pe_non (nomark _)) (pw_and1 (PW.pt (pw_or (pt_cmpR (op_neD hr.units) (pe_ix ix_list (pv 7) pe_int (fun _ _ => rfl)) pe_str (nomark _)) (pw_or1 (pt_not (pt_val (pe_call (ok__law_stands T) (hr.mono (by decide)) (by rfl) T.g__law_stands T.F__law_stands.kp T.b__law_stands .nil pass0 (pa_cons (pe_callTy (T := "dict") call_dictD (by rfl) T.z_dict (by decide +kernel) (pa_cons (pv 2) pa_nil)) (pa_cons (pv 4) pa_nil)))))))))))
          (pss_one (ps_ret pe_bl))
          pss_nil)
        (pss_cons (ps_if (PW.pt (pw_and (pt_cmpR op_notN (pv 6) pe_non (nomark _)) (pw_and1 (pt_not (pt_val (pe_call (ok__law_same T) (hr.mono (by decide)) (by rfl) T.g__law_same T.F__law_same.kp T.b__law_same .nil pass0 (pa_cons (pv 7) (pa_cons (pe_lst (pa_cons pe_str (pa_cons (pv 6) pa_nil))) pa_nil))))))))
          (pss_one (ps_ret pe_bl))
          pss_nil)
        (pss_one (ps_asg (pe_call (ok__law_spoilt T) (hr.mono (by decide)) (by rfl) T.g__law_spoilt T.F__law_spoilt.kp T.b__law_spoilt .nil pass0 (pa_cons (pv 1) (pa_cons (pv 2) (pa_cons (pv 4) pa_nil)))) (pg_unl rfl (pgs_cons (pg_name (i := 2) sc_law.nd rfl (Or.inl rfl)) (pgs_cons (pg_name (i := 4) sc_law.nd rfl (Or.inl rfl)) pgs_nil)))))))))))
      (pss_one (ps_ret pe_bl))))))), ?_⟩
    refine ⟨_, rfl, a, ns, rfl, hS, hlen, fun L H1 hL e1 D1 => ?_⟩
    have mKind : ∀ j : Int, 0 ≤ j → j < 3 → ∃ z, okS z ∧ atI [V.str "uniform", V.str "weighted", V.str "optimal"] j = some (.str z) := fun j j0 j1 => by
      obtain ⟨z, hz, ha⟩ := menu V.str KINDS3 (j := j) j0 j1
      have : ∀ z ∈ KINDS3, z.length ≤ 1000 ∧ PyData.strOk z = true := by decide +kernel
      exact ⟨z, this z hz, ha⟩
    intro d hd
    have e2 := same_upd (o := .dK []) hd
    have hd2 : upd H1 d (.dK []) d = some (.dK []) := upd_same
    generalize upd H1 d (.dK []) = H2 at e2 hd2 ⊢
    have ndL : d ≠ L := D1.ne hd
    refine ⟨by show 3 ≤ sizeLine; decide, fun m hm => ?_⟩
    have D2 := D1.same e2
    have nmL : m ≠ L := D2.ne hm
    have nmd : m ≠ d := (ne_of_none hd2 hm).symm
    have e3 := same_upd (o := .lst [.str "red", .str "blue", .str "gold"]) hm
    have hm3 : upd H2 m (.lst [.str "red", .str "blue", .str "gold"]) m = some (.lst [.str "red", .str "blue", .str "gold"]) := upd_same
    generalize upd H2 m (.lst [.str "red", .str "blue", .str "gold"]) = H3 at e3 hm3 ⊢
    -- a pair is drawn
    refine ⟨m, rfl, ⟨_, SqL.of hm3⟩, for_it walk_list (fun i σ H' => ∃ (x3 x4 x5 x6 x7 : Option V), σ = [some (.ref a), some (.ref L), some (.ref d), x3, x4, x5, x6, x7] ∧ Dr H' L ∧ RulesAt K H' d i ∧ H' m = some (.lst [.str "red", .str "blue", .str "gold"]))
      ⟨_, _, _, _, _, rfl, D2.same e3, ⟨[], [], e3 _ _ hd2, .nil, .nil, Nat.le_refl _⟩, hm3⟩ (fun _ _ _ _ ⟨_, _, _, _, _, _, _, _, h⟩ => SqL.of h) ?_ ?_⟩
    · rintro i v σ Ha Hb hi ⟨x3, x4, x5, x6, x7, rfl, D, R, hmb⟩ ⟨rfl, hx⟩
      obtain ⟨z, hz, rfl⟩ : ∃ z : Str, okS z ∧ v = .str z := by
        have hx' : (([("red" : Str), "blue", "gold"]).map V.str)[i]? = some v := hx
        rw [List.getElem?_map] at hx'
        cases hzz : ([("red" : Str), "blue", "gold"])[i]? with
        | none => rw [hzz] at hx'; cases hx'
        | some z =>
          rw [hzz] at hx'
          have hall : ∀ z ∈ ([("red" : Str), "blue", "gold"]), z.length ≤ 1000 ∧ PyData.strOk z = true := by decide +kernel
          exact ⟨z, hall z (List.mem_of_getElem? hzz), (Option.some.inj hx').symm⟩
      have hi3 : i < 3 := hi
      refine ⟨_, rfl, L, 3, rfl, by decide, D, fun v H4 _ _ e4 D4 => ?_⟩
      have R4 := R.dr D e4 ndL
      have hm4 := e4.at (nin nmL) hmb
      refine ⟨_, _, rfl, rfl, _, rfl, ite_dec (fun _ => ?_) (fun _ => ?_)⟩
      · refine ⟨by show 3 ≤ sizeLine; decide, fun m2 hm2 => ?_⟩
        have nm2 := D4.ne hm2
        have e5 := same_upd (o := .lst [.str "uniform", .str "weighted", .str "optimal"]) hm2
        have hm5 : upd H4 m2 (.lst [.str "uniform", .str "weighted", .str "optimal"]) m2 = some (.lst [.str "uniform", .str "weighted", .str "optimal"]) := upd_same
        generalize upd H4 m2 (.lst [.str "uniform", .str "weighted", .str "optimal"]) = H5 at e5 hm5 ⊢
        have D5 := D4.same e5
        refine ⟨_, rfl, L, 3, rfl, by decide, D5, fun j H6 j0 j1 e6 D6 => ?_⟩
        obtain ⟨kk, okk, hk⟩ := mKind j j0 j1
        refine ⟨m2, _, j, _, rfl, rfl, SqL.of (e6.at (nin nm2) hm5), hk, _, rfl, L, 20, rfl, by decide, D6, fun w H7 w0 w1 e7 D7 => ?_⟩
        refine ⟨_, _, rfl, rfl, by show 2 ≤ sizeLine; decide, fun t ht => ?_⟩
        have R7 := ((R4.same e5).dr D5 e6 ndL).dr D6 e7 ndL
        have hm7 := e7.at (nin nmL) (e6.at (nin nmL) (e5 _ _ hm4))
        have e8 := same_upd (o := .tup [.str kk, .int (1 + w)]) ht
        have ht8 : upd H7 t (.tup [.str kk, .int (1 + w)]) t = some (.tup [.str kk, .int (1 + w)]) := upd_same
        generalize upd H7 t (.tup [.str kk, .int (1 + w)]) = H8 at e8 ht8 ⊢
        obtain ⟨H9, hput, e9, R9⟩ := (R7.same e8).put (by omega) hz okk ht8
        exact ⟨_, rfl, _, rfl, d, H9, rfl, hput, _, _, _, _, _, rfl, (D7.same e8).at e9 ndL.symm, R9, e9 _ _ (nin nmd) (e8 _ _ hm7)⟩
      · exact ⟨_, _, _, _, _, rfl, D4, R4.mono (by omega), hm4⟩
    · rintro σ Ha ⟨x3, x4, x5, x6, x7, rfl, D, R, _⟩
      refine ⟨by show 3 ≤ sizeLine; decide, fun m2 hm2 => ?_⟩
      have nm2 := D.ne hm2
      have e5 := same_upd (o := .lst [.str "uniform", .str "weighted", .str "optimal"]) hm2
      have hm5 : upd Ha m2 (.lst [.str "uniform", .str "weighted", .str "optimal"]) m2 = some (.lst [.str "uniform", .str "weighted", .str "optimal"]) := upd_same
      generalize upd Ha m2 (.lst [.str "uniform", .str "weighted", .str "optimal"]) = H5 at e5 hm5 ⊢
      have D5 := D.same e5
      refine ⟨_, rfl, L, 3, rfl, by decide, D5, fun j H6 j0 j1 e6 D6 => ?_⟩
      obtain ⟨kk, okk, hk⟩ := mKind j j0 j1
      refine ⟨m2, _, j, _, rfl, rfl, SqL.of (e6.at (nin nm2) hm5), hk, _, rfl, L, 20, rfl, by decide, D6, fun w H7 w0 w1 e7 D7 => ?_⟩
      refine ⟨_, _, rfl, rfl, by show 2 ≤ sizeLine; decide, fun t ht => ?_⟩
      have R7 := ((R.same e5).dr D5 e6 ndL).dr D6 e7 ndL
      have e8 := same_upd (o := .tup [.str kk, .int (1 + w)]) ht
      have ht8 : upd H7 t (.tup [.str kk, .int (1 + w)]) t = some (.tup [.str kk, .int (1 + w)]) := upd_same
      generalize upd H7 t (.tup [.str kk, .int (1 + w)]) = H8 at e8 ht8 ⊢
      refine ⟨_, rfl, by decide, by decide, for_it walk_range (fun i σ H' => ∃ (d : Addr) (o : V) (k : Str) (n : Int) (x3 x5 x6 x7 : Option V), σ = [some (.ref a), some (.ref L), some (.ref d), x3, some o, x5, x6, x7] ∧ d ≠ L ∧ Dr H' L ∧ RulesAt K H' d (3 + 21 * i) ∧ Pr K H' o k n)
        ⟨d, _, kk, 1 + w, _, _, _, _, rfl, ndL, D7.same e8, R7.same e8, okk, t, rfl, SqT.of ht8⟩ (fun _ _ _ _ _ => trivial) ?_ ?_⟩
      · rintro i v σ Hx Hb hi ⟨d, o, k, n, x3, x5, x6, x7, rfl, ndL, D, ⟨kvs, rs, hd, hR, hnd, hlen⟩, hO⟩ ⟨rfl, rfl⟩
        refine ⟨_, rfl, _, rfl, d, kvs, rs, o, k, n, rfl, hd, hR, hnd, hO, by omega, fun H2 e2 => ?_⟩
        refine ⟨_, rfl, d, kvs, rfl, .inl (e2 _ _ hd), fun c hc => ?_⟩
        have e3 := same_upd (o := .dK kvs) hc
        have hc3 : upd H2 c (.dK kvs) c = some (.dK kvs) := upd_same
        generalize upd H2 c (.dK kvs) = H3 at e3 hc3 ⊢
        have e03 := e2.trans e3
        refine ⟨_, rfl, c, kvs, rs, o, k, n, rfl, hc3, rusOn (Tups.of e03) hR, hO.on (Tups.of e03), by omega, fun H4 e4 => ?_⟩
        have e04 := e03.trans e4
        have lay : (dO (reasonP rs k n)).canLay0 = true := by
          cases hr : reasonP rs k n with
          | none => rfl
          | some r => exact reasonP_ok hr
        have dep : (dO (reasonP rs k n)).depth < 4 := by
          cases reasonP rs k n with
          | none => show 0 < 4; decide
          | some r => show 0 < 4; decide
        have sm : smallD (dO (reasonP rs k n)) = true := by
          cases reasonP rs k n <;> rfl
        refine ⟨_, rfl, _, _, dO (reasonP rs k n), rfl, dpO _, dpO _, lay, dep, by decide, sm, _, rfl, iteF ?_⟩
        refine ⟨_, rfl, d, kvs, rfl, .inl (e04 _ _ hd), fun c2 hc2 => ?_⟩
        have e5 := same_upd (o := .dK kvs) hc2
        have hc5 : upd H4 c2 (.dK kvs) c2 = some (.dK kvs) := upd_same
        generalize upd H4 c2 (.dK kvs) = H5 at e5 hc5 ⊢
        have e05 := e04.trans e5
        refine ⟨_, rfl, c2, kvs, rs, o, k, n, rfl, hc5, rusOn (Tups.of e05) hR, hO.on (Tups.of e05), by omega, fun hN r x H6 e6 hr1 => ?_, fun z hz r H6 e6 hr1 => ?_⟩
        · rw [hN]
          have e06 := e05.trans e6
          refine ⟨_, rfl, rfl, _, rfl, iteT ⟨_, rfl, r, _, 0, _, rfl, rfl, SqL.of hr1, rfl, .str "plan", .str "plan", .str _, .str _, by decide +kernel, by decide +kernel, _, rfl, ?_⟩⟩
          refine iteF ⟨_, rfl, d, kvs, rfl, .inl (e06 _ _ hd), fun c3 hc3 => ?_⟩
          have nc3 : ∀ {y u}, Hb y = some u → y ≠ c3 := fun hy => ne_of_none (e06 _ _ hy) hc3
          have e7 := same_upd (o := .dK kvs) hc3
          have hc7 : upd H6 c3 (.dK kvs) c3 = some (.dK kvs) := upd_same
          generalize upd H6 c3 (.dK kvs) = H7 at e7 hc7 ⊢
          have e07 := e06.trans e7
          refine ⟨_, rfl, c3, kvs, rs, o, k, n, rfl, hc7, rusOn (Tups.of e07) hR, hnd, hO.on (Tups.of e07), by omega, hN, fun H8 e8 => ?_⟩
          have e08 : Same Hb H8 := fun y u hy => e8 _ _ (nin (nc3 hy)) (e07 _ _ hy)
          refine ⟨_, rfl, iteF ⟨_, rfl, rfl, _, rfl, iteF ?_⟩⟩
          refine ⟨_, rfl, _, rfl, _, rfl, L, d, o, k, n, 3 + 21 * i, rfl, D.same e08, ⟨kvs, rs, e08 _ _ hd, rusOn (Tups.of e08) hR, hnd, hlen⟩, by omega, hO.on (Tups.of e08), fun r d' o' k' n' H9 nd' e9 D9 hr9 R9 O9 => ?_⟩
          exact ⟨r, _, rfl, SqL.of hr9, rfl, _, _, rfl, _, _, rfl, rfl, d', o', k', n', _, _, _, _, rfl, nd', D9, R9.mono (by omega), O9⟩
        · rw [hz]
          have e06 := e05.trans e6
          refine ⟨_, rfl, rfl, _, rfl, iteF ⟨_, rfl, rfl, _, rfl, iteT ⟨_, rfl, _, rfl, by show 2 ≤ sizeLine; decide, fun m3 hm3 => ?_⟩⟩⟩
          have e7 := same_upd (o := .lst [.str "refused", vO (some z)]) hm3
          have hm7 : upd H6 m3 (.lst [.str "refused", vO (some z)]) m3 = some (.lst [.str "refused", vO (some z)]) := upd_same
          generalize upd H6 m3 (.lst [.str "refused", vO (some z)]) = H7 at e7 hm7 ⊢
          have e07 := e06.trans e7
          have hzok := reasonP_ok hz
          refine ⟨_, _, .list [.str "refused", .str z], rfl, .lst (SqL.of (e7 _ _ hr1)) (.cons (.str _) (.cons (.str _) .nil)), .lst (SqL.of hm7) (.cons (.str _) (.cons (.str _) .nil)), ?_, by show 1 < 4; decide, by decide, rfl, _, rfl, iteF ?_⟩
          · show (PyData.strOk "refused" && (PyData.strOk z && true)) = true
            rw [hzok]
            decide +kernel
          refine ⟨_, rfl, _, rfl, _, rfl, L, d, o, k, n, 3 + 21 * i, rfl, D.same e07, ⟨kvs, rs, e07 _ _ hd, rusOn (Tups.of e07) hR, hnd, hlen⟩, by omega, hO.on (Tups.of e07), fun r d' o' k' n' H9 nd' e9 D9 hr9 R9 O9 => ?_⟩
          exact ⟨r, _, rfl, SqL.of hr9, rfl, _, _, rfl, _, _, rfl, rfl, d', o', k', n', _, _, _, _, rfl, nd', D9, R9.mono (by omega), O9⟩
      · rintro σ Hx ⟨d, o, k, n, x3, x5, x6, x7, rfl, _⟩
        exact q _

end
theorem all_mk {l : PySem.W.OpenLaw} {w : World} {K : PySem.W.Frag} {h : Heap} {mg : Str → Option Value} {fa a_Plan a_SamphireError a_InvalidPlan f_InvalidPlan___init__ f_is_name f_check_plan f_Plan___init__ f_Plan_place_of f_Plan_places f_Plan_rule f_same_plan f__law_draws f__law_take f__law_same f__law_spoilt f__law_fine f__law_reason f__law_made f__law_stands f_law a_KINDS : Addr} (X : K.In h) (G : h.Ns mainGlobals mg) (hfa : mg "law" = some (.ref fa))
    {xnmInvalidPlan xqInvalidPlan : Str} {xNInvalidPlan : Addr} {xbsInvalidPlan : List Value} {xsnInvalidPlan : List Str} {xsubInvalidPlan : List Value} {xabInvalidPlan : Bool} {xcolInvalidPlan : Option Bool} {xddInvalidPlan : Option Addr} {xk0InvalidPlan xk1InvalidPlan xk2InvalidPlan xk3InvalidPlan xk5InvalidPlan : Option Value}
    {odInvalidPlan___init__ anInvalidPlan___init__ : Option Addr} {slInvalidPlan___init__ : Array (Option Value)} {ocInvalidPlan___init__ kVInvalidPlan___init__ dcInvalidPlan___init__ pmInvalidPlan___init__ cdInvalidPlan___init__ ctInvalidPlan___init__ : Value}
    {odis_name anis_name : Option Addr} {slis_name : Array (Option Value)} {ocis_name kVis_name dcis_name pmis_name cdis_name ctis_name : Value}
    {odcheck_plan ancheck_plan : Option Addr} {slcheck_plan : Array (Option Value)} {occheck_plan kVcheck_plan dccheck_plan pmcheck_plan cdcheck_plan ctcheck_plan : Value}
    {odPlan___init__ anPlan___init__ : Option Addr} {slPlan___init__ : Array (Option Value)} {ocPlan___init__ kVPlan___init__ dcPlan___init__ pmPlan___init__ cdPlan___init__ ctPlan___init__ : Value}
    {odPlan_place_of anPlan_place_of : Option Addr} {slPlan_place_of : Array (Option Value)} {ocPlan_place_of kVPlan_place_of dcPlan_place_of pmPlan_place_of cdPlan_place_of ctPlan_place_of : Value}
    {odPlan_places anPlan_places : Option Addr} {slPlan_places : Array (Option Value)} {ocPlan_places kVPlan_places dcPlan_places pmPlan_places cdPlan_places ctPlan_places : Value}
    {odPlan_rule anPlan_rule : Option Addr} {slPlan_rule : Array (Option Value)} {ocPlan_rule kVPlan_rule dcPlan_rule pmPlan_rule cdPlan_rule ctPlan_rule : Value}
    {odsame_plan ansame_plan : Option Addr} {slsame_plan : Array (Option Value)} {ocsame_plan kVsame_plan dcsame_plan pmsame_plan cdsame_plan ctsame_plan : Value}
    {od_law_draws an_law_draws : Option Addr} {sl_law_draws : Array (Option Value)} {oc_law_draws kV_law_draws dc_law_draws pm_law_draws cd_law_draws ct_law_draws : Value}
    {od_law_take an_law_take : Option Addr} {sl_law_take : Array (Option Value)} {oc_law_take kV_law_take dc_law_take pm_law_take cd_law_take ct_law_take : Value}
    {od_law_same an_law_same : Option Addr} {sl_law_same : Array (Option Value)} {oc_law_same kV_law_same dc_law_same pm_law_same cd_law_same ct_law_same : Value}
    {od_law_spoilt an_law_spoilt : Option Addr} {sl_law_spoilt : Array (Option Value)} {oc_law_spoilt kV_law_spoilt dc_law_spoilt pm_law_spoilt cd_law_spoilt ct_law_spoilt : Value}
    {od_law_fine an_law_fine : Option Addr} {sl_law_fine : Array (Option Value)} {oc_law_fine kV_law_fine dc_law_fine pm_law_fine cd_law_fine ct_law_fine : Value}
    {od_law_reason an_law_reason : Option Addr} {sl_law_reason : Array (Option Value)} {oc_law_reason kV_law_reason dc_law_reason pm_law_reason cd_law_reason ct_law_reason : Value}
    {od_law_made an_law_made : Option Addr} {sl_law_made : Array (Option Value)} {oc_law_made kV_law_made dc_law_made pm_law_made cd_law_made ct_law_made : Value}
    {od_law_stands an_law_stands : Option Addr} {sl_law_stands : Array (Option Value)} {oc_law_stands kV_law_stands dc_law_stands pm_law_stands cd_law_stands ct_law_stands : Value}
    {odlaw anlaw : Option Addr} {sllaw : Array (Option Value)} {oclaw kVlaw dclaw pmlaw cdlaw ctlaw : Value}
    {odKINDS : Option Addr} {slKINDS : Array (Option Value)} {nKINDS : Nat} {tKINDS0 tKINDS1 tKINDS2 : Tok}
    {t_MOST_GROUPS : Tok}
    {t_MOST_SIZE : Tok}
    {t_NAME_SIGNS : Tok}
    (hPlan : PySem.W.nsIn K mainGlobals "Plan" = some (some (.ref a_Plan)))
    (pgPlan : PySem.W.plainGet K a_Plan Str.empty = true)
    (hdPlan : PySem.W.hasDictIn K a_Plan = true)
    (poPlan : PySem.W.plainOver K a_Plan = true)
    (saPlan : PySem.W.findIn K (.ref a_Plan) "__setattr__" = some (some (.builtin "object.__setattr__")))
    (mkPlan : PySem.W.makesIn K a_Plan = true)
    (kcPlan : PySem.W.keepIn K (.ref a_Plan) = true)
    (nPlan_rules : PySem.W.findIn K (.ref a_Plan) "rules" = some none)
    (nPlan_others : PySem.W.findIn K (.ref a_Plan) "others" = some none)
    (hSamphireError : PySem.W.nsIn K mainGlobals "SamphireError" = some (some (.ref a_SamphireError)))
    (kpSamphireError : PySem.W.keepIn K (.ref a_SamphireError) = true)
    (sbSamphireError : PySem.W.subIn K (.ref a_SamphireError) (.type "BaseException") = some true)
    (tySamphireError : PySem.W.typeIn K (.ref a_SamphireError) = some (.type "type"))
    (hdSamphireError : PySem.W.hasDictIn K a_SamphireError = true)
    (suSamphireError : PySem.W.subIn K (.ref a_SamphireError) (.ref a_SamphireError) = some true)
    (hInvalidPlan : PySem.W.nsIn K mainGlobals "InvalidPlan" = some (some (.ref a_InvalidPlan)))
    (kpInvalidPlan : PySem.W.keepIn K (.ref a_InvalidPlan) = true)
    (sbInvalidPlan : PySem.W.subIn K (.ref a_InvalidPlan) (.type "BaseException") = some true)
    (tyInvalidPlan : PySem.W.typeIn K (.ref a_InvalidPlan) = some (.type "type"))
    (hdInvalidPlan : PySem.W.hasDictIn K a_InvalidPlan = true)
    (suInvalidPlan : PySem.W.subIn K (.ref a_InvalidPlan) (.ref a_InvalidPlan) = some true)
    (xLInvalidPlan : K.lookup a_InvalidPlan = some (excClassObj xnmInvalidPlan xqInvalidPlan a_InvalidPlan xNInvalidPlan xbsInvalidPlan [.ref a_SamphireError, .type "ValueError", .type "Exception", .type "BaseException", .type "object"] true xsnInvalidPlan xsubInvalidPlan xabInvalidPlan xcolInvalidPlan xddInvalidPlan xk0InvalidPlan xk1InvalidPlan xk2InvalidPlan xk3InvalidPlan xk5InvalidPlan "ValueError.__new__"))
    (xsInvalidPlan : PySem.W.findIn K (.ref a_InvalidPlan) "__setattr__" = some (some (.builtin "object.__setattr__")))
    (egInvalidPlan : PySem.W.findIn K (.ref a_InvalidPlan) "__getattribute__" = some (some (.builtin "BaseException.__getattribute__")))
    (ekInvalidPlan : PySem.W.findIn K (.ref a_InvalidPlan) "__getattr__" = some none)
    (noInvalidPlanreason : PySem.W.findIn K (.ref a_InvalidPlan) "reason" = some none)
    (aInvalidPlan___init__ : PySem.W.findIn K (.ref a_InvalidPlan) "__init__" = some (some (.ref f_InvalidPlan___init__)))
    (tcInvalidPlan : PySem.W.typeIn K (.ref f_InvalidPlan___init__) = some (.type "function"))
    (lInvalidPlan___init__ : K.lookup f_InvalidPlan___init__ = some ⟨ocInvalidPlan___init__, odInvalidPlan___init__, .func (PySem.W.fnOf "__init__" "InvalidPlan.__init__" (defArgs s_InvalidPlan___init__) (defBody s_InvalidPlan___init__) (defScope s_InvalidPlan___init__) .none kVInvalidPlan___init__ dcInvalidPlan___init__ pmInvalidPlan___init__ anInvalidPlan___init__ cdInvalidPlan___init__ ctInvalidPlan___init__), slInvalidPlan___init__⟩)
    (cInvalidPlan___init__ : PySem.W.codeIn K cdInvalidPlan___init__ "InvalidPlan.__init__" = true)
    (kInvalidPlan___init__ : PySem.W.keepIn K (.ref f_InvalidPlan___init__) = true)
    (ais_name : PySem.W.nsIn K mainGlobals "is_name" = some (some (.ref f_is_name)))
    (lis_name : K.lookup f_is_name = some ⟨ocis_name, odis_name, .func (PySem.W.fnOf "is_name" "is_name" (defArgs s_is_name) (defBody s_is_name) (defScope s_is_name) .none kVis_name dcis_name pmis_name anis_name cdis_name ctis_name), slis_name⟩)
    (cis_name : PySem.W.codeIn K cdis_name "is_name" = true)
    (kis_name : PySem.W.keepIn K (.ref f_is_name) = true)
    (acheck_plan : PySem.W.nsIn K mainGlobals "check_plan" = some (some (.ref f_check_plan)))
    (lcheck_plan : K.lookup f_check_plan = some ⟨occheck_plan, odcheck_plan, .func (PySem.W.fnOf "check_plan" "check_plan" (defArgs s_check_plan) (defBody s_check_plan) (defScope s_check_plan) .none kVcheck_plan dccheck_plan pmcheck_plan ancheck_plan cdcheck_plan ctcheck_plan), slcheck_plan⟩)
    (ccheck_plan : PySem.W.codeIn K cdcheck_plan "check_plan" = true)
    (kcheck_plan : PySem.W.keepIn K (.ref f_check_plan) = true)
    (aPlan___init__ : PySem.W.findIn K (.ref a_Plan) "__init__" = some (some (.ref f_Plan___init__)))
    (iPlan___init__ : PySem.W.isFn K (.ref f_Plan___init__) = true)
    (lPlan___init__ : K.lookup f_Plan___init__ = some ⟨ocPlan___init__, odPlan___init__, .func (PySem.W.fnOf "__init__" "Plan.__init__" (defArgs s_Plan___init__) (defBody s_Plan___init__) (defScope s_Plan___init__) .none kVPlan___init__ dcPlan___init__ pmPlan___init__ anPlan___init__ cdPlan___init__ ctPlan___init__), slPlan___init__⟩)
    (cPlan___init__ : PySem.W.codeIn K cdPlan___init__ "Plan.__init__" = true)
    (kPlan___init__ : PySem.W.keepIn K (.ref f_Plan___init__) = true)
    (aPlan_place_of : PySem.W.findIn K (.ref a_Plan) "place_of" = some (some (.ref f_Plan_place_of)))
    (iPlan_place_of : PySem.W.isFn K (.ref f_Plan_place_of) = true)
    (lPlan_place_of : K.lookup f_Plan_place_of = some ⟨ocPlan_place_of, odPlan_place_of, .func (PySem.W.fnOf "place_of" "Plan.place_of" (defArgs s_Plan_place_of) (defBody s_Plan_place_of) (defScope s_Plan_place_of) .none kVPlan_place_of dcPlan_place_of pmPlan_place_of anPlan_place_of cdPlan_place_of ctPlan_place_of), slPlan_place_of⟩)
    (cPlan_place_of : PySem.W.codeIn K cdPlan_place_of "Plan.place_of" = true)
    (kPlan_place_of : PySem.W.keepIn K (.ref f_Plan_place_of) = true)
    (aPlan_places : PySem.W.findIn K (.ref a_Plan) "places" = some (some (.ref f_Plan_places)))
    (iPlan_places : PySem.W.isFn K (.ref f_Plan_places) = true)
    (lPlan_places : K.lookup f_Plan_places = some ⟨ocPlan_places, odPlan_places, .func (PySem.W.fnOf "places" "Plan.places" (defArgs s_Plan_places) (defBody s_Plan_places) (defScope s_Plan_places) .none kVPlan_places dcPlan_places pmPlan_places anPlan_places cdPlan_places ctPlan_places), slPlan_places⟩)
    (cPlan_places : PySem.W.codeIn K cdPlan_places "Plan.places" = true)
    (kPlan_places : PySem.W.keepIn K (.ref f_Plan_places) = true)
    (aPlan_rule : PySem.W.findIn K (.ref a_Plan) "rule" = some (some (.ref f_Plan_rule)))
    (iPlan_rule : PySem.W.isFn K (.ref f_Plan_rule) = true)
    (lPlan_rule : K.lookup f_Plan_rule = some ⟨ocPlan_rule, odPlan_rule, .func (PySem.W.fnOf "rule" "Plan.rule" (defArgs s_Plan_rule) (defBody s_Plan_rule) (defScope s_Plan_rule) .none kVPlan_rule dcPlan_rule pmPlan_rule anPlan_rule cdPlan_rule ctPlan_rule), slPlan_rule⟩)
    (cPlan_rule : PySem.W.codeIn K cdPlan_rule "Plan.rule" = true)
    (kPlan_rule : PySem.W.keepIn K (.ref f_Plan_rule) = true)
    (asame_plan : PySem.W.nsIn K mainGlobals "same_plan" = some (some (.ref f_same_plan)))
    (lsame_plan : K.lookup f_same_plan = some ⟨ocsame_plan, odsame_plan, .func (PySem.W.fnOf "same_plan" "same_plan" (defArgs s_same_plan) (defBody s_same_plan) (defScope s_same_plan) .none kVsame_plan dcsame_plan pmsame_plan ansame_plan cdsame_plan ctsame_plan), slsame_plan⟩)
    (csame_plan : PySem.W.codeIn K cdsame_plan "same_plan" = true)
    (ksame_plan : PySem.W.keepIn K (.ref f_same_plan) = true)
    (a_law_draws : PySem.W.nsIn K mainGlobals "_law_draws" = some (some (.ref f__law_draws)))
    (l_law_draws : K.lookup f__law_draws = some ⟨oc_law_draws, od_law_draws, .func (PySem.W.fnOf "_law_draws" "_law_draws" (defArgs s__law_draws) (defBody s__law_draws) (defScope s__law_draws) .none kV_law_draws dc_law_draws pm_law_draws an_law_draws cd_law_draws ct_law_draws), sl_law_draws⟩)
    (c_law_draws : PySem.W.codeIn K cd_law_draws "_law_draws" = true)
    (k_law_draws : PySem.W.keepIn K (.ref f__law_draws) = true)
    (a_law_take : PySem.W.nsIn K mainGlobals "_law_take" = some (some (.ref f__law_take)))
    (l_law_take : K.lookup f__law_take = some ⟨oc_law_take, od_law_take, .func (PySem.W.fnOf "_law_take" "_law_take" (defArgs s__law_take) (defBody s__law_take) (defScope s__law_take) .none kV_law_take dc_law_take pm_law_take an_law_take cd_law_take ct_law_take), sl_law_take⟩)
    (c_law_take : PySem.W.codeIn K cd_law_take "_law_take" = true)
    (k_law_take : PySem.W.keepIn K (.ref f__law_take) = true)
    (a_law_same : PySem.W.nsIn K mainGlobals "_law_same" = some (some (.ref f__law_same)))
    (l_law_same : K.lookup f__law_same = some ⟨oc_law_same, od_law_same, .func (PySem.W.fnOf "_law_same" "_law_same" (defArgs s__law_same) (defBody s__law_same) (defScope s__law_same) .none kV_law_same dc_law_same pm_law_same an_law_same cd_law_same ct_law_same), sl_law_same⟩)
    (c_law_same : PySem.W.codeIn K cd_law_same "_law_same" = true)
    (k_law_same : PySem.W.keepIn K (.ref f__law_same) = true)
    (a_law_spoilt : PySem.W.nsIn K mainGlobals "_law_spoilt" = some (some (.ref f__law_spoilt)))
    (l_law_spoilt : K.lookup f__law_spoilt = some ⟨oc_law_spoilt, od_law_spoilt, .func (PySem.W.fnOf "_law_spoilt" "_law_spoilt" (defArgs s__law_spoilt) (defBody s__law_spoilt) (defScope s__law_spoilt) .none kV_law_spoilt dc_law_spoilt pm_law_spoilt an_law_spoilt cd_law_spoilt ct_law_spoilt), sl_law_spoilt⟩)
    (c_law_spoilt : PySem.W.codeIn K cd_law_spoilt "_law_spoilt" = true)
    (k_law_spoilt : PySem.W.keepIn K (.ref f__law_spoilt) = true)
    (a_law_fine : PySem.W.nsIn K mainGlobals "_law_fine" = some (some (.ref f__law_fine)))
    (l_law_fine : K.lookup f__law_fine = some ⟨oc_law_fine, od_law_fine, .func (PySem.W.fnOf "_law_fine" "_law_fine" (defArgs s__law_fine) (defBody s__law_fine) (defScope s__law_fine) .none kV_law_fine dc_law_fine pm_law_fine an_law_fine cd_law_fine ct_law_fine), sl_law_fine⟩)
    (c_law_fine : PySem.W.codeIn K cd_law_fine "_law_fine" = true)
    (k_law_fine : PySem.W.keepIn K (.ref f__law_fine) = true)
    (a_law_reason : PySem.W.nsIn K mainGlobals "_law_reason" = some (some (.ref f__law_reason)))
    (l_law_reason : K.lookup f__law_reason = some ⟨oc_law_reason, od_law_reason, .func (PySem.W.fnOf "_law_reason" "_law_reason" (defArgs s__law_reason) (defBody s__law_reason) (defScope s__law_reason) .none kV_law_reason dc_law_reason pm_law_reason an_law_reason cd_law_reason ct_law_reason), sl_law_reason⟩)
    (c_law_reason : PySem.W.codeIn K cd_law_reason "_law_reason" = true)
    (k_law_reason : PySem.W.keepIn K (.ref f__law_reason) = true)
    (a_law_made : PySem.W.nsIn K mainGlobals "_law_made" = some (some (.ref f__law_made)))
    (l_law_made : K.lookup f__law_made = some ⟨oc_law_made, od_law_made, .func (PySem.W.fnOf "_law_made" "_law_made" (defArgs s__law_made) (defBody s__law_made) (defScope s__law_made) .none kV_law_made dc_law_made pm_law_made an_law_made cd_law_made ct_law_made), sl_law_made⟩)
    (c_law_made : PySem.W.codeIn K cd_law_made "_law_made" = true)
    (k_law_made : PySem.W.keepIn K (.ref f__law_made) = true)
    (a_law_stands : PySem.W.nsIn K mainGlobals "_law_stands" = some (some (.ref f__law_stands)))
    (l_law_stands : K.lookup f__law_stands = some ⟨oc_law_stands, od_law_stands, .func (PySem.W.fnOf "_law_stands" "_law_stands" (defArgs s__law_stands) (defBody s__law_stands) (defScope s__law_stands) .none kV_law_stands dc_law_stands pm_law_stands an_law_stands cd_law_stands ct_law_stands), sl_law_stands⟩)
    (c_law_stands : PySem.W.codeIn K cd_law_stands "_law_stands" = true)
    (k_law_stands : PySem.W.keepIn K (.ref f__law_stands) = true)
    (alaw : PySem.W.nsIn K mainGlobals "law" = some (some (.ref f_law)))
    (llaw : K.lookup f_law = some ⟨oclaw, odlaw, .func (PySem.W.fnOf "law" "law" (defArgs s_law) (defBody s_law) (defScope s_law) .none kVlaw dclaw pmlaw anlaw cdlaw ctlaw), sllaw⟩)
    (claw : PySem.W.codeIn K cdlaw "law" = true)
    (klaw : PySem.W.keepIn K (.ref f_law) = true)
    (hKINDS : PySem.W.nsIn K mainGlobals "KINDS" = some (some (.ref a_KINDS)))
    (lKINDS : K.lookup a_KINDS = some ⟨.type "tuple", odKINDS, .seq (List.toArray [.str ("uniform" : Str) tKINDS0, .str ("weighted" : Str) tKINDS1, .str ("optimal" : Str) tKINDS2]) nKINDS, slKINDS⟩)
    (hMOST_GROUPS : PySem.W.nsIn K mainGlobals "MOST_GROUPS" = some (some (.int (20) t_MOST_GROUPS)))
    (hMOST_SIZE : PySem.W.nsIn K mainGlobals "MOST_SIZE" = some (some (.int (20) t_MOST_SIZE)))
    (hNAME_SIGNS : PySem.W.nsIn K mainGlobals "NAME_SIGNS" = some (some (.str ("abcdefghijklmnopqrstuvwxyz0123456789" : Str) t_NAME_SIGNS)))
    (zabs : PySem.W.nsIn K mainGlobals "abs" = some none)
    (zall : PySem.W.nsIn K mainGlobals "all" = some none)
    (zbool : PySem.W.nsIn K mainGlobals "bool" = some none)
    (zdict : PySem.W.nsIn K mainGlobals "dict" = some none)
    (zint : PySem.W.nsIn K mainGlobals "int" = some none)
    (zisinstance : PySem.W.nsIn K mainGlobals "isinstance" = some none)
    (zlen : PySem.W.nsIn K mainGlobals "len" = some none)
    (zlist : PySem.W.nsIn K mainGlobals "list" = some none)
    (zrange : PySem.W.nsIn K mainGlobals "range" = some none)
    (zreversed : PySem.W.nsIn K mainGlobals "reversed" = some none)
    (zsorted : PySem.W.nsIn K mainGlobals "sorted" = some none)
    (zstr : PySem.W.nsIn K mainGlobals "str" = some none)
    (ztuple : PySem.W.nsIn K mainGlobals "tuple" = some none)
    : ∃ fd : FuncData, (∀ (s : Shared) (v : Value), BindsTo s fd ⟨[v], []⟩ [("_law_script", v)]) ∧ ∀ base : Heap, K.In base → base.Ns mainGlobals mg → FnOk l.prog w K mg base CX0 7 fa fd ["_law_script"] (sp_law K) := by
  have e := hfa.symm.trans (PySem.W.mg_of X G alaw)
  cases e
  let T : Txt K mg := {
    a_Plan := a_Plan
    cl_Plan := ⟨pgPlan, hdPlan, poPlan, saPlan⟩
    g_Plan := PySem.W.mg_of X G hPlan
    n_Plan_rules := nPlan_rules
    n_Plan_others := nPlan_others
    a_SamphireError := a_SamphireError
    g_SamphireError := PySem.W.mg_of X G hSamphireError
    kp_SamphireError := kpSamphireError
    sb_SamphireError := sbSamphireError
    ty_SamphireError := tySamphireError
    te_SamphireError := PySem.W.exm_ref sbSamphireError hdSamphireError tySamphireError suSamphireError
    a_InvalidPlan := a_InvalidPlan
    g_InvalidPlan := PySem.W.mg_of X G hInvalidPlan
    kp_InvalidPlan := kpInvalidPlan
    sb_InvalidPlan := sbInvalidPlan
    ty_InvalidPlan := tyInvalidPlan
    te_InvalidPlan := PySem.W.exm_ref sbInvalidPlan hdInvalidPlan tyInvalidPlan suInvalidPlan
    ox_InvalidPlan := ⟨⟨_, _, _, _, _, _, _, _, _, _, _, _, _, _, _, xLInvalidPlan, refs_sub _⟩, xsInvalidPlan, sbInvalidPlan, tyInvalidPlan, kpInvalidPlan⟩
    xf_InvalidPlan := ⟨egInvalidPlan, ekInvalidPlan, sbInvalidPlan, hdInvalidPlan⟩
    no_InvalidPlan_reason := noInvalidPlanreason
    ic_InvalidPlan := aInvalidPlan___init__
    tc_InvalidPlan := tcInvalidPlan
    f_InvalidPlan___init__ := f_InvalidPlan___init__
    fd_InvalidPlan___init__ := _
    F_InvalidPlan___init__ := fun_mk (st := s_InvalidPlan___init__) lInvalidPlan___init__ cInvalidPlan___init__ kInvalidPlan___init__
    b_InvalidPlan___init__ := (fun_mk (st := s_InvalidPlan___init__) lInvalidPlan___init__ cInvalidPlan___init__ kInvalidPlan___init__).binds (ps := ["self", "reason"]) fun _ _ _ _ _ _ us hl => match us, hl with | [_, _], _ => rfl
    g_is_name := PySem.W.mg_of X G ais_name
    f_is_name := f_is_name
    fd_is_name := _
    F_is_name := fun_mk (st := s_is_name) lis_name cis_name kis_name
    b_is_name := (fun_mk (st := s_is_name) lis_name cis_name kis_name).binds (ps := ["text"]) fun _ _ _ _ _ _ us hl => match us, hl with | [_], _ => rfl
    g_check_plan := PySem.W.mg_of X G acheck_plan
    f_check_plan := f_check_plan
    fd_check_plan := _
    F_check_plan := fun_mk (st := s_check_plan) lcheck_plan ccheck_plan kcheck_plan
    b_check_plan := (fun_mk (st := s_check_plan) lcheck_plan ccheck_plan kcheck_plan).binds (ps := ["rules", "others"]) fun _ _ _ _ _ _ us hl => match us, hl with | [_, _], _ => rfl
    mk_Plan := ⟨mkPlan, aPlan___init__, iPlan___init__, kcPlan⟩
    f_Plan___init__ := f_Plan___init__
    fd_Plan___init__ := _
    F_Plan___init__ := fun_mk (st := s_Plan___init__) lPlan___init__ cPlan___init__ kPlan___init__
    b_Plan___init__ := (fun_mk (st := s_Plan___init__) lPlan___init__ cPlan___init__ kPlan___init__).binds (ps := ["self", "rules", "others"]) fun _ _ _ _ _ _ us hl => match us, hl with | [_, _, _], _ => rfl
    M_Plan_place_of := ⟨aPlan_place_of, iPlan_place_of, kPlan_place_of⟩
    f_Plan_place_of := f_Plan_place_of
    fd_Plan_place_of := _
    F_Plan_place_of := fun_mk (st := s_Plan_place_of) lPlan_place_of cPlan_place_of kPlan_place_of
    b_Plan_place_of := (fun_mk (st := s_Plan_place_of) lPlan_place_of cPlan_place_of kPlan_place_of).binds (ps := ["self", "group"]) fun _ _ _ _ _ _ us hl => match us, hl with | [_, _], _ => rfl
    M_Plan_places := ⟨aPlan_places, iPlan_places, kPlan_places⟩
    f_Plan_places := f_Plan_places
    fd_Plan_places := _
    F_Plan_places := fun_mk (st := s_Plan_places) lPlan_places cPlan_places kPlan_places
    b_Plan_places := (fun_mk (st := s_Plan_places) lPlan_places cPlan_places kPlan_places).binds (ps := ["self"]) fun _ _ _ _ _ _ us hl => match us, hl with | [_], _ => rfl
    M_Plan_rule := ⟨aPlan_rule, iPlan_rule, kPlan_rule⟩
    f_Plan_rule := f_Plan_rule
    fd_Plan_rule := _
    F_Plan_rule := fun_mk (st := s_Plan_rule) lPlan_rule cPlan_rule kPlan_rule
    b_Plan_rule := (fun_mk (st := s_Plan_rule) lPlan_rule cPlan_rule kPlan_rule).binds (ps := ["self", "place"]) fun _ _ _ _ _ _ us hl => match us, hl with | [_, _], _ => rfl
    g_same_plan := PySem.W.mg_of X G asame_plan
    f_same_plan := f_same_plan
    fd_same_plan := _
    F_same_plan := fun_mk (st := s_same_plan) lsame_plan csame_plan ksame_plan
    b_same_plan := (fun_mk (st := s_same_plan) lsame_plan csame_plan ksame_plan).binds (ps := ["plan", "other"]) fun _ _ _ _ _ _ us hl => match us, hl with | [_, _], _ => rfl
    g__law_draws := PySem.W.mg_of X G a_law_draws
    f__law_draws := f__law_draws
    fd__law_draws := _
    F__law_draws := fun_mk (st := s__law_draws) l_law_draws c_law_draws k_law_draws
    b__law_draws := (fun_mk (st := s__law_draws) l_law_draws c_law_draws k_law_draws).binds (ps := ["_law_script"]) fun _ _ _ _ _ _ us hl => match us, hl with | [_], _ => rfl
    g__law_take := PySem.W.mg_of X G a_law_take
    f__law_take := f__law_take
    fd__law_take := _
    F__law_take := fun_mk (st := s__law_take) l_law_take c_law_take k_law_take
    b__law_take := (fun_mk (st := s__law_take) l_law_take c_law_take k_law_take).binds (ps := ["_law_draws_here", "_law_bound"]) fun _ _ _ _ _ _ us hl => match us, hl with | [_, _], _ => rfl
    g__law_same := PySem.W.mg_of X G a_law_same
    f__law_same := f__law_same
    fd__law_same := _
    F__law_same := fun_mk (st := s__law_same) l_law_same c_law_same k_law_same
    b__law_same := (fun_mk (st := s__law_same) l_law_same c_law_same k_law_same).binds (ps := ["_law_actual", "_law_due"]) fun _ _ _ _ _ _ us hl => match us, hl with | [_, _], _ => rfl
    g__law_spoilt := PySem.W.mg_of X G a_law_spoilt
    f__law_spoilt := f__law_spoilt
    fd__law_spoilt := _
    F__law_spoilt := fun_mk (st := s__law_spoilt) l_law_spoilt c_law_spoilt k_law_spoilt
    b__law_spoilt := (fun_mk (st := s__law_spoilt) l_law_spoilt c_law_spoilt k_law_spoilt).binds (ps := ["_law_draws_here", "_law_rules", "_law_others"]) fun _ _ _ _ _ _ us hl => match us, hl with | [_, _, _], _ => rfl
    g__law_fine := PySem.W.mg_of X G a_law_fine
    f__law_fine := f__law_fine
    fd__law_fine := _
    F__law_fine := fun_mk (st := s__law_fine) l_law_fine c_law_fine k_law_fine
    b__law_fine := (fun_mk (st := s__law_fine) l_law_fine c_law_fine k_law_fine).binds (ps := ["_law_text"]) fun _ _ _ _ _ _ us hl => match us, hl with | [_], _ => rfl
    g__law_reason := PySem.W.mg_of X G a_law_reason
    f__law_reason := f__law_reason
    fd__law_reason := _
    F__law_reason := fun_mk (st := s__law_reason) l_law_reason c_law_reason k_law_reason
    b__law_reason := (fun_mk (st := s__law_reason) l_law_reason c_law_reason k_law_reason).binds (ps := ["_law_rules", "_law_others"]) fun _ _ _ _ _ _ us hl => match us, hl with | [_, _], _ => rfl
    g__law_made := PySem.W.mg_of X G a_law_made
    f__law_made := f__law_made
    fd__law_made := _
    F__law_made := fun_mk (st := s__law_made) l_law_made c_law_made k_law_made
    b__law_made := (fun_mk (st := s__law_made) l_law_made c_law_made k_law_made).binds (ps := ["_law_rules", "_law_others"]) fun _ _ _ _ _ _ us hl => match us, hl with | [_, _], _ => rfl
    g__law_stands := PySem.W.mg_of X G a_law_stands
    f__law_stands := f__law_stands
    fd__law_stands := _
    F__law_stands := fun_mk (st := s__law_stands) l_law_stands c_law_stands k_law_stands
    b__law_stands := (fun_mk (st := s__law_stands) l_law_stands c_law_stands k_law_stands).binds (ps := ["_law_rules", "_law_others"]) fun _ _ _ _ _ _ us hl => match us, hl with | [_, _], _ => rfl
    g_law := PySem.W.mg_of X G alaw
    f_law := fa
    fd_law := _
    F_law := fun_mk (st := s_law) llaw claw klaw
    b_law := (fun_mk (st := s_law) llaw claw klaw).binds (ps := ["_law_script"]) fun _ _ _ _ _ _ us hl => match us, hl with | [_], _ => rfl
    a_KINDS := a_KINDS
    g_KINDS := PySem.W.mg_of X G hKINDS
    v_KINDS := fun H => sqT_of_k lKINDS (.cons ⟨_, rfl⟩ (.cons ⟨_, rfl⟩ (.cons ⟨_, rfl⟩ .nil)))
    t_MOST_GROUPS := t_MOST_GROUPS
    g_MOST_GROUPS := PySem.W.mg_of X G hMOST_GROUPS
    t_MOST_SIZE := t_MOST_SIZE
    g_MOST_SIZE := PySem.W.mg_of X G hMOST_SIZE
    t_NAME_SIGNS := t_NAME_SIGNS
    g_NAME_SIGNS := PySem.W.mg_of X G hNAME_SIGNS
    z_abs := PySem.W.mg_none_of X G zabs
    z_all := PySem.W.mg_none_of X G zall
    z_bool := PySem.W.mg_none_of X G zbool
    z_dict := PySem.W.mg_none_of X G zdict
    z_int := PySem.W.mg_none_of X G zint
    z_isinstance := PySem.W.mg_none_of X G zisinstance
    z_len := PySem.W.mg_none_of X G zlen
    z_list := PySem.W.mg_none_of X G zlist
    z_range := PySem.W.mg_none_of X G zrange
    z_reversed := PySem.W.mg_none_of X G zreversed
    z_sorted := PySem.W.mg_none_of X G zsorted
    z_str := PySem.W.mg_none_of X G zstr
    z_tuple := PySem.W.mg_none_of X G ztuple }
  exact ⟨T.fd_law, fun s v => .of_eq rfl, fun base _ _ => ok_law T⟩
end Sam
open PySem PySem.W PyProof.Rows
set_option maxHeartbeats 0 in
theorem PySem.Challenge.cw_samphire_k58_plans_checked_holds : PySem.Challenge.rw_samphire_k58_plans_checked.Holds := by
  w_on; o_law; k_head; (case hw => w_witness2)
  k_fill
  refine L2.walk_of (l := PySem.Challenge.rw_samphire_k58_plans_checked) (n := 63) (k := 7) (x := "_law_script") (CX := fun _ => L2.CX0) (sp := fun w => Sam.sp_law _) rfl (by decide) rfl ⟨rfl, by decide, by decide⟩ (fun w h Y => PySem.W.kIn_of Y) ?F (fun _ _ a ns hl _ hS => ⟨a, ns, rfl, hS, hl, fun _ => rfl⟩) (fun _ _ _ _ _ h => h)
  case F =>
    intro w mg fa h KX G hmg
    refine' Sam.all_mk KX G hmg ?hPlan ?pgPlan ?hdPlan ?poPlan ?saPlan ?mkPlan ?kcPlan ?nPlan_rules ?nPlan_others ?hSamphireError ?kpSamphireError ?sbSamphireError ?tySamphireError ?hdSamphireError ?suSamphireError ?hInvalidPlan ?kpInvalidPlan ?sbInvalidPlan ?tyInvalidPlan ?hdInvalidPlan ?suInvalidPlan ?xLInvalidPlan ?xsInvalidPlan ?egInvalidPlan ?ekInvalidPlan ?noInvalidPlanreason ?aInvalidPlan___init__ ?tcInvalidPlan ?lInvalidPlan___init__ ?cInvalidPlan___init__ ?kInvalidPlan___init__ ?ais_name ?lis_name ?cis_name ?kis_name ?acheck_plan ?lcheck_plan ?ccheck_plan ?kcheck_plan ?aPlan___init__ ?iPlan___init__ ?lPlan___init__ ?cPlan___init__ ?kPlan___init__ ?aPlan_place_of ?iPlan_place_of ?lPlan_place_of ?cPlan_place_of ?kPlan_place_of ?aPlan_places ?iPlan_places ?lPlan_places ?cPlan_places ?kPlan_places ?aPlan_rule ?iPlan_rule ?lPlan_rule ?cPlan_rule ?kPlan_rule ?asame_plan ?lsame_plan ?csame_plan ?ksame_plan ?a_law_draws ?l_law_draws ?c_law_draws ?k_law_draws ?a_law_take ?l_law_take ?c_law_take ?k_law_take ?a_law_same ?l_law_same ?c_law_same ?k_law_same ?a_law_spoilt ?l_law_spoilt ?c_law_spoilt ?k_law_spoilt ?a_law_fine ?l_law_fine ?c_law_fine ?k_law_fine ?a_law_reason ?l_law_reason ?c_law_reason ?k_law_reason ?a_law_made ?l_law_made ?c_law_made ?k_law_made ?a_law_stands ?l_law_stands ?c_law_stands ?k_law_stands ?alaw ?llaw ?claw ?klaw ?hKINDS ?lKINDS ?hMOST_GROUPS ?hMOST_SIZE ?hNAME_SIGNS ?zabs ?zall ?zbool ?zdict ?zint ?zisinstance ?zlen ?zlist ?zrange ?zreversed ?zsorted ?zstr ?ztuple
    (case hPlan => k_is)
    (case pgPlan => k_is)
    (case hdPlan => k_is)
    (case poPlan => k_is)
    (case saPlan => k_is)
    (case mkPlan => k_is)
    (case kcPlan => k_is)
    (case nPlan_rules => k_is)
    (case nPlan_others => k_is)
    (case hSamphireError => k_is)
    (case kpSamphireError => k_is)
    (case sbSamphireError => k_is)
    (case tySamphireError => k_is)
    (case hdSamphireError => k_is)
    (case suSamphireError => first | rfl | k_is)
    (case hInvalidPlan => k_is)
    (case kpInvalidPlan => k_is)
    (case sbInvalidPlan => k_is)
    (case tyInvalidPlan => k_is)
    (case hdInvalidPlan => k_is)
    (case suInvalidPlan => first | rfl | k_is)
    (case xLInvalidPlan => k_is)
    (case xsInvalidPlan => k_is)
    (case egInvalidPlan => k_is)
    (case ekInvalidPlan => k_is)
    (case noInvalidPlanreason => k_is)
    (case aInvalidPlan___init__ => k_is)
    (case tcInvalidPlan => k_is)
    (case lInvalidPlan___init__ => k_is)
    (case cInvalidPlan___init__ => k_is)
    (case kInvalidPlan___init__ => k_is)
    (case ais_name => k_is)
    (case lis_name => k_is)
    (case cis_name => k_is)
    (case kis_name => k_is)
    (case acheck_plan => k_is)
    (case lcheck_plan => k_is)
    (case ccheck_plan => k_is)
    (case kcheck_plan => k_is)
    (case aPlan___init__ => k_is)
    (case iPlan___init__ => k_is)
    (case lPlan___init__ => k_is)
    (case cPlan___init__ => k_is)
    (case kPlan___init__ => k_is)
    (case aPlan_place_of => k_is)
    (case iPlan_place_of => k_is)
    (case lPlan_place_of => k_is)
    (case cPlan_place_of => k_is)
    (case kPlan_place_of => k_is)
    (case aPlan_places => k_is)
    (case iPlan_places => k_is)
    (case lPlan_places => k_is)
    (case cPlan_places => k_is)
    (case kPlan_places => k_is)
    (case aPlan_rule => k_is)
    (case iPlan_rule => k_is)
    (case lPlan_rule => k_is)
    (case cPlan_rule => k_is)
    (case kPlan_rule => k_is)
    (case asame_plan => k_is)
    (case lsame_plan => k_is)
    (case csame_plan => k_is)
    (case ksame_plan => k_is)
    (case a_law_draws => k_is)
    (case l_law_draws => k_is)
    (case c_law_draws => k_is)
    (case k_law_draws => k_is)
    (case a_law_take => k_is)
    (case l_law_take => k_is)
    (case c_law_take => k_is)
    (case k_law_take => k_is)
    (case a_law_same => k_is)
    (case l_law_same => k_is)
    (case c_law_same => k_is)
    (case k_law_same => k_is)
    (case a_law_spoilt => k_is)
    (case l_law_spoilt => k_is)
    (case c_law_spoilt => k_is)
    (case k_law_spoilt => k_is)
    (case a_law_fine => k_is)
    (case l_law_fine => k_is)
    (case c_law_fine => k_is)
    (case k_law_fine => k_is)
    (case a_law_reason => k_is)
    (case l_law_reason => k_is)
    (case c_law_reason => k_is)
    (case k_law_reason => k_is)
    (case a_law_made => k_is)
    (case l_law_made => k_is)
    (case c_law_made => k_is)
    (case k_law_made => k_is)
    (case a_law_stands => k_is)
    (case l_law_stands => k_is)
    (case c_law_stands => k_is)
    (case k_law_stands => k_is)
    (case alaw => k_is)
    (case llaw => k_is)
    (case claw => k_is)
    (case klaw => k_is)
    (case hKINDS => k_is)
    (case lKINDS => k_is)
    (case hMOST_GROUPS => k_is)
    (case hMOST_SIZE => k_is)
    (case hNAME_SIGNS => k_is)
    (case zabs => k_is)
    (case zall => k_is)
    (case zbool => k_is)
    (case zdict => k_is)
    (case zint => k_is)
    (case zisinstance => k_is)
    (case zlen => k_is)
    (case zlist => k_is)
    (case zrange => k_is)
    (case zreversed => k_is)
    (case zsorted => k_is)
    (case zstr => k_is)
    (case ztuple => k_is)
