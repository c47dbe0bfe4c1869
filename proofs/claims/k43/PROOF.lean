import PyProof.Rows.All
import HandS.RevTup
import HandS.Rev
import PyProof.ListStr
import Wide.All
import OpenK.AllK
import Wide.FinOn
import HandS.ForMost
import KE.KDictKeyed
import KE.KDictWalk
import HandS.Set
import HandS.SetFor
import KE.SortData
import PyProof.StrWalks
import HandS.List
import HandS.TupSets
import KE.KeyNested
import HandS.TupAny
import HandS.IsInst
import HandS.Exc
import HandS.ExcOwn
import HandS.CallSlots
import PyProof.P3In
import HandS.Replace
import HandS.Strs
import HandS.Defaults
import HandS.Walk
import HandS.Zip
import HandS.Iter
import HandS.More
import HandS.HeadHook1
import HandS.HeadHook2
import PySem.Challenge.RW_dots_k43_hinges
import KE.KStateDown
import Lean
import HandS.Head0
import HandS.Head1
import HandS.Head2
import HandS.HeadEnd
set_option Elab.async false
set_option linter.all false
set_option maxRecDepth 100000
set_option maxHeartbeats 0
/-! LR: list(reversed(x)), x a list. -/
namespace LR
open PySem PySem.Spec PyProof.Rows L2 RT
section
variable {prog : Program} {w : World} {A : Around} {E : Value → Shared → Prop} {s : Shared}
theorem ext_rev {it l : Addr} {items : Array Value} {Rr : Result → Shared → Prop} (hh : A.handled = none) (hit : s.heap.IsRevIter it l ((items.size : Int) - 1)) (hl : s.heap.IsList l items) (hne : l ≠ it) (hn : items.size ≤ sizeLine)
    (p : Addr) (res : Value) (c₀ : Nat) (hi : p ≠ it) (hp : p ≠ l) (hS : s.heap.get? p = some { cls := .type "list", data := .seq #[] c₀ })
    (hR : ∀ h' tk acc' c', (∀ b o, b ≠ p → b ≠ it → s.heap.get? b = some o → h'.get? b = some o) → h'.get? p = some { cls := .type "list", dict := none, data := .seq acc' c', slots := #[] } →
      ItemsOf (fun i v => items[items.size - 1 - i]? = some v) acc' items.size → Rr (.ok (.ret res)) { s with heap := h', toks := tk }) :
    wpAny (model prog w) A.in1 (Builtin.List.listExtendWith (.ref p) (.ref it) res)
      (fun fin s' => match fin with | .done f => Rr (.ok f) s' | .again c' => c'.quiet = true ∧ codeAny (model prog w) A c' Rr s') (fun e s' => Rr (.error e) s') s := by
  have W := (Walks.listRev (prog := prog) (w := w) (A := A.in1) hh it l hne items).toS
  have hf : p ∉ [it, l] := by simp only [List.mem_cons, List.not_mem_nil, or_false, not_or]; exact ⟨hi, hp⟩
  have hT : s.TypeIs (.ref it) "list_reverseiterator" := hit.typeIs
  have same : Builtin.List.listSameRef (.ref p) (.ref it) = false := by simp [Builtin.List.listSameRef, hi]
  unfold Builtin.List.listExtendWith
  refine wpAny_bind (wpAny_typeOf hT ?_)
  rw [if_neg (by rw [same]; decide)]
  refine wpAny_bind (wpAny_pyIter_revIter hit ?_)
  refine wpAny_bind (wpAny_holding ?_)
  unfold Builtin.List.listLengthHint
  refine wpAny_bind (wpAny_specialOf hT nolen_lri ?_)
  show wpAny _ A.in1 (specialOf (Value.ref it) (Str.ofString "__length_hint__") >>= _) _ _ _
  refine wpAny_bind (wpAny_specialOf hT hint_lri ?_)
  generalize hid : ("list_reverseiterator.__length_hint__" : String) = id0
  wp_delta
  rw [show splitId id0 = some ("list_reverseiterator", "__length_hint__") from by subst hid; decide +kernel]
  subst hid
  refine wpAny_bind (wpAny_isInstance (b := true) hT (by rw [isSubtype_type]; kernel_rfl) ?_)
  refine wpAny_pure ?_
  rw [if_neg (by decide)]
  have e0 : ((items.size : Nat) : Int) - 1 - ((0 : Nat) : Int) = (items.size : Int) - 1 := by omega
  refine wpAny_pure ⟨plainId_quiet F.plain_extend_loop _, codeAny_extend_loopS W hn _ hf _ items.size 0 _ _ _ rfl (Nat.zero_le _) ⟨Nat.zero_le _, by rw [e0]; exact hit, hl⟩ hS (ItemsOf.nil _) fun s' acc' c' hm hS' hacc => ?_⟩
  rw [Moved.eq_with hm]
  refine hR s'.heap s'.toks acc' c' (fun b o hb hb2 e => hm.heap b o (fun hmem => ?_) e) hS' hacc
  rcases List.mem_cons.mp hmem with e' | hmem
  · exact hb e'
  · exact hb2 (List.mem_singleton.mp hmem)
theorem call_list_rev {it l : Addr} {items : Array Value} {Q : Value → Shared → Prop} (hh : A.handled = none) (hit : s.heap.IsRevIter it l ((items.size : Int) - 1)) (hl : s.heap.IsList l items) (hne : l ≠ it) (hn : items.size ≤ sizeLine)
    (hQ : ∀ h' tk acc' c', (∀ b o, b ≠ it → s.heap.get? b = some o → h'.get? b = some o) → h'.get? s.heap.objs.size = some { cls := .type "list", dict := none, data := .seq acc' c', slots := #[] } →
      ItemsOf (fun i v => items[items.size - 1 - i]? = some v) acc' items.size → Q (.ref s.heap.objs.size) { s with heap := h', toks := tk }) :
    wpAny (model prog w) A (call (.type "list") [.ref it]) Q E s := by
  obtain ⟨oi, hoi, _⟩ := id hit
  obtain ⟨ol, hol, _⟩ := id hl
  have hSi : s.heap.objs.size ≠ it := Nat.ne_of_gt (Heap.lt_size hoi)
  have hSl : s.heap.objs.size ≠ l := Nat.ne_of_gt (Heap.lt_size hol)
  refine callType_codes (Q₁ := fun obj s₁ => obj = .ref s.heap.objs.size ∧ s₁ = { s with heap := s.heap.push { cls := .type "list", data := .seq #[] } }) F.called_list (F.typeCall_list_1 _) F.entry_list_init
    (code_list_new _ ⟨rfl, rfl⟩) fun obj s₁ h₁ => ?_
  obtain ⟨rfl, rfl⟩ := h₁
  have hS : (s.heap.push { cls := .type "list", data := .seq #[] }).get? s.heap.objs.size = some { cls := .type "list", data := .seq #[] } := Heap.get?_push_size _ rfl
  refine ⟨⟨_, hS, rfl⟩, F.args_list_init_2 _ _, ?_⟩
  show wpAny _ _ (do let old ← Builtin.List.listItems (.ref s.heap.objs.size); Builtin.List.listUpdate (.ref s.heap.objs.size) (fun _ => #[]); letGo old.toList.reverse; Builtin.List.listExtendWith (.ref s.heap.objs.size) (.ref it) .none) _ _ _
  refine wpAny_bind ?_
  unfold Builtin.List.listItems
  refine wpAny_bind (wpAny_seqItems hS rfl (wpAny_pure ?_))
  show wpAny _ _ (updateSeq s.heap.objs.size (fun _ => #[]) >>= fun _ => letGo (#[] : Array Value).toList.reverse >>= fun _ => Builtin.List.listExtendWith (.ref s.heap.objs.size) (.ref it) .none) _ _ _
  refine wpAny_bind (wpAny_updateSeq hS rfl ?_)
  have hS2 := Heap.get?_update_self (Obj.mapSeq (fun _ => (#[] : Array Value))) hS rfl
  have oth : ∀ b o, b ≠ s.heap.objs.size → s.heap.get? b = some o → ((s.heap.push { cls := .type "list", data := .seq #[] }).update s.heap.objs.size (Obj.mapSeq (fun _ => (#[] : Array Value)))).get? b = some o :=
    fun b o hb e => (Heap.get?_update_other _ _ (Ne.symm hb)).trans (Heap.get?_push_of_some _ e)
  refine wpAny_bind (wpAny_letGo ?_)
  refine ext_rev (A := A.in1) hh (hit.at fun o e => oth _ _ (Ne.symm hSi) e) ?_ hne hn _ .none _ hSi hSl hS2 fun h' tk acc' c' hk hS' hacc => ?_
  · obtain ⟨o, e1, e2, e3⟩ := hl
    exact ⟨o, oth _ _ (Ne.symm hSl) e1, e2, e3⟩
  · exact ⟨rfl, hQ h' tk acc' c' (fun b o hb e => hk b o (Nat.ne_of_lt (Heap.lt_size e)) hb (oth b o (Nat.ne_of_lt (Heap.lt_size e)) e)) hS' hacc⟩
end
/-- list(reversed(x)), x a list: a new list -/
def tListRev (K : PySem.W.Frag) (te : TE) : TE := fun σ H Q => te σ H fun v H1 => ∃ (a : Addr) (xs : List V), v = .ref a ∧ SqL K H1 a xs ∧ ∀ q, H1 q = none → Q (.ref q) (upd H1 q (.lst xs.reverse))
section
variable {X : Cx}
theorem pe_listRev {e : Expr} {te : TE} {p p2 pos pos2 : Pos} (hc : X.calm = true) (hg : Gl X "list") (hm : X.mg "list" = none) (hg2 : Gl X "reversed") (hm2 : X.mg "reversed" = none) (he : PE X e te)
    (hs : starEach [e] X.env = (false, eval e X.env) :: starEach [] X.env)
    (hs2 : starEach [.Call (.Name "reversed" p2) [e] [] pos2] X.env = (false, eval (.Call (.Name "reversed" p2) [e] [] pos2) X.env) :: starEach [] X.env := by rfl) :
    PE X (.Call (.Name "list" p) [.Call (.Name "reversed" p2) [e] [] pos2] [] pos) (tListRev X.K te) := by
  refine ⟨fun pins s σ H Q I h => ?_⟩
  refine Call_ (ld_blt I hg hm boot_list (PyProof.Rows.callWith_type1 (args_cons (Call_ (ld_blt I hg2 hm2 PyProof.Rows.boot_reversed (PyProof.Rows.callWith_type1 (args_cons (thn (he.run pins s σ H _ I h) fun u s1 ⟨v, H1, I1, r1, q1⟩ => args_nil ?_) hs) hs rfl))) hs2) hs2 rfl))
  obtain ⟨a, xs, ev, hq, q⟩ := q1
  subst ev
  obtain rfl : u = Value.ref a := r1
  obtain ⟨its, rv, p', hz⟩ := I1.list hq
  refine call_reversed_list p'.isList (args_nil ?_)
  have hl := p'.isList
  obtain ⟨ol, hol, _⟩ := id hl
  have hne : a ≠ s1.heap.objs.size := Nat.ne_of_lt (Heap.lt_size hol)
  have hn : its.toArray.size ≤ sizeLine := by rw [List.size_toArray, ← rv.length]; exact hz
  refine call_list_rev (s := { s1 with heap := s1.heap.push (revObj a ((its.toArray.size : Int) - 1)) }) (I1.ok.hd hc) ⟨_, Heap.get?_push_size _ rfl, rfl, rfl⟩ (hl.push _) hne hn fun h' tk acc c' hk hS' hi => ?_
  have sz : (s1.heap.push (revObj a ((its.toArray.size : Int) - 1))).objs.size = s1.heap.objs.size + 1 := Heap.size_push _ _
  have keep : ∀ b o, s1.heap.get? b = some o → h'.get? b = some o := fun b o e => hk b o (Nat.ne_of_lt (Heap.lt_size e)) (Heap.get?_push_of_some _ e)
  refine ⟨.ref (s1.heap.push (revObj a ((its.toArray.size : Int) - 1))).objs.size, upd H1 (s1.heap.push (revObj a ((its.toArray.size : Int) - 1))).objs.size (.lst xs.reverse), I1.laid (t' := tk) keep (by rw [sz]; exact Nat.le_succ _) (show ObjOk X.prog X.w _ _ _ (.lst xs.reverse) from ⟨by rw [List.length_reverse]; exact hz, acc.toList, c', vals_rev rv hi, ?_⟩), rfl, q _ (I1.hok.fresh (by rw [sz]; exact Nat.le_succ _))⟩
  rw [Array.toArray_toList]
  exact hS'
end
end LR
/-! LR2: list(reversed(x)), x a text or a tuple. -/
namespace LR
open PySem PySem.Spec PyProof.Rows L2 RT
theorem norev_str : typeLookup (.type "str") "__reversed__" = pure none := by rw [typeLookup_type, builtinLookup_eq_fast]; kernel_rfl
theorem get_str : typeLookup (.type "str") "__getitem__" = pure (some (.builtin "str.__getitem__")) := by rw [typeLookup_type, builtinLookup_eq_fast]; kernel_rfl
theorem nolen_rt : typeLookup (.type "reversed") "__len__" = pure none := by rw [typeLookup_type, builtinLookup_eq_fast]; kernel_rfl
theorem hint_rt : typeLookup (.type "reversed") "__length_hint__" = pure (some (.builtin "reversed.__length_hint__")) := by rw [typeLookup_type, builtinLookup_eq_fast]; kernel_rfl
theorem slot_rt_hint : Slot "reversed" "__length_hint__" "reversed.__length_hint__" :=
  .of (owner := "reversed") (n := "__length_hint__") (by rw [typeLookup_type, builtinLookup_eq_fast]; kernel_rfl) (by decide +kernel) (by decide +kernel) (by decide +kernel)
    (by first | exact .inl (by decide +kernel) | exact .inr (by decide +kernel)) (by rw [isSubtype_type]; kernel_rfl)
theorem entry_rt_hint : entryFor table "reversed.__length_hint__" = some Builtin.«reversed.__length_hint__» := entryFor_of_tree (by kernel_rfl)
theorem args_rt_hint (a : Value) : argsOk "reversed.__length_hint__" ⟨[a], []⟩ := by
  unfold argsOk; rw [signature?_of (id := "reversed.__length_hint__") (n := ['_', '_', 't', 'n', 'i', 'h', '_', 'h', 't', 'g', 'n', 'e', 'l', '_', '_']) (o := ['d', 'e', 's', 'r', 'e', 'v', 'e', 'r']) (by kernel_rfl) owner_rt]; kernel_rfl
def rvObj (v : Value) (i : Int) : Obj := { cls := .type "reversed", data := .fields #[v, rawInt i] }
/-- reversed(v), the next place i -/
def IsRv (h : Heap) (a : Addr) (v : Value) (i : Int) : Prop := ∃ o, h.get? a = some o ∧ o.cls = .type "reversed" ∧ o.data = .fields #[v, rawInt i]
section
variable {prog : Program} {w : World} {A : Around} {E : Value → Shared → Prop} {s : Shared} {x : Str} {t0 : Tok}
theorem IsRv.typeIs {a : Addr} {v : Value} {i : Int} (q : IsRv s.heap a v i) : s.TypeIs (.ref a) "reversed" := let ⟨o, ho, hc, _⟩ := q; ⟨o, ho, hc⟩
theorem IsRv.at {h h' : Heap} {a : Addr} {v : Value} {i : Int} (q : IsRv h a v i) (e : ∀ o, h.get? a = some o → h'.get? a = some o) : IsRv h' a v i := let ⟨o, ho, r⟩ := q; ⟨o, e _ ho, r⟩
theorem code_rev_str {Q₁ : Value → Shared → Prop} (hz : x.length ≤ sizeLine)
    (h : Q₁ (.ref s.heap.objs.size) { s with heap := s.heap.push (rvObj (.str x t0) ((x.length : Int) - 1)), toks := s.toks + 1 + 1 }) :
    codeAny (model prog w) A (.call (.builtin "reversed.__new__") ⟨[.type "reversed", .str x t0], []⟩) (wants Q₁ E) s := by
  have hT : s.TypeIs (.str x t0) "str" := rfl
  refine codeAny_of_tree ?_
  show wpAny _ A.in1 (do checkBuiltinCall "reversed.__new__" ⟨[.type "reversed", .str x t0], []⟩; again (.builtin "reversed.__new__" ⟨[.type "reversed", .str x t0], []⟩)) _ _ s
  refine wpAny_bind (wpAny_of_eq (F.newCall_reversed_1 _) (wpAny_pure ⟨plainId_quiet F.plain_reversed_new _, codeAny_builtin F.entry_reversed_new ?_⟩))
  rw [Around.under_plainId F.plain_reversed_new _]
  unfold Builtin.«reversed.__new__»
  refine wpAny_bind (wpAny_of_eq (newClass_reversed _) ?_)
  try dsimp only
  refine wpAny_bind (wpAny_of_eq (a := ()) (by first | rfl | kernel_rfl) ?_)
  try dsimp only
  refine wpAny_bind (wpAny_of_eq (a := ()) (by first | rfl | kernel_rfl) ?_)
  try dsimp only
  refine wpAny_bind (wpAny_specialOf hT norev_str ?_)
  try dsimp only
  refine wpAny_bind ?_
  wp_delta
  refine wpAny_bind (wpAny_isInstance (T := "str") (U := "dict") (b := false) hT PySem.F.sub_str_dict ?_)
  try dsimp only
  try rw [if_neg Bool.false_ne_true]
  try dsimp only
  refine wpAny_bind (wpAny_specialOf hT get_str ?_)
  try dsimp only
  try rw [if_pos (by decide +kernel)]
  refine wpAny_pure ?_
  try dsimp only
  try rw [if_neg (by decide)]
  try dsimp only
  refine wpAny_bind (PyProof.Rows.len_str (by rw [sizeLine_eq] at hz; omega) ?_)
  refine wpAny_bind (wpAny_of_eq (a := some ((x.length : Nat) : Int)) rfl ?_)
  try dsimp only
  refine wpAny_bind ?_
  show wpAny _ _ (newObj (.type "reversed") (.fields #[.str x t0, rawInt ((x.length : Int) - 1)])) _ _ _
  refine wpAny_newObj_type ?_
  exact wpAny_pure h
theorem call_rev_str {Q : Value → Shared → Prop} (hz : x.length ≤ sizeLine)
    (h : Q (.ref s.heap.objs.size) { s with heap := s.heap.push (rvObj (.str x t0) ((x.length : Int) - 1)), toks := s.toks + 1 + 1 }) : wpAny (model prog w) A (call (.type "reversed") [.str x t0]) Q E s := by
  refine callType_codes (Q₁ := fun obj s₁ => s₁.TypeIs obj "reversed" ∧ Q obj s₁) called_rt (F.typeCall_reversed_1 _) F.entry_object_init
    (code_rev_str (A := A.in1) hz ⟨⟨_, Heap.get?_push_size _ rfl, rfl⟩, h⟩) fun obj s₁ h₁ => ?_
  exact ⟨h₁.1, F.args_object_init_2 obj _, object_init_meets called_rt.init.lookup called_rt.made (by decide) prog w A.in1 _ s₁ ⟨h₁.1, rfl, h₁.2⟩⟩
theorem next_rv_item {it : Addr} {i c : Nat} {Q : Option Value → Shared → Prop} (hit : IsRv s.heap it (.str x t0) (i : Int)) (hx : x.cps[i]? = some c) (hsz : x.length ≤ sizeLine)
    (hQ : ∀ h' u, IsRv h' it (.str x t0) ((i : Int) - 1) → Heap.SameBut it s.heap h' → Q (some (.str ⟨#[c]⟩ u)) { s with heap := h', toks := s.toks + 1 + 1 }) : wpAny (model prog w) A (pyNext (.ref it)) Q E s := by
  obtain ⟨o, ho, hc, hd⟩ := id hit
  have hi : i < x.length := (Array.getElem?_eq_some_iff.mp hx).1
  have hT : s.TypeIs (.str x t0) "str" := rfl
  rw [sizeLine_eq] at hsz
  unfold pyNext
  refine wpAny_bind (wpAny_attempt (wpAny_callSpecial?_slot (name := Str.ofString "__next__") hit.typeIs slot_rt_next
    (wpAny_call_entry slot_rt_next hit.typeIs entry_rt_next ?_ (args_rt_next _))))
  unfold Builtin.«reversed.__next__»
  refine wpAny_bind (wpAny_of_eq (a := (Value.ref it, [])) rfl ?_)
  try dsimp only
  refine wpAny_bind (wpAny_field ho hd (x := .str x t0) rfl ?_)
  try dsimp only
  refine wpAny_bind (wpAny_field ho hd (x := rawInt (i : Int)) rfl ?_)
  show wpAny _ _ (if (i : Int) < 0 then _ else _) _ _ s
  rw [if_neg (by omega)]
  try dsimp only
  refine wpAny_bind (wpAny_specialOf hT get_str ?_)
  try dsimp only
  try rw [if_neg (by decide)]
  try dsimp only
  refine wpAny_bind (wpAny_mkInt ?_)
  refine wpAny_bind (wpAny_attempt ?_)
  have fin : (seqIndex? (i : Int) x.length).bind (x.cps[·]?) = some c := by
    rw [seqIndex_of (by omega) (by omega)]; exact hx
  refine P.getItem_str (s := { s with toks := s.toks + 1 }) (by simp; omega) fin ?_
  try dsimp only
  refine wpAny_bind (wpAny_field (s := { s with toks := s.toks + 1 + 1 }) ho hd (x := rawInt (i : Int)) rfl ?_)
  try dsimp only
  refine wpAny_bind (wpAny_setField (s := { s with toks := s.toks + 1 + 1 }) ho hd (by simp) ?_)
  first
  | refine wpAny_pure ⟨_, rfl, wpAny_pure (hQ _ _ ?_ (Heap.SameBut.update ..))⟩
  | refine wpAny_bind (wpAny_pure (wpAny_pure ⟨_, rfl, wpAny_pure (hQ _ _ ?_ (Heap.SameBut.update ..))⟩))
  exact ⟨_, Heap.get?_update_self _ ho (Obj.isFreed_of_fields (Obj.data_mapFields hd _)), (Obj.cls_mapFields ..).trans hc, by
    rw [Obj.data_mapFields hd]; simp⟩
theorem next_rv_end {it : Addr} {v : Value} {Q : Option Value → Shared → Prop} (hh : A.handled = none) (hit : IsRv s.heap it v (-1))
    (hQ : ∀ h', Heap.ExtBut it s.heap h' → Q none { s with heap := h' }) : wpAny (model prog w) A (pyNext (.ref it)) Q E s := by
  obtain ⟨o, ho, hc, hd⟩ := id hit
  unfold pyNext
  refine wpAny_bind (wpAny_attempt (wpAny_callSpecial?_slot (name := Str.ofString "__next__") hit.typeIs slot_rt_next
    (wpAny_call_entry slot_rt_next hit.typeIs entry_rt_next ?_ (args_rt_next _))))
  unfold Builtin.«reversed.__next__»
  refine wpAny_bind (wpAny_of_eq (a := (Value.ref it, [])) rfl ?_)
  try dsimp only
  refine wpAny_bind (wpAny_field ho hd (x := v) rfl ?_)
  try dsimp only
  refine wpAny_bind (wpAny_field ho hd (x := rawInt (-1)) rfl ?_)
  show wpAny _ _ (if (-1 : Int) < 0 then _ else _) _ _ s
  rw [if_pos (by decide)]
  try dsimp only
  refine wpAny_bind (wpAny_rule ?_)
  refine wpAny_bind ?_
  wp_delta
  refine wpAny_bind (wpAny_setField ho hd (by simp) ?_)
  have ho2 := Heap.get?_update_self (Obj.mapFields (·.setIfInBounds 1 (rawInt (-1)))) ho (Obj.isFreed_of_fields (Obj.data_mapFields hd _))
  refine wpAny_setField (s := { s with heap := s.heap.update it (Obj.mapFields (·.setIfInBounds 1 (rawInt (-1)))) }) ho2 (Obj.data_mapFields hd _) (by simp) ?_
  try dsimp only
  first
  | show wpAny _ _ (newExc (.type "StopIteration") [] >>= _) _ _ _
  | (refine wpAny_bind ?_; show wpAny _ _ (newExc (.type "StopIteration") [] >>= _) _ _ _)
  | (refine wpAny_bind ?_; wp_delta; show wpAny _ _ (newExc (.type "StopIteration") [] >>= _) _ _ _)
  refine wpAny_bind ?_
  simp only [newExc, newTuple]
  refine wpAny_bind (wpAny_newObj_type ?_ (by size_fits))
  refine wpAny_bind (m := firstArgMember _ _) (wpAny_of_eq (a := Value.none) (by first | rfl | (simp only [firstArgMember]; rfl)) ?_)
  refine wpAny_newObj_type ?_ (by size_fits)
  simp only [raiseNew]
  refine wpAny_bind (wpAny_handled ?_)
  first | rw [show A.in1.handled = none from hh] | rw [hh]
  refine wpAny_bind (wpAny_pure (wpAny_throw ?_))
  refine wpAny_bind (wpAny_isInstance (T := "StopIteration") (b := true) ⟨_, Heap.get?_push_size _ rfl, rfl⟩ isSubtype_stop ?_)
  refine wpAny_pure (hQ _ ?_)
  refine ((?_ : Heap.ExtBut it s.heap _).push _).push _
  exact fun b ob hb e => (Heap.get?_update_other _ _ (Ne.symm hb)).trans ((Heap.get?_update_other _ _ (Ne.symm hb)).trans e)
theorem iter_rv {it : Addr} {v : Value} {i : Int} {Q : Value → Shared → Prop} (hit : IsRv s.heap it v i) (h : Q (.ref it) s) : wpAny (model prog w) A (pyIter (.ref it)) Q E s := by
  refine wpAny_pyIter_slot hit.typeIs slot_rt_iter (wpAny_call_entry slot_rt_iter hit.typeIs entry_rt_iter ?_ (args_rt_iter _))
  show wpAny _ _ (ret (.ref it)) _ _ s
  exact wpAny_pure ⟨_, rfl, "reversed", _, hit.typeIs, slot_rt_next.lookup, h⟩
theorem call_hint {it : Addr} {v : Value} {n : Nat} {Q : Value → Shared → Prop} (hit : IsRv s.heap it v ((n : Int) - 1)) (hv : (v == Value.none) = false)
    (hlen : ∀ (A : Around) (E : Value → Shared → Prop) (Q : Value → Shared → Prop), Q (.int n (s.toks + 1)) { s with toks := s.toks + 1 + 1 } → wpAny (model prog w) A (call (.builtin "len") [v]) Q E s)
    (h : ∀ u tk, s.toks ≤ tk → Q (.int (n : Int) u) { s with toks := tk }) : wpAny (model prog w) A (call (.builtin "reversed.__length_hint__") [.ref it]) Q E s := by
  obtain ⟨o, ho, hc, hd⟩ := id hit
  refine wpAny_call_entry slot_rt_hint hit.typeIs entry_rt_hint ?_ (args_rt_hint _)
  unfold Builtin.«reversed.__length_hint__»
  refine wpAny_bind (wpAny_of_eq (a := Value.ref it) rfl ?_)
  try dsimp only
  refine wpAny_bind (wpAny_field ho hd (x := v) rfl ?_)
  rw [if_neg (by rw [hv]; decide)]
  refine wpAny_bind (hlen _ _ _ ?_)
  refine wpAny_bind (wpAny_of_eq (a := some (n : Int)) rfl ?_)
  try dsimp only
  refine wpAny_bind (wpAny_field (s := { s with toks := s.toks + 1 + 1 }) ho hd (x := rawInt ((n : Int) - 1)) rfl ?_)
  show wpAny _ _ (if (n : Int) < (n : Int) - 1 + 1 then _ else _) _ _ _
  rw [if_neg (by omega)]
  have e : (n : Int) - 1 + 1 = (n : Int) := by omega
  rw [e]
  show wpAny _ _ (mkInt (n : Int) >>= fun v => ret v) _ _ _
  refine wpAny_bind (wpAny_mkInt ?_)
  exact wpAny_pure ⟨_, rfl, h _ _ (by show s.toks ≤ s.toks + 1 + 1 + 1; omega)⟩
/-- the walk over reversed(text) -/
def BackAt (x : Str) (i : Nat) (v : Value) : Prop := ∃ c u, x.cps[x.length - 1 - i]? = some c ∧ v = .str ⟨#[c]⟩ u
theorem walks_rs (hh : A.handled = none) (I : Addr) (x : Str) (t0 : Tok) (hz : x.length ≤ sizeLine) : Walks prog w A I [I] [I] x.length (BackAt x) (fun i h => IsRv h I (.str x t0) ((x.length : Int) - 1 - (i : Int))) where
  sub := fun _ hb => hb
  frame := fun i s h' st hk => st.at fun o e => hk I (by simp) o e
  item := fun i s Q E hi st hQ => by
    have e : (x.length : Int) - 1 - (i : Int) = ((x.length - 1 - i : Nat) : Int) := by omega
    have hg : x.length - 1 - i < x.cps.size := by show _ < x.length; omega
    rw [e] at st
    refine next_rv_item st (c := x.cps[x.length - 1 - i]) (Array.getElem?_eq_getElem hg) hz fun h' u hit' sb => ?_
    refine hQ _ h' (s.toks + 1 + 1) ⟨_, u, Array.getElem?_eq_getElem hg, rfl⟩ ?_ fun b o hb e2 => sb.extBut b o (fun z => hb (by simp [z])) e2
    have e3 : (x.length : Int) - 1 - ((i + 1 : Nat) : Int) = ((x.length - 1 - i : Nat) : Int) - 1 := by omega
    rw [e3]
    exact hit'
  done := fun s Q E st hQ => by
    have e : (x.length : Int) - 1 - (x.length : Int) = -1 := by omega
    have st : IsRv s.heap I (.str x t0) ((x.length : Int) - 1 - (x.length : Int)) := st
    rw [e] at st
    exact next_rv_end hh st fun h' he => hQ h' s.toks fun b o hb e2 => he b o (fun z => hb (by simp [z])) e2
  self := fun i s Q E st hQ => iter_rv st hQ
/-- the walk over reversed(tuple) -/
theorem walks_rt (hh : A.handled = none) (I t : Addr) (items : Array Value) (hne : t ≠ I) (hz : items.size ≤ sizeLine) : Walks prog w A I [I, t] [I] items.size (fun i v => items[items.size - 1 - i]? = some v) (fun i h => IsRt h I t ((items.size : Int) - 1 - (i : Int)) ∧ IsTup h t items) where
  sub := fun b hb => by simp at hb; simp [hb]
  frame := fun i s h' st hk => ⟨st.1.at fun o e => hk I (by simp) o e, let ⟨o, ho, r⟩ := st.2; ⟨o, hk t (by simp) o ho, r⟩⟩
  item := fun i s Q E hi st hQ => by
    have e : (items.size : Int) - 1 - (i : Int) = ((items.size - 1 - i : Nat) : Int) := by omega
    have hg : items.size - 1 - i < items.size := by omega
    obtain ⟨st, tt⟩ := st
    rw [e] at st
    refine next_rt_item st tt (x := items[items.size - 1 - i]) (Array.getElem?_eq_getElem hg) hz fun h' hit' sb => ?_
    refine hQ _ h' (s.toks + 1) (Array.getElem?_eq_getElem hg) ⟨?_, ?_⟩ fun b o hb e2 => sb.extBut b o (fun z => hb (by simp [z])) e2
    · have e3 : (items.size : Int) - 1 - ((i + 1 : Nat) : Int) = ((items.size - 1 - i : Nat) : Int) - 1 := by omega
      rw [e3]
      exact hit'
    · obtain ⟨o, ho, r⟩ := tt
      exact ⟨o, sb.extBut t o hne ho, r⟩
  done := fun s Q E st hQ => by
    have e : (items.size : Int) - 1 - (items.size : Int) = -1 := by omega
    have st : IsRt s.heap I t ((items.size : Int) - 1 - (items.size : Int)) := st.1
    rw [e] at st
    exact next_rt_end hh st fun h' he => hQ h' s.toks fun b o hb e2 => he b o (fun z => hb (by simp [z])) e2
  self := fun i s Q E st hQ => iter_rt st.1 hQ
section
variable {it : Addr} {fp : List Addr} {n : Nat} {Pv : Nat → Value → Prop} {St : Nat → Heap → Prop}
theorem ext_rv (W : Walks prog w A.in1 it fp [it] n Pv St) (st : St 0 s.heap) (ty : s.TypeIs (.ref it) "reversed") (hn : n ≤ sizeLine)
    (hint : ∀ {E : Value → Shared → Prop} {Q : Value → Shared → Prop}, (∀ u tk, s.toks ≤ tk → Q (.int (n : Int) u) { s with toks := tk }) → wpAny (model prog w) A.in1 (call (.builtin "reversed.__length_hint__") [.ref it]) Q E s) {Rr : Result → Shared → Prop}
    (p : Addr) (res : Value) (c₀ : Nat) (hi : p ≠ it) (hf : p ∉ fp) (hS : s.heap.get? p = some { cls := .type "list", data := .seq #[] c₀ })
    (hR : ∀ h' tk acc' c', (∀ b o, b ≠ p → b ≠ it → s.heap.get? b = some o → h'.get? b = some o) → h'.get? p = some { cls := .type "list", dict := none, data := .seq acc' c', slots := #[] } → ItemsOf Pv acc' n → Rr (.ok (.ret res)) { s with heap := h', toks := tk }) :
    wpAny (model prog w) A.in1 (Builtin.List.listExtendWith (.ref p) (.ref it) res)
      (fun fin s' => match fin with | .done f => Rr (.ok f) s' | .again c' => c'.quiet = true ∧ codeAny (model prog w) A c' Rr s') (fun e s' => Rr (.error e) s') s := by
  have same : Builtin.List.listSameRef (.ref p) (.ref it) = false := by simp [Builtin.List.listSameRef, hi]
  unfold Builtin.List.listExtendWith
  refine wpAny_bind (wpAny_typeOf ty ?_)
  rw [if_neg (by rw [same]; decide)]
  refine wpAny_bind (W.self 0 s _ _ st ?_)
  refine wpAny_bind (wpAny_holding ?_)
  unfold Builtin.List.listLengthHint
  refine wpAny_bind (wpAny_specialOf ty nolen_rt ?_)
  show wpAny _ A.in1 (specialOf (Value.ref it) (Str.ofString "__length_hint__") >>= _) _ _ _
  refine wpAny_bind (wpAny_specialOf ty hint_rt ?_)
  generalize hid : ("reversed.__length_hint__" : String) = id0
  wp_delta
  rw [show splitId id0 = some ("reversed", "__length_hint__") from by subst hid; decide +kernel]
  subst hid
  refine wpAny_bind (wpAny_isInstance (b := true) ty (by rw [isSubtype_type]; kernel_rfl) ?_)
  rw [if_neg (by decide)]
  dsimp only
  rw [if_neg (by decide +kernel)]
  refine wpAny_bind (wpAny_rule ?_)
  rw [slot_rt_hint.bind, pure_bind]
  dsimp only
  refine wpAny_bind (wpAny_attempt (hint fun u tk htk => ?_))
  dsimp only
  rw [show asInt? (Value.int (n : Int) u) = pure (some (n : Int)) from rfl, pure_bind]
  dsimp only
  have hn2 : n ≤ 1000000000000 := Nat.le_trans hn (by decide)
  rw [if_neg (by unfold Builtin.List.listFitsIndex; simp; omega), if_neg (by omega), if_neg (by rw [show Builtin.List.listTooLong (n : Int).toNat = false from by unfold Builtin.List.listTooLong; simp; omega]; decide)]
  refine wpAny_pure ?_
  have loop : ∀ (h2 : Heap) (c1 : Nat), St 0 h2 → (∀ b o, b ≠ p → s.heap.get? b = some o → h2.get? b = some o) → h2.get? p = some { cls := .type "list", data := .seq #[] c1 } →
      wpAny (model prog w) A.in1 (again (Code.builtin "list.extend.loop" ⟨[.ref p, .ref it, res], []⟩)) (fun fin s' => match fin with | .done f => Rr (.ok f) s' | .again c' => c'.quiet = true ∧ codeAny (model prog w) A c' Rr s') (fun e s' => Rr (.error e) s') { s with heap := h2, toks := tk } := by
    intro h2 c1 st2 k2 hS2
    refine wpAny_pure ⟨plainId_quiet F.plain_extend_loop _, codeAny_extend_loopS W.toS hn _ hf _ n 0 { s with heap := h2, toks := tk } #[] c1 rfl (Nat.zero_le _) st2 hS2 (ItemsOf.nil _) fun s' acc' c' hm hS' hacc => ?_⟩
    rw [Moved.eq_with hm]
    refine hR s'.heap s'.toks acc' c' (fun b o hb hb2 e => hm.heap b o (fun hmem => ?_) (k2 b o hb e)) hS' hacc
    rcases List.mem_cons.mp hmem with e' | hmem
    · exact hb e'
    · exact hb2 (List.mem_singleton.mp hmem)
  split
  · refine wpAny_bind (wpAny_rule ?_)
    refine wpAny_bind ?_
    show wpAny _ A.in1 (updateSeq p (·.push .none) >>= fun _ => updateSeq p (·.pop)) _ _ _
    refine wpAny_bind (wpAny_updateSeq (s := { s with toks := tk }) hS rfl ?_)
    have hS₂ := Heap.get?_update_self (Obj.mapSeq (·.push Value.none)) hS rfl
    refine wpAny_updateSeq (s := { s with heap := s.heap.update p (Obj.mapSeq (·.push Value.none)), toks := tk }) (hz := by seq_fits) hS₂ rfl ?_
    have hS₃ := Heap.get?_update_self (Obj.mapSeq (·.pop)) hS₂ rfl
    have oth : ∀ b o, b ≠ p → s.heap.get? b = some o → ((s.heap.update p (Obj.mapSeq (·.push Value.none))).update p (Obj.mapSeq (·.pop))).get? b = some o :=
      fun b o hb e => (Heap.get?_update_other _ _ (Ne.symm hb)).trans ((Heap.get?_update_other _ _ (Ne.symm hb)).trans e)
    exact loop _ _ (W.frame 0 _ _ st fun b hb o e => oth b o (fun z => hf (z ▸ hb)) e) oth hS₃
  · exact loop _ _ st (fun b o _ e => e) hS
theorem call_list_rv (W : ∀ A' : Around, A'.handled = none → Walks prog w A' it fp [it] n Pv St) (hh : A.handled = none) (st : St 0 s.heap) (keep : ∀ h h' : Heap, (∀ b o, b ∈ fp → h.get? b = some o → h'.get? b = some o) → St 0 h → St 0 h') (hti : s.TypeIs (.ref it) "reversed") (hfp : ∀ b ∈ fp, b < s.heap.objs.size) (hitf : it ∈ fp) (hn : n ≤ sizeLine)
    (hint : ∀ (A' : Around) {E : Value → Shared → Prop} {Q : Value → Shared → Prop} (s' : Shared), (∀ b o, b ∈ fp → s.heap.get? b = some o → s'.heap.get? b = some o) → (∀ u tk, s'.toks ≤ tk → Q (.int (n : Int) u) { s' with toks := tk }) → wpAny (model prog w) A' (call (.builtin "reversed.__length_hint__") [.ref it]) Q E s') {Q : Value → Shared → Prop}
    (hQ : ∀ h' tk acc' c', (∀ b o, b ≠ it → s.heap.get? b = some o → h'.get? b = some o) → h'.get? s.heap.objs.size = some { cls := .type "list", dict := none, data := .seq acc' c', slots := #[] } → ItemsOf Pv acc' n → Q (.ref s.heap.objs.size) { s with heap := h', toks := tk }) :
    wpAny (model prog w) A (call (.type "list") [.ref it]) Q E s := by
  have hSf : s.heap.objs.size ∉ fp := fun z => Nat.lt_irrefl _ (hfp _ z)
  have hSi : s.heap.objs.size ≠ it := fun z => hSf (by rw [z]; exact hitf)
  refine callType_codes (Q₁ := fun obj s₁ => obj = .ref s.heap.objs.size ∧ s₁ = { s with heap := s.heap.push { cls := .type "list", data := .seq #[] } }) F.called_list (F.typeCall_list_1 _) F.entry_list_init
    (code_list_new _ ⟨rfl, rfl⟩) fun obj s₁ h₁ => ?_
  obtain ⟨rfl, rfl⟩ := h₁
  have hS : (s.heap.push { cls := .type "list", data := .seq #[] }).get? s.heap.objs.size = some { cls := .type "list", data := .seq #[] } := Heap.get?_push_size _ rfl
  refine ⟨⟨_, hS, rfl⟩, F.args_list_init_2 _ _, ?_⟩
  show wpAny _ _ (do let old ← Builtin.List.listItems (.ref s.heap.objs.size); Builtin.List.listUpdate (.ref s.heap.objs.size) (fun _ => #[]); letGo old.toList.reverse; Builtin.List.listExtendWith (.ref s.heap.objs.size) (.ref it) .none) _ _ _
  refine wpAny_bind ?_
  unfold Builtin.List.listItems
  refine wpAny_bind (wpAny_seqItems hS rfl (wpAny_pure ?_))
  show wpAny _ _ (updateSeq s.heap.objs.size (fun _ => #[]) >>= fun _ => letGo (#[] : Array Value).toList.reverse >>= fun _ => Builtin.List.listExtendWith (.ref s.heap.objs.size) (.ref it) .none) _ _ _
  refine wpAny_bind (wpAny_updateSeq hS rfl ?_)
  have hS2 := Heap.get?_update_self (Obj.mapSeq (fun _ => (#[] : Array Value))) hS rfl
  have oth : ∀ b o, b ≠ s.heap.objs.size → s.heap.get? b = some o → ((s.heap.push { cls := .type "list", data := .seq #[] }).update s.heap.objs.size (Obj.mapSeq (fun _ => (#[] : Array Value)))).get? b = some o :=
    fun b o hb e => (Heap.get?_update_other _ _ (Ne.symm hb)).trans (Heap.get?_push_of_some _ e)
  refine wpAny_bind (wpAny_letGo ?_)
  obtain ⟨oi, hoi, hci⟩ := hti
  refine ext_rv (A := A.in1) (W _ hh) (keep _ _ (fun b o hb e => oth b o (fun z => hSf (by rw [← z]; exact hb)) e) st) ⟨oi, oth _ _ (Ne.symm hSi) hoi, hci⟩ hn (hint _ _ fun b o hb e => oth b o (fun z => hSf (by rw [← z]; exact hb)) e) _ .none _ hSi hSf hS2 fun h' tk acc' c' hk hS' hacc => ?_
  exact ⟨rfl, hQ h' tk acc' c' (fun b o hb e => hk b o (Nat.ne_of_lt (Heap.lt_size e)) hb (oth b o (Nat.ne_of_lt (Heap.lt_size e)) e)) hS' hacc⟩
end
end
theorem paired_get {α β : Type} {R : α → β → Prop} : ∀ {l : List α} {m : List β}, l.length = m.length → (∀ (i : Nat) a b, l[i]? = some a → m[i]? = some b → R a b) → Paired R l m
  | [], [], _, _ => .nil
  | a :: l, b :: m, e, h => .cons (h 0 a b rfl rfl) (paired_get (by simpa using e) fun i x y h1 h2 => h (i + 1) x y (by simpa using h1) (by simpa using h2))
  | [], _ :: _, e, _ => by simp at e
  | _ :: _, [], e, _ => by simp at e
theorem vals_back {x : Str} {acc : Array Value} (h : ItemsOf (BackAt x) acc x.length) : Vals (x.cps.toList.map fun c => V.str ⟨#[c]⟩).reverse acc.toList := by
  have hl : x.cps.toList.length = x.length := by rw [Array.length_toList]; rfl
  refine paired_get (by rw [List.length_reverse, List.length_map, hl, Array.length_toList, h.1]) fun i a b ha hb => ?_
  have hi : i < x.length := by
    have := (List.getElem?_eq_some_iff.mp hb).1
    rw [Array.length_toList, h.1] at this
    exact this
  obtain ⟨c, u, hc, rfl⟩ := h.2 i b (by rw [← Array.getElem?_toList]; exact hb)
  rw [List.getElem?_reverse (by rw [List.length_map, hl]; exact hi), List.getElem?_map, List.length_map, hl, Array.getElem?_toList, hc] at ha
  have ha := Option.some.inj ha
  subst ha
  exact ⟨u, rfl⟩
/-- list(reversed(x)), x a list, a tuple or a text: a new list -/
def tListRevA (K : PySem.W.Frag) (te : TE) : TE := fun σ H Q => te σ H fun v H1 => ∃ xs : List V, ((∃ a, v = .ref a ∧ SqL K H1 a xs) ∨ (∃ a, v = .ref a ∧ SqT K H1 a xs) ∨ (∃ x : Str, v = .str x ∧ x.length ≤ sizeLine ∧ xs = x.cps.toList.map fun c => V.str ⟨#[c]⟩)) ∧
  ∀ q, H1 q = none → Q (.ref q) (upd H1 q (.lst xs.reverse))
section
variable {X : Cx}
theorem pe_listRevA {e : Expr} {te : TE} {p p2 pos pos2 : Pos} (hc : X.calm = true) (hg : Gl X "list") (hm : X.mg "list" = none) (hg2 : Gl X "reversed") (hm2 : X.mg "reversed" = none) (he : PE X e te)
    (hs : starEach [e] X.env = (false, eval e X.env) :: starEach [] X.env)
    (hs2 : starEach [.Call (.Name "reversed" p2) [e] [] pos2] X.env = (false, eval (.Call (.Name "reversed" p2) [e] [] pos2) X.env) :: starEach [] X.env := by rfl) :
    PE X (.Call (.Name "list" p) [.Call (.Name "reversed" p2) [e] [] pos2] [] pos) (tListRevA X.K te) := by
  refine ⟨fun pins s σ H Q I h => ?_⟩
  refine Call_ (ld_blt I hg hm boot_list (PyProof.Rows.callWith_type1 (args_cons (Call_ (ld_blt I hg2 hm2 PyProof.Rows.boot_reversed (PyProof.Rows.callWith_type1 (args_cons (thn (he.run pins s σ H _ I h) fun u s1 ⟨v, H1, I1, r1, q1⟩ => args_nil ?_) hs) hs rfl))) hs2) hs2 rfl))
  obtain ⟨xs, src, q⟩ := q1
  rcases src with ⟨a, ev, hq⟩ | ⟨a, ev, hq⟩ | ⟨x, ev, hz, ex⟩
  · subst ev
    obtain rfl : u = Value.ref a := r1
    obtain ⟨its, rv, p', hz⟩ := I1.list hq
    refine call_reversed_list p'.isList (args_nil ?_)
    have hl := p'.isList
    obtain ⟨ol, hol, _⟩ := id hl
    have hne : a ≠ s1.heap.objs.size := Nat.ne_of_lt (Heap.lt_size hol)
    have hn : its.toArray.size ≤ sizeLine := by rw [List.size_toArray, ← rv.length]; exact hz
    refine call_list_rev (s := { s1 with heap := s1.heap.push (revObj a ((its.toArray.size : Int) - 1)) }) (I1.ok.hd hc) ⟨_, Heap.get?_push_size _ rfl, rfl, rfl⟩ (hl.push _) hne hn fun h' tk acc c hk hS' hi => ?_
    have sz : (s1.heap.push (revObj a ((its.toArray.size : Int) - 1))).objs.size = s1.heap.objs.size + 1 := Heap.size_push _ _
    have keep : ∀ b o, s1.heap.get? b = some o → h'.get? b = some o := fun b o e => hk b o (Nat.ne_of_lt (Heap.lt_size e)) (Heap.get?_push_of_some _ e)
    refine ⟨.ref (s1.heap.push (revObj a ((its.toArray.size : Int) - 1))).objs.size, upd H1 (s1.heap.push (revObj a ((its.toArray.size : Int) - 1))).objs.size (.lst xs.reverse), I1.laid (t' := tk) keep (by rw [sz]; exact Nat.le_succ _) (show ObjOk X.prog X.w _ _ _ (.lst xs.reverse) from ⟨by rw [List.length_reverse]; exact hz, acc.toList, c, vals_rev rv hi, ?_⟩), rfl, q _ (I1.hok.fresh (by rw [sz]; exact Nat.le_succ _))⟩
    rw [Array.toArray_toList]
    exact hS'
  · subst ev
    obtain rfl : u = Value.ref a := r1
    obtain ⟨its, rv, p', hz⟩ := I1.tuple hq
    have hn : its.toArray.size ≤ sizeLine := by rw [List.size_toArray, ← rv.length]; exact hz
    have hn2 : (its.toArray.size : Int) < 2 ^ 63 := by have := hn; rw [sizeLine_eq] at this; omega
    refine call_reversed_tup p' (fun A E Q k => len_tuple p' hn2 k) (args_nil ?_)
    obtain ⟨ol, hol, _⟩ := id p'
    have hne : a ≠ s1.heap.objs.size := Nat.ne_of_lt (Heap.lt_size hol)
    have sz : (s1.heap.push (rtObj a ((its.toArray.size : Int) - 1))).objs.size = s1.heap.objs.size + 1 := Heap.size_push _ _
    have tp : IsTup (s1.heap.push (rtObj a ((its.toArray.size : Int) - 1))) a its.toArray := let ⟨o, ho, r⟩ := p'; ⟨o, Heap.get?_push_of_some _ ho, r⟩
    refine call_list_rv (s := { s1 with heap := s1.heap.push (rtObj a ((its.toArray.size : Int) - 1)), toks := s1.toks + 1 + 1 }) (fun A' hA => walks_rt (prog := X.prog) (w := X.w) hA s1.heap.objs.size a its.toArray hne hn) (I1.ok.hd hc) ⟨⟨_, Heap.get?_push_size _ rfl, rfl, by simp [rtObj]⟩, tp⟩
      (fun h h' k st => ⟨st.1.at fun o e => k _ o (by simp) e, let ⟨o, ho, r⟩ := st.2; ⟨o, k _ o (by simp) ho, r⟩⟩) ⟨_, Heap.get?_push_size _ rfl, rfl⟩ (fun b hb => ?_) (by simp) hn (fun A' E Q s' k fin => ?_) fun h' tk acc c hk hS' hi => ?_
    · rw [show ({ s1 with heap := s1.heap.push (rtObj a ((its.toArray.size : Int) - 1)), toks := s1.toks + 1 + 1 } : Shared).heap.objs.size = s1.heap.objs.size + 1 from sz]
      rcases List.mem_cons.mp hb with z | z
      · rw [z]; exact Nat.lt_succ_self _
      · rw [List.mem_singleton.mp z]; exact Nat.lt_succ_of_lt (Heap.lt_size hol)
    · have tp' : IsTup s'.heap a its.toArray := let ⟨o, ho, r⟩ := tp; ⟨o, k a o (by simp) ho, r⟩
      exact call_hint (v := .ref a) ⟨_, k _ _ (by simp) (Heap.get?_push_size _ rfl), rfl, rfl⟩ rfl (fun A E Q k => len_tuple tp' hn2 k) fin
    · have keep : ∀ b o, s1.heap.get? b = some o → h'.get? b = some o := fun b o e => hk b o (Nat.ne_of_lt (Heap.lt_size e)) (Heap.get?_push_of_some _ e)
      refine ⟨.ref (s1.heap.push (rtObj a ((its.toArray.size : Int) - 1))).objs.size, upd H1 (s1.heap.push (rtObj a ((its.toArray.size : Int) - 1))).objs.size (.lst xs.reverse), I1.laid (t' := tk) keep (by rw [sz]; exact Nat.le_succ _) (show ObjOk X.prog X.w _ _ _ (.lst xs.reverse) from ⟨by rw [List.length_reverse]; exact hz, acc.toList, c, vals_rev rv hi, ?_⟩), rfl, q _ (I1.hok.fresh (by rw [sz]; exact Nat.le_succ _))⟩
      rw [Array.toArray_toList]
      exact hS'
  · subst ev
    obtain ⟨t0, rfl⟩ := r1
    refine call_rev_str hz (args_nil ?_)
    have hl : x.cps.toList.length = x.length := by rw [Array.length_toList]; rfl
    have sz : (s1.heap.push (rvObj (.str x t0) ((x.length : Int) - 1))).objs.size = s1.heap.objs.size + 1 := Heap.size_push _ _
    have hn2 : ¬ (x.length : Int) ≥ 2 ^ 63 := by have := hz; rw [sizeLine_eq] at this; omega
    refine call_list_rv (s := { s1 with heap := s1.heap.push (rvObj (.str x t0) ((x.length : Int) - 1)), toks := s1.toks + 1 + 1 }) (fun A' hA => walks_rs (prog := X.prog) (w := X.w) hA s1.heap.objs.size x t0 hz) (I1.ok.hd hc) ⟨_, Heap.get?_push_size _ rfl, rfl, by simp [rvObj]⟩
      (fun h h' k st => st.at fun o e => k _ o (by simp) e) ⟨_, Heap.get?_push_size _ rfl, rfl⟩ (fun b hb => ?_) (by simp) hz (fun A' E Q s' k fin => ?_) fun h' tk acc c hk hS' hi => ?_
    · rw [show ({ s1 with heap := s1.heap.push (rvObj (.str x t0) ((x.length : Int) - 1)), toks := s1.toks + 1 + 1 } : Shared).heap.objs.size = s1.heap.objs.size + 1 from sz, List.mem_singleton.mp hb]
      exact Nat.lt_succ_self _
    · exact call_hint (v := .str x t0) ⟨_, k _ _ (by simp) (Heap.get?_push_size _ rfl), rfl, rfl⟩ rfl (fun A E Q k => PyProof.Rows.len_str hn2 k) fin
    · have keep : ∀ b o, s1.heap.get? b = some o → h'.get? b = some o := fun b o e => hk b o (Nat.ne_of_lt (Heap.lt_size e)) (Heap.get?_push_of_some _ e)
      subst ex
      refine ⟨.ref (s1.heap.push (rvObj (.str x t0) ((x.length : Int) - 1))).objs.size, upd H1 (s1.heap.push (rvObj (.str x t0) ((x.length : Int) - 1))).objs.size (.lst (x.cps.toList.map fun c => V.str ⟨#[c]⟩).reverse), I1.laid (t' := tk) keep (by rw [sz]; exact Nat.le_succ _) (show ObjOk X.prog X.w _ _ _ (.lst _) from ⟨by rw [List.length_reverse, List.length_map, hl]; exact hz, acc.toList, c, vals_back hi, ?_⟩), rfl, q _ (I1.hok.fresh (by rw [sz]; exact Nat.le_succ _))⟩
      rw [Array.toArray_toList]
      exact hS'
end
end LR
/-! PV1: plain data D, how the abstract heap bears it (Rep: nothing of it is changed any more; RepO: its lists may still be changed), the ghost of a running body (Rel). -/
namespace PV
open PySem L2

/-- the written part of the heap, the world (how texts are hashed) -/
structure KW where
  fr : PySem.W.Frag
  wd : World
instance : Coe KW PySem.W.Frag := ⟨KW.fr⟩
abbrev kwOf (X : Cx) : KW := ⟨X.K, X.w⟩
/-! ### data -/
inductive D where
  | non | bl (b : Bool) | int (i : Int) | str (s : List Nat)
  | tup (xs : List D) | lst (xs : List D) | dic (ks vs : List D) | scr (ns : List Int) | frz (d : D) | err (c : Nat) (fs : List D) | obj (c : Nat) (fs : List D)
  deriving Inhabited

/-- a text that the machine bears -/
def okS (s : List Nat) : Prop := s.length ≤ sizeLine ∧ ∀ c ∈ s, c < 0x110000
instance (s : List Nat) : Decidable (okS s) := by unfold okS; exact inferInstance
abbrev mkS (s : List Nat) : Str := ⟨s.toArray⟩

/-! ### dicts -/
mutual
/-- a key, as the hash sees it -/
def nk : D → NestedKey
  | .int i => .num i
  | .str s => .text (mkS s)
  | .tup xs => .tup (nks xs)
  | _ => .none
def nks : List D → List NestedKey
  | [] => []
  | x :: xs => nk x :: nks xs
end
/-- the entries: keys, as data and as they lie, values as they lie -/
def Ents (w : World) : List DictEntry → List D → List V → List V → Prop
  | [], [], [], [] => True
  | e :: es, k :: ks, u :: us, v :: vs => e.hash = (nk k).hash w ∧ RelV u e.key ∧ RelV v e.val ∧ Ents w es ks us vs
  | _, _, _, _ => False
/-- at a stands the dict ob: these keys, these values -/
def DicP (w : World) (a : Addr) (ob : Obj) (ks : List D) (us vs : List V) (h : Heap) : Prop :=
  (a == sysModules) = false ∧ ks.length ≤ sizeLine ∧ ks.Nodup ∧ h.get? a = some ob ∧ ob.ExactDict ∧ ∃ ar ep, ob.data = .dict ar ep ∧ Ents w ar.toList ks us vs
def DicO (w : World) (a : Addr) (ob : Obj) (ks : List D) (us vs : List V) : HO := .ext (DicP w a ob ks us vs)

/-! ### data in the heap, at rest -/
mutual
inductive Rep (K : KW) (F : Hp) : V → D → Prop
  | non : Rep K F .non .non
  | bl (b : Bool) : Rep K F (.bl b) (.bl b)
  | int (i : Int) : Rep K F (.int i) (.int i)
  | str (s : List Nat) (h : okS s) : Rep K F (.str (mkS s)) (.str s)
  | tup {a : Addr} {vs : List V} {ds : List D} : SqT K F a vs → Reps K F vs ds → Rep K F (.ref a) (.tup ds)
  | lst {a : Addr} {vs : List V} {ds : List D} : Rd F a (.lst vs) → Reps K F vs ds → Rep K F (.ref a) (.lst ds)
  | scr {a : Addr} (ns : List Int) : SqL K F a (ns.map V.int) → Rep K F (.ref a) (.scr ns)
  | dic {a : Addr} {ob : Obj} {us ws : List V} {ks vs : List D} : Rd F a (DicO K.wd a ob ks us ws) → Reps K F us ks → Reps K F ws vs → Rep K F (.ref a) (.dic ks vs)
  | frz {v : V} {d : D} : Rep K F v d → Rep K F v (.frz d)
inductive Reps (K : KW) (F : Hp) : List V → List D → Prop
  | nil : Reps K F [] []
  | cons {v : V} {d : D} {vs : List V} {ds : List D} : Rep K F v d → Reps K F vs ds → Reps K F (v :: vs) (d :: ds)
end

theorem same_rd {H H' : Hp} {a : Addr} {u : HO} (e : Same H H') (h : Rd H a u) : Rd H' a u := by
  rcases h with h | ⟨o, h⟩
  · exact .inl (e a _ h)
  · exact .inr ⟨o, e a _ h⟩
theorem same_t {K : KW} {H H' : Hp} {a : Addr} {xs : List V} (e : Same H H') (h : SqT K H a xs) : SqT K H' a xs := by
  rcases h with h | h
  · refine .inl ?_
    rcases h with h | ⟨o, h⟩
    · exact .inl (e a _ h)
    · exact .inr ⟨o, e a _ h⟩
  · exact .inr h

theorem same_l {K : KW} {H H' : Hp} {a : Addr} {xs : List V} (e : Same H H') (h : SqL K H a xs) : SqL K H' a xs := by
  rcases h with h | h
  · refine .inl ?_
    rcases h with h | ⟨o, h⟩
    · exact .inl (e a _ h)
    · exact .inr ⟨o, e a _ h⟩
  · exact .inr h
section
variable {K : KW} {F F' H H' : Hp}
mutual
theorem Rep.mono (e : Same F F') : ∀ (d : D) (v : V), Rep K F v d → Rep K F' v d
  | .non, _, h => by cases h; exact .non
  | .bl _, _, h => by cases h; exact .bl _
  | .int _, _, h => by cases h; exact .int _
  | .str _, _, h => by
    cases h with
    | str s h => exact .str _ h
  | .tup ds, _, h => by
    cases h with
    | tup h1 h2 => exact .tup (same_t e h1) (Reps.mono e ds _ h2)
  | .lst ds, _, h => by
    cases h with
    | lst h1 h2 => exact .lst (same_rd e h1) (Reps.mono e ds _ h2)
  | .dic ks vs, _, h => by
    cases h with
    | dic h1 h2 h3 => exact .dic (same_rd e h1) (Reps.mono e ks _ h2) (Reps.mono e vs _ h3)
  | .scr _, _, h => by
    cases h with
    | scr ns h => exact .scr _ (same_l e h)
  | .frz d, _, h => by
    cases h with
    | frz h => exact .frz (Rep.mono e d _ h)
  | .err _ _, _, h => by cases h
  | .obj _ _, _, h => by cases h
theorem Reps.mono (e : Same F F') : ∀ (ds : List D) (vs : List V), Reps K F vs ds → Reps K F' vs ds
  | [], _, h => by cases h; exact .nil
  | d :: ds, _, h => by
    cases h with
    | cons h1 h2 => exact .cons (Rep.mono e d _ h1) (Reps.mono e ds _ h2)
end
theorem Rep.up {v : V} {d : D} (h : Rep K F v d) (e : Same F F') : Rep K F' v d := Rep.mono e d v h
theorem Reps.up {vs : List V} {ds : List D} (h : Reps K F vs ds) (e : Same F F') : Reps K F' vs ds := Reps.mono e ds vs h
theorem Reps.length : ∀ {vs : List V} {ds : List D}, Reps K F vs ds → vs.length = ds.length
  | [], _, h => by cases h; rfl
  | v :: vs, _, h => by
    cases h with
    | cons _ h2 => exact congrArg Nat.succ (Reps.length h2)
theorem Reps.get : ∀ {vs : List V} {ds : List D} {i : Nat} {d : D}, Reps K F vs ds → ds[i]? = some d → ∃ v, vs[i]? = some v ∧ Rep K F v d
  | _, _, _, _, .nil, e => by simp at e
  | _, _, 0, _, .cons r _, e => by simp at e; subst e; exact ⟨_, rfl, r⟩
  | _, _, i + 1, _, .cons _ t, e => by
    obtain ⟨v, h1, h2⟩ := Reps.get (i := i) t (by simpa using e)
    exact ⟨v, by simpa using h1, h2⟩
theorem Reps.getV : ∀ {vs : List V} {ds : List D} {i : Nat} {v : V}, Reps K F vs ds → vs[i]? = some v → ∃ d, ds[i]? = some d ∧ Rep K F v d
  | _, _, _, _, .nil, e => by simp at e
  | _, _, 0, _, .cons r _, e => by simp at e; subst e; exact ⟨_, rfl, r⟩
  | _, _, i + 1, _, .cons _ t, e => by
    obtain ⟨v, h1, h2⟩ := Reps.getV (i := i) t (by simpa using e)
    exact ⟨v, by simpa using h1, h2⟩
theorem Reps.append : ∀ {vs ws : List V} {ds es : List D}, Reps K F vs ds → Reps K F ws es → Reps K F (vs ++ ws) (ds ++ es)
  | _, _, _, _, .nil, s => s
  | _, _, _, _, .cons r t, s => .cons r (Reps.append t s)
theorem Reps.take : ∀ {vs : List V} {ds : List D} (n : Nat), Reps K F vs ds → Reps K F (vs.take n) (ds.take n)
  | _, _, 0, _ => .nil
  | _, _, _ + 1, .nil => .nil
  | _, _, n + 1, .cons r t => .cons r (Reps.take n t)
theorem Reps.drop : ∀ {vs : List V} {ds : List D} (n : Nat), Reps K F vs ds → Reps K F (vs.drop n) (ds.drop n)
  | _, _, 0, r => r
  | _, _, _ + 1, .nil => .nil
  | _, _, n + 1, .cons _ t => Reps.drop n t
theorem Reps.reverse {vs : List V} {ds : List D} (h : Reps K F vs ds) : Reps K F vs.reverse ds.reverse := by
  induction vs generalizing ds with
  | nil => cases h; exact .nil
  | cons v vs ih =>
    cases h with
    | cons h1 h2 =>
      rw [List.reverse_cons, List.reverse_cons]
      exact (ih h2).append (.cons h1 .nil)
theorem Reps.set : ∀ {vs : List V} {ds : List D} (i : Nat) {v : V} {d : D}, Reps K F vs ds → Rep K F v d → Reps K F (vs.set i v) (ds.set i d)
  | _, _, _, _, _, .nil, _ => .nil
  | _, _, 0, _, _, .cons _ t, r => .cons r t
  | _, _, i + 1, _, _, .cons q t, r => .cons q (Reps.set i t r)
theorem Reps.eraseIdx : ∀ {vs : List V} {ds : List D} (i : Nat), Reps K F vs ds → Reps K F (vs.eraseIdx i) (ds.eraseIdx i)
  | _, _, _, .nil => .nil
  | _, _, 0, .cons _ t => t
  | _, _, i + 1, .cons q t => .cons q (Reps.eraseIdx i t)
theorem Reps.insertIdx : ∀ {vs : List V} {ds : List D} (i : Nat) {v : V} {d : D}, Reps K F vs ds → Rep K F v d → Reps K F (vs.insertIdx i v) (ds.insertIdx i d)
  | _, _, 0, _, _, t, r => by simpa using Reps.cons r t
  | _, _, i + 1, _, _, .nil, r => by simpa using Reps.nil
  | _, _, i + 1, _, _, .cons q t, r => by simpa using Reps.cons q (Reps.insertIdx i t r)
theorem Reps.dropLast {vs : List V} {ds : List D} (h : Reps K F vs ds) : Reps K F vs.dropLast ds.dropLast := by
  rw [List.dropLast_eq_take, List.dropLast_eq_take, h.length]
  exact h.take _
end

/-! ### data in the heap whose lists may still be changed, n levels deep -/
def RepL (R : V → D → List Addr → Prop) : List V → List D → List Addr → Prop
  | [], [], fp => fp = []
  | v :: vs, d :: ds, fp => ∃ f1 f2, R v d f1 ∧ RepL R vs ds f2 ∧ fp = f1 ++ f2
  | _, _, _ => False
def RepO (K : KW) (F H : Hp) : Nat → V → D → List Addr → Prop
  | 0, v, d, fp => Rep K F v d ∧ fp = []
  | n + 1, v, d, fp => match d with
    | .lst ds => ∃ p vs f, v = .ref p ∧ H p = some (.lst vs) ∧ RepL (RepO K F H n) vs ds f ∧ fp = p :: f
    | .tup ds => ∃ p vs, v = .ref p ∧ SqT K F p vs ∧ RepL (RepO K F H n) vs ds fp
    | .dic ks ds => ∃ p ob us ws f, v = .ref p ∧ H p = some (DicO K.wd p ob ks us ws) ∧ Reps K F us ks ∧ RepL (RepO K F H n) ws ds f ∧ fp = p :: f
    | d => Rep K F v d ∧ fp = []
theorem RepL.imp {R R' : V → D → List Addr → Prop} (h : ∀ v d f, R v d f → R' v d f) : ∀ {vs : List V} {ds : List D} {fp : List Addr}, RepL R vs ds fp → RepL R' vs ds fp
  | [], [], _, e => e
  | _ :: _, _ :: _, _, ⟨f1, f2, h1, h2, e⟩ => ⟨f1, f2, h _ _ _ h1, RepL.imp h h2, e⟩
  | [], _ :: _, _, e => e.elim
  | _ :: _, [], _, e => e.elim
section
variable {K : KW} {F F' H H' : Hp}
theorem RepO.mono (eF : Same F F') (eH : Same H H') : ∀ (n : Nat) {v : V} {d : D} {fp : List Addr}, RepO K F H n v d fp → RepO K F' H' n v d fp
  | 0, v, d, fp, h => ⟨h.1.up eF, h.2⟩
  | n + 1, v, d, fp, h => by
    cases d with
    | lst ds =>
      obtain ⟨p, vs, f, e1, e2, h, e⟩ := h
      exact ⟨p, vs, f, e1, eH p _ e2, h.imp fun _ _ _ => RepO.mono eF eH n, e⟩
    | tup ds =>
      obtain ⟨p, vs, e1, e2, h⟩ := h
      exact ⟨p, vs, e1, same_t eF e2, h.imp fun _ _ _ => RepO.mono eF eH n⟩
    | dic ks ds =>
      obtain ⟨p, ob, us, ws, f, e1, e2, e3, h, e⟩ := h
      exact ⟨p, ob, us, ws, f, e1, eH p _ e2, e3.up eF, h.imp fun _ _ _ => RepO.mono eF eH n, e⟩
    | frz _ => exact ⟨h.1.up eF, h.2⟩
    | err _ _ => exact ⟨h.1.up eF, h.2⟩
    | obj _ _ => exact ⟨h.1.up eF, h.2⟩
    | non => exact ⟨h.1.up eF, h.2⟩
    | bl _ => exact ⟨h.1.up eF, h.2⟩
    | int _ => exact ⟨h.1.up eF, h.2⟩
    | str _ => exact ⟨h.1.up eF, h.2⟩
    | scr _ => exact ⟨h.1.up eF, h.2⟩
theorem RepL.mem {R : V → D → List Addr → Prop} {P : Addr → Prop} (h : ∀ v d f, R v d f → ∀ p ∈ f, P p) : ∀ {vs : List V} {ds : List D} {fp : List Addr}, RepL R vs ds fp → ∀ p ∈ fp, P p
  | [], [], _, e, p, hp => by
    have e : _ = [] := e
    rw [e] at hp; cases hp
  | _ :: _, _ :: _, _, ⟨f1, f2, h1, h2, e⟩, p, hp => by
    rw [e] at hp
    rcases List.mem_append.mp hp with hp | hp
    · exact h _ _ _ h1 p hp
    · exact RepL.mem h h2 p hp
  | [], _ :: _, _, e, _, _ => e.elim
  | _ :: _, [], _, e, _, _ => e.elim
/-- what may be one's own: a list, a dict -/
def Mu : HO → Prop
  | .lst _ => True
  | .ext _ => True
  | _ => False
/-- the footprint stands in the heap -/
theorem RepO.there : ∀ (n : Nat) {v : V} {d : D} {fp : List Addr}, RepO K F H n v d fp → ∀ p ∈ fp, ∃ o, H p = some o ∧ Mu o
  | 0, v, d, fp, h, p, hp => by rw [h.2] at hp; cases hp
  | n + 1, v, d, fp, h, p, hp => by
    cases d with
    | lst ds =>
      obtain ⟨q, vs, f, e1, e2, h, e⟩ := h
      rw [e] at hp
      rcases List.mem_cons.mp hp with rfl | hp
      · exact ⟨_, e2, trivial⟩
      · exact h.mem (fun _ _ _ => RepO.there n) p hp
    | tup ds =>
      obtain ⟨q, vs, e1, e2, h⟩ := h
      exact h.mem (fun _ _ _ => RepO.there n) p hp
    | dic ks ds =>
      obtain ⟨q, ob, us, ws, f, e1, e2, e3, h, e⟩ := h
      rw [e] at hp
      rcases List.mem_cons.mp hp with rfl | hp
      · exact ⟨_, e2, trivial⟩
      · exact h.mem (fun _ _ _ => RepO.there n) p hp
    | frz _ => rw [h.2] at hp; cases hp
    | err _ _ => rw [h.2] at hp; cases hp
    | obj _ _ => rw [h.2] at hp; cases hp
    | non => rw [h.2] at hp; cases hp
    | bl _ => rw [h.2] at hp; cases hp
    | int _ => rw [h.2] at hp; cases hp
    | str _ => rw [h.2] at hp; cases hp
    | scr _ => rw [h.2] at hp; cases hp
theorem RepL.imp' {R R' : V → D → List Addr → Prop} {fa : List Addr} (h : ∀ v d f, (∀ p ∈ f, p ∈ fa) → R v d f → R' v d f) : ∀ {vs : List V} {ds : List D} {fp : List Addr}, (∀ p ∈ fp, p ∈ fa) → RepL R vs ds fp → RepL R' vs ds fp
  | [], [], _, _, e => e
  | _ :: _, _ :: _, _, hs, ⟨f1, f2, h1, h2, e⟩ => by
    subst e
    exact ⟨f1, f2, h _ _ _ (fun p hp => hs p (List.mem_append_left _ hp)) h1, RepL.imp' h (fun p hp => hs p (List.mem_append_right _ hp)) h2, rfl⟩
  | [], _ :: _, _, _, e => e.elim
  | _ :: _, [], _, _, e => e.elim
/-- a write elsewhere -/
theorem RepO.other {q : Addr} {o : HO} : ∀ (n : Nat) {v : V} {d : D} {fp : List Addr}, q ∉ fp → RepO K F H n v d fp → RepO K F (upd H q o) n v d fp
  | 0, v, d, fp, _, h => h
  | n + 1, v, d, fp, hq, h => by
    cases d with
    | lst ds =>
      obtain ⟨p, vs, f, e1, e2, h, e⟩ := h
      subst e
      refine ⟨p, vs, f, e1, by rw [upd_ne fun z => hq (by rw [z]; exact List.mem_cons_self)]; exact e2, h.imp' (fa := f) (fun v d f' hs hr => RepO.other n (fun z => hq (List.mem_cons_of_mem _ (hs _ z))) hr) (fun _ z => z), rfl⟩
    | tup ds =>
      obtain ⟨p, vs, e1, e2, h⟩ := h
      exact ⟨p, vs, e1, e2, h.imp' (fa := fp) (fun v d f' hs hr => RepO.other n (fun z => hq (hs _ z)) hr) (fun _ z => z)⟩
    | dic ks ds =>
      obtain ⟨p, ob, us, ws, f, e1, e2, e3, h, e⟩ := h
      subst e
      refine ⟨p, ob, us, ws, f, e1, by rw [upd_ne fun z => hq (by rw [z]; exact List.mem_cons_self)]; exact e2, e3, h.imp' (fa := f) (fun v d f' hs hr => RepO.other n (fun z => hq (List.mem_cons_of_mem _ (hs _ z))) hr) (fun _ z => z), rfl⟩
    | frz _ => exact h
    | err _ _ => exact h
    | obj _ _ => exact h
    | non => exact h
    | bl _ => exact h
    | int _ => exact h
    | str _ => exact h
    | scr _ => exact h
/-- brought to rest -/
def rest (F H : Hp) (fp : List Addr) : Hp := fun a => if a ∈ fp then H a else F a
theorem RepL.reps {R : V → D → List Addr → Prop} {P : List Addr} (h : ∀ v d f, (∀ p ∈ f, p ∈ P) → R v d f → Rep K F' v d) : ∀ {vs : List V} {ds : List D} {fp : List Addr}, (∀ p ∈ fp, p ∈ P) → RepL R vs ds fp → Reps K F' vs ds
  | [], [], _, _, _ => .nil
  | _ :: _, _ :: _, _, hs, ⟨f1, f2, h1, h2, e⟩ => by
    subst e
    exact .cons (h _ _ _ (fun p hp => hs p (List.mem_append_left _ hp)) h1) (RepL.reps h (fun p hp => hs p (List.mem_append_right _ hp)) h2)
  | [], _ :: _, _, _, e => e.elim
  | _ :: _, [], _, _, e => e.elim
theorem RepO.rep {fa : List Addr} (eF : Same F (rest F H fa)) : ∀ (n : Nat) {v : V} {d : D} {fp : List Addr}, (∀ p ∈ fp, p ∈ fa) → RepO K F H n v d fp → Rep K (rest F H fa) v d
  | 0, v, d, fp, _, h => h.1.up eF
  | n + 1, v, d, fp, hs, h => by
    cases d with
    | lst ds =>
      obtain ⟨p, vs, f, e1, e2, h, e⟩ := h
      subst e1 e
      refine .lst (.inl ?_) (h.reps (P := fa) (fun v d f hf hr => RepO.rep eF n hf hr) fun q hq => hs q (List.mem_cons_of_mem _ hq))
      unfold rest
      rw [if_pos (hs p List.mem_cons_self)]
      exact e2
    | tup ds =>
      obtain ⟨p, vs, e1, e2, h⟩ := h
      subst e1
      exact .tup (same_t eF e2) (h.reps (P := fa) (fun v d f hf hr => RepO.rep eF n hf hr) hs)
    | dic ks ds =>
      obtain ⟨p, ob, us, ws, f, e1, e2, e3, h, e⟩ := h
      subst e1 e
      refine .dic (ob := ob) (.inl ?_) (e3.up eF) (h.reps (P := fa) (fun v d f hf hr => RepO.rep eF n hf hr) fun q hq => hs q (List.mem_cons_of_mem _ hq))
      unfold rest
      rw [if_pos (hs p List.mem_cons_self)]
      exact e2
    | frz _ => exact h.1.up eF
    | err _ _ => exact h.1.up eF
    | obj _ _ => exact h.1.up eF
    | non => exact h.1.up eF
    | bl _ => exact h.1.up eF
    | int _ => exact h.1.up eF
    | str _ => exact h.1.up eF
    | scr _ => exact h.1.up eF
theorem repL0 : ∀ {vs : List V} {ds : List D} {fp : List Addr}, RepL (RepO K F H 0) vs ds fp ↔ Reps K F vs ds ∧ fp = []
  | [], [], fp => ⟨fun e => ⟨.nil, e⟩, fun e => e.2⟩
  | v :: vs, d :: ds, fp => ⟨fun ⟨f1, f2, h1, h2, e⟩ => by
      obtain ⟨h3, e3⟩ := repL0.mp h2
      obtain ⟨h1, e1⟩ := h1
      exact ⟨.cons h1 h3, by rw [e, e1, e3]; rfl⟩, fun ⟨h, e⟩ => by
      cases h with
      | cons h1 h2 => exact ⟨[], [], ⟨h1, rfl⟩, repL0.mpr ⟨h2, rfl⟩, e⟩⟩
  | [], _ :: _, _ => ⟨fun e => e.elim, fun ⟨h, _⟩ => by cases h⟩
  | _ :: _, [], _ => ⟨fun e => e.elim, fun ⟨h, _⟩ => by cases h⟩
/-- whatever is known of it, its reading in the whole heap -/
theorem RepO.seen (sF : Same F H) : ∀ (n : Nat) {v : V} {d : D} {fp : List Addr}, RepO K F H n v d fp → Rep K H v d
  | 0, v, d, fp, h => h.1.up sF
  | n + 1, v, d, fp, h => by
    cases d with
    | lst ds =>
      obtain ⟨p, vs, f, e1, e2, h, e⟩ := h
      subst e1
      exact .lst (.inl e2) (h.reps (P := f) (fun v d f' _ hr => RepO.seen sF n hr) fun _ z => z)
    | tup ds =>
      obtain ⟨p, vs, e1, e2, h⟩ := h
      subst e1
      exact .tup (same_t sF e2) (h.reps (P := fp) (fun v d f' _ hr => RepO.seen sF n hr) fun _ z => z)
    | dic ks ds =>
      obtain ⟨p, ob, us, ws, f, e1, e2, e3, h, e⟩ := h
      subst e1
      exact .dic (.inl e2) (e3.up sF) (h.reps (P := f) (fun v d f' _ hr => RepO.seen sF n hr) fun _ z => z)
    | frz _ => exact h.1.up sF
    | err _ _ => exact h.1.up sF
    | obj _ _ => exact h.1.up sF
    | non => exact h.1.up sF
    | bl _ => exact h.1.up sF
    | int _ => exact h.1.up sF
    | str _ => exact h.1.up sF
    | scr _ => exact h.1.up sF
end
end PV
/-! PV2: the ghost of a running body. -/
namespace PV
open PySem L2

abbrev Env := List (Option D)
/-- a value on the way: own = it alone holds its lists (n levels deep), else another holds them -/
structure Cell where
  own : Bool
  n : Nat
  v : V
  d : D
/-- H0: what stood at the entry; F: what is at rest; T: how deep each name holds its lists (none: it is let go); tau: values on the way; rho: the names' data -/
structure Gh where
  H0 : Hp
  F0 : Hp
  F : Hp
  T : List (Option Nat)
  tau : List Cell
  rho : Env

def CellOk (K : KW) (F H : Hp) (P B : Addr → Prop) (c : Cell) : Prop := ∃ fp, RepO K F H c.n c.v c.d fp ∧ fp.Nodup ∧ (c.own = true → ∀ p ∈ fp, P p) ∧ ∀ p ∈ fp, B p
/-- owned by something, or at rest -/
def TB (ow : Addr → Option Nat) (F : Hp) (q : Addr) : Prop := ow q ≠ none ∨ F q ≠ none
/-- the values on the way have the owners N, N + 1, .. from the eldest on -/
def Temps (K : KW) (F H : Hp) (ow : Addr → Option Nat) (N : Nat) : List Cell → Prop
  | [] => True
  | c :: r => CellOk K F H (fun p => ow p = some (N + r.length)) (TB ow F) c ∧ Temps K F H ow N r
def Names (K : KW) (F H : Hp) (ow : Addr → Option Nat) (T : List (Option Nat)) (rho : Env) (σ : L2.St) : Prop :=
  ∀ (i n : Nat) (d : D), T[i]? = some (some n) → rho[i]? = some (some d) → ∃ v, σ[i]? = some (some v) ∧ CellOk K F H (fun p => ow p = some i) (fun _ => True) ⟨true, n, v, d⟩
structure Rel (K : KW) (g : Gh) (σ : L2.St) (H : Hp) : Prop where
  s0 : Same g.F0 g.F
  sF : Same g.F H
  sH : Same g.H0 H
  fr : ∀ p, g.F p ≠ none → g.F0 p ≠ none ∨ g.H0 p = none
  ow : ∃ ow : Addr → Option Nat, (∀ p k, ow p = some k → g.H0 p = none ∧ g.F p = none ∧ H p ≠ none) ∧ Names K g.F H ow g.T g.rho σ ∧ Temps K g.F H ow g.rho.length g.tau
  l1 : σ.length = g.rho.length
  l2 : g.T.length = g.rho.length

section
variable {K : KW} {F F' H H' : Hp} {P P' B B' : Addr → Prop} {c : Cell} {ow ow' : Addr → Option Nat} {g : Gh} {σ : L2.St} {v : V} {d : D}
theorem TB.mono {q : Addr} (eF : Same F F') (h : TB ow F q) : TB ow F' q := h.imp id fun z w => z (eF.free w)
theorem CellOk.mono (eF : Same F F') (eH : Same H H') (hb : ∀ q, B q → B' q) (h : CellOk K F H P B c) : CellOk K F' H' P B' c := by
  obtain ⟨fp, h1, h2, h3, h4⟩ := h
  exact ⟨fp, h1.mono eF eH _, h2, h3, fun q hq => hb q (h4 q hq)⟩
theorem CellOk.imp (hp : ∀ p, P p → P' p) (hb : ∀ q, B q → B' q) (h : CellOk K F H P B c) : CellOk K F H P' B' c := by
  obtain ⟨fp, h1, h2, h3, h4⟩ := h
  exact ⟨fp, h1, h2, fun e p hm => hp p (h3 e p hm), fun q hq => hb q (h4 q hq)⟩
theorem cell0 {b : Bool} (h : Rep K F v d) : CellOk K F H P B ⟨b, 0, v, d⟩ := ⟨[], ⟨h, rfl⟩, List.nodup_nil, fun _ _ z => (nomatch z), fun _ z => (nomatch z)⟩
theorem CellOk.rep0 {b : Bool} (h : CellOk K F H P B ⟨b, 0, v, d⟩) : Rep K F v d := by
  obtain ⟨fp, h1, _, _⟩ := h
  exact h1.1
theorem CellOk.seen (sF : Same F H) (h : CellOk K F H P B c) : Rep K H c.v c.d := by
  obtain ⟨fp, h1, _, _⟩ := h
  exact h1.seen sF _
theorem Temps.mono (eF : Same F F') (eH : Same H H') {N : Nat} : ∀ {l : List Cell}, Temps K F H ow N l → Temps K F' H' ow N l
  | [], _ => trivial
  | c :: r, h => ⟨h.1.mono eF eH fun q z => z.mono eF, Temps.mono eF eH h.2⟩
theorem Names.mono (eF : Same F F') (eH : Same H H') {T : List (Option Nat)} {rho : Env} (h : Names K F H ow T rho σ) : Names K F' H' ow T rho σ := fun i n d e1 e2 => by
  obtain ⟨v, e, h⟩ := h i n d e1 e2
  exact ⟨v, e, h.mono eF eH fun _ z => z⟩
/-- the owners of all but what k owns are as ahead -/
theorem Temps.owned {N k : Nat} (ho : ∀ p j, j ≠ k → ow p = some j → ow' p = some j) (hb : ∀ q, TB ow F q → TB ow' F q) : ∀ {l : List Cell}, N + l.length ≤ k → Temps K F H ow N l → Temps K F H ow' N l
  | [], _, _ => trivial
  | c :: r, hl, h => by
    have hl' : N + (r.length + 1) ≤ k := hl
    exact ⟨h.1.imp (fun p e => ho p _ (by omega) e) hb, Temps.owned ho hb (by omega) h.2⟩
theorem Temps.owned_lo {N k : Nat} (hk : k < N) (ho : ∀ p j, j ≠ k → ow p = some j → ow' p = some j) (hb : ∀ q, TB ow F q → TB ow' F q) : ∀ {l : List Cell}, Temps K F H ow N l → Temps K F H ow' N l
  | [], _ => trivial
  | c :: r, h => ⟨h.1.imp (fun p e => ho p _ (by omega) e) hb, Temps.owned_lo hk ho hb h.2⟩
theorem Names.owned {T : List (Option Nat)} {rho : Env} {k : Nat} (hk : rho.length ≤ k) (ho : ∀ p j, j ≠ k → ow p = some j → ow' p = some j) (h : Names K F H ow T rho σ) : Names K F H ow' T rho σ := fun i n d e1 e2 => by
  obtain ⟨v, e, h⟩ := h i n d e1 e2
  have hi : i < rho.length := (List.getElem?_eq_some_iff.mp e2).1
  exact ⟨v, e, h.imp (fun p q => ho p _ (by omega) q) fun _ z => z⟩

/-! ### steps of the ghost -/
abbrev Gh.on (g : Gh) (F : Hp) (tau : List Cell) : Gh := { g with F := F, tau := tau }
theorem Rel.name (R : Rel K g σ H) {i n : Nat} (e1 : g.T[i]? = some (some n)) (e2 : g.rho[i]? = some (some d)) : ∃ v, σ[i]? = some (some v) := by
  obtain ⟨ow, _, hn, _⟩ := R.ow
  obtain ⟨v, e, _⟩ := hn i n d e1 e2
  exact ⟨v, e⟩
/-- what a name holds, as another's -/
theorem Rel.bor (R : Rel K g σ H) {i n : Nat} (e1 : g.T[i]? = some (some n)) (e2 : g.rho[i]? = some (some d)) (ev : σ[i]? = some (some v)) : Rel K { g with tau := ⟨n == 0, n, v, d⟩ :: g.tau } σ H := by
  obtain ⟨ow, h1, h2, h3⟩ := R.ow
  refine ⟨R.s0, R.sF, R.sH, R.fr, ⟨ow, h1, h2, ?_, h3⟩, R.l1, R.l2⟩
  obtain ⟨w, e, fp, r, nd, hp, _⟩ := h2 i n d e1 e2
  rw [ev] at e
  have ew : v = w := by simpa using e
  subst ew
  refine ⟨fp, r, nd, fun z => ?_, fun q hq => .inl (by rw [show ow q = some i from hp rfl q hq]; exact fun z => nomatch z)⟩
  have z : (n == 0) = true := z
  have z : n = 0 := by simpa using z
  subst z
  have r : Rep K g.F v d ∧ fp = [] := r
  rw [r.2]
  exact fun p hp => nomatch hp
/-- a name lets go what it holds -/
theorem Rel.move (R : Rel K g σ H) {i n : Nat} (e1 : g.T[i]? = some (some n)) (e2 : g.rho[i]? = some (some d)) (ev : σ[i]? = some (some v)) : Rel K { g with T := g.T.set i none, tau := ⟨true, n, v, d⟩ :: g.tau } σ H := by
  obtain ⟨ow, h1, h2, h3⟩ := R.ow
  have hi : i < g.rho.length := (List.getElem?_eq_some_iff.mp e2).1
  obtain ⟨w, e, fp, r, nd, hp, _⟩ := h2 i n d e1 e2
  rw [ev] at e
  have ew : v = w := by simpa using e
  subst ew
  have hb : ∀ q, TB ow g.F q → TB (fun p => if ow p = some i then some (g.rho.length + g.tau.length) else ow p) g.F q := fun q z => z.imp (fun z w => by
    have w : (if ow q = some i then some (g.rho.length + g.tau.length) else ow q) = none := w
    split at w
    · cases w
    · exact z w) id
  have ho : ∀ p j, j ≠ i → ow p = some j → (if ow p = some i then some (g.rho.length + g.tau.length) else ow p) = some j := fun p j hj e => by
    rw [if_neg (by rw [e]; intro z; exact hj (Option.some.inj z)), e]
  refine ⟨R.s0, R.sF, R.sH, R.fr, ⟨fun p => if ow p = some i then some (g.rho.length + g.tau.length) else ow p, fun p k e => ?_, fun j m d' f1 f2 => ?_, ?_, ?_⟩, R.l1, by simpa using R.l2⟩
  · by_cases z : ow p = some i
    · exact h1 p i z
    · exact h1 p k (by simpa [z] using e)
  · have hj : j ≠ i := fun z => by
      subst z
      have f1 : (g.T.set j none)[j]? = some (some m) := f1
      rw [List.getElem?_set] at f1
      split at f1
      · split at f1 <;> cases f1
      · exact absurd rfl ‹_›
    have f1 : (g.T.set i none)[j]? = some (some m) := f1
    rw [List.getElem?_set_ne (Ne.symm hj)] at f1
    obtain ⟨u, eu, hu⟩ := h2 j m d' f1 f2
    exact ⟨u, eu, hu.imp (fun p q => ho p j hj q) fun _ z => z⟩
  · exact ⟨fp, r, nd, fun _ p q => by show (if ow p = some i then _ else _) = _; rw [if_pos (hp rfl p q)], fun p q => .inl (by show (if ow p = some i then _ else _) ≠ none; rw [if_pos (hp rfl p q)]; exact fun z => nomatch z)⟩
  · exact Temps.owned_lo hi ho hb h3
theorem Rel.pop {c : Cell} {r : List Cell} (R : Rel K { g with tau := c :: r } σ H) : Rel K { g with tau := r } σ H := by
  obtain ⟨ow, h1, h2, h3⟩ := R.ow
  exact ⟨R.s0, R.sF, R.sH, R.fr, ⟨ow, h1, h2, h3.2⟩, R.l1, R.l2⟩
/-- a value at rest -/
theorem Rel.push0 {r : List Cell} (R : Rel K { g with tau := r } σ H) (h : Rep K g.F v d) : Rel K { g with tau := ⟨true, 0, v, d⟩ :: r } σ H := by
  obtain ⟨ow, h1, h2, h3⟩ := R.ow
  exact ⟨R.s0, R.sF, R.sH, R.fr, ⟨ow, h1, h2, cell0 h, h3⟩, R.l1, R.l2⟩
theorem Rel.head (R : Rel K { g with tau := c :: g.tau } σ H) : Rep K H c.v c.d := by
  obtain ⟨ow, h1, h2, h3⟩ := R.ow
  exact h3.1.seen R.sF
theorem Rel.head2 {c' : Cell} {r : List Cell} (R : Rel K { g with tau := c :: c' :: r } σ H) : Rep K H c'.v c'.d := by
  obtain ⟨ow, h1, h2, h3⟩ := R.ow
  exact h3.2.1.seen R.sF
theorem Rel.head0 {b : Bool} {r : List Cell} (R : Rel K { g with tau := ⟨b, 0, v, d⟩ :: r } σ H) : Rep K g.F v d := by
  obtain ⟨ow, h1, h2, h3⟩ := R.ow
  exact h3.1.rep0
/-- brought to rest -/
theorem Rel.rest {n : Nat} {r : List Cell} (R : Rel K { g with tau := ⟨true, n, v, d⟩ :: r } σ H) : ∃ F', Rel K { g with F := F', tau := ⟨true, 0, v, d⟩ :: r } σ H ∧ Same g.F F' := by
  obtain ⟨ow, h1, h2, ⟨fp, r0, nd, hp, _⟩, h3⟩ := R.ow
  have hp : ∀ p ∈ fp, ow p = some (g.rho.length + r.length) := hp rfl
  have eF : Same g.F (PV.rest g.F H fp) := fun a o e => by
    unfold PV.rest
    by_cases ha : a ∈ fp
    · rw [if_pos ha]; exact R.sF a o e
    · rw [if_neg ha]; exact e
  have ho : ∀ p j, j ≠ g.rho.length + r.length → ow p = some j → (if p ∈ fp then none else ow p) = some j := fun p j hj e => by
    rw [if_neg fun z => hj (by rw [hp p z] at e; exact (Option.some.inj e).symm), e]
  refine ⟨PV.rest g.F H fp, ⟨R.s0.trans eF, fun a o e => ?_, R.sH, fun p q => ?_, ⟨fun p => if p ∈ fp then none else ow p, fun p k e => ?_, ?_, ?_, ?_⟩, R.l1, R.l2⟩, eF⟩
  · have e : PV.rest g.F H fp a = some o := e
    unfold PV.rest at e
    by_cases ha : a ∈ fp
    · rw [if_pos ha] at e; exact e
    · rw [if_neg ha] at e; exact R.sF a o e
  · by_cases ha : p ∈ fp
    · exact .inr (h1 p _ (hp p ha)).1
    · refine R.fr p fun z => q ?_
      show PV.rest g.F H fp p = none
      unfold PV.rest
      rw [if_neg ha]; exact z
  · by_cases ha : p ∈ fp
    · simp [ha] at e
    · have e : ow p = some k := by simpa [ha] using e
      obtain ⟨a1, a2, a3⟩ := h1 p k e
      refine ⟨a1, ?_, a3⟩
      show PV.rest g.F H fp p = none
      unfold PV.rest
      rw [if_neg ha]; exact a2
  · exact (Names.owned (k := g.rho.length + r.length) (Nat.le_add_right _ _) ho h2).mono eF (Same.refl H)
  · exact cell0 (r0.rep eF _ fun _ z => z)
  · refine Temps.owned (k := g.rho.length + r.length) ho (fun q z => ?_) (Nat.le_refl _) (h3.mono eF (Same.refl H))
    by_cases hq : q ∈ fp
    · refine .inr fun w => ?_
      have w : PV.rest g.F H fp q = none := w
      unfold PV.rest at w
      rw [if_pos hq] at w
      obtain ⟨vs, e, _⟩ := r0.there _ q hq
      rw [w] at e; cases e
    · exact z.imp (fun z w => z (by
        have w : (if q ∈ fp then none else ow q) = none := w
        rw [if_neg hq] at w; exact w)) id
theorem Rel.free (R : Rel K g σ H) {p : Addr} (hp : H p = none) : g.H0 p = none ∧ g.F p = none := ⟨R.sH.free hp, R.sF.free hp⟩
/-- a new list of values at rest, on top -/
theorem Rel.newList {r : List Cell} {p : Addr} {vs : List V} {ds : List D} (R : Rel K { g with tau := r } σ H) (hp : H p = none) (h : Reps K g.F vs ds) : Rel K { g with tau := ⟨true, 1, .ref p, .lst ds⟩ :: r } σ (upd H p (.lst vs)) := by
  obtain ⟨ow, h1, h2, h3⟩ := R.ow
  have eH : Same H (upd H p (.lst vs)) := fun a o e => by rw [upd_ne (ne_of_none e hp)]; exact e
  have np : ow p = none := by
    cases e : ow p with
    | none => rfl
    | some k => exact absurd hp (h1 p k e).2.2
  have ho : ∀ q j, j ≠ g.rho.length + r.length → ow q = some j → (if q = p then some (g.rho.length + r.length) else ow q) = some j := fun q j _ e => by
    rw [if_neg fun z => by rw [z, np] at e; exact (nomatch e), e]
  refine ⟨R.s0, R.sF.trans eH, R.sH.trans eH, R.fr, ⟨fun q => if q = p then some (g.rho.length + r.length) else ow q, fun q k e => ?_, ?_, ?_, ?_⟩, R.l1, R.l2⟩
  · by_cases hq : q = p
    · subst hq
      exact ⟨(R.free hp).1, (R.free hp).2, by rw [upd_same]; exact fun z => nomatch z⟩
    · have e : ow q = some k := by simpa [hq] using e
      obtain ⟨a1, a2, a3⟩ := h1 q k e
      exact ⟨a1, a2, by rw [upd_ne hq]; exact a3⟩
  · exact (Names.owned (k := g.rho.length + r.length) (Nat.le_add_right _ _) ho h2).mono (Same.refl _) eH
  · exact ⟨[p], ⟨p, vs, [], rfl, upd_same, repL0.mpr ⟨h, rfl⟩, rfl⟩, by simp, fun _ q hq => by
      have e : q = p := by simpa using hq
      show (if q = p then _ else _) = _
      rw [if_pos e], fun q hq => .inl (by
      have e : q = p := by simpa using hq
      show (if q = p then _ else _) ≠ none
      rw [if_pos e]; exact fun z => nomatch z)⟩
  · refine (Temps.owned (k := g.rho.length + r.length) ho (fun q z => z.imp (fun z w => z ?_) id) (Nat.le_refl _) h3).mono (Same.refl _) eH
    have w : (if q = p then some (g.rho.length + r.length) else ow q) = none := w
    split at w
    · cases w
    · exact w
/-- a new thing of one's own, on top -/
theorem Rel.newOwn {r : List Cell} {p : Addr} {o : HO} {d : D} {n : Nat} (R : Rel K { g with tau := r } σ H) (hp : H p = none) (h : RepO K g.F (upd H p o) n (.ref p) d [p]) : Rel K { g with tau := ⟨true, n, .ref p, d⟩ :: r } σ (upd H p o) := by
  obtain ⟨ow, h1, h2, h3⟩ := R.ow
  have eH : Same H (upd H p o) := fun a o e => by rw [upd_ne (ne_of_none e hp)]; exact e
  have np : ow p = none := by
    cases e : ow p with
    | none => rfl
    | some k => exact absurd hp (h1 p k e).2.2
  have ho : ∀ q j, j ≠ g.rho.length + r.length → ow q = some j → (if q = p then some (g.rho.length + r.length) else ow q) = some j := fun q j _ e => by
    rw [if_neg fun z => by rw [z, np] at e; exact (nomatch e), e]
  refine ⟨R.s0, R.sF.trans eH, R.sH.trans eH, R.fr, ⟨fun q => if q = p then some (g.rho.length + r.length) else ow q, fun q k e => ?_, ?_, ?_, ?_⟩, R.l1, R.l2⟩
  · by_cases hq : q = p
    · subst hq
      exact ⟨(R.free hp).1, (R.free hp).2, by rw [upd_same]; exact fun z => nomatch z⟩
    · have e : ow q = some k := by simpa [hq] using e
      obtain ⟨a1, a2, a3⟩ := h1 q k e
      exact ⟨a1, a2, by rw [upd_ne hq]; exact a3⟩
  · exact (Names.owned (k := g.rho.length + r.length) (Nat.le_add_right _ _) ho h2).mono (Same.refl _) eH
  · exact ⟨[p], h, by simp, fun _ q hq => by
      have e : q = p := by simpa using hq
      show (if q = p then _ else _) = _
      rw [if_pos e], fun q hq => .inl (by
      have e : q = p := by simpa using hq
      show (if q = p then _ else _) ≠ none
      rw [if_pos e]; exact fun z => nomatch z)⟩
  · refine (Temps.owned (k := g.rho.length + r.length) ho (fun q z => z.imp (fun z w => z ?_) id) (Nat.le_refl _) h3).mono (Same.refl _) eH
    have w : (if q = p then some (g.rho.length + r.length) else ow q) = none := w
    split at w
    · cases w
    · exact w
/-- a new tuple of values at rest, on top -/
theorem Rel.newTup {r : List Cell} {p : Addr} {vs : List V} {ds : List D} (R : Rel K { g with tau := r } σ H) (hp : H p = none) (h : Reps K g.F vs ds) : Rel K { g with F := upd g.F p (.tup vs), tau := ⟨true, 0, .ref p, .tup ds⟩ :: r } σ (upd H p (.tup vs)) := by
  obtain ⟨ow, h1, h2, h3⟩ := R.ow
  have eH : Same H (upd H p (.tup vs)) := fun a o e => by rw [upd_ne (ne_of_none e hp)]; exact e
  have eF : Same g.F (upd g.F p (.tup vs)) := fun a o e => by rw [upd_ne (ne_of_none e (R.free hp).2)]; exact e
  refine ⟨R.s0.trans eF, fun a o e => ?_, R.sH.trans eH, fun q hq => ?_, ⟨ow, fun q k e => ?_, h2.mono eF eH, cell0 (.tup (SqT.of upd_same) (h.up eF)), h3.mono eF eH⟩, R.l1, R.l2⟩
  · have e : upd g.F p (.tup vs) a = some o := e
    by_cases ha : a = p
    · subst ha; rw [upd_same] at e ⊢; exact e
    · rw [upd_ne ha] at e ⊢; exact R.sF a o e
  · by_cases hqp : q = p
    · subst hqp; exact .inr (R.free hp).1
    · have hq : upd g.F p (.tup vs) q ≠ none := hq
      rw [upd_ne hqp] at hq
      exact R.fr q hq
  · obtain ⟨a1, a2, a3⟩ := h1 q k e
    have hqp : q ≠ p := fun z => a3 (by rw [z]; exact hp)
    exact ⟨a1, by show upd g.F p _ q = none; rw [upd_ne hqp]; exact a2, by rw [upd_ne hqp]; exact a3⟩
/-- the heap has grown by things that are nobody's -/
theorem Rel.grow (R : Rel K g σ H) (eH : Same H H') : Rel K g σ H' := by
  obtain ⟨ow, h1, h2, h3⟩ := R.ow
  exact ⟨R.s0, R.sF.trans eH, R.sH.trans eH, R.fr, ⟨ow, fun p k e => ⟨(h1 p k e).1, (h1 p k e).2.1, fun z => (h1 p k e).2.2 (eH.free z)⟩, h2.mono (Same.refl _) eH, h3.mono (Same.refl _) eH⟩, R.l1, R.l2⟩
/-- a callee has come back: more is at rest, of what is new; its value v, n levels of it its own and new -/
theorem Rel.called {n : Nat} {r : List Cell} {fp : List Addr} (R : Rel K { g with tau := r } σ H) (eH : Same H H') (eF : Same g.F F') (sF : Same F' H') (fr : ∀ p, F' p ≠ none → g.F p ≠ none ∨ H p = none)
    (h : RepO K F' H' n v d fp) (nd : fp.Nodup) (hn : ∀ p ∈ fp, F' p = none ∧ H p = none) : Rel K { g with F := F', tau := ⟨true, n, v, d⟩ :: r } σ H' := by
  obtain ⟨ow, h1, h2, h3⟩ := R.ow
  have np : ∀ p k, ow p = some k → p ∉ fp := fun p k e z => (h1 p k e).2.2 (hn p z).2
  have ho : ∀ q j, j ≠ g.rho.length + r.length → ow q = some j → (if q ∈ fp then some (g.rho.length + r.length) else ow q) = some j := fun q j _ e => by
    rw [if_neg (np q j e), e]
  refine ⟨R.s0.trans eF, sF, R.sH.trans eH, fun p hp => ?_, ⟨fun q => if q ∈ fp then some (g.rho.length + r.length) else ow q, fun q k e => ?_, ?_, ?_, ?_⟩, R.l1, R.l2⟩
  · rcases fr p hp with z | z
    · exact R.fr p z
    · exact .inr (R.sH.free z)
  · by_cases hq : q ∈ fp
    · have ⟨a1, a2⟩ := hn q hq
      refine ⟨R.sH.free a2, a1, fun z => ?_⟩
      obtain ⟨vs, e, _⟩ := h.there _ q hq
      rw [z] at e; cases e
    · have e : ow q = some k := by simpa [hq] using e
      obtain ⟨a1, a2, a3⟩ := h1 q k e
      refine ⟨a1, ?_, fun z => a3 (eH.free z)⟩
      show F' q = none
      cases z : F' q with
      | none => rfl
      | some o =>
        rcases fr q (by rw [z]; exact fun w => nomatch w) with y | y
        · exact absurd a2 y
        · exact absurd y a3
  · exact (Names.owned (k := g.rho.length + r.length) (Nat.le_add_right _ _) ho h2).mono eF eH
  · exact ⟨fp, h, nd, fun _ q hq => by show (if q ∈ fp then _ else _) = _; rw [if_pos hq], fun q hq => .inl (by show (if q ∈ fp then _ else _) ≠ none; rw [if_pos hq]; exact fun z => nomatch z)⟩
  · refine (Temps.owned (k := g.rho.length + r.length) ho (fun q z => z.imp (fun z w => z ?_) id) (Nat.le_refl _) h3).mono eF eH
    have w : (if q ∈ fp then some (g.rho.length + r.length) else ow q) = none := w
    split at w
    · cases w
    · exact w
/-- the top value is stored at a name -/
theorem Rel.store {n i : Nat} {r : List Cell} (R : Rel K { g with tau := ⟨true, n, v, d⟩ :: r } σ H) (hi : i < g.rho.length) (hr : r = []) : Rel K { g with T := g.T.set i (some n), tau := r, rho := g.rho.set i (some d) } (σ.set i (some v)) H := by
  obtain ⟨ow, h1, h2, ⟨fp, r0, nd, hp, _⟩, h3⟩ := R.ow
  have hp : ∀ p ∈ fp, ow p = some (g.rho.length + r.length) := hp rfl
  subst hr
  refine ⟨R.s0, R.sF, R.sH, R.fr, ⟨fun q => if q ∈ fp then some i else if ow q = some i then none else ow q, fun q k e => ?_, fun j m d' f1 f2 => ?_, ?_⟩, by simpa using R.l1, by simpa using R.l2⟩
  · by_cases hq : q ∈ fp
    · exact h1 q _ (hp q hq)
    · have e : (if ow q = some i then none else ow q) = some k := by simpa [hq] using e
      by_cases hz : ow q = some i
      · rw [if_pos hz] at e; cases e
      · rw [if_neg hz] at e
        exact h1 q k e
  · have f1 : (g.T.set i (some n))[j]? = some (some m) := f1
    have f2 : (g.rho.set i (some d))[j]? = some (some d') := f2
    by_cases hj : j = i
    · subst hj
      have lT : j < g.T.length := by have := R.l2; have e : g.T.length = g.rho.length := this; omega
      have lσ : j < σ.length := by have e : σ.length = g.rho.length := R.l1; omega
      rw [List.getElem?_set_self lT] at f1
      rw [List.getElem?_set_self hi] at f2
      have e1 : n = m := by simpa using f1
      have e2 : d = d' := by simpa using f2
      subst e1 e2
      exact ⟨v, List.getElem?_set_self lσ, fp, r0, nd, fun _ q hq => by show (if q ∈ fp then _ else _) = _; rw [if_pos hq], fun _ _ => trivial⟩
    · rw [List.getElem?_set_ne (Ne.symm hj)] at f1 f2
      obtain ⟨u, eu, hu⟩ := h2 j m d' f1 f2
      refine ⟨u, by rw [List.getElem?_set_ne (Ne.symm hj)]; exact eu, hu.imp (fun q e => ?_) fun _ z => z⟩
      have hjl : j < g.rho.length := (List.getElem?_eq_some_iff.mp f2).1
      have e : ow q = some j := e
      show (if q ∈ fp then _ else _) = _
      rw [if_neg fun z => by
        have hw := hp q z
        rw [e] at hw
        have hx : j = g.rho.length + 0 := Option.some.inj hw
        omega, if_neg (by rw [e]; exact fun z => hj (Option.some.inj z)), e]
  · trivial
/-- a name's own list is changed to another of values at rest -/
theorem Rel.write1 {i : Nat} {p : Addr} {vs' : List V} {ds ds' : List D} (R : Rel K g σ H) (e1 : g.T[i]? = some (some 1)) (e2 : g.rho[i]? = some (some (.lst ds))) (ev : σ[i]? = some (some (.ref p)))
    (ht : g.tau = []) (h : Reps K g.F vs' ds') : Rel K { g with rho := g.rho.set i (some (.lst ds')) } σ (upd H p (.lst vs')) := by
  obtain ⟨ow, h1, h2, h3⟩ := R.ow
  have hi : i < g.rho.length := (List.getElem?_eq_some_iff.mp e2).1
  obtain ⟨w, e, fp, r0, nd, hp, _⟩ := h2 i 1 _ e1 e2
  have hp' : ∀ p ∈ fp, ow p = some i := hp rfl
  clear hp
  rw [ev] at e
  have ew : V.ref p = w := by simpa using e
  subst ew
  obtain ⟨p', vs, f, q1, q2, q3, q4⟩ := r0
  have : p = p' := by injection q1
  subst this
  obtain ⟨q3, qf⟩ := repL0.mp q3
  subst qf q4
  have op : ow p = some i := hp' p (by simp)
  obtain ⟨a1, a2, a3⟩ := h1 p i op
  have eF : Same g.F (upd H p (.lst vs')) := fun a o e => by
    rw [upd_ne fun z => by rw [z, a2] at e; cases e]
    exact R.sF a o e
  refine ⟨R.s0, eF, fun a o e => ?_, R.fr, ⟨ow, fun q k e => ?_, fun j m d' f1 f2 => ?_, ?_⟩, by simpa using R.l1, by simpa using R.l2⟩
  · rw [upd_ne fun z => by rw [z, a1] at e; cases e]
    exact R.sH a o e
  · obtain ⟨b1, b2, b3⟩ := h1 q k e
    refine ⟨b1, b2, ?_⟩
    by_cases hq : q = p
    · subst hq; rw [upd_same]; exact fun z => nomatch z
    · rw [upd_ne hq]; exact b3
  · have f2 : (g.rho.set i (some (.lst ds')))[j]? = some (some d') := f2
    by_cases hj : j = i
    · subst hj
      rw [List.getElem?_set_self hi] at f2
      have f1 : g.T[j]? = some (some m) := f1
      rw [e1] at f1
      have x1 : 1 = m := by simpa using f1
      have x2 : D.lst ds' = d' := by simpa using f2
      subst x1 x2
      exact ⟨.ref p, ev, [p], ⟨p, vs', [], rfl, upd_same, repL0.mpr ⟨h, rfl⟩, rfl⟩, by simp, fun _ q hq => by
        have e : q = p := by simpa using hq
        rw [e]; exact op, fun _ _ => trivial⟩
    · rw [List.getElem?_set_ne (Ne.symm hj)] at f2
      obtain ⟨u, eu, fp', r', nd', hp', hb'⟩ := h2 j m d' f1 f2
      refine ⟨u, eu, fp', r'.other m (fun z => ?_), nd', hp', hb'⟩
      have hw : ow p = some j := hp' rfl p z
      rw [op] at hw
      exact hj (Option.some.inj hw).symm
  · show Temps K g.F _ ow _ g.tau
    rw [ht]
    trivial

/-- something of a name's own is changed -/
theorem Rel.writeG {i n : Nat} {d0 : D} {v : V} {Goal : Prop} (R : Rel K g σ H) (e1 : g.T[i]? = some (some n)) (e2 : g.rho[i]? = some (some d0)) (ev : σ[i]? = some (some v)) (ht : g.tau = [])
    (k : ∀ fp, RepO K g.F H n v d0 fp → fp.Nodup → (∀ p o' d', p ∈ fp → RepO K g.F (upd H p o') n v d' fp → Rel K { g with rho := g.rho.set i (some d') } σ (upd H p o')) → Goal) : Goal := by
  obtain ⟨ow, h1, h2, h3⟩ := R.ow
  have hi : i < g.rho.length := (List.getElem?_eq_some_iff.mp e2).1
  obtain ⟨w, e, fp, r0, nd, hp, _⟩ := h2 i n _ e1 e2
  have hp' : ∀ p ∈ fp, ow p = some i := hp rfl
  clear hp
  rw [ev] at e
  have ew : v = w := by simpa using e
  subst ew
  refine k fp r0 nd fun p o' d' hpf hr => ?_
  have op : ow p = some i := hp' p hpf
  obtain ⟨a1, a2, a3⟩ := h1 p i op
  have eF : Same g.F (upd H p o') := fun a o e => by
    rw [upd_ne fun z => by rw [z, a2] at e; cases e]
    exact R.sF a o e
  refine ⟨R.s0, eF, fun a o e => ?_, R.fr, ⟨ow, fun q k e => ?_, fun j m d2 f1 f2 => ?_, ?_⟩, by simpa using R.l1, by simpa using R.l2⟩
  · rw [upd_ne fun z => by rw [z, a1] at e; cases e]
    exact R.sH a o e
  · obtain ⟨b1, b2, b3⟩ := h1 q k e
    refine ⟨b1, b2, ?_⟩
    by_cases hq : q = p
    · subst hq; rw [upd_same]; exact fun z => nomatch z
    · rw [upd_ne hq]; exact b3
  · have f2 : (g.rho.set i (some d'))[j]? = some (some d2) := f2
    by_cases hj : j = i
    · subst hj
      rw [List.getElem?_set_self hi] at f2
      have f1 : g.T[j]? = some (some m) := f1
      rw [e1] at f1
      have x1 : n = m := by simpa using f1
      have x2 : d' = d2 := by simpa using f2
      subst x1 x2
      exact ⟨v, ev, fp, hr, nd, fun _ q hq => hp' q hq, fun _ _ => trivial⟩
    · rw [List.getElem?_set_ne (Ne.symm hj)] at f2
      obtain ⟨u, eu, fp', r', nd', hp2, hb'⟩ := h2 j m d2 f1 f2
      refine ⟨u, eu, fp', r'.other m (fun z => ?_), nd', hp2, hb'⟩
      have hw : ow p = some j := hp2 rfl p z
      rw [op] at hw
      exact hj (Option.some.inj hw).symm
  · show Temps K g.F _ ow _ g.tau
    rw [ht]
    trivial

/-! ### a list in the making, beside all else -/
abbrev Gh.pin (g : Gh) (p : Addr) (o : HO) : Gh := { g with H0 := upd g.H0 p o }
theorem Names.other {q : Addr} {o : HO} {T : List (Option Nat)} {rho : Env} (nq : ∀ k, ow q ≠ some k) (h : Names K F H ow T rho σ) : Names K F (upd H q o) ow T rho σ := fun i n d e1 e2 => by
  obtain ⟨v, e, fp, r, nd, hp, hb⟩ := h i n d e1 e2
  exact ⟨v, e, fp, r.other n (fun z => nq i (hp rfl q z)), nd, hp, hb⟩
theorem Temps.other {q : Addr} {o : HO} (nq : ow q = none) (nf : F q = none) {N : Nat} : ∀ {l : List Cell}, Temps K F H ow N l → Temps K F (upd H q o) ow N l
  | [], _ => trivial
  | c :: r, h => by
    obtain ⟨⟨fp, r0, nd, hp, hb⟩, h⟩ := h
    exact ⟨⟨fp, r0.other _ (fun z => (hb q z).elim (fun w => w nq) fun w => w nf), nd, hp, hb⟩, Temps.other nq nf h⟩
theorem Rel.pinNew {p : Addr} {o : HO} (R : Rel K g σ H) (hp : H p = none) : Rel K (g.pin p o) σ (upd H p o) := by
  obtain ⟨ow, h1, h2, h3⟩ := R.ow
  obtain ⟨a1, a2⟩ := R.free hp
  have np : ow p = none := by
    cases e : ow p with
    | none => rfl
    | some k => exact absurd hp (h1 p k e).2.2
  have eH : Same H (upd H p o) := fun a u e => by rw [upd_ne (ne_of_none e hp)]; exact e
  refine ⟨R.s0, R.sF.trans eH, fun a u e => ?_, fun q hq => ?_, ⟨ow, fun q k e => ?_, h2.mono (Same.refl _) eH, h3.mono (Same.refl _) eH⟩, R.l1, R.l2⟩
  · have e : upd g.H0 p o a = some u := e
    by_cases ha : a = p
    · subst ha; rw [upd_same] at e ⊢; exact e
    · rw [upd_ne ha] at e ⊢; exact R.sH a u e
  · have hq : g.F q ≠ none := hq
    have hqp : q ≠ p := fun z => by rw [z] at hq; exact hq a2
    rcases R.fr q hq with z | z
    · exact .inl z
    · exact .inr (by show upd g.H0 p o q = none; rw [upd_ne hqp]; exact z)
  · have hqp : q ≠ p := fun z => by rw [z, np] at e; cases e
    obtain ⟨b1, b2, b3⟩ := h1 q k e
    exact ⟨by show upd g.H0 p o q = none; rw [upd_ne hqp]; exact b1, b2, by rw [upd_ne hqp]; exact b3⟩
theorem Rel.pinAt {p : Addr} {o : HO} (R : Rel K (g.pin p o) σ H) : H p = some o := R.sH p o upd_same
theorem Rel.pinF {p : Addr} {o : HO} (R : Rel K (g.pin p o) σ H) (f0 : g.F0 p = none) : g.F p = none := by
  cases e : g.F p with
  | none => rfl
  | some u =>
    rcases R.fr p (by rw [show (g.pin p o).F p = some u from e]; exact fun z => nomatch z) with z | z
    · exact absurd f0 z
    · have z : upd g.H0 p o p = none := z
      rw [upd_same] at z; cases z
theorem Rel.pinWrite {p : Addr} {o o' : HO} (R : Rel K (g.pin p o) σ H) (f0 : g.F0 p = none) : Rel K (g.pin p o') σ (upd H p o') := by
  have a2 := R.pinF f0
  obtain ⟨ow, h1, h2, h3⟩ := R.ow
  have nk : ∀ k, ow p ≠ some k := fun k e => by
    have z : upd g.H0 p o p = none := (h1 p k e).1
    rw [upd_same] at z; cases z
  have np : ow p = none := by
    cases e : ow p with
    | none => rfl
    | some k => exact absurd e (nk k)
  refine ⟨R.s0, fun a u e => ?_, fun a u e => ?_, fun q hq => ?_, ⟨ow, fun q k e => ?_, h2.other nk, h3.other np a2⟩, R.l1, R.l2⟩
  · have e : g.F a = some u := e
    rw [upd_ne fun z => by rw [z, a2] at e; cases e]
    exact R.sF a u e
  · have e : upd g.H0 p o' a = some u := e
    by_cases ha : a = p
    · subst ha; rw [upd_same] at e ⊢; exact e
    · rw [upd_ne ha] at e ⊢
      exact R.sH a u (by show upd g.H0 p o a = some u; rw [upd_ne ha]; exact e)
  · have hq : g.F q ≠ none := hq
    have hqp : q ≠ p := fun z => by rw [z] at hq; exact hq a2
    rcases R.fr q hq with z | z
    · exact .inl z
    · refine .inr ?_
      have z : upd g.H0 p o q = none := z
      show upd g.H0 p o' q = none
      rw [upd_ne hqp] at z ⊢; exact z
  · have hqp : q ≠ p := fun z => by rw [z, np] at e; cases e
    obtain ⟨b1, b2, b3⟩ := h1 q k e
    have b1 : upd g.H0 p o q = none := b1
    refine ⟨?_, b2, by rw [upd_ne hqp]; exact b3⟩
    show upd g.H0 p o' q = none
    rw [upd_ne hqp] at b1 ⊢; exact b1
/-- it is made: a value on the way -/
theorem Rel.pinDone {p : Addr} {vs : List V} {ds : List D} (R : Rel K (g.pin p (.lst vs)) σ H) (f0 : g.F0 p = none) (h0 : g.H0 p = none) (h : Reps K g.F vs ds) : Rel K { g with tau := ⟨true, 1, .ref p, .lst ds⟩ :: g.tau } σ H := by
  have a2 := R.pinF f0
  have at_ := R.pinAt
  obtain ⟨ow, h1, h2, h3⟩ := R.ow
  have nk : ∀ k, ow p ≠ some k := fun k e => by
    have z : upd g.H0 p (.lst vs) p = none := (h1 p k e).1
    rw [upd_same] at z; cases z
  have np : ow p = none := by
    cases e : ow p with
    | none => rfl
    | some k => exact absurd e (nk k)
  have ho : ∀ q j, j ≠ g.rho.length + g.tau.length → ow q = some j → (if q = p then some (g.rho.length + g.tau.length) else ow q) = some j := fun q j _ e => by
    rw [if_neg fun z => by rw [z, np] at e; exact (nomatch e), e]
  have down : ∀ q, q ≠ p → upd g.H0 p (.lst vs) q = none → g.H0 q = none := fun q hq z => by rw [upd_ne hq] at z; exact z
  refine ⟨R.s0, R.sF, fun a u e => ?_, fun q hq => ?_, ⟨fun q => if q = p then some (g.rho.length + g.tau.length) else ow q, fun q k e => ?_, Names.owned (k := g.rho.length + g.tau.length) (Nat.le_add_right _ _) ho h2, ?_, ?_⟩, R.l1, R.l2⟩
  · have e : g.H0 a = some u := e
    have ha : a ≠ p := fun z => by rw [z, h0] at e; cases e
    exact R.sH a u (by show upd g.H0 p (.lst vs) a = some u; rw [upd_ne ha]; exact e)
  · have hq : g.F q ≠ none := hq
    have hqp : q ≠ p := fun z => by rw [z] at hq; exact hq a2
    exact (R.fr q hq).imp id (down q hqp)
  · by_cases hq : q = p
    · subst hq
      exact ⟨h0, a2, by rw [at_]; exact fun z => nomatch z⟩
    · have e : ow q = some k := by simpa [hq] using e
      obtain ⟨b1, b2, b3⟩ := h1 q k e
      exact ⟨down q hq b1, b2, b3⟩
  · exact ⟨[p], ⟨p, vs, [], rfl, at_, repL0.mpr ⟨h, rfl⟩, rfl⟩, by simp, fun _ q hq => by
      have e : q = p := by simpa using hq
      show (if q = p then _ else _) = _
      rw [if_pos e], fun q hq => .inl (by
      have e : q = p := by simpa using hq
      show (if q = p then _ else _) ≠ none
      rw [if_pos e]; exact fun z => nomatch z)⟩
  · refine Temps.owned (k := g.rho.length + g.tau.length) ho (fun q z => z.imp (fun z w => z ?_) id) (Nat.le_refl _) h3
    have w : (if q = p then some (g.rho.length + g.tau.length) else ow q) = none := w
    split at w
    · cases w
    · exact w
end
end PV
/-! SS1: a set of data, made from a list or a text and told sorted; what is asked of one more member stands open (AddOk). -/
namespace SS
open PySem PySem.Spec PyProof.Rows L2 PySem.W

/-- the set's table -/
structure SB (w : World) (h : Heap) (a : Addr) (es : Array (Int × Value)) (ep : Nat) (t : SetTable) : Prop where
  ob : ∃ o, h.get? a = some o ∧ o.ExactSet ∧ o.data = .set es ep t
  fits : t.fits es.size = true
  ris : Ris t.place.toList
  led : w.params.followText "set-order" = true ∨ t.led = true
  few : es.size < scanBound
abbrev Lk := Int × Value → PyData → Prop
abbrev Tk := SetTable → List Int → Prop
/-- a set whose members are ds -/
def SetG (w : World) (L : Lk) (T : Tk) (h : Heap) (a : Addr) (ds : List PyData) : Prop :=
  ∃ es ep t, SB w h a es ep t ∧ EachIs L es.toList ds ∧ ds.Nodup ∧ T t (es.toList.map Prod.fst)
theorem SetG.at {w : World} {L : Lk} {T : Tk} {h h' : Heap} {a : Addr} {ds : List PyData} (R : SetG w L T h a ds) (k : ∀ o, h.get? a = some o → h'.get? a = some o) : SetG w L T h' a ds := by
  obtain ⟨es, ep, t, B, r⟩ := R
  obtain ⟨o, ho, r2⟩ := B.ob
  exact ⟨es, ep, t, ⟨⟨o, k o ho, r2⟩, B.fits, B.ris, B.led, B.few⟩, r⟩
abbrev freshO (w : World) : Obj := { cls := .type "set", dict := none, data := .set #[] 0 (.fresh 0 0 (!w.params.followText "set-order")) }
theorem SetG.new {w : World} {L : Lk} {T : Tk} {h : Heap} {a : Addr} (hT : ∀ led, T (.fresh 0 0 led) []) (ho : h.get? a = some (freshO w)) : SetG w L T h a [] := by
  refine ⟨#[], 0, .fresh 0 0 (!w.params.followText "set-order"), ⟨⟨_, ho, ⟨rfl, rfl, rfl⟩, rfl⟩, rfl, List.Pairwise.nil, ?_, by decide⟩, .nil, List.nodup_nil, hT _⟩
  show _ ∨ (!w.params.followText "set-order") = true
  rcases hq : w.params.followText "set-order" with _ | _
  · exact .inr rfl
  · exact .inl rfl
/-- one more member: what is asked of the kind of data -/
def AddOk (P : Program) (w : World) (A : Around) (h0 : Heap) (L : Lk) (T : Tk) (R : Value → PyData → Prop) (Good : PyData → Prop) (most : Nat) : Prop :=
  ∀ {E : Value → Shared → Prop} {s : Shared} {a : Addr} {ds : List PyData} {v : Value} {d : PyData} {Q : Bool → Shared → Prop},
    (∀ b o, h0.get? b = some o → s.heap.get? b = some o) → h0.get? a = none → SetG w L T s.heap a ds → (∀ e ∈ ds, Good e) → ds.length + 1 < most → Good d → (∃ as, Reads h0 v d as) → R v d →
    (∀ b h' tk ds', Heap.SameBut a s.heap h' → SetG w L T h' a ds' → (∀ e, e ∈ ds' ↔ e ∈ ds ∨ e = d) → ds'.length ≤ ds.length + 1 → Q b { s with heap := h', toks := s.toks + tk }) →
    wpAny (model P w) A (setAdd a v) Q E s

section
variable {P : Program} {w : World} {A : Around} {E : Value → Shared → Prop} {s : Shared} {h0 : Heap} {L : Lk} {T : Tk} {Rv : Value → PyData → Prop} {Good : PyData → Prop} {most : Nat}
/-- the loop of set.update -/
theorem upd_loop (add : AddOk P w A.in1 h0 L T Rv Good most) {I : Addr} {fp wr : List Addr} {G : Array GenState → Array GenState → Prop} {n : Nat} {Pv : Nat → Value → Prop} {St : Nat → Shared → Prop} {R : Result → Shared → Prop}
    (W : WalksS P w A.in1 I fp wr G n Pv St) (S : Addr) (out : S ∉ fp) (hS0 : h0.get? S = none) (hw0 : ∀ b ∈ wr, h0.get? b = none) (xs : List PyData) (hn : n = xs.length) (hb : xs.length < most) (gd : ∀ d ∈ xs, Good d)
    (hval : ∀ i v, Pv i v → ∃ d, xs[i]? = some d ∧ (∃ as, Reads h0 v d as) ∧ Rv v d) :
    ∀ (k i : Nat) (s : Shared) (ds : List PyData), i + k = n → St i s → (∀ b o, h0.get? b = some o → s.heap.get? b = some o) → SetG w L T s.heap S ds → (∀ e, e ∈ ds ↔ e ∈ xs.take i) → ds.length ≤ i →
      (∀ s' ds', Moved (S :: wr) G s s' → SetG w L T s'.heap S ds' → (∀ e, e ∈ ds' ↔ e ∈ xs) → ds'.length ≤ n → R (.ok (.ret .none)) s') →
      codeAny (model P w) A (.builtin "set.update.loop" ⟨[.ref S, .ref I], []⟩) R s := by
  have nw : S ∉ wr := fun h => out (W.sub _ h)
  have more : ∀ b ∈ wr, b ∈ S :: wr := fun b hb => List.mem_cons_of_mem _ hb
  have on : ∀ {s s' : Shared}, Moved wr G s s' → (∀ b o, h0.get? b = some o → s.heap.get? b = some o) → ∀ b o, h0.get? b = some o → s'.heap.get? b = some o := fun hm hk b o e =>
    hm.heap b o (fun hb => by rw [hw0 b hb] at e; cases e) (hk b o e)
  intro k
  induction k with
  | zero =>
    intro i s ds hi st hk R0 hm hl fin
    have hi : i = n := by omega
    subst hi
    refine codeAny_builtin F.entry_set_update_loop ?_
    rw [Around.under_plainId F.plain_set_update_loop _]
    show wpAny _ A.in1 (pyNext (.ref I) >>= _) _ _ s
    refine wpAny_bind (W.done s _ _ st fun s' mv => ?_)
    show wpAny _ A.in1 (ret Value.none) _ _ s'
    rw [List.take_of_length_le (Nat.le_of_eq hn.symm)] at hm
    exact wpAny_pure (fin s' ds (mv.mono more) (R0.at fun o e => mv.heap S o nw e) hm hl)
  | succ k ih =>
    intro i s ds hi st hk R0 hm hl fin
    have lt : i < n := by omega
    refine codeAny_builtin F.entry_set_update_loop ?_
    rw [Around.under_plainId F.plain_set_update_loop _]
    show wpAny _ A.in1 (pyNext (.ref I) >>= _) _ _ s
    refine wpAny_bind (W.item i s _ _ lt st fun v s' pv st' mv => ?_)
    obtain ⟨d, hd, rd, rv⟩ := hval i v pv
    have hk' := on mv hk
    have R1 : SetG w L T s'.heap S ds := R0.at fun o e => mv.heap S o nw e
    show wpAny _ A.in1 (holding [v] (setAdd S v) >>= _) _ _ s'
    refine wpAny_bind (wpAny_holding ?_)
    refine add hk' hS0 R1 (fun e he => gd e (List.mem_of_mem_take ((hm e).mp he))) (by omega) (gd d (List.mem_of_getElem? hd)) rd rv fun b h' tk ds' sb R2 hm2 hl2 => ?_
    have hk2 : ∀ b o, h0.get? b = some o → h'.get? b = some o := fun b o e => (sb.2 b (fun z => by rw [z, hS0] at e; cases e)).trans (hk' b o e)
    refine wpAny_pure ⟨plainId_quiet F.plain_set_update_loop _, ih (i + 1) _ ds' (by omega) (W.frame _ s' _ _ st' (Nat.le_add_right _ _) fun b hb o e => ?_) hk2 R2 (fun e => ?_) (by omega) fun s2 ds2 mv2 R3 hm3 hl3 => ?_⟩
    · rw [sb.2 b (fun z : b = S => out (by rw [← z]; exact hb))]; exact e
    · rw [hm2 e, hm e, List.take_add_one, hd]
      simp [List.mem_append]
    · refine fin s2 ds2 (Moved.trans W.gtrans ((mv.mono more).then_heap (Nat.le_add_right _ _) fun b o hb e => ?_) mv2) R3 hm3 hl3
      rw [sb.2 b (fun z : b = S => hb (by rw [z]; exact List.mem_cons_self))]; exact e
end

section
variable {P : Program} {w : World} {A : Around} {E : Value → Shared → Prop} {s : Shared} {L : Lk} {T : Tk} {Rv : Value → PyData → Prop} {Good : PyData → Prop} {most : Nat}
theorem set_list {l : Addr} {items : Array Value} {xs : List PyData} (hh : A.handled = none) (hl : s.heap.IsList l items) (hn : items.size = xs.length) (hv : ∀ (i : Nat) v, items[i]? = some v → ∃ d, xs[i]? = some d ∧ (∃ as, Reads s.heap v d as) ∧ Rv v d)
    (hb : xs.length < most) (gd : ∀ d ∈ xs, Good d) (hT0 : ∀ led, T (.fresh 0 0 led) []) (add : ∀ A' : Around, A'.units ≤ A.units + 8 → AddOk P w A' s.heap L T Rv Good most)
    {Q : Value → Shared → Prop} (fin : ∀ (h' : Heap) (tk : Nat) (ds : List PyData), SetG w L T h' s.heap.objs.size ds → (∀ e, e ∈ ds ↔ e ∈ xs) → ds.length ≤ xs.length → (∀ b o, s.heap.get? b = some o → h'.get? b = some o) → Q (.ref s.heap.objs.size) { s with heap := h', toks := tk }) :
    wpAny (model P w) A (call (.type "set") [.ref l]) Q E s := by
  obtain ⟨c, tl, hmro⟩ := F.called_set.mro
  have hmade := F.called_set.made
  have hsub := F.called_set.sub
  refine wpAny_call (codeAny_of_tree ?_)
  show wpAny _ _ (callAny (.type "set") _) _ _ _
  refine wpAny_pure ⟨Code.quiet_builtin _ (by decide +kernel), codeAny_builtin F.entry_type_call ?_⟩
  rw [Around.under_plain (weight_type_call_type "set" [.ref l] []) rfl]
  have h1 := F.called_set.notType
  have h2 := F.called_set.canCreate
  have hct := F.typeCall_set_1 (.ref l)
  repeat (any_goals (first | assumption | wp_step))
  refine codeAny_mono (code_set_led1 (.ref l) (E := E) (Q₁ := fun r z => r = .ref s.heap.objs.size ∧ z = { s with heap := s.heap.push (freshO w) }) ⟨rfl, rfl⟩) fun r z hr => ?_
  rcases r with e | fl
  case error => exact hr
  cases fl <;> first | (exact hr.elim; done) | skip
  rename_i r
  obtain ⟨rfl, rfl⟩ := hr
  have at0 : (s.heap.push (freshO w)).get? s.heap.objs.size = some (freshO w) := Heap.get?_push_size _ rfl
  have ty0 : Shared.TypeIs { s with heap := s.heap.push (freshO w) } (.ref s.heap.objs.size) "set" := ⟨_, at0, rfl⟩
  have hli := F.called_set.init.lookup
  have hbi := F.called_set.init.bind (.ref s.heap.objs.size)
  repeat (any_goals (first | assumption | wp_step))
  refine codeAny_mono (codeAny_call_builtin (R := wants (fun r z => r = .none ∧ ∃ h' tk ds, z = { s with heap := h', toks := tk } ∧ SetG w L T h' s.heap.objs.size ds ∧ (∀ e, e ∈ ds ↔ e ∈ xs) ∧ ds.length ≤ xs.length ∧
      (∀ b o, s.heap.get? b = some o → h'.get? b = some o)) E) F.called_set.init.plain F.entry_set_init (check_set_init_1 ty0 ?_)) fun r z hr => ?_
  case _ =>
    obtain ⟨ol, hol, hcl, nl, hdl⟩ := hl
    obtain ⟨ocls, odict, odata, oslots⟩ := ol
    simp only at hcl hdl
    subst hcl; subst hdl
    have hol' : (s.heap.push (freshO w)).get? l = some { cls := .type "list", dict := odict, data := .seq items nl, slots := oslots } := Heap.get?_push_of_some _ hol
    have n1 := F.sub_list_set
    have n2 := F.sub_list_frozenset
    have n3 : (Value.type "list" == Value.type "dict") = false := by decide
    have hl1 : (s.heap.push (freshO w)).IsList l items := ⟨_, hol', rfl, nl, rfl⟩
    unfold Builtin.«set.__init__» noKeywords Builtin.Frozenset.updateFrom
    generalize hPI : pyIter = PI
    wp_walk
    subst hPI
    refine wpAny_pyIter_list hl1 ?_
    refine wpAny_bind (wpAny_runValue ?_)
    have lS : l < s.heap.objs.size := Heap.lt_size hol
    have nI : l ≠ (s.heap.push (freshO w)).objs.size := by
      rw [Heap.size_push]; exact Nat.ne_of_lt (Nat.lt_succ_of_lt lS)
    refine upd_loop (add _ (by show A.units + 1 + 1 + 1 ≤ A.units + 8; omega)) ((Walks.list (by simp [hh]) _ l nI items).toS) s.heap.objs.size (by rw [Heap.size_push]; simp only [List.mem_cons, List.mem_singleton, List.not_mem_nil, or_false, not_or]; exact ⟨Nat.ne_of_lt (Nat.lt_succ_self _), Nat.ne_of_gt lS⟩) (Heap.get?_none_of_le (Nat.le_refl _)) (fun b hb => by rw [List.mem_singleton.mp hb, Heap.size_push]; exact Heap.get?_none_of_le (Nat.le_succ _)) xs hn hb gd (fun i v e => hv i v e) xs.length 0 _ [] (by rw [← hn]; simp) ⟨⟨_, Heap.get?_push_size _ rfl, rfl, rfl⟩, hl1.push _⟩ (fun b o e => Heap.get?_push_of_some _ (Heap.get?_push_of_some _ e)) (SetG.new hT0 (Heap.get?_push_of_some _ at0)) (fun e => by simp) (Nat.le_refl 0) fun z ds mv R1 m1 l1 => ?_
    obtain ⟨h', g2, d2, tk, o2⟩ := z
    have eg : g2 = s.gens := mv.gens
    have ed : d2 = s.drawn := mv.drawn
    have eo : o2 = s.os := mv.os
    subst eg; subst ed; subst eo
    show wpAny _ _ _ _ _ _
    refine wpAny_pure ?_
    show wpAny _ _ (ret Value.none) _ _ _
    refine wpAny_pure ⟨rfl, h', tk, ds, rfl, R1, m1, (by rw [← hn]; exact l1), fun b o e => ?_⟩
    have b0 : b < s.heap.objs.size := Heap.lt_size e
    refine mv.heap b o (fun hb => ?_) (Heap.get?_push_of_some _ (Heap.get?_push_of_some _ e))
    rcases List.mem_cons.mp hb with z | z
    · exact absurd b0 (by rw [z]; exact Nat.lt_irrefl _)
    · have z := List.mem_singleton.mp z
      rw [Heap.size_push] at z
      exact absurd b0 (by rw [z]; exact Nat.not_lt_of_le (Nat.le_succ _))
  case _ =>
    rcases r with e | fl
    case error => exact hr
    cases fl <;> first | (exact hr.elim; done) | skip
    rename_i r
    obtain ⟨rfl, h', tk, ds, rfl, R1, m1, l1, k1⟩ := hr
    repeat (any_goals (first | assumption | wp_step))
    exact fin _ _ _ R1 m1 l1 k1


theorem set_str {x : Str} {tk0 : Tok} (hh : A.handled = none) {xs : List PyData} (hx : xs = x.cps.toList.map fun c => PyData.str ⟨#[c]⟩) (hv : ∀ c u, c ∈ x.cps.toList → Rv (.str ⟨#[c]⟩ u) (.str ⟨#[c]⟩))
    (hb : xs.length < most) (gd : ∀ d ∈ xs, Good d) (hT0 : ∀ led, T (.fresh 0 0 led) []) (add : ∀ A' : Around, A'.units ≤ A.units + 8 → AddOk P w A' s.heap L T Rv Good most)
    {Q : Value → Shared → Prop} (fin : ∀ (h' : Heap) (tk : Nat) (ds : List PyData), SetG w L T h' s.heap.objs.size ds → (∀ e, e ∈ ds ↔ e ∈ xs) → ds.length ≤ xs.length → (∀ b o, s.heap.get? b = some o → h'.get? b = some o) → Q (.ref s.heap.objs.size) { s with heap := h', toks := tk }) :
    wpAny (model P w) A (call (.type "set") [.str x tk0]) Q E s := by
  obtain ⟨c, tl, hmro⟩ := F.called_set.mro
  have hmade := F.called_set.made
  have hsub := F.called_set.sub
  refine wpAny_call (codeAny_of_tree ?_)
  show wpAny _ _ (callAny (.type "set") _) _ _ _
  refine wpAny_pure ⟨Code.quiet_builtin _ (by decide +kernel), codeAny_builtin F.entry_type_call ?_⟩
  rw [Around.under_plain (weight_type_call_type "set" [.str x tk0] []) rfl]
  have h1 := F.called_set.notType
  have h2 := F.called_set.canCreate
  have hct := F.typeCall_set_1 (.str x tk0)
  repeat (any_goals (first | assumption | wp_step))
  refine codeAny_mono (code_set_led1 (.str x tk0) (E := E) (Q₁ := fun r z => r = .ref s.heap.objs.size ∧ z = { s with heap := s.heap.push (freshO w) }) ⟨rfl, rfl⟩) fun r z hr => ?_
  rcases r with e | fl
  case error => exact hr
  cases fl <;> first | (exact hr.elim; done) | skip
  rename_i r
  obtain ⟨rfl, rfl⟩ := hr
  have at0 : (s.heap.push (freshO w)).get? s.heap.objs.size = some (freshO w) := Heap.get?_push_size _ rfl
  have ty0 : Shared.TypeIs { s with heap := s.heap.push (freshO w) } (.ref s.heap.objs.size) "set" := ⟨_, at0, rfl⟩
  have hli := F.called_set.init.lookup
  have hbi := F.called_set.init.bind (.ref s.heap.objs.size)
  repeat (any_goals (first | assumption | wp_step))
  refine codeAny_mono (codeAny_call_builtin (R := wants (fun r z => r = .none ∧ ∃ h' tk ds, z = { s with heap := h', toks := tk } ∧ SetG w L T h' s.heap.objs.size ds ∧ (∀ e, e ∈ ds ↔ e ∈ xs) ∧ ds.length ≤ xs.length ∧
      (∀ b o, s.heap.get? b = some o → h'.get? b = some o)) E) F.called_set.init.plain F.entry_set_init (check_set_init_1 ty0 ?_)) fun r z hr => ?_
  case _ =>
    have n1 := F.sub_str_set
    have n2 := F.sub_str_frozenset
    have n3 : (Value.type "str" == Value.type "dict") = false := by decide
    have n4 : Shared.TypeIs { s with heap := s.heap.push (freshO w) } (.str x tk0) "str" := rfl
    unfold Builtin.«set.__init__» noKeywords Builtin.Frozenset.updateFrom
    generalize hPI : pyIter = PI
    wp_walk
    subst hPI
    refine wpAny_pyIter_str fun oi St W st0 => ?_
    refine wpAny_bind (wpAny_runValue ?_)
    have hn : x.cps.size = xs.length := by rw [hx, List.length_map, Array.length_toList]
    refine upd_loop (add _ (by show A.units + 1 + 1 + 1 ≤ A.units + 8; omega)) ((W _ (by simp [hh])).toS) s.heap.objs.size (by rw [Heap.size_push]; simp only [List.mem_singleton]; exact Nat.ne_of_lt (Nat.lt_succ_self _)) (Heap.get?_none_of_le (Nat.le_refl _)) (fun b hb => by rw [List.mem_singleton.mp hb, Heap.size_push]; exact Heap.get?_none_of_le (Nat.le_succ _)) xs hn hb gd (fun i v e => by
      obtain ⟨c, u, hc, rfl⟩ := e
      have hc' : x.cps.toList[i]? = some c := by rw [Array.getElem?_toList]; exact hc
      exact ⟨_, by rw [hx, List.getElem?_map, hc'] <;> rfl, ⟨[], .str _ u⟩, hv c u (List.mem_of_getElem? hc')⟩) xs.length 0 _ [] (by rw [← hn]; simp) st0 (fun b o e => Heap.get?_push_of_some _ (Heap.get?_push_of_some _ e)) (SetG.new hT0 (Heap.get?_push_of_some _ at0)) (fun e => by simp) (Nat.le_refl 0) fun z ds mv R1 m1 l1 => ?_
    obtain ⟨h', g2, d2, tk, o2⟩ := z
    have eg : g2 = s.gens := mv.gens
    have ed : d2 = s.drawn := mv.drawn
    have eo : o2 = s.os := mv.os
    subst eg; subst ed; subst eo
    show wpAny _ _ _ _ _ _
    refine wpAny_pure ?_
    show wpAny _ _ (ret Value.none) _ _ _
    refine wpAny_pure ⟨rfl, h', tk, ds, rfl, R1, m1, (by rw [← hn]; exact l1), fun b o e => ?_⟩
    have b0 : b < s.heap.objs.size := Heap.lt_size e
    refine mv.heap b o (fun hb => ?_) (Heap.get?_push_of_some _ (Heap.get?_push_of_some _ e))
    rcases List.mem_cons.mp hb with z | z
    · exact absurd b0 (by rw [z]; exact Nat.lt_irrefl _)
    · have z := List.mem_singleton.mp z
      rw [Heap.size_push] at z
      exact absurd b0 (by rw [z]; exact Nat.not_lt_of_le (Nat.le_succ _))
  case _ =>
    rcases r with e | fl
    case error => exact hr
    cases fl <;> first | (exact hr.elim; done) | skip
    rename_i r
    obtain ⟨rfl, h', tk, ds, rfl, R1, m1, l1, k1⟩ := hr
    repeat (any_goals (first | assumption | wp_step))
    exact fin _ _ _ R1 m1 l1 k1

end
end SS
/-! SS2: whole numbers and texts are members of a set (AddOk). -/
namespace SS
open PySem PySem.Spec PyProof.Rows L2 PySem.W

section
variable {α β : Type} {R : α → β → Prop}
theorem each_of {as : List α} {bs : List β} (h : EachIs R as bs) : ∀ b ∈ bs, ∃ a ∈ as, R a b := by
  induction h with
  | nil => intro b hb; cases hb
  | cons r _ ih =>
    intro b hb
    rcases List.mem_cons.mp hb with z | z
    · exact ⟨_, List.mem_cons_self, z ▸ r⟩
    · obtain ⟨a, ha, q⟩ := ih b z
      exact ⟨a, List.mem_cons_of_mem _ ha, q⟩
theorem each_to {as : List α} {bs : List β} (h : EachIs R as bs) : ∀ a ∈ as, ∃ b ∈ bs, R a b := by
  induction h with
  | nil => intro b hb; cases hb
  | cons r _ ih =>
    intro b hb
    rcases List.mem_cons.mp hb with z | z
    · exact ⟨_, List.mem_cons_self, z ▸ r⟩
    · obtain ⟨a, ha, q⟩ := ih b z
      exact ⟨a, List.mem_cons_of_mem _ ha, q⟩
theorem each_perm {as as' : List α} (p : as'.Perm as) : ∀ {bs : List β}, EachIs R as bs → ∃ bs', bs'.Perm bs ∧ EachIs R as' bs' := by
  induction p with
  | nil => intro bs h; exact ⟨bs, .refl _, h⟩
  | cons x _ ih =>
    intro bs h
    cases h with
    | cons r t =>
      obtain ⟨b, p, q⟩ := ih t
      exact ⟨_, p.cons _, .cons r q⟩
  | swap x y l =>
    intro bs h
    cases h with
    | cons r t =>
      cases t with
      | cons r2 t2 => exact ⟨_, List.Perm.swap _ _ _, .cons r2 (.cons r t2)⟩
  | trans _ _ i1 i2 =>
    intro bs h
    obtain ⟨b1, p1, q1⟩ := i2 h
    obtain ⟨b2, p2, q2⟩ := i1 q1
    exact ⟨b2, p2.trans p1, q2⟩
end

/-- the key of a datum that is a whole number or a text -/
def keyD : PyData → Key
  | .int i => .inl i
  | .str x => .inr x
  | _ => .inl 0
def flatD : PyData → Bool
  | .int _ => true
  | .str _ => true
  | _ => false
theorem key_inj : ∀ {d e : PyData}, flatD d = true → flatD e = true → keyD d = keyD e → d = e
  | .int _, .int _, _, _, h => by rw [Sum.inl.inj h]
  | .int _, .str _, _, _, h => nomatch h
  | .str _, .int _, _, _, h => nomatch h
  | .str _, .str _, _, _, h => by rw [Sum.inr.inj h]
theorem flat_key {h : Heap} {v : Value} : ∀ {d : PyData}, flatD d = true → (∃ as, Reads h v d as) → keyIs (keyD d) v = true ∧ v.scannable = true
  | .int i, _, ⟨as, r⟩ => by
    obtain ⟨t, rfl, _⟩ := reads_int_inv r
    exact ⟨keyIs_int i t, rfl⟩
  | .str x, _, ⟨as, r⟩ => by
    obtain ⟨t, rfl, _⟩ := reads_str_inv r
    exact ⟨keyIs_str x t, rfl⟩
def FlatL (w : World) (R : Value → PyData → Prop) : Lk := fun e d => e.1 = keyH w (keyD d) ∧ flatD d = true ∧ keyIs (keyD d) e.2 = true ∧ e.2.scannable = true ∧ R e.2 d

section
variable {P : Program} {w : World} {A : Around} {E : Value → Shared → Prop} {s : Shared} {h0 : Heap} {a : Addr}
/-- what stands behind the laying of a new member -/
theorem sb_tail {g : Bool → Sem Unit} (hg : ∀ (b : Bool) (z : Shared) (Q' : Unit → Shared → Prop), Q' () z → wpAny (model P w) A (g b) Q' E z)
    {o : Obj} {es : Array (Int × Value)} {ep : Nat} {t : SetTable} (ho : s.heap.get? a = some o) (hex : o.ExactSet) (hd : o.data = .set es ep t)
    {es1 : Array (Int × Value)} {t2 : SetTable} (few1 : es1.size < scanBound) (f2 : t2.fits es1.size = true) (r2 : Ris t2.place.toList) (l2 : w.params.followText "set-order" = true ∨ t2.led = true) {wd : Bool} {R : Option Bool → Shared → Prop}
    (fin : ∀ h' es2 ep2 t3, Heap.SameBut a s.heap h' → SB w h' a es2 ep2 t3 → es2.toList.Perm es1.toList → R (some true) { s with heap := h' }) :
    wpAny (model P w) A (do
        storeSet a es1 t2
        if (!wd && t2.tooFull) = true then do
            g (relayAll t2 es1 (SetTable.grown es1.size)).2.2
            storeSet a (relayAll t2 es1 (SetTable.grown es1.size)).1 (relayAll t2 es1 (SetTable.grown es1.size)).2.1
            pure (some true)
          else pure (some true)) R E s := by
  refine wpAny_bind (wpAny_storeSet_of ho hd ?_ (fits_of_scanBound few1))
  have o1 := store_at (es' := es1) (t' := t2) ho hd
  have s1 := Heap.SameBut.update s.heap a (Obj.putSet es1 t2)
  split
  · have pm := relayAll_perm t2 es1 (SetTable.grown es1.size)
    have f3 := relayAll_fits t2 es1 (SetTable.grown es1.size)
    have r3 := relayAll_ris t2 es1 (SetTable.grown es1.size)
    have l3 := relayAll_led t2 es1 (SetTable.grown es1.size)
    generalize relayAll t2 es1 (SetTable.grown es1.size) = Z at pm f3 r3 l3 ⊢
    obtain ⟨es2, t3, gave⟩ := Z
    dsimp only at pm f3 r3 l3 ⊢
    have sz : es2.size < scanBound := by
      rw [show es2.size = es1.size from by rw [← Array.length_toList, pm.length_eq, Array.length_toList]]
      exact few1
    refine wpAny_bind (hg _ _ _ ?_)
    refine wpAny_bind (wpAny_storeSet_of o1 rfl ?_ (fits_of_scanBound sz))
    exact wpAny_pure (fin _ es2 _ t3 (s1.trans (Heap.SameBut.update _ a _)) ⟨⟨_, store_at (es' := es2) (t' := t3) o1 rfl, hex, rfl⟩, f3, r3, l2.imp id fun z => by rw [l3]; exact z, sz⟩ pm)
  · exact wpAny_pure (fin _ es1 _ t2 s1 ⟨⟨_, o1, hex, rfl⟩, f2, r2, l2, few1⟩ (.refl _))

theorem flat_add {Rv : Value → PyData → Prop} : AddOk P w A h0 (FlatL w Rv) (fun _ _ => True) Rv (fun d => flatD d = true) scanBound := by
  intro E s a ds v d Q hk ha R gds hl gd rd rv fin
  obtain ⟨es, ep, t, B, ei, nd, _⟩ := id R
  obtain ⟨o, ho, hex, hd⟩ := B.ob
  obtain ⟨key, sc⟩ := flat_key gd rd
  have el : ElemsOf (mixKind P w) es.toList := fun e he => by
    obtain ⟨b, _, e1, _, e3, e4, _⟩ := each_to ei e he
    exact ⟨⟨keyD b, e3, e1⟩, e4⟩
  have len : es.size = ds.length := by rw [← Array.length_toList, ei.length]
  unfold setAdd
  refine wpAny_holding (wpAny_bind ((mixKind P w).pyHash (k := keyD d) key ?_))
  unfold setAddHashed setAddHashedIn
  refine wpAny_holding (wpAny_bind (wpAny_setState_of ho hd B.fits ?_))
  dsimp only
  rw [byScan_of sc B.few el]
  simp only [↓reduceIte]
  unfold setAddByScan
  refine wpAny_bind ?_
  refine wpAny_bind (wpAny_rule ?_)
  refine wpAny_bind (wpAny_setScan_of key ho hd B.fits el ?_)
  cases hfi : List.findIdx? (fun e => (mixKind P w).is (keyD d) e.2) es.toList with
  | some j =>
    dsimp only
    obtain ⟨hj, pj, _⟩ := List.findIdx?_eq_some_iff_getElem.mp hfi
    obtain ⟨b, hb, _, e2, e3, _⟩ := each_to ei _ (List.getElem_mem hj)
    have eb : d = b := key_inj gd e2 ((mixKind P w).inj _ _ _ pj e3)
    refine wpAny_pure (wpAny_pure ?_)
    exact fin false s.heap 1 ds (Heap.SameBut.refl a s.heap) R (fun e => ⟨.inl, fun z => z.elim id fun z => by rw [z, eb]; exact hb⟩) (Nat.le_succ _)
  | none =>
    dsimp only
    have nin : d ∉ ds := fun z => by
      obtain ⟨e, he, _, _, e3, _, _⟩ := each_of ei d z
      have c := List.findIdx?_eq_none_iff.mp hfi e he
      have e3 : (mixKind P w).is (keyD d) e.2 = true := e3
      rw [e3] at c
      cases c
    have gw : ∀ (b : Bool) {z : Shared} {Q' : Unit → Shared → Prop}, Q' () z → wpAny (model P w) A (match b with | true => rule "set.scan.the-table-gave-way" | false => pure ()) Q' E z :=
      fun b z Q' q => by cases b <;> first | exact wpAny_pure q | exact wpAny_rule q
    have pm := layNew_perm t es ((mixKind P w).hash (keyD d)) v
    have f1 := layNew_fits t es ((mixKind P w).hash (keyD d)) v
    have r1 := layNew_ris t es ((mixKind P w).hash (keyD d)) v B.ris
    have l1 := layNew_led t es ((mixKind P w).hash (keyD d)) v
    generalize layNew t es ((mixKind P w).hash (keyD d)) v = Z at pm f1 r1 l1 ⊢
    obtain ⟨es1, t1, wd, gave⟩ := Z
    dsimp only at pm f1 r1 l1 ⊢
    rw [Array.toList_push] at pm
    have pc : es1.toList.Perm (((mixKind P w).hash (keyD d), v) :: es.toList) := pm.trans (List.perm_append_singleton _ _)
    have sz : es1.size = ds.length + 1 := by rw [← Array.length_toList, pc.length_eq, List.length_cons, Array.length_toList, len]
    have few1 : es1.size < scanBound := by rw [sz]; exact hl
    have led1 : w.params.followText "set-order" = true ∨ t1.led = true := B.led.imp id fun z => by rw [l1]; exact z
    have cl : ∀ h' es2 ep2 t3, Heap.SameBut a s.heap h' → SB w h' a es2 ep2 t3 → es2.toList.Perm es1.toList → Q true { s with heap := h', toks := s.toks + 1 } := fun h' es2 ep2 t3 sb B2 p2 => by
      obtain ⟨bs, pb, eb⟩ := each_perm (p2.trans pc) (EachIs.cons (R := FlatL w Rv) (a := ((mixKind P w).hash (keyD d), v)) (b := d) ⟨rfl, gd, key, sc, rv⟩ ei)
      exact fin true h' 1 bs sb ⟨es2, ep2, t3, B2, eb, pb.nodup_iff.mpr (List.nodup_cons.mpr ⟨nin, nd⟩), trivial⟩ (fun e => by rw [pb.mem_iff, List.mem_cons]; exact Or.comm) (by rw [pb.length_eq, List.length_cons]; exact Nat.le_refl _)
    refine wpAny_bind (gw _ ?_)
    split
    · refine wpAny_bind ?_
      rw [hashByValue_scannable 8 sc]
      refine wpAny_pure ?_
      refine sb_tail (s := { s with toks := s.toks + 1 }) ?_ ho hex hd few1 ?_ ?_ ?_ ?_
      · intro b z Q' q; cases b <;> first | exact wpAny_pure q | exact wpAny_rule q
      · first | (split <;> first | exact f1 | exact SetTable.fits_plain_off f1) | exact f1
      · first | (split <;> exact r1) | exact r1
      · first | (split <;> exact led1) | exact led1
      · intro h' es2 ep2 t3 sb B2 p2; dsimp only; exact wpAny_pure (cl h' es2 ep2 t3 sb B2 p2)
    · refine wpAny_bind (wpAny_pure ?_)
      simp only [↓reduceIte]
      refine sb_tail (s := { s with toks := s.toks + 1 }) ?_ ho hex hd few1 f1 r1 led1 ?_
      · intro b z Q' q; cases b <;> first | exact wpAny_pure q | exact wpAny_rule q
      · intro h' es2 ep2 t3 sb B2 p2; dsimp only; exact wpAny_pure (cl h' es2 ep2 t3 sb B2 p2)
end
end SS
/-! SS3: sorted of a set. -/
namespace SS
open PySem PySem.Spec PyProof.Rows L2 PySem.W
section
variable {α β : Type} {R R' : α → β → Prop}
theorem each_mono (k : ∀ a b, R a b → R' a b) {as : List α} {bs : List β} (h : EachIs R as bs) : EachIs R' as bs := by
  induction h with
  | nil => exact .nil
  | cons r _ ih => exact .cons (k _ _ r) ih
theorem each_fst {γ : Type} (f : γ → α) : ∀ {cs : List γ} {bs : List β}, EachIs (fun c b => R (f c) b) cs bs → EachIs R (cs.map f) bs
  | _, _, .nil => .nil
  | _, _, .cons r t => .cons r (each_fst f t)
end
section
variable {P : Program} {w : World} {A : Around} {E : Value → Shared → Prop} {s : Shared} {L : Lk} {T : Tk} {Rv : Value → PyData → Prop}
theorem sorted_set_g {a : Addr} {ds : List PyData} {Q : Value → Shared → Prop} (G : SetG w L T s.heap a ds) (hLR : ∀ e d, L e d → Rv e.2 d) (hRR : ∀ v d, Rv v d → Reads s.heap v d []) (hal : AllAlike ds) (hk : Sortable ds)
    (hu : ∀ d ∈ ds, A.units + 8 + d.depth < cLine) (hh : A.handled = none)
    (fin : ∀ s' p (out : List Value) (c : Nat) (ds' : List PyData), (∀ b o, s.heap.get? b = some o → s'.heap.get? b = some o) → s'.gens = s.gens → s'.os = s.os → s.heap.objs.size ≤ p →
      s'.heap.get? p = some (seqObj "list" out.toArray c) → ds'.Perm ds → EachIs Rv out (ds'.mergeSort (dataLe false id)) → out.length = ds.length → Q (.ref p) s') :
    wpAny (model P w) A (call (.builtin "sorted") [.ref a]) Q E s := by
  obtain ⟨es, ep, t, B, ei, nd, _⟩ := G
  obtain ⟨o, ho, hex, hd⟩ := B.ob
  refine Calls.call_function_entry kind_sorted plain_sorted entry_sorted (args_sorted1 _) ?_
  unfold Builtin.«sorted»
  refine wpAny_bind (m := checkCount "sorted" 1 1 _) (wpAny_pure ?_)
  refine wpAny_bind (collect_set (A := A.in1) hh ⟨o, ho, hex.1, hd⟩ B.fits B.few B.ris B.led fun s1 vs k1 hz g1 o1 pm => ?_)
  have ev : EachIs Rv (es.toList.map Prod.snd) ds := each_fst Prod.snd (each_mono hLR ei)
  obtain ⟨bs, pb, eb⟩ := each_perm pm ev
  have len : vs.length = ds.length := by rw [pm.length_eq, List.length_map, ei.length]
  have few : vs.length ≤ sizeLine := by
    have q := B.few
    rw [pm.length_eq, List.length_map, Array.length_toList]
    exact fits_of_scanBound q
  refine wpAny_bind (wpAny_newList ?_ few)
  have hoL : (s1.heap.push (seqObj "list" vs.toArray 0)).get? s1.heap.objs.size = some (seqObj "list" vs.toArray 0) := Heap.get?_push_size _ rfl
  have er : EachIs (fun v b => ∃ as, Reads (s1.heap.push (seqObj "list" vs.toArray 0)) v (id b) as ∧ s1.heap.objs.size ∉ as) vs bs :=
    each_mono (fun v b r => ⟨[], Reads.keeps (fun b o e => Heap.get?_push_of_some _ (k1 b o e)) (hRR v b r), by simp⟩) eb
  have mem : ∀ d ∈ bs, d ∈ ds := fun d h => pb.mem_iff.mp h
  refine wpAny_bind (wpAny_holding (list_sort_data (s := { s1 with heap := s1.heap.push (seqObj "list" vs.toArray 0) }) (enc := id) hoL eb er ?_ ?_ (by rw [pb.length_eq, ← len]; exact few) ?_ fun out ho2 eo => ?_))
  · rw [List.map_id]
    exact fun d h d' h' => hal d (mem d h) d' (mem d' h')
  · rw [List.map_id]
    exact hk.imp (fun q d h => q d (mem d h)) (fun q d h => q d (mem d h))
  · intro b hb
    have := hu b (mem b hb)
    show A.units + 1 + 1 + b.depth < cLine
    omega
  · obtain ⟨c, hc⟩ := sortedHeap_at (vs := vs) (out := out.toArray) hoL
    refine wpAny_pure ⟨_, rfl, fin _ s1.heap.objs.size out c bs (fun b u e => ?_) g1 o1 hz hc pb eo (by rw [ho2, pb.length_eq])⟩
    have q := k1 b u e
    have lt := Heap.lt_size q
    show (sortedHeap (s1.heap.push (seqObj "list" vs.toArray 0)) s1.heap.objs.size vs out.toArray).get? b = some u
    rw [sortedHeap_old (Nat.ne_of_lt lt) (by rw [size_push']; exact Nat.lt_succ_of_lt lt)]
    exact Heap.get?_push_of_some _ q
end
end SS
/-! SS4: sorted(set(x)), x a list or a text, over the abstract heap. -/
namespace SS
open PySem PySem.Spec PyProof.Rows L2 PySem.W
/-- what sorts of data may be members -/
structure SKind (P : Program) (w : World) (A : Around) where
  L : Heap → (Value → PyData → Prop) → Lk
  T : Tk
  Good : PyData → Prop
  most : Nat
  t0 : ∀ led, T (.fresh 0 0 led) []
  lr : ∀ {h R e d}, L h R e d → R e.2 d
  flat : ∀ {h v d as}, Good d → Reads h v d as → as = []
  add : ∀ (A' : Around) (h : Heap) (R : Value → PyData → Prop), A'.units ≤ A.units + 9 → AddOk P w A' h (L h R) T R Good most
def flatK (P : Program) (w : World) (A : Around) : SKind P w A where
  L := fun _ R => FlatL w R
  T := fun _ _ => True
  Good := fun d => flatD d = true
  most := scanBound
  t0 := fun _ => trivial
  lr := fun h => h.2.2.2.2
  flat := fun {h v d as} g r => by
    cases d with
    | int i => obtain ⟨_, _, e⟩ := reads_int_inv r; exact e
    | str x => obtain ⟨_, _, e⟩ := reads_str_inv r; exact e
    | _ => cases g
  add := fun A' h R _ => flat_add
/-- what is sorted: the values, and what they are -/
def Src (K : PySem.W.Frag) (H : Hp) (v : V) (xs : List V) (ds : List PyData) : Prop :=
  (∃ a, v = .ref a ∧ SqL K H a xs ∧ DpAll K H xs ds) ∨ (∃ x : Str, v = .str x ∧ xs = (x.cps.toList.map fun c => V.str ⟨#[c]⟩) ∧ ds = (x.cps.toList.map fun c => PyData.str ⟨#[c]⟩))
def tSset (K : PySem.W.Frag) (Good : PyData → Prop) (most : Nat) (te : TE) : TE := fun σ H Q => te σ H fun v H1 => ∃ xs ds, Src K H1 v xs ds ∧ (∀ d ∈ ds, Good d) ∧ AllAlike ds ∧ Sortable ds ∧ (∀ d ∈ ds, d.depth ≤ 64) ∧ ds.length < most ∧
  ∀ q vs' ds', H1 q = none → ds'.Nodup → (∀ d, d ∈ ds' ↔ d ∈ ds) → ds'.Pairwise (fun a b => dataLt b a = false) → Paired (fun x d => ∃ i : Nat, xs[i]? = some x ∧ ds[i]? = some d) vs' ds' → Q (.ref q) (upd H1 q (.lst vs'))
section
variable {X : Cx}
theorem dp_get {K : PySem.W.Frag} {H : Hp} : ∀ {xs : List V} {ds : List PyData}, DpAll K H xs ds → xs.length = ds.length ∧ ∀ (i : Nat) x, xs[i]? = some x → ∃ d, ds[i]? = some d ∧ Dp K H x d
  | _, _, .nil => ⟨rfl, fun i x e => by simp at e⟩
  | _, _, .cons h t => by
    obtain ⟨l, g⟩ := dp_get t
    refine ⟨congrArg Nat.succ l, fun i x e => ?_⟩
    cases i with
    | zero => simp at e; subst e; exact ⟨_, rfl, h⟩
    | succ i => simpa using g i x (by simpa using e)
theorem out_pairs {G : V → PyData → Prop} : ∀ {out : List Value} {ds : List PyData}, EachIs (fun u d => ∃ x, G x d ∧ RelV x u) out ds → ∃ vs, Vals vs out ∧ Paired G vs ds
  | _, _, .nil => ⟨[], .nil, .nil⟩
  | _, _, .cons ⟨x, g, r⟩ t => by
    obtain ⟨vs, h1, h2⟩ := out_pairs t
    exact ⟨x :: vs, .cons r h1, .cons g h2⟩
theorem pe_sset (k : SKind X.prog X.w X.A) {e : Expr} {te : TE} {p p2 pos pos2 : Pos} (hc : X.calm = true) (hu : X.A.units + 80 < cLine) (hg : Gl X "sorted") (hm : X.mg "sorted" = none) (hg2 : Gl X "set") (hm2 : X.mg "set" = none) (he : PE X e te)
    (hs : starEach [e] X.env = (false, eval e X.env) :: starEach [] X.env)
    (hs2 : starEach [.Call (.Name "set" p2) [e] [] pos2] X.env = (false, eval (.Call (.Name "set" p2) [e] [] pos2) X.env) :: starEach [] X.env := by rfl) :
    PE X (.Call (.Name "sorted" p) [.Call (.Name "set" p2) [e] [] pos2] [] pos) (tSset X.K k.Good k.most te) := by
  refine ⟨fun pins s σ H Q I h => ?_⟩
  refine Call_ (ld_blt I hg hm boot_sorted (PyProof.Rows.callWith_builtin1 (args_cons (Call_ (ld_blt I hg2 hm2 PyProof.Rows.boot_set (PyProof.Rows.callWith_type1 (args_cons (thn (he.run pins s σ H _ I h) fun u s1 ⟨v, H1, I1, r1, q1⟩ => args_nil ?_) hs) hs rfl))) hs2) hs2 rfl))
  obtain ⟨xs, ds, src, gd, al, so, dl, few, q⟩ := q1
  -- a value of the set is one of the values
  have key : ∃ Rv : Value → PyData → Prop, (∀ u d, Rv u d → ∃ x, (∃ i : Nat, xs[i]? = some x ∧ ds[i]? = some d) ∧ RelV x u) ∧ (∀ v d, Rv v d → Reads s1.heap v d []) ∧
      ∀ {Q' : Value → Shared → Prop} {E' : Value → Shared → Prop}, (∀ (h' : Heap) (tk : Nat) (mem : List PyData), SetG X.w (k.L s1.heap Rv) k.T h' s1.heap.objs.size mem → (∀ e, e ∈ mem ↔ e ∈ ds) → mem.length ≤ ds.length → (∀ b o, s1.heap.get? b = some o → h'.get? b = some o) → Q' (.ref s1.heap.objs.size) { s1 with heap := h', toks := tk }) →
        wpAny (model X.prog X.w) X.A (call (.type "set") [u]) Q' E' s1 := by
    refine ⟨fun u d => (∃ x, (∃ i : Nat, xs[i]? = some x ∧ ds[i]? = some d) ∧ RelV x u) ∧ Reads s1.heap u d [], fun u d h => h.1, fun v d h => h.2, fun {Q' E'} fin => ?_⟩
    rcases src with ⟨a, ev, hq, hd⟩ | ⟨x, ev, ex, ed⟩
    · subst ev
      obtain rfl : u = Value.ref a := r1
      obtain ⟨its, rv, p', hz⟩ := I1.list hq
      obtain ⟨ll, gt⟩ := dp_get hd
      refine set_list (I1.ok.hd hc) p'.isList (xs := ds) (by rw [List.size_toArray, ← rv.length, ll]) (fun i w hw => ?_) few gd k.t0 (fun A' hA => k.add A' s1.heap _ (by omega)) fin
      have hw : its[i]? = some w := by simpa using hw
      have hx : ∃ x, xs[i]? = some x := by
        have : i < xs.length := by rw [rv.length]; exact (List.getElem?_eq_some_iff.mp hw).1
        exact ⟨_, List.getElem?_eq_getElem this⟩
      obtain ⟨x, hx⟩ := hx
      obtain ⟨d, hd1, hd2⟩ := gt i x hx
      obtain ⟨w', hw', rw'⟩ := rv.get hx
      obtain rfl : w = w' := Option.some.inj (hw.symm.trans hw')
      obtain ⟨as, rd⟩ := Dp.reads I1 d x w hd2 rw'
      have e0 := k.flat (gd d (List.mem_of_getElem? hd1)) rd
      subst e0
      exact ⟨d, hd1, ⟨[], rd⟩, ⟨x, ⟨i, hx, hd1⟩, rw'⟩, rd⟩
    · subst ev
      obtain ⟨tk0, rfl⟩ := r1
      refine set_str (I1.ok.hd hc) ed (fun c u hcm => ?_) few gd k.t0 (fun A' hA => k.add A' s1.heap _ (by omega)) fin
      obtain ⟨i, hi⟩ := List.getElem?_of_mem hcm
      exact ⟨⟨.str ⟨#[c]⟩, ⟨i, by rw [ex, List.getElem?_map, hi] <;> rfl, by rw [ed, List.getElem?_map, hi] <;> rfl⟩, ⟨u, rfl⟩⟩, .str _ u⟩
  obtain ⟨Rv, g1, g2, run⟩ := key
  refine run fun h' tk mem G1 hm1 hl1 k1 => args_nil ?_
  refine sorted_set_g (Rv := Rv) (s := { s1 with heap := h', toks := tk }) G1 (fun e d h => k.lr h) (fun v d h => Reads.keeps k1 (g2 v d h)) (fun d hd d' hd' => al d ((hm1 d).mp hd) d' ((hm1 d').mp hd')) (so.imp (fun q d h => q d ((hm1 d).mp h)) (fun q d h => q d ((hm1 d).mp h)))
    (fun d hd => by have := dl d ((hm1 d).mp hd); show X.A.units + 8 + d.depth < cLine; omega) (I1.ok.hd hc) fun s2 p out c ds' k2 gn og hp hget pm eo lo => ?_
  obtain ⟨vs', rv', pr⟩ := out_pairs (each_mono g1 eo)
  have hlen : vs'.length ≤ sizeLine := by
    obtain ⟨_, _, _, B, ei, _⟩ := G1
    rw [rv'.length, lo, ← ei.length, Array.length_toList]
    exact fits_of_scanBound B.few
  have hn : H1 p = none := I1.hok.fresh (Nat.le_trans (by
    have z : s1.heap.objs.size ≤ h'.objs.size := by
      obtain ⟨_, _, _, B, _⟩ := G1
      obtain ⟨o, ho, _⟩ := B.ob
      exact Nat.le_of_lt (Heap.lt_size ho)
    exact z) hp)
  have kk : ∀ b o, s1.heap.get? b = some o → s2.heap.get? b = some o := fun b o e => k2 b o (k1 b o e)
  have sz : s1.heap.objs.size ≤ p := Nat.le_trans (by
      obtain ⟨_, _, _, B, _⟩ := G1
      obtain ⟨o, ho, _⟩ := B.ob
      exact Nat.le_of_lt (Heap.lt_size ho)) hp
  have J : Inv X pins σ (upd H1 p (.lst vs')) { s1 with heap := s2.heap, gens := s2.gens, drawn := s2.drawn, toks := s2.toks } :=
    I1.call (ch := []) (Un.laid kk sz hn) (I1.hok.laid kk sz ⟨hlen, out, c, rv', hget⟩) (by rw [gn]; exact I1.bare) (fun _ z => nomatch z)
  have e2 : s2 = { s1 with heap := s2.heap, gens := s2.gens, drawn := s2.drawn, toks := s2.toks } := by
    cases s2; cases s1; cases og; rfl
  rw [e2]
  have srt := List.pairwise_mergeSort (le := dataLe false id) (sortLe_total (listOrd itemOrd) false fun b => keyToks (id b)).trans (fun a b => by rw [Bool.or_eq_true]; exact (sortLe_total (listOrd itemOrd) false fun b => keyToks (id b)).total a b) ds'
  have ps := List.mergeSort_perm ds' (dataLe false id)
  refine ⟨.ref p, _, J, rfl, q p vs' (ds'.mergeSort (dataLe false id)) hn ?_ (fun d => ?_) (srt.imp fun {a b} z => ?_) pr⟩
  · obtain ⟨_, _, _, _, _, nd, _⟩ := G1
    exact (ps.trans pm).nodup_iff.mpr nd
  · rw [(ps.trans pm).mem_iff]; exact hm1 d
  · have z : (!dataLt b a) = true := z
    simpa using z
end
end SS
/-! SS5: tables of any of the sizes that come: whatever stands in one is found again from its hash. -/
namespace SS
open PySem PySem.Spec PyProof.Rows L2 PySem.W

/-! ### a round by bits -/
/-- the slots that n steps from x come to, as bits -/
def rnd (m : Nat) : Nat → Nat → Nat → Nat × Nat
  | 0, x, acc => (x, acc)
  | n + 1, x, acc => match (x * 5 + 1) % (m + 1) with
    | 0 => (match acc ||| 2 ^ x with
      | 0 => rnd m n 0 0
      | b + 1 => rnd m n 0 (b + 1))
    | y + 1 => (match acc ||| 2 ^ x with
      | 0 => rnd m n (y + 1) 0
      | b + 1 => rnd m n (y + 1) (b + 1))
theorem rnd_succ (m n x acc : Nat) : rnd m (n + 1) x acc = rnd m n ((x * 5 + 1) % (m + 1)) (acc ||| 2 ^ x) := by
  conv => lhs; unfold rnd
  cases (x * 5 + 1) % (m + 1) <;> cases acc ||| 2 ^ x <;> rfl
theorem lcgI_step (m x : Nat) : ∀ b, lcgI m ((x * 5 + 1) % (m + 1)) b = lcgI m x (b + 1)
  | 0 => rfl
  | b + 1 => by
    show (lcgI m ((x * 5 + 1) % (m + 1)) b * 5 + 1) % (m + 1) = (lcgI m x (b + 1) * 5 + 1) % (m + 1)
    rw [lcgI_step m x b]
theorem rnd_end (m : Nat) : ∀ n x acc, (rnd m n x acc).1 = lcgI m x n
  | 0, _, _ => rfl
  | n + 1, x, acc => by rw [rnd_succ, rnd_end m n, lcgI_step]
theorem rnd_bit (m j : Nat) : ∀ n x acc, (rnd m n x acc).2.testBit j = true → acc.testBit j = true ∨ ∃ b, b < n ∧ lcgI m x b = j
  | 0, _, _, h => .inl h
  | n + 1, x, acc, h => by
    rw [rnd_succ] at h
    rcases rnd_bit m j n _ _ h with h | ⟨b, hb, e⟩
    · rw [Nat.testBit_or, Bool.or_eq_true] at h
      rcases h with h | h
      · exact .inl h
      · rw [Nat.testBit_two_pow] at h
        exact .inr ⟨0, Nat.succ_pos _, of_decide_eq_true h⟩
    · exact .inr ⟨b + 1, Nat.succ_lt_succ hb, by rw [← lcgI_step]; exact e⟩
/-- a mask whose round meets every slot -/
structure Wide (m : Nat) : Prop where
  all : ∀ j, j ≤ m → ∃ b, b ≤ m ∧ lcgI m 0 b = j
  home : lcgI m 0 (m + 1) = 0
  odd : m % 2 = 1
theorem wide_of {m : Nat} (h : rnd m (m + 1) 0 0 = (0, 2 ^ (m + 1) - 1)) (o : m % 2 = 1) : Wide m := by
  refine ⟨fun j hj => ?_, ?_, o⟩
  · have hb : (rnd m (m + 1) 0 0).2.testBit j = true := by
      rw [h, Nat.testBit_two_pow_sub_one]
      exact decide_eq_true (by omega)
    rcases rnd_bit m j _ _ _ hb with z | ⟨b, hb, e⟩
    · simp at z
    · exact ⟨b, by omega, e⟩
  · rw [← rnd_end m (m + 1) 0 0, h]
theorem wide7 : Wide 7 := wide_of (by decide +kernel) rfl
theorem wide31 : Wide 31 := wide_of (by decide +kernel) rfl
theorem wide127 : Wide 127 := wide_of (by decide +kernel) rfl
theorem wide511 : Wide 511 := wide_of (by decide +kernel) rfl
theorem wide2047 : Wide 2047 := wide_of (by decide +kernel) rfl
theorem lcgI_plus (m x a : Nat) : ∀ k, lcgI m (lcgI m x a) k = lcgI m x (a + k)
  | 0 => rfl
  | k + 1 => by
    show (lcgI m (lcgI m x a) k * 5 + 1) % (m + 1) = (lcgI m x (a + k) * 5 + 1) % (m + 1)
    rw [lcgI_plus m x a k]
theorem Wide.from {m : Nat} (W : Wide m) {i j : Nat} (hi : i ≤ m) (hj : j ≤ m) : ∃ k, k ≤ m ∧ lcgI m i k = j := by
  obtain ⟨p, hp, ep⟩ := W.all i hi
  obtain ⟨q, hq, eq⟩ := W.all j hj
  subst ep
  by_cases c : p ≤ q
  · exact ⟨q - p, by omega, by rw [lcgI_plus, show p + (q - p) = q by omega]; exact eq⟩
  · refine ⟨q + (m + 1) - p, by omega, ?_⟩
    rw [lcgI_plus, show p + (q + (m + 1) - p) = (m + 1) + q by omega, ← lcgI_plus, W.home]
    exact eq
theorem Wide.run {m : Nat} (W : Wide m) (h : Int) {j : Nat} (hj : j ≤ m) : ∃ n, n ≤ m + 12 ∧ runI m (SetTable.bits h) n = j := by
  obtain ⟨k, hk, e⟩ := W.from (runI_le m (SetTable.bits h) 12) hj
  exact ⟨12 + k, by omega, (runI_tail (bits_lt h) k).trans e⟩
theorem Wide.meets {m : Nat} (W : Wide m) (h : Int) {j : Nat} (hj : j ≤ m) : ∃ k, k < 10 * SetTable.turns m ∧ way m h k = j := by
  obtain ⟨n, hn, e⟩ := W.run h hj
  obtain ⟨k, hk, e2⟩ := run_nth m (SetTable.bits h) n
  exact ⟨k, by unfold SetTable.turns; omega, (congrArg SetTable.Probe.j e2).trans e⟩
theorem way_bd (m : Nat) (h : Int) (k : Nat) : way m h k ≤ m := by
  have b0 : SetTable.bits h % (m + 1) ≤ m := Nat.le_of_lt_succ (Nat.mod_lt _ (Nat.succ_pos _))
  have r := runEnd_bd b0
  have z := nth_in (m := m) k (runAt m (SetTable.bits h % (m + 1)) (SetTable.bits h)) (by
    show SetTable.bits h % (m + 1) + (SetTable.runEnd m (SetTable.bits h % (m + 1)) - SetTable.bits h % (m + 1)) ≤ m
    omega)
  unfold way
  omega

/-! ### a table's word -/
/-- step k of the way is the first one to a slot of which p is false -/
def Stop (m : Nat) (h : Int) (p : Nat → Prop) (k : Nat) : Prop := ¬ p (way m h k) ∧ ∀ k', k' < k → p (way m h k')
structure TabG (t : SetTable) (hs : List Int) : Prop where
  ris : Ris t.place.toList
  dm : t.dummies = #[]
  sz : t.place.size = hs.length
  wide : Wide t.mask
  bd : ∀ x ∈ t.place.toList, x ≤ t.mask
  reach : ∀ (i : Nat) (h : Int) (j : Nat), hs[i]? = some h → t.place.toList[i]? = some j → ∃ k, way t.mask h k = j ∧ ∀ k', k' < k → way t.mask h k' ∈ t.place.toList
section
variable {t : SetTable} {hs : List Int}
theorem TabG.len (T : TabG t hs) : t.place.toList.length = hs.length := by rw [Array.length_toList, T.sz]
theorem TabG.first (T : TabG t hs) (hl : hs.length ≤ t.mask) (h : Int) : ∃ K, K < 10 * SetTable.turns t.mask ∧ Stop t.mask h (· ∈ t.place.toList) K := by
  obtain ⟨j, hj, hn⟩ := st_missing t.place.toList (t.mask + 1) (by rw [T.len]; omega)
  obtain ⟨k, hk, e⟩ := T.wide.meets h (Nat.le_of_lt_succ hj)
  obtain ⟨K, h1, h2, h3⟩ := st_least (p := fun k => way t.mask h k ∉ t.place.toList) k (by rw [e]; exact hn)
  exact ⟨K, Nat.lt_of_le_of_lt h1 hk, h2, fun k' hk' => Classical.byContradiction fun c => h3 k' hk' c⟩
theorem TabG.ahead (T : TabG t hs) {h : Int} {K i j : Nat} (S : Stop t.mask h (· ∈ t.place.toList) K) (hi : hs[i]? = some h) (hj : t.place.toList[i]? = some j) : ∃ k, k < K ∧ way t.mask h k = j := by
  obtain ⟨k, e, hb⟩ := T.reach i h j hi hj
  refine ⟨k, Nat.lt_of_not_le fun c => ?_, e⟩
  rcases Nat.lt_or_eq_of_le c with c | c
  · exact S.1 (hb K c)
  · subst c
    exact S.1 (by rw [e]; exact List.mem_of_getElem? hj)
/-- what a put leaves -/
structure PutOk (t t' : SetTable) (hs : List Int) (h : Int) (p : Nat) : Prop where
  le : p ≤ hs.length
  tab : TabG t' (hs.take p ++ h :: hs.drop p)
  mask : t'.mask = t.mask
  led : t'.led = t.led
  plain : t'.plain = t.plain
  fill : t'.fill = hs.length + 1
theorem TabG.put (T : TabG t hs) {h : Int} {K : Nat} (S : Stop t.mask h (· ∈ t.place.toList) K) : PutOk t (t.put (way t.mask h K)).1 hs h (t.put (way t.mask h K)).2 := by
  have hjm := way_bd t.mask h K
  have hout := S.1
  have hbef := S.2
  obtain ⟨j, hj⟩ : ∃ j, j = way t.mask h K := ⟨_, rfl⟩
  rw [← hj] at hjm hout ⊢
  obtain ⟨p, hp⟩ : ∃ p, p = SetTable.below t.place j := ⟨_, rfl⟩
  have e2 : (t.put j).2 = p := hp.symm
  rw [e2]
  have c1 : p ≤ t.place.size := by rw [hp]; exact (below_cut T.ris j).1
  have plen := T.len
  have lp : p ≤ t.place.toList.length := by rw [Array.length_toList]; exact c1
  have lh : p ≤ hs.length := by rw [← plen]; exact lp
  have epl : (t.put j).1.place.toList = t.place.toList.take p ++ j :: t.place.toList.drop p := by rw [put_place, hp]
  have edm := put_dm T.dm j
  have esz : (t.put j).1.place.size = hs.length + 1 := by rw [← Array.length_toList, epl, len_ins _ lp, plen]
  have hno : t.place[SetTable.below t.place j]? ≠ some j := fun e => hout (List.mem_of_getElem? (by rw [Array.getElem?_toList]; exact e))
  have keep : ∀ {x : Nat}, x ∈ t.place.toList → x ∈ (t.put j).1.place.toList := fun {x} hx => by rw [epl]; exact mem_ins.2 (.inr hx)
  refine ⟨lh, ⟨ris_insert T.ris hno, edm, ?_, T.wide, ?_, ?_⟩, rfl, rfl, rfl, ?_⟩
  · rw [esz, len_ins _ lh]
  · intro x hx
    rw [epl] at hx
    rcases mem_ins.1 hx with z | z
    · rw [z]; exact hjm
    · exact T.bd x z
  · intro i h' j' a1 a2
    rw [tins_get hs lh] at a1
    rw [epl, tins_get _ lp] at a2
    show ∃ k, way t.mask h' k = j' ∧ ∀ k', k' < k → way t.mask h' k' ∈ (t.put j).1.place.toList
    by_cases lt : i < p
    · rw [if_pos lt] at a1 a2
      obtain ⟨k, e, z⟩ := T.reach i h' j' a1 a2
      exact ⟨k, e, fun k' q => keep (z k' q)⟩
    · rw [if_neg lt] at a1 a2
      by_cases eq : i = p
      · rw [if_pos eq] at a1 a2
        have e1 := Option.some.inj a1
        have e3 := Option.some.inj a2
        subst e1
        exact ⟨K, hj.symm.trans e3, fun k' q => keep (hbef k' q)⟩
      · rw [if_neg eq] at a1 a2
        obtain ⟨k, e, z⟩ := T.reach (i - 1) h' j' a1 a2
        exact ⟨k, e, fun k' q => keep (z k' q)⟩
  · show (t.put j).1.place.size + (t.put j).1.dummies.size = _
    rw [esz, edm]
    rfl
end

/-! ### all laid anew -/
theorem free_at {m : Nat} (W : Wide m) (owner : Array (Option Nat)) (h : Int) {j : Nat} (hj : j ≤ m) (hf : oAt owner j = none) :
    ∃ K, SetTable.layClean.free m owner (SetTable.turns m) (SetTable.bits h % (m + 1)) (SetTable.bits h) = some (way m h K) ∧ Stop m h (fun j => oAt owner j ≠ none) K := by
  obtain ⟨n, hn, e⟩ := W.run h hj
  have ew : way m h (off m (SetTable.bits h % (m + 1)) (SetTable.bits h) n) = j := by
    unfold way
    rw [nth_off, itL_run]
    exact e
  obtain ⟨K, k1, k2, k3⟩ := st_least (p := fun k => oAt owner (way m h k) = none) (off m (SetTable.bits h % (m + 1)) (SetTable.bits h) n) (by rw [ew]; exact hf)
  have k2 : oAt owner (way m h K) = none := k2
  refine ⟨K, free_spec m owner (SetTable.turns m) n _ _ K (by unfold SetTable.turns; omega) k1 (fun k hk => ?_) ?_, fun z => z k2, k3⟩
  · have z : oAt owner (way m h k) ≠ none := k3 k hk
    cases q : oAt owner (way m h k) with
    | none => exact absurd q z
    | some _ => rfl
  · unfold way at k2
    rw [k2]
    rfl
theorem own_next {m : Nat} (W : Wide m) {done : List Int} {owner : Array (Option Nat)} (O : Own m done owner) (hl : done.length ≤ m) (h : Int) :
    ∃ j, SetTable.layClean.free m owner (SetTable.turns m) (SetTable.bits h % (m + 1)) (SetTable.bits h) = some j ∧ Own m (done ++ [h]) (owner.setIfInBounds j (some done.length)) := by
  obtain ⟨ps, lp, hin⟩ := O.ps
  obtain ⟨f, hf, nf⟩ := st_missing ps (m + 1) (by omega)
  have free : oAt owner f = none := Classical.byContradiction fun c => nf (hin f (by omega) c)
  obtain ⟨K, e, S⟩ := free_at W owner h (Nat.le_of_lt_succ hf) free
  obtain ⟨j, hj⟩ : ∃ j, j = way m h K := ⟨_, rfl⟩
  have jm : j ≤ m := by rw [hj]; exact way_bd m h K
  have js : j < owner.size := by rw [O.sz]; omega
  have nj : oAt owner j = none := Classical.byContradiction fun c => S.1 (by rw [← hj]; exact c)
  refine ⟨j, by rw [hj]; exact e, ?_⟩
  have here := oAt_set_self (some done.length) js
  have else_ : ∀ {i : Nat}, i ≠ j → oAt (owner.setIfInBounds j (some done.length)) i = oAt owner i := fun hi => oAt_set_ne _ hi
  have stay : ∀ {i : Nat}, oAt owner i ≠ none → oAt (owner.setIfInBounds j (some done.length)) i ≠ none := fun {i} hi => by
    by_cases c : i = j
    · subst c; rw [here]; exact fun z => nomatch z
    · rw [else_ c]; exact hi
  have lnew : (done ++ [h]).length = done.length + 1 := List.length_append.trans rfl
  refine ⟨by rw [Array.size_setIfInBounds, O.sz], ?_, ?_, ⟨j :: ps, by rw [lnew, List.length_cons, lp], ?_⟩⟩
  · intro i k hi ei
    by_cases c : i = j
    · subst c
      rw [here] at ei
      obtain rfl := Option.some.inj ei
      exact ⟨h, K, by rw [List.getElem?_append_right (Nat.le_refl _), Nat.sub_self]; rfl, hj.symm, fun k' q => stay (S.2 k' q)⟩
    · rw [else_ c] at ei
      obtain ⟨h', K', a1, a2, a3⟩ := O.at_ i k hi ei
      exact ⟨h', K', by rw [List.getElem?_append_left (List.getElem?_eq_some_iff.mp a1).1]; exact a1, a2, fun k' q => stay (a3 k' q)⟩
  · intro k hk
    rw [lnew] at hk
    rcases Nat.lt_or_eq_of_le (Nat.le_of_lt_succ hk) with c | c
    · obtain ⟨i, hi, ei⟩ := O.all k c
      exact ⟨i, hi, by rw [else_ (fun z => by rw [z, nj] at ei; cases ei)]; exact ei⟩
    · exact ⟨j, jm, by rw [c]; exact here⟩
  · intro i hi ei
    by_cases c : i = j
    · rw [c]; exact List.mem_cons_self
    · rw [else_ c] at ei
      exact List.mem_cons_of_mem _ (hin i hi ei)
theorem own_all {m : Nat} (W : Wide m) : ∀ (rest done : List Int) (owner : Array (Option Nat)), Own m done owner → done.length + rest.length ≤ m → ∃ o2, rest.foldl (stepF m) (some (owner, done.length)) = some (o2, (done ++ rest).length) ∧ Own m (done ++ rest) o2
  | [], done, owner, O, _ => ⟨owner, by rw [List.append_nil]; rfl, by rw [List.append_nil]; exact O⟩
  | h :: rest, done, owner, O, hl => by
    have hl : done.length + (rest.length + 1) ≤ m := hl
    obtain ⟨j, e, O1⟩ := own_next W O (by omega) h
    have l1 : (done ++ [h]).length = done.length + 1 := List.length_append.trans rfl
    obtain ⟨o2, f, O2⟩ := own_all W rest (done ++ [h]) _ O1 (by omega)
    rw [show done ++ [h] ++ rest = done ++ h :: rest from (List.append_assoc ..).trans rfl] at f O2
    exact ⟨o2, by rw [List.foldl_cons, stepF_some e, ← l1]; exact f, O2⟩
theorem laid_ok {m : Nat} (W : Wide m) {hs : Array Int} (hn : hs.size ≤ m) : ∃ owner, SetTable.layClean m hs = some owner ∧ Own m hs.toList owner := by
  obtain ⟨o2, f, O⟩ := own_all W hs.toList [] _ (Own.init m) (by have q : hs.toList.length = hs.size := Array.length_toList; show 0 + hs.toList.length ≤ m; omega)
  refine ⟨o2, ?_, O⟩
  have f : hs.toList.foldl (stepF m) (some (Array.replicate (m + 1) none, 0)) = some (o2, ([] ++ hs.toList).length) := f
  rw [layClean_eq, f]
  rfl
structure AnewOk (t t' : SetTable) (hs : Array Int) (order : Array Nat) (M : Nat) : Prop where
  perm : order.toList.Perm (List.range hs.size)
  tab : TabG t' (order.toList.map fun i => hs.getD i 0)
  mask : t'.mask = M
  led : t'.led = t.led
  plain : t'.plain = t.plain
theorem anew_ok (t : SetTable) {hs : Array Int} {wanted M : Nat} (hw : SetTable.sizeAbove wanted - 1 = M) (W : Wide M) (hn : hs.size ≤ M) : ∃ t' order, t.relaid hs wanted = some (t', order) ∧ AnewOk t t' hs order M := by
  obtain ⟨owner, e, O⟩ := laid_ok W hn
  have hr : t.relaid hs wanted = some (tabOf t M owner, ((liveOf M owner).map (·.2)).toArray) := by
    rw [relaid_eq, hw, e]
    rfl
  obtain ⟨r1, r2⟩ := ris_live (fun j => owner.getD j none) (List.range (M + 1)) List.pairwise_lt_range
  have r1 : Ris ((liveOf M owner).map (·.1)) := r1
  have r2 : ∀ x ∈ (liveOf M owner).map (·.1), x ∈ List.range (M + 1) := r2
  have live : ∀ {j k : Nat}, (j, k) ∈ liveOf M owner ↔ j ≤ M ∧ oAt owner j = some k := mem_live O.sz
  have count : (liveOf M owner).length = hs.size := by
    obtain ⟨ps, p1, p2⟩ := O.ps
    have nd : ((liveOf M owner).map (·.1)).Nodup := List.Pairwise.imp (fun z => Nat.ne_of_lt z) r1
    have up := nat_nodup_len ((liveOf M owner).map (·.1)) ps nd fun x hx => by
      obtain ⟨⟨y, k⟩, hq, ey⟩ := List.mem_map.mp hx
      obtain rfl : y = x := ey
      obtain ⟨b1, b2⟩ := live.1 hq
      exact p2 y b1 (by rw [b2]; exact fun z => nomatch z)
    have dn := nat_nodup_len (List.range hs.size) ((liveOf M owner).map (·.2)) List.nodup_range fun k hk => by
      obtain ⟨j, b1, b2⟩ := O.all k (by rw [Array.length_toList]; exact List.mem_range.mp hk)
      exact List.mem_map.mpr ⟨(j, k), live.2 ⟨b1, b2⟩, rfl⟩
    have q : hs.toList.length = hs.size := Array.length_toList
    rw [List.length_map, p1] at up
    rw [List.length_map, List.length_range] at dn
    omega
  refine ⟨_, _, hr, ?_, ⟨r1, rfl, ?_, W, ?_, ?_⟩, rfl, rfl, rfl⟩
  · refine perm_range hs.size _ (by show ((liveOf M owner).map (·.2)).length = _; rw [List.length_map, count]) fun k hk => ?_
    obtain ⟨j, b1, b2⟩ := O.all k (by rw [Array.length_toList]; exact hk)
    exact List.mem_map.mpr ⟨(j, k), live.2 ⟨b1, b2⟩, rfl⟩
  · show ((liveOf M owner).map (·.1)).toArray.size = (((liveOf M owner).map (·.2)).map fun i => hs.getD i 0).length
    simp only [List.size_toArray, List.length_map]
  · intro x hx
    exact Nat.le_of_lt_succ (List.mem_range.mp (r2 x hx))
  · intro i h j a1 a2
    have a1 : (((liveOf M owner).map (·.2)).map fun i => hs.getD i 0)[i]? = some h := a1
    have a2 : ((liveOf M owner).map (·.1))[i]? = some j := a2
    rw [List.getElem?_map, List.getElem?_map] at a1
    rw [List.getElem?_map] at a2
    obtain ⟨⟨y, k⟩, hq⟩ : ∃ q, (liveOf M owner)[i]? = some q := by
      cases hq : (liveOf M owner)[i]? with
      | none => rw [hq] at a2; cases a2
      | some q => exact ⟨q, rfl⟩
    rw [hq] at a1 a2
    obtain rfl : y = j := Option.some.inj a2
    have eh : hs.getD k 0 = h := Option.some.inj a1
    obtain ⟨b1, b2⟩ := live.1 (List.mem_of_getElem? hq)
    obtain ⟨h0, K, c1, c2, c3⟩ := O.at_ y k b1 b2
    obtain rfl : h0 = h := by
      rw [← eh, Array.getD_eq_getD_getElem?, ← Array.getElem?_toList, c1]
      rfl
    refine ⟨K, c2, fun k' q => ?_⟩
    show way M h0 k' ∈ (liveOf M owner).map (·.1)
    cases z : oAt owner (way M h0 k') with
    | none => exact absurd z (c3 k' q)
    | some k2 => exact List.mem_map.mpr ⟨(way M h0 k', k2), live.2 ⟨way_bd M h0 k', z⟩, rfl⟩
theorem grow5 : SetTable.sizeAbove (SetTable.grown 5) = 32 := by decide +kernel
theorem grow19 : SetTable.sizeAbove (SetTable.grown 19) = 128 := by decide +kernel
theorem grow77 : SetTable.sizeAbove (SetTable.grown 77) = 512 := by decide +kernel
theorem grow307 : SetTable.sizeAbove (SetTable.grown 307) = 2048 := by decide +kernel
/-- the sizes that come -/
def Size (m : Nat) : Prop := m = 7 ∨ m = 31 ∨ m = 127 ∨ m = 511 ∨ m = 2047
theorem Size.wide {m : Nat} (h : Size m) : Wide m := by
  rcases h with h | h | h | h | h <;> subst h
  · exact wide7
  · exact wide31
  · exact wide127
  · exact wide511
  · exact wide2047
end SS
/-! SS6: tuples of whole numbers, texts and such tuples are members of a set (AddOk). -/
namespace SS
open PySem PySem.Spec PyProof.Rows L2 PySem.W

/-! ### what a tuple is as a key -/
mutual
def dk : PyData → NestedKey
  | .int i => .num i
  | .str x => .text x
  | .tuple xs => .tup (dks xs)
  | _ => .none
def dks : List PyData → List NestedKey
  | [] => []
  | d :: ds => dk d :: dks ds
end
mutual
def gdB : PyData → Bool
  | .int _ => true
  | .str _ => true
  | .tuple xs => gdBs xs
  | _ => false
def gdBs : List PyData → Bool
  | [] => true
  | d :: ds => gdB d && gdBs ds
end
mutual
theorem dk_back : ∀ d : PyData, gdB d = true → (dk d).data = d
  | .int _, _ => rfl
  | .str _, _ => rfl
  | .tuple xs, h => by
    simp only [gdB] at h
    simp only [dk, NestedKey.data, dks_back xs h]
  | .none, h => by simp [gdB] at h
  | .bool _, h => by simp [gdB] at h
  | .list _, h => by simp [gdB] at h
  | .dict _, h => by simp [gdB] at h
theorem dks_back : ∀ ds : List PyData, gdBs ds = true → NestedKey.datas (dks ds) = ds
  | [], _ => rfl
  | d :: ds, h => by
    simp only [gdBs, Bool.and_eq_true] at h
    simp only [dks, NestedKey.datas, dk_back d h.1, dks_back ds h.2]
end
theorem dk_inj {d e : PyData} (h1 : gdB d = true) (h2 : gdB e = true) (h : dk d = dk e) : d = e := by
  rw [← dk_back d h1, h, dk_back e h2]
mutual
theorem dk_deep : ∀ d : PyData, (dk d).depth ≤ d.depth
  | .int _ => Nat.zero_le _
  | .str _ => Nat.zero_le _
  | .tuple xs => by
    have h := dks_deep xs
    simp only [dk, NestedKey.depth, PyData.depth]
    omega
  | .none => Nat.zero_le _
  | .bool _ => Nat.zero_le _
  | .list _ => Nat.zero_le _
  | .dict _ => Nat.zero_le _
theorem dks_deep : ∀ ds : List PyData, NestedKey.depthAll (dks ds) ≤ PyData.depthAll ds
  | [] => Nat.zero_le _
  | d :: ds => by
    have h1 := dk_deep d
    have h2 := dks_deep ds
    simp only [dks, NestedKey.depthAll, PyData.depthAll]
    omega
end
mutual
theorem dk_is {h : Heap} : ∀ (d : PyData) {v : Value} {as : List Addr}, gdB d = true → Reads h v d as → NestedIs h (dk d) v ∧ as = []
  | .int _, _, _, _, r => by
    obtain ⟨t, rfl, e⟩ := reads_int_inv r
    exact ⟨.int _ t, e⟩
  | .str _, _, _, _, r => by
    obtain ⟨t, rfl, e⟩ := reads_str_inv r
    exact ⟨.text _ t, e⟩
  | .tuple xs, _, _, g, r => by
    simp only [gdB] at g
    obtain ⟨a, o, vs, n, rfl, h1, h2, h3, h4⟩ := reads_tuple_inv r
    obtain ⟨q, e⟩ := dks_is xs g h4
    exact ⟨.tup h1 h2 h3 q, e⟩
  | .none, _, _, g, _ => by simp [gdB] at g
  | .bool _, _, _, g, _ => by simp [gdB] at g
  | .list _, _, _, g, _ => by simp [gdB] at g
  | .dict _, _, _, g, _ => by simp [gdB] at g
theorem dks_is {h : Heap} : ∀ (ds : List PyData) {vs : List Value} {as : List Addr}, gdBs ds = true → ReadsAll h vs ds as → NestedAll h (dks ds) vs ∧ as = []
  | [], _, _, _, r => by
    cases r
    exact ⟨.nil, rfl⟩
  | d :: ds, _, _, g, r => by
    simp only [gdBs, Bool.and_eq_true] at g
    cases r with
    | cons r1 r2 =>
      obtain ⟨q1, e1⟩ := dk_is d g.1 r1
      obtain ⟨q2, e2⟩ := dks_is ds g.2 r2
      exact ⟨.cons q1 q2, by rw [e1, e2]; rfl⟩
end
/-- a tuple that can be a member -/
structure GdT (d : PyData) : Prop where
  good : gdB d = true
  flat : d.depth ≤ 8
  tup : ∃ xs, d = .tuple xs
theorem GdT.ref {d : PyData} (g : GdT d) {h : Heap} {v : Value} (k : NestedIs h (dk d) v) : ∃ b, v = .ref b := by
  obtain ⟨xs, rfl⟩ := g.tup
  rw [dk] at k
  cases k with
  | tup _ _ _ _ => exact ⟨_, rfl⟩
theorem NestedIs.up {h h' : Heap} (hk : ∀ b o, h.get? b = some o → h'.get? b = some o) {k : NestedKey} {v : Value} (x : NestedIs h k v) : NestedIs h' k v := NestedIs.at (fun a o _ _ e _ => hk a o e) k v x

/-! ### small questions -/
section
variable {P : Program} {w : World} {A : Around} {E : Value → Shared → Prop}
mutual
theorem plain_class : ∀ (k : NestedKey) (v : Value) (n : Nat) (s : Shared) (Q : Bool → Shared → Prop), NestedIs s.heap k v → k.depth ≤ n → Q false s → wpAny (model P w) A (ofAClassStatement n v) Q E s
  | .none, _, n, s, Q, x, _, q => by cases x; cases n <;> exact wpAny_pure q
  | .num i, _, n, s, Q, x, _, q => by cases x <;> cases n <;> exact wpAny_pure q
  | .text y, _, n, s, Q, x, _, q => by cases x; cases n <;> exact wpAny_pure q
  | .tup ks, _, n, s, Q, x, hn, q => by
    simp only [NestedKey.depth] at hn
    cases n with
    | zero => omega
    | succ n =>
      cases x with
      | @tup a o vs m _ h1 h2 h3 h4 =>
        have hT : s.TypeIs (.ref a) "tuple" := ⟨o, h1, h2⟩
        unfold ofAClassStatement
        refine wpAny_bind (wpAny_typeOf hT ?_)
        dsimp only
        simp only [show (("tuple" : String) == "tuple") = true from rfl, if_true, Bool.not_true, Bool.false_eq_true, if_false]
        try refine wpAny_bind (wpAny_pure ?_)
        try simp only [Bool.not_true, Bool.false_eq_true, if_false]
        refine wpAny_bind (wpAny_seqItems h1 h3 ?_)
        dsimp only
        refine wpAny_bind ?_
        show wpAny _ _ (forIn vs _ _) _ _ s
        rw [← Array.forIn_toList]
        refine plain_loop ks vs.toList n s _ h4 (by omega) ?_
        exact wpAny_pure q
theorem plain_loop : ∀ (ks : List NestedKey) (vs : List Value) (n : Nat) (s : Shared) (Q : Option Bool × PUnit → Shared → Prop), NestedAll s.heap ks vs → NestedKey.depthAll ks ≤ n → Q (none, ()) s →
    wpAny (model P w) A (forIn vs ((none, ()) : Option Bool × PUnit) fun y r => do
      if (← ofAClassStatement n y) = true then pure (ForInStep.done (some true, ())) else do
        pure PUnit.unit
        pure (ForInStep.yield (none, ()))) Q E s
  | [], _, n, s, Q, x, _, q => by cases x; exact wpAny_pure q
  | k :: ks, _, n, s, Q, x, hn, q => by
    simp only [NestedKey.depthAll] at hn
    cases x with
    | cons x1 x2 =>
      rw [List.forIn_cons]
      refine wpAny_bind (wpAny_bind (plain_class k _ n s _ x1 (by omega) ?_))
      simp only [Bool.false_eq_true, if_false]
      exact wpAny_pure (plain_loop ks _ n s Q x2 (by omega) q)
end
mutual
theorem some_value : ∀ (k : NestedKey) (v : Value) (n : Nat) (s : Shared) (Q : Bool → Shared → Prop), NestedIs s.heap k v → k.depth ≤ n → (∀ b, Q b s) → wpAny (model P w) A (hashByValue n v) Q E s
  | .none, _, n, s, Q, x, _, q => by cases x; cases n <;> exact wpAny_pure (q _)
  | .num i, _, n, s, Q, x, _, q => by cases x <;> cases n <;> exact wpAny_pure (q _)
  | .text y, _, n, s, Q, x, _, q => by cases x; cases n <;> exact wpAny_pure (q _)
  | .tup ks, _, n, s, Q, x, hn, q => by
    simp only [NestedKey.depth] at hn
    cases n with
    | zero => omega
    | succ n =>
      cases x with
      | @tup a o vs m _ h1 h2 h3 h4 =>
        have hT : s.TypeIs (.ref a) "tuple" := ⟨o, h1, h2⟩
        unfold hashByValue
        refine wpAny_bind (wpAny_specialOf hT F.slot_tuple_hash.lookup ?_)
        show wpAny _ _ (seqItems? (.ref a) >>= _) _ _ s
        refine wpAny_bind (wpAny_seqItems h1 h3 ?_)
        refine wpAny_bind ?_
        show wpAny _ _ (forIn vs _ _) _ _ s
        rw [← Array.forIn_toList]
        refine some_loop ks vs.toList n s _ h4 (by omega) (wpAny_pure (q _)) (wpAny_pure (q _))
theorem some_loop : ∀ (ks : List NestedKey) (vs : List Value) (n : Nat) (s : Shared) (Q : Option Bool × PUnit → Shared → Prop), NestedAll s.heap ks vs → NestedKey.depthAll ks ≤ n → Q (none, ()) s → Q (some false, ()) s →
    wpAny (model P w) A (forIn vs ((none, ()) : Option Bool × PUnit) fun y r => do
      if (!(← hashByValue n y)) = true then pure (ForInStep.done (some false, ())) else do
        pure PUnit.unit
        pure (ForInStep.yield (none, ()))) Q E s
  | [], _, n, s, Q, x, _, q, _ => by cases x; exact wpAny_pure q
  | k :: ks, _, n, s, Q, x, hn, q, q2 => by
    simp only [NestedKey.depthAll] at hn
    cases x with
    | cons x1 x2 =>
      rw [List.forIn_cons]
      refine wpAny_bind (wpAny_bind (some_value k _ n s _ x1 (by omega) fun b => ?_))
      cases b with
      | false => exact wpAny_pure (wpAny_pure q2)
      | true => exact wpAny_pure (some_loop ks _ n s Q x2 (by omega) q q2)
end
/-- a search among such tuples shows nothing -/
theorem unseen {s : Shared} {x : Addr} {k : NestedKey} (hx : NestedIs s.heap k (.ref x)) (hk : k.depth ≤ 8) {ys : List Value} (hy : ∀ y ∈ ys, ∃ k' c, y = Value.ref c ∧ NestedIs s.heap k' y ∧ k'.depth ≤ 8) {Q : Bool → Shared → Prop} (q : Q false s) : wpAny (model P w) A (searchCouldBeSeen (.ref x) ys) Q E s := by
  unfold searchCouldBeSeen
  refine wpAny_bind ?_
  refine wpAny_forIn_list _ (fun rest r z => r.1 = none ∧ z = s ∧ ∀ y ∈ rest, ∃ k' c, y = Value.ref c ∧ NestedIs s.heap k' y ∧ k'.depth ≤ 8) _ ?_ ?_ _ _ ⟨rfl, rfl, hy⟩
  · rintro y rest r z ⟨hr, rfl, hall⟩
    obtain ⟨k', c, rfl, n1, n2⟩ := hall y List.mem_cons_self
    have more : ∀ u ∈ rest, ∃ k' c, u = Value.ref c ∧ NestedIs z.heap k' u ∧ k'.depth ≤ 8 := fun u hu => hall u (List.mem_cons_of_mem _ hu)
    dsimp only
    by_cases very : (x == c || (carriedByValue (.ref x) && carriedByValue (.ref c))) = true
    · exact wp_if_pos very (wpAny_pure ⟨rfl, rfl, more⟩)
    · refine wp_if_neg very (wpAny_bind (quiet_key k _ 8 z hx hk A E _ ?_))
      simp only [Bool.not_true, Bool.false_eq_true, if_false]
      refine wpAny_bind (quiet_key k' _ 8 z n1 n2 A E _ ?_)
      simp only [Bool.not_true, Bool.false_eq_true, if_false]
      refine wpAny_bind (plain_class k _ 8 z _ hx hk ?_)
      simp only [Bool.false_eq_true, if_false]
      refine wpAny_bind (plain_class k' _ 8 z _ n1 n2 ?_)
      simp only [Bool.false_eq_true, if_false]
      exact wpAny_pure ⟨rfl, rfl, more⟩
  · rintro ⟨r1, r2⟩ z ⟨hr, rfl, _⟩
    simp only at hr
    subst hr
    exact wpAny_pure q
end
end SS
/-! SS7: looking for a tuple in a set, putting one in. -/
namespace SS
open PySem PySem.Spec PyProof.Rows L2 PySem.W
section
variable {α β : Type} {R : α → β → Prop}
theorem each_at {as : List α} {bs : List β} (h : EachIs R as bs) : ∀ {i : Nat} {b : β}, bs[i]? = some b → ∃ a, as[i]? = some a ∧ R a b := by
  induction h with
  | nil => intro i b e; simp at e
  | cons r _ ih =>
    intro i b e
    cases i with
    | zero => simp at e; subst e; exact ⟨_, rfl, r⟩
    | succ i => simpa using ih (by simpa using e)
theorem each_atL {as : List α} {bs : List β} (h : EachIs R as bs) : ∀ {i : Nat} {a : α}, as[i]? = some a → ∃ b, bs[i]? = some b ∧ R a b := by
  induction h with
  | nil => intro i b e; simp at e
  | cons r _ ih =>
    intro i b e
    cases i with
    | zero => simp at e; subst e; exact ⟨_, rfl, r⟩
    | succ i => simpa using ih (by simpa using e)
end
def TupL (w : World) (h0 : Heap) (R : Value → PyData → Prop) : Lk := fun e d => e.1 = (dk d).hash w ∧ GdT d ∧ NestedIs h0 (dk d) e.2 ∧ R e.2 d
def TupT : Tk := fun t hs => TabG t hs ∧ Size t.mask ∧ hs.length * 5 < t.mask * 3
section
variable {P : Program} {w : World} {A : Around} {E : Value → Shared → Prop} {s : Shared} {h0 : Heap} {R : Value → PyData → Prop} {a x : Addr} {ds : List PyData} {d : PyData} {es : Array (Int × Value)} {ep : Nat} {t : SetTable}
theorem no_gap (W : Wide t.mask) : ¬ t.gaveWay = true := by
  unfold SetTable.gaveWay
  rw [W.odd]
  decide
theorem nth_dummy (m : Nat) : ∀ (n : Nat) (p : SetTable.Probe), p.dummy = none → (nth m p n).dummy = none
  | 0, _, h => h
  | n + 1, p, h => nth_dummy m n (adv m p) (by unfold adv; split <;> exact h)
/-- from the c-th step of the way on -/
theorem seek (B : SB w s.heap a es ep t) (ei : EachIs (TupL w h0 R) es.toList ds) (T : TabG t (es.toList.map Prod.fst)) (g : GdT d) (hx : NestedIs s.heap (dk d) (.ref x)) (keep : ∀ b o, h0.get? b = some o → s.heap.get? b = some o) (hu : A.units + 8 < cLine) {K : Nat} (hK : K < 10 * SetTable.turns t.mask)
    (S : Stop t.mask ((dk d).hash w) (· ∈ t.place.toList) K) {Q : SetFound → Shared → Prop} (yes : d ∈ ds → Q (.there none) s) (no : d ∉ ds → Q (.free (way t.mask ((dk d).hash w) K) false) s) :
    ∀ (f c : Nat) (stand : Option SetTable.Probe), stand.getD (t.probeStart ((dk d).hash w)) = nth t.mask (t.probeStart ((dk d).hash w)) c → c ≤ K → K - c < f → (∀ i : Nat, ds[i]? = some d → ∃ q : Nat, c ≤ q ∧ q < K ∧ t.place.toList[i]? = some (way t.mask ((dk d).hash w) q)) →
      wpAny (model P w) A (setSearchFrom a (.ref x) ((dk d).hash w) true f stand) Q E s
  | 0, c, _, _, _, hf, _ => absurd hf (Nat.not_lt_zero _)
  | f + 1, c, stand, hst, hc, hf, hre => by
    obtain ⟨o, ho, hex, hd⟩ := B.ob
    have dk8 : (dk d).depth ≤ 8 := Nat.le_trans (dk_deep d) g.flat
    obtain ⟨p0, hp0⟩ : ∃ p0, p0 = t.probeStart ((dk d).hash w) := ⟨_, rfl⟩
    have ew : ∀ q, (nth t.mask p0 q).j = way t.mask ((dk d).hash w) q := fun q => by rw [hp0]; rfl
    have shift : ∀ q, (nth t.mask (nth t.mask p0 c) q).j = way t.mask ((dk d).hash w) (c + q) := fun q => by rw [← nth_add, ew]
    rw [← hp0] at hst
    have hst' : stand.getD (t.probeStart ((dk d).hash w)) = nth t.mask p0 c := by rw [← hp0]; exact hst
    have d0 : (nth t.mask p0 c).dummy = none := nth_dummy _ _ _ (by rw [hp0]; rfl)
    obtain ⟨hs, hhs⟩ : ∃ hs : Nat → Int, hs = fun i => (es[i]?.map (·.1)).getD 0 := ⟨_, rfl⟩
    have at_ : ∀ {i : Nat} {b : PyData}, ds[i]? = some b → ∃ v, es[i]? = some ((dk b).hash w, v) ∧ hs i = (dk b).hash w ∧ GdT b ∧ NestedIs h0 (dk b) v ∧ R v b := fun {i b} e => by
      obtain ⟨⟨hv, v⟩, q1, q2, q3, q4, q5⟩ := each_at ei e
      rw [Array.getElem?_toList] at q1
      obtain rfl : hv = (dk b).hash w := q2
      exact ⟨v, q1, by rw [hhs]; show (es[i]?.map (·.1)).getD 0 = _; rw [q1]; rfl, q3, q4, q5⟩
    rw [setSearchFrom_succ]
    refine wpAny_bind (wpAny_setState_of ho hd B.fits ?_)
    dsimp only
    refine wp_if_neg (no_gap T.wide) ?_
    try refine wpAny_bind (wpAny_pure ?_)
    rw [hst', ← hhs]
    rcases go_spec t T.ris T.dm hs ((dk d).hash w) (10 * SetTable.turns t.mask) (K - c) (nth t.mask p0 c) d0 (by omega) (fun q hq => by rw [shift]; exact S.2 _ (by omega)) (by rw [shift, show c + (K - c) = K by omega]; exact S.1) with ⟨q, i, hq, hi, hh, hno, hpr⟩ | ⟨hno, hpr⟩
    · have hpr : t.probe hs ((dk d).hash w) (nth t.mask p0 c) = some (.candidate (nth t.mask (nth t.mask p0 c) q).j i (nth t.mask (nth t.mask p0 c) (q + 1))) := hpr
      rw [hpr, shift, ← nth_add]
      rw [shift] at hi
      dsimp only
      have li : i < ds.length := by
        have h1 := (List.getElem?_eq_some_iff.mp hi).1
        rw [T.len, List.length_map, ei.length] at h1
        exact h1
      obtain ⟨b, hb⟩ : ∃ b, ds[i]? = some b := ⟨_, List.getElem?_eq_getElem li⟩
      obtain ⟨v, v1, v2, v3, v4, _⟩ := at_ hb
      obtain ⟨y, rfl⟩ := v3.ref v4
      have hy : NestedIs s.heap (dk b) (.ref y) := NestedIs.up keep v4
      have tail : wpAny (model P w) A (searchRest a (.ref x) ((dk d).hash w) true f es t (way t.mask ((dk d).hash w) (c + q)) i (nth t.mask p0 (c + (q + 1)))) Q E s := by
        unfold searchRest
        rw [v1]
        dsimp only
        refine wpAny_bind (wpAny_holding ((nestedKind P w).eqBool (x := dk b) (y := dk d) hu ⟨hy, Nat.le_trans (dk_deep b) v3.flat⟩ ⟨hx, dk8⟩ ?_))
        refine wpAny_bind (wpAny_setState_of ho hd B.fits ?_)
        dsimp only
        by_cases same : dk b = dk d
        · have ebd := dk_inj v3.good g.good same
          refine wp_if_pos (by simp [same]) (wpAny_pure (yes ?_))
          rw [← ebd]
          exact List.mem_of_getElem? hb
        · refine wp_if_neg (by simp [same]) ?_
          try refine wpAny_bind (wpAny_pure ?_)
          rw [sameMem]
          dsimp only
          have lv : t.slot (way t.mask ((dk d).hash w) (c + q)) = .live i := slot_live T.ris hi
          simp only [if_true, lv, v1]
          refine wpAny_bind (wpAny_isSame_ref_self (wpAny_bind (wpAny_pure ?_)))
          simp only [if_true]
          refine wp_if_neg (by simp [same]) ?_
          refine seek B ei T g hx keep hu hK S yes no f (c + (q + 1)) _ (by rw [← hp0]; rfl) (by omega) (by omega) fun i0 e0 => ?_
          obtain ⟨r, r1, r2, r3⟩ := hre i0 e0
          refine ⟨r, ?_, r2, r3⟩
          apply Classical.byContradiction
          intro late
          obtain ⟨_, _, w2, _⟩ := at_ e0
          rcases Nat.lt_or_ge r (c + q) with lt | ge
          · exact hno (r - c) i0 (by omega) (by rw [shift, show c + (r - c) = r by omega]; exact r3) w2
          · have er : r = c + q := by omega
            rw [er] at r3
            have l0 := slot_live T.ris r3
            rw [lv] at l0
            obtain rfl : i = i0 := SetTable.Slot.live.inj l0
            rw [hb] at e0
            exact same (congrArg dk (Option.some.inj e0))
      by_cases hl : t.led = true
      · refine wp_if_neg (by simp [hl]) ?_
        try refine wpAny_bind (wpAny_pure ?_)
        exact tail
      · refine wp_if_pos (by simp [hl]) (wpAny_bind (unseen hx dk8 (fun y' hy' => ?_) ?_))
        · obtain ⟨e, he, ee⟩ := List.mem_map.mp hy'
          have he : e ∈ es.toList := by
            have : e ∈ es ∧ e.1 = (dk d).hash w := by simpa using he
            simpa using this.1
          obtain ⟨b', _, _, g', n', _⟩ := each_to ei e he
          obtain ⟨c', ec⟩ := g'.ref n'
          rw [← ee]
          exact ⟨dk b', c', ec, NestedIs.up keep n', Nat.le_trans (dk_deep b') g'.flat⟩
        · refine wp_if_neg (by decide) ?_
          try refine wpAny_bind (wpAny_pure ?_)
          exact tail
    · have hpr : t.probe hs ((dk d).hash w) (nth t.mask p0 c) = some (.empty (nth t.mask (nth t.mask p0 c) (K - c)).j none) := hpr
      rw [hpr, shift, show c + (K - c) = K by omega]
      dsimp only
      refine wpAny_pure (no fun hm => ?_)
      obtain ⟨i0, h0, e0⟩ := List.getElem_of_mem hm
      have e0 : ds[i0]? = some d := by rw [List.getElem?_eq_getElem h0, e0]
      obtain ⟨r, r1, r2, r3⟩ := hre i0 e0
      obtain ⟨_, _, w2, _⟩ := at_ e0
      exact hno (r - c) i0 (by omega) (by rw [shift, show c + (r - c) = r by omega]; exact r3) w2
theorem seek_all (B : SB w s.heap a es ep t) (ei : EachIs (TupL w h0 R) es.toList ds) (T : TupT t (es.toList.map Prod.fst)) (g : GdT d) (hx : NestedIs s.heap (dk d) (.ref x)) (keep : ∀ b o, h0.get? b = some o → s.heap.get? b = some o) (hu : A.units + 8 < cLine)
    {Q : SetFound → Shared → Prop} (yes : d ∈ ds → Q (.there none) s) (no : ∀ K, d ∉ ds → Stop t.mask ((dk d).hash w) (· ∈ t.place.toList) K → Q (.free (way t.mask ((dk d).hash w) K) false) s) :
    wpAny (model P w) A (setSearch a (.ref x) ((dk d).hash w) true) Q E s := by
  obtain ⟨T, Z, room⟩ := T
  obtain ⟨K, hK, S⟩ := T.first (by omega) ((dk d).hash w)
  have big : 10 * SetTable.turns t.mask < 100000 := by
    unfold SetTable.turns
    rcases Z with e | e | e | e | e <;> omega
  unfold setSearch
  refine seek B ei T g hx keep hu hK S yes (fun z => no K z S) 100000 0 none rfl (Nat.zero_le _) (by omega) fun i e => ?_
  obtain ⟨⟨hv, v⟩, q1, q2, _⟩ := each_at ei e
  have hi : (es.toList.map Prod.fst)[i]? = some ((dk d).hash w) := by rw [List.getElem?_map, q1, ← q2]; rfl
  have li : i < t.place.toList.length := by
    rw [T.len]
    exact (List.getElem?_eq_some_iff.mp hi).1
  obtain ⟨k, k1, k2⟩ := T.ahead S hi (List.getElem?_eq_getElem li)
  exact ⟨k, Nat.zero_le _, k1, by rw [List.getElem?_eq_getElem li, k2]⟩
end
end SS
/-! SS8: one tuple more in a set; the kind of sets of tuples. -/
namespace SS
open PySem PySem.Spec PyProof.Rows L2 PySem.W
theorem each_put {α β : Type} {R : α → β → Prop} {a : α} {b : β} (r : R a b) {as : List α} {bs : List β} (h : EachIs R as bs) : ∀ p, EachIs R (as.take p ++ a :: as.drop p) (bs.take p ++ b :: bs.drop p) := by
  induction h with
  | nil => intro p; simp; exact .cons r .nil
  | cons q t ih =>
    intro p
    cases p with
    | zero => exact .cons r (.cons q t)
    | succ p => exact .cons q (ih p)
theorem pick (es : Array (Int × Value)) (order : Array Nat) (hp : order.toList.Perm (List.range es.size)) : (order.filterMap (es[·]?)).toList.Perm es.toList ∧ (order.filterMap (es[·]?)).toList.map Prod.fst = order.toList.map fun i => (es.map (·.1)).getD i 0 := by
  have one : ∀ i, i < es.size → es[i]? = some (es.getD i (0, .none)) := fun i hi => by
    rw [Array.getD_eq_getD_getElem?, Array.getElem?_eq_getElem hi]
    rfl
  have all : ∀ l : List Nat, (∀ i ∈ l, i < es.size) → l.filterMap (fun i => es[i]?) = l.map fun i => es.getD i (0, .none) := by
    intro l
    induction l with
    | nil => intro _; rfl
    | cons i l ih =>
      intro h
      rw [List.filterMap_cons_some (one i (h i List.mem_cons_self)), ih fun j hj => h j (List.mem_cons_of_mem _ hj)]
      rfl
  have inr : ∀ i ∈ order.toList, i < es.size := fun i hi => List.mem_range.mp (hp.mem_iff.mp hi)
  have e : (order.filterMap (es[·]?)).toList = order.toList.map fun i => es.getD i (0, .none) := by
    rw [Array.toList_filterMap]
    exact all _ inr
  have whole : (List.range es.size).map (fun i => es.getD i (0, .none)) = es.toList := by
    refine List.ext_getElem (by simp) fun i h1 h2 => ?_
    rw [List.getElem_map, List.getElem_range]
    have hi : i < es.size := by simpa using h1
    have := one i hi
    rw [Array.getElem?_eq_getElem hi] at this
    rw [← Option.some.inj this]
    rfl
  rw [e]
  refine ⟨?_, ?_⟩
  · rw [← whole]
    exact hp.map _
  · rw [List.map_map]
    refine List.map_congr_left fun i hi => ?_
    have := inr i hi
    show (es.getD i (0, .none)).1 = (es.map (·.1)).getD i 0
    rw [Array.getD_eq_getD_getElem?, Array.getD_eq_getD_getElem?, Array.getElem?_map, Array.getElem?_eq_getElem this]
    rfl
theorem TabG.any {t : SetTable} {hs : List Int} (T : TabG t hs) (b : Bool) : TabG { t with plain := b } hs := ⟨T.ris, T.dm, T.sz, T.wide, T.bd, T.reach⟩
theorem TabG.fits {t : SetTable} {hs : List Int} (T : TabG t hs) {n : Nat} (hn : hs.length = n) (hm : n ≤ t.mask) : t.fits n = true := by
  have h := T.sz
  unfold SetTable.fits SetTable.fill
  rw [T.dm, Bool.and_eq_true, beq_iff_eq, decide_eq_true_eq]
  show t.place.size = n ∧ t.place.size + 0 ≤ t.mask
  omega
section
variable {P : Program} {w : World} {A : Around} {E : Value → Shared → Prop} {s : Shared} {h0 : Heap} {R : Value → PyData → Prop} {a x : Addr} {ds : List PyData} {d : PyData} {es : Array (Int × Value)} {ep : Nat} {t : SetTable}
theorem relay {o : Obj} (ho : s.heap.get? a = some o) (hex : o.ExactSet) (hd : o.data = .set es ep t) (T : TabG t (es.toList.map Prod.fst)) (led : w.params.followText "set-order" = true ∨ t.led = true) (few : es.size < 1000) (fit : es.size ≤ t.mask)
    {wanted M : Nat} (hw : SetTable.sizeAbove wanted - 1 = M) (hM : Size M) (big : SetTable.sizeAbove wanted ≤ 2048) (hn : es.size * 5 < M * 3) {Q : Unit → Shared → Prop}
    (fin : ∀ h' es' ep' t', Heap.SameBut a s.heap h' → SB w h' a es' ep' t' → es'.toList.Perm es.toList → TupT t' (es'.toList.map Prod.fst) → Q () { s with heap := h' }) : wpAny (model P w) A (setRelay a wanted) Q E s := by
  have sl : sizeLine = 16777216 := sizeLine_eq
  have hlen : (es.toList.map Prod.fst).length = es.size := by rw [List.length_map, Array.length_toList]
  have hM' : es.size ≤ M := by omega
  obtain ⟨t', order, e, O⟩ := anew_ok t (hs := es.map (·.1)) (wanted := wanted) hw hM.wide (by rw [Array.size_map]; exact hM')
  have op := O.perm
  rw [Array.size_map] at op
  obtain ⟨p1, p2⟩ := pick es order op
  have T' := O.tab
  rw [← p2] at T'
  have size2 : (order.filterMap (es[·]?)).size = es.size := by rw [← Array.length_toList, p1.length_eq, Array.length_toList]
  rw [setRelay_eq]
  refine wpAny_bind (wpAny_setState_of ho hd (T.fits hlen fit) ?_)
  dsimp only
  refine wp_if_neg (by omega) ?_
  try refine wpAny_bind (wpAny_pure ?_)
  rw [e]
  dsimp only
  refine wpAny_bind ?_
  refine wp_if_neg (by rw [size2]; simp) ?_
  try refine wpAny_bind (wpAny_pure ?_)
  refine wpAny_pure ?_
  dsimp only
  generalize order.filterMap (es[·]?) = es2 at p1 p2 T' size2 ⊢
  refine wpAny_storeSet_of ho hd ?_ (by omega)
  have len2 : (es2.toList.map Prod.fst).length = es2.size := by rw [List.length_map, Array.length_toList]
  refine fin _ es2 (ep + 1) t' (Heap.SameBut.update ..) ⟨⟨_, store_at ho hd, ⟨hex.1, hex.2.1, hex.2.2⟩, rfl⟩, T'.fits len2 (by rw [O.mask]; omega), T'.ris, by rw [O.led]; exact led, by rw [size2]; unfold scanBound; omega⟩ p1 ⟨T', by rw [O.mask]; exact hM, ?_⟩
  rw [len2, O.mask, size2]
  exact hn
theorem tup_add (hu : A.units + 8 < cLine) : AddOk P w A h0 (TupL w h0 R) TupT R GdT 1000 := by
  intro E s a ds v d Q keep ha G gds hl gd rd rv fin
  obtain ⟨es, ep, t, B, ei, nd, T⟩ := id G
  obtain ⟨o, ho, hex, hd⟩ := B.ob
  obtain ⟨as, rd⟩ := rd
  obtain ⟨k0, _⟩ := dk_is d gd.good rd
  obtain ⟨x, rfl⟩ := gd.ref k0
  have hx := NestedIs.up keep k0
  have d8 : (dk d).depth ≤ 8 := Nat.le_trans (dk_deep d) gd.flat
  have sl : sizeLine = 16777216 := sizeLine_eq
  have len : es.size = ds.length := by rw [← Array.length_toList, ei.length]
  have hlen : (es.toList.map Prod.fst).length = es.size := by rw [List.length_map, Array.length_toList]
  unfold setAdd
  refine wpAny_holding (wpAny_bind (pyHash_key (dk d) _ A s _ hx (by omega) ?_))
  unfold setAddHashed
  refine wpAny_holding ?_
  rw [show (100000 : Nat) = 99999 + 1 from rfl, setAddHashedIn_succ]
  refine wpAny_bind (wpAny_setState_of ho hd B.fits ?_)
  dsimp only
  refine wp_if_neg (by simp [byScan, Value.scannable]) ?_
  try refine wpAny_bind (wpAny_pure ?_)
  refine wpAny_bind (seek_all (s := { s with toks := s.toks + (dk d).draws }) B ei T gd hx keep hu (fun hm => ?_) fun K hm S => ?_)
  · dsimp only
    exact wpAny_pure (fin false s.heap _ ds (Heap.SameBut.refl a s.heap) G (fun e => ⟨.inl, fun z => z.elim id fun z => by rw [z]; exact hm⟩) (Nat.le_succ _))
  · dsimp only
    refine wpAny_bind (wpAny_setState_of ho hd B.fits ?_)
    dsimp only
    obtain ⟨T, Z, room⟩ := T
    have PO := T.put S
    generalize hpt : t.put (way t.mask ((dk d).hash w) K) = pt at PO ⊢
    obtain ⟨t1, p⟩ := pt
    dsimp only at PO ⊢
    have T1 := PO.tab
    have l1 : (SetTable.insertAt es p ((dk d).hash w, Value.ref x)).toList = es.toList.take p ++ ((dk d).hash w, Value.ref x) :: es.toList.drop p := SetTable.toList_insertAt _ _ _
    have hs1 : (SetTable.insertAt es p ((dk d).hash w, Value.ref x)).toList.map Prod.fst = (es.toList.map Prod.fst).take p ++ (dk d).hash w :: (es.toList.map Prod.fst).drop p := by
      rw [l1, List.map_append, List.map_cons, List.map_take, List.map_drop]
    rw [← hs1] at T1
    have ei1 := each_put (R := TupL w h0 R) (a := ((dk d).hash w, Value.ref x)) (b := d) ⟨rfl, gd, k0, rv⟩ ei p
    rw [← l1] at ei1
    have pm : (ds.take p ++ d :: ds.drop p).Perm (d :: ds) := by
      have z : (ds.take p ++ d :: ds.drop p).Perm (d :: (ds.take p ++ ds.drop p)) := List.perm_middle
      rw [List.take_append_drop] at z
      exact z
    generalize ds.take p ++ d :: ds.drop p = ds1 at ei1 pm
    generalize SetTable.insertAt es p ((dk d).hash w, Value.ref x) = es1 at T1 ei1 ⊢
    have sz1 : es1.size = es.size + 1 := by rw [← Array.length_toList, ei1.length, pm.length_eq, List.length_cons, len]
    have hlen1 : (es1.toList.map Prod.fst).length = es1.size := by rw [List.length_map, Array.length_toList]
    have led1 : w.params.followText "set-order" = true ∨ t1.led = true := by rw [PO.led]; exact B.led
    have fill1 : t1.fill = es.size + 1 := by rw [PO.fill, hlen]
    have m1 := PO.mask
    rw [hlen] at room
    have mem1 : ∀ e, e ∈ ds1 ↔ e ∈ ds ∨ e = d := fun e => by rw [pm.mem_iff, List.mem_cons]; exact Or.comm
    -- whatever is told of values
    have rest : ∀ b : Bool, wpAny (model P w) A (do
        storeSet a es1 (if b then t1 else { t1 with plain := false })
        if (!false && (if b then t1 else { t1 with plain := false }).tooFull) = true then do
            setRelay a (SetTable.grown (es.size + 1))
            pure true
          else pure true) Q E { s with toks := s.toks + (dk d).draws } := by
      intro b
      obtain ⟨t2, ht2⟩ : ∃ t2, t2 = (if b then t1 else { t1 with plain := false }) := ⟨_, rfl⟩
      have T2 : TabG t2 (es1.toList.map Prod.fst) := by rw [ht2]; cases b; exact T1.any false; exact T1
      have led2 : w.params.followText "set-order" = true ∨ t2.led = true := by rw [ht2]; cases b <;> exact led1
      have m2 : t2.mask = t.mask := by rw [ht2]; cases b <;> exact m1
      have fill2 : t2.fill = es.size + 1 := by rw [ht2]; cases b <;> exact fill1
      rw [← ht2]
      refine wpAny_bind (wpAny_storeSet_of ho hd ?_ (by omega))
      have sb := Heap.SameBut.update s.heap a (Obj.putSet es1 t2)
      have ho1 := store_at (es' := es1) (t' := t2) ho hd
      by_cases full : t2.tooFull = true
      · refine wp_if_pos (by simp [full]) ?_
        unfold SetTable.tooFull at full
        rw [decide_eq_true_eq, fill2, m2] at full
        have go : ∀ M, SetTable.sizeAbove (SetTable.grown (es.size + 1)) - 1 = M → Size M → SetTable.sizeAbove (SetTable.grown (es.size + 1)) ≤ 2048 → (es.size + 1) * 5 < M * 3 → es.size + 1 ≤ t.mask →
            wpAny (model P w) A (setRelay a (SetTable.grown (es.size + 1)) >>= fun _ => pure true) Q E { s with heap := s.heap.update a (Obj.putSet es1 t2), toks := s.toks + (dk d).draws } := fun M q1 q2 q3 q4 q5 => by
          refine wpAny_bind (relay (s := { s with heap := s.heap.update a (Obj.putSet es1 t2), toks := s.toks + (dk d).draws }) ho1 ⟨hex.1, hex.2.1, hex.2.2⟩ rfl T2 led2 (by omega) (by rw [m2]; omega) q1 q2 q3 (by omega) fun h' es2 ep2 t3 sb2 B2 p2 T3 => ?_)
          obtain ⟨ds2, pd, e2⟩ := each_perm p2 ei1
          exact wpAny_pure (fin true h' _ ds2 (sb.trans sb2) ⟨es2, ep2, t3, B2, e2, (pd.trans pm).nodup_iff.mpr (List.nodup_cons.mpr ⟨hm, nd⟩), T3⟩ (fun e => by rw [pd.mem_iff]; exact mem1 e) (by rw [pd.length_eq, pm.length_eq, List.length_cons]; exact Nat.le_refl _))
        rcases Z with e | e | e | e | e
        · have q : es.size = 4 := by omega
          exact go 31 (by rw [q, grow5]) (.inr (.inl rfl)) (by rw [q, grow5]; decide) (by omega) (by omega)
        · have q : es.size = 18 := by omega
          exact go 127 (by rw [q, grow19]) (.inr (.inr (.inl rfl))) (by rw [q, grow19]; decide) (by omega) (by omega)
        · have q : es.size = 76 := by omega
          exact go 511 (by rw [q, grow77]) (.inr (.inr (.inr (.inl rfl)))) (by rw [q, grow77]; decide) (by omega) (by omega)
        · have q : es.size = 306 := by omega
          exact go 2047 (by rw [q, grow307]) (.inr (.inr (.inr (.inr rfl)))) (by rw [q, grow307]; decide) (by omega) (by omega)
        · omega
      · refine wp_if_neg (by simp [full]) (wpAny_pure (fin true _ _ ds1 sb ⟨es1, ep + 1, t2, ⟨⟨_, ho1, ⟨hex.1, hex.2.1, hex.2.2⟩, rfl⟩, T2.fits hlen1 ?_, T2.ris, led2, by rw [sz1]; unfold scanBound; omega⟩, ei1, pm.nodup_iff.mpr (List.nodup_cons.mpr ⟨hm, nd⟩), T2, by rw [m2]; exact Z, ?_⟩ mem1 (by rw [pm.length_eq, List.length_cons]; exact Nat.le_refl _)))
        · unfold SetTable.tooFull at full
          rw [decide_eq_true_eq, fill2, m2] at full
          rw [m2]
          rcases Z with e | e | e | e | e <;> omega
        · unfold SetTable.tooFull at full
          rw [decide_eq_true_eq, fill2, m2] at full
          rw [hlen1, m2]
          omega
    by_cases pl : t1.plain = true
    · first
        | (refine wpAny_bind ?_; refine wp_if_pos pl ?_; exact some_value (dk d) _ 8 _ _ hx d8 fun b => rest b)
        | exact wp_if_pos pl (wpAny_bind (some_value (dk d) _ 8 _ _ hx d8 fun b => rest b))
    · first
        | (refine wpAny_bind ?_; refine wp_if_neg pl ?_; exact wpAny_pure (rest true))
        | exact wp_if_neg pl (wpAny_bind (wpAny_pure (rest true)))
end
end SS
/-! SS9: the kind of sets of tuples. -/
namespace SS
open PySem PySem.Spec PyProof.Rows L2 PySem.W
theorem tupT_fresh (led : Bool) : TupT (.fresh 0 0 led) [] :=
  ⟨⟨List.Pairwise.nil, rfl, rfl, wide7, fun x hx => (by cases hx), fun i h j e => (by simp at e)⟩, .inl rfl, (show 0 * 5 < 7 * 3 by decide)⟩
def tupK (P : Program) (w : World) (A : Around) (hu : A.units + 40 < cLine) : SKind P w A where
  L := fun h R => TupL w h R
  T := TupT
  Good := GdT
  most := 1000
  t0 := tupT_fresh
  lr := fun h => h.2.2.2
  flat := fun {h v d as} g r => (dk_is d g.good r).2
  add := fun A' h R hA => tup_add (by omega)
end SS
/-! PV3: a small language over plain data: what a body computes. -/
namespace PV
open PySem L2

structure Exn where
  cls : Nat
  args : List D
inductive R (α : Type) where
  | ok (a : α) | exc (e : Exn) | bad
def R.bind {α β : Type} : R α → (α → R β) → R β
  | .ok a, f => f a
  | .exc e, _ => .exc e
  | .bad, _ => .bad
@[simp] theorem R.ok_bind {α β : Type} (a : α) (f : α → R β) : (R.ok a).bind f = f a := rfl
@[simp] theorem R.exc_bind {α β : Type} (e : Exn) (f : α → R β) : (R.exc e : R α).bind f = .exc e := rfl
@[simp] theorem R.bad_bind {α β : Type} (f : α → R β) : (R.bad : R α).bind f = .bad := rfl
def R.need {α : Type} (c : Prop) [Decidable c] (r : R α) : R α := if c then r else .bad
theorem R.need_ok {α : Type} {c : Prop} [Decidable c] {r : R α} (h : c) : R.need c r = r := if_pos h
theorem R.need_eq {α : Type} {c : Prop} [Decidable c] {r : R α} {a : α} (h : R.need c r = .ok a) : c ∧ r = .ok a := by
  unfold R.need at h
  split at h
  · exact ⟨‹_›, h⟩
  · cases h

/-! ### Python's == of data -/
mutual
def toPy : D → PyData
  | .non => .none
  | .bl b => .bool b
  | .int i => .int i
  | .str s => .str (mkS s)
  | .tup xs => .tuple (toPys xs)
  | .lst xs => .list (toPys xs)
  | .dic _ _ => .dict []
  | .scr ns => .list (ns.map PyData.int)
  | .frz _ => .none
  | .err _ _ => .none
  | .obj _ _ => .none
def toPys : List D → List PyData
  | [] => []
  | x :: xs => toPy x :: toPys xs
end
def eqD (a b : D) : Bool := PyData.eqv (toPy a) (toPy b)
mutual
def dep : D → Nat
  | .tup xs => deps xs + 1
  | .lst xs => deps xs + 1
  | .dic _ _ => 1
  | .scr ns => PyData.depthAll (ns.map PyData.int) + 1
  | _ => 0
def deps : List D → Nat
  | [] => 0
  | x :: xs => max (dep x) (deps xs)
end
mutual
/-- nothing but numbers, texts, lists, tuples -/
def noDic : D → Bool
  | .non => true
  | .bl _ => true
  | .int _ => true
  | .str _ => true
  | .scr _ => true
  | .tup xs => noDics xs
  | .lst xs => noDics xs
  | _ => false
def noDics : List D → Bool
  | [] => true
  | x :: xs => noDic x && noDics xs
end
/-- one of the two is not too deep -/
def shal (a b : D) : Prop := (dep a ≤ 64 ∨ dep b ≤ 64) ∧ (noDic a = true ∧ noDic b = true)
instance (a b : D) : Decidable (shal a b) := by unfold shal; exact inferInstance

/-! ### what the operations do -/
def sc0 : D → Bool
  | .non => true | .bl _ => true | .int _ => true | .str _ => true | _ => false
/-! no list within -/
mutual
def sc : D → Bool
  | .non => true
  | .bl _ => true
  | .int _ => true
  | .str _ => true
  | .tup xs => scs xs
  | _ => false
def scs : List D → Bool
  | [] => true
  | x :: xs => sc x && scs xs
end
/-- a list, a dict with nothing in it that can be changed; or no list within -/
def sc1 : D → Bool
  | .lst xs => scs xs
  | .dic ks vs => scs ks && scs vs
  | d => sc d
def isMu : D → Bool
  | .lst _ => true
  | .dic _ _ => true
  | _ => false
def intsOf : List D → Option (List Int)
  | [] => some []
  | .int i :: r => (intsOf r).map (i :: ·)
  | _ :: _ => none
def strsOf : List D → Option (List (List Nat))
  | [] => some []
  | .str s :: r => (strsOf r).map (s :: ·)
  | _ :: _ => none
def blsOf : List D → Option (List Bool)
  | [] => some []
  | .bl b :: r => (blsOf r).map (b :: ·)
  | _ :: _ => none
abbrev LIM : Nat := sizeLine
abbrev B64 : Int := 18446744073709551616

def addD : D → D → R D
  | .int a, .int b => .ok (.int (a + b))
  | .str a, .str b => .need (a.length + b.length ≤ LIM) (.ok (.str (a ++ b)))
  | .lst a, .lst b => .need (a.length + b.length ≤ LIM) (.ok (.lst (a ++ b)))
  | .tup a, .tup b => .need (a.length + b.length ≤ LIM) (.ok (.tup (a ++ b)))
  | _, _ => .bad
def subD : D → D → R D
  | .int a, .int b => .ok (.int (a - b))
  | _, _ => .bad
def rep (s : List Nat) : Nat → List Nat
  | 0 => []
  | n + 1 => s ++ rep s n
def mulD : D → D → R D
  | .int a, .int b => .need ((-B64 < a ∧ a < B64) ∨ (-B64 < b ∧ b < B64)) (.ok (.int (a * b)))
  | .str a, .int b => .need (-1000000 ≤ b ∧ b < 1000000 ∧ a.length * b.toNat ≤ 16777216 ∧ a.length * b.toNat ≤ LIM) (.ok (.str (rep a b.toNat)))
  | _, _ => .bad
def modD : D → D → R D
  | .int a, .int b => .need (0 < b) (.ok (.int (a % b)))
  | _, _ => .bad
def fdivD : D → D → R D
  | .int a, .int b => .need (0 < b ∧ b < 1073741824) (.ok (.int (a / b)))
  | _, _ => .bad
def powD : D → D → R D
  | .int a, .int b => .need (0 ≤ b ∧ b ≤ 1000000 ∧ a.natAbs < 18446744073709551616) (.ok (.int (a ^ b.toNat)))
  | _, _ => .bad
def shlD : D → D → R D
  | .int a, .int b => .need (0 ≤ b ∧ b ≤ 1000000 ∧ a.natAbs < 18446744073709551616) (.ok (.int (a * 2 ^ b.toNat)))
  | _, _ => .bad
def shrD : D → D → R D
  | .int a, .int b => .need (0 ≤ b) (.ok (.int (a / 2 ^ b.toNat)))
  | _, _ => .bad
def andD : D → D → R D
  | .int a, .int b => .ok (.int (Builtin.bitAnd a b))
  | _, _ => .bad
def orD : D → D → R D
  | .int a, .int b => .ok (.int (Builtin.bitOr a b))
  | _, _ => .bad
def binD : Operator → D → D → R D
  | .Add => addD | .Sub => subD | .Mult => mulD | .Mod => modD | .FloorDiv => fdivD | .Pow => powD
  | .LShift => shlD | .RShift => shrD | .BitAnd => andD | .BitOr => orD
  | _ => fun _ _ => .bad
def negD : D → R D
  | .int a => .ok (.int (-a))
  | _ => .bad

def flatD : D → Bool
  | .int _ => true
  | .str _ => true
  | _ => false
mutual
def plD : D → Bool
  | .int _ => true
  | .str _ => true
  | .tup xs => plDs xs
  | _ => false
def plDs : List D → Bool
  | [] => true
  | x :: xs => plD x && plDs xs
end
/-- a tuple that can be a member of a set -/
def tupB (d : D) : Bool := match d with
  | .tup (x :: r) => plDs (x :: r) && decide (dep d ≤ 8)
  | _ => false
/-! ### dicts: numbers and texts as keys, or tuples -/
def okKey (ks : List D) (k : D) : Bool := (flatD k && ks.all flatD) || (tupB k && ks.all tupB)
def kix (ks : List D) (k : D) : Option Nat := ks.findIdx? fun x => eqD x k
def dget (ks vs : List D) (k : D) : Option D := match kix ks k with
  | some i => vs[i]?
  | none => none
/-- keys, values, with one more or one other -/
def dputK (ks : List D) (k : D) : List D := match kix ks k with
  | some _ => ks
  | none => ks ++ [k]
def dputV (ks vs : List D) (k v : D) : List D := match kix ks k with
  | some i => vs.set i v
  | none => vs ++ [v]
def inS : D → List Nat → R D
  | .str [c], s => .ok (.bl (decide (c ∈ s)))
  | _, _ => .bad
def inD (x : D) : D → R D
  | .lst xs => .need (dep x ≤ 64 ∧ (noDic x = true ∧ noDics xs = true)) (.ok (.bl (xs.any fun y => eqD y x)))
  | .tup xs => .need (dep x ≤ 64 ∧ (noDic x = true ∧ noDics xs = true)) (.ok (.bl (xs.any fun y => eqD y x)))
  | .str s => inS x s
  | .dic ks _ => .need (okKey ks x = true) (.ok (.bl (kix ks x).isSome))
  | _ => .bad
def bnot : R D → R D
  | .ok (.bl b) => .ok (.bl (!b))
  | .ok _ => .bad
  | r => r
def asB : R D → R D
  | .ok (.bl b) => .ok (.bl b)
  | .ok _ => .bad
  | r => r
def isNone : D → Bool
  | .non => true
  | .frz d => isNone d
  | _ => false
def cmpD : CmpOp → D → D → R D
  | .Eq, a, b => .need (shal a b) (.ok (.bl (eqD a b)))
  | .NotEq, a, b => .need (shal a b) (.ok (.bl (!eqD a b)))
  | .Lt, .int a, .int b => .ok (.bl (decide (a < b)))
  | .LtE, .int a, .int b => .ok (.bl (decide (a ≤ b)))
  | .Gt, .int a, .int b => .ok (.bl (decide (b < a)))
  | .GtE, .int a, .int b => .ok (.bl (decide (b ≤ a)))
  | .Is, a, .non => .ok (.bl (isNone a))
  | .IsNot, a, .non => .ok (.bl (!isNone a))
  | .Is, .bl a, .bl b => .ok (.bl (a == b))
  | .IsNot, .bl a, .bl b => .ok (.bl (!(a == b)))
  | .In, a, b => inD a b
  | .NotIn, a, b => bnot (inD a b)
  | _, _, _ => .bad

/-- an index from either end -/
def ixD : D → D → R D
  | .lst xs, .int i => (match atI xs i with
    | some d => .ok d
    | none => .bad)
  | .tup xs, .int i => (match atI xs i with
    | some d => .ok d
    | none => .bad)
  | .str s, .int i => (match atI s i with
    | some c => .ok (.str [c])
    | none => .bad)
  | .scr ns, .int i => (match atI ns i with
    | some c => .ok (.int c)
    | none => .bad)
  | .dic ks vs, k => .need (okKey ks k = true) (match dget ks vs k with
    | some d => .ok d
    | none => .bad)
  | _, _ => .bad
/-- a slice's bound, left out or written -/
def part : Bool → D → R (Option Int)
  | true, _ => .ok none
  | false, .int i => .ok (some i)
  | _, _ => .bad
def cut {α : Type} (xs : List α) (lo hi : Option Int) : List α := (xs.drop (HT.sIx xs.length 0 lo)).take (HT.sIx xs.length xs.length hi - HT.sIx xs.length 0 lo)
def cutD : D → Option Int → Option Int → R D
  | .lst xs, lo, hi => .ok (.lst (cut xs lo hi))
  | .tup xs, lo, hi => .ok (.tup (cut xs lo hi))
  | .str s, lo, hi => .ok (.str (cut s lo hi))
  | .scr ns, lo, hi => .ok (.lst ((cut ns lo hi).map D.int))
  | _, _, _ => .bad

inductive Ty | int | bool | str | list | tuple | dict
def isTy : Ty → D → Bool
  | .int, .int _ => true
  | .int, .bl _ => true
  | .bool, .bl _ => true
  | .str, .str _ => true
  | .list, .lst _ => true
  | .tuple, .tup _ => true
  | .dict, .dic _ _ => true
  | _, _ => false
/-- what isinstance is not asked of -/
def isScr : D → Bool
  | .scr _ => true
  | .dic _ _ => true
  | .frz _ => true
  | .err _ _ => true
  | .obj _ _ => true
  | _ => false
def lenD : D → R D
  | .str s => .ok (.int s.length)
  | .lst xs => .ok (.int xs.length)
  | .tup xs => .ok (.int xs.length)
  | .scr ns => .ok (.int ns.length)
  | .dic ks _ => .need ((ks.all flatD || ks.all tupB) = true) (.ok (.int ks.length))
  | _ => .bad
def digits (n : Nat) : List Nat := TL.numL n
/-! order -/
def tokD (d : D) : List (Int ⊕ List Nat) := PySem.W.keyToks (toPy d)
def ltD (a b : D) : Bool := PyProof.Rows.lexLt PyProof.Rows.itemOrd (tokD a) (tokD b)
def likD (a b : D) : Bool := PySem.W.alike (toPy a) (toPy b)
def insD (x : D) : List D → List D
  | [] => [x]
  | y :: ys => if ltD x y then x :: y :: ys else if ltD y x then y :: insD x ys else y :: ys
/-- in order, each once -/
def ssetL : List D → List D
  | [] => []
  | x :: xs => insD x (ssetL xs)
def srtL (xs : List D) : List D := xs.mergeSort fun a b => !ltD b a
def likAll (xs : List D) : Bool := xs.all fun x => xs.all fun y => likD x y
def setB (xs : List D) : Bool := likAll xs && (xs.all flatD && decide (xs.length < 4096) || xs.all tupB && decide (xs.length < 1000))
def ssetD : D → R D
  | .lst xs => .need (setB xs = true) (.ok (.lst (ssetL xs)))
  | .str s => .need (s.length < 4096) (.ok (.lst (ssetL (s.map fun c => D.str [c]))))
  | _ => .bad
def srtB (xs : List D) : Bool := xs.all flatD && likAll xs
inductive Bn | len | tuple | list | str | int | all | any | min | max | abs | sorted | isI (t : Ty)
def bnD : Bn → List D → R D
  | .len, [d] => lenD d
  | .tuple, [.lst xs] => .ok (.tup xs)
  | .tuple, [.tup xs] => .ok (.tup xs)
  | .list, [.lst xs] => .ok (.lst xs)
  | .list, [.tup xs] => .ok (.lst xs)
  | .str, [.int i] => .need (0 ≤ i ∧ i < 1000000000000000000) (.ok (.str (digits i.toNat)))
  | .int, [.int i] => .ok (.int i)
  | .int, [.bl b] => .ok (.int (if b then 1 else 0))
  | .all, [.lst xs] => (match blsOf xs with
    | some bs => .ok (.bl (bs.all id))
    | none => .bad)
  | .any, [.lst xs] => (match blsOf xs with
    | some bs => .ok (.bl (bs.any id))
    | none => .bad)
  | .min, [.int a, .int b] => .ok (.int (if b < a then b else a))
  | .max, [.int a, .int b] => .ok (.int (if b > a then b else a))
  | .min, [.lst xs] => (match intsOf xs with
    | some (n :: ns) => .ok (.int (ns.foldl min n))
    | _ => .bad)
  | .max, [.lst xs] => (match intsOf xs with
    | some (n :: ns) => .ok (.int (ns.foldl max n))
    | _ => .bad)
  | .abs, [.int a] => .ok (.int (if a < 0 then -a else a))
  | .sorted, [.lst xs] => .need (srtB xs = true) (.ok (.lst (srtL xs)))
  | .isI t, [d] => .need (isScr d = false) (.ok (.bl (isTy t d)))
  | _, _ => .bad
def joinS (sep : List Nat) : List (List Nat) → List Nat
  | [] => []
  | [s] => s
  | s :: t :: r => s ++ (sep ++ joinS sep (t :: r))
inductive Mt | join | upper | find | split | index | tindex
/-- the receiver that a method has -/
def Mt.rcv : Mt → D → Bool
  | .join, .str _ => true
  | .upper, .str _ => true
  | .find, .str _ => true
  | .split, .str _ => true
  | .index, .str _ => true
  | .tindex, .tup _ => true
  | _, _ => false
/-- an ASCII text -/
def ascii (s : List Nat) : Bool := s.all (· < 128)
def upC (c : Nat) : Nat := if 97 ≤ c ∧ c ≤ 122 then c - 32 else c
def splitL (s t : List Nat) : List (List Nat) := (Txt.split (mkS s) (mkS t)).map fun z => z.cps.toList
def upperL (s : List Nat) : List Nat := (Txt.upper (mkS s)).cps.toList
def mtD : Mt → D → List D → R D
  | .join, .str sep, [.lst xs] => (match strsOf xs with
    | some ys => .need ((ys.map List.length).sum + ys.length * sep.length ≤ 16777216) (.ok (.str (joinS sep ys)))
    | none => .bad)
  | .find, .str s, [.str t] => .ok (.int (Txt.find (mkS s) (mkS t)))
  | .split, .str s, [.str t] => .need (t ≠ [] ∧ s.length + 2 ≤ LIM ∧ ∀ p ∈ splitL s t, okS p) (.ok (.lst ((splitL s t).map D.str)))
  | .tindex, .tup xs, [.str t] => (match strsOf xs with
    | some ys => (match ys.findIdx? (fun y => decide (y = t)) with
      | some j => .ok (.int (j : Nat))
      | none => .bad)
    | none => .bad)
  | .index, .str s, [.str t] => (match Builtin.Str.occurrences (mkS s) (mkS t) 0 (mkS s).length 1 with
    | i :: _ => .ok (.int (i : Nat))
    | [] => .bad)
  | .upper, .str s, [] => .need (s.length ≤ 5592405 ∧ okS (upperL s)) (.ok (.str (upperL s)))
  | _, _, _ => .bad

def isDic : D → Bool
  | .dic _ _ => true
  | _ => false
/-- d.get(k), d.get(k, x) -/
def dgtD : D → List D → R D
  | .dic ks vs, [k] => .need (okKey ks k = true) (.ok ((dget ks vs k).getD .non))
  | .dic ks vs, [k, x] => .need (okKey ks k = true) (.ok ((dget ks vs k).getD x))
  | _, _ => .bad
/-- an item of a thing whose items are one's own -/
def ixbD : D → D → R D
  | .lst xs, .int i => (match atI xs i with
    | some d => .ok d
    | none => .bad)
  | .tup xs, .int i => (match atI xs i with
    | some d => .ok d
    | none => .bad)
  | .dic ks vs, k => .need (okKey ks k = true) (match dget ks vs k with
    | some d => .ok d
    | none => .bad)
  | _, _ => .bad
/-- {k: (texts ..), ..}[d] -/
def pickD (kvs : List (List Nat × List (List Nat))) : D → R D
  | .str s => (match kvs.find? (fun x => decide (x.1 = s)) with
    | some x => .ok (.tup (x.2.map D.str))
    | none => .bad)
  | _ => .bad

/-- how a list of one's own is changed -/
inductive MO | app | ext | ins | pop | clr | set
  deriving DecidableEq
def mutD : MO → List D → List D → R (List D)
  | .app, xs, [d] => .need (xs.length < LIM) (.ok (xs ++ [d]))
  | .ext, xs, [.lst ys] => .need (xs.length + ys.length ≤ LIM) (.ok (xs ++ ys))
  | .ins, xs, [.int i, d] => .need (xs.length < LIM ∧ 0 ≤ i ∧ i < 9223372036854775808) (.ok (xs.take i.toNat ++ [d] ++ xs.drop i.toNat))
  | .pop, xs, [] => .need (0 < xs.length) (.ok xs.dropLast)
  | .clr, _, [] => .ok []
  | .set, xs, [d, .int i] => (match ixN xs.length i with
    | some j => .ok (xs.set j d)
    | none => .bad)
  | _, _, _ => .bad

/-- a dict of one's own is changed -/
def mutK : MO → List D → List D → List D → R D
  | .set, ks, vs, [v, k] => .need (okKey ks k = true ∧ ks.length < LIM) (.ok (.dic (dputK ks k) (dputV ks vs k v)))
  | _, _, _, _ => .bad
/-! ### the language -/
inductive Tg where
  | one (i : Nat) | nil | cons (t r : Tg)
mutual
inductive CE where
  | sl (i : Nat) | mv (i : Nat) | cI (i : Int) | cS (s : List Nat) | cB (b : Bool) | cN | gl (k : Nat)
  | bin (op : Operator) (a b : CE) | neg (a : CE) | not (a : CE)
  | cmp (op : CmpOp) (a b : CE) | cmp2 (o1 o2 : CmpOp) (a b c : CE)
  | and (a b : CE) | or (a b : CE) | one (a : CE) | ite (c a b : CE)
  | tup (xs : CL) | lst (xs : CL) | dnew
  | ix (a i : CE) | ixb (a i : CE) | dgt (o : CE) (xs : CL) | cut (a lo hi : CE) | lrev (a : CE) | sset (a : CE) | gidx (k : Nat) (a : CE) | pick (kvs : List (List Nat × List (List Nat))) (a : CE)
  | call (lent : Bool) (f : Nat) (xs : CL) | callo (f : Nat) (xs : CL) | bn (b : Bn) (xs : CL) | mt (m : Mt) (o : CE) (xs : CL)
  | lc (own : List Nat) (tg : Tg) (it : CI) (ifs : CL) (elt : CE)
inductive CL where
  | nil | cons (e : CE) (r : CL)
inductive CI where
  | seq (e : CE) | rng1 (a : CE) | rng2 (a b : CE) | zip (a b : CE) | rev (a : CE)
end
mutual
inductive CS where
  | asg (i t : Nat) (e : CE) | unp (tg : Tg) (e : CE) | par (i j : Nat) (a b : CE)
  | ret (e : CE) | retN | exp (e : CE) | mut (m : MO) (i : Nat) (xs : CL) | callM (f i : Nat) (xs : CL)
  | ifs (c : CE) (a b : CB) | whl (c : CE) (b : CB) | forr (tg : Tg) (it : CI) (b : CB)
  | brk | cont | pass | fz (i : Nat) | dr (i : Nat) | bad
inductive CB where
  | nil | cons (s : CS) (r : CB)
end

def CE.isN : CE → Bool
  | .cN => true
  | _ => false
/-! ### its meaning -/
/-- what the other defs do; what the module's constants are; how many turns a while may take -/
structure Wld where
  call : Nat → List D → R D
  con : Nat → D
  turns : Nat
def slotD (ρ : Env) (i : Nat) : R D := match ρ[i]? with
  | some (some d) => .ok d
  | _ => .bad
def wipeD (ρ : Env) : List Nat → Env
  | [] => ρ
  | v :: vs => (wipeD ρ vs).set v none
mutual
def giveT : Tg → D → Env → R Env
  | .one i, d, ρ => .need (i < ρ.length) (.ok (ρ.set i (some d)))
  | .nil, .tup [], ρ => .ok ρ
  | .cons t r, .tup (d :: ds), ρ => (giveT t d ρ).bind fun ρ' => giveT r (.tup ds) ρ'
  | _, _, _ => .bad
end
def rngD (a b : Int) : List D := (List.range (b - a).toNat).map fun (k : Nat) => D.int (a + ((k : Nat) : Int))
def smallR (a : Int) : Prop := -4611686018427387904 ≤ a ∧ a < 4611686018427387904
instance (a : Int) : Decidable (smallR a) := by unfold smallR; exact inferInstance
def seqD : D → R (List D)
  | .lst xs => .ok xs
  | .tup xs => .ok xs
  | .str s => .ok (s.map fun c => D.str [c])
  | .dic ks _ => .ok ks
  | _ => .bad
def zipD : D → D → R (List D)
  | .lst xs, .lst ys => .ok (List.zipWith (fun a b => D.tup [a, b]) xs ys)
  | .tup xs, .tup ys => .ok (List.zipWith (fun a b => D.tup [a, b]) xs ys)
  | _, _ => .bad
def lrevD : D → R D
  | .lst xs => .ok (.lst xs.reverse)
  | .tup xs => .ok (.lst xs.reverse)
  | .str s => .ok (.lst (s.map fun c => D.str [c]).reverse)
  | _ => .bad
def revD : D → R (List D)
  | .lst xs => .ok xs.reverse
  | .tup xs => .ok xs.reverse
  | _ => .bad
/-- a comprehension's turns -/
def lcGo (turn : D → R (Option D)) : List D → List D → R (List D)
  | [], acc => .ok acc
  | d :: ds, acc => match turn d with
    | .ok (some x) => .need (acc.length < LIM) (lcGo turn ds (acc ++ [x]))
    | .ok none => lcGo turn ds acc
    | _ => .bad
mutual
def evE (w : Wld) : CE → Env → R D
  | .sl i, ρ => slotD ρ i
  | .mv i, ρ => slotD ρ i
  | .cI i, _ => .ok (.int i)
  | .cS s, _ => .ok (.str s)
  | .cB b, _ => .ok (.bl b)
  | .cN, _ => .ok .non
  | .gl k, _ => .ok (w.con k)
  | .bin op a b, ρ => (evE w a ρ).bind fun x => (evE w b ρ).bind fun y => binD op x y
  | .neg a, ρ => (evE w a ρ).bind fun x => negD x
  | .not a, ρ => bnot (evE w a ρ)
  | .cmp op a b, ρ => (evE w a ρ).bind fun x => (evE w b ρ).bind fun y => cmpD op x y
  | .cmp2 o1 o2 a b c, ρ => (evE w a ρ).bind fun x => (evE w b ρ).bind fun y => (cmpD o1 x y).bind fun z => match z with
    | .bl true => (evE w c ρ).bind fun u => cmpD o2 y u
    | .bl false => .ok (.bl false)
    | _ => .bad
  | .and a b, ρ => (evE w a ρ).bind fun x => match x with
    | .bl true => asB (evE w b ρ)
    | .bl false => .ok (.bl false)
    | _ => .bad
  | .or a b, ρ => (evE w a ρ).bind fun x => match x with
    | .bl true => .ok (.bl true)
    | .bl false => asB (evE w b ρ)
    | _ => .bad
  | .one a, ρ => asB (evE w a ρ)
  | .ite c a b, ρ => (evE w c ρ).bind fun x => match x with
    | .bl true => evE w a ρ
    | .bl false => evE w b ρ
    | _ => .bad
  | .tup xs, ρ => (evL w xs ρ).bind fun ds => .need (ds.length ≤ LIM) (.ok (.tup ds))
  | .lst xs, ρ => (evL w xs ρ).bind fun ds => .need (ds.length ≤ LIM) (.ok (.lst ds))
  | .dnew, _ => .ok (.dic [] [])
  | .ix a i, ρ => (evE w a ρ).bind fun x => (evE w i ρ).bind fun y => ixD x y
  | .ixb a i, ρ => (evE w a ρ).bind fun x => (evE w i ρ).bind fun y => ixbD x y
  | .dgt o xs, ρ => (evE w o ρ).bind fun d => .need (isDic d = true) ((evL w xs ρ).bind fun ds => dgtD d ds)
  | .cut a l h, ρ => (evE w a ρ).bind fun x => ((evE w l ρ).bind (part l.isN)).bind fun lo => ((evE w h ρ).bind (part h.isN)).bind fun hi => cutD x lo hi
  | .lrev a, ρ => (evE w a ρ).bind lrevD
  | .sset a, ρ => (evE w a ρ).bind ssetD
  | .gidx k a, ρ => (evE w a ρ).bind fun y => mtD .tindex (w.con k) [y]
  | .pick kvs a, ρ => (evE w a ρ).bind (pickD kvs)
  | .call lent f xs, ρ => (evL w xs ρ).bind fun ds => (w.call f ds).bind fun d => .need (lent = true → sc d = true) (.ok d)
  | .callo f xs, ρ => (evL w xs ρ).bind fun ds => (w.call f ds).bind fun d => .need (sc1 d = true) (.ok d)
  | .bn b xs, ρ => (evL w xs ρ).bind fun ds => bnD b ds
  | .mt m o xs, ρ => (evE w o ρ).bind fun d => .need (m.rcv d = true) ((evL w xs ρ).bind fun ds => mtD m d ds)
  | .lc own tg it ifs elt, ρ => (evI w it ρ).bind fun ds =>
      (lcGo (fun d => match giveT tg d (wipeD ρ own) with
        | .ok ρ' => (match evL w ifs ρ' with
          | .ok [] => (match evE w elt ρ' with
            | .ok x => .ok (some x)
            | _ => .bad)
          | .ok [.bl true] => (match evE w elt ρ' with
            | .ok x => .ok (some x)
            | _ => .bad)
          | .ok [.bl false] => .ok none
          | _ => .bad)
        | _ => .bad) ds []).bind fun xs => .ok (.lst xs)
def evL (w : Wld) : CL → Env → R (List D)
  | .nil, _ => .ok []
  | .cons e r, ρ => (evE w e ρ).bind fun d => (evL w r ρ).bind fun ds => .ok (d :: ds)
def evI (w : Wld) : CI → Env → R (List D)
  | .seq e, ρ => (evE w e ρ).bind seqD
  | .rng1 a, ρ => (evE w a ρ).bind fun x => match x with
    | .int b => .need (smallR b) (.ok (rngD 0 b))
    | _ => .bad
  | .rng2 a b, ρ => (evE w a ρ).bind fun x => (evE w b ρ).bind fun y => match x, y with
    | .int a, .int b => .need (smallR a ∧ smallR b) (.ok (rngD a b))
    | _, _ => .bad
  | .zip a b, ρ => (evE w a ρ).bind fun x => (evE w b ρ).bind fun y => zipD x y
  | .rev a, ρ => (evE w a ρ).bind revD
end

inductive O where
  | nx (ρ : Env) | rt (d : D) | bk (ρ : Env) | ct (ρ : Env) | exc (e : Exn) (ρ : Env) | bad
/-- an expression's end, in a statement -/
def R.out {α : Type} (r : R α) (ρ : Env) (f : α → O) : O := match r with
  | .ok a => f a
  | .exc e => .exc e ρ
  | .bad => .bad
@[simp] theorem R.out_ok {α : Type} (a : α) (ρ : Env) (f : α → O) : (R.ok a).out ρ f = f a := rfl
def mutKO (r : R D) (i : Nat) (ρ : Env) : O := match r with
  | .ok d => .nx (ρ.set i (some d))
  | _ => .bad
def mutO (r : R (List D)) (i : Nat) (ρ : Env) : O := match r with
  | .ok zs => .nx (ρ.set i (some (.lst zs)))
  | _ => .bad
def forGo (tg : Tg) (body : Env → O) : List D → Env → O
  | [], ρ => .nx ρ
  | d :: ds, ρ => match giveT tg d ρ with
    | .ok ρ' => (match body ρ' with
      | .nx ρ'' => forGo tg body ds ρ''
      | .ct ρ'' => forGo tg body ds ρ''
      | .bk ρ'' => .nx ρ''
      | o => o)
    | _ => .bad
def whlGo (test : Env → R D) (body : Env → O) : Nat → Env → O
  | 0, _ => .bad
  | n + 1, ρ => (test ρ).out ρ fun x => match x with
    | .bl true => (match body ρ with
      | .nx ρ' => whlGo test body n ρ'
      | .ct ρ' => whlGo test body n ρ'
      | .bk ρ' => .nx ρ'
      | o => o)
    | .bl false => .nx ρ
    | _ => .bad
mutual
def exS (w : Wld) : CS → Env → O
  | .asg i _ e, ρ => (evE w e ρ).out ρ fun d => if i < ρ.length then .nx (ρ.set i (some d)) else .bad
  | .unp tg e, ρ => (evE w e ρ).out ρ fun d => (match giveT tg d ρ with
    | .ok ρ' => .nx ρ'
    | _ => .bad)
  | .par i j a b, ρ => (evE w a ρ).out ρ fun x => (evE w b ρ).out ρ fun y => if i < ρ.length ∧ j < ρ.length then .nx ((ρ.set i (some x)).set j (some y)) else .bad
  | .ret e, ρ => (evE w e ρ).out ρ .rt
  | .retN, _ => .rt .non
  | .exp e, ρ => (evE w e ρ).out ρ fun _ => .nx ρ
  | .mut m i xs, ρ => (match ρ[i]? with
    | some (some (.lst ys)) => (evL w xs ρ).out ρ fun ds => mutO (mutD m ys ds) i ρ
    | some (some (.dic ks vs)) => if m = .set then (evL w xs ρ).out ρ fun ds => mutKO (mutK m ks vs ds) i ρ else .bad
    | _ => .bad)
  | .callM f i xs, ρ => (match ρ[i]? with
    | some (some d0) => (evL w xs ρ).out ρ fun ds => mutKO (R.need (isMu d0 = true) (w.call f (d0 :: ds))) i ρ
    | _ => .bad)
  | .ifs c a b, ρ => (evE w c ρ).out ρ fun x => match x with
    | .bl true => exB w a ρ
    | .bl false => exB w b ρ
    | _ => .bad
  | .whl c b, ρ => whlGo (evE w c) (exB w b) w.turns ρ
  | .forr tg it b, ρ => (evI w it ρ).out ρ fun ds => forGo tg (exB w b) ds ρ
  | .brk, ρ => .bk ρ
  | .cont, ρ => .ct ρ
  | .pass, ρ => .nx ρ
  | .fz _, ρ => .nx ρ
  | .dr _, ρ => .nx ρ
  | .bad, _ => .bad
def exB (w : Wld) : CB → Env → O
  | .nil, ρ => .nx ρ
  | .cons s r, ρ => match exS w s ρ with
    | .nx ρ' => exB w r ρ'
    | o => o
end
/-- a def's body at its arguments; n the names beside the parameters -/
def runB (w : Wld) (n : Nat) (b : CB) (ds : List D) : R D := match exB w b (ds.map some ++ List.replicate n none) with
  | .rt d => .ok d
  | .nx _ => .ok .non
  | .exc e _ => .exc e
  | _ => .bad
/-- a def that changes its first argument and hands nothing back: what its first argument is then -/
def endIO : O → R D
  | .nx ρ => (match ρ[0]? with
    | some (some d) => .need (isMu d = true) (.ok d)
    | _ => .bad)
  | .bk ρ => (match ρ[0]? with
    | some (some d) => .need (isMu d = true) (.ok d)
    | _ => .bad)
  | _ => .bad
def runIO (w : Wld) (n : Nat) (b : CB) (ds : List D) : R D := endIO (exB w b (ds.map some ++ List.replicate n none))
/-- one def: how many parameters and other names it has, its body, how deep what it hands back is its caller's -/
structure Fn where
  ps : Nat
  more : Nat
  body : CB
  back : Nat
  io : Bool
def callF (fns : List Fn) (con : Nat → D) (turns : Nat) : Nat → Nat → List D → R D
  | 0, _, _ => .bad
  | n + 1, f, ds => match fns[f]? with
    | some fn => .need (ds.length = fn.ps) (if fn.io = true then runIO ⟨callF fns con turns n, con, turns⟩ fn.more fn.body ds else runB ⟨callF fns con turns n, con, turns⟩ fn.more fn.body ds)
    | none => .bad
end PV
/-! PV4: the operations on values do what the operations on data say. -/
namespace PV
open PySem PySem.Spec PyProof.Rows L2

/-- a value whose items, if it has any, are at rest -/
def Sh (K : KW) (F H : Hp) (v : V) (d : D) : Prop := ∃ m fp, m ≤ 1 ∧ RepO K F H m v d fp
section
variable {K : KW} {F F' H H' : Hp} {v : V}
theorem Sh.of0 {d : D} (h : Rep K F v d) : Sh K F H v d := ⟨0, [], by omega, h, rfl⟩
theorem Sh.lst (sF : Same F H) {ds : List D} (h : Sh K F H v (.lst ds)) : ∃ p vs, v = .ref p ∧ Rd H p (.lst vs) ∧ Reps K F vs ds := by
  obtain ⟨m, fp, hm, h⟩ := h
  match m, h with
  | 0, h =>
    cases h.1 with
    | lst h1 h2 => exact ⟨_, _, rfl, same_rd sF h1, h2⟩
  | 1, h =>
    obtain ⟨p, vs, f, e1, e2, h, e⟩ := h
    exact ⟨p, vs, e1, .inl e2, (repL0.mp h).1⟩
  | _ + 2, _ => exact absurd hm (by omega)
theorem Sh.tup {ds : List D} (h : Sh K F H v (.tup ds)) : ∃ p vs, v = .ref p ∧ SqT K F p vs ∧ Reps K F vs ds := by
  obtain ⟨m, fp, hm, h⟩ := h
  match m, h with
  | 0, h =>
    cases h.1 with
    | tup h1 h2 => exact ⟨_, _, rfl, h1, h2⟩
  | 1, h =>
    obtain ⟨p, vs, e1, e2, h⟩ := h
    exact ⟨p, vs, e1, e2, (repL0.mp h).1⟩
  | _ + 2, _ => exact absurd hm (by omega)
theorem Sh.dic (sF : Same F H) {ks vs : List D} (h : Sh K F H v (.dic ks vs)) : ∃ p ob us ws, v = .ref p ∧ Rd H p (DicO K.wd p ob ks us ws) ∧ Reps K F us ks ∧ Reps K F ws vs := by
  obtain ⟨m, fp, hm, h⟩ := h
  match m, h with
  | 0, h =>
    cases h.1 with
    | dic h1 h2 h3 => exact ⟨_, _, _, _, rfl, same_rd sF h1, h2, h3⟩
  | 1, h =>
    obtain ⟨p, ob, us, ws, f, e1, e2, e3, h, e⟩ := h
    exact ⟨p, ob, us, ws, e1, .inl e2, e3, (repL0.mp h).1⟩
  | _ + 2, _ => exact absurd hm (by omega)
theorem Sh.scal {d : D} (hs : sc0 d = true) (h : Sh K F H v d) : Rep K F v d := by
  obtain ⟨m, fp, hm, h⟩ := h
  cases m with
  | zero => exact h.1
  | succ m =>
    cases d with
    | non => exact h.1
    | bl _ => exact h.1
    | int _ => exact h.1
    | str _ => exact h.1
    | tup _ => cases hs
    | lst _ => cases hs
    | dic _ _ => cases hs
    | scr _ => cases hs
    | frz _ => cases hs
    | err _ _ => cases hs
    | obj _ _ => cases hs
theorem Rep.int_inv {i : Int} (h : Rep K F v (.int i)) : v = .int i := by cases h; rfl
theorem Rep.bl_inv {b : Bool} (h : Rep K F v (.bl b)) : v = .bl b := by cases h; rfl
theorem Rep.non_inv (h : Rep K F v .non) : v = .non := by cases h; rfl
theorem Rep.str_inv {s : List Nat} (h : Rep K F v (.str s)) : v = .str (mkS s) ∧ okS s := by
  cases h with
  | str _ h => exact ⟨rfl, h⟩
theorem Rep.lst_inv {ds : List D} (h : Rep K F v (.lst ds)) : ∃ p vs, v = .ref p ∧ Rd F p (.lst vs) ∧ Reps K F vs ds := by
  cases h with
  | lst h1 h2 => exact ⟨_, _, rfl, h1, h2⟩
theorem Rep.tup_inv {ds : List D} (h : Rep K F v (.tup ds)) : ∃ p vs, v = .ref p ∧ SqT K F p vs ∧ Reps K F vs ds := by
  cases h with
  | tup h1 h2 => exact ⟨_, _, rfl, h1, h2⟩
theorem Sh.scr {ns : List Int} (h : Sh K F H v (.scr ns)) : ∃ p, v = .ref p ∧ SqL K F p (ns.map V.int) := by
  obtain ⟨m, fp, hm, h⟩ := h
  have r : Rep K F v (.scr ns) := by
    cases m with
    | zero => exact h.1
    | succ m => exact h.1
  cases r with
  | scr ns h => exact ⟨_, rfl, h⟩
theorem Sh.int {i : Int} (h : Sh K F H v (.int i)) : v = .int i := (h.scal rfl).int_inv
theorem Sh.bl {b : Bool} (h : Sh K F H v (.bl b)) : v = .bl b := (h.scal rfl).bl_inv
theorem Sh.non (h : Sh K F H v .non) : v = .non := (h.scal rfl).non_inv
theorem Sh.str {s : List Nat} (h : Sh K F H v (.str s)) : v = .str (mkS s) ∧ okS s := (h.scal rfl).str_inv
end

/-- a value that has come of others: at rest as it stands, or a new list, a new tuple of values at rest -/
inductive NewVal (K : KW) (F H : Hp) : V → D → Hp → Prop
  | old {v : V} {d : D} (h : Rep K F v d) (nd : isDic d = false := by rfl) : NewVal K F H v d H
  | lst {p : Addr} {vs : List V} {ds : List D} : H p = none → Reps K F vs ds → NewVal K F H (.ref p) (.lst ds) (upd H p (.lst vs))
  | tup {p : Addr} {vs : List V} {ds : List D} : H p = none → Reps K F vs ds → NewVal K F H (.ref p) (.tup ds) (upd H p (.tup vs))
theorem cell01 {K : KW} {F H : Hp} {v : V} {d : D} {P B : Addr → Prop} (h : Rep K F v d) (nl : ∀ ds, d ≠ .lst ds) (nd : isDic d = false) : CellOk K F H P B ⟨true, 1, v, d⟩ := by
  refine ⟨[], ?_, List.nodup_nil, fun _ _ z => (nomatch z), fun _ z => (nomatch z)⟩
  cases d with
  | non => exact ⟨h, rfl⟩
  | bl _ => exact ⟨h, rfl⟩
  | int _ => exact ⟨h, rfl⟩
  | str _ => exact ⟨h, rfl⟩
  | tup ds =>
    obtain ⟨p, vs, e, h1, h2⟩ := h.tup_inv
    exact ⟨p, vs, e, h1, repL0.mpr ⟨h2, rfl⟩⟩
  | lst ds => exact absurd rfl (nl ds)
  | dic _ _ => cases nd
  | frz _ => exact ⟨h, rfl⟩
  | err _ _ => exact ⟨h, rfl⟩
  | obj _ _ => exact ⟨h, rfl⟩
  | scr _ => exact ⟨h, rfl⟩
/-- one more value on the way, one level of it its own -/
theorem Rel.push1 {K : KW} {g : Gh} {σ : L2.St} {H : Hp} {v : V} {d : D} {r : List Cell} (R : Rel K { g with tau := r } σ H) (h : Rep K g.F v d) (nl : ∀ ds, d ≠ .lst ds) (nd : isDic d = false) : Rel K { g with tau := ⟨true, 1, v, d⟩ :: r } σ H := by
  obtain ⟨ow, h1, h2, h3⟩ := R.ow
  exact ⟨R.s0, R.sF, R.sH, R.fr, ⟨ow, h1, h2, cell01 h nl nd, h3⟩, R.l1, R.l2⟩
theorem Rel.up1 {K : KW} {g : Gh} {σ : L2.St} {H : Hp} {v : V} {d : D} {r : List Cell} (R : Rel K { g with tau := ⟨true, 0, v, d⟩ :: r } σ H) (nl : ∀ ds, d ≠ .lst ds) (nd : isDic d = false) : Rel K { g with tau := ⟨true, 1, v, d⟩ :: r } σ H :=
  (R.pop).push1 R.head0 nl nd
theorem Rel.newVal {K : KW} {g : Gh} {σ : L2.St} {H H' : Hp} {v : V} {d : D} {r : List Cell} (R : Rel K { g with tau := r } σ H) (h : NewVal K g.F H v d H') (nl : ∀ ds, d = .lst ds → ∀ a, v = .ref a → H a = none) :
    ∃ F', Same g.F F' ∧ Same H H' ∧ Rel K { g with F := F', tau := ⟨true, 1, v, d⟩ :: r } σ H' := by
  cases h with
  | old h nd =>
    refine ⟨g.F, Same.refl _, Same.refl _, R.push1 h (fun ds e => ?_) nd⟩
    subst e
    obtain ⟨p, vs, e, h1, h2⟩ := h.lst_inv
    have := nl ds rfl p e
    rcases same_rd R.sF h1 with h | ⟨o, h⟩
    · rw [this] at h; cases h
    · rw [this] at h; cases h
  | lst hp h => exact ⟨g.F, Same.refl _, fun a o e => by rw [upd_ne (ne_of_none e hp)]; exact e, R.newList hp h⟩
  | @tup p vs ds hp h =>
    exact ⟨upd g.F p (.tup vs), fun a o e => by rw [upd_ne (ne_of_none e (R.free hp).2)]; exact e, fun a o e => by rw [upd_ne (ne_of_none e hp)]; exact e, Rel.up1 (g := { g with F := upd g.F p (.tup vs) }) (R.newTup hp h) (fun _ => D.noConfusion) rfl⟩

theorem okS.append {a b : List Nat} (ha : okS a) (hb : okS b) (h : a.length + b.length ≤ sizeLine) : okS (a ++ b) :=
  ⟨by rw [List.length_append]; exact h, fun c hc => (List.mem_append.mp hc).elim (ha.2 c) (hb.2 c)⟩
theorem mkS_append (a b : List Nat) : mkS a ++ mkS b = mkS (a ++ b) := Txt_ext (by show a.toArray ++ b.toArray = (a ++ b).toArray; simp)
where Txt_ext {x y : Str} (h : x.cps = y.cps) : x = y := by cases x; cases y; simp at h; rw [h]

section
variable {X : Cx}
/-- two operands, and what comes of them -/
def rTwo (K : KW) (f : D → D → R D) : R2 := fun x y H Q => ∃ (F : Hp) (a b d : D), Same F H ∧ Sh K F H x a ∧ Sh K F H y b ∧ f a b = .ok d ∧ ∀ v H', NewVal K F H v d H' → (∀ ds, d = .lst ds → ∀ p, v = .ref p → H p = none) → Q v H'
def rOne (K : KW) (f : D → R D) : V → Hp → VK → Prop := fun x H Q => ∃ (F : Hp) (a d : D), Same F H ∧ Sh K F H x a ∧ f a = .ok d ∧ ∀ v H', NewVal K F H v d H' → (∀ ds, d = .lst ds → ∀ p, v = .ref p → H p = none) → Q v H'
theorem Rd.isL {P : Program} {w : World} {H : Hp} {h : Heap} {a : Addr} {vs : List V} (r : Rd H a (.lst vs)) (x : HOk P w H h) : vs.length ≤ sizeLine ∧ ∃ (its : List Value) (n : Nat), Vals vs its ∧ h.get? a = some { cls := .type "list", data := .seq its.toArray n } := r.ok x
/-- list + list -/
theorem op_catQ {pins : List (Addr × Obj)} {s : Shared} {σ : L2.St} {H : Hp} {p q : Addr} {xs zs : List V} {Q : VK} (I : Inv X pins σ H s) (hp : Rd H p (.lst xs)) (hq : Rd H q (.lst zs)) (hz : xs.length + zs.length ≤ sizeLine)
    (k : ∀ r, H r = none → Q (.ref r) (upd H r (.lst (xs ++ zs)))) : wpAny (model X.prog X.w) X.A (binaryOp .Add (.ref p) (.ref q)) (EP X pins σ Q) X.xe s := by
  obtain ⟨z, its, n, r, e⟩ := Rd.isL hp I.hok
  obtain ⟨z2, its2, n2, r2, e2⟩ := Rd.isL hq I.hok
  have hl := r.length
  have hl2 := r2.length
  refine PySem.P.add_list e e2 ?_ (by rw [List.size_toArray, List.size_toArray]; omega)
  have ea : its.toArray ++ its2.toArray = (its ++ its2).toArray := by simp
  rw [ea]
  exact ⟨.ref _, _, I.lnew (t' := s.toks) (r.append r2) (by rw [List.length_append]; omega), rfl, k _ I.fresh⟩
theorem op_addD : OpR X (binaryOp .Add) (rTwo (kwOf X) addD) := by
  intro pins s σ H x y v u Q I rx ry h
  obtain ⟨F, a, b, d, sF, ha, hb, e, k⟩ := h
  cases a <;> cases b <;> first | (cases e; done) | skip
  · have e := (R.ok.inj e); subst e
    have h1 := ha.int; have h2 := hb.int; subst h1; subst h2
    exact op_add pins s σ H _ _ v u Q I rx ry ⟨_, _, rfl, rfl, k _ _ (.old (.int _)) (fun _ z => nomatch z)⟩
  · obtain ⟨hl, e⟩ := R.need_eq e
    have e := (R.ok.inj e); subst e
    obtain ⟨h1, o1⟩ := ha.str
    obtain ⟨h2, o2⟩ := hb.str
    subst h1; subst h2
    refine op_add_str pins s σ H _ _ v u Q I rx ry ⟨_, _, rfl, rfl, by simpa [Str.length] using hl, ?_⟩
    rw [mkS_append]
    exact k _ _ (.old (.str _ (o1.append o2 hl))) (fun _ z => nomatch z)
  · obtain ⟨hl, e⟩ := R.need_eq e
    have e := (R.ok.inj e); subst e
    obtain ⟨p, vs, h1, h2, h3⟩ := ha.tup
    obtain ⟨q, ws, h4, h5, h6⟩ := hb.tup
    subst h1; subst h4
    have l1 := h3.length
    have l2 := h6.length
    refine op_catA pins s σ H _ _ v u Q I rx ry ⟨p, q, vs, ws, rfl, rfl, same_t sF h2, same_t sF h5, by rw [l1, l2]; exact hl, fun z => ?_, fun _ z => ?_, fun _ _ r hr => ?_⟩
    · subst z
      cases h3
      exact k _ _ (.old (.tup h5 h6)) (fun _ z => nomatch z)
    · subst z
      cases h6
      rw [List.append_nil] at k
      exact k _ _ (.old (.tup h2 h3)) (fun _ z => nomatch z)
    · exact k _ _ (.tup hr (h3.append h6)) (fun _ z => nomatch z)
  · obtain ⟨hl, e⟩ := R.need_eq e
    have e := (R.ok.inj e); subst e
    obtain ⟨p, vs, h1, h2, h3⟩ := ha.lst sF
    obtain ⟨q, ws, h4, h5, h6⟩ := hb.lst sF
    subst h1; subst h4
    cases rx; cases ry
    exact op_catQ I h2 h5 (by rw [h3.length, h6.length]; exact hl) fun r hr => k _ _ (.lst hr (h3.append h6)) (fun _ _ p e => by cases e; exact hr)
theorem op_ints {f : Value → Value → Sem Value} {g : D → D → R D} {C : Int → Int → Prop} {gi : Int → Int → Int} (h0 : OpR X f (rI C fun i j => .int (gi i j)))
    (hg : ∀ a b d, g a b = .ok d → ∃ i j, a = .int i ∧ b = .int j ∧ C i j ∧ d = .int (gi i j)) : OpR X f (rTwo (kwOf X) g) := by
  intro pins s σ H x y v u Q I rx ry h
  obtain ⟨F, a, b, d, sF, ha, hb, e, k⟩ := h
  obtain ⟨i, j, rfl, rfl, c, rfl⟩ := hg a b d e
  have h1 := ha.int; have h2 := hb.int; subst h1; subst h2
  exact h0 pins s σ H _ _ v u Q I rx ry ⟨_, _, rfl, rfl, c, k _ _ (.old (.int _)) (fun _ z => nomatch z)⟩
theorem op_ints0 {f : Value → Value → Sem Value} {g : D → D → R D} {gi : Int → Int → Int} (h0 : OpR X f (rI0 fun i j => .int (gi i j)))
    (hg : ∀ a b d, g a b = .ok d → ∃ i j, a = .int i ∧ b = .int j ∧ d = .int (gi i j)) : OpR X f (rTwo (kwOf X) g) := by
  intro pins s σ H x y v u Q I rx ry h
  obtain ⟨F, a, b, d, sF, ha, hb, e, k⟩ := h
  obtain ⟨i, j, rfl, rfl, rfl⟩ := hg a b d e
  have h1 := ha.int; have h2 := hb.int; subst h1; subst h2
  exact h0 pins s σ H _ _ v u Q I rx ry ⟨_, _, rfl, rfl, k _ _ (.old (.int _)) (fun _ z => nomatch z)⟩
theorem op_subD : OpR X (binaryOp .Sub) (rTwo (kwOf X) subD) := op_ints0 (gi := fun i j => i - j) op_sub fun a b d e => by
  cases a <;> cases b <;> first | (cases e; done) | exact ⟨_, _, rfl, rfl, (R.ok.inj e).symm⟩
theorem op_modD : OpR X (binaryOp .Mod) (rTwo (kwOf X) modD) := op_ints (C := fun _ j => 0 < j) (gi := fun i j => i % j) op_mod fun a b d e => by
  cases a <;> cases b <;> first | (cases e; done) | exact ⟨_, _, rfl, rfl, (R.need_eq e).1, (R.ok.inj (R.need_eq e).2).symm⟩
theorem op_fdivD : OpR X (binaryOp .FloorDiv) (rTwo (kwOf X) fdivD) := op_ints (C := CDiv) (gi := fun i j => i / j) op_fdiv fun a b d e => by
  cases a <;> cases b <;> first | (cases e; done) | exact ⟨_, _, rfl, rfl, (R.need_eq e).1, (R.ok.inj (R.need_eq e).2).symm⟩
theorem op_powD : OpR X (binaryOp .Pow) (rTwo (kwOf X) powD) := op_ints (C := CPow) (gi := fun i j => i ^ j.toNat) op_pow fun a b d e => by
  cases a <;> cases b <;> first | (cases e; done) | exact ⟨_, _, rfl, rfl, (R.need_eq e).1, (R.ok.inj (R.need_eq e).2).symm⟩
theorem op_shlD : OpR X (binaryOp .LShift) (rTwo (kwOf X) shlD) := op_ints (C := CPow) (gi := fun i j => i * 2 ^ j.toNat) op_shl fun a b d e => by
  cases a <;> cases b <;> first | (cases e; done) | exact ⟨_, _, rfl, rfl, (R.need_eq e).1, (R.ok.inj (R.need_eq e).2).symm⟩
theorem op_shrD : OpR X (binaryOp .RShift) (rTwo (kwOf X) shrD) := op_ints (C := fun _ j => 0 ≤ j) (gi := fun i j => i / 2 ^ j.toNat) op_shr fun a b d e => by
  cases a <;> cases b <;> first | (cases e; done) | exact ⟨_, _, rfl, rfl, (R.need_eq e).1, (R.ok.inj (R.need_eq e).2).symm⟩
theorem op_andD : OpR X (binaryOp .BitAnd) (rTwo (kwOf X) andD) := op_ints0 (gi := Builtin.bitAnd) op_and fun a b d e => by
  cases a <;> cases b <;> first | (cases e; done) | exact ⟨_, _, rfl, rfl, (R.ok.inj e).symm⟩
theorem op_orD : OpR X (binaryOp .BitOr) (rTwo (kwOf X) orD) := op_ints0 (gi := Builtin.bitOr) op_or fun a b d e => by
  cases a <;> cases b <;> first | (cases e; done) | exact ⟨_, _, rfl, rfl, (R.ok.inj e).symm⟩
end
end PV
/-! PVD: dicts, read and written. -/
namespace PV
open PySem PySem.Spec PyProof.Rows L2

/-! ### data that are read -/
section
variable {K : KW} {F F' H H' : Hp} {v : V}
theorem dp_ints : ∀ ns : List Int, DpAll K H (ns.map V.int) (ns.map PyData.int)
  | [] => .nil
  | i :: r => .cons (.int i) (dp_ints r)
theorem lay_ints : ∀ ns : List Int, PyData.canLayAll0 (ns.map PyData.int) = true
  | [] => rfl
  | i :: r => by
    simp only [List.map_cons, PyData.canLayAll0, Bool.and_eq_true]
    exact ⟨rfl, lay_ints r⟩
mutual
theorem Rep.dp : ∀ (d : D) (v : V), Rep K H v d → noDic d = true → Dp K H v (toPy d)
  | .non, _, h, _ => by cases h; exact .non
  | .bl _, _, h, _ => by cases h; exact .bl _
  | .int _, _, h, _ => by cases h; exact .int _
  | .str _, _, h, _ => by cases h; exact .str _
  | .tup ds, _, h, n => by
    cases h with
    | tup h1 h2 => exact .tup h1 (Reps.dp ds _ h2 n)
  | .lst ds, _, h, n => by
    cases h with
    | lst h1 h2 => exact .lst (.inl h1) (Reps.dp ds _ h2 n)
  | .dic _ _, _, _, n => by cases n
  | .frz _, _, _, n => by cases n
  | .err _ _, _, _, n => by cases n
  | .obj _ _, _, _, n => by cases n
  | .scr _, _, h, _ => by
    cases h with
    | scr _ h => exact .lst h (dp_ints _)
theorem Reps.dp : ∀ (ds : List D) (vs : List V), Reps K H vs ds → noDics ds = true → DpAll K H vs (toPys ds)
  | [], _, h, _ => by cases h; exact .nil
  | d :: ds, _, h, n => by
    simp only [noDics, Bool.and_eq_true] at n
    cases h with
    | cons h1 h2 => exact .cons (Rep.dp d _ h1 n.1) (Reps.dp ds _ h2 n.2)
end
mutual
theorem Rep.lay : ∀ (d : D) (v : V), Rep K H v d → noDic d = true → (toPy d).canLay0 = true
  | .non, _, h, _ => rfl
  | .bl _, _, h, _ => rfl
  | .int _, _, h, _ => rfl
  | .str s, _, h, _ => by
    obtain ⟨_, h⟩ := h.str_inv
    simp only [toPy, PyData.canLay0, PyData.strOk, mkS]
    rw [← Array.all_toList]
    exact List.all_eq_true.mpr fun c hc => decide_eq_true (h.2 c hc)
  | .tup ds, _, h, n => by
    cases h with
    | tup h1 h2 =>
      simp only [toPy, PyData.canLay0]
      exact Reps.lay ds _ h2 n
  | .lst ds, _, h, n => by
    cases h with
    | lst h1 h2 =>
      simp only [toPy, PyData.canLay0]
      exact Reps.lay ds _ h2 n
  | .dic _ _, _, _, n => by cases n
  | .frz _, _, _, n => by cases n
  | .err _ _, _, _, n => by cases n
  | .obj _ _, _, _, n => by cases n
  | .scr ns, _, h, _ => by
    simp only [toPy, PyData.canLay0]
    exact lay_ints ns
theorem Reps.lay : ∀ (ds : List D) (vs : List V), Reps K H vs ds → noDics ds = true → PyData.canLayAll0 (toPys ds) = true
  | [], _, h, _ => rfl
  | d :: ds, _, h, n => by
    simp only [noDics, Bool.and_eq_true] at n
    cases h with
    | cons h1 h2 =>
      simp only [toPys, PyData.canLayAll0, Bool.and_eq_true]
      exact ⟨Rep.lay d _ h1 n.1, Reps.lay ds _ h2 n.2⟩
end
end
mutual
theorem dep_eq : ∀ d : D, (toPy d).depth = dep d
  | .non => by simp [toPy, PyData.depth, dep]
  | .bl _ => by simp [toPy, PyData.depth, dep]
  | .int _ => by simp [toPy, PyData.depth, dep]
  | .str _ => by simp [toPy, PyData.depth, dep]
  | .tup ds => by simp only [toPy, PyData.depth, dep, deps_eq ds]
  | .lst ds => by simp only [toPy, PyData.depth, dep, deps_eq ds]
  | .dic _ _ => by simp [toPy, PyData.depth, PyData.depthKv, dep]
  | .frz _ => by simp [toPy, PyData.depth, dep]
  | .err _ _ => by simp [toPy, PyData.depth, dep]
  | .obj _ _ => by simp [toPy, PyData.depth, dep]
  | .scr k => by simp [toPy, PyData.depth, dep]
theorem deps_eq : ∀ ds : List D, PyData.depthAll (toPys ds) = deps ds
  | [] => by simp [toPys, PyData.depthAll, deps]
  | d :: ds => by simp only [toPys, PyData.depthAll, deps, deps_eq ds, dep_eq d]
end
theorem dep_le (d : D) {K : KW} {H : Hp} {v : V} (h : Rep K H v d) : (toPy d).depth ≤ dep d + 1 := by
  rw [dep_eq]; omega
theorem toPys_any (f : PyData → Bool) : ∀ ds : List D, (toPys ds).any f = ds.any fun d => f (toPy d)
  | [] => rfl
  | d :: ds => by simp only [toPys, List.any_cons, toPys_any f ds]

/-! ### lists of pairs by their keys -/
section
variable {κ β : Type} [DecidableEq κ]
theorem zip_find (k : κ) : ∀ (ks : List κ) (rs : List β), rs.length = ks.length → ((ks.zip rs).find? fun p => decide (p.1 = k)).map (·.2) = (match ks.findIdx? (fun x => decide (x = k)) with | some i => rs[i]? | none => none)
  | [], rs, _ => by simp
  | x :: ks, [], h => by simp at h
  | x :: ks, r :: rs, h => by
    rw [List.zip_cons_cons, List.find?_cons, List.findIdx?_cons]
    by_cases e : x = k
    · simp [e]
    · simp only [e, decide_false, Bool.false_eq_true, if_false]
      rw [zip_find k ks rs (by simpa using h)]
      cases ks.findIdx? (fun x => decide (x = k)) <;> simp
theorem zip_none {k : κ} : ∀ {ks : List κ} {rs : List β}, ks.findIdx? (fun x => decide (x = k)) = none → (∀ p ∈ ks.zip rs, p.1 ≠ k) := by
  intro ks rs h p hp e
  rw [List.findIdx?_eq_none_iff] at h
  have hm : p.1 ∈ ks := (List.of_mem_zip (a := p.1) (b := p.2) hp).1
  have := h _ hm
  simp [e] at this
theorem zip_map {k : κ} (f : β → β) : ∀ {ks : List κ} {rs : List β} {i : Nat}, ks.Nodup → rs.length = ks.length → ks.findIdx? (fun x => decide (x = k)) = some i → (ks.zip rs).map (fun p => if p.1 = k then (p.1, f p.2) else p) = ks.zip (rs.modify i f)
  | [], rs, i, _, _, h => by simp at h
  | x :: ks, [], i, _, hl, h => by simp at hl
  | x :: ks, r :: rs, i, hn, hl, h => by
    rw [List.nodup_cons] at hn
    rw [List.findIdx?_cons] at h
    by_cases e : x = k
    · simp only [e, decide_true, if_true, Option.some.injEq] at h
      subst h
      subst e
      rw [List.zip_cons_cons, List.map_cons]
      have : (ks.zip rs).map (fun p => if p.1 = x then (p.1, f p.2) else p) = ks.zip rs := by
        rw [List.map_congr_left (g := id)]
        · simp
        · intro p hp
          have hm : p.1 ∈ ks := (List.of_mem_zip (a := p.1) (b := p.2) hp).1
          rw [if_neg (fun z => hn.1 (by rw [← z]; exact hm))]
          rfl
      rw [this]
      simp
    · simp only [e, decide_false, Bool.false_eq_true, if_false, Option.map_eq_some_iff] at h
      obtain ⟨j, hj, rfl⟩ := h
      rw [List.zip_cons_cons, List.map_cons, zip_map f hn.2 (by simpa using hl) hj]
      simp [e]
theorem modify_set (rs : List β) (i : Nat) (v : β) : rs.modify i (fun _ => v) = rs.set i v := by
  induction rs generalizing i with
  | nil => simp
  | cons r rs ih => cases i <;> simp [ih]
theorem any_find (k : κ) (ks : List κ) (rs : List β) (h : rs.length = ks.length) : ((ks.zip rs).any fun p => decide (p.1 = k)) = (ks.findIdx? fun x => decide (x = k)).isSome := by
  induction ks generalizing rs with
  | nil => simp
  | cons x ks ih =>
    cases rs with
    | nil => simp at h
    | cons r rs =>
      rw [List.zip_cons_cons, List.any_cons, List.findIdx?_cons, ih rs (by simpa using h)]
      by_cases e : x = k
      · simp [e]
      · simp [e]
end

/-! ### keys -/
mutual
theorem nk_dk : ∀ d : D, plD d = true → nk d = SS.dk (toPy d)
  | .int _, _ => rfl
  | .str _, _ => rfl
  | .tup xs, h => by
    show NestedKey.tup (nks xs) = NestedKey.tup (SS.dks (toPys xs))
    rw [nks_dk xs h]
  | .non, h => by cases h
  | .bl _, h => by cases h
  | .lst _, h => by cases h
  | .dic _ _, h => by cases h
  | .scr _, h => by cases h
  | .frz _, h => by cases h
  | .err _ _, h => by cases h
  | .obj _ _, h => by cases h
theorem nks_dk : ∀ ds : List D, plDs ds = true → nks ds = SS.dks (toPys ds)
  | [], _ => rfl
  | d :: ds, h => by
    simp only [plDs, Bool.and_eq_true] at h
    show nk d :: nks ds = SS.dk (toPy d) :: SS.dks (toPys ds)
    rw [nk_dk d h.1, nks_dk ds h.2]
end
def kOf : D → Key
  | .int i => .inl i
  | .str s => .inr (mkS s)
  | _ => .inl 0
theorem flat_py {x y : D} (hx : flatD x = true) (hy : flatD y = true) : eqD x y = decide (kOf x = kOf y) := by
  cases x <;> first | (cases hx; done) | skip
  · cases y <;> first | (cases hy; done) | skip
    · rename_i i j
      unfold eqD
      simp only [toPy, kOf, PyData.eqv]
      by_cases e : i = j <;> simp [e]
    · unfold eqD
      simp [toPy, kOf, PyData.eqv]
  · cases y <;> first | (cases hy; done) | skip
    · unfold eqD
      simp [toPy, kOf, PyData.eqv]
    · rename_i i j
      unfold eqD
      simp only [toPy, kOf, PyData.eqv]
      by_cases e : i = j
      · simp [e]
      · have : mkS i ≠ mkS j := fun z => e (by
          have z := congrArg (fun s : Str => s.cps.toList) z
          simpa using z)
        simp [this, e]

theorem kix_flat {ks : List D} {k : D} (h : ks.all flatD = true) (hk : flatD k = true) : kix ks k = (ks.map kOf).findIdx? fun x => decide (x = kOf k) := by
  unfold kix
  induction ks with
  | nil => rfl
  | cons x ks ih =>
    rw [List.all_cons, Bool.and_eq_true] at h
    rw [List.map_cons, List.findIdx?_cons, List.findIdx?_cons, ih h.2, flat_py h.1 hk]
theorem tup_nk {x : D} (h : tupB x = true) : plD x = true ∧ SS.gdB (toPy x) = true ∧ (toPy x).depth ≤ 8 ∧ ∃ xs, x = .tup xs := by
  cases x with
  | tup xs =>
    cases xs with
    | nil => cases h
    | cons y r =>
      have h : (plDs (y :: r) && decide (dep (.tup (y :: r)) ≤ 8)) = true := h
      rw [Bool.and_eq_true, decide_eq_true_eq] at h
      refine ⟨h.1, gd_pl _ h.1, ?_, _, rfl⟩
      rw [dep_eq]; exact h.2
  | _ => cases h
where
  gd_pl : ∀ d : D, plD d = true → SS.gdB (toPy d) = true := fun d h => gd_ d h
  gd_ : ∀ d : D, plD d = true → SS.gdB (toPy d) = true
  | .int _, _ => rfl
  | .str _, _ => rfl
  | .tup xs, h => gds_ xs h
  | .non, h => by cases h
  | .bl _, h => by cases h
  | .lst _, h => by cases h
  | .dic _ _, h => by cases h
  | .scr _, h => by cases h
  | .frz _, h => by cases h
  | .err _ _, h => by cases h
  | .obj _ _, h => by cases h
  gds_ : ∀ ds : List D, plDs ds = true → SS.gdBs (toPys ds) = true
  | [], _ => rfl
  | d :: ds, h => by
    simp only [plDs, Bool.and_eq_true] at h
    simp only [toPys, SS.gdBs, Bool.and_eq_true]
    exact ⟨gd_ d h.1, gds_ ds h.2⟩
mutual
theorem eqv_nk : ∀ (x y : D), plD x = true → plD y = true → PyData.eqv (toPy x) (toPy y) = decide (nk x = nk y)
  | .int i, y, _, hy => by
    cases y <;> first | (cases hy; done) | skip
    · rename_i j
      simp only [toPy, nk, PyData.eqv]
      by_cases e : i = j <;> simp [e]
    · simp [toPy, nk, PyData.eqv]
    · simp [toPy, nk, PyData.eqv]
  | .str i, y, _, hy => by
    cases y <;> first | (cases hy; done) | skip
    · simp [toPy, nk, PyData.eqv]
    · rename_i j
      simp only [toPy, nk, PyData.eqv]
      by_cases e : i = j
      · simp [e]
      · have : mkS i ≠ mkS j := fun z => e (by
          have z := congrArg (fun s : Str => s.cps.toList) z
          simpa using z)
        simp [this, e]
    · simp [toPy, nk, PyData.eqv]
  | .tup xs, y, hx, hy => by
    cases y <;> first | (cases hy; done) | skip
    · simp [toPy, nk, PyData.eqv]
    · simp [toPy, nk, PyData.eqv]
    · rename_i ys
      simp only [toPy, nk, PyData.eqv]
      rw [eqvs_nk xs ys hx hy]
      by_cases e : nks xs = nks ys <;> simp [e]
  | .non, _, h, _ => by cases h
  | .bl _, _, h, _ => by cases h
  | .lst _, _, h, _ => by cases h
  | .dic _ _, _, h, _ => by cases h
  | .scr _, _, h, _ => by cases h
  | .frz _, _, h, _ => by cases h
  | .err _ _, _, h, _ => by cases h
  | .obj _ _, _, h, _ => by cases h
theorem eqvs_nk : ∀ (xs ys : List D), plDs xs = true → plDs ys = true → PyData.eqvAll (toPys xs) (toPys ys) = decide (nks xs = nks ys)
  | [], [], _, _ => by simp [toPys, nks, PyData.eqvAll]
  | [], _ :: _, _, _ => by simp [toPys, nks, PyData.eqvAll]
  | _ :: _, [], _, _ => by simp [toPys, nks, PyData.eqvAll]
  | x :: xs, y :: ys, hx, hy => by
    simp only [plDs, Bool.and_eq_true] at hx hy
    simp only [toPys, nks, PyData.eqvAll]
    rw [eqv_nk x y hx.1 hy.1, eqvs_nk xs ys hx.2 hy.2]
    by_cases e : nk x = nk y <;> by_cases f : nks xs = nks ys <;> simp [e, f]
end
theorem kix_tup {ks : List D} {k : D} (h : ks.all tupB = true) (hk : tupB k = true) : kix ks k = (ks.map nk).findIdx? fun x => decide (x = nk k) := by
  unfold kix
  induction ks with
  | nil => rfl
  | cons x ks ih =>
    rw [List.all_cons, Bool.and_eq_true] at h
    rw [List.map_cons, List.findIdx?_cons, List.findIdx?_cons, ih h.2]
    show (if eqD x k = true then _ else _) = _
    unfold eqD
    rw [eqv_nk x k (tup_nk h.1).1 (tup_nk hk).1]
theorem flat_inj {x y : D} (hx : flatD x = true) (hy : flatD y = true) (e : kOf x = kOf y) : x = y := by
  cases x <;> first | (cases hx; done) | skip
  · cases y <;> first | (cases hy; done) | skip
    · injection e with e; rw [e]
    · cases e
  · cases y <;> first | (cases hy; done) | skip
    · cases e
    · rename_i i j
      have e : mkS i = mkS j := by injection e
      have z := congrArg (fun s : Str => s.cps.toList) e
      have z : i = j := by simpa using z
      rw [z]
theorem tup_inj {x y : D} (hx : plD x = true) (hy : plD y = true) (e : nk x = nk y) : x = y := by
  have := eqv_nk x y hx hy
  rw [decide_eq_true e] at this
  exact inj_ x y hx hy e
where
  inj_ : ∀ (x y : D), plD x = true → plD y = true → nk x = nk y → x = y
  | .int i, y, _, hy, h => by cases y <;> first | (cases hy; done) | (injection h with h; rw [h]) | cases h
  | .str i, y, _, hy, h => by
    cases y <;> first | (cases hy; done) | (cases h; done) | skip
    rename_i j
    have e : mkS i = mkS j := by injection h
    have z := congrArg (fun s : Str => s.cps.toList) e
    have z : i = j := by simpa using z
    rw [z]
  | .tup xs, y, hx, hy, h => by
    cases y <;> first | (cases hy; done) | (cases h; done) | skip
    rename_i ys
    have e : nks xs = nks ys := by injection h
    rw [injs_ xs ys hx hy e]
  | .non, _, h, _, _ => by cases h
  | .bl _, _, h, _, _ => by cases h
  | .lst _, _, h, _, _ => by cases h
  | .dic _ _, _, h, _, _ => by cases h
  | .scr _, _, h, _, _ => by cases h
  | .frz _, _, h, _, _ => by cases h
  | .err _ _, _, h, _, _ => by cases h
  | .obj _ _, _, h, _, _ => by cases h
  injs_ : ∀ (xs ys : List D), plDs xs = true → plDs ys = true → nks xs = nks ys → xs = ys
  | [], [], _, _, _ => rfl
  | [], _ :: _, _, _, h => by cases h
  | _ :: _, [], _, _, h => by cases h
  | x :: xs, y :: ys, hx, hy, h => by
    simp only [plDs, Bool.and_eq_true] at hx hy
    have h : nk x :: nks xs = nk y :: nks ys := h
    injection h with h1 h2
    rw [inj_ x y hx.1 hy.1 h1, injs_ xs ys hx.2 hy.2 h2]
theorem nodup_flat {ks : List D} (h : ks.all flatD = true) (n : ks.Nodup) : (ks.map kOf).Nodup := by
  rw [List.nodup_iff_pairwise_ne] at n ⊢
  rw [List.pairwise_map]
  refine n.imp_of_mem fun {a b} ha hb hne e => hne (flat_inj (List.all_eq_true.mp h a ha) (List.all_eq_true.mp h b hb) e)
theorem nodup_tup {ks : List D} (h : ks.all tupB = true) (n : ks.Nodup) : (ks.map nk).Nodup := by
  rw [List.nodup_iff_pairwise_ne] at n ⊢
  rw [List.pairwise_map]
  refine n.imp_of_mem fun {a b} ha hb hne e => hne (tup_inj (tup_nk (List.all_eq_true.mp h a ha)).1 (tup_nk (List.all_eq_true.mp h b hb)).1 e)

/-! ### the entries, as the rules want them -/
theorem kOf_is {K : KW} {F : Hp} {u : V} {k : D} {v : Value} {P : Program} {w : World} (r : Rep K F u k) (h : flatD k = true) (ru : RelV u v) : (mixKind P w).is (kOf k) v = true := by
  cases k <;> first | (cases h; done) | skip
  · obtain rfl := r.int_inv
    obtain ⟨t, rfl⟩ := ru
    exact keyIs_int _ t
  · obtain ⟨rfl, _⟩ := r.str_inv
    obtain ⟨t, rfl⟩ := ru
    exact keyIs_str _ t
theorem kOf_hash {k : D} {P : Program} {w : World} (h : flatD k = true) : (mixKind P w).hash (kOf k) = (nk k).hash w := by
  cases k <;> first | (cases h; done) | rfl
/-- flat keys -/
theorem ents_flat {K : KW} {F : Hp} {P : Program} {w : World} : ∀ {es : List DictEntry} {ks : List D} {us vs : List V}, Ents w es ks us vs → ks.all flatD = true → Reps K F us ks →
    ∃ rs : List Value, Vals vs rs ∧ rs.length = ks.length ∧ (∀ e ∈ es, ∃ k, (mixKind P w).is k e.key = true ∧ e.hash = (mixKind P w).hash k) ∧ Pairs (mixKind P w) es ((ks.map kOf).zip rs)
  | [], [], [], [], _, _, _ => ⟨[], .nil, rfl, fun e he => (nomatch he), .nil⟩
  | e :: es, k :: ks, u :: us, v :: vs, h, hk, r => by
    obtain ⟨h1, h2, h3, h4⟩ := h
    rw [List.all_cons, Bool.and_eq_true] at hk
    cases r with
    | cons r1 r2 =>
      obtain ⟨rs, a, b, c, d⟩ := ents_flat (P := P) h4 hk.2 r2
      refine ⟨e.val :: rs, .cons h3 a, by simp [b], fun e' he => ?_, .cons (kOf_is r1 hk.1 h2) rfl d⟩
      rcases List.mem_cons.mp he with rfl | he
      · exact ⟨kOf k, kOf_is r1 hk.1 h2, by rw [kOf_hash hk.1]; exact h1⟩
      · exact c e' he
  | [], _ :: _, _, _, h, _, _ => by simp [Ents] at h
  | [], [], _ :: _, _, h, _, _ => by simp [Ents] at h
  | [], [], [], _ :: _, h, _, _ => by simp [Ents] at h
  | _ :: _, [], _, _, h, _, _ => by simp [Ents] at h
  | _ :: _, _ :: _, [], _, h, _, _ => by simp [Ents] at h
  | _ :: _, _ :: _, _ :: _, [], h, _, _ => by simp [Ents] at h
theorem flat_back {K : KW} {F : Hp} {P : Program} {w : World} : ∀ {es : List DictEntry} {ks : List D} {us vs : List V} {rs : List Value}, (∀ e ∈ es, ∃ k, (mixKind P w).is k e.key = true ∧ e.hash = (mixKind P w).hash k) → Pairs (mixKind P w) es ((ks.map kOf).zip rs) → rs.length = ks.length → ks.all flatD = true → Reps K F us ks → Vals vs rs → Ents w es ks us vs
  | es, [], us, vs, rs, c, d, hl, hk, r, a => by
    cases r
    have : rs = [] := List.eq_nil_of_length_eq_zero hl
    subst this
    cases a
    cases d
    trivial
  | es, k :: ks, us, vs, [], c, d, hl, hk, r, a => by simp at hl
  | es, k :: ks, us, vs, x :: rs, c, d, hl, hk, r, a => by
    rw [List.all_cons, Bool.and_eq_true] at hk
    cases r with
    | @cons u _ us _ r1 r2 =>
      cases a with
      | @cons v _ vs _ a1 a2 =>
        rw [List.map_cons, List.zip_cons_cons] at d
        cases d with
        | @cons e _ es _ d1 d2 d3 =>
          have d1 : (mixKind P w).is (kOf k) e.key = true := d1
          have d2 : e.val = x := d2
          refine ⟨?_, ?_, by rw [d2]; exact a1, flat_back (fun e' he => c e' (List.mem_cons_of_mem _ he)) d3 (by simpa using hl) hk.2 r2 a2⟩
          · obtain ⟨k', q1, q2⟩ := c e List.mem_cons_self
            rw [(mixKind P w).inj _ _ _ q1 d1] at q2
            rw [q2, kOf_hash hk.1]
          · cases k <;> first | (cases hk.1; done) | skip
            · obtain rfl := r1.int_inv
              rename Int => z
              rcases keyIs_shape (k := Sum.inl z) (v := e.key) d1 with ⟨i, t, q1, q2⟩ | ⟨i, t, q1, q2⟩
              · injection q1 with q1; rw [q2, q1]; exact ⟨t, rfl⟩
              · cases q1
            · obtain ⟨rfl, _⟩ := r1.str_inv
              rename List Nat => z
              rcases keyIs_shape (k := Sum.inr (mkS z)) (v := e.key) d1 with ⟨i, t, q1, q2⟩ | ⟨i, t, q1, q2⟩
              · cases q1
              · injection q1 with q1; rw [q2, ← q1]; exact ⟨t, rfl⟩
/-- tuples -/
theorem key_tup {K : KW} {X : Cx} {pins : List (Addr × Obj)} {σ : L2.St} {F H : Hp} {s : Shared} {u : V} {k : D} {v : Value} (hK : K.fr = X.K) (I : Inv X pins σ H s) (sF : Same F H) (r : Rep K F u k) (h : tupB k = true) (ru : RelV u v) : ∃ b, u = .ref b ∧ v = .ref b ∧ (nestedKind X.prog X.w).is s.heap (nk k) b := by
  obtain ⟨h1, h2, h3, xs, rfl⟩ := tup_nk h
  obtain ⟨b, vs, rfl, _, _⟩ := r.tup_inv
  have ru : v = .ref b := ru
  subst ru
  have dp := Rep.dp _ _ (r.up sF) (nd_ _ h1)
  rw [hK] at dp
  obtain ⟨as, rd⟩ := Dp.reads I _ _ _ dp rfl
  obtain ⟨n1, _⟩ := SS.dk_is (toPy (.tup xs)) h2 rd
  refine ⟨b, rfl, rfl, ?_, ?_⟩
  · rw [nk_dk _ h1]; exact n1
  · rw [nk_dk _ h1]; exact Nat.le_trans (SS.dk_deep _) h3
where
  nd_ : ∀ x : D, plD x = true → noDic x = true
  | .int _, _ => rfl
  | .str _, _ => rfl
  | .tup xs, h => nds_ xs h
  | .non, h => by cases h
  | .bl _, h => by cases h
  | .lst _, h => by cases h
  | .dic _ _, h => by cases h
  | .scr _, h => by cases h
  | .frz _, h => by cases h
  | .err _ _, h => by cases h
  | .obj _ _, h => by cases h
  nds_ : ∀ xs : List D, plDs xs = true → noDics xs = true
  | [], _ => rfl
  | x :: xs, h => by
    simp only [plDs, Bool.and_eq_true] at h
    simp [noDics, nd_ x h.1, nds_ xs h.2]
theorem ents_tup {K : KW} {X : Cx} {pins : List (Addr × Obj)} {σ : L2.St} {F H : Hp} {s : Shared} (hK : K.fr = X.K) (I : Inv X pins σ H s) (sF : Same F H) : ∀ {es : List DictEntry} {ks : List D} {us vs : List V}, Ents X.w es ks us vs → ks.all tupB = true → Reps K F us ks →
    ∃ (bs : List Addr) (rs : List Value), us = bs.map V.ref ∧ Vals vs rs ∧ rs.length = ks.length ∧ bs.length = ks.length ∧ es = ((ks.map nk).zip (bs.zip rs)).map (entryOfKey (nestedKind X.prog X.w)) ∧ ∀ x ∈ (ks.map nk).zip (bs.zip rs), (nestedKind X.prog X.w).is s.heap x.1 x.2.1
  | [], [], [], [], _, _, _ => ⟨[], [], rfl, .nil, rfl, rfl, rfl, fun e he => nomatch he⟩
  | e :: es, k :: ks, u :: us, v :: vs, h, hk, r => by
    obtain ⟨h1, h2, h3, h4⟩ := h
    rw [List.all_cons, Bool.and_eq_true] at hk
    cases r with
    | cons r1 r2 =>
      obtain ⟨bs, rs, a, b, c, d, f, g⟩ := ents_tup hK I sF h4 hk.2 r2
      obtain ⟨y, e1, e2, e3⟩ := key_tup hK I sF r1 hk.1 h2
      refine ⟨y :: bs, e.val :: rs, by rw [a, e1]; rfl, .cons h3 b, by simp [c], by simp [d], ?_, ?_⟩
      · rw [f, List.map_cons, List.zip_cons_cons, List.zip_cons_cons, List.map_cons, ← f]
        congr 1
        obtain ⟨eh, ek, ev⟩ := e
        have e2 : ek = .ref y := e2
        have h1 : eh = (nk k).hash X.w := h1
        rw [e2, h1]
        rfl
      · intro x hx
        rw [List.map_cons, List.zip_cons_cons, List.zip_cons_cons] at hx
        rcases List.mem_cons.mp hx with rfl | hx
        · exact e3
        · exact g x hx
  | [], _ :: _, _, _, h, _, _ => by simp [Ents] at h
  | [], [], _ :: _, _, h, _, _ => by simp [Ents] at h
  | [], [], [], _ :: _, h, _, _ => by simp [Ents] at h
  | _ :: _, [], _, _, h, _, _ => by simp [Ents] at h
  | _ :: _, _ :: _, [], _, h, _, _ => by simp [Ents] at h
  | _ :: _, _ :: _, _ :: _, [], h, _, _ => by simp [Ents] at h
theorem tup_back {P : Program} {w : World} : ∀ {es : List DictEntry} {ks : List D} {bs : List Addr} {vs : List V} {rs : List Value}, es = ((ks.map nk).zip (bs.zip rs)).map (entryOfKey (nestedKind P w)) → rs.length = ks.length → bs.length = ks.length → Vals vs rs → Ents w es ks (bs.map V.ref) vs
  | es, [], bs, vs, rs, h, h1, h2, a => by
    have e1 : rs = [] := List.eq_nil_of_length_eq_zero h1
    have e2 : bs = [] := List.eq_nil_of_length_eq_zero h2
    subst e1 e2
    cases a
    subst h
    trivial
  | es, k :: ks, [], vs, rs, h, h1, h2, a => by simp at h2
  | es, k :: ks, b :: bs, vs, [], h, h1, h2, a => by simp at h1
  | es, k :: ks, b :: bs, vs, x :: rs, h, h1, h2, a => by
    cases a with
    | @cons v _ vs _ a1 a2 =>
      subst h
      exact ⟨rfl, rfl, a1, tup_back rfl (by simpa using h1) (by simpa using h2) a2⟩

/-! ### what is asked of a dict, what is put into it -/
section
variable {X : Cx} {pins : List (Addr × Obj)} {σ : L2.St} {F H : Hp} {s : Shared} {p : Addr} {ks : List D} {us ws : List V} {k : D} {y v : V} {u r : Value} {A : Around} {E : Value → Shared → Prop} {ob : Obj}
theorem dic_at (I : Inv X pins σ H s) (e : Rd H p (DicO X.w p ob ks us ws)) : DicP X.w p ob ks us ws s.heap := by
  have h : ObjOk X.prog X.w H s.heap p (.ext (DicP X.w p ob ks us ws)) := e.ok I.hok
  exact h.1
theorem DicP.typeIs (h : DicP X.w p ob ks us ws s.heap) : s.TypeIs (.ref p) "dict" := by
  obtain ⟨_, _, _, h1, h2, _⟩ := h
  exact ⟨ob, h1, h2.1⟩
theorem DicP.noDict (h : DicP X.w p ob ks us ws s.heap) : ∀ b, Value.ref p = .ref b → ∃ ob, s.heap.get? b = some ob ∧ ob.dict = none := fun b q => by
  cases q
  obtain ⟨_, _, _, h1, h2, _⟩ := h
  exact ⟨ob, h1, h2.2.1⟩
theorem Ents.len {w : World} : ∀ {es : List DictEntry} {ks : List D} {us vs : List V}, Ents w es ks us vs → es.length = ks.length ∧ us.length = ks.length ∧ vs.length = ks.length
  | [], [], [], [], _ => ⟨rfl, rfl, rfl⟩
  | _ :: _, _ :: _, _ :: _, _ :: _, h => by
    obtain ⟨a, b, c⟩ := Ents.len h.2.2.2
    simp [a, b, c]
  | [], _ :: _, _, _, h => by simp [Ents] at h
  | [], [], _ :: _, _, h => by simp [Ents] at h
  | [], [], [], _ :: _, h => by simp [Ents] at h
  | _ :: _, [], _, _, h => by simp [Ents] at h
  | _ :: _, _ :: _, [], _, h => by simp [Ents] at h
  | _ :: _, _ :: _, _ :: _, [], h => by simp [Ents] at h
theorem ents_get {w : World} : ∀ {es : List DictEntry} {ks : List D} {us vs : List V}, Ents w es ks us vs → ∀ {i : Nat} {u : V}, us[i]? = some u → ∃ en v, es[i]? = some en ∧ RelV u en.key ∧ vs[i]? = some v ∧ RelV v en.val
  | [], [], [], [], _, i, u, e => by simp at e
  | en :: es, k :: ks, u0 :: us, v :: vs, h, i, u, e => by
    obtain ⟨h1, h2, h3, h4⟩ := h
    cases i with
    | zero => simp at e; subst e; exact ⟨en, v, rfl, h2, rfl, h3⟩
    | succ i =>
      obtain ⟨en', v', a, b, c, d⟩ := ents_get h4 (i := i) (by simpa using e)
      exact ⟨en', v', by simpa using a, b, by simpa using c, d⟩
  | [], _ :: _, _, _, h, _, _, _ => by simp [Ents] at h
  | [], [], _ :: _, _, h, _, _, _ => by simp [Ents] at h
  | [], [], [], _ :: _, h, _, _, _ => by simp [Ents] at h
  | _ :: _, [], _, _, h, _, _, _ => by simp [Ents] at h
  | _ :: _, _ :: _, [], _, h, _, _, _ => by simp [Ents] at h
  | _ :: _, _ :: _, _ :: _, [], h, _, _, _ => by simp [Ents] at h
/-- as one of the two kinds of dicts -/
theorem dic_see (I : Inv X pins σ H s) (e : Rd H p (DicO X.w p ob ks us ws)) (rk : Reps (kwOf X) F us ks) (sF : Same F H) (ok : okKey ks k = true) (ry : Rep (kwOf X) F y k) (ru : RelV y u) :
    (∃ rs : List Value, (p == sysModules) = false ∧ ks.length ≤ sizeLine ∧ ks.all flatD = true ∧ flatD k = true ∧ Vals ws rs ∧ rs.length = ks.length ∧ s.heap.DictOf (mixKind X.prog X.w) p ((ks.map kOf).zip rs) ∧ (mixKind X.prog X.w).is (kOf k) u = true) ∨
    (∃ (bs : List Addr) (rs : List Value) (b : Addr), (p == sysModules) = false ∧ ks.length ≤ sizeLine ∧ ks.all tupB = true ∧ tupB k = true ∧ us = bs.map V.ref ∧ y = .ref b ∧ u = .ref b ∧ Vals ws rs ∧ rs.length = ks.length ∧ bs.length = ks.length ∧ s.heap.DictOfH (nestedKind X.prog X.w) p ((ks.map nk).zip (bs.zip rs)) ∧ (nestedKind X.prog X.w).is s.heap (nk k) b) := by
  obtain ⟨hd, hz, hn, h1, h2, ar, ep, h3, h4⟩ := dic_at I e
  unfold okKey at ok
  rw [Bool.or_eq_true, Bool.and_eq_true, Bool.and_eq_true] at ok
  rcases ok with ⟨hk, ha⟩ | ⟨hk, ha⟩
  · obtain ⟨rs, a, b, c, d⟩ := ents_flat (P := X.prog) h4 ha rk
    refine .inl ⟨rs, hd, hz, ha, hk, a, b, ⟨ob, ar, ep, h1, h2, h3, fun e he => c e (by simpa using he), d, ?_⟩, kOf_is ry hk ru⟩
    have e1 : ((ks.map kOf).zip rs).map (·.1) = ks.map kOf := by rw [← List.unzip_fst, List.unzip_zip_left (by rw [List.length_map]; omega)]
    rw [e1]
    exact nodup_flat ha hn
  · obtain ⟨bs, rs, a, b, c, d, f, g⟩ := ents_tup (K := kwOf X) rfl I sF h4 ha rk
    obtain ⟨y', e1, e2, e3⟩ := key_tup (K := kwOf X) rfl I sF ry hk ru
    refine .inr ⟨bs, rs, y', hd, hz, ha, hk, a, e1, e2, b, c, d, ⟨ob, ar, ep, h1, h2, h3, f, g, ?_⟩, e3⟩
    have e1 : ((ks.map nk).zip (bs.zip rs)).map (·.1) = ks.map nk := by rw [← List.unzip_fst, List.unzip_zip_left (by rw [List.length_map, List.length_zip]; omega)]
    rw [e1]
    exact nodup_tup ha hn
theorem val_flat {rs : List Value} (ha : ks.all flatD = true) (hk : flatD k = true) (hl : rs.length = ks.length) : valueAt ((ks.map kOf).zip rs) (kOf k) = (match kix ks k with | some i => rs[i]? | none => none) := by
  unfold valueAt
  rw [zip_find (kOf k) (ks.map kOf) rs (by rw [List.length_map]; exact hl), kix_flat ha hk]
theorem val_tup {bs : List Addr} {rs : List Value} (ha : ks.all tupB = true) (hk : tupB k = true) (hl : rs.length = ks.length) (hb : bs.length = ks.length) : atKey ((ks.map nk).zip (bs.zip rs)) (nk k) = (match kix ks k with | some i => (bs.zip rs)[i]? | none => none) := by
  unfold atKey
  rw [zip_find (nk k) (ks.map nk) (bs.zip rs) (by rw [List.length_map, List.length_zip]; omega), kix_tup ha hk]
theorem kix_lt {i : Nat} (h : kix ks k = some i) : i < ks.length := by
  unfold kix at h
  exact (List.findIdx?_eq_some_iff_getElem.mp h).1
theorem vals_at {vs : List V} {rs : List Value} (h : Vals vs rs) {i : Nat} (e : vs[i]? = some v) : ∃ x, rs[i]? = some x ∧ RelV v x := by
  induction h generalizing i with
  | nil => simp at e
  | cons h1 _ ih =>
    cases i with
    | zero => simp at e; subst e; exact ⟨_, rfl, h1⟩
    | succ i => simpa using ih (by simpa using e)
theorem zip_at {bs : List Addr} {rs : List Value} {i : Nat} {x : Value} (hl : bs.length = rs.length) (e : rs[i]? = some x) : ∃ b, (bs.zip rs)[i]? = some (b, x) := by
  have hi := (List.getElem?_eq_some_iff.mp e).1
  refine ⟨bs[i]'(by omega), ?_⟩
  rw [List.getElem?_zip_eq_some]
  exact ⟨List.getElem?_eq_getElem (by omega), e⟩
/-- d[y], there -/
theorem dd_get {Q : Value → Shared → Prop} {i : Nat} (hu : A.units + 100 < cLine) (I : Inv X pins σ H s) (e : Rd H p (DicO X.w p ob ks us ws)) (rk : Reps (kwOf X) F us ks) (sF : Same F H) (ok : okKey ks k = true) (ry : Rep (kwOf X) F y k) (ru : RelV y u)
    (hi : kix ks k = some i) (hv : ws[i]? = some v) (h : ∀ w' s', Inv X pins σ H s' → RelV v w' → Q w' s') : wpAny (model X.prog X.w) A (getItem (.ref p) u) Q E s := by
  rcases dic_see I e rk sF ok ry ru with ⟨rs, hd, hz, ha, hk, a, b, dd, hs⟩ | ⟨bs, rs, c, hd, hz, ha, hk, e1, e2, e3, a, b, f, dd, hs⟩
  · obtain ⟨x, hx, rx⟩ := vals_at a hv
    exact wpAny_getItem_of hs dd.mapOf (by rw [val_flat ha hk b, hi]; exact hx) (h x _ (I.tok _) rx)
  · obtain ⟨x, hx, rx⟩ := vals_at a hv
    subst e3
    obtain ⟨b', hb⟩ := zip_at (bs := bs) (by rw [f, b]) hx
    exact wpAny_getItem_heap (knd := nestedKind X.prog X.w) (by show A.in1.units + 8 < cLine; rw [Around.in1_units]; omega) hs dd (by rw [val_tup ha hk b f, hi]; exact hb) (h x _ (I.tok _) rx)
theorem dd_in {Q : Value → Shared → Prop} (hu : A.units + 100 < cLine) (I : Inv X pins σ H s) (e : Rd H p (DicO X.w p ob ks us ws)) (rk : Reps (kwOf X) F us ks) (sF : Same F H) (ok : okKey ks k = true) (ry : Rep (kwOf X) F y k) (ru : RelV y u)
    (h : ∀ s', Inv X pins σ H s' → Q (.bool (kix ks k).isSome) s') : wpAny (model X.prog X.w) A (compareOp .In u (.ref p)) Q E s := by
  rcases dic_see I e rk sF ok ry ru with ⟨rs, hd, hz, ha, hk, a, b, dd, hs⟩ | ⟨bs, rs, c, hd, hz, ha, hk, e1, e2, e3, a, b, f, dd, hs⟩
  · refine wpAny_in_of hs hd dd.mapOf ?_
    have z : (valueAt ((ks.map kOf).zip rs) (kOf k)).isSome = (kix ks k).isSome := by
      rw [val_flat ha hk b]
      cases q : kix ks k with
      | none => rfl
      | some i => simp [List.getElem?_eq_getElem (show i < rs.length by rw [b]; exact kix_lt q)]
    rw [z]
    exact h _ (I.tok _)
  · subst e3
    refine wpAny_in_heap (knd := nestedKind X.prog X.w) (by show A.in1.units + 8 < cLine; rw [Around.in1_units]; omega) hs hd dd ?_
    have z : (atKey ((ks.map nk).zip (bs.zip rs)) (nk k)).isSome = (kix ks k).isSome := by
      rw [val_tup ha hk b f]
      cases q : kix ks k with
      | none => rfl
      | some i =>
        have hl := kix_lt q
        simp [List.getElem?_eq_getElem (show i < (bs.zip rs).length by rw [List.length_zip, b, f]; omega)]
    rw [z]
    exact h _ (I.tok _)
theorem dd_notIn {Q : Value → Shared → Prop} (hu : A.units + 100 < cLine) (I : Inv X pins σ H s) (e : Rd H p (DicO X.w p ob ks us ws)) (rk : Reps (kwOf X) F us ks) (sF : Same F H) (ok : okKey ks k = true) (ry : Rep (kwOf X) F y k) (ru : RelV y u)
    (h : ∀ s', Inv X pins σ H s' → Q (.bool (!(kix ks k).isSome)) s') : wpAny (model X.prog X.w) A (compareOp .NotIn u (.ref p)) Q E s := by
  rcases dic_see I e rk sF ok ry ru with ⟨rs, hd, hz, ha, hk, a, b, dd, hs⟩ | ⟨bs, rs, c, hd, hz, ha, hk, e1, e2, e3, a, b, f, dd, hs⟩
  · refine wpAny_notIn_of hs hd dd.mapOf ?_
    have z : (valueAt ((ks.map kOf).zip rs) (kOf k)).isSome = (kix ks k).isSome := by
      rw [val_flat ha hk b]
      cases q : kix ks k with
      | none => rfl
      | some i => simp [List.getElem?_eq_getElem (show i < rs.length by rw [b]; exact kix_lt q)]
    rw [z]
    exact h _ (I.tok _)
  · subst e3
    refine wpAny_notIn_heap (knd := nestedKind X.prog X.w) (by show A.in1.units + 8 < cLine; rw [Around.in1_units]; omega) hs hd dd ?_
    have z : (atKey ((ks.map nk).zip (bs.zip rs)) (nk k)).isSome = (kix ks k).isSome := by
      rw [val_tup ha hk b f]
      cases q : kix ks k with
      | none => rfl
      | some i =>
        have hl := kix_lt q
        simp [List.getElem?_eq_getElem (show i < (bs.zip rs).length by rw [List.length_zip, b, f]; omega)]
    rw [z]
    exact h _ (I.tok _)
/-- what d.get tells: the value that is there, else the other one -/
def dor (ws : List V) (o : Option Nat) (x : V) : V := match o with
  | some i => (ws[i]?).getD x
  | none => x
theorem dd_or1 {Q : Value → Shared → Prop} (hu : A.units + 100 < cLine) (I : Inv X pins σ H s) (e : Rd H p (DicO X.w p ob ks us ws)) (rk : Reps (kwOf X) F us ks) (sF : Same F H) (ok : okKey ks k = true) (ry : Rep (kwOf X) F y k) (ru : RelV y u)
    (h : ∀ w' s', Inv X pins σ H s' → RelV (dor ws (kix ks k) .non) w' → Q w' s') : wpAny (model X.prog X.w) A (call (.builtin "dict.get") [.ref p, u]) Q E s := by
  rcases dic_see I e rk sF ok ry ru with ⟨rs, hd, hz, ha, hk, a, b, dd, hs⟩ | ⟨bs, rs, c, hd, hz, ha, hk, e1, e2, e3, a, b, f, dd, hs⟩
  · refine call_meetsIn PySem.F.slot_dict_get dd.typeIs PySem.F.entry_dict_get (PySem.F.args_dict_get_2 _ _) (meets_dict_get (mixKind X.prog X.w) p hs hd) ⟨_, dd.mapOf, h _ _ (I.tok _) ?_⟩
    rw [val_flat ha hk b]
    unfold dor
    cases q : kix ks k with
    | none => exact rfl
    | some i =>
      have hl := kix_lt q
      have hw : i < ws.length := by rw [Paired.length a, b]; exact hl
      obtain ⟨x, hx, rx⟩ := vals_at a (List.getElem?_eq_getElem hw)
      simp only [hx, List.getElem?_eq_getElem hw]
      exact rx
  · subst e3
    refine call_meetsIn PySem.F.slot_dict_get dd.typeIs PySem.F.entry_dict_get (PySem.F.args_dict_get_2 _ _) (meetsH_dict_get (nestedKind X.prog X.w) p c hd) ⟨by show A.in1.units + 8 < cLine; rw [Around.in1_units]; omega, nk k, _, hs, dd, h _ _ (I.tok _) ?_⟩
    rw [val_tup ha hk b f]
    unfold dor
    cases q : kix ks k with
    | none => exact rfl
    | some i =>
      have hl := kix_lt q
      have hw : i < ws.length := by rw [Paired.length a, b]; exact hl
      obtain ⟨x, hx, rx⟩ := vals_at a (List.getElem?_eq_getElem hw)
      obtain ⟨b', hb⟩ := zip_at (bs := bs) (by rw [f, b]) hx
      simp only [hb, List.getElem?_eq_getElem hw]
      exact rx
theorem dd_or2 {Q : Value → Shared → Prop} {z : V} (hu : A.units + 100 < cLine) (I : Inv X pins σ H s) (e : Rd H p (DicO X.w p ob ks us ws)) (rk : Reps (kwOf X) F us ks) (sF : Same F H) (ok : okKey ks k = true) (ry : Rep (kwOf X) F y k) (ru : RelV y u) (rz : RelV z r)
    (h : ∀ w' s', Inv X pins σ H s' → RelV (dor ws (kix ks k) z) w' → Q w' s') : wpAny (model X.prog X.w) A (call (.builtin "dict.get") [.ref p, u, r]) Q E s := by
  rcases dic_see I e rk sF ok ry ru with ⟨rs, hd, hz, ha, hk, a, b, dd, hs⟩ | ⟨bs, rs, c, hd, hz, ha, hk, e1, e2, e3, a, b, f, dd, hs⟩
  · refine call_meetsIn PySem.F.slot_dict_get dd.typeIs PySem.F.entry_dict_get (PySem.F.args_dict_get_3 _ _ _) (meets_dict_get_default (mixKind X.prog X.w) p hs hd r) ⟨_, dd.mapOf, h _ _ (I.tok _) ?_⟩
    rw [val_flat ha hk b]
    unfold dor
    cases q : kix ks k with
    | none => exact rz
    | some i =>
      have hl := kix_lt q
      have hw : i < ws.length := by rw [Paired.length a, b]; exact hl
      obtain ⟨x, hx, rx⟩ := vals_at a (List.getElem?_eq_getElem hw)
      simp only [hx, List.getElem?_eq_getElem hw]
      exact rx
  · subst e3
    refine call_meetsIn PySem.F.slot_dict_get dd.typeIs PySem.F.entry_dict_get (PySem.F.args_dict_get_3 _ _ _) (meetsH_dict_get_default (nestedKind X.prog X.w) p c hd r) ⟨by show A.in1.units + 8 < cLine; rw [Around.in1_units]; omega, nk k, _, hs, dd, h _ _ (I.tok _) ?_⟩
    rw [val_tup ha hk b f]
    unfold dor
    cases q : kix ks k with
    | none => exact rz
    | some i =>
      have hl := kix_lt q
      have hw : i < ws.length := by rw [Paired.length a, b]; exact hl
      obtain ⟨x, hx, rx⟩ := vals_at a (List.getElem?_eq_getElem hw)
      obtain ⟨b', hb⟩ := zip_at (bs := bs) (by rw [f, b]) hx
      simp only [hb, List.getElem?_eq_getElem hw]
      exact rx
theorem dic_ok {P : Program} {w : World} {H : Hp} {h : Heap} (d : DicP w p ob ks us ws h) : ObjOk P w H h p (DicO w p ob ks us ws) := by
  refine ⟨d, ?_, fun h1 h2 q keep => ?_⟩
  · exact ⟨ob, d.2.2.2.1⟩
  · obtain ⟨a, b, c, e1, e2, ar, ep, e3, e4⟩ := q
    exact ⟨a, b, c, keep _ e1, e2, ar, ep, e3, e4⟩
/-- keys and values as they lie, behind a store -/
def uputV (us : List V) (o : Option Nat) (y : V) : List V := match o with
  | some _ => us
  | none => us ++ [y]
def wputV (ws : List V) (o : Option Nat) (v : V) : List V := match o with
  | some i => ws.set i v
  | none => ws ++ [v]
theorem vals_set {vs : List V} {rs : List Value} (h : Vals vs rs) (rv : RelV v r) : ∀ i, Vals (vs.set i v) (rs.set i r) := by
  induction h with
  | nil => intro i; exact .nil
  | cons h1 h2 ih =>
    intro i
    cases i with
    | zero => exact .cons rv h2
    | succ i => exact .cons h1 (ih i)
theorem vals_snoc {vs : List V} {rs : List Value} (h : Vals vs rs) (rv : RelV v r) : Vals (vs ++ [v]) (rs ++ [r]) := by
  induction h with
  | nil => exact .cons rv .nil
  | cons h1 h2 ih => exact .cons h1 ih
theorem kix_none {ks : List D} (h : kix ks k = none) : ∀ x ∈ ks, eqD x k = false := by
  unfold kix at h
  rw [List.findIdx?_eq_none_iff] at h
  intro x hx
  have := h x hx
  simpa using this
theorem dputK_nd (hn : ks.Nodup) (ok : okKey ks k = true) : (dputK ks k).Nodup := by
  unfold dputK
  cases q : kix ks k with
  | some i => exact hn
  | none =>
    have z := kix_none q
    rw [List.nodup_append]
    refine ⟨hn, by simp, fun a ha b hb e => ?_⟩
    have hb := List.mem_singleton.mp hb
    subst hb
    subst e
    have z := z _ ha
    unfold okKey at ok
    rw [Bool.or_eq_true, Bool.and_eq_true, Bool.and_eq_true] at ok
    rcases ok with ⟨hk, _⟩ | ⟨hk, _⟩
    · rw [flat_py hk hk] at z; simp at z
    · unfold eqD at z
      rw [eqv_nk _ _ (tup_nk hk).1 (tup_nk hk).1] at z
      simp at z
theorem dputK_len : (dputK ks k).length ≤ ks.length + 1 := by
  unfold dputK
  split <;> simp
/-- d[y] = v -/
theorem dd_set {Q : Unit → Shared → Prop} (hu : A.units + 100 < cLine) (I : Inv X pins σ H s) (e : H p = some (DicO X.w p ob ks us ws)) (rk : Reps (kwOf X) F us ks) (sF : Same F H) (ok : okKey ks k = true) (hl : ks.length < sizeLine) (ry : Rep (kwOf X) F y k) (ru : RelV y u) (rv : RelV v r)
    (h : ∀ ob' s', Inv X pins σ (upd H p (DicO X.w p ob' (dputK ks k) (uputV us (kix ks k) y) (wputV ws (kix ks k) v))) s' → Q () s') : wpAny (model X.prog X.w) A (setItem (.ref p) u r) Q E s := by
  have mu : Mut (H p) := by rw [e]; exact True.intro
  have nd := (dic_at I (.inl e)).2.2.1
  have hdm := (dic_at I (.inl e)).1
  rcases dic_see I (.inl e) rk sF ok ry ru with ⟨rs, hd, hz, ha, hk, a, b, dd, hs⟩ | ⟨bs, rs, c, hd, hz, ha, hk, e1, e2, e3, a, b, f, dd, hs⟩
  · refine wpAny_setItem_pairs (hsz := by rw [List.length_zip, List.length_map]; omega) hs dd fun h' dd' hb => ?_
    obtain ⟨o, ar, ep, h1, h2, h3, h4, h5, h6⟩ := dd'
    have h4 : ∀ e ∈ ar.toList, ∃ k, (mixKind X.prog X.w).is k e.key = true ∧ e.hash = (mixKind X.prog X.w).hash k := fun e he => h4 e (by simpa using he)
    refine h o _ (d_write I mu hb ⟨o, h1⟩ (dic_ok ⟨hdm, ?_, dputK_nd nd ok, h1, h2, ar, ep, h3, ?_⟩))
    · have := dputK_len (ks := ks) (k := k); omega
    · have kf := kix_flat ha hk
      have an := any_find (kOf k) (ks.map kOf) rs (by rw [List.length_map]; exact b)
      unfold stored at h5
      have an : ((ks.map kOf).zip rs).any (fun kv => decide (kv.1 = kOf k)) = (kix ks k).isSome := by rw [an, ← kf]
      rw [an] at h5
      unfold dputK uputV wputV
      cases q : kix ks k with
      | some i =>
        rw [q] at h5 kf
        rw [if_pos (show (some i).isSome = true from rfl), zip_map (fun _ => r) (nodup_flat ha nd) (by rw [List.length_map]; exact b) kf.symm, modify_set] at h5
        exact flat_back (rs := rs.set i r) h4 h5 (by rw [List.length_set]; exact b) ha rk (vals_set a rv i)
      | none =>
        rw [q] at h5
        rw [if_neg (by simp)] at h5
        have e5 : (ks.map kOf).zip rs ++ [(kOf k, r)] = ((ks ++ [k]).map kOf).zip (rs ++ [r]) := by
          rw [List.map_append, List.zip_append (by rw [List.length_map]; omega)]
          rfl
        rw [e5] at h5
        exact flat_back (rs := rs ++ [r]) h4 h5 (by simp [b]) (by rw [List.all_append, ha]; simp [hk]) (rk.append (.cons ry .nil)) (vals_snoc a rv)
  · subst e3 e2 e1
    refine wpAny_setItem_heap (knd := nestedKind X.prog X.w) (hsz := by rw [List.length_zip, List.length_zip, List.length_map]; omega) (by show A.in1.units + 8 < cLine; rw [Around.in1_units]; omega) hs dd fun h' dd' hb => ?_
    obtain ⟨o, ar, ep, h1, h2, h3, h4, h5, h6⟩ := dd'
    refine h o _ (d_write I mu hb ⟨o, h1⟩ (dic_ok ⟨hdm, ?_, dputK_nd nd ok, h1, h2, ar, ep, h3, ?_⟩))
    · have := dputK_len (ks := ks) (k := k); omega
    · have kf := kix_tup ha hk
      have kl : (bs.zip rs).length = (ks.map nk).length := by rw [List.length_zip, List.length_map]; omega
      have at_ := val_tup ha hk b f
      unfold storedH at h4
      have an : (atKey ((ks.map nk).zip (bs.zip rs)) (nk k)).isSome = (kix ks k).isSome := by
        rw [at_]
        cases q : kix ks k with
        | none => rfl
        | some i =>
          have hl := kix_lt q
          simp [List.getElem?_eq_getElem (show i < (bs.zip rs).length by rw [List.length_zip, b, f]; omega)]
      rw [an] at h4
      unfold dputK uputV wputV
      cases q : kix ks k with
      | some i =>
        rw [q] at h4 kf
        have em : ((ks.map nk).zip (bs.zip rs)).map (putAt (nk k) r) = (ks.map nk).zip (bs.zip (rs.set i r)) := by
          have z := zip_map (fun x : Addr × Value => (x.1, r)) (nodup_tup ha nd) kl kf.symm
          have z2 : (bs.zip rs).modify i (fun x => (x.1, r)) = bs.zip (rs.set i r) := zmod bs rs i r
          rw [z2] at z
          exact z
        rw [if_pos (show (some i).isSome = true from rfl), em] at h4
        exact tup_back (rs := rs.set i r) h4 (by rw [List.length_set]; exact b) f (vals_set a rv i)
      | none =>
        rw [q] at h4
        rw [if_neg (by simp)] at h4
        have e5 : (ks.map nk).zip (bs.zip rs) ++ [(nk k, c, r)] = ((ks ++ [k]).map nk).zip ((bs ++ [c]).zip (rs ++ [r])) := by
          rw [List.map_append, List.zip_append (show bs.length = rs.length by omega), List.zip_append kl.symm]
          rfl
        rw [e5] at h4
        have e6 : bs.map V.ref ++ [V.ref c] = (bs ++ [c]).map V.ref := by rw [List.map_append]; rfl
        rw [e6]
        exact tup_back (rs := rs ++ [r]) h4 (by simp [b]) (by simp [f]) (vals_snoc a rv)
where
  zmod : ∀ (bs : List Addr) (rs : List Value) (i : Nat) (r : Value), (bs.zip rs).modify i (fun x => (x.1, r)) = bs.zip (rs.set i r)
  | [], _, _, _ => by simp
  | _ :: _, [], _, _ => by simp
  | b :: bs, x :: rs, 0, r => by simp
  | b :: bs, x :: rs, i + 1, r => by
    rw [List.zip_cons_cons, List.set_cons_succ, List.zip_cons_cons, List.modify_succ_cons, zmod bs rs i r]
theorem dd_len {Q : Value → Shared → Prop} (I : Inv X pins σ H s) (e : Rd H p (DicO X.w p ob ks us ws)) (rk : Reps (kwOf X) F us ks) (sF : Same F H) (ok : (ks.all flatD || ks.all tupB) = true) (h : ∀ t s', Inv X pins σ H s' → Q (.int ks.length t) s') : wpAny (model X.prog X.w) A (call (.builtin "len") [.ref p]) Q E s := by
  obtain ⟨hd, hz, hn, h1, h2, ar, ep, h3, h4⟩ := dic_at I e
  rw [Bool.or_eq_true] at ok
  rcases ok with ha | ha
  · obtain ⟨rs, a, b, c, d⟩ := ents_flat (P := X.prog) h4 ha rk
    have dd : s.heap.DictOf (mixKind X.prog X.w) p ((ks.map kOf).zip rs) := by
      refine ⟨ob, ar, ep, h1, h2, h3, fun e he => c e (by simpa using he), d, ?_⟩
      have e1 : ((ks.map kOf).zip rs).map (·.1) = ks.map kOf := by rw [← List.unzip_fst, List.unzip_zip_left (by rw [List.length_map]; omega)]
      rw [e1]
      exact nodup_flat ha hn
    have hl : ((ks.map kOf).zip rs).length = ks.length := by rw [List.length_zip, List.length_map]; omega
    refine call_len_dict hd dd (by rw [hl]; rw [sizeLine_eq] at hz; omega) ?_
    rw [hl]
    exact h _ _ (I.tok _)
  · obtain ⟨bs, rs, a, b, c, d, f, g⟩ := ents_tup (K := kwOf X) rfl I sF h4 ha rk
    have dd : s.heap.DictOfH (nestedKind X.prog X.w) p ((ks.map nk).zip (bs.zip rs)) := by
      refine ⟨ob, ar, ep, h1, h2, h3, f, g, ?_⟩
      have e1 : ((ks.map nk).zip (bs.zip rs)).map (·.1) = ks.map nk := by rw [← List.unzip_fst, List.unzip_zip_left (by rw [List.length_map, List.length_zip]; omega)]
      rw [e1]
      exact nodup_tup ha hn
    have hl : (pairsH ((ks.map nk).zip (bs.zip rs))).length = ks.length := by rw [pairsH_length, List.length_zip, List.length_zip, List.length_map]; omega
    refine PyProof.Rows.call_len_slot (n := ks.length) dd.typeIs PySem.F.slot_dict_len (fun Q' hq => len_keyed hd ⟨_, dd, rfl⟩ (by rw [hl]; exact hq)) (by omega) (by rw [sizeLine_eq] at hz; omega) ?_
    exact h _ _ (I.tok _)
theorem dic_empty {P : Program} {w : World} {H : Hp} (h : Heap) (hb : sysModules < h.objs.size) : ObjOk P w H (h.push { cls := .type "dict", data := .dict #[] }) h.objs.size (DicO w h.objs.size { cls := .type "dict", data := .dict #[] } [] [] []) :=
  dic_ok ⟨beq_eq_false_iff_ne.mpr (Ne.symm (Nat.ne_of_lt hb)), Nat.zero_le _, List.nodup_nil, Heap.get?_push_size _ rfl, ⟨rfl, rfl, rfl⟩, #[], 0, rfl, trivial⟩
end
theorem pl_nd {d : D} (h : plD d = true) : noDic d = true := key_tup.nd_ d h
theorem flat_nd {d : D} (h : flatD d = true) : noDic d = true := by cases d <;> first | rfl | cases h
theorem tup_nd {d : D} (h : tupB d = true) : noDic d = true := pl_nd (tup_nk h).1
theorem nds_of : ∀ {ds : List D}, (∀ d ∈ ds, noDic d = true) → noDics ds = true
  | [], _ => rfl
  | d :: ds, h => by simp [noDics, h d List.mem_cons_self, nds_of fun x hx => h x (List.mem_cons_of_mem _ hx)]
end PV
/-! PV5: comparisons, subscripts, built-ins, methods on values and on data. -/
namespace PV
open PySem PySem.Spec PyProof.Rows L2

section
variable {X : Cx}
/-- two operands that are read, a scalar comes of them -/
def rSee (K : KW) (f : D → D → R D) : R2 := fun x y H Q => ∃ a b d, Rep K H x a ∧ Rep K H y b ∧ f a b = .ok d ∧ ∀ v, Rep K H v d → Q v H
theorem see_bl {pins : List (Addr × Obj)} {σ : L2.St} {H : Hp} {s : Shared} {Q : VK} {b : Bool} (I : Inv X pins σ H s) (k : ∀ v, Rep (kwOf X) H v (.bl b) → Q v H) : EP X pins σ Q (.bool b) s := ⟨.bl b, H, I, rfl, k _ (.bl b)⟩
theorem op_eqD' (hu : X.A.units + 100 < cLine) : OpR X (compareOp .Eq) (rSee (kwOf X) (cmpD .Eq)) := by
  intro pins s σ H x y v u Q I rx ry h
  obtain ⟨a, b, d, ha, hb, e, k⟩ := h
  obtain ⟨⟨hs, hn⟩, e⟩ := R.need_eq e
  have e := R.ok.inj e; subst e
  obtain ⟨as, r1⟩ := Dp.reads I _ x v (ha.dp _ _ hn.1) rx
  obtain ⟨bs, r2⟩ := Dp.reads I _ y u (hb.dp _ _ hn.2) ry
  have d1 := dep_le a ha
  have d2 := dep_le b hb
  exact SeqAt.compareEq_reads r1 r2 (ha.lay _ _ hn.1) (hb.lay _ _ hn.2) (by rcases hs with h | h <;> omega) (see_bl I k)
theorem op_neD' (hu : X.A.units + 100 < cLine) : OpR X (compareOp .NotEq) (rSee (kwOf X) (cmpD .NotEq)) := by
  intro pins s σ H x y v u Q I rx ry h
  obtain ⟨a, b, d, ha, hb, e, k⟩ := h
  obtain ⟨⟨hs, hn⟩, e⟩ := R.need_eq e
  have e := R.ok.inj e; subst e
  obtain ⟨as, r1⟩ := Dp.reads I _ x v (ha.dp _ _ hn.1) rx
  obtain ⟨bs, r2⟩ := Dp.reads I _ y u (hb.dp _ _ hn.2) ry
  have d1 := dep_le a ha
  have d2 := dep_le b hb
  exact SeqAt.compareNe_reads r1 r2 (ha.lay _ _ hn.1) (hb.lay _ _ hn.2) (by rcases hs with h | h <;> omega) (see_bl I k)
theorem op_cmpI {op : CmpOp} {p : Int → Int → Bool} (h0 : OpR X (compareOp op) (rI0 fun i j => .bl (p i j))) (hg : ∀ a b d, cmpD op a b = .ok d → ∃ i j, a = .int i ∧ b = .int j ∧ d = .bl (p i j)) : OpR X (compareOp op) (rSee (kwOf X) (cmpD op)) := by
  intro pins s σ H x y v u Q I rx ry h
  obtain ⟨a, b, d, ha, hb, e, k⟩ := h
  obtain ⟨i, j, rfl, rfl, rfl⟩ := hg a b d e
  have h1 := ha.int_inv; have h2 := hb.int_inv; subst h1; subst h2
  exact h0 pins s σ H _ _ v u Q I rx ry ⟨_, _, rfl, rfl, k _ (.bl _)⟩
theorem op_inD' (hu : X.A.units + 100 < cLine) : OpR X (compareOp .In) (rSee (kwOf X) inD) := by
  intro pins s σ H x y v u Q I rx ry h
  obtain ⟨a, b, d, ha, hb, e, k⟩ := h
  have seq : ∀ ds, (b = .lst ds ∨ b = .tup ds) → dep a ≤ 64 ∧ (noDic a = true ∧ noDics ds = true) → d = .bl (ds.any fun y => eqD y a) → wpAny (model X.prog X.w) X.A (compareOp .In v u) (EP X pins σ Q) X.xe s := by
    intro ds hb' ⟨hd, hn⟩ e
    subst e
    obtain ⟨as, r1⟩ := Dp.reads I _ x v (ha.dp _ _ hn.1) rx
    have d1 := dep_le a ha
    have hq : EP X pins σ Q (.bool ((toPys ds).any fun z => PyData.eqv z (toPy a))) s := by rw [toPys_any]; exact see_bl I k
    rcases hb' with rfl | rfl
    · obtain ⟨bs, r2⟩ := Dp.reads I _ y u (hb.dp _ _ hn.2) ry
      have l2 := Rep.lay _ _ hb hn.2
      simp only [toPy, PyData.canLay0] at l2 r2
      exact SeqAt.in_list_reads r2 r1 l2 (ha.lay _ _ hn.1) (by omega) hq
    · obtain ⟨bs, r2⟩ := Dp.reads I _ y u (hb.dp _ _ hn.2) ry
      have l2 := Rep.lay _ _ hb hn.2
      simp only [toPy, PyData.canLay0] at l2 r2
      exact SeqAt.in_tuple_reads r2 r1 l2 (ha.lay _ _ hn.1) (by omega) hq
  cases b with
  | lst ds =>
    exact seq ds (.inl rfl) (R.need_eq e).1 (R.ok.inj (R.need_eq e).2).symm
  | tup ds =>
    exact seq ds (.inr rfl) (R.need_eq e).1 (R.ok.inj (R.need_eq e).2).symm
  | str z =>
    match a, e with
    | .str [c], e =>
      have e : D.bl (decide (c ∈ z)) = d := R.ok.inj e
      subst e
      obtain ⟨h1, o1⟩ := ha.str_inv
      obtain ⟨h2, o2⟩ := hb.str_inv
      subst h1; subst h2
      exact op_in_sign pins s σ H _ _ v u Q I rx ry ⟨c, mkS z, rfl, rfl, k _ (.bl _)⟩
  | non => cases e
  | bl _ => cases e
  | int _ => cases e
  | dic ks vs =>
    obtain ⟨ok, e⟩ := R.need_eq e
    have e := R.ok.inj e; subst e
    cases hb with
    | dic h1 h2 h3 =>
      have ry : u = Value.ref _ := ry
      subst ry
      exact dd_in hu I h1 h2 (Same.refl _) ok ha rx fun s' I' => see_bl I' k
  | scr _ => cases e
  | frz _ => cases e
  | err _ _ => cases e
  | obj _ _ => cases e
theorem bnot_ok {r : R D} {d : D} (h : bnot r = .ok d) : ∃ b, r = .ok (.bl b) ∧ d = .bl (!b) := by
  cases r with
  | ok a => cases a <;> first | (cases h; done) | exact ⟨_, rfl, (R.ok.inj h).symm⟩
  | exc e => cases h
  | bad => cases h
theorem op_notInD' (hu : X.A.units + 100 < cLine) : OpR X (compareOp .NotIn) (rSee (kwOf X) fun a b => bnot (inD a b)) := by
  intro pins s σ H x y v u Q I rx ry h
  obtain ⟨a, b, d, ha, hb, e, k⟩ := h
  obtain ⟨r, e0, e2⟩ := bnot_ok e
  clear e
  have e := e0
  clear e0
  subst e2
  have seq : ∀ ds, (b = .lst ds ∨ b = .tup ds) → dep a ≤ 64 ∧ (noDic a = true ∧ noDics ds = true) → r = (ds.any fun y => eqD y a) → wpAny (model X.prog X.w) X.A (compareOp .NotIn v u) (EP X pins σ Q) X.xe s := by
    intro ds hb' ⟨hd, hn⟩ e
    subst e
    obtain ⟨as, r1⟩ := Dp.reads I _ x v (ha.dp _ _ hn.1) rx
    have d1 := dep_le a ha
    have hq : EP X pins σ Q (.bool (!(toPys ds).any fun z => PyData.eqv z (toPy a))) s := by rw [toPys_any]; exact see_bl I k
    rcases hb' with rfl | rfl
    · obtain ⟨bs, r2⟩ := Dp.reads I _ y u (hb.dp _ _ hn.2) ry
      have l2 := Rep.lay _ _ hb hn.2
      simp only [toPy, PyData.canLay0] at l2 r2
      exact SeqAt.notIn_list_reads r2 r1 l2 (ha.lay _ _ hn.1) (by omega) hq
    · obtain ⟨bs, r2⟩ := Dp.reads I _ y u (hb.dp _ _ hn.2) ry
      have l2 := Rep.lay _ _ hb hn.2
      simp only [toPy, PyData.canLay0] at l2 r2
      exact SeqAt.notIn_tuple_reads r2 r1 l2 (ha.lay _ _ hn.1) (by omega) hq
  cases b with
  | lst ds =>
    exact seq ds (.inl rfl) (R.need_eq e).1 (D.bl.inj (R.ok.inj (R.need_eq e).2)).symm
  | tup ds =>
    exact seq ds (.inr rfl) (R.need_eq e).1 (D.bl.inj (R.ok.inj (R.need_eq e).2)).symm
  | str z =>
    match a, e with
    | .str [c], e =>
      have e : decide (c ∈ z) = r := D.bl.inj (R.ok.inj e)
      subst e
      obtain ⟨h1, o1⟩ := ha.str_inv
      obtain ⟨h2, o2⟩ := hb.str_inv
      subst h1; subst h2
      exact op_notIn_sign pins s σ H _ _ v u Q I rx ry ⟨c, mkS z, rfl, rfl, k _ (.bl _)⟩
  | non => cases e
  | bl _ => cases e
  | int _ => cases e
  | dic ks vs =>
    obtain ⟨ok, e⟩ := R.need_eq e
    have e := D.bl.inj (R.ok.inj e); subst e
    cases hb with
    | dic h1 h2 h3 =>
      have ry : u = Value.ref _ := ry
      subst ry
      exact dd_notIn hu I h1 h2 (Same.refl _) ok ha rx fun s' I' => see_bl I' k
  | scr _ => cases e
  | frz _ => cases e
  | err _ _ => cases e
  | obj _ _ => cases e
theorem isNone_v {K : KW} {H : Hp} {v : V} : ∀ {d : D}, Rep K H v d → decide (v = .non) = isNone d
  | .frz d, h => by
    cases h with
    | frz h => exact isNone_v (d := d) h
  | .non, h => by cases h; rfl
  | .bl _, h => by cases h; rfl
  | .int _, h => by cases h; rfl
  | .str _, h => by cases h; rfl
  | .tup _, h => by cases h; rfl
  | .lst _, h => by cases h; rfl
  | .dic _ _, h => by cases h; rfl
  | .scr _, h => by cases h; rfl
  | .err _ _, h => by cases h
  | .obj _ _, h => by cases h
theorem op_isB (v u : Bool) {pins : List (Addr × Obj)} {s : Shared} {σ : L2.St} {H : Hp} {Q : VK} (I : Inv X pins σ H s) (q : Q (.bl (v == u)) H) : wpAny (model X.prog X.w) X.A (compareOp .Is (.bool v) (.bool u)) (EP X pins σ Q) X.xe s :=
  wpAny_is_plain rfl (fin_bl I q (by cases v <;> cases u <;> rfl))
theorem op_notB (v u : Bool) {pins : List (Addr × Obj)} {s : Shared} {σ : L2.St} {H : Hp} {Q : VK} (I : Inv X pins σ H s) (q : Q (.bl (!(v == u))) H) : wpAny (model X.prog X.w) X.A (compareOp .IsNot (.bool v) (.bool u)) (EP X pins σ Q) X.xe s :=
  wpAny_isNot_plain rfl (fin_bl I q (by cases v <;> cases u <;> rfl))
/-- every comparison -/
theorem op_cmpD (op : CmpOp) (hu : X.A.units + 100 < cLine) : OpR X (compareOp op) (rSee (kwOf X) (cmpD op)) := by
  cases op with
  | Eq => exact op_eqD' hu
  | NotEq => exact op_neD' hu
  | Lt => exact op_cmpI (p := fun i j => decide (i < j)) op_lt fun a b d e => by cases a <;> cases b <;> first | (cases e; done) | exact ⟨_, _, rfl, rfl, (R.ok.inj e).symm⟩
  | LtE => exact op_cmpI (p := fun i j => decide (i ≤ j)) op_le fun a b d e => by cases a <;> cases b <;> first | (cases e; done) | exact ⟨_, _, rfl, rfl, (R.ok.inj e).symm⟩
  | Gt => exact op_cmpI (p := fun i j => decide (j < i)) op_gt fun a b d e => by cases a <;> cases b <;> first | (cases e; done) | exact ⟨_, _, rfl, rfl, (R.ok.inj e).symm⟩
  | GtE => exact op_cmpI (p := fun i j => decide (j ≤ i)) op_ge fun a b d e => by cases a <;> cases b <;> first | (cases e; done) | exact ⟨_, _, rfl, rfl, (R.ok.inj e).symm⟩
  | Is =>
    intro pins s σ H x y v u Q I rx ry h
    obtain ⟨a, b, d, ha, hb, e, k⟩ := h
    cases b <;> first | (cases e; done) | skip
    · have e := R.ok.inj e; subst e
      have h2 := hb.non_inv; subst h2
      exact op_isN pins s σ H _ _ v u Q I rx ry ⟨rfl, k _ (by rw [isNone_v ha]; exact .bl _)⟩
    · cases a <;> first | (cases e; done) | skip
      have e := R.ok.inj e; subst e
      have h1 := ha.bl_inv; subst h1
      have h2 := hb.bl_inv; subst h2
      cases rx; cases ry
      exact op_isB _ _ I (k _ (.bl _))
  | IsNot =>
    intro pins s σ H x y v u Q I rx ry h
    obtain ⟨a, b, d, ha, hb, e, k⟩ := h
    cases b <;> first | (cases e; done) | skip
    · have e := R.ok.inj e; subst e
      have h2 := hb.non_inv; subst h2
      exact op_notN pins s σ H _ _ v u Q I rx ry ⟨rfl, k _ (by rw [isNone_v ha]; exact .bl _)⟩
    · cases a <;> first | (cases e; done) | skip
      have e := R.ok.inj e; subst e
      have h1 := ha.bl_inv; subst h1
      have h2 := hb.bl_inv; subst h2
      cases rx; cases ry
      exact op_notB _ _ I (k _ (.bl _))
  | In => exact op_inD' hu
  | NotIn => exact op_notInD' hu
end

/-! ### subscripts -/
section
variable {X : Cx}
/-- what comes of them is at rest -/
def rRest (K : KW) (f : D → D → R D) : R2 := fun x y H Q => ∃ (F : Hp) (a b d : D), Same F H ∧ Sh K F H x a ∧ Sh K F H y b ∧ f a b = .ok d ∧ ∀ v, Rep K F v d → Q v H
theorem atI_reps {K : KW} {F : Hp} {vs : List V} {ds : List D} {i : Int} {d : D} (h : Reps K F vs ds) (e : atI ds i = some d) : ∃ v, atI vs i = some v ∧ Rep K F v d := by
  unfold atI at e ⊢
  rw [h.length]
  cases q : ixN ds.length i with
  | none => rw [q] at e; cases e
  | some j =>
    rw [q] at e
    exact h.get e
theorem okS1 {c : Nat} (h : c < 0x110000) : okS [c] := ⟨by show 1 ≤ sizeLine; decide, fun c' hc => by
  have e : c' = c := by simpa using hc
  subst e
  exact h⟩
theorem reps_ints {K : KW} {F : Hp} : ∀ ns : List Int, Reps K F (ns.map V.int) (ns.map D.int)
  | [] => .nil
  | i :: r => .cons (.int i) (reps_ints r)
theorem cut_map {α β : Type} (f : α → β) (xs : List α) (lo hi : Option Int) : cut (xs.map f) lo hi = (cut xs lo hi).map f := by
  unfold cut
  rw [List.length_map, List.map_take, List.map_drop]
/-- any value, its items, if it has any, at rest -/
theorem Sh.key {K : KW} {F H : Hp} {y : V} {b : D} (h : Sh K F H y b) (hk : flatD b = true ∨ tupB b = true) : Rep K F y b := by
  rcases hk with hk | hk
  · exact h.scal (by cases b <;> first | rfl | cases hk)
  · cases b <;> first | (cases hk; done) | skip
    obtain ⟨p, vs, e, h1, h2⟩ := h.tup
    subst e
    exact .tup h1 h2
theorem okKey_or {ks : List D} {k : D} (h : okKey ks k = true) : flatD k = true ∨ tupB k = true := by
  unfold okKey at h
  rw [Bool.or_eq_true, Bool.and_eq_true, Bool.and_eq_true] at h
  exact h.imp And.left And.left
theorem tail_dict {P : Program} {w : World} {A : Around} {E : Value → Shared → Prop} {s : Shared} {value slice : Expr} {T id : String} {o i : Value} {Q : Value → Shared → Prop} (hT : s.TypeIs o T)
    (hl : typeLookup (.type T) "__getitem__" = pure (some (.builtin id))) (hs : subscripted slice false o i = operate [o, i] (getItem o i)) (h : wpAny (model P w) A (getItem o i) Q E s) : wpAny (model P w) A (subscriptTail value slice o i) Q E s := by
  unfold subscriptTail
  refine wpAny_bind ?_
  rw [getitemInPython_of_ne hT.not_modules]
  refine wpAny_bind (wpAny_specialOf hT hl ?_)
  have fin : wpAny (model P w) A (subscripted slice false o i) (fun r s₃ => wpAny (model P w) A (letTemporaryGo value o r >>= fun _ => pure r) Q E s₃) E s := by
    rw [hs]
    exact wpAny_operating (wpAny_mono h (fun r s₃ h₃ => wpAny_bind (wpAny_letTemporaryGo (wpAny_pure h₃))) fun _ _ x => x)
  first
    | exact wpAny_pure (wpAny_bind fin)
    | exact wpAny_bind (wpAny_pure (wpAny_bind fin))
    | exact wpAny_bind fin
theorem ix_dic {ks vs : List D} {pins : List (Addr × Obj)} {s : Shared} {σ : L2.St} {F H : Hp} {x y : V} {v u : Value} {Q : VK} {b d : D} {value slice : Expr} (hu : X.A.units + 100 < cLine) (I : Inv X pins σ H s) (rx : RelV x v) (ry : RelV y u) (sF : Same F H) (ha : Sh (kwOf X) F H x (.dic ks vs)) (hb : Sh (kwOf X) F H y b)
    (e : ixD (.dic ks vs) b = .ok d) (k : ∀ v, Rep (kwOf X) F v d → Q v H) (hsub : subscripted slice false v u = operate [v, u] (getItem v u)) : wpAny (model X.prog X.w) X.A (subscriptTail value slice v u) (EP X pins σ Q) X.xe s := by
  have e : R.need (okKey ks b = true) (match dget ks vs b with | some d => R.ok d | none => R.bad) = .ok d := e
  obtain ⟨ok, e⟩ := R.need_eq e
  obtain ⟨p, ob, us, ws, rfl, h1, h2, h3⟩ := ha.dic sF
  have rx : v = Value.ref p := rx
  subst rx
  unfold dget at e
  cases q : kix ks b with
  | none => rw [q] at e; cases e
  | some i =>
    rw [q] at e
    have e : (match vs[i]? with | some d => R.ok d | none => R.bad) = .ok d := e
    cases q2 : vs[i]? with
    | none => rw [q2] at e; cases e
    | some d' =>
      rw [q2] at e
      have e := R.ok.inj e; subst e
      obtain ⟨w, hw, r⟩ := h3.get q2
      exact tail_dict (dic_at I h1).typeIs PySem.F.slot_dict_getitem.lookup hsub (dd_get hu I h1 h2 sF ok (hb.key (okKey_or ok)) ry q hw fun w' s' I' rw' => ⟨w, H, I', rw', k _ r⟩)
theorem ix_D (hu : X.A.units + 100 < cLine) : IxR X (rRest (kwOf X) ixD) := by
  intro value slice pins s σ H x y v u Q I rx ry h hsub
  obtain ⟨F, a, b, d, sF, ha, hb, e, k⟩ := h
  by_cases hd : ∃ ks vs, a = .dic ks vs
  · obtain ⟨ks, vs, rfl⟩ := hd
    exact ix_dic hu I rx ry sF ha hb e k hsub
  cases a <;> cases b <;> first | (cases e; done) | (exact absurd ⟨_, _, rfl⟩ hd) | skip
  · rename_i z i
    have h2 := hb.int; subst h2
    obtain ⟨h1, o1⟩ := ha.str
    subst h1
    have e : (match atI z i with | some c => R.ok (D.str [c]) | none => R.bad) = R.ok d := e
    cases q : atI z i with
    | none => rw [q] at e; cases e
    | some c =>
      rw [q] at e
      have e := R.ok.inj e; subst e
      refine ix_str value slice pins s σ H _ _ v u Q I rx ry ⟨mkS z, i, c, rfl, rfl, by simpa [Str.length] using o1.1, q, ?_⟩ hsub
      obtain ⟨j, _, h2, _⟩ := atI_get q
      exact k _ (.str [c] (okS1 (o1.2 _ (List.mem_of_getElem? h2))))
  · rename_i xs i
    have h2 := hb.int; subst h2
    obtain ⟨p, vs, h1, h2, h3⟩ := ha.tup
    subst h1
    have e : (match atI xs i with | some c => R.ok c | none => R.bad) = R.ok d := e
    cases q : atI xs i with
    | none => rw [q] at e; cases e
    | some c =>
      rw [q] at e
      have e := R.ok.inj e; subst e
      obtain ⟨w, hw, r⟩ := atI_reps h3 q
      exact ix_tup value slice pins s σ H _ _ v u Q I rx ry ⟨p, vs, i, w, rfl, rfl, same_t sF h2, hw, k _ r⟩ hsub
  · rename_i xs i
    have h2 := hb.int; subst h2
    obtain ⟨p, vs, h1, h2, h3⟩ := ha.lst sF
    subst h1
    have e : (match atI xs i with | some c => R.ok c | none => R.bad) = R.ok d := e
    cases q : atI xs i with
    | none => rw [q] at e; cases e
    | some c =>
      rw [q] at e
      have e := R.ok.inj e; subst e
      obtain ⟨w, hw, r⟩ := atI_reps h3 q
      exact ix_list value slice pins s σ H _ _ v u Q I rx ry ⟨p, vs, i, w, rfl, rfl, .inl h2, hw, k _ r⟩ hsub
  · rename_i ns i
    have h2 := hb.int; subst h2
    obtain ⟨p, h1, h3⟩ := ha.scr
    subst h1
    have e : (match atI ns i with | some c => R.ok (D.int c) | none => R.bad) = R.ok d := e
    cases q : atI ns i with
    | none => rw [q] at e; cases e
    | some c =>
      rw [q] at e
      have e := R.ok.inj e; subst e
      exact ix_list value slice pins s σ H _ _ v u Q I rx ry ⟨p, ns.map V.int, i, .int c, rfl, rfl, same_l sF h3, by
        unfold atI at q ⊢
        rw [List.length_map]
        cases z : ixN ns.length i with
        | none => rw [z] at q; cases q
        | some j =>
          rw [z] at q
          have q : ns[j]? = some c := q
          show (ns.map V.int)[j]? = some (.int c)
          rw [List.getElem?_map, q]; rfl, k _ (.int c)⟩ hsub
theorem cut_reps {K : KW} {F : Hp} {vs : List V} {ds : List D} {lo hi : Option Int} (h : Reps K F vs ds) : Reps K F (cutV vs lo hi) (cut ds lo hi) := by
  unfold cutV cut
  rw [h.length]
  exact (h.drop _).take _
theorem okS.cut {z : List Nat} {lo hi : Option Int} (h : okS z) : okS (cut z lo hi) := by
  unfold PV.cut
  refine ⟨?_, fun c hc => h.2 c (List.mem_of_mem_drop (List.mem_of_mem_take hc))⟩
  rw [List.length_take, List.length_drop]
  have := h.1
  omega
/-- a slice -/
def rCut (K : KW) : V → Option Int → Option Int → Hp → VK → Prop := fun x lo hi H Q => ∃ (F : Hp) (a d : D), Same F H ∧ Sh K F H x a ∧ cutD a lo hi = .ok d ∧ ∀ v H', NewVal K F H v d H' → (∀ ds, d = .lst ds → ∀ p, v = .ref p → H p = none) → Q v H'
theorem sl_D : SlR X (rCut (kwOf X)) := by
  intro pins s σ H x v vl vu lo hi sl Q I rx hs pl pu h
  obtain ⟨F, a, d, sF, ha, e, k⟩ := h
  cases a <;> first | (cases e; done) | skip
  · have e := R.ok.inj e; subst e
    obtain ⟨h1, o1⟩ := ha.str
    subst h1
    refine sl_str pins s σ H _ v vl vu lo hi sl Q I rx hs pl pu ⟨_, rfl, by simpa [Str.length] using o1.1, ?_⟩
    have ec : cutS (mkS ‹List Nat›) lo hi = mkS (cut ‹List Nat› lo hi) := by
      unfold cutS cut mkS Str.length
      simp
    rw [ec]
    exact k _ _ (.old (.str _ o1.cut)) (fun _ z => nomatch z)
  · have e := R.ok.inj e; subst e
    obtain ⟨p, vs, h1, h2, h3⟩ := ha.tup
    subst h1
    refine sl_tupA pins s σ H _ v vl vu lo hi sl Q I rx hs pl pu ⟨p, vs, rfl, same_t sF h2, fun z => ?_, fun z r hr => k _ _ (.tup hr (cut_reps h3)) (fun _ z => nomatch z)⟩
    have ec : cut ‹List D› lo hi = ‹List D› := by
      unfold cut
      rw [← h3.length, z.1, z.2, List.drop_zero, Nat.sub_zero, h3.length, List.take_length]
    rw [ec] at k
    exact k _ _ (.old (.tup h2 h3)) (fun _ z => nomatch z)
  · have e := R.ok.inj e; subst e
    obtain ⟨p, vs, h1, h2, h3⟩ := ha.lst sF
    subst h1
    exact sl_list pins s σ H _ v vl vu lo hi sl Q I rx hs pl pu ⟨p, vs, rfl, .inl h2, fun r hr => k _ _ (.lst hr (cut_reps h3)) (fun _ _ q e => by cases e; exact hr)⟩
  · have e := R.ok.inj e; subst e
    obtain ⟨p, h1, h3⟩ := ha.scr
    subst h1
    refine sl_list pins s σ H _ v vl vu lo hi sl Q I rx hs pl pu ⟨p, _, rfl, same_l sF h3, fun r hr => k _ _ (.lst hr ?_) (fun _ _ q e => by cases e; exact hr)⟩
    have z := cut_reps (lo := lo) (hi := hi) (reps_ints (K := kwOf X) (F := F) ‹List Int›)
    rw [cut_map] at z
    exact z
end

/-! ### built-ins -/
theorem blsOf_ok : ∀ {ds : List D} {bs : List Bool}, blsOf ds = some bs → ds = bs.map D.bl
  | [], bs, h => by cases h; rfl
  | .bl b :: r, bs, h => by
    have h : (blsOf r).map (b :: ·) = some bs := h
    cases q : blsOf r with
    | none => rw [q] at h; cases h
    | some cs => rw [q] at h; cases h; rw [blsOf_ok q]; rfl
theorem strsOf_ok : ∀ {ds : List D} {ss : List (List Nat)}, strsOf ds = some ss → ds = ss.map D.str
  | [], bs, h => by cases h; rfl
  | .str b :: r, bs, h => by
    have h : (strsOf r).map (b :: ·) = some bs := h
    cases q : strsOf r with
    | none => rw [q] at h; cases h
    | some cs => rw [q] at h; cases h; rw [strsOf_ok q]; rfl
theorem Reps.bls {K : KW} {F : Hp} : ∀ {vs : List V} {bs : List Bool}, Reps K F vs (bs.map D.bl) → vs = bs.map V.bl
  | _, [], h => by cases h; rfl
  | _, b :: bs, h => by
    cases h with
    | cons h1 h2 => rw [h1.bl_inv, Reps.bls h2]; rfl
theorem Reps.strs {K : KW} {F : Hp} : ∀ {vs : List V} {ss : List (List Nat)}, Reps K F vs (ss.map D.str) → vs = (ss.map mkS).map V.str ∧ ∀ s ∈ ss, okS s
  | _, [], h => by cases h; exact ⟨rfl, fun _ z => nomatch z⟩
  | _, s :: ss, h => by
    cases h with
    | cons h1 h2 =>
      obtain ⟨e1, o1⟩ := h1.str_inv
      obtain ⟨e2, o2⟩ := Reps.strs h2
      refine ⟨by rw [e1, e2]; rfl, fun z hz => ?_⟩
      rcases List.mem_cons.mp hz with rfl | hz
      · exact o1
      · exact o2 z hz
/-- a class as isinstance has it -/
def Ty.name : Ty → String
  | .int => "int" | .bool => "bool" | .str => "str" | .list => "list" | .tuple => "tuple" | .dict => "dict"
def tyName : D → String
  | .non => "NoneType" | .bl _ => "bool" | .int _ => "int" | .str _ => "str" | .tup _ => "tuple" | .lst _ => "list" | .dic _ _ => "dict" | .scr _ => "list" | _ => ""
theorem kit_ii : kitB "NoneType" "int" = some false ∧ kitB "bool" "int" = some true ∧ kitB "int" "int" = some true ∧ kitB "str" "int" = some false ∧ kitB "tuple" "int" = some false ∧ kitB "list" "int" = some false := by decide +kernel
theorem kit_bb : kitB "NoneType" "bool" = some false ∧ kitB "bool" "bool" = some true ∧ kitB "int" "bool" = some false ∧ kitB "str" "bool" = some false ∧ kitB "tuple" "bool" = some false ∧ kitB "list" "bool" = some false := by decide +kernel
theorem kit_ss : kitB "NoneType" "str" = some false ∧ kitB "bool" "str" = some false ∧ kitB "int" "str" = some false ∧ kitB "str" "str" = some true ∧ kitB "tuple" "str" = some false ∧ kitB "list" "str" = some false := by decide +kernel
theorem kit_ll : kitB "NoneType" "list" = some false ∧ kitB "bool" "list" = some false ∧ kitB "int" "list" = some false ∧ kitB "str" "list" = some false ∧ kitB "tuple" "list" = some false ∧ kitB "list" "list" = some true := by decide +kernel
theorem kit_tt : kitB "NoneType" "tuple" = some false ∧ kitB "bool" "tuple" = some false ∧ kitB "int" "tuple" = some false ∧ kitB "str" "tuple" = some false ∧ kitB "tuple" "tuple" = some true ∧ kitB "list" "tuple" = some false := by decide +kernel
theorem kit_dd : kitB "NoneType" "dict" = some false ∧ kitB "bool" "dict" = some false ∧ kitB "int" "dict" = some false ∧ kitB "str" "dict" = some false ∧ kitB "tuple" "dict" = some false ∧ kitB "list" "dict" = some false := by decide +kernel
theorem kit_all (t : Ty) (d : D) (hs : isScr d = false) : kitB (tyName d) t.name = some (isTy t d) := by
  obtain ⟨a1, a2, a3, a4, a5, a6⟩ := kit_ii
  obtain ⟨b1, b2, b3, b4, b5, b6⟩ := kit_bb
  obtain ⟨c1, c2, c3, c4, c5, c6⟩ := kit_ss
  obtain ⟨d1, d2, d3, d4, d5, d6⟩ := kit_ll
  obtain ⟨e1, e2, e3, e4, e5, e6⟩ := kit_tt
  obtain ⟨f1, f2, f3, f4, f5, f6⟩ := kit_dd
  cases d <;> first | (cases hs; done) | (cases t <;> assumption)
section
variable {X : Cx}
/-- arguments whose items are at rest, and what comes of them -/
def rArgs (K : KW) (f : List D → R D) : List V → Hp → VK → Prop := fun vs H Q => ∃ (F : Hp) (ds : List D) (d : D), Same F H ∧ Paired (fun v d => Sh K F H v d) vs ds ∧ f ds = .ok d ∧ ∀ v H', NewVal K F H v d H' → (∀ ds, d = .lst ds → ∀ p, v = .ref p → H p = none) → Q v H'
theorem paired1 {α β : Type} {G : α → β → Prop} {l : List α} {b : β} (h : Paired G l [b]) : ∃ a, l = [a] ∧ G a b := by
  cases h with
  | cons r t => cases t; exact ⟨_, rfl, r⟩
theorem paired2 {α β : Type} {G : α → β → Prop} {l : List α} {b c : β} (h : Paired G l [b, c]) : ∃ a a', l = [a, a'] ∧ G a b ∧ G a' c := by
  cases h with
  | cons r t =>
    cases t with
    | cons r' t => cases t; exact ⟨_, _, rfl, r, r'⟩
theorem sc_list {K : KW} {F H : Hp} {v : V} {ds : List D} (sF : Same F H) (h : Sh K F H v (.lst ds)) : ∃ p vs, v = .ref p ∧ SqL K H p vs ∧ Reps K F vs ds := by
  obtain ⟨p, vs, e, h1, h2⟩ := h.lst sF
  exact ⟨p, vs, e, .inl h1, h2⟩
theorem tyx {K : KW} {F H : Hp} {v : V} {d : D} (sF : Same F H) (h : Sh K F H v d) (hs : isScr d = false) : TyX K H v (.type (tyName d)) := by
  cases d with
  | non => have e := h.non; subst e; exact .base .non
  | bl b => have e := h.bl; subst e; exact .base (.bl b)
  | int i => have e := h.int; subst e; exact .base (.int i)
  | str s => obtain ⟨e, _⟩ := h.str; subst e; exact .base (.str _)
  | lst ds =>
    obtain ⟨p, vs, e, h1, h2⟩ := h.lst sF
    subst e
    rcases h1 with h1 | ⟨o, h1⟩
    · exact .base (.lst h1)
    · exact .base (.frz h1)
  | tup ds =>
    obtain ⟨p, vs, e, h1, h2⟩ := h.tup
    subst e
    rcases same_t sF h1 with (h1 | ⟨o, h1⟩) | ⟨o, its, n, hk, hc, _⟩
    · exact .base (.tup h1)
    · exact .fTuple h1
    · exact .kTuple hk hc
  | _ => cases hs
theorem bn_len : CallR X (.builtin "len") (rArgs (kwOf X) (bnD .len)) := by
  intro pins s σ H vs us Q I r h
  obtain ⟨F, ds, d, sF, hp, e, k⟩ := h
  match ds, e, hp with
  | [a], e, hp =>
    obtain ⟨v, rfl, ha⟩ := paired1 hp
    cases a <;> first | (cases e; done) | skip
    · have e := R.ok.inj e; subst e
      obtain ⟨h1, o1⟩ := ha.str
      subst h1
      exact call_len pins s σ H _ us Q I r ⟨_, _, rfl, ⟨by simpa [Str.length] using o1.1, by simp [Str.length]⟩, k _ _ (.old (.int _)) (fun _ z => nomatch z)⟩
    · have e := R.ok.inj e; subst e
      obtain ⟨p, vs, h1, h2, h3⟩ := ha.tup
      subst h1
      exact call_len pins s σ H _ us Q I r ⟨_, _, rfl, .inr ⟨vs, same_t sF h2, h3.length.symm⟩, k _ _ (.old (.int _)) (fun _ z => nomatch z)⟩
    · have e := R.ok.inj e; subst e
      obtain ⟨p, vs, h1, h2, h3⟩ := ha.lst sF
      subst h1
      exact call_len pins s σ H _ us Q I r ⟨_, _, rfl, .inl ⟨vs, .inl h2, h3.length.symm⟩, k _ _ (.old (.int _)) (fun _ z => nomatch z)⟩
    · rename_i ks vs
      obtain ⟨ok, e⟩ := R.need_eq e
      have e := R.ok.inj e; subst e
      obtain ⟨p, ob, us, ws, rfl, h1, h2, h3⟩ := ha.dic sF
      cases r with
      | cons r1 r2 =>
        cases r2
        have r1 : _ = Value.ref p := r1
        subst r1
        exact dd_len I h1 h2 sF ok fun t s' I' => ⟨.int ks.length, H, I', ⟨t, rfl⟩, k _ _ (.old (.int _)) (fun _ z => nomatch z)⟩
    · have e := R.ok.inj e; subst e
      obtain ⟨p, h1, h3⟩ := ha.scr
      subst h1
      exact call_len pins s σ H _ us Q I r ⟨_, _, rfl, .inl ⟨_, same_l sF h3, (List.length_map _).symm⟩, k _ _ (.old (.int _)) (fun _ z => nomatch z)⟩
theorem bn_tuple : CallR X (.type "tuple") (rArgs (kwOf X) (bnD .tuple)) := by
  intro pins s σ H vs us Q I r h
  obtain ⟨F, ds, d, sF, hp, e, k⟩ := h
  match ds, e, hp with
  | [.lst xs], e, hp =>
    obtain ⟨v, rfl, ha⟩ := paired1 hp
    have e := R.ok.inj e; subst e
    obtain ⟨p, vs, h1, h2, h3⟩ := ha.lst sF
    subst h1
    exact call_tuple_of pins s σ H _ us Q I r ⟨p, vs, rfl, .inl ⟨.inl h2, fun l hl => k _ _ (.tup hl h3) (fun _ z => nomatch z)⟩⟩
  | [.tup xs], e, hp =>
    obtain ⟨v, rfl, ha⟩ := paired1 hp
    have e := R.ok.inj e; subst e
    obtain ⟨p, vs, h1, h2, h3⟩ := ha.tup
    subst h1
    exact call_tuple_of pins s σ H _ us Q I r ⟨p, vs, rfl, .inr ⟨same_t sF h2, k _ _ (.old (.tup h2 h3)) (fun _ z => nomatch z)⟩⟩
theorem bn_list : CallR X (.type "list") (rArgs (kwOf X) (bnD .list)) := by
  intro pins s σ H vs us Q I r h
  obtain ⟨F, ds, d, sF, hp, e, k⟩ := h
  match ds, e, hp with
  | [.lst xs], e, hp =>
    obtain ⟨v, rfl, ha⟩ := paired1 hp
    have e := R.ok.inj e; subst e
    obtain ⟨p, vs, h1, h2, h3⟩ := ha.lst sF
    subst h1
    exact call_list_of pins s σ H _ us Q I r ⟨p, vs, rfl, .inl (.inl h2), fun l hl => k _ _ (.lst hl h3) (fun _ _ q e => by cases e; exact hl)⟩
  | [.tup xs], e, hp =>
    obtain ⟨v, rfl, ha⟩ := paired1 hp
    have e := R.ok.inj e; subst e
    obtain ⟨p, vs, h1, h2, h3⟩ := ha.tup
    subst h1
    exact call_list_of pins s σ H _ us Q I r ⟨p, vs, rfl, .inr (same_t sF h2), fun l hl => k _ _ (.lst hl h3) (fun _ _ q e => by cases e; exact hl)⟩
theorem bn_all (hc : X.calm = true) : CallR X (.builtin "all") (rArgs (kwOf X) (bnD .all)) := by
  intro pins s σ H vs us Q I r h
  obtain ⟨F, ds, d, sF, hp, e, k⟩ := h
  match ds, e, hp with
  | [.lst xs], e, hp =>
    obtain ⟨v, rfl, ha⟩ := paired1 hp
    have e : (match blsOf xs with | some bs => R.ok (D.bl (bs.all id)) | none => R.bad) = R.ok d := e
    cases q : blsOf xs with
    | none => rw [q] at e; cases e
    | some bs =>
      rw [q] at e
      have e := R.ok.inj e; subst e
      obtain ⟨p, vs, h1, h2, h3⟩ := sc_list sF ha
      subst h1
      rw [blsOf_ok q] at h3
      have e2 := h3.bls
      subst e2
      exact cr_all hc pins s σ H _ us Q I r ⟨p, bs, rfl, h2, k _ _ (.old (.bl _)) (fun _ z => nomatch z)⟩
theorem bn_any (hc : X.calm = true) : CallR X (.builtin "any") (rArgs (kwOf X) (bnD .any)) := by
  intro pins s σ H vs us Q I r h
  obtain ⟨F, ds, d, sF, hp, e, k⟩ := h
  match ds, e, hp with
  | [.lst xs], e, hp =>
    obtain ⟨v, rfl, ha⟩ := paired1 hp
    have e : (match blsOf xs with | some bs => R.ok (D.bl (bs.any id)) | none => R.bad) = R.ok d := e
    cases q : blsOf xs with
    | none => rw [q] at e; cases e
    | some bs =>
      rw [q] at e
      have e := R.ok.inj e; subst e
      obtain ⟨p, vs, h1, h2, h3⟩ := sc_list sF ha
      subst h1
      rw [blsOf_ok q] at h3
      have e2 := h3.bls
      subst e2
      exact cr_any hc pins s σ H _ us Q I r ⟨p, bs, rfl, h2, k _ _ (.old (.bl _)) (fun _ z => nomatch z)⟩
theorem digits_ok (n : Nat) (h : n < 1000000000000000000) : okS (digits n) ∧ (Str.ofString (toString ((n : Nat) : Int))) = mkS (digits n) := by
  refine ⟨⟨?_, fun c hc => ?_⟩, TL.ext_tl ?_⟩
  · exact Nat.le_trans (TL.numL_len (k := 18) (by decide) (by simpa using h)) (by decide)
  · by_cases z : c < 0x110000
    · exact z
    · exact absurd hc (TL.numL_free (.inr (by omega)))
  · rw [TL.tl_num]
    simp [TL.tl, mkS, digits]
theorem bn_str : CallR X (.type "str") (rArgs (kwOf X) (bnD .str)) := by
  intro pins s σ H vs us Q I r h
  obtain ⟨F, ds, d, sF, hp, e, k⟩ := h
  match ds, e, hp with
  | [.int i], e, hp =>
    obtain ⟨v, rfl, ha⟩ := paired1 hp
    obtain ⟨hi, e⟩ := R.need_eq e
    have e := R.ok.inj e; subst e
    have h1 := ha.int; subst h1
    obtain ⟨o, e⟩ := digits_ok i.toNat (by omega)
    have ei : ((i.toNat : Nat) : Int) = i := by omega
    rw [ei] at e
    refine call_str_int pins s σ H _ us Q I r ⟨i, rfl, ?_, ?_⟩
    · by_cases z : i.natAbs = 0
      · rw [z]; decide
      · exact Nat.lt_trans ((Nat.log2_lt z).mpr (show i.natAbs < 2 ^ 64 by omega)) (by decide)
    · show Q (.str (Str.ofString (toString i))) H
      rw [e]
      exact k _ _ (.old (.str _ o)) (fun _ z => nomatch z)
theorem bn_int : CallR X (.type "int") (rArgs (kwOf X) (bnD .int)) := by
  intro pins s σ H vs us Q I r h
  obtain ⟨F, ds, d, sF, hp, e, k⟩ := h
  match ds, e, hp with
  | [.int i], e, hp =>
    obtain ⟨v, rfl, ha⟩ := paired1 hp
    have e := R.ok.inj e; subst e
    have h1 := ha.int; subst h1
    exact call_int1 pins s σ H _ us Q I r (.inl ⟨i, rfl, k _ _ (.old (.int _)) (fun _ z => nomatch z)⟩)
  | [.bl i], e, hp =>
    obtain ⟨v, rfl, ha⟩ := paired1 hp
    have e := R.ok.inj e; subst e
    have h1 := ha.bl; subst h1
    exact call_int1 pins s σ H _ us Q I r (.inr ⟨i, rfl, k _ _ (.old (.int _)) (fun _ z => nomatch z)⟩)
theorem intsOf_ok : ∀ {ds : List D} {ns : List Int}, intsOf ds = some ns → ds = ns.map D.int
  | [], ns, h => by cases h; rfl
  | .int b :: r, ns, h => by
    have h : (intsOf r).map (b :: ·) = some ns := h
    cases q : intsOf r with
    | none => rw [q] at h; cases h
    | some cs => rw [q] at h; cases h; rw [intsOf_ok q]; rfl
theorem reps_intsV {K : KW} {F : Hp} : ∀ {ns : List Int} {vs : List V}, Reps K F vs (ns.map D.int) → vs = ns.map V.int
  | [], vs, h => by cases h; rfl
  | n :: ns, vs, h => by
    cases h with
    | cons h1 h2 => rw [h1.int_inv, reps_intsV h2]; rfl
theorem foldl_max : ∀ (ns : List Int) (n : Int), ns.foldl max n ∈ n :: ns ∧ ∀ y ∈ n :: ns, y ≤ ns.foldl max n
  | [], n => by simp
  | m :: ns, n => by
    obtain ⟨h1, h2⟩ := foldl_max ns (max n m)
    rw [List.foldl_cons]
    refine ⟨?_, fun y hy => ?_⟩
    · rcases List.mem_cons.mp h1 with h | h
      · rw [h]
        rcases Int.le_total n m with z | z
        · rw [Int.max_eq_right z]; simp
        · rw [Int.max_eq_left z]; simp
      · exact List.mem_cons_of_mem _ (List.mem_cons_of_mem _ h)
    · have h3 := h2 (max n m) List.mem_cons_self
      rcases List.mem_cons.mp hy with rfl | hy
      · omega
      · rcases List.mem_cons.mp hy with rfl | hy
        · omega
        · exact h2 y (List.mem_cons_of_mem _ hy)
theorem foldl_min : ∀ (ns : List Int) (n : Int), ns.foldl min n ∈ n :: ns ∧ ∀ y ∈ n :: ns, ns.foldl min n ≤ y
  | [], n => by simp
  | m :: ns, n => by
    obtain ⟨h1, h2⟩ := foldl_min ns (min n m)
    rw [List.foldl_cons]
    refine ⟨?_, fun y hy => ?_⟩
    · rcases List.mem_cons.mp h1 with h | h
      · rw [h]
        rcases Int.le_total n m with z | z
        · rw [Int.min_eq_left z]; simp
        · rw [Int.min_eq_right z]; simp
      · exact List.mem_cons_of_mem _ (List.mem_cons_of_mem _ h)
    · have h3 := h2 (min n m) List.mem_cons_self
      rcases List.mem_cons.mp hy with rfl | hy
      · omega
      · rcases List.mem_cons.mp hy with rfl | hy
        · omega
        · exact h2 y (List.mem_cons_of_mem _ hy)
theorem bn_min (hc : X.calm = true) : CallR X (.builtin "min") (rArgs (kwOf X) (bnD .min)) := by
  intro pins s σ H vs us Q I r h
  obtain ⟨F, ds, d, sF, hp, e, k⟩ := h
  match ds, e, hp with
  | [.int i, .int j], e, hp =>
    obtain ⟨v, w, rfl, ha, hb⟩ := paired2 hp
    have e := R.ok.inj e; subst e
    have h1 := ha.int; subst h1
    have h2 := hb.int; subst h2
    exact call_min2 hc pins s σ H _ us Q I r ⟨i, j, rfl, k _ _ (.old (.int _)) (fun _ z => nomatch z)⟩
  | [.lst xs], e, hp =>
    obtain ⟨v, rfl, ha⟩ := paired1 hp
    have e : (match intsOf xs with | some (n :: ns) => R.ok (D.int (ns.foldl min n)) | _ => R.bad) = R.ok d := e
    cases q : intsOf xs with
    | none => rw [q] at e; cases e
    | some l =>
      rw [q] at e
      cases l with
      | nil => cases e
      | cons n ns =>
        have e := R.ok.inj e; subst e
        have hx := intsOf_ok q
        subst hx
        obtain ⟨p, vs, rfl, h2, h3⟩ := ha.lst sF
        have hv := reps_intsV (ns := n :: ns) h3
        subst hv
        refine cr_min hc pins s σ H _ us Q I r ⟨p, n :: ns, rfl, .inl h2, Nat.succ_pos _, fun m hm hle => ?_⟩
        obtain ⟨z1, z2⟩ := foldl_min ns n
        have em : m = ns.foldl min n := Int.le_antisymm (hle _ z1) (z2 m hm)
        subst em
        exact k _ _ (.old (.int _)) (fun _ z => nomatch z)
theorem bn_max (hc : X.calm = true) : CallR X (.builtin "max") (rArgs (kwOf X) (bnD .max)) := by
  intro pins s σ H vs us Q I r h
  obtain ⟨F, ds, d, sF, hp, e, k⟩ := h
  match ds, e, hp with
  | [.int i, .int j], e, hp =>
    obtain ⟨v, w, rfl, ha, hb⟩ := paired2 hp
    have e := R.ok.inj e; subst e
    have h1 := ha.int; subst h1
    have h2 := hb.int; subst h2
    exact call_max2 hc pins s σ H _ us Q I r ⟨i, j, rfl, k _ _ (.old (.int _)) (fun _ z => nomatch z)⟩
  | [.lst xs], e, hp =>
    obtain ⟨v, rfl, ha⟩ := paired1 hp
    have e : (match intsOf xs with | some (n :: ns) => R.ok (D.int (ns.foldl max n)) | _ => R.bad) = R.ok d := e
    cases q : intsOf xs with
    | none => rw [q] at e; cases e
    | some l =>
      rw [q] at e
      cases l with
      | nil => cases e
      | cons n ns =>
        have e := R.ok.inj e; subst e
        have hx := intsOf_ok q
        subst hx
        obtain ⟨p, vs, rfl, h2, h3⟩ := ha.lst sF
        have hv := reps_intsV (ns := n :: ns) h3
        subst hv
        refine cr_max hc pins s σ H _ us Q I r ⟨p, n :: ns, rfl, .inl h2, Nat.succ_pos _, fun m hm hle => ?_⟩
        obtain ⟨z1, z2⟩ := foldl_max ns n
        have em : m = ns.foldl max n := Int.le_antisymm (z2 m hm) (hle _ z1)
        subst em
        exact k _ _ (.old (.int _)) (fun _ z => nomatch z)
theorem bn_abs : CallR X (.builtin "abs") (rArgs (kwOf X) (bnD .abs)) := by
  intro pins s σ H vs us Q I r h
  obtain ⟨F, ds, d, sF, hp, e, k⟩ := h
  match ds, e, hp with
  | [.int i], e, hp =>
    obtain ⟨v, rfl, ha⟩ := paired1 hp
    have e := R.ok.inj e; subst e
    have h1 := ha.int; subst h1
    exact call_abs pins s σ H _ us Q I r ⟨i, rfl, k _ _ (.old (.int _)) (fun _ z => nomatch z)⟩
/-- isinstance(x, T): the class is the second argument -/
theorem bn_isI (t : Ty) : CallR X (.builtin "isinstance") (fun vs H Q => ∃ v, vs = [v, .ty t.name] ∧ rArgs (kwOf X) (bnD (.isI t)) [v] H Q) := by
  intro pins s σ H vs us Q I r h
  obtain ⟨v, rfl, F, ds, d, sF, hp, e, k⟩ := h
  match ds, e, hp with
  | [a], e, hp =>
    obtain ⟨w, e1, ha⟩ := paired1 hp
    cases e1
    obtain ⟨hns, e⟩ := R.need_eq e
    have e := R.ok.inj e; subst e
    refine call_isi pins s σ H _ us Q I r ⟨v, _, _, _, isTy t a, rfl, .ty _, tyx sF ha hns, ?_, k _ _ (.old (.bl _)) (fun _ z => nomatch z)⟩
    exact kit_ty (kit_all t a hns)

/-! ### methods -/
def rMeth (K : KW) (f : D → List D → R D) : V → List V → Hp → VK → Prop := fun x vs H Q => ∃ (F : Hp) (a : D) (ds : List D) (d : D), Same F H ∧ Sh K F H x a ∧ Paired (fun v d => Sh K F H v d) vs ds ∧ f a ds = .ok d ∧ ∀ v H', NewVal K F H v d H' → (∀ ds, d = .lst ds → ∀ p, v = .ref p → H p = none) → Q v H'
theorem join_len (sep : List Nat) : ∀ ys : List (List Nat), (joinS sep ys).length ≤ (ys.map List.length).sum + ys.length * sep.length
  | [] => by simp [joinS]
  | [s] => by simp [joinS]
  | s :: t :: r => by
    have h := join_len sep (t :: r)
    simp only [joinS, List.length_append, List.map_cons, List.sum_cons, List.length_cons] at h ⊢
    rw [Nat.add_mul] at h ⊢
    rw [Nat.add_mul]
    omega
theorem join_ok {sep : List Nat} (hs : okS sep) : ∀ {ys : List (List Nat)}, (∀ y ∈ ys, okS y) → ∀ c ∈ joinS sep ys, c < 0x110000
  | [], _, c, hc => by cases hc
  | [s], h, c, hc => (h s (by simp)).2 c hc
  | s :: t :: r, h, c, hc => by
    have hc : c ∈ s ++ (sep ++ joinS sep (t :: r)) := hc
    rcases List.mem_append.mp hc with hc | hc
    · exact (h s (by simp)).2 c hc
    · rcases List.mem_append.mp hc with hc | hc
      · exact hs.2 c hc
      · exact join_ok hs (fun y hy => h y (List.mem_cons_of_mem _ hy)) c hc
theorem join_mk (sep : List Nat) : ∀ ys : List (List Nat), Str.join (mkS sep) (ys.map mkS) = mkS (joinS sep ys)
  | [] => rfl
  | [s] => rfl
  | s :: t :: r => by
    show mkS s ++ mkS sep ++ Str.join (mkS sep) ((t :: r).map mkS) = mkS (s ++ (sep ++ joinS sep (t :: r)))
    rw [join_mk sep (t :: r), mkS_append, mkS_append, List.append_assoc]
theorem mt_joinD : MtR X "str.join" (rMeth (kwOf X) (mtD .join)) := by
  intro pins s σ H x xs v us Q I rx rs h
  obtain ⟨F, a, ds, d, sF, ha, hp, e, k⟩ := h
  match a, ds, e, hp, ha with
  | .str sep, [.lst ys], e, hp, ha =>
    obtain ⟨w, rfl, hb⟩ := paired1 hp
    have e : (match strsOf ys with | some zs => R.need ((zs.map List.length).sum + zs.length * sep.length ≤ 16777216) (R.ok (D.str (joinS sep zs))) | none => R.bad) = R.ok d := e
    cases q : strsOf ys with
    | none => rw [q] at e; cases e
    | some zs =>
      rw [q] at e
      obtain ⟨hz, e⟩ := R.need_eq e
      have e := R.ok.inj e; subst e
      obtain ⟨p, vs, h1, h2, h3⟩ := sc_list sF hb
      subst h1
      rw [strsOf_ok q] at h3
      obtain ⟨e2, o2⟩ := h3.strs
      subst e2
      obtain ⟨e3, o3⟩ := ha.str
      subst e3
      have el : ((zs.map mkS).map (·.length)) = zs.map List.length := by
        rw [List.map_map]
        exact List.map_congr_left fun z _ => by simp [Str.length, mkS]
      refine mt_join pins s σ H _ _ v us Q I rx rs ⟨_, p, zs.map mkS, rfl, rfl, .inl h2, ?_, ?_⟩
      · rw [el, List.length_map]
        simpa [Str.length, mkS] using hz
      · have ej : Txt.join (mkS sep) (zs.map mkS) = mkS (joinS sep zs) := (TL.join_eq _ _).trans (join_mk sep zs)
        rw [ej]
        exact k _ _ (.old (.str _ ⟨Nat.le_trans (join_len sep zs) (Nat.le_trans hz (by decide)), join_ok o3 o2⟩)) (fun _ z => nomatch z)
theorem mk_list (z : Str) : mkS z.cps.toList = z := by
  cases z; simp [mkS]
theorem mt_findD : MtR X "str.find" (rMeth (kwOf X) (mtD .find)) := by
  intro pins s σ H x xs v us Q I rx rs h
  obtain ⟨F, a, ds, d, sF, ha, hp, e, k⟩ := h
  match a, ds, e, hp, ha with
  | .str z, [.str t], e, hp, ha =>
    obtain ⟨w, rfl, hb⟩ := paired1 hp
    have e := R.ok.inj e; subst e
    obtain ⟨e1, _⟩ := ha.str
    obtain ⟨e2, _⟩ := hb.str
    subst e1 e2
    exact mt_find pins s σ H _ _ v us Q I rx rs ⟨_, _, rfl, rfl, k _ _ (.old (.int _)) (fun _ z => nomatch z)⟩
theorem reps_strs {K : KW} {F : Hp} : ∀ {ss : List (List Nat)}, (∀ p ∈ ss, okS p) → Reps K F (ss.map fun p => V.str (mkS p)) (ss.map D.str)
  | [], _ => .nil
  | p :: r, h => .cons (.str p (h p List.mem_cons_self)) (reps_strs fun q hq => h q (List.mem_cons_of_mem _ hq))
theorem mt_splitD : MtR X "str.split" (rMeth (kwOf X) (mtD .split)) := by
  intro pins s σ H x xs v us Q I rx rs h
  obtain ⟨F, a, ds, d, sF, ha, hp, e, k⟩ := h
  match a, ds, e, hp, ha with
  | .str z, [.str t], e, hp, ha =>
    obtain ⟨w, rfl, hb⟩ := paired1 hp
    obtain ⟨hz, e⟩ := R.need_eq e
    have e := R.ok.inj e; subst e
    obtain ⟨e1, _⟩ := ha.str
    obtain ⟨e2, _⟩ := hb.str
    subst e1 e2
    refine mt_split pins s σ H _ _ v us Q I rx rs ⟨_, _, rfl, rfl, ?_, by simpa [Str.length] using hz.2.1, fun p hpn => ?_⟩
    · have : t.length ≠ 0 := fun q => hz.1 (List.length_eq_zero_iff.mp q)
      simpa [Str.length] using this
    · have el : (Txt.split (mkS z) (mkS t)).map V.str = (splitL z t).map fun p => V.str (mkS p) := by
        unfold splitL
        rw [List.map_map]
        exact List.map_congr_left fun y _ => by simp [mk_list]
      rw [el]
      exact k _ _ (.lst hpn (reps_strs hz.2.2)) (fun _ _ q e => by cases e; exact hpn)
theorem mt_upperD : MtR X "str.upper" (rMeth (kwOf X) (mtD .upper)) := by
  intro pins s σ H x xs v us Q I rx rs h
  obtain ⟨F, a, ds, d, sF, ha, hp, e, k⟩ := h
  match a, ds, e, hp, ha with
  | .str z, [], e, hp, ha =>
    cases hp
    obtain ⟨hz, e⟩ := R.need_eq e
    have e := R.ok.inj e; subst e
    obtain ⟨e1, _⟩ := ha.str
    subst e1
    refine mt_upper pins s σ H _ _ v us Q I rx rs ⟨_, rfl, rfl, by simpa [Str.length] using hz.1, ?_⟩
    have z2 := k _ _ (.old (.str _ hz.2)) (fun _ z => nomatch z)
    unfold upperL at z2
    rw [mk_list] at z2
    exact z2
theorem mt_indexD : MtR X "str.index" (rMeth (kwOf X) (mtD .index)) := by
  intro pins s σ H x xs v us Q I rx rs h
  obtain ⟨F, a, ds, d, sF, ha, hp, e, k⟩ := h
  match a, ds, e, hp, ha with
  | .str z, [.str t], e, hp, ha =>
    obtain ⟨w, rfl, hb⟩ := paired1 hp
    have e : (match Builtin.Str.occurrences (mkS z) (mkS t) 0 (mkS z).length 1 with | i :: _ => R.ok (D.int (i : Nat)) | [] => R.bad) = R.ok d := e
    obtain ⟨e1, _⟩ := ha.str
    obtain ⟨e2, _⟩ := hb.str
    subst e1 e2
    cases q : Builtin.Str.occurrences (mkS z) (mkS t) 0 (mkS z).length 1 with
    | nil => rw [q] at e; cases e
    | cons i rest =>
      rw [q] at e
      have e := R.ok.inj e; subst e
      exact mt_sindex pins s σ H _ _ v us Q I rx rs ⟨_, _, i, rest, rfl, rfl, q, k _ _ (.old (.int _)) (fun _ z => nomatch z)⟩
theorem mkS_inj {a b : List Nat} (h : mkS a = mkS b) : a = b := by
  have z := congrArg (fun s : Str => s.cps.toList) h
  simpa using z
theorem mt_tindexD : MtR X "tuple.index" (rMeth (kwOf X) (mtD .tindex)) := by
  intro pins s σ H x xs v us Q I rx rs h
  obtain ⟨F, a, ds, d, sF, ha, hp, e, k⟩ := h
  match a, ds, e, hp, ha with
  | .tup zs, [.str t], e, hp, ha =>
    obtain ⟨w, rfl, hb⟩ := paired1 hp
    have e : (match strsOf zs with | some ys => (match ys.findIdx? (fun y => decide (y = t)) with | some j => R.ok (D.int (j : Nat)) | none => .bad) | none => .bad) = R.ok d := e
    obtain ⟨e2, _⟩ := hb.str
    subst e2
    cases q : strsOf zs with
    | none => rw [q] at e; cases e
    | some ys =>
      rw [q] at e
      simp only at e
      cases q2 : ys.findIdx? (fun y => decide (y = t)) with
      | none => rw [q2] at e; cases e
      | some j =>
        rw [q2] at e
        have e := R.ok.inj e; subst e
        obtain ⟨p, vs, h1, h2, h3⟩ := ha.tup
        subst h1
        rw [strsOf_ok q] at h3
        obtain ⟨e3, _⟩ := h3.strs
        subst e3
        obtain ⟨hj, pj, mj⟩ := List.findIdx?_eq_some_iff_getElem.mp q2
        refine mt_tup_index pins s σ H _ _ v us Q I rx rs ⟨p, ys.map mkS, mkS t, j, rfl, rfl, same_t sF h2, ?_, fun m hm => ?_, k _ _ (.old (.int _)) (fun _ z => nomatch z)⟩
        · rw [List.getElem?_map, List.getElem?_eq_getElem hj]
          have pj := of_decide_eq_true pj
          rw [← pj]
          rfl
        · have hml : m < ys.length := Nat.lt_trans hm hj
          have z := mj m hm
          rw [List.getElem?_map, List.getElem?_eq_getElem hml]
          intro e
          have e := mkS_inj (Option.some.inj e)
          exact z (decide_eq_true e)
end
end PV
/-! PVS: the order of data; sorted(x) and sorted(set(x)). -/
namespace PV
open PySem PySem.Spec PyProof.Rows L2 PySem.W

/-! ### the order -/
theorem lt_irr (a : D) : ltD a a = false := lex_irrefl _
theorem lt_tr {a b c : D} (h1 : ltD a b = true) (h2 : ltD b c = true) : ltD a c = true := lex_trans _ _ _ h1 h2
theorem lt_tok {a b : D} (h1 : ltD a b = false) (h2 : ltD b a = false) : tokD a = tokD b := lex_total (O := itemOrd) _ _ h1 h2
theorem lt_ne {a b : D} (h : ltD a b = true) : a ≠ b := fun e => by rw [e, lt_irr] at h; cases h
theorem lt_as {a b : D} (h : ltD a b = true) : ltD b a = false := by
  cases q : ltD b a with
  | false => rfl
  | true => have z := lt_tr h q; rw [lt_irr] at z; cases z
theorem flat_pl {d : D} (h : flatD d = true) : plD d = true := by
  cases d <;> first | rfl | cases h
mutual
theorem tok_inj : ∀ (x y : D), plD x = true → plD y = true → likD x y = true → ∀ l m, tokD x ++ l = tokD y ++ m → x = y ∧ l = m
  | .int a, y, _, h2, h3, l, m, e => by
    cases y with
    | int b =>
      have e : (Sum.inl a : Int ⊕ List Nat) :: l = Sum.inl b :: m := e
      injection e with e1 e2
      injection e1 with e1
      exact ⟨by rw [e1], e2⟩
    | _ => first | (cases h2; done) | (cases h3; done)
  | .str a, y, _, h2, h3, l, m, e => by
    cases y with
    | str b =>
      have e : (Sum.inr a : Int ⊕ List Nat) :: l = Sum.inr b :: m := e
      injection e with e1 e2
      injection e1 with e1
      exact ⟨by rw [e1], e2⟩
    | _ => first | (cases h2; done) | (cases h3; done)
  | .tup xs, y, h1, h2, h3, l, m, e => by
    cases y with
    | tup ys =>
      obtain ⟨e1, e2⟩ := toks_inj xs ys h1 h2 h3 l m e
      exact ⟨by rw [e1], e2⟩
    | _ => first | (cases h2; done) | (cases h3; done)
  | .non, _, h1, _, _, _, _, _ => by cases h1
  | .bl _, _, h1, _, _, _, _, _ => by cases h1
  | .lst _, _, h1, _, _, _, _, _ => by cases h1
  | .dic _ _, _, h1, _, _, _, _, _ => by cases h1
  | .frz _, _, h1, _, _, _, _, _ => by cases h1
  | .err _ _, _, h1, _, _, _, _, _ => by cases h1
  | .obj _ _, _, h1, _, _, _, _, _ => by cases h1
  | .scr _, _, h1, _, _, _, _, _ => by cases h1
theorem toks_inj : ∀ (xs ys : List D), plDs xs = true → plDs ys = true → alikeAll (toPys xs) (toPys ys) = true → ∀ l m, keyToksAll (toPys xs) ++ l = keyToksAll (toPys ys) ++ m → xs = ys ∧ l = m
  | [], ys, _, _, _, l, m, e => by
    cases ys with
    | nil =>
      simp only [toPys, keyToksAll, List.cons_append, List.nil_append, List.cons.injEq] at e
      exact ⟨rfl, e.2⟩
    | cons y ys =>
      simp only [toPys, keyToksAll, List.cons_append, List.nil_append, List.cons.injEq] at e
      have := e.1
      cases this
  | x :: xs, ys, h1, h2, h3, l, m, e => by
    cases ys with
    | nil =>
      simp only [toPys, keyToksAll, List.cons_append, List.nil_append, List.cons.injEq] at e
      have := e.1
      cases this
    | cons y ys =>
      simp only [plDs, Bool.and_eq_true] at h1 h2
      simp only [toPys] at h3 e
      obtain ⟨l1, l2⟩ := alike_all_cons h3
      simp only [keyToksAll, List.cons_append, List.cons.injEq, true_and, List.append_assoc] at e
      obtain ⟨e1, e2⟩ := tok_inj x y h1.1 h2.1 l1 _ _ e
      obtain ⟨e3, e4⟩ := toks_inj xs ys h1.2 h2.2 l2 _ _ e2
      exact ⟨by rw [e1, e3], e4⟩
end
theorem tok_eq {x y : D} (h1 : plD x = true) (h2 : plD y = true) (h3 : likD x y = true) (e : tokD x = tokD y) : x = y :=
  (tok_inj x y h1 h2 h3 [] [] (by rw [e])).1
mutual
theorem lik_self : ∀ x : D, plD x = true → likD x x = true
  | .int _, _ => rfl
  | .str _, _ => rfl
  | .tup xs, h => liks_self xs h
  | .non, h => by cases h
  | .bl _, h => by cases h
  | .lst _, h => by cases h
  | .dic _ _, h => by cases h
  | .frz _, h => by cases h
  | .err _ _, h => by cases h
  | .obj _ _, h => by cases h
  | .scr _, h => by cases h
theorem liks_self : ∀ xs : List D, plDs xs = true → alikeAll (toPys xs) (toPys xs) = true
  | [], _ => rfl
  | x :: xs, h => by
    simp only [plDs, Bool.and_eq_true] at h
    simp only [toPys, alikeAll, Bool.and_eq_true]
    exact ⟨lik_self x h.1, liks_self xs h.2⟩
end
theorem py_inj {x y : D} (h1 : plD x = true) (h2 : plD y = true) (e : toPy x = toPy y) : x = y :=
  tok_eq h1 h2 (by have := lik_self x h1; unfold likD at this ⊢; rw [← e]; exact this) (by unfold tokD; rw [e])

/-! ### in order, each once -/
abbrev Ord (l : List D) : Prop := l.Pairwise fun a b => ltD a b = true
abbrev Alk (l : List D) : Prop := ∀ x ∈ l, plD x = true ∧ ∀ y ∈ l, likD x y = true
theorem tri {l : List D} (k : Alk l) {x y : D} (hx : x ∈ l) (hy : y ∈ l) (h1 : ltD x y = false) (h2 : ltD y x = false) : x = y :=
  tok_eq (k x hx).1 (k y hy).1 ((k x hx).2 y hy) (lt_tok h1 h2)
theorem ins_mem {x : D} : ∀ {l : List D}, Alk (x :: l) → ∀ d, d ∈ insD x l ↔ d = x ∨ d ∈ l
  | [], _, d => by simp [insD]
  | y :: ys, k, d => by
    unfold insD
    split
    · simp
    · rename_i h1
      split
      · have ih := ins_mem (x := x) (l := ys) (fun z hz => ⟨(k z (by rcases List.mem_cons.mp hz with h | h; exact h ▸ List.mem_cons_self; exact List.mem_cons_of_mem _ (List.mem_cons_of_mem _ h))).1, fun u hu => (k z (by rcases List.mem_cons.mp hz with h | h; exact h ▸ List.mem_cons_self; exact List.mem_cons_of_mem _ (List.mem_cons_of_mem _ h))).2 u (by rcases List.mem_cons.mp hu with h | h; exact h ▸ List.mem_cons_self; exact List.mem_cons_of_mem _ (List.mem_cons_of_mem _ h))⟩) d
        rw [List.mem_cons, ih, List.mem_cons]
        constructor
        · rintro (h | h | h)
          · exact .inr (.inl h)
          · exact .inl h
          · exact .inr (.inr h)
        · rintro (h | h | h)
          · exact .inr (.inl h)
          · exact .inl h
          · exact .inr (.inr h)
      · rename_i h2
        have e : x = y := tri k List.mem_cons_self (List.mem_cons_of_mem _ List.mem_cons_self) (by simpa using h1) (by simpa using h2)
        subst e
        simp
theorem ins_ord {x : D} : ∀ {l : List D}, Ord l → Ord (insD x l) ∧ ∀ y, ltD y x = true → (∀ z ∈ l, ltD y z = true) → ∀ z ∈ insD x l, ltD y z = true
  | [], _ => ⟨by simp [insD, Ord], fun y h _ z hz => by simp [insD] at hz; subst hz; exact h⟩
  | a :: as, o => by
    obtain ⟨o1, o2⟩ := List.pairwise_cons.mp o
    unfold insD
    split
    · rename_i h1
      refine ⟨List.pairwise_cons.mpr ⟨fun z hz => ?_, o⟩, fun y h hl z hz => ?_⟩
      · rcases List.mem_cons.mp hz with h | h
        · rw [h]; exact h1
        · exact lt_tr h1 (o1 z h)
      · rcases List.mem_cons.mp hz with h' | h'
        · rw [h']; exact h
        · exact hl z h'
    · split
      · rename_i h2
        obtain ⟨p1, p2⟩ := ins_ord (x := x) o2
        refine ⟨List.pairwise_cons.mpr ⟨p2 a h2 o1, p1⟩, fun y h hl z hz => ?_⟩
        rcases List.mem_cons.mp hz with h' | h'
        · rw [h']; exact hl a List.mem_cons_self
        · exact p2 y h (fun z hz => hl z (List.mem_cons_of_mem _ hz)) z h'
      · exact ⟨o, fun y h hl => hl⟩
theorem Alk.tail {x : D} {l : List D} (k : Alk (x :: l)) : Alk l := fun z hz => ⟨(k z (List.mem_cons_of_mem _ hz)).1, fun u hu => (k z (List.mem_cons_of_mem _ hz)).2 u (List.mem_cons_of_mem _ hu)⟩
theorem Alk.sub {l m : List D} (k : Alk l) (h : ∀ d ∈ m, d ∈ l) : Alk m := fun z hz => ⟨(k z (h z hz)).1, fun u hu => (k z (h z hz)).2 u (h u hu)⟩
theorem sset_ord : ∀ l : List D, Ord (ssetL l)
  | [] => List.Pairwise.nil
  | x :: l => (ins_ord (sset_ord l)).1
theorem sset_mem : ∀ {l : List D}, Alk l → ∀ d, d ∈ ssetL l ↔ d ∈ l
  | [], _, d => Iff.rfl
  | x :: l, k, d => by
    have ih := sset_mem k.tail
    unfold ssetL
    rw [ins_mem (k.sub fun d h => by rcases List.mem_cons.mp h with h | h; exact h ▸ List.mem_cons_self; exact List.mem_cons_of_mem _ ((ih d).mp h)) d, ih d, List.mem_cons]
theorem ord_unique : ∀ {l m : List D}, Ord l → Ord m → (∀ d, d ∈ l ↔ d ∈ m) → l = m
  | [], [], _, _, _ => rfl
  | [], y :: ys, _, _, h => by have := (h y).mpr List.mem_cons_self; cases this
  | x :: xs, [], _, _, h => by have := (h x).mp List.mem_cons_self; cases this
  | x :: xs, y :: ys, h1, h2, h => by
    obtain ⟨a1, a2⟩ := List.pairwise_cons.mp h1
    obtain ⟨b1, b2⟩ := List.pairwise_cons.mp h2
    have e : x = y := by
      rcases List.mem_cons.mp ((h x).mp List.mem_cons_self) with q | q
      · exact q
      · rcases List.mem_cons.mp ((h y).mpr List.mem_cons_self) with q2 | q2
        · exact q2.symm
        · have z := lt_tr (b1 x q) (a1 y q2)
          rw [lt_irr] at z
          cases z
    subst e
    have t : xs = ys := ord_unique a2 b2 fun d => by
      constructor
      · intro hd
        rcases List.mem_cons.mp ((h d).mp (List.mem_cons_of_mem _ hd)) with q | q
        · have z := a1 d hd; rw [q, lt_irr] at z; cases z
        · exact q
      · intro hd
        rcases List.mem_cons.mp ((h d).mpr (List.mem_cons_of_mem _ hd)) with q | q
        · have z := b1 d hd; rw [q, lt_irr] at z; cases z
        · exact q
    rw [t]
/-- the same members, the same order -/
theorem sset_congr {l m : List D} (k : Alk l) (h : ∀ d, d ∈ l ↔ d ∈ m) : ssetL l = ssetL m := ord_unique (sset_ord l) (sset_ord m) fun d => by rw [sset_mem k, sset_mem (k.sub fun d hd => (h d).mpr hd), h d]
theorem sset_of_ord {l : List D} (k : Alk l) (o : Ord l) : ssetL l = l := ord_unique (sset_ord l) o (sset_mem k)

abbrev leD (a b : D) : Bool := !ltD b a
theorem leD_tr (a b c : D) (h1 : leD a b = true) (h2 : leD b c = true) : leD a c = true := (sortLe_total (listOrd itemOrd) false tokD).trans a b c h1 h2
theorem leD_tot (a b : D) : (leD a b || leD b a) = true := by rw [Bool.or_eq_true]; exact (sortLe_total (listOrd itemOrd) false tokD).total a b
theorem srt_perm (l : List D) : (srtL l).Perm l := List.mergeSort_perm l _
theorem srt_ord (l : List D) : (srtL l).Pairwise fun a b => leD a b = true := List.pairwise_mergeSort leD_tr leD_tot l
/-- sorted: the turn of what is handed in is of no matter -/
theorem srt_congr {l m : List D} (k : Alk l) (p : l.Perm m) : srtL l = srtL m := by
  have q : (srtL l).Perm (srtL m) := (srt_perm l).trans (p.trans (srt_perm m).symm)
  refine q.eq_of_pairwise (le := fun a b => leD a b = true) (fun a b ha hb h1 h2 => ?_) (srt_ord l) (srt_ord m)
  have ha := (srt_perm l).mem_iff.mp ha
  have hb := p.mem_iff.mpr ((srt_perm m).mem_iff.mp hb)
  exact tri k ha hb (by simpa using h2) (by simpa using h1)
/-! ### over the heap -/
theorem likAll_of {xs : List D} (h : likAll xs = true) : ∀ x ∈ xs, ∀ y ∈ xs, likD x y = true := fun x hx y hy => List.all_eq_true.mp (List.all_eq_true.mp h x hx) y hy
theorem toPys_map : ∀ xs : List D, toPys xs = xs.map toPy
  | [] => rfl
  | x :: xs => by simp only [toPys, toPys_map xs, List.map_cons]
theorem set_alk {xs : List D} (h1 : xs.all flatD = true) (h2 : likAll xs = true) : Alk xs := fun x hx => ⟨flat_pl (List.all_eq_true.mp h1 x hx), likAll_of h2 x hx⟩
section
variable {K : KW} {F : Hp}
theorem reps_pick {vs : List V} {Ds : List D} (r : Reps K F vs Ds) : ∀ {vs' : List V} {ds' : List PyData}, Paired (fun x d => ∃ i : Nat, vs[i]? = some x ∧ (toPys Ds)[i]? = some d) vs' ds' → ∃ Ds', Reps K F vs' Ds' ∧ toPys Ds' = ds' ∧ ∀ d ∈ Ds', d ∈ Ds
  | _, _, .nil => ⟨[], .nil, rfl, fun d h => by cases h⟩
  | _, _, .cons ⟨i, h1, h2⟩ t => by
    obtain ⟨Ds', q1, q2, q3⟩ := reps_pick r t
    obtain ⟨d, e1, e2⟩ := r.getV h1
    rw [toPys_map, List.getElem?_map, e1] at h2
    have h2 := Option.some.inj h2
    exact ⟨d :: Ds', .cons e2 q1, by simp only [toPys, q2]; rw [h2], fun z hz => by
      rcases List.mem_cons.mp hz with h | h
      · rw [h]; exact List.mem_of_getElem? e1
      · exact q3 z h⟩
theorem set_out {vs : List V} {Ds : List D} (r : Reps K F vs Ds) (k : Alk Ds) {vs' : List V} {ds' : List PyData} (nd : ds'.Nodup) (hm : ∀ d, d ∈ ds' ↔ d ∈ toPys Ds) (srt : ds'.Pairwise fun a b => dataLt b a = false)
    (p : Paired (fun x d => ∃ i : Nat, vs[i]? = some x ∧ (toPys Ds)[i]? = some d) vs' ds') : Reps K F vs' (ssetL Ds) := by
  obtain ⟨Ds', h1, h2, h3⟩ := reps_pick r p
  subst h2
  have k' := k.sub h3
  have mm : ∀ d, d ∈ Ds' ↔ d ∈ Ds := fun d => ⟨h3 d, fun hd => by
    have q := (hm (toPy d)).mpr (by rw [toPys_map]; exact List.mem_map_of_mem hd)
    rw [toPys_map] at q
    obtain ⟨e, he, ee⟩ := List.mem_map.mp q
    have := py_inj (k' e he).1 (k d hd).1 ee
    rw [← this]
    exact he⟩
  have o : Ord Ds' := by
    rw [toPys_map] at nd srt
    rw [List.pairwise_map] at srt
    have nd : Ds'.Pairwise (fun a b => toPy a ≠ toPy b) := List.pairwise_map.mp nd
    have both := srt.and nd
    refine List.Pairwise.imp_of_mem (fun {a b} ha hb q => ?_) both
    cases z : ltD a b with
    | true => rfl
    | false => exact absurd (congrArg toPy (tri k' ha hb z q.1)) q.2
  have e : Ds' = ssetL Ds := ord_unique o (sset_ord Ds) fun d => by rw [sset_mem k, mm d]
  rw [← e]
  exact h1
end
section
variable {X : Cx}
/-- the data behind a source -/
theorem src_lst {K : KW} {F H : Hp} {v : V} {ds : List D} (sF : Same F H) (h : Sh K F H v (.lst ds)) (nd : noDics ds = true) : ∃ vs, SS.Src K H v vs (toPys ds) ∧ Reps K F vs ds := by
  obtain ⟨p, vs, rfl, h2, h3⟩ := sc_list sF h
  exact ⟨vs, .inl ⟨p, rfl, h2, Reps.dp ds vs (h3.up sF) nd⟩, h3⟩
theorem src_str {K : KW} {F H : Hp} {v : V} {s : List Nat} (h : Sh K F H v (.str s)) : ∃ vs, SS.Src K H v vs (toPys (s.map fun c => D.str [c])) ∧ Reps K F vs (s.map fun c => D.str [c]) := by
  obtain ⟨rfl, o⟩ := h.str
  refine ⟨s.map fun c => V.str (mkS [c]), .inr ⟨mkS s, rfl, rfl, ?_⟩, ?_⟩
  · rw [toPys_map, List.map_map]; rfl
  · have q := reps_strs (K := K) (F := F) (ss := s.map fun c => [c]) (fun p hp => by
      obtain ⟨c, hc, rfl⟩ := List.mem_map.mp hp
      exact ⟨by show 1 ≤ _; rw [sizeLine_eq]; omega, fun z hz => by rw [List.mem_singleton.mp hz]; exact o.2 c hc⟩)
    rw [List.map_map, List.map_map] at q
    exact q
theorem flat_good : ∀ {d : D}, flatD d = true → SS.flatD (toPy d) = true ∧ (toPy d).depth ≤ 64 ∧ toPy d ≠ .none ∧ ∀ xs, toPy d ≠ .tuple xs
  | .int _, _ => ⟨rfl, by simp [toPy, PyData.depth], by simp [toPy], by simp [toPy]⟩
  | .str _, _ => ⟨rfl, by simp [toPy, PyData.depth], by simp [toPy], by simp [toPy]⟩
theorem set_flat {ds : List D} (h1 : ds.all flatD = true) (h2 : likAll ds = true) : (∀ d ∈ toPys ds, SS.flatD d = true) ∧ AllAlike (toPys ds) ∧ Sortable (toPys ds) ∧ (∀ d ∈ toPys ds, d.depth ≤ 64) := by
  have h1 := fun x hx => flat_good (List.all_eq_true.mp h1 x hx)
  rw [toPys_map]
  refine ⟨?_, ?_, .inr ?_, ?_⟩
  · intro d hd; obtain ⟨e, he, rfl⟩ := List.mem_map.mp hd; exact (h1 e he).1
  · intro d hd d' hd'
    obtain ⟨e, he, rfl⟩ := List.mem_map.mp hd
    obtain ⟨e', he', rfl⟩ := List.mem_map.mp hd'
    exact likAll_of h2 e he e' he'
  · intro d hd; obtain ⟨e, he, rfl⟩ := List.mem_map.mp hd; exact (h1 e he).2.2
  · intro d hd; obtain ⟨e, he, rfl⟩ := List.mem_map.mp hd; exact (h1 e he).2.1
mutual
theorem pl_good : ∀ d : D, plD d = true → SS.gdB (toPy d) = true
  | .int _, _ => rfl
  | .str _, _ => rfl
  | .tup xs, h => by
    simp only [plD] at h
    simp only [toPy, SS.gdB]
    exact pls_good xs h
  | .non, h => by simp [plD] at h
  | .bl _, h => by simp [plD] at h
  | .lst _, h => by simp [plD] at h
  | .dic _ _, h => by simp [plD] at h
  | .frz _, h => by simp [plD] at h
  | .err _ _, h => by simp [plD] at h
  | .obj _ _, h => by simp [plD] at h
  | .scr _, h => by simp [plD] at h
theorem pls_good : ∀ ds : List D, plDs ds = true → SS.gdBs (toPys ds) = true
  | [], _ => rfl
  | d :: ds, h => by
    simp only [plDs, Bool.and_eq_true] at h
    simp only [toPys, SS.gdBs, pl_good d h.1, pls_good ds h.2, Bool.and_self]
end
mutual
theorem dep_py : ∀ d : D, plD d = true → (toPy d).depth ≤ dep d
  | .int _, _ => Nat.zero_le _
  | .str _, _ => Nat.zero_le _
  | .tup xs, h => by
    simp only [plD] at h
    have := deps_py xs h
    simp only [toPy, PyData.depth, dep]
    omega
  | .non, h => by simp [plD] at h
  | .bl _, h => by simp [plD] at h
  | .lst _, h => by simp [plD] at h
  | .dic _ _, h => by simp [plD] at h
  | .frz _, h => by simp [plD] at h
  | .err _ _, h => by simp [plD] at h
  | .obj _ _, h => by simp [plD] at h
  | .scr _, h => by simp [plD] at h
theorem deps_py : ∀ ds : List D, plDs ds = true → PyData.depthAll (toPys ds) ≤ deps ds
  | [], _ => Nat.zero_le _
  | d :: ds, h => by
    simp only [plDs, Bool.and_eq_true] at h
    have h1 := dep_py d h.1
    have h2 := deps_py ds h.2
    simp only [toPys, PyData.depthAll, deps]
    omega
end
theorem tup_good {d : D} (h : tupB d = true) : plD d = true ∧ SS.GdT (toPy d) ∧ ∃ x r, toPy d = .tuple (x :: r) := by
  unfold tupB at h
  split at h
  · rename_i x r
    simp only [Bool.and_eq_true, decide_eq_true_eq] at h
    have hp : plD (.tup (x :: r)) = true := by simp only [plD]; exact h.1
    exact ⟨hp, ⟨pl_good _ hp, Nat.le_trans (dep_py _ hp) h.2, ⟨_, by rw [toPy]⟩⟩, _, _, by rw [toPy, toPys]⟩
  · cases h
theorem tup_alk {xs : List D} (h1 : xs.all tupB = true) (h2 : likAll xs = true) : Alk xs := fun x hx => ⟨(tup_good (List.all_eq_true.mp h1 x hx)).1, likAll_of h2 x hx⟩
theorem set_tup {ds : List D} (h1 : ds.all tupB = true) (h2 : likAll ds = true) : (∀ d ∈ toPys ds, SS.GdT d) ∧ AllAlike (toPys ds) ∧ Sortable (toPys ds) ∧ (∀ d ∈ toPys ds, d.depth ≤ 64) := by
  have h1 := fun x hx => (tup_good (List.all_eq_true.mp h1 x hx)).2
  rw [toPys_map]
  refine ⟨?_, ?_, .inl ?_, ?_⟩
  · intro d hd; obtain ⟨e, he, rfl⟩ := List.mem_map.mp hd; exact (h1 e he).1
  · intro d hd d' hd'
    obtain ⟨e, he, rfl⟩ := List.mem_map.mp hd
    obtain ⟨e', he', rfl⟩ := List.mem_map.mp hd'
    exact likAll_of h2 e he e' he'
  · intro d hd; obtain ⟨e, he, rfl⟩ := List.mem_map.mp hd; exact (h1 e he).2
  · intro d hd; obtain ⟨e, he, rfl⟩ := List.mem_map.mp hd; have := (h1 e he).1.flat; omega
theorem chars_flat (s : List Nat) : (s.map fun c => D.str [c]).all flatD = true ∧ likAll (s.map fun c => D.str [c]) = true := by
  constructor
  · rw [List.all_eq_true]; intro d hd; obtain ⟨c, _, rfl⟩ := List.mem_map.mp hd; rfl
  · unfold likAll
    rw [List.all_eq_true]; intro d hd; obtain ⟨c, _, rfl⟩ := List.mem_map.mp hd
    rw [List.all_eq_true]; intro d hd; obtain ⟨c, _, rfl⟩ := List.mem_map.mp hd
    rfl

/-- sorted(x), x a list -/
theorem bn_sorted (hu : X.A.units + 100 < cLine) : CallR X (.builtin "sorted") (rArgs (kwOf X) (bnD .sorted)) := by
  intro pins s σ H vs us Q I r h
  obtain ⟨F, ds, d, sF, hp, e, k⟩ := h
  match ds, e, hp with
  | [.lst xs], e, hp =>
    obtain ⟨v, rfl, ha⟩ := paired1 hp
    obtain ⟨hb, e⟩ := R.need_eq e
    have e := R.ok.inj e; subst e
    simp only [srtB, Bool.and_eq_true] at hb
    obtain ⟨p, vs, rfl, h2, h3⟩ := sc_list sF ha
    obtain ⟨its, rv, hl, hz⟩ := I.list h2
    rw [Vals.ref1 r]
    obtain ⟨g1, g2, g3, g4⟩ := set_flat hb.1 hb.2
    have ll : vs.length = xs.length := h3.length
    have each : ∀ {vs : List V} {its : List Value} {xs : List D}, (∀ d ∈ xs, noDic d = true) → Vals vs its → Reps (kwOf X) F vs xs → EachIs (fun u d => ∃ x, Rep (kwOf X) F x d ∧ RelV x u ∧ noDic d = true) its xs := by
      intro vs its xs nd rv
      induction rv generalizing xs with
      | nil => intro h; cases h; exact .nil
      | cons r _ ih => intro h; cases h with | cons a b => exact .cons ⟨_, a, r, nd _ List.mem_cons_self⟩ (ih (fun d hd => nd d (List.mem_cons_of_mem _ hd)) b)
    have nds : ∀ d ∈ xs, noDic d = true := fun d hd => flat_nd (List.all_eq_true.mp hb.1 d hd)
    refine sorted_data (enc := toPy) (bs := xs) (R := fun u d => ∃ x, Rep (kwOf X) F x d ∧ RelV x u ∧ noDic d = true) hl.isList (each nds rv h3) (SS.each_mono (fun u d ⟨x, q1, q2, q3⟩ => Dp.reads I (toPy d) x u (Rep.dp d x (q1.up sF) q3) q2) (each nds rv h3)) (by rw [← toPys_map]; exact g2) (by rw [← toPys_map]; exact g3) (by rw [← ll]; exact hz) (fun d hd => ?_) fun out ho eo => ?_
    · have := g4 (toPy d) (by rw [toPys_map]; exact List.mem_map_of_mem hd)
      omega
    · obtain ⟨ep, he'⟩ := PyProof.Rows.sortedAll_at s.heap its out.toArray
      have pick : ∀ {out : List Value} {Ds : List D}, EachIs (fun u d => ∃ x, Rep (kwOf X) F x d ∧ RelV x u ∧ noDic d = true) out Ds → ∃ ws, Vals ws out ∧ Reps (kwOf X) F ws Ds := by
        intro out Ds h
        induction h with
        | nil => exact ⟨[], .nil, .nil⟩
        | cons h _ ih =>
          obtain ⟨x, q1, q2, _⟩ := h
          obtain ⟨ws, p1, p2⟩ := ih
          exact ⟨x :: ws, .cons q2 p1, .cons q1 p2⟩
      obtain ⟨ws, w1, w2⟩ := pick eo
      have hlen : ws.length ≤ sizeLine := by rw [w1.length, ho, ← ll]; exact hz
      have hn := I.hok.fresh (Nat.le_succ s.heap.objs.size)
      exact ⟨.ref _, upd H (s.heap.objs.size + 1) (.lst ws), I.laid (t' := s.toks) (fun _ _ => PyProof.Rows.sortedAll_old) (Nat.le_succ _) ⟨hlen, out, ep, w1, he'⟩, rfl, k _ _ (.lst hn w2) fun _ _ q e => by cases e; exact hn⟩
end
end PV
/-! PV6: which written expression a CE is, how deep values are one's own, what the context must hold. -/
namespace PV
open PySem PySem.Spec PyProof.Rows L2

/-- what a text has: its defs, its constants -/
structure St0 where
  fnN : List Str
  fns : List Fn
  conN : List Str
  con : List D
  turns : Nat
def St0.conD (L : St0) (k : Nat) : D := (L.con[k]?).getD .non
def St0.call (L : St0) (n : Nat) : Nat → List D → R D := callF L.fns L.conD L.turns n
def St0.w (L : St0) (n : Nat) : Wld := ⟨L.call n, L.conD, L.turns⟩

/-! ### the same text -/
abbrev Nm := List (Str × NameKind)
def visB (nm : Nm) (x : Str) : Bool := (match nm.lookup x with
  | some .local => true
  | some .cell => true
  | some .free => true
  | _ => false) && !(x == ("__debug__" : Str)) && !(x == ("__classdict__" : Str))
def locB (nm : Nm) (x : Str) : Bool := match nm.lookup x with
  | some .local => true
  | some .cell => true
  | _ => false
def glB (nm : Nm) (x : Str) : Bool := decide (nm.lookup x = some .globalImplicit) && !(x == ("__debug__" : Str)) && !(x == ("__name__" : Str))
def Bn.name : Bn → String
  | .len => "len" | .tuple => "tuple" | .list => "list" | .str => "str" | .int => "int" | .all => "all" | .any => "any" | .min => "min" | .max => "max" | .abs => "abs" | .sorted => "sorted" | .isI _ => "isinstance"
def Mt.name : Mt → String
  | .join => "join" | .upper => "upper" | .find => "find" | .split => "split" | .index => "index" | .tindex => "index"
def ownOf (N : List Str) (own : List Nat) : List (Str × Nat) := own.filterMap fun i => (N[i]?).map fun x => (x, i)
def blkB (N : List Str) (nm : Nm) (scope : Scope) (own : List (Str × Nat)) : Bool :=
  (match scope.kind with | .function => true | _ => false) && (scope.names.all fun y => decide (scope.names.lookup y.1 = some y.2)) && (own.all fun p => decide (N[p.2]? = some p.1)) &&
    (scope.names.all fun y => match y.2 with
      | .free => (match nm.lookup y.1 with | some .cell => true | some .free => true | _ => false)
      | .local => decide (y.1 ∈ own.map (·.1)) || decide (y.1 ∉ N)
      | .cell => decide (y.1 ∈ own.map (·.1)) || decide (y.1 ∉ N)
      | _ => true)
def tgIn (own : List Nat) : Tg → Bool
  | .one i => decide (i ∈ own)
  | .nil => true
  | .cons t r => tgIn own t && tgIn own r
def CE.notLc : CE → Bool
  | .lc .. => false
  | _ => true
def MO.zero : MO → Bool
  | .pop => true | .clr => true | _ => false
def MO.name : MO → String
  | .app => "append" | .ext => "extend" | .ins => "insert" | .pop => "pop" | .clr => "clear" | .set => ""
def Bn.plain : Bn → Bool
  | .isI _ => false
  | _ => true
def isTup : D → Bool
  | .tup _ => true
  | _ => false
def Mt.noArg : Mt → Bool
  | .upper => true
  | _ => false
def Mt.now : Mt → Bool
  | .upper => false
  | .tindex => false
  | _ => true
/-- pairs are always taken apart -/
def CI.okT : CI → Tg → Bool
  | .zip _ _, .one _ => false
  | _, _ => true
def CL.short : CL → Bool
  | .nil => true
  | .cons _ .nil => true
  | _ => false
mutual
def mT (N : List Str) (nm : Nm) : Tg → Expr → Bool
  | .one i, .Name x _ => decide (N[i]? = some x) && locB nm x
  | .nil, .Tuple [] _ _ => true
  | .cons t r, .Tuple (e :: es) _ _ => mT N nm t e && mTs N nm r es
  | _, _ => false
def mTs (N : List Str) (nm : Nm) : Tg → List Expr → Bool
  | .nil, [] => true
  | .cons t r, e :: es => mT N nm t e && mTs N nm r es
  | _, _ => false
end
/-- constant texts -/
def mKs : List (List Nat) → List Expr → Bool
  | [], [] => true
  | s :: r, .Constant (.str z) _ _ :: es => decide (z = mkS s) && (decide (okS s) && mKs r es)
  | _, _ => false
def mPs : List (List Nat × List (List Nat)) → List (Option Expr) → List Expr → Bool
  | [], [], [] => true
  | x :: r, some (.Constant (.str z) _ _) :: ks, .Tuple es _ _ :: vs => decide (z = mkS x.1) && (decide (x.2.length ≤ 15) && (mKs x.2 es && mPs r ks vs))
  | _, _, _ => false
mutual
def mE (L : St0) (N : List Str) : CE → Nm → Expr → Bool
  | .sl i, nm, .Name x _ => decide (N[i]? = some x) && visB nm x
  | .mv i, nm, .Name x _ => decide (N[i]? = some x) && visB nm x
  | .cI i, _, .Constant (.int j) _ _ => decide (i = j)
  | .cS s, _, .Constant (.str z) _ _ => decide (z = mkS s) && decide (okS s)
  | .cB b, _, .Constant (.bool c) _ _ => decide (b = c)
  | .cN, _, .Constant .none _ _ => true
  | .gl k, nm, .Name x _ => decide (L.conN[k]? = some x) && glB nm x
  | .bin op a b, nm, .BinOp l o r _ => decide (op = o) && (mE L N a nm l && mE L N b nm r)
  | .neg a, nm, .UnaryOp .USub x _ => mE L N a nm x
  | .not a, nm, .UnaryOp .Not x _ => mE L N a nm x
  | .cmp op a b, nm, .Compare l [o] [r] _ => decide (op = o) && (mE L N a nm l && mE L N b nm r)
  | .cmp2 o1 o2 a b c, nm, .Compare l [p1, p2] [r1, r2] _ => decide (o1 = p1) && (decide (o2 = p2) && (mE L N a nm l && (mE L N b nm r1 && mE L N c nm r2)))
  | .and a b, nm, .BoolOp .And (x :: y :: r) p => mE L N a nm x && mE L N b nm (.BoolOp .And (y :: r) p)
  | .or a b, nm, .BoolOp .Or (x :: y :: r) p => mE L N a nm x && mE L N b nm (.BoolOp .Or (y :: r) p)
  | .one a, nm, .BoolOp _ [x] _ => mE L N a nm x
  | .ite c a b, nm, .IfExp t x y _ => mE L N c nm t && (mE L N a nm x && mE L N b nm y)
  | .tup xs, nm, .Tuple es _ _ => mL L N xs nm es
  | .lst xs, nm, .List es _ => mL L N xs nm es
  | .dnew, _, .Dict [] [] _ => true
  | .ix a i, nm, .Subscript x s _ => mE L N a nm x && mE L N i nm s
  | .ixb a i, nm, .Subscript x s _ => mE L N a nm x && mE L N i nm s
  | .dgt o xs, nm, .Call (.Attribute e name apos) (a :: as) [] pos => decide (name = Str.ofString "get") && ((apos.endLine == pos.line) && (decide ((a :: as).length < 20) && (mE L N o nm e && mL L N xs nm (a :: as))))
  | .cut a l h, nm, .Subscript x (.Slice lo hi none _) _ => mE L N a nm x && ((match lo with
      | none => l.isN
      | some e => !l.isN && mE L N l nm e) && (match hi with
      | none => h.isN
      | some e => !h.isN && mE L N h nm e))
  | .pick kvs a, nm, .Subscript (.Dict keys vals _) s _ => decide (kvs.map (·.1)).Nodup && (decide (0 < kvs.length) && (decide (kvs.length ≤ 15) && (mPs kvs keys vals && mE L N a nm s)))
  | .gidx k a, nm, .Call (.Attribute (.Name x _) name apos) [e] [] pos => decide (L.conN[k]? = some x) && (glB nm x && (isTup (L.conD k) && (decide (name = Str.ofString "index") && ((apos.endLine == pos.line) && mE L N a nm e))))
  | .lrev a, nm, .Call (.Name x _) [.Call (.Name y _) [e] [] _] [] _ => decide (x = Str.ofString "list") && (glB nm x && (decide (y = Str.ofString "reversed") && (glB nm y && mE L N a nm e)))
  | .sset a, nm, .Call (.Name x _) [.Call (.Name y _) [e] [] _] [] _ => decide (x = Str.ofString "sorted") && (glB nm x && (decide (y = Str.ofString "set") && (glB nm y && mE L N a nm e)))
  | .call _ f xs, nm, .Call (.Name x _) (e :: es) [] _ => decide (L.fnN[f]? = some x) && ((L.fns[f]?).isSome && (glB nm x && mL L N xs nm (e :: es)))
  | .callo f xs, nm, .Call (.Name x _) (e :: es) [] _ => decide (L.fnN[f]? = some x) && ((L.fns[f]?).isSome && (glB nm x && mL L N xs nm (e :: es)))
  | .bn (.isI t) xs, nm, .Call (.Name x _) [e, .Name tn _] [] _ => decide (x = Str.ofString "isinstance") && (glB nm x && (decide (tn = Str.ofString t.name) && (glB nm tn && mL L N xs nm [e])))
  | .bn b xs, nm, .Call (.Name x _) (e :: es) [] _ => b.plain && (decide (x = Str.ofString b.name) && (glB nm x && mL L N xs nm (e :: es)))
  | .mt m o .nil, nm, .Call (.Attribute e name apos) [] [] pos => decide (name = Str.ofString m.name) && (m.noArg && ((apos.endLine == pos.line) && mE L N o nm e))
  | .mt m o xs, nm, .Call (.Attribute e name apos) (a :: as) [] pos => decide (name = Str.ofString m.name) && (m.now && ((apos.endLine == pos.line) && (decide ((a :: as).length < 20) && (mE L N o nm e && mL L N xs nm (a :: as)))))
  | .lc own tg it ifs elt, nm, .ListComp e [⟨t, iter, tests, k⟩] scope _ => decide (k = 0) && (it.okT tg && (tgIn own tg && (ifs.short && (own.all (fun i => decide (i < N.length)) && (blkB N nm scope (ownOf N own) && (mT N scope.names tg t && (mI L N it nm iter && (mL L N ifs scope.names tests && mE L N elt scope.names e))))))))
  | _, _, _ => false
def mL (L : St0) (N : List Str) : CL → Nm → List Expr → Bool
  | .nil, _, [] => true
  | .cons e r, nm, x :: xs => mE L N e nm x && mL L N r nm xs
  | _, _, _ => false
def mI (L : St0) (N : List Str) : CI → Nm → Expr → Bool
  | .seq c, nm, e => mE L N c nm e
  | .rng1 a, nm, .Call (.Name x _) [e] [] _ => decide (x = Str.ofString "range") && (glB nm x && mE L N a nm e)
  | .rng2 a b, nm, .Call (.Name x _) [e, f] [] _ => decide (x = Str.ofString "range") && (glB nm x && (mE L N a nm e && mE L N b nm f))
  | .zip a b, nm, .Call (.Name x _) [e, f] [] _ => decide (x = Str.ofString "zip") && (glB nm x && (mE L N a nm e && mE L N b nm f))
  | .rev a, nm, .Call (.Name x _) [e] [] _ => decide (x = Str.ofString "reversed") && (glB nm x && mE L N a nm e)
  | _, _, _ => false
end
mutual
def mS (L : St0) (N : List Str) (nm : Nm) : CS → Stmt → Bool
  | .asg i _ (.lc own tg it ifs elt), .Assign [.Name x p] e q => decide (N[i]? = some x) && (locB nm x && (mE L N (.lc own tg it ifs elt) nm e && (match e with
      | .ListComp _ _ scope pos => decide (nm.lookup x = some .cell) || (decide (nm.lookup x = some .local) && (decide (p.line = pos.line) && !(scope.names.any fun (n, k) => n == x && (k == .local || k == .cell))))
      | _ => false)))
  | .asg i _ c, .Assign [.Name x _] e _ => decide (N[i]? = some x) && (locB nm x && (c.notLc && mE L N c nm e))
  | .unp tg c, .Assign [.Tuple (t :: ts) k p] e _ => mT N nm tg (.Tuple (t :: ts) k p) && (c.notLc && (mE L N c nm e && (match e with
      | .Tuple .. => false
      | _ => true)))
  | .par i j a b, .Assign [.Tuple [.Name x px, .Name y py] _ _] (.Tuple [e, f] _ _) _ => decide (N[i]? = some x) && (decide (N[j]? = some y) && (decide (i ≠ j) && (decide (nm.lookup x = some .local) && (decide (nm.lookup y = some .local) && (decide (px.line = py.line) && (!([e, f].all (foldedForSure 8)) && (!([e, f].all (constantsAlone 8)) && (mE L N a nm e && mE L N b nm f))))))))
  | .ret c, .Return (some e) _ => mE L N c nm e
  | .retN, .Return none _ => true
  | .exp c, .Expr e _ => mE L N c nm e && c.notLc
  | .mut .set i (.cons c (.cons d .nil)), .Assign [.Subscript (.Name x _) ie _] e _ => decide (N[i]? = some x) && (visB nm x && (c.notLc && (mE L N c nm e && mE L N d nm ie)))
  | .mut m i xs, .Expr (.Call (.Attribute (.Name x _) f apos) es [] pos) _ => decide (m ≠ .set) && ((m.zero == es.isEmpty) && (decide (f = Str.ofString m.name) && ((apos.endLine == pos.line) && (decide (N[i]? = some x) && (visB nm x && (decide (es.length < 20) && mL L N xs nm es))))))
  | .callM f i xs, .Expr (.Call (.Name x _) (.Name y _ :: es) [] _) _ => decide (L.fnN[f]? = some x) && ((L.fns[f]?).isSome && (glB nm x && (decide (N[i]? = some y) && (visB nm y && mL L N xs nm es))))
  | .ifs c a b, .If e x y _ => mE L N c nm e && (mB L N nm a x && mB L N nm b y)
  | .whl c b, .While e x [] _ => mE L N c nm e && mB L N nm b x
  | .forr tg it b, .For t e x [] _ => it.okT tg && (mT N nm tg t && (mI L N it nm e && mB L N nm b x))
  | .brk, .Break _ => true
  | .cont, .Continue _ => true
  | .pass, .Pass _ => true
  | .pass, .Expr (.Constant (.str _) _ _) _ => true
  | .bad, _ => true
  | _, _ => false
def mB (L : St0) (N : List Str) (nm : Nm) : CB → List Stmt → Bool
  | .nil, [] => true
  | .cons (.fz _) r, ss => mB L N nm r ss
  | .cons (.dr _) r, ss => mB L N nm r ss
  | .cons c r, s :: ss => mS L N nm c s && mB L N nm r ss
  | _, _ => false
end

/-! ### whose a value is -/
structure Kd where
  own : Bool
  n : Nat
  deriving DecidableEq
abbrev Tn := List (Option Nat)
def kCall (o : Option Fn) (lent : Bool) (ks : List Kd) (T1 : Tn) : Option (Kd × Tn) := match o with
  | some fn => if fn.io = true then none else (match lent with
    | true => some (⟨true, 0⟩, T1)
    | false => if ks.all (·.own) then some (⟨true, fn.back⟩, T1) else none)
  | none => none
abbrev Kd.c (k : Kd) (v : V) (d : D) : Cell := ⟨k.own, k.n, v, d⟩
mutual
def kE (L : St0) : CE → Tn → Option (Kd × Tn)
  | .sl i, T => (match T[i]? with
    | some (some n) => some (⟨n == 0, n⟩, T)
    | _ => none)
  | .mv i, T => (match T[i]? with
    | some (some n) => some (⟨true, n⟩, T.set i none)
    | _ => none)
  | .cI _, T => some (⟨true, 0⟩, T)
  | .cS _, T => some (⟨true, 0⟩, T)
  | .cB _, T => some (⟨true, 0⟩, T)
  | .cN, T => some (⟨true, 0⟩, T)
  | .gl _, T => some (⟨true, 0⟩, T)
  | .bin _ a b, T => (kE L a T).bind fun (ka, T1) => (kE L b T1).bind fun (kb, T2) => if ka.n ≤ 1 ∧ kb.n ≤ 1 then some (⟨true, 1⟩, T2) else none
  | .neg a, T => (kE L a T).bind fun (ka, T1) => if ka.n ≤ 1 then some (⟨true, 0⟩, T1) else none
  | .not a, T => (kE L a T).bind fun (_, T1) => some (⟨true, 0⟩, T1)
  | .cmp _ a b, T => (kE L a T).bind fun (_, T1) => (kE L b T1).bind fun (_, T2) => some (⟨true, 0⟩, T2)
  | .cmp2 _ _ a b c, T => (kE L a T).bind fun (_, T1) => (kE L b T1).bind fun (_, T2) => (kE L c T2).bind fun (_, T3) => if T3 = T2 then some (⟨true, 0⟩, T2) else none
  | .and a b, T => (kE L a T).bind fun (_, T1) => (kE L b T1).bind fun (_, T2) => if T2 = T1 then some (⟨true, 0⟩, T1) else none
  | .or a b, T => (kE L a T).bind fun (_, T1) => (kE L b T1).bind fun (_, T2) => if T2 = T1 then some (⟨true, 0⟩, T1) else none
  | .one a, T => (kE L a T).bind fun (_, T1) => some (⟨true, 0⟩, T1)
  | .ite c a b, T => (kE L c T).bind fun (_, T1) => (kE L a T1).bind fun (ka, T2) => (kE L b T1).bind fun (kb, T3) => if T2 = T1 ∧ T3 = T1 ∧ ka = kb then some (ka, T1) else none
  | .tup xs, T => (kL L xs T).bind fun (ks, T1) => if ks.all (·.own) then some (⟨true, 0⟩, T1) else none
  | .lst xs, T => (kL L xs T).bind fun (ks, T1) => if ks.all (·.own) then some (⟨true, 1⟩, T1) else none
  | .dnew, T => some (⟨true, 1⟩, T)
  | .ix a i, T => (kE L a T).bind fun (ka, T1) => (kE L i T1).bind fun (ki, T2) => if ka.n ≤ 1 ∧ ki.n ≤ 1 then some (⟨true, 0⟩, T2) else none
  | .ixb a i, T => (kE L a T).bind fun (ka, T1) => (kE L i T1).bind fun (ki, T2) => if 2 ≤ ka.n ∧ ki.n ≤ 1 then some (⟨false, ka.n - 1⟩, T2) else none
  | .dgt o xs, T => (kE L o T).bind fun (ko, T1) => (kL L xs T1).bind fun (ks, T2) => if ko.n ≤ 1 ∧ ks.all (·.own) = true then some (⟨true, 0⟩, T2) else none
  | .cut a l h, T => (kE L a T).bind fun (ka, T1) => (kE L l T1).bind fun (_, T2) => (kE L h T2).bind fun (_, T3) => if ka.n ≤ 1 then some (⟨true, 1⟩, T3) else none
  | .pick _ a, T => (kE L a T).bind fun (ka, T1) => some (⟨true, 0⟩, T1)
  | .gidx _ a, T => (kE L a T).bind fun (ka, T1) => if ka.n ≤ 1 then some (⟨true, 1⟩, T1) else none
  | .lrev a, T => (kE L a T).bind fun (ka, T1) => if ka.n ≤ 1 then some (⟨true, 1⟩, T1) else none
  | .sset a, T => (kE L a T).bind fun (ka, T1) => if ka.n ≤ 1 then some (⟨true, 1⟩, T1) else none
  | .call lent f xs, T => (kL L xs T).bind fun (ks, T1) => kCall L.fns[f]? lent ks T1
  | .callo f xs, T => (kL L xs T).bind fun (ks, T1) => (match L.fns[f]? with
    | some fn => if fn.io = false ∧ fn.back = 1 then some (⟨true, 1⟩, T1) else none
    | none => none)
  | .bn _ xs, T => (kL L xs T).bind fun (ks, T1) => if ks.all (·.n ≤ 1) then some (⟨true, 1⟩, T1) else none
  | .mt _ o xs, T => (kE L o T).bind fun (ko, T1) => (kL L xs T1).bind fun (ks, T2) => if ko.n ≤ 1 ∧ ks.all (·.n ≤ 1) then some (⟨true, 1⟩, T2) else none
  | .lc own _ it ifs elt, T => (kI L it T).bind fun (_, T1) => (kL L ifs T1).bind fun (_, T2) => (kE L elt T2).bind fun (ke, T3) => if (∀ i ∈ own, T1[i]? = some (some 0)) ∧ T2 = T1 ∧ T3 = T1 ∧ ke.own = true then some (⟨true, 1⟩, T1) else none
def kL (L : St0) : CL → Tn → Option (List Kd × Tn)
  | .nil, T => some ([], T)
  | .cons e r, T => (kE L e T).bind fun (k, T1) => (kL L r T1).bind fun (ks, T2) => some (k :: ks, T2)
def kI (L : St0) : CI → Tn → Option (Kd × Tn)
  | .seq e, T => (kE L e T).bind fun (k, T1) => if k.own = true ∨ k.n ≤ 1 then some (k, T1) else none
  | .rng1 a, T => (kE L a T).bind fun (_, T1) => some (⟨true, 0⟩, T1)
  | .rng2 a b, T => (kE L a T).bind fun (_, T1) => (kE L b T1).bind fun (_, T2) => some (⟨true, 0⟩, T2)
  | .zip a b, T => (kE L a T).bind fun (ka, T1) => (kE L b T1).bind fun (kb, T2) => if ka.own = true ∧ kb.own = true then some (⟨true, 0⟩, T2) else none
  | .rev a, T => (kE L a T).bind fun (k, T1) => if k.own = true then some (⟨true, 0⟩, T1) else none
end
end PV
/-! PV7: what a written expression does, by the CE that it is. -/
namespace PV
open PySem PySem.Spec PyProof.Rows L2

/-- what is raised, as it lies: the exception, its class, its own dict, the heap -/
abbrev Eat := Exn → Value → Option Addr → Hp → Prop
/-- the promise of a def -/
def spF (L : St0) (eat : Eat) (K : KW) (n f back : Nat) : Sp := fun vs H Q E => ∃ (F : Hp) (ds : List D), Same F H ∧ Reps K F vs ds ∧ (match L.call n f ds with
  | .ok d => ∀ v H' F', Same H H' → Same F F' → Same F' H' → (∀ p, F' p ≠ none → F p ≠ none ∨ H p = none) → (∃ fp, RepO K F' H' back v d fp ∧ fp.Nodup ∧ ∀ p ∈ fp, F' p = none ∧ H p = none) → Q v H'
  | .exc e => ∀ cls dd H', Same H H' → eat e cls dd H' → E cls dd H'
  | .bad => False)
/-- a def that changes its first argument -/
def spIO (L : St0) (eat : Eat) (K : KW) (n f : Nat) : Sp := fun vs H Q E => ∃ (F : Hp) (p : Addr) (us : List V) (d0 : D) (ds : List D), vs = .ref p :: us ∧ Same F H ∧ F p = none ∧ RepO K F H 1 (.ref p) d0 [p] ∧ Reps K F us ds ∧ (match L.call n f (d0 :: ds) with
  | .ok d => ∀ H' F', (∀ a o, a ≠ p → H a = some o → H' a = some o) → Same F F' → Same F' H' → (∀ q, F' q ≠ none → F q ≠ none ∨ H q = none) → RepO K F' H' 1 (.ref p) d [p] → Q .non H'
  | .exc e => False
  | .bad => False)
def spA (L : St0) (eat : Eat) (K : KW) (n f : Nat) (fn : Fn) : Sp := if fn.io = true then spIO L eat K n f else spF L eat K n f fn.back
theorem spA_f {L : St0} {eat : Eat} {K : KW} {n f : Nat} {fn : Fn} (h : fn.io = false) : spA L eat K n f fn = spF L eat K n f fn.back := by unfold spA; rw [h]; rfl
theorem spA_t {L : St0} {eat : Eat} {K : KW} {n f : Nat} {fn : Fn} (h : fn.io = true) : spA L eat K n f fn = spIO L eat K n f := by unfold spA; rw [h]; rfl
def bltN : List Str := ["len", "tuple", "list", "str", "int", "all", "any", "min", "max", "abs", "isinstance", "range", "bool", "dict", "sorted", "set", "zip", "reversed"]
/-- what stands of the text: its defs (to n calls, one in another), its constants, the built-ins unhidden -/
structure GlobOk (L : St0) (eat : Eat) (n : Nat) (P : Program) (w : World) (K : KW) (mg : Str → Option Value) (base : Heap) : Prop where
  fn : ∀ f fn x, L.fns[f]? = some fn → L.fnN[f]? = some x → ∃ (a : Addr) (fd : FuncData) (ps : List Str), mg x = some (.ref a) ∧ PySem.W.keepIn K (.ref a) = true ∧ FnOk P w K mg base (CX P w) n a fd ps (spA L eat K n f fn) ∧ Binds K fd ps []
  con : ∀ k x, L.conN[k]? = some x → ∃ u v, mg x = some u ∧ RelV v u ∧ (∀ F, Rep K F v (L.conD k)) ∧ ∀ p, v = .ref p → ∃ o, K.fr.lookup p = some o ∧ o.cls = .type "tuple" ∧ o.dict = none
  blt : ∀ x ∈ bltN, mg x = none
/-- the ground of a body's reading -/
structure Sx where
  L : St0
  n : Nat
  K : KW
  W : WX
  eat : Eat
abbrev Sx.w (S : Sx) : Wld := S.L.w S.n
structure Good (S : Sx) (X : Cx) (N : List Str) (nm : Nm) : Prop where
  hN : X.N = N
  nd : N.Nodup
  nmk : ∀ x k, nm.lookup x = some k → X.env.scope.names.lookup x = some k ∨ (k = .free ∧ X.env.scope.names.lookup x = some .cell)
  fn : ∀ x, nm.lookup x = some .cell → X.fn x = true
  calm : X.calm = true
  tk : Takes X S.W
  room : Room S.n X.A
  K : kwOf X = S.K
  glob : GlobOk S.L S.eat S.n X.prog X.w (kwOf X) X.mg X.base

def AftE (S : Sx) (g : Gh) (k : Kd) (T' : Tn) (σ : L2.St) (H : Hp) (r : R D) (Q : VK) : Prop := match r with
  | .ok d => ∀ v H' F', Same H H' → Same g.F F' → Rel S.K { g with F := F', T := T', tau := k.c v d :: g.tau } σ H' → Q v H'
  | .exc e => ∀ cls dd H', Same H H' → S.eat e cls dd H' → S.W cls dd σ H'
  | .bad => False
def tE (S : Sx) (c : CE) : TE := fun σ H Q => ∃ (g : Gh) (k : Kd) (T' : Tn), kE S.L c g.T = some (k, T') ∧ Rel S.K g σ H ∧ AftE S g k T' σ H (evE S.w c g.rho) Q
/-- as a test -/
def AftT (S : Sx) (g : Gh) (T' : Tn) (σ : L2.St) (H : Hp) (r : R D) (Q : Bool → Hp → Prop) : Prop := match r with
  | .ok (.bl b) => ∀ H' F', Same H H' → Same g.F F' → Rel S.K { g with F := F', T := T' } σ H' → Q b H'
  | .ok _ => False
  | .exc e => ∀ cls dd H', Same H H' → S.eat e cls dd H' → S.W cls dd σ H'
  | .bad => False
def tT (S : Sx) (c : CE) : TT := fun σ H Q => ∃ (g : Gh) (k : Kd) (T' : Tn), kE S.L c g.T = some (k, T') ∧ Rel S.K g σ H ∧ AftT S g T' σ H (evE S.w c g.rho) Q
def cells : List Kd → List V → List D → List Cell → List Cell
  | k :: ks, v :: vs, d :: ds, t => cells ks vs ds (k.c v d :: t)
  | _, _, _, t => t
def AftL (S : Sx) (g : Gh) (ks : List Kd) (T' : Tn) (σ : L2.St) (H : Hp) (r : R (List D)) (Q : List V → Hp → Prop) : Prop := match r with
  | .ok ds => ∀ vs H' F', Same H H' → Same g.F F' → ks.length = ds.length → vs.length = ds.length → Rel S.K { g with F := F', T := T', tau := cells ks vs ds g.tau } σ H' → Q vs H'
  | .exc e => ∀ cls dd H', Same H H' → S.eat e cls dd H' → S.W cls dd σ H'
  | .bad => False
def tL (S : Sx) (c : CL) : TA := fun σ H Q => ∃ (g : Gh) (ks : List Kd) (T' : Tn), kL S.L c g.T = some (ks, T') ∧ Rel S.K g σ H ∧ AftL S g ks T' σ H (evL S.w c g.rho) Q

theorem impE {X : Cx} {e : Expr} {t t' : TE} (h : PE X e t) (i : ∀ σ H Q, t' σ H Q → t σ H Q) : PE X e t' := ⟨fun pins s σ H Q I q => h.run pins s σ H Q I (i σ H Q q)⟩
theorem impT {X : Cx} {e : Expr} {t t' : TT} (h : PT X e t) (i : ∀ σ H Q, t' σ H Q → t σ H Q) : PT X e t' := ⟨fun pins s σ H Q I q => h.run pins s σ H Q I (i σ H Q q)⟩
theorem impW {X : Cx} {e : Expr} {t t' : TT} (h : PW X e t) (i : ∀ σ H Q, t' σ H Q → t σ H Q) : PW X e t' := ⟨fun wh pins s σ H Q I q => h.run wh pins s σ H Q I (i σ H Q q)⟩
theorem impA {X : Cx} {e : List Expr} {t t' : TA} (h : PA X e t) (i : ∀ σ H Q, t' σ H Q → t σ H Q) : PA X e t' := ⟨fun pos pins s σ H Q I q => h.run pos pins s σ H Q I (i σ H Q q)⟩

section
variable {S : Sx} {g : Gh} {k k1 k2 k3 : Kd} {T' T1 T2 T3 : Tn} {σ : L2.St} {H H1 : Hp} {a b c : CE} {Q : VK}
theorem Sh.ofCell {K : KW} {F H : Hp} {P B : Addr → Prop} {c : Cell} (h : CellOk K F H P B c) (hn : c.n ≤ 1) : Sh K F H c.v c.d := by
  obtain ⟨fp, h1, _, _⟩ := h
  exact ⟨c.n, fp, hn, h1⟩
section
variable {K : KW} {c c' c'' : Cell} {r : List Cell} {v : V} {d : D} {b : Bool} {n i : Nat} {p : Addr} {vs : List V} {ds : List D} {H' F' : Hp}
theorem Rel.sh1 (R : Rel K g σ H) (e : g.tau = c :: r) (hn : c.n ≤ 1) : Sh K g.F H c.v c.d := by
  obtain ⟨ow, h1, h2, h3⟩ := R.ow
  rw [e] at h3
  exact Sh.ofCell h3.1 hn
theorem Rel.sh2 (R : Rel K g σ H) (e : g.tau = c' :: c :: r) (hn : c.n ≤ 1) : Sh K g.F H c.v c.d := by
  obtain ⟨ow, h1, h2, h3⟩ := R.ow
  rw [e] at h3
  exact Sh.ofCell h3.2.1 hn
theorem Rel.sh3 (R : Rel K g σ H) (e : g.tau = c'' :: c' :: c :: r) (hn : c.n ≤ 1) : Sh K g.F H c.v c.d := by
  obtain ⟨ow, h1, h2, h3⟩ := R.ow
  rw [e] at h3
  exact Sh.ofCell h3.2.2.1 hn
theorem Rel.see1 (R : Rel K g σ H) (e : g.tau = c :: r) : Rep K H c.v c.d := by
  obtain ⟨ow, h1, h2, h3⟩ := R.ow
  rw [e] at h3
  exact h3.1.seen R.sF
theorem Rel.see2 (R : Rel K g σ H) (e : g.tau = c' :: c :: r) : Rep K H c.v c.d := by
  obtain ⟨ow, h1, h2, h3⟩ := R.ow
  rw [e] at h3
  exact h3.2.1.seen R.sF
theorem Rel.xpop (R : Rel K g σ H) (e : g.tau = c :: r) : Rel K { g with tau := r } σ H := by
  obtain ⟨a1, a2, a3, a4, a5, a6⟩ := g
  have e : a5 = c :: r := e
  subst e
  exact Rel.pop (g := ⟨a1, a2, a3, a4, r, a6⟩) R
theorem Rel.xpop2 (R : Rel K g σ H) (e : g.tau = c' :: c :: r) : Rel K { g with tau := r } σ H := (R.xpop e).xpop rfl
theorem Rel.xhead0 (R : Rel K g σ H) (e : g.tau = ⟨b, 0, v, d⟩ :: r) : Rep K g.F v d := by
  obtain ⟨ow, h1, h2, h3⟩ := R.ow
  rw [e] at h3
  exact h3.1.rep0
theorem Rel.xpush0 (R : Rel K g σ H) (h : Rep K g.F v d) : Rel K { g with tau := ⟨true, 0, v, d⟩ :: g.tau } σ H := Rel.push0 (g := g) (r := g.tau) R h
theorem Rel.xpush1 (R : Rel K g σ H) (h : Rep K g.F v d) (nl : ∀ ds, d ≠ .lst ds) (nd : isDic d = false) : Rel K { g with tau := ⟨true, 1, v, d⟩ :: g.tau } σ H := Rel.push1 (g := g) (r := g.tau) R h nl nd
theorem Rel.xrest (R : Rel K g σ H) (e : g.tau = ⟨true, n, v, d⟩ :: r) : ∃ F', Rel K { g with F := F', tau := ⟨true, 0, v, d⟩ :: r } σ H ∧ Same g.F F' := by
  obtain ⟨a1, a2, a3, a4, a5, a6⟩ := g
  have e : a5 = _ := e
  subst e
  exact Rel.rest (g := ⟨a1, a2, a3, a4, r, a6⟩) R
theorem Rel.xnewVal (R : Rel K g σ H) (h : NewVal K g.F H v d H') (nl : ∀ ds, d = .lst ds → ∀ a, v = .ref a → H a = none) :
    ∃ F', Same g.F F' ∧ Same H H' ∧ Rel K { g with F := F', tau := ⟨true, 1, v, d⟩ :: g.tau } σ H' := Rel.newVal (g := g) (r := g.tau) R h nl
theorem Rel.xnewList (R : Rel K g σ H) (hp : H p = none) (h : Reps K g.F vs ds) : Rel K { g with tau := ⟨true, 1, .ref p, .lst ds⟩ :: g.tau } σ (upd H p (.lst vs)) := Rel.newList (g := g) (r := g.tau) R hp h
theorem Rel.xnewTup (R : Rel K g σ H) (hp : H p = none) (h : Reps K g.F vs ds) : Rel K { g with F := upd g.F p (.tup vs), tau := ⟨true, 0, .ref p, .tup ds⟩ :: g.tau } σ (upd H p (.tup vs)) := Rel.newTup (g := g) (r := g.tau) R hp h
theorem Rel.xcalled {fp : List Addr} (R : Rel K g σ H) (eH : Same H H') (eF : Same g.F F') (sF : Same F' H') (fr : ∀ p, F' p ≠ none → g.F p ≠ none ∨ H p = none)
    (h : RepO K F' H' n v d fp) (nd : fp.Nodup) (hn : ∀ p ∈ fp, F' p = none ∧ H p = none) : Rel K { g with F := F', tau := ⟨true, n, v, d⟩ :: g.tau } σ H' := Rel.called (g := g) (r := g.tau) R eH eF sF fr h nd hn
theorem Rel.xstore (R : Rel K g σ H) (e : g.tau = ⟨true, n, v, d⟩ :: r) (hi : i < g.rho.length) (hr : r = []) : Rel K { g with T := g.T.set i (some n), tau := r, rho := g.rho.set i (some d) } (σ.set i (some v)) H := by
  obtain ⟨a1, a2, a3, a4, a5, a6⟩ := g
  have e : a5 = _ := e
  subst e
  exact Rel.store (g := ⟨a1, a2, a3, a4, r, a6⟩) R hi hr
end
theorem AftE.exc_of {e : Exn} (h : AftE S g k T' σ H (.exc e) Q) (s : Same H H1) : ∀ cls dd H', Same H1 H' → S.eat e cls dd H' → S.W cls dd σ H' := fun cls dd H' s' x => h cls dd H' (s.trans s') x

/-- one operand, then what is made of it -/
theorem tE_one {f : D → R D} {RR : V → Hp → Prop} (c1 : kE S.L a g.T = some (k1, T1)) (R : Rel S.K g σ H) (h : AftE S g k T' σ H ((evE S.w a g.rho).bind f) Q)
    (fin : ∀ x d1 H1 F1, Same H H1 → Same g.F F1 → Rel S.K { g with F := F1, T := T1, tau := k1.c x d1 :: g.tau } σ H1 → AftE S g k T' σ H (f d1) Q → RR x H1) : tE S a σ H RR := by
  refine ⟨g, k1, T1, c1, R, ?_⟩
  cases e1 : evE S.w a g.rho with
  | ok d1 =>
    rw [e1] at h
    exact fun v H1 F1 s1 f1 R1 => fin v d1 H1 F1 s1 f1 R1 h
  | exc e => rw [e1] at h; exact h
  | bad => rw [e1] at h; exact h.elim
/-- two operands, then what is made of them -/
theorem tE_two {f : D → D → R D} {RR : V → V → Hp → Prop} (c1 : kE S.L a g.T = some (k1, T1)) (c2 : kE S.L b T1 = some (k2, T2)) (R : Rel S.K g σ H)
    (h : AftE S g k T' σ H ((evE S.w a g.rho).bind fun x => (evE S.w b g.rho).bind fun y => f x y) Q)
    (fin : ∀ x y d1 d2 H2 F2, Same H H2 → Same g.F F2 → Rel S.K { g with F := F2, T := T2, tau := k2.c y d2 :: k1.c x d1 :: g.tau } σ H2 → AftE S g k T' σ H (f d1 d2) Q → RR x y H2) :
    tE S a σ H fun x H1 => tE S b σ H1 fun y H2 => RR x y H2 := by
  refine tE_one c1 R h fun x d1 H1 F1 s1 f1 R1 h1 => ?_
  refine ⟨_, k2, T2, c2, R1, ?_⟩
  show AftE S _ k2 T2 σ H1 (evE S.w b g.rho) _
  cases e2 : evE S.w b g.rho with
  | ok d2 =>
    rw [e2] at h1
    exact fun y H2 F2 s2 f2 R2 => fin x y d1 d2 H2 F2 (s1.trans s2) (f1.trans f2) R2 h1
  | exc e => rw [e2] at h1; exact h1.exc_of s1
  | bad => rw [e2] at h1; exact h1.elim
/-- what is new goes on top in place of the operands -/
theorem fin_new {d : D} {F2 H2 : Hp} (s : Same H H2) (f : Same g.F F2) (R : Rel S.K { g with F := F2, T := T' } σ H2) (h : AftE S g ⟨true, 1⟩ T' σ H (.ok d) Q) :
    ∀ v H', NewVal S.K F2 H2 v d H' → (∀ ds, d = .lst ds → ∀ p, v = .ref p → H2 p = none) → Q v H' := fun v H' nv nl => by
  obtain ⟨F', f', s', R'⟩ := R.xnewVal nv nl
  exact h v H' F' (s.trans s') (f.trans f') R'
end

/-! ### names and constants -/
section
variable {S : Sx} {X : Cx} {N : List Str} {nm : Nm}
theorem Good.vis (G : Good S X N nm) {x : Str} (h : visB nm x = true) : Vis X.env.scope x ∧ (x == ("__debug__" : Str)) = false ∧ (x == ("__classdict__" : Str)) = false := by
  unfold visB at h
  simp only [Bool.and_eq_true, Bool.not_eq_true'] at h
  obtain ⟨⟨h1, h2⟩, h3⟩ := h
  refine ⟨?_, h2, h3⟩
  cases e : nm.lookup x with
  | none => rw [e] at h1; cases h1
  | some k =>
    rw [e] at h1
    rcases G.nmk x k e with q | ⟨_, q⟩
    · cases k with
      | «local» => exact .inl q
      | cell => exact .inr (.inl q)
      | free => exact .inr (.inr q)
      | globalExplicit => cases h1
      | globalImplicit => cases h1
    · exact .inr (.inl q)
theorem Good.loc (G : Good S X N nm) {x : Str} (h : locB nm x = true) : Loc X.env.scope x ∧ (X.fn x = true ∨ X.env.scope.names.lookup x = some .local) := by
  unfold locB at h
  cases e : nm.lookup x with
  | none => rw [e] at h; cases h
  | some k =>
    rw [e] at h
    have q := G.nmk x k e
    cases k with
    | «local» =>
      rcases q with q | ⟨z, _⟩
      · exact ⟨.inl q, .inr q⟩
      · cases z
    | cell =>
      rcases q with q | ⟨z, _⟩
      · exact ⟨.inr q, .inl (G.fn x e)⟩
      · cases z
    | free => cases h
    | globalExplicit => cases h
    | globalImplicit => cases h
theorem Good.gl (G : Good S X N nm) {x : Str} (h : glB nm x = true) : Gl X x ∧ (x == ("__debug__" : Str)) = false ∧ x ≠ "__name__" := by
  unfold glB at h
  simp only [Bool.and_eq_true, Bool.not_eq_true', decide_eq_true_eq] at h
  obtain ⟨⟨h1, h2⟩, h3⟩ := h
  refine ⟨?_, h2, fun z => by rw [z] at h3; simp at h3⟩
  rcases G.nmk x _ h1 with q | ⟨z, _⟩
  · exact q
  · cases z
theorem snd_sl (G : Good S X N nm) {i : Nat} {x : Str} {pos : Pos} (h1 : N[i]? = some x) (h2 : visB nm x = true) : PE X (.Name x pos) (tE S (.sl i)) := by
  obtain ⟨v1, v2, v3⟩ := G.vis h2
  refine impE (pe_var (i := i) (by rw [G.hN]; exact h1) v1 v2 v3) ?_
  rintro σ H Q ⟨g, k, T', c, R, h⟩
  have c : (match g.T[i]? with | some (some n) => some ((⟨n == 0, n⟩ : Kd), g.T) | _ => none) = some (k, T') := c
  have h : AftE S g k T' σ H (slotD g.rho i) Q := h
  unfold slotD at h
  split at c
  · rename_i n eT
    cases c
    split at h
    · rename_i d er
      obtain ⟨v, ev⟩ := R.name eT er
      exact ⟨v, ev, h v H g.F (Same.refl _) (Same.refl _) (R.bor eT er ev)⟩
    · exact h.elim
  · cases c
theorem snd_mv (G : Good S X N nm) {i : Nat} {x : Str} {pos : Pos} (h1 : N[i]? = some x) (h2 : visB nm x = true) : PE X (.Name x pos) (tE S (.mv i)) := by
  obtain ⟨v1, v2, v3⟩ := G.vis h2
  refine impE (pe_var (i := i) (by rw [G.hN]; exact h1) v1 v2 v3) ?_
  rintro σ H Q ⟨g, k, T', c, R, h⟩
  have c : (match g.T[i]? with | some (some n) => some ((⟨true, n⟩ : Kd), g.T.set i none) | _ => none) = some (k, T') := c
  have h : AftE S g k T' σ H (slotD g.rho i) Q := h
  unfold slotD at h
  split at c
  · rename_i n eT
    cases c
    split at h
    · rename_i d er
      obtain ⟨v, ev⟩ := R.name eT er
      exact ⟨v, ev, h v H g.F (Same.refl _) (Same.refl _) (R.move eT er ev)⟩
    · exact h.elim
  · cases c
/-- a value at rest that is just there -/
theorem snd_c {c : CE} {e : Expr} {v : V} {d : D} (hp : PE X e (tC v)) (hk : ∀ T, kE S.L c T = some (⟨true, 0⟩, T)) (he : ∀ ρ, evE S.w c ρ = .ok d) (hr : ∀ F, Rep S.K F v d) : PE X e (tE S c) := by
  refine impE hp ?_
  rintro σ H Q ⟨g, k, T', c', R, h⟩
  rw [hk] at c'
  cases c'
  rw [he] at h
  exact h v H g.F (Same.refl _) (Same.refl _) (R.push0 (hr _))
theorem snd_gl (G : Good S X N nm) {i : Nat} {x : Str} {pos : Pos} (h1 : S.L.conN[i]? = some x) (h2 : glB nm x = true) : PE X (.Name x pos) (tE S (.gl i)) := by
  obtain ⟨g1, g2, g3⟩ := G.gl h2
  obtain ⟨u, v, m, r, hr, _⟩ := G.glob.con i x h1
  refine snd_c (v := v) (d := S.L.conD i) (pe_glob g1 m r g2) (fun _ => rfl) (fun _ => rfl) fun F => ?_
  have z := hr F
  rw [G.K] at z
  exact z

/-! ### operators -/
theorem bind2 {α β : Type} {o : Option (α × β)} {γ : Type} {f : α × β → Option γ} {r : γ} (h : o.bind f = some r) : ∃ x y, o = some (x, y) ∧ f (x, y) = some r := by
  cases o with
  | none => cases h
  | some p => exact ⟨p.1, p.2, rfl, h⟩
theorem need_exc {α : Type} {c : Prop} [Decidable c] {r : R α} {e : Exn} (h : R.need c r = .exc e) : r = .exc e := by
  unfold R.need at h
  split at h
  · exact h
  · cases h
theorem bin_exc {op : Operator} {a b : D} {x : Exn} (h : binD op a b = .exc x) : False := by
  cases op <;> first
    | (cases h; done)
    | (cases a <;> cases b <;> first | (cases h; done) | (cases (need_exc h)))
theorem rep_len (s : List Nat) : ∀ n, (rep s n).length = s.length * n
  | 0 => by simp [rep]
  | n + 1 => by rw [rep, List.length_append, rep_len s n, Nat.mul_succ]; omega
theorem rep_mem (s : List Nat) (c : Nat) : ∀ n, c ∈ rep s n → c ∈ s
  | 0, h => by simp [rep] at h
  | n + 1, h => by
    rw [rep] at h
    rcases List.mem_append.mp h with h | h
    · exact h
    · exact rep_mem s c n h
theorem rep_fold (s : List Nat) : ∀ (n : Nat) (acc : Array Nat), (List.replicate n s.toArray).foldl (· ++ ·) acc = acc ++ (rep s n).toArray
  | 0, acc => by simp [rep]
  | n + 1, acc => by
    rw [List.replicate_succ, List.foldl_cons, rep_fold s n, rep]
    simp
theorem rep_mul (s : List Nat) (n : Int) : Txt.mul (mkS s) n = mkS (rep s n.toNat) := by
  unfold Txt.mul
  split
  · have e : n.toNat = 0 := by omega
    rw [e]; rfl
  · split
    · rename_i h1 h2
      simp only [Bool.or_eq_true, beq_iff_eq] at h2
      rcases h2 with h2 | h2
      · subst h2
        show mkS s = mkS (rep s 1)
        simp [rep]
      · have e : s = [] := by
          have h2 : s.toArray.size = 0 := h2
          simpa using h2
        subst e
        have : ∀ n, rep ([] : List Nat) n = [] := fun n => by
          have := rep_len [] n
          simpa using this
        rw [this]
    · show (⟨(List.replicate n.toNat s.toArray).foldl (· ++ ·) #[]⟩ : Str) = _
      rw [rep_fold]
      simp
theorem op_mulD : OpR X (binaryOp .Mult) (rTwo (kwOf X) mulD) := by
  intro pins s σ H x y v u Q I rx ry h
  obtain ⟨F, a, b, d, sF, ha, hb, e, k⟩ := h
  cases a <;> cases b <;> first | (cases e; done) | skip
  · obtain ⟨hc, e⟩ := PV.R.need_eq e
    have e := PV.R.ok.inj e; subst e
    have h1 := ha.int; have h2 := hb.int; subst h1; subst h2
    exact op_mul pins s σ H _ _ v u Q I rx ry ⟨_, _, rfl, rfl, hc, k _ _ (.old (.int _)) (fun _ z => nomatch z)⟩
  · obtain ⟨hc, e⟩ := PV.R.need_eq e
    have e := PV.R.ok.inj e; subst e
    obtain ⟨h1, o1⟩ := ha.str
    have h2 := hb.int
    subst h1; subst h2
    obtain ⟨t, rfl⟩ := rx
    obtain ⟨t', rfl⟩ := ry
    rename_i z i e0
    refine SB.mul (mulOk_of z.length i.toNat (Nat.le_of_eq (by simp [Str.length])) (by omega) (by omega) (by omega) hc.2.2.1) fun t'' kk => ?_
    rw [rep_mul]
    exact ⟨.str (mkS (rep z i.toNat)), H, I.tok _, ⟨_, rfl⟩, k _ _ (.old (.str _ ⟨by rw [rep_len]; exact hc.2.2.2, fun c hm => o1.2 c (rep_mem _ _ _ hm)⟩)) (fun _ z => nomatch z)⟩
theorem op_binD (op : Operator) : OpR X (binaryOp op) (rTwo (kwOf X) (binD op)) := by
  cases op with
  | Add => exact op_addD
  | Sub => exact op_subD
  | Mult => exact op_mulD
  | Mod => exact op_modD
  | FloorDiv => exact op_fdivD
  | Pow => exact op_powD
  | LShift => exact op_shlD
  | RShift => exact op_shrD
  | BitAnd => exact op_andD
  | BitOr => exact op_orD
  | MatMult => exact fun _ _ _ _ _ _ _ _ _ _ _ _ ⟨_, _, _, _, _, _, _, e, _⟩ => nomatch e
  | Div => exact fun _ _ _ _ _ _ _ _ _ _ _ _ ⟨_, _, _, _, _, _, _, e, _⟩ => nomatch e
  | BitXor => exact fun _ _ _ _ _ _ _ _ _ _ _ _ ⟨_, _, _, _, _, _, _, e, _⟩ => nomatch e
theorem snd_bin (G : Good S X N nm) {op : Operator} {a b : CE} {ea eb : Expr} {pos : Pos} (ha : PE X ea (tE S a)) (hb : PE X eb (tE S b)) : PE X (.BinOp ea op eb pos) (tE S (.bin op a b)) := by
  refine impE (pe_op (op_binD op) ha hb) ?_
  rintro σ H Q ⟨g, k, T', c, R, h⟩
  obtain ⟨ka, T1, c1, c⟩ := bind2 c
  obtain ⟨kb, T2, c2, c⟩ := bind2 c
  have c : (if ka.n ≤ 1 ∧ kb.n ≤ 1 then some ((⟨true, 1⟩ : Kd), T2) else none) = some (k, T') := c
  split at c
  · rename_i hn
    cases c
    refine tE_two c1 c2 R h fun x y d1 d2 H2 F2 s f R2 h2 => ?_
    cases e : binD op d1 d2 with
    | ok d =>
      rw [e] at h2
      refine ⟨F2, d1, d2, d, R2.sF, ?_, ?_, e, ?_⟩
      · rw [G.K]; exact R2.sh2 rfl hn.1
      · rw [G.K]; exact R2.sh1 rfl hn.2
      · rw [G.K]
        exact fin_new s f (R2.xpop2 rfl) h2
    | exc x => exact (bin_exc e).elim
    | bad => rw [e] at h2; exact h2.elim
  · cases c
end
end PV
/-! PV8: each form of expression. -/
namespace PV
open PySem PySem.Spec PyProof.Rows L2
section
variable {S : Sx} {X : Cx} {N : List Str} {nm : Nm}

/-! ### tests -/
theorem AftT.exc_of {g : Gh} {T' : Tn} {σ : L2.St} {H H1 : Hp} {Q : Bool → Hp → Prop} {e : Exn} (h : AftT S g T' σ H (.exc e) Q) (s : Same H H1) : ∀ cls dd H', Same H1 H' → S.eat e cls dd H' → S.W cls dd σ H' := fun cls dd H' s' x => h cls dd H' (s.trans s') x
/-- a value's reading, from the test's -/
theorem tE_of_tT {c : CE} {σ : L2.St} {H : Hp} {Q : Bool → Hp → Prop} (h : tT S c σ H Q) : tE S c σ H fun x H1 => ∃ b, x = .bl b ∧ Q b H1 := by
  obtain ⟨g, k, T', c', R, h⟩ := h
  refine ⟨g, k, T', c', R, ?_⟩
  cases e : evE S.w c g.rho with
  | ok d =>
    rw [e] at h
    cases d <;> first | exact h.elim | skip
    rename_i b
    intro v H' F' s f R'
    exact ⟨b, (R'.see1 rfl).bl_inv, h H' F' s f (R'.xpop rfl)⟩
  | exc x => rw [e] at h; exact h
  | bad => rw [e] at h; exact h.elim
theorem snd_val {c : CE} {e : Expr} (h : PE X e (tE S c)) (he : ∀ whole, isTrue e X.env whole = (do let v ← whole; standAt e.pos; holding [v] (truthy v))) : PT X e (tT S c) :=
  impT (pt_val h he) fun _ _ _ q => tE_of_tT q
/-- the answer, in a test, of a condition -/
theorem tT_cont {c : CE} {σ : L2.St} {H : Hp} {g : Gh} {k : Kd} {T1 : Tn} {f : Bool → R D} {k' : Kd} {T' : Tn} {Q : VK} {RR : Bool → Hp → Prop} (c1 : kE S.L c g.T = some (k, T1)) (R : Rel S.K g σ H)
    (h : AftE S g k' T' σ H ((evE S.w c g.rho).bind fun x => match x with | .bl b => f b | _ => .bad) Q)
    (fin : ∀ b H1 F1, Same H H1 → Same g.F F1 → Rel S.K { g with F := F1, T := T1 } σ H1 → AftE S g k' T' σ H (f b) Q → RR b H1) : tT S c σ H RR := by
  refine ⟨g, k, T1, c1, R, ?_⟩
  cases e : evE S.w c g.rho with
  | ok d =>
    rw [e] at h
    cases d <;> first | exact h.elim | skip
    rename_i b
    exact fun H1 F1 s f R1 => fin b H1 F1 s f R1 h
  | exc x => rw [e] at h; exact h
  | bad => rw [e] at h; exact h.elim
theorem tT_contT {c : CE} {σ : L2.St} {H : Hp} {g : Gh} {k : Kd} {T1 : Tn} {f : Bool → R D} {T' : Tn} {Q : Bool → Hp → Prop} {RR : Bool → Hp → Prop} (c1 : kE S.L c g.T = some (k, T1)) (R : Rel S.K g σ H)
    (h : AftT S g T' σ H ((evE S.w c g.rho).bind fun x => match x with | .bl b => f b | _ => .bad) Q)
    (fin : ∀ b H1 F1, Same H H1 → Same g.F F1 → Rel S.K { g with F := F1, T := T1 } σ H1 → AftT S g T' σ H (f b) Q → RR b H1) : tT S c σ H RR := by
  refine ⟨g, k, T1, c1, R, ?_⟩
  cases e : evE S.w c g.rho with
  | ok d =>
    rw [e] at h
    cases d <;> first | exact h.elim | skip
    rename_i b
    exact fun H1 F1 s f R1 => fin b H1 F1 s f R1 h
  | exc x => rw [e] at h; exact h
  | bad => rw [e] at h; exact h.elim
theorem AftE.up {g : Gh} {k : Kd} {T' T1 : Tn} {σ : L2.St} {H H1 : Hp} {F1 : Hp} {r : R D} {Q : VK} (h : AftE S g k T' σ H r Q) (s : Same H H1) (f : Same g.F F1) : AftE S { g with F := F1, T := T1 } k T' σ H1 r Q := by
  cases r with
  | ok d => exact fun v H' F' s' f' R' => h v H' F' (s.trans s') (f.trans f') R'
  | exc e => exact h.exc_of s
  | bad => exact h.elim
theorem AftT.up {g : Gh} {T' T1 : Tn} {σ : L2.St} {H H1 : Hp} {F1 : Hp} {r : R D} {Q : Bool → Hp → Prop} (h : AftT S g T' σ H r Q) (s : Same H H1) (f : Same g.F F1) : AftT S { g with F := F1, T := T1 } T' σ H1 r Q := by
  cases r with
  | ok d =>
    cases d <;> first | exact h.elim | skip
    exact fun H' F' s' f' R' => h H' F' (s.trans s') (f.trans f') R'
  | exc e => exact h.exc_of s
  | bad => exact h.elim
/-- a truth value told -/
theorem fin_bl {g : Gh} {T' : Tn} {σ : L2.St} {H H1 : Hp} {F1 : Hp} {b : Bool} {Q : VK} (h : AftE S g ⟨true, 0⟩ T' σ H (.ok (.bl b)) Q) (s : Same H H1) (f : Same g.F F1) (R1 : Rel S.K { g with F := F1, T := T' } σ H1) : Q (.bl b) H1 :=
  h _ H1 F1 s f (R1.xpush0 (.bl b))

theorem bnotE {r : R D} : bnot r = r.bind fun x => match x with | .bl b => .ok (.bl (!b)) | _ => .bad := by
  cases r with
  | ok d => cases d <;> rfl
  | exc e => rfl
  | bad => rfl
theorem snd_not {a : CE} {e : Expr} {pos : Pos} (ha : PE X e (tE S a)) : PE X (.UnaryOp .Not e pos) (tE S (.not a)) := by
  refine impE (pe_not ha) ?_
  rintro σ H Q ⟨g, k, T', c, R, h⟩
  obtain ⟨ka, T1, c1, c⟩ := bind2 c
  cases c
  have h : AftE S g ⟨true, 0⟩ T' σ H (bnot (evE S.w a g.rho)) Q := h
  rw [bnotE] at h
  refine tE_one c1 R h fun x d H1 F1 s f R1 h1 => ?_
  cases d <;> first | exact h1.elim | skip
  rename_i b
  exact ⟨b, (R1.see1 rfl).bl_inv, fin_bl h1 s f (R1.xpop rfl)⟩
theorem snd_notT {a : CE} {e : Expr} {pos : Pos} (ha : PT X e (tT S a)) : PT X (.UnaryOp .Not e pos) (tT S (.not a)) := by
  refine impT (pt_not ha) ?_
  rintro σ H Q ⟨g, k, T', c, R, h⟩
  obtain ⟨ka, T1, c1, c⟩ := bind2 c
  cases c
  have h : AftT S g T' σ H (bnot (evE S.w a g.rho)) Q := h
  rw [bnotE] at h
  exact tT_contT c1 R h fun b H1 F1 s f R1 h1 => h1 H1 F1 s f R1
theorem snd_neg {a : CE} {e : Expr} {pos : Pos} (ha : PE X e (tE S a)) : PE X (.UnaryOp .USub e pos) (tE S (.neg a)) := by
  refine impE (pe_un un_neg ha) ?_
  rintro σ H Q ⟨g, k, T', c, R, h⟩
  obtain ⟨ka, T1, c1, c⟩ := bind2 c
  have c : (if ka.n ≤ 1 then some ((⟨true, 0⟩ : Kd), T1) else none) = some (k, T') := c
  split at c
  · cases c
    refine tE_one c1 R h fun x d H1 F1 s f R1 h1 => ?_
    cases d <;> first | exact h1.elim | skip
    rename_i i
    exact ⟨i, (R1.see1 rfl).int_inv, h1 _ H1 F1 s f ((R1.xpop rfl).xpush0 (.int _))⟩
  · cases c
theorem Good.Kf (G : Good S X N nm) : X.K = S.K.fr := congrArg KW.fr G.K
theorem Good.units (G : Good S X N nm) : X.A.units + 100 < cLine := by have := G.room.un; omega
theorem cmp_exc {op : CmpOp} {a b : D} {x : Exn} (h : cmpD op a b = .exc x) : False := by
  have hin : ∀ {b : D}, inD a b = .exc x → False := fun {b} h => by
    cases b <;> first
      | (cases h; done)
      | (cases (need_exc h); done)
      | (rename_i s
         have h : inS a s = .exc x := h
         unfold inS at h
         split at h <;> cases h)
  cases op <;> first
    | (cases a <;> cases b <;> first | (cases h; done) | (cases (need_exc h); done))
    | exact hin h
    | (have h : bnot (inD a b) = .exc x := h
       cases e : inD a b with
       | ok d => rw [e] at h; cases d <;> cases h
       | exc y => exact hin (e.trans (by rw [e] at h; exact h))
       | bad => rw [e] at h; cases h)
theorem cmp_bl {op : CmpOp} {a b d : D} (h : cmpD op a b = .ok d) : ∃ k, d = .bl k := by
  have hin : ∀ {b d : D}, inD a b = .ok d → ∃ k, d = .bl k := fun {b d} h => by
    cases b <;> first
      | (cases h; done)
      | exact ⟨_, (R.ok.inj (R.need_eq h).2).symm⟩
      | (rename_i s
         have h : inS a s = .ok d := h
         unfold inS at h
         split at h
         · exact ⟨_, (R.ok.inj h).symm⟩
         · cases h)
  cases op <;> first
    | (cases a <;> cases b <;> first | (cases h; done) | exact ⟨_, (R.ok.inj h).symm⟩ | exact ⟨_, (R.ok.inj (R.need_eq h).2).symm⟩)
    | exact hin h
    | exact let ⟨b, _, e⟩ := bnot_ok h; ⟨_, e⟩
theorem snd_cmp (G : Good S X N nm) {op : CmpOp} {a b : CE} {ea eb : Expr} {pos : Pos} (ha : PE X ea (tE S a)) (hb : PE X eb (tE S b)) (hm : behindInMarks op eb = false) : PE X (.Compare ea [op] [eb] pos) (tE S (.cmp op a b)) := by
  refine impE (pe_cmpR (op_cmpD op G.units) ha hb hm) ?_
  rintro σ H Q ⟨g, k, T', c, R, h⟩
  obtain ⟨ka, T1, c1, c⟩ := bind2 c
  obtain ⟨kb, T2, c2, c⟩ := bind2 c
  cases c
  refine tE_two c1 c2 R h fun x y d1 d2 H2 F2 s f R2 h2 => ?_
  cases e : cmpD op d1 d2 with
  | ok d =>
    rw [e] at h2
    obtain ⟨b, rfl⟩ := cmp_bl e
    refine ⟨d1, d2, _, ?_, ?_, e, fun v hv => ?_⟩
    · rw [G.K]; exact R2.see2 rfl
    · rw [G.K]; exact R2.see1 rfl
    · rw [hv.bl_inv]
      exact fin_bl h2 s f (R2.xpop2 rfl)
  | exc x => exact (cmp_exc e).elim
  | bad => rw [e] at h2; exact h2.elim
theorem snd_cmpT (G : Good S X N nm) {op : CmpOp} {a b : CE} {ea eb : Expr} {pos : Pos} (ha : PE X ea (tE S a)) (hb : PE X eb (tE S b)) (hm : behindInMarks op eb = false) : PT X (.Compare ea [op] [eb] pos) (tT S (.cmp op a b)) := by
  refine impT (pt_cmpR (op_cmpD op G.units) ha hb hm) ?_
  rintro σ H Q q
  have q := tE_of_tT q
  obtain ⟨g, k, T', c, R, h⟩ := q
  obtain ⟨ka, T1, c1, c⟩ := bind2 c
  obtain ⟨kb, T2, c2, c⟩ := bind2 c
  cases c
  refine tE_two c1 c2 R h fun x y d1 d2 H2 F2 s f R2 h2 => ?_
  cases e : cmpD op d1 d2 with
  | ok d =>
    rw [e] at h2
    obtain ⟨b, rfl⟩ := cmp_bl e
    refine ⟨d1, d2, _, ?_, ?_, e, fun v hv => ?_⟩
    · rw [G.K]; exact R2.see2 rfl
    · rw [G.K]; exact R2.see1 rfl
    · rw [hv.bl_inv]
      exact fin_bl (Q := fun x H1 => ∃ b, x = .bl b ∧ Q b H1) h2 s f (R2.xpop2 rfl)
  | exc x => exact (cmp_exc e).elim
  | bad => rw [e] at h2; exact h2.elim
/-- a op1 b op2 c -/
theorem tE_cmp2 (G : Good S X N nm) {o1 o2 : CmpOp} {a b c : CE} {σ : L2.St} {H : Hp} {Q : VK} (h : tE S (.cmp2 o1 o2 a b c) σ H Q) :
    tChain (rSee (kwOf X) (cmpD o1)) (rSee (kwOf X) (cmpD o2)) (tE S a) (tE S b) (tE S c) σ H Q := by
  obtain ⟨g, k, T', c', R, h⟩ := h
  obtain ⟨ka, T1, c1, c'⟩ := bind2 c'
  obtain ⟨kb, T2, c2, c'⟩ := bind2 c'
  obtain ⟨kc, T3, c3, c'⟩ := bind2 c'
  have c' : (if T3 = T2 then some ((⟨true, 0⟩ : Kd), T2) else none) = some (k, T') := c'
  split at c'
  · rename_i e3
    cases c'
    subst e3
    refine tE_two c1 c2 R h fun x y d1 d2 H2 F2 s f R2 h2 => ?_
    cases e : cmpD o1 d1 d2 with
    | ok d =>
      rw [e] at h2
      obtain ⟨b1, rfl⟩ := cmp_bl e
      refine ⟨d1, d2, _, ?_, ?_, e, fun v hv => ⟨b1, hv.bl_inv, ?_⟩⟩
      · rw [G.K]; exact R2.see2 rfl
      · rw [G.K]; exact R2.see1 rfl
      · cases b1 with
        | false =>
          rw [if_neg Bool.false_ne_true]
          exact fin_bl h2 s f (R2.xpop2 rfl)
        | true =>
          rw [if_pos rfl]
          have h2 : AftE S g ⟨true, 0⟩ T3 σ H ((evE S.w c g.rho).bind fun u => cmpD o2 d2 u) Q := h2
          refine ⟨_, kc, T3, c3, R2, ?_⟩
          show AftE S _ kc T3 σ H2 (evE S.w c g.rho) _
          cases e5 : evE S.w c g.rho with
          | ok d3 =>
            rw [e5] at h2
            have h2 : AftE S g ⟨true, 0⟩ T3 σ H (cmpD o2 d2 d3) Q := h2
            intro z H3 F3 s3 f3 R3
            cases e6 : cmpD o2 d2 d3 with
            | ok d =>
              rw [e6] at h2
              obtain ⟨b2, rfl⟩ := cmp_bl e6
              refine ⟨d2, d3, _, ?_, ?_, e6, fun v hv => ?_⟩
              · rw [G.K]; exact R3.see2 rfl
              · rw [G.K]; exact R3.see1 rfl
              · rw [hv.bl_inv]
                exact fin_bl h2 (s.trans s3) (f.trans f3) ((R3.xpop2 rfl).xpop rfl)
            | exc x => exact (cmp_exc e6).elim
            | bad => rw [e6] at h2; exact h2.elim
          | exc x => rw [e5] at h2; exact h2.exc_of s
          | bad => rw [e5] at h2; exact h2.elim
    | exc x => exact (cmp_exc e).elim
    | bad => rw [e] at h2; exact h2.elim
  · cases c'
theorem snd_cmp2 (G : Good S X N nm) {o1 o2 : CmpOp} {a b c : CE} {ea eb ec : Expr} {pos : Pos} (ha : PE X ea (tE S a)) (hb : PE X eb (tE S b)) (hc : PE X ec (tE S c)) (hm : lastMarks [o1, o2] [eb, ec] = false) :
    PE X (.Compare ea [o1, o2] [eb, ec] pos) (tE S (.cmp2 o1 o2 a b c)) := impE (pe_chain (op_cmpD o1 G.units) (op_cmpD o2 G.units) ha hb hc hm) fun _ _ _ q => tE_cmp2 G q
theorem snd_cmp2T (G : Good S X N nm) {o1 o2 : CmpOp} {a b c : CE} {ea eb ec : Expr} {pos : Pos} (ha : PE X ea (tE S a)) (hb : PE X eb (tE S b)) (hc : PE X ec (tE S c)) (hm : lastMarks [o1, o2] [eb, ec] = false) :
    PT X (.Compare ea [o1, o2] [eb, ec] pos) (tT S (.cmp2 o1 o2 a b c)) := impT (pt_chain (op_cmpD o1 G.units) (op_cmpD o2 G.units) ha hb hc hm) fun _ _ _ q => tE_cmp2 G (tE_of_tT q)

/-! ### and, or, if -/
theorem andE {w : Wld} {a b : CE} {ρ : Env} : evE w (.and a b) ρ = (evE w a ρ).bind fun x => match x with | .bl k => (if k = true then asB (evE w b ρ) else .ok (.bl false)) | _ => .bad := by
  show (evE w a ρ).bind _ = _
  congr 1
  funext x
  cases x <;> first | rfl | (rename_i k; cases k <;> rfl)
theorem orE {w : Wld} {a b : CE} {ρ : Env} : evE w (.or a b) ρ = (evE w a ρ).bind fun x => match x with | .bl k => (if k = true then .ok (.bl true) else asB (evE w b ρ)) | _ => .bad := by
  show (evE w a ρ).bind _ = _
  congr 1
  funext x
  cases x <;> first | rfl | (rename_i k; cases k <;> rfl)
theorem iteE {w : Wld} {c a b : CE} {ρ : Env} : evE w (.ite c a b) ρ = (evE w c ρ).bind fun x => match x with | .bl k => (if k = true then evE w a ρ else evE w b ρ) | _ => .bad := by
  show (evE w c ρ).bind _ = _
  congr 1
  funext x
  cases x <;> first | rfl | (rename_i k; cases k <;> rfl)
/-- a truth value goes on as one at rest -/
theorem AftE.asB {g : Gh} {k : Kd} {T' : Tn} {σ : L2.St} {H : Hp} {r : R D} {Q : VK} (h : AftE S g ⟨true, 0⟩ T' σ H (asB r) Q) : AftE S g k T' σ H r Q := by
  cases r with
  | ok d =>
    cases d <;> first | exact h.elim | skip
    intro v H' F' s f R'
    have e := (R'.see1 rfl).bl_inv
    have e : v = _ := e
    subst e
    exact h _ H' F' s f ((R'.xpop rfl).xpush0 (.bl _))
  | exc e => exact h
  | bad => exact h
theorem AftT.asB {g : Gh} {T' : Tn} {σ : L2.St} {H : Hp} {r : R D} {Q : Bool → Hp → Prop} (h : AftT S g T' σ H (asB r) Q) : AftT S g T' σ H r Q := by
  cases r with
  | ok d => cases d <;> first | exact h.elim | exact h
  | exc e => exact h
  | bad => exact h
theorem snd_and {a b : CE} {x y : Expr} {r : List Expr} {pos : Pos} (ha : PE X x (tE S a)) (hb : PE X (.BoolOp .And (y :: r) pos) (tE S b)) : PE X (.BoolOp .And (x :: y :: r) pos) (tE S (.and a b)) := by
  refine impE (pe_and ha hb) ?_
  rintro σ H Q ⟨g, k, T', c, R, h⟩
  obtain ⟨ka, T1, c1, c⟩ := bind2 c
  obtain ⟨kb, T2, c2, c⟩ := bind2 c
  have c : (if T2 = T1 then some ((⟨true, 0⟩ : Kd), T1) else none) = some (k, T') := c
  split at c
  · rename_i e2
    cases c
    subst e2
    rw [andE] at h
    refine tE_one c1 R h fun v d H1 F1 s f R1 h1 => ?_
    cases d <;> first | exact h1.elim | skip
    rename_i b1
    refine ⟨b1, (R1.see1 rfl).bl_inv, ?_⟩
    have h1 : AftE S g ⟨true, 0⟩ T2 σ H (if b1 = true then asB (evE S.w b g.rho) else .ok (.bl false)) Q := h1
    cases b1 with
    | true =>
      rw [if_pos rfl] at h1 ⊢
      exact ⟨_, kb, T2, c2, R1.xpop rfl, h1.asB.up s f⟩
    | false =>
      rw [if_neg Bool.false_ne_true] at h1 ⊢
      exact fin_bl h1 s f (R1.xpop rfl)
  · cases c
theorem snd_or {a b : CE} {x y : Expr} {r : List Expr} {pos : Pos} (ha : PE X x (tE S a)) (hb : PE X (.BoolOp .Or (y :: r) pos) (tE S b)) : PE X (.BoolOp .Or (x :: y :: r) pos) (tE S (.or a b)) := by
  refine impE (pe_or ha hb) ?_
  rintro σ H Q ⟨g, k, T', c, R, h⟩
  obtain ⟨ka, T1, c1, c⟩ := bind2 c
  obtain ⟨kb, T2, c2, c⟩ := bind2 c
  have c : (if T2 = T1 then some ((⟨true, 0⟩ : Kd), T1) else none) = some (k, T') := c
  split at c
  · rename_i e2
    cases c
    subst e2
    rw [orE] at h
    refine tE_one c1 R h fun v d H1 F1 s f R1 h1 => ?_
    cases d <;> first | exact h1.elim | skip
    rename_i b1
    refine ⟨b1, (R1.see1 rfl).bl_inv, ?_⟩
    have h1 : AftE S g ⟨true, 0⟩ T2 σ H (if b1 = true then .ok (.bl true) else asB (evE S.w b g.rho)) Q := h1
    cases b1 with
    | false =>
      rw [if_neg Bool.false_ne_true] at h1 ⊢
      exact ⟨_, kb, T2, c2, R1.xpop rfl, h1.asB.up s f⟩
    | true =>
      rw [if_pos rfl] at h1 ⊢
      exact fin_bl h1 s f (R1.xpop rfl)
  · cases c
theorem snd_andT {a b : CE} {x y : Expr} {r : List Expr} {pos : Pos} (ha : PT X x (tT S a)) (hb : PW X (.BoolOp .And (y :: r) pos) (tT S b)) : PW X (.BoolOp .And (x :: y :: r) pos) (tT S (.and a b)) := by
  refine impW (pw_and ha hb) ?_
  rintro σ H Q ⟨g, k, T', c, R, h⟩
  obtain ⟨ka, T1, c1, c⟩ := bind2 c
  obtain ⟨kb, T2, c2, c⟩ := bind2 c
  have c : (if T2 = T1 then some ((⟨true, 0⟩ : Kd), T1) else none) = some (k, T') := c
  split at c
  · rename_i e2
    cases c
    subst e2
    rw [andE] at h
    refine tT_contT (f := fun k => if k = true then asB (evE S.w b g.rho) else .ok (.bl false)) c1 R h fun b1 H1 F1 s f R1 h1 => ?_
    cases b1 with
    | true =>
      rw [if_pos rfl] at h1 ⊢
      exact ⟨_, kb, T2, c2, R1, h1.asB.up s f⟩
    | false =>
      rw [if_neg Bool.false_ne_true] at h1 ⊢
      exact h1 H1 F1 s f R1
  · cases c
theorem snd_orT {a b : CE} {x y : Expr} {r : List Expr} {pos : Pos} (ha : PT X x (tT S a)) (hb : PW X (.BoolOp .Or (y :: r) pos) (tT S b)) : PW X (.BoolOp .Or (x :: y :: r) pos) (tT S (.or a b)) := by
  refine impW (pw_or ha hb) ?_
  rintro σ H Q ⟨g, k, T', c, R, h⟩
  obtain ⟨ka, T1, c1, c⟩ := bind2 c
  obtain ⟨kb, T2, c2, c⟩ := bind2 c
  have c : (if T2 = T1 then some ((⟨true, 0⟩ : Kd), T1) else none) = some (k, T') := c
  split at c
  · rename_i e2
    cases c
    subst e2
    rw [orE] at h
    refine tT_contT (f := fun k => if k = true then .ok (.bl true) else asB (evE S.w b g.rho)) c1 R h fun b1 H1 F1 s f R1 h1 => ?_
    cases b1 with
    | false =>
      rw [if_neg Bool.false_ne_true] at h1 ⊢
      exact ⟨_, kb, T2, c2, R1, h1.asB.up s f⟩
    | true =>
      rw [if_pos rfl] at h1 ⊢
      exact h1 H1 F1 s f R1
  · cases c
theorem snd_oneE {a : CE} {e e' : Expr} (h : PE X e (tE S a) → PE X e' (tE S a)) (ha : PE X e (tE S a)) : PE X e' (tE S (.one a)) := by
  refine impE (h ha) ?_
  rintro σ H Q ⟨g, k, T', c, R, h⟩
  obtain ⟨ka, T1, c1, c⟩ := bind2 c
  cases c
  exact ⟨g, ka, T', c1, R, AftE.asB h⟩
theorem snd_oneW {a : CE} {e e' : Expr} (h : PT X e (tT S a) → PW X e' (tT S a)) (ha : PT X e (tT S a)) : PW X e' (tT S (.one a)) := by
  refine impW (h ha) ?_
  rintro σ H Q ⟨g, k, T', c, R, h⟩
  obtain ⟨ka, T1, c1, c⟩ := bind2 c
  cases c
  exact ⟨g, ka, T', c1, R, AftT.asB h⟩
theorem snd_ite {c a b : CE} {t x y : Expr} {pos : Pos} (hc : PT X t (tT S c)) (ha : PE X x (tE S a)) (hb : PE X y (tE S b)) : PE X (.IfExp t x y pos) (tE S (.ite c a b)) := by
  refine impE (pe_ifExp hc ha hb) ?_
  rintro σ H Q ⟨g, k, T', c', R, h⟩
  obtain ⟨kc, T1, c1, c'⟩ := bind2 c'
  obtain ⟨ka, T2, c2, c'⟩ := bind2 c'
  obtain ⟨kb, T3, c3, c'⟩ := bind2 c'
  have c' : (if T2 = T1 ∧ T3 = T1 ∧ ka = kb then some (ka, T1) else none) = some (k, T') := c'
  split at c'
  · rename_i e2
    cases c'
    obtain ⟨e2, e3, e4⟩ := e2
    subst e2 e3 e4
    rw [iteE] at h
    refine tT_cont (f := fun k => if k = true then evE S.w a g.rho else evE S.w b g.rho) c1 R h fun b1 H1 F1 s f R1 h1 => ?_
    cases b1 with
    | true =>
      rw [if_pos rfl] at h1 ⊢
      exact ⟨_, _, _, c2, R1, h1.up s f⟩
    | false =>
      rw [if_neg Bool.false_ne_true] at h1 ⊢
      exact ⟨_, _, _, c3, R1, h1.up s f⟩
  · cases c'

/-! ### argument lists -/
theorem cells_own {K : KW} : ∀ {ks : List Kd} {vs : List V} {ds : List D} {t : List Cell}, ks.length = ds.length → vs.length = ds.length → cells ks vs ds t = (cells ks vs ds []) ++ t
  | [], [], [], t, _, _ => rfl
  | k :: ks, v :: vs, d :: ds, t, h1, h2 => by
    show cells ks vs ds (k.c v d :: t) = cells ks vs ds [k.c v d] ++ t
    rw [cells_own (K := K) (by simpa using h1) (by simpa using h2), cells_own (K := K) (t := [k.c v d]) (by simpa using h1) (by simpa using h2), List.append_assoc]
    rfl
  | [], _ :: _, [], _, _, h => by simp at h
  | [], [], _ :: _, _, h, _ => by simp at h
  | [], _ :: _, _ :: _, _, h, _ => by simp at h
  | _ :: _, _, [], _, h, _ => by simp at h
  | _ :: _, [], _ :: _, _, _, h => by simp at h
theorem snd_nil : PA X [] (tL S .nil) := by
  refine impA pa_nil ?_
  rintro σ H Q ⟨g, k, T', c, R, h⟩
  cases c
  exact h [] H g.F (Same.refl _) (Same.refl _) rfl rfl R
theorem snd_cons {c : CE} {r : CL} {e : Expr} {es : List Expr} (ha : PE X e (tE S c)) (hr : PA X es (tL S r)) (hs : starEach (e :: es) X.env = (false, eval e X.env) :: starEach es X.env) : PA X (e :: es) (tL S (.cons c r)) := by
  refine impA (pa_cons ha hr hs) ?_
  rintro σ H Q ⟨g, ks, T', c', R, h⟩
  obtain ⟨k1, T1, c1, c'⟩ := bind2 c'
  obtain ⟨k2, T2, c2, c'⟩ := bind2 c'
  cases c'
  have h : AftL S g (k1 :: k2) T' σ H ((evE S.w c g.rho).bind fun d => (evL S.w r g.rho).bind fun ds => .ok (d :: ds)) Q := h
  refine ⟨g, k1, T1, c1, R, ?_⟩
  cases e1 : evE S.w c g.rho with
  | ok d =>
    rw [e1] at h
    intro v H1 F1 s1 f1 R1
    refine ⟨_, k2, T', c2, R1, ?_⟩
    show AftL S _ k2 T' σ H1 (evL S.w r g.rho) _
    have h : AftL S g (k1 :: k2) T' σ H ((evL S.w r g.rho).bind fun ds => .ok (d :: ds)) Q := h
    cases e2 : evL S.w r g.rho with
    | ok ds =>
      rw [e2] at h
      intro vs H2 F2 s2 f2 l1 l2 R2
      exact h (v :: vs) H2 F2 (s1.trans s2) (f1.trans f2) (congrArg Nat.succ l1) (congrArg Nat.succ l2) R2
    | exc x =>
      rw [e2] at h
      exact fun cls dd H' s' y => h cls dd H' (s1.trans s') y
    | bad => rw [e2] at h; exact h.elim
  | exc x => rw [e1] at h; exact h
  | bad => rw [e1] at h; exact h.elim
end
end PV
/-! PV9: displays, subscripts, calls, comprehensions. -/
namespace PV
open PySem PySem.Spec PyProof.Rows L2
section
variable {S : Sx} {X : Cx} {N : List Str} {nm : Nm} {g : Gh} {σ : L2.St} {H : Hp}

/-! ### the values on the way, together -/
theorem rest_cells {K : KW} : ∀ {ks : List Kd} {vs : List V} {ds : List D} {t : List Cell} {g : Gh}, Rel K g σ H → g.tau = cells ks vs ds t → ks.all (·.own) = true → ks.length = ds.length → vs.length = ds.length →
    ∃ F', Rel K { g with F := F', tau := t } σ H ∧ Same g.F F' ∧ Reps K F' vs ds
  | [], [], [], t, g, R, e, _, _, _ => by
    have e : g.tau = t := e
    subst e
    exact ⟨g.F, R, Same.refl _, .nil⟩
  | k :: ks, v :: vs, d :: ds, t, g, R, e, hk, h1, h2 => by
    simp only [List.all_cons, Bool.and_eq_true] at hk
    obtain ⟨F1, R1, f1, r1⟩ := rest_cells (t := k.c v d :: t) R e hk.2 (by simpa using h1) (by simpa using h2)
    obtain ⟨ko, kn⟩ := k
    have ko : ko = true := hk.1
    subst ko
    obtain ⟨F2, R2, f2⟩ := R1.xrest rfl
    exact ⟨F2, R2.xpop rfl, f1.trans f2, .cons (R2.xhead0 rfl) (r1.up f2)⟩
  | [], _ :: _, [], _, _, _, _, _, _, h => by simp at h
  | [], [], _ :: _, _, _, _, _, _, h, _ => by simp at h
  | [], _ :: _, _ :: _, _, _, _, _, _, h, _ => by simp at h
  | _ :: _, _, [], _, _, _, _, _, h, _ => by simp at h
  | _ :: _, [], _ :: _, _, _, _, _, _, _, h => by simp at h
theorem see_cells {K : KW} : ∀ {ks : List Kd} {vs : List V} {ds : List D} {t : List Cell} {g : Gh}, Rel K g σ H → g.tau = cells ks vs ds t → ks.length = ds.length → vs.length = ds.length → Rel K { g with tau := t } σ H ∧ Reps K H vs ds
  | [], [], [], t, g, R, e, _, _ => by
    have e : g.tau = t := e
    subst e
    exact ⟨R, .nil⟩
  | k :: ks, v :: vs, d :: ds, t, g, R, e, h1, h2 => by
    obtain ⟨R1, r1⟩ := see_cells (t := k.c v d :: t) R e (by simpa using h1) (by simpa using h2)
    exact ⟨R1.xpop rfl, .cons (R1.see1 rfl) r1⟩
  | [], _ :: _, [], _, _, _, _, _, h => by simp at h
  | [], [], _ :: _, _, _, _, _, h, _ => by simp at h
  | [], _ :: _, _ :: _, _, _, _, _, h, _ => by simp at h
  | _ :: _, _, [], _, _, _, _, h, _ => by simp at h
  | _ :: _, [], _ :: _, _, _, _, _, _, h => by simp at h
theorem sh_cells {K : KW} : ∀ {ks : List Kd} {vs : List V} {ds : List D} {t : List Cell} {g : Gh}, Rel K g σ H → g.tau = cells ks vs ds t → ks.all (·.n ≤ 1) = true → ks.length = ds.length → vs.length = ds.length →
    Rel K { g with tau := t } σ H ∧ Paired (fun v d => Sh K g.F H v d) vs ds
  | [], [], [], t, g, R, e, _, _, _ => by
    have e : g.tau = t := e
    subst e
    exact ⟨R, .nil⟩
  | k :: ks, v :: vs, d :: ds, t, g, R, e, hk, h1, h2 => by
    simp only [List.all_cons, Bool.and_eq_true, decide_eq_true_eq] at hk
    obtain ⟨R1, r1⟩ := sh_cells (t := k.c v d :: t) R e (by simpa using hk.2) (by simpa using h1) (by simpa using h2)
    exact ⟨R1.xpop rfl, .cons (R1.sh1 rfl hk.1) r1⟩
  | [], _ :: _, [], _, _, _, _, _, _, h => by simp at h
  | [], [], _ :: _, _, _, _, _, _, h, _ => by simp at h
  | [], _ :: _, _ :: _, _, _, _, _, _, h, _ => by simp at h
  | _ :: _, _, [], _, _, _, _, _, h, _ => by simp at h
  | _ :: _, [], _ :: _, _, _, _, _, _, _, h => by simp at h

/-- the arguments, then what is made of them -/
theorem tL_all {xs : CL} {f : List D → R D} {k : Kd} {T' T1 : Tn} {ks : List Kd} {Q : VK} {RR : List V → Hp → Prop} (c1 : kL S.L xs g.T = some (ks, T1)) (R : Rel S.K g σ H) (h : AftE S g k T' σ H ((evL S.w xs g.rho).bind f) Q)
    (fin : ∀ vs ds H1 F1, Same H H1 → Same g.F F1 → ks.length = ds.length → vs.length = ds.length → Rel S.K { g with F := F1, T := T1, tau := cells ks vs ds g.tau } σ H1 → AftE S g k T' σ H (f ds) Q → RR vs H1) : tL S xs σ H RR := by
  refine ⟨g, ks, T1, c1, R, ?_⟩
  cases e1 : evL S.w xs g.rho with
  | ok ds =>
    rw [e1] at h
    exact fun vs H1 F1 s1 f1 l1 l2 R1 => fin vs ds H1 F1 s1 f1 l1 l2 R1 h
  | exc e => rw [e1] at h; exact h
  | bad => rw [e1] at h; exact h.elim

/-! ### displays -/
theorem len_line {n : Nat} (h : n ≤ sizeLine) : n ≤ sizeLine := h
theorem snd_tup {xs : CL} {es : List Expr} {x1 : Nat} {pos : Pos} (h0 : PA X es (tL S xs)) : PE X (.Tuple es x1 pos) (tE S (.tup xs)) := by
  refine impE (pe_tup h0) ?_
  rintro σ H Q ⟨g, k, T', c, R, h⟩
  obtain ⟨ks, T1, c1, c⟩ := bind2 c
  have c : (if ks.all (·.own) then some ((⟨true, 0⟩ : Kd), T1) else none) = some (k, T') := c
  split at c
  · rename_i ho
    cases c
    have h : AftE S g ⟨true, 0⟩ T' σ H ((evL S.w xs g.rho).bind fun ds => .need (ds.length ≤ LIM) (.ok (.tup ds))) Q := h
    refine tL_all c1 R h fun vs ds H1 F1 s f l1 l2 R1 h1 => ?_
    obtain ⟨F2, R2, f2, r2⟩ := rest_cells R1 rfl ho l1 l2
    by_cases z : ds.length ≤ LIM
    · rw [PV.R.need_ok z] at h1
      refine ⟨by rw [l2]; exact z, fun p hp => ?_⟩
      exact h1 _ _ _ (s.trans fun a o e => by rw [upd_ne (ne_of_none e hp)]; exact e) ((f.trans f2).trans fun a o e => by rw [upd_ne (ne_of_none e (R2.free hp).2)]; exact e) (R2.xnewTup hp r2)
    · unfold PV.R.need at h1
      rw [if_neg z] at h1
      exact h1.elim
  · cases c
theorem snd_lst {xs : CL} {es : List Expr} {pos : Pos} (h0 : PA X es (tL S xs)) : PE X (.List es pos) (tE S (.lst xs)) := by
  refine impE (pe_lst h0) ?_
  rintro σ H Q ⟨g, k, T', c, R, h⟩
  obtain ⟨ks, T1, c1, c⟩ := bind2 c
  have c : (if ks.all (·.own) then some ((⟨true, 1⟩ : Kd), T1) else none) = some (k, T') := c
  split at c
  · rename_i ho
    cases c
    have h : AftE S g ⟨true, 1⟩ T' σ H ((evL S.w xs g.rho).bind fun ds => .need (ds.length ≤ LIM) (.ok (.lst ds))) Q := h
    refine tL_all c1 R h fun vs ds H1 F1 s f l1 l2 R1 h1 => ?_
    obtain ⟨F2, R2, f2, r2⟩ := rest_cells R1 rfl ho l1 l2
    by_cases z : ds.length ≤ LIM
    · rw [PV.R.need_ok z] at h1
      refine ⟨by rw [l2]; exact z, fun p hp => ?_⟩
      exact h1 _ _ _ (s.trans fun a o e => by rw [upd_ne (ne_of_none e hp)]; exact e) (f.trans f2) (R2.xnewList hp r2)
    · unfold PV.R.need at h1
      rw [if_neg z] at h1
      exact h1.elim
  · cases c

/-! ### subscripts -/
theorem ix_exc {a b : D} {x : Exn} (h : ixD a b = .exc x) : False := by
  by_cases hd : ∃ ks vs, a = .dic ks vs
  · obtain ⟨ks, vs, rfl⟩ := hd
    have h : R.need (okKey ks b = true) (match dget ks vs b with | some d => R.ok d | none => R.bad) = .exc x := h
    have h := need_exc h
    split at h <;> cases h
  cases a <;> cases b <;> first
    | (cases h; done)
    | (exact hd ⟨_, _, rfl⟩)
    | (unfold ixD at h; simp only at h; split at h <;> cases h)
theorem snd_ix (G : Good S X N nm) {a b : CE} {ea eb : Expr} {pos : Pos} (ha : PE X ea (tE S a)) (hb : PE X eb (tE S b)) (hs : PlainIx eb) : PE X (.Subscript ea eb pos) (tE S (.ix a b)) := by
  refine impE (pe_ix (ix_D G.units) ha hb hs) ?_
  rintro σ H Q ⟨g, k, T', c, R, h⟩
  obtain ⟨ka, T1, c1, c⟩ := bind2 c
  obtain ⟨kb, T2, c2, c⟩ := bind2 c
  have c : (if ka.n ≤ 1 ∧ kb.n ≤ 1 then some ((⟨true, 0⟩ : Kd), T2) else none) = some (k, T') := c
  split at c
  · rename_i hn
    cases c
    refine tE_two c1 c2 R h fun x y d1 d2 H2 F2 s f R2 h2 => ?_
    cases e : ixD d1 d2 with
    | ok d =>
      rw [e] at h2
      refine ⟨F2, d1, d2, d, R2.sF, ?_, ?_, e, fun v hv => ?_⟩
      · (first | rw [G.K] | rw [G.Kf]); exact R2.sh2 rfl hn.1
      · (first | rw [G.K] | rw [G.Kf]); exact R2.sh1 rfl hn.2
      · rw [G.K] at hv
        exact h2 v H2 F2 s f ((R2.xpop2 rfl).xpush0 hv)
    | exc x => exact (ix_exc e).elim
    | bad => rw [e] at h2; exact h2.elim
  · cases c
theorem cut_exc {a : D} {lo hi : Option Int} {x : Exn} (h : cutD a lo hi = .exc x) : False := by cases a <;> cases h
/-- a bound of a slice -/
def AftP (S : Sx) (g : Gh) (k : Kd) (T' : Tn) (σ : L2.St) (H : Hp) (r : R (Option Int)) (Q : Option Int → Hp → Prop) : Prop := match r with
  | .ok o => ∀ v d H' F', Same H H' → Same g.F F' → Rel S.K { g with F := F', T := T', tau := k.c v d :: g.tau } σ H' → Q o H'
  | .exc e => ∀ cls dd H', Same H H' → S.eat e cls dd H' → S.W cls dd σ H'
  | .bad => False
def tP (S : Sx) (l : CE) : TO := fun σ H Q => ∃ (g : Gh) (k : Kd) (T' : Tn), kE S.L l g.T = some (k, T') ∧ Rel S.K g σ H ∧ AftP S g k T' σ H ((evE S.w l g.rho).bind (part l.isN)) Q
theorem snd_part {l : CE} {lo : Option Expr} (hl : match lo with | none => l.isN = true | some e => l.isN = false ∧ PE X e (tE S l)) : PO X lo (tP S l) := by
  cases lo with
  | none =>
    refine ⟨fun pins s σ H Q I h => ?_⟩
    refine po_none.run pins s σ H Q I ?_
    cases l <;> first | (cases hl; done) | skip
    obtain ⟨g, k, T', c, R, h⟩ := h
    cases c
    exact h .non .non H g.F (Same.refl _) (Same.refl _) (R.xpush0 .non)
  | some e =>
    obtain ⟨hn, he⟩ := hl
    refine ⟨fun pins s σ H Q I h => ?_⟩
    refine (po_some he).run pins s σ H Q I ?_
    obtain ⟨g, k, T', c, R, h⟩ := h
    refine ⟨g, k, T', c, R, ?_⟩
    rw [hn] at h
    cases e1 : evE S.w l g.rho with
    | ok d =>
      rw [e1] at h
      intro v H1 F1 s f R1
      cases d <;> first | exact h.elim | skip
      exact ⟨_, (R1.see1 rfl).int_inv, h v _ H1 F1 s f R1⟩
    | exc x => rw [e1] at h; exact h
    | bad => rw [e1] at h; exact h.elim
theorem snd_cut (G : Good S X N nm) {a l h : CE} {ea : Expr} {lo hi : Option Expr} {p2 pos : Pos} (ha : PE X ea (tE S a)) (hl : PO X lo (tP S l)) (hh : PO X hi (tP S h)) : PE X (.Subscript ea (.Slice lo hi none p2) pos) (tE S (.cut a l h)) := by
  refine impE (pe_slice sl_D ha hl hh) ?_
  rintro σ H Q ⟨g, k, T', c, R, q⟩
  obtain ⟨ka, T1, c1, c⟩ := bind2 c
  obtain ⟨kl, T2, c2, c⟩ := bind2 c
  obtain ⟨kh, T3, c3, c⟩ := bind2 c
  have c : (if ka.n ≤ 1 then some ((⟨true, 1⟩ : Kd), T3) else none) = some (k, T') := c
  split at c
  · rename_i hn
    cases c
    refine tE_one c1 R q fun x d1 H1 F1 s f R1 q1 => ?_
    refine ⟨_, kl, T2, c2, R1, ?_⟩
    show AftP S _ kl T2 σ H1 ((evE S.w l g.rho).bind (part l.isN)) _
    have q1 : AftE S g ⟨true, 1⟩ T' σ H (((evE S.w l g.rho).bind (part l.isN)).bind fun lo => ((evE S.w h g.rho).bind (part h.isN)).bind fun hi => cutD d1 lo hi) Q := q1
    cases e2 : (evE S.w l g.rho).bind (part l.isN) with
    | ok o1 =>
      rw [e2] at q1
      have q1 : AftE S g ⟨true, 1⟩ T' σ H (((evE S.w h g.rho).bind (part h.isN)).bind fun hi => cutD d1 o1 hi) Q := q1
      intro v2 d2 H2 F2 s2 f2 R2
      refine ⟨_, kh, T', c3, R2, ?_⟩
      show AftP S _ kh T' σ H2 ((evE S.w h g.rho).bind (part h.isN)) _
      cases e3 : (evE S.w h g.rho).bind (part h.isN) with
      | ok o2 =>
        rw [e3] at q1
        have q1 : AftE S g ⟨true, 1⟩ T' σ H (cutD d1 o1 o2) Q := q1
        intro v3 d3 H3 F3 s3 f3 R3
        cases e4 : cutD d1 o1 o2 with
        | ok d =>
          rw [e4] at q1
          refine ⟨F3, d1, d, R3.sF, ?_, e4, ?_⟩
          · (first | rw [G.K] | rw [G.Kf]); exact R3.sh3 rfl hn
          · (first | rw [G.K] | rw [G.Kf])
            exact fin_new (s.trans (s2.trans s3)) (f.trans (f2.trans f3)) ((R3.xpop2 rfl).xpop rfl) q1
        | exc x => exact (cut_exc e4).elim
        | bad => rw [e4] at q1; exact q1.elim
      | exc x => rw [e3] at q1; exact q1.exc_of (s.trans s2)
      | bad => rw [e3] at q1; exact q1.elim
    | exc x => rw [e2] at q1; exact q1.exc_of s
    | bad => rw [e2] at q1; exact q1.elim
  · cases c

theorem snd_lrev (G : Good S X N nm) {a : CE} {e : Expr} {p p2 pos pos2 : Pos} (hg : glB nm "list" = true) (hg2 : glB nm "reversed" = true) (ha : PE X e (tE S a)) (hs : starEach [e] X.env = (false, eval e X.env) :: starEach [] X.env) :
    PE X (.Call (.Name "list" p) [.Call (.Name "reversed" p2) [e] [] pos2] [] pos) (tE S (.lrev a)) := by
  obtain ⟨g1, _, _⟩ := G.gl hg
  obtain ⟨g2, _, _⟩ := G.gl hg2
  refine impE (LR.pe_listRevA G.calm g1 (G.glob.blt _ (by decide)) g2 (G.glob.blt _ (by decide)) ha hs) ?_
  rintro σ H Q ⟨g, k, T', c, R, h⟩
  obtain ⟨ka, T1, c1, c⟩ := bind2 c
  have c : (if ka.n ≤ 1 then some ((⟨true, 1⟩ : Kd), T1) else none) = some (k, T') := c
  split at c
  case isFalse => cases c
  rename_i hn
  cases c
  refine tE_one c1 R h fun x d1 H1 F1 s f R1 h1 => ?_
  cases d1 with
  | lst ds =>
    obtain ⟨p1, vs, rfl, q1, q2⟩ := (R1.sh1 rfl hn).lst R1.sF
    refine ⟨vs, .inl ⟨p1, rfl, .inl q1⟩, fun q hq => ?_⟩
    exact fin_new (d := .lst ds.reverse) s f (R1.xpop rfl) h1 _ _ (.lst hq q2.reverse) fun _ _ r e => by cases e; exact hq
  | tup ds =>
    obtain ⟨p1, vs, rfl, q1, q2⟩ := (R1.sh1 rfl hn).tup
    refine ⟨vs, .inr (.inl ⟨p1, rfl, ?_⟩), fun q hq => ?_⟩
    · (first | rw [G.K] | rw [G.Kf]); exact same_t R1.sF q1
    · exact fin_new (d := .lst ds.reverse) s f (R1.xpop rfl) h1 _ _ (.lst hq q2.reverse) fun _ _ r e => by cases e; exact hq
  | str z =>
    obtain ⟨rfl, oz⟩ := (R1.sh1 rfl hn).str
    refine ⟨z.map fun c => V.str ⟨#[c]⟩, .inr (.inr ⟨mkS z, rfl, by simpa [Str.length] using oz.1, rfl⟩), fun q hq => ?_⟩
    obtain ⟨vs, src, q2⟩ := src_str (K := S.K) (R1.sh1 rfl hn)
    rcases src with ⟨a, e, _⟩ | ⟨x, e, e2, _⟩
    · cases e
    · have e := V.str.inj e
      subst e
      subst e2
      exact fin_new (d := .lst (z.map fun c => D.str [c]).reverse) s f (R1.xpop rfl) h1 _ _ (.lst hq q2.reverse) fun _ _ r e => by cases e; exact hq
  | _ => exact h1.elim

/-! ### built-ins, methods -/
theorem bn_exc {b : Bn} {ds : List D} {x : Exn} (h : bnD b ds = .exc x) : False := by
  unfold bnD at h
  split at h <;> first
    | (cases h; done)
    | (cases (need_exc h); done)
    | (split at h <;> cases h)
    | (unfold lenD at h; split at h <;> first | (cases h; done) | (cases (need_exc h)))
theorem mt_exc {m : Mt} {d : D} {ds : List D} {x : Exn} (h : mtD m d ds = .exc x) : False := by
  unfold mtD at h
  split at h <;> first
    | (cases h; done)
    | (cases (need_exc h); done)
    | (split at h <;> first
        | (cases h; done)
        | (cases (need_exc h); done)
        | (split at h <;> cases h))
theorem snd_bn (G : Good S X N nm) {b : Bn} {xs : CL} {e e' : Expr} {TT : TA} {es : List Expr} (hp : PE X e' (tCB (rArgs (kwOf X) (bnD b)) (tL S xs))) : PE X e' (tE S (.bn b xs)) := by
  refine impE hp ?_
  rintro σ H Q ⟨g, k, T', c, R, h⟩
  obtain ⟨ks, T1, c1, c⟩ := bind2 c
  have c : (if ks.all (·.n ≤ 1) then some ((⟨true, 1⟩ : Kd), T1) else none) = some (k, T') := c
  split at c
  · rename_i hn
    cases c
    refine tL_all c1 R h fun vs ds H1 F1 s f l1 l2 R1 h1 => ?_
    obtain ⟨R2, p⟩ := sh_cells R1 rfl hn l1 l2
    cases e : bnD b ds with
    | ok d =>
      rw [e] at h1
      refine ⟨F1, ds, d, R1.sF, by (first | rw [G.K] | rw [G.Kf]); exact p, e, ?_⟩
      (first | rw [G.K] | rw [G.Kf])
      exact fin_new s f R2 h1
    | exc x => exact (bn_exc e).elim
    | bad => rw [e] at h1; exact h1.elim
  · cases c
theorem boot_tuple' : bootBuiltins "tuple" = some (.type "tuple") := by decide +kernel
theorem boot_list' : bootBuiltins "list" = some (.type "list") := by decide +kernel
theorem boot_str' : bootBuiltins "str" = some (.type "str") := by decide +kernel
theorem boot_int' : bootBuiltins "int" = some (.type "int") := by decide +kernel
theorem boot_bool' : bootBuiltins "bool" = some (.type "bool") := by decide +kernel
theorem boot_dict' : bootBuiltins "dict" = some (.type "dict") := by decide +kernel
theorem boot_len' : bootBuiltins "len" = some (.builtin "len") := by decide +kernel
theorem boot_all' : bootBuiltins "all" = some (.builtin "all") := by decide +kernel
theorem boot_any' : bootBuiltins "any" = some (.builtin "any") := by decide +kernel
theorem boot_min' : bootBuiltins "min" = some (.builtin "min") := by decide +kernel
theorem boot_max' : bootBuiltins "max" = some (.builtin "max") := by decide +kernel
theorem boot_abs' : bootBuiltins "abs" = some (.builtin "abs") := by decide +kernel
theorem boot_isi' : bootBuiltins "isinstance" = some (.builtin "isinstance") := by decide +kernel
theorem pe_bn (G : Good S X N nm) {b : Bn} (nb : ∀ t, b ≠ .isI t) {xs : CL} {x : Str} {e : Expr} {es : List Expr} {p pos : Pos} (hx : x = Str.ofString b.name) (hg : glB nm x = true) (ha : PA X (e :: es) (tL S xs))
    (he : starEach (e :: es) X.env = (false, eval e X.env) :: starEach es X.env) (hpl : (backTo pos (starEach es X.env)).any (·.1) = false) : PE X (.Call (.Name x p) (e :: es) [] pos) (tE S (.bn b xs)) := by
  obtain ⟨g1, g2, g3⟩ := G.gl hg
  subst hx
  have m : ∀ y ∈ bltN, X.mg y = none := G.glob.blt
  refine snd_bn (e := e) (TT := tL S xs) (es := es) G ?_
  cases b with
  | len => exact pe_callB bn_len g1 (m _ (by decide +kernel)) boot_len' ha g3 g2 he hpl
  | tuple => exact pe_callTy bn_tuple g1 (m _ (by decide +kernel)) boot_tuple' ha g3 g2 he hpl
  | list => exact pe_callTy bn_list g1 (m _ (by decide +kernel)) boot_list' ha g3 g2 he hpl
  | str => exact pe_callTy bn_str g1 (m _ (by decide +kernel)) boot_str' ha g3 g2 he hpl
  | int => exact pe_callTy bn_int g1 (m _ (by decide +kernel)) boot_int' ha g3 g2 he hpl
  | all => exact pe_callB (bn_all G.calm) g1 (m _ (by decide +kernel)) boot_all' ha g3 g2 he hpl
  | any => exact pe_callB (bn_any G.calm) g1 (m _ (by decide +kernel)) boot_any' ha g3 g2 he hpl
  | min => exact pe_callB (bn_min G.calm) g1 (m _ (by decide +kernel)) boot_min' ha g3 g2 he hpl
  | max => exact pe_callB (bn_max G.calm) g1 (m _ (by decide +kernel)) boot_max' ha g3 g2 he hpl
  | sorted => exact pe_callB (bn_sorted G.units) g1 (m _ (by decide +kernel)) PyProof.Rows.boot_sorted ha g3 g2 he hpl
  | abs => exact pe_callB bn_abs g1 (m _ (by decide +kernel)) boot_abs' ha g3 g2 he hpl
  | isI t => exact absurd rfl (nb t)
/-- a class's name as a value -/
theorem pe_ty (G : Good S X N nm) (t : Ty) {x : Str} {pos : Pos} (hx : x = Str.ofString t.name) (hg : glB nm x = true) : PE X (.Name x pos) (tC (.ty t.name)) := by
  obtain ⟨g1, g2, g3⟩ := G.gl hg
  subst hx
  have m : ∀ y ∈ bltN, X.mg y = none := G.glob.blt
  cases t with
  | int => exact pe_bltn g1 (m _ (by decide +kernel)) boot_int' rfl g3 g2
  | bool => exact pe_bltn g1 (m _ (by decide +kernel)) boot_bool' rfl g3 g2
  | str => exact pe_bltn g1 (m _ (by decide +kernel)) boot_str' rfl g3 g2
  | list => exact pe_bltn g1 (m _ (by decide +kernel)) boot_list' rfl g3 g2
  | tuple => exact pe_bltn g1 (m _ (by decide +kernel)) boot_tuple' rfl g3 g2
  | dict => exact pe_bltn g1 (m _ (by decide +kernel)) boot_dict' rfl g3 g2
theorem pe_isI (G : Good S X N nm) {t : Ty} {c : CE} {x tn : Str} {e : Expr} {p p' pos : Pos} (hx : x = Str.ofString "isinstance") (hg : glB nm x = true) (ht : tn = Str.ofString t.name) (hgt : glB nm tn = true) (ha : PE X e (tE S c))
    (he : ∀ es, starEach (e :: es) X.env = (false, eval e X.env) :: starEach es X.env) : PE X (.Call (.Name x p) [e, .Name tn p'] [] pos) (tE S (.bn (.isI t) (.cons c .nil))) := by
  obtain ⟨g1, g2, g3⟩ := G.gl hg
  subst hx
  have m : ∀ y ∈ bltN, X.mg y = none := G.glob.blt
  have hty := pe_ty G t (pos := p') ht hgt
  refine impE (pe_callB (bn_isI t) g1 (m _ (by decide +kernel)) boot_isi' (pa_cons ha (pa_cons hty pa_nil) (he _)) g3 g2 (he _) rfl) ?_
  rintro σ H Q ⟨g, k, T', c', R, h⟩
  obtain ⟨ks, T1, c1, c'⟩ := bind2 c'
  obtain ⟨kc, T2, c2, c1⟩ := bind2 c1
  cases c1
  have c' : (if [kc].all (·.n ≤ 1) then some ((⟨true, 1⟩ : Kd), T1) else none) = some (k, T') := c'
  split at c'
  · rename_i hn
    cases c'
    have hn : kc.n ≤ 1 := by simpa using hn
    have h : AftE S g ⟨true, 1⟩ T' σ H ((evL S.w (.cons c .nil) g.rho).bind fun ds => bnD (.isI t) ds) Q := h
    have e0 : evL S.w (.cons c .nil) g.rho = (evE S.w c g.rho).bind fun d => .ok [d] := rfl
    rw [e0] at h
    refine ⟨g, kc, T', c2, R, ?_⟩
    cases e1 : evE S.w c g.rho with
    | ok d =>
      rw [e1] at h
      intro v H1 F1 s f R1
      have h : AftE S g ⟨true, 1⟩ T' σ H (PV.R.need (isScr d = false) (.ok (.bl (isTy t d)))) Q := h
      by_cases hz : isScr d = false
      · rw [PV.R.need_ok hz] at h
        refine ⟨v, rfl, F1, [d], .bl (isTy t d), R1.sF, ?_, PV.R.need_ok hz, ?_⟩
        · (first | rw [G.K] | rw [G.Kf]); exact .cons (R1.sh1 rfl hn) .nil
        · (first | rw [G.K] | rw [G.Kf]); exact fin_new s f (R1.xpop rfl) h
      · unfold PV.R.need at h
        rw [if_neg hz] at h
        exact h.elim
    | exc x => rw [e1] at h; exact h
    | bad => rw [e1] at h; exact h.elim
  · cases c'
theorem rcv_str {m : Mt} (nt : m ≠ .tindex) {d : D} (h : m.rcv d = true) : ∃ z, d = .str z := by
  unfold Mt.rcv at h
  split at h <;> first | (exact ⟨_, rfl⟩) | (exact absurd rfl nt) | cases h
theorem need_cases {α : Type} {c : Prop} [Decidable c] {r : R α} : (c ∧ R.need c r = r) ∨ R.need c r = .bad := by
  by_cases h : c
  · exact .inl ⟨h, if_pos h⟩
  · exact .inr (if_neg h)
theorem snd_mt (G : Good S X N nm) {m : Mt} (nt : m ≠ .tindex) {o : CE} {xs : CL} {e' : Expr} (hp : PE X e' (tBM X.K "str" (rMeth (kwOf X) (mtD m)) (tE S o) (tL S xs))) : PE X e' (tE S (.mt m o xs)) := by
  refine impE hp ?_
  rintro σ H Q ⟨g, k, T', c, R, h⟩
  obtain ⟨ko, T1, c1, c⟩ := bind2 c
  obtain ⟨ks, T2, c2, c⟩ := bind2 c
  have c : (if ko.n ≤ 1 ∧ ks.all (·.n ≤ 1) then some ((⟨true, 1⟩ : Kd), T2) else none) = some (k, T') := c
  split at c
  · rename_i hn
    cases c
    have h : AftE S g ⟨true, 1⟩ T' σ H ((evE S.w o g.rho).bind fun d => PV.R.need (m.rcv d = true) ((evL S.w xs g.rho).bind fun ds => mtD m d ds)) Q := h
    refine tE_one c1 R h fun x d H1 F1 s f R1 h1 => ?_
    rcases need_cases (c := m.rcv d = true) (r := (evL S.w xs g.rho).bind fun ds => mtD m d ds) with ⟨hr, e⟩ | e
    · rw [e] at h1
      obtain ⟨z, rfl⟩ := rcv_str nt hr
      have hx := (R1.see1 rfl).str_inv
      obtain ⟨hx, _⟩ := hx
      have hx : x = .str (mkS z) := hx
      subst hx
      refine ⟨rfl, ?_⟩
      refine ⟨_, ks, T', c2, R1, ?_⟩
      show AftL S _ ks T' σ H1 (evL S.w xs g.rho) _
      cases e1 : evL S.w xs g.rho with
      | ok ds =>
        rw [e1] at h1
        have h1 : AftE S g ⟨true, 1⟩ T' σ H (mtD m (.str z) ds) Q := h1
        intro vs H2 F2 s2 f2 l1 l2 R2
        obtain ⟨R3, p⟩ := sh_cells R2 rfl hn.2 l1 l2
        cases e2 : mtD m (.str z) ds with
        | ok d =>
          rw [e2] at h1
          refine ⟨F2, .str z, ds, d, R2.sF, ?_, ?_, e2, ?_⟩
          · (first | rw [G.K] | rw [G.Kf]); exact R3.sh1 rfl hn.1
          · (first | rw [G.K] | rw [G.Kf]); exact p
          · (first | rw [G.K] | rw [G.Kf]); exact fin_new (s.trans s2) (f.trans f2) (R3.xpop rfl) h1
        | exc x => exact (mt_exc e2).elim
        | bad => rw [e2] at h1; exact h1.elim
      | exc x => rw [e1] at h1; exact h1.exc_of s
      | bad => rw [e1] at h1; exact h1.elim
    · rw [e] at h1; exact h1.elim
  · cases c

/-- no argument -/
theorem snd_mt0 (G : Good S X N nm) {m : Mt} (nt : m ≠ .tindex) {o : CE} {e' : Expr} (hp : PE X e' (tBM0 X.K "str" (rMeth (kwOf X) (mtD m)) (tE S o))) : PE X e' (tE S (.mt m o .nil)) := by
  refine impE hp ?_
  rintro σ H Q ⟨g, k, T', c, R, h⟩
  obtain ⟨ko, T1, c1, c⟩ := bind2 c
  obtain ⟨ks, T2, c2, c⟩ := bind2 c
  cases c2
  have c : (if ko.n ≤ 1 ∧ ([] : List Kd).all (·.n ≤ 1) then some ((⟨true, 1⟩ : Kd), T1) else none) = some (k, T') := c
  split at c
  case isFalse => cases c
  rename_i hn
  cases c
  have h : AftE S g ⟨true, 1⟩ T' σ H ((evE S.w o g.rho).bind fun d => PV.R.need (m.rcv d = true) (mtD m d [])) Q := h
  refine tE_one c1 R h fun x d H1 F1 s f R1 h1 => ?_
  rcases need_cases (c := m.rcv d = true) (r := mtD m d []) with ⟨hr, e⟩ | e
  · rw [e] at h1
    obtain ⟨z, rfl⟩ := rcv_str nt hr
    obtain ⟨hx, _⟩ := (R1.see1 rfl).str_inv
    have hx : x = .str (mkS z) := hx
    subst hx
    refine ⟨rfl, ?_⟩
    cases e2 : mtD m (.str z) [] with
    | ok d =>
      rw [e2] at h1
      refine ⟨F1, .str z, [], d, R1.sF, ?_, .nil, e2, ?_⟩
      · (first | rw [G.K] | rw [G.Kf]); exact R1.sh1 rfl hn.1
      · (first | rw [G.K] | rw [G.Kf]); exact fin_new s f (R1.xpop rfl) h1
    | exc x => exact (mt_exc e2).elim
    | bad => rw [e2] at h1; exact h1.elim
  · rw [e] at h1; exact h1.elim

theorem pe_or {X : Cx} {e : Expr} {t t' : TE} (h : PE X e t) (h' : PE X e t') : PE X e (fun σ H Q => t σ H Q ∨ t' σ H Q) := ⟨fun pins s σ H Q I q => q.elim (h.run pins s σ H Q I) (h'.run pins s σ H Q I)⟩
theorem snd_sset (G : Good S X N nm) {a : CE} {e : Expr} {p p2 pos pos2 : Pos} (hg : glB nm "sorted" = true) (hg2 : glB nm "set" = true) (ha : PE X e (tE S a)) (hs : starEach [e] X.env = (false, eval e X.env) :: starEach [] X.env) :
    PE X (.Call (.Name "sorted" p) [.Call (.Name "set" p2) [e] [] pos2] [] pos) (tE S (.sset a)) := by
  obtain ⟨g1, _, _⟩ := G.gl hg
  obtain ⟨g2, _, _⟩ := G.gl hg2
  have hu := G.units
  refine impE (pe_or (SS.pe_sset (SS.flatK _ _ _) G.calm (by omega) g1 (G.glob.blt _ (by decide)) g2 (G.glob.blt _ (by decide)) ha hs) (SS.pe_sset (SS.tupK _ _ _ (by omega)) G.calm (by omega) g1 (G.glob.blt _ (by decide)) g2 (G.glob.blt _ (by decide)) ha hs)) ?_
  rintro σ H Q ⟨g, k, T', c, R, h⟩
  obtain ⟨ka, T1, c1, c⟩ := bind2 c
  have c : (if ka.n ≤ 1 then some ((⟨true, 1⟩ : Kd), T1) else none) = some (k, T') := c
  split at c
  case isFalse => cases c
  rename_i hn
  cases c
  have h : AftE S g ⟨true, 1⟩ T' σ H ((evE S.w a g.rho).bind ssetD) Q := h
  cases e1 : evE S.w a g.rho with
  | exc x =>
    rw [e1] at h
    exact .inl ⟨g, ka, T', c1, R, by rw [e1]; exact fun cls dd H' sH y => h cls dd H' sH y⟩
  | bad =>
    rw [e1] at h
    exact h.elim
  | ok d1 =>
    rw [e1] at h
    have h : AftE S g ⟨true, 1⟩ T' σ H (ssetD d1) Q := h
    -- what is known once a is told
    have fin : ∀ {Good : PyData → Prop} {most : Nat} {x : V} {H1 F1 : Hp} {vs : List V} {ds : List D}, Same H H1 → Same g.F F1 → Rel S.K { g with F := F1, T := T', tau := ka.c x d1 :: g.tau } σ H1 → SS.Src X.K H1 x vs (toPys ds) → Reps (kwOf X) F1 vs ds → Alk ds → (∀ d ∈ toPys ds, Good d) → PySem.W.AllAlike (toPys ds) → PySem.W.Sortable (toPys ds) → (∀ d ∈ toPys ds, d.depth ≤ 64) → ds.length < most → AftE S g ⟨true, 1⟩ T' σ H (.ok (.lst (ssetL ds))) Q →
        ∃ xs ps, SS.Src X.K H1 x xs ps ∧ (∀ d ∈ ps, Good d) ∧ PySem.W.AllAlike ps ∧ PySem.W.Sortable ps ∧ (∀ d ∈ ps, d.depth ≤ 64) ∧ ps.length < most ∧
          ∀ q vs' ds', H1 q = none → ds'.Nodup → (∀ d, d ∈ ds' ↔ d ∈ ps) → ds'.Pairwise (fun a b => PySem.W.dataLt b a = false) → Paired (fun x d => ∃ i : Nat, xs[i]? = some x ∧ ps[i]? = some d) vs' ds' → Q (.ref q) (upd H1 q (.lst vs')) := by
      intro Good most x H1 F1 vs ds s f R1 src rp al z1 z2 z3 z4 b3 h1
      refine ⟨vs, toPys ds, src, z1, z2, z3, z4, by rw [toPys_map, List.length_map]; exact b3, fun q vs' ds' hq nd hm srt pr => ?_⟩
      have rp2 := set_out rp al nd hm srt pr
      exact fin_new (d := .lst (ssetL ds)) s f (R1.xpop rfl) h1 _ _ (.lst hq (by rw [← G.K]; exact rp2)) fun _ _ r e => by cases e; exact hq
    cases d1 with
    | lst ds =>
      rcases need_cases (c := setB ds = true) (r := PV.R.ok (D.lst (ssetL ds))) with ⟨hb, e⟩ | e
      · have h : AftE S g ⟨true, 1⟩ T' σ H (PV.R.need (setB ds = true) (.ok (.lst (ssetL ds)))) Q := h
        rw [e] at h
        simp only [setB, Bool.and_eq_true, Bool.or_eq_true, decide_eq_true_eq] at hb
        obtain ⟨lk, hb⟩ := hb
        rcases hb with ⟨b1, b3⟩ | ⟨b1, b3⟩
        · refine .inl ⟨g, ka, T', c1, R, ?_⟩
          rw [e1]
          intro x H1 F1 s f R1
          have sh := R1.sh1 rfl hn
          rw [← G.K] at sh
          obtain ⟨vs, q1, q2⟩ := src_lst R1.sF sh (nds_of fun d hd => flat_nd (List.all_eq_true.mp b1 d hd))
          obtain ⟨z1, z2, z3, z4⟩ := set_flat b1 lk
          exact fin s f R1 q1 q2 (set_alk b1 lk) z1 z2 z3 z4 b3 h
        · refine .inr ⟨g, ka, T', c1, R, ?_⟩
          rw [e1]
          intro x H1 F1 s f R1
          have sh := R1.sh1 rfl hn
          rw [← G.K] at sh
          obtain ⟨vs, q1, q2⟩ := src_lst R1.sF sh (nds_of fun d hd => tup_nd (List.all_eq_true.mp b1 d hd))
          obtain ⟨z1, z2, z3, z4⟩ := set_tup b1 lk
          exact fin s f R1 q1 q2 (tup_alk b1 lk) z1 z2 z3 z4 b3 h
      · have h : AftE S g ⟨true, 1⟩ T' σ H (PV.R.need (setB ds = true) (.ok (.lst (ssetL ds)))) Q := h
        rw [e] at h
        exact h.elim
    | str z =>
      rcases need_cases (c := z.length < 4096) (r := PV.R.ok (D.lst (ssetL (z.map fun c => D.str [c])))) with ⟨hb, e⟩ | e
      · have h : AftE S g ⟨true, 1⟩ T' σ H (PV.R.need (z.length < 4096) (.ok (.lst (ssetL (z.map fun c => D.str [c]))))) Q := h
        rw [e] at h
        refine .inl ⟨g, ka, T', c1, R, ?_⟩
        rw [e1]
        intro x H1 F1 s f R1
        have sh := R1.sh1 rfl hn
        rw [← G.K] at sh
        obtain ⟨vs, q1, q2⟩ := src_str sh
        obtain ⟨b1, b2⟩ := chars_flat z
        obtain ⟨z1, z2, z3, z4⟩ := set_flat b1 b2
        exact fin s f R1 q1 q2 (set_alk b1 b2) z1 z2 z3 z4 (by rw [List.length_map]; exact hb) h
      · have h : AftE S g ⟨true, 1⟩ T' σ H (PV.R.need (z.length < 4096) (.ok (.lst (ssetL (z.map fun c => D.str [c]))))) Q := h
        rw [e] at h
        exact h.elim
    | _ => exact h.elim

theorem snd_gidx (G : Good S X N nm) {i : Nat} {a : CE} {x name : Str} {e : Expr} {p0 apos pos : Pos} (h1 : S.L.conN[i]? = some x) (h2 : glB nm x = true) (ht : isTup (S.L.conD i) = true) (hn : name = Str.ofString "index") (hl : (apos.endLine == pos.line) = true) (ha : PE X e (tE S a))
    (hs : starEach [e] X.env = (false, eval e X.env) :: starEach [] X.env) : PE X (.Call (.Attribute (.Name x p0) name apos) [e] [] pos) (tE S (.gidx i a)) := by
  obtain ⟨g1, g2, g3⟩ := G.gl h2
  obtain ⟨u, v, m, r, hr, hk⟩ := G.glob.con i x h1
  subst hn
  have few : ((backTo pos (starEach [e] X.env)).all (fun x => !x.1) && (backToKw pos (keywordEach [] X.env)).all (fun x => x.1.isSome)
      && decide ([e].length + ([] : List Keyword).length + (if ([] : List Keyword).isEmpty then 0 else 1) < 30)) = true := by rw [hs]; rfl
  refine impE (pe_bm (cpos := pos) PySem.F.plainAttrs_tuple PySem.F.slot_tuple_index PySem.F.type_tuple_index mt_tindexD (pe_glob g1 m r g2) (pa_cons ha pa_nil hs) rfl few hl hs rfl) ?_
  rintro σ H Q ⟨g, k, T', c, R, h⟩
  obtain ⟨ka, T1, c1, c⟩ := bind2 c
  have c : (if ka.n ≤ 1 then some ((⟨true, 1⟩ : Kd), T1) else none) = some (k, T') := c
  split at c
  case isFalse => cases c
  rename_i hn
  cases c
  have h : AftE S g ⟨true, 1⟩ T' σ H ((evE S.w a g.rho).bind fun y => mtD .tindex (S.L.conD i) [y]) Q := h
  have ty : tyV X.K "tuple" v H := by
    cases hd : S.L.conD i with
    | tup ds =>
      have z := hr (fun _ => none)
      rw [hd] at z
      cases z with
      | tup _ _ => exact .inr (.inl ⟨rfl, hk _ rfl⟩)
    | _ => rw [hd] at ht; cases ht
  have go : tE S a σ H (fun y H1 => rMeth (kwOf X) (mtD .tindex) v [y] H1 Q) := tE_one c1 R h fun y d H1 F1 s f R1 h1 => by
    cases e2 : mtD .tindex (S.L.conD i) [d] with
    | ok dd =>
      rw [e2] at h1
      refine ⟨F1, S.L.conD i, [d], dd, R1.sF, .of0 (hr F1), .cons (by (first | rw [G.K] | rw [G.Kf]); exact R1.sh1 rfl hn) .nil, e2, ?_⟩
      (first | rw [G.K] | rw [G.Kf]); exact fin_new s f (R1.xpop rfl) h1
    | exc x => exact (mt_exc e2).elim
    | bad => rw [e2] at h1; exact h1.elim
  exact ⟨ty, go⟩

/-! ### a display of texts, asked at once -/
def tKs : List (List Nat) → TA
  | [] => tNil
  | s :: r => tCons (tC (.str (mkS s))) (tKs r)
theorem pa_ks {X : Cx} : ∀ {l : List (List Nat)} {es : List Expr}, mKs l es = true → PA X es (tKs l)
  | [], [], _ => pa_nil
  | s :: r, .Constant (.str z) _ _ :: es, h => by
    simp only [mKs, Bool.and_eq_true, decide_eq_true_eq] at h
    obtain ⟨rfl, _, h⟩ := h
    exact pa_cons pe_str (pa_ks h)
theorem ks_run {σ : L2.St} {H : Hp} {Q : List V → Hp → Prop} : ∀ {l : List (List Nat)}, Q (l.map fun s => V.str (mkS s)) H → tKs l σ H Q
  | [], q => q
  | s :: r, q => by
    show tKs r σ H fun xs H2 => Q (V.str (mkS s) :: xs) H2
    exact ks_run q
theorem ks_ok : ∀ {l : List (List Nat)} {es : List Expr}, mKs l es = true → ∀ s ∈ l, okS s
  | [], _, _, s, hs => nomatch hs
  | x :: r, .Constant (.str z) _ _ :: es, h, s, hs => by
    simp only [mKs, Bool.and_eq_true, decide_eq_true_eq] at h
    rcases List.mem_cons.mp hs with e | hs
    · rw [e]; exact h.2.1
    · exact ks_ok h.2.2 s hs
abbrev Kvs := List (List Nat × List (List Nat))
def tPs (kvs : Kvs) : List (TE × TE) := kvs.map fun x => (tC (.str (mkS x.1)), tTup (tKs x.2))
theorem pps_ks {X : Cx} {pos : Pos} : ∀ {kvs : Kvs} {ks : List (Option Expr)} {vs : List Expr}, mPs kvs ks vs = true → PPs X pos ks vs (tPs kvs) ∧ ks.all (·.isSome) = true ∧ ks.length = kvs.length ∧ vs.length = kvs.length ∧ ∀ x ∈ kvs, x.2.length ≤ 15 ∧ ∀ s ∈ x.2, okS s
  | [], [], [], _ => ⟨pps_nil, rfl, rfl, rfl, fun x hx => nomatch hx⟩
  | x :: r, some (.Constant (.str z) _ _) :: ks, .Tuple es _ _ :: vs, h => by
    simp only [mPs, Bool.and_eq_true, decide_eq_true_eq] at h
    obtain ⟨rfl, h1, h2, h3⟩ := h
    obtain ⟨p1, p2, p3, p4, p5⟩ := pps_ks (X := X) (pos := pos) h3
    refine ⟨pps_cons pe_str (pe_tup (pa_ks h2)) p1, p2, congrArg Nat.succ p3, congrArg Nat.succ p4, fun y hy => ?_⟩
    rcases List.mem_cons.mp hy with e | hy
    · rw [e]; exact ⟨h1, ks_ok h2⟩
    · exact p5 y hy
/-- the tuples stand, each at a place of its own -/
theorem ps_run {σ : L2.St} : ∀ (kvs : Kvs) (H : Hp) (Q : List (V × V) → Hp → Prop), (∀ x ∈ kvs, x.2.length ≤ 15) →
    (∀ (l : List ((List Nat × List (List Nat)) × Addr)) H2, Same H H2 → l.map (·.1) = kvs → (∀ x ∈ l, H x.2 = none ∧ H2 x.2 = some (.tup (x.1.2.map fun s => V.str (mkS s)))) → Q (l.map fun x => (V.str (mkS x.1.1), V.ref x.2)) H2) →
    tPairs (tPs kvs) σ H Q
  | [], H, Q, _, k => k [] H (Same.refl _) rfl (fun x hx => nomatch hx)
  | x :: r, H, Q, hl, k => by
    show tKs x.2 σ H fun xs H1 => xs.length ≤ sizeLine ∧ ∀ p, H1 p = none → tPairs (tPs r) σ (upd H1 p (.tup xs)) fun ps H3 => Q ((V.str (mkS x.1), .ref p) :: ps) H3
    refine ks_run ⟨by rw [List.length_map, sizeLine_eq]; have := hl x List.mem_cons_self; omega, fun p hp => ?_⟩
    refine ps_run r _ _ (fun y hy => hl y (List.mem_cons_of_mem _ hy)) fun l H2 s el hx => ?_
    have s1 : Same H (upd H p (.tup (x.2.map fun s => V.str (mkS s)))) := fun a o e => by rw [upd_ne (ne_of_none e hp)]; exact e
    refine k ((x, p) :: l) H2 (s1.trans s) (by rw [List.map_cons, el]) fun y hy => ?_
    rcases List.mem_cons.mp hy with e | hy
    · rw [e]
      exact ⟨hp, s p _ upd_same⟩
    · obtain ⟨y1, y2⟩ := hx y hy
      refine ⟨?_, y2⟩
      by_cases c : y.2 = p
      · rw [c]; exact hp
      · rw [upd_ne c] at y1; exact y1
abbrev keyOf (x : (List Nat × List (List Nat)) × Addr) : Key × V := (.inr (mkS x.1.1), .ref x.2)
theorem mk_inj {a b : List Nat} (h : mkS a = mkS b) : a = b := by
  have := congrArg (fun s : Str => s.cps.toList) h
  simpa using this
theorem merge_new : ∀ (l acc : List ((List Nat × List (List Nat)) × Addr)), ((acc ++ l).map (·.1.1)).Nodup → mergeK (acc.map keyOf) (l.map keyOf) = (acc ++ l).map keyOf
  | [], acc, _ => by rw [List.append_nil]; rfl
  | x :: l, acc, h => by
    have h' : ((acc ++ [x] ++ l).map (·.1.1)).Nodup := by rw [List.append_assoc]; exact h
    have ih := merge_new l (acc ++ [x]) h'
    show mergeK (putK (acc.map keyOf) (.inr (mkS x.1.1)) (.ref x.2)) (l.map keyOf) = _
    have new : ((acc.map keyOf).any fun kv => decide (kv.1 = (.inr (mkS x.1.1) : Key))) = false := by
      rw [List.any_eq_false]
      intro y hy
      obtain ⟨z, hz, rfl⟩ := List.mem_map.mp hy
      rw [List.map_append, List.nodup_append] at h
      intro e
      have e := mk_inj (Sum.inr.inj (of_decide_eq_true e))
      exact h.2.2 _ (List.mem_map_of_mem hz) _ (List.mem_map_of_mem List.mem_cons_self) e
    have ep : putK (acc.map keyOf) (.inr (mkS x.1.1)) (.ref x.2) = (acc ++ [x]).map keyOf := by
      unfold putK
      rw [new]
      show acc.map keyOf ++ [keyOf x] = _
      rw [List.map_append]
      rfl
    rw [ep, ih, List.append_assoc]
    rfl
theorem val_of (s : List Nat) : ∀ l : List ((List Nat × List (List Nat)) × Addr), valV (l.map keyOf) (.inr (mkS s)) = (l.find? fun x => decide (x.1.1 = s)).map fun x => V.ref x.2
  | [] => rfl
  | x :: l => by
    by_cases c : x.1.1 = s
    · rw [List.map_cons, valV_pos (by show (Sum.inr (mkS x.1.1) : Key) = _; rw [c]), List.find?_cons_of_pos (by simpa using c)]
      rfl
    · rw [List.map_cons, valV_neg (fun z => c (mk_inj (Sum.inr.inj z))), List.find?_cons_of_neg (by simpa using c)]
      exact val_of s l
theorem find_of (s : List Nat) : ∀ l : List ((List Nat × List (List Nat)) × Addr), ((l.map (·.1)).find? fun x => decide (x.1 = s)) = (l.find? fun x => decide (x.1.1 = s)).map (·.1)
  | [] => rfl
  | x :: l => by
    by_cases c : x.1.1 = s
    · rw [List.map_cons, List.find?_cons_of_pos (by simpa using c), List.find?_cons_of_pos (by simpa using c)]
      rfl
    · rw [List.map_cons, List.find?_cons_of_neg (by simpa using c), List.find?_cons_of_neg (by simpa using c)]
      exact find_of s l
/-- tuples of texts, new in the heap, at rest -/
theorem Rel.tuples {K : KW} {g : Gh} {σ : L2.St} {H H' : Hp} (R : Rel K g σ H) (eH : Same H H') (qs : List Addr) (hq : ∀ q ∈ qs, H q = none) : Same g.F (fun a => if a ∈ qs then H' a else g.F a) ∧ Rel K { g with F := fun a => if a ∈ qs then H' a else g.F a } σ H' := by
  have eF : Same g.F (fun a => if a ∈ qs then H' a else g.F a) := fun a o e => by
    have na : a ∉ qs := fun z => by have := R.sF a o e; rw [hq a z] at this; cases this
    show (if a ∈ qs then H' a else g.F a) = some o
    rw [if_neg na]; exact e
  have R2 := Rel.called (g := g) (r := g.tau) (n := 0) (v := .non) (d := .non) (fp := []) (F' := fun a => if a ∈ qs then H' a else g.F a) R eH eF (fun a o e => by
    have e : (if a ∈ qs then H' a else g.F a) = some o := e
    by_cases ha : a ∈ qs
    · rw [if_pos ha] at e; exact e
    · rw [if_neg ha] at e; exact eH a o (R.sF a o e)) (fun p z => by
    have z : (if p ∈ qs then H' p else g.F p) ≠ none := z
    by_cases ha : p ∈ qs
    · exact .inr (hq p ha)
    · rw [if_neg ha] at z; exact .inl z) ⟨.non, rfl⟩ List.nodup_nil (fun _ z => nomatch z)
  exact ⟨eF, R2.xpop rfl⟩
theorem reps_ks {K : KW} {F : Hp} : ∀ {l : List (List Nat)}, (∀ s ∈ l, okS s) → Reps K F (l.map fun s => V.str (mkS s)) (l.map D.str)
  | [], _ => .nil
  | s :: r, h => .cons (.str s (h s List.mem_cons_self)) (reps_ks fun z hz => h z (List.mem_cons_of_mem _ hz))
theorem snd_pick (G : Good S X N nm) {kvs : Kvs} {a : CE} {keys : List (Option Expr)} {vals : List Expr} {e : Expr} {p pos : Pos} (nd : (kvs.map (·.1)).Nodup) (h0 : 0 < kvs.length) (h15 : kvs.length ≤ 15) (hm : mPs kvs keys vals = true) (ha : PE X e (tE S a)) (hs : NoSl e) :
    PE X (.Subscript (.Dict keys vals p) e pos) (tE S (.pick kvs a)) := by
  obtain ⟨p1, p2, p3, p4, p5⟩ := pps_ks (X := X) (pos := p) hm
  have hu := G.units
  refine impE (pe_dget (by omega) (pe_disp p1 p2 (by rw [p3, p4]) (fun z => by rw [z] at p3; simp at p3; omega) (by omega)) ha hs) ?_
  rintro σ H Q ⟨g, k, T', c, R, h⟩
  obtain ⟨ka, T1, c1, c⟩ := bind2 c
  cases c
  have h : AftE S g ⟨true, 0⟩ T' σ H ((evE S.w a g.rho).bind (pickD kvs)) Q := h
  intro p hp
  refine ps_run kvs _ _ (fun x hx => (p5 x hx).1) fun l H2 s el hl => ?_
  have sp : Same H (upd H p (.dK [])) := fun a o e => by rw [upd_ne (ne_of_none e hp)]; exact e
  have hlp : ∀ x ∈ l, x.2 ≠ p ∧ H x.2 = none := fun x hx => by
    have := (hl x hx).1
    by_cases c : x.2 = p
    · rw [c, upd_same] at this; cases this
    · rw [upd_ne c] at this; exact ⟨c, this⟩
  refine ⟨s p _ upd_same, l.map keyOf, by rw [List.map_map]; rfl, by rw [List.length_map]; have := congrArg List.length el; rw [List.length_map] at this; omega, ?_⟩
  have hmg := merge_new l [] (by
    have : (l.map (·.1)).map (·.1) = kvs.map (·.1) := by rw [el]
    rw [List.map_map] at this
    rw [List.nil_append]
    have nd := nd
    rw [← this] at nd
    exact nd)
  have hmg : mergeK [] (l.map keyOf) = l.map keyOf := hmg
  rw [hmg]
  have s3 : Same H (upd H2 p (.dK (l.map keyOf))) := fun b o e => by
    rw [upd_ne (ne_of_none e hp)]
    exact s b o (sp b o e)
  obtain ⟨f3, R3⟩ := R.tuples s3 (l.map (·.2)) (fun q hq => by obtain ⟨x, hx, rfl⟩ := List.mem_map.mp hq; exact (hlp x hx).2)
  generalize hF3 : (fun b => if b ∈ l.map (·.2) then upd H2 p (.dK (l.map keyOf)) b else g.F b) = F3 at f3 R3
  have rep3 : ∀ x ∈ l, Rep S.K F3 (.ref x.2) (.tup (x.1.2.map D.str)) := fun x hx => by
    have hF : F3 x.2 = some (.tup (x.1.2.map fun s => V.str (mkS s))) := by
      rw [← hF3]
      show (if x.2 ∈ l.map (·.2) then _ else _) = _
      rw [if_pos (List.mem_map_of_mem hx), upd_ne (hlp x hx).1]
      exact (hl x hx).2
    have hk : x.1 ∈ kvs := by rw [← el]; exact List.mem_map_of_mem hx
    exact .tup (SqT.of hF) (reps_ks (p5 x.1 hk).2)
  refine ⟨{ g with F := F3 }, ka, T', c1, R3, ?_⟩
  cases e1 : evE S.w a g.rho with
  | exc x =>
    rw [e1] at h
    exact fun cls dd H' sH y => h cls dd H' (s3.trans sH) y
  | bad =>
    rw [e1] at h
    exact h.elim
  | ok d1 =>
    rw [e1] at h
    have h : AftE S g ⟨true, 0⟩ T' σ H (pickD kvs d1) Q := h
    intro x H4 F4 s4 f4 R4
    cases d1 with
    | str z =>
      cases hf : kvs.find? (fun x => decide (x.1 = z)) with
      | none =>
        have eb : pickD kvs (.str z) = .bad := by unfold pickD; simp only [hf]
        rw [eb] at h
        exact h.elim
      | some y =>
        have eb : pickD kvs (.str z) = .ok (.tup (y.2.map D.str)) := by unfold pickD; simp only [hf]
        rw [eb] at h
        have r0 : Rep S.K H4 x (.str z) := R4.see1 rfl
        obtain ⟨rfl, _⟩ := r0.str_inv
        rw [← el, find_of] at hf
        cases hy : l.find? (fun x => decide (x.1.1 = z)) with
        | none => rw [hy] at hf; cases hf
        | some u =>
          rw [hy] at hf
          have eu : u.1 = y := Option.some.inj hf
          have hu : u ∈ l := List.mem_of_find?_eq_some hy
          refine ⟨p, .ref u.2, rfl, .inl ⟨l.map keyOf, .inr (mkS z), .inl (s4 p _ upd_same), rfl, by rw [val_of, hy]; rfl⟩, ?_⟩
          refine h (.ref u.2) H4 F4 (s3.trans s4) (f3.trans f4) ((R4.xpop rfl).xpush0 ?_)
          rw [← eu]
          exact (rep3 u hu).up f4
    | _ => exact h.elim

/-! ### calls of defs -/
theorem RepL.all {K : KW} {R : V → D → List Addr → Prop} {G : Hp} (h : ∀ v d f, sc d = true → R v d f → Rep K G v d) : ∀ {vs : List V} {ds : List D} {fp : List Addr}, scs ds = true → RepL R vs ds fp → Reps K G vs ds
  | [], [], _, _, _ => .nil
  | _ :: _, d :: ds, _, hs, ⟨f1, f2, h1, h2, e⟩ => by
    simp only [scs, Bool.and_eq_true] at hs
    exact .cons (h _ _ _ hs.1 h1) (RepL.all h hs.2 h2)
  | [], _ :: _, _, _, e => e.elim
  | _ :: _, [], _, _, e => e.elim
/-- without a list in it, it is at rest -/
theorem RepO.still {K : KW} {F H : Hp} : ∀ (n : Nat) {v : V} {d : D} {fp : List Addr}, sc d = true → RepO K F H n v d fp → Rep K F v d
  | 0, _, _, _, _, h => h.1
  | n + 1, v, d, fp, hs, h => by
    cases d with
    | non => exact h.1
    | bl _ => exact h.1
    | int _ => exact h.1
    | str _ => exact h.1
    | tup ds =>
      obtain ⟨p, vs, e1, e2, h⟩ := h
      subst e1
      simp only [sc] at hs
      exact .tup e2 (h.all (fun v d f hs hr => RepO.still n hs hr) hs)
    | lst _ => simp [sc] at hs
    | dic _ _ => simp [sc] at hs
    | scr _ => simp [sc] at hs
    | frz _ => simp [sc] at hs
    | err _ _ => simp [sc] at hs
    | obj _ _ => simp [sc] at hs
/-- what was lent is taken back -/
def back (F F' : Hp) (fa : List Addr) : Hp := fun a => if a ∈ fa then F a else F' a
section
variable {K : KW} {F F' H H' : Hp} {fa : List Addr}
theorem back_t (hl : ∀ p ∈ fa, ∃ o, H p = some o ∧ Mu o) (eH : Same H H') (sF : Same F' H') {p : Addr} {vs : List V} (h : SqT K F' p vs) : SqT K (back F F' fa) p vs := by
  rcases h with h | h
  · refine .inl ?_
    have np : p ∉ fa := fun z => by
      obtain ⟨ws, e, mu⟩ := hl p z
      have e := eH p _ e
      rcases h with h | ⟨o, h⟩
      · have h := sF p _ h; rw [e] at h; cases h; exact mu
      · have h := sF p _ h; rw [e] at h; cases h; exact mu
    have eb : back F F' fa p = F' p := by unfold back; rw [if_neg np]
    rcases h with h | ⟨o, h⟩
    · exact .inl (by rw [eb]; exact h)
    · exact .inr ⟨o, by rw [eb]; exact h⟩
  · exact .inr h
mutual
theorem Rep.back (hl : ∀ p ∈ fa, ∃ o, H p = some o ∧ Mu o) (eH : Same H H') (sF : Same F' H') : ∀ (d : D) (v : V), sc d = true → Rep K F' v d → Rep K (PV.back F F' fa) v d
  | .non, _, _, h => by cases h; exact .non
  | .bl _, _, _, h => by cases h; exact .bl _
  | .int _, _, _, h => by cases h; exact .int _
  | .str _, _, _, h => by
    cases h with
    | str s h => exact .str _ h
  | .tup ds, _, hs, h => by
    simp only [sc] at hs
    cases h with
    | tup h1 h2 => exact .tup (back_t hl eH sF h1) (Reps.back hl eH sF ds _ hs h2)
  | .lst _, _, hs, _ => by simp [sc] at hs
  | .dic _ _, _, hs, _ => by simp [sc] at hs
  | .frz _, _, hs, _ => by simp [sc] at hs
  | .err _ _, _, hs, _ => by simp [sc] at hs
  | .obj _ _, _, hs, _ => by simp [sc] at hs
  | .scr _, _, hs, _ => by simp [sc] at hs
theorem Reps.back (hl : ∀ p ∈ fa, ∃ o, H p = some o ∧ Mu o) (eH : Same H H') (sF : Same F' H') : ∀ (ds : List D) (vs : List V), scs ds = true → Reps K F' vs ds → Reps K (PV.back F F' fa) vs ds
  | [], _, _, h => by cases h; exact .nil
  | d :: ds, _, hs, h => by
    simp only [scs, Bool.and_eq_true] at hs
    cases h with
    | cons h1 h2 => exact .cons (Rep.back hl eH sF d _ hs.1 h1) (Reps.back hl eH sF ds _ hs.2 h2)
end
theorem rest_mono {fb : List Addr} (sF : Same F H) (h : ∀ p ∈ fa, p ∈ fb) : Same (rest F H fa) (rest F H fb) := fun a o e => by
  unfold rest at e ⊢
  by_cases ha : a ∈ fa
  · rw [if_pos ha] at e
    rw [if_pos (h a ha)]
    exact e
  · rw [if_neg ha] at e
    by_cases hb : a ∈ fb
    · rw [if_pos hb]; exact sF a o e
    · rw [if_neg hb]; exact e
theorem rest_up (sF : Same F H) : Same F (rest F H fa) := fun a o e => by
  unfold rest
  by_cases ha : a ∈ fa
  · rw [if_pos ha]; exact sF a o e
  · rw [if_neg ha]; exact e
theorem rest_dn (sF : Same F H) : Same (rest F H fa) H := fun a o e => by
  unfold rest at e
  by_cases ha : a ∈ fa
  · rw [if_pos ha] at e; exact e
  · rw [if_neg ha] at e; exact sF a o e
theorem lend_cells {σ : L2.St} : ∀ {ks : List Kd} {vs : List V} {ds : List D} {t : List Cell} {g : Gh}, Rel K g σ H → g.tau = cells ks vs ds t → ks.length = ds.length → vs.length = ds.length → ∃ fa, Rel K { g with tau := t } σ H ∧ (∀ p ∈ fa, ∃ o, H p = some o ∧ Mu o) ∧ Reps K (rest g.F H fa) vs ds
  | [], [], [], t, g, R, e, _, _ => by
    have e : g.tau = t := e
    subst e
    exact ⟨[], R, fun _ z => (nomatch z), .nil⟩
  | k :: ks, v :: vs, d :: ds, t, g, R, e, h1, h2 => by
    obtain ⟨fa, R1, hl, r1⟩ := lend_cells (t := k.c v d :: t) R e (by simpa using h1) (by simpa using h2)
    obtain ⟨ow, _, _, h3⟩ := R1.ow
    obtain ⟨fp, hr, _, _, _⟩ := h3.1
    have sF := R1.sF
    refine ⟨fp ++ fa, R1.xpop rfl, fun p hp => ?_, .cons ?_ (r1.up (rest_mono sF fun p hp => List.mem_append_right _ hp))⟩
    · rcases List.mem_append.mp hp with hp | hp
      · exact hr.there _ p hp
      · exact hl p hp
    · exact hr.rep (rest_up sF) _ fun p hp => List.mem_append_left _ hp
  | [], _ :: _, [], _, _, _, _, _, h => by simp at h
  | [], [], _ :: _, _, _, _, _, h, _ => by simp at h
  | [], _ :: _, _ :: _, _, _, _, _, h, _ => by simp at h
  | _ :: _, _, [], _, _, _, _, h, _ => by simp at h
  | _ :: _, [], _ :: _, _, _, _, _, _, h => by simp at h
theorem Rel.lent {g : Gh} {σ : L2.St} (R : Rel K g σ H) (eH : Same H H') (eF : Same (PV.rest g.F H fa) F') (sF : Same F' H') (fr : ∀ p, F' p ≠ none → PV.rest g.F H fa p ≠ none ∨ H p = none) :
    Same g.F (PV.back g.F F' fa) ∧ Rel K { g with F := PV.back g.F F' fa } σ H' := by
  have e1 : Same g.F (PV.back g.F F' fa) := fun a o e => by
    unfold PV.back
    by_cases ha : a ∈ fa
    · rw [if_pos ha]; exact e
    · rw [if_neg ha]; exact eF a o (rest_up R.sF a o e)
  have back0 : ∀ p, PV.back g.F F' fa p ≠ none → g.F p ≠ none ∨ H p = none := fun p z => by
    unfold PV.back at z
    by_cases ha : p ∈ fa
    · rw [if_pos ha] at z; exact .inl z
    · rw [if_neg ha] at z
      rcases fr p z with w | w
      · unfold PV.rest at w
        rw [if_neg ha] at w
        exact .inl w
      · exact .inr w
  obtain ⟨ow, h1, h2, h3⟩ := R.ow
  refine ⟨e1, R.s0.trans e1, fun a o e => ?_, R.sH.trans eH, fun p z => ?_, ⟨ow, fun p k e => ?_, h2.mono e1 eH, h3.mono e1 eH⟩, R.l1, R.l2⟩
  · have e : PV.back g.F F' fa a = some o := e
    unfold PV.back at e
    by_cases ha : a ∈ fa
    · rw [if_pos ha] at e; exact eH a o (R.sF a o e)
    · rw [if_neg ha] at e; exact sF a o e
  · rcases back0 p z with w | w
    · exact R.fr p w
    · exact .inr (R.sH.free w)
  · obtain ⟨a1, a2, a3⟩ := h1 p k e
    refine ⟨a1, ?_, fun z => a3 (eH.free z)⟩
    show PV.back g.F F' fa p = none
    cases z : PV.back g.F F' fa p with
    | none => rfl
    | some o =>
      rcases back0 p (by rw [z]; exact fun w => nomatch w) with y | y
      · exact absurd a2 y
      · exact absurd y a3
end
theorem snd_call (G : Good S X N nm) {lent : Bool} {i : Nat} {xs : CL} {x : Str} {e : Expr} {es : List Expr} {p pos : Pos} (hx : S.L.fnN[i]? = some x) (hf : (S.L.fns[i]?).isSome = true) (hg : glB nm x = true) (ha : PA X (e :: es) (tL S xs))
    (he : starEach (e :: es) X.env = (false, eval e X.env) :: starEach es X.env) (hpl : (backTo pos (starEach es X.env)).any (·.1) = false) : PE X (.Call (.Name x p) (e :: es) [] pos) (tE S (.call lent i xs)) := by
  obtain ⟨g1, g2, g3⟩ := G.gl hg
  cases ef : S.L.fns[i]? with
  | none => rw [ef] at hf; cases hf
  | some fn =>
    by_cases hio : fn.io = true
    · refine ⟨fun pins s σ H Q I q => ?_⟩
      obtain ⟨g, k, T', c, R, h⟩ := q
      obtain ⟨ks, T1, c1, c⟩ := bind2 c
      have c : kCall S.L.fns[i]? lent ks T1 = some (k, T') := c
      rw [ef] at c
      unfold kCall at c
      simp only [hio, if_true] at c
      cases c
    have hio : fn.io = false := by simpa using hio
    obtain ⟨a, fd, ps, m, kp, F, B⟩ := G.glob.fn i fn x ef hx
    rw [spA_f hio] at F
    refine impE (pe_callSD (dvs := []) (E := fun σ cls dd H' => S.W cls dd σ H') F G.room g1 m kp B .nil (fun σ pins H s e s' I c => G.tk e s' (XE.of_call I (fun cls d H' h => h) c)) ha g2 he hpl) ?_
    rintro σ H Q ⟨g, k, T', c, R, h⟩
    obtain ⟨ks, T1, c1, c⟩ := bind2 c
    have h : AftE S g k T' σ H ((evL S.w xs g.rho).bind fun ds => (S.w.call i ds).bind fun d => PV.R.need (lent = true → sc d = true) (.ok d)) Q := h
    refine tL_all c1 R h fun vs ds H1 F1 s f l1 l2 R1 h1 => ?_
    rw [List.append_nil]
    have h1 : AftE S g k T' σ H ((S.L.call S.n i ds).bind fun d => PV.R.need (lent = true → sc d = true) (.ok d)) Q := h1
    have c : kCall S.L.fns[i]? lent ks T1 = some (k, T') := c
    rw [ef] at c
    unfold kCall at c
    simp only [hio, Bool.false_eq_true, if_false] at c
    cases lent with
    | true =>
      cases c
      obtain ⟨fa, R2, hl, r2⟩ := lend_cells R1 rfl l1 l2
      refine ⟨rest F1 H1 fa, ds, rest_dn R2.sF, by (first | rw [G.K] | rw [G.Kf]); exact r2, ?_⟩
      cases ec : S.L.call S.n i ds with
      | ok d =>
        rw [ec] at h1
        have h1 : AftE S g ⟨true, 0⟩ T' σ H (PV.R.need (true = true → sc d = true) (.ok d)) Q := h1
        intro v H' F' sH fF sF fr ⟨fp, hr, _, _⟩
        rcases need_cases (c := true = true → sc d = true) (r := PV.R.ok d) with ⟨hs, e⟩ | e
        · rw [e] at h1
          rw [G.K] at hr
          obtain ⟨e2, R3⟩ := R2.lent sH fF sF fr
          exact h1 v H' _ (s.trans sH) (f.trans e2) (R3.xpush0 (Rep.back hl sH sF d v (hs rfl) (hr.still _ (hs rfl))))
        · rw [e] at h1; exact h1.elim
      | exc x =>
        rw [ec] at h1
        exact fun cls dd H' sH y => h1 cls dd H' (s.trans sH) y
      | bad => rw [ec] at h1; exact h1.elim
    | false =>
      have c : (if ks.all (·.own) then some ((⟨true, fn.back⟩ : Kd), T1) else none) = some (k, T') := c
      split at c
      · rename_i ho
        cases c
        obtain ⟨F2, R2, f2, r2⟩ := rest_cells R1 rfl ho l1 l2
        refine ⟨F2, ds, R2.sF, by (first | rw [G.K] | rw [G.Kf]); exact r2, ?_⟩
        cases ec : S.L.call S.n i ds with
        | ok d =>
          rw [ec] at h1
          have h1 : AftE S g ⟨true, fn.back⟩ T' σ H (PV.R.need (false = true → sc d = true) (.ok d)) Q := h1
          rw [PV.R.need_ok (fun z => nomatch z)] at h1
          intro v H' F' sH fF sF fr ⟨fp, hr, nd, hn⟩
          rw [G.K] at hr
          exact h1 v H' F' (s.trans sH) ((f.trans f2).trans fF) (R2.xcalled sH fF sF fr hr nd hn)
        | exc x =>
          rw [ec] at h1
          exact fun cls dd H' sH y => h1 cls dd H' (s.trans sH) y
        | bad => rw [ec] at h1; exact h1.elim
      · cases c
/-- what was lent is taken back; what has come of it is one's own, and bears nothing of it -/
theorem RepO.back1 {K : KW} {F F' H H' : Hp} {fa : List Addr} (hl : ∀ p ∈ fa, ∃ o, H p = some o ∧ Mu o) (eH : Same H H') (sF : Same F' H') {v : V} {d : D} {fp : List Addr} (hs : sc1 d = true) (h : RepO K F' H' 1 v d fp) : RepO K (PV.back F F' fa) H' 1 v d fp := by
  cases d with
  | lst ds =>
    obtain ⟨p, vs, f, e1, e2, h, e⟩ := h
    obtain ⟨h, q⟩ := repL0.mp h
    exact ⟨p, vs, f, e1, e2, repL0.mpr ⟨Reps.back hl eH sF _ _ hs h, q⟩, e⟩
  | dic ks ds =>
    simp only [sc1, Bool.and_eq_true] at hs
    obtain ⟨p, ob, us, ws, f, e1, e2, e3, h, e⟩ := h
    obtain ⟨h, q⟩ := repL0.mp h
    exact ⟨p, ob, us, ws, f, e1, e2, Reps.back hl eH sF _ _ hs.1 e3, repL0.mpr ⟨Reps.back hl eH sF _ _ hs.2 h, q⟩, e⟩
  | tup ds =>
    obtain ⟨p, vs, e1, e2, h⟩ := h
    obtain ⟨h, q⟩ := repL0.mp h
    exact ⟨p, vs, e1, back_t hl eH sF e2, repL0.mpr ⟨Reps.back hl eH sF _ _ hs h, q⟩⟩
  | non => exact ⟨Rep.back hl eH sF _ _ hs h.1, h.2⟩
  | bl _ => exact ⟨Rep.back hl eH sF _ _ hs h.1, h.2⟩
  | int _ => exact ⟨Rep.back hl eH sF _ _ hs h.1, h.2⟩
  | str _ => exact ⟨Rep.back hl eH sF _ _ hs h.1, h.2⟩
  | scr _ => cases hs
  | frz _ => cases hs
  | err _ _ => cases hs
  | obj _ _ => cases hs
theorem snd_callo (G : Good S X N nm) {i : Nat} {xs : CL} {x : Str} {e : Expr} {es : List Expr} {p pos : Pos} (hx : S.L.fnN[i]? = some x) (hf : (S.L.fns[i]?).isSome = true) (hg : glB nm x = true) (ha : PA X (e :: es) (tL S xs))
    (he : starEach (e :: es) X.env = (false, eval e X.env) :: starEach es X.env) (hpl : (backTo pos (starEach es X.env)).any (·.1) = false) : PE X (.Call (.Name x p) (e :: es) [] pos) (tE S (.callo i xs)) := by
  obtain ⟨g1, g2, g3⟩ := G.gl hg
  cases ef : S.L.fns[i]? with
  | none => rw [ef] at hf; cases hf
  | some fn =>
    have key : ∀ {g : Gh} {k : Kd} {T' : Tn}, kE S.L (.callo i xs) g.T = some (k, T') → ∃ ks, kL S.L xs g.T = some (ks, T') ∧ fn.io = false ∧ fn.back = 1 ∧ k = ⟨true, 1⟩ := fun {g k T'} c => by
      obtain ⟨ks, T1, c1, c⟩ := bind2 c
      have c : (match S.L.fns[i]? with
        | some fn => if fn.io = false ∧ fn.back = 1 then some ((⟨true, 1⟩ : Kd), T1) else none
        | none => none) = some (k, T') := c
      rw [ef] at c
      have c : (if fn.io = false ∧ fn.back = 1 then some ((⟨true, 1⟩ : Kd), T1) else none) = some (k, T') := c
      split at c
      · rename_i hz
        cases c
        exact ⟨ks, c1, hz.1, hz.2, rfl⟩
      · cases c
    by_cases hio : fn.io = false ∧ fn.back = 1
    case neg =>
      refine ⟨fun pins s σ H Q I q => ?_⟩
      obtain ⟨g, k, T', c, R, h⟩ := q
      obtain ⟨ks, _, h1, h2, _⟩ := key c
      exact absurd ⟨h1, h2⟩ hio
    case pos =>
    obtain ⟨a, fd, ps, m, kp, F, B⟩ := G.glob.fn i fn x ef hx
    rw [spA_f hio.1, hio.2] at F
    refine impE (pe_callSD (dvs := []) (E := fun σ cls dd H' => S.W cls dd σ H') F G.room g1 m kp B .nil (fun σ pins H s e s' I c => G.tk e s' (XE.of_call I (fun cls d H' h => h) c)) ha g2 he hpl) ?_
    rintro σ H Q ⟨g, k, T', c, R, h⟩
    obtain ⟨ks, c1, _, _, rfl⟩ := key c
    have h : AftE S g ⟨true, 1⟩ T' σ H ((evL S.w xs g.rho).bind fun ds => (S.w.call i ds).bind fun d => PV.R.need (sc1 d = true) (.ok d)) Q := h
    refine tL_all c1 R h fun vs ds H1 F1 s f l1 l2 R1 h1 => ?_
    rw [List.append_nil]
    have h1 : AftE S g ⟨true, 1⟩ T' σ H ((S.L.call S.n i ds).bind fun d => PV.R.need (sc1 d = true) (.ok d)) Q := h1
    obtain ⟨fa, R2, hl, r2⟩ := lend_cells R1 rfl l1 l2
    refine ⟨rest F1 H1 fa, ds, rest_dn R2.sF, by (first | rw [G.K] | rw [G.Kf]); exact r2, ?_⟩
    cases ec : S.L.call S.n i ds with
    | ok d =>
      rw [ec] at h1
      have h1 : AftE S g ⟨true, 1⟩ T' σ H (PV.R.need (sc1 d = true) (.ok d)) Q := h1
      intro v H' F' sH fF sF fr ⟨fp, hr, nd, hn⟩
      rcases need_cases (c := sc1 d = true) (r := PV.R.ok d) with ⟨hs, e⟩ | e
      · rw [e] at h1
        rw [G.K] at hr
        have hr := hr.back1 (F := F1) hl sH sF hs
        have e1 : Same F1 (PV.back F1 F' fa) := (R2.lent sH fF sF fr).1
        refine h1 v H' _ (s.trans sH) (f.trans e1) (R2.xcalled sH e1 (R2.lent sH fF sF fr).2.sF (fun p z => ?_) hr nd fun p hp => ?_)
        · unfold PV.back at z
          by_cases hz : p ∈ fa
          · rw [if_pos hz] at z; exact .inl z
          · rw [if_neg hz] at z
            rcases fr p z with w | w
            · unfold PV.rest at w
              rw [if_neg hz] at w
              exact .inl w
            · exact .inr w
        · obtain ⟨n1, n2⟩ := hn p hp
          refine ⟨?_, n2⟩
          unfold PV.back
          rw [if_neg fun z => by
            obtain ⟨o, q, _⟩ := hl p z
            rw [n2] at q; cases q]
          exact n1
      · rw [e] at h1; exact h1.elim
    | exc x =>
      rw [ec] at h1
      exact fun cls dd H' sH y => h1 cls dd H' (s.trans sH) y
    | bad => rw [ec] at h1; exact h1.elim
end
end PV
/-! PV10: targets, what is walked, comprehensions. -/
namespace PV
open PySem PySem.Spec PyProof.Rows L2
section
variable {K : KW} {F F' H H' : Hp} {g : Gh} {σ : L2.St} {v : V} {d : D}

/-! ### the ghost: a name takes a value at rest; names forgotten and back -/
theorem Rel.set0 {i : Nat} (R : Rel K g σ H) (h : Rep K g.F v d) (hi : i < g.rho.length) : Rel K { g with T := g.T.set i (some 0), rho := g.rho.set i (some d) } (σ.set i (some v)) H := by
  obtain ⟨ow, h1, h2, h3⟩ := R.ow
  refine ⟨R.s0, R.sF, R.sH, R.fr, ⟨ow, h1, fun j m d' f1 f2 => ?_, ?_⟩, by simpa using R.l1, by simpa using R.l2⟩
  · have f1 : (g.T.set i (some 0))[j]? = some (some m) := f1
    have f2 : (g.rho.set i (some d))[j]? = some (some d') := f2
    by_cases hj : j = i
    · subst hj
      have lT : j < g.T.length := by have := R.l2; have e : g.T.length = g.rho.length := this; omega
      have lσ : j < σ.length := by have e : σ.length = g.rho.length := R.l1; omega
      rw [List.getElem?_set_self lT] at f1
      rw [List.getElem?_set_self hi] at f2
      have e1 : 0 = m := by simpa using f1
      have e2 : d = d' := by simpa using f2
      subst e1 e2
      exact ⟨v, List.getElem?_set_self lσ, cell0 h⟩
    · rw [List.getElem?_set_ne (Ne.symm hj)] at f1 f2
      obtain ⟨u, eu, hu⟩ := h2 j m d' f1 f2
      exact ⟨u, by rw [List.getElem?_set_ne (Ne.symm hj)]; exact eu, hu⟩
  · show Temps K g.F H ow (g.rho.set i (some d)).length g.tau
    rw [List.length_set]; exact h3
theorem wipeD_length (ρ : Env) : ∀ vs : List Nat, (wipeD ρ vs).length = ρ.length
  | [] => rfl
  | v :: vs => by unfold wipeD; rw [List.length_set, wipeD_length ρ vs]
theorem wipeD_some {ρ : Env} {i : Nat} {x : D} : ∀ {vs : List Nat}, (wipeD ρ vs)[i]? = some (some x) → ρ[i]? = some (some x) ∧ i ∉ vs
  | [], h => ⟨h, by simp⟩
  | v :: vs, h => by
    unfold wipeD at h
    by_cases hi : v = i
    · subst hi
      by_cases hv : v < (wipeD ρ vs).length
      · rw [List.getElem?_set_self hv] at h; cases h
      · rw [List.getElem?_eq_none (by simpa using hv)] at h; cases h
    · rw [List.getElem?_set_ne hi] at h
      obtain ⟨h1, h2⟩ := wipeD_some h
      exact ⟨h1, by simp only [List.mem_cons, not_or]; exact ⟨fun e => hi e.symm, h2⟩⟩
theorem wipeD_out {ρ : Env} {i : Nat} : ∀ {vs : List Nat}, i ∉ vs → (wipeD ρ vs)[i]? = ρ[i]?
  | [], _ => rfl
  | v :: vs, h => by
    have h1 : v ≠ i := fun e => h (by rw [e]; exact List.mem_cons_self)
    have h2 : i ∉ vs := fun m => h (List.mem_cons_of_mem _ m)
    unfold wipeD
    rw [List.getElem?_set_ne h1]
    exact wipeD_out h2
theorem Rel.wiped (R : Rel K g σ H) (vs : List Nat) : Rel K { g with rho := wipeD g.rho vs } (wipe σ vs) H := by
  obtain ⟨ow, h1, h2, h3⟩ := R.ow
  refine ⟨R.s0, R.sF, R.sH, R.fr, ⟨ow, h1, fun j m d' f1 f2 => ?_, ?_⟩, ?_, ?_⟩
  · obtain ⟨f3, f4⟩ := wipeD_some f2
    obtain ⟨u, eu, hu⟩ := h2 j m d' f1 f3
    exact ⟨u, by rw [wipe_out f4]; exact eu, hu⟩
  · show Temps K g.F H ow (wipeD g.rho vs).length g.tau
    rw [wipeD_length]; exact h3
  · show (wipe σ vs).length = (wipeD g.rho vs).length
    rw [wipe_length, wipeD_length]; exact R.l1
  · show g.T.length = (wipeD g.rho vs).length
    rw [wipeD_length]; exact R.l2
theorem Rel.unwiped {vs : List Nat} {t : List Cell} (R0 : Rel K g σ H) (R : Rel K { g with F := F', tau := t, rho := wipeD g.rho vs } (wipe σ vs) H') (eF : Same g.F F') (hz : ∀ i ∈ vs, ∀ n, g.T[i]? = some (some n) → n = 0) : Rel K { g with F := F', tau := t } σ H' := by
  obtain ⟨ow0, a1, a2, a3⟩ := R0.ow
  obtain ⟨ow, h1, h2, h3⟩ := R.ow
  refine ⟨R.s0, R.sF, R.sH, R.fr, ⟨ow, h1, fun j m d' f1 f2 => ?_, ?_⟩, R0.l1, R0.l2⟩
  · by_cases hj : j ∈ vs
    · have z := hz j hj m f1
      subst z
      obtain ⟨u, eu, hu⟩ := a2 j 0 d' f1 f2
      exact ⟨u, eu, cell0 (hu.rep0.up eF)⟩
    · obtain ⟨u, eu, hu⟩ := h2 j m d' f1 (by show (wipeD g.rho vs)[j]? = _; rw [wipeD_out hj]; exact f2)
      exact ⟨u, by rw [← wipe_out hj]; exact eu, hu⟩
  · have h3 : Temps K F' H' ow (wipeD g.rho vs).length t := h3
    rw [wipeD_length] at h3; exact h3
end


/-! ### targets -/
theorem wipe_len (σ : L2.St) (vs : List Nat) : (wipe σ vs).length = σ.length := wipe_length σ vs
theorem wipe_in {σ : L2.St} {i : Nat} : ∀ {vs : List Nat}, i ∈ vs → i < σ.length → (wipe σ vs)[i]? = some none
  | [], h, _ => by cases h
  | v :: vs, h, hl => by
    unfold wipe
    by_cases hv : v = i
    · subst hv
      rw [List.getElem?_set_self (by rw [wipe_length]; exact hl)]
    · rw [List.getElem?_set_ne hv]
      exact wipe_in ((List.mem_cons.mp h).resolve_left fun z => hv z.symm) hl
theorem wipe_ext {σ τ : L2.St} {vs : List Nat} (hl : σ.length = τ.length) (h : ∀ i, i ∉ vs → σ[i]? = τ[i]?) : wipe σ vs = wipe τ vs := by
  apply List.ext_getElem?
  intro i
  by_cases hi : i ∈ vs
  · by_cases hz : i < σ.length
    · rw [wipe_in hi hz, wipe_in hi (hl ▸ hz)]
    · rw [List.getElem?_eq_none (by rw [wipe_length]; omega), List.getElem?_eq_none (by rw [wipe_length]; omega)]
  · rw [wipe_out hi, wipe_out hi, h i hi]
theorem wipe_wipe (σ : L2.St) (vs : List Nat) : wipe (wipe σ vs) vs = wipe σ vs := wipe_ext (wipe_length σ vs) fun i hi => wipe_out hi
def tgT : Tg → Tn → Tn
  | .one i, T => T.set i (some 0)
  | .nil, T => T
  | .cons t r, T => tgT r (tgT t T)
def tgLen : Tg → Nat
  | .cons _ r => tgLen r + 1
  | _ => 0
/-- the same but at the target's names -/
def Off (tg : Tg) (σ σ' : L2.St) : Prop := σ.length = σ'.length ∧ ∀ vs, tgIn vs tg = true → ∀ i, i ∉ vs → σ[i]? = σ'[i]?
theorem Off.wipe {tg : Tg} {σ σ' : L2.St} {vs : List Nat} (h : Off tg σ σ') (hi : tgIn vs tg = true) : L2.wipe σ' vs = L2.wipe σ vs := (wipe_ext h.1 (h.2 vs hi)).symm
def tG (S : Sx) (tg : Tg) : TG := fun v σ H Q => ∃ (g : Gh) (d : D) (ρ' : Env), Rep S.K g.F v d ∧ Rel S.K g σ H ∧ giveT tg d g.rho = .ok ρ' ∧ ∀ σ', Off tg σ σ' → Rel S.K { g with T := tgT tg g.T, rho := ρ' } σ' H → Q σ' H
def tGs (S : Sx) (tg : Tg) : TGs := fun vs σ H Q => ∃ (g : Gh) (ds : List D) (ρ' : Env), Reps S.K g.F vs ds ∧ Rel S.K g σ H ∧ giveT tg (.tup ds) g.rho = .ok ρ' ∧ ∀ σ', Off tg σ σ' → Rel S.K { g with T := tgT tg g.T, rho := ρ' } σ' H → Q σ' H
section
variable {S : Sx} {X : Cx} {N : List Str} {nm : Nm}
theorem impG {e : Expr} {t t' : TG} (h : PG X e t) (i : ∀ v σ H Q, t' v σ H Q → t v σ H Q) : PG X e t' := ⟨fun pins s σ H v u Q I r q => h.run pins s σ H v u Q I r (i v σ H Q q)⟩
theorem impGs {e : List Expr} {t t' : TGs} (h : PGs X e t) (i : ∀ v σ H Q, t' v σ H Q → t v σ H Q) : PGs X e t' := ⟨fun pins s σ H v u Q I r q => h.run pins s σ H v u Q I r (i v σ H Q q)⟩

theorem each_mT (env : PySem.Env) : ∀ (tg : Tg) (es : List Expr), mTs N nm tg es = true → (assignEach es env).length = es.length ∧ (assignEach es env).findIdx? (·.1) = none
  | .nil, [], _ => ⟨rfl, rfl⟩
  | .cons t r, e :: es, h => by
    simp only [mTs, Bool.and_eq_true] at h
    obtain ⟨a1, a2⟩ := each_mT env r es h.2
    have e1 : assignEach (e :: es) env = (false, assign e env) :: assignEach es env := by
      have h := h.1
      cases e <;> first
        | rfl
        | (cases t <;> simp only [mT] at h <;> cases h)
    rw [e1]
    refine ⟨by simp [a1], ?_⟩
    rw [List.findIdx?_cons]
    simp [a2]
  | .one _, _, h => by simp [mTs] at h
  | .nil, _ :: _, h => by simp [mTs] at h
  | .cons _ _, [], h => by simp [mTs] at h
theorem step_mTs (env : PySem.Env) {t r : Tg} {e : Expr} {es : List Expr} (h : mT N nm t e = true) : (assignEach (e :: es) env).map (·.2) = assign e env :: (assignEach es env).map (·.2) := by
  cases e <;> first
    | rfl
    | (cases t <;> simp only [mT] at h <;> cases h)
theorem give_len : ∀ {tg : Tg} {ds : List D} {ρ ρ' : Env} {es : List Expr}, mTs N nm tg es = true → giveT tg (.tup ds) ρ = .ok ρ' → ds.length = es.length
  | .nil, [], _, _, [], _, _ => rfl
  | .nil, _ :: _, _, _, _, _, h => by simp [giveT] at h
  | .cons t r, d :: ds, ρ, ρ', e :: es, h, hg => by
    simp only [mTs, Bool.and_eq_true] at h
    simp only [giveT] at hg
    cases e1 : giveT t d ρ with
    | ok ρ1 =>
      rw [e1] at hg
      exact congrArg Nat.succ (give_len h.2 hg)
    | exc _ => rw [e1] at hg; cases hg
    | bad => rw [e1] at hg; cases hg
  | .one _, _, _, _, _, h, _ => by simp [mTs] at h
  | .nil, _, _, _, _ :: _, h, _ => by simp [mTs] at h
  | .cons _ _, _, _, _, [], h, _ => by simp [mTs] at h
  | .cons _ _, [], _, _, _, _, h => by simp [giveT] at h
theorem give_tup : ∀ {tg : Tg} {d : D} {ρ ρ' : Env} {es : List Expr}, mTs N nm tg es = true → giveT tg d ρ = .ok ρ' → ∃ ds, d = .tup ds
  | .nil, d, _, _, _, _, h => by
    cases d <;> first
      | exact ⟨_, rfl⟩
      | simp [giveT] at h
  | .cons t r, d, ρ, ρ', _, _, h => by
    cases d <;> first
      | exact ⟨_, rfl⟩
      | simp [giveT] at h
  | .one _, _, _, _, _, h, _ => by simp [mTs] at h
mutual
theorem snd_tg (G : Good S X N nm) : ∀ (tg : Tg) (e : Expr), mT N nm tg e = true → PG X e (tG S tg)
  | .one i, e, h => by
    cases e with
    | Name x pos =>
      simp only [mT, Bool.and_eq_true, decide_eq_true_eq] at h
      obtain ⟨l1, l2⟩ := G.loc h.2
      refine impG (pg_name (i := i) (by rw [G.hN]; exact G.nd) (by rw [G.hN]; exact h.1) l1 l2) ?_
      rintro v σ H Q ⟨g, d, ρ', r, R, e, q⟩
      unfold giveT at e
      obtain ⟨hi, e⟩ := PV.R.need_eq e
      cases e
      refine q _ ⟨by rw [List.length_set], fun vs hv j hj => ?_⟩ (R.set0 r hi)
      have hv : i ∈ vs := by simpa [tgIn] using hv
      rw [List.getElem?_set_ne fun z => hj (by rw [← z]; exact hv)]
    | _ => simp [mT] at h
  | .nil, e, h => by
    cases e with
    | Tuple es k pos =>
      have h : mTs N nm .nil es = true := by
        cases es with
        | nil => rfl
        | cons _ _ => simp [mT] at h
      obtain ⟨a1, a2⟩ := each_mT X.env _ _ h
      refine impG (pg_tup (n := es.length) (k := k) G.calm (snd_tgs G .nil es h) a1 a2) ?_
      rintro v σ H Q ⟨g, d, ρ', r, R, e, q⟩
      obtain ⟨ds, rfl⟩ := give_tup h e
      obtain ⟨p, vs, rfl, sq, rs⟩ := r.tup_inv
      refine ⟨p, vs, rfl, by (first | rw [G.K] | rw [G.Kf]); exact same_t R.sF sq, by rw [rs.length]; exact give_len h e, g, ds, ρ', rs, R, e, q⟩
    | _ => simp [mT] at h
  | .cons t u, e, h => by
    cases e with
    | Tuple es k pos =>
      have h : mTs N nm (.cons t u) es = true := by
        cases es with
        | nil => simp [mT] at h
        | cons _ _ => simpa [mT, mTs] using h
      obtain ⟨a1, a2⟩ := each_mT X.env _ _ h
      refine impG (pg_tup (n := es.length) (k := k) G.calm (snd_tgs G (.cons t u) es h) a1 a2) ?_
      rintro v σ H Q ⟨g, d, ρ', r, R, e, q⟩
      obtain ⟨ds, rfl⟩ := give_tup h e
      obtain ⟨p, vs, rfl, sq, rs⟩ := r.tup_inv
      refine ⟨p, vs, rfl, by (first | rw [G.K] | rw [G.Kf]); exact same_t R.sF sq, by rw [rs.length]; exact give_len h e, g, ds, ρ', rs, R, e, q⟩
    | _ => simp [mT] at h
theorem snd_tgs (G : Good S X N nm) : ∀ (tg : Tg) (es : List Expr), mTs N nm tg es = true → PGs X es (tGs S tg)
  | .nil, es, h => by
    cases es with
    | cons _ _ => simp [mTs] at h
    | nil =>
      refine impGs pgs_nil ?_
      rintro vs σ H Q ⟨g, ds, ρ', r, R, e, q⟩
      cases ds with
      | cons _ _ => simp [giveT] at e
      | nil =>
        cases r
        simp only [giveT] at e
        cases e
        exact ⟨rfl, q σ ⟨rfl, fun _ _ _ _ => rfl⟩ R⟩
  | .cons t u, es, h => by
    cases es with
    | nil => simp [mTs] at h
    | cons e es =>
      have h' := h
      simp only [mTs, Bool.and_eq_true] at h'
      refine impGs (pgs_cons (snd_tg G t e h'.1) (snd_tgs G u es h'.2) (step_mTs (r := u) X.env h'.1)) ?_
      rintro vs σ H Q ⟨g, ds, ρ', r, R, e, q⟩
      cases ds with
      | nil => simp [giveT] at e
      | cons d ds =>
        cases r with
        | cons r rr =>
          simp only [giveT] at e
          cases e1 : giveT t d g.rho with
          | ok ρ1 =>
            rw [e1] at e
            refine ⟨_, _, rfl, g, d, ρ1, r, R, e1, fun σ1 o1 R1 => ⟨{ g with T := tgT t g.T, rho := ρ1 }, ds, ρ', rr, R1, e, fun σ2 o2 R2 => q σ2 ⟨o1.1.trans o2.1, fun vs hv i hi => ?_⟩ R2⟩⟩
            simp only [tgIn, Bool.and_eq_true] at hv
            rw [o1.2 vs hv.1 i hi, o2.2 vs hv.2 i hi]
          | exc _ => rw [e1] at e; cases e
          | bad => rw [e1] at e; cases e
  | .one _, _, h => by simp [mTs] at h
end
end
end PV
/-! PV11: what is walked. -/
namespace PV
open PySem PySem.Spec PyProof.Rows L2
section
variable {S : Sx} {X : Cx} {N : List Str} {nm : Nm}

/-- an item of data at rest, the heap as it was -/
def YD (K : KW) (F : Hp) (ds : List D) : Nat → Hp → V → Hp → Prop := fun i H x H' => ∃ d, ds[i]? = some d ∧ ((H' = H ∧ Rep K F x d) ∨ ∃ T v1 v2 d1 d2, x = .ref T ∧ H T = none ∧ H' = upd H T (.tup [v1, v2]) ∧ Rep K F v1 d1 ∧ Rep K F v2 d2 ∧ d = .tup [d1, d2])
theorem yield_rel {K : KW} {g : Gh} {σ : L2.St} {F0 H H' : Hp} {ds : List D} {i : Nat} {x : V} (R : Rel K g σ H) (y : YD K F0 ds i H x H') (f : Same F0 g.F) : ∃ F' d, ds[i]? = some d ∧ Same g.F F' ∧ Same H H' ∧ Rel K { g with F := F' } σ H' ∧ Rep K F' x d := by
  obtain ⟨d, e, ⟨eH, r⟩ | ⟨T, v1, v2, d1, d2, rfl, hT, rfl, r1, r2, rfl⟩⟩ := y
  · subst eH
    exact ⟨g.F, d, e, Same.refl _, Same.refl _, R, r.up f⟩
  · have hF := (R.free hT).2
    have rs : Reps K g.F [v1, v2] [d1, d2] := .cons (r1.up f) (.cons (r2.up f) .nil)
    have R1 := R.xnewTup (p := T) hT rs
    have eF : Same g.F (upd g.F T (.tup [v1, v2])) := fun a o e => by rw [upd_ne (ne_of_none e hF)]; exact e
    exact ⟨_, _, e, eF, fun a o e => by rw [upd_ne (ne_of_none e hT)]; exact e, R1.xpop rfl, .tup (SqT.of upd_same) (rs.up eF)⟩
def AftI (S : Sx) (g : Gh) (k : Kd) (T' : Tn) (σ : L2.St) (H : Hp) (r : R (List D)) (RR : It → Hp → Prop) : Prop := match r with
  | .ok ds => ∀ J H' F' GG, Same H H' → Same g.F F' → Rel S.K { g with F := F', T := T' } σ H' → Walk J ds.length GG (YD S.K F' ds) → (∀ H'', Same H' H'' → GG H'') → (k.own = true → ∀ H'', Same F' H'' → GG H'') → RR J H'
  | .exc e => ∀ cls dd H', Same H H' → S.eat e cls dd H' → S.W cls dd σ H'
  | .bad => False
def tI (S : Sx) (c : CI) : TI := fun σ H RR => ∃ (g : Gh) (k : Kd) (T' : Tn), kI S.L c g.T = some (k, T') ∧ Rel S.K g σ H ∧ AftI S g k T' σ H (evI S.w c g.rho) RR
theorem impI {tg e : Expr} {t t' : TI} (h : PI X tg e t) (i : ∀ σ H Q, t' σ H Q → t σ H Q) : PI X tg e t' := ⟨fun pins s σ H Q I q => h.run pins s σ H Q I (i σ H Q q)⟩

/-! ### a dict by its keys -/
def ItD (w : World) (p : Addr) (ob : Obj) (ks : List D) (us ws : List V) : It :=
  ⟨fun i H => Rd H p (DicO w p ob ks us ws) ∧ i < ks.length, fun i H x H' => H' = H ∧ us[i]? = some x, fun i H => Rd H p (DicO w p ob ks us ws) ∧ ks.length ≤ i⟩
theorem turn_D {P : Program} {w : World} {K : PySem.W.Frag} {tg : Expr} {p : Addr} {ob : Obj} {ks : List D} {us ws : List V} {es : Array DictEntry} {ep : Nat} (it : Addr) (hod : ob.data = .dict es ep) : Turn P w K tg (ItD w p ob ks us ws) [it] it (fun i h => h.IsKeyIter it p i ks.length ep) where
  mem := by simp
  obj := fun i h st b hb => by
    have e : b = it := by simpa using hb
    subst e
    obtain ⟨oi, e, c, dd⟩ := st
    exact ⟨oi, e, fun v z => by rw [dd] at z; cases z⟩
  keep := fun i h h' st k => st.at fun oi e => k it (by simp) oi e
  item := by
    intro X hP hw hK hc i pins s σ H E I hf st hg
    subst hP hw hK
    obtain ⟨hd, hi⟩ := hg
    obtain ⟨f0, f1, f2, f3, f4, f5⟩ := hf it (by simp)
    obtain ⟨hs, hz, hn, hgd, hx, es', ep', hdt, ent⟩ := dic_at I hd
    obtain ⟨rfl, rfl⟩ := dict_ep hod hdt
    obtain ⟨l1, l2, l3⟩ := ent.len
    obtain ⟨u, hu⟩ : ∃ u, us[i]? = some u := ⟨us[i]'(by omega), List.getElem?_eq_getElem _⟩
    obtain ⟨en, v, hen, ru, _⟩ := ents_get ent hu
    have hen : es'[i]? = some en := by rw [← Array.getElem?_toList]; exact hen
    have hsz : es'.size = ks.length := by rw [← Array.length_toList]; exact l1
    refine next_key_item st hgd hdt hsz hen fun h' st' sb => ?_
    have I1 : Inv X pins σ H { s with heap := h' } := I.turned (t' := s.toks) (fun b ob hb e => (sb.2 b hb).trans e) f0 f1 f3 f4 f5
    obtain ⟨oi, e, c, dd⟩ := id st'
    exact ⟨en.key, rfl, go_of (s := { s with heap := h' }) e c dd (by decide) ⟨u, H, I1, ru, ⟨rfl, hu⟩, st', fun b hb => (hf b hb).1⟩⟩
  done := by
    intro X hP hw hK hc i pins s σ H E I hf st hg
    subst hP hw hK
    obtain ⟨hd, hi⟩ := hg
    obtain ⟨f0, f1, f2, f3, f4, f5⟩ := hf it (by simp)
    obtain ⟨hs, hz, hn, hgd, hx, es', ep', hdt, ent⟩ := dic_at I hd
    obtain ⟨rfl, rfl⟩ := dict_ep hod hdt
    obtain ⟨l1, l2, l3⟩ := ent.len
    have hsz : es'.size = ks.length := by rw [← Array.length_toList]; exact l1
    exact next_key_end (I.ok.hd hc) st hgd hdt hsz hi fun h' eb => ⟨rfl, I.turned (t' := s.toks) (fun b ob hb e => eb b ob hb e) f0 f1 f3 f4 f5⟩
  self := fun A i s Q E st h => by
    refine wpAny_pyIter_slot st.typeIs F.slot_dict_keyiterator_iter (wpAny_call_entry F.slot_dict_keyiterator_iter st.typeIs F.entry_dict_keyiterator_iter ?_ (F.args_dict_keyiterator_iter_1 _))
    show wpAny _ _ (ret (.ref it)) _ _ s
    exact wpAny_pure ⟨_, rfl, "dict_keyiterator", _, st.typeIs, F.slot_dict_keyiterator_next.lookup, h⟩
theorem walk_D {K : KW} {F : Hp} {p : Addr} {ob : Obj} {ks : List D} {us ws : List V} (r : Reps K F us ks) : Walk (ItD K.wd p ob ks us ws) ks.length (fun H => Rd H p (DicO K.wd p ob ks us ws)) (YD K F ks) :=
  ⟨fun i H hi h => ⟨h, hi⟩, fun H h => ⟨h, Nat.le_refl _⟩, fun i H x H' hi h y => by
    obtain ⟨e1, e2⟩ := y
    obtain ⟨d, h1, h2⟩ := r.getV e2
    exact ⟨d, h1, .inl ⟨e1, h2⟩⟩⟩
def iSeq (K : KW) (tl : TE) : TI := fun σ H R => tl σ H fun x H1 =>
  (∃ a, x = .ref a ∧ (∃ xs, SqL K H1 a xs) ∧ R (Itl K a) H1) ∨ (∃ a, x = .ref a ∧ (∃ xs, SqT K H1 a xs) ∧ R (Itt K a) H1) ∨ (∃ z, x = .str z ∧ R (Its z) H1) ∨ (∃ p ob ks us ws, x = .ref p ∧ Rd H1 p (DicO K.wd p ob ks us ws) ∧ R (ItD K.wd p ob ks us ws) H1)
theorem pi_seq {tg l : Expr} {tl : TE} (hl : PE X l tl) : PI X tg l (iSeq (kwOf X) tl) := by
  refine ⟨fun pins s σ H R I h => ?_⟩
  refine thn (hl.run pins s σ H _ I h) fun v s1 ⟨x, H1, I1, r1, q1⟩ => ?_
  rcases q1 with ⟨a, e, ⟨xs, hq⟩, q⟩ | ⟨a, e, ⟨xs, hq⟩, q⟩ | ⟨z, e, q⟩ | ⟨p, ob, ks, us, ws, e, rd, q⟩
  · subst e
    cases r1
    obtain ⟨its, rv, p, hz⟩ := I1.list hq
    refine wpAny_pyIter_list p.isList ?_
    refine ⟨s1.heap.objs.size, [s1.heap.objs.size], _, _, H1, rfl, I1.kept (t' := s1.toks) fun b o e => Heap.get?_push_of_some _ e, turn_list a _, ⟨_, Heap.get?_push_size _ rfl, rfl, rfl⟩, fun b hb => ?_, q⟩
    have e : b = s1.heap.objs.size := by simpa using hb
    subst e
    exact I1.fpOk (Nat.le_refl _) (I1.hok.fresh (Nat.le_refl _))
  · subst e
    cases r1
    obtain ⟨its, rv, p, hz⟩ := I1.tuple hq
    refine wpAny_pyIter_tuple (show s1.heap.IsTuple a its.toArray from p) ?_
    refine ⟨s1.heap.objs.size, [s1.heap.objs.size], _, _, H1, rfl, I1.kept (t' := s1.toks) fun b o e => Heap.get?_push_of_some _ e, turn_tuple a _, ⟨_, Heap.get?_push_size _ rfl, rfl, rfl⟩, fun b hb => ?_, q⟩
    have e : b = s1.heap.objs.size := by simpa using hb
    subst e
    exact I1.fpOk (Nat.le_refl _) (I1.hok.fresh (Nat.le_refl _))
  · subst e
    obtain ⟨t, rfl⟩ := r1
    cases ha : z.cps.all (· < 128)
    · exact wpAny_pyIter_wide ha (pi_one (tk := s1.toks) I1 _ (turn_str _ z t "str_iterator" (.inr rfl)) ⟨_, Heap.get?_push_size _ rfl, rfl, rfl⟩ q)
    · exact wpAny_pyIter_ascii ha (pi_one (tk := s1.toks) I1 _ (turn_str _ z t "str_ascii_iterator" (.inl rfl)) ⟨_, Heap.get?_push_size _ rfl, rfl, rfl⟩ q)
  · subst e
    obtain rfl : v = Value.ref p := r1
    obtain ⟨hs, hz, hn, hgd, hx, es, ep, hdt, ent⟩ := dic_at I1 rd
    have hsz : es.size = ks.length := by rw [← Array.length_toList]; exact ent.len.1
    refine iter_keys hs hgd hx hdt (pi_one (tk := s1.toks) I1 _ (turn_D _ hdt) ⟨_, Heap.get?_push_size _ rfl, rfl, ?_⟩ q)
    rw [hsz] <;> rfl

theorem yd_list {K : KW} {F : Hp} {vs : List V} {ds : List D} (r : Reps K F vs ds) : ∀ i H x H', YAt vs i H x H' → YD K F ds i H x H' := fun i H x H' ⟨e1, e2⟩ => by
  obtain ⟨d, h1, h2⟩ := r.getV e2
  exact ⟨d, h1, .inl ⟨e1, h2⟩⟩
theorem walk_L {K : KW} {F : Hp} {p : Addr} {vs : List V} {ds : List D} (r : Reps K F vs ds) : Walk (Itl K p) ds.length (fun H => SqL K H p vs) (YD K F ds) := by
  rw [← r.length]
  exact walk_list.mono (fun _ h => h) fun i H x H' _ _ y => yd_list r i H x H' y
theorem walk_T {K : KW} {F : Hp} {p : Addr} {vs : List V} {ds : List D} (r : Reps K F vs ds) : Walk (Itt K p) ds.length (fun H => SqT K H p vs) (YD K F ds) := by
  rw [← r.length]
  exact walk_tup.mono (fun _ h => h) fun i H x H' _ _ y => yd_list r i H x H' y
theorem walk_S {K : KW} {F : Hp} {s : List Nat} (ok : okS s) : Walk (Its (mkS s)) (s.map fun c => D.str [c]).length (fun _ => True) (YD K F (s.map fun c => D.str [c])) := by
  rw [List.length_map]
  refine (walk_str (z := mkS s)).mono (fun _ h => h) fun i H x H' _ _ y => ?_
  obtain ⟨e, c, e1, e2⟩ := y
  have e1 : s[i]? = some c := by simpa using e1
  refine ⟨.str [c], by rw [List.getElem?_map, e1]; rfl, .inl ⟨e, ?_⟩⟩
  rw [e2]
  refine Rep.str [c] ⟨by show 1 ≤ sizeLine; decide, fun x hx => ?_⟩
  have hx : x = c := by simpa using hx
  rw [hx]
  exact ok.2 c (List.mem_of_getElem? e1)
theorem sqL_rd {K : KW} {H : Hp} {a : Addr} {xs : List V} (h : Rd H a (.lst xs)) : SqL K H a xs := .inl h
theorem snd_seq (G : Good S X N nm) {tg e : Expr} {c : CE} (hc : PE X e (tE S c)) : PI X tg e (tI S (.seq c)) := by
  refine impI (pi_seq hc) ?_
  rintro σ H RR ⟨g, k, T', c', R, h⟩
  obtain ⟨k1, T1, c1, c'⟩ := bind2 c'
  have c' : (if k1.own = true ∨ k1.n ≤ 1 then some (k1, T1) else none) = some (k, T') := c'
  split at c'
  · rename_i hk
    cases c'
    refine ⟨g, k, T', c1, R, ?_⟩
    have h : AftI S g k T' σ H ((evE S.w c g.rho).bind seqD) RR := h
    cases e1 : evE S.w c g.rho with
    | exc e => rw [e1] at h; exact h
    | bad => rw [e1] at h; exact h.elim
    | ok d =>
      rw [e1] at h
      intro v H1 F1 s1 f1 R1
      obtain ⟨ko, kn⟩ := k
      cases ko with
      | true =>
        obtain ⟨F2, R2, f2⟩ := R1.xrest rfl
        have r := R2.xhead0 rfl
        have R3 := R2.xpop rfl
        have f3 : Same g.F F2 := f1.trans f2
        cases d with
        | lst ds =>
          obtain ⟨p, vs, rfl, h1, h2⟩ := r.lst_inv
          (first | rw [G.K] | rw [G.Kf])
          exact .inl ⟨p, rfl, ⟨vs, sqL_rd (same_rd R2.sF h1)⟩, h (Itl S.K p) H1 F2 (fun H => SqL S.K H p vs) s1 f3 R3 (walk_L h2) (fun H'' s => sqL_rd (same_rd (R2.sF.trans s) h1)) fun _ H'' s => sqL_rd (same_rd s h1)⟩
        | tup ds =>
          obtain ⟨p, vs, rfl, h1, h2⟩ := r.tup_inv
          (first | rw [G.K] | rw [G.Kf])
          exact .inr (.inl ⟨p, rfl, ⟨vs, same_t R2.sF h1⟩, h (Itt S.K p) H1 F2 (fun H => SqT S.K H p vs) s1 f3 R3 (walk_T h2) (fun H'' s => same_t (R2.sF.trans s) h1) fun _ H'' s => same_t s h1⟩)
        | str s =>
          obtain ⟨rfl, ok⟩ := r.str_inv
          exact .inr (.inr (.inl ⟨_, rfl, h (Its (mkS s)) H1 F2 (fun _ => True) s1 f3 R3 (walk_S ok) (fun _ _ => trivial) fun _ _ _ => trivial⟩))
        | dic ks vs =>
          cases r with
          | dic h1 h2 h3 =>
            (first | rw [G.K] | rw [G.Kf])
            exact .inr (.inr (.inr ⟨_, _, _, _, _, rfl, same_rd R2.sF h1, h (ItD S.K.wd _ _ _ _ _) H1 F2 (fun H => Rd H _ _) s1 f3 R3 (walk_D h2) (fun H'' s => same_rd (R2.sF.trans s) h1) fun _ H'' s => same_rd s h1⟩))
        | _ => exact h.elim
      | false =>
        have hn : kn ≤ 1 := hk.resolve_left fun z => nomatch z
        have r := R1.sh1 rfl hn
        have R3 := R1.xpop rfl
        cases d with
        | lst ds =>
          obtain ⟨p, vs, rfl, h1, h2⟩ := r.lst R1.sF
          (first | rw [G.K] | rw [G.Kf])
          exact .inl ⟨p, rfl, ⟨vs, sqL_rd h1⟩, h (Itl S.K p) H1 F1 (fun H => SqL S.K H p vs) s1 f1 R3 (walk_L h2) (fun H'' s => sqL_rd (same_rd s h1)) fun z => nomatch z⟩
        | tup ds =>
          obtain ⟨p, vs, rfl, h1, h2⟩ := r.tup
          (first | rw [G.K] | rw [G.Kf])
          exact .inr (.inl ⟨p, rfl, ⟨vs, same_t R1.sF h1⟩, h (Itt S.K p) H1 F1 (fun H => SqT S.K H p vs) s1 f1 R3 (walk_T h2) (fun H'' s => same_t (R1.sF.trans s) h1) fun z => nomatch z⟩)
        | str s =>
          obtain ⟨rfl, ok⟩ := r.str
          exact .inr (.inr (.inl ⟨_, rfl, h (Its (mkS s)) H1 F1 (fun _ => True) s1 f1 R3 (walk_S ok) (fun _ _ => trivial) fun z => nomatch z⟩))
        | dic ks vs =>
          obtain ⟨p, ob, us, ws, rfl, h1, h2, h3⟩ := r.dic R1.sF
          (first | rw [G.K] | rw [G.Kf])
          exact .inr (.inr (.inr ⟨p, ob, ks, us, ws, rfl, h1, h (ItD S.K.wd p ob ks us ws) H1 F1 (fun H => Rd H p _) s1 f1 R3 (walk_D h2) (fun H'' s => same_rd s h1) fun z => nomatch z⟩))
        | _ => exact h.elim
  · cases c'
theorem walk_R {K : KW} {F : Hp} (a b : Int) : Walk (Itr a (b - a).toNat) (rngD a b).length (fun _ => True) (YD K F (rngD a b)) := by
  have e : (rngD a b).length = (b - a).toNat := by simp [rngD]
  rw [e]
  refine (walk_range (lo := a) (n := (b - a).toNat)).mono (fun _ h => h) fun i H x H' hi _ y => ?_
  obtain ⟨e1, e2⟩ := y
  exact ⟨.int (a + i), by simp [rngD, hi], .inl ⟨e1, by rw [e2]; exact .int _⟩⟩
theorem snd_rng1 (G : Good S X N nm) {tg e : Expr} {a : CE} {p pos : Pos} (hg : glB nm "range" = true) (ha : PE X e (tE S a)) (hs : starEach [e] X.env = [(false, eval e X.env)]) : PI X tg (.Call (.Name "range" p) [e] [] pos) (tI S (.rng1 a)) := by
  obtain ⟨g1, g2, g3⟩ := G.gl hg
  refine impI (pi_range1 g1 (G.glob.blt _ (by decide)) (pa_cons ha pa_nil hs) hs) ?_
  rintro σ H RR ⟨g, k, T', c', R, h⟩
  obtain ⟨k1, T1, c1, c'⟩ := bind2 c'
  cases c'
  have h : AftI S g ⟨true, 0⟩ T' σ H ((evE S.w a g.rho).bind fun x => match x with
    | .int b => PV.R.need (smallR b) (.ok (rngD 0 b))
    | _ => .bad) RR := h
  refine ⟨g, k1, T', c1, R, ?_⟩
  cases e1 : evE S.w a g.rho with
  | exc e => rw [e1] at h; exact h
  | bad => rw [e1] at h; exact h.elim
  | ok d =>
    rw [e1] at h
    intro v H1 F1 s1 f1 R1
    cases d with
    | int b =>
      have r := R1.see1 rfl
      have hv : v = .int b := Rep.int_inv r
      subst hv
      have h : AftI S g ⟨true, 0⟩ T' σ H (PV.R.need (smallR b) (.ok (rngD 0 b))) RR := h
      by_cases hb : smallR b
      · rw [PV.R.need_ok hb] at h
        refine ⟨b, rfl, by have := hb.1; omega, by have := hb.2; omega, ?_⟩
        have w := walk_R (K := S.K) (F := F1) 0 b
        rw [Int.sub_zero] at w
        exact h (Itr 0 b.toNat) H1 F1 (fun _ => True) s1 f1 (R1.xpop rfl) w (fun _ _ => trivial) fun _ _ _ => trivial
      · unfold PV.R.need at h
        rw [if_neg hb] at h
        exact h.elim
    | _ => exact h.elim
theorem snd_rng2 (G : Good S X N nm) {tg e f : Expr} {a b : CE} {p pos : Pos} (hg : glB nm "range" = true) (ha : PE X e (tE S a)) (hb : PE X f (tE S b)) (hs : starEach [e, f] X.env = [(false, eval e X.env), (false, eval f X.env)]) (hs2 : starEach [f] X.env = [(false, eval f X.env)]) :
    PI X tg (.Call (.Name "range" p) [e, f] [] pos) (tI S (.rng2 a b)) := by
  obtain ⟨g1, g2, g3⟩ := G.gl hg
  refine impI (pi_range2 g1 (G.glob.blt _ (by decide)) (pa_cons ha (pa_cons hb pa_nil hs2) (by rw [hs, hs2])) hs hs2) ?_
  rintro σ H RR ⟨g, k, T', c', R, h⟩
  obtain ⟨k1, T1, c1, c'⟩ := bind2 c'
  obtain ⟨k2, T2, c2, c'⟩ := bind2 c'
  cases c'
  have h : AftI S g ⟨true, 0⟩ T' σ H ((evE S.w a g.rho).bind fun x => (evE S.w b g.rho).bind fun y => match x, y with
    | .int a, .int b => PV.R.need (smallR a ∧ smallR b) (.ok (rngD a b))
    | _, _ => .bad) RR := h
  refine ⟨g, k1, T1, c1, R, ?_⟩
  cases e1 : evE S.w a g.rho with
  | exc e => rw [e1] at h; exact h
  | bad => rw [e1] at h; exact h.elim
  | ok d =>
    rw [e1] at h
    intro v H1 F1 s1 f1 R1
    refine ⟨_, k2, T', c2, R1, ?_⟩
    show AftE S _ k2 T' σ H1 (evE S.w b g.rho) _
    cases e2 : evE S.w b g.rho with
    | exc e => rw [e2] at h; exact fun cls dd H' s x => h cls dd H' (s1.trans s) x
    | bad => rw [e2] at h; exact h.elim
    | ok d2 =>
      rw [e2] at h
      intro v2 H2 F2 s2 f2 R2
      cases d with
      | int x =>
        cases d2 with
        | int y =>
          have hv : v = .int x := Rep.int_inv (R2.see2 rfl)
          have hv2 : v2 = .int y := Rep.int_inv (R2.see1 rfl)
          subst hv hv2
          have h : AftI S g ⟨true, 0⟩ T' σ H (PV.R.need (smallR x ∧ smallR y) (.ok (rngD x y))) RR := h
          by_cases hb : smallR x ∧ smallR y
          · rw [PV.R.need_ok hb] at h
            refine ⟨x, y, rfl, ⟨by have := hb.1.1; omega, by have := hb.1.2; omega, by have := hb.2.1; omega, by have := hb.2.2; omega⟩, ?_⟩
            exact h (Itr x (y - x).toNat) H2 F2 (fun _ => True) (s1.trans s2) (f1.trans f2) ((R2.xpop rfl).xpop rfl) (walk_R x y) (fun _ _ => trivial) fun _ _ _ => trivial
          · unfold PV.R.need at h
            rw [if_neg hb] at h
            exact h.elim
        | _ => exact h.elim
      | _ => exact h.elim
theorem walk_Z {K : KW} {F : Hp} {p q : Addr} {vs ws : List V} {ds es : List D} (r1 : Reps K F vs ds) (r2 : Reps K F ws es) : Walk (Itz K p q) (List.zipWith (fun a b => D.tup [a, b]) ds es).length (fun H => SqL K H p vs ∧ SqL K H q ws) (YD K F (List.zipWith (fun a b => D.tup [a, b]) ds es)) := by
  have e : (List.zipWith (fun a b => D.tup [a, b]) ds es).length = min vs.length ws.length := by rw [List.length_zipWith, r1.length, r2.length]
  rw [e]
  refine (walk_zip (xs := vs) (ys := ws) rfl).mono (fun _ h => h) fun i H x H' _ _ y => ?_
  obtain ⟨T, v1, v2, h1, h2, h3, h4, h5⟩ := y
  obtain ⟨d1, e1, q1⟩ := r1.getV h4
  obtain ⟨d2, e2, q2⟩ := r2.getV h5
  exact ⟨.tup [d1, d2], by rw [List.getElem?_zipWith, e1, e2], .inr ⟨T, v1, v2, d1, d2, h1, h2, h3, q1, q2, rfl⟩⟩
theorem walk_ZT {K : KW} {F : Hp} {p q : Addr} {vs ws : List V} {ds es : List D} (r1 : Reps K F vs ds) (r2 : Reps K F ws es) : Walk (RZ.ItzT K p q) (List.zipWith (fun a b => D.tup [a, b]) ds es).length (fun H => SqT K H p vs ∧ SqT K H q ws) (YD K F (List.zipWith (fun a b => D.tup [a, b]) ds es)) := by
  have e : (List.zipWith (fun a b => D.tup [a, b]) ds es).length = min vs.length ws.length := by rw [List.length_zipWith, r1.length, r2.length]
  rw [e]
  refine ⟨fun i H hi q => ?_, fun H q => ⟨vs, ws, q.1, q.2, by omega⟩, fun i H x H' _ q y => ?_⟩
  · have h1 : i < vs.length := by omega
    have h2 : i < ws.length := by omega
    exact ⟨vs, ws, vs[i], ws[i], q.1, q.2, by simp [h1], by simp [h2]⟩
  · obtain ⟨T, v1, v2, h1, h2, h3, h4, h5⟩ := y
    obtain ⟨d1, e1, q1⟩ := r1.getV (h4 vs q.1)
    obtain ⟨d2, e2, q2⟩ := r2.getV (h5 ws q.2)
    exact ⟨.tup [d1, d2], by rw [List.getElem?_zipWith, e1, e2], .inr ⟨T, v1, v2, d1, d2, h1, h2, h3, q1, q2, rfl⟩⟩
theorem snd_zip (G : Good S X N nm) {elts : List Expr} {kk : Nat} {tpos : Pos} {e f : Expr} {a b : CE} {p pos : Pos} (hg : glB nm "zip" = true) (ha : PE X e (tE S a)) (hb : PE X f (tE S b)) (hs : starEach [e, f] X.env = (false, eval e X.env) :: starEach [f] X.env) (hs2 : starEach [f] X.env = [(false, eval f X.env)]) :
    PI X (.Tuple elts kk tpos) (.Call (.Name "zip" p) [e, f] [] pos) (tI S (.zip a b)) := by
  obtain ⟨g1, g2, g3⟩ := G.gl hg
  refine impI (RZ.pi_zipA g1 (G.glob.blt _ (by decide)) (pa_cons ha (pa_cons hb pa_nil hs2) hs) hs (by rw [hs2]; rfl)) ?_
  rintro σ H RR ⟨g, k, T', c', R, h⟩
  obtain ⟨k1, T1, c1, c'⟩ := bind2 c'
  obtain ⟨k2, T2, c2, c'⟩ := bind2 c'
  have c' : (if k1.own = true ∧ k2.own = true then some ((⟨true, 0⟩ : Kd), T2) else none) = some (k, T') := c'
  split at c'
  case isFalse => cases c'
  rename_i hk
  cases c'
  have h : AftI S g ⟨true, 0⟩ T' σ H ((evE S.w a g.rho).bind fun x => (evE S.w b g.rho).bind fun y => zipD x y) RR := h
  refine ⟨g, k1, T1, c1, R, ?_⟩
  cases e1 : evE S.w a g.rho with
  | exc e => rw [e1] at h; exact h
  | bad => rw [e1] at h; exact h.elim
  | ok d =>
    rw [e1] at h
    intro v H1 F1 s1 f1 R1
    refine ⟨_, k2, T', c2, R1, ?_⟩
    show AftE S _ k2 T' σ H1 (evE S.w b g.rho) _
    cases e2 : evE S.w b g.rho with
    | exc e => rw [e2] at h; exact fun cls dd H' s x => h cls dd H' (s1.trans s) x
    | bad => rw [e2] at h; exact h.elim
    | ok d2 =>
      rw [e2] at h
      intro v2 H2 F2 s2 f2 R2
      obtain ⟨o1, n1⟩ := k1
      obtain ⟨o2, n2⟩ := k2
      have o1e : o1 = true := hk.1
      have o2e : o2 = true := hk.2
      subst o1e o2e
      obtain ⟨F3, R3, f3⟩ := R2.xrest rfl
      have r2 := R3.xhead0 rfl
      obtain ⟨F4, R4, f4⟩ := (R3.xpop rfl).xrest rfl
      have r1 := R4.xhead0 rfl
      have rr2 := r2.up f4
      have R5 := R4.xpop rfl
      have ff : Same g.F F4 := f1.trans (f2.trans (f3.trans f4))
      have h : AftI S g ⟨true, 0⟩ T' σ H (zipD d d2) RR := h
      cases d with
      | lst xs =>
        cases d2 with
        | lst ys =>
          obtain ⟨p1, vs, rfl, q1, q2⟩ := r1.lst_inv
          obtain ⟨p2, ws, rfl, q3, q4⟩ := rr2.lst_inv
          refine ⟨p1, p2, vs, ws, rfl, .inl ⟨by (first | rw [G.K] | rw [G.Kf]); exact sqL_rd (same_rd R5.sF q1), by (first | rw [G.K] | rw [G.Kf]); exact sqL_rd (same_rd R5.sF q3), ?_⟩⟩
          (first | rw [G.K] | rw [G.Kf])
          exact h (Itz S.K p1 p2) H2 F4 _ (s1.trans s2) ff R5 (walk_Z q2 q4) (fun H'' s => ⟨sqL_rd (same_rd (R5.sF.trans s) q1), sqL_rd (same_rd (R5.sF.trans s) q3)⟩) fun _ H'' s => ⟨sqL_rd (same_rd s q1), sqL_rd (same_rd s q3)⟩
        | _ => exact h.elim
      | tup xs =>
        cases d2 with
        | tup ys =>
          obtain ⟨p1, vs, rfl, q1, q2⟩ := r1.tup_inv
          obtain ⟨p2, ws, rfl, q3, q4⟩ := rr2.tup_inv
          refine ⟨p1, p2, vs, ws, rfl, .inr ⟨by (first | rw [G.K] | rw [G.Kf]); exact same_t R5.sF q1, by (first | rw [G.K] | rw [G.Kf]); exact same_t R5.sF q3, ?_⟩⟩
          (first | rw [G.K] | rw [G.Kf])
          exact h (RZ.ItzT S.K p1 p2) H2 F4 _ (s1.trans s2) ff R5 (walk_ZT q2 q4) (fun H'' s => ⟨same_t (R5.sF.trans s) q1, same_t (R5.sF.trans s) q3⟩) fun _ H'' s => ⟨same_t s q1, same_t s q3⟩
        | _ => exact h.elim
      | _ => exact h.elim
theorem rev_get {α : Type} {xs : List α} {i : Nat} {x : α} (hi : i < xs.length) (h : xs[xs.length - 1 - i]? = some x) : xs.reverse[i]? = some x := by
  rw [List.getElem?_reverse hi]; exact h
theorem snd_rev (G : Good S X N nm) {tg e : Expr} {a : CE} {p pos : Pos} (hg : glB nm "reversed" = true) (ha : PE X e (tE S a)) (hs : starEach [e] X.env = (false, eval e X.env) :: starEach [] X.env) :
    PI X tg (.Call (.Name "reversed" p) [e] [] pos) (tI S (.rev a)) := by
  obtain ⟨g1, g2, g3⟩ := G.gl hg
  refine impI (RT.pi_revA g1 (G.glob.blt _ (by decide)) ha hs) ?_
  rintro σ H RR ⟨g, k, T', c', R, h⟩
  obtain ⟨k1, T1, c1, c'⟩ := bind2 c'
  have c' : (if k1.own = true then some ((⟨true, 0⟩ : Kd), T1) else none) = some (k, T') := c'
  split at c'
  case isFalse => cases c'
  rename_i hk
  cases c'
  have h : AftI S g ⟨true, 0⟩ T' σ H ((evE S.w a g.rho).bind revD) RR := h
  refine ⟨g, k1, T', c1, R, ?_⟩
  cases e1 : evE S.w a g.rho with
  | exc e => rw [e1] at h; exact h
  | bad => rw [e1] at h; exact h.elim
  | ok d =>
    rw [e1] at h
    intro v H1 F1 s1 f1 R1
    obtain ⟨o1, n1⟩ := k1
    have o1e : o1 = true := hk
    subst o1e
    obtain ⟨F2, R2, f2⟩ := R1.xrest rfl
    have r := R2.xhead0 rfl
    have R3 := R2.xpop rfl
    have h : AftI S g ⟨true, 0⟩ T' σ H (revD d) RR := h
    cases d with
    | lst ds =>
      obtain ⟨p1, vs, rfl, q1, q2⟩ := r.lst_inv
      refine ⟨p1, vs, rfl, .inl ⟨by (first | rw [G.K] | rw [G.Kf]); exact sqL_rd (same_rd R3.sF q1), ?_⟩⟩
      (first | rw [G.K] | rw [G.Kf])
      refine h (Itv S.K p1 vs.length) H1 F2 (fun H => SqL S.K H p1 vs) s1 (f1.trans f2) R3 ?_ (fun H'' s => sqL_rd (same_rd (R3.sF.trans s) q1)) fun _ H'' s => sqL_rd (same_rd s q1)
      rw [List.length_reverse, ← q2.length]
      refine walk_rev.mono (fun _ h => h) fun i H x H' hi _ y => ?_
      obtain ⟨d, e2, r2⟩ := q2.reverse.getV (rev_get hi y.2)
      exact ⟨d, e2, .inl ⟨y.1, r2⟩⟩
    | tup ds =>
      obtain ⟨p1, vs, rfl, q1, q2⟩ := r.tup_inv
      refine ⟨p1, vs, rfl, .inr ⟨by (first | rw [G.K] | rw [G.Kf]); exact same_t R3.sF q1, ?_⟩⟩
      (first | rw [G.K] | rw [G.Kf])
      refine h (RT.ItvT S.K p1 vs.length) H1 F2 (fun H => SqT S.K H p1 vs) s1 (f1.trans f2) R3 ?_ (fun H'' s => same_t (R3.sF.trans s) q1) fun _ H'' s => same_t s q1
      rw [List.length_reverse, ← q2.length]
      refine ⟨fun i H hi q => ⟨hi, vs, vs[vs.length - 1 - i]'(by omega), q, by simp [show vs.length - 1 - i < vs.length by omega]⟩, fun _ _ => Nat.le_refl _, fun i H x H' hi q y => ?_⟩
      obtain ⟨d, e2, r2⟩ := q2.reverse.getV (rev_get hi (y.2 vs q))
      exact ⟨d, e2, .inl ⟨y.1, r2⟩⟩
    | _ => exact h.elim
end
end PV
/-! PV12: comprehensions. -/
namespace PV
open PySem PySem.Spec PyProof.Rows L2

/-! ### a block's ground -/
def Sx.blk (S : Sx) : Sx := { S with W := fun _ _ _ _ => False }
theorem relS_free {sc : Scope} : ∀ {names : List (Str × NameKind)} {x : Str}, names.lookup x = some .free →
    (names.map fun (n, k) => if (k == NameKind.free && sc.kind == .function && sc.names.lookup n == some .cell) then (n, NameKind.cell) else (n, k)).lookup x = some .free ∨
    (names.map fun (n, k) => if (k == NameKind.free && sc.kind == .function && sc.names.lookup n == some .cell) then (n, NameKind.cell) else (n, k)).lookup x = some .cell
  | [], _, h => by simp at h
  | (n, k₀) :: r, x, h => by
    have ih := @relS_free sc r x
    show List.lookup x ((if (k₀ == NameKind.free && sc.kind == .function && sc.names.lookup n == some .cell) = true then (n, NameKind.cell) else (n, k₀)) :: (r.map _)) = _ ∨ List.lookup x ((if (k₀ == NameKind.free && sc.kind == .function && sc.names.lookup n == some .cell) = true then (n, NameKind.cell) else (n, k₀)) :: (r.map _)) = _
    cases hx : x == n with
    | true =>
      simp only [List.lookup_cons, hx] at h
      cases h
      split
      · right; simp only [List.lookup_cons, hx]
      · left; simp only [List.lookup_cons, hx]
    | false =>
      simp only [List.lookup_cons, hx] at h
      split <;> (simp only [List.lookup_cons, hx]; exact ih h)
section
variable {S : Sx} {X : Cx} {N : List Str} {nm : Nm}
theorem Good.blk (G : Good S X N nm) (scope : Scope) (s : Shared) (H : Hp) (C : Addr) (cl : List (Str × Addr)) (fp : List Addr) : Good S.blk (X.blk s H scope (compEnvC scope cl C X.env) fp) N scope.names where
  hN := G.hN
  nd := G.nd
  nmk := fun x k e => by
    by_cases hk : k = .free
    · subst hk
      rcases relS_free (sc := X.env.scope) e with q | q
      · exact .inl q
      · exact .inr ⟨rfl, q⟩
    · exact .inl (lookup_relS_keep (sc := X.env.scope) hk e)
  fn := fun x e => by
    show (scope.names.lookup x == some .cell) = true
    rw [e]; rfl
  calm := G.calm
  tk := fun u s' ⟨a, B, sI, pins, σ, H, cls, d, e, I, nb, up, sky, na, os, ag, w⟩ => w.elim
  room := G.room
  K := G.K
  glob := G.glob
theorem Good.blkOk (G : Good S X N nm) {scope : Scope} {own : List (Str × Nat)} (h : blkB N nm scope own = true) : BlkOk X.N X.env.scope scope own := by
  unfold blkB at h
  simp only [Bool.and_eq_true, List.all_eq_true, decide_eq_true_eq] at h
  obtain ⟨⟨⟨h1, h2⟩, h3⟩, h4⟩ := h
  refine ⟨?_, h2, fun p hp => by rw [G.hN]; exact h3 p hp, fun y hy e => ?_, fun y hy e => ?_⟩
  · split at h1
    · assumption
    · cases h1
  · have q := h4 y hy
    simp only [e] at q
    split at q
    · rename_i z
      rcases G.nmk _ _ z with w | ⟨w, _⟩
      · exact .inl w
      · cases w
    · rename_i z
      rcases G.nmk _ _ z with w | ⟨_, w⟩
      · exact .inr w
      · exact .inl w
    · cases q
  · have q := h4 y hy
    rw [G.hN]
    rcases e with e | e <;> (simp only [e, Bool.or_eq_true, decide_eq_true_eq] at q; exact q)
theorem ownOf_ix {N : List Str} : ∀ {own : List Nat}, (∀ i ∈ own, i < N.length) → (ownOf N own).map (·.2) = own
  | [], _ => rfl
  | i :: r, h => by
    have hi : i < N.length := h i List.mem_cons_self
    have ih := ownOf_ix (N := N) (own := r) fun j hj => h j (List.mem_cons_of_mem _ hj)
    unfold ownOf at ih ⊢
    rw [List.filterMap_cons]
    simp only [List.getElem?_eq_getElem hi, Option.map_some, List.map_cons, ih]

/-! ### data: what a target changes -/
theorem give_off : ∀ {tg : Tg} {d : D} {ρ ρ' : Env} {vs : List Nat}, giveT tg d ρ = .ok ρ' → tgIn vs tg = true → ρ'.length = ρ.length ∧ ∀ i, i ∉ vs → ρ'[i]? = ρ[i]?
  | .one i, d, ρ, ρ', vs, h, hv => by
    unfold giveT at h
    obtain ⟨_, h⟩ := PV.R.need_eq h
    cases h
    have hv : i ∈ vs := by simpa [tgIn] using hv
    exact ⟨List.length_set, fun j hj => by rw [List.getElem?_set_ne fun z => hj (by rw [← z]; exact hv)]⟩
  | .nil, d, ρ, ρ', vs, h, _ => by
    cases d with
    | tup ds =>
      cases ds with
      | nil => simp only [giveT] at h; cases h; exact ⟨rfl, fun _ _ => rfl⟩
      | cons _ _ => simp [giveT] at h
    | _ => simp [giveT] at h
  | .cons t r, d, ρ, ρ', vs, h, hv => by
    simp only [tgIn, Bool.and_eq_true] at hv
    cases d with
    | tup ds =>
      cases ds with
      | nil => simp [giveT] at h
      | cons d ds =>
        simp only [giveT] at h
        cases e : giveT t d ρ with
        | ok ρ1 =>
          rw [e] at h
          have h : giveT r (.tup ds) ρ1 = .ok ρ' := h
          obtain ⟨a1, a2⟩ := give_off e hv.1
          obtain ⟨b1, b2⟩ := give_off h hv.2
          exact ⟨b1.trans a1, fun i hi => (b2 i hi).trans (a2 i hi)⟩
        | exc _ => rw [e] at h; cases h
        | bad => rw [e] at h; cases h
    | _ => simp [giveT] at h
theorem wipeD_in {σ : Env} {i : Nat} : ∀ {vs : List Nat}, i ∈ vs → i < σ.length → (wipeD σ vs)[i]? = some none
  | [], h, _ => by cases h
  | v :: vs, h, hl => by
    unfold wipeD
    by_cases hv : v = i
    · subst hv
      rw [List.getElem?_set_self (by rw [wipeD_length]; exact hl)]
    · rw [List.getElem?_set_ne hv]
      exact wipeD_in ((List.mem_cons.mp h).resolve_left fun z => hv z.symm) hl
theorem wipeD_ext {σ τ : Env} {vs : List Nat} (hl : σ.length = τ.length) (h : ∀ i, i ∉ vs → σ[i]? = τ[i]?) : wipeD σ vs = wipeD τ vs := by
  apply List.ext_getElem?
  intro i
  by_cases hi : i ∈ vs
  · by_cases hz : i < σ.length
    · rw [wipeD_in hi hz, wipeD_in hi (hl ▸ hz)]
    · rw [List.getElem?_eq_none (by rw [wipeD_length]; omega), List.getElem?_eq_none (by rw [wipeD_length]; omega)]
  · rw [wipeD_out hi, wipeD_out hi, h i hi]
theorem wipeD_wipeD (σ : Env) (vs : List Nat) : wipeD (wipeD σ vs) vs = wipeD σ vs := wipeD_ext (wipeD_length σ vs) fun i hi => wipeD_out hi
theorem set_same {T : Tn} {i : Nat} {x : Option Nat} (h : T[i]? = some x) : T.set i x = T := by
  apply List.ext_getElem?
  intro j
  by_cases hj : i = j
  · subst hj
    rw [List.getElem?_set_self (List.getElem?_eq_some_iff.mp h).1, h]
  · rw [List.getElem?_set_ne hj]
theorem tgT_same {own : List Nat} {T : Tn} (h : ∀ i ∈ own, T[i]? = some (some 0)) : ∀ {tg : Tg}, tgIn own tg = true → tgT tg T = T
  | .one i, hv => set_same (h i (by simpa [tgIn] using hv))
  | .nil, _ => rfl
  | .cons t r, hv => by
    simp only [tgIn, Bool.and_eq_true] at hv
    show tgT r (tgT t T) = T
    rw [tgT_same h hv.1, tgT_same h hv.2]

/-! ### the comprehension -/
/-- what a turn gives -/
def lcT (w : Wld) (own : List Nat) (tg : Tg) (ifs : CL) (elt : CE) (ρ : Env) (d : D) : R (Option D) := match giveT tg d (wipeD ρ own) with
  | .ok ρ' => (match evL w ifs ρ' with
    | .ok [] => (match evE w elt ρ' with
      | .ok x => .ok (some x)
      | _ => .bad)
    | .ok [.bl true] => (match evE w elt ρ' with
      | .ok x => .ok (some x)
      | _ => .bad)
    | .ok [.bl false] => .ok none
    | _ => .bad)
  | _ => .bad
theorem ev_lc (w : Wld) (own : List Nat) (tg : Tg) (it : CI) (ifs : CL) (elt : CE) (ρ : Env) : evE w (.lc own tg it ifs elt) ρ = (evI w it ρ).bind fun ds => (lcGo (lcT w own tg ifs elt ρ) ds []).bind fun xs => .ok (.lst xs) := by
  rw [evE]
  rfl
def tTs (S : Sx) : CL → TT
  | .nil => tYes
  | .cons c _ => tT S c
theorem lcGo_exc {turn : D → R (Option D)} {x : Exn} : ∀ {ds acc : List D}, lcGo turn ds acc = .exc x → False
  | [], _, h => by cases h
  | d :: ds, acc, h => by
    unfold lcGo at h
    split at h
    · unfold PV.R.need at h
      split at h
      · exact lcGo_exc h
      · cases h
    · exact lcGo_exc h
    · cases h
theorem same_pin {H1 H : Hp} {p : Addr} {o : HO} (hp : H1 p = none) (s : Same H1 H) : Same H1 (upd H p o) := fun a u e => by
  rw [upd_ne fun z => by rw [z, hp] at e; cases e]
  exact s a u e
theorem snd_lc (G : Good S X N nm) {own : List Nat} {tg : Tg} {it : CI} {ifs : CL} {elt : CE} {t iter e : Expr} {tests : List Expr} {scope : Scope} {pos : Pos} (hi : PI X t iter (tI S it)) (hb : blkB N nm scope (ownOf N own) = true) (hl : ∀ i ∈ own, i < N.length) (hin : tgIn own tg = true) (hsh : ifs.short = true)
    (hg : ∀ s H C cl fp, PG (X.blk s H scope (compEnvC scope cl C X.env) fp) t (tG S.blk tg)) (ht : ∀ s H C cl fp, PTs (X.blk s H scope (compEnvC scope cl C X.env) fp) tests (tTs S.blk ifs))
    (he : ∀ s H C cl fp, PE (X.blk s H scope (compEnvC scope cl C X.env) fp) e (tE S.blk elt)) (hs : ∀ x, foldedSetIterable iter X.env x = pure x) :
    ∀ σ H Q, tE S (.lc own tg it ifs elt) σ H Q → tLc (tI S it) (tG S.blk tg) (tTs S.blk ifs) (tE S.blk elt) ((ownOf N own).map (·.2)) σ H Q := by
  rintro σ H Q ⟨g, k, T', c, R, h⟩
  rw [ownOf_ix hl]
  obtain ⟨k1, T1, c1, c⟩ := bind2 c
  obtain ⟨k2, T2, c2, c⟩ := bind2 c
  obtain ⟨k3, T3, c3, c⟩ := bind2 c
  have c : (if (∀ i ∈ own, T1[i]? = some (some 0)) ∧ T2 = T1 ∧ T3 = T1 ∧ k3.own = true then some ((⟨true, 1⟩ : Kd), T1) else none) = some (k, T') := c
  split at c
  case isFalse => cases c
  rename_i hc
  obtain ⟨z0, rfl, rfl, ko⟩ := hc
  cases c
  rw [ev_lc] at h
  refine ⟨g, k1, T', c1, R, ?_⟩
  cases e1 : evI S.w it g.rho with
  | exc e => rw [e1] at h; exact h
  | bad => rw [e1] at h; exact h.elim
  | ok ds =>
    rw [e1] at h
    have h : AftE S g ⟨true, 1⟩ T' σ H ((lcGo (lcT S.w own tg ifs elt g.rho) ds []).bind fun xs => .ok (.lst xs)) Q := h
    cases e2 : lcGo (lcT S.w own tg ifs elt g.rho) ds [] with
    | exc e => exact (lcGo_exc e2).elim
    | bad => rw [e2] at h; exact h.elim
    | ok xs =>
      rw [e2] at h
      intro J H1 F1 GG s1 f1 R1 wk gw _
      intro Dn hD
      have fr := R1.free hD
      have f0 : g.F0 Dn = none := R1.s0.free fr.2
      have h0 : g.H0 Dn = none := fr.1
      have R2 := (R1.wiped own).pinNew (o := .lst []) hD
      refine lc_it wk (fun i H => ∃ F acc vs, Same F1 F ∧ Same H1 H ∧ Rel S.K (({ g with F := F, T := T', rho := wipeD g.rho own } : Gh).pin Dn (.lst vs)) (wipe σ own) H ∧ Reps S.K F vs acc ∧ lcGo (lcT S.w own tg ifs elt g.rho) (ds.drop i) acc = .ok xs)
        ⟨F1, [], [], Same.refl _, same_pin hD (Same.refl _), R2, .nil, e2⟩ (fun i H _ ⟨_, _, _, _, s, _⟩ => gw H s) ?_ ?_
      · rintro i x Ha H2 hi ⟨F2a, acc, vs, f2a, s2a, R3a, raa, go⟩ yy
        obtain ⟨F2, d, ed, ff, ss, R3b, rd⟩ := yield_rel R3a yy f2a
        have ff : Same F2a F2 := ff
        have f2 : Same F1 F2 := f2a.trans ff
        have s2 : Same H1 H2 := s2a.trans ss
        have ra := raa.up ff
        have R3 : Rel S.K (({ g with F := F2, T := T', rho := wipeD g.rho own } : Gh).pin Dn (.lst vs)) (wipe σ own) H2 := R3b
        clear R3b R3a raa s2a f2a
        rw [List.drop_eq_getElem_cons hi] at go
        have e3 : ds[i] = d := by
          have := List.getElem?_eq_getElem hi
          rw [this] at ed
          exact Option.some.inj ed
        rw [e3] at go
        unfold lcGo at go
        cases et : lcT S.w own tg ifs elt g.rho d with
        | exc _ => rw [et] at go; cases go
        | bad => rw [et] at go; cases go
        | ok ox =>
          rw [et] at go
          unfold lcT at et
          cases eg : giveT tg d (wipeD g.rho own) with
          | exc _ => rw [eg] at et; cases et
          | bad => rw [eg] at et; cases et
          | ok ρ' =>
            rw [eg] at et
            simp only at et
            obtain ⟨o1, o2⟩ := give_off eg hin
            have back : wipeD ρ' own = wipeD g.rho own := (wipeD_ext o1 o2).trans (wipeD_wipeD _ _)
            refine ⟨({ g with F := F2, T := T', rho := wipeD g.rho own } : Gh).pin Dn (.lst vs), d, ρ', rd, R3, eg, fun σ2 off R4 => ?_⟩
            have w2 : wipe σ2 own = wipe σ own := (off.wipe hin).trans (wipe_wipe _ _)
            refine ⟨w2, ?_⟩
            have R4 : Rel S.K (({ g with F := F2, T := T', rho := ρ' } : Gh).pin Dn (.lst vs)) σ2 H2 := by
              have z := R4
              rw [show tgT tg (({ g with F := F2, T := T', rho := wipeD g.rho own } : Gh).pin Dn (.lst vs)).T = T' from tgT_same z0 hin] at z
              exact z
            -- the element
            have last : ∀ H3 F3 y, Same H2 H3 → Same F2 F3 → Rel S.K (({ g with F := F3, T := T', rho := ρ' } : Gh).pin Dn (.lst vs)) σ2 H3 → evE S.w elt ρ' = .ok y → PV.R.need (acc.length < LIM) (lcGo (lcT S.w own tg ifs elt g.rho) (ds.drop (i + 1)) (acc ++ [y])) = .ok xs →
                tE S.blk elt σ2 H3 fun y H4 => ∃ acc, H4 Dn = some (.lst acc) ∧ acc.length < sizeLine ∧ ∃ F acc_1 vs, Same F1 F ∧ Same H1 (upd H4 Dn (.lst (acc ++ [y]))) ∧
                  Rel S.K (({ g with F := F, T := T', rho := wipeD g.rho own } : Gh).pin Dn (.lst vs)) (wipe σ own) (upd H4 Dn (.lst (acc ++ [y]))) ∧ Reps S.K F vs acc_1 ∧ lcGo (lcT S.w own tg ifs elt g.rho) (ds.drop (i + 1)) acc_1 = .ok xs := by
              intro H3 F3 y s3 f3 R5 ey hgo
              refine ⟨({ g with F := F3, T := T', rho := ρ' } : Gh).pin Dn (.lst vs), k3, T', c3, R5, ?_⟩
              show AftE S.blk _ k3 T' σ2 H3 (evE S.w elt ρ') _
              rw [ey]
              intro v H4 F4 s4 f4 R6
              obtain ⟨ko', kn⟩ := k3
              have ko : ko' = true := ko
              subst ko
              obtain ⟨F5, R7, f5⟩ := R6.xrest rfl
              have r7 := R7.xhead0 rfl
              have R8 : Rel S.K (({ g with F := F5, T := T', rho := ρ' } : Gh).pin Dn (.lst vs)) σ2 H4 := R7.xpop rfl
              obtain ⟨hz, hgo⟩ := PV.R.need_eq hgo
              have f35 : Same F3 F5 := f4.trans f5
              have f25 : Same F2 F5 := f3.trans f35
              have R9 := (R8.pinWrite (o' := .lst (vs ++ [v])) f0).wiped own
              rw [w2] at R9
              have R9 : Rel S.K (({ g with F := F5, T := T', rho := wipeD ρ' own } : Gh).pin Dn (.lst (vs ++ [v]))) (wipe σ own) (upd H4 Dn (.lst (vs ++ [v]))) := R9
              rw [back] at R9
              refine ⟨vs, R8.pinAt, by rw [ra.length]; exact hz, F5, acc ++ [y], vs ++ [v], f2.trans f25, same_pin hD (s2.trans (s3.trans s4)), R9, (ra.up f25).append (.cons r7 .nil), hgo⟩
            have none_ : ∀ H3 F3, Same H2 H3 → Same F2 F3 → Rel S.K (({ g with F := F3, T := T', rho := ρ' } : Gh).pin Dn (.lst vs)) σ2 H3 → lcGo (lcT S.w own tg ifs elt g.rho) (ds.drop (i + 1)) acc = .ok xs →
                ∃ F acc vs, Same F1 F ∧ Same H1 H3 ∧ Rel S.K (({ g with F := F, T := T', rho := wipeD g.rho own } : Gh).pin Dn (.lst vs)) (wipe σ own) H3 ∧ Reps S.K F vs acc ∧ lcGo (lcT S.w own tg ifs elt g.rho) (ds.drop (i + 1)) acc = .ok xs := by
              intro H3 F3 s3 f3 R5 hgo
              have R9 := R5.wiped own
              rw [w2] at R9
              have R9 : Rel S.K (({ g with F := F3, T := T', rho := wipeD ρ' own } : Gh).pin Dn (.lst vs)) (wipe σ own) H3 := R9
              rw [back] at R9
              exact ⟨F3, acc, vs, f2.trans f3, s2.trans s3, R9, ra.up f3, hgo⟩
            cases ifs with
            | nil =>
              simp only [evL] at et
              simp only [tTs, tYes, if_true]
              cases ey : evE S.w elt ρ' with
              | exc _ => rw [ey] at et; cases et
              | bad => rw [ey] at et; cases et
              | ok y =>
                rw [ey] at et
                cases et
                exact last H2 F2 y (Same.refl _) (Same.refl _) R4 ey go
            | cons cc r =>
              cases r with
              | cons _ _ => cases hsh
              | nil =>
                obtain ⟨k4, T4, c4, c2⟩ := bind2 c2
                cases c2
                refine ⟨({ g with F := F2, T := T', rho := ρ' } : Gh).pin Dn (.lst vs), k4, T', c4, R4, ?_⟩
                show AftT S.blk _ T' σ2 H2 (evE S.w cc ρ') _
                have et : (match (evE S.w cc ρ').bind fun d => (PV.R.ok []).bind fun ds => PV.R.ok (d :: ds) with
                  | .ok [] => (match evE S.w elt ρ' with
                    | .ok x => PV.R.ok (some x)
                    | _ => .bad)
                  | .ok [.bl true] => (match evE S.w elt ρ' with
                    | .ok x => .ok (some x)
                    | _ => .bad)
                  | .ok [.bl false] => .ok none
                  | _ => .bad) = .ok ox := et
                cases ec : evE S.w cc ρ' with
                | exc _ => rw [ec] at et; cases et
                | bad => rw [ec] at et; cases et
                | ok dc =>
                  rw [ec] at et
                  cases dc with
                  | bl b =>
                    intro H3 F3 s3 f3 R5
                    cases b with
                    | true =>
                      rw [if_pos rfl]
                      cases ey : evE S.w elt ρ' with
                      | exc _ => rw [ey] at et; cases et
                      | bad => rw [ey] at et; cases et
                      | ok y =>
                        rw [ey] at et
                        cases et
                        exact last H3 F3 y s3 f3 R5 ey go
                    | false =>
                      rw [if_neg (by decide)]
                      cases et
                      exact none_ H3 F3 s3 f3 R5 go
                  | _ => cases et
      · rintro H2 ⟨F2, acc, vs, f2, s2, R3, ra, go⟩
        rw [List.drop_length] at go
        have go : acc = xs := by
          unfold lcGo at go
          cases go; rfl
        subst go
        have R4 := R3.pinDone f0 h0 ra
        have R5 : Rel S.K { g with F := F2, T := T', tau := ⟨true, 1, .ref Dn, .lst acc⟩ :: g.tau } σ H2 :=
          R1.unwiped (vs := own) (F' := F2) R4 f2 fun i hi n e => by
            have e : T'[i]? = some (some n) := e
            rw [z0 i hi] at e
            exact (Option.some.inj (Option.some.inj e)).symm
        exact h (.ref Dn) H2 F2 (s1.trans s2) (f1.trans f2) R5
end
end PV
/-! PVE: new dicts, d.get, items of things whose items are one's own. -/
namespace PV
open PySem PySem.Spec PyProof.Rows L2
section
variable {S : Sx} {X : Cx} {N : List Str} {nm : Nm}
/-- an empty dict's object -/
abbrev E0 : Obj := { cls := .type "dict", data := .dict #[] }
theorem pe_dnew {pos : Pos} : PE X (.Dict [] [] pos) (fun _ H Q => ∀ p, H p = none → Q (.ref p) (upd H p (DicO X.w p E0 [] [] []))) := ⟨fun pins s σ H Q I h =>
  wpAny_Dict_empty ⟨.ref s.heap.objs.size, _, I.laid (a := s.heap.objs.size) (o := DicO X.w s.heap.objs.size E0 [] [] []) (t' := s.toks) (fun _ _ q => Heap.get?_push_of_some _ q) (Nat.le_refl _) (dic_empty s.heap I.big), rfl, h _ (I.hok.fresh (Nat.le_refl _))⟩⟩
theorem Good.wd (G : Good S X N nm) : X.w = S.K.wd := congrArg KW.wd G.K
theorem snd_dnew (G : Good S X N nm) {pos : Pos} : PE X (.Dict [] [] pos) (tE S .dnew) := by
  refine impE pe_dnew ?_
  rintro σ H Q ⟨g, k, T', c, R, h⟩
  cases c
  intro p hp
  have h : AftE S g ⟨true, 1⟩ g.T σ H (.ok (.dic [] [])) Q := h
  have eH : Same H (upd H p (DicO X.w p E0 [] [] [])) := fun a o e => by rw [upd_ne (ne_of_none e hp)]; exact e
  refine h _ _ g.F eH (Same.refl _) (Rel.newOwn (g := g) (r := g.tau) R hp ?_)
  exact ⟨p, E0, [], [], [], rfl, by rw [upd_same, G.wd], .nil, rfl, rfl⟩
/-- a method of a dict, called with arguments -/
def tBMD (w : World) (r : V → List V → Hp → VK → Prop) (to : TE) (t : TA) : TE := fun σ H Q => to σ H fun x H1 => (∃ p ob ks us ws, x = .ref p ∧ Rd H1 p (DicO w p ob ks us ws)) ∧ t σ H1 fun vs H2 => r x vs H2 Q
theorem pe_bmD {o e : Expr} {es : List Expr} {name : Str} {id : String} {apos cpos : Pos} {r : V → List V → Hp → VK → Prop} {to : TE} {t : TA} (pa : PlainAttrs "dict") (slot : Slot "dict" name id) (hty : typeOf (.builtin id) = pure (.type "method_descriptor")) (hm : MtR X id r) (ho : PE X o to) (ha : PA X (e :: es) t)
    (hbase : attributeBase o name X.env (eval o X.env) = eval o X.env)
    (hfew : ((backTo cpos (starEach (e :: es) X.env)).all (fun x => !x.1) && (backToKw cpos (keywordEach [] X.env)).all (fun x => x.1.isSome)
      && decide ((e :: es).length + ([] : List Keyword).length + (if ([] : List Keyword).isEmpty then 0 else 1) < 30)) = true)
    (hline : (apos.endLine == cpos.line) = true) (hs : starEach (e :: es) X.env = (false, eval e X.env) :: starEach es X.env) (hplain : (backTo cpos (starEach es X.env)).any (·.1) = false) :
    PE X (.Call (.Attribute o name apos) (e :: es) [] cpos) (tBMD X.w r to t) := by
  refine ⟨fun pins s σ H Q I h => ?_⟩
  refine wpAny_Call_method_late hbase hfew hline rfl (thn (ho.run pins s σ H _ I h) fun v s1 ⟨x, H1, I1, r1, ⟨p, ob, ks, us, ws, ex, rd⟩, q1⟩ => ?_)
  subst ex
  obtain rfl : v = Value.ref p := r1
  have dd := dic_at I1 rd
  refine ⟨"dict", id, pa, slot, hty, dd.typeIs, dd.noDict, ?_⟩
  have hA := ha.run cpos pins s1 σ H1 _ I1 q1
  rw [hs] at hA ⊢
  refine Calls.callWith_builtin (by show (false || (backTo cpos (starEach es X.env)).any (·.1)) = false; rw [hplain] <;> rfl) (Calls.evalArgs_plain ?_)
  exact thn hA fun us s2 ⟨vs, H2, I2, r2, q2⟩ => hm pins s2 σ H2 (.ref p) vs _ us Q I2 rfl r2 q2
/-- d.get -/
def rDgt (K : KW) : V → List V → Hp → VK → Prop := fun x vs H Q => ∃ (F : Hp) (p : Addr) (ob : Obj) (ks : List D) (us ws : List V) (k : D) (y : V), x = .ref p ∧ Same F H ∧ Rd H p (DicO K.wd p ob ks us ws) ∧ Reps K F us ks ∧ okKey ks k = true ∧ Rep K F y k ∧
  ((vs = [y] ∧ Q (dor ws (kix ks k) .non) H) ∨ ∃ z, vs = [y, z] ∧ Q (dor ws (kix ks k) z) H)
theorem mt_dgt (hu : X.A.units + 100 < cLine) : MtR X "dict.get" (rDgt (kwOf X)) := by
  intro pins s σ H x vs v us Q I rx rvs h
  obtain ⟨F, p, ob, ks, us', ws, k, y, rfl, sF, rd, rk, ok, ry, h⟩ := h
  obtain rfl : v = Value.ref p := rx
  rcases h with ⟨rfl, q⟩ | ⟨z, rfl, q⟩
  · cases rvs with
    | cons a b =>
      cases b
      exact dd_or1 hu I rd rk sF ok ry a fun w' s' I' rw' => ⟨_, H, I', rw', q⟩
  · cases rvs with
    | cons a b =>
      cases b with
      | cons a2 b2 =>
        cases b2
        exact dd_or2 hu I rd rk sF ok ry a a2 fun w' s' I' rw' => ⟨_, H, I', rw', q⟩
theorem dor_rep {K : KW} {F : Hp} {ws : List V} {vs : List D} {ks : List D} {k x : D} {z : V} (r : Reps K F ws vs) (rz : Rep K F z x) : Rep K F (dor ws (kix ks k) z) ((dget ks vs k).getD x) := by
  unfold dor dget
  cases kix ks k with
  | none => exact rz
  | some i =>
    show Rep K F ((ws[i]?).getD z) ((vs[i]?).getD x)
    cases q : vs[i]? with
    | none =>
      have hi : ws[i]? = none := by
        rw [List.getElem?_eq_none_iff] at q ⊢
        rw [r.length]; exact q
      rw [hi]; exact rz
    | some d =>
      obtain ⟨v, e, rv⟩ := r.get q
      rw [e]; exact rv
theorem dgt_exc {d : D} {ds : List D} {x : Exn} (h : dgtD d ds = .exc x) : False := by
  unfold dgtD at h
  split at h <;> first | (cases need_exc h; done) | cases h
theorem reps_1 {K : KW} {F : Hp} {vs : List V} {d : D} (h : Reps K F vs [d]) : ∃ v, vs = [v] ∧ Rep K F v d := by
  cases h with
  | cons r t => cases t; exact ⟨_, rfl, r⟩
theorem reps_2 {K : KW} {F : Hp} {vs : List V} {d e : D} (h : Reps K F vs [d, e]) : ∃ v u, vs = [v, u] ∧ Rep K F v d ∧ Rep K F u e := by
  cases h with
  | cons r t =>
    obtain ⟨u, rfl, r2⟩ := reps_1 t
    exact ⟨_, _, rfl, r, r2⟩
theorem snd_dgt (G : Good S X N nm) {o : CE} {xs : CL} {e' : Expr} (hp : PE X e' (tBMD X.w (rDgt (kwOf X)) (tE S o) (tL S xs))) : PE X e' (tE S (.dgt o xs)) := by
  refine impE hp ?_
  rintro σ H Q ⟨g, k, T', c, R, h⟩
  obtain ⟨ko, T1, c1, c⟩ := bind2 c
  obtain ⟨ks, T2, c2, c⟩ := bind2 c
  have c : (if ko.n ≤ 1 ∧ ks.all (·.own) = true then some ((⟨true, 0⟩ : Kd), T2) else none) = some (k, T') := c
  split at c
  case isFalse => cases c
  rename_i hk
  cases c
  refine tE_one c1 R h fun x d1 H1 F1 s f R1 h1 => ?_
  have h1 : AftE S g ⟨true, 0⟩ T' σ H (PV.R.need (isDic d1 = true) ((evL S.w xs g.rho).bind fun ds => dgtD d1 ds)) Q := h1
  by_cases hd : isDic d1 = true
  case neg =>
    unfold PV.R.need at h1
    rw [if_neg hd] at h1
    exact h1.elim
  rw [PV.R.need_ok hd] at h1
  cases d1 <;> first | (cases hd; done) | skip
  rename_i qs vs _
  obtain ⟨p, ob, us, ws, rfl, q1, q2, q3⟩ := (R1.sh1 rfl hk.1).dic R1.sF
  refine ⟨⟨p, ob, qs, us, ws, rfl, by rw [G.wd]; exact q1⟩, ?_⟩
  refine ⟨_, ks, T', c2, R1, ?_⟩
  show AftL S _ ks T' σ H1 (evL S.w xs g.rho) _
  cases e : evL S.w xs g.rho with
  | exc y => rw [e] at h1; exact fun cls dd H' s' y => h1 cls dd H' (s.trans s') y
  | bad => rw [e] at h1; exact h1.elim
  | ok ds =>
    rw [e] at h1
    have h1 : AftE S g ⟨true, 0⟩ T' σ H (dgtD (.dic qs vs) ds) Q := h1
    intro ws2 H2 F2 s2 f2 l1 l2 R2
    obtain ⟨F3, R3, f3, r3⟩ := rest_cells (t := ko.c (.ref p) (.dic qs vs) :: g.tau) R2 rfl hk.2 l1 l2
    have f13 : Same F1 F3 := f2.trans f3
    obtain ⟨p', ob', us', ws', ep, q1, q2, q3⟩ := (R3.sh1 rfl hk.1).dic R3.sF
    cases ep
    have R4 := R3.xpop rfl
    cases e2 : dgtD (.dic qs vs) ds with
    | exc y => exact (dgt_exc e2).elim
    | bad => rw [e2] at h1; exact h1.elim
    | ok d =>
      rw [e2] at h1
      match ds, e2, r3 with
      | [k], e2, r3 =>
        obtain ⟨y, rfl, ry⟩ := reps_1 r3
        obtain ⟨ok, e2⟩ := PV.R.need_eq e2
        cases e2
        refine ⟨F3, p, ob', qs, us', ws', k, y, rfl, R4.sF, ?_, ?_, ok, ?_, .inl ⟨rfl, h1 _ H2 F3 (s.trans s2) (f.trans f13) (R4.xpush0 (dor_rep q3 .non))⟩⟩
        · rw [G.K]; exact q1
        · rw [G.K]; exact q2
        · rw [G.K]; exact ry
      | [k, z], e2, r3 =>
        obtain ⟨y, u, rfl, ry, ru⟩ := reps_2 r3
        obtain ⟨ok, e2⟩ := PV.R.need_eq e2
        cases e2
        refine ⟨F3, p, ob', qs, us', ws', k, y, rfl, R4.sF, ?_, ?_, ok, ?_, .inr ⟨u, rfl, h1 _ H2 F3 (s.trans s2) (f.trans f13) (R4.xpush0 (dor_rep q3 ru))⟩⟩
        · rw [G.K]; exact q1
        · rw [G.K]; exact q2
        · rw [G.K]; exact ry

/-! ### an item of a thing whose items are one's own -/
/-- what stands there, as it lies -/
def rIxV (X : Cx) : R2 := fun x y H Q => (∃ p vs i v, x = .ref p ∧ y = .int i ∧ SqL X.K H p vs ∧ atI vs i = some v ∧ Q v H) ∨ (∃ p vs i v, x = .ref p ∧ y = .int i ∧ SqT X.K H p vs ∧ atI vs i = some v ∧ Q v H) ∨
  ∃ (F : Hp) (p : Addr) (ob : Obj) (ks : List D) (us ws : List V) (k : D) (i : Nat) (v : V), x = .ref p ∧ Same F H ∧ Rd H p (DicO X.w p ob ks us ws) ∧ Reps (kwOf X) F us ks ∧ okKey ks k = true ∧ Rep (kwOf X) F y k ∧ kix ks k = some i ∧ ws[i]? = some v ∧ Q v H
theorem ix_V (hu : X.A.units + 100 < cLine) : IxR X (rIxV X) := by
  intro value slice pins s σ H x y v u Q I rx ry h hsub
  rcases h with h | h | ⟨F, p, ob, ks, us, ws, k, i, w, rfl, sF, rd, rk, ok, rk2, hi, hw, q⟩
  · exact ix_list value slice pins s σ H _ _ v u Q I rx ry h hsub
  · exact ix_tup value slice pins s σ H _ _ v u Q I rx ry h hsub
  · obtain rfl : v = Value.ref p := rx
    exact tail_dict (dic_at I rd).typeIs PySem.F.slot_dict_getitem.lookup hsub (dd_get hu I rd rk sF ok rk2 ry hi hw fun w' s' I' rw' => ⟨w, H, I', rw', q⟩)
theorem ixb_exc {a b : D} {x : Exn} (h : ixbD a b = .exc x) : False := by
  unfold ixbD at h
  split at h
  · split at h <;> cases h
  · split at h <;> cases h
  · have h := need_exc h
    split at h <;> cases h
  · cases h
/-- an item in a list of things -/
theorem RepL.at {R : V → D → List Addr → Prop} : ∀ {vs : List V} {ds : List D} {fp : List Addr} {i : Nat} {d : D}, RepL R vs ds fp → ds[i]? = some d → ∃ v f, vs[i]? = some v ∧ R v d f ∧ ∀ q ∈ f, q ∈ fp
  | [], [], _, _, _, _, e => by simp at e
  | v :: vs, d :: ds, _, 0, _, ⟨f1, f2, h1, h2, e⟩, q => by
    simp at q; subst q
    exact ⟨v, f1, rfl, h1, fun q hq => by rw [e]; exact List.mem_append_left _ hq⟩
  | v :: vs, d :: ds, _, i + 1, d', ⟨f1, f2, h1, h2, e⟩, q => by
    obtain ⟨w, f, a, b, c⟩ := RepL.at (i := i) h2 (by simpa using q)
    exact ⟨w, f, by simpa using a, b, fun q hq => by rw [e]; exact List.mem_append_right _ (c q hq)⟩
  | [], _ :: _, _, _, _, e, _ => e.elim
  | _ :: _, [], _, _, _, e, _ => e.elim
theorem RepL.len {R : V → D → List Addr → Prop} : ∀ {vs : List V} {ds : List D} {fp : List Addr}, RepL R vs ds fp → vs.length = ds.length
  | [], [], _, _ => rfl
  | _ :: vs, _ :: ds, _, ⟨f1, f2, h1, h2, e⟩ => by simp [RepL.len h2]
  | [], _ :: _, _, e => e.elim
  | _ :: _, [], _, e => e.elim
theorem RepL.nd {R : V → D → List Addr → Prop} : ∀ {vs : List V} {ds : List D} {fp : List Addr} {i : Nat} {d : D}, RepL R vs ds fp → fp.Nodup → ds[i]? = some d → ∃ v f, vs[i]? = some v ∧ R v d f ∧ (∀ q ∈ f, q ∈ fp) ∧ f.Nodup
  | [], [], _, _, _, _, _, e => by simp at e
  | v :: vs, d :: ds, _, 0, _, ⟨f1, f2, h1, h2, e⟩, n, q => by
    simp at q; subst q
    rw [e, List.nodup_append] at n
    exact ⟨v, f1, rfl, h1, fun q hq => by rw [e]; exact List.mem_append_left _ hq, n.1⟩
  | v :: vs, d :: ds, _, i + 1, d', ⟨f1, f2, h1, h2, e⟩, n, q => by
    rw [e, List.nodup_append] at n
    obtain ⟨w, f, a, b, c, n2⟩ := RepL.nd (i := i) h2 n.2.1 (by simpa using q)
    exact ⟨w, f, by simpa using a, b, fun q hq => by rw [e]; exact List.mem_append_right _ (c q hq), n2⟩
  | [], _ :: _, _, _, _, e, _, _ => e.elim
  | _ :: _, [], _, _, _, e, _, _ => e.elim
theorem snd_ixb (G : Good S X N nm) {a b : CE} {ea eb : Expr} {pos : Pos} (ha : PE X ea (tE S a)) (hb : PE X eb (tE S b)) (hs : PlainIx eb) : PE X (.Subscript ea eb pos) (tE S (.ixb a b)) := by
  refine impE (pe_ix (ix_V G.units) ha hb hs) ?_
  rintro σ H Q ⟨g, k, T', c, R, h⟩
  obtain ⟨ka, T1, c1, c⟩ := bind2 c
  obtain ⟨kb, T2, c2, c⟩ := bind2 c
  have c : (if 2 ≤ ka.n ∧ kb.n ≤ 1 then some ((⟨false, ka.n - 1⟩ : Kd), T2) else none) = some (k, T') := c
  split at c
  case isFalse => cases c
  rename_i hn
  cases c
  obtain ⟨ao, an⟩ := ka
  obtain ⟨m, rfl⟩ : ∃ m, an = m + 2 := ⟨an - 2, by have := hn.1; simp at this; omega⟩
  refine tE_two c1 c2 R h fun x y d1 d2 H2 F2 s f R2 h2 => ?_
  have hy := R2.sh1 rfl hn.2
  have R3 : Rel S.K { g with F := F2, T := T', tau := (⟨ao, m + 2⟩ : Kd).c x d1 :: g.tau } σ H2 := R2.xpop rfl
  have R4 : Rel S.K { g with F := F2, T := T' } σ H2 := R3.xpop rfl
  obtain ⟨ow, a1, a2, a3⟩ := R3.ow
  obtain ⟨⟨fp, r0, nd, hpw, tb⟩, a4⟩ := a3
  clear hpw
  -- one item, lent
  have fin : ∀ {v : V} {d : D} {f' : List Addr}, RepO S.K F2 H2 (m + 1) v d f' → (∀ q ∈ f', q ∈ fp) → f'.Nodup → ixbD d1 d2 = .ok d → Q v H2 := fun {v d f'} r hf nd' e => by
    rw [e] at h2
    refine h2 v H2 F2 s f ?_
    refine ⟨R4.s0, R4.sF, R4.sH, R4.fr, ⟨ow, a1, a2, ⟨f', r, nd', fun z => (nomatch z), fun q hq => tb q (hf q hq)⟩, a4⟩, R4.l1, R4.l2⟩
  cases e : ixbD d1 d2 with
  | exc x => exact (ixb_exc e).elim
  | bad => rw [e] at h2; exact h2.elim
  | ok d =>
    unfold ixbD at e
    split at e
    · rename_i xs i
      have hi := hy.int
      subst hi
      obtain ⟨p, vs, f0, rfl, q2, q3, q4⟩ := r0
      subst q4
      cases q : atI xs i with
      | none => rw [q] at e; cases e
      | some d' =>
        rw [q] at e
        cases e
        have q' := q
        unfold atI at q'
        cases qn : ixN xs.length i with
        | none => rw [qn] at q'; cases q'
        | some j =>
          rw [qn] at q'
          have q' : xs[j]? = some d := q'
          obtain ⟨v, f', b1, b2, b3, b4⟩ := q3.nd (by simp at nd; exact nd.2) q'
          refine .inl ⟨p, vs, i, v, rfl, rfl, .inl (.inl q2), ?_, fin b2 (fun z hz => List.mem_cons_of_mem _ (b3 z hz)) b4 (by unfold ixbD; simp only [q])⟩
          unfold atI
          rw [q3.len, qn]
          exact b1
    · rename_i xs i
      have hi := hy.int
      subst hi
      obtain ⟨p, vs, rfl, q2, q3⟩ := r0
      cases q : atI xs i with
      | none => rw [q] at e; cases e
      | some d' =>
        rw [q] at e
        cases e
        have q' := q
        unfold atI at q'
        cases qn : ixN xs.length i with
        | none => rw [qn] at q'; cases q'
        | some j =>
          rw [qn] at q'
          have q' : xs[j]? = some d := q'
          obtain ⟨v, f', b1, b2, b3, b4⟩ := q3.nd nd q'
          refine .inr (.inl ⟨p, vs, i, v, rfl, rfl, by (first | rw [G.K] | rw [G.Kf]); exact same_t R3.sF q2, ?_, fin b2 b3 b4 (by unfold ixbD; simp only [q])⟩)
          unfold atI
          rw [q3.len, qn]
          exact b1
    · rename_i _ ks vs2
      obtain ⟨ok, e'⟩ := PV.R.need_eq e
      obtain ⟨p, ob, us, ws, f0, rfl, q2, q3, q4, q5⟩ := r0
      subst q5
      unfold dget at e'
      cases qk : kix ks d2 with
      | none => rw [qk] at e'; cases e'
      | some i =>
        rw [qk] at e'
        have e' : (match vs2[i]? with | some d => PV.R.ok d | none => PV.R.bad) = .ok d := e'
        cases qv : vs2[i]? with
        | none => rw [qv] at e'; cases e'
        | some d' =>
          rw [qv] at e'
          cases e'
          obtain ⟨v, f', b1, b2, b3, b4⟩ := q4.nd (by simp at nd; exact nd.2) qv
          refine .inr (.inr ⟨F2, p, ob, ks, us, ws, d2, i, v, rfl, R3.sF, .inl (by rw [G.wd]; exact q2), by rw [G.K]; exact q3, ok, by rw [G.K]; exact hy.key (okKey_or ok), qk, b1, fin b2 (fun z hz => List.mem_cons_of_mem _ (b3 z hz)) b4 e⟩)
    · cases e
end
end PV
/-! PV13: every CE. -/
namespace PV
open PySem PySem.Spec PyProof.Rows L2

/-! ### the written forms that a CE can be -/
inductive Wr : Expr → Prop
  | name (x : Str) (p : Pos) : Wr (.Name x p)
  | const (c : Const) (k : Nat) (p : Pos) : Wr (.Constant c k p)
  | binop (a : Expr) (o : Operator) (b : Expr) (p : Pos) : Wr (.BinOp a o b p)
  | neg (a : Expr) (p : Pos) : Wr (.UnaryOp .USub a p)
  | not (a : Expr) (p : Pos) : Wr (.UnaryOp .Not a p)
  | cmp (a : Expr) (o : List CmpOp) (b : List Expr) (p : Pos) : Wr (.Compare a o b p)
  | bool (o : BoolOp) (a : List Expr) (p : Pos) : Wr (.BoolOp o a p)
  | ite (a b c : Expr) (p : Pos) : Wr (.IfExp a b c p)
  | tup (a : List Expr) (k : Nat) (p : Pos) : Wr (.Tuple a k p)
  | lst (a : List Expr) (p : Pos) : Wr (.List a p)
  | dic0 (p : Pos) : Wr (.Dict [] [] p)
  | sub (a b : Expr) (p : Pos) : Wr (.Subscript a b p)
  | call (f e : Expr) (es : List Expr) (p : Pos) : Wr (.Call f (e :: es) [] p)
  | call0 (f : Expr) (n : Str) (q p : Pos) : Wr (.Call (.Attribute f n q) [] [] p)
  | comp (e : Expr) (gs : List Comprehension) (s : Scope) (p : Pos) : Wr (.ListComp e gs s p)
theorem wr {L : St0} {N : List Str} {c : CE} {nm : Nm} {e : Expr} (h : mE L N c nm e = true) : Wr e := by
  cases c <;> unfold mE at h <;> split at h <;> first
    | (cases h; done)
    | constructor
theorem Wr.star {e : Expr} (h : Wr e) (es : List Expr) (env : PySem.Env) : starEach (e :: es) env = (false, eval e env) :: starEach es env := by
  cases h <;> rfl
theorem Wr.plain {e : Expr} (h : Wr e) : PlainIx e := by
  cases h <;> intro o i <;> rfl
theorem Wr.marks {e : Expr} (h : Wr e) (op : CmpOp) : behindInMarks op e = false := by
  cases h <;> rfl
theorem Wr.fold {e : Expr} (h : Wr e) (env : PySem.Env) : ∀ x, foldedSetIterable e env x = pure x := by
  intro x; cases h <;> rfl
theorem Wr.base {e : Expr} (h : Wr e) (a : Str) (env : PySem.Env) (w : Sem Value) : attributeBase e a env w = w := by
  cases h <;> first
    | rfl
    | (rename_i f _ _ _; cases f <;> rfl)
theorem mL_any {L : St0} {N : List Str} {nm : Nm} (env : PySem.Env) (pos : Pos) : ∀ {xs : CL} {es : List Expr}, mL L N xs nm es = true → (backTo pos (starEach es env)).any (·.1) = false
  | .nil, [], _ => rfl
  | .cons c r, e :: es, h => by
    simp only [mL, Bool.and_eq_true] at h
    rw [(wr h.1).star]
    have ih := mL_any env pos h.2
    simp only [backTo, List.map_cons, List.any_cons, Bool.false_or] at ih ⊢
    exact ih
  | .nil, _ :: _, h => by simp [mL] at h
  | .cons _ _, [], h => by simp [mL] at h
theorem mL_all {L : St0} {N : List Str} {nm : Nm} (env : PySem.Env) (pos : Pos) {xs : CL} {es : List Expr} (h : mL L N xs nm es = true) : (backTo pos (starEach es env)).all (fun x => !x.1) = true := by
  have z := mL_any (L := L) (N := N) (nm := nm) env pos h
  rw [List.any_eq_false] at z
  rw [List.all_eq_true]
  intro x hx
  have w := z x hx
  cases hb : x.1 with
  | true => exact absurd hb w
  | false => rfl

section
variable {X : Cx} {S : Sx}
theorem pt_ite {c a b : Expr} {tc ta tb : TT} {pos : Pos} (hc : PT X c tc) (ha : PT X a ta) (hb : PT X b tb) : PT X (.IfExp c a b pos) (fun σ H Q => tc σ H fun x H1 => if x = true then ta σ H1 Q else tb σ H1 Q) := by
  refine ⟨fun pins s σ H Q I h => ?_⟩
  show wpAny _ _ (do if ← isTrue c X.env (eval c X.env) then isTrue a X.env (eval a X.env) else isTrue b X.env (eval b X.env)) _ _ s
  refine wpAny_bind (thn (hc.run pins s σ H _ I h) fun x s1 ⟨H1, I1, q⟩ => ?_)
  cases x with
  | true => rw [if_pos rfl] at q ⊢; exact ha.run pins s1 σ H1 Q I1 q
  | false => rw [if_neg (by decide)] at q ⊢; exact hb.run pins s1 σ H1 Q I1 q
theorem snd_iteT {c a b : CE} {t x y : Expr} {pos : Pos} (hc : PT X t (tT S c)) (ha : PT X x (tT S a)) (hb : PT X y (tT S b)) : PT X (.IfExp t x y pos) (tT S (.ite c a b)) := by
  refine impT (pt_ite hc ha hb) ?_
  rintro σ H Q ⟨g, k, T', c', R, h⟩
  obtain ⟨kc, T1, c1, c'⟩ := bind2 c'
  obtain ⟨ka, T2, c2, c'⟩ := bind2 c'
  obtain ⟨kb, T3, c3, c'⟩ := bind2 c'
  have c' : (if T2 = T1 ∧ T3 = T1 ∧ ka = kb then some (ka, T1) else none) = some (k, T') := c'
  split at c'
  · rename_i hT
    cases c'
    obtain ⟨e2, e3, e4⟩ := hT
    subst e2 e3 e4
    have h : AftT S g _ σ H (evE S.w (.ite c a b) g.rho) Q := h
    rw [iteE] at h
    refine tT_contT (f := fun k => if k = true then evE S.w a g.rho else evE S.w b g.rho) c1 R h fun b1 H1 F1 s f R1 h1 => ?_
    cases b1 with
    | true =>
      rw [if_pos rfl] at h1 ⊢
      exact ⟨_, _, _, c2, R1, h1.up s f⟩
    | false =>
      rw [if_neg Bool.false_ne_true] at h1 ⊢
      exact ⟨_, _, _, c3, R1, h1.up s f⟩
  · cases c'

structure Snd (S : Sx) (X : Cx) (c : CE) (x : Expr) : Prop where
  e : PE X x (tE S c)
  t : PT X x (tT S c)
  w : ∀ o es p, x = .BoolOp o es p → PW X x (tT S c)
theorem Snd.mk0 {c : CE} {e : Expr} (h : PE X e (tE S c)) (he : ∀ whole, isTrue e X.env whole = (do let v ← whole; standAt e.pos; holding [v] (truthy v))) (hn : ∀ o es p, e ≠ .BoolOp o es p) : Snd S X c e :=
  ⟨h, snd_val h he, fun o es p z => absurd z (hn o es p)⟩
end

/-! ### what the match says -/
section
variable {L : St0} {N : List Str} {nm : Nm} {e : Expr}
theorem inv_sl {i : Nat} (h : mE L N (.sl i) nm e = true) : ∃ x p, e = .Name x p ∧ N[i]? = some x ∧ visB nm x = true := by
  unfold mE at h; split at h <;> first | (cases h; done) | contradiction | skip
  try (rename (CE.sl i) = _ => hq; cases hq)
  try simp only [Bool.and_eq_true, decide_eq_true_eq] at h
  exact ⟨_, _, rfl, h.1, h.2⟩
theorem inv_mv {i : Nat} (h : mE L N (.mv i) nm e = true) : ∃ x p, e = .Name x p ∧ N[i]? = some x ∧ visB nm x = true := by
  unfold mE at h; split at h <;> first | (cases h; done) | contradiction | skip
  try (rename (CE.mv i) = _ => hq; cases hq)
  try simp only [Bool.and_eq_true, decide_eq_true_eq] at h
  exact ⟨_, _, rfl, h.1, h.2⟩
theorem inv_cI {i : Int} (h : mE L N (.cI i) nm e = true) : ∃ k p, e = .Constant (.int i) k p := by
  unfold mE at h; split at h <;> first | (cases h; done) | contradiction | skip
  try (rename (CE.cI i) = _ => hq; cases hq)
  try simp only [Bool.and_eq_true, decide_eq_true_eq] at h
  exact (by subst h; exact ⟨_, _, rfl⟩)
theorem inv_cS {s : List Nat} (h : mE L N (.cS s) nm e = true) : ∃ k p, e = .Constant (.str (mkS s)) k p ∧ okS s := by
  unfold mE at h; split at h <;> first | (cases h; done) | contradiction | skip
  try (rename (CE.cS s) = _ => hq; cases hq)
  try simp only [Bool.and_eq_true, decide_eq_true_eq] at h
  exact (by obtain ⟨h1, h2⟩ := h; subst h1; exact ⟨_, _, rfl, h2⟩)
theorem inv_cB {b : Bool} (h : mE L N (.cB b) nm e = true) : ∃ k p, e = .Constant (.bool b) k p := by
  unfold mE at h; split at h <;> first | (cases h; done) | contradiction | skip
  try (rename (CE.cB b) = _ => hq; cases hq)
  try simp only [Bool.and_eq_true, decide_eq_true_eq] at h
  exact (by subst h; exact ⟨_, _, rfl⟩)
theorem inv_cN  (h : mE L N .cN nm e = true) : ∃ k p, e = .Constant .none k p := by
  unfold mE at h; split at h <;> first | (cases h; done) | contradiction | skip
  try (rename CE.cN = _ => hq; cases hq)
  try simp only [Bool.and_eq_true, decide_eq_true_eq] at h
  exact ⟨_, _, rfl⟩
theorem inv_gl {k : Nat} (h : mE L N (.gl k) nm e = true) : ∃ x p, e = .Name x p ∧ L.conN[k]? = some x ∧ glB nm x = true := by
  unfold mE at h; split at h <;> first | (cases h; done) | contradiction | skip
  try (rename (CE.gl k) = _ => hq; cases hq)
  try simp only [Bool.and_eq_true, decide_eq_true_eq] at h
  exact ⟨_, _, rfl, h.1, h.2⟩
theorem inv_bin {op : Operator} {a b : CE} (h : mE L N (.bin op a b) nm e = true) : ∃ l r p, e = .BinOp l op r p ∧ mE L N a nm l = true ∧ mE L N b nm r = true := by
  unfold mE at h; split at h <;> first | (cases h; done) | contradiction | skip
  try (rename (CE.bin op a b) = _ => hq; cases hq)
  try simp only [Bool.and_eq_true, decide_eq_true_eq] at h
  exact (by obtain ⟨h1, h2, h3⟩ := h; subst h1; exact ⟨_, _, _, rfl, h2, h3⟩)
theorem inv_neg {a : CE} (h : mE L N (.neg a) nm e = true) : ∃ l p, e = .UnaryOp .USub l p ∧ mE L N a nm l = true := by
  unfold mE at h; split at h <;> first | (cases h; done) | contradiction | skip
  try (rename (CE.neg a) = _ => hq; cases hq)
  try simp only [Bool.and_eq_true, decide_eq_true_eq] at h
  exact ⟨_, _, rfl, h⟩
theorem inv_not {a : CE} (h : mE L N (.not a) nm e = true) : ∃ l p, e = .UnaryOp .Not l p ∧ mE L N a nm l = true := by
  unfold mE at h; split at h <;> first | (cases h; done) | contradiction | skip
  try (rename (CE.not a) = _ => hq; cases hq)
  try simp only [Bool.and_eq_true, decide_eq_true_eq] at h
  exact ⟨_, _, rfl, h⟩
theorem inv_cmp {op : CmpOp} {a b : CE} (h : mE L N (.cmp op a b) nm e = true) : ∃ l r p, e = .Compare l [op] [r] p ∧ mE L N a nm l = true ∧ mE L N b nm r = true := by
  unfold mE at h; split at h <;> first | (cases h; done) | contradiction | skip
  try (rename (CE.cmp op a b) = _ => hq; cases hq)
  try simp only [Bool.and_eq_true, decide_eq_true_eq] at h
  exact (by obtain ⟨h1, h2, h3⟩ := h; subst h1; exact ⟨_, _, _, rfl, h2, h3⟩)
theorem inv_cmp2 {o1 o2 : CmpOp} {a b c : CE} (h : mE L N (.cmp2 o1 o2 a b c) nm e = true) : ∃ l r r2 p, e = .Compare l [o1, o2] [r, r2] p ∧ mE L N a nm l = true ∧ mE L N b nm r = true ∧ mE L N c nm r2 = true := by
  unfold mE at h; split at h <;> first | (cases h; done) | contradiction | skip
  try (rename (CE.cmp2 o1 o2 a b c) = _ => hq; cases hq)
  try simp only [Bool.and_eq_true, decide_eq_true_eq] at h
  exact (by obtain ⟨h1, h2, h3⟩ := h; subst h1 h2; exact ⟨_, _, _, _, rfl, h3⟩)
theorem inv_and {a b : CE} (h : mE L N (.and a b) nm e = true) : ∃ x y r p, e = .BoolOp .And (x :: y :: r) p ∧ mE L N a nm x = true ∧ mE L N b nm (.BoolOp .And (y :: r) p) = true := by
  unfold mE at h; split at h <;> first | (cases h; done) | contradiction | skip
  try (rename (CE.and a b) = _ => hq; cases hq)
  try simp only [Bool.and_eq_true, decide_eq_true_eq] at h
  exact ⟨_, _, _, _, rfl, h⟩
theorem inv_or {a b : CE} (h : mE L N (.or a b) nm e = true) : ∃ x y r p, e = .BoolOp .Or (x :: y :: r) p ∧ mE L N a nm x = true ∧ mE L N b nm (.BoolOp .Or (y :: r) p) = true := by
  unfold mE at h; split at h <;> first | (cases h; done) | contradiction | skip
  try (rename (CE.or a b) = _ => hq; cases hq)
  try simp only [Bool.and_eq_true, decide_eq_true_eq] at h
  exact ⟨_, _, _, _, rfl, h⟩
theorem inv_one {a : CE} (h : mE L N (.one a) nm e = true) : ∃ o x p, e = .BoolOp o [x] p ∧ mE L N a nm x = true := by
  unfold mE at h; split at h <;> first | (cases h; done) | contradiction | skip
  try (rename (CE.one a) = _ => hq; cases hq)
  try simp only [Bool.and_eq_true, decide_eq_true_eq] at h
  exact ⟨_, _, _, rfl, h⟩
theorem inv_ite {c a b : CE} (h : mE L N (.ite c a b) nm e = true) : ∃ t x y p, e = .IfExp t x y p ∧ mE L N c nm t = true ∧ mE L N a nm x = true ∧ mE L N b nm y = true := by
  unfold mE at h; split at h <;> first | (cases h; done) | contradiction | skip
  try (rename (CE.ite c a b) = _ => hq; cases hq)
  try simp only [Bool.and_eq_true, decide_eq_true_eq] at h
  exact ⟨_, _, _, _, rfl, h⟩
theorem inv_tup {xs : CL} (h : mE L N (.tup xs) nm e = true) : ∃ es k p, e = .Tuple es k p ∧ mL L N xs nm es = true := by
  unfold mE at h; split at h <;> first | (cases h; done) | contradiction | skip
  try (rename (CE.tup xs) = _ => hq; cases hq)
  try simp only [Bool.and_eq_true, decide_eq_true_eq] at h
  exact ⟨_, _, _, rfl, h⟩
theorem inv_lst {xs : CL} (h : mE L N (.lst xs) nm e = true) : ∃ es p, e = .List es p ∧ mL L N xs nm es = true := by
  unfold mE at h; split at h <;> first | (cases h; done) | contradiction | skip
  try (rename (CE.lst xs) = _ => hq; cases hq)
  try simp only [Bool.and_eq_true, decide_eq_true_eq] at h
  exact ⟨_, _, rfl, h⟩
theorem inv_ix {a i : CE} (h : mE L N (.ix a i) nm e = true) : ∃ x s p, e = .Subscript x s p ∧ mE L N a nm x = true ∧ mE L N i nm s = true := by
  unfold mE at h; split at h <;> first | (cases h; done) | contradiction | skip
  try (rename (CE.ix a i) = _ => hq; cases hq)
  try simp only [Bool.and_eq_true, decide_eq_true_eq] at h
  exact ⟨_, _, _, rfl, h⟩
theorem inv_cut {a l h0 : CE} (h : mE L N (.cut a l h0) nm e = true) : ∃ x lo hi p2 p, e = .Subscript x (.Slice lo hi none p2) p ∧ mE L N a nm x = true ∧ (match lo with | none => l.isN = true | some e => l.isN = false ∧ mE L N l nm e = true) ∧ (match hi with | none => h0.isN = true | some e => h0.isN = false ∧ mE L N h0 nm e = true) := by
  unfold mE at h; split at h <;> first | (cases h; done) | contradiction | skip
  try (rename (CE.cut a l h0) = _ => hq; cases hq)
  try simp only [Bool.and_eq_true, decide_eq_true_eq] at h
  exact (by obtain ⟨h1, h2, h3⟩ := h; refine ⟨_, _, _, _, _, rfl, h1, ?_, ?_⟩ <;> (split <;> simp_all))
theorem inv_call {lent : Bool} {f : Nat} {xs : CL} (h : mE L N (.call lent f xs) nm e = true) : ∃ x p0 a es p, e = .Call (.Name x p0) (a :: es) [] p ∧ L.fnN[f]? = some x ∧ (L.fns[f]?).isSome = true ∧ glB nm x = true ∧ mL L N xs nm (a :: es) = true := by
  unfold mE at h; split at h <;> first | (cases h; done) | contradiction | skip
  try (rename (CE.call lent f xs) = _ => hq; cases hq)
  try simp only [Bool.and_eq_true, decide_eq_true_eq] at h
  exact ⟨_, _, _, _, _, rfl, h⟩
theorem inv_callo {f : Nat} {xs : CL} (h : mE L N (.callo f xs) nm e = true) : ∃ x p0 a es p, e = .Call (.Name x p0) (a :: es) [] p ∧ L.fnN[f]? = some x ∧ (L.fns[f]?).isSome = true ∧ glB nm x = true ∧ mL L N xs nm (a :: es) = true := by
  unfold mE at h; split at h <;> first | (cases h; done) | contradiction | skip
  try (rename (CE.callo f xs) = _ => hq; cases hq)
  try simp only [Bool.and_eq_true, decide_eq_true_eq] at h
  exact ⟨_, _, _, _, _, rfl, h⟩
theorem inv_ixb {a i : CE} (h : mE L N (.ixb a i) nm e = true) : ∃ x s p, e = .Subscript x s p ∧ mE L N a nm x = true ∧ mE L N i nm s = true := by
  unfold mE at h; split at h <;> first | (cases h; done) | contradiction | skip
  rename (CE.ixb a i) = _ => hq
  cases hq
  simp only [Bool.and_eq_true] at h
  exact ⟨_, _, _, rfl, h⟩
theorem inv_dnew (h : mE L N .dnew nm e = true) : ∃ p, e = .Dict [] [] p := by
  unfold mE at h; split at h <;> first | (cases h; done) | contradiction | skip
  exact ⟨_, rfl⟩
theorem inv_dgt {o : CE} {xs : CL} (h : mE L N (.dgt o xs) nm e = true) : ∃ x name apos a as p, e = .Call (.Attribute x name apos) (a :: as) [] p ∧ name = Str.ofString "get" ∧ (apos.endLine == p.line) = true ∧ (a :: as).length < 20 ∧ mE L N o nm x = true ∧ mL L N xs nm (a :: as) = true := by
  unfold mE at h; split at h <;> first | (cases h; done) | contradiction | skip
  rename (CE.dgt o xs) = _ => hq
  cases hq
  simp only [Bool.and_eq_true, decide_eq_true_eq] at h
  exact ⟨_, _, _, _, _, _, rfl, h⟩
theorem inv_mt {m : Mt} {o : CE} {xs : CL} (h : mE L N (.mt m o xs) nm e = true) : (∃ x name apos a as p, e = .Call (.Attribute x name apos) (a :: as) [] p ∧ name = Str.ofString m.name ∧ m.now = true ∧ (apos.endLine == p.line) = true ∧ (a :: as).length < 20 ∧ mE L N o nm x = true ∧ mL L N xs nm (a :: as) = true) ∨
    (∃ x name apos p, xs = .nil ∧ e = .Call (.Attribute x name apos) [] [] p ∧ name = Str.ofString m.name ∧ m.noArg = true ∧ (apos.endLine == p.line) = true ∧ mE L N o nm x = true) := by
  unfold mE at h; split at h <;> first | (cases h; done) | contradiction | skip
  · rename (CE.mt m o xs) = _ => hq
    cases hq
    simp only [Bool.and_eq_true, decide_eq_true_eq] at h
    exact .inr ⟨_, _, _, _, rfl, rfl, h⟩
  · rename (CE.mt m o xs) = _ => hq
    cases hq
    simp only [Bool.and_eq_true, decide_eq_true_eq] at h
    exact .inl ⟨_, _, _, _, _, _, rfl, h⟩
theorem inv_lc {own : List Nat} {tg : Tg} {it : CI} {ifs : CL} {elt : CE} (h : mE L N (.lc own tg it ifs elt) nm e = true) : ∃ x t iter tests scope p, e = .ListComp x [⟨t, iter, tests, 0⟩] scope p ∧ it.okT tg = true ∧ tgIn own tg = true ∧ ifs.short = true ∧ (own.all fun i => decide (i < N.length)) = true ∧ blkB N nm scope (ownOf N own) = true ∧ mT N scope.names tg t = true ∧ mI L N it nm iter = true ∧ mL L N ifs scope.names tests = true ∧ mE L N elt scope.names x = true := by
  unfold mE at h; split at h <;> first | (cases h; done) | contradiction | skip
  try (rename (CE.lc own tg it ifs elt) = _ => hq; cases hq)
  try simp only [Bool.and_eq_true, decide_eq_true_eq] at h
  exact (by obtain ⟨h1, h2⟩ := h; subst h1; exact ⟨_, _, _, _, _, _, rfl, h2⟩)
end
section
variable {L : St0} {N : List Str} {nm : Nm} {e : Expr}
theorem inv_gidx {k : Nat} {a : CE} (h : mE L N (.gidx k a) nm e = true) : ∃ x p0 name apos f p, e = .Call (.Attribute (.Name x p0) name apos) [f] [] p ∧ L.conN[k]? = some x ∧ glB nm x = true ∧ isTup (L.conD k) = true ∧ name = Str.ofString "index" ∧ (apos.endLine == p.line) = true ∧ mE L N a nm f = true := by
  unfold mE at h; split at h <;> first | (cases h; done) | contradiction | skip
  rename (CE.gidx k a) = _ => hq
  cases hq
  simp only [Bool.and_eq_true, decide_eq_true_eq] at h
  exact ⟨_, _, _, _, _, _, rfl, h⟩
theorem inv_pick {kvs : Kvs} {a : CE} (h : mE L N (.pick kvs a) nm e = true) : ∃ ks vs p2 s p, e = .Subscript (.Dict ks vs p2) s p ∧ (kvs.map (·.1)).Nodup ∧ 0 < kvs.length ∧ kvs.length ≤ 15 ∧ mPs kvs ks vs = true ∧ mE L N a nm s = true := by
  unfold mE at h; split at h <;> first | (cases h; done) | contradiction | skip
  rename (CE.pick kvs a) = _ => hq
  cases hq
  simp only [Bool.and_eq_true, decide_eq_true_eq] at h
  exact ⟨_, _, _, _, _, rfl, h⟩
theorem inv_lrev {a : CE} (h : mE L N (.lrev a) nm e = true) : ∃ x p0 y p1 f p2 p, e = .Call (.Name x p0) [.Call (.Name y p1) [f] [] p2] [] p ∧ x = Str.ofString "list" ∧ glB nm x = true ∧ y = Str.ofString "reversed" ∧ glB nm y = true ∧ mE L N a nm f = true := by
  unfold mE at h; split at h <;> first | (cases h; done) | contradiction | skip
  rename (CE.lrev a) = _ => hq
  cases hq
  simp only [Bool.and_eq_true, decide_eq_true_eq] at h
  exact ⟨_, _, _, _, _, _, _, rfl, h⟩
theorem inv_sset {a : CE} (h : mE L N (.sset a) nm e = true) : ∃ x p0 y p1 f p2 p, e = .Call (.Name x p0) [.Call (.Name y p1) [f] [] p2] [] p ∧ x = Str.ofString "sorted" ∧ glB nm x = true ∧ y = Str.ofString "set" ∧ glB nm y = true ∧ mE L N a nm f = true := by
  unfold mE at h; split at h <;> first | (cases h; done) | contradiction | skip
  rename (CE.sset a) = _ => hq
  cases hq
  simp only [Bool.and_eq_true, decide_eq_true_eq] at h
  exact ⟨_, _, _, _, _, _, _, rfl, h⟩
theorem inv_bn {b : Bn} {xs : CL} (h : mE L N (.bn b xs) nm e = true) : (∃ x p0 a es p, e = .Call (.Name x p0) (a :: es) [] p ∧ b.plain = true ∧ x = Str.ofString b.name ∧ glB nm x = true ∧ mL L N xs nm (a :: es) = true) ∨
    (∃ t x p0 a tn p1 p, b = .isI t ∧ e = .Call (.Name x p0) [a, .Name tn p1] [] p ∧ x = Str.ofString "isinstance" ∧ glB nm x = true ∧ tn = Str.ofString t.name ∧ glB nm tn = true ∧ mL L N xs nm [a] = true) := by
  unfold mE at h; split at h <;> first | (cases h; done) | contradiction | skip
  · rename (CE.bn b xs) = _ => hq
    cases hq
    simp only [Bool.and_eq_true, decide_eq_true_eq] at h
    exact .inr ⟨_, _, _, _, _, _, _, rfl, rfl, h⟩
  · rename (CE.bn b xs) = _ => hq
    cases hq
    simp only [Bool.and_eq_true, decide_eq_true_eq] at h
    exact .inl ⟨_, _, _, _, _, rfl, h⟩
theorem inv_rng1 {a : CE} (h : mI L N (.rng1 a) nm e = true) : ∃ x p0 f p, e = .Call (.Name x p0) [f] [] p ∧ x = Str.ofString "range" ∧ glB nm x = true ∧ mE L N a nm f = true := by
  unfold mI at h; split at h <;> first | (cases h; done) | contradiction | skip
  rename (CI.rng1 a) = _ => hq
  cases hq
  simp only [Bool.and_eq_true, decide_eq_true_eq] at h
  exact ⟨_, _, _, _, rfl, h⟩
theorem inv_zip {a b : CE} (h : mI L N (.zip a b) nm e = true) : ∃ x p0 f k p, e = .Call (.Name x p0) [f, k] [] p ∧ x = Str.ofString "zip" ∧ glB nm x = true ∧ mE L N a nm f = true ∧ mE L N b nm k = true := by
  unfold mI at h; split at h <;> first | (cases h; done) | contradiction | skip
  rename (CI.zip a b) = _ => hq
  cases hq
  simp only [Bool.and_eq_true, decide_eq_true_eq] at h
  exact ⟨_, _, _, _, _, rfl, h⟩
theorem inv_rev {a : CE} (h : mI L N (.rev a) nm e = true) : ∃ x p0 f p, e = .Call (.Name x p0) [f] [] p ∧ x = Str.ofString "reversed" ∧ glB nm x = true ∧ mE L N a nm f = true := by
  unfold mI at h; split at h <;> first | (cases h; done) | contradiction | skip
  rename (CI.rev a) = _ => hq
  cases hq
  simp only [Bool.and_eq_true, decide_eq_true_eq] at h
  exact ⟨_, _, _, _, rfl, h⟩
theorem okT_tup {nm' : Nm} {it : CI} {tg : Tg} {t : Expr} (h : it.okT tg = true) (hm : mT N nm' tg t = true) : ∀ a b, it = .zip a b → ∃ elts k p, t = .Tuple elts k p := by
  rintro a b rfl
  cases tg with
  | one i => cases h
  | nil => cases t <;> first | exact ⟨_, _, _, rfl⟩ | simp [mT] at hm
  | cons x r => cases t <;> first | exact ⟨_, _, _, rfl⟩ | simp [mT] at hm
theorem inv_rng2 {a b : CE} (h : mI L N (.rng2 a b) nm e = true) : ∃ x p0 f k p, e = .Call (.Name x p0) [f, k] [] p ∧ x = Str.ofString "range" ∧ glB nm x = true ∧ mE L N a nm f = true ∧ mE L N b nm k = true := by
  unfold mI at h; split at h <;> first | (cases h; done) | contradiction | skip
  rename (CI.rng2 a b) = _ => hq
  cases hq
  simp only [Bool.and_eq_true, decide_eq_true_eq] at h
  exact ⟨_, _, _, _, _, rfl, h⟩
end
mutual
theorem sndE : ∀ (c : CE) {S : Sx} {X : Cx} {N : List Str} {nm : Nm} (G : Good S X N nm) (e : Expr), mE S.L N c nm e = true → Snd S X c e
  | .sl i, S, X, N, nm, G, e, h => by
    obtain ⟨x, p, rfl, h1, h2⟩ := inv_sl h
    exact .mk0 (snd_sl G h1 h2) (fun _ => rfl) (fun _ _ _ z => nomatch z)
  | .mv i, S, X, N, nm, G, e, h => by
    obtain ⟨x, p, rfl, h1, h2⟩ := inv_mv h
    exact .mk0 (snd_mv G h1 h2) (fun _ => rfl) (fun _ _ _ z => nomatch z)
  | .cI i, S, X, N, nm, G, e, h => by
    obtain ⟨k, p, rfl⟩ := inv_cI h
    exact .mk0 (snd_c pe_int (fun _ => rfl) (fun _ => rfl) fun _ => .int i) (fun _ => rfl) (fun _ _ _ z => nomatch z)
  | .cS s, S, X, N, nm, G, e, h => by
    obtain ⟨k, p, rfl, ok⟩ := inv_cS h
    exact .mk0 (snd_c pe_str (fun _ => rfl) (fun _ => rfl) fun _ => .str s ok) (fun _ => rfl) (fun _ _ _ z => nomatch z)
  | .cB b, S, X, N, nm, G, e, h => by
    obtain ⟨k, p, rfl⟩ := inv_cB h
    exact .mk0 (snd_c pe_bl (fun _ => rfl) (fun _ => rfl) fun _ => .bl b) (fun _ => rfl) (fun _ _ _ z => nomatch z)
  | .cN, S, X, N, nm, G, e, h => by
    obtain ⟨k, p, rfl⟩ := inv_cN h
    exact .mk0 (snd_c pe_non (fun _ => rfl) (fun _ => rfl) fun _ => .non) (fun _ => rfl) (fun _ _ _ z => nomatch z)
  | .gl k, S, X, N, nm, G, e, h => by
    obtain ⟨x, p, rfl, h1, h2⟩ := inv_gl h
    exact .mk0 (snd_gl G h1 h2) (fun _ => rfl) (fun _ _ _ z => nomatch z)
  | .bin op a b, S, X, N, nm, G, e, h => by
    obtain ⟨l, r, p, rfl, h1, h2⟩ := inv_bin h
    exact .mk0 (snd_bin G (sndE a G l h1).e (sndE b G r h2).e) (fun _ => rfl) (fun _ _ _ z => nomatch z)
  | .neg a, S, X, N, nm, G, e, h => by
    obtain ⟨l, p, rfl, h1⟩ := inv_neg h
    exact .mk0 (snd_neg (sndE a G l h1).e) (fun _ => rfl) (fun _ _ _ z => nomatch z)
  | .not a, S, X, N, nm, G, e, h => by
    obtain ⟨l, p, rfl, h1⟩ := inv_not h
    exact ⟨snd_not (sndE a G l h1).e, snd_notT (sndE a G l h1).t, fun _ _ _ z => nomatch z⟩
  | .cmp op a b, S, X, N, nm, G, e, h => by
    obtain ⟨l, r, p, rfl, h1, h2⟩ := inv_cmp h
    exact ⟨snd_cmp G (sndE a G l h1).e (sndE b G r h2).e ((wr h2).marks _), snd_cmpT G (sndE a G l h1).e (sndE b G r h2).e ((wr h2).marks _), fun _ _ _ z => nomatch z⟩
  | .cmp2 o1 o2 a b c, S, X, N, nm, G, e, h => by
    obtain ⟨l, r, r2, p, rfl, h1, h2, h3⟩ := inv_cmp2 h
    exact ⟨snd_cmp2 G (sndE a G l h1).e (sndE b G r h2).e (sndE c G r2 h3).e ((wr h3).marks _), snd_cmp2T G (sndE a G l h1).e (sndE b G r h2).e (sndE c G r2 h3).e ((wr h3).marks _), fun _ _ _ z => nomatch z⟩
  | .and a b, S, X, N, nm, G, e, h => by
    obtain ⟨x, y, r, p, rfl, h1, h2⟩ := inv_and h
    have w := snd_andT (sndE a G x h1).t ((sndE b G _ h2).w _ _ _ rfl)
    exact ⟨snd_and (sndE a G x h1).e (sndE b G _ h2).e, w.pt, fun _ _ _ _ => w⟩
  | .or a b, S, X, N, nm, G, e, h => by
    obtain ⟨x, y, r, p, rfl, h1, h2⟩ := inv_or h
    have w := snd_orT (sndE a G x h1).t ((sndE b G _ h2).w _ _ _ rfl)
    exact ⟨snd_or (sndE a G x h1).e (sndE b G _ h2).e, w.pt, fun _ _ _ _ => w⟩
  | .one a, S, X, N, nm, G, e, h => by
    obtain ⟨o, x, p, rfl, h1⟩ := inv_one h
    have w : PW X (.BoolOp o [x] p) (tT S (.one a)) := by
      cases o with
      | And => exact snd_oneW (fun z => pw_and1 z) (sndE a G x h1).t
      | Or => exact snd_oneW (fun z => pw_or1 z) (sndE a G x h1).t
    exact ⟨snd_oneE (fun z => pe_one z) (sndE a G x h1).e, w.pt, fun _ _ _ _ => w⟩
  | .ite c a b, S, X, N, nm, G, e, h => by
    obtain ⟨t, x, y, p, rfl, h1, h2, h3⟩ := inv_ite h
    exact ⟨snd_ite (sndE c G t h1).t (sndE a G x h2).e (sndE b G y h3).e, snd_iteT (sndE c G t h1).t (sndE a G x h2).t (sndE b G y h3).t, fun _ _ _ z => nomatch z⟩
  | .tup xs, S, X, N, nm, G, e, h => by
    obtain ⟨es, k, p, rfl, h1⟩ := inv_tup h
    exact .mk0 (snd_tup (sndL xs G es h1)) (fun _ => rfl) (fun _ _ _ z => nomatch z)
  | .lst xs, S, X, N, nm, G, e, h => by
    obtain ⟨es, p, rfl, h1⟩ := inv_lst h
    exact .mk0 (snd_lst (sndL xs G es h1)) (fun _ => rfl) (fun _ _ _ z => nomatch z)
  | .ix a i, S, X, N, nm, G, e, h => by
    obtain ⟨x, s, p, rfl, h1, h2⟩ := inv_ix h
    exact .mk0 (snd_ix G (sndE a G x h1).e (sndE i G s h2).e (wr h2).plain) (fun _ => rfl) (fun _ _ _ z => nomatch z)
  | .ixb a i, S, X, N, nm, G, e, h => by
    obtain ⟨x, s, p, rfl, h1, h2⟩ := inv_ixb h
    exact .mk0 (snd_ixb G (sndE a G x h1).e (sndE i G s h2).e (wr h2).plain) (fun _ => rfl) (fun _ _ _ z => nomatch z)
  | .dnew, S, X, N, nm, G, e, h => by
    obtain ⟨p, rfl⟩ := inv_dnew h
    exact .mk0 (snd_dnew G) (fun _ => rfl) (fun _ _ _ z => nomatch z)
  | .dgt o xs, S, X, N, nm, G, e, h => by
    obtain ⟨x, name, apos, a, as, p, rfl, rfl, h3, h4, h5, h6⟩ := inv_dgt h
    cases xs with
    | nil => simp [mL] at h6
    | cons c r =>
      have h7 := h6
      simp only [mL, Bool.and_eq_true] at h7
      have few : ((backTo p (starEach (a :: as) X.env)).all (fun x => !x.1) && (backToKw p (keywordEach [] X.env)).all (fun x => x.1.isSome)
          && decide ((a :: as).length + ([] : List Keyword).length + (if ([] : List Keyword).isEmpty then 0 else 1) < 30)) = true := by
        rw [mL_all X.env p h6]
        simp only [Bool.true_and, Bool.and_eq_true, decide_eq_true_eq]
        refine ⟨rfl, ?_⟩
        show (a :: as).length + 0 + 0 < 30
        omega
      exact .mk0 (snd_dgt G (pe_bmD (cpos := p) PySem.F.plainAttrs_dict PySem.F.slot_dict_get PySem.F.type_dict_get (mt_dgt G.units) (sndE o G x h5).e (sndL (.cons c r) G _ h6) ((wr h5).base _ _ _) few h3 ((wr h7.1).star _ _) (mL_any _ _ h7.2))) (fun _ => rfl) (fun _ _ _ z => nomatch z)
  | .cut a l hh, S, X, N, nm, G, e, h => by
    obtain ⟨x, lo, hi, p2, p, rfl, h1, h2, h3⟩ := inv_cut h
    refine .mk0 (snd_cut G (sndE a G x h1).e (snd_part ?_) (snd_part ?_)) (fun _ => rfl) (fun _ _ _ z => nomatch z)
    · cases lo with
      | none => exact h2
      | some e => exact ⟨h2.1, (sndE l G e h2.2).e⟩
    · cases hi with
      | none => exact h3
      | some e => exact ⟨h3.1, (sndE hh G e h3.2).e⟩
  | .call lent f xs, S, X, N, nm, G, e, h => by
    obtain ⟨x, p0, a, es, p, rfl, h1, h2, h3, h4⟩ := inv_call h
    cases xs with
    | nil => simp [mL] at h4
    | cons c r =>
      have h5 := h4
      simp only [mL, Bool.and_eq_true] at h5
      exact .mk0 (snd_call G h1 h2 h3 (sndL (.cons c r) G _ h4) ((wr h5.1).star _ _) (mL_any _ _ h5.2)) (fun _ => rfl) (fun _ _ _ z => nomatch z)
  | .callo f xs, S, X, N, nm, G, e, h => by
    obtain ⟨x, p0, a, es, p, rfl, h1, h2, h3, h4⟩ := inv_callo h
    cases xs with
    | nil => simp [mL] at h4
    | cons c r =>
      have h5 := h4
      simp only [mL, Bool.and_eq_true] at h5
      exact .mk0 (snd_callo G h1 h2 h3 (sndL (.cons c r) G _ h4) ((wr h5.1).star _ _) (mL_any _ _ h5.2)) (fun _ => rfl) (fun _ _ _ z => nomatch z)
  | .pick kvs a, S, X, N, nm, G, e, h => by
    obtain ⟨ks, vs, p2, z, p, rfl, h1, h2, h3, h4, h5⟩ := inv_pick h
    exact .mk0 (snd_pick G h1 h2 h3 h4 (sndE a G z h5).e (wr h5).plain) (fun _ => rfl) (fun _ _ _ z => nomatch z)
  | .gidx k a, S, X, N, nm, G, e, h => by
    obtain ⟨x, p0, name, apos, f, p, rfl, h1, h2, ht, h3, h4, h5⟩ := inv_gidx h
    exact .mk0 (snd_gidx G h1 h2 ht h3 h4 (sndE a G f h5).e ((wr h5).star _ _)) (fun _ => rfl) (fun _ _ _ z => nomatch z)
  | .lrev a, S, X, N, nm, G, e, h => by
    obtain ⟨x, p0, y, p1, f, p2, p, rfl, h1, h2, h3, h4, h5⟩ := inv_lrev h
    have h1 : x = "list" := h1
    have h3 : y = "reversed" := h3
    subst h1 h3
    exact .mk0 (snd_lrev G h2 h4 (sndE a G f h5).e ((wr h5).star _ _)) (fun _ => rfl) (fun _ _ _ z => nomatch z)
  | .sset a, S, X, N, nm, G, e, h => by
    obtain ⟨x, p0, y, p1, f, p2, p, rfl, h1, h2, h3, h4, h5⟩ := inv_sset h
    have h1 : x = "sorted" := h1
    have h3 : y = "set" := h3
    subst h1 h3
    exact .mk0 (snd_sset G h2 h4 (sndE a G f h5).e ((wr h5).star _ _)) (fun _ => rfl) (fun _ _ _ z => nomatch z)
  | .bn b xs, S, X, N, nm, G, e, h => by
    rcases inv_bn h with ⟨x, p0, a, es, p, rfl, h1, h2, h3, h4⟩ | ⟨t, x, p0, a, tn, p1, p, rfl, rfl, h1, h2, h3, h4, h5⟩
    · cases xs with
      | nil => simp [mL] at h4
      | cons c r =>
        have h5 := h4
        simp only [mL, Bool.and_eq_true] at h5
        exact .mk0 (pe_bn G (fun t z => by rw [z] at h1; cases h1) h2 h3 (sndL (.cons c r) G _ h4) ((wr h5.1).star _ _) (mL_any _ _ h5.2)) (fun _ => rfl) (fun _ _ _ z => nomatch z)
    · cases xs with
      | nil => simp [mL] at h5
      | cons c r =>
        cases r with
        | cons _ _ => simp [mL] at h5
        | nil =>
          have h6 : mE S.L N c nm a = true := by simpa [mL] using h5
          exact .mk0 (pe_isI G h1 h2 h3 h4 (sndE c G a h6).e fun es => (wr h6).star es _) (fun _ => rfl) (fun _ _ _ z => nomatch z)
  | .mt m o xs, S, X, N, nm, G, e, h => by
    rcases inv_mt h with ⟨x, name, apos, a, as, p, rfl, h1, h2, h3, h4, h5, h6⟩ | ⟨x, name, apos, p, rfl, rfl, h1, h2, h3, h4⟩
    · cases xs with
      | nil => simp [mL] at h6
      | cons c r =>
        have h7 := h6
        simp only [mL, Bool.and_eq_true] at h7
        subst h1
        have few : ((backTo p (starEach (a :: as) X.env)).all (fun x => !x.1) && (backToKw p (keywordEach [] X.env)).all (fun x => x.1.isSome)
            && decide ((a :: as).length + ([] : List Keyword).length + (if ([] : List Keyword).isEmpty then 0 else 1) < 30)) = true := by
          rw [mL_all X.env p h6]
          simp only [Bool.true_and, Bool.and_eq_true, decide_eq_true_eq]
          refine ⟨rfl, ?_⟩
          show (a :: as).length + 0 + 0 < 30
          omega
        have nt : m ≠ .tindex := fun z => by subst z; cases h2
        have go : ∀ {id : String}, Slot "str" (Str.ofString m.name) id → typeOf (.builtin id) = pure (.type "method_descriptor") → MtR X id (rMeth (kwOf X) (mtD m)) → Snd S X (.mt m o (.cons c r)) (.Call (.Attribute x (Str.ofString m.name) apos) (a :: as) [] p) := fun sl ty mt =>
          .mk0 (snd_mt G nt (pe_bm (cpos := p) PySem.F.plainAttrs_str sl ty mt (sndE o G x h5).e (sndL (.cons c r) G _ h6) ((wr h5).base _ _ _) few h3 ((wr h7.1).star _ _) (mL_any _ _ h7.2))) (fun _ => rfl) (fun _ _ _ z => nomatch z)
        cases m with
        | join => exact go PySem.F.slot_str_join PySem.F.type_str_join mt_joinD
        | find => exact go PySem.F.slot_str_find PySem.F.type_str_find mt_findD
        | split => exact go PySem.F.slot_str_split PySem.F.type_str_split mt_splitD
        | index => exact go PySem.F.slot_str_index PySem.F.type_str_index mt_indexD
        | upper => cases h2
        | tindex => cases h2
    · subst h1
      cases m with
      | upper => exact .mk0 (snd_mt0 (m := .upper) G (fun z => nomatch z) (pe_bm0 (cpos := p) PySem.F.plainAttrs_str PySem.F.slot_str_upper PySem.F.type_str_upper mt_upperD (sndE o G x h4).e ((wr h4).base _ _ _) h3)) (fun _ => rfl) (fun _ _ _ z => nomatch z)
      | _ => cases h2
  | .lc own tg it ifs elt, S, X, N, nm, G, e, h => by
    obtain ⟨x, t, iter, tests, scope, p, rfl, h0, h1, h2, h3, h4, h5, h6, h7, h8⟩ := inv_lc h
    have hl : ∀ i ∈ own, i < N.length := fun i hi => by
      have z := List.all_eq_true.mp h3 i hi
      simpa using z
    have hi := sndI it G t iter (okT_tup h0 h5) h6
    refine .mk0 (impE (pe_lc G.calm (by rw [G.hN]; exact G.nd) hi.1 (G.blkOk h4) (fun s H C cl fp => snd_tg (G.blk scope s H C cl fp) tg t h5) (fun s H C cl fp => ?_) (fun s H C cl fp => (sndE elt (G.blk scope s H C cl fp) x h8).e) hi.2)
      (snd_lc (tests := tests) (pos := p) G hi.1 h4 hl h1 h2 (fun s H C cl fp => snd_tg (G.blk scope s H C cl fp) tg t h5) (fun s H C cl fp => ?_) (fun s H C cl fp => (sndE elt (G.blk scope s H C cl fp) x h8).e) hi.2)) (fun _ => rfl) (fun _ _ _ z => nomatch z)
    all_goals
      cases ifs with
      | nil =>
        cases tests with
        | nil => exact pts_nil
        | cons _ _ => simp [mL] at h7
      | cons c r =>
        cases r with
        | cons _ _ => cases h2
        | nil =>
          cases tests with
          | nil => simp [mL] at h7
          | cons q r =>
            cases r with
            | cons _ _ => simp [mL] at h7
            | nil =>
              have h9 : mE S.L N c scope.names q = true := by simpa [mL] using h7
              exact pts_one (sndE c (G.blk scope s H C cl fp) q h9).t
theorem sndL : ∀ (c : CL) {S : Sx} {X : Cx} {N : List Str} {nm : Nm} (G : Good S X N nm) (es : List Expr), mL S.L N c nm es = true → PA X es (tL S c)
  | .nil, S, X, N, nm, G, es, h => by
    cases es with
    | nil => exact snd_nil
    | cons _ _ => simp [mL] at h
  | .cons c r, S, X, N, nm, G, es, h => by
    cases es with
    | nil => simp [mL] at h
    | cons e es =>
      simp only [mL, Bool.and_eq_true] at h
      exact snd_cons (sndE c G e h.1).e (sndL r G es h.2) ((wr h.1).star _ _)
theorem sndI : ∀ (c : CI) {S : Sx} {X : Cx} {N : List Str} {nm : Nm} (G : Good S X N nm) (tg e : Expr), (∀ a b, c = .zip a b → ∃ elts k p, tg = .Tuple elts k p) → mI S.L N c nm e = true → PI X tg e (tI S c) ∧ ∀ x, foldedSetIterable e X.env x = pure x
  | .seq c, S, X, N, nm, G, tg, e, _, h => by
    have h : mE S.L N c nm e = true := h
    exact ⟨snd_seq G (sndE c G e h).e, (wr h).fold _⟩
  | .rng1 a, S, X, N, nm, G, tg, e, _, h => by
    obtain ⟨x, p0, f, p, rfl, h1, h2, h3⟩ := inv_rng1 h
    have h1 : x = "range" := h1
    subst h1
    exact ⟨snd_rng1 G h2 (sndE a G f h3).e (by rw [(wr h3).star]; rfl), fun _ => rfl⟩
  | .zip a b, S, X, N, nm, G, tg, e, hz, h => by
    obtain ⟨elts, kk, tp, rfl⟩ := hz a b rfl
    obtain ⟨x, p0, f, k, p, rfl, h1, h2, h3, h4⟩ := inv_zip h
    have h1 : x = "zip" := h1
    subst h1
    exact ⟨snd_zip G h2 (sndE a G f h3).e (sndE b G k h4).e ((wr h3).star _ _) (by rw [(wr h4).star]; rfl), fun _ => rfl⟩
  | .rev a, S, X, N, nm, G, tg, e, _, h => by
    obtain ⟨x, p0, f, p, rfl, h1, h2, h3⟩ := inv_rev h
    have h1 : x = "reversed" := h1
    subst h1
    exact ⟨snd_rev G h2 (sndE a G f h3).e ((wr h3).star _ _), fun _ => rfl⟩
  | .rng2 a b, S, X, N, nm, G, tg, e, _, h => by
    obtain ⟨x, p0, f, k, p, rfl, h1, h2, h3, h4⟩ := inv_rng2 h
    have h1 : x = "range" := h1
    subst h1
    exact ⟨snd_rng2 G h2 (sndE a G f h3).e (sndE b G k h4).e (by rw [(wr h3).star, (wr h4).star]; rfl) (by rw [(wr h4).star]; rfl), fun _ => rfl⟩
end
end PV
/-! PV14: statements. -/
namespace PV
open PySem PySem.Spec PyProof.Rows L2

/-! ### what the names hold, from statement to statement -/
def wkT (T2 T : Tn) : Bool := decide (T2.length = T.length) && (T2.zip T).all fun p => decide (p.2 = none) || decide (p.1 = p.2)
def meetT (a b : Tn) : Tn := (a.zip b).map fun p => if p.1 = p.2 then p.1 else none
def joinT : Option Tn → Option Tn → Option (Option Tn)
  | none, r => some r
  | r, none => some r
  | some a, some b => if a.length = b.length then some (some (meetT a b)) else none
def endT (r : Option Tn) (T : Tn) : Bool := match r with
  | some T2 => wkT T2 T
  | none => true
mutual
def kS (L : St0) (back : Nat) (lp : Tn) : CS → Tn → Option (Option Tn)
  | .asg i t e, T => (kE L e T).bind fun (k, T1) => if k.own = true ∧ (t = k.n ∨ t = 0) then some (some (T1.set i (some t))) else none
  | .unp tg e, T => (kE L e T).bind fun (k, T1) => if k.own = true then some (some (tgT tg T1)) else none
  | .par i j a b, T => (kE L a T).bind fun (ka, T1) => (kE L b T1).bind fun (kb, T2) => if ka.own = true ∧ kb.own = true then some (some ((T2.set i (some 0)).set j (some 0))) else none
  | .ret e, T => (kE L e T).bind fun (k, _) => if k.own = true ∧ (k.n = back ∨ back = 0) then some none else none
  | .retN, _ => some none
  | .exp e, T => (kE L e T).bind fun (_, T1) => some (some T1)
  | .mut m i xs, T => (kL L xs T).bind fun (ks, T1) => if ks.all (·.own) = true ∧ T[i]? = some (some 1) ∧ T1[i]? = some (some 1) ∧ (m = .ext → ks = [⟨true, 1⟩]) then some (some T1) else none
  | .callM f i xs, T => (kL L xs T).bind fun (ks, T1) => (match L.fns[f]? with
    | some fn => if fn.io = true ∧ ks.all (·.own) = true ∧ T[i]? = some (some 1) ∧ T1[i]? = some (some 1) then some (some T1) else none
    | none => none)
  | .ifs c a b, T => (kE L c T).bind fun (_, T1) => (kB L back lp a T1).bind fun r1 => (kB L back lp b T1).bind fun r2 => joinT r1 r2
  | .whl c b, T => (kE L c T).bind fun (_, T1) => (kB L back T b T).bind fun r => if T1 = T ∧ endT r T = true then some (some T) else none
  | .forr tg it b, T => (kI L it T).bind fun (k, T1) => (kB L back T1 b (tgT tg T1)).bind fun r => if k.own = true ∧ endT r T1 = true then some (some T1) else none
  | .brk, T => if wkT T lp = true then some none else none
  | .cont, T => if wkT T lp = true then some none else none
  | .pass, T => some (some T)
  | .fz i, T => (match T[i]? with
    | some (some _) => some (some (T.set i (some 0)))
    | _ => none)
  | .dr i, T => some (some (T.set i none))
  | .bad, _ => some none
def kB (L : St0) (back : Nat) (lp : Tn) : CB → Tn → Option (Option Tn)
  | .nil, T => some (some T)
  | .cons s r, T => (kS L back lp s T).bind fun o => match o with
    | some T1 => kB L back lp r T1
    | none => some none
end
theorem wkT_le {T2 T : Tn} (h : wkT T2 T = true) : T2.length = T.length ∧ ∀ (i n : Nat), T[i]? = some (some n) → T2[i]? = some (some n) := by
  unfold wkT at h
  simp only [Bool.and_eq_true, decide_eq_true_eq, List.all_eq_true, Bool.or_eq_true] at h
  refine ⟨h.1, fun i n e => ?_⟩
  have hi : i < T.length := (List.getElem?_eq_some_iff.mp e).1
  have hi2 : i < T2.length := by omega
  have q := h.2 (T2[i], T[i]) (List.mem_iff_getElem?.mpr ⟨i, by rw [List.getElem?_zip_eq_some]; exact ⟨List.getElem?_eq_getElem hi2, List.getElem?_eq_getElem hi⟩⟩)
  rw [List.getElem?_eq_getElem hi] at e
  have e : T[i] = some n := Option.some.inj e
  rw [List.getElem?_eq_getElem hi2]
  rcases q with q | q
  · rw [e] at q; cases q
  · have q : T2[i] = T[i] := q
    rw [q, e]
theorem meetT_len {a b : Tn} (h : a.length = b.length) : (meetT a b).length = a.length := by
  unfold meetT
  rw [List.length_map, List.length_zip]
  omega
theorem meetT_get {a b : Tn} {i n : Nat} (e : (meetT a b)[i]? = some (some n)) : a[i]? = some (some n) ∧ b[i]? = some (some n) := by
  unfold meetT at e
  rw [List.getElem?_map] at e
  cases z : (a.zip b)[i]? with
  | none => rw [z] at e; cases e
  | some p =>
    rw [z] at e
    obtain ⟨z1, z2⟩ := (List.getElem?_zip_eq_some).mp z
    simp only [Option.map_some, Option.some.injEq] at e
    split at e
    · rename_i hp
      exact ⟨by rw [z1, e], by rw [z2, ← hp, e]⟩
    · cases e
section
variable {K : KW} {g : Gh} {σ : L2.St} {H : Hp}
theorem Rel.weakT {T' : Tn} (R : Rel K g σ H) (hl : T'.length = g.T.length) (h : ∀ (i n : Nat), T'[i]? = some (some n) → g.T[i]? = some (some n)) : Rel K { g with T := T' } σ H := by
  obtain ⟨ow, h1, h2, h3⟩ := R.ow
  exact ⟨R.s0, R.sF, R.sH, R.fr, ⟨ow, h1, fun i n d e1 e2 => h2 i n d (h i n e1) e2, h3⟩, R.l1, hl.trans R.l2⟩
theorem Rel.dropT (R : Rel K g σ H) (i : Nat) : Rel K { g with T := g.T.set i none } σ H := R.weakT (by simp) fun j n e => by
  have e : (g.T.set i none)[j]? = some (some n) := e
  rw [List.getElem?_set] at e
  split at e
  · split at e <;> cases e
  · exact e
theorem set_sameS {σ : L2.St} {i : Nat} {x : Option V} (h : σ[i]? = some x) : σ.set i x = σ := by
  apply List.ext_getElem?
  intro j
  by_cases hj : i = j
  · subst hj
    rw [List.getElem?_set_self (List.getElem?_eq_some_iff.mp h).1, h]
  · rw [List.getElem?_set_ne hj]
theorem set_sameR {σ : Env} {i : Nat} {x : Option D} (h : σ[i]? = some x) : σ.set i x = σ := by
  apply List.ext_getElem?
  intro j
  by_cases hj : i = j
  · subst hj
    rw [List.getElem?_set_self (List.getElem?_eq_some_iff.mp h).1, h]
  · rw [List.getElem?_set_ne hj]
/-- a name's own lists are brought to rest -/
theorem Rel.frz {i n : Nat} (R : Rel K g σ H) (e1 : g.T[i]? = some (some n)) : ∃ F', Same g.F F' ∧ Rel K { g with F := F', T := g.T.set i (some 0) } σ H := by
  cases e2 : g.rho[i]? with
  | none =>
    have := (List.getElem?_eq_some_iff.mp e1).1
    have z := R.l2
    rw [List.getElem?_eq_none_iff] at e2
    omega
  | some o =>
    cases o with
    | none =>
      refine ⟨g.F, Same.refl _, ?_⟩
      obtain ⟨ow, h1, h2, h3⟩ := R.ow
      refine ⟨R.s0, R.sF, R.sH, R.fr, ⟨ow, h1, fun j m d f1 f2 => ?_, h3⟩, R.l1, by simpa using R.l2⟩
      have hj : i ≠ j := fun z => by
        subst z
        have f2 : g.rho[i]? = some (some d) := f2
        rw [e2] at f2; cases f2
      have f1 : (g.T.set i (some 0))[j]? = some (some m) := f1
      rw [List.getElem?_set_ne hj] at f1
      exact h2 j m d f1 f2
    | some d =>
      obtain ⟨v, ev⟩ := R.name e1 e2
      have R1 := R.move e1 e2 ev
      obtain ⟨F', R2, f2⟩ := R1.xrest rfl
      have r := R2.xhead0 rfl
      have R3 := (R2.xpop rfl).set0 r (i := i) (List.getElem?_eq_some_iff.mp e2).1
      refine ⟨F', f2, ?_⟩
      have R4 : Rel K { g with F := F', T := (g.T.set i none).set i (some 0), rho := g.rho.set i (some d) } (σ.set i (some v)) H := R3
      rw [set_sameR e2, set_sameS ev, List.set_set] at R4
      exact R4
end
end PV
/-! PV15: each form of statement. -/
namespace PV
open PySem PySem.Spec PyProof.Rows L2

/-- what is owed when a statement ends as o -/
def AftO (S : Sx) (back : Nat) (lp : Tn) (g : Gh) (r : Option Tn) (o : O) (En : Ends) : Prop := match o with
  | .nx ρ => (match r with
    | some T' => ∀ σ' H' F', Same g.F F' → Rel S.K { g with F := F', T := T', tau := [], rho := ρ } σ' H' → En.nx σ' H'
    | none => True)
  | .ct ρ => ∀ σ' H' F', Same g.F F' → Rel S.K { g with F := F', T := lp, tau := [], rho := ρ } σ' H' → En.ct σ' H'
  | .bk ρ => ∀ σ' H' F', Same g.F F' → Rel S.K { g with F := F', T := lp, tau := [], rho := ρ } σ' H' → En.bk σ' H'
  | .rt d => ∀ v H' F', Same g.F0 F' → Same g.H0 H' → Same F' H' → (∀ p, F' p ≠ none → g.F0 p ≠ none ∨ g.H0 p = none) → (∃ fp, RepO S.K F' H' back v d fp ∧ fp.Nodup ∧ ∀ p ∈ fp, F' p = none ∧ g.H0 p = none) → En.rt v H'
  | .exc e _ => ∀ cls dd σ' H', Same g.H0 H' → S.eat e cls dd H' → S.W cls dd σ' H'
  | .bad => False
def tS (S : Sx) (back : Nat) (lp : Tn) (c : CS) : TS := fun En σ H => ∃ (g : Gh) (r : Option Tn), kS S.L back lp c g.T = some r ∧ g.tau = [] ∧ Rel S.K g σ H ∧ AftO S back lp g r (exS S.w c g.rho) En
def tB (S : Sx) (back : Nat) (lp : Tn) (c : CB) : TS := fun En σ H => ∃ (g : Gh) (r : Option Tn), kB S.L back lp c g.T = some r ∧ g.tau = [] ∧ Rel S.K g σ H ∧ AftO S back lp g r (exB S.w c g.rho) En
section
variable {X : Cx} {S : Sx} {back : Nat} {lp : Tn} {g : Gh} {En : Ends} {σ : L2.St} {H : Hp} {N : List Str} {nm : Nm}
theorem impS {e : Stmt} {t t' : TS} (h : PS X e t) (i : ∀ En σ H, t' En σ H → t En σ H) : PS X e t' := ⟨fun pins s σ H En I q => h.run pins s σ H En I (i En σ H q)⟩
theorem impSs {e : List Stmt} {t t' : TS} (h : PSs X e t) (i : ∀ En σ H, t' En σ H → t En σ H) : PSs X e t' := ⟨fun pins s σ H En I q => h.run pins s σ H En I (i En σ H q)⟩
theorem Rel.tau0 {K : KW} (R : Rel K g σ H) (h : g.tau = []) : Rel K { g with tau := [] } σ H := by
  obtain ⟨a1, a2, a3, a4, a5, a6⟩ := g
  have h : a5 = [] := h
  subst h
  exact R
/-- more is at rest -/
theorem AftO.up {r : Option Tn} {o : O} {F1 : Hp} {T1 : Tn} {tau : List Cell} {ρ1 : Env} (f : Same g.F F1) (h : AftO S back lp g r o En) : AftO S back lp { g with F := F1, T := T1, tau := tau, rho := ρ1 } r o En := by
  cases o with
  | nx ρ =>
    cases r with
    | some T' => exact fun σ' H' F' f' R' => h σ' H' F' (f.trans f') R'
    | none => trivial
  | ct ρ => exact fun σ' H' F' f' R' => h σ' H' F' (f.trans f') R'
  | bk ρ => exact fun σ' H' F' f' R' => h σ' H' F' (f.trans f') R'
  | rt d => exact h
  | exc e ρ => exact h
  | bad => exact h
/-- a value, then what is made of it -/
theorem tE_then {c : CE} {r : Option Tn} {f : D → O} {k : Kd} {T1 : Tn} {Q : VK} (c1 : kE S.L c g.T = some (k, T1)) (R : Rel S.K g σ H) (h : AftO S back lp g r ((evE S.w c g.rho).out g.rho f) En)
    (fin : ∀ v d H1 F1, Same H H1 → Same g.F F1 → Rel S.K { g with F := F1, T := T1, tau := k.c v d :: g.tau } σ H1 → AftO S back lp g r (f d) En → Q v H1) : tE S c σ H Q := by
  refine ⟨g, k, T1, c1, R, ?_⟩
  cases e : evE S.w c g.rho with
  | ok d =>
    rw [e] at h
    exact fun v H1 F1 s f1 R1 => fin v d H1 F1 s f1 R1 h
  | exc x => rw [e] at h; exact fun cls dd H' s x => h cls dd σ H' (R.sH.trans s) x
  | bad => rw [e] at h; exact h
/-! ### stores -/
theorem fin_asg {i t : Nat} {e : CE} {Q : VK} {r : Option Tn} (c : kS S.L back lp (.asg i t e) g.T = some r) (ht : g.tau = []) (R : Rel S.K g σ H) (h : AftO S back lp g r (exS S.w (.asg i t e) g.rho) En) (hQ : ∀ x H1, En.nx (σ.set i (some x)) H1 → Q x H1) : tE S e σ H Q := by
  obtain ⟨k, T1, c1, c⟩ := bind2 c
  have c : (if k.own = true ∧ (t = k.n ∨ t = 0) then some (some (T1.set i (some t))) else none) = some r := c
  split at c
  case isFalse => cases c
  rename_i hk
  cases c
  have h : AftO S back lp g _ ((evE S.w e g.rho).out g.rho fun d => if i < g.rho.length then .nx (g.rho.set i (some d)) else .bad) En := h
  refine tE_then c1 R h fun v d H1 F1 s f R1 h1 => hQ v H1 ?_
  by_cases hi : i < g.rho.length
  · rw [if_pos hi] at h1
    obtain ⟨ko, kn⟩ := k
    have ko : ko = true := hk.1
    subst ko
    have hr : g.tau = [] := ht
    by_cases z : t = kn
    · subst z
      have R2 := R1.xstore (n := t) (v := v) (d := d) (r := g.tau) rfl hi hr
      have R3 : Rel S.K { g with F := F1, T := T1.set i (some t), tau := g.tau, rho := g.rho.set i (some d) } (σ.set i (some v)) H1 := R2
      rw [hr] at R3
      exact h1 _ _ F1 f R3
    · have z0 : t = 0 := hk.2.resolve_left z
      subst z0
      obtain ⟨F2, R2, f2⟩ := R1.xrest rfl
      have r0 := R2.xhead0 rfl
      have R3 := (R2.xpop rfl).set0 (i := i) r0 hi
      have R3 : Rel S.K { g with F := F2, T := T1.set i (some 0), tau := g.tau, rho := g.rho.set i (some d) } (σ.set i (some v)) H1 := R3
      rw [hr] at R3
      exact h1 _ _ F2 (f.trans f2) R3
  · rw [if_neg hi] at h1
    exact h1.elim
theorem notLc_sw {L : St0} {c : CE} {e : Expr} (h : mE L N c nm e = true) (hc : c.notLc = true) (t : Option Expr) (l : Nat) (env : PySem.Env) : swapsWith e t l env = pure false := by
  have w := wr h
  cases w <;> first
    | rfl
    | (exfalso
       cases c <;> first
         | (cases hc; done)
         | (unfold mE at h
            first
              | (cases h; done)
              | (split at h <;> first | (cases h; done) | contradiction)))
theorem snd_asg (G : Good S X N nm) {i t : Nat} {c : CE} {x : Str} {e : Expr} {p q : Pos} (h1 : N[i]? = some x) (h2 : locB nm x = true) (h3 : c.notLc = true) (h4 : mE S.L N c nm e = true) : PS X (.Assign [.Name x p] e q) (tS S back lp (.asg i t c)) := by
  obtain ⟨l1, l2⟩ := G.loc h2
  refine impS (ps_set (i := i) (by rw [G.hN]; exact G.nd) (by rw [G.hN]; exact h1) l1 (sndE c G e h4).e (notLc_sw h4 h3 _ _ _) l2) ?_
  rintro En σ H ⟨g, r, c, ht, R, h⟩
  exact fin_asg c ht R h fun _ _ z => z

theorem sw_cell {elt : Expr} {gs : List Comprehension} {scope : Scope} {pos py : Pos} {y : Str} {l : Nat} {env : PySem.Env} (hy : env.scope.names.lookup y = some .cell) : swapsWith (.ListComp elt gs scope pos) (some (.Name y py)) l env = pure false := by
  have ky : env.kindOf y = some .cell := hy
  have e : (env.kindOf y == some .local) = false := by rw [ky]; rfl
  unfold swapsWith
  simp only [e, Bool.and_false, Bool.false_and]
theorem snd_asgCell (G : Good S X N nm) {i t : Nat} {own : List Nat} {tg : Tg} {it : CI} {ifs : CL} {elt : CE} {y : Str} {py pos spos : Pos} {x : Expr} {gs : List Comprehension} {scope : Scope} (h1 : N[i]? = some y) (h2 : locB nm y = true) (h3 : X.env.scope.names.lookup y = some .cell)
    (h4 : mE S.L N (.lc own tg it ifs elt) nm (.ListComp x gs scope pos) = true) : PS X (.Assign [.Name y py] (.ListComp x gs scope pos) spos) (tS S back lp (.asg i t (.lc own tg it ifs elt))) := by
  obtain ⟨l1, l2⟩ := G.loc h2
  refine impS (ps_set (i := i) (by rw [G.hN]; exact G.nd) (by rw [G.hN]; exact h1) l1 (sndE (.lc own tg it ifs elt) G (.ListComp x gs scope pos) h4).e (sw_cell h3) l2) ?_
  rintro En σ H ⟨g, r, c, ht, R, h⟩
  exact fin_asg c ht R h fun _ _ z => z
theorem snd_asgLc (G : Good S X N nm) {i t : Nat} {own : List Nat} {tg : Tg} {it : CI} {ifs : CL} {elt : CE} {y : Str} {py pos spos : Pos} {x tt iter : Expr} {tests : List Expr} {scope : Scope} (h1 : N[i]? = some y) (h2 : nm.lookup y = some .local) (hp : py.line = pos.line)
    (hn : (scope.names.any fun (n, k) => n == y && (k == .local || k == .cell)) = false) (h : mE S.L N (.lc own tg it ifs elt) nm (.ListComp x [⟨tt, iter, tests, 0⟩] scope pos) = true) (hk : X.env.scope.kind = .function) :
    PS X (.Assign [.Name y py] (.ListComp x [⟨tt, iter, tests, 0⟩] scope pos) spos) (tS S back lp (.asg i t (.lc own tg it ifs elt))) := by
  obtain ⟨x', t', iter', tests', scope', p', e', g0, g1, g2, g3, g4, g5, g6, g7, g8⟩ := inv_lc h
  cases e'
  have hl : ∀ i ∈ own, i < N.length := fun i hi => by
    have z := List.all_eq_true.mp g3 i hi
    simpa using z
  have hi := sndI it G tt iter (okT_tup g0 g5) g6
  have hl2 : X.env.scope.names.lookup y = some .local := by
    rcases G.nmk _ _ h2 with q | ⟨z, _⟩
    · exact q
    · cases z
  have ht : ∀ s H C cl fp, PTs (X.blk s H scope (compEnvC scope cl C X.env) fp) tests (tTs S.blk ifs) := fun s H C cl fp => by
    cases ifs with
    | nil =>
      cases tests with
      | nil => exact pts_nil
      | cons _ _ => simp [mL] at g7
    | cons c r =>
      cases r with
      | cons _ _ => cases g2
      | nil =>
        cases tests with
        | nil => simp [mL] at g7
        | cons q r =>
          cases r with
          | cons _ _ => simp [mL] at g7
          | nil =>
            have h9 : mE S.L N c scope.names q = true := by simpa [mL] using g7
            exact pts_one (sndE c (G.blk scope s H C cl fp) q h9).t
  refine impS (ps_setLc (i := i) G.calm (by rw [G.hN]; exact G.nd) (by rw [G.hN]; exact h1) hl2 (sw_true hk hl2 (by simpa using hp) hn) hi.1 (G.blkOk g4) (fun s H C cl fp => snd_tg (G.blk scope s H C cl fp) tg tt g5) ht (fun s H C cl fp => (sndE elt (G.blk scope s H C cl fp) x g8).e) hi.2) ?_
  rintro En σ H ⟨g, r, c, hτ, R, h⟩
  exact snd_lc (tests := tests) (pos := pos) G hi.1 g4 hl g1 g2 (fun s H C cl fp => snd_tg (G.blk scope s H C cl fp) tg tt g5) ht (fun s H C cl fp => (sndE elt (G.blk scope s H C cl fp) x g8).e) hi.2 σ H _ (fin_asg c hτ R h fun _ _ z => z)
theorem snd_unp (G : Good S X N nm) {tg : Tg} {c : CE} {t : Expr} {e : Expr} {q : Pos} (h1 : mT N nm tg t = true) (h3 : c.notLc = true) (h4 : mE S.L N c nm e = true) (hw : swappedStores [t] e X.env = pure none) (ha : (assignEach [t] X.env).map (·.2) = [assign t X.env]) : PS X (.Assign [t] e q) (tS S back lp (.unp tg c)) := by
  refine impS (ps_asg (sndE c G e h4).e (snd_tg G tg t h1) (notLc_sw h4 h3 _ _ _) hw ha) ?_
  rintro En σ H ⟨g, r, c', ht, R, h⟩
  obtain ⟨k, T1, c1, c'⟩ := bind2 c'
  have c' : (if k.own = true then some (some (tgT tg T1)) else none) = some r := c'
  split at c'
  case isFalse => cases c'
  rename_i hk
  cases c'
  have h : AftO S back lp g _ ((evE S.w c g.rho).out g.rho fun d => match giveT tg d g.rho with | .ok ρ' => .nx ρ' | _ => .bad) En := h
  refine tE_then c1 R h fun v d H1 F1 s f R1 h1 => ?_
  obtain ⟨ko, kn⟩ := k
  have ko : ko = true := hk
  subst ko
  obtain ⟨F2, R2, f2⟩ := R1.xrest rfl
  have r0 := R2.xhead0 rfl
  have R3 := R2.xpop rfl
  cases eg : giveT tg d g.rho with
  | ok ρ' =>
    rw [eg] at h1
    refine ⟨{ g with F := F2, T := T1 }, d, ρ', r0, R3, eg, fun σ' o R4 => ?_⟩
    have R4 : Rel S.K { g with F := F2, T := tgT tg T1, tau := g.tau, rho := ρ' } σ' H1 := R4
    rw [ht] at R4
    exact h1 σ' H1 F2 (f.trans f2) R4
  | exc _ => rw [eg] at h1; exact h1.elim
  | bad => rw [eg] at h1; exact h1.elim
theorem snd_ret (G : Good S X N nm) {c : CE} {e : Expr} {q : Pos} (h4 : mE S.L N c nm e = true) : PS X (.Return (some e) q) (tS S back lp (.ret c)) := by
  refine impS (ps_ret (sndE c G e h4).e) ?_
  rintro En σ H ⟨g, r, c', ht, R, h⟩
  obtain ⟨k, T1, c1, c'⟩ := bind2 c'
  have c' : (if k.own = true ∧ (k.n = back ∨ back = 0) then some none else none) = some r := c'
  split at c'
  case isFalse => cases c'
  rename_i hk
  cases c'
  have h : AftO S back lp g _ ((evE S.w c g.rho).out g.rho .rt) En := h
  refine tE_then c1 R h fun v d H1 F1 s f R1 h1 => ?_
  obtain ⟨ko, kn⟩ := k
  have ko : ko = true := hk.1
  subst ko
  by_cases z : kn = back
  · subst z
    obtain ⟨ow, a1, a2, a3⟩ := R1.ow
    obtain ⟨fp, r0, nd, hp, _⟩ := a3.1
    refine h1 v H1 F1 R1.s0 R1.sH R1.sF R1.fr ⟨fp, r0, nd, fun p hm => ?_⟩
    obtain ⟨b1, b2, b3⟩ := a1 p _ (hp rfl p hm)
    exact ⟨b2, b1⟩
  · have z0 : back = 0 := hk.2.resolve_left z
    subst z0
    obtain ⟨F2, R2, f2⟩ := R1.xrest rfl
    have r0 := R2.xhead0 rfl
    exact h1 v H1 F2 R2.s0 R2.sH R2.sF R2.fr ⟨[], ⟨r0, rfl⟩, List.nodup_nil, fun p hm => (nomatch hm)⟩
theorem repO_non {K : KW} {F H : Hp} (n : Nat) : RepO K F H n .non .non [] := by
  cases n with
  | zero => exact ⟨.non, rfl⟩
  | succ n => exact ⟨.non, rfl⟩
theorem snd_retN {q : Pos} : PS X (.Return none q) (tS S back lp .retN) := by
  refine impS ps_retN ?_
  rintro En σ H ⟨g, r, c', ht, R, h⟩
  exact h .non H g.F R.s0 R.sH R.sF R.fr ⟨[], repO_non back, List.nodup_nil, fun p hm => (nomatch hm)⟩
theorem snd_exp (G : Good S X N nm) {c : CE} {e : Expr} {q : Pos} (h3 : c.notLc = true) (h4 : mE S.L N c nm e = true) : PS X (.Expr e q) (tS S back lp (.exp c)) := by
  refine impS (ps_expr (sndE c G e h4).e (notLc_sw h4 h3 _ _ _)) ?_
  rintro En σ H ⟨g, r, c', ht, R, h⟩
  obtain ⟨k, T1, c1, c'⟩ := bind2 c'
  cases c'
  have h : AftO S back lp g (some T1) ((evE S.w c g.rho).out g.rho fun _ => .nx g.rho) En := h
  refine tE_then c1 R h fun v d H1 F1 s f R1 h1 => ?_
  have R2 := R1.xpop rfl
  have R2 : Rel S.K { g with F := F1, T := T1, tau := g.tau, rho := g.rho } σ H1 := R2
  rw [ht] at R2
  exact h1 σ H1 F1 f R2
theorem snd_pass {q : Pos} : PS X (.Pass q) (tS S back lp .pass) := by
  refine impS ps_pass ?_
  rintro En σ H ⟨g, r, c', ht, R, h⟩
  cases c'
  exact h σ H g.F (Same.refl _) (R.tau0 ht)
theorem snd_doc {x : Str} {j : Nat} {p q : Pos} : PS X (.Expr (.Constant (.str x) j p) q) (tS S back lp .pass) := by
  refine impS ps_doc ?_
  rintro En σ H ⟨g, r, c', ht, R, h⟩
  cases c'
  exact h σ H g.F (Same.refl _) (R.tau0 ht)
theorem Rel.toLp (R : Rel S.K g σ H) (ht : g.tau = []) (h : wkT g.T lp = true) : Rel S.K { g with F := g.F, T := lp, tau := [], rho := g.rho } σ H := by
  obtain ⟨w1, w2⟩ := wkT_le h
  have R2 := R.weakT (T' := lp) w1.symm w2
  have R2 : Rel S.K { g with F := g.F, T := lp, tau := g.tau, rho := g.rho } σ H := R2
  rw [ht] at R2
  exact R2
theorem snd_brk {q : Pos} : PS X (.Break q) (tS S back lp .brk) := by
  refine impS ps_break ?_
  rintro En σ H ⟨g, r, c', ht, R, h⟩
  have c' : (if wkT g.T lp = true then some none else none) = some r := c'
  split at c'
  case isFalse => cases c'
  rename_i hk
  exact h σ H g.F (Same.refl _) (R.toLp ht hk)
theorem snd_cont {q : Pos} : PS X (.Continue q) (tS S back lp .cont) := by
  refine impS ps_continue ?_
  rintro En σ H ⟨g, r, c', ht, R, h⟩
  have c' : (if wkT g.T lp = true then some none else none) = some r := c'
  split at c'
  case isFalse => cases c'
  rename_i hk
  exact h σ H g.F (Same.refl _) (R.toLp ht hk)
end
end PV
/-! PV16: loops, blocks; every CS. -/
namespace PV
open PySem PySem.Spec PyProof.Rows L2
section
variable {X : Cx} {S : Sx} {back : Nat} {lp : Tn} {g : Gh} {En : Ends} {σ : L2.St} {H : Hp} {N : List Str} {nm : Nm}

/-! ### if -/
theorem AftO.left {r1 r2 r : Option Tn} {o : O} (j : joinT r1 r2 = some r) (h : AftO S back lp g r o En) : AftO S back lp g r1 o En := by
  cases o with
  | nx ρ =>
    cases r1 with
    | none => trivial
    | some T1 =>
      cases r2 with
      | none => cases j; exact h
      | some T2 =>
        have j : (if T1.length = T2.length then some (some (meetT T1 T2)) else none) = some r := j
        split at j
        · rename_i hl
          cases j
          exact fun σ' H' F' f R => h σ' H' F' f (R.weakT (T' := meetT T1 T2) (meetT_len hl) fun i n e => (meetT_get e).1)
        · cases j
  | ct ρ => exact h
  | bk ρ => exact h
  | rt d => exact h
  | exc e ρ => exact h
  | bad => exact h
theorem AftO.right {r1 r2 r : Option Tn} {o : O} (j : joinT r1 r2 = some r) (h : AftO S back lp g r o En) : AftO S back lp g r2 o En := by
  cases o with
  | nx ρ =>
    cases r2 with
    | none => trivial
    | some T2 =>
      cases r1 with
      | none => cases j; exact h
      | some T1 =>
        have j : (if T1.length = T2.length then some (some (meetT T1 T2)) else none) = some r := j
        split at j
        · rename_i hl
          cases j
          exact fun σ' H' F' f R => h σ' H' F' f (R.weakT (T' := meetT T1 T2) ((meetT_len hl).trans hl) fun i n e => (meetT_get e).2)
        · cases j
  | ct ρ => exact h
  | bk ρ => exact h
  | rt d => exact h
  | exc e ρ => exact h
  | bad => exact h
/-- a test, then what follows -/
theorem tT_then {c : CE} {r : Option Tn} {f : D → O} {k : Kd} {T1 : Tn} {Q : Bool → Hp → Prop} (c1 : kE S.L c g.T = some (k, T1)) (R : Rel S.K g σ H) (h : AftO S back lp g r ((evE S.w c g.rho).out g.rho f) En)
    (hb : ∀ d, (∀ b, d ≠ .bl b) → f d = .bad)
    (fin : ∀ b H1 F1, Same H H1 → Same g.F F1 → Rel S.K { g with F := F1, T := T1 } σ H1 → AftO S back lp g r (f (.bl b)) En → Q b H1) : tT S c σ H Q := by
  refine ⟨g, k, T1, c1, R, ?_⟩
  cases e : evE S.w c g.rho with
  | ok d =>
    rw [e] at h
    have h : AftO S back lp g r (f d) En := h
    cases d with
    | bl b => exact fun H1 F1 s f1 R1 => fin b H1 F1 s f1 R1 h
    | _ =>
      rw [hb _ (by intro b z; cases z)] at h
      exact h
  | exc x => rw [e] at h; exact fun cls dd H' s x => h cls dd σ H' (R.sH.trans s) x
  | bad => rw [e] at h; exact h
theorem snd_ifs {c : CE} {a b : CB} {e : Expr} {x y : List Stmt} {q : Pos} (hc : PT X e (tT S c)) (ha : PSs X x (tB S back lp a)) (hb : PSs X y (tB S back lp b)) : PS X (.If e x y q) (tS S back lp (.ifs c a b)) := by
  refine impS (ps_if hc ha hb) ?_
  rintro En σ H ⟨g, r, c', ht, R, h⟩
  obtain ⟨k, T1, c1, c'⟩ := bind2 c'
  have c' : ((kB S.L back lp a T1).bind fun r1 => (kB S.L back lp b T1).bind fun r2 => joinT r1 r2) = some r := c'
  obtain ⟨r1, ca, c'⟩ := Option.bind_eq_some_iff.mp c'
  obtain ⟨r2, cb, j⟩ := Option.bind_eq_some_iff.mp c'
  have h : AftO S back lp g r ((evE S.w c g.rho).out g.rho fun x => match x with
    | .bl true => exB S.w a g.rho
    | .bl false => exB S.w b g.rho
    | _ => .bad) En := h
  refine tT_then c1 R h (fun d hd => ?_) fun b1 H1 F1 s f R1 h1 => ?_
  · cases d with
    | bl b => exact absurd rfl (hd b)
    | _ => rfl
  · have R2 := R1.tau0 ht
    cases b1 with
    | true =>
      rw [if_pos rfl]
      exact ⟨{ g with F := F1, T := T1, tau := [] }, r1, ca, rfl, R2, (h1.left j).up f⟩
    | false =>
      rw [if_neg (by decide)]
      exact ⟨{ g with F := F1, T := T1, tau := [] }, r2, cb, rfl, R2, (h1.right j).up f⟩

/-! ### while -/
theorem snd_whl {c : CE} {b : CB} {e : Expr} {x : List Stmt} {q : Pos} (hp : PassesOwn (model X.prog X.w) X.A X.env X.xe) (hc : PT X e (tT S c)) (hb : ∀ lp, PSs X x (tB S back lp b)) : PS X (.While e x [] q) (tS S back lp (.whl c b)) := by
  refine ⟨fun pins s σ H En I h => ?_⟩
  obtain ⟨g, r, c0, ht, R, h⟩ := h
  refine (ps_while (pos := q) hp hc (hb g.T)).run pins s σ H En I ?_
  obtain ⟨k, T1, c1, cA⟩ := bind2 c0
  have cA : ((kB S.L back g.T b g.T).bind fun r' => if T1 = g.T ∧ endT r' g.T = true then some (some g.T) else none) = some r := cA
  obtain ⟨rb, cb, cB⟩ := Option.bind_eq_some_iff.mp cA
  by_cases hT : T1 = g.T ∧ endT rb g.T = true
  case neg =>
    rw [if_neg hT] at cB
    cases cB
  case pos =>
    rw [if_pos hT] at cB
    obtain ⟨e1, hend⟩ := hT
    subst e1
    have cB := Option.some.inj cB
    subst cB
    refine ⟨fun m σ H => ∃ F ρ, Rel S.K { g with F := F, tau := [], rho := ρ } σ H ∧ AftO S back lp { g with F := F, tau := [], rho := ρ } (some g.T) (whlGo (evE S.w c) (exB S.w b) m ρ) En, ⟨S.w.turns, g.F, g.rho, R.tau0 ht, h.up (T1 := g.T) (tau := []) (ρ1 := g.rho) (Same.refl _)⟩, ?_⟩
    rintro m σ1 H1 ⟨F1, ρ1, R1, h1⟩
    cases m with
    | zero => exact h1.elim
    | succ m =>
      have h1 : AftO S back lp { g with F := F1, tau := [], rho := ρ1 } (some g.T) ((evE S.w c ρ1).out ρ1 fun x => match x with
        | .bl true => (match exB S.w b ρ1 with
          | .nx ρ' => whlGo (evE S.w c) (exB S.w b) m ρ'
          | .ct ρ' => whlGo (evE S.w c) (exB S.w b) m ρ'
          | .bk ρ' => .nx ρ'
          | o => o)
        | .bl false => .nx ρ1
        | _ => .bad) En := h1
      refine tT_then (g := { g with F := F1, tau := [], rho := ρ1 }) c1 R1 h1 (fun d hd => ?_) fun b1 H2 F2 s2 f2 R2 h2 => ?_
      · cases d with
        | bl b => exact absurd rfl (hd b)
        | _ => rfl
      · cases b1 with
        | false =>
          rw [if_neg (by decide)]
          exact h2 σ1 H2 F2 f2 R2
        | true =>
          rw [if_pos rfl]
          have h2 : AftO S back lp { g with F := F1, tau := [], rho := ρ1 } (some g.T) (match exB S.w b ρ1 with
            | .nx ρ' => whlGo (evE S.w c) (exB S.w b) m ρ'
            | .ct ρ' => whlGo (evE S.w c) (exB S.w b) m ρ'
            | .bk ρ' => .nx ρ'
            | o => o) En := h2
          refine ⟨fun σ H => ∃ F ρ, Rel S.K { g with F := F, tau := [], rho := ρ } σ H ∧ AftO S back lp { g with F := F, tau := [], rho := ρ } (some g.T) (whlGo (evE S.w c) (exB S.w b) m ρ) En, fun σ' H' w => ⟨m, Nat.lt_succ_self m, w⟩, ?_⟩
          refine ⟨{ g with F := F2, tau := [], rho := ρ1 }, rb, cb, rfl, R2, ?_⟩
          have h2 := h2.up (T1 := g.T) (tau := []) (ρ1 := ρ1) f2
          cases eo : exB S.w b ρ1 with
          | nx ρ' =>
            rw [eo] at h2
            cases rb with
            | none => trivial
            | some T2 =>
              intro σ' H' F' f' R'
              obtain ⟨w1, w2⟩ := wkT_le hend
              have R'' := R'.weakT (T' := g.T) w1.symm w2
              exact ⟨F', ρ', R'', (by have z := h2.up (T1 := g.T) (tau := []) (ρ1 := ρ') f'; exact z)⟩
          | ct ρ' =>
            rw [eo] at h2
            intro σ' H' F' f' R'
            exact ⟨F', ρ', R', (by have z := h2.up (T1 := g.T) (tau := []) (ρ1 := ρ') f'; exact z)⟩
          | bk ρ' =>
            rw [eo] at h2
            intro σ' H' F' f' R'
            exact h2 σ' H' F' f' R'
          | rt d => rw [eo] at h2; exact h2
          | exc e ρ' => rw [eo] at h2; exact h2
          | bad => rw [eo] at h2; exact h2

/-! ### for -/
theorem snd_for (G : Good S X N nm) {tg : Tg} {it : CI} {b : CB} {t e : Expr} {x : List Stmt} {q : Pos} (hp : PassesOwn (model X.prog X.w) X.A X.env X.xe) (hi : PI X t e (tI S it)) (hg : PG X t (tG S tg)) (hb : ∀ lp, PSs X x (tB S back lp b)) (hs : ∀ x, foldedSetIterable e X.env x = pure x) :
    PS X (.For t e x [] q) (tS S back lp (.forr tg it b)) := by
  refine ⟨fun pins s σ H En I h => ?_⟩
  obtain ⟨g, r, c0, ht, R, h⟩ := h
  obtain ⟨k, T1, c1, cA⟩ := bind2 c0
  have cA : ((kB S.L back T1 b (tgT tg T1)).bind fun r' => if k.own = true ∧ endT r' T1 = true then some (some T1) else none) = some r := cA
  obtain ⟨rb, cb, cB⟩ := Option.bind_eq_some_iff.mp cA
  by_cases hT : k.own = true ∧ endT rb T1 = true
  case neg =>
    rw [if_neg hT] at cB
    cases cB
  case pos =>
    rw [if_pos hT] at cB
    obtain ⟨ho, hend⟩ := hT
    have cB := Option.some.inj cB
    subst cB
    refine (ps_for (pos := q) hp G.calm hi hg (hb T1) hs).run pins s σ H En I ?_
    refine ⟨g, k, T1, c1, R, ?_⟩
    have h : AftO S back lp g (some T1) ((evI S.w it g.rho).out g.rho fun ds => forGo tg (exB S.w b) ds g.rho) En := h
    cases e1 : evI S.w it g.rho with
    | exc e => rw [e1] at h; exact fun cls dd H' s x => h cls dd σ H' (R.sH.trans s) x
    | bad => rw [e1] at h; exact h.elim
    | ok ds =>
      rw [e1] at h
      intro J H1 F1 GG s1 f1 R1 wk _ gf
      have gf := gf ho
      have h : AftO S back lp g (some T1) (forGo tg (exB S.w b) ds g.rho) En := h
      refine for_it wk (fun i σ H => ∃ F ρ, Same F1 F ∧ Rel S.K { g with F := F, T := T1, tau := [], rho := ρ } σ H ∧ AftO S back lp { g with F := F, T := T1, tau := [], rho := ρ } (some T1) (forGo tg (exB S.w b) (ds.drop i) ρ) En)
        ⟨F1, g.rho, Same.refl _, R1.tau0 ht, h.up f1⟩ (fun i σ H _ ⟨F, ρ, f, R, _⟩ => gf H (f.trans R.sF)) ?_ ?_
      · rintro i v σ2 Ha H2 hi' ⟨F2a, ρ2, f2a, R2a, h2a⟩ yy
        obtain ⟨F2, d, ed, ff, ss, R2b, rd⟩ := yield_rel R2a yy f2a
        have ff : Same F2a F2 := ff
        have f2 : Same F1 F2 := f2a.trans ff
        have R2 : Rel S.K { g with F := F2, T := T1, tau := [], rho := ρ2 } σ2 H2 := R2b
        have h2 := h2a.up (T1 := T1) (tau := []) (ρ1 := ρ2) ff
        clear R2b R2a h2a f2a
        rw [List.drop_eq_getElem_cons hi'] at h2
        have e3 : ds[i] = d := by
          have := List.getElem?_eq_getElem hi'
          rw [this] at ed
          exact Option.some.inj ed
        rw [e3] at h2
        have h2 : AftO S back lp { g with F := F2, T := T1, tau := [], rho := ρ2 } (some T1) (match giveT tg d ρ2 with
          | .ok ρ' => (match exB S.w b ρ' with
            | .nx ρ'' => forGo tg (exB S.w b) (ds.drop (i + 1)) ρ''
            | .ct ρ'' => forGo tg (exB S.w b) (ds.drop (i + 1)) ρ''
            | .bk ρ'' => .nx ρ''
            | o => o)
          | _ => .bad) En := h2
        cases eg : giveT tg d ρ2 with
        | exc _ => rw [eg] at h2; exact h2.elim
        | bad => rw [eg] at h2; exact h2.elim
        | ok ρ' =>
          rw [eg] at h2
          refine ⟨{ g with F := F2, T := T1, tau := [], rho := ρ2 }, d, ρ', rd, R2, eg, fun σ3 _ R3 => ?_⟩
          refine ⟨{ g with F := F2, T := tgT tg T1, tau := [], rho := ρ' }, rb, cb, rfl, R3, ?_⟩
          have h2 := h2.up (T1 := tgT tg T1) (tau := []) (ρ1 := ρ') (Same.refl _)
          have h2 : AftO S back lp { g with F := F2, T := tgT tg T1, tau := [], rho := ρ' } (some T1) (match exB S.w b ρ' with
            | .nx ρ'' => forGo tg (exB S.w b) (ds.drop (i + 1)) ρ''
            | .ct ρ'' => forGo tg (exB S.w b) (ds.drop (i + 1)) ρ''
            | .bk ρ'' => .nx ρ''
            | o => o) En := h2
          cases eo : exB S.w b ρ' with
          | nx ρ'' =>
            rw [eo] at h2
            cases rb with
            | none => trivial
            | some T2 =>
              intro σ' H' F' f' R'
              obtain ⟨w1, w2⟩ := wkT_le hend
              have R'' := R'.weakT (T' := T1) w1.symm w2
              exact ⟨F', ρ'', f2.trans f', R'', (by have z := h2.up (T1 := T1) (tau := []) (ρ1 := ρ'') f'; exact z)⟩
          | ct ρ'' =>
            rw [eo] at h2
            intro σ' H' F' f' R'
            exact ⟨F', ρ'', f2.trans f', R', (by have z := h2.up (T1 := T1) (tau := []) (ρ1 := ρ'') f'; exact z)⟩
          | bk ρ'' =>
            rw [eo] at h2
            intro σ' H' F' f' R'
            exact h2 σ' H' F' f' R'
          | rt d => rw [eo] at h2; exact h2
          | exc e ρ'' => rw [eo] at h2; exact h2
          | bad => rw [eo] at h2; exact h2
      · rintro σ2 H2 ⟨F2, ρ2, f2, R2, h2⟩
        rw [List.drop_length] at h2
        exact h2 σ2 H2 F2 (Same.refl _) R2
end
end PV
/-! PV17: every CS, every block. -/
namespace PV
open PySem PySem.Spec PyProof.Rows L2
structure GoodS (S : Sx) (X : Cx) (N : List Str) (nm : Nm) : Prop extends Good S X N nm where
  hp : PassesOwn (model X.prog X.w) X.A X.env X.xe
  hk : X.env.scope.kind = .function
section
variable {X : Cx} {S : Sx} {back : Nat} {lp : Tn} {g : Gh} {En : Ends} {σ : L2.St} {H : Hp} {N : List Str} {nm : Nm}
theorem GoodS.loc1 (G : GoodS S X N nm) {x : Str} (h : nm.lookup x = some .local) : X.env.scope.names.lookup x = some .local := by
  rcases G.nmk _ _ h with q | ⟨z, _⟩
  · exact q
  · cases z
theorem GoodS.bk (G : GoodS S X N nm) : X.env.blockKind = .function := by
  unfold Env.blockKind; rw [G.hk]; rfl
theorem swap_two {x y : Str} {px py pt pt2 : Pos} {kt k2 : Nat} {a b : Expr} {env : PySem.Env} (hk : env.blockKind = .function) (hx : env.scope.names.lookup x = some .local) (hy : env.scope.names.lookup y = some .local) (hxy : x ≠ y) (hl : px.line = py.line)
    (ha : Wr a) (hb : Wr b) (h1 : [a, b].all (foldedForSure 8) = false) (h2 : [a, b].all (constantsAlone 8) = false) : swappedStores [.Tuple [.Name x px, .Name y py] kt pt] (.Tuple [a, b] k2 pt2) env = pure (some [x, y]) := by
  have kx : env.kindOf x = some .local := hx
  have ky : env.kindOf y = some .local := hy
  have e1 : (x == y) = false := by simpa using hxy
  have e2 : (y == x) = false := by simpa using (fun z => hxy z.symm)
  unfold swappedStores
  simp only [hk, kx, ky, h1, h2, hl, List.any_cons, List.any_nil, List.length_cons, List.length_nil, List.filterMap_cons, List.filterMap_nil, List.head?_cons, Option.map_some, Option.getD_some, Expr.pos]
  simp [List.eraseDups, List.eraseDupsBy, List.eraseDupsBy.loop, e1, e2]
  intro h
  rcases h with h | h
  · exact absurd h (by cases ha <;> simp)
  · exact absurd h (by cases hb <;> simp)
theorem snd_par (G : GoodS S X N nm) {i j : Nat} {ca cb : CE} {x y : Str} {a b : Expr} {px py pt pt2 q : Pos} {kt k2 : Nat} (hi : N[i]? = some x) (hj : N[j]? = some y) (hij : i ≠ j) (hx : nm.lookup x = some .local) (hy : nm.lookup y = some .local) (hl : px.line = py.line)
    (h1 : [a, b].all (foldedForSure 8) = false) (h2 : [a, b].all (constantsAlone 8) = false) (ha : mE S.L N ca nm a = true) (hb : mE S.L N cb nm b = true) : PS X (.Assign [.Tuple [.Name x px, .Name y py] kt pt] (.Tuple [a, b] k2 pt2) q) (tS S back lp (.par i j ca cb)) := by
  have hxy : x ≠ y := fun z => by
    subst z
    exact hij ((List.getElem?_inj (List.getElem?_eq_some_iff.mp hi).1 G.nd).mp (hi.trans hj.symm))
  refine impS (ps_par (i := i) (j := j) G.calm (by rw [G.hN]; exact G.nd) (by rw [G.hN]; exact hi) (by rw [G.hN]; exact hj) hij (G.loc1 hx) (G.loc1 hy) (pa_cons (sndE ca G.toGood a ha).e (pa_cons (sndE cb G.toGood b hb).e pa_nil ((wr hb).star _ _)) ((wr ha).star _ _)) (swap_two G.bk (G.loc1 hx) (G.loc1 hy) hxy hl (wr ha) (wr hb) h1 h2)) ?_
  rintro En σ H ⟨g, r, c, ht, R, h⟩
  obtain ⟨ka, T1, c1, c⟩ := bind2 c
  obtain ⟨kb, T2, c2, c⟩ := bind2 c
  have c : (if ka.own = true ∧ kb.own = true then some (some ((T2.set i (some 0)).set j (some 0))) else none) = some r := c
  split at c
  case isFalse => cases c
  rename_i hk
  cases c
  have h : AftO S back lp g _ ((evE S.w ca g.rho).out g.rho fun x => (evE S.w cb g.rho).out g.rho fun y => if i < g.rho.length ∧ j < g.rho.length then .nx ((g.rho.set i (some x)).set j (some y)) else .bad) En := h
  refine tE_then c1 R h fun v d H1 F1 s f R1 h1 => ?_
  have h1 := h1.up (T1 := T1) (tau := ka.c v d :: g.tau) (ρ1 := g.rho) f
  refine tE_then c2 R1 h1 fun v2 d2 H2 F2 s2 f2 R2 h2 => ?_
  refine ⟨v, v2, rfl, ?_⟩
  by_cases hz : i < g.rho.length ∧ j < g.rho.length
  · rw [if_pos hz] at h2
    obtain ⟨ao, an⟩ := ka
    obtain ⟨bo, bn⟩ := kb
    have ao : ao = true := hk.1
    have bo : bo = true := hk.2
    subst ao bo
    obtain ⟨F3, R3, f3⟩ := R2.xrest rfl
    have q2 := R3.xhead0 rfl
    obtain ⟨F4, R4, f4⟩ := (R3.xpop rfl).xrest rfl
    have q1 := R4.xhead0 rfl
    have R5 := (R4.xpop rfl).set0 (i := i) q1 hz.1
    have R6 := R5.set0 (i := j) (q2.up f4) (by show j < (g.rho.set i (some d)).length; rw [List.length_set]; exact hz.2)
    exact h2 _ _ F4 (f2.trans (f3.trans f4)) (R6.tau0 ht)
  · rw [if_neg hz] at h2
    exact h2.elim
theorem tL_then {xs : CL} {r : Option Tn} {f : List D → O} {ks : List Kd} {T1 : Tn} {Q : List V → Hp → Prop} (c1 : kL S.L xs g.T = some (ks, T1)) (R : Rel S.K g σ H) (h : AftO S back lp g r ((evL S.w xs g.rho).out g.rho f) En)
    (fin : ∀ vs ds H1 F1, Same H H1 → Same g.F F1 → ks.length = ds.length → vs.length = ds.length → Rel S.K { g with F := F1, T := T1, tau := cells ks vs ds g.tau } σ H1 → AftO S back lp g r (f ds) En → Q vs H1) : tL S xs σ H Q := by
  refine ⟨g, ks, T1, c1, R, ?_⟩
  cases e : evL S.w xs g.rho with
  | ok ds =>
    rw [e] at h
    exact fun vs H1 F1 s1 f1 l1 l2 R1 => fin vs ds H1 F1 s1 f1 l1 l2 R1 h
  | exc x => rw [e] at h; exact fun cls dd H' s x => h cls dd σ H' (R.sH.trans s) x
  | bad => rw [e] at h; exact h
/-- a dict is only stored into -/
theorem mut_nd {m : MO} {i : Nat} {xs : CL} {r : Option Tn} (hm : m ≠ .set) (h : AftO S back lp g r (exS S.w (.mut m i xs) g.rho) En) : ¬ ∃ qs vs, g.rho[i]? = some (some (.dic qs vs)) := by
  rintro ⟨qs, vs, e⟩
  have h : AftO S back lp g r (match g.rho[i]? with
    | some (some (.lst ys)) => (evL S.w xs g.rho).out g.rho fun ds => mutO (mutD m ys ds) i g.rho
    | some (some (.dic ks vs)) => if m = .set then (evL S.w xs g.rho).out g.rho fun ds => mutKO (mutK m ks vs ds) i g.rho else .bad
    | _ => .bad) En := h
  rw [e] at h
  have h : AftO S back lp g r (if m = .set then (evL S.w xs g.rho).out g.rho fun ds => mutKO (mutK m qs vs ds) i g.rho else .bad) En := h
  rw [if_neg hm] at h
  exact h
/-- a change of a name's own list, by what its rule asks -/
theorem mut_core {m : MO} {i : Nat} {xs : CL} {r : Option Tn} (c : kS S.L back lp (.mut m i xs) g.T = some r) (ht : g.tau = []) (R : Rel S.K g σ H) (hnd : ¬ ∃ qs vs, g.rho[i]? = some (some (.dic qs vs))) (h : AftO S back lp g r (exS S.w (.mut m i xs) g.rho) En) :
    ∃ p, σ[i]? = some (some (.ref p)) ∧ (∃ ys, H p = some (.lst ys)) ∧ tL S xs σ H fun vs H2 => ∃ ysv ys ds out F2, H2 p = some (.lst ysv) ∧ Reps S.K F2 ysv ys ∧
      (m ≠ .ext → Reps S.K F2 vs ds) ∧ (m = .ext → ∃ b zsv zs, vs = [.ref b] ∧ ds = [.lst zs] ∧ H2 b = some (.lst zsv) ∧ Reps S.K F2 zsv zs) ∧ mutD m ys ds = .ok out ∧ ∀ outv, Reps S.K F2 outv out → En.nx σ (upd H2 p (.lst outv)) := by
  obtain ⟨ks, T1, c1, c⟩ := bind2 c
  have c : (if ks.all (·.own) = true ∧ g.T[i]? = some (some 1) ∧ T1[i]? = some (some 1) ∧ (m = .ext → ks = [⟨true, 1⟩]) then some (some T1) else none) = some r := c
  split at c
  case isFalse => cases c
  rename_i hk
  obtain ⟨ho, t0, t1, hx⟩ := hk
  cases c
  have h : AftO S back lp g (some T1) (match g.rho[i]? with
    | some (some (.lst ys)) => (evL S.w xs g.rho).out g.rho fun ds => mutO (mutD m ys ds) i g.rho
    | some (some (.dic ks vs)) => if m = .set then (evL S.w xs g.rho).out g.rho fun ds => mutKO (mutK m ks vs ds) i g.rho else .bad
    | _ => .bad) En := h
  split at h
  case h_3 => exact h.elim
  case h_2 qs vs er => exact absurd ⟨qs, vs, er⟩ hnd
  rename_i ys er
  obtain ⟨v, ev⟩ := R.name t0 er
  have at1 : ∀ {g' : Gh} {H' : Hp}, Rel S.K g' σ H' → g'.T[i]? = some (some 1) → g'.rho[i]? = some (some (.lst ys)) → ∃ p vs, v = .ref p ∧ H' p = some (.lst vs) ∧ Reps S.K g'.F vs ys := fun R' a1 a2 => by
    obtain ⟨ow, h1, h2, h3⟩ := R'.ow
    obtain ⟨w, e, fp, r0, nd, hp, _⟩ := h2 i 1 _ a1 a2
    rw [ev] at e
    have ew : v = w := by simpa using e
    subst ew
    obtain ⟨p, vs, f, q1, q2, q3, q4⟩ := r0
    exact ⟨p, vs, q1, q2, (repL0.mp q3).1⟩
  obtain ⟨p0, vs0, rfl, hp, _⟩ := at1 R t0 er
  refine ⟨p0, ev, ⟨vs0, hp⟩, ?_⟩
  refine tL_then c1 R h fun vs ds H1 F1 s f l1 l2 R1 h1 => ?_
  cases em : mutD m ys ds with
  | exc _ => rw [em] at h1; exact h1.elim
  | bad => rw [em] at h1; exact h1.elim
  | ok out =>
    rw [em] at h1
    have h1 : AftO S back lp g (some T1) (.nx (g.rho.set i (some (.lst out)))) En := h1
    by_cases hm : m = .ext
    · have hks := hx hm
      subst hks hm
      match ds, vs, l1, l2, em, R1 with
      | [d], [x], l1, l2, em, R1 =>
        cases d <;> first | (cases em; done) | skip
        rename_i zs
        have R1 : Rel S.K { g with F := F1, T := T1, tau := ⟨true, 1, x, .lst zs⟩ :: g.tau } σ H1 := R1
        obtain ⟨ow, a1, a2, a3⟩ := R1.ow
        obtain ⟨fp, r0, nd, _, _⟩ := a3.1
        obtain ⟨b, zsv, f0, q1, q2, q3, q4⟩ := r0
        have R2 := (R1.xpop rfl).tau0 ht
        obtain ⟨p1, vs1, e1, hp1, rs⟩ := at1 R2 t1 er
        cases e1
        subst q1
        refine ⟨vs1, ys, _, out, F1, hp1, rs, fun z => absurd rfl z, fun _ => ⟨b, zsv, zs, rfl, rfl, q2, (repL0.mp q3).1⟩, em, fun outv ro => ?_⟩
        exact h1 _ _ F1 f (R2.write1 (i := i) t1 er ev rfl ro)
    · obtain ⟨F2, R2, f2, r2⟩ := rest_cells R1 rfl ho l1 l2
      have R3 := R2.tau0 ht
      obtain ⟨p1, vs1, e1, hp1, rs⟩ := at1 R3 t1 er
      cases e1
      refine ⟨vs1, ys, ds, out, F2, hp1, rs, fun _ => r2, fun z => absurd z hm, em, fun outv ro => ?_⟩
      exact h1 _ _ F2 (f.trans f2) (R3.write1 (i := i) t1 er ev rfl ro)
theorem reps1 {K : KW} {F : Hp} {vs : List V} {d : D} (h : Reps K F vs [d]) : ∃ v, vs = [v] ∧ Rep K F v d := by
  cases h with
  | cons r t => cases t; exact ⟨_, rfl, r⟩
theorem reps2 {K : KW} {F : Hp} {vs : List V} {d e : D} (h : Reps K F vs [d, e]) : ∃ v u, vs = [v, u] ∧ Rep K F v d ∧ Rep K F u e := by
  cases h with
  | cons r t =>
    obtain ⟨u, rfl, r2⟩ := reps1 t
    exact ⟨_, _, rfl, r, r2⟩
theorem reps0 {K : KW} {F : Hp} {vs : List V} (h : Reps K F vs []) : vs = [] := by cases h; rfl
theorem tL_mono {xs : CL} {Q Q' : List V → Hp → Prop} (h : tL S xs σ H Q) (i : ∀ vs H1, Q vs H1 → Q' vs H1) : tL S xs σ H Q' := by
  obtain ⟨g, ks, T1, c, R, h⟩ := h
  refine ⟨g, ks, T1, c, R, ?_⟩
  cases e : evL S.w xs g.rho with
  | ok ds => rw [e] at h; exact fun vs H' F' s f l1 l2 R' => i vs H' (h vs H' F' s f l1 l2 R')
  | exc x => rw [e] at h; exact h
  | bad => rw [e] at h; exact h
theorem tL_nil {Q : List V → Hp → Prop} (h : tL S .nil σ H Q) : ∃ H', Q [] H' ∧ H' = H := by
  obtain ⟨g, ks, T1, c, R, h⟩ := h
  cases c
  exact ⟨H, h [] H g.F (Same.refl _) (Same.refl _) rfl rfl R, rfl⟩
theorem snd_mut (G : GoodS S X N nm) {m : MO} {i : Nat} {xs : CL} {x f : Str} {es : List Expr} {p apos pos q : Pos} (hm : m ≠ .set) (hz : m.zero = es.isEmpty) (hf : f = Str.ofString m.name) (hline : (apos.endLine == pos.line) = true) (hx : N[i]? = some x) (hv : visB nm x = true) (hlen : es.length < 20) (he : mL S.L N xs nm es = true) :
    PS X (.Expr (.Call (.Attribute (.Name x p) f apos) es [] pos) q) (tS S back lp (.mut m i xs)) := by
  obtain ⟨v1, v2, v3⟩ := G.toGood.vis hv
  have ho : PE X (.Name x p) (tVar i) := pe_var (i := i) (by rw [G.hN]; exact hx) v1 v2 v3
  have hall := mL_all (L := S.L) (N := N) (nm := nm) X.env pos he
  have hnoC : ∀ t l, swapsWith (.Call (.Attribute (.Name x p) f apos) es [] pos) t l X.env = pure false := fun _ _ => rfl
  have dec : ((backTo pos (starEach es X.env)).all (fun x => !x.1) && (backToKw pos (keywordEach [] X.env)).all (fun x => x.1.isSome)
      && decide (es.length + ([] : List Keyword).length + (if ([] : List Keyword).isEmpty then 0 else 1) < 30)) = true := by
    rw [hall]
    simp only [Bool.true_and, Bool.and_eq_true, decide_eq_true_eq]
    refine ⟨rfl, ?_⟩
    show es.length + 0 + 0 < 30
    omega
  have one : ∀ {r : V → List V → Hp → VK → Prop} {id : String}, PlainAttrs "list" → Slot "list" f id → typeOf (.builtin id) = pure (.type "method_descriptor") → MtR X id r → es.isEmpty = false → PE X (.Call (.Attribute (.Name x p) f apos) es [] pos) (tBM X.K "list" r (tVar i) (tL S xs)) := by
    intro r id pa sl ty mt hne
    cases es with
    | nil => cases hne
    | cons e es' =>
      cases xs with
      | nil => simp [mL] at he
      | cons c rr =>
        have h5 := he
        simp only [mL, Bool.and_eq_true] at h5
        exact pe_bm (cpos := pos) pa sl ty mt ho (sndL (.cons c rr) G.toGood _ he) rfl dec hline ((wr h5.1).star _ _) (mL_any _ _ h5.2)
  cases m with
  | set => exact absurd rfl hm
  | app =>
    subst hf
    refine impS (ps_expr (one PySem.F.plainAttrs_list PySem.F.slot_list_append PySem.F.type_list_append mt_append hz.symm) (hnoC _ _)) ?_
    rintro En σ H ⟨g, r, c, ht, R, h⟩
    obtain ⟨p0, ev, ⟨ys, hy⟩, z⟩ := mut_core c ht R (mut_nd hm h) h
    refine ⟨_, ev, .inl ⟨rfl, ys, SqL.of hy⟩, tL_mono z ?_⟩
    rintro vs H2 ⟨ysv, ys, ds, out, F2, h1, h2, h3, _, h5, h6⟩
    have r3 := h3 (by decide)
    match ds, h5, r3 with
    | [d], h5, r3 =>
      obtain ⟨v, rfl, rv⟩ := reps1 r3
      obtain ⟨hl, e⟩ := PV.R.need_eq h5
      cases e
      exact ⟨p0, ysv, v, rfl, rfl, h1, by rw [h2.length]; exact hl, h6 _ (h2.append (.cons rv .nil))⟩
  | ext =>
    subst hf
    refine impS (ps_expr (one PySem.F.plainAttrs_list PySem.F.slot_list_extend PySem.F.type_list_extend mt_extend hz.symm) (hnoC _ _)) ?_
    rintro En σ H ⟨g, r, c, ht, R, h⟩
    obtain ⟨p0, ev, ⟨ys, hy⟩, z⟩ := mut_core c ht R (mut_nd hm h) h
    refine ⟨_, ev, .inl ⟨rfl, ys, SqL.of hy⟩, tL_mono z ?_⟩
    rintro vs H2 ⟨ysv, ys, ds, out, F2, h1, h2, _, h4, h5, h6⟩
    obtain ⟨b, zsv, zs, rfl, rfl, hb, rz⟩ := h4 rfl
    obtain ⟨hl, e⟩ := PV.R.need_eq h5
    cases e
    exact ⟨p0, b, ysv, zsv, rfl, rfl, h1, hb, by rw [h2.length, rz.length]; exact hl, h6 _ (h2.append rz)⟩
  | ins =>
    subst hf
    refine impS (ps_expr (one PySem.F.plainAttrs_list PySem.F.slot_list_insert PySem.F.type_list_insert mt_insert hz.symm) (hnoC _ _)) ?_
    rintro En σ H ⟨g, r, c, ht, R, h⟩
    obtain ⟨p0, ev, ⟨ys, hy⟩, z⟩ := mut_core c ht R (mut_nd hm h) h
    refine ⟨_, ev, .inl ⟨rfl, ys, SqL.of hy⟩, tL_mono z ?_⟩
    rintro vs H2 ⟨ysv, ys, ds, out, F2, h1, h2, h3, _, h5, h6⟩
    have r3 := h3 (by decide)
    match ds, h5, r3 with
    | [.int j, d], h5, r3 =>
      obtain ⟨v, u, rfl, rv, ru⟩ := reps2 r3
      have rv := rv.int_inv
      subst rv
      obtain ⟨hl, e⟩ := PV.R.need_eq h5
      cases e
      exact ⟨p0, ysv, j, u, rfl, rfl, h1, by rw [h2.length]; exact hl.1, hl.2.1, hl.2.2, h6 _ (((h2.take _).append (.cons ru .nil)).append (h2.drop _))⟩
  | pop =>
    subst hf
    have e0 : es = [] := by simpa [MO.zero] using hz
    subst e0
    refine impS (ps_expr (pe_bm0 (cpos := pos) PySem.F.plainAttrs_list PySem.F.slot_list_pop PySem.F.type_list_pop mt_pop ho rfl hline) (hnoC _ _)) ?_
    rintro En σ H ⟨g, r, c, ht, R, h⟩
    obtain ⟨p0, ev, ⟨ys, hy⟩, z⟩ := mut_core c ht R (mut_nd hm h) h
    cases xs with
    | cons _ _ => simp [mL] at he
    | nil =>
      obtain ⟨H', ⟨ysv, ys', ds, out, F2, h1, h2, h3, _, h5, h6⟩, rfl⟩ := tL_nil z
      refine ⟨_, ev, .inl ⟨rfl, _, SqL.of hy⟩, ?_⟩
      have r3 := h3 (by decide)
      cases r3
      obtain ⟨hl, e⟩ := PV.R.need_eq h5
      cases e
      have hlen : ysv.length - 1 < ysv.length := by rw [h2.length]; omega
      exact ⟨p0, ysv, _, rfl, rfl, h1, List.getElem?_eq_getElem hlen, h6 _ h2.dropLast⟩
  | clr =>
    subst hf
    have e0 : es = [] := by simpa [MO.zero] using hz
    subst e0
    refine impS (ps_expr (pe_bm0 (cpos := pos) PySem.F.plainAttrs_list PySem.F.slot_list_clear PySem.F.type_list_clear mt_clear ho rfl hline) (hnoC _ _)) ?_
    rintro En σ H ⟨g, r, c, ht, R, h⟩
    obtain ⟨p0, ev, ⟨ys, hy⟩, z⟩ := mut_core c ht R (mut_nd hm h) h
    cases xs with
    | cons _ _ => simp [mL] at he
    | nil =>
      obtain ⟨H', ⟨ysv, ys', ds, out, F2, h1, h2, h3, _, h5, h6⟩, rfl⟩ := tL_nil z
      refine ⟨_, ev, .inl ⟨rfl, _, SqL.of hy⟩, ?_⟩
      have r3 := h3 (by decide)
      cases r3
      cases h5
      exact ⟨p0, ysv, rfl, rfl, h1, h6 _ .nil⟩
theorem ixN_len {n m : Nat} (h : n = m) (i : Int) : ixN n i = ixN m i := by rw [h]
/-- a store into a dict -/
def rSetK (K : KW) : V → V → V → Hp → (Hp → Prop) → Prop := fun o i v H Q => ∃ (F : Hp) (p : Addr) (ob : Obj) (ks : List D) (us ws : List V) (k : D), o = .ref p ∧ H p = some (DicO K.wd p ob ks us ws) ∧ Reps K F us ks ∧ Same F H ∧ okKey ks k = true ∧ ks.length < sizeLine ∧ Rep K F i k ∧
  ∀ ob', Q (upd H p (DicO K.wd p ob' (dputK ks k) (uputV us (kix ks k) i) (wputV ws (kix ks k) v)))
theorem set_any (hu : X.A.units + 100 < cLine) : PSet X (fun o i v H Q => rSetL o i v H Q ∨ rSetK (kwOf X) o i v H Q) := by
  intro pins s σ H o i v ov iv u Q I ro ri rv h
  rcases h with h | ⟨F, p, ob, ks, us, ws, k, rfl, e, rk, sF, ok, hl, rki, q⟩
  · exact set_list pins s σ H o i v ov iv u Q I ro ri rv h
  · obtain rfl : ov = Value.ref p := ro
    exact dd_set hu I e rk sF ok hl rki ri rv fun ob' s' I' => ⟨_, I', q ob'⟩
theorem uput_reps {K : KW} {F : Hp} {us : List V} {ks : List D} {y : V} {k : D} (r : Reps K F us ks) (ry : Rep K F y k) : Reps K F (uputV us (kix ks k) y) (dputK ks k) := by
  unfold uputV dputK
  cases kix ks k with
  | none => exact r.append (.cons ry .nil)
  | some i => exact r
theorem wput_reps {K : KW} {F : Hp} {ws : List V} {ks vs : List D} {v : V} {k d : D} (r : Reps K F ws vs) (rv : Rep K F v d) : Reps K F (wputV ws (kix ks k) v) (dputV ks vs k d) := by
  unfold wputV dputV
  cases kix ks k with
  | none => exact r.append (.cons rv .nil)
  | some i => exact r.set i rv
/-- what is stored into a name's own dict -/
theorem mutK_core {i : Nat} {c d : CE} {r : Option Tn} {qs ds0 : List D} (c' : kS S.L back lp (.mut .set i (.cons c (.cons d .nil))) g.T = some r) (ht : g.tau = []) (R : Rel S.K g σ H) (er : g.rho[i]? = some (some (.dic qs ds0))) (h : AftO S back lp g r (exS S.w (.mut .set i (.cons c (.cons d .nil))) g.rho) En) :
    ∃ p, σ[i]? = some (some (.ref p)) ∧ tE S c σ H fun v H1 => tE S d σ H1 fun u H2 => rSetK S.K (.ref p) u v H2 fun H3 => En.nx σ H3 := by
  obtain ⟨ks, T1, c1, c'⟩ := bind2 c'
  have c' : (if ks.all (·.own) = true ∧ g.T[i]? = some (some 1) ∧ T1[i]? = some (some 1) ∧ (MO.set = .ext → ks = [⟨true, 1⟩]) then some (some T1) else none) = some r := c'
  split at c'
  case isFalse => cases c'
  rename_i hk
  obtain ⟨ho, t0, t1, _⟩ := hk
  cases c'
  have h : AftO S back lp g (some T1) (match g.rho[i]? with
    | some (some (.lst ys)) => (evL S.w (.cons c (.cons d .nil)) g.rho).out g.rho fun ds => mutO (mutD .set ys ds) i g.rho
    | some (some (.dic ks vs)) => if MO.set = .set then (evL S.w (.cons c (.cons d .nil)) g.rho).out g.rho fun ds => mutKO (mutK .set ks vs ds) i g.rho else .bad
    | _ => .bad) En := h
  rw [er] at h
  have h : AftO S back lp g (some T1) ((evL S.w (.cons c (.cons d .nil)) g.rho).out g.rho fun ds => mutKO (mutK .set qs ds0 ds) i g.rho) En := h
  obtain ⟨v0, ev⟩ := R.name t0 er
  have hv0 : ∃ p, v0 = .ref p := R.writeG (Goal := ∃ p, v0 = .ref p) t0 er ev ht fun fp r0 _ _ => by
    obtain ⟨p, _, _, _, _, e, _⟩ := r0
    exact ⟨p, e⟩
  obtain ⟨p, rfl⟩ := hv0
  refine ⟨p, ev, ?_⟩
  obtain ⟨k1, Ta, ca, ck⟩ := bind2 c1
  obtain ⟨ks2, Tb, cb, ck⟩ := bind2 ck
  obtain ⟨k3, Tc, cd, cb⟩ := bind2 cb
  cases cb
  cases ck
  refine ⟨g, k1, Ta, ca, R, ?_⟩
  have h : AftO S back lp g (some T1) (((evE S.w c g.rho).bind fun d1 => ((evE S.w d g.rho).bind fun d2 => (PV.R.ok []).bind fun ds => .ok (d2 :: ds)).bind fun ds => .ok (d1 :: ds)).out g.rho fun ds => mutKO (mutK .set qs ds0 ds) i g.rho) En := h
  cases e1 : evE S.w c g.rho with
  | exc x => rw [e1] at h; exact fun cls dd H' s x => h cls dd σ H' (R.sH.trans s) x
  | bad => rw [e1] at h; exact h
  | ok d1 =>
    rw [e1] at h
    intro v H1 F1 s1 f1 R1
    refine ⟨{ g with F := F1, T := Ta, tau := k1.c v d1 :: g.tau }, k3, T1, cd, R1, ?_⟩
    show AftE S _ k3 T1 σ H1 (evE S.w d g.rho) _
    cases e2 : evE S.w d g.rho with
    | exc x => rw [e2] at h; exact fun cls dd H' s x => h cls dd σ H' ((R.sH.trans s1).trans s) x
    | bad => rw [e2] at h; exact h
    | ok d2 =>
      rw [e2] at h
      intro u H2 F2 s2 f2 R2
      have h : AftO S back lp g (some T1) (mutKO (mutK .set qs ds0 [d1, d2]) i g.rho) En := h
      have hm : mutK .set qs ds0 [d1, d2] = PV.R.need (okKey qs d2 = true ∧ qs.length < LIM) (.ok (.dic (dputK qs d2) (dputV qs ds0 d2 d1))) := rfl
      by_cases hok : okKey qs d2 = true ∧ qs.length < LIM
      case neg =>
        rw [hm] at h
        unfold PV.R.need at h
        rw [if_neg hok] at h
        exact h.elim
      rw [hm, PV.R.need_ok hok] at h
      have h : AftO S back lp g (some T1) (.nx (g.rho.set i (some (.dic (dputK qs d2) (dputV qs ds0 d2 d1))))) En := h
      obtain ⟨F3, R3, f3, r3⟩ := rest_cells (ks := [k1, k3]) (vs := [v, u]) (ds := [d1, d2]) (t := g.tau) R2 rfl ho rfl rfl
      obtain ⟨v', u', e3, rv, ru⟩ := reps2 r3
      cases e3
      have R4 := R3.tau0 ht
      refine R4.writeG (i := i) t1 er ev rfl fun fp r0 nd k => ?_
      obtain ⟨p', ob, us, ws, f, e4, e5, e6, e7, e8⟩ := r0
      cases e4
      obtain ⟨e7', e9⟩ := repL0.mp e7
      subst e9 e8
      refine ⟨F3, p, ob, qs, us, ws, d2, rfl, e5, e6, R4.sF, hok.1, hok.2, ru, fun ob' => ?_⟩
      refine h _ _ F3 (f1.trans (f2.trans f3)) (k p _ _ List.mem_cons_self ?_)
      exact ⟨p, ob', _, _, [], rfl, upd_same, uput_reps e6 ru, repL0.mpr ⟨wput_reps e7' rv, rfl⟩, rfl⟩
theorem tE_mono {c : CE} {Q Q' : VK} (h : tE S c σ H Q) (i : ∀ v H1, Q v H1 → Q' v H1) : tE S c σ H Q' := by
  obtain ⟨g, k, T1, c, R, h⟩ := h
  refine ⟨g, k, T1, c, R, ?_⟩
  cases e : evE S.w _ g.rho with
  | ok d => rw [e] at h; exact fun v H' F' s f R' => i v H' (h v H' F' s f R')
  | exc x => rw [e] at h; exact h
  | bad => rw [e] at h; exact h
def tSet1 (S : Sx) (X : Cx) (i : Nat) (c d : CE) : TS := tAsg (tE S c) (gSub (tVar i) (tE S d) fun o i v H Q => rSetL o i v H Q ∨ rSetK (kwOf X) o i v H Q)
theorem ps_setI (G : GoodS S X N nm) {i : Nat} {c d : CE} {x : Str} {ie e : Expr} {p sp q : Pos} (hx : N[i]? = some x) (hv : visB nm x = true) (hc : c.notLc = true) (h1 : mE S.L N c nm e = true) (h2 : mE S.L N d nm ie = true) :
    PS X (.Assign [.Subscript (.Name x p) ie sp] e q) (tSet1 S X i c d) := by
  obtain ⟨v1, v2, v3⟩ := G.toGood.vis hv
  have ho : PE X (.Name x p) (tVar i) := pe_var (i := i) (by rw [G.hN]; exact hx) v1 v2 v3
  have sole : swapsWithSole [.Subscript (.Name x p) ie sp] e q.line X.env = pure false := (notLc_sw h1 hc (some (.Subscript (.Name x p) ie sp)) q.line X.env)
  have has : ∀ v, assign (.Subscript (.Name x p) ie sp) X.env v = (do
      let ov ← holding [v] (eval (.Name x p) X.env)
      let iv ← holding [v, ov] (eval ie X.env)
      standAt sp
      holding [v, ov, iv] (setItem ov iv v)
      release [v, ov, iv] []) := fun v => by
    have w := wr h2
    cases w <;> rfl
  exact ps_asg (sndE c G.toGood e h1).e (pg_sub ho (sndE d G.toGood ie h2).e (set_any G.toGood.units) has) sole rfl rfl
theorem setI_imp (G : GoodS S X N nm) {i : Nat} {c d : CE} (q : tS S back lp (.mut .set i (.cons c (.cons d .nil))) En σ H) : tSet1 S X i c d En σ H := by
  obtain ⟨g, r, c', ht, R, h⟩ := q
  by_cases hnd : ∃ qs vs, g.rho[i]? = some (some (.dic qs vs))
  · obtain ⟨qs, vs, er⟩ := hnd
    obtain ⟨p, ev, k⟩ := mutK_core c' ht R er h
    refine tE_mono k fun v H1 k2 => ⟨_, ev, tE_mono k2 fun u H2 k3 => .inr ?_⟩
    rw [G.toGood.K]
    exact k3
  obtain ⟨p0, ev, _, z⟩ := mut_core c' ht R hnd h
  obtain ⟨g', ks, T1, ck, R', hz⟩ := z
  obtain ⟨k1, Ta, ca, ck⟩ := bind2 ck
  obtain ⟨ks2, Tb, cb, ck⟩ := bind2 ck
  obtain ⟨k3, Tc, cd, cb⟩ := bind2 cb
  cases cb
  cases ck
  refine ⟨g', k1, Ta, ca, R', ?_⟩
  have hz : AftL S g' [k1, k3] T1 σ H ((evE S.w c g'.rho).bind fun d1 => ((evE S.w d g'.rho).bind fun d2 => (PV.R.ok []).bind fun ds => .ok (d2 :: ds)).bind fun ds => .ok (d1 :: ds)) _ := hz
  cases e1 : evE S.w c g'.rho with
  | exc x => rw [e1] at hz; exact hz
  | bad => rw [e1] at hz; exact hz
  | ok d1 =>
    rw [e1] at hz
    intro v H1 F1 s1 f1 R1
    refine ⟨_, ev, { g' with F := F1, T := Ta, tau := k1.c v d1 :: g'.tau }, k3, T1, cd, R1, ?_⟩
    show AftE S _ k3 T1 σ H1 (evE S.w d g'.rho) _
    cases e2 : evE S.w d g'.rho with
    | exc x => rw [e2] at hz; exact fun cls dd H' s x => hz cls dd H' (s1.trans s) x
    | bad => rw [e2] at hz; exact hz
    | ok d2 =>
      rw [e2] at hz
      intro u H2 F2 s2 f2 R2
      obtain ⟨ysv, ys, ds, out, F3, q1, q2, q3, _, q5, q6⟩ := hz [v, u] H2 F2 (s1.trans s2) (f1.trans f2) rfl rfl R2
      have r3 := q3 (by decide)
      match ds, q5, r3 with
      | [d1', .int j], q5, r3 =>
        obtain ⟨v', u', e3, rv, ru⟩ := reps2 r3
        cases e3
        have ru := ru.int_inv
        subst ru
        have q5 : (match ixN ys.length j with | some j => PV.R.ok (ys.set j d1') | none => .bad) = .ok out := q5
        cases e4 : ixN ys.length j with
        | none => rw [e4] at q5; cases q5
        | some jj =>
          rw [e4] at q5
          cases q5
          exact .inl ⟨p0, ysv, j, jj, rfl, rfl, q1, by rw [q2.length]; exact e4, q6 _ (q2.set jj rv)⟩
theorem snd_setI (G : GoodS S X N nm) {i : Nat} {c d : CE} {x : Str} {ie e : Expr} {p sp q : Pos} (hx : N[i]? = some x) (hv : visB nm x = true) (hc : c.notLc = true) (h1 : mE S.L N c nm e = true) (h2 : mE S.L N d nm ie = true) :
    PS X (.Assign [.Subscript (.Name x p) ie sp] e q) (tS S back lp (.mut .set i (.cons c (.cons d .nil)))) := impS (ps_setI G hx hv hc h1 h2) fun _ _ _ z => setI_imp G z

/-! ### a call that changes a name's own thing -/
section
variable {K : KW} {F' H' : Hp} {d0 d : D}
theorem mu_inv {F : Hp} {v : V} {fp : List Addr} (hm : isMu d0 = true) (h : RepO K F H 1 v d0 fp) : ∃ p, v = .ref p ∧ fp = [p] := by
  cases d0 <;> first | (cases hm; done) | skip
  · obtain ⟨p, vs, f, e1, e2, h, e⟩ := h
    obtain ⟨_, q⟩ := repL0.mp h
    subst q
    exact ⟨p, e1, e⟩
  · obtain ⟨p, ob, us, ws, f, e1, e2, e3, h, e⟩ := h
    obtain ⟨_, q⟩ := repL0.mp h
    subst q
    exact ⟨p, e1, e⟩
theorem Rel.calledIO {i : Nat} {p : Addr} (R : Rel K g σ H) (e1 : g.T[i]? = some (some 1)) (e2 : g.rho[i]? = some (some d0)) (ev : σ[i]? = some (some (.ref p))) (ht : g.tau = []) (hm : isMu d0 = true)
    (eH : ∀ a o, a ≠ p → H a = some o → H' a = some o) (eF : Same g.F F') (sF : Same F' H') (fr : ∀ q, F' q ≠ none → g.F q ≠ none ∨ H q = none) (h : RepO K F' H' 1 (.ref p) d [p]) :
    Rel K { g with F := F', rho := g.rho.set i (some d) } σ H' := by
  obtain ⟨ow, h1, h2, h3⟩ := R.ow
  have hi : i < g.rho.length := (List.getElem?_eq_some_iff.mp e2).1
  obtain ⟨w, e, fp, r0, nd, hp, _⟩ := h2 i 1 _ e1 e2
  rw [ev] at e
  have ew : V.ref p = w := by simpa using e
  subst ew
  obtain ⟨p', q1, q2⟩ := mu_inv hm r0
  cases q1
  subst q2
  have op : ow p = some i := hp rfl p (by simp)
  obtain ⟨a1, a2, a3⟩ := h1 p i op
  obtain ⟨o', ho', _⟩ := h.there 1 p (by simp)
  cases hH : H p with
  | none => exact absurd hH a3
  | some o =>
  have e3 : Same H (upd H' p o) := fun a u z => by
    by_cases ha : a = p
    · subst ha; rw [upd_same, ← hH]; exact z
    · rw [upd_ne ha]; exact eH a u ha z
  have e4 : upd (upd H' p o) p o' = H' := by
    funext a
    by_cases ha : a = p
    · subst ha; rw [upd_same, ho']
    · rw [upd_ne ha, upd_ne ha]
  refine ⟨R.s0.trans eF, sF, fun a u z => ?_, fun q hq => ?_, ⟨ow, fun q k z => ?_, fun j m d2 f1 f2 => ?_, ?_⟩, by simpa using R.l1, by simpa using R.l2⟩
  · have ha : a ≠ p := fun y => by rw [y, a1] at z; cases z
    exact eH a u ha (R.sH a u z)
  · rcases fr q hq with z | z
    · exact R.fr q z
    · exact .inr (R.sH.free z)
  · obtain ⟨b1, b2, b3⟩ := h1 q k z
    refine ⟨b1, ?_, ?_⟩
    · show F' q = none
      cases y : F' q with
      | none => rfl
      | some u =>
        rcases fr q (by rw [y]; exact fun w => nomatch w) with x | x
        · exact absurd b2 x
        · exact absurd x b3
    · by_cases hq : q = p
      · subst hq; rw [ho']; exact fun w => nomatch w
      · cases y : H q with
        | none => exact absurd y b3
        | some u => rw [eH q u hq y]; exact fun w => nomatch w
  · have f2 : (g.rho.set i (some d))[j]? = some (some d2) := f2
    by_cases hj : j = i
    · subst hj
      rw [List.getElem?_set_self hi] at f2
      have f1 : g.T[j]? = some (some m) := f1
      rw [e1] at f1
      have x1 : 1 = m := by simpa using f1
      have x2 : d = d2 := by simpa using f2
      subst x1 x2
      exact ⟨.ref p, ev, [p], h, nd, fun _ q hq => hp rfl q hq, fun _ _ => trivial⟩
    · rw [List.getElem?_set_ne (Ne.symm hj)] at f2
      obtain ⟨u, eu, fp', r', nd', hp2, hb'⟩ := h2 j m d2 f1 f2
      have np : p ∉ fp' := fun z => by
        have hw : ow p = some j := hp2 rfl p z
        rw [op] at hw
        exact hj (Option.some.inj hw).symm
      have r2 := RepO.other (o := o') m np (RepO.mono eF e3 m r')
      rw [e4] at r2
      exact ⟨u, eu, fp', r2, nd', hp2, hb'⟩
  · show Temps K F' _ ow _ g.tau
    rw [ht]
    trivial
end
theorem snd_callM (G : GoodS S X N nm) {f i : Nat} {xs : CL} {x y : Str} {es : List Expr} {p py pos q : Pos} (hx : S.L.fnN[f]? = some x) (hf : (S.L.fns[f]?).isSome = true) (hg : glB nm x = true) (hy : N[i]? = some y) (hv : visB nm y = true) (ha : PA X es (tL S xs))
    (hpl : (backTo pos (starEach es X.env)).any (·.1) = false) : PS X (.Expr (.Call (.Name x p) (.Name y py :: es) [] pos) q) (tS S back lp (.callM f i xs)) := by
  obtain ⟨g1, g2, g3⟩ := G.toGood.gl hg
  obtain ⟨v1, v2, v3⟩ := G.toGood.vis hv
  have ho : PE X (.Name y py) (tVar i) := pe_var (i := i) (by rw [G.hN]; exact hy) v1 v2 v3
  cases ef : S.L.fns[f]? with
  | none => rw [ef] at hf; cases hf
  | some fn =>
    have key : ∀ {g : Gh} {r : Option Tn}, kS S.L back lp (.callM f i xs) g.T = some r → ∃ ks T1, kL S.L xs g.T = some (ks, T1) ∧ fn.io = true ∧ ks.all (·.own) = true ∧ g.T[i]? = some (some 1) ∧ T1[i]? = some (some 1) ∧ r = some T1 := fun {g r} c => by
      obtain ⟨ks, T1, c1, c⟩ := bind2 c
      have c : (match S.L.fns[f]? with
        | some fn => if fn.io = true ∧ ks.all (·.own) = true ∧ g.T[i]? = some (some 1) ∧ T1[i]? = some (some 1) then some (some T1) else none
        | none => none) = some r := c
      rw [ef] at c
      have c : (if fn.io = true ∧ ks.all (·.own) = true ∧ g.T[i]? = some (some 1) ∧ T1[i]? = some (some 1) then some (some T1) else none) = some r := c
      split at c
      · rename_i hz
        cases c
        exact ⟨ks, T1, c1, hz.1, hz.2.1, hz.2.2.1, hz.2.2.2, rfl⟩
      · cases c
    by_cases hio : fn.io = true
    case neg =>
      refine ⟨fun pins s σ H En I q => ?_⟩
      obtain ⟨g, r, c, _, _⟩ := q
      obtain ⟨_, _, _, h1, _⟩ := key c
      exact absurd h1 hio
    case pos =>
    obtain ⟨a, fd, ps, m, kp, F, B⟩ := G.glob.fn f fn x ef hx
    rw [spA_t hio] at F
    refine impS (ps_expr (pe_callSD (dvs := []) (E := fun σ cls dd H' => S.W cls dd σ H') F G.room g1 m kp B .nil (fun σ pins H s e s' I c => G.tk e s' (XE.of_call I (fun cls d H' h => h) c)) (pa_cons ho ha rfl) g2 rfl hpl) rfl) ?_
    rintro En σ H ⟨g, r, c, ht, R, h⟩
    obtain ⟨ks, T1, c1, _, ho2, t0, t1, rfl⟩ := key c
    have h : AftO S back lp g (some T1) (match g.rho[i]? with
      | some (some d0) => (evL S.w xs g.rho).out g.rho fun ds => mutKO (PV.R.need (isMu d0 = true) (S.w.call f (d0 :: ds))) i g.rho
      | _ => .bad) En := h
    cases er : g.rho[i]? with
    | none => rw [er] at h; exact h.elim
    | some od =>
      cases od with
      | none => rw [er] at h; exact h.elim
      | some d0 =>
        rw [er] at h
        have h : AftO S back lp g (some T1) ((evL S.w xs g.rho).out g.rho fun ds => mutKO (PV.R.need (isMu d0 = true) (S.w.call f (d0 :: ds))) i g.rho) En := h
        obtain ⟨v0, ev⟩ := R.name t0 er
        refine ⟨v0, ev, ?_⟩
        refine tL_then c1 R h fun vs ds H1 F1 s f1 l1 l2 R1 h1 => ?_
        obtain ⟨F2, R2, f2, r2⟩ := rest_cells R1 rfl ho2 l1 l2
        have R2 : Rel S.K { g with F := F2, T := T1, tau := [], rho := g.rho } σ H1 := by
          have z : Rel S.K { g with F := F2, T := T1, tau := g.tau, rho := g.rho } σ H1 := R2
          rw [ht] at z
          exact z
        rcases need_cases (c := isMu d0 = true) (r := S.w.call f (d0 :: ds)) with ⟨hm, e⟩ | e
        case inr => rw [e] at h1; exact h1.elim
        rw [e] at h1
        have at0 : ∃ p, v0 = .ref p ∧ F2 p = none ∧ RepO S.K F2 H1 1 (.ref p) d0 [p] := by
          obtain ⟨ow, a1, a2, a3⟩ := R2.ow
          obtain ⟨w, e, fp, r0, nd, hp, _⟩ := a2 i 1 _ t1 er
          rw [ev] at e
          have ew : v0 = w := by simpa using e
          subst ew
          obtain ⟨p', q1, q2⟩ := mu_inv hm r0
          subst q1 q2
          exact ⟨p', rfl, (a1 p' i (hp rfl p' (by simp))).2.1, r0⟩
        obtain ⟨p0, rfl, fp0, r0⟩ := at0
        refine ⟨F2, p0, vs, d0, ds, by rw [List.append_nil], R2.sF, fp0, by (first | rw [G.K] | rw [G.Kf]); exact r0, by (first | rw [G.K] | rw [G.Kf]); exact r2, ?_⟩
        have h1 : AftO S back lp g (some T1) (mutKO (S.L.call S.n f (d0 :: ds)) i g.rho) En := h1
        cases ec : S.L.call S.n f (d0 :: ds) with
        | ok d =>
          rw [ec] at h1
          intro H' F' e1 e2 e3 e4 e5
          rw [G.K] at e5
          refine h1 σ H' F' ((f1.trans f2).trans e2) ?_
          exact R2.calledIO t1 er ev rfl hm e1 e2 e3 e4 e5
        | exc x => rw [ec] at h1; exact h1.elim
        | bad => rw [ec] at h1; exact h1.elim
end

section
variable {L : St0} {N : List Str} {nm : Nm} {st : Stmt}
theorem inv_asg {i t : Nat} {c : CE} (h : mS L N nm (.asg i t c) st = true) : (∃ x p e q, st = .Assign [.Name x p] e q ∧ N[i]? = some x ∧ locB nm x = true ∧ c.notLc = true ∧ mE L N c nm e = true) ∨
    (∃ own tg it ifs elt x p e gs scope pos q, c = .lc own tg it ifs elt ∧ st = .Assign [.Name x p] (.ListComp e gs scope pos) q ∧ N[i]? = some x ∧ locB nm x = true ∧ mE L N c nm (.ListComp e gs scope pos) = true ∧ (nm.lookup x = some .cell ∨ (nm.lookup x = some .local ∧ p.line = pos.line ∧ (scope.names.any fun (n, k) => n == x && (k == .local || k == .cell)) = false))) := by
  unfold mS at h; split at h <;> first | (cases h; done) | contradiction | skip
  · rename (CS.asg i t c) = _ => hq
    cases hq
    simp only [Bool.and_eq_true, decide_eq_true_eq] at h
    obtain ⟨a1, a2, a3, a4⟩ := h
    right
    split at a4
    · simp only [Bool.or_eq_true, Bool.and_eq_true, decide_eq_true_eq, Bool.not_eq_true'] at a4
      exact ⟨_, _, _, _, _, _, _, _, _, _, _, _, rfl, rfl, a1, a2, a3, a4⟩
    · cases a4
  · rename (CS.asg i t c) = _ => hq
    cases hq
    simp only [Bool.and_eq_true, decide_eq_true_eq] at h
    exact .inl ⟨_, _, _, _, rfl, h⟩
theorem inv_unp {tg : Tg} {c : CE} (h : mS L N nm (.unp tg c) st = true) : ∃ t ts k p e q, st = .Assign [.Tuple (t :: ts) k p] e q ∧ mT N nm tg (.Tuple (t :: ts) k p) = true ∧ c.notLc = true ∧ mE L N c nm e = true ∧ (∀ a b d, e ≠ .Tuple a b d) := by
  unfold mS at h; split at h <;> first | (cases h; done) | contradiction | skip
  rename (CS.unp tg c) = _ => hq
  cases hq
  simp only [Bool.and_eq_true] at h
  obtain ⟨a1, a2, a3, a4⟩ := h
  refine ⟨_, _, _, _, _, _, rfl, a1, a2, a3, fun a b d z => ?_⟩
  subst z
  cases a4
theorem inv_par {i j : Nat} {a b : CE} (h : mS L N nm (.par i j a b) st = true) : ∃ x px y py kt pt e f k2 pt2 q, st = .Assign [.Tuple [.Name x px, .Name y py] kt pt] (.Tuple [e, f] k2 pt2) q ∧ N[i]? = some x ∧ N[j]? = some y ∧ i ≠ j ∧ nm.lookup x = some .local ∧ nm.lookup y = some .local ∧ px.line = py.line ∧
    [e, f].all (foldedForSure 8) = false ∧ [e, f].all (constantsAlone 8) = false ∧ mE L N a nm e = true ∧ mE L N b nm f = true := by
  unfold mS at h; split at h <;> first | (cases h; done) | contradiction | skip
  rename (CS.par i j a b) = _ => hq
  cases hq
  simp only [Bool.and_eq_true, decide_eq_true_eq, Bool.not_eq_true'] at h
  exact ⟨_, _, _, _, _, _, _, _, _, _, _, rfl, h⟩
theorem inv_ret {c : CE} (h : mS L N nm (.ret c) st = true) : ∃ e q, st = .Return (some e) q ∧ mE L N c nm e = true := by
  unfold mS at h; split at h <;> first | (cases h; done) | contradiction | skip
  rename (CS.ret c) = _ => hq
  cases hq
  exact ⟨_, _, rfl, h⟩
theorem inv_retN (h : mS L N nm .retN st = true) : ∃ q, st = .Return none q := by
  unfold mS at h; split at h <;> first | (cases h; done) | contradiction | skip
  exact ⟨_, rfl⟩
theorem inv_exp {c : CE} (h : mS L N nm (.exp c) st = true) : ∃ e q, st = .Expr e q ∧ mE L N c nm e = true ∧ c.notLc = true := by
  unfold mS at h; split at h <;> first | (cases h; done) | contradiction | skip
  rename (CS.exp c) = _ => hq
  cases hq
  simp only [Bool.and_eq_true] at h
  exact ⟨_, _, rfl, h⟩
theorem inv_mut {m : MO} {i : Nat} {xs : CL} (h : mS L N nm (.mut m i xs) st = true) : (∃ c d x p ie sp e q, m = .set ∧ xs = .cons c (.cons d .nil) ∧ st = .Assign [.Subscript (.Name x p) ie sp] e q ∧ N[i]? = some x ∧ visB nm x = true ∧ c.notLc = true ∧ mE L N c nm e = true ∧ mE L N d nm ie = true) ∨
    (∃ x p f apos es pos q, st = .Expr (.Call (.Attribute (.Name x p) f apos) es [] pos) q ∧ m ≠ .set ∧ m.zero = es.isEmpty ∧ f = Str.ofString m.name ∧ (apos.endLine == pos.line) = true ∧ N[i]? = some x ∧ visB nm x = true ∧ es.length < 20 ∧ mL L N xs nm es = true) := by
  unfold mS at h; split at h <;> first | (cases h; done) | contradiction | skip
  · rename (CS.mut m i xs) = _ => hq
    cases hq
    simp only [Bool.and_eq_true, decide_eq_true_eq] at h
    exact .inl ⟨_, _, _, _, _, _, _, _, rfl, rfl, rfl, h⟩
  · rename (CS.mut m i xs) = _ => hq
    cases hq
    simp only [Bool.and_eq_true, decide_eq_true_eq, beq_iff_eq] at h
    refine .inr ⟨_, _, _, _, _, _, _, rfl, h.1, h.2.1, h.2.2.1, ?_, h.2.2.2.2⟩
    simpa using h.2.2.2.1
theorem inv_ifs {c : CE} {a b : CB} (h : mS L N nm (.ifs c a b) st = true) : ∃ e x y q, st = .If e x y q ∧ mE L N c nm e = true ∧ mB L N nm a x = true ∧ mB L N nm b y = true := by
  unfold mS at h; split at h <;> first | (cases h; done) | contradiction | skip
  rename (CS.ifs c a b) = _ => hq
  cases hq
  simp only [Bool.and_eq_true] at h
  exact ⟨_, _, _, _, rfl, h⟩
theorem inv_callM {f i : Nat} {xs : CL} (h : mS L N nm (.callM f i xs) st = true) : ∃ x p y py es pos q, st = .Expr (.Call (.Name x p) (.Name y py :: es) [] pos) q ∧ L.fnN[f]? = some x ∧ (L.fns[f]?).isSome = true ∧ glB nm x = true ∧ N[i]? = some y ∧ visB nm y = true ∧ mL L N xs nm es = true := by
  unfold mS at h; split at h <;> first | (cases h; done) | contradiction | skip
  rename (CS.callM f i xs) = _ => hq
  cases hq
  simp only [Bool.and_eq_true, decide_eq_true_eq] at h
  exact ⟨_, _, _, _, _, _, _, rfl, h⟩
theorem inv_whl {c : CE} {b : CB} (h : mS L N nm (.whl c b) st = true) : ∃ e x q, st = .While e x [] q ∧ mE L N c nm e = true ∧ mB L N nm b x = true := by
  unfold mS at h; split at h <;> first | (cases h; done) | contradiction | skip
  rename (CS.whl c b) = _ => hq
  cases hq
  simp only [Bool.and_eq_true] at h
  exact ⟨_, _, _, rfl, h⟩
theorem inv_forr {tg : Tg} {it : CI} {b : CB} (h : mS L N nm (.forr tg it b) st = true) : ∃ t e x q, st = .For t e x [] q ∧ it.okT tg = true ∧ mT N nm tg t = true ∧ mI L N it nm e = true ∧ mB L N nm b x = true := by
  unfold mS at h; split at h <;> first | (cases h; done) | contradiction | skip
  rename (CS.forr tg it b) = _ => hq
  cases hq
  simp only [Bool.and_eq_true] at h
  exact ⟨_, _, _, _, rfl, h⟩
theorem inv_brk (h : mS L N nm .brk st = true) : ∃ q, st = .Break q := by
  unfold mS at h; split at h <;> first | (cases h; done) | contradiction | skip
  exact ⟨_, rfl⟩
theorem inv_cont (h : mS L N nm .cont st = true) : ∃ q, st = .Continue q := by
  unfold mS at h; split at h <;> first | (cases h; done) | contradiction | skip
  exact ⟨_, rfl⟩
theorem inv_pass (h : mS L N nm .pass st = true) : (∃ q, st = .Pass q) ∨ ∃ x j p q, st = .Expr (.Constant (.str x) j p) q := by
  unfold mS at h; split at h <;> first | (cases h; done) | contradiction | skip
  · exact .inl ⟨_, rfl⟩
  · exact .inr ⟨_, _, _, _, rfl⟩
end
section
variable {X : Cx} {S : Sx} {back : Nat} {lp : Tn} {g : Gh} {En : Ends} {σ : L2.St} {H : Hp} {N : List Str} {nm : Nm}
theorem snd_seq2 {s : CS} {r : CB} {st : Stmt} {rest : List Stmt} (h1 : PS X st (tS S back lp s)) (h2 : PSs X rest (tB S back lp r)) : PSs X (st :: rest) (tB S back lp (.cons s r)) := by
  refine impSs (pss_cons h1 h2) ?_
  rintro En σ H ⟨g, rr, c, ht, R, h⟩
  have c : ((kS S.L back lp s g.T).bind fun o => match o with | some T1 => kB S.L back lp r T1 | none => some none) = some rr := c
  obtain ⟨o, c1, c2⟩ := Option.bind_eq_some_iff.mp c
  refine ⟨g, o, c1, ht, R, ?_⟩
  have h : AftO S back lp g rr (match exS S.w s g.rho with | .nx ρ' => exB S.w r ρ' | o => o) En := h
  cases eo : exS S.w s g.rho with
  | nx ρ' =>
    rw [eo] at h
    cases o with
    | none => trivial
    | some T1 =>
      intro σ' H' F' f R'
      exact ⟨{ g with F := F', T := T1, tau := [], rho := ρ' }, rr, c2, rfl, R', by
        have z := AftO.up (T1 := T1) (tau := []) (ρ1 := ρ') f h
        exact z⟩
  | ct ρ' => rw [eo] at h; exact h
  | bk ρ' => rw [eo] at h; exact h
  | rt d => rw [eo] at h; exact h
  | exc e ρ' => rw [eo] at h; exact h
  | bad => rw [eo] at h; exact h
theorem snd_fz {i : Nat} {r : CB} {ss : List Stmt} (h2 : PSs X ss (tB S back lp r)) : PSs X ss (tB S back lp (.cons (.fz i) r)) := by
  refine impSs h2 ?_
  rintro En σ H ⟨g, rr, c, ht, R, h⟩
  have c : ((match g.T[i]? with | some (some _) => some (some (g.T.set i (some 0))) | _ => none).bind fun o => match o with | some T1 => kB S.L back lp r T1 | none => some none) = some rr := c
  cases e : g.T[i]? with
  | none => rw [e] at c; cases c
  | some o =>
    rw [e] at c
    cases o with
    | none => cases c
    | some n =>
      have c : kB S.L back lp r (g.T.set i (some 0)) = some rr := c
      obtain ⟨F', f, R'⟩ := R.frz e
      have h : AftO S back lp g rr (exB S.w r g.rho) En := h
      exact ⟨{ g with F := F', T := g.T.set i (some 0) }, rr, c, ht, R', by
        have z := AftO.up (T1 := g.T.set i (some 0)) (tau := g.tau) (ρ1 := g.rho) f h
        exact z⟩
theorem snd_dr {i : Nat} {r : CB} {ss : List Stmt} (h2 : PSs X ss (tB S back lp r)) : PSs X ss (tB S back lp (.cons (.dr i) r)) := by
  refine impSs h2 ?_
  rintro En σ H ⟨g, rr, c, ht, R, h⟩
  have c : kB S.L back lp r (g.T.set i none) = some rr := c
  have h : AftO S back lp g rr (exB S.w r g.rho) En := h
  exact ⟨{ g with T := g.T.set i none }, rr, c, ht, R.dropT i, by
    have z := AftO.up (F1 := g.F) (T1 := g.T.set i none) (tau := g.tau) (ρ1 := g.rho) (Same.refl _) h
    exact z⟩
theorem snd_nilB : PSs X [] (tB S back lp .nil) := by
  refine impSs pss_nil ?_
  rintro En σ H ⟨g, rr, c, ht, R, h⟩
  cases c
  exact h σ H g.F (Same.refl _) (R.tau0 ht)
end
mutual
theorem sndS : ∀ (c : CS) {S : Sx} {X : Cx} {N : List Str} {nm : Nm} (G : GoodS S X N nm) (back : Nat) (lp : Tn) (st : Stmt), mS S.L N nm c st = true → PS X st (tS S back lp c)
  | .asg i t c, S, X, N, nm, G, back, lp, st, h => by
    rcases inv_asg h with ⟨x, p, e, q, rfl, h1, h2, h3, h4⟩ | ⟨own, tg, it, ifs, elt, x, p, e, gs, scope, pos, q, rfl, rfl, h1, h2, h3, hc⟩
    · exact snd_asg G.toGood h1 h2 h3 h4
    · rcases hc with hc | ⟨h4, h5, h6⟩
      · refine snd_asgCell G.toGood h1 h2 ?_ h3
        rcases G.toGood.nmk _ _ hc with z | ⟨z, _⟩
        · exact z
        · cases z
      · obtain ⟨x', t', iter', tests', scope', p', e', _⟩ := inv_lc h3
        cases e'
        exact snd_asgLc G.toGood h1 h4 h5 h6 h3 G.hk
  | .unp tg c, S, X, N, nm, G, back, lp, st, h => by
    obtain ⟨t, ts, k, p, e, q, rfl, h1, h2, h3, h4⟩ := inv_unp h
    refine snd_unp G.toGood h1 h2 h3 ?_ rfl
    cases e <;> first
      | rfl
      | exact absurd rfl (h4 _ _ _)
  | .par i j a b, S, X, N, nm, G, back, lp, st, h => by
    obtain ⟨x, px, y, py, kt, pt, e, f, k2, pt2, q, rfl, h1, h2, h3, h4, h5, h6, h7, h8, h9, h10⟩ := inv_par h
    exact snd_par G h1 h2 h3 h4 h5 h6 h7 h8 h9 h10
  | .ret c, S, X, N, nm, G, back, lp, st, h => by
    obtain ⟨e, q, rfl, h1⟩ := inv_ret h
    exact snd_ret G.toGood h1
  | .retN, S, X, N, nm, G, back, lp, st, h => by
    obtain ⟨q, rfl⟩ := inv_retN h
    exact snd_retN
  | .exp c, S, X, N, nm, G, back, lp, st, h => by
    obtain ⟨e, q, rfl, h1, h2⟩ := inv_exp h
    exact snd_exp G.toGood h2 h1
  | .mut m i xs, S, X, N, nm, G, back, lp, st, h => by
    rcases inv_mut h with ⟨c, d, x, p, ie, sp, e, q, rfl, rfl, rfl, h1, h2, h3, h4, h5⟩ | ⟨x, p, f, apos, es, pos, q, rfl, h1, h2, h3, h4, h5, h6, h7, h8⟩
    · exact snd_setI G h1 h2 h3 h4 h5
    · exact snd_mut G h1 h2 h3 h4 h5 h6 h7 h8
  | .callM f i xs, S, X, N, nm, G, back, lp, st, h => by
    obtain ⟨x, p, y, py, es, pos, q, rfl, h1, h2, h3, h4, h5, h6⟩ := inv_callM h
    exact snd_callM G h1 h2 h3 h4 h5 (sndL xs G.toGood es h6) (mL_any _ _ h6)
  | .ifs c a b, S, X, N, nm, G, back, lp, st, h => by
    obtain ⟨e, x, y, q, rfl, h1, h2, h3⟩ := inv_ifs h
    exact snd_ifs (sndE c G.toGood e h1).t (sndB a G back lp x h2) (sndB b G back lp y h3)
  | .whl c b, S, X, N, nm, G, back, lp, st, h => by
    obtain ⟨e, x, q, rfl, h1, h2⟩ := inv_whl h
    exact snd_whl G.hp (sndE c G.toGood e h1).t fun lp => sndB b G back lp x h2
  | .forr tg it b, S, X, N, nm, G, back, lp, st, h => by
    obtain ⟨t, e, x, q, rfl, h0, h1, h2, h3⟩ := inv_forr h
    have hi := sndI it G.toGood t e (okT_tup h0 h1) h2
    exact snd_for G.toGood G.hp hi.1 (snd_tg G.toGood tg t h1) (fun lp => sndB b G back lp x h3) hi.2
  | .brk, S, X, N, nm, G, back, lp, st, h => by
    obtain ⟨q, rfl⟩ := inv_brk h
    exact snd_brk
  | .cont, S, X, N, nm, G, back, lp, st, h => by
    obtain ⟨q, rfl⟩ := inv_cont h
    exact snd_cont
  | .pass, S, X, N, nm, G, back, lp, st, h => by
    rcases inv_pass h with ⟨q, rfl⟩ | ⟨x, j, p, q, rfl⟩
    · exact snd_pass
    · exact snd_doc
  | .fz i, S, X, N, nm, G, back, lp, st, h => by
    unfold mS at h; cases h
  | .dr i, S, X, N, nm, G, back, lp, st, h => by
    unfold mS at h; cases h
  | .bad, S, X, N, nm, G, back, lp, st, h => ⟨fun pins s σ H En I q => by
    obtain ⟨g, r, _, _, _, h⟩ := q
    exact h.elim⟩
theorem sndB : ∀ (c : CB) {S : Sx} {X : Cx} {N : List Str} {nm : Nm} (G : GoodS S X N nm) (back : Nat) (lp : Tn) (ss : List Stmt), mB S.L N nm c ss = true → PSs X ss (tB S back lp c)
  | .nil, S, X, N, nm, G, back, lp, ss, h => by
    cases ss with
    | nil => exact snd_nilB
    | cons _ _ => simp [mB] at h
  | .cons s r, S, X, N, nm, G, back, lp, ss, h => by
    by_cases hf : ∃ i, s = .fz i
    · obtain ⟨i, rfl⟩ := hf
      have h : mB S.L N nm r ss = true := by simpa [mB] using h
      exact snd_fz (sndB r G back lp ss h)
    by_cases hd : ∃ i, s = .dr i
    · obtain ⟨i, rfl⟩ := hd
      have h : mB S.L N nm r ss = true := by simpa [mB] using h
      exact snd_dr (sndB r G back lp ss h)
    have z : ∃ st ss', ss = st :: ss' ∧ mS S.L N nm s st = true ∧ mB S.L N nm r ss' = true := by
      cases ss with
      | nil =>
        cases s <;> first
          | exact absurd ⟨_, rfl⟩ hf
          | exact absurd ⟨_, rfl⟩ hd
          | (simp [mB] at h)
      | cons st ss' =>
        refine ⟨st, ss', rfl, ?_⟩
        cases s <;> first
          | exact absurd ⟨_, rfl⟩ hf
          | exact absurd ⟨_, rfl⟩ hd
          | (simp only [mB, Bool.and_eq_true] at h; exact h)
    obtain ⟨st, ss', rfl, h1, h2⟩ := z
    exact snd_seq2 (sndS s G back lp st h1) (sndB r G back lp ss' h2)
end
end PV
/-! PVN: a def that changes its first argument: its body. -/
namespace PV
open PySem PySem.Spec PyProof.Rows L2
mutual
def mJ (L : St0) (N : List Str) (nm : Nm) : CS → Stmt → Bool
  | .asg i _ c, .Assign [.Name x _] e _ => decide (i ≠ 0) && (decide (N[i]? = some x) && (locB nm x && (c.notLc && mE L N c nm e)))
  | .mut .set i (.cons c (.cons d .nil)), .Assign [.Subscript (.Name x _) ie _] e _ => decide (N[i]? = some x) && (visB nm x && (c.notLc && (mE L N c nm e && mE L N d nm ie)))
  | .ifs c a b, .If e x y _ => mE L N c nm e && (mJB L N nm a x && mJB L N nm b y)
  | .brk, .Return none _ => true
  | .pass, .Pass _ => true
  | _, _ => false
def mJB (L : St0) (N : List Str) (nm : Nm) : CB → List Stmt → Bool
  | .nil, [] => true
  | .cons c r, s :: ss => mJ L N nm c s && mJB L N nm r ss
  | _, _ => false
end
abbrev pinned (v0 : V) (σ : L2.St) : Prop := σ[0]? = some (some v0)
def pinE (v0 : V) (En : Ends) : Ends := ⟨fun σ H => pinned v0 σ → En.nx σ H, En.rt, fun σ H => pinned v0 σ → En.rt .non H, fun _ _ => False⟩
def tJ (S : Sx) (v0 : V) (lp : Tn) (c : CS) : TS := fun En σ H => pinned v0 σ ∧ tS S 0 lp c (pinE v0 En) σ H
def tJB (S : Sx) (v0 : V) (lp : Tn) (c : CB) : TS := fun En σ H => pinned v0 σ ∧ tB S 0 lp c (pinE v0 En) σ H
section
variable {X : Cx} {S : Sx} {v0 : V} {lp : Tn} {g : Gh} {En : Ends} {σ : L2.St} {H : Hp} {N : List Str} {nm : Nm}
theorem set1_mono {En En' : Ends} {i : Nat} {c d : CE} (h : tSet1 S X i c d En σ H) (k : ∀ H', En.nx σ H' → En'.nx σ H') : tSet1 S X i c d En' σ H := by
  refine tE_mono h fun v H1 h1 => ?_
  obtain ⟨w, ev, h1⟩ := h1
  refine ⟨w, ev, tE_mono h1 fun u H2 h2 => ?_⟩
  rcases h2 with h2 | h2
  · obtain ⟨p, xs, j, jj, e1, e2, e3, e4, e5⟩ := h2
    exact .inl ⟨p, xs, j, jj, e1, e2, e3, e4, k _ e5⟩
  · obtain ⟨F, p, ob, ks, us, ws, kk, e1, e2, e3, e4, e5, e6, e7, e8⟩ := h2
    exact .inr ⟨F, p, ob, ks, us, ws, kk, e1, e2, e3, e4, e5, e6, e7, fun ob' => k _ (e8 ob')⟩
theorem jS_ifs {c : CE} {a b : CB} {e : Expr} {x y : List Stmt} {q : Pos} (hc : PT X e (tT S c)) (ha : PSs X x (tJB S v0 lp a)) (hb : PSs X y (tJB S v0 lp b)) : PS X (.If e x y q) (tJ S v0 lp (.ifs c a b)) := by
  refine impS (ps_if hc ha hb) ?_
  rintro En σ H ⟨hp, g, r, c', ht, R, h⟩
  obtain ⟨k, T1, c1, c'⟩ := bind2 c'
  have c' : ((kB S.L 0 lp a T1).bind fun r1 => (kB S.L 0 lp b T1).bind fun r2 => joinT r1 r2) = some r := c'
  obtain ⟨r1, ca, c'⟩ := Option.bind_eq_some_iff.mp c'
  obtain ⟨r2, cb, j⟩ := Option.bind_eq_some_iff.mp c'
  have h : AftO S 0 lp g r ((evE S.w c g.rho).out g.rho fun x => match x with
    | .bl true => exB S.w a g.rho
    | .bl false => exB S.w b g.rho
    | _ => .bad) (pinE v0 En) := h
  refine tT_then c1 R h (fun d hd => ?_) fun b1 H1 F1 s f R1 h1 => ?_
  · cases d with
    | bl b => exact absurd rfl (hd b)
    | _ => rfl
  · have R2 := R1.tau0 ht
    cases b1 with
    | true =>
      rw [if_pos rfl]
      exact ⟨hp, { g with F := F1, T := T1, tau := [] }, r1, ca, rfl, R2, (h1.left j).up f⟩
    | false =>
      rw [if_neg (by decide)]
      exact ⟨hp, { g with F := F1, T := T1, tau := [] }, r2, cb, rfl, R2, (h1.right j).up f⟩
theorem jB_cons {s : CS} {r : CB} {st : Stmt} {rest : List Stmt} (h1 : PS X st (tJ S v0 lp s)) (h2 : PSs X rest (tJB S v0 lp r)) : PSs X (st :: rest) (tJB S v0 lp (.cons s r)) := by
  refine impSs (pss_cons h1 h2) ?_
  rintro En σ H ⟨hp, g, rr, c, ht, R, h⟩
  have c : ((kS S.L 0 lp s g.T).bind fun o => match o with | some T1 => kB S.L 0 lp r T1 | none => some none) = some rr := c
  obtain ⟨o, c1, c2⟩ := Option.bind_eq_some_iff.mp c
  refine ⟨hp, g, o, c1, ht, R, ?_⟩
  have h : AftO S 0 lp g rr (match exS S.w s g.rho with | .nx ρ' => exB S.w r ρ' | o => o) (pinE v0 En) := h
  cases eo : exS S.w s g.rho with
  | nx ρ' =>
    rw [eo] at h
    cases o with
    | none => trivial
    | some T1 =>
      intro σ' H' F' f R' hp'
      exact ⟨hp', { g with F := F', T := T1, tau := [], rho := ρ' }, rr, c2, rfl, R', by
        have z := AftO.up (T1 := T1) (tau := []) (ρ1 := ρ') f h
        exact z⟩
  | ct ρ' => rw [eo] at h; exact h
  | bk ρ' => rw [eo] at h; exact h
  | rt d => rw [eo] at h; exact h
  | exc e ρ' => rw [eo] at h; exact h
  | bad => rw [eo] at h; exact h
mutual
theorem sndJ : ∀ (c : CS) {S : Sx} {X : Cx} {N : List Str} {nm : Nm} (G : GoodS S X N nm) (v0 : V) (lp : Tn) (st : Stmt), mJ S.L N nm c st = true → PS X st (tJ S v0 lp c)
  | .asg i t c, S, X, N, nm, G, v0, lp, st, h => by
    unfold mJ at h; split at h <;> first | (cases h; done) | contradiction | skip
    rename (CS.asg i t c) = _ => hq
    cases hq
    simp only [Bool.and_eq_true, decide_eq_true_eq] at h
    obtain ⟨h0, h1, h2, h3, h4⟩ := h
    obtain ⟨l1, l2⟩ := G.toGood.loc h2
    refine impS (ps_set (i := i) (by rw [G.toGood.hN]; exact G.toGood.nd) (by rw [G.toGood.hN]; exact h1) l1 (sndE c G.toGood _ h4).e (notLc_sw h4 h3 _ _ _) l2) ?_
    rintro En σ H ⟨hp, g, r, c, ht, R, h⟩
    exact fin_asg c ht R h fun x H1 z => z (by
      show (σ.set i (some x))[0]? = _
      rw [List.getElem?_set_ne (fun y => h0 y)]
      exact hp)
  | .mut m i xs, S, X, N, nm, G, v0, lp, st, h => by
    unfold mJ at h; split at h <;> first | (cases h; done) | contradiction | skip
    rename (CS.mut m i xs) = _ => hq
    cases hq
    simp only [Bool.and_eq_true, decide_eq_true_eq] at h
    obtain ⟨h1, h2, h3, h4, h5⟩ := h
    refine impS (ps_setI G h1 h2 h3 h4 h5) ?_
    rintro En σ H ⟨hp, q⟩
    exact set1_mono (setI_imp G q) fun H' z => z hp
  | .ifs c a b, S, X, N, nm, G, v0, lp, st, h => by
    unfold mJ at h; split at h <;> first | (cases h; done) | contradiction | skip
    rename (CS.ifs c a b) = _ => hq
    cases hq
    simp only [Bool.and_eq_true] at h
    exact jS_ifs (sndE c G.toGood _ h.1).t (sndJB a G v0 lp _ h.2.1) (sndJB b G v0 lp _ h.2.2)
  | .brk, S, X, N, nm, G, v0, lp, st, h => by
    unfold mJ at h; split at h <;> first | (cases h; done) | contradiction | skip
    refine impS ps_retN ?_
    rintro En σ H ⟨hp, g, r, c', ht, R, h⟩
    have c' : (if wkT g.T lp = true then some none else none) = some r := c'
    split at c'
    case isFalse => cases c'
    rename_i hk
    exact h σ H g.F (Same.refl _) (R.toLp ht hk) hp
  | .pass, S, X, N, nm, G, v0, lp, st, h => by
    unfold mJ at h; split at h <;> first | (cases h; done) | contradiction | skip
    refine impS ps_pass ?_
    rintro En σ H ⟨hp, g, r, c', ht, R, h⟩
    cases c'
    exact h σ H g.F (Same.refl _) (R.tau0 ht) hp
  | .unp _ _, _, _, _, _, _, _, _, _, h => by unfold mJ at h; cases h
  | .par _ _ _ _, _, _, _, _, _, _, _, _, h => by unfold mJ at h; cases h
  | .ret _, _, _, _, _, _, _, _, _, h => by unfold mJ at h; cases h
  | .retN, _, _, _, _, _, _, _, _, h => by unfold mJ at h; cases h
  | .exp _, _, _, _, _, _, _, _, _, h => by unfold mJ at h; cases h
  | .callM _ _ _, _, _, _, _, _, _, _, _, h => by unfold mJ at h; cases h
  | .whl _ _, _, _, _, _, _, _, _, _, h => by unfold mJ at h; cases h
  | .forr _ _ _, _, _, _, _, _, _, _, _, h => by unfold mJ at h; cases h
  | .cont, _, _, _, _, _, _, _, _, h => by unfold mJ at h; cases h
  | .fz _, _, _, _, _, _, _, _, _, h => by unfold mJ at h; cases h
  | .dr _, _, _, _, _, _, _, _, _, h => by unfold mJ at h; cases h
  | .bad, _, _, _, _, _, _, _, _, h => by unfold mJ at h; cases h
theorem sndJB : ∀ (c : CB) {S : Sx} {X : Cx} {N : List Str} {nm : Nm} (G : GoodS S X N nm) (v0 : V) (lp : Tn) (ss : List Stmt), mJB S.L N nm c ss = true → PSs X ss (tJB S v0 lp c)
  | .nil, S, X, N, nm, G, v0, lp, ss, h => by
    cases ss with
    | cons _ _ => simp [mJB] at h
    | nil =>
      refine impSs pss_nil ?_
      rintro En σ H ⟨hp, g, rr, c, ht, R, h⟩
      cases c
      exact h σ H g.F (Same.refl _) (R.tau0 ht) hp
  | .cons s r, S, X, N, nm, G, v0, lp, ss, h => by
    cases ss with
    | nil => simp [mJB] at h
    | cons st ss' =>
      simp only [mJB, Bool.and_eq_true] at h
      exact jB_cons (sndJ s G v0 lp st h.1) (sndJB r G v0 lp ss' h.2)
end
end
def lpIO (n : Nat) : Tn := some 1 :: List.replicate n none
def stIO (n : Nat) : Tn := some 1 :: List.replicate n (some 0)
def chkIO (L : St0) (fn : Fn) (N : List Str) (names : Nm) (body : List Stmt) : Bool := mJB L N names fn.body body && ((match kB L 0 (lpIO (N.length - 1)) fn.body (stIO (N.length - 1)) with
  | some r => endT r (lpIO (N.length - 1))
  | none => false) && (decide (N.length = fn.ps + fn.more) && decide (0 < fn.ps)))
section
variable {L : St0} {eat : Eat} {P : Program} {w : World} {K : KW} {mg : Str → Option Value} {base : Heap} {x qual : Str} {params : Arguments} {body : List Stmt} {scope : Scope} {fa : Addr} {fd : FuncData} {N ps : List Str}
theorem rel_startIO {F H : Hp} {p : Addr} {us : List V} {d0 : D} {ds : List D} {m : Nat} (sF : Same F H) (f0 : F p = none) (r0 : RepO K F H 1 (.ref p) d0 [p]) (r : Reps K F us ds) (hl : N.length = ds.length + 1 + m) :
    Rel K ⟨fun a => if a = p then none else H a, F, F, stIO (N.length - 1), [], (d0 :: ds).map some ++ List.replicate m none⟩ (L2.start N (.ref p :: us)) H := by
  have hp : H p ≠ none := by
    obtain ⟨o, e, _⟩ := r0.there 1 p (by simp)
    rw [e]; exact fun z => nomatch z
  refine ⟨Same.refl _, sF, fun a o e => ?_, fun q hq => .inl hq, ⟨fun q => if q = p then some 0 else none, fun q k e => ?_, fun i n d e1 e2 => ?_, trivial⟩, ?_, ?_⟩
  · have e : (if a = p then none else H a) = some o := e
    split at e
    · cases e
    · exact e
  · by_cases hq : q = p
    · subst hq
      exact ⟨if_pos rfl, f0, hp⟩
    · have e : (if q = p then some 0 else none) = some k := e
      rw [if_neg hq] at e; cases e
  · cases i with
    | zero =>
      have e1 : some (some 1) = some (some n) := e1
      have e2 : some (some d0) = some (some d) := e2
      cases e1; cases e2
      refine ⟨.ref p, rfl, [p], r0, by simp, fun _ q hq => ?_, fun _ _ => trivial⟩
      have : q = p := by simpa using hq
      show (if q = p then some 0 else none) = some 0
      rw [if_pos this]
    | succ i =>
      have e1 : (List.replicate (N.length - 1) (some 0))[i]? = some (some n) := e1
      have e2 : (ds.map some ++ List.replicate m none)[i]? = some (some d) := e2
      have hn : n = 0 := by
        rw [List.getElem?_replicate] at e1
        split at e1
        · exact (Option.some.inj (Option.some.inj e1)).symm
        · cases e1
      subst hn
      have hi : i < ds.length := by
        by_cases hi : i < ds.length
        · exact hi
        · rw [List.getElem?_append_right (by simpa using hi), List.getElem?_replicate] at e2
          split at e2 <;> cases e2
      rw [List.getElem?_append_left (by simpa using hi), List.getElem?_map] at e2
      cases q : ds[i]? with
      | none => rw [q] at e2; cases e2
      | some d' =>
        rw [q] at e2
        cases e2
        obtain ⟨v, h1, h2⟩ := r.get q
        refine ⟨v, ?_, cell0 h2⟩
        unfold L2.start
        rw [List.getElem?_append_left (by rw [List.length_map, List.length_cons, r.length]; omega), List.getElem?_map, List.getElem?_cons_succ, h1]; rfl
  · show (L2.start N (.ref p :: us)).length = ((d0 :: ds).map some ++ List.replicate m none).length
    unfold L2.start
    rw [List.length_append, List.length_append, List.length_map, List.length_map, List.length_replicate, List.length_replicate, List.length_cons, List.length_cons, r.length]
    omega
  · show (stIO (N.length - 1)).length = ((d0 :: ds).map some ++ List.replicate m none).length
    unfold stIO
    rw [List.length_append, List.length_map, List.length_replicate, List.length_cons, List.length_cons, List.length_replicate]
    omega
theorem endIO_ok {o : O} {d : D} (h : endIO o = .ok d) : ∃ ρ, (o = .nx ρ ∨ o = .bk ρ) ∧ ρ[0]? = some (some d) ∧ isMu d = true := by
  have key : ∀ ρ : Env, (match ρ[0]? with | some (some d) => PV.R.need (isMu d = true) (.ok d) | _ => .bad) = PV.R.ok d → ρ[0]? = some (some d) ∧ isMu d = true := fun ρ h => by
    split at h
    · rename_i d' e
      obtain ⟨h1, h2⟩ := PV.R.need_eq h
      cases h2
      exact ⟨e, h1⟩
    · cases h
  cases o with
  | nx ρ => exact ⟨ρ, .inl rfl, key ρ h⟩
  | bk ρ => exact ⟨ρ, .inr rfl, key ρ h⟩
  | _ => cases h
theorem body_io {fn : Fn} {f n : Nat} (F : FunD K x qual params body scope [] [] fa fd) (Sc : FnScope N ps scope) (hps : ps.length = fn.ps) (hf : L.fns[f]? = some fn) (hio : fn.io = true) (hc : chkIO L fn N scope.names body = true) (G : GlobOk L eat n P K.wd K mg base) :
    FnOk P K.wd K mg base (CX P K.wd) (n + 1) fa fd ps (spIO L eat K (n + 1) f) := by
  unfold chkIO at hc
  simp only [Bool.and_eq_true, decide_eq_true_eq] at hc
  obtain ⟨hm, hk, hN, h0⟩ := hc
  have ec : ∀ ds, L.call (n + 1) f ds = R.need (ds.length = fn.ps) (runIO (L.w n) fn.more fn.body ds) := fun ds => by
    show callF L.fns L.conD L.turns (n + 1) f ds = _
    rw [callF, hf]
    show R.need _ (if fn.io = true then _ else _) = _
    rw [if_pos hio]
    rfl
  have lens : ∀ vs H Q E, spIO L eat K (n + 1) f vs H Q E → ∃ (F : Hp) (p : Addr) (us : List V) (d0 : D) (ds : List D), vs = .ref p :: us ∧ Same F H ∧ F p = none ∧ RepO K F H 1 (.ref p) d0 [p] ∧ Reps K F us ds ∧ ds.length + 1 = fn.ps ∧ (match runIO (L.w n) fn.more fn.body (d0 :: ds) with
      | .ok d => ∀ H' F', (∀ a o, a ≠ p → H a = some o → H' a = some o) → Same F F' → Same F' H' → (∀ q, F' q ≠ none → F q ≠ none ∨ H q = none) → RepO K F' H' 1 (.ref p) d [p] → Q .non H'
      | .exc e => False
      | .bad => False) := fun vs H Q E ⟨F, p, us, d0, ds, e, s, f0, r0, r, h⟩ => by
    by_cases hl : (d0 :: ds).length = fn.ps
    · refine ⟨F, p, us, d0, ds, e, s, f0, r0, r, hl, ?_⟩
      rw [ec, R.need_ok hl] at h
      exact h
    · rw [ec] at h
      unfold R.need at h
      rw [if_neg hl] at h
      exact h.elim
  refine F.ok Sc (fun vs H Q E h => ?_) (fun cdv A outer s H vs Q E hr h => ?_)
  · obtain ⟨F', p, us, d0, ds, e, s, f0, r0, r, hl, _⟩ := lens vs H Q E h
    rw [e, List.length_cons, r.length, hl, hps]
  · have GS : GoodS ⟨L, n, K, fun cls d _ H => E cls d H, eat⟩ (cxOf (CX P K.wd) P K.wd K mg base N qual scope fa cdv A outer s H E) N scope.names :=
      { hN := rfl, nd := Sc.nd, nmk := fun _ _ e => .inl e, fn := fun _ _ => rfl, calm := rfl, tk := takes_of rfl rfl rfl rfl, room := hr, K := rfl, glob := G, hp := passes_of rfl, hk := Sc.kind }
    obtain ⟨F', p, us, d0, ds, rfl, sF, f0, r0, r, hl, h⟩ := lens vs H Q E h
    refine ⟨_, sndJB fn.body GS (.ref p) (lpIO (N.length - 1)) body hm, rfl, ?_⟩
    cases hkk : kB L 0 (lpIO (N.length - 1)) fn.body (stIO (N.length - 1)) with
    | none => rw [hkk] at hk; cases hk
    | some rr =>
    rw [hkk] at hk
    have R0 := rel_startIO (K := K) (N := N) (m := fn.more) sF f0 r0 r (by omega)
    refine ⟨⟨fun a => if a = p then none else H a, F', F', stIO (N.length - 1), [], (d0 :: ds).map some ++ List.replicate fn.more none⟩, rr, hkk, rfl, R0, ?_⟩
    have fin : ∀ {ρ : Env} {T' : Tn} {σ' : L2.St} {H' F2 : Hp} {d : D}, Same F' F2 → Rel K ⟨fun a => if a = p then none else H a, F', F2, T', [], ρ⟩ σ' H' → pinned (.ref p) σ' → T'[0]? = some (some 1) → ρ[0]? = some (some d) → isMu d = true →
        (∀ a o, a ≠ p → H a = some o → H' a = some o) ∧ Same F' F2 ∧ Same F2 H' ∧ (∀ q, F2 q ≠ none → F' q ≠ none ∨ H q = none) ∧ RepO K F2 H' 1 (.ref p) d [p] := by
      intro ρ T' σ' H' F2 d f R' hp' t0 e2 hmu
      refine ⟨fun a o ha e => R'.sH a o (show (if a = p then none else H a) = some o by rw [if_neg ha]; exact e), f, R'.sF, ?_, ?_⟩
      · obtain ⟨ow, a1, a2, a3⟩ := R'.ow
        obtain ⟨w, e, fp, rr0, nd, hpp, _⟩ := a2 0 1 d t0 e2
        rw [hp'] at e
        have ew : V.ref p = w := by simpa using e
        subst ew
        obtain ⟨p', q1, q2⟩ := mu_inv hmu rr0
        cases q1
        subst q2
        have f2p := (a1 p 0 (hpp rfl p (by simp))).2.1
        intro q hq
        rcases R'.fr q hq with z | z
        · exact .inl z
        · have z : (if q = p then none else H q) = none := z
          by_cases hqp : q = p
          · subst hqp; exact absurd f2p hq
          · rw [if_neg hqp] at z; exact .inr z
      · obtain ⟨ow, a1, a2, a3⟩ := R'.ow
        obtain ⟨w, e, fp, rr0, nd, hpp, _⟩ := a2 0 1 d t0 e2
        rw [hp'] at e
        have ew : V.ref p = w := by simpa using e
        subst ew
        obtain ⟨p', q1, q2⟩ := mu_inv hmu rr0
        cases q1
        subst q2
        exact rr0
    have h : (match endIO (exB (L.w n) fn.body ((d0 :: ds).map some ++ List.replicate fn.more none)) with
      | .ok d => ∀ H' F2, (∀ a o, a ≠ p → H a = some o → H' a = some o) → Same F' F2 → Same F2 H' → (∀ q, F2 q ≠ none → F' q ≠ none ∨ H q = none) → RepO K F2 H' 1 (.ref p) d [p] → Q .non H'
      | .exc e => False
      | .bad => False) := h
    show AftO _ 0 _ _ rr (exB (L.w n) fn.body ((d0 :: ds).map some ++ List.replicate fn.more none)) _
    generalize exB (L.w n) fn.body ((d0 :: ds).map some ++ List.replicate fn.more none) = o at h ⊢
    cases ee : endIO o with
    | exc _ => rw [ee] at h; exact h.elim
    | bad => rw [ee] at h; exact h.elim
    | ok d =>
      rw [ee] at h
      obtain ⟨ρ, eo, e0, hmu⟩ := endIO_ok ee
      rcases eo with rfl | rfl
      · cases rr with
        | none => trivial
        | some T' =>
          intro σ' H' F2 f R' hp'
          have t0 : T'[0]? = some (some 1) := (wkT_le hk).2 0 1 rfl
          obtain ⟨b1, b2, b3, b4, b5⟩ := fin f R' hp' t0 e0 hmu
          exact h H' F2 b1 b2 b3 b4 b5
      · intro σ' H' F2 f R' hp'
        obtain ⟨b1, b2, b3, b4, b5⟩ := fin f R' hp' rfl e0 hmu
        exact h H' F2 b1 b2 b3 b4 b5
end
end PV
/-! PV18: defs keep their promise; the law's end. -/
namespace PV
open PySem PySem.Spec PyProof.Rows L2

def chk (L : St0) (fn : Fn) (N : List Str) (names : Nm) (body : List Stmt) : Bool := mB L N names fn.body body && ((kB L fn.back [] fn.body (List.replicate N.length (some 0))).isSome && decide (N.length = fn.ps + fn.more))
section
variable {L : St0} {eat : Eat} {P : Program} {w : World} {K : KW} {mg : Str → Option Value} {base : Heap} {x qual : Str} {params : Arguments} {body : List Stmt} {scope : Scope} {fa : Addr} {fd : FuncData} {N ps : List Str}
theorem rel_start {F H : Hp} {vs : List V} {ds : List D} {m : Nat} (sF : Same F H) (r : Reps K F vs ds) (hl : N.length = ds.length + m) :
    Rel K ⟨H, F, F, List.replicate N.length (some 0), [], ds.map some ++ List.replicate m none⟩ (L2.start N vs) H := by
  refine ⟨Same.refl _, sF, Same.refl _, fun p hp => .inl hp, ⟨fun _ => none, fun p k e => (by have e : (none : Option Nat) = some k := e; cases e), fun i n d e1 e2 => ?_, trivial⟩, ?_, ?_⟩
  · have e1 : (List.replicate N.length (some 0))[i]? = some (some n) := e1
    have e2 : (ds.map some ++ List.replicate m none)[i]? = some (some d) := e2
    have hn : n = 0 := by
      rw [List.getElem?_replicate] at e1
      split at e1
      · exact (Option.some.inj (Option.some.inj e1)).symm
      · cases e1
    subst hn
    have hi : i < ds.length := by
      by_cases hi : i < ds.length
      · exact hi
      · rw [List.getElem?_append_right (by simpa using hi), List.getElem?_replicate] at e2
        split at e2 <;> cases e2
    rw [List.getElem?_append_left (by simpa using hi), List.getElem?_map] at e2
    cases q : ds[i]? with
    | none => rw [q] at e2; cases e2
    | some d' =>
      rw [q] at e2
      cases e2
      obtain ⟨v, h1, h2⟩ := r.get q
      refine ⟨v, ?_, cell0 h2⟩
      unfold L2.start
      rw [List.getElem?_append_left (by rw [List.length_map, r.length]; exact hi), List.getElem?_map, h1]; rfl
  · show (L2.start N vs).length = (ds.map some ++ List.replicate m none).length
    unfold L2.start
    rw [List.length_append, List.length_append, List.length_map, List.length_map, List.length_replicate, List.length_replicate, r.length]
    omega
  · show (List.replicate N.length (some 0)).length = (ds.map some ++ List.replicate m none).length
    rw [List.length_append, List.length_map, List.length_replicate, List.length_replicate]
    exact hl
theorem body_ok {fn : Fn} {f n : Nat} (F : FunD K x qual params body scope [] [] fa fd) (Sc : FnScope N ps scope) (hps : ps.length = fn.ps) (hf : L.fns[f]? = some fn) (hio : fn.io = false) (hc : chk L fn N scope.names body = true) (G : GlobOk L eat n P K.wd K mg base) :
    FnOk P K.wd K mg base (CX P K.wd) (n + 1) fa fd ps (spF L eat K (n + 1) f fn.back) := by
  unfold chk at hc
  simp only [Bool.and_eq_true, decide_eq_true_eq] at hc
  obtain ⟨hm, hk, hN⟩ := hc
  have ec : ∀ ds, L.call (n + 1) f ds = R.need (ds.length = fn.ps) (runB (L.w n) fn.more fn.body ds) := fun ds => by
    show callF L.fns L.conD L.turns (n + 1) f ds = _
    rw [callF, hf]
    show R.need _ (if fn.io = true then _ else _) = _
    rw [if_neg (by rw [hio]; decide)]
    rfl
  have lens : ∀ vs H Q E, spF L eat K (n + 1) f fn.back vs H Q E → ∃ (F : Hp) (ds : List D), Same F H ∧ Reps K F vs ds ∧ ds.length = fn.ps ∧ (match runB (L.w n) fn.more fn.body ds with
      | .ok d => ∀ v H' F', Same H H' → Same F F' → Same F' H' → (∀ p, F' p ≠ none → F p ≠ none ∨ H p = none) → (∃ fp, RepO K F' H' fn.back v d fp ∧ fp.Nodup ∧ ∀ p ∈ fp, F' p = none ∧ H p = none) → Q v H'
      | .exc e => ∀ cls dd H', Same H H' → eat e cls dd H' → E cls dd H'
      | .bad => False) := fun vs H Q E ⟨F, ds, s, r, h⟩ => by
    by_cases hl : ds.length = fn.ps
    · refine ⟨F, ds, s, r, hl, ?_⟩
      rw [ec, R.need_ok hl] at h
      exact h
    · rw [ec] at h
      unfold R.need at h
      rw [if_neg hl] at h
      exact h.elim
  refine F.ok Sc (fun vs H Q E h => ?_) (fun cdv A outer s H vs Q E hr h => ?_)
  · obtain ⟨F', ds, s, r, hl, _⟩ := lens vs H Q E h
    rw [r.length, hl, hps]
  · have GS : GoodS ⟨L, n, K, fun cls d _ H => E cls d H, eat⟩ (cxOf (CX P K.wd) P K.wd K mg base N qual scope fa cdv A outer s H E) N scope.names :=
      { hN := rfl, nd := Sc.nd, nmk := fun _ _ e => .inl e, fn := fun _ _ => rfl, calm := rfl, tk := takes_of rfl rfl rfl rfl, room := hr, K := rfl, glob := G, hp := passes_of rfl, hk := Sc.kind }
    refine ⟨_, sndB fn.body GS fn.back [] body hm, ?_⟩
    obtain ⟨F', ds, sF, r, hl, h⟩ := lens vs H Q E h
    obtain ⟨rr, hkk⟩ := Option.isSome_iff_exists.mp hk
    refine ⟨⟨H, F', F', List.replicate N.length (some 0), [], ds.map some ++ List.replicate fn.more none⟩, rr, hkk, rfl, rel_start sF r (by rw [hN, hl]), ?_⟩
    unfold runB at h
    show AftO _ fn.back [] _ rr (exB (L.w n) fn.body (ds.map some ++ List.replicate fn.more none)) _
    cases eo : exB (L.w n) fn.body (ds.map some ++ List.replicate fn.more none) with
    | nx ρ =>
      rw [eo] at h
      cases rr with
      | none => trivial
      | some T' =>
        intro σ' H' F2 f R'
        exact h .non H' F2 R'.sH f R'.sF R'.fr ⟨[], repO_non _, List.nodup_nil, fun p hm => (nomatch hm)⟩
    | rt d =>
      rw [eo] at h
      exact fun v H' F2 a1 a2 a3 a4 a5 => h v H' F2 a2 a1 a3 a4 a5
    | exc e ρ =>
      rw [eo] at h
      exact fun cls dd σ' H' s x => h cls dd H' s x
    | bk ρ => rw [eo] at h; exact h.elim
    | ct ρ => rw [eo] at h; exact h.elim
    | bad => rw [eo] at h; exact h.elim

def chkA (L : St0) (fn : Fn) (N : List Str) (names : Nm) (body : List Stmt) : Bool := if fn.io = true then chkIO L fn N names body else chk L fn N names body
theorem body_any {fn : Fn} {f n : Nat} (F : FunD K x qual params body scope [] [] fa fd) (Sc : FnScope N ps scope) (hps : ps.length = fn.ps) (hf : L.fns[f]? = some fn) (hc : chkA L fn N scope.names body = true) (G : GlobOk L eat n P K.wd K mg base) :
    FnOk P K.wd K mg base (CX P K.wd) (n + 1) fa fd ps (spA L eat K (n + 1) f fn) := by
  unfold chkA at hc
  cases hio : fn.io with
  | true =>
    rw [spA_t hio]
    rw [if_pos hio] at hc
    exact body_io F Sc hps hf hio hc G
  | false =>
    rw [spA_f hio]
    rw [if_neg (by rw [hio]; decide)] at hc
    exact body_ok F Sc hps hf hio hc G
/-- all that a text's defs need -/
structure DefIn (L : St0) (K : KW) (mg : Str → Option Value) (fn : Fn) (x : Str) (a : Addr) (fd : FuncData) (ps : List Str) : Prop where
  mg : mg x = some (.ref a)
  ex : ∃ (N : List Str) (qual : Str) (params : Arguments) (body : List Stmt) (scope : Scope), FunD K x qual params body scope [] [] a fd ∧ FnScope N ps scope ∧ chkA L fn N scope.names body = true
  bi : Binds K fd ps []
  ps : ps.length = fn.ps
theorem spA_0 {L : St0} {eat : Eat} {K : KW} {f : Nat} {fn : Fn} {vs : List V} {H : Hp} {Q : VK} {E : XK} (h : spA L eat K 0 f fn vs H Q E) : False := by
  unfold spA at h
  split at h
  · obtain ⟨_, _, _, _, _, _, _, _, _, _, h⟩ := h
    exact h
  · obtain ⟨_, _, _, _, h⟩ := h
    exact h
theorem glob_all (hd : ∀ (f : Nat) fn x, L.fns[f]? = some fn → L.fnN[f]? = some x → ∃ a fd ps, DefIn L K mg fn x a fd ps) (con : ∀ (k : Nat) x, L.conN[k]? = some x → ∃ u v, mg x = some u ∧ RelV v u ∧ (∀ F, Rep K F v (L.conD k)) ∧ ∀ p, v = .ref p → ∃ o, K.fr.lookup p = some o ∧ o.cls = .type "tuple" ∧ o.dict = none) (blt : ∀ x ∈ bltN, mg x = none) : ∀ n, GlobOk L eat n P K.wd K mg base
  | 0 => ⟨fun f fn x h1 h2 => by
      obtain ⟨a, fd, ps, d⟩ := hd f fn x h1 h2
      obtain ⟨N, qual, params, body, scope, F, _⟩ := d.ex
      exact ⟨a, fd, ps, d.mg, F.kp, ⟨fun vs H Q E h => (spA_0 h).elim, fun _ _ _ _ _ _ _ _ _ _ _ _ _ h => (spA_0 h).elim⟩, d.bi⟩, con, blt⟩
  | n + 1 => ⟨fun f fn x h1 h2 => by
      obtain ⟨a, fd, ps, d⟩ := hd f fn x h1 h2
      obtain ⟨N, qual, params, body, scope, F, Sc, hc⟩ := d.ex
      exact ⟨a, fd, ps, d.mg, F.kp, body_any F Sc d.ps h1 hc (glob_all hd con blt n), d.bi⟩, con, blt⟩
theorem FnOk.cxTo {CX1 CX2 : CXT} {k : Nat} {f : Addr} {sp : Sp} (h : ∀ outer H s E e s', CX1 outer H s E e s' → CX2 outer H s E e s') (F : FnOk P w K mg base CX1 k f fd ps sp) : FnOk P w K mg base CX2 k f fd ps sp :=
  ⟨F.len, fun A outer s H args us vs Q E hr e0 hb hv hs => codeAny_mono (F.run A outer s H args us vs Q E hr e0 hb hv hs) fun r s' q => by
    cases r with
    | ok fl => cases fl <;> exact q
    | error e => exact h _ _ _ _ _ _ q⟩
/-- a law's exceptions: none -/
def CXL (P : Program) : CXT := fun outer H s E e s' => ∃ w, CX P w outer H s E e s'
theorem cxl_no {H : Hp} {s s' : Shared} {e : Value} (h : CXL P [] H s (fun _ _ _ => False) e s') : False := by
  obtain ⟨w, _, _, _, _, _, _, _, _, _, _, _, _, z⟩ := h
  exact z
end
end PV
/-! PV19: plain lemmas for what a body computes. -/
namespace PV
open PySem L2
@[simp] theorem w_call (L : St0) (n f : Nat) (ds : List D) : (L.w n).call f ds = L.call n f ds := Eq.trans rfl rfl
@[simp] theorem w_con (L : St0) (n k : Nat) : (L.w n).con k = L.conD k := Eq.trans rfl rfl
@[simp] theorem w_turns (L : St0) (n : Nat) : (L.w n).turns = L.turns := Eq.trans rfl rfl
theorem call_at {L : St0} {f : Nat} {fn : Fn} (h : L.fns[f]? = some fn) (n : Nat) (ds : List D) (hio : fn.io = false := by rfl) : L.call (n + 1) f ds = R.need (ds.length = fn.ps) (runB (L.w n) fn.more fn.body ds) := by
  show callF L.fns L.conD L.turns (n + 1) f ds = _
  rw [callF, h]
  show R.need _ (if fn.io = true then _ else _) = _
  rw [if_neg (by rw [hio]; decide)]; rfl
theorem call_io {L : St0} {f : Nat} {fn : Fn} (h : L.fns[f]? = some fn) (n : Nat) (ds : List D) (hio : fn.io = true := by rfl) : L.call (n + 1) f ds = R.need (ds.length = fn.ps) (runIO (L.w n) fn.more fn.body ds) := by
  show callF L.fns L.conD L.turns (n + 1) f ds = _
  rw [callF, h]
  show R.need _ (if fn.io = true then _ else _) = _
  rw [if_pos hio]; rfl
@[simp] theorem need_t {α : Type} {r : R α} : R.need True r = r := by unfold R.need; simp
theorem need_p {α : Type} {c : Prop} [Decidable c] {r : R α} (h : c) : R.need c r = r := if_pos h
@[simp] theorem slot0 (x : D) (ρ : Env) : slotD (some x :: ρ) 0 = .ok x := Eq.trans rfl rfl
@[simp] theorem slotS (x : Option D) (ρ : Env) (i : Nat) : slotD (x :: ρ) (i + 1) = slotD ρ i := Eq.trans rfl rfl
@[simp] theorem addD_i (a b : Int) : addD (.int a) (.int b) = .ok (.int (a + b)) := Eq.trans rfl rfl
@[simp] theorem addD_s (a b : List Nat) (h : a.length + b.length ≤ 16777216) : addD (.str a) (.str b) = .ok (.str (a ++ b)) := if_pos h
theorem addD_l (a b : List D) (h : a.length + b.length ≤ 16777216) : addD (.lst a) (.lst b) = .ok (.lst (a ++ b)) := if_pos h
theorem addD_t (a b : List D) (h : a.length + b.length ≤ 16777216) : addD (.tup a) (.tup b) = .ok (.tup (a ++ b)) := if_pos h
@[simp] theorem subD_i (a b : Int) : subD (.int a) (.int b) = .ok (.int (a - b)) := Eq.trans rfl rfl
@[simp] theorem mulD_i (a b : Int) (h : (-18446744073709551616 < a ∧ a < 18446744073709551616) ∨ (-18446744073709551616 < b ∧ b < 18446744073709551616)) : mulD (.int a) (.int b) = .ok (.int (a * b)) := if_pos h
@[simp] theorem mulD_s (a : List Nat) (b : Int) (h : -1000000 ≤ b ∧ b < 1000000 ∧ a.length * b.toNat ≤ 16777216) : mulD (.str a) (.int b) = .ok (.str (rep a b.toNat)) := if_pos ⟨h.1, h.2.1, h.2.2, h.2.2⟩
@[simp] theorem modD_i (a b : Int) (h : 0 < b) : modD (.int a) (.int b) = .ok (.int (a % b)) := if_pos h
@[simp] theorem fdivD_i (a b : Int) (h : 0 < b ∧ b < 1073741824) : fdivD (.int a) (.int b) = .ok (.int (a / b)) := if_pos h
@[simp] theorem binD_add : binD .Add = addD := Eq.trans rfl rfl
@[simp] theorem binD_sub : binD .Sub = subD := Eq.trans rfl rfl
@[simp] theorem binD_mul : binD .Mult = mulD := Eq.trans rfl rfl
@[simp] theorem binD_mod : binD .Mod = modD := Eq.trans rfl rfl
@[simp] theorem binD_fdiv : binD .FloorDiv = fdivD := Eq.trans rfl rfl
@[simp] theorem negD_i (a : Int) : negD (.int a) = .ok (.int (-a)) := Eq.trans rfl rfl
@[simp] theorem lt_i (a b : Int) : cmpD .Lt (.int a) (.int b) = .ok (.bl (decide (a < b))) := Eq.trans rfl rfl
@[simp] theorem le_i (a b : Int) : cmpD .LtE (.int a) (.int b) = .ok (.bl (decide (a ≤ b))) := Eq.trans rfl rfl
@[simp] theorem gt_i (a b : Int) : cmpD .Gt (.int a) (.int b) = .ok (.bl (decide (b < a))) := Eq.trans rfl rfl
@[simp] theorem ge_i (a b : Int) : cmpD .GtE (.int a) (.int b) = .ok (.bl (decide (b ≤ a))) := Eq.trans rfl rfl
theorem eqD_i (a b : Int) : eqD (.int a) (.int b) = decide (a = b) := by
  show PyData.eqv (.int a) (.int b) = _
  simp only [PyData.eqv]
  by_cases h : a = b
  · subst h; simp
  · simp [h]
@[simp] theorem eq_i (a b : Int) : cmpD .Eq (.int a) (.int b) = .ok (.bl (decide (a = b))) := by
  show R.need (shal (.int a) (.int b)) (.ok (D.bl (eqD (.int a) (.int b)))) = _
  rw [need_p ⟨.inl (Nat.zero_le _), rfl, rfl⟩, eqD_i]
@[simp] theorem ne_i (a b : Int) : cmpD .NotEq (.int a) (.int b) = .ok (.bl (!decide (a = b))) := by
  show R.need (shal (.int a) (.int b)) (.ok (D.bl (!eqD (.int a) (.int b)))) = _
  rw [need_p ⟨.inl (Nat.zero_le _), rfl, rfl⟩, eqD_i]
theorem eqD_s (a b : List Nat) : eqD (.str a) (.str b) = decide (a = b) := by
  show PyData.eqv (.str (mkS a)) (.str (mkS b)) = _
  by_cases h : a = b
  · subst h; simp [PyData.eqv]
  · have : mkS a ≠ mkS b := fun z => h (by
      have z := congrArg (fun s : Str => s.cps.toList) z
      simpa using z)
    simp [PyData.eqv, h, this]
@[simp] theorem eq_s (a b : List Nat) : cmpD .Eq (.str a) (.str b) = .ok (.bl (decide (a = b))) := by
  show R.need (shal (.str a) (.str b)) (.ok (D.bl (eqD (.str a) (.str b)))) = _
  rw [need_p ⟨.inl (Nat.zero_le _), rfl, rfl⟩, eqD_s]
@[simp] theorem ne_s (a b : List Nat) : cmpD .NotEq (.str a) (.str b) = .ok (.bl (!decide (a = b))) := by
  show R.need (shal (.str a) (.str b)) (.ok (D.bl (!eqD (.str a) (.str b)))) = _
  rw [need_p ⟨.inl (Nat.zero_le _), rfl, rfl⟩, eqD_s]
theorem eqD_t (a b : List D) : eqD (.tup a) (.tup b) = PyData.eqvAll (toPys a) (toPys b) := by
  show PyData.eqv (.tuple (toPys a)) (.tuple (toPys b)) = _
  simp [PyData.eqv]
theorem eqD_l (a b : List D) : eqD (.lst a) (.lst b) = PyData.eqvAll (toPys a) (toPys b) := by
  show PyData.eqv (.list (toPys a)) (.list (toPys b)) = _
  simp [PyData.eqv]
@[simp] theorem bnot_b (b : Bool) : bnot (.ok (.bl b)) = .ok (.bl (!b)) := Eq.trans rfl rfl
@[simp] theorem asB_b (b : Bool) : asB (.ok (.bl b)) = .ok (.bl b) := Eq.trans rfl rfl
@[simp] theorem len_s (a : List Nat) : bnD .len [.str a] = .ok (.int a.length) := Eq.trans rfl rfl
@[simp] theorem len_l (a : List D) : bnD .len [.lst a] = .ok (.int a.length) := Eq.trans rfl rfl
@[simp] theorem len_t (a : List D) : bnD .len [.tup a] = .ok (.int a.length) := Eq.trans rfl rfl
@[simp] theorem len_scr (a : List Int) : bnD .len [.scr a] = .ok (.int a.length) := Eq.trans rfl rfl
@[simp] theorem min_i (a b : Int) : bnD .min [.int a, .int b] = .ok (.int (min a b)) := by
  show R.ok (D.int (if b < a then b else a)) = _
  congr 2
  split <;> omega
@[simp] theorem max_i (a b : Int) : bnD .max [.int a, .int b] = .ok (.int (max a b)) := by
  show R.ok (D.int (if b > a then b else a)) = _
  congr 2
  split <;> omega
theorem ix_s {s : List Nat} {i : Int} {c : Nat} (h0 : 0 ≤ i) (h : s[i.toNat]? = some c) : ixD (.str s) (.int i) = .ok (.str [c]) := by
  have e := atI_nat h
  rw [Int.toNat_of_nonneg h0] at e
  show (match atI s i with | some c => R.ok (D.str [c]) | none => .bad) = _
  rw [e]
theorem ix_l {s : List D} {i : Int} {c : D} (h0 : 0 ≤ i) (h : s[i.toNat]? = some c) : ixD (.lst s) (.int i) = .ok c := by
  have e := atI_nat h
  rw [Int.toNat_of_nonneg h0] at e
  show (match atI s i with | some c => R.ok c | none => .bad) = _
  rw [e]
theorem ix_t {s : List D} {i : Int} {c : D} (h0 : 0 ≤ i) (h : s[i.toNat]? = some c) : ixD (.tup s) (.int i) = .ok c := by
  have e := atI_nat h
  rw [Int.toNat_of_nonneg h0] at e
  show (match atI s i with | some c => R.ok c | none => .bad) = _
  rw [e]
theorem ix_scr {s : List Int} {i : Int} {c : Int} (h0 : 0 ≤ i) (h : s[i.toNat]? = some c) : ixD (.scr s) (.int i) = .ok (.int c) := by
  have e := atI_nat h
  rw [Int.toNat_of_nonneg h0] at e
  show (match atI s i with | some c => R.ok (D.int c) | none => .bad) = _
  rw [e]
theorem cut_from {α : Type} (s : List α) (i : Nat) (h : i ≤ s.length) : cut s (some (i : Int)) none = s.drop i := by
  unfold cut
  have e1 : HT.sIx s.length 0 (some (i : Int)) = i := by
    unfold HT.sIx
    simp only [Int.toNat_natCast]
    rw [if_neg (by omega)]
    omega
  have e2 : HT.sIx s.length s.length none = s.length := rfl
  rw [e1, e2]
  rw [List.take_of_length_le]
  simp
theorem cut_to {α : Type} (s : List α) (i : Nat) : cut s none (some (i : Int)) = s.take i := by
  unfold cut
  have e1 : HT.sIx s.length 0 none = 0 := rfl
  have e2 : HT.sIx s.length s.length (some (i : Int)) = min i s.length := by
    unfold HT.sIx
    simp only [Int.toNat_natCast]
    rw [if_neg (by omega)]
  rw [e1, e2]
  simp [List.take_eq_take_iff]
theorem cut_toI {α : Type} (s : List α) (i : Int) (h : 0 ≤ i) : cut s none (some i) = s.take i.toNat := by
  obtain ⟨n, rfl⟩ := Int.eq_ofNat_of_zero_le h
  exact cut_to s n
theorem cut_fromI {α : Type} (s : List α) (i : Int) (h : 0 ≤ i ∧ i ≤ s.length) : cut s (some i) none = s.drop i.toNat := by
  obtain ⟨n, rfl⟩ := Int.eq_ofNat_of_zero_le h.1
  exact cut_from s n (by omega)
@[simp] theorem part_n (d : D) : part true d = .ok none := Eq.trans rfl rfl
@[simp] theorem part_i (i : Int) : part false (.int i) = .ok (some i) := Eq.trans rfl rfl
theorem lcGo_all {turn : D → R (Option D)} {P : D → Prop} : ∀ {ds acc : List D}, (∀ d ∈ ds, ∃ x, turn d = .ok (some x) ∧ P x) → acc.length + ds.length ≤ 16777216 → ∃ xs, lcGo turn ds acc = .ok (acc ++ xs) ∧ xs.length = ds.length ∧ ∀ x ∈ xs, P x
  | [], acc, _, _ => ⟨[], by simp [lcGo], rfl, by simp⟩
  | d :: ds, acc, h, hl => by
    obtain ⟨x, e, px⟩ := h d List.mem_cons_self
    have hl : acc.length + (ds.length + 1) ≤ 16777216 := hl
    obtain ⟨xs, e2, l2, p2⟩ := lcGo_all (acc := acc ++ [x]) (fun d hd => h d (List.mem_cons_of_mem _ hd)) (by rw [List.length_append, List.length_singleton]; omega)
    refine ⟨x :: xs, ?_, by simp [l2], fun y hy => ?_⟩
    · unfold lcGo
      rw [e]
      show R.need (acc.length < LIM) (lcGo turn ds (acc ++ [x])) = _
      rw [need_p (by show acc.length < 16777216; omega), e2]
      simp
    · rcases List.mem_cons.mp hy with rfl | hy
      · exact px
      · exact p2 y hy
theorem lcGo_map {turn : D → R (Option D)} {f : D → D} : ∀ {ds acc : List D}, (∀ d ∈ ds, turn d = .ok (some (f d))) → acc.length + ds.length ≤ 16777216 → lcGo turn ds acc = .ok (acc ++ ds.map f)
  | [], acc, _, _ => by simp [lcGo]
  | d :: ds, acc, h, hl => by
    have hl : acc.length + (ds.length + 1) ≤ 16777216 := hl
    unfold lcGo
    rw [h d List.mem_cons_self]
    show R.need (acc.length < LIM) (lcGo turn ds (acc ++ [f d])) = _
    rw [need_p (by show acc.length < 16777216; omega), lcGo_map (fun d hd => h d (List.mem_cons_of_mem _ hd)) (by rw [List.length_append, List.length_singleton]; omega)]
    simp
theorem rng_len (a b : Int) : (rngD a b).length = (b - a).toNat := by simp [rngD]
theorem rng_mem {a b : Int} {d : D} (h : d ∈ rngD a b) : ∃ i : Int, d = .int i ∧ a ≤ i ∧ i < b := by
  unfold rngD at h
  obtain ⟨k, hk, e⟩ := List.mem_map.mp h
  have hk := List.mem_range.mp hk
  exact ⟨_, e.symm, by omega, by omega⟩
theorem rng_get {a b : Int} {i : Nat} (h : i < (b - a).toNat) : (rngD a b)[i]? = some (.int (a + i)) := by
  simp [rngD, h]
/-- a loop's invariant by the turn; no turn leaves it -/
theorem forGo_inv {tg : Tg} {body : Env → O} (Iv : Nat → Env → Prop) : ∀ (ds : List D) (i : Nat) (ρ : Env), Iv i ρ → (∀ j d ρ, ds[j]? = some d → Iv (i + j) ρ → ∃ ρ' ρ'', giveT tg d ρ = .ok ρ' ∧ (body ρ' = .nx ρ'' ∨ body ρ' = .ct ρ'') ∧ Iv (i + j + 1) ρ'') → ∃ ρ', forGo tg body ds ρ = .nx ρ' ∧ Iv (i + ds.length) ρ'
  | [], i, ρ, h, _ => ⟨ρ, rfl, h⟩
  | d :: ds, i, ρ, h, hs => by
    obtain ⟨ρ', ρ'', e1, e2, h2⟩ := hs 0 d ρ rfl h
    obtain ⟨ρ3, e3, h3⟩ := forGo_inv Iv ds (i + 1) ρ'' (by simpa using h2) (fun j d' ρ hj hI => by
      have z := hs (j + 1) d' ρ (by simpa using hj) (by rw [show i + (j + 1) = i + 1 + j by omega]; exact hI)
      rw [show i + (j + 1) + 1 = i + 1 + j + 1 by omega] at z
      exact z)
    refine ⟨ρ3, ?_, by rw [show i + (d :: ds).length = i + 1 + ds.length by simp; omega]; exact h3⟩
    unfold forGo
    rw [e1]
    rcases e2 with e2 | e2 <;> simp only [e2, e3]
theorem whlGo_ok {test : Env → R D} {body : Env → O} (Iv : Nat → Env → Prop) : ∀ (n m : Nat) (ρ : Env), m < n → Iv m ρ → (∀ m ρ, Iv m ρ → (test ρ = .ok (.bl false) ∧ Iv 0 ρ) ∨ (test ρ = .ok (.bl true) ∧ ∃ ρ' m', (body ρ = .nx ρ' ∨ body ρ = .ct ρ') ∧ m' < m ∧ Iv m' ρ')) → ∃ ρ', whlGo test body n ρ = .nx ρ' ∧ Iv 0 ρ' ∧ test ρ' = .ok (.bl false)
  | 0, m, ρ, hm, _, _ => absurd hm (by omega)
  | n + 1, m, ρ, hm, h, hs => by
    rcases hs m ρ h with ⟨e, h0⟩ | ⟨e, ρ', m', e2, hl, h2⟩
    · exact ⟨ρ, by unfold whlGo; rw [e]; rfl, h0, e⟩
    · obtain ⟨ρ3, e3, h3⟩ := whlGo_ok Iv n m' ρ' (by omega) h2 hs
      refine ⟨ρ3, ?_, h3⟩
      unfold whlGo
      rw [e]
      show (match body ρ with | .nx ρ' => whlGo test body n ρ' | .ct ρ' => whlGo test body n ρ' | .bk ρ' => .nx ρ' | o => o) = _
      rcases e2 with e2 | e2 <;> simp only [e2, e3]

section
variable (w : Wld) (ρ : Env)
@[simp] theorem ev_sl (i : Nat) : evE w (.sl i) ρ = slotD ρ i := Eq.trans rfl rfl
@[simp] theorem ev_mv (i : Nat) : evE w (.mv i) ρ = slotD ρ i := Eq.trans rfl rfl
@[simp] theorem ev_cI (i : Int) : evE w (.cI i) ρ = .ok (.int i) := Eq.trans rfl rfl
@[simp] theorem ev_cS (i : List Nat) : evE w (.cS i) ρ = .ok (.str i) := Eq.trans rfl rfl
@[simp] theorem ev_cB (i : Bool) : evE w (.cB i) ρ = .ok (.bl i) := Eq.trans rfl rfl
@[simp] theorem ev_cN : evE w .cN ρ = .ok .non := Eq.trans rfl rfl
@[simp] theorem ev_gl (k : Nat) : evE w (.gl k) ρ = .ok (w.con k) := Eq.trans rfl rfl
@[simp] theorem ev_bin (op : Operator) (a b : CE) : evE w (.bin op a b) ρ = (evE w a ρ).bind fun x => (evE w b ρ).bind fun y => binD op x y := Eq.trans rfl rfl
@[simp] theorem ev_neg (a : CE) : evE w (.neg a) ρ = (evE w a ρ).bind negD := Eq.trans rfl rfl
@[simp] theorem ev_not (a : CE) : evE w (.not a) ρ = bnot (evE w a ρ) := Eq.trans rfl rfl
@[simp] theorem ev_cmp (op : CmpOp) (a b : CE) : evE w (.cmp op a b) ρ = (evE w a ρ).bind fun x => (evE w b ρ).bind fun y => cmpD op x y := Eq.trans rfl rfl
def thenB (d : D) (a b : R D) : R D := match d with
  | .bl true => a
  | .bl false => b
  | _ => .bad
@[simp] theorem thenB_t (a b : R D) : thenB (.bl true) a b = a := Eq.trans rfl rfl
@[simp] theorem thenB_f (a b : R D) : thenB (.bl false) a b = b := Eq.trans rfl rfl
theorem thenB_b (c : Bool) (a b : R D) : thenB (.bl c) a b = if c = true then a else b := by cases c <;> rfl
@[simp] theorem thenB_d (c : Prop) [Decidable c] (a b : R D) : thenB (.bl (decide c)) a b = if c then a else b := by
  by_cases h : c <;> simp [h]
@[simp] theorem thenB_n (c : Prop) [Decidable c] (a b : R D) : thenB (.bl (!decide c)) a b = if c then b else a := by
  by_cases h : c <;> simp [h]
@[simp] theorem ev_and (a b : CE) : evE w (.and a b) ρ = (evE w a ρ).bind fun x => thenB x (asB (evE w b ρ)) (.ok (.bl false)) := Eq.trans rfl rfl
@[simp] theorem ev_or (a b : CE) : evE w (.or a b) ρ = (evE w a ρ).bind fun x => thenB x (.ok (.bl true)) (asB (evE w b ρ)) := Eq.trans rfl rfl
@[simp] theorem ev_one (a : CE) : evE w (.one a) ρ = asB (evE w a ρ) := Eq.trans rfl rfl
@[simp] theorem ev_ite (c a b : CE) : evE w (.ite c a b) ρ = (evE w c ρ).bind fun x => thenB x (evE w a ρ) (evE w b ρ) := Eq.trans rfl rfl
@[simp] theorem ev_cmp2 (o1 o2 : CmpOp) (a b c : CE) : evE w (.cmp2 o1 o2 a b c) ρ = (evE w a ρ).bind fun x => (evE w b ρ).bind fun y => (cmpD o1 x y).bind fun z => thenB z ((evE w c ρ).bind fun u => cmpD o2 y u) (.ok (.bl false)) := Eq.trans rfl rfl
def tupR (ds : List D) : R D := .need (ds.length ≤ LIM) (.ok (.tup ds))
def lstR (ds : List D) : R D := .need (ds.length ≤ LIM) (.ok (.lst ds))
@[simp] theorem tupR_ok {ds : List D} (h : ds.length ≤ 16777216) : tupR ds = .ok (.tup ds) := if_pos h
@[simp] theorem lstR_ok {ds : List D} (h : ds.length ≤ 16777216) : lstR ds = .ok (.lst ds) := if_pos h
@[simp] theorem ev_tup (xs : CL) : evE w (.tup xs) ρ = (evL w xs ρ).bind tupR := Eq.trans rfl rfl
@[simp] theorem ev_lst (xs : CL) : evE w (.lst xs) ρ = (evL w xs ρ).bind lstR := Eq.trans rfl rfl
@[simp] theorem ev_lrev (a : CE) : evE w (.lrev a) ρ = (evE w a ρ).bind lrevD := rfl
@[simp] theorem ev_sset (a : CE) : evE w (.sset a) ρ = (evE w a ρ).bind ssetD := rfl
@[simp] theorem ev_gidx (k : Nat) (a : CE) : evE w (.gidx k a) ρ = (evE w a ρ).bind fun y => mtD .tindex (w.con k) [y] := rfl
@[simp] theorem ev_pick (kvs : List (List Nat × List (List Nat))) (a : CE) : evE w (.pick kvs a) ρ = (evE w a ρ).bind (pickD kvs) := rfl
@[simp] theorem lrev_l (xs : List D) : lrevD (.lst xs) = .ok (.lst xs.reverse) := rfl
@[simp] theorem ev_zip (a b : CE) : evI w (.zip a b) ρ = (evE w a ρ).bind fun x => (evE w b ρ).bind fun y => zipD x y := rfl
@[simp] theorem ev_rev (a : CE) : evI w (.rev a) ρ = (evE w a ρ).bind revD := rfl
@[simp] theorem zip_l (xs ys : List D) : zipD (.lst xs) (.lst ys) = .ok (List.zipWith (fun a b => D.tup [a, b]) xs ys) := rfl
@[simp] theorem zip_t (xs ys : List D) : zipD (.tup xs) (.tup ys) = .ok (List.zipWith (fun a b => D.tup [a, b]) xs ys) := rfl
@[simp] theorem rev_l (xs : List D) : revD (.lst xs) = .ok xs.reverse := rfl
@[simp] theorem rev_t (xs : List D) : revD (.tup xs) = .ok xs.reverse := rfl
@[simp] theorem ev_ix (a i : CE) : evE w (.ix a i) ρ = (evE w a ρ).bind fun x => (evE w i ρ).bind fun y => ixD x y := Eq.trans rfl rfl
@[simp] theorem ev_ixb (a i : CE) : evE w (.ixb a i) ρ = (evE w a ρ).bind fun x => (evE w i ρ).bind fun y => ixbD x y := Eq.trans rfl rfl
@[simp] theorem ev_dnew : evE w .dnew ρ = .ok (.dic [] []) := Eq.trans rfl rfl
@[simp] theorem ev_dgt (o : CE) (xs : CL) : evE w (.dgt o xs) ρ = (evE w o ρ).bind fun d => .need (isDic d = true) ((evL w xs ρ).bind fun ds => dgtD d ds) := Eq.trans rfl rfl
@[simp] theorem ev_cut (a l h : CE) : evE w (.cut a l h) ρ = (evE w a ρ).bind fun x => ((evE w l ρ).bind (part l.isN)).bind fun lo => ((evE w h ρ).bind (part h.isN)).bind fun hi => cutD x lo hi := Eq.trans rfl rfl
@[simp] theorem ev_call (b : Bool) (f : Nat) (xs : CL) : evE w (.call b f xs) ρ = (evL w xs ρ).bind fun ds => (w.call f ds).bind fun d => .need (b = true → sc d = true) (.ok d) := Eq.trans rfl rfl
@[simp] theorem ev_callo (f : Nat) (xs : CL) : evE w (.callo f xs) ρ = (evL w xs ρ).bind fun ds => (w.call f ds).bind fun d => .need (sc1 d = true) (.ok d) := Eq.trans rfl rfl
@[simp] theorem ev_bn (b : Bn) (xs : CL) : evE w (.bn b xs) ρ = (evL w xs ρ).bind fun ds => bnD b ds := Eq.trans rfl rfl
@[simp] theorem ev_mt (m : Mt) (o : CE) (xs : CL) : evE w (.mt m o xs) ρ = (evE w o ρ).bind fun d => .need (m.rcv d = true) ((evL w xs ρ).bind fun ds => mtD m d ds) := Eq.trans rfl rfl
@[simp] theorem ev_lcc (own : List Nat) (tg : Tg) (it : CI) (ifs : CL) (elt : CE) : evE w (.lc own tg it ifs elt) ρ = (evI w it ρ).bind fun ds => (lcGo (lcT w own tg ifs elt ρ) ds []).bind fun xs => .ok (.lst xs) := ev_lc w own tg it ifs elt ρ
@[simp] theorem ev_nil : evL w .nil ρ = .ok [] := Eq.trans rfl rfl
@[simp] theorem ev_cons (e : CE) (r : CL) : evL w (.cons e r) ρ = (evE w e ρ).bind fun d => (evL w r ρ).bind fun ds => .ok (d :: ds) := Eq.trans rfl rfl
@[simp] theorem ev_seq (e : CE) : evI w (.seq e) ρ = (evE w e ρ).bind seqD := Eq.trans rfl rfl
def toI (d : D) (f : Int → R (List D)) : R (List D) := match d with
  | .int i => f i
  | _ => .bad
@[simp] theorem toI_i (i : Int) (f : Int → R (List D)) : toI (.int i) f = f i := Eq.trans rfl rfl
def rngR (a b : Int) : R (List D) := .need (smallR b) (.ok (rngD a b))
def rngR2 (a b : Int) : R (List D) := .need (smallR a ∧ smallR b) (.ok (rngD a b))
@[simp] theorem rngR_ok {a b : Int} (h : -4611686018427387904 ≤ b ∧ b < 4611686018427387904) : rngR a b = .ok (rngD a b) := if_pos h
@[simp] theorem rngR2_ok {a b : Int} (h : (-4611686018427387904 ≤ a ∧ a < 4611686018427387904) ∧ (-4611686018427387904 ≤ b ∧ b < 4611686018427387904)) : rngR2 a b = .ok (rngD a b) := if_pos h
@[simp] theorem ev_rng1 (a : CE) : evI w (.rng1 a) ρ = (evE w a ρ).bind fun x => toI x (rngR 0) := Eq.trans rfl rfl
@[simp] theorem ev_rng2 (a b : CE) : evI w (.rng2 a b) ρ = (evE w a ρ).bind fun x => (evE w b ρ).bind fun y => toI x fun a => toI y fun b => rngR2 a b := by
  show ((evE w a ρ).bind fun x => (evE w b ρ).bind fun y => match x, y with
    | .int a, .int b => .need (smallR a ∧ smallR b) (.ok (rngD a b))
    | _, _ => .bad) = _
  cases evE w a ρ with
  | ok x =>
    cases evE w b ρ with
    | ok y => cases x <;> cases y <;> rfl
    | exc _ => rfl
    | bad => rfl
  | exc _ => rfl
  | bad => rfl
@[simp] theorem seq_l (xs : List D) : seqD (.lst xs) = .ok xs := Eq.trans rfl rfl
@[simp] theorem seq_t (xs : List D) : seqD (.tup xs) = .ok xs := Eq.trans rfl rfl
@[simp] theorem seq_s (s : List Nat) : seqD (.str s) = .ok (s.map fun c => D.str [c]) := Eq.trans rfl rfl
@[simp] theorem cut_l (xs : List D) (a b : Option Int) : cutD (.lst xs) a b = .ok (.lst (cut xs a b)) := Eq.trans rfl rfl
@[simp] theorem cut_t (xs : List D) (a b : Option Int) : cutD (.tup xs) a b = .ok (.tup (cut xs a b)) := Eq.trans rfl rfl
@[simp] theorem cut_s (xs : List Nat) (a b : Option Int) : cutD (.str xs) a b = .ok (.str (cut xs a b)) := Eq.trans rfl rfl
@[simp] theorem isN_sl (i : Nat) : CE.isN (.sl i) = false := rfl
@[simp] theorem isN_cI (i : Int) : CE.isN (.cI i) = false := rfl
@[simp] theorem isN_bin (o : Operator) (a b : CE) : CE.isN (.bin o a b) = false := rfl
@[simp] theorem isN_call (o : Bool) (a : Nat) (b : CL) : CE.isN (.call o a b) = false := rfl
@[simp] theorem isN_bn (a : Bn) (b : CL) : CE.isN (.bn a b) = false := rfl
@[simp] theorem isN_ix (a b : CE) : CE.isN (.ix a b) = false := rfl
@[simp] theorem isN_N : CE.isN .cN = true := Eq.trans rfl rfl
theorem isN_of {c : CE} (h : c ≠ .cN) : c.isN = false := by cases c <;> first | rfl | exact absurd rfl h
@[simp] theorem out_ok (d : D) (f : D → O) : (R.ok d).out ρ f = f d := Eq.trans rfl rfl
@[simp] theorem outL_ok (d : List D) (f : List D → O) : (R.ok d).out ρ f = f d := Eq.trans rfl rfl
@[simp] theorem give_one (i : Nat) (d : D) : giveT (.one i) d ρ = .need (i < ρ.length) (.ok (ρ.set i (some d))) := Eq.trans rfl rfl
@[simp] theorem give_nil : giveT .nil (.tup []) ρ = .ok ρ := Eq.trans rfl rfl
@[simp] theorem give_cons (t r : Tg) (d : D) (ds : List D) : giveT (.cons t r) (.tup (d :: ds)) ρ = (giveT t d ρ).bind fun ρ' => giveT r (.tup ds) ρ' := Eq.trans rfl rfl
@[simp] theorem ex_asg (i t : Nat) (e : CE) : exS w (.asg i t e) ρ = (evE w e ρ).out ρ fun d => if i < ρ.length then .nx (ρ.set i (some d)) else .bad := Eq.trans rfl rfl
def giveO (r : R Env) : O := match r with
  | .ok ρ' => .nx ρ'
  | _ => .bad
@[simp] theorem giveO_ok (ρ : Env) : giveO (.ok ρ) = .nx ρ := Eq.trans rfl rfl
@[simp] theorem ex_unp (tg : Tg) (e : CE) : exS w (.unp tg e) ρ = (evE w e ρ).out ρ fun d => giveO (giveT tg d ρ) := Eq.trans rfl rfl
@[simp] theorem ex_par (i j : Nat) (a b : CE) : exS w (.par i j a b) ρ = (evE w a ρ).out ρ fun x => (evE w b ρ).out ρ fun y => if i < ρ.length ∧ j < ρ.length then .nx ((ρ.set i (some x)).set j (some y)) else .bad := Eq.trans rfl rfl
@[simp] theorem ex_ret (e : CE) : exS w (.ret e) ρ = (evE w e ρ).out ρ .rt := Eq.trans rfl rfl
@[simp] theorem ex_retN : exS w .retN ρ = .rt .non := Eq.trans rfl rfl
@[simp] theorem ex_exp (e : CE) : exS w (.exp e) ρ = (evE w e ρ).out ρ fun _ => .nx ρ := Eq.trans rfl rfl
def thenO (d : D) (a b : O) : O := match d with
  | .bl true => a
  | .bl false => b
  | _ => .bad
@[simp] theorem thenO_t (a b : O) : thenO (.bl true) a b = a := Eq.trans rfl rfl
@[simp] theorem thenO_f (a b : O) : thenO (.bl false) a b = b := Eq.trans rfl rfl
@[simp] theorem thenO_d (c : Prop) [Decidable c] (a b : O) : thenO (.bl (decide c)) a b = if c then a else b := by
  by_cases h : c <;> simp [h]
@[simp] theorem thenO_n (c : Prop) [Decidable c] (a b : O) : thenO (.bl (!decide c)) a b = if c then b else a := by
  by_cases h : c <;> simp [h]
@[simp] theorem ex_ifs (c : CE) (a b : CB) : exS w (.ifs c a b) ρ = (evE w c ρ).out ρ fun x => thenO x (exB w a ρ) (exB w b ρ) := Eq.trans rfl rfl
@[simp] theorem ex_whl (c : CE) (b : CB) : exS w (.whl c b) ρ = whlGo (evE w c) (exB w b) w.turns ρ := Eq.trans rfl rfl
@[simp] theorem ex_for (tg : Tg) (it : CI) (b : CB) : exS w (.forr tg it b) ρ = (evI w it ρ).out ρ fun ds => forGo tg (exB w b) ds ρ := Eq.trans rfl rfl
@[simp] theorem ex_brk : exS w .brk ρ = .bk ρ := Eq.trans rfl rfl
@[simp] theorem ex_cont : exS w .cont ρ = .ct ρ := Eq.trans rfl rfl
@[simp] theorem ex_bad : exS w .bad ρ = .bad := Eq.trans rfl rfl
@[simp] theorem ex_pass : exS w .pass ρ = .nx ρ := Eq.trans rfl rfl
@[simp] theorem ex_fz (i : Nat) : exS w (.fz i) ρ = .nx ρ := Eq.trans rfl rfl
@[simp] theorem ex_dr (i : Nat) : exS w (.dr i) ρ = .nx ρ := Eq.trans rfl rfl
@[simp] theorem ex_nil : exB w .nil ρ = .nx ρ := Eq.trans rfl rfl
def thenX (o : O) (f : Env → O) : O := match o with
  | .nx ρ => f ρ
  | o => o
@[simp] theorem thenX_nx (f : Env → O) : thenX (.nx ρ) f = f ρ := Eq.trans rfl rfl
@[simp] theorem thenX_rt (d : D) (f : Env → O) : thenX (.rt d) f = .rt d := Eq.trans rfl rfl
@[simp] theorem thenX_bk (f : Env → O) : thenX (.bk ρ) f = .bk ρ := Eq.trans rfl rfl
@[simp] theorem thenX_ct (f : Env → O) : thenX (.ct ρ) f = .ct ρ := Eq.trans rfl rfl
theorem thenX_if (c : Prop) [Decidable c] (a b : O) (f : Env → O) : thenX (if c then a else b) f = if c then thenX a f else thenX b f := by
  by_cases h : c <;> simp [h]
@[simp] theorem ex_cons (s : CS) (r : CB) : exB w (.cons s r) ρ = thenX (exS w s ρ) (exB w r) := Eq.trans rfl rfl
def endR (o : O) : R D := match o with
  | .rt d => .ok d
  | .nx _ => .ok .non
  | .exc e _ => .exc e
  | _ => .bad
@[simp] theorem endR_rt (d : D) : endR (.rt d) = .ok d := Eq.trans rfl rfl
@[simp] theorem endR_nx : endR (.nx ρ) = .ok .non := Eq.trans rfl rfl
theorem endR_if (c : Prop) [Decidable c] (a b : O) : endR (if c then a else b) = if c then endR a else endR b := by
  by_cases h : c <;> simp [h]
theorem run_eq (n : Nat) (b : CB) (ds : List D) : runB w n b ds = endR (exB w b (ds.map some ++ List.replicate n none)) := rfl
end
section
variable {w : Wld} {s : CS} {r : CB} {ρ ρ1 : Env} {P : O → Prop} {d : D}
theorem stepP (h : exS w s ρ = .nx ρ1) (k : P (exB w r ρ1)) : P (exB w (.cons s r) ρ) := by
  rw [ex_cons, h, thenX_nx]; exact k
theorem endP (h : exS w s ρ = .rt d) (k : P (.rt d)) : P (exB w (.cons s r) ρ) := by
  rw [ex_cons, h, thenX_rt]; exact k
end

/-! ### rows of whole numbers, from the end -/
abbrev tupI (l : List Int) : D := .tup (l.map D.int)
theorem eqvAll_ints : ∀ a b : List Int, PyData.eqvAll (toPys (a.map D.int)) (toPys (b.map D.int)) = decide (a = b)
  | [], [] => by simp [toPys, PyData.eqvAll]
  | [], _ :: _ => by simp [toPys, PyData.eqvAll]
  | _ :: _, [] => by simp [toPys, PyData.eqvAll]
  | x :: a, y :: b => by
    have h := eqD_i x y
    unfold eqD at h
    simp only [List.map_cons, toPys, PyData.eqvAll, eqvAll_ints a b, h]
    by_cases h1 : x = y <;> by_cases h2 : a = b <;> simp [h1, h2]
theorem eqD_tupI (a b : List Int) : eqD (tupI a) (tupI b) = decide (a = b) := by rw [eqD_t, eqvAll_ints]
theorem deps_ints : ∀ l : List Int, deps (l.map D.int) = 0
  | [] => rfl
  | x :: l => by simp [deps, dep, deps_ints l]
theorem dep_tupI (l : List Int) : dep (tupI l) = 1 := by simp [dep, deps_ints]
theorem nd_ints : ∀ l : List Int, noDics (l.map D.int) = true
  | [] => rfl
  | x :: l => by simp [noDics, noDic, nd_ints l]
theorem nd_tupI (l : List Int) : noDic (tupI l) = true := nd_ints l
@[simp] theorem eq_tI (a b : List Int) : cmpD .Eq (tupI a) (tupI b) = .ok (.bl (decide (a = b))) := by
  show R.need (shal (tupI a) (tupI b)) (.ok (D.bl (eqD (tupI a) (tupI b)))) = _
  rw [need_p ⟨.inl (by rw [dep_tupI]; decide), nd_tupI a, nd_tupI b⟩, eqD_tupI]
@[simp] theorem ne_tI (a b : List Int) : cmpD .NotEq (tupI a) (tupI b) = .ok (.bl (!decide (a = b))) := by
  show R.need (shal (tupI a) (tupI b)) (.ok (D.bl (!eqD (tupI a) (tupI b)))) = _
  rw [need_p ⟨.inl (by rw [dep_tupI]; decide), nd_tupI a, nd_tupI b⟩, eqD_tupI]
theorem eqvI_refl : ∀ l : List Int, PyData.eqvAll (l.map PyData.int) (l.map PyData.int) = true
  | [] => by simp [PyData.eqvAll]
  | x :: l => by
    have h := eqD_i x x
    unfold eqD at h
    simp only [toPy] at h
    simp [PyData.eqvAll, h, eqvI_refl l]
mutual
theorem eqv_refl : ∀ d : D, noDic d = true → PyData.eqv (toPy d) (toPy d) = true
  | .non, _ => by simp [toPy, PyData.eqv]
  | .bl b, _ => by simp [toPy, PyData.eqv]
  | .int i, _ => by
    have h := eqD_i i i
    unfold eqD at h
    simpa using h
  | .str s, _ => by
    have h := eqD_s s s
    unfold eqD at h
    simpa using h
  | .tup xs, h => by simp only [toPy, PyData.eqv]; exact eqvs_refl xs h
  | .lst xs, h => by simp only [toPy, PyData.eqv]; exact eqvs_refl xs h
  | .scr ns, _ => by simp only [toPy, PyData.eqv]; exact eqvI_refl ns
  | .dic _ _, h => by cases h
  | .frz _, h => by cases h
  | .err _ _, h => by cases h
  | .obj _ _, h => by cases h
theorem eqvs_refl : ∀ ds : List D, noDics ds = true → PyData.eqvAll (toPys ds) (toPys ds) = true
  | [], _ => by simp [toPys, PyData.eqvAll]
  | d :: ds, h => by
    simp only [noDics, Bool.and_eq_true] at h
    simp only [toPys, PyData.eqvAll, eqv_refl d h.1, eqvs_refl ds h.2, Bool.and_self]
end
theorem ne_self {d : D} (h : noDic d = true) (hd : dep d ≤ 64) : cmpD .NotEq d d = .ok (.bl false) := by
  show R.need (shal d d) (.ok (D.bl (!eqD d d))) = _
  rw [need_p ⟨.inl hd, h, h⟩]
  unfold eqD
  rw [eqv_refl d h]
  rfl
theorem eq_self {d : D} (h : noDic d = true) (hd : dep d ≤ 64) : cmpD .Eq d d = .ok (.bl true) := by
  show R.need (shal d d) (.ok (D.bl (eqD d d))) = _
  rw [need_p ⟨.inl hd, h, h⟩]
  unfold eqD
  rw [eqv_refl d h]
theorem cut_init {α : Type} (xs : List α) : cut xs none (some (-1)) = xs.dropLast := by
  unfold cut
  have e1 : HT.sIx xs.length 0 none = 0 := rfl
  have e2 : HT.sIx xs.length xs.length (some (-1)) = xs.length - 1 := by
    show (if (-1 : Int) < 0 then ((-1 : Int) + (xs.length : Int)).toNat else min (-1 : Int).toNat xs.length) = xs.length - 1
    rw [if_pos (by decide)]
    omega
  rw [e1, e2, List.dropLast_eq_take]
  simp
theorem cut_end {α : Type} (xs : List α) : cut xs (some (-1)) none = xs.drop (xs.length - 1) := by
  unfold cut
  have e1 : HT.sIx xs.length 0 (some (-1)) = xs.length - 1 := by
    show (if (-1 : Int) < 0 then ((-1 : Int) + (xs.length : Int)).toNat else min (-1 : Int).toNat xs.length) = xs.length - 1
    rw [if_pos (by decide)]
    omega
  have e2 : HT.sIx xs.length xs.length none = xs.length := rfl
  rw [e1, e2, List.take_of_length_le]
  simp
theorem atI_m1 {α : Type} {xs : List α} {v : α} (h : xs.getLast? = some v) : atI xs (-1) = some v := by
  cases xs with
  | nil => simp at h
  | cons a l =>
    unfold atI ixN
    rw [if_neg (by decide), if_pos (by simp; omega)]
    have e : ((-1 : Int) + ((a :: l).length : Int)).toNat = (a :: l).length - 1 := by simp; omega
    rw [List.getLast?_eq_getElem?] at h
    simp only [Option.bind_some]
    rw [e, h]
theorem ix_tm1 {xs : List D} {v : D} (h : xs.getLast? = some v) : ixD (.tup xs) (.int (-1)) = .ok v := by
  show (match atI xs (-1) with | some c => R.ok c | none => .bad) = _
  rw [atI_m1 h]
theorem ix_lm1 {xs : List D} {v : D} (h : xs.getLast? = some v) : ixD (.lst xs) (.int (-1)) = .ok v := by
  show (match atI xs (-1) with | some c => R.ok c | none => .bad) = _
  rw [atI_m1 h]
@[simp] theorem isN_neg (a : CE) : CE.isN (.neg a) = false := rfl
theorem isI_t (t : Ty) (d : D) (h : isScr d = false) : bnD (.isI t) [d] = .ok (.bl (isTy t d)) := if_pos h
theorem tupR_lit {ds : List D} (h : decide (ds.length ≤ 16777216) = true) : tupR ds = .ok (.tup ds) := if_pos (of_decide_eq_true h)
theorem lstR_lit {ds : List D} (h : decide (ds.length ≤ 16777216) = true) : lstR ds = .ok (.lst ds) := if_pos (of_decide_eq_true h)
@[simp] theorem tupR_0 : tupR [] = .ok (.tup []) := tupR_lit rfl
@[simp] theorem tupR_1 (a : D) : tupR [a] = .ok (.tup [a]) := tupR_lit rfl
@[simp] theorem tupR_2 (a b : D) : tupR [a, b] = .ok (.tup [a, b]) := tupR_lit rfl
@[simp] theorem tupR_3 (a b c : D) : tupR [a, b, c] = .ok (.tup [a, b, c]) := tupR_lit rfl
@[simp] theorem tupR_4 (a b c d : D) : tupR [a, b, c, d] = .ok (.tup [a, b, c, d]) := tupR_lit rfl
@[simp] theorem lstR_0 : lstR [] = .ok (.lst []) := lstR_lit rfl
@[simp] theorem lstR_1 (a : D) : lstR [a] = .ok (.lst [a]) := lstR_lit rfl
@[simp] theorem lstR_2 (a b : D) : lstR [a, b] = .ok (.lst [a, b]) := lstR_lit rfl
@[simp] theorem lstR_3 (a b c : D) : lstR [a, b, c] = .ok (.lst [a, b, c]) := lstR_lit rfl
@[simp] theorem lstR_4 (a b c d : D) : lstR [a, b, c, d] = .ok (.lst [a, b, c, d]) := lstR_lit rfl
@[simp] theorem lstR_5 (a b c d e : D) : lstR [a, b, c, d, e] = .ok (.lst [a, b, c, d, e]) := lstR_lit rfl
/-- a change of an own list or dict -/
def mutX (o : Option (Option D)) (f : List D → O) (g : List D → List D → O) : O := match o with
  | some (some (.lst ys)) => f ys
  | some (some (.dic ks vs)) => g ks vs
  | _ => .bad
@[simp] theorem mutX_l (ys : List D) (f : List D → O) (g : List D → List D → O) : mutX (some (some (.lst ys))) f g = f ys := rfl
@[simp] theorem mutX_k (ks vs : List D) (f : List D → O) (g : List D → List D → O) : mutX (some (some (.dic ks vs))) f g = g ks vs := rfl
@[simp] theorem ex_mut (w : Wld) (ρ : Env) (m : MO) (i : Nat) (xs : CL) : exS w (.mut m i xs) ρ = mutX ρ[i]? (fun ys => (evL w xs ρ).out ρ fun ds => mutO (mutD m ys ds) i ρ) fun ks vs => if m = MO.set then (evL w xs ρ).out ρ fun ds => mutKO (mutK m ks vs ds) i ρ else .bad := by
  show (match ρ[i]? with
    | some (some (.lst ys)) => (evL w xs ρ).out ρ fun ds => mutO (mutD m ys ds) i ρ
    | some (some (.dic ks vs)) => if m = MO.set then (evL w xs ρ).out ρ fun ds => mutKO (mutK m ks vs ds) i ρ else .bad
    | _ => .bad) = _
  unfold mutX
  rfl
def ownX (o : Option (Option D)) (f : D → O) : O := match o with
  | some (some d) => f d
  | _ => .bad
@[simp] theorem ownX_s (d : D) (f : D → O) : ownX (some (some d)) f = f d := rfl
@[simp] theorem ex_callM (w : Wld) (ρ : Env) (f i : Nat) (xs : CL) : exS w (.callM f i xs) ρ = ownX ρ[i]? fun d0 => (evL w xs ρ).out ρ fun ds => mutKO (R.need (isMu d0 = true) (w.call f (d0 :: ds))) i ρ := by
  show (match ρ[i]? with
    | some (some d0) => (evL w xs ρ).out ρ fun ds => mutKO (R.need (isMu d0 = true) (w.call f (d0 :: ds))) i ρ
    | _ => .bad) = _
  unfold ownX
  rfl
theorem runIO_eq (w : Wld) (n : Nat) (b : CB) (ds : List D) : runIO w n b ds = endIO (exB w b (ds.map some ++ List.replicate n none)) := rfl
@[simp] theorem if_set {α : Type} (a b : α) : (if MO.set = MO.set then a else b) = a := if_pos rfl
@[simp] theorem mutKO_ok (d : D) (i : Nat) (ρ : Env) : mutKO (.ok d) i ρ = .nx (ρ.set i (some d)) := rfl
theorem mutK_set (ks vs : List D) (v k : D) (h : okKey ks k = true) (hl : ks.length < 16777216) : mutK MO.set ks vs [v, k] = .ok (.dic (dputK ks k) (dputV ks vs k v)) := if_pos ⟨h, hl⟩
@[simp] theorem mutO_ok (zs : List D) (i : Nat) (ρ : Env) : mutO (.ok zs) i ρ = .nx (ρ.set i (some (.lst zs))) := rfl
@[simp] theorem mut_app (xs : List D) (d : D) (h : xs.length < 16777216) : mutD .app xs [d] = .ok (xs ++ [d]) := if_pos h
@[simp] theorem mut_ext (xs ys : List D) (h : xs.length + ys.length ≤ 16777216) : mutD .ext xs [.lst ys] = .ok (xs ++ ys) := if_pos h
@[simp] theorem mut_pop (xs : List D) (h : 0 < xs.length) : mutD .pop xs [] = .ok xs.dropLast := if_pos h
@[simp] theorem mut_clr (xs : List D) : mutD .clr xs [] = .ok [] := rfl
@[simp] theorem bn_tupL (xs : List D) : bnD .tuple [.lst xs] = .ok (.tup xs) := rfl
@[simp] theorem bn_tupT (xs : List D) : bnD .tuple [.tup xs] = .ok (.tup xs) := rfl
@[simp] theorem bn_lstL (xs : List D) : bnD .list [.lst xs] = .ok (.lst xs) := rfl
@[simp] theorem bn_lstT (xs : List D) : bnD .list [.tup xs] = .ok (.lst xs) := rfl
@[simp] theorem bn_intB (b : Bool) : bnD .int [.bl b] = .ok (.int (if b then 1 else 0)) := rfl
@[simp] theorem bn_intI (b : Int) : bnD .int [.int b] = .ok (.int b) := rfl
end PV
/-! PL1: more plain lemmas for what a body computes: comprehensions, ==, in. -/
namespace PV
open PySem L2
/-! ### == and in, of plain data -/
mutual
theorem eqv_pl : ∀ (x y : D), plD x = true → plD y = true → PyData.eqv (toPy x) (toPy y) = true → x = y
  | .int a, y, _, hy, h => by
    cases y with
    | int b =>
      have z := eqD_i a b
      unfold eqD at z
      rw [z] at h
      rw [of_decide_eq_true h]
    | str s => simp [toPy, PyData.eqv] at h
    | tup ys => simp [toPy, PyData.eqv] at h
    | _ => cases hy
  | .str a, y, _, hy, h => by
    cases y with
    | str b =>
      have z := eqD_s a b
      unfold eqD at z
      rw [z] at h
      rw [of_decide_eq_true h]
    | int s => simp [toPy, PyData.eqv] at h
    | tup ys => simp [toPy, PyData.eqv] at h
    | _ => cases hy
  | .tup xs, y, hx, hy, h => by
    cases y with
    | tup ys =>
      simp only [toPy, PyData.eqv] at h
      rw [eqvs_pl xs ys hx hy h]
    | int s => simp [toPy, PyData.eqv] at h
    | str s => simp [toPy, PyData.eqv] at h
    | _ => cases hy
  | .non, _, hx, _, _ => by cases hx
  | .bl _, _, hx, _, _ => by cases hx
  | .lst _, _, hx, _, _ => by cases hx
  | .dic _ _, _, hx, _, _ => by cases hx
  | .frz _, _, hx, _, _ => by cases hx
  | .err _ _, _, hx, _, _ => by cases hx
  | .obj _ _, _, hx, _, _ => by cases hx
  | .scr _, _, hx, _, _ => by cases hx
theorem eqvs_pl : ∀ (xs ys : List D), plDs xs = true → plDs ys = true → PyData.eqvAll (toPys xs) (toPys ys) = true → xs = ys
  | [], [], _, _, _ => rfl
  | [], _ :: _, _, _, h => by simp [toPys, PyData.eqvAll] at h
  | _ :: _, [], _, _, h => by simp [toPys, PyData.eqvAll] at h
  | x :: xs, y :: ys, hx, hy, h => by
    simp only [plDs, Bool.and_eq_true] at hx hy
    simp only [toPys, PyData.eqvAll, Bool.and_eq_true] at h
    rw [eqv_pl x y hx.1 hy.1 h.1, eqvs_pl xs ys hx.2 hy.2 h.2]
end
mutual
theorem pl_noDic : ∀ x : D, plD x = true → noDic x = true
  | .int _, _ => rfl
  | .str _, _ => rfl
  | .tup xs, h => pls_noDic xs h
  | .non, h => by cases h
  | .bl _, h => by cases h
  | .lst _, h => by cases h
  | .dic _ _, h => by cases h
  | .frz _, h => by cases h
  | .err _ _, h => by cases h
  | .obj _ _, h => by cases h
  | .scr _, h => by cases h
theorem pls_noDic : ∀ xs : List D, plDs xs = true → noDics xs = true
  | [], _ => rfl
  | x :: xs, h => by
    simp only [plDs, Bool.and_eq_true] at h
    simp [noDics, pl_noDic x h.1, pls_noDic xs h.2]
end
theorem eqD_pl {x y : D} (hx : plD x = true) (hy : plD y = true) : eqD x y = true ↔ x = y :=
  ⟨eqv_pl x y hx hy, fun e => by subst e; exact eqv_refl x (pl_noDic x hx)⟩
theorem any_pl {x : D} (hx : plD x = true) : ∀ {xs : List D}, (∀ y ∈ xs, plD y = true) → ((xs.any fun y => eqD y x) = true ↔ x ∈ xs)
  | [], _ => by simp
  | y :: ys, h => by
    rw [List.any_cons, Bool.or_eq_true, eqD_pl (h y List.mem_cons_self) hx, any_pl hx fun z hz => h z (List.mem_cons_of_mem _ hz), List.mem_cons]
    exact ⟨fun q => q.imp Eq.symm id, fun q => q.imp Eq.symm id⟩
theorem in_pl {x : D} {xs : List D} (hx : plD x = true) (hd : dep x ≤ 64) (h : ∀ y ∈ xs, plD y = true) : ∃ b : Bool, cmpD .In x (.lst xs) = .ok (.bl b) ∧ (b = true ↔ x ∈ xs) :=
  ⟨_, need_p ⟨hd, pl_nd hx, nds_of fun y hy => pl_nd (h y hy)⟩, any_pl hx h⟩
theorem in_plt {x : D} {xs : List D} (hx : plD x = true) (hd : dep x ≤ 64) (h : ∀ y ∈ xs, plD y = true) : ∃ b : Bool, cmpD .In x (.tup xs) = .ok (.bl b) ∧ (b = true ↔ x ∈ xs) :=
  ⟨_, need_p ⟨hd, pl_nd hx, nds_of fun y hy => pl_nd (h y hy)⟩, any_pl hx h⟩
/-! ### comprehensions -/
theorem lc_fm {turn : D → R (Option D)} {f : D → Option D} : ∀ {ds acc : List D}, (∀ d ∈ ds, turn d = .ok (f d)) → acc.length + ds.length ≤ 16777216 → lcGo turn ds acc = .ok (acc ++ ds.filterMap f)
  | [], acc, _, _ => by simp [lcGo]
  | d :: ds, acc, h, hl => by
    have hl : acc.length + (ds.length + 1) ≤ 16777216 := hl
    unfold lcGo
    rw [h d List.mem_cons_self]
    cases e : f d with
    | none =>
      show lcGo turn ds acc = _
      rw [lc_fm (fun d hd => h d (List.mem_cons_of_mem _ hd)) (by omega), List.filterMap_cons_none e]
    | some x =>
      show R.need (acc.length < LIM) (lcGo turn ds (acc ++ [x])) = _
      rw [need_p (by show acc.length < 16777216; omega), lc_fm (fun d hd => h d (List.mem_cons_of_mem _ hd)) (by rw [List.length_append, List.length_singleton]; omega), List.filterMap_cons_some e, List.append_assoc]
      rfl
section
variable {w : Wld} {own : List Nat} {tg : Tg} {elt c : CE} {ρ ρ1 : Env} {d x : D} {b : Bool}
theorem lcT_0 (h1 : giveT tg d (wipeD ρ own) = .ok ρ1) (h2 : evE w elt ρ1 = .ok x) : lcT w own tg .nil elt ρ d = .ok (some x) := by
  unfold lcT
  rw [h1]
  simp only [ev_nil, h2]
theorem lcT_t (h1 : giveT tg d (wipeD ρ own) = .ok ρ1) (hc : evE w c ρ1 = .ok (.bl true)) (h2 : evE w elt ρ1 = .ok x) : lcT w own tg (.cons c .nil) elt ρ d = .ok (some x) := by
  unfold lcT
  rw [h1]
  simp only [ev_cons, ev_nil, hc, R.ok_bind, h2]
theorem lcT_f (h1 : giveT tg d (wipeD ρ own) = .ok ρ1) (hc : evE w c ρ1 = .ok (.bl false)) : lcT w own tg (.cons c .nil) elt ρ d = .ok none := by
  unfold lcT
  rw [h1]
  simp only [ev_cons, ev_nil, hc, R.ok_bind]
theorem lcT_b (h1 : giveT tg d (wipeD ρ own) = .ok ρ1) (hc : evE w c ρ1 = .ok (.bl b)) (h2 : b = true → evE w elt ρ1 = .ok x) : lcT w own tg (.cons c .nil) elt ρ d = .ok (if b = true then some x else none) := by
  cases b with
  | true => rw [if_pos rfl]; exact lcT_t h1 hc (h2 rfl)
  | false => rw [if_neg Bool.false_ne_true]; exact lcT_f h1 hc
theorem ev_lcF {it : CI} {ifs : CL} {ds : List D} {f : D → Option D} (hi : evI w it ρ = .ok ds) (h : ∀ d ∈ ds, lcT w own tg ifs elt ρ d = .ok (f d)) (hl : ds.length ≤ 16777216) : evE w (.lc own tg it ifs elt) ρ = .ok (.lst (ds.filterMap f)) := by
  rw [ev_lcc, hi, R.ok_bind, lc_fm h (by simpa using hl), R.ok_bind, List.nil_append]
theorem ev_lcM {it : CI} {ifs : CL} {ds : List D} {f : D → D} (hi : evI w it ρ = .ok ds) (h : ∀ d ∈ ds, lcT w own tg ifs elt ρ d = .ok (some (f d))) (hl : ds.length ≤ 16777216) : evE w (.lc own tg it ifs elt) ρ = .ok (.lst (ds.map f)) := by
  rw [ev_lcF hi (f := fun d => some (f d)) h hl]
  simp
end
/-! ### loops -/
theorem for_st {tg : Tg} {body : Env → O} {d : D} {ds : List D} {ρ ρ1 ρ2 : Env} (h1 : giveT tg d ρ = .ok ρ1) (h2 : body ρ1 = .nx ρ2) : forGo tg body (d :: ds) ρ = forGo tg body ds ρ2 := by
  show (match giveT tg d ρ with
    | .ok ρ' => (match body ρ' with
      | .nx ρ'' => forGo tg body ds ρ''
      | .ct ρ'' => forGo tg body ds ρ''
      | .bk ρ'' => .nx ρ''
      | o => o)
    | _ => .bad) = _
  rw [h1]
  simp only [h2]
/-- a loop over things that come of a list, none leaves it -/
theorem for_map {α : Type} {tg : Tg} {body : Env → O} (g : α → D) (Iv : List α → Env → Prop) : ∀ (r : List α) (ρ : Env), Iv r ρ → (∀ a r ρ, Iv (a :: r) ρ → ∃ ρ' ρ'', giveT tg (g a) ρ = .ok ρ' ∧ body ρ' = .nx ρ'' ∧ Iv r ρ'') → ∃ ρ', forGo tg body (r.map g) ρ = .nx ρ' ∧ Iv [] ρ'
  | [], ρ, h, _ => ⟨ρ, rfl, h⟩
  | a :: r, ρ, h, hs => by
    obtain ⟨ρ', ρ'', e1, e2, h2⟩ := hs a r ρ h
    obtain ⟨ρ3, e3, h3⟩ := for_map g Iv r ρ'' h2 hs
    exact ⟨ρ3, by rw [List.map_cons, for_st e1 e2, e3], h3⟩
end PV
/-! PL2: more calls, one in another, change no answer. -/
namespace PV
open PySem L2
def RLe {α : Type} (r r' : R α) : Prop := r = .bad ∨ r = r'
theorem RLe.rfl' {α : Type} (r : R α) : RLe r r := .inr rfl
theorem RLe.bad' {α : Type} (r : R α) : RLe .bad r := .inl rfl
theorem RLe.bind {α β : Type} {r r' : R α} {f f' : α → R β} (h : RLe r r') (k : ∀ x, RLe (f x) (f' x)) : RLe (r.bind f) (r'.bind f') := by
  rcases h with h | h
  · subst h; exact .inl rfl
  · subst h
    cases r with
    | ok x => exact k x
    | exc e => exact .inr rfl
    | bad => exact .inl rfl
theorem RLe.need {α : Type} {c : Prop} [Decidable c] {r r' : R α} (h : RLe r r') : RLe (R.need c r) (R.need c r') := by
  unfold R.need
  split
  · exact h
  · exact .inl rfl
theorem RLe.bnot {r r' : R D} (h : RLe r r') : RLe (bnot r) (bnot r') := by
  rcases h with h | h
  · subst h; exact .inl rfl
  · subst h; exact .inr rfl
theorem RLe.asB {r r' : R D} (h : RLe r r') : RLe (asB r) (asB r') := by
  rcases h with h | h
  · subst h; exact .inl rfl
  · subst h; exact .inr rfl
structure WLe (w w' : Wld) : Prop where
  con : w.con = w'.con
  turns : w.turns = w'.turns
  call : ∀ f ds, RLe (w.call f ds) (w'.call f ds)
theorem lcGo_le {t t' : D → R (Option D)} (h : ∀ d, RLe (t d) (t' d)) : ∀ ds acc, RLe (lcGo t ds acc) (lcGo t' ds acc)
  | [], acc => .inr rfl
  | d :: ds, acc => by
    unfold lcGo
    rcases h d with e | e
    · rw [e]; exact .inl rfl
    · rw [e]
      cases t' d with
      | ok o =>
        cases o with
        | some x => exact (lcGo_le h ds _).need
        | none => exact lcGo_le h ds _
      | exc e => exact .inl rfl
      | bad => exact .inl rfl
section
variable {w w' : Wld} (W : WLe w w')
include W
theorem lcT_le {own : List Nat} {tg : Tg} {ifs : CL} {elt : CE} {ρ : Env} (h1 : ∀ ρ, RLe (evL w ifs ρ) (evL w' ifs ρ)) (h2 : ∀ ρ, RLe (evE w elt ρ) (evE w' elt ρ)) (d : D) : RLe (lcT w own tg ifs elt ρ d) (lcT w' own tg ifs elt ρ d) := by
  unfold lcT
  cases giveT tg d (wipeD ρ own) with
  | exc e => exact .inl rfl
  | bad => exact .inl rfl
  | ok ρ' =>
    simp only
    rcases h1 ρ' with e | e
    · rw [e]; exact .inl rfl
    · rw [e]
      rcases h2 ρ' with k | k
      · rw [k]
        split <;> first | exact .inl rfl | exact .inr rfl
      · rw [k]; exact .inr rfl
mutual
theorem evE_le : ∀ (c : CE) (ρ : Env), RLe (evE w c ρ) (evE w' c ρ)
  | .sl i, ρ => .inr rfl
  | .mv i, ρ => .inr rfl
  | .cI i, _ => .inr rfl
  | .cS s, _ => .inr rfl
  | .cB b, _ => .inr rfl
  | .cN, _ => .inr rfl
  | .gl k, _ => .inr (by rw [ev_gl, ev_gl, W.con])
  | .bin op a b, ρ => (evE_le a ρ).bind fun x => (evE_le b ρ).bind fun y => .inr rfl
  | .neg a, ρ => (evE_le a ρ).bind fun x => .inr rfl
  | .not a, ρ => (evE_le a ρ).bnot
  | .cmp op a b, ρ => (evE_le a ρ).bind fun x => (evE_le b ρ).bind fun y => .inr rfl
  | .cmp2 o1 o2 a b c, ρ => (evE_le a ρ).bind fun x => (evE_le b ρ).bind fun y => (RLe.rfl' (cmpD o1 x y)).bind fun z => by
    split
    · exact (evE_le c ρ).bind fun u => .inr rfl
    · exact .inr rfl
    · exact .inl rfl
  | .and a b, ρ => (evE_le a ρ).bind fun x => by
    split
    · exact (evE_le b ρ).asB
    · exact .inr rfl
    · exact .inl rfl
  | .or a b, ρ => (evE_le a ρ).bind fun x => by
    split
    · exact .inr rfl
    · exact (evE_le b ρ).asB
    · exact .inl rfl
  | .one a, ρ => (evE_le a ρ).asB
  | .ite c a b, ρ => (evE_le c ρ).bind fun x => by
    split
    · exact evE_le a ρ
    · exact evE_le b ρ
    · exact .inl rfl
  | .tup xs, ρ => (evL_le xs ρ).bind fun ds => .inr rfl
  | .lst xs, ρ => (evL_le xs ρ).bind fun ds => .inr rfl
  | .ix a i, ρ => (evE_le a ρ).bind fun x => (evE_le i ρ).bind fun y => .inr rfl
  | .ixb a i, ρ => (evE_le a ρ).bind fun x => (evE_le i ρ).bind fun y => .inr rfl
  | .dnew, ρ => .inr rfl
  | .dgt o xs, ρ => (evE_le o ρ).bind fun d => ((evL_le xs ρ).bind fun ds => .inr rfl).need
  | .cut a l h, ρ => (evE_le a ρ).bind fun x => ((evE_le l ρ).bind fun _ => .inr rfl).bind fun lo => ((evE_le h ρ).bind fun _ => .inr rfl).bind fun hi => .inr rfl
  | .lrev a, ρ => (evE_le a ρ).bind fun x => .inr rfl
  | .sset a, ρ => (evE_le a ρ).bind fun x => .inr rfl
  | .gidx k a, ρ => (evE_le a ρ).bind fun x => .inr (by rw [W.con])
  | .pick kvs a, ρ => (evE_le a ρ).bind fun x => .inr rfl
  | .call lent f xs, ρ => (evL_le xs ρ).bind fun ds => (W.call f ds).bind fun d => .inr rfl
  | .callo f xs, ρ => (evL_le xs ρ).bind fun ds => (W.call f ds).bind fun d => .inr rfl
  | .bn b xs, ρ => (evL_le xs ρ).bind fun ds => .inr rfl
  | .mt m o xs, ρ => (evE_le o ρ).bind fun d => ((evL_le xs ρ).bind fun ds => .inr rfl).need
  | .lc own tg it ifs elt, ρ => by
    rw [ev_lcc, ev_lcc]
    exact (evI_le it ρ).bind fun ds => (lcGo_le (lcT_le W (evL_le ifs) (evE_le elt)) ds []).bind fun xs => .inr rfl
theorem evL_le : ∀ (c : CL) (ρ : Env), RLe (evL w c ρ) (evL w' c ρ)
  | .nil, _ => .inr rfl
  | .cons e r, ρ => (evE_le e ρ).bind fun d => (evL_le r ρ).bind fun ds => .inr rfl
theorem evI_le : ∀ (c : CI) (ρ : Env), RLe (evI w c ρ) (evI w' c ρ)
  | .seq e, ρ => (evE_le e ρ).bind fun x => .inr rfl
  | .rng1 a, ρ => (evE_le a ρ).bind fun x => .inr rfl
  | .rng2 a b, ρ => (evE_le a ρ).bind fun x => (evE_le b ρ).bind fun y => .inr rfl
  | .zip a b, ρ => (evE_le a ρ).bind fun x => (evE_le b ρ).bind fun y => .inr rfl
  | .rev a, ρ => (evE_le a ρ).bind fun x => .inr rfl
end
end
def OLe (o o' : O) : Prop := o = .bad ∨ o = o'
theorem RLe.out {α : Type} {r r' : R α} {ρ : Env} {f f' : α → O} (h : RLe r r') (k : ∀ x, OLe (f x) (f' x)) : OLe (r.out ρ f) (r'.out ρ f') := by
  rcases h with h | h
  · subst h; exact .inl rfl
  · subst h
    cases r with
    | ok x => exact k x
    | exc e => exact .inr rfl
    | bad => exact .inl rfl
theorem forGo_le {tg : Tg} {b b' : Env → O} (h : ∀ ρ, OLe (b ρ) (b' ρ)) : ∀ ds ρ, OLe (forGo tg b ds ρ) (forGo tg b' ds ρ)
  | [], ρ => .inr rfl
  | d :: ds, ρ => by
    unfold forGo
    cases giveT tg d ρ with
    | exc e => exact .inl rfl
    | bad => exact .inl rfl
    | ok ρ' =>
      simp only
      rcases h ρ' with e | e
      · rw [e]; exact .inl rfl
      · rw [e]
        cases b' ρ' with
        | nx ρ'' => exact forGo_le h ds ρ''
        | ct ρ'' => exact forGo_le h ds ρ''
        | bk ρ'' => exact .inr rfl
        | rt d => exact .inr rfl
        | exc e ρ => exact .inr rfl
        | bad => exact .inl rfl
theorem whlGo_le {t t' : Env → R D} {b b' : Env → O} (ht : ∀ ρ, RLe (t ρ) (t' ρ)) (h : ∀ ρ, OLe (b ρ) (b' ρ)) : ∀ n ρ, OLe (whlGo t b n ρ) (whlGo t' b' n ρ)
  | 0, ρ => .inl rfl
  | n + 1, ρ => by
    unfold whlGo
    refine (ht ρ).out fun x => ?_
    split
    · rcases h ρ with e | e
      · rw [e]; exact .inl rfl
      · rw [e]
        cases b' ρ with
        | nx ρ'' => exact whlGo_le ht h n ρ''
        | ct ρ'' => exact whlGo_le ht h n ρ''
        | bk ρ'' => exact .inr rfl
        | rt d => exact .inr rfl
        | exc e ρ => exact .inr rfl
        | bad => exact .inl rfl
    · exact .inr rfl
    · exact .inl rfl
section
variable {w w' : Wld} (W : WLe w w')
include W
mutual
theorem exS_le : ∀ (c : CS) (ρ : Env), OLe (exS w c ρ) (exS w' c ρ)
  | .asg i t e, ρ => (evE_le W e ρ).out fun d => .inr rfl
  | .unp tg e, ρ => (evE_le W e ρ).out fun d => .inr rfl
  | .par i j a b, ρ => (evE_le W a ρ).out fun x => (evE_le W b ρ).out fun y => .inr rfl
  | .ret e, ρ => (evE_le W e ρ).out fun x => .inr rfl
  | .retN, ρ => .inr rfl
  | .exp e, ρ => (evE_le W e ρ).out fun x => .inr rfl
  | .mut m i xs, ρ => by
    rw [ex_mut, ex_mut]
    unfold mutX
    split
    · exact (evL_le W xs ρ).out fun ds => .inr rfl
    · split
      · exact (evL_le W xs ρ).out fun ds => .inr rfl
      · exact .inl rfl
    · exact .inl rfl
  | .callM f i xs, ρ => by
    rw [ex_callM, ex_callM]
    unfold ownX
    split
    · refine (evL_le W xs ρ).out fun ds => ?_
      rcases (W.call f (_ :: ds)).need (c := isMu _ = true) with e | e
      · rw [e]; exact .inl rfl
      · rw [e]; exact .inr rfl
    · exact .inl rfl
  | .ifs c a b, ρ => (evE_le W c ρ).out fun x => by
    split
    · exact exB_le a ρ
    · exact exB_le b ρ
    · exact .inl rfl
  | .whl c b, ρ => by
    rw [ex_whl, ex_whl, W.turns]
    exact whlGo_le (evE_le W c) (exB_le b) _ _
  | .forr tg it b, ρ => (evI_le W it ρ).out fun ds => forGo_le (exB_le b) ds ρ
  | .brk, ρ => .inr rfl
  | .cont, ρ => .inr rfl
  | .pass, ρ => .inr rfl
  | .fz _, ρ => .inr rfl
  | .dr _, ρ => .inr rfl
  | .bad, _ => .inr rfl
theorem exB_le : ∀ (c : CB) (ρ : Env), OLe (exB w c ρ) (exB w' c ρ)
  | .nil, ρ => .inr rfl
  | .cons s r, ρ => by
    rw [ex_cons, ex_cons]
    rcases exS_le s ρ with e | e
    · rw [e]; exact .inl rfl
    · rw [e]
      cases exS w' s ρ with
      | nx ρ' => exact exB_le r ρ'
      | ct ρ'' => exact .inr rfl
      | bk ρ'' => exact .inr rfl
      | rt d => exact .inr rfl
      | exc e ρ => exact .inr rfl
      | bad => exact .inl rfl
end
end
theorem callF_le (fns : List Fn) (con : Nat → D) (turns : Nat) : ∀ (n : Nat) (f : Nat) (ds : List D), RLe (callF fns con turns n f ds) (callF fns con turns (n + 1) f ds)
  | 0, f, ds => .inl rfl
  | n + 1, f, ds => by
    rw [callF, callF]
    cases fns[f]? with
    | none => exact .inl rfl
    | some fn =>
      refine RLe.need ?_
      have W : WLe ⟨callF fns con turns n, con, turns⟩ ⟨callF fns con turns (n + 1), con, turns⟩ := ⟨rfl, rfl, fun f ds => callF_le fns con turns n f ds⟩
      by_cases hio : fn.io = true
      · rw [if_pos hio, if_pos hio, runIO_eq, runIO_eq]
        rcases exB_le W fn.body (ds.map some ++ List.replicate fn.more none) with e | e
        · rw [e]; exact .inl rfl
        · rw [e]; exact .inr rfl
      rw [if_neg hio, if_neg hio]
      rw [run_eq, run_eq]
      rcases exB_le W fn.body (ds.map some ++ List.replicate fn.more none) with e | e
      · rw [e]; exact .inl rfl
      · rw [e]; exact .inr rfl
theorem call_le (L : St0) {n m f : Nat} {ds : List D} (h : n ≤ m) : RLe (L.call n f ds) (L.call m f ds) := by
  induction h with
  | refl => exact .inr rfl
  | step h ih =>
    rcases ih with e | e
    · exact .inl e
    · rcases callF_le L.fns L.conD L.turns _ f ds with k | k
      · exact .inl (e.trans k)
      · exact .inr (e.trans k)
/-- an answer stays the answer -/
theorem call_up {L : St0} {n m f : Nat} {ds : List D} {r : R D} (h : L.call n f ds = r) (hr : r ≠ .bad) (hn : n ≤ m) : L.call m f ds = r := by
  rcases call_le L (f := f) (ds := ds) hn with e | e
  · exact absurd (h.symm.trans e) hr
  · rw [← e, h]
theorem up_call {L : St0} {n m f : Nat} {ds : List D} {d : D} (h : L.call n f ds = .ok d) (hn : n ≤ m := by omega) : L.call m f ds = .ok d := call_up h (fun z => by cases z) hn
end PV
/-! PL3: more plain lemmas. -/
namespace PV
open PySem L2
/-- a statement of which only something is known -/
theorem stepQ {α : Type} {w : Wld} {s : CS} {r : CB} {ρ : Env} {P : O → Prop} (f : α → Env) (Q : α → Prop) (h : ∃ x, exS w s ρ = .nx (f x) ∧ Q x) (k : ∀ x, Q x → P (exB w r (f x))) : P (exB w (.cons s r) ρ) := by
  obtain ⟨x, e, q⟩ := h
  rw [ex_cons, e, thenX_nx]
  exact k x q
theorem lcGo_ex {turn : D → R (Option D)} {P : Nat → D → Prop} : ∀ {ds acc : List D} (i : Nat), (∀ j d, ds[j]? = some d → ∃ x, turn d = .ok (some x) ∧ P (i + j) x) → acc.length + ds.length ≤ 16777216 → ∃ xs, lcGo turn ds acc = .ok (acc ++ xs) ∧ xs.length = ds.length ∧ ∀ j x, xs[j]? = some x → P (i + j) x
  | [], acc, i, _, _ => ⟨[], by simp [lcGo], rfl, by simp⟩
  | d :: ds, acc, i, h, hl => by
    have hl : acc.length + (ds.length + 1) ≤ 16777216 := hl
    obtain ⟨x, e, p⟩ := h 0 d rfl
    obtain ⟨xs, e2, l2, p2⟩ := lcGo_ex (turn := turn) (P := P) (ds := ds) (acc := acc ++ [x]) (i + 1) (fun j d hd => by
      obtain ⟨y, q1, q2⟩ := h (j + 1) d (by simpa using hd)
      exact ⟨y, q1, by rw [show i + 1 + j = i + (j + 1) by omega]; exact q2⟩) (by rw [List.length_append, List.length_singleton]; omega)
    refine ⟨x :: xs, ?_, by simp [l2], fun j y hy => ?_⟩
    · unfold lcGo
      rw [e]
      show R.need (acc.length < LIM) (lcGo turn ds (acc ++ [x])) = _
      rw [need_p (by show acc.length < 16777216; omega), e2]
      simp
    · cases j with
      | zero =>
        have : x = y := by simpa using hy
        rw [← this]; exact p
      | succ j =>
        have := p2 j y (by simpa using hy)
        rw [show i + (j + 1) = i + 1 + j by omega]
        exact this
theorem rng_map (m : Nat) : rngD 0 (m : Int) = (List.range m).map fun i => D.int (i : Nat) := by
  unfold rngD
  rw [show ((m : Int) - 0).toNat = m by omega]
  exact List.map_congr_left fun i _ => by rw [Int.zero_add]
theorem cut_mem {α : Type} {xs : List α} {a b : Option Int} {c : α} (h : c ∈ cut xs a b) : c ∈ xs := List.mem_of_mem_drop (List.mem_of_mem_take h)
theorem cut_len {α : Type} (xs : List α) (a b : Option Int) : (cut xs a b).length ≤ xs.length := by
  unfold cut
  rw [List.length_take, List.length_drop]
  omega
theorem pls_of : ∀ {ds : List D}, (∀ d ∈ ds, plD d = true) → plDs ds = true
  | [], _ => rfl
  | d :: ds, h => by simp [plDs, h d List.mem_cons_self, pls_of fun x hx => h x (List.mem_cons_of_mem _ hx)]
end PV
/-! HC: a module's constants (whole numbers, texts, tuples of these) in a head's facts. -/
namespace PV
open PySem PySem.Spec PyProof.Rows L2
mutual
/-- the value is this datum -/
def valB (K : PySem.W.Frag) : D → Value → Bool
  | .non, .none => true
  | .bl b, .bool c => decide (b = c)
  | .int i, .int j _ => decide (i = j)
  | .str s, .str z _ => decide (z = mkS s) && decide (okS s)
  | .tup ds, .ref a => (match K.lookup a with
    | some ⟨.type c, dd, .seq its _, _⟩ => decide (c = "tuple") && (dd.isNone && (decide (its.size ≤ sizeLine) && valsB K ds its.toList))
    | _ => false)
  | _, _ => false
def valsB (K : PySem.W.Frag) : List D → List Value → Bool
  | [], [] => true
  | d :: ds, v :: vs => valB K d v && valsB K ds vs
  | _, _ => false
end
mutual
theorem valB_ok {K : PySem.W.Frag} {wd : World} : ∀ (d : D) (v : Value), valB K d v = true → ∃ u : V, RelV u v ∧ (∀ F, Rep ⟨K, wd⟩ F u d) ∧ ∀ p, u = .ref p → ∃ o, K.lookup p = some o ∧ o.cls = .type "tuple" ∧ o.dict = none
  | .non, v, h => by cases v <;> first | (exact ⟨.non, rfl, fun _ => .non, fun _ e => nomatch e⟩) | cases h
  | .bl b, v, h => by
    cases v <;> first | (cases h; done) | skip
    have h := of_decide_eq_true h
    subst h
    exact ⟨.bl _, rfl, fun _ => .bl _, fun _ e => nomatch e⟩
  | .int i, v, h => by
    cases v <;> first | (cases h; done) | skip
    have h := of_decide_eq_true h
    subst h
    exact ⟨.int _, ⟨_, rfl⟩, fun _ => .int _, fun _ e => nomatch e⟩
  | .str s, v, h => by
    cases v <;> first | (cases h; done) | skip
    simp only [valB, Bool.and_eq_true, decide_eq_true_eq] at h
    obtain ⟨h1, h2⟩ := h
    subst h1
    exact ⟨.str _, ⟨_, rfl⟩, fun _ => .str _ h2, fun _ e => nomatch e⟩
  | .tup ds, v, h => by
    cases v with
    | ref a =>
      unfold valB at h
      cases q : K.lookup a with
      | none => rw [q] at h; cases h
      | some o =>
        rw [q] at h
        obtain ⟨oc, od, dt, osl⟩ := o
        cases oc with
        | type c =>
          cases dt with
          | seq its n =>
            simp only [Bool.and_eq_true, decide_eq_true_eq] at h
            obtain ⟨h1, h0, h2, h3⟩ := h
            subst h1
            obtain ⟨us, r, e⟩ := valsB_ok ds its.toList h3
            exact ⟨.ref a, rfl, fun F => .tup (.inr ⟨_, its, n, q, rfl, rfl, h2, r⟩) (e F), fun p ep => by cases ep; exact ⟨_, q, rfl, Option.isNone_iff_eq_none.mp h0⟩⟩
          | _ => cases h
        | _ => cases dt <;> cases h
    | _ => cases h
  | .lst _, v, h => by cases v <;> cases h
  | .dic _ _, v, h => by cases v <;> cases h
  | .frz _, v, h => by cases v <;> cases h
  | .err _ _, v, h => by cases v <;> cases h
  | .obj _ _, v, h => by cases v <;> cases h
  | .scr _, v, h => by cases v <;> cases h
theorem valsB_ok {K : PySem.W.Frag} {wd : World} : ∀ (ds : List D) (vs : List Value), valsB K ds vs = true → ∃ us : List V, Vals us vs ∧ ∀ F, Reps ⟨K, wd⟩ F us ds
  | [], vs, h => by
    cases vs with
    | nil => exact ⟨[], .nil, fun _ => .nil⟩
    | cons _ _ => cases h
  | d :: ds, vs, h => by
    cases vs with
    | nil => cases h
    | cons v vs =>
      simp only [valsB, Bool.and_eq_true] at h
      obtain ⟨u, r, e, _⟩ := valB_ok d v h.1
      obtain ⟨us, rs, es⟩ := valsB_ok ds vs h.2
      exact ⟨u :: us, .cons r rs, fun F => .cons (e F) (es F)⟩
end
def consB (K : PySem.W.Frag) (cs : List (Str × D)) : Bool := cs.all fun p => match PySem.W.nsIn K mainGlobals p.1 with
  | some (some v) => valB K p.2 v
  | _ => false
theorem consB_ok {K : PySem.W.Frag} {wd : World} {h : Heap} {mg : Str → Option Value} {cs : List (Str × D)} (X : K.In h) (G : h.Ns mainGlobals mg) (c : consB K cs = true) {x : Str} {d : D} (hx : (x, d) ∈ cs) : ∃ u v, mg x = some u ∧ RelV v u ∧ (∀ F, Rep ⟨K, wd⟩ F v d) ∧ ∀ p, v = .ref p → ∃ o, K.lookup p = some o ∧ o.cls = .type "tuple" ∧ o.dict = none := by
  have z := List.all_eq_true.mp c (x, d) hx
  cases e : PySem.W.nsIn K mainGlobals x with
  | none => simp only [e] at z; cases z
  | some o =>
    cases o with
    | none => simp only [e] at z; cases z
    | some v =>
      simp only [e] at z
      obtain ⟨u, r, q⟩ := valB_ok d v z
      exact ⟨v, u, PySem.W.mg_of X G e, r, q⟩
def obsCG (n : Nat) (fa : List He.Fa) (fn : List He.DefD) (cs : List (Str × D)) (g : Addr → Option Obj) : He.AlD × Bool := (He.obsDG n fa fn g, consB (He.frG g (He.asD g n)) cs)
def hookC (n : Nat) (fa : List He.Fa) (fn : List He.DefD) (cs : List (Str × D)) : PySem.W.Hook where
  α := He.AlD × Bool
  obs := fun s => obsCG n fa fn cs s.heap.get?
  val := fun _ => (He.valD fn, true)
  says := fun _ h => ∃ K : PySem.W.Frag, K.In h ∧ He.SaysD fa fn K ∧ consB K cs = true
  of := fun _ _ e => ⟨_, He.frG_in, congrArg Prod.fst e, congrArg Prod.snd e⟩
  keeps := fun _ _ _ ⟨K, hK, c⟩ k => ⟨K, PySem.W.Frag.In.keeps hK k, c⟩
theorem obsCG_eq {n : Nat} {fa : List He.Fa} {fn : List He.DefD} {cs : List (Str × D)} {g : Addr → Option Obj} {s : Shared} (h : ∀ a, g a = s.heap.get? a) : obsCG n fa fn cs g = (hookC n fa fn cs).obs s := by
  have e : g = s.heap.get? := funext h
  rw [e] <;> rfl
end PV
namespace Cl
open PySem PySem.Spec PyProof.Rows L2 PV
/-! ### the text -/
def top (i : Nat) : Stmt := PySem.Challenge.pw_dots_k43_hinges.main.body.getD i (.Pass ⟨0, 0, 0, 0⟩)
def N_f_hinges_of : List Str := ["steps", "found", "many", "step"]
def P_f_hinges_of : List Str := ["steps"]
abbrev B_f_hinges_of_0 : CB := (.cons (.asg 2 0 (.bin .Add (.sl 2) (.bn .len (.cons (.ix (.sl 3) (.cI 2)) .nil)))) (.cons (.ifs (.or (.cmp .Eq (.ix (.sl 3) (.cI 3)) (.cS [105, 110])) (.one (.cmp .Eq (.ix (.sl 3) (.cI 3)) (.cS [97, 108, 108])))) (.cons (.mut .app 1 (.cons (.sl 2) .nil)) .nil) .nil) .nil))
def B_f_hinges_of : CB := (.cons (.asg 1 1 (.lst .nil)) (.cons (.asg 2 0 (.cI 0)) (.cons (.forr (.one 3) (.seq (.sl 0)) B_f_hinges_of_0) (.cons (.ret (.mv 1)) .nil))))
def F_f_hinges_of : Fn := ⟨1, 3, B_f_hinges_of, 1, false⟩
def N_f_may_end : List Str := ["state"]
def P_f_may_end : List Str := ["state"]
def B_f_may_end : CB := (.cons (.ret (.cmp .In (.sl 0) (.gl 0))) .nil)
def F_f_may_end : Fn := ⟨1, 0, B_f_may_end, 0, false⟩
def N_f_from_outside : List Str := ["table", "state"]
def P_f_from_outside : List Str := ["table", "state"]
def B_f_from_outside : CB := (.cons (.ifs (.and (.cmp .Eq (.sl 1) (.cS [111, 117, 116])) (.one (.cmp .Gt (.bn .len (.cons (.ix (.sl 0) (.cI 2)) .nil)) (.cI 0)))) (.cons (.ret (.lst (.cons (.cS [111, 117, 116]) (.cons (.cS [108, 101, 116]) .nil)))) .nil) .nil) (.cons (.ret (.lst (.cons (.sl 1) .nil))) .nil))
def F_f_from_outside : Fn := ⟨2, 0, B_f_from_outside, 1, false⟩
def N_f_word_edges : List Str := ["table", "form", "letters", "cells", "places", "great", "edges", "place", "begin", "other", "state"]
def P_f_word_edges : List Str := ["table", "form"]
abbrev B_f_word_edges_0 : CB := (.cons (.mut .app 6 (.cons (.tup (.cons (.sl 10) (.cons (.sl 2) (.cons (.sl 3) (.cons (.sl 9) .nil))))) .nil)) (.cons (.ifs (.cmp .Gt (.bn .len (.cons (.sl 5) .nil)) (.cI 0)) (.cons (.mut .app 6 (.cons (.tup (.cons (.sl 10) (.cons (.bin .Add (.mt .upper (.ix (.sl 2) (.cI 0)) .nil) (.cut (.sl 2) (.cI 1) (.cN))) (.cons (.bin .Add (.sl 5) (.sl 3)) (.cons (.sl 9) .nil))))) .nil)) .nil) .nil) .nil))
abbrev B_f_word_edges_1 : CB := (.cons (.ifs (.cmp .In (.sl 7) (.sl 4)) (.cons (.forr (.one 10) (.seq (.call false 2 (.cons (.sl 0) (.cons (.sl 8) .nil)))) B_f_word_edges_0) .nil) .nil) .nil)
def B_f_word_edges : CB := (.cons (.unp (.cons (.one 2) (.cons (.one 3) (.cons (.one 4) .nil))) (.sl 1)) (.cons (.asg 5 0 (.ix (.ix (.sl 0) (.cI 1)) (.cI 0))) (.cons (.asg 6 1 (.lst .nil)) (.cons (.forr (.cons (.one 7) (.cons (.one 8) (.cons (.one 9) .nil))) (.seq (.gl 1)) B_f_word_edges_1) (.cons (.ret (.mv 6)) .nil)))))
def F_f_word_edges : Fn := ⟨2, 9, B_f_word_edges, 1, false⟩
def N_f_great_edges : List Str := ["table", "form", "letters", "cells", "places", "mark", "edges", "text", "state"]
def P_f_great_edges : List Str := ["table", "form"]
abbrev B_f_great_edges_0 : CB := (.cons (.ifs (.and (.cmp .In (.cS [119]) (.sl 4)) (.one (.cmp .Gt (.bn .len (.cons (.sl 2) .nil)) (.cI 1)))) (.cons (.mut .app 6 (.cons (.tup (.cons (.sl 8) (.cons (.sl 7) (.cons (.bin .Add (.sl 5) (.sl 3)) (.cons (.cS [100, 111, 110, 101]) .nil))))) .nil)) .nil) .nil) (.cons (.ifs (.cmp .In (.cS [98]) (.sl 4)) (.cons (.mut .app 6 (.cons (.tup (.cons (.sl 8) (.cons (.sl 7) (.cons (.bin .Add (.sl 5) (.sl 3)) (.cons (.cS [97, 108, 108]) .nil))))) .nil)) .nil) .nil) .nil))
def B_f_great_edges : CB := (.cons (.unp (.cons (.one 2) (.cons (.one 3) (.cons (.one 4) .nil))) (.sl 1)) (.cons (.asg 5 0 (.ix (.ix (.sl 0) (.cI 1)) (.cI 1))) (.cons (.asg 6 1 (.lst .nil)) (.cons (.ifs (.cmp .Eq (.bn .len (.cons (.sl 5) .nil)) (.cI 0)) (.cons (.ret (.mv 6)) .nil) .nil) (.cons (.asg 7 0 (.mt .upper (.sl 2) .nil)) (.cons (.forr (.one 8) (.seq (.call false 2 (.cons (.sl 0) (.cons (.cS [111, 117, 116]) .nil)))) B_f_great_edges_0) (.cons (.ifs (.cmp .In (.cS [109]) (.sl 4)) (.cons (.mut .app 6 (.cons (.tup (.cons (.cS [97, 108, 108]) (.cons (.sl 7) (.cons (.sl 3) (.cons (.cS [97, 108, 108]) .nil))))) .nil)) .nil) .nil) (.cons (.ifs (.cmp .In (.cS [101]) (.sl 4)) (.cons (.mut .app 6 (.cons (.tup (.cons (.cS [97, 108, 108]) (.cons (.sl 7) (.cons (.sl 3) (.cons (.cS [100, 111, 110, 101]) .nil))))) .nil)) .nil) .nil) (.cons (.ret (.mv 6)) .nil)))))))))
def F_f_great_edges : Fn := ⟨2, 7, B_f_great_edges, 1, false⟩
def N_f_other_edges : List Str := ["table", "edges", "k", "cell", "state"]
def P_f_other_edges : List Str := ["table"]
abbrev E_f_other_edges_0 : CE := .tup (.cons (.sl 4) (.cons (.cS [32]) (.cons (.tup (.cons (.cI 0) .nil)) (.cons (.cS [111, 117, 116]) .nil))))
abbrev B_f_other_edges_0 : CB := (.cons (.asg 3 0 (.tup (.cons (.ix (.ix (.sl 0) (.cI 2)) (.sl 2)) .nil))) (.cons (.mut .app 1 (.cons (.tup (.cons (.cS [111, 117, 116]) (.cons (.bn .str (.cons (.sl 2) .nil)) (.cons (.bin .Add (.ix (.ix (.sl 0) (.cI 1)) (.cI 2)) (.sl 3)) (.cons (.cS [110, 117, 109]) .nil))))) .nil)) (.cons (.mut .app 1 (.cons (.tup (.cons (.cS [100, 111, 110, 101]) (.cons (.bn .str (.cons (.sl 2) .nil)) (.cons (.bin .Add (.ix (.ix (.sl 0) (.cI 1)) (.cI 2)) (.sl 3)) (.cons (.cS [110, 117, 109]) .nil))))) .nil)) (.cons (.mut .app 1 (.cons (.tup (.cons (.cS [110, 117, 109]) (.cons (.bn .str (.cons (.sl 2) .nil)) (.cons (.sl 3) (.cons (.cS [110, 117, 109]) .nil))))) .nil)) .nil))))
def B_f_other_edges : CB := (.cons (.asg 1 1 (.lc [4] (.one 4) (.seq (.gl 0)) .nil E_f_other_edges_0)) (.cons (.forr (.one 2) (.rng1 (.bn .len (.cons (.ix (.sl 0) (.cI 2)) .nil))) B_f_other_edges_0) (.cons (.ifs (.cmp .Gt (.bn .len (.cons (.ix (.sl 0) (.cI 2)) .nil)) (.cI 0)) (.cons (.mut .app 1 (.cons (.tup (.cons (.cS [110, 117, 109]) (.cons (.cS []) (.cons (.ix (.ix (.sl 0) (.cI 1)) (.cI 3)) (.cons (.cS [108, 101, 116]) .nil))))) .nil)) .nil) .nil) (.cons (.ret (.mv 1)) .nil))))
def F_f_other_edges : Fn := ⟨1, 4, B_f_other_edges, 1, false⟩
def N_f_edges_of : List Str := ["table", "edges", "form"]
def P_f_edges_of : List Str := ["table"]
abbrev B_f_edges_of_0 : CB := (.cons (.mut .ext 1 (.cons (.call false 3 (.cons (.sl 0) (.cons (.sl 2) .nil))) .nil)) (.cons (.mut .ext 1 (.cons (.call false 4 (.cons (.sl 0) (.cons (.sl 2) .nil))) .nil)) .nil))
def B_f_edges_of : CB := (.cons (.asg 1 1 (.call false 5 (.cons (.sl 0) .nil))) (.cons (.forr (.one 2) (.seq (.ix (.sl 0) (.cI 0))) B_f_edges_of_0) (.cons (.ret (.sset (.sl 1))) .nil)))
def F_f_edges_of : Fn := ⟨1, 2, B_f_edges_of, 1, false⟩
def N_f_letters_of : List Str := ["forms", "form"]
def P_f_letters_of : List Str := ["forms"]
def B_f_letters_of : CB := (.cons (.ret (.sset (.mt .join (.cS []) (.cons (.lc [1] (.one 1) (.seq (.sl 0)) .nil (.ix (.sl 1) (.cI 0))) .nil)))) .nil)
def F_f_letters_of : Fn := ⟨1, 1, B_f_letters_of, 1, false⟩
def N_f_signs_of : List Str := ["table", "letters", "signs", "k", "letter"]
def P_f_signs_of : List Str := ["table"]
def B_f_signs_of : CB := (.cons (.asg 1 0 (.call false 7 (.cons (.ix (.sl 0) (.cI 0)) .nil))) (.cons (.asg 2 0 (.bin .Add (.bin .Add (.lst (.cons (.cS [32]) .nil)) (.sl 1)) (.lc [3] (.one 3) (.rng1 (.bn .len (.cons (.ix (.sl 0) (.cI 2)) .nil))) .nil (.bn .str (.cons (.sl 3) .nil))))) (.cons (.ifs (.cmp .Gt (.bn .len (.cons (.ix (.ix (.sl 0) (.cI 1)) (.gl 2)) .nil)) (.cI 0)) (.cons (.asg 2 0 (.bin .Add (.sl 2) (.lc [4] (.one 4) (.seq (.sl 1)) .nil (.mt .upper (.sl 4) .nil)))) .nil) .nil) (.cons (.ret (.mt .join (.cS []) (.cons (.bn .sorted (.cons (.sl 2) .nil)) .nil))) .nil))))
def F_f_signs_of : Fn := ⟨1, 4, B_f_signs_of, 0, false⟩
def N_f_need_signs : List Str := ["table", "text", "signs", "place"]
def P_f_need_signs : List Str := ["table", "text"]
abbrev B_f_need_signs_0 : CB := (.cons (.ifs (.cmp .NotIn (.ix (.sl 1) (.sl 3)) (.sl 2)) (.cons (.bad) .nil) .nil) .nil)
def B_f_need_signs : CB := (.cons (.asg 2 0 (.call false 8 (.cons (.sl 0) .nil))) (.cons (.forr (.one 3) (.rng1 (.bn .len (.cons (.sl 1) .nil))) B_f_need_signs_0) .nil))
def F_f_need_signs : Fn := ⟨2, 2, B_f_need_signs, 0, false⟩
def N_f_text_fits : List Str := ["edge", "text", "place"]
def P_f_text_fits : List Str := ["edge", "text", "place"]
def B_f_text_fits : CB := (.cons (.ret (.cmp .Eq (.cut (.sl 1) (.sl 2) (.bin .Add (.sl 2) (.bn .len (.cons (.ix (.sl 0) (.cI 1)) .nil)))) (.ix (.sl 0) (.cI 1)))) .nil)
def F_f_text_fits : Fn := ⟨3, 0, B_f_text_fits, 0, false⟩
def N_f_cheapened : List Str := ["found", "edge", "rest", "price"]
def P_f_cheapened : List Str := ["found", "edge", "rest"]
def B_f_cheapened : CB := (.cons (.ifs (.cmp .Is (.sl 2) (.cN)) (.cons (.brk) .nil) .nil) (.cons (.asg 3 0 (.bin .Add (.bn .len (.cons (.ix (.sl 1) (.cI 2)) .nil)) (.sl 2))) (.cons (.ifs (.or (.cmp .Is (.ix (.sl 0) (.ix (.sl 1) (.cI 0))) (.cN)) (.one (.cmp .Lt (.sl 3) (.ix (.sl 0) (.ix (.sl 1) (.cI 0)))))) (.cons (.mut .set 0 (.cons (.sl 3) (.cons (.ix (.sl 1) (.cI 0)) .nil))) .nil) .nil) .nil)))
def F_f_cheapened : Fn := ⟨3, 1, B_f_cheapened, 0, true⟩
def N_f_prices_at : List Str := ["edges", "text", "place", "behind", "found", "state", "edge"]
def P_f_prices_at : List Str := ["edges", "text", "place", "behind"]
abbrev B_f_prices_at_0 : CB := (.cons (.mut .set 4 (.cons (.cN) (.cons (.sl 5) .nil))) (.cons (.ifs (.and (.cmp .Eq (.sl 2) (.bn .len (.cons (.sl 1) .nil))) (.one (.call false 1 (.cons (.sl 5) .nil)))) (.cons (.mut .set 4 (.cons (.cI 0) (.cons (.sl 5) .nil))) .nil) .nil) .nil))
abbrev B_f_prices_at_1 : CB := (.cons (.ifs (.and (.cmp .NotEq (.ix (.sl 6) (.cI 1)) (.cS [])) (.one (.call false 10 (.cons (.sl 6) (.cons (.sl 1) (.cons (.sl 2) .nil)))))) (.cons (.callM 11 4 (.cons (.sl 6) (.cons (.ix (.ix (.sl 3) (.bin .Add (.sl 2) (.bn .len (.cons (.ix (.sl 6) (.cI 1)) .nil)))) (.ix (.sl 6) (.cI 3))) .nil))) .nil) .nil) .nil)
abbrev B_f_prices_at_2 : CB := (.cons (.ifs (.cmp .Eq (.ix (.sl 6) (.cI 1)) (.cS [])) (.cons (.callM 11 4 (.cons (.sl 6) (.cons (.ix (.sl 4) (.ix (.sl 6) (.cI 3))) .nil))) .nil) .nil) .nil)
def B_f_prices_at : CB := (.cons (.asg 4 1 (.dnew)) (.cons (.forr (.one 5) (.seq (.gl 3)) B_f_prices_at_0) (.cons (.forr (.one 6) (.seq (.sl 0)) B_f_prices_at_1) (.cons (.forr (.one 6) (.seq (.sl 0)) B_f_prices_at_2) (.cons (.ret (.mv 4)) .nil)))))
def F_f_prices_at : Fn := ⟨4, 3, B_f_prices_at, 1, false⟩
def N_f_all_prices : List Str := ["edges", "text", "found", "back", "place"]
def P_f_all_prices : List Str := ["edges", "text"]
abbrev B_f_all_prices_0 : CB := (.cons (.asg 4 0 (.bin .Sub (.bn .len (.cons (.sl 1) .nil)) (.sl 3))) (.cons (.mut .set 2 (.cons (.callo 12 (.cons (.sl 0) (.cons (.sl 1) (.cons (.sl 4) (.cons (.sl 2) .nil))))) (.cons (.sl 4) .nil))) .nil))
def B_f_all_prices : CB := (.cons (.asg 2 1 (.dnew)) (.cons (.forr (.one 3) (.rng1 (.bin .Add (.bn .len (.cons (.sl 1) .nil)) (.cI 1))) B_f_all_prices_0) (.cons (.ret (.mv 2)) .nil)))
def F_f_all_prices : Fn := ⟨2, 3, B_f_all_prices, 1, false⟩
def N_f_next_step : List Str := ["edges", "text", "place", "state", "found", "edge", "rest"]
def P_f_next_step : List Str := ["edges", "text", "place", "state", "found"]
abbrev B_f_next_step_0 : CB := (.cons (.ifs (.and (.cmp .Eq (.ix (.sl 5) (.cI 0)) (.sl 3)) (.one (.call false 10 (.cons (.sl 5) (.cons (.sl 1) (.cons (.sl 2) .nil)))))) (.cons (.asg 6 0 (.ix (.ix (.sl 4) (.bin .Add (.sl 2) (.bn .len (.cons (.ix (.sl 5) (.cI 1)) .nil)))) (.ix (.sl 5) (.cI 3)))) (.cons (.ifs (.and (.cmp .IsNot (.sl 6) (.cN)) (.one (.cmp .Eq (.bin .Add (.bn .len (.cons (.ix (.sl 5) (.cI 2)) .nil)) (.sl 6)) (.ix (.ix (.sl 4) (.sl 2)) (.sl 3))))) (.cons (.ret (.sl 5)) .nil) .nil) .nil)) .nil) .nil)
def B_f_next_step : CB := (.cons (.forr (.one 5) (.seq (.sl 0)) B_f_next_step_0) (.cons (.ret (.cN)) .nil))
def F_f_next_step : Fn := ⟨5, 2, B_f_next_step, 0, false⟩
def N_f_written : List Str := ["table", "text", "edges", "found", "row", "steps", "place", "state", "edge"]
def P_f_written : List Str := ["table", "text"]
abbrev B_f_written_0 : CB := (.cons (.asg 8 0 (.call false 14 (.cons (.sl 2) (.cons (.sl 1) (.cons (.sl 6) (.cons (.sl 7) (.cons (.sl 3) .nil))))))) (.cons (.mut .app 5 (.cons (.sl 8) .nil)) (.cons (.asg 4 0 (.bin .Add (.sl 4) (.ix (.sl 8) (.cI 2)))) (.cons (.asg 6 0 (.bin .Add (.sl 6) (.bn .len (.cons (.ix (.sl 8) (.cI 1)) .nil)))) (.cons (.asg 7 0 (.ix (.sl 8) (.cI 3))) .nil)))))
def B_f_written : CB := (.cons (.exp (.call false 9 (.cons (.sl 0) (.cons (.sl 1) .nil)))) (.cons (.asg 2 0 (.call false 6 (.cons (.sl 0) .nil))) (.cons (.asg 3 0 (.call false 13 (.cons (.sl 2) (.cons (.sl 1) .nil)))) (.cons (.asg 4 0 (.tup .nil)) (.cons (.asg 5 1 (.lst .nil)) (.cons (.asg 6 0 (.cI 0)) (.cons (.asg 7 0 (.cS [111, 117, 116])) (.cons (.whl (.cmp .Gt (.ix (.ix (.sl 3) (.sl 6)) (.sl 7)) (.cI 0)) B_f_written_0) (.cons (.fz 5) (.cons (.ret (.tup (.cons (.sl 4) (.cons (.sl 5) .nil)))) .nil))))))))))
def F_f_written : Fn := ⟨2, 7, B_f_written, 0, false⟩
def N_f_law_cell : List Str := ["script", "k"]
def P_f_law_cell : List Str := ["script", "k"]
def B_f_law_cell : CB := (.cons (.ifs (.cmp .Lt (.sl 1) (.bn .len (.cons (.sl 0) .nil))) (.cons (.ret (.ix (.sl 0) (.sl 1))) .nil) .nil) (.cons (.ret (.cI 0)) .nil))
def F_f_law_cell : Fn := ⟨2, 0, B_f_law_cell, 0, false⟩
def N_f_law_draw : List Str := ["script", "k", "prime", "many", "mixed"]
def P_f_law_draw : List Str := ["script", "k", "prime", "many"]
def B_f_law_draw : CB := (.cons (.asg 4 0 (.bin .Mod (.bin .Add (.bin .Add (.bin .Mult (.call false 16 (.cons (.sl 0) (.cons (.sl 1) .nil))) (.cI 48271)) (.bin .Mult (.bin .Mult (.cI 7919) (.sl 1)) (.sl 1))) (.cI 11)) (.sl 2))) (.cons (.ret (.bin .Mod (.bin .Mod (.bin .Mult (.sl 4) (.cI 7919)) (.cI 999983)) (.sl 3))) .nil))
def F_f_law_draw : Fn := ⟨4, 1, B_f_law_draw, 0, false⟩
def N_f_law_whole : List Str := ["thing"]
def P_f_law_whole : List Str := ["thing"]
def B_f_law_whole : CB := (.cons (.ret (.and (.bn (.isI .int) (.cons (.sl 0) .nil)) (.one (.not (.bn (.isI .bool) (.cons (.sl 0) .nil)))))) .nil)
def F_f_law_whole : Fn := ⟨1, 0, B_f_law_whole, 0, false⟩
def N_f_law_cells : List Str := ["script", "k", "few", "count", "m"]
def P_f_law_cells : List Str := ["script", "k", "few"]
abbrev E_f_law_cells_0 : CE := .bin .Add (.cI 1) (.call false 17 (.cons (.sl 0) (.cons (.sl 1) (.cons (.bin .Add (.cI 10039) (.bin .Mult (.cI 22) (.sl 4))) (.cons (.sl 2) .nil)))))
def B_f_law_cells : CB := (.cons (.asg 3 0 (.bin .Add (.cI 1) (.call false 17 (.cons (.sl 0) (.cons (.sl 1) (.cons (.cI 10007) (.cons (.cI 2) .nil))))))) (.cons (.ifs (.cmp .Eq (.call false 17 (.cons (.sl 0) (.cons (.sl 1) (.cons (.cI 10009) (.cons (.cI 8) .nil))))) (.cI 0)) (.cons (.asg 3 0 (.bin .Add (.cI 1) (.call false 17 (.cons (.sl 0) (.cons (.sl 1) (.cons (.cI 10037) (.cons (.cI 4) .nil))))))) .nil) .nil) (.cons (.ret (.bn .tuple (.cons (.lc [4] (.one 4) (.rng1 (.sl 3)) .nil E_f_law_cells_0) .nil))) .nil)))
def F_f_law_cells : Fn := ⟨3, 2, B_f_law_cells, 0, false⟩
def N_f_law_letters : List Str := ["script", "count", "first", "step", "k"]
def P_f_law_letters : List Str := ["script"]
abbrev E_f_law_letters_0 : CE := .ix (.cS [97, 98, 99, 100, 101, 102, 103, 104, 105, 106, 107, 108, 109, 110, 111, 112, 113, 114, 115, 116, 117, 118, 119, 120, 121, 122]) (.bin .Mod (.bin .Add (.sl 2) (.bin .Mult (.sl 4) (.sl 3))) (.cI 26))
def B_f_law_letters : CB := (.cons (.asg 1 0 (.bin .Add (.cI 1) (.call false 17 (.cons (.sl 0) (.cons (.cI 0) (.cons (.cI 15013) (.cons (.cI 3) .nil))))))) (.cons (.ifs (.cmp .Eq (.call false 17 (.cons (.sl 0) (.cons (.cI 0) (.cons (.cI 15017) (.cons (.cI 6) .nil))))) (.cI 0)) (.cons (.asg 1 0 (.bin .Add (.cI 1) (.call false 17 (.cons (.sl 0) (.cons (.cI 0) (.cons (.cI 15031) (.cons (.cI 6) .nil))))))) .nil) .nil) (.cons (.asg 2 0 (.call false 17 (.cons (.sl 0) (.cons (.cI 1) (.cons (.cI 15053) (.cons (.cI 26) .nil)))))) (.cons (.asg 3 0 (.ix (.lst (.cons (.cI 1) (.cons (.cI 3) (.cons (.cI 5) (.cons (.cI 7) (.cons (.cI 9) (.cons (.cI 11) (.cons (.cI 15) .nil)))))))) (.call false 17 (.cons (.sl 0) (.cons (.cI 1) (.cons (.cI 15061) (.cons (.cI 7) .nil))))))) (.cons (.ret (.lc [4] (.one 4) (.rng1 (.sl 1)) .nil E_f_law_letters_0)) .nil)))))
def F_f_law_letters : Fn := ⟨1, 4, B_f_law_letters, 1, false⟩
def N_f_law_form : List Str := ["script", "k", "letters", "few", "size", "some", "bits", "places", "m"]
def P_f_law_form : List Str := ["script", "k", "letters", "few"]
abbrev E_f_law_form_0 : CE := .ix (.sl 2) (.call false 17 (.cons (.sl 0) (.cons (.bin .Add (.cI 10) (.sl 1)) (.cons (.bin .Add (.cI 20047) (.bin .Mult (.cI 22) (.sl 8))) (.cons (.bn .len (.cons (.sl 2) .nil)) .nil)))))
def B_f_law_form : CB := (.cons (.asg 4 0 (.bin .Add (.cI 1) (.call false 17 (.cons (.sl 0) (.cons (.bin .Add (.cI 10) (.sl 1)) (.cons (.cI 20021) (.cons (.cI 3) .nil))))))) (.cons (.ifs (.cmp .Eq (.call false 17 (.cons (.sl 0) (.cons (.bin .Add (.cI 10) (.sl 1)) (.cons (.cI 20023) (.cons (.cI 8) .nil))))) (.cI 0)) (.cons (.asg 4 0 (.bin .Add (.cI 1) (.call false 17 (.cons (.sl 0) (.cons (.bin .Add (.cI 10) (.sl 1)) (.cons (.cI 20029) (.cons (.cI 6) .nil))))))) .nil) .nil) (.cons (.asg 5 0 (.mt .join (.cS []) (.cons (.lc [8] (.one 8) (.rng1 (.sl 4)) .nil E_f_law_form_0) .nil))) (.cons (.asg 6 0 (.bin .Add (.cI 1) (.call false 17 (.cons (.sl 0) (.cons (.bin .Add (.cI 10) (.sl 1)) (.cons (.cI 25013) (.cons (.cI 15) .nil))))))) (.cons (.asg 7 0 (.mt .join (.cS []) (.cons (.lc [8] (.one 8) (.rng1 (.cI 4)) (.cons (.cmp .Eq (.bin .BitAnd (.bin .RShift (.sl 6) (.sl 8)) (.cI 1)) (.cI 1)) .nil) (.ix (.cS [119, 98, 109, 101]) (.sl 8))) .nil))) (.cons (.ret (.tup (.cons (.sl 5) (.cons (.call false 19 (.cons (.sl 0) (.cons (.bin .Add (.cI 20) (.sl 1)) (.cons (.sl 3) .nil)))) (.cons (.sl 7) .nil))))) .nil))))))
def F_f_law_form : Fn := ⟨4, 5, B_f_law_form, 0, false⟩
def N_f_law_forms : List Str := ["script", "few", "letters", "forms", "k", "form", "at", "one"]
def P_f_law_forms : List Str := ["script", "few"]
abbrev E_f_law_forms_0 : CE := .tup (.cons (.ix (.sl 2) (.sl 4)) (.cons (.call false 19 (.cons (.sl 0) (.cons (.bin .Add (.cI 4) (.sl 4)) (.cons (.sl 1) .nil)))) (.cons (.cS [119, 98, 109, 101]) .nil)))
abbrev B_f_law_forms_0 : CB := (.cons (.asg 5 0 (.call false 21 (.cons (.sl 0) (.cons (.sl 4) (.cons (.sl 2) (.cons (.sl 1) .nil)))))) (.cons (.ifs (.cmp .NotIn (.cut (.sl 5) (.cN) (.cI 2)) (.lc [7] (.one 7) (.seq (.sl 3)) .nil (.cut (.sl 7) (.cN) (.cI 2)))) (.cons (.asg 6 0 (.call false 17 (.cons (.sl 0) (.cons (.bin .Add (.cI 10) (.sl 4)) (.cons (.cI 25031) (.cons (.bin .Add (.bn .len (.cons (.sl 3) .nil)) (.cI 1)) .nil)))))) (.cons (.asg 3 0 (.bin .Add (.bin .Add (.cut (.sl 3) (.cN) (.sl 6)) (.lst (.cons (.sl 5) .nil))) (.cut (.sl 3) (.sl 6) (.cN)))) .nil)) .nil) .nil))
def B_f_law_forms : CB := (.cons (.asg 2 0 (.call false 20 (.cons (.sl 0) .nil))) (.cons (.asg 3 0 (.lc [4] (.one 4) (.rng1 (.bn .len (.cons (.sl 2) .nil))) .nil E_f_law_forms_0)) (.cons (.forr (.one 4) (.rng1 (.call false 17 (.cons (.sl 0) (.cons (.cI 2) (.cons (.cI 20011) (.cons (.cI 6) .nil)))))) B_f_law_forms_0) (.cons (.ret (.bn .tuple (.cons (.sl 3) .nil))) .nil))))
def F_f_law_forms : Fn := ⟨2, 6, B_f_law_forms, 0, false⟩
def N_f_law_mark : List Str := ["script", "k", "few"]
def P_f_law_mark : List Str := ["script", "k", "few"]
def B_f_law_mark : CB := (.cons (.ret (.cut (.call false 19 (.cons (.sl 0) (.cons (.sl 1) (.cons (.sl 2) .nil)))) (.cN) (.cI 2))) .nil)
def F_f_law_mark : Fn := ⟨3, 0, B_f_law_mark, 0, false⟩
def N_f_law_table : List Str := ["script", "few", "marks", "figures", "count", "m"]
def P_f_law_table : List Str := ["script"]
abbrev E_f_law_table_0 : CE := .bin .Add (.cI 1) (.call false 17 (.cons (.sl 0) (.cons (.cI 27) (.cons (.bin .Add (.cI 30091) (.bin .Mult (.cI 22) (.sl 5))) (.cons (.sl 1) .nil)))))
def B_f_law_table : CB := (.cons (.asg 1 0 (.ix (.lst (.cons (.cI 3) (.cons (.cI 6) (.cons (.cI 63) .nil)))) (.call false 17 (.cons (.sl 0) (.cons (.cI 2) (.cons (.cI 30011) (.cons (.cI 3) .nil))))))) (.cons (.asg 2 1 (.lst (.cons (.tup .nil) (.cons (.tup .nil) (.cons (.tup .nil) (.cons (.tup .nil) .nil)))))) (.cons (.ifs (.cmp .Eq (.call false 17 (.cons (.sl 0) (.cons (.cI 3) (.cons (.cI 30013) (.cons (.cI 3) .nil))))) (.cI 0)) (.cons (.mut .set 2 (.cons (.call false 23 (.cons (.sl 0) (.cons (.cI 25) (.cons (.sl 1) .nil)))) (.cons (.cI 0) .nil))) (.cons (.ifs (.cmp .Eq (.call false 17 (.cons (.sl 0) (.cons (.cI 3) (.cons (.cI 30029) (.cons (.cI 2) .nil))))) (.cI 0)) (.cons (.mut .set 2 (.cons (.call false 23 (.cons (.sl 0) (.cons (.cI 26) (.cons (.sl 1) .nil)))) (.cons (.cI 1) .nil))) .nil) .nil) .nil)) .nil) (.cons (.asg 3 0 (.lst .nil)) (.cons (.ifs (.cmp .Eq (.call false 17 (.cons (.sl 0) (.cons (.cI 3) (.cons (.cI 30047) (.cons (.cI 3) .nil))))) (.cI 0)) (.cons (.asg 4 0 (.bin .Add (.cI 1) (.call false 17 (.cons (.sl 0) (.cons (.cI 3) (.cons (.cI 30059) (.cons (.cI 3) .nil))))))) (.cons (.ifs (.cmp .Eq (.call false 17 (.cons (.sl 0) (.cons (.cI 3) (.cons (.cI 30071) (.cons (.cI 6) .nil))))) (.cI 0)) (.cons (.asg 4 0 (.bin .Add (.cI 1) (.call false 17 (.cons (.sl 0) (.cons (.cI 3) (.cons (.cI 30089) (.cons (.cI 10) .nil))))))) .nil) .nil) (.cons (.asg 3 0 (.lc [5] (.one 5) (.rng1 (.sl 4)) .nil E_f_law_table_0)) (.cons (.mut .set 2 (.cons (.call false 23 (.cons (.sl 0) (.cons (.cI 28) (.cons (.sl 1) .nil)))) (.cons (.cI 2) .nil))) (.cons (.mut .set 2 (.cons (.call false 23 (.cons (.sl 0) (.cons (.cI 29) (.cons (.sl 1) .nil)))) (.cons (.cI 3) .nil))) .nil))))) .nil) (.cons (.ret (.tup (.cons (.call false 22 (.cons (.sl 0) (.cons (.sl 1) .nil))) (.cons (.bn .tuple (.cons (.sl 2) .nil)) (.cons (.bn .tuple (.cons (.sl 3) .nil)) .nil))))) .nil))))))
def F_f_law_table : Fn := ⟨1, 5, B_f_law_table, 0, false⟩
def N_f_law_signs : List Str := ["table", "signs", "form", "k"]
def P_f_law_signs : List Str := ["table"]
abbrev B_f_law_signs_0 : CB := (.cons (.ifs (.and (.cmp .Eq (.bn .len (.cons (.ix (.sl 2) (.cI 0)) .nil)) (.cI 1)) (.one (.cmp .NotIn (.ix (.sl 2) (.cI 0)) (.sl 1)))) (.cons (.mut .app 1 (.cons (.ix (.sl 2) (.cI 0)) .nil)) (.cons (.ifs (.cmp .Gt (.bn .len (.cons (.ix (.ix (.sl 0) (.cI 1)) (.cI 0)) .nil)) (.cI 0)) (.cons (.mut .app 1 (.cons (.mt .upper (.ix (.sl 2) (.cI 0)) .nil) .nil)) .nil) .nil) .nil)) .nil) .nil)
def B_f_law_signs : CB := (.cons (.asg 1 1 (.bin .Add (.lst (.cons (.cS [32]) .nil)) (.lc [3] (.one 3) (.rng1 (.bn .len (.cons (.ix (.sl 0) (.cI 2)) .nil))) .nil (.bn .str (.cons (.sl 3) .nil))))) (.cons (.forr (.one 2) (.seq (.ix (.sl 0) (.cI 0))) B_f_law_signs_0) (.cons (.ret (.mv 1)) .nil)))
def F_f_law_signs : Fn := ⟨1, 3, B_f_law_signs, 1, false⟩
def N_f_law_text : List Str := ["script", "table", "count", "signs", "k"]
def P_f_law_text : List Str := ["script", "table", "count"]
abbrev E_f_law_text_0 : CE := .ix (.sl 3) (.call false 17 (.cons (.sl 0) (.cons (.bin .Add (.cI 31) (.sl 4)) (.cons (.cI 35023) (.cons (.bn .len (.cons (.sl 3) .nil)) .nil)))))
def B_f_law_text : CB := (.cons (.asg 3 0 (.call false 25 (.cons (.sl 1) .nil))) (.cons (.asg 3 0 (.bin .Add (.sl 3) (.cut (.sl 3) (.cI 1) (.cN)))) (.cons (.ret (.mt .join (.cS []) (.cons (.lc [4] (.one 4) (.rng1 (.sl 2)) .nil E_f_law_text_0) .nil))) .nil)))
def F_f_law_text : Fn := ⟨3, 2, B_f_law_text, 0, false⟩
def N_f_law_due : List Str := ["steps", "due", "many", "step"]
def P_f_law_due : List Str := ["steps"]
abbrev B_f_law_due_0 : CB := (.cons (.asg 2 0 (.bin .Add (.sl 2) (.bn .len (.cons (.ix (.sl 3) (.cI 2)) .nil)))) (.cons (.ifs (.cmp .In (.ix (.sl 3) (.cI 3)) (.lst (.cons (.cS [105, 110]) (.cons (.cS [97, 108, 108]) .nil)))) (.cons (.mut .app 1 (.cons (.sl 2) .nil)) .nil) .nil) .nil))
def B_f_law_due : CB := (.cons (.asg 1 1 (.lst .nil)) (.cons (.asg 2 0 (.cI 0)) (.cons (.forr (.one 3) (.seq (.sl 0)) B_f_law_due_0) (.cons (.ret (.mv 1)) .nil))))
def F_f_law_due : Fn := ⟨1, 3, B_f_law_due, 1, false⟩
def N_f_law_good : List Str := ["found", "due", "row", "k", "at"]
def P_f_law_good : List Str := ["found", "due", "row"]
abbrev B_f_law_good_0 : CB := (.cons (.asg 4 0 (.ix (.sl 0) (.sl 3))) (.cons (.ifs (.or (.not (.call false 18 (.cons (.sl 4) .nil))) (.or (.cmp .Lt (.sl 4) (.cI 1)) (.or (.cmp .GtE (.sl 4) (.bn .len (.cons (.sl 2) .nil))) (.or (.cmp .Eq (.ix (.sl 2) (.sl 4)) (.cI 0)) (.one (.cmp .Eq (.ix (.sl 2) (.bin .Sub (.sl 4) (.cI 1))) (.cI 0))))))) (.cons (.ret (.cB false)) .nil) .nil) (.cons (.ifs (.and (.cmp .Gt (.sl 3) (.cI 0)) (.one (.cmp .GtE (.ix (.sl 0) (.bin .Sub (.sl 3) (.cI 1))) (.sl 4)))) (.cons (.ret (.cB false)) .nil) .nil) .nil)))
def B_f_law_good : CB := (.cons (.ifs (.or (.not (.bn (.isI .list) (.cons (.sl 0) .nil))) (.one (.cmp .NotEq (.sl 0) (.sl 1)))) (.cons (.ret (.cB false)) .nil) .nil) (.cons (.forr (.one 3) (.rng1 (.bn .len (.cons (.sl 0) .nil))) B_f_law_good_0) (.cons (.ret (.cB true)) .nil)))
def F_f_law_good : Fn := ⟨3, 2, B_f_law_good, 0, false⟩
def N_f_law : List Str := ["script", "table", "count", "row", "steps", "due", "handed", "found"]
def P_f_law : List Str := ["script"]
def B_f_law : CB := (.cons (.asg 1 0 (.call false 24 (.cons (.sl 0) .nil))) (.cons (.asg 2 0 (.call false 17 (.cons (.sl 0) (.cons (.cI 2) (.cons (.cI 35027) (.cons (.cI 21) .nil)))))) (.cons (.ifs (.cmp .Eq (.call false 17 (.cons (.sl 0) (.cons (.cI 2) (.cons (.cI 35051) (.cons (.cI 4) .nil))))) (.cI 0)) (.cons (.asg 2 0 (.bin .Add (.cI 13) (.call false 17 (.cons (.sl 0) (.cons (.cI 30) (.cons (.cI 35053) (.cons (.cI 20) .nil))))))) .nil) .nil) (.cons (.unp (.cons (.one 3) (.cons (.one 4) .nil)) (.call false 15 (.cons (.sl 1) (.cons (.call false 26 (.cons (.sl 0) (.cons (.sl 1) (.cons (.sl 2) .nil)))) .nil)))) (.cons (.asg 5 0 (.call false 27 (.cons (.sl 4) .nil))) (.cons (.asg 6 0 (.bn .list (.cons (.sl 4) .nil))) (.cons (.asg 7 1 (.call false 0 (.cons (.sl 6) .nil))) (.cons (.ifs (.or (.not (.call true 28 (.cons (.sl 7) (.cons (.sl 5) (.cons (.sl 3) .nil))))) (.one (.cmp .NotEq (.sl 6) (.sl 4)))) (.cons (.ret (.cB false)) .nil) .nil) (.cons (.mut .app 7 (.cons (.cI 0) .nil)) (.cons (.ret (.and (.call false 28 (.cons (.call false 0 (.cons (.sl 6) .nil)) (.cons (.sl 5) (.cons (.sl 3) .nil)))) (.one (.cmp .Eq (.call false 0 (.cons (.lst .nil) .nil)) (.lst .nil))))) .nil))))))))))
def F_f_law : Fn := ⟨1, 7, B_f_law, 0, false⟩
def fns : List Fn := [F_f_hinges_of, F_f_may_end, F_f_from_outside, F_f_word_edges, F_f_great_edges, F_f_other_edges, F_f_edges_of, F_f_letters_of, F_f_signs_of, F_f_need_signs, F_f_text_fits, F_f_cheapened, F_f_prices_at, F_f_all_prices, F_f_next_step, F_f_written, F_f_law_cell, F_f_law_draw, F_f_law_whole, F_f_law_cells, F_f_law_letters, F_f_law_form, F_f_law_forms, F_f_law_mark, F_f_law_table, F_f_law_signs, F_f_law_text, F_f_law_due, F_f_law_good, F_f_law]
def fnN : List Str := ["hinges_of", "may_end", "from_outside", "word_edges", "great_edges", "other_edges", "edges_of", "letters_of", "signs_of", "need_signs", "text_fits", "cheapened", "prices_at", "all_prices", "next_step", "written", "_law_cell", "_law_draw", "_law_whole", "_law_cells", "_law_letters", "_law_form", "_law_forms", "_law_mark", "_law_table", "_law_signs", "_law_text", "_law_due", "_law_good", "law"]
def conN : List Str := ["ENDS", "ROADS", "GREAT", "STATES"]
def con : List D := [.tup [.str [111, 117, 116], .str [100, 111, 110, 101], .str [110, 117, 109]], .tup [.tup [.str [119], .str [111, 117, 116], .str [100, 111, 110, 101]], .tup [.str [98], .str [111, 117, 116], .str [105, 110]], .tup [.str [109], .str [105, 110], .str [105, 110]], .tup [.str [101], .str [105, 110], .str [100, 111, 110, 101]]], .int 0, .tup [.str [111, 117, 116], .str [105, 110], .str [100, 111, 110, 101], .str [110, 117, 109], .str [108, 101, 116], .str [97, 108, 108]]]
def L : St0 := ⟨fnN, fns, conN, con, 1000⟩
theorem call_f_hinges_of (n : Nat) (a0 : D) : L.call (n + 1) 0 [a0] = endR (exB (L.w n) B_f_hinges_of [some a0, none, none, none]) := (call_at (fn := F_f_hinges_of) rfl n _).trans rfl
theorem call_f_may_end (n : Nat) (a0 : D) : L.call (n + 1) 1 [a0] = endR (exB (L.w n) B_f_may_end [some a0]) := (call_at (fn := F_f_may_end) rfl n _).trans rfl
theorem call_f_from_outside (n : Nat) (a0 a1 : D) : L.call (n + 1) 2 [a0, a1] = endR (exB (L.w n) B_f_from_outside [some a0, some a1]) := (call_at (fn := F_f_from_outside) rfl n _).trans rfl
theorem call_f_word_edges (n : Nat) (a0 a1 : D) : L.call (n + 1) 3 [a0, a1] = endR (exB (L.w n) B_f_word_edges [some a0, some a1, none, none, none, none, none, none, none, none, none]) := (call_at (fn := F_f_word_edges) rfl n _).trans rfl
theorem call_f_great_edges (n : Nat) (a0 a1 : D) : L.call (n + 1) 4 [a0, a1] = endR (exB (L.w n) B_f_great_edges [some a0, some a1, none, none, none, none, none, none, none]) := (call_at (fn := F_f_great_edges) rfl n _).trans rfl
theorem call_f_other_edges (n : Nat) (a0 : D) : L.call (n + 1) 5 [a0] = endR (exB (L.w n) B_f_other_edges [some a0, none, none, none, none]) := (call_at (fn := F_f_other_edges) rfl n _).trans rfl
theorem call_f_edges_of (n : Nat) (a0 : D) : L.call (n + 1) 6 [a0] = endR (exB (L.w n) B_f_edges_of [some a0, none, none]) := (call_at (fn := F_f_edges_of) rfl n _).trans rfl
theorem call_f_letters_of (n : Nat) (a0 : D) : L.call (n + 1) 7 [a0] = endR (exB (L.w n) B_f_letters_of [some a0, none]) := (call_at (fn := F_f_letters_of) rfl n _).trans rfl
theorem call_f_signs_of (n : Nat) (a0 : D) : L.call (n + 1) 8 [a0] = endR (exB (L.w n) B_f_signs_of [some a0, none, none, none, none]) := (call_at (fn := F_f_signs_of) rfl n _).trans rfl
theorem call_f_need_signs (n : Nat) (a0 a1 : D) : L.call (n + 1) 9 [a0, a1] = endR (exB (L.w n) B_f_need_signs [some a0, some a1, none, none]) := (call_at (fn := F_f_need_signs) rfl n _).trans rfl
theorem call_f_text_fits (n : Nat) (a0 a1 a2 : D) : L.call (n + 1) 10 [a0, a1, a2] = endR (exB (L.w n) B_f_text_fits [some a0, some a1, some a2]) := (call_at (fn := F_f_text_fits) rfl n _).trans rfl
theorem call_f_cheapened (n : Nat) (a0 a1 a2 : D) : L.call (n + 1) 11 [a0, a1, a2] = endIO (exB (L.w n) B_f_cheapened [some a0, some a1, some a2, none]) := (call_io (fn := F_f_cheapened) rfl n _).trans rfl
theorem call_f_prices_at (n : Nat) (a0 a1 a2 a3 : D) : L.call (n + 1) 12 [a0, a1, a2, a3] = endR (exB (L.w n) B_f_prices_at [some a0, some a1, some a2, some a3, none, none, none]) := (call_at (fn := F_f_prices_at) rfl n _).trans rfl
theorem call_f_all_prices (n : Nat) (a0 a1 : D) : L.call (n + 1) 13 [a0, a1] = endR (exB (L.w n) B_f_all_prices [some a0, some a1, none, none, none]) := (call_at (fn := F_f_all_prices) rfl n _).trans rfl
theorem call_f_next_step (n : Nat) (a0 a1 a2 a3 a4 : D) : L.call (n + 1) 14 [a0, a1, a2, a3, a4] = endR (exB (L.w n) B_f_next_step [some a0, some a1, some a2, some a3, some a4, none, none]) := (call_at (fn := F_f_next_step) rfl n _).trans rfl
theorem call_f_written (n : Nat) (a0 a1 : D) : L.call (n + 1) 15 [a0, a1] = endR (exB (L.w n) B_f_written [some a0, some a1, none, none, none, none, none, none, none]) := (call_at (fn := F_f_written) rfl n _).trans rfl
theorem call_f_law_cell (n : Nat) (a0 a1 : D) : L.call (n + 1) 16 [a0, a1] = endR (exB (L.w n) B_f_law_cell [some a0, some a1]) := (call_at (fn := F_f_law_cell) rfl n _).trans rfl
theorem call_f_law_draw (n : Nat) (a0 a1 a2 a3 : D) : L.call (n + 1) 17 [a0, a1, a2, a3] = endR (exB (L.w n) B_f_law_draw [some a0, some a1, some a2, some a3, none]) := (call_at (fn := F_f_law_draw) rfl n _).trans rfl
theorem call_f_law_whole (n : Nat) (a0 : D) : L.call (n + 1) 18 [a0] = endR (exB (L.w n) B_f_law_whole [some a0]) := (call_at (fn := F_f_law_whole) rfl n _).trans rfl
theorem call_f_law_cells (n : Nat) (a0 a1 a2 : D) : L.call (n + 1) 19 [a0, a1, a2] = endR (exB (L.w n) B_f_law_cells [some a0, some a1, some a2, none, none]) := (call_at (fn := F_f_law_cells) rfl n _).trans rfl
theorem call_f_law_letters (n : Nat) (a0 : D) : L.call (n + 1) 20 [a0] = endR (exB (L.w n) B_f_law_letters [some a0, none, none, none, none]) := (call_at (fn := F_f_law_letters) rfl n _).trans rfl
theorem call_f_law_form (n : Nat) (a0 a1 a2 a3 : D) : L.call (n + 1) 21 [a0, a1, a2, a3] = endR (exB (L.w n) B_f_law_form [some a0, some a1, some a2, some a3, none, none, none, none, none]) := (call_at (fn := F_f_law_form) rfl n _).trans rfl
theorem call_f_law_forms (n : Nat) (a0 a1 : D) : L.call (n + 1) 22 [a0, a1] = endR (exB (L.w n) B_f_law_forms [some a0, some a1, none, none, none, none, none, none]) := (call_at (fn := F_f_law_forms) rfl n _).trans rfl
theorem call_f_law_mark (n : Nat) (a0 a1 a2 : D) : L.call (n + 1) 23 [a0, a1, a2] = endR (exB (L.w n) B_f_law_mark [some a0, some a1, some a2]) := (call_at (fn := F_f_law_mark) rfl n _).trans rfl
theorem call_f_law_table (n : Nat) (a0 : D) : L.call (n + 1) 24 [a0] = endR (exB (L.w n) B_f_law_table [some a0, none, none, none, none, none]) := (call_at (fn := F_f_law_table) rfl n _).trans rfl
theorem call_f_law_signs (n : Nat) (a0 : D) : L.call (n + 1) 25 [a0] = endR (exB (L.w n) B_f_law_signs [some a0, none, none, none]) := (call_at (fn := F_f_law_signs) rfl n _).trans rfl
theorem call_f_law_text (n : Nat) (a0 a1 a2 : D) : L.call (n + 1) 26 [a0, a1, a2] = endR (exB (L.w n) B_f_law_text [some a0, some a1, some a2, none, none]) := (call_at (fn := F_f_law_text) rfl n _).trans rfl
theorem call_f_law_due (n : Nat) (a0 : D) : L.call (n + 1) 27 [a0] = endR (exB (L.w n) B_f_law_due [some a0, none, none, none]) := (call_at (fn := F_f_law_due) rfl n _).trans rfl
theorem call_f_law_good (n : Nat) (a0 a1 a2 : D) : L.call (n + 1) 28 [a0, a1, a2] = endR (exB (L.w n) B_f_law_good [some a0, some a1, some a2, none, none]) := (call_at (fn := F_f_law_good) rfl n _).trans rfl
theorem call_f_law (n : Nat) (a0 : D) : L.call (n + 1) 29 [a0] = endR (exB (L.w n) B_f_law [some a0, none, none, none, none, none, none, none]) := (call_at (fn := F_f_law) rfl n _).trans rfl
end Cl
namespace Cl
open PySem PySem.Spec PyProof.Rows L2 PV
abbrev Cel (few : Int) (c : List Int) : Prop := ∀ x ∈ c, 1 ≤ x ∧ x ≤ few
def plc (m : Nat) : List Nat := (if m.testBit 0 then [119] else []) ++ (if m.testBit 1 then [98] else []) ++ (if m.testBit 2 then [109] else []) ++ (if m.testBit 3 then [101] else [])
/-- a form -/
structure Fm where
  t : List Nat
  c : List Int
  p : List Nat
def fmD (f : Fm) : D := .tup [.str f.t, tupI f.c, .str f.p]
abbrev chr1 (c : Nat) : D := .str [c]
structure FOk (lets : List Nat) (few : Int) (f : Fm) : Prop where
  ne : f.t ≠ []
  len : f.t.length ≤ 3
  own : ∀ c ∈ f.t, c ∈ lets
  c1 : 1 ≤ f.c.length
  c4 : f.c.length ≤ 4
  cel : Cel few f.c
  c3 : f.c.length ≠ 3
  pl : ∃ m : Nat, 1 ≤ m ∧ m < 16 ∧ f.p = plc m
/-- the letters -/
structure LetOk (lets : List Nat) : Prop where
  one : 1 ≤ lets.length
  six : lets.length ≤ 6
  nd : lets.Nodup
  az : ∀ c ∈ lets, 97 ≤ c ∧ c < 123
theorem ff (d : D) : (false = true → sc d = true) := fun z => by cases z
/-- a table -/
structure Tab where
  fs : List Fm
  m0 : List Int
  m1 : List Int
  m2 : List Int
  m3 : List Int
  fg : List Int
def mkD (T : Tab) : D := .tup [tupI T.m0, tupI T.m1, tupI T.m2, tupI T.m3]
def fsD (T : Tab) : D := .tup (T.fs.map fmD)
def tabD (T : Tab) : D := .tup [fsD T, mkD T, tupI T.fg]
theorem for_step {tg : Tg} {body : PV.Env → O} {d : D} {ds : List D} {ρ ρ1 ρ2 : PV.Env} (h1 : giveT tg d ρ = .ok ρ1) (h2 : body ρ1 = .nx ρ2) : forGo tg body (d :: ds) ρ = forGo tg body ds ρ2 := by
  conv => lhs; unfold forGo
  rw [h1]
  show (match body ρ1 with
    | .nx ρ'' => forGo tg body ds ρ''
    | .ct ρ'' => forGo tg body ds ρ''
    | .bk ρ'' => .nx ρ''
    | o => o) = _
  rw [h2]
theorem lc_of {α : Type} {turn : D → R (Option D)} (g f : α → D) : ∀ {l : List α} {acc : List D}, (∀ a ∈ l, turn (g a) = .ok (some (f a))) → acc.length + l.length ≤ 16777216 → lcGo turn (l.map g) acc = .ok (acc ++ l.map f)
  | [], acc, _, _ => by simp [lcGo]
  | a :: l, acc, h, hl => by
    have hl : acc.length + (l.length + 1) ≤ 16777216 := hl
    rw [List.map_cons]
    unfold lcGo
    rw [h a List.mem_cons_self]
    show R.need (acc.length < LIM) (lcGo turn (l.map g) (acc ++ [f a])) = _
    rw [need_p (by show acc.length < 16777216; omega), lc_of g f (fun d hd => h d (List.mem_cons_of_mem _ hd)) (by rw [List.length_append, List.length_singleton]; omega)]
    simp
theorem lc_run {α : Type} (w : Wld) (own : List Nat) (k : Nat) (elt : CE) (ρ : PV.Env) (g f : α → D) (l : List α) (hl : l.length ≤ 1000000) (hw : ∀ a ∈ l, giveT (.one k) (g a) (wipeD ρ own) = .ok ((wipeD ρ own).set k (some (g a)))) (he : ∀ a ∈ l, evE w elt ((wipeD ρ own).set k (some (g a))) = .ok (f a)) :
    lcGo (lcT w own (.one k) .nil elt ρ) (l.map g) [] = .ok (l.map f) := by
  have h := lc_of (turn := lcT w own (.one k) .nil elt ρ) g f (l := l) (acc := []) (fun a ha => by
    unfold lcT
    rw [hw a ha]
    show (match evL w .nil ((wipeD ρ own).set k (some (g a))) with
      | .ok [] => (match evE w elt ((wipeD ρ own).set k (some (g a))) with | .ok x => R.ok (some x) | _ => .bad)
      | .ok [.bl true] => (match evE w elt ((wipeD ρ own).set k (some (g a))) with | .ok x => .ok (some x) | _ => .bad)
      | .ok [.bl false] => .ok none
      | _ => .bad) = _
    rw [he a ha]
    rfl) (by show 0 + _ ≤ _; omega)
  rw [h, List.nil_append]
def Got (r : R D) (o : O) : Prop := endR o = r
theorem t32 (a b c : D) : ixD (.tup [a, b, c]) (.int 2) = .ok c := rfl
theorem in_s (c : Nat) (s : List Nat) : cmpD .In (chr1 c) (.str s) = .ok (.bl (decide (c ∈ s))) := rfl
theorem rng_cons (i n : Nat) : rngD (i : Int) ((i + (n + 1) : Nat) : Int) = .int (i : Int) :: rngD ((i + 1 : Nat) : Int) ((i + 1 + n : Nat) : Int) := by
  unfold rngD
  rw [show (((i + (n + 1) : Nat) : Int) - (i : Int)).toNat = n + 1 by omega, show (((i + 1 + n : Nat) : Int) - ((i + 1 : Nat) : Int)).toNat = n by omega, List.range_succ_eq_map]
  simp only [List.map_cons, List.map_map]
  refine congr (congrArg List.cons ?_) (List.map_congr_left fun k _ => ?_)
  · simp
  · show D.int ((i : Int) + ((k + 1 : Nat) : Int)) = D.int (((i + 1 : Nat) : Int) + (k : Int))
    have : (i : Int) + ((k + 1 : Nat) : Int) = ((i + 1 : Nat) : Int) + (k : Int) := by omega
    rw [this]
theorem rng_nil (i : Nat) : rngD (i : Int) ((i + 0 : Nat) : Int) = [] := by
  unfold rngD
  rw [show (((i + 0 : Nat) : Int) - (i : Int)).toNat = 0 by omega]
  rfl
theorem flat_len {α β : Type} (f : α → List β) (k : Nat) : ∀ l : List α, (∀ a ∈ l, (f a).length ≤ k) → (l.flatMap f).length ≤ k * l.length
  | [], _ => Nat.zero_le _
  | a :: l, h => by
    have h1 := h a List.mem_cons_self
    have h2 := flat_len f k l fun b hb => h b (List.mem_cons_of_mem _ hb)
    rw [List.flatMap_cons, List.length_append, List.length_cons, Nat.mul_succ]
    omega
theorem up_mk : ∀ s : List Nat, (∀ c ∈ s, c < 128) → Txt.upper (mkS s) = mkS (s.map upC)
  | [], _ => by decide +kernel
  | c :: r, h => by
    have e : mkS (c :: r) = (⟨#[c]⟩ : Str) ++ mkS r := (mkS_append [c] r).symm
    rw [e, PySem.W.KOpn.upper_app, PySem.W.KOpn.upper_one (h c List.mem_cons_self), up_mk r fun d hd => h d (List.mem_cons_of_mem _ hd)]
    exact mkS_append [upC c] (r.map upC)
theorem upper_ok (s : List Nat) (h : ∀ c ∈ s, c < 128) (hl : s.length ≤ 1000) : mtD .upper (.str s) [] = .ok (.str (s.map upC)) := by
  have e : upperL s = s.map upC := by
    unfold upperL
    rw [up_mk s h]
  show R.need (s.length ≤ 5592405 ∧ okS (upperL s)) (R.ok (D.str (upperL s))) = _
  rw [e]
  refine need_p ⟨by omega, by rw [List.length_map]; show s.length ≤ 16777216; omega, fun c hc => ?_⟩
  obtain ⟨d, hd, rfl⟩ := List.mem_map.mp hc
  have := h d hd
  unfold upC
  split <;> omega
def great (t : List Nat) : List Nat := match t with
  | [] => []
  | c :: r => upC c :: r
abbrev sOut : List Nat := [111, 117, 116]
abbrev sIn : List Nat := [105, 110]
abbrev sDone : List Nat := [100, 111, 110, 101]
abbrev sNum : List Nat := [110, 117, 109]
abbrev sLet : List Nat := [108, 101, 116]
abbrev sAll : List Nat := [97, 108, 108]
def eD (a t : List Nat) (c : List Int) (b : List Nat) : D := .tup [.str a, .str t, tupI c, .str b]
structure EF (f : Fm) : Prop where
  ne : f.t ≠ []
  len : f.t.length ≤ 6
  az : ∀ c ∈ f.t, c < 128
  c4 : f.c.length ≤ 4
  pl : ∃ m : Nat, m < 16 ∧ f.p = plc m
structure ET (T : Tab) : Prop where
  ef : ∀ f ∈ T.fs, EF f
  n24 : T.fs.length ≤ 24
  l0 : T.m0.length ≤ 2
  l1 : T.m1.length ≤ 2
  l2 : T.m2.length ≤ 2
  l3 : T.m3.length ≤ 2
  lf : T.fg.length ≤ 10
def outs (T : Tab) (s : List Nat) : List (List Nat) := if s = sOut ∧ T.fg ≠ [] then [sOut, sLet] else [s]
theorem outs_len (T : Tab) (s : List Nat) : (outs T s).length ≤ 2 := by unfold outs; split <;> simp
theorem len_tI (l : List Int) : bnD .len [tupI l] = .ok (.int (l.length : Int)) := by rw [len_t, List.length_map]
theorem add_tI (a b : List Int) (h : a.length + b.length ≤ 1000) : addD (tupI a) (tupI b) = .ok (tupI (a ++ b)) := by
  rw [addD_t _ _ (by simp only [List.length_map]; omega), ← List.map_append]
theorem pos_dec (l : List Int) : decide (0 < (l.length : Int)) = !decide (l = []) := by
  cases l with
  | nil => rfl
  | cons x l => simp
section
variable (n : Nat) (T : Tab) (s : List Nat)
theorem outs_ev (w : Wld) : exB w B_f_from_outside [some (tabD T), some (.str s)] = .rt (.lst ((outs T s).map D.str)) := by
  have h3 := len_tI T.fg
  have hp := pos_dec T.fg
  unfold tabD outs
  generalize fsD T = F at *
  generalize mkD T = M at *
  generalize T.fg = fg at *
  generalize tupI fg = G at *
  rw [B_f_from_outside]
  by_cases h1 : s = sOut
  · by_cases h2 : fg = []
    · simp [t32, h3, h1, h2]
    · have hq : 0 < fg.length := List.length_pos_iff.mpr h2
      simp [t32, h3, hq, h1, h2]
  · simp [h1]
theorem outside_ok : L.call (n + 1) 2 [tabD T, .str s] = .ok (.lst ((outs T s).map D.str)) := by
  rw [call_f_from_outside, outs_ev]
  rfl
end
def wItem (T : Tab) (f : Fm) (o st : List Nat) : List D := eD st f.t f.c o :: (if T.m0 = [] then [] else [eD st (great f.t) (T.m0 ++ f.c) o])
abbrev Rd3 := Nat × List Nat × List Nat
def roads : List Rd3 := [(119, sOut, sDone), (98, sOut, sIn), (109, sIn, sIn), (101, sIn, sDone)]
def wRoad (T : Tab) (f : Fm) (r : Rd3) : List D := (outs T r.2.1).flatMap (wItem T f r.2.2)
def wordL (T : Tab) (f : Fm) : List D := (roads.filter fun r => decide (r.1 ∈ f.p)).flatMap (wRoad T f)
theorem item_len (T : Tab) (f : Fm) (o st : List Nat) : (wItem T f o st).length ≤ 2 := by unfold wItem; split <;> simp
theorem road_len (T : Tab) (f : Fm) (r : Rd3) : (wRoad T f r).length ≤ 4 := by
  have h := flat_len (wItem T f r.2.2) 2 (outs T r.2.1) fun a _ => item_len T f r.2.2 a
  have := outs_len T r.2.1
  unfold wRoad
  omega
theorem word_len (T : Tab) (f : Fm) : (wordL T f).length ≤ 16 := by
  have h := flat_len (wRoad T f) 4 (roads.filter fun r => decide (r.1 ∈ f.p)) fun a _ => road_len T f a
  have := List.length_filter_le (fun r => decide (r.1 ∈ f.p)) roads
  have : roads.length = 4 := rfl
  unfold wordL
  omega
/-- a text with its first letter great -/
theorem great_ev (w : Wld) (ρ : PV.Env) (t : List Nat) (i : Nat) (hρ : slotD ρ i = .ok (.str t)) (hne : t ≠ []) (hl : t.length ≤ 6) (az : ∀ c ∈ t, c < 128) : evE w (.bin .Add (.mt .upper (.ix (.sl i) (.cI 0)) .nil) (.cut (.sl i) (.cI 1) (.cN))) ρ = .ok (.str (great t)) := by
  cases t with
  | nil => exact absurd rfl hne
  | cons c r =>
    have h0 : ixD (.str (c :: r)) (.int 0) = .ok (chr1 c) := ix_s (by decide) rfl
    have h1 := upper_ok [c] (fun d hd => az d (by rw [List.mem_singleton.mp hd]; exact List.mem_cons_self)) (show 1 ≤ 1000 by decide)
    have h2 : cut (c :: r) (some 1) none = r := by
      rw [cut_fromI _ 1 ⟨by decide, by simp only [List.length_cons]; omega⟩]
      rfl
    have hl : r.length + 1 ≤ 6 := hl
    have h3 := addD_s [upC c] r (show 1 + r.length ≤ 16777216 by omega)
    have h1 : mtD .upper (chr1 c) [] = .ok (.str [upC c]) := h1
    simp only [ev_bin, ev_mt, ev_ix, ev_cut, ev_sl, hρ, ev_cI, ev_cN, isN_cI, isN_N, part_i, part_n, R.ok_bind, h0, need_p (show Mt.rcv .upper (chr1 c) = true from rfl), ev_nil, h1, cut_s, h2, binD_add, h3]
    rfl
theorem app_ok (xs : List D) (d : D) (h : xs.length ≤ 10000) : mutD .app xs [d] = .ok (xs ++ [d]) := mut_app xs d (by omega)
theorem we_inner (T : Tab) (f : Fm) (hf : EF f) (h0 : T.m0.length ≤ 2) (w : Wld) (o : List Nat) (x0 x1 x4 x7 x8 : Option D) : ∀ (sts : List (List Nat)) (acc : List D) (x10 : Option D), acc.length + 2 * sts.length ≤ 1000 → ∃ y10, forGo (.one 10) (exB w B_f_word_edges_0) (sts.map D.str) [x0, x1, some (.str f.t), some (tupI f.c), x4, some (tupI T.m0), some (.lst acc), x7, x8, some (.str o), x10] = .nx [x0, x1, some (.str f.t), some (tupI f.c), x4, some (tupI T.m0), some (.lst (acc ++ sts.flatMap (wItem T f o))), x7, x8, some (.str o), y10]
  | [], acc, x10, _ => ⟨x10, by simp [forGo]⟩
  | st :: sts, acc, x10, hl => by
    have hl : acc.length + 2 * (sts.length + 1) ≤ 1000 := hl
    have il := item_len T f o st
    obtain ⟨y10, e⟩ := we_inner T f hf h0 w o x0 x1 x4 x7 x8 sts (acc ++ wItem T f o st) (some (.str st)) (by rw [List.length_append]; omega)
    refine ⟨y10, ?_⟩
    have hg : giveT (.one 10) (.str st) [x0, x1, some (.str f.t), some (tupI f.c), x4, some (tupI T.m0), some (.lst acc), x7, x8, some (.str o), x10] = .ok [x0, x1, some (.str f.t), some (tupI f.c), x4, some (tupI T.m0), some (.lst acc), x7, x8, some (.str o), some (.str st)] := by simp [R.need]
    have hb : exB w B_f_word_edges_0 [x0, x1, some (.str f.t), some (tupI f.c), x4, some (tupI T.m0), some (.lst acc), x7, x8, some (.str o), some (.str st)] = .nx [x0, x1, some (.str f.t), some (tupI f.c), x4, some (tupI T.m0), some (.lst (acc ++ wItem T f o st)), x7, x8, some (.str o), some (.str st)] := by
      have hc := hf.c4
      have ha := add_tI T.m0 f.c (by omega)
      have hgr := fun acc' => great_ev w [x0, x1, some (.str f.t), some (tupI f.c), x4, some (tupI T.m0), some (.lst acc'), x7, x8, some (.str o), some (.str st)] f.t 2 rfl hf.ne hf.len hf.az
      have h3 := len_tI T.m0
      have hp := pos_dec T.m0
      have a1 := app_ok acc (eD st f.t f.c o) (by omega)
      have a2 := app_ok (acc ++ [eD st f.t f.c o]) (eD st (great f.t) (T.m0 ++ f.c) o) (by rw [List.length_append, List.length_singleton]; omega)
      unfold wItem
      unfold eD at *
      generalize great f.t = G at *
      generalize tupI (T.m0 ++ f.c) = C2 at *
      generalize hm : T.m0 = m at *
      generalize tupI m = M at *
      generalize tupI f.c = C at *
      rw [B_f_word_edges_0, ex_cons, ex_mut]
      simp only [List.getElem?_cons_succ, List.getElem?_cons_zero, mutX_l, ev_cons, ev_nil, ev_tup, ev_sl, slotS, slot0, R.ok_bind, tupR_4, outL_ok, a1, mutO_ok, thenX_nx]
      simp only [List.set_cons_succ, List.set_cons_zero]
      rw [ex_cons, ex_ifs]
      simp only [ev_cmp, ev_bn, ev_cons, ev_nil, ev_sl, ev_cI, slotS, slot0, R.ok_bind, h3, gt_i, hp, out_ok]
      by_cases hz : m = []
      · simp [hz]
      · simp only [hz, decide_false, Bool.not_false, thenO_t, if_false]
        rw [ex_cons, ex_mut]
        simp only [List.getElem?_cons_succ, List.getElem?_cons_zero, mutX_l, ev_cons, ev_nil, ev_tup, ev_sl, slotS, slot0, R.ok_bind]
        rw [hgr]
        simp only [R.ok_bind, ev_bin, ev_sl, slotS, slot0, binD_add, ha, tupR_4, outL_ok, a2, mutO_ok, thenX_nx, ex_nil]
        simp
    rw [List.map_cons, for_step hg hb, e, List.flatMap_cons, List.append_assoc]
def roadD (r : Rd3) : D := .tup [chr1 r.1, .str r.2.1, .str r.2.2]
theorem con1 : L.conD 1 = .tup (roads.map roadD) := rfl
theorem con0 : L.conD 0 = .tup [.str sOut, .str sDone, .str sNum] := rfl
theorem we_outer (n : Nat) (T : Tab) (f : Fm) (hf : EF f) (h0 : T.m0.length ≤ 2) : ∀ (rs : List Rd3) (acc : List D) (x7 x8 x9 x10 : Option D), acc.length + 4 * rs.length ≤ 500 → ∃ y7 y8 y9 y10, forGo (.cons (.one 7) (.cons (.one 8) (.cons (.one 9) .nil))) (exB (L.w (n + 1)) B_f_word_edges_1) (rs.map roadD) [some (tabD T), some (fmD f), some (.str f.t), some (tupI f.c), some (.str f.p), some (tupI T.m0), some (.lst acc), x7, x8, x9, x10] = .nx [some (tabD T), some (fmD f), some (.str f.t), some (tupI f.c), some (.str f.p), some (tupI T.m0), some (.lst (acc ++ (rs.filter fun r => decide (r.1 ∈ f.p)).flatMap (wRoad T f))), y7, y8, y9, y10]
  | [], acc, x7, x8, x9, x10, _ => ⟨x7, x8, x9, x10, by simp [forGo]⟩
  | r :: rs, acc, x7, x8, x9, x10, hl => by
    have hl : acc.length + 4 * (rs.length + 1) ≤ 500 := hl
    have hg : giveT (.cons (.one 7) (.cons (.one 8) (.cons (.one 9) .nil))) (roadD r) [some (tabD T), some (fmD f), some (.str f.t), some (tupI f.c), some (.str f.p), some (tupI T.m0), some (.lst acc), x7, x8, x9, x10] = .ok [some (tabD T), some (fmD f), some (.str f.t), some (tupI f.c), some (.str f.p), some (tupI T.m0), some (.lst acc), some (chr1 r.1), some (.str r.2.1), some (.str r.2.2), x10] := by simp [roadD, R.need]
    by_cases hin : r.1 ∈ f.p
    · have rl := road_len T f r
      obtain ⟨z10, ei⟩ := we_inner T f hf h0 (L.w (n + 1)) r.2.2 (some (tabD T)) (some (fmD f)) (some (.str f.p)) (some (chr1 r.1)) (some (.str r.2.1)) (outs T r.2.1) acc x10 (by have := outs_len T r.2.1; omega)
      obtain ⟨y7, y8, y9, y10, e⟩ := we_outer n T f hf h0 rs (acc ++ wRoad T f r) (some (chr1 r.1)) (some (.str r.2.1)) (some (.str r.2.2)) z10 (by rw [List.length_append]; omega)
      refine ⟨y7, y8, y9, y10, ?_⟩
      have ho := (w_call L (n + 1) 2 _).trans (outside_ok n T r.2.1)
      have hb : exB (L.w (n + 1)) B_f_word_edges_1 [some (tabD T), some (fmD f), some (.str f.t), some (tupI f.c), some (.str f.p), some (tupI T.m0), some (.lst acc), some (chr1 r.1), some (.str r.2.1), some (.str r.2.2), x10] = .nx [some (tabD T), some (fmD f), some (.str f.t), some (tupI f.c), some (.str f.p), some (tupI T.m0), some (.lst (acc ++ wRoad T f r)), some (chr1 r.1), some (.str r.2.1), some (.str r.2.2), z10] := by
        rw [B_f_word_edges_1, ex_cons, ex_ifs]
        simp only [ev_cmp, ev_sl, slotS, slot0, R.ok_bind, in_s, decide_eq_true hin, out_ok, thenO_t]
        rw [ex_cons, ex_for]
        simp only [ev_seq, ev_call, ev_cons, ev_nil, ev_sl, slotS, slot0, R.ok_bind, ho, need_p (ff (.lst ((outs T r.2.1).map D.str))), seq_l, outL_ok]
        rw [ei]
        rfl
      rw [List.map_cons, for_step hg hb, e, List.filter_cons_of_pos (by simpa using hin), List.flatMap_cons, List.append_assoc]
    · obtain ⟨y7, y8, y9, y10, e⟩ := we_outer n T f hf h0 rs acc (some (chr1 r.1)) (some (.str r.2.1)) (some (.str r.2.2)) x10 (by omega)
      refine ⟨y7, y8, y9, y10, ?_⟩
      have hb : exB (L.w (n + 1)) B_f_word_edges_1 [some (tabD T), some (fmD f), some (.str f.t), some (tupI f.c), some (.str f.p), some (tupI T.m0), some (.lst acc), some (chr1 r.1), some (.str r.2.1), some (.str r.2.2), x10] = .nx [some (tabD T), some (fmD f), some (.str f.t), some (tupI f.c), some (.str f.p), some (tupI T.m0), some (.lst acc), some (chr1 r.1), some (.str r.2.1), some (.str r.2.2), x10] := by
        rw [B_f_word_edges_1, ex_cons, ex_ifs]
        simp only [ev_cmp, ev_sl, slotS, slot0, R.ok_bind, in_s, decide_eq_false hin, out_ok, thenO_f, ex_nil, thenX_nx]
      rw [List.map_cons, for_step hg hb, e, List.filter_cons_of_neg (by simpa using hin)]
theorem word_ok (n : Nat) (T : Tab) (f : Fm) (hf : EF f) (h0 : T.m0.length ≤ 2) : L.call (n + 2) 3 [tabD T, fmD f] = .ok (.lst (wordL T f)) := by
  rw [call_f_word_edges]
  show Got _ _
  obtain ⟨y7, y8, y9, y10, e⟩ := we_outer n T f hf h0 roads [] none none none none (by show 0 + 4 * 4 ≤ 500; decide)
  have i1 : ixD (tabD T) (.int 1) = .ok (mkD T) := rfl
  have i2 : ixD (mkD T) (.int 0) = .ok (tupI T.m0) := rfl
  have c1 : (L.w (n + 1)).con 1 = .tup (roads.map roadD) := con1
  have hg : giveT (.cons (.one 2) (.cons (.one 3) (.cons (.one 4) .nil))) (fmD f) [some (tabD T), some (fmD f), none, none, none, none, none, none, none, none, none] = .ok [some (tabD T), some (fmD f), some (.str f.t), some (tupI f.c), some (.str f.p), none, none, none, none, none, none] := by simp [fmD, R.need]
  have ew : wordL T f = (roads.filter fun r => decide (r.1 ∈ f.p)).flatMap (wRoad T f) := rfl
  rw [List.nil_append, ← ew] at e
  generalize wordL T f = W at *
  generalize roads.map roadD = RD at *
  generalize tabD T = TD at *
  generalize mkD T = M at *
  generalize fmD f = FD at *
  generalize tupI f.c = C at *
  generalize tupI T.m0 = M0 at *
  rw [B_f_word_edges]
  refine stepP (by rw [ex_unp, ev_sl, slotS, slot0, out_ok, hg, giveO_ok]) ?_
  refine stepP (ρ1 := [some TD, some FD, some (.str f.t), some C, some (.str f.p), some M0, none, none, none, none, none]) (by
    simp only [ex_asg, ev_ix, ev_sl, ev_cI, slot0, R.ok_bind, i1, i2, out_ok]
    rfl) ?_
  refine stepP (ρ1 := [some TD, some FD, some (.str f.t), some C, some (.str f.p), some M0, some (.lst []), none, none, none, none]) (by
    rw [ex_asg, ev_lst, ev_nil, R.ok_bind, lstR_0]
    rfl) ?_
  refine stepP (by rw [ex_for, ev_seq, ev_gl, c1, R.ok_bind, seq_t, outL_ok, e]) ?_
  exact endP (d := .lst W) (by simp) rfl
def aItem (T : Tab) (f : Fm) (st : List Nat) : List D := (if 119 ∈ f.p ∧ 1 < f.t.length then [eD st (f.t.map upC) (T.m1 ++ f.c) sDone] else []) ++ (if 98 ∈ f.p then [eD st (f.t.map upC) (T.m1 ++ f.c) sAll] else [])
def aTail (f : Fm) : List D := (if 109 ∈ f.p then [eD sAll (f.t.map upC) f.c sAll] else []) ++ (if 101 ∈ f.p then [eD sAll (f.t.map upC) f.c sDone] else [])
def greatL (T : Tab) (f : Fm) : List D := if T.m1 = [] then [] else (outs T sOut).flatMap (aItem T f) ++ aTail f
theorem aitem_len (T : Tab) (f : Fm) (st : List Nat) : (aItem T f st).length ≤ 2 := by
  unfold aItem
  rw [List.length_append]
  split <;> split <;> simp
theorem atail_len (f : Fm) : (aTail f).length ≤ 2 := by
  unfold aTail
  rw [List.length_append]
  split <;> split <;> simp
theorem great_len (T : Tab) (f : Fm) : (greatL T f).length ≤ 6 := by
  have h := flat_len (aItem T f) 2 (outs T sOut) fun a _ => aitem_len T f a
  have := outs_len T sOut
  have := atail_len f
  unfold greatL
  split
  · simp
  · rw [List.length_append]; omega
/-- a thing that may be put behind -/
theorem ext1 (w : Wld) (ρ : PV.Env) (c : CE) (b : Bool) (hc : evE w c ρ = .ok (.bl b)) (xs : CL) (d : D) (hx : evL w xs ρ = .ok [d]) (acc : List D) (hρ : ρ[6]? = some (some (.lst acc))) (hl : acc.length ≤ 10000) : exS w (.ifs c (.cons (.mut .app 6 xs) .nil) .nil) ρ = .nx (ρ.set 6 (some (.lst (acc ++ if b then [d] else [])))) := by
  have hs : ρ.set 6 (some (.lst acc)) = ρ := by
    refine List.ext_getElem? fun i => ?_
    rw [List.getElem?_set]
    split
    · rename_i h
      subst h
      rw [hρ]
      have : 6 < ρ.length := (List.getElem?_eq_some_iff.mp hρ).1
      rw [if_pos this]
    · rfl
  rw [ex_ifs, hc, out_ok]
  cases b with
  | false =>
    rw [thenO_f, ex_nil]
    simp [hs]
  | true =>
    rw [thenO_t, ex_cons, ex_mut, hρ, mutX_l, hx, outL_ok, app_ok acc d hl, mutO_ok, thenX_nx, ex_nil]
    rfl
theorem and_ev (w : Wld) (ρ : PV.Env) (a b : CE) (x y : Bool) (ha : evE w a ρ = .ok (.bl x)) (hb : evE w b ρ = .ok (.bl y)) : evE w (.and a (.one b)) ρ = .ok (.bl (x && y)) := by
  rw [ev_and, ha, R.ok_bind, ev_one, hb, asB_b, asB_b]
  cases x <;> rfl
theorem in_ev (w : Wld) (ρ : PV.Env) (c i : Nat) (s : List Nat) (h : slotD ρ i = .ok (.str s)) : evE w (.cmp .In (.cS [c]) (.sl i)) ρ = .ok (.bl (decide (c ∈ s))) := by
  rw [ev_cmp, ev_cS, R.ok_bind, ev_sl, h, R.ok_bind]
  exact in_s c s
theorem len1_ev (w : Wld) (ρ : PV.Env) (i : Nat) (s : List Nat) (h : slotD ρ i = .ok (.str s)) : evE w (.cmp .Gt (.bn .len (.cons (.sl i) .nil)) (.cI 1)) ρ = .ok (.bl (decide (1 < s.length))) := by
  rw [ev_cmp, ev_bn, ev_cons, ev_sl, h, R.ok_bind, ev_nil, R.ok_bind, R.ok_bind, len_s, R.ok_bind, ev_cI, R.ok_bind, gt_i]
  congr 2
  exact decide_eq_decide.mpr (by omega)
theorem if_and (a b : Prop) [Decidable a] [Decidable b] (l : List D) : (if (decide a && decide b) = true then l else []) = if a ∧ b then l else [] := by
  by_cases h1 : a <;> by_cases h2 : b <;> simp [h1, h2]
theorem if_dec (a : Prop) [Decidable a] (l : List D) : (if decide a = true then l else []) = if a then l else [] := by
  by_cases h1 : a <;> simp [h1]
theorem ge_inner (T : Tab) (f : Fm) (hf : EF f) (h1 : T.m1.length ≤ 2) (w : Wld) (x0 x1 : Option D) : ∀ (sts : List (List Nat)) (acc : List D) (x8 : Option D), acc.length + 2 * sts.length ≤ 1000 → ∃ y8, forGo (.one 8) (exB w B_f_great_edges_0) (sts.map D.str) [x0, x1, some (.str f.t), some (tupI f.c), some (.str f.p), some (tupI T.m1), some (.lst acc), some (.str (f.t.map upC)), x8] = .nx [x0, x1, some (.str f.t), some (tupI f.c), some (.str f.p), some (tupI T.m1), some (.lst (acc ++ sts.flatMap (aItem T f))), some (.str (f.t.map upC)), y8]
  | [], acc, x8, _ => ⟨x8, by simp [forGo]⟩
  | st :: sts, acc, x8, hl => by
    have hl : acc.length + 2 * (sts.length + 1) ≤ 1000 := hl
    have il := aitem_len T f st
    obtain ⟨y8, e⟩ := ge_inner T f hf h1 w x0 x1 sts (acc ++ aItem T f st) (some (.str st)) (by rw [List.length_append]; omega)
    refine ⟨y8, ?_⟩
    have hg : giveT (.one 8) (.str st) [x0, x1, some (.str f.t), some (tupI f.c), some (.str f.p), some (tupI T.m1), some (.lst acc), some (.str (f.t.map upC)), x8] = .ok [x0, x1, some (.str f.t), some (tupI f.c), some (.str f.p), some (tupI T.m1), some (.lst acc), some (.str (f.t.map upC)), some (.str st)] := by simp [R.need]
    have hb : exB w B_f_great_edges_0 [x0, x1, some (.str f.t), some (tupI f.c), some (.str f.p), some (tupI T.m1), some (.lst acc), some (.str (f.t.map upC)), some (.str st)] = .nx [x0, x1, some (.str f.t), some (tupI f.c), some (.str f.p), some (tupI T.m1), some (.lst (acc ++ aItem T f st)), some (.str (f.t.map upC)), some (.str st)] := by
      have hc := hf.c4
      have ha := add_tI T.m1 f.c (by omega)
      unfold aItem
      rw [← if_and, ← if_dec (98 ∈ f.p)]
      unfold eD
      generalize f.t.map upC = U at *
      generalize tupI (T.m1 ++ f.c) = C2 at *
      generalize tupI T.m1 = M at *
      generalize tupI f.c = C at *
      have ev : ∀ (acc' : List D) (b : List Nat), evL w (.cons (.tup (.cons (.sl 8) (.cons (.sl 7) (.cons (.bin .Add (.sl 5) (.sl 3)) (.cons (.cS b) .nil))))) .nil) [x0, x1, some (.str f.t), some C, some (.str f.p), some M, some (.lst acc'), some (.str U), some (.str st)] = .ok [.tup [.str st, .str U, C2, .str b]] := fun acc' b => by
        simp only [ev_cons, ev_nil, ev_tup, ev_bin, ev_sl, ev_cS, slotS, slot0, R.ok_bind, binD_add, ha, tupR_4]
      rw [B_f_great_edges_0]
      rw [ex_cons, ext1 w _ _ _ (and_ev w _ _ _ _ _ (in_ev w _ 119 4 f.p rfl) (len1_ev w _ 2 f.t rfl)) _ _ (ev acc sDone) acc rfl (by omega), thenX_nx]
      simp only [List.set_cons_succ, List.set_cons_zero]
      rw [ex_cons, ext1 w _ _ _ (in_ev w _ 98 4 f.p rfl) _ _ (ev _ sAll) _ rfl (by
        rw [List.length_append]
        split <;> simp <;> omega), thenX_nx, ex_nil]
      simp only [List.set_cons_succ, List.set_cons_zero, List.append_assoc]
    rw [List.map_cons, for_step hg hb, e, List.flatMap_cons, List.append_assoc]
theorem great_ok (n : Nat) (T : Tab) (f : Fm) (hf : EF f) (h1 : T.m1.length ≤ 2) : L.call (n + 2) 4 [tabD T, fmD f] = .ok (.lst (greatL T f)) := by
  rw [call_f_great_edges]
  show Got _ _
  obtain ⟨y8, e⟩ := ge_inner T f hf h1 (L.w (n + 1)) (some (tabD T)) (some (fmD f)) (outs T sOut) [] none (by have := outs_len T sOut; simp; omega)
  have i1 : ixD (tabD T) (.int 1) = .ok (mkD T) := rfl
  have i2 : ixD (mkD T) (.int 1) = .ok (tupI T.m1) := rfl
  have hg : giveT (.cons (.one 2) (.cons (.one 3) (.cons (.one 4) .nil))) (fmD f) [some (tabD T), some (fmD f), none, none, none, none, none, none, none] = .ok [some (tabD T), some (fmD f), some (.str f.t), some (tupI f.c), some (.str f.p), none, none, none, none] := by simp [fmD, R.need]
  have hu := upper_ok f.t hf.az (by have := hf.len; omega)
  have ho := (w_call L (n + 1) 2 _).trans (outside_ok n T sOut)
  have h3 := len_tI T.m1
  have hfl := flat_len (aItem T f) 2 (outs T sOut) fun a _ => aitem_len T f a
  have hol := outs_len T sOut
  have eg : greatL T f = if T.m1 = [] then [] else (outs T sOut).flatMap (aItem T f) ++ ((if decide (109 ∈ f.p) = true then [eD sAll (f.t.map upC) f.c sAll] else []) ++ (if decide (101 ∈ f.p) = true then [eD sAll (f.t.map upC) f.c sDone] else [])) := by
    rw [if_dec, if_dec]
    rfl
  rw [List.nil_append] at e
  rw [eg]
  unfold eD
  generalize (outs T sOut).flatMap (aItem T f) = A at *
  generalize (outs T sOut).map D.str = OS at *
  generalize f.t.map upC = U at *
  generalize tabD T = TD at *
  generalize mkD T = M at *
  generalize fmD f = FD at *
  generalize tupI f.c = C at *
  generalize hm1 : T.m1 = m1 at *
  generalize tupI m1 = M1 at *
  rw [B_f_great_edges]
  refine stepP (by rw [ex_unp, ev_sl, slotS, slot0, out_ok, hg, giveO_ok]) ?_
  refine stepP (ρ1 := [some TD, some FD, some (.str f.t), some C, some (.str f.p), some M1, none, none, none]) (by
    simp only [ex_asg, ev_ix, ev_sl, ev_cI, slot0, R.ok_bind, i1, i2, out_ok]
    rfl) ?_
  refine stepP (ρ1 := [some TD, some FD, some (.str f.t), some C, some (.str f.p), some M1, some (.lst []), none, none]) (by
    rw [ex_asg, ev_lst, ev_nil, R.ok_bind, lstR_0]
    rfl) ?_
  have ht : evE (L.w (n + 1)) (.cmp .Eq (.bn .len (.cons (.sl 5) .nil)) (.cI 0)) [some TD, some FD, some (.str f.t), some C, some (.str f.p), some M1, some (.lst []), none, none] = .ok (.bl (decide (m1 = []))) := by
    simp only [ev_cmp, ev_bn, ev_cons, ev_nil, ev_sl, ev_cI, slotS, slot0, R.ok_bind, h3, eq_i]
    congr 2
    exact decide_eq_decide.mpr ⟨fun z => List.length_eq_zero_iff.mp (by omega), fun z => by rw [z]; rfl⟩
  by_cases hz : m1 = []
  · rw [if_pos hz]
    refine endP (d := .lst []) (by
      rw [ex_ifs, ht, decide_eq_true hz, out_ok, thenO_t, ex_cons, ex_ret, ev_mv]
      rfl) rfl
  · rw [if_neg hz]
    refine stepP (ρ1 := [some TD, some FD, some (.str f.t), some C, some (.str f.p), some M1, some (.lst []), none, none]) (by rw [ex_ifs, ht, decide_eq_false hz, out_ok, thenO_f, ex_nil]) ?_
    refine stepP (ρ1 := [some TD, some FD, some (.str f.t), some C, some (.str f.p), some M1, some (.lst []), some (.str U), none]) (by
      simp only [ex_asg, ev_mt, ev_sl, ev_nil, slotS, slot0, R.ok_bind, need_p (show Mt.rcv .upper (.str f.t) = true from rfl), hu, out_ok]
      rfl) ?_
    refine stepP (by
      rw [ex_for, ev_seq, ev_call, ev_cons, ev_sl, slot0, R.ok_bind, ev_cons, ev_cS, R.ok_bind, ev_nil, R.ok_bind, R.ok_bind, R.ok_bind, ho, R.ok_bind, need_p (ff _), R.ok_bind, seq_l, outL_ok, e]) ?_
    have ev : ∀ (acc' : List D) (b : List Nat), evL (L.w (n + 1)) (.cons (.tup (.cons (.cS sAll) (.cons (.sl 7) (.cons (.sl 3) (.cons (.cS b) .nil))))) .nil) [some TD, some FD, some (.str f.t), some C, some (.str f.p), some M1, some (.lst acc'), some (.str U), y8] = .ok [.tup [.str sAll, .str U, C, .str b]] := fun acc' b => by
      simp only [ev_cons, ev_nil, ev_tup, ev_sl, ev_cS, slotS, slot0, R.ok_bind, tupR_4]
    refine stepP (ext1 (L.w (n + 1)) _ _ _ (in_ev (L.w (n + 1)) _ 109 4 f.p rfl) _ _ (ev A sAll) A rfl (by omega)) ?_
    simp only [List.set_cons_succ, List.set_cons_zero]
    refine stepP (ext1 (L.w (n + 1)) _ _ _ (in_ev (L.w (n + 1)) _ 101 4 f.p rfl) _ _ (ev _ sDone) _ rfl (by
      rw [List.length_append]
      split <;> simp <;> omega)) ?_
    simp only [List.set_cons_succ, List.set_cons_zero, List.append_assoc]
    exact endP (d := .lst (A ++ ((if decide (109 ∈ f.p) = true then [D.tup [.str sAll, .str U, C, .str sAll]] else []) ++ (if decide (101 ∈ f.p) = true then [D.tup [.str sAll, .str U, C, .str sDone]] else [])))) (by rw [ex_ret, ev_mv]; rfl) rfl
def blanks : List D := [eD sOut [32] [0] sOut, eD sDone [32] [0] sOut, eD sNum [32] [0] sOut]
def figE (T : Tab) (k : Nat) (c : Int) : List D := [eD sOut [48 + k] (T.m2 ++ [c]) sNum, eD sDone [48 + k] (T.m2 ++ [c]) sNum, eD sNum [48 + k] [c] sNum]
def figsL (T : Tab) : Nat → List Int → List D
  | _, [] => []
  | k, c :: r => figE T k c ++ figsL T (k + 1) r
def tailL (T : Tab) : List D := if T.fg = [] then [] else [eD sNum [] T.m3 sLet]
def otherL (T : Tab) : List D := blanks ++ figsL T 0 T.fg ++ tailL T
theorem figs_len (T : Tab) : ∀ (r : List Int) (k : Nat), (figsL T k r).length = 3 * r.length
  | [], _ => rfl
  | c :: r, k => by
    show (figE T k c ++ figsL T (k + 1) r).length = _
    rw [List.length_append, figs_len T r (k + 1), List.length_cons]
    show 3 + _ = _
    omega
theorem tail_len (T : Tab) : (tailL T).length ≤ 1 := by unfold tailL; split <;> simp
theorem other_len (T : Tab) (h : T.fg.length ≤ 10) : (otherL T).length ≤ 34 := by
  have h1 := figs_len T T.fg 0
  have h2 := tail_len T
  unfold otherL
  rw [List.length_append, List.length_append, h1]
  show 3 + _ + _ ≤ _
  omega
theorem num_all : ∀ k : Fin 10, digits k.val = [48 + k.val] := by decide +kernel
theorem bn_strI (i : Int) (h1 : 0 ≤ i) (h2 : i < 1000000000000000000) : bnD .str [.int i] = .ok (.str (digits i.toNat)) := if_pos ⟨h1, h2⟩
theorem str_i (k : Nat) (h : k < 10) : bnD .str [.int (k : Int)] = .ok (chr1 (48 + k)) := by
  have e := num_all ⟨k, h⟩
  rw [bn_strI _ (by omega) (by omega), Int.toNat_natCast, e]
theorem fg_ix {pre : List Int} {c : Int} {r : List Int} : ixD (tupI (pre ++ c :: r)) (.int (pre.length : Int)) = .ok (.int c) := ix_t (by omega) (by simp)
theorem oe_turn (w : Wld) (TD M G M2 C2 S : D) (K c : Int) (acc : List D) (x3 x4 : Option D) (i2 : ixD TD (.int 2) = .ok G) (i1 : ixD TD (.int 1) = .ok M) (j2 : ixD M (.int 2) = .ok M2) (hx : ixD G (.int K) = .ok (.int c)) (hs : bnD .str [.int K] = .ok S) (ha : addD M2 (.tup [.int c]) = .ok C2) (hl : acc.length ≤ 1000) :
    exB w B_f_other_edges_0 [some TD, some (.lst acc), some (.int K), x3, x4] = .nx [some TD, some (.lst (acc ++ [.tup [.str sOut, S, C2, .str sNum], .tup [.str sDone, S, C2, .str sNum], .tup [.str sNum, S, .tup [.int c], .str sNum]])), some (.int K), some (.tup [.int c]), x4] := by
  have a1 := app_ok acc (.tup [.str sOut, S, C2, .str sNum]) (by omega)
  have a2 := app_ok (acc ++ [.tup [.str sOut, S, C2, .str sNum]]) (.tup [.str sDone, S, C2, .str sNum]) (by simp; omega)
  have a3 := app_ok (acc ++ [.tup [.str sOut, S, C2, .str sNum]] ++ [.tup [.str sDone, S, C2, .str sNum]]) (.tup [.str sNum, S, .tup [.int c], .str sNum]) (by simp; omega)
  rw [B_f_other_edges_0, ex_cons, ex_asg]
  simp only [ev_tup, ev_cons, ev_nil, ev_ix, ev_sl, ev_cI, slotS, slot0, R.ok_bind, i2, hx, tupR_1, out_ok]
  rw [if_pos (by show 3 < 5; decide), thenX_nx]
  simp only [List.set_cons_succ, List.set_cons_zero]
  rw [ex_cons, ex_mut]
  simp only [List.getElem?_cons_succ, List.getElem?_cons_zero, mutX_l, ev_cons, ev_nil, ev_tup, ev_cS, ev_bn, ev_bin, ev_ix, ev_sl, ev_cI, slotS, slot0, R.ok_bind, hs, i1, j2, binD_add, ha, tupR_4, outL_ok, a1, mutO_ok, thenX_nx]
  simp only [List.set_cons_succ, List.set_cons_zero]
  rw [ex_cons, ex_mut]
  simp only [List.getElem?_cons_succ, List.getElem?_cons_zero, mutX_l, ev_cons, ev_nil, ev_tup, ev_cS, ev_bn, ev_bin, ev_ix, ev_sl, ev_cI, slotS, slot0, R.ok_bind, hs, i1, j2, binD_add, ha, tupR_4, outL_ok, a2, mutO_ok, thenX_nx]
  simp only [List.set_cons_succ, List.set_cons_zero]
  rw [ex_cons, ex_mut]
  simp only [List.getElem?_cons_succ, List.getElem?_cons_zero, mutX_l, ev_cons, ev_nil, ev_tup, ev_cS, ev_bn, ev_sl, ev_cI, slotS, slot0, R.ok_bind, hs, tupR_4, outL_ok, a3, mutO_ok, thenX_nx, ex_nil]
  simp
theorem give2 (x0 x1 x2 x3 x4 : Option D) (K : Int) : giveT (.one 2) (.int K) [x0, x1, x2, x3, x4] = .ok [x0, x1, some (.int K), x3, x4] := by simp [R.need]
theorem oe_one (T : Tab) (h2 : T.m2.length ≤ 2) (hf : T.fg.length ≤ 10) (w : Wld) (x3 x4 : Option D) (c : Int) (rst pre : List Int) (acc : List D) (e : T.fg = pre ++ c :: rst) (hl : acc.length ≤ 1000) (K : Int) (hK : K = (pre.length : Int)) :
    exB w B_f_other_edges_0 [some (tabD T), some (.lst acc), some (.int K), x3, x4] = .nx [some (tabD T), some (.lst (acc ++ figE T pre.length c)), some (.int K), some (tupI [c]), x4] := by
  have hk : pre.length < 10 := by rw [e] at hf; simp at hf; omega
  exact oe_turn w (tabD T) (mkD T) (tupI T.fg) (tupI T.m2) (tupI (T.m2 ++ [c])) (chr1 (48 + pre.length)) K c acc x3 x4 rfl rfl rfl (by rw [e, hK]; exact fg_ix) (by rw [hK]; exact str_i pre.length hk) (add_tI T.m2 [c] (by simp; omega)) hl
theorem oe_go (T : Tab) (h2 : T.m2.length ≤ 2) (hf : T.fg.length ≤ 10) (w : Wld) (x4 : Option D) : ∀ (rst pre : List Int) (acc : List D) (x2 x3 : Option D), T.fg = pre ++ rst → acc.length + 3 * rst.length ≤ 1000 → ∃ y2 y3, forGo (.one 2) (exB w B_f_other_edges_0) (rngD (pre.length : Int) ((pre.length + rst.length : Nat) : Int)) [some (tabD T), some (.lst acc), x2, x3, x4] = .nx [some (tabD T), some (.lst (acc ++ figsL T pre.length rst)), y2, y3, x4]
  | [], pre, acc, x2, x3, _, _ => ⟨x2, x3, by rw [List.length_nil, rng_nil, figsL, List.append_nil, forGo]⟩
  | c :: rst, pre, acc, x2, x3, e, hl => by
    have hl : acc.length + 3 * (rst.length + 1) ≤ 1000 := hl
    obtain ⟨y2, y3, ih⟩ := oe_go T h2 hf w x4 rst (pre ++ [c]) (acc ++ figE T pre.length c) (some (.int (pre.length : Int))) (some (tupI [c])) (by rw [e]; simp) (by rw [List.length_append]; show _ + 3 + _ ≤ _; omega)
    refine ⟨y2, y3, ?_⟩
    have hb := oe_one T h2 hf w x3 x4 c rst pre acc e (by omega) _ rfl
    rw [List.length_append, List.length_singleton] at ih
    rw [List.length_cons, rng_cons, for_step (give2 _ _ _ _ _ _) hb, ih, List.append_assoc]
    rfl
theorem tail_ev (w : Wld) (T : Tab) (acc : List D) (h : acc.length ≤ 1000) (x2 x3 x4 : Option D) (more : List (Option D)) : exS w (.ifs (.cmp .Gt (.bn .len (.cons (.ix (.sl 0) (.cI 2)) .nil)) (.cI 0)) (.cons (.mut .app 1 (.cons (.tup (.cons (.cS [110, 117, 109]) (.cons (.cS []) (.cons (.ix (.ix (.sl 0) (.cI 1)) (.cI 3)) (.cons (.cS [108, 101, 116]) .nil))))) .nil)) .nil) .nil) (some (tabD T) :: some (.lst acc) :: x2 :: x3 :: x4 :: more) = .nx (some (tabD T) :: some (.lst (acc ++ tailL T)) :: x2 :: x3 :: x4 :: more) := by
  have i2 : ixD (tabD T) (.int 2) = .ok (tupI T.fg) := rfl
  have i1 : ixD (tabD T) (.int 1) = .ok (mkD T) := rfl
  have j3 : ixD (mkD T) (.int 3) = .ok (tupI T.m3) := rfl
  have h3 := len_tI T.fg
  have hp := pos_dec T.fg
  have a1 := app_ok acc (eD sNum [] T.m3 sLet) (by omega)
  unfold tailL
  unfold eD at *
  generalize T.fg = fg at *
  generalize tupI fg = G at *
  generalize tupI T.m3 = M3 at *
  generalize tabD T = TD at *
  generalize mkD T = M at *
  rw [ex_ifs]
  simp only [ev_cmp, ev_bn, ev_cons, ev_nil, ev_ix, ev_sl, ev_cI, slot0, R.ok_bind, i2, h3, gt_i, hp, out_ok]
  by_cases hz : fg = []
  · simp [hz]
  · simp only [hz, decide_false, Bool.not_false, thenO_t, if_false]
    rw [ex_cons, ex_mut]
    simp only [List.getElem?_cons_succ, List.getElem?_cons_zero, mutX_l, ev_cons, ev_nil, ev_tup, ev_cS, ev_ix, ev_sl, ev_cI, slotS, slot0, R.ok_bind, i1, j3, tupR_4, outL_ok, a1, mutO_ok, thenX_nx, ex_nil]
    rfl
theorem rng_fg (w : Wld) (T : Tab) (hf : T.fg.length ≤ 10) (x1 x2 x3 x4 : Option D) (more : List (Option D)) : evI w (.rng1 (.bn .len (.cons (.ix (.sl 0) (.cI 2)) .nil))) (some (tabD T) :: x1 :: x2 :: x3 :: x4 :: more) = .ok (rngD 0 (T.fg.length : Int)) := by
  have i2 : ixD (tabD T) (.int 2) = .ok (tupI T.fg) := rfl
  have h3 := len_tI T.fg
  have hm : evE w (.bn .len (.cons (.ix (.sl 0) (.cI 2)) .nil)) (some (tabD T) :: x1 :: x2 :: x3 :: x4 :: more) = .ok (.int T.fg.length) := by
    generalize tabD T = TD at *
    simp only [ev_bn, ev_cons, ev_nil, ev_ix, ev_sl, ev_cI, slot0, R.ok_bind, i2, h3]
  rw [ev_rng1, hm, R.ok_bind, toI_i, rngR_ok (by omega)]
theorem other_ok (n : Nat) (T : Tab) (h2 : T.m2.length ≤ 2) (hf : T.fg.length ≤ 10) : L.call (n + 2) 5 [tabD T] = .ok (.lst (otherL T)) := by
  rw [call_f_other_edges]
  show Got _ _
  obtain ⟨y2, y3, e⟩ := oe_go T h2 hf (L.w (n + 1)) none T.fg [] blanks none none rfl (by show 3 + _ ≤ _; omega)
  have e : forGo (.one 2) (exB (L.w (n + 1)) B_f_other_edges_0) (rngD 0 (T.fg.length : Int)) [some (tabD T), some (.lst blanks), none, none, none] = .nx [some (tabD T), some (.lst (blanks ++ figsL T 0 T.fg)), y2, y3, none] := by
    rw [List.length_nil, Nat.zero_add] at e
    exact e
  have hr := rng_fg (L.w (n + 1)) T hf (some (.lst blanks)) none none none []
  have c0 : (L.w (n + 1)).con 0 = .tup ([sOut, sDone, sNum].map D.str) := con0
  have hl := lc_run (L.w (n + 1)) [4] 4 E_f_other_edges_0 [some (tabD T), none, none, none, none] D.str (fun s => eD s [32] [0] sOut) [sOut, sDone, sNum] (by show 3 ≤ 1000000; decide) (fun s _ => by simp [wipeD, R.need]) (fun s _ => by
    simp only [wipeD, List.foldl_cons, List.foldl_nil, List.set_cons_succ, List.set_cons_zero, ev_tup, ev_cons, ev_nil, ev_sl, ev_cS, ev_cI, slotS, slot0, R.ok_bind, tupR_1, tupR_4]
    rfl)
  have hbl : [sOut, sDone, sNum].map (fun s => eD s [32] [0] sOut) = blanks := rfl
  rw [hbl] at hl
  have ht := tail_ev (L.w (n + 1)) T (blanks ++ figsL T 0 T.fg) (by rw [List.length_append, figs_len]; show 3 + _ ≤ _; omega) y2 y3 none []
  rw [B_f_other_edges]
  refine stepP (ρ1 := [some (tabD T), some (.lst blanks), none, none, none]) (by
    rw [ex_asg, ev_lcc, ev_seq, ev_gl, c0, R.ok_bind, seq_t, R.ok_bind, hl, R.ok_bind, out_ok]
    rfl) ?_
  refine stepP (by rw [ex_for, hr, outL_ok, e]) ?_
  refine stepP ht ?_
  exact endP (d := .lst (otherL T)) (by rw [ex_ret, ev_mv]; rfl) rfl
def formL (T : Tab) (f : Fm) : List D := wordL T f ++ greatL T f
def progL (T : Tab) : List D := otherL T ++ T.fs.flatMap (formL T)
theorem form_len (T : Tab) (f : Fm) : (formL T f).length ≤ 22 := by
  have h1 := word_len T f
  have h2 := great_len T f
  unfold formL
  rw [List.length_append]
  omega
theorem ext_ok (xs ys : List D) (h : xs.length + ys.length ≤ 10000) : mutD .ext xs [.lst ys] = .ok (xs ++ ys) := mut_ext xs ys (by omega)
theorem ef_go (n : Nat) (T : Tab) (h0 : T.m0.length ≤ 2) (h1 : T.m1.length ≤ 2) : ∀ (fs : List Fm) (acc : List D) (x2 : Option D), (∀ f ∈ fs, EF f) → acc.length + 22 * fs.length ≤ 1000 → ∃ y2, forGo (.one 2) (exB (L.w (n + 2)) B_f_edges_of_0) (fs.map fmD) [some (tabD T), some (.lst acc), x2] = .nx [some (tabD T), some (.lst (acc ++ fs.flatMap (formL T))), y2]
  | [], acc, x2, _, _ => ⟨x2, by simp [forGo]⟩
  | f :: fs, acc, x2, hf, hl => by
    have hl : acc.length + 22 * (fs.length + 1) ≤ 1000 := hl
    have fl := form_len T f
    obtain ⟨y2, e⟩ := ef_go n T h0 h1 fs (acc ++ formL T f) (some (fmD f)) (fun g hg => hf g (List.mem_cons_of_mem _ hg)) (by rw [List.length_append]; omega)
    refine ⟨y2, ?_⟩
    have hg : giveT (.one 2) (fmD f) [some (tabD T), some (.lst acc), x2] = .ok [some (tabD T), some (.lst acc), some (fmD f)] := by simp [R.need]
    have w1 := (w_call L (n + 2) 3 _).trans (word_ok n T f (hf f List.mem_cons_self) h0)
    have w2 := (w_call L (n + 2) 4 _).trans (great_ok n T f (hf f List.mem_cons_self) h1)
    have wl := word_len T f
    have gl := great_len T f
    have a1 := ext_ok acc (wordL T f) (by omega)
    have a2 := ext_ok (acc ++ wordL T f) (greatL T f) (by rw [List.length_append]; omega)
    have ef : formL T f = wordL T f ++ greatL T f := rfl
    have hb : exB (L.w (n + 2)) B_f_edges_of_0 [some (tabD T), some (.lst acc), some (fmD f)] = .nx [some (tabD T), some (.lst (acc ++ formL T f)), some (fmD f)] := by
      rw [ef]
      generalize wordL T f = W at *
      generalize greatL T f = G at *
      generalize tabD T = TD at *
      generalize fmD f = FD at *
      rw [B_f_edges_of_0, ex_cons, ex_mut]
      simp only [List.getElem?_cons_succ, List.getElem?_cons_zero, mutX_l, ev_cons, ev_nil, ev_call, ev_sl, slotS, slot0, R.ok_bind, w1, need_p (ff (.lst W)), outL_ok, a1, mutO_ok, thenX_nx]
      simp only [List.set_cons_succ, List.set_cons_zero]
      rw [ex_cons, ex_mut]
      simp only [List.getElem?_cons_succ, List.getElem?_cons_zero, mutX_l, ev_cons, ev_nil, ev_call, ev_sl, slotS, slot0, R.ok_bind, w2, need_p (ff (.lst G)), outL_ok, a2, mutO_ok, thenX_nx, ex_nil]
      simp
    rw [List.map_cons, for_step hg hb, e, List.flatMap_cons, List.append_assoc]
theorem ret_end (r : R D) (ρ : PV.Env) (f : PV.Env → O) : endR (thenX (r.out ρ O.rt) f) = r := by cases r <;> rfl
theorem edges_run (n : Nat) (TD : D) (OL PL FS : List D) (y2 : Option D) (r : R D) (ho : (L.w (n + 2)).call 5 [TD] = .ok (.lst OL)) (i0 : ixD TD (.int 0) = .ok (.tup FS)) (e : forGo (.one 2) (exB (L.w (n + 2)) B_f_edges_of_0) FS [some TD, some (.lst OL), none] = .nx [some TD, some (.lst PL), y2]) (hr : ssetD (.lst PL) = r) : endR (exB (L.w (n + 2)) B_f_edges_of [some TD, none, none]) = r := by
  show Got r _
  rw [B_f_edges_of]
  refine stepP (ρ1 := [some TD, some (.lst OL), none]) (by
    simp only [ex_asg, ev_call, ev_cons, ev_nil, ev_sl, slot0, R.ok_bind, ho, need_p (ff (.lst OL)), out_ok]
    rfl) ?_
  refine stepP (by rw [ex_for, ev_seq, ev_ix, ev_sl, slot0, R.ok_bind, ev_cI, R.ok_bind, i0, R.ok_bind, seq_t, outL_ok, e]) ?_
  have hv : evE (L.w (n + 2)) (.sset (.sl 1)) [some TD, some (.lst PL), y2] = r := by rw [ev_sset, ev_sl, slotS, slot0, R.ok_bind, hr]
  show endR _ = r
  rw [ex_cons, ex_ret, hv]
  exact ret_end _ _ _
theorem edges_ok (n : Nat) (T : Tab) (h : ET T) (r : R D) (hr : ssetD (.lst (progL T)) = r) : L.call (n + 3) 6 [tabD T] = r := by
  obtain ⟨y2, e⟩ := ef_go n T h.l0 h.l1 T.fs (otherL T) none h.ef (by have := h.n24; have := other_len T h.lf; omega)
  have ho := (w_call L (n + 2) 5 _).trans (other_ok n T h.l2 h.lf)
  rw [call_f_edges_of]
  exact edges_run n (tabD T) (otherL T) (progL T) (T.fs.map fmD) y2 r ho rfl e hr
def IsE (d : D) : Prop := ∃ a t c b, d = eD a t c b ∧ c.length ≤ 100
theorem pl_ints : ∀ l : List Int, plDs (l.map D.int) = true
  | [] => rfl
  | x :: l => by simp [plDs, plD, pl_ints l]
theorem IsE.tup {d : D} (h : IsE d) : tupB d = true := by
  obtain ⟨a, t, c, b, rfl, _⟩ := h
  unfold eD tupB
  simp [plDs, plD, pl_ints, dep, deps, deps_ints]
theorem alike_ints : ∀ a b : List Int, PySem.W.alikeAll (toPys (a.map D.int)) (toPys (b.map D.int)) = true
  | [], _ => by simp [toPys, PySem.W.alikeAll]
  | _ :: _, [] => by simp [toPys, PySem.W.alikeAll]
  | x :: a, y :: b => by simp [toPys, toPy, PySem.W.alikeAll, PySem.W.alike, alike_ints a b]
theorem IsE.lik {d e : D} (h : IsE d) (k : IsE e) : likD d e = true := by
  obtain ⟨a, t, c, b, rfl, _⟩ := h
  obtain ⟨a', t', c', b', rfl, _⟩ := k
  have := alike_ints c c'
  simp [likD, eD, toPy, toPys, PySem.W.alike, PySem.W.alikeAll, this]
theorem edges_lik {l : List D} (h : ∀ d ∈ l, IsE d) : likAll l = true := List.all_eq_true.mpr fun x hx => List.all_eq_true.mpr fun y hy => (h x hx).lik (h y hy)
theorem edges_tup {l : List D} (h : ∀ d ∈ l, IsE d) : l.all tupB = true := List.all_eq_true.mpr fun x hx => (h x hx).tup
theorem sset_e {l : List D} (h : ∀ d ∈ l, IsE d) (hl : l.length < 1000) : ssetD (.lst l) = .ok (.lst (ssetL l)) := by
  refine need_p ?_
  unfold setB
  rw [edges_lik h, edges_tup h, decide_eq_true hl]
  simp
theorem IsE.of (a t : List Nat) (c : List Int) (b : List Nat) (h : c.length ≤ 100) : IsE (eD a t c b) := ⟨a, t, c, b, rfl, h⟩
theorem isE_item {T : Tab} {f : Fm} (hf : EF f) (h0 : T.m0.length ≤ 2) {o st : List Nat} : ∀ d ∈ wItem T f o st, IsE d := fun d hd => by
  have c4 := hf.c4
  unfold wItem at hd
  rcases List.mem_cons.mp hd with e | hd
  · rw [e]; exact .of _ _ _ _ (by omega)
  · split at hd
    · cases hd
    · rw [List.mem_singleton.mp hd]; exact .of _ _ _ _ (by rw [List.length_append]; omega)
theorem isE_word {T : Tab} {f : Fm} (hf : EF f) (h0 : T.m0.length ≤ 2) : ∀ d ∈ wordL T f, IsE d := fun d hd => by
  obtain ⟨r, _, hd⟩ := List.mem_flatMap.mp hd
  obtain ⟨s, _, hd⟩ := List.mem_flatMap.mp hd
  exact isE_item hf h0 d hd
theorem isE_figs {T : Tab} (h2 : T.m2.length ≤ 2) : ∀ (r : List Int) (k : Nat), ∀ d ∈ figsL T k r, IsE d
  | [], _, d, hd => nomatch hd
  | c :: r, k, d, hd => by
    unfold figsL at hd
    rcases List.mem_append.mp hd with hd | hd
    · unfold figE at hd
      simp only [List.mem_cons, List.not_mem_nil, or_false] at hd
      rcases hd with rfl | rfl | rfl <;> exact .of _ _ _ _ (by first | omega | (simp; done) | (simp; omega))
    · exact isE_figs h2 r (k + 1) d hd
theorem isE_great {T : Tab} {f : Fm} (hf : EF f) (h1 : T.m1.length ≤ 2) : ∀ d ∈ greatL T f, IsE d := fun d hd => by
  have c4 := hf.c4
  unfold greatL at hd
  split at hd
  · cases hd
  · rcases List.mem_append.mp hd with hd | hd
    · obtain ⟨st, _, hd⟩ := List.mem_flatMap.mp hd
      unfold aItem at hd
      rcases List.mem_append.mp hd with hd | hd <;> split at hd <;> first | (cases hd; done) | (rw [List.mem_singleton.mp hd]; exact .of _ _ _ _ (by first | omega | (simp; done) | (simp; omega)))
    · unfold aTail at hd
      rcases List.mem_append.mp hd with hd | hd <;> split at hd <;> first | (cases hd; done) | (rw [List.mem_singleton.mp hd]; exact .of _ _ _ _ (by first | omega | (simp; done) | (simp; omega)))
theorem isE_prog (T : Tab) (h : ET T) : ∀ d ∈ progL T, IsE d := fun d hd => by
  unfold progL otherL at hd
  rcases List.mem_append.mp hd with hd | hd
  · rcases List.mem_append.mp hd with hd | hd
    · rcases List.mem_append.mp hd with hd | hd
      · unfold blanks at hd
        simp only [List.mem_cons, List.not_mem_nil, or_false] at hd
        rcases hd with rfl | rfl | rfl <;> exact .of _ _ _ _ (by simp)
      · exact isE_figs h.l2 _ _ d hd
    · unfold tailL at hd
      split at hd
      · cases hd
      · rw [List.mem_singleton.mp hd]; exact .of _ _ _ _ (by have := h.l3; omega)
  · obtain ⟨f, hf, hd⟩ := List.mem_flatMap.mp hd
    rcases List.mem_append.mp hd with hd | hd
    · exact isE_word (h.ef f hf) h.l0 d hd
    · exact isE_great (h.ef f hf) h.l1 d hd
theorem prog_len (T : Tab) (h : ET T) : (progL T).length < 1000 := by
  have h1 := flat_len (formL T) 22 T.fs fun f _ => form_len T f
  have h2 := other_len T h.lf
  have h3 := h.n24
  unfold progL
  rw [List.length_append]
  omega
/-- the edges of a table, by the program and by the law -/
theorem edges_told (n : Nat) (T : Tab) (h : ET T) : L.call (n + 3) 6 [tabD T] = .ok (.lst (ssetL (progL T))) := edges_ok n T h _ (sset_e (isE_prog T h) (prog_len T h))
theorem ins_len (x : D) : ∀ l : List D, (insD x l).length ≤ l.length + 1
  | [] => Nat.le_refl _
  | y :: l => by
    unfold insD
    have := ins_len x l
    split
    · simp
    · split
      · simp; omega
      · simp
theorem sset_len : ∀ l : List D, (ssetL l).length ≤ l.length
  | [] => Nat.le_refl _
  | x :: l => by
    have h1 := sset_len l
    have h2 := ins_len x (ssetL l)
    unfold ssetL
    simp
    omega
theorem ef_of {lets : List Nat} {few : Int} {f : Fm} (lo : LetOk lets) (h : FOk lets few f) : EF f := by
  obtain ⟨m, _, m2, e⟩ := h.pl
  exact ⟨h.ne, by have := h.len; omega, fun c hc => by have := lo.az c (h.own c hc); omega, h.c4, m, m2, e⟩
end Cl
namespace Cl
open PySem PySem.Spec PyProof.Rows L2 PV
def rbl : R D → Option Bool
  | .ok (.bl i) => some i
  | _ => none
theorem rbl_ok {r : R D} {l : Bool} (h : rbl r = some l) : r = .ok (.bl l) := by
  cases r with
  | ok d => cases d <;> first | (cases h; done) | (cases h; rfl)
  | exc _ => cases h
  | bad => cases h
theorem all_ints {Q : Int → Prop} : ∀ xs : List D, (∀ x ∈ xs, ∃ v, x = .int v ∧ Q v) → ∃ vs : List Int, xs = vs.map D.int ∧ ∀ v ∈ vs, Q v
  | [], _ => ⟨[], rfl, fun v h => by cases h⟩
  | x :: xs, h => by
    obtain ⟨v, rfl, q⟩ := h x List.mem_cons_self
    obtain ⟨vs, e, q2⟩ := all_ints xs fun y hy => h y (List.mem_cons_of_mem _ hy)
    exact ⟨v :: vs, by rw [e]; rfl, fun z hz => by
      rcases List.mem_cons.mp hz with r | r
      · rw [r]; exact q
      · exact q2 z r⟩
def wbme : List Nat := [119, 98, 109, 101]
def alpha : List Nat := [97, 98, 99, 100, 101, 102, 103, 104, 105, 106, 107, 108, 109, 110, 111, 112, 113, 114, 115, 116, 117, 118, 119, 120, 121, 122]
theorem alpha_at : ∀ i : Fin 26, alpha[i.val]? = some (97 + i.val) := by decide
def letF (a b : Nat) (j : Nat) : Nat := 97 + (a + b * j) % 26
theorem join1 : ∀ l : List Nat, joinS [] (l.map fun c => [c]) = l
  | [] => rfl
  | [c] => rfl
  | c :: d :: r => by
    have h := join1 (d :: r)
    simp only [List.map_cons] at h ⊢
    unfold joinS
    rw [h]
    rfl
theorem strsOf_map : ∀ ss : List (List Nat), strsOf (ss.map D.str) = some ss
  | [] => rfl
  | s :: r => by simp [strsOf, strsOf_map r]
theorem sum_ones : ∀ l : List Nat, (l.map fun _ => 1).sum = l.length
  | [] => rfl
  | _ :: l => by simp [sum_ones l]; omega
theorem mt_join (sep : List Nat) (ss : List (List Nat)) (h : (ss.map List.length).sum + ss.length * sep.length ≤ 16777216) : mtD .join (.str sep) [.lst (ss.map D.str)] = .ok (.str (joinS sep ss)) := by
  show (match strsOf (ss.map D.str) with | some ys => R.need ((ys.map List.length).sum + ys.length * sep.length ≤ 16777216) (R.ok (D.str (joinS sep ys))) | none => .bad) = _
  rw [strsOf_map]
  exact need_p h
theorem mt_join1 (l : List Nat) (h : l.length ≤ 1000000) : mtD .join (.str []) [.lst (l.map chr1)] = .ok (.str l) := by
  have e : l.map chr1 = (l.map fun c => [c]).map D.str := by rw [List.map_map]; rfl
  rw [e, mt_join, join1]
  rw [List.map_map, List.length_map]
  have : ((l.map (List.length ∘ fun c => [c])).sum) = l.length := sum_ones l
  rw [this]
  simp
  omega
theorem all_chr {Q : Nat → Prop} : ∀ xs : List D, (∀ x ∈ xs, ∃ v, x = chr1 v ∧ Q v) → ∃ vs : List Nat, xs = vs.map chr1 ∧ ∀ v ∈ vs, Q v
  | [], _ => ⟨[], rfl, fun v h => by cases h⟩
  | x :: xs, h => by
    obtain ⟨v, rfl, q⟩ := h x List.mem_cons_self
    obtain ⟨vs, e, q2⟩ := all_chr xs fun y hy => h y (List.mem_cons_of_mem _ hy)
    exact ⟨v :: vs, by rw [e]; rfl, fun z hz => by
      rcases List.mem_cons.mp hz with r | r
      · rw [r]; exact q
      · exact q2 z r⟩
theorem eqD_key (t t' : List Nat) (c c' : List Int) : eqD (.tup [.str t, tupI c]) (.tup [.str t', tupI c']) = decide (t = t' ∧ c = c') := by
  rw [eqD_t]
  have h1 := eqD_s t t'
  have h2 := eqD_tupI c c'
  unfold eqD at h1 h2
  simp only [toPys, PyData.eqvAll, h1, h2, Bool.and_true, Bool.decide_and]
section
variable (ns : List Int) (base few st sp many : Int) (lets : List Nat) (hb : 0 ≤ base ∧ base ≤ 10000) (hf : 0 < few) (hl : LetOk lets) (hm : many = lets.length)
theorem any_key (fs : List Fm) (t : List Nat) (c : List Int) : ((fs.map fun f => D.tup [.str f.t, tupI f.c]).any fun y => eqD y (.tup [.str t, tupI c])) = fs.any fun f => decide (f.t = t ∧ f.c = c) := by
  rw [List.any_map]
  congr 1
  funext f
  exact eqD_key f.t t f.c c
end
structure MkOk (few : Int) (m0 m1 m2 m3 fg : List Int) : Prop where
  l0 : m0.length ≤ 2
  l1 : m1.length ≤ 2
  l2 : m2.length ≤ 2
  l3 : m3.length ≤ 2
  lf : fg.length ≤ 10
  c0 : Cel few m0
  c1 : Cel few m1
  c2 : Cel few m2
  c3 : Cel few m3
  cf : Cel few fg
  all : m1 ≠ [] → m0 ≠ []
  num : (m2 = [] ↔ fg = []) ∧ (m3 = [] ↔ fg = [])
theorem s1 (x a b c d : D) : mutD .set [a, b, c, d] [x, .int 1] = .ok [a, x, c, d] := rfl
theorem cellB (n : Nat) (ns : List Int) (k : Int) (hk : 0 ≤ k) : ∃ v, L.call (n + 1) 16 [.scr ns, .int k] = .ok (.int v) := by
  rw [call_f_law_cell]
  by_cases h : k < (ns.length : Int)
  · have g : ns[k.toNat]? = some (ns[k.toNat]'(by omega)) := List.getElem?_eq_getElem (by omega)
    refine ⟨ns[k.toNat]'(by omega), ?_⟩
    simp [B_f_law_cell, h, ix_scr hk g]
  · exact ⟨0, by simp [B_f_law_cell, h]⟩
theorem drawB (n : Nat) (ns : List Int) (k p many : Int) (hk : 0 ≤ k ∧ k ≤ 1000) (hp : 0 < p) (hm : 0 < many) : ∃ v, L.call (n + 2) 17 [.scr ns, .int k, .int p, .int many] = .ok (.int v) ∧ 0 ≤ v ∧ v < many := by
  rw [call_f_law_draw]
  obtain ⟨c, e⟩ := cellB n ns k hk.1
  have c1 : 0 ≤ (c * 48271 + 7919 * k * k + 11) % p * 7919 % 999983 := Int.emod_nonneg _ (by decide)
  refine ⟨(c * 48271 + 7919 * k * k + 11) % p * 7919 % 999983 % many, ?_, Int.emod_nonneg _ (by omega), Int.emod_lt_of_pos _ hm⟩
  simp (disch := omega) [B_f_law_draw, e, R.need]
theorem cellsB (n : Nat) (ns : List Int) (k few : Int) (hk : 0 ≤ k ∧ k ≤ 1000) (hf : 0 < few) : ∃ c : List Int, L.call (n + 3) 19 [.scr ns, .int k, .int few] = .ok (tupI c) ∧ 1 ≤ c.length ∧ c.length ≤ 4 ∧ Cel few c := by
  rw [call_f_law_cells]
  show ∃ c : List Int, Got (.ok (tupI c)) _ ∧ _
  obtain ⟨v1, e1, b1⟩ := drawB n ns k 10007 2 hk (by omega) (by omega)
  obtain ⟨v2, e2, b2⟩ := drawB n ns k 10009 8 hk (by omega) (by omega)
  obtain ⟨v3, e3, b3⟩ := drawB n ns k 10037 4 hk (by omega) (by omega)
  have hm : 1 ≤ (if v2 = 0 then 1 + v3 else 1 + v1) ∧ (if v2 = 0 then 1 + v3 else 1 + v1) ≤ 4 := by split <;> omega
  have h2 : ∀ m : Int, (1 ≤ m ∧ m ≤ 4) → ∃ c : List Int, evE (L.w (n + 2)) (.bn .tuple (.cons (.lc [4] (.one 4) (.rng1 (.sl 3)) .nil E_f_law_cells_0) .nil)) [some (.scr ns), some (.int k), some (.int few), some (.int m), none] = .ok (tupI c) ∧ 1 ≤ c.length ∧ c.length ≤ 4 ∧ Cel few c := by
    intro m hm
    obtain ⟨xs, e, l, p⟩ := lcGo_all (turn := lcT (L.w (n + 2)) [4] (.one 4) .nil E_f_law_cells_0 [some (.scr ns), some (.int k), some (.int few), some (.int m), none]) (P := fun x => ∃ v, x = .int v ∧ (1 ≤ v ∧ v ≤ few)) (ds := rngD 0 m) (acc := []) (by
      intro d hd
      obtain ⟨i, rfl, i1, i2⟩ := rng_mem hd
      obtain ⟨u, e, b⟩ := drawB n ns k (10039 + 22 * i) few hk (by omega) hf
      refine ⟨.int (1 + u), lcT_0 (ρ1 := [some (.scr ns), some (.int k), some (.int few), some (.int m), some (.int i)]) (by simp [wipeD, R.need]) ?_, _, rfl, by omega, by omega⟩
      simp (disch := omega) [e, R.need]) (by rw [rng_len]; show 0 + _ ≤ _; omega)
    obtain ⟨c, rfl, hc⟩ := all_ints xs p
    rw [List.length_map, rng_len] at l
    refine ⟨c, ?_, by omega, by omega, hc⟩
    rw [ev_bn, ev_cons, ev_lcc]
    simp (disch := omega) [e]
  obtain ⟨c, ec, pc⟩ := h2 _ hm
  refine ⟨c, ?_, pc⟩
  rw [B_f_law_cells]
  refine stepP (ρ1 := [some (.scr ns), some (.int k), some (.int few), some (.int (1 + v1)), none]) (by simp [e1, R.need]) ?_
  refine stepP (ρ1 := [some (.scr ns), some (.int k), some (.int few), some (.int (if v2 = 0 then 1 + v3 else 1 + v1)), none]) (by by_cases h : v2 = 0 <;> simp [e2, e3, h, R.need]) ?_
  exact endP (d := tupI c) (by rw [ex_ret, ec, out_ok]) rfl
def stepL (i : Nat) : Nat := [1, 3, 5, 7, 9, 11, 15].getD i 1
theorem let_nd2 : ∀ (a : Fin 26) (s : Fin 7), ((List.range 6).map (letF a.val (stepL s.val))).Nodup := by decide +kernel
theorem stepB (v : Int) (h : 0 ≤ v ∧ v < 7) : ∃ s : Fin 7, ixD (.lst [.int 1, .int 3, .int 5, .int 7, .int 9, .int 11, .int 15]) (.int v) = .ok (.int ((stepL s.val : Nat) : Int)) := by
  have : v = 0 ∨ v = 1 ∨ v = 2 ∨ v = 3 ∨ v = 4 ∨ v = 5 ∨ v = 6 := by omega
  rcases this with h | h | h | h | h | h | h <;> subst h
  · exact ⟨0, rfl⟩
  · exact ⟨1, rfl⟩
  · exact ⟨2, rfl⟩
  · exact ⟨3, rfl⟩
  · exact ⟨4, rfl⟩
  · exact ⟨5, rfl⟩
  · exact ⟨6, rfl⟩
theorem alpha_ix (a s k : Nat) (x : Int) (hx : x = ((a + k * s : Nat) : Int) % 26) : ixD (.str [97, 98, 99, 100, 101, 102, 103, 104, 105, 106, 107, 108, 109, 110, 111, 112, 113, 114, 115, 116, 117, 118, 119, 120, 121, 122]) (.int x) = .ok (chr1 (letF a s k)) := by
  have e : x = (((a + k * s) % 26 : Nat) : Int) := by rw [hx]; omega
  rw [e]
  have h := alpha_at ⟨(a + k * s) % 26, Nat.mod_lt _ (by decide)⟩
  have h2 : letF a s k = 97 + (a + k * s) % 26 := by unfold letF; rw [Nat.mul_comm s k]
  rw [h2]
  exact ix_s (by omega) (by rw [Int.toNat_natCast]; exact h)
theorem letter_turn (w : Wld) (S M : D) (a s : Nat) (i : Int) (hi : 0 ≤ i) (hb : i ≤ 100) : evE w E_f_law_letters_0 [some S, some M, some (.int (a : Int)), some (.int (s : Int)), some (.int i)] = .ok (chr1 (letF a s i.toNat)) := by
  have hx := alpha_ix a s i.toNat (((a : Int) + i * (s : Int)) % 26) (by
    rw [show ((a + i.toNat * s : Nat) : Int) = (a : Int) + i * (s : Int) by rw [Int.natCast_add, Int.natCast_mul, Int.toNat_of_nonneg hi]])
  simp only [ev_ix, ev_cS, ev_bin, ev_sl, slotS, slot0, R.ok_bind, ev_cI, binD_mul, binD_add, binD_mod]
  rw [mulD_i _ _ (by omega), R.ok_bind, addD_i, R.ok_bind, modD_i _ _ (by omega), R.ok_bind, hx]
theorem letters_run (w : Wld) (S : D) (m a s : Nat) (hm : m ≤ 6) : evE w (.lc [4] (.one 4) (.rng1 (.sl 1)) .nil E_f_law_letters_0) [some S, some (.int (m : Int)), some (.int (a : Int)), some (.int (s : Int)), none] = .ok (.lst (((List.range m).map (letF a s)).map chr1)) := by
  have hr : evI w (.rng1 (.sl 1)) [some S, some (.int (m : Int)), some (.int (a : Int)), some (.int (s : Int)), none] = .ok ((List.range m).map fun i => D.int (i : Nat)) := by
    rw [ev_rng1, ev_sl, slotS, slot0, R.ok_bind, toI_i, rngR_ok (by omega), rng_map]
  have hgo := lc_of (turn := lcT w [4] (.one 4) .nil E_f_law_letters_0 [some S, some (.int (m : Int)), some (.int (a : Int)), some (.int (s : Int)), none]) (fun i : Nat => D.int (i : Nat)) (fun i => chr1 (letF a s i)) (l := List.range m) (acc := []) (fun i hi => by
    have hi := List.mem_range.mp hi
    have ht := letter_turn w S (.int (m : Int)) a s (i : Int) (by omega) (by omega)
    rw [Int.toNat_natCast] at ht
    exact lcT_0 (ρ1 := [some S, some (.int (m : Int)), some (.int (a : Int)), some (.int (s : Int)), some (.int (i : Int))]) (by simp [wipeD, R.need]) ht) (by rw [List.length_range]; show 0 + _ ≤ _; omega)
  rw [ev_lcc, hr, R.ok_bind, hgo, R.ok_bind, List.nil_append, List.map_map]
  rfl
theorem lettersB (n : Nat) (ns : List Int) : ∃ lets : List Nat, L.call (n + 3) 20 [.scr ns] = .ok (.lst (lets.map chr1)) ∧ LetOk lets := by
  rw [call_f_law_letters]
  show ∃ lets : List Nat, Got (.ok (.lst (lets.map chr1))) _ ∧ _
  obtain ⟨v1, e1, b1⟩ := drawB n ns 0 15013 3 (by omega) (by omega) (by omega)
  obtain ⟨v2, e2, b2⟩ := drawB n ns 0 15017 6 (by omega) (by omega) (by omega)
  obtain ⟨v3, e3, b3⟩ := drawB n ns 0 15031 6 (by omega) (by omega) (by omega)
  obtain ⟨v4, e4, b4⟩ := drawB n ns 1 15053 26 (by omega) (by omega) (by omega)
  obtain ⟨v5, e5, b5⟩ := drawB n ns 1 15061 7 (by omega) (by omega) (by omega)
  obtain ⟨s, es⟩ := stepB v5 b5
  obtain ⟨m, hm, em⟩ : ∃ m : Nat, (1 ≤ m ∧ m ≤ 6) ∧ (if v2 = 0 then 1 + v3 else 1 + v1) = (m : Int) := ⟨(if v2 = 0 then 1 + v3 else 1 + v1).toNat, by split <;> omega, by split <;> omega⟩
  obtain ⟨a, rfl⟩ : ∃ a : Nat, v4 = (a : Int) := ⟨v4.toNat, by omega⟩
  have sub : ((List.range m).map (letF a (stepL s.val))).Sublist ((List.range 6).map (letF a (stepL s.val))) := (List.range_sublist.mpr hm.2).map _
  refine ⟨(List.range m).map (letF a (stepL s.val)), ?_, ⟨by rw [List.length_map, List.length_range]; exact hm.1, by rw [List.length_map, List.length_range]; exact hm.2, (let_nd2 ⟨a, by omega⟩ s).sublist sub, fun c hc => by
    obtain ⟨i, _, rfl⟩ := List.mem_map.mp hc
    unfold letF
    omega⟩⟩
  rw [B_f_law_letters]
  refine stepP (ρ1 := [some (.scr ns), some (.int (1 + v1)), none, none, none]) (by simp [e1, R.need]) ?_
  refine stepP (ρ1 := [some (.scr ns), some (.int (m : Int)), none, none, none]) (by rw [← em]; by_cases h : v2 = 0 <;> simp [e2, e3, h, R.need]) ?_
  refine stepP (ρ1 := [some (.scr ns), some (.int (m : Int)), some (.int (a : Int)), none, none]) (by simp [e4, R.need]) ?_
  refine stepP (ρ1 := [some (.scr ns), some (.int (m : Int)), some (.int (a : Int)), some (.int (stepL s.val : Nat)), none]) (by simp [e5, es, R.need]) ?_
  have hl := letters_run (L.w (n + 2)) (.scr ns) m a (stepL s.val) hm.2
  generalize ((List.range m).map (letF a (stepL s.val))).map chr1 = LS at *
  exact endP (d := .lst LS) (by rw [ex_ret, hl, out_ok]) rfl
theorem bit_all : ∀ (q : Fin 16) (m : Fin 4), rbl ((binD .RShift (.int (q.val : Nat)) (.int (m.val : Nat))).bind fun x => (binD .BitAnd x (.int 1)).bind fun y => cmpD .Eq y (.int 1)) = some (q.val.testBit m.val) := by decide +kernel
theorem keptB (w : Wld) (ρ : PV.Env) (i k : Nat) (q : Nat) (hq : q < 16) (hi : ∀ d, slotD ((wipeD ρ [k]).set k (some d)) i = .ok (.int (q : Nat))) (hk : k < (wipeD ρ [k]).length) (hg : ∀ d, slotD ((wipeD ρ [k]).set k (some d)) k = .ok d) :
    evE w (.mt .join (.cS []) (.cons (.lc [k] (.one k) (.rng1 (.cI 4)) (.cons (.cmp .Eq (.bin .BitAnd (.bin .RShift (.sl i) (.sl k)) (.cI 1)) (.cI 1)) .nil) (.ix (.cS [119, 98, 109, 101]) (.sl k))) .nil)) ρ = .ok (.str (plc q)) := by
  have hr : evI w (.rng1 (.cI 4)) ρ = .ok [D.int ((0 : Nat) : Int), D.int ((1 : Nat) : Int), D.int ((2 : Nat) : Int), D.int ((3 : Nat) : Int)] := by
    rw [ev_rng1, ev_cI, R.ok_bind, toI_i, rngR_ok (by omega)]
    rfl
  have hl : evE w (.lc [k] (.one k) (.rng1 (.cI 4)) (.cons (.cmp .Eq (.bin .BitAnd (.bin .RShift (.sl i) (.sl k)) (.cI 1)) (.cI 1)) .nil) (.ix (.cS [119, 98, 109, 101]) (.sl k))) ρ = .ok (.lst ((plc q).map chr1)) := by
    rw [ev_lcF hr (f := fun d => match d with | .int m => (if q.testBit m.toNat = true then some (chr1 ([119, 98, 109, 101].getD m.toNat 0)) else none) | _ => none) (fun d hd => by
      obtain ⟨m, hm, rfl⟩ : ∃ m : Nat, m < 4 ∧ d = .int (m : Int) := by
        simp only [List.mem_cons, List.not_mem_nil, or_false] at hd
        rcases hd with h | h | h | h
        · exact ⟨0, by decide, h⟩
        · exact ⟨1, by decide, h⟩
        · exact ⟨2, by decide, h⟩
        · exact ⟨3, by decide, h⟩
      have hb := rbl_ok (bit_all ⟨q, hq⟩ ⟨m, hm⟩)
      refine lcT_b (ρ1 := (wipeD ρ [k]).set k (some (.int (m : Int)))) (by rw [give_one, need_p hk]) ?_ fun _ => ?_
      · simp only [ev_cmp, ev_bin, ev_sl, hi, hg, ev_cI, R.ok_bind]
        exact hb
      · rw [ev_ix, ev_cS, R.ok_bind, ev_sl, hg, R.ok_bind]
        have : m = 0 ∨ m = 1 ∨ m = 2 ∨ m = 3 := by omega
        rcases this with rfl | rfl | rfl | rfl <;> rfl) (by decide)]
    congr 2
    unfold plc
    show (List.filterMap _ [D.int ((0 : Nat) : Int), D.int ((1 : Nat) : Int), D.int ((2 : Nat) : Int), D.int ((3 : Nat) : Int)]) = _
    simp only [List.filterMap_cons, List.filterMap_nil, Int.toNat_natCast]
    cases q.testBit 0 <;> cases q.testBit 1 <;> cases q.testBit 2 <;> cases q.testBit 3 <;> rfl
  have hp : (plc q).length ≤ 4 := by
    unfold plc
    simp only [List.length_append]
    split <;> split <;> split <;> split <;> decide
  rw [ev_mt, ev_cS, R.ok_bind, need_p (show Mt.rcv .join (.str []) = true from rfl), ev_cons, hl, R.ok_bind, ev_nil, R.ok_bind, R.ok_bind, mt_join1 _ (by omega)]
structure FB (lets : List Nat) (few : Int) (f : Fm) : Prop where
  ne : f.t ≠ []
  len : f.t.length ≤ 6
  own : ∀ c ∈ f.t, c ∈ lets
  c1 : 1 ≤ f.c.length
  c4 : f.c.length ≤ 4
  cel : Cel few f.c
  pl : ∃ m : Nat, 1 ≤ m ∧ m < 16 ∧ f.p = plc m
theorem formB (n : Nat) (ns : List Int) (k few : Int) (lets : List Nat) (hk : 0 ≤ k ∧ k ≤ 900) (hf : 0 < few) (hl : LetOk lets) : ∃ f : Fm, L.call (n + 4) 21 [.scr ns, .int k, .lst (lets.map chr1), .int few] = .ok (fmD f) ∧ FB lets few f := by
  rw [call_f_law_form]
  show ∃ f : Fm, Got (.ok (fmD f)) _ ∧ _
  have h6 := hl.six
  have h1' := hl.one
  obtain ⟨v1, e1, b1⟩ := drawB (n + 1) ns (10 + k) 20021 3 (by omega) (by omega) (by omega)
  obtain ⟨v2, e2, b2⟩ := drawB (n + 1) ns (10 + k) 20023 8 (by omega) (by omega) (by omega)
  obtain ⟨v3, e3, b3⟩ := drawB (n + 1) ns (10 + k) 20029 6 (by omega) (by omega) (by omega)
  obtain ⟨v4, e4, b4⟩ := drawB (n + 1) ns (10 + k) 25013 15 (by omega) (by omega) (by omega)
  obtain ⟨c, ec, c1, c4, pc⟩ := cellsB n ns (20 + k) few (by omega) hf
  have hm : 1 ≤ (if v2 = 0 then 1 + v3 else 1 + v1) ∧ (if v2 = 0 then 1 + v3 else 1 + v1) ≤ 6 := by split <;> omega
  have ht : ∀ m : Int, (1 ≤ m ∧ m ≤ 6) → ∃ t : List Nat, evE (L.w (n + 3)) (.mt .join (.cS []) (.cons (.lc [8] (.one 8) (.rng1 (.sl 4)) .nil E_f_law_form_0) .nil)) [some (.scr ns), some (.int k), some (.lst (lets.map chr1)), some (.int few), some (.int m), none, none, none, none] = .ok (.str t) ∧ (t.length : Int) = m ∧ ∀ c ∈ t, c ∈ lets := by
    intro m hm
    obtain ⟨xs, e, l, p⟩ := lcGo_all (turn := lcT (L.w (n + 3)) [8] (.one 8) .nil E_f_law_form_0 [some (.scr ns), some (.int k), some (.lst (lets.map chr1)), some (.int few), some (.int m), none, none, none, none]) (P := fun x => ∃ c, x = chr1 c ∧ c ∈ lets) (ds := rngD 0 m) (acc := []) (by
      intro d hd
      obtain ⟨i, rfl, i1, i2⟩ := rng_mem hd
      obtain ⟨u, e, b⟩ := drawB (n + 1) ns (10 + k) (20047 + 22 * i) (lets.length : Int) (by omega) (by omega) (by omega)
      have g : u.toNat < lets.length := by omega
      have hi := ix_l (s := lets.map chr1) (i := u) (c := chr1 lets[u.toNat]) b.1 (by simp [g])
      refine ⟨_, lcT_0 (ρ1 := [some (.scr ns), some (.int k), some (.lst (lets.map chr1)), some (.int few), some (.int m), none, none, none, some (.int i)]) (by simp [wipeD, R.need]) ?_, _, rfl, List.getElem_mem g⟩
      simp (disch := omega) [e, R.need, hi]) (by rw [rng_len]; show 0 + _ ≤ _; omega)
    obtain ⟨t, rfl, pt⟩ := all_chr xs p
    rw [List.length_map, rng_len] at l
    refine ⟨t, ?_, by omega, pt⟩
    have hj := mt_join1 t (by omega)
    rw [ev_mt, ev_cS, R.ok_bind, need_p (show Mt.rcv .join (.str []) = true from rfl), ev_cons, ev_lcc]
    simp (disch := omega) [e, hj]
  obtain ⟨t, et, lt, pt⟩ := ht _ hm
  obtain ⟨q, eq⟩ : ∃ q : Nat, 1 + v4 = (q : Int) := ⟨(1 + v4).toNat, by omega⟩
  refine ⟨Fm.mk t c (plc q), ?_, ⟨fun z => by have z : t = [] := z; subst z; simp at lt; omega, by show t.length ≤ 6; omega, pt, c1, c4, pc, q, by omega, by omega, rfl⟩⟩
  rw [B_f_law_form]
  refine stepP (ρ1 := [some (.scr ns), some (.int k), some (.lst (lets.map chr1)), some (.int few), some (.int (1 + v1)), none, none, none, none]) (by simp (disch := omega) [e1, R.need]) ?_
  refine stepP (ρ1 := [some (.scr ns), some (.int k), some (.lst (lets.map chr1)), some (.int few), some (.int (if v2 = 0 then 1 + v3 else 1 + v1)), none, none, none, none]) (by by_cases h : v2 = 0 <;> simp (disch := omega) [e2, e3, h, R.need]) ?_
  refine stepP (ρ1 := [some (.scr ns), some (.int k), some (.lst (lets.map chr1)), some (.int few), some (.int (if v2 = 0 then 1 + v3 else 1 + v1)), some (.str t), none, none, none]) (by rw [ex_asg, et]; rfl) ?_
  generalize (if v2 = 0 then 1 + v3 else 1 + v1) = m at *
  refine stepP (ρ1 := [some (.scr ns), some (.int k), some (.lst (lets.map chr1)), some (.int few), some (.int m), some (.str t), some (.int (q : Int)), none, none]) (by simp (disch := omega) [e4, R.need, eq]) ?_
  refine stepP (ρ1 := [some (.scr ns), some (.int k), some (.lst (lets.map chr1)), some (.int few), some (.int m), some (.str t), some (.int (q : Int)), some (.str (plc q)), none]) (by
    rw [ex_asg, keptB (L.w (n + 3)) _ 6 8 q (by omega) (fun d => rfl) (by simp [wipeD]) (fun d => rfl)]; rfl) ?_
  exact endP (d := fmD (Fm.mk t c (plc q))) (by
    simp (disch := omega) [ec, R.need]
    rfl) rfl
structure FsB (lets : List Nat) (few : Int) (fs : List Fm) : Prop where
  ok : ∀ f ∈ fs, FB lets few f
  own : ∀ c ∈ lets, ∃ f ∈ fs, f.t = [c] ∧ f.p = wbme
  once : fs.Pairwise fun f g => ¬ (f.t = g.t ∧ f.c = g.c)
theorem ownsB {few : Int} : ∀ (xs : List D) (lets : List Nat), xs.length = lets.length → (∀ (j : Nat) (x : D), xs[j]? = some x → ∃ l c, lets[j]? = some l ∧ x = fmD ⟨[l], c, wbme⟩ ∧ 1 ≤ c.length ∧ c.length ≤ 4 ∧ Cel few c) →
    ∃ fs : List Fm, xs = fs.map fmD ∧ fs.map Fm.t = lets.map (fun c => [c]) ∧ ∀ f ∈ fs, f.p = wbme ∧ 1 ≤ f.c.length ∧ f.c.length ≤ 4 ∧ Cel few f.c
  | [], [], _, _ => ⟨[], rfl, rfl, fun f h => by cases h⟩
  | [], _ :: _, h, _ => by cases h
  | _ :: _, [], h, _ => by cases h
  | x :: xs, l :: lets, hl, h => by
    obtain ⟨l', c, e1, e2, p⟩ := h 0 x rfl
    have e1 : l = l' := by simpa using e1
    subst e1
    obtain ⟨fs, q1, q2, q3⟩ := ownsB (few := few) xs lets (by simpa using hl) fun j y hy => by
      obtain ⟨l2, c2, f1, f2⟩ := h (j + 1) y (by simpa using hy)
      exact ⟨l2, c2, by simpa using f1, f2⟩
    refine ⟨⟨[l], c, wbme⟩ :: fs, by rw [e2, q1]; rfl, by rw [List.map_cons, q2]; rfl, fun f hf => ?_⟩
    rcases List.mem_cons.mp hf with rfl | hf
    · exact ⟨rfl, p⟩
    · exact q3 f hf
theorem own_fsB {lets : List Nat} {few : Int} {fs : List Fm} (hl : LetOk lets) (h1 : fs.map Fm.t = lets.map (fun c => [c])) (h2 : ∀ f ∈ fs, f.p = wbme ∧ 1 ≤ f.c.length ∧ f.c.length ≤ 4 ∧ Cel few f.c) : FsB lets few fs := by
  refine ⟨fun f hf => ?_, fun c hc => ?_, ?_⟩
  · have ht : f.t ∈ lets.map (fun c => [c]) := by rw [← h1]; exact List.mem_map_of_mem hf
    obtain ⟨c, hc, e⟩ := List.mem_map.mp ht
    obtain ⟨q1, q2, q3, q4⟩ := h2 f hf
    exact ⟨by rw [← e]; simp, by rw [← e]; simp, fun d hd => by rw [← e] at hd; rw [List.mem_singleton.mp hd]; exact hc, q2, q3, q4, 15, by decide, by decide, by rw [q1]; rfl⟩
  · have : [c] ∈ fs.map Fm.t := by rw [h1]; exact List.mem_map_of_mem hc
    obtain ⟨f, hf, e⟩ := List.mem_map.mp this
    exact ⟨f, hf, e, (h2 f hf).1⟩
  · have nd : (fs.map Fm.t).Nodup := by
      rw [h1]
      have : (lets.map fun c => [c]).Pairwise (fun a b => a ≠ b) := List.pairwise_map.mpr (hl.nd.imp fun {a b} z q => z (by simpa using q))
      exact this
    have : fs.Pairwise (fun a b => a.t ≠ b.t) := List.pairwise_map.mp nd
    exact this.imp fun {a b} z q => z q.1
theorem pl_keyD (t : List Nat) (c : List Int) : plD (.tup [.str t, tupI c]) = true := by
  have : ∀ l : List Int, plDs (l.map D.int) = true := fun l => by
    induction l with
    | nil => rfl
    | cons x l ih => simp [plDs, plD, ih]
  simp [plD, plDs, this]
theorem forms_turnB (n : Nat) (ns : List Int) (few : Int) (lets : List Nat) (hf : 0 < few) (hl : LetOk lets) (j : Int) (hj : 0 ≤ j ∧ j < 6) (m : Nat) (hmj : m ≤ 5) (fs : List Fm) (h : FsB lets few fs) (hlen : fs.length ≤ lets.length + m) (x5 x6 x7 : Option D) :
    ∃ fs' y5 y6 y7, exB (L.w (n + 4)) B_f_law_forms_0 [some (.scr ns), some (.int few), some (.lst (lets.map chr1)), some (.lst (fs.map fmD)), some (.int j), x5, x6, x7] = .nx [some (.scr ns), some (.int few), some (.lst (lets.map chr1)), some (.lst (fs'.map fmD)), some (.int j), y5, y6, y7] ∧ FsB lets few fs' ∧ fs'.length ≤ lets.length + (m + 1) := by
  have h6 := hl.six
  obtain ⟨f, e1, pf⟩ := formB n ns j few lets (by omega) hf hl
  obtain ⟨at_, e8, b8⟩ := drawB (n + 2) ns (10 + j) 25031 ((fs.length : Int) + 1) (by omega) (by omega) (by omega)
  have e8 : L.call (n + 4) 17 [.scr ns, .int (10 + j), .int 25031, .int ((fs.length : Int) + 1)] = .ok (.int at_) := e8
  have hcut : ∀ A F, evE (L.w (n + 4)) (.lc [7] (.one 7) (.seq (.sl 3)) .nil (.cut (.sl 7) (.cN) (.cI 2))) [some (.scr ns), some (.int few), some (.lst (lets.map chr1)), some (.lst (fs.map fmD)), some (.int j), F, A, x7] = .ok (.lst (fs.map fun f => D.tup [.str f.t, tupI f.c])) := fun A F => by
    rw [ev_lcM (ds := fs.map fmD) (f := fun d => match d with | .tup ys => .tup (ys.take 2) | _ => .non) (by simp) (fun d hd => by
      obtain ⟨g, _, rfl⟩ := List.mem_map.mp hd
      refine lcT_0 (ρ1 := [some (.scr ns), some (.int few), some (.lst (lets.map chr1)), some (.lst (fs.map fmD)), some (.int j), F, A, some (fmD g)]) (by simp [wipeD, R.need]) ?_
      simp (disch := omega) [fmD, cut_toI]) (by rw [List.length_map]; omega), List.map_map]
    rfl
  have hlit : ∀ A, evE (L.w (n + 4)) (.cut (.sl 5) (.cN) (.cI 2)) [some (.scr ns), some (.int few), some (.lst (lets.map chr1)), some (.lst (fs.map fmD)), some (.int j), some (fmD f), A, x7] = .ok (.tup [.str f.t, tupI f.c]) := fun A => by
    simp (disch := omega) [fmD, cut_toI]
  have hin : cmpD .NotIn (.tup [.str f.t, tupI f.c]) (.lst (fs.map fun g => D.tup [.str g.t, tupI g.c])) = .ok (.bl (!fs.any fun g => decide (g.t = f.t ∧ g.c = f.c))) := by
    show bnot (R.need _ (.ok (.bl ((fs.map fun g => D.tup [.str g.t, tupI g.c]).any fun y => eqD y (.tup [.str f.t, tupI f.c]))))) = _
    rw [need_p ⟨by simp [dep, deps, deps_ints], pl_nd (pl_keyD _ _), nds_of fun d hd => by
      obtain ⟨g, _, rfl⟩ := List.mem_map.mp hd
      exact pl_nd (pl_keyD _ _)⟩, any_key]
    rfl
  have s1 : exS (L.w (n + 4)) (.asg 5 0 (.call false 21 (.cons (.sl 0) (.cons (.sl 4) (.cons (.sl 2) (.cons (.sl 1) .nil)))))) [some (.scr ns), some (.int few), some (.lst (lets.map chr1)), some (.lst (fs.map fmD)), some (.int j), x5, x6, x7] = .nx [some (.scr ns), some (.int few), some (.lst (lets.map chr1)), some (.lst (fs.map fmD)), some (.int j), some (fmD f), x6, x7] := by
    simp [e1, R.need]
  rw [ex_cons, s1, thenX_nx, ex_cons, ex_ifs, ev_cmp, hlit, R.ok_bind, hcut, R.ok_bind, hin, out_ok]
  cases hany : fs.any fun g => decide (g.t = f.t ∧ g.c = f.c) with
  | true =>
    exact ⟨fs, _, _, _, by simp; exact ⟨rfl, rfl, rfl⟩, h, by omega⟩
  | false =>
    have pm : (fs.take at_.toNat ++ [f] ++ fs.drop at_.toNat).Perm (f :: fs) := by
      have := List.perm_middle (l₁ := fs.take at_.toNat) (l₂ := fs.drop at_.toNat) (a := f)
      rw [List.take_append_drop] at this
      rw [List.append_assoc]
      exact this
    refine ⟨fs.take at_.toNat ++ [f] ++ fs.drop at_.toNat, some (fmD f), some (.int at_), x7, ?_, ⟨fun g hg => ?_, fun d hd => ?_, ?_⟩, ?_⟩
    · have q1 : cut (fs.map fmD) none (some at_) = (fs.take at_.toNat).map fmD := by rw [cut_toI _ _ b8.1, List.map_take]
      have q2 : cut (fs.map fmD) (some at_) none = (fs.drop at_.toNat).map fmD := by rw [cut_fromI _ _ ⟨b8.1, by rw [List.length_map]; omega⟩, List.map_drop]
      have a1 : addD (.lst ((fs.take at_.toNat).map fmD)) (.lst [fmD f]) = .ok (.lst ((fs.take at_.toNat ++ [f]).map fmD)) := by
        rw [addD_l _ _ (by rw [List.length_map, List.length_take]; show _ + 1 ≤ _; omega)]
        simp
      have a2 : addD (.lst ((fs.take at_.toNat ++ [f]).map fmD)) (.lst ((fs.drop at_.toNat).map fmD)) = .ok (.lst ((fs.take at_.toNat ++ [f] ++ fs.drop at_.toNat).map fmD)) := by
        rw [addD_l _ _ (by rw [List.length_map, List.length_map, List.length_append, List.length_take, List.length_drop]; show _ + 1 + _ ≤ _; omega), List.map_append (l₂ := fs.drop at_.toNat)]
      generalize fmD f = fd at *
      simp only [Bool.not_false, thenO_t, ex_cons, ex_asg, ev_call, ev_cons, ev_nil, ev_sl, slotS, slot0, R.ok_bind, ev_bin, ev_bn, ev_cI, binD_add, len_l, List.length_map, addD_i, w_call, e8, need_p (show (false = true → sc (D.int at_) = true) from fun z => by cases z), out_ok, List.length_cons, List.set_cons_succ, List.set_cons_zero, ev_cut, isN_N, isN_sl, part_n, part_i, ev_cN, cut_l, q1, q2, ev_lst, lstR_1, a1, a2, List.length_nil, Nat.reduceAdd, Nat.reduceLT, reduceIte, thenX_nx, ex_nil]
    · rcases List.mem_cons.mp (pm.mem_iff.mp hg) with r | r
      · rw [r]; exact pf
      · exact h.ok g r
    · obtain ⟨g, hg, r⟩ := h.own d hd
      exact ⟨g, pm.mem_iff.mpr (List.mem_cons_of_mem _ hg), r⟩
    · refine (pm.pairwise_iff ?_).mpr (List.pairwise_cons.mpr ⟨fun g hg z => ?_, h.once⟩)
      · exact fun {a b} z q => z ⟨q.1.symm, q.2.symm⟩
      · have := List.any_eq_false.mp hany g hg
        exact this (by simp [z.1, z.2])
    · rw [pm.length_eq]
      simp
      omega
theorem formsB (n : Nat) (ns : List Int) (few : Int) (hf : 0 < few) : ∃ (lets : List Nat) (fs : List Fm), L.call (n + 5) 22 [.scr ns, .int few] = .ok (.tup (fs.map fmD)) ∧ LetOk lets ∧ FsB lets few fs ∧ fs.length ≤ 11 := by
  rw [call_f_law_forms]
  show ∃ (lets : List Nat) (fs : List Fm), Got (.ok (.tup (fs.map fmD))) _ ∧ _
  obtain ⟨lets, el, hl⟩ := lettersB (n + 1) ns
  have h6 := hl.six
  obtain ⟨v, ev, bv⟩ := drawB (n + 2) ns 2 20011 6 (by omega) (by omega) (by omega)
  rw [B_f_law_forms]
  refine stepP (P := fun o => ∃ (lets : List Nat) (fs : List Fm), Got (.ok (.tup (fs.map fmD))) o ∧ LetOk lets ∧ FsB lets few fs ∧ fs.length ≤ 11) (ρ1 := [some (.scr ns), some (.int few), some (.lst (lets.map chr1)), none, none, none, none, none]) (by simp [el, R.need]) ?_
  obtain ⟨xs, e, l, p⟩ := lcGo_ex (turn := lcT (L.w (n + 4)) [4] (.one 4) .nil E_f_law_forms_0 [some (.scr ns), some (.int few), some (.lst (lets.map chr1)), none, none, none, none, none]) (P := fun j x => ∃ l c, lets[j]? = some l ∧ x = fmD ⟨[l], c, wbme⟩ ∧ 1 ≤ c.length ∧ c.length ≤ 4 ∧ Cel few c) (ds := rngD 0 (lets.length : Int)) (acc := []) 0 (by
    intro j d hj
    have hjl : j < (rngD 0 (lets.length : Int)).length := (List.getElem?_eq_some_iff.mp hj).1
    rw [rng_len] at hjl
    rw [rng_get (by omega)] at hj
    have hj := Option.some.inj hj
    subst hj
    obtain ⟨c, ec, c1, c4, pc⟩ := cellsB (n + 1) ns (4 + (0 + (j : Int))) few (by omega) hf
    have g : j < lets.length := by omega
    have hi := ix_l (s := lets.map chr1) (i := 0 + (j : Int)) (c := chr1 lets[j]) (by omega) (by rw [show (0 + (j : Int)).toNat = j by omega]; simp [g])
    refine ⟨_, lcT_0 (ρ1 := [some (.scr ns), some (.int few), some (.lst (lets.map chr1)), none, some (.int (0 + (j : Int))), none, none, none]) (by simp [wipeD, R.need]) ?_, lets[j], c, by rw [Nat.zero_add]; exact List.getElem?_eq_getElem g, rfl, c1, c4, pc⟩
    simp only [ev_tup, ev_cons, ev_nil, ev_ix, ev_sl, slotS, slot0, R.ok_bind, hi, ev_call, ev_bin, ev_cI, binD_add, addD_i, w_call, ec, need_p (show (false = true → sc (tupI c) = true) from fun z => by cases z), ev_cS, tupR_3]
    rfl) (by rw [rng_len]; show 0 + _ ≤ _; omega)
  rw [List.nil_append] at e
  rw [rng_len] at l
  obtain ⟨fs, rfl, q1, q2⟩ := ownsB (few := few) xs lets (by omega) fun j x hx => by
    have := p j x hx
    rw [Nat.zero_add] at this
    exact this
  have hF := own_fsB hl q1 q2
  rw [List.length_map] at l
  have hr0 : evI (L.w (n + 4)) (.rng1 (.bn .len (.cons (.sl 2) .nil))) [some (.scr ns), some (.int few), some (.lst (lets.map chr1)), none, none, none, none, none] = .ok (rngD 0 (lets.length : Int)) := by
    rw [ev_rng1, ev_bn, ev_cons, ev_sl, slotS, slotS, slot0, R.ok_bind, ev_nil, R.ok_bind, R.ok_bind, len_l, R.ok_bind, toI_i, List.length_map, rngR_ok (by omega)]
  refine stepP (P := fun o => ∃ (lets : List Nat) (fs : List Fm), Got (.ok (.tup (fs.map fmD))) o ∧ LetOk lets ∧ FsB lets few fs ∧ fs.length ≤ 11) (ρ1 := [some (.scr ns), some (.int few), some (.lst (lets.map chr1)), some (.lst (fs.map fmD)), none, none, none, none]) (by
    rw [ex_asg, ev_lcc, hr0, R.ok_bind, e, R.ok_bind, out_ok]
    rfl) ?_
  obtain ⟨ρ', e2, fs', y4, y5, y6, y7, rfl, hF', l'⟩ := forGo_inv (tg := .one 4) (body := exB (L.w (n + 4)) B_f_law_forms_0) (fun j ρ => ∃ fs x4 x5 x6 x7, ρ = [some (.scr ns), some (.int few), some (.lst (lets.map chr1)), some (.lst (fs.map fmD)), x4, x5, x6, x7] ∧ FsB lets few fs ∧ fs.length ≤ lets.length + j) (rngD 0 v) 0 [some (.scr ns), some (.int few), some (.lst (lets.map chr1)), some (.lst (fs.map fmD)), none, none, none, none] ⟨fs, _, _, _, _, rfl, hF, by omega⟩ (by
    rintro j d ρ hj ⟨fs, x4, x5, x6, x7, rfl, h, l⟩
    have hjl : j < (rngD 0 v).length := (List.getElem?_eq_some_iff.mp hj).1
    rw [rng_len] at hjl
    rw [rng_get (by omega)] at hj
    have hj := Option.some.inj hj
    subst hj
    rw [Nat.zero_add] at l
    obtain ⟨fs', y5, y6, y7, e, h', l'⟩ := forms_turnB n ns few lets hf hl (0 + (j : Int)) (by omega) j (by omega) fs h l x5 x6 x7
    exact ⟨_, _, by simp [R.need], .inl e, fs', _, _, _, _, rfl, h', by rw [Nat.zero_add]; exact l'⟩)
  rw [rng_len] at l'
  have hr : evI (L.w (n + 4)) (.rng1 (.call false 17 (.cons (.sl 0) (.cons (.cI 2) (.cons (.cI 20011) (.cons (.cI 6) .nil)))))) [some (.scr ns), some (.int few), some (.lst (lets.map chr1)), some (.lst (fs.map fmD)), none, none, none, none] = .ok (rngD 0 v) := by
    simp (disch := omega) [ev, R.need]
  refine stepP (P := fun o => ∃ (lets : List Nat) (fs : List Fm), Got (.ok (.tup (fs.map fmD))) o ∧ LetOk lets ∧ FsB lets few fs ∧ fs.length ≤ 11) (by rw [ex_for, hr, outL_ok, e2]) ?_
  exact ⟨lets, fs', by simp [Got], hl, hF', by omega⟩
theorem markB (n : Nat) (ns : List Int) (k few : Int) (hk : 0 ≤ k ∧ k ≤ 1000) (hf : 0 < few) : ∃ c : List Int, L.call (n + 4) 23 [.scr ns, .int k, .int few] = .ok (tupI c) ∧ c ≠ [] ∧ c.length ≤ 2 ∧ Cel few c := by
  obtain ⟨c, ec, c1, c4, pc⟩ := cellsB n ns k few hk hf
  refine ⟨c.take 2, ?_, ?_, by rw [List.length_take]; omega, fun x hx => pc x (List.mem_of_mem_take hx)⟩
  · rw [call_f_law_mark]
    have hc : cut (c.map D.int) none (some 2) = (c.take 2).map D.int := by rw [cut_toI _ _ (by decide), List.map_take]; rfl
    have hc : cutD (tupI c) none (some 2) = .ok (tupI (c.take 2)) := by
      show cutD (.tup (c.map D.int)) none (some 2) = _
      rw [cut_t, hc]
    generalize tupI c = C at *
    simp [B_f_law_mark, ec, R.need, hc]
  · cases c with
    | nil => simp at c1
    | cons x r => simp
theorem fewB (v : Int) (h : 0 ≤ v ∧ v < 3) : ∃ m : Int, ixD (.lst [.int 3, .int 6, .int 63]) (.int v) = .ok (.int m) ∧ 1 ≤ m ∧ m ≤ 63 := by
  have : v = 0 ∨ v = 1 ∨ v = 2 := by omega
  rcases this with h | h | h <;> subst h
  · exact ⟨3, rfl, by decide, by decide⟩
  · exact ⟨6, rfl, by decide, by decide⟩
  · exact ⟨63, rfl, by decide, by decide⟩
theorem setM0 (a b c d x : D) : mutD .set [a, b, c, d] [x, .int 0] = .ok [x, b, c, d] := rfl
theorem setM1 (a b c d x : D) : mutD .set [a, b, c, d] [x, .int 1] = .ok [a, x, c, d] := rfl
theorem setM2 (a b c d x : D) : mutD .set [a, b, c, d] [x, .int 2] = .ok [a, b, x, d] := rfl
theorem setM3 (a b c d x : D) : mutD .set [a, b, c, d] [x, .int 3] = .ok [a, b, c, x] := rfl
structure TB (lets : List Nat) (T : Tab) : Prop where
  lo : LetOk lets
  fo : FsB lets 63 T.fs
  fl : T.fs.length ≤ 11
  mo : MkOk 63 T.m0 T.m1 T.m2 T.m3 T.fg
theorem cel_up {few : Int} {c : List Int} (h : few ≤ 63) (k : Cel few c) : Cel 63 c := fun x hx => by have := k x hx; omega
theorem tableB (n : Nat) (ns : List Int) : ∃ (lets : List Nat) (T : Tab), L.call (n + 6) 24 [.scr ns] = .ok (tabD T) ∧ TB lets T := by
  rw [call_f_law_table]
  show ∃ (lets : List Nat) (T : Tab), Got (.ok (tabD T)) _ ∧ TB lets T
  obtain ⟨v0, e0, b0⟩ := drawB (n + 3) ns 2 30011 3 (by omega) (by omega) (by omega)
  obtain ⟨few, ef, hf⟩ := fewB v0 b0
  obtain ⟨v1, e1, b1⟩ := drawB (n + 3) ns 3 30013 3 (by omega) (by omega) (by omega)
  obtain ⟨v2, e2, b2⟩ := drawB (n + 3) ns 3 30029 2 (by omega) (by omega) (by omega)
  obtain ⟨v3, e3, b3⟩ := drawB (n + 3) ns 3 30047 3 (by omega) (by omega) (by omega)
  obtain ⟨v4, e4, b4⟩ := drawB (n + 3) ns 3 30059 3 (by omega) (by omega) (by omega)
  obtain ⟨v5, e5, b5⟩ := drawB (n + 3) ns 3 30071 6 (by omega) (by omega) (by omega)
  obtain ⟨v6, e6, b6⟩ := drawB (n + 3) ns 3 30089 10 (by omega) (by omega) (by omega)
  obtain ⟨c0, k0, n0, l0, p0⟩ := markB (n + 1) ns 25 few (by omega) (by omega)
  obtain ⟨c1, k1, n1, l1, p1⟩ := markB (n + 1) ns 26 few (by omega) (by omega)
  obtain ⟨c2, k2, n2, l2, p2⟩ := markB (n + 1) ns 28 few (by omega) (by omega)
  obtain ⟨c3, k3, n3, l3, p3⟩ := markB (n + 1) ns 29 few (by omega) (by omega)
  obtain ⟨lets, fs, kf, hl, hF, fl⟩ := formsB n ns few (by omega)
  have e3 : L.call (n + 5) 17 [.scr ns, .int 3, .int 30047, .int 3] = .ok (.int v3) := e3
  have e4 : L.call (n + 5) 17 [.scr ns, .int 3, .int 30059, .int 3] = .ok (.int v4) := e4
  have k2 : L.call (n + 5) 23 [.scr ns, .int 28, .int few] = .ok (tupI c2) := k2
  have k3 : L.call (n + 5) 23 [.scr ns, .int 29, .int few] = .ok (tupI c3) := k3
  have hm : 1 ≤ (if v5 = 0 then 1 + v6 else 1 + v4) ∧ (if v5 = 0 then 1 + v6 else 1 + v4) ≤ 10 := by split <;> omega
  have hfg : ∀ (M : D) (m : Int), (1 ≤ m ∧ m ≤ 10) → ∃ c : List Int, evE (L.w (n + 5)) (.lc [5] (.one 5) (.rng1 (.sl 4)) .nil E_f_law_table_0) [some (.scr ns), some (.int few), some M, some (.lst []), some (.int m), none] = .ok (.lst (c.map D.int)) ∧ c ≠ [] ∧ c.length ≤ 10 ∧ Cel few c := by
    intro M m hm
    obtain ⟨xs, e, l, p⟩ := lcGo_all (turn := lcT (L.w (n + 5)) [5] (.one 5) .nil E_f_law_table_0 [some (.scr ns), some (.int few), some M, some (.lst []), some (.int m), none]) (P := fun x => ∃ v, x = .int v ∧ (1 ≤ v ∧ v ≤ few)) (ds := rngD 0 m) (acc := []) (by
      intro d hd
      obtain ⟨i, rfl, i1, i2⟩ := rng_mem hd
      obtain ⟨u, e, b⟩ := drawB (n + 3) ns 27 (30091 + 22 * i) few (by omega) (by omega) (by omega)
      refine ⟨.int (1 + u), lcT_0 (ρ1 := [some (.scr ns), some (.int few), some M, some (.lst []), some (.int m), some (.int i)]) (by simp [wipeD, R.need]) ?_, _, rfl, by omega, by omega⟩
      simp (disch := omega) [e, R.need]) (by rw [rng_len]; show 0 + _ ≤ _; omega)
    obtain ⟨c, rfl, hc⟩ := all_ints xs p
    rw [List.length_map, rng_len] at l
    refine ⟨c, ?_, fun z => by rw [z] at l; simp at l; omega, by omega, hc⟩
    rw [ev_lcc]
    simp (disch := omega) [e]
  have fin : ∀ m0 m1 m2 m3 fg : List Int, MkOk few m0 m1 m2 m3 fg → TB lets ⟨fs, m0, m1, m2, m3, fg⟩ := fun m0 m1 m2 m3 fg k => ⟨hl, ⟨fun f hf' => by
    have z := hF.ok f hf'
    exact ⟨z.ne, z.len, z.own, z.c1, z.c4, cel_up hf.2 z.cel, z.pl⟩, hF.own, hF.once⟩, fl, ⟨k.l0, k.l1, k.l2, k.l3, k.lf, cel_up hf.2 k.c0, cel_up hf.2 k.c1, cel_up hf.2 k.c2, cel_up hf.2 k.c3, cel_up hf.2 k.cf, k.all, k.num⟩⟩
  rw [B_f_law_table]
  refine stepP (P := fun o => ∃ (lets : List Nat) (T : Tab), Got (.ok (tabD T)) o ∧ TB lets T) (ρ1 := [some (.scr ns), some (.int few), none, none, none, none]) (by simp [e0, ef, R.need]) ?_
  refine stepP (P := fun o => ∃ (lets : List Nat) (T : Tab), Got (.ok (tabD T)) o ∧ TB lets T) (ρ1 := [some (.scr ns), some (.int few), some (.lst [tupI [], tupI [], tupI [], tupI []]), none, none, none]) (by simp) ?_
  refine stepQ (P := fun o => ∃ (lets : List Nat) (T : Tab), Got (.ok (tabD T)) o ∧ TB lets T) (fun x : List Int × List Int => [some (.scr ns), some (.int few), some (.lst [tupI x.1, tupI x.2, tupI [], tupI []]), none, none, none]) (fun x => x.1.length ≤ 2 ∧ x.2.length ≤ 2 ∧ Cel few x.1 ∧ Cel few x.2 ∧ (x.2 ≠ [] → x.1 ≠ [])) ?_ ?_
  · by_cases h1 : v1 = 0
    · by_cases h2 : v2 = 0
      · refine ⟨(c0, c1), ?_, l0, l1, p0, p1, fun _ => n0⟩
        generalize tupI c0 = C0 at *
        generalize tupI c1 = C1 at *
        simp [e1, e2, h1, h2, R.need, k0, k1, setM0, setM1]
      · refine ⟨(c0, []), ?_, l0, Nat.zero_le _, p0, (fun x hx => by cases hx), fun _ => n0⟩
        generalize tupI c0 = C0 at *
        simp [e1, e2, h1, h2, R.need, k0, setM0]
    · exact ⟨([], []), by simp [e1, h1, R.need], Nat.zero_le _, Nat.zero_le _, (fun x hx => by cases hx), (fun x hx => by cases hx), fun z => absurd rfl z⟩
  rintro ⟨m0, m1⟩ ⟨q1, q2, q3, q4, q5⟩
  simp only at q1 q2 q3 q4 q5
  refine stepP (P := fun o => ∃ (lets : List Nat) (T : Tab), Got (.ok (tabD T)) o ∧ TB lets T) (ρ1 := [some (.scr ns), some (.int few), some (.lst [tupI m0, tupI m1, tupI [], tupI []]), some (.lst []), none, none]) (by simp) ?_
  obtain ⟨fg, kg, ng, lg, pg⟩ := hfg (.lst [tupI m0, tupI m1, tupI [], tupI []]) _ hm
  refine stepQ (P := fun o => ∃ (lets : List Nat) (T : Tab), Got (.ok (tabD T)) o ∧ TB lets T) (fun x : (List Int × List Int × List Int) × Option D => [some (.scr ns), some (.int few), some (.lst [tupI m0, tupI m1, tupI x.1.1, tupI x.1.2.1]), some (.lst (x.1.2.2.map D.int)), x.2, none]) (fun x => MkOk few m0 m1 x.1.1 x.1.2.1 x.1.2.2) ?_ ?_
  · by_cases h3 : v3 = 0
    · subst h3
      refine ⟨((c2, c3, fg), some (.int (if v5 = 0 then 1 + v6 else 1 + v4))), ?_, ⟨q1, q2, l2, l3, lg, q3, q4, p2, p3, pg, q5, ⟨fun z => absurd z n2, fun z => absurd z ng⟩, fun z => absurd z n3, fun z => absurd z ng⟩⟩
      have s1 : ∀ M : D, exS (L.w (n + 5)) (.ifs (.cmp .Eq (.call false 17 (.cons (.sl 0) (.cons (.cI 3) (.cons (.cI 30071) (.cons (.cI 6) .nil))))) (.cI 0)) (.cons (.asg 4 0 (.bin .Add (.cI 1) (.call false 17 (.cons (.sl 0) (.cons (.cI 3) (.cons (.cI 30089) (.cons (.cI 10) .nil))))))) .nil) .nil) [some (.scr ns), some (.int few), some M, some (.lst []), some (.int (1 + v4)), none] = .nx [some (.scr ns), some (.int few), some M, some (.lst []), some (.int (if v5 = 0 then 1 + v6 else 1 + v4)), none] := fun M => by
        by_cases h : v5 = 0 <;> simp [e5, e6, h, R.need]
      generalize (if v5 = 0 then 1 + v6 else 1 + v4) = m at *
      generalize tupI c2 = C2 at *
      generalize tupI c3 = C3 at *
      generalize tupI m0 = M0 at *
      generalize tupI m1 = M1 at *
      rw [ex_ifs, ev_cmp, ev_call]
      simp only [ev_cons, ev_nil, ev_sl, slot0, slotS, ev_cI, R.ok_bind, w_call, e3, need_p (show (false = true → sc (D.int 0) = true) from fun z => by cases z), eq_i, decide_true, out_ok, thenO_t, ex_cons]
      rw [ex_asg]
      simp only [ev_bin, ev_cI, ev_call, ev_cons, ev_nil, ev_sl, slot0, slotS, R.ok_bind, w_call, e4, need_p (show (false = true → sc (D.int v4) = true) from fun z => by cases z), binD_add, addD_i, out_ok]
      rw [if_pos (by simp), thenX_nx]
      simp only [List.set_cons_succ, List.set_cons_zero]
      rw [ex_cons, s1, thenX_nx, ex_cons, ex_asg, kg, out_ok, if_pos (by simp), thenX_nx]
      simp only [ex_cons, List.set_cons_succ, List.set_cons_zero, ex_mut, List.getElem?_cons_succ, List.getElem?_cons_zero, mutX_l, ev_cons, ev_nil, ev_call, ev_sl, slot0, slotS, ev_cI, R.ok_bind, w_call, k2, k3, need_p (show (false = true → sc C2 = true) from fun z => by cases z), need_p (show (false = true → sc C3 = true) from fun z => by cases z), outL_ok, setM2, setM3, mutO_ok, thenX_nx, ex_nil]
    · exact ⟨(([], [], []), none), by simp [e3, h3, R.need], ⟨q1, q2, Nat.zero_le _, Nat.zero_le _, Nat.zero_le _, q3, q4, (fun x hx => by cases hx), (fun x hx => by cases hx), (fun x hx => by cases hx), q5, ⟨fun _ => rfl, fun _ => rfl⟩, fun _ => rfl, fun _ => rfl⟩⟩
  rintro ⟨⟨m2, m3, fg⟩, x4⟩ hM
  simp only at hM ⊢
  refine ⟨lets, ⟨fs, m0, m1, m2, m3, fg⟩, ?_, fin m0 m1 m2 m3 fg hM⟩
  refine endP (d := tabD ⟨fs, m0, m1, m2, m3, fg⟩) (by
    generalize hFs : fs.map fmD = Fs at *
    simp only [ex_ret, ev_tup, ev_cons, ev_nil, ev_call, ev_sl, slotS, slot0, R.ok_bind, w_call, kf, need_p (show (false = true → sc (D.tup Fs) = true) from fun z => by cases z), ev_bn, bn_tupL, tupR_3, out_ok]
    rw [← hFs]
    rfl) rfl
end Cl
namespace Cl
open PySem PySem.Spec PyProof.Rows L2 PV
theorem s2 (x a b c d : D) : mutD .set [a, b, c, d] [x, .int 2] = .ok [a, b, x, d] := rfl
structure Ed where
  a : List Nat
  t : List Nat
  c : List Int
  b : List Nat
def eDD (e : Ed) : D := eD e.a e.t e.c e.b
abbrev ST : List (List Nat) := [sOut, sIn, sDone, sNum, sLet, sAll]
abbrev hin (s : List Nat) : Prop := s = sIn ∨ s = sAll
structure EdOk (e : Ed) : Prop where
  sa : e.a ∈ ST
  sb : e.b ∈ ST
  c1 : 1 ≤ e.c.length
  c9 : e.c.length ≤ 10
  t6 : e.t.length ≤ 6
  em : e.t = [] → e.a = sNum ∧ e.b = sLet
  nz : hin e.a ∨ hin e.b → ∀ x ∈ e.c, 1 ≤ x
theorem tupI_inj {a b : List Int} (h : tupI a = tupI b) : a = b := by
  have h : D.tup (a.map D.int) = D.tup (b.map D.int) := h
  injection h with h
  exact (List.map_inj_right (fun x y z => by injection z)).mp h
theorem eDD_inj {e f : Ed} (h : eDD e = eDD f) : e = f := by
  obtain ⟨a, t, c, b⟩ := e
  obtain ⟨a', t', c', b'⟩ := f
  have h : D.tup [.str a, .str t, tupI c, .str b] = D.tup [.str a', .str t', tupI c', .str b'] := h
  injection h with h
  injection h with h1 h
  injection h with h2 h
  injection h with h3 h
  injection h with h4 h
  injection h1 with h1
  injection h2 with h2
  injection h4 with h4
  rw [h1, h2, tupI_inj h3, h4]
theorem eds_all {l : List D} (h : ∀ d ∈ l, ∃ e, d = eDD e ∧ EdOk e) : ∃ es : List Ed, l = es.map eDD ∧ ∀ e ∈ es, EdOk e := by
  induction l with
  | nil => exact ⟨[], rfl, fun e h => by cases h⟩
  | cons d l ih =>
    obtain ⟨e, rfl, he⟩ := h d List.mem_cons_self
    obtain ⟨es, rfl, hs⟩ := ih fun x hx => h x (List.mem_cons_of_mem _ hx)
    exact ⟨e :: es, rfl, fun x hx => by
      rcases List.mem_cons.mp hx with rfl | hx
      · exact he
      · exact hs x hx⟩
abbrev Pr := List Nat → Option Nat
def oI : Option Nat → D
  | some n => .int (n : Nat)
  | none => .non
def prK : List D := ST.map D.str
def prV (p : Pr) : List D := ST.map fun s => oI (p s)
def prD (p : Pr) : D := .dic prK (prV p)
def updP (p : Pr) (a : List Nat) (v : Option Nat) : Pr := fun s => if s = a then v else p s
theorem kix_st (a : List Nat) : kix prK (.str a) = ST.findIdx? fun s => decide (s = a) := by
  unfold kix prK
  rw [List.findIdx?_map]
  congr 1
  funext s
  exact eqD_s _ _
theorem st_ix {a : List Nat} (h : a ∈ ST) : ∃ i, ST[i]? = some a ∧ ST.findIdx? (fun s => decide (s = a)) = some i := by
  simp only [ST, List.mem_cons, List.not_mem_nil, or_false] at h
  rcases h with rfl | rfl | rfl | rfl | rfl | rfl
  · exact ⟨0, rfl, by decide⟩
  · exact ⟨1, rfl, by decide⟩
  · exact ⟨2, rfl, by decide⟩
  · exact ⟨3, rfl, by decide⟩
  · exact ⟨4, rfl, by decide⟩
  · exact ⟨5, rfl, by decide⟩
theorem ok_st (a : List Nat) : okKey prK (.str a) = true := rfl
theorem ix_pr (p : Pr) {a : List Nat} (h : a ∈ ST) : ixD (prD p) (.str a) = .ok (oI (p a)) := by
  obtain ⟨i, h1, h2⟩ := st_ix h
  show R.need (okKey prK (.str a) = true) _ = _
  rw [need_p (ok_st a)]
  unfold dget
  rw [kix_st, h2]
  simp only [prV, List.getElem?_map, h1, Option.map_some]
theorem set_pr (p : Pr) {a : List Nat} (h : a ∈ ST) (v : Option Nat) : mutK MO.set prK (prV p) [oI v, .str a] = .ok (prD (updP p a v)) := by
  obtain ⟨i, h1, h2⟩ := st_ix h
  rw [mutK_set _ _ _ _ (ok_st a) (by decide)]
  have e1 : dputK prK (.str a) = prK := by unfold dputK; rw [kix_st, h2]
  have e2 : dputV prK (prV p) (.str a) (oI v) = prV (updP p a v) := by
    unfold dputV
    rw [kix_st, h2]
    simp only [ST, List.mem_cons, List.not_mem_nil, or_false] at h
    rcases h with rfl | rfl | rfl | rfl | rfl | rfl
    · obtain rfl : i = 0 := by have q : ST.findIdx? (fun s => decide (s = sOut)) = some 0 := by decide
                               rw [q] at h2; exact (Option.some.inj h2).symm
      rfl
    · obtain rfl : i = 1 := by have q : ST.findIdx? (fun s => decide (s = sIn)) = some 1 := by decide
                               rw [q] at h2; exact (Option.some.inj h2).symm
      rfl
    · obtain rfl : i = 2 := by have q : ST.findIdx? (fun s => decide (s = sDone)) = some 2 := by decide
                               rw [q] at h2; exact (Option.some.inj h2).symm
      rfl
    · obtain rfl : i = 3 := by have q : ST.findIdx? (fun s => decide (s = sNum)) = some 3 := by decide
                               rw [q] at h2; exact (Option.some.inj h2).symm
      rfl
    · obtain rfl : i = 4 := by have q : ST.findIdx? (fun s => decide (s = sLet)) = some 4 := by decide
                               rw [q] at h2; exact (Option.some.inj h2).symm
      rfl
    · obtain rfl : i = 5 := by have q : ST.findIdx? (fun s => decide (s = sAll)) = some 5 := by decide
                               rw [q] at h2; exact (Option.some.inj h2).symm
      rfl
  rw [e1, e2]
  rfl
theorem sc_oI (v : Option Nat) : sc (oI v) = true := by cases v <;> rfl
theorem sc1_pr (p : Pr) : sc1 (prD p) = true := by
  have h : scs (prV p) = true := by
    simp only [prV, ST, List.map_cons, List.map_nil, scs, sc_oI]
    rfl
  show (scs prK && scs (prV p)) = true
  rw [h]
  rfl
/-- the lesser price -/
def chp (p : Pr) (a : List Nat) : Option Nat → Pr
  | none => p
  | some v => match p a with
    | none => updP p a (some v)
    | some q => if v < q then updP p a (some v) else p
theorem e40 (e : Ed) : ixD (eDD e) (.int 0) = .ok (.str e.a) := rfl
theorem e41 (e : Ed) : ixD (eDD e) (.int 1) = .ok (.str e.t) := rfl
theorem e42 (e : Ed) : ixD (eDD e) (.int 2) = .ok (tupI e.c) := rfl
theorem e43 (e : Ed) : ixD (eDD e) (.int 3) = .ok (.str e.b) := rfl
theorem is_oI (v : Option Nat) : cmpD .Is (oI v) .non = .ok (.bl v.isNone) := by cases v <;> rfl
theorem cheap_ok (n : Nat) (p : Pr) (e : Ed) (he : EdOk e) (r : Option Nat) : L.call (n + 1) 11 [prD p, eDD e, oI r] = .ok (prD (chp p e.a (r.map (e.c.length + ·)))) := by
  rw [call_f_cheapened, B_f_cheapened]
  cases r with
  | none =>
    rw [ex_cons, ex_ifs, ev_cmp, ev_sl, slotS, slotS, slot0, R.ok_bind, ev_cN, R.ok_bind, is_oI, out_ok]
    rfl
  | some r =>
    have h0 := e40 e
    have h2 := e42 e
    have hl := len_tI e.c
    have hx := ix_pr p he.sa
    have hs := set_pr p he.sa (some (e.c.length + r))
    have hmu : isMu (prD p) = true := rfl
    have hmu2 : isMu (prD (updP p e.a (some (e.c.length + r)))) = true := rfl
    have hadd : (e.c.length : Int) + (r : Int) = ((e.c.length + r : Nat) : Int) := by omega
    have s1 : exS (L.w n) (.ifs (.cmp .Is (.sl 2) (.cN)) (.cons (.brk) .nil) .nil) [some (prD p), some (eDD e), some (oI (some r)), none] = .nx [some (prD p), some (eDD e), some (oI (some r)), none] := by
      rw [ex_ifs, ev_cmp, ev_sl, slotS, slotS, slot0, R.ok_bind, ev_cN, R.ok_bind, is_oI, out_ok]
      rfl
    rw [ex_cons, s1, thenX_nx]
    have s2 : exS (L.w n) (.asg 3 0 (.bin .Add (.bn .len (.cons (.ix (.sl 1) (.cI 2)) .nil)) (.sl 2))) [some (prD p), some (eDD e), some (oI (some r)), none] = .nx [some (prD p), some (eDD e), some (oI (some r)), some (.int ((e.c.length + r : Nat) : Int))] := by
      rw [ex_asg, ev_bin, ev_bn, ev_cons, ev_ix, ev_sl, slotS, slot0, R.ok_bind, ev_cI, R.ok_bind, h2, R.ok_bind, ev_nil, R.ok_bind, R.ok_bind, hl, R.ok_bind, ev_sl, slotS, slotS, slot0, R.ok_bind, binD_add]
      show ((addD (.int (e.c.length : Int)) (.int (r : Int))).out _ _) = _
      rw [addD_i, hadd]
      rfl
    rw [ex_cons, s2, thenX_nx]
    have hm : exB (L.w n) (.cons (.mut .set 0 (.cons (.sl 3) (.cons (.ix (.sl 1) (.cI 0)) .nil))) .nil) [some (prD p), some (eDD e), some (oI (some r)), some (.int ((e.c.length + r : Nat) : Int))] = .nx [some (prD (updP p e.a (some (e.c.length + r)))), some (eDD e), some (oI (some r)), some (.int ((e.c.length + r : Nat) : Int))] := by
      rw [ex_cons, ex_mut]
      show thenX (mutX (some (some (.dic prK (prV p)))) _ _) _ = _
      rw [mutX_k, if_set, ev_cons, ev_sl, slotS, slotS, slotS, slot0, R.ok_bind, ev_cons, ev_ix, ev_sl, slotS, slot0, R.ok_bind, ev_cI, R.ok_bind, h0, R.ok_bind, ev_nil, R.ok_bind, R.ok_bind, outL_ok]
      show thenX (mutKO (mutK MO.set prK (prV p) [oI (some (e.c.length + r)), .str e.a]) 0 _) _ = _
      rw [hs, mutKO_ok, thenX_nx, ex_nil]
      rfl
    rw [ex_cons, ex_ifs, ev_or, ev_cmp, ev_ix, ev_sl, slot0, R.ok_bind, ev_ix, ev_sl, slotS, slot0, R.ok_bind, ev_cI, R.ok_bind, h0, R.ok_bind, hx, R.ok_bind, ev_cN, R.ok_bind, is_oI, R.ok_bind]
    cases q : p e.a with
    | none =>
      show endIO (thenX ((R.ok (D.bl true)).out _ _) _) = _
      rw [out_ok, thenO_t, hm, thenX_nx, ex_nil]
      show _ = R.ok (prD (match p e.a with | none => updP p e.a (some (e.c.length + r)) | some q => if e.c.length + r < q then updP p e.a (some (e.c.length + r)) else p))
      rw [q]
      rfl
    | some v =>
      have hx2 : ixD (prD p) (.str e.a) = .ok (.int (v : Int)) := by rw [hx, q]; rfl
      rw [show thenB (D.bl (some v).isNone) (R.ok (.bl true)) _ = _ from thenB_f _ _, ev_one, ev_cmp, ev_sl, slotS, slotS, slotS, slot0, R.ok_bind, ev_ix, ev_sl, slot0, R.ok_bind, ev_ix, ev_sl, slotS, slot0, R.ok_bind, ev_cI, R.ok_bind, h0, R.ok_bind, hx2, R.ok_bind, lt_i, asB_b, asB_b, out_ok]
      show _ = R.ok (prD (match p e.a with | none => updP p e.a (some (e.c.length + r)) | some q => if e.c.length + r < q then updP p e.a (some (e.c.length + r)) else p))
      rw [q]
      by_cases hlt : e.c.length + r < v
      · rw [decide_eq_true (by omega), thenO_t, hm, thenX_nx, ex_nil]
        show _ = R.ok (prD (if e.c.length + r < v then _ else _))
        rw [if_pos hlt]
        rfl
      · rw [decide_eq_false (by omega), thenO_f, ex_nil, thenX_nx, ex_nil]
        show _ = R.ok (prD (if e.c.length + r < v then _ else _))
        rw [if_neg hlt]
        rfl
def fitB (e : Ed) (tx : List Nat) (pl : Nat) : Bool := decide ((tx.drop pl).take e.t.length = e.t)
theorem cut_mid {α : Type} (s : List α) (a k : Nat) (h : a ≤ s.length) : cut s (some (a : Int)) (some ((a + k : Nat) : Int)) = (s.drop a).take k := by
  unfold cut
  have e1 : HT.sIx s.length 0 (some (a : Int)) = a := by
    show (if (a : Int) < 0 then ((a : Int) + s.length).toNat else min (a : Int).toNat s.length) = a
    rw [if_neg (by omega)]
    omega
  have e2 : HT.sIx s.length s.length (some ((a + k : Nat) : Int)) = min (a + k) s.length := by
    show (if ((a + k : Nat) : Int) < 0 then (((a + k : Nat) : Int) + s.length).toNat else min ((a + k : Nat) : Int).toNat s.length) = _
    rw [if_neg (by omega)]
    omega
  rw [e1, e2]
  have e3 : min (a + k) s.length - a = min k (s.length - a) := by omega
  rw [e3, ← List.length_drop, List.take_eq_take_iff]
  omega
theorem fits_ok (n : Nat) (e : Ed) (tx : List Nat) (pl : Nat) (h : pl ≤ tx.length) : L.call (n + 1) 10 [eDD e, .str tx, .int (pl : Int)] = .ok (.bl (fitB e tx pl)) := by
  rw [call_f_text_fits, B_f_text_fits]
  have h1 := e41 e
  have hc := cut_mid tx pl e.t.length h
  have ha : (pl : Int) + (e.t.length : Int) = ((pl + e.t.length : Nat) : Int) := by omega
  rw [ex_cons, ex_ret, ev_cmp, ev_cut, ev_sl, slotS, slot0, R.ok_bind, ev_sl, slotS, slotS, slot0, R.ok_bind, isN_sl, part_i, R.ok_bind, ev_bin, ev_sl, slotS, slotS, slot0, R.ok_bind, ev_bn, ev_cons, ev_ix, ev_sl, slot0, R.ok_bind, ev_cI, R.ok_bind, h1, R.ok_bind, ev_nil, R.ok_bind, R.ok_bind, len_s, R.ok_bind, binD_add, addD_i, R.ok_bind, isN_bin, part_i, R.ok_bind, ha, cut_s, hc, R.ok_bind, R.ok_bind, eq_s, out_ok]
  rfl
theorem fit_le {e : Ed} {tx : List Nat} {pl : Nat} (h : fitB e tx pl = true) (hp : pl ≤ tx.length) : pl + e.t.length ≤ tx.length := by
  have h := congrArg List.length (of_decide_eq_true h)
  rw [List.length_take, List.length_drop] at h
  omega
def ends (s : List Nat) : Bool := decide (s = sOut) || (decide (s = sDone) || decide (s = sNum))
def ini (tx : List Nat) (pl : Nat) : Pr := fun s => if pl = tx.length ∧ ends s = true then some 0 else none
theorem end_all : ∀ i : Fin 6, rbl (L.call 1 1 [.str (ST.getD i.val [])]) = some (ends (ST.getD i.val [])) := by decide +kernel
theorem con_STATES : L.conD 3 = .tup prK := rfl
def pK (i : Nat) : List D := (ST.take i).map D.str
def pV (p : Pr) (i : Nat) : List D := (ST.take i).map fun s => oI (p s)
theorem kix_pK (i : Nat) (a : List Nat) : kix (pK i) (.str a) = (ST.take i).findIdx? fun s => decide (s = a) := by
  unfold kix pK
  rw [List.findIdx?_map]
  congr 1
  funext s
  exact eqD_s _ _
theorem new_all : ∀ i : Fin 6, (ST.take i.val).findIdx? (fun s => decide (s = ST.getD i.val [])) = none ∧ (ST.take (i.val + 1)).findIdx? (fun s => decide (s = ST.getD i.val [])) = some i.val := by decide
theorem ok_pK (i : Nat) (a : List Nat) : okKey (pK i) (.str a) = true := by
  unfold okKey
  have : (pK i).all flatD = true := by
    rw [List.all_eq_true]; intro d hd; obtain ⟨s, _, rfl⟩ := List.mem_map.mp hd; rfl
  rw [this]
  rfl
theorem st_take {i : Nat} (h : i < 6) : ST.take (i + 1) = ST.take i ++ [ST.getD i []] := by
  have : i = 0 ∨ i = 1 ∨ i = 2 ∨ i = 3 ∨ i = 4 ∨ i = 5 := by omega
  rcases this with rfl | rfl | rfl | rfl | rfl | rfl <;> rfl
theorem set_last : ∀ (l : List D) (a b : D), (l ++ [a]).set l.length b = l ++ [b]
  | [], a, b => rfl
  | x :: l, a, b => by
    have := set_last l a b
    show x :: (l ++ [a]).set l.length b = _
    rw [this]
    rfl
/-- one state's turn: none, or nothing to pay at the end -/
theorem ini_turn (n : Nat) (ED BD : D) (tx : List Nat) (pl : Nat) (i : Nat) (hi : i < 6) (x6 : Option D) : exB (L.w (n + 1)) B_f_prices_at_0 [some ED, some (.str tx), some (.int (pl : Int)), some BD, some (.dic (pK i) (pV (ini tx pl) i)), some (.str (ST.getD i [])), x6] = .nx [some ED, some (.str tx), some (.int (pl : Int)), some BD, some (.dic (pK (i + 1)) (pV (ini tx pl) (i + 1))), some (.str (ST.getD i [])), x6] := by
  obtain ⟨n1, n2⟩ := new_all ⟨i, hi⟩
  simp only at n1 n2
  have he := up_call (m := n + 1) (rbl_ok (end_all ⟨i, hi⟩))
  simp only at he
  have k1 : mutK MO.set (pK i) (pV (ini tx pl) i) [.non, .str (ST.getD i [])] = .ok (.dic (pK (i + 1)) (pV (ini tx pl) i ++ [.non])) := by
    rw [mutK_set _ _ _ _ (ok_pK _ _) (by unfold pK; rw [List.length_map, List.length_take]; omega)]
    unfold dputK dputV
    rw [kix_pK, n1]
    simp only [pK, st_take hi, List.map_append, List.map_cons, List.map_nil]
  have k2 : mutK MO.set (pK (i + 1)) (pV (ini tx pl) i ++ [.non]) [.int 0, .str (ST.getD i [])] = .ok (.dic (pK (i + 1)) (pV (ini tx pl) i ++ [.int 0])) := by
    rw [mutK_set _ _ _ _ (ok_pK _ _) (by unfold pK; rw [List.length_map, List.length_take]; omega)]
    unfold dputK dputV
    rw [kix_pK, n2]
    show R.ok (D.dic (pK (i + 1)) ((pV (ini tx pl) i ++ [D.non]).set i (.int 0))) = _
    have hl : (pV (ini tx pl) i).length = i := by
      unfold pV
      rw [List.length_map, List.length_take]
      show min i 6 = i
      omega
    have : (pV (ini tx pl) i ++ [D.non]).set i (.int 0) = pV (ini tx pl) i ++ [.int 0] := by
      have q := set_last (pV (ini tx pl) i) D.non (.int 0)
      rw [hl] at q
      exact q
    rw [this]
  have kv : ∀ d, oI (ini tx pl (ST.getD i [])) = d → pV (ini tx pl) i ++ [d] = pV (ini tx pl) (i + 1) := fun d hd => by
    unfold pV
    rw [st_take hi, List.map_append, List.map_cons, List.map_nil, hd]
  generalize hS : ST.getD i [] = S at *
  rw [B_f_prices_at_0, ex_cons, ex_mut]
  show thenX (mutX (some (some (.dic (pK i) (pV (ini tx pl) i)))) _ _) _ = _
  rw [mutX_k, if_set, ev_cons, ev_cN, R.ok_bind, ev_cons, ev_sl]
  simp only [slotS, slot0, R.ok_bind, ev_nil, outL_ok, k1, mutKO_ok, thenX_nx, List.set_cons_succ, List.set_cons_zero]
  rw [ex_cons, ex_ifs, ev_and, ev_cmp, ev_sl]
  simp only [slotS, slot0, R.ok_bind, ev_bn, ev_cons, ev_sl, ev_nil, len_s, eq_i]
  by_cases hp : pl = tx.length
  · rw [decide_eq_true (by omega), thenB_t, ev_one, ev_call]
    simp only [ev_cons, ev_sl, slotS, slot0, R.ok_bind, ev_nil, w_call, he, need_p (ff (.bl (ends S))), asB_b, out_ok]
    cases hb : ends S with
    | true =>
      have hv : oI (ini tx pl S) = .int 0 := by unfold ini; rw [if_pos ⟨hp, hb⟩]; rfl
      rw [thenO_t, ex_cons, ex_mut]
      show thenX (thenX (mutX (some (some (.dic (pK (i + 1)) (pV (ini tx pl) i ++ [D.non])))) _ _) _) _ = _
      rw [mutX_k, if_set, ev_cons, ev_cI, R.ok_bind, ev_cons, ev_sl]
      simp only [slotS, slot0, R.ok_bind, ev_nil, outL_ok, k2, mutKO_ok, thenX_nx, ex_nil, List.set_cons_succ, List.set_cons_zero, kv _ hv]
    | false =>
      have hv : oI (ini tx pl S) = .non := by unfold ini; rw [if_neg (fun z => by rw [hb] at z; exact Bool.false_ne_true z.2)]; rfl
      rw [thenO_f, ex_nil, thenX_nx, ex_nil, kv _ hv]
  · have hv : oI (ini tx pl S) = .non := by unfold ini; rw [if_neg (fun z => hp z.1)]; rfl
    rw [decide_eq_false (by omega), thenB_f, out_ok, thenO_f, ex_nil, thenX_nx, ex_nil, kv _ hv]
theorem ini_go (n : Nat) (ED BD : D) (tx : List Nat) (pl : Nat) (x6 : Option D) : ∀ (k i : Nat), i + k = 6 → ∀ x5 : Option D, ∃ y5, forGo (.one 5) (exB (L.w (n + 1)) B_f_prices_at_0) ((ST.drop i).map D.str) [some ED, some (.str tx), some (.int (pl : Int)), some BD, some (.dic (pK i) (pV (ini tx pl) i)), x5, x6] = .nx [some ED, some (.str tx), some (.int (pl : Int)), some BD, some (prD (ini tx pl)), y5, x6]
  | 0, i, h, x5 => by
    obtain rfl : i = 6 := by omega
    exact ⟨x5, rfl⟩
  | k + 1, i, h, x5 => by
    obtain ⟨y5, e⟩ := ini_go n ED BD tx pl x6 k (i + 1) (by omega) (some (.str (ST.getD i [])))
    refine ⟨y5, ?_⟩
    have hd : ST.drop i = ST.getD i [] :: ST.drop (i + 1) := by
      have : i = 0 ∨ i = 1 ∨ i = 2 ∨ i = 3 ∨ i = 4 ∨ i = 5 := by omega
      rcases this with rfl | rfl | rfl | rfl | rfl | rfl <;> rfl
    rw [hd, List.map_cons, for_st (ρ1 := [some ED, some (.str tx), some (.int (pl : Int)), some BD, some (.dic (pK i) (pV (ini tx pl) i)), some (.str (ST.getD i [])), x6]) (by simp [R.need]) (ini_turn n ED BD tx pl i (by omega) x6), e]
abbrev Bh := Nat → Pr
def w1 (B : Bh) (tx : List Nat) (pl : Nat) (e : Ed) : Option Nat := if e.t ≠ [] ∧ fitB e tx pl = true then (B (pl + e.t.length) e.b).map (e.c.length + ·) else none
def fold1 (B : Bh) (tx : List Nat) (pl : Nat) (es : List Ed) (p : Pr) : Pr := es.foldl (fun p e => chp p e.a (w1 B tx pl e)) p
def fold2 (es : List Ed) (p : Pr) : Pr := es.foldl (fun p e => chp p e.a (if e.t = [] then (p e.b).map (e.c.length + ·) else none)) p
theorem p1_go (n : Nat) (B : Bh) (ED BD : D) (tx : List Nat) (pl : Nat) (hp : pl ≤ tx.length) (x5 : Option D) (hB : ∀ q, pl < q → q ≤ tx.length → ixD BD (.int (q : Int)) = .ok (prD (B q))) : ∀ (es : List Ed) (p : Pr) (x6 : Option D), (∀ e ∈ es, EdOk e) → ∃ y6, forGo (.one 6) (exB (L.w (n + 1)) B_f_prices_at_1) (es.map eDD) [some ED, some (.str tx), some (.int (pl : Int)), some BD, some (prD p), x5, x6] = .nx [some ED, some (.str tx), some (.int (pl : Int)), some BD, some (prD (fold1 B tx pl es p)), x5, y6]
  | [], p, x6, _ => ⟨x6, rfl⟩
  | e :: es, p, x6, h => by
    have he := h e List.mem_cons_self
    obtain ⟨y6, ih⟩ := p1_go n B ED BD tx pl hp x5 hB es (chp p e.a (w1 B tx pl e)) (some (eDD e)) fun f hf => h f (List.mem_cons_of_mem _ hf)
    refine ⟨y6, ?_⟩
    have h1 := e41 e
    have h3 := e43 e
    have hf := fits_ok n e tx pl hp
    have hb : exB (L.w (n + 1)) B_f_prices_at_1 [some ED, some (.str tx), some (.int (pl : Int)), some BD, some (prD p), x5, some (eDD e)] = .nx [some ED, some (.str tx), some (.int (pl : Int)), some BD, some (prD (chp p e.a (w1 B tx pl e))), x5, some (eDD e)] := by
      rw [B_f_prices_at_1, ex_cons, ex_ifs, ev_and, ev_cmp, ev_ix, ev_sl]
      simp only [slotS, slot0, R.ok_bind, ev_cI, h1, ev_cS, ne_s]
      by_cases ht : e.t = []
      · rw [show (!decide (e.t = [])) = false by rw [decide_eq_true ht]; rfl, thenB_f, out_ok, thenO_f, ex_nil, thenX_nx, ex_nil]
        have : w1 B tx pl e = none := if_neg fun z => z.1 ht
        rw [this]
        rfl
      · rw [show (!decide (e.t = [])) = true by rw [decide_eq_false ht]; rfl, thenB_t, ev_one, ev_call]
        simp only [ev_cons, ev_sl, slotS, slot0, R.ok_bind, ev_nil, w_call, hf, need_p (ff (.bl (fitB e tx pl))), asB_b, out_ok]
        cases hfit : fitB e tx pl with
        | false =>
          have : w1 B tx pl e = none := if_neg fun z => by rw [hfit] at z; exact Bool.false_ne_true z.2
          rw [thenO_f, ex_nil, thenX_nx, ex_nil, this]
          rfl
        | true =>
          have hle := fit_le hfit hp
          have hlen : 0 < e.t.length := List.length_pos_iff.mpr ht
          have hx := hB (pl + e.t.length) (by omega) hle
          have hx2 := ix_pr (B (pl + e.t.length)) he.sb
          have hc := cheap_ok n p e he (B (pl + e.t.length) e.b)
          have hw : w1 B tx pl e = (B (pl + e.t.length) e.b).map (e.c.length + ·) := if_pos ⟨ht, hfit⟩
          have ha : (pl : Int) + (e.t.length : Int) = ((pl + e.t.length : Nat) : Int) := by omega
          have hmu : isMu (prD p) = true := rfl
          rw [hw]
          generalize prD (B (pl + e.t.length)) = PB at *
          generalize prD (chp p e.a ((B (pl + e.t.length) e.b).map (e.c.length + ·))) = P2 at *
          generalize prD p = P1 at *
          generalize oI (B (pl + e.t.length) e.b) = OI at *
          generalize eDD e = EE at *
          rw [thenO_t, ex_cons, ex_callM]
          simp only [List.getElem?_cons_succ, List.getElem?_cons_zero, ownX_s, ev_cons, ev_nil, ev_sl, slotS, slot0, R.ok_bind, ev_ix, ev_bin, ev_bn, ev_cI, h1, len_s, binD_add, addD_i, ha, hx, h3, hx2, outL_ok, need_p hmu, w_call, hc, mutKO_ok, thenX_nx, ex_nil, List.set_cons_succ, List.set_cons_zero]
    rw [List.map_cons, for_st (ρ1 := [some ED, some (.str tx), some (.int (pl : Int)), some BD, some (prD p), x5, some (eDD e)]) (by simp [R.need]) hb, ih]
    rfl
theorem p2_go (n : Nat) (ED BD T P : D) (x5 : Option D) : ∀ (es : List Ed) (p : Pr) (x6 : Option D), (∀ e ∈ es, EdOk e) → ∃ y6, forGo (.one 6) (exB (L.w (n + 1)) B_f_prices_at_2) (es.map eDD) [some ED, some T, some P, some BD, some (prD p), x5, x6] = .nx [some ED, some T, some P, some BD, some (prD (fold2 es p)), x5, y6]
  | [], p, x6, _ => ⟨x6, rfl⟩
  | e :: es, p, x6, h => by
    have he := h e List.mem_cons_self
    obtain ⟨y6, ih⟩ := p2_go n ED BD T P x5 es (chp p e.a (if e.t = [] then (p e.b).map (e.c.length + ·) else none)) (some (eDD e)) fun f hf => h f (List.mem_cons_of_mem _ hf)
    refine ⟨y6, ?_⟩
    have h1 := e41 e
    have h3 := e43 e
    have hb : exB (L.w (n + 1)) B_f_prices_at_2 [some ED, some T, some P, some BD, some (prD p), x5, some (eDD e)] = .nx [some ED, some T, some P, some BD, some (prD (chp p e.a (if e.t = [] then (p e.b).map (e.c.length + ·) else none))), x5, some (eDD e)] := by
      rw [B_f_prices_at_2, ex_cons, ex_ifs, ev_cmp, ev_ix, ev_sl]
      simp only [slotS, slot0, R.ok_bind, ev_cI, h1, ev_cS, eq_s, out_ok]
      by_cases ht : e.t = []
      · have hx2 := ix_pr p he.sb
        have hc := cheap_ok n p e he (p e.b)
        have hmu : isMu (prD p) = true := rfl
        rw [decide_eq_true ht, if_pos ht]
        generalize prD (chp p e.a ((p e.b).map (e.c.length + ·))) = P2 at *
        generalize prD p = P1 at *
        generalize oI (p e.b) = OI at *
        generalize eDD e = EE at *
        rw [thenO_t, ex_cons, ex_callM]
        simp only [List.getElem?_cons_succ, List.getElem?_cons_zero, ownX_s, ev_cons, ev_nil, ev_sl, slotS, slot0, R.ok_bind, ev_ix, ev_cI, h3, hx2, outL_ok, need_p hmu, w_call, hc, mutKO_ok, thenX_nx, ex_nil, List.set_cons_succ, List.set_cons_zero]
      · rw [decide_eq_false ht, if_neg ht, thenO_f, ex_nil, thenX_nx, ex_nil]
        rfl
    rw [List.map_cons, for_st (ρ1 := [some ED, some T, some P, some BD, some (prD p), x5, some (eDD e)]) (by simp [R.need]) hb, ih]
    rfl
def prF (es : List Ed) (B : Bh) (tx : List Nat) (pl : Nat) : Pr := fold2 es (fold1 B tx pl es (ini tx pl))
theorem prices_ok (n : Nat) (es : List Ed) (hE : ∀ e ∈ es, EdOk e) (B : Bh) (BD : D) (tx : List Nat) (pl : Nat) (hp : pl ≤ tx.length) (hB : ∀ q, pl < q → q ≤ tx.length → ixD BD (.int (q : Int)) = .ok (prD (B q))) : L.call (n + 2) 12 [.lst (es.map eDD), .str tx, .int (pl : Int), BD] = .ok (prD (prF es B tx pl)) := by
  rw [call_f_prices_at]
  show Got _ _
  obtain ⟨y5, g0⟩ := ini_go n (.lst (es.map eDD)) BD tx pl none 6 0 rfl none
  obtain ⟨y6, g1⟩ := p1_go n B (.lst (es.map eDD)) BD tx pl hp y5 hB es (ini tx pl) none hE
  obtain ⟨z6, g2⟩ := p2_go n (.lst (es.map eDD)) BD (.str tx) (.int (pl : Int)) y5 es (fold1 B tx pl es (ini tx pl)) y6 hE
  have hc : (L.w (n + 1)).con 3 = .tup prK := con_STATES
  have g0 : forGo (.one 5) (exB (L.w (n + 1)) B_f_prices_at_0) prK [some (.lst (es.map eDD)), some (.str tx), some (.int (pl : Int)), some BD, some (.dic [] []), none, none] = .nx [some (.lst (es.map eDD)), some (.str tx), some (.int (pl : Int)), some BD, some (prD (ini tx pl)), y5, none] := g0
  unfold prF
  generalize prD (fold2 es (fold1 B tx pl es (ini tx pl))) = P3 at *
  generalize prD (fold1 B tx pl es (ini tx pl)) = P2 at *
  generalize prD (ini tx pl) = P1 at *
  rw [B_f_prices_at]
  refine stepP (ρ1 := [some (.lst (es.map eDD)), some (.str tx), some (.int (pl : Int)), some BD, some (.dic [] []), none, none]) (by simp) ?_
  refine stepP (by rw [ex_for, ev_seq, ev_gl, hc, R.ok_bind, seq_t, outL_ok, g0]) ?_
  refine stepP (by rw [ex_for, ev_seq, ev_sl, slot0, R.ok_bind, seq_l, outL_ok, g1]) ?_
  refine stepP (by rw [ex_for, ev_seq, ev_sl, slot0, R.ok_bind, seq_l, outL_ok, g2]) ?_
  exact endP (d := P3) (by rw [ex_ret, ev_mv]; rfl) rfl
theorem chp_a {p : Pr} {a s : List Nat} {v : Option Nat} {x : Nat} (h : chp p a v s = some x) : p s = some x ∨ (s = a ∧ v = some x) := by
  unfold chp at h
  cases v with
  | none => exact .inl h
  | some v =>
    cases q : p a with
    | none =>
      rw [q] at h
      have h : (if s = a then some v else p s) = some x := h
      split at h
      · exact .inr ⟨by assumption, h⟩
      · exact .inl h
    | some u =>
      rw [q] at h
      have h : (if v < u then updP p a (some v) else p) s = some x := h
      split at h
      · have h : (if s = a then some v else p s) = some x := h
        split at h
        · exact .inr ⟨by assumption, h⟩
        · exact .inl h
      · exact .inl h
theorem chp_b {p : Pr} {a : List Nat} {v : Nat} : ∃ q, q ≤ v ∧ chp p a (some v) a = some q := by
  unfold chp
  cases q : p a with
  | none => exact ⟨v, Nat.le_refl _, if_pos rfl⟩
  | some u =>
    show ∃ q, q ≤ v ∧ (if v < u then updP p a (some v) else p) a = some q
    split
    · exact ⟨v, Nat.le_refl _, if_pos rfl⟩
    · exact ⟨u, by omega, q⟩
theorem chp_c {p : Pr} {a s : List Nat} {v : Option Nat} {x : Nat} (h : p s = some x) : ∃ q, q ≤ x ∧ chp p a v s = some q := by
  unfold chp
  cases v with
  | none => exact ⟨x, Nat.le_refl _, h⟩
  | some v =>
    cases q : p a with
    | none =>
      show ∃ q, q ≤ x ∧ (if s = a then some v else p s) = some q
      split
      · rename_i e; rw [e, q] at h; cases h
      · exact ⟨x, Nat.le_refl _, h⟩
    | some u =>
      show ∃ q, q ≤ x ∧ (if v < u then updP p a (some v) else p) s = some q
      split
      · show ∃ q, q ≤ x ∧ (if s = a then some v else p s) = some q
        split
        · rename_i h2 e
          rw [e, q] at h
          exact ⟨v, by have := Option.some.inj h; omega, rfl⟩
        · exact ⟨x, Nat.le_refl _, h⟩
      · exact ⟨x, Nat.le_refl _, h⟩
theorem fold_a {w : Ed → Option Nat} {s : List Nat} {x : Nat} : ∀ {es : List Ed} {p : Pr}, es.foldl (fun p e => chp p e.a (w e)) p s = some x → p s = some x ∨ ∃ e ∈ es, e.a = s ∧ w e = some x
  | [], p, h => .inl h
  | e :: es, p, h => by
    rcases fold_a (es := es) (p := chp p e.a (w e)) h with h | ⟨f, hf, q⟩
    · rcases chp_a h with h | ⟨h1, h2⟩
      · exact .inl h
      · exact .inr ⟨e, List.mem_cons_self, h1.symm, h2⟩
    · exact .inr ⟨f, List.mem_cons_of_mem _ hf, q⟩
theorem fold_c {w : Ed → Option Nat} {s : List Nat} : ∀ {es : List Ed} {p : Pr} {x : Nat}, p s = some x → ∃ q, q ≤ x ∧ es.foldl (fun p e => chp p e.a (w e)) p s = some q
  | [], p, x, h => ⟨x, Nat.le_refl _, h⟩
  | e :: es, p, x, h => by
    obtain ⟨q, h1, h2⟩ := chp_c (a := e.a) (v := w e) h
    obtain ⟨q2, h3, h4⟩ := fold_c (w := w) (es := es) h2
    exact ⟨q2, by omega, h4⟩
theorem fold_b {w : Ed → Option Nat} {e : Ed} {v : Nat} (hw : w e = some v) : ∀ {es : List Ed} {p : Pr}, e ∈ es → ∃ q, q ≤ v ∧ es.foldl (fun p e => chp p e.a (w e)) p e.a = some q
  | f :: es, p, h => by
    rcases List.mem_cons.mp h with h0 | h0
    · subst h0
      obtain ⟨q, h1, h2⟩ := chp_b (p := p) (a := e.a) (v := v)
      rw [← hw] at h2
      obtain ⟨q2, h3, h4⟩ := fold_c (w := w) (es := es) h2
      exact ⟨q2, by omega, h4⟩
    · exact fold_b hw (es := es) (p := chp p f.a (w f)) h0
theorem let_num : sLet ≠ sNum := by decide
theorem chp_let (q : Pr) (v : Option Nat) : chp q sNum v sLet = q sLet := by
  unfold chp
  cases v with
  | none => rfl
  | some v =>
    cases e : q sNum with
    | none => exact if_neg let_num
    | some u =>
      show (if v < u then updP q sNum (some v) else q) sLet = _
      split
      · exact if_neg let_num
      · rfl
theorem fold2_eq {p : Pr} : ∀ {es : List Ed} {q : Pr}, (∀ e ∈ es, EdOk e) → q sLet = p sLet → fold2 es q = es.foldl (fun r e => chp r e.a (if e.t = [] then (p sLet).map (e.c.length + ·) else none)) q
  | [], q, _, _ => rfl
  | e :: es, q, h, hq => by
    have he := h e List.mem_cons_self
    have key : (if e.t = [] then (q e.b).map (e.c.length + ·) else none) = (if e.t = [] then (p sLet).map (e.c.length + ·) else none) := by
      by_cases ht : e.t = []
      · rw [if_pos ht, if_pos ht, (he.em ht).2, hq]
      · rw [if_neg ht, if_neg ht]
    show fold2 es (chp q e.a (if e.t = [] then (q e.b).map (e.c.length + ·) else none)) = _
    rw [key]
    refine fold2_eq (fun f hf => h f (List.mem_cons_of_mem _ hf)) ?_
    rw [← hq]
    by_cases ht : e.t = []
    · rw [if_pos ht, (he.em ht).1]
      exact chp_let _ _
    · rw [if_neg ht]
      rfl
/-- what holds of the prices at a place -/
structure SP (es : List Ed) (tx : List Nat) (G : Bh) (pl : Nat) : Prop where
  of : ∀ s x, G pl s = some x → (x = 0 ∧ pl = tx.length ∧ ends s = true) ∨ ∃ e ∈ es, e.a = s ∧ fitB e tx pl = true ∧ ∃ r, G (pl + e.t.length) e.b = some r ∧ x = e.c.length + r
  by_ : ∀ e ∈ es, fitB e tx pl = true → ∀ r, G (pl + e.t.length) e.b = some r → ∃ q, q ≤ e.c.length + r ∧ G pl e.a = some q
  fin : pl = tx.length → ∀ s, ends s = true → G pl s = some 0
theorem fit_nil {e : Ed} {tx : List Nat} {pl : Nat} (h : e.t = []) : fitB e tx pl = true := by
  unfold fitB
  rw [h]
  rfl
theorem sp_ok {es : List Ed} (hE : ∀ e ∈ es, EdOk e) {tx : List Nat} {B G : Bh} {pl : Nat} (hG : G pl = prF es B tx pl) (hB : ∀ q, pl < q → G q = B q) : SP es tx G pl := by
  have e2 := fold2_eq (p := fold1 B tx pl es (ini tx pl)) hE rfl
  have lett : G pl sLet = fold1 B tx pl es (ini tx pl) sLet := by
    rw [hG]
    unfold prF
    rw [e2]
    have key : ∀ (l : List Ed) (q : Pr), (∀ e ∈ l, EdOk e) → l.foldl (fun r e => chp r e.a (if e.t = [] then (fold1 B tx pl es (ini tx pl) sLet).map (e.c.length + ·) else none)) q sLet = q sLet := by
      intro l
      induction l with
      | nil => intro q _; rfl
      | cons e l ih =>
        intro q h
        have he := h e List.mem_cons_self
        show l.foldl _ (chp q e.a _) sLet = _
        rw [ih _ fun f hf => h f (List.mem_cons_of_mem _ hf)]
        by_cases ht : e.t = []
        · rw [if_pos ht, (he.em ht).1]
          exact chp_let _ _
        · rw [if_neg ht]
          rfl
    exact key es _ hE
  have gB : ∀ e : Ed, e.t ≠ [] → G (pl + e.t.length) = B (pl + e.t.length) := fun e ht => hB _ (by have := List.length_pos_iff.mpr ht; omega)
  refine ⟨fun s x h => ?_, fun e he hf r hr => ?_, fun hp s hs => ?_⟩
  · rw [hG] at h
    unfold prF at h
    rw [e2] at h
    rcases fold_a h with h | ⟨e, he, h1, h2⟩
    · rcases fold_a (w := w1 B tx pl) h with h | ⟨e, he, h1, h2⟩
      · unfold ini at h
        split at h
        · rename_i hz
          exact .inl ⟨(Option.some.inj h).symm, hz.1, hz.2⟩
        · cases h
      · unfold w1 at h2
        split at h2
        · rename_i hz
          cases q : B (pl + e.t.length) e.b with
          | none => rw [q] at h2; cases h2
          | some r =>
            rw [q] at h2
            exact .inr ⟨e, he, h1, hz.2, r, by rw [gB e hz.1]; exact q, (Option.some.inj h2).symm⟩
        · cases h2
    · by_cases ht : e.t = []
      · have h2 : (if e.t = [] then (fold1 B tx pl es (ini tx pl) sLet).map (e.c.length + ·) else none) = some x := h2
        rw [if_pos ht] at h2
        cases q : fold1 B tx pl es (ini tx pl) sLet with
        | none => rw [q] at h2; cases h2
        | some r =>
          rw [q] at h2
          refine .inr ⟨e, he, h1, fit_nil ht, r, ?_, (Option.some.inj h2).symm⟩
          rw [ht, ((hE e he).em ht).2]
          exact lett.trans q
      · have h2 : (if e.t = [] then (fold1 B tx pl es (ini tx pl) sLet).map (e.c.length + ·) else none) = some x := h2
        rw [if_neg ht] at h2
        cases h2
  · rw [hG]
    unfold prF
    rw [e2]
    by_cases ht : e.t = []
    · have hr : G pl sLet = some r := by
        rw [ht, ((hE e he).em ht).2] at hr
        exact hr
      rw [lett] at hr
      exact fold_b (w := fun e => if e.t = [] then (fold1 B tx pl es (ini tx pl) sLet).map (e.c.length + ·) else none) (by
        show (if e.t = [] then (fold1 B tx pl es (ini tx pl) sLet).map (e.c.length + ·) else none) = some (e.c.length + r)
        rw [if_pos ht, hr]; rfl) he
    · rw [gB e ht] at hr
      obtain ⟨q, h1, h2⟩ := fold_b (w := w1 B tx pl) (e := e) (v := e.c.length + r) (es := es) (p := ini tx pl) (by
        unfold w1
        rw [if_pos ⟨ht, hf⟩, hr]; rfl) he
      obtain ⟨q2, h3, h4⟩ := fold_c (w := fun e : Ed => if e.t = [] then (fold1 B tx pl es (ini tx pl) sLet).map (e.c.length + ·) else none) (es := es) (p := fold1 B tx pl es (ini tx pl)) h2
      exact ⟨q2, by omega, h4⟩
  · have h0 : ini tx pl s = some 0 := if_pos ⟨hp, hs⟩
    obtain ⟨q, h1, h2⟩ := fold_c (w := w1 B tx pl) (es := es) h0
    obtain ⟨q2, h3, h4⟩ := fold_c (w := fun e : Ed => if e.t = [] then (fold1 B tx pl es (ini tx pl) sLet).map (e.c.length + ·) else none) (es := es) (p := fold1 B tx pl es (ini tx pl)) h2
    rw [hG]
    unfold prF
    rw [e2]
    obtain rfl : q2 = 0 := by omega
    exact h4
end Cl
namespace Cl
open PySem PySem.Spec PyProof.Rows L2 PV
def dK (n k : Nat) : List D := (List.range k).map fun j => D.int ((n - j : Nat) : Int)
def dV (n : Nat) (G : Bh) (k : Nat) : List D := (List.range k).map fun j => prD (G (n - j))
theorem kix_f (n k q : Nat) : kix (dK n k) (.int (q : Int)) = (List.range k).findIdx? fun j => decide (n - j = q) := by
  unfold kix dK
  rw [List.findIdx?_map]
  congr 1
  funext j
  show eqD (.int ((n - j : Nat) : Int)) (.int (q : Int)) = _
  rw [eqD_i]
  exact decide_eq_decide.mpr ⟨fun h => by omega, fun h => by omega⟩
theorem kix_at {n k q : Nat} (hq : q ≤ n) (h : n - q < k) : kix (dK n k) (.int (q : Int)) = some (n - q) := by
  rw [kix_f]
  refine List.findIdx?_eq_some_iff_getElem.mpr ⟨by rw [List.length_range]; exact h, ?_, fun j hj => ?_⟩
  · rw [List.getElem_range]
    exact decide_eq_true (by omega)
  · rw [List.getElem_range]
    exact fun z => by have := of_decide_eq_true z; omega
theorem kix_no {n k : Nat} (h : k ≤ n) : kix (dK n k) (.int ((n - k : Nat) : Int)) = none := by
  rw [kix_f]
  refine List.findIdx?_eq_none_iff.mpr fun j hj => ?_
  have := List.mem_range.mp hj
  exact decide_eq_false (by omega)
theorem ok_dK (n k : Nat) (i : Int) : okKey (dK n k) (.int i) = true := by
  unfold okKey
  have : (dK n k).all flatD = true := by
    rw [List.all_eq_true]; intro d hd; obtain ⟨s, _, rfl⟩ := List.mem_map.mp hd; rfl
  rw [this]
  rfl
theorem ix_all {n k q : Nat} (G : Bh) (hq : q ≤ n) (h : n - q < k) : ixD (.dic (dK n k) (dV n G k)) (.int (q : Int)) = .ok (prD (G q)) := by
  show R.need (okKey (dK n k) (.int (q : Int)) = true) _ = _
  rw [need_p (ok_dK n k _)]
  unfold dget
  rw [kix_at hq h]
  have : (dV n G k)[n - q]? = some (prD (G q)) := by
    unfold dV
    rw [List.getElem?_map, List.getElem?_range h, Option.map_some]
    congr 3
    omega
  show (match (dV n G k)[n - q]? with | some d => R.ok d | none => R.bad) = _
  rw [this]
theorem set_all {n k : Nat} (G : Bh) (P : Pr) (h : k ≤ n) (hn : n ≤ 100000) : mutK MO.set (dK n k) (dV n G k) [prD P, .int ((n - k : Nat) : Int)] = .ok (.dic (dK n (k + 1)) (dV n (fun q => if q = n - k then P else G q) (k + 1))) := by
  rw [mutK_set _ _ _ _ (ok_dK _ _ _) (by unfold dK; rw [List.length_map, List.length_range]; omega)]
  unfold dputK dputV
  rw [kix_no h]
  have e1 : dK n k ++ [.int ((n - k : Nat) : Int)] = dK n (k + 1) := by unfold dK; rw [List.range_succ, List.map_append]; rfl
  have e2 : dV n G k ++ [prD P] = dV n (fun q => if q = n - k then P else G q) (k + 1) := by
    unfold dV
    rw [List.range_succ, List.map_append]
    have : (List.range k).map (fun j => prD (G (n - j))) = (List.range k).map (fun j => prD (if n - j = n - k then P else G (n - j))) := List.map_congr_left fun j hj => by
      have := List.mem_range.mp hj
      rw [if_neg (by omega)]
    rw [this]
    simp
  show R.ok (D.dic (dK n k ++ [.int ((n - k : Nat) : Int)]) (dV n G k ++ [prD P])) = _
  rw [e1, e2]
theorem sp_congr {es : List Ed} {tx : List Nat} {G G' : Bh} {q : Nat} (h : ∀ p, q ≤ p → G' p = G p) (k : SP es tx G q) : SP es tx G' q := by
  refine ⟨fun s x hx => ?_, fun e he hf r hr => ?_, fun hp s hs => ?_⟩
  · rw [h q (Nat.le_refl _)] at hx
    rcases k.of s x hx with z | ⟨e, he, h1, h2, r, h3, h4⟩
    · exact .inl z
    · exact .inr ⟨e, he, h1, h2, r, by rw [h _ (by omega)]; exact h3, h4⟩
  · rw [h _ (by omega)] at hr
    rw [h q (Nat.le_refl _)]
    exact k.by_ e he hf r hr
  · rw [h q (Nat.le_refl _)]
    exact k.fin hp s hs
theorem allp_turn (m : Nat) (es : List Ed) (hE : ∀ e ∈ es, EdOk e) (tx : List Nat) (hn : tx.length ≤ 100000) (k : Nat) (hk : k ≤ tx.length) (G : Bh) (x4 : Option D) : exB (L.w (m + 2)) B_f_all_prices_0 [some (.lst (es.map eDD)), some (.str tx), some (.dic (dK tx.length k) (dV tx.length G k)), some (.int (k : Int)), x4] = .nx [some (.lst (es.map eDD)), some (.str tx), some (.dic (dK tx.length (k + 1)) (dV tx.length (fun q => if q = tx.length - k then prF es G tx (tx.length - k) else G q) (k + 1))), some (.int (k : Int)), some (.int ((tx.length - k : Nat) : Int))] := by
  have h1 := prices_ok m es hE G (.dic (dK tx.length k) (dV tx.length G k)) tx (tx.length - k) (by omega) fun q h1 h2 => ix_all G h2 (by omega)
  have h2 := set_all (n := tx.length) (k := k) G (prF es G tx (tx.length - k)) hk hn
  have hs := sc1_pr (prF es G tx (tx.length - k))
  have ha : (tx.length : Int) - (k : Int) = ((tx.length - k : Nat) : Int) := by omega
  generalize prD (prF es G tx (tx.length - k)) = PF at *
  generalize es.map eDD = ED at *
  have s1 : exS (L.w (m + 2)) (.asg 4 0 (.bin .Sub (.bn .len (.cons (.sl 1) .nil)) (.sl 3))) [some (.lst ED), some (.str tx), some (.dic (dK tx.length k) (dV tx.length G k)), some (.int (k : Int)), x4] = .nx [some (.lst ED), some (.str tx), some (.dic (dK tx.length k) (dV tx.length G k)), some (.int (k : Int)), some (.int ((tx.length - k : Nat) : Int))] := by
    rw [ex_asg, ev_bin, ev_bn, ev_cons, ev_sl, slotS, slot0, R.ok_bind, ev_nil, R.ok_bind, R.ok_bind, len_s, R.ok_bind, ev_sl, slotS, slotS, slotS, slot0, R.ok_bind, binD_sub, subD_i, ha]
    rfl
  rw [B_f_all_prices_0, ex_cons, s1, thenX_nx, ex_cons, ex_mut]
  show thenX (mutX (some (some (.dic (dK tx.length k) (dV tx.length G k)))) _ _) _ = _
  rw [mutX_k, if_set, ev_cons, ev_callo]
  simp only [ev_cons, ev_nil, ev_sl, slotS, slot0, R.ok_bind, w_call, h1, need_p hs, outL_ok, h2, mutKO_ok, thenX_nx, ex_nil, List.set_cons_succ, List.set_cons_zero]
theorem allp_ok (m : Nat) (es : List Ed) (hE : ∀ e ∈ es, EdOk e) (tx : List Nat) (hn : tx.length ≤ 100000) : ∃ G : Bh, L.call (m + 3) 13 [.lst (es.map eDD), .str tx] = .ok (.dic (dK tx.length (tx.length + 1)) (dV tx.length G (tx.length + 1))) ∧ ∀ q, q ≤ tx.length → SP es tx G q := by
  rw [call_f_all_prices]
  show ∃ G : Bh, Got (.ok (.dic (dK tx.length (tx.length + 1)) (dV tx.length G (tx.length + 1)))) _ ∧ _
  obtain ⟨ρ', e, G, x3, x4, rfl, hG⟩ := forGo_inv (tg := .one 3) (body := exB (L.w (m + 2)) B_f_all_prices_0) (fun j ρ => ∃ (G : Bh) (x3 x4 : Option D), ρ = [some (.lst (es.map eDD)), some (.str tx), some (.dic (dK tx.length j) (dV tx.length G j)), x3, x4] ∧ ∀ q, tx.length < q + j → q ≤ tx.length → SP es tx G q) (rngD 0 (tx.length + 1)) 0 [some (.lst (es.map eDD)), some (.str tx), some (.dic [] []), none, none] ⟨fun _ _ => none, none, none, rfl, fun q h1 h2 => by omega⟩ (by
    rintro j d ρ hj ⟨G, x3, x4, rfl, hG⟩
    have hjl : j < (rngD 0 (tx.length + 1)).length := (List.getElem?_eq_some_iff.mp hj).1
    rw [rng_len] at hjl
    rw [rng_get (by omega)] at hj
    have hj := Option.some.inj hj
    subst hj
    have hk : j ≤ tx.length := by omega
    rw [Nat.zero_add] at hG
    rw [Nat.zero_add, Int.zero_add]
    refine ⟨[some (.lst (es.map eDD)), some (.str tx), some (.dic (dK tx.length j) (dV tx.length G j)), some (.int (j : Int)), x4], _, by simp [R.need], .inl (allp_turn m es hE tx hn j hk G x4), fun q => if q = tx.length - j then prF es G tx (tx.length - j) else G q, _, _, rfl, fun q h1 h2 => ?_⟩
    by_cases hq : q = tx.length - j
    · subst hq
      exact sp_ok hE (B := G) (if_pos rfl) fun p hp => if_neg (by omega)
    · exact sp_congr (fun p hp => if_neg (by omega)) (hG q (by omega) h2))
  rw [rng_len] at hG
  have e0 : (((tx.length : Int) + 1) - 0).toNat = tx.length + 1 := by omega
  rw [rng_len] at e
  rw [e0, Nat.zero_add] at hG e
  refine ⟨G, ?_, fun q hq => hG q (by omega) hq⟩
  have hr : evI (L.w (m + 2)) (.rng1 (.bin .Add (.bn .len (.cons (.sl 1) .nil)) (.cI 1))) [some (.lst (es.map eDD)), some (.str tx), some (.dic [] []), none, none] = .ok (rngD 0 ((tx.length : Int) + 1)) := by
    rw [ev_rng1, ev_bin, ev_bn, ev_cons, ev_sl, slotS, slot0, R.ok_bind, ev_nil, R.ok_bind, R.ok_bind, len_s, R.ok_bind, ev_cI, R.ok_bind, binD_add, addD_i, R.ok_bind, toI_i, rngR_ok (by omega)]
  rw [B_f_all_prices]
  refine stepP (ρ1 := [some (.lst (es.map eDD)), some (.str tx), some (.dic [] []), none, none]) (by simp) ?_
  refine stepP (by rw [ex_for, hr, outL_ok, e]) ?_
  exact endP (d := .dic (dK tx.length (tx.length + 1)) (dV tx.length G (tx.length + 1))) (by rw [ex_ret, ev_mv]; rfl) rfl
def goodE (G : Bh) (tx : List Nat) (pl : Nat) (s : List Nat) (x : Nat) (e : Ed) : Prop := e.a = s ∧ fitB e tx pl = true ∧ ∃ r, G (pl + e.t.length) e.b = some r ∧ x = e.c.length + r
theorem isn_oI (v : Option Nat) : cmpD .IsNot (oI v) .non = .ok (.bl (!v.isNone)) := by cases v <;> rfl
theorem ns_turn (m : Nat) (G : Bh) (ED FD : D) (tx : List Nat) (pl : Nat) (hp : pl ≤ tx.length) (s : List Nat) (hs : s ∈ ST) (x : Nat) (hx : G pl s = some x) (hF : ∀ q, q ≤ tx.length → ixD FD (.int (q : Int)) = .ok (prD (G q))) (e : Ed) (he : EdOk e) (x6 : Option D) :
    (goodE G tx pl s x e ∧ exB (L.w (m + 1)) B_f_next_step_0 [some ED, some (.str tx), some (.int (pl : Int)), some (.str s), some FD, some (eDD e), x6] = .rt (eDD e)) ∨
    (¬ goodE G tx pl s x e ∧ ∃ y6, exB (L.w (m + 1)) B_f_next_step_0 [some ED, some (.str tx), some (.int (pl : Int)), some (.str s), some FD, some (eDD e), x6] = .nx [some ED, some (.str tx), some (.int (pl : Int)), some (.str s), some FD, some (eDD e), y6]) := by
  have h0 := e40 e
  have h1 := e41 e
  have h2 := e42 e
  have h3 := e43 e
  have hf := fits_ok m e tx pl hp
  have hl := len_tI e.c
  rw [B_f_next_step_0, ex_cons, ex_ifs, ev_and, ev_cmp, ev_ix, ev_sl]
  simp only [slotS, slot0, R.ok_bind, ev_cI, h0, ev_sl, eq_s]
  by_cases ha : e.a = s
  case neg =>
    right
    refine ⟨fun z => ha z.1, x6, ?_⟩
    rw [decide_eq_false ha, thenB_f, out_ok, thenO_f, ex_nil, thenX_nx, ex_nil]
  case pos =>
  rw [decide_eq_true ha, thenB_t, ev_one, ev_call]
  simp only [ev_cons, ev_sl, slotS, slot0, R.ok_bind, ev_nil, w_call, hf, need_p (ff (.bl (fitB e tx pl))), asB_b, out_ok]
  cases hfit : fitB e tx pl with
  | false =>
    right
    refine ⟨fun z => (by have z1 := z.2.1; rw [hfit] at z1; exact Bool.false_ne_true z1), x6, ?_⟩
    rw [thenO_f, ex_nil, thenX_nx, ex_nil]
  | true =>
    have hle := fit_le hfit hp
    have hx1 := hF (pl + e.t.length) hle
    have hx2 := ix_pr (G (pl + e.t.length)) he.sb
    have hx3 := hF pl hp
    have hx4 := ix_pr (G pl) hs
    rw [hx] at hx4
    have hx4 : ixD (prD (G pl)) (.str s) = .ok (.int (x : Int)) := hx4
    have hadd : (pl : Int) + (e.t.length : Int) = ((pl + e.t.length : Nat) : Int) := by omega
    have s1 : exS (L.w (m + 1)) (.asg 6 0 (.ix (.ix (.sl 4) (.bin .Add (.sl 2) (.bn .len (.cons (.ix (.sl 5) (.cI 1)) .nil)))) (.ix (.sl 5) (.cI 3)))) [some ED, some (.str tx), some (.int (pl : Int)), some (.str s), some FD, some (eDD e), x6] = .nx [some ED, some (.str tx), some (.int (pl : Int)), some (.str s), some FD, some (eDD e), some (oI (G (pl + e.t.length) e.b))] := by
      generalize prD (G (pl + e.t.length)) = PB at *
      generalize oI (G (pl + e.t.length) e.b) = OI at *
      generalize eDD e = EE at *
      rw [ex_asg]
      simp only [ev_ix, ev_sl, slotS, slot0, R.ok_bind, ev_bin, ev_bn, ev_cons, ev_nil, ev_cI, h1, len_s, binD_add, addD_i, hadd, hx1, h3, hx2, out_ok]
      rfl
    rw [thenO_t, ex_cons, s1, thenX_nx, ex_cons, ex_ifs, ev_and, ev_cmp, ev_sl]
    simp only [slotS, slot0, R.ok_bind, ev_cN, isn_oI]
    cases q : G (pl + e.t.length) e.b with
    | none =>
      right
      refine ⟨fun z => (by obtain ⟨_, _, r, z, _⟩ := z; rw [q] at z; exact nomatch z), some (oI none), ?_⟩
      rw [show (!(none : Option Nat).isNone) = false from rfl, thenB_f, out_ok, thenO_f, ex_nil, thenX_nx, ex_nil, thenX_nx, ex_nil]
    | some r =>
      have hadd2 : (e.c.length : Int) + (r : Int) = ((e.c.length + r : Nat) : Int) := by omega
      have ho : oI (some r) = .int (r : Int) := rfl
      rw [show (!(some r : Option Nat).isNone) = true from rfl, thenB_t, ev_one, ho]
      generalize prD (G pl) = PB at *
      generalize hEE : eDD e = EE at *
      rw [ev_cmp, ev_bin, ev_bn, ev_cons, ev_ix, ev_sl]
      simp only [slotS, slot0, R.ok_bind, ev_cI, h2, ev_nil, hl, ev_sl, binD_add, addD_i, ev_ix, hx3, hx4, eq_i, asB_b, out_ok]
      by_cases hz : e.c.length + r = x
      · left
        refine ⟨⟨ha, hfit, r, q, hz.symm⟩, ?_⟩
        rw [decide_eq_true (by omega), thenO_t, ex_cons, ex_ret, ev_sl]
        rfl
      · right
        refine ⟨fun z => (by
          obtain ⟨_, _, r', z1, z2⟩ := z
          rw [q] at z1
          have := Option.some.inj z1
          omega), some (.int (r : Int)), ?_⟩
        rw [decide_eq_false (by omega), thenO_f, ex_nil, thenX_nx, ex_nil, thenX_nx, ex_nil]
theorem ns_go (m : Nat) (G : Bh) (ED FD : D) (tx : List Nat) (pl : Nat) (hp : pl ≤ tx.length) (s : List Nat) (hs : s ∈ ST) (x : Nat) (hx : G pl s = some x) (hF : ∀ q, q ≤ tx.length → ixD FD (.int (q : Int)) = .ok (prD (G q))) : ∀ (l : List Ed) (x5 x6 : Option D), (∀ e ∈ l, EdOk e) → (∃ e ∈ l, goodE G tx pl s x e) → ∃ e ∈ l, goodE G tx pl s x e ∧ forGo (.one 5) (exB (L.w (m + 1)) B_f_next_step_0) (l.map eDD) [some ED, some (.str tx), some (.int (pl : Int)), some (.str s), some FD, x5, x6] = .rt (eDD e)
  | [], _, _, _, ⟨_, h, _⟩ => nomatch h
  | e :: l, x5, x6, hE, hg => by
    have hgv : giveT (.one 5) (eDD e) [some ED, some (.str tx), some (.int (pl : Int)), some (.str s), some FD, x5, x6] = .ok [some ED, some (.str tx), some (.int (pl : Int)), some (.str s), some FD, some (eDD e), x6] := by simp [R.need]
    rcases ns_turn m G ED FD tx pl hp s hs x hx hF e (hE e List.mem_cons_self) x6 with ⟨g, h⟩ | ⟨g, y6, h⟩
    · refine ⟨e, List.mem_cons_self, g, ?_⟩
      rw [List.map_cons]
      unfold forGo
      rw [hgv]
      simp only [h]
    · obtain ⟨f, hf, gf⟩ := hg
      obtain ⟨f2, hf2, gf2, k⟩ := ns_go m G ED FD tx pl hp s hs x hx hF l (some (eDD e)) y6 (fun z hz => hE z (List.mem_cons_of_mem _ hz)) (by
        rcases List.mem_cons.mp hf with rfl | hf
        · exact absurd gf g
        · exact ⟨f, hf, gf⟩)
      exact ⟨f2, List.mem_cons_of_mem _ hf2, gf2, by rw [List.map_cons, for_st hgv h, k]⟩
theorem next_ok (m : Nat) (es : List Ed) (hE : ∀ e ∈ es, EdOk e) (G : Bh) (FD : D) (tx : List Nat) (pl : Nat) (hp : pl ≤ tx.length) (s : List Nat) (hs : s ∈ ST) (x : Nat) (hx : G pl s = some x) (hF : ∀ q, q ≤ tx.length → ixD FD (.int (q : Int)) = .ok (prD (G q))) (hg : ∃ e ∈ es, goodE G tx pl s x e) :
    ∃ e ∈ es, goodE G tx pl s x e ∧ L.call (m + 2) 14 [.lst (es.map eDD), .str tx, .int (pl : Int), .str s, FD] = .ok (eDD e) := by
  obtain ⟨e, he, g, k⟩ := ns_go m G (.lst (es.map eDD)) FD tx pl hp s hs x hx hF es none none hE hg
  refine ⟨e, he, g, ?_⟩
  rw [call_f_next_step, B_f_next_step, ex_cons, ex_for, ev_seq, ev_sl, slot0, R.ok_bind, seq_l, outL_ok, k]
  rfl
inductive Run (es : List Ed) (tx : List Nat) : List Ed → Nat → List Nat → Prop
  | nil : Run es tx [] 0 sOut
  | snoc {l : List Ed} {pl : Nat} {s : List Nat} {e : Ed} : Run es tx l pl s → e ∈ es → e.a = s → fitB e tx pl = true → Run es tx (l ++ [e]) (pl + e.t.length) e.b
theorem Run.mem {es : List Ed} {tx : List Nat} {l : List Ed} {pl : Nat} {s : List Nat} (h : Run es tx l pl s) : ∀ e ∈ l, e ∈ es := by
  induction h with
  | nil => intro e h; cases h
  | snoc _ he _ _ ih =>
    intro f hf
    rcases List.mem_append.mp hf with h | h
    · exact ih f h
    · rw [List.mem_singleton.mp h]; exact he
def meas (tx : List Nat) (pl : Nat) (s : List Nat) : Nat := 2 * (tx.length - pl) + (if s = sNum then 1 else 0)
theorem rows_len {es : List Ed} (hE : ∀ e ∈ es, EdOk e) : ∀ l : List Ed, (∀ e ∈ l, e ∈ es) → (l.flatMap Ed.c).length ≤ 10 * l.length
  | [], _ => Nat.le_refl _
  | e :: l, h => by
    have h1 := (hE e (h e List.mem_cons_self)).c9
    have h2 := rows_len hE l fun f hf => h f (List.mem_cons_of_mem _ hf)
    rw [List.flatMap_cons, List.length_append, List.length_cons]
    omega
abbrev WE (TD : D) (tx : List Nat) (es : List Ed) (FD : D) (l : List Ed) (pl : Nat) (s : List Nat) (x8 : Option D) : PV.Env := [some TD, some (.str tx), some (.lst (es.map eDD)), some FD, some (tupI (l.flatMap Ed.c)), some (.lst (l.map eDD)), some (.int (pl : Int)), some (.str s), x8]
theorem wr_turn (m : Nat) (TD FD : D) (es : List Ed) (hE : ∀ e ∈ es, EdOk e) (tx : List Nat) (l : List Ed) (pl : Nat) (s : List Nat) (e : Ed) (x8 : Option D) (he : e ∈ es) (hl : l.length ≤ 100000) (hm : ∀ e ∈ l, e ∈ es) (hn : L.call (m + 2) 14 [.lst (es.map eDD), .str tx, .int (pl : Int), .str s, FD] = .ok (eDD e)) : exB (L.w (m + 2)) B_f_written_0 (WE TD tx es FD l pl s x8) = .nx (WE TD tx es FD (l ++ [e]) (pl + e.t.length) e.b (some (eDD e))) := by
  have h1 := e41 e
  have h2 := e42 e
  have h3 := e43 e
  have hr := rows_len hE l hm
  have h9 := (hE e he).c9
  have hc : addD (tupI (l.flatMap Ed.c)) (tupI e.c) = .ok (tupI ((l ++ [e]).flatMap Ed.c)) := by
    show addD (.tup ((l.flatMap Ed.c).map D.int)) (.tup (e.c.map D.int)) = .ok (.tup (((l ++ [e]).flatMap Ed.c).map D.int))
    rw [addD_t _ _ (by rw [List.length_map, List.length_map]; omega)]
    simp
  have ha : mutD .app (l.map eDD) [eDD e] = .ok ((l ++ [e]).map eDD) := by
    rw [mut_app _ _ (by rw [List.length_map]; omega)]
    simp
  have hadd : (pl : Int) + (e.t.length : Int) = ((pl + e.t.length : Nat) : Int) := by omega
  unfold WE
  generalize tupI ((l ++ [e]).flatMap Ed.c) = C2 at *
  generalize tupI (l.flatMap Ed.c) = C1 at *
  generalize tupI e.c = C0 at *
  generalize (l ++ [e]).map eDD = L2 at *
  generalize l.map eDD = L1 at *
  generalize es.map eDD = ED at *
  generalize eDD e = EE at *
  rw [B_f_written_0]
  refine stepP (P := fun o => o = .nx _) (ρ1 := [some TD, some (.str tx), some (.lst ED), some FD, some C1, some (.lst L1), some (.int (pl : Int)), some (.str s), some EE]) (by
    rw [ex_asg, ev_call]
    simp only [ev_cons, ev_nil, ev_sl, slotS, slot0, R.ok_bind, w_call, hn, need_p (ff EE), out_ok]
    rfl) ?_
  refine stepP (P := fun o => o = .nx _) (ρ1 := [some TD, some (.str tx), some (.lst ED), some FD, some C1, some (.lst L2), some (.int (pl : Int)), some (.str s), some EE]) (by
    rw [ex_mut]
    simp only [List.getElem?_cons_succ, List.getElem?_cons_zero, mutX_l, ev_cons, ev_nil, ev_sl, slotS, slot0, R.ok_bind, outL_ok, ha, mutO_ok]
    rfl) ?_
  refine stepP (P := fun o => o = .nx _) (ρ1 := [some TD, some (.str tx), some (.lst ED), some FD, some C2, some (.lst L2), some (.int (pl : Int)), some (.str s), some EE]) (by
    rw [ex_asg]
    simp only [ev_bin, ev_ix, ev_sl, slotS, slot0, R.ok_bind, ev_cI, h2, binD_add, hc, out_ok]
    rfl) ?_
  refine stepP (P := fun o => o = .nx _) (ρ1 := [some TD, some (.str tx), some (.lst ED), some FD, some C2, some (.lst L2), some (.int ((pl + e.t.length : Nat) : Int)), some (.str s), some EE]) (by
    rw [ex_asg]
    simp only [ev_bin, ev_bn, ev_cons, ev_nil, ev_ix, ev_sl, slotS, slot0, R.ok_bind, ev_cI, h1, len_s, binD_add, addD_i, hadd, out_ok]
    rfl) ?_
  refine stepP (P := fun o => o = .nx _) (ρ1 := [some TD, some (.str tx), some (.lst ED), some FD, some C2, some (.lst L2), some (.int ((pl + e.t.length : Nat) : Int)), some (.str e.b), some EE]) (by
    rw [ex_asg]
    simp only [ev_ix, ev_sl, slotS, slot0, R.ok_bind, ev_cI, h3, out_ok]
    rfl) ?_
  rfl
theorem written_ok (m : Nat) (TD : D) (es : List Ed) (hE : ∀ e ∈ es, EdOk e) (tx : List Nat) (hn : tx.length ≤ 400) (hs : L.call (m + 3) 9 [TD, .str tx] = .ok .non) (he : L.call (m + 3) 6 [TD] = .ok (.lst (es.map eDD)))
    (hf : ∀ G : Bh, (∀ q, q ≤ tx.length → SP es tx G q) → ∃ x, G 0 sOut = some x) (ht : L.turns = 1000) : ∃ (l : List Ed) (s : List Nat), L.call (m + 4) 15 [TD, .str tx] = .ok (.tup [tupI (l.flatMap Ed.c), .lst (l.map eDD)]) ∧ Run es tx l tx.length s ∧ ends s = true ∧ l.length ≤ 2 * tx.length := by
  obtain ⟨G, ha, hG⟩ := allp_ok m es hE tx (by omega)
  obtain ⟨x0, hx0⟩ := hf G hG
  have hF : ∀ q, q ≤ tx.length → ixD (.dic (dK tx.length (tx.length + 1)) (dV tx.length G (tx.length + 1))) (.int (q : Int)) = .ok (prD (G q)) := fun q hq => ix_all G hq (by omega)
  rw [call_f_written]
  show ∃ (l : List Ed) (s : List Nat), Got (.ok (.tup [tupI (l.flatMap Ed.c), .lst (l.map eDD)])) _ ∧ _
  generalize D.dic (dK tx.length (tx.length + 1)) (dV tx.length G (tx.length + 1)) = FD at *
  have test : ∀ (l : List Ed) (pl : Nat) (s : List Nat) (x : Nat) (x8 : Option D), pl ≤ tx.length → s ∈ ST → G pl s = some x → evE (L.w (m + 3)) (.cmp .Gt (.ix (.ix (.sl 3) (.sl 6)) (.sl 7)) (.cI 0)) (WE TD tx es FD l pl s x8) = .ok (.bl (decide (0 < x))) := fun l pl s x x8 hp hs hx => by
    have h1 := hF pl hp
    have h2 := ix_pr (G pl) hs
    rw [hx] at h2
    have h2 : ixD (prD (G pl)) (.str s) = .ok (.int (x : Int)) := h2
    unfold WE
    generalize prD (G pl) = PB at *
    simp only [ev_cmp, ev_ix, ev_sl, slotS, slot0, R.ok_bind, h1, h2, ev_cI, gt_i]
    rw [show decide ((0 : Int) < (x : Int)) = decide (0 < x) from decide_eq_decide.mpr (by omega)]
  obtain ⟨ρ', e, ⟨l, pl, s, x8, rfl, hR, hp, hst, hl, ⟨x, hx⟩, _⟩, hfin⟩ := whlGo_ok (test := evE (L.w (m + 3)) (.cmp .Gt (.ix (.ix (.sl 3) (.sl 6)) (.sl 7)) (.cI 0))) (body := exB (L.w (m + 3)) B_f_written_0)
    (fun k ρ => ∃ l pl s x8, ρ = WE TD tx es FD l pl s x8 ∧ Run es tx l pl s ∧ pl ≤ tx.length ∧ s ∈ ST ∧ l.length + meas tx pl s ≤ 2 * tx.length ∧ (∃ x, G pl s = some x) ∧ (meas tx pl s ≤ k ∨ G pl s = some 0))
    1000 (2 * tx.length) (WE TD tx es FD [] 0 sOut none) (by omega) ⟨[], 0, sOut, none, rfl, .nil, by omega, by simp, by
      show 0 + meas tx 0 sOut ≤ _
      unfold meas
      rw [if_neg (by decide)]
      omega, ⟨x0, hx0⟩, .inl (by
      unfold meas
      rw [if_neg (by decide)]
      omega)⟩ (by
    rintro k ρ ⟨l, pl, s, x8, rfl, hR, hp, hst, hl, ⟨x, hx⟩, hk⟩
    have ht := test l pl s x x8 hp hst hx
    by_cases h0 : x = 0
    · subst h0
      exact .inl ⟨by rw [ht]; rfl, l, pl, s, x8, rfl, hR, hp, hst, hl, ⟨0, hx⟩, .inr hx⟩
    · right
      refine ⟨by rw [ht, decide_eq_true (by omega)], ?_⟩
      have hg : ∃ e ∈ es, goodE G tx pl s x e := by
        rcases (hG pl hp).of s x hx with z | z
        · exact absurd z.1 h0
        · obtain ⟨e, he, h1, h2, h3⟩ := z
          exact ⟨e, he, h1, h2, h3⟩
      obtain ⟨e, he, ⟨g1, g2, r, g3, g4⟩, hc⟩ := next_ok (m + 1) es hE G FD tx pl hp s hst x hx hF hg
      have hle := fit_le g2 hp
      have hlt : meas tx (pl + e.t.length) e.b < meas tx pl s := by
        unfold meas
        by_cases ht : e.t = []
        · have := (hE e he).em ht
          rw [ht, ← g1, this.1, this.2, if_neg let_num, if_pos rfl]
          simp
        · have := List.length_pos_iff.mpr ht
          split <;> split <;> omega
      refine ⟨_, meas tx (pl + e.t.length) e.b, .inl (wr_turn (m + 1) TD FD es hE tx l pl s e x8 he (by omega) hR.mem hc), ?_, l ++ [e], _, _, _, rfl, hR.snoc he g1 g2, hle, (hE e he).sb, by rw [List.length_append, List.length_singleton]; omega, ⟨r, g3⟩, .inl (Nat.le_refl _)⟩
      rcases hk with hk | hk
      · omega
      · rw [hx] at hk
        exact absurd (Option.some.inj hk) h0)
  rw [test l pl s x x8 hp hst hx] at hfin
  have hx0 : x = 0 := by
    by_cases h : 0 < x
    · rw [decide_eq_true h] at hfin; cases hfin
    · omega
  subst hx0
  have hend : pl = tx.length ∧ ends s = true := by
    rcases (hG pl hp).of s 0 hx with z | ⟨e, he, _, _, r, _, z⟩
    · exact z.2
    · have := (hE e he).c1
      omega
  obtain ⟨rfl, hes⟩ := hend
  refine ⟨l, s, ?_, hR, hes, by omega⟩
  have htn : (L.w (m + 3)).turns = 1000 := ht
  rw [B_f_written]
  refine stepP (ρ1 := [some TD, some (.str tx), none, none, none, none, none, none, none]) (by simp [hs, R.need]) ?_
  refine stepP (ρ1 := [some TD, some (.str tx), some (.lst (es.map eDD)), none, none, none, none, none, none]) (by rw [ex_asg, ev_call, ev_cons, ev_sl, slot0, R.ok_bind, ev_nil, R.ok_bind, R.ok_bind, w_call, he, R.ok_bind, need_p (ff _), out_ok]; rfl) ?_
  refine stepP (ρ1 := [some TD, some (.str tx), some (.lst (es.map eDD)), some FD, none, none, none, none, none]) (by rw [ex_asg, ev_call, ev_cons, ev_sl, slotS, slotS, slot0, R.ok_bind, ev_cons, ev_sl, slotS, slot0, R.ok_bind, ev_nil, R.ok_bind, R.ok_bind, R.ok_bind, w_call, ha, R.ok_bind, need_p (ff _), out_ok]; rfl) ?_
  refine stepP (ρ1 := [some TD, some (.str tx), some (.lst (es.map eDD)), some FD, some (.tup []), none, none, none, none]) (by simp) ?_
  refine stepP (ρ1 := [some TD, some (.str tx), some (.lst (es.map eDD)), some FD, some (.tup []), some (.lst []), none, none, none]) (by simp) ?_
  refine stepP (ρ1 := [some TD, some (.str tx), some (.lst (es.map eDD)), some FD, some (.tup []), some (.lst []), some (.int 0), none, none]) (by simp) ?_
  refine stepP (ρ1 := [some TD, some (.str tx), some (.lst (es.map eDD)), some FD, some (.tup []), some (.lst []), some (.int 0), some (.str sOut), none]) (by simp) ?_
  have hw : WE TD tx es FD [] 0 sOut none = [some TD, some (.str tx), some (.lst (es.map eDD)), some FD, some (.tup []), some (.lst []), some (.int 0), some (.str sOut), none] := rfl
  rw [hw] at e
  refine stepP (by rw [ex_whl, htn, e]) ?_
  refine stepP (by rw [ex_fz]) ?_
  exact endP (d := .tup [tupI (l.flatMap Ed.c), .lst (l.map eDD)]) (by
    unfold WE
    generalize tupI (l.flatMap Ed.c) = C at *
    simp) rfl
end Cl
namespace Cl
open PySem PySem.Spec PyProof.Rows L2 PV
def rstr : R D → Option (List Nat)
  | .ok (.str s) => some s
  | _ => none
theorem rstr_ok {r : R D} {l : List Nat} (h : rstr r = some l) : r = .ok (.str l) := by
  cases r with
  | ok d => cases d <;> first | (cases h; done) | (cases h; rfl)
  | exc _ => cases h
  | bad => cases h
theorem t30 (a b c : D) : ixD (.tup [a, b, c]) (.int 0) = .ok a := rfl
theorem t31 (a b c : D) : ixD (.tup [a, b, c]) (.int 1) = .ok b := rfl
theorem t40 (a b c d : D) : ixD (.tup [a, b, c, d]) (.int 0) = .ok a := rfl
theorem edges_alk (T : Tab) (h : ET T) : Alk (progL T) := tup_alk (edges_tup (isE_prog T h)) (edges_lik (isE_prog T h))
theorem alk_chr (l : List Nat) : Alk (l.map chr1) := set_alk (chars_flat l).1 (chars_flat l).2
theorem chr_mem {c : Nat} {l : List Nat} : chr1 c ∈ l.map chr1 ↔ c ∈ l := by
  constructor
  · intro h
    obtain ⟨d, hd, e⟩ := List.mem_map.mp h
    have : [d] = [c] := by injection e
    injection this with this
    rw [← this]; exact hd
  · exact fun h => List.mem_map_of_mem h
/-- what is made of texts of one sign is of texts of one sign -/
theorem chr_of {l : List D} {s : List Nat} (h : ∀ d ∈ l, d ∈ s.map chr1) : ∃ t : List Nat, l = t.map chr1 ∧ ∀ c ∈ t, c ∈ s := by
  obtain ⟨t, e, p⟩ := all_chr (Q := fun c => c ∈ s) l fun x hx => by
    obtain ⟨c, hc, e⟩ := List.mem_map.mp (h x hx)
    exact ⟨c, e.symm, hc⟩
  exact ⟨t, e, p⟩
theorem flen : ∀ {fs : List Fm} {lets : List Nat} {few : Int}, (∀ f ∈ fs, FB lets few f) → (fs.map Fm.t).flatten.length ≤ 6 * fs.length
  | [], _, _, _ => Nat.le_refl _
  | f :: fs, lets, few, h => by
    have h1 := (h f List.mem_cons_self).len
    have h2 := flen (fs := fs) fun g hg => h g (List.mem_cons_of_mem _ hg)
    simp only [List.map_cons, List.flatten_cons, List.length_append, List.length_cons]
    omega
theorem joinE : ∀ ss : List (List Nat), joinS [] ss = ss.flatten
  | [] => rfl
  | [s] => by simp [joinS]
  | s :: t :: r => by
    have h := joinE (t :: r)
    unfold joinS
    rw [h]
    rfl
theorem sum_len (ss : List (List Nat)) : (ss.map List.length).sum = ss.flatten.length := List.length_flatten.symm
/-- the letters, in order -/
theorem letters_all {lets : List Nat} {few : Int} {fs : List Fm} (lo : LetOk lets) (h : FsB lets few fs) (hl : fs.length ≤ 11) : ∃ ls : List Nat, ssetL ((fs.map Fm.t).flatten.map chr1) = ls.map chr1 ∧ ls.length ≤ 66 ∧ ∀ c ∈ ls, 97 ≤ c ∧ c < 123 := by
  obtain ⟨ls, e, p⟩ := chr_of (l := ssetL ((fs.map Fm.t).flatten.map chr1)) (s := (fs.map Fm.t).flatten) fun d hd => (sset_mem (alk_chr _) d).mp hd
  refine ⟨ls, e, ?_, fun c hc => ?_⟩
  · have h1 := sset_len ((fs.map Fm.t).flatten.map chr1)
    rw [e, List.length_map, List.length_map] at h1
    have h2 := flen h.ok
    omega
  · obtain ⟨t, ht, hct⟩ := List.mem_flatten.mp (p c hc)
    obtain ⟨f, hf, rfl⟩ := List.mem_map.mp ht
    exact lo.az c ((h.ok f hf).own c hct)
theorem first_runS (w : Wld) (fs : List Fm) (k : Nat) (ρ : PV.Env) (own : List Nat) (hw : ∀ f : Fm, (giveT (.one k) (fmD f) (wipeD ρ own)) = .ok ((wipeD ρ own).set k (some (fmD f)))) (hk : ∀ x : D, slotD ((wipeD ρ own).set k (some x)) k = .ok x) (hl : fs.length ≤ 11) :
    lcGo (lcT w own (.one k) .nil (.ix (.sl k) (.cI 0)) ρ) (fs.map fmD) [] = .ok ((fs.map Fm.t).map D.str) := by
  have h := lc_of (turn := lcT w own (.one k) .nil (.ix (.sl k) (.cI 0)) ρ) fmD (fun f => D.str f.t) (l := fs) (acc := []) (fun f _ => by
    simp only [lcT, hw, ev_nil, ev_ix, ev_sl, hk, ev_cI, R.ok_bind]
    rfl) (by show 0 + _ ≤ _; omega)
  rw [h, List.nil_append, List.map_map]
  rfl
theorem flat_join (fs : List Fm) (h : (fs.map Fm.t).flatten.length ≤ 1000) : mtD .join (.str []) [.lst ((fs.map Fm.t).map D.str)] = .ok (.str (fs.map Fm.t).flatten) := by
  rw [mt_join, joinE]
  rw [sum_len]
  simp only [List.length_nil, Nat.mul_zero]
  omega
theorem sset_s (s : List Nat) (h : s.length < 4096) : ssetD (.str s) = .ok (.lst (ssetL (s.map chr1))) := need_p h
theorem letters_okS (n : Nat) {lets : List Nat} {few : Int} {fs : List Fm} (h : FsB lets few fs) (hl : fs.length ≤ 11) : L.call (n + 1) 7 [.tup (fs.map fmD)] = .ok (.lst (ssetL ((fs.map Fm.t).flatten.map chr1))) := by
  rw [call_f_letters_of]
  have hf := flen h.ok
  have h1 := first_runS (L.w n) fs 1 [some (.tup (fs.map fmD)), none] [1] (fun f => by simp [wipeD, R.need]) (fun x => by simp [wipeD]) hl
  have h2 := flat_join fs (by omega)
  have h3 := sset_s (fs.map Fm.t).flatten (by omega)
  generalize (fs.map Fm.t).map D.str = A at *
  generalize fs.map fmD = B at *
  simp [B_f_letters_of, h1, h2, h3, Mt.rcv]
theorem up_all : ∀ k : Fin 26, rstr (mtD .upper (.str [97 + k.val]) []) = some [65 + k.val] := by decide +kernel
theorem up_i (c : Nat) (h : 97 ≤ c ∧ c < 123) : mtD .upper (chr1 c) [] = .ok (chr1 (c - 32)) := by
  have e := rstr_ok (up_all ⟨c - 97, by omega⟩)
  simp only at e
  rw [show 97 + (c - 97) = c by omega, show 65 + (c - 97) = c - 32 by omega] at e
  exact e
theorem rngN (m : Nat) : rngD 0 (m : Int) = (List.range m).map fun (k : Nat) => D.int (k : Int) := by
  unfold rngD
  simp
abbrev digs (m : Nat) : List Nat := (List.range m).map fun k => 48 + k
def sgA (ls : List Nat) (m : Nat) (great : Bool) : List Nat := 32 :: ls ++ digs m ++ (if great then ls.map (· - 32) else [])
theorem digs_run (w : Wld) (m : Nat) (hm : m ≤ 10) (k : Nat) (own : List Nat) (ρ : PV.Env) (hw : ∀ i : Nat, (giveT (.one k) (.int (i : Int)) (wipeD ρ own)) = .ok ((wipeD ρ own).set k (some (.int (i : Int))))) (hk : ∀ x : D, slotD ((wipeD ρ own).set k (some x)) k = .ok x) :
    lcGo (lcT w own (.one k) .nil (.bn .str (.cons (.sl k) .nil)) ρ) (rngD 0 (m : Int)) [] = .ok ((digs m).map chr1) := by
  rw [rngN, lc_run w own k _ ρ (fun i : Nat => D.int (i : Int)) (fun i => chr1 (48 + i)) (List.range m) (by simp; omega) (fun a _ => hw a) (fun a ha => by
    have ha := List.mem_range.mp ha
    rw [ev_bn, ev_cons, ev_sl, hk, R.ok_bind, ev_nil, R.ok_bind, R.ok_bind]
    exact str_i a (by omega)), List.map_map]
  rfl
theorem ups_run (w : Wld) (ls : List Nat) (hl : ls.length ≤ 66) (az : ∀ c ∈ ls, 97 ≤ c ∧ c < 123) (k : Nat) (own : List Nat) (ρ : PV.Env) (hw : ∀ i : Nat, (giveT (.one k) (chr1 i) (wipeD ρ own)) = .ok ((wipeD ρ own).set k (some (chr1 i)))) (hk : ∀ x : D, slotD ((wipeD ρ own).set k (some x)) k = .ok x) :
    lcGo (lcT w own (.one k) .nil (.mt .upper (.sl k) .nil) ρ) (ls.map chr1) [] = .ok ((ls.map (· - 32)).map chr1) := by
  have h := lc_of (turn := lcT w own (.one k) .nil (.mt .upper (.sl k) .nil) ρ) chr1 (fun i => chr1 (i - 32)) (l := ls) (acc := []) (fun i hi => by
    simp only [lcT, hw, ev_nil, ev_mt, ev_sl, hk, R.ok_bind, Mt.rcv, need_t, up_i i (az i hi)]) (by simp; omega)
  rw [h, List.nil_append, List.map_map]
  rfl
theorem sorted_chr (l : List Nat) : bnD .sorted [.lst (l.map chr1)] = .ok (.lst (srtL (l.map chr1))) := by
  obtain ⟨h1, h2⟩ := chars_flat l
  exact need_p (by unfold srtB; rw [h1, h2]; rfl)
/-- the signs -/
theorem sg_of (l : List Nat) : ∃ sg : List Nat, srtL (l.map chr1) = sg.map chr1 ∧ sg.Perm l := by
  obtain ⟨sg, e, _⟩ := chr_of (l := srtL (l.map chr1)) (s := l) fun d hd => (srt_perm _).mem_iff.mp hd
  have p := srt_perm (l.map chr1)
  rw [e] at p
  refine ⟨sg, e, ?_⟩
  have f : ∀ l : List Nat, (l.map chr1).map (fun d => match d with | .str [c] => c | _ => 0) = l := fun l => by
    rw [List.map_map]
    exact (List.map_congr_left fun c _ => rfl).trans (List.map_id l)
  have q := p.map (fun d => match d with | .str [c] => c | _ => 0)
  rw [f, f] at q
  exact q
theorem con_GREAT : L.conD 2 = .int 0 := rfl
theorem addL (a b : List Nat) (h : a.length + b.length ≤ 1000) : addD (.lst (a.map chr1)) (.lst (b.map chr1)) = .ok (.lst ((a ++ b).map chr1)) := by
  rw [addD_l _ _ (by simp; omega), List.map_append]
abbrev greatB (T : Tab) : Bool := decide (0 < T.m0.length)
theorem sgA_len (ls : List Nat) (m : Nat) (g : Bool) (h : ls.length ≤ 66) (hm : m ≤ 10) : (sgA ls m g).length ≤ 143 := by
  unfold sgA
  cases g <;> simp <;> omega
theorem rng_fgS (w : Wld) (F M : D) (fg : List Int) (hg : fg.length ≤ 10) (a b c d : Option D) : evI w (.rng1 (.bn .len (.cons (.ix (.sl 0) (.cI 2)) .nil))) [some (.tup [F, M, tupI fg]), a, b, c, d] = .ok (rngD 0 (fg.length : Int)) := by
  have hm : evE w (.bn .len (.cons (.ix (.sl 0) (.cI 2)) .nil)) [some (.tup [F, M, tupI fg]), a, b, c, d] = .ok (.int (fg.length : Int)) := by simp [t32]
  rw [ev_rng1, hm, R.ok_bind, toI_i, rngR_ok (by omega)]
theorem signs_ok (n : Nat) {lets : List Nat} {T : Tab} (h : TB lets T) (ls : List Nat) (hls : ssetL ((T.fs.map Fm.t).flatten.map chr1) = ls.map chr1) (ll : ls.length ≤ 66) (az : ∀ c ∈ ls, 97 ≤ c ∧ c < 123) (sg : List Nat) (hsg : srtL ((sgA ls T.fg.length (greatB T)).map chr1) = sg.map chr1) (hsl : sg.length ≤ 143) :
    L.call (n + 2) 8 [tabD T] = .ok (.str sg) := by
  rw [call_f_signs_of]
  show Got (.ok (.str sg)) _
  have hm := h.mo.lf
  have e1 := letters_okS n h.fo h.fl
  rw [hls] at e1
  have hM : ∀ ρ : PV.Env, ρ[0]? = some (some (tabD T)) → True := fun _ _ => trivial
  unfold tabD fsD mkD
  rw [B_f_signs_of]
  have e1 : (L.w (n + 1)).call 7 [.tup (T.fs.map fmD)] = .ok (.lst (ls.map chr1)) := (w_call L (n + 1) 7 _).trans e1
  generalize T.fs.map fmD = F at *
  refine stepP (ρ1 := [some (.tup [.tup F, .tup [tupI T.m0, tupI T.m1, tupI T.m2, tupI T.m3], tupI T.fg]), some (.lst (ls.map chr1)), none, none, none]) (by simp only [ex_asg, ev_call, ev_cons, ev_nil, ev_ix, ev_sl, slot0, ev_cI, R.ok_bind, t30, e1, need_p (ff (.lst (ls.map chr1))), out_ok]; rfl) ?_
  have hd := digs_run (L.w (n + 1)) T.fg.length hm 3 [3] [some (.tup [.tup F, .tup [tupI T.m0, tupI T.m1, tupI T.m2, tupI T.m3], tupI T.fg]), some (.lst (ls.map chr1)), none, none, none] (fun i => by simp [wipeD, R.need]) (fun x => by simp [wipeD])
  have a1 := addL [32] ls (by simp; omega)
  have a2 := addL (32 :: ls) (digs T.fg.length) (by simp; omega)
  refine stepP (ρ1 := [some (.tup [.tup F, .tup [tupI T.m0, tupI T.m1, tupI T.m2, tupI T.m3], tupI T.fg]), some (.lst (ls.map chr1)), some (.lst ((32 :: ls ++ digs T.fg.length).map chr1)), none, none]) (by
    rw [ex_asg, ev_bin, ev_bin, ev_lst, ev_cons, ev_cS, R.ok_bind, ev_nil, R.ok_bind, R.ok_bind, lstR_1, R.ok_bind, ev_sl, slotS, slot0, R.ok_bind, binD_add]
    rw [show addD (.lst [.str [32]]) (.lst (ls.map chr1)) = .ok (.lst ((32 :: ls).map chr1)) from a1, R.ok_bind, ev_lcc, rng_fgS _ _ _ _ hm, R.ok_bind, hd, R.ok_bind, R.ok_bind, a2]
    rfl) ?_
  by_cases hg : 0 < T.m0.length
  · have hu := ups_run (L.w (n + 1)) ls ll az 4 [4] [some (.tup [.tup F, .tup [tupI T.m0, tupI T.m1, tupI T.m2, tupI T.m3], tupI T.fg]), some (.lst (ls.map chr1)), some (.lst ((32 :: ls ++ digs T.fg.length).map chr1)), none, none] (fun i => by simp [wipeD, R.need]) (fun x => by simp [wipeD])
    have a3 := addL (32 :: ls ++ digs T.fg.length) (ls.map (· - 32)) (by simp; omega)
    have es : 32 :: ls ++ digs T.fg.length ++ ls.map (· - 32) = sgA ls T.fg.length (greatB T) := by unfold sgA greatB; rw [if_pos (by simpa using hg)]
    rw [es] at a3
    refine stepP (ρ1 := [some (.tup [.tup F, .tup [tupI T.m0, tupI T.m1, tupI T.m2, tupI T.m3], tupI T.fg]), some (.lst (ls.map chr1)), some (.lst ((sgA ls T.fg.length (greatB T)).map chr1)), none, none]) (by
      have ht : evE (L.w (n + 1)) (.cmp .Gt (.bn .len (.cons (.ix (.ix (.sl 0) (.cI 1)) (.gl 2)) .nil)) (.cI 0)) [some (.tup [.tup F, .tup [tupI T.m0, tupI T.m1, tupI T.m2, tupI T.m3], tupI T.fg]), some (.lst (ls.map chr1)), some (.lst ((32 :: ls ++ digs T.fg.length).map chr1)), none, none] = .ok (.bl true) := by simp [t31, t40, con_GREAT, hg]
      rw [ex_ifs, ht, out_ok, thenO_t, ex_cons, ex_asg, ev_bin, ev_sl, slotS, slotS, slot0, R.ok_bind, ev_lcc, ev_seq, ev_sl, slotS, slot0, R.ok_bind, seq_l, R.ok_bind, hu, R.ok_bind, R.ok_bind, binD_add, a3]
      rfl) ?_
    refine endP (d := .str sg) (by
      have hj := mt_join1 sg (by omega)
      rw [ex_ret, ev_mt, ev_cS, R.ok_bind, need_p (show Mt.rcv .join (.str []) = true from rfl), ev_cons, ev_bn, ev_cons, ev_sl, slotS, slotS, slot0, R.ok_bind, ev_nil, R.ok_bind, R.ok_bind, sorted_chr, hsg, R.ok_bind, R.ok_bind, R.ok_bind, hj]
      rfl) rfl
  · have es : 32 :: ls ++ digs T.fg.length = sgA ls T.fg.length (greatB T) := by unfold sgA greatB; rw [if_neg (by simpa using hg)]; simp
    refine stepP (ρ1 := [some (.tup [.tup F, .tup [tupI T.m0, tupI T.m1, tupI T.m2, tupI T.m3], tupI T.fg]), some (.lst (ls.map chr1)), some (.lst ((sgA ls T.fg.length (greatB T)).map chr1)), none, none]) (by
      rw [← es]
      have ht : evE (L.w (n + 1)) (.cmp .Gt (.bn .len (.cons (.ix (.ix (.sl 0) (.cI 1)) (.gl 2)) .nil)) (.cI 0)) [some (.tup [.tup F, .tup [tupI T.m0, tupI T.m1, tupI T.m2, tupI T.m3], tupI T.fg]), some (.lst (ls.map chr1)), some (.lst ((32 :: ls ++ digs T.fg.length).map chr1)), none, none] = .ok (.bl false) := by simp [t31, t40, con_GREAT, hg]
      rw [ex_ifs, ht]
      rfl) ?_
    refine endP (d := .str sg) (by
      have hj := mt_join1 sg (by omega)
      rw [ex_ret, ev_mt, ev_cS, R.ok_bind, need_p (show Mt.rcv .join (.str []) = true from rfl), ev_cons, ev_bn, ev_cons, ev_sl, slotS, slotS, slot0, R.ok_bind, ev_nil, R.ok_bind, R.ok_bind, sorted_chr, hsg, R.ok_bind, R.ok_bind, R.ok_bind, hj]
      rfl) rfl
theorem any_eq_in (c : Nat) : ∀ s : List Nat, ((s.map chr1).any fun y => eqD y (chr1 c)) = decide (c ∈ s)
  | [] => rfl
  | d :: s => by
    rw [List.map_cons, List.any_cons, any_eq_in c s, eqD_s]
    by_cases h : c = d
    · subst h; simp
    · have h2 : ¬ d = c := fun z => h z.symm
      by_cases h3 : c ∈ s <;> simp [h, h2, h3]
theorem in_l (c : Nat) (s : List Nat) : cmpD .In (chr1 c) (.lst (s.map chr1)) = .ok (.bl (decide (c ∈ s))) := by
  show R.need _ (.ok (D.bl ((s.map chr1).any fun y => eqD y (chr1 c)))) = _
  rw [any_eq_in]
  exact need_p ⟨Nat.zero_le _, rfl, nds_of fun d hd => by obtain ⟨x, _, rfl⟩ := List.mem_map.mp hd; rfl⟩
theorem great_leng : ∀ t : List Nat, (great t).length = t.length
  | [] => rfl
  | _ :: _ => rfl
theorem great_lenn {t : List Nat} (h : t ≠ []) : great t ≠ [] := fun z => by
  have := great_leng t
  rw [z] at this
  exact h (List.length_eq_zero_iff.mp this.symm)
theorem ef_ofB {lets : List Nat} {few : Int} {f : Fm} (lo : LetOk lets) (h : FB lets few f) : EF f := by
  obtain ⟨m, _, m2, e⟩ := h.pl
  exact ⟨h.ne, h.len, fun c hc => by have := lo.az c (h.own c hc); omega, h.c4, m, m2, e⟩
theorem et_ofB {lets : List Nat} {T : Tab} (h : TB lets T) : ET T := ⟨fun f hf => ef_ofB h.lo (h.fo.ok f hf), by have := h.fl; omega, h.mo.l0, h.mo.l1, h.mo.l2, h.mo.l3, h.mo.lf⟩
theorem outs_mem {T : Tab} {s st : List Nat} (h : st ∈ outs T s) : st = s ∨ (s = sOut ∧ st = sLet ∧ T.fg ≠ []) := by
  unfold outs at h
  split at h
  · rename_i hz
    simp only [List.mem_cons, List.not_mem_nil, or_false] at h
    rcases h with h | h
    · exact .inl (h.trans hz.1.symm)
    · exact .inr ⟨hz.1, h, hz.2⟩
  · exact .inl (List.mem_singleton.mp h)
theorem mkE {a t : List Nat} {c : List Int} {b : List Nat} (h : EdOk ⟨a, t, c, b⟩) : ∃ e, eD a t c b = eDD e ∧ EdOk e := ⟨⟨a, t, c, b⟩, rfl, h⟩
theorem road_st {r : Rd3} (h : r ∈ roads) : (r.2.1 = sOut ∨ r.2.1 = sIn) ∧ (r.2.2 = sDone ∨ r.2.2 = sIn) := by
  simp only [roads, List.mem_cons, List.not_mem_nil, or_false] at h
  rcases h with rfl | rfl | rfl | rfl <;> simp
theorem ok_prog {lets : List Nat} {T : Tab} (h : TB lets T) : ∀ d ∈ progL T, ∃ e, d = eDD e ∧ EdOk e := fun d hd => by
  have mo := h.mo
  have cel1 : ∀ {c : List Int}, Cel 63 c → ∀ x ∈ c, 1 ≤ x := fun hc x hx => (hc x hx).1
  have two : ∀ {a b : List Int}, Cel 63 a → Cel 63 b → ∀ x ∈ a ++ b, 1 ≤ x := fun ha hb x hx => by
    rcases List.mem_append.mp hx with hx | hx
    · exact (ha x hx).1
    · exact (hb x hx).1
  unfold progL otherL at hd
  rcases List.mem_append.mp hd with hd | hd
  · rcases List.mem_append.mp hd with hd | hd
    · rcases List.mem_append.mp hd with hd | hd
      · unfold blanks at hd
        simp only [List.mem_cons, List.not_mem_nil, or_false] at hd
        rcases hd with rfl | rfl | rfl
        · exact mkE ⟨by simp, by simp, by simp, by simp, by simp, by simp, fun z => absurd z (show ¬ (hin sOut ∨ hin sOut) by unfold hin; decide)⟩
        · exact mkE ⟨by simp, by simp, by simp, by simp, by simp, by simp, fun z => absurd z (show ¬ (hin sDone ∨ hin sOut) by unfold hin; decide)⟩
        · exact mkE ⟨by simp, by simp, by simp, by simp, by simp, by simp, fun z => absurd z (show ¬ (hin sNum ∨ hin sOut) by unfold hin; decide)⟩
      · have key : ∀ (r : List Int) (k : Nat), ∀ d ∈ figsL T k r, ∃ e, d = eDD e ∧ EdOk e := by
          intro r
          induction r with
          | nil => intro k d hd; cases hd
          | cons c r ih =>
            intro k d hd
            unfold figsL at hd
            rcases List.mem_append.mp hd with hd | hd
            · unfold figE at hd
              have l2 := mo.l2
              simp only [List.mem_cons, List.not_mem_nil, or_false] at hd
              rcases hd with rfl | rfl | rfl
              · exact mkE ⟨by simp, by simp, by simp, by simp; omega, by simp, by simp, fun z => absurd z (show ¬ (hin sOut ∨ hin sNum) by unfold hin; decide)⟩
              · exact mkE ⟨by simp, by simp, by simp, by simp; omega, by simp, by simp, fun z => absurd z (show ¬ (hin sDone ∨ hin sNum) by unfold hin; decide)⟩
              · exact mkE ⟨by simp, by simp, by simp, by simp, by simp, by simp, fun z => absurd z (show ¬ (hin sNum ∨ hin sNum) by unfold hin; decide)⟩
            · exact ih (k + 1) d hd
        exact key _ _ d hd
    · unfold tailL at hd
      split at hd
      · cases hd
      · rename_i hfg
        rw [List.mem_singleton.mp hd]
        have m3 : T.m3 ≠ [] := fun z => hfg (mo.num.2.mp z)
        have := List.length_pos_iff.mpr m3
        have := mo.l3
        exact mkE ⟨by simp, by simp, by show 1 ≤ T.m3.length; omega, by show T.m3.length ≤ 10; omega, by simp, fun _ => ⟨rfl, rfl⟩, fun z => absurd z (show ¬ (hin sNum ∨ hin sLet) by unfold hin; decide)⟩
  · obtain ⟨f, hf, hd⟩ := List.mem_flatMap.mp hd
    have fb := h.fo.ok f hf
    have f4 := fb.c4
    have f1 := fb.c1
    have fl := fb.len
    rcases List.mem_append.mp hd with hd | hd
    · obtain ⟨r, hr, hd⟩ := List.mem_flatMap.mp hd
      obtain ⟨st, hst, hd⟩ := List.mem_flatMap.mp hd
      have hr := road_st (List.mem_filter.mp hr).1
      have sa : st ∈ ST := by
        rcases outs_mem hst with e | e
        · rw [e]; rcases hr.1 with e | e <;> rw [e] <;> simp
        · rw [e.2.1]; simp
      have sb : r.2.2 ∈ ST := by rcases hr.2 with e | e <;> rw [e] <;> simp
      unfold wItem at hd
      rcases List.mem_cons.mp hd with e | hd
      · rw [e]
        exact mkE ⟨sa, sb, f1, by show f.c.length ≤ 10; omega, fl, fun z => absurd z fb.ne, fun _ => cel1 fb.cel⟩
      · split at hd
        · cases hd
        · rw [List.mem_singleton.mp hd]
          have := mo.l0
          exact mkE ⟨sa, sb, by show 1 ≤ (T.m0 ++ f.c).length; rw [List.length_append]; omega, by show (T.m0 ++ f.c).length ≤ 10; rw [List.length_append]; omega, by show (great f.t).length ≤ 6; rw [great_leng]; exact fl, fun z => absurd z (great_lenn fb.ne), fun _ => two mo.c0 fb.cel⟩
    · have un : f.t.map upC ≠ [] := fun z => fb.ne (List.map_eq_nil_iff.mp z)
      have ul : (f.t.map upC).length ≤ 6 := by rw [List.length_map]; exact fl
      have := mo.l1
      unfold greatL at hd
      split at hd
      · cases hd
      · rcases List.mem_append.mp hd with hd | hd
        · obtain ⟨st, hst, hd⟩ := List.mem_flatMap.mp hd
          have sa : st ∈ ST := by
            rcases outs_mem hst with e | e
            · rw [e]; simp
            · rw [e.2.1]; simp
          unfold aItem at hd
          rcases List.mem_append.mp hd with hd | hd <;> split at hd <;> first | (cases hd; done) | (rw [List.mem_singleton.mp hd]; exact mkE ⟨sa, by simp, by show 1 ≤ (T.m1 ++ f.c).length; rw [List.length_append]; omega, by show (T.m1 ++ f.c).length ≤ 10; rw [List.length_append]; omega, ul, fun z => absurd z un, fun _ => two mo.c1 fb.cel⟩)
        · unfold aTail at hd
          rcases List.mem_append.mp hd with hd | hd <;> split at hd <;> first | (cases hd; done) | (rw [List.mem_singleton.mp hd]; exact mkE ⟨by simp, by simp, f1, by show f.c.length ≤ 10; omega, ul, fun z => absurd z un, fun _ => cel1 fb.cel⟩)
theorem eds_of {lets : List Nat} {T : Tab} (h : TB lets T) : ∃ es : List Ed, ssetL (progL T) = es.map eDD ∧ (∀ e ∈ es, EdOk e) ∧ ∀ a t c b, eD a t c b ∈ progL T → (⟨a, t, c, b⟩ : Ed) ∈ es := by
  have hm := sset_mem (edges_alk T (et_ofB h))
  obtain ⟨es, e, hE⟩ := eds_all (l := ssetL (progL T)) fun d hd => ok_prog h d ((hm d).mp hd)
  refine ⟨es, e, hE, fun a t c b hd => ?_⟩
  have hd := (hm _).mpr hd
  rw [e] at hd
  obtain ⟨f, hf, q⟩ := List.mem_map.mp hd
  have : f = ⟨a, t, c, b⟩ := eDD_inj q
  rw [← this]
  exact hf
def WC (T : Tab) (c : Nat) : Prop := ∃ f ∈ T.fs, f.p = wbme ∧ (f.t = [c] ∨ (T.m0 ≠ [] ∧ ∃ d, f.t = [d] ∧ c = upC d))
def SG (T : Tab) (c : Nat) : Prop := c = 32 ∨ (∃ k, k < T.fg.length ∧ c = 48 + k) ∨ WC T c
theorem fit1 {tx : List Nat} {pl c : Nat} (h : tx[pl]? = some c) (a : List Nat) (cs : List Int) (b : List Nat) : fitB ⟨a, [c], cs, b⟩ tx pl = true := by
  unfold fitB
  refine decide_eq_true ?_
  obtain ⟨h1, h2⟩ := List.getElem?_eq_some_iff.mp h
  show (tx.drop pl).take 1 = [c]
  rw [List.drop_eq_getElem_cons h1, h2]
  rfl
theorem word_mem {T : Tab} {f : Fm} (hf : f ∈ T.fs) (hp : f.p = wbme) {r : Rd3} (hr : r ∈ roads) {st : List Nat} (hs : st ∈ outs T r.2.1) {d : D} (hd : d ∈ wItem T f r.2.2 st) : d ∈ progL T := by
  unfold progL
  refine List.mem_append_right _ (List.mem_flatMap.mpr ⟨f, hf, List.mem_append_left _ (List.mem_flatMap.mpr ⟨r, List.mem_filter.mpr ⟨hr, ?_⟩, List.mem_flatMap.mpr ⟨st, hs, hd⟩⟩)⟩)
  rw [hp]
  simp only [roads, List.mem_cons, List.not_mem_nil, or_false] at hr
  rcases hr with rfl | rfl | rfl | rfl <;> decide
theorem letter_edge {T : Tab} {c : Nat} (h : WC T c) {r : Rd3} (hr : r ∈ roads) {st : List Nat} (hs : st ∈ outs T r.2.1) : ∃ cs, eD st [c] cs r.2.2 ∈ progL T := by
  obtain ⟨f, hf, hp, h⟩ := h
  rcases h with h | ⟨h0, d, h1, h2⟩
  · refine ⟨f.c, word_mem hf hp hr hs ?_⟩
    unfold wItem
    rw [h]
    exact List.mem_cons_self
  · refine ⟨T.m0 ++ f.c, word_mem hf hp hr hs ?_⟩
    unfold wItem
    rw [if_neg h0, h1, h2]
    exact List.mem_cons_of_mem _ (List.mem_singleton.mpr rfl)
theorem fig_mem {T : Tab} : ∀ (r : List Int) (k0 j : Nat), j < r.length → ∃ c, eD sOut [48 + (k0 + j)] (T.m2 ++ [c]) sNum ∈ figsL T k0 r ∧ eD sDone [48 + (k0 + j)] (T.m2 ++ [c]) sNum ∈ figsL T k0 r ∧ eD sNum [48 + (k0 + j)] [c] sNum ∈ figsL T k0 r
  | [], _, _, h => absurd h (by simp)
  | c :: r, k0, 0, _ => ⟨c, by simp [figsL, figE], by simp [figsL, figE], by simp [figsL, figE]⟩
  | c :: r, k0, j + 1, h => by
    obtain ⟨c', h1, h2, h3⟩ := fig_mem (T := T) r (k0 + 1) j (by simpa using h)
    have e : k0 + (j + 1) = k0 + 1 + j := by omega
    refine ⟨c', ?_, ?_, ?_⟩ <;> rw [e] <;> unfold figsL <;> exact List.mem_append_right _ (by assumption)
theorem feas {T : Tab} {es : List Ed} {tx : List Nat} {G : Bh} (hm : ∀ a t c b, eD a t c b ∈ progL T → (⟨a, t, c, b⟩ : Ed) ∈ es) (hG : ∀ q, q ≤ tx.length → SP es tx G q) (hs : ∀ c ∈ tx, SG T c) : ∀ (k pl : Nat), pl + k = tx.length →
    (∃ x, G pl sOut = some x) ∧ (T.fg ≠ [] → ∃ x, G pl sNum = some x) ∧ ((∀ c, tx[pl]? = some c → ¬ WC T c) → ∃ x, G pl sDone = some x) ∧ (∀ c, tx[pl]? = some c → WC T c → (∃ x, G pl sIn = some x) ∧ (T.fg ≠ [] → ∃ x, G pl sLet = some x))
  | 0, pl, h => by
    have S := hG pl (by omega)
    have hp : pl = tx.length := by omega
    refine ⟨⟨0, S.fin hp sOut rfl⟩, fun _ => ⟨0, S.fin hp sNum rfl⟩, fun _ => ⟨0, S.fin hp sDone rfl⟩, fun c hc => ?_⟩
    rw [hp, List.getElem?_eq_none (Nat.le_refl _)] at hc
    cases hc
  | k + 1, pl, h => by
    have S := hG pl (by omega)
    obtain ⟨i1, i2, i3, i4⟩ := feas hm hG hs k (pl + 1) (by omega)
    have hlt : pl < tx.length := by omega
    have hc := List.getElem?_eq_getElem hlt
    have hsg := hs _ (List.getElem_mem hlt)
    generalize tx[pl] = c at *
    have step : ∀ {a : List Nat} {cs : List Int} {b : List Nat}, eD a [c] cs b ∈ progL T → (∃ x, G (pl + 1) b = some x) → ∃ x, G pl a = some x := fun {a cs b} he ⟨x, hx⟩ => by
      obtain ⟨q, _, hq⟩ := S.by_ _ (hm _ _ _ _ he) (fit1 hc a cs b) x hx
      exact ⟨q, hq⟩
    have viaLet : T.fg ≠ [] → (∃ x, G pl sLet = some x) → ∃ x, G pl sNum = some x := fun hfg ⟨x, hx⟩ => by
      have he : eD sNum [] T.m3 sLet ∈ progL T := by
        unfold progL otherL
        refine List.mem_append_left _ (List.mem_append_right _ ?_)
        unfold tailL
        rw [if_neg hfg]
        exact List.mem_singleton.mpr rfl
      obtain ⟨q, _, hq⟩ := S.by_ _ (hm _ _ _ _ he) (fit_nil rfl) x hx
      exact ⟨q, hq⟩
    by_cases hW : WC T c
    · -- a letter
      have nxt : (∃ x, G (pl + 1) sIn = some x) ∨ (∃ x, G (pl + 1) sDone = some x) := by
        by_cases hn : ∃ c', tx[pl + 1]? = some c' ∧ WC T c'
        · obtain ⟨c', h1, h2⟩ := hn
          exact .inl (i4 c' h1 h2).1
        · exact .inr (i3 fun c' h1 h2 => hn ⟨c', h1, h2⟩)
      have oOut : ∃ x, G pl sOut = some x := by
        rcases nxt with z | z
        · obtain ⟨cs, he⟩ := letter_edge hW (r := (98, sOut, sIn)) (by simp [roads]) (st := sOut) (by unfold outs; split <;> simp)
          exact step he z
        · obtain ⟨cs, he⟩ := letter_edge hW (r := (119, sOut, sDone)) (by simp [roads]) (st := sOut) (by unfold outs; split <;> simp)
          exact step he z
      have oIn : ∃ x, G pl sIn = some x := by
        rcases nxt with z | z
        · obtain ⟨cs, he⟩ := letter_edge hW (r := (109, sIn, sIn)) (by simp [roads]) (st := sIn) (by unfold outs; rw [if_neg (fun z => absurd z.1 (by decide))]; simp)
          exact step he z
        · obtain ⟨cs, he⟩ := letter_edge hW (r := (101, sIn, sDone)) (by simp [roads]) (st := sIn) (by unfold outs; rw [if_neg (fun z => absurd z.1 (by decide))]; simp)
          exact step he z
      have oLet : T.fg ≠ [] → ∃ x, G pl sLet = some x := fun hfg => by
        rcases nxt with z | z
        · obtain ⟨cs, he⟩ := letter_edge hW (r := (98, sOut, sIn)) (by simp [roads]) (st := sLet) (by unfold outs; rw [if_pos ⟨rfl, hfg⟩]; simp)
          exact step he z
        · obtain ⟨cs, he⟩ := letter_edge hW (r := (119, sOut, sDone)) (by simp [roads]) (st := sLet) (by unfold outs; rw [if_pos ⟨rfl, hfg⟩]; simp)
          exact step he z
      refine ⟨oOut, fun hfg => viaLet hfg (oLet hfg), fun hd => absurd hW (hd c hc), fun c' h1 _ => ?_⟩
      exact ⟨oIn, oLet⟩
    · have last : ∀ c', tx[pl]? = some c' → WC T c' → (∃ x, G pl sIn = some x) ∧ (T.fg ≠ [] → ∃ x, G pl sLet = some x) := fun c' h1 h2 => by
        rw [hc] at h1
        rw [← Option.some.inj h1] at h2
        exact absurd h2 hW
      rcases hsg with rfl | ⟨j, hj, rfl⟩ | hw
      · have hb : ∀ a, a = sOut ∨ a = sDone ∨ a = sNum → eD a [32] [0] sOut ∈ progL T := fun a ha => by
          unfold progL otherL
          refine List.mem_append_left _ (List.mem_append_left _ (List.mem_append_left _ ?_))
          unfold blanks
          rcases ha with rfl | rfl | rfl <;> simp
        exact ⟨step (hb _ (.inl rfl)) i1, fun _ => step (hb _ (.inr (.inr rfl))) i1, fun _ => step (hb _ (.inr (.inl rfl))) i1, last⟩
      · have hfg : T.fg ≠ [] := fun z => by rw [z] at hj; simp at hj
        obtain ⟨cs, f1, f2, f3⟩ := fig_mem (T := T) T.fg 0 j hj
        rw [Nat.zero_add] at f1 f2 f3
        have up : ∀ d, d ∈ figsL T 0 T.fg → d ∈ progL T := fun d hd => by
          unfold progL otherL
          exact List.mem_append_left _ (List.mem_append_left _ (List.mem_append_right _ hd))
        exact ⟨step (up _ f1) (i2 hfg), fun _ => step (up _ f3) (i2 hfg), fun _ => step (up _ f2) (i2 hfg), last⟩
      · exact absurd hw hW
theorem signs_tx {lets : List Nat} {T : Tab} (h : TB lets T) (n : Nat) : ∃ sg : List Nat, L.call (n + 2) 8 [tabD T] = .ok (.str sg) ∧ ∀ c, SG T c → c ∈ sg := by
  obtain ⟨ls, hls, ll, az⟩ := letters_all h.lo h.fo h.fl
  obtain ⟨sg, e, p⟩ := sg_of (sgA ls T.fg.length (greatB T))
  have hl := p.length_eq
  have := sgA_len ls T.fg.length (greatB T) ll h.mo.lf
  refine ⟨sg, signs_ok n h ls hls ll az sg e (by omega), fun c hc => ?_⟩
  have inl : ∀ {f : Fm} {d : Nat}, f ∈ T.fs → f.t = [d] → d ∈ ls := fun {f d} hf ht => by
    have h1 : chr1 d ∈ ssetL ((T.fs.map Fm.t).flatten.map chr1) := (sset_mem (alk_chr _) _).mpr (chr_mem.mpr (List.mem_flatten.mpr ⟨[d], List.mem_map.mpr ⟨f, hf, ht⟩, by simp⟩))
    rw [hls] at h1
    exact chr_mem.mp h1
  refine p.mem_iff.mpr ?_
  unfold sgA
  rcases hc with rfl | ⟨k, hk, rfl⟩ | ⟨f, hf, hp, hc⟩
  · simp
  · refine List.mem_append_left _ (List.mem_append_right _ ?_)
    exact List.mem_map.mpr ⟨k, List.mem_range.mpr hk, rfl⟩
  · rcases hc with ht | ⟨h0, d, ht, rfl⟩
    · exact List.mem_append_left _ (List.mem_append_left _ (List.mem_cons_of_mem _ (inl hf ht)))
    · refine List.mem_append_right _ ?_
      have hg : greatB T = true := decide_eq_true (List.length_pos_iff.mpr h0)
      rw [if_pos hg]
      have hd := inl hf ht
      have := az d hd
      refine List.mem_map.mpr ⟨d, hd, ?_⟩
      unfold upC
      rw [if_pos (by omega)]
theorem ns_all (m : Nat) (TD : D) (tx sg : List Nat) (hl : tx.length ≤ 100000) (h : ∀ c ∈ tx, c ∈ sg) (hs : L.call (m + 2) 8 [TD] = .ok (.str sg)) : L.call (m + 3) 9 [TD, .str tx] = .ok .non := by
  rw [call_f_need_signs]
  show Got _ _
  obtain ⟨ρ', e, x3, rfl⟩ := forGo_inv (tg := .one 3) (body := exB (L.w (m + 2)) B_f_need_signs_0) (fun _ ρ => ∃ x3, ρ = [some TD, some (.str tx), some (.str sg), x3]) (rngD 0 (tx.length : Int)) 0 [some TD, some (.str tx), some (.str sg), none] ⟨none, rfl⟩ (by
    rintro j d ρ hj ⟨x3, rfl⟩
    have hjl : j < (rngD 0 (tx.length : Int)).length := (List.getElem?_eq_some_iff.mp hj).1
    rw [rng_len] at hjl
    rw [rng_get (by omega)] at hj
    have hj := Option.some.inj hj
    subst hj
    rw [Int.zero_add]
    have hlt : j < tx.length := by omega
    have hi : ixD (.str tx) (.int (j : Int)) = .ok (chr1 tx[j]) := ix_s (by omega) (by rw [Int.toNat_natCast]; exact List.getElem?_eq_getElem hlt)
    have hin : cmpD .NotIn (chr1 tx[j]) (.str sg) = .ok (.bl false) := by
      show bnot (.ok (.bl (decide (tx[j] ∈ sg)))) = _
      rw [decide_eq_true (h _ (List.getElem_mem hlt))]
      rfl
    refine ⟨[some TD, some (.str tx), some (.str sg), some (.int (j : Int))], [some TD, some (.str tx), some (.str sg), some (.int (j : Int))], by simp [R.need], .inl ?_, some (.int (j : Int)), rfl⟩
    rw [B_f_need_signs_0, ex_cons, ex_ifs, ev_cmp, ev_ix, ev_sl, slotS, slot0, R.ok_bind, ev_sl, slotS, slotS, slotS, slot0, R.ok_bind, hi, R.ok_bind, ev_sl, slotS, slotS, slot0, R.ok_bind, hin, out_ok, thenO_f, ex_nil, thenX_nx, ex_nil])
  have hr : evI (L.w (m + 2)) (.rng1 (.bn .len (.cons (.sl 1) .nil))) [some TD, some (.str tx), some (.str sg), none] = .ok (rngD 0 (tx.length : Int)) := by
    rw [ev_rng1, ev_bn, ev_cons, ev_sl, slotS, slot0, R.ok_bind, ev_nil, R.ok_bind, R.ok_bind, len_s, R.ok_bind, toI_i, rngR_ok (by omega)]
  rw [B_f_need_signs]
  refine stepP (ρ1 := [some TD, some (.str tx), some (.str sg), none]) (by
    rw [ex_asg, ev_call, ev_cons, ev_sl, slot0, R.ok_bind, ev_nil, R.ok_bind, R.ok_bind, w_call, hs, R.ok_bind, need_p (ff _), out_ok]; rfl) ?_
  refine stepP (by rw [ex_for, hr, outL_ok, e]) ?_
  rw [ex_nil]
  rfl
/-- a table that the law draws, a text of its signs: it is written -/
theorem written_of {lets : List Nat} {T : Tab} (h : TB lets T) {es : List Ed} (hes : ssetL (progL T) = es.map eDD) (hE : ∀ e ∈ es, EdOk e) (hm : ∀ a t c b, eD a t c b ∈ progL T → (⟨a, t, c, b⟩ : Ed) ∈ es) (m : Nat) (tx : List Nat) (hn : tx.length ≤ 400) (hs : ∀ c ∈ tx, SG T c) :
    ∃ (l : List Ed) (s : List Nat), L.call (m + 4) 15 [tabD T, .str tx] = .ok (.tup [tupI (l.flatMap Ed.c), .lst (l.map eDD)]) ∧ Run es tx l tx.length s ∧ ends s = true ∧ l.length ≤ 2 * tx.length := by
  obtain ⟨sg, e1, h1⟩ := signs_tx h m
  have e2 := ns_all m (tabD T) tx sg (by omega) (fun c hc => h1 c (hs c hc)) e1
  have e3 := edges_told m T (et_ofB h)
  rw [hes] at e3
  exact written_ok m (tabD T) es hE tx hn e2 e3 (fun G hG => (feas hm hG hs tx.length 0 (by omega)).1) rfl
theorem lsig_go (w : Wld) (T : Tab) (hF : ∀ f ∈ T.fs, ∀ c ∈ f.t, 97 ≤ c ∧ c < 123) (hO : ∀ f ∈ T.fs, ∀ c, f.t = [c] → WC T c) (x3 : Option D) : ∀ (l : List Fm) (acc : List Nat) (x2 : Option D), (∀ f ∈ l, f ∈ T.fs) → acc.length + 2 * l.length ≤ 1000 → (∀ c ∈ acc, SG T c) → 1 ≤ acc.length → ∃ (acc' : List Nat) (y2 : Option D), forGo (.one 2) (exB w B_f_law_signs_0) (l.map fmD) [some (tabD T), some (.lst (acc.map chr1)), x2, x3] = .nx [some (tabD T), some (.lst (acc'.map chr1)), y2, x3] ∧ (∀ c ∈ acc', SG T c) ∧ 1 ≤ acc'.length ∧ acc'.length ≤ acc.length + 2 * l.length
  | [], acc, x2, _, _, ha, h1 => ⟨acc, x2, rfl, ha, h1, by simp⟩
  | f :: l, acc, x2, hl, hn, ha, h1 => by
    have hn : acc.length + 2 * (l.length + 1) ≤ 1000 := hn
    have hf := hl f List.mem_cons_self
    have hgv : giveT (.one 2) (fmD f) [some (tabD T), some (.lst (acc.map chr1)), x2, x3] = .ok [some (tabD T), some (.lst (acc.map chr1)), some (fmD f), x3] := by simp [R.need]
    obtain ⟨a2, e2, p2, q2, r2⟩ : ∃ a2 : List Nat, exB w B_f_law_signs_0 [some (tabD T), some (.lst (acc.map chr1)), some (fmD f), x3] = .nx [some (tabD T), some (.lst (a2.map chr1)), some (fmD f), x3] ∧ (∀ c ∈ a2, SG T c) ∧ 1 ≤ a2.length ∧ a2.length ≤ acc.length + 2 := by
      have i0 : ixD (fmD f) (.int 0) = .ok (.str f.t) := rfl
      have i1 : ixD (tabD T) (.int 1) = .ok (mkD T) := rfl
      have j0 : ixD (mkD T) (.int 0) = .ok (tupI T.m0) := rfl
      have hlen := len_tI T.m0
      have hp := pos_dec T.m0
      by_cases ht : ∃ c, f.t = [c]
      · obtain ⟨c, ht⟩ := ht
        have hw := hO f hf c ht
        have az := hF f hf c (by rw [ht]; simp)
        have hin := in_l c acc
        have hni : cmpD .NotIn (chr1 c) (.lst (acc.map chr1)) = .ok (.bl (!decide (c ∈ acc))) := by
          show bnot (cmpD .In (chr1 c) (.lst (acc.map chr1))) = _
          rw [hin]
          rfl
        have hu := up_i c az
        have k1 : mutD .app (acc.map chr1) [chr1 c] = .ok ((acc ++ [c]).map chr1) := by rw [mut_app _ _ (by rw [List.length_map]; omega), List.map_append]; rfl
        have k2 : mutD .app ((acc ++ [c]).map chr1) [chr1 (c - 32)] = .ok ((acc ++ [c] ++ [c - 32]).map chr1) := by rw [mut_app _ _ (by rw [List.length_map, List.length_append, List.length_singleton]; omega), List.map_append (l₁ := acc ++ [c])]; rfl
        have s1 : SG T c := .inr (.inr hw)
        rw [ht] at i0
        by_cases hc : c ∈ acc
        · refine ⟨acc, ?_, ha, h1, by omega⟩
          generalize fmD f = FD at *
          generalize tabD T = TD at *
          rw [B_f_law_signs_0, ex_cons, ex_ifs, ev_and, ev_cmp]
          simp only [ev_bn, ev_cons, ev_nil, ev_ix, ev_sl, slotS, slot0, R.ok_bind, ev_cI, i0, len_s, List.length_cons, List.length_nil, eq_i]
          rw [show decide (((0 + 1 : Nat) : Int) = 1) = true from rfl, thenB_t, ev_one, ev_cmp]
          simp only [ev_ix, ev_sl, slotS, slot0, R.ok_bind, ev_cI, i0, hni, decide_eq_true hc, Bool.not_true, asB_b, out_ok, thenO_f, ex_nil, thenX_nx]
        · by_cases h0 : T.m0 = []
          · refine ⟨acc ++ [c], ?_, fun d hd => ?_, by rw [List.length_append]; omega, by rw [List.length_append, List.length_singleton]; omega⟩
            · rw [h0] at hp hlen
              have hp : decide (0 < ((([] : List Int).length : Nat) : Int)) = false := rfl
              rw [h0] at j0
              generalize fmD f = FD at *
              generalize tabD T = TD at *
              generalize mkD T = MD at *
              generalize tupI [] = M0 at *
              rw [B_f_law_signs_0, ex_cons, ex_ifs, ev_and, ev_cmp]
              simp only [ev_bn, ev_cons, ev_nil, ev_ix, ev_sl, slotS, slot0, R.ok_bind, ev_cI, i0, len_s, List.length_cons, List.length_nil, eq_i]
              rw [show decide (((0 + 1 : Nat) : Int) = 1) = true from rfl, thenB_t, ev_one, ev_cmp]
              simp only [ev_ix, ev_sl, slotS, slot0, R.ok_bind, ev_cI, i0, hni, decide_eq_false hc, Bool.not_false, asB_b, out_ok, thenO_t, ex_cons]
              rw [ex_mut]
              simp only [List.getElem?_cons_succ, List.getElem?_cons_zero, mutX_l, ev_cons, ev_nil, ev_ix, ev_sl, slotS, slot0, R.ok_bind, ev_cI, i0, outL_ok, k1, mutO_ok, thenX_nx, List.set_cons_succ, List.set_cons_zero]
              rw [ex_cons, ex_ifs, ev_cmp]
              simp only [ev_bn, ev_cons, ev_nil, ev_ix, ev_sl, slotS, slot0, R.ok_bind, ev_cI, i1, j0, hlen, gt_i]
              rw [show decide ((0 : Int) < ((([] : List Int).length : Nat) : Int)) = false from rfl, out_ok, thenO_f, ex_nil, thenX_nx, ex_nil, thenX_nx, ex_nil]
            · rcases List.mem_append.mp hd with hd | hd
              · exact ha d hd
              · rw [List.mem_singleton.mp hd]; exact s1
          · refine ⟨acc ++ [c] ++ [c - 32], ?_, fun d hd => ?_, by rw [List.length_append]; simp, by simp⟩
            · have hp2 : decide (0 < (T.m0.length : Int)) = true := by rw [hp, decide_eq_false h0]; rfl
              generalize fmD f = FD at *
              generalize tabD T = TD at *
              generalize mkD T = MD at *
              generalize tupI T.m0 = M0 at *
              rw [B_f_law_signs_0, ex_cons, ex_ifs, ev_and, ev_cmp]
              simp only [ev_bn, ev_cons, ev_nil, ev_ix, ev_sl, slotS, slot0, R.ok_bind, ev_cI, i0, len_s, List.length_cons, List.length_nil, eq_i]
              rw [show decide (((0 + 1 : Nat) : Int) = 1) = true from rfl, thenB_t, ev_one, ev_cmp]
              simp only [ev_ix, ev_sl, slotS, slot0, R.ok_bind, ev_cI, i0, hni, decide_eq_false hc, Bool.not_false, asB_b, out_ok, thenO_t, ex_cons]
              rw [ex_mut]
              simp only [List.getElem?_cons_succ, List.getElem?_cons_zero, mutX_l, ev_cons, ev_nil, ev_ix, ev_sl, slotS, slot0, R.ok_bind, ev_cI, i0, outL_ok, k1, mutO_ok, thenX_nx, List.set_cons_succ, List.set_cons_zero]
              rw [ex_cons, ex_ifs, ev_cmp]
              simp only [ev_bn, ev_cons, ev_nil, ev_ix, ev_sl, slotS, slot0, R.ok_bind, ev_cI, i1, j0, hlen, gt_i, hp2, out_ok, thenO_t, ex_cons]
              rw [ex_mut]
              simp only [List.getElem?_cons_succ, List.getElem?_cons_zero, mutX_l, ev_cons, ev_nil, ev_mt, ev_ix, ev_sl, slotS, slot0, R.ok_bind, ev_cI, i0, need_p (show Mt.rcv .upper (chr1 c) = true from rfl), hu, outL_ok, k2, mutO_ok, thenX_nx, ex_nil, List.set_cons_succ, List.set_cons_zero]
            · rcases List.mem_append.mp hd with hd | hd
              · rcases List.mem_append.mp hd with hd | hd
                · exact ha d hd
                · rw [List.mem_singleton.mp hd]; exact s1
              · rw [List.mem_singleton.mp hd]
                obtain ⟨g, hg, hgp, hgt⟩ := hw
                have hgc : ∃ d, g.t = [d] ∧ c - 32 = upC d := by
                  rcases hgt with z | ⟨_, d, z1, z2⟩
                  · exact ⟨c, z, by unfold upC; rw [if_pos (by omega)]⟩
                  · have := hF g hg d (by rw [z1]; simp)
                    exfalso
                    rw [z2] at az
                    unfold upC at az
                    rw [if_pos (by omega)] at az
                    omega
                exact .inr (.inr ⟨g, hg, hgp, .inr ⟨h0, hgc⟩⟩)
      · refine ⟨acc, ?_, ha, h1, by omega⟩
        have hne : ¬ f.t.length = 1 := fun z => ht (List.length_eq_one_iff.mp z)
        generalize fmD f = FD at *
        generalize tabD T = TD at *
        rw [B_f_law_signs_0, ex_cons, ex_ifs, ev_and, ev_cmp]
        simp only [ev_bn, ev_cons, ev_nil, ev_ix, ev_sl, slotS, slot0, R.ok_bind, ev_cI, i0, len_s, eq_i]
        rw [show decide ((f.t.length : Int) = 1) = false from decide_eq_false (by omega), thenB_f, out_ok, thenO_f, ex_nil, thenX_nx, ex_nil]
    obtain ⟨a3, y2, e3, p3, q3, r3⟩ := lsig_go w T hF hO x3 l a2 (some (fmD f)) (fun g hg => hl g (List.mem_cons_of_mem _ hg)) (by omega) p2 q2
    exact ⟨a3, y2, by rw [List.map_cons, for_st hgv e2, e3], p3, q3, by show _ ≤ acc.length + 2 * (l.length + 1); omega⟩
theorem lsigns_ok {lets : List Nat} {T : Tab} (h : TB lets T) (n : Nat) : ∃ sl : List Nat, L.call (n + 1) 25 [tabD T] = .ok (.lst (sl.map chr1)) ∧ (∀ c ∈ sl, SG T c) ∧ 1 ≤ sl.length ∧ sl.length ≤ 100 := by
  rw [call_f_law_signs]
  show ∃ sl : List Nat, Got (.ok (.lst (sl.map chr1))) _ ∧ _
  have hm := h.mo.lf
  have hd := digs_run (L.w n) T.fg.length hm 3 [3] [some (tabD T), none, none, none] (fun i => by simp [wipeD, R.need]) (fun x => by simp [wipeD])
  have a1 := addL [32] (digs T.fg.length) (by simp; omega)
  have a1' : addD (D.lst [D.str [32]]) (D.lst (List.map chr1 (digs T.fg.length))) = R.ok (D.lst (List.map chr1 ([32] ++ digs T.fg.length))) := a1
  have hr : evI (L.w n) (.rng1 (.bn .len (.cons (.ix (.sl 0) (.cI 2)) .nil))) [some (tabD T), none, none, none] = .ok (rngD 0 (T.fg.length : Int)) := by
    have i2 : ixD (tabD T) (.int 2) = .ok (tupI T.fg) := rfl
    have hl := len_tI T.fg
    rw [ev_rng1, ev_bn, ev_cons, ev_ix, ev_sl, slot0, R.ok_bind, ev_cI, R.ok_bind, i2, R.ok_bind, ev_nil, R.ok_bind, R.ok_bind, hl, R.ok_bind, toI_i, rngR_ok (by omega)]
  have i0 : ixD (tabD T) (.int 0) = .ok (.tup (T.fs.map fmD)) := rfl
  have az : ∀ f ∈ T.fs, ∀ c ∈ f.t, 97 ≤ c ∧ c < 123 := fun f hf c hc => h.lo.az c ((h.fo.ok f hf).own c hc)
  have hO : ∀ f ∈ T.fs, ∀ c, f.t = [c] → WC T c := fun f hf c ht => by
    obtain ⟨g, hg, g1, g2⟩ := h.fo.own c ((h.fo.ok f hf).own c (by rw [ht]; simp))
    exact ⟨g, hg, g2, .inl g1⟩
  have hfl := h.fl
  have hdl : (digs T.fg.length).length = T.fg.length := by simp [digs]
  obtain ⟨sl, y2, e, p, q, r⟩ := lsig_go (L.w n) T az hO none T.fs ([32] ++ digs T.fg.length) none (fun f hf => hf) (by rw [List.length_append, hdl, List.length_singleton]; omega) (fun c hc => by
    rcases List.mem_append.mp hc with hc | hc
    · rw [List.mem_singleton.mp hc]; exact .inl rfl
    · obtain ⟨k, hk, rfl⟩ := List.mem_map.mp hc
      exact .inr (.inl ⟨k, List.mem_range.mp hk, rfl⟩)) (by simp)
  rw [List.length_append, hdl, List.length_singleton] at r
  refine ⟨sl, ?_, p, q, by omega⟩
  generalize tabD T = TD at *
  rw [B_f_law_signs]
  refine stepP (ρ1 := [some TD, some (.lst (([32] ++ digs T.fg.length).map chr1)), none, none]) (by
    rw [ex_asg, ev_bin, ev_lst, ev_cons, ev_cS, R.ok_bind, ev_nil, R.ok_bind, R.ok_bind, lstR_1, R.ok_bind, ev_lcc, hr, R.ok_bind, hd, R.ok_bind, R.ok_bind, binD_add]
    rw [a1']
    rfl) ?_
  refine stepP (by rw [ex_for, ev_seq, ev_ix, ev_sl, slot0, R.ok_bind, ev_cI, R.ok_bind, i0, R.ok_bind, seq_t, outL_ok, e]) ?_
  exact endP (d := .lst (sl.map chr1)) (by rw [ex_ret, ev_mv]; rfl) rfl
theorem ltext_ok {lets : List Nat} {T : Tab} (h : TB lets T) (n : Nat) (ns : List Int) (count : Nat) (hc : count ≤ 300) : ∃ tx : List Nat, L.call (n + 3) 26 [.scr ns, tabD T, .int (count : Int)] = .ok (.str tx) ∧ tx.length = count ∧ ∀ c ∈ tx, SG T c := by
  rw [call_f_law_text]
  show ∃ tx : List Nat, Got (.ok (.str tx)) _ ∧ _
  obtain ⟨sl, e1, p1, q1, r1⟩ := lsigns_ok h (n + 1)
  have hcut : cut (sl.map chr1) (some 1) none = (sl.drop 1).map chr1 := by rw [cut_fromI _ 1 ⟨by decide, by rw [List.length_map]; omega⟩, List.map_drop]; rfl
  have hadd : addD (.lst (sl.map chr1)) (.lst ((sl.drop 1).map chr1)) = .ok (.lst ((sl ++ sl.drop 1).map chr1)) := by
    rw [addD_l _ _ (by rw [List.length_map, List.length_map, List.length_drop]; omega), List.map_append]
  have hs2 : ∀ c ∈ sl ++ sl.drop 1, SG T c := fun c hc => by
    rcases List.mem_append.mp hc with hc | hc
    · exact p1 c hc
    · exact p1 c (List.mem_of_mem_drop hc)
  have hl2 : 1 ≤ (sl ++ sl.drop 1).length ∧ (sl ++ sl.drop 1).length ≤ 200 := by rw [List.length_append, List.length_drop]; omega
  generalize hs : sl ++ sl.drop 1 = s2 at *
  obtain ⟨xs, e, l, p⟩ := lcGo_all (turn := lcT (L.w (n + 2)) [4] (.one 4) .nil E_f_law_text_0 [some (.scr ns), some (tabD T), some (.int (count : Int)), some (.lst (s2.map chr1)), none]) (P := fun x => ∃ c, x = chr1 c ∧ SG T c) (ds := rngD 0 (count : Int)) (acc := []) (by
    intro d hd
    obtain ⟨i, rfl, i1, i2⟩ := rng_mem hd
    obtain ⟨u, e, b⟩ := drawB n ns (31 + i) 35023 (s2.length : Int) (by omega) (by omega) (by omega)
    have g : u.toNat < s2.length := by omega
    have hi := ix_l (s := s2.map chr1) (i := u) (c := chr1 s2[u.toNat]) b.1 (by simp [g])
    refine ⟨_, lcT_0 (ρ1 := [some (.scr ns), some (tabD T), some (.int (count : Int)), some (.lst (s2.map chr1)), some (.int i)]) (by simp [wipeD, R.need]) ?_, _, rfl, hs2 _ (List.getElem_mem g)⟩
    have e : L.call (n + 2) 17 [.scr ns, .int (31 + i), .int 35023, .int (s2.length : Int)] = .ok (.int u) := e
    generalize tabD T = TD at *
    rw [ev_ix, ev_sl]
    simp only [slotS, slot0, R.ok_bind, ev_call, ev_cons, ev_nil, ev_sl, ev_bin, ev_cI, binD_add, addD_i, ev_bn, len_l, List.length_map, w_call, e, need_p (show (false = true → sc (D.int u) = true) from fun z => by cases z), hi]) (by rw [rng_len]; show 0 + _ ≤ _; omega)
  obtain ⟨tx, rfl, pt⟩ := all_chr xs p
  rw [List.length_map, rng_len] at l
  rw [List.nil_append] at e
  refine ⟨tx, ?_, by omega, pt⟩
  have hj := mt_join1 tx (by omega)
  have hr : evI (L.w (n + 2)) (.rng1 (.sl 2)) [some (.scr ns), some (tabD T), some (.int (count : Int)), some (.lst (s2.map chr1)), none] = .ok (rngD 0 (count : Int)) := by
    rw [ev_rng1, ev_sl, slotS, slotS, slot0, R.ok_bind, toI_i, rngR_ok (by omega)]
  generalize tabD T = TD at *
  rw [B_f_law_text]
  refine stepP (ρ1 := [some (.scr ns), some TD, some (.int (count : Int)), some (.lst (sl.map chr1)), none]) (by
    rw [ex_asg, ev_call, ev_cons, ev_sl, slotS, slot0, R.ok_bind, ev_nil, R.ok_bind, R.ok_bind, w_call, e1, R.ok_bind, need_p (ff _), out_ok]; rfl) ?_
  refine stepP (ρ1 := [some (.scr ns), some TD, some (.int (count : Int)), some (.lst (s2.map chr1)), none]) (by
    rw [ex_asg, ev_bin, ev_sl, slotS, slotS, slotS, slot0, R.ok_bind, ev_cut, ev_sl, slotS, slotS, slotS, slot0, R.ok_bind, ev_cI, R.ok_bind, isN_cI, part_i, R.ok_bind, ev_cN, R.ok_bind, isN_N, part_n, R.ok_bind, cut_l, hcut, R.ok_bind, binD_add, hadd]
    rfl) ?_
  exact endP (d := .str tx) (by
    rw [ex_ret, ev_mt, ev_cS, R.ok_bind, need_p (show Mt.rcv .join (.str []) = true from rfl), ev_cons, ev_lcc, hr, R.ok_bind, e, R.ok_bind, R.ok_bind, ev_nil, R.ok_bind, R.ok_bind, hj]
    rfl) rfl
end Cl
namespace Cl
open PySem PySem.Spec PyProof.Rows L2 PV
instance (s : List Nat) : Decidable (hin s) := by unfold hin; exact inferInstance
def hg : List Ed → Nat → List Nat
  | [], _ => []
  | e :: l, m => (if hin e.b then [m + e.c.length] else []) ++ hg l (m + e.c.length)
theorem Run.chain {es : List Ed} {tx : List Nat} {l : List Ed} {pl : Nat} {s : List Nat} (h : Run es tx l pl s) : ∀ A e B, l = A ++ e :: B → (B = [] ∧ e.b = s) ∨ ∃ e' B', B = e' :: B' ∧ e'.a = e.b := by
  induction h with
  | nil => intro A e B h; simp at h
  | @snoc l pl s x hR hx ha hf ih =>
    intro A e B hl
    rcases List.eq_nil_or_concat B with rfl | ⟨B0, y, rfl⟩
    · left
      have := List.append_inj' hl rfl
      obtain ⟨_, h2⟩ := this
      have : x = e := by simpa using h2
      rw [this]
      exact ⟨rfl, rfl⟩
    · right
      have hl2 : l ++ [x] = (A ++ e :: B0) ++ [y] := by rw [hl]; simp
      obtain ⟨h1, h2⟩ := List.append_inj' hl2 rfl
      have hy : x = y := by simpa using h2
      subst hy
      rcases ih A e B0 h1 with ⟨rfl, hb⟩ | ⟨e', B', rfl, hb⟩
      · exact ⟨x, [], by simp, by rw [ha, hb]⟩
      · exact ⟨e', B' ++ [x], by simp, hb⟩
theorem hg_mem : ∀ (l : List Ed) (m x : Nat), x ∈ hg l m → ∃ A e B, l = A ++ e :: B ∧ hin e.b ∧ x = m + (A.flatMap Ed.c).length + e.c.length
  | [], _, _, h => nomatch h
  | e :: l, m, x, h => by
    unfold hg at h
    rcases List.mem_append.mp h with h | h
    · split at h
      · rename_i hb
        rw [List.mem_singleton.mp h]
        exact ⟨[], e, l, rfl, hb, by simp⟩
      · cases h
    · obtain ⟨A, f, B, rfl, hb, e2⟩ := hg_mem l _ x h
      refine ⟨e :: A, f, B, rfl, hb, ?_⟩
      rw [e2, List.flatMap_cons, List.length_append]
      omega
theorem hg_gt : ∀ (l : List Ed) (m : Nat), (∀ e ∈ l, 1 ≤ e.c.length) → (∀ x ∈ hg l m, m < x) ∧ (hg l m).Pairwise (· < ·)
  | [], _, _ => ⟨fun x h => (nomatch h), .nil⟩
  | e :: l, m, h => by
    have h1 := h e List.mem_cons_self
    obtain ⟨i1, i2⟩ := hg_gt l (m + e.c.length) fun f hf => h f (List.mem_cons_of_mem _ hf)
    unfold hg
    split
    · refine ⟨fun x hx => ?_, ?_⟩
      · rcases List.mem_append.mp hx with hx | hx
        · rw [List.mem_singleton.mp hx]; omega
        · have := i1 x hx; omega
      · rw [List.singleton_append]
        exact List.pairwise_cons.mpr ⟨i1, i2⟩
    · rw [List.nil_append]
      exact ⟨fun x hx => by have := i1 x hx; omega, i2⟩
theorem hg_len : ∀ (l : List Ed) (m : Nat), (hg l m).length ≤ l.length
  | [], _ => Nat.le_refl _
  | e :: l, m => by
    have := hg_len l (m + e.c.length)
    unfold hg
    rw [List.length_append, List.length_cons]
    split <;> simp <;> omega
/-- what holds of a hinge -/
def GoodAt (row : List Int) (x : Nat) : Prop := 1 ≤ x ∧ x < row.length ∧ (∃ v, row[x]? = some v ∧ v ≠ 0) ∧ ∃ v, row[x - 1]? = some v ∧ v ≠ 0
theorem hg_good {es : List Ed} (hE : ∀ e ∈ es, EdOk e) {tx : List Nat} {l : List Ed} {pl : Nat} {s : List Nat} (h : Run es tx l pl s) (hs : ends s = true) : ∀ x ∈ hg l 0, GoodAt (l.flatMap Ed.c) x := by
  intro x hx
  obtain ⟨A, e, B, rfl, hb, ex⟩ := hg_mem l 0 x hx
  have he : e ∈ es := h.mem e (by simp)
  have ok := hE e he
  rcases h.chain A e B rfl with ⟨_, hq⟩ | ⟨e', B', rfl, hq⟩
  · exfalso
    rw [hq] at hb
    unfold hin at hb
    rcases hb with rfl | rfl <;> exact absurd hs (by decide)
  · have he' : e' ∈ es := h.mem e' (by simp)
    have ok' := hE e' he'
    have c1 := ok.c1
    have c1' := ok'.c1
    have n1 := ok.nz (.inr hb)
    have n2 := ok'.nz (.inl (by rw [hq]; exact hb))
    have er : (A ++ e :: e' :: B').flatMap Ed.c = A.flatMap Ed.c ++ (e.c ++ (e'.c ++ B'.flatMap Ed.c)) := by simp
    rw [er]
    rw [Nat.zero_add] at ex
    generalize A.flatMap Ed.c = P at *
    generalize B'.flatMap Ed.c = Q at *
    have hx1 : x = P.length + e.c.length := ex
    refine ⟨by omega, by simp only [List.length_append]; omega, ⟨e'.c[0]'(by omega), ?_, ?_⟩, ⟨e.c[e.c.length - 1]'(by omega), ?_, ?_⟩⟩
    · rw [List.getElem?_append_right (by omega), List.getElem?_append_right (by omega), List.getElem?_append_left (by omega)]
      rw [show x - P.length - e.c.length = 0 by omega]
      exact List.getElem?_eq_getElem _
    · have := n2 _ (List.getElem_mem (l := e'.c) (n := 0) (by omega))
      omega
    · rw [List.getElem?_append_right (by omega), List.getElem?_append_left (by omega)]
      rw [show x - 1 - P.length = e.c.length - 1 by omega]
      exact List.getElem?_eq_getElem _
    · have := n1 _ (List.getElem_mem (l := e.c) (n := e.c.length - 1) (by omega))
      omega
abbrev iD (x : Nat) : D := .int (x : Nat)
theorem app_i (acc : List Nat) (x : Nat) (h : acc.length ≤ 10000) : mutD .app (acc.map iD) [iD x] = .ok ((acc ++ [x]).map iD) := by
  rw [mut_app _ _ (by rw [List.length_map]; omega), List.map_append]
  rfl
theorem hin_eq (b : List Nat) : (decide (b = sIn) || decide (b = sAll)) = decide (hin b) := by
  unfold hin
  by_cases h1 : b = sIn <;> by_cases h2 : b = sAll <;> simp [h1, h2]
theorem hinge_go (w : Wld) (S : D) : ∀ (l : List Ed) (acc : List Nat) (m : Nat) (x3 : Option D), acc.length + l.length ≤ 5000 → ∃ y3 m', forGo (.one 3) (exB w B_f_hinges_of_0) (l.map eDD) [some S, some (.lst (acc.map iD)), some (iD m), x3] = .nx [some S, some (.lst ((acc ++ hg l m).map iD)), some (iD m'), y3]
  | [], acc, m, x3, _ => ⟨x3, m, by rw [hg, List.append_nil]; rfl⟩
  | e :: l, acc, m, x3, hl => by
    have hl : acc.length + (l.length + 1) ≤ 5000 := hl
    have h2 := e42 e
    have h3 := e43 e
    have hc := len_tI e.c
    have ha := app_i acc (m + e.c.length) (by omega)
    have hadd : (m : Int) + (e.c.length : Int) = ((m + e.c.length : Nat) : Int) := by omega
    have hb : exB w B_f_hinges_of_0 [some S, some (.lst (acc.map iD)), some (iD m), some (eDD e)] = .nx [some S, some (.lst ((acc ++ if hin e.b then [m + e.c.length] else []).map iD)), some (iD (m + e.c.length)), some (eDD e)] := by
      generalize eDD e = EE at *
      generalize tupI e.c = C at *
      rw [B_f_hinges_of_0, ex_cons, ex_asg]
      simp only [ev_bin, ev_sl, slotS, slot0, R.ok_bind, ev_bn, ev_cons, ev_nil, ev_ix, ev_cI, h2, hc, binD_add, addD_i, hadd, out_ok]
      rw [if_pos (by simp), thenX_nx]
      simp only [List.set_cons_succ, List.set_cons_zero]
      have hcond : evE w (.or (.cmp .Eq (.ix (.sl 3) (.cI 3)) (.cS [105, 110])) (.one (.cmp .Eq (.ix (.sl 3) (.cI 3)) (.cS [97, 108, 108])))) [some S, some (.lst (acc.map iD)), some (iD (m + e.c.length)), some EE] = .ok (.bl (decide (hin e.b))) := by
        rw [← hin_eq]
        simp only [ev_or, ev_cmp, ev_ix, ev_sl, slotS, slot0, R.ok_bind, ev_cI, h3, ev_cS, eq_s, ev_one, asB_b]
        show thenB (D.bl (decide (e.b = sIn))) (R.ok (D.bl true)) (R.ok (D.bl (decide (e.b = sAll)))) = _
        by_cases q : e.b = sIn
        · rw [decide_eq_true q, thenB_t]
          rfl
        · rw [decide_eq_false q, thenB_f, Bool.false_or]
      rw [ex_cons, ex_ifs, hcond, out_ok]
      by_cases q : hin e.b
      · rw [decide_eq_true q, thenO_t, ex_cons, ex_mut, if_pos q]
        simp only [List.getElem?_cons_succ, List.getElem?_cons_zero, mutX_l, ev_cons, ev_nil, ev_sl, slotS, slot0, R.ok_bind, outL_ok]
        rw [ha]
        simp only [mutO_ok, thenX_nx, ex_nil, List.set_cons_succ, List.set_cons_zero]
      · rw [decide_eq_false q, thenO_f, ex_nil, thenX_nx, ex_nil, if_neg q, List.append_nil]
    obtain ⟨y3, m', ih⟩ := hinge_go w S l (acc ++ if hin e.b then [m + e.c.length] else []) (m + e.c.length) (some (eDD e)) (by
      rw [List.length_append]
      split <;> simp <;> omega)
    refine ⟨y3, m', ?_⟩
    rw [List.map_cons, for_st (ρ1 := [some S, some (.lst (acc.map iD)), some (iD m), some (eDD e)]) (by simp [R.need]) hb, ih, List.append_assoc]
    rfl
theorem hinges_ok (n : Nat) (l : List Ed) (hl : l.length ≤ 1000) : L.call (n + 1) 0 [.lst (l.map eDD)] = .ok (.lst ((hg l 0).map iD)) := by
  rw [call_f_hinges_of]
  show Got _ _
  obtain ⟨y3, m', e⟩ := hinge_go (L.w n) (.lst (l.map eDD)) l [] 0 none (by simp; omega)
  rw [List.nil_append] at e
  have e : forGo (.one 3) (exB (L.w n) B_f_hinges_of_0) (l.map eDD) [some (.lst (l.map eDD)), some (.lst []), some (.int 0), none] = .nx [some (.lst (l.map eDD)), some (.lst ((hg l 0).map iD)), some (iD m'), y3] := e
  generalize l.map eDD = LL at *
  rw [B_f_hinges_of]
  refine stepP (ρ1 := [some (.lst LL), some (.lst []), none, none]) (by simp) ?_
  refine stepP (ρ1 := [some (.lst LL), some (.lst []), some (.int 0), none]) (by simp) ?_
  refine stepP (by rw [ex_for, ev_seq, ev_sl, slot0, R.ok_bind, seq_l, outL_ok, e]) ?_
  exact endP (d := .lst ((hg l 0).map iD)) (by rw [ex_ret, ev_mv]; rfl) rfl
theorem in_two (b : List Nat) : cmpD .In (.str b) (.lst [.str [105, 110], .str [97, 108, 108]]) = .ok (.bl (decide (hin b))) := by
  show R.need (dep (D.str b) ≤ 64 ∧ (noDic (D.str b) = true ∧ noDics [D.str [105, 110], D.str [97, 108, 108]] = true)) (.ok (D.bl (([.str [105, 110], .str [97, 108, 108]] : List D).any fun y => eqD y (.str b)))) = _
  rw [need_p ⟨Nat.zero_le _, rfl, rfl⟩]
  simp only [List.any_cons, List.any_nil, eqD_s, Bool.or_false]
  congr 2
  unfold hin
  by_cases h1 : b = sIn
  · subst h1; rfl
  · by_cases h2 : b = sAll
    · subst h2; rfl
    · have e1 : ¬ ([105, 110] : List Nat) = b := fun z => h1 z.symm
      have e2 : ¬ ([97, 108, 108] : List Nat) = b := fun z => h2 z.symm
      simp [h1, h2, e1, e2]
theorem due_go (w : Wld) (S : D) : ∀ (l : List Ed) (acc : List Nat) (m : Nat) (x3 : Option D), acc.length + l.length ≤ 5000 → ∃ y3 m', forGo (.one 3) (exB w B_f_law_due_0) (l.map eDD) [some S, some (.lst (acc.map iD)), some (iD m), x3] = .nx [some S, some (.lst ((acc ++ hg l m).map iD)), some (iD m'), y3]
  | [], acc, m, x3, _ => ⟨x3, m, by rw [hg, List.append_nil]; rfl⟩
  | e :: l, acc, m, x3, hl => by
    have hl : acc.length + (l.length + 1) ≤ 5000 := hl
    have h2 := e42 e
    have h3 := e43 e
    have hc := len_tI e.c
    have ha := app_i acc (m + e.c.length) (by omega)
    have hadd : (m : Int) + (e.c.length : Int) = ((m + e.c.length : Nat) : Int) := by omega
    have hin2 := in_two e.b
    have hb : exB w B_f_law_due_0 [some S, some (.lst (acc.map iD)), some (iD m), some (eDD e)] = .nx [some S, some (.lst ((acc ++ if hin e.b then [m + e.c.length] else []).map iD)), some (iD (m + e.c.length)), some (eDD e)] := by
      generalize eDD e = EE at *
      generalize tupI e.c = C at *
      rw [B_f_law_due_0, ex_cons, ex_asg]
      simp only [ev_bin, ev_sl, slotS, slot0, R.ok_bind, ev_bn, ev_cons, ev_nil, ev_ix, ev_cI, h2, hc, binD_add, addD_i, hadd, out_ok]
      rw [if_pos (by simp), thenX_nx]
      simp only [List.set_cons_succ, List.set_cons_zero]
      rw [ex_cons, ex_ifs, ev_cmp]
      simp only [ev_ix, ev_sl, slotS, slot0, R.ok_bind, ev_cI, h3, ev_lst, ev_cons, ev_nil, ev_cS, lstR_2, hin2, out_ok]
      by_cases q : hin e.b
      · rw [decide_eq_true q, thenO_t, ex_cons, ex_mut, if_pos q]
        simp only [List.getElem?_cons_succ, List.getElem?_cons_zero, mutX_l, ev_cons, ev_nil, ev_sl, slotS, slot0, R.ok_bind, outL_ok]
        rw [ha]
        simp only [mutO_ok, thenX_nx, ex_nil, List.set_cons_succ, List.set_cons_zero]
      · rw [decide_eq_false q, thenO_f, ex_nil, thenX_nx, ex_nil, if_neg q, List.append_nil]
    obtain ⟨y3, m', ih⟩ := due_go w S l (acc ++ if hin e.b then [m + e.c.length] else []) (m + e.c.length) (some (eDD e)) (by
      rw [List.length_append]
      split <;> simp <;> omega)
    refine ⟨y3, m', ?_⟩
    rw [List.map_cons, for_st (ρ1 := [some S, some (.lst (acc.map iD)), some (iD m), some (eDD e)]) (by simp [R.need]) hb, ih, List.append_assoc]
    rfl
theorem due_ok (n : Nat) (l : List Ed) (hl : l.length ≤ 1000) : L.call (n + 1) 27 [.lst (l.map eDD)] = .ok (.lst ((hg l 0).map iD)) := by
  rw [call_f_law_due]
  show Got _ _
  obtain ⟨y3, m', e⟩ := due_go (L.w n) (.lst (l.map eDD)) l [] 0 none (by simp; omega)
  rw [List.nil_append] at e
  have e : forGo (.one 3) (exB (L.w n) B_f_law_due_0) (l.map eDD) [some (.lst (l.map eDD)), some (.lst []), some (.int 0), none] = .nx [some (.lst (l.map eDD)), some (.lst ((hg l 0).map iD)), some (iD m'), y3] := e
  generalize l.map eDD = LL at *
  rw [B_f_law_due]
  refine stepP (ρ1 := [some (.lst LL), some (.lst []), none, none]) (by simp) ?_
  refine stepP (ρ1 := [some (.lst LL), some (.lst []), some (.int 0), none]) (by simp) ?_
  refine stepP (by rw [ex_for, ev_seq, ev_sl, slot0, R.ok_bind, seq_l, outL_ok, e]) ?_
  exact endP (d := .lst ((hg l 0).map iD)) (by rw [ex_ret, ev_mv]; rfl) rfl
theorem whole_ok (n : Nat) (i : Int) : L.call (n + 1) 18 [.int i] = .ok (.bl true) := by
  rw [call_f_law_whole]
  have h1 : bnD (.isI .int) [.int i] = .ok (.bl true) := rfl
  have h2 : bnD (.isI .bool) [.int i] = .ok (.bl false) := rfl
  simp [B_f_law_whole, h1, h2]
theorem nd_iD (l : List Nat) : noDics (l.map iD) = true := nds_of fun d hd => by obtain ⟨x, _, rfl⟩ := List.mem_map.mp hd; rfl
theorem dep_iD : ∀ l : List Nat, deps (l.map iD) = 0
  | [] => rfl
  | x :: l => by simp [deps, dep, dep_iD l]
theorem good_ok (n : Nat) (h : List Nat) (row : List Int) (hl : h.length ≤ 1000) (hg : ∀ x ∈ h, GoodAt row x) (hp : h.Pairwise (· < ·)) : L.call (n + 2) 28 [.lst (h.map iD), .lst (h.map iD), tupI row] = .ok (.bl true) := by
  rw [call_f_law_good]
  show Got _ _
  have hlen := len_tI row
  have hi : bnD (.isI .list) [.lst (h.map iD)] = .ok (.bl true) := rfl
  have hne : cmpD .NotEq (.lst (h.map iD)) (.lst (h.map iD)) = .ok (.bl false) := ne_self (nd_iD h) (by simp only [dep, dep_iD]; omega)
  obtain ⟨ρ', e, x3, x4, rfl⟩ := forGo_inv (tg := .one 3) (body := exB (L.w (n + 1)) B_f_law_good_0) (fun _ ρ => ∃ x3 x4, ρ = [some (.lst (h.map iD)), some (.lst (h.map iD)), some (tupI row), x3, x4]) (rngD 0 (h.length : Int)) 0 [some (.lst (h.map iD)), some (.lst (h.map iD)), some (tupI row), none, none] ⟨none, none, rfl⟩ (by
    rintro j d ρ hj ⟨x3, x4, rfl⟩
    have hjl : j < (rngD 0 (h.length : Int)).length := (List.getElem?_eq_some_iff.mp hj).1
    rw [rng_len] at hjl
    rw [rng_get (by omega)] at hj
    have hj := Option.some.inj hj
    subst hj
    rw [Int.zero_add]
    have hlt : j < h.length := by omega
    have hx := List.getElem?_eq_getElem hlt
    obtain ⟨g1, g2, ⟨v, gv, nv⟩, ⟨u, gu, nu⟩⟩ := hg _ (List.getElem_mem hlt)
    have hprev : 0 < j → ∃ y, h[j - 1]? = some y ∧ y < h[j] := fun h0 => ⟨h[j - 1]'(by omega), List.getElem?_eq_getElem (by omega), List.pairwise_iff_getElem.mp hp (j - 1) j (by omega) hlt (by omega)⟩
    generalize h[j] = x at *
    refine ⟨[some (.lst (h.map iD)), some (.lst (h.map iD)), some (tupI row), some (.int (j : Int)), x4], [some (.lst (h.map iD)), some (.lst (h.map iD)), some (tupI row), some (.int (j : Int)), some (iD x)], by simp [R.need], .inl ?_, some (.int (j : Int)), some (iD x), rfl⟩
    have i1 : ixD (.lst (h.map iD)) (.int (j : Int)) = .ok (.int (x : Int)) := ix_l (by omega) (by rw [Int.toNat_natCast, List.getElem?_map, hx]; rfl)
    have i2 : ixD (tupI row) (.int (x : Int)) = .ok (.int v) := ix_t (by omega) (by rw [Int.toNat_natCast, List.getElem?_map, gv]; rfl)
    have i3 : ixD (tupI row) (.int ((x : Int) - 1)) = .ok (.int u) := ix_t (by omega) (by rw [show ((x : Int) - 1).toNat = x - 1 by omega, List.getElem?_map, gu]; rfl)
    have hw := whole_ok n (x : Int)
    have i4 : 0 < j → ∃ y : Nat, ixD (.lst (h.map iD)) (.int ((j : Int) - 1)) = .ok (.int (y : Int)) ∧ y < x := fun h0 => by
      obtain ⟨y, q1, q2⟩ := hprev h0
      exact ⟨y, ix_l (by omega) (by rw [show ((j : Int) - 1).toNat = j - 1 by omega, List.getElem?_map, q1]; rfl), q2⟩
    generalize tupI row = RW at *
    generalize h.map iD = HL at *
    rw [B_f_law_good_0, ex_cons, ex_asg, ev_ix, ev_sl]
    simp only [slotS, slot0, R.ok_bind, ev_sl, i1, out_ok]
    rw [if_pos (by simp), thenX_nx]
    simp only [List.set_cons_succ, List.set_cons_zero]
    have c1 : evE (L.w (n + 1)) (.or (.not (.call false 18 (.cons (.sl 4) .nil))) (.or (.cmp .Lt (.sl 4) (.cI 1)) (.or (.cmp .GtE (.sl 4) (.bn .len (.cons (.sl 2) .nil))) (.or (.cmp .Eq (.ix (.sl 2) (.sl 4)) (.cI 0)) (.one (.cmp .Eq (.ix (.sl 2) (.bin .Sub (.sl 4) (.cI 1))) (.cI 0))))))) [some (.lst HL), some (.lst HL), some RW, some (.int (j : Int)), some (.int (x : Int))] = .ok (.bl false) := by
      simp only [ev_or, ev_not, ev_call, ev_cons, ev_nil, ev_sl, slotS, slot0, R.ok_bind, w_call, hw, need_p (ff (.bl true)), bnot_b, Bool.not_true, thenB_f, ev_cmp, ev_cI, lt_i, ev_bn, hlen, ge_i, ev_ix, i2, eq_i, ev_one, ev_bin, binD_sub, subD_i, i3]
      rw [decide_eq_false (show ¬ (x : Int) < 1 by omega), decide_eq_false (show ¬ (row.length : Int) ≤ (x : Int) by omega), decide_eq_false nv, decide_eq_false nu]
      rfl
    rw [ex_cons, ex_ifs, c1, out_ok, thenO_f, ex_nil, thenX_nx, ex_cons, ex_ifs, ev_and, ev_cmp, ev_sl]
    simp only [slotS, slot0, R.ok_bind, ev_cI, gt_i]
    by_cases h0 : 0 < j
    · obtain ⟨y, q1, q2⟩ := i4 h0
      rw [decide_eq_true (show (0 : Int) < (j : Int) by omega), thenB_t, ev_one, ev_cmp, ev_ix, ev_sl]
      simp only [slotS, slot0, R.ok_bind, ev_bin, ev_sl, ev_cI, binD_sub, subD_i, q1, ge_i]
      rw [decide_eq_false (show ¬ (x : Int) ≤ (y : Int) by omega)]
      rfl
    · rw [decide_eq_false (show ¬ (0 : Int) < (j : Int) by omega), thenB_f]
      rfl)
  have hr : evI (L.w (n + 1)) (.rng1 (.bn .len (.cons (.sl 0) .nil))) [some (.lst (h.map iD)), some (.lst (h.map iD)), some (tupI row), none, none] = .ok (rngD 0 (h.length : Int)) := by
    rw [ev_rng1, ev_bn, ev_cons, ev_sl, slot0, R.ok_bind, ev_nil, R.ok_bind, R.ok_bind, len_l, R.ok_bind, toI_i, List.length_map, rngR_ok (by omega)]
  rw [B_f_law_good]
  refine stepP (ρ1 := [some (.lst (h.map iD)), some (.lst (h.map iD)), some (tupI row), none, none]) (by
    generalize tupI row = RW at *
    rw [ex_ifs, ev_or, ev_not, ev_bn, ev_cons, ev_sl, slot0, R.ok_bind, ev_nil, R.ok_bind, R.ok_bind, hi, bnot_b, R.ok_bind, Bool.not_true, thenB_f, ev_one, ev_cmp, ev_sl, slot0, R.ok_bind, ev_sl, slotS, slot0, R.ok_bind, hne, asB_b, asB_b, out_ok, thenO_f, ex_nil]) ?_
  refine stepP (by rw [ex_for, hr, outL_ok, e]) ?_
  exact endP (d := .bl true) (by simp) rfl
theorem nd_ed (l : List Ed) : noDics (l.map eDD) = true := nds_of fun d hd => by
  obtain ⟨e, _, rfl⟩ := List.mem_map.mp hd
  exact pl_nd (show plD (.tup [.str e.a, .str e.t, tupI e.c, .str e.b]) = true by simp [plD, plDs, pl_ints])
theorem dep_ed : ∀ l : List Ed, deps (l.map eDD) ≤ 2
  | [] => Nat.zero_le _
  | e :: l => by
    have h := dep_ed l
    have h1 : dep (eDD e) ≤ 2 := by
      show dep (.tup [.str e.a, .str e.t, tupI e.c, .str e.b]) ≤ 2
      simp [dep, deps, deps_ints]
    show max (dep (eDD e)) (deps (l.map eDD)) ≤ 2
    omega
theorem law_true (ns : List Int) (h : ns.length ≤ 63) : L.call 14 29 [.scr ns] = .ok (.bl true) := by
  rw [call_f_law]
  show Got _ _
  obtain ⟨lets, T, eT, hT⟩ := tableB 7 ns
  obtain ⟨es, hes, hE, hm⟩ := eds_of hT
  obtain ⟨v1, e1, b1⟩ := drawB 11 ns 2 35027 21 (by omega) (by omega) (by omega)
  obtain ⟨v2, e2, b2⟩ := drawB 11 ns 2 35051 4 (by omega) (by omega) (by omega)
  obtain ⟨v3, e3, b3⟩ := drawB 11 ns 30 35053 20 (by omega) (by omega) (by omega)
  obtain ⟨m, hmm, em⟩ : ∃ m : Nat, m ≤ 32 ∧ (if v2 = 0 then 13 + v3 else v1) = (m : Int) := ⟨(if v2 = 0 then 13 + v3 else v1).toNat, by split <;> omega, by split <;> omega⟩
  obtain ⟨tx, et, lt, ht⟩ := ltext_ok hT 10 ns m (by omega)
  obtain ⟨l, s, ew, hR, hs, hl⟩ := written_of hT hes hE hm 9 tx (by omega) ht
  have hl1 : l.length ≤ 1000 := by omega
  have hd := due_ok 12 l hl1
  have hh := hinges_ok 12 l hl1
  have h00 := hinges_ok 12 [] (by decide)
  have hg_ := good_ok 11 (hg l 0) (l.flatMap Ed.c) (by have := hg_len l 0; omega) (hg_good hE hR hs) (hg_gt l 0 fun e he => (hE e (hR.mem e he)).c1).2
  have hne : cmpD .NotEq (.lst (l.map eDD)) (.lst (l.map eDD)) = .ok (.bl false) := ne_self (nd_ed l) (by
    have := dep_ed l
    show deps (l.map eDD) + 1 ≤ 64
    omega)
  have happ : mutD .app ((hg l 0).map iD) [.int 0] = .ok ((hg l 0 ++ [0]).map iD) := app_i (hg l 0) 0 (by have := hg_len l 0; omega)
  have h00 : L.call 13 0 [.lst []] = .ok (.lst []) := h00
  have heq : cmpD .Eq (.lst []) (.lst []) = .ok (.bl true) := eq_self rfl (by decide)
  generalize tabD T = TD at *
  generalize tupI (l.flatMap Ed.c) = RW at *
  generalize hL : l.map eDD = LL at *
  generalize (hg l 0).map iD = HG at *
  generalize (hg l 0 ++ [0]).map iD = HG0 at *
  rw [B_f_law]
  refine stepP (ρ1 := [some (.scr ns), some TD, none, none, none, none, none, none]) (by
    rw [ex_asg, ev_call, ev_cons, ev_sl, slot0, R.ok_bind, ev_nil, R.ok_bind, R.ok_bind, w_call, eT, R.ok_bind, need_p (ff _), out_ok]; rfl) ?_
  refine stepP (ρ1 := [some (.scr ns), some TD, some (.int v1), none, none, none, none, none]) (by simp [e1, R.need]) ?_
  refine stepP (ρ1 := [some (.scr ns), some TD, some (.int (m : Int)), none, none, none, none, none]) (by rw [← em]; by_cases q : v2 = 0 <;> simp [e2, e3, q, R.need]) ?_
  refine stepP (ρ1 := [some (.scr ns), some TD, some (.int (m : Int)), some RW, some (.lst LL), none, none, none]) (by
    rw [ex_unp, ev_call, ev_cons, ev_sl, slotS, slot0, R.ok_bind, ev_cons, ev_call, ev_cons, ev_sl, slot0, R.ok_bind, ev_cons, ev_sl, slotS, slot0, R.ok_bind, ev_cons, ev_sl, slotS, slotS, slot0, R.ok_bind, ev_nil, R.ok_bind, R.ok_bind, R.ok_bind, R.ok_bind, w_call, et, R.ok_bind, need_p (ff _), R.ok_bind, R.ok_bind, R.ok_bind, R.ok_bind, w_call, ew, R.ok_bind, need_p (ff _), out_ok]
    simp [R.need]) ?_
  refine stepP (ρ1 := [some (.scr ns), some TD, some (.int (m : Int)), some RW, some (.lst LL), some (.lst HG), none, none]) (by
    rw [ex_asg, ev_call, ev_cons, ev_sl, slotS, slotS, slotS, slotS, slot0, R.ok_bind, ev_nil, R.ok_bind, R.ok_bind, w_call, hd, R.ok_bind, need_p (ff _), out_ok]; rfl) ?_
  refine stepP (ρ1 := [some (.scr ns), some TD, some (.int (m : Int)), some RW, some (.lst LL), some (.lst HG), some (.lst LL), none]) (by simp) ?_
  refine stepP (ρ1 := [some (.scr ns), some TD, some (.int (m : Int)), some RW, some (.lst LL), some (.lst HG), some (.lst LL), some (.lst HG)]) (by
    rw [ex_asg, ev_call, ev_cons, ev_sl, slotS, slotS, slotS, slotS, slotS, slotS, slot0, R.ok_bind, ev_nil, R.ok_bind, R.ok_bind, w_call, hh, R.ok_bind, need_p (ff _), out_ok]; rfl) ?_
  refine stepP (ρ1 := [some (.scr ns), some TD, some (.int (m : Int)), some RW, some (.lst LL), some (.lst HG), some (.lst LL), some (.lst HG)]) (by
    simp only [ex_ifs, ev_or, ev_not, ev_call, ev_cons, ev_nil, ev_sl, slotS, slot0, R.ok_bind, w_call, hg_, need_p (show (true = true → sc (D.bl true) = true) from fun _ => rfl), need_p (show (True → sc (D.bl true) = true) from fun _ => rfl), bnot_b, Bool.not_true, thenB_f, ev_one, ev_cmp, hne, asB_b, out_ok, thenO_f, ex_nil]) ?_
  refine stepP (ρ1 := [some (.scr ns), some TD, some (.int (m : Int)), some RW, some (.lst LL), some (.lst HG), some (.lst LL), some (.lst HG0)]) (by
    rw [ex_mut]
    simp only [List.getElem?_cons_succ, List.getElem?_cons_zero, mutX_l, ev_cons, ev_nil, ev_cI, R.ok_bind, outL_ok, happ, mutO_ok]
    rfl) ?_
  exact endP (d := .bl true) (by
    simp only [ex_ret, ev_and, ev_call, ev_cons, ev_nil, ev_sl, slotS, slot0, R.ok_bind, w_call, hh, need_p (ff (.lst HG)), hg_, need_p (ff (.bl true)), thenB_t, ev_one, ev_cmp, ev_lst, lstR_0, h00, need_p (ff (.lst [])), heq, asB_b, out_ok]) rfl
end Cl
namespace Cl
open PySem PySem.Spec PyProof.Rows L2 PV
theorem chk_f_hinges_of : chkA L F_f_hinges_of N_f_hinges_of (defScope (top 4)).names (defBody (top 4)) = true := by decide +kernel
theorem sc_f_hinges_of : FnScope N_f_hinges_of P_f_hinges_of (defScope (top 4)) := ⟨rfl, rfl, rfl, by decide +kernel, rfl, by decide +kernel, by decide +kernel⟩
theorem chk_f_may_end : chkA L F_f_may_end N_f_may_end (defScope (top 8)).names (defBody (top 8)) = true := by decide +kernel
theorem sc_f_may_end : FnScope N_f_may_end P_f_may_end (defScope (top 8)) := ⟨rfl, rfl, rfl, by decide +kernel, rfl, by decide +kernel, by decide +kernel⟩
theorem chk_f_from_outside : chkA L F_f_from_outside N_f_from_outside (defScope (top 9)).names (defBody (top 9)) = true := by decide +kernel
theorem sc_f_from_outside : FnScope N_f_from_outside P_f_from_outside (defScope (top 9)) := ⟨rfl, rfl, rfl, by decide +kernel, rfl, by decide +kernel, by decide +kernel⟩
theorem chk_f_word_edges : chkA L F_f_word_edges N_f_word_edges (defScope (top 10)).names (defBody (top 10)) = true := by decide +kernel
theorem sc_f_word_edges : FnScope N_f_word_edges P_f_word_edges (defScope (top 10)) := ⟨rfl, rfl, rfl, by decide +kernel, rfl, by decide +kernel, by decide +kernel⟩
theorem chk_f_great_edges : chkA L F_f_great_edges N_f_great_edges (defScope (top 11)).names (defBody (top 11)) = true := by decide +kernel
theorem sc_f_great_edges : FnScope N_f_great_edges P_f_great_edges (defScope (top 11)) := ⟨rfl, rfl, rfl, by decide +kernel, rfl, by decide +kernel, by decide +kernel⟩
theorem chk_f_other_edges : chkA L F_f_other_edges N_f_other_edges (defScope (top 12)).names (defBody (top 12)) = true := by decide +kernel
theorem sc_f_other_edges : FnScope N_f_other_edges P_f_other_edges (defScope (top 12)) := ⟨rfl, rfl, rfl, by decide +kernel, rfl, by decide +kernel, by decide +kernel⟩
theorem chk_f_edges_of : chkA L F_f_edges_of N_f_edges_of (defScope (top 13)).names (defBody (top 13)) = true := by decide +kernel
theorem sc_f_edges_of : FnScope N_f_edges_of P_f_edges_of (defScope (top 13)) := ⟨rfl, rfl, rfl, by decide +kernel, rfl, by decide +kernel, by decide +kernel⟩
theorem chk_f_letters_of : chkA L F_f_letters_of N_f_letters_of (defScope (top 16)).names (defBody (top 16)) = true := by decide +kernel
theorem sc_f_letters_of : FnScope N_f_letters_of P_f_letters_of (defScope (top 16)) := ⟨rfl, rfl, rfl, by decide +kernel, rfl, by decide +kernel, by decide +kernel⟩
theorem chk_f_signs_of : chkA L F_f_signs_of N_f_signs_of (defScope (top 17)).names (defBody (top 17)) = true := by decide +kernel
theorem sc_f_signs_of : FnScope N_f_signs_of P_f_signs_of (defScope (top 17)) := ⟨rfl, rfl, rfl, by decide +kernel, rfl, by decide +kernel, by decide +kernel⟩
theorem chk_f_need_signs : chkA L F_f_need_signs N_f_need_signs (defScope (top 20)).names (defBody (top 20)) = true := by decide +kernel
theorem sc_f_need_signs : FnScope N_f_need_signs P_f_need_signs (defScope (top 20)) := ⟨rfl, rfl, rfl, by decide +kernel, rfl, by decide +kernel, by decide +kernel⟩
theorem chk_f_text_fits : chkA L F_f_text_fits N_f_text_fits (defScope (top 21)).names (defBody (top 21)) = true := by decide +kernel
theorem sc_f_text_fits : FnScope N_f_text_fits P_f_text_fits (defScope (top 21)) := ⟨rfl, rfl, rfl, by decide +kernel, rfl, by decide +kernel, by decide +kernel⟩
theorem chk_f_cheapened : chkA L F_f_cheapened N_f_cheapened (defScope (top 22)).names (defBody (top 22)) = true := by decide +kernel
theorem sc_f_cheapened : FnScope N_f_cheapened P_f_cheapened (defScope (top 22)) := ⟨rfl, rfl, rfl, by decide +kernel, rfl, by decide +kernel, by decide +kernel⟩
theorem chk_f_prices_at : chkA L F_f_prices_at N_f_prices_at (defScope (top 23)).names (defBody (top 23)) = true := by decide +kernel
theorem sc_f_prices_at : FnScope N_f_prices_at P_f_prices_at (defScope (top 23)) := ⟨rfl, rfl, rfl, by decide +kernel, rfl, by decide +kernel, by decide +kernel⟩
theorem chk_f_all_prices : chkA L F_f_all_prices N_f_all_prices (defScope (top 24)).names (defBody (top 24)) = true := by decide +kernel
theorem sc_f_all_prices : FnScope N_f_all_prices P_f_all_prices (defScope (top 24)) := ⟨rfl, rfl, rfl, by decide +kernel, rfl, by decide +kernel, by decide +kernel⟩
theorem chk_f_next_step : chkA L F_f_next_step N_f_next_step (defScope (top 25)).names (defBody (top 25)) = true := by decide +kernel
theorem sc_f_next_step : FnScope N_f_next_step P_f_next_step (defScope (top 25)) := ⟨rfl, rfl, rfl, by decide +kernel, rfl, by decide +kernel, by decide +kernel⟩
theorem chk_f_written : chkA L F_f_written N_f_written (defScope (top 26)).names (defBody (top 26)) = true := by decide +kernel
theorem sc_f_written : FnScope N_f_written P_f_written (defScope (top 26)) := ⟨rfl, rfl, rfl, by decide +kernel, rfl, by decide +kernel, by decide +kernel⟩
theorem chk_f_law_cell : chkA L F_f_law_cell N_f_law_cell (defScope (top 28)).names (defBody (top 28)) = true := by decide +kernel
theorem sc_f_law_cell : FnScope N_f_law_cell P_f_law_cell (defScope (top 28)) := ⟨rfl, rfl, rfl, by decide +kernel, rfl, by decide +kernel, by decide +kernel⟩
theorem chk_f_law_draw : chkA L F_f_law_draw N_f_law_draw (defScope (top 29)).names (defBody (top 29)) = true := by decide +kernel
theorem sc_f_law_draw : FnScope N_f_law_draw P_f_law_draw (defScope (top 29)) := ⟨rfl, rfl, rfl, by decide +kernel, rfl, by decide +kernel, by decide +kernel⟩
theorem chk_f_law_whole : chkA L F_f_law_whole N_f_law_whole (defScope (top 30)).names (defBody (top 30)) = true := by decide +kernel
theorem sc_f_law_whole : FnScope N_f_law_whole P_f_law_whole (defScope (top 30)) := ⟨rfl, rfl, rfl, by decide +kernel, rfl, by decide +kernel, by decide +kernel⟩
theorem chk_f_law_cells : chkA L F_f_law_cells N_f_law_cells (defScope (top 31)).names (defBody (top 31)) = true := by decide +kernel
theorem sc_f_law_cells : FnScope N_f_law_cells P_f_law_cells (defScope (top 31)) := ⟨rfl, rfl, rfl, by decide +kernel, rfl, by decide +kernel, by decide +kernel⟩
theorem chk_f_law_letters : chkA L F_f_law_letters N_f_law_letters (defScope (top 32)).names (defBody (top 32)) = true := by decide +kernel
theorem sc_f_law_letters : FnScope N_f_law_letters P_f_law_letters (defScope (top 32)) := ⟨rfl, rfl, rfl, by decide +kernel, rfl, by decide +kernel, by decide +kernel⟩
theorem chk_f_law_form : chkA L F_f_law_form N_f_law_form (defScope (top 33)).names (defBody (top 33)) = true := by decide +kernel
theorem sc_f_law_form : FnScope N_f_law_form P_f_law_form (defScope (top 33)) := ⟨rfl, rfl, rfl, by decide +kernel, rfl, by decide +kernel, by decide +kernel⟩
theorem chk_f_law_forms : chkA L F_f_law_forms N_f_law_forms (defScope (top 34)).names (defBody (top 34)) = true := by decide +kernel
theorem sc_f_law_forms : FnScope N_f_law_forms P_f_law_forms (defScope (top 34)) := ⟨rfl, rfl, rfl, by decide +kernel, rfl, by decide +kernel, by decide +kernel⟩
theorem chk_f_law_mark : chkA L F_f_law_mark N_f_law_mark (defScope (top 35)).names (defBody (top 35)) = true := by decide +kernel
theorem sc_f_law_mark : FnScope N_f_law_mark P_f_law_mark (defScope (top 35)) := ⟨rfl, rfl, rfl, by decide +kernel, rfl, by decide +kernel, by decide +kernel⟩
theorem chk_f_law_table : chkA L F_f_law_table N_f_law_table (defScope (top 36)).names (defBody (top 36)) = true := by decide +kernel
theorem sc_f_law_table : FnScope N_f_law_table P_f_law_table (defScope (top 36)) := ⟨rfl, rfl, rfl, by decide +kernel, rfl, by decide +kernel, by decide +kernel⟩
theorem chk_f_law_signs : chkA L F_f_law_signs N_f_law_signs (defScope (top 37)).names (defBody (top 37)) = true := by decide +kernel
theorem sc_f_law_signs : FnScope N_f_law_signs P_f_law_signs (defScope (top 37)) := ⟨rfl, rfl, rfl, by decide +kernel, rfl, by decide +kernel, by decide +kernel⟩
theorem chk_f_law_text : chkA L F_f_law_text N_f_law_text (defScope (top 38)).names (defBody (top 38)) = true := by decide +kernel
theorem sc_f_law_text : FnScope N_f_law_text P_f_law_text (defScope (top 38)) := ⟨rfl, rfl, rfl, by decide +kernel, rfl, by decide +kernel, by decide +kernel⟩
theorem chk_f_law_due : chkA L F_f_law_due N_f_law_due (defScope (top 39)).names (defBody (top 39)) = true := by decide +kernel
theorem sc_f_law_due : FnScope N_f_law_due P_f_law_due (defScope (top 39)) := ⟨rfl, rfl, rfl, by decide +kernel, rfl, by decide +kernel, by decide +kernel⟩
theorem chk_f_law_good : chkA L F_f_law_good N_f_law_good (defScope (top 40)).names (defBody (top 40)) = true := by decide +kernel
theorem sc_f_law_good : FnScope N_f_law_good P_f_law_good (defScope (top 40)) := ⟨rfl, rfl, rfl, by decide +kernel, rfl, by decide +kernel, by decide +kernel⟩
theorem chk_f_law : chkA L F_f_law N_f_law (defScope (top 41)).names (defBody (top 41)) = true := by decide +kernel
theorem sc_f_law : FnScope N_f_law P_f_law (defScope (top 41)) := ⟨rfl, rfl, rfl, by decide +kernel, rfl, by decide +kernel, by decide +kernel⟩
theorem chkL : chk L F_f_law N_f_law (defScope (top 41)).names (defBody (top 41)) = true := by decide +kernel
/-! ### the head -/
def d_f_hinges_of : He.DefD := ⟨("hinges_of", none), "hinges_of", "hinges_of", defArgs (top 4), defBody (top 4), defScope (top 4), [], []⟩
def d_f_may_end : He.DefD := ⟨("may_end", none), "may_end", "may_end", defArgs (top 8), defBody (top 8), defScope (top 8), [], []⟩
def d_f_from_outside : He.DefD := ⟨("from_outside", none), "from_outside", "from_outside", defArgs (top 9), defBody (top 9), defScope (top 9), [], []⟩
def d_f_word_edges : He.DefD := ⟨("word_edges", none), "word_edges", "word_edges", defArgs (top 10), defBody (top 10), defScope (top 10), [], []⟩
def d_f_great_edges : He.DefD := ⟨("great_edges", none), "great_edges", "great_edges", defArgs (top 11), defBody (top 11), defScope (top 11), [], []⟩
def d_f_other_edges : He.DefD := ⟨("other_edges", none), "other_edges", "other_edges", defArgs (top 12), defBody (top 12), defScope (top 12), [], []⟩
def d_f_edges_of : He.DefD := ⟨("edges_of", none), "edges_of", "edges_of", defArgs (top 13), defBody (top 13), defScope (top 13), [], []⟩
def d_f_letters_of : He.DefD := ⟨("letters_of", none), "letters_of", "letters_of", defArgs (top 16), defBody (top 16), defScope (top 16), [], []⟩
def d_f_signs_of : He.DefD := ⟨("signs_of", none), "signs_of", "signs_of", defArgs (top 17), defBody (top 17), defScope (top 17), [], []⟩
def d_f_need_signs : He.DefD := ⟨("need_signs", none), "need_signs", "need_signs", defArgs (top 20), defBody (top 20), defScope (top 20), [], []⟩
def d_f_text_fits : He.DefD := ⟨("text_fits", none), "text_fits", "text_fits", defArgs (top 21), defBody (top 21), defScope (top 21), [], []⟩
def d_f_cheapened : He.DefD := ⟨("cheapened", none), "cheapened", "cheapened", defArgs (top 22), defBody (top 22), defScope (top 22), [], []⟩
def d_f_prices_at : He.DefD := ⟨("prices_at", none), "prices_at", "prices_at", defArgs (top 23), defBody (top 23), defScope (top 23), [], []⟩
def d_f_all_prices : He.DefD := ⟨("all_prices", none), "all_prices", "all_prices", defArgs (top 24), defBody (top 24), defScope (top 24), [], []⟩
def d_f_next_step : He.DefD := ⟨("next_step", none), "next_step", "next_step", defArgs (top 25), defBody (top 25), defScope (top 25), [], []⟩
def d_f_written : He.DefD := ⟨("written", none), "written", "written", defArgs (top 26), defBody (top 26), defScope (top 26), [], []⟩
def d_f_law_cell : He.DefD := ⟨("_law_cell", none), "_law_cell", "_law_cell", defArgs (top 28), defBody (top 28), defScope (top 28), [], []⟩
def d_f_law_draw : He.DefD := ⟨("_law_draw", none), "_law_draw", "_law_draw", defArgs (top 29), defBody (top 29), defScope (top 29), [], []⟩
def d_f_law_whole : He.DefD := ⟨("_law_whole", none), "_law_whole", "_law_whole", defArgs (top 30), defBody (top 30), defScope (top 30), [], []⟩
def d_f_law_cells : He.DefD := ⟨("_law_cells", none), "_law_cells", "_law_cells", defArgs (top 31), defBody (top 31), defScope (top 31), [], []⟩
def d_f_law_letters : He.DefD := ⟨("_law_letters", none), "_law_letters", "_law_letters", defArgs (top 32), defBody (top 32), defScope (top 32), [], []⟩
def d_f_law_form : He.DefD := ⟨("_law_form", none), "_law_form", "_law_form", defArgs (top 33), defBody (top 33), defScope (top 33), [], []⟩
def d_f_law_forms : He.DefD := ⟨("_law_forms", none), "_law_forms", "_law_forms", defArgs (top 34), defBody (top 34), defScope (top 34), [], []⟩
def d_f_law_mark : He.DefD := ⟨("_law_mark", none), "_law_mark", "_law_mark", defArgs (top 35), defBody (top 35), defScope (top 35), [], []⟩
def d_f_law_table : He.DefD := ⟨("_law_table", none), "_law_table", "_law_table", defArgs (top 36), defBody (top 36), defScope (top 36), [], []⟩
def d_f_law_signs : He.DefD := ⟨("_law_signs", none), "_law_signs", "_law_signs", defArgs (top 37), defBody (top 37), defScope (top 37), [], []⟩
def d_f_law_text : He.DefD := ⟨("_law_text", none), "_law_text", "_law_text", defArgs (top 38), defBody (top 38), defScope (top 38), [], []⟩
def d_f_law_due : He.DefD := ⟨("_law_due", none), "_law_due", "_law_due", defArgs (top 39), defBody (top 39), defScope (top 39), [], []⟩
def d_f_law_good : He.DefD := ⟨("_law_good", none), "_law_good", "_law_good", defArgs (top 40), defBody (top 40), defScope (top 40), [], []⟩
def d_f_law : He.DefD := ⟨("law", none), "law", "law", defArgs (top 41), defBody (top 41), defScope (top 41), [], []⟩
def fn : List He.DefD := [d_f_hinges_of, d_f_may_end, d_f_from_outside, d_f_word_edges, d_f_great_edges, d_f_other_edges, d_f_edges_of, d_f_letters_of, d_f_signs_of, d_f_need_signs, d_f_text_fits, d_f_cheapened, d_f_prices_at, d_f_all_prices, d_f_next_step, d_f_written, d_f_law_cell, d_f_law_draw, d_f_law_whole, d_f_law_cells, d_f_law_letters, d_f_law_form, d_f_law_forms, d_f_law_mark, d_f_law_table, d_f_law_signs, d_f_law_text, d_f_law_due, d_f_law_good, d_f_law]
def fa0 : List He.Fa := [.glo "hinges_of", .glo "may_end", .glo "from_outside", .glo "word_edges", .glo "great_edges", .glo "other_edges", .glo "edges_of", .glo "letters_of", .glo "signs_of", .glo "need_signs", .glo "text_fits", .glo "cheapened", .glo "prices_at", .glo "all_prices", .glo "next_step", .glo "written", .glo "_law_cell", .glo "_law_draw", .glo "_law_whole", .glo "_law_cells", .glo "_law_letters", .glo "_law_form", .glo "_law_forms", .glo "_law_mark", .glo "_law_table", .glo "_law_signs", .glo "_law_text", .glo "_law_due", .glo "_law_good", .glo "law"]
def fa1 : List He.Fa := [.free "len", .free "tuple", .free "list", .free "str", .free "int", .free "all", .free "any", .free "min", .free "max", .free "abs", .free "isinstance", .free "range", .free "bool", .free "dict", .free "sorted", .free "set", .free "zip", .free "reversed"]
def fa : List He.Fa := fa0 ++ fa1
def names0 : List PySem.Str := ["DotError", "NoSign", "hinges_of", "ENDS", "ROADS", "may_end", "from_outside", "word_edges", "great_edges", "other_edges", "edges_of", "GREAT", "letters_of", "signs_of", "STATES", "need_signs", "text_fits", "cheapened", "prices_at", "all_prices", "next_step", "written", "_law_cell", "_law_draw", "_law_whole", "_law_cells", "_law_letters", "_law_form", "_law_forms", "_law_mark"]
def names1 : List PySem.Str := ["_law_table", "_law_signs", "_law_text", "_law_due", "_law_good"]
def names : List PySem.Str := names0 ++ names1
abbrev Rr : PySem.W.OpenRow := PySem.W.OpenLaw.row PySem.Challenge.rw_dots_k43_hinges
def cs : List (PySem.Str × D) := [("ENDS", .tup [.str [111, 117, 116], .str [100, 111, 110, 101], .str [110, 117, 109]]), ("ROADS", .tup [.tup [.str [119], .str [111, 117, 116], .str [100, 111, 110, 101]], .tup [.str [98], .str [111, 117, 116], .str [105, 110]], .tup [.str [109], .str [105, 110], .str [105, 110]], .tup [.str [101], .str [105, 110], .str [100, 111, 110, 101]]]), ("GREAT", .int 0), ("STATES", .tup [.str [111, 117, 116], .str [105, 110], .str [100, 111, 110, 101], .str [110, 117, 109], .str [108, 101, 116], .str [97, 108, 108]])]
abbrev hk : PySem.W.Hook := hookC 4 fa fn cs
def ob (s : PySem.W.SharedT) : He.AlD × Bool := obsCG 4 fa fn cs (HandSHeadRun.getT s)
theorem ob_eq (s : PySem.W.SharedT) : ob s = hk.obs s.abs := obsCG_eq (HandSHeadRun.getT_eq s)
theorem run (w : World) : HandSHeadRun.RunEq Rr (PySem.W.view Rr.prog [41]) hk ob 4000 names w := by
  intro os
  kernel_rfl
section
variable {P : Program} {w : World} {K : PySem.W.Frag} {h : Heap} {mg : Str → Option Value}
theorem defs_in (X : K.In h) (G : h.Ns mainGlobals mg) (c : He.SaysD fa fn K) : ∀ (f : Nat) (fn : Fn) (x : Str), L.fns[f]? = some fn → L.fnN[f]? = some x → ∃ a fd ps, DefIn L ⟨K, w⟩ mg fn x a fd ps := by
  intro f fn x h1 h2
  match f, h1, h2 with
  | 0, h1, h2 =>
    have e1 : some F_f_hinges_of = some fn := h1
    have e2 : some ("hinges_of" : Str) = some x := h2
    cases e1; cases e2
    obtain ⟨fd, F⟩ := c.def_ 0 (d := d_f_hinges_of) rfl
    exact ⟨_, fd, P_f_hinges_of, He.glo_ok X G (c.fact 0 (f := .glo "hinges_of") rfl), ⟨N_f_hinges_of, _, _, _, _, F, sc_f_hinges_of, chk_f_hinges_of⟩, FunD.bindsN F fun _ _ _ _ _ _ us hl => (match us, hl with | [_], _ => rfl), rfl⟩
  | 1, h1, h2 =>
    have e1 : some F_f_may_end = some fn := h1
    have e2 : some ("may_end" : Str) = some x := h2
    cases e1; cases e2
    obtain ⟨fd, F⟩ := c.def_ 1 (d := d_f_may_end) rfl
    exact ⟨_, fd, P_f_may_end, He.glo_ok X G (c.fact 1 (f := .glo "may_end") rfl), ⟨N_f_may_end, _, _, _, _, F, sc_f_may_end, chk_f_may_end⟩, FunD.bindsN F fun _ _ _ _ _ _ us hl => (match us, hl with | [_], _ => rfl), rfl⟩
  | 2, h1, h2 =>
    have e1 : some F_f_from_outside = some fn := h1
    have e2 : some ("from_outside" : Str) = some x := h2
    cases e1; cases e2
    obtain ⟨fd, F⟩ := c.def_ 2 (d := d_f_from_outside) rfl
    exact ⟨_, fd, P_f_from_outside, He.glo_ok X G (c.fact 2 (f := .glo "from_outside") rfl), ⟨N_f_from_outside, _, _, _, _, F, sc_f_from_outside, chk_f_from_outside⟩, FunD.bindsN F fun _ _ _ _ _ _ us hl => (match us, hl with | [_, _], _ => rfl), rfl⟩
  | 3, h1, h2 =>
    have e1 : some F_f_word_edges = some fn := h1
    have e2 : some ("word_edges" : Str) = some x := h2
    cases e1; cases e2
    obtain ⟨fd, F⟩ := c.def_ 3 (d := d_f_word_edges) rfl
    exact ⟨_, fd, P_f_word_edges, He.glo_ok X G (c.fact 3 (f := .glo "word_edges") rfl), ⟨N_f_word_edges, _, _, _, _, F, sc_f_word_edges, chk_f_word_edges⟩, FunD.bindsN F fun _ _ _ _ _ _ us hl => (match us, hl with | [_, _], _ => rfl), rfl⟩
  | 4, h1, h2 =>
    have e1 : some F_f_great_edges = some fn := h1
    have e2 : some ("great_edges" : Str) = some x := h2
    cases e1; cases e2
    obtain ⟨fd, F⟩ := c.def_ 4 (d := d_f_great_edges) rfl
    exact ⟨_, fd, P_f_great_edges, He.glo_ok X G (c.fact 4 (f := .glo "great_edges") rfl), ⟨N_f_great_edges, _, _, _, _, F, sc_f_great_edges, chk_f_great_edges⟩, FunD.bindsN F fun _ _ _ _ _ _ us hl => (match us, hl with | [_, _], _ => rfl), rfl⟩
  | 5, h1, h2 =>
    have e1 : some F_f_other_edges = some fn := h1
    have e2 : some ("other_edges" : Str) = some x := h2
    cases e1; cases e2
    obtain ⟨fd, F⟩ := c.def_ 5 (d := d_f_other_edges) rfl
    exact ⟨_, fd, P_f_other_edges, He.glo_ok X G (c.fact 5 (f := .glo "other_edges") rfl), ⟨N_f_other_edges, _, _, _, _, F, sc_f_other_edges, chk_f_other_edges⟩, FunD.bindsN F fun _ _ _ _ _ _ us hl => (match us, hl with | [_], _ => rfl), rfl⟩
  | 6, h1, h2 =>
    have e1 : some F_f_edges_of = some fn := h1
    have e2 : some ("edges_of" : Str) = some x := h2
    cases e1; cases e2
    obtain ⟨fd, F⟩ := c.def_ 6 (d := d_f_edges_of) rfl
    exact ⟨_, fd, P_f_edges_of, He.glo_ok X G (c.fact 6 (f := .glo "edges_of") rfl), ⟨N_f_edges_of, _, _, _, _, F, sc_f_edges_of, chk_f_edges_of⟩, FunD.bindsN F fun _ _ _ _ _ _ us hl => (match us, hl with | [_], _ => rfl), rfl⟩
  | 7, h1, h2 =>
    have e1 : some F_f_letters_of = some fn := h1
    have e2 : some ("letters_of" : Str) = some x := h2
    cases e1; cases e2
    obtain ⟨fd, F⟩ := c.def_ 7 (d := d_f_letters_of) rfl
    exact ⟨_, fd, P_f_letters_of, He.glo_ok X G (c.fact 7 (f := .glo "letters_of") rfl), ⟨N_f_letters_of, _, _, _, _, F, sc_f_letters_of, chk_f_letters_of⟩, FunD.bindsN F fun _ _ _ _ _ _ us hl => (match us, hl with | [_], _ => rfl), rfl⟩
  | 8, h1, h2 =>
    have e1 : some F_f_signs_of = some fn := h1
    have e2 : some ("signs_of" : Str) = some x := h2
    cases e1; cases e2
    obtain ⟨fd, F⟩ := c.def_ 8 (d := d_f_signs_of) rfl
    exact ⟨_, fd, P_f_signs_of, He.glo_ok X G (c.fact 8 (f := .glo "signs_of") rfl), ⟨N_f_signs_of, _, _, _, _, F, sc_f_signs_of, chk_f_signs_of⟩, FunD.bindsN F fun _ _ _ _ _ _ us hl => (match us, hl with | [_], _ => rfl), rfl⟩
  | 9, h1, h2 =>
    have e1 : some F_f_need_signs = some fn := h1
    have e2 : some ("need_signs" : Str) = some x := h2
    cases e1; cases e2
    obtain ⟨fd, F⟩ := c.def_ 9 (d := d_f_need_signs) rfl
    exact ⟨_, fd, P_f_need_signs, He.glo_ok X G (c.fact 9 (f := .glo "need_signs") rfl), ⟨N_f_need_signs, _, _, _, _, F, sc_f_need_signs, chk_f_need_signs⟩, FunD.bindsN F fun _ _ _ _ _ _ us hl => (match us, hl with | [_, _], _ => rfl), rfl⟩
  | 10, h1, h2 =>
    have e1 : some F_f_text_fits = some fn := h1
    have e2 : some ("text_fits" : Str) = some x := h2
    cases e1; cases e2
    obtain ⟨fd, F⟩ := c.def_ 10 (d := d_f_text_fits) rfl
    exact ⟨_, fd, P_f_text_fits, He.glo_ok X G (c.fact 10 (f := .glo "text_fits") rfl), ⟨N_f_text_fits, _, _, _, _, F, sc_f_text_fits, chk_f_text_fits⟩, FunD.bindsN F fun _ _ _ _ _ _ us hl => (match us, hl with | [_, _, _], _ => rfl), rfl⟩
  | 11, h1, h2 =>
    have e1 : some F_f_cheapened = some fn := h1
    have e2 : some ("cheapened" : Str) = some x := h2
    cases e1; cases e2
    obtain ⟨fd, F⟩ := c.def_ 11 (d := d_f_cheapened) rfl
    exact ⟨_, fd, P_f_cheapened, He.glo_ok X G (c.fact 11 (f := .glo "cheapened") rfl), ⟨N_f_cheapened, _, _, _, _, F, sc_f_cheapened, chk_f_cheapened⟩, FunD.bindsN F fun _ _ _ _ _ _ us hl => (match us, hl with | [_, _, _], _ => rfl), rfl⟩
  | 12, h1, h2 =>
    have e1 : some F_f_prices_at = some fn := h1
    have e2 : some ("prices_at" : Str) = some x := h2
    cases e1; cases e2
    obtain ⟨fd, F⟩ := c.def_ 12 (d := d_f_prices_at) rfl
    exact ⟨_, fd, P_f_prices_at, He.glo_ok X G (c.fact 12 (f := .glo "prices_at") rfl), ⟨N_f_prices_at, _, _, _, _, F, sc_f_prices_at, chk_f_prices_at⟩, FunD.bindsN F fun _ _ _ _ _ _ us hl => (match us, hl with | [_, _, _, _], _ => rfl), rfl⟩
  | 13, h1, h2 =>
    have e1 : some F_f_all_prices = some fn := h1
    have e2 : some ("all_prices" : Str) = some x := h2
    cases e1; cases e2
    obtain ⟨fd, F⟩ := c.def_ 13 (d := d_f_all_prices) rfl
    exact ⟨_, fd, P_f_all_prices, He.glo_ok X G (c.fact 13 (f := .glo "all_prices") rfl), ⟨N_f_all_prices, _, _, _, _, F, sc_f_all_prices, chk_f_all_prices⟩, FunD.bindsN F fun _ _ _ _ _ _ us hl => (match us, hl with | [_, _], _ => rfl), rfl⟩
  | 14, h1, h2 =>
    have e1 : some F_f_next_step = some fn := h1
    have e2 : some ("next_step" : Str) = some x := h2
    cases e1; cases e2
    obtain ⟨fd, F⟩ := c.def_ 14 (d := d_f_next_step) rfl
    exact ⟨_, fd, P_f_next_step, He.glo_ok X G (c.fact 14 (f := .glo "next_step") rfl), ⟨N_f_next_step, _, _, _, _, F, sc_f_next_step, chk_f_next_step⟩, FunD.bindsN F fun _ _ _ _ _ _ us hl => (match us, hl with | [_, _, _, _, _], _ => rfl), rfl⟩
  | 15, h1, h2 =>
    have e1 : some F_f_written = some fn := h1
    have e2 : some ("written" : Str) = some x := h2
    cases e1; cases e2
    obtain ⟨fd, F⟩ := c.def_ 15 (d := d_f_written) rfl
    exact ⟨_, fd, P_f_written, He.glo_ok X G (c.fact 15 (f := .glo "written") rfl), ⟨N_f_written, _, _, _, _, F, sc_f_written, chk_f_written⟩, FunD.bindsN F fun _ _ _ _ _ _ us hl => (match us, hl with | [_, _], _ => rfl), rfl⟩
  | 16, h1, h2 =>
    have e1 : some F_f_law_cell = some fn := h1
    have e2 : some ("_law_cell" : Str) = some x := h2
    cases e1; cases e2
    obtain ⟨fd, F⟩ := c.def_ 16 (d := d_f_law_cell) rfl
    exact ⟨_, fd, P_f_law_cell, He.glo_ok X G (c.fact 16 (f := .glo "_law_cell") rfl), ⟨N_f_law_cell, _, _, _, _, F, sc_f_law_cell, chk_f_law_cell⟩, FunD.bindsN F fun _ _ _ _ _ _ us hl => (match us, hl with | [_, _], _ => rfl), rfl⟩
  | 17, h1, h2 =>
    have e1 : some F_f_law_draw = some fn := h1
    have e2 : some ("_law_draw" : Str) = some x := h2
    cases e1; cases e2
    obtain ⟨fd, F⟩ := c.def_ 17 (d := d_f_law_draw) rfl
    exact ⟨_, fd, P_f_law_draw, He.glo_ok X G (c.fact 17 (f := .glo "_law_draw") rfl), ⟨N_f_law_draw, _, _, _, _, F, sc_f_law_draw, chk_f_law_draw⟩, FunD.bindsN F fun _ _ _ _ _ _ us hl => (match us, hl with | [_, _, _, _], _ => rfl), rfl⟩
  | 18, h1, h2 =>
    have e1 : some F_f_law_whole = some fn := h1
    have e2 : some ("_law_whole" : Str) = some x := h2
    cases e1; cases e2
    obtain ⟨fd, F⟩ := c.def_ 18 (d := d_f_law_whole) rfl
    exact ⟨_, fd, P_f_law_whole, He.glo_ok X G (c.fact 18 (f := .glo "_law_whole") rfl), ⟨N_f_law_whole, _, _, _, _, F, sc_f_law_whole, chk_f_law_whole⟩, FunD.bindsN F fun _ _ _ _ _ _ us hl => (match us, hl with | [_], _ => rfl), rfl⟩
  | 19, h1, h2 =>
    have e1 : some F_f_law_cells = some fn := h1
    have e2 : some ("_law_cells" : Str) = some x := h2
    cases e1; cases e2
    obtain ⟨fd, F⟩ := c.def_ 19 (d := d_f_law_cells) rfl
    exact ⟨_, fd, P_f_law_cells, He.glo_ok X G (c.fact 19 (f := .glo "_law_cells") rfl), ⟨N_f_law_cells, _, _, _, _, F, sc_f_law_cells, chk_f_law_cells⟩, FunD.bindsN F fun _ _ _ _ _ _ us hl => (match us, hl with | [_, _, _], _ => rfl), rfl⟩
  | 20, h1, h2 =>
    have e1 : some F_f_law_letters = some fn := h1
    have e2 : some ("_law_letters" : Str) = some x := h2
    cases e1; cases e2
    obtain ⟨fd, F⟩ := c.def_ 20 (d := d_f_law_letters) rfl
    exact ⟨_, fd, P_f_law_letters, He.glo_ok X G (c.fact 20 (f := .glo "_law_letters") rfl), ⟨N_f_law_letters, _, _, _, _, F, sc_f_law_letters, chk_f_law_letters⟩, FunD.bindsN F fun _ _ _ _ _ _ us hl => (match us, hl with | [_], _ => rfl), rfl⟩
  | 21, h1, h2 =>
    have e1 : some F_f_law_form = some fn := h1
    have e2 : some ("_law_form" : Str) = some x := h2
    cases e1; cases e2
    obtain ⟨fd, F⟩ := c.def_ 21 (d := d_f_law_form) rfl
    exact ⟨_, fd, P_f_law_form, He.glo_ok X G (c.fact 21 (f := .glo "_law_form") rfl), ⟨N_f_law_form, _, _, _, _, F, sc_f_law_form, chk_f_law_form⟩, FunD.bindsN F fun _ _ _ _ _ _ us hl => (match us, hl with | [_, _, _, _], _ => rfl), rfl⟩
  | 22, h1, h2 =>
    have e1 : some F_f_law_forms = some fn := h1
    have e2 : some ("_law_forms" : Str) = some x := h2
    cases e1; cases e2
    obtain ⟨fd, F⟩ := c.def_ 22 (d := d_f_law_forms) rfl
    exact ⟨_, fd, P_f_law_forms, He.glo_ok X G (c.fact 22 (f := .glo "_law_forms") rfl), ⟨N_f_law_forms, _, _, _, _, F, sc_f_law_forms, chk_f_law_forms⟩, FunD.bindsN F fun _ _ _ _ _ _ us hl => (match us, hl with | [_, _], _ => rfl), rfl⟩
  | 23, h1, h2 =>
    have e1 : some F_f_law_mark = some fn := h1
    have e2 : some ("_law_mark" : Str) = some x := h2
    cases e1; cases e2
    obtain ⟨fd, F⟩ := c.def_ 23 (d := d_f_law_mark) rfl
    exact ⟨_, fd, P_f_law_mark, He.glo_ok X G (c.fact 23 (f := .glo "_law_mark") rfl), ⟨N_f_law_mark, _, _, _, _, F, sc_f_law_mark, chk_f_law_mark⟩, FunD.bindsN F fun _ _ _ _ _ _ us hl => (match us, hl with | [_, _, _], _ => rfl), rfl⟩
  | 24, h1, h2 =>
    have e1 : some F_f_law_table = some fn := h1
    have e2 : some ("_law_table" : Str) = some x := h2
    cases e1; cases e2
    obtain ⟨fd, F⟩ := c.def_ 24 (d := d_f_law_table) rfl
    exact ⟨_, fd, P_f_law_table, He.glo_ok X G (c.fact 24 (f := .glo "_law_table") rfl), ⟨N_f_law_table, _, _, _, _, F, sc_f_law_table, chk_f_law_table⟩, FunD.bindsN F fun _ _ _ _ _ _ us hl => (match us, hl with | [_], _ => rfl), rfl⟩
  | 25, h1, h2 =>
    have e1 : some F_f_law_signs = some fn := h1
    have e2 : some ("_law_signs" : Str) = some x := h2
    cases e1; cases e2
    obtain ⟨fd, F⟩ := c.def_ 25 (d := d_f_law_signs) rfl
    exact ⟨_, fd, P_f_law_signs, He.glo_ok X G (c.fact 25 (f := .glo "_law_signs") rfl), ⟨N_f_law_signs, _, _, _, _, F, sc_f_law_signs, chk_f_law_signs⟩, FunD.bindsN F fun _ _ _ _ _ _ us hl => (match us, hl with | [_], _ => rfl), rfl⟩
  | 26, h1, h2 =>
    have e1 : some F_f_law_text = some fn := h1
    have e2 : some ("_law_text" : Str) = some x := h2
    cases e1; cases e2
    obtain ⟨fd, F⟩ := c.def_ 26 (d := d_f_law_text) rfl
    exact ⟨_, fd, P_f_law_text, He.glo_ok X G (c.fact 26 (f := .glo "_law_text") rfl), ⟨N_f_law_text, _, _, _, _, F, sc_f_law_text, chk_f_law_text⟩, FunD.bindsN F fun _ _ _ _ _ _ us hl => (match us, hl with | [_, _, _], _ => rfl), rfl⟩
  | 27, h1, h2 =>
    have e1 : some F_f_law_due = some fn := h1
    have e2 : some ("_law_due" : Str) = some x := h2
    cases e1; cases e2
    obtain ⟨fd, F⟩ := c.def_ 27 (d := d_f_law_due) rfl
    exact ⟨_, fd, P_f_law_due, He.glo_ok X G (c.fact 27 (f := .glo "_law_due") rfl), ⟨N_f_law_due, _, _, _, _, F, sc_f_law_due, chk_f_law_due⟩, FunD.bindsN F fun _ _ _ _ _ _ us hl => (match us, hl with | [_], _ => rfl), rfl⟩
  | 28, h1, h2 =>
    have e1 : some F_f_law_good = some fn := h1
    have e2 : some ("_law_good" : Str) = some x := h2
    cases e1; cases e2
    obtain ⟨fd, F⟩ := c.def_ 28 (d := d_f_law_good) rfl
    exact ⟨_, fd, P_f_law_good, He.glo_ok X G (c.fact 28 (f := .glo "_law_good") rfl), ⟨N_f_law_good, _, _, _, _, F, sc_f_law_good, chk_f_law_good⟩, FunD.bindsN F fun _ _ _ _ _ _ us hl => (match us, hl with | [_, _, _], _ => rfl), rfl⟩
  | 29, h1, h2 =>
    have e1 : some F_f_law = some fn := h1
    have e2 : some ("law" : Str) = some x := h2
    cases e1; cases e2
    obtain ⟨fd, F⟩ := c.def_ 29 (d := d_f_law) rfl
    exact ⟨_, fd, P_f_law, He.glo_ok X G (c.fact 29 (f := .glo "law") rfl), ⟨N_f_law, _, _, _, _, F, sc_f_law, chk_f_law⟩, FunD.bindsN F fun _ _ _ _ _ _ us hl => (match us, hl with | [_], _ => rfl), rfl⟩
  | f + 30, h1, _ =>
    have e1 : (none : Option Fn) = some fn := h1
    cases e1
theorem blts (X : K.In h) (G : h.Ns mainGlobals mg) (c : He.SaysD fa fn K) : ∀ x ∈ bltN, mg x = none := by
  intro x hx
  simp only [bltN, List.mem_cons, List.mem_nil_iff, or_false] at hx
  rcases hx with rfl | rfl | rfl | rfl | rfl | rfl | rfl | rfl | rfl | rfl | rfl | rfl | rfl | rfl | rfl | rfl | rfl | rfl
  · exact He.free_ok X G (c.fact 30 (f := .free "len") rfl)
  · exact He.free_ok X G (c.fact 31 (f := .free "tuple") rfl)
  · exact He.free_ok X G (c.fact 32 (f := .free "list") rfl)
  · exact He.free_ok X G (c.fact 33 (f := .free "str") rfl)
  · exact He.free_ok X G (c.fact 34 (f := .free "int") rfl)
  · exact He.free_ok X G (c.fact 35 (f := .free "all") rfl)
  · exact He.free_ok X G (c.fact 36 (f := .free "any") rfl)
  · exact He.free_ok X G (c.fact 37 (f := .free "min") rfl)
  · exact He.free_ok X G (c.fact 38 (f := .free "max") rfl)
  · exact He.free_ok X G (c.fact 39 (f := .free "abs") rfl)
  · exact He.free_ok X G (c.fact 40 (f := .free "isinstance") rfl)
  · exact He.free_ok X G (c.fact 41 (f := .free "range") rfl)
  · exact He.free_ok X G (c.fact 42 (f := .free "bool") rfl)
  · exact He.free_ok X G (c.fact 43 (f := .free "dict") rfl)
  · exact He.free_ok X G (c.fact 44 (f := .free "sorted") rfl)
  · exact He.free_ok X G (c.fact 45 (f := .free "set") rfl)
  · exact He.free_ok X G (c.fact 46 (f := .free "zip") rfl)
  · exact He.free_ok X G (c.fact 47 (f := .free "reversed") rfl)
theorem cons_in (X : K.In h) (G : h.Ns mainGlobals mg) (c : consB K cs = true) : ∀ (k : Nat) (x : Str), L.conN[k]? = some x → ∃ u v, mg x = some u ∧ RelV v u ∧ (∀ F, Rep ⟨K, w⟩ F v (L.conD k)) ∧ ∀ p, v = .ref p → ∃ o, K.lookup p = some o ∧ o.cls = .type "tuple" ∧ o.dict = none := by
  intro k x h1
  match k, h1 with
  | 0, h1 =>
    have e1 : some ("ENDS" : Str) = some x := h1
    cases e1
    exact consB_ok (wd := w) X G c (List.mem_of_getElem? (i := 0) rfl)
  | 1, h1 =>
    have e1 : some ("ROADS" : Str) = some x := h1
    cases e1
    exact consB_ok (wd := w) X G c (List.mem_of_getElem? (i := 1) rfl)
  | 2, h1 =>
    have e1 : some ("GREAT" : Str) = some x := h1
    cases e1
    exact consB_ok (wd := w) X G c (List.mem_of_getElem? (i := 2) rfl)
  | 3, h1 =>
    have e1 : some ("STATES" : Str) = some x := h1
    cases e1
    exact consB_ok (wd := w) X G c (List.mem_of_getElem? (i := 3) rfl)
  | k + 4, h1 =>
    have e1 : (none : Option Str) = some x := h1
    cases e1
end
end Cl

/-! ### the end -/
open PySem PySem.W PySem.Calls PyProof.Rows
theorem PySem.Challenge.cw_dots_k43_hinges_holds : PySem.Challenge.rw_dots_k43_hinges.Holds := by
  w_on; o_law
  refine HandSHeadRun.head_any (r := OpenLaw.row PySem.Challenge.rw_dots_k43_hinges) (q := view (OpenLaw.row PySem.Challenge.rw_dots_k43_hinges).prog [41]) (H := Cl.hk) (ob := Cl.ob) (M := 4000) (loose := Cl.names) (d := HandSHeadRun.topDef (OpenLaw.row PySem.Challenge.rw_dots_k43_hinges).prog 41) (kwd := []) Cl.ob_eq
    (by kernel_rfl) (fun s => by kernel_rfl) Cl.run (by kernel_rfl) (by kernel_rfl) (by kernel_rfl) (by rfl) (by first | assumption | decide +kernel) (by decide +kernel) ⟨rfl, rfl, rfl, rfl, rfl, by decide +kernel⟩ ?hw ?hc
  case hw => w_witness2
  case hc =>
    refine L2.walk_ofE (l := PySem.Challenge.rw_dots_k43_hinges) (n := 63) (k := 14) (x := "script") (CX := PV.CXL PySem.Challenge.rw_dots_k43_hinges.prog) rfl (by decide) (by kernel_rfl) ⟨rfl, by decide, by decide⟩ ?F (fun _ _ _ _ z => PV.cxl_no z)
    intro w mg fa h Y G hmg0
    obtain ⟨K, KX, c, cb⟩ := Y
    have hmg : mg ("law" : PySem.Str) = some (.ref fa) := by
      have e : (HandSHeadRun.topDef (OpenLaw.row PySem.Challenge.rw_dots_k43_hinges).prog 41).name = ("law" : PySem.Str) := by kernel_rfl
      rw [← e]
      exact hmg0
    obtain ⟨fd, F⟩ := c.def_ 29 (d := Cl.d_f_law) rfl
    have gl := He.glo_ok KX G (c.fact 29 (f := .glo "law") rfl)
    have e := hmg.symm.trans gl
    cases e
    have b := L2.FunD.bindsA (ps := ["script"]) F fun _ _ _ _ _ _ us hl => (match us, hl with | [_], _ => rfl)
    refine ⟨K, fd, PV.spF Cl.L (fun _ _ _ _ => False) ⟨K, w⟩ 14 29 0, KX, fun s v => b s [v] rfl, fun H a ns hl hO hS => ⟨H, [.scr ns], L2.Same.refl _, .cons (.scr ns hS) .nil, ?_⟩, fun base _ _ => ?_⟩
    · rw [Cl.law_true ns hl]
      intro v H' F' _ _ _ _ h
      obtain ⟨fp, r, _⟩ := h
      cases r.1
      rfl
    · exact PV.FnOk.cxTo (fun _ _ _ _ _ _ h => ⟨w, h⟩) (PV.body_ok (n := 13) F Cl.sc_f_law rfl rfl rfl Cl.chkL (PV.glob_all (Cl.defs_in KX G c) (Cl.cons_in KX G cb) (Cl.blts KX G c) 13))
